import Derived.Test.YtmpbhfnjjaocoaaGreatAG3
import Derived.Test.YtmpbhfnjjaocoaaGreatAG4
import Derived.Test.YtmpbhfnjjaocoaaGreatAG5
set_option linter.all false
namespace Go.Sx
open Go.Proofs
set_option maxRecDepth 10000
set_option maxHeartbeats 100000000
def g14:(∀N a0,OK (Qcr N a0) 221 [vu a0] [] (λr=>.tup [.agg (e51 r.1),.v (.bool r.2)]) λr=>[])/\(∀N a0 a1 a2 a3,OK (QfE N a0 a1 a2 a3) 223 [s58 a0,vu a1,vu a2,vi a3] [] (λr=>.tup [s58 r.1,vi r.2]) λr=>[])/\(∀N a0 a1,OK (Qeo N a0 a1) 247 [.agg (e32 a0),vu a1] [] (λr=>.tup [.agg (e32 r.1),vi r.2.1,vi r.2.2.1,vi r.2.2.2]) λr=>[])/\(∀N a0 a1 a2,OK (QcB N a0 a1 a2) 259 [.agg (e35 a0),vi a1,vi a2] [] (λr=>.tup [.agg (e35 r.1),vi r.2]) λr=>[])/\(∀N a0 a1 a2,OK (QeM N a0 a1 a2) 187 [.agg (e65 a0),vi a1,vu a2] [] (λr=>.tup [.agg (e65 r.1),vu r.2]) λr=>[])/\(∀N a0 a1,OK (Qg0 N a0 a1) 15 [.agg (e38 a0),.ept 1000000 0 2 0 0] [.arr true 54 2 [[s3 a1.L,vi a1.at_]] 0] (λr=>.agg (e38 r.1)) λr=>[.arr true 54 2 [[s3 r.2.L,vi r.2.at_]] 0])/\(∀N a0,OK (Qgt N a0) 54 [s24 a0] [] (λr=>s58 r) λr=>[])/\(∀N a0,OK (Qd1 N a0) 210 [vu a0] [] (λr=>.tup [.agg (e51 r.1),.v (.bool r.2)]) λr=>[])/\(∀N a0 a1,OK (QfW N a0 a1) 193 [s84 a0,vu a1] [] (λr=>vi r) λr=>[])/\(∀N a0 a1,OK (Qeg N a0 a1) 128 [.agg (Xff a0),vi a1] [] (λr=>.v (.bool r)) λr=>[])/\(∀N a0,OK (Ql4 N a0) 38 [.agg (e23 a0)] [] (λr=>.tup [.agg (e38 r.1),vi r.2]) λr=>[]):=by
 refine⟨λN _=>rk Tryz.f221 [.cell 2 51,.tmp 3] [] 33 ?_,λN _ _ _ _=>rk Tryz.f223 [.tmp 8,.tmp 9] [] 28 ?_,λN _ _=>rk Tryz.f247 [.cell 4 32,.tmp 5,.tmp 6,.tmp 7] [] 79 ?_,λN _ _ _=>rk Tryz.f259 [.cell 6 35,.tmp 7] [] 26 ?_,λN _ _ _=>rk Tryz.f187 [.cell 6 65,.tmp 7] [] 46 ?_,λN _ _=>rk Tryz.f15 [.cell 4 38] [] 129 ?_,λN _=>rk Tryz.f54 [.tmp 2] [] 5 ?_,λN _=>rk Tryz.f210 [.cell 2 51,.tmp 3] [] 40 ?_,λN _ _=>rk Tryz.f193 [.tmp 4] [] 8 ?_,λN _ _=>rk Tryz.f128 [.tmp 4] [] 9 ?_,λN _=>rk Tryz.f38 [.cell 2 38,.tmp 3] [] 17 ?_⟩<;>(rintro _ hw r hr C _ rfl hwf hf;have hse:=@Zw _ hw;simp only[Tryz.f221,Tryz.f223,Tryz.f247,Tryz.f259,Tryz.f187,Tryz.f15,Tryz.f54,Tryz.f210,Tryz.f193,Tryz.f128,Tryz.f38,Option.get!];(first|rw[Qcr]at hr|rw[QfE]at hr|rw[Qeo]at hr|rw[QcB]at hr|rw[QeM]at hr|rw[Qg0]at hr|rw[Qgt]at hr|rw[Qd1]at hr|rw[QfW]at hr|rw[Qeg]at hr|rw[Ql4]at hr);repeat' first
 |(refine El.el hr ?_;clear hr;intro hr)
 |(with_reducible intro h;refine XB hr h ?_;clear hr;intro hr)
 |with_reducible intro _
 |simp only[go_sem,simprocAttr,Xu,XX,YE,Xj,hse]
 |(with_reducible first|apply Xi|apply Xh|apply Xs|apply Xq|apply Xr)
 |((first|with_reducible refine Yq hr ag ?_ ?_|(with_reducible refine Yn hr ?_ ?_;rotate_left;intro p;rotate_right));(·simp only[go_sem,simprocAttr,hse]);intro hp hn hd hr;(try have Xu:=hd _ e58);(try simp only[go_sem,simprocAttr]at Xu);(try have XX:=hd _ ZT);(try simp only[go_sem,simprocAttr]at XX);(try have YE:=hd _ K6);(try simp only[go_sem,simprocAttr]at YE);(try have Xj:=hd _ XS);(try simp only[go_sem,simprocAttr]at Xj))
 |(refine Xt ?_ ?_;.first|assumption|omega)
 |(with_reducible refine Xdy hr ?_ ?_;(·simp only[go_sem]);intro p hp hn hd hr;(try have Xu:=hd _ e58);(try simp only[go_sem,simprocAttr]at Xu);(try have XX:=hd _ ZT);(try simp only[go_sem,simprocAttr]at XX);(try have YE:=hd _ K6);(try simp only[go_sem,simprocAttr]at YE);(try have Xj:=hd _ XS);(try simp only[go_sem,simprocAttr]at Xj))
 |(refine CallX.inl (f:=207) 1600 (fn:=Tryz.f207) (rs:=[.tmp 4]) (nt:=45) 1000 ac (λx=>?_) _;simp only[Tryz.f207,Option.get!])
 |(refine CallX.inl (f:=209) 2400 (fn:=Tryz.f209) (rs:=[.tmp 2]) (nt:=9) 1000 ac (λx=>?_) _;simp only[Tryz.f209,Option.get!])
 |(with_reducible first|refine CallX.c ?_ _|refine OK.c hr hw ?_ (λy hr=>?_) _|refine IM hr hw ?_ (λy hr=>?_) _)
 |refine dc 247 6 hf 25 [(0,522238,[]),(0,522009,[]),(2,522009,[]),(0,521991,[]),(8,521991,[]),(30,521985,[]),(62,521985,[]),(126,521985,[]),(0,520447,[]),(256,520447,[]),(768,520447,[]),(2047,520192,[]),(0,53247,[]),(4096,53247,[]),(0,16383,[]),(16384,16383,[]),(61440,4095,[]),(126976,4095,[]),(258048,4095,[]),(524287,0,[])] ?_
 |refine dc 247 10 hf 9 [(0,527765581332480,[]),(1,527765581332480,[]),(3,527765581332480,[]),(0,30786325577729,[]),(8,30786325577729,[]),(24,30786325577729,[]),(56,30786325577729,[]),(7,527765581332480,[]),(255,0,[])] ?_
 |refine dc 15 11 hf 46 [(0,3640,[[],[1000000]]),(1,3640,[[],[1000000]]),(3,3640,[[],[1000000]]),(0,535,[]),(0,527,[]),(24,519,[[1000000],[]]),(63,3584,[[],[1000000]]),(127,3584,[[],[1000000]]),(255,3584,[[],[1000000]]),(0,511,[[],[1000000]]),(568,455,[[1000000],[]]),(1592,455,[]),(4095,0,[]),(8191,0,[]),(16383,0,[]),(32767,0,[[2496],[]])] ?_
 |refine dc 210 4 hf 6 [(0,267386881,[[],[384]]),(1,267386881,[[],[384]]),(3,267386881,[[],[384]]),(7,267386881,[[],[384]]),(0,252641281,[[],[384]]),(16,252641281,[[],[384]]),(48,252641281,[[],[384]]),(112,252641281,[[],[384]]),(0,16711681,[[],[384]]),(256,16711681,[[],[384]]),(768,16711681,[[],[384]]),(1792,16711681,[[],[384]]),(4095,1,[[],[384]]),(0,536805376,[[384],[]]),(16383,0,[[384],[]])] ?_
 |refine db 207 4 ⟨⟩ 30 [(0,0,[]),(1,0,[]),(3,0,[]),(7,0,[]),(15,12,[]),(31,12,[]),(15,3,[]),(79,3,[]),(255,0,[]),(511,0,[]),(1023,0,[]),(2047,2048,[]),(4095,2048,[]),(8191,2048,[]),(16383,2048,[]),(2047,1920,[]),(65535,0,[]),(131071,0,[]),(262143,0,[]),(524287,0,[])] rfl rfl ac ?_ _
 |(refine Xn hr ?_;rintro rfl;with_reducible refine XP ?_)
 |exact Yw hr
 |(with_reducible apply XbZ;(·simp only[go_sem,simprocAttr,Xu,XX,YE,Xj,hse];repeat' first|rfl|refine⟨?_,?_⟩);(·simp only[Zx,snap,go_sem,simprocAttr,Xu,XX,YE,Xj,hse];repeat' first|rfl|refine⟨?_,?_⟩);(·simp only[go_sem,simprocAttr,Xu,XX,YE,Xj,hse];first|done|omega|(simp;omega)))
 |fail)
abbrev Qmv:=g14.1
abbrev QoG:=g14.2.1
abbrev Qpx:=g14.2.2.1
abbrev Qmw:=g14.2.2.2.1
abbrev Qls:=g14.2.2.2.2.1
abbrev Qpy:=g14.2.2.2.2.2.1
abbrev QoH:=g14.2.2.2.2.2.2.1
abbrev Qlt:=g14.2.2.2.2.2.2.2.1
abbrev Qlu:=g14.2.2.2.2.2.2.2.2.1
abbrev QiQ:=g14.2.2.2.2.2.2.2.2.2.1
abbrev Qp3:=g14.2.2.2.2.2.2.2.2.2.2
attribute [instance] Qmv QoG Qpx Qmw Qls Qpy QoH Qlt Qlu QiQ Qp3
def g12:(∀N a0,OK (QeS N a0) 101 [.agg (e23 a0)] [] (λr=>.tup [.agg (e38 r.1),vi r.2]) λr=>[])/\(∀N a0 a1,OK (QfD N a0 a1) 140 [.agg (e27 a0),vu a1] [] (λr=>vi r) λr=>[])/\(∀N a0 a1 a2,OK (Qdx N a0 a1 a2) 225 [s58 a0,vu a1,vu a2] [] (λr=>.tup [s58 r.1,vi r.2]) λr=>[])/\(∀N a0,OK (QcA N a0) 257 [vu a0] [] (λr=>.tup [.agg (XoY r.1),vi r.2]) λr=>[])/\(∀N a0 a1 a2,OK (Qgs N a0 a1 a2) 271 [.agg (e32 a0),vi a1,.v (.bool a2)] [] (λr=>.tup [.agg (e32 r.1),vi r.2]) λr=>[])/\(∀N a0 a1 a2 a3,OK (QfI N a0 a1 a2 a3) 191 [.agg (e65 a0),vi a1,vu a2,vu a3] [] (λr=>.tup [.agg (e65 r.1),vu r.2]) λr=>[])/\(∀N a0,OK (QaG N a0) 115 [K5 a0,.clo (.func 116) [] []] [] (λr=>.v (.bool r)) λr=>[])/\(∀N a0 a1,OK (Qe1 N a0 a1) 88 [.agg (e23 a0),vi a1] [] (λr=>vi r) λr=>[])/\(∀N a0 a1,OK (Qgv N a0 a1) 216 [s58 a0,vu a1] [] (λr=>.tup [vu r.1,vi r.2]) λr=>[])/\(∀N a0,OK (QeP N a0) 206 [vu a0] [] (λr=>.tup [vu r.1,.v (.bool r.2)]) λr=>[])/\(∀N a0,OK (Qgz N a0) 21 [.agg (e38 a0)] [] (λr=>.agg [vi r.h.c.W,vi r.h.c.p,s58 r.h.w,Yg r.h.p,vi r.h.s,vi r.h.b,XbD r.l.S,XbE r.l.x,s3 r.l.i,K5 r.g.e,K5 r.v.e,.fsl 84 2 (r.P.map e84),.fsl 58 1 (r.R.map e58)]) λr=>[])/\(∀N a0 a1,OK (QcP N a0 a1) 10 [.ept 1000000 0 2 0 0,.agg (e23 a1)] [.arr true 54 2 [[s3 a0.L,vi a0.at_]] 0] (λr=>.agg (e51 r.1)) λr=>[.arr true 54 2 [[s3 r.2.L,vi r.2.at_]] 0]):=by
 refine⟨λN _=>rk Tryz.f101 [.cell 2 38,.tmp 3] [] 14 ?_,λN _ _=>rk Tryz.f140 [.tmp 4] [] 17 ?_,λN _ _ _=>rk Tryz.f225 [.tmp 6,.tmp 7] [] 15 ?_,λN _=>rk Tryz.f257 [.cell 2 338,.tmp 3] [] 35 ?_,λN _ _ _=>rk Tryz.f271 [.cell 6 32,.tmp 7] [] 48 ?_,λN _ _ _ _=>rk Tryz.f191 [.cell 8 65,.tmp 9] [] 77 ?_,λN _=>rk Tryz.f115 [.tmp 4] [] 9 ?_,λN _ _=>rk Tryz.f88 [.tmp 4] [] 33 ?_,λN _ _=>rk Tryz.f216 [.tmp 4,.tmp 5] [] 21 ?_,λN _=>rk Tryz.f206 [.tmp 2,.tmp 3] [] 23 ?_,λN _=>rk Tryz.f21 [.cell 2 38] [1088,1280] 22 ?_,λN _ _=>rk Tryz.f10 [.cell 4 51] [] 42 ?_⟩<;>(rintro _ hw r hr C _ rfl hwf hf;have hse:=@Zw _ hw;simp only[Tryz.f101,Tryz.f140,Tryz.f225,Tryz.f257,Tryz.f271,Tryz.f191,Tryz.f115,Tryz.f88,Tryz.f216,Tryz.f206,Tryz.f21,Tryz.f10,Option.get!];(first|rw[QeS]at hr|rw[QfD]at hr|rw[Qdx]at hr|rw[QcA]at hr|rw[Qgs]at hr|rw[QfI]at hr|rw[QaG]at hr|rw[Qe1]at hr|rw[Qgv]at hr|rw[QeP]at hr|rw[Qgz]at hr|rw[QcP]at hr);repeat' first
 |(refine El.el hr ?_;clear hr;intro hr)
 |(with_reducible intro h;refine XB hr h ?_;clear hr;intro hr)
 |with_reducible intro _
 |simp only[go_sem,simprocAttr,Xu,Kv,hse,Wj,Wl,WA]
 |(with_reducible first|apply Xi|apply Xh|apply Xs|apply Xq|apply Xr)
 |((first|with_reducible refine Yq hr ag ?_ ?_|(with_reducible refine Yn hr ?_ ?_;rotate_left;intro p;rotate_right));(·simp only[go_sem,simprocAttr,hse,Wj,Wl,WA]);intro hp hn hd hr;(try have Xu:=hd _ e58);(try simp only[go_sem,simprocAttr]at Xu);(try have Kv:=hd _ Xdx);(try simp only[go_sem,simprocAttr]at Kv))
 |(refine Xt ?_ ?_;.first|assumption|omega)
 |(with_reducible refine Xdy hr ?_ ?_;(·simp only[go_sem]);intro p hp hn hd hr;(try have Xu:=hd _ e58);(try simp only[go_sem,simprocAttr]at Xu);(try have Kv:=hd _ Xdx);(try simp only[go_sem,simprocAttr]at Kv))
 |(with_reducible first|refine CallX.c ?_ _|refine OK.c hr hw ?_ (λy hr=>?_) _|refine IM hr hw ?_ (λy hr=>?_) _)
 |refine dc 271 7 hf 34 [(0,2038,[[2176],[2816]]),(0,2033,[[],[2176,2816]]),(2,2033,[[],[2176,2816]]),(7,2032,[[2176],[2816]]),(0,399,[[],[2176]]),(16,399,[[],[2176]]),(48,399,[[],[2176]]),(0,383,[[],[2176]]),(0,255,[[],[2176]]),(496,15,[[],[2176]]),(1008,15,[[2816],[2176]]),(2047,0,[[2176],[]]),(4095,0,[]),(8191,0,[[192],[]])] ?_
 |refine dc 191 6 hf 37 [(0,500,[]),(1,500,[]),(0,499,[]),(7,496,[]),(0,207,[]),(16,207,[]),(0,63,[]),(64,63,[]),(240,15,[]),(511,0,[[896],[]]),(1023,0,[]),(2047,0,[[256],[]])] ?_
 |refine dc 191 10 hf 60 [(0,126,[]),(0,9,[[],[512]]),(2,9,[[],[512]]),(0,7,[[],[512]]),(14,1,[[],[512]]),(30,1,[[],[512]]),(62,1,[[],[512]]),(1,126,[[512],[]]),(255,0,[])] ?_
 |refine dc 21 1 hf 3 [(0,112344,[]),(1,112344,[]),(3,112344,[]),(0,112327,[]),(8,112327,[]),(31,112320,[]),(0,112191,[]),(64,112191,[]),(255,112128,[]),(0,111103,[]),(512,111103,[]),(2047,110592,[]),(0,102399,[]),(4096,102399,[]),(16383,98304,[[1088],[]]),(0,32767,[[],[1088]]),(32768,32767,[[],[1088]]),(131071,0,[[1280],[]]),(262143,0,[]),(524287,0,[[128],[]])] ?_
 |(refine Xn hr ?_;rintro rfl;with_reducible refine XP ?_)
 |exact Yw hr
 |with_reducible refine Xpa (λhi=>?_) (λhi=>?_)
 |(exfalso;omega)
 |fail)
abbrev Qpz:=g12.1
abbrev QoI:=g12.2.1
abbrev Qnw:=g12.2.2.1
abbrev Qmx:=g12.2.2.2.1
abbrev QoJ:=g12.2.2.2.2.1
abbrev QoK:=g12.2.2.2.2.2.1
abbrev QeJ:=g12.2.2.2.2.2.2.1
abbrev QpA:=g12.2.2.2.2.2.2.2.1
abbrev QoL:=g12.2.2.2.2.2.2.2.2.1
abbrev Qlv:=g12.2.2.2.2.2.2.2.2.2.1
abbrev QoM:=g12.2.2.2.2.2.2.2.2.2.2.1
abbrev Qi9:=g12.2.2.2.2.2.2.2.2.2.2.2
attribute [instance] Qpz QoI Qnw Qmx QoJ QoK QeJ QpA QoL Qlv QoM Qi9
end Go.Sx
