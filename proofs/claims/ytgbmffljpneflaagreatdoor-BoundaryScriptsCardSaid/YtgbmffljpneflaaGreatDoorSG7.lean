import Derived.Test.YtgbmffljpneflaaGreatDoorSG3
import Derived.Test.YtgbmffljpneflaaGreatDoorSG4
import Derived.Test.YtgbmffljpneflaaGreatDoorSG5
set_option linter.all false
namespace Go.Sx
open Go.Proofs
set_option maxRecDepth 10000
set_option maxHeartbeats 100000000
def g13:(∀N a0,OK (QgU N a0) 38 [.agg (e23 a0)] [] (λr=>.tup [.agg (e38 r.1),vi r.2]) λr=>[])/\(∀N a0 a1,OK (Qgk N a0 a1) 161 [.agg (e27 a0),vu a1] [] (λr=>vi r) λr=>[])/\(∀N a0 a1,OK (QcR N a0 a1) 289 [.agg (Jo a0),vi a1] [] (λr=>.tup [.agg (Jo r.1),vu r.2.1,.v (.bool r.2.2)]) λr=>[])/\(∀N a0,OK (QcT N a0) 97 [vu a0] [] (λr=>.tup [.agg (Xh9 r.1),vi r.2]) λr=>[])/\(∀N a0 a1 a2,OK (Qha N a0 a1 a2) 177 [.agg (e32 a0),vi a1,.v (.bool a2)] [] (λr=>.tup [.agg (e32 r.1),vi r.2]) λr=>[])/\(∀N a0 a1 a2 a3,OK (Qgo N a0 a1 a2 a3) 119 [.agg (e43 a0),vi a1,vu a2,vu a3] [] (λr=>.tup [.agg (e43 r.1),vu r.2]) λr=>[])/\(∀N a0,OK (Qez N a0) 310 [vu a0] [] (λr=>.tup [.agg (ZM r.1),.v (.bool r.2)]) λr=>[])/\(∀N a0 a1,OK (QeB N a0 a1) 201 [s76 a0,vu a1] [] (λr=>vi r) λr=>[])/\(∀N a0,OK (Qhd N a0) 50 [s24 a0] [] (λr=>s39 r) λr=>[])/\(∀N a0,OK (Qfu N a0) 362 [vu a0] [] (λr=>.tup [vu r.1,.v (.bool r.2)]) λr=>[])/\(∀N a0 a1 a2,OK (Qhv N a0 a1 a2) 273 [s39 a0,vu a1,vu a2] [] (λr=>.tup [s39 r.1,vi r.2]) λr=>[])/\(∀N a0 a1,OK (Qh4 N a0 a1) 11 [.agg (e38 a0),.agg (e38 a1)] [] (λr=>.v (.bool r)) λr=>[]):=by
 refine⟨λN _=>rk Tryz.f38 ?_,λN _ _=>rk Tryz.f161 ?_,λN _ _=>rk Tryz.f289 ?_,λN _=>rk Tryz.f97 ?_,λN _ _ _=>rk Tryz.f177 ?_,λN _ _ _ _=>rk Tryz.f119 ?_,λN _=>rk Tryz.f310 ?_,λN _ _=>rk Tryz.f201 ?_,λN _=>rk Tryz.f50 ?_,λN _=>rk Tryz.f362 ?_,λN _ _ _=>rk Tryz.f273 ?_,λN _ _=>rk Tryz.f11 ?_⟩<;>(rintro _ hw r hr C _ rfl hwf hf;simp only[Tryz.f38,Tryz.f161,Tryz.f289,Tryz.f97,Tryz.f177,Tryz.f119,Tryz.f310,Tryz.f201,Tryz.f50,Tryz.f362,Tryz.f273,Tryz.f11,Option.get!];(first|rw[QgU]at hr|rw[Qgk]at hr|rw[QcR]at hr|rw[QcT]at hr|rw[Qha]at hr|rw[Qgo]at hr|rw[Qez]at hr|rw[QeB]at hr|rw[Qhd]at hr|rw[Qfu]at hr|rw[Qhv]at hr|rw[Qh4]at hr);repeat' first
 |(refine El.el hr ?_;clear hr;intro hr)
 |(with_reducible intro h;refine Xv hr h ?_;clear hr;intro hr)
 |with_reducible intro _
 |simp only[go_sem,simprocAttr,hl3,Xw,Xk,KJ,Wj,Wl,Ww]
 |(with_reducible first|apply Xi|apply Xh|apply Xo|apply Xr|apply Xs)
 |((first|with_reducible refine Yn hr ag ?_ ?_|(with_reducible refine Yj hr ?_ ?_;rotate_left;intro p;rotate_right));(·simp only[go_sem,simprocAttr,Wj,Wl,Ww]);intro hp hn hd hr;(try have hl3:=hd _ e3);(try simp only[go_sem,simprocAttr]at hl3);(try have Xw:=hd _ e39);(try simp only[go_sem,simprocAttr]at Xw);(try have Xk:=hd _ XW);(try simp only[go_sem,simprocAttr]at Xk);(try have KJ:=hd _ XdL);(try simp only[go_sem,simprocAttr]at KJ))
 |(refine Xp ?_ ?_;.first|assumption|omega)
 |(with_reducible refine Xcp hr ?_ ?_;(·simp only[go_sem]);intro p hp hn hd hr;(try have hl3:=hd _ e3);(try simp only[go_sem,simprocAttr]at hl3);(try have Xw:=hd _ e39);(try simp only[go_sem,simprocAttr]at Xw);(try have Xk:=hd _ XW);(try simp only[go_sem,simprocAttr]at Xk);(try have KJ:=hd _ XdL);(try simp only[go_sem,simprocAttr]at KJ))
 |(with_reducible first|refine CallX.c ?_ _|refine OK.c hr hw ?_ (λy hr=>?_) _)
 |refine dc 289 4 hf 23 [(0,0,[]),(1,0,[]),(3,0,[]),(7,250360,[]),(15,250360,[]),(31,250360,[]),(7,249959,[]),(71,249959,[]),(7,249887,[]),(263,249887,[]),(967,249863,[]),(1991,249863,[]),(4095,249856,[]),(8191,249856,[]),(16383,249856,[]),(7,249855,[]),(65535,245760,[]),(7,16383,[]),(131079,16383,[]),(393223,16383,[]),(917511,16383,[]),(2097151,0,[]),(4194303,0,[])] ?_
 |refine dc 289 11 hf 78 [(0,16286,[]),(0,16257,[]),(2,16257,[]),(6,16257,[]),(14,16257,[]),(31,16256,[]),(63,16256,[]),(0,1151,[]),(128,1151,[]),(384,1151,[]),(0,1023,[]),(1920,127,[]),(3968,127,[]),(8064,127,[]),(16383,0,[]),(32767,0,[]),(65535,0,[])] ?_
 |refine dc 289 12 hf 94 [(0,8184,[]),(1,8184,[]),(3,8184,[]),(0,8183,[]),(0,2191,[]),(16,2191,[]),(48,2191,[]),(0,2175,[]),(240,2063,[]),(496,2063,[]),(1008,2063,[]),(0,2047,[]),(4080,15,[]),(8191,0,[]),(16383,0,[]),(32767,0,[[640,4160],[]])] ?_
 |refine dc 177 7 hf 34 [(0,2038,[[2176],[2816]]),(0,2033,[[],[2176,2816]]),(2,2033,[[],[2176,2816]]),(7,2032,[[2176],[2816]]),(0,399,[[],[2176]]),(16,399,[[],[2176]]),(48,399,[[],[2176]]),(0,383,[[],[2176]]),(0,255,[[],[2176]]),(496,15,[[],[2176]]),(1008,15,[[2816],[2176]]),(2047,0,[[2176],[]]),(4095,0,[]),(8191,0,[[192],[]])] ?_
 |refine dc 119 6 hf 37 [(0,500,[]),(1,500,[]),(0,499,[]),(7,496,[]),(0,207,[]),(16,207,[]),(0,63,[]),(64,63,[]),(240,15,[]),(511,0,[[896],[]]),(1023,0,[]),(2047,0,[[256],[]])] ?_
 |refine dc 119 10 hf 60 [(0,126,[]),(0,9,[[],[512]]),(2,9,[[],[512]]),(0,7,[[],[512]]),(14,1,[[],[512]]),(30,1,[[],[512]]),(62,1,[[],[512]]),(1,126,[[512],[]]),(255,0,[])] ?_
 |refine dc 310 4 hf 6 [(0,267386881,[[],[384]]),(1,267386881,[[],[384]]),(3,267386881,[[],[384]]),(7,267386881,[[],[384]]),(0,252641281,[[],[384]]),(16,252641281,[[],[384]]),(48,252641281,[[],[384]]),(112,252641281,[[],[384]]),(0,16711681,[[],[384]]),(256,16711681,[[],[384]]),(768,16711681,[[],[384]]),(1792,16711681,[[],[384]]),(4095,1,[[],[384]]),(0,536805376,[[384],[]]),(16383,0,[[384],[]])] ?_
 |(refine Xm hr ?_;rintro rfl;with_reducible refine XI ?_)
 |exact Ym hr
 |with_reducible refine Xlp (λhi=>?_) (λhi=>?_)
 |(exfalso;omega)
 |fail)
abbrev QqG:=g13.1
abbrev QpP:=g13.2.1
abbrev QoA:=g13.2.2.1
abbrev Qnz:=g13.2.2.2.1
abbrev QpQ:=g13.2.2.2.2.1
abbrev QpR:=g13.2.2.2.2.2.1
abbrev Qmt:=g13.2.2.2.2.2.2.1
abbrev Qmu:=g13.2.2.2.2.2.2.2.1
abbrev QpS:=g13.2.2.2.2.2.2.2.2.1
abbrev Qmv:=g13.2.2.2.2.2.2.2.2.2.1
abbrev QoB:=g13.2.2.2.2.2.2.2.2.2.2.1
abbrev QpT:=g13.2.2.2.2.2.2.2.2.2.2.2
attribute [instance] QqG QpP QoA Qnz QpQ QpR Qmt Qmu QpS Qmv QoB QpT
def g14:(∀N a0 a1,OK (Qbl N a0 a1) 169 [s39 a0,vu a1] [] (λr=>.tup [vu r.1,vi r.2]) λr=>[])/\(∀N a0 a1,OK (Qej N a0 a1) 86 [.agg (e32 a0),vu a1] [] (λr=>.tup [.agg (e32 r.1),vi r.2.1,vi r.2.2.1,vi r.2.2.2]) λr=>[])/\(∀N a0 a1 a2 a3,OK (Qgl N a0 a1 a2 a3) 290 [s39 a0,vu a1,vu a2,vi a3] [] (λr=>.tup [s39 r.1,vi r.2]) λr=>[])/\(∀N a0 a1 a2,OK (QeZ N a0 a1 a2) 170 [.agg (e32 a0),vi a1,vi a2] [] (λr=>.tup [vu r.1,vi r.2]) λr=>[])/\(∀N a0,OK (QfB N a0) 101 [.agg (e32 a0)] [] (λr=>.tup [.agg (e32 r.1),vi r.2]) λr=>[])/\(∀N a0 a1,OK (QfF N a0 a1) 266 [.agg (e23 a0),vi a1] [] (λr=>vi r) λr=>[])/\(∀N a0 a1,OK (Qgq N a0 a1) 272 [s39 a0,vu a1] [] (λr=>.tup [vu r.1,vi r.2]) λr=>[])/\(∀N a0,OK (Qbu N a0) 122 [s3 a0,.clo (.func 123) [] []] [] (λr=>.v (.bool r)) λr=>[])/\(∀N a0,OK (Qat N a0) 21 [.agg (e38 a0)] [] (λr=>.agg [vi r.h.c.W,vi r.h.c.p,s39 r.h.w,Ya r.h.p,vi r.h.s,vi r.h.b,s72 r.l.S,s78 r.l.x,s3 r.l.i,s74 r.g.e,s74 r.v.e,.fsl 76 2 (r.P.map e76),.fsl 39 1 (r.R.map e39)]) λr=>[])/\(∀N a0 a1,OK (QeQ N a0 a1) 356 [.agg (Xfu a0),vi a1] [] (λr=>.v (.bool r)) λr=>[])/\(∀N a0 a1,OK (QhZ N a0 a1) 230 [.agg (e32 a0),vi a1] [] (λr=>.agg (e32 r)) λr=>[]):=by
 refine⟨λN _ _=>rk Tryz.f169 ?_,λN _ _=>rk Tryz.f86 ?_,λN _ _ _ _=>rk Tryz.f290 ?_,λN _ _ _=>rk Tryz.f170 ?_,λN _=>rk Tryz.f101 ?_,λN _ _=>rk Tryz.f266 ?_,λN _ _=>rk Tryz.f272 ?_,λN _=>rk Tryz.f122 ?_,λN _=>rq Tryz.f21 [1088,1280] ?_,λN _ _=>rk Tryz.f356 ?_,λN _ _=>rk Tryz.f230 ?_⟩<;>(rintro _ hw r hr C _ rfl hwf hf;have hse:=@Zn _ hw;simp only[Tryz.f169,Tryz.f86,Tryz.f290,Tryz.f170,Tryz.f101,Tryz.f266,Tryz.f272,Tryz.f122,Tryz.f21,Tryz.f356,Tryz.f230,Option.get!];(first|rw[Qbl]at hr|rw[Qej]at hr|rw[Qgl]at hr|rw[QeZ]at hr|rw[QfB]at hr|rw[QfF]at hr|rw[Qgq]at hr|rw[Qbu]at hr|rw[Qat]at hr|rw[QeQ]at hr|rw[QhZ]at hr);repeat' first
 |(refine El.el hr ?_;clear hr;intro hr)
 |(with_reducible intro h;refine Xv hr h ?_;clear hr;intro hr)
 |with_reducible intro _
 |simp only[go_sem,simprocAttr,hl3,Xw,Yw,Kf,Xk,hse,Wj,Wl,Ww]
 |(with_reducible first|apply Xi|apply Xh|apply Xo|apply Xr|apply Xs)
 |((first|with_reducible refine Yn hr ag ?_ ?_|(with_reducible refine Yj hr ?_ ?_;rotate_left;intro p;rotate_right));(·simp only[go_sem,simprocAttr,hse,Wj,Wl,Ww]);intro hp hn hd hr;(try have hl3:=hd _ e3);(try simp only[go_sem,simprocAttr]at hl3);(try have Xw:=hd _ e39);(try simp only[go_sem,simprocAttr]at Xw);(try have Yw:=hd _ e72);(try simp only[go_sem,simprocAttr]at Yw);(try have Kf:=hd _ e78);(try simp only[go_sem,simprocAttr]at Kf);(try have Xk:=hd _ XW);(try simp only[go_sem,simprocAttr]at Xk))
 |(refine Xp ?_ ?_;.first|assumption|omega)
 |(refine CallX.inl (f:=363) 1600 (fn:=Tryz.f363) (rs:=[.tmp 4]) (nt:=45) 1000 ac (λx=>?_) _;simp only[Tryz.f363,Option.get!])
 |(refine CallX.inl (f:=365) 2400 (fn:=Tryz.f365) (rs:=[.tmp 2]) (nt:=9) 1000 ac (λx=>?_) _;simp only[Tryz.f365,Option.get!])
 |(with_reducible first|refine CallX.c ?_ _|refine OK.c hr hw ?_ (λy hr=>?_) _|refine IK hr hw ?_ (λy hr=>?_) _)
 |refine dc 86 6 hf 25 [(0,522238,[]),(0,522009,[]),(2,522009,[]),(0,521991,[]),(8,521991,[]),(30,521985,[]),(62,521985,[]),(126,521985,[]),(0,520447,[]),(256,520447,[]),(768,520447,[]),(2047,520192,[]),(0,53247,[]),(4096,53247,[]),(0,16383,[]),(16384,16383,[]),(61440,4095,[]),(126976,4095,[]),(258048,4095,[]),(524287,0,[])] ?_
 |refine dc 86 10 hf 9 [(0,527765581332480,[]),(1,527765581332480,[]),(3,527765581332480,[]),(0,30786325577729,[]),(8,30786325577729,[]),(24,30786325577729,[]),(56,30786325577729,[]),(7,527765581332480,[]),(255,0,[])] ?_
 |refine dc 21 1 hf 3 [(0,112344,[]),(1,112344,[]),(3,112344,[]),(0,112327,[]),(8,112327,[]),(31,112320,[]),(0,112191,[]),(64,112191,[]),(255,112128,[]),(0,111103,[]),(512,111103,[]),(2047,110592,[]),(0,102399,[]),(4096,102399,[]),(16383,98304,[[1088],[]]),(0,32767,[[],[1088]]),(32768,32767,[[],[1088]]),(131071,0,[[1280],[]]),(262143,0,[]),(524287,0,[[128],[]])] ?_
 |refine db 363 4 ⟨⟩ 30 [(0,0,[]),(1,0,[]),(3,0,[]),(7,0,[]),(15,12,[]),(31,12,[]),(15,3,[]),(79,3,[]),(255,0,[]),(511,0,[]),(1023,0,[]),(2047,2048,[]),(4095,2048,[]),(8191,2048,[]),(16383,2048,[]),(2047,1920,[]),(65535,0,[]),(131071,0,[]),(262143,0,[]),(524287,0,[])] rfl rfl ac ?_ _
 |refine dc 230 2 hf 7 [(0,7932,[]),(1,7932,[]),(0,7699,[]),(4,7699,[]),(0,7695,[]),(28,7683,[]),(60,7683,[]),(124,7683,[]),(255,7680,[]),(0,2559,[]),(512,2559,[]),(0,10239,[[],[128]]),(3584,8703,[[],[128]]),(2047,6144,[]),(10239,6144,[[128],[]]),(32767,0,[]),(65535,0,[[128],[]])] ?_
 |(refine Xm hr ?_;rintro rfl;with_reducible refine XI ?_)
 |exact Ym hr
 |(with_reducible apply Xcn;(·simp only[go_sem,simprocAttr,hl3,Xw,Yw,Kf,Xk,hse,Wj,Wl,Ww];repeat' first|rfl|refine⟨?_,?_⟩);(·simp only[ZI,snap,go_sem,simprocAttr,hl3,Xw,Yw,Kf,Xk,hse,Wj,Wl,Ww];repeat' first|rfl|refine⟨?_,?_⟩);(·simp only[go_sem,simprocAttr,hl3,Xw,Yw,Kf,Xk,hse,Wj,Wl,Ww];first|done|omega|(simp;omega)))
 |fail)
abbrev QpU:=g14.1
abbrev QqH:=g14.2.1
abbrev QpV:=g14.2.2.1
abbrev QqI:=g14.2.2.2.1
abbrev QqJ:=g14.2.2.2.2.1
abbrev QqK:=g14.2.2.2.2.2.1
abbrev QpW:=g14.2.2.2.2.2.2.1
abbrev Qg6:=g14.2.2.2.2.2.2.2.1
abbrev QpX:=g14.2.2.2.2.2.2.2.2.1
abbrev Qjs:=g14.2.2.2.2.2.2.2.2.2.1
abbrev QnA:=g14.2.2.2.2.2.2.2.2.2.2
attribute [instance] QpU QqH QpV QqI QqJ QqK QpW Qg6 QpX Qjs QnA
end Go.Sx
