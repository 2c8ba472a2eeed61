import Derived.Test.YtgbmffljpneflaaGreatDoorBG2
import Derived.Test.YtgbmffljpneflaaGreatDoorBG3
set_option linter.all false
namespace Go.Sx
open Go.Proofs
set_option maxRecDepth 10000
set_option maxHeartbeats 100000000
def g12:(∀N a0 a1,OK (Qdx N a0 a1) 8 [.agg (e45 a0),.ept 1000000 0 2 0 0] [.arr true 49 2 [[s3 a1.L,vi a1.at_]] 0] (λr=>.agg (e54 r.1)) λr=>[.arr true 49 2 [[s3 r.2.L,vi r.2.at_]] 0])/\(∀N a0,OK (Qc2 N a0) 247 [vu a0] [] (λr=>.tup [.agg (ZS r.1),.v (.bool r.2)]) λr=>[])/\(∀N a0 a1 a2,OK (Qc4 N a0 a1 a2) 172 [s39 a0,vu a1,vu a2] [] (λr=>.tup [s39 r.1,vi r.2]) λr=>[])/\(∀N a0 a1,OK (Qe5 N a0 a1) 240 [.agg (e27 a0),vi a1] [] (λr=>.tup [.agg (e27 r.1),vu r.2.1,.v (.bool r.2.2)]) λr=>[])/\(∀N a0 a1 a2,OK (Qc9 N a0 a1 a2) 99 [.agg (e35 a0),vi a1,vi a2] [] (λr=>.tup [.agg (e35 r.1),vi r.2]) λr=>[])/\(∀N a0 a1 a2,OK (Qfx N a0 a1 a2) 117 [.agg (e43 a0),vi a1,vu a2] [] (λr=>.tup [.agg (e43 r.1),vu r.2]) λr=>[])/\(∀N a0 a1,OK (QfM N a0 a1) 266 [.agg (e23 a0),vi a1] [] (λr=>vi r) λr=>[])/\(∀N a0 a1,OK (Qgv N a0 a1) 272 [s39 a0,vu a1] [] (λr=>.tup [vu r.1,vi r.2]) λr=>[])/\(∀N a0,OK (QbE N a0) 122 [s3 a0,.clo (.func 123) [] []] [] (λr=>.v (.bool r)) λr=>[])/\(∀N a0,OK (Qat N a0) 21 [.agg (e38 a0)] [] (λr=>.agg [vi r.h.c.W,vi r.h.c.p,s39 r.h.w,Yj r.h.p,vi r.h.s,vi r.h.b,s72 r.l.S,s78 r.l.x,s3 r.l.i,s74 r.g.e,s74 r.v.e,.fsl 76 2 (r.P.map e76),.fsl 39 1 (r.R.map e39)]) λr=>[])/\(∀N a0 a1,OK (QeY N a0 a1) 356 [.agg (XfX a0),vi a1] [] (λr=>.v (.bool r)) λr=>[])/\(∀N a0 a1,OK (Qh6 N a0 a1) 230 [.agg (e32 a0),vi a1] [] (λr=>.agg (e32 r)) λr=>[]):=by
 refine⟨λN _ _=>rk Tryz.f8 ?_,λN _=>rk Tryz.f247 ?_,λN _ _ _=>rk Tryz.f172 ?_,λN _ _=>rk Tryz.f240 ?_,λN _ _ _=>rk Tryz.f99 ?_,λN _ _ _=>rk Tryz.f117 ?_,λN _ _=>rk Tryz.f266 ?_,λN _ _=>rk Tryz.f272 ?_,λN _=>rk Tryz.f122 ?_,λN _=>rq Tryz.f21 [1088,1280] ?_,λN _ _=>rk Tryz.f356 ?_,λN _ _=>rk Tryz.f230 ?_⟩<;>(rintro _ hw r hr C _ rfl hwf hf;have hse:=@Za _ hw;simp only[Tryz.f8,Tryz.f247,Tryz.f172,Tryz.f240,Tryz.f99,Tryz.f117,Tryz.f266,Tryz.f272,Tryz.f122,Tryz.f21,Tryz.f356,Tryz.f230,Option.get!];(first|rw[Qdx]at hr|rw[Qc2]at hr|rw[Qc4]at hr|rw[Qe5]at hr|rw[Qc9]at hr|rw[Qfx]at hr|rw[QfM]at hr|rw[Qgv]at hr|rw[QbE]at hr|rw[Qat]at hr|rw[QeY]at hr|rw[Qh6]at hr);repeat' first
 |(refine El.el hr ?_;clear hr;intro hr)
 |(with_reducible intro h;refine Xx hr h ?_;clear hr;intro hr)
 |with_reducible intro _
 |simp only[go_sem,simprocAttr,hl3,Xz,Kj,Xk,hse,Wl,Wn,Wz]
 |(with_reducible first|apply Xi|apply Xh|apply Xs|apply Xq|apply Xr)
 |((first|with_reducible refine Yo hr ag ?_ ?_|(with_reducible refine Ye hr ?_ ?_;rotate_left;intro p;rotate_right));(·simp only[go_sem,simprocAttr,hse,Wl,Wn,Wz]);intro hp hn hd hr;(try have hl3:=hd _ e3);(try simp only[go_sem,simprocAttr]at hl3);(try have Xz:=hd _ e39);(try simp only[go_sem,simprocAttr]at Xz);(try have Kj:=hd _ e78);(try simp only[go_sem,simprocAttr]at Kj);(try have Xk:=hd _ XU);(try simp only[go_sem,simprocAttr]at Xk))
 |(refine Xt ?_ ?_;.first|assumption|omega)
 |(refine CallX.inl (f:=363) 1600 (fn:=Tryz.f363) (rs:=[.tmp 4]) (nt:=45) 1000 ac (λx=>?_) _;simp only[Tryz.f363,Option.get!])
 |(refine CallX.inl (f:=365) 2400 (fn:=Tryz.f365) (rs:=[.tmp 2]) (nt:=9) 1000 ac (λx=>?_) _;simp only[Tryz.f365,Option.get!])
 |(with_reducible first|refine CallX.c ?_ _|refine OK.c hr hw ?_ (λy hr=>?_) _|refine IK hr hw ?_ (λy hr=>?_) _)
 |refine dc 240 5 hf 27 [(0,0,[]),(1,0,[]),(3,0,[]),(7,196,[]),(15,196,[]),(7,195,[]),(63,192,[]),(127,192,[]),(255,192,[]),(7,63,[]),(519,63,[]),(2047,0,[]),(4095,0,[]),(8191,0,[]),(16383,3809280,[]),(32767,3809280,[]),(16383,3807232,[]),(131071,3801088,[]),(262143,3801088,[]),(524287,3801088,[]),(16383,3799040,[]),(2097151,3670016,[]),(16383,522240,[]),(4210687,522240,[]),(12599295,522240,[]),(33554431,0,[]),(67108863,0,[]),(134217727,0,[]),(268435455,67108864,[]),(268435455,33554432,[]),(1073741823,0,[]),(2147483647,0,[])] ?_
 |refine dc 240 11 hf 79 [(0,4046,[]),(0,4033,[]),(2,4033,[]),(6,4033,[]),(15,4032,[]),(31,4032,[]),(0,319,[]),(64,319,[]),(0,255,[]),(448,63,[]),(960,63,[]),(1984,63,[]),(4095,0,[]),(8191,0,[]),(16383,0,[])] ?_
 |refine dc 240 12 hf 93 [(0,2044,[]),(1,2044,[]),(0,2043,[]),(0,551,[]),(8,551,[]),(0,543,[]),(56,519,[]),(120,519,[]),(248,519,[]),(0,511,[]),(1016,7,[]),(2047,0,[]),(4095,0,[]),(8191,0,[[704,4672],[]])] ?_
 |refine dc 21 1 hf 3 [(0,112344,[]),(1,112344,[]),(3,112344,[]),(0,112327,[]),(8,112327,[]),(31,112320,[]),(0,112191,[]),(64,112191,[]),(255,112128,[]),(0,111103,[]),(512,111103,[]),(2047,110592,[]),(0,102399,[]),(4096,102399,[]),(16383,98304,[[1088],[]]),(0,32767,[[],[1088]]),(32768,32767,[[],[1088]]),(131071,0,[[1280],[]]),(262143,0,[]),(524287,0,[[128],[]])] ?_
 |refine db 363 4 ⟨⟩ 30 [(0,0,[]),(1,0,[]),(3,0,[]),(7,0,[]),(15,12,[]),(31,12,[]),(15,3,[]),(79,3,[]),(255,0,[]),(511,0,[]),(1023,0,[]),(2047,2048,[]),(4095,2048,[]),(8191,2048,[]),(16383,2048,[]),(2047,1920,[]),(65535,0,[]),(131071,0,[]),(262143,0,[]),(524287,0,[])] rfl rfl ac ?_ _
 |refine dc 230 2 hf 7 [(0,7932,[]),(1,7932,[]),(0,7699,[]),(4,7699,[]),(0,7695,[]),(28,7683,[]),(60,7683,[]),(124,7683,[]),(255,7680,[]),(0,2559,[]),(512,2559,[]),(0,10239,[[],[128]]),(3584,8703,[[],[128]]),(2047,6144,[]),(10239,6144,[[128],[]]),(32767,0,[]),(65535,0,[[128],[]])] ?_
 |(refine Xn hr ?_;rintro rfl;with_reducible refine XK ?_)
 |exact Yr hr
 |(with_reducible apply XcI;(·simp only[go_sem,simprocAttr,hl3,Xz,Kj,Xk,hse,Wl,Wn,Wz];repeat' first|rfl|refine⟨?_,?_⟩);(·simp only[ZO,snap,go_sem,simprocAttr,hl3,Xz,Kj,Xk,hse,Wl,Wn,Wz];repeat' first|rfl|refine⟨?_,?_⟩);(·simp only[go_sem,simprocAttr,hl3,Xz,Kj,Xk,hse,Wl,Wn,Wz];first|done|omega|(simp;omega)))
 |fail)
abbrev Qlv:=g12.1
abbrev QnH:=g12.2.1
abbrev QoK:=g12.2.2.1
abbrev QoL:=g12.2.2.2.1
abbrev QnI:=g12.2.2.2.2.1
abbrev QmA:=g12.2.2.2.2.2.1
abbrev QqT:=g12.2.2.2.2.2.2.1
abbrev QpY:=g12.2.2.2.2.2.2.2.1
abbrev Qhd:=g12.2.2.2.2.2.2.2.2.1
abbrev QpZ:=g12.2.2.2.2.2.2.2.2.2.1
abbrev QjE:=g12.2.2.2.2.2.2.2.2.2.2.1
abbrev QnJ:=g12.2.2.2.2.2.2.2.2.2.2.2
attribute [instance] Qlv QnH QoK QoL QnI QmA QqT QpY Qhd QpZ QjE QnJ
def Qhu{C:Cx}{N:Nat}{a0:WE}{a1:Int}{β:Type}{k:Bool → Option β}{r:β}{dst:Option Nat}{st:St}{K:St → Prop}{wb w1 w3:Nat}(hw:GW C.G)(hr:bnd (QdF N a0 a1) k=some r)(p wp w4 w5:Nat)(hp:p=51840\/p=210816)(E0:st.s 51584=some (w1,.arr false 39 1 (a0.h.w.map e39) 0))(E1:st.s p=some (wp,.arr false 114 4 (a0.h.p.map XU) 0))(E2:st.s 52288=some (w3,.arr false 39 1 (a0.o.map e39) 0))(E3:st.s 52480=some (w4,.arr false 3 1 (a0.t.map e3) 0))(E4:st.s 52672=some (w5,.arr false 39 1 (a0.q.map e39) 0))(E5:st.s 51264=some (wb,.arr true 385 16 [[vi a0.h.c.W,vi a0.h.c.p,.osl 51584 w1 1 0 a0.h.w.length,.osl p wp 4 0 a0.h.p.length,vi a0.h.s,vi a0.h.b,.osl 52288 w3 1 0 a0.o.length,.osl 52480 w4 1 0 a0.t.length,.osl 52672 w5 1 0 a0.q.length,vi a0.d,vi a0.r.j,vi a0.r.K,vi a0.r.F,vi a0.r.E,vi a0.r.f,vi a0.r.y]] 0))(hK:∀y,k y=some r→∀s' kk,FwH s' wb w1 p wp w3 w4 w5 a0→K (nxS st (XR dst st.n) (.v (.bool y)) (XiM st.s s') st.n kk))(t:Prf ([.ept 51264 wb 16 0 0,vi a1]:List D)):CallX Tryz.prog C 363 [.ept 51264 wb 16 0 0,vi a1] dst st K t:=by
 refine Xaq hr λy hr hk2=>?_;have E:=And.intro E0 (And.intro E1 (And.intro E2 (And.intro E3 (And.intro E4 E5))));clear E0 E1 E2 E3 E4 E5;have hse:=@Za _ hw;rcases hp with rfl|rfl<;>(refine CallX.inl (f:=363) 1600 (fn:=Tryz.f363) (rs:=[.tmp 4]) (nt:=45) 1000 ac (λx=>?_) _;simp only[Tryz.f363,Option.get!];rw[QdF]at hr;repeat' first
 |(refine El.el hr ?_;clear hr;intro hr)
 |(with_reducible intro h;refine Xx hr h ?_;clear hr;intro hr)
 |with_reducible intro _
 |simp only[go_sem,simprocAttr,E,Xk,hse]
 |(with_reducible first|apply Xi|apply Xh|apply Xs|apply Xq|apply Xr)
 |((first|with_reducible refine Yo hr ag ?_ ?_|(with_reducible refine Ye hr ?_ ?_;rotate_left;intro p;rotate_right));(·simp only[go_sem,simprocAttr,hse]);intro hp hn hd hr;(try have Xk:=hd _ XU);(try simp only[go_sem,simprocAttr]at Xk))
 |(refine Xt ?_ ?_;.first|assumption|omega)
 |(refine CallX.inl (f:=365) 2400 (fn:=Tryz.f365) (rs:=[.tmp 2]) (nt:=9) 1000 ac (λx=>?_) _;simp only[Tryz.f365,Option.get!])
 |(with_reducible first|refine CallX.c ?_ _|refine OK.c hr hw ?_ (λy hr=>?_) _|refine IK hr hw ?_ (λy hr=>?_) _)
 |refine dc 363 4 hf 30 [(0,0,[]),(1,0,[]),(3,0,[]),(7,0,[]),(15,12,[]),(31,12,[]),(15,3,[]),(79,3,[]),(255,0,[]),(511,0,[]),(1023,0,[]),(2047,2048,[]),(4095,2048,[]),(8191,2048,[]),(16383,2048,[]),(2047,1920,[]),(65535,0,[]),(131071,0,[]),(262143,0,[]),(524287,0,[])] ?_
 |refine db 363 4 ⟨⟩ 30 [(0,0,[]),(1,0,[]),(3,0,[]),(7,0,[]),(15,12,[]),(31,12,[]),(15,3,[]),(79,3,[]),(255,0,[]),(511,0,[]),(1023,0,[]),(2047,2048,[]),(4095,2048,[]),(8191,2048,[]),(16383,2048,[]),(2047,1920,[]),(65535,0,[]),(131071,0,[]),(262143,0,[]),(524287,0,[])] rfl rfl ac ?_ _
 |exact Yr hr
 |(with_reducible apply XcI;(·simp only[go_sem,simprocAttr,E,Xk,hse];repeat' first|rfl|refine⟨?_,?_⟩);(·simp only[ZO,snap,go_sem,simprocAttr,E,Xk,hse];repeat' first|rfl|refine⟨?_,?_⟩);(·simp only[go_sem,simprocAttr,E,Xk,hse];first|done|omega|(simp;omega)))
 |(refine Xn hr ?_;rintro rfl;(try simp only[go_sem,simprocAttr,E,Xk,hse]);refine Xqu (K:=λs=>K (nxS _ _ _ s _ _)) (λh=>hK _ hk2 _ _ h) ?_ ?_;refine⟨?_,?_,?_,?_,?_,?_⟩;(iterate 6 (·first|rfl|(simp only[go_sem,simprocAttr,E,Xk,hse];(repeat' first|rfl|refine⟨?_,?_⟩);done)));(intro i hi;first|rfl|exact hl0 i hi|(simp only[Y7,ZE,Kw,XB,Vu hi,hi,simprocAttr,if_true,if_false];first|done|exact hl0 i hi)|(simp only[Y7,ZE,Kw,XB,Vu hi,hi,simprocAttr,if_true,if_false])))
 |fail)
end Go.Sx
