import Derived.Test.YtgbmffljpneflaaGreatDoorBG4
import Derived.Test.YtgbmffljpneflaaGreatDoorBG5
import Derived.Test.YtgbmffljpneflaaGreatDoorBG6
set_option linter.all false
namespace Go.Sx
open Go.Proofs
set_option maxRecDepth 10000
set_option maxHeartbeats 100000000
def Qij{C:Cx}{N:Nat}{a0:WE}{a1:Int}{β:Type}{k:Int × Int × Int × List Wv × List Int → Option β}{r:β}{dst:Option Nat}{st:St}{K:St → Prop}{wb w1 w3:Nat}(hw:GW C.G)(hr:bnd (QcJ N a0 a1) k=some r)(p wp w4 w5:Nat)(hp:p=51840\/p=210816)(E0:st.s 51584=some (w1,.arr false 39 1 (a0.h.w.map e39) 0))(E1:st.s p=some (wp,.arr false 114 4 (a0.h.p.map XU) 0))(E2:st.s 52288=some (w3,.arr false 39 1 (a0.o.map e39) 0))(E3:st.s 52480=some (w4,.arr false 3 1 (a0.t.map e3) 0))(E4:st.s 52672=some (w5,.arr false 39 1 (a0.q.map e39) 0))(E5:st.s 51264=some (wb,.arr true 385 16 [[vi a0.h.c.W,vi a0.h.c.p,.osl 51584 w1 1 0 a0.h.w.length,.osl p wp 4 0 a0.h.p.length,vi a0.h.s,vi a0.h.b,.osl 52288 w3 1 0 a0.o.length,.osl 52480 w4 1 0 a0.t.length,.osl 52672 w5 1 0 a0.q.length,vi a0.d,vi a0.r.j,vi a0.r.K,vi a0.r.F,vi a0.r.E,vi a0.r.f,vi a0.r.y]] 0))(hK:∀y,k y=some r→∀s' kk,∀p wp w4 w5,(p=51840\/p=210816)→FwH s' wb w1 p wp w3 w4 w5 (WE.mk (Wm.mk a0.h.c a0.h.w y.2.2.2.1 a0.h.s a0.h.b) a0.o y.2.2.2.2 a0.q a0.d a0.r)→K (nxS st (XR dst st.n) (.tup [vi y.1,vi y.2.1,vi y.2.2.1]) (XiM st.s s') st.n kk))(t:Prf ([.ept 51264 wb 16 0 0,vi a1]:List D)):CallX Tryz.prog C 366 [.ept 51264 wb 16 0 0,vi a1] dst st K t:=by
 refine Xaq hr λy hr hk2=>?_;have E:=And.intro E0 (And.intro E1 (And.intro E2 (And.intro E3 (And.intro E4 E5))));clear E0 E1 E2 E3 E4 E5;have hse:=@Za _ hw;rcases hp with rfl|rfl<;>(refine CallX.inl (f:=366) 3200 (fn:=Tryz.f366) (rs:=[.tmp 4,.tmp 5,.tmp 6]) (nt:=116) 1000 ac (λx=>?_) _;simp only[Tryz.f366,Option.get!];rw[QcJ]at hr;repeat' first
 |(refine El.el hr ?_;clear hr;intro hr)
 |(with_reducible intro h;refine Xx hr h ?_;clear hr;intro hr)
 |with_reducible intro _
 |simp only[go_sem,simprocAttr,E,hl3,Xk,hse]
 |(with_reducible first|apply Xi|apply Xh|apply Xs|apply Xq|apply Xr)
 |((first|with_reducible refine Yo hr ag ?_ ?_|(with_reducible refine Ye hr ?_ ?_;rotate_left;intro p;rotate_right));(·simp only[go_sem,simprocAttr,hse]);intro hp hn hd hr;(try have hl3:=hd _ e3);(try simp only[go_sem,simprocAttr]at hl3);(try have Xk:=hd _ XU);(try simp only[go_sem,simprocAttr]at Xk))
 |(refine Xt ?_ ?_;.first|assumption|omega)
 |(refine CallX.inl (f:=365) 2400 (fn:=Tryz.f365) (rs:=[.tmp 2]) (nt:=9) 1000 ac (λx=>?_) _;simp only[Tryz.f365,Option.get!])
 |(with_reducible first|refine CallX.c ?_ _|refine OK.c hr hw ?_ (λy hr=>?_) _|refine IK hr hw ?_ (λy hr=>?_) _)
 |refine dc 366 2 hf 21 [(0,0,[]),(1,0,[]),(3,0,[]),(7,48,[]),(15,48,[]),(31,48,[]),(63,48,[]),(7,15,[]),(135,15,[]),(511,0,[]),(1023,0,[]),(2047,0,[]),(4095,0,[]),(8191,0,[]),(16383,33128448,[]),(32767,33128448,[]),(65535,33128448,[]),(131071,33128448,[]),(16383,33060864,[]),(278527,33060864,[]),(1048575,33030144,[]),(2097151,33030144,[]),(16383,522240,[]),(4210687,522240,[]),(12599295,522240,[]),(29376511,522240,[]),(62930943,522240,[]),(130039807,522240,[]),(268435455,0,[]),(536870911,0,[])] ?_
 |refine dc 366 10 hf 11 [(0,8462480737302404222943232,[]),(1,8462480737302404222943232,[]),(3,8462480737302404222943232,[]),(7,8462480737302404222943232,[]),(15,8462480737302404222943232,[]),(0,8424701805439447061233664,[]),(0,2380072707366301187702784,[]),(64,2380072707366301187702784,[]),(255,0,[]),(511,0,[]),(1023,38685626227668133590597632,[]),(1023,19342813113834066795298817,[]),(2047,38685626227668133590597632,[]),(8191,0,[])] ?_
 |refine db 366 2 ⟨⟩ 21 [(0,0,[]),(1,0,[]),(3,0,[]),(7,48,[]),(15,48,[]),(31,48,[]),(63,48,[]),(7,15,[]),(135,15,[]),(511,0,[]),(1023,0,[]),(2047,0,[]),(4095,0,[]),(8191,0,[]),(16383,33128448,[]),(32767,33128448,[]),(65535,33128448,[]),(131071,33128448,[]),(16383,33060864,[]),(278527,33060864,[]),(1048575,33030144,[]),(2097151,33030144,[]),(16383,522240,[]),(4210687,522240,[]),(12599295,522240,[]),(29376511,522240,[]),(62930943,522240,[]),(130039807,522240,[]),(268435455,0,[]),(536870911,0,[])] rfl rfl ac ?_ _
 |refine db 366 10 ⟨⟩ 11 [(0,8462480737302404222943232,[]),(1,8462480737302404222943232,[]),(3,8462480737302404222943232,[]),(7,8462480737302404222943232,[]),(15,8462480737302404222943232,[]),(0,8424701805439447061233664,[]),(0,2380072707366301187702784,[]),(64,2380072707366301187702784,[]),(255,0,[[51840,210816],[]]),(511,0,[]),(1023,38685626227668133590597632,[]),(1023,19342813113834066795298817,[]),(2047,38685626227668133590597632,[]),(8191,0,[])] rfl rfl ac ?_ _
 |exact Yr hr
 |(with_reducible apply XcI;(·simp only[go_sem,simprocAttr,E,hl3,Xk,hse];repeat' first|rfl|refine⟨?_,?_⟩);(·simp only[ZO,snap,go_sem,simprocAttr,E,hl3,Xk,hse];repeat' first|rfl|refine⟨?_,?_⟩);(·simp only[go_sem,simprocAttr,E,hl3,Xk,hse];first|done|omega|(simp;omega)))
 |(refine Xn hr ?_;rintro rfl;(try simp only[go_sem,simprocAttr,E,hl3,Xk,hse]);first|(apply XfY (K:=λs=>K (nxS _ _ _ s _ _)) (λp wp w4 w5 hp h=>hK _ hk2 _ _ p wp w4 w5 hp h) 51840 (hp:=.inl rfl);refine⟨?_,?_,?_,?_,?_,?_⟩;(iterate 6 (·first|rfl|(simp only[go_sem,simprocAttr,E,hl3,Xk,hse];(repeat' first|rfl|refine⟨?_,?_⟩);done)));(intro i hi;first|rfl|exact hl0 i hi|(simp only[Y7,ZE,Kw,XB,Vu hi,hi,simprocAttr,if_true,if_false];first|done|exact hl0 i hi)|(simp only[Y7,ZE,Kw,XB,Vu hi,hi,simprocAttr,if_true,if_false])))|(apply XfY (K:=λs=>K (nxS _ _ _ s _ _)) (λp wp w4 w5 hp h=>hK _ hk2 _ _ p wp w4 w5 hp h) 210816 (hp:=.inr rfl);refine⟨?_,?_,?_,?_,?_,?_⟩;(iterate 6 (·first|rfl|(simp only[go_sem,simprocAttr,E,hl3,Xk,hse];(repeat' first|rfl|refine⟨?_,?_⟩);done)));(intro i hi;first|rfl|exact hl0 i hi|(simp only[Y7,ZE,Kw,XB,Vu hi,hi,simprocAttr,if_true,if_false];first|done|exact hl0 i hi)|(simp only[Y7,ZE,Kw,XB,Vu hi,hi,simprocAttr,if_true,if_false]))))
 |fail)
def g17:(∀N a0,OK (Qcl N a0) 13 [.ept 1000000 0 2 0 0] [.arr true 49 2 [[s3 a0.L,vi a0.at_]] 0] (λr=>.agg (e45 r.1)) λr=>[.arr true 49 2 [[s3 r.2.L,vi r.2.at_]] 0])/\(∀N a0 a1,OK (QcA N a0 a1) 85 [.agg (e23 a0),.agg (ZS a1)] [] (λr=>.v (.bool r)) λr=>[])/\(∀N a0 a1,OK (Qem N a0 a1) 185 [.agg (JC a0),vu a1] [] (λr=>vu r) λr=>[])/\(∀N a0 a1,OK (Qa7 N a0 a1) 88 [.agg (e38 a0),vu a1] [] (λr=>.tup [.agg (e38 r.1),vu r.2.1,vi r.2.2]) λr=>[])/\(∀N a0 a1,OK (Qe0 N a0 a1) 100 [.agg (e32 a0),vi a1] [] (λr=>.tup [.agg (e32 r.1),vi r.2]) λr=>[])/\(∀N a0 a1,OK (QdJ N a0 a1) 254 [.agg (e32 a0),vu a1] [] (λr=>vi r) λr=>[])/\(∀N a0 a1,OK (Qeg N a0 a1) 323 [.agg (XhD a0),.agg (e23 a1)] [] (λr=>.v (.bool r)) λr=>[])/\(∀N a0,OK (QdM N a0) 46 [.agg (e35 a0)] [] (λr=>.v (.bool r)) λr=>[])/\(∀N a0 a1,OK (Qe2 N a0 a1) 215 [.agg (e23 a0),.agg (ZS a1)] [] (λr=>.v (.bool r)) λr=>[])/\(∀N a0,OK (Qce N a0) 369 [vu a0] [] (λr=>.tup [vu r.1,vi r.2]) λr=>[])/\(∀N a0,OK (Qbe N a0) 221 [.agg (XiL a0)] [] (λr=>.tup [vu r.1,vi r.2]) λr=>[]):=by
 refine⟨λN _=>rk Tryz.f13 ?_,λN _ _=>rk Tryz.f85 ?_,λN _ _=>rk Tryz.f185 ?_,λN _ _=>rk Tryz.f88 ?_,λN _ _=>rk Tryz.f100 ?_,λN _ _=>rk Tryz.f254 ?_,λN _ _=>rk Tryz.f323 ?_,λN _=>rk Tryz.f46 ?_,λN _ _=>rk Tryz.f215 ?_,λN _=>rk Tryz.f369 ?_,λN _=>rk Tryz.f221 ?_⟩<;>(rintro _ hw r hr C _ rfl hwf hf;have hgw:=hw.1;have hse:=@Za _ hw;simp only[Tryz.f13,Tryz.f85,Tryz.f185,Tryz.f88,Tryz.f100,Tryz.f254,Tryz.f323,Tryz.f46,Tryz.f215,Tryz.f369,Tryz.f221,Option.get!];(first|rw[Qcl]at hr|rw[QcA]at hr|rw[Qem]at hr|rw[Qa7]at hr|rw[Qe0]at hr|rw[QdJ]at hr|rw[Qeg]at hr|rw[QdM]at hr|rw[Qe2]at hr|rw[Qce]at hr|rw[Qbe]at hr);repeat' first
 |(refine El.el hr ?_;clear hr;intro hr)
 |(with_reducible intro h;refine Xx hr h ?_;clear hr;intro hr)
 |with_reducible intro _
 |simp only[go_sem,simprocAttr,XtK,hgw,hse]
 |(with_reducible first|apply Xi|apply Xh|apply Xs|apply Xq|apply Xr)
 |(refine Xt ?_ ?_;.first|assumption|omega)
 |(with_reducible first|refine CallX.c ?_ _|refine OK.c hr hw ?_ (λy hr=>?_) _|refine IK hr hw ?_ (λy hr=>?_) _)
 |with_reducible refine OH 6 ?_ _
 |with_reducible refine LoopU.s 1000 ?_ _
 |refine dc 85 1 hf 13 [(0,0,[]),(1,0,[]),(3,0,[]),(7,0,[]),(15,0,[]),(31,0,[]),(63,0,[]),(127,0,[]),(255,6,[]),(255,1,[]),(767,1,[]),(2047,0,[]),(4095,0,[]),(8191,0,[]),(16383,0,[])] ?_
 |refine dc 215 1 hf 13 [(0,0,[]),(1,0,[]),(3,0,[]),(7,0,[]),(15,0,[]),(31,0,[]),(63,0,[]),(127,0,[]),(255,6,[]),(255,1,[]),(767,1,[]),(2047,0,[]),(4095,0,[]),(8191,0,[]),(16383,0,[])] ?_
 |(refine Xn hr ?_;rintro rfl;with_reducible refine XK ?_)
 |exact Yr hr
 |fail)
abbrev QkJ:=g17.1
abbrev Qqf:=g17.2.1
abbrev QoR:=g17.2.2.1
abbrev QoS:=g17.2.2.2.1
abbrev Qqg:=g17.2.2.2.2.1
abbrev QoT:=g17.2.2.2.2.2.1
abbrev Qj8:=g17.2.2.2.2.2.2.1
abbrev QoU:=g17.2.2.2.2.2.2.2.1
abbrev Qqh:=g17.2.2.2.2.2.2.2.2.1
abbrev QlC:=g17.2.2.2.2.2.2.2.2.2.1
abbrev QmM:=g17.2.2.2.2.2.2.2.2.2.2
attribute [instance] QkJ Qqf QoR QoS Qqg QoT Qj8 QoU Qqh QlC QmM
def g18:(∀N a0 a1 a2,OK (QhW N a0 a1 a2) 359 [.agg (e27 a0),vi a1,vi a2] [] (λr=>vu r) λr=>[])/\(∀N a0 a1,OK (Qe4 N a0 a1) 252 [.agg (JC a0),vu a1] [] (λr=>.agg (ZS r)) λr=>[])/\(∀N a0 a1 a2 a3 a4,OK (Qeo N a0 a1 a2 a3 a4) 286 [.agg (e23 a0),Yj a1,vi a2,vi a3,vi a4] [] (λr=>.tup [Yj r.1,vi r.2]) λr=>[])/\(∀N a0 a1 a2,OK (Qev N a0 a1 a2) 98 [.agg (e32 a0),vi a1,vi a2] [] (λr=>.tup [.agg (e32 r.1),vi r.2]) λr=>[])/\(∀N a0 a1 a2,OK (Qcb N a0 a1 a2) 179 [.agg (e27 a0),vu a1,vi a2] [] (λr=>.agg (e27 r)) λr=>[])/\(∀N a0 a1,OK (QdK N a0 a1) 115 [.agg (e43 a0),vu a1] [] (λr=>.tup [.agg (e43 r.1),vu r.2]) λr=>[])/\(∀N a0 a1,OK (QhI N a0 a1) 309 [.ept 1000000 0 6 0 0,.ept 1000001 0 1 0 0] [.arr true 27 6 [[vi a0.c.W,vi a0.c.p,s39 a0.w,Yj a0.p,vi a0.s,vi a0.b]] 0,.arr true 39 1 [[vu a1]] 0] (λr=>vu r) λr=>[.arr true 27 6 [[vi a0.c.W,vi a0.c.p,s39 a0.w,Yj a0.p,vi a0.s,vi a0.b]] 0,.arr true 39 1 [[vu a1]] 0])/\(∀N a0 a1,OK (Qfm N a0 a1) 132 [vu a0,.ept 1000000 0 1 0 0] [.arr true 24 1 [[s39 a1]] 0] (λr=>.v (.bool r)) λr=>[.arr true 24 1 [[s39 a1]] 0])/\(∀N a0,OK (QgH N a0) 332 [.agg (ZS a0)] [] (λr=>.tup [vu r.1,vi r.2]) λr=>[])/\(∀N a0 a1,OK (QgI N a0 a1) 355 [.agg (XfX a0),vu a1] [] (λr=>vu r) λr=>[]):=by
 refine⟨λN _ _ _=>rk Tryz.f359 ?_,λN _ _=>rk Tryz.f252 ?_,λN _ _ _ _ _=>rk Tryz.f286 ?_,λN _ _ _=>rk Tryz.f98 ?_,λN _ _ _=>rk Tryz.f179 ?_,λN _ _=>rk Tryz.f115 ?_,λN _ _=>rk Tryz.f309 ?_,λN _ _=>rk Tryz.f132 ?_,λN _=>rk Tryz.f332 ?_,λN _ _=>rk Tryz.f355 ?_⟩<;>(rintro _ hw r hr C _ rfl hwf hf;have hse:=@Za _ hw;simp only[Tryz.f359,Tryz.f252,Tryz.f286,Tryz.f98,Tryz.f179,Tryz.f115,Tryz.f309,Tryz.f132,Tryz.f332,Tryz.f355,Option.get!];(first|rw[QhW]at hr|rw[Qe4]at hr|rw[Qeo]at hr|rw[Qev]at hr|rw[Qcb]at hr|rw[QdK]at hr|rw[QhI]at hr|rw[Qfm]at hr|rw[QgH]at hr|rw[QgI]at hr);repeat' first
 |(refine El.el hr ?_;clear hr;intro hr)
 |(with_reducible intro h;refine Xx hr h ?_;clear hr;intro hr)
 |with_reducible intro _
 |simp only[go_sem,simprocAttr,Xz,YL,Xk,hse]
 |(with_reducible first|apply Xi|apply Xh|apply Xs|apply Xq|apply Xr)
 |((first|with_reducible refine Yo hr ag ?_ ?_|(with_reducible refine Ye hr ?_ ?_;rotate_left;intro p;rotate_right));(·simp only[go_sem,simprocAttr,hse]);intro hp hn hd hr;(try have Xz:=hd _ e39);(try simp only[go_sem,simprocAttr]at Xz);(try have YL:=hd _ e72);(try simp only[go_sem,simprocAttr]at YL);(try have Xk:=hd _ XU);(try simp only[go_sem,simprocAttr]at Xk))
 |(refine Xt ?_ ?_;.first|assumption|omega)
 |(with_reducible first|refine CallX.c ?_ _|refine OK.c hr hw ?_ (λy hr=>?_) _|refine IK hr hw ?_ (λy hr=>?_) _)
 |refine dc 179 2 hf 12 [(0,284,[]),(1,284,[]),(0,267,[]),(0,263,[]),(12,259,[]),(31,256,[]),(63,256,[]),(127,256,[]),(0,255,[]),(511,0,[]),(1023,0,[]),(2047,0,[]),(4095,0,[[448],[]])] ?_
 |(refine Xn hr ?_;rintro rfl;with_reducible refine XK ?_)
 |exact Yr hr
 |fail)
abbrev Qqi:=g18.1
abbrev Qq0:=g18.2.1
abbrev QoV:=g18.2.2.1
abbrev QnR:=g18.2.2.2.1
abbrev QoW:=g18.2.2.2.2.1
abbrev QoX:=g18.2.2.2.2.2.1
abbrev QmN:=g18.2.2.2.2.2.2.1
abbrev Qj9:=g18.2.2.2.2.2.2.2.1
abbrev QmO:=g18.2.2.2.2.2.2.2.2.1
abbrev QmP:=g18.2.2.2.2.2.2.2.2.2
attribute [instance] Qqi Qq0 QoV QnR QoW QoX QmN Qj9 QmO QmP
end Go.Sx
