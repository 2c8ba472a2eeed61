import Derived.Test.YtmpbhfnjjaocoaaGreatAG6
import Derived.Test.YtmpbhfnjjaocoaaGreatAG7
import Derived.Test.YtmpbhfnjjaocoaaGreatAG8
set_option linter.all false
namespace Go.Sx
open Go.Proofs
set_option maxRecDepth 10000
set_option maxHeartbeats 100000000
def Qhu{C:Cx}{N:Nat}{a0:WD}{a1:Int}{β:Type}{k:Int × Int × Int × List Wt × List Int → Option β}{r:β}{dst:Option Nat}{st:St}{K:St → Prop}{wb w1 w3:Nat}(hw:GW C.G)(hr:bnd (Qcl N a0 a1) k=some r)(p wp w4 w5:Nat)(hp:p=51840\/p=210816)(E0:st.s 51584=some (w1,.arr false 58 1 (a0.h.w.map e58) 0))(E1:st.s p=some (wp,.arr false 175 4 (a0.h.p.map XS) 0))(E2:st.s 52288=some (w3,.arr false 58 1 (a0.o.map e58) 0))(E3:st.s 52480=some (w4,.arr false 3 1 (a0.t.map e3) 0))(E4:st.s 52672=some (w5,.arr false 58 1 (a0.q.map e58) 0))(E5:st.s 51264=some (wb,.arr true 196 16 [[vi a0.h.c.W,vi a0.h.c.p,.osl 51584 w1 1 0 a0.h.w.length,.osl p wp 4 0 a0.h.p.length,vi a0.h.s,vi a0.h.b,.osl 52288 w3 1 0 a0.o.length,.osl 52480 w4 1 0 a0.t.length,.osl 52672 w5 1 0 a0.q.length,vi a0.d,vi a0.r.j,vi a0.r.K,vi a0.r.F,vi a0.r.E,vi a0.r.f,vi a0.r.y]] 0))(hK:∀y,k y=some r→∀s' kk,∀p wp w4 w5,(p=51840\/p=210816)→FwH s' wb w1 p wp w3 w4 w5 (WD.mk (Wk.mk a0.h.c a0.h.w y.2.2.2.1 a0.h.s a0.h.b) a0.o y.2.2.2.2 a0.q a0.d a0.r)→K (nxS st (XO dst st.n) (.tup [vi y.1,vi y.2.1,vi y.2.2.1]) (XhQ st.s s') st.n kk))(t:Prf ([.ept 51264 wb 16 0 0,vi a1]:List D)):CallX Tryz.prog C 211 [.ept 51264 wb 16 0 0,vi a1] dst st K t:=by
 refine Xae hr λy hr hk2=>?_;have E:=And.intro E0 (And.intro E1 (And.intro E2 (And.intro E3 (And.intro E4 E5))));clear E0 E1 E2 E3 E4 E5;have hse:=@Zw _ hw;rcases hp with rfl|rfl<;>(refine CallX.inl (f:=211) 3200 (fn:=Tryz.f211) (rs:=[.tmp 4,.tmp 5,.tmp 6]) (nt:=116) 1000 ac (λx=>?_) _;simp only[Tryz.f211,Option.get!];rw[Qcl]at hr;repeat' first
 |(refine El.el hr ?_;clear hr;intro hr)
 |(with_reducible intro h;refine XB hr h ?_;clear hr;intro hr)
 |with_reducible intro _
 |simp only[go_sem,simprocAttr,E,hl3,Xj,hse]
 |(with_reducible first|apply Xi|apply Xh|apply Xs|apply Xq|apply Xr)
 |((first|with_reducible refine Yq hr ag ?_ ?_|(with_reducible refine Yn hr ?_ ?_;rotate_left;intro p;rotate_right));(·simp only[go_sem,simprocAttr,hse]);intro hp hn hd hr;(try have hl3:=hd _ e3);(try simp only[go_sem,simprocAttr]at hl3);(try have Xj:=hd _ XS);(try simp only[go_sem,simprocAttr]at Xj))
 |(refine Xt ?_ ?_;.first|assumption|omega)
 |(refine CallX.inl (f:=209) 2400 (fn:=Tryz.f209) (rs:=[.tmp 2]) (nt:=9) 1000 ac (λx=>?_) _;simp only[Tryz.f209,Option.get!])
 |(with_reducible first|refine CallX.c ?_ _|refine OK.c hr hw ?_ (λy hr=>?_) _|refine IM hr hw ?_ (λy hr=>?_) _)
 |refine dc 211 2 hf 21 [(0,0,[]),(1,0,[]),(3,0,[]),(7,48,[]),(15,48,[]),(31,48,[]),(63,48,[]),(7,15,[]),(135,15,[]),(511,0,[]),(1023,0,[]),(2047,0,[]),(4095,0,[]),(8191,0,[]),(16383,33128448,[]),(32767,33128448,[]),(65535,33128448,[]),(131071,33128448,[]),(16383,33060864,[]),(278527,33060864,[]),(1048575,33030144,[]),(2097151,33030144,[]),(16383,522240,[]),(4210687,522240,[]),(12599295,522240,[]),(29376511,522240,[]),(62930943,522240,[]),(130039807,522240,[]),(268435455,0,[]),(536870911,0,[])] ?_
 |refine dc 211 10 hf 11 [(0,8462480737302404222943232,[]),(1,8462480737302404222943232,[]),(3,8462480737302404222943232,[]),(7,8462480737302404222943232,[]),(15,8462480737302404222943232,[]),(0,8424701805439447061233664,[]),(0,2380072707366301187702784,[]),(64,2380072707366301187702784,[]),(255,0,[]),(511,0,[]),(1023,38685626227668133590597632,[]),(1023,19342813113834066795298817,[]),(2047,38685626227668133590597632,[]),(8191,0,[])] ?_
 |refine db 211 2 ⟨⟩ 21 [(0,0,[]),(1,0,[]),(3,0,[]),(7,48,[]),(15,48,[]),(31,48,[]),(63,48,[]),(7,15,[]),(135,15,[]),(511,0,[]),(1023,0,[]),(2047,0,[]),(4095,0,[]),(8191,0,[]),(16383,33128448,[]),(32767,33128448,[]),(65535,33128448,[]),(131071,33128448,[]),(16383,33060864,[]),(278527,33060864,[]),(1048575,33030144,[]),(2097151,33030144,[]),(16383,522240,[]),(4210687,522240,[]),(12599295,522240,[]),(29376511,522240,[]),(62930943,522240,[]),(130039807,522240,[]),(268435455,0,[]),(536870911,0,[])] rfl rfl ac ?_ _
 |refine db 211 10 ⟨⟩ 11 [(0,8462480737302404222943232,[]),(1,8462480737302404222943232,[]),(3,8462480737302404222943232,[]),(7,8462480737302404222943232,[]),(15,8462480737302404222943232,[]),(0,8424701805439447061233664,[]),(0,2380072707366301187702784,[]),(64,2380072707366301187702784,[]),(255,0,[[51840,210816],[]]),(511,0,[]),(1023,38685626227668133590597632,[]),(1023,19342813113834066795298817,[]),(2047,38685626227668133590597632,[]),(8191,0,[])] rfl rfl ac ?_ _
 |exact Yw hr
 |(with_reducible apply XbZ;(·simp only[go_sem,simprocAttr,E,hl3,Xj,hse];repeat' first|rfl|refine⟨?_,?_⟩);(·simp only[Zx,snap,go_sem,simprocAttr,E,hl3,Xj,hse];repeat' first|rfl|refine⟨?_,?_⟩);(·simp only[go_sem,simprocAttr,E,hl3,Xj,hse];first|done|omega|(simp;omega)))
 |(refine Xn hr ?_;rintro rfl;(try simp only[go_sem,simprocAttr,E,hl3,Xj,hse]);first|(apply Xfg (K:=λs=>K (nxS _ _ _ s _ _)) (λp wp w4 w5 hp h=>hK _ hk2 _ _ p wp w4 w5 hp h) 51840 (hp:=.inl rfl);refine⟨?_,?_,?_,?_,?_,?_⟩;(iterate 6 (·first|rfl|(simp only[go_sem,simprocAttr,E,hl3,Xj,hse];(repeat' first|rfl|refine⟨?_,?_⟩);done)));(intro i hi;first|rfl|exact hl0 i hi|(simp only[YP,Zn,Kb,Xv,JY hi,hi,simprocAttr,if_true,if_false];first|done|exact hl0 i hi)|(simp only[YP,Zn,Kb,Xv,JY hi,hi,simprocAttr,if_true,if_false])))|(apply Xfg (K:=λs=>K (nxS _ _ _ s _ _)) (λp wp w4 w5 hp h=>hK _ hk2 _ _ p wp w4 w5 hp h) 210816 (hp:=.inr rfl);refine⟨?_,?_,?_,?_,?_,?_⟩;(iterate 6 (·first|rfl|(simp only[go_sem,simprocAttr,E,hl3,Xj,hse];(repeat' first|rfl|refine⟨?_,?_⟩);done)));(intro i hi;first|rfl|exact hl0 i hi|(simp only[YP,Zn,Kb,Xv,JY hi,hi,simprocAttr,if_true,if_false];first|done|exact hl0 i hi)|(simp only[YP,Zn,Kb,Xv,JY hi,hi,simprocAttr,if_true,if_false]))))
 |fail)
def g18:(∀N a0 a1 a2,OK (Qg9 N a0 a1 a2) 316 [.agg (e27 a0),vi a1,vi a2] [] (λr=>vu r) λr=>[])/\(∀N a0 a1,OK (Qdz N a0 a1) 81 [.agg (K4 a0),vu a1] [] (λr=>vu r) λr=>[])/\(∀N a0 a1 a2 a3 a4,OK (QdB N a0 a1 a2 a3 a4) 170 [.agg (e23 a0),Yg a1,vi a2,vi a3,vi a4] [] (λr=>.tup [Yg r.1,vi r.2]) λr=>[])/\(∀N a0 a1 a2,OK (QdJ N a0 a1 a2) 258 [.agg (e32 a0),vi a1,vi a2] [] (λr=>.tup [.agg (e32 r.1),vi r.2]) λr=>[])/\(∀N a0 a1 a2,OK (QcC N a0 a1 a2) 296 [.agg (e27 a0),vu a1,vi a2] [] (λr=>.agg (e27 r)) λr=>[])/\(∀N a0 a1,OK (Qc4 N a0 a1) 185 [.agg (e65 a0),vu a1] [] (λr=>.tup [.agg (e65 r.1),vu r.2]) λr=>[])/\(∀N a0 a1,OK (Qdt N a0 a1) 232 [.agg (XgM a0),.agg (e23 a1)] [] (λr=>.v (.bool r)) λr=>[])/\(∀N a0 a1,OK (QeE N a0 a1) 120 [vu a0,.ept 1000000 0 1 0 0] [.arr true 24 1 [[s58 a1]] 0] (λr=>.v (.bool r)) λr=>[.arr true 24 1 [[s58 a1]] 0])/\(∀N a0 a1,OK (QfX N a0 a1) 127 [.agg (Xff a0),vu a1] [] (λr=>vu r) λr=>[])/\(∀N a0 a1,OK (QgC N a0 a1) 40 [.agg (e23 a0),.agg (e51 a1)] [] (λr=>.v (.bool r)) λr=>[]):=by
 refine⟨λN _ _ _=>rk Tryz.f316 [.tmp 6] [] 27 ?_,λN _ _=>rk Tryz.f81 [.tmp 4] [] 28 ?_,λN _ _ _ _ _=>rk Tryz.f170 [.tmp 10,.tmp 11] [] 37 ?_,λN _ _ _=>rk Tryz.f258 [.cell 6 32,.tmp 7] [] 33 ?_,λN _ _ _=>rk Tryz.f296 [.cell 6 27] [] 25 ?_,λN _ _=>rk Tryz.f185 [.cell 4 65,.tmp 5] [] 35 ?_,λN _ _=>rk Tryz.f232 [.tmp 4] [] 18 ?_,λN _ _=>rk Tryz.f120 [.tmp 3] [] 18 ?_,λN _ _=>rk Tryz.f127 [.tmp 4] [] 44 ?_,λN _ _=>rk Tryz.f40 [.tmp 4] [] 19 ?_⟩<;>(rintro _ hw r hr C _ rfl hwf hf;have hse:=@Zw _ hw;simp only[Tryz.f316,Tryz.f81,Tryz.f170,Tryz.f258,Tryz.f296,Tryz.f185,Tryz.f232,Tryz.f120,Tryz.f127,Tryz.f40,Option.get!];(first|rw[Qg9]at hr|rw[Qdz]at hr|rw[QdB]at hr|rw[QdJ]at hr|rw[QcC]at hr|rw[Qc4]at hr|rw[Qdt]at hr|rw[QeE]at hr|rw[QfX]at hr|rw[QgC]at hr);repeat' first
 |(refine El.el hr ?_;clear hr;intro hr)
 |(with_reducible intro h;refine XB hr h ?_;clear hr;intro hr)
 |with_reducible intro _
 |simp only[go_sem,simprocAttr,Xu,XX,Xj,hse]
 |(with_reducible first|apply Xi|apply Xh|apply Xs|apply Xq|apply Xr)
 |((first|with_reducible refine Yq hr ag ?_ ?_|(with_reducible refine Yn hr ?_ ?_;rotate_left;intro p;rotate_right));(·simp only[go_sem,simprocAttr,hse]);intro hp hn hd hr;(try have Xu:=hd _ e58);(try simp only[go_sem,simprocAttr]at Xu);(try have XX:=hd _ ZT);(try simp only[go_sem,simprocAttr]at XX);(try have Xj:=hd _ XS);(try simp only[go_sem,simprocAttr]at Xj))
 |(refine Xt ?_ ?_;.first|assumption|omega)
 |(with_reducible first|refine CallX.c ?_ _|refine OK.c hr hw ?_ (λy hr=>?_) _|refine IM hr hw ?_ (λy hr=>?_) _)
 |refine dc 296 2 hf 12 [(0,284,[]),(1,284,[]),(0,267,[]),(0,263,[]),(12,259,[]),(31,256,[]),(63,256,[]),(127,256,[]),(0,255,[]),(511,0,[]),(1023,0,[]),(2047,0,[]),(4095,0,[[448],[]])] ?_
 |refine dc 40 1 hf 13 [(0,0,[]),(1,0,[]),(3,0,[]),(7,0,[]),(15,0,[]),(31,0,[]),(63,0,[]),(127,0,[]),(255,6,[]),(255,1,[]),(767,1,[]),(2047,0,[]),(4095,0,[]),(8191,0,[]),(16383,0,[])] ?_
 |(refine Xn hr ?_;rintro rfl;with_reducible refine XP ?_)
 |exact Yw hr
 |fail)
abbrev QoT:=g18.1
abbrev Qnz:=g18.2.1
abbrev QnA:=g18.2.2.1
abbrev QmE:=g18.2.2.2.1
abbrev QnB:=g18.2.2.2.2.1
abbrev QnC:=g18.2.2.2.2.2.1
abbrev Qjb:=g18.2.2.2.2.2.2.1
abbrev Qjc:=g18.2.2.2.2.2.2.2.1
abbrev QlD:=g18.2.2.2.2.2.2.2.2.1
abbrev QoU:=g18.2.2.2.2.2.2.2.2.2
attribute [instance] QoT Qnz QnA QmE QnB QnC Qjb Qjc QlD QoU
def g17:(∀N a0,OK (QbZ N a0) 43 [.ept 1000000 0 2 0 0] [.arr true 54 2 [[s3 a0.L,vi a0.at_]] 0] (λr=>.agg (e67 r.1)) λr=>[.arr true 54 2 [[s3 r.2.L,vi r.2.at_]] 0])/\(∀N a0 a1,OK (Qek N a0 a1) 151 [.agg (K4 a0),vu a1] [] (λr=>.agg (e51 r)) λr=>[])/\(∀N a0 a1,OK (Qcf N a0 a1) 94 [.agg (e23 a0),.agg (e51 a1)] [] (λr=>.v (.bool r)) λr=>[])/\(∀N a0 a1,OK (Qcz N a0 a1) 248 [.agg (e38 a0),vu a1] [] (λr=>.tup [.agg (e38 r.1),vu r.2.1,vi r.2.2]) λr=>[])/\(∀N a0 a1,OK (Qei N a0 a1) 189 [.agg (e32 a0),vi a1] [] (λr=>.tup [.agg (e32 r.1),vi r.2]) λr=>[])/\(∀N a0 a1,OK (Qc3 N a0 a1) 299 [.agg (e32 a0),vu a1] [] (λr=>vi r) λr=>[])/\(∀N a0,OK (Qet N a0) 51 [.agg (e35 a0)] [] (λr=>.v (.bool r)) λr=>[])/\(∀N a0 a1,OK (QgU N a0 a1) 215 [.ept 1000000 0 6 0 0,.ept 1000001 0 1 0 0] [.arr true 27 6 [[vi a0.c.W,vi a0.c.p,s58 a0.w,Yg a0.p,vi a0.s,vi a0.b]] 0,.arr true 58 1 [[vu a1]] 0] (λr=>vu r) λr=>[.arr true 27 6 [[vi a0.c.W,vi a0.c.p,s58 a0.w,Yg a0.p,vi a0.s,vi a0.b]] 0,.arr true 58 1 [[vu a1]] 0])/\(∀N a0,OK (QbT N a0) 282 [vu a0] [] (λr=>.tup [vu r.1,vi r.2]) λr=>[])/\(∀N a0,OK (QfY N a0) 162 [.agg (e51 a0)] [] (λr=>.tup [vu r.1,vi r.2]) λr=>[]):=by
 refine⟨λN _=>rk Tryz.f43 [.cell 2 67] [] 36 ?_,λN _ _=>rk Tryz.f151 [.cell 4 51] [] 23 ?_,λN _ _=>rk Tryz.f94 [.tmp 4] [] 19 ?_,λN _ _=>rk Tryz.f248 [.cell 4 38,.tmp 5,.tmp 6] [] 43 ?_,λN _ _=>rk Tryz.f189 [.cell 4 32,.tmp 5] [] 11 ?_,λN _ _=>rk Tryz.f299 [.tmp 4] [] 20 ?_,λN _=>rk Tryz.f51 [.tmp 2] [] 13 ?_,λN _ _=>rk Tryz.f215 [.tmp 2] [] 13 ?_,λN _=>rk Tryz.f282 [.tmp 2,.tmp 3] [] 14 ?_,λN _=>rk Tryz.f162 [.tmp 2,.tmp 3] [] 24 ?_⟩<;>(rintro _ hw r hr C _ rfl hwf hf;have hse:=@Zw _ hw;simp only[Tryz.f43,Tryz.f151,Tryz.f94,Tryz.f248,Tryz.f189,Tryz.f299,Tryz.f51,Tryz.f215,Tryz.f282,Tryz.f162,Option.get!];(first|rw[QbZ]at hr|rw[Qek]at hr|rw[Qcf]at hr|rw[Qcz]at hr|rw[Qei]at hr|rw[Qc3]at hr|rw[Qet]at hr|rw[QgU]at hr|rw[QbT]at hr|rw[QfY]at hr);repeat' first
 |(refine El.el hr ?_;clear hr;intro hr)
 |(with_reducible intro h;refine XB hr h ?_;clear hr;intro hr)
 |with_reducible intro _
 |simp only[go_sem,simprocAttr,hse]
 |(with_reducible first|apply Xi|apply Xh|apply Xs|apply Xq|apply Xr)
 |(refine Xt ?_ ?_;.first|assumption|omega)
 |(with_reducible first|refine CallX.c ?_ _|refine OK.c hr hw ?_ (λy hr=>?_) _|refine IM hr hw ?_ (λy hr=>?_) _)
 |refine dc 94 1 hf 13 [(0,0,[]),(1,0,[]),(3,0,[]),(7,0,[]),(15,0,[]),(31,0,[]),(63,0,[]),(127,0,[]),(255,6,[]),(255,1,[]),(767,1,[]),(2047,0,[]),(4095,0,[]),(8191,0,[]),(16383,0,[])] ?_
 |(refine Xn hr ?_;rintro rfl;with_reducible refine XP ?_)
 |exact Yw hr
 |fail)
abbrev QjD:=g17.1
abbrev QpC:=g17.2.1
abbrev QoV:=g17.2.2.1
abbrev QnD:=g17.2.2.2.1
abbrev QoW:=g17.2.2.2.2.1
abbrev QnE:=g17.2.2.2.2.2.1
abbrev QnF:=g17.2.2.2.2.2.2.1
abbrev QlE:=g17.2.2.2.2.2.2.2.1
abbrev Qkw:=g17.2.2.2.2.2.2.2.2.1
abbrev QlF:=g17.2.2.2.2.2.2.2.2.2
attribute [instance] QjD QpC QoV QnD QoW QnE QnF QlE Qkw QlF
end Go.Sx
