import Derived.Test.YtlneiohchomcfaaGreatDoorSG2
import Derived.Test.YtlneiohchomcfaaGreatDoorSG3
set_option linter.all false
namespace Go.Sx
open Go.Proofs Tryz
set_option maxRecDepth 10000
set_option maxHeartbeats 100000000
def g13:(∀N(a0:WN),O1 (Qe4 N a0) 41 [.agg (e24 a0)] (λr=>.tup [.agg (e38 r.1),vi r.2]))/\(∀N(a0:Wk)(a1:Int),O1 (QfI N a0 a1) 83 [.agg (e28 a0),vu a1] (λr=>vi r))/\(∀N(a0:List Int)(a1:Int)(a2:Int),O1 (QcL N a0 a1 a2) 251 [s49 a0,vu a1,vu a2] (λr=>.tup [s49 r.1,vi r.2]))/\(∀N(a0:Int),O1 (QcO N a0) 190 [vu a0] (λr=>.tup [.agg (Xje r.1),vi r.2]))/\(∀N(a0:Wp)(a1:Int)(a2:Bool),O1 (Qgw N a0 a1 a2) 204 [.agg (e32 a0),vi a1,.v (.bool a2)] (λr=>.tup [.agg (e32 r.1),vi r.2]))/\(∀N(a0:WM)(a1:Int)(a2:Int)(a3:Int),O1 (QfL N a0 a1 a2 a3) 119 [.agg (e42 a0),vi a1,vu a2,vu a3] (λr=>.tup [.agg (e42 r.1),vu r.2]))/\(∀N(a0:Int),O1 (Qeg N a0) 310 [vu a0] (λr=>.tup [.agg (Z7 r.1),.v (.bool r.2)]))/\(∀N(a0:List UE)(a1:Int),O1 (Qf0 N a0 a1) 208 [VE a0,vu a1] (λr=>vi r))/\(∀N(a0:List (List Int)),O1 (Qgy N a0) 53 [s25 a0] (λr=>s49 r))/\(∀N(a0:Int),O1 (Qe3 N a0) 360 [vu a0] (λr=>.tup [vu r.1,.v (.bool r.2)]))/\(∀N(a0:List Int)(a1:Int)(a2:Int),O1 (QgJ N a0 a1 a2) 280 [s49 a0,vu a1,vu a2] (λr=>.tup [s49 r.1,vi r.2])):=by
 refine⟨λN _=>rk f41 ?_,λN _ _=>rk f83 ?_,λN _ _ _=>rk f251 ?_,λN _=>rk f190 ?_,λN _ _ _=>rk f204 ?_,λN _ _ _ _=>rk f119 ?_,λN _=>rk f310 ?_,λN _ _=>rk f208 ?_,λN _=>rk f53 ?_,λN _=>rk f360 ?_,λN _ _ _=>rk f280 ?_⟩<;>(rintro _ hw r hr C _ rfl hwf hf;simp only[f41,f83,f251,f190,f204,f119,f310,f208,f53,f360,f280,Option.get!,Qe4,QfI,QcL,QcO,Qgw,QfL,Qeg,Qf0,Qgy,Qe3,QgJ]at hr⊢;repeat' first
 |(refine El.el hr ?_;clear hr;intro hr)
 |(with_reducible intro h;refine XH hr h ?_;clear hr;intro hr)
 |with_reducible intro _
 |simp only[go_sem,simprocAttr,XB,K6,Wl,Wn,Wz]
 |(with_reducible first|apply Xi|apply Xh|apply Xt|apply Xx|apply Xy)
 |((first|with_reducible refine Yy hr ag ?_ ?_|(with_reducible refine Yt hr ?_ ?_;rotate_left;intro p;rotate_right));(·simp only[go_sem,simprocAttr,Wl,Wn,Wz]);intro hp hn hd hr;(try have XB:=hd _ e49;simp only[go_sem,simprocAttr]at XB);(try have K6:=hd _ Xev;simp only[go_sem,simprocAttr]at K6))
 |(refine Xu ?_ ?_;.first|assumption|omega)
 |(with_reducible refine XcX hr ?_ ?_;(·simp only[go_sem]);intro p hp hn hd hr;(try have XB:=hd _ e49;simp only[go_sem,simprocAttr]at XB);(try have K6:=hd _ Xev;simp only[go_sem,simprocAttr]at K6))
 |(with_reducible first|refine CallX.c ?_ _|refine OK.c hr hw ?_ (λy hr=>?_) _)
 |refine dq 204 7 hf [(0,[2176],[2816]),(1,[],[2176,2816]),(2,[],[2176,2816]),(3,[2176],[2816]),(4,[],[2176]),(5,[],[2176]),(6,[],[2176]),(7,[],[2176]),(8,[],[2176]),(9,[],[2176]),(10,[2816],[2176]),(11,[2176],[]),(13,[192],[])] ?_
 |refine dq 119 6 hf [(9,[896],[]),(11,[256],[])] ?_
 |refine dq 119 10 hf [(1,[],[512]),(2,[],[512]),(3,[],[512]),(4,[],[512]),(5,[],[512]),(6,[],[512]),(7,[512],[])] ?_
 |refine dq 310 4 hf [(0,[],[384]),(1,[],[384]),(2,[],[384]),(3,[],[384]),(4,[],[384]),(5,[],[384]),(6,[],[384]),(7,[],[384]),(8,[],[384]),(9,[],[384]),(10,[],[384]),(11,[],[384]),(12,[],[384]),(13,[384],[]),(14,[384],[])] ?_
 |(refine Xq hr ?_;rintro rfl;with_reducible refine XQ ?_)
 |exact YE hr
 |with_reducible refine XqH (λhi=>?_) (λhi=>?_)
 |(exfalso;omega))
abbrev QnQ:=g13.1
abbrev Qm2:=g13.2.1
abbrev QlY:=g13.2.2.1
abbrev Qld:=g13.2.2.2.1
abbrev Qm3:=g13.2.2.2.2.1
abbrev Qm4:=g13.2.2.2.2.2.1
abbrev Qkf:=g13.2.2.2.2.2.2.1
abbrev Qkg:=g13.2.2.2.2.2.2.2.1
abbrev Qm5:=g13.2.2.2.2.2.2.2.2.1
abbrev Qkh:=g13.2.2.2.2.2.2.2.2.2.1
abbrev QlZ:=g13.2.2.2.2.2.2.2.2.2.2
attribute [instance] QnQ Qm2 QlY Qld Qm3 Qm4 Qkf Qkg Qm5 Qkh QlZ
def QgD{C:Cx}{N:Nat}{a0:Ww}{a1:Int}{β:Type}{k:Bool → Option β}{r:β}{dst:Option Nat}{st:St}{K:St → Prop}{wb w1 w3:Nat}(hw:GW C.G)(hr:bnd (Qc8 N a0 a1) k=some r)(p wp w4 w5:Nat)(hp:p=51840\/p=210816)(E0:st.s 51584=some (w1,.arr false 49 1 (a0.h.w.map e49) 0))(E1:st.s p=some (wp,.arr false 139 4 (a0.h.p.map X0) 0))(E2:st.s 52288=some (w3,.arr false 49 1 (a0.o.map e49) 0))(E3:st.s 52480=some (w4,.arr false 3 1 (a0.t.map e3) 0))(E4:st.s 52672=some (w5,.arr false 49 1 (a0.q.map e49) 0))(E5:st.s 51264=some (wb,.arr true 386 16 [[vi a0.h.c.W,vi a0.h.c.p,.osl 51584 w1 1 0 a0.h.w.length,.osl p wp 4 0 a0.h.p.length,vi a0.h.s,vi a0.h.b,.osl 52288 w3 1 0 a0.o.length,.osl 52480 w4 1 0 a0.t.length,.osl 52672 w5 1 0 a0.q.length,vi a0.d,vi a0.r.j,vi a0.r.K,vi a0.r.F,vi a0.r.E,vi a0.r.f,vi a0.r.y]] 0))(hK:∀y,k y=some r→∀s' kk,FwH s' wb w1 p wp w3 w4 w5 a0→K (nxS st (XS dst st.n) (.v (.bool y)) (Xjf st.s s') st.n kk))(t:Prf ([.ept 51264 wb 16 0 0,vi a1]:List D)):CallX prog C 361 [.ept 51264 wb 16 0 0,vi a1] dst st K t:=by
 refine Xba hr λy hr hk2=>?_;have E:=And.intro E0 (And.intro E1 (And.intro E2 (And.intro E3 (And.intro E4 E5))));clear E0 E1 E2 E3 E4 E5;have hse:=@ZZ _ hw;rcases hp with rfl|rfl<;>(refine CallX.inl (f:=361) 1600 (fn:=f361) (rs:=[.tmp 4]) (nt:=45) 1000 ac (λx=>?_) _;simp only[f361,Option.get!];rw[Qc8]at hr;repeat' first
 |(refine El.el hr ?_;clear hr;intro hr)
 |(with_reducible intro h;refine XH hr h ?_;clear hr;intro hr)
 |with_reducible intro _
 |simp only[go_sem,simprocAttr,E,Xm,hse]
 |(with_reducible first|apply Xi|apply Xh|apply Xt|apply Xx|apply Xy)
 |((first|with_reducible refine Yy hr ag ?_ ?_|(with_reducible refine Yt hr ?_ ?_;rotate_left;intro p;rotate_right));(·simp only[go_sem,simprocAttr,hse]);intro hp hn hd hr;(try have Xm:=hd _ X0;simp only[go_sem,simprocAttr]at Xm))
 |(refine Xu ?_ ?_;.first|assumption|omega)
 |(refine CallX.inl (f:=363) 2400 (fn:=f363) (rs:=[.tmp 2]) (nt:=9) 1000 ac (λx=>?_) _;simp only[f363,Option.get!])
 |(with_reducible first|refine CallX.c ?_ _|refine OK.c hr hw ?_ (λy hr=>?_) _|refine OK.d hr hw ?_ (λy hr=>?_) _)
 |refine dp ?_
 |exact YE hr
 |(refine Xq hr ?_;rintro rfl;(try simp only[go_sem,simprocAttr,E,Xm,hse]);refine Xq5 (K:=λs=>K (nxS _ _ _ s _ _)) (λh=>hK _ hk2 _ _ h) ?_ ?_;refine⟨?_,?_,?_,?_,?_,?_⟩;(iterate 6 (·first|rfl|(simp only[go_sem,simprocAttr,E,Xm,hse];(repeat' first|rfl|refine⟨?_,?_⟩);done)));(intro i hi;first|rfl|exact hl0 i hi|(simp only[Zf,ZQ,KG,XD,VJ hi,hi,simprocAttr,if_true,if_false];first|done|exact hl0 i hi)|(simp only[Zf,ZQ,KG,XD,VJ hi,hi,simprocAttr,if_true,if_false])))
 |(with_reducible apply XcW;(·simp only[go_sem,simprocAttr,E,Xm,hse];repeat' first|rfl|refine⟨?_,?_⟩);(·simp only[Z0,snap,go_sem,simprocAttr,E,Xm,hse];repeat' first|rfl|refine⟨?_,?_⟩);(·simp only[go_sem,simprocAttr,E,Xm,hse];first|done|omega|(simp;omega))))
end Go.Sx
