import Derived.Test.YtokkmapiallffaaGreatDoorKG3
set_option linter.all false
namespace Go.Sx
open Go.Proofs Tryz
set_option maxRecDepth 10000
set_option maxHeartbeats 100000000
def Qg8{C:Cx}{N:Nat}{a0:Wu}{a1:Int}{β:Type}{k:Int × Int × Int × List Wp × List Int → Option β}{r:β}{dst:Option Nat}{st:St}{K:St → Prop}{wb w1 w3:Nat}(hw:GW C.G)(hr:bnd (Qcu N a0 a1) k=some r)(p wp w4 w5:Nat)(hp:p=51840\/p=210816)(E0:st.s 51584=some (w1,.arr false 59 1 (a0.h.w.map e59) 0))(E1:st.s p=some (wp,.arr false 159 4 (a0.h.p.map YT) 0))(E2:st.s 52288=some (w3,.arr false 59 1 (a0.o.map e59) 0))(E3:st.s 52480=some (w4,.arr false 3 1 (a0.t.map e3) 0))(E4:st.s 52672=some (w5,.arr false 59 1 (a0.q.map e59) 0))(E5:st.s 51264=some (wb,.arr true 209 16 [[vi a0.h.c.W,vi a0.h.c.p,.osl 51584 w1 1 0 a0.h.w.length,.osl p wp 4 0 a0.h.p.length,vi a0.h.s,vi a0.h.b,.osl 52288 w3 1 0 a0.o.length,.osl 52480 w4 1 0 a0.t.length,.osl 52672 w5 1 0 a0.q.length,vi a0.d,vi a0.r.j,vi a0.r.K,vi a0.r.F,vi a0.r.E,vi a0.r.f,vi a0.r.y]] 0))(hK:∀y,k y=some r→∀s' kk,∀p wp w4 w5,(p=51840\/p=210816)→FwH s' wb w1 p wp w3 w4 w5 (Wu.mk (Wh.mk a0.h.c a0.h.w y.2.2.2.1 a0.h.s a0.h.b) a0.o y.2.2.2.2 a0.q a0.d a0.r)→K (nxS st (XH dst st.n) (.tup [vi y.1,vi y.2.1,vi y.2.2.1]) (XjH st.s s') st.n kk))(t:Prf ([.ept 51264 wb 16 0 0,vi a1]:List D)):CallX prog C 223 [.ept 51264 wb 16 0 0,vi a1] dst st K t:=by
 refine Xbj hr λy hr hk2=>?_;have E:=And.intro E0 (And.intro E1 (And.intro E2 (And.intro E3 (And.intro E4 E5))));clear E0 E1 E2 E3 E4 E5;have hse:=@XgM _ hw;rcases hp with rfl|rfl<;>(refine CallX.inl (f:=223) 3200 (fn:=f223) (rs:=[.tmp 4,.tmp 5,.tmp 6]) (nt:=116) 1000 ae (λx=>?_) _;simp only[f223,Option.get!];rw[Qcu]at hr;repeat' first
 |(refine El.el hr ?_;clear hr;intro hr)
 |(with_reducible intro h;refine Y5 hr h ?_;clear hr;intro hr)
 |with_reducible intro _
 |simp only[go_sem,simprocAttr,E,hl3,XT,hse]
 |(with_reducible first|apply XP|apply XO|apply YF|apply YN|apply YO)
 |((first|with_reducible refine Jh hr ah ?_ ?_|(with_reducible refine KO hr ?_ ?_;rotate_left;intro p;rotate_right));(·simp only[go_sem,simprocAttr,hse]);intro hp hn hd hr;(try have hl3:=hd _ e3;simp only[go_sem,simprocAttr]at hl3);(try have XT:=hd _ YT;simp only[go_sem,simprocAttr]at XT))
 |(refine YG ?_ ?_;.first|assumption|omega)
 |(refine CallX.inl (f:=221) 2400 (fn:=f221) (rs:=[.tmp 2]) (nt:=9) 1000 ae (λx=>?_) _;simp only[f221,Option.get!])
 |(with_reducible first|refine CallX.c ?_ _|refine OK.c hr hw ?_ (λy hr=>?_) _|refine OK.d hr hw ?_ (λy hr=>?_) _)
 |refine dqi 3200 223 10 ⟨⟩ [(8,[51840,210816],[])] ?_
 |refine dp ?_
 |exact XaY hr
 |exact VG hr
 |(apply VH;assumption)
 |(refine Yq hr ?_;rintro rfl;(try simp only[go_sem,simprocAttr,E,hl3,XT,hse]);first|(apply Xcl (K:=λs=>K (nxS _ _ _ s _ _)) (λp wp w4 w5 hp h=>hK _ hk2 _ _ p wp w4 w5 hp h) 51840 (hp:=.inl rfl);refine⟨?_,?_,?_,?_,?_,?_⟩;(iterate 6 (·exact zs));exact zl)|(apply Xcl (K:=λs=>K (nxS _ _ _ s _ _)) (λp wp w4 w5 hp h=>hK _ hk2 _ _ p wp w4 w5 hp h) 210816 (hp:=.inr rfl);refine⟨?_,?_,?_,?_,?_,?_⟩;(iterate 6 (·exact zs));exact zl))
 |(with_reducible apply Xda;(·simp only[go_sem,simprocAttr,E,hl3,XT,hse];repeat' first|rfl|refine⟨?_,?_⟩);(·simp only[ZO,snap,go_sem,simprocAttr,E,hl3,XT,hse];repeat' first|rfl|refine⟨?_,?_⟩);(·simp only[go_sem,simprocAttr,E,hl3,XT,hse];first|done|omega|(simp;omega))))
def g22.sp{p:Prop}(h:p:=by first|((first|refine dq 259 2 hf [(12,[448],[])] ?_)<;>exact zz)|fail):p:=h
def g22.g:(∀N(a0:Wh)(a1:Int)(a2:Int),O1 (QgT N a0 a1 a2) 316 [c28 a0,vi a1,vi a2] (λr=>vu r))/\(∀N(a0:Wu)(a1:Int),O1 (QcC N a0 a1) 181 [Jv a0,vu a1] (λr=>vu r))/\(∀N(a0:WP)(a1:List Wp)(a2:Int)(a3:Int)(a4:Int),O1 (Qe6 N a0 a1 a2 a3 a4) 307 [c24 a0,Yn a1,vi a2,vi a3,vi a4] (λr=>.tup [Yn r.1,vi r.2]))/\(∀N(a0:Wq)(a1:Int)(a2:Int),O1 (QdN N a0 a1 a2) 200 [c32 a0,vi a1,vi a2] (λr=>.tup [c32 r.1,vi r.2]))/\(∀N(a0:Wh)(a1:Int)(a2:Int),O1 (QbZ N a0 a1 a2) 259 [c28 a0,vu a1,vi a2] (λr=>c28 r))/\(∀N(a0:WO)(a1:Int),O1 (Qc6 N a0 a1) 120 [c42 a0,vu a1] (λr=>.tup [c42 r.1,vu r.2]))/\(∀N(a0:Wp)(a1:WP),O1 (QdD N a0 a1) 266 [XiD a0,c24 a1] (λr=>vb r))/\(∀N a0 a1,OK (QeD N a0 a1) 84 [vu a0,.ept 1000000 0 1 0 0] [.arr true 25 1 [[s59 a1]] 0] (λr=>vb r) λr=>[.arr true 25 1 [[s59 a1]] 0])/\(∀N(a0:Wu)(a1:Int),O1 (QfO N a0 a1) 133 [XiC a0,vu a1] (λr=>vu r))/\(∀N(a0:WP)(a1:Wy),O1 (Qhn N a0 a1) 99 [c24 a0,c98 a1] (λr=>vb r)):=by refine⟨λN _ _ _=>rk f316 ?_,λN _ _=>rk f181 ?_,λN _ _ _ _ _=>rk f307 ?_,λN _ _ _=>rk f200 ?_,λN _ _ _=>rk f259 ?_,λN _ _=>rk f120 ?_,λN _ _=>rk f266 ?_,λN _ _=>rk f84 ?_,λN _ _=>rk f133 ?_,λN _ _=>rk f99 ?_⟩<;>(simp only[f316,f181,f307,f200,f259,f120,f266,f84,f133,f99,Option.get!,QgT,QcC,Qe6,QdN,QbZ,Qc6,QdD,QeD,QfO,Qhn];exact zh)
abbrev Qni:=g22.g.1
abbrev Ql5:=g22.g.2.1
abbrev Ql6:=g22.g.2.2.1
abbrev Qln:=g22.g.2.2.2.1
abbrev Ql7:=g22.g.2.2.2.2.1
abbrev Ql8:=g22.g.2.2.2.2.2.1
abbrev Qib:=g22.g.2.2.2.2.2.2.1
abbrev Qic:=g22.g.2.2.2.2.2.2.2.1
abbrev Qko:=g22.g.2.2.2.2.2.2.2.2.1
abbrev Qnj:=g22.g.2.2.2.2.2.2.2.2.2
attribute [instance] Qni Ql5 Ql6 Qln Ql7 Ql8 Qib Qic Qko Qnj
def g21:(∀N a0,OK (Qbi N a0) 13 [.ept 1000000 0 2 0 0] [.arr true 67 2 [[s3 a0.L,vi a0.at_]] 0] (λr=>c44 r.1) λr=>[.arr true 67 2 [[s3 r.2.L,vi r.2.at_]] 0])/\(∀N(a0:Wu)(a1:Int),O1 (Qdl N a0 a1) 253 [Jv a0,vu a1] (λr=>c98 r))/\(∀N(a0:WP)(a1:Wy),O1 (Qdd N a0 a1) 188 [c24 a0,c98 a1] (λr=>vb r))/\(∀N(a0:Uj)(a1:Int),O1 (QcE N a0 a1) 191 [c38 a0,vu a1] (λr=>.tup [c38 r.1,vu r.2.1,vi r.2.2]))/\(∀N(a0:Wq)(a1:Int),O1 (Qei N a0 a1) 124 [c32 a0,vi a1] (λr=>.tup [c32 r.1,vi r.2]))/\(∀N(a0:Wq)(a1:Int),O1 (Qc5 N a0 a1) 262 [c32 a0,vu a1] (λr=>vi r))/\(∀N(a0:WD),O1 (QdI N a0) 27 [c35 a0] (λr=>vb r))/\(∀N a0 a1,OK (QgD N a0 a1) 227 [.ept 1000000 0 6 0 0,.ept 1000001 0 1 0 0] [.arr true 28 6 [[vi a0.c.W,vi a0.c.p,s59 a0.w,Yn a0.p,vi a0.s,vi a0.b]] 0,.arr true 59 1 [[vu a1]] 0] (λr=>vu r) λr=>[.arr true 28 6 [[vi a0.c.W,vi a0.c.p,s59 a0.w,Yn a0.p,vi a0.s,vi a0.b]] 0,.arr true 59 1 [[vu a1]] 0])/\(∀N(a0:Int),O1 (Qb4 N a0) 270 [vu a0] (λr=>.tup [vu r.1,vi r.2]))/\(∀N(a0:Wy),O1 (QfP N a0) 243 [c98 a0] (λr=>.tup [vu r.1,vi r.2])):=by refine⟨λN _=>rk f13 ?_,λN _ _=>rk f253 ?_,λN _ _=>rk f188 ?_,λN _ _=>rk f191 ?_,λN _ _=>rk f124 ?_,λN _ _=>rk f262 ?_,λN _=>rk f27 ?_,λN _ _=>rk f227 ?_,λN _=>rk f270 ?_,λN _=>rk f243 ?_⟩<;>(simp only[f13,f253,f188,f191,f124,f262,f27,f227,f270,f243,Option.get!,Qbi,Qdl,Qdd,QcE,Qei,Qc5,QdI,QgD,Qb4,QfP];exact zh)
abbrev QiC:=g21.1
abbrev Qn0:=g21.2.1
abbrev Qnk:=g21.2.2.1
abbrev Ql9:=g21.2.2.2.1
abbrev Qnl:=g21.2.2.2.2.1
abbrev Qma:=g21.2.2.2.2.2.1
abbrev Qmb:=g21.2.2.2.2.2.2.1
abbrev Qkp:=g21.2.2.2.2.2.2.2.1
abbrev Qjo:=g21.2.2.2.2.2.2.2.2.1
abbrev Qkq:=g21.2.2.2.2.2.2.2.2.2
attribute [instance] QiC Qn0 Qnk Ql9 Qnl Qma Qmb Qkp Qjo Qkq
end Go.Sx
