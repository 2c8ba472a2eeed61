import Derived.Test.YtlneiohchomcfaaGreatDoorSG4
import Derived.Test.YtlneiohchomcfaaGreatDoorSG5
set_option linter.all false
namespace Go.Sx
open Go.Proofs Tryz
set_option maxRecDepth 10000
set_option maxHeartbeats 100000000
abbrev QiB:=λN b Q n (st:St)=>∃c d,Iv (QaG N b n c d) Q ((∃a,st.n=157/\st.t 1=.ept 64 a 6 0 0/\st.t 3=vi c/\st.t 4=vi d/\st.s 64=some (a,.arr true 28 6 [e28 b] 0)))
abbrev QiC:=λN d Q n (st:St)=>∃e c,Iv (QbO N d n e c) Q ((∃a b,st.n=35/\st.s 320=some (a,.arr false 49 1 (c.map e49) 0)/\st.t 1=.ept 64 b 13 0 0/\st.t 3=.osl 320 a 1 0 c.length/\st.t 4=vi e/\st.s 64=some (b,.arr true 38 13 [e38 d] 0)))
abbrev Qia:=λN a k Q n (st:St)=>∃v10 v11,Iv (QaP N a k n v10 v11) Q ((∃e g i,st.n=202/\st.s 5760=some (e,.arr false 139 4 (v11.map X0) 0)/\st.t 1=vu k/\st.t 2=.ept 128 g 16 0 0/\st.t 4=.ept 256 i 16 0 0/\st.t 14=vi v10/\st.s 128=some (g,.arr true 147 16 [[vi a.h.c.W,vi a.h.c.p,s49 a.h.w,.osl 5760 e 4 0 v11.length,vi a.h.s,vi a.h.b,s49 a.o,s3 a.t,s49 a.q,vi a.d,vi a.r.j,vi a.r.K,vi a.r.F,vi a.r.E,vi a.r.f,vi a.r.y]] 0)/\st.s 256=some (i,.arr true 147 16 [[vi 0,vi 0,.nsl,.nsl,vi 0,vi 0,.nsl,.nsl,.nsl,vi 0,vi 0,vi 0,vi 0,vi 0,vi 0,vi 0]] 0)))
abbrev Qki:=λN d f Q n (st:St)=>∃g h e,Iv (Qbo N d f n g h e) Q ((∃a b c,st.n=57/\st.s 1280=some (a,.arr false 141 3 (e.map KN) 0)/\st.t 1=s49 f/\st.t 2=.ept 128 b 3 0 0/\st.t 4=.ept 256 c 3 0 0/\st.t 6=vi g/\st.t 7=vi h/\st.s 128=some (b,.arr true 32 3 [[.osl 1280 a 3 0 e.length,Xew d.x,s3 d.i]] 0)/\st.s 256=some (c,.arr true 32 3 [[.nsl,.nsl,.nsl]] 0)))
abbrev Qjn:=λN b Q n (st:St)=>∃c,Iv (QdH N b n c) Q ((∃a,st.n=154/\st.t 1=.ept 64 a 10 0 0/\st.t 3=vi c/\st.s 64=some (a,.arr true 42 10 [e42 b] 0)))
abbrev Qjo:=λN e b Q n (st:St)=>∃c,Iv (QdI N e b n c) Q ((∃a d,st.n=154/\st.s 4928=some (a,.arr false 49 1 (b.map e49) 0)/\st.t 1=.ept 64 d 10 0 0/\st.t 5=.osl 4928 a 1 0 b.length/\st.t 6=vi c/\st.s 64=some (d,.arr true 42 10 [e42 e] 0)))
abbrev Qjp:=λN d b Q n (st:St)=>∃v15,Iv (QdJ N d b n v15) Q ((∃a c,st.n=154/\st.s 4928=some (a,.arr false 49 1 (b.map e49) 0)/\st.t 1=.ept 64 c 10 0 0/\st.t 5=.osl 4928 a 1 0 b.length/\st.t 7=vi v15/\st.s 64=some (c,.arr true 42 10 [e42 d] 0)))
abbrev QiD:=λN d Q n (st:St)=>∃e c,Iv (Qe7 N d n e c) Q ((∃a b,st.n=35/\st.s 320=some (a,.arr false 49 1 (c.map e49) 0)/\st.t 1=.ept 64 b 10 0 0/\st.t 3=.osl 320 a 1 0 c.length/\st.t 4=vi e/\st.s 64=some (b,.arr true 42 10 [e42 d] 0)))
abbrev QhJ:=λN d e Q n (st:St)=>∃f c,Iv (Qck N d e n f c) Q ((∃a b,st.n=19/\st.s 1024=some (a,.arr false 3 1 (c.map e3) 0)/\st.t 1=.ept 64 b 3 0 0/\st.t 3=.osl 1024 a 1 0 c.length/\st.t 6=vi e/\st.t 7=vi f/\st.s 64=some (b,.arr true 107 3 [Z7 d] 0))\/(∃b,(st.n=19/\st.t 1=.ept 64 b 3 0 0/\st.t 3=.nsl/\st.t 6=vi e/\st.t 7=vi f/\st.s 64=some (b,.arr true 107 3 [Z7 d] 0))/\c=[]))
abbrev Qjq:=λN b Q n (st:St)=>∃c,Iv (QdO N b n c) Q ((∃a,st.n=41/\st.t 3=.ept 192 a 3 0 0/\st.t 27=Xew b.x/\st.t 28=vi b.x.length/\st.t 29=vi c/\st.s 192=some (a,.arr true 186 3 [e32 b] 0)))
abbrev Qkj:=λN c d e f Q n (st:St)=>∃b,Iv (Qe2 N c d e f n b) Q ((∃a,st.n=45/\st.s 1856=some (a,.arr false 139 4 (b.map X0) 0)/\st.t 1=YB c/\st.t 2=vi d/\st.t 3=vi e/\st.t 13=vi f/\st.t 14=.osl 1856 a 4 0 b.length))
def g19:(∀N(a0:Wk),O1 (Qab N a0) 86 [.agg (e28 a0)] (λr=>.v (.bool r)))/\(∀N(a0:W3),O1 (Qd1 N a0) 14 [.agg (e38 a0)] (λr=>s49 r))/\(∀N(a0:Ww)(a1:Int),O1 (QaL N a0 a1) 164 [.agg (JG a0),vu a1] (λr=>.tup [.agg (JG r.1),vu r.2.1,vi r.2.2]))/\(∀N(a0:Wp)(a1:List Int),O1 (Qdi N a0 a1) 32 [.agg (e32 a0),s49 a1] (λr=>.tup [.agg (e32 r.1),vi r.2]))/\(∀N(a0:WM),O1 (QeA N a0) 100 [.agg (e42 a0)] (λr=>.v (.bool r)))/\(∀N(a0:WM),O1 (Qg2 N a0) 178 [.agg (e42 a0)] (λr=>.fsl 49 1 (r.map e49)))/\(∀N(a0:Wv),O1 (Qea N a0) 298 [.agg (Z7 a0)] (λr=>s3 r))/\(∀N(a0:Wp),O1 (QcR N a0) 48 [.agg (e32 a0)] (λr=>.v (.bool r)))/\(∀N(a0:WN)(a1:List Ws)(a2:Int)(a3:Int)(a4:Int),O1 (Qg8 N a0 a1 a2 a3 a4) 333 [.agg (e24 a0),YB a1,vi a2,vi a3,vi a4] (λr=>.tup [YB r.1,vi r.2])):=by
 refine⟨λN _=>rk f86 ?_,λN _=>rk f14 ?_,λN _ _=>rk f164 ?_,λN _ _=>rk f32 ?_,λN _=>rk f100 ?_,λN _=>rq f178 [320] ?_,λN _=>rk f298 ?_,λN _=>rk f48 ?_,λN _ _ _ _ _=>rk f333 ?_⟩<;>(rintro _ hw r hr C _ rfl hwf hf;have hse:=@ZZ _ hw;simp only[f86,f14,f164,f32,f100,f178,f298,f48,f333,Option.get!,Qab,Qd1,QaL,Qdi,QeA,Qg2,Qea,QcR,Qg8]at hr⊢;repeat' first
 |(refine El.el hr ?_;clear hr;intro hr)
 |(with_reducible intro h;refine XH hr h ?_;clear hr;intro hr)
 |with_reducible intro _
 |(refine Xq hr ?_;rintro rfl;have hr:=hk;clear hk)
 |simp only[go_sem,simprocAttr,E,XB,Zj,Y9,Xm,X2,KW,K6,hse]
 |(with_reducible first|apply Xi|apply Xh|apply Xt|apply Xx|apply Xy)
 |((first|with_reducible refine Yy hr ag ?_ ?_|(with_reducible refine Yt hr ?_ ?_;rotate_left;intro p;rotate_right));(·simp only[go_sem,simprocAttr,hse]);intro hp hn hd hr;(try have XB:=hd _ e49;simp only[go_sem,simprocAttr]at XB);(try have Zj:=hd _ VD;simp only[go_sem,simprocAttr]at Zj);(try have Y9:=hd _ Vh;simp only[go_sem,simprocAttr]at Y9);(try have Xm:=hd _ X0;simp only[go_sem,simprocAttr]at Xm);(try have X2:=hd _ KN;simp only[go_sem,simprocAttr]at X2);(try have KW:=hd _ Xce;simp only[go_sem,simprocAttr]at KW);(try have K6:=hd _ Xev;simp only[go_sem,simprocAttr]at K6))
 |(refine Xu ?_ ?_;.first|assumption|omega)
 |(with_reducible first|refine CallX.c ?_ _|refine OK.c hr hw ?_ (λy hr=>?_) _|refine OK.d hr hw ?_ (λy hr=>?_) _)
 |(with_reducible refine lp (QiB N _) hr N ?_ (λ_ p q=>⟨_,_,_,p,q,?_⟩) _;rintro n1 st ⟨_,_,_,hr,hk,⟨_,E⟩⟩<;>(obtain _|n1:=n1<;>rw[QaG]at hr))
 |refine⟨_,WD _,_,_,_,hr,hk,?_⟩
 |(with_reducible refine lp (QiC N _) hr N ?_ (λ_ p q=>⟨_,_,_,p,q,?_⟩) _;rintro n1 st ⟨_,_,_,hr,hk,⟨_,_,E⟩⟩<;>(obtain _|n1:=n1<;>rw[QbO]at hr))
 |(with_reducible refine lp (Qia N _ _) hr N ?_ (λ_ p q=>⟨_,_,_,p,q,?_⟩) _;rintro n1 st ⟨_,_,_,hr,hk,⟨_,_,_,E⟩⟩<;>(obtain _|n1:=n1<;>rw[QaP]at hr))
 |(with_reducible refine lp (Qki N _ _) hr N ?_ (λ_ p q=>⟨_,_,_,_,p,q,?_⟩) _;rintro n1 st ⟨_,_,_,_,hr,hk,⟨_,_,_,E⟩⟩<;>(obtain _|n1:=n1<;>rw[Qbo]at hr))
 |refine⟨_,WD _,_,_,_,_,hr,hk,?_⟩
 |(with_reducible refine lp (Qjn N _) hr N ?_ (λ_ p q=>⟨_,_,p,q,?_⟩) _;rintro n1 st ⟨_,_,hr,hk,⟨_,E⟩⟩<;>(obtain _|n1:=n1<;>rw[QdH]at hr))
 |refine⟨_,WD _,_,_,hr,hk,?_⟩
 |(with_reducible refine lp (Qjo N _ _) hr N ?_ (λ_ p q=>⟨_,_,p,q,?_⟩) _;rintro n2 st ⟨_,_,hr,hk,⟨_,_,E⟩⟩<;>(obtain _|n2:=n2<;>rw[QdI]at hr))
 |(with_reducible refine lp (Qjp N _ _) hr N ?_ (λ_ p q=>⟨_,_,p,q,?_⟩) _;rintro n3 st ⟨_,_,hr,hk,⟨_,_,E⟩⟩<;>(obtain _|n3:=n3<;>rw[QdJ]at hr))
 |(with_reducible refine lp (QiD N _) hr N ?_ (λ_ p q=>⟨_,_,_,p,q,?_⟩) _;rintro n1 st ⟨_,_,_,hr,hk,⟨_,_,E⟩⟩<;>(obtain _|n1:=n1<;>rw[Qe7]at hr))
 |(with_reducible refine lp (QhJ N _ _) hr N ?_ (λ_ p q=>⟨_,_,_,p,q,?_⟩) _;rintro n1 st ⟨_,_,_,hr,hk,(⟨_,_,E⟩|⟨_,E,z0⟩)⟩<;>(try subst z0)<;>(obtain _|n1:=n1<;>rw[Qck]at hr))
 |(with_reducible refine lp (Qjq N _) hr N ?_ (λ_ p q=>⟨_,_,p,q,?_⟩) _;rintro n1 st ⟨_,_,hr,hk,⟨_,E⟩⟩<;>(obtain _|n1:=n1<;>rw[QdO]at hr))
 |(with_reducible refine lp (Qkj N _ _ _ _) hr N ?_ (λ_ p q=>⟨_,_,p,q,?_⟩) _;rintro n1 st ⟨_,_,hr,hk,⟨_,E⟩⟩<;>(obtain _|n1:=n1<;>rw[Qe2]at hr))
 |refine dq 14 1 hf [(0,[320],[]),(1,[],[320]),(2,[],[320]),(3,[320],[]),(4,[],[320]),(5,[],[320]),(7,[320],[])] ?_
 |refine dq 32 11 hf [(9,[1280],[])] ?_
 |refine dq 100 21 hf [(17,[],[9664]),(20,[9664],[])] ?_
 |refine dq 178 1 hf [(0,[320],[]),(1,[],[320]),(2,[],[320]),(3,[320],[]),(4,[],[320]),(5,[],[320]),(7,[320],[])] ?_
 |refine dp ?_
 |(refine Xq hr ?_;rintro rfl;with_reducible refine XQ ?_)
 |exact YE hr
 |((first|refine XH (c:=true) hr rfl ?_|refine XH (c:=false) hr rfl ?_|refine XH hr ag ?_);intro hr))
abbrev Qle:=g19.1
abbrev Qlf:=g19.2.1
abbrev Qkk:=g19.2.2.1
abbrev Qm6:=g19.2.2.2.1
abbrev Ql0:=g19.2.2.2.2.1
abbrev Qlg:=g19.2.2.2.2.2.1
abbrev QiE:=g19.2.2.2.2.2.2.1
abbrev Ql1:=g19.2.2.2.2.2.2.2.1
abbrev Qm7:=g19.2.2.2.2.2.2.2.2
attribute [instance] Qle Qlf Qkk Qm6 Ql0 Qlg QiE Ql1 Qm7
def Qhe{C:Cx}{N:Nat}{a0:Ww}{a1:Int}{β:Type}{k:Int × Int × Int × List Ws × List Int → Option β}{r:β}{dst:Option Nat}{st:St}{K:St → Prop}{wb w1 w3:Nat}(hw:GW C.G)(hr:bnd (QcC N a0 a1) k=some r)(p wp w4 w5:Nat)(hp:p=51840\/p=210816)(E0:st.s 51584=some (w1,.arr false 49 1 (a0.h.w.map e49) 0))(E1:st.s p=some (wp,.arr false 139 4 (a0.h.p.map X0) 0))(E2:st.s 52288=some (w3,.arr false 49 1 (a0.o.map e49) 0))(E3:st.s 52480=some (w4,.arr false 3 1 (a0.t.map e3) 0))(E4:st.s 52672=some (w5,.arr false 49 1 (a0.q.map e49) 0))(E5:st.s 51264=some (wb,.arr true 386 16 [[vi a0.h.c.W,vi a0.h.c.p,.osl 51584 w1 1 0 a0.h.w.length,.osl p wp 4 0 a0.h.p.length,vi a0.h.s,vi a0.h.b,.osl 52288 w3 1 0 a0.o.length,.osl 52480 w4 1 0 a0.t.length,.osl 52672 w5 1 0 a0.q.length,vi a0.d,vi a0.r.j,vi a0.r.K,vi a0.r.F,vi a0.r.E,vi a0.r.f,vi a0.r.y]] 0))(hK:∀y,k y=some r→∀s' kk,∀p wp w4 w5,(p=51840\/p=210816)→FwH s' wb w1 p wp w3 w4 w5 (Ww.mk (Wk.mk a0.h.c a0.h.w y.2.2.2.1 a0.h.s a0.h.b) a0.o y.2.2.2.2 a0.q a0.d a0.r)→K (nxS st (XS dst st.n) (.tup [vi y.1,vi y.2.1,vi y.2.2.1]) (Xjf st.s s') st.n kk))(t:Prf ([.ept 51264 wb 16 0 0,vi a1]:List D)):CallX prog C 364 [.ept 51264 wb 16 0 0,vi a1] dst st K t:=by
 refine Xba hr λy hr hk2=>?_;have E:=And.intro E0 (And.intro E1 (And.intro E2 (And.intro E3 (And.intro E4 E5))));clear E0 E1 E2 E3 E4 E5;have hse:=@ZZ _ hw;rcases hp with rfl|rfl<;>(refine CallX.inl (f:=364) 3200 (fn:=f364) (rs:=[.tmp 4,.tmp 5,.tmp 6]) (nt:=116) 1000 ac (λx=>?_) _;simp only[f364,Option.get!];rw[QcC]at hr;repeat' first
 |(refine El.el hr ?_;clear hr;intro hr)
 |(with_reducible intro h;refine XH hr h ?_;clear hr;intro hr)
 |with_reducible intro _
 |simp only[go_sem,simprocAttr,E,hl3,Xm,hse]
 |(with_reducible first|apply Xi|apply Xh|apply Xt|apply Xx|apply Xy)
 |((first|with_reducible refine Yy hr ag ?_ ?_|(with_reducible refine Yt hr ?_ ?_;rotate_left;intro p;rotate_right));(·simp only[go_sem,simprocAttr,hse]);intro hp hn hd hr;(try have hl3:=hd _ e3;simp only[go_sem,simprocAttr]at hl3);(try have Xm:=hd _ X0;simp only[go_sem,simprocAttr]at Xm))
 |(refine Xu ?_ ?_;.first|assumption|omega)
 |(refine CallX.inl (f:=363) 2400 (fn:=f363) (rs:=[.tmp 2]) (nt:=9) 1000 ac (λx=>?_) _;simp only[f363,Option.get!])
 |(with_reducible first|refine CallX.c ?_ _|refine OK.c hr hw ?_ (λy hr=>?_) _|refine OK.d hr hw ?_ (λy hr=>?_) _)
 |refine dqi 3200 364 10 ⟨⟩ [(8,[51840,210816],[])] ?_
 |refine dp ?_
 |exact YE hr
 |(refine Xq hr ?_;rintro rfl;(try simp only[go_sem,simprocAttr,E,hl3,Xm,hse]);first|(apply Xgo (K:=λs=>K (nxS _ _ _ s _ _)) (λp wp w4 w5 hp h=>hK _ hk2 _ _ p wp w4 w5 hp h) 51840 (hp:=.inl rfl);refine⟨?_,?_,?_,?_,?_,?_⟩;(iterate 6 (·first|rfl|(simp only[go_sem,simprocAttr,E,hl3,Xm,hse];(repeat' first|rfl|refine⟨?_,?_⟩);done)));(intro i hi;first|rfl|exact hl0 i hi|(simp only[Zf,ZQ,KG,XD,VJ hi,hi,simprocAttr,if_true,if_false];first|done|exact hl0 i hi)|(simp only[Zf,ZQ,KG,XD,VJ hi,hi,simprocAttr,if_true,if_false])))|(apply Xgo (K:=λs=>K (nxS _ _ _ s _ _)) (λp wp w4 w5 hp h=>hK _ hk2 _ _ p wp w4 w5 hp h) 210816 (hp:=.inr rfl);refine⟨?_,?_,?_,?_,?_,?_⟩;(iterate 6 (·first|rfl|(simp only[go_sem,simprocAttr,E,hl3,Xm,hse];(repeat' first|rfl|refine⟨?_,?_⟩);done)));(intro i hi;first|rfl|exact hl0 i hi|(simp only[Zf,ZQ,KG,XD,VJ hi,hi,simprocAttr,if_true,if_false];first|done|exact hl0 i hi)|(simp only[Zf,ZQ,KG,XD,VJ hi,hi,simprocAttr,if_true,if_false]))))
 |(with_reducible apply XcW;(·simp only[go_sem,simprocAttr,E,hl3,Xm,hse];repeat' first|rfl|refine⟨?_,?_⟩);(·simp only[Z0,snap,go_sem,simprocAttr,E,hl3,Xm,hse];repeat' first|rfl|refine⟨?_,?_⟩);(·simp only[go_sem,simprocAttr,E,hl3,Xm,hse];first|done|omega|(simp;omega))))
def g18:(∀N(a0:Wk)(a1:Int)(a2:Int),O1 (Qg1 N a0 a1 a2) 344 [.agg (e28 a0),vi a1,vi a2] (λr=>vu r))/\(∀N(a0:Ww)(a1:Int),O1 (QcM N a0 a1) 90 [.agg (JG a0),vu a1] (λr=>vu r))/\(∀N(a0:WN)(a1:List Ws)(a2:Int)(a3:Int)(a4:Int),O1 (QdU N a0 a1 a2 a3 a4) 322 [.agg (e24 a0),YB a1,vi a2,vi a3,vi a4] (λr=>.tup [YB r.1,vi r.2]))/\(∀N(a0:Wp)(a1:Int)(a2:Int),O1 (Qd4 N a0 a1 a2) 191 [.agg (e32 a0),vi a1,vi a2] (λr=>.tup [.agg (e32 r.1),vi r.2]))/\(∀N(a0:Wk)(a1:Int)(a2:Int),O1 (Qb7 N a0 a1 a2) 258 [.agg (e28 a0),vu a1,vi a2] (λr=>.agg (e28 r)))/\(∀N(a0:WM)(a1:Int),O1 (Qde N a0 a1) 113 [.agg (e42 a0),vu a1] (λr=>.tup [.agg (e42 r.1),vu r.2]))/\(∀N a0 a1,OK (QgM N a0 a1) 309 [.ept 1000000 0 6 0 0,.ept 1000001 0 1 0 0] [.arr true 28 6 [[vi a0.c.W,vi a0.c.p,s49 a0.w,YB a0.p,vi a0.s,vi a0.b]] 0,.arr true 49 1 [[vu a1]] 0] (λr=>vu r) λr=>[.arr true 28 6 [[vi a0.c.W,vi a0.c.p,s49 a0.w,YB a0.p,vi a0.s,vi a0.b]] 0,.arr true 49 1 [[vu a1]] 0])/\(∀N a0 a1,OK (QeO N a0 a1) 132 [vu a0,.ept 1000000 0 1 0 0] [.arr true 25 1 [[s49 a1]] 0] (λr=>.v (.bool r)) λr=>[.arr true 25 1 [[s49 a1]] 0])/\(∀N(a0:Wv),O1 (Qf3 N a0) 334 [.agg (Z7 a0)] (λr=>.tup [vu r.1,vi r.2]))/\(∀N(a0:Ww)(a1:Int),O1 (Qf4 N a0 a1) 354 [.agg (Xgn a0),vu a1] (λr=>vu r)):=by
 refine⟨λN _ _ _=>rk f344 ?_,λN _ _=>rk f90 ?_,λN _ _ _ _ _=>rk f322 ?_,λN _ _ _=>rk f191 ?_,λN _ _ _=>rk f258 ?_,λN _ _=>rk f113 ?_,λN _ _=>rk f309 ?_,λN _ _=>rk f132 ?_,λN _=>rk f334 ?_,λN _ _=>rk f354 ?_⟩<;>(rintro _ hw r hr C _ rfl hwf hf;have hse:=@ZZ _ hw;simp only[f344,f90,f322,f191,f258,f113,f309,f132,f334,f354,Option.get!,Qg1,QcM,QdU,Qd4,Qb7,Qde,QgM,QeO,Qf3,Qf4]at hr⊢;repeat' first
 |(refine El.el hr ?_;clear hr;intro hr)
 |(with_reducible intro h;refine XH hr h ?_;clear hr;intro hr)
 |with_reducible intro _
 |simp only[go_sem,simprocAttr,XB,Xm,X2,hse]
 |(with_reducible first|apply Xi|apply Xh|apply Xt|apply Xx|apply Xy)
 |((first|with_reducible refine Yy hr ag ?_ ?_|(with_reducible refine Yt hr ?_ ?_;rotate_left;intro p;rotate_right));(·simp only[go_sem,simprocAttr,hse]);intro hp hn hd hr;(try have XB:=hd _ e49;simp only[go_sem,simprocAttr]at XB);(try have Xm:=hd _ X0;simp only[go_sem,simprocAttr]at Xm);(try have X2:=hd _ KN;simp only[go_sem,simprocAttr]at X2))
 |(refine Xu ?_ ?_;.first|assumption|omega)
 |(with_reducible first|refine CallX.c ?_ _|refine OK.c hr hw ?_ (λy hr=>?_) _|refine OK.d hr hw ?_ (λy hr=>?_) _)
 |refine dq 258 2 hf [(12,[448],[])] ?_
 |(refine Xq hr ?_;rintro rfl;with_reducible refine XQ ?_)
 |exact YE hr)
abbrev Qm8:=g18.1
abbrev Ql2:=g18.2.1
abbrev Ql3:=g18.2.2.1
abbrev Qlh:=g18.2.2.2.1
abbrev Ql4:=g18.2.2.2.2.1
abbrev Ql5:=g18.2.2.2.2.2.1
abbrev Qkl:=g18.2.2.2.2.2.2.1
abbrev Qib:=g18.2.2.2.2.2.2.2.1
abbrev Qkm:=g18.2.2.2.2.2.2.2.2.1
abbrev Qkn:=g18.2.2.2.2.2.2.2.2.2
attribute [instance] Qm8 Ql2 Ql3 Qlh Ql4 Ql5 Qkl Qib Qkm Qkn
end Go.Sx
