import Derived.Test.YtokkmapiallffaaGreatWG1
set_option linter.all false
namespace Go.Sx
open Go.Proofs Tryz
set_option maxRecDepth 10000
set_option maxHeartbeats 100000000
def g14:(∀N(a0:Int),O1 (Qcw N a0) 164 [vu a0] (λr=>.tup [.agg (e59 r.1),.v (.bool r.2)]))/\(∀N(a0:Wu)(a1:Int),O1 (Qcy N a0 a1) 284 [.agg (Jz a0),vi a1] (λr=>.tup [.agg (Jz r.1),vu r.2.1,.v (.bool r.2.2)]))/\(∀N(a0:Wh)(a1:Int),O1 (Qek N a0 a1) 289 [.agg (e28 a0),vi a1] (λr=>.tup [.agg (e28 r.1),vu r.2.1,.v (.bool r.2.2)]))/\(∀N(a0:WG)(a1:Int)(a2:Int),O1 (QcE N a0 a1 a2) 205 [.agg (e35 a0),vi a1,vi a2] (λr=>.tup [.agg (e35 r.1),vi r.2]))/\(∀N(a0:WQ)(a1:Int)(a2:Int),O1 (QeF N a0 a1 a2) 128 [.agg (e42 a0),vi a1,vu a2] (λr=>.tup [.agg (e42 r.1),vu r.2]))/\(∀N(a0:List W8),O1 (QaF N a0) 101 [s96 a0,.clo (.func 102) [] []] (λr=>.v (.bool r)))/\(∀N(a0:WR)(a1:Int),O1 (QeS N a0 a1) 85 [.agg (e24 a0),vi a1] (λr=>vi r))/\(∀N(a0:List Int)(a1:Int),O1 (Qgd N a0 a1) 231 [s52 a0,vu a1] (λr=>.tup [vu r.1,vi r.2]))/\(∀N(a0:Int),O1 (QeI N a0) 221 [vu a0] (λr=>.tup [vu r.1,.v (.bool r.2)]))/\(∀N(a0:Um),O1 (QgP N a0) 25 [.agg (e38 a0)] (λr=>.agg [vi r.h.c.W,vi r.h.c.p,s52 r.h.w,Yz r.h.p,vi r.h.s,vi r.h.b,Xcv r.l.S,Xcu r.l.x,s3 r.l.i,s96 r.g.e,s96 r.v.e,.fsl 93 2 (r.P.map e93),.fsl 52 1 (r.R.map e52)])):=by
 refine⟨λN _=>rk f164 ?_,λN _ _=>rk f284 ?_,λN _ _=>rk f289 ?_,λN _ _ _=>rk f205 ?_,λN _ _ _=>rk f128 ?_,λN _=>rk f101 ?_,λN _ _=>rk f85 ?_,λN _ _=>rk f231 ?_,λN _=>rk f221 ?_,λN _=>rq f25 [1088,1280] ?_⟩<;>(rintro _ hw r hr C _ rfl hwf hf;have hse:=@Z3 _ hw;simp only[f164,f284,f289,f205,f128,f101,f85,f231,f221,f25,Option.get!,Qcw,Qcy,Qek,QcE,QeF,QaF,QeS,Qgd,QeI,QgP]at hr⊢;repeat' first
 |(refine El.el hr ?_;clear hr;intro hr)
 |(with_reducible intro h;refine XJ hr h ?_;clear hr;intro hr)
 |with_reducible intro _
 |simp only[go_sem,simprocAttr,hl3,XA,Xk,hse]
 |(with_reducible first|apply Xj|apply Xi|apply Xw|apply Xs|apply Xt)
 |((first|with_reducible refine Yy hr ah ?_ ?_|(with_reducible refine Yr hr ?_ ?_;rotate_left;intro p;rotate_right));(·simp only[go_sem,simprocAttr,hse]);intro hp hn hd hr;(try have hl3:=hd _ e3;simp only[go_sem,simprocAttr]at hl3);(try have XA:=hd _ e52;simp only[go_sem,simprocAttr]at XA);(try have Xk:=hd _ XX;simp only[go_sem,simprocAttr]at Xk))
 |(refine Xx ?_ ?_;.first|assumption|omega)
 |(with_reducible refine Xes hr ?_ ?_;(·simp only[go_sem]);intro p hp hn hd hr;(try have hl3:=hd _ e3;simp only[go_sem,simprocAttr]at hl3);(try have XA:=hd _ e52;simp only[go_sem,simprocAttr]at XA);(try have Xk:=hd _ XX;simp only[go_sem,simprocAttr]at Xk))
 |(with_reducible first|refine CallX.c ?_ _|refine OK.c hr hw ?_ (λy hr=>?_) _|refine OK.d hr hw ?_ (λy hr=>?_) _)
 |refine dq 284 12 hf [(15,[640,4160],[])] ?_
 |refine dq 289 12 hf [(13,[704,4672],[])] ?_
 |refine dq 25 1 hf [(14,[1088],[]),(15,[],[1088]),(16,[],[1088]),(17,[1280],[]),(19,[128],[])] ?_
 |refine dp ?_
 |(refine Xp hr ?_;rintro rfl;with_reducible refine XT ?_)
 |exact YH hr)
abbrev QkO:=g14.1
abbrev Qlz:=g14.2.1
abbrev QlA:=g14.2.2.1
abbrev QkP:=g14.2.2.2.1
abbrev QjR:=g14.2.2.2.2.1
abbrev QeC:=g14.2.2.2.2.2.1
abbrev Qno:=g14.2.2.2.2.2.2.1
abbrev Qmw:=g14.2.2.2.2.2.2.2.1
abbrev QjS:=g14.2.2.2.2.2.2.2.2.1
abbrev Qmx:=g14.2.2.2.2.2.2.2.2.2
attribute [instance] QkO Qlz QlA QkP QjR QeC Qno Qmw QjS Qmx
def g13:(∀N(a0:List Int)(a1:Int),O1 (Qbi N a0 a1) 163 [s52 a0,vu a1] (λr=>.tup [vu r.1,vi r.2]))/\(∀N(a0:List Int)(a1:Int)(a2:Int),O1 (QdD N a0 a1 a2) 262 [s52 a0,vu a1,vu a2] (λr=>.tup [s52 r.1,vi r.2]))/\(∀N(a0:Ws)(a1:Int),O1 (Qej N a0 a1) 193 [.agg (e32 a0),vu a1] (λr=>.tup [.agg (e32 r.1),vi r.2.1,vi r.2.2.1,vi r.2.2.2]))/\(∀N(a0:Ws)(a1:Int)(a2:Int),O1 (QeO N a0 a1 a2) 215 [.agg (e32 a0),vi a1,vi a2] (λr=>.tup [vu r.1,vi r.2]))/\(∀N(a0:Ws),O1 (QeP N a0) 131 [.agg (e32 a0)] (λr=>.tup [.agg (e32 r.1),vi r.2]))/\(∀N a0 a1,OK (QcT N a0 a1) 21 [.agg (e44 a0),.ept 1000000 0 2 0 0] [.arr true 62 2 [[s3 a1.L,vi a1.at_]] 0] (λr=>.agg (e80 r.1)) λr=>[.arr true 62 2 [[s3 r.2.L,vi r.2.at_]] 0])/\(∀N(a0:List (List Int)),O1 (Qgb N a0) 50 [s25 a0] (λr=>s52 r))/\(∀N(a0:Int),O1 (QdY N a0) 225 [vu a0] (λr=>.tup [.agg (e59 r.1),.v (.bool r.2)]))/\(∀N(a0:List UE)(a1:Int),O1 (QfF N a0 a1) 168 [s93 a0,vu a1] (λr=>vi r))/\(∀N(a0:Wu)(a1:Int),O1 (Qd7 N a0 a1) 139 [.agg (Xgj a0),vi a1] (λr=>.v (.bool r))):=by
 refine⟨λN _ _=>rk f163 ?_,λN _ _ _=>rk f262 ?_,λN _ _=>rk f193 ?_,λN _ _ _=>rk f215 ?_,λN _=>rk f131 ?_,λN _ _=>rk f21 ?_,λN _=>rk f50 ?_,λN _=>rk f225 ?_,λN _ _=>rk f168 ?_,λN _ _=>rk f139 ?_⟩<;>(rintro _ hw r hr C _ rfl hwf hf;have hse:=@Z3 _ hw;simp only[f163,f262,f193,f215,f131,f21,f50,f225,f168,f139,Option.get!,Qbi,QdD,Qej,QeO,QeP,QcT,Qgb,QdY,QfF,Qd7]at hr⊢;repeat' first
 |(refine El.el hr ?_;clear hr;intro hr)
 |(with_reducible intro h;refine XJ hr h ?_;clear hr;intro hr)
 |with_reducible intro _
 |simp only[go_sem,simprocAttr,hl3,XA,Xk,ZJ,X2,hse]
 |(with_reducible first|apply Xj|apply Xi|apply Xw|apply Xs|apply Xt)
 |((first|with_reducible refine Yy hr ah ?_ ?_|(with_reducible refine Yr hr ?_ ?_;rotate_left;intro p;rotate_right));(·simp only[go_sem,simprocAttr,hse]);intro hp hn hd hr;(try have hl3:=hd _ e3;simp only[go_sem,simprocAttr]at hl3);(try have XA:=hd _ e52;simp only[go_sem,simprocAttr]at XA);(try have Xk:=hd _ XX;simp only[go_sem,simprocAttr]at Xk);(try have ZJ:=hd _ Xab;simp only[go_sem,simprocAttr]at ZJ);(try have X2:=hd _ KB;simp only[go_sem,simprocAttr]at X2))
 |(refine Xx ?_ ?_;.first|assumption|omega)
 |(with_reducible refine Xes hr ?_ ?_;(·simp only[go_sem]);intro p hp hn hd hr;(try have hl3:=hd _ e3;simp only[go_sem,simprocAttr]at hl3);(try have XA:=hd _ e52;simp only[go_sem,simprocAttr]at XA);(try have Xk:=hd _ XX;simp only[go_sem,simprocAttr]at Xk);(try have ZJ:=hd _ Xab;simp only[go_sem,simprocAttr]at ZJ);(try have X2:=hd _ KB;simp only[go_sem,simprocAttr]at X2))
 |(refine CallX.inl (f:=222) 1600 (fn:=f222) (rs:=[.tmp 4]) (nt:=45) 1000 ae (λx=>?_) _;simp only[f222,Option.get!])
 |(refine CallX.inl (f:=224) 2400 (fn:=f224) (rs:=[.tmp 2]) (nt:=9) 1000 ae (λx=>?_) _;simp only[f224,Option.get!])
 |(with_reducible first|refine CallX.c ?_ _|refine OK.c hr hw ?_ (λy hr=>?_) _|refine OK.d hr hw ?_ (λy hr=>?_) _)
 |refine dq 225 4 hf [(0,[],[384]),(1,[],[384]),(2,[],[384]),(3,[],[384]),(4,[],[384]),(5,[],[384]),(6,[],[384]),(7,[],[384]),(8,[],[384]),(9,[],[384]),(10,[],[384]),(11,[],[384]),(12,[],[384]),(13,[384],[]),(14,[384],[])] ?_
 |refine dp ?_
 |(refine Xp hr ?_;rintro rfl;with_reducible refine XT ?_)
 |exact YH hr
 |(with_reducible apply XcS;(·simp only[go_sem,simprocAttr,hl3,XA,Xk,ZJ,X2,hse];repeat' first|rfl|refine⟨?_,?_⟩);(·simp only[ZS,snap,go_sem,simprocAttr,hl3,XA,Xk,ZJ,X2,hse];repeat' first|rfl|refine⟨?_,?_⟩);(·simp only[go_sem,simprocAttr,hl3,XA,Xk,ZJ,X2,hse];first|done|omega|(simp;omega))))
abbrev Qmy:=g13.1
abbrev QlB:=g13.2.1
abbrev Qnp:=g13.2.2.1
abbrev Qnq:=g13.2.2.2.1
abbrev Qnr:=g13.2.2.2.2.1
abbrev QiZ:=g13.2.2.2.2.2.1
abbrev Qmz:=g13.2.2.2.2.2.2.1
abbrev QjT:=g13.2.2.2.2.2.2.2.1
abbrev QjU:=g13.2.2.2.2.2.2.2.2.1
abbrev QhD:=g13.2.2.2.2.2.2.2.2.2
attribute [instance] Qmy QlB Qnp Qnq Qnr QiZ Qmz QjT QjU QhD
abbrev QjV:=λN d Q n (st:St)=>∃e c,Iv (QbM N d n e c) Q ((∃a b,st.n=32/\st.s 1920=some (a,.arr false 52 1 (c.map e52) 0)/\st.t 1=.ept 64 b 3 0 0/\st.t 3=.osl 1920 a 1 0 c.length/\st.t 4=vi e/\st.s 64=some (b,.arr true 32 3 [e32 d] 0))\/(∃b,(st.n=32/\st.t 1=.ept 64 b 3 0 0/\st.t 3=.nsl/\st.t 4=vi e/\st.s 64=some (b,.arr true 32 3 [e32 d] 0))/\c=[]))
abbrev QjW:=λN b c Q n (st:St)=>∃d,Iv (QcH N b c n d) Q ((∃a,st.n=28/\st.t 1=vi c/\st.t 2=.ept 128 a 2 0 0/\st.t 5=vi d/\st.s 128=some (a,.arr true 24 2 [e24 b] 0)))
abbrev QhE:=λN d Q n (st:St)=>∃e c,Iv (Qb2 N d n e c) Q ((∃a b,st.n=23/\st.s 1344=some (a,.arr false 3 1 (c.map e3) 0)/\st.t 1=.ept 64 b 3 0 0/\st.t 3=.osl 1344 a 1 0 c.length/\st.t 4=vi e/\st.s 64=some (b,.arr true 59 3 [e59 d] 0))\/(∃b,(st.n=23/\st.t 1=.ept 64 b 3 0 0/\st.t 3=.nsl/\st.t 4=vi e/\st.s 64=some (b,.arr true 59 3 [e59 d] 0))/\c=[]))
abbrev QjX:=λN d Q n (st:St)=>∃e f c,Iv (Qbg N d n e f c) Q ((∃a b,st.n=48/\st.s 1344=some (a,.arr false 96 3 (c.map e96) 0)/\st.t 1=s52 d/\st.t 4=.ept 256 b 1 0 0/\st.t 6=.osl 1344 a 3 0 c.length/\st.t 7=vi e/\st.t 8=vi f/\st.s 256=some (b,.arr true 35 1 [[.nsl]] 0)))
abbrev QjY:=λN d Q n (st:St)=>∃e c,Iv (QdV N d n e c) Q ((∃a b,st.n=25/\st.s 1472=some (a,.arr false 52 1 (c.map e52) 0)/\st.t 1=.ept 64 b 4 0 0/\st.t 3=.osl 1472 a 1 0 c.length/\st.t 4=vi e/\st.s 64=some (b,.arr true 198 4 [Xb6 d] 0))\/(∃b,(st.n=25/\st.t 1=.ept 64 b 4 0 0/\st.t 3=.nsl/\st.t 4=vi e/\st.s 64=some (b,.arr true 198 4 [Xb6 d] 0))/\c=[]))
abbrev QfR:=λN a b Q n (st:St)=>∃c d,Iv (Qaq N a b n c d) Q ((st.n=54/\st.t 0=s52 a/\st.t 1=vu b/\st.t 6=vi a.length/\st.t 7=vi c/\st.t 8=vi d))
abbrev QkQ:=λN a Q n (st:St)=>∃b c,Iv (Qbl N a n b c) Q ((st.n=55/\st.t 0=Xov a/\st.t 4=vi b/\st.t 11=Xov a/\st.t 12=vi a.length/\st.t 13=vi c))
abbrev QkR:=λN a Q n (st:St)=>∃b v6 v7,Iv (Qbm N a n b v6 v7) Q ((st.n=55/\st.t 7=vu b/\st.t 8=vi v6/\st.t 31=Xov a/\st.t 32=vi a.length/\st.t 33=vi v7))
abbrev Qif:=λN a Q n (st:St)=>∃i k l g,Iv (QbG N a n i k l g) Q ((∃e,st.n=88/\st.s 960=some (e,.arr false 52 1 (g.map e52) 0)/\st.t 0=.ept 1000000 0 16 0 0/\st.t 2=.ept 1000000 0 16 0 0/\st.t 21=Yz a.h.p/\st.t 22=vi a.h.p.length/\st.t 23=vi i/\st.s 1000000=some (0,.arr true 142 16 [[vi a.h.c.W,vi a.h.c.p,.osl 960 e 1 0 g.length,Yz k,vi a.h.s,vi a.h.b,s52 a.o,s3 a.t,s52 a.q,vi a.d,vi a.r.j,vi a.r.K,vi a.r.F,vi l,vi a.r.f,vi a.r.y]] 0)))
def g15:(∀N(a0:Ws),O1 (QcG N a0) 33 [.agg (e32 a0)] (λr=>s52 r))/\(∀N(a0:WR)(a1:Int),O1 (QeK N a0 a1) 13 [.agg (e24 a0),vi a1] (λr=>vi r))/\(∀N(a0:Wx),O1 (Qfd N a0) 287 [.agg (e59 a0)] (λr=>s3 r))/\(∀N(a0:WG)(a1:List Int),O1 (Qb5 N a0 a1) 112 [.agg (e35 a0),s52 a1] (λr=>.tup [.agg (e35 r.1),vi r.2]))/\(∀N(a0:In),O1 (Qf9 N a0) 189 [.agg (Xb6 a0)] (λr=>s52 r))/\(∀N(a0:List Int)(a1:Int),O1 (Qax N a0 a1) 107 [s52 a0,vu a1] (λr=>.tup [vi r.1,.v (.bool r.2)]))/\(∀N(a0:List Ih),O1 (Qf1 N a0) 242 [Xov a0] (λr=>.tup [vu r.1,vi r.2]))/\(∀N a0,OK (QeA N a0) 70 [.ept 1000000 0 16 0 0] [.arr true 142 16 [[vi a0.h.c.W,vi a0.h.c.p,s52 a0.h.w,Yz a0.h.p,vi a0.h.s,vi a0.h.b,s52 a0.o,s3 a0.t,s52 a0.q,vi a0.d,vi a0.r.j,vi a0.r.K,vi a0.r.F,vi a0.r.E,vi a0.r.f,vi a0.r.y]] 0] (λr=>.tup []) λr=>[.arr true 142 16 [[vi r.h.c.W,vi r.h.c.p,s52 r.h.w,Yz r.h.p,vi r.h.s,vi r.h.b,s52 r.o,s3 r.t,s52 r.q,vi r.d,vi r.r.j,vi r.r.K,vi r.r.F,vi r.r.E,vi r.r.f,vi r.r.y]] 0]):=by
 refine⟨λN _=>rk f33 ?_,λN _ _=>rk f13 ?_,λN _=>rk f287 ?_,λN _ _=>rk f112 ?_,λN _=>rk f189 ?_,λN _ _=>rk f107 ?_,λN _=>rk f242 ?_,λN _=>rk f70 ?_⟩<;>(rintro _ hw r hr C _ rfl hwf hf;simp only[f33,f13,f287,f112,f189,f107,f242,f70,Option.get!,QcG,QeK,Qfd,Qb5,Qf9,Qax,Qf1,QeA]at hr⊢;repeat' first
 |(refine El.el hr ?_;clear hr;intro hr)
 |(with_reducible intro h;refine XJ hr h ?_;clear hr;intro hr)
 |with_reducible intro _
 |(refine Xp hr ?_;rintro rfl;have hr:=hk;clear hk)
 |simp only[go_sem,simprocAttr,E,XA,Zk,Xk,X2,Xos,Wl,Wo,WD]
 |(with_reducible first|apply Xj|apply Xi|apply Xw|apply Xs|apply Xt)
 |((first|with_reducible refine Yy hr ah ?_ ?_|(with_reducible refine Yr hr ?_ ?_;rotate_left;intro p;rotate_right));(·simp only[go_sem,simprocAttr,Wl,Wo,WD]);intro hp hn hd hr;(try have XA:=hd _ e52;simp only[go_sem,simprocAttr]at XA);(try have Zk:=hd _ e96;simp only[go_sem,simprocAttr]at Zk);(try have Xk:=hd _ XX;simp only[go_sem,simprocAttr]at Xk);(try have X2:=hd _ KB;simp only[go_sem,simprocAttr]at X2);(try have Xos:=hd _ Xsg;simp only[go_sem,simprocAttr]at Xos))
 |(refine Xx ?_ ?_;.first|assumption|omega)
 |(with_reducible first|refine CallX.c ?_ _|refine OK.c hr hw ?_ (λy hr=>?_) _)
 |(with_reducible refine lp (QjV N _) hr N ?_ (λ_ p q=>⟨_,_,_,p,q,?_⟩) _;rintro n1 st ⟨_,_,_,hr,hk,(⟨_,_,E⟩|⟨_,E,z0⟩)⟩<;>(try subst z0)<;>(obtain _|n1:=n1<;>rw[QbM]at hr))
 |refine⟨_,Wz _,_,_,_,hr,hk,?_⟩
 |(with_reducible refine lp (QjW N _ _) hr N ?_ (λ_ p q=>⟨_,_,p,q,?_⟩) _;rintro n1 st ⟨_,_,hr,hk,⟨_,E⟩⟩<;>(obtain _|n1:=n1<;>rw[QcH]at hr))
 |refine⟨_,Wz _,_,_,hr,hk,?_⟩
 |(with_reducible refine lp (QhE N _) hr N ?_ (λ_ p q=>⟨_,_,_,p,q,?_⟩) _;rintro n1 st ⟨_,_,_,hr,hk,(⟨_,_,E⟩|⟨_,E,z0⟩)⟩<;>(try subst z0)<;>(obtain _|n1:=n1<;>rw[Qb2]at hr))
 |(with_reducible refine lp (QjX N _) hr N ?_ (λ_ p q=>⟨_,_,_,_,p,q,?_⟩) _;rintro n1 st ⟨_,_,_,_,hr,hk,⟨_,_,E⟩⟩<;>(obtain _|n1:=n1<;>rw[Qbg]at hr))
 |refine⟨_,Wz _,_,_,_,_,hr,hk,?_⟩
 |(with_reducible refine lp (QjY N _) hr N ?_ (λ_ p q=>⟨_,_,_,p,q,?_⟩) _;rintro n1 st ⟨_,_,_,hr,hk,(⟨_,_,E⟩|⟨_,E,z0⟩)⟩<;>(try subst z0)<;>(obtain _|n1:=n1<;>rw[QdV]at hr))
 |(with_reducible refine lp (QfR N _ _) hr N ?_ (λ_ p q=>⟨_,_,_,p,q,?_⟩) _;rintro n1 st ⟨_,_,_,hr,hk,E⟩<;>(obtain _|n1:=n1<;>rw[Qaq]at hr))
 |(with_reducible refine lp (QkQ N _) hr N ?_ (λ_ p q=>⟨_,_,_,p,q,?_⟩) _;rintro n1 st ⟨_,_,_,hr,hk,E⟩<;>(obtain _|n1:=n1<;>rw[Qbl]at hr))
 |(with_reducible refine lp (QkR N _) hr N ?_ (λ_ p q=>⟨_,_,_,_,p,q,?_⟩) _;rintro n2 st ⟨_,_,_,_,hr,hk,E⟩<;>(obtain _|n2:=n2<;>rw[Qbm]at hr))
 |(with_reducible refine lp (Qif N _) hr N ?_ (λ_ p q=>⟨_,_,_,_,_,p,q,?_⟩) _;rintro n1 st ⟨_,_,_,_,_,hr,hk,⟨_,E⟩⟩<;>(obtain _|n1:=n1<;>rw[QbG]at hr))
 |refine⟨_,Wz _,_,_,_,_,_,hr,hk,?_⟩
 |refine dq 70 6 hf [(20,[960],[])] ?_
 |refine dp ?_
 |(refine Xp hr ?_;rintro rfl;with_reducible refine XT ?_)
 |exact YH hr
 |((first|refine XJ (c:=true) hr rfl ?_|refine XJ (c:=false) hr rfl ?_|refine XJ hr ah ?_);intro hr)
 |omega)
abbrev QmA:=g15.1
abbrev QmB:=g15.2.1
abbrev Qi0:=g15.2.2.1
abbrev QmC:=g15.2.2.2.1
abbrev QmD:=g15.2.2.2.2.1
abbrev Qgi:=g15.2.2.2.2.2.1
abbrev Qns:=g15.2.2.2.2.2.2.1
abbrev QkS:=g15.2.2.2.2.2.2.2
attribute [instance] QmA QmB Qi0 QmC QmD Qgi Qns QkS
def g12:(∀N(a0:WR),O1 (QeJ N a0) 54 [.agg (e24 a0)] (λr=>.tup [.agg (e38 r.1),vi r.2]))/\(∀N(a0:Wh)(a1:Int),O1 (Qfo N a0 a1) 254 [.agg (e28 a0),vu a1] (λr=>vi r))/\(∀N(a0:List Int)(a1:Int)(a2:Int)(a3:Int),O1 (Qfp N a0 a1 a2 a3) 285 [s52 a0,vu a1,vu a2,vi a3] (λr=>.tup [s52 r.1,vi r.2]))/\(∀N(a0:Int),O1 (QcC N a0) 203 [vu a0] (λr=>.tup [.agg (XqI r.1),vi r.2]))/\(∀N(a0:Ws)(a1:Int)(a2:Bool),O1 (Qga N a0 a1 a2) 217 [.agg (e32 a0),vi a1,.v (.bool a2)] (λr=>.tup [.agg (e32 r.1),vi r.2]))/\(∀N(a0:WQ)(a1:Int)(a2:Int)(a3:Int),O1 (Qfr N a0 a1 a2 a3) 132 [.agg (e42 a0),vi a1,vu a2,vu a3] (λr=>.tup [.agg (e42 r.1),vu r.2]))/\(∀N(a0:List Int),O1 (Qbu N a0) 96 [s3 a0,.clo (.func 97) [] []] (λr=>.v (.bool r)))/\(∀N(a0:Wx),O1 (Qbq N a0) 86 [.agg (e59 a0)] (λr=>vi r))/\(∀N(a0:Wx)(a1:Int),O1 (Qfh N a0 a1) 273 [.agg (e59 a0),vi a1] (λr=>.v (.bool r)))/\(∀N(a0:List Wr)(a1:Int)(a2:Int),O1 (Qef N a0 a1 a2) 157 [Yz a0,vi a1,vi a2] (λr=>.tup [.fsl 122 4 (r.1.map XX),vi r.2]))/\(∀N(a0:WR),O1 (Qku N a0) 34 [.agg (e24 a0)] (λr=>.tup [.agg (e38 r.1),vi r.2])):=by
 refine⟨λN _=>rk f54 ?_,λN _ _=>rk f254 ?_,λN _ _ _ _=>rk f285 ?_,λN _=>rk f203 ?_,λN _ _ _=>rk f217 ?_,λN _ _ _ _=>rk f132 ?_,λN _=>rk f96 ?_,λN _=>rk f86 ?_,λN _ _=>rk f273 ?_,λN _ _ _=>rq f157 [1152] ?_,λN _=>rk f34 ?_⟩<;>(rintro _ hw r hr C _ rfl hwf hf;simp only[f54,f254,f285,f203,f217,f132,f96,f86,f273,f157,f34,Option.get!,QeJ,Qfo,Qfp,QcC,Qga,Qfr,Qbu,Qbq,Qfh,Qef,Qku]at hr⊢;repeat' first
 |(refine El.el hr ?_;clear hr;intro hr)
 |(with_reducible intro h;refine XJ hr h ?_;clear hr;intro hr)
 |with_reducible intro _
 |simp only[go_sem,simprocAttr,JL,Wl,Wo,WD]
 |(with_reducible first|apply Xj|apply Xi|apply Xw|apply Xs|apply Xt)
 |((first|with_reducible refine Yy hr ah ?_ ?_|(with_reducible refine Yr hr ?_ ?_;rotate_left;intro p;rotate_right));(·simp only[go_sem,simprocAttr,Wl,Wo,WD]);intro hp hn hd hr;(try have JL:=hd _ Xgi;simp only[go_sem,simprocAttr]at JL))
 |(refine Xx ?_ ?_;.first|assumption|omega)
 |(with_reducible first|refine CallX.c ?_ _|refine OK.c hr hw ?_ (λy hr=>?_) _)
 |refine dq 217 7 hf [(0,[2176],[2816]),(1,[],[2176,2816]),(2,[],[2176,2816]),(3,[2176],[2816]),(4,[],[2176]),(5,[],[2176]),(6,[],[2176]),(7,[],[2176]),(8,[],[2176]),(9,[],[2176]),(10,[2816],[2176]),(11,[2176],[]),(13,[192],[])] ?_
 |refine dq 132 6 hf [(9,[896],[]),(11,[256],[])] ?_
 |refine dq 132 10 hf [(1,[],[512]),(2,[],[512]),(3,[],[512]),(4,[],[512]),(5,[],[512]),(6,[],[512]),(7,[512],[])] ?_
 |(refine Xp hr ?_;rintro rfl;with_reducible refine XT ?_)
 |exact YH hr
 |with_reducible refine XqO (λhi=>?_) (λhi=>?_)
 |(exfalso;omega))
abbrev Qnt:=g12.1
abbrev QmE:=g12.2.1
abbrev QmF:=g12.2.2.1
abbrev QkT:=g12.2.2.2.1
abbrev QmG:=g12.2.2.2.2.1
abbrev QmH:=g12.2.2.2.2.2.1
abbrev Qf5:=g12.2.2.2.2.2.2.1
abbrev QlC:=g12.2.2.2.2.2.2.2.1
abbrev Qi1:=g12.2.2.2.2.2.2.2.2.1
abbrev QmI:=g12.2.2.2.2.2.2.2.2.2.1
abbrev QnT:=g12.2.2.2.2.2.2.2.2.2.2
attribute [instance] Qnt QmE QmF QkT QmG QmH Qf5 QlC Qi1 QmI QnT
def Qgj{C:Cx}{N:Nat}{a0:Wu}{a1:Int}{β:Type}{k:Bool → Option β}{r:β}{dst:Option Nat}{st:St}{K:St → Prop}{wb w1 w3:Nat}(hw:GW C.G)(hr:bnd (QcV N a0 a1) k=some r)(p wp w4 w5:Nat)(hp:p=51840\/p=210816)(E0:st.s 51584=some (w1,.arr false 52 1 (a0.h.w.map e52) 0))(E1:st.s p=some (wp,.arr false 122 4 (a0.h.p.map XX) 0))(E2:st.s 52288=some (w3,.arr false 52 1 (a0.o.map e52) 0))(E3:st.s 52480=some (w4,.arr false 3 1 (a0.t.map e3) 0))(E4:st.s 52672=some (w5,.arr false 52 1 (a0.q.map e52) 0))(E5:st.s 51264=some (wb,.arr true 210 16 [[vi a0.h.c.W,vi a0.h.c.p,.osl 51584 w1 1 0 a0.h.w.length,.osl p wp 4 0 a0.h.p.length,vi a0.h.s,vi a0.h.b,.osl 52288 w3 1 0 a0.o.length,.osl 52480 w4 1 0 a0.t.length,.osl 52672 w5 1 0 a0.q.length,vi a0.d,vi a0.r.j,vi a0.r.K,vi a0.r.F,vi a0.r.E,vi a0.r.f,vi a0.r.y]] 0))(hK:∀y,k y=some r→∀s' kk,FwH s' wb w1 p wp w3 w4 w5 a0→K (nxS st (XS dst st.n) (.v (.bool y)) (Xi1 st.s s') st.n kk))(t:Prf ([.ept 51264 wb 16 0 0,vi a1]:List D)):CallX prog C 222 [.ept 51264 wb 16 0 0,vi a1] dst st K t:=by
 refine Xa3 hr λy hr hk2=>?_;have E:=And.intro E0 (And.intro E1 (And.intro E2 (And.intro E3 (And.intro E4 E5))));clear E0 E1 E2 E3 E4 E5;have hse:=@Z3 _ hw;rcases hp with rfl|rfl<;>(refine CallX.inl (f:=222) 1600 (fn:=f222) (rs:=[.tmp 4]) (nt:=45) 1000 ae (λx=>?_) _;simp only[f222,Option.get!];rw[QcV]at hr;repeat' first
 |(refine El.el hr ?_;clear hr;intro hr)
 |(with_reducible intro h;refine XJ hr h ?_;clear hr;intro hr)
 |with_reducible intro _
 |simp only[go_sem,simprocAttr,E,Xk,hse]
 |(with_reducible first|apply Xj|apply Xi|apply Xw|apply Xs|apply Xt)
 |((first|with_reducible refine Yy hr ah ?_ ?_|(with_reducible refine Yr hr ?_ ?_;rotate_left;intro p;rotate_right));(·simp only[go_sem,simprocAttr,hse]);intro hp hn hd hr;(try have Xk:=hd _ XX;simp only[go_sem,simprocAttr]at Xk))
 |(refine Xx ?_ ?_;.first|assumption|omega)
 |(refine CallX.inl (f:=224) 2400 (fn:=f224) (rs:=[.tmp 2]) (nt:=9) 1000 ae (λx=>?_) _;simp only[f224,Option.get!])
 |(with_reducible first|refine CallX.c ?_ _|refine OK.c hr hw ?_ (λy hr=>?_) _|refine OK.d hr hw ?_ (λy hr=>?_) _)
 |refine dp ?_
 |exact YH hr
 |(refine Xp hr ?_;rintro rfl;(try simp only[go_sem,simprocAttr,E,Xk,hse]);refine Xq5 (K:=λs=>K (nxS _ _ _ s _ _)) (λh=>hK _ hk2 _ _ h) ?_ ?_;refine⟨?_,?_,?_,?_,?_,?_⟩;(iterate 6 (·first|rfl|(simp only[go_sem,simprocAttr,E,Xk,hse];(repeat' first|rfl|refine⟨?_,?_⟩);done)));(intro i hi;first|rfl|exact hl0 i hi|(simp only[Y7,ZL,Ku,XB,VH hi,hi,simprocAttr,if_true,if_false];first|done|exact hl0 i hi)|(simp only[Y7,ZL,Ku,XB,VH hi,hi,simprocAttr,if_true,if_false])))
 |(with_reducible apply XcS;(·simp only[go_sem,simprocAttr,E,Xk,hse];repeat' first|rfl|refine⟨?_,?_⟩);(·simp only[ZS,snap,go_sem,simprocAttr,E,Xk,hse];repeat' first|rfl|refine⟨?_,?_⟩);(·simp only[go_sem,simprocAttr,E,Xk,hse];first|done|omega|(simp;omega))))
end Go.Sx
