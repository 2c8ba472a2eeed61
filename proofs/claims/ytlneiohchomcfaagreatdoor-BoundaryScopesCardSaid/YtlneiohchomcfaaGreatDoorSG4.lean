import Derived.Test.YtlneiohchomcfaaGreatDoorSG2
import Derived.Test.YtlneiohchomcfaaGreatDoorSG3
set_option linter.all false
namespace Go.Sx
open Go.Proofs Tryz
set_option maxRecDepth 10000
set_option maxHeartbeats 100000000
def g12:(∀N a0 a1,OK (Qc2 N a0 a1) 8 [.agg (e44 a0),.ept 1000000 0 2 0 0] [.arr true 48 2 [[s3 a1.L,vi a1.at_]] 0] (λr=>.agg (e51 r.1)) λr=>[.arr true 48 2 [[s3 r.2.L,vi r.2.at_]] 0])/\(∀N(a0:Int),O1 (QcI N a0) 172 [vu a0] (λr=>.tup [.agg (Z7 r.1),.v (.bool r.2)]))/\(∀N(a0:List Int)(a1:Int)(a2:Int)(a3:Int),O1 (QfJ N a0 a1 a2 a3) 249 [s49 a0,vu a1,vu a2,vi a3] (λr=>.tup [s49 r.1,vi r.2]))/\(∀N(a0:Wk)(a1:Int),O1 (QeB N a0 a1) 291 [.agg (e28 a0),vi a1] (λr=>.tup [.agg (e28 r.1),vu r.2.1,.v (.bool r.2.2)]))/\(∀N(a0:Wu)(a1:Int)(a2:Int),O1 (QcQ N a0 a1 a2) 192 [.agg (e35 a0),vi a1,vi a2] (λr=>.tup [.agg (e35 r.1),vi r.2]))/\(∀N(a0:WM)(a1:Int)(a2:Int),O1 (QeY N a0 a1 a2) 115 [.agg (e42 a0),vi a1,vu a2] (λr=>.tup [.agg (e42 r.1),vu r.2]))/\(∀N(a0:Wv),O1 (Qbz N a0) 274 [.agg (Z7 a0)] (λr=>vi r))/\(∀N(a0:Wv)(a1:Int),O1 (QdN N a0 a1) 226 [.agg (Z7 a0),vi a1] (λr=>.v (.bool r)))/\(∀N(a0:List W5),O1 (QaN N a0) 127 [JU a0,.clo (.func 128) [] []] (λr=>.v (.bool r)))/\(∀N(a0:List Ws)(a1:Int)(a2:Int),O1 (QdY N a0 a1 a2) 332 [YB a0,vi a1,vi a2] (λr=>.tup [.fsl 139 4 (r.1.map X0),vi r.2]))/\(∀N(a0:Int),O1 (Qf5 N a0) 229 [vu a0] (λr=>.tup [.agg (Xje r.1),vi r.2])):=by
 refine⟨λN _ _=>rk f8 ?_,λN _=>rk f172 ?_,λN _ _ _ _=>rk f249 ?_,λN _ _=>rk f291 ?_,λN _ _ _=>rk f192 ?_,λN _ _ _=>rk f115 ?_,λN _=>rk f274 ?_,λN _ _=>rk f226 ?_,λN _=>rk f127 ?_,λN _ _ _=>rq f332 [1152] ?_,λN _=>rk f229 ?_⟩<;>(rintro _ hw r hr C _ rfl hwf hf;have hgw:=hw.1;simp only[f8,f172,f249,f291,f192,f115,f274,f226,f127,f332,f229,Option.get!,Qc2,QcI,QfJ,QeB,QcQ,QeY,Qbz,QdN,QaN,QdY,Qf5]at hr⊢;repeat' first
 |(refine El.el hr ?_;clear hr;intro hr)
 |(with_reducible intro h;refine XH hr h ?_;clear hr;intro hr)
 |with_reducible intro _
 |simp only[go_sem,simprocAttr,XtZ,hl3,XB,Xm,hgw,Wl,Wn,Wz]
 |(with_reducible first|apply Xi|apply Xh|apply Xt|apply Xx|apply Xy)
 |((first|with_reducible refine Yy hr ag ?_ ?_|(with_reducible refine Yt hr ?_ ?_;rotate_left;intro p;rotate_right));(·simp only[go_sem,simprocAttr,hgw,Wl,Wn,Wz]);intro hp hn hd hr;(try have hl3:=hd _ e3;simp only[go_sem,simprocAttr]at hl3);(try have XB:=hd _ e49;simp only[go_sem,simprocAttr]at XB);(try have Xm:=hd _ X0;simp only[go_sem,simprocAttr]at Xm))
 |(refine Xu ?_ ?_;.first|assumption|omega)
 |(with_reducible refine XcX hr ?_ ?_;(·simp only[go_sem]);intro p hp hn hd hr;(try have hl3:=hd _ e3;simp only[go_sem,simprocAttr]at hl3);(try have XB:=hd _ e49;simp only[go_sem,simprocAttr]at XB);(try have Xm:=hd _ X0;simp only[go_sem,simprocAttr]at Xm))
 |(with_reducible first|refine CallX.c ?_ _|refine OK.c hr hw ?_ (λy hr=>?_) _)
 |with_reducible refine OM 6 ?_ _
 |with_reducible refine LoopU.s 1000 ?_ _
 |refine dq 291 12 hf [(13,[704,4672],[])] ?_
 |refine dq 229 6 hf [(0,[],[384]),(1,[],[384]),(2,[],[384]),(3,[],[384]),(4,[],[384]),(5,[],[384]),(6,[],[384]),(7,[],[384]),(8,[],[384]),(9,[],[384]),(10,[],[384]),(11,[],[384]),(12,[],[384]),(13,[384],[]),(14,[384],[])] ?_
 |refine dp ?_
 |(refine Xq hr ?_;rintro rfl;with_reducible refine XQ ?_)
 |exact YE hr)
abbrev Qjk:=g12.1
abbrev Qk7:=g12.2.1
abbrev QmT:=g12.2.2.1
abbrev QlV:=g12.2.2.2.1
abbrev Qk8:=g12.2.2.2.2.1
abbrev Qj9:=g12.2.2.2.2.2.1
abbrev QlW:=g12.2.2.2.2.2.2.1
abbrev Qjl:=g12.2.2.2.2.2.2.2.1
abbrev QeV:=g12.2.2.2.2.2.2.2.2.1
abbrev QmU:=g12.2.2.2.2.2.2.2.2.2.1
abbrev Qka:=g12.2.2.2.2.2.2.2.2.2.2
attribute [instance] Qjk Qk7 QmT QlV Qk8 Qj9 QlW Qjl QeV QmU Qka
def g14:(∀N(a0:List Int)(a1:Int),O1 (Qbr N a0 a1) 166 [s49 a0,vu a1] (λr=>.tup [vu r.1,vi r.2]))/\(∀N(a0:Ww)(a1:Int),O1 (QcK N a0 a1) 248 [.agg (JG a0),vi a1] (λr=>.tup [.agg (JG r.1),vu r.2.1,.v (.bool r.2.2)]))/\(∀N(a0:Wp)(a1:Int),O1 (Qd2 N a0 a1) 180 [.agg (e32 a0),vu a1] (λr=>.tup [.agg (e32 r.1),vi r.2.1,vi r.2.2.1,vi r.2.2.2]))/\(∀N(a0:Wp)(a1:Int)(a2:Int),O1 (QeD N a0 a1 a2) 202 [.agg (e32 a0),vi a1,vi a2] (λr=>.tup [vu r.1,vi r.2]))/\(∀N(a0:Wp),O1 (Qe8 N a0) 118 [.agg (e32 a0)] (λr=>.tup [.agg (e32 r.1),vi r.2]))/\(∀N(a0:WN)(a1:Int),O1 (Qfb N a0 a1) 273 [.agg (e24 a0),vi a1] (λr=>vi r))/\(∀N(a0:List Int)(a1:Int),O1 (QfN N a0 a1) 279 [s49 a0,vu a1] (λr=>.tup [vu r.1,vi r.2]))/\(∀N(a0:List Int),O1 (QbD N a0) 122 [s3 a0,.clo (.func 123) [] []] (λr=>.v (.bool r)))/\(∀N(a0:W3),O1 (QbV N a0) 22 [.agg (e38 a0)] (λr=>.agg [vi r.h.c.W,vi r.h.c.p,s49 r.h.w,YB r.h.p,vi r.h.s,vi r.h.b,Xcy r.l.S,Xew r.l.x,s3 r.l.i,JU r.g.e,JU r.v.e,.fsl 101 2 (r.P.map VD),.fsl 49 1 (r.R.map e49)]))/\(∀N(a0:Ww)(a1:Int),O1 (Qeq N a0 a1) 355 [.agg (Xgn a0),vi a1] (λr=>.v (.bool r)))/\(∀N(a0:Wp)(a1:Int),O1 (Qhb N a0 a1) 237 [.agg (e32 a0),vi a1] (λr=>.agg (e32 r))):=by
 refine⟨λN _ _=>rk f166 ?_,λN _ _=>rk f248 ?_,λN _ _=>rk f180 ?_,λN _ _ _=>rk f202 ?_,λN _=>rk f118 ?_,λN _ _=>rk f273 ?_,λN _ _=>rk f279 ?_,λN _=>rk f122 ?_,λN _=>rq f22 [1088,1280] ?_,λN _ _=>rk f355 ?_,λN _ _=>rk f237 ?_⟩<;>(rintro _ hw r hr C _ rfl hwf hf;have hse:=@ZZ _ hw;simp only[f166,f248,f180,f202,f118,f273,f279,f122,f22,f355,f237,Option.get!,Qbr,QcK,Qd2,QeD,Qe8,Qfb,QfN,QbD,QbV,Qeq,Qhb]at hr⊢;repeat' first
 |(refine El.el hr ?_;clear hr;intro hr)
 |(with_reducible intro h;refine XH hr h ?_;clear hr;intro hr)
 |with_reducible intro _
 |simp only[go_sem,simprocAttr,hl3,XB,Y9,Xm,X2,hse,Wl,Wn,Wz]
 |(with_reducible first|apply Xi|apply Xh|apply Xt|apply Xx|apply Xy)
 |((first|with_reducible refine Yy hr ag ?_ ?_|(with_reducible refine Yt hr ?_ ?_;rotate_left;intro p;rotate_right));(·simp only[go_sem,simprocAttr,hse,Wl,Wn,Wz]);intro hp hn hd hr;(try have hl3:=hd _ e3;simp only[go_sem,simprocAttr]at hl3);(try have XB:=hd _ e49;simp only[go_sem,simprocAttr]at XB);(try have Y9:=hd _ Vh;simp only[go_sem,simprocAttr]at Y9);(try have Xm:=hd _ X0;simp only[go_sem,simprocAttr]at Xm);(try have X2:=hd _ KN;simp only[go_sem,simprocAttr]at X2))
 |(refine Xu ?_ ?_;.first|assumption|omega)
 |(refine CallX.inl (f:=361) 1600 (fn:=f361) (rs:=[.tmp 4]) (nt:=45) 1000 ac (λx=>?_) _;simp only[f361,Option.get!])
 |(refine CallX.inl (f:=363) 2400 (fn:=f363) (rs:=[.tmp 2]) (nt:=9) 1000 ac (λx=>?_) _;simp only[f363,Option.get!])
 |(with_reducible first|refine CallX.c ?_ _|refine OK.c hr hw ?_ (λy hr=>?_) _|refine OK.d hr hw ?_ (λy hr=>?_) _)
 |refine dq 248 12 hf [(15,[640,4160],[])] ?_
 |refine dq 22 1 hf [(14,[1088],[]),(15,[],[1088]),(16,[],[1088]),(17,[1280],[]),(19,[128],[])] ?_
 |refine dq 237 2 hf [(11,[],[128]),(12,[],[128]),(14,[128],[]),(16,[128],[])] ?_
 |refine dp ?_
 |(refine Xq hr ?_;rintro rfl;with_reducible refine XQ ?_)
 |exact YE hr
 |(with_reducible apply XcW;(·simp only[go_sem,simprocAttr,hl3,XB,Y9,Xm,X2,hse,Wl,Wn,Wz];repeat' first|rfl|refine⟨?_,?_⟩);(·simp only[Z0,snap,go_sem,simprocAttr,hl3,XB,Y9,Xm,X2,hse,Wl,Wn,Wz];repeat' first|rfl|refine⟨?_,?_⟩);(·simp only[go_sem,simprocAttr,hl3,XB,Y9,Xm,X2,hse,Wl,Wn,Wz];first|done|omega|(simp;omega))))
abbrev QmV:=g14.1
abbrev QlX:=g14.2.1
abbrev QnL:=g14.2.2.1
abbrev QnM:=g14.2.2.2.1
abbrev QnN:=g14.2.2.2.2.1
abbrev QnO:=g14.2.2.2.2.2.1
abbrev QmW:=g14.2.2.2.2.2.2.1
abbrev Qgr:=g14.2.2.2.2.2.2.2.1
abbrev QmX:=g14.2.2.2.2.2.2.2.2.1
abbrev QhV:=g14.2.2.2.2.2.2.2.2.2.1
abbrev Qk9:=g14.2.2.2.2.2.2.2.2.2.2
attribute [instance] QmV QlX QnL QnM QnN QnO QmW Qgr QmX QhV Qk9
abbrev Qkb:=λN b c Q n (st:St)=>∃d,Iv (QcT N b c n d) Q ((∃a,st.n=28/\st.t 1=vi c/\st.t 2=.ept 128 a 2 0 0/\st.t 5=vi d/\st.s 128=some (a,.arr true 24 2 [e24 b] 0)))
abbrev Qkc:=λN d Q n (st:St)=>∃e c,Iv (QbY N d n e c) Q ((∃a b,st.n=32/\st.s 1920=some (a,.arr false 49 1 (c.map e49) 0)/\st.t 1=.ept 64 b 3 0 0/\st.t 3=.osl 1920 a 1 0 c.length/\st.t 4=vi e/\st.s 64=some (b,.arr true 32 3 [e32 d] 0))\/(∃b,(st.n=32/\st.t 1=.ept 64 b 3 0 0/\st.t 3=.nsl/\st.t 4=vi e/\st.s 64=some (b,.arr true 32 3 [e32 d] 0))/\c=[]))
abbrev QhW:=λN d Q n (st:St)=>∃e c,Iv (Qcb N d n e c) Q ((∃a b,st.n=23/\st.s 1344=some (a,.arr false 3 1 (c.map e3) 0)/\st.t 1=.ept 64 b 3 0 0/\st.t 3=.osl 1344 a 1 0 c.length/\st.t 4=vi e/\st.s 64=some (b,.arr true 107 3 [Z7 d] 0))\/(∃b,(st.n=23/\st.t 1=.ept 64 b 3 0 0/\st.t 3=.nsl/\st.t 4=vi e/\st.s 64=some (b,.arr true 107 3 [Z7 d] 0))/\c=[]))
abbrev Qkd:=λN d Q n (st:St)=>∃e f c,Iv (Qbp N d n e f c) Q ((∃a b,st.n=48/\st.s 1344=some (a,.arr false 145 3 (c.map Z6) 0)/\st.t 1=s49 d/\st.t 4=.ept 256 b 1 0 0/\st.t 6=.osl 1344 a 3 0 c.length/\st.t 7=vi e/\st.t 8=vi f/\st.s 256=some (b,.arr true 35 1 [[.nsl]] 0)))
abbrev Qke:=λN d Q n (st:St)=>∃e c,Iv (Qef N d n e c) Q ((∃a b,st.n=25/\st.s 1472=some (a,.arr false 49 1 (c.map e49) 0)/\st.t 1=.ept 64 b 4 0 0/\st.t 3=.osl 1472 a 1 0 c.length/\st.t 4=vi e/\st.s 64=some (b,.arr true 173 4 [Xce d] 0))\/(∃b,(st.n=25/\st.t 1=.ept 64 b 4 0 0/\st.t 3=.nsl/\st.t 4=vi e/\st.s 64=some (b,.arr true 173 4 [Xce d] 0))/\c=[]))
abbrev Qgf:=λN a b Q n (st:St)=>∃c d,Iv (Qat N a b n c d) Q ((st.n=54/\st.t 0=s49 a/\st.t 1=vu b/\st.t 6=vi a.length/\st.t 7=vi c/\st.t 8=vi d))
abbrev Qla:=λN a Q n (st:St)=>∃b c,Iv (Qbd N a n b c) Q ((st.n=55/\st.t 0=Xom a/\st.t 4=vi b/\st.t 11=Xom a/\st.t 12=vi a.length/\st.t 13=vi c))
abbrev Qlb:=λN a Q n (st:St)=>∃b v6 v7,Iv (QaJ N a n b v6 v7) Q ((st.n=55/\st.t 7=vu b/\st.t 8=vi v6/\st.t 31=Xom a/\st.t 32=vi a.length/\st.t 33=vi v7))
abbrev QiA:=λN a Q n (st:St)=>∃i k l g,Iv (QbR N a n i k l g) Q ((∃e,st.n=88/\st.s 960=some (e,.arr false 49 1 (g.map e49) 0)/\st.t 0=.ept 1000000 0 16 0 0/\st.t 2=.ept 1000000 0 16 0 0/\st.t 21=YB a.h.p/\st.t 22=vi a.h.p.length/\st.t 23=vi i/\st.s 1000000=some (0,.arr true 374 16 [[vi a.h.c.W,vi a.h.c.p,.osl 960 e 1 0 g.length,YB k,vi a.h.s,vi a.h.b,s49 a.o,s3 a.t,s49 a.q,vi a.d,vi a.r.j,vi a.r.K,vi a.r.F,vi l,vi a.r.f,vi a.r.y]] 0)))
def g15:(∀N(a0:WN)(a1:Int),O1 (Qe5 N a0 a1) 162 [.agg (e24 a0),vi a1] (λr=>vi r))/\(∀N(a0:Wp),O1 (QcX N a0) 29 [.agg (e32 a0)] (λr=>s49 r))/\(∀N(a0:Wv),O1 (Qfw N a0) 252 [.agg (Z7 a0)] (λr=>s3 r))/\(∀N(a0:Wu)(a1:List Int),O1 (Qcg N a0 a1) 33 [.agg (e35 a0),s49 a1] (λr=>.tup [.agg (e35 r.1),vi r.2]))/\(∀N(a0:Ii),O1 (Qgv N a0) 176 [.agg (Xce a0)] (λr=>s49 r))/\(∀N(a0:List Int)(a1:Int),O1 (QaE N a0 a1) 133 [s49 a0,vu a1] (λr=>.tup [vi r.1,.v (.bool r.2)]))/\(∀N(a0:List UJ),O1 (Qfd N a0) 283 [Xom a0] (λr=>.tup [vu r.1,vi r.2]))/\(∀N a0,OK (QeS N a0) 342 [.ept 1000000 0 16 0 0] [.arr true 374 16 [[vi a0.h.c.W,vi a0.h.c.p,s49 a0.h.w,YB a0.h.p,vi a0.h.s,vi a0.h.b,s49 a0.o,s3 a0.t,s49 a0.q,vi a0.d,vi a0.r.j,vi a0.r.K,vi a0.r.F,vi a0.r.E,vi a0.r.f,vi a0.r.y]] 0] (λr=>.tup []) λr=>[.arr true 374 16 [[vi r.h.c.W,vi r.h.c.p,s49 r.h.w,YB r.h.p,vi r.h.s,vi r.h.b,s49 r.o,s3 r.t,s49 r.q,vi r.d,vi r.r.j,vi r.r.K,vi r.r.F,vi r.r.E,vi r.r.f,vi r.r.y]] 0]):=by
 refine⟨λN _ _=>rk f162 ?_,λN _=>rk f29 ?_,λN _=>rk f252 ?_,λN _ _=>rk f33 ?_,λN _=>rk f176 ?_,λN _ _=>rk f133 ?_,λN _=>rk f283 ?_,λN _=>rk f342 ?_⟩<;>(rintro _ hw r hr C _ rfl hwf hf;simp only[f162,f29,f252,f33,f176,f133,f283,f342,Option.get!,Qe5,QcX,Qfw,Qcg,Qgv,QaE,Qfd,QeS]at hr⊢;repeat' first
 |(refine El.el hr ?_;clear hr;intro hr)
 |(with_reducible intro h;refine XH hr h ?_;clear hr;intro hr)
 |with_reducible intro _
 |(refine Xq hr ?_;rintro rfl;have hr:=hk;clear hk)
 |simp only[go_sem,simprocAttr,E,XB,Xm,X2,Ya,Xoj,Wl,Wn,Wz]
 |(with_reducible first|apply Xi|apply Xh|apply Xt|apply Xx|apply Xy)
 |((first|with_reducible refine Yy hr ag ?_ ?_|(with_reducible refine Yt hr ?_ ?_;rotate_left;intro p;rotate_right));(·simp only[go_sem,simprocAttr,Wl,Wn,Wz]);intro hp hn hd hr;(try have XB:=hd _ e49;simp only[go_sem,simprocAttr]at XB);(try have Xm:=hd _ X0;simp only[go_sem,simprocAttr]at Xm);(try have X2:=hd _ KN;simp only[go_sem,simprocAttr]at X2);(try have Ya:=hd _ Z6;simp only[go_sem,simprocAttr]at Ya);(try have Xoj:=hd _ Xsg;simp only[go_sem,simprocAttr]at Xoj))
 |(refine Xu ?_ ?_;.first|assumption|omega)
 |(with_reducible first|refine CallX.c ?_ _|refine OK.c hr hw ?_ (λy hr=>?_) _)
 |(with_reducible refine lp (Qkb N _ _) hr N ?_ (λ_ p q=>⟨_,_,p,q,?_⟩) _;rintro n1 st ⟨_,_,hr,hk,⟨_,E⟩⟩<;>(obtain _|n1:=n1<;>rw[QcT]at hr))
 |refine⟨_,WD _,_,_,hr,hk,?_⟩
 |(with_reducible refine lp (Qkc N _) hr N ?_ (λ_ p q=>⟨_,_,_,p,q,?_⟩) _;rintro n1 st ⟨_,_,_,hr,hk,(⟨_,_,E⟩|⟨_,E,z0⟩)⟩<;>(try subst z0)<;>(obtain _|n1:=n1<;>rw[QbY]at hr))
 |refine⟨_,WD _,_,_,_,hr,hk,?_⟩
 |(with_reducible refine lp (QhW N _) hr N ?_ (λ_ p q=>⟨_,_,_,p,q,?_⟩) _;rintro n1 st ⟨_,_,_,hr,hk,(⟨_,_,E⟩|⟨_,E,z0⟩)⟩<;>(try subst z0)<;>(obtain _|n1:=n1<;>rw[Qcb]at hr))
 |(with_reducible refine lp (Qkd N _) hr N ?_ (λ_ p q=>⟨_,_,_,_,p,q,?_⟩) _;rintro n1 st ⟨_,_,_,_,hr,hk,⟨_,_,E⟩⟩<;>(obtain _|n1:=n1<;>rw[Qbp]at hr))
 |refine⟨_,WD _,_,_,_,_,hr,hk,?_⟩
 |(with_reducible refine lp (Qke N _) hr N ?_ (λ_ p q=>⟨_,_,_,p,q,?_⟩) _;rintro n1 st ⟨_,_,_,hr,hk,(⟨_,_,E⟩|⟨_,E,z0⟩)⟩<;>(try subst z0)<;>(obtain _|n1:=n1<;>rw[Qef]at hr))
 |(with_reducible refine lp (Qgf N _ _) hr N ?_ (λ_ p q=>⟨_,_,_,p,q,?_⟩) _;rintro n1 st ⟨_,_,_,hr,hk,E⟩<;>(obtain _|n1:=n1<;>rw[Qat]at hr))
 |(with_reducible refine lp (Qla N _) hr N ?_ (λ_ p q=>⟨_,_,_,p,q,?_⟩) _;rintro n1 st ⟨_,_,_,hr,hk,E⟩<;>(obtain _|n1:=n1<;>rw[Qbd]at hr))
 |(with_reducible refine lp (Qlb N _) hr N ?_ (λ_ p q=>⟨_,_,_,_,p,q,?_⟩) _;rintro n2 st ⟨_,_,_,_,hr,hk,E⟩<;>(obtain _|n2:=n2<;>rw[QaJ]at hr))
 |(with_reducible refine lp (QiA N _) hr N ?_ (λ_ p q=>⟨_,_,_,_,_,p,q,?_⟩) _;rintro n1 st ⟨_,_,_,_,_,hr,hk,⟨_,E⟩⟩<;>(obtain _|n1:=n1<;>rw[QbR]at hr))
 |refine⟨_,WD _,_,_,_,_,_,hr,hk,?_⟩
 |refine dq 342 6 hf [(20,[960],[])] ?_
 |refine dp ?_
 |(refine Xq hr ?_;rintro rfl;with_reducible refine XQ ?_)
 |exact YE hr
 |((first|refine XH (c:=true) hr rfl ?_|refine XH (c:=false) hr rfl ?_|refine XH hr ag ?_);intro hr)
 |omega)
abbrev QmY:=g15.1
abbrev QmZ:=g15.2.1
abbrev Qjm:=g15.2.2.1
abbrev Qm0:=g15.2.2.2.1
abbrev Qm1:=g15.2.2.2.2.1
abbrev QgC:=g15.2.2.2.2.2.1
abbrev QnP:=g15.2.2.2.2.2.2.1
abbrev Qlc:=g15.2.2.2.2.2.2.2
attribute [instance] QmY QmZ Qjm Qm0 Qm1 QgC QnP Qlc
end Go.Sx
