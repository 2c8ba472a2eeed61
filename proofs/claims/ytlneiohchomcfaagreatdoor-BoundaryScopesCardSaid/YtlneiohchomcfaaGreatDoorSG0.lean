import Derived.Test.YtlneiohchomcfaaGreatDoorSF
set_option linter.all false
namespace Go.Sx
open Go.Proofs Tryz
set_option maxRecDepth 10000
set_option maxHeartbeats 100000000
abbrev QiX:=λN a b Q n (st:St)=>∃c d,Iv (QdE N a b n c d) Q ((st.n=37/\st.t 0=YB a/\st.t 2=vi b/\st.t 7=vi c/\st.t 8=vi d))
abbrev QlA:=λN a b Q n (st:St)=>∃c,Iv (Qfj N a b n c) Q ((st.n=20/\st.t 0=VE a/\st.t 1=vu b/\st.t 5=vi c))
abbrev QiY:=λN b Q n (st:St)=>∃c,Iv (Qc5 N b n c) Q ((∃a,st.n=39/\st.t 1=.ept 64 a 1 0 0/\st.t 3=vi c/\st.s 64=some (a,.arr true 35 1 [[JU b.e]] 0)))
abbrev QjO:=λN c Q n (st:St)=>∃d b,Iv (QbF N c n d b) Q ((∃a,st.n=54/\st.s 3328=some (a,.arr false 355 2 (b.map Xjd) 0)/\st.t 0=YB c/\st.t 3=.osl 3328 a 2 0 b.length/\st.t 4=vi d)\/((st.n=54/\st.t 0=YB c/\st.t 3=.nsl/\st.t 4=vi d)/\b=[]))
abbrev QjP:=λN a u m w x Q n (st:St)=>∃v7 v8,Iv (Qbn N a u m w x n v7 v8) Q ((∃g i e k l,st.n=78/\st.s 384=some (g,.arr false 139 4 ((u.set w.toNat (Ws.mk 0 0 0 0)).map X0) 0)/\st.s 832=some (i,.arr false 49 1 (v8.map e49) 0)/\st.t 1=.ept 64 e 16 0 0/\st.t 2=.ept 128 k 16 0 0/\st.t 3=vi w/\st.t 5=vi v7/\st.t 38=.ept 256 l 4 0 1/\st.t 39=vi m.s/\st.t 40=.ept 64 e 16 0 0/\st.t 41=.ept 64 e 16 0 4/\st.t 42=vi a.h.s/\st.t 43=.v (.bool (m.s != a.h.s))/\st.s 64=some (e,.arr true 147 16 [[vi a.h.c.W,vi a.h.c.p,.osl 832 i 1 0 v8.length,.osl 384 g 4 0 u.length,vi a.h.s,vi a.h.b,s49 a.o,s3 a.t,s49 a.q,vi a.d,vi a.r.j,vi a.r.K,vi a.r.F,vi (wI (x + 1)),vi a.r.f,vi a.r.y]] 0)/\st.s 128=some (k,.arr true 147 16 [[vi 0,vi 0,.nsl,.nsl,vi 0,vi 0,.nsl,.nsl,.nsl,vi 0,vi 0,vi 0,vi 0,vi 0,vi 0,vi 0]] 0)/\st.s 256=some (l,.arr true 139 4 [X0 m] 0)))
abbrev QjQ:=λN a Q n (st:St)=>∃u v l m,Iv (QaR N a n u v l m) Q ((∃e g k i,st.n=78/\st.s 384=some (e,.arr false 139 4 (m.map X0) 0)/\st.s 832=some (g,.arr false 49 1 (l.map e49) 0)/\st.t 1=.ept 64 k 16 0 0/\st.t 2=.ept 128 i 16 0 0/\st.t 3=vi u/\st.s 64=some (k,.arr true 147 16 [[vi a.h.c.W,vi a.h.c.p,.osl 832 g 1 0 l.length,.osl 384 e 4 0 m.length,vi a.h.s,vi a.h.b,s49 a.o,s3 a.t,s49 a.q,vi a.d,vi a.r.j,vi a.r.K,vi a.r.F,vi v,vi a.r.f,vi a.r.y]] 0)/\st.s 128=some (i,.arr true 147 16 [[vi 0,vi 0,.nsl,.nsl,vi 0,vi 0,.nsl,.nsl,.nsl,vi 0,vi 0,vi 0,vi 0,vi 0,vi 0,vi 0]] 0)))
abbrev QjR:=λN b c Q n (st:St)=>∃d,Iv (QeW N b c n d) Q ((∃a,st.n=22/\st.t 1=vu c/\st.t 2=.ept 128 a 10 0 0/\st.t 5=vi d/\st.s 128=some (a,.arr true 42 10 [e42 b] 0)))
abbrev QhP:=λN b Q n (st:St)=>∃d c,Iv (Qdr N b n d c) Q ((∃a,st.n=19/\st.s 1024=some (a,.arr false 49 1 (c.map e49) 0)/\st.t 3=.osl 1024 a 1 0 c.length/\st.t 6=Xly b/\st.t 7=vi b.length/\st.t 8=vi d)\/((st.n=19/\st.t 3=.nsl/\st.t 6=Xly b/\st.t 7=vi b.length/\st.t 8=vi d)/\c=[]))
abbrev QjS:=λN b Q n (st:St)=>∃c,Iv (QeZ N b n c) Q ((∃a,st.n=19/\st.t 1=vi c/\st.t 2=.ept 128 a 6 0 0/\st.s 128=some (a,.arr true 28 6 [e28 b] 0)))
abbrev Qht:=λN b Q n (st:St)=>∃c d,Iv (Qbi N b n c d) Q ((∃a,st.n=51/\st.t 1=.ept 64 a 3 0 0/\st.t 3=vi c/\st.t 8=Xcy b.l.S/\st.t 9=vi b.l.S.length/\st.t 10=vi d/\st.s 64=some (a,.arr true 186 3 [e32 b.l] 0)))
abbrev QjT:=λN b Q n (st:St)=>∃d c,Iv (Qe0 N b n d c) Q ((∃a,st.n=20/\st.s 1088=some (a,.arr false 49 1 (c.map e49) 0)/\st.t 3=.osl 1088 a 1 0 c.length/\st.t 7=VE b.P/\st.t 8=vi b.P.length/\st.t 9=vi d)\/((st.n=20/\st.t 3=.nsl/\st.t 7=VE b.P/\st.t 8=vi b.P.length/\st.t 9=vi d)/\c=[]))
abbrev QkP:=λN b Q n (st:St)=>∃d c,Iv (QcS N b n d c) Q ((∃a,st.n=54/\st.s 1344=some (a,.arr false 355 2 (c.map Xjd) 0)/\st.t 3=.osl 1344 a 2 0 c.length/\st.t 7=YB b/\st.t 8=vi b.length/\st.t 9=vi d)\/((st.n=54/\st.t 3=.nsl/\st.t 7=YB b/\st.t 8=vi b.length/\st.t 9=vi d)/\c=[]))
def g5:(∀N(a0:List Ws)(a1:Int)(a2:Int),O1 (Qfh N a0 a1 a2) 163 [YB a0,vi a1,vi a2] (λr=>vi r))/\(∀N(a0:List UE)(a1:Int),O1 (QgN N a0 a1) 82 [VE a0,vu a1] (λr=>vi r))/\(∀N(a0:Wu),O1 (Qcp N a0) 26 [.agg (e35 a0)] (λr=>.v (.bool r)))/\(∀N(a0:List Ws),O1 (Qgu N a0) 318 [YB a0] (λr=>Xon r))/\(∀N(a0:Ww),O1 (Qeu N a0) 91 [.agg (JG a0)] (λr=>.agg (JG r)))/\(∀N(a0:WM)(a1:Int),O1 (QfK N a0 a1) 177 [.agg (e42 a0),vu a1] (λr=>vi r))/\(∀N(a0:List UT),O1 (Qcx N a0) 214 [Xly a0] (λr=>s49 r))/\(∀N(a0:Wk)(a1:Int),O1 (Qg6 N a0 a1) 328 [.agg (e28 a0),vi a1] (λr=>vi r))/\(∀N(a0:IG),O1 (Qdn N a0) 125 [.agg (Xoi a0)] (λr=>.v (.bool r)))/\(∀N(a0:W3),O1 (Qhq N a0) 136 [.agg (e38 a0)] (λr=>s49 r))/\(∀N(a0:List Ws),O1 (Qhm N a0) 358 [YB a0] (λr=>Xon r)):=by
 refine⟨λN _ _ _=>rk f163 ?_,λN _ _=>rk f82 ?_,λN _=>rk f26 ?_,λN _=>rk f318 ?_,λN _=>rk f91 ?_,λN _ _=>rk f177 ?_,λN _=>rk f214 ?_,λN _ _=>rk f328 ?_,λN _=>rk f125 ?_,λN _=>rk f136 ?_,λN _=>rk f358 ?_⟩<;>(rintro _ hw r hr C _ rfl hwf hf;simp only[f163,f82,f26,f318,f91,f177,f214,f328,f125,f136,f358,Option.get!,Qfh,QgN,Qcp,Qgu,Qeu,QfK,Qcx,Qg6,Qdn,Qhq,Qhm]at hr⊢;repeat' first
 |(refine El.el hr ?_;clear hr;intro hr)
 |(with_reducible intro h;refine XH hr h ?_;clear hr;intro hr)
 |with_reducible intro _
 |(refine Xq hr ?_;rintro rfl;have hr:=hk;clear hk)
 |simp only[go_sem,simprocAttr,Xvb,E,hl3,XB,Zj,Xm,X2,Ya,K6,XbH,XaP]
 |(with_reducible first|apply Xi|apply Xh|apply Xt|apply Xx|apply Xy)
 |((first|with_reducible refine Yy hr ag ?_ ?_|(with_reducible refine Yt hr ?_ ?_;rotate_left;intro p;rotate_right));(·simp only[go_sem,simprocAttr]);intro hp hn hd hr;(try have hl3:=hd _ e3;simp only[go_sem,simprocAttr]at hl3);(try have XB:=hd _ e49;simp only[go_sem,simprocAttr]at XB);(try have Zj:=hd _ VD;simp only[go_sem,simprocAttr]at Zj);(try have Xm:=hd _ X0;simp only[go_sem,simprocAttr]at Xm);(try have X2:=hd _ KN;simp only[go_sem,simprocAttr]at X2);(try have Ya:=hd _ Z6;simp only[go_sem,simprocAttr]at Ya);(try have K6:=hd _ Xev;simp only[go_sem,simprocAttr]at K6);(try have XbH:=hd _ Xaj;simp only[go_sem,simprocAttr]at XbH);(try have XaP:=hd _ Xjd;simp only[go_sem,simprocAttr]at XaP))
 |(refine Xu ?_ ?_;.first|assumption|omega)
 |(with_reducible refine lp (QiX N _ _) hr N ?_ (λ_ p q=>⟨_,_,_,p,q,?_⟩) _;rintro n1 st ⟨_,_,_,hr,hk,E⟩<;>(obtain _|n1:=n1<;>rw[QdE]at hr))
 |refine⟨_,WD _,_,_,_,hr,hk,?_⟩
 |(with_reducible refine lp (QlA N _ _) hr N ?_ (λ_ p q=>⟨_,_,p,q,?_⟩) _;rintro n1 st ⟨_,_,hr,hk,E⟩<;>(obtain _|n1:=n1<;>rw[Qfj]at hr))
 |refine⟨_,WD _,_,_,hr,hk,?_⟩
 |(with_reducible refine lp (QiY N _) hr N ?_ (λ_ p q=>⟨_,_,p,q,?_⟩) _;rintro n1 st ⟨_,_,hr,hk,⟨_,E⟩⟩<;>(obtain _|n1:=n1<;>rw[Qc5]at hr))
 |(with_reducible refine lp (QjO N _) hr N ?_ (λ_ p q=>⟨_,_,_,p,q,?_⟩) _;rintro n1 st ⟨_,_,_,hr,hk,(⟨_,E⟩|⟨E,z0⟩)⟩<;>(try subst z0)<;>(obtain _|n1:=n1<;>rw[QbF]at hr))
 |(with_reducible refine lp (QjP N _ _ _ _ _) hr N ?_ (λ_ p q=>⟨_,_,_,p,q,?_⟩) _;rintro n1 st ⟨_,_,_,hr,hk,⟨_,_,_,_,_,E⟩⟩<;>(obtain _|n1:=n1<;>rw[Qbn]at hr))
 |(with_reducible refine lp (QjQ N _) hr N ?_ (λ_ p q=>⟨_,_,_,_,_,p,q,?_⟩) _;rintro n2 st ⟨_,_,_,_,_,hr,hk,⟨_,_,_,_,E⟩⟩<;>(obtain _|n2:=n2<;>rw[QaR]at hr))
 |refine⟨_,WD _,_,_,_,_,_,hr,hk,?_⟩
 |(with_reducible refine lp (QjR N _ _) hr N ?_ (λ_ p q=>⟨_,_,p,q,?_⟩) _;rintro n1 st ⟨_,_,hr,hk,⟨_,E⟩⟩<;>(obtain _|n1:=n1<;>rw[QeW]at hr))
 |(with_reducible refine lp (QhP N _) hr N ?_ (λ_ p q=>⟨_,_,_,p,q,?_⟩) _;rintro n1 st ⟨_,_,_,hr,hk,(⟨_,E⟩|⟨E,z0⟩)⟩<;>(try subst z0)<;>(obtain _|n1:=n1<;>rw[Qdr]at hr))
 |(with_reducible refine lp (QjS N _) hr N ?_ (λ_ p q=>⟨_,_,p,q,?_⟩) _;rintro n1 st ⟨_,_,hr,hk,⟨_,E⟩⟩<;>(obtain _|n1:=n1<;>rw[QeZ]at hr))
 |(with_reducible refine lp (Qht N _) hr N ?_ (λ_ p q=>⟨_,_,_,p,q,?_⟩) _;rintro n1 st ⟨_,_,_,hr,hk,⟨_,E⟩⟩<;>(obtain _|n1:=n1<;>rw[Qbi]at hr))
 |(with_reducible refine lp (QjT N _) hr N ?_ (λ_ p q=>⟨_,_,_,p,q,?_⟩) _;rintro n1 st ⟨_,_,_,hr,hk,(⟨_,E⟩|⟨E,z0⟩)⟩<;>(try subst z0)<;>(obtain _|n1:=n1<;>rw[Qe0]at hr))
 |(with_reducible refine lp (QkP N _) hr N ?_ (λ_ p q=>⟨_,_,_,p,q,?_⟩) _;rintro n1 st ⟨_,_,_,hr,hk,(⟨_,E⟩|⟨E,z0⟩)⟩<;>(try subst z0)<;>(obtain _|n1:=n1<;>rw[QcS]at hr))
 |refine dp ?_
 |(refine Xq hr ?_;rintro rfl;with_reducible refine XQ ?_)
 |exact YE hr
 |((first|refine XH (c:=true) hr rfl ?_|refine XH (c:=false) hr rfl ?_|refine XH hr ag ?_);intro hr))
abbrev QlB:=g5.1
abbrev Qob:=g5.2.1
abbrev QlC:=g5.2.2.1
abbrev QmB:=g5.2.2.2.1
abbrev QmC:=g5.2.2.2.2.1
abbrev QmD:=g5.2.2.2.2.2.1
abbrev QiZ:=g5.2.2.2.2.2.2.1
abbrev QmE:=g5.2.2.2.2.2.2.2.1
abbrev QhC:=g5.2.2.2.2.2.2.2.2.1
abbrev QmF:=g5.2.2.2.2.2.2.2.2.2.1
abbrev Qnx:=g5.2.2.2.2.2.2.2.2.2.2
attribute [instance] QlB Qob QlC QmB QmC QmD QiZ QmE QhC QmF Qnx
abbrev QkQ:=λN a b Q n (st:St)=>∃c,Iv (Qfu N a b n c) Q ((st.n=18/\st.t 0=s49 a/\st.t 1=vu b/\st.t 5=vi c))
abbrev QjU:=λN b Q n (st:St)=>∃c,Iv (QcV N b n c) Q ((∃a,st.n=15/\st.t 1=vi c/\st.t 2=.ept 128 a 6 0 0/\st.s 128=some (a,.arr true 28 6 [e28 b] 0)))
abbrev QjV:=λN b c Q n (st:St)=>∃d e,Iv (Qed N b c n d e) Q ((∃a,st.n=24/\st.t 2=vi c/\st.t 3=.ept 192 a 3 0 0/\st.t 7=vi d/\st.t 8=vi e/\st.s 192=some (a,.arr true 32 3 [e32 b] 0)))
abbrev Qi0:=λN b c Q n (st:St)=>∃d,Iv (Qc6 N b c n d) Q ((∃a,st.n=20/\st.t 1=vi c/\st.t 2=.ept 128 a 16 0 0/\st.t 5=vi d/\st.s 128=some (a,.arr true 147 16 [JG b] 0)))
abbrev QjW:=λN e f g h Q n (st:St)=>∃i d,Iv (Qee N e f g h n i d) Q ((∃a b c,st.n=57/\st.s 1920=some (a,.arr false 139 4 (d.map X0) 0)/\st.t 1=vi e/\st.t 2=vi f/\st.t 8=.ept 512 b 4 0 0/\st.t 9=.ept 576 c 4 0 0/\st.t 12=.osl 1920 a 4 0 d.length/\st.t 13=vi i/\st.s 512=some (b,.arr true 139 4 [X0 g] 0)/\st.s 576=some (c,.arr true 139 4 [X0 h] 0)))
abbrev Qis:=λN b c Q n (st:St)=>∃d,Iv (Qdj N b c n d) Q ((∃a,st.n=21/\st.t 1=s49 c/\st.t 2=.ept 128 a 10 0 0/\st.t 5=vi d/\st.s 128=some (a,.arr true 42 10 [e42 b] 0)))
abbrev Qi1:=λN a Q n (st:St)=>∃b c,Iv (QbM N a n b c) Q ((st.n=20/\st.t 0=YB a/\st.t 3=vi b/\st.t 4=vi c))
abbrev QkR:=λN a Q n (st:St)=>∃b c,Iv (Qfz N a n b c) Q ((st.n=14/\st.t 3=vu b/\st.t 6=vi (if 64 < (if a < 0 then 0 else a)then 64 else(if a < 0 then 0 else a))/\st.t 7=vi c))
abbrev Qhz:=λN b Q n (st:St)=>∃c d,Iv (Qa6 N b n c d) Q ((∃a,st.n=74/\st.t 1=.ept 64 a 3 0 0/\st.t 3=vi c/\st.t 27=Xew b.l.x/\st.t 28=vi b.l.x.length/\st.t 29=vi d/\st.s 64=some (a,.arr true 186 3 [e32 b.l] 0)))
abbrev QgW:=λN a b Q n (st:St)=>∃c,Iv (QaF N a b n c) Q ((st.n=19/\st.t 0=s49 a/\st.t 1=vu b/\st.t 7=vi a.length/\st.t 8=vi c))
abbrev QjX:=λN a Q n (st:St)=>∃b c,Iv (QdA N a n b c) Q ((st.n=19/\st.t 3=vi b/\st.t 6=YB a/\st.t 7=vi a.length/\st.t 8=vi c))
abbrev Qhu:=λN a b Q n (st:St)=>∃c,Iv (QbS N a b n c) Q ((st.n=19/\st.t 0=s3 a/\st.t 1=vi b/\st.t 7=vi a.length/\st.t 8=vi c))
def g4:(∀N(a0:List Int)(a1:Int),O1 (Qc3 N a0 a1) 28 [s49 a0,vu a1] (λr=>.v (.bool r)))/\(∀N(a0:Wk)(a1:Int),O1 (Qe6 N a0 a1) 314 [.agg (e28 a0),vi a1] (λr=>vi r))/\(∀N(a0:Wp)(a1:Int)(a2:Int),O1 (Qgt N a0 a1 a2) 84 [.agg (e32 a0),vi a1,vi a2] (λr=>vi r))/\(∀N(a0:Ww)(a1:Int),O1 (QgE N a0 a1) 254 [.agg (JG a0),vi a1] (λr=>.v (.bool r)))/\(∀N(a0:List Ws)(a1:Int)(a2:Int)(a3:Ws)(a4:Ws),O1 (Qdh N a0 a1 a2 a3 a4) 319 [YB a0,vi a1,vi a2,.agg (X0 a3),.agg (X0 a4)] (λr=>.tup [.fsl 139 4 (r.1.map X0),vi r.2]))/\(∀N(a0:WM)(a1:List Int),O1 (Qdk N a0 a1) 175 [.agg (e42 a0),s49 a1] (λr=>.v (.bool r)))/\(∀N(a0:List Ws),O1 (QcN N a0) 321 [YB a0] (λr=>vi r))/\(∀N(a0:Int),O1 (Qa1 N a0) 300 [vi a0] (λr=>vu r))/\(∀N(a0:IG),O1 (QdC N a0) 124 [.agg (Xoi a0)] (λr=>.v (.bool r)))/\(∀N(a0:List Int)(a1:Int),O1 (Qb2 N a0 a1) 129 [s49 a0,vu a1] (λr=>vi r))/\(∀N(a0:List Ws),O1 (QgA N a0) 347 [YB a0] (λr=>vi r))/\(∀N(a0:List Int)(a1:Int),O1 (Qex N a0 a1) 368 [s3 a0,vi a1] (λr=>vi r)):=by
 refine⟨λN _ _=>rk f28 ?_,λN _ _=>rk f314 ?_,λN _ _ _=>rk f84 ?_,λN _ _=>rk f254 ?_,λN _ _ _ _ _=>rq f319 [1920] ?_,λN _ _=>rk f175 ?_,λN _=>rk f321 ?_,λN _=>rk f300 ?_,λN _=>rk f124 ?_,λN _ _=>rk f129 ?_,λN _=>rk f347 ?_,λN _ _=>rk f368 ?_⟩<;>(rintro _ hw r hr C _ rfl hwf hf;simp only[f28,f314,f84,f254,f319,f175,f321,f300,f124,f129,f347,f368,Option.get!,Qc3,Qe6,Qgt,QgE,Qdh,Qdk,QcN,Qa1,QdC,Qb2,QgA,Qex]at hr⊢;repeat' first
 |(refine El.el hr ?_;clear hr;intro hr)
 |(with_reducible intro h;refine XH hr h ?_;clear hr;intro hr)
 |with_reducible intro _
 |(refine Xq hr ?_;rintro rfl;have hr:=hk;clear hk)
 |simp only[go_sem,simprocAttr,E,hl3,XB,Y9,Xm,X2]
 |(with_reducible first|apply Xi|apply Xh|apply Xt|apply Xx|apply Xy)
 |((first|with_reducible refine Yy hr ag ?_ ?_|(with_reducible refine Yt hr ?_ ?_;rotate_left;intro p;rotate_right));(·simp only[go_sem,simprocAttr]);intro hp hn hd hr;(try have hl3:=hd _ e3;simp only[go_sem,simprocAttr]at hl3);(try have XB:=hd _ e49;simp only[go_sem,simprocAttr]at XB);(try have Y9:=hd _ Vh;simp only[go_sem,simprocAttr]at Y9);(try have Xm:=hd _ X0;simp only[go_sem,simprocAttr]at Xm);(try have X2:=hd _ KN;simp only[go_sem,simprocAttr]at X2))
 |(refine Xu ?_ ?_;.first|assumption|omega)
 |(with_reducible refine lp (QkQ N _ _) hr N ?_ (λ_ p q=>⟨_,_,p,q,?_⟩) _;rintro n1 st ⟨_,_,hr,hk,E⟩<;>(obtain _|n1:=n1<;>rw[Qfu]at hr))
 |refine⟨_,WD _,_,_,hr,hk,?_⟩
 |(with_reducible refine lp (QjU N _) hr N ?_ (λ_ p q=>⟨_,_,p,q,?_⟩) _;rintro n1 st ⟨_,_,hr,hk,⟨_,E⟩⟩<;>(obtain _|n1:=n1<;>rw[QcV]at hr))
 |(with_reducible refine lp (QjV N _ _) hr N ?_ (λ_ p q=>⟨_,_,_,p,q,?_⟩) _;rintro n1 st ⟨_,_,_,hr,hk,⟨_,E⟩⟩<;>(obtain _|n1:=n1<;>rw[Qed]at hr))
 |refine⟨_,WD _,_,_,_,hr,hk,?_⟩
 |(with_reducible refine lp (Qi0 N _ _) hr N ?_ (λ_ p q=>⟨_,_,p,q,?_⟩) _;rintro n1 st ⟨_,_,hr,hk,⟨_,E⟩⟩<;>(obtain _|n1:=n1<;>rw[Qc6]at hr))
 |(with_reducible refine lp (QjW N _ _ _ _) hr N ?_ (λ_ p q=>⟨_,_,_,p,q,?_⟩) _;rintro n1 st ⟨_,_,_,hr,hk,⟨_,_,_,E⟩⟩<;>(obtain _|n1:=n1<;>rw[Qee]at hr))
 |(with_reducible refine lp (Qis N _ _) hr N ?_ (λ_ p q=>⟨_,_,p,q,?_⟩) _;rintro n1 st ⟨_,_,hr,hk,⟨_,E⟩⟩<;>(obtain _|n1:=n1<;>rw[Qdj]at hr))
 |(with_reducible refine lp (Qi1 N _) hr N ?_ (λ_ p q=>⟨_,_,_,p,q,?_⟩) _;rintro n1 st ⟨_,_,_,hr,hk,E⟩<;>(obtain _|n1:=n1<;>rw[QbM]at hr))
 |(with_reducible refine lp (QkR N _) hr N ?_ (λ_ p q=>⟨_,_,_,p,q,?_⟩) _;rintro n1 st ⟨_,_,_,hr,hk,E⟩<;>(obtain _|n1:=n1<;>rw[Qfz]at hr))
 |(with_reducible refine lp (Qhz N _) hr N ?_ (λ_ p q=>⟨_,_,_,p,q,?_⟩) _;rintro n1 st ⟨_,_,_,hr,hk,⟨_,E⟩⟩<;>(obtain _|n1:=n1<;>rw[Qa6]at hr))
 |(with_reducible refine lp (QgW N _ _) hr N ?_ (λ_ p q=>⟨_,_,p,q,?_⟩) _;rintro n1 st ⟨_,_,hr,hk,E⟩<;>(obtain _|n1:=n1<;>rw[QaF]at hr))
 |(with_reducible refine lp (QjX N _) hr N ?_ (λ_ p q=>⟨_,_,_,p,q,?_⟩) _;rintro n1 st ⟨_,_,_,hr,hk,E⟩<;>(obtain _|n1:=n1<;>rw[QdA]at hr))
 |(with_reducible refine lp (Qhu N _ _) hr N ?_ (λ_ p q=>⟨_,_,p,q,?_⟩) _;rintro n1 st ⟨_,_,hr,hk,E⟩<;>(obtain _|n1:=n1<;>rw[QbS]at hr))
 |refine dp ?_
 |(refine Xq hr ?_;rintro rfl;with_reducible refine XQ ?_)
 |exact YE hr
 |((first|refine XH (c:=true) hr rfl ?_|refine XH (c:=false) hr rfl ?_|refine XH hr ag ?_);intro hr))
abbrev Qny:=g4.1
abbrev QmG:=g4.2.1
abbrev QmH:=g4.2.2.1
abbrev QlD:=g4.2.2.2.1
abbrev QmI:=g4.2.2.2.2.1
abbrev QkS:=g4.2.2.2.2.2.1
abbrev QlE:=g4.2.2.2.2.2.2.1
abbrev Qnz:=g4.2.2.2.2.2.2.2.1
abbrev QhF:=g4.2.2.2.2.2.2.2.2.1
abbrev Qhf:=g4.2.2.2.2.2.2.2.2.2.1
abbrev QmJ:=g4.2.2.2.2.2.2.2.2.2.2.1
abbrev QhD:=g4.2.2.2.2.2.2.2.2.2.2.2
attribute [instance] Qny QmG QmH QlD QmI QkS QlE Qnz QhF Qhf QmJ QhD
def g2:(∀N(a0:WN),O1 (QaV N a0) 99 [.agg (e24 a0)] (λr=>.v (.bool r)))/\(∀N(a0:List Int)(a1:Int)(a2:Int),O1 (QdT N a0 a1 a2) 174 [s49 a0,vu a1,vi a2] (λr=>.tup [vi r.1,.v (.bool r.2)]))/\(∀N(a0:Wp)(a1:Int),O1 (Qhx N a0 a1) 85 [.agg (e32 a0),vi a1] (λr=>vi r))/\(∀N(a0:Int),O1 (QcZ N a0) 250 [vu a0] (λr=>.tup [vu r.1,vi r.2]))/\(∀N(a0:UR),O1 (Qf8 N a0) 256 [.agg (Xje a0)] (λr=>.v (.bool r)))/\(∀N(a0:W3)(a1:W3)(a2:Int)(a3:Int)(a4:Int),O1 (QeX N a0 a1 a2 a3 a4) 45 [.agg (e38 a0),.agg (e38 a1),vi a2,vu a3,vi a4] (λr=>.agg (Xsf r)))/\(∀N(a0:Ws)(a1:WN),O1 (Qgg N a0 a1) 323 [.agg (Xh8 a0),.agg (e24 a1)] (λr=>.v (.bool r)))/\(∀N(a0:Ws)(a1:Ws),O1 (Qfr N a0 a1) 326 [.agg (Xh8 a0),.agg (Xh8 a1)] (λr=>.v (.bool r)))/\(∀N(a0:UT),O1 (QeG N a0) 216 [.agg (Xaj a0)] (λr=>.v (.bool r)))/\(∀N a0 a1,OK (Qfs N a0 a1) 267 [.agg (VD a0),.ept 1000000 0 1 0 0] [.arr true 49 1 [[vu a1]] 0] (λr=>.v (.bool r)) λr=>[.arr true 49 1 [[vu a1]] 0])/\(∀N(a0:W5),O1 (Qf2 N a0) 128 [.agg (Z6 a0)] (λr=>.v (.bool r)))/\(∀N a0 a1,OK (Qec N a0 a1) 306 [vi a0,.ept 1000000 0 1 0 0] [.arr true 25 1 [[s49 a1]] 0] (λr=>s49 r.1) λr=>[.arr true 25 1 [[s49 r.2]] 0]):=by
 refine⟨λN _=>rk f99 ?_,λN _ _ _=>rk f174 ?_,λN _ _=>rk f85 ?_,λN _=>rk f250 ?_,λN _=>rk f256 ?_,λN _ _ _ _ _=>rk f45 ?_,λN _ _=>rk f323 ?_,λN _ _=>rk f326 ?_,λN _=>rk f216 ?_,λN _ _=>rk f267 ?_,λN _=>rk f128 ?_,λN _ _=>rk f306 ?_⟩<;>(rintro _ hw r hr C _ rfl hwf hf;simp only[f99,f174,f85,f250,f256,f45,f323,f326,f216,f267,f128,f306,Option.get!,QaV,QdT,Qhx,QcZ,Qf8,QeX,Qgg,Qfr,QeG,Qfs,Qf2,Qec]at hr⊢;repeat' first
 |(refine El.el hr ?_;clear hr;intro hr)
 |(with_reducible intro h;refine XH hr h ?_;clear hr;intro hr)
 |with_reducible intro _
 |simp only[go_sem,simprocAttr,Y9,Wl,Wn,Wz]
 |(with_reducible first|apply Xi|apply Xh|apply Xt)
 |((first|with_reducible refine Yy hr ag ?_ ?_|(with_reducible refine Yt hr ?_ ?_;rotate_left;intro p;rotate_right));(·simp only[go_sem,simprocAttr,Wl,Wn,Wz]);intro hp hn hd hr;(try have Y9:=hd _ Vh;simp only[go_sem,simprocAttr]at Y9))
 |(refine Xu ?_ ?_;.first|assumption|omega)
 |(refine Xq hr ?_;rintro rfl;with_reducible refine XQ ?_)
 |exact YE hr)
abbrev Qit:=g2.1
abbrev QmK:=g2.2.1
abbrev Qoc:=g2.2.2.1
abbrev QjY:=g2.2.2.2.1
abbrev QlF:=g2.2.2.2.2.1
abbrev QjZ:=g2.2.2.2.2.2.1
abbrev Qiu:=g2.2.2.2.2.2.2.1
abbrev QhQ:=g2.2.2.2.2.2.2.2.1
abbrev Qi2:=g2.2.2.2.2.2.2.2.2.1
abbrev QhR:=g2.2.2.2.2.2.2.2.2.2.1
abbrev Qj0:=g2.2.2.2.2.2.2.2.2.2.2.1
abbrev Qiv:=g2.2.2.2.2.2.2.2.2.2.2.2
attribute [instance] Qit QmK Qoc QjY QlF QjZ Qiu QhQ Qi2 QhR Qj0 Qiv
def g3:(∀N a0,OK (Qgs N a0) 17 [.ept 1000000 0 2 0 0] [.arr true 48 2 [[s3 a0.L,vi a0.at_]] 0] (λr=>.v (.bool r)) λr=>[.arr true 48 2 [[s3 a0.L,vi a0.at_]] 0])/\(∀N(a0:Wv),O1 (Qc9 N a0) 97 [.agg (Z7 a0)] (λr=>.v (.bool r)))/\(∀N(a0:Int),O1 (QcJ N a0) 167 [vu a0] (λr=>.tup [vu r.1,.v (.bool r.2)]))/\(∀N(a0:Int),O1 (Qaa N a0) 102 [vi a0] (λr=>.tup [.agg (e38 r.1),vu r.2.1,vi r.2.2]))/\(∀N(a0:Wu)(a1:Int)(a2:W5),O1 (QgR N a0 a1 a2) 257 [.agg (e35 a0),vi a1,.agg (Z6 a2)] (λr=>.agg (e35 r)))/\(∀N(a0:WM)(a1:Int)(a2:Int)(a3:Int),O1 (QfF N a0 a1 a2 a3) 114 [.agg (e42 a0),vu a1,vi a2,vu a3] (λr=>.agg (e42 r)))/\(∀N(a0:Ws),O1 (Qcd N a0) 345 [.agg (Xh8 a0)] (λr=>.v (.bool r)))/\(∀N(a0:List Int)(a1:Int)(a2:Int),O1 (Qfk N a0 a1 a2) 343 [s49 a0,vu a1,vi a2] (λr=>.tup [vi r.1,.v (.bool r.2)]))/\(∀N(a0:Int),O1 (QeM N a0) 271 [vu a0] (λr=>.v (.bool r)))/\(∀N(a0:IG)(a1:Int),O1 (Qd8 N a0 a1) 211 [.agg (Xoi a0),vi a1] (λr=>Xcy r))/\(∀N(a1:Int),O1 (QbA N a1) 220 [.nsl,vi a1] (λr=>.fsl 49 1 (r.map e49))):=by
 refine⟨λN _=>rk f17 ?_,λN _=>rk f97 ?_,λN _=>rk f167 ?_,λN _=>rk f102 ?_,λN _ _ _=>rk f257 ?_,λN _ _ _ _=>rk f114 ?_,λN _=>rk f345 ?_,λN _ _ _=>rk f343 ?_,λN _=>rk f271 ?_,λN _ _=>rk f211 ?_,λN _=>rq f220 [1408] ?_⟩<;>(rintro _ hw r hr C _ rfl hwf hf;simp only[f17,f97,f167,f102,f257,f114,f345,f343,f271,f211,f220,Option.get!,Qgs,Qc9,QcJ,Qaa,QgR,QfF,Qcd,Qfk,QeM,Qd8,QbA]at hr⊢;repeat' first
 |(refine El.el hr ?_;clear hr;intro hr)
 |(with_reducible intro h;refine XH hr h ?_;clear hr;intro hr)
 |with_reducible intro _
 |simp only[go_sem,simprocAttr,XB,Y9,Ya,KW,Wl,Wn,Wz]
 |(with_reducible first|apply Xi|apply Xh|apply Xt|apply Xx|apply Xy)
 |((first|with_reducible refine Yy hr ag ?_ ?_|(with_reducible refine Yt hr ?_ ?_;rotate_left;intro p;rotate_right));(·simp only[go_sem,simprocAttr,Wl,Wn,Wz]);intro hp hn hd hr;(try have XB:=hd _ e49;simp only[go_sem,simprocAttr]at XB);(try have Y9:=hd _ Vh;simp only[go_sem,simprocAttr]at Y9);(try have Ya:=hd _ Z6;simp only[go_sem,simprocAttr]at Ya);(try have KW:=hd _ Xce;simp only[go_sem,simprocAttr]at KW))
 |(refine Xu ?_ ?_;.first|assumption|omega)
 |refine dp ?_
 |(refine Xq hr ?_;rintro rfl;with_reducible refine XQ ?_)
 |exact YE hr)
abbrev Qi3:=g3.1
abbrev QlG:=g3.2.1
abbrev QkT:=g3.2.2.1
abbrev QkU:=g3.2.2.2.1
abbrev QnA:=g3.2.2.2.2.1
abbrev QnB:=g3.2.2.2.2.2.1
abbrev QhS:=g3.2.2.2.2.2.2.1
abbrev QlH:=g3.2.2.2.2.2.2.2.1
abbrev Qh7:=g3.2.2.2.2.2.2.2.2.1
abbrev QhI:=g3.2.2.2.2.2.2.2.2.2.1
abbrev QgX:=g3.2.2.2.2.2.2.2.2.2.2
attribute [instance] Qi3 QlG QkT QkU QnA QnB QhS QlH Qh7 QhI QgX
instance Qiw:∀N(a0:List UM),OK (Qao N a0) 139 [.isl 121 3 (a0.map Vh)] [] (λr=>.fsl 121 3 (r.map Vh)) λr=>[]:=by
 refineλN a0=>⟨λG hw r hr=>?_⟩
 rw[Qao]at hr;obtain rfl:=WA hr;obtain _|⟨x,l⟩:=a0;refine Zp λa cap=>?_;obtain _|a:=a
 all_goals
  refine Ys (fn:=f139) (body:=(f139.body).get!) (rs:=[.tmp 2]) 1000 [320] 8 ac ac ac ac ac ab λC _ hG hwf=>?_;subst hG;have hw2:=hwf;simp only[WfL,Wf,Um,and_true,Uz,Xh4,XE]at hw2;simp only[f139,Option.get!]
  simp only[go_sem,simprocAttr]
  try refine⟨aa,?_⟩
  with_reducible refine XQ ?_
  simp only[go_sem,simprocAttr]
instance Qi4:∀N(a0:List Ws),OK (Qad N a0) 137 [.isl 139 4 (a0.map X0)] [] (λr=>.fsl 139 4 (r.map X0)) λr=>[]:=by
 refineλN a0=>⟨λG hw r hr=>?_⟩
 rw[Qad]at hr;obtain rfl:=WA hr;obtain _|⟨x,l⟩:=a0;refine Zp λa cap=>?_;obtain _|a:=a
 all_goals
  refine Ys (fn:=f137) (body:=(f137.body).get!) (rs:=[.tmp 2]) 1000 [320] 8 ac ac ac ac ac ab λC _ hG hwf=>?_;subst hG;have hw2:=hwf;simp only[WfL,Wf,Um,and_true,Uz,Xh5,XE]at hw2;simp only[f137,Option.get!]
  simp only[go_sem,simprocAttr]
  try refine⟨aa,?_⟩
  with_reducible refine XQ ?_
  simp only[go_sem,simprocAttr]
instance QkV:∀N(a0:List Int),OK (Qae N a0) 59 [.isl 49 1 (a0.map e49)] [] (λr=>.fsl 49 1 (r.map e49)) λr=>[]:=by
 refineλN a0=>⟨λG hw r hr=>?_⟩
 rw[Qae]at hr;obtain rfl:=WA hr;obtain _|⟨x,l⟩:=a0;refine Zp λa cap=>?_;obtain _|a:=a
 all_goals
  refine Ys (fn:=f59) (body:=(f59.body).get!) (rs:=[.tmp 2]) 1000 [320] 8 ac ac ac ac ac ab λC _ hG hwf=>?_;subst hG;have hw2:=hwf;simp only[WfL,Wf,Um,and_true,Uz,Xkr,XE]at hw2;simp only[f59,Option.get!]
  simp only[go_sem,simprocAttr]
  try refine⟨aa,?_⟩
  with_reducible refine XQ ?_
  simp only[go_sem,simprocAttr]
end Go.Sx
