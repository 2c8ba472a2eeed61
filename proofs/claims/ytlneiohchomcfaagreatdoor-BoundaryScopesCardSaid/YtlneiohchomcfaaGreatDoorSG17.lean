import Derived.Test.YtlneiohchomcfaaGreatDoorSG15
set_option linter.all false
namespace Go.Sx
open Go.Proofs Tryz
set_option maxRecDepth 10000
set_option maxHeartbeats 100000000
abbrev QjC:=λN c Q n (st:St)=>∃d,Iv (Qa9 N c n d) Q ((∃b a,st.n=64/\st.t 1=.ept 64 b 6 0 0/\st.t 2=.ept 128 a 3 0 0/\st.t 12=YB c.p/\st.t 13=vi c.p.length/\st.t 14=vi d/\st.s 64=some (b,.arr true 28 6 [e28 c] 0)/\st.s 128=some (a,.arr true 270 3 [[vi 0,vi 0,vu 0]] 0)))
abbrev QhZ:=λN e c f g d Q n (st:St)=>∃v6,Iv (QaS N e c f g d n v6) Q ((∃b a,st.n=83/\st.t 1=.ept 64 b 6 0 0/\st.t 2=.ept 128 a 3 0 0/\st.t 3=s49 c.1/\st.t 7=vu g/\st.t 24=s49 c.1/\st.t 25=vi c.1.length/\st.t 26=vi f/\st.t 37=s3 d/\st.t 38=vi d.length/\st.t 39=vi v6/\st.s 64=some (b,.arr true 28 6 [e28 e] 0)/\st.s 128=some (a,.arr true 270 3 [[vi 0,vi 0,vu 0]] 0)))
abbrev Qh0:=λN d c Q n (st:St)=>∃e,Iv (QcB N d c n e) Q ((∃b a,st.n=83/\st.t 1=.ept 64 b 6 0 0/\st.t 2=.ept 128 a 3 0 0/\st.t 3=s49 c.1/\st.t 5=vu 0/\st.t 24=s49 c.1/\st.t 25=vi c.1.length/\st.t 26=vi e/\st.s 64=some (b,.arr true 28 6 [e28 d] 0)/\st.s 128=some (a,.arr true 270 3 [[vi 0,vi 0,vu 0]] 0)))
abbrev QhK:=λN c e f Q n (st:St)=>∃g d,Iv (Qcl N c e f n g d) Q ((∃a b,st.n=80/\st.s 1600=some (a,.arr false 3 1 (d.map e3) 0)/\st.t 0=VE c/\st.t 3=.ept 192 b 6 0 0/\st.t 6=.clo (.func 208) [] []/\st.t 7=s49 f.1/\st.t 9=.osl 1600 a 1 0 d.length/\st.t 26=VE c/\st.t 27=vi c.length/\st.t 28=vi g/\st.s 192=some (b,.arr true 28 6 [e28 e] 0)))
def g35:(∀N(a0:Wk),O1 (QgH N a0) 264 [.agg (e28 a0)] (λr=>.agg (XqA r)))/\(∀N(a0:Wk),O1 (QfA N a0) 265 [.agg (e28 a0)] (λr=>.agg (XqA r)))/\(∀N(a0:List UE)(a1:Wk),O1 (Qgi N a0 a1) 121 [VE a0,.agg (e28 a1)] (λr=>.tup [s3 r.1,.v (.bool r.2)])):=by
 refine⟨λN _=>rk f264 ?_,λN _=>rk f265 ?_,λN _ _=>rk f121 ?_⟩<;>(rintro _ hw r hr C _ rfl hwf hf;simp only[f264,f265,f121,Option.get!,QgH,QfA,Qgi]at hr⊢;repeat' first
 |(refine El.el hr ?_;clear hr;intro hr)
 |(with_reducible intro h;refine XH hr h ?_;clear hr;intro hr)
 |with_reducible intro _
 |(refine Xq hr ?_;rintro rfl;have hr:=hk;clear hk)
 |simp only[go_sem,simprocAttr,E,hl3,XB,Zj,Xm]
 |(with_reducible first|apply Xi|apply Xh|apply Xt|apply Xx|apply Xy)
 |((first|with_reducible refine Yy hr ag ?_ ?_|(with_reducible refine Yt hr ?_ ?_;rotate_left;intro p;rotate_right));(·simp only[go_sem,simprocAttr]);intro hp hn hd hr;(try have hl3:=hd _ e3;simp only[go_sem,simprocAttr]at hl3);(try have XB:=hd _ e49;simp only[go_sem,simprocAttr]at XB);(try have Zj:=hd _ VD;simp only[go_sem,simprocAttr]at Zj);(try have Xm:=hd _ X0;simp only[go_sem,simprocAttr]at Xm))
 |(refine Xu ?_ ?_;.first|assumption|omega)
 |(with_reducible first|refine CallX.c ?_ _|refine OK.c hr hw ?_ (λy hr=>?_) _)
 |(with_reducible refine lp (QjC N _) hr N ?_ (λ_ p q=>⟨_,_,p,q,?_⟩) _;rintro n1 st ⟨_,_,hr,hk,⟨_,_,E⟩⟩<;>(obtain _|n1:=n1<;>rw[Qa9]at hr))
 |refine⟨_,WD _,_,_,hr,hk,?_⟩
 |(with_reducible refine lp (QhZ N _ _ _ _ _) hr N ?_ (λ_ p q=>⟨_,_,p,q,?_⟩) _;rintro n1 st ⟨_,_,hr,hk,⟨_,_,E⟩⟩<;>(obtain _|n1:=n1<;>rw[QaS]at hr))
 |(with_reducible refine lp (Qh0 N _ _) hr N ?_ (λ_ p q=>⟨_,_,p,q,?_⟩) _;rintro n2 st ⟨_,_,hr,hk,⟨_,_,E⟩⟩<;>(obtain _|n2:=n2<;>rw[QcB]at hr))
 |(with_reducible refine lp (QhK N _ _ _) hr N ?_ (λ_ p q=>⟨_,_,_,p,q,?_⟩) _;rintro n1 st ⟨_,_,_,hr,hk,⟨_,_,E⟩⟩<;>(obtain _|n1:=n1<;>rw[Qcl]at hr))
 |refine⟨_,WD _,_,_,_,hr,hk,?_⟩
 |refine dq 121 11 hf [(8,[1600],[])] ?_
 |(refine Xq hr ?_;rintro rfl;with_reducible refine XQ ?_)
 |exact YE hr
 |((first|refine XH (c:=true) hr rfl ?_|refine XH (c:=false) hr rfl ?_|refine XH hr ag ?_);intro hr))
abbrev Qmo:=g35.1
abbrev QjD:=g35.2.1
abbrev QiL:=g35.2.2
attribute [instance] Qmo QjD QiL
instance QpQ:∀N(a0:Wk),O1 (Qbe N a0) 80 [.agg (e28 a0)] (λr=>.v (.bool r)):=by
 refineλN _=>rk f80 ?_<;>(rintro _ hw r hr C _ rfl hwf hf;simp only[f80,Option.get!];(rw[Qbe]at hr);repeat' first
 |(refine El.el hr ?_;clear hr;intro hr)
 |(with_reducible intro h;refine XH hr h ?_;clear hr;intro hr)
 |with_reducible intro _
 |simp only[go_sem,simprocAttr]
 |(with_reducible first|apply Xi|apply Xh|apply Xt)
 |(refine Xu ?_ ?_;.first|assumption|omega)
 |(with_reducible first|refine CallX.c ?_ _|refine OK.c hr hw ?_ (λy hr=>?_) _)
 |(refine Xq hr ?_;rintro rfl;with_reducible refine XQ ?_)
 |exact YE hr)
abbrev QjE:=λN d e f Q n (st:St)=>∃g c,Iv (Qbl N d e f n g c) Q ((∃a b,st.n=103/\st.s 1664=some (a,.arr false 3 1 (c.map e3) 0)/\st.t 1=VE e/\st.t 2=.ept 128 b 6 0 0/\st.t 5=s49 f.1/\st.t 7=.osl 1664 a 1 0 c.length/\st.t 8=vi g/\st.s 128=some (b,.arr true 28 6 [e28 d] 0)))
abbrev QjF:=λN d c Q n (st:St)=>∃v17,Iv (QbI N d c n v17) Q ((∃a b,st.n=103/\st.s 1664=some (a,.arr false 3 1 (c.map e3) 0)/\st.t 2=.ept 128 b 6 0 0/\st.t 7=.osl 1664 a 1 0 c.length/\st.t 9=vi v17/\st.s 128=some (b,.arr true 28 6 [e28 d] 0)))
abbrev QiM:=λN a b Q n (st:St)=>∃c,Iv (QaH N a b n c) Q ((st.n=36/\st.t 1=s49 a/\st.t 5=s49 b.1/\st.t 7=vi c))
abbrev QjG:=λN f i Q n (st:St)=>∃j h,Iv (QbK N f i n j h) Q ((∃a g d e,st.n=61/\st.s 1472=some (a,.arr false 139 4 (h.map X0) 0)/\st.t 1=.ept 64 g 6 0 0/\st.t 2=.ept 128 d 16 0 0/\st.t 4=.ept 256 e 16 0 0/\st.t 5=vi j/\st.s 64=some (g,.arr true 28 6 [e28 f] 0)/\st.s 128=some (d,.arr true 147 16 [[vi 0,vi 0,.nsl,.nsl,vi 0,vi 0,.nsl,.nsl,.nsl,vi 0,vi 0,vi 0,vi 0,vi 0,vi 0,vi 0]] 0)/\st.s 256=some (e,.arr true 147 16 [[vi f.c.W,vi f.c.p,s49 f.w,.osl 1472 a 4 0 h.length,vi f.s,vi f.b,s49 i.1,.nsl,.nsl,vi 0,vi 0,vi 0,vi 0,vi 0,vi 0,vi 0]] 0)))
abbrev Qih:=λN b c Q n (st:St)=>∃d e,Iv (Qby N b c n d e) Q ((∃a,st.n=65/\st.t 1=vu c/\st.t 2=.ept 128 a 6 0 0/\st.t 5=vi d/\st.t 6=vi e/\st.s 128=some (a,.arr true 28 6 [e28 b] 0)))
abbrev QjH:=λN c Q n (st:St)=>∃d e,Iv (QcA N c n d e) Q ((∃b a,st.n=50/\st.t 1=.ept 64 b 6 0 0/\st.t 2=.ept 128 a 3 0 0/\st.t 5=vi d/\st.t 25=YB c.p/\st.t 26=vi c.p.length/\st.t 27=vi e/\st.s 64=some (b,.arr true 28 6 [e28 c] 0)/\st.s 128=some (a,.arr true 270 3 [[vi 0,vi 0,vu 0]] 0)))
def g36:(∀N(a0:Wk)(a1:List UE),O1 (Qcn N a0 a1) 24 [.agg (e28 a0),VE a1] (λr=>.v (.bool r)))/\(∀N(a0:Wk)(a1:List Int),O1 (QbJ N a0 a1) 30 [.agg (e28 a0),s49 a1] (λr=>.v (.bool r)))/\(∀N(a0:Wk),O1 (Qda N a0) 87 [.agg (e28 a0)] (λr=>.tup [.agg (JG r.1),vi r.2]))/\(∀N(a0:Wk)(a1:Int),O1 (Qc0 N a0 a1) 260 [.agg (e28 a0),vu a1] (λr=>.v (.bool r)))/\(∀N(a0:Wk),O1 (Qhh N a0) 207 [.agg (e28 a0)] (λr=>.agg (XqA r))):=by
 refine⟨λN _ _=>rk f24 ?_,λN _ _=>rk f30 ?_,λN _=>rk f87 ?_,λN _ _=>rk f260 ?_,λN _=>rk f207 ?_⟩<;>(rintro _ hw r hr C _ rfl hwf hf;have hse:=@ZZ _ hw;simp only[f24,f30,f87,f260,f207,Option.get!,Qcn,QbJ,Qda,Qc0,Qhh]at hr⊢;repeat' first
 |(refine El.el hr ?_;clear hr;intro hr)
 |(with_reducible intro h;refine XH hr h ?_;clear hr;intro hr)
 |with_reducible intro _
 |(refine Xq hr ?_;rintro rfl;have hr:=hk;clear hk)
 |simp only[go_sem,simprocAttr,E,hl3,XB,Zj,Xm,hse]
 |(with_reducible first|apply Xi|apply Xh|apply Xt|apply Xx|apply Xy)
 |((first|with_reducible refine Yy hr ag ?_ ?_|(with_reducible refine Yt hr ?_ ?_;rotate_left;intro p;rotate_right));(·simp only[go_sem,simprocAttr,hse]);intro hp hn hd hr;(try have hl3:=hd _ e3;simp only[go_sem,simprocAttr]at hl3);(try have XB:=hd _ e49;simp only[go_sem,simprocAttr]at XB);(try have Zj:=hd _ VD;simp only[go_sem,simprocAttr]at Zj);(try have Xm:=hd _ X0;simp only[go_sem,simprocAttr]at Xm))
 |(refine Xu ?_ ?_;.first|assumption|omega)
 |(with_reducible first|refine CallX.c ?_ _|refine OK.c hr hw ?_ (λy hr=>?_) _|refine OK.d hr hw ?_ (λy hr=>?_) _)
 |(with_reducible refine lp (QjE N _ _ _) hr N ?_ (λ_ p q=>⟨_,_,_,p,q,?_⟩) _;rintro n1 st ⟨_,_,_,hr,hk,⟨_,_,E⟩⟩<;>(obtain _|n1:=n1<;>rw[Qbl]at hr))
 |refine⟨_,WD _,_,_,_,hr,hk,?_⟩
 |(with_reducible refine lp (QjF N _ _) hr N ?_ (λ_ p q=>⟨_,_,p,q,?_⟩) _;rintro n2 st ⟨_,_,hr,hk,⟨_,_,E⟩⟩<;>(obtain _|n2:=n2<;>rw[QbI]at hr))
 |refine⟨_,WD _,_,_,hr,hk,?_⟩
 |(with_reducible refine lp (QiM N _ _) hr N ?_ (λ_ p q=>⟨_,_,p,q,?_⟩) _;rintro n1 st ⟨_,_,hr,hk,E⟩<;>(obtain _|n1:=n1<;>rw[QaH]at hr))
 |(with_reducible refine lp (QjG N _ _) hr N ?_ (λ_ p q=>⟨_,_,_,p,q,?_⟩) _;rintro n1 st ⟨_,_,_,hr,hk,⟨_,_,_,_,E⟩⟩<;>(obtain _|n1:=n1<;>rw[QbK]at hr))
 |(with_reducible refine lp (Qih N _ _) hr N ?_ (λ_ p q=>⟨_,_,_,p,q,?_⟩) _;rintro n1 st ⟨_,_,_,hr,hk,⟨_,E⟩⟩<;>(obtain _|n1:=n1<;>rw[Qby]at hr))
 |(with_reducible refine lp (QjH N _) hr N ?_ (λ_ p q=>⟨_,_,_,p,q,?_⟩) _;rintro n1 st ⟨_,_,_,hr,hk,⟨_,_,E⟩⟩<;>(obtain _|n1:=n1<;>rw[QcA]at hr))
 |refine dq 24 10 hf [(17,[1664],[])] ?_
 |refine dq 260 9 hf [(0,[],[448]),(1,[],[448]),(2,[],[448]),(3,[],[448]),(4,[],[448]),(5,[],[448]),(6,[],[448]),(7,[448],[]),(8,[448],[])] ?_
 |refine dp ?_
 |(refine Xq hr ?_;rintro rfl;with_reducible refine XQ ?_)
 |exact YE hr
 |((first|refine XH (c:=true) hr rfl ?_|refine XH (c:=false) hr rfl ?_|refine XH hr ag ?_);intro hr))
abbrev Qmp:=g36.1
abbrev Qlt:=g36.2.1
abbrev Qmq:=g36.2.2.1
abbrev QkI:=g36.2.2.2.1
abbrev Qmr:=g36.2.2.2.2
attribute [instance] Qmp Qlt Qmq QkI Qmr
def g37:(∀N(a0:W3),O1 (Qa5 N a0) 10 [.agg (e38 a0)] (λr=>.v (.bool r)))/\(∀N(a0:Wk)(a1:List UE)(a2:Int),O1 (Qdz N a0 a1 a2) 193 [.agg (e28 a0),VE a1,vu a2] (λr=>.tup [.agg (e28 r.1),VE r.2.1,vi r.2.2]))/\(∀N(a0:Wk)(a1:List UE)(a2:Int),O1 (QfE N a0 a1 a2) 194 [.agg (e28 a0),VE a1,vu a2] (λr=>.tup [.agg (e28 r.1),VE r.2.1,vu r.2.2.1,vi r.2.2.2]))/\(∀N(a0:Wk),O1 (QfO N a0) 120 [.agg (e28 a0)] (λr=>.v (.bool r))):=by
 refine⟨λN _=>rk f10 ?_,λN _ _ _=>rk f193 ?_,λN _ _ _=>rk f194 ?_,λN _=>rk f120 ?_⟩<;>(rintro _ hw r hr C _ rfl hwf hf;have hse:=@ZZ _ hw;simp only[f10,f193,f194,f120,Option.get!,Qa5,Qdz,QfE,QfO]at hr⊢;repeat' first
 |(refine El.el hr ?_;clear hr;intro hr)
 |(with_reducible intro h;refine XH hr h ?_;clear hr;intro hr)
 |with_reducible intro _
 |simp only[go_sem,simprocAttr,Zj,hse,Wl,Wn,Wz]
 |(with_reducible first|apply Xi|apply Xh|apply Xt|apply Xx|apply Xy)
 |((first|with_reducible refine Yy hr ag ?_ ?_|(with_reducible refine Yt hr ?_ ?_;rotate_left;intro p;rotate_right));(·simp only[go_sem,simprocAttr,hse,Wl,Wn,Wz]);intro hp hn hd hr;(try have Zj:=hd _ VD;simp only[go_sem,simprocAttr]at Zj))
 |(refine Xu ?_ ?_;.first|assumption|omega)
 |(with_reducible first|refine CallX.c ?_ _|refine OK.c hr hw ?_ (λy hr=>?_) _|refine OK.d hr hw ?_ (λy hr=>?_) _)
 |refine dq 10 6 hf [(0,[2176],[]),(1,[],[2176]),(2,[],[2176]),(3,[2176],[]),(4,[],[2176]),(5,[],[2176]),(7,[2176],[])] ?_
 |refine dq 10 7 hf [(0,[],[2176,3136]),(1,[],[2176,3136]),(4,[2176],[]),(5,[],[2176]),(6,[],[2176]),(7,[3136],[]),(8,[2176],[])] ?_
 |refine dq 193 11 hf [(7,[1600],[])] ?_
 |(refine Xq hr ?_;rintro rfl;with_reducible refine XQ ?_)
 |exact YE hr
 |with_reducible refine XqH (λhi=>?_) (λhi=>?_)
 |(exfalso;omega))
abbrev Qms:=g37.1
abbrev QkJ:=g37.2.1
abbrev Qn4:=g37.2.2.1
abbrev Qnv:=g37.2.2.2
attribute [instance] Qms QkJ Qn4 Qnv
abbrev Qii:=λN k l a Q n (st:St)=>∃v7 v8 v9,Iv (QaQ N k l a n v7 v8 v9) Q ((∃i e f g,st.n=122/\st.s 5824=some (i,.arr false 49 1 (v9.map e49) 0)/\st.t 2=s49 k/\st.t 6=.ept 384 e 6 0 0/\st.t 9=.ept 576 f 6 0 0/\st.t 11=.ept 704 g 16 0 0/\st.t 13=s49 l.2.1/\st.t 15=.osl 5824 i 1 0 v9.length/\st.t 16=vi v7/\st.s 384=some (e,.arr true 28 6 [[vi 0,vi 0,.nsl,.nsl,vi 0,vi 0]] 0)/\st.s 576=some (f,.arr true 60 6 [[vi 0,vi 0,vi 0,vi 0,vi 0,vi 0]] 0)/\st.s 704=some (g,.arr true 147 16 [[vi a.1.h.c.W,vi a.1.h.c.p,s49 a.1.h.w,YB a.1.h.p,vi a.1.h.s,vi a.1.h.b,s49 a.1.o,s3 a.1.t,s49 a.1.q,vi a.1.d,vi a.1.r.j,vi a.1.r.K,vi a.1.r.F,vi a.1.r.E,vi v8,vi a.1.r.y]] 0))\/(∃e f g,(st.n=122/\st.t 2=s49 k/\st.t 6=.ept 384 e 6 0 0/\st.t 9=.ept 576 f 6 0 0/\st.t 11=.ept 704 g 16 0 0/\st.t 13=s49 l.2.1/\st.t 15=.nsl/\st.t 16=vi v7/\st.s 384=some (e,.arr true 28 6 [[vi 0,vi 0,.nsl,.nsl,vi 0,vi 0]] 0)/\st.s 576=some (f,.arr true 60 6 [[vi 0,vi 0,vi 0,vi 0,vi 0,vi 0]] 0)/\st.s 704=some (g,.arr true 147 16 [[vi a.1.h.c.W,vi a.1.h.c.p,s49 a.1.h.w,YB a.1.h.p,vi a.1.h.s,vi a.1.h.b,s49 a.1.o,s3 a.1.t,s49 a.1.q,vi a.1.d,vi a.1.r.j,vi a.1.r.K,vi a.1.r.F,vi a.1.r.E,vi v8,vi a.1.r.y]] 0))/\v9=[]))
instance QoR:∀N(a0:Wk)(a1:List Int)(a2:List Int),O1 (Qcr N a0 a1 a2) 31 [.agg (e28 a0),s49 a1,s49 a2] (λr=>.tup [.agg (e28 r.1),s49 r.2.1,s49 r.2.2.1,.agg (e60 r.2.2.2.1),vi r.2.2.2.2]):=by
 refineλN _ _ _=>rk f31 ?_<;>(rintro _ hw r hr C _ rfl hwf hf;have hse:=@ZZ _ hw;simp only[f31,Option.get!];(rw[Qcr]at hr);repeat' first
 |(refine El.el hr ?_;clear hr;intro hr)
 |(with_reducible intro h;refine XH hr h ?_;clear hr;intro hr)
 |with_reducible intro _
 |(refine Xq hr ?_;rintro rfl;have hr:=hk;clear hk)
 |simp only[go_sem,simprocAttr,E,hl3,XB,hse]
 |(with_reducible first|apply Xi|apply Xh|apply Xt|apply Xx|apply Xy)
 |((first|with_reducible refine Yy hr ag ?_ ?_|(with_reducible refine Yt hr ?_ ?_;rotate_left;intro p;rotate_right));(·simp only[go_sem,simprocAttr,hse]);intro hp hn hd hr;(try have hl3:=hd _ e3;simp only[go_sem,simprocAttr]at hl3);(try have XB:=hd _ e49;simp only[go_sem,simprocAttr]at XB))
 |(refine Xu ?_ ?_;.first|assumption|omega)
 |(with_reducible first|refine CallX.c ?_ _|refine OK.c hr hw ?_ (λy hr=>?_) _|refine OK.d hr hw ?_ (λy hr=>?_) _)
 |(with_reducible refine lp (Qii N _ _ _) hr N ?_ (λ_ p q=>⟨_,_,_,_,p,q,?_⟩) _;rintro n1 st ⟨_,_,_,_,hr,hk,(⟨_,_,_,_,E⟩|⟨_,_,_,E,z0⟩)⟩<;>(try subst z0)<;>(obtain _|n1:=n1<;>rw[QaQ]at hr))
 |refine⟨_,WD _,_,_,_,_,hr,hk,?_⟩
 |refine dq 31 28 hf [(2,[],[384]),(3,[],[384]),(4,[],[384]),(5,[],[384]),(6,[384],[]),(9,[576],[])] ?_
 |refine dp ?_
 |(refine Xq hr ?_;rintro rfl;with_reducible refine XQ ?_)
 |exact YE hr
 |((first|refine XH (c:=true) hr rfl ?_|refine XH (c:=false) hr rfl ?_|refine XH hr ag ?_);intro hr))
end Go.Sx
