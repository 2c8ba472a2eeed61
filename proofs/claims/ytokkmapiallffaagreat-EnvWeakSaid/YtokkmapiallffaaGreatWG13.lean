import Derived.Test.YtokkmapiallffaaGreatWG10
set_option linter.all false
namespace Go.Sx
open Go.Proofs Tryz
set_option maxRecDepth 10000
set_option maxHeartbeats 100000000
abbrev Qjk:=λN c Q n (st:St)=>∃d,Iv (Qa4 N c n d) Q ((∃b a,st.n=64/\st.t 1=.ept 64 b 6 0 0/\st.t 2=.ept 128 a 3 0 0/\st.t 12=Yz c.p/\st.t 13=vi c.p.length/\st.t 14=vi d/\st.s 64=some (b,.arr true 28 6 [e28 c] 0)/\st.s 128=some (a,.arr true 249 3 [[vi 0,vi 0,vu 0]] 0)))
abbrev QhH:=λN e c f g d Q n (st:St)=>∃v6,Iv (QaM N e c f g d n v6) Q ((∃b a,st.n=83/\st.t 1=.ept 64 b 6 0 0/\st.t 2=.ept 128 a 3 0 0/\st.t 3=s52 c.1/\st.t 7=vu g/\st.t 24=s52 c.1/\st.t 25=vi c.1.length/\st.t 26=vi f/\st.t 37=s3 d/\st.t 38=vi d.length/\st.t 39=vi v6/\st.s 64=some (b,.arr true 28 6 [e28 e] 0)/\st.s 128=some (a,.arr true 249 3 [[vi 0,vi 0,vu 0]] 0)))
abbrev QhI:=λN d c Q n (st:St)=>∃e,Iv (Qcq N d c n e) Q ((∃b a,st.n=83/\st.t 1=.ept 64 b 6 0 0/\st.t 2=.ept 128 a 3 0 0/\st.t 3=s52 c.1/\st.t 5=vu 0/\st.t 24=s52 c.1/\st.t 25=vi c.1.length/\st.t 26=vi e/\st.s 64=some (b,.arr true 28 6 [e28 d] 0)/\st.s 128=some (a,.arr true 249 3 [[vi 0,vi 0,vu 0]] 0)))
abbrev Qhs:=λN c e f Q n (st:St)=>∃g d,Iv (Qcb N c e f n g d) Q ((∃a b,st.n=80/\st.s 1600=some (a,.arr false 3 1 (d.map e3) 0)/\st.t 0=s93 c/\st.t 3=.ept 192 b 6 0 0/\st.t 6=.clo (.func 168) [] []/\st.t 7=s52 f.1/\st.t 9=.osl 1600 a 1 0 d.length/\st.t 26=s93 c/\st.t 27=vi c.length/\st.t 28=vi g/\st.s 192=some (b,.arr true 28 6 [e28 e] 0)))
def g35:(∀N(a0:Wh),O1 (Qgn N a0) 246 [.agg (e28 a0)] (λr=>.agg (XqJ r)))/\(∀N(a0:Wh),O1 (Qfi N a0) 247 [.agg (e28 a0)] (λr=>.agg (XqJ r)))/\(∀N(a0:List UE)(a1:Wh),O1 (QfU N a0 a1) 95 [s93 a0,.agg (e28 a1)] (λr=>.tup [s3 r.1,.v (.bool r.2)])):=by
 refine⟨λN _=>rk f246 ?_,λN _=>rk f247 ?_,λN _ _=>rk f95 ?_⟩<;>(rintro _ hw r hr C _ rfl hwf hf;simp only[f246,f247,f95,Option.get!,Qgn,Qfi,QfU]at hr⊢;repeat' first
 |(refine El.el hr ?_;clear hr;intro hr)
 |(with_reducible intro h;refine XJ hr h ?_;clear hr;intro hr)
 |with_reducible intro _
 |(refine Xp hr ?_;rintro rfl;have hr:=hk;clear hk)
 |simp only[go_sem,simprocAttr,E,hl3,XA,KC,Xk]
 |(with_reducible first|apply Xj|apply Xi|apply Xw|apply Xs|apply Xt)
 |((first|with_reducible refine Yy hr ah ?_ ?_|(with_reducible refine Yr hr ?_ ?_;rotate_left;intro p;rotate_right));(·simp only[go_sem,simprocAttr]);intro hp hn hd hr;(try have hl3:=hd _ e3;simp only[go_sem,simprocAttr]at hl3);(try have XA:=hd _ e52;simp only[go_sem,simprocAttr]at XA);(try have KC:=hd _ e93;simp only[go_sem,simprocAttr]at KC);(try have Xk:=hd _ XX;simp only[go_sem,simprocAttr]at Xk))
 |(refine Xx ?_ ?_;.first|assumption|omega)
 |(with_reducible first|refine CallX.c ?_ _|refine OK.c hr hw ?_ (λy hr=>?_) _)
 |(with_reducible refine lp (Qjk N _) hr N ?_ (λ_ p q=>⟨_,_,p,q,?_⟩) _;rintro n1 st ⟨_,_,hr,hk,⟨_,_,E⟩⟩<;>(obtain _|n1:=n1<;>rw[Qa4]at hr))
 |refine⟨_,Wz _,_,_,hr,hk,?_⟩
 |(with_reducible refine lp (QhH N _ _ _ _ _) hr N ?_ (λ_ p q=>⟨_,_,p,q,?_⟩) _;rintro n1 st ⟨_,_,hr,hk,⟨_,_,E⟩⟩<;>(obtain _|n1:=n1<;>rw[QaM]at hr))
 |(with_reducible refine lp (QhI N _ _) hr N ?_ (λ_ p q=>⟨_,_,p,q,?_⟩) _;rintro n2 st ⟨_,_,hr,hk,⟨_,_,E⟩⟩<;>(obtain _|n2:=n2<;>rw[Qcq]at hr))
 |(with_reducible refine lp (Qhs N _ _ _) hr N ?_ (λ_ p q=>⟨_,_,_,p,q,?_⟩) _;rintro n1 st ⟨_,_,_,hr,hk,⟨_,_,E⟩⟩<;>(obtain _|n1:=n1<;>rw[Qcb]at hr))
 |refine⟨_,Wz _,_,_,_,hr,hk,?_⟩
 |refine dq 95 11 hf [(8,[1600],[])] ?_
 |(refine Xp hr ?_;rintro rfl;with_reducible refine XT ?_)
 |exact YH hr
 |((first|refine XJ (c:=true) hr rfl ?_|refine XJ (c:=false) hr rfl ?_|refine XJ hr ah ?_);intro hr))
abbrev Ql1:=g35.1
abbrev Qjl:=g35.2.1
abbrev Qip:=g35.2.2
attribute [instance] Ql1 Qjl Qip
instance Qpp:∀N(a0:Wh),O1 (Qbj N a0) 252 [.agg (e28 a0)] (λr=>.v (.bool r)):=by
 refineλN _=>rk f252 ?_<;>(rintro _ hw r hr C _ rfl hwf hf;simp only[f252,Option.get!];(rw[Qbj]at hr);repeat' first
 |(refine El.el hr ?_;clear hr;intro hr)
 |(with_reducible intro h;refine XJ hr h ?_;clear hr;intro hr)
 |with_reducible intro _
 |simp only[go_sem,simprocAttr]
 |(with_reducible first|apply Xj|apply Xi|apply Xw)
 |(refine Xx ?_ ?_;.first|assumption|omega)
 |(with_reducible first|refine CallX.c ?_ _|refine OK.c hr hw ?_ (λy hr=>?_) _)
 |(refine Xp hr ?_;rintro rfl;with_reducible refine XT ?_)
 |exact YH hr)
abbrev Qjm:=λN d e f Q n (st:St)=>∃g c,Iv (Qbc N d e f n g c) Q ((∃a b,st.n=103/\st.s 1664=some (a,.arr false 3 1 (c.map e3) 0)/\st.t 1=s93 e/\st.t 2=.ept 128 b 6 0 0/\st.t 5=s52 f.1/\st.t 7=.osl 1664 a 1 0 c.length/\st.t 8=vi g/\st.s 128=some (b,.arr true 28 6 [e28 d] 0)))
abbrev Qjn:=λN d c Q n (st:St)=>∃v17,Iv (Qbz N d c n v17) Q ((∃a b,st.n=103/\st.s 1664=some (a,.arr false 3 1 (c.map e3) 0)/\st.t 2=.ept 128 b 6 0 0/\st.t 7=.osl 1664 a 1 0 c.length/\st.t 9=vi v17/\st.s 128=some (b,.arr true 28 6 [e28 d] 0)))
abbrev Qiq:=λN a b Q n (st:St)=>∃c,Iv (QaA N a b n c) Q ((st.n=36/\st.t 1=s52 a/\st.t 5=s52 b.1/\st.t 7=vi c))
abbrev Qjo:=λN f i Q n (st:St)=>∃j h,Iv (QbB N f i n j h) Q ((∃a g d e,st.n=61/\st.s 1472=some (a,.arr false 122 4 (h.map XX) 0)/\st.t 1=.ept 64 g 6 0 0/\st.t 2=.ept 128 d 16 0 0/\st.t 4=.ept 256 e 16 0 0/\st.t 5=vi j/\st.s 64=some (g,.arr true 28 6 [e28 f] 0)/\st.s 128=some (d,.arr true 266 16 [[vi 0,vi 0,.nsl,.nsl,vi 0,vi 0,.nsl,.nsl,.nsl,vi 0,vi 0,vi 0,vi 0,vi 0,vi 0,vi 0]] 0)/\st.s 256=some (e,.arr true 266 16 [[vi f.c.W,vi f.c.p,s52 f.w,.osl 1472 a 4 0 h.length,vi f.s,vi f.b,s52 i.1,.nsl,.nsl,vi 0,vi 0,vi 0,vi 0,vi 0,vi 0,vi 0]] 0)))
abbrev QhZ:=λN b c Q n (st:St)=>∃d e,Iv (Qbp N b c n d e) Q ((∃a,st.n=65/\st.t 1=vu c/\st.t 2=.ept 128 a 6 0 0/\st.t 5=vi d/\st.t 6=vi e/\st.s 128=some (a,.arr true 28 6 [e28 b] 0)))
abbrev Qjp:=λN c Q n (st:St)=>∃d e,Iv (Qcm N c n d e) Q ((∃b a,st.n=50/\st.t 1=.ept 64 b 6 0 0/\st.t 2=.ept 128 a 3 0 0/\st.t 5=vi d/\st.t 25=Yz c.p/\st.t 26=vi c.p.length/\st.t 27=vi e/\st.s 64=some (b,.arr true 28 6 [e28 c] 0)/\st.s 128=some (a,.arr true 249 3 [[vi 0,vi 0,vu 0]] 0)))
def g36:(∀N(a0:Wh)(a1:List UE),O1 (Qce N a0 a1) 180 [.agg (e28 a0),s93 a1] (λr=>.v (.bool r)))/\(∀N(a0:Wh)(a1:List Int),O1 (QbA N a0 a1) 181 [.agg (e28 a0),s52 a1] (λr=>.v (.bool r)))/\(∀N(a0:Wh),O1 (QcX N a0) 182 [.agg (e28 a0)] (λr=>.tup [.agg (Jz r.1),vi r.2]))/\(∀N(a0:Wh)(a1:Int),O1 (QcN N a0 a1) 267 [.agg (e28 a0),vu a1] (λr=>.v (.bool r)))/\(∀N(a0:Wh),O1 (QgZ N a0) 167 [.agg (e28 a0)] (λr=>.agg (XqJ r))):=by
 refine⟨λN _ _=>rk f180 ?_,λN _ _=>rk f181 ?_,λN _=>rk f182 ?_,λN _ _=>rk f267 ?_,λN _=>rk f167 ?_⟩<;>(rintro _ hw r hr C _ rfl hwf hf;have hse:=@Z3 _ hw;simp only[f180,f181,f182,f267,f167,Option.get!,Qce,QbA,QcX,QcN,QgZ]at hr⊢;repeat' first
 |(refine El.el hr ?_;clear hr;intro hr)
 |(with_reducible intro h;refine XJ hr h ?_;clear hr;intro hr)
 |with_reducible intro _
 |(refine Xp hr ?_;rintro rfl;have hr:=hk;clear hk)
 |simp only[go_sem,simprocAttr,E,hl3,XA,KC,Xk,hse]
 |(with_reducible first|apply Xj|apply Xi|apply Xw|apply Xs|apply Xt)
 |((first|with_reducible refine Yy hr ah ?_ ?_|(with_reducible refine Yr hr ?_ ?_;rotate_left;intro p;rotate_right));(·simp only[go_sem,simprocAttr,hse]);intro hp hn hd hr;(try have hl3:=hd _ e3;simp only[go_sem,simprocAttr]at hl3);(try have XA:=hd _ e52;simp only[go_sem,simprocAttr]at XA);(try have KC:=hd _ e93;simp only[go_sem,simprocAttr]at KC);(try have Xk:=hd _ XX;simp only[go_sem,simprocAttr]at Xk))
 |(refine Xx ?_ ?_;.first|assumption|omega)
 |(with_reducible first|refine CallX.c ?_ _|refine OK.c hr hw ?_ (λy hr=>?_) _|refine OK.d hr hw ?_ (λy hr=>?_) _)
 |(with_reducible refine lp (Qjm N _ _ _) hr N ?_ (λ_ p q=>⟨_,_,_,p,q,?_⟩) _;rintro n1 st ⟨_,_,_,hr,hk,⟨_,_,E⟩⟩<;>(obtain _|n1:=n1<;>rw[Qbc]at hr))
 |refine⟨_,Wz _,_,_,_,hr,hk,?_⟩
 |(with_reducible refine lp (Qjn N _ _) hr N ?_ (λ_ p q=>⟨_,_,p,q,?_⟩) _;rintro n2 st ⟨_,_,hr,hk,⟨_,_,E⟩⟩<;>(obtain _|n2:=n2<;>rw[Qbz]at hr))
 |refine⟨_,Wz _,_,_,hr,hk,?_⟩
 |(with_reducible refine lp (Qiq N _ _) hr N ?_ (λ_ p q=>⟨_,_,p,q,?_⟩) _;rintro n1 st ⟨_,_,hr,hk,E⟩<;>(obtain _|n1:=n1<;>rw[QaA]at hr))
 |(with_reducible refine lp (Qjo N _ _) hr N ?_ (λ_ p q=>⟨_,_,_,p,q,?_⟩) _;rintro n1 st ⟨_,_,_,hr,hk,⟨_,_,_,_,E⟩⟩<;>(obtain _|n1:=n1<;>rw[QbB]at hr))
 |(with_reducible refine lp (QhZ N _ _) hr N ?_ (λ_ p q=>⟨_,_,_,p,q,?_⟩) _;rintro n1 st ⟨_,_,_,hr,hk,⟨_,E⟩⟩<;>(obtain _|n1:=n1<;>rw[Qbp]at hr))
 |(with_reducible refine lp (Qjp N _) hr N ?_ (λ_ p q=>⟨_,_,_,p,q,?_⟩) _;rintro n1 st ⟨_,_,_,hr,hk,⟨_,_,E⟩⟩<;>(obtain _|n1:=n1<;>rw[Qcm]at hr))
 |refine dq 180 10 hf [(17,[1664],[])] ?_
 |refine dq 267 9 hf [(0,[],[448]),(1,[],[448]),(2,[],[448]),(3,[],[448]),(4,[],[448]),(5,[],[448]),(6,[],[448]),(7,[448],[]),(8,[448],[])] ?_
 |refine dp ?_
 |(refine Xp hr ?_;rintro rfl;with_reducible refine XT ?_)
 |exact YH hr
 |((first|refine XJ (c:=true) hr rfl ?_|refine XJ (c:=false) hr rfl ?_|refine XJ hr ah ?_);intro hr))
abbrev Ql2:=g36.1
abbrev Qk7:=g36.2.1
abbrev Ql3:=g36.2.2.1
abbrev Qkp:=g36.2.2.2.1
abbrev Ql4:=g36.2.2.2.2
attribute [instance] Ql2 Qk7 Ql3 Qkp Ql4
def g37:(∀N(a0:Um),O1 (QbF N a0) 109 [.agg (e38 a0)] (λr=>.v (.bool r)))/\(∀N(a0:Wh)(a1:List UE)(a2:Int),O1 (Qdl N a0 a1 a2) 206 [.agg (e28 a0),s93 a1,vu a2] (λr=>.tup [.agg (e28 r.1),s93 r.2.1,vi r.2.2]))/\(∀N(a0:Wh)(a1:List UE)(a2:Int),O1 (Qfl N a0 a1 a2) 207 [.agg (e28 a0),s93 a1,vu a2] (λr=>.tup [.agg (e28 r.1),s93 r.2.1,vu r.2.2.1,vi r.2.2.2]))/\(∀N(a0:Wh),O1 (Qfu N a0) 94 [.agg (e28 a0)] (λr=>.v (.bool r))):=by
 refine⟨λN _=>rk f109 ?_,λN _ _ _=>rk f206 ?_,λN _ _ _=>rk f207 ?_,λN _=>rk f94 ?_⟩<;>(rintro _ hw r hr C _ rfl hwf hf;have hse:=@Z3 _ hw;simp only[f109,f206,f207,f94,Option.get!,QbF,Qdl,Qfl,Qfu]at hr⊢;repeat' first
 |(refine El.el hr ?_;clear hr;intro hr)
 |(with_reducible intro h;refine XJ hr h ?_;clear hr;intro hr)
 |with_reducible intro _
 |simp only[go_sem,simprocAttr,KC,hse,Wl,Wo,WD]
 |(with_reducible first|apply Xj|apply Xi|apply Xw|apply Xs|apply Xt)
 |((first|with_reducible refine Yy hr ah ?_ ?_|(with_reducible refine Yr hr ?_ ?_;rotate_left;intro p;rotate_right));(·simp only[go_sem,simprocAttr,hse,Wl,Wo,WD]);intro hp hn hd hr;(try have KC:=hd _ e93;simp only[go_sem,simprocAttr]at KC))
 |(refine Xx ?_ ?_;.first|assumption|omega)
 |(with_reducible first|refine CallX.c ?_ _|refine OK.c hr hw ?_ (λy hr=>?_) _|refine OK.d hr hw ?_ (λy hr=>?_) _)
 |refine dq 109 6 hf [(0,[2176],[]),(1,[],[2176]),(2,[],[2176]),(3,[2176],[]),(4,[],[2176]),(5,[],[2176]),(7,[2176],[])] ?_
 |refine dq 109 7 hf [(0,[],[2176,3136]),(1,[],[2176,3136]),(4,[2176],[]),(5,[],[2176]),(6,[],[2176]),(7,[3136],[]),(8,[2176],[])] ?_
 |refine dq 206 11 hf [(7,[1600],[])] ?_
 |(refine Xp hr ?_;rintro rfl;with_reducible refine XT ?_)
 |exact YH hr
 |with_reducible refine XqO (λhi=>?_) (λhi=>?_)
 |(exfalso;omega))
abbrev Ql5:=g37.1
abbrev Qkq:=g37.2.1
abbrev QnD:=g37.2.2.1
abbrev Qm6:=g37.2.2.2
attribute [instance] Ql5 Qkq QnD Qm6
abbrev Qh0:=λN k l a Q n (st:St)=>∃v7 v8 v9,Iv (QaI N k l a n v7 v8 v9) Q ((∃i e f g,st.n=122/\st.s 5824=some (i,.arr false 52 1 (v9.map e52) 0)/\st.t 2=s52 k/\st.t 6=.ept 384 e 6 0 0/\st.t 9=.ept 576 f 6 0 0/\st.t 11=.ept 704 g 16 0 0/\st.t 13=s52 l.2.1/\st.t 15=.osl 5824 i 1 0 v9.length/\st.t 16=vi v7/\st.s 384=some (e,.arr true 28 6 [[vi 0,vi 0,.nsl,.nsl,vi 0,vi 0]] 0)/\st.s 576=some (f,.arr true 47 6 [[vi 0,vi 0,vi 0,vi 0,vi 0,vi 0]] 0)/\st.s 704=some (g,.arr true 266 16 [[vi a.1.h.c.W,vi a.1.h.c.p,s52 a.1.h.w,Yz a.1.h.p,vi a.1.h.s,vi a.1.h.b,s52 a.1.o,s3 a.1.t,s52 a.1.q,vi a.1.d,vi a.1.r.j,vi a.1.r.K,vi a.1.r.F,vi a.1.r.E,vi v8,vi a.1.r.y]] 0))\/(∃e f g,(st.n=122/\st.t 2=s52 k/\st.t 6=.ept 384 e 6 0 0/\st.t 9=.ept 576 f 6 0 0/\st.t 11=.ept 704 g 16 0 0/\st.t 13=s52 l.2.1/\st.t 15=.nsl/\st.t 16=vi v7/\st.s 384=some (e,.arr true 28 6 [[vi 0,vi 0,.nsl,.nsl,vi 0,vi 0]] 0)/\st.s 576=some (f,.arr true 47 6 [[vi 0,vi 0,vi 0,vi 0,vi 0,vi 0]] 0)/\st.s 704=some (g,.arr true 266 16 [[vi a.1.h.c.W,vi a.1.h.c.p,s52 a.1.h.w,Yz a.1.h.p,vi a.1.h.s,vi a.1.h.b,s52 a.1.o,s3 a.1.t,s52 a.1.q,vi a.1.d,vi a.1.r.j,vi a.1.r.K,vi a.1.r.F,vi a.1.r.E,vi v8,vi a.1.r.y]] 0))/\v9=[]))
instance Qoq:∀N(a0:Wh)(a1:List Int)(a2:List Int),O1 (Qcg N a0 a1 a2) 110 [.agg (e28 a0),s52 a1,s52 a2] (λr=>.tup [.agg (e28 r.1),s52 r.2.1,s52 r.2.2.1,.agg (e47 r.2.2.2.1),vi r.2.2.2.2]):=by
 refineλN _ _ _=>rk f110 ?_<;>(rintro _ hw r hr C _ rfl hwf hf;have hse:=@Z3 _ hw;simp only[f110,Option.get!];(rw[Qcg]at hr);repeat' first
 |(refine El.el hr ?_;clear hr;intro hr)
 |(with_reducible intro h;refine XJ hr h ?_;clear hr;intro hr)
 |with_reducible intro _
 |(refine Xp hr ?_;rintro rfl;have hr:=hk;clear hk)
 |simp only[go_sem,simprocAttr,E,hl3,XA,hse]
 |(with_reducible first|apply Xj|apply Xi|apply Xw|apply Xs|apply Xt)
 |((first|with_reducible refine Yy hr ah ?_ ?_|(with_reducible refine Yr hr ?_ ?_;rotate_left;intro p;rotate_right));(·simp only[go_sem,simprocAttr,hse]);intro hp hn hd hr;(try have hl3:=hd _ e3;simp only[go_sem,simprocAttr]at hl3);(try have XA:=hd _ e52;simp only[go_sem,simprocAttr]at XA))
 |(refine Xx ?_ ?_;.first|assumption|omega)
 |(with_reducible first|refine CallX.c ?_ _|refine OK.c hr hw ?_ (λy hr=>?_) _|refine OK.d hr hw ?_ (λy hr=>?_) _)
 |(with_reducible refine lp (Qh0 N _ _ _) hr N ?_ (λ_ p q=>⟨_,_,_,_,p,q,?_⟩) _;rintro n1 st ⟨_,_,_,_,hr,hk,(⟨_,_,_,_,E⟩|⟨_,_,_,E,z0⟩)⟩<;>(try subst z0)<;>(obtain _|n1:=n1<;>rw[QaI]at hr))
 |refine⟨_,Wz _,_,_,_,_,hr,hk,?_⟩
 |refine dq 110 28 hf [(2,[],[384]),(3,[],[384]),(4,[],[384]),(5,[],[384]),(6,[384],[]),(9,[576],[])] ?_
 |refine dp ?_
 |(refine Xp hr ?_;rintro rfl;with_reducible refine XT ?_)
 |exact YH hr
 |((first|refine XJ (c:=true) hr rfl ?_|refine XJ (c:=false) hr rfl ?_|refine XJ hr ah ?_);intro hr))
end Go.Sx
