import Derived.Test.YtokkmapiallffaaGreatWG3
set_option linter.all false
namespace Go.Sx
open Go.Proofs Tryz
set_option maxRecDepth 10000
set_option maxHeartbeats 100000000
def g21:(∀N(a0:Wh)(a1:Int),O1 (Qao N a0 a1) 91 [.agg (e28 a0),vu a1] (λr=>.tup [.agg (e59 r.1),vi r.2]))/\(∀N(a0:Wh)(a1:Int)(a2:Int),O1 (Qfn N a0 a1 a2) 310 [.agg (e28 a0),vi a1,vi a2] (λr=>vu r))/\(∀N(a0:Wh)(a1:Int)(a2:Int),O1 (QeZ N a0 a1 a2) 290 [.agg (e28 a0),vi a1,vi a2] (λr=>.tup [.agg (e28 r.1),vu r.2.1,.v (.bool r.2.2)]))/\(∀N(a0:Wh)(a1:Int)(a2:Wx),O1 (QbJ N a0 a1 a2) 291 [.agg (e28 a0),vu a1,.agg (e59 a2)] (λr=>.tup [.agg (e28 r.1),vi r.2]))/\(∀N(a0:WQ)(a1:Int)(a2:Int)(a3:Int)(a4:Bool),O1 (QfA N a0 a1 a2 a3 a4) 208 [.agg (e42 a0),vi a1,vu a2,vu a3,.v (.bool a4)] (λr=>vi r))/\(∀N(a0:WQ)(a1:Int),O1 (QaE N a0 a1) 124 [.agg (e42 a0),vu a1] (λr=>.tup [vu r.1,vi r.2]))/\(∀N(a0:WQ)(a1:Int),O1 (Qfe N a0 a1) 129 [.agg (e42 a0),vu a1] (λr=>.agg (e42 r)))/\(∀N(a0:Wh)(a1:Int),O1 (QgV N a0 a1) 88 [.agg (e28 a0),vi a1] (λr=>.tup [.agg (e28 r.1),.agg (XtI r.2.1),vi r.2.2])):=by
 refine⟨λN _ _=>rk f91 ?_,λN _ _ _=>rk f310 ?_,λN _ _ _=>rk f290 ?_,λN _ _ _=>rk f291 ?_,λN _ _ _ _ _=>rk f208 ?_,λN _ _=>rk f124 ?_,λN _ _=>rk f129 ?_,λN _ _=>rk f88 ?_⟩<;>(rintro _ hw r hr C _ rfl hwf hf;have hse:=@Z3 _ hw;simp only[f91,f310,f290,f291,f208,f124,f129,f88,Option.get!,Qao,Qfn,QeZ,QbJ,QfA,QaE,Qfe,QgV]at hr⊢;repeat' first
 |(refine El.el hr ?_;clear hr;intro hr)
 |(with_reducible intro h;refine XJ hr h ?_;clear hr;intro hr)
 |with_reducible intro _
 |simp only[go_sem,simprocAttr,Xk,hse]
 |(with_reducible first|apply Xj|apply Xi|apply Xw|apply Xs|apply Xt)
 |((first|with_reducible refine Yy hr ah ?_ ?_|(with_reducible refine Yr hr ?_ ?_;rotate_left;intro p;rotate_right));(·simp only[go_sem,simprocAttr,hse]);intro hp hn hd hr;(try have Xk:=hd _ XX;simp only[go_sem,simprocAttr]at Xk))
 |(refine Xx ?_ ?_;.first|assumption|omega)
 |(refine CallX.inl (f:=156) 400 (fn:=f156) (rs:=[.tmp 4]) (nt:=87) 1000 ae (λx=>?_) _;simp only[f156,Option.get!])
 |(with_reducible first|refine CallX.c ?_ _|refine OK.c hr hw ?_ (λy hr=>?_) _|refine OK.d hr hw ?_ (λy hr=>?_) _)
 |refine dq 290 5 hf [(1,[],[384]),(2,[],[384]),(3,[],[384]),(4,[],[384]),(5,[],[384]),(6,[],[384]),(7,[],[384]),(8,[384],[])] ?_
 |refine dq 291 4 hf [(0,[],[1856]),(1,[],[1856]),(2,[],[1856]),(4,[1856],[]),(5,[],[1856]),(6,[],[1856]),(7,[1856],[]),(8,[1856],[])] ?_
 |refine dq 88 6 hf [(1,[],[256]),(2,[256],[]),(3,[320],[])] ?_
 |refine dq 88 15 hf [(1,[],[256]),(2,[],[256]),(3,[],[256]),(4,[256],[]),(5,[320],[])] ?_
 |refine dq 88 20 hf [(1,[],[256]),(2,[],[256]),(3,[],[256]),(4,[],[256,320]),(5,[256],[]),(6,[320],[])] ?_
 |refine dp ?_
 |(refine Xp hr ?_;rintro rfl;with_reducible refine XT ?_)
 |exact YH hr)
abbrev QnM:=g21.1
abbrev QmP:=g21.2.1
abbrev QlM:=g21.2.2.1
abbrev QmQ:=g21.2.2.2.1
abbrev Qj5:=g21.2.2.2.2.1
abbrev Qj6:=g21.2.2.2.2.2.1
abbrev QkY:=g21.2.2.2.2.2.2.1
abbrev Qi7:=g21.2.2.2.2.2.2.2
attribute [instance] QnM QmP QlM QmQ Qj5 Qj6 QkY Qi7
abbrev Qi8:=λN g Q n (st:St)=>∃h i j k l v6 v7 v8 v9 v10 v11 d v13 e v15 f v17 v18,Iv (Qa3 N g n h i j k l v6 v7 v8 v9 v10 v11 d v13 e v15 f v17 v18) Q ((∃c a b,st.n=39/\st.s 2304=some (c,.arr false 52 1 (v18.map e52) 0)/\st.t 1=s52 g/\st.t 2=.ept 128 a 16 0 0/\st.t 4=.ept 256 b 16 0 0/\st.t 7=.osl 2304 c 1 0 v18.length/\st.t 8=vi h/\st.s 128=some (a,.arr true 266 16 [[vi i,vi j,s52 k,Yz l,vi v6,vi v7,s52 v8,s3 v9,s52 v10,vi v11,vi d,vi v13,vi e,vi v15,vi f,vi v17]] 0)/\st.s 256=some (b,.arr true 266 16 [[vi 0,vi 0,.nsl,.nsl,vi 0,vi 0,.nsl,.nsl,.nsl,vi 0,vi 0,vi 0,vi 0,vi 0,vi 0,vi 0]] 0))\/(∃a b,(st.n=39/\st.t 1=s52 g/\st.t 2=.ept 128 a 16 0 0/\st.t 4=.ept 256 b 16 0 0/\st.t 7=.nsl/\st.t 8=vi h/\st.s 128=some (a,.arr true 266 16 [[vi i,vi j,s52 k,Yz l,vi v6,vi v7,s52 v8,s3 v9,s52 v10,vi v11,vi d,vi v13,vi e,vi v15,vi f,vi v17]] 0)/\st.s 256=some (b,.arr true 266 16 [[vi 0,vi 0,.nsl,.nsl,vi 0,vi 0,.nsl,.nsl,.nsl,vi 0,vi 0,vi 0,vi 0,vi 0,vi 0,vi 0]] 0))/\v18=[]))
abbrev Qj7:=λN f g Q n (st:St)=>∃h i v6 v7 v8 v9 v10 v11 b v13 c v15 d v17 v18 v19 v20,Iv (Qbd N f g n h i v6 v7 v8 v9 v10 v11 b v13 c v15 d v17 v18 v19 v20) Q ((∃e a,st.n=90/\st.t 1=.ept 64 e 16 0 0/\st.t 2=.ept 128 a 16 0 0/\st.t 5=vu f/\st.t 6=s3 g/\st.t 7=vi h/\st.s 64=some (e,.arr true 266 16 [[vi i,vi v6,s52 v7,Yz v8,vi v9,vi v10,s52 v11,s3 b,s52 v13,vi c,vi v15,vi d,vi v17,vi v18,vi v19,vi v20]] 0)/\st.s 128=some (a,.arr true 266 16 [[vi 0,vi 0,.nsl,.nsl,vi 0,vi 0,.nsl,.nsl,.nsl,vi 0,vi 0,vi 0,vi 0,vi 0,vi 0,vi 0]] 0)))
abbrev Qj8:=λN a Q n (st:St)=>∃i k l,Iv (QaB N a n i k l) Q ((∃g e,st.n=84/\st.t 1=.ept 64 g 16 0 0/\st.t 2=.ept 128 e 16 0 0/\st.t 3=vi i/\st.s 64=some (g,.arr true 266 16 [[vi a.h.c.W,vi a.h.c.p,s52 k,Yz a.h.p,vi a.h.s,vi a.h.b,s52 a.o,s3 a.t,s52 a.q,vi a.d,vi a.r.j,vi a.r.K,vi l,vi a.r.E,vi a.r.f,vi a.r.y]] 0)/\st.s 128=some (e,.arr true 266 16 [[vi 0,vi 0,.nsl,.nsl,vi 0,vi 0,.nsl,.nsl,.nsl,vi 0,vi 0,vi 0,vi 0,vi 0,vi 0,vi 0]] 0)))
abbrev QhV:=λN f Q n (st:St)=>∃g d e,Iv (QcO N f n g d e) Q ((∃a b c,st.n=56/\st.s 768=some (a,.arr false 4 1 (d.map e4) 0)/\st.s 896=some (b,.arr false 52 1 (e.map e52) 0)/\st.t 1=.ept 64 c 10 0 0/\st.t 3=.osl 768 a 1 0 d.length/\st.t 4=.osl 896 b 1 0 e.length/\st.t 5=vi g/\st.s 64=some (c,.arr true 42 10 [e42 f] 0)))
abbrev Qj9:=λN b Q n (st:St)=>∃d c,Iv (QdW N b n d c) Q ((∃a,st.n=25/\st.s 1408=some (a,.arr false 52 1 (c.map e52) 0)/\st.t 3=.osl 1408 a 1 0 c.length/\st.t 10=s96 b.e/\st.t 11=vi b.e.length/\st.t 12=vi d)\/((st.n=25/\st.t 3=.nsl/\st.t 10=s96 b.e/\st.t 11=vi b.e.length/\st.t 12=vi d)/\c=[]))
abbrev Qka:=λN b Q n (st:St)=>∃d c,Iv (QdX N b n d c) Q ((∃a,st.n=25/\st.s 1408=some (a,.arr false 52 1 (c.map e52) 0)/\st.t 3=.osl 1408 a 1 0 c.length/\st.t 10=Xcv b.S/\st.t 11=vi b.S.length/\st.t 12=vi d)\/((st.n=25/\st.t 3=.nsl/\st.t 10=Xcv b.S/\st.t 11=vi b.S.length/\st.t 12=vi d)/\c=[]))
abbrev QkZ:=λN e b c f d Q n (st:St)=>∃v7,Iv (Qff N e b c f d n v7) Q ((∃a,st.n=66/\st.t 8=.ept 512 a 4 0 0/\st.t 9=vi d/\st.t 54=.isl 122 4 (((e.drop (wI (b + 1)).toNat).take ((wI (b + d)).toNat - (wI (b + 1)).toNat)).map XX)/\st.t 55=vi (((min ((wI (b + d)).toNat - (wI (b + 1)).toNat) (e.length - (wI (b + 1)).toNat)):Nat):Int)/\st.t 56=vi v7/\st.s 512=some (a,.arr true 322 4 [[vi f,vi c.s,vi c.u,vi c.P]] 0)))
abbrev Qe7:=λN a c0 Q n (st:St)=>∃b,Iv (Qar N a c0 n b) Q ((st.n=19/\st.t 0=s52 a/\st.t 1=.clo (.func 106) [] [.ept 1000000 0 1 0 0]/\st.t 7=vi a.length/\st.t 8=vi b/\st.s 1000000=some (0,.arr true 25 1 [[s52 c0]] 0)))
abbrev Qhn:=λN a f Q n (st:St)=>∃i k g,Iv (Qcu N a f n i k g) Q ((∃e,st.n=39/\st.s 2304=some (e,.arr false 52 1 (g.map e52) 0)/\st.t 0=.ept 1000000 0 16 0 0/\st.t 5=.osl 2304 e 1 0 g.length/\st.t 9=s52 f/\st.t 10=vi f.length/\st.t 11=vi i/\st.s 1000000=some (0,.arr true 142 16 [[vi a.h.c.W,vi a.h.c.p,s52 a.h.w,Yz a.h.p,vi a.h.s,vi a.h.b,s52 a.o,s3 a.t,s52 a.q,vi a.d,vi a.r.j,vi a.r.K,vi a.r.F,vi a.r.E,vi k,vi a.r.y]] 0))\/((st.n=39/\st.t 0=.ept 1000000 0 16 0 0/\st.t 5=.nsl/\st.t 9=s52 f/\st.t 10=vi f.length/\st.t 11=vi i/\st.s 1000000=some (0,.arr true 142 16 [[vi a.h.c.W,vi a.h.c.p,s52 a.h.w,Yz a.h.p,vi a.h.s,vi a.h.b,s52 a.o,s3 a.t,s52 a.q,vi a.d,vi a.r.j,vi a.r.K,vi a.r.F,vi a.r.E,vi k,vi a.r.y]] 0))/\g=[]))
def g22:(∀N(a0:Wu)(a1:List Int),O1 (QcY N a0 a1) 183 [.agg (Jz a0),s52 a1] (λr=>.tup [.agg (Jz r.1),s52 r.2.1,vi r.2.2]))/\(∀N(a0:Wu),O1 (Qea N a0) 256 [.agg (Jz a0)] (λr=>.tup [.agg (Jz r.1),.v (.bool r.2.1),vi r.2.2]))/\(∀N(a0:Wu),O1 (Qec N a0) 187 [.agg (Jz a0)] (λr=>.agg (Jz r)))/\(∀N(a0:WQ),O1 (Qfz N a0) 114 [.agg (e42 a0)] (λr=>s4 r))/\(∀N(a0:WG),O1 (QdF N a0) 24 [.agg (e35 a0)] (λr=>s52 r))/\(∀N(a0:Ws),O1 (Qft N a0) 28 [.agg (e32 a0)] (λr=>s52 r))/\(∀N(a0:WR)(a1:List Wr)(a2:Int),O1 (QgB N a0 a1 a2) 155 [.agg (e24 a0),Yz a1,vi a2] (λr=>vi r))/\(∀N a0 c0,OK (Qa8 N a0 c0) 177 [s52 a0,.clo (.func 106) [] [.ept 1000000 0 1 0 0]] [.arr true 25 1 [[s52 c0]] 0] (λr=>vi r) λr=>[.arr true 25 1 [[s52 c0]] 0])/\(∀N a0 a1,OK (QdA N a0 a1) 68 [.ept 1000000 0 16 0 0,s52 a1] [.arr true 142 16 [[vi a0.h.c.W,vi a0.h.c.p,s52 a0.h.w,Yz a0.h.p,vi a0.h.s,vi a0.h.b,s52 a0.o,s3 a0.t,s52 a0.q,vi a0.d,vi a0.r.j,vi a0.r.K,vi a0.r.F,vi a0.r.E,vi a0.r.f,vi a0.r.y]] 0] (λr=>s52 r.1) λr=>[.arr true 142 16 [[vi r.2.h.c.W,vi r.2.h.c.p,s52 r.2.h.w,Yz r.2.h.p,vi r.2.h.s,vi r.2.h.b,s52 r.2.o,s3 r.2.t,s52 r.2.q,vi r.2.d,vi r.2.r.j,vi r.2.r.K,vi r.2.r.F,vi r.2.r.E,vi r.2.r.f,vi r.2.r.y]] 0]):=by
 refine⟨λN _ _=>rk f183 ?_,λN _=>rk f256 ?_,λN _=>rk f187 ?_,λN _=>rk f114 ?_,λN _=>rk f24 ?_,λN _=>rk f28 ?_,λN _ _ _=>rk f155 ?_,λN _ _=>rk f177 ?_,λN _ _=>rk f68 ?_⟩<;>(rintro _ hw r hr C _ rfl hwf hf;have hse:=@Z3 _ hw;simp only[f183,f256,f187,f114,f24,f28,f155,f177,f68,Option.get!,QcY,Qea,Qec,Qfz,QdF,Qft,QgB,Qa8,QdA]at hr⊢;repeat' first
 |(refine El.el hr ?_;clear hr;intro hr)
 |(with_reducible intro h;refine XJ hr h ?_;clear hr;intro hr)
 |with_reducible intro _
 |(refine Xp hr ?_;rintro rfl;have hr:=hk;clear hk)
 |simp only[go_sem,simprocAttr,E,hK,hl3,hl4,XA,Zk,Xk,X2,KO,hse,Wl,Wo,WD]
 |(with_reducible first|apply Xj|apply Xi|apply Xw|apply Xs|apply Xt)
 |((first|with_reducible refine Yy hr ah ?_ ?_|(with_reducible refine Yr hr ?_ ?_;rotate_left;intro p;rotate_right));(·simp only[go_sem,simprocAttr,hse,Wl,Wo,WD]);intro hp hn hd hr;(try have hl3:=hd _ e3;simp only[go_sem,simprocAttr]at hl3);(try have hl4:=hd _ e4;simp only[go_sem,simprocAttr]at hl4);(try have XA:=hd _ e52;simp only[go_sem,simprocAttr]at XA);(try have Zk:=hd _ e96;simp only[go_sem,simprocAttr]at Zk);(try have Xk:=hd _ XX;simp only[go_sem,simprocAttr]at Xk);(try have X2:=hd _ KB;simp only[go_sem,simprocAttr]at X2);(try have KO:=hd _ Xb6;simp only[go_sem,simprocAttr]at KO))
 |(refine Xx ?_ ?_;.first|assumption|omega)
 |(with_reducible first|refine CallX.c ?_ _|refine OK.c hr hw ?_ (λy hr=>?_) _|refine OK.d hr hw ?_ (λy hr=>?_) _)
 |(with_reducible refine lp (Qi8 N _) hr N ?_ (λ_ p q=>⟨_,_,_,_,_,_,_,_,_,_,_,_,_,_,_,_,_,_,_,p,q,?_⟩) _;rintro n1 st ⟨_,_,_,_,_,_,_,_,_,_,_,_,_,_,_,_,_,_,_,hr,hk,(⟨_,_,_,E⟩|⟨_,_,E,z0⟩)⟩<;>(try subst z0)<;>(obtain _|n1:=n1<;>rw[Qa3]at hr))
 |refine⟨_,Wz _,_,_,_,_,_,_,_,_,_,_,_,_,_,_,_,_,_,_,_,hr,hk,?_⟩
 |(with_reducible refine lp (Qj7 N _ _) hr N ?_ (λ_ p q=>⟨_,_,_,_,_,_,_,_,_,_,_,_,_,_,_,_,_,_,p,q,?_⟩) _;rintro n1 st ⟨_,_,_,_,_,_,_,_,_,_,_,_,_,_,_,_,_,_,hr,hk,⟨_,_,E⟩⟩<;>(obtain _|n1:=n1<;>rw[Qbd]at hr))
 |refine⟨_,Wz _,_,_,_,_,_,_,_,_,_,_,_,_,_,_,_,_,_,_,hr,hk,?_⟩
 |(with_reducible refine lp (Qj8 N _) hr N ?_ (λ_ p q=>⟨_,_,_,_,p,q,?_⟩) _;rintro n1 st ⟨_,_,_,_,hr,hk,⟨_,_,E⟩⟩<;>(obtain _|n1:=n1<;>rw[QaB]at hr))
 |refine⟨_,Wz _,_,_,_,_,hr,hk,?_⟩
 |(with_reducible refine lp (QhV N _) hr N ?_ (λ_ p q=>⟨_,_,_,_,p,q,?_⟩) _;rintro n1 st ⟨_,_,_,_,hr,hk,⟨_,_,_,E⟩⟩<;>(obtain _|n1:=n1<;>rw[QcO]at hr))
 |(with_reducible refine lp (Qj9 N _) hr N ?_ (λ_ p q=>⟨_,_,_,p,q,?_⟩) _;rintro n1 st ⟨_,_,_,hr,hk,(⟨_,E⟩|⟨E,z0⟩)⟩<;>(try subst z0)<;>(obtain _|n1:=n1<;>rw[QdW]at hr))
 |refine⟨_,Wz _,_,_,_,hr,hk,?_⟩
 |(with_reducible refine lp (Qka N _) hr N ?_ (λ_ p q=>⟨_,_,_,p,q,?_⟩) _;rintro n1 st ⟨_,_,_,hr,hk,(⟨_,E⟩|⟨E,z0⟩)⟩<;>(try subst z0)<;>(obtain _|n1:=n1<;>rw[QdX]at hr))
 |(with_reducible refine lp (QkZ N _ _ _ _ _) hr N ?_ (λ_ p q=>⟨_,_,p,q,?_⟩) _;rintro n1 st ⟨_,_,hr,hk,⟨_,E⟩⟩<;>(obtain _|n1:=n1<;>rw[Qff]at hr))
 |refine⟨_,Wz _,_,_,hr,hk,?_⟩
 |(with_reducible refine lp (Qe7 N _ _) hr N ?_ (λ_ p q=>⟨_,_,p,q,?_⟩) _;rintro n1 st ⟨_,_,hr,hk,E⟩<;>(obtain _|n1:=n1<;>rw[Qar]at hr))
 |(with_reducible refine lp (Qhn N _ _) hr N ?_ (λ_ p q=>⟨_,_,_,_,p,q,?_⟩) _;rintro n1 st ⟨_,_,_,_,hr,hk,(⟨_,E⟩|⟨E,z0⟩)⟩<;>(try subst z0)<;>(obtain _|n1:=n1<;>rw[Qcu]at hr))
 |refine dq 183 5 hf [(0,[],[576]),(1,[],[576]),(2,[],[576]),(3,[],[576]),(4,[],[576]),(5,[],[576]),(6,[],[576]),(7,[],[576]),(8,[],[576]),(9,[],[576]),(10,[576],[]),(11,[576],[])] ?_
 |refine dq 183 8 hf [(0,[],[2240,2304]),(1,[],[2240]),(3,[2240],[]),(4,[2304],[]),(5,[128],[])] ?_
 |refine dq 187 6 hf [(0,[],[448]),(1,[],[448]),(2,[],[448]),(3,[],[448]),(4,[],[448]),(5,[],[448]),(6,[],[448]),(7,[448],[]),(8,[448],[])] ?_
 |refine dq 187 8 hf [(0,[],[4352]),(1,[],[4352]),(2,[],[4352]),(3,[],[4352]),(4,[],[4352]),(5,[],[4352]),(6,[],[4352]),(7,[],[4352]),(9,[4352],[]),(10,[],[4352]),(11,[],[4352]),(12,[4352],[]),(13,[4352],[]),(16,[],[64]),(19,[64],[])] ?_
 |refine dq 114 10 hf [(11,[896],[])] ?_
 |refine dp ?_
 |(refine Xp hr ?_;rintro rfl;with_reducible refine XT ?_)
 |exact YH hr
 |((first|refine XJ (c:=true) hr rfl ?_|refine XJ (c:=false) hr rfl ?_|refine XJ hr ah ?_);intro hr)
 |(with_reducible refine XuO hr ?_ ?_<;>intro hK hr<;>try simp only[hK]))
abbrev QlN:=g22.1
abbrev QmR:=g22.2.1
abbrev QmS:=g22.2.2.1
abbrev Qkb:=g22.2.2.2.1
abbrev QmT:=g22.2.2.2.2.1
abbrev QmU:=g22.2.2.2.2.2.1
abbrev Qnv:=g22.2.2.2.2.2.2.1
abbrev Qfx:=g22.2.2.2.2.2.2.2.1
abbrev QhW:=g22.2.2.2.2.2.2.2.2
attribute [instance] QlN QmR QmS Qkb QmT QmU Qnv Qfx QhW
end Go.Sx
