import Derived.Test.YtokkmapiallffaaGreatWG9
set_option linter.all false
namespace Go.Sx
open Go.Proofs Tryz
set_option maxRecDepth 10000
set_option maxHeartbeats 100000000
theorem nilE{α β:Type}{i:Int}{f:α->Option β}{r:β}{Q:Prop}(h:bnd (Xd [] i) f=some r):Q:=by
 have e:Xd ([]:List α) i=none:=by unfold Xd;split<;>rfl
 rw[e]at h;unfold bnd at h;cases h
theorem nilN{α:Type}{n:Nat}{Q:Prop}(h:n<([]:List α).length):Q:=absurd h (Nat.not_lt_zero _)
instance Qpo:∀N(a0:WQ)(a1:Int)(a2:Int)(a3:Int)(a4:Int)(a5:OA),O1 (Qfs N a0 a1 a2 a3 a4 a5) 60 [.agg (e42 a0),vi a1,vu a2,vu a3,vu a4,.agg (Xsf a5)] (λr=>.tup [.agg (e42 r.1),vu r.2.1,vi r.2.2]):=by
 refineλN _ _ _ _ _ _=>rk f60 ?_<;>(rintro _ hw r hr C _ rfl hwf hf;have hse:=@Z3 _ hw;simp only[f60,Option.get!];(rw[Qfs]at hr);repeat' first
 |(refine El.el hr ?_;clear hr;intro hr)
 |(with_reducible intro h;refine XJ hr h ?_;clear hr;intro hr)
 |with_reducible intro _
 |simp only[go_sem,simprocAttr,XA,KO,hse]
 |(with_reducible first|apply Xj|apply Xi|apply Xw|apply Xs|apply Xt)
 |((first|with_reducible refine Yy hr ah ?_ ?_|(with_reducible refine Yr hr ?_ ?_;rotate_left;intro p;rotate_right));(·simp only[go_sem,simprocAttr,hse]);intro hp hn hd hr;(try have XA:=hd _ e52;simp only[go_sem,simprocAttr]at XA);(try have KO:=hd _ Xb6;simp only[go_sem,simprocAttr]at KO))
 |(refine Xx ?_ ?_;.first|assumption|omega)
 |(with_reducible first|refine CallX.c ?_ _|refine OK.c hr hw ?_ (λy hr=>?_) _|refine OK.d hr hw ?_ (λy hr=>?_) _)
 |refine dq 60 16 hf [(0,[4864],[5312,5440]),(1,[],[4864,5312,5440]),(2,[],[4864,5312,5440]),(3,[4864],[5312,5440]),(4,[],[4864,5312]),(5,[],[4864]),(6,[],[4864]),(7,[5312],[4864]),(8,[],[4864]),(9,[5312,5440],[4864]),(10,[4864],[]),(12,[384],[])] ?_
 |refine dq 60 27 hf [(14,[],[384]),(15,[384],[])] ?_
 |(refine Xp hr ?_;rintro rfl;with_reducible refine XT ?_)
 |exact YH hr)
def g30:(∀N(a0:Wh)(a1:Int),O1 (Qdw N a0 a1) 266 [.agg (e28 a0),vu a1] (λr=>.v (.bool r)))/\(∀N(a0:Wh)(a1:Int),O1 (QeT N a0 a1) 140 [.agg (e28 a0),vi a1] (λr=>.tup [s52 r.1,vi r.2])):=by
 refine⟨λN _ _=>rk f266 ?_,λN _ _=>rk f140 ?_⟩<;>(rintro _ hw r hr C _ rfl hwf hf;simp only[f266,f140,Option.get!,Qdw,QeT]at hr⊢;repeat' first
 |(refine El.el hr ?_;clear hr;intro hr)
 |(with_reducible intro h;refine XJ hr h ?_;clear hr;intro hr)
 |with_reducible intro _
 |simp only[go_sem,simprocAttr]
 |(with_reducible first|apply Xj|apply Xi|apply Xw)
 |(refine Xx ?_ ?_;.first|assumption|omega)
 |(with_reducible first|refine CallX.c ?_ _|refine OK.c hr hw ?_ (λy hr=>?_) _)
 |(refine Xp hr ?_;rintro rfl;with_reducible refine XT ?_)
 |exact YH hr)
abbrev Qjd:=g30.1
abbrev QnC:=g30.2
attribute [instance] Qjd QnC
abbrev QhF:=λN d e f g h Q n (st:St)=>∃v7,Iv (Qav N d e f g h n v7) Q ((∃c a b,st.n=89/\st.t 1=.ept 64 c 6 0 0/\st.t 2=.ept 128 a 3 0 0/\st.t 3=s52 e.1/\st.t 5=vi g/\st.t 6=.ept 384 b 3 0 0/\st.t 8=s52 f.1/\st.t 10=vi v7/\st.s 64=some (c,.arr true 28 6 [e28 d] 0)/\st.s 128=some (a,.arr true 363 3 [[vi 0,vi 0,vu 0]] 0)/\st.s 384=some (b,.arr true 59 3 [e59 h.1] 0)))
abbrev QhG:=λN c d Q n (st:St)=>∃e,Iv (Qbt N c d n e) Q ((∃b a,st.n=89/\st.t 1=.ept 64 b 6 0 0/\st.t 2=.ept 128 a 3 0 0/\st.t 3=s52 d.1/\st.t 5=vi e/\st.s 64=some (b,.arr true 28 6 [e28 c] 0)/\st.s 128=some (a,.arr true 363 3 [[vi 0,vi 0,vu 0]] 0)))
abbrev QlY:=λN c Q n (st:St)=>∃e d,Iv (QfO N c n e d) Q ((∃a b,st.n=31/\st.s 1792=some (a,.arr false 262 4 (d.map Xac) 0)/\st.t 1=.ept 64 b 6 0 0/\st.t 4=.osl 1792 a 4 0 d.length/\st.t 13=vi c.p.length/\st.t 14=vi e/\st.s 64=some (b,.arr true 28 6 [e28 c] 0))\/(∃b,(st.n=31/\st.t 1=.ept 64 b 6 0 0/\st.t 4=.nsl/\st.t 13=vi c.p.length/\st.t 14=vi e/\st.s 64=some (b,.arr true 28 6 [e28 c] 0))/\d=[]))
abbrev Qje:=λN c d e (a:Nat) Q n (st:St)=>∃f b,Iv (Qco N c d e n f b) Q ((∃w284160,st.n=42/\st.s 284160=some (w284160,.arr false 52 1 (b.map e52) 0)/\st.t 0=s52 e.1/\st.t 1=.osl 284160 w284160 1 0 b.length/\st.t 2=s52 d/\st.t 8=vi f/\st.s 128=some (a,.arr true 28 6 [e28 c] 0))\/((st.n=42/\st.t 0=s52 e.1/\st.t 1=.nsl/\st.t 2=s52 d/\st.t 8=vi f/\st.s 128=some (a,.arr true 28 6 [e28 c] 0))/\b=[]))
abbrev Qjf:=λN e f b d (c:Nat) Q n (st:St)=>∃v20 a,Iv (Qcp N e f b d n v20 a) Q ((∃w284160,st.n=42/\st.s 284160=some (w284160,.arr false 52 1 (a.map e52) 0)/\st.t 0=s52 f.1/\st.t 1=.osl 284160 w284160 1 0 a.length/\st.t 2=s52 b/\st.t 8=vi v20/\st.s 128=some (c,.arr true 28 6 [e28 e] 0)))
abbrev Qjg:=λN c d Q n (st:St)=>∃v15 b v17,Iv (Qes N c d n v15 b v17) Q ((∃w284160 a,st.n=52/\st.s 284160=some (w284160,.arr false 52 1 (v17.map e52) 0)/\st.t 2=.ept 128 a 6 0 0/\st.t 6=s52 d.1/\st.t 8=.osl 284160 w284160 1 0 v17.length/\st.t 9=.v (.bool v15)/\st.t 10=vi b/\st.s 128=some (a,.arr true 28 6 [e28 c] 0))\/(∃a,(st.n=52/\st.t 2=.ept 128 a 6 0 0/\st.t 6=s52 d.1/\st.t 8=.nsl/\st.t 9=.v (.bool v15)/\st.t 10=vi b/\st.s 128=some (a,.arr true 28 6 [e28 c] 0))/\v17=[]))
def g31:(∀N(a0:Wh),O1 (Qds N a0) 298 [.agg (e28 a0)] (λr=>.agg (XqH r)))/\(∀N(a0:Wh),O1 (Qhc N a0) 173 [.agg (e28 a0)] (λr=>.tup [.fsl 262 4 (r.1.map Xac),vi r.2]))/\(∀N(a0:Wh)(a1:List Int),O1 (Qgp N a0 a1) 31 [.agg (e28 a0),s52 a1] (λr=>.tup [s52 r.1,vi r.2])):=by
 refine⟨λN _=>rk f298 ?_,λN _=>rq f173 [1792] ?_,λN _ _=>rk f31 ?_⟩<;>(rintro _ hw r hr C _ rfl hwf hf;have hse:=@Z3 _ hw;simp only[f298,f173,f31,Option.get!,Qds,Qhc,Qgp]at hr⊢;repeat' first
 |(refine El.el hr ?_;clear hr;intro hr)
 |(with_reducible intro h;refine XJ hr h ?_;clear hr;intro hr)
 |with_reducible intro _
 |(refine Xp hr ?_;rintro rfl;have hr:=hk;clear hk)
 |simp only[go_sem,simprocAttr,E,Fq,XA,hse]
 |(with_reducible first|apply Xj|apply Xi|apply Xw|apply Xs|apply Xt)
 |((first|with_reducible refine Yy hr ah ?_ ?_|(with_reducible refine Yr hr ?_ ?_;rotate_left;intro p;rotate_right));(·simp only[go_sem,simprocAttr,hse]);intro hp hn hd hr;(try have XA:=hd _ e52;simp only[go_sem,simprocAttr]at XA))
 |(refine Xx ?_ ?_;.first|assumption|omega|(dsimp only at *;omega))
 |(refine CallX.inl (f:=80) 4400 (fn:=f80) (rs:=[.tmp 6,.tmp 7]) (nt:=42) 1000 ae (λx=>?_) _;simp only[f80,Option.get!])
 |(with_reducible first|refine CallX.c ?_ _|refine OK.c hr hw ?_ (λy hr=>?_) _|refine OK.d hr hw ?_ (λy hr=>?_) _)
 |(with_reducible refine lp (QhF N _ _ _ _ _) hr N ?_ (λ_ p q=>⟨_,_,p,q,?_⟩) _;clear hr;(try clear E);(try clear Fq);rintro n1 st ⟨_,_,hr,hk,⟨_,_,_,E⟩⟩<;>(obtain _|n1:=n1<;>rw[Qav]at hr))
 |refine⟨_,Wz _,_,_,hr,hk,?_⟩
 |(with_reducible refine lp (QhG N _ _) hr N ?_ (λ_ p q=>⟨_,_,p,q,?_⟩) _;clear hr;(try clear E);(try clear Fq);rintro n2 st ⟨_,_,hr,hk,⟨_,_,E⟩⟩<;>(obtain _|n2:=n2<;>rw[Qbt]at hr))
 |(with_reducible refine lp (QlY N _) hr N ?_ (λ_ p q=>⟨_,_,_,p,q,?_⟩) _;clear hr;(try clear E);(try clear Fq);rintro n1 st ⟨_,_,_,hr,hk,(⟨_,_,E⟩|⟨_,E,z0⟩)⟩<;>(try subst z0)<;>(obtain _|n1:=n1<;>rw[QfO]at hr))
 |refine⟨_,Wz _,_,_,_,hr,hk,?_⟩
 |((refine LoopG.v (id:=128) (v:=?_) ?_ ?_ _;rotate_left;.first|rfl|(simp only[go_sem,simprocAttr,E,Fq];rfl));intro w128 h128;with_reducible refine lp (Qje N _ _ _ w128) hr N ?_ (λ_ p q=>⟨_,_,_,p,q,?_⟩) _;(all_goals (subst h128));clear hr;(try clear Fq);rintro n1 st ⟨_,_,_,hr,hk,(⟨_,Fq⟩|⟨Fq,z0⟩)⟩<;>(try subst z0)<;>(obtain _|n1:=n1<;>rw[Qco]at hr))
 |((refine LoopG.v (id:=128) (v:=?_) ?_ ?_ _;rotate_left;.first|rfl|(simp only[go_sem,simprocAttr,E,Fq];rfl));intro w128 h128;with_reducible refine lp (Qjf N _ _ _ _ w128) hr N ?_ (λ_ p q=>⟨_,_,_,p,q,?_⟩) _;(all_goals (subst h128));clear hr;(try clear Fq);rintro n2 st ⟨_,_,_,hr,hk,⟨_,Fq⟩⟩<;>(obtain _|n2:=n2<;>rw[Qcp]at hr))
 |(with_reducible refine lp (Qjg N _ _) hr N ?_ (λ_ p q=>⟨_,_,_,_,p,q,?_⟩) _;clear hr;(try clear E);(try clear Fq);rintro n3 st ⟨_,_,_,_,hr,hk,(⟨_,_,E⟩|⟨_,E,z0⟩)⟩<;>(try subst z0)<;>(obtain _|n3:=n3<;>rw[Qes]at hr))
 |refine⟨_,Wz _,_,_,_,_,hr,hk,?_⟩
 |refine dq 298 5 hf [(0,[],[384]),(1,[],[384]),(2,[],[384]),(3,[],[384]),(4,[],[384]),(5,[],[384]),(6,[],[384]),(7,[],[384]),(8,[],[384]),(9,[384],[]),(10,[384],[])] ?_
 |refine dqm 31 10 hf 8 [] ?_
 |refine dp ?_
 |(refine Xp hr ?_;rintro rfl;with_reducible refine XT ?_)
 |exact YH hr
 |exact nilE hr
 |(apply nilN;assumption)
 |((first|refine XJ (c:=true) hr rfl ?_|refine XJ (c:=false) hr rfl ?_|refine XJ hr ah ?_);intro hr))
abbrev Qjh:=g31.1
abbrev QnO:=g31.2.1
abbrev QlZ:=g31.2.2
attribute [instance] Qjh QnO QlZ
abbrev Qji:=λN c Q n (st:St)=>∃d,Iv (Qbb N c n d) Q ((∃b a,st.n=65/\st.t 1=.ept 64 b 6 0 0/\st.t 2=.ept 128 a 3 0 0/\st.t 3=vi d/\st.s 64=some (b,.arr true 28 6 [e28 c] 0)/\st.s 128=some (a,.arr true 363 3 [[vi 0,vi 0,vu 0]] 0)))
abbrev Qjj:=λN c Q n (st:St)=>∃v6 v7,Iv (Qa2 N c n v6 v7) Q ((∃b a,st.n=65/\st.t 1=.ept 64 b 6 0 0/\st.t 2=.ept 128 a 3 0 0/\st.t 6=vi v6/\st.t 7=vi v7/\st.s 64=some (b,.arr true 28 6 [e28 c] 0)/\st.s 128=some (a,.arr true 363 3 [[vi 0,vi 0,vu 0]] 0)))
abbrev Qko:=λN d e c Q n (st:St)=>∃f v6,Iv (QdZ N d e c n f v6) Q ((∃a b,st.n=90/\st.s 2112=some (a,.arr false 52 1 (v6.map e52) 0)/\st.t 2=.ept 128 b 6 0 0/\st.t 6=vu e.1/\st.t 8=.osl 2112 a 1 0 v6.length/\st.t 44=s52 c.1/\st.t 45=vi c.1.length/\st.t 46=vi f/\st.s 128=some (b,.arr true 28 6 [e28 d] 0)))
abbrev Qim:=λN Q n (st:St)=>∃c d b,Iv (Qcs N n c d b) Q ((∃a,st.n=42/\st.s 512=some (a,.arr false 262 4 (b.map Xac) 0)/\st.t 0=.osl 512 a 4 0 b.length/\st.t 1=.clo (.func 176) [] []/\st.t 5=vi c/\st.t 6=vi d))
abbrev Qin:=λN a b i Q n (st:St)=>∃c v13 e v15 g v17 v18 v19,Iv (Qct N a b i n c v13 e v15 g v17 v18 v19) Q ((st.n=90/\st.t 0=.ept 1000000 0 16 0 0/\st.t 14=vi a.h.p.length/\st.t 15=vi i/\st.t 35=s52 b.1/\st.t 36=vi b.1.length/\st.t 37=vi c/\st.s 1000000=some (0,.arr true 142 16 [[vi v13,vi e,s52 v15,Yz g,vi v17,vi v18,s52 a.o,s3 a.t,s52 a.q,vi a.d,vi a.r.j,vi a.r.K,vi v19,vi a.r.E,vi a.r.f,vi a.r.y]] 0)))
abbrev Qio:=λN a Q n (st:St)=>∃b c e g i v6 v7 v8,Iv (Qde N a n b c e g i v6 v7 v8) Q ((st.n=90/\st.t 0=.ept 1000000 0 16 0 0/\st.t 14=vi a.h.p.length/\st.t 15=vi b/\st.s 1000000=some (0,.arr true 142 16 [[vi c,vi e,s52 g,Yz i,vi v6,vi v7,s52 a.o,s3 a.t,s52 a.q,vi a.d,vi a.r.j,vi a.r.K,vi v8,vi a.r.E,vi a.r.f,vi a.r.y]] 0)))
def g33:(∀N(a0:Wh),O1 (QeW N a0) 282 [.agg (e28 a0)] (λr=>.agg (XqH r)))/\(∀N(a0:Wh)(a1:Int),O1 (Qge N a0 a1) 281 [.agg (e28 a0),vi a1] (λr=>.tup [vu r.1,.v (.bool r.2)]))/\(∀N(a0:Wh),O1 (QdN N a0) 104 [.agg (e28 a0)] (λr=>.tup [s52 r.1,vi r.2]))/\(∀N a0,OK (Qey N a0) 69 [.ept 1000000 0 16 0 0] [.arr true 142 16 [[vi a0.h.c.W,vi a0.h.c.p,s52 a0.h.w,Yz a0.h.p,vi a0.h.s,vi a0.h.b,s52 a0.o,s3 a0.t,s52 a0.q,vi a0.d,vi a0.r.j,vi a0.r.K,vi a0.r.F,vi a0.r.E,vi a0.r.f,vi a0.r.y]] 0] (λr=>.tup []) λr=>[.arr true 142 16 [[vi r.h.c.W,vi r.h.c.p,s52 r.h.w,Yz r.h.p,vi r.h.s,vi r.h.b,s52 r.o,s3 r.t,s52 r.q,vi r.d,vi r.r.j,vi r.r.K,vi r.r.F,vi r.r.E,vi r.r.f,vi r.r.y]] 0]):=by
 refine⟨λN _=>rk f282 ?_,λN _ _=>rk f281 ?_,λN _=>rk f104 ?_,λN _=>rk f69 ?_⟩<;>(rintro _ hw r hr C _ rfl hwf hf;have hse:=@Z3 _ hw;simp only[f282,f281,f104,f69,Option.get!,QeW,Qge,QdN,Qey]at hr⊢;repeat' first
 |(refine El.el hr ?_;clear hr;intro hr)
 |(with_reducible intro h;refine XJ hr h ?_;clear hr;intro hr)
 |with_reducible intro _
 |(refine Xp hr ?_;rintro rfl;have hr:=hk;clear hk)
 |simp only[go_sem,simprocAttr,E,Fq,XA,Xk,XbB,hse,Wl,Wo,WD]
 |(with_reducible first|apply Xj|apply Xi|apply Xw|apply Xs|apply Xt)
 |((first|with_reducible refine Yy hr ah ?_ ?_|(with_reducible refine Yr hr ?_ ?_;rotate_left;intro p;rotate_right));(·simp only[go_sem,simprocAttr,hse,Wl,Wo,WD]);intro hp hn hd hr;(try have XA:=hd _ e52;simp only[go_sem,simprocAttr]at XA);(try have Xk:=hd _ XX;simp only[go_sem,simprocAttr]at Xk);(try have XbB:=hd _ Xac;simp only[go_sem,simprocAttr]at XbB))
 |(refine Xx ?_ ?_;.first|assumption|omega|(dsimp only at *;omega))
 |(refine CallX.inl (f:=175) 4800 (fn:=f175) (rs:=[.tmp 4]) (nt:=42) 1000 ae (λx=>?_) _;simp only[f175,Option.get!])
 |(with_reducible first|refine CallX.c ?_ _|refine OK.c hr hw ?_ (λy hr=>?_) _|refine OK.d hr hw ?_ (λy hr=>?_) _)
 |(with_reducible refine lp (Qji N _) hr N ?_ (λ_ p q=>⟨_,_,p,q,?_⟩) _;clear hr;(try clear E);(try clear Fq);rintro n1 st ⟨_,_,hr,hk,⟨_,_,E⟩⟩<;>(obtain _|n1:=n1<;>rw[Qbb]at hr))
 |refine⟨_,Wz _,_,_,hr,hk,?_⟩
 |(with_reducible refine lp (Qjj N _) hr N ?_ (λ_ p q=>⟨_,_,_,p,q,?_⟩) _;clear hr;(try clear E);(try clear Fq);rintro n2 st ⟨_,_,_,hr,hk,⟨_,_,E⟩⟩<;>(obtain _|n2:=n2<;>rw[Qa2]at hr))
 |refine⟨_,Wz _,_,_,_,hr,hk,?_⟩
 |(with_reducible refine lp (Qko N _ _ _) hr N ?_ (λ_ p q=>⟨_,_,_,p,q,?_⟩) _;clear hr;(try clear E);(try clear Fq);rintro n1 st ⟨_,_,_,hr,hk,⟨_,_,E⟩⟩<;>(obtain _|n1:=n1<;>rw[QdZ]at hr))
 |(with_reducible refine lp (Qim N) hr N ?_ (λ_ p q=>⟨_,_,_,_,p,q,?_⟩) _;clear hr;(try clear Fq);rintro n1 st ⟨_,_,_,_,hr,hk,⟨_,Fq⟩⟩<;>(obtain _|n1:=n1<;>rw[Qcs]at hr))
 |refine⟨_,Wz _,_,_,_,_,hr,hk,?_⟩
 |(with_reducible refine lp (Qin N _ _ _) hr N ?_ (λ_ p q=>⟨_,_,_,_,_,_,_,_,_,p,q,?_⟩) _;clear hr;(try clear E);(try clear Fq);rintro n1 st ⟨_,_,_,_,_,_,_,_,_,hr,hk,E⟩<;>(obtain _|n1:=n1<;>rw[Qct]at hr))
 |refine⟨_,Wz _,_,_,_,_,_,_,_,_,_,hr,hk,?_⟩
 |(with_reducible refine lp (Qio N _) hr N ?_ (λ_ p q=>⟨_,_,_,_,_,_,_,_,_,p,q,?_⟩) _;clear hr;(try clear E);(try clear Fq);rintro n2 st ⟨_,_,_,_,_,_,_,_,_,hr,hk,E⟩<;>(obtain _|n2:=n2<;>rw[Qde]at hr))
 |refine dq 69 12 hf [(11,[],[1000000]),(14,[1000000],[])] ?_
 |refine dp ?_
 |(refine Xp hr ?_;rintro rfl;with_reducible refine XT ?_)
 |exact YH hr
 |((first|refine XJ (c:=true) hr rfl ?_|refine XJ (c:=false) hr rfl ?_|refine XJ hr ah ?_);intro hr)
 |omega)
abbrev Ql0:=g33.1
abbrev Qm5:=g33.2.1
abbrev Qk5:=g33.2.2.1
abbrev Qk6:=g33.2.2.2
attribute [instance] Ql0 Qm5 Qk5 Qk6
instance Qop:∀N(a0:Wh)(a1:List Int)(a2:Int),O1 (QfI N a0 a1 a2) 8 [.agg (e28 a0),s52 a1,vu a2] (λr=>.v (.bool r)):=by
 refineλN _ _ _=>rk f8 ?_<;>(rintro _ hw r hr C _ rfl hwf hf;simp only[f8,Option.get!];(rw[QfI]at hr);repeat' first
 |(refine El.el hr ?_;clear hr;intro hr)
 |(with_reducible intro h;refine XJ hr h ?_;clear hr;intro hr)
 |with_reducible intro _
 |simp only[go_sem,simprocAttr]
 |(with_reducible first|apply Xj|apply Xi|apply Xw)
 |(refine Xx ?_ ?_;.first|assumption|omega)
 |(with_reducible first|refine CallX.c ?_ _|refine OK.c hr hw ?_ (λy hr=>?_) _)
 |(refine Xp hr ?_;rintro rfl;with_reducible refine XT ?_)
 |exact YH hr)
end Go.Sx
