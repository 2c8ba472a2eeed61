import Derived.Test.YtokkmapiallffaaGreatWG2
set_option linter.all false
namespace Go.Sx
open Go.Proofs Tryz
set_option maxRecDepth 10000
set_option maxHeartbeats 100000000
abbrev Qig:=λN d Q n (st:St)=>∃e c,Iv (QbE N d n e c) Q ((∃a b,st.n=35/\st.s 320=some (a,.arr false 52 1 (c.map e52) 0)/\st.t 1=.ept 64 b 13 0 0/\st.t 3=.osl 320 a 1 0 c.length/\st.t 4=vi e/\st.s 64=some (b,.arr true 38 13 [e38 d] 0)))
abbrev Qih:=λN b Q n (st:St)=>∃c d,Iv (Qaz N b n c d) Q ((∃a,st.n=157/\st.t 1=.ept 64 a 6 0 0/\st.t 3=vi c/\st.t 4=vi d/\st.s 64=some (a,.arr true 28 6 [e28 b] 0)))
abbrev QhS:=λN a k Q n (st:St)=>∃v10 v11,Iv (QaH N a k n v10 v11) Q ((∃e g i,st.n=202/\st.s 5760=some (e,.arr false 122 4 (v11.map XX) 0)/\st.t 1=vu k/\st.t 2=.ept 128 g 16 0 0/\st.t 4=.ept 256 i 16 0 0/\st.t 14=vi v10/\st.s 128=some (g,.arr true 266 16 [[vi a.h.c.W,vi a.h.c.p,s52 a.h.w,.osl 5760 e 4 0 v11.length,vi a.h.s,vi a.h.b,s52 a.o,s3 a.t,s52 a.q,vi a.d,vi a.r.j,vi a.r.K,vi a.r.F,vi a.r.E,vi a.r.f,vi a.r.y]] 0)/\st.s 256=some (i,.arr true 266 16 [[vi 0,vi 0,.nsl,.nsl,vi 0,vi 0,.nsl,.nsl,.nsl,vi 0,vi 0,vi 0,vi 0,vi 0,vi 0,vi 0]] 0)))
abbrev QjZ:=λN d f Q n (st:St)=>∃g h e,Iv (Qbf N d f n g h e) Q ((∃a b c,st.n=57/\st.s 1280=some (a,.arr false 158 3 (e.map KB) 0)/\st.t 1=s52 f/\st.t 2=.ept 128 b 3 0 0/\st.t 4=.ept 256 c 3 0 0/\st.t 6=vi g/\st.t 7=vi h/\st.s 128=some (b,.arr true 32 3 [[.osl 1280 a 3 0 e.length,Xcu d.x,s3 d.i]] 0)/\st.s 256=some (c,.arr true 32 3 [[.nsl,.nsl,.nsl]] 0)))
abbrev Qi2:=λN b Q n (st:St)=>∃c,Iv (Qdt N b n c) Q ((∃a,st.n=154/\st.t 1=.ept 64 a 10 0 0/\st.t 3=vi c/\st.s 64=some (a,.arr true 42 10 [e42 b] 0)))
abbrev Qi3:=λN e b Q n (st:St)=>∃c,Iv (Qdu N e b n c) Q ((∃a d,st.n=154/\st.s 4928=some (a,.arr false 52 1 (b.map e52) 0)/\st.t 1=.ept 64 d 10 0 0/\st.t 5=.osl 4928 a 1 0 b.length/\st.t 6=vi c/\st.s 64=some (d,.arr true 42 10 [e42 e] 0)))
abbrev Qi4:=λN d b Q n (st:St)=>∃v15,Iv (Qdv N d b n v15) Q ((∃a c,st.n=154/\st.s 4928=some (a,.arr false 52 1 (b.map e52) 0)/\st.t 1=.ept 64 c 10 0 0/\st.t 5=.osl 4928 a 1 0 b.length/\st.t 7=vi v15/\st.s 64=some (c,.arr true 42 10 [e42 d] 0)))
abbrev Qii:=λN d Q n (st:St)=>∃e c,Iv (QeM N d n e c) Q ((∃a b,st.n=35/\st.s 320=some (a,.arr false 52 1 (c.map e52) 0)/\st.t 1=.ept 64 b 10 0 0/\st.t 3=.osl 320 a 1 0 c.length/\st.t 4=vi e/\st.s 64=some (b,.arr true 42 10 [e42 d] 0)))
abbrev Qi5:=λN b Q n (st:St)=>∃c,Iv (Qdx N b n c) Q ((∃a,st.n=41/\st.t 3=.ept 192 a 3 0 0/\st.t 27=Xcu b.x/\st.t 28=vi b.x.length/\st.t 29=vi c/\st.s 192=some (a,.arr true 179 3 [e32 b] 0)))
abbrev Qhr:=λN d e Q n (st:St)=>∃f c,Iv (Qca N d e n f c) Q ((∃a b,st.n=19/\st.s 1024=some (a,.arr false 3 1 (c.map e3) 0)/\st.t 1=.ept 64 b 3 0 0/\st.t 3=.osl 1024 a 1 0 c.length/\st.t 6=vi e/\st.t 7=vi f/\st.s 64=some (b,.arr true 59 3 [e59 d] 0))\/(∃b,(st.n=19/\st.t 1=.ept 64 b 3 0 0/\st.t 3=.nsl/\st.t 6=vi e/\st.t 7=vi f/\st.s 64=some (b,.arr true 59 3 [e59 d] 0))/\c=[]))
abbrev Qj0:=λN c d e f Q n (st:St)=>∃b,Iv (Qgv N c d e f n b) Q ((∃a,st.n=45/\st.s 1856=some (a,.arr false 122 4 (b.map XX) 0)/\st.t 1=Yz c/\st.t 2=vi d/\st.t 3=vi e/\st.t 13=vi f/\st.t 14=.osl 1856 a 4 0 b.length))
def g19:(∀N(a0:Um),O1 (Qc5 N a0) 9 [.agg (e38 a0)] (λr=>s52 r))/\(∀N(a0:Wh),O1 (Qaa N a0) 17 [.agg (e28 a0)] (λr=>.v (.bool r)))/\(∀N(a0:Wu)(a1:Int),O1 (QaD N a0 a1) 255 [.agg (Jz a0),vu a1] (λr=>.tup [.agg (Jz r.1),vu r.2.1,vi r.2.2]))/\(∀N(a0:Ws)(a1:List Int),O1 (Qc7 N a0 a1) 111 [.agg (e32 a0),s52 a1] (λr=>.tup [.agg (e32 r.1),vi r.2]))/\(∀N(a0:WQ),O1 (Qei N a0) 113 [.agg (e42 a0)] (λr=>.v (.bool r)))/\(∀N(a0:WQ),O1 (QgJ N a0) 191 [.agg (e42 a0)] (λr=>.fsl 52 1 (r.map e52)))/\(∀N(a0:Ws),O1 (Qe0 N a0) 46 [.agg (e32 a0)] (λr=>.v (.bool r)))/\(∀N(a0:Wx),O1 (QdQ N a0) 228 [.agg (e59 a0)] (λr=>s3 r))/\(∀N(a0:WR)(a1:List Wr)(a2:Int)(a3:Int)(a4:Int),O1 (Qho N a0 a1 a2 a3 a4) 158 [.agg (e24 a0),Yz a1,vi a2,vi a3,vi a4] (λr=>.tup [Yz r.1,vi r.2])):=by
 refine⟨λN _=>rk f9 ?_,λN _=>rk f17 ?_,λN _ _=>rk f255 ?_,λN _ _=>rk f111 ?_,λN _=>rk f113 ?_,λN _=>rq f191 [320] ?_,λN _=>rk f46 ?_,λN _=>rk f228 ?_,λN _ _ _ _ _=>rk f158 ?_⟩<;>(rintro _ hw r hr C _ rfl hwf hf;have hse:=@Z3 _ hw;simp only[f9,f17,f255,f111,f113,f191,f46,f228,f158,Option.get!,Qc5,Qaa,QaD,Qc7,Qei,QgJ,Qe0,QdQ,Qho]at hr⊢;repeat' first
 |(refine El.el hr ?_;clear hr;intro hr)
 |(with_reducible intro h;refine XJ hr h ?_;clear hr;intro hr)
 |with_reducible intro _
 |(refine Xp hr ?_;rintro rfl;have hr:=hk;clear hk)
 |simp only[go_sem,simprocAttr,E,XA,KC,Xk,ZJ,X2,KO,JL,hse]
 |(with_reducible first|apply Xj|apply Xi|apply Xw|apply Xs|apply Xt)
 |((first|with_reducible refine Yy hr ah ?_ ?_|(with_reducible refine Yr hr ?_ ?_;rotate_left;intro p;rotate_right));(·simp only[go_sem,simprocAttr,hse]);intro hp hn hd hr;(try have XA:=hd _ e52;simp only[go_sem,simprocAttr]at XA);(try have KC:=hd _ e93;simp only[go_sem,simprocAttr]at KC);(try have Xk:=hd _ XX;simp only[go_sem,simprocAttr]at Xk);(try have ZJ:=hd _ Xab;simp only[go_sem,simprocAttr]at ZJ);(try have X2:=hd _ KB;simp only[go_sem,simprocAttr]at X2);(try have KO:=hd _ Xb6;simp only[go_sem,simprocAttr]at KO);(try have JL:=hd _ Xgi;simp only[go_sem,simprocAttr]at JL))
 |(refine Xx ?_ ?_;.first|assumption|omega)
 |(with_reducible first|refine CallX.c ?_ _|refine OK.c hr hw ?_ (λy hr=>?_) _|refine OK.d hr hw ?_ (λy hr=>?_) _)
 |(with_reducible refine lp (Qig N _) hr N ?_ (λ_ p q=>⟨_,_,_,p,q,?_⟩) _;rintro n1 st ⟨_,_,_,hr,hk,⟨_,_,E⟩⟩<;>(obtain _|n1:=n1<;>rw[QbE]at hr))
 |refine⟨_,Wz _,_,_,_,hr,hk,?_⟩
 |(with_reducible refine lp (Qih N _) hr N ?_ (λ_ p q=>⟨_,_,_,p,q,?_⟩) _;rintro n1 st ⟨_,_,_,hr,hk,⟨_,E⟩⟩<;>(obtain _|n1:=n1<;>rw[Qaz]at hr))
 |(with_reducible refine lp (QhS N _ _) hr N ?_ (λ_ p q=>⟨_,_,_,p,q,?_⟩) _;rintro n1 st ⟨_,_,_,hr,hk,⟨_,_,_,E⟩⟩<;>(obtain _|n1:=n1<;>rw[QaH]at hr))
 |(with_reducible refine lp (QjZ N _ _) hr N ?_ (λ_ p q=>⟨_,_,_,_,p,q,?_⟩) _;rintro n1 st ⟨_,_,_,_,hr,hk,⟨_,_,_,E⟩⟩<;>(obtain _|n1:=n1<;>rw[Qbf]at hr))
 |refine⟨_,Wz _,_,_,_,_,hr,hk,?_⟩
 |(with_reducible refine lp (Qi2 N _) hr N ?_ (λ_ p q=>⟨_,_,p,q,?_⟩) _;rintro n1 st ⟨_,_,hr,hk,⟨_,E⟩⟩<;>(obtain _|n1:=n1<;>rw[Qdt]at hr))
 |refine⟨_,Wz _,_,_,hr,hk,?_⟩
 |(with_reducible refine lp (Qi3 N _ _) hr N ?_ (λ_ p q=>⟨_,_,p,q,?_⟩) _;rintro n2 st ⟨_,_,hr,hk,⟨_,_,E⟩⟩<;>(obtain _|n2:=n2<;>rw[Qdu]at hr))
 |(with_reducible refine lp (Qi4 N _ _) hr N ?_ (λ_ p q=>⟨_,_,p,q,?_⟩) _;rintro n3 st ⟨_,_,hr,hk,⟨_,_,E⟩⟩<;>(obtain _|n3:=n3<;>rw[Qdv]at hr))
 |(with_reducible refine lp (Qii N _) hr N ?_ (λ_ p q=>⟨_,_,_,p,q,?_⟩) _;rintro n1 st ⟨_,_,_,hr,hk,⟨_,_,E⟩⟩<;>(obtain _|n1:=n1<;>rw[QeM]at hr))
 |(with_reducible refine lp (Qi5 N _) hr N ?_ (λ_ p q=>⟨_,_,p,q,?_⟩) _;rintro n1 st ⟨_,_,hr,hk,⟨_,E⟩⟩<;>(obtain _|n1:=n1<;>rw[Qdx]at hr))
 |(with_reducible refine lp (Qhr N _ _) hr N ?_ (λ_ p q=>⟨_,_,_,p,q,?_⟩) _;rintro n1 st ⟨_,_,_,hr,hk,(⟨_,_,E⟩|⟨_,E,z0⟩)⟩<;>(try subst z0)<;>(obtain _|n1:=n1<;>rw[Qca]at hr))
 |(with_reducible refine lp (Qj0 N _ _ _ _) hr N ?_ (λ_ p q=>⟨_,_,p,q,?_⟩) _;rintro n1 st ⟨_,_,hr,hk,⟨_,E⟩⟩<;>(obtain _|n1:=n1<;>rw[Qgv]at hr))
 |refine dq 9 1 hf [(0,[320],[]),(1,[],[320]),(2,[],[320]),(3,[320],[]),(4,[],[320]),(5,[],[320]),(7,[320],[])] ?_
 |refine dq 111 11 hf [(9,[1280],[])] ?_
 |refine dq 113 21 hf [(17,[],[9664]),(20,[9664],[])] ?_
 |refine dq 191 1 hf [(0,[320],[]),(1,[],[320]),(2,[],[320]),(3,[320],[]),(4,[],[320]),(5,[],[320]),(7,[320],[])] ?_
 |refine dp ?_
 |(refine Xp hr ?_;rintro rfl;with_reducible refine XT ?_)
 |exact YH hr
 |((first|refine XJ (c:=true) hr rfl ?_|refine XJ (c:=false) hr rfl ?_|refine XJ hr ah ?_);intro hr))
abbrev QkU:=g19.1
abbrev QkV:=g19.2.1
abbrev Qj1:=g19.2.2.1
abbrev QmJ:=g19.2.2.2.1
abbrev QlD:=g19.2.2.2.2.1
abbrev QkW:=g19.2.2.2.2.2.1
abbrev QlE:=g19.2.2.2.2.2.2.1
abbrev Qij:=g19.2.2.2.2.2.2.2.1
abbrev QmK:=g19.2.2.2.2.2.2.2.2
attribute [instance] QkU QkV Qj1 QmJ QlD QkW QlE Qij QmK
def QgU{C:Cx}{N:Nat}{a0:Wu}{a1:Int}{β:Type}{k:Int × Int × Int × List Wr × List Int → Option β}{r:β}{dst:Option Nat}{st:St}{K:St → Prop}{wb w1 w3:Nat}(hw:GW C.G)(hr:bnd (Qcr N a0 a1) k=some r)(p wp w4 w5:Nat)(hp:p=51840\/p=210816)(E0:st.s 51584=some (w1,.arr false 52 1 (a0.h.w.map e52) 0))(E1:st.s p=some (wp,.arr false 122 4 (a0.h.p.map XX) 0))(E2:st.s 52288=some (w3,.arr false 52 1 (a0.o.map e52) 0))(E3:st.s 52480=some (w4,.arr false 3 1 (a0.t.map e3) 0))(E4:st.s 52672=some (w5,.arr false 52 1 (a0.q.map e52) 0))(E5:st.s 51264=some (wb,.arr true 210 16 [[vi a0.h.c.W,vi a0.h.c.p,.osl 51584 w1 1 0 a0.h.w.length,.osl p wp 4 0 a0.h.p.length,vi a0.h.s,vi a0.h.b,.osl 52288 w3 1 0 a0.o.length,.osl 52480 w4 1 0 a0.t.length,.osl 52672 w5 1 0 a0.q.length,vi a0.d,vi a0.r.j,vi a0.r.K,vi a0.r.F,vi a0.r.E,vi a0.r.f,vi a0.r.y]] 0))(hK:∀y,k y=some r→∀s' kk,∀p wp w4 w5,(p=51840\/p=210816)→FwH s' wb w1 p wp w3 w4 w5 (Wu.mk (Wh.mk a0.h.c a0.h.w y.2.2.2.1 a0.h.s a0.h.b) a0.o y.2.2.2.2 a0.q a0.d a0.r)→K (nxS st (XS dst st.n) (.tup [vi y.1,vi y.2.1,vi y.2.2.1]) (Xi1 st.s s') st.n kk))(t:Prf ([.ept 51264 wb 16 0 0,vi a1]:List D)):CallX prog C 226 [.ept 51264 wb 16 0 0,vi a1] dst st K t:=by
 refine Xa3 hr λy hr hk2=>?_;have E:=And.intro E0 (And.intro E1 (And.intro E2 (And.intro E3 (And.intro E4 E5))));clear E0 E1 E2 E3 E4 E5;have hse:=@Z3 _ hw;rcases hp with rfl|rfl<;>(refine CallX.inl (f:=226) 3200 (fn:=f226) (rs:=[.tmp 4,.tmp 5,.tmp 6]) (nt:=116) 1000 ae (λx=>?_) _;simp only[f226,Option.get!];rw[Qcr]at hr;repeat' first
 |(refine El.el hr ?_;clear hr;intro hr)
 |(with_reducible intro h;refine XJ hr h ?_;clear hr;intro hr)
 |with_reducible intro _
 |simp only[go_sem,simprocAttr,E,hl3,Xk,hse]
 |(with_reducible first|apply Xj|apply Xi|apply Xw|apply Xs|apply Xt)
 |((first|with_reducible refine Yy hr ah ?_ ?_|(with_reducible refine Yr hr ?_ ?_;rotate_left;intro p;rotate_right));(·simp only[go_sem,simprocAttr,hse]);intro hp hn hd hr;(try have hl3:=hd _ e3;simp only[go_sem,simprocAttr]at hl3);(try have Xk:=hd _ XX;simp only[go_sem,simprocAttr]at Xk))
 |(refine Xx ?_ ?_;.first|assumption|omega)
 |(refine CallX.inl (f:=224) 2400 (fn:=f224) (rs:=[.tmp 2]) (nt:=9) 1000 ae (λx=>?_) _;simp only[f224,Option.get!])
 |(with_reducible first|refine CallX.c ?_ _|refine OK.c hr hw ?_ (λy hr=>?_) _|refine OK.d hr hw ?_ (λy hr=>?_) _)
 |refine dqi 3200 226 10 ⟨⟩ [(8,[51840,210816],[])] ?_
 |refine dp ?_
 |exact YH hr
 |(refine Xp hr ?_;rintro rfl;(try simp only[go_sem,simprocAttr,E,hl3,Xk,hse]);first|(apply Xgk (K:=λs=>K (nxS _ _ _ s _ _)) (λp wp w4 w5 hp h=>hK _ hk2 _ _ p wp w4 w5 hp h) 51840 (hp:=.inl rfl);refine⟨?_,?_,?_,?_,?_,?_⟩;(iterate 6 (·first|rfl|(simp only[go_sem,simprocAttr,E,hl3,Xk,hse];(repeat' first|rfl|refine⟨?_,?_⟩);done)));(intro i hi;first|rfl|exact hl0 i hi|(simp only[Y7,ZL,Ku,XB,VH hi,hi,simprocAttr,if_true,if_false];first|done|exact hl0 i hi)|(simp only[Y7,ZL,Ku,XB,VH hi,hi,simprocAttr,if_true,if_false])))|(apply Xgk (K:=λs=>K (nxS _ _ _ s _ _)) (λp wp w4 w5 hp h=>hK _ hk2 _ _ p wp w4 w5 hp h) 210816 (hp:=.inr rfl);refine⟨?_,?_,?_,?_,?_,?_⟩;(iterate 6 (·first|rfl|(simp only[go_sem,simprocAttr,E,hl3,Xk,hse];(repeat' first|rfl|refine⟨?_,?_⟩);done)));(intro i hi;first|rfl|exact hl0 i hi|(simp only[Y7,ZL,Ku,XB,VH hi,hi,simprocAttr,if_true,if_false];first|done|exact hl0 i hi)|(simp only[Y7,ZL,Ku,XB,VH hi,hi,simprocAttr,if_true,if_false]))))
 |(with_reducible apply XcS;(·simp only[go_sem,simprocAttr,E,hl3,Xk,hse];repeat' first|rfl|refine⟨?_,?_⟩);(·simp only[ZS,snap,go_sem,simprocAttr,E,hl3,Xk,hse];repeat' first|rfl|refine⟨?_,?_⟩);(·simp only[go_sem,simprocAttr,E,hl3,Xk,hse];first|done|omega|(simp;omega))))
def g18:(∀N(a0:Wh)(a1:Int)(a2:Int),O1 (QgI N a0 a1 a2) 312 [.agg (e28 a0),vi a1,vi a2] (λr=>vu r))/\(∀N(a0:Wu)(a1:Int),O1 (Qcz N a0 a1) 185 [.agg (Jz a0),vu a1] (λr=>vu r))/\(∀N(a0:WR)(a1:List Wr)(a2:Int)(a3:Int)(a4:Int),O1 (QeY N a0 a1 a2 a3 a4) 303 [.agg (e24 a0),Yz a1,vi a2,vi a3,vi a4] (λr=>.tup [Yz r.1,vi r.2]))/\(∀N(a0:Ws)(a1:Int)(a2:Int),O1 (QdJ N a0 a1 a2) 204 [.agg (e32 a0),vi a1,vi a2] (λr=>.tup [.agg (e32 r.1),vi r.2]))/\(∀N(a0:Wh)(a1:Int)(a2:Int),O1 (QbW N a0 a1 a2) 265 [.agg (e28 a0),vu a1,vi a2] (λr=>.agg (e28 r)))/\(∀N(a0:WQ)(a1:Int),O1 (Qc4 N a0 a1) 126 [.agg (e42 a0),vu a1] (λr=>.tup [.agg (e42 r.1),vu r.2]))/\(∀N(a0:Wr)(a1:WR),O1 (Qdz N a0 a1) 235 [.agg (XhX a0),.agg (e24 a1)] (λr=>.v (.bool r)))/\(∀N a0 a1,OK (Qex N a0 a1) 106 [vu a0,.ept 1000000 0 1 0 0] [.arr true 25 1 [[s52 a1]] 0] (λr=>.v (.bool r)) λr=>[.arr true 25 1 [[s52 a1]] 0])/\(∀N(a0:Wu)(a1:Int),O1 (QfG N a0 a1) 138 [.agg (Xgj a0),vu a1] (λr=>vu r))/\(∀N(a0:WR)(a1:Wx),O1 (Qg6 N a0 a1) 37 [.agg (e24 a0),.agg (e59 a1)] (λr=>.v (.bool r))):=by
 refine⟨λN _ _ _=>rk f312 ?_,λN _ _=>rk f185 ?_,λN _ _ _ _ _=>rk f303 ?_,λN _ _ _=>rk f204 ?_,λN _ _ _=>rk f265 ?_,λN _ _=>rk f126 ?_,λN _ _=>rk f235 ?_,λN _ _=>rk f106 ?_,λN _ _=>rk f138 ?_,λN _ _=>rk f37 ?_⟩<;>(rintro _ hw r hr C _ rfl hwf hf;have hse:=@Z3 _ hw;simp only[f312,f185,f303,f204,f265,f126,f235,f106,f138,f37,Option.get!,QgI,Qcz,QeY,QdJ,QbW,Qc4,Qdz,Qex,QfG,Qg6]at hr⊢;repeat' first
 |(refine El.el hr ?_;clear hr;intro hr)
 |(with_reducible intro h;refine XJ hr h ?_;clear hr;intro hr)
 |with_reducible intro _
 |simp only[go_sem,simprocAttr,XA,Xk,X2,hse]
 |(with_reducible first|apply Xj|apply Xi|apply Xw|apply Xs|apply Xt)
 |((first|with_reducible refine Yy hr ah ?_ ?_|(with_reducible refine Yr hr ?_ ?_;rotate_left;intro p;rotate_right));(·simp only[go_sem,simprocAttr,hse]);intro hp hn hd hr;(try have XA:=hd _ e52;simp only[go_sem,simprocAttr]at XA);(try have Xk:=hd _ XX;simp only[go_sem,simprocAttr]at Xk);(try have X2:=hd _ KB;simp only[go_sem,simprocAttr]at X2))
 |(refine Xx ?_ ?_;.first|assumption|omega)
 |(with_reducible first|refine CallX.c ?_ _|refine OK.c hr hw ?_ (λy hr=>?_) _|refine OK.d hr hw ?_ (λy hr=>?_) _)
 |refine dq 265 2 hf [(12,[448],[])] ?_
 |refine dp ?_
 |(refine Xp hr ?_;rintro rfl;with_reducible refine XT ?_)
 |exact YH hr)
abbrev QmL:=g18.1
abbrev QlF:=g18.2.1
abbrev QlG:=g18.2.2.1
abbrev QkX:=g18.2.2.2.1
abbrev QlH:=g18.2.2.2.2.1
abbrev QlI:=g18.2.2.2.2.2.1
abbrev QhT:=g18.2.2.2.2.2.2.1
abbrev QhU:=g18.2.2.2.2.2.2.2.1
abbrev Qj2:=g18.2.2.2.2.2.2.2.2.1
abbrev QmM:=g18.2.2.2.2.2.2.2.2.2
attribute [instance] QmL QlF QlG QkX QlH QlI QhT QhU Qj2 QmM
def g17:(∀N a0,OK (Qbh N a0) 18 [.ept 1000000 0 2 0 0] [.arr true 62 2 [[s3 a0.L,vi a0.at_]] 0] (λr=>.agg (e44 r.1)) λr=>[.arr true 62 2 [[s3 r.2.L,vi r.2.at_]] 0])/\(∀N(a0:Wu)(a1:Int),O1 (Qdi N a0 a1) 259 [.agg (Jz a0),vu a1] (λr=>.agg (e59 r)))/\(∀N(a0:WR)(a1:Wx),O1 (Qda N a0 a1) 192 [.agg (e24 a0),.agg (e59 a1)] (λr=>.v (.bool r)))/\(∀N(a0:Um)(a1:Int),O1 (QcB N a0 a1) 195 [.agg (e38 a0),vu a1] (λr=>.tup [.agg (e38 r.1),vu r.2.1,vi r.2.2]))/\(∀N(a0:Ws)(a1:Int),O1 (Qed N a0 a1) 130 [.agg (e32 a0),vi a1] (λr=>.tup [.agg (e32 r.1),vi r.2]))/\(∀N(a0:Ws)(a1:Int),O1 (Qc3 N a0 a1) 268 [.agg (e32 a0),vu a1] (λr=>vi r))/\(∀N(a0:WG),O1 (Qen N a0) 47 [.agg (e35 a0)] (λr=>.v (.bool r)))/\(∀N a0 a1,OK (Qgt N a0 a1) 230 [.ept 1000000 0 6 0 0,.ept 1000001 0 1 0 0] [.arr true 28 6 [[vi a0.c.W,vi a0.c.p,s52 a0.w,Yz a0.p,vi a0.s,vi a0.b]] 0,.arr true 52 1 [[vu a1]] 0] (λr=>vu r) λr=>[.arr true 28 6 [[vi a0.c.W,vi a0.c.p,s52 a0.w,Yz a0.p,vi a0.s,vi a0.b]] 0,.arr true 52 1 [[vu a1]] 0])/\(∀N(a0:Int),O1 (Qb1 N a0) 272 [vu a0] (λr=>.tup [vu r.1,vi r.2]))/\(∀N(a0:Wx),O1 (QfH N a0) 159 [.agg (e59 a0)] (λr=>.tup [vu r.1,vi r.2])):=by
 refine⟨λN _=>rk f18 ?_,λN _ _=>rk f259 ?_,λN _ _=>rk f192 ?_,λN _ _=>rk f195 ?_,λN _ _=>rk f130 ?_,λN _ _=>rk f268 ?_,λN _=>rk f47 ?_,λN _ _=>rk f230 ?_,λN _=>rk f272 ?_,λN _=>rk f159 ?_⟩<;>(rintro _ hw r hr C _ rfl hwf hf;have hse:=@Z3 _ hw;simp only[f18,f259,f192,f195,f130,f268,f47,f230,f272,f159,Option.get!,Qbh,Qdi,Qda,QcB,Qed,Qc3,Qen,Qgt,Qb1,QfH]at hr⊢;repeat' first
 |(refine El.el hr ?_;clear hr;intro hr)
 |(with_reducible intro h;refine XJ hr h ?_;clear hr;intro hr)
 |with_reducible intro _
 |simp only[go_sem,simprocAttr,hse]
 |(with_reducible first|apply Xj|apply Xi|apply Xw|apply Xs|apply Xt)
 |(refine Xx ?_ ?_;.first|assumption|omega)
 |(with_reducible first|refine CallX.c ?_ _|refine OK.c hr hw ?_ (λy hr=>?_) _|refine OK.d hr hw ?_ (λy hr=>?_) _)
 |refine dp ?_
 |(refine Xp hr ?_;rintro rfl;with_reducible refine XT ?_)
 |exact YH hr)
abbrev Qik:=g17.1
abbrev Qnu:=g17.2.1
abbrev QmN:=g17.2.2.1
abbrev QlJ:=g17.2.2.2.1
abbrev QmO:=g17.2.2.2.2.1
abbrev QlK:=g17.2.2.2.2.2.1
abbrev QlL:=g17.2.2.2.2.2.2.1
abbrev Qj3:=g17.2.2.2.2.2.2.2.1
abbrev Qi6:=g17.2.2.2.2.2.2.2.2.1
abbrev Qj4:=g17.2.2.2.2.2.2.2.2.2
attribute [instance] Qik Qnu QmN QlJ QmO QlK QlL Qj3 Qi6 Qj4
end Go.Sx
