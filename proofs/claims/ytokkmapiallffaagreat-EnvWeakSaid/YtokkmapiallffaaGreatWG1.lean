import Derived.Test.YtokkmapiallffaaGreatWG0
set_option linter.all false
namespace Go.Sx
open Go.Proofs Tryz
set_option maxRecDepth 10000
set_option maxHeartbeats 100000000
abbrev QiN:=λN b Q n (st:St)=>∃c,Iv (Qdp N b n c) Q ((∃a,st.n=174/\st.t 1=.ept 64 a 3 0 0/\st.t 3=vi c/\st.s 64=some (a,.arr true 32 3 [e32 b] 0)))
abbrev QiO:=λN b Q n (st:St)=>∃c v6,Iv (Qaw N b n c v6) Q ((∃a,st.n=174/\st.t 1=.ept 64 a 3 0 0/\st.t 4=vi c/\st.t 5=vi v6/\st.s 64=some (a,.arr true 32 3 [e32 b] 0)))
abbrev QiP:=λN b Q n (st:St)=>∃v10 v11,Iv (Qat N b n v10 v11) Q ((∃a,st.n=174/\st.t 1=.ept 64 a 3 0 0/\st.t 7=vi v10/\st.t 8=vi v11/\st.s 64=some (a,.arr true 32 3 [e32 b] 0)))
abbrev QiQ:=λN c Q n (st:St)=>∃a,Iv (QcQ N c n a) Q ((∃b,st.n=174/\st.t 1=.ept 64 b 3 0 0/\st.t 10=vi a/\st.s 64=some (b,.arr true 32 3 [e32 c] 0)))
abbrev QiR:=λN a b Q n (st:St)=>∃c,Iv (QbC N a b n c) Q ((st.n=31/\st.t 1=vi a/\st.t 5=Xow b/\st.t 6=vi c))
abbrev QeB:=λN a Q n (st:St)=>∃b,Iv (Qan N a n b) Q ((st.n=19/\st.t 0=s96 a/\st.t 1=.clo (.func 102) [] []/\st.t 7=vi a.length/\st.t 8=vi b))
abbrev Qf4:=λN a Q n (st:St)=>∃b,Iv (QaC N a n b) Q ((st.n=19/\st.t 0=s3 a/\st.t 1=.clo (.func 97) [] []/\st.t 7=vi a.length/\st.t 8=vi b))
abbrev QiS:=λN b a Q n (st:St)=>∃c d,Iv (QaU N b a n c d) Q ((st.n=49/\st.t 0=vu b/\st.t 1=s3 a/\st.t 6=vi c/\st.t 12=s3 a/\st.t 13=vi a.length/\st.t 14=vi d))
abbrev QiT:=λN b Q n (st:St)=>∃c v6 v7,Iv (QaV N b n c v6 v7) Q ((∃a,st.n=49/\st.s 2624=some (a,.arr false 52 1 (v7.map e52) 0)/\st.t 0=vu c/\st.t 9=.osl 2624 a 1 0 v7.length/\st.t 29=s3 b/\st.t 30=vi b.length/\st.t 31=vi v6)\/((st.n=49/\st.t 0=vu c/\st.t 9=.nsl/\st.t 29=s3 b/\st.t 30=vi b.length/\st.t 31=vi v6)/\v7=[]))
abbrev Qd5:=λN a Q n (st:St)=>∃b,Iv (Qak N a n b) Q ((st.n=19/\st.t 0=Xlz a/\st.t 1=.clo (.func 176) [] []/\st.t 7=vi a.length/\st.t 8=vi b))
abbrev QjM:=λN b a Q n (st:St)=>∃c,Iv (Qd0 N b a n c) Q ((st.n=23/\st.t 1=vi b/\st.t 10=Xow a/\st.t 11=vi a.length/\st.t 12=vi c))
def g10:(∀N(a0:Ws),O1 (Qcd N a0) 82 [.agg (e32 a0)] (λr=>.v (.bool r)))/\(∀N(a0:List Wr)(a1:Int),O1 (Qbn N a0 a1) 299 [Yz a0,vi a1] (λr=>vi r))/\(∀N(a0:List W8),O1 (QaP N a0) 172 [s96 a0,.clo (.func 102) [] []] (λr=>vi r))/\(∀N(a0:List Int),O1 (QbS N a0) 170 [s3 a0,.clo (.func 97) [] []] (λr=>vi r))/\(∀N(a0:Int)(a1:List Int),O1 (Qe1 N a0 a1) 270 [vu a0,s3 a1] (λr=>.tup [s52 r.1,vi r.2]))/\(∀N(a0:List UV),O1 (Qas N a0) 250 [Xlz a0,.clo (.func 176) [] []] (λr=>vi r))/\(∀N(a0:List Wr)(a1:Int),O1 (QdG N a0 a1) 239 [Yz a0,vi a1] (λr=>vi r)):=by
 refine⟨λN _=>rk f82 ?_,λN _ _=>rk f299 ?_,λN _=>rk f172 ?_,λN _=>rk f170 ?_,λN _ _=>rk f270 ?_,λN _=>rk f250 ?_,λN _ _=>rk f239 ?_⟩<;>(rintro _ hw r hr C _ rfl hwf hf;have hse:=@Z3 _ hw;simp only[f82,f299,f172,f170,f270,f250,f239,Option.get!,Qcd,Qbn,QaP,QbS,Qe1,Qas,QdG]at hr⊢;repeat' first
 |(refine El.el hr ?_;clear hr;intro hr)
 |(with_reducible intro h;refine XJ hr h ?_;clear hr;intro hr)
 |with_reducible intro _
 |(refine Xp hr ?_;rintro rfl;have hr:=hk;clear hk)
 |simp only[go_sem,simprocAttr,E,hl3,Zk,ZJ,X2,XbB,XbC,hse]
 |(with_reducible first|apply Xj|apply Xi|apply Xw|apply Xs|apply Xt)
 |((first|with_reducible refine Yy hr ah ?_ ?_|(with_reducible refine Yr hr ?_ ?_;rotate_left;intro p;rotate_right));(·simp only[go_sem,simprocAttr,hse]);intro hp hn hd hr;(try have hl3:=hd _ e3;simp only[go_sem,simprocAttr]at hl3);(try have Zk:=hd _ e96;simp only[go_sem,simprocAttr]at Zk);(try have ZJ:=hd _ Xab;simp only[go_sem,simprocAttr]at ZJ);(try have X2:=hd _ KB;simp only[go_sem,simprocAttr]at X2);(try have XbB:=hd _ Xac;simp only[go_sem,simprocAttr]at XbB);(try have XbC:=hd _ Xi0;simp only[go_sem,simprocAttr]at XbC))
 |(refine Xx ?_ ?_;.first|assumption|omega)
 |(with_reducible first|refine CallX.c ?_ _|refine OK.c hr hw ?_ (λy hr=>?_) _|refine OK.d hr hw ?_ (λy hr=>?_) _)
 |(with_reducible refine lp (QiN N _) hr N ?_ (λ_ p q=>⟨_,_,p,q,?_⟩) _;rintro n1 st ⟨_,_,hr,hk,⟨_,E⟩⟩<;>(obtain _|n1:=n1<;>rw[Qdp]at hr))
 |refine⟨_,Wz _,_,_,hr,hk,?_⟩
 |(with_reducible refine lp (QiO N _) hr N ?_ (λ_ p q=>⟨_,_,_,p,q,?_⟩) _;rintro n2 st ⟨_,_,_,hr,hk,⟨_,E⟩⟩<;>(obtain _|n2:=n2<;>rw[Qaw]at hr))
 |refine⟨_,Wz _,_,_,_,hr,hk,?_⟩
 |(with_reducible refine lp (QiP N _) hr N ?_ (λ_ p q=>⟨_,_,_,p,q,?_⟩) _;rintro n3 st ⟨_,_,_,hr,hk,⟨_,E⟩⟩<;>(obtain _|n3:=n3<;>rw[Qat]at hr))
 |(with_reducible refine lp (QiQ N _) hr N ?_ (λ_ p q=>⟨_,_,p,q,?_⟩) _;rintro n4 st ⟨_,_,hr,hk,⟨_,E⟩⟩<;>(obtain _|n4:=n4<;>rw[QcQ]at hr))
 |(with_reducible refine lp (QiR N _ _) hr N ?_ (λ_ p q=>⟨_,_,p,q,?_⟩) _;rintro n1 st ⟨_,_,hr,hk,E⟩<;>(obtain _|n1:=n1<;>rw[QbC]at hr))
 |(with_reducible refine lp (QeB N _) hr N ?_ (λ_ p q=>⟨_,_,p,q,?_⟩) _;rintro n1 st ⟨_,_,hr,hk,E⟩<;>(obtain _|n1:=n1<;>rw[Qan]at hr))
 |(with_reducible refine lp (Qf4 N _) hr N ?_ (λ_ p q=>⟨_,_,p,q,?_⟩) _;rintro n1 st ⟨_,_,hr,hk,E⟩<;>(obtain _|n1:=n1<;>rw[QaC]at hr))
 |(with_reducible refine lp (QiS N _ _) hr N ?_ (λ_ p q=>⟨_,_,_,p,q,?_⟩) _;rintro n1 st ⟨_,_,_,hr,hk,E⟩<;>(obtain _|n1:=n1<;>rw[QaU]at hr))
 |(with_reducible refine lp (QiT N _) hr N ?_ (λ_ p q=>⟨_,_,_,_,p,q,?_⟩) _;rintro n2 st ⟨_,_,_,_,hr,hk,(⟨_,E⟩|⟨E,z0⟩)⟩<;>(try subst z0)<;>(obtain _|n2:=n2<;>rw[QaV]at hr))
 |refine⟨_,Wz _,_,_,_,_,hr,hk,?_⟩
 |(with_reducible refine lp (Qd5 N _) hr N ?_ (λ_ p q=>⟨_,_,p,q,?_⟩) _;rintro n1 st ⟨_,_,hr,hk,E⟩<;>(obtain _|n1:=n1<;>rw[Qak]at hr))
 |(with_reducible refine lp (QjM N _ _) hr N ?_ (λ_ p q=>⟨_,_,p,q,?_⟩) _;rintro n1 st ⟨_,_,hr,hk,E⟩<;>(obtain _|n1:=n1<;>rw[Qd0]at hr))
 |refine dp ?_
 |(refine Xp hr ?_;rintro rfl;with_reducible refine XT ?_)
 |exact YH hr
 |((first|refine XJ (c:=true) hr rfl ?_|refine XJ (c:=false) hr rfl ?_|refine XJ hr ah ?_);intro hr))
abbrev Qln:=g10.1
abbrev Qlo:=g10.2.1
abbrev QeU:=g10.2.2.1
abbrev Qgr:=g10.2.2.2.1
abbrev Qlp:=g10.2.2.2.2.1
abbrev Qet:=g10.2.2.2.2.2.1
abbrev Qmq:=g10.2.2.2.2.2.2
attribute [instance] Qln Qlo QeU Qgr Qlp Qet Qmq
abbrev QjN:=λN d Q n (st:St)=>∃f c,Iv (QbL N d n f c) Q ((∃a b,st.n=32/\st.s 1920=some (a,.arr false 52 1 (c.map e52) 0)/\st.t 1=.ept 64 b 1 0 0/\st.t 3=.osl 1920 a 1 0 c.length/\st.t 4=vi f/\st.s 64=some (b,.arr true 35 1 [[s96 d.e]] 0))\/(∃b,(st.n=32/\st.t 1=.ept 64 b 1 0 0/\st.t 3=.nsl/\st.t 4=vi f/\st.s 64=some (b,.arr true 35 1 [[s96 d.e]] 0))/\c=[]))
abbrev QiU:=λN c d Q n (st:St)=>∃e b,Iv (Qch N c d n e b) Q ((∃a,st.n=41/\st.s 1408=some (a,.arr false 52 1 (b.map e52) 0)/\st.t 2=s52 c/\st.t 8=vi d.1/\st.t 10=.osl 1408 a 1 0 b.length/\st.t 11=vi e))
abbrev QkG:=λN c d Q n (st:St)=>∃f,Iv (Qb9 N c d n f) Q ((∃a b,st.n=69/\st.s 896=some (a,.arr false 96 3 (c.e.map e96) 0)/\st.t 1=vu d/\st.t 4=.ept 256 b 1 0 0/\st.t 8=.osl 896 a 3 0 c.e.length/\st.t 9=vi f/\st.s 256=some (b,.arr true 35 1 [[.nsl]] 0)))
abbrev Qhk:=λN a Q n (st:St)=>∃b c,Iv (QbK N a n b c) Q ((st.n=22/\st.t 5=vi b/\st.t 10=Xcv a/\st.t 11=vi a.length/\st.t 12=vi c))
abbrev Qgx:=λN a Q n (st:St)=>∃b c,Iv (QaS N a n b c) Q ((st.n=36/\st.t 0=s25 a/\st.t 3=vi b/\st.t 9=s25 a/\st.t 10=vi a.length/\st.t 11=vi c))
abbrev Qgy:=λN b Q n (st:St)=>∃v6 v7,Iv (QaT N b n v6 v7) Q ((∃a,st.n=36/\st.s 1536=some (a,.arr false 52 1 (v7.map e52) 0)/\st.t 6=.osl 1536 a 1 0 v7.length/\st.t 25=s25 b/\st.t 26=vi b.length/\st.t 27=vi v6))
abbrev Qfj:=λN a Q n (st:St)=>∃b,Iv (Qau N a n b) Q ((st.n=19/\st.t 0=s52 a/\st.t 1=.clo (.func 296) [] []/\st.t 7=vi a.length/\st.t 8=vi b))
abbrev Qe6:=λN a c0 Q n (st:St)=>∃b,Iv (Qap N a c0 n b) Q ((st.n=19/\st.t 0=s93 a/\st.t 1=.clo (.func 249) [] [.ept 1000000 0 1 0 0]/\st.t 7=vi a.length/\st.t 8=vi b/\st.s 1000000=some (0,.arr true 52 1 [[vu c0]] 0)))
abbrev QkH:=λN c Q n (st:St)=>∃d b,Iv (Qez N c n d b) Q ((∃a,st.n=59/\st.s 1856=some (a,.arr false 122 4 (b.map XX) 0)/\st.t 6=vi c.k/\st.t 7=.osl 1856 a 4 0 b.length/\st.t 8=vi d))
def g9:(∀N(a0:WG),O1 (Qa7 N a0) 7 [.agg (e35 a0)] (λr=>.fsl 52 1 (r.map e52)))/\(∀N(a0:List Int)(a1:Int)(a2:List Int),O1 (Qcf N a0 a1 a2) 260 [s52 a0,vu a1,s52 a2] (λr=>.tup [s52 r.1,vi r.2]))/\(∀N(a0:WG)(a1:Int),O1 (QcS N a0 a1) 201 [.agg (e35 a0),vu a1] (λr=>.tup [.agg (e35 r.1),vi r.2.1,vi r.2.2.1,vi r.2.2.2]))/\(∀N(a0:IM)(a1:Int),O1 (Qd6 N a0 a1) 100 [.agg (Xor a0),vi a1] (λr=>vi r))/\(∀N(a0:List (List Int)),O1 (QaO N a0) 64 [s25 a0] (λr=>s52 r))/\(∀N(a0:List Int),O1 (Qbk N a0) 177 [s52 a0,.clo (.func 296) [] []] (λr=>vi r))/\(∀N a0 c0,OK (Qa5 N a0 c0) 248 [s93 a0,.clo (.func 249) [] [.ept 1000000 0 1 0 0]] [.arr true 52 1 [[vu c0]] 0] (λr=>vi r) λr=>[.arr true 52 1 [[vu c0]] 0])/\(∀N(a0:List Wr)(a1:Int),O1 (Qhg N a0 a1) 143 [Yz a0,vi a1] (λr=>.tup [Yz r.1,vi r.2])):=by
 refine⟨λN _=>rq f7 [1920] ?_,λN _ _ _=>rk f260 ?_,λN _ _=>rk f201 ?_,λN _ _=>rk f100 ?_,λN _=>rk f64 ?_,λN _=>rk f177 ?_,λN _ _=>rk f248 ?_,λN _ _=>rk f143 ?_⟩<;>(rintro _ hw r hr C _ rfl hwf hf;simp only[f7,f260,f201,f100,f64,f177,f248,f143,Option.get!,Qa7,Qcf,QcS,Qd6,QaO,Qbk,Qa5,Qhg]at hr⊢;repeat' first
 |(refine El.el hr ?_;clear hr;intro hr)
 |(with_reducible intro h;refine XJ hr h ?_;clear hr;intro hr)
 |with_reducible intro _
 |(refine Xp hr ?_;rintro rfl;have hr:=hk;clear hk)
 |simp only[go_sem,simprocAttr,E,XqK,XA,KC,Zk,Xk,X2,XtJ,YB,XtK,VE,XU,Ki]
 |(with_reducible first|apply Xj|apply Xi|apply Xw|apply Xs|apply Xt)
 |((first|with_reducible refine Yy hr ah ?_ ?_|(with_reducible refine Yr hr ?_ ?_;rotate_left;intro p;rotate_right));(·simp only[go_sem,simprocAttr]);intro hp hn hd hr;(try have XtJ:=XqK);(try have XqK:=hd _ e25;simp only[go_sem,simprocAttr]at XqK);(try have YB:=XA);(try have XA:=hd _ e52;simp only[go_sem,simprocAttr]at XA);(try have XtK:=KC);(try have KC:=hd _ e93;simp only[go_sem,simprocAttr]at KC);(try have VE:=Zk);(try have Zk:=hd _ e96;simp only[go_sem,simprocAttr]at Zk);(try have XU:=Xk);(try have Xk:=hd _ XX;simp only[go_sem,simprocAttr]at Xk);(try have Ki:=X2);(try have X2:=hd _ KB;simp only[go_sem,simprocAttr]at X2))
 |(refine Xx ?_ ?_;.first|assumption|omega)
 |(with_reducible first|refine CallX.c ?_ _|refine OK.c hr hw ?_ (λy hr=>?_) _)
 |(with_reducible refine lp (QjN N _) hr N ?_ (λ_ p q=>⟨_,_,_,p,q,?_⟩) _;rintro n1 st ⟨_,_,_,hr,hk,(⟨_,_,E⟩|⟨_,E,z0⟩)⟩<;>(try subst z0)<;>(obtain _|n1:=n1<;>rw[QbL]at hr))
 |refine⟨_,Wz _,_,_,_,hr,hk,?_⟩
 |(with_reducible refine lp (QiU N _ _) hr N ?_ (λ_ p q=>⟨_,_,_,p,q,?_⟩) _;rintro n1 st ⟨_,_,_,hr,hk,⟨_,E⟩⟩<;>(obtain _|n1:=n1<;>rw[Qch]at hr))
 |(with_reducible refine lp (QkG N _ _) hr N ?_ (λ_ p q=>⟨_,_,p,q,?_⟩) _;rintro n1 st ⟨_,_,hr,hk,⟨_,_,E⟩⟩<;>(obtain _|n1:=n1<;>rw[Qb9]at hr))
 |refine⟨_,Wz _,_,_,hr,hk,?_⟩
 |(with_reducible refine lp (Qhk N _) hr N ?_ (λ_ p q=>⟨_,_,_,p,q,?_⟩) _;rintro n1 st ⟨_,_,_,hr,hk,E⟩<;>(obtain _|n1:=n1<;>rw[QbK]at hr))
 |(with_reducible refine lp (Qgx N _) hr N ?_ (λ_ p q=>⟨_,_,_,p,q,?_⟩) _;rintro n1 st ⟨_,_,_,hr,hk,E⟩<;>(obtain _|n1:=n1<;>rw[QaS]at hr))
 |(with_reducible refine lp (Qgy N _) hr N ?_ (λ_ p q=>⟨_,_,_,p,q,?_⟩) _;rintro n2 st ⟨_,_,_,hr,hk,⟨_,E⟩⟩<;>(obtain _|n2:=n2<;>rw[QaT]at hr))
 |(with_reducible refine lp (Qfj N _) hr N ?_ (λ_ p q=>⟨_,_,p,q,?_⟩) _;rintro n1 st ⟨_,_,hr,hk,E⟩<;>(obtain _|n1:=n1<;>rw[Qau]at hr))
 |(with_reducible refine lp (Qe6 N _ _) hr N ?_ (λ_ p q=>⟨_,_,p,q,?_⟩) _;rintro n1 st ⟨_,_,hr,hk,E⟩<;>(obtain _|n1:=n1<;>rw[Qap]at hr))
 |(with_reducible refine lp (QkH N _) hr N ?_ (λ_ p q=>⟨_,_,_,p,q,?_⟩) _;rintro n1 st ⟨_,_,_,hr,hk,⟨_,E⟩⟩<;>(obtain _|n1:=n1<;>rw[Qez]at hr))
 |refine dq 201 9 hf [(2,[],[256]),(3,[],[256]),(4,[],[256]),(5,[],[256]),(6,[],[256]),(7,[],[256]),(8,[256],[])] ?_
 |(refine Xp hr ?_;rintro rfl;with_reducible refine XT ?_)
 |exact YH hr
 |((first|refine XJ (c:=true) hr rfl ?_|refine XJ (c:=false) hr rfl ?_|refine XJ hr ah ?_);intro hr))
abbrev Qmr:=g9.1
abbrev Qlq:=g9.2.1
abbrev Qnh:=g9.2.2.1
abbrev QhC:=g9.2.2.2.1
abbrev QgT:=g9.2.2.2.2.1
abbrev QfQ:=g9.2.2.2.2.2.1
abbrev Qfk:=g9.2.2.2.2.2.2.1
abbrev Qni:=g9.2.2.2.2.2.2.2
attribute [instance] Qmr Qlq Qnh QhC QgT QfQ Qfk Qni
def g8:(∀N(a0:WR),O1 (QfW N a0) 55 [.agg (e24 a0)] (λr=>.tup [.agg (e42 r.1),vi r.2]))/\(∀N(a0:List Int)(a1:Int),O1 (QfK N a0 a1) 244 [s52 a0,vu a1] (λr=>.tup [vi r.1,vi r.2]))/\(∀N(a0:WR)(a1:Int)(a2:Int),O1 (Qbv N a0 a1 a2) 276 [.agg (e24 a0),vi a1,vi a2] (λr=>.tup [vu r.1,vi r.2]))/\(∀N(a0:Wu)(a1:Int),O1 (QbT N a0 a1) 258 [.agg (Jz a0),vi a1] (λr=>.v (.bool r)))/\(∀N(a0:Iu),O1 (Qb8 N a0) 202 [.agg (XqI a0)] (λr=>.tup [vu r.1,vi r.2]))/\(∀N a0 a1,OK (QbX N a0 a1) 61 [.agg (e44 a0),.ept 1000000 0 2 0 0] [.arr true 62 2 [[s3 a1.L,vi a1.at_]] 0] (λr=>vu r.1) λr=>[.arr true 62 2 [[s3 r.2.L,vi r.2.at_]] 0])/\(∀N(a0:Wx),O1 (Qdc N a0) 84 [.agg (e59 a0)] (λr=>.v (.bool r)))/\(∀N(a0:List Int)(a1:Int),O1 (QgY N a0 a1) 275 [s52 a0,vu a1] (λr=>.tup [vi r.1,vi r.2]))/\(∀N(a0:List Int)(a1:Int),O1 (Qai N a0 a1) 48 [s52 a0,vu a1] (λr=>.v (.bool r)))/\(∀N(a0:Int)(a1:Int),O1 (QdP N a0 a1) 279 [vu a0,vi a1] (λr=>.v (.bool r)))/\(∀N(a0:Wh),O1 (Qg0 N a0) 72 [.agg (e28 a0)] (λr=>.agg (e28 r)))/\(∀N(a0:Ws),O1 (Qg1 N a0) 77 [.agg (e32 a0)] (λr=>.agg [.fsl 158 3 (r.S.map KB),Xcu r.x,s3 r.i]))/\(∀N(a0:WR),O1 (Qir N a0) 83 [.agg (e24 a0)] (λr=>.tup [.agg (e28 r.1),vi r.2])):=by
 refine⟨λN _=>rk f55 ?_,λN _ _=>rk f244 ?_,λN _ _ _=>rk f276 ?_,λN _ _=>rk f258 ?_,λN _=>rk f202 ?_,λN _ _=>rk f61 ?_,λN _=>rk f84 ?_,λN _ _=>rk f275 ?_,λN _ _=>rk f48 ?_,λN _ _=>rk f279 ?_,λN _=>rk f72 ?_,λN _=>rq f77 [320] ?_,λN _=>rk f83 ?_⟩<;>(rintro _ hw r hr C _ rfl hwf hf;have hse:=@Z3 _ hw;simp only[f55,f244,f276,f258,f202,f61,f84,f275,f48,f279,f72,f77,f83,Option.get!,QfW,QfK,Qbv,QbT,Qb8,QbX,Qdc,QgY,Qai,QdP,Qg0,Qg1,Qir]at hr⊢;repeat' first
 |(refine El.el hr ?_;clear hr;intro hr)
 |(with_reducible intro h;refine XJ hr h ?_;clear hr;intro hr)
 |with_reducible intro _
 |simp only[go_sem,simprocAttr,XA,Xk,hse]
 |(with_reducible first|apply Xj|apply Xi|apply Xw|apply Xs|apply Xt)
 |((first|with_reducible refine Yy hr ah ?_ ?_|(with_reducible refine Yr hr ?_ ?_;rotate_left;intro p;rotate_right));(·simp only[go_sem,simprocAttr,hse]);intro hp hn hd hr;(try have XA:=hd _ e52;simp only[go_sem,simprocAttr]at XA);(try have Xk:=hd _ XX;simp only[go_sem,simprocAttr]at Xk))
 |(refine Xx ?_ ?_;.first|assumption|omega)
 |(with_reducible first|refine CallX.c ?_ _|refine OK.c hr hw ?_ (λy hr=>?_) _|refine OK.d hr hw ?_ (λy hr=>?_) _)
 |refine dq 61 6 hf [(0,[],[1000000]),(1,[],[1000000]),(4,[1000000],[]),(5,[],[1000000]),(6,[],[1000000]),(7,[],[1000000]),(8,[1000000],[])] ?_
 |refine dq 61 10 hf [(0,[],[1000000]),(1,[],[1000000]),(4,[1000000],[])] ?_
 |refine dq 61 11 hf [(0,[],[1000000]),(1,[],[1000000]),(2,[],[1000000]),(3,[],[1000000]),(7,[1000000],[])] ?_
 |refine dq 72 1 hf [(2,[320],[]),(3,[],[320]),(4,[],[320]),(5,[512],[]),(6,[],[512]),(7,[64],[]),(9,[64],[])] ?_
 |refine dq 77 1 hf [(2,[320],[]),(3,[],[320]),(4,[],[320]),(5,[512],[]),(6,[],[320,512]),(7,[],[320,512]),(8,[704],[]),(10,[128],[])] ?_
 |refine dq 83 6 hf [(0,[],[1728]),(1,[],[1728]),(4,[1728],[]),(6,[128],[])] ?_
 |refine dp ?_
 |(refine Xp hr ?_;rintro rfl;with_reducible refine XT ?_)
 |exact YH hr)
abbrev Qnj:=g8.1
abbrev Qlr:=g8.2.1
abbrev QjO:=g8.2.2.1
abbrev QiV:=g8.2.2.2.1
abbrev QkI:=g8.2.2.2.2.1
abbrev QiW:=g8.2.2.2.2.2.1
abbrev QkJ:=g8.2.2.2.2.2.2.1
abbrev Qls:=g8.2.2.2.2.2.2.2.1
abbrev QgF:=g8.2.2.2.2.2.2.2.2.1
abbrev Qnk:=g8.2.2.2.2.2.2.2.2.2.1
abbrev Qlt:=g8.2.2.2.2.2.2.2.2.2.2.1
abbrev Qlu:=g8.2.2.2.2.2.2.2.2.2.2.2.1
abbrev QnK:=g8.2.2.2.2.2.2.2.2.2.2.2.2
attribute [instance] Qnj Qlr QjO QiV QkI QiW QkJ Qls QgF Qnk Qlt Qlu QnK
def g6:(∀N a0,OK (Qfb N a0) 53 [.ept 1000000 0 2 0 0] [.arr true 62 2 [[s3 a0.L,vi a0.at_]] 0] (λr=>.agg (e24 r.1)) λr=>[.arr true 62 2 [[s3 r.2.L,vi r.2.at_]] 0])/\(∀N(a0:WR),O1 (Qdq N a0) 35 [.agg (e24 a0)] (λr=>vi r))/\(∀N(a0:Wx),O1 (Qcv N a0) 245 [.agg (e59 a0)] (λr=>.tup [vu r.1,vi r.2]))/\(∀N(a0:List Int)(a1:Int)(a2:Int),O1 (Qc6 N a0 a1 a2) 92 [s52 a0,vu a1,vi a2] (λr=>.tup [s52 r.1,vi r.2]))/\(∀N(a0:List Wr)(a1:Int)(a2:Int),O1 (QbU N a0 a1 a2) 300 [Yz a0,vi a1,vi a2] (λr=>.tup [.fsl 122 4 (r.1.map XX),vi r.2]))/\(∀N(a0:WG)(a1:Int)(a2:Int),O1 (QdI N a0 a1 a2) 216 [.agg (e35 a0),vi a1,vi a2] (λr=>.tup [vu r.1,vi r.2]))/\(∀N(a0:WR),O1 (QeR N a0) 154 [.agg (e24 a0)] (λr=>vi r))/\(∀N(a0:WR)(a1:Int)(a2:Int),O1 (Qdd N a0 a1 a2) 89 [.agg (e24 a0),vi a1,vi a2] (λr=>.tup [vu r.1,vi r.2]))/\(∀N(a0:List Int)(a1:Int)(a2:Int),O1 (QgM N a0 a1 a2) 294 [s52 a0,vu a1,vi a2] (λr=>.tup [.fsl 52 1 (r.1.map e52),vi r.2]))/\(∀N(a0:List Int)(a1:Int),O1 (Qba N a0 a1) 271 [s3 a0,vi a1] (λr=>.v (.bool r)))/\(∀N(a0:List Int)(a1:Int)(a2:List Int),O1 (Qgo N a0 a1 a2) 160 [s52 a0,vu a1,s52 a2] (λr=>.tup [s52 r.1,vi r.2]))/\(∀N(a0:Ws),O1 (Qgu N a0) 73 [.agg (e32 a0)] (λr=>.agg (e32 r)))/\(∀N(a0:WG),O1 (Qg2 N a0) 78 [.agg (e35 a0)] (λr=>.agg [.fsl 96 3 (r.e.map e96)])):=by
 refine⟨λN _=>rk f53 ?_,λN _=>rk f35 ?_,λN _=>rk f245 ?_,λN _ _ _=>rk f92 ?_,λN _ _ _=>rq f300 [1216] ?_,λN _ _ _=>rk f216 ?_,λN _=>rk f154 ?_,λN _ _ _=>rk f89 ?_,λN _ _ _=>rq f294 [1728] ?_,λN _ _=>rk f271 ?_,λN _ _ _=>rk f160 ?_,λN _=>rk f73 ?_,λN _=>rq f78 [320] ?_⟩<;>(rintro _ hw r hr C _ rfl hwf hf;have hse:=@Z3 _ hw;simp only[f53,f35,f245,f92,f300,f216,f154,f89,f294,f271,f160,f73,f78,Option.get!,Qfb,Qdq,Qcv,Qc6,QbU,QdI,QeR,Qdd,QgM,Qba,Qgo,Qgu,Qg2]at hr⊢;repeat' first
 |(refine El.el hr ?_;clear hr;intro hr)
 |(with_reducible intro h;refine XJ hr h ?_;clear hr;intro hr)
 |with_reducible intro _
 |simp only[go_sem,simprocAttr,hl3,Zk,hse,Wl,Wo,WD]
 |(with_reducible first|apply Xj|apply Xi|apply Xw|apply Xs|apply Xt)
 |((first|with_reducible refine Yy hr ah ?_ ?_|(with_reducible refine Yr hr ?_ ?_;rotate_left;intro p;rotate_right));(·simp only[go_sem,simprocAttr,hse,Wl,Wo,WD]);intro hp hn hd hr;(try have hl3:=hd _ e3;simp only[go_sem,simprocAttr]at hl3);(try have Zk:=hd _ e96;simp only[go_sem,simprocAttr]at Zk))
 |(refine Xx ?_ ?_;.first|assumption|omega)
 |(with_reducible first|refine CallX.c ?_ _|refine OK.c hr hw ?_ (λy hr=>?_) _|refine OK.d hr hw ?_ (λy hr=>?_) _)
 |refine dq 53 1 hf [(0,[192],[512,1000000]),(1,[],[192,512]),(2,[1000000],[192,512]),(3,[],[512,1000000]),(4,[],[512,1000000]),(5,[512],[192,1000000]),(6,[],[192,512,1000000]),(7,[1000000],[192,512]),(8,[],[192]),(9,[],[192]),(11,[128],[])] ?_
 |refine dq 73 1 hf [(2,[320],[]),(3,[],[320]),(4,[],[320]),(5,[512],[]),(6,[],[320,512]),(7,[],[320,512]),(8,[704],[]),(10,[128],[])] ?_
 |(refine Xp hr ?_;rintro rfl;with_reducible refine XT ?_)
 |exact YH hr
 |rw[Uf ai]
 |omega
 |rw[Uf (by simp only[WM,Ug,Wo];omega)])
abbrev QiX:=g6.1
abbrev QhQ:=g6.2.1
abbrev QkK:=g6.2.2.1
abbrev Qms:=g6.2.2.2.1
abbrev Qlv:=g6.2.2.2.2.1
abbrev Qnl:=g6.2.2.2.2.2.1
abbrev Qid:=g6.2.2.2.2.2.2.1
abbrev QkL:=g6.2.2.2.2.2.2.2.1
abbrev Qmt:=g6.2.2.2.2.2.2.2.2.1
abbrev Qg9:=g6.2.2.2.2.2.2.2.2.2.1
abbrev Qlw:=g6.2.2.2.2.2.2.2.2.2.2.1
abbrev QjP:=g6.2.2.2.2.2.2.2.2.2.2.2.1
abbrev Qlx:=g6.2.2.2.2.2.2.2.2.2.2.2.2
attribute [instance] QiX QhQ QkK Qms Qlv Qnl Qid QkL Qmt Qg9 Qlw QjP Qlx
def g7:(∀N(a0:WR),O1 (QfV N a0) 108 [.agg (e24 a0)] (λr=>.tup [.agg (e28 r.1),vi r.2]))/\(∀N(a0:WR)(a1:Int),O1 (Qb6 N a0 a1) 162 [.agg (e24 a0),vu a1] (λr=>.tup [vi r.1,vi r.2.1,vi r.2.2]))/\(∀N(a0:Wx),O1 (QcI N a0) 165 [.agg (e59 a0)] (λr=>vi r))/\(∀N(a0:Wx)(a1:Int),O1 (QbO N a0 a1) 43 [.agg (e59 a0),vi a1] (λr=>.v (.bool r)))/\(∀N(a0:WR),O1 (QfL N a0) 301 [.agg (e24 a0)] (λr=>vi r))/\(∀N(a0:WQ)(a1:Int),O1 (QgL N a0 a1) 219 [.agg (e42 a0),vu a1] (λr=>vi r))/\(∀N(a0:Wr)(a1:WR),O1 (Qdy N a0 a1) 234 [.agg (XhX a0),.agg (e24 a1)] (λr=>.v (.bool r)))/\(∀N(a0:WR)(a1:Int),O1 (Qck N a0 a1) 169 [.agg (e24 a0),vu a1] (λr=>.tup [vi r.1,vi r.2.1,vi r.2.2]))/\(∀N(a0:Int)(a1:Int),O1 (QfT N a0 a1) 178 [vu a0,vu a1] (λr=>.v (.bool r)))/\(∀N(a0:List Wr)(a1:Int)(a2:List Wr),O1 (QgC N a0 a1 a2) 241 [Yz a0,vi a1,Yz a2] (λr=>.tup [.fsl 122 4 (r.1.map XX),vi r.2]))/\(∀N(a0:Wh)(a1:List Int)(a2:Int),O1 (Qgg N a0 a1 a2) 161 [.agg (e28 a0),s52 a1,vi a2] (λr=>.tup [.agg (e28 r.1),vi r.2]))/\(∀N(a0:WG),O1 (Qf3 N a0) 74 [.agg (e35 a0)] (λr=>.agg (e35 r)))/\(∀N(a0:WR),O1 (Qhp N a0) 238 [.agg (e24 a0)] (λr=>vi r)):=by
 refine⟨λN _=>rk f108 ?_,λN _ _=>rk f162 ?_,λN _=>rk f165 ?_,λN _ _=>rk f43 ?_,λN _=>rk f301 ?_,λN _ _=>rk f219 ?_,λN _ _=>rk f234 ?_,λN _ _=>rk f169 ?_,λN _ _=>rk f178 ?_,λN _ _ _=>rq f241 [1920] ?_,λN _ _ _=>rk f161 ?_,λN _=>rk f74 ?_,λN _=>rk f238 ?_⟩<;>(rintro _ hw r hr C _ rfl hwf hf;simp only[f108,f162,f165,f43,f301,f219,f234,f169,f178,f241,f161,f74,f238,Option.get!,QfV,Qb6,QcI,QbO,QfL,QgL,Qdy,Qck,QfT,QgC,Qgg,Qf3,Qhp]at hr⊢;repeat' first
 |(refine El.el hr ?_;clear hr;intro hr)
 |(with_reducible intro h;refine XJ hr h ?_;clear hr;intro hr)
 |with_reducible intro _
 |simp only[go_sem,simprocAttr,Wl,Wo,WD]
 |(with_reducible first|apply Xj|apply Xi|apply Xw|apply Xs|apply Xt)
 |(refine Xx ?_ ?_;.first|assumption|omega)
 |(with_reducible first|refine CallX.c ?_ _|refine OK.c hr hw ?_ (λy hr=>?_) _)
 |refine dq 108 3 hf [(0,[],[896,1088]),(1,[],[1088]),(2,[],[1088]),(3,[],[1088]),(4,[],[1088]),(5,[],[1088]),(6,[896],[1088]),(7,[],[896]),(8,[],[896]),(9,[1088],[896]),(11,[128],[])] ?_
 |refine dp ?_
 |(refine Xp hr ?_;rintro rfl;with_reducible refine XT ?_)
 |exact YH hr
 |rw[Uf ai]
 |omega
 |rw[Uf (by simp only[WM,Ug,Wo];omega)])
abbrev Qnm:=g7.1
abbrev QnL:=g7.2.1
abbrev Qmu:=g7.2.2.1
abbrev QjQ:=g7.2.2.2.1
abbrev Qly:=g7.2.2.2.2.1
abbrev QkM:=g7.2.2.2.2.2.1
abbrev QhR:=g7.2.2.2.2.2.2.1
abbrev QnS:=g7.2.2.2.2.2.2.2.1
abbrev Qie:=g7.2.2.2.2.2.2.2.2.1
abbrev Qnn:=g7.2.2.2.2.2.2.2.2.2.1
abbrev QiY:=g7.2.2.2.2.2.2.2.2.2.2.1
abbrev QkN:=g7.2.2.2.2.2.2.2.2.2.2.2.1
abbrev Qmv:=g7.2.2.2.2.2.2.2.2.2.2.2.2
attribute [instance] Qnm QnL Qmu QjQ Qly QkM QhR QnS Qie Qnn QiY QkN Qmv
end Go.Sx
