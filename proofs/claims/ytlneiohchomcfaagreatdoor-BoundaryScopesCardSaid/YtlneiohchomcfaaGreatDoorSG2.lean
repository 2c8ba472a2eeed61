import Derived.Test.YtlneiohchomcfaaGreatDoorSG0
import Derived.Test.YtlneiohchomcfaaGreatDoorSG1
set_option linter.all false
namespace Go.Sx
open Go.Proofs Tryz
set_option maxRecDepth 10000
set_option maxHeartbeats 100000000
abbrev Qi8:=λN b Q n (st:St)=>∃c,Iv (QdG N b n c) Q ((∃a,st.n=174/\st.t 1=.ept 64 a 3 0 0/\st.t 3=vi c/\st.s 64=some (a,.arr true 32 3 [e32 b] 0)))
abbrev Qi9:=λN b Q n (st:St)=>∃c v6,Iv (QaD N b n c v6) Q ((∃a,st.n=174/\st.t 1=.ept 64 a 3 0 0/\st.t 4=vi c/\st.t 5=vi v6/\st.s 64=some (a,.arr true 32 3 [e32 b] 0)))
abbrev Qja:=λN b Q n (st:St)=>∃v10 v11,Iv (Qax N b n v10 v11) Q ((∃a,st.n=174/\st.t 1=.ept 64 a 3 0 0/\st.t 7=vi v10/\st.t 8=vi v11/\st.s 64=some (a,.arr true 32 3 [e32 b] 0)))
abbrev Qjb:=λN c Q n (st:St)=>∃a,Iv (Qc4 N c n a) Q ((∃b,st.n=174/\st.t 1=.ept 64 b 3 0 0/\st.t 10=vi a/\st.s 64=some (b,.arr true 32 3 [e32 c] 0)))
abbrev Qjc:=λN a b Q n (st:St)=>∃c,Iv (QbL N a b n c) Q ((st.n=31/\st.t 1=vi a/\st.t 5=Xon b/\st.t 6=vi c))
abbrev QkY:=λN c d Q n (st:St)=>∃f,Iv (Qcj N c d n f) Q ((∃a b,st.n=69/\st.s 896=some (a,.arr false 145 3 (c.e.map Z6) 0)/\st.t 1=vu d/\st.t 4=.ept 256 b 1 0 0/\st.t 8=.osl 896 a 3 0 c.e.length/\st.t 9=vi f/\st.s 256=some (b,.arr true 35 1 [[.nsl]] 0)))
abbrev QfC:=λN a Q n (st:St)=>∃b,Iv (QaB N a n b) Q ((st.n=19/\st.t 0=s49 a/\st.t 1=.clo (.func 329) [] []/\st.t 7=vi a.length/\st.t 8=vi b))
abbrev Qfo:=λN a c0 Q n (st:St)=>∃b,Iv (Qas N a c0 n b) Q ((st.n=19/\st.t 0=VE a/\st.t 1=.clo (.func 267) [] [.ept 1000000 0 1 0 0]/\st.t 7=vi a.length/\st.t 8=vi b/\st.s 1000000=some (0,.arr true 49 1 [[vu c0]] 0)))
abbrev Qgq:=λN a Q n (st:St)=>∃b,Iv (QaK N a n b) Q ((st.n=19/\st.t 0=s3 a/\st.t 1=.clo (.func 123) [] []/\st.t 7=vi a.length/\st.t 8=vi b))
abbrev QgP:=λN a Q n (st:St)=>∃b c,Iv (QaX N a n b c) Q ((st.n=36/\st.t 0=s25 a/\st.t 3=vi b/\st.t 9=s25 a/\st.t 10=vi a.length/\st.t 11=vi c))
abbrev QgQ:=λN b Q n (st:St)=>∃v6 v7,Iv (QaY N b n v6 v7) Q ((∃a,st.n=36/\st.s 1536=some (a,.arr false 49 1 (v7.map e49) 0)/\st.t 6=.osl 1536 a 1 0 v7.length/\st.t 25=s25 b/\st.t 26=vi b.length/\st.t 27=vi v6))
abbrev QkZ:=λN c Q n (st:St)=>∃d b,Iv (QeR N c n d b) Q ((∃a,st.n=59/\st.s 1856=some (a,.arr false 139 4 (b.map X0) 0)/\st.t 6=vi c.k/\st.t 7=.osl 1856 a 4 0 b.length/\st.t 8=vi d))
def g9:(∀N(a0:Wp),O1 (Qco N a0) 25 [.agg (e32 a0)] (λr=>.v (.bool r)))/\(∀N(a0:List Ws)(a1:Int),O1 (Qbt N a0 a1) 289 [YB a0,vi a1] (λr=>vi r))/\(∀N(a0:Wu)(a1:Int),O1 (Qc7 N a0 a1) 188 [.agg (e35 a0),vu a1] (λr=>.tup [.agg (e35 r.1),vi r.2.1,vi r.2.2.1,vi r.2.2.2]))/\(∀N(a0:List Int),O1 (Qbs N a0) 217 [s49 a0,.clo (.func 329) [] []] (λr=>vi r))/\(∀N a0 c0,OK (Qbb N a0 c0) 266 [VE a0,.clo (.func 267) [] [.ept 1000000 0 1 0 0]] [.arr true 49 1 [[vu c0]] 0] (λr=>vi r) λr=>[.arr true 49 1 [[vu c0]] 0])/\(∀N(a0:List Int),O1 (Qb3 N a0) 210 [s3 a0,.clo (.func 123) [] []] (λr=>vi r))/\(∀N(a0:List (List Int)),O1 (QaT N a0) 134 [s25 a0] (λr=>s49 r))/\(∀N(a0:List Ws)(a1:Int),O1 (QhB N a0 a1) 357 [YB a0,vi a1] (λr=>.tup [YB r.1,vi r.2])):=by
 refine⟨λN _=>rk f25 ?_,λN _ _=>rk f289 ?_,λN _ _=>rk f188 ?_,λN _=>rk f217 ?_,λN _ _=>rk f266 ?_,λN _=>rk f210 ?_,λN _=>rk f134 ?_,λN _ _=>rk f357 ?_⟩<;>(rintro _ hw r hr C _ rfl hwf hf;have hse:=@ZZ _ hw;simp only[f25,f289,f188,f217,f266,f210,f134,f357,Option.get!,Qco,Qbt,Qc7,Qbs,Qbb,Qb3,QaT,QhB]at hr⊢;repeat' first
 |(refine El.el hr ?_;clear hr;intro hr)
 |(with_reducible intro h;refine XH hr h ?_;clear hr;intro hr)
 |with_reducible intro _
 |(refine Xq hr ?_;rintro rfl;have hr:=hk;clear hk)
 |simp only[go_sem,simprocAttr,E,hl3,XqB,XB,Zj,Y9,Xm,X2,Ya,XaP,hm3,XtX,YH,Xq1,Xq2,XY,Ky,Kz,Xq3,hse]
 |(with_reducible first|apply Xi|apply Xh|apply Xt|apply Xx|apply Xy)
 |((first|with_reducible refine Yy hr ag ?_ ?_|(with_reducible refine Yt hr ?_ ?_;rotate_left;intro p;rotate_right));(·simp only[go_sem,simprocAttr,hse]);intro hp hn hd hr;(try have hm3:=hl3);(try have hl3:=hd _ e3;simp only[go_sem,simprocAttr]at hl3);(try have XtX:=XqB);(try have XqB:=hd _ e25;simp only[go_sem,simprocAttr]at XqB);(try have YH:=XB);(try have XB:=hd _ e49;simp only[go_sem,simprocAttr]at XB);(try have Xq1:=Zj);(try have Zj:=hd _ VD;simp only[go_sem,simprocAttr]at Zj);(try have Xq2:=Y9);(try have Y9:=hd _ Vh;simp only[go_sem,simprocAttr]at Y9);(try have XY:=Xm);(try have Xm:=hd _ X0;simp only[go_sem,simprocAttr]at Xm);(try have Ky:=X2);(try have X2:=hd _ KN;simp only[go_sem,simprocAttr]at X2);(try have Kz:=Ya);(try have Ya:=hd _ Z6;simp only[go_sem,simprocAttr]at Ya);(try have Xq3:=XaP);(try have XaP:=hd _ Xjd;simp only[go_sem,simprocAttr]at XaP))
 |(refine Xu ?_ ?_;.first|assumption|omega)
 |(with_reducible first|refine CallX.c ?_ _|refine OK.c hr hw ?_ (λy hr=>?_) _|refine OK.d hr hw ?_ (λy hr=>?_) _)
 |(with_reducible refine lp (Qi8 N _) hr N ?_ (λ_ p q=>⟨_,_,p,q,?_⟩) _;rintro n1 st ⟨_,_,hr,hk,⟨_,E⟩⟩<;>(obtain _|n1:=n1<;>rw[QdG]at hr))
 |refine⟨_,WD _,_,_,hr,hk,?_⟩
 |(with_reducible refine lp (Qi9 N _) hr N ?_ (λ_ p q=>⟨_,_,_,p,q,?_⟩) _;rintro n2 st ⟨_,_,_,hr,hk,⟨_,E⟩⟩<;>(obtain _|n2:=n2<;>rw[QaD]at hr))
 |refine⟨_,WD _,_,_,_,hr,hk,?_⟩
 |(with_reducible refine lp (Qja N _) hr N ?_ (λ_ p q=>⟨_,_,_,p,q,?_⟩) _;rintro n3 st ⟨_,_,_,hr,hk,⟨_,E⟩⟩<;>(obtain _|n3:=n3<;>rw[Qax]at hr))
 |(with_reducible refine lp (Qjb N _) hr N ?_ (λ_ p q=>⟨_,_,p,q,?_⟩) _;rintro n4 st ⟨_,_,hr,hk,⟨_,E⟩⟩<;>(obtain _|n4:=n4<;>rw[Qc4]at hr))
 |(with_reducible refine lp (Qjc N _ _) hr N ?_ (λ_ p q=>⟨_,_,p,q,?_⟩) _;rintro n1 st ⟨_,_,hr,hk,E⟩<;>(obtain _|n1:=n1<;>rw[QbL]at hr))
 |(with_reducible refine lp (QkY N _ _) hr N ?_ (λ_ p q=>⟨_,_,p,q,?_⟩) _;rintro n1 st ⟨_,_,hr,hk,⟨_,_,E⟩⟩<;>(obtain _|n1:=n1<;>rw[Qcj]at hr))
 |(with_reducible refine lp (QfC N _) hr N ?_ (λ_ p q=>⟨_,_,p,q,?_⟩) _;rintro n1 st ⟨_,_,hr,hk,E⟩<;>(obtain _|n1:=n1<;>rw[QaB]at hr))
 |(with_reducible refine lp (Qfo N _ _) hr N ?_ (λ_ p q=>⟨_,_,p,q,?_⟩) _;rintro n1 st ⟨_,_,hr,hk,E⟩<;>(obtain _|n1:=n1<;>rw[Qas]at hr))
 |(with_reducible refine lp (Qgq N _) hr N ?_ (λ_ p q=>⟨_,_,p,q,?_⟩) _;rintro n1 st ⟨_,_,hr,hk,E⟩<;>(obtain _|n1:=n1<;>rw[QaK]at hr))
 |(with_reducible refine lp (QgP N _) hr N ?_ (λ_ p q=>⟨_,_,_,p,q,?_⟩) _;rintro n1 st ⟨_,_,_,hr,hk,E⟩<;>(obtain _|n1:=n1<;>rw[QaX]at hr))
 |(with_reducible refine lp (QgQ N _) hr N ?_ (λ_ p q=>⟨_,_,_,p,q,?_⟩) _;rintro n2 st ⟨_,_,_,hr,hk,⟨_,E⟩⟩<;>(obtain _|n2:=n2<;>rw[QaY]at hr))
 |(with_reducible refine lp (QkZ N _) hr N ?_ (λ_ p q=>⟨_,_,_,p,q,?_⟩) _;rintro n1 st ⟨_,_,_,hr,hk,⟨_,E⟩⟩<;>(obtain _|n1:=n1<;>rw[QeR]at hr))
 |refine dq 188 9 hf [(2,[],[256]),(3,[],[256]),(4,[],[256]),(5,[],[256]),(6,[],[256]),(7,[],[256]),(8,[256],[])] ?_
 |refine dp ?_
 |(refine Xq hr ?_;rintro rfl;with_reducible refine XQ ?_)
 |exact YE hr
 |((first|refine XH (c:=true) hr rfl ?_|refine XH (c:=false) hr rfl ?_|refine XH hr ag ?_);intro hr))
abbrev QlJ:=g9.1
abbrev QlK:=g9.2.1
abbrev QnE:=g9.2.2.1
abbrev Qge:=g9.2.2.2.1
abbrev QfD:=g9.2.2.2.2.1
abbrev QgK:=g9.2.2.2.2.2.1
abbrev Qhd:=g9.2.2.2.2.2.2.1
abbrev QnF:=g9.2.2.2.2.2.2.2
attribute [instance] QlJ QlK QnE Qge QfD QgK Qhd QnF
abbrev Qj4:=λN d Q n (st:St)=>∃f c,Iv (QbX N d n f c) Q ((∃a b,st.n=32/\st.s 1920=some (a,.arr false 49 1 (c.map e49) 0)/\st.t 1=.ept 64 b 1 0 0/\st.t 3=.osl 1920 a 1 0 c.length/\st.t 4=vi f/\st.s 64=some (b,.arr true 35 1 [[JU d.e]] 0))\/(∃b,(st.n=32/\st.t 1=.ept 64 b 1 0 0/\st.t 3=.nsl/\st.t 4=vi f/\st.s 64=some (b,.arr true 35 1 [[JU d.e]] 0))/\c=[]))
abbrev Qjd:=λN c d Q n (st:St)=>∃e b,Iv (Qcu N c d n e b) Q ((∃a,st.n=41/\st.s 1408=some (a,.arr false 49 1 (b.map e49) 0)/\st.t 2=s49 c/\st.t 8=vi d.1/\st.t 10=.osl 1408 a 1 0 b.length/\st.t 11=vi e))
abbrev Qje:=λN b a Q n (st:St)=>∃c d,Iv (Qay N b a n c d) Q ((st.n=49/\st.t 0=vu b/\st.t 1=s3 a/\st.t 6=vi c/\st.t 12=s3 a/\st.t 13=vi a.length/\st.t 14=vi d))
abbrev Qjf:=λN b Q n (st:St)=>∃c v6 v7,Iv (Qaz N b n c v6 v7) Q ((∃a,st.n=49/\st.s 2624=some (a,.arr false 49 1 (v7.map e49) 0)/\st.t 0=vu c/\st.t 9=.osl 2624 a 1 0 v7.length/\st.t 29=s3 b/\st.t 30=vi b.length/\st.t 31=vi v6)\/((st.n=49/\st.t 0=vu c/\st.t 9=.nsl/\st.t 29=s3 b/\st.t 30=vi b.length/\st.t 31=vi v6)/\v7=[]))
abbrev Qep:=λN a Q n (st:St)=>∃b,Iv (Qak N a n b) Q ((st.n=19/\st.t 0=Xly a/\st.t 1=.clo (.func 216) [] []/\st.t 7=vi a.length/\st.t 8=vi b))
abbrev QhE:=λN a Q n (st:St)=>∃b c,Iv (QbU N a n b c) Q ((st.n=22/\st.t 5=vi b/\st.t 10=Xcy a/\st.t 11=vi a.length/\st.t 12=vi c))
abbrev QeU:=λN a Q n (st:St)=>∃b,Iv (Qan N a n b) Q ((st.n=19/\st.t 0=JU a/\st.t 1=.clo (.func 128) [] []/\st.t 7=vi a.length/\st.t 8=vi b))
abbrev Qj5:=λN b a Q n (st:St)=>∃c,Iv (Qek N b a n c) Q ((st.n=23/\st.t 1=vi b/\st.t 10=Xon a/\st.t 11=vi a.length/\st.t 12=vi c))
def g10:(∀N(a0:Wu),O1 (QbC N a0) 27 [.agg (e35 a0)] (λr=>.fsl 49 1 (r.map e49)))/\(∀N(a0:List Int)(a1:Int)(a2:List Int),O1 (Qcq N a0 a1 a2) 171 [s49 a0,vu a1,s49 a2] (λr=>.tup [s49 r.1,vi r.2]))/\(∀N(a0:Int)(a1:List Int),O1 (Qdf N a0 a1) 284 [vu a0,s3 a1] (λr=>.tup [s49 r.1,vi r.2]))/\(∀N(a0:List UT),O1 (Qaw N a0) 270 [Xly a0,.clo (.func 216) [] []] (λr=>vi r))/\(∀N(a0:IG)(a1:Int),O1 (Qds N a0 a1) 126 [.agg (Xoi a0),vi a1] (λr=>vi r))/\(∀N(a0:List W5),O1 (QaU N a0) 212 [JU a0,.clo (.func 128) [] []] (λr=>vi r))/\(∀N(a0:List Ws)(a1:Int),O1 (QdZ N a0 a1) 349 [YB a0,vi a1] (λr=>vi r)):=by
 refine⟨λN _=>rq f27 [1920] ?_,λN _ _ _=>rk f171 ?_,λN _ _=>rk f284 ?_,λN _=>rk f270 ?_,λN _ _=>rk f126 ?_,λN _=>rk f212 ?_,λN _ _=>rk f349 ?_⟩<;>(rintro _ hw r hr C _ rfl hwf hf;simp only[f27,f171,f284,f270,f126,f212,f349,Option.get!,QbC,Qcq,Qdf,Qaw,Qds,QaU,QdZ]at hr⊢;repeat' first
 |(refine El.el hr ?_;clear hr;intro hr)
 |(with_reducible intro h;refine XH hr h ?_;clear hr;intro hr)
 |with_reducible intro _
 |(refine Xq hr ?_;rintro rfl;have hr:=hk;clear hk)
 |simp only[go_sem,simprocAttr,E,hl3,XB,X2,Ya,XbH,XaP]
 |(with_reducible first|apply Xi|apply Xh|apply Xt)
 |((first|with_reducible refine Yy hr ag ?_ ?_|(with_reducible refine Yt hr ?_ ?_;rotate_left;intro p;rotate_right));(·simp only[go_sem,simprocAttr]);intro hp hn hd hr;(try have hl3:=hd _ e3;simp only[go_sem,simprocAttr]at hl3);(try have XB:=hd _ e49;simp only[go_sem,simprocAttr]at XB);(try have X2:=hd _ KN;simp only[go_sem,simprocAttr]at X2);(try have Ya:=hd _ Z6;simp only[go_sem,simprocAttr]at Ya);(try have XbH:=hd _ Xaj;simp only[go_sem,simprocAttr]at XbH);(try have XaP:=hd _ Xjd;simp only[go_sem,simprocAttr]at XaP))
 |(refine Xu ?_ ?_;.first|assumption|omega)
 |(with_reducible first|refine CallX.c ?_ _|refine OK.c hr hw ?_ (λy hr=>?_) _)
 |(with_reducible refine lp (Qj4 N _) hr N ?_ (λ_ p q=>⟨_,_,_,p,q,?_⟩) _;rintro n1 st ⟨_,_,_,hr,hk,(⟨_,_,E⟩|⟨_,E,z0⟩)⟩<;>(try subst z0)<;>(obtain _|n1:=n1<;>rw[QbX]at hr))
 |refine⟨_,WD _,_,_,_,hr,hk,?_⟩
 |(with_reducible refine lp (Qjd N _ _) hr N ?_ (λ_ p q=>⟨_,_,_,p,q,?_⟩) _;rintro n1 st ⟨_,_,_,hr,hk,⟨_,E⟩⟩<;>(obtain _|n1:=n1<;>rw[Qcu]at hr))
 |(with_reducible refine lp (Qje N _ _) hr N ?_ (λ_ p q=>⟨_,_,_,p,q,?_⟩) _;rintro n1 st ⟨_,_,_,hr,hk,E⟩<;>(obtain _|n1:=n1<;>rw[Qay]at hr))
 |(with_reducible refine lp (Qjf N _) hr N ?_ (λ_ p q=>⟨_,_,_,_,p,q,?_⟩) _;rintro n2 st ⟨_,_,_,_,hr,hk,(⟨_,E⟩|⟨E,z0⟩)⟩<;>(try subst z0)<;>(obtain _|n2:=n2<;>rw[Qaz]at hr))
 |refine⟨_,WD _,_,_,_,_,hr,hk,?_⟩
 |(with_reducible refine lp (Qep N _) hr N ?_ (λ_ p q=>⟨_,_,p,q,?_⟩) _;rintro n1 st ⟨_,_,hr,hk,E⟩<;>(obtain _|n1:=n1<;>rw[Qak]at hr))
 |refine⟨_,WD _,_,_,hr,hk,?_⟩
 |(with_reducible refine lp (QhE N _) hr N ?_ (λ_ p q=>⟨_,_,_,p,q,?_⟩) _;rintro n1 st ⟨_,_,_,hr,hk,E⟩<;>(obtain _|n1:=n1<;>rw[QbU]at hr))
 |(with_reducible refine lp (QeU N _) hr N ?_ (λ_ p q=>⟨_,_,p,q,?_⟩) _;rintro n1 st ⟨_,_,hr,hk,E⟩<;>(obtain _|n1:=n1<;>rw[Qan]at hr))
 |(with_reducible refine lp (Qj5 N _ _) hr N ?_ (λ_ p q=>⟨_,_,p,q,?_⟩) _;rintro n1 st ⟨_,_,hr,hk,E⟩<;>(obtain _|n1:=n1<;>rw[Qek]at hr))
 |(refine Xq hr ?_;rintro rfl;with_reducible refine XQ ?_)
 |exact YE hr
 |((first|refine XH (c:=true) hr rfl ?_|refine XH (c:=false) hr rfl ?_|refine XH hr ag ?_);intro hr))
abbrev QmN:=g10.1
abbrev QlL:=g10.2.1
abbrev QlM:=g10.2.2.1
abbrev QeL:=g10.2.2.2.1
abbrev QhU:=g10.2.2.2.2.1
abbrev Qfg:=g10.2.2.2.2.2.1
abbrev QmO:=g10.2.2.2.2.2.2
attribute [instance] QmN QlL QlM QeL QhU Qfg QmO
def g6:(∀N a0 a1,OK (Qb4 N a0 a1) 20 [.agg (e44 a0),.ept 1000000 0 2 0 0] [.arr true 48 2 [[s3 a1.L,vi a1.at_]] 0] (λr=>vu r.1) λr=>[.arr true 48 2 [[s3 r.2.L,vi r.2.at_]] 0])/\(∀N(a0:WN),O1 (Qgk N a0) 42 [.agg (e24 a0)] (λr=>.tup [.agg (e42 r.1),vi r.2]))/\(∀N(a0:List Int)(a1:Int),O1 (Qf6 N a0 a1) 253 [s49 a0,vu a1] (λr=>.tup [vi r.1,vi r.2]))/\(∀N(a0:WN)(a1:Int)(a2:Int),O1 (QbE N a0 a1 a2) 288 [.agg (e24 a0),vi a1,vi a2] (λr=>.tup [vu r.1,vi r.2]))/\(∀N(a0:Ww)(a1:Int),O1 (Qb5 N a0 a1) 168 [.agg (JG a0),vi a1] (λr=>.v (.bool r)))/\(∀N(a0:UR),O1 (Qa3 N a0) 189 [.agg (Xje a0)] (λr=>.tup [vu r.1,vi r.2]))/\(∀N(a0:WN),O1 (Qfa N a0) 301 [.agg (e24 a0)] (λr=>vi r))/\(∀N(a0:WN)(a1:Int),O1 (Qcy N a0 a1) 209 [.agg (e24 a0),vu a1] (λr=>.tup [vi r.1,vi r.2.1,vi r.2.2]))/\(∀N(a0:List Int)(a1:Int)(a2:Int),O1 (Qg5 N a0 a1 a2) 327 [s49 a0,vu a1,vi a2] (λr=>.tup [.fsl 49 1 (r.1.map e49),vi r.2]))/\(∀N(a0:Wk),O1 (Qgc N a0) 55 [.agg (e28 a0)] (λr=>.agg (e28 r)))/\(∀N(a0:Wp),O1 (QdX N a0) 232 [.agg (e32 a0)] (λr=>.agg [.fsl 141 3 (r.S.map KN),.fsl 121 3 (r.x.map Vh),.fsl 3 1 (r.i.map e3)]))/\(∀N(a0:Wk)(a1:List Int)(a2:Int),O1 (QeI N a0 a1 a2) 281 [.agg (e28 a0),s49 a1,vi a2] (λr=>.tup [.agg (e28 r.1),vi r.2]))/\(∀N(a0:List Int)(a1:Int),O1 (Qbj N a0 a1) 366 [s3 a0,vi a1] (λr=>.v (.bool r))):=by
 refine⟨λN _ _=>rk f20 ?_,λN _=>rk f42 ?_,λN _ _=>rk f253 ?_,λN _ _ _=>rk f288 ?_,λN _ _=>rk f168 ?_,λN _=>rk f189 ?_,λN _=>rk f301 ?_,λN _ _=>rk f209 ?_,λN _ _ _=>rq f327 [1728] ?_,λN _=>rk f55 ?_,λN _=>rq f232 [320,512,704] ?_,λN _ _ _=>rk f281 ?_,λN _ _=>rk f366 ?_⟩<;>(rintro _ hw r hr C _ rfl hwf hf;have hse:=@ZZ _ hw;simp only[f20,f42,f253,f288,f168,f189,f301,f209,f327,f55,f232,f281,f366,Option.get!,Qb4,Qgk,Qf6,QbE,Qb5,Qa3,Qfa,Qcy,Qg5,Qgc,QdX,QeI,Qbj]at hr⊢;repeat' first
 |(refine El.el hr ?_;clear hr;intro hr)
 |(with_reducible intro h;refine XH hr h ?_;clear hr;intro hr)
 |with_reducible intro _
 |simp only[go_sem,simprocAttr,XB,Xm,hse,Wl,Wn,Wz]
 |(with_reducible first|apply Xi|apply Xh|apply Xt|apply Xx|apply Xy)
 |((first|with_reducible refine Yy hr ag ?_ ?_|(with_reducible refine Yt hr ?_ ?_;rotate_left;intro p;rotate_right));(·simp only[go_sem,simprocAttr,hse,Wl,Wn,Wz]);intro hp hn hd hr;(try have XB:=hd _ e49;simp only[go_sem,simprocAttr]at XB);(try have Xm:=hd _ X0;simp only[go_sem,simprocAttr]at Xm))
 |(refine Xu ?_ ?_;.first|assumption|omega)
 |(with_reducible first|refine CallX.c ?_ _|refine OK.c hr hw ?_ (λy hr=>?_) _|refine OK.d hr hw ?_ (λy hr=>?_) _)
 |refine dq 20 6 hf [(0,[],[1000000]),(1,[],[1000000]),(4,[1000000],[]),(5,[],[1000000]),(6,[],[1000000]),(7,[],[1000000]),(8,[1000000],[])] ?_
 |refine dq 20 10 hf [(0,[],[1000000]),(1,[],[1000000]),(4,[1000000],[])] ?_
 |refine dq 20 11 hf [(0,[],[1000000]),(1,[],[1000000]),(2,[],[1000000]),(3,[],[1000000]),(7,[1000000],[])] ?_
 |refine dq 55 1 hf [(2,[320],[]),(3,[],[320]),(4,[],[320]),(5,[512],[]),(6,[],[512]),(7,[64],[]),(9,[64],[])] ?_
 |refine dq 232 1 hf [(2,[320],[]),(3,[],[320]),(4,[],[320]),(5,[512],[]),(6,[],[320,512]),(7,[],[320,512]),(8,[704],[]),(10,[128],[])] ?_
 |refine dp ?_
 |(refine Xq hr ?_;rintro rfl;with_reducible refine XQ ?_)
 |exact YE hr)
abbrev Qjg:=g6.1
abbrev QnG:=g6.2.1
abbrev QlN:=g6.2.2.1
abbrev Qj6:=g6.2.2.2.1
abbrev Qjh:=g6.2.2.2.2.1
abbrev Qk0:=g6.2.2.2.2.2.1
abbrev Qiy:=g6.2.2.2.2.2.2.1
abbrev Qok:=g6.2.2.2.2.2.2.2.1
abbrev QmP:=g6.2.2.2.2.2.2.2.2.1
abbrev QlO:=g6.2.2.2.2.2.2.2.2.2.1
abbrev QlP:=g6.2.2.2.2.2.2.2.2.2.2.1
abbrev Qji:=g6.2.2.2.2.2.2.2.2.2.2.2.1
abbrev Qhv:=g6.2.2.2.2.2.2.2.2.2.2.2.2
attribute [instance] Qjg QnG QlN Qj6 Qjh Qk0 Qiy Qok QmP QlO QlP Qji Qhv
end Go.Sx
