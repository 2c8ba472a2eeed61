import Derived.Test.YtmpbhfnjjaocoaaGreatAG0
import Derived.Test.YtmpbhfnjjaocoaaGreatAG1
import Derived.Test.YtmpbhfnjjaocoaaGreatAG2
set_option linter.all false
namespace Go.Sx
open Go.Proofs
set_option maxRecDepth 10000
set_option maxHeartbeats 100000000
abbrev Qll:=λN a0 (Q:(List Int)→Prop) n (st:St)=>∃v1 v2 ex,Qbo N a0 n v1 v2=some ex/\Q ex/\((∃w1920 w64,st.n=32/\st.s 1920=some (w1920,.arr false 58 1 (v2.map e58) 0)/\st.t 1=.ept 64 w64 1 0 0/\st.t 3=.osl 1920 w1920 1 0 v2.length/\st.t 4=vi v1/\st.s 64=some (w64,.arr true 35 1 [[K5 a0.e]] 0))\/(∃w64,(st.n=32/\st.t 1=.ept 64 w64 1 0 0/\st.t 3=.nsl/\st.t 4=vi v1/\st.s 64=some (w64,.arr true 35 1 [[K5 a0.e]] 0))/\v2=[]))
abbrev Qki:=λN a1 y1 (Q:(Ex Int Unit)→Prop) n (st:St)=>∃v2 ex,Qbw N a1 y1 n v2=some ex/\Q ex/\((st.n=31/\st.t 1=vi a1/\st.t 5=XmQ y1/\st.t 6=vi v2))
abbrev Qmo:=λN a0 a1 (Q:(Ex (WE × Int × Int × Int) Unit)→Prop) n (st:St)=>∃v2 ex,QbH N a0 a1 n v2=some ex/\Q ex/\((∃w896 w256,st.n=69/\st.s 896=some (w896,.arr false 109 3 (a0.e.map Zv) 0)/\st.t 1=vu a1/\st.t 4=.ept 256 w256 1 0 0/\st.t 8=.osl 896 w896 3 0 a0.e.length/\st.t 9=vi v2/\st.s 256=some (w256,.arr true 35 1 [[.nsl]] 0)))
abbrev QeI:=λN a0 (Q:(Ex Int Unit)→Prop) n (st:St)=>∃v1 ex,Qak N a0 n v1=some ex/\Q ex/\((st.n=19/\st.t 0=K5 a0/\st.t 1=.clo (.func 116) [] []/\st.t 7=vi a0.length/\st.t 8=vi v1))
abbrev Qgm:=λN a0 (Q:(Ex Int Unit)→Prop) n (st:St)=>∃v1 ex,QaF N a0 n v1=some ex/\Q ex/\((st.n=19/\st.t 0=s3 a0/\st.t 1=.clo (.func 111) [] []/\st.t 7=vi a0.length/\st.t 8=vi v1))
abbrev Qkj:=λN a0 a1 (Q:(Ex (List Int × Int) Unit)→Prop) n (st:St)=>∃v1 v2 ex,QaQ N a0 a1 n v1 v2=some ex/\Q ex/\((st.n=49/\st.t 0=vu a0/\st.t 1=s3 a1/\st.t 6=vi v1/\st.t 12=s3 a1/\st.t 13=vi a1.length/\st.t 14=vi v2))
abbrev Qkk:=λN a1 (Q:(Int × List Int)→Prop) n (st:St)=>∃v5 v6 v7 ex,QaR N a1 n v5 v6 v7=some ex/\Q ex/\((∃w2624,st.n=49/\st.s 2624=some (w2624,.arr false 58 1 (v7.map e58) 0)/\st.t 0=vu v5/\st.t 9=.osl 2624 w2624 1 0 v7.length/\st.t 29=s3 a1/\st.t 30=vi a1.length/\st.t 31=vi v6)\/((st.n=49/\st.t 0=vu v5/\st.t 9=.nsl/\st.t 29=s3 a1/\st.t 30=vi a1.length/\st.t 31=vi v6)/\v7=[]))
abbrev Qee:=λN a0 (Q:(Ex Int Unit)→Prop) n (st:St)=>∃v1 ex,Qai N a0 n v1=some ex/\Q ex/\((st.n=19/\st.t 0=XjY a0/\st.t 1=.clo (.func 201) [] []/\st.t 7=vi a0.length/\st.t 8=vi v1))
abbrev Qlm:=λN a1 y1 (Q:(Ex Int Unit)→Prop) n (st:St)=>∃v2 ex,Qd3 N a1 y1 n v2=some ex/\Q ex/\((st.n=23/\st.t 1=vi a1/\st.t 10=XmQ y1/\st.t 11=vi y1.length/\st.t 12=vi v2))
abbrev Qln:=λN a0 a1 (Q:(Ex Bool Unit)→Prop) n (st:St)=>∃v2 ex,Qd7 N a0 a1 n v2=some ex/\Q ex/\((∃w128 w192,st.n=60/\st.t 2=.ept 128 w128 6 0 0/\st.t 3=.ept 192 w192 6 0 0/\st.t 5=vi v2/\st.s 128=some (w128,.arr true 27 6 [e27 a0] 0)/\st.s 192=some (w192,.arr true 27 6 [e27 a1] 0)))
def g9:(∀N a0,OK (Qbl N a0) 29 [.agg (e35 a0)] [] (λr=>.fsl 58 1 (r.map e58)) λr=>[])/\(∀N a0 a1,OK (Qbi N a0 a1) 168 [Yg a0,vi a1] [] (λr=>vi r) λr=>[])/\(∀N a0 a1,OK (QcX N a0 a1) 255 [.agg (e35 a0),vu a1] [] (λr=>.tup [.agg (e35 r.1),vi r.2.1,vi r.2.2.1,vi r.2.2.2]) λr=>[])/\(∀N a0,OK (QaL N a0) 197 [K5 a0,.clo (.func 116) [] []] [] (λr=>vi r) λr=>[])/\(∀N a0,OK (QbJ N a0) 195 [s3 a0,.clo (.func 111) [] []] [] (λr=>vi r) λr=>[])/\(∀N a0 a1,OK (Qfa N a0 a1) 280 [vu a0,s3 a1] [] (λr=>.tup [s58 r.1,vi r.2]) λr=>[])/\(∀N a0,OK (Qat N a0) 278 [XjY a0,.clo (.func 201) [] []] [] (λr=>vi r) λr=>[])/\(∀N a0 a1,OK (QdF N a0 a1) 236 [Yg a0,vi a1] [] (λr=>vi r) λr=>[])/\(∀N a0 a1,OK (Qhh N a0 a1) 33 [.agg (e27 a0),.agg (e27 a1)] [] (λr=>.v (.bool r)) λr=>[]):=by
 refine⟨λN _=>rk Tryz.f29 [.tmp 2] [1920] 32 ?_,λN _ _=>rk Tryz.f168 [.tmp 4] [] 31 ?_,λN _ _=>rk Tryz.f255 [.cell 4 35,.tmp 5,.tmp 6,.tmp 7] [] 69 ?_,λN _=>rk Tryz.f197 [.tmp 4] [] 19 ?_,λN _=>rk Tryz.f195 [.tmp 4] [] 19 ?_,λN _ _=>rk Tryz.f280 [.tmp 4,.tmp 5] [] 49 ?_,λN _=>rk Tryz.f278 [.tmp 4] [] 19 ?_,λN _ _=>rk Tryz.f236 [.tmp 4] [] 23 ?_,λN _ _=>rk Tryz.f33 [.tmp 4] [] 60 ?_⟩<;>(rintro _ hw r hr C _ rfl hwf hf;simp only[Tryz.f29,Tryz.f168,Tryz.f255,Tryz.f197,Tryz.f195,Tryz.f280,Tryz.f278,Tryz.f236,Tryz.f33,Option.get!];(first|rw[Qbl]at hr|rw[Qbi]at hr|rw[QcX]at hr|rw[QaL]at hr|rw[QbJ]at hr|rw[Qfa]at hr|rw[Qat]at hr|rw[QdF]at hr|rw[Qhh]at hr);repeat' first
 |(refine El.el hr ?_;clear hr;intro hr)
 |(with_reducible intro h;refine XB hr h ?_;clear hr;intro hr)
 |with_reducible intro _
 |(refine Xn hr ?_;rintro rfl;have hr:=hk;clear hk)
 |simp only[go_sem,simprocAttr,E,hl3,Xu,Yo,XaK,XaL]
 |(with_reducible first|apply Xi|apply Xh|apply Xs|apply Xq|apply Xr)
 |((first|with_reducible refine Yq hr ag ?_ ?_|(with_reducible refine Yn hr ?_ ?_;rotate_left;intro p;rotate_right));(·simp only[go_sem,simprocAttr]);intro hp hn hd hr;(try have hl3:=hd _ e3);(try simp only[go_sem,simprocAttr]at hl3);(try have Xu:=hd _ e58);(try simp only[go_sem,simprocAttr]at Xu);(try have Yo:=hd _ Zv);(try simp only[go_sem,simprocAttr]at Yo);(try have XaK:=hd _ Vw);(try simp only[go_sem,simprocAttr]at XaK);(try have XaL:=hd _ XhP);(try simp only[go_sem,simprocAttr]at XaL))
 |(refine Xt ?_ ?_;.first|assumption|omega)
 |(with_reducible first|refine CallX.c ?_ _|refine OK.c hr hw ?_ (λy hr=>?_) _)
 |(with_reducible refine lp (Qll N _) hr N ?_ (λex hq hk=>⟨_,_,ex,hq,hk,?_⟩) _;clear hr;(try clear E);rintro n1 st ⟨v1,v2,ex,hr,hk,(⟨_,_,E⟩|⟨_,E,z0⟩)⟩<;>(try subst z0)<;>(obtain _|n1:=n1<;>rw[Qbo]at hr))
 |refine⟨_,Wz _,_,_,_,hr,hk,?_⟩
 |(with_reducible refine lp (Qki N _ _) hr N ?_ (λex hq hk=>⟨_,ex,hq,hk,?_⟩) _;clear hr;(try clear E);rintro n1 st ⟨v2,ex,hr,hk,E⟩<;>(obtain _|n1:=n1<;>rw[Qbw]at hr))
 |refine⟨_,Wz _,_,_,hr,hk,?_⟩
 |(with_reducible refine lp (Qmo N _ _) hr N ?_ (λex hq hk=>⟨_,ex,hq,hk,?_⟩) _;clear hr;(try clear E);rintro n1 st ⟨v2,ex,hr,hk,⟨_,_,E⟩⟩<;>(obtain _|n1:=n1<;>rw[QbH]at hr))
 |(with_reducible refine lp (QeI N _) hr N ?_ (λex hq hk=>⟨_,ex,hq,hk,?_⟩) _;clear hr;(try clear E);rintro n1 st ⟨v1,ex,hr,hk,E⟩<;>(obtain _|n1:=n1<;>rw[Qak]at hr))
 |(with_reducible refine lp (Qgm N _) hr N ?_ (λex hq hk=>⟨_,ex,hq,hk,?_⟩) _;clear hr;(try clear E);rintro n1 st ⟨v1,ex,hr,hk,E⟩<;>(obtain _|n1:=n1<;>rw[QaF]at hr))
 |(with_reducible refine lp (Qkj N _ _) hr N ?_ (λex hq hk=>⟨_,_,ex,hq,hk,?_⟩) _;clear hr;(try clear E);rintro n1 st ⟨v1,v2,ex,hr,hk,E⟩<;>(obtain _|n1:=n1<;>rw[QaQ]at hr))
 |(with_reducible refine lp (Qkk N _) hr N ?_ (λex hq hk=>⟨_,_,_,ex,hq,hk,?_⟩) _;clear hr;(try clear E);rintro n2 st ⟨v5,v6,v7,ex,hr,hk,(⟨_,E⟩|⟨E,z0⟩)⟩<;>(try subst z0)<;>(obtain _|n2:=n2<;>rw[QaR]at hr))
 |refine⟨_,Wz _,_,_,_,_,hr,hk,?_⟩
 |(with_reducible refine lp (Qee N _) hr N ?_ (λex hq hk=>⟨_,ex,hq,hk,?_⟩) _;clear hr;(try clear E);rintro n1 st ⟨v1,ex,hr,hk,E⟩<;>(obtain _|n1:=n1<;>rw[Qai]at hr))
 |(with_reducible refine lp (Qlm N _ _) hr N ?_ (λex hq hk=>⟨_,ex,hq,hk,?_⟩) _;clear hr;(try clear E);rintro n1 st ⟨v2,ex,hr,hk,E⟩<;>(obtain _|n1:=n1<;>rw[Qd3]at hr))
 |(with_reducible refine lp (Qln N _ _) hr N ?_ (λex hq hk=>⟨_,ex,hq,hk,?_⟩) _;clear hr;(try clear E);rintro n1 st ⟨v2,ex,hr,hk,⟨_,_,E⟩⟩<;>(obtain _|n1:=n1<;>rw[Qd7]at hr))
 |refine dc 255 9 hf 5 [(0,4433230883192832,[]),(1,4433230883192832,[]),(0,4415638697148416,[[],[256]]),(0,404620279021569,[[],[256]]),(0,263882790666241,[[],[256]]),(24,123145302310913,[[],[256]]),(56,123145302310913,[[],[256]]),(120,123145302310913,[[],[256]]),(3,4433230883192832,[[256],[]]),(263,4362862139015168,[]),(1023,0,[]),(2047,0,[])] ?_
 |refine dc 33 6 hf 49 [(0,996,[]),(1,996,[]),(0,995,[]),(7,992,[]),(15,992,[]),(0,159,[]),(32,159,[]),(0,127,[]),(224,31,[]),(480,31,[]),(1023,0,[])] ?_
 |(refine Xn hr ?_;rintro rfl;with_reducible refine XP ?_)
 |exact Yw hr
 |((first|refine XB (c:=true) hr rfl ?_|refine XB (c:=false) hr rfl ?_|refine XB hr ag ?_);intro hr)
 |fail)
abbrev Qow:=g9.1
abbrev Qnj:=g9.2.1
abbrev Qpp:=g9.2.2.1
abbrev Qe5:=g9.2.2.2.1
abbrev QgR:=g9.2.2.2.2.1
abbrev Qnk:=g9.2.2.2.2.2.1
abbrev QeB:=g9.2.2.2.2.2.2.1
abbrev Qox:=g9.2.2.2.2.2.2.2.1
abbrev Qoy:=g9.2.2.2.2.2.2.2.2
attribute [instance] Qow Qnj Qpp Qe5 QgR Qnk QeB Qox Qoy
def g6:(∀N a0,OK (Qfl N a0) 100 [.ept 1000000 0 2 0 0] [.arr true 54 2 [[s3 a0.L,vi a0.at_]] 0] (λr=>.agg (e23 r.1)) λr=>[.arr true 54 2 [[s3 r.2.L,vi r.2.at_]] 0])/\(∀N a0,OK (QcK N a0) 39 [.agg (e23 a0)] [] (λr=>vi r) λr=>[])/\(∀N a0 a1,OK (QcL N a0 a1) 149 [.agg (e23 a0),vu a1] [] (λr=>.tup [vi r.1,vi r.2.1,vi r.2.2]) λr=>[])/\(∀N a0 a1,OK (Qb9 N a0 a1) 290 [.agg (e51 a0),vi a1] [] (λr=>.v (.bool r)) λr=>[])/\(∀N a0 a1 a2,OK (Qbz N a0 a1 a2) 169 [Yg a0,vi a1,vi a2] [] (λr=>.tup [.fsl 175 4 (r.1.map XS),vi r.2]) λr=>[])/\(∀N a0 a1 a2,OK (QdI N a0 a1 a2) 270 [.agg (e35 a0),vi a1,vi a2] [] (λr=>.tup [vu r.1,vi r.2]) λr=>[])/\(∀N a0,OK (QgT N a0) 16 [.agg (e38 a0)] [] (λr=>.v (.bool r)) λr=>[])/\(∀N a0,OK (Qda N a0) 87 [.agg (e51 a0)] [] (λr=>.v (.bool r)) λr=>[])/\(∀N a0 a1,OK (QhB N a0 a1) 285 [s58 a0,vu a1] [] (λr=>.tup [vi r.1,vi r.2]) λr=>[])/\(∀N a0 a1,OK (Qah N a0 a1) 52 [s58 a0,vu a1] [] (λr=>.v (.bool r)) λr=>[])/\(∀N a0 a1,OK (QdQ N a0 a1) 293 [vu a0,vi a1] [] (λr=>.v (.bool r)) λr=>[])/\(∀N a0,OK (QgP N a0) 65 [.agg (e27 a0)] [] (λr=>.agg (e27 r)) λr=>[])/\(∀N a0,OK (QhD N a0) 70 [.agg (e32 a0)] [] (λr=>.agg [.fsl 107 3 (r.S.map ZT),XbE r.x,s3 r.i]) λr=>[])/\(∀N a0,OK (QjK N a0) 85 [.agg (e23 a0)] [] (λr=>.tup [.agg (e27 r.1),vi r.2]) λr=>[]):=by
 refine⟨λN _=>rk Tryz.f100 [.cell 2 23] [] 14 ?_,λN _=>rk Tryz.f39 [.tmp 2] [] 9 ?_,λN _ _=>rk Tryz.f149 [.tmp 4,.tmp 5,.tmp 6] [] 35 ?_,λN _ _=>rk Tryz.f290 [.tmp 4] [] 35 ?_,λN _ _ _=>rk Tryz.f169 [.tmp 6,.tmp 7] [1216] 22 ?_,λN _ _ _=>rk Tryz.f270 [.tmp 6,.tmp 7] [] 57 ?_,λN _=>rk Tryz.f16 [.tmp 2] [] 53 ?_,λN _=>rk Tryz.f87 [.tmp 2] [] 43 ?_,λN _ _=>rk Tryz.f285 [.tmp 4,.tmp 5] [] 17 ?_,λN _ _=>rk Tryz.f52 [.tmp 4] [] 9 ?_,λN _ _=>rk Tryz.f293 [.tmp 4] [] 10 ?_,λN _=>rk Tryz.f65 [.cell 2 27] [] 12 ?_,λN _=>rk Tryz.f70 [.cell 2 32] [320] 13 ?_,λN _=>rk Tryz.f85 [.cell 2 27,.tmp 3] [] 29 ?_⟩<;>(rintro _ hw r hr C _ rfl hwf hf;have hse:=@Zw _ hw;simp only[Tryz.f100,Tryz.f39,Tryz.f149,Tryz.f290,Tryz.f169,Tryz.f270,Tryz.f16,Tryz.f87,Tryz.f285,Tryz.f52,Tryz.f293,Tryz.f65,Tryz.f70,Tryz.f85,Option.get!];(first|rw[Qfl]at hr|rw[QcK]at hr|rw[QcL]at hr|rw[Qb9]at hr|rw[Qbz]at hr|rw[QdI]at hr|rw[QgT]at hr|rw[Qda]at hr|rw[QhB]at hr|rw[Qah]at hr|rw[QdQ]at hr|rw[QgP]at hr|rw[QhD]at hr|rw[QjK]at hr);repeat' first
 |(refine El.el hr ?_;clear hr;intro hr)
 |(with_reducible intro h;refine XB hr h ?_;clear hr;intro hr)
 |with_reducible intro _
 |simp only[go_sem,simprocAttr,hl3,Yo,hse]
 |(with_reducible first|apply Xi|apply Xh|apply Xs|apply Xq|apply Xr)
 |((first|with_reducible refine Yq hr ag ?_ ?_|(with_reducible refine Yn hr ?_ ?_;rotate_left;intro p;rotate_right));(·simp only[go_sem,simprocAttr,hse]);intro hp hn hd hr;(try have hl3:=hd _ e3);(try simp only[go_sem,simprocAttr]at hl3);(try have Yo:=hd _ Zv);(try simp only[go_sem,simprocAttr]at Yo))
 |(refine Xt ?_ ?_;.first|assumption|omega)
 |(with_reducible first|refine CallX.c ?_ _|refine OK.c hr hw ?_ (λy hr=>?_) _|refine IM hr hw ?_ (λy hr=>?_) _)
 |refine dc 100 1 hf 3 [(0,998,[[192],[512,1000000]]),(0,97,[[],[192,512]]),(2,97,[[1000000],[192,512]]),(7,992,[[],[512,1000000]]),(15,992,[[],[512,1000000]]),(0,223,[[512],[192,1000000]]),(0,63,[[],[192,512,1000000]]),(70,57,[[1000000],[192,512]]),(230,25,[[],[192]]),(486,25,[[],[192]]),(1023,0,[]),(2047,0,[[128],[]])] ?_
 |refine dc 149 6 hf 4 [(0,2063597568,[]),(0,2021654528,[]),(2,2021654528,[]),(7,2013265920,[]),(0,931135489,[]),(0,260046849,[]),(32,260046849,[]),(112,125829121,[]),(15,2013265920,[]),(511,0,[]),(1023,0,[])] ?_
 |refine dc 87 4 hf 28 [(0,0,[]),(1,0,[]),(3,0,[]),(7,0,[]),(15,56,[]),(31,56,[]),(63,56,[]),(15,7,[]),(143,7,[]),(399,7,[]),(1023,0,[]),(2047,0,[]),(4095,0,[])] ?_
 |refine dc 65 1 hf 3 [(0,24,[]),(1,24,[]),(3,24,[[320],[]]),(0,7,[[],[320]]),(8,7,[[],[320]]),(31,64,[[512],[]]),(31,32,[[],[512]]),(127,0,[[64],[]]),(255,0,[]),(511,0,[[64],[]])] ?_
 |refine dc 70 1 hf 3 [(0,216,[]),(1,216,[]),(3,216,[[320],[]]),(0,199,[[],[320]]),(8,199,[[],[320]]),(31,192,[[512],[]]),(0,63,[[],[320,512]]),(64,63,[[],[320,512]]),(255,0,[[704],[]]),(511,0,[]),(1023,0,[[128],[]])] ?_
 |refine dc 85 6 hf 23 [(0,30,[[],[1728]]),(0,29,[[],[1728]]),(0,3,[]),(4,3,[]),(12,3,[[1728],[]]),(31,0,[]),(63,0,[[128],[]]),(127,0,[])] ?_
 |(refine Xn hr ?_;rintro rfl;with_reducible refine XP ?_)
 |exact Yw hr
 |fail)
abbrev Qkl:=g6.1
abbrev Qi7:=g6.2.1
abbrev QpW:=g6.2.2.1
abbrev Qlo:=g6.2.2.2.1
abbrev Qnl:=g6.2.2.2.2.1
abbrev Qpq:=g6.2.2.2.2.2.1
abbrev Qlp:=g6.2.2.2.2.2.2.1
abbrev Qmp:=g6.2.2.2.2.2.2.2.1
abbrev Qnm:=g6.2.2.2.2.2.2.2.2.1
abbrev Qg6:=g6.2.2.2.2.2.2.2.2.2.1
abbrev Qpr:=g6.2.2.2.2.2.2.2.2.2.2.1
abbrev Qnn:=g6.2.2.2.2.2.2.2.2.2.2.2.1
abbrev Qno:=g6.2.2.2.2.2.2.2.2.2.2.2.2.1
abbrev QpX:=g6.2.2.2.2.2.2.2.2.2.2.2.2.2
attribute [instance] Qkl Qi7 QpW Qlo Qnl Qpq Qlp Qmp Qnm Qg6 Qpr Qnn Qno QpX
end Go.Sx
