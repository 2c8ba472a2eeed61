import Derived.Test.YtmpbhfnjjaocoaaGreatAG0
import Derived.Test.YtmpbhfnjjaocoaaGreatAG1
import Derived.Test.YtmpbhfnjjaocoaaGreatAG2
set_option linter.all false
namespace Go.Sx
open Go.Proofs
set_option maxRecDepth 10000
set_option maxHeartbeats 100000000
abbrev Qkd:=λN a0 (Q:(Ex Bool Unit)→Prop) n (st:St)=>∃v1 ex,Qdl N a0 n v1=some ex/\Q ex/\((∃w64,st.n=174/\st.t 1=.ept 64 w64 3 0 0/\st.t 3=vi v1/\st.s 64=some (w64,.arr true 32 3 [e32 a0] 0)))
abbrev Qke:=λN a0 (Q:(Ex Bool Unit)→Prop) n (st:St)=>∃v5 v6 ex,Qao N a0 n v5 v6=some ex/\Q ex/\((∃w64,st.n=174/\st.t 1=.ept 64 w64 3 0 0/\st.t 4=vi v5/\st.t 5=vi v6/\st.s 64=some (w64,.arr true 32 3 [e32 a0] 0)))
abbrev Qkf:=λN a0 (Q:(Ex Bool Unit)→Prop) n (st:St)=>∃v10 v11 ex,Qan N a0 n v10 v11=some ex/\Q ex/\((∃w64,st.n=174/\st.t 1=.ept 64 w64 3 0 0/\st.t 7=vi v10/\st.t 8=vi v11/\st.s 64=some (w64,.arr true 32 3 [e32 a0] 0)))
abbrev Qkg:=λN a0 (Q:(Ex Bool Unit)→Prop) n (st:St)=>∃v14 ex,QcS N a0 n v14=some ex/\Q ex/\((∃w64,st.n=174/\st.t 1=.ept 64 w64 3 0 0/\st.t 10=vi v14/\st.s 64=some (w64,.arr true 32 3 [e32 a0] 0)))
abbrev Qkh:=λN a2 y1 (Q:(List Int)→Prop) n (st:St)=>∃v2 v3 ex,QbM N a2 y1 n v2 v3=some ex/\Q ex/\((∃w1408,st.n=41/\st.s 1408=some (w1408,.arr false 58 1 (v3.map e58) 0)/\st.t 2=s58 a2/\st.t 8=vi y1.1/\st.t 10=.osl 1408 w1408 1 0 v3.length/\st.t 11=vi v2))
abbrev Qit:=λN a0 y3 (Q:(List Wt)→Prop) n (st:St)=>∃v22 v23 ex,Qco N a0 y3 n v22 v23=some ex/\Q ex/\((∃w704 w960 w128 w256 w320,st.n=156/\st.s 704=some (w704,.arr false 58 1 (a0.h.w.map e58) 0)/\st.s 960=some (w960,.arr false 175 4 (v23.map XS) 0)/\st.t 2=.ept 128 w128 8 0 0/\st.t 4=.ept 256 w256 8 0 0/\st.t 5=.ept 320 w320 6 0 0/\st.t 8=vi v22/\st.s 128=some (w128,.arr true 104 8 [XoZ a0] 0)/\st.s 256=some (w256,.arr true 104 8 [[vi 0,vi 0,.nsl,.nsl,vi 0,vi 0,.nsl,.nsl]] 0)/\st.s 320=some (w320,.arr true 27 6 [[vi a0.h.c.W,vi a0.h.c.p,.osl 704 w704 1 0 a0.h.w.length,.osl 960 w960 4 0 v23.length,vi a0.h.s,vi a0.h.b]] 0)/\st.s 1000000=some (0,.arr true 54 2 [e54 y3.2] 0)))
abbrev Qio:=λN y1 (Q:Int→Prop) n (st:St)=>∃v2 v3 ex,QbE N y1 n v2 v3=some ex/\Q ex/\((st.n=22/\st.t 5=vi v2/\st.t 10=XbD y1/\st.t 11=vi y1.length/\st.t 12=vi v3))
abbrev QgW:=λN a0 (Q:Int→Prop) n (st:St)=>∃v1 v2 ex,QaO N a0 n v1 v2=some ex/\Q ex/\((st.n=36/\st.t 0=s24 a0/\st.t 3=vi v1/\st.t 9=s24 a0/\st.t 10=vi a0.length/\st.t 11=vi v2))
abbrev QgX:=λN a0 (Q:(List Int)→Prop) n (st:St)=>∃v6 v7 ex,QaP N a0 n v6 v7=some ex/\Q ex/\((∃w1536,st.n=36/\st.s 1536=some (w1536,.arr false 58 1 (v7.map e58) 0)/\st.t 6=.osl 1536 w1536 1 0 v7.length/\st.t 25=s24 a0/\st.t 26=vi a0.length/\st.t 27=vi v6))
abbrev Qfw:=λN a0 (Q:(Ex Int Unit)→Prop) n (st:St)=>∃v1 ex,Qau N a0 n v1=some ex/\Q ex/\((st.n=19/\st.t 0=s58 a0/\st.t 1=.clo (.func 311) [] []/\st.t 7=vi a0.length/\st.t 8=vi v1))
abbrev Qff:=λN a0 c0 (Q:(Ex Int Unit)→Prop) n (st:St)=>∃v1 ex,Qap N a0 c0 n v1=some ex/\Q ex/\((st.n=19/\st.t 0=s84 a0/\st.t 1=.clo (.func 277) [] [.ept 1000000 0 1 0 0]/\st.t 7=vi a0.length/\st.t 8=vi v1/\st.s 1000000=some (0,.arr true 58 1 [[vu c0]] 0)))
abbrev Qmn:=λN p1 (Q:(List Wt)→Prop) n (st:St)=>∃v4 v5 ex,QeG N p1 n v4 v5=some ex/\Q ex/\((∃w1856,st.n=59/\st.s 1856=some (w1856,.arr false 175 4 (v5.map XS) 0)/\st.t 6=vi p1.k/\st.t 7=.osl 1856 w1856 4 0 v5.length/\st.t 8=vi v4))
def g10:(∀N a0,OK (Qb8 N a0) 73 [.agg (e32 a0)] [] (λr=>.v (.bool r)) λr=>[])/\(∀N a0 a1 a2,OK (Qca N a0 a1 a2) 153 [s58 a0,vu a1,s58 a2] [] (λr=>.tup [s58 r.1,vi r.2]) λr=>[])/\(∀N a0 a1,OK (QcO N a0 a1) 47 [.agg (XoZ a0),.ept 1000000 0 2 0 0] [.arr true 54 2 [[s3 a1.L,vi a1.at_]] 0] (λr=>.agg (XoZ r.1)) λr=>[.arr true 54 2 [[s3 r.2.L,vi r.2.at_]] 0])/\(∀N a0 a1,OK (Qef N a0 a1) 114 [.agg (XmL a0),vi a1] [] (λr=>vi r) λr=>[])/\(∀N a0,OK (QaK N a0) 57 [s24 a0] [] (λr=>s58 r) λr=>[])/\(∀N a0,OK (Qbf N a0) 202 [s58 a0,.clo (.func 311) [] []] [] (λr=>vi r) λr=>[])/\(∀N a0 c0,OK (Qa1 N a0 c0) 276 [s84 a0,.clo (.func 277) [] [.ept 1000000 0 1 0 0]] [.arr true 58 1 [[vu c0]] 0] (λr=>vi r) λr=>[.arr true 58 1 [[vu c0]] 0])/\(∀N a0 a1,OK (Qig N a0 a1) 132 [Yg a0,vi a1] [] (λr=>.tup [Yg r.1,vi r.2]) λr=>[]):=by
 refine⟨λN _=>rk Tryz.f73 [.tmp 2] [] 174 ?_,λN _ _ _=>rk Tryz.f153 [.tmp 6,.tmp 7] [] 41 ?_,λN _ _=>rk Tryz.f47 [.cell 4 104] [] 156 ?_,λN _ _=>rk Tryz.f114 [.tmp 4] [] 22 ?_,λN _=>rk Tryz.f57 [.tmp 2] [] 36 ?_,λN _=>rk Tryz.f202 [.tmp 4] [] 19 ?_,λN _ _=>rk Tryz.f276 [.tmp 4] [] 19 ?_,λN _ _=>rk Tryz.f132 [.tmp 4,.tmp 5] [] 59 ?_⟩<;>(rintro _ hw r hr C _ rfl hwf hf;have hse:=@Zw _ hw;simp only[Tryz.f73,Tryz.f153,Tryz.f47,Tryz.f114,Tryz.f57,Tryz.f202,Tryz.f276,Tryz.f132,Option.get!];(first|rw[Qb8]at hr|rw[Qca]at hr|rw[QcO]at hr|rw[Qef]at hr|rw[QaK]at hr|rw[Qbf]at hr|rw[Qa1]at hr|rw[Qig]at hr);repeat' first
 |(refine El.el hr ?_;clear hr;intro hr)
 |(with_reducible intro h;refine XB hr h ?_;clear hr;intro hr)
 |with_reducible intro _
 |(refine Xn hr ?_;rintro rfl;have hr:=hk;clear hk)
 |simp only[go_sem,simprocAttr,E,hl3,Xo1,Xu,ZU,XX,YE,Xj,hm3,Xst,Yt,Xsu,Z1,Xpn,XU,hse,Wj,Wl,WA]
 |(with_reducible first|apply Xi|apply Xh|apply Xs|apply Xq|apply Xr)
 |((first|with_reducible refine Yq hr ag ?_ ?_|(with_reducible refine Yn hr ?_ ?_;rotate_left;intro p;rotate_right));(·simp only[go_sem,simprocAttr,hse,Wj,Wl,WA]);intro hp hn hd hr;(try have hm3:=hl3);(try have hl3:=hd _ e3);(try simp only[go_sem,simprocAttr]at hl3);(try have Xst:=Xo1);(try have Xo1:=hd _ e24);(try simp only[go_sem,simprocAttr]at Xo1);(try have Yt:=Xu);(try have Xu:=hd _ e58);(try simp only[go_sem,simprocAttr]at Xu);(try have Xsu:=ZU);(try have ZU:=hd _ e84);(try simp only[go_sem,simprocAttr]at ZU);(try have Z1:=XX);(try have XX:=hd _ ZT);(try simp only[go_sem,simprocAttr]at XX);(try have Xpn:=YE);(try have YE:=hd _ K6);(try simp only[go_sem,simprocAttr]at YE);(try have XU:=Xj);(try have Xj:=hd _ XS);(try simp only[go_sem,simprocAttr]at Xj))
 |(refine Xt ?_ ?_;.first|assumption|omega)
 |(with_reducible first|refine CallX.c ?_ _|refine OK.c hr hw ?_ (λy hr=>?_) _|refine IM hr hw ?_ (λy hr=>?_) _)
 |(with_reducible refine lp (Qkd N _) hr N ?_ (λex hq hk=>⟨_,ex,hq,hk,?_⟩) _;clear hr;(try clear E);rintro n1 st ⟨v1,ex,hr,hk,⟨_,E⟩⟩<;>(obtain _|n1:=n1<;>rw[Qdl]at hr))
 |refine⟨_,Wz _,_,_,hr,hk,?_⟩
 |(with_reducible refine lp (Qke N _) hr N ?_ (λex hq hk=>⟨_,_,ex,hq,hk,?_⟩) _;clear hr;(try clear E);rintro n2 st ⟨v5,v6,ex,hr,hk,⟨_,E⟩⟩<;>(obtain _|n2:=n2<;>rw[Qao]at hr))
 |refine⟨_,Wz _,_,_,_,hr,hk,?_⟩
 |(with_reducible refine lp (Qkf N _) hr N ?_ (λex hq hk=>⟨_,_,ex,hq,hk,?_⟩) _;clear hr;(try clear E);rintro n3 st ⟨v10,v11,ex,hr,hk,⟨_,E⟩⟩<;>(obtain _|n3:=n3<;>rw[Qan]at hr))
 |(with_reducible refine lp (Qkg N _) hr N ?_ (λex hq hk=>⟨_,ex,hq,hk,?_⟩) _;clear hr;(try clear E);rintro n4 st ⟨v14,ex,hr,hk,⟨_,E⟩⟩<;>(obtain _|n4:=n4<;>rw[QcS]at hr))
 |(with_reducible refine lp (Qkh N _ _) hr N ?_ (λex hq hk=>⟨_,_,ex,hq,hk,?_⟩) _;clear hr;(try clear E);rintro n1 st ⟨v2,v3,ex,hr,hk,⟨_,E⟩⟩<;>(obtain _|n1:=n1<;>rw[QbM]at hr))
 |(with_reducible refine lp (Qit N _ _) hr N ?_ (λex hq hk=>⟨_,_,ex,hq,hk,?_⟩) _;clear hr;(try clear E);rintro n1 st ⟨v22,v23,ex,hr,hk,⟨_,_,_,_,_,E⟩⟩<;>(obtain _|n1:=n1<;>rw[Qco]at hr))
 |(with_reducible refine lp (Qio N _) hr N ?_ (λex hq hk=>⟨_,_,ex,hq,hk,?_⟩) _;clear hr;(try clear E);rintro n1 st ⟨v2,v3,ex,hr,hk,E⟩<;>(obtain _|n1:=n1<;>rw[QbE]at hr))
 |(with_reducible refine lp (QgW N _) hr N ?_ (λex hq hk=>⟨_,_,ex,hq,hk,?_⟩) _;clear hr;(try clear E);rintro n1 st ⟨v1,v2,ex,hr,hk,E⟩<;>(obtain _|n1:=n1<;>rw[QaO]at hr))
 |(with_reducible refine lp (QgX N _) hr N ?_ (λex hq hk=>⟨_,_,ex,hq,hk,?_⟩) _;clear hr;(try clear E);rintro n2 st ⟨v6,v7,ex,hr,hk,⟨_,E⟩⟩<;>(obtain _|n2:=n2<;>rw[QaP]at hr))
 |(with_reducible refine lp (Qfw N _) hr N ?_ (λex hq hk=>⟨_,ex,hq,hk,?_⟩) _;clear hr;(try clear E);rintro n1 st ⟨v1,ex,hr,hk,E⟩<;>(obtain _|n1:=n1<;>rw[Qau]at hr))
 |(with_reducible refine lp (Qff N _ _) hr N ?_ (λex hq hk=>⟨_,ex,hq,hk,?_⟩) _;clear hr;(try clear E);rintro n1 st ⟨v1,ex,hr,hk,E⟩<;>(obtain _|n1:=n1<;>rw[Qap]at hr))
 |(with_reducible refine lp (Qmn N _) hr N ?_ (λex hq hk=>⟨_,_,ex,hq,hk,?_⟩) _;clear hr;(try clear E);rintro n1 st ⟨v4,v5,ex,hr,hk,⟨_,E⟩⟩<;>(obtain _|n1:=n1<;>rw[QeG]at hr))
 |refine dc 73 27 hf 156 [(0,130046,[]),(0,129929,[]),(2,129929,[]),(0,129927,[]),(14,129921,[]),(30,129921,[]),(62,129921,[]),(0,129407,[]),(0,129279,[]),(384,129151,[]),(1023,129024,[]),(0,10239,[]),(2048,10239,[]),(0,8191,[]),(14336,2047,[]),(30720,2047,[]),(63488,2047,[]),(131071,0,[])] ?_
 |refine dc 47 2 hf 11 [(0,118,[[704],[960]]),(0,113,[[],[704,960]]),(2,113,[[],[704,960]]),(7,112,[[704],[960]]),(0,367,[[960],[704]]),(0,31,[[],[704,960]]),(32,31,[[],[704,960]]),(127,256,[[960],[]]),(111,144,[[],[960]]),(511,0,[[320],[]]),(1023,0,[]),(2047,0,[[320],[]])] ?_
 |refine dc 47 3 hf 21 [(0,494,[]),(0,481,[]),(2,481,[]),(6,481,[]),(15,480,[[1000000],[]]),(0,479,[[],[1000000]]),(0,63,[[],[1000000]]),(64,63,[[],[1000000]]),(192,63,[[],[1000000]]),(511,0,[[1000000],[]]),(1023,0,[]),(2047,0,[])] ?_
 |refine dc 47 7 hf 36 [(0,252,[[],[2496,1000000]]),(1,252,[[],[2496,1000000]]),(0,251,[[],[2496,1000000]]),(0,55,[[2496],[1000000]]),(0,15,[[],[2496]]),(16,15,[[1000000],[2496]]),(56,7,[]),(120,7,[]),(255,0,[]),(511,0,[[704],[]])] ?_
 |refine dc 47 9 hf 47 [(0,484,[[],[1000000]]),(1,484,[[],[1000000]]),(0,483,[[],[1000000]]),(7,480,[[],[1000000]]),(15,480,[[],[1000000]]),(0,31,[]),(32,31,[[1000000],[]]),(96,31,[]),(224,31,[]),(511,0,[]),(1023,0,[]),(2047,0,[[704],[]])] ?_
 |refine dc 47 11 hf 60 [(0,28,[[],[1000000]]),(1,28,[[],[1000000]]),(0,27,[[],[1000000]]),(0,7,[]),(8,7,[[1000000],[]]),(31,0,[]),(63,0,[]),(127,0,[[960],[]])] ?_
 |refine dc 47 13 hf 69 [(0,28,[[],[1000000]]),(1,28,[[],[1000000]]),(0,27,[[],[1000000]]),(0,7,[]),(8,7,[[1000000],[]]),(31,0,[]),(63,0,[]),(127,0,[[960],[]])] ?_
 |refine dc 47 15 hf 78 [(0,8188,[[],[1000000]]),(1,8188,[[],[1000000]]),(0,8187,[[],[1000000]]),(0,1575,[[],[1000000]]),(8,1575,[[],[1000000]]),(0,1567,[[],[1000000]]),(56,1543,[[],[1000000]]),(120,1543,[[],[1000000]]),(248,1543,[[],[1000000]]),(0,511,[]),(512,511,[[1000000],[]]),(2040,7,[]),(4088,7,[]),(8191,0,[]),(16383,0,[]),(32767,0,[[960],[]])] ?_
 |refine dc 47 17 hf 95 [(0,60,[[],[1000000]]),(1,60,[[],[1000000]]),(0,59,[[],[1000000]]),(0,7,[]),(8,7,[[1000000],[]]),(24,7,[]),(63,0,[]),(127,0,[]),(255,0,[[960],[]])] ?_
 |(refine Xn hr ?_;rintro rfl;with_reducible refine XP ?_)
 |exact Yw hr
 |((first|refine XB (c:=true) hr rfl ?_|refine XB (c:=false) hr rfl ?_|refine XB hr ag ?_);intro hr)
 |fail)
abbrev Qnh:=g10.1
abbrev Qni:=g10.2.1
abbrev Qi6:=g10.2.2.1
abbrev QiP:=g10.2.2.2.1
abbrev Qhp:=g10.2.2.2.2.1
abbrev Qf6:=g10.2.2.2.2.2.1
abbrev Qfx:=g10.2.2.2.2.2.2.1
abbrev Qpo:=g10.2.2.2.2.2.2.2
attribute [instance] Qnh Qni Qi6 QiP Qhp Qf6 Qfx Qpo
end Go.Sx
