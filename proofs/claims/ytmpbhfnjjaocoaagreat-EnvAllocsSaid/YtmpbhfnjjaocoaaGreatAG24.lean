import Derived.Test.YtmpbhfnjjaocoaaGreatAG23
set_option linter.all false
namespace Go.Sx
open Go.Proofs
set_option maxRecDepth 10000
set_option maxHeartbeats 100000000
abbrev Qjj:=λN a0 y4 y5 y6 y7 y8 y9 (Q:(List UH)→Prop) n (st:St)=>∃v10 v11 ex,QaU N a0 y4 y5 y6 y7 y8 y9 n v10 v11=some ex/\Q ex/\((∃w3328 w7872 w64 w128 w192 w512 w640,st.n=127/\st.s 3328=some (w3328,.arr false 58 1 ((y4.2.1.take (a0.R.length:Int).toNat).map e58) 0)/\st.s 7872=some (w7872,.arr false 84 2 (v11.map e84) 0)/\st.t 1=.ept 64 w64 13 0 0/\st.t 2=.ept 128 w128 13 0 0/\st.t 3=.ept 192 w192 6 0 0/\st.t 6=s58 y4.2.1/\st.t 8=.ept 512 w512 6 0 0/\st.t 10=.ept 640 w640 13 0 0/\st.t 11=vi a0.R.length/\st.t 12=vi y5.length/\st.t 13=vi y6.length/\st.t 14=vi v10/\st.s 64=some (w64,.arr true 38 13 [e38 a0] 0)/\st.s 128=some (w128,.arr true 38 13 [[vi 0,vi 0,.nsl,.nsl,vi 0,vi 0,.nsl,.nsl,.nsl,.nsl,.nsl,.nsl,.nsl]] 0)/\st.s 192=some (w192,.arr true 42 6 [[vi 0,vi 0,vi 0,vi 0,vi 0,vi 0]] 0)/\st.s 512=some (w512,.arr true 42 6 [e42 y4.2.2.2.1] 0)/\st.s 640=some (w640,.arr true 38 13 [[vi y4.1.c.W,vi y4.1.c.p,s58 y4.1.w,Yg y4.1.p,vi y4.1.s,vi y4.1.b,XbD y7.1.S,XbE y7.1.x,s3 y7.1.i,K5 y8.1.e,K5 y9.1.e,.osl 7872 w7872 2 0 v11.length,.osl 3328 w3328 1 0 (min ((a0.R.length:Int).toNat) y4.2.1.length)]] 0))\/(∃w3328 w64 w128 w192 w512 w640,(st.n=127/\st.s 3328=some (w3328,.arr false 58 1 ((y4.2.1.take (a0.R.length:Int).toNat).map e58) 0)/\st.t 1=.ept 64 w64 13 0 0/\st.t 2=.ept 128 w128 13 0 0/\st.t 3=.ept 192 w192 6 0 0/\st.t 6=s58 y4.2.1/\st.t 8=.ept 512 w512 6 0 0/\st.t 10=.ept 640 w640 13 0 0/\st.t 11=vi a0.R.length/\st.t 12=vi y5.length/\st.t 13=vi y6.length/\st.t 14=vi v10/\st.s 64=some (w64,.arr true 38 13 [e38 a0] 0)/\st.s 128=some (w128,.arr true 38 13 [[vi 0,vi 0,.nsl,.nsl,vi 0,vi 0,.nsl,.nsl,.nsl,.nsl,.nsl,.nsl,.nsl]] 0)/\st.s 192=some (w192,.arr true 42 6 [[vi 0,vi 0,vi 0,vi 0,vi 0,vi 0]] 0)/\st.s 512=some (w512,.arr true 42 6 [e42 y4.2.2.2.1] 0)/\st.s 640=some (w640,.arr true 38 13 [[vi y4.1.c.W,vi y4.1.c.p,s58 y4.1.w,Yg y4.1.p,vi y4.1.s,vi y4.1.b,XbD y7.1.S,XbE y7.1.x,s3 y7.1.i,K5 y8.1.e,K5 y9.1.e,.nsl,.osl 3328 w3328 1 0 (min ((a0.R.length:Int).toNat) y4.2.1.length)]] 0))/\v11=[]))
abbrev QmP:=λN a0 y2 (Q:(Ex Bool Unit)→Prop) n (st:St)=>∃v3 ex,QeD N a0 y2 n v3=some ex/\Q ex/\((st.n=41/\st.t 5=s3 y2.1/\st.t 26=Yg a0.p/\st.t 27=vi a0.p.length/\st.t 28=vi v3))
abbrev QiW:=λN a0 y3 y4 y5 (Q:(List Wt)→Prop) n (st:St)=>∃v6 v7 ex,QbY N a0 y3 y4 y5 n v6 v7=some ex/\Q ex/\((∃w1728 w1920 w64 w128,st.n=61/\st.s 1728=some (w1728,.arr false 58 1 (y4.map e58) 0)/\st.s 1920=some (w1920,.arr false 175 4 (v7.map XS) 0)/\st.t 1=.ept 64 w64 6 0 0/\st.t 2=.ept 128 w128 16 0 0/\st.t 4=s58 y3.1/\st.t 34=.osl 1920 w1920 4 0 v7.length/\st.t 35=vi y5.length/\st.t 36=vi v6/\st.s 64=some (w64,.arr true 27 6 [[vi a0.c.W,vi a0.c.p,.osl 1728 w1728 1 0 y4.length,.osl 1920 w1920 4 0 v7.length,vi a0.s,vi a0.b]] 0)/\st.s 128=some (w128,.arr true 123 16 [[vi 0,vi 0,.nsl,.nsl,vi 0,vi 0,.nsl,.nsl,.nsl,vi 0,vi 0,vi 0,vi 0,vi 0,vi 0,vi 0]] 0)))
def g39:(∀N a0,OK (Qba N a0) 7 [.agg (e38 a0)] [] (λr=>.tup [.agg (e38 r.1),.agg (e42 r.2.1),vi r.2.2]) λr=>[])/\(∀N a0 a1,OK (QhG N a0 a1) 49 [.agg (e27 a0),s84 a1] [] (λr=>.v (.bool r)) λr=>[])/\(∀N a0,OK (Qey N a0) 56 [.agg (e27 a0)] [] (λr=>.tup [.agg (Xff r.1),vi r.2]) λr=>[]):=by
 refine⟨λN _=>rk Tryz.f7 [.cell 2 38,.cell 3 42,.tmp 4] [] 127 ?_,λN _ _=>rk Tryz.f49 [.tmp 4] [] 41 ?_,λN _=>rk Tryz.f56 [.cell 2 123,.tmp 3] [] 61 ?_⟩<;>(rintro _ hw r hr C _ rfl hwf hf;have hse:=@Zw _ hw;simp only[Tryz.f7,Tryz.f49,Tryz.f56,Option.get!];(first|rw[Qba]at hr|rw[QhG]at hr|rw[Qey]at hr);repeat' first
 |(refine El.el hr ?_;clear hr;intro hr)
 |(with_reducible intro h;refine XB hr h ?_;clear hr;intro hr)
 |with_reducible intro _
 |(refine Xn hr ?_;rintro rfl;have hr:=hk;clear hk)
 |simp only[go_sem,simprocAttr,E,hl3,Xu,ZU,Xj,hse,Wj,Wl,WA]
 |(with_reducible first|apply Xi|apply Xh|apply Xs|apply Xq|apply Xr)
 |((first|with_reducible refine Yq hr ag ?_ ?_|(with_reducible refine Yn hr ?_ ?_;rotate_left;intro p;rotate_right));(·simp only[go_sem,simprocAttr,hse,Wj,Wl,WA]);intro hp hn hd hr;(try have hl3:=hd _ e3);(try simp only[go_sem,simprocAttr]at hl3);(try have Xu:=hd _ e58);(try simp only[go_sem,simprocAttr]at Xu);(try have ZU:=hd _ e84);(try simp only[go_sem,simprocAttr]at ZU);(try have Xj:=hd _ XS);(try simp only[go_sem,simprocAttr]at Xj))
 |(refine Xt ?_ ?_;.first|assumption|omega)
 |(with_reducible first|refine CallX.c ?_ _|refine OK.c hr hw ?_ (λy hr=>?_) _|refine IM hr hw ?_ (λy hr=>?_) _)
 |(with_reducible refine lp (Qjj N _ _ _ _ _ _ _) hr N ?_ (λex hq hk=>⟨_,_,ex,hq,hk,?_⟩) _;clear hr;(try clear E);rintro n1 st ⟨v10,v11,ex,hr,hk,(⟨_,_,_,_,_,_,_,E⟩|⟨_,_,_,_,_,_,E,z0⟩)⟩<;>(try subst z0)<;>(obtain _|n1:=n1<;>rw[QaU]at hr))
 |refine⟨_,Wz _,_,_,_,hr,hk,?_⟩
 |(with_reducible refine lp (QmP N _ _) hr N ?_ (λex hq hk=>⟨_,ex,hq,hk,?_⟩) _;clear hr;(try clear E);rintro n1 st ⟨v3,ex,hr,hk,E⟩<;>(obtain _|n1:=n1<;>rw[QeD]at hr))
 |refine⟨_,Wz _,_,_,hr,hk,?_⟩
 |(with_reducible refine lp (QiW N _ _ _ _) hr N ?_ (λex hq hk=>⟨_,_,ex,hq,hk,?_⟩) _;clear hr;(try clear E);rintro n1 st ⟨v6,v7,ex,hr,hk,⟨_,_,_,_,E⟩⟩<;>(obtain _|n1:=n1<;>rw[QbY]at hr))
 |refine dc 7 3 hf 5 [(0,8126473,[[],[320,512,1728]]),(1,8126473,[[],[320,512,1728]]),(0,3342345,[[],[320,512]]),(4,3342345,[[],[320,512]]),(0,983049,[[],[320,512]]),(16,983049,[[],[320,512]]),(60,196617,[[1728],[320,512]]),(127,9,[[1728],[320,512]]),(255,9,[[],[320,512]]),(511,503316489,[[],[320,512]]),(511,486539273,[[],[320,512]]),(511,452984843,[[],[320,512]]),(511,385875983,[[],[320,512]]),(511,251658255,[[],[320,512]]),(0,536838152,[[320],[512,1728]]),(0,536838145,[[512],[320,1728]]),(50175,503316480,[[320],[]]),(116735,469762048,[]),(249855,402653184,[]),(516095,268435456,[[512],[]]),(1048575,0,[])] ?_
 |refine dc 7 7 hf 11 [(0,2190433320960,[[],[3200]]),(1,2190433320960,[[],[3200]]),(3,2190433320960,[[],[3200]]),(0,419833053184,[]),(8,419833053184,[]),(24,419833053184,[]),(56,2069100494849,[[],[3200]]),(0,136365211648,[]),(128,136365211648,[]),(440,76235669504,[[3200],[]]),(952,76235669507,[]),(959,1168231104512,[]),(3071,1099511627776,[]),(8191,0,[])] ?_
 |refine dc 7 9 hf 59 [(0,252,[]),(1,252,[]),(0,123,[]),(0,119,[]),(0,47,[]),(0,31,[]),(48,15,[]),(124,3,[]),(255,0,[]),(511,0,[]),(1023,1024,[]),(1023,2560,[[],[640]]),(2047,1024,[]),(6143,1024,[[640],[]])] ?_
 |refine dc 7 10 hf 72 [(0,4092,[]),(1,4092,[]),(0,2043,[]),(0,2007,[]),(0,1999,[]),(24,1991,[]),(0,703,[]),(0,639,[]),(192,575,[]),(0,511,[]),(960,63,[]),(2044,3,[]),(4095,0,[]),(8191,0,[]),(16383,16384,[]),(16383,40960,[[],[640]]),(32767,16384,[]),(98303,16384,[[640],[]])] ?_
 |refine dc 7 15 hf 103 [(0,1048572,[[],[7808]]),(1,1048572,[[],[7808]]),(0,259067,[]),(0,258391,[]),(0,258383,[]),(24,258375,[]),(0,258367,[]),(120,258311,[]),(0,258303,[]),(504,258055,[]),(1020,258051,[]),(2044,258051,[]),(0,20479,[]),(4096,20479,[]),(0,16383,[]),(28672,4095,[]),(61440,4095,[]),(126976,4095,[]),(262140,3,[]),(524284,3,[[7808],[]]),(1048575,0,[[7872],[]]),(2097151,0,[]),(4194303,0,[[640],[]])] ?_
 |refine dc 7 16 hf 125 [(0,2,[]),(0,1,[[],[128]]),(1,2,[[128],[]]),(7,0,[[192],[]]),(15,0,[])] ?_
 |refine dc 49 9 hf 33 [(0,60,[]),(1,60,[]),(0,11,[]),(0,7,[]),(12,3,[]),(28,3,[]),(63,0,[])] ?_
 |refine dc 56 8 hf 25 [(0,24,[]),(1,24,[]),(3,24,[[1728],[]]),(0,7,[[],[1728]]),(8,7,[[],[1728]]),(31,64,[[1920],[]]),(31,32,[[],[1920]]),(127,0,[[64],[]]),(255,0,[]),(511,0,[[64],[]])] ?_
 |(refine Xn hr ?_;rintro rfl;with_reducible refine XP ?_)
 |exact Yw hr
 |((first|refine XB (c:=true) hr rfl ?_|refine XB (c:=false) hr rfl ?_|refine XB hr ag ?_);intro hr)
 |fail)
abbrev Ql1:=g39.1
abbrev QpM:=g39.2.1
abbrev QkN:=g39.2.2
attribute [instance] Ql1 QpM QkN
def g38:(∀N a0 a1,OK (Qbu N a0 a1) 251 [.agg (e38 a0),vu a1] [] (λr=>.tup [vu r.1,vi r.2]) λr=>[])/\(∀N a0 a1,OK (QdP N a0 a1) 53 [.agg (e27 a0),s58 a1] [] (λr=>.v (.bool r)) λr=>[]):=by
 refine⟨λN _ _=>rk Tryz.f251 [.tmp 4,.tmp 5] [] 54 ?_,λN _ _=>rk Tryz.f53 [.tmp 4] [] 19 ?_⟩<;>(rintro _ hw r hr C _ rfl hwf hf;simp only[Tryz.f251,Tryz.f53,Option.get!];(first|rw[Qbu]at hr|rw[QdP]at hr);repeat' first
 |(refine El.el hr ?_;clear hr;intro hr)
 |(with_reducible intro h;refine XB hr h ?_;clear hr;intro hr)
 |with_reducible intro _
 |simp only[go_sem,simprocAttr]
 |(with_reducible first|apply Xi|apply Xh|apply Xs)
 |(refine Xt ?_ ?_;.first|assumption|omega)
 |(with_reducible first|refine CallX.c ?_ _|refine OK.c hr hw ?_ (λy hr=>?_) _)
 |(refine Xn hr ?_;rintro rfl;with_reducible refine XP ?_)
 |exact Yw hr
 |fail)
abbrev Ql2:=g38.1
abbrev QmQ:=g38.2
attribute [instance] Ql2 QmQ
end Go.Sx
