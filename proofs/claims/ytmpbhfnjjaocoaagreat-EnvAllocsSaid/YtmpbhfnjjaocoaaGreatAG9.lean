import Derived.Test.YtmpbhfnjjaocoaaGreatAG6
import Derived.Test.YtmpbhfnjjaocoaaGreatAG7
import Derived.Test.YtmpbhfnjjaocoaaGreatAG8
set_option linter.all false
namespace Go.Sx
open Go.Proofs
set_option maxRecDepth 10000
set_option maxHeartbeats 100000000
abbrev Qjz:=λN a0 (Q:(Ex Bool Unit)→Prop) n (st:St)=>∃v3 v4 ex,QaB N a0 n v3 v4=some ex/\Q ex/\((∃w64,st.n=157/\st.t 1=.ept 64 w64 6 0 0/\st.t 3=vi v3/\st.t 4=vi v4/\st.s 64=some (w64,.arr true 27 6 [e27 a0] 0)))
abbrev Qja:=λN a0 a1 (Q:(List Wt)→Prop) n (st:St)=>∃v10 v11 ex,QaH N a0 a1 n v10 v11=some ex/\Q ex/\((∃w5760 w128 w256,st.n=202/\st.s 5760=some (w5760,.arr false 175 4 (v11.map XS) 0)/\st.t 1=vu a1/\st.t 2=.ept 128 w128 16 0 0/\st.t 4=.ept 256 w256 16 0 0/\st.t 14=vi v10/\st.s 128=some (w128,.arr true 138 16 [[vi a0.h.c.W,vi a0.h.c.p,s58 a0.h.w,.osl 5760 w5760 4 0 v11.length,vi a0.h.s,vi a0.h.b,s58 a0.o,s3 a0.t,s58 a0.q,vi a0.d,vi a0.r.j,vi a0.r.K,vi a0.r.F,vi a0.r.E,vi a0.r.f,vi a0.r.y]] 0)/\st.s 256=some (w256,.arr true 138 16 [[vi 0,vi 0,.nsl,.nsl,vi 0,vi 0,.nsl,.nsl,.nsl,vi 0,vi 0,vi 0,vi 0,vi 0,vi 0,vi 0]] 0)))
abbrev QjA:=λN a0 (Q:(List Int)→Prop) n (st:St)=>∃v3 v4 ex,Qbd N a0 n v3 v4=some ex/\Q ex/\((∃w320 w64,st.n=35/\st.s 320=some (w320,.arr false 58 1 (v4.map e58) 0)/\st.t 1=.ept 64 w64 13 0 0/\st.t 3=.osl 320 w320 1 0 v4.length/\st.t 4=vi v3/\st.s 64=some (w64,.arr true 38 13 [e38 a0] 0)))
abbrev QlA:=λN a0 a1 (Q:(Ex (Ww × Int) (List UM))→Prop) n (st:St)=>∃v3 v4 v5 ex,Qa8 N a0 a1 n v3 v4 v5=some ex/\Q ex/\((∃w1280 w128 w256,st.n=57/\st.s 1280=some (w1280,.arr false 107 3 (v5.map ZT) 0)/\st.t 1=s58 a1/\st.t 2=.ept 128 w128 3 0 0/\st.t 4=.ept 256 w256 3 0 0/\st.t 6=vi v3/\st.t 7=vi v4/\st.s 128=some (w128,.arr true 32 3 [[.osl 1280 w1280 3 0 v5.length,XbE a0.x,s3 a0.i]] 0)/\st.s 256=some (w256,.arr true 32 3 [[.nsl,.nsl,.nsl]] 0)))
abbrev Qks:=λN a0 (Q:(Ex Bool Unit)→Prop) n (st:St)=>∃v5 ex,Qdn N a0 n v5=some ex/\Q ex/\((∃w64,st.n=154/\st.t 1=.ept 64 w64 10 0 0/\st.t 3=vi v5/\st.s 64=some (w64,.arr true 65 10 [e65 a0] 0)))
abbrev Qkt:=λN a0 y11 (Q:(Ex Bool Unit)→Prop) n (st:St)=>∃v12 ex,Qdo N a0 y11 n v12=some ex/\Q ex/\((∃w4928 w64,st.n=154/\st.s 4928=some (w4928,.arr false 58 1 (y11.map e58) 0)/\st.t 1=.ept 64 w64 10 0 0/\st.t 5=.osl 4928 w4928 1 0 y11.length/\st.t 6=vi v12/\st.s 64=some (w64,.arr true 65 10 [e65 a0] 0)))
abbrev Qku:=λN a0 y11 (Q:(Ex Bool Unit)→Prop) n (st:St)=>∃v15 ex,Qdp N a0 y11 n v15=some ex/\Q ex/\((∃w4928 w64,st.n=154/\st.s 4928=some (w4928,.arr false 58 1 (y11.map e58) 0)/\st.t 1=.ept 64 w64 10 0 0/\st.t 5=.osl 4928 w4928 1 0 y11.length/\st.t 7=vi v15/\st.s 64=some (w64,.arr true 65 10 [e65 a0] 0)))
abbrev QjB:=λN a0 (Q:(List Int)→Prop) n (st:St)=>∃v3 v4 ex,QeW N a0 n v3 v4=some ex/\Q ex/\((∃w320 w64,st.n=35/\st.s 320=some (w320,.arr false 58 1 (v4.map e58) 0)/\st.t 1=.ept 64 w64 10 0 0/\st.t 3=.osl 320 w320 1 0 v4.length/\st.t 4=vi v3/\st.s 64=some (w64,.arr true 65 10 [e65 a0] 0)))
abbrev Qkv:=λN a0 (Q:(Ex Bool Unit)→Prop) n (st:St)=>∃v4 ex,Qdr N a0 n v4=some ex/\Q ex/\((∃w192,st.n=41/\st.t 3=.ept 192 w192 3 0 0/\st.t 27=XbE a0.x/\st.t 28=vi a0.x.length/\st.t 29=vi v4/\st.s 192=some (w192,.arr true 180 3 [e32 a0] 0)))
abbrev Qiy:=λN a0 y1 (Q:(List Int)→Prop) n (st:St)=>∃v2 v3 ex,Qb3 N a0 y1 n v2 v3=some ex/\Q ex/\((∃w1024 w64,st.n=19/\st.s 1024=some (w1024,.arr false 3 1 (v3.map e3) 0)/\st.t 1=.ept 64 w64 3 0 0/\st.t 3=.osl 1024 w1024 1 0 v3.length/\st.t 6=vi y1/\st.t 7=vi v2/\st.s 64=some (w64,.arr true 51 3 [e51 a0] 0))\/(∃w64,(st.n=19/\st.t 1=.ept 64 w64 3 0 0/\st.t 3=.nsl/\st.t 6=vi y1/\st.t 7=vi v2/\st.s 64=some (w64,.arr true 51 3 [e51 a0] 0))/\v3=[]))
abbrev QlB:=λN a1 a2 a3 y1 (Q:(List Wt)→Prop) n (st:St)=>∃v3 ex,QeQ N a1 a2 a3 y1 n v3=some ex/\Q ex/\((∃w1856,st.n=45/\st.s 1856=some (w1856,.arr false 175 4 (v3.map XS) 0)/\st.t 1=Yg a1/\st.t 2=vi a2/\st.t 3=vi a3/\st.t 13=vi y1/\st.t 14=.osl 1856 w1856 4 0 v3.length))
def g19:(∀N a0,OK (Qab N a0) 77 [.agg (e27 a0)] [] (λr=>.v (.bool r)) λr=>[])/\(∀N a0 a1,OK (QaZ N a0 a1) 145 [.agg (K4 a0),vu a1] [] (λr=>.tup [.agg (K4 r.1),vu r.2.1,vi r.2.2]) λr=>[])/\(∀N a0,OK (QdG N a0) 28 [.agg (e38 a0)] [] (λr=>s58 r) λr=>[])/\(∀N a0 a1,OK (QdA N a0 a1) 31 [.agg (e32 a0),s58 a1] [] (λr=>.tup [.agg (e32 r.1),vi r.2]) λr=>[])/\(∀N a0,OK (Qel N a0) 172 [.agg (e65 a0)] [] (λr=>.v (.bool r)) λr=>[])/\(∀N a0,OK (Qha N a0) 246 [.agg (e65 a0)] [] (λr=>.fsl 58 1 (r.map e58)) λr=>[])/\(∀N a0,OK (Qe9 N a0) 50 [.agg (e32 a0)] [] (λr=>.v (.bool r)) λr=>[])/\(∀N a0,OK (QdR N a0) 213 [.agg (e51 a0)] [] (λr=>s3 r) λr=>[])/\(∀N a0 a1 a2 a3 a4,OK (Qhm N a0 a1 a2 a3 a4) 161 [.agg (e23 a0),Yg a1,vi a2,vi a3,vi a4] [] (λr=>.tup [Yg r.1,vi r.2]) λr=>[]):=by
 refine⟨λN _=>rk Tryz.f77 [.tmp 2] [] 157 ?_,λN _ _=>rk Tryz.f145 [.cell 4 138,.tmp 5,.tmp 6] [] 202 ?_,λN _=>rk Tryz.f28 [.tmp 2] [] 35 ?_,λN _ _=>rk Tryz.f31 [.cell 4 32,.tmp 5] [] 57 ?_,λN _=>rk Tryz.f172 [.tmp 2] [] 154 ?_,λN _=>rk Tryz.f246 [.tmp 2] [320] 35 ?_,λN _=>rk Tryz.f50 [.tmp 2] [] 41 ?_,λN _=>rk Tryz.f213 [.tmp 2] [] 19 ?_,λN _ _ _ _ _=>rk Tryz.f161 [.tmp 10,.tmp 11] [] 45 ?_⟩<;>(rintro _ hw r hr C _ rfl hwf hf;have hse:=@Zw _ hw;simp only[Tryz.f77,Tryz.f145,Tryz.f28,Tryz.f31,Tryz.f172,Tryz.f246,Tryz.f50,Tryz.f213,Tryz.f161,Option.get!];(first|rw[Qab]at hr|rw[QaZ]at hr|rw[QdG]at hr|rw[QdA]at hr|rw[Qel]at hr|rw[Qha]at hr|rw[Qe9]at hr|rw[QdR]at hr|rw[Qhm]at hr);repeat' first
 |(refine El.el hr ?_;clear hr;intro hr)
 |(with_reducible intro h;refine XB hr h ?_;clear hr;intro hr)
 |with_reducible intro _
 |(refine Xn hr ?_;rintro rfl;have hr:=hk;clear hk)
 |simp only[go_sem,simprocAttr,E,Xu,ZU,XX,YE,Xj,Kk,Kv,hse]
 |(with_reducible first|apply Xi|apply Xh|apply Xs|apply Xq|apply Xr)
 |((first|with_reducible refine Yq hr ag ?_ ?_|(with_reducible refine Yn hr ?_ ?_;rotate_left;intro p;rotate_right));(·simp only[go_sem,simprocAttr,hse]);intro hp hn hd hr;(try have Xu:=hd _ e58);(try simp only[go_sem,simprocAttr]at Xu);(try have ZU:=hd _ e84);(try simp only[go_sem,simprocAttr]at ZU);(try have XX:=hd _ ZT);(try simp only[go_sem,simprocAttr]at XX);(try have YE:=hd _ K6);(try simp only[go_sem,simprocAttr]at YE);(try have Xj:=hd _ XS);(try simp only[go_sem,simprocAttr]at Xj);(try have Kk:=hd _ Xbg);(try simp only[go_sem,simprocAttr]at Kk);(try have Kv:=hd _ Xdx);(try simp only[go_sem,simprocAttr]at Kv))
 |(refine Xt ?_ ?_;.first|assumption|omega)
 |(with_reducible first|refine CallX.c ?_ _|refine OK.c hr hw ?_ (λy hr=>?_) _|refine IM hr hw ?_ (λy hr=>?_) _)
 |(with_reducible refine lp (Qjz N _) hr N ?_ (λex hq hk=>⟨_,_,ex,hq,hk,?_⟩) _;clear hr;(try clear E);rintro n1 st ⟨v3,v4,ex,hr,hk,⟨_,E⟩⟩<;>(obtain _|n1:=n1<;>rw[QaB]at hr))
 |refine⟨_,Wz _,_,_,_,hr,hk,?_⟩
 |(with_reducible refine lp (Qja N _ _) hr N ?_ (λex hq hk=>⟨_,_,ex,hq,hk,?_⟩) _;clear hr;(try clear E);rintro n1 st ⟨v10,v11,ex,hr,hk,⟨_,_,_,E⟩⟩<;>(obtain _|n1:=n1<;>rw[QaH]at hr))
 |(with_reducible refine lp (QjA N _) hr N ?_ (λex hq hk=>⟨_,_,ex,hq,hk,?_⟩) _;clear hr;(try clear E);rintro n1 st ⟨v3,v4,ex,hr,hk,⟨_,_,E⟩⟩<;>(obtain _|n1:=n1<;>rw[Qbd]at hr))
 |(with_reducible refine lp (QlA N _ _) hr N ?_ (λex hq hk=>⟨_,_,_,ex,hq,hk,?_⟩) _;clear hr;(try clear E);rintro n1 st ⟨v3,v4,v5,ex,hr,hk,⟨_,_,_,E⟩⟩<;>(obtain _|n1:=n1<;>rw[Qa8]at hr))
 |refine⟨_,Wz _,_,_,_,_,hr,hk,?_⟩
 |(with_reducible refine lp (Qks N _) hr N ?_ (λex hq hk=>⟨_,ex,hq,hk,?_⟩) _;clear hr;(try clear E);rintro n1 st ⟨v5,ex,hr,hk,⟨_,E⟩⟩<;>(obtain _|n1:=n1<;>rw[Qdn]at hr))
 |refine⟨_,Wz _,_,_,hr,hk,?_⟩
 |(with_reducible refine lp (Qkt N _ _) hr N ?_ (λex hq hk=>⟨_,ex,hq,hk,?_⟩) _;clear hr;(try clear E);rintro n2 st ⟨v12,ex,hr,hk,⟨_,_,E⟩⟩<;>(obtain _|n2:=n2<;>rw[Qdo]at hr))
 |(with_reducible refine lp (Qku N _ _) hr N ?_ (λex hq hk=>⟨_,ex,hq,hk,?_⟩) _;clear hr;(try clear E);rintro n3 st ⟨v15,ex,hr,hk,⟨_,_,E⟩⟩<;>(obtain _|n3:=n3<;>rw[Qdp]at hr))
 |(with_reducible refine lp (QjB N _) hr N ?_ (λex hq hk=>⟨_,_,ex,hq,hk,?_⟩) _;clear hr;(try clear E);rintro n1 st ⟨v3,v4,ex,hr,hk,⟨_,_,E⟩⟩<;>(obtain _|n1:=n1<;>rw[QeW]at hr))
 |(with_reducible refine lp (Qkv N _) hr N ?_ (λex hq hk=>⟨_,ex,hq,hk,?_⟩) _;clear hr;(try clear E);rintro n1 st ⟨v4,ex,hr,hk,⟨_,E⟩⟩<;>(obtain _|n1:=n1<;>rw[Qdr]at hr))
 |(with_reducible refine lp (Qiy N _ _) hr N ?_ (λex hq hk=>⟨_,_,ex,hq,hk,?_⟩) _;clear hr;(try clear E);rintro n1 st ⟨v2,v3,ex,hr,hk,(⟨_,_,E⟩|⟨_,E,z0⟩)⟩<;>(try subst z0)<;>(obtain _|n1:=n1<;>rw[Qb3]at hr))
 |(with_reducible refine lp (QlB N _ _ _ _) hr N ?_ (λex hq hk=>⟨_,ex,hq,hk,?_⟩) _;clear hr;(try clear E);rintro n1 st ⟨v3,ex,hr,hk,⟨_,E⟩⟩<;>(obtain _|n1:=n1<;>rw[QeQ]at hr))
 |refine dc 28 1 hf 5 [(0,54,[[320],[]]),(0,49,[[],[320]]),(2,49,[[],[320]]),(7,48,[[320],[]]),(0,15,[[],[320]]),(16,15,[[],[320]]),(63,0,[]),(127,0,[[320],[]]),(255,0,[])] ?_
 |refine dc 31 11 hf 45 [(0,124,[]),(1,124,[]),(0,123,[]),(0,23,[]),(0,15,[]),(24,7,[]),(56,7,[]),(127,0,[]),(255,0,[]),(511,0,[[1280],[]])] ?_
 |refine dc 172 7 hf 60 [(0,0,[]),(1,0,[]),(3,0,[]),(7,0,[]),(15,0,[]),(31,0,[]),(63,0,[]),(127,0,[]),(255,0,[]),(511,0,[]),(1023,0,[]),(2047,56,[]),(4095,56,[]),(8191,56,[]),(2047,7,[]),(18431,7,[]),(51199,7,[]),(131071,0,[]),(262143,0,[]),(524287,0,[]),(1048575,3072,[]),(1048575,512,[]),(3145727,512,[]),(8388607,0,[]),(16777215,0,[]),(33554431,0,[])] ?_
 |refine dc 172 21 hf 131 [(0,6,[]),(0,1,[]),(2,1,[]),(7,0,[]),(15,0,[]),(31,448,[]),(31,32,[]),(95,32,[]),(223,32,[]),(511,0,[]),(1023,0,[]),(2047,0,[]),(4095,8192,[]),(4095,4096,[]),(16383,0,[]),(32767,0,[]),(65535,0,[]),(131071,1835008,[[],[9664]]),(131071,131072,[]),(393215,131072,[]),(917503,131072,[[9664],[]]),(2097151,0,[]),(4194303,0,[]),(8388607,0,[])] ?_
 |refine dc 246 1 hf 5 [(0,54,[[320],[]]),(0,49,[[],[320]]),(2,49,[[],[320]]),(7,48,[[320],[]]),(0,15,[[],[320]]),(16,15,[[],[320]]),(63,0,[]),(127,0,[[320],[]]),(255,0,[])] ?_
 |refine dc 50 9 hf 34 [(0,26,[]),(0,25,[]),(3,24,[]),(0,7,[]),(8,7,[]),(31,0,[])] ?_
 |(refine Xn hr ?_;rintro rfl;with_reducible refine XP ?_)
 |exact Yw hr
 |((first|refine XB (c:=true) hr rfl ?_|refine XB (c:=false) hr rfl ?_|refine XB hr ag ?_);intro hr)
 |fail)
abbrev QmB:=g19.1
abbrev QlC:=g19.2.1
abbrev QmC:=g19.2.2.1
abbrev QoR:=g19.2.2.2.1
abbrev Qnx:=g19.2.2.2.2.1
abbrev QmD:=g19.2.2.2.2.2.1
abbrev Qny:=g19.2.2.2.2.2.2.1
abbrev QjC:=g19.2.2.2.2.2.2.2.1
abbrev QoS:=g19.2.2.2.2.2.2.2.2
attribute [instance] QmB QlC QmC QoR Qnx QmD Qny QjC QoS
end Go.Sx
