import Derived.Test.YtcclgbgphjofaaaGreatHG5
import Derived.Test.YtcclgbgphjofaaaGreatHG6
set_option linter.all false
namespace Go.Sx
open Go.Proofs
set_option maxRecDepth 10000
set_option maxHeartbeats 100000000
abbrev QiQ:=λN d (Q:(List Int)→Prop) n (st:St)=>∃e c f,Qbm N d n e c=some f/\Q f/\((∃a b,st.n=35/\st.s 320=some (a,.arr false 55 1 (c.map e55) 0)/\st.t 1=.ept 64 b 13 0 0/\st.t 3=.osl 320 a 1 0 c.length/\st.t 4=vi e/\st.s 64=some (b,.arr true 38 13 [e38 d] 0)))
abbrev QiR:=λN b (Q:(Ex Bool Unit)→Prop) n (st:St)=>∃c d e,QaB N b n c d=some e/\Q e/\((∃a,st.n=157/\st.t 1=.ept 64 a 6 0 0/\st.t 3=vi c/\st.t 4=vi d/\st.s 64=some (a,.arr true 28 6 [e28 b] 0)))
abbrev Qiy:=λN a m (Q:(List WJ)→Prop) n (st:St)=>∃l k u,QbG N a m n l k=some u/\Q u/\((∃e g i,st.n=202/\st.s 5760=some (e,.arr false 144 4 (k.map Y8) 0)/\st.t 1=vu m/\st.t 2=.ept 128 g 16 0 0/\st.t 4=.ept 256 i 16 0 0/\st.t 14=vi l/\st.s 128=some (g,.arr true 204 16 [[vi a.h.c.W,vi a.h.c.p,s55 a.h.w,.osl 5760 e 4 0 k.length,vi a.h.s,vi a.h.b,s55 a.o,s3 a.t,s55 a.q,vi a.d,vi a.r.j,vi a.r.K,vi a.r.F,vi a.r.E,vi a.r.f,vi a.r.y]] 0)/\st.s 256=some (i,.arr true 204 16 [[vi 0,vi 0,.nsl,.nsl,vi 0,vi 0,.nsl,.nsl,.nsl,vi 0,vi 0,vi 0,vi 0,vi 0,vi 0,vi 0]] 0)))
abbrev Qkx:=λN d f (Q:(Ex (WD × Int) (List UW))→Prop) n (st:St)=>∃g h e j,Qbz N d f n g h e=some j/\Q j/\((∃a b c,st.n=57/\st.s 1280=some (a,.arr false 134 3 (e.map Vl) 0)/\st.t 1=s55 f/\st.t 2=.ept 128 b 3 0 0/\st.t 4=.ept 256 c 3 0 0/\st.t 6=vi g/\st.t 7=vi h/\st.s 128=some (b,.arr true 32 3 [[.osl 1280 a 3 0 e.length,Y9 d.x,s3 d.i]] 0)/\st.s 256=some (c,.arr true 32 3 [[.nsl,.nsl,.nsl]] 0)))
abbrev QjD:=λN b (Q:(Ex Bool Unit)→Prop) n (st:St)=>∃c d,Qdp N b n c=some d/\Q d/\((∃a,st.n=154/\st.t 1=.ept 64 a 10 0 0/\st.t 3=vi c/\st.s 64=some (a,.arr true 42 10 [e42 b] 0)))
abbrev QjE:=λN e b (Q:(Ex Bool Unit)→Prop) n (st:St)=>∃c f,Qdq N e b n c=some f/\Q f/\((∃a d,st.n=154/\st.s 4928=some (a,.arr false 55 1 (b.map e55) 0)/\st.t 1=.ept 64 d 10 0 0/\st.t 5=.osl 4928 a 1 0 b.length/\st.t 6=vi c/\st.s 64=some (d,.arr true 42 10 [e42 e] 0)))
abbrev QjF:=λN e b (Q:(Ex Bool Unit)→Prop) n (st:St)=>∃c f,Qdr N e b n c=some f/\Q f/\((∃a d,st.n=154/\st.s 4928=some (a,.arr false 55 1 (b.map e55) 0)/\st.t 1=.ept 64 d 10 0 0/\st.t 5=.osl 4928 a 1 0 b.length/\st.t 7=vi c/\st.s 64=some (d,.arr true 42 10 [e42 e] 0)))
abbrev QiS:=λN d (Q:(List Int)→Prop) n (st:St)=>∃e c f,Qc2 N d n e c=some f/\Q f/\((∃a b,st.n=35/\st.s 320=some (a,.arr false 55 1 (c.map e55) 0)/\st.t 1=.ept 64 b 10 0 0/\st.t 3=.osl 320 a 1 0 c.length/\st.t 4=vi e/\st.s 64=some (b,.arr true 42 10 [e42 d] 0)))
abbrev QhU:=λN d e (Q:(List Int)→Prop) n (st:St)=>∃f c g,Qb7 N d e n f c=some g/\Q g/\((∃a b,st.n=19/\st.s 1024=some (a,.arr false 3 1 (c.map e3) 0)/\st.t 1=.ept 64 b 3 0 0/\st.t 3=.osl 1024 a 1 0 c.length/\st.t 6=vi e/\st.t 7=vi f/\st.s 64=some (b,.arr true 84 3 [e84 d] 0))\/(∃b,(st.n=19/\st.t 1=.ept 64 b 3 0 0/\st.t 3=.nsl/\st.t 6=vi e/\st.t 7=vi f/\st.s 64=some (b,.arr true 84 3 [e84 d] 0))/\c=[]))
abbrev QjG:=λN b (Q:(Ex Bool Unit)→Prop) n (st:St)=>∃c d,Qdw N b n c=some d/\Q d/\((∃a,st.n=41/\st.t 3=.ept 192 a 3 0 0/\st.t 27=Y9 b.x/\st.t 28=vi b.x.length/\st.t 29=vi c/\st.s 192=some (a,.arr true 179 3 [e32 b] 0)))
def g15:(∀N a0,OK (QcW N a0) 9 [.agg (e38 a0)] [] (λr=>s55 r) λr=>[])/\(∀N a0,OK (Qab N a0) 22 [.agg (e28 a0)] [] (λr=>.v (.bool r)) λr=>[])/\(∀N a0 a1,OK (Qce N a0 a1) 198 [.agg (JH a0),vu a1] [] (λr=>.tup [.agg (JH r.1),vu r.2.1,vi r.2.2]) λr=>[])/\(∀N a0 a1,OK (Qd6 N a0 a1) 72 [.agg (e32 a0),s55 a1] [] (λr=>.tup [.agg (e32 r.1),vi r.2]) λr=>[])/\(∀N a0,OK (Qed N a0) 74 [.agg (e42 a0)] [] (λr=>.v (.bool r)) λr=>[])/\(∀N a0,OK (Qe7 N a0) 139 [.agg (e42 a0)] [] (λr=>.fsl 55 1 (r.map e55)) λr=>[])/\(∀N a0,OK (QdS N a0) 110 [.agg (e84 a0)] [] (λr=>s3 r) λr=>[])/\(∀N a0,OK (QeW N a0) 39 [.agg (e32 a0)] [] (λr=>.v (.bool r)) λr=>[]):=by
 refine⟨λN _=>rk Tryz.f9 ?_,λN _=>rk Tryz.f22 ?_,λN _ _=>rk Tryz.f198 ?_,λN _ _=>rk Tryz.f72 ?_,λN _=>rk Tryz.f74 ?_,λN _=>rq Tryz.f139 [320] ?_,λN _=>rk Tryz.f110 ?_,λN _=>rk Tryz.f39 ?_⟩<;>(rintro _ hw r hr C _ rfl hwf hf;simp only[Tryz.f9,Tryz.f22,Tryz.f198,Tryz.f72,Tryz.f74,Tryz.f139,Tryz.f110,Tryz.f39,Option.get!];(first|rw[QcW]at hr|rw[Qab]at hr|rw[Qce]at hr|rw[Qd6]at hr|rw[Qed]at hr|rw[Qe7]at hr|rw[QdS]at hr|rw[QeW]at hr);repeat' first
 |(refine El.el hr ?_;intro hr)
 |(with_reducible intro h;refine XH hr h ?_;intro hr)
 |with_reducible intro _
 |(refine Xu hr ?_;rintro rfl;have hr:=hk;clear hk)
 |simp only[go_sem,simprocAttr,E,X2,VP,Xan,K3,Km,YW,XS]
 |(with_reducible first|apply Xk|apply Xj|apply XA|apply XF|apply XG)
 |((first|with_reducible refine Y1 hr ag ?_ ?_|(with_reducible refine YN hr ?_ ?_;rotate_left;intro p;rotate_right));(·simp only[go_sem,simprocAttr]);intro hp hn hd hr;(try have X2:=hd _ e55);(try simp only[go_sem,simprocAttr]at X2);(try have VP:=hd _ e86);(try simp only[go_sem,simprocAttr]at VP);(try have Xan:=hd _ e89);(try simp only[go_sem,simprocAttr]at Xan);(try have K3:=hd _ e99);(try simp only[go_sem,simprocAttr]at K3);(try have Km:=hd _ XaR);(try simp only[go_sem,simprocAttr]at Km);(try have YW:=hd _ Vl);(try simp only[go_sem,simprocAttr]at YW);(try have XS:=hd _ Y8);(try simp only[go_sem,simprocAttr]at XS))
 |(refine XB ?_ ?_;.first|assumption|omega)
 |(with_reducible first|refine CallX.c ?_ _|refine OK.c hr hw ?_ (λy hr=>?_) _|refine OK.d hr hw ?_ (λy hr=>?_) _)
 |(with_reducible refine lp (QiQ N _) hr N ?_ (λex hq hk=>⟨_,_,ex,hq,hk,?_⟩) _;clear hr;(try clear E);rintro n1 st ⟨v3,v4,ex,hr,hk,⟨_,_,E⟩⟩<;>(obtain _|n1:=n1<;>rw[Qbm]at hr))
 |refine⟨_,WK _,_,_,_,hr,hk,?_⟩
 |(with_reducible refine lp (QiR N _) hr N ?_ (λex hq hk=>⟨_,_,ex,hq,hk,?_⟩) _;clear hr;(try clear E);rintro n1 st ⟨v3,v4,ex,hr,hk,⟨_,E⟩⟩<;>(obtain _|n1:=n1<;>rw[QaB]at hr))
 |(with_reducible refine lp (Qiy N _ _) hr N ?_ (λex hq hk=>⟨_,_,ex,hq,hk,?_⟩) _;clear hr;(try clear E);rintro n1 st ⟨v10,v11,ex,hr,hk,⟨_,_,_,E⟩⟩<;>(obtain _|n1:=n1<;>rw[QbG]at hr))
 |(with_reducible refine lp (Qkx N _ _) hr N ?_ (λex hq hk=>⟨_,_,_,ex,hq,hk,?_⟩) _;clear hr;(try clear E);rintro n1 st ⟨v3,v4,v5,ex,hr,hk,⟨_,_,_,E⟩⟩<;>(obtain _|n1:=n1<;>rw[Qbz]at hr))
 |refine⟨_,WK _,_,_,_,_,hr,hk,?_⟩
 |(with_reducible refine lp (QjD N _) hr N ?_ (λex hq hk=>⟨_,ex,hq,hk,?_⟩) _;clear hr;(try clear E);rintro n1 st ⟨v5,ex,hr,hk,⟨_,E⟩⟩<;>(obtain _|n1:=n1<;>rw[Qdp]at hr))
 |refine⟨_,WK _,_,_,hr,hk,?_⟩
 |(with_reducible refine lp (QjE N _ _) hr N ?_ (λex hq hk=>⟨_,ex,hq,hk,?_⟩) _;clear hr;(try clear E);rintro n2 st ⟨v12,ex,hr,hk,⟨_,_,E⟩⟩<;>(obtain _|n2:=n2<;>rw[Qdq]at hr))
 |(with_reducible refine lp (QjF N _ _) hr N ?_ (λex hq hk=>⟨_,ex,hq,hk,?_⟩) _;clear hr;(try clear E);rintro n3 st ⟨v15,ex,hr,hk,⟨_,_,E⟩⟩<;>(obtain _|n3:=n3<;>rw[Qdr]at hr))
 |(with_reducible refine lp (QiS N _) hr N ?_ (λex hq hk=>⟨_,_,ex,hq,hk,?_⟩) _;clear hr;(try clear E);rintro n1 st ⟨v3,v4,ex,hr,hk,⟨_,_,E⟩⟩<;>(obtain _|n1:=n1<;>rw[Qc2]at hr))
 |(with_reducible refine lp (QhU N _ _) hr N ?_ (λex hq hk=>⟨_,_,ex,hq,hk,?_⟩) _;clear hr;(try clear E);rintro n1 st ⟨v2,v3,ex,hr,hk,(⟨_,_,E⟩|⟨_,E,z0⟩)⟩<;>(try subst z0)<;>(obtain _|n1:=n1<;>rw[Qb7]at hr))
 |(with_reducible refine lp (QjG N _) hr N ?_ (λex hq hk=>⟨_,ex,hq,hk,?_⟩) _;clear hr;(try clear E);rintro n1 st ⟨v4,ex,hr,hk,⟨_,E⟩⟩<;>(obtain _|n1:=n1<;>rw[Qdw]at hr))
 |refine dc 9 1 hf 5 [(0,54,[[320],[]]),(0,49,[[],[320]]),(2,49,[[],[320]]),(7,48,[[320],[]]),(0,15,[[],[320]]),(16,15,[[],[320]]),(63,0,[]),(127,0,[[320],[]]),(255,0,[])] ?_
 |refine dc 72 11 hf 45 [(0,124,[]),(1,124,[]),(0,123,[]),(0,23,[]),(0,15,[]),(24,7,[]),(56,7,[]),(127,0,[]),(255,0,[]),(511,0,[[1280],[]])] ?_
 |refine dc 74 7 hf 60 [(0,0,[]),(1,0,[]),(3,0,[]),(7,0,[]),(15,0,[]),(31,0,[]),(63,0,[]),(127,0,[]),(255,0,[]),(511,0,[]),(1023,0,[]),(2047,56,[]),(4095,56,[]),(8191,56,[]),(2047,7,[]),(18431,7,[]),(51199,7,[]),(131071,0,[]),(262143,0,[]),(524287,0,[]),(1048575,3072,[]),(1048575,512,[]),(3145727,512,[]),(8388607,0,[]),(16777215,0,[]),(33554431,0,[])] ?_
 |refine dc 74 21 hf 131 [(0,6,[]),(0,1,[]),(2,1,[]),(7,0,[]),(15,0,[]),(31,448,[]),(31,32,[]),(95,32,[]),(223,32,[]),(511,0,[]),(1023,0,[]),(2047,0,[]),(4095,8192,[]),(4095,4096,[]),(16383,0,[]),(32767,0,[]),(65535,0,[]),(131071,1835008,[[],[9664]]),(131071,131072,[]),(393215,131072,[]),(917503,131072,[[9664],[]]),(2097151,0,[]),(4194303,0,[]),(8388607,0,[])] ?_
 |refine dc 139 1 hf 5 [(0,54,[[320],[]]),(0,49,[[],[320]]),(2,49,[[],[320]]),(7,48,[[320],[]]),(0,15,[[],[320]]),(16,15,[[],[320]]),(63,0,[]),(127,0,[[320],[]]),(255,0,[])] ?_
 |refine dc 39 9 hf 34 [(0,26,[]),(0,25,[]),(3,24,[]),(0,7,[]),(8,7,[]),(31,0,[])] ?_
 |(refine Xu hr ?_;rintro rfl;with_reducible refine X4 ?_)
 |exact Za hr
 |exact Yb hr
 |(apply Yc;assumption)
 |((first|refine XH (c:=true) hr rfl ?_|refine XH (c:=false) hr rfl ?_|refine XH hr ag ?_);intro hr)
 |fail)
abbrev Qlp:=g15.1
abbrev Qlq:=g15.2.1
abbrev Qky:=g15.2.2.1
abbrev Qnj:=g15.2.2.2.1
abbrev Qmg:=g15.2.2.2.2.1
abbrev Qlr:=g15.2.2.2.2.2.1
abbrev QiT:=g15.2.2.2.2.2.2.1
abbrev Qmh:=g15.2.2.2.2.2.2.2
attribute [instance] Qlp Qlq Qky Qnj Qmg Qlr QiT Qmh
end Go.Sx
