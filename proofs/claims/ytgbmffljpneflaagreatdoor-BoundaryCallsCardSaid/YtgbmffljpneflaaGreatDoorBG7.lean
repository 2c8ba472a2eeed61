import Derived.Test.YtgbmffljpneflaaGreatDoorBG4
import Derived.Test.YtgbmffljpneflaaGreatDoorBG5
import Derived.Test.YtgbmffljpneflaaGreatDoorBG6
set_option linter.all false
namespace Go.Sx
open Go.Proofs
set_option maxRecDepth 10000
set_option maxHeartbeats 100000000
abbrev QkF:=λN b (Q:(Ex Bool Unit)→Prop) n (st:St)=>∃c d e,QaL N b n c d=some e/\Q e/\((∃a,st.n=157/\st.t 1=.ept 64 a 6 0 0/\st.t 3=vi c/\st.t 4=vi d/\st.s 64=some (a,.arr true 27 6 [e27 b] 0)))
abbrev Qj7:=λN a m (Q:(List Wv)→Prop) n (st:St)=>∃l k u,QaR N a m n l k=some u/\Q u/\((∃e g i,st.n=202/\st.s 5760=some (e,.arr false 114 4 (k.map XU) 0)/\st.t 1=vu m/\st.t 2=.ept 128 g 16 0 0/\st.t 4=.ept 256 i 16 0 0/\st.t 14=vi l/\st.s 128=some (g,.arr true 237 16 [[vi a.h.c.W,vi a.h.c.p,s39 a.h.w,.osl 5760 e 4 0 k.length,vi a.h.s,vi a.h.b,s39 a.o,s3 a.t,s39 a.q,vi a.d,vi a.r.j,vi a.r.K,vi a.r.F,vi a.r.E,vi a.r.f,vi a.r.y]] 0)/\st.s 256=some (i,.arr true 237 16 [[vi 0,vi 0,.nsl,.nsl,vi 0,vi 0,.nsl,.nsl,.nsl,vi 0,vi 0,vi 0,vi 0,vi 0,vi 0,vi 0]] 0)))
abbrev QkG:=λN d (Q:(List Int)→Prop) n (st:St)=>∃e c f,Qbv N d n e c=some f/\Q f/\((∃a b,st.n=35/\st.s 320=some (a,.arr false 39 1 (c.map e39) 0)/\st.t 1=.ept 64 b 13 0 0/\st.t 3=.osl 320 a 1 0 c.length/\st.t 4=vi e/\st.s 64=some (b,.arr true 38 13 [e38 d] 0)))
abbrev QmJ:=λN d f (Q:(Ex (Wo × Int) (List UE))→Prop) n (st:St)=>∃g h e j,Qbo N d f n g h e=some j/\Q j/\((∃a b c,st.n=57/\st.s 1280=some (a,.arr false 72 3 (e.map e72) 0)/\st.t 1=s39 f/\st.t 2=.ept 128 b 3 0 0/\st.t 4=.ept 256 c 3 0 0/\st.t 6=vi g/\st.t 7=vi h/\st.s 128=some (b,.arr true 32 3 [[.osl 1280 a 3 0 e.length,s78 d.x,s3 d.i]] 0)/\st.s 256=some (c,.arr true 32 3 [[.nsl,.nsl,.nsl]] 0)))
abbrev Qly:=λN b (Q:(Ex Bool Unit)→Prop) n (st:St)=>∃c d,Qec N b n c=some d/\Q d/\((∃a,st.n=154/\st.t 1=.ept 64 a 10 0 0/\st.t 3=vi c/\st.s 64=some (a,.arr true 43 10 [e43 b] 0)))
abbrev Qlz:=λN e b (Q:(Ex Bool Unit)→Prop) n (st:St)=>∃c f,Qed N e b n c=some f/\Q f/\((∃a d,st.n=154/\st.s 4928=some (a,.arr false 39 1 (b.map e39) 0)/\st.t 1=.ept 64 d 10 0 0/\st.t 5=.osl 4928 a 1 0 b.length/\st.t 6=vi c/\st.s 64=some (d,.arr true 43 10 [e43 e] 0)))
abbrev QlA:=λN e b (Q:(Ex Bool Unit)→Prop) n (st:St)=>∃c f,Qee N e b n c=some f/\Q f/\((∃a d,st.n=154/\st.s 4928=some (a,.arr false 39 1 (b.map e39) 0)/\st.t 1=.ept 64 d 10 0 0/\st.t 5=.osl 4928 a 1 0 b.length/\st.t 7=vi c/\st.s 64=some (d,.arr true 43 10 [e43 e] 0)))
abbrev QkH:=λN d (Q:(List Int)→Prop) n (st:St)=>∃e c f,QfK N d n e c=some f/\Q f/\((∃a b,st.n=35/\st.s 320=some (a,.arr false 39 1 (c.map e39) 0)/\st.t 1=.ept 64 b 10 0 0/\st.t 3=.osl 320 a 1 0 c.length/\st.t 4=vi e/\st.s 64=some (b,.arr true 43 10 [e43 d] 0)))
abbrev Qjp:=λN d e (Q:(List Int)→Prop) n (st:St)=>∃f c g,Qcp N d e n f c=some g/\Q g/\((∃a b,st.n=19/\st.s 1024=some (a,.arr false 3 1 (c.map e3) 0)/\st.t 1=.ept 64 b 3 0 0/\st.t 3=.osl 1024 a 1 0 c.length/\st.t 6=vi e/\st.t 7=vi f/\st.s 64=some (b,.arr true 131 3 [ZS d] 0))\/(∃b,(st.n=19/\st.t 1=.ept 64 b 3 0 0/\st.t 3=.nsl/\st.t 6=vi e/\st.t 7=vi f/\st.s 64=some (b,.arr true 131 3 [ZS d] 0))/\c=[]))
abbrev QlB:=λN b (Q:(Ex Bool Unit)→Prop) n (st:St)=>∃c d,Qeh N b n c=some d/\Q d/\((∃a,st.n=41/\st.t 3=.ept 192 a 3 0 0/\st.t 27=s78 b.x/\st.t 28=vi b.x.length/\st.t 29=vi c/\st.s 192=some (a,.arr true 188 3 [e32 b] 0)))
abbrev QmK:=λN c d e f (Q:(List Wv)→Prop) n (st:St)=>∃b g,QfB N c d e f n b=some g/\Q g/\((∃a,st.n=45/\st.s 1856=some (a,.arr false 114 4 (b.map XU) 0)/\st.t 1=Yj c/\st.t 2=vi d/\st.t 3=vi e/\st.t 13=vi f/\st.t 14=.osl 1856 a 4 0 b.length))
def g19:(∀N a0,OK (Qac N a0) 173 [.agg (e27 a0)] [] (λr=>.v (.bool r)) λr=>[])/\(∀N a0 a1,OK (Qbb N a0 a1) 248 [.agg (JC a0),vu a1] [] (λr=>.tup [.agg (JC r.1),vu r.2.1,vi r.2.2]) λr=>[])/\(∀N a0,OK (Qet N a0) 108 [.agg (e38 a0)] [] (λr=>s39 r) λr=>[])/\(∀N a0 a1,OK (Qen N a0 a1) 109 [.agg (e32 a0),s39 a1] [] (λr=>.tup [.agg (e32 r.1),vi r.2]) λr=>[])/\(∀N a0,OK (Qe8 N a0) 111 [.agg (e43 a0)] [] (λr=>.v (.bool r)) λr=>[])/\(∀N a0,OK (QhX N a0) 191 [.agg (e43 a0)] [] (λr=>.fsl 39 1 (r.map e39)) λr=>[])/\(∀N a0,OK (Qez N a0) 298 [.agg (ZS a0)] [] (λr=>s3 r) λr=>[])/\(∀N a0,OK (Qdb N a0) 45 [.agg (e32 a0)] [] (λr=>.v (.bool r)) λr=>[])/\(∀N a0 a1 a2 a3 a4,OK (Qh3 N a0 a1 a2 a3 a4) 331 [.agg (e23 a0),Yj a1,vi a2,vi a3,vi a4] [] (λr=>.tup [Yj r.1,vi r.2]) λr=>[]):=by
 refine⟨λN _=>rk Tryz.f173 ?_,λN _ _=>rk Tryz.f248 ?_,λN _=>rk Tryz.f108 ?_,λN _ _=>rk Tryz.f109 ?_,λN _=>rk Tryz.f111 ?_,λN _=>rq Tryz.f191 [320] ?_,λN _=>rk Tryz.f298 ?_,λN _=>rk Tryz.f45 ?_,λN _ _ _ _ _=>rk Tryz.f331 ?_⟩<;>(rintro _ hw r hr C _ rfl hwf hf;have hse:=@Za _ hw;simp only[Tryz.f173,Tryz.f248,Tryz.f108,Tryz.f109,Tryz.f111,Tryz.f191,Tryz.f298,Tryz.f45,Tryz.f331,Option.get!];(first|rw[Qac]at hr|rw[Qbb]at hr|rw[Qet]at hr|rw[Qen]at hr|rw[Qe8]at hr|rw[QhX]at hr|rw[Qez]at hr|rw[Qdb]at hr|rw[Qh3]at hr);repeat' first
 |(refine El.el hr ?_;clear hr;intro hr)
 |(with_reducible intro h;refine Xx hr h ?_;clear hr;intro hr)
 |with_reducible intro _
 |(refine Xn hr ?_;rintro rfl;have hr:=hk;clear hk)
 |simp only[go_sem,simprocAttr,E,Xz,YL,ZM,Kj,Xk,KJ,KU,hse]
 |(with_reducible first|apply Xi|apply Xh|apply Xs|apply Xq|apply Xr)
 |((first|with_reducible refine Yo hr ag ?_ ?_|(with_reducible refine Ye hr ?_ ?_;rotate_left;intro p;rotate_right));(·simp only[go_sem,simprocAttr,hse]);intro hp hn hd hr;(try have Xz:=hd _ e39);(try simp only[go_sem,simprocAttr]at Xz);(try have YL:=hd _ e72);(try simp only[go_sem,simprocAttr]at YL);(try have ZM:=hd _ e76);(try simp only[go_sem,simprocAttr]at ZM);(try have Kj:=hd _ e78);(try simp only[go_sem,simprocAttr]at Kj);(try have Xk:=hd _ XU);(try simp only[go_sem,simprocAttr]at Xk);(try have KJ:=hd _ Xb5);(try simp only[go_sem,simprocAttr]at KJ);(try have KU:=hd _ Xec);(try simp only[go_sem,simprocAttr]at KU))
 |(refine Xt ?_ ?_;.first|assumption|omega)
 |(with_reducible first|refine CallX.c ?_ _|refine OK.c hr hw ?_ (λy hr=>?_) _|refine IK hr hw ?_ (λy hr=>?_) _)
 |(with_reducible refine lp (QkF N _) hr N ?_ (λex hq hk=>⟨_,_,ex,hq,hk,?_⟩) _;clear hr;(try clear E);rintro n1 st ⟨v3,v4,ex,hr,hk,⟨_,E⟩⟩<;>(obtain _|n1:=n1<;>rw[QaL]at hr))
 |refine⟨_,WA _,_,_,_,hr,hk,?_⟩
 |(with_reducible refine lp (Qj7 N _ _) hr N ?_ (λex hq hk=>⟨_,_,ex,hq,hk,?_⟩) _;clear hr;(try clear E);rintro n1 st ⟨v10,v11,ex,hr,hk,⟨_,_,_,E⟩⟩<;>(obtain _|n1:=n1<;>rw[QaR]at hr))
 |(with_reducible refine lp (QkG N _) hr N ?_ (λex hq hk=>⟨_,_,ex,hq,hk,?_⟩) _;clear hr;(try clear E);rintro n1 st ⟨v3,v4,ex,hr,hk,⟨_,_,E⟩⟩<;>(obtain _|n1:=n1<;>rw[Qbv]at hr))
 |(with_reducible refine lp (QmJ N _ _) hr N ?_ (λex hq hk=>⟨_,_,_,ex,hq,hk,?_⟩) _;clear hr;(try clear E);rintro n1 st ⟨v3,v4,v5,ex,hr,hk,⟨_,_,_,E⟩⟩<;>(obtain _|n1:=n1<;>rw[Qbo]at hr))
 |refine⟨_,WA _,_,_,_,_,hr,hk,?_⟩
 |(with_reducible refine lp (Qly N _) hr N ?_ (λex hq hk=>⟨_,ex,hq,hk,?_⟩) _;clear hr;(try clear E);rintro n1 st ⟨v5,ex,hr,hk,⟨_,E⟩⟩<;>(obtain _|n1:=n1<;>rw[Qec]at hr))
 |refine⟨_,WA _,_,_,hr,hk,?_⟩
 |(with_reducible refine lp (Qlz N _ _) hr N ?_ (λex hq hk=>⟨_,ex,hq,hk,?_⟩) _;clear hr;(try clear E);rintro n2 st ⟨v12,ex,hr,hk,⟨_,_,E⟩⟩<;>(obtain _|n2:=n2<;>rw[Qed]at hr))
 |(with_reducible refine lp (QlA N _ _) hr N ?_ (λex hq hk=>⟨_,ex,hq,hk,?_⟩) _;clear hr;(try clear E);rintro n3 st ⟨v15,ex,hr,hk,⟨_,_,E⟩⟩<;>(obtain _|n3:=n3<;>rw[Qee]at hr))
 |(with_reducible refine lp (QkH N _) hr N ?_ (λex hq hk=>⟨_,_,ex,hq,hk,?_⟩) _;clear hr;(try clear E);rintro n1 st ⟨v3,v4,ex,hr,hk,⟨_,_,E⟩⟩<;>(obtain _|n1:=n1<;>rw[QfK]at hr))
 |(with_reducible refine lp (Qjp N _ _) hr N ?_ (λex hq hk=>⟨_,_,ex,hq,hk,?_⟩) _;clear hr;(try clear E);rintro n1 st ⟨v2,v3,ex,hr,hk,(⟨_,_,E⟩|⟨_,E,z0⟩)⟩<;>(try subst z0)<;>(obtain _|n1:=n1<;>rw[Qcp]at hr))
 |(with_reducible refine lp (QlB N _) hr N ?_ (λex hq hk=>⟨_,ex,hq,hk,?_⟩) _;clear hr;(try clear E);rintro n1 st ⟨v4,ex,hr,hk,⟨_,E⟩⟩<;>(obtain _|n1:=n1<;>rw[Qeh]at hr))
 |(with_reducible refine lp (QmK N _ _ _ _) hr N ?_ (λex hq hk=>⟨_,ex,hq,hk,?_⟩) _;clear hr;(try clear E);rintro n1 st ⟨v3,ex,hr,hk,⟨_,E⟩⟩<;>(obtain _|n1:=n1<;>rw[QfB]at hr))
 |refine dc 108 1 hf 5 [(0,54,[[320],[]]),(0,49,[[],[320]]),(2,49,[[],[320]]),(7,48,[[320],[]]),(0,15,[[],[320]]),(16,15,[[],[320]]),(63,0,[]),(127,0,[[320],[]]),(255,0,[])] ?_
 |refine dc 109 11 hf 45 [(0,124,[]),(1,124,[]),(0,123,[]),(0,23,[]),(0,15,[]),(24,7,[]),(56,7,[]),(127,0,[]),(255,0,[]),(511,0,[[1280],[]])] ?_
 |refine dc 111 7 hf 60 [(0,0,[]),(1,0,[]),(3,0,[]),(7,0,[]),(15,0,[]),(31,0,[]),(63,0,[]),(127,0,[]),(255,0,[]),(511,0,[]),(1023,0,[]),(2047,56,[]),(4095,56,[]),(8191,56,[]),(2047,7,[]),(18431,7,[]),(51199,7,[]),(131071,0,[]),(262143,0,[]),(524287,0,[]),(1048575,3072,[]),(1048575,512,[]),(3145727,512,[]),(8388607,0,[]),(16777215,0,[]),(33554431,0,[])] ?_
 |refine dc 111 21 hf 131 [(0,6,[]),(0,1,[]),(2,1,[]),(7,0,[]),(15,0,[]),(31,448,[]),(31,32,[]),(95,32,[]),(223,32,[]),(511,0,[]),(1023,0,[]),(2047,0,[]),(4095,8192,[]),(4095,4096,[]),(16383,0,[]),(32767,0,[]),(65535,0,[]),(131071,1835008,[[],[9664]]),(131071,131072,[]),(393215,131072,[]),(917503,131072,[[9664],[]]),(2097151,0,[]),(4194303,0,[]),(8388607,0,[])] ?_
 |refine dc 191 1 hf 5 [(0,54,[[320],[]]),(0,49,[[],[320]]),(2,49,[[],[320]]),(7,48,[[320],[]]),(0,15,[[],[320]]),(16,15,[[],[320]]),(63,0,[]),(127,0,[[320],[]]),(255,0,[])] ?_
 |refine dc 45 9 hf 34 [(0,26,[]),(0,25,[]),(3,24,[]),(0,7,[]),(8,7,[]),(31,0,[])] ?_
 |(refine Xn hr ?_;rintro rfl;with_reducible refine XK ?_)
 |exact Yr hr
 |((first|refine Xx (c:=true) hr rfl ?_|refine Xx (c:=false) hr rfl ?_|refine Xx hr ag ?_);intro hr)
 |fail)
abbrev QnO:=g19.1
abbrev QmL:=g19.2.1
abbrev QnP:=g19.2.2.1
abbrev Qqd:=g19.2.2.2.1
abbrev QoP:=g19.2.2.2.2.1
abbrev QnQ:=g19.2.2.2.2.2.1
abbrev QkI:=g19.2.2.2.2.2.2.1
abbrev QoQ:=g19.2.2.2.2.2.2.2.1
abbrev Qqe:=g19.2.2.2.2.2.2.2.2
attribute [instance] QnO QmL QnP Qqd QoP QnQ QkI QoQ Qqe
end Go.Sx
