import Derived.Test.YtgbmffljpneflaaGreatDoorBG21
set_option linter.all false
namespace Go.Sx
open Go.Proofs
set_option maxRecDepth 10000
set_option maxHeartbeats 100000000
abbrev Qkg:=λN m d u v q y z (Q:(List Ux)→Prop) n (st:St)=>∃r o A,Qa3 N m d u v q y z n r o=some A/\Q A/\((∃a k l f g h j,st.n=127/\st.s 3328=some (a,.arr false 39 1 ((d.2.1.take (m.R.length:Int).toNat).map e39) 0)/\st.s 7872=some (k,.arr false 76 2 (o.map e76) 0)/\st.t 1=.ept 64 l 13 0 0/\st.t 2=.ept 128 f 13 0 0/\st.t 3=.ept 192 g 6 0 0/\st.t 6=s39 d.2.1/\st.t 8=.ept 512 h 6 0 0/\st.t 10=.ept 640 j 13 0 0/\st.t 11=vi m.R.length/\st.t 12=vi u.length/\st.t 13=vi v.length/\st.t 14=vi r/\st.s 64=some (l,.arr true 38 13 [e38 m] 0)/\st.s 128=some (f,.arr true 38 13 [[vi 0,vi 0,.nsl,.nsl,vi 0,vi 0,.nsl,.nsl,.nsl,.nsl,.nsl,.nsl,.nsl]] 0)/\st.s 192=some (g,.arr true 104 6 [[vi 0,vi 0,vi 0,vi 0,vi 0,vi 0]] 0)/\st.s 512=some (h,.arr true 104 6 [XhC d.2.2.2.1] 0)/\st.s 640=some (j,.arr true 38 13 [[vi d.1.c.W,vi d.1.c.p,s39 d.1.w,Yj d.1.p,vi d.1.s,vi d.1.b,s72 q.1.S,s78 q.1.x,s3 q.1.i,s74 y.1.e,s74 z.1.e,.osl 7872 k 2 0 o.length,.osl 3328 a 1 0 (min ((m.R.length:Int).toNat) d.2.1.length)]] 0))\/(∃a l f g h j,(st.n=127/\st.s 3328=some (a,.arr false 39 1 ((d.2.1.take (m.R.length:Int).toNat).map e39) 0)/\st.t 1=.ept 64 l 13 0 0/\st.t 2=.ept 128 f 13 0 0/\st.t 3=.ept 192 g 6 0 0/\st.t 6=s39 d.2.1/\st.t 8=.ept 512 h 6 0 0/\st.t 10=.ept 640 j 13 0 0/\st.t 11=vi m.R.length/\st.t 12=vi u.length/\st.t 13=vi v.length/\st.t 14=vi r/\st.s 64=some (l,.arr true 38 13 [e38 m] 0)/\st.s 128=some (f,.arr true 38 13 [[vi 0,vi 0,.nsl,.nsl,vi 0,vi 0,.nsl,.nsl,.nsl,.nsl,.nsl,.nsl,.nsl]] 0)/\st.s 192=some (g,.arr true 104 6 [[vi 0,vi 0,vi 0,vi 0,vi 0,vi 0]] 0)/\st.s 512=some (h,.arr true 104 6 [XhC d.2.2.2.1] 0)/\st.s 640=some (j,.arr true 38 13 [[vi d.1.c.W,vi d.1.c.p,s39 d.1.w,Yj d.1.p,vi d.1.s,vi d.1.b,s72 q.1.S,s78 q.1.x,s3 q.1.i,s74 y.1.e,s74 z.1.e,.nsl,.osl 3328 a 1 0 (min ((m.R.length:Int).toNat) d.2.1.length)]] 0))/\o=[]))
abbrev Qn6:=λN a b (Q:(Ex Bool Unit)→Prop) n (st:St)=>∃c d,Qfl N a b n c=some d/\Q d/\((st.n=41/\st.t 5=s3 b.1/\st.t 26=Yj a.p/\st.t 27=vi a.p.length/\st.t 28=vi c))
abbrev QjK:=λN f j i k (Q:(List Wv)→Prop) n (st:St)=>∃l h m,Qck N f j i k n l h=some m/\Q m/\((∃d a g e,st.n=61/\st.s 1728=some (d,.arr false 39 1 (i.map e39) 0)/\st.s 1920=some (a,.arr false 114 4 (h.map XU) 0)/\st.t 1=.ept 64 g 6 0 0/\st.t 2=.ept 128 e 16 0 0/\st.t 4=s39 j.1/\st.t 34=.osl 1920 a 4 0 h.length/\st.t 35=vi k.length/\st.t 36=vi l/\st.s 64=some (g,.arr true 27 6 [[vi f.c.W,vi f.c.p,.osl 1728 d 1 0 i.length,.osl 1920 a 4 0 h.length,vi f.s,vi f.b]] 0)/\st.s 128=some (e,.arr true 371 16 [[vi 0,vi 0,.nsl,.nsl,vi 0,vi 0,.nsl,.nsl,.nsl,vi 0,vi 0,vi 0,vi 0,vi 0,vi 0,vi 0]] 0)))
abbrev QlT:=λN b (Q:Int→Prop) n (st:St)=>∃c d e,QdG N b n c d=some e/\Q e/\((∃a,st.n=66/\st.t 2=.ept 128 a 6 0 0/\st.t 9=vi c/\st.t 43=Yj b.p/\st.t 44=vi b.p.length/\st.t 45=vi d/\st.s 128=some (a,.arr true 27 6 [e27 b] 0)))
def g41:(∀N a0,OK (Qbq N a0) 40 [.agg (e38 a0)] [] (λr=>.tup [.agg (e38 r.1),.agg (XhC r.2.1),vi r.2.2]) λr=>[])/\(∀N a0 a1,OK (Qg5 N a0 a1) 44 [.agg (e27 a0),s76 a1] [] (λr=>.v (.bool r)) λr=>[])/\(∀N a0,OK (Qfh N a0) 334 [.agg (e27 a0)] [] (λr=>.tup [.agg (XfX r.1),vi r.2]) λr=>[])/\(∀N a0 a1,OK (Qfc N a0 a1) 232 [.agg (e27 a0),vu a1] [] (λr=>.v (.bool r)) λr=>[]):=by
 refine⟨λN _=>rk Tryz.f40 ?_,λN _ _=>rk Tryz.f44 ?_,λN _=>rk Tryz.f334 ?_,λN _ _=>rk Tryz.f232 ?_⟩<;>(rintro _ hw r hr C _ rfl hwf hf;have hse:=@Za _ hw;simp only[Tryz.f40,Tryz.f44,Tryz.f334,Tryz.f232,Option.get!];(first|rw[Qbq]at hr|rw[Qg5]at hr|rw[Qfh]at hr|rw[Qfc]at hr);repeat' first
 |(refine El.el hr ?_;clear hr;intro hr)
 |(with_reducible intro h;refine Xx hr h ?_;clear hr;intro hr)
 |with_reducible intro _
 |(refine Xn hr ?_;rintro rfl;have hr:=hk;clear hk)
 |simp only[go_sem,simprocAttr,E,hl3,Xz,ZM,Xk,hse,Wl,Wn,Wz]
 |(with_reducible first|apply Xi|apply Xh|apply Xs|apply Xq|apply Xr)
 |((first|with_reducible refine Yo hr ag ?_ ?_|(with_reducible refine Ye hr ?_ ?_;rotate_left;intro p;rotate_right));(·simp only[go_sem,simprocAttr,hse,Wl,Wn,Wz]);intro hp hn hd hr;(try have hl3:=hd _ e3);(try simp only[go_sem,simprocAttr]at hl3);(try have Xz:=hd _ e39);(try simp only[go_sem,simprocAttr]at Xz);(try have ZM:=hd _ e76);(try simp only[go_sem,simprocAttr]at ZM);(try have Xk:=hd _ XU);(try simp only[go_sem,simprocAttr]at Xk))
 |(refine Xt ?_ ?_;.first|assumption|omega)
 |(with_reducible first|refine CallX.c ?_ _|refine OK.c hr hw ?_ (λy hr=>?_) _|refine IK hr hw ?_ (λy hr=>?_) _)
 |(with_reducible refine lp (Qkg N _ _ _ _ _ _ _) hr N ?_ (λex hq hk=>⟨_,_,ex,hq,hk,?_⟩) _;clear hr;(try clear E);rintro n1 st ⟨v10,v11,ex,hr,hk,(⟨_,_,_,_,_,_,_,E⟩|⟨_,_,_,_,_,_,E,z0⟩)⟩<;>(try subst z0)<;>(obtain _|n1:=n1<;>rw[Qa3]at hr))
 |refine⟨_,WA _,_,_,_,hr,hk,?_⟩
 |(with_reducible refine lp (Qn6 N _ _) hr N ?_ (λex hq hk=>⟨_,ex,hq,hk,?_⟩) _;clear hr;(try clear E);rintro n1 st ⟨v3,ex,hr,hk,E⟩<;>(obtain _|n1:=n1<;>rw[Qfl]at hr))
 |refine⟨_,WA _,_,_,hr,hk,?_⟩
 |(with_reducible refine lp (QjK N _ _ _ _) hr N ?_ (λex hq hk=>⟨_,_,ex,hq,hk,?_⟩) _;clear hr;(try clear E);rintro n1 st ⟨v6,v7,ex,hr,hk,⟨_,_,_,_,E⟩⟩<;>(obtain _|n1:=n1<;>rw[Qck]at hr))
 |(with_reducible refine lp (QlT N _) hr N ?_ (λex hq hk=>⟨_,_,ex,hq,hk,?_⟩) _;clear hr;(try clear E);rintro n1 st ⟨v5,v6,ex,hr,hk,⟨_,E⟩⟩<;>(obtain _|n1:=n1<;>rw[QdG]at hr))
 |refine dc 40 3 hf 5 [(0,8126473,[[],[320,512,1728]]),(1,8126473,[[],[320,512,1728]]),(0,3342345,[[],[320,512]]),(4,3342345,[[],[320,512]]),(0,983049,[[],[320,512]]),(16,983049,[[],[320,512]]),(60,196617,[[1728],[320,512]]),(127,9,[[1728],[320,512]]),(255,9,[[],[320,512]]),(511,503316489,[[],[320,512]]),(511,486539273,[[],[320,512]]),(511,452984843,[[],[320,512]]),(511,385875983,[[],[320,512]]),(511,251658255,[[],[320,512]]),(0,536838152,[[320],[512,1728]]),(0,536838145,[[512],[320,1728]]),(50175,503316480,[[320],[]]),(116735,469762048,[]),(249855,402653184,[]),(516095,268435456,[[512],[]]),(1048575,0,[])] ?_
 |refine dc 40 7 hf 11 [(0,2190433320960,[[],[3200]]),(1,2190433320960,[[],[3200]]),(3,2190433320960,[[],[3200]]),(0,419833053184,[]),(8,419833053184,[]),(24,419833053184,[]),(56,2069100494849,[[],[3200]]),(0,136365211648,[]),(128,136365211648,[]),(440,76235669504,[[3200],[]]),(952,76235669507,[]),(959,1168231104512,[]),(3071,1099511627776,[]),(8191,0,[])] ?_
 |refine dc 40 9 hf 59 [(0,252,[]),(1,252,[]),(0,123,[]),(0,119,[]),(0,47,[]),(0,31,[]),(48,15,[]),(124,3,[]),(255,0,[]),(511,0,[]),(1023,1024,[]),(1023,2560,[[],[640]]),(2047,1024,[]),(6143,1024,[[640],[]])] ?_
 |refine dc 40 10 hf 72 [(0,4092,[]),(1,4092,[]),(0,2043,[]),(0,2007,[]),(0,1999,[]),(24,1991,[]),(0,703,[]),(0,639,[]),(192,575,[]),(0,511,[]),(960,63,[]),(2044,3,[]),(4095,0,[]),(8191,0,[]),(16383,16384,[]),(16383,40960,[[],[640]]),(32767,16384,[]),(98303,16384,[[640],[]])] ?_
 |refine dc 40 15 hf 103 [(0,1048572,[[],[7808]]),(1,1048572,[[],[7808]]),(0,259067,[]),(0,258391,[]),(0,258383,[]),(24,258375,[]),(0,258367,[]),(120,258311,[]),(0,258303,[]),(504,258055,[]),(1020,258051,[]),(2044,258051,[]),(0,20479,[]),(4096,20479,[]),(0,16383,[]),(28672,4095,[]),(61440,4095,[]),(126976,4095,[]),(262140,3,[]),(524284,3,[[7808],[]]),(1048575,0,[[7872],[]]),(2097151,0,[]),(4194303,0,[[640],[]])] ?_
 |refine dc 40 16 hf 125 [(0,2,[]),(0,1,[[],[128]]),(1,2,[[128],[]]),(7,0,[[192],[]]),(15,0,[])] ?_
 |refine dc 44 9 hf 33 [(0,60,[]),(1,60,[]),(0,11,[]),(0,7,[]),(12,3,[]),(28,3,[]),(63,0,[])] ?_
 |refine dc 334 8 hf 25 [(0,24,[]),(1,24,[]),(3,24,[[1728],[]]),(0,7,[[],[1728]]),(8,7,[[],[1728]]),(31,64,[[1920],[]]),(31,32,[[],[1920]]),(127,0,[[64],[]]),(255,0,[]),(511,0,[[64],[]])] ?_
 |(refine Xn hr ?_;rintro rfl;with_reducible refine XK ?_)
 |exact Yr hr
 |((first|refine Xx (c:=true) hr rfl ?_|refine Xx (c:=false) hr rfl ?_|refine Xx hr ag ?_);intro hr)
 |fail)
abbrev Qnd:=g41.1
abbrev Qre:=g41.2.1
abbrev QlU:=g41.2.2.1
abbrev Qpi:=g41.2.2.2
attribute [instance] Qnd Qre QlU Qpi
def g40:(∀N a0 a1,OK (QaB N a0 a1) 91 [.agg (e38 a0),vu a1] [] (λr=>.tup [vu r.1,vi r.2]) λr=>[])/\(∀N a0 a1,OK (Qey N a0 a1) 49 [.agg (e27 a0),s39 a1] [] (λr=>.v (.bool r)) λr=>[]):=by
 refine⟨λN _ _=>rk Tryz.f91 ?_,λN _ _=>rk Tryz.f49 ?_⟩<;>(rintro _ hw r hr C _ rfl hwf hf;simp only[Tryz.f91,Tryz.f49,Option.get!];(first|rw[QaB]at hr|rw[Qey]at hr);repeat' first
 |(refine El.el hr ?_;clear hr;intro hr)
 |(with_reducible intro h;refine Xx hr h ?_;clear hr;intro hr)
 |with_reducible intro _
 |simp only[go_sem,simprocAttr]
 |(with_reducible first|apply Xi|apply Xh|apply Xs)
 |(refine Xt ?_ ?_;.first|assumption|omega)
 |(with_reducible first|refine CallX.c ?_ _|refine OK.c hr hw ?_ (λy hr=>?_) _)
 |(refine Xn hr ?_;rintro rfl;with_reducible refine XK ?_)
 |exact Yr hr
 |fail)
abbrev Qne:=g40.1
abbrev Qn7:=g40.2
attribute [instance] Qne Qn7
end Go.Sx
