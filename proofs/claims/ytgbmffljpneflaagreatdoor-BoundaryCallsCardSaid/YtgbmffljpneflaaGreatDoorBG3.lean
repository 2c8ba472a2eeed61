import Derived.Test.YtgbmffljpneflaaGreatDoorBG0
import Derived.Test.YtgbmffljpneflaaGreatDoorBG1
set_option linter.all false
namespace Go.Sx
open Go.Proofs
set_option maxRecDepth 10000
set_option maxHeartbeats 100000000
abbrev Qmw:=λN d (Q:(List Int)→Prop) n (st:St)=>∃f c g,QbG N d n f c=some g/\Q g/\((∃a b,st.n=32/\st.s 1920=some (a,.arr false 39 1 (c.map e39) 0)/\st.t 1=.ept 64 b 1 0 0/\st.t 3=.osl 1920 a 1 0 c.length/\st.t 4=vi f/\st.s 64=some (b,.arr true 35 1 [[s74 d.e]] 0))\/(∃b,(st.n=32/\st.t 1=.ept 64 b 1 0 0/\st.t 3=.nsl/\st.t 4=vi f/\st.s 64=some (b,.arr true 35 1 [[s74 d.e]] 0))/\c=[]))
abbrev Qls:=λN a b (Q:(Ex Int Unit)→Prop) n (st:St)=>∃c d,QbN N a b n c=some d/\Q d/\((st.n=31/\st.t 1=vi a/\st.t 5=Xn0 b/\st.t 6=vi c))
abbrev Qjk:=λN a l (Q:(List Wv)→Prop) n (st:St)=>∃k j m,QcZ N a l n k j=some m/\Q m/\((∃d e f g i,st.n=156/\st.s 704=some (d,.arr false 39 1 (a.h.w.map e39) 0)/\st.s 960=some (e,.arr false 114 4 (j.map XU) 0)/\st.t 2=.ept 128 f 8 0 0/\st.t 4=.ept 256 g 8 0 0/\st.t 5=.ept 320 i 6 0 0/\st.t 8=vi k/\st.s 128=some (f,.arr true 69 8 [e69 a] 0)/\st.s 256=some (g,.arr true 69 8 [[vi 0,vi 0,.nsl,.nsl,vi 0,vi 0,.nsl,.nsl]] 0)/\st.s 320=some (i,.arr true 27 6 [[vi a.h.c.W,vi a.h.c.p,.osl 704 d 1 0 a.h.w.length,.osl 960 e 4 0 j.length,vi a.h.s,vi a.h.b]] 0)/\st.s 1000000=some (0,.arr true 49 2 [e49 l.2] 0)))
abbrev Qgi:=λN a (Q:(Ex Int Unit)→Prop) n (st:St)=>∃b c,QaG N a n b=some c/\Q c/\((st.n=19/\st.t 0=s39 a/\st.t 1=.clo (.func 327) [] []/\st.t 7=vi a.length/\st.t 8=vi b))
abbrev Qf1:=λN a b (Q:(Ex Int Unit)→Prop) n (st:St)=>∃c d,Qax N a b n c=some d/\Q d/\((st.n=19/\st.t 0=s76 a/\st.t 1=.clo (.func 260) [] [.ept 1000000 0 1 0 0]/\st.t 7=vi a.length/\st.t 8=vi c/\st.s 1000000=some (0,.arr true 39 1 [[vu b]] 0)))
abbrev Qhc:=λN a (Q:(Ex Int Unit)→Prop) n (st:St)=>∃b c,QaP N a n b=some c/\Q c/\((st.n=19/\st.t 0=s3 a/\st.t 1=.clo (.func 123) [] []/\st.t 7=vi a.length/\st.t 8=vi b))
abbrev QhK:=λN a (Q:Int→Prop) n (st:St)=>∃b c d,QaZ N a n b c=some d/\Q d/\((st.n=36/\st.t 0=s24 a/\st.t 3=vi b/\st.t 9=s24 a/\st.t 10=vi a.length/\st.t 11=vi c))
abbrev QhL:=λN b (Q:(List Int)→Prop) n (st:St)=>∃d c e,Qa0 N b n d c=some e/\Q e/\((∃a,st.n=36/\st.s 1536=some (a,.arr false 39 1 (c.map e39) 0)/\st.t 6=.osl 1536 a 1 0 c.length/\st.t 25=s24 b/\st.t 26=vi b.length/\st.t 27=vi d))
abbrev Qnz:=λN c (Q:(List Wv)→Prop) n (st:St)=>∃d b e,Qfq N c n d b=some e/\Q e/\((∃a,st.n=59/\st.s 1856=some (a,.arr false 114 4 (b.map XU) 0)/\st.t 6=vi c.k/\st.t 7=.osl 1856 a 4 0 b.length/\st.t 8=vi d))
def g10:(∀N a0,OK (QbD N a0) 80 [.agg (e35 a0)] [] (λr=>.fsl 39 1 (r.map e39)) λr=>[])/\(∀N a0 a1,OK (Qby N a0 a1) 284 [Yj a0,vi a1] [] (λr=>vi r) λr=>[])/\(∀N a0 a1,OK (QbY N a0 a1) 17 [.agg (e69 a0),.ept 1000000 0 2 0 0] [.arr true 49 2 [[s3 a1.L,vi a1.at_]] 0] (λr=>.agg (e69 r.1)) λr=>[.arr true 49 2 [[s3 r.2.L,vi r.2.at_]] 0])/\(∀N a0,OK (Qbx N a0) 210 [s39 a0,.clo (.func 327) [] []] [] (λr=>vi r) λr=>[])/\(∀N a0 c0,OK (Qbd N a0 c0) 259 [s76 a0,.clo (.func 260) [] [.ept 1000000 0 1 0 0]] [.arr true 39 1 [[vu c0]] 0] (λr=>vi r) λr=>[.arr true 39 1 [[vu c0]] 0])/\(∀N a0,OK (Qb4 N a0) 203 [s3 a0,.clo (.func 123) [] []] [] (λr=>vi r) λr=>[])/\(∀N a0,OK (QaV N a0) 134 [s24 a0] [] (λr=>s39 r) λr=>[])/\(∀N a0 a1,OK (Qi6 N a0 a1) 358 [Yj a0,vi a1] [] (λr=>.tup [Yj r.1,vi r.2]) λr=>[]):=by
 refine⟨λN _=>rq Tryz.f80 [1920] ?_,λN _ _=>rk Tryz.f284 ?_,λN _ _=>rk Tryz.f17 ?_,λN _=>rk Tryz.f210 ?_,λN _ _=>rk Tryz.f259 ?_,λN _=>rk Tryz.f203 ?_,λN _=>rk Tryz.f134 ?_,λN _ _=>rk Tryz.f358 ?_⟩<;>(rintro _ hw r hr C _ rfl hwf hf;have hse:=@Za _ hw;simp only[Tryz.f80,Tryz.f284,Tryz.f17,Tryz.f210,Tryz.f259,Tryz.f203,Tryz.f134,Tryz.f358,Option.get!];(first|rw[QbD]at hr|rw[Qby]at hr|rw[QbY]at hr|rw[Qbx]at hr|rw[Qbd]at hr|rw[Qb4]at hr|rw[QaV]at hr|rw[Qi6]at hr);repeat' first
 |(refine El.el hr ?_;clear hr;intro hr)
 |(with_reducible intro h;refine Xx hr h ?_;clear hr;intro hr)
 |with_reducible intro _
 |(refine Xn hr ?_;rintro rfl;have hr:=hk;clear hk)
 |simp only[go_sem,simprocAttr,E,hl3,Xp8,Xz,YN,ZM,Xk,Xay,hm3,XtH,Yy,Vr,XtI,XX,Xqs,hse,Wl,Wn,Wz]
 |(with_reducible first|apply Xi|apply Xh|apply Xs|apply Xq|apply Xr)
 |((first|with_reducible refine Yo hr ag ?_ ?_|(with_reducible refine Ye hr ?_ ?_;rotate_left;intro p;rotate_right));(·simp only[go_sem,simprocAttr,hse,Wl,Wn,Wz]);intro hp hn hd hr;(try have hm3:=hl3);(try have hl3:=hd _ e3);(try simp only[go_sem,simprocAttr]at hl3);(try have XtH:=Xp8);(try have Xp8:=hd _ e24);(try simp only[go_sem,simprocAttr]at Xp8);(try have Yy:=Xz);(try have Xz:=hd _ e39);(try simp only[go_sem,simprocAttr]at Xz);(try have Vr:=YN);(try have YN:=hd _ e74);(try simp only[go_sem,simprocAttr]at YN);(try have XtI:=ZM);(try have ZM:=hd _ e76);(try simp only[go_sem,simprocAttr]at ZM);(try have XX:=Xk);(try have Xk:=hd _ XU);(try simp only[go_sem,simprocAttr]at Xk);(try have Xqs:=Xay);(try have Xay:=hd _ XiK);(try simp only[go_sem,simprocAttr]at Xay))
 |(refine Xt ?_ ?_;.first|assumption|omega)
 |(with_reducible first|refine CallX.c ?_ _|refine OK.c hr hw ?_ (λy hr=>?_) _|refine IK hr hw ?_ (λy hr=>?_) _)
 |(with_reducible refine lp (Qmw N _) hr N ?_ (λex hq hk=>⟨_,_,ex,hq,hk,?_⟩) _;clear hr;(try clear E);rintro n1 st ⟨v1,v2,ex,hr,hk,(⟨_,_,E⟩|⟨_,E,z0⟩)⟩<;>(try subst z0)<;>(obtain _|n1:=n1<;>rw[QbG]at hr))
 |refine⟨_,WA _,_,_,_,hr,hk,?_⟩
 |(with_reducible refine lp (Qls N _ _) hr N ?_ (λex hq hk=>⟨_,ex,hq,hk,?_⟩) _;clear hr;(try clear E);rintro n1 st ⟨v2,ex,hr,hk,E⟩<;>(obtain _|n1:=n1<;>rw[QbN]at hr))
 |refine⟨_,WA _,_,_,hr,hk,?_⟩
 |(with_reducible refine lp (Qjk N _ _) hr N ?_ (λex hq hk=>⟨_,_,ex,hq,hk,?_⟩) _;clear hr;(try clear E);rintro n1 st ⟨v22,v23,ex,hr,hk,⟨_,_,_,_,_,E⟩⟩<;>(obtain _|n1:=n1<;>rw[QcZ]at hr))
 |(with_reducible refine lp (Qgi N _) hr N ?_ (λex hq hk=>⟨_,ex,hq,hk,?_⟩) _;clear hr;(try clear E);rintro n1 st ⟨v1,ex,hr,hk,E⟩<;>(obtain _|n1:=n1<;>rw[QaG]at hr))
 |(with_reducible refine lp (Qf1 N _ _) hr N ?_ (λex hq hk=>⟨_,ex,hq,hk,?_⟩) _;clear hr;(try clear E);rintro n1 st ⟨v1,ex,hr,hk,E⟩<;>(obtain _|n1:=n1<;>rw[Qax]at hr))
 |(with_reducible refine lp (Qhc N _) hr N ?_ (λex hq hk=>⟨_,ex,hq,hk,?_⟩) _;clear hr;(try clear E);rintro n1 st ⟨v1,ex,hr,hk,E⟩<;>(obtain _|n1:=n1<;>rw[QaP]at hr))
 |(with_reducible refine lp (QhK N _) hr N ?_ (λex hq hk=>⟨_,_,ex,hq,hk,?_⟩) _;clear hr;(try clear E);rintro n1 st ⟨v1,v2,ex,hr,hk,E⟩<;>(obtain _|n1:=n1<;>rw[QaZ]at hr))
 |(with_reducible refine lp (QhL N _) hr N ?_ (λex hq hk=>⟨_,_,ex,hq,hk,?_⟩) _;clear hr;(try clear E);rintro n2 st ⟨v6,v7,ex,hr,hk,⟨_,E⟩⟩<;>(obtain _|n2:=n2<;>rw[Qa0]at hr))
 |(with_reducible refine lp (Qnz N _) hr N ?_ (λex hq hk=>⟨_,_,ex,hq,hk,?_⟩) _;clear hr;(try clear E);rintro n1 st ⟨v4,v5,ex,hr,hk,⟨_,E⟩⟩<;>(obtain _|n1:=n1<;>rw[Qfq]at hr))
 |refine dc 17 2 hf 11 [(0,118,[[704],[960]]),(0,113,[[],[704,960]]),(2,113,[[],[704,960]]),(7,112,[[704],[960]]),(0,367,[[960],[704]]),(0,31,[[],[704,960]]),(32,31,[[],[704,960]]),(127,256,[[960],[]]),(111,144,[[],[960]]),(511,0,[[320],[]]),(1023,0,[]),(2047,0,[[320],[]])] ?_
 |refine dc 17 3 hf 21 [(0,494,[]),(0,481,[]),(2,481,[]),(6,481,[]),(15,480,[[1000000],[]]),(0,479,[[],[1000000]]),(0,63,[[],[1000000]]),(64,63,[[],[1000000]]),(192,63,[[],[1000000]]),(511,0,[[1000000],[]]),(1023,0,[]),(2047,0,[])] ?_
 |refine dc 17 7 hf 36 [(0,252,[[],[2496,1000000]]),(1,252,[[],[2496,1000000]]),(0,251,[[],[2496,1000000]]),(0,55,[[2496],[1000000]]),(0,15,[[],[2496]]),(16,15,[[1000000],[2496]]),(56,7,[]),(120,7,[]),(255,0,[]),(511,0,[[704],[]])] ?_
 |refine dc 17 9 hf 47 [(0,484,[[],[1000000]]),(1,484,[[],[1000000]]),(0,483,[[],[1000000]]),(7,480,[[],[1000000]]),(15,480,[[],[1000000]]),(0,31,[]),(32,31,[[1000000],[]]),(96,31,[]),(224,31,[]),(511,0,[]),(1023,0,[]),(2047,0,[[704],[]])] ?_
 |refine dc 17 11 hf 60 [(0,28,[[],[1000000]]),(1,28,[[],[1000000]]),(0,27,[[],[1000000]]),(0,7,[]),(8,7,[[1000000],[]]),(31,0,[]),(63,0,[]),(127,0,[[960],[]])] ?_
 |refine dc 17 13 hf 69 [(0,28,[[],[1000000]]),(1,28,[[],[1000000]]),(0,27,[[],[1000000]]),(0,7,[]),(8,7,[[1000000],[]]),(31,0,[]),(63,0,[]),(127,0,[[960],[]])] ?_
 |refine dc 17 15 hf 78 [(0,8188,[[],[1000000]]),(1,8188,[[],[1000000]]),(0,8187,[[],[1000000]]),(0,1575,[[],[1000000]]),(8,1575,[[],[1000000]]),(0,1567,[[],[1000000]]),(56,1543,[[],[1000000]]),(120,1543,[[],[1000000]]),(248,1543,[[],[1000000]]),(0,511,[]),(512,511,[[1000000],[]]),(2040,7,[]),(4088,7,[]),(8191,0,[]),(16383,0,[]),(32767,0,[[960],[]])] ?_
 |refine dc 17 17 hf 95 [(0,60,[[],[1000000]]),(1,60,[[],[1000000]]),(0,59,[[],[1000000]]),(0,7,[]),(8,7,[[1000000],[]]),(24,7,[]),(63,0,[]),(127,0,[]),(255,0,[[960],[]])] ?_
 |(refine Xn hr ?_;rintro rfl;with_reducible refine XK ?_)
 |exact Yr hr
 |((first|refine Xx (c:=true) hr rfl ?_|refine Xx (c:=false) hr rfl ?_|refine Xx hr ag ?_);intro hr)
 |fail)
abbrev QpU:=g10.1
abbrev QoE:=g10.2.1
abbrev Qj5:=g10.2.2.1
abbrev QgS:=g10.2.2.2.1
abbrev Qgj:=g10.2.2.2.2.1
abbrev QhF:=g10.2.2.2.2.2.1
abbrev Qie:=g10.2.2.2.2.2.2.1
abbrev QqO:=g10.2.2.2.2.2.2.2
attribute [instance] QpU QoE Qj5 QgS Qgj QhF Qie QqO
def g6:(∀N a0 a1,OK (Qb5 N a0 a1) 19 [.agg (e45 a0),.ept 1000000 0 2 0 0] [.arr true 49 2 [[s3 a1.L,vi a1.at_]] 0] (λr=>vu r.1) λr=>[.arr true 49 2 [[s3 r.2.L,vi r.2.at_]] 0])/\(∀N a0,OK (Qg0 N a0) 39 [.agg (e23 a0)] [] (λr=>.tup [.agg (e43 r.1),vi r.2]) λr=>[])/\(∀N a0 a1,OK (QgL N a0 a1) 243 [s39 a0,vu a1] [] (λr=>.tup [vi r.1,vi r.2]) λr=>[])/\(∀N a0 a1 a2,OK (QbF N a0 a1 a2) 317 [.agg (e23 a0),vi a1,vi a2] [] (λr=>.tup [vu r.1,vi r.2]) λr=>[])/\(∀N a0 a1,OK (QdD N a0 a1) 251 [.agg (JC a0),vi a1] [] (λr=>.v (.bool r)) λr=>[])/\(∀N a0,OK (Qbg N a0) 96 [.agg (XiL a0)] [] (λr=>.tup [vu r.1,vi r.2]) λr=>[])/\(∀N a0,OK (QhH N a0) 7 [.agg (e38 a0)] [] (λr=>.v (.bool r)) λr=>[])/\(∀N a0,OK (QdS N a0) 265 [.agg (ZS a0)] [] (λr=>.v (.bool r)) λr=>[])/\(∀N a0 a1 a2,OK (QdT N a0 a1 a2) 303 [.agg (e23 a0),vi a1,vi a2] [] (λr=>.tup [vu r.1,vi r.2]) λr=>[])/\(∀N a0 a1,OK (Qai N a0 a1) 47 [s39 a0,vu a1] [] (λr=>.v (.bool r)) λr=>[])/\(∀N a0,OK (Qfn N a0) 54 [.agg (e35 a0)] [] (λr=>.agg (e35 r)) λr=>[])/\(∀N a0,OK (QiC N a0) 349 [.agg (e23 a0)] [] (λr=>vi r) λr=>[])/\(∀N a0 a1,OK (Qcj N a0 a1) 313 [vu a0,vi a1] [] (λr=>.v (.bool r)) λr=>[])/\(∀N a0,OK (Qfs N a0) 275 [.agg (XiL a0)] [] (λr=>.v (.bool r)) λr=>[]):=by
 refine⟨λN _ _=>rk Tryz.f19 ?_,λN _=>rk Tryz.f39 ?_,λN _ _=>rk Tryz.f243 ?_,λN _ _ _=>rk Tryz.f317 ?_,λN _ _=>rk Tryz.f251 ?_,λN _=>rk Tryz.f96 ?_,λN _=>rk Tryz.f7 ?_,λN _=>rk Tryz.f265 ?_,λN _ _ _=>rk Tryz.f303 ?_,λN _ _=>rk Tryz.f47 ?_,λN _=>rk Tryz.f54 ?_,λN _=>rk Tryz.f349 ?_,λN _ _=>rk Tryz.f313 ?_,λN _=>rk Tryz.f275 ?_⟩<;>(rintro _ hw r hr C _ rfl hwf hf;have hgw:=hw.1;have hse:=@Za _ hw;simp only[Tryz.f19,Tryz.f39,Tryz.f243,Tryz.f317,Tryz.f251,Tryz.f96,Tryz.f7,Tryz.f265,Tryz.f303,Tryz.f47,Tryz.f54,Tryz.f349,Tryz.f313,Tryz.f275,Option.get!];(first|rw[Qb5]at hr|rw[Qg0]at hr|rw[QgL]at hr|rw[QbF]at hr|rw[QdD]at hr|rw[Qbg]at hr|rw[QhH]at hr|rw[QdS]at hr|rw[QdT]at hr|rw[Qai]at hr|rw[Qfn]at hr|rw[QiC]at hr|rw[Qcj]at hr|rw[Qfs]at hr);repeat' first
 |(refine El.el hr ?_;clear hr;intro hr)
 |(with_reducible intro h;refine Xx hr h ?_;clear hr;intro hr)
 |with_reducible intro _
 |simp only[go_sem,simprocAttr,Xz,Xk,hgw,hse]
 |(with_reducible first|apply Xi|apply Xh|apply Xs|apply Xq|apply Xr)
 |((first|with_reducible refine Yo hr ag ?_ ?_|(with_reducible refine Ye hr ?_ ?_;rotate_left;intro p;rotate_right));(·simp only[go_sem,simprocAttr,hgw,hse]);intro hp hn hd hr;(try have Xz:=hd _ e39);(try simp only[go_sem,simprocAttr]at Xz);(try have Xk:=hd _ XU);(try simp only[go_sem,simprocAttr]at Xk))
 |(refine Xt ?_ ?_;.first|assumption|omega)
 |(with_reducible refine XcK hr ?_ ?_;(·simp only[go_sem]);intro p hp hn hd hr;(try have Xz:=hd _ e39);(try simp only[go_sem,simprocAttr]at Xz);(try have Xk:=hd _ XU);(try simp only[go_sem,simprocAttr]at Xk))
 |(with_reducible first|refine CallX.c ?_ _|refine OK.c hr hw ?_ (λy hr=>?_) _|refine IK hr hw ?_ (λy hr=>?_) _)
 |refine dc 19 6 hf 20 [(0,924,[[],[1000000]]),(1,924,[[],[1000000]]),(0,139,[]),(0,135,[]),(12,131,[[1000000],[]]),(31,896,[[],[1000000]]),(63,896,[[],[1000000]]),(0,127,[[],[1000000]]),(156,99,[[1000000],[]]),(412,99,[]),(1023,0,[]),(2047,0,[])] ?_
 |refine dc 19 10 hf 35 [(0,28,[[],[1000000]]),(1,28,[[],[1000000]]),(0,11,[]),(0,7,[]),(12,3,[[1000000],[]]),(31,0,[]),(63,0,[]),(127,0,[])] ?_
 |refine dc 19 11 hf 42 [(0,508,[[],[1000000]]),(1,508,[[],[1000000]]),(0,243,[[],[1000000]]),(4,243,[[],[1000000]]),(0,111,[]),(0,31,[]),(32,31,[]),(112,15,[[1000000],[]]),(252,3,[]),(511,0,[]),(1023,0,[]),(2047,0,[])] ?_
 |refine dc 265 4 hf 28 [(0,0,[]),(1,0,[]),(3,0,[]),(7,0,[]),(15,56,[]),(31,56,[]),(63,56,[]),(15,7,[]),(143,7,[]),(399,7,[]),(1023,0,[]),(2047,0,[]),(4095,0,[])] ?_
 |refine dc 275 3 hf 21 [(0,56,[]),(1,56,[]),(3,56,[]),(0,7,[]),(8,7,[]),(24,7,[]),(63,0,[]),(127,0,[]),(255,14336,[]),(511,14336,[]),(1023,14336,[]),(255,1792,[]),(2303,1792,[]),(6399,1792,[]),(16383,0,[]),(32767,0,[]),(65535,0,[])] ?_
 |(refine Xn hr ?_;rintro rfl;with_reducible refine XK ?_)
 |exact Yr hr
 |fail)
abbrev Qlt:=g6.1
abbrev QqP:=g6.2.1
abbrev QoF:=g6.2.2.1
abbrev Qmx:=g6.2.2.2.1
abbrev Qlu:=g6.2.2.2.2.1
abbrev QnA:=g6.2.2.2.2.2.1
abbrev Qmy:=g6.2.2.2.2.2.2.1
abbrev QnB:=g6.2.2.2.2.2.2.2.1
abbrev QnC:=g6.2.2.2.2.2.2.2.2.1
abbrev QhT:=g6.2.2.2.2.2.2.2.2.2.1
abbrev QnD:=g6.2.2.2.2.2.2.2.2.2.2.1
abbrev QpV:=g6.2.2.2.2.2.2.2.2.2.2.2.1
abbrev QqQ:=g6.2.2.2.2.2.2.2.2.2.2.2.2.1
abbrev QnE:=g6.2.2.2.2.2.2.2.2.2.2.2.2.2
attribute [instance] Qlt QqP QoF Qmx Qlu QnA Qmy QnB QnC QhT QnD QpV QqQ QnE
def g8:(∀N a0,OK (QgZ N a0) 105 [.agg (e23 a0)] [] (λr=>.tup [.agg (e27 r.1),vi r.2]) λr=>[])/\(∀N a0,OK (Qde N a0) 166 [.agg (ZS a0)] [] (λr=>vi r) λr=>[])/\(∀N a0,OK (Qc1 N a0) 253 [.agg (ZS a0)] [] (λr=>.tup [vu r.1,vi r.2]) λr=>[])/\(∀N a0 a1 a2,OK (QdO N a0 a1 a2) 320 [s39 a0,vu a1,vi a2] [] (λr=>.tup [s39 r.1,vi r.2]) λr=>[])/\(∀N a0,OK (QgM N a0) 282 [.agg (e23 a0)] [] (λr=>vi r) λr=>[])/\(∀N a0 a1,OK (QhZ N a0 a1) 199 [.agg (e43 a0),vu a1] [] (λr=>vi r) λr=>[])/\(∀N a0 a1,OK (Qef N a0 a1) 322 [.agg (XhD a0),.agg (e23 a1)] [] (λr=>.v (.bool r)) λr=>[])/\(∀N a0 a1,OK (Qip N a0 a1) 311 [s39 a0,vu a1] [] (λr=>.tup [vi r.1,vi r.2]) λr=>[])/\(∀N a0 a1,OK (QgV N a0 a1) 211 [vu a0,vu a1] [] (λr=>.v (.bool r)) λr=>[])/\(∀N a0,OK (QfA N a0) 53 [.agg (e32 a0)] [] (λr=>.agg (e32 r)) λr=>[])/\(∀N a0 a1 a2,OK (QhP N a0 a1 a2) 351 [Yj a0,vi a1,Yj a2] [] (λr=>.tup [.fsl 114 4 (r.1.map XU),vi r.2]) λr=>[])/\(∀N a0 a1 a2,OK (QgR N a0 a1 a2) 312 [s39 a0,vu a1,s39 a2] [] (λr=>.tup [s39 r.1,vi r.2]) λr=>[])/\(∀N a0,OK (Qfb N a0) 228 [.agg (e35 a0)] [] (λr=>.agg [.fsl 74 3 (r.e.map e74)]) λr=>[]):=by
 refine⟨λN _=>rk Tryz.f105 ?_,λN _=>rk Tryz.f166 ?_,λN _=>rk Tryz.f253 ?_,λN _ _ _=>rk Tryz.f320 ?_,λN _=>rk Tryz.f282 ?_,λN _ _=>rk Tryz.f199 ?_,λN _ _=>rk Tryz.f322 ?_,λN _ _=>rk Tryz.f311 ?_,λN _ _=>rk Tryz.f211 ?_,λN _=>rk Tryz.f53 ?_,λN _ _ _=>rq Tryz.f351 [1920] ?_,λN _ _ _=>rk Tryz.f312 ?_,λN _=>rq Tryz.f228 [320] ?_⟩<;>(rintro _ hw r hr C _ rfl hwf hf;have hse:=@Za _ hw;simp only[Tryz.f105,Tryz.f166,Tryz.f253,Tryz.f320,Tryz.f282,Tryz.f199,Tryz.f322,Tryz.f311,Tryz.f211,Tryz.f53,Tryz.f351,Tryz.f312,Tryz.f228,Option.get!];(first|rw[QgZ]at hr|rw[Qde]at hr|rw[Qc1]at hr|rw[QdO]at hr|rw[QgM]at hr|rw[QhZ]at hr|rw[Qef]at hr|rw[Qip]at hr|rw[QgV]at hr|rw[QfA]at hr|rw[QhP]at hr|rw[QgR]at hr|rw[Qfb]at hr);repeat' first
 |(refine El.el hr ?_;clear hr;intro hr)
 |(with_reducible intro h;refine Xx hr h ?_;clear hr;intro hr)
 |with_reducible intro _
 |simp only[go_sem,simprocAttr,hse,Wl,Wn,Wz]
 |(with_reducible first|apply Xi|apply Xh|apply Xs|apply Xq|apply Xr)
 |(refine Xt ?_ ?_;.first|assumption|omega)
 |(with_reducible first|refine CallX.c ?_ _|refine OK.c hr hw ?_ (λy hr=>?_) _|refine IK hr hw ?_ (λy hr=>?_) _)
 |refine dc 105 3 hf 8 [(0,1022,[[],[896,1088]]),(0,921,[[],[1088]]),(2,921,[[],[1088]]),(0,903,[[],[1088]]),(8,903,[[],[1088]]),(30,897,[[],[1088]]),(62,897,[[896],[1088]]),(0,127,[[],[896]]),(128,127,[[],[896]]),(384,127,[[1088],[896]]),(1023,0,[]),(2047,0,[[128],[]]),(4095,0,[])] ?_
 |refine dc 53 1 hf 3 [(0,216,[]),(1,216,[]),(3,216,[[320],[]]),(0,199,[[],[320]]),(8,199,[[],[320]]),(31,192,[[512],[]]),(0,63,[[],[320,512]]),(64,63,[[],[320,512]]),(255,0,[[704],[]]),(511,0,[]),(1023,0,[[128],[]])] ?_
 |(refine Xn hr ?_;rintro rfl;with_reducible refine XK ?_)
 |exact Yr hr
 |rw[Uu ah]
 |omega
 |rw[Uu (by simp only[WR,W4,Wn];omega)]
 |fail)
abbrev QqR:=g8.1
abbrev QpW:=g8.2.1
abbrev QnF:=g8.2.2.1
abbrev QpX:=g8.2.2.2.1
abbrev QoG:=g8.2.2.2.2.1
abbrev QnG:=g8.2.2.2.2.2.1
abbrev Qj6:=g8.2.2.2.2.2.2.1
abbrev QoH:=g8.2.2.2.2.2.2.2.1
abbrev QkD:=g8.2.2.2.2.2.2.2.2.1
abbrev Qmz:=g8.2.2.2.2.2.2.2.2.2.1
abbrev QqS:=g8.2.2.2.2.2.2.2.2.2.2.1
abbrev QoI:=g8.2.2.2.2.2.2.2.2.2.2.2.1
abbrev QoJ:=g8.2.2.2.2.2.2.2.2.2.2.2.2
attribute [instance] QqR QpW QnF QpX QoG QnG Qj6 QoH QkD Qmz QqS QoI QoJ
end Go.Sx
