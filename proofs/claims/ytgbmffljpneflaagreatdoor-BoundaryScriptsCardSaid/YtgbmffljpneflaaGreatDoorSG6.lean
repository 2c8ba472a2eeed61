import Derived.Test.YtgbmffljpneflaaGreatDoorSG3
import Derived.Test.YtgbmffljpneflaaGreatDoorSG4
import Derived.Test.YtgbmffljpneflaaGreatDoorSG5
set_option linter.all false
namespace Go.Sx
open Go.Proofs
set_option maxRecDepth 10000
set_option maxHeartbeats 100000000
abbrev Qmn:=λN b c (Q:(Ex Int Unit)→Prop) n (st:St)=>∃d e,QcY N b c n d=some e/\Q e/\((∃a,st.n=28/\st.t 1=vi c/\st.t 2=.ept 128 a 2 0 0/\st.t 5=vi d/\st.s 128=some (a,.arr true 23 2 [e23 b] 0)))
abbrev Qmo:=λN d (Q:(List Int)→Prop) n (st:St)=>∃e c f,Qbx N d n e c=some f/\Q f/\((∃a b,st.n=32/\st.s 1920=some (a,.arr false 39 1 (c.map e39) 0)/\st.t 1=.ept 64 b 3 0 0/\st.t 3=.osl 1920 a 1 0 c.length/\st.t 4=vi e/\st.s 64=some (b,.arr true 32 3 [e32 d] 0))\/(∃b,(st.n=32/\st.t 1=.ept 64 b 3 0 0/\st.t 3=.nsl/\st.t 4=vi e/\st.s 64=some (b,.arr true 32 3 [e32 d] 0))/\c=[]))
abbrev Qjr:=λN d (Q:(List Int)→Prop) n (st:St)=>∃e c f,Qb6 N d n e c=some f/\Q f/\((∃a b,st.n=23/\st.s 1344=some (a,.arr false 3 1 (c.map e3) 0)/\st.t 1=.ept 64 b 3 0 0/\st.t 3=.osl 1344 a 1 0 c.length/\st.t 4=vi e/\st.s 64=some (b,.arr true 131 3 [ZM d] 0))\/(∃b,(st.n=23/\st.t 1=.ept 64 b 3 0 0/\st.t 3=.nsl/\st.t 4=vi e/\st.s 64=some (b,.arr true 131 3 [ZM d] 0))/\c=[]))
abbrev Qmp:=λN d (Q:(List WQ)→Prop) n (st:St)=>∃e f c g,QbC N d n e f c=some g/\Q g/\((∃a b,st.n=48/\st.s 1344=some (a,.arr false 74 3 (c.map e74) 0)/\st.t 1=s39 d/\st.t 4=.ept 256 b 1 0 0/\st.t 6=.osl 1344 a 3 0 c.length/\st.t 7=vi e/\st.t 8=vi f/\st.s 256=some (b,.arr true 35 1 [[.nsl]] 0)))
abbrev Qmq:=λN d (Q:(List Int)→Prop) n (st:St)=>∃e c f,Qey N d n e c=some f/\Q f/\((∃a b,st.n=25/\st.s 1472=some (a,.arr false 39 1 (c.map e39) 0)/\st.t 1=.ept 64 b 4 0 0/\st.t 3=.osl 1472 a 1 0 c.length/\st.t 4=vi e/\st.s 64=some (b,.arr true 177 4 [XbM d] 0))\/(∃b,(st.n=25/\st.t 1=.ept 64 b 4 0 0/\st.t 3=.nsl/\st.t 4=vi e/\st.s 64=some (b,.arr true 177 4 [XbM d] 0))/\c=[]))
abbrev QgO:=λN a b (Q:Int→Prop) n (st:St)=>∃c d e,Qay N a b n c d=some e/\Q e/\((st.n=54/\st.t 0=s39 a/\st.t 1=vu b/\st.t 6=vi a.length/\st.t 7=vi c/\st.t 8=vi d))
abbrev Qnu:=λN a (Q:(Ex (Int × Int) Unit)→Prop) n (st:St)=>∃b c d,Qbf N a n b c=some d/\Q d/\((st.n=55/\st.t 0=Xm4 a/\st.t 4=vi b/\st.t 11=Xm4 a/\st.t 12=vi a.length/\st.t 13=vi c))
abbrev Qnv:=λN a (Q:(Ex (Int × Int) Int)→Prop) n (st:St)=>∃b c d e,QaO N a n b c d=some e/\Q e/\((st.n=55/\st.t 7=vu b/\st.t 8=vi c/\st.t 31=Xm4 a/\st.t 32=vi a.length/\st.t 33=vi d))
abbrev Qks:=λN a (Q:(List Int × List Wv × Int)→Prop) n (st:St)=>∃i k l g m,QbL N a n i k l g=some m/\Q m/\((∃e,st.n=88/\st.s 960=some (e,.arr false 39 1 (g.map e39) 0)/\st.t 0=.ept 1000000 0 16 0 0/\st.t 2=.ept 1000000 0 16 0 0/\st.t 21=Ya a.h.p/\st.t 22=vi a.h.p.length/\st.t 23=vi i/\st.s 1000000=some (0,.arr true 371 16 [[vi a.h.c.W,vi a.h.c.p,.osl 960 e 1 0 g.length,Ya k,vi a.h.s,vi a.h.b,s39 a.o,s3 a.t,s39 a.q,vi a.d,vi a.r.j,vi a.r.K,vi a.r.F,vi l,vi a.r.f,vi a.r.y]] 0)))
def g15:(∀N a0 a1,OK (Qfx N a0 a1) 165 [.agg (e23 a0),vi a1] [] (λr=>vi r) λr=>[])/\(∀N a0,OK (Qc1 N a0) 82 [.agg (e32 a0)] [] (λr=>s39 r) λr=>[])/\(∀N a0,OK (Qf4 N a0) 292 [.agg (ZM a0)] [] (λr=>s3 r) λr=>[])/\(∀N a0 a1,OK (Qc3 N a0 a1) 110 [.agg (e35 a0),s39 a1] [] (λr=>.tup [.agg (e35 r.1),vi r.2]) λr=>[])/\(∀N a0,OK (Qhb N a0) 189 [.agg (XbM a0)] [] (λr=>s39 r) λr=>[])/\(∀N a0 a1,OK (Qau N a0 a1) 133 [s39 a0,vu a1] [] (λr=>.tup [vi r.1,.v (.bool r.2)]) λr=>[])/\(∀N a0,OK (QfI N a0) 276 [Xm4 a0] [] (λr=>.tup [vu r.1,vi r.2]) λr=>[])/\(∀N a0,OK (Qfj N a0) 340 [.ept 1000000 0 16 0 0] [.arr true 371 16 [[vi a0.h.c.W,vi a0.h.c.p,s39 a0.h.w,Ya a0.h.p,vi a0.h.s,vi a0.h.b,s39 a0.o,s3 a0.t,s39 a0.q,vi a0.d,vi a0.r.j,vi a0.r.K,vi a0.r.F,vi a0.r.E,vi a0.r.f,vi a0.r.y]] 0] (λr=>.tup []) λr=>[.arr true 371 16 [[vi r.h.c.W,vi r.h.c.p,s39 r.h.w,Ya r.h.p,vi r.h.s,vi r.h.b,s39 r.o,s3 r.t,s39 r.q,vi r.d,vi r.r.j,vi r.r.K,vi r.r.F,vi r.r.E,vi r.r.f,vi r.r.y]] 0]):=by
 refine⟨λN _ _=>rk Tryz.f165 ?_,λN _=>rk Tryz.f82 ?_,λN _=>rk Tryz.f292 ?_,λN _ _=>rk Tryz.f110 ?_,λN _=>rk Tryz.f189 ?_,λN _ _=>rk Tryz.f133 ?_,λN _=>rk Tryz.f276 ?_,λN _=>rk Tryz.f340 ?_⟩<;>(rintro _ hw r hr C _ rfl hwf hf;simp only[Tryz.f165,Tryz.f82,Tryz.f292,Tryz.f110,Tryz.f189,Tryz.f133,Tryz.f276,Tryz.f340,Option.get!];(first|rw[Qfx]at hr|rw[Qc1]at hr|rw[Qf4]at hr|rw[Qc3]at hr|rw[Qhb]at hr|rw[Qau]at hr|rw[QfI]at hr|rw[Qfj]at hr);repeat' first
 |(refine El.el hr ?_;clear hr;intro hr)
 |(with_reducible intro h;refine Xv hr h ?_;clear hr;intro hr)
 |with_reducible intro _
 |(refine Xm hr ?_;rintro rfl;have hr:=hk;clear hk)
 |simp only[go_sem,simprocAttr,E,Xw,Yw,YJ,Xk,Xm1,Wj,Wl,Ww]
 |(with_reducible first|apply Xi|apply Xh|apply Xo|apply Xr|apply Xs)
 |((first|with_reducible refine Yn hr ag ?_ ?_|(with_reducible refine Yj hr ?_ ?_;rotate_left;intro p;rotate_right));(·simp only[go_sem,simprocAttr,Wj,Wl,Ww]);intro hp hn hd hr;(try have Xw:=hd _ e39);(try simp only[go_sem,simprocAttr]at Xw);(try have Yw:=hd _ e72);(try simp only[go_sem,simprocAttr]at Yw);(try have YJ:=hd _ e74);(try simp only[go_sem,simprocAttr]at YJ);(try have Xk:=hd _ XW);(try simp only[go_sem,simprocAttr]at Xk);(try have Xm1:=hd _ Xqz);(try simp only[go_sem,simprocAttr]at Xm1))
 |(refine Xp ?_ ?_;.first|assumption|omega)
 |(with_reducible first|refine CallX.c ?_ _|refine OK.c hr hw ?_ (λy hr=>?_) _)
 |(with_reducible refine lp (Qmn N _ _) hr N ?_ (λex hq hk=>⟨_,ex,hq,hk,?_⟩) _;clear hr;(try clear E);rintro n1 st ⟨v3,ex,hr,hk,⟨_,E⟩⟩<;>(obtain _|n1:=n1<;>rw[QcY]at hr))
 |refine⟨_,WA _,_,_,hr,hk,?_⟩
 |(with_reducible refine lp (Qmo N _) hr N ?_ (λex hq hk=>⟨_,_,ex,hq,hk,?_⟩) _;clear hr;(try clear E);rintro n1 st ⟨v1,v2,ex,hr,hk,(⟨_,_,E⟩|⟨_,E,z0⟩)⟩<;>(try subst z0)<;>(obtain _|n1:=n1<;>rw[Qbx]at hr))
 |refine⟨_,WA _,_,_,_,hr,hk,?_⟩
 |(with_reducible refine lp (Qjr N _) hr N ?_ (λex hq hk=>⟨_,_,ex,hq,hk,?_⟩) _;clear hr;(try clear E);rintro n1 st ⟨v1,v2,ex,hr,hk,(⟨_,_,E⟩|⟨_,E,z0⟩)⟩<;>(try subst z0)<;>(obtain _|n1:=n1<;>rw[Qb6]at hr))
 |(with_reducible refine lp (Qmp N _) hr N ?_ (λex hq hk=>⟨_,_,_,ex,hq,hk,?_⟩) _;clear hr;(try clear E);rintro n1 st ⟨v3,v4,v5,ex,hr,hk,⟨_,_,E⟩⟩<;>(obtain _|n1:=n1<;>rw[QbC]at hr))
 |refine⟨_,WA _,_,_,_,_,hr,hk,?_⟩
 |(with_reducible refine lp (Qmq N _) hr N ?_ (λex hq hk=>⟨_,_,ex,hq,hk,?_⟩) _;clear hr;(try clear E);rintro n1 st ⟨v1,v2,ex,hr,hk,(⟨_,_,E⟩|⟨_,E,z0⟩)⟩<;>(try subst z0)<;>(obtain _|n1:=n1<;>rw[Qey]at hr))
 |(with_reducible refine lp (QgO N _ _) hr N ?_ (λex hq hk=>⟨_,_,ex,hq,hk,?_⟩) _;clear hr;(try clear E);rintro n1 st ⟨v1,v2,ex,hr,hk,E⟩<;>(obtain _|n1:=n1<;>rw[Qay]at hr))
 |(with_reducible refine lp (Qnu N _) hr N ?_ (λex hq hk=>⟨_,_,ex,hq,hk,?_⟩) _;clear hr;(try clear E);rintro n1 st ⟨v1,v2,ex,hr,hk,E⟩<;>(obtain _|n1:=n1<;>rw[Qbf]at hr))
 |(with_reducible refine lp (Qnv N _) hr N ?_ (λex hq hk=>⟨_,_,_,ex,hq,hk,?_⟩) _;clear hr;(try clear E);rintro n2 st ⟨v5,v6,v7,ex,hr,hk,E⟩<;>(obtain _|n2:=n2<;>rw[QaO]at hr))
 |(with_reducible refine lp (Qks N _) hr N ?_ (λex hq hk=>⟨_,_,_,_,ex,hq,hk,?_⟩) _;clear hr;(try clear E);rintro n1 st ⟨v2,v3,v4,v5,ex,hr,hk,⟨_,E⟩⟩<;>(obtain _|n1:=n1<;>rw[QbL]at hr))
 |refine⟨_,WA _,_,_,_,_,_,hr,hk,?_⟩
 |refine dc 340 5 hf 32 [(0,0,[]),(1,0,[]),(3,0,[]),(7,0,[]),(15,60,[]),(31,60,[]),(15,3,[]),(79,3,[]),(207,3,[]),(463,3,[]),(1023,0,[]),(2047,0,[])] ?_
 |refine dc 340 6 hf 40 [(0,524272,[]),(1,524272,[]),(3,524272,[]),(7,524272,[]),(0,523247,[]),(0,522271,[]),(32,522271,[]),(96,522271,[]),(224,522271,[]),(480,522271,[]),(1008,522255,[]),(0,255999,[]),(2048,255999,[]),(0,8191,[]),(8192,8191,[]),(24576,8191,[]),(57344,8191,[]),(122880,8191,[]),(260096,2047,[]),(524287,0,[]),(1048575,0,[[960],[]])] ?_
 |(refine Xm hr ?_;rintro rfl;with_reducible refine XI ?_)
 |exact Ym hr
 |((first|refine Xv (c:=true) hr rfl ?_|refine Xv (c:=false) hr rfl ?_|refine Xv hr ag ?_);intro hr)
 |omega
 |fail)
abbrev QpJ:=g15.1
abbrev QpK:=g15.2.1
abbrev Qlj:=g15.2.2.1
abbrev QpL:=g15.2.2.2.1
abbrev QpM:=g15.2.2.2.2.1
abbrev Qhm:=g15.2.2.2.2.2.1
abbrev QqF:=g15.2.2.2.2.2.2.1
abbrev Qnw:=g15.2.2.2.2.2.2.2
attribute [instance] QpJ QpK Qlj QpL QpM Qhm QqF Qnw
def g12:(∀N a0 a1,OK (Qdk N a0 a1) 8 [.agg (e45 a0),.ept 1000000 0 2 0 0] [.arr true 49 2 [[s3 a1.L,vi a1.at_]] 0] (λr=>.agg (e54 r.1)) λr=>[.arr true 49 2 [[s3 r.2.L,vi r.2.at_]] 0])/\(∀N a0,OK (QcN N a0) 247 [vu a0] [] (λr=>.tup [.agg (ZM r.1),.v (.bool r.2)]) λr=>[])/\(∀N a0 a1 a2,OK (QcP N a0 a1 a2) 172 [s39 a0,vu a1,vu a2] [] (λr=>.tup [s39 r.1,vi r.2]) λr=>[])/\(∀N a0 a1,OK (QeX N a0 a1) 240 [.agg (e27 a0),vi a1] [] (λr=>.tup [.agg (e27 r.1),vu r.2.1,.v (.bool r.2.2)]) λr=>[])/\(∀N a0 a1 a2,OK (QcV N a0 a1 a2) 99 [.agg (e35 a0),vi a1,vi a2] [] (λr=>.tup [.agg (e35 r.1),vi r.2]) λr=>[])/\(∀N a0 a1 a2,OK (Qfp N a0 a1 a2) 117 [.agg (e43 a0),vi a1,vu a2] [] (λr=>.tup [.agg (e43 r.1),vu r.2]) λr=>[])/\(∀N a0,OK (Qbr N a0) 267 [.agg (ZM a0)] [] (λr=>vi r) λr=>[])/\(∀N a0 a1,OK (Qcq N a0 a1) 219 [.agg (ZM a0),vi a1] [] (λr=>.v (.bool r)) λr=>[])/\(∀N a0,OK (QaQ N a0) 127 [s74 a0,.clo (.func 128) [] []] [] (λr=>.v (.bool r)) λr=>[])/\(∀N a0 a1 a2,OK (Qeh N a0 a1 a2) 330 [Ya a0,vi a1,vi a2] [] (λr=>.tup [.fsl 114 4 (r.1.map XW),vi r.2]) λr=>[])/\(∀N a0,OK (QdW N a0) 222 [vu a0] [] (λr=>.tup [.agg (Xh9 r.1),vi r.2]) λr=>[])/\(∀N a0 a1 a2,OK (QfJ N a0 a1 a2) 234 [.agg (e27 a0),vu a1,vi a2] [] (λr=>.agg (e27 r)) λr=>[]):=by
 refine⟨λN _ _=>rk Tryz.f8 ?_,λN _=>rk Tryz.f247 ?_,λN _ _ _=>rk Tryz.f172 ?_,λN _ _=>rk Tryz.f240 ?_,λN _ _ _=>rk Tryz.f99 ?_,λN _ _ _=>rk Tryz.f117 ?_,λN _=>rk Tryz.f267 ?_,λN _ _=>rk Tryz.f219 ?_,λN _=>rk Tryz.f127 ?_,λN _ _ _=>rq Tryz.f330 [1152] ?_,λN _=>rk Tryz.f222 ?_,λN _ _ _=>rk Tryz.f234 ?_⟩<;>(rintro _ hw r hr C _ rfl hwf hf;have hgw:=hw.1;have hse:=@Zn _ hw;simp only[Tryz.f8,Tryz.f247,Tryz.f172,Tryz.f240,Tryz.f99,Tryz.f117,Tryz.f267,Tryz.f219,Tryz.f127,Tryz.f330,Tryz.f222,Tryz.f234,Option.get!];(first|rw[Qdk]at hr|rw[QcN]at hr|rw[QcP]at hr|rw[QeX]at hr|rw[QcV]at hr|rw[Qfp]at hr|rw[Qbr]at hr|rw[Qcq]at hr|rw[QaQ]at hr|rw[Qeh]at hr|rw[QdW]at hr|rw[QfJ]at hr);repeat' first
 |(refine El.el hr ?_;clear hr;intro hr)
 |(with_reducible intro h;refine Xv hr h ?_;clear hr;intro hr)
 |with_reducible intro _
 |simp only[go_sem,simprocAttr,Xsh,hl3,Xw,Xk,hgw,hse,Wj,Wl,Ww]
 |(with_reducible first|apply Xi|apply Xh|apply Xo|apply Xr|apply Xs)
 |((first|with_reducible refine Yn hr ag ?_ ?_|(with_reducible refine Yj hr ?_ ?_;rotate_left;intro p;rotate_right));(·simp only[go_sem,simprocAttr,hgw,hse,Wj,Wl,Ww]);intro hp hn hd hr;(try have hl3:=hd _ e3);(try simp only[go_sem,simprocAttr]at hl3);(try have Xw:=hd _ e39);(try simp only[go_sem,simprocAttr]at Xw);(try have Xk:=hd _ XW);(try simp only[go_sem,simprocAttr]at Xk))
 |(refine Xp ?_ ?_;.first|assumption|omega)
 |(with_reducible refine Xcp hr ?_ ?_;(·simp only[go_sem]);intro p hp hn hd hr;(try have hl3:=hd _ e3);(try simp only[go_sem,simprocAttr]at hl3);(try have Xw:=hd _ e39);(try simp only[go_sem,simprocAttr]at Xw);(try have Xk:=hd _ XW);(try simp only[go_sem,simprocAttr]at Xk))
 |(with_reducible first|refine CallX.c ?_ _|refine OK.c hr hw ?_ (λy hr=>?_) _|refine IK hr hw ?_ (λy hr=>?_) _)
 |with_reducible refine OF 6 ?_ _
 |with_reducible refine LoopU.s 1000 ?_ _
 |refine dc 240 5 hf 27 [(0,0,[]),(1,0,[]),(3,0,[]),(7,196,[]),(15,196,[]),(7,195,[]),(63,192,[]),(127,192,[]),(255,192,[]),(7,63,[]),(519,63,[]),(2047,0,[]),(4095,0,[]),(8191,0,[]),(16383,3809280,[]),(32767,3809280,[]),(16383,3807232,[]),(131071,3801088,[]),(262143,3801088,[]),(524287,3801088,[]),(16383,3799040,[]),(2097151,3670016,[]),(16383,522240,[]),(4210687,522240,[]),(12599295,522240,[]),(33554431,0,[]),(67108863,0,[]),(134217727,0,[]),(268435455,67108864,[]),(268435455,33554432,[]),(1073741823,0,[]),(2147483647,0,[])] ?_
 |refine dc 240 11 hf 79 [(0,4046,[]),(0,4033,[]),(2,4033,[]),(6,4033,[]),(15,4032,[]),(31,4032,[]),(0,319,[]),(64,319,[]),(0,255,[]),(448,63,[]),(960,63,[]),(1984,63,[]),(4095,0,[]),(8191,0,[]),(16383,0,[])] ?_
 |refine dc 240 12 hf 93 [(0,2044,[]),(1,2044,[]),(0,2043,[]),(0,551,[]),(8,551,[]),(0,543,[]),(56,519,[]),(120,519,[]),(248,519,[]),(0,511,[]),(1016,7,[]),(2047,0,[]),(4095,0,[]),(8191,0,[[704,4672],[]])] ?_
 |refine dc 222 6 hf 6 [(0,33423361,[[],[384]]),(1,33423361,[[],[384]]),(3,33423361,[[],[384]]),(7,33423361,[[],[384]]),(0,31580161,[[],[384]]),(16,31580161,[[],[384]]),(48,31580161,[[],[384]]),(112,31580161,[[],[384]]),(0,2088961,[[],[384]]),(256,2088961,[[],[384]]),(768,2088961,[[],[384]]),(1792,2088961,[[],[384]]),(4095,1,[[],[384]]),(0,67100672,[[384],[]]),(16383,0,[[384],[]])] ?_
 |refine dc 234 2 hf 18 [(0,24,[]),(1,24,[]),(3,24,[[1280],[]]),(0,7,[[],[1280]]),(8,7,[[],[1280]]),(31,64,[[1472],[]]),(31,32,[[],[1472]]),(127,0,[[192],[]]),(255,0,[]),(511,0,[[192],[]])] ?_
 |(refine Xm hr ?_;rintro rfl;with_reducible refine XI ?_)
 |exact Ym hr
 |fail)
abbrev Qlk:=g12.1
abbrev Qnx:=g12.2.1
abbrev Qox:=g12.2.2.1
abbrev Qoy:=g12.2.2.2.1
abbrev Qny:=g12.2.2.2.2.1
abbrev Qmr:=g12.2.2.2.2.2.1
abbrev Qoz:=g12.2.2.2.2.2.2.1
abbrev Qll:=g12.2.2.2.2.2.2.2.1
abbrev Qfm:=g12.2.2.2.2.2.2.2.2.1
abbrev QpN:=g12.2.2.2.2.2.2.2.2.2.1
abbrev Qms:=g12.2.2.2.2.2.2.2.2.2.2.1
abbrev QpO:=g12.2.2.2.2.2.2.2.2.2.2.2
attribute [instance] Qlk Qnx Qox Qoy Qny Qmr Qoz Qll Qfm QpN Qms QpO
def Qhn{C:Cx}{N:Nat}{a0:WD}{a1:Int}{β:Type}{k:Bool → Option β}{r:β}{dst:Option Nat}{st:St}{K:St → Prop}{wb w1 w3:Nat}(hw:GW C.G)(hr:bnd (Qdr N a0 a1) k=some r)(p wp w4 w5:Nat)(hp:p=51840\/p=210816)(E0:st.s 51584=some (w1,.arr false 39 1 (a0.h.w.map e39) 0))(E1:st.s p=some (wp,.arr false 114 4 (a0.h.p.map XW) 0))(E2:st.s 52288=some (w3,.arr false 39 1 (a0.o.map e39) 0))(E3:st.s 52480=some (w4,.arr false 3 1 (a0.t.map e3) 0))(E4:st.s 52672=some (w5,.arr false 39 1 (a0.q.map e39) 0))(E5:st.s 51264=some (wb,.arr true 385 16 [[vi a0.h.c.W,vi a0.h.c.p,.osl 51584 w1 1 0 a0.h.w.length,.osl p wp 4 0 a0.h.p.length,vi a0.h.s,vi a0.h.b,.osl 52288 w3 1 0 a0.o.length,.osl 52480 w4 1 0 a0.t.length,.osl 52672 w5 1 0 a0.q.length,vi a0.d,vi a0.r.j,vi a0.r.K,vi a0.r.F,vi a0.r.E,vi a0.r.f,vi a0.r.y]] 0))(hK:∀y,k y=some r→∀s' kk,FwH s' wb w1 p wp w3 w4 w5 a0→K (nxS st (XP dst st.n) (.v (.bool y)) (Xia st.s s') st.n kk))(t:Prf ([.ept 51264 wb 16 0 0,vi a1]:List D)):CallX Tryz.prog C 363 [.ept 51264 wb 16 0 0,vi a1] dst st K t:=by
 refine Xag hr λy hr hk2=>?_;have E:=And.intro E0 (And.intro E1 (And.intro E2 (And.intro E3 (And.intro E4 E5))));clear E0 E1 E2 E3 E4 E5;have hse:=@Zn _ hw;rcases hp with rfl|rfl<;>(refine CallX.inl (f:=363) 1600 (fn:=Tryz.f363) (rs:=[.tmp 4]) (nt:=45) 1000 ac (λx=>?_) _;simp only[Tryz.f363,Option.get!];rw[Qdr]at hr;repeat' first
 |(refine El.el hr ?_;clear hr;intro hr)
 |(with_reducible intro h;refine Xv hr h ?_;clear hr;intro hr)
 |with_reducible intro _
 |simp only[go_sem,simprocAttr,E,Xk,hse]
 |(with_reducible first|apply Xi|apply Xh|apply Xo|apply Xr|apply Xs)
 |((first|with_reducible refine Yn hr ag ?_ ?_|(with_reducible refine Yj hr ?_ ?_;rotate_left;intro p;rotate_right));(·simp only[go_sem,simprocAttr,hse]);intro hp hn hd hr;(try have Xk:=hd _ XW);(try simp only[go_sem,simprocAttr]at Xk))
 |(refine Xp ?_ ?_;.first|assumption|omega)
 |(refine CallX.inl (f:=365) 2400 (fn:=Tryz.f365) (rs:=[.tmp 2]) (nt:=9) 1000 ac (λx=>?_) _;simp only[Tryz.f365,Option.get!])
 |(with_reducible first|refine CallX.c ?_ _|refine OK.c hr hw ?_ (λy hr=>?_) _|refine IK hr hw ?_ (λy hr=>?_) _)
 |refine dc 363 4 hf 30 [(0,0,[]),(1,0,[]),(3,0,[]),(7,0,[]),(15,12,[]),(31,12,[]),(15,3,[]),(79,3,[]),(255,0,[]),(511,0,[]),(1023,0,[]),(2047,2048,[]),(4095,2048,[]),(8191,2048,[]),(16383,2048,[]),(2047,1920,[]),(65535,0,[]),(131071,0,[]),(262143,0,[]),(524287,0,[])] ?_
 |refine db 363 4 ⟨⟩ 30 [(0,0,[]),(1,0,[]),(3,0,[]),(7,0,[]),(15,12,[]),(31,12,[]),(15,3,[]),(79,3,[]),(255,0,[]),(511,0,[]),(1023,0,[]),(2047,2048,[]),(4095,2048,[]),(8191,2048,[]),(16383,2048,[]),(2047,1920,[]),(65535,0,[]),(131071,0,[]),(262143,0,[]),(524287,0,[])] rfl rfl ac ?_ _
 |exact Ym hr
 |(with_reducible apply Xcn;(·simp only[go_sem,simprocAttr,E,Xk,hse];repeat' first|rfl|refine⟨?_,?_⟩);(·simp only[ZI,snap,go_sem,simprocAttr,E,Xk,hse];repeat' first|rfl|refine⟨?_,?_⟩);(·simp only[go_sem,simprocAttr,E,Xk,hse];first|done|omega|(simp;omega)))
 |(refine Xm hr ?_;rintro rfl;(try simp only[go_sem,simprocAttr,E,Xk,hse]);refine Xpp (K:=λs=>K (nxS _ _ _ s _ _)) (λh=>hK _ hk2 _ _ h) ?_ ?_;refine⟨?_,?_,?_,?_,?_,?_⟩;(iterate 6 (·first|rfl|(simp only[go_sem,simprocAttr,E,Xk,hse];(repeat' first|rfl|refine⟨?_,?_⟩);done)));(intro i hi;first|rfl|exact hl0 i hi|(simp only[Y5,Zy,Ko,Xy,Vl hi,hi,simprocAttr,if_true,if_false];first|done|exact hl0 i hi)|(simp only[Y5,Zy,Ko,Xy,Vl hi,hi,simprocAttr,if_true,if_false])))
 |fail)
end Go.Sx
