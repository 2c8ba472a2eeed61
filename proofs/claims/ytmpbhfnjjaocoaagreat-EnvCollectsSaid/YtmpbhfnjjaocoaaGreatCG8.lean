import Derived.Test.YtmpbhfnjjaocoaaGreatCG3
import Derived.Test.YtmpbhfnjjaocoaaGreatCG4
import Derived.Test.YtmpbhfnjjaocoaaGreatCG5
set_option linter.all false
namespace Go.Sx
open Go.Proofs
set_option maxRecDepth 10000
set_option maxHeartbeats 100000000
abbrev Qlr:=λN a0 (Q:(List Int)→Prop) n (st:St)=>∃v1 v2 ex,Qbp N a0 n v1 v2=some ex/\Q ex/\((∃w1920 w64,st.n=32/\st.s 1920=some (w1920,.arr false 58 1 (v2.map e58) 0)/\st.t 1=.ept 64 w64 3 0 0/\st.t 3=.osl 1920 w1920 1 0 v2.length/\st.t 4=vi v1/\st.s 64=some (w64,.arr true 32 3 [e32 a0] 0))\/(∃w64,(st.n=32/\st.t 1=.ept 64 w64 3 0 0/\st.t 3=.nsl/\st.t 4=vi v1/\st.s 64=some (w64,.arr true 32 3 [e32 a0] 0))/\v2=[]))
abbrev Qls:=λN a0 a1 (Q:(Ex Int Unit)→Prop) n (st:St)=>∃v3 ex,QcC N a0 a1 n v3=some ex/\Q ex/\((∃w128,st.n=28/\st.t 1=vi a1/\st.t 2=.ept 128 w128 2 0 0/\st.t 5=vi v3/\st.s 128=some (w128,.arr true 23 2 [e23 a0] 0)))
abbrev QiM:=λN a0 (Q:(List Int)→Prop) n (st:St)=>∃v1 v2 ex,QbU N a0 n v1 v2=some ex/\Q ex/\((∃w1344 w64,st.n=23/\st.s 1344=some (w1344,.arr false 3 1 (v2.map e3) 0)/\st.t 1=.ept 64 w64 3 0 0/\st.t 3=.osl 1344 w1344 1 0 v2.length/\st.t 4=vi v1/\st.s 64=some (w64,.arr true 51 3 [e51 a0] 0))\/(∃w64,(st.n=23/\st.t 1=.ept 64 w64 3 0 0/\st.t 3=.nsl/\st.t 4=vi v1/\st.s 64=some (w64,.arr true 51 3 [e51 a0] 0))/\v2=[]))
abbrev Qlt:=λN a1 (Q:(List W8)→Prop) n (st:St)=>∃v3 v4 v5 ex,Qba N a1 n v3 v4 v5=some ex/\Q ex/\((∃w1344 w256,st.n=48/\st.s 1344=some (w1344,.arr false 109 3 (v5.map Zs) 0)/\st.t 1=s58 a1/\st.t 4=.ept 256 w256 1 0 0/\st.t 6=.osl 1344 w1344 3 0 v5.length/\st.t 7=vi v3/\st.t 8=vi v4/\st.s 256=some (w256,.arr true 35 1 [[.nsl]] 0)))
abbrev Qlu:=λN a0 (Q:(List Int)→Prop) n (st:St)=>∃v1 v2 ex,QdS N a0 n v1 v2=some ex/\Q ex/\((∃w1472 w64,st.n=25/\st.s 1472=some (w1472,.arr false 58 1 (v2.map e58) 0)/\st.t 1=.ept 64 w64 4 0 0/\st.t 3=.osl 1472 w1472 1 0 v2.length/\st.t 4=vi v1/\st.s 64=some (w64,.arr true 258 4 [Xa3 a0] 0))\/(∃w64,(st.n=25/\st.t 1=.ept 64 w64 4 0 0/\st.t 3=.nsl/\st.t 4=vi v1/\st.s 64=some (w64,.arr true 258 4 [Xa3 a0] 0))/\v2=[]))
abbrev Qf1:=λN a0 a1 (Q:Int→Prop) n (st:St)=>∃v1 v2 ex,Qaq N a0 a1 n v1 v2=some ex/\Q ex/\((st.n=54/\st.t 0=s58 a0/\st.t 1=vu a1/\st.t 6=vi a0.length/\st.t 7=vi v1/\st.t 8=vi v2))
abbrev Qmt:=λN a0 (Q:(Ex (Int × Int) Unit)→Prop) n (st:St)=>∃v1 v2 ex,Qbf N a0 n v1 v2=some ex/\Q ex/\((st.n=55/\st.t 0=XmB a0/\st.t 4=vi v1/\st.t 11=XmB a0/\st.t 12=vi a0.length/\st.t 13=vi v2))
abbrev Qmu:=λN a0 (Q:(Ex (Int × Int) Int)→Prop) n (st:St)=>∃v5 v6 v7 ex,Qbg N a0 n v5 v6 v7=some ex/\Q ex/\((st.n=55/\st.t 7=vu v5/\st.t 8=vi v6/\st.t 31=XmB a0/\st.t 32=vi a0.length/\st.t 33=vi v7))
abbrev Qjt:=λN a0 (Q:(List Int × List Wt × Int)→Prop) n (st:St)=>∃v2 v3 v4 v5 ex,Qbz N a0 n v2 v3 v4 v5=some ex/\Q ex/\((∃w960,st.n=88/\st.s 960=some (w960,.arr false 58 1 (v5.map e58) 0)/\st.t 0=.ept 1000000 0 16 0 0/\st.t 2=.ept 1000000 0 16 0 0/\st.t 21=Ye a0.h.p/\st.t 22=vi a0.h.p.length/\st.t 23=vi v2/\st.s 1000000=some (0,.arr true 123 16 [[vi a0.h.c.W,vi a0.h.c.p,.osl 960 w960 1 0 v5.length,Ye v3,vi a0.h.s,vi a0.h.b,s58 a0.o,s3 a0.t,s58 a0.q,vi a0.d,vi a0.r.j,vi a0.r.K,vi a0.r.F,vi v4,vi a0.r.f,vi a0.r.y]] 0)))
def g15:(∀N a0,OK (QcB N a0) 30 [.agg (e32 a0)] [] (λr=>s58 r) λr=>[])/\(∀N a0 a1,OK (QeM N a0 a1) 96 [.agg (e23 a0),vi a1] [] (λr=>vi r) λr=>[])/\(∀N a0,OK (Qfi N a0) 226 [.agg (e51 a0)] [] (λr=>s3 r) λr=>[])/\(∀N a0 a1,OK (Qcb N a0 a1) 32 [.agg (e35 a0),s58 a1] [] (λr=>.tup [.agg (e35 r.1),vi r.2]) λr=>[])/\(∀N a0,OK (Qgm N a0) 244 [.agg (Xa3 a0)] [] (λr=>s58 r) λr=>[])/\(∀N a0 a1,OK (Qaw N a0 a1) 121 [s58 a0,vu a1] [] (λr=>.tup [vi r.1,.v (.bool r.2)]) λr=>[])/\(∀N a0,OK (Qgd N a0) 239 [XmB a0] [] (λr=>.tup [vu r.1,vi r.2]) λr=>[])/\(∀N a0,OK (QeB N a0) 63 [.ept 1000000 0 16 0 0] [.arr true 123 16 [[vi a0.h.c.W,vi a0.h.c.p,s58 a0.h.w,Ye a0.h.p,vi a0.h.s,vi a0.h.b,s58 a0.o,s3 a0.t,s58 a0.q,vi a0.d,vi a0.r.j,vi a0.r.K,vi a0.r.F,vi a0.r.E,vi a0.r.f,vi a0.r.y]] 0] (λr=>.tup []) λr=>[.arr true 123 16 [[vi r.h.c.W,vi r.h.c.p,s58 r.h.w,Ye r.h.p,vi r.h.s,vi r.h.b,s58 r.o,s3 r.t,s58 r.q,vi r.d,vi r.r.j,vi r.r.K,vi r.r.F,vi r.r.E,vi r.r.f,vi r.r.y]] 0]):=by
 refine⟨λN _=>rk Tryz.f30 [.tmp 2] [] 32 ?_,λN _ _=>rk Tryz.f96 [.tmp 4] [] 28 ?_,λN _=>rk Tryz.f226 [.tmp 2] [] 23 ?_,λN _ _=>rk Tryz.f32 [.cell 4 35,.tmp 5] [] 48 ?_,λN _=>rk Tryz.f244 [.tmp 2] [] 25 ?_,λN _ _=>rk Tryz.f121 [.tmp 4,.tmp 5] [] 54 ?_,λN _=>rk Tryz.f239 [.tmp 2,.tmp 3] [] 55 ?_,λN _=>rk Tryz.f63 [] [] 88 ?_⟩<;>(rintro _ hw r hr C _ rfl hwf hf;simp only[Tryz.f30,Tryz.f96,Tryz.f226,Tryz.f32,Tryz.f244,Tryz.f121,Tryz.f239,Tryz.f63,Option.get!];(first|rw[QcB]at hr|rw[QeM]at hr|rw[Qfi]at hr|rw[Qcb]at hr|rw[Qgm]at hr|rw[Qaw]at hr|rw[Qgd]at hr|rw[QeB]at hr);repeat' first
 |(refine El.el hr ?_;clear hr;intro hr)
 |(with_reducible intro h;refine Xz hr h ?_;clear hr;intro hr)
 |with_reducible intro _
 |(refine Xn hr ?_;rintro rfl;have hr:=hk;clear hk)
 |simp only[go_sem,simprocAttr,E,Xu,XU,Yl,Xj,Xmy,Wj,Wk,Wz]
 |(with_reducible first|apply Xi|apply Xh|apply Xq|apply Xs|apply Xt)
 |((first|with_reducible refine Yo hr ag ?_ ?_|(with_reducible refine Yk hr ?_ ?_;rotate_left;intro p;rotate_right));(·simp only[go_sem,simprocAttr,Wj,Wk,Wz]);intro hp hn hd hr;(try have Xu:=hd _ e58);(try simp only[go_sem,simprocAttr]at Xu);(try have XU:=hd _ ZN);(try simp only[go_sem,simprocAttr]at XU);(try have Yl:=hd _ Zs);(try simp only[go_sem,simprocAttr]at Yl);(try have Xj:=hd _ XQ);(try simp only[go_sem,simprocAttr]at Xj);(try have Xmy:=hd _ Xqv);(try simp only[go_sem,simprocAttr]at Xmy))
 |(refine Xr ?_ ?_;.first|assumption|omega)
 |(with_reducible first|refine CallX.c ?_ _|refine OK.c hr hw ?_ (λy hr=>?_) _)
 |(with_reducible refine lp (Qlr N _) hr N ?_ (λex hq hk=>⟨_,_,ex,hq,hk,?_⟩) _;clear hr;(try clear E);rintro n1 st ⟨v1,v2,ex,hr,hk,(⟨_,_,E⟩|⟨_,E,z0⟩)⟩<;>(try subst z0)<;>(obtain _|n1:=n1<;>rw[Qbp]at hr))
 |refine⟨_,Wy _,_,_,_,hr,hk,?_⟩
 |(with_reducible refine lp (Qls N _ _) hr N ?_ (λex hq hk=>⟨_,ex,hq,hk,?_⟩) _;clear hr;(try clear E);rintro n1 st ⟨v3,ex,hr,hk,⟨_,E⟩⟩<;>(obtain _|n1:=n1<;>rw[QcC]at hr))
 |refine⟨_,Wy _,_,_,hr,hk,?_⟩
 |(with_reducible refine lp (QiM N _) hr N ?_ (λex hq hk=>⟨_,_,ex,hq,hk,?_⟩) _;clear hr;(try clear E);rintro n1 st ⟨v1,v2,ex,hr,hk,(⟨_,_,E⟩|⟨_,E,z0⟩)⟩<;>(try subst z0)<;>(obtain _|n1:=n1<;>rw[QbU]at hr))
 |(with_reducible refine lp (Qlt N _) hr N ?_ (λex hq hk=>⟨_,_,_,ex,hq,hk,?_⟩) _;clear hr;(try clear E);rintro n1 st ⟨v3,v4,v5,ex,hr,hk,⟨_,_,E⟩⟩<;>(obtain _|n1:=n1<;>rw[Qba]at hr))
 |refine⟨_,Wy _,_,_,_,_,hr,hk,?_⟩
 |(with_reducible refine lp (Qlu N _) hr N ?_ (λex hq hk=>⟨_,_,ex,hq,hk,?_⟩) _;clear hr;(try clear E);rintro n1 st ⟨v1,v2,ex,hr,hk,(⟨_,_,E⟩|⟨_,E,z0⟩)⟩<;>(try subst z0)<;>(obtain _|n1:=n1<;>rw[QdS]at hr))
 |(with_reducible refine lp (Qf1 N _ _) hr N ?_ (λex hq hk=>⟨_,_,ex,hq,hk,?_⟩) _;clear hr;(try clear E);rintro n1 st ⟨v1,v2,ex,hr,hk,E⟩<;>(obtain _|n1:=n1<;>rw[Qaq]at hr))
 |(with_reducible refine lp (Qmt N _) hr N ?_ (λex hq hk=>⟨_,_,ex,hq,hk,?_⟩) _;clear hr;(try clear E);rintro n1 st ⟨v1,v2,ex,hr,hk,E⟩<;>(obtain _|n1:=n1<;>rw[Qbf]at hr))
 |(with_reducible refine lp (Qmu N _) hr N ?_ (λex hq hk=>⟨_,_,_,ex,hq,hk,?_⟩) _;clear hr;(try clear E);rintro n2 st ⟨v5,v6,v7,ex,hr,hk,E⟩<;>(obtain _|n2:=n2<;>rw[Qbg]at hr))
 |(with_reducible refine lp (Qjt N _) hr N ?_ (λex hq hk=>⟨_,_,_,_,ex,hq,hk,?_⟩) _;clear hr;(try clear E);rintro n1 st ⟨v2,v3,v4,v5,ex,hr,hk,⟨_,E⟩⟩<;>(obtain _|n1:=n1<;>rw[Qbz]at hr))
 |refine⟨_,Wy _,_,_,_,_,_,hr,hk,?_⟩
 |refine dc 63 5 hf 32 [(0,0,[]),(1,0,[]),(3,0,[]),(7,0,[]),(15,60,[]),(31,60,[]),(15,3,[]),(79,3,[]),(207,3,[]),(463,3,[]),(1023,0,[]),(2047,0,[])] ?_
 |refine dc 63 6 hf 40 [(0,524272,[]),(1,524272,[]),(3,524272,[]),(7,524272,[]),(0,523247,[]),(0,522271,[]),(32,522271,[]),(96,522271,[]),(224,522271,[]),(480,522271,[]),(1008,522255,[]),(0,255999,[]),(2048,255999,[]),(0,8191,[]),(8192,8191,[]),(24576,8191,[]),(57344,8191,[]),(122880,8191,[]),(260096,2047,[]),(524287,0,[]),(1048575,0,[[960],[]])] ?_
 |(refine Xn hr ?_;rintro rfl;with_reducible refine XN ?_)
 |exact Yv hr
 |((first|refine Xz (c:=true) hr rfl ?_|refine Xz (c:=false) hr rfl ?_|refine Xz hr ag ?_);intro hr)
 |omega
 |fail)
abbrev QoI:=g15.1
abbrev QoJ:=g15.2.1
abbrev Qkm:=g15.2.2.1
abbrev QoK:=g15.2.2.2.1
abbrev QoL:=g15.2.2.2.2.1
abbrev QgA:=g15.2.2.2.2.2.1
abbrev Qpw:=g15.2.2.2.2.2.2.1
abbrev Qmv:=g15.2.2.2.2.2.2.2
attribute [instance] QoI QoJ Qkm QoK QoL QgA Qpw Qmv
def QgB{C:Cx}{N:Nat}{a0:WC}{a1:Int}{β:Type}{k:Bool → Option β}{r:β}{dst:Option Nat}{st:St}{K:St → Prop}{wb w1 w3:Nat}(hw:GW C.G)(hr:bnd (QcU N a0 a1) k=some r)(p wp w4 w5:Nat)(hp:p=51840\/p=210816)(E0:st.s 51584=some (w1,.arr false 58 1 (a0.h.w.map e58) 0))(E1:st.s p=some (wp,.arr false 175 4 (a0.h.p.map XQ) 0))(E2:st.s 52288=some (w3,.arr false 58 1 (a0.o.map e58) 0))(E3:st.s 52480=some (w4,.arr false 3 1 (a0.t.map e3) 0))(E4:st.s 52672=some (w5,.arr false 58 1 (a0.q.map e58) 0))(E5:st.s 51264=some (wb,.arr true 196 16 [[vi a0.h.c.W,vi a0.h.c.p,.osl 51584 w1 1 0 a0.h.w.length,.osl p wp 4 0 a0.h.p.length,vi a0.h.s,vi a0.h.b,.osl 52288 w3 1 0 a0.o.length,.osl 52480 w4 1 0 a0.t.length,.osl 52672 w5 1 0 a0.q.length,vi a0.d,vi a0.r.j,vi a0.r.K,vi a0.r.F,vi a0.r.E,vi a0.r.f,vi a0.r.y]] 0))(hK:∀y,k y=some r→∀s' kk,FwH s' wb w1 p wp w3 w4 w5 a0→K (nxS st (XM dst st.n) (.v (.bool y)) (Xhq st.s s') st.n kk))(t:Prf ([.ept 51264 wb 16 0 0,vi a1]:List D)):CallX Tryz.prog C 207 [.ept 51264 wb 16 0 0,vi a1] dst st K t:=by
 refine V7 hr λy hr hk2=>?_;have E:=And.intro E0 (And.intro E1 (And.intro E2 (And.intro E3 (And.intro E4 E5))));clear E0 E1 E2 E3 E4 E5;have hse:=@Zx _ hw;rcases hp with rfl|rfl<;>(refine CallX.inl (f:=207) 1600 (fn:=Tryz.f207) (rs:=[.tmp 4]) (nt:=45) 1000 ac (λx=>?_) _;simp only[Tryz.f207,Option.get!];rw[QcU]at hr;repeat' first
 |(refine El.el hr ?_;clear hr;intro hr)
 |(with_reducible intro h;refine Xz hr h ?_;clear hr;intro hr)
 |with_reducible intro _
 |simp only[go_sem,simprocAttr,E,Xj,hse]
 |(with_reducible first|apply Xi|apply Xh|apply Xq|apply Xs|apply Xt)
 |((first|with_reducible refine Yo hr ag ?_ ?_|(with_reducible refine Yk hr ?_ ?_;rotate_left;intro p;rotate_right));(·simp only[go_sem,simprocAttr,hse]);intro hp hn hd hr;(try have Xj:=hd _ XQ);(try simp only[go_sem,simprocAttr]at Xj))
 |(refine Xr ?_ ?_;.first|assumption|omega)
 |(refine CallX.inl (f:=209) 2400 (fn:=Tryz.f209) (rs:=[.tmp 2]) (nt:=9) 1000 ac (λx=>?_) _;simp only[Tryz.f209,Option.get!])
 |(with_reducible first|refine CallX.c ?_ _|refine OK.c hr hw ?_ (λy hr=>?_) _|refine IO hr hw ?_ (λy hr=>?_) _)
 |refine dc 207 4 hf 30 [(0,0,[]),(1,0,[]),(3,0,[]),(7,0,[]),(15,12,[]),(31,12,[]),(15,3,[]),(79,3,[]),(255,0,[]),(511,0,[]),(1023,0,[]),(2047,2048,[]),(4095,2048,[]),(8191,2048,[]),(16383,2048,[]),(2047,1920,[]),(65535,0,[]),(131071,0,[]),(262143,0,[]),(524287,0,[])] ?_
 |refine db 207 4 ⟨⟩ 30 [(0,0,[]),(1,0,[]),(3,0,[]),(7,0,[]),(15,12,[]),(31,12,[]),(15,3,[]),(79,3,[]),(255,0,[]),(511,0,[]),(1023,0,[]),(2047,2048,[]),(4095,2048,[]),(8191,2048,[]),(16383,2048,[]),(2047,1920,[]),(65535,0,[]),(131071,0,[]),(262143,0,[]),(524287,0,[])] rfl rfl ac ?_ _
 |exact Yv hr
 |(with_reducible apply XbK;(·simp only[go_sem,simprocAttr,E,Xj,hse];repeat' first|rfl|refine⟨?_,?_⟩);(·simp only[Zt,snap,go_sem,simprocAttr,E,Xj,hse];repeat' first|rfl|refine⟨?_,?_⟩);(·simp only[go_sem,simprocAttr,E,Xj,hse];first|done|omega|(simp;omega)))
 |(refine Xn hr ?_;rintro rfl;(try simp only[go_sem,simprocAttr,E,Xj,hse]);refine Xpc (K:=λs=>K (nxS _ _ _ s _ _)) (λh=>hK _ hk2 _ _ h) ?_ ?_;refine⟨?_,?_,?_,?_,?_,?_⟩;(iterate 6 (·first|rfl|(simp only[go_sem,simprocAttr,E,Xj,hse];(repeat' first|rfl|refine⟨?_,?_⟩);done)));(intro i hi;first|rfl|exact hl0 i hi|(simp only[YN,Zj,Z5,Xv,JU hi,hi,simprocAttr,if_true,if_false];first|done|exact hl0 i hi)|(simp only[YN,Zj,Z5,Xv,JU hi,hi,simprocAttr,if_true,if_false])))
 |fail)
end Go.Sx
