import Derived.Test.YtmpbhfnjjaocoaaGreatAG3
import Derived.Test.YtmpbhfnjjaocoaaGreatAG4
import Derived.Test.YtmpbhfnjjaocoaaGreatAG5
set_option linter.all false
namespace Go.Sx
open Go.Proofs
set_option maxRecDepth 10000
set_option maxHeartbeats 100000000
abbrev Qlw:=λN a0 (Q:(List Int)→Prop) n (st:St)=>∃v1 v2 ex,Qbp N a0 n v1 v2=some ex/\Q ex/\((∃w1920 w64,st.n=32/\st.s 1920=some (w1920,.arr false 58 1 (v2.map e58) 0)/\st.t 1=.ept 64 w64 3 0 0/\st.t 3=.osl 1920 w1920 1 0 v2.length/\st.t 4=vi v1/\st.s 64=some (w64,.arr true 32 3 [e32 a0] 0))\/(∃w64,(st.n=32/\st.t 1=.ept 64 w64 3 0 0/\st.t 3=.nsl/\st.t 4=vi v1/\st.s 64=some (w64,.arr true 32 3 [e32 a0] 0))/\v2=[]))
abbrev Qlx:=λN a0 a1 (Q:(Ex Int Unit)→Prop) n (st:St)=>∃v3 ex,QcF N a0 a1 n v3=some ex/\Q ex/\((∃w128,st.n=28/\st.t 1=vi a1/\st.t 2=.ept 128 w128 2 0 0/\st.t 5=vi v3/\st.s 128=some (w128,.arr true 23 2 [e23 a0] 0)))
abbrev QiR:=λN a0 (Q:(List Int)→Prop) n (st:St)=>∃v1 v2 ex,QbV N a0 n v1 v2=some ex/\Q ex/\((∃w1344 w64,st.n=23/\st.s 1344=some (w1344,.arr false 3 1 (v2.map e3) 0)/\st.t 1=.ept 64 w64 3 0 0/\st.t 3=.osl 1344 w1344 1 0 v2.length/\st.t 4=vi v1/\st.s 64=some (w64,.arr true 51 3 [e51 a0] 0))\/(∃w64,(st.n=23/\st.t 1=.ept 64 w64 3 0 0/\st.t 3=.nsl/\st.t 4=vi v1/\st.s 64=some (w64,.arr true 51 3 [e51 a0] 0))/\v2=[]))
abbrev Qly:=λN a1 (Q:(List W8)→Prop) n (st:St)=>∃v3 v4 v5 ex,Qa9 N a1 n v3 v4 v5=some ex/\Q ex/\((∃w1344 w256,st.n=48/\st.s 1344=some (w1344,.arr false 109 3 (v5.map Zv) 0)/\st.t 1=s58 a1/\st.t 4=.ept 256 w256 1 0 0/\st.t 6=.osl 1344 w1344 3 0 v5.length/\st.t 7=vi v3/\st.t 8=vi v4/\st.s 256=some (w256,.arr true 35 1 [[.nsl]] 0)))
abbrev Qlz:=λN a0 (Q:(List Int)→Prop) n (st:St)=>∃v1 v2 ex,QdX N a0 n v1 v2=some ex/\Q ex/\((∃w1472 w64,st.n=25/\st.s 1472=some (w1472,.arr false 58 1 (v2.map e58) 0)/\st.t 1=.ept 64 w64 4 0 0/\st.t 3=.osl 1472 w1472 1 0 v2.length/\st.t 4=vi v1/\st.s 64=some (w64,.arr true 258 4 [Xbg a0] 0))\/(∃w64,(st.n=25/\st.t 1=.ept 64 w64 4 0 0/\st.t 3=.nsl/\st.t 4=vi v1/\st.s 64=some (w64,.arr true 258 4 [Xbg a0] 0))/\v2=[]))
abbrev Qf7:=λN a0 a1 (Q:Int→Prop) n (st:St)=>∃v1 v2 ex,Qaq N a0 a1 n v1 v2=some ex/\Q ex/\((st.n=54/\st.t 0=s58 a0/\st.t 1=vu a1/\st.t 6=vi a0.length/\st.t 7=vi v1/\st.t 8=vi v2))
abbrev Qmy:=λN a0 (Q:(Ex (Int × Int) Unit)→Prop) n (st:St)=>∃v1 v2 ex,Qbg N a0 n v1 v2=some ex/\Q ex/\((st.n=55/\st.t 0=XmP a0/\st.t 4=vi v1/\st.t 11=XmP a0/\st.t 12=vi a0.length/\st.t 13=vi v2))
abbrev Qmz:=λN a0 (Q:(Ex (Int × Int) Int)→Prop) n (st:St)=>∃v5 v6 v7 ex,Qbh N a0 n v5 v6 v7=some ex/\Q ex/\((st.n=55/\st.t 7=vu v5/\st.t 8=vi v6/\st.t 31=XmP a0/\st.t 32=vi a0.length/\st.t 33=vi v7))
abbrev Qjy:=λN a0 (Q:(List Int × List Wt × Int)→Prop) n (st:St)=>∃v2 v3 v4 v5 ex,QbB N a0 n v2 v3 v4 v5=some ex/\Q ex/\((∃w960,st.n=88/\st.s 960=some (w960,.arr false 58 1 (v5.map e58) 0)/\st.t 0=.ept 1000000 0 16 0 0/\st.t 2=.ept 1000000 0 16 0 0/\st.t 21=Yg a0.h.p/\st.t 22=vi a0.h.p.length/\st.t 23=vi v2/\st.s 1000000=some (0,.arr true 123 16 [[vi a0.h.c.W,vi a0.h.c.p,.osl 960 w960 1 0 v5.length,Yg v3,vi a0.h.s,vi a0.h.b,s58 a0.o,s3 a0.t,s58 a0.q,vi a0.d,vi a0.r.j,vi a0.r.K,vi a0.r.F,vi v4,vi a0.r.f,vi a0.r.y]] 0)))
def g15:(∀N a0,OK (QcE N a0) 30 [.agg (e32 a0)] [] (λr=>s58 r) λr=>[])/\(∀N a0 a1,OK (QeT N a0 a1) 96 [.agg (e23 a0),vi a1] [] (λr=>vi r) λr=>[])/\(∀N a0,OK (Qfo N a0) 226 [.agg (e51 a0)] [] (λr=>s3 r) λr=>[])/\(∀N a0 a1,OK (Qce N a0 a1) 32 [.agg (e35 a0),s58 a1] [] (λr=>.tup [.agg (e35 r.1),vi r.2]) λr=>[])/\(∀N a0,OK (Qgr N a0) 244 [.agg (Xbg a0)] [] (λr=>s58 r) λr=>[])/\(∀N a0 a1,OK (Qaw N a0 a1) 121 [s58 a0,vu a1] [] (λr=>.tup [vi r.1,.v (.bool r.2)]) λr=>[])/\(∀N a0,OK (Qgj N a0) 239 [XmP a0] [] (λr=>.tup [vu r.1,vi r.2]) λr=>[])/\(∀N a0,OK (QeH N a0) 63 [.ept 1000000 0 16 0 0] [.arr true 123 16 [[vi a0.h.c.W,vi a0.h.c.p,s58 a0.h.w,Yg a0.h.p,vi a0.h.s,vi a0.h.b,s58 a0.o,s3 a0.t,s58 a0.q,vi a0.d,vi a0.r.j,vi a0.r.K,vi a0.r.F,vi a0.r.E,vi a0.r.f,vi a0.r.y]] 0] (λr=>.tup []) λr=>[.arr true 123 16 [[vi r.h.c.W,vi r.h.c.p,s58 r.h.w,Yg r.h.p,vi r.h.s,vi r.h.b,s58 r.o,s3 r.t,s58 r.q,vi r.d,vi r.r.j,vi r.r.K,vi r.r.F,vi r.r.E,vi r.r.f,vi r.r.y]] 0]):=by
 refine⟨λN _=>rk Tryz.f30 [.tmp 2] [] 32 ?_,λN _ _=>rk Tryz.f96 [.tmp 4] [] 28 ?_,λN _=>rk Tryz.f226 [.tmp 2] [] 23 ?_,λN _ _=>rk Tryz.f32 [.cell 4 35,.tmp 5] [] 48 ?_,λN _=>rk Tryz.f244 [.tmp 2] [] 25 ?_,λN _ _=>rk Tryz.f121 [.tmp 4,.tmp 5] [] 54 ?_,λN _=>rk Tryz.f239 [.tmp 2,.tmp 3] [] 55 ?_,λN _=>rk Tryz.f63 [] [] 88 ?_⟩<;>(rintro _ hw r hr C _ rfl hwf hf;simp only[Tryz.f30,Tryz.f96,Tryz.f226,Tryz.f32,Tryz.f244,Tryz.f121,Tryz.f239,Tryz.f63,Option.get!];(first|rw[QcE]at hr|rw[QeT]at hr|rw[Qfo]at hr|rw[Qce]at hr|rw[Qgr]at hr|rw[Qaw]at hr|rw[Qgj]at hr|rw[QeH]at hr);repeat' first
 |(refine El.el hr ?_;clear hr;intro hr)
 |(with_reducible intro h;refine XB hr h ?_;clear hr;intro hr)
 |with_reducible intro _
 |(refine Xn hr ?_;rintro rfl;have hr:=hk;clear hk)
 |simp only[go_sem,simprocAttr,E,Xu,XX,Yo,Xj,XmM,Wj,Wl,WA]
 |(with_reducible first|apply Xi|apply Xh|apply Xs|apply Xq|apply Xr)
 |((first|with_reducible refine Yq hr ag ?_ ?_|(with_reducible refine Yn hr ?_ ?_;rotate_left;intro p;rotate_right));(·simp only[go_sem,simprocAttr,Wj,Wl,WA]);intro hp hn hd hr;(try have Xu:=hd _ e58);(try simp only[go_sem,simprocAttr]at Xu);(try have XX:=hd _ ZT);(try simp only[go_sem,simprocAttr]at XX);(try have Yo:=hd _ Zv);(try simp only[go_sem,simprocAttr]at Yo);(try have Xj:=hd _ XS);(try simp only[go_sem,simprocAttr]at Xj);(try have XmM:=hd _ XqF);(try simp only[go_sem,simprocAttr]at XmM))
 |(refine Xt ?_ ?_;.first|assumption|omega)
 |(with_reducible first|refine CallX.c ?_ _|refine OK.c hr hw ?_ (λy hr=>?_) _)
 |(with_reducible refine lp (Qlw N _) hr N ?_ (λex hq hk=>⟨_,_,ex,hq,hk,?_⟩) _;clear hr;(try clear E);rintro n1 st ⟨v1,v2,ex,hr,hk,(⟨_,_,E⟩|⟨_,E,z0⟩)⟩<;>(try subst z0)<;>(obtain _|n1:=n1<;>rw[Qbp]at hr))
 |refine⟨_,Wz _,_,_,_,hr,hk,?_⟩
 |(with_reducible refine lp (Qlx N _ _) hr N ?_ (λex hq hk=>⟨_,ex,hq,hk,?_⟩) _;clear hr;(try clear E);rintro n1 st ⟨v3,ex,hr,hk,⟨_,E⟩⟩<;>(obtain _|n1:=n1<;>rw[QcF]at hr))
 |refine⟨_,Wz _,_,_,hr,hk,?_⟩
 |(with_reducible refine lp (QiR N _) hr N ?_ (λex hq hk=>⟨_,_,ex,hq,hk,?_⟩) _;clear hr;(try clear E);rintro n1 st ⟨v1,v2,ex,hr,hk,(⟨_,_,E⟩|⟨_,E,z0⟩)⟩<;>(try subst z0)<;>(obtain _|n1:=n1<;>rw[QbV]at hr))
 |(with_reducible refine lp (Qly N _) hr N ?_ (λex hq hk=>⟨_,_,_,ex,hq,hk,?_⟩) _;clear hr;(try clear E);rintro n1 st ⟨v3,v4,v5,ex,hr,hk,⟨_,_,E⟩⟩<;>(obtain _|n1:=n1<;>rw[Qa9]at hr))
 |refine⟨_,Wz _,_,_,_,_,hr,hk,?_⟩
 |(with_reducible refine lp (Qlz N _) hr N ?_ (λex hq hk=>⟨_,_,ex,hq,hk,?_⟩) _;clear hr;(try clear E);rintro n1 st ⟨v1,v2,ex,hr,hk,(⟨_,_,E⟩|⟨_,E,z0⟩)⟩<;>(try subst z0)<;>(obtain _|n1:=n1<;>rw[QdX]at hr))
 |(with_reducible refine lp (Qf7 N _ _) hr N ?_ (λex hq hk=>⟨_,_,ex,hq,hk,?_⟩) _;clear hr;(try clear E);rintro n1 st ⟨v1,v2,ex,hr,hk,E⟩<;>(obtain _|n1:=n1<;>rw[Qaq]at hr))
 |(with_reducible refine lp (Qmy N _) hr N ?_ (λex hq hk=>⟨_,_,ex,hq,hk,?_⟩) _;clear hr;(try clear E);rintro n1 st ⟨v1,v2,ex,hr,hk,E⟩<;>(obtain _|n1:=n1<;>rw[Qbg]at hr))
 |(with_reducible refine lp (Qmz N _) hr N ?_ (λex hq hk=>⟨_,_,_,ex,hq,hk,?_⟩) _;clear hr;(try clear E);rintro n2 st ⟨v5,v6,v7,ex,hr,hk,E⟩<;>(obtain _|n2:=n2<;>rw[Qbh]at hr))
 |(with_reducible refine lp (Qjy N _) hr N ?_ (λex hq hk=>⟨_,_,_,_,ex,hq,hk,?_⟩) _;clear hr;(try clear E);rintro n1 st ⟨v2,v3,v4,v5,ex,hr,hk,⟨_,E⟩⟩<;>(obtain _|n1:=n1<;>rw[QbB]at hr))
 |refine⟨_,Wz _,_,_,_,_,_,hr,hk,?_⟩
 |refine dc 63 5 hf 32 [(0,0,[]),(1,0,[]),(3,0,[]),(7,0,[]),(15,60,[]),(31,60,[]),(15,3,[]),(79,3,[]),(207,3,[]),(463,3,[]),(1023,0,[]),(2047,0,[])] ?_
 |refine dc 63 6 hf 40 [(0,524272,[]),(1,524272,[]),(3,524272,[]),(7,524272,[]),(0,523247,[]),(0,522271,[]),(32,522271,[]),(96,522271,[]),(224,522271,[]),(480,522271,[]),(1008,522255,[]),(0,255999,[]),(2048,255999,[]),(0,8191,[]),(8192,8191,[]),(24576,8191,[]),(57344,8191,[]),(122880,8191,[]),(260096,2047,[]),(524287,0,[]),(1048575,0,[[960],[]])] ?_
 |(refine Xn hr ?_;rintro rfl;with_reducible refine XP ?_)
 |exact Yw hr
 |((first|refine XB (c:=true) hr rfl ?_|refine XB (c:=false) hr rfl ?_|refine XB hr ag ?_);intro hr)
 |omega
 |fail)
abbrev QoN:=g15.1
abbrev QoO:=g15.2.1
abbrev Qkr:=g15.2.2.1
abbrev QoP:=g15.2.2.2.1
abbrev QoQ:=g15.2.2.2.2.1
abbrev QgH:=g15.2.2.2.2.2.1
abbrev QpB:=g15.2.2.2.2.2.2.1
abbrev QmA:=g15.2.2.2.2.2.2.2
attribute [instance] QoN QoO Qkr QoP QoQ QgH QpB QmA
def QgI{C:Cx}{N:Nat}{a0:WD}{a1:Int}{β:Type}{k:Bool → Option β}{r:β}{dst:Option Nat}{st:St}{K:St → Prop}{wb w1 w3:Nat}(hw:GW C.G)(hr:bnd (QcZ N a0 a1) k=some r)(p wp w4 w5:Nat)(hp:p=51840\/p=210816)(E0:st.s 51584=some (w1,.arr false 58 1 (a0.h.w.map e58) 0))(E1:st.s p=some (wp,.arr false 175 4 (a0.h.p.map XS) 0))(E2:st.s 52288=some (w3,.arr false 58 1 (a0.o.map e58) 0))(E3:st.s 52480=some (w4,.arr false 3 1 (a0.t.map e3) 0))(E4:st.s 52672=some (w5,.arr false 58 1 (a0.q.map e58) 0))(E5:st.s 51264=some (wb,.arr true 196 16 [[vi a0.h.c.W,vi a0.h.c.p,.osl 51584 w1 1 0 a0.h.w.length,.osl p wp 4 0 a0.h.p.length,vi a0.h.s,vi a0.h.b,.osl 52288 w3 1 0 a0.o.length,.osl 52480 w4 1 0 a0.t.length,.osl 52672 w5 1 0 a0.q.length,vi a0.d,vi a0.r.j,vi a0.r.K,vi a0.r.F,vi a0.r.E,vi a0.r.f,vi a0.r.y]] 0))(hK:∀y,k y=some r→∀s' kk,FwH s' wb w1 p wp w3 w4 w5 a0→K (nxS st (XO dst st.n) (.v (.bool y)) (XhQ st.s s') st.n kk))(t:Prf ([.ept 51264 wb 16 0 0,vi a1]:List D)):CallX Tryz.prog C 207 [.ept 51264 wb 16 0 0,vi a1] dst st K t:=by
 refine Xae hr λy hr hk2=>?_;have E:=And.intro E0 (And.intro E1 (And.intro E2 (And.intro E3 (And.intro E4 E5))));clear E0 E1 E2 E3 E4 E5;have hse:=@Zw _ hw;rcases hp with rfl|rfl<;>(refine CallX.inl (f:=207) 1600 (fn:=Tryz.f207) (rs:=[.tmp 4]) (nt:=45) 1000 ac (λx=>?_) _;simp only[Tryz.f207,Option.get!];rw[QcZ]at hr;repeat' first
 |(refine El.el hr ?_;clear hr;intro hr)
 |(with_reducible intro h;refine XB hr h ?_;clear hr;intro hr)
 |with_reducible intro _
 |simp only[go_sem,simprocAttr,E,Xj,hse]
 |(with_reducible first|apply Xi|apply Xh|apply Xs|apply Xq|apply Xr)
 |((first|with_reducible refine Yq hr ag ?_ ?_|(with_reducible refine Yn hr ?_ ?_;rotate_left;intro p;rotate_right));(·simp only[go_sem,simprocAttr,hse]);intro hp hn hd hr;(try have Xj:=hd _ XS);(try simp only[go_sem,simprocAttr]at Xj))
 |(refine Xt ?_ ?_;.first|assumption|omega)
 |(refine CallX.inl (f:=209) 2400 (fn:=Tryz.f209) (rs:=[.tmp 2]) (nt:=9) 1000 ac (λx=>?_) _;simp only[Tryz.f209,Option.get!])
 |(with_reducible first|refine CallX.c ?_ _|refine OK.c hr hw ?_ (λy hr=>?_) _|refine IM hr hw ?_ (λy hr=>?_) _)
 |refine dc 207 4 hf 30 [(0,0,[]),(1,0,[]),(3,0,[]),(7,0,[]),(15,12,[]),(31,12,[]),(15,3,[]),(79,3,[]),(255,0,[]),(511,0,[]),(1023,0,[]),(2047,2048,[]),(4095,2048,[]),(8191,2048,[]),(16383,2048,[]),(2047,1920,[]),(65535,0,[]),(131071,0,[]),(262143,0,[]),(524287,0,[])] ?_
 |refine db 207 4 ⟨⟩ 30 [(0,0,[]),(1,0,[]),(3,0,[]),(7,0,[]),(15,12,[]),(31,12,[]),(15,3,[]),(79,3,[]),(255,0,[]),(511,0,[]),(1023,0,[]),(2047,2048,[]),(4095,2048,[]),(8191,2048,[]),(16383,2048,[]),(2047,1920,[]),(65535,0,[]),(131071,0,[]),(262143,0,[]),(524287,0,[])] rfl rfl ac ?_ _
 |exact Yw hr
 |(with_reducible apply XbZ;(·simp only[go_sem,simprocAttr,E,Xj,hse];repeat' first|rfl|refine⟨?_,?_⟩);(·simp only[Zx,snap,go_sem,simprocAttr,E,Xj,hse];repeat' first|rfl|refine⟨?_,?_⟩);(·simp only[go_sem,simprocAttr,E,Xj,hse];first|done|omega|(simp;omega)))
 |(refine Xn hr ?_;rintro rfl;(try simp only[go_sem,simprocAttr,E,Xj,hse]);refine Xpp (K:=λs=>K (nxS _ _ _ s _ _)) (λh=>hK _ hk2 _ _ h) ?_ ?_;refine⟨?_,?_,?_,?_,?_,?_⟩;(iterate 6 (·first|rfl|(simp only[go_sem,simprocAttr,E,Xj,hse];(repeat' first|rfl|refine⟨?_,?_⟩);done)));(intro i hi;first|rfl|exact hl0 i hi|(simp only[YP,Zn,Kb,Xv,JY hi,hi,simprocAttr,if_true,if_false];first|done|exact hl0 i hi)|(simp only[YP,Zn,Kb,Xv,JY hi,hi,simprocAttr,if_true,if_false])))
 |fail)
end Go.Sx
