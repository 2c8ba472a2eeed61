import Derived.Test.YtgbmffljpneflaaGreatDoorBG2
import Derived.Test.YtgbmffljpneflaaGreatDoorBG3
set_option linter.all false
namespace Go.Sx
open Go.Proofs
set_option maxRecDepth 10000
set_option maxHeartbeats 100000000
abbrev QmF:=λN b c (Q:(Ex Int Unit)→Prop) n (st:St)=>∃d e,Qdd N b c n d=some e/\Q e/\((∃a,st.n=28/\st.t 1=vi c/\st.t 2=.ept 128 a 2 0 0/\st.t 5=vi d/\st.s 128=some (a,.arr true 23 2 [e23 b] 0)))
abbrev QmG:=λN d (Q:(List Int)→Prop) n (st:St)=>∃e c f,QbH N d n e c=some f/\Q f/\((∃a b,st.n=32/\st.s 1920=some (a,.arr false 39 1 (c.map e39) 0)/\st.t 1=.ept 64 b 3 0 0/\st.t 3=.osl 1920 a 1 0 c.length/\st.t 4=vi e/\st.s 64=some (b,.arr true 32 3 [e32 d] 0))\/(∃b,(st.n=32/\st.t 1=.ept 64 b 3 0 0/\st.t 3=.nsl/\st.t 4=vi e/\st.s 64=some (b,.arr true 32 3 [e32 d] 0))/\c=[]))
abbrev QjF:=λN d (Q:(List Int)→Prop) n (st:St)=>∃e c f,Qcg N d n e c=some f/\Q f/\((∃a b,st.n=23/\st.s 1344=some (a,.arr false 3 1 (c.map e3) 0)/\st.t 1=.ept 64 b 3 0 0/\st.t 3=.osl 1344 a 1 0 c.length/\st.t 4=vi e/\st.s 64=some (b,.arr true 131 3 [ZS d] 0))\/(∃b,(st.n=23/\st.t 1=.ept 64 b 3 0 0/\st.t 3=.nsl/\st.t 4=vi e/\st.s 64=some (b,.arr true 131 3 [ZS d] 0))/\c=[]))
abbrev QmH:=λN d (Q:(List WT)→Prop) n (st:St)=>∃e f c g,Qbp N d n e f c=some g/\Q g/\((∃a b,st.n=48/\st.s 1344=some (a,.arr false 74 3 (c.map e74) 0)/\st.t 1=s39 d/\st.t 4=.ept 256 b 1 0 0/\st.t 6=.osl 1344 a 3 0 c.length/\st.t 7=vi e/\st.t 8=vi f/\st.s 256=some (b,.arr true 35 1 [[.nsl]] 0)))
abbrev QmI:=λN d (Q:(List Int)→Prop) n (st:St)=>∃e c f,QeG N d n e c=some f/\Q f/\((∃a b,st.n=25/\st.s 1472=some (a,.arr false 39 1 (c.map e39) 0)/\st.t 1=.ept 64 b 4 0 0/\st.t 3=.osl 1472 a 1 0 c.length/\st.t 4=vi e/\st.s 64=some (b,.arr true 177 4 [Xb5 d] 0))\/(∃b,(st.n=25/\st.t 1=.ept 64 b 4 0 0/\st.t 3=.nsl/\st.t 4=vi e/\st.s 64=some (b,.arr true 177 4 [Xb5 d] 0))/\c=[]))
abbrev QgT:=λN a b (Q:Int→Prop) n (st:St)=>∃c d e,Qay N a b n c d=some e/\Q e/\((st.n=54/\st.t 0=s39 a/\st.t 1=vu b/\st.t 6=vi a.length/\st.t 7=vi c/\st.t 8=vi d))
abbrev QnL:=λN a (Q:(Ex (Int × Int) Unit)→Prop) n (st:St)=>∃b c d,Qbi N a n b c=some d/\Q d/\((st.n=55/\st.t 0=XnZ a/\st.t 4=vi b/\st.t 11=XnZ a/\st.t 12=vi a.length/\st.t 13=vi c))
abbrev QnM:=λN a (Q:(Ex (Int × Int) Int)→Prop) n (st:St)=>∃b c d e,QaO N a n b c d=some e/\Q e/\((st.n=55/\st.t 7=vu b/\st.t 8=vi c/\st.t 31=XnZ a/\st.t 32=vi a.length/\st.t 33=vi d))
abbrev QkE:=λN a (Q:(List Int × List Wv × Int)→Prop) n (st:St)=>∃i k l g m,QbT N a n i k l g=some m/\Q m/\((∃e,st.n=88/\st.s 960=some (e,.arr false 39 1 (g.map e39) 0)/\st.t 0=.ept 1000000 0 16 0 0/\st.t 2=.ept 1000000 0 16 0 0/\st.t 21=Yj a.h.p/\st.t 22=vi a.h.p.length/\st.t 23=vi i/\st.s 1000000=some (0,.arr true 371 16 [[vi a.h.c.W,vi a.h.c.p,.osl 960 e 1 0 g.length,Yj k,vi a.h.s,vi a.h.b,s39 a.o,s3 a.t,s39 a.q,vi a.d,vi a.r.j,vi a.r.K,vi a.r.F,vi l,vi a.r.f,vi a.r.y]] 0)))
def g15:(∀N a0 a1,OK (QfG N a0 a1) 165 [.agg (e23 a0),vi a1] [] (λr=>vi r) λr=>[])/\(∀N a0,OK (Qdg N a0) 82 [.agg (e32 a0)] [] (λr=>s39 r) λr=>[])/\(∀N a0,OK (Qga N a0) 292 [.agg (ZS a0)] [] (λr=>s3 r) λr=>[])/\(∀N a0 a1,OK (QcC N a0 a1) 110 [.agg (e35 a0),s39 a1] [] (λr=>.tup [.agg (e35 r.1),vi r.2]) λr=>[])/\(∀N a0,OK (Qhi N a0) 189 [.agg (Xb5 a0)] [] (λr=>s39 r) λr=>[])/\(∀N a0 a1,OK (Qau N a0 a1) 133 [s39 a0,vu a1] [] (λr=>.tup [vi r.1,.v (.bool r.2)]) λr=>[])/\(∀N a0,OK (QfP N a0) 276 [XnZ a0] [] (λr=>.tup [vu r.1,vi r.2]) λr=>[])/\(∀N a0,OK (Qfr N a0) 340 [.ept 1000000 0 16 0 0] [.arr true 371 16 [[vi a0.h.c.W,vi a0.h.c.p,s39 a0.h.w,Yj a0.h.p,vi a0.h.s,vi a0.h.b,s39 a0.o,s3 a0.t,s39 a0.q,vi a0.d,vi a0.r.j,vi a0.r.K,vi a0.r.F,vi a0.r.E,vi a0.r.f,vi a0.r.y]] 0] (λr=>.tup []) λr=>[.arr true 371 16 [[vi r.h.c.W,vi r.h.c.p,s39 r.h.w,Yj r.h.p,vi r.h.s,vi r.h.b,s39 r.o,s3 r.t,s39 r.q,vi r.d,vi r.r.j,vi r.r.K,vi r.r.F,vi r.r.E,vi r.r.f,vi r.r.y]] 0]):=by
 refine⟨λN _ _=>rk Tryz.f165 ?_,λN _=>rk Tryz.f82 ?_,λN _=>rk Tryz.f292 ?_,λN _ _=>rk Tryz.f110 ?_,λN _=>rk Tryz.f189 ?_,λN _ _=>rk Tryz.f133 ?_,λN _=>rk Tryz.f276 ?_,λN _=>rk Tryz.f340 ?_⟩<;>(rintro _ hw r hr C _ rfl hwf hf;simp only[Tryz.f165,Tryz.f82,Tryz.f292,Tryz.f110,Tryz.f189,Tryz.f133,Tryz.f276,Tryz.f340,Option.get!];(first|rw[QfG]at hr|rw[Qdg]at hr|rw[Qga]at hr|rw[QcC]at hr|rw[Qhi]at hr|rw[Qau]at hr|rw[QfP]at hr|rw[Qfr]at hr);repeat' first
 |(refine El.el hr ?_;clear hr;intro hr)
 |(with_reducible intro h;refine Xx hr h ?_;clear hr;intro hr)
 |with_reducible intro _
 |(refine Xn hr ?_;rintro rfl;have hr:=hk;clear hk)
 |simp only[go_sem,simprocAttr,E,Xz,YL,YN,Xk,XnW,Wl,Wn,Wz]
 |(with_reducible first|apply Xi|apply Xh|apply Xs|apply Xq|apply Xr)
 |((first|with_reducible refine Yo hr ag ?_ ?_|(with_reducible refine Ye hr ?_ ?_;rotate_left;intro p;rotate_right));(·simp only[go_sem,simprocAttr,Wl,Wn,Wz]);intro hp hn hd hr;(try have Xz:=hd _ e39);(try simp only[go_sem,simprocAttr]at Xz);(try have YL:=hd _ e72);(try simp only[go_sem,simprocAttr]at YL);(try have YN:=hd _ e74);(try simp only[go_sem,simprocAttr]at YN);(try have Xk:=hd _ XU);(try simp only[go_sem,simprocAttr]at Xk);(try have XnW:=hd _ XrI);(try simp only[go_sem,simprocAttr]at XnW))
 |(refine Xt ?_ ?_;.first|assumption|omega)
 |(with_reducible first|refine CallX.c ?_ _|refine OK.c hr hw ?_ (λy hr=>?_) _)
 |(with_reducible refine lp (QmF N _ _) hr N ?_ (λex hq hk=>⟨_,ex,hq,hk,?_⟩) _;clear hr;(try clear E);rintro n1 st ⟨v3,ex,hr,hk,⟨_,E⟩⟩<;>(obtain _|n1:=n1<;>rw[Qdd]at hr))
 |refine⟨_,WA _,_,_,hr,hk,?_⟩
 |(with_reducible refine lp (QmG N _) hr N ?_ (λex hq hk=>⟨_,_,ex,hq,hk,?_⟩) _;clear hr;(try clear E);rintro n1 st ⟨v1,v2,ex,hr,hk,(⟨_,_,E⟩|⟨_,E,z0⟩)⟩<;>(try subst z0)<;>(obtain _|n1:=n1<;>rw[QbH]at hr))
 |refine⟨_,WA _,_,_,_,hr,hk,?_⟩
 |(with_reducible refine lp (QjF N _) hr N ?_ (λex hq hk=>⟨_,_,ex,hq,hk,?_⟩) _;clear hr;(try clear E);rintro n1 st ⟨v1,v2,ex,hr,hk,(⟨_,_,E⟩|⟨_,E,z0⟩)⟩<;>(try subst z0)<;>(obtain _|n1:=n1<;>rw[Qcg]at hr))
 |(with_reducible refine lp (QmH N _) hr N ?_ (λex hq hk=>⟨_,_,_,ex,hq,hk,?_⟩) _;clear hr;(try clear E);rintro n1 st ⟨v3,v4,v5,ex,hr,hk,⟨_,_,E⟩⟩<;>(obtain _|n1:=n1<;>rw[Qbp]at hr))
 |refine⟨_,WA _,_,_,_,_,hr,hk,?_⟩
 |(with_reducible refine lp (QmI N _) hr N ?_ (λex hq hk=>⟨_,_,ex,hq,hk,?_⟩) _;clear hr;(try clear E);rintro n1 st ⟨v1,v2,ex,hr,hk,(⟨_,_,E⟩|⟨_,E,z0⟩)⟩<;>(try subst z0)<;>(obtain _|n1:=n1<;>rw[QeG]at hr))
 |(with_reducible refine lp (QgT N _ _) hr N ?_ (λex hq hk=>⟨_,_,ex,hq,hk,?_⟩) _;clear hr;(try clear E);rintro n1 st ⟨v1,v2,ex,hr,hk,E⟩<;>(obtain _|n1:=n1<;>rw[Qay]at hr))
 |(with_reducible refine lp (QnL N _) hr N ?_ (λex hq hk=>⟨_,_,ex,hq,hk,?_⟩) _;clear hr;(try clear E);rintro n1 st ⟨v1,v2,ex,hr,hk,E⟩<;>(obtain _|n1:=n1<;>rw[Qbi]at hr))
 |(with_reducible refine lp (QnM N _) hr N ?_ (λex hq hk=>⟨_,_,_,ex,hq,hk,?_⟩) _;clear hr;(try clear E);rintro n2 st ⟨v5,v6,v7,ex,hr,hk,E⟩<;>(obtain _|n2:=n2<;>rw[QaO]at hr))
 |(with_reducible refine lp (QkE N _) hr N ?_ (λex hq hk=>⟨_,_,_,_,ex,hq,hk,?_⟩) _;clear hr;(try clear E);rintro n1 st ⟨v2,v3,v4,v5,ex,hr,hk,⟨_,E⟩⟩<;>(obtain _|n1:=n1<;>rw[QbT]at hr))
 |refine⟨_,WA _,_,_,_,_,_,hr,hk,?_⟩
 |refine dc 340 5 hf 32 [(0,0,[]),(1,0,[]),(3,0,[]),(7,0,[]),(15,60,[]),(31,60,[]),(15,3,[]),(79,3,[]),(207,3,[]),(463,3,[]),(1023,0,[]),(2047,0,[])] ?_
 |refine dc 340 6 hf 40 [(0,524272,[]),(1,524272,[]),(3,524272,[]),(7,524272,[]),(0,523247,[]),(0,522271,[]),(32,522271,[]),(96,522271,[]),(224,522271,[]),(480,522271,[]),(1008,522255,[]),(0,255999,[]),(2048,255999,[]),(0,8191,[]),(8192,8191,[]),(24576,8191,[]),(57344,8191,[]),(122880,8191,[]),(260096,2047,[]),(524287,0,[]),(1048575,0,[[960],[]])] ?_
 |(refine Xn hr ?_;rintro rfl;with_reducible refine XK ?_)
 |exact Yr hr
 |((first|refine Xx (c:=true) hr rfl ?_|refine Xx (c:=false) hr rfl ?_|refine Xx hr ag ?_);intro hr)
 |omega
 |fail)
abbrev Qp9:=g15.1
abbrev Qqa:=g15.2.1
abbrev Qlx:=g15.2.2.1
abbrev Qqb:=g15.2.2.2.1
abbrev Qqc:=g15.2.2.2.2.1
abbrev Qht:=g15.2.2.2.2.2.1
abbrev QqZ:=g15.2.2.2.2.2.2.1
abbrev QnN:=g15.2.2.2.2.2.2.2
attribute [instance] Qp9 Qqa Qlx Qqb Qqc Qht QqZ QnN
end Go.Sx
