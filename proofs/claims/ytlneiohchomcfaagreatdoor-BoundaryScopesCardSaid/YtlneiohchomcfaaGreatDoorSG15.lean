import Derived.Test.YtlneiohchomcfaaGreatDoorSG14
set_option linter.all false
namespace Go.Sx
open Go.Proofs Tryz
set_option maxRecDepth 10000
set_option maxHeartbeats 100000000
instance QpP:∀N(a0:WM)(a1:Int)(a2:Int)(a3:Int)(a4:Int)(a5:Oy),O1 (QfM N a0 a1 a2 a3 a4 a5) 46 [.agg (e42 a0),vi a1,vu a2,vu a3,vu a4,.agg (Xsf a5)] (λr=>.tup [.agg (e42 r.1),vu r.2.1,vi r.2.2]):=by
 refineλN _ _ _ _ _ _=>rk f46 ?_<;>(rintro _ hw r hr C _ rfl hwf hf;have hse:=@ZZ _ hw;simp only[f46,Option.get!];(rw[QfM]at hr);repeat' first
 |(refine El.el hr ?_;clear hr;intro hr)
 |(with_reducible intro h;refine XH hr h ?_;clear hr;intro hr)
 |with_reducible intro _
 |simp only[go_sem,simprocAttr,XB,KW,hse]
 |(with_reducible first|apply Xi|apply Xh|apply Xt|apply Xx|apply Xy)
 |((first|with_reducible refine Yy hr ag ?_ ?_|(with_reducible refine Yt hr ?_ ?_;rotate_left;intro p;rotate_right));(·simp only[go_sem,simprocAttr,hse]);intro hp hn hd hr;(try have XB:=hd _ e49;simp only[go_sem,simprocAttr]at XB);(try have KW:=hd _ Xce;simp only[go_sem,simprocAttr]at KW))
 |(refine Xu ?_ ?_;.first|assumption|omega)
 |(with_reducible first|refine CallX.c ?_ _|refine OK.c hr hw ?_ (λy hr=>?_) _|refine OK.d hr hw ?_ (λy hr=>?_) _)
 |refine dq 46 16 hf [(0,[4864],[5312,5440]),(1,[],[4864,5312,5440]),(2,[],[4864,5312,5440]),(3,[4864],[5312,5440]),(4,[],[4864,5312]),(5,[],[4864]),(6,[],[4864]),(7,[5312],[4864]),(8,[],[4864]),(9,[5312,5440],[4864]),(10,[4864],[]),(12,[384],[])] ?_
 |refine dq 46 27 hf [(14,[],[384]),(15,[384],[])] ?_
 |(refine Xq hr ?_;rintro rfl;with_reducible refine XQ ?_)
 |exact YE hr)
abbrev QhX:=λN d e f g h Q n (st:St)=>∃v7,Iv (QaC N d e f g h n v7) Q ((∃c a b,st.n=89/\st.t 1=.ept 64 c 6 0 0/\st.t 2=.ept 128 a 3 0 0/\st.t 3=s49 e.1/\st.t 5=vi g/\st.t 6=.ept 384 b 3 0 0/\st.t 8=s49 f.1/\st.t 10=vi v7/\st.s 64=some (c,.arr true 28 6 [e28 d] 0)/\st.s 128=some (a,.arr true 223 3 [[vi 0,vi 0,vu 0]] 0)/\st.s 384=some (b,.arr true 107 3 [Z7 h.1] 0)))
abbrev QhY:=λN c d Q n (st:St)=>∃e,Iv (QbB N c d n e) Q ((∃b a,st.n=89/\st.t 1=.ept 64 b 6 0 0/\st.t 2=.ept 128 a 3 0 0/\st.t 3=s49 d.1/\st.t 5=vi e/\st.s 64=some (b,.arr true 28 6 [e28 c] 0)/\st.s 128=some (a,.arr true 223 3 [[vi 0,vi 0,vu 0]] 0)))
abbrev Qmm:=λN c Q n (st:St)=>∃e d,Iv (Qgb N c n e d) Q ((∃a b,st.n=31/\st.s 1792=some (a,.arr false 283 4 (d.map Xaj) 0)/\st.t 1=.ept 64 b 6 0 0/\st.t 4=.osl 1792 a 4 0 d.length/\st.t 13=vi c.p.length/\st.t 14=vi e/\st.s 64=some (b,.arr true 28 6 [e28 c] 0))\/(∃b,(st.n=31/\st.t 1=.ept 64 b 6 0 0/\st.t 4=.nsl/\st.t 13=vi c.p.length/\st.t 14=vi e/\st.s 64=some (b,.arr true 28 6 [e28 c] 0))/\d=[]))
def g31:(∀N(a0:Wk),O1 (QdF N a0) 244 [.agg (e28 a0)] (λr=>.agg (Xqz r)))/\(∀N(a0:Wk),O1 (Qhy N a0) 213 [.agg (e28 a0)] (λr=>.tup [.fsl 283 4 (r.1.map Xaj),vi r.2])):=by
 refine⟨λN _=>rk f244 ?_,λN _=>rq f213 [1792] ?_⟩<;>(rintro _ hw r hr C _ rfl hwf hf;have hse:=@ZZ _ hw;simp only[f244,f213,Option.get!,QdF,Qhy]at hr⊢;repeat' first
 |(refine El.el hr ?_;clear hr;intro hr)
 |(with_reducible intro h;refine XH hr h ?_;clear hr;intro hr)
 |with_reducible intro _
 |(refine Xq hr ?_;rintro rfl;have hr:=hk;clear hk)
 |simp only[go_sem,simprocAttr,E,XB,hse]
 |(with_reducible first|apply Xi|apply Xh|apply Xt|apply Xx|apply Xy)
 |((first|with_reducible refine Yy hr ag ?_ ?_|(with_reducible refine Yt hr ?_ ?_;rotate_left;intro p;rotate_right));(·simp only[go_sem,simprocAttr,hse]);intro hp hn hd hr;(try have XB:=hd _ e49;simp only[go_sem,simprocAttr]at XB))
 |(refine Xu ?_ ?_;.first|assumption|omega)
 |(with_reducible first|refine CallX.c ?_ _|refine OK.c hr hw ?_ (λy hr=>?_) _|refine OK.d hr hw ?_ (λy hr=>?_) _)
 |(with_reducible refine lp (QhX N _ _ _ _ _) hr N ?_ (λ_ p q=>⟨_,_,p,q,?_⟩) _;rintro n1 st ⟨_,_,hr,hk,⟨_,_,_,E⟩⟩<;>(obtain _|n1:=n1<;>rw[QaC]at hr))
 |refine⟨_,WD _,_,_,hr,hk,?_⟩
 |(with_reducible refine lp (QhY N _ _) hr N ?_ (λ_ p q=>⟨_,_,p,q,?_⟩) _;rintro n2 st ⟨_,_,hr,hk,⟨_,_,E⟩⟩<;>(obtain _|n2:=n2<;>rw[QbB]at hr))
 |(with_reducible refine lp (Qmm N _) hr N ?_ (λ_ p q=>⟨_,_,_,p,q,?_⟩) _;rintro n1 st ⟨_,_,_,hr,hk,(⟨_,_,E⟩|⟨_,E,z0⟩)⟩<;>(try subst z0)<;>(obtain _|n1:=n1<;>rw[Qgb]at hr))
 |refine⟨_,WD _,_,_,_,hr,hk,?_⟩
 |refine dq 244 5 hf [(0,[],[384]),(1,[],[384]),(2,[],[384]),(3,[],[384]),(4,[],[384]),(5,[],[384]),(6,[],[384]),(7,[],[384]),(8,[],[384]),(9,[384],[]),(10,[384],[])] ?_
 |refine dp ?_
 |(refine Xq hr ?_;rintro rfl;with_reducible refine XQ ?_)
 |exact YE hr
 |((first|refine XH (c:=true) hr rfl ?_|refine XH (c:=false) hr rfl ?_|refine XH hr ag ?_);intro hr))
abbrev Qjy:=g31.1
abbrev Qog:=g31.2
attribute [instance] Qjy Qog
def g30:(∀N(a0:Wk)(a1:Int),O1 (QdK N a0 a1) 259 [.agg (e28 a0),vu a1] (λr=>.v (.bool r)))/\(∀N(a0:Wk)(a1:Int),O1 (Qfc N a0 a1) 295 [.agg (e28 a0),vi a1] (λr=>.tup [s49 r.1,vi r.2]))/\(∀N(a0:Wk)(a1:Int)(a2:Int),O1 (QfB N a0 a1 a2) 278 [.agg (e28 a0),vu a1,vi a2] (λr=>.tup [vu r.1,vi r.2])):=by
 refine⟨λN _ _=>rk f259 ?_,λN _ _=>rk f295 ?_,λN _ _ _=>rk f278 ?_⟩<;>(rintro _ hw r hr C _ rfl hwf hf;simp only[f259,f295,f278,Option.get!,QdK,Qfc,QfB]at hr⊢;repeat' first
 |(refine El.el hr ?_;clear hr;intro hr)
 |(with_reducible intro h;refine XH hr h ?_;clear hr;intro hr)
 |with_reducible intro _
 |simp only[go_sem,simprocAttr]
 |(with_reducible first|apply Xi|apply Xh|apply Xt)
 |(refine Xu ?_ ?_;.first|assumption|omega)
 |(with_reducible first|refine CallX.c ?_ _|refine OK.c hr hw ?_ (λy hr=>?_) _)
 |(refine Xq hr ?_;rintro rfl;with_reducible refine XQ ?_)
 |exact YE hr)
abbrev Qjz:=g30.1
abbrev Qn3:=g30.2.1
abbrev Qlp:=g30.2.2
attribute [instance] Qjz Qn3 Qlp
abbrev QjA:=λN c Q n (st:St)=>∃d,Iv (Qbk N c n d) Q ((∃b a,st.n=65/\st.t 1=.ept 64 b 6 0 0/\st.t 2=.ept 128 a 3 0 0/\st.t 3=vi d/\st.s 64=some (b,.arr true 28 6 [e28 c] 0)/\st.s 128=some (a,.arr true 223 3 [[vi 0,vi 0,vu 0]] 0)))
abbrev QjB:=λN c Q n (st:St)=>∃v6 v7,Iv (Qa7 N c n v6 v7) Q ((∃b a,st.n=65/\st.t 1=.ept 64 b 6 0 0/\st.t 2=.ept 128 a 3 0 0/\st.t 6=vi v6/\st.t 7=vi v7/\st.s 64=some (b,.arr true 28 6 [e28 c] 0)/\st.s 128=some (a,.arr true 223 3 [[vi 0,vi 0,vu 0]] 0)))
abbrev QkH:=λN d e c Q n (st:St)=>∃f v6,Iv (Qeh N d e c n f v6) Q ((∃a b,st.n=90/\st.s 2112=some (a,.arr false 49 1 (v6.map e49) 0)/\st.t 2=.ept 128 b 6 0 0/\st.t 6=vu e.1/\st.t 8=.osl 2112 a 1 0 v6.length/\st.t 44=s49 c.1/\st.t 45=vi c.1.length/\st.t 46=vi f/\st.s 128=some (b,.arr true 28 6 [e28 d] 0)))
abbrev QiH:=λN Q n (st:St)=>∃c d b,Iv (QcD N n c d b) Q ((∃a,st.n=42/\st.s 512=some (a,.arr false 283 4 (b.map Xaj) 0)/\st.t 0=.osl 512 a 4 0 b.length/\st.t 1=.clo (.func 216) [] []/\st.t 5=vi c/\st.t 6=vi d))
abbrev QiI:=λN a b i Q n (st:St)=>∃c v13 e v15 g v17 v18 v19,Iv (QcF N a b i n c v13 e v15 g v17 v18 v19) Q ((st.n=90/\st.t 0=.ept 1000000 0 16 0 0/\st.t 14=vi a.h.p.length/\st.t 15=vi i/\st.t 35=s49 b.1/\st.t 36=vi b.1.length/\st.t 37=vi c/\st.s 1000000=some (0,.arr true 374 16 [[vi v13,vi e,s49 v15,YB g,vi v17,vi v18,s49 a.o,s3 a.t,s49 a.q,vi a.d,vi a.r.j,vi a.r.K,vi v19,vi a.r.E,vi a.r.f,vi a.r.y]] 0)))
abbrev QiJ:=λN a Q n (st:St)=>∃b c e g i v6 v7 v8,Iv (Qdo N a n b c e g i v6 v7 v8) Q ((st.n=90/\st.t 0=.ept 1000000 0 16 0 0/\st.t 14=vi a.h.p.length/\st.t 15=vi b/\st.s 1000000=some (0,.arr true 374 16 [[vi c,vi e,s49 g,YB i,vi v6,vi v7,s49 a.o,s3 a.t,s49 a.q,vi a.d,vi a.r.j,vi a.r.K,vi v8,vi a.r.E,vi a.r.f,vi a.r.y]] 0)))
def g33:(∀N(a0:Wk),O1 (Qfi N a0) 158 [.agg (e28 a0)] (λr=>.agg (Xqz r)))/\(∀N(a0:Wk)(a1:Int),O1 (Qgx N a0 a1) 297 [.agg (e28 a0),vi a1] (λr=>.tup [vu r.1,.v (.bool r.2)]))/\(∀N(a0:Wk),O1 (Qd7 N a0) 130 [.agg (e28 a0)] (λr=>.tup [s49 r.1,vi r.2]))/\(∀N a0,OK (QeQ N a0) 341 [.ept 1000000 0 16 0 0] [.arr true 374 16 [[vi a0.h.c.W,vi a0.h.c.p,s49 a0.h.w,YB a0.h.p,vi a0.h.s,vi a0.h.b,s49 a0.o,s3 a0.t,s49 a0.q,vi a0.d,vi a0.r.j,vi a0.r.K,vi a0.r.F,vi a0.r.E,vi a0.r.f,vi a0.r.y]] 0] (λr=>.tup []) λr=>[.arr true 374 16 [[vi r.h.c.W,vi r.h.c.p,s49 r.h.w,YB r.h.p,vi r.h.s,vi r.h.b,s49 r.o,s3 r.t,s49 r.q,vi r.d,vi r.r.j,vi r.r.K,vi r.r.F,vi r.r.E,vi r.r.f,vi r.r.y]] 0]):=by
 refine⟨λN _=>rk f158 ?_,λN _ _=>rk f297 ?_,λN _=>rk f130 ?_,λN _=>rk f341 ?_⟩<;>(rintro _ hw r hr C _ rfl hwf hf;have hse:=@ZZ _ hw;simp only[f158,f297,f130,f341,Option.get!,Qfi,Qgx,Qd7,QeQ]at hr⊢;repeat' first
 |(refine El.el hr ?_;clear hr;intro hr)
 |(with_reducible intro h;refine XH hr h ?_;clear hr;intro hr)
 |with_reducible intro _
 |(refine Xq hr ?_;rintro rfl;have hr:=hk;clear hk)
 |simp only[go_sem,simprocAttr,E,Fq,XB,Xm,XbH,hse,Wl,Wn,Wz]
 |(with_reducible first|apply Xi|apply Xh|apply Xt|apply Xx|apply Xy)
 |((first|with_reducible refine Yy hr ag ?_ ?_|(with_reducible refine Yt hr ?_ ?_;rotate_left;intro p;rotate_right));(·simp only[go_sem,simprocAttr,hse,Wl,Wn,Wz]);intro hp hn hd hr;(try have XB:=hd _ e49;simp only[go_sem,simprocAttr]at XB);(try have Xm:=hd _ X0;simp only[go_sem,simprocAttr]at Xm);(try have XbH:=hd _ Xaj;simp only[go_sem,simprocAttr]at XbH))
 |(refine Xu ?_ ?_;.first|assumption|omega|(dsimp only at *;omega))
 |(refine CallX.inl (f:=215) 4400 (fn:=f215) (rs:=[.tmp 4]) (nt:=42) 1000 ac (λx=>?_) _;simp only[f215,Option.get!])
 |(with_reducible first|refine CallX.c ?_ _|refine OK.c hr hw ?_ (λy hr=>?_) _|refine OK.d hr hw ?_ (λy hr=>?_) _)
 |(with_reducible refine lp (QjA N _) hr N ?_ (λ_ p q=>⟨_,_,p,q,?_⟩) _;clear hr;(try clear E);(try clear Fq);rintro n1 st ⟨_,_,hr,hk,⟨_,_,E⟩⟩<;>(obtain _|n1:=n1<;>rw[Qbk]at hr))
 |refine⟨_,WD _,_,_,hr,hk,?_⟩
 |(with_reducible refine lp (QjB N _) hr N ?_ (λ_ p q=>⟨_,_,_,p,q,?_⟩) _;clear hr;(try clear E);(try clear Fq);rintro n2 st ⟨_,_,_,hr,hk,⟨_,_,E⟩⟩<;>(obtain _|n2:=n2<;>rw[Qa7]at hr))
 |refine⟨_,WD _,_,_,_,hr,hk,?_⟩
 |(with_reducible refine lp (QkH N _ _ _) hr N ?_ (λ_ p q=>⟨_,_,_,p,q,?_⟩) _;clear hr;(try clear E);(try clear Fq);rintro n1 st ⟨_,_,_,hr,hk,⟨_,_,E⟩⟩<;>(obtain _|n1:=n1<;>rw[Qeh]at hr))
 |(with_reducible refine lp (QiH N) hr N ?_ (λ_ p q=>⟨_,_,_,_,p,q,?_⟩) _;clear hr;(try clear Fq);rintro n1 st ⟨_,_,_,_,hr,hk,⟨_,Fq⟩⟩<;>(obtain _|n1:=n1<;>rw[QcD]at hr))
 |refine⟨_,WD _,_,_,_,_,hr,hk,?_⟩
 |(with_reducible refine lp (QiI N _ _ _) hr N ?_ (λ_ p q=>⟨_,_,_,_,_,_,_,_,_,p,q,?_⟩) _;clear hr;(try clear E);(try clear Fq);rintro n1 st ⟨_,_,_,_,_,_,_,_,_,hr,hk,E⟩<;>(obtain _|n1:=n1<;>rw[QcF]at hr))
 |refine⟨_,WD _,_,_,_,_,_,_,_,_,_,hr,hk,?_⟩
 |(with_reducible refine lp (QiJ N _) hr N ?_ (λ_ p q=>⟨_,_,_,_,_,_,_,_,_,p,q,?_⟩) _;clear hr;(try clear E);(try clear Fq);rintro n2 st ⟨_,_,_,_,_,_,_,_,_,hr,hk,E⟩<;>(obtain _|n2:=n2<;>rw[Qdo]at hr))
 |refine dq 341 12 hf [(11,[],[1000000]),(14,[1000000],[])] ?_
 |refine dp ?_
 |(refine Xq hr ?_;rintro rfl;with_reducible refine XQ ?_)
 |exact YE hr
 |((first|refine XH (c:=true) hr rfl ?_|refine XH (c:=false) hr rfl ?_|refine XH hr ag ?_);intro hr)
 |omega)
abbrev Qmn:=g33.1
abbrev Qnu:=g33.2.1
abbrev Qlq:=g33.2.2.1
abbrev Qlr:=g33.2.2.2
attribute [instance] Qmn Qnu Qlq Qlr
def g32:(∀N(a0:Wk)(a1:Int)(a2:Int),O1 (Qgp N a0 a1 a2) 225 [.agg (e28 a0),vu a1,vi a2] (λr=>.tup [vu r.1,vi r.2]))/\(∀N(a0:Wk)(a1:Int)(a2:Int)(a3:Int),O1 (Qff N a0 a1 a2 a3) 227 [.agg (e28 a0),vu a1,vi a2,vu a3] (λr=>.tup [.agg (e28 r.1),vi r.2])):=by
 refine⟨λN _ _ _=>rk f225 ?_,λN _ _ _ _=>rk f227 ?_⟩<;>(rintro _ hw r hr C _ rfl hwf hf;simp only[f225,f227,Option.get!,Qgp,Qff]at hr⊢;repeat' first
 |(refine El.el hr ?_;clear hr;intro hr)
 |(with_reducible intro h;refine XH hr h ?_;clear hr;intro hr)
 |with_reducible intro _
 |simp only[go_sem,simprocAttr]
 |(with_reducible first|apply Xi|apply Xh|apply Xt)
 |(refine Xu ?_ ?_;.first|assumption|omega)
 |(with_reducible first|refine CallX.c ?_ _|refine OK.c hr hw ?_ (λy hr=>?_) _)
 |(refine Xq hr ?_;rintro rfl;with_reducible refine XQ ?_)
 |exact YE hr)
abbrev Qls:=g32.1
abbrev QiK:=g32.2
attribute [instance] Qls QiK
end Go.Sx
