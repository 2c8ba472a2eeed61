import Derived.Test.YtlneiohchomcfaaGreatDoorSG6
set_option linter.all false
namespace Go.Sx
open Go.Proofs Tryz
set_option maxRecDepth 10000
set_option maxHeartbeats 100000000
def g17:(∀N a0,OK (Qbq N a0) 16 [.ept 1000000 0 2 0 0] [.arr true 48 2 [[s3 a0.L,vi a0.at_]] 0] (λr=>.agg (e44 r.1)) λr=>[.arr true 48 2 [[s3 r.2.L,vi r.2.at_]] 0])/\(∀N(a0:Ww)(a1:Int),O1 (Qdw N a0 a1) 169 [.agg (JG a0),vu a1] (λr=>.agg (Z7 r)))/\(∀N(a0:WN)(a1:Wv),O1 (Qcv N a0 a1) 179 [.agg (e24 a0),.agg (Z7 a1)] (λr=>.v (.bool r)))/\(∀N(a0:W3)(a1:Int),O1 (Qbh N a0 a1) 182 [.agg (e38 a0),vu a1] (λr=>.tup [.agg (e38 r.1),vu r.2.1,vi r.2.2]))/\(∀N(a0:Wp)(a1:Int),O1 (Qew N a0 a1) 117 [.agg (e32 a0),vi a1] (λr=>.tup [.agg (e32 r.1),vi r.2]))/\(∀N(a0:Wp)(a1:Int),O1 (Qdd N a0 a1) 261 [.agg (e32 a0),vu a1] (λr=>vi r))/\(∀N(a0:Ws)(a1:WN),O1 (QdM N a0 a1) 325 [.agg (Xh8 a0),.agg (e24 a1)] (λr=>.v (.bool r)))/\(∀N(a0:Wu),O1 (QdV N a0) 49 [.agg (e35 a0)] (λr=>.v (.bool r)))/\(∀N(a0:WN)(a1:Wv),O1 (QfQ N a0 a1) 222 [.agg (e24 a0),.agg (Z7 a1)] (λr=>.v (.bool r)))/\(∀N(a0:Int),O1 (Qb9 N a0) 367 [vu a0] (λr=>.tup [vu r.1,vi r.2]))/\(∀N(a0:UR),O1 (Qeo N a0) 228 [.agg (Xje a0)] (λr=>.tup [vu r.1,vi r.2])):=by
 refine⟨λN _=>rk f16 ?_,λN _ _=>rk f169 ?_,λN _ _=>rk f179 ?_,λN _ _=>rk f182 ?_,λN _ _=>rk f117 ?_,λN _ _=>rk f261 ?_,λN _ _=>rk f325 ?_,λN _=>rk f49 ?_,λN _ _=>rk f222 ?_,λN _=>rk f367 ?_,λN _=>rk f228 ?_⟩<;>(rintro _ hw r hr C _ rfl hwf hf;have hgw:=hw.1;have hse:=@ZZ _ hw;simp only[f16,f169,f179,f182,f117,f261,f325,f49,f222,f367,f228,Option.get!,Qbq,Qdw,Qcv,Qbh,Qew,Qdd,QdM,QdV,QfQ,Qb9,Qeo]at hr⊢;repeat' first
 |(refine El.el hr ?_;clear hr;intro hr)
 |(with_reducible intro h;refine XH hr h ?_;clear hr;intro hr)
 |with_reducible intro _
 |simp only[go_sem,simprocAttr,XtZ,hgw,hse]
 |(with_reducible first|apply Xi|apply Xh|apply Xt|apply Xx|apply Xy)
 |(refine Xu ?_ ?_;.first|assumption|omega)
 |(with_reducible first|refine CallX.c ?_ _|refine OK.c hr hw ?_ (λy hr=>?_) _|refine OK.d hr hw ?_ (λy hr=>?_) _)
 |with_reducible refine OM 6 ?_ _
 |with_reducible refine LoopU.s 1000 ?_ _
 |refine dp ?_
 |(refine Xq hr ?_;rintro rfl;with_reducible refine XQ ?_)
 |exact YE hr)
abbrev QiF:=g17.1
abbrev QnR:=g17.2.1
abbrev Qm9:=g17.2.2.1
abbrev Ql6:=g17.2.2.2.1
abbrev Qna:=g17.2.2.2.2.1
abbrev Ql7:=g17.2.2.2.2.2.1
abbrev Qic:=g17.2.2.2.2.2.2.1
abbrev Ql8:=g17.2.2.2.2.2.2.2.1
abbrev Qnb:=g17.2.2.2.2.2.2.2.2.1
abbrev Qjr:=g17.2.2.2.2.2.2.2.2.2.1
abbrev Qko:=g17.2.2.2.2.2.2.2.2.2.2
attribute [instance] QiF QnR Qm9 Ql6 Qna Ql7 Qic Ql8 Qnb Qjr Qko
abbrev Qhw:=λN a g (w51264:Nat) (w51584:Nat) (w52288:Nat) (i:Heap) Q n (st:St)=>∃e v13,Iv (QbT N a g n e v13) Q (LoS st.s i/\((∃w51840 w52480 w52672,st.n=180/\st.s 51584=some (w51584,.arr false 49 1 (a.h.w.map e49) 0)/\st.s 51840=some (w51840,.arr false 139 4 (v13.map X0) 0)/\st.s 52288=some (w52288,.arr false 49 1 (a.o.map e49) 0)/\st.s 52480=some (w52480,.arr false 3 1 (a.t.map e3) 0)/\st.s 52672=some (w52672,.arr false 49 1 (a.q.map e49) 0)/\st.t 0=.ept 51264 w51264 16 0 0/\st.t 1=vu g/\st.t 13=vi e/\st.s 51264=some (w51264,.arr true 386 16 [[vi a.h.c.W,vi a.h.c.p,.osl 51584 w51584 1 0 a.h.w.length,.osl 51840 w51840 4 0 v13.length,vi a.h.s,vi a.h.b,.osl 52288 w52288 1 0 a.o.length,.osl 52480 w52480 1 0 a.t.length,.osl 52672 w52672 1 0 a.q.length,vi a.d,vi a.r.j,vi a.r.K,vi a.r.F,vi a.r.E,vi a.r.f,vi a.r.y]] 0))\/(∃w52480 w52672 w51840,st.n=180/\st.s 51584=some (w51584,.arr false 49 1 (a.h.w.map e49) 0)/\st.s 52288=some (w52288,.arr false 49 1 (a.o.map e49) 0)/\st.s 52480=some (w52480,.arr false 3 1 (a.t.map e3) 0)/\st.s 52672=some (w52672,.arr false 49 1 (a.q.map e49) 0)/\st.s 210816=some (w51840,.arr false 139 4 (v13.map X0) 0)/\st.t 0=.ept 51264 w51264 16 0 0/\st.t 1=vu g/\st.t 13=vi e/\st.s 51264=some (w51264,.arr true 386 16 [[vi a.h.c.W,vi a.h.c.p,.osl 51584 w51584 1 0 a.h.w.length,.osl 210816 w51840 4 0 v13.length,vi a.h.s,vi a.h.b,.osl 52288 w52288 1 0 a.o.length,.osl 52480 w52480 1 0 a.t.length,.osl 52672 w52672 1 0 a.q.length,vi a.d,vi a.r.j,vi a.r.K,vi a.r.F,vi a.r.E,vi a.r.f,vi a.r.y]] 0))))
def QgL{C:Cx}{N:Nat}{a0:Ww}{a1:Int}{β:Type}{k:Int × Int × Ww → Option β}{r:β}{dst:Option Nat}{st:St}{K:St → Prop}{wb w1 w3:Nat}(hw:GW C.G)(hr:bnd (Qa4 N a0 a1) k=some r)(p wp w4 w5:Nat)(hp:p=51840\/p=210816)(E0:st.s 51584=some (w1,.arr false 49 1 (a0.h.w.map e49) 0))(E1:st.s p=some (wp,.arr false 139 4 (a0.h.p.map X0) 0))(E2:st.s 52288=some (w3,.arr false 49 1 (a0.o.map e49) 0))(E3:st.s 52480=some (w4,.arr false 3 1 (a0.t.map e3) 0))(E4:st.s 52672=some (w5,.arr false 49 1 (a0.q.map e49) 0))(E5:st.s 51264=some (wb,.arr true 386 16 [[vi a0.h.c.W,vi a0.h.c.p,.osl 51584 w1 1 0 a0.h.w.length,.osl p wp 4 0 a0.h.p.length,vi a0.h.s,vi a0.h.b,.osl 52288 w3 1 0 a0.o.length,.osl 52480 w4 1 0 a0.t.length,.osl 52672 w5 1 0 a0.q.length,vi a0.d,vi a0.r.j,vi a0.r.K,vi a0.r.F,vi a0.r.E,vi a0.r.f,vi a0.r.y]] 0))(hK:∀y,k y=some r→∀s' kk,∀p wp w4 w5,(p=51840\/p=210816)→FwH s' wb w1 p wp w3 w4 w5 y.2.2→K (nxS st (XS dst st.n) (.tup [vu y.1,vi y.2.1]) (Xjf st.s s') st.n kk))(t:Prf ([.ept 51264 wb 16 0 0,vu a1]:List D)):CallX prog C 352 [.ept 51264 wb 16 0 0,vu a1] dst st K t:=by
 refine Xba hr λy hr hk2=>?_;have E:=And.intro E0 (And.intro E1 (And.intro E2 (And.intro E3 (And.intro E4 E5))));clear E0 E1 E2 E3 E4 E5;have hse:=@ZZ _ hw;rcases hp with rfl|rfl<;>(refine CallX.inl (f:=352) 1200 (fn:=f352) (rs:=[.tmp 4,.tmp 5]) (nt:=180) 1000 ac (λx=>?_) _;simp only[f352,Option.get!];rw[Qa4]at hr;repeat' first
 |((with_reducible refine LoS.mk ?_);(intro i hi;first|rfl|exact hl0 i hi|(simp only[Zf,ZQ,KG,XD,VJ hi,hi,simprocAttr,if_true,if_false];first|done|exact hl0 i hi)|(simp only[Zf,ZQ,KG,XD,VJ hi,hi,simprocAttr,if_true,if_false])))
 |(refine El.el hr ?_;clear hr;intro hr)
 |(with_reducible intro h;refine XH hr h ?_;clear hr;intro hr)
 |with_reducible intro _
 |(refine Xq hr ?_;rintro rfl;have hr:=hk;clear hk)
 |simp only[go_sem,simprocAttr,E,Fq,XB,Xm,YH,XY,hse,EF,XD,Wl,Wn,Wz]
 |((first|((with_reducible apply QgD (hr:=hr) (p:=51840) (hp:=.inl rfl));(·exact hw);(·first|rfl|(simp only[go_sem,simprocAttr,E,Fq,XB,Xm,YH,XY,hse,EF,XD,Wl,Wn,Wz];repeat' first|rfl|refine⟨?_,?_⟩));(·first|rfl|(simp only[go_sem,simprocAttr,E,Fq,XB,Xm,YH,XY,hse,EF,XD,Wl,Wn,Wz];repeat' first|rfl|refine⟨?_,?_⟩));(·first|rfl|(simp only[go_sem,simprocAttr,E,Fq,XB,Xm,YH,XY,hse,EF,XD,Wl,Wn,Wz];repeat' first|rfl|refine⟨?_,?_⟩));(·first|rfl|(simp only[go_sem,simprocAttr,E,Fq,XB,Xm,YH,XY,hse,EF,XD,Wl,Wn,Wz];repeat' first|rfl|refine⟨?_,?_⟩));(·first|rfl|(simp only[go_sem,simprocAttr,E,Fq,XB,Xm,YH,XY,hse,EF,XD,Wl,Wn,Wz];repeat' first|rfl|refine⟨?_,?_⟩));(·first|rfl|(simp only[go_sem,simprocAttr,E,Fq,XB,Xm,YH,XY,hse,EF,XD,Wl,Wn,Wz];repeat' first|rfl|refine⟨?_,?_⟩)))|((with_reducible apply QgD (hr:=hr) (p:=210816) (hp:=.inr rfl));(·exact hw);(·first|rfl|(simp only[go_sem,simprocAttr,E,Fq,XB,Xm,YH,XY,hse,EF,XD,Wl,Wn,Wz];repeat' first|rfl|refine⟨?_,?_⟩));(·first|rfl|(simp only[go_sem,simprocAttr,E,Fq,XB,Xm,YH,XY,hse,EF,XD,Wl,Wn,Wz];repeat' first|rfl|refine⟨?_,?_⟩));(·first|rfl|(simp only[go_sem,simprocAttr,E,Fq,XB,Xm,YH,XY,hse,EF,XD,Wl,Wn,Wz];repeat' first|rfl|refine⟨?_,?_⟩));(·first|rfl|(simp only[go_sem,simprocAttr,E,Fq,XB,Xm,YH,XY,hse,EF,XD,Wl,Wn,Wz];repeat' first|rfl|refine⟨?_,?_⟩));(·first|rfl|(simp only[go_sem,simprocAttr,E,Fq,XB,Xm,YH,XY,hse,EF,XD,Wl,Wn,Wz];repeat' first|rfl|refine⟨?_,?_⟩));(·first|rfl|(simp only[go_sem,simprocAttr,E,Fq,XB,Xm,YH,XY,hse,EF,XD,Wl,Wn,Wz];repeat' first|rfl|refine⟨?_,?_⟩))));intro y hr s2 k2 EF)
 |((first|((with_reducible apply Qhe (hr:=hr) (p:=51840) (hp:=.inl rfl));(·exact hw);(·first|rfl|(simp only[go_sem,simprocAttr,E,Fq,XB,Xm,YH,XY,hse,EF,XD,Wl,Wn,Wz];repeat' first|rfl|refine⟨?_,?_⟩));(·first|rfl|(simp only[go_sem,simprocAttr,E,Fq,XB,Xm,YH,XY,hse,EF,XD,Wl,Wn,Wz];repeat' first|rfl|refine⟨?_,?_⟩));(·first|rfl|(simp only[go_sem,simprocAttr,E,Fq,XB,Xm,YH,XY,hse,EF,XD,Wl,Wn,Wz];repeat' first|rfl|refine⟨?_,?_⟩));(·first|rfl|(simp only[go_sem,simprocAttr,E,Fq,XB,Xm,YH,XY,hse,EF,XD,Wl,Wn,Wz];repeat' first|rfl|refine⟨?_,?_⟩));(·first|rfl|(simp only[go_sem,simprocAttr,E,Fq,XB,Xm,YH,XY,hse,EF,XD,Wl,Wn,Wz];repeat' first|rfl|refine⟨?_,?_⟩));(·first|rfl|(simp only[go_sem,simprocAttr,E,Fq,XB,Xm,YH,XY,hse,EF,XD,Wl,Wn,Wz];repeat' first|rfl|refine⟨?_,?_⟩)))|((with_reducible apply Qhe (hr:=hr) (p:=210816) (hp:=.inr rfl));(·exact hw);(·first|rfl|(simp only[go_sem,simprocAttr,E,Fq,XB,Xm,YH,XY,hse,EF,XD,Wl,Wn,Wz];repeat' first|rfl|refine⟨?_,?_⟩));(·first|rfl|(simp only[go_sem,simprocAttr,E,Fq,XB,Xm,YH,XY,hse,EF,XD,Wl,Wn,Wz];repeat' first|rfl|refine⟨?_,?_⟩));(·first|rfl|(simp only[go_sem,simprocAttr,E,Fq,XB,Xm,YH,XY,hse,EF,XD,Wl,Wn,Wz];repeat' first|rfl|refine⟨?_,?_⟩));(·first|rfl|(simp only[go_sem,simprocAttr,E,Fq,XB,Xm,YH,XY,hse,EF,XD,Wl,Wn,Wz];repeat' first|rfl|refine⟨?_,?_⟩));(·first|rfl|(simp only[go_sem,simprocAttr,E,Fq,XB,Xm,YH,XY,hse,EF,XD,Wl,Wn,Wz];repeat' first|rfl|refine⟨?_,?_⟩));(·first|rfl|(simp only[go_sem,simprocAttr,E,Fq,XB,Xm,YH,XY,hse,EF,XD,Wl,Wn,Wz];repeat' first|rfl|refine⟨?_,?_⟩))));intro y hr s2 k2 p w w4 w5 hp EF;(try dsimp only at EF);rcases hp with rfl|rfl)
 |(with_reducible first|apply Xi|apply Xh|apply Xt|apply Xx|apply Xy)
 |((first|with_reducible refine Yy hr ag ?_ ?_|(with_reducible refine Yt hr ?_ ?_;rotate_left;intro p;rotate_right));(·simp only[go_sem,simprocAttr,hse,EF,XD,Wl,Wn,Wz]);intro hp hn hd hr;(try have XB:=hd _ e49;simp only[go_sem,simprocAttr]at XB);(try have Xm:=hd _ X0;simp only[go_sem,simprocAttr]at Xm))
 |(refine Xu ?_ ?_;.first|assumption|omega|(dsimp only at *;omega))
 |((with_reducible first|refine Xok hr ag ?_|refine Xq4 hr ag ?_);intro hp hn hd hr;(try simp only[WJ,Wl,Wn]at hn);(try have YH:=hd _ e49;simp only[go_sem,simprocAttr]at YH);(try have XY:=hd _ X0;simp only[go_sem,simprocAttr]at XY))
 |((with_reducible first|refine Xjg hr ?_|refine XqD hr ?_);intro p hp hn hd hr;(try simp only[WJ,Wl,Wn]at hn);(try have YH:=hd _ e49;simp only[go_sem,simprocAttr]at YH);(try have XY:=hd _ X0;simp only[go_sem,simprocAttr]at XY))
 |(with_reducible refine XcX hr ?_ ?_;(·simp only[go_sem]);intro p hp hn hd hr;(try have XB:=hd _ e49;simp only[go_sem,simprocAttr]at XB);(try have Xm:=hd _ X0;simp only[go_sem,simprocAttr]at Xm))
 |(refine CallX.inl (f:=359) 3600 (fn:=f359) (rs:=[.tmp 6,.tmp 7]) (nt:=57) 1000 ac (λx=>?_) _;simp only[f359,Option.get!])
 |(refine CallX.inl (f:=362) 2800 (fn:=f362) (rs:=[.tmp 4,.tmp 5]) (nt:=26) 1000 ac (λx=>?_) _;simp only[f362,Option.get!])
 |(refine CallX.inl (f:=363) 2400 (fn:=f363) (rs:=[.tmp 2]) (nt:=9) 1000 ac (λx=>?_) _;simp only[f363,Option.get!])
 |(refine CallX.inl (f:=365) 4000 (fn:=f365) (rs:=[.tmp 6,.tmp 7]) (nt:=96) 1000 ac (λx=>?_) _;simp only[f365,Option.get!])
 |(with_reducible first|refine CallX.c ?_ _|refine OK.c hr hw ?_ (λy hr=>?_) _|refine OK.d hr hw ?_ (λy hr=>?_) _)
 |((refine LoopG.v (id:=51264) (v:=?_) ?_ ?_ _;rotate_left;.first|rfl|(simp only[go_sem,simprocAttr,E,Fq,EF,XD];rfl));intro w51264 h51264;(refine LoopG.v (id:=51584) (v:=?_) ?_ ?_ _;rotate_left;.first|rfl|(simp only[go_sem,simprocAttr,E,Fq,EF,XD];rfl));intro w51584 h51584;(refine LoopG.v (id:=52288) (v:=?_) ?_ ?_ _;rotate_left;.first|rfl|(simp only[go_sem,simprocAttr,E,Fq,EF,XD];rfl));intro w52288 h52288;with_reducible refine XmH (I:=Qhw N _ _ w51264 w51584 w52288 st.s) hr 1000 N (λ_ p q=>⟨_,_,_,p,q,?_,?_⟩) ?_ _;(all_goals (subst h51264;subst h51584;subst h52288));rotate_left 2;clear hr;(try clear Fq);rintro n1 st ⟨_,_,_,hr,hk,hl0,(⟨_,_,_,Fq⟩|⟨_,_,_,Fq⟩)⟩<;>(obtain _|n1:=n1<;>rw[QbT]at hr))
 |refine⟨_,WD _,_,_,_,hr,hk,?_,?_⟩
 |refine dqi 1200 352 17 ⟨⟩ [(10,[51840,210816],[])] ?_
 |refine dqi 1200 352 21 ⟨⟩ [(10,[51840,210816],[])] ?_
 |refine dqi 4000 365 10 ⟨⟩ [(16,[51840,210816],[])] ?_
 |refine dqi 4000 365 11 ⟨⟩ [(0,[],[52672,261184]),(1,[],[52672,261184]),(2,[],[261184]),(3,[],[261184]),(4,[],[261184]),(5,[],[261184]),(6,[],[261184]),(8,[261184],[]),(9,[52672],[]),(12,[51264],[])] ?_
 |refine dp ?_
 |exact YE hr
 |((first|refine XH (c:=true) hr rfl ?_|refine XH (c:=false) hr rfl ?_|refine XH hr ag ?_);intro hr)
 |rw[Ul ah]
 |omega
 |rw[Ul (by simp only[WJ,Um,Wn];omega)]
 |(refine Xq hr ?_;rintro rfl;(try simp only[go_sem,simprocAttr,E,Fq,XB,Xm,YH,XY,hse,EF,XD,Wl,Wn,Wz]);first|(apply Xgo (K:=λs=>K (nxS _ _ _ s _ _)) (λp wp w4 w5 hp h=>hK _ hk2 _ _ p wp w4 w5 hp h) 51840 (hp:=.inl rfl);refine⟨?_,?_,?_,?_,?_,?_⟩;(iterate 6 (·first|rfl|(simp only[go_sem,simprocAttr,E,Fq,XB,Xm,YH,XY,hse,EF,XD,Wl,Wn,Wz];(repeat' first|rfl|exact Xt0 aa|omega|refine⟨?_,?_⟩);done)));(intro i hi;first|rfl|exact hl0 i hi|(simp only[Zf,ZQ,KG,XD,VJ hi,hi,simprocAttr,if_true,if_false];first|done|exact hl0 i hi)|(simp only[Zf,ZQ,KG,XD,VJ hi,hi,simprocAttr,if_true,if_false])))|(apply Xgo (K:=λs=>K (nxS _ _ _ s _ _)) (λp wp w4 w5 hp h=>hK _ hk2 _ _ p wp w4 w5 hp h) 210816 (hp:=.inr rfl);refine⟨?_,?_,?_,?_,?_,?_⟩;(iterate 6 (·first|rfl|(simp only[go_sem,simprocAttr,E,Fq,XB,Xm,YH,XY,hse,EF,XD,Wl,Wn,Wz];(repeat' first|rfl|exact Xt0 aa|omega|refine⟨?_,?_⟩);done)));(intro i hi;first|rfl|exact hl0 i hi|(simp only[Zf,ZQ,KG,XD,VJ hi,hi,simprocAttr,if_true,if_false];first|done|exact hl0 i hi)|(simp only[Zf,ZQ,KG,XD,VJ hi,hi,simprocAttr,if_true,if_false]))))
 |(with_reducible apply XcW;(·simp only[go_sem,simprocAttr,E,Fq,XB,Xm,YH,XY,hse,EF,XD,Wl,Wn,Wz];repeat' first|rfl|refine⟨?_,?_⟩);(·simp only[Z0,snap,go_sem,simprocAttr,E,Fq,XB,Xm,YH,XY,hse,EF,XD,Wl,Wn,Wz];repeat' first|rfl|refine⟨?_,?_⟩);(·simp only[go_sem,simprocAttr,E,Fq,XB,Xm,YH,XY,hse,EF,XD,Wl,Wn,Wz];first|done|omega|(simp;omega))))
end Go.Sx
