import Derived.Test.YtokkmapiallffaaGreatDoorKG4
import Derived.Test.YtokkmapiallffaaGreatDoorKG6
set_option linter.all false
namespace Go.Sx
open Go.Proofs Tryz
set_option maxRecDepth 10000
set_option maxHeartbeats 100000000
abbrev Qhr:=λN a e (g:Nat) (h:Nat) (i:Nat) (l:Heap) Q n (st:St)=>∃k j,Iv (QbM N a e n k j) Q (LoS st.s l/\((∃b c d,st.n=180/\r59 st 51584 h a.h.w/\VM st 51840 b j/\r59 st 52288 i a.o/\r3 st 52480 c a.t/\r59 st 52672 d a.q/\pt st 0 51264 g 16/\st.t 1=vu e/\st.t 13=vi k/\bx st 51264 g 209 16 [vi a.h.c.W,vi a.h.c.p,.osl 51584 h 1 0 a.h.w.length,.osl 51840 b 4 0 j.length,vi a.h.s,vi a.h.b,.osl 52288 i 1 0 a.o.length,.osl 52480 c 1 0 a.t.length,.osl 52672 d 1 0 a.q.length,vi a.d,vi a.r.j,vi a.r.K,vi a.r.F,vi a.r.E,vi a.r.f,vi a.r.y])\/(∃c d b,st.n=180/\r59 st 51584 h a.h.w/\r59 st 52288 i a.o/\r3 st 52480 c a.t/\r59 st 52672 d a.q/\VM st 210816 b j/\pt st 0 51264 g 16/\st.t 1=vu e/\st.t 13=vi k/\bx st 51264 g 209 16 [vi a.h.c.W,vi a.h.c.p,.osl 51584 h 1 0 a.h.w.length,.osl 210816 b 4 0 j.length,vi a.h.s,vi a.h.b,.osl 52288 i 1 0 a.o.length,.osl 52480 c 1 0 a.t.length,.osl 52672 d 1 0 a.q.length,vi a.d,vi a.r.j,vi a.r.K,vi a.r.F,vi a.r.E,vi a.r.f,vi a.r.y])))
def QgC{C:Cx}{N:Nat}{a0:Wu}{a1:Int}{β:Type}{k:Int × Int × Wu → Option β}{r:β}{dst:Option Nat}{st:St}{K:St → Prop}{wb w1 w3:Nat}(hw:GW C.G)(hr:bnd (Qa1 N a0 a1) k=some r)(p wp w4 w5:Nat)(hp:p=51840\/p=210816)(E0:st.s 51584=some (w1,.arr false 59 1 (a0.h.w.map e59) 0))(E1:st.s p=some (wp,.arr false 159 4 (a0.h.p.map YT) 0))(E2:st.s 52288=some (w3,.arr false 59 1 (a0.o.map e59) 0))(E3:st.s 52480=some (w4,.arr false 3 1 (a0.t.map e3) 0))(E4:st.s 52672=some (w5,.arr false 59 1 (a0.q.map e59) 0))(E5:st.s 51264=some (wb,.arr true 209 16 [[vi a0.h.c.W,vi a0.h.c.p,.osl 51584 w1 1 0 a0.h.w.length,.osl p wp 4 0 a0.h.p.length,vi a0.h.s,vi a0.h.b,.osl 52288 w3 1 0 a0.o.length,.osl 52480 w4 1 0 a0.t.length,.osl 52672 w5 1 0 a0.q.length,vi a0.d,vi a0.r.j,vi a0.r.K,vi a0.r.F,vi a0.r.E,vi a0.r.f,vi a0.r.y]] 0))(hK:∀y,k y=some r→∀s' kk,∀p wp w4 w5,(p=51840\/p=210816)→FwH s' wb w1 p wp w3 w4 w5 y.2.2→K (nxS st (XH dst st.n) (.tup [vu y.1,vi y.2.1]) (XjH st.s s') st.n kk))(t:Prf ([.ept 51264 wb 16 0 0,vu a1]:List D)):CallX prog C 131 [.ept 51264 wb 16 0 0,vu a1] dst st K t:=by
 refine Xbj hr λy hr hk2=>?_;have E:=And.intro E0 (And.intro E1 (And.intro E2 (And.intro E3 (And.intro E4 E5))));clear E0 E1 E2 E3 E4 E5;have hse:=@XgM _ hw;rcases hp with rfl|rfl<;>(refine CallX.inl (f:=131) 1200 (fn:=f131) (rs:=[.tmp 4,.tmp 5]) (nt:=180) 1000 ae (λx=>?_) _;simp only[f131,Option.get!];rw[Qa1]at hr;repeat' first
 |((with_reducible refine LoS.mk ?_);exact zl)
 |(refine El.el hr ?_;clear hr;intro hr)
 |(with_reducible intro h;refine Y5 hr h ?_;clear hr;intro hr)
 |with_reducible intro _
 |(refine Yq hr ?_;rintro rfl;have hr:=hk;clear hk)
 |simp only[go_sem,simprocAttr,E,Fq,Zq,XT,KN,ZL,hse,EF,YB,Ws,WA,UF]
 |((first|((with_reducible apply Qgu (hr:=hr) (p:=51840) (hp:=.inl rfl));(·exact hw);iterate 6 (·exact zq))|((with_reducible apply Qgu (hr:=hr) (p:=210816) (hp:=.inr rfl));(·exact hw);iterate 6 (·exact zq)));intro y hr s2 k2 EF)
 |((first|((with_reducible apply Qg8 (hr:=hr) (p:=51840) (hp:=.inl rfl));(·exact hw);iterate 6 (·exact zq))|((with_reducible apply Qg8 (hr:=hr) (p:=210816) (hp:=.inr rfl));(·exact hw);iterate 6 (·exact zq)));intro y hr s2 k2 p w w4 w5 hp EF;(try dsimp only at EF);rcases hp with rfl|rfl)
 |(with_reducible first|apply XP|apply XO|apply YF|apply YN|apply YO)
 |((first|with_reducible refine Jh hr ah ?_ ?_|(with_reducible refine KO hr ?_ ?_;rotate_left;intro p;rotate_right));(·simp only[go_sem,simprocAttr,hse,EF,YB,Ws,WA,UF]);intro hp hn hd hr;(try have Zq:=hd _ e59;simp only[go_sem,simprocAttr]at Zq);(try have XT:=hd _ YT;simp only[go_sem,simprocAttr]at XT))
 |(refine YG ?_ ?_;.first|assumption|omega|(dsimp only at *;omega))
 |((with_reducible first|refine Xk2 hr ah ?_|refine Xpe hr ah ?_);intro hp hn hd hr;(try simp only[WK,Ws,WA]at hn);(try have KN:=hd _ e59;simp only[go_sem,simprocAttr]at KN);(try have ZL:=hd _ YT;simp only[go_sem,simprocAttr]at ZL))
 |((with_reducible first|refine XgP hr ?_|refine Xml hr ?_);intro p hp hn hd hr;(try simp only[WK,Ws,WA]at hn);(try have KN:=hd _ e59;simp only[go_sem,simprocAttr]at KN);(try have ZL:=hd _ YT;simp only[go_sem,simprocAttr]at ZL))
 |(with_reducible refine XjI hr ?_ ?_;(·simp only[go_sem]);intro p hp hn hd hr;(try have Zq:=hd _ e59;simp only[go_sem,simprocAttr]at Zq);(try have XT:=hd _ YT;simp only[go_sem,simprocAttr]at XT))
 |(refine CallX.inl (f:=217) 3600 (fn:=f217) (rs:=[.tmp 6,.tmp 7]) (nt:=57) 1000 ae (λx=>?_) _;simp only[f217,Option.get!])
 |(refine CallX.inl (f:=220) 2800 (fn:=f220) (rs:=[.tmp 4,.tmp 5]) (nt:=26) 1000 ae (λx=>?_) _;simp only[f220,Option.get!])
 |(refine CallX.inl (f:=221) 2400 (fn:=f221) (rs:=[.tmp 2]) (nt:=9) 1000 ae (λx=>?_) _;simp only[f221,Option.get!])
 |(refine CallX.inl (f:=224) 4000 (fn:=f224) (rs:=[.tmp 6,.tmp 7]) (nt:=96) 1000 ae (λx=>?_) _;simp only[f224,Option.get!])
 |(with_reducible first|refine CallX.c ?_ _|refine OK.c hr hw ?_ (λy hr=>?_) _|refine OK.d hr hw ?_ (λy hr=>?_) _)
 |((refine LoopG.v (id:=51264) (v:=?_) ?_ ?_ _;rotate_left;.first|rfl|(simp only[go_sem,simprocAttr,E,Fq,EF,YB];rfl));intro w51264 h51264;(refine LoopG.v (id:=51584) (v:=?_) ?_ ?_ _;rotate_left;.first|rfl|(simp only[go_sem,simprocAttr,E,Fq,EF,YB];rfl));intro w51584 h51584;(refine LoopG.v (id:=52288) (v:=?_) ?_ ?_ _;rotate_left;.first|rfl|(simp only[go_sem,simprocAttr,E,Fq,EF,YB];rfl));intro w52288 h52288;with_reducible refine Xnt (I:=Qhr N _ _ w51264 w51584 w52288 st.s) hr 1000 N (λ_ p q=>⟨_,_,_,p,q,?_,?_⟩) ?_ _;(all_goals (subst h51264;subst h51584;subst h52288));rotate_left 2;clear hr;(try clear Fq);rintro n1 st ⟨_,_,_,hr,hk,hl0,(⟨_,_,_,Fq⟩|⟨_,_,_,Fq⟩)⟩<;>(obtain _|n1:=n1<;>rw[QbM]at hr))
 |refine⟨_,UQ _,_,_,_,hr,hk,?_,?_⟩
 |refine dqi 1200 131 17 ⟨⟩ [(10,[51840,210816],[])] ?_
 |refine dqi 1200 131 21 ⟨⟩ [(10,[51840,210816],[])] ?_
 |refine dqi 4000 224 10 ⟨⟩ [(16,[51840,210816],[])] ?_
 |refine dqi 4000 224 11 ⟨⟩ [(0,[],[52672,261184]),(1,[],[52672,261184]),(2,[],[261184]),(3,[],[261184]),(4,[],[261184]),(5,[],[261184]),(6,[],[261184]),(8,[261184],[]),(9,[52672],[]),(12,[51264],[])] ?_
 |refine dp ?_
 |exact XaY hr
 |exact VG hr
 |(apply VH;assumption)
 |((first|refine Y5 (c:=true) hr rfl ?_|refine Y5 (c:=false) hr rfl ?_|refine Y5 hr ah ?_);intro hr)
 |rw[Uy ai]
 |omega
 |rw[Uy (by simp only[WK,Ug,WA];omega)]
 |(refine Yq hr ?_;rintro rfl;(try simp only[go_sem,simprocAttr,E,Fq,Zq,XT,KN,ZL,hse,EF,YB,Ws,WA,UF]);first|(apply Xcl (K:=λs=>K (nxS _ _ _ s _ _)) (λp wp w4 w5 hp h=>hK _ hk2 _ _ p wp w4 w5 hp h) 51840 (hp:=.inl rfl);refine⟨?_,?_,?_,?_,?_,?_⟩;(iterate 6 (·exact zs));exact zl)|(apply Xcl (K:=λs=>K (nxS _ _ _ s _ _)) (λp wp w4 w5 hp h=>hK _ hk2 _ _ p wp w4 w5 hp h) 210816 (hp:=.inr rfl);refine⟨?_,?_,?_,?_,?_,?_⟩;(iterate 6 (·exact zs));exact zl))
 |(with_reducible apply Xda;(·simp only[go_sem,simprocAttr,E,Fq,Zq,XT,KN,ZL,hse,EF,YB,Ws,WA,UF];repeat' first|rfl|refine⟨?_,?_⟩);(·simp only[ZO,snap,go_sem,simprocAttr,E,Fq,Zq,XT,KN,ZL,hse,EF,YB,Ws,WA,UF];repeat' first|rfl|refine⟨?_,?_⟩);(·simp only[go_sem,simprocAttr,E,Fq,Zq,XT,KN,ZL,hse,EF,YB,Ws,WA,UF];first|done|omega|(simp;omega))))
end Go.Sx
