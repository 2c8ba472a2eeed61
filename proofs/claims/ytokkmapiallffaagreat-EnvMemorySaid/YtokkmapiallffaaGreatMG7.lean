import Derived.Test.YtokkmapiallffaaGreatMG5
set_option linter.all false
namespace Go.Sx
open Go.Proofs Tryz
set_option maxRecDepth 10000
set_option maxHeartbeats 100000000
abbrev Qir:=λN a Q n (st:St)=>∃g d,Iv (QbH N a n g d) Q ((∃b c,st.n=35/\r52 st 320 b d/\pt st 1 64 c 13/\ol st 3 320 b 1 d.length/\st.t 4=vi g/\bx st 64 c 38 13 (e38 a)))
abbrev Qis:=λN a Q n (st:St)=>∃c d,Iv (QaB N a n c d) Q ((∃b,st.n=157/\pt st 1 64 b 6/\st.t 3=vi c/\st.t 4=vi d/\bx st 64 b 28 6 (e28 a)))
abbrev Qh3:=λN a e Q n (st:St)=>∃h g,Iv (QaL N a e n h g) Q ((∃b c d,st.n=202/\VN st 5760 b g/\st.t 1=vu e/\pt st 2 128 c 16/\pt st 4 256 d 16/\st.t 14=vi h/\bx st 128 c 266 16 [vi a.h.c.W,vi a.h.c.p,s52 a.h.w,.osl 5760 b 4 0 g.length,vi a.h.s,vi a.h.b,s52 a.o,s3 a.t,s52 a.q,vi a.d,vi a.r.j,vi a.r.K,vi a.r.F,vi a.r.E,vi a.r.f,vi a.r.y]/\bx st 256 d 266 16 [vi 0,vi 0,.nsl,.nsl,vi 0,vi 0,.nsl,.nsl,.nsl,vi 0,vi 0,vi 0,vi 0,vi 0,vi 0,vi 0]))
abbrev Qke:=λN a e Q n (st:St)=>∃h i g,Iv (Qbh N a e n h i g) Q ((∃b c d,st.n=57/\Xtl st 1280 b g/\st.t 1=s52 e/\pt st 2 128 c 3/\pt st 4 256 d 3/\st.t 6=vi h/\st.t 7=vi i/\bx st 128 c 32 3 [.osl 1280 b 3 0 g.length,XcR a.x,s3 a.i]/\bx st 256 d 32 3 [.nsl,.nsl,.nsl]))
abbrev Qje:=λN a Q n (st:St)=>∃c,Iv (Qdz N a n c) Q ((∃b,st.n=154/\pt st 1 64 b 10/\st.t 3=vi c/\bx st 64 b 42 10 (e42 a)))
abbrev Qjf:=λN e a Q n (st:St)=>∃c,Iv (QdA N e a n c) Q ((∃b d,st.n=154/\r52 st 4928 b a/\pt st 1 64 d 10/\ol st 5 4928 b 1 a.length/\st.t 6=vi c/\bx st 64 d 42 10 (e42 e)))
abbrev Qjg:=λN e a Q n (st:St)=>∃c,Iv (QdB N e a n c) Q ((∃b d,st.n=154/\r52 st 4928 b a/\pt st 1 64 d 10/\ol st 5 4928 b 1 a.length/\st.t 7=vi c/\bx st 64 d 42 10 (e42 e)))
abbrev Qit:=λN a Q n (st:St)=>∃g d,Iv (QeY N a n g d) Q ((∃b c,st.n=35/\r52 st 320 b d/\pt st 1 64 c 10/\ol st 3 320 b 1 d.length/\st.t 4=vi g/\bx st 64 c 42 10 (e42 a)))
abbrev Qjh:=λN a Q n (st:St)=>∃c,Iv (QdD N a n c) Q ((∃b,st.n=41/\pt st 3 192 b 3/\st.t 27=XcR a.x/\st.t 28=vi a.x.length/\st.t 29=vi c/\bx st 192 b 179 3 (e32 a)))
abbrev QhC:=λN a e Q n (st:St)=>∃g d,Iv (Qcc N a e n g d) Q ((∃b c,st.n=19/\r3 st 1024 b d/\pt st 1 64 c 3/\ol st 3 1024 b 1 d.length/\st.t 6=vi e/\st.t 7=vi g/\bx st 64 c 59 3 (e59 a))\/(∃c,(st.n=19/\pt st 1 64 c 3/\st.t 3=.nsl/\st.t 6=vi e/\st.t 7=vi g/\bx st 64 c 59 3 (e59 a))/\d=[]))
abbrev Qkf:=λN a d e f Q n (st:St)=>∃c,Iv (QeS N a d e f n c) Q ((∃b,st.n=45/\VN st 1856 b c/\st.t 1=Yn a/\st.t 2=vi d/\st.t 3=vi e/\st.t 13=vi f/\ol st 14 1856 b 4 c.length))
def g21.sp{p:Prop}(h:p:=by first|((first|((with_reducible refine lp (Qir N _) hr N ?_ (λ_ p q=>⟨_,_,_,p,q,?_⟩) _);have lq:=@QbH.eq_2;exact zr)|((with_reducible refine lp (Qis N _) hr N ?_ (λ_ p q=>⟨_,_,_,p,q,?_⟩) _);have lq:=@QaB.eq_2;exact zr)|((with_reducible refine lp (Qh3 N _ _) hr N ?_ (λ_ p q=>⟨_,_,_,p,q,?_⟩) _);have lq:=@QaL.eq_2;exact zr)|((with_reducible refine lp (Qke N _ _) hr N ?_ (λ_ p q=>⟨_,_,_,_,p,q,?_⟩) _);have lq:=@Qbh.eq_2;exact zr)|((with_reducible refine lp (Qje N _) hr N ?_ (λ_ p q=>⟨_,_,p,q,?_⟩) _);have lq:=@Qdz.eq_2;exact zr)|((with_reducible refine lp (Qjf N _ _) hr N ?_ (λ_ p q=>⟨_,_,p,q,?_⟩) _);have lq:=@QdA.eq_2;exact zr)|((with_reducible refine lp (Qjg N _ _) hr N ?_ (λ_ p q=>⟨_,_,p,q,?_⟩) _);have lq:=@QdB.eq_2;exact zr)|((with_reducible refine lp (Qit N _) hr N ?_ (λ_ p q=>⟨_,_,_,p,q,?_⟩) _);have lq:=@QeY.eq_2;exact zr)|((with_reducible refine lp (Qjh N _) hr N ?_ (λ_ p q=>⟨_,_,p,q,?_⟩) _);have lq:=@QdD.eq_2;exact zr)|((with_reducible refine lp (QhC N _ _) hr N ?_ (λ_ p q=>⟨_,_,_,p,q,?_⟩) _);have lq:=@Qcc.eq_2;exact zr)|((with_reducible refine lp (Qkf N _ _ _ _) hr N ?_ (λ_ p q=>⟨_,_,p,q,?_⟩) _);have lq:=@QeS.eq_2;exact zr)|refine dq 9 1 hf [(0,[320],[]),(1,[],[320]),(2,[],[320]),(3,[320],[]),(4,[],[320]),(5,[],[320]),(7,[320],[])] ?_|refine dq 111 11 hf [(9,[1280],[])] ?_|refine dq 113 21 hf [(17,[],[9664]),(20,[9664],[])] ?_|refine dq 191 1 hf [(0,[320],[]),(1,[],[320]),(2,[],[320]),(3,[320],[]),(4,[],[320]),(5,[],[320]),(7,[320],[])] ?_)<;>exact zz)|fail):p:=h
def g21.g:(∀N(a0:Uj),O1 (Qcy N a0) 9 [c38 a0] (λr=>s52 r))/\(∀N(a0:Wi),O1 (Qaa N a0) 17 [c28 a0] (λr=>vb r))/\(∀N(a0:Wv)(a1:Int),O1 (QaH N a0 a1) 255 [Jw a0,vu a1] (λr=>.tup [Jw r.1,vu r.2.1,vi r.2.2]))/\(∀N(a0:Wq)(a1:List Int),O1 (Qde N a0 a1) 111 [c32 a0,s52 a1] (λr=>.tup [c32 r.1,vi r.2]))/\(∀N(a0:WP),O1 (Qep N a0) 113 [c42 a0] (λr=>vb r))/\(∀N(a0:WP),O1 (QgX N a0) 191 [c42 a0] (λr=>.fsl 52 1 (r.map e52)))/\(∀N(a0:Wq),O1 (Qfa N a0) 46 [c32 a0] (λr=>vb r))/\(∀N(a0:Ws),O1 (QdX N a0) 228 [c59 a0] (λr=>s3 r))/\(∀N(a0:WN)(a1:List Wo)(a2:Int)(a3:Int)(a4:Int),O1 (Qg4 N a0 a1 a2 a3 a4) 158 [c24 a0,Yn a1,vi a2,vi a3,vi a4] (λr=>.tup [Yn r.1,vi r.2])):=by refine⟨λN _=>rk f9 ?_,λN _=>rk f17 ?_,λN _ _=>rk f255 ?_,λN _ _=>rk f111 ?_,λN _=>rk f113 ?_,λN _=>rq f191 [320] ?_,λN _=>rk f46 ?_,λN _=>rk f228 ?_,λN _ _ _ _ _=>rk f158 ?_⟩<;>(simp only[f9,f17,f255,f111,f113,f191,f46,f228,f158,Option.get!,Qcy,Qaa,QaH,Qde,Qep,QgX,Qfa,QdX,Qg4];exact zh)
abbrev Qlb:=g21.g.1
abbrev Qlc:=g21.g.2.1
abbrev Qkg:=g21.g.2.2.1
abbrev Qm5:=g21.g.2.2.2.1
abbrev QlU:=g21.g.2.2.2.2.1
abbrev Qld:=g21.g.2.2.2.2.2.1
abbrev QlV:=g21.g.2.2.2.2.2.2.1
abbrev Qiu:=g21.g.2.2.2.2.2.2.2.1
abbrev Qm6:=g21.g.2.2.2.2.2.2.2.2
attribute [instance] Qlb Qlc Qkg Qm5 QlU Qld QlV Qiu Qm6
def Qha{C:Cx}{N:Nat}{a0:Wv}{a1:Int}{β:Type}{k:Int × Int × Int × List Wo × List Int → Option β}{r:β}{dst:Option Nat}{st:St}{K:St → Prop}{wb w1 w3:Nat}(hw:GW C.G)(hr:bnd (Qcu N a0 a1) k=some r)(p wp w4 w5:Nat)(hp:p=51840\/p=210816)(E0:st.s 51584=some (w1,.arr false 52 1 (a0.h.w.map e52) 0))(E1:st.s p=some (wp,.arr false 122 4 (a0.h.p.map YT) 0))(E2:st.s 52288=some (w3,.arr false 52 1 (a0.o.map e52) 0))(E3:st.s 52480=some (w4,.arr false 3 1 (a0.t.map e3) 0))(E4:st.s 52672=some (w5,.arr false 52 1 (a0.q.map e52) 0))(E5:st.s 51264=some (wb,.arr true 210 16 [[vi a0.h.c.W,vi a0.h.c.p,.osl 51584 w1 1 0 a0.h.w.length,.osl p wp 4 0 a0.h.p.length,vi a0.h.s,vi a0.h.b,.osl 52288 w3 1 0 a0.o.length,.osl 52480 w4 1 0 a0.t.length,.osl 52672 w5 1 0 a0.q.length,vi a0.d,vi a0.r.j,vi a0.r.K,vi a0.r.F,vi a0.r.E,vi a0.r.f,vi a0.r.y]] 0))(hK:∀y,k y=some r→∀s' kk,∀p wp w4 w5,(p=51840\/p=210816)→FwH s' wb w1 p wp w3 w4 w5 (Wv.mk (Wi.mk a0.h.c a0.h.w y.2.2.2.1 a0.h.s a0.h.b) a0.o y.2.2.2.2 a0.q a0.d a0.r)→K (nxS st (XH dst st.n) (.tup [vi y.1,vi y.2.1,vi y.2.2.1]) (Xj3 st.s s') st.n kk))(t:Prf ([.ept 51264 wb 16 0 0,vi a1]:List D)):CallX prog C 226 [.ept 51264 wb 16 0 0,vi a1] dst st K t:=by
 refine Xbm hr λy hr hk2=>?_;have E:=And.intro E0 (And.intro E1 (And.intro E2 (And.intro E3 (And.intro E4 E5))));clear E0 E1 E2 E3 E4 E5;have hse:=@Xha _ hw;rcases hp with rfl|rfl<;>(refine CallX.inl (f:=226) 3200 (fn:=f226) (rs:=[.tmp 4,.tmp 5,.tmp 6]) (nt:=116) 1000 ae (λx=>?_) _;simp only[f226,Option.get!];rw[Qcu]at hr;repeat' first
 |(refine El.el hr ?_;clear hr;intro hr)
 |(with_reducible intro h;refine Y8 hr h ?_;clear hr;intro hr)
 |with_reducible intro _
 |simp only[go_sem,simprocAttr,E,hl3,XT,hse]
 |(with_reducible first|apply XV|apply XU|apply YM|apply Y1|apply Y2)
 |((first|with_reducible refine Jx hr ah ?_ ?_|(with_reducible refine Jh hr ?_ ?_;rotate_left;intro p;rotate_right));(·simp only[go_sem,simprocAttr,hse]);intro hp hn hd hr;(try have hl3:=hd _ e3;simp only[go_sem,simprocAttr]at hl3);(try have XT:=hd _ YT;simp only[go_sem,simprocAttr]at XT))
 |(refine YN ?_ ?_;.first|assumption|omega)
 |(refine CallX.inl (f:=224) 2400 (fn:=f224) (rs:=[.tmp 2]) (nt:=9) 1000 ae (λx=>?_) _;simp only[f224,Option.get!])
 |(with_reducible first|refine CallX.c ?_ _|refine OK.c hr hw ?_ (λy hr=>?_) _|refine OK.d hr hw ?_ (λy hr=>?_) _)
 |refine dqi 3200 226 10 ⟨⟩ [(8,[51840,210816],[])] ?_
 |refine dp ?_
 |exact Xbn hr
 |exact Xav hr
 |(apply Xaw;assumption)
 |(refine Yv hr ?_;rintro rfl;(try simp only[go_sem,simprocAttr,E,hl3,XT,hse]);first|(apply Xct (K:=λs=>K (nxS _ _ _ s _ _)) (λp wp w4 w5 hp h=>hK _ hk2 _ _ p wp w4 w5 hp h) 51840 (hp:=.inl rfl);refine⟨?_,?_,?_,?_,?_,?_⟩;(iterate 6 (·exact zs));exact zl)|(apply Xct (K:=λs=>K (nxS _ _ _ s _ _)) (λp wp w4 w5 hp h=>hK _ hk2 _ _ p wp w4 w5 hp h) 210816 (hp:=.inr rfl);refine⟨?_,?_,?_,?_,?_,?_⟩;(iterate 6 (·exact zs));exact zl))
 |(with_reducible apply Xdg;(·simp only[go_sem,simprocAttr,E,hl3,XT,hse];repeat' first|rfl|refine⟨?_,?_⟩);(·simp only[ZQ,snap,go_sem,simprocAttr,E,hl3,XT,hse];repeat' first|rfl|refine⟨?_,?_⟩);(·simp only[go_sem,simprocAttr,E,hl3,XT,hse];first|done|omega|(simp;omega))))
def g20.sp{p:Prop}(h:p:=by first|((first|refine dq 265 2 hf [(12,[448],[])] ?_)<;>exact zz)|fail):p:=h
def g20.g:(∀N(a0:Wi)(a1:Int)(a2:Int),O1 (QgW N a0 a1 a2) 312 [c28 a0,vi a1,vi a2] (λr=>vu r))/\(∀N(a0:Wv)(a1:Int),O1 (QcD N a0 a1) 185 [Jw a0,vu a1] (λr=>vu r))/\(∀N(a0:WN)(a1:List Wo)(a2:Int)(a3:Int)(a4:Int),O1 (QdK N a0 a1 a2 a3 a4) 303 [c24 a0,Yn a1,vi a2,vi a3,vi a4] (λr=>.tup [Yn r.1,vi r.2]))/\(∀N(a0:Wq)(a1:Int)(a2:Int),O1 (QdQ N a0 a1 a2) 204 [c32 a0,vi a1,vi a2] (λr=>.tup [c32 r.1,vi r.2]))/\(∀N(a0:Wi)(a1:Int)(a2:Int),O1 (QbZ N a0 a1 a2) 265 [c28 a0,vu a1,vi a2] (λr=>c28 r))/\(∀N(a0:WP)(a1:Int),O1 (Qda N a0 a1) 126 [c42 a0,vu a1] (λr=>.tup [c42 r.1,vu r.2]))/\(∀N(a0:Wo)(a1:WN),O1 (QdF N a0 a1) 235 [XiZ a0,c24 a1] (λr=>vb r))/\(∀N a0 a1,OK (QeG N a0 a1) 106 [vu a0,.ept 1000000 0 1 0 0] [.arr true 25 1 [[s52 a1]] 0] (λr=>vb r) λr=>[.arr true 25 1 [[s52 a1]] 0])/\(∀N(a0:Wv)(a1:Int),O1 (QfV N a0 a1) 138 [XiY a0,vu a1] (λr=>vu r))/\(∀N(a0:WN)(a1:Ws),O1 (Qgx N a0 a1) 37 [c24 a0,c59 a1] (λr=>vb r)):=by refine⟨λN _ _ _=>rk f312 ?_,λN _ _=>rk f185 ?_,λN _ _ _ _ _=>rk f303 ?_,λN _ _ _=>rk f204 ?_,λN _ _ _=>rk f265 ?_,λN _ _=>rk f126 ?_,λN _ _=>rk f235 ?_,λN _ _=>rk f106 ?_,λN _ _=>rk f138 ?_,λN _ _=>rk f37 ?_⟩<;>(simp only[f312,f185,f303,f204,f265,f126,f235,f106,f138,f37,Option.get!,QgW,QcD,QdK,QdQ,QbZ,Qda,QdF,QeG,QfV,Qgx];exact zh)
abbrev Qm7:=g20.g.1
abbrev QlW:=g20.g.2.1
abbrev QlX:=g20.g.2.2.1
abbrev Qle:=g20.g.2.2.2.1
abbrev QlY:=g20.g.2.2.2.2.1
abbrev QlZ:=g20.g.2.2.2.2.2.1
abbrev Qh4:=g20.g.2.2.2.2.2.2.1
abbrev Qh5:=g20.g.2.2.2.2.2.2.2.1
abbrev Qkh:=g20.g.2.2.2.2.2.2.2.2.1
abbrev Qm8:=g20.g.2.2.2.2.2.2.2.2.2
attribute [instance] Qm7 QlW QlX Qle QlY QlZ Qh4 Qh5 Qkh Qm8
def g19:(∀N a0,OK (Qbj N a0) 18 [.ept 1000000 0 2 0 0] [.arr true 62 2 [[s3 a0.L,vi a0.at_]] 0] (λr=>c44 r.1) λr=>[.arr true 62 2 [[s3 r.2.L,vi r.2.at_]] 0])/\(∀N(a0:Wv)(a1:Int),O1 (Qdp N a0 a1) 259 [Jw a0,vu a1] (λr=>c59 r))/\(∀N(a0:WN)(a1:Ws),O1 (Qcl N a0 a1) 192 [c24 a0,c59 a1] (λr=>vb r))/\(∀N(a0:Uj)(a1:Int),O1 (QcG N a0 a1) 195 [c38 a0,vu a1] (λr=>.tup [c38 r.1,vu r.2.1,vi r.2.2]))/\(∀N(a0:Wq)(a1:Int),O1 (Qel N a0 a1) 130 [c32 a0,vi a1] (λr=>.tup [c32 r.1,vi r.2]))/\(∀N(a0:Wq)(a1:Int),O1 (Qc9 N a0 a1) 268 [c32 a0,vu a1] (λr=>vi r))/\(∀N(a0:WD),O1 (Qeu N a0) 47 [c35 a0] (λr=>vb r))/\(∀N a0 a1,OK (QgJ N a0 a1) 230 [.ept 1000000 0 6 0 0,.ept 1000001 0 1 0 0] [.arr true 28 6 [[vi a0.c.W,vi a0.c.p,s52 a0.w,Yn a0.p,vi a0.s,vi a0.b]] 0,.arr true 52 1 [[vu a1]] 0] (λr=>vu r) λr=>[.arr true 28 6 [[vi a0.c.W,vi a0.c.p,s52 a0.w,Yn a0.p,vi a0.s,vi a0.b]] 0,.arr true 52 1 [[vu a1]] 0])/\(∀N(a0:Int),O1 (Qb4 N a0) 272 [vu a0] (λr=>.tup [vu r.1,vi r.2]))/\(∀N(a0:Ws),O1 (QfW N a0) 159 [c59 a0] (λr=>.tup [vu r.1,vi r.2])):=by refine⟨λN _=>rk f18 ?_,λN _ _=>rk f259 ?_,λN _ _=>rk f192 ?_,λN _ _=>rk f195 ?_,λN _ _=>rk f130 ?_,λN _ _=>rk f268 ?_,λN _=>rk f47 ?_,λN _ _=>rk f230 ?_,λN _=>rk f272 ?_,λN _=>rk f159 ?_⟩<;>(simp only[f18,f259,f192,f195,f130,f268,f47,f230,f272,f159,Option.get!,Qbj,Qdp,Qcl,QcG,Qel,Qc9,Qeu,QgJ,Qb4,QfW];exact zh)
abbrev Qiv:=g19.1
abbrev QnP:=g19.2.1
abbrev Qm9:=g19.2.2.1
abbrev Ql0:=g19.2.2.2.1
abbrev Qna:=g19.2.2.2.2.1
abbrev Ql1:=g19.2.2.2.2.2.1
abbrev Ql2:=g19.2.2.2.2.2.2.1
abbrev Qki:=g19.2.2.2.2.2.2.2.1
abbrev Qji:=g19.2.2.2.2.2.2.2.2.1
abbrev Qkj:=g19.2.2.2.2.2.2.2.2.2
attribute [instance] Qiv QnP Qm9 Ql0 Qna Ql1 Ql2 Qki Qji Qkj
def g23.sp{p:Prop}(h:p:=by first|((first|(refine ci (f:=156) f156 400 (λx=>?_) _;simp only[f156,Option.get!])|refine dq 290 5 hf [(1,[],[384]),(2,[],[384]),(3,[],[384]),(4,[],[384]),(5,[],[384]),(6,[],[384]),(7,[],[384]),(8,[384],[])] ?_|refine dq 291 4 hf [(0,[],[1856]),(1,[],[1856]),(2,[],[1856]),(4,[1856],[]),(5,[],[1856]),(6,[],[1856]),(7,[1856],[]),(8,[1856],[])] ?_|refine dq 88 6 hf [(1,[],[256]),(2,[256],[]),(3,[320],[])] ?_|refine dq 88 15 hf [(1,[],[256]),(2,[],[256]),(3,[],[256]),(4,[256],[]),(5,[320],[])] ?_|refine dq 88 20 hf [(1,[],[256]),(2,[],[256]),(3,[],[256]),(4,[],[256,320]),(5,[256],[]),(6,[320],[])] ?_)<;>exact zz)|fail):p:=h
def g23.g:(∀N(a0:Wi)(a1:Int),O1 (Qao N a0 a1) 91 [c28 a0,vu a1] (λr=>.tup [c59 r.1,vi r.2]))/\(∀N(a0:Wi)(a1:Int)(a2:Int),O1 (QfC N a0 a1 a2) 310 [c28 a0,vi a1,vi a2] (λr=>vu r))/\(∀N(a0:Wi)(a1:Int)(a2:Int),O1 (Qes N a0 a1 a2) 290 [c28 a0,vi a1,vi a2] (λr=>.tup [c28 r.1,vu r.2.1,vb r.2.2]))/\(∀N(a0:Wi)(a1:Int)(a2:Ws),O1 (Qa1 N a0 a1 a2) 291 [c28 a0,vu a1,c59 a2] (λr=>.tup [c28 r.1,vi r.2]))/\(∀N(a0:WP)(a1:Int)(a2:Int)(a3:Int)(a4:Bool),O1 (QfP N a0 a1 a2 a3 a4) 208 [c42 a0,vi a1,vu a2,vu a3,vb a4] (λr=>vi r))/\(∀N(a0:WP)(a1:Int),O1 (QaI N a0 a1) 124 [c42 a0,vu a1] (λr=>.tup [vu r.1,vi r.2]))/\(∀N(a0:WP)(a1:Int),O1 (Qfq N a0 a1) 129 [c42 a0,vu a1] (λr=>c42 r))/\(∀N(a0:Wi)(a1:Int),O1 (QeB N a0 a1) 88 [c28 a0,vi a1] (λr=>.tup [c28 r.1,Xu2 r.2.1,vi r.2.2])):=by refine⟨λN _ _=>rk f91 ?_,λN _ _ _=>rk f310 ?_,λN _ _ _=>rk f290 ?_,λN _ _ _=>rk f291 ?_,λN _ _ _ _ _=>rk f208 ?_,λN _ _=>rk f124 ?_,λN _ _=>rk f129 ?_,λN _ _=>rk f88 ?_⟩<;>(simp only[f91,f310,f290,f291,f208,f124,f129,f88,Option.get!,Qao,QfC,Qes,Qa1,QfP,QaI,Qfq,QeB];exact zh)
abbrev Qn9:=g23.g.1
abbrev Qnb:=g23.g.2.1
abbrev Ql3:=g23.g.2.2.1
abbrev Qnc:=g23.g.2.2.2.1
abbrev Qkk:=g23.g.2.2.2.2.1
abbrev Qkl:=g23.g.2.2.2.2.2.1
abbrev Qlf:=g23.g.2.2.2.2.2.2.1
abbrev Qjj:=g23.g.2.2.2.2.2.2.2
attribute [instance] Qn9 Qnb Ql3 Qnc Qkk Qkl Qlf Qjj
end Go.Sx
