import Derived.Test.YtokkmapiallffaaGreatMG10
import Derived.Test.YtokkmapiallffaaGreatMG11
set_option linter.all false
namespace Go.Sx
open Go.Proofs Tryz
set_option maxRecDepth 10000
set_option maxHeartbeats 100000000
abbrev Qkr:=λN a Q n (st:St)=>∃J K L M z A B C F G H I l m o q u w,Iv (Qd9 N a n J K L M z A B C F G H I l m o q u w) Q ((∃k b c d g h j i,st.n=40/\r52 st 2176 k w/\r52 st 51584 b l/\VN st 51840 c m/\r52 st 52288 d o/\r3 st 52480 g q/\r52 st 52672 h u/\pt st 4 256 j 16/\pt st 7 51264 i 16/\ol st 8 2176 k 1 w.length/\st.t 15=s52 a/\st.t 16=vi a.length/\st.t 17=vi J/\bx st 256 j 142 16 [vi 0,vi 0,.nsl,.nsl,vi 0,vi 0,.nsl,.nsl,.nsl,vi 0,vi 0,vi 0,vi 0,vi 0,vi 0,vi 0]/\bx st 51264 i 210 16 [vi K,vi L,.osl 51584 b 1 0 l.length,.osl 51840 c 4 0 m.length,vi M,vi z,.osl 52288 d 1 0 o.length,.osl 52480 g 1 0 q.length,.osl 52672 h 1 0 u.length,vi A,vi B,vi C,vi F,vi G,vi H,vi I])\/(∃b c d g h j i,(st.n=40/\r52 st 51584 b l/\VN st 51840 c m/\r52 st 52288 d o/\r3 st 52480 g q/\r52 st 52672 h u/\pt st 4 256 j 16/\pt st 7 51264 i 16/\st.t 8=.nsl/\st.t 15=s52 a/\st.t 16=vi a.length/\st.t 17=vi J/\bx st 256 j 142 16 [vi 0,vi 0,.nsl,.nsl,vi 0,vi 0,.nsl,.nsl,.nsl,vi 0,vi 0,vi 0,vi 0,vi 0,vi 0,vi 0]/\bx st 51264 i 210 16 [vi K,vi L,.osl 51584 b 1 0 l.length,.osl 51840 c 4 0 m.length,vi M,vi z,.osl 52288 d 1 0 o.length,.osl 52480 g 1 0 q.length,.osl 52672 h 1 0 u.length,vi A,vi B,vi C,vi F,vi G,vi H,vi I])/\w=[])\/(∃k b d g h c j i,st.n=40/\r52 st 2176 k w/\r52 st 51584 b l/\r52 st 52288 d o/\r3 st 52480 g q/\r52 st 52672 h u/\VN st 210816 c m/\pt st 4 256 j 16/\pt st 7 51264 i 16/\ol st 8 2176 k 1 w.length/\st.t 15=s52 a/\st.t 16=vi a.length/\st.t 17=vi J/\bx st 256 j 142 16 [vi 0,vi 0,.nsl,.nsl,vi 0,vi 0,.nsl,.nsl,.nsl,vi 0,vi 0,vi 0,vi 0,vi 0,vi 0,vi 0]/\bx st 51264 i 210 16 [vi K,vi L,.osl 51584 b 1 0 l.length,.osl 210816 c 4 0 m.length,vi M,vi z,.osl 52288 d 1 0 o.length,.osl 52480 g 1 0 q.length,.osl 52672 h 1 0 u.length,vi A,vi B,vi C,vi F,vi G,vi H,vi I])\/(∃b d g h c j i,(st.n=40/\r52 st 51584 b l/\r52 st 52288 d o/\r3 st 52480 g q/\r52 st 52672 h u/\VN st 210816 c m/\pt st 4 256 j 16/\pt st 7 51264 i 16/\st.t 8=.nsl/\st.t 15=s52 a/\st.t 16=vi a.length/\st.t 17=vi J/\bx st 256 j 142 16 [vi 0,vi 0,.nsl,.nsl,vi 0,vi 0,.nsl,.nsl,.nsl,vi 0,vi 0,vi 0,vi 0,vi 0,vi 0,vi 0]/\bx st 51264 i 210 16 [vi K,vi L,.osl 51584 b 1 0 l.length,.osl 210816 c 4 0 m.length,vi M,vi z,.osl 52288 d 1 0 o.length,.osl 52480 g 1 0 q.length,.osl 52672 h 1 0 u.length,vi A,vi B,vi C,vi F,vi G,vi H,vi I])/\w=[]))
abbrev Ql5:=λN u f a e (q:Nat) (i:Nat) Q n (st:St)=>∃w z A B C F G H I J K L j k l m o,Iv (Qfd N u f a e n w z A B C F G H I J K L j k l m o) Q ((∃b c d g h,st.n=116/\r52 st 51584 b j/\VN st 51840 c k/\r52 st 52288 d l/\r3 st 52480 g m/\r52 st 52672 h o/\pt st 0 51264 i 16/\st.t 5=.osl 51584 b 1 (wI ((wI (a.1 * u)) + a.2.1)).toNat ((wI ((wI ((wI (a.1 * u)) + a.2.1)) + f)).toNat - (wI ((wI (a.1 * u)) + a.2.1)).toNat)/\st.t 9=s3 e/\st.t 72=s3 e/\st.t 73=vi e.length/\st.t 74=vi w/\bx st 128 q 142 16 [vi 0,vi 0,.nsl,.nsl,vi 0,vi 0,.nsl,.nsl,.nsl,vi 0,vi 0,vi 0,vi 0,vi 0,vi 0,vi 0]/\bx st 51264 i 210 16 [vi z,vi A,.osl 51584 b 1 0 j.length,.osl 51840 c 4 0 k.length,vi B,vi C,.osl 52288 d 1 0 l.length,.osl 52480 g 1 0 m.length,.osl 52672 h 1 0 o.length,vi F,vi G,vi H,vi I,vi J,vi K,vi L])\/(∃b d g h c,st.n=116/\r52 st 51584 b j/\r52 st 52288 d l/\r3 st 52480 g m/\r52 st 52672 h o/\VN st 210816 c k/\pt st 0 51264 i 16/\st.t 5=.osl 51584 b 1 (wI ((wI (a.1 * u)) + a.2.1)).toNat ((wI ((wI ((wI (a.1 * u)) + a.2.1)) + f)).toNat - (wI ((wI (a.1 * u)) + a.2.1)).toNat)/\st.t 9=s3 e/\st.t 72=s3 e/\st.t 73=vi e.length/\st.t 74=vi w/\bx st 128 q 142 16 [vi 0,vi 0,.nsl,.nsl,vi 0,vi 0,.nsl,.nsl,.nsl,vi 0,vi 0,vi 0,vi 0,vi 0,vi 0,vi 0]/\bx st 51264 i 210 16 [vi z,vi A,.osl 51584 b 1 0 j.length,.osl 210816 c 4 0 k.length,vi B,vi C,.osl 52288 d 1 0 l.length,.osl 52480 g 1 0 m.length,.osl 52672 h 1 0 o.length,vi F,vi G,vi H,vi I,vi J,vi K,vi L]))
abbrev Ql6:=λN Q n (st:St)=>∃G H I J u w z A B C F k l m o q,Iv (Qfe N n G H I J u w z A B C F k l m o q) Q ((∃c d g h i j b,st.n=26/\r52 st 51584 c k/\VN st 51840 d l/\r52 st 52288 g m/\r3 st 52480 h o/\r52 st 52672 i q/\pt st 2 128 j 16/\pt st 4 51264 b 16/\st.t 5=.clo (.func 137) [.ept 51264 b 16 0 0] []/\bx st 128 j 142 16 [vi 0,vi 0,.nsl,.nsl,vi 0,vi 0,.nsl,.nsl,.nsl,vi 0,vi 0,vi 0,vi 0,vi 0,vi 0,vi 0]/\bx st 51264 b 210 16 [vi G,vi H,.osl 51584 c 1 0 k.length,.osl 51840 d 4 0 l.length,vi I,vi J,.osl 52288 g 1 0 m.length,.osl 52480 h 1 0 o.length,.osl 52672 i 1 0 q.length,vi u,vi w,vi z,vi A,vi B,vi C,vi F])\/(∃c g h i d j b,st.n=26/\r52 st 51584 c k/\r52 st 52288 g m/\r3 st 52480 h o/\r52 st 52672 i q/\VN st 210816 d l/\pt st 2 128 j 16/\pt st 4 51264 b 16/\st.t 5=.clo (.func 137) [.ept 51264 b 16 0 0] []/\bx st 128 j 142 16 [vi 0,vi 0,.nsl,.nsl,vi 0,vi 0,.nsl,.nsl,.nsl,vi 0,vi 0,vi 0,vi 0,vi 0,vi 0,vi 0]/\bx st 51264 b 210 16 [vi G,vi H,.osl 51584 c 1 0 k.length,.osl 210816 d 4 0 l.length,vi I,vi J,.osl 52288 g 1 0 m.length,.osl 52480 h 1 0 o.length,.osl 52672 i 1 0 q.length,vi u,vi w,vi z,vi A,vi B,vi C,vi F]))
def g28:(∀N(a0:Wv)(a1:List Int),O1 (QfK N a0 a1) 66 [XiY a0,s52 a1] (λr=>.tup [XiY r.1,s52 r.2.1,vi r.2.2]))/\(∀N(a0:Wv),O1 (Qgh N a0) 67 [XiY a0] (λr=>.tup [XiY r.1,vi r.2])):=by
 refine⟨λN _ _=>rk f66 ?_,λN _=>rk f67 ?_⟩<;>(rintro _ hw r hr C _ rfl hwf hf;have hse:=@Xha _ hw;simp only[f66,f67,Option.get!,QfK,Qgh]at hr⊢;repeat' first
 |(refine El.el hr ?_;clear hr;intro hr)
 |(with_reducible intro h;refine Y8 hr h ?_;clear hr;intro hr)
 |with_reducible intro _
 |(refine Yv hr ?_;rintro rfl;have hr:=hk;clear hk)
 |simp only[go_sem,simprocAttr,E,Fq,hl3,Z2,hm3,KS,hse,EF,Yy,Wu,WC,UM]
 |((first|((with_reducible apply QgI (hr:=hr) (p:=51840) (hp:=.inl rfl));(·exact hw);iterate 6 (·exact zq))|((with_reducible apply QgI (hr:=hr) (p:=210816) (hp:=.inr rfl));(·exact hw);iterate 6 (·exact zq)));intro y hr s2 k2 p w w4 w5 hp EF;(try dsimp only at EF);rcases hp with rfl|rfl)
 |(with_reducible first|apply XV|apply XU|apply YM|apply Y1|apply Y2)
 |((first|with_reducible refine Jx hr ah ?_ ?_|(with_reducible refine Jh hr ?_ ?_;rotate_left;intro p;rotate_right));(·simp only[go_sem,simprocAttr,hse,EF,Yy,Wu,WC,UM]);intro hp hn hd hr;(try have hl3:=hd _ e3;simp only[go_sem,simprocAttr]at hl3);(try have Z2:=hd _ e52;simp only[go_sem,simprocAttr]at Z2))
 |(refine YN ?_ ?_;.first|assumption|omega|(dsimp only at *;omega))
 |((with_reducible first|refine Xlo hr ah ?_|refine Xpo hr ah ?_);intro hp hn hd hr;(try simp only[WK,Wu,WC]at hn);(try have hm3:=hd _ e3;simp only[go_sem,simprocAttr]at hm3);(try have KS:=hd _ e52;simp only[go_sem,simprocAttr]at KS))
 |((with_reducible first|refine Xhd hr ?_|refine XmE hr ?_);intro p hp hn hd hr;(try simp only[WK,Wu,WC]at hn);(try have hm3:=hd _ e3;simp only[go_sem,simprocAttr]at hm3);(try have KS:=hd _ e52;simp only[go_sem,simprocAttr]at KS))
 |(with_reducible refine XmD hr ?_ ?_;(·simp only[go_sem]);intro p hp hn hd hr;(try have hl3:=hd _ e3;simp only[go_sem,simprocAttr]at hl3);(try have Z2:=hd _ e52;simp only[go_sem,simprocAttr]at Z2))
 |(refine CallX.inl (f:=135) 800 (fn:=f135) (rs:=[.tmp 2]) (nt:=27) 1000 ae (λx=>?_) _;simp only[f135,Option.get!])
 |(refine CallX.inl (f:=137) 2000 (fn:=f137) (rs:=[.tmp 2,.tmp 3]) (nt:=116) 1000 ae (λx=>?_) _;simp only[f137,Option.get!])
 |(refine CallX.inl (f:=220) 3600 (fn:=f220) (rs:=[.tmp 6,.tmp 7]) (nt:=57) 1000 ae (λx=>?_) _;simp only[f220,Option.get!])
 |(with_reducible first|refine CallX.c ?_ _|refine OK.c hr hw ?_ (λy hr=>?_) _|refine OK.d hr hw ?_ (λy hr=>?_) _)
 |(with_reducible refine lp (Qkr N _) hr N ?_ (λ_ p q=>⟨_,_,_,_,_,_,_,_,_,_,_,_,_,_,_,_,_,_,_,p,q,?_⟩) _;clear hr;(try clear E);(try clear Fq);rintro n1 st ⟨_,_,_,_,_,_,_,_,_,_,_,_,_,_,_,_,_,_,_,hr,hk,(⟨_,_,_,_,_,_,_,_,E⟩|⟨_,_,_,_,_,_,_,E,z0⟩|⟨_,_,_,_,_,_,_,_,E⟩|⟨_,_,_,_,_,_,_,E,z0⟩)⟩<;>(try subst z0)<;>(obtain _|n1:=n1<;>rw[Qd9]at hr))
 |refine⟨_,UP _,_,_,_,_,_,_,_,_,_,_,_,_,_,_,_,_,_,_,_,hr,hk,?_⟩
 |((refine LoopG.v (id:=128) (v:=?_) ?_ ?_ _;rotate_left;.first|rfl|(simp only[go_sem,simprocAttr,E,Fq,EF,Yy];rfl));intro w128 h128;(refine LoopG.v (id:=51264) (v:=?_) ?_ ?_ _;rotate_left;.first|rfl|(simp only[go_sem,simprocAttr,E,Fq,EF,Yy];rfl));intro w51264 h51264;with_reducible refine lp (Ql5 N _ _ _ _ w128 w51264) hr N ?_ (λ_ p q=>⟨_,_,_,_,_,_,_,_,_,_,_,_,_,_,_,_,_,_,p,q,?_⟩) _;(all_goals (subst h128;subst h51264));clear hr;(try clear Fq);rintro n1 st ⟨_,_,_,_,_,_,_,_,_,_,_,_,_,_,_,_,_,_,hr,hk,(⟨_,_,_,_,_,Fq⟩|⟨_,_,_,_,_,Fq⟩)⟩<;>(obtain _|n1:=n1<;>rw[Qfd]at hr))
 |refine⟨_,UP _,_,_,_,_,_,_,_,_,_,_,_,_,_,_,_,_,_,_,hr,hk,?_⟩
 |(with_reducible refine lp (Ql6 N) hr N ?_ (λ_ p q=>⟨_,_,_,_,_,_,_,_,_,_,_,_,_,_,_,_,_,p,q,?_⟩) _;clear hr;(try clear E);(try clear Fq);rintro n2 st ⟨_,_,_,_,_,_,_,_,_,_,_,_,_,_,_,_,_,hr,hk,(⟨_,_,_,_,_,_,_,E⟩|⟨_,_,_,_,_,_,_,E⟩)⟩<;>(obtain _|n2:=n2<;>rw[Qfe]at hr))
 |refine⟨_,UP _,_,_,_,_,_,_,_,_,_,_,_,_,_,_,_,_,_,hr,hk,?_⟩
 |refine dqi 800 135 1 ⟨⟩ [(3,[51584],[]),(4,[],[51584]),(5,[],[51584]),(6,[],[51584]),(7,[51840,210816],[]),(10,[51264],[]),(13,[51264],[])] ?_
 |refine dqi 800 135 2 ⟨⟩ [(2,[52288],[]),(3,[],[52288]),(4,[],[52288]),(5,[52480],[]),(6,[],[52288,52480]),(7,[],[52288,52480]),(8,[52672],[]),(10,[51264],[]),(12,[51264],[]),(14,[51264],[])] ?_
 |refine dp ?_
 |(refine Yv hr ?_;rintro rfl;with_reducible refine ZS ?_)
 |exact Xbn hr
 |exact Xav hr
 |(apply Xaw;assumption)
 |((first|refine Y8 (c:=true) hr rfl ?_|refine Y8 (c:=false) hr rfl ?_|refine Y8 hr ah ?_);intro hr))
abbrev Qnh:=g28.1
abbrev Qoa:=g28.2
attribute [instance] Qnh Qoa
def g26.sp{p:Prop}(h:p:=by first|((first|refine dq 23 1 hf [(10,[832],[]),(11,[832],[])] ?_)<;>exact zz)|fail):p:=h
def g26.g:(∀N(a0:Wi)(a1:Int),O1 (QbM N a0 a1) 41 [c28 a0,vu a1] (λr=>.tup [c59 r.1,vi r.2]))/\(∀N(a0:Wi)(a1:Ws),O1 (Qbm N a0 a1) 261 [c28 a0,c59 a1] (λr=>.tup [c28 r.1,vu r.2.1,vi r.2.2]))/\(∀N(a0:WP)(a1:Int),O1 (Qet N a0 a1) 269 [c42 a0,vu a1] (λr=>.tup [vu r.1,vi r.2]))/\(∀N(a0:WP)(a1:Int)(a2:Int),O1 (QfQ N a0 a1 a2) 210 [c42 a0,vi a1,vu a2] (λr=>vi r))/\(∀N(a0:WP)(a1:Int)(a2:Int),O1 (Qge N a0 a1 a2) 212 [c42 a0,vi a1,vu a2] (λr=>vi r))/\(∀N(a0:Uj),O1 (Qgq N a0) 23 [c38 a0] (λr=>s52 r))/\(∀N a0 c0,OK (Qa0 N a0 c0) 105 [s52 a0,.clo (.func 106) [] [.ept 1000000 0 1 0 0]] [.arr true 25 1 [[s52 c0]] 0] (λr=>vb r) λr=>[.arr true 25 1 [[s52 c0]] 0]):=by refine⟨λN _ _=>rk f41 ?_,λN _ _=>rk f261 ?_,λN _ _=>rk f269 ?_,λN _ _ _=>rk f210 ?_,λN _ _ _=>rk f212 ?_,λN _=>rk f23 ?_,λN _ _=>rk f105 ?_⟩<;>(simp only[f41,f261,f269,f210,f212,f23,f105,Option.get!,QbM,Qbm,Qet,QfQ,Qge,Qgq,Qa0];exact zh)
abbrev QnQ:=g26.g.1
abbrev QnR:=g26.g.2.1
abbrev Ql7:=g26.g.2.2.1
abbrev Qks:=g26.g.2.2.2.1
abbrev Qlh:=g26.g.2.2.2.2.1
abbrev Qni:=g26.g.2.2.2.2.2.1
abbrev Qfk:=g26.g.2.2.2.2.2.2
attribute [instance] QnQ QnR Ql7 Qks Qlh Qni Qfk
end Go.Sx
