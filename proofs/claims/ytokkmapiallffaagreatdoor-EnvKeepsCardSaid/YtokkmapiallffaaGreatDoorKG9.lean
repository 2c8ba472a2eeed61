import Derived.Test.YtokkmapiallffaaGreatDoorKG7
import Derived.Test.YtokkmapiallffaaGreatDoorKG8
set_option linter.all false
namespace Go.Sx
open Go.Proofs Tryz
set_option maxRecDepth 10000
set_option maxHeartbeats 100000000
abbrev Qky:=λN a Q n (st:St)=>∃J K L M z A B C F G H I l m o q u w,Iv (Qd6 N a n J K L M z A B C F G H I l m o q u w) Q ((∃k b c d g h j i,st.n=40/\r59 st 2176 k w/\r59 st 51584 b l/\VM st 51840 c m/\r59 st 52288 d o/\r3 st 52480 g q/\r59 st 52672 h u/\pt st 4 256 j 16/\pt st 7 51264 i 16/\ol st 8 2176 k 1 w.length/\st.t 15=s59 a/\st.t 16=vi a.length/\st.t 17=vi J/\bx st 256 j 135 16 [vi 0,vi 0,.nsl,.nsl,vi 0,vi 0,.nsl,.nsl,.nsl,vi 0,vi 0,vi 0,vi 0,vi 0,vi 0,vi 0]/\bx st 51264 i 209 16 [vi K,vi L,.osl 51584 b 1 0 l.length,.osl 51840 c 4 0 m.length,vi M,vi z,.osl 52288 d 1 0 o.length,.osl 52480 g 1 0 q.length,.osl 52672 h 1 0 u.length,vi A,vi B,vi C,vi F,vi G,vi H,vi I])\/(∃b c d g h j i,(st.n=40/\r59 st 51584 b l/\VM st 51840 c m/\r59 st 52288 d o/\r3 st 52480 g q/\r59 st 52672 h u/\pt st 4 256 j 16/\pt st 7 51264 i 16/\st.t 8=.nsl/\st.t 15=s59 a/\st.t 16=vi a.length/\st.t 17=vi J/\bx st 256 j 135 16 [vi 0,vi 0,.nsl,.nsl,vi 0,vi 0,.nsl,.nsl,.nsl,vi 0,vi 0,vi 0,vi 0,vi 0,vi 0,vi 0]/\bx st 51264 i 209 16 [vi K,vi L,.osl 51584 b 1 0 l.length,.osl 51840 c 4 0 m.length,vi M,vi z,.osl 52288 d 1 0 o.length,.osl 52480 g 1 0 q.length,.osl 52672 h 1 0 u.length,vi A,vi B,vi C,vi F,vi G,vi H,vi I])/\w=[])\/(∃k b d g h c j i,st.n=40/\r59 st 2176 k w/\r59 st 51584 b l/\r59 st 52288 d o/\r3 st 52480 g q/\r59 st 52672 h u/\VM st 210816 c m/\pt st 4 256 j 16/\pt st 7 51264 i 16/\ol st 8 2176 k 1 w.length/\st.t 15=s59 a/\st.t 16=vi a.length/\st.t 17=vi J/\bx st 256 j 135 16 [vi 0,vi 0,.nsl,.nsl,vi 0,vi 0,.nsl,.nsl,.nsl,vi 0,vi 0,vi 0,vi 0,vi 0,vi 0,vi 0]/\bx st 51264 i 209 16 [vi K,vi L,.osl 51584 b 1 0 l.length,.osl 210816 c 4 0 m.length,vi M,vi z,.osl 52288 d 1 0 o.length,.osl 52480 g 1 0 q.length,.osl 52672 h 1 0 u.length,vi A,vi B,vi C,vi F,vi G,vi H,vi I])\/(∃b d g h c j i,(st.n=40/\r59 st 51584 b l/\r59 st 52288 d o/\r3 st 52480 g q/\r59 st 52672 h u/\VM st 210816 c m/\pt st 4 256 j 16/\pt st 7 51264 i 16/\st.t 8=.nsl/\st.t 15=s59 a/\st.t 16=vi a.length/\st.t 17=vi J/\bx st 256 j 135 16 [vi 0,vi 0,.nsl,.nsl,vi 0,vi 0,.nsl,.nsl,.nsl,vi 0,vi 0,vi 0,vi 0,vi 0,vi 0,vi 0]/\bx st 51264 i 209 16 [vi K,vi L,.osl 51584 b 1 0 l.length,.osl 210816 c 4 0 m.length,vi M,vi z,.osl 52288 d 1 0 o.length,.osl 52480 g 1 0 q.length,.osl 52672 h 1 0 u.length,vi A,vi B,vi C,vi F,vi G,vi H,vi I])/\w=[]))
abbrev Qmf:=λN u f a e (q:Nat) (i:Nat) Q n (st:St)=>∃w z A B C F G H I J K L j k l m o,Iv (Qe9 N u f a e n w z A B C F G H I J K L j k l m o) Q ((∃b c d g h,st.n=116/\r59 st 51584 b j/\VM st 51840 c k/\r59 st 52288 d l/\r3 st 52480 g m/\r59 st 52672 h o/\pt st 0 51264 i 16/\st.t 5=.osl 51584 b 1 (wI ((wI (a.1 * u)) + a.2.1)).toNat ((wI ((wI ((wI (a.1 * u)) + a.2.1)) + f)).toNat - (wI ((wI (a.1 * u)) + a.2.1)).toNat)/\st.t 9=s3 e/\st.t 72=s3 e/\st.t 73=vi e.length/\st.t 74=vi w/\bx st 128 q 135 16 [vi 0,vi 0,.nsl,.nsl,vi 0,vi 0,.nsl,.nsl,.nsl,vi 0,vi 0,vi 0,vi 0,vi 0,vi 0,vi 0]/\bx st 51264 i 209 16 [vi z,vi A,.osl 51584 b 1 0 j.length,.osl 51840 c 4 0 k.length,vi B,vi C,.osl 52288 d 1 0 l.length,.osl 52480 g 1 0 m.length,.osl 52672 h 1 0 o.length,vi F,vi G,vi H,vi I,vi J,vi K,vi L])\/(∃b d g h c,st.n=116/\r59 st 51584 b j/\r59 st 52288 d l/\r3 st 52480 g m/\r59 st 52672 h o/\VM st 210816 c k/\pt st 0 51264 i 16/\st.t 5=.osl 51584 b 1 (wI ((wI (a.1 * u)) + a.2.1)).toNat ((wI ((wI ((wI (a.1 * u)) + a.2.1)) + f)).toNat - (wI ((wI (a.1 * u)) + a.2.1)).toNat)/\st.t 9=s3 e/\st.t 72=s3 e/\st.t 73=vi e.length/\st.t 74=vi w/\bx st 128 q 135 16 [vi 0,vi 0,.nsl,.nsl,vi 0,vi 0,.nsl,.nsl,.nsl,vi 0,vi 0,vi 0,vi 0,vi 0,vi 0,vi 0]/\bx st 51264 i 209 16 [vi z,vi A,.osl 51584 b 1 0 j.length,.osl 210816 c 4 0 k.length,vi B,vi C,.osl 52288 d 1 0 l.length,.osl 52480 g 1 0 m.length,.osl 52672 h 1 0 o.length,vi F,vi G,vi H,vi I,vi J,vi K,vi L]))
abbrev Qmg:=λN Q n (st:St)=>∃G H I J u w z A B C F k l m o q,Iv (Qfa N n G H I J u w z A B C F k l m o q) Q ((∃c d g h i j b,st.n=26/\r59 st 51584 c k/\VM st 51840 d l/\r59 st 52288 g m/\r3 st 52480 h o/\r59 st 52672 i q/\pt st 2 128 j 16/\pt st 4 51264 b 16/\st.t 5=.clo (.func 132) [.ept 51264 b 16 0 0] []/\bx st 128 j 135 16 [vi 0,vi 0,.nsl,.nsl,vi 0,vi 0,.nsl,.nsl,.nsl,vi 0,vi 0,vi 0,vi 0,vi 0,vi 0,vi 0]/\bx st 51264 b 209 16 [vi G,vi H,.osl 51584 c 1 0 k.length,.osl 51840 d 4 0 l.length,vi I,vi J,.osl 52288 g 1 0 m.length,.osl 52480 h 1 0 o.length,.osl 52672 i 1 0 q.length,vi u,vi w,vi z,vi A,vi B,vi C,vi F])\/(∃c g h i d j b,st.n=26/\r59 st 51584 c k/\r59 st 52288 g m/\r3 st 52480 h o/\r59 st 52672 i q/\VM st 210816 d l/\pt st 2 128 j 16/\pt st 4 51264 b 16/\st.t 5=.clo (.func 132) [.ept 51264 b 16 0 0] []/\bx st 128 j 135 16 [vi 0,vi 0,.nsl,.nsl,vi 0,vi 0,.nsl,.nsl,.nsl,vi 0,vi 0,vi 0,vi 0,vi 0,vi 0,vi 0]/\bx st 51264 b 209 16 [vi G,vi H,.osl 51584 c 1 0 k.length,.osl 210816 d 4 0 l.length,vi I,vi J,.osl 52288 g 1 0 m.length,.osl 52480 h 1 0 o.length,.osl 52672 i 1 0 q.length,vi u,vi w,vi z,vi A,vi B,vi C,vi F]))
def g31:(∀N(a0:Wu)(a1:List Int),O1 (QfD N a0 a1) 59 [XiC a0,s59 a1] (λr=>.tup [XiC r.1,s59 r.2.1,vi r.2.2]))/\(∀N(a0:Wu),O1 (Qgd N a0) 60 [XiC a0] (λr=>.tup [XiC r.1,vi r.2])):=by
 refine⟨λN _ _=>rk f59 ?_,λN _=>rk f60 ?_⟩<;>(rintro _ hw r hr C _ rfl hwf hf;have hse:=@XgM _ hw;simp only[f59,f60,Option.get!,QfD,Qgd]at hr⊢;repeat' first
 |(refine El.el hr ?_;clear hr;intro hr)
 |(with_reducible intro h;refine Y5 hr h ?_;clear hr;intro hr)
 |with_reducible intro _
 |(refine Yq hr ?_;rintro rfl;have hr:=hk;clear hk)
 |simp only[go_sem,simprocAttr,E,Fq,hl3,Zq,hm3,KN,hse,EF,YB,Ws,WA,UF]
 |((first|((with_reducible apply QgC (hr:=hr) (p:=51840) (hp:=.inl rfl));(·exact hw);iterate 6 (·exact zq))|((with_reducible apply QgC (hr:=hr) (p:=210816) (hp:=.inr rfl));(·exact hw);iterate 6 (·exact zq)));intro y hr s2 k2 p w w4 w5 hp EF;(try dsimp only at EF);rcases hp with rfl|rfl)
 |(with_reducible first|apply XP|apply XO|apply YF|apply YN|apply YO)
 |((first|with_reducible refine Jh hr ah ?_ ?_|(with_reducible refine KO hr ?_ ?_;rotate_left;intro p;rotate_right));(·simp only[go_sem,simprocAttr,hse,EF,YB,Ws,WA,UF]);intro hp hn hd hr;(try have hl3:=hd _ e3;simp only[go_sem,simprocAttr]at hl3);(try have Zq:=hd _ e59;simp only[go_sem,simprocAttr]at Zq))
 |(refine YG ?_ ?_;.first|assumption|omega|(dsimp only at *;omega))
 |((with_reducible first|refine Xk2 hr ah ?_|refine Xpe hr ah ?_);intro hp hn hd hr;(try simp only[WK,Ws,WA]at hn);(try have hm3:=hd _ e3;simp only[go_sem,simprocAttr]at hm3);(try have KN:=hd _ e59;simp only[go_sem,simprocAttr]at KN))
 |((with_reducible first|refine XgP hr ?_|refine Xml hr ?_);intro p hp hn hd hr;(try simp only[WK,Ws,WA]at hn);(try have hm3:=hd _ e3;simp only[go_sem,simprocAttr]at hm3);(try have KN:=hd _ e59;simp only[go_sem,simprocAttr]at KN))
 |(with_reducible refine XjI hr ?_ ?_;(·simp only[go_sem]);intro p hp hn hd hr;(try have hl3:=hd _ e3;simp only[go_sem,simprocAttr]at hl3);(try have Zq:=hd _ e59;simp only[go_sem,simprocAttr]at Zq))
 |(refine CallX.inl (f:=130) 800 (fn:=f130) (rs:=[.tmp 2]) (nt:=27) 1000 ae (λx=>?_) _;simp only[f130,Option.get!])
 |(refine CallX.inl (f:=132) 2000 (fn:=f132) (rs:=[.tmp 2,.tmp 3]) (nt:=116) 1000 ae (λx=>?_) _;simp only[f132,Option.get!])
 |(refine CallX.inl (f:=217) 3600 (fn:=f217) (rs:=[.tmp 6,.tmp 7]) (nt:=57) 1000 ae (λx=>?_) _;simp only[f217,Option.get!])
 |(with_reducible first|refine CallX.c ?_ _|refine OK.c hr hw ?_ (λy hr=>?_) _|refine OK.d hr hw ?_ (λy hr=>?_) _)
 |(with_reducible refine lp (Qky N _) hr N ?_ (λ_ p q=>⟨_,_,_,_,_,_,_,_,_,_,_,_,_,_,_,_,_,_,_,p,q,?_⟩) _;clear hr;(try clear E);(try clear Fq);rintro n1 st ⟨_,_,_,_,_,_,_,_,_,_,_,_,_,_,_,_,_,_,_,hr,hk,(⟨_,_,_,_,_,_,_,_,E⟩|⟨_,_,_,_,_,_,_,E,z0⟩|⟨_,_,_,_,_,_,_,_,E⟩|⟨_,_,_,_,_,_,_,E,z0⟩)⟩<;>(try subst z0)<;>(obtain _|n1:=n1<;>rw[Qd6]at hr))
 |refine⟨_,UQ _,_,_,_,_,_,_,_,_,_,_,_,_,_,_,_,_,_,_,_,hr,hk,?_⟩
 |((refine LoopG.v (id:=128) (v:=?_) ?_ ?_ _;rotate_left;.first|rfl|(simp only[go_sem,simprocAttr,E,Fq,EF,YB];rfl));intro w128 h128;(refine LoopG.v (id:=51264) (v:=?_) ?_ ?_ _;rotate_left;.first|rfl|(simp only[go_sem,simprocAttr,E,Fq,EF,YB];rfl));intro w51264 h51264;with_reducible refine lp (Qmf N _ _ _ _ w128 w51264) hr N ?_ (λ_ p q=>⟨_,_,_,_,_,_,_,_,_,_,_,_,_,_,_,_,_,_,p,q,?_⟩) _;(all_goals (subst h128;subst h51264));clear hr;(try clear Fq);rintro n1 st ⟨_,_,_,_,_,_,_,_,_,_,_,_,_,_,_,_,_,_,hr,hk,(⟨_,_,_,_,_,Fq⟩|⟨_,_,_,_,_,Fq⟩)⟩<;>(obtain _|n1:=n1<;>rw[Qe9]at hr))
 |refine⟨_,UQ _,_,_,_,_,_,_,_,_,_,_,_,_,_,_,_,_,_,_,hr,hk,?_⟩
 |(with_reducible refine lp (Qmg N) hr N ?_ (λ_ p q=>⟨_,_,_,_,_,_,_,_,_,_,_,_,_,_,_,_,_,p,q,?_⟩) _;clear hr;(try clear E);(try clear Fq);rintro n2 st ⟨_,_,_,_,_,_,_,_,_,_,_,_,_,_,_,_,_,hr,hk,(⟨_,_,_,_,_,_,_,E⟩|⟨_,_,_,_,_,_,_,E⟩)⟩<;>(obtain _|n2:=n2<;>rw[Qfa]at hr))
 |refine⟨_,UQ _,_,_,_,_,_,_,_,_,_,_,_,_,_,_,_,_,_,hr,hk,?_⟩
 |refine dqi 800 130 1 ⟨⟩ [(3,[51584],[]),(4,[],[51584]),(5,[],[51584]),(6,[],[51584]),(7,[51840,210816],[]),(10,[51264],[]),(13,[51264],[])] ?_
 |refine dqi 800 130 2 ⟨⟩ [(2,[52288],[]),(3,[],[52288]),(4,[],[52288]),(5,[52480],[]),(6,[],[52288,52480]),(7,[],[52288,52480]),(8,[52672],[]),(10,[51264],[]),(12,[51264],[]),(14,[51264],[])] ?_
 |refine dp ?_
 |(refine Yq hr ?_;rintro rfl;with_reducible refine ZJ ?_)
 |exact XaY hr
 |exact VG hr
 |(apply VH;assumption)
 |((first|refine Y5 (c:=true) hr rfl ?_|refine Y5 (c:=false) hr rfl ?_|refine Y5 hr ah ?_);intro hr))
abbrev Qns:=g31.1
abbrev Qol:=g31.2
attribute [instance] Qns Qol
def g29.sp{p:Prop}(h:p:=by first|((first|refine dq 18 1 hf [(10,[832],[]),(11,[832],[])] ?_)<;>exact zz)|fail):p:=h
def g29.g:(∀N(a0:Wh)(a1:Int),O1 (QbK N a0 a1) 33 [c28 a0,vu a1] (λr=>.tup [c98 r.1,vi r.2]))/\(∀N(a0:Wh)(a1:Wy),O1 (QeW N a0 a1) 255 [c28 a0,c98 a1] (λr=>.tup [c28 r.1,vu r.2.1,vi r.2.2]))/\(∀N(a0:WO)(a1:Int),O1 (Qes N a0 a1) 263 [c42 a0,vu a1] (λr=>.tup [vu r.1,vi r.2]))/\(∀N(a0:WO)(a1:Int)(a2:Int),O1 (QfJ N a0 a1 a2) 206 [c42 a0,vi a1,vu a2] (λr=>vi r))/\(∀N(a0:WO)(a1:Int)(a2:Int),O1 (Qga N a0 a1 a2) 208 [c42 a0,vi a1,vu a2] (λr=>vi r))/\(∀N(a0:Uj),O1 (Qgn N a0) 18 [c38 a0] (λr=>s59 r))/\(∀N a0 c0,OK (QaZ N a0 c0) 83 [s59 a0,.clo (.func 84) [] [.ept 1000000 0 1 0 0]] [.arr true 25 1 [[s59 c0]] 0] (λr=>vb r) λr=>[.arr true 25 1 [[s59 c0]] 0])/\(∀N(a0:WD)(a1:Int)(a2:Int),O1 (QgN N a0 a1 a2) 41 [c35 a0,vi a1,vi a2] (λr=>.tup [vu r.1,vi r.2])):=by refine⟨λN _ _=>rk f33 ?_,λN _ _=>rk f255 ?_,λN _ _=>rk f263 ?_,λN _ _ _=>rk f206 ?_,λN _ _ _=>rk f208 ?_,λN _=>rk f18 ?_,λN _ _=>rk f83 ?_,λN _ _ _=>rk f41 ?_⟩<;>(simp only[f33,f255,f263,f206,f208,f18,f83,f41,Option.get!,QbK,QeW,Qes,QfJ,Qga,Qgn,QaZ,QgN];exact zh)
abbrev Qn2:=g29.g.1
abbrev Qn3:=g29.g.2.1
abbrev Qmh:=g29.g.2.2.1
abbrev Qkz:=g29.g.2.2.2.1
abbrev Qlq:=g29.g.2.2.2.2.1
abbrev Qnt:=g29.g.2.2.2.2.2.1
abbrev Qfe:=g29.g.2.2.2.2.2.2.1
abbrev Qn4:=g29.g.2.2.2.2.2.2.2
attribute [instance] Qn2 Qn3 Qmh Qkz Qlq Qnt Qfe Qn4
end Go.Sx
