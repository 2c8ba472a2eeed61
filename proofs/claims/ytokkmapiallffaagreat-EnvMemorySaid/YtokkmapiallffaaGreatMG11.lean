import Derived.Test.YtokkmapiallffaaGreatMG7
set_option linter.all false
namespace Go.Sx
open Go.Proofs Tryz
set_option maxRecDepth 10000
set_option maxHeartbeats 100000000
abbrev Qjk:=λN a Q n (st:St)=>∃u w z A B C F G H h i j k l m o q g,Iv (Qa5 N a n u w z A B C F G H h i j k l m o q g) Q ((∃d b c,st.n=39/\r52 st 2304 d g/\st.t 1=s52 a/\pt st 2 128 b 16/\pt st 4 256 c 16/\ol st 7 2304 d 1 g.length/\st.t 8=vi u/\bx st 128 b 266 16 [vi w,vi z,s52 A,Yn B,vi C,vi F,s52 G,s3 H,s52 h,vi i,vi j,vi k,vi l,vi m,vi o,vi q]/\bx st 256 c 266 16 [vi 0,vi 0,.nsl,.nsl,vi 0,vi 0,.nsl,.nsl,.nsl,vi 0,vi 0,vi 0,vi 0,vi 0,vi 0,vi 0])\/(∃b c,(st.n=39/\st.t 1=s52 a/\pt st 2 128 b 16/\pt st 4 256 c 16/\st.t 7=.nsl/\st.t 8=vi u/\bx st 128 b 266 16 [vi w,vi z,s52 A,Yn B,vi C,vi F,s52 G,s3 H,s52 h,vi i,vi j,vi k,vi l,vi m,vi o,vi q]/\bx st 256 c 266 16 [vi 0,vi 0,.nsl,.nsl,vi 0,vi 0,.nsl,.nsl,.nsl,vi 0,vi 0,vi 0,vi 0,vi 0,vi 0,vi 0])/\g=[]))
abbrev Qkm:=λN a e Q n (st:St)=>∃w z A B C F c d g h i j k l m o q,Iv (Qbf N a e n w z A B C F c d g h i j k l m o q) Q ((∃u b,st.n=90/\pt st 1 64 u 16/\pt st 2 128 b 16/\st.t 5=vu a/\st.t 6=s3 e/\st.t 7=vi w/\bx st 64 u 266 16 [vi z,vi A,s52 B,Yn C,vi F,vi c,s52 d,s3 g,s52 h,vi i,vi j,vi k,vi l,vi m,vi o,vi q]/\bx st 128 b 266 16 [vi 0,vi 0,.nsl,.nsl,vi 0,vi 0,.nsl,.nsl,.nsl,vi 0,vi 0,vi 0,vi 0,vi 0,vi 0,vi 0]))
abbrev Qkn:=λN a Q n (st:St)=>∃d g h,Iv (QaD N a n d g h) Q ((∃c b,st.n=84/\pt st 1 64 c 16/\pt st 2 128 b 16/\st.t 3=vi d/\bx st 64 c 266 16 [vi a.h.c.W,vi a.h.c.p,s52 g,Yn a.h.p,vi a.h.s,vi a.h.b,s52 a.o,s3 a.t,s52 a.q,vi a.d,vi a.r.j,vi a.r.K,vi h,vi a.r.E,vi a.r.f,vi a.r.y]/\bx st 128 b 266 16 [vi 0,vi 0,.nsl,.nsl,vi 0,vi 0,.nsl,.nsl,.nsl,vi 0,vi 0,vi 0,vi 0,vi 0,vi 0,vi 0]))
abbrev Qh6:=λN a Q n (st:St)=>∃i g h,Iv (QcU N a n i g h) Q ((∃b c d,st.n=56/\r4 st 768 b g/\r52 st 896 c h/\pt st 1 64 d 10/\ol st 3 768 b 1 g.length/\ol st 4 896 c 1 h.length/\st.t 5=vi i/\bx st 64 d 42 10 (e42 a)))
abbrev Qko:=λN a Q n (st:St)=>∃d c,Iv (Qd4 N a n d c) Q ((∃b,st.n=25/\r52 st 1408 b c/\ol st 3 1408 b 1 c.length/\st.t 10=s96 a.e/\st.t 11=vi a.e.length/\st.t 12=vi d)\/((st.n=25/\st.t 3=.nsl/\st.t 10=s96 a.e/\st.t 11=vi a.e.length/\st.t 12=vi d)/\c=[]))
abbrev Qkp:=λN a Q n (st:St)=>∃d c,Iv (Qd5 N a n d c) Q ((∃b,st.n=25/\r52 st 1408 b c/\ol st 3 1408 b 1 c.length/\st.t 10=XcS a.S/\st.t 11=vi a.S.length/\st.t 12=vi d)\/((st.n=25/\st.t 3=.nsl/\st.t 10=XcS a.S/\st.t 11=vi a.S.length/\st.t 12=vi d)/\c=[]))
abbrev Qfj:=λN a c0 Q n (st:St)=>∃b,Iv (Qar N a c0 n b) Q ((st.n=19/\st.t 0=s52 a/\st.t 1=.clo (.func 106) [] [.ept 1000000 0 1 0 0]/\st.t 7=vi a.length/\st.t 8=vi b/\bx st 1000000 0 25 1 [s52 c0]))
abbrev QhA:=λN a e Q n (st:St)=>∃d g c,Iv (Qcx N a e n d g c) Q ((∃b,st.n=39/\r52 st 2304 b c/\pt st 0 1000000 0 16/\ol st 5 2304 b 1 c.length/\st.t 9=s52 e/\st.t 10=vi e.length/\st.t 11=vi d/\bx st 1000000 0 142 16 [vi a.h.c.W,vi a.h.c.p,s52 a.h.w,Yn a.h.p,vi a.h.s,vi a.h.b,s52 a.o,s3 a.t,s52 a.q,vi a.d,vi a.r.j,vi a.r.K,vi a.r.F,vi a.r.E,vi g,vi a.r.y])\/((st.n=39/\pt st 0 1000000 0 16/\st.t 5=.nsl/\st.t 9=s52 e/\st.t 10=vi e.length/\st.t 11=vi d/\bx st 1000000 0 142 16 [vi a.h.c.W,vi a.h.c.p,s52 a.h.w,Yn a.h.p,vi a.h.s,vi a.h.b,s52 a.o,s3 a.t,s52 a.q,vi a.d,vi a.r.j,vi a.r.K,vi a.r.F,vi a.r.E,vi g,vi a.r.y])/\c=[]))
def g24.sp{p:Prop}(h:p:=by first|((first|((with_reducible refine lp (Qjk N _) hr N ?_ (λ_ p q=>⟨_,_,_,_,_,_,_,_,_,_,_,_,_,_,_,_,_,_,_,p,q,?_⟩) _);have lq:=@Qa5.eq_2;exact zr)|((with_reducible refine lp (Qkm N _ _) hr N ?_ (λ_ p q=>⟨_,_,_,_,_,_,_,_,_,_,_,_,_,_,_,_,_,_,p,q,?_⟩) _);have lq:=@Qbf.eq_2;exact zr)|((with_reducible refine lp (Qkn N _) hr N ?_ (λ_ p q=>⟨_,_,_,_,p,q,?_⟩) _);have lq:=@QaD.eq_2;exact zr)|((with_reducible refine lp (Qh6 N _) hr N ?_ (λ_ p q=>⟨_,_,_,_,p,q,?_⟩) _);have lq:=@QcU.eq_2;exact zr)|((with_reducible refine lp (Qko N _) hr N ?_ (λ_ p q=>⟨_,_,_,p,q,?_⟩) _);have lq:=@Qd4.eq_2;exact zr)|((with_reducible refine lp (Qkp N _) hr N ?_ (λ_ p q=>⟨_,_,_,p,q,?_⟩) _);have lq:=@Qd5.eq_2;exact zr)|((with_reducible refine lp (Qfj N _ _) hr N ?_ (λ_ p q=>⟨_,_,p,q,?_⟩) _);have lq:=@Qar.eq_2;exact zr)|((with_reducible refine lp (QhA N _ _) hr N ?_ (λ_ p q=>⟨_,_,_,_,p,q,?_⟩) _);have lq:=@Qcx.eq_2;exact zr)|refine dq 183 5 hf [(0,[],[576]),(1,[],[576]),(2,[],[576]),(3,[],[576]),(4,[],[576]),(5,[],[576]),(6,[],[576]),(7,[],[576]),(8,[],[576]),(9,[],[576]),(10,[576],[]),(11,[576],[])] ?_|refine dq 183 8 hf [(0,[],[2240,2304]),(1,[],[2240]),(3,[2240],[]),(4,[2304],[]),(5,[128],[])] ?_|refine dq 187 6 hf [(0,[],[448]),(1,[],[448]),(2,[],[448]),(3,[],[448]),(4,[],[448]),(5,[],[448]),(6,[],[448]),(7,[448],[]),(8,[448],[])] ?_|refine dq 187 8 hf [(0,[],[4352]),(1,[],[4352]),(2,[],[4352]),(3,[],[4352]),(4,[],[4352]),(5,[],[4352]),(6,[],[4352]),(7,[],[4352]),(9,[4352],[]),(10,[],[4352]),(11,[],[4352]),(12,[4352],[]),(13,[4352],[]),(16,[],[64]),(19,[64],[])] ?_|refine dq 114 10 hf [(11,[896],[])] ?_)<;>exact zz)|fail):p:=h
def g24.g:(∀N(a0:Wv)(a1:List Int),O1 (Qc5 N a0 a1) 183 [Jw a0,s52 a1] (λr=>.tup [Jw r.1,s52 r.2.1,vi r.2.2]))/\(∀N(a0:Wv),O1 (Qei N a0) 256 [Jw a0] (λr=>.tup [Jw r.1,vb r.2.1,vi r.2.2]))/\(∀N(a0:Wv),O1 (Qek N a0) 187 [Jw a0] (λr=>Jw r))/\(∀N(a0:WP),O1 (QfO N a0) 114 [c42 a0] (λr=>s4 r))/\(∀N(a0:WD),O1 (QdL N a0) 24 [c35 a0] (λr=>s52 r))/\(∀N(a0:Wq),O1 (QfI N a0) 28 [c32 a0] (λr=>s52 r))/\(∀N a0 c0,OK (Qa9 N a0 c0) 177 [s52 a0,.clo (.func 106) [] [.ept 1000000 0 1 0 0]] [.arr true 25 1 [[s52 c0]] 0] (λr=>vi r) λr=>[.arr true 25 1 [[s52 c0]] 0])/\(∀N a0 a1,OK (QdG N a0 a1) 68 [.ept 1000000 0 16 0 0,s52 a1] [.arr true 142 16 [[vi a0.h.c.W,vi a0.h.c.p,s52 a0.h.w,Yn a0.h.p,vi a0.h.s,vi a0.h.b,s52 a0.o,s3 a0.t,s52 a0.q,vi a0.d,vi a0.r.j,vi a0.r.K,vi a0.r.F,vi a0.r.E,vi a0.r.f,vi a0.r.y]] 0] (λr=>s52 r.1) λr=>[.arr true 142 16 [[vi r.2.h.c.W,vi r.2.h.c.p,s52 r.2.h.w,Yn r.2.h.p,vi r.2.h.s,vi r.2.h.b,s52 r.2.o,s3 r.2.t,s52 r.2.q,vi r.2.d,vi r.2.r.j,vi r.2.r.K,vi r.2.r.F,vi r.2.r.E,vi r.2.r.f,vi r.2.r.y]] 0]):=by refine⟨λN _ _=>rk f183 ?_,λN _=>rk f256 ?_,λN _=>rk f187 ?_,λN _=>rk f114 ?_,λN _=>rk f24 ?_,λN _=>rk f28 ?_,λN _ _=>rk f177 ?_,λN _ _=>rk f68 ?_⟩<;>(simp only[f183,f256,f187,f114,f24,f28,f177,f68,Option.get!,Qc5,Qei,Qek,QfO,QdL,QfI,Qa9,QdG];exact zh)
abbrev Ql4:=g24.g.1
abbrev Qnd:=g24.g.2.1
abbrev Qne:=g24.g.2.2.1
abbrev Qkq:=g24.g.2.2.2.1
abbrev Qnf:=g24.g.2.2.2.2.1
abbrev Qng:=g24.g.2.2.2.2.2.1
abbrev QfM:=g24.g.2.2.2.2.2.2.1
abbrev Qh7:=g24.g.2.2.2.2.2.2.2
attribute [instance] Ql4 Qnd Qne Qkq Qnf Qng QfM Qh7
abbrev Qlg:=λN f a d g e Q n (st:St)=>∃c,Iv (Qfr N f a d g e n c) Q ((∃b,st.n=66/\pt st 8 512 b 4/\st.t 9=vi e/\st.t 54=.isl 122 4 (((f.drop (wI (a + 1)).toNat).take ((wI (a + e)).toNat - (wI (a + 1)).toNat)).map YT)/\st.t 55=vi (((min ((wI (a + e)).toNat - (wI (a + 1)).toNat) (f.length - (wI (a + 1)).toNat)):Nat):Int)/\st.t 56=vi c/\bx st 512 b 322 4 [vi g,vi d.s,vi d.u,vi d.P]))
instance QpO:∀N(a0:WN)(a1:List Wo)(a2:Int),O1 (QgP N a0 a1 a2) 155 [c24 a0,Yn a1,vi a2] (λr=>vi r):=by
 refineλN _ _ _=>rk f155 ?_<;>(rintro _ hw r hr C _ rfl hwf hf;have hse:=@Xha _ hw;simp only[f155,Option.get!];(rw[QgP]at hr);repeat' first
 |(refine El.el hr ?_;clear hr;intro hr)
 |(with_reducible intro h;refine Y8 hr h ?_;clear hr;intro hr)
 |with_reducible intro _
 |(refine Yv hr ?_;rintro rfl;have hr:=hk;clear hk)
 |simp only[go_sem,simprocAttr,E,hK,XT,hse,Wu,WC,UM]
 |(with_reducible first|apply XV|apply XU|apply YM|apply Y1|apply Y2)
 |((first|with_reducible refine Jx hr ah ?_ ?_|(with_reducible refine Jh hr ?_ ?_;rotate_left;intro p;rotate_right));(·simp only[go_sem,simprocAttr,hse,Wu,WC,UM]);intro hp hn hd hr;(try have XT:=hd _ YT;simp only[go_sem,simprocAttr]at XT))
 |(refine YN ?_ ?_;.first|assumption|omega)
 |(with_reducible first|refine CallX.c ?_ _|refine OK.c hr hw ?_ (λy hr=>?_) _|refine OK.d hr hw ?_ (λy hr=>?_) _)
 |(with_reducible refine lp (Qlg N _ _ _ _ _) hr N ?_ (λ_ p q=>⟨_,_,p,q,?_⟩) _;rintro n1 st ⟨_,_,hr,hk,⟨_,E⟩⟩<;>(obtain _|n1:=n1<;>rw[Qfr]at hr))
 |refine⟨_,UP _,_,_,hr,hk,?_⟩
 |refine dp ?_
 |(refine Yv hr ?_;rintro rfl;with_reducible refine ZS ?_)
 |exact Xbn hr
 |exact Xav hr
 |(apply Xaw;assumption)
 |((first|refine Y8 (c:=true) hr rfl ?_|refine Y8 (c:=false) hr rfl ?_|refine Y8 hr ah ?_);intro hr)
 |(with_reducible refine Xv4 hr ?_ ?_<;>intro hK hr<;>try simp only[hK]))
end Go.Sx
