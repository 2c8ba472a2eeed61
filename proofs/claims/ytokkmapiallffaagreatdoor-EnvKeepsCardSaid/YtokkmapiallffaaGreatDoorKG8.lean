import Derived.Test.YtokkmapiallffaaGreatDoorKG5
import Derived.Test.YtokkmapiallffaaGreatDoorKG6
set_option linter.all false
namespace Go.Sx
open Go.Proofs Tryz
set_option maxRecDepth 10000
set_option maxHeartbeats 100000000
abbrev Qjp:=λN a Q n (st:St)=>∃u w z A B C F G H h i j k l m o q g,Iv (Qa4 N a n u w z A B C F G H h i j k l m o q g) Q ((∃d b c,st.n=39/\r59 st 2304 d g/\st.t 1=s59 a/\pt st 2 128 b 16/\pt st 4 256 c 16/\ol st 7 2304 d 1 g.length/\st.t 8=vi u/\bx st 128 b 261 16 [vi w,vi z,s59 A,Yn B,vi C,vi F,s59 G,s3 H,s59 h,vi i,vi j,vi k,vi l,vi m,vi o,vi q]/\bx st 256 c 261 16 [vi 0,vi 0,.nsl,.nsl,vi 0,vi 0,.nsl,.nsl,.nsl,vi 0,vi 0,vi 0,vi 0,vi 0,vi 0,vi 0])\/(∃b c,(st.n=39/\st.t 1=s59 a/\pt st 2 128 b 16/\pt st 4 256 c 16/\st.t 7=.nsl/\st.t 8=vi u/\bx st 128 b 261 16 [vi w,vi z,s59 A,Yn B,vi C,vi F,s59 G,s3 H,s59 h,vi i,vi j,vi k,vi l,vi m,vi o,vi q]/\bx st 256 c 261 16 [vi 0,vi 0,.nsl,.nsl,vi 0,vi 0,.nsl,.nsl,.nsl,vi 0,vi 0,vi 0,vi 0,vi 0,vi 0,vi 0])/\g=[]))
abbrev Qkr:=λN a e Q n (st:St)=>∃w z A B C F c d g h i j k l m o q,Iv (Qbe N a e n w z A B C F c d g h i j k l m o q) Q ((∃u b,st.n=90/\pt st 1 64 u 16/\pt st 2 128 b 16/\st.t 5=vu a/\st.t 6=s3 e/\st.t 7=vi w/\bx st 64 u 261 16 [vi z,vi A,s59 B,Yn C,vi F,vi c,s59 d,s3 g,s59 h,vi i,vi j,vi k,vi l,vi m,vi o,vi q]/\bx st 128 b 261 16 [vi 0,vi 0,.nsl,.nsl,vi 0,vi 0,.nsl,.nsl,.nsl,vi 0,vi 0,vi 0,vi 0,vi 0,vi 0,vi 0]))
abbrev Qks:=λN a Q n (st:St)=>∃d g h,Iv (QaD N a n d g h) Q ((∃c b,st.n=84/\pt st 1 64 c 16/\pt st 2 128 b 16/\st.t 3=vi d/\bx st 64 c 261 16 [vi a.h.c.W,vi a.h.c.p,s59 g,Yn a.h.p,vi a.h.s,vi a.h.b,s59 a.o,s3 a.t,s59 a.q,vi a.d,vi a.r.j,vi a.r.K,vi h,vi a.r.E,vi a.r.f,vi a.r.y]/\bx st 128 b 261 16 [vi 0,vi 0,.nsl,.nsl,vi 0,vi 0,.nsl,.nsl,.nsl,vi 0,vi 0,vi 0,vi 0,vi 0,vi 0,vi 0]))
abbrev Qid:=λN a Q n (st:St)=>∃i g h,Iv (QcR N a n i g h) Q ((∃b c d,st.n=56/\r4 st 768 b g/\r59 st 896 c h/\pt st 1 64 d 10/\ol st 3 768 b 1 g.length/\ol st 4 896 c 1 h.length/\st.t 5=vi i/\bx st 64 d 42 10 (e42 a)))
abbrev Qkt:=λN a Q n (st:St)=>∃d c,Iv (Qd1 N a n d c) Q ((∃b,st.n=25/\r59 st 1408 b c/\ol st 3 1408 b 1 c.length/\st.t 10=JP a.e/\st.t 11=vi a.e.length/\st.t 12=vi d)\/((st.n=25/\st.t 3=.nsl/\st.t 10=JP a.e/\st.t 11=vi a.e.length/\st.t 12=vi d)/\c=[]))
abbrev Qku:=λN a Q n (st:St)=>∃d c,Iv (Qd2 N a n d c) Q ((∃b,st.n=25/\r59 st 1408 b c/\ol st 3 1408 b 1 c.length/\st.t 10=XcL a.S/\st.t 11=vi a.S.length/\st.t 12=vi d)\/((st.n=25/\st.t 3=.nsl/\st.t 10=XcL a.S/\st.t 11=vi a.S.length/\st.t 12=vi d)/\c=[]))
abbrev Qfd:=λN a c0 Q n (st:St)=>∃b,Iv (Qar N a c0 n b) Q ((st.n=19/\st.t 0=s59 a/\st.t 1=.clo (.func 84) [] [.ept 1000000 0 1 0 0]/\st.t 7=vi a.length/\st.t 8=vi b/\bx st 1000000 0 25 1 [s59 c0]))
abbrev QhE:=λN a e Q n (st:St)=>∃d g c,Iv (Qcx N a e n d g c) Q ((∃b,st.n=39/\r59 st 2304 b c/\pt st 0 1000000 0 16/\ol st 5 2304 b 1 c.length/\st.t 9=s59 e/\st.t 10=vi e.length/\st.t 11=vi d/\bx st 1000000 0 135 16 [vi a.h.c.W,vi a.h.c.p,s59 a.h.w,Yn a.h.p,vi a.h.s,vi a.h.b,s59 a.o,s3 a.t,s59 a.q,vi a.d,vi a.r.j,vi a.r.K,vi a.r.F,vi a.r.E,vi g,vi a.r.y])\/((st.n=39/\pt st 0 1000000 0 16/\st.t 5=.nsl/\st.t 9=s59 e/\st.t 10=vi e.length/\st.t 11=vi d/\bx st 1000000 0 135 16 [vi a.h.c.W,vi a.h.c.p,s59 a.h.w,Yn a.h.p,vi a.h.s,vi a.h.b,s59 a.o,s3 a.t,s59 a.q,vi a.d,vi a.r.j,vi a.r.K,vi a.r.F,vi a.r.E,vi g,vi a.r.y])/\c=[]))
def g27.sp{p:Prop}(h:p:=by first|((first|((with_reducible refine lp (Qjp N _) hr N ?_ (λ_ p q=>⟨_,_,_,_,_,_,_,_,_,_,_,_,_,_,_,_,_,_,_,p,q,?_⟩) _);have lq:=@Qa4.eq_2;exact zr)|((with_reducible refine lp (Qkr N _ _) hr N ?_ (λ_ p q=>⟨_,_,_,_,_,_,_,_,_,_,_,_,_,_,_,_,_,_,p,q,?_⟩) _);have lq:=@Qbe.eq_2;exact zr)|((with_reducible refine lp (Qks N _) hr N ?_ (λ_ p q=>⟨_,_,_,_,p,q,?_⟩) _);have lq:=@QaD.eq_2;exact zr)|((with_reducible refine lp (Qid N _) hr N ?_ (λ_ p q=>⟨_,_,_,_,p,q,?_⟩) _);have lq:=@QcR.eq_2;exact zr)|((with_reducible refine lp (Qkt N _) hr N ?_ (λ_ p q=>⟨_,_,_,p,q,?_⟩) _);have lq:=@Qd1.eq_2;exact zr)|((with_reducible refine lp (Qku N _) hr N ?_ (λ_ p q=>⟨_,_,_,p,q,?_⟩) _);have lq:=@Qd2.eq_2;exact zr)|((with_reducible refine lp (Qfd N _ _) hr N ?_ (λ_ p q=>⟨_,_,p,q,?_⟩) _);have lq:=@Qar.eq_2;exact zr)|((with_reducible refine lp (QhE N _ _) hr N ?_ (λ_ p q=>⟨_,_,_,_,p,q,?_⟩) _);have lq:=@Qcx.eq_2;exact zr)|refine dq 179 5 hf [(0,[],[576]),(1,[],[576]),(2,[],[576]),(3,[],[576]),(4,[],[576]),(5,[],[576]),(6,[],[576]),(7,[],[576]),(8,[],[576]),(9,[],[576]),(10,[576],[]),(11,[576],[])] ?_|refine dq 179 8 hf [(0,[],[2240,2304]),(1,[],[2240]),(3,[2240],[]),(4,[2304],[]),(5,[128],[])] ?_|refine dq 183 6 hf [(0,[],[448]),(1,[],[448]),(2,[],[448]),(3,[],[448]),(4,[],[448]),(5,[],[448]),(6,[],[448]),(7,[448],[]),(8,[448],[])] ?_|refine dq 183 8 hf [(0,[],[4352]),(1,[],[4352]),(2,[],[4352]),(3,[],[4352]),(4,[],[4352]),(5,[],[4352]),(6,[],[4352]),(7,[],[4352]),(9,[4352],[]),(10,[],[4352]),(11,[],[4352]),(12,[4352],[]),(13,[4352],[]),(16,[],[64]),(19,[64],[])] ?_|refine dq 108 10 hf [(11,[896],[])] ?_)<;>exact zz)|fail):p:=h
def g27.g:(∀N(a0:Wu)(a1:List Int),O1 (Qc0 N a0 a1) 179 [Jv a0,s59 a1] (λr=>.tup [Jv r.1,s59 r.2.1,vi r.2.2]))/\(∀N(a0:Wu),O1 (Qef N a0) 250 [Jv a0] (λr=>.tup [Jv r.1,vb r.2.1,vi r.2.2]))/\(∀N(a0:Wu),O1 (Qeh N a0) 183 [Jv a0] (λr=>Jv r))/\(∀N(a0:WO),O1 (QfH N a0) 108 [c42 a0] (λr=>s4 r))/\(∀N(a0:WD),O1 (QdJ N a0) 19 [c35 a0] (λr=>s59 r))/\(∀N(a0:Wq),O1 (QfB N a0) 23 [c32 a0] (λr=>s59 r))/\(∀N a0 c0,OK (Qa8 N a0 c0) 154 [s59 a0,.clo (.func 84) [] [.ept 1000000 0 1 0 0]] [.arr true 25 1 [[s59 c0]] 0] (λr=>vi r) λr=>[.arr true 25 1 [[s59 c0]] 0])/\(∀N a0 a1,OK (QdE N a0 a1) 61 [.ept 1000000 0 16 0 0,s59 a1] [.arr true 135 16 [[vi a0.h.c.W,vi a0.h.c.p,s59 a0.h.w,Yn a0.h.p,vi a0.h.s,vi a0.h.b,s59 a0.o,s3 a0.t,s59 a0.q,vi a0.d,vi a0.r.j,vi a0.r.K,vi a0.r.F,vi a0.r.E,vi a0.r.f,vi a0.r.y]] 0] (λr=>s59 r.1) λr=>[.arr true 135 16 [[vi r.2.h.c.W,vi r.2.h.c.p,s59 r.2.h.w,Yn r.2.h.p,vi r.2.h.s,vi r.2.h.b,s59 r.2.o,s3 r.2.t,s59 r.2.q,vi r.2.d,vi r.2.r.j,vi r.2.r.K,vi r.2.r.F,vi r.2.r.E,vi r.2.r.f,vi r.2.r.y]] 0]):=by refine⟨λN _ _=>rk f179 ?_,λN _=>rk f250 ?_,λN _=>rk f183 ?_,λN _=>rk f108 ?_,λN _=>rk f19 ?_,λN _=>rk f23 ?_,λN _ _=>rk f154 ?_,λN _ _=>rk f61 ?_⟩<;>(simp only[f179,f250,f183,f108,f19,f23,f154,f61,Option.get!,Qc0,Qef,Qeh,QfH,QdJ,QfB,Qa8,QdE];exact zh)
abbrev Qmc:=g27.g.1
abbrev Qnm:=g27.g.2.1
abbrev Qnn:=g27.g.2.2.1
abbrev Qkv:=g27.g.2.2.2.1
abbrev Qno:=g27.g.2.2.2.2.1
abbrev Qnp:=g27.g.2.2.2.2.2.1
abbrev QfF:=g27.g.2.2.2.2.2.2.1
abbrev Qie:=g27.g.2.2.2.2.2.2.2
attribute [instance] Qmc Qnm Qnn Qkv Qno Qnp QfF Qie
def g25.sp{p:Prop}(h:p:=by first|((first|(refine ci (f:=240) f240 400 (λx=>?_) _;simp only[f240,Option.get!])|refine dq 173 6 hf [(1,[],[256]),(2,[256],[]),(3,[320],[])] ?_|refine dq 173 15 hf [(1,[],[256]),(2,[],[256]),(3,[],[256]),(4,[256],[]),(5,[320],[])] ?_|refine dq 173 20 hf [(1,[],[256]),(2,[],[256]),(3,[],[256]),(4,[],[256,320]),(5,[256],[]),(6,[320],[])] ?_)<;>exact zz)|fail):p:=h
abbrev g25.g:∀N(a0:Wh)(a1:Int),O1 (Qha N a0 a1) 173 [c28 a0,vi a1] (λr=>.tup [c28 r.1,Xu2 r.2.1,vi r.2.2]):=by refineλN _ _=>rk f173 ?_<;>(simp only[f173,Option.get!,Qha];exact zh)
abbrev Qjq:=g25.g
attribute [instance] Qjq
def g26.sp{p:Prop}(h:p:=by first|((first|refine dq 291 5 hf [(1,[],[384]),(2,[],[384]),(3,[],[384]),(4,[],[384]),(5,[],[384]),(6,[],[384]),(7,[],[384]),(8,[384],[])] ?_|refine dq 292 4 hf [(0,[],[1856]),(1,[],[1856]),(2,[],[1856]),(4,[1856],[]),(5,[],[1856]),(6,[],[1856]),(7,[1856],[]),(8,[1856],[])] ?_)<;>exact zz)|fail):p:=h
def g26.g:(∀N(a0:Wh)(a1:Int),O1 (Qao N a0 a1) 90 [c28 a0,vu a1] (λr=>.tup [c98 r.1,vi r.2]))/\(∀N(a0:Wh)(a1:Int)(a2:Int),O1 (Qfv N a0 a1 a2) 314 [c28 a0,vi a1,vi a2] (λr=>vu r))/\(∀N(a0:Wh)(a1:Int)(a2:Int),O1 (Qe7 N a0 a1 a2) 291 [c28 a0,vi a1,vi a2] (λr=>.tup [c28 r.1,vu r.2.1,vb r.2.2]))/\(∀N(a0:Wh)(a1:Int)(a2:Wy),O1 (QbN N a0 a1 a2) 292 [c28 a0,vu a1,c98 a2] (λr=>.tup [c28 r.1,vi r.2]))/\(∀N(a0:WO)(a1:Int)(a2:Int)(a3:Int)(a4:Bool),O1 (QfI N a0 a1 a2 a3 a4) 204 [c42 a0,vi a1,vu a2,vu a3,vb a4] (λr=>vi r))/\(∀N(a0:WO)(a1:Int),O1 (QaH N a0 a1) 118 [c42 a0,vu a1] (λr=>.tup [vu r.1,vi r.2]))/\(∀N(a0:WO)(a1:Int),O1 (Qfk N a0 a1) 123 [c42 a0,vu a1] (λr=>c42 r))/\(∀N(a0:Wq)(a1:Int)(a2:Int),O1 (Qhl N a0 a1 a2) 40 [c32 a0,vi a1,vi a2] (λr=>.tup [vu r.1,vi r.2]))/\(∀N(a0:WD)(a1:Int)(a2:Int),O1 (Qhi N a0 a1 a2) 97 [c35 a0,vi a1,vi a2] (λr=>vi r)):=by refine⟨λN _ _=>rk f90 ?_,λN _ _ _=>rk f314 ?_,λN _ _ _=>rk f291 ?_,λN _ _ _=>rk f292 ?_,λN _ _ _ _ _=>rk f204 ?_,λN _ _=>rk f118 ?_,λN _ _=>rk f123 ?_,λN _ _ _=>rk f40 ?_,λN _ _ _=>rk f97 ?_⟩<;>(simp only[f90,f314,f291,f292,f204,f118,f123,f40,f97,Option.get!,Qao,Qfv,Qe7,QbN,QfI,QaH,Qfk,Qhl,Qhi];exact zh)
abbrev Qok:=g26.g.1
abbrev Qnq:=g26.g.2.1
abbrev Qmd:=g26.g.2.2.1
abbrev Qnr:=g26.g.2.2.2.1
abbrev Qkw:=g26.g.2.2.2.2.1
abbrev Qkx:=g26.g.2.2.2.2.2.1
abbrev Qlo:=g26.g.2.2.2.2.2.2.1
abbrev Qn1:=g26.g.2.2.2.2.2.2.2.1
abbrev Qme:=g26.g.2.2.2.2.2.2.2.2
attribute [instance] Qok Qnq Qmd Qnr Qkw Qkx Qlo Qn1 Qme
abbrev Qlp:=λN f a d g e Q n (st:St)=>∃c,Iv (Qfl N f a d g e n c) Q ((∃b,st.n=66/\pt st 8 512 b 4/\st.t 9=vi e/\st.t 54=.isl 159 4 (((f.drop (wI (a + 1)).toNat).take ((wI (a + e)).toNat - (wI (a + 1)).toNat)).map YT)/\st.t 55=vi (((min ((wI (a + e)).toNat - (wI (a + 1)).toNat) (f.length - (wI (a + 1)).toNat)):Nat):Int)/\st.t 56=vi c/\bx st 512 b 342 4 [vi g,vi d.s,vi d.u,vi d.P]))
instance QpZ:∀N(a0:WP)(a1:List Wp)(a2:Int),O1 (QgL N a0 a1 a2) 216 [c24 a0,Yn a1,vi a2] (λr=>vi r):=by
 refineλN _ _ _=>rk f216 ?_<;>(rintro _ hw r hr C _ rfl hwf hf;have hse:=@XgM _ hw;simp only[f216,Option.get!];(rw[QgL]at hr);repeat' first
 |(refine El.el hr ?_;clear hr;intro hr)
 |(with_reducible intro h;refine Y5 hr h ?_;clear hr;intro hr)
 |with_reducible intro _
 |(refine Yq hr ?_;rintro rfl;have hr:=hk;clear hk)
 |simp only[go_sem,simprocAttr,E,hK,XT,hse,Ws,WA,UF]
 |(with_reducible first|apply XP|apply XO|apply YF|apply YN|apply YO)
 |((first|with_reducible refine Jh hr ah ?_ ?_|(with_reducible refine KO hr ?_ ?_;rotate_left;intro p;rotate_right));(·simp only[go_sem,simprocAttr,hse,Ws,WA,UF]);intro hp hn hd hr;(try have XT:=hd _ YT;simp only[go_sem,simprocAttr]at XT))
 |(refine YG ?_ ?_;.first|assumption|omega)
 |(with_reducible first|refine CallX.c ?_ _|refine OK.c hr hw ?_ (λy hr=>?_) _|refine OK.d hr hw ?_ (λy hr=>?_) _)
 |(with_reducible refine lp (Qlp N _ _ _ _ _) hr N ?_ (λ_ p q=>⟨_,_,p,q,?_⟩) _;rintro n1 st ⟨_,_,hr,hk,⟨_,E⟩⟩<;>(obtain _|n1:=n1<;>rw[Qfl]at hr))
 |refine⟨_,UQ _,_,_,hr,hk,?_⟩
 |refine dp ?_
 |(refine Yq hr ?_;rintro rfl;with_reducible refine ZJ ?_)
 |exact XaY hr
 |exact VG hr
 |(apply VH;assumption)
 |((first|refine Y5 (c:=true) hr rfl ?_|refine Y5 (c:=false) hr rfl ?_|refine Y5 hr ah ?_);intro hr)
 |(with_reducible refine Xv4 hr ?_ ?_<;>intro hK hr<;>try simp only[hK]))
end Go.Sx
