import Derived.Test.YtokkmapiallffaaGreatMG15
set_option linter.all false
namespace Go.Sx
open Go.Proofs Tryz
set_option maxRecDepth 10000
set_option maxHeartbeats 100000000
abbrev Qjq:=λN a e f (c:Nat) Q n (st:St)=>∃g d,Iv (Qcr N a e f n g d) Q ((∃b,st.n=42/\r52 st 284160 b d/\st.t 0=s52 f.1/\ol st 1 284160 b 1 d.length/\st.t 2=s52 e/\st.t 8=vi g/\bx st 128 c 28 6 (e28 a))\/((st.n=42/\st.t 0=s52 f.1/\st.t 1=.nsl/\st.t 2=s52 e/\st.t 8=vi g/\bx st 128 c 28 6 (e28 a))/\d=[]))
abbrev Qjr:=λN e f a h (d:Nat) Q n (st:St)=>∃g c,Iv (Qcs N e f a h n g c) Q ((∃b,st.n=42/\r52 st 284160 b c/\st.t 0=s52 f.1/\ol st 1 284160 b 1 c.length/\st.t 2=s52 a/\st.t 8=vi g/\bx st 128 d 28 6 (e28 e)))
abbrev Qjs:=λN a e Q n (st:St)=>∃g h d,Iv (QeC N a e n g h d) Q ((∃b c,st.n=52/\r52 st 284160 b d/\pt st 2 128 c 6/\st.t 6=s52 e.1/\ol st 8 284160 b 1 d.length/\st.t 9=vb g/\st.t 10=vi h/\bx st 128 c 28 6 (e28 a))\/(∃c,(st.n=52/\pt st 2 128 c 6/\st.t 6=s52 e.1/\st.t 8=.nsl/\st.t 9=vb g/\st.t 10=vi h/\bx st 128 c 28 6 (e28 a))/\d=[]))
instance Qps:∀N(a0:Wi)(a1:List Int),O1 (QgG N a0 a1) 31 [c28 a0,s52 a1] (λr=>.tup [s52 r.1,vi r.2]):=by
 refineλN _ _=>rk f31 ?_<;>(rintro _ hw r hr C _ rfl hwf hf;have hse:=@Xha _ hw;simp only[f31,Option.get!];(rw[QgG]at hr);repeat' first
 |(refine El.el hr ?_;clear hr;intro hr)
 |(with_reducible intro h;refine Y8 hr h ?_;clear hr;intro hr)
 |with_reducible intro _
 |(refine Yv hr ?_;rintro rfl;have hr:=hk;clear hk)
 |simp only[go_sem,simprocAttr,E,Fq,Z2,hse]
 |(with_reducible first|apply XV|apply XU|apply YM|apply Y1|apply Y2)
 |((first|with_reducible refine Jx hr ah ?_ ?_|(with_reducible refine Jh hr ?_ ?_;rotate_left;intro p;rotate_right));(·simp only[go_sem,simprocAttr,hse]);intro hp hn hd hr;(try have Z2:=hd _ e52;simp only[go_sem,simprocAttr]at Z2))
 |(refine YN ?_ ?_;.first|assumption|omega|(dsimp only at *;omega))
 |(refine CallX.inl (f:=80) 4400 (fn:=f80) (rs:=[.tmp 6,.tmp 7]) (nt:=42) 1000 ae (λx=>?_) _;simp only[f80,Option.get!])
 |(with_reducible first|refine CallX.c ?_ _|refine OK.c hr hw ?_ (λy hr=>?_) _|refine OK.d hr hw ?_ (λy hr=>?_) _)
 |((refine LoopG.v (id:=128) (v:=?_) ?_ ?_ _;rotate_left;.first|rfl|(simp only[go_sem,simprocAttr,E,Fq];rfl));intro w128 h128;with_reducible refine lp (Qjq N _ _ _ w128) hr N ?_ (λ_ p q=>⟨_,_,_,p,q,?_⟩) _;(all_goals (subst h128));clear hr;(try clear Fq);rintro n1 st ⟨_,_,_,hr,hk,(⟨_,Fq⟩|⟨Fq,z0⟩)⟩<;>(try subst z0)<;>(obtain _|n1:=n1<;>rw[Qcr]at hr))
 |refine⟨_,UP _,_,_,_,hr,hk,?_⟩
 |((refine LoopG.v (id:=128) (v:=?_) ?_ ?_ _;rotate_left;.first|rfl|(simp only[go_sem,simprocAttr,E,Fq];rfl));intro w128 h128;with_reducible refine lp (Qjr N _ _ _ _ w128) hr N ?_ (λ_ p q=>⟨_,_,_,p,q,?_⟩) _;(all_goals (subst h128));clear hr;(try clear Fq);rintro n2 st ⟨_,_,_,hr,hk,⟨_,Fq⟩⟩<;>(obtain _|n2:=n2<;>rw[Qcs]at hr))
 |(with_reducible refine lp (Qjs N _ _) hr N ?_ (λ_ p q=>⟨_,_,_,_,p,q,?_⟩) _;clear hr;(try clear E);(try clear Fq);rintro n3 st ⟨_,_,_,_,hr,hk,(⟨_,_,E⟩|⟨_,E,z0⟩)⟩<;>(try subst z0)<;>(obtain _|n3:=n3<;>rw[QeC]at hr))
 |refine⟨_,UP _,_,_,_,_,hr,hk,?_⟩
 |refine dqm 31 10 hf 8 [] ?_
 |(refine Yv hr ?_;rintro rfl;with_reducible refine ZS ?_)
 |exact Xbn hr
 |exact Xav hr
 |(apply Xaw;assumption)
 |((first|refine Y8 (c:=true) hr rfl ?_|refine Y8 (c:=false) hr rfl ?_|refine Y8 hr ah ?_);intro hr))
abbrev QhQ:=λN e f a h j Q n (st:St)=>∃i,Iv (Qav N e f a h j n i) Q ((∃b g c d,st.n=89/\r52 st 2624 b a.1/\pt st 1 64 g 6/\pt st 2 128 c 3/\st.t 3=s52 f.1/\st.t 5=vi h/\pt st 6 384 d 3/\ol st 8 2624 b 1 a.1.length/\st.t 10=vi i/\bx st 64 g 28 6 (e28 e)/\bx st 128 c 363 3 [vi 0,vi 0,vu 0]/\bx st 384 d 59 3 (e59 j.1)))
abbrev QhR:=λN a e Q n (st:St)=>∃d,Iv (Qbv N a e n d) Q ((∃c b,st.n=89/\pt st 1 64 c 6/\pt st 2 128 b 3/\st.t 3=s52 e.1/\st.t 5=vi d/\bx st 64 c 28 6 (e28 a)/\bx st 128 b 363 3 [vi 0,vi 0,vu 0]))
abbrev Qmf:=λN a Q n (st:St)=>∃g d,Iv (Qf2 N a n g d) Q ((∃b c,st.n=31/\Xtm st 1792 b d/\pt st 1 64 c 6/\ol st 4 1792 b 4 d.length/\st.t 13=vi a.p.length/\st.t 14=vi g/\bx st 64 c 28 6 (e28 a))\/(∃c,(st.n=31/\pt st 1 64 c 6/\st.t 4=.nsl/\st.t 13=vi a.p.length/\st.t 14=vi g/\bx st 64 c 28 6 (e28 a))/\d=[]))
def g35.sp{p:Prop}(h:p:=by first|((first|((with_reducible refine lp (QhQ N _ _ _ _ _) hr N ?_ (λ_ p q=>⟨_,_,p,q,?_⟩) _);have lq:=@Qav.eq_2;exact zr)|((with_reducible refine lp (QhR N _ _) hr N ?_ (λ_ p q=>⟨_,_,p,q,?_⟩) _);have lq:=@Qbv.eq_2;exact zr)|((with_reducible refine lp (Qmf N _) hr N ?_ (λ_ p q=>⟨_,_,_,p,q,?_⟩) _);have lq:=@Qf2.eq_2;exact zr)|refine dq 298 5 hf [(0,[],[384]),(1,[],[384]),(2,[],[384]),(3,[],[384]),(4,[],[384]),(5,[],[384]),(6,[],[384]),(7,[],[384]),(8,[],[384]),(9,[384],[]),(10,[384],[])] ?_|refine dq 298 6 hf [(5,[2624],[])] ?_)<;>exact zz)|fail):p:=h
def g35.g:(∀N(a0:Wi),O1 (Qdy N a0) 298 [c28 a0] (λr=>XrJ r))/\(∀N(a0:Wi),O1 (Qhq N a0) 173 [c28 a0] (λr=>.tup [.fsl 262 4 (r.1.map VM),vi r.2])):=by refine⟨λN _=>rk f298 ?_,λN _=>rq f173 [1792] ?_⟩<;>(simp only[f298,f173,Option.get!,Qdy,Qhq];exact zh)
abbrev Qjt:=g35.g.1
abbrev Qob:=g35.g.2
attribute [instance] Qjt Qob
abbrev Qju:=λN a Q n (st:St)=>∃d,Iv (Qbd N a n d) Q ((∃c b,st.n=65/\pt st 1 64 c 6/\pt st 2 128 b 3/\st.t 3=vi d/\bx st 64 c 28 6 (e28 a)/\bx st 128 b 363 3 [vi 0,vi 0,vu 0]))
abbrev Qjv:=λN a Q n (st:St)=>∃d g,Iv (Qa4 N a n d g) Q ((∃c b,st.n=65/\pt st 1 64 c 6/\pt st 2 128 b 3/\st.t 6=vi d/\st.t 7=vi g/\bx st 64 c 28 6 (e28 a)/\bx st 128 b 363 3 [vi 0,vi 0,vu 0]))
abbrev QkD:=λN e f a Q n (st:St)=>∃g d,Iv (Qd7 N e f a n g d) Q ((∃b c,st.n=90/\r52 st 2112 b d/\pt st 2 128 c 6/\st.t 6=vu f.1/\ol st 8 2112 b 1 d.length/\st.t 44=s52 a.1/\st.t 45=vi a.1.length/\st.t 46=vi g/\bx st 128 c 28 6 (e28 e)))
abbrev Qix:=λN a e l Q n (st:St)=>∃b c d g h i j k,Iv (Qcw N a e l n b c d g h i j k) Q ((st.n=90/\pt st 0 1000000 0 16/\st.t 14=vi a.h.p.length/\st.t 15=vi l/\st.t 35=s52 e.1/\st.t 36=vi e.1.length/\st.t 37=vi b/\bx st 1000000 0 142 16 [vi c,vi d,s52 g,Yn h,vi i,vi j,s52 a.o,s3 a.t,s52 a.q,vi a.d,vi a.r.j,vi a.r.K,vi k,vi a.r.E,vi a.r.f,vi a.r.y]))
abbrev Qiy:=λN a Q n (st:St)=>∃b c d g h i j k,Iv (Qdk N a n b c d g h i j k) Q ((st.n=90/\pt st 0 1000000 0 16/\st.t 14=vi a.h.p.length/\st.t 15=vi b/\bx st 1000000 0 142 16 [vi c,vi d,s52 g,Yn h,vi i,vi j,s52 a.o,s3 a.t,s52 a.q,vi a.d,vi a.r.j,vi a.r.K,vi k,vi a.r.E,vi a.r.f,vi a.r.y]))
abbrev Qmg:=λN a e f Q n (st:St)=>∃i h,Iv (Qf4 N a e f n i h) Q ((∃g b c d,st.n=96/\r3 st 2688 g h/\st.t 1=s52 e/\pt st 2 128 b 6/\pt st 4 256 c 2/\st.t 6=s52 f.1/\pt st 8 512 d 2/\st.t 9=vi i/\bx st 128 b 28 6 (e28 a)/\bx st 256 c 69 2 [.nsl,.nsl]/\bx st 512 d 69 2 [.osl 2688 g 1 0 h.length,.nsl])\/(∃b c d,(st.n=96/\st.t 1=s52 e/\pt st 2 128 b 6/\pt st 4 256 c 2/\st.t 6=s52 f.1/\pt st 8 512 d 2/\st.t 9=vi i/\bx st 128 b 28 6 (e28 a)/\bx st 256 c 69 2 [.nsl,.nsl]/\bx st 512 d 69 2 [.nsl,.nsl])/\h=[]))
abbrev Qmh:=λN f p e a o m Q n (st:St)=>∃l k,Iv (Qex N f p e a o m n l k) Q ((∃i b j c d g h,st.n=96/\r3 st 2688 i e/\r52 st 4160 b k/\Xpu st 5952 j m/\pt st 2 128 c 6/\pt st 4 256 d 2/\st.t 6=s52 p.1/\pt st 8 512 g 2/\st.t 10=vi o/\pt st 11 704 h 3/\ol st 13 4160 b 1 k.length/\st.t 15=vi l/\bx st 128 c 28 6 (e28 f)/\bx st 256 d 69 2 [.nsl,.nsl]/\bx st 512 g 69 2 [.osl 2688 i 1 0 e.length,.osl 5952 j 4 0 m.length]/\bx st 704 h 59 3 (e59 a.1))\/(∃b j c d g h,(st.n=96/\r52 st 4160 b k/\Xpu st 5952 j m/\pt st 2 128 c 6/\pt st 4 256 d 2/\st.t 6=s52 p.1/\pt st 8 512 g 2/\st.t 10=vi o/\pt st 11 704 h 3/\ol st 13 4160 b 1 k.length/\st.t 15=vi l/\bx st 128 c 28 6 (e28 f)/\bx st 256 d 69 2 [.nsl,.nsl]/\bx st 512 g 69 2 [.nsl,.osl 5952 j 4 0 m.length]/\bx st 704 h 59 3 (e59 a.1))/\e=[])\/(∃i b c d g h,(st.n=96/\r3 st 2688 i e/\r52 st 4160 b k/\pt st 2 128 c 6/\pt st 4 256 d 2/\st.t 6=s52 p.1/\pt st 8 512 g 2/\st.t 10=vi o/\pt st 11 704 h 3/\ol st 13 4160 b 1 k.length/\st.t 15=vi l/\bx st 128 c 28 6 (e28 f)/\bx st 256 d 69 2 [.nsl,.nsl]/\bx st 512 g 69 2 [.osl 2688 i 1 0 e.length,.nsl]/\bx st 704 h 59 3 (e59 a.1))/\m=[])\/(∃b c d g h,(st.n=96/\r52 st 4160 b k/\pt st 2 128 c 6/\pt st 4 256 d 2/\st.t 6=s52 p.1/\pt st 8 512 g 2/\st.t 10=vi o/\pt st 11 704 h 3/\ol st 13 4160 b 1 k.length/\st.t 15=vi l/\bx st 128 c 28 6 (e28 f)/\bx st 256 d 69 2 [.nsl,.nsl]/\bx st 512 g 69 2 [.nsl,.nsl]/\bx st 704 h 59 3 (e59 a.1))/\m=[]/\e=[]))
abbrev Qmi:=λN e f a Q n (st:St)=>∃j i,Iv (Qf5 N e f a n j i) Q ((∃g h b c d,st.n=96/\r3 st 2688 g a/\Xpu st 5952 h i/\pt st 2 128 b 6/\pt st 4 256 c 2/\st.t 6=s52 f.1/\pt st 8 512 d 2/\st.t 10=vi j/\bx st 128 b 28 6 (e28 e)/\bx st 256 c 69 2 [.nsl,.nsl]/\bx st 512 d 69 2 [.osl 2688 g 1 0 a.length,.osl 5952 h 4 0 i.length])\/(∃h b c d,(st.n=96/\Xpu st 5952 h i/\pt st 2 128 b 6/\pt st 4 256 c 2/\st.t 6=s52 f.1/\pt st 8 512 d 2/\st.t 10=vi j/\bx st 128 b 28 6 (e28 e)/\bx st 256 c 69 2 [.nsl,.nsl]/\bx st 512 d 69 2 [.nsl,.osl 5952 h 4 0 i.length])/\a=[])\/(∃g b c d,(st.n=96/\r3 st 2688 g a/\pt st 2 128 b 6/\pt st 4 256 c 2/\st.t 6=s52 f.1/\pt st 8 512 d 2/\st.t 10=vi j/\bx st 128 b 28 6 (e28 e)/\bx st 256 c 69 2 [.nsl,.nsl]/\bx st 512 d 69 2 [.osl 2688 g 1 0 a.length,.nsl])/\i=[])\/(∃b c d,(st.n=96/\pt st 2 128 b 6/\pt st 4 256 c 2/\st.t 6=s52 f.1/\pt st 8 512 d 2/\st.t 10=vi j/\bx st 128 b 28 6 (e28 e)/\bx st 256 c 69 2 [.nsl,.nsl]/\bx st 512 d 69 2 [.nsl,.nsl])/\i=[]/\a=[]))
def g37.sp{p:Prop}(h:p:=by first|((first|(simp only[go_sem,simprocAttr]at hk;refine⟨_,UP _,?_⟩;exact zv)|((with_reducible refine lp (Qju N _) hr N ?_ (λ_ p q=>⟨_,_,p,q,?_⟩) _);have lq:=@Qbd.eq_2;exact zr)|((with_reducible refine lp (Qjv N _) hr N ?_ (λ_ p q=>⟨_,_,_,p,q,?_⟩) _);have lq:=@Qa4.eq_2;exact zr)|((with_reducible refine lp (QkD N _ _ _) hr N ?_ (λ_ p q=>⟨_,_,_,p,q,?_⟩) _);have lq:=@Qd7.eq_2;exact zr)|((with_reducible refine lp (Qix N _ _ _) hr N ?_ (λ_ p q=>⟨_,_,_,_,_,_,_,_,_,p,q,?_⟩) _);have lq:=@Qcw.eq_2;exact zr)|((with_reducible refine lp (Qiy N _) hr N ?_ (λ_ p q=>⟨_,_,_,_,_,_,_,_,_,p,q,?_⟩) _);have lq:=@Qdk.eq_2;exact zr)|((with_reducible refine lp (Qmg N _ _ _) hr N ?_ (λ_ p q=>⟨_,_,_,p,q,?_⟩) _);have lq:=@Qf4.eq_2;exact zr)|((with_reducible refine lp (Qmh N _ _ _ _ _ _) hr N ?_ (λ_ p q=>⟨_,_,_,p,q,?_⟩) _);have lq:=@Qex.eq_2;exact zr)|((with_reducible refine lp (Qmi N _ _ _) hr N ?_ (λ_ p q=>⟨_,_,_,p,q,?_⟩) _);have lq:=@Qf5.eq_2;exact zr)|refine dq 69 12 hf [(11,[],[1000000]),(14,[1000000],[])] ?_|refine dq 14 8 hf [(0,[],[2624]),(1,[],[2624]),(9,[2624],[]),(10,[2688],[]),(12,[512],[])] ?_|refine dq 14 12 hf [(0,[],[704]),(1,[],[704]),(2,[],[704]),(3,[],[704]),(4,[],[704]),(5,[],[704]),(6,[],[704]),(7,[],[704]),(8,[],[704]),(9,[704],[]),(10,[704],[])] ?_|refine dq 14 13 hf [(5,[4160],[])] ?_)<;>exact zz)|fail):p:=h
def g37.g:(∀N(a0:Wi),O1 (Qe8 N a0) 282 [c28 a0] (λr=>XrJ r))/\(∀N(a0:Wi)(a1:Int),O1 (Qgs N a0 a1) 281 [c28 a0,vi a1] (λr=>.tup [vu r.1,vb r.2]))/\(∀N a0,OK (QeH N a0) 69 [.ept 1000000 0 16 0 0] [.arr true 142 16 [[vi a0.h.c.W,vi a0.h.c.p,s52 a0.h.w,Yn a0.h.p,vi a0.h.s,vi a0.h.b,s52 a0.o,s3 a0.t,s52 a0.q,vi a0.d,vi a0.r.j,vi a0.r.K,vi a0.r.F,vi a0.r.E,vi a0.r.f,vi a0.r.y]] 0] (λr=>.tup []) λr=>[.arr true 142 16 [[vi r.h.c.W,vi r.h.c.p,s52 r.h.w,Yn r.h.p,vi r.h.s,vi r.h.b,s52 r.o,s3 r.t,s52 r.q,vi r.d,vi r.r.j,vi r.r.K,vi r.r.F,vi r.r.E,vi r.r.f,vi r.r.y]] 0])/\(∀N(a0:Wi)(a1:List Int),O1 (Qfh N a0 a1) 14 [c28 a0,s52 a1] (λr=>.tup [c69 r.1,vi r.2])):=by refine⟨λN _=>rk f282 ?_,λN _ _=>rk f281 ?_,λN _=>rk f69 ?_,λN _ _=>rk f14 ?_⟩<;>(simp only[f282,f281,f69,f14,Option.get!,Qe8,Qgs,QeH,Qfh];exact zh)
abbrev Qmj:=g37.g.1
abbrev Qnr:=g37.g.2.1
abbrev Qlm:=g37.g.2.2.1
abbrev Qoc:=g37.g.2.2.2
attribute [instance] Qmj Qnr Qlm Qoc
abbrev Qiz:=λN Q n (st:St)=>∃d g c,Iv (Qcv N n d g c) Q ((∃b,st.n=42/\Xtm st 512 b c/\ol st 0 512 b 4 c.length/\st.t 1=.clo (.func 176) [] []/\st.t 5=vi d/\st.t 6=vi g))
instance Qo7:∀N(a0:Wi),O1 (QdU N a0) 104 [c28 a0] (λr=>.tup [s52 r.1,vi r.2]):=by
 refineλN _=>rk f104 ?_<;>(rintro _ hw r hr C _ rfl hwf hf;simp only[f104,Option.get!];(rw[QdU]at hr);repeat' first
 |(refine El.el hr ?_;clear hr;intro hr)
 |(with_reducible intro h;refine Y8 hr h ?_;clear hr;intro hr)
 |with_reducible intro _
 |(refine Yv hr ?_;rintro rfl;have hr:=hk;clear hk)
 |simp only[go_sem,simprocAttr,E,Fq,JJ,Wu,WC,UM]
 |(with_reducible first|apply XV|apply XU|apply YM)
 |((first|with_reducible refine Jx hr ah ?_ ?_|(with_reducible refine Jh hr ?_ ?_;rotate_left;intro p;rotate_right));(·simp only[go_sem,simprocAttr,Wu,WC,UM]);intro hp hn hd hr;(try have JJ:=hd _ VM;simp only[go_sem,simprocAttr]at JJ))
 |(refine YN ?_ ?_;.first|assumption|omega|(dsimp only at *;omega))
 |(refine CallX.inl (f:=175) 4800 (fn:=f175) (rs:=[.tmp 4]) (nt:=42) 1000 ae (λx=>?_) _;simp only[f175,Option.get!])
 |(with_reducible first|refine CallX.c ?_ _|refine OK.c hr hw ?_ (λy hr=>?_) _)
 |(with_reducible refine lp (Qiz N) hr N ?_ (λ_ p q=>⟨_,_,_,_,p,q,?_⟩) _;clear hr;(try clear Fq);rintro n1 st ⟨_,_,_,_,hr,hk,⟨_,Fq⟩⟩<;>(obtain _|n1:=n1<;>rw[Qcv]at hr))
 |refine⟨_,UP _,_,_,_,_,hr,hk,?_⟩
 |(refine Yv hr ?_;rintro rfl;with_reducible refine ZS ?_)
 |exact Xbn hr
 |exact Xav hr
 |(apply Xaw;assumption)
 |((first|refine Y8 (c:=true) hr rfl ?_|refine Y8 (c:=false) hr rfl ?_|refine Y8 hr ah ?_);intro hr)
 |omega)
end Go.Sx
