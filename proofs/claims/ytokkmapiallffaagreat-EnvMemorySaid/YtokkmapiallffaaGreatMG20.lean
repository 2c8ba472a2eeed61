import Derived.Test.YtokkmapiallffaaGreatMG17
set_option linter.all false
namespace Go.Sx
open Go.Proofs Tryz
set_option maxRecDepth 10000
set_option maxHeartbeats 100000000
abbrev Qjw:=λN a Q n (st:St)=>∃d,Iv (Qa6 N a n d) Q ((∃c b,st.n=64/\pt st 1 64 c 6/\pt st 2 128 b 3/\st.t 12=Yn a.p/\st.t 13=vi a.p.length/\st.t 14=vi d/\bx st 64 c 28 6 (e28 a)/\bx st 128 b 249 3 [vi 0,vi 0,vu 0]))
abbrev QhS:=λN f a d h e Q n (st:St)=>∃g,Iv (QaO N f a d h e n g) Q ((∃c b,st.n=83/\pt st 1 64 c 6/\pt st 2 128 b 3/\st.t 3=s52 a.1/\st.t 7=vu h/\st.t 24=s52 a.1/\st.t 25=vi a.1.length/\st.t 26=vi d/\st.t 37=s3 e/\st.t 38=vi e.length/\st.t 39=vi g/\bx st 64 c 28 6 (e28 f)/\bx st 128 b 249 3 [vi 0,vi 0,vu 0]))
abbrev QhT:=λN e a Q n (st:St)=>∃d,Iv (Qct N e a n d) Q ((∃c b,st.n=83/\pt st 1 64 c 6/\pt st 2 128 b 3/\st.t 3=s52 a.1/\st.t 5=vu 0/\st.t 24=s52 a.1/\st.t 25=vi a.1.length/\st.t 26=vi d/\bx st 64 c 28 6 (e28 e)/\bx st 128 b 249 3 [vi 0,vi 0,vu 0]))
abbrev QhD:=λN a e f Q n (st:St)=>∃g d,Iv (Qcd N a e f n g d) Q ((∃b c,st.n=80/\r3 st 1600 b d/\st.t 0=s93 a/\pt st 3 192 c 6/\st.t 6=.clo (.func 168) [] []/\st.t 7=s52 f.1/\ol st 9 1600 b 1 d.length/\st.t 26=s93 a/\st.t 27=vi a.length/\st.t 28=vi g/\bx st 192 c 28 6 (e28 e)))
def g40.sp{p:Prop}(h:p:=by first|((first|((with_reducible refine lp (Qjw N _) hr N ?_ (λ_ p q=>⟨_,_,p,q,?_⟩) _);have lq:=@Qa6.eq_2;exact zr)|((with_reducible refine lp (QhS N _ _ _ _ _) hr N ?_ (λ_ p q=>⟨_,_,p,q,?_⟩) _);have lq:=@QaO.eq_2;exact zr)|((with_reducible refine lp (QhT N _ _) hr N ?_ (λ_ p q=>⟨_,_,p,q,?_⟩) _);have lq:=@Qct.eq_2;exact zr)|((with_reducible refine lp (QhD N _ _ _) hr N ?_ (λ_ p q=>⟨_,_,_,p,q,?_⟩) _);have lq:=@Qcd.eq_2;exact zr)|refine dq 95 11 hf [(8,[1600],[])] ?_)<;>exact zz)|fail):p:=h
def g40.g:(∀N(a0:Wi),O1 (QgD N a0) 246 [c28 a0] (λr=>XrH r))/\(∀N(a0:Wi),O1 (Qfu N a0) 247 [c28 a0] (λr=>XrH r))/\(∀N(a0:List UB)(a1:Wi),O1 (Qga N a0 a1) 95 [s93 a0,c28 a1] (λr=>.tup [s3 r.1,vb r.2])):=by refine⟨λN _=>rk f246 ?_,λN _=>rk f247 ?_,λN _ _=>rk f95 ?_⟩<;>(simp only[f246,f247,f95,Option.get!,QgD,Qfu,Qga];exact zh)
abbrev Qmk:=g40.g.1
abbrev Qjx:=g40.g.2.1
abbrev QiA:=g40.g.2.2
attribute [instance] Qmk Qjx QiA
abbrev g39:∀N(a0:Wi),O1 (Qbl N a0) 252 [c28 a0] (λr=>vb r):=by refineλN _=>rk f252 ?_<;>(simp only[f252,Option.get!,Qbl];exact zh)
abbrev Qns:=g39
attribute [instance] Qns
abbrev Qjy:=λN a e f Q n (st:St)=>∃g d,Iv (Qbe N a e f n g d) Q ((∃b c,st.n=103/\r3 st 1664 b d/\st.t 1=s93 e/\pt st 2 128 c 6/\st.t 5=s52 f.1/\ol st 7 1664 b 1 d.length/\st.t 8=vi g/\bx st 128 c 28 6 (e28 a)))
abbrev Qjz:=λN e a Q n (st:St)=>∃d,Iv (QbB N e a n d) Q ((∃b c,st.n=103/\r3 st 1664 b a/\pt st 2 128 c 6/\ol st 7 1664 b 1 a.length/\st.t 9=vi d/\bx st 128 c 28 6 (e28 e)))
abbrev QiB:=λN a c Q n (st:St)=>∃b,Iv (QaC N a c n b) Q ((st.n=36/\st.t 1=s52 a/\st.t 5=s52 c.1/\st.t 7=vi b))
abbrev QjA:=λN a e Q n (st:St)=>∃i h,Iv (QbD N a e n i h) Q ((∃b g c d,st.n=61/\VN st 1472 b h/\pt st 1 64 g 6/\pt st 2 128 c 16/\pt st 4 256 d 16/\st.t 5=vi i/\bx st 64 g 28 6 (e28 a)/\bx st 128 c 266 16 [vi 0,vi 0,.nsl,.nsl,vi 0,vi 0,.nsl,.nsl,.nsl,vi 0,vi 0,vi 0,vi 0,vi 0,vi 0,vi 0]/\bx st 256 d 266 16 [vi a.c.W,vi a.c.p,s52 a.w,.osl 1472 b 4 0 h.length,vi a.s,vi a.b,s52 e.1,.nsl,.nsl,vi 0,vi 0,vi 0,vi 0,vi 0,vi 0,vi 0]))
abbrev Qia:=λN a e Q n (st:St)=>∃c d,Iv (Qbr N a e n c d) Q ((∃b,st.n=65/\st.t 1=vu e/\pt st 2 128 b 6/\st.t 5=vi c/\st.t 6=vi d/\bx st 128 b 28 6 (e28 a)))
abbrev QjB:=λN a Q n (st:St)=>∃d g,Iv (Qcq N a n d g) Q ((∃c b,st.n=50/\pt st 1 64 c 6/\pt st 2 128 b 3/\st.t 5=vi d/\st.t 25=Yn a.p/\st.t 26=vi a.p.length/\st.t 27=vi g/\bx st 64 c 28 6 (e28 a)/\bx st 128 b 249 3 [vi 0,vi 0,vu 0]))
def g41.sp{p:Prop}(h:p:=by first|((first|((with_reducible refine lp (Qjy N _ _ _) hr N ?_ (λ_ p q=>⟨_,_,_,p,q,?_⟩) _);have lq:=@Qbe.eq_2;exact zr)|((with_reducible refine lp (Qjz N _ _) hr N ?_ (λ_ p q=>⟨_,_,p,q,?_⟩) _);have lq:=@QbB.eq_2;exact zr)|((with_reducible refine lp (QiB N _ _) hr N ?_ (λ_ p q=>⟨_,_,p,q,?_⟩) _);have lq:=@QaC.eq_2;exact zr)|((with_reducible refine lp (QjA N _ _) hr N ?_ (λ_ p q=>⟨_,_,_,p,q,?_⟩) _);have lq:=@QbD.eq_2;exact zr)|((with_reducible refine lp (Qia N _ _) hr N ?_ (λ_ p q=>⟨_,_,_,p,q,?_⟩) _);have lq:=@Qbr.eq_2;exact zr)|((with_reducible refine lp (QjB N _) hr N ?_ (λ_ p q=>⟨_,_,_,p,q,?_⟩) _);have lq:=@Qcq.eq_2;exact zr)|refine dq 180 10 hf [(17,[1664],[])] ?_|refine dq 267 9 hf [(0,[],[448]),(1,[],[448]),(2,[],[448]),(3,[],[448]),(4,[],[448]),(5,[],[448]),(6,[],[448]),(7,[448],[]),(8,[448],[])] ?_)<;>exact zz)|fail):p:=h
def g41.g:(∀N(a0:Wi)(a1:List UB),O1 (Qcg N a0 a1) 180 [c28 a0,s93 a1] (λr=>vb r))/\(∀N(a0:Wi)(a1:List Int),O1 (QbC N a0 a1) 181 [c28 a0,s52 a1] (λr=>vb r))/\(∀N(a0:Wi),O1 (Qc4 N a0) 182 [c28 a0] (λr=>.tup [Jw r.1,vi r.2]))/\(∀N(a0:Wi)(a1:Int),O1 (QcS N a0 a1) 267 [c28 a0,vu a1] (λr=>vb r))/\(∀N(a0:Wi),O1 (Qhe N a0) 167 [c28 a0] (λr=>XrH r)):=by refine⟨λN _ _=>rk f180 ?_,λN _ _=>rk f181 ?_,λN _=>rk f182 ?_,λN _ _=>rk f267 ?_,λN _=>rk f167 ?_⟩<;>(simp only[f180,f181,f182,f267,f167,Option.get!,Qcg,QbC,Qc4,QcS,Qhe];exact zh)
abbrev Qml:=g41.g.1
abbrev Qln:=g41.g.2.1
abbrev Qmm:=g41.g.2.2.1
abbrev QkE:=g41.g.2.2.2.1
abbrev Qmn:=g41.g.2.2.2.2
attribute [instance] Qml Qln Qmm QkE Qmn
def g42.sp{p:Prop}(h:p:=by first|((first|refine dq 109 6 hf [(0,[2176],[]),(1,[],[2176]),(2,[],[2176]),(3,[2176],[]),(4,[],[2176]),(5,[],[2176]),(7,[2176],[])] ?_|refine dq 109 7 hf [(0,[],[2176,3136]),(1,[],[2176,3136]),(4,[2176],[]),(5,[],[2176]),(6,[],[2176]),(7,[3136],[]),(8,[2176],[])] ?_|refine dq 206 11 hf [(7,[1600],[])] ?_)<;>exact zz)|fail):p:=h
def g42.g:(∀N(a0:Uj),O1 (QbI N a0) 109 [c38 a0] (λr=>vb r))/\(∀N(a0:Wi)(a1:List UB)(a2:Int),O1 (Qds N a0 a1 a2) 206 [c28 a0,s93 a1,vu a2] (λr=>.tup [c28 r.1,s93 r.2.1,vi r.2.2]))/\(∀N(a0:Wi)(a1:List UB)(a2:Int),O1 (Qfz N a0 a1 a2) 207 [c28 a0,s93 a1,vu a2] (λr=>.tup [c28 r.1,s93 r.2.1,vu r.2.2.1,vi r.2.2.2]))/\(∀N(a0:Wi),O1 (QfJ N a0) 94 [c28 a0] (λr=>vb r)):=by refine⟨λN _=>rk f109 ?_,λN _ _ _=>rk f206 ?_,λN _ _ _=>rk f207 ?_,λN _=>rk f94 ?_⟩<;>(simp only[f109,f206,f207,f94,Option.get!,QbI,Qds,Qfz,QfJ];exact zh)
abbrev Qmo:=g42.g.1
abbrev QkF:=g42.g.2.1
abbrev QnX:=g42.g.2.2.1
abbrev Qnt:=g42.g.2.2.2
attribute [instance] Qmo QkF QnX Qnt
abbrev Qib:=λN e f a Q n (st:St)=>∃i j h,Iv (QaM N e f a n i j h) Q ((∃g b c d,st.n=122/\r52 st 5824 g h/\st.t 2=s52 e/\pt st 6 384 b 6/\pt st 9 576 c 6/\pt st 11 704 d 16/\st.t 13=s52 f.2.1/\ol st 15 5824 g 1 h.length/\st.t 16=vi i/\bx st 384 b 28 6 [vi 0,vi 0,.nsl,.nsl,vi 0,vi 0]/\bx st 576 c 47 6 [vi 0,vi 0,vi 0,vi 0,vi 0,vi 0]/\bx st 704 d 266 16 [vi a.1.h.c.W,vi a.1.h.c.p,s52 a.1.h.w,Yn a.1.h.p,vi a.1.h.s,vi a.1.h.b,s52 a.1.o,s3 a.1.t,s52 a.1.q,vi a.1.d,vi a.1.r.j,vi a.1.r.K,vi a.1.r.F,vi a.1.r.E,vi j,vi a.1.r.y])\/(∃b c d,(st.n=122/\st.t 2=s52 e/\pt st 6 384 b 6/\pt st 9 576 c 6/\pt st 11 704 d 16/\st.t 13=s52 f.2.1/\st.t 15=.nsl/\st.t 16=vi i/\bx st 384 b 28 6 [vi 0,vi 0,.nsl,.nsl,vi 0,vi 0]/\bx st 576 c 47 6 [vi 0,vi 0,vi 0,vi 0,vi 0,vi 0]/\bx st 704 d 266 16 [vi a.1.h.c.W,vi a.1.h.c.p,s52 a.1.h.w,Yn a.1.h.p,vi a.1.h.s,vi a.1.h.b,s52 a.1.o,s3 a.1.t,s52 a.1.q,vi a.1.d,vi a.1.r.j,vi a.1.r.K,vi a.1.r.F,vi a.1.r.E,vi j,vi a.1.r.y])/\h=[]))
def g43.sp{p:Prop}(h:p:=by first|((first|((with_reducible refine lp (Qib N _ _ _) hr N ?_ (λ_ p q=>⟨_,_,_,_,p,q,?_⟩) _);have lq:=@QaM.eq_2;exact zr)|refine dq 110 28 hf [(2,[],[384]),(3,[],[384]),(4,[],[384]),(5,[],[384]),(6,[384],[]),(9,[576],[])] ?_)<;>exact zz)|fail):p:=h
abbrev g43.g:∀N(a0:Wi)(a1:List Int)(a2:List Int),O1 (Qci N a0 a1 a2) 110 [c28 a0,s52 a1,s52 a2] (λr=>.tup [c28 r.1,s52 r.2.1,s52 r.2.2.1,c47 r.2.2.2.1,vi r.2.2.2.2]):=by refineλN _ _ _=>rk f110 ?_<;>(simp only[f110,Option.get!,Qci];exact zh)
abbrev QkG:=g43.g
attribute [instance] QkG
abbrev Qic:=λN f a o q m r u Q n (st:St)=>∃l k,Iv (QaX N f a o q m r u n l k) Q ((∃b i j c d g h,st.n=127/\st.s 3328=some (b,.arr false 52 1 ((a.2.1.take (f.R.length:Int).toNat).map e52) 0)/\r93 st 7872 i k/\pt st 1 64 j 13/\pt st 2 128 c 13/\pt st 3 192 d 6/\st.t 6=s52 a.2.1/\pt st 8 512 g 6/\pt st 10 640 h 13/\st.t 11=vi f.R.length/\st.t 12=vi o.length/\st.t 13=vi q.length/\st.t 14=vi l/\bx st 64 j 38 13 (e38 f)/\bx st 128 c 38 13 [vi 0,vi 0,.nsl,.nsl,vi 0,vi 0,.nsl,.nsl,.nsl,.nsl,.nsl,.nsl,.nsl]/\bx st 192 d 47 6 [vi 0,vi 0,vi 0,vi 0,vi 0,vi 0]/\bx st 512 g 47 6 (e47 a.2.2.2.1)/\bx st 640 h 38 13 [vi a.1.c.W,vi a.1.c.p,s52 a.1.w,Yn a.1.p,vi a.1.s,vi a.1.b,XcS m.1.S,XcR m.1.x,s3 m.1.i,s96 r.1.e,s96 u.1.e,.osl 7872 i 2 0 k.length,.osl 3328 b 1 0 (min ((f.R.length:Int).toNat) a.2.1.length)])\/(∃b j c d g h,(st.n=127/\st.s 3328=some (b,.arr false 52 1 ((a.2.1.take (f.R.length:Int).toNat).map e52) 0)/\pt st 1 64 j 13/\pt st 2 128 c 13/\pt st 3 192 d 6/\st.t 6=s52 a.2.1/\pt st 8 512 g 6/\pt st 10 640 h 13/\st.t 11=vi f.R.length/\st.t 12=vi o.length/\st.t 13=vi q.length/\st.t 14=vi l/\bx st 64 j 38 13 (e38 f)/\bx st 128 c 38 13 [vi 0,vi 0,.nsl,.nsl,vi 0,vi 0,.nsl,.nsl,.nsl,.nsl,.nsl,.nsl,.nsl]/\bx st 192 d 47 6 [vi 0,vi 0,vi 0,vi 0,vi 0,vi 0]/\bx st 512 g 47 6 (e47 a.2.2.2.1)/\bx st 640 h 38 13 [vi a.1.c.W,vi a.1.c.p,s52 a.1.w,Yn a.1.p,vi a.1.s,vi a.1.b,XcS m.1.S,XcR m.1.x,s3 m.1.i,s96 r.1.e,s96 u.1.e,.nsl,.osl 3328 b 1 0 (min ((f.R.length:Int).toNat) a.2.1.length)])/\k=[]))
abbrev Qlo:=λN a c Q n (st:St)=>∃b,Iv (QeF N a c n b) Q ((st.n=41/\st.t 5=s3 c.1/\st.t 26=Yn a.p/\st.t 27=vi a.p.length/\st.t 28=vi b))
abbrev QhU:=λN a f e j Q n (st:St)=>∃i h,Iv (Qb7 N a f e j n i h) Q ((∃c b g d,st.n=61/\r52 st 1728 c e/\VN st 1920 b h/\pt st 1 64 g 6/\pt st 2 128 d 16/\st.t 4=s52 f.1/\ol st 34 1920 b 4 h.length/\st.t 35=vi j.length/\st.t 36=vi i/\bx st 64 g 28 6 [vi a.c.W,vi a.c.p,.osl 1728 c 1 0 e.length,.osl 1920 b 4 0 h.length,vi a.s,vi a.b]/\bx st 128 d 142 16 [vi 0,vi 0,.nsl,.nsl,vi 0,vi 0,.nsl,.nsl,.nsl,vi 0,vi 0,vi 0,vi 0,vi 0,vi 0,vi 0]))
def g45.sp{p:Prop}(h:p:=by first|((first|((with_reducible refine lp (Qic N _ _ _ _ _ _ _) hr N ?_ (λ_ p q=>⟨_,_,_,p,q,?_⟩) _);have lq:=@QaX.eq_2;exact zr)|((with_reducible refine lp (Qlo N _ _) hr N ?_ (λ_ p q=>⟨_,_,p,q,?_⟩) _);have lq:=@QeF.eq_2;exact zr)|((with_reducible refine lp (QhU N _ _ _ _) hr N ?_ (λ_ p q=>⟨_,_,_,p,q,?_⟩) _);have lq:=@Qb7.eq_2;exact zr)|refine dq 56 3 hf [(0,[],[320,512,1728]),(1,[],[320,512,1728]),(2,[],[320,512]),(3,[],[320,512]),(4,[],[320,512]),(5,[],[320,512]),(6,[1728],[320,512]),(7,[1728],[320,512]),(8,[],[320,512]),(9,[],[320,512]),(10,[],[320,512]),(11,[],[320,512]),(12,[],[320,512]),(13,[],[320,512]),(14,[320],[512,1728]),(15,[512],[320,1728]),(16,[320],[]),(19,[512],[])] ?_|refine dq 56 7 hf [(0,[],[3200]),(1,[],[3200]),(2,[],[3200]),(6,[],[3200]),(9,[3200],[])] ?_|refine dq 56 9 hf [(11,[],[640]),(13,[640],[])] ?_|refine dq 56 10 hf [(15,[],[640]),(17,[640],[])] ?_|refine dq 56 15 hf [(0,[],[7808]),(1,[],[7808]),(19,[7808],[]),(20,[7872],[]),(22,[640],[])] ?_|refine dq 56 16 hf [(1,[],[128]),(2,[128],[]),(3,[192],[])] ?_|refine dq 63 8 hf [(2,[1728],[]),(3,[],[1728]),(4,[],[1728]),(5,[1920],[]),(6,[],[1920]),(7,[64],[]),(9,[64],[])] ?_)<;>exact zz)|fail):p:=h
def g45.g:(∀N(a0:Uj),O1 (QaY N a0) 56 [c38 a0] (λr=>.tup [c38 r.1,c47 r.2.1,vi r.2.2]))/\(∀N(a0:Wi)(a1:List UB),O1 (Qhh N a0 a1) 45 [c28 a0,s93 a1] (λr=>vb r))/\(∀N(a0:Wi),O1 (Qez N a0) 63 [c28 a0] (λr=>.tup [XiY r.1,vi r.2])):=by refine⟨λN _=>rk f56 ?_,λN _ _=>rk f45 ?_,λN _=>rk f63 ?_⟩<;>(simp only[f56,f45,f63,Option.get!,QaY,Qhh,Qez];exact zh)
abbrev QkH:=g45.g.1
abbrev QnY:=g45.g.2.1
abbrev QjC:=g45.g.2.2
attribute [instance] QkH QnY QjC
def g44:(∀N(a0:Uj)(a1:Int),O1 (QaZ N a0 a1) 198 [c38 a0,vu a1] (λr=>.tup [vu r.1,vi r.2]))/\(∀N(a0:Wi)(a1:List Int),O1 (QdV N a0 a1) 49 [c28 a0,s52 a1] (λr=>vb r)):=by refine⟨λN _ _=>rk f198 ?_,λN _ _=>rk f49 ?_⟩<;>(simp only[f198,f49,Option.get!,QaZ,QdV];exact zh)
abbrev QkI:=g44.1
abbrev Qlp:=g44.2
attribute [instance] QkI Qlp
def g46.sp{p:Prop}(h:p:=by first|((first|refine dq 16 3 hf [(0,[],[2560]),(1,[],[2560]),(7,[2560],[]),(8,[2560],[])] ?_)<;>exact zz)|fail):p:=h
def g46.g:(∀N(a0:Uj)(a1:Ws),O1 (Qcj N a0 a1) 194 [c38 a0,c59 a1] (λr=>.tup [c38 r.1,vu r.2.1,vi r.2.2]))/\(∀N(a0:Uj)(a1:Int),O1 (QbY N a0 a1) 200 [c38 a0,vu a1] (λr=>.tup [vu r.1,vi r.2]))/\(∀N(a0:Uj)(a1:Int)(a2:Int),O1 (QdR N a0 a1 a2) 120 [c38 a0,vi a1,vu a2] (λr=>.tup [c38 r.1,vu r.2.1,vi r.2.2]))/\(∀N(a0:Uj)(a1:Int)(a2:Int),O1 (QdS N a0 a1 a2) 121 [c38 a0,vi a1,vu a2] (λr=>.tup [c38 r.1,vu r.2.1,vi r.2.2]))/\(∀N(a0:Uj),O1 (QfB N a0) 16 [c38 a0] (λr=>vb r)):=by refine⟨λN _ _=>rk f194 ?_,λN _ _=>rk f200 ?_,λN _ _ _=>rk f120 ?_,λN _ _ _=>rk f121 ?_,λN _=>rk f16 ?_⟩<;>(simp only[f194,f200,f120,f121,f16,Option.get!,Qcj,QbY,QdR,QdS,QfB];exact zh)
abbrev Qmp:=g46.g.1
abbrev Qmq:=g46.g.2.1
abbrev Qlq:=g46.g.2.2.1
abbrev Qlr:=g46.g.2.2.2.1
abbrev QnZ:=g46.g.2.2.2.2
attribute [instance] Qmp Qmq Qlq Qlr QnZ
end Go.Sx
