import Derived.Test.YtokkmapiallffaaGreatMF
set_option linter.all false
namespace Go.Sx
open Go.Proofs Tryz
set_option maxRecDepth 10000
set_option maxHeartbeats 100000000
abbrev QjI:=λN a e Q n (st:St)=>∃c d,Iv (Qd1 N a e n c d) Q ((∃b,st.n=24/\st.t 2=vi e/\pt st 3 192 b 3/\st.t 7=vi c/\st.t 8=vi d/\bx st 192 b 32 3 (e32 a)))
abbrev QiO:=λN a d Q n (st:St)=>∃b c,Iv (Qdx N a d n b c) Q ((st.n=37/\st.t 0=Yn a/\st.t 2=vi d/\st.t 7=vi b/\st.t 8=vi c))
abbrev Qlv:=λN a c Q n (st:St)=>∃b,Iv (Qe9 N a c n b) Q ((st.n=20/\st.t 0=s93 a/\st.t 1=vu c/\st.t 5=vi b))
abbrev QjJ:=λN a Q n (st:St)=>∃d c,Iv (Qbz N a n d c) Q ((∃b,st.n=54/\Xtn st 3328 b c/\st.t 0=Yn a/\ol st 3 3328 b 2 c.length/\st.t 4=vi d)\/((st.n=54/\st.t 0=Yn a/\st.t 3=.nsl/\st.t 4=vi d)/\c=[]))
abbrev QjK:=λN a i e j l Q n (st:St)=>∃m k,Iv (Qbg N a i e j l n m k) Q ((∃c d b g h,st.n=78/\st.s 384=some (c,.arr false 122 4 ((i.set j.toNat (Wo.mk 0 0 0 0)).map YT) 0)/\r52 st 832 d k/\pt st 1 64 b 16/\pt st 2 128 g 16/\st.t 3=vi j/\st.t 5=vi m/\st.t 38=.ept 256 h 4 0 1/\st.t 39=vi e.s/\pt st 40 64 b 16/\st.t 41=.ept 64 b 16 0 4/\st.t 42=vi a.h.s/\st.t 43=.v (.bool (e.s != a.h.s))/\bx st 64 b 266 16 [vi a.h.c.W,vi a.h.c.p,.osl 832 d 1 0 k.length,.osl 384 c 4 0 i.length,vi a.h.s,vi a.h.b,s52 a.o,s3 a.t,s52 a.q,vi a.d,vi a.r.j,vi a.r.K,vi a.r.F,vi (wI (l + 1)),vi a.r.f,vi a.r.y]/\bx st 128 g 266 16 [vi 0,vi 0,.nsl,.nsl,vi 0,vi 0,.nsl,.nsl,.nsl,vi 0,vi 0,vi 0,vi 0,vi 0,vi 0,vi 0]/\bx st 256 h 122 4 (YT e)))
abbrev QjL:=λN a Q n (st:St)=>∃j k h i,Iv (QaN N a n j k h i) Q ((∃b c g d,st.n=78/\VN st 384 b i/\r52 st 832 c h/\pt st 1 64 g 16/\pt st 2 128 d 16/\st.t 3=vi j/\bx st 64 g 266 16 [vi a.h.c.W,vi a.h.c.p,.osl 832 c 1 0 h.length,.osl 384 b 4 0 i.length,vi a.h.s,vi a.h.b,s52 a.o,s3 a.t,s52 a.q,vi a.d,vi a.r.j,vi a.r.K,vi a.r.F,vi k,vi a.r.f,vi a.r.y]/\bx st 128 d 266 16 [vi 0,vi 0,.nsl,.nsl,vi 0,vi 0,.nsl,.nsl,.nsl,vi 0,vi 0,vi 0,vi 0,vi 0,vi 0,vi 0]))
abbrev QjM:=λN a d Q n (st:St)=>∃c,Iv (QeM N a d n c) Q ((∃b,st.n=22/\st.t 1=vu d/\pt st 2 128 b 10/\st.t 5=vi c/\bx st 128 b 42 10 (e42 a)))
abbrev Qhr:=λN a Q n (st:St)=>∃c d,Iv (Qa3 N a n c d) Q ((∃b,st.n=74/\pt st 1 64 b 3/\st.t 3=vi c/\st.t 27=XcR a.l.x/\st.t 28=vi a.l.x.length/\st.t 29=vi d/\bx st 64 b 179 3 (e32 a.l)))
abbrev QjN:=λN a Q n (st:St)=>∃d c,Iv (QeP N a n d c) Q ((∃b,st.n=20/\r52 st 1088 b c/\ol st 3 1088 b 1 c.length/\st.t 7=s93 a.P/\st.t 8=vi a.P.length/\st.t 9=vi d)\/((st.n=20/\st.t 3=.nsl/\st.t 7=s93 a.P/\st.t 8=vi a.P.length/\st.t 9=vi d)/\c=[]))
abbrev QkN:=λN a Q n (st:St)=>∃b c,Iv (Qfs N a n b c) Q ((st.n=14/\st.t 3=vu b/\st.t 6=vi (if 64 < (if a < 0 then 0 else a)then 64 else(if a < 0 then 0 else a))/\st.t 7=vi c))
abbrev QgR:=λN a c Q n (st:St)=>∃b,Iv (Qay N a c n b) Q ((st.n=19/\st.t 0=s52 a/\st.t 1=vu c/\st.t 7=vi a.length/\st.t 8=vi b))
abbrev QjO:=λN a Q n (st:St)=>∃b c,Iv (Qdt N a n b c) Q ((st.n=19/\st.t 3=vi b/\st.t 6=Yn a/\st.t 7=vi a.length/\st.t 8=vi c))
abbrev QjP:=λN a c Q n (st:St)=>∃b,Iv (QeT N a c n b) Q ((st.n=26/\st.t 0=s52 a/\st.t 1=s52 c/\st.t 5=vi b))
def g5.sp{p:Prop}(h:p:=by first|((first|((with_reducible refine lp (QjI N _ _) hr N ?_ (λ_ p q=>⟨_,_,_,p,q,?_⟩) _);have lq:=@Qd1.eq_2;exact zr)|((with_reducible refine lp (QiO N _ _) hr N ?_ (λ_ p q=>⟨_,_,_,p,q,?_⟩) _);have lq:=@Qdx.eq_2;exact zr)|((with_reducible refine lp (Qlv N _ _) hr N ?_ (λ_ p q=>⟨_,_,p,q,?_⟩) _);have lq:=@Qe9.eq_2;exact zr)|((with_reducible refine lp (QjJ N _) hr N ?_ (λ_ p q=>⟨_,_,_,p,q,?_⟩) _);have lq:=@Qbz.eq_2;exact zr)|((with_reducible refine lp (QjK N _ _ _ _ _) hr N ?_ (λ_ p q=>⟨_,_,_,p,q,?_⟩) _);have lq:=@Qbg.eq_2;exact zr)|((with_reducible refine lp (QjL N _) hr N ?_ (λ_ p q=>⟨_,_,_,_,_,p,q,?_⟩) _);have lq:=@QaN.eq_2;exact zr)|((with_reducible refine lp (QjM N _ _) hr N ?_ (λ_ p q=>⟨_,_,p,q,?_⟩) _);have lq:=@QeM.eq_2;exact zr)|((with_reducible refine lp (Qhr N _) hr N ?_ (λ_ p q=>⟨_,_,_,p,q,?_⟩) _);have lq:=@Qa3.eq_2;exact zr)|((with_reducible refine lp (QjN N _) hr N ?_ (λ_ p q=>⟨_,_,_,p,q,?_⟩) _);have lq:=@QeP.eq_2;exact zr)|((with_reducible refine lp (QkN N _) hr N ?_ (λ_ p q=>⟨_,_,_,p,q,?_⟩) _);have lq:=@Qfs.eq_2;exact zr)|((with_reducible refine lp (QgR N _ _) hr N ?_ (λ_ p q=>⟨_,_,p,q,?_⟩) _);have lq:=@Qay.eq_2;exact zr)|((with_reducible refine lp (QjO N _) hr N ?_ (λ_ p q=>⟨_,_,_,p,q,?_⟩) _);have lq:=@Qdt.eq_2;exact zr)|((with_reducible refine lp (QjP N _ _) hr N ?_ (λ_ p q=>⟨_,_,p,q,?_⟩) _);have lq:=@QeT.eq_2;exact zr))<;>exact zz)|fail):p:=h
def g5.g:(∀N(a0:Wq)(a1:Int)(a2:Int),O1 (Qgl N a0 a1 a2) 149 [c32 a0,vi a1,vi a2] (λr=>vi r))/\(∀N(a0:List Wo)(a1:Int)(a2:Int),O1 (Qe7 N a0 a1 a2) 52 [Yn a0,vi a1,vi a2] (λr=>vi r))/\(∀N(a0:List UB)(a1:Int),O1 (QgK N a0 a1) 253 [s93 a0,vu a1] (λr=>vi r))/\(∀N(a0:List Wo),O1 (Qgm N a0) 306 [Yn a0] (λr=>Xps r))/\(∀N(a0:Wv),O1 (Qej N a0) 186 [Jw a0] (λr=>Jw r))/\(∀N(a0:WP)(a1:Int),O1 (QfF N a0 a1) 190 [c42 a0,vu a1] (λr=>vi r))/\(∀N(a0:IQ),O1 (Qdu N a0) 98 [Xpt a0] (λr=>vb r))/\(∀N(a0:Uj),O1 (Qhj N a0) 71 [c38 a0] (λr=>s52 r))/\(∀N(a0:Int),O1 (Qc1 N a0) 153 [vi a0] (λr=>vu r))/\(∀N(a0:List Int)(a1:Int),O1 (QbV N a0 a1) 103 [s52 a0,vu a1] (λr=>vi r))/\(∀N(a0:List Wo),O1 (Qgt N a0) 237 [Yn a0] (λr=>vi r))/\(∀N(a0:List Int)(a1:List Int),O1 (Qg6 N a0 a1) 44 [s52 a0,s52 a1] (λr=>vb r)):=by refine⟨λN _ _ _=>rk f149 ?_,λN _ _ _=>rk f52 ?_,λN _ _=>rk f253 ?_,λN _=>rk f306 ?_,λN _=>rk f186 ?_,λN _ _=>rk f190 ?_,λN _=>rk f98 ?_,λN _=>rk f71 ?_,λN _=>rk f153 ?_,λN _ _=>rk f103 ?_,λN _=>rk f237 ?_,λN _ _=>rk f44 ?_⟩<;>(simp only[f149,f52,f253,f306,f186,f190,f98,f71,f153,f103,f237,f44,Option.get!,Qgl,Qe7,QgK,Qgm,Qej,QfF,Qdu,Qhj,Qc1,QbV,Qgt,Qg6];exact zh)
abbrev Qmy:=g5.g.1
abbrev Qlw:=g5.g.2.1
abbrev Qn5:=g5.g.2.2.1
abbrev Qmz:=g5.g.2.2.2.1
abbrev QmA:=g5.g.2.2.2.2.1
abbrev QmB:=g5.g.2.2.2.2.2.1
abbrev Qhy:=g5.g.2.2.2.2.2.2.1
abbrev QmC:=g5.g.2.2.2.2.2.2.2.1
abbrev Qnw:=g5.g.2.2.2.2.2.2.2.2.1
abbrev Qhb:=g5.g.2.2.2.2.2.2.2.2.2.1
abbrev QmD:=g5.g.2.2.2.2.2.2.2.2.2.2.1
abbrev QmE:=g5.g.2.2.2.2.2.2.2.2.2.2.2
attribute [instance] Qmy Qlw Qn5 Qmz QmA QmB Qhy QmC Qnw Qhb QmD QmE
def g2:(∀N(a0:WN),O1 (QaR N a0) 39 [c24 a0] (λr=>vb r))/\(∀N(a0:Int),O1 (QgU N a0) 51 [vi a0] (λr=>vb r))/\(∀N(a0:Wi)(a1:Int)(a2:Int),O1 (QfN N a0 a1 a2) 311 [c28 a0,vi a1,vi a2] (λr=>vu r))/\(∀N(a0:Int),O1 (QcR N a0) 286 [vu a0] (λr=>.tup [vu r.1,vi r.2]))/\(∀N(a0:Ix),O1 (Qhc N a0) 263 [XrI a0] (λr=>vb r))/\(∀N(a0:Uj)(a1:Uj)(a2:Int)(a3:Int)(a4:Int),O1 (QeN N a0 a1 a2 a3 a4) 59 [c38 a0,c38 a1,vi a2,vu a3,vi a4] (λr=>Xtk r))/\(∀N(a0:IQ)(a1:Int),O1 (QdT N a0 a1) 171 [Xpt a0,vi a1] (λr=>XcS r))/\(∀N(a0:WN),O1 (Qb1 N a0) 151 [c24 a0] (λr=>vb r))/\(∀N(a0:Wo),O1 (Qdm N a0) 277 [XiZ a0] (λr=>vb r))/\(∀N(a0:Int),O1 (Qg2 N a0) 296 [vu a0] (λr=>vb r))/\(∀N(a0:Int),O1 (Qdv N a0) 179 [vu a0] (λr=>vb r))/\(∀N a0 a1,OK (QdZ N a0 a1) 26 [vi a0,.ept 1000000 0 1 0 0] [.arr true 25 1 [[s52 a1]] 0] (λr=>s52 r.1) λr=>[.arr true 25 1 [[s52 r.2]] 0]):=by refine⟨λN _=>rk f39 ?_,λN _=>rk f51 ?_,λN _ _ _=>rk f311 ?_,λN _=>rk f286 ?_,λN _=>rk f263 ?_,λN _ _ _ _ _=>rk f59 ?_,λN _ _=>rk f171 ?_,λN _=>rk f151 ?_,λN _=>rk f277 ?_,λN _=>rk f296 ?_,λN _=>rk f179 ?_,λN _ _=>rk f26 ?_⟩<;>(simp only[f39,f51,f311,f286,f263,f59,f171,f151,f277,f296,f179,f26,Option.get!,QaR,QgU,QfN,QcR,Qhc,QeN,QdT,Qb1,Qdm,Qg2,Qdv,QdZ];exact zh)
abbrev Qih:=g2.1
abbrev QmF:=g2.2.1
abbrev QjQ:=g2.2.2.1
abbrev QjR:=g2.2.2.2.1
abbrev Qlx:=g2.2.2.2.2.1
abbrev QjS:=g2.2.2.2.2.2.1
abbrev QhB:=g2.2.2.2.2.2.2.1
abbrev QiP:=g2.2.2.2.2.2.2.2.1
abbrev QhI:=g2.2.2.2.2.2.2.2.2.1
abbrev QkO:=g2.2.2.2.2.2.2.2.2.2.1
abbrev Qhz:=g2.2.2.2.2.2.2.2.2.2.2.1
abbrev Qii:=g2.2.2.2.2.2.2.2.2.2.2.2
attribute [instance] Qih QmF QjQ QjR Qlx QjS QhB QiP QhI QkO Qhz Qii
abbrev QiQ:=λN a Q n (st:St)=>∃c,Iv (QcW N a n c) Q ((∃b,st.n=39/\pt st 1 64 b 1/\st.t 3=vi c/\bx st 64 b 35 1 [s96 a.e]))
abbrev QkP:=λN a c Q n (st:St)=>∃b,Iv (Qfo N a c n b) Q ((st.n=18/\st.t 0=s52 a/\st.t 1=vu c/\st.t 5=vi b))
abbrev QjT:=λN a Q n (st:St)=>∃c,Iv (QcO N a n c) Q ((∃b,st.n=15/\st.t 1=vi c/\pt st 2 128 b 6/\bx st 128 b 28 6 (e28 a)))
abbrev QiR:=λN a d Q n (st:St)=>∃c,Iv (QcY N a d n c) Q ((∃b,st.n=20/\st.t 1=vi d/\pt st 2 128 b 16/\st.t 5=vi c/\bx st 128 b 266 16 (Xte a)))
abbrev QjU:=λN a e f i Q n (st:St)=>∃h g,Iv (Qd2 N a e f i n h g) Q ((∃b c d,st.n=57/\VN st 1920 b g/\st.t 1=vi a/\st.t 2=vi e/\pt st 8 512 c 4/\pt st 9 576 d 4/\ol st 12 1920 b 4 g.length/\st.t 13=vi h/\bx st 512 c 122 4 (YT f)/\bx st 576 d 122 4 (YT i)))
abbrev Qij:=λN a d Q n (st:St)=>∃c,Iv (Qdf N a d n c) Q ((∃b,st.n=21/\st.t 1=s52 d/\pt st 2 128 b 10/\st.t 5=vi c/\bx st 128 b 42 10 (e42 a)))
abbrev QiS:=λN a Q n (st:St)=>∃b c,Iv (QbF N a n b c) Q ((st.n=20/\st.t 0=Yn a/\st.t 3=vi b/\st.t 4=vi c))
abbrev Qhl:=λN a Q n (st:St)=>∃c d,Iv (Qbb N a n c d) Q ((∃b,st.n=51/\pt st 1 64 b 3/\st.t 3=vi c/\st.t 8=XcS a.l.S/\st.t 9=vi a.l.S.length/\st.t 10=vi d/\bx st 64 b 179 3 (e32 a.l)))
abbrev QhJ:=λN a Q n (st:St)=>∃d c,Iv (Qdn N a n d c) Q ((∃b,st.n=19/\r52 st 1024 b c/\ol st 3 1024 b 1 c.length/\st.t 6=XmB a/\st.t 7=vi a.length/\st.t 8=vi d)\/((st.n=19/\st.t 3=.nsl/\st.t 6=XmB a/\st.t 7=vi a.length/\st.t 8=vi d)/\c=[]))
abbrev QjV:=λN a Q n (st:St)=>∃c,Iv (QeQ N a n c) Q ((∃b,st.n=19/\st.t 1=vi c/\pt st 2 128 b 6/\bx st 128 b 28 6 (e28 a)))
abbrev Qhm:=λN a c Q n (st:St)=>∃b,Iv (QbN N a c n b) Q ((st.n=19/\st.t 0=s3 a/\st.t 1=vi c/\st.t 7=vi a.length/\st.t 8=vi b))
abbrev Qik:=λN a c Q n (st:St)=>∃b,Iv (Qd0 N a c n b) Q ((st.n=20/\st.t 0=s52 a/\st.t 1=vu c/\st.t 5=vi b))
def g4.sp{p:Prop}(h:p:=by first|((first|((with_reducible refine lp (QiQ N _) hr N ?_ (λ_ p q=>⟨_,_,p,q,?_⟩) _);have lq:=@QcW.eq_2;exact zr)|((with_reducible refine lp (QkP N _ _) hr N ?_ (λ_ p q=>⟨_,_,p,q,?_⟩) _);have lq:=@Qfo.eq_2;exact zr)|((with_reducible refine lp (QjT N _) hr N ?_ (λ_ p q=>⟨_,_,p,q,?_⟩) _);have lq:=@QcO.eq_2;exact zr)|((with_reducible refine lp (QiR N _ _) hr N ?_ (λ_ p q=>⟨_,_,p,q,?_⟩) _);have lq:=@QcY.eq_2;exact zr)|((with_reducible refine lp (QjU N _ _ _ _) hr N ?_ (λ_ p q=>⟨_,_,_,p,q,?_⟩) _);have lq:=@Qd2.eq_2;exact zr)|((with_reducible refine lp (Qij N _ _) hr N ?_ (λ_ p q=>⟨_,_,p,q,?_⟩) _);have lq:=@Qdf.eq_2;exact zr)|((with_reducible refine lp (QiS N _) hr N ?_ (λ_ p q=>⟨_,_,_,p,q,?_⟩) _);have lq:=@QbF.eq_2;exact zr)|((with_reducible refine lp (Qhl N _) hr N ?_ (λ_ p q=>⟨_,_,_,p,q,?_⟩) _);have lq:=@Qbb.eq_2;exact zr)|((with_reducible refine lp (QhJ N _) hr N ?_ (λ_ p q=>⟨_,_,_,p,q,?_⟩) _);have lq:=@Qdn.eq_2;exact zr)|((with_reducible refine lp (QjV N _) hr N ?_ (λ_ p q=>⟨_,_,p,q,?_⟩) _);have lq:=@QeQ.eq_2;exact zr)|((with_reducible refine lp (Qhm N _ _) hr N ?_ (λ_ p q=>⟨_,_,p,q,?_⟩) _);have lq:=@QbN.eq_2;exact zr)|((with_reducible refine lp (Qik N _ _) hr N ?_ (λ_ p q=>⟨_,_,p,q,?_⟩) _);have lq:=@Qd0.eq_2;exact zr))<;>exact zz)|fail):p:=h
def g4.g:(∀N(a0:WD),O1 (Qce N a0) 30 [c35 a0] (λr=>vb r))/\(∀N(a0:List Int)(a1:Int),O1 (QbL N a0 a1) 32 [s52 a0,vu a1] (λr=>vb r))/\(∀N(a0:Wi)(a1:Int),O1 (QeX N a0 a1) 308 [c28 a0,vi a1] (λr=>vi r))/\(∀N(a0:Wv)(a1:Int),O1 (QgA N a0 a1) 288 [Jw a0,vi a1] (λr=>vb r))/\(∀N(a0:List Wo)(a1:Int)(a2:Int)(a3:Wo)(a4:Wo),O1 (Qdd N a0 a1 a2 a3 a4) 307 [Yn a0,vi a1,vi a2,Xtj a3,Xtj a4] (λr=>.tup [.fsl 122 4 (r.1.map YT),vi r.2]))/\(∀N(a0:WP)(a1:List Int),O1 (Qdg N a0 a1) 188 [c42 a0,s52 a1] (λr=>vb r))/\(∀N(a0:List Wo),O1 (QcF N a0) 302 [Yn a0] (λr=>vi r))/\(∀N(a0:IQ),O1 (Qdh N a0) 99 [Xpt a0] (λr=>vb r))/\(∀N(a0:List UT),O1 (Qcn N a0) 174 [XmB a0] (λr=>s52 r))/\(∀N(a0:Wi)(a1:Int),O1 (Qg1 N a0 a1) 295 [c28 a0,vi a1] (λr=>vi r))/\(∀N(a0:List Int)(a1:Int),O1 (Qem N a0 a1) 292 [s3 a0,vi a1] (λr=>vi r))/\(∀N(a0:List Int)(a1:Int),O1 (Qfw N a0 a1) 40 [s52 a0,vu a1] (λr=>vi r)):=by refine⟨λN _=>rk f30 ?_,λN _ _=>rk f32 ?_,λN _ _=>rk f308 ?_,λN _ _=>rk f288 ?_,λN _ _ _ _ _=>rq f307 [1920] ?_,λN _ _=>rk f188 ?_,λN _=>rk f302 ?_,λN _=>rk f99 ?_,λN _=>rk f174 ?_,λN _ _=>rk f295 ?_,λN _ _=>rk f292 ?_,λN _ _=>rk f40 ?_⟩<;>(simp only[f30,f32,f308,f288,f307,f188,f302,f99,f174,f295,f292,f40,Option.get!,Qce,QbL,QeX,QgA,Qdd,Qdg,QcF,Qdh,Qcn,Qg1,Qem,Qfw];exact zh)
abbrev Qly:=g4.g.1
abbrev Qnx:=g4.g.2.1
abbrev QmG:=g4.g.2.2.1
abbrev Qlz:=g4.g.2.2.2.1
abbrev QmH:=g4.g.2.2.2.2.1
abbrev QkQ:=g4.g.2.2.2.2.2.1
abbrev QlA:=g4.g.2.2.2.2.2.2.1
abbrev Qhv:=g4.g.2.2.2.2.2.2.2.1
abbrev QiT:=g4.g.2.2.2.2.2.2.2.2.1
abbrev QmI:=g4.g.2.2.2.2.2.2.2.2.2.1
abbrev Qhw:=g4.g.2.2.2.2.2.2.2.2.2.2.1
abbrev QkR:=g4.g.2.2.2.2.2.2.2.2.2.2.2
attribute [instance] Qly Qnx QmG Qlz QmH QkQ QlA Qhv QiT QmI Qhw QkR
def g1.sp{p:Prop}(h:p:=by first|((first|refine dq 218 1 hf [(0,[320],[]),(1,[],[320]),(2,[],[320]),(3,[],[320]),(4,[],[320]),(5,[],[320]),(6,[],[320]),(7,[],[320]),(8,[],[320]),(9,[],[320]),(10,[320],[]),(12,[128],[])] ?_)<;>exact zz)|fail):p:=h
def g1.g:(∀N a0 a1,OK (Qaf N a0 a1) 36 [.ept 1000000 0 2 0 0,vi a1] [.arr true 62 2 [[s3 a0.L,vi a0.at_]] 0] (λr=>vi r.1) λr=>[.arr true 62 2 [[s3 r.2.L,vi r.2.at_]] 0])/\(∀N(a0:Wq)(a1:Int),O1 (Qhp N a0 a1) 150 [c32 a0,vi a1] (λr=>vi r))/\(∀N(a0:Ws),O1 (Qc3 N a0) 93 [c59 a0] (λr=>vb r))/\(∀N(a0:Wv)(a1:Int),O1 (QcQ N a0 a1) 283 [Jw a0,vu a1] (λr=>Jw r))/\(∀N(a0:Int)(a1:Int)(a2:Int),O1 (QcE N a0 a1 a2) 125 [vi a0,vu a1,vu a2] (λr=>.tup [c59 r.1,vb r.2]))/\(∀N(a0:Wq)(a1:Int),O1 (QgO N a0 a1) 218 [c32 a0,vi a1] (λr=>c32 r))/\(∀N(a0:W6),O1 (QfS N a0) 102 [c96 a0] (λr=>vb r))/\(∀N(a1:Int),O1 (Qbt N a1) 134 [.nsl,vi a1] (λr=>.fsl 52 1 (r.map e52)))/\(∀N(a0:Wo),O1 (Qb6 N a0) 240 [XiZ a0] (λr=>vb r))/\(∀N(a0:List Int)(a1:Int)(a2:Int),O1 (Qfc N a0 a1 a2) 243 [s52 a0,vu a1,vi a2] (λr=>.tup [vi r.1,vb r.2]))/\(∀N(a0:Int),O1 (QeE N a0) 251 [vu a0] (λr=>vb r))/\(∀N(a0:Int),O1 (Qam N a0) 65 [vi a0] (λr=>.tup [])):=by refine⟨λN _ _=>rk f36 ?_,λN _ _=>rk f150 ?_,λN _=>rk f93 ?_,λN _ _=>rk f283 ?_,λN _ _ _=>rk f125 ?_,λN _ _=>rk f218 ?_,λN _=>rk f102 ?_,λN _=>rq f134 [1408] ?_,λN _=>rk f240 ?_,λN _ _ _=>rk f243 ?_,λN _=>rk f251 ?_,λN _=>rk f65 ?_⟩<;>(simp only[f36,f150,f93,f283,f125,f218,f102,f134,f240,f243,f251,f65,Option.get!,Qaf,Qhp,Qc3,QcQ,QcE,QgO,QfS,Qbt,Qb6,Qfc,QeE,Qam];exact zh)
abbrev QiU:=g1.g.1
abbrev Qn6:=g1.g.2.1
abbrev QlB:=g1.g.2.2.1
abbrev QmJ:=g1.g.2.2.2.1
abbrev QlC:=g1.g.2.2.2.2.1
abbrev Qny:=g1.g.2.2.2.2.2.1
abbrev QjW:=g1.g.2.2.2.2.2.2.1
abbrev QgS:=g1.g.2.2.2.2.2.2.2.1
abbrev QhK:=g1.g.2.2.2.2.2.2.2.2.1
abbrev QlD:=g1.g.2.2.2.2.2.2.2.2.2.1
abbrev QhZ:=g1.g.2.2.2.2.2.2.2.2.2.2.1
abbrev QkS:=g1.g.2.2.2.2.2.2.2.2.2.2.2
attribute [instance] QiU Qn6 QlB QmJ QlC Qny QjW QgS QhK QlD QhZ QkS
def g3:(∀N a0,OK (Qgk N a0) 19 [.ept 1000000 0 2 0 0] [.arr true 62 2 [[s3 a0.L,vi a0.at_]] 0] (λr=>vb r) λr=>[.arr true 62 2 [[s3 a0.L,vi a0.at_]] 0])/\(∀N(a0:List Int)(a1:Int)(a2:Int),O1 (QdI N a0 a1 a2) 166 [s52 a0,vu a1,vi a2] (λr=>.tup [vi r.1,vb r.2]))/\(∀N(a0:Int),O1 (QcB N a0) 257 [vu a0] (λr=>.tup [vu r.1,vb r.2]))/\(∀N(a0:Int),O1 (Qab N a0) 115 [vi a0] (λr=>.tup [c38 r.1,vu r.2.1,vi r.2.2]))/\(∀N(a0:WD)(a1:Int)(a2:W6),O1 (QgN N a0 a1 a2) 264 [c35 a0,vi a1,c96 a2] (λr=>c35 r))/\(∀N(a0:WP)(a1:Int)(a2:Int)(a3:Int),O1 (QfA N a0 a1 a2 a3) 127 [c42 a0,vu a1,vi a2,vu a3] (λr=>c42 r))/\(∀N(a0:Int),O1 (QfT N a0) 97 [vi a0] (λr=>vb r))/\(∀N(a0:Wo)(a1:WN),O1 (Qf8 N a0 a1) 233 [XiZ a0,c24 a1] (λr=>vb r))/\(∀N(a0:Wo)(a1:Wo),O1 (Qfl N a0 a1) 236 [XiZ a0,XiZ a1] (λr=>vb r))/\(∀N(a0:UT),O1 (Qey N a0) 176 [Xu4 a0] (λr=>vb r))/\(∀N a0 a1,OK (Qfm N a0 a1) 249 [c93 a0,.ept 1000000 0 1 0 0] [.arr true 52 1 [[vu a1]] 0] (λr=>vb r) λr=>[.arr true 52 1 [[vu a1]] 0])/\(∀N(a0:Int),O1 (QhV N a0) 152 [vi a0] (λr=>.tup [s52 r.1,vi r.2])):=by refine⟨λN _=>rk f19 ?_,λN _ _ _=>rk f166 ?_,λN _=>rk f257 ?_,λN _=>rk f115 ?_,λN _ _ _=>rk f264 ?_,λN _ _ _ _=>rk f127 ?_,λN _=>rk f97 ?_,λN _ _=>rk f233 ?_,λN _ _=>rk f236 ?_,λN _=>rk f176 ?_,λN _ _=>rk f249 ?_,λN _=>rk f152 ?_⟩<;>(simp only[f19,f166,f257,f115,f264,f127,f97,f233,f236,f176,f249,f152,Option.get!,Qgk,QdI,QcB,Qab,QgN,QfA,QfT,Qf8,Qfl,Qey,Qfm,QhV];exact zh)
abbrev QiV:=g3.1
abbrev QmK:=g3.2.1
abbrev QkT:=g3.2.2.1
abbrev QkU:=g3.2.2.2.1
abbrev Qnz:=g3.2.2.2.2.1
abbrev QnA:=g3.2.2.2.2.2.1
abbrev QjX:=g3.2.2.2.2.2.2.1
abbrev Qil:=g3.2.2.2.2.2.2.2.1
abbrev QhL:=g3.2.2.2.2.2.2.2.2.1
abbrev QiW:=g3.2.2.2.2.2.2.2.2.2.1
abbrev QhM:=g3.2.2.2.2.2.2.2.2.2.2.1
abbrev QnB:=g3.2.2.2.2.2.2.2.2.2.2.2
attribute [instance] QiV QmK QkT QkU Qnz QnA QjX Qil QhL QiW QhM QnB
abbrev QkV:=λN a Q n (st:St)=>∃d c,Iv (QcK N a n d c) Q ((∃b,st.n=54/\Xtn st 1344 b c/\ol st 3 1344 b 2 c.length/\st.t 7=Yn a/\st.t 8=vi a.length/\st.t 9=vi d)\/((st.n=54/\st.t 3=.nsl/\st.t 7=Yn a/\st.t 8=vi a.length/\st.t 9=vi d)/\c=[]))
instance QpM:∀N(a0:List Wo),O1 (Qhi N a0) 278 [Yn a0] (λr=>Xps r):=by
 refineλN _=>rk f278 ?_<;>(rintro _ hw r hr C _ rfl hwf hf;simp only[f278,Option.get!];(rw[Qhi]at hr);repeat' first
 |(refine El.el hr ?_;clear hr;intro hr)
 |(with_reducible intro h;refine Y8 hr h ?_;clear hr;intro hr)
 |with_reducible intro _
 |(refine Yv hr ?_;rintro rfl;have hr:=hk;clear hk)
 |simp only[go_sem,simprocAttr,Xv5,E,XT,JK]
 |(with_reducible first|apply XV|apply XU|apply YM|apply Y1|apply Y2)
 |((first|with_reducible refine Jx hr ah ?_ ?_|(with_reducible refine Jh hr ?_ ?_;rotate_left;intro p;rotate_right));(·simp only[go_sem,simprocAttr]);intro hp hn hd hr;(try have XT:=hd _ YT;simp only[go_sem,simprocAttr]at XT);(try have JK:=hd _ XiV;simp only[go_sem,simprocAttr]at JK))
 |(refine YN ?_ ?_;.first|assumption|omega)
 |(with_reducible refine lp (QkV N _) hr N ?_ (λ_ p q=>⟨_,_,_,p,q,?_⟩) _;rintro n1 st ⟨_,_,_,hr,hk,(⟨_,E⟩|⟨E,z0⟩)⟩<;>(try subst z0)<;>(obtain _|n1:=n1<;>rw[QcK]at hr))
 |refine⟨_,UP _,_,_,_,hr,hk,?_⟩
 |refine dp ?_
 |(refine Yv hr ?_;rintro rfl;with_reducible refine ZS ?_)
 |exact Xbn hr
 |exact Xav hr
 |(apply Xaw;assumption)
 |((first|refine Y8 (c:=true) hr rfl ?_|refine Y8 (c:=false) hr rfl ?_|refine Y8 hr ah ?_);intro hr))
instance Qim:∀N(a0:List UX),OK (Qaz N a0) 145 [.isl 129 3 (a0.map XbW)] [] (λr=>.fsl 129 3 (r.map XbW)) λr=>[]:=by
 refineλN a0=>⟨λG hw r hr=>?_⟩
 rw[Qaz]at hr;obtain rfl:=Wz hr;obtain _|⟨x,l⟩:=a0;refine Ze λa cap=>?_;obtain _|a:=a
 all_goals
  refine Yq (fn:=f145) (body:=(f145.body).get!) (rs:=[.tmp 2]) 1000 [320] 8 ae ae ae ae ae ac λC _ hG hwf=>?_;subst hG;have hw2:=hwf;simp only[WfL,Wf,Uf,and_true,Ul,XiS,Xv]at hw2;simp only[f145,Option.get!]
  simp only[go_sem,simprocAttr]
  try refine⟨ab,?_⟩
  with_reducible refine ZS ?_
  simp only[go_sem,simprocAttr]
instance Qin:∀N(a0:List W6),OK (QaA N a0) 147 [.isl 96 3 (a0.map e96)] [] (λr=>.fsl 96 3 (r.map e96)) λr=>[]:=by
 refineλN a0=>⟨λG hw r hr=>?_⟩
 rw[QaA]at hr;obtain rfl:=Wz hr;obtain _|⟨x,l⟩:=a0;refine Ze λa cap=>?_;obtain _|a:=a
 all_goals
  refine Yq (fn:=f147) (body:=(f147.body).get!) (rs:=[.tmp 2]) 1000 [320] 8 ae ae ae ae ae ac λC _ hG hwf=>?_;subst hG;have hw2:=hwf;simp only[WfL,Wf,Uf,and_true,Ul,Xln,Xv]at hw2;simp only[f147,Option.get!]
  simp only[go_sem,simprocAttr]
  try refine⟨ab,?_⟩
  with_reducible refine ZS ?_
  simp only[go_sem,simprocAttr]
instance QkW:∀N(a0:List Int),OK (Qad N a0) 76 [.isl 52 1 (a0.map e52)] [] (λr=>.fsl 52 1 (r.map e52)) λr=>[]:=by
 refineλN a0=>⟨λG hw r hr=>?_⟩
 rw[Qad]at hr;obtain rfl:=Wz hr;obtain _|⟨x,l⟩:=a0;refine Ze λa cap=>?_;obtain _|a:=a
 all_goals
  refine Yq (fn:=f76) (body:=(f76.body).get!) (rs:=[.tmp 2]) 1000 [320] 8 ae ae ae ae ae ac λC _ hG hwf=>?_;subst hG;have hw2:=hwf;simp only[WfL,Wf,Uf,and_true,Ul,Xll,Xv]at hw2;simp only[f76,Option.get!]
  simp only[go_sem,simprocAttr]
  try refine⟨ab,?_⟩
  with_reducible refine ZS ?_
  simp only[go_sem,simprocAttr]
instance QiX:∀N(a0:List Wo),OK (Qac N a0) 133 [.isl 122 4 (a0.map YT)] [] (λr=>.fsl 122 4 (r.map YT)) λr=>[]:=by
 refineλN a0=>⟨λG hw r hr=>?_⟩
 rw[Qac]at hr;obtain rfl:=Wz hr;obtain _|⟨x,l⟩:=a0;refine Ze λa cap=>?_;obtain _|a:=a
 all_goals
  refine Yq (fn:=f133) (body:=(f133.body).get!) (rs:=[.tmp 2]) 1000 [320] 8 ae ae ae ae ae ac λC _ hG hwf=>?_;subst hG;have hw2:=hwf;simp only[WfL,Wf,Uf,and_true,Ul,XiR,Xv]at hw2;simp only[f133,Option.get!]
  simp only[go_sem,simprocAttr]
  try refine⟨ab,?_⟩
  with_reducible refine ZS ?_
  simp only[go_sem,simprocAttr]
instance QnC:∀N(a0:List Int),OK (QaE N a0) 146 [.isl 3 1 (a0.map e3)] [] (λr=>.fsl 3 1 (r.map e3)) λr=>[]:=by
 refineλN a0=>⟨λG hw r hr=>?_⟩
 rw[QaE]at hr;obtain rfl:=Wz hr;obtain _|⟨x,l⟩:=a0;refine Ze λa cap=>?_;obtain _|a:=a
 all_goals
  refine Yq (fn:=f146) (body:=(f146.body).get!) (rs:=[.tmp 2]) 1000 [320] 8 ae ae ae ae ae ac λC _ hG hwf=>?_;subst hG;have hw2:=hwf;simp only[WfL,Wf,Uf,and_true,Ul,Xj1,Xv]at hw2;simp only[f146,Option.get!]
  simp only[go_sem,simprocAttr]
  try refine⟨ab,?_⟩
  with_reducible refine ZS ?_
  simp only[go_sem,simprocAttr]
end Go.Sx
