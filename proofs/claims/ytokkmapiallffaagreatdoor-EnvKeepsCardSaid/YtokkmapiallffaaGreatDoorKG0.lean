import Derived.Test.YtokkmapiallffaaGreatDoorKF
set_option linter.all false
namespace Go.Sx
open Go.Proofs Tryz
set_option maxRecDepth 10000
set_option maxHeartbeats 100000000
abbrev QiU:=λN a Q n (st:St)=>∃c,Iv (QcT N a n c) Q ((∃b,st.n=39/\pt st 1 64 b 1/\st.t 3=vi c/\bx st 64 b 35 1 [JP a.e]))
abbrev QiV:=λN a d Q n (st:St)=>∃b c,Iv (Qdv N a d n b c) Q ((st.n=37/\st.t 0=Yn a/\st.t 2=vi d/\st.t 7=vi b/\st.t 8=vi c))
abbrev QlE:=λN a c Q n (st:St)=>∃b,Iv (Qe5 N a c n b) Q ((st.n=20/\st.t 0=s86 a/\st.t 1=vu c/\st.t 5=vi b))
abbrev QjP:=λN a Q n (st:St)=>∃d c,Iv (Qbz N a n d c) Q ((∃b,st.n=54/\Xtj st 3328 b c/\st.t 0=Yn a/\ol st 3 3328 b 2 c.length/\st.t 4=vi d)\/((st.n=54/\st.t 0=Yn a/\st.t 3=.nsl/\st.t 4=vi d)/\c=[]))
abbrev QjQ:=λN a i e j l Q n (st:St)=>∃m k,Iv (Qbf N a i e j l n m k) Q ((∃c d b g h,st.n=78/\st.s 384=some (c,.arr false 159 4 ((i.set j.toNat (Wp.mk 0 0 0 0)).map YT) 0)/\r59 st 832 d k/\pt st 1 64 b 16/\pt st 2 128 g 16/\st.t 3=vi j/\st.t 5=vi m/\st.t 38=.ept 256 h 4 0 1/\st.t 39=vi e.s/\pt st 40 64 b 16/\st.t 41=.ept 64 b 16 0 4/\st.t 42=vi a.h.s/\st.t 43=.v (.bool (e.s != a.h.s))/\bx st 64 b 261 16 [vi a.h.c.W,vi a.h.c.p,.osl 832 d 1 0 k.length,.osl 384 c 4 0 i.length,vi a.h.s,vi a.h.b,s59 a.o,s3 a.t,s59 a.q,vi a.d,vi a.r.j,vi a.r.K,vi a.r.F,vi (wI (l + 1)),vi a.r.f,vi a.r.y]/\bx st 128 g 261 16 [vi 0,vi 0,.nsl,.nsl,vi 0,vi 0,.nsl,.nsl,.nsl,vi 0,vi 0,vi 0,vi 0,vi 0,vi 0,vi 0]/\bx st 256 h 159 4 (YT e)))
abbrev QjR:=λN a Q n (st:St)=>∃j k h i,Iv (QaO N a n j k h i) Q ((∃b c g d,st.n=78/\VM st 384 b i/\r59 st 832 c h/\pt st 1 64 g 16/\pt st 2 128 d 16/\st.t 3=vi j/\bx st 64 g 261 16 [vi a.h.c.W,vi a.h.c.p,.osl 832 c 1 0 h.length,.osl 384 b 4 0 i.length,vi a.h.s,vi a.h.b,s59 a.o,s3 a.t,s59 a.q,vi a.d,vi a.r.j,vi a.r.K,vi a.r.F,vi k,vi a.r.f,vi a.r.y]/\bx st 128 d 261 16 [vi 0,vi 0,.nsl,.nsl,vi 0,vi 0,.nsl,.nsl,.nsl,vi 0,vi 0,vi 0,vi 0,vi 0,vi 0,vi 0]))
abbrev QjS:=λN a d Q n (st:St)=>∃c,Iv (QeJ N a d n c) Q ((∃b,st.n=22/\st.t 1=vu d/\pt st 2 128 b 10/\st.t 5=vi c/\bx st 128 b 42 10 (e42 a)))
abbrev Qhu:=λN a Q n (st:St)=>∃c d,Iv (Qa2 N a n c d) Q ((∃b,st.n=74/\pt st 1 64 b 3/\st.t 3=vi c/\st.t 27=XcK a.l.x/\st.t 28=vi a.l.x.length/\st.t 29=vi d/\bx st 64 b 161 3 (e32 a.l)))
abbrev QjT:=λN a Q n (st:St)=>∃d c,Iv (QeM N a n d c) Q ((∃b,st.n=20/\r59 st 1088 b c/\ol st 3 1088 b 1 c.length/\st.t 7=s86 a.P/\st.t 8=vi a.P.length/\st.t 9=vi d)\/((st.n=20/\st.t 3=.nsl/\st.t 7=s86 a.P/\st.t 8=vi a.P.length/\st.t 9=vi d)/\c=[]))
abbrev QkV:=λN a Q n (st:St)=>∃b c,Iv (Qfm N a n b c) Q ((st.n=14/\st.t 3=vu b/\st.t 6=vi (if 64 < (if a < 0 then 0 else a)then 64 else(if a < 0 then 0 else a))/\st.t 7=vi c))
abbrev QgO:=λN a c Q n (st:St)=>∃b,Iv (QaA N a c n b) Q ((st.n=19/\st.t 0=s59 a/\st.t 1=vu c/\st.t 7=vi a.length/\st.t 8=vi b))
abbrev QjU:=λN a Q n (st:St)=>∃b c,Iv (Qdq N a n b c) Q ((st.n=19/\st.t 3=vi b/\st.t 6=Yn a/\st.t 7=vi a.length/\st.t 8=vi c))
abbrev QjV:=λN a c Q n (st:St)=>∃b,Iv (QeP N a c n b) Q ((st.n=26/\st.t 0=s59 a/\st.t 1=s59 c/\st.t 5=vi b))
def g5.sp{p:Prop}(h:p:=by first|((first|((with_reducible refine lp (QiU N _) hr N ?_ (λ_ p q=>⟨_,_,p,q,?_⟩) _);have lq:=@QcT.eq_2;exact zr)|((with_reducible refine lp (QiV N _ _) hr N ?_ (λ_ p q=>⟨_,_,_,p,q,?_⟩) _);have lq:=@Qdv.eq_2;exact zr)|((with_reducible refine lp (QlE N _ _) hr N ?_ (λ_ p q=>⟨_,_,p,q,?_⟩) _);have lq:=@Qe5.eq_2;exact zr)|((with_reducible refine lp (QjP N _) hr N ?_ (λ_ p q=>⟨_,_,_,p,q,?_⟩) _);have lq:=@Qbz.eq_2;exact zr)|((with_reducible refine lp (QjQ N _ _ _ _ _) hr N ?_ (λ_ p q=>⟨_,_,_,p,q,?_⟩) _);have lq:=@Qbf.eq_2;exact zr)|((with_reducible refine lp (QjR N _) hr N ?_ (λ_ p q=>⟨_,_,_,_,_,p,q,?_⟩) _);have lq:=@QaO.eq_2;exact zr)|((with_reducible refine lp (QjS N _ _) hr N ?_ (λ_ p q=>⟨_,_,p,q,?_⟩) _);have lq:=@QeJ.eq_2;exact zr)|((with_reducible refine lp (Qhu N _) hr N ?_ (λ_ p q=>⟨_,_,_,p,q,?_⟩) _);have lq:=@Qa2.eq_2;exact zr)|((with_reducible refine lp (QjT N _) hr N ?_ (λ_ p q=>⟨_,_,_,p,q,?_⟩) _);have lq:=@QeM.eq_2;exact zr)|((with_reducible refine lp (QkV N _) hr N ?_ (λ_ p q=>⟨_,_,_,p,q,?_⟩) _);have lq:=@Qfm.eq_2;exact zr)|((with_reducible refine lp (QgO N _ _) hr N ?_ (λ_ p q=>⟨_,_,p,q,?_⟩) _);have lq:=@QaA.eq_2;exact zr)|((with_reducible refine lp (QjU N _) hr N ?_ (λ_ p q=>⟨_,_,_,p,q,?_⟩) _);have lq:=@Qdq.eq_2;exact zr)|((with_reducible refine lp (QjV N _ _) hr N ?_ (λ_ p q=>⟨_,_,p,q,?_⟩) _);have lq:=@QeP.eq_2;exact zr))<;>exact zz)|fail):p:=h
def g5.g:(∀N(a0:WD),O1 (Qcg N a0) 94 [c35 a0] (λr=>vb r))/\(∀N(a0:List Wp)(a1:Int)(a2:Int),O1 (Qe3 N a0 a1 a2) 159 [Yn a0,vi a1,vi a2] (λr=>vi r))/\(∀N(a0:List UB)(a1:Int),O1 (QgG N a0 a1) 247 [s86 a0,vu a1] (λr=>vi r))/\(∀N(a0:List Wp),O1 (Qgj N a0) 310 [Yn a0] (λr=>Xpi r))/\(∀N(a0:Wu),O1 (Qeg N a0) 182 [Jv a0] (λr=>Jv r))/\(∀N(a0:WO)(a1:Int),O1 (Qfy N a0 a1) 186 [c42 a0,vu a1] (λr=>vi r))/\(∀N(a0:IN),O1 (Qdr N a0) 76 [Xpj a0] (λr=>vb r))/\(∀N(a0:Uj),O1 (Qhm N a0) 64 [c38 a0] (λr=>s59 r))/\(∀N(a0:Int),O1 (Qa9 N a0) 168 [vi a0] (λr=>vu r))/\(∀N(a0:List Int)(a1:Int),O1 (QbU N a0 a1) 81 [s59 a0,vu a1] (λr=>vi r))/\(∀N(a0:List Wp),O1 (Qgq N a0) 277 [Yn a0] (λr=>vi r))/\(∀N(a0:List Int)(a1:List Int),O1 (Qg3 N a0 a1) 38 [s59 a0,s59 a1] (λr=>vb r)):=by refine⟨λN _=>rk f94 ?_,λN _ _ _=>rk f159 ?_,λN _ _=>rk f247 ?_,λN _=>rk f310 ?_,λN _=>rk f182 ?_,λN _ _=>rk f186 ?_,λN _=>rk f76 ?_,λN _=>rk f64 ?_,λN _=>rk f168 ?_,λN _ _=>rk f81 ?_,λN _=>rk f277 ?_,λN _ _=>rk f38 ?_⟩<;>(simp only[f94,f159,f247,f310,f182,f186,f76,f64,f168,f81,f277,f38,Option.get!,Qcg,Qe3,QgG,Qgj,Qeg,Qfy,Qdr,Qhm,Qa9,QbU,Qgq,Qg3];exact zh)
abbrev QlF:=g5.g.1
abbrev QlG:=g5.g.2.1
abbrev Qog:=g5.g.2.2.1
abbrev QmJ:=g5.g.2.2.2.1
abbrev QmK:=g5.g.2.2.2.2.1
abbrev QmL:=g5.g.2.2.2.2.2.1
abbrev QhC:=g5.g.2.2.2.2.2.2.1
abbrev QmM:=g5.g.2.2.2.2.2.2.2.1
abbrev QnH:=g5.g.2.2.2.2.2.2.2.2.1
abbrev Qhb:=g5.g.2.2.2.2.2.2.2.2.2.1
abbrev QmN:=g5.g.2.2.2.2.2.2.2.2.2.2.1
abbrev QmO:=g5.g.2.2.2.2.2.2.2.2.2.2.2
attribute [instance] QlF QlG Qog QmJ QmK QmL QhC QmM QnH Qhb QmN QmO
def g2:(∀N(a0:WP),O1 (QaT N a0) 102 [c24 a0] (λr=>vb r))/\(∀N(a0:Int),O1 (QgR N a0) 157 [vi a0] (λr=>vb r))/\(∀N(a0:Wh)(a1:Int)(a2:Int),O1 (QfG N a0 a1 a2) 315 [c28 a0,vi a1,vi a2] (λr=>vu r))/\(∀N(a0:Int),O1 (QcP N a0) 287 [vu a0] (λr=>.tup [vu r.1,vi r.2]))/\(∀N(a0:U3),O1 (Qhc N a0) 257 [Xmk a0] (λr=>vb r))/\(∀N(a0:Uj)(a1:Uj)(a2:Int)(a3:Int)(a4:Int),O1 (QeK N a0 a1 a2 a3 a4) 52 [c38 a0,c38 a1,vi a2,vu a3,vi a4] (λr=>Xte r))/\(∀N(a0:IN)(a1:Int),O1 (QdQ N a0 a1) 148 [Xpj a0,vi a1] (λr=>XcL r))/\(∀N(a0:WP),O1 (Qb1 N a0) 169 [c24 a0] (λr=>vb r))/\(∀N(a0:Wp),O1 (Qdi N a0) 293 [XiD a0] (λr=>vb r))/\(∀N(a0:Int),O1 (QgZ N a0) 299 [vu a0] (λr=>vb r))/\(∀N(a0:Int),O1 (Qds N a0) 156 [vu a0] (λr=>vb r))/\(∀N a0 a1,OK (QdW N a0 a1) 21 [vi a0,.ept 1000000 0 1 0 0] [.arr true 25 1 [[s59 a1]] 0] (λr=>s59 r.1) λr=>[.arr true 25 1 [[s59 r.2]] 0]):=by refine⟨λN _=>rk f102 ?_,λN _=>rk f157 ?_,λN _ _ _=>rk f315 ?_,λN _=>rk f287 ?_,λN _=>rk f257 ?_,λN _ _ _ _ _=>rk f52 ?_,λN _ _=>rk f148 ?_,λN _=>rk f169 ?_,λN _=>rk f293 ?_,λN _=>rk f299 ?_,λN _=>rk f156 ?_,λN _ _=>rk f21 ?_⟩<;>(simp only[f102,f157,f315,f287,f257,f52,f148,f169,f293,f299,f156,f21,Option.get!,QaT,QgR,QfG,QcP,Qhc,QeK,QdQ,Qb1,Qdi,QgZ,Qds,QdW];exact zh)
abbrev Qio:=g2.1
abbrev QmP:=g2.2.1
abbrev QjW:=g2.2.2.1
abbrev QjX:=g2.2.2.2.1
abbrev QlH:=g2.2.2.2.2.1
abbrev QjY:=g2.2.2.2.2.2.1
abbrev QhH:=g2.2.2.2.2.2.2.1
abbrev QiW:=g2.2.2.2.2.2.2.2.1
abbrev QhO:=g2.2.2.2.2.2.2.2.2.1
abbrev QkW:=g2.2.2.2.2.2.2.2.2.2.1
abbrev QhD:=g2.2.2.2.2.2.2.2.2.2.2.1
abbrev Qip:=g2.2.2.2.2.2.2.2.2.2.2.2
attribute [instance] Qio QmP QjW QjX QlH QjY QhH QiW QhO QkW QhD Qip
abbrev QjZ:=λN a e Q n (st:St)=>∃c d,Iv (QdY N a e n c d) Q ((∃b,st.n=24/\st.t 2=vi e/\pt st 3 192 b 3/\st.t 7=vi c/\st.t 8=vi d/\bx st 192 b 32 3 (e32 a)))
abbrev QkX:=λN a c Q n (st:St)=>∃b,Iv (Qfi N a c n b) Q ((st.n=18/\st.t 0=s59 a/\st.t 1=vu c/\st.t 5=vi b))
abbrev Qj0:=λN a Q n (st:St)=>∃c,Iv (QcM N a n c) Q ((∃b,st.n=15/\st.t 1=vi c/\pt st 2 128 b 6/\bx st 128 b 28 6 (e28 a)))
abbrev QiX:=λN a d Q n (st:St)=>∃c,Iv (QcU N a d n c) Q ((∃b,st.n=20/\st.t 1=vi d/\pt st 2 128 b 16/\st.t 5=vi c/\bx st 128 b 261 16 (Xs9 a)))
abbrev Qj1:=λN a e f i Q n (st:St)=>∃h g,Iv (QdZ N a e f i n h g) Q ((∃b c d,st.n=57/\VM st 1920 b g/\st.t 1=vi a/\st.t 2=vi e/\pt st 8 512 c 4/\pt st 9 576 d 4/\ol st 12 1920 b 4 g.length/\st.t 13=vi h/\bx st 512 c 159 4 (YT f)/\bx st 576 d 159 4 (YT i)))
abbrev Qiq:=λN a d Q n (st:St)=>∃c,Iv (Qdb N a d n c) Q ((∃b,st.n=21/\st.t 1=s59 d/\pt st 2 128 b 10/\st.t 5=vi c/\bx st 128 b 42 10 (e42 a)))
abbrev QiY:=λN a Q n (st:St)=>∃b c,Iv (QbG N a n b c) Q ((st.n=20/\st.t 0=Yn a/\st.t 3=vi b/\st.t 4=vi c))
abbrev Qho:=λN a Q n (st:St)=>∃c d,Iv (Qba N a n c d) Q ((∃b,st.n=51/\pt st 1 64 b 3/\st.t 3=vi c/\st.t 8=XcL a.l.S/\st.t 9=vi a.l.S.length/\st.t 10=vi d/\bx st 64 b 161 3 (e32 a.l)))
abbrev QhP:=λN a Q n (st:St)=>∃d c,Iv (Qdj N a n d c) Q ((∃b,st.n=19/\r59 st 1024 b c/\ol st 3 1024 b 1 c.length/\st.t 6=Xmj a/\st.t 7=vi a.length/\st.t 8=vi d)\/((st.n=19/\st.t 3=.nsl/\st.t 6=Xmj a/\st.t 7=vi a.length/\st.t 8=vi d)/\c=[]))
abbrev Qj2:=λN a Q n (st:St)=>∃c,Iv (QeN N a n c) Q ((∃b,st.n=19/\st.t 1=vi c/\pt st 2 128 b 6/\bx st 128 b 28 6 (e28 a)))
abbrev Qhp:=λN a c Q n (st:St)=>∃b,Iv (QbL N a c n b) Q ((st.n=19/\st.t 0=s3 a/\st.t 1=vi c/\st.t 7=vi a.length/\st.t 8=vi b))
abbrev Qir:=λN a c Q n (st:St)=>∃b,Iv (QdX N a c n b) Q ((st.n=20/\st.t 0=s59 a/\st.t 1=vu c/\st.t 5=vi b))
def g4.sp{p:Prop}(h:p:=by first|((first|((with_reducible refine lp (QjZ N _ _) hr N ?_ (λ_ p q=>⟨_,_,_,p,q,?_⟩) _);have lq:=@QdY.eq_2;exact zr)|((with_reducible refine lp (QkX N _ _) hr N ?_ (λ_ p q=>⟨_,_,p,q,?_⟩) _);have lq:=@Qfi.eq_2;exact zr)|((with_reducible refine lp (Qj0 N _) hr N ?_ (λ_ p q=>⟨_,_,p,q,?_⟩) _);have lq:=@QcM.eq_2;exact zr)|((with_reducible refine lp (QiX N _ _) hr N ?_ (λ_ p q=>⟨_,_,p,q,?_⟩) _);have lq:=@QcU.eq_2;exact zr)|((with_reducible refine lp (Qj1 N _ _ _ _) hr N ?_ (λ_ p q=>⟨_,_,_,p,q,?_⟩) _);have lq:=@QdZ.eq_2;exact zr)|((with_reducible refine lp (Qiq N _ _) hr N ?_ (λ_ p q=>⟨_,_,p,q,?_⟩) _);have lq:=@Qdb.eq_2;exact zr)|((with_reducible refine lp (QiY N _) hr N ?_ (λ_ p q=>⟨_,_,_,p,q,?_⟩) _);have lq:=@QbG.eq_2;exact zr)|((with_reducible refine lp (Qho N _) hr N ?_ (λ_ p q=>⟨_,_,_,p,q,?_⟩) _);have lq:=@Qba.eq_2;exact zr)|((with_reducible refine lp (QhP N _) hr N ?_ (λ_ p q=>⟨_,_,_,p,q,?_⟩) _);have lq:=@Qdj.eq_2;exact zr)|((with_reducible refine lp (Qj2 N _) hr N ?_ (λ_ p q=>⟨_,_,p,q,?_⟩) _);have lq:=@QeN.eq_2;exact zr)|((with_reducible refine lp (Qhp N _ _) hr N ?_ (λ_ p q=>⟨_,_,p,q,?_⟩) _);have lq:=@QbL.eq_2;exact zr)|((with_reducible refine lp (Qir N _ _) hr N ?_ (λ_ p q=>⟨_,_,p,q,?_⟩) _);have lq:=@QdX.eq_2;exact zr))<;>exact zz)|fail):p:=h
def g4.g:(∀N(a0:Wq)(a1:Int)(a2:Int),O1 (Qgi N a0 a1 a2) 166 [c32 a0,vi a1,vi a2] (λr=>vi r))/\(∀N(a0:List Int)(a1:Int),O1 (Qbt N a0 a1) 42 [s59 a0,vu a1] (λr=>vb r))/\(∀N(a0:Wh)(a1:Int),O1 (QeU N a0 a1) 312 [c28 a0,vi a1] (λr=>vi r))/\(∀N(a0:Wu)(a1:Int),O1 (Qgv N a0 a1) 289 [Jv a0,vi a1] (λr=>vb r))/\(∀N(a0:List Wp)(a1:Int)(a2:Int)(a3:Wp)(a4:Wp),O1 (QdH N a0 a1 a2 a3 a4) 311 [Yn a0,vi a1,vi a2,Xtg a3,Xtg a4] (λr=>.tup [.fsl 159 4 (r.1.map YT),vi r.2]))/\(∀N(a0:WO)(a1:List Int),O1 (Qdc N a0 a1) 184 [c42 a0,s59 a1] (λr=>vb r))/\(∀N(a0:List Wp),O1 (Qc1 N a0) 306 [Yn a0] (λr=>vi r))/\(∀N(a0:IN),O1 (Qde N a0) 77 [Xpj a0] (λr=>vb r))/\(∀N(a0:List UU),O1 (Qcm N a0) 151 [Xmj a0] (λr=>s59 r))/\(∀N(a0:Wh)(a1:Int),O1 (QgY N a0 a1) 298 [c28 a0,vi a1] (λr=>vi r))/\(∀N(a0:List Int)(a1:Int),O1 (Qej N a0 a1) 294 [s3 a0,vi a1] (λr=>vi r))/\(∀N(a0:List Int)(a1:Int),O1 (Qfp N a0 a1) 32 [s59 a0,vu a1] (λr=>vi r)):=by refine⟨λN _ _ _=>rk f166 ?_,λN _ _=>rk f42 ?_,λN _ _=>rk f312 ?_,λN _ _=>rk f289 ?_,λN _ _ _ _ _=>rq f311 [1920] ?_,λN _ _=>rk f184 ?_,λN _=>rk f306 ?_,λN _=>rk f77 ?_,λN _=>rk f151 ?_,λN _ _=>rk f298 ?_,λN _ _=>rk f294 ?_,λN _ _=>rk f32 ?_⟩<;>(simp only[f166,f42,f312,f289,f311,f184,f306,f77,f151,f298,f294,f32,Option.get!,Qgi,Qbt,QeU,Qgv,QdH,Qdc,Qc1,Qde,Qcm,QgY,Qej,Qfp];exact zh)
abbrev QmQ:=g4.g.1
abbrev QnI:=g4.g.2.1
abbrev QmR:=g4.g.2.2.1
abbrev QlI:=g4.g.2.2.2.1
abbrev QmS:=g4.g.2.2.2.2.1
abbrev QkY:=g4.g.2.2.2.2.2.1
abbrev QlJ:=g4.g.2.2.2.2.2.2.1
abbrev Qhz:=g4.g.2.2.2.2.2.2.2.1
abbrev QiZ:=g4.g.2.2.2.2.2.2.2.2.1
abbrev QmT:=g4.g.2.2.2.2.2.2.2.2.2.1
abbrev QhA:=g4.g.2.2.2.2.2.2.2.2.2.2.1
abbrev QkZ:=g4.g.2.2.2.2.2.2.2.2.2.2.2
attribute [instance] QmQ QnI QmR QlI QmS QkY QlJ Qhz QiZ QmT QhA QkZ
def g1.sp{p:Prop}(h:p:=by first|((first|refine dq 214 1 hf [(0,[320],[]),(1,[],[320]),(2,[],[320]),(3,[],[320]),(4,[],[320]),(5,[],[320]),(6,[],[320]),(7,[],[320]),(8,[],[320]),(9,[],[320]),(10,[320],[]),(12,[128],[])] ?_)<;>exact zz)|fail):p:=h
def g1.g:(∀N a0 a1,OK (Qaj N a0 a1) 48 [.ept 1000000 0 2 0 0,vi a1] [.arr true 67 2 [[s3 a0.L,vi a0.at_]] 0] (λr=>vi r.1) λr=>[.arr true 67 2 [[s3 r.2.L,vi r.2.at_]] 0])/\(∀N(a0:Wq)(a1:Int),O1 (Qhs N a0 a1) 167 [c32 a0,vi a1] (λr=>vi r))/\(∀N(a0:Wy),O1 (QcY N a0) 92 [c98 a0] (λr=>vb r))/\(∀N(a0:Wu)(a1:Int),O1 (QcO N a0 a1) 284 [Jv a0,vu a1] (λr=>Jv r))/\(∀N(a0:Int)(a1:Int)(a2:Int),O1 (QcD N a0 a1 a2) 119 [vi a0,vu a1,vu a2] (λr=>.tup [c98 r.1,vb r.2]))/\(∀N(a0:Wq)(a1:Int),O1 (QgK N a0 a1) 214 [c32 a0,vi a1] (λr=>c32 r))/\(∀N(a0:W6),O1 (QfL N a0) 80 [Xtf a0] (λr=>vb r))/\(∀N(a1:Int),O1 (Qbs N a1) 129 [.nsl,vi a1] (λr=>.fsl 59 1 (r.map e59)))/\(∀N(a0:Wp),O1 (Qb6 N a0) 279 [XiD a0] (λr=>vb r))/\(∀N(a0:List Int)(a1:Int)(a2:Int),O1 (Qe8 N a0 a1 a2) 282 [s59 a0,vu a1,vi a2] (λr=>.tup [vi r.1,vb r.2]))/\(∀N(a0:Int),O1 (QeB N a0) 234 [vu a0] (λr=>vb r))/\(∀N(a0:Int),O1 (Qam N a0) 58 [vi a0] (λr=>.tup [])):=by refine⟨λN _ _=>rk f48 ?_,λN _ _=>rk f167 ?_,λN _=>rk f92 ?_,λN _ _=>rk f284 ?_,λN _ _ _=>rk f119 ?_,λN _ _=>rk f214 ?_,λN _=>rk f80 ?_,λN _=>rq f129 [1408] ?_,λN _=>rk f279 ?_,λN _ _ _=>rk f282 ?_,λN _=>rk f234 ?_,λN _=>rk f58 ?_⟩<;>(simp only[f48,f167,f92,f284,f119,f214,f80,f129,f279,f282,f234,f58,Option.get!,Qaj,Qhs,QcY,QcO,QcD,QgK,QfL,Qbs,Qb6,Qe8,QeB,Qam];exact zh)
abbrev Qi0:=g1.g.1
abbrev Qoh:=g1.g.2.1
abbrev QlK:=g1.g.2.2.1
abbrev QmU:=g1.g.2.2.2.1
abbrev QlL:=g1.g.2.2.2.2.1
abbrev QnJ:=g1.g.2.2.2.2.2.1
abbrev Qj3:=g1.g.2.2.2.2.2.2.1
abbrev QgP:=g1.g.2.2.2.2.2.2.2.1
abbrev QhQ:=g1.g.2.2.2.2.2.2.2.2.1
abbrev QlM:=g1.g.2.2.2.2.2.2.2.2.2.1
abbrev Qh7:=g1.g.2.2.2.2.2.2.2.2.2.2.1
abbrev Qk0:=g1.g.2.2.2.2.2.2.2.2.2.2.2
attribute [instance] Qi0 Qoh QlK QmU QlL QnJ Qj3 QgP QhQ QlM Qh7 Qk0
def g3:(∀N a0,OK (Qgh N a0) 14 [.ept 1000000 0 2 0 0] [.arr true 67 2 [[s3 a0.L,vi a0.at_]] 0] (λr=>vb r) λr=>[.arr true 67 2 [[s3 a0.L,vi a0.at_]] 0])/\(∀N(a0:List Int)(a1:Int)(a2:Int),O1 (QdF N a0 a1 a2) 165 [s59 a0,vu a1,vi a2] (λr=>.tup [vi r.1,vb r.2]))/\(∀N(a0:Int),O1 (QcA N a0) 251 [vu a0] (λr=>.tup [vu r.1,vb r.2]))/\(∀N(a0:Int),O1 (Qab N a0) 109 [vi a0] (λr=>.tup [c38 r.1,vu r.2.1,vi r.2.2]))/\(∀N(a0:WD)(a1:Int)(a2:W6),O1 (QgJ N a0 a1 a2) 258 [c35 a0,vi a1,Xtf a2] (λr=>c35 r))/\(∀N(a0:WO)(a1:Int)(a2:Int)(a3:Int),O1 (Qfu N a0 a1 a2 a3) 121 [c42 a0,vu a1,vi a2,vu a3] (λr=>c42 r))/\(∀N(a0:Int),O1 (QfM N a0) 75 [vi a0] (λr=>vb r))/\(∀N(a0:Wp)(a1:WP),O1 (Qf4 N a0 a1) 264 [XiD a0,c24 a1] (λr=>vb r))/\(∀N(a0:Wp)(a1:Wp),O1 (Qff N a0 a1) 267 [XiD a0,XiD a1] (λr=>vb r))/\(∀N(a0:UU),O1 (Qew N a0) 153 [Xu1 a0] (λr=>vb r))/\(∀N a0 a1,OK (Qfg N a0 a1) 232 [c86 a0,.ept 1000000 0 1 0 0] [.arr true 59 1 [[vu a1]] 0] (λr=>vb r) λr=>[.arr true 59 1 [[vu a1]] 0])/\(∀N(a0:Int),O1 (Qh2 N a0) 170 [vi a0] (λr=>.tup [s59 r.1,vi r.2])):=by refine⟨λN _=>rk f14 ?_,λN _ _ _=>rk f165 ?_,λN _=>rk f251 ?_,λN _=>rk f109 ?_,λN _ _ _=>rk f258 ?_,λN _ _ _ _=>rk f121 ?_,λN _=>rk f75 ?_,λN _ _=>rk f264 ?_,λN _ _=>rk f267 ?_,λN _=>rk f153 ?_,λN _ _=>rk f232 ?_,λN _=>rk f170 ?_⟩<;>(simp only[f14,f165,f251,f109,f258,f121,f75,f264,f267,f153,f232,f170,Option.get!,Qgh,QdF,QcA,Qab,QgJ,Qfu,QfM,Qf4,Qff,Qew,Qfg,Qh2];exact zh)
abbrev Qi1:=g3.1
abbrev QmV:=g3.2.1
abbrev Qk1:=g3.2.2.1
abbrev Qk2:=g3.2.2.2.1
abbrev QnK:=g3.2.2.2.2.1
abbrev QnL:=g3.2.2.2.2.2.1
abbrev Qj4:=g3.2.2.2.2.2.2.1
abbrev Qis:=g3.2.2.2.2.2.2.2.1
abbrev QhR:=g3.2.2.2.2.2.2.2.2.1
abbrev Qi2:=g3.2.2.2.2.2.2.2.2.2.1
abbrev QhS:=g3.2.2.2.2.2.2.2.2.2.2.1
abbrev QnM:=g3.2.2.2.2.2.2.2.2.2.2.2
attribute [instance] Qi1 QmV Qk1 Qk2 QnK QnL Qj4 Qis QhR Qi2 QhS QnM
abbrev Qk3:=λN a Q n (st:St)=>∃d c,Iv (QcI N a n d c) Q ((∃b,st.n=54/\Xtj st 1344 b c/\ol st 3 1344 b 2 c.length/\st.t 7=Yn a/\st.t 8=vi a.length/\st.t 9=vi d)\/((st.n=54/\st.t 3=.nsl/\st.t 7=Yn a/\st.t 8=vi a.length/\st.t 9=vi d)/\c=[]))
instance QpX:∀N(a0:List Wp),O1 (Qhk N a0) 295 [Yn a0] (λr=>Xpi r):=by
 refineλN _=>rk f295 ?_<;>(rintro _ hw r hr C _ rfl hwf hf;simp only[f295,Option.get!];(rw[Qhk]at hr);repeat' first
 |(refine El.el hr ?_;clear hr;intro hr)
 |(with_reducible intro h;refine Y5 hr h ?_;clear hr;intro hr)
 |with_reducible intro _
 |(refine Yq hr ?_;rintro rfl;have hr:=hk;clear hk)
 |simp only[go_sem,simprocAttr,Xv5,E,XT,JG]
 |(with_reducible first|apply XP|apply XO|apply YF|apply YN|apply YO)
 |((first|with_reducible refine Jh hr ah ?_ ?_|(with_reducible refine KO hr ?_ ?_;rotate_left;intro p;rotate_right));(·simp only[go_sem,simprocAttr]);intro hp hn hd hr;(try have XT:=hd _ YT;simp only[go_sem,simprocAttr]at XT);(try have JG:=hd _ Xiz;simp only[go_sem,simprocAttr]at JG))
 |(refine YG ?_ ?_;.first|assumption|omega)
 |(with_reducible refine lp (Qk3 N _) hr N ?_ (λ_ p q=>⟨_,_,_,p,q,?_⟩) _;rintro n1 st ⟨_,_,_,hr,hk,(⟨_,E⟩|⟨E,z0⟩)⟩<;>(try subst z0)<;>(obtain _|n1:=n1<;>rw[QcI]at hr))
 |refine⟨_,UQ _,_,_,_,hr,hk,?_⟩
 |refine dp ?_
 |(refine Yq hr ?_;rintro rfl;with_reducible refine ZJ ?_)
 |exact XaY hr
 |exact VG hr
 |(apply VH;assumption)
 |((first|refine Y5 (c:=true) hr rfl ?_|refine Y5 (c:=false) hr rfl ?_|refine Y5 hr ah ?_);intro hr))
instance Qit:∀N(a0:List W6),OK (QaN N a0) 143 [.isl 146 3 (a0.map Vg)] [] (λr=>.fsl 146 3 (r.map Vg)) λr=>[]:=by
 refineλN a0=>⟨λG hw r hr=>?_⟩
 rw[QaN]at hr;obtain rfl:=Wz hr;obtain _|⟨x,l⟩:=a0;refine Zc λa cap=>?_;obtain _|a:=a
 all_goals
  refine Yo (fn:=f143) (body:=(f143.body).get!) (rs:=[.tmp 2]) 1000 [320] 8 ae ae ae ae ae ac λC _ hG hwf=>?_;subst hG;have hw2:=hwf;simp only[WfL,Wf,Ug,and_true,Ul,Xiv,Xs]at hw2;simp only[f143,Option.get!]
  simp only[go_sem,simprocAttr]
  try refine⟨ab,?_⟩
  with_reducible refine ZJ ?_
  simp only[go_sem,simprocAttr]
instance Qj5:∀N(a0:List UB),OK (Qcq N a0) 68 [.isl 86 2 (a0.map e86)] [] (λr=>.fsl 86 2 (r.map e86)) λr=>[]:=by
 refineλN a0=>⟨λG hw r hr=>?_⟩
 rw[Qcq]at hr;obtain rfl:=Wz hr;obtain _|⟨x,l⟩:=a0;refine Zc λa cap=>?_;obtain _|a:=a
 all_goals
  refine Yo (fn:=f68) (body:=(f68.body).get!) (rs:=[.tmp 2]) 1000 [320] 8 ae ae ae ae ae ac λC _ hG hwf=>?_;subst hG;have hw2:=hwf;simp only[WfL,Wf,Ug,and_true,Ul,Xk1,Xs]at hw2;simp only[f68,Option.get!]
  simp only[go_sem,simprocAttr]
  try refine⟨ab,?_⟩
  with_reducible refine ZJ ?_
  simp only[go_sem,simprocAttr]
instance Qi3:∀N(a0:List Wp),OK (Qad N a0) 128 [.isl 159 4 (a0.map YT)] [] (λr=>.fsl 159 4 (r.map YT)) λr=>[]:=by
 refineλN a0=>⟨λG hw r hr=>?_⟩
 rw[Qad]at hr;obtain rfl:=Wz hr;obtain _|⟨x,l⟩:=a0;refine Zc λa cap=>?_;obtain _|a:=a
 all_goals
  refine Yo (fn:=f128) (body:=(f128.body).get!) (rs:=[.tmp 2]) 1000 [320] 8 ae ae ae ae ae ac λC _ hG hwf=>?_;subst hG;have hw2:=hwf;simp only[WfL,Wf,Ug,and_true,Ul,Xix,Xs]at hw2;simp only[f128,Option.get!]
  simp only[go_sem,simprocAttr]
  try refine⟨ab,?_⟩
  with_reducible refine ZJ ?_
  simp only[go_sem,simprocAttr]
instance Qiu:∀N(a0:List UX),OK (QaM N a0) 141 [.isl 121 3 (a0.map XbR)] [] (λr=>.fsl 121 3 (r.map XbR)) λr=>[]:=by
 refineλN a0=>⟨λG hw r hr=>?_⟩
 rw[QaM]at hr;obtain rfl:=Wz hr;obtain _|⟨x,l⟩:=a0;refine Zc λa cap=>?_;obtain _|a:=a
 all_goals
  refine Yo (fn:=f141) (body:=(f141.body).get!) (rs:=[.tmp 2]) 1000 [320] 8 ae ae ae ae ae ac λC _ hG hwf=>?_;subst hG;have hw2:=hwf;simp only[WfL,Wf,Ug,and_true,Ul,Xiu,Xs]at hw2;simp only[f141,Option.get!]
  simp only[go_sem,simprocAttr]
  try refine⟨ab,?_⟩
  with_reducible refine ZJ ?_
  simp only[go_sem,simprocAttr]
instance Qk4:∀N(a0:List Int),OK (Qac N a0) 69 [.isl 59 1 (a0.map e59)] [] (λr=>.fsl 59 1 (r.map e59)) λr=>[]:=by
 refineλN a0=>⟨λG hw r hr=>?_⟩
 rw[Qac]at hr;obtain rfl:=Wz hr;obtain _|⟨x,l⟩:=a0;refine Zc λa cap=>?_;obtain _|a:=a
 all_goals
  refine Yo (fn:=f69) (body:=(f69.body).get!) (rs:=[.tmp 2]) 1000 [320] 8 ae ae ae ae ae ac λC _ hG hwf=>?_;subst hG;have hw2:=hwf;simp only[WfL,Wf,Ug,and_true,Ul,Xk0,Xs]at hw2;simp only[f69,Option.get!]
  simp only[go_sem,simprocAttr]
  try refine⟨ab,?_⟩
  with_reducible refine ZJ ?_
  simp only[go_sem,simprocAttr]
instance Qi4:∀N(a0:List UH),OK (QaX N a0) 140 [.isl 153 3 (a0.map XaT)] [] (λr=>.fsl 153 3 (r.map XaT)) λr=>[]:=by
 refineλN a0=>⟨λG hw r hr=>?_⟩
 rw[QaX]at hr;obtain rfl:=Wz hr;obtain _|⟨x,l⟩:=a0;refine Zc λa cap=>?_;obtain _|a:=a
 all_goals
  refine Yo (fn:=f140) (body:=(f140.body).get!) (rs:=[.tmp 2]) 1000 [320] 8 ae ae ae ae ae ac λC _ hG hwf=>?_;subst hG;have hw2:=hwf;simp only[WfL,Wf,Ug,and_true,Ul,Xiw,Xs]at hw2;simp only[f140,Option.get!]
  simp only[go_sem,simprocAttr]
  try refine⟨ab,?_⟩
  with_reducible refine ZJ ?_
  simp only[go_sem,simprocAttr]
instance QnN:∀N(a0:List Int),OK (QaQ N a0) 142 [.isl 3 1 (a0.map e3)] [] (λr=>.fsl 3 1 (r.map e3)) λr=>[]:=by
 refineλN a0=>⟨λG hw r hr=>?_⟩
 rw[QaQ]at hr;obtain rfl:=Wz hr;obtain _|⟨x,l⟩:=a0;refine Zc λa cap=>?_;obtain _|a:=a
 all_goals
  refine Yo (fn:=f142) (body:=(f142.body).get!) (rs:=[.tmp 2]) 1000 [320] 8 ae ae ae ae ae ac λC _ hG hwf=>?_;subst hG;have hw2:=hwf;simp only[WfL,Wf,Ug,and_true,Ul,XjF,Xs]at hw2;simp only[f142,Option.get!]
  simp only[go_sem,simprocAttr]
  try refine⟨ab,?_⟩
  with_reducible refine ZJ ?_
  simp only[go_sem,simprocAttr]
end Go.Sx
