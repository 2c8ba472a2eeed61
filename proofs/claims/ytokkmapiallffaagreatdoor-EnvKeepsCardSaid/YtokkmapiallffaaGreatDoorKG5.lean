import Derived.Test.YtokkmapiallffaaGreatDoorKG3
set_option linter.all false
namespace Go.Sx
open Go.Proofs Tryz
set_option maxRecDepth 10000
set_option maxHeartbeats 100000000
abbrev Qiy:=λN a Q n (st:St)=>∃g d,Iv (QbH N a n g d) Q ((∃b c,st.n=35/\r59 st 320 b d/\pt st 1 64 c 13/\ol st 3 320 b 1 d.length/\st.t 4=vi g/\bx st 64 c 38 13 (e38 a)))
abbrev Qiz:=λN a Q n (st:St)=>∃c d,Iv (QaB N a n c d) Q ((∃b,st.n=157/\pt st 1 64 b 6/\st.t 3=vi c/\st.t 4=vi d/\bx st 64 b 28 6 (e28 a)))
abbrev Qia:=λN a e Q n (st:St)=>∃h g,Iv (QaK N a e n h g) Q ((∃b c d,st.n=202/\VM st 5760 b g/\st.t 1=vu e/\pt st 2 128 c 16/\pt st 4 256 d 16/\st.t 14=vi h/\bx st 128 c 261 16 [vi a.h.c.W,vi a.h.c.p,s59 a.h.w,.osl 5760 b 4 0 g.length,vi a.h.s,vi a.h.b,s59 a.o,s3 a.t,s59 a.q,vi a.d,vi a.r.j,vi a.r.K,vi a.r.F,vi a.r.E,vi a.r.f,vi a.r.y]/\bx st 256 d 261 16 [vi 0,vi 0,.nsl,.nsl,vi 0,vi 0,.nsl,.nsl,.nsl,vi 0,vi 0,vi 0,vi 0,vi 0,vi 0,vi 0]))
abbrev Qkl:=λN a e Q n (st:St)=>∃h i g,Iv (Qbg N a e n h i g) Q ((∃b c d,st.n=57/\Xth st 1280 b g/\st.t 1=s59 e/\pt st 2 128 c 3/\pt st 4 256 d 3/\st.t 6=vi h/\st.t 7=vi i/\bx st 128 c 32 3 [.osl 1280 b 3 0 g.length,XcK a.x,s3 a.i]/\bx st 256 d 32 3 [.nsl,.nsl,.nsl]))
abbrev Qjk:=λN a Q n (st:St)=>∃c,Iv (Qdx N a n c) Q ((∃b,st.n=154/\pt st 1 64 b 10/\st.t 3=vi c/\bx st 64 b 42 10 (e42 a)))
abbrev Qjl:=λN e a Q n (st:St)=>∃c,Iv (Qdy N e a n c) Q ((∃b d,st.n=154/\r59 st 4928 b a/\pt st 1 64 d 10/\ol st 5 4928 b 1 a.length/\st.t 6=vi c/\bx st 64 d 42 10 (e42 e)))
abbrev Qjm:=λN e a Q n (st:St)=>∃c,Iv (Qdz N e a n c) Q ((∃b d,st.n=154/\r59 st 4928 b a/\pt st 1 64 d 10/\ol st 5 4928 b 1 a.length/\st.t 7=vi c/\bx st 64 d 42 10 (e42 e)))
abbrev QiA:=λN a Q n (st:St)=>∃g d,Iv (QeV N a n g d) Q ((∃b c,st.n=35/\r59 st 320 b d/\pt st 1 64 c 10/\ol st 3 320 b 1 d.length/\st.t 4=vi g/\bx st 64 c 42 10 (e42 a)))
abbrev Qjn:=λN a Q n (st:St)=>∃c,Iv (QdB N a n c) Q ((∃b,st.n=41/\pt st 3 192 b 3/\st.t 27=XcK a.x/\st.t 28=vi a.x.length/\st.t 29=vi c/\bx st 192 b 161 3 (e32 a)))
abbrev QhI:=λN a e Q n (st:St)=>∃g d,Iv (Qcd N a e n g d) Q ((∃b c,st.n=19/\r3 st 1024 b d/\pt st 1 64 c 3/\ol st 3 1024 b 1 d.length/\st.t 6=vi e/\st.t 7=vi g/\bx st 64 c 98 3 (e98 a))\/(∃c,(st.n=19/\pt st 1 64 c 3/\st.t 3=.nsl/\st.t 6=vi e/\st.t 7=vi g/\bx st 64 c 98 3 (e98 a))/\d=[]))
abbrev Qkm:=λN a d e f Q n (st:St)=>∃c,Iv (QgF N a d e f n c) Q ((∃b,st.n=45/\VM st 1856 b c/\st.t 1=Yn a/\st.t 2=vi d/\st.t 3=vi e/\st.t 13=vi f/\ol st 14 1856 b 4 c.length))
def g23.sp{p:Prop}(h:p:=by first|((first|((with_reducible refine lp (Qiy N _) hr N ?_ (λ_ p q=>⟨_,_,_,p,q,?_⟩) _);have lq:=@QbH.eq_2;exact zr)|((with_reducible refine lp (Qiz N _) hr N ?_ (λ_ p q=>⟨_,_,_,p,q,?_⟩) _);have lq:=@QaB.eq_2;exact zr)|((with_reducible refine lp (Qia N _ _) hr N ?_ (λ_ p q=>⟨_,_,_,p,q,?_⟩) _);have lq:=@QaK.eq_2;exact zr)|((with_reducible refine lp (Qkl N _ _) hr N ?_ (λ_ p q=>⟨_,_,_,_,p,q,?_⟩) _);have lq:=@Qbg.eq_2;exact zr)|((with_reducible refine lp (Qjk N _) hr N ?_ (λ_ p q=>⟨_,_,p,q,?_⟩) _);have lq:=@Qdx.eq_2;exact zr)|((with_reducible refine lp (Qjl N _ _) hr N ?_ (λ_ p q=>⟨_,_,p,q,?_⟩) _);have lq:=@Qdy.eq_2;exact zr)|((with_reducible refine lp (Qjm N _ _) hr N ?_ (λ_ p q=>⟨_,_,p,q,?_⟩) _);have lq:=@Qdz.eq_2;exact zr)|((with_reducible refine lp (QiA N _) hr N ?_ (λ_ p q=>⟨_,_,_,p,q,?_⟩) _);have lq:=@QeV.eq_2;exact zr)|((with_reducible refine lp (Qjn N _) hr N ?_ (λ_ p q=>⟨_,_,p,q,?_⟩) _);have lq:=@QdB.eq_2;exact zr)|((with_reducible refine lp (QhI N _ _) hr N ?_ (λ_ p q=>⟨_,_,_,p,q,?_⟩) _);have lq:=@Qcd.eq_2;exact zr)|((with_reducible refine lp (Qkm N _ _ _ _) hr N ?_ (λ_ p q=>⟨_,_,p,q,?_⟩) _);have lq:=@QgF.eq_2;exact zr)|refine dq 8 1 hf [(0,[320],[]),(1,[],[320]),(2,[],[320]),(3,[320],[]),(4,[],[320]),(5,[],[320]),(7,[320],[])] ?_|refine dq 105 11 hf [(9,[1280],[])] ?_|refine dq 107 21 hf [(17,[],[9664]),(20,[9664],[])] ?_|refine dq 187 1 hf [(0,[320],[]),(1,[],[320]),(2,[],[320]),(3,[320],[]),(4,[],[320]),(5,[],[320]),(7,[320],[])] ?_)<;>exact zz)|fail):p:=h
def g23.g:(∀N(a0:Uj),O1 (Qb9 N a0) 8 [c38 a0] (λr=>s59 r))/\(∀N(a0:Wh),O1 (Qaa N a0) 86 [c28 a0] (λr=>vb r))/\(∀N(a0:Wu)(a1:Int),O1 (QaF N a0 a1) 249 [Jv a0,vu a1] (λr=>.tup [Jv r.1,vu r.2.1,vi r.2.2]))/\(∀N(a0:Wq)(a1:List Int),O1 (Qda N a0 a1) 105 [c32 a0,s59 a1] (λr=>.tup [c32 r.1,vi r.2]))/\(∀N(a0:WO),O1 (Qen N a0) 107 [c42 a0] (λr=>vb r))/\(∀N(a0:WO),O1 (QgU N a0) 187 [c42 a0] (λr=>.fsl 59 1 (r.map e59)))/\(∀N(a0:Wq),O1 (Qet N a0) 26 [c32 a0] (λr=>vb r))/\(∀N(a0:Wy),O1 (QdU N a0) 225 [c98 a0] (λr=>s3 r))/\(∀N(a0:WP)(a1:List Wp)(a2:Int)(a3:Int)(a4:Int),O1 (QhF N a0 a1 a2 a3 a4) 242 [c24 a0,Yn a1,vi a2,vi a3,vi a4] (λr=>.tup [Yn r.1,vi r.2])):=by refine⟨λN _=>rk f8 ?_,λN _=>rk f86 ?_,λN _ _=>rk f249 ?_,λN _ _=>rk f105 ?_,λN _=>rk f107 ?_,λN _=>rq f187 [320] ?_,λN _=>rk f26 ?_,λN _=>rk f225 ?_,λN _ _ _ _ _=>rk f242 ?_⟩<;>(simp only[f8,f86,f249,f105,f107,f187,f26,f225,f242,Option.get!,Qb9,Qaa,QaF,Qda,Qen,QgU,Qet,QdU,QhF];exact zh)
abbrev Qlk:=g23.g.1
abbrev Qll:=g23.g.2.1
abbrev Qkn:=g23.g.2.2.1
abbrev Qng:=g23.g.2.2.2.1
abbrev Ql3:=g23.g.2.2.2.2.1
abbrev Qlm:=g23.g.2.2.2.2.2.1
abbrev Ql4:=g23.g.2.2.2.2.2.2.1
abbrev QiB:=g23.g.2.2.2.2.2.2.2.1
abbrev Qnh:=g23.g.2.2.2.2.2.2.2.2
attribute [instance] Qlk Qll Qkn Qng Ql3 Qlm Ql4 QiB Qnh
end Go.Sx
