import Derived.Test.YtokkmapiallffaaGreatDoorKG8
set_option linter.all false
namespace Go.Sx
open Go.Proofs Tryz
set_option maxRecDepth 10000
set_option maxHeartbeats 100000000
abbrev QkA:=λN a e f Q n (st:St)=>∃h g,Iv (Qah N a e f n h g) Q ((∃d b c,st.n=70/\r59 st 3904 d g/\st.t 1=vi e/\pt st 2 128 b 6/\pt st 6 384 c 4/\ol st 7 3904 d 1 g.length/\st.t 8=vi h/\bx st 128 b 28 6 (e28 a)/\bx st 384 c 159 4 (YT f))\/(∃b c,(st.n=70/\st.t 1=vi e/\pt st 2 128 b 6/\pt st 6 384 c 4/\st.t 7=.nsl/\st.t 8=vi h/\bx st 128 b 28 6 (e28 a)/\bx st 384 c 159 4 (YT f))/\g=[]))
abbrev Qjr:=λN a d e Q n (st:St)=>∃c,Iv (QaU N a d e n c) Q ((∃b,st.n=61/\st.t 1=vi d/\st.t 2=s59 e/\pt st 3 192 b 6/\st.t 7=vi c/\bx st 192 b 28 6 (e28 a)))
abbrev QkB:=λN a e f g i Q n (st:St)=>∃h d,Iv (QbR N a e f g i n h d) Q ((∃b c,st.n=69/\r4 st 1088 b d/\st.t 1=vi e/\st.t 2=s59 f/\pt st 3 192 c 6/\ol st 7 1088 b 1 d.length/\st.t 8=vi g/\st.t 11=vi i/\st.t 12=vi h/\bx st 192 c 28 6 (e28 a)))
abbrev QkC:=λN a e f Q n (st:St)=>∃g d,Iv (Qdk N a e f n g d) Q ((∃b c,st.n=69/\r4 st 1088 b d/\st.t 1=vi e/\st.t 2=s59 f/\pt st 3 192 c 6/\ol st 7 1088 b 1 d.length/\st.t 8=vi g/\bx st 192 c 28 6 (e28 a)))
abbrev Qlr:=λN Q n (st:St)=>∃m o q u w z A B C c d g h i j k,Iv (QbS N n m o q u w z A B C c d g h i j k) Q ((∃l b,st.n=21/\pt st 1 64 l 16/\pt st 2 128 b 16/\bx st 64 l 261 16 [vi m,vi o,s59 q,Yn u,vi w,vi z,s59 A,s3 B,s59 C,vi c,vi d,vi g,vi h,vi i,vi j,vi k]/\bx st 128 b 261 16 [vi 0,vi 0,.nsl,.nsl,vi 0,vi 0,.nsl,.nsl,.nsl,vi 0,vi 0,vi 0,vi 0,vi 0,vi 0,vi 0]))
abbrev Qif:=λN a e Q n (st:St)=>∃h g,Iv (Qbp N a e n h g) Q ((∃b d c,st.n=50/\r59 st 960 b g/\pt st 1 64 d 10/\pt st 2 128 c 10/\st.t 4=s4 e/\ol st 5 960 b 1 g.length/\st.t 6=vi h/\bx st 64 d 42 10 (e42 a)/\bx st 128 c 42 10 [vi 0,vi 0,.nsl,.nsl,.nsl,.nsl,.nsl,.nsl,.nsl,.nsl]))
abbrev Qjs:=λN a Q n (st:St)=>∃c,Iv (Qae N a n c) Q ((∃b,st.n=83/\pt st 1 64 b 6/\st.t 3=vi c/\bx st 64 b 28 6 (e28 a)))
abbrev QkD:=λN a Q n (st:St)=>∃h i g,Iv (Qd7 N a n h i g) Q ((∃b c d,st.n=48/\Xth st 1600 b g/\st.t 1=s59 h/\pt st 2 128 c 3/\pt st 4 256 d 3/\ol st 27 1600 b 3 g.length/\st.t 28=vi a.S.length/\st.t 29=vi i/\bx st 128 c 32 3 [.osl 1600 b 3 0 g.length,XcK a.x,s3 a.i]/\bx st 256 d 32 3 [.nsl,.nsl,.nsl]))
abbrev QkE:=λN a Q n (st:St)=>∃h i g,Iv (Qd8 N a n h i g) Q ((∃b c d,st.n=44/\XrA st 1344 b g/\st.t 1=s59 h/\pt st 2 128 c 1/\pt st 4 256 d 1/\ol st 23 1344 b 3 g.length/\st.t 24=vi a.e.length/\st.t 25=vi i/\bx st 128 c 35 1 [.osl 1344 b 3 0 g.length]/\bx st 256 d 35 1 [.nsl]))
def g30.sp{p:Prop}(h:p:=by first|((first|((with_reducible refine lp (QkA N _ _ _) hr N ?_ (λ_ p q=>⟨_,_,_,p,q,?_⟩) _);have lq:=@Qah.eq_2;exact zr)|((with_reducible refine lp (Qjr N _ _ _) hr N ?_ (λ_ p q=>⟨_,_,p,q,?_⟩) _);have lq:=@QaU.eq_2;exact zr)|((with_reducible refine lp (QkB N _ _ _ _ _) hr N ?_ (λ_ p q=>⟨_,_,_,p,q,?_⟩) _);have lq:=@QbR.eq_2;exact zr)|((with_reducible refine lp (QkC N _ _ _) hr N ?_ (λ_ p q=>⟨_,_,_,p,q,?_⟩) _);have lq:=@Qdk.eq_2;exact zr)|((with_reducible refine lp (Qlr N) hr N ?_ (λ_ p q=>⟨_,_,_,_,_,_,_,_,_,_,_,_,_,_,_,_,_,p,q,?_⟩) _);have lq:=@QbS.eq_2;exact zr)|((with_reducible refine lp (Qif N _ _) hr N ?_ (λ_ p q=>⟨_,_,_,p,q,?_⟩) _);have lq:=@Qbp.eq_2;exact zr)|((with_reducible refine lp (Qjs N _) hr N ?_ (λ_ p q=>⟨_,_,p,q,?_⟩) _);have lq:=@Qae.eq_2;exact zr)|((with_reducible refine lp (QkD N _) hr N ?_ (λ_ p q=>⟨_,_,_,_,p,q,?_⟩) _);have lq:=@Qd7.eq_2;exact zr)|((with_reducible refine lp (QkE N _) hr N ?_ (λ_ p q=>⟨_,_,_,_,p,q,?_⟩) _);have lq:=@Qd8.eq_2;exact zr)|refine dq 308 4 hf [(0,[],[512]),(1,[],[512]),(2,[],[512]),(3,[],[512]),(4,[],[512]),(5,[],[512]),(6,[],[512]),(7,[],[512]),(8,[],[512]),(9,[512],[]),(10,[512],[])] ?_|refine dq 313 5 hf [(0,[],[576]),(1,[],[576]),(2,[],[576]),(3,[],[576]),(4,[],[576]),(5,[],[576]),(6,[],[576]),(7,[],[576]),(8,[],[576]),(9,[576],[]),(10,[576],[])] ?_|refine dq 22 8 hf [(6,[],[1600]),(7,[],[1600]),(10,[1600],[])] ?_|refine dq 24 8 hf [(6,[],[1344]),(7,[],[1344]),(10,[1344],[])] ?_)<;>exact zz)|fail):p:=h
def g30.g:(∀N(a0:Wh)(a1:Int),O1 (Qaf N a0 a1) 236 [c28 a0,vi a1] (λr=>.tup [s59 r.1,vi r.2]))/\(∀N(a0:Wh)(a1:Int)(a2:List Int),O1 (Qel N a0 a1 a2) 308 [c28 a0,vi a1,s59 a2] (λr=>vu r))/\(∀N(a0:Wh)(a1:Int)(a2:List Int),O1 (QgS N a0 a1 a2) 313 [c28 a0,vi a1,s59 a2] (λr=>s4 r))/\(∀N(a0:Wu),O1 (Qem N a0) 180 [Jv a0] (λr=>.tup [Jv r.1,vi r.2]))/\(∀N(a0:WO),O1 (Qdm N a0) 50 [c42 a0] (λr=>.tup [c42 r.1,vi r.2]))/\(∀N(a0:Wh),O1 (Qb2 N a0) 127 [c28 a0] (λr=>vb r))/\(∀N(a0:Wq)(a1:List Int),O1 (Qg1 N a0 a1) 22 [c32 a0,s59 a1] (λr=>.tup [c32 r.1,vi r.2]))/\(∀N(a0:WD)(a1:List Int),O1 (Qgs N a0 a1) 24 [c35 a0,s59 a1] (λr=>.tup [c35 r.1,vi r.2])):=by refine⟨λN _ _=>rk f236 ?_,λN _ _ _=>rk f308 ?_,λN _ _ _=>rk f313 ?_,λN _=>rk f180 ?_,λN _=>rk f50 ?_,λN _=>rk f127 ?_,λN _ _=>rk f22 ?_,λN _ _=>rk f24 ?_⟩<;>(simp only[f236,f308,f313,f180,f50,f127,f22,f24,Option.get!,Qaf,Qel,QgS,Qem,Qdm,Qb2,Qg1,Qgs];exact zh)
abbrev Qnu:=g30.g.1
abbrev Qmi:=g30.g.2.1
abbrev Qnv:=g30.g.2.2.1
abbrev Qn5:=g30.g.2.2.2.1
abbrev QkF:=g30.g.2.2.2.2.1
abbrev Qmj:=g30.g.2.2.2.2.2.1
abbrev Qnw:=g30.g.2.2.2.2.2.2.1
abbrev Qnx:=g30.g.2.2.2.2.2.2.2
attribute [instance] Qnu Qmi Qnv Qn5 QkF Qmj Qnw Qnx
end Go.Sx
