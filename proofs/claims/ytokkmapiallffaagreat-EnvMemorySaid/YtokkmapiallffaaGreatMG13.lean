import Derived.Test.YtokkmapiallffaaGreatMG12
set_option linter.all false
namespace Go.Sx
open Go.Proofs Tryz
set_option maxRecDepth 10000
set_option maxHeartbeats 100000000
abbrev Qkt:=λN a e f Q n (st:St)=>∃h g,Iv (Qai N a e f n h g) Q ((∃d b c,st.n=70/\r52 st 3904 d g/\st.t 1=vi e/\pt st 2 128 b 6/\pt st 6 384 c 4/\ol st 7 3904 d 1 g.length/\st.t 8=vi h/\bx st 128 b 28 6 (e28 a)/\bx st 384 c 122 4 (YT f))\/(∃b c,(st.n=70/\st.t 1=vi e/\pt st 2 128 b 6/\pt st 6 384 c 4/\st.t 7=.nsl/\st.t 8=vi h/\bx st 128 b 28 6 (e28 a)/\bx st 384 c 122 4 (YT f))/\g=[]))
abbrev Qjl:=λN a d e Q n (st:St)=>∃c,Iv (QaS N a d e n c) Q ((∃b,st.n=61/\st.t 1=vi d/\st.t 2=s52 e/\pt st 3 192 b 6/\st.t 7=vi c/\bx st 192 b 28 6 (e28 a)))
abbrev Qku:=λN a e f g i Q n (st:St)=>∃h d,Iv (QbS N a e f g i n h d) Q ((∃b c,st.n=69/\r4 st 1088 b d/\st.t 1=vi e/\st.t 2=s52 f/\pt st 3 192 c 6/\ol st 7 1088 b 1 d.length/\st.t 8=vi g/\st.t 11=vi i/\st.t 12=vi h/\bx st 192 c 28 6 (e28 a)))
abbrev Qkv:=λN a e f Q n (st:St)=>∃g d,Iv (Qdo N a e f n g d) Q ((∃b c,st.n=69/\r4 st 1088 b d/\st.t 1=vi e/\st.t 2=s52 f/\pt st 3 192 c 6/\ol st 7 1088 b 1 d.length/\st.t 8=vi g/\bx st 192 c 28 6 (e28 a)))
abbrev Qli:=λN Q n (st:St)=>∃m o q u w z A B C c d g h i j k,Iv (QbT N n m o q u w z A B C c d g h i j k) Q ((∃l b,st.n=21/\pt st 1 64 l 16/\pt st 2 128 b 16/\bx st 64 l 266 16 [vi m,vi o,s52 q,Yn u,vi w,vi z,s52 A,s3 B,s52 C,vi c,vi d,vi g,vi h,vi i,vi j,vi k]/\bx st 128 b 266 16 [vi 0,vi 0,.nsl,.nsl,vi 0,vi 0,.nsl,.nsl,.nsl,vi 0,vi 0,vi 0,vi 0,vi 0,vi 0,vi 0]))
abbrev Qh8:=λN a e Q n (st:St)=>∃h g,Iv (Qbq N a e n h g) Q ((∃b d c,st.n=50/\r52 st 960 b g/\pt st 1 64 d 10/\pt st 2 128 c 10/\st.t 4=s4 e/\ol st 5 960 b 1 g.length/\st.t 6=vi h/\bx st 64 d 42 10 (e42 a)/\bx st 128 c 42 10 [vi 0,vi 0,.nsl,.nsl,.nsl,.nsl,.nsl,.nsl,.nsl,.nsl]))
abbrev Qjm:=λN a Q n (st:St)=>∃c,Iv (Qae N a n c) Q ((∃b,st.n=83/\pt st 1 64 b 6/\st.t 3=vi c/\bx st 64 b 28 6 (e28 a)))
abbrev Qkw:=λN a Q n (st:St)=>∃h i g,Iv (Qea N a n h i g) Q ((∃b c d,st.n=48/\Xtl st 1600 b g/\st.t 1=s52 h/\pt st 2 128 c 3/\pt st 4 256 d 3/\ol st 27 1600 b 3 g.length/\st.t 28=vi a.S.length/\st.t 29=vi i/\bx st 128 c 32 3 [.osl 1600 b 3 0 g.length,XcR a.x,s3 a.i]/\bx st 256 d 32 3 [.nsl,.nsl,.nsl]))
abbrev Qkx:=λN a Q n (st:St)=>∃h i g,Iv (Qeb N a n h i g) Q ((∃b c d,st.n=44/\r96 st 1344 b g/\st.t 1=s52 h/\pt st 2 128 c 1/\pt st 4 256 d 1/\ol st 23 1344 b 3 g.length/\st.t 24=vi a.e.length/\st.t 25=vi i/\bx st 128 c 35 1 [.osl 1344 b 3 0 g.length]/\bx st 256 d 35 1 [.nsl]))
def g27.sp{p:Prop}(h:p:=by first|((first|((with_reducible refine lp (Qkt N _ _ _) hr N ?_ (λ_ p q=>⟨_,_,_,p,q,?_⟩) _);have lq:=@Qai.eq_2;exact zr)|((with_reducible refine lp (Qjl N _ _ _) hr N ?_ (λ_ p q=>⟨_,_,p,q,?_⟩) _);have lq:=@QaS.eq_2;exact zr)|((with_reducible refine lp (Qku N _ _ _ _ _) hr N ?_ (λ_ p q=>⟨_,_,_,p,q,?_⟩) _);have lq:=@QbS.eq_2;exact zr)|((with_reducible refine lp (Qkv N _ _ _) hr N ?_ (λ_ p q=>⟨_,_,_,p,q,?_⟩) _);have lq:=@Qdo.eq_2;exact zr)|((with_reducible refine lp (Qli N) hr N ?_ (λ_ p q=>⟨_,_,_,_,_,_,_,_,_,_,_,_,_,_,_,_,_,p,q,?_⟩) _);have lq:=@QbT.eq_2;exact zr)|((with_reducible refine lp (Qh8 N _ _) hr N ?_ (λ_ p q=>⟨_,_,_,p,q,?_⟩) _);have lq:=@Qbq.eq_2;exact zr)|((with_reducible refine lp (Qjm N _) hr N ?_ (λ_ p q=>⟨_,_,p,q,?_⟩) _);have lq:=@Qae.eq_2;exact zr)|((with_reducible refine lp (Qkw N _) hr N ?_ (λ_ p q=>⟨_,_,_,_,p,q,?_⟩) _);have lq:=@Qea.eq_2;exact zr)|((with_reducible refine lp (Qkx N _) hr N ?_ (λ_ p q=>⟨_,_,_,_,p,q,?_⟩) _);have lq:=@Qeb.eq_2;exact zr)|refine dq 304 4 hf [(0,[],[512]),(1,[],[512]),(2,[],[512]),(3,[],[512]),(4,[],[512]),(5,[],[512]),(6,[],[512]),(7,[],[512]),(8,[],[512]),(9,[512],[]),(10,[512],[])] ?_|refine dq 309 5 hf [(0,[],[576]),(1,[],[576]),(2,[],[576]),(3,[],[576]),(4,[],[576]),(5,[],[576]),(6,[],[576]),(7,[],[576]),(8,[],[576]),(9,[576],[]),(10,[576],[])] ?_|refine dq 27 8 hf [(6,[],[1600]),(7,[],[1600]),(10,[1600],[])] ?_|refine dq 29 8 hf [(6,[],[1344]),(7,[],[1344]),(10,[1344],[])] ?_)<;>exact zz)|fail):p:=h
def g27.g:(∀N(a0:Wi)(a1:Int),O1 (Qag N a0 a1) 232 [c28 a0,vi a1] (λr=>.tup [s52 r.1,vi r.2]))/\(∀N(a0:Wi)(a1:Int)(a2:List Int),O1 (Qen N a0 a1 a2) 304 [c28 a0,vi a1,s52 a2] (λr=>vu r))/\(∀N(a0:Wi)(a1:Int)(a2:List Int),O1 (QgV N a0 a1 a2) 309 [c28 a0,vi a1,s52 a2] (λr=>s4 r))/\(∀N(a0:Wv),O1 (Qeo N a0) 184 [Jw a0] (λr=>.tup [Jw r.1,vi r.2]))/\(∀N(a0:WP),O1 (Qdq N a0) 57 [c42 a0] (λr=>.tup [c42 r.1,vi r.2]))/\(∀N(a0:Wi),O1 (Qb2 N a0) 87 [c28 a0] (λr=>vb r))/\(∀N(a0:Wq)(a1:List Int),O1 (Qg3 N a0 a1) 27 [c32 a0,s52 a1] (λr=>.tup [c32 r.1,vi r.2]))/\(∀N(a0:WD)(a1:List Int),O1 (Qgw N a0 a1) 29 [c35 a0,s52 a1] (λr=>.tup [c35 r.1,vi r.2])):=by refine⟨λN _ _=>rk f232 ?_,λN _ _ _=>rk f304 ?_,λN _ _ _=>rk f309 ?_,λN _=>rk f184 ?_,λN _=>rk f57 ?_,λN _=>rk f87 ?_,λN _ _=>rk f27 ?_,λN _ _=>rk f29 ?_⟩<;>(simp only[f232,f304,f309,f184,f57,f87,f27,f29,Option.get!,Qag,Qen,QgV,Qeo,Qdq,Qb2,Qg3,Qgw];exact zh)
abbrev Qnj:=g27.g.1
abbrev Ql8:=g27.g.2.1
abbrev Qnk:=g27.g.2.2.1
abbrev QnS:=g27.g.2.2.2.1
abbrev Qky:=g27.g.2.2.2.2.1
abbrev Ql9:=g27.g.2.2.2.2.2.1
abbrev Qnl:=g27.g.2.2.2.2.2.2.1
abbrev Qnm:=g27.g.2.2.2.2.2.2.2
attribute [instance] Qnj Ql8 Qnk QnS Qky Ql9 Qnl Qnm
def g29:(∀N(a0:Wi)(a1:Int),O1 (Qdc N a0 a1) 42 [c28 a0,vu a1] (λr=>.tup [.fsl 52 1 (r.1.map e52),vi r.2]))/\(∀N(a0:Wi)(a1:Int)(a2:Int),O1 (Qc7 N a0 a1 a2) 197 [c28 a0,vu a1,vi a2] (λr=>.tup [vu r.1,vi r.2]))/\(∀N(a0:WP)(a1:Int)(a2:Int)(a3:Int)(a4:Int),O1 (Qgd N a0 a1 a2 a3 a4) 209 [c42 a0,vi a1,vu a2,vu a3,vu a4] (λr=>vi r))/\(∀N(a0:WP)(a1:Int)(a2:Int),O1 (QgB N a0 a1 a2) 211 [c42 a0,vi a1,vu a2] (λr=>vi r))/\(∀N(a0:WP)(a1:Int)(a2:Int)(a3:Bool),O1 (QgY N a0 a1 a2 a3) 213 [c42 a0,vi a1,vu a2,vb a3] (λr=>vi r))/\(∀N(a0:WP)(a1:Int)(a2:Int)(a3:Int),O1 (QgC N a0 a1 a2 a3) 214 [c42 a0,vi a1,vu a2,vu a3] (λr=>vi r))/\(∀N(a0:Wi)(a1:Int),O1 (Qev N a0 a1) 141 [c28 a0,vu a1] (λr=>.tup [c59 r.1,vi r.2]))/\(∀N(a0:Wi)(a1:Int)(a2:Ws),O1 (Qff N a0 a1 a2) 90 [c28 a0,vu a1,c59 a2] (λr=>.tup [c28 r.1,vi r.2])):=by refine⟨λN _ _=>rq f42 [1472] ?_,λN _ _ _=>rk f197 ?_,λN _ _ _ _ _=>rk f209 ?_,λN _ _ _=>rk f211 ?_,λN _ _ _ _=>rk f213 ?_,λN _ _ _ _=>rk f214 ?_,λN _ _=>rk f141 ?_,λN _ _ _=>rk f90 ?_⟩<;>(simp only[f42,f197,f209,f211,f213,f214,f141,f90,Option.get!,Qdc,Qc7,Qgd,QgB,QgY,QgC,Qev,Qff];exact zh)
abbrev Qlj:=g29.1
abbrev Qma:=g29.2.1
abbrev Qlk:=g29.2.2.1
abbrev Qmb:=g29.2.2.2.1
abbrev Qnn:=g29.2.2.2.2.1
abbrev Qmc:=g29.2.2.2.2.2.1
abbrev QnT:=g29.2.2.2.2.2.2.1
abbrev Qmd:=g29.2.2.2.2.2.2.2
attribute [instance] Qlj Qma Qlk Qmb Qnn Qmc QnT Qmd
abbrev Qiw:=λN a Q n (st:St)=>∃g d,Iv (QaK N a n g d) Q ((∃b c,st.n=31/\r52 st 1856 b d/\pt st 1 64 c 6/\ol st 4 1856 b 1 d.length/\st.t 5=vi g/\bx st 64 c 28 6 (e28 a))\/(∃c,(st.n=31/\pt st 1 64 c 6/\st.t 4=.nsl/\st.t 5=vi g/\bx st 64 c 28 6 (e28 a))/\d=[]))
abbrev Qkz:=λN a d e Q n (st:St)=>∃c,Iv (QcP N a d e n c) Q ((∃b,st.n=43/\st.t 1=vi d/\pt st 2 128 b 6/\st.t 7=s4 e/\st.t 8=vi c/\bx st 128 b 28 6 (e28 a)))
def g30.sp{p:Prop}(h:p:=by first|((first|((with_reducible refine lp (Qiw N _) hr N ?_ (λ_ p q=>⟨_,_,_,p,q,?_⟩) _);have lq:=@QaK.eq_2;exact zr)|((with_reducible refine lp (Qkz N _ _ _) hr N ?_ (λ_ p q=>⟨_,_,p,q,?_⟩) _);have lq:=@QcP.eq_2;exact zr))<;>exact zz)|fail):p:=h
def g30.g:(∀N(a0:Wi),O1 (QbA N a0) 148 [c28 a0] (λr=>.tup [s52 r.1,vi r.2]))/\(∀N(a0:Wi)(a1:Int),O1 (Qeg N a0 a1) 305 [c28 a0,vi a1] (λr=>vu r)):=by refine⟨λN _=>rk f148 ?_,λN _ _=>rk f305 ?_⟩<;>(simp only[f148,f305,Option.get!,QbA,Qeg];exact zh)
abbrev Qll:=g30.g.1
abbrev Qno:=g30.g.2
attribute [instance] Qll Qno
end Go.Sx
