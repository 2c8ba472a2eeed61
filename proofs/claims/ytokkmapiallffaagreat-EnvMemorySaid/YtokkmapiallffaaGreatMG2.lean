import Derived.Test.YtokkmapiallffaaGreatMG0
import Derived.Test.YtokkmapiallffaaGreatMG1
set_option linter.all false
namespace Go.Sx
open Go.Proofs Tryz
set_option maxRecDepth 10000
set_option maxHeartbeats 100000000
abbrev QiZ:=λN a Q n (st:St)=>∃c,Iv (Qdw N a n c) Q ((∃b,st.n=174/\pt st 1 64 b 3/\st.t 3=vi c/\bx st 64 b 32 3 (e32 a)))
abbrev Qi0:=λN a Q n (st:St)=>∃c d,Iv (Qaw N a n c d) Q ((∃b,st.n=174/\pt st 1 64 b 3/\st.t 4=vi c/\st.t 5=vi d/\bx st 64 b 32 3 (e32 a)))
abbrev Qi1:=λN a Q n (st:St)=>∃b c,Iv (Qat N a n b c) Q ((∃d,st.n=174/\pt st 1 64 d 3/\st.t 7=vi b/\st.t 8=vi c/\bx st 64 d 32 3 (e32 a)))
abbrev Qi2:=λN a Q n (st:St)=>∃b,Iv (QcX N a n b) Q ((∃c,st.n=174/\pt st 1 64 c 3/\st.t 10=vi b/\bx st 64 c 32 3 (e32 a)))
abbrev Qi3:=λN a c Q n (st:St)=>∃b,Iv (QbE N a c n b) Q ((st.n=31/\st.t 1=vi a/\st.t 5=Xps c/\st.t 6=vi b))
abbrev QeK:=λN a Q n (st:St)=>∃b,Iv (Qan N a n b) Q ((st.n=19/\st.t 0=s96 a/\st.t 1=.clo (.func 102) [] []/\st.t 7=vi a.length/\st.t 8=vi b))
abbrev Qgi:=λN a Q n (st:St)=>∃b,Iv (QaG N a n b) Q ((st.n=19/\st.t 0=s3 a/\st.t 1=.clo (.func 97) [] []/\st.t 7=vi a.length/\st.t 8=vi b))
abbrev Qi4:=λN d a Q n (st:St)=>∃b c,Iv (QaV N d a n b c) Q ((st.n=49/\st.t 0=vu d/\st.t 1=s3 a/\st.t 6=vi b/\st.t 12=s3 a/\st.t 13=vi a.length/\st.t 14=vi c))
abbrev Qi5:=λN a Q n (st:St)=>∃d g c,Iv (QaW N a n d g c) Q ((∃b,st.n=49/\r52 st 2624 b c/\st.t 0=vu d/\ol st 9 2624 b 1 c.length/\st.t 29=s3 a/\st.t 30=vi a.length/\st.t 31=vi g)\/((st.n=49/\st.t 0=vu d/\st.t 9=.nsl/\st.t 29=s3 a/\st.t 30=vi a.length/\st.t 31=vi g)/\c=[]))
abbrev Qed:=λN a Q n (st:St)=>∃b,Iv (Qak N a n b) Q ((st.n=19/\st.t 0=XmB a/\st.t 1=.clo (.func 176) [] []/\st.t 7=vi a.length/\st.t 8=vi b))
abbrev QjZ:=λN c a Q n (st:St)=>∃b,Iv (Qd8 N c a n b) Q ((st.n=23/\st.t 1=vi c/\st.t 10=Xps a/\st.t 11=vi a.length/\st.t 12=vi b))
def g11.sp{p:Prop}(h:p:=by first|((first|((with_reducible refine lp (QiZ N _) hr N ?_ (λ_ p q=>⟨_,_,p,q,?_⟩) _);have lq:=@Qdw.eq_2;exact zr)|((with_reducible refine lp (Qi0 N _) hr N ?_ (λ_ p q=>⟨_,_,_,p,q,?_⟩) _);have lq:=@Qaw.eq_2;exact zr)|((with_reducible refine lp (Qi1 N _) hr N ?_ (λ_ p q=>⟨_,_,_,p,q,?_⟩) _);have lq:=@Qat.eq_2;exact zr)|((with_reducible refine lp (Qi2 N _) hr N ?_ (λ_ p q=>⟨_,_,p,q,?_⟩) _);have lq:=@QcX.eq_2;exact zr)|((with_reducible refine lp (Qi3 N _ _) hr N ?_ (λ_ p q=>⟨_,_,p,q,?_⟩) _);have lq:=@QbE.eq_2;exact zr)|((with_reducible refine lp (QeK N _) hr N ?_ (λ_ p q=>⟨_,_,p,q,?_⟩) _);have lq:=@Qan.eq_2;exact zr)|((with_reducible refine lp (Qgi N _) hr N ?_ (λ_ p q=>⟨_,_,p,q,?_⟩) _);have lq:=@QaG.eq_2;exact zr)|((with_reducible refine lp (Qi4 N _ _) hr N ?_ (λ_ p q=>⟨_,_,_,p,q,?_⟩) _);have lq:=@QaV.eq_2;exact zr)|((with_reducible refine lp (Qi5 N _) hr N ?_ (λ_ p q=>⟨_,_,_,_,p,q,?_⟩) _);have lq:=@QaW.eq_2;exact zr)|((with_reducible refine lp (Qed N _) hr N ?_ (λ_ p q=>⟨_,_,p,q,?_⟩) _);have lq:=@Qak.eq_2;exact zr)|((with_reducible refine lp (QjZ N _ _) hr N ?_ (λ_ p q=>⟨_,_,p,q,?_⟩) _);have lq:=@Qd8.eq_2;exact zr))<;>exact zz)|fail):p:=h
def g11.g:(∀N(a0:Wq),O1 (Qcf N a0) 82 [c32 a0] (λr=>vb r))/\(∀N(a0:List Wo)(a1:Int),O1 (Qba N a0 a1) 299 [Yn a0,vi a1] (λr=>vi r))/\(∀N(a0:List W6),O1 (QaQ N a0) 172 [s96 a0,.clo (.func 102) [] []] (λr=>vi r))/\(∀N(a0:List Int),O1 (QbW N a0) 170 [s3 a0,.clo (.func 97) [] []] (λr=>vi r))/\(∀N(a0:Int)(a1:List Int),O1 (Qfb N a0 a1) 270 [vu a0,s3 a1] (λr=>.tup [s52 r.1,vi r.2]))/\(∀N(a0:List UT),O1 (Qas N a0) 250 [XmB a0,.clo (.func 176) [] []] (λr=>vi r))/\(∀N(a0:List Wo)(a1:Int),O1 (QdN N a0 a1) 239 [Yn a0,vi a1] (λr=>vi r)):=by refine⟨λN _=>rk f82 ?_,λN _ _=>rk f299 ?_,λN _=>rk f172 ?_,λN _=>rk f170 ?_,λN _ _=>rk f270 ?_,λN _=>rk f250 ?_,λN _ _=>rk f239 ?_⟩<;>(simp only[f82,f299,f172,f170,f270,f250,f239,Option.get!,Qcf,Qba,QaQ,QbW,Qfb,Qas,QdN];exact zh)
abbrev QlE:=g11.g.1
abbrev QlF:=g11.g.2.1
abbrev Qe6:=g11.g.2.2.1
abbrev QgH:=g11.g.2.2.2.1
abbrev QlG:=g11.g.2.2.2.2.1
abbrev QeD:=g11.g.2.2.2.2.2.1
abbrev QmL:=g11.g.2.2.2.2.2.2
attribute [instance] QlE QlF Qe6 QgH QlG QeD QmL
def g9.sp{p:Prop}(h:p:=by first|((first|refine dq 61 6 hf [(0,[],[1000000]),(1,[],[1000000]),(4,[1000000],[]),(5,[],[1000000]),(6,[],[1000000]),(7,[],[1000000]),(8,[1000000],[])] ?_|refine dq 61 10 hf [(0,[],[1000000]),(1,[],[1000000]),(4,[1000000],[])] ?_|refine dq 61 11 hf [(0,[],[1000000]),(1,[],[1000000]),(2,[],[1000000]),(3,[],[1000000]),(7,[1000000],[])] ?_|refine dq 72 1 hf [(2,[320],[]),(3,[],[320]),(4,[],[320]),(5,[512],[]),(6,[],[512]),(7,[64],[]),(9,[64],[])] ?_|refine dq 77 1 hf [(2,[320],[]),(3,[],[320]),(4,[],[320]),(5,[512],[]),(6,[],[320,512]),(7,[],[320,512]),(8,[704],[]),(10,[128],[])] ?_|refine dq 83 6 hf [(0,[],[1728]),(1,[],[1728]),(4,[1728],[]),(6,[128],[])] ?_)<;>exact zz)|fail):p:=h
def g9.g:(∀N(a0:WN),O1 (Qgc N a0) 55 [c24 a0] (λr=>.tup [c42 r.1,vi r.2]))/\(∀N(a0:List Int)(a1:Int),O1 (QfY N a0 a1) 244 [s52 a0,vu a1] (λr=>.tup [vi r.1,vi r.2]))/\(∀N(a0:WN)(a1:Int)(a2:Int),O1 (Qbx N a0 a1 a2) 276 [c24 a0,vi a1,vi a2] (λr=>.tup [vu r.1,vi r.2]))/\(∀N(a0:Wv)(a1:Int),O1 (QbX N a0 a1) 258 [Jw a0,vi a1] (λr=>vb r))/\(∀N(a0:Ix),O1 (Qca N a0) 202 [XrI a0] (λr=>.tup [vu r.1,vi r.2]))/\(∀N a0 a1,OK (Qb0 N a0 a1) 61 [c44 a0,.ept 1000000 0 2 0 0] [.arr true 62 2 [[s3 a1.L,vi a1.at_]] 0] (λr=>vu r.1) λr=>[.arr true 62 2 [[s3 r.2.L,vi r.2.at_]] 0])/\(∀N(a0:Ws),O1 (Qdi N a0) 84 [c59 a0] (λr=>vb r))/\(∀N(a0:List Int)(a1:Int),O1 (Qhd N a0 a1) 275 [s52 a0,vu a1] (λr=>.tup [vi r.1,vi r.2]))/\(∀N(a0:List Int)(a1:Int),O1 (Qaj N a0 a1) 48 [s52 a0,vu a1] (λr=>vb r))/\(∀N(a0:Int)(a1:Int),O1 (QdW N a0 a1) 279 [vu a0,vi a1] (λr=>vb r))/\(∀N(a0:Wi),O1 (QgF N a0) 72 [c28 a0] (λr=>c28 r))/\(∀N(a0:Wq),O1 (Qhf N a0) 77 [c32 a0] (λr=>.agg [.fsl 158 3 (r.S.map XaX),XcR r.x,s3 r.i]))/\(∀N(a0:WN),O1 (QiD N a0) 83 [c24 a0] (λr=>.tup [c28 r.1,vi r.2])):=by refine⟨λN _=>rk f55 ?_,λN _ _=>rk f244 ?_,λN _ _ _=>rk f276 ?_,λN _ _=>rk f258 ?_,λN _=>rk f202 ?_,λN _ _=>rk f61 ?_,λN _=>rk f84 ?_,λN _ _=>rk f275 ?_,λN _ _=>rk f48 ?_,λN _ _=>rk f279 ?_,λN _=>rk f72 ?_,λN _=>rq f77 [320] ?_,λN _=>rk f83 ?_⟩<;>(simp only[f55,f244,f276,f258,f202,f61,f84,f275,f48,f279,f72,f77,f83,Option.get!,Qgc,QfY,Qbx,QbX,Qca,Qb0,Qdi,Qhd,Qaj,QdW,QgF,Qhf,QiD];exact zh)
abbrev QnD:=g9.g.1
abbrev QlH:=g9.g.2.1
abbrev Qj0:=g9.g.2.2.1
abbrev Qi6:=g9.g.2.2.2.1
abbrev QkX:=g9.g.2.2.2.2.1
abbrev Qi7:=g9.g.2.2.2.2.2.1
abbrev QkY:=g9.g.2.2.2.2.2.2.1
abbrev QlI:=g9.g.2.2.2.2.2.2.2.1
abbrev QgT:=g9.g.2.2.2.2.2.2.2.2.1
abbrev QnE:=g9.g.2.2.2.2.2.2.2.2.2.1
abbrev QlJ:=g9.g.2.2.2.2.2.2.2.2.2.2.1
abbrev QlK:=g9.g.2.2.2.2.2.2.2.2.2.2.2.1
abbrev Qn7:=g9.g.2.2.2.2.2.2.2.2.2.2.2.2
attribute [instance] QnD QlH Qj0 Qi6 QkX Qi7 QkY QlI QgT QnE QlJ QlK Qn7
abbrev Qj1:=λN a Q n (st:St)=>∃g d,Iv (QbQ N a n g d) Q ((∃b c,st.n=32/\r52 st 1920 b d/\pt st 1 64 c 1/\ol st 3 1920 b 1 d.length/\st.t 4=vi g/\bx st 64 c 35 1 [s96 a.e])\/(∃c,(st.n=32/\pt st 1 64 c 1/\st.t 3=.nsl/\st.t 4=vi g/\bx st 64 c 35 1 [s96 a.e])/\d=[]))
abbrev Qi8:=λN a e Q n (st:St)=>∃d c,Iv (Qck N a e n d c) Q ((∃b,st.n=41/\r52 st 1408 b c/\st.t 2=s52 a/\st.t 8=vi e.1/\ol st 10 1408 b 1 c.length/\st.t 11=vi d))
abbrev QkZ:=λN a f Q n (st:St)=>∃d,Iv (Qcb N a f n d) Q ((∃b c,st.n=69/\r96 st 896 b a.e/\st.t 1=vu f/\pt st 4 256 c 1/\ol st 8 896 b 3 a.e.length/\st.t 9=vi d/\bx st 256 c 35 1 [.nsl]))
abbrev Qhx:=λN a Q n (st:St)=>∃b c,Iv (QbP N a n b c) Q ((st.n=22/\st.t 5=vi b/\st.t 10=XcS a/\st.t 11=vi a.length/\st.t 12=vi c))
abbrev QgL:=λN a Q n (st:St)=>∃b c,Iv (QaT N a n b c) Q ((st.n=36/\st.t 0=s25 a/\st.t 3=vi b/\st.t 9=s25 a/\st.t 10=vi a.length/\st.t 11=vi c))
abbrev QgM:=λN a Q n (st:St)=>∃d c,Iv (QaU N a n d c) Q ((∃b,st.n=36/\r52 st 1536 b c/\ol st 6 1536 b 1 c.length/\st.t 25=s25 a/\st.t 26=vi a.length/\st.t 27=vi d))
abbrev Qfx:=λN a Q n (st:St)=>∃b,Iv (Qau N a n b) Q ((st.n=19/\st.t 0=s52 a/\st.t 1=.clo (.func 296) [] []/\st.t 7=vi a.length/\st.t 8=vi b))
abbrev Qfi:=λN a c0 Q n (st:St)=>∃b,Iv (Qap N a c0 n b) Q ((st.n=19/\st.t 0=s93 a/\st.t 1=.clo (.func 249) [] [.ept 1000000 0 1 0 0]/\st.t 7=vi a.length/\st.t 8=vi b/\bx st 1000000 0 52 1 [vu c0]))
abbrev Qj2:=λN a e Q n (st:St)=>∃d,Iv (QeU N a e n d) Q ((∃b c,st.n=77/\pt st 2 128 b 2/\pt st 3 192 c 2/\st.t 5=vi d/\bx st 128 b 69 2 (e69 a)/\bx st 192 c 69 2 (e69 e)))
abbrev Qj3:=λN a e Q n (st:St)=>∃d,Iv (QeV N a e n d) Q ((∃b c,st.n=77/\pt st 2 128 b 2/\pt st 3 192 c 2/\st.t 6=vi d/\bx st 128 b 69 2 (e69 a)/\bx st 192 c 69 2 (e69 e)))
def g10.sp{p:Prop}(h:p:=by first|((first|((with_reducible refine lp (Qj1 N _) hr N ?_ (λ_ p q=>⟨_,_,_,p,q,?_⟩) _);have lq:=@QbQ.eq_2;exact zr)|((with_reducible refine lp (Qi8 N _ _) hr N ?_ (λ_ p q=>⟨_,_,_,p,q,?_⟩) _);have lq:=@Qck.eq_2;exact zr)|((with_reducible refine lp (QkZ N _ _) hr N ?_ (λ_ p q=>⟨_,_,p,q,?_⟩) _);have lq:=@Qcb.eq_2;exact zr)|((with_reducible refine lp (Qhx N _) hr N ?_ (λ_ p q=>⟨_,_,_,p,q,?_⟩) _);have lq:=@QbP.eq_2;exact zr)|((with_reducible refine lp (QgL N _) hr N ?_ (λ_ p q=>⟨_,_,_,p,q,?_⟩) _);have lq:=@QaT.eq_2;exact zr)|((with_reducible refine lp (QgM N _) hr N ?_ (λ_ p q=>⟨_,_,_,p,q,?_⟩) _);have lq:=@QaU.eq_2;exact zr)|((with_reducible refine lp (Qfx N _) hr N ?_ (λ_ p q=>⟨_,_,p,q,?_⟩) _);have lq:=@Qau.eq_2;exact zr)|((with_reducible refine lp (Qfi N _ _) hr N ?_ (λ_ p q=>⟨_,_,p,q,?_⟩) _);have lq:=@Qap.eq_2;exact zr)|((with_reducible refine lp (Qj2 N _ _) hr N ?_ (λ_ p q=>⟨_,_,p,q,?_⟩) _);have lq:=@QeU.eq_2;exact zr)|((with_reducible refine lp (Qj3 N _ _) hr N ?_ (λ_ p q=>⟨_,_,p,q,?_⟩) _);have lq:=@QeV.eq_2;exact zr)|refine dq 201 9 hf [(2,[],[256]),(3,[],[256]),(4,[],[256]),(5,[],[256]),(6,[],[256]),(7,[],[256]),(8,[256],[])] ?_)<;>exact zz)|fail):p:=h
def g10.g:(∀N(a0:WD),O1 (Qbu N a0) 7 [c35 a0] (λr=>.fsl 52 1 (r.map e52)))/\(∀N(a0:List Int)(a1:Int)(a2:List Int),O1 (Qch N a0 a1 a2) 260 [s52 a0,vu a1,s52 a2] (λr=>.tup [s52 r.1,vi r.2]))/\(∀N(a0:WD)(a1:Int),O1 (QcZ N a0 a1) 201 [c35 a0,vu a1] (λr=>.tup [c35 r.1,vi r.2.1,vi r.2.2.1,vi r.2.2.2]))/\(∀N(a0:IQ)(a1:Int),O1 (Qee N a0 a1) 100 [Xpt a0,vi a1] (λr=>vi r))/\(∀N(a0:List (List Int)),O1 (QaP N a0) 64 [s25 a0] (λr=>s52 r))/\(∀N(a0:List Int),O1 (Qbn N a0) 177 [s52 a0,.clo (.func 296) [] []] (λr=>vi r))/\(∀N a0 c0,OK (Qa7 N a0 c0) 248 [s93 a0,.clo (.func 249) [] [.ept 1000000 0 1 0 0]] [.arr true 52 1 [[vu c0]] 0] (λr=>vi r) λr=>[.arr true 52 1 [[vu c0]] 0])/\(∀N(a0:Oi)(a1:Oi),O1 (Qg7 N a0 a1) 15 [c69 a0,c69 a1] (λr=>vb r)):=by refine⟨λN _=>rq f7 [1920] ?_,λN _ _ _=>rk f260 ?_,λN _ _=>rk f201 ?_,λN _ _=>rk f100 ?_,λN _=>rk f64 ?_,λN _=>rk f177 ?_,λN _ _=>rk f248 ?_,λN _ _=>rk f15 ?_⟩<;>(simp only[f7,f260,f201,f100,f64,f177,f248,f15,Option.get!,Qbu,Qch,QcZ,Qee,QaP,Qbn,Qa7,Qg7];exact zh)
abbrev QmM:=g10.g.1
abbrev QlL:=g10.g.2.1
abbrev QnF:=g10.g.2.2.1
abbrev QhN:=g10.g.2.2.2.1
abbrev Qg9:=g10.g.2.2.2.2.1
abbrev Qf6:=g10.g.2.2.2.2.2.1
abbrev Qfy:=g10.g.2.2.2.2.2.2.1
abbrev QmN:=g10.g.2.2.2.2.2.2.2
attribute [instance] QmM QlL QnF QhN Qg9 Qf6 Qfy QmN
def g7.sp{p:Prop}(h:p:=by first|((first|refine dq 53 1 hf [(0,[192],[512,1000000]),(1,[],[192,512]),(2,[1000000],[192,512]),(3,[],[512,1000000]),(4,[],[512,1000000]),(5,[512],[192,1000000]),(6,[],[192,512,1000000]),(7,[1000000],[192,512]),(8,[],[192]),(9,[],[192]),(11,[128],[])] ?_|refine dq 73 1 hf [(2,[320],[]),(3,[],[320]),(4,[],[320]),(5,[512],[]),(6,[],[320,512]),(7,[],[320,512]),(8,[704],[]),(10,[128],[])] ?_)<;>exact zz)|fail):p:=h
def g7.g:(∀N a0,OK (Qfn N a0) 53 [.ept 1000000 0 2 0 0] [.arr true 62 2 [[s3 a0.L,vi a0.at_]] 0] (λr=>c24 r.1) λr=>[.arr true 62 2 [[s3 r.2.L,vi r.2.at_]] 0])/\(∀N(a0:WN),O1 (QcT N a0) 35 [c24 a0] (λr=>vi r))/\(∀N(a0:Ws),O1 (Qcz N a0) 245 [c59 a0] (λr=>.tup [vu r.1,vi r.2]))/\(∀N(a0:List Int)(a1:Int)(a2:Int),O1 (Qdb N a0 a1 a2) 92 [s52 a0,vu a1,vi a2] (λr=>.tup [.fsl 52 1 (r.1.map e52),vi r.2]))/\(∀N(a0:List Wo)(a1:Int)(a2:Int),O1 (QbJ N a0 a1 a2) 300 [Yn a0,vi a1,vi a2] (λr=>.tup [.fsl 122 4 (r.1.map YT),vi r.2]))/\(∀N(a0:WD)(a1:Int)(a2:Int),O1 (QdP N a0 a1 a2) 216 [c35 a0,vi a1,vi a2] (λr=>.tup [vu r.1,vi r.2]))/\(∀N(a0:WN),O1 (Qe2 N a0) 154 [c24 a0] (λr=>vi r))/\(∀N(a0:WN)(a1:Int)(a2:Int),O1 (Qdj N a0 a1 a2) 89 [c24 a0,vi a1,vi a2] (λr=>.tup [vu r.1,vi r.2]))/\(∀N(a0:List Int)(a1:Int)(a2:Int),O1 (Qg0 N a0 a1 a2) 294 [s52 a0,vu a1,vi a2] (λr=>.tup [.fsl 52 1 (r.1.map e52),vi r.2]))/\(∀N(a0:List Int)(a1:Int),O1 (Qbc N a0 a1) 271 [s3 a0,vi a1] (λr=>vb r))/\(∀N(a0:List Int)(a1:Int)(a2:List Int),O1 (QgE N a0 a1 a2) 160 [s52 a0,vu a1,s52 a2] (λr=>.tup [s52 r.1,vi r.2]))/\(∀N(a0:Wq),O1 (QfX N a0) 73 [c32 a0] (λr=>c32 r))/\(∀N(a0:WD),O1 (Qhg N a0) 78 [c35 a0] (λr=>.agg [.fsl 96 3 (r.e.map e96)])):=by refine⟨λN _=>rk f53 ?_,λN _=>rk f35 ?_,λN _=>rk f245 ?_,λN _ _ _=>rq f92 [1344] ?_,λN _ _ _=>rq f300 [1216] ?_,λN _ _ _=>rk f216 ?_,λN _=>rk f154 ?_,λN _ _ _=>rk f89 ?_,λN _ _ _=>rq f294 [1728] ?_,λN _ _=>rk f271 ?_,λN _ _ _=>rk f160 ?_,λN _=>rk f73 ?_,λN _=>rq f78 [320] ?_⟩<;>(simp only[f53,f35,f245,f92,f300,f216,f154,f89,f294,f271,f160,f73,f78,Option.get!,Qfn,QcT,Qcz,Qdb,QbJ,QdP,Qe2,Qdj,Qg0,Qbc,QgE,QfX,Qhg];exact zh)
abbrev Qi9:=g7.g.1
abbrev Qh0:=g7.g.2.1
abbrev Qk0:=g7.g.2.2.1
abbrev QmO:=g7.g.2.2.2.1
abbrev QlM:=g7.g.2.2.2.2.1
abbrev QnG:=g7.g.2.2.2.2.2.1
abbrev Qio:=g7.g.2.2.2.2.2.2.1
abbrev Qk1:=g7.g.2.2.2.2.2.2.2.1
abbrev QmP:=g7.g.2.2.2.2.2.2.2.2.1
abbrev Qhn:=g7.g.2.2.2.2.2.2.2.2.2.1
abbrev QlN:=g7.g.2.2.2.2.2.2.2.2.2.2.1
abbrev Qj4:=g7.g.2.2.2.2.2.2.2.2.2.2.2.1
abbrev QlO:=g7.g.2.2.2.2.2.2.2.2.2.2.2.2
attribute [instance] Qi9 Qh0 Qk0 QmO QlM QnG Qio Qk1 QmP Qhn QlN Qj4 QlO
end Go.Sx
