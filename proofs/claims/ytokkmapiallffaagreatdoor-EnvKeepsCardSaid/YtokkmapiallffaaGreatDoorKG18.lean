import Derived.Test.YtokkmapiallffaaGreatDoorKG17
set_option linter.all false
namespace Go.Sx
open Go.Proofs Tryz
set_option maxRecDepth 10000
set_option maxHeartbeats 100000000
abbrev QjE:=λN a e f Q n (st:St)=>∃g d,Iv (Qbd N a e f n g d) Q ((∃b c,st.n=103/\r3 st 1664 b d/\st.t 1=s86 e/\pt st 2 128 c 6/\st.t 5=s59 f.1/\ol st 7 1664 b 1 d.length/\st.t 8=vi g/\bx st 128 c 28 6 (e28 a)))
abbrev QjF:=λN e a Q n (st:St)=>∃d,Iv (QbC N e a n d) Q ((∃b c,st.n=103/\r3 st 1664 b a/\pt st 2 128 c 6/\ol st 7 1664 b 1 a.length/\st.t 9=vi d/\bx st 128 c 28 6 (e28 e)))
abbrev QiI:=λN a c Q n (st:St)=>∃b,Iv (QaC N a c n b) Q ((st.n=36/\st.t 1=s59 a/\st.t 5=s59 c.1/\st.t 7=vi b))
abbrev QjG:=λN a e Q n (st:St)=>∃i h,Iv (QbE N a e n i h) Q ((∃b g c d,st.n=61/\VM st 1472 b h/\pt st 1 64 g 6/\pt st 2 128 c 16/\pt st 4 256 d 16/\st.t 5=vi i/\bx st 64 g 28 6 (e28 a)/\bx st 128 c 261 16 [vi 0,vi 0,.nsl,.nsl,vi 0,vi 0,.nsl,.nsl,.nsl,vi 0,vi 0,vi 0,vi 0,vi 0,vi 0,vi 0]/\bx st 256 d 261 16 [vi a.c.W,vi a.c.p,s59 a.w,.osl 1472 b 4 0 h.length,vi a.s,vi a.b,s59 e.1,.nsl,.nsl,vi 0,vi 0,vi 0,vi 0,vi 0,vi 0,vi 0]))
abbrev Qih:=λN a e Q n (st:St)=>∃c d,Iv (Qbq N a e n c d) Q ((∃b,st.n=65/\st.t 1=vu e/\pt st 2 128 b 6/\st.t 5=vi c/\st.t 6=vi d/\bx st 128 b 28 6 (e28 a)))
abbrev QjH:=λN a Q n (st:St)=>∃d g,Iv (Qcp N a n d g) Q ((∃c b,st.n=50/\pt st 1 64 c 6/\pt st 2 128 b 3/\st.t 5=vi d/\st.t 25=Yn a.p/\st.t 26=vi a.p.length/\st.t 27=vi g/\bx st 64 c 28 6 (e28 a)/\bx st 128 b 227 3 [vi 0,vi 0,vu 0]))
def g45.sp{p:Prop}(h:p:=by first|((first|((with_reducible refine lp (QjE N _ _ _) hr N ?_ (λ_ p q=>⟨_,_,_,p,q,?_⟩) _);have lq:=@Qbd.eq_2;exact zr)|((with_reducible refine lp (QjF N _ _) hr N ?_ (λ_ p q=>⟨_,_,p,q,?_⟩) _);have lq:=@QbC.eq_2;exact zr)|((with_reducible refine lp (QiI N _ _) hr N ?_ (λ_ p q=>⟨_,_,p,q,?_⟩) _);have lq:=@QaC.eq_2;exact zr)|((with_reducible refine lp (QjG N _ _) hr N ?_ (λ_ p q=>⟨_,_,_,p,q,?_⟩) _);have lq:=@QbE.eq_2;exact zr)|((with_reducible refine lp (Qih N _ _) hr N ?_ (λ_ p q=>⟨_,_,_,p,q,?_⟩) _);have lq:=@Qbq.eq_2;exact zr)|((with_reducible refine lp (QjH N _) hr N ?_ (λ_ p q=>⟨_,_,_,p,q,?_⟩) _);have lq:=@Qcp.eq_2;exact zr)|refine dq 176 10 hf [(17,[1664],[])] ?_|refine dq 261 9 hf [(0,[],[448]),(1,[],[448]),(2,[],[448]),(3,[],[448]),(4,[],[448]),(5,[],[448]),(6,[],[448]),(7,[448],[]),(8,[448],[])] ?_)<;>exact zz)|fail):p:=h
def g45.g:(∀N(a0:Wh)(a1:List UB),O1 (Qch N a0 a1) 176 [c28 a0,s86 a1] (λr=>vb r))/\(∀N(a0:Wh)(a1:List Int),O1 (QbD N a0 a1) 177 [c28 a0,s59 a1] (λr=>vb r))/\(∀N(a0:Wh),O1 (QcZ N a0) 178 [c28 a0] (λr=>.tup [Jv r.1,vi r.2]))/\(∀N(a0:Wh)(a1:Int),O1 (QcQ N a0 a1) 261 [c28 a0,vu a1] (λr=>vb r))/\(∀N(a0:Wh),O1 (Qhe N a0) 144 [c28 a0] (λr=>Xry r)):=by refine⟨λN _ _=>rk f176 ?_,λN _ _=>rk f177 ?_,λN _=>rk f178 ?_,λN _ _=>rk f261 ?_,λN _=>rk f144 ?_⟩<;>(simp only[f176,f177,f178,f261,f144,Option.get!,Qch,QbD,QcZ,QcQ,Qhe];exact zh)
abbrev Qmv:=g45.g.1
abbrev Qlw:=g45.g.2.1
abbrev Qmw:=g45.g.2.2.1
abbrev QkM:=g45.g.2.2.2.1
abbrev Qmx:=g45.g.2.2.2.2
attribute [instance] Qmv Qlw Qmw QkM Qmx
end Go.Sx
