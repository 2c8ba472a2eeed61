import Derived.Test.YtokkmapiallffaaGreatDoorKG27
set_option linter.all false
namespace Go.Sx
open Go.Proofs Tryz
set_option maxRecDepth 10000
set_option maxHeartbeats 100000000
abbrev Qh1:=λN a e Q n (st:St)=>∃d,Iv (Qa0 N a e n d) Q ((∃b c,st.n=126/\pt st 3 192 b 24/\pt st 4 256 c 13/\st.t 11=vi d/\bx st 192 b 44 24 (e44 a)/\bx st 256 c 38 13 (e38 e.1)))
def g57.sp{p:Prop}(h:p:=by first|((first|((with_reducible refine lp (Qh1 N _ _) hr N ?_ (λ_ p q=>⟨_,_,p,q,?_⟩) _);have lq:=@Qa0.eq_2;exact zr)|refine dq 3 5 hf [(0,[],[448]),(1,[],[448]),(2,[],[448]),(3,[],[448]),(4,[],[448]),(5,[],[448]),(6,[],[448]),(7,[],[448]),(8,[],[448]),(9,[],[448]),(10,[448],[]),(11,[448],[])] ?_|refine dq 3 6 hf [(0,[],[576]),(1,[],[576]),(2,[],[576]),(3,[],[576]),(4,[],[576]),(5,[],[576]),(6,[],[576]),(7,[],[576]),(8,[576],[]),(9,[576],[])] ?_)<;>exact zz)|fail):p:=h
abbrev g57.g:∀N(a0:List Int),O1 (Qfq N a0) 3 [s3 a0] (λr=>vb r):=by refineλN _=>rk f3 ?_<;>(simp only[f3,Option.get!,Qfq];exact zh)
abbrev QjK:=g57.g
attribute [instance] QjK
end Go.Sx
