import Derived.Test.YtokkmapiallffaaGreatDoorKG26
set_option linter.all false
namespace Go.Sx
open Go.Proofs Tryz
set_option maxRecDepth 10000
set_option maxHeartbeats 100000000
abbrev QlD:=λN a Q n (st:St)=>∃J K L M O P R S g h i j k l m o q u w z A B C F G H I,Iv (Qgb N a n J K L M O P R S g h i j k l m o q u w z A B C F G H I) Q ((∃b c d,st.n=33/\st.t 1=vi a/\pt st 4 256 b 24/\pt st 5 640 d 2/\pt st 6 384 c 24/\st.t 7=vi J/\bx st 256 b 44 24 [vi 0,vi 0,.nsl,.nsl,vi 0,vi 0,.nsl,.nsl,.nsl,.nsl,.nsl,.nsl,.nsl,vi 0,vi 0,.nsl,.nsl,.nsl,.nsl,.nsl,.nsl,.nsl,.nsl,.nsl]/\bx st 384 c 44 24 [vi M,vi O,s59 P,Yn R,vi S,vi g,XcL h,XcK i,s3 j,JP k,JP l,s86 m,s59 o,vi q,vi u,XuY w,XcL z,XcK A,s3 B,JP C,JP F,XuZ G,s59 H,s59 I]/\bx st 640 d 67 2 [s3 K,vi L]))
def g56.sp{p:Prop}(h:p:=by first|((first|((with_reducible refine lp (QlD N _) hr N ?_ (λ_ p q=>⟨_,_,_,_,_,_,_,_,_,_,_,_,_,_,_,_,_,_,_,_,_,_,_,_,_,_,_,_,p,q,?_⟩) _);have lq:=@Qgb.eq_2;exact zr)|refine dq 4 6 hf [(0,[],[640]),(3,[640],[]),(7,[],[384]),(8,[],[384]),(9,[384],[])] ?_)<;>exact zz)|fail):p:=h
abbrev g56.g:∀N(a0:List Int)(a1:Int),O1 (Qhv N a0 a1) 4 [s3 a0,vi a1] (λr=>c44 r):=by refineλN _ _=>rk f4 ?_<;>(simp only[f4,Option.get!,Qhv];exact zh)
abbrev Qoe:=g56.g
attribute [instance] Qoe
end Go.Sx
