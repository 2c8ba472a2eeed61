import Derived.Test.YtokkmapiallffaaGreatDoorKG15
import Derived.Test.YtokkmapiallffaaGreatDoorKG16
set_option linter.all false
namespace Go.Sx
open Go.Proofs Tryz
set_option maxRecDepth 10000
set_option maxHeartbeats 100000000
abbrev QjC:=λN a Q n (st:St)=>∃d,Iv (Qa5 N a n d) Q ((∃c b,st.n=64/\pt st 1 64 c 6/\pt st 2 128 b 3/\st.t 12=Yn a.p/\st.t 13=vi a.p.length/\st.t 14=vi d/\bx st 64 c 28 6 (e28 a)/\bx st 128 b 227 3 [vi 0,vi 0,vu 0]))
abbrev QhY:=λN f a d h e Q n (st:St)=>∃g,Iv (QaP N f a d h e n g) Q ((∃c b,st.n=83/\pt st 1 64 c 6/\pt st 2 128 b 3/\st.t 3=s59 a.1/\st.t 7=vu h/\st.t 24=s59 a.1/\st.t 25=vi a.1.length/\st.t 26=vi d/\st.t 37=s3 e/\st.t 38=vi e.length/\st.t 39=vi g/\bx st 64 c 28 6 (e28 f)/\bx st 128 b 227 3 [vi 0,vi 0,vu 0]))
abbrev QhZ:=λN e a Q n (st:St)=>∃d,Iv (Qct N e a n d) Q ((∃c b,st.n=83/\pt st 1 64 c 6/\pt st 2 128 b 3/\st.t 3=s59 a.1/\st.t 5=vu 0/\st.t 24=s59 a.1/\st.t 25=vi a.1.length/\st.t 26=vi d/\bx st 64 c 28 6 (e28 e)/\bx st 128 b 227 3 [vi 0,vi 0,vu 0]))
abbrev QhJ:=λN a e f Q n (st:St)=>∃g d,Iv (Qce N a e f n g d) Q ((∃b c,st.n=80/\r3 st 1600 b d/\st.t 0=s86 a/\pt st 3 192 c 6/\st.t 6=.clo (.func 145) [] []/\st.t 7=s59 f.1/\ol st 9 1600 b 1 d.length/\st.t 26=s86 a/\st.t 27=vi a.length/\st.t 28=vi g/\bx st 192 c 28 6 (e28 e)))
def g44.sp{p:Prop}(h:p:=by first|((first|((with_reducible refine lp (QjC N _) hr N ?_ (λ_ p q=>⟨_,_,p,q,?_⟩) _);have lq:=@Qa5.eq_2;exact zr)|((with_reducible refine lp (QhY N _ _ _ _ _) hr N ?_ (λ_ p q=>⟨_,_,p,q,?_⟩) _);have lq:=@QaP.eq_2;exact zr)|((with_reducible refine lp (QhZ N _ _) hr N ?_ (λ_ p q=>⟨_,_,p,q,?_⟩) _);have lq:=@Qct.eq_2;exact zr)|((with_reducible refine lp (QhJ N _ _ _) hr N ?_ (λ_ p q=>⟨_,_,_,p,q,?_⟩) _);have lq:=@Qce.eq_2;exact zr)|refine dq 73 11 hf [(8,[1600],[])] ?_)<;>exact zz)|fail):p:=h
def g44.g:(∀N(a0:Wh),O1 (Qgy N a0) 229 [c28 a0] (λr=>Xry r))/\(∀N(a0:Wh),O1 (Qfo N a0) 230 [c28 a0] (λr=>Xry r))/\(∀N(a0:List UB)(a1:Wh),O1 (Qf6 N a0 a1) 73 [s86 a0,c28 a1] (λr=>.tup [s3 r.1,vb r.2])):=by refine⟨λN _=>rk f229 ?_,λN _=>rk f230 ?_,λN _ _=>rk f73 ?_⟩<;>(simp only[f229,f230,f73,Option.get!,Qgy,Qfo,Qf6];exact zh)
abbrev Qmu:=g44.g.1
abbrev QjD:=g44.g.2.1
abbrev QiH:=g44.g.2.2
attribute [instance] Qmu QjD QiH
abbrev g43:∀N(a0:Wh),O1 (Qbk N a0) 246 [c28 a0] (λr=>vb r):=by refineλN _=>rk f246 ?_<;>(simp only[f246,Option.get!,Qbk];exact zh)
abbrev QnD:=g43
attribute [instance] QnD
end Go.Sx
