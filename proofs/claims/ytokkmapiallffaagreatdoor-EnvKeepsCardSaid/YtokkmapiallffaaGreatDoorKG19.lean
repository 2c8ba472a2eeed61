import Derived.Test.YtokkmapiallffaaGreatDoorKG18
set_option linter.all false
namespace Go.Sx
open Go.Proofs Tryz
set_option maxRecDepth 10000
set_option maxHeartbeats 100000000
def g46.sp{p:Prop}(h:p:=by first|((first|refine dq 103 6 hf [(0,[2176],[]),(1,[],[2176]),(2,[],[2176]),(3,[2176],[]),(4,[],[2176]),(5,[],[2176]),(7,[2176],[])] ?_|refine dq 103 7 hf [(0,[],[2176,3136]),(1,[],[2176,3136]),(4,[2176],[]),(5,[],[2176]),(6,[],[2176]),(7,[3136],[]),(8,[2176],[])] ?_|refine dq 202 11 hf [(7,[1600],[])] ?_)<;>exact zz)|fail):p:=h
def g46.g:(∀N(a0:Uj),O1 (QbI N a0) 103 [c38 a0] (λr=>vb r))/\(∀N(a0:Wh)(a1:List UB)(a2:Int),O1 (Qdo N a0 a1 a2) 202 [c28 a0,s86 a1,vu a2] (λr=>.tup [c28 r.1,s86 r.2.1,vi r.2.2]))/\(∀N(a0:Wh)(a1:List UB)(a2:Int),O1 (Qft N a0 a1 a2) 203 [c28 a0,s86 a1,vu a2] (λr=>.tup [c28 r.1,s86 r.2.1,vu r.2.2.1,vi r.2.2.2]))/\(∀N(a0:Wh),O1 (QfC N a0) 72 [c28 a0] (λr=>vb r)):=by refine⟨λN _=>rk f103 ?_,λN _ _ _=>rk f202 ?_,λN _ _ _=>rk f203 ?_,λN _=>rk f72 ?_⟩<;>(simp only[f103,f202,f203,f72,Option.get!,QbI,Qdo,Qft,QfC];exact zh)
abbrev Qmy:=g46.g.1
abbrev QkN:=g46.g.2.1
abbrev Qoa:=g46.g.2.2.1
abbrev QnE:=g46.g.2.2.2
attribute [instance] Qmy QkN Qoa QnE
abbrev Qii:=λN e f a Q n (st:St)=>∃i j h,Iv (QaL N e f a n i j h) Q ((∃g b c d,st.n=122/\r59 st 5824 g h/\st.t 2=s59 e/\pt st 6 384 b 6/\pt st 9 576 c 6/\pt st 11 704 d 16/\st.t 13=s59 f.2.1/\ol st 15 5824 g 1 h.length/\st.t 16=vi i/\bx st 384 b 28 6 [vi 0,vi 0,.nsl,.nsl,vi 0,vi 0]/\bx st 576 c 47 6 [vi 0,vi 0,vi 0,vi 0,vi 0,vi 0]/\bx st 704 d 261 16 [vi a.1.h.c.W,vi a.1.h.c.p,s59 a.1.h.w,Yn a.1.h.p,vi a.1.h.s,vi a.1.h.b,s59 a.1.o,s3 a.1.t,s59 a.1.q,vi a.1.d,vi a.1.r.j,vi a.1.r.K,vi a.1.r.F,vi a.1.r.E,vi j,vi a.1.r.y])\/(∃b c d,(st.n=122/\st.t 2=s59 e/\pt st 6 384 b 6/\pt st 9 576 c 6/\pt st 11 704 d 16/\st.t 13=s59 f.2.1/\st.t 15=.nsl/\st.t 16=vi i/\bx st 384 b 28 6 [vi 0,vi 0,.nsl,.nsl,vi 0,vi 0]/\bx st 576 c 47 6 [vi 0,vi 0,vi 0,vi 0,vi 0,vi 0]/\bx st 704 d 261 16 [vi a.1.h.c.W,vi a.1.h.c.p,s59 a.1.h.w,Yn a.1.h.p,vi a.1.h.s,vi a.1.h.b,s59 a.1.o,s3 a.1.t,s59 a.1.q,vi a.1.d,vi a.1.r.j,vi a.1.r.K,vi a.1.r.F,vi a.1.r.E,vi j,vi a.1.r.y])/\h=[]))
def g47.sp{p:Prop}(h:p:=by first|((first|((with_reducible refine lp (Qii N _ _ _) hr N ?_ (λ_ p q=>⟨_,_,_,_,p,q,?_⟩) _);have lq:=@QaL.eq_2;exact zr)|refine dq 104 28 hf [(2,[],[384]),(3,[],[384]),(4,[],[384]),(5,[],[384]),(6,[384],[]),(9,[576],[])] ?_)<;>exact zz)|fail):p:=h
abbrev g47.g:∀N(a0:Wh)(a1:List Int)(a2:List Int),O1 (Qcj N a0 a1 a2) 104 [c28 a0,s59 a1,s59 a2] (λr=>.tup [c28 r.1,s59 r.2.1,s59 r.2.2.1,c47 r.2.2.2.1,vi r.2.2.2.2]):=by refineλN _ _ _=>rk f104 ?_<;>(simp only[f104,Option.get!,Qcj];exact zh)
abbrev QkO:=g47.g
attribute [instance] QkO
end Go.Sx
