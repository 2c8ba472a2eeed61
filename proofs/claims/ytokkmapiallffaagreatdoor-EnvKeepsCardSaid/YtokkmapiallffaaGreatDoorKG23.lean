import Derived.Test.YtokkmapiallffaaGreatDoorKG21
import Derived.Test.YtokkmapiallffaaGreatDoorKG22
set_option linter.all false
namespace Go.Sx
open Go.Proofs Tryz
set_option maxRecDepth 10000
set_option maxHeartbeats 100000000
def g51.sp{p:Prop}(h:p:=by first|((first|refine dq 112 9 hf [(1,[],[512]),(2,[],[512]),(3,[],[512]),(4,[512],[])] ?_|refine dq 112 10 hf [(1,[],[512]),(2,[],[512]),(3,[],[512]),(4,[512],[])] ?_)<;>exact zz)|fail):p:=h
def g51.g:(∀N(a0:Uj)(a1:Int)(a2:Int)(a3:Int),O1 (QdL N a0 a1 a2 a3) 110 [c38 a0,vi a1,vu a2,vu a3] (λr=>.tup [c38 r.1,vu r.2.1,vi r.2.2]))/\(∀N(a0:Uj)(a1:Int)(a2:Int)(a3:Bool),O1 (Qc2 N a0 a1 a2 a3) 192 [c38 a0,vu a1,vu a2,vb a3] (λr=>.tup [vu r.1,vi r.2.1,vi r.2.2]))/\(∀N(a0:Uj)(a1:Int)(a2:Int)(a3:Int),O1 (QcG N a0 a1 a2 a3) 112 [c38 a0,vi a1,vu a2,vu a3] (λr=>.tup [c38 r.1,vu r.2.1,vi r.2.2]))/\(∀N(a0:Uj)(a1:Int)(a2:Int),O1 (Qdn N a0 a1 a2) 113 [c38 a0,vi a1,vu a2] (λr=>.tup [c38 r.1,vu r.2.1,vi r.2.2]))/\(∀N(a0:Uj)(a1:Int)(a2:Int),O1 (QeY N a0 a1 a2) 116 [c38 a0,vi a1,vu a2] (λr=>.tup [c38 r.1,vu r.2.1,vi r.2.2]))/\(∀N(a0:Uj)(a1:Int),O1 (Qf1 N a0 a1) 10 [c38 a0,vu a1] (λr=>.tup [vu r.1,vi r.2])):=by refine⟨λN _ _ _ _=>rk f110 ?_,λN _ _ _ _=>rk f192 ?_,λN _ _ _ _=>rk f112 ?_,λN _ _ _=>rk f113 ?_,λN _ _ _=>rk f116 ?_,λN _ _=>rk f10 ?_⟩<;>(simp only[f110,f192,f112,f113,f116,f10,Option.get!,QdL,Qc2,QcG,Qdn,QeY,Qf1];exact zh)
abbrev QlB:=g51.g.1
abbrev QmB:=g51.g.2.1
abbrev QmC:=g51.g.2.2.1
abbrev QkR:=g51.g.2.2.2.1
abbrev QnF:=g51.g.2.2.2.2.1
abbrev QmD:=g51.g.2.2.2.2.2
attribute [instance] QlB QmB QmC QkR QnF QmD
abbrev QjJ:=λN a q r u f m o Q n (st:St)=>∃l k,Iv (Qey N a q r u f m o n l k) Q ((∃b c d g h i j,st.n=110/\r86 st 2560 b k/\st.s 2561=some (c,.arr false 59 1 ((((q.R.take 0) ++ r.1) ++ (q.R.drop r.1.length)).map e59) 0)/\pt st 2 128 d 13/\pt st 3 192 g 6/\pt st 8 512 h 6/\pt st 10 640 i 13/\pt st 12 768 j 3/\st.t 89=s59 f.2/\st.t 90=vi f.2.length/\st.t 91=vi l/\bx st 128 d 38 13 [vi 0,vi 0,.nsl,.nsl,vi 0,vi 0,.nsl,.nsl,.nsl,.nsl,.nsl,.nsl,.nsl]/\bx st 192 g 47 6 [vi 0,vi 0,vi 0,vi 0,vi 0,vi 0]/\bx st 512 h 47 6 (e47 a.2.2.2.1)/\bx st 640 i 38 13 [vi a.1.c.W,vi a.1.c.p,s59 a.1.w,Yn a.1.p,vi a.1.s,vi a.1.b,XcL u.1.S,XcK u.1.x,s3 u.1.i,JP m.1.e,JP o.1.e,.osl 2560 b 2 0 k.length,.osl 2561 c 1 0 (((min 0 q.R.length) + r.1.length) + (q.R.length - r.1.length))]/\bx st 768 j 79 3 [vi u.2,vi m.2,vi o.2]))
def g52.sp{p:Prop}(h:p:=by first|((first|((with_reducible refine lp (QjJ N _ _ _ _ _ _ _) hr N ?_ (λ_ p q=>⟨_,_,_,p,q,?_⟩) _);have lq:=@Qey.eq_2;exact zr)|refine dq 5 3 hf [(0,[],[320,384,512]),(1,[],[320,384,512]),(2,[],[320,384,512]),(3,[],[320,384,512]),(4,[],[320,384,512]),(5,[],[320,384,512]),(6,[],[320,384,512]),(7,[],[320,384,512]),(8,[],[320,384,512]),(9,[],[320,384,512]),(10,[],[320,384,512]),(11,[],[320,384,512]),(12,[],[320,384,512]),(13,[],[320,384,512]),(14,[320],[384,512]),(15,[384],[320,512]),(16,[512],[320,384]),(17,[320],[]),(18,[384],[]),(20,[512],[])] ?_|refine dq 5 9 hf [(0,[],[384]),(1,[],[384]),(6,[384],[]),(7,[2561],[])] ?_|refine dq 5 11 hf [(0,[],[384]),(1,[],[384]),(7,[384],[]),(11,[],[640]),(13,[640],[]),(15,[768],[])] ?_|refine dq 5 12 hf [(0,[],[384]),(1,[],[384]),(7,[384],[]),(11,[],[640]),(13,[640],[]),(15,[768],[])] ?_|refine dq 5 21 hf [(1,[],[128]),(2,[128],[]),(3,[192],[])] ?_)<;>exact zz)|fail):p:=h
abbrev g52.g:∀N(a0:Uj),O1 (Qfb N a0) 5 [c38 a0] (λr=>.tup [c38 r.1,c47 r.2.1,vi r.2.2]):=by refineλN _=>rk f5 ?_<;>(simp only[f5,Option.get!,Qfb];exact zh)
abbrev QmE:=g52.g
attribute [instance] QmE
end Go.Sx
