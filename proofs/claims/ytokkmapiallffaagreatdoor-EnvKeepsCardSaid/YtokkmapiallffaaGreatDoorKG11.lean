import Derived.Test.YtokkmapiallffaaGreatDoorKG9
import Derived.Test.YtokkmapiallffaaGreatDoorKG10
set_option linter.all false
namespace Go.Sx
open Go.Proofs Tryz
set_option maxRecDepth 10000
set_option maxHeartbeats 100000000
def g32:(∀N(a0:Wh)(a1:Int),O1 (Qc9 N a0 a1) 34 [c28 a0,vu a1] (λr=>.tup [.fsl 59 1 (r.1.map e59),vi r.2]))/\(∀N(a0:Wh)(a1:Int)(a2:Int),O1 (Qc3 N a0 a1 a2) 193 [c28 a0,vu a1,vi a2] (λr=>.tup [vu r.1,vi r.2]))/\(∀N(a0:WO)(a1:Int)(a2:Int)(a3:Int)(a4:Int),O1 (Qf9 N a0 a1 a2 a3 a4) 205 [c42 a0,vi a1,vu a2,vu a3,vu a4] (λr=>vi r))/\(∀N(a0:WO)(a1:Int)(a2:Int),O1 (Qgw N a0 a1 a2) 207 [c42 a0,vi a1,vu a2] (λr=>vi r))/\(∀N(a0:WO)(a1:Int)(a2:Int)(a3:Bool),O1 (QgV N a0 a1 a2 a3) 209 [c42 a0,vi a1,vu a2,vb a3] (λr=>vi r))/\(∀N(a0:WO)(a1:Int)(a2:Int)(a3:Int),O1 (Qgx N a0 a1 a2 a3) 210 [c42 a0,vi a1,vu a2,vu a3] (λr=>vi r))/\(∀N(a0:Wh)(a1:Int),O1 (Qeu N a0 a1) 136 [c28 a0,vu a1] (λr=>.tup [c98 r.1,vi r.2]))/\(∀N(a0:Wh)(a1:Int)(a2:Wy),O1 (QfX N a0 a1 a2) 175 [c28 a0,vu a1,c98 a2] (λr=>.tup [c28 r.1,vi r.2])):=by refine⟨λN _ _=>rq f34 [1472] ?_,λN _ _ _=>rk f193 ?_,λN _ _ _ _ _=>rk f205 ?_,λN _ _ _=>rk f207 ?_,λN _ _ _ _=>rk f209 ?_,λN _ _ _ _=>rk f210 ?_,λN _ _=>rk f136 ?_,λN _ _ _=>rk f175 ?_⟩<;>(simp only[f34,f193,f205,f207,f209,f210,f136,f175,Option.get!,Qc9,Qc3,Qf9,Qgw,QgV,Qgx,Qeu,QfX];exact zh)
abbrev Qls:=g32.1
abbrev Qmk:=g32.2.1
abbrev Qlt:=g32.2.2.1
abbrev Qml:=g32.2.2.2.1
abbrev Qny:=g32.2.2.2.2.1
abbrev Qmm:=g32.2.2.2.2.2.1
abbrev Qn6:=g32.2.2.2.2.2.2.1
abbrev Qmn:=g32.2.2.2.2.2.2.2
attribute [instance] Qls Qmk Qlt Qml Qny Qmm Qn6 Qmn
abbrev QiD:=λN a Q n (st:St)=>∃g d,Iv (QaJ N a n g d) Q ((∃b c,st.n=31/\r59 st 1856 b d/\pt st 1 64 c 6/\ol st 4 1856 b 1 d.length/\st.t 5=vi g/\bx st 64 c 28 6 (e28 a))\/(∃c,(st.n=31/\pt st 1 64 c 6/\st.t 4=.nsl/\st.t 5=vi g/\bx st 64 c 28 6 (e28 a))/\d=[]))
abbrev QkG:=λN a d e Q n (st:St)=>∃c,Iv (QcN N a d e n c) Q ((∃b,st.n=43/\st.t 1=vi d/\pt st 2 128 b 6/\st.t 7=s4 e/\st.t 8=vi c/\bx st 128 b 28 6 (e28 a)))
def g33.sp{p:Prop}(h:p:=by first|((first|((with_reducible refine lp (QiD N _) hr N ?_ (λ_ p q=>⟨_,_,_,p,q,?_⟩) _);have lq:=@QaJ.eq_2;exact zr)|((with_reducible refine lp (QkG N _ _ _) hr N ?_ (λ_ p q=>⟨_,_,p,q,?_⟩) _);have lq:=@QcN.eq_2;exact zr))<;>exact zz)|fail):p:=h
def g33.g:(∀N(a0:Wh),O1 (QbB N a0) 160 [c28 a0] (λr=>.tup [s59 r.1,vi r.2]))/\(∀N(a0:Wh)(a1:Int),O1 (Qed N a0 a1) 309 [c28 a0,vi a1] (λr=>vu r)):=by refine⟨λN _=>rk f160 ?_,λN _ _=>rk f309 ?_⟩<;>(simp only[f160,f309,Option.get!,QbB,Qed];exact zh)
abbrev Qlu:=g33.g.1
abbrev Qnz:=g33.g.2
attribute [instance] Qlu Qnz
end Go.Sx
