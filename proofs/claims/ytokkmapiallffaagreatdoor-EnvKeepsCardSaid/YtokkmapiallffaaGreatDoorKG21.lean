import Derived.Test.YtokkmapiallffaaGreatDoorKG20
set_option linter.all false
namespace Go.Sx
open Go.Proofs Tryz
set_option maxRecDepth 10000
set_option maxHeartbeats 100000000
def g50.sp{p:Prop}(h:p:=by first|((first|refine dq 6 3 hf [(0,[],[2560]),(1,[],[2560]),(7,[2560],[]),(8,[2560],[])] ?_)<;>exact zz)|fail):p:=h
def g50.g:(∀N(a0:Uj)(a1:Wy),O1 (Qeq N a0 a1) 190 [c38 a0,c98 a1] (λr=>.tup [c38 r.1,vu r.2.1,vi r.2.2]))/\(∀N(a0:Uj)(a1:Int),O1 (QbY N a0 a1) 196 [c38 a0,vu a1] (λr=>.tup [vu r.1,vi r.2]))/\(∀N(a0:Uj)(a1:Int)(a2:Int),O1 (QdO N a0 a1 a2) 114 [c38 a0,vi a1,vu a2] (λr=>.tup [c38 r.1,vu r.2.1,vi r.2.2]))/\(∀N(a0:Uj)(a1:Int)(a2:Int),O1 (QdP N a0 a1 a2) 115 [c38 a0,vi a1,vu a2] (λr=>.tup [c38 r.1,vu r.2.1,vi r.2.2]))/\(∀N(a0:Uj),O1 (Qdp N a0) 6 [c38 a0] (λr=>vb r)):=by refine⟨λN _ _=>rk f190 ?_,λN _ _=>rk f196 ?_,λN _ _ _=>rk f114 ?_,λN _ _ _=>rk f115 ?_,λN _=>rk f6 ?_⟩<;>(simp only[f190,f196,f114,f115,f6,Option.get!,Qeq,QbY,QdO,QdP,Qdp];exact zh)
abbrev Qmz:=g50.g.1
abbrev QmA:=g50.g.2.1
abbrev Qlz:=g50.g.2.2.1
abbrev QlA:=g50.g.2.2.2.1
abbrev Qoc:=g50.g.2.2.2.2
attribute [instance] Qmz QmA Qlz QlA Qoc
end Go.Sx
