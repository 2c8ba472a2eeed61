import Derived.Test.YtokkmapiallffaaGreatDoorKG23
set_option linter.all false
namespace Go.Sx
open Go.Proofs Tryz
set_option maxRecDepth 10000
set_option maxHeartbeats 100000000
def g53:(∀N(a0:Uj)(a1:Int)(a2:Int)(a3:Int)(a4:Int),O1 (Qc4 N a0 a1 a2 a3 a4) 111 [c38 a0,vi a1,vu a2,vu a3,vu a4] (λr=>.tup [c38 r.1,vu r.2.1,vi r.2.2]))/\(∀N(a0:Uj)(a1:Wy),O1 (Qh3 N a0 a1) 44 [c38 a0,c98 a1] (λr=>.tup [c38 r.1,vu r.2.1,vi r.2.2])):=by refine⟨λN _ _ _ _ _=>rk f111 ?_,λN _ _=>rk f44 ?_⟩<;>(simp only[f111,f44,Option.get!,Qc4,Qh3];exact zh)
abbrev QmF:=g53.1
abbrev Qod:=g53.2
attribute [instance] QmF Qod
def g54:(∀N(a0:Uj)(a1:Int)(a2:Int)(a3:Int)(a4:Int),O1 (Qag N a0 a1 a2 a3 a4) 51 [c38 a0,vi a1,vu a2,vu a3,vu a4] (λr=>.tup [c38 r.1,vu r.2.1,vi r.2.2]))/\(∀N,O1 (QgA N) 12 [] (λr=>vb r)):=by refine⟨λN _ _ _ _ _=>rk f51 ?_,λN=>rk f12 ?_⟩<;>(simp only[f51,f12,Option.get!,Qag,QgA];exact zh)
abbrev QnG:=g54.1
abbrev QmG:=g54.2
attribute [instance] QnG QmG
end Go.Sx
