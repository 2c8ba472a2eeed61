import Derived.Test.YtokkmapiallffaaGreatDoorKG24
set_option linter.all false
namespace Go.Sx
open Go.Proofs Tryz
set_option maxRecDepth 10000
set_option maxHeartbeats 100000000
abbrev g55:∀N(a0:Io)(a1:Ow),O1 (QbT N a0 a1) 15 [c44 a0,c72 a1] (λr=>.tup [c44 r.1,vu r.2.1,vi r.2.2]):=by refineλN _ _=>rk f15 ?_<;>(simp only[f15,Option.get!,QbT];exact zh)
abbrev QlC:=g55
attribute [instance] QlC
end Go.Sx
