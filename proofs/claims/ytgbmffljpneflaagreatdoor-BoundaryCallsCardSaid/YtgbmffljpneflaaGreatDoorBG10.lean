import Derived.Test.YtgbmffljpneflaaGreatDoorBG7
import Derived.Test.YtgbmffljpneflaaGreatDoorBG8
set_option linter.all false
namespace Go.Sx
open Go.Proofs
set_option maxRecDepth 10000
set_option maxHeartbeats 100000000
def g22:(∀N a0 a1,OK (Qam N a0 a1) 174 [.agg (e27 a0),vu a1] [] (λr=>.tup [.agg (ZS r.1),vi r.2]) λr=>[])/\(∀N a0 a1 a2,OK (Qgm N a0 a1 a2) 344 [.agg (e27 a0),vi a1,vi a2] [] (λr=>vu r) λr=>[])/\(∀N a0 a1 a2,OK (Qe6 N a0 a1 a2) 241 [.agg (e27 a0),vi a1,vi a2] [] (λr=>.tup [.agg (e27 r.1),vu r.2.1,.v (.bool r.2.2)]) λr=>[])/\(∀N a0 a1 a2,OK (Qbw N a0 a1 a2) 242 [.agg (e27 a0),vu a1,.agg (ZS a2)] [] (λr=>.tup [.agg (e27 r.1),vi r.2]) λr=>[])/\(∀N a0 a1 a2 a3 a4,OK (QgC N a0 a1 a2 a3 a4) 192 [.agg (e43 a0),vi a1,vu a2,vu a3,.v (.bool a4)] [] (λr=>vi r) λr=>[])/\(∀N a0 a1,OK (QaS N a0 a1) 114 [.agg (e43 a0),vu a1] [] (λr=>.tup [vu r.1,vi r.2]) λr=>[])/\(∀N a0 a1,OK (Qgb N a0 a1) 118 [.agg (e43 a0),vu a1] [] (λr=>.agg (e43 r)) λr=>[])/\(∀N a0 a1,OK (QcX N a0 a1) 214 [.agg (e32 a0),vu a1] [] (λr=>.tup [.agg (e32 r.1),vi r.2.1,vi r.2.2.1,vi r.2.2.2]) λr=>[])/\(∀N a0 a1,OK (Qff N a0 a1) 302 [.agg (e27 a0),vi a1] [] (λr=>.tup [.agg (e27 r.1),.agg (XtF r.2.1),vi r.2.2]) λr=>[])/\(∀N a0 a1 a2,OK (QhQ N a0 a1 a2) 223 [.agg (e32 a0),vi a1,vi a2] [] (λr=>.tup [vu r.1,vi r.2]) λr=>[])/\(∀N a0 a1 a2,OK (Qf0 N a0 a1 a2) 227 [.agg (e35 a0),vi a1,vi a2] [] (λr=>vi r) λr=>[])/\(∀N a0 a1 a2,OK (QiD N a0 a1 a2) 229 [.agg (e32 a0),vi a1,.v (.bool a2)] [] (λr=>.tup [.agg (e32 r.1),vi r.2]) λr=>[])/\(∀N a0,OK (Qit N a0) 154 [.agg (e32 a0)] [] (λr=>.tup [.agg (e32 r.1),vi r.2]) λr=>[]):=by
 refine⟨λN _ _=>rk Tryz.f174 ?_,λN _ _ _=>rk Tryz.f344 ?_,λN _ _ _=>rk Tryz.f241 ?_,λN _ _ _=>rk Tryz.f242 ?_,λN _ _ _ _ _=>rk Tryz.f192 ?_,λN _ _=>rk Tryz.f114 ?_,λN _ _=>rk Tryz.f118 ?_,λN _ _=>rk Tryz.f214 ?_,λN _ _=>rk Tryz.f302 ?_,λN _ _ _=>rk Tryz.f223 ?_,λN _ _ _=>rk Tryz.f227 ?_,λN _ _ _=>rk Tryz.f229 ?_,λN _=>rk Tryz.f154 ?_⟩<;>(rintro _ hw r hr C _ rfl hwf hf;have hse:=@Za _ hw;simp only[Tryz.f174,Tryz.f344,Tryz.f241,Tryz.f242,Tryz.f192,Tryz.f114,Tryz.f118,Tryz.f214,Tryz.f302,Tryz.f223,Tryz.f227,Tryz.f229,Tryz.f154,Option.get!];(first|rw[Qam]at hr|rw[Qgm]at hr|rw[Qe6]at hr|rw[Qbw]at hr|rw[QgC]at hr|rw[QaS]at hr|rw[Qgb]at hr|rw[QcX]at hr|rw[Qff]at hr|rw[QhQ]at hr|rw[Qf0]at hr|rw[QiD]at hr|rw[Qit]at hr);repeat' first
 |(refine El.el hr ?_;clear hr;intro hr)
 |(with_reducible intro h;refine Xx hr h ?_;clear hr;intro hr)
 |with_reducible intro _
 |simp only[go_sem,simprocAttr,hl3,YL,YN,Kj,Xk,hse]
 |(with_reducible first|apply Xi|apply Xh|apply Xs|apply Xq|apply Xr)
 |((first|with_reducible refine Yo hr ag ?_ ?_|(with_reducible refine Ye hr ?_ ?_;rotate_left;intro p;rotate_right));(·simp only[go_sem,simprocAttr,hse]);intro hp hn hd hr;(try have hl3:=hd _ e3);(try simp only[go_sem,simprocAttr]at hl3);(try have YL:=hd _ e72);(try simp only[go_sem,simprocAttr]at YL);(try have YN:=hd _ e74);(try simp only[go_sem,simprocAttr]at YN);(try have Kj:=hd _ e78);(try simp only[go_sem,simprocAttr]at Kj);(try have Xk:=hd _ XU);(try simp only[go_sem,simprocAttr]at Xk))
 |(refine Xt ?_ ?_;.first|assumption|omega)
 |(refine CallX.inl (f:=329) 400 (fn:=Tryz.f329) (rs:=[.tmp 4]) (nt:=87) 1000 ac (λx=>?_) _;simp only[Tryz.f329,Option.get!])
 |(with_reducible first|refine CallX.c ?_ _|refine OK.c hr hw ?_ (λy hr=>?_) _|refine IK hr hw ?_ (λy hr=>?_) _)
 |refine dc 241 2 hf 17 [(0,0,[]),(1,0,[]),(3,0,[]),(7,104,[]),(15,104,[]),(31,104,[]),(7,231,[]),(127,224,[]),(7,31,[]),(263,31,[]),(831,24,[]),(2047,0,[]),(4095,0,[])] ?_
 |refine dc 241 5 hf 41 [(0,254,[]),(0,29,[[],[384]]),(0,3,[[],[384]]),(4,3,[[],[384]]),(12,3,[[],[384]]),(30,1,[[],[384]]),(62,1,[[],[384]]),(126,1,[[],[384]]),(1,254,[[384],[]]),(511,0,[]),(1023,0,[])] ?_
 |refine dc 242 4 hf 10 [(0,8257536,[[],[1856]]),(1,8257536,[[],[1856]]),(0,8224768,[[],[1856]]),(0,3375104,[]),(8,3375104,[[1856],[]]),(0,1015808,[[],[1856]]),(32,1015808,[[],[1856]]),(120,229376,[[1856],[]]),(255,0,[[1856],[]]),(511,0,[]),(1023,33554432,[]),(1023,16777217,[]),(2047,33554432,[]),(8191,0,[])] ?_
 |refine dc 214 6 hf 27 [(0,1012,[]),(1,1012,[]),(0,1011,[]),(7,1008,[]),(0,79,[]),(16,79,[]),(0,63,[]),(112,15,[]),(240,15,[]),(496,15,[]),(1023,0,[]),(2047,0,[])] ?_
 |refine dc 214 11 hf 5 [(0,527765581332480,[]),(1,527765581332480,[]),(3,527765581332480,[]),(0,30786325577729,[]),(8,30786325577729,[]),(24,30786325577729,[]),(56,30786325577729,[]),(7,527765581332480,[]),(255,0,[])] ?_
 |refine dc 302 6 hf 39 [(0,2,[]),(0,1,[[],[256]]),(1,2,[[256],[]]),(7,0,[[320],[]]),(15,0,[])] ?_
 |refine dc 302 15 hf 73 [(0,14,[]),(0,1,[[],[256]]),(2,1,[[],[256]]),(6,1,[[],[256]]),(1,14,[[256],[]]),(31,0,[[320],[]]),(63,0,[])] ?_
 |refine dc 302 20 hf 100 [(0,30,[]),(0,17,[[],[256]]),(2,17,[[],[256]]),(6,17,[[],[256]]),(0,15,[[],[256,320]]),(1,30,[[256],[]]),(47,16,[[320],[]]),(127,0,[])] ?_
 |refine db 329 1 ⟨⟩ 11 [(0,24,[]),(1,24,[]),(3,24,[]),(0,7,[]),(8,7,[]),(31,0,[]),(63,0,[]),(127,0,[])] rfl rfl ac ?_ _
 |(refine Xn hr ?_;rintro rfl;with_reducible refine XK ?_)
 |exact Yr hr
 |fail)
abbrev Qrp:=g22.1
abbrev Qqj:=g22.2.1
abbrev QoY:=g22.2.2.1
abbrev Qqk:=g22.2.2.2.1
abbrev QmQ:=g22.2.2.2.2.1
abbrev QmR:=g22.2.2.2.2.2.1
abbrev QnS:=g22.2.2.2.2.2.2.1
abbrev Qq1:=g22.2.2.2.2.2.2.2.1
abbrev QlD:=g22.2.2.2.2.2.2.2.2.1
abbrev Qq2:=g22.2.2.2.2.2.2.2.2.2.1
abbrev QoZ:=g22.2.2.2.2.2.2.2.2.2.2.1
abbrev Qql:=g22.2.2.2.2.2.2.2.2.2.2.2.1
abbrev Qq3:=g22.2.2.2.2.2.2.2.2.2.2.2.2
attribute [instance] Qrp Qqj QoY Qqk QmQ QmR QnS Qq1 QlD Qq2 QoZ Qql Qq3
end Go.Sx
