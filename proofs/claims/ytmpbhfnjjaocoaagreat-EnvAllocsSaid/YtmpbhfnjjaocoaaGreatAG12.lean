import Derived.Test.YtmpbhfnjjaocoaaGreatAG9
import Derived.Test.YtmpbhfnjjaocoaaGreatAG10
set_option linter.all false
namespace Go.Sx
open Go.Proofs
set_option maxRecDepth 10000
set_option maxHeartbeats 100000000
def g21:(∀N a0 a1,OK (Qam N a0 a1) 219 [.agg (e27 a0),vu a1] [] (λr=>.tup [.agg (e51 r.1),vi r.2]) λr=>[])/\(∀N a0 a1 a2,OK (QfA N a0 a1 a2) 314 [.agg (e27 a0),vi a1,vi a2] [] (λr=>vu r) λr=>[])/\(∀N a0 a1 a2,OK (Qen N a0 a1 a2) 98 [.agg (e27 a0),vi a1,vi a2] [] (λr=>.tup [.agg (e27 r.1),vu r.2.1,.v (.bool r.2.2)]) λr=>[])/\(∀N a0 a1 a2,OK (Qbe N a0 a1 a2) 99 [.agg (e27 a0),vu a1,.agg (e51 a2)] [] (λr=>.tup [.agg (e27 r.1),vi r.2]) λr=>[])/\(∀N a0 a1 a2 a3 a4,OK (QfR N a0 a1 a2 a3 a4) 262 [.agg (e65 a0),vi a1,vu a2,vu a3,.v (.bool a4)] [] (λr=>vi r) λr=>[])/\(∀N a0 a1,OK (QaI N a0 a1) 183 [.agg (e65 a0),vu a1] [] (λr=>.tup [vu r.1,vi r.2]) λr=>[])/\(∀N a0 a1,OK (Qfq N a0 a1) 188 [.agg (e65 a0),vu a1] [] (λr=>.agg (e65 r)) λr=>[])/\(∀N a0 a1,OK (QeA N a0 a1) 91 [.agg (e27 a0),vi a1] [] (λr=>.tup [.agg (e27 r.1),.agg (Xsr r.2.1),vi r.2.2]) λr=>[]):=by
 refine⟨λN _ _=>rk Tryz.f219 [.cell 4 51,.tmp 5] [] 96 ?_,λN _ _ _=>rk Tryz.f314 [.tmp 6] [] 11 ?_,λN _ _ _=>rk Tryz.f98 [.cell 6 27,.tmp 7,.tmp 8] [] 49 ?_,λN _ _ _=>rk Tryz.f99 [.cell 6 27,.tmp 7] [] 43 ?_,λN _ _ _ _ _=>rk Tryz.f262 [.tmp 10] [] 41 ?_,λN _ _=>rk Tryz.f183 [.tmp 4,.tmp 5] [] 54 ?_,λN _ _=>rk Tryz.f188 [.cell 4 65] [] 52 ?_,λN _ _=>rk Tryz.f91 [.cell 4 27,.cell 5 154,.tmp 6] [] 105 ?_⟩<;>(rintro _ hw r hr C _ rfl hwf hf;have hse:=@Zw _ hw;simp only[Tryz.f219,Tryz.f314,Tryz.f98,Tryz.f99,Tryz.f262,Tryz.f183,Tryz.f188,Tryz.f91,Option.get!];(first|rw[Qam]at hr|rw[QfA]at hr|rw[Qen]at hr|rw[Qbe]at hr|rw[QfR]at hr|rw[QaI]at hr|rw[Qfq]at hr|rw[QeA]at hr);repeat' first
 |(refine El.el hr ?_;clear hr;intro hr)
 |(with_reducible intro h;refine XB hr h ?_;clear hr;intro hr)
 |with_reducible intro _
 |simp only[go_sem,simprocAttr,Xj,hse]
 |(with_reducible first|apply Xi|apply Xh|apply Xs|apply Xq|apply Xr)
 |((first|with_reducible refine Yq hr ag ?_ ?_|(with_reducible refine Yn hr ?_ ?_;rotate_left;intro p;rotate_right));(·simp only[go_sem,simprocAttr,hse]);intro hp hn hd hr;(try have Xj:=hd _ XS);(try simp only[go_sem,simprocAttr]at Xj))
 |(refine Xt ?_ ?_;.first|assumption|omega)
 |(refine CallX.inl (f:=159) 400 (fn:=Tryz.f159) (rs:=[.tmp 4]) (nt:=87) 1000 ac (λx=>?_) _;simp only[Tryz.f159,Option.get!])
 |(with_reducible first|refine CallX.c ?_ _|refine OK.c hr hw ?_ (λy hr=>?_) _|refine IM hr hw ?_ (λy hr=>?_) _)
 |refine dc 98 2 hf 17 [(0,0,[]),(1,0,[]),(3,0,[]),(7,104,[]),(15,104,[]),(31,104,[]),(7,231,[]),(127,224,[]),(7,31,[]),(263,31,[]),(831,24,[]),(2047,0,[]),(4095,0,[])] ?_
 |refine dc 98 5 hf 41 [(0,254,[]),(0,29,[[],[384]]),(0,3,[[],[384]]),(4,3,[[],[384]]),(12,3,[[],[384]]),(30,1,[[],[384]]),(62,1,[[],[384]]),(126,1,[[],[384]]),(1,254,[[384],[]]),(511,0,[]),(1023,0,[])] ?_
 |refine dc 99 4 hf 10 [(0,8257536,[[],[1856]]),(1,8257536,[[],[1856]]),(0,8224768,[[],[1856]]),(0,3375104,[]),(8,3375104,[[1856],[]]),(0,1015808,[[],[1856]]),(32,1015808,[[],[1856]]),(120,229376,[[1856],[]]),(255,0,[[1856],[]]),(511,0,[]),(1023,33554432,[]),(1023,16777217,[]),(2047,33554432,[]),(8191,0,[])] ?_
 |refine dc 91 6 hf 39 [(0,2,[]),(0,1,[[],[256]]),(1,2,[[256],[]]),(7,0,[[320],[]]),(15,0,[])] ?_
 |refine dc 91 15 hf 73 [(0,14,[]),(0,1,[[],[256]]),(2,1,[[],[256]]),(6,1,[[],[256]]),(1,14,[[256],[]]),(31,0,[[320],[]]),(63,0,[])] ?_
 |refine dc 91 20 hf 100 [(0,30,[]),(0,17,[[],[256]]),(2,17,[[],[256]]),(6,17,[[],[256]]),(0,15,[[],[256,320]]),(1,30,[[256],[]]),(47,16,[[320],[]]),(127,0,[])] ?_
 |refine db 159 1 ⟨⟩ 11 [(0,24,[]),(1,24,[]),(3,24,[]),(0,7,[]),(8,7,[]),(31,0,[]),(63,0,[]),(127,0,[])] rfl rfl ac ?_ _
 |(refine Xn hr ?_;rintro rfl;with_reducible refine XP ?_)
 |exact Yw hr
 |fail)
abbrev QpY:=g21.1
abbrev QoX:=g21.2.1
abbrev QnG:=g21.2.2.1
abbrev QoY:=g21.2.2.2.1
abbrev QlG:=g21.2.2.2.2.1
abbrev QlH:=g21.2.2.2.2.2.1
abbrev QmF:=g21.2.2.2.2.2.2.1
abbrev Qkx:=g21.2.2.2.2.2.2.2
attribute [instance] QpY QoX QnG QoY QlG QlH QmF Qkx
end Go.Sx
