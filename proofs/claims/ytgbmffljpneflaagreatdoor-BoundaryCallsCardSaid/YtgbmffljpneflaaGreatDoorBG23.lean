import Derived.Test.YtgbmffljpneflaaGreatDoorBG22
set_option linter.all false
namespace Go.Sx
open Go.Proofs
set_option maxRecDepth 10000
set_option maxHeartbeats 100000000
def g42:(∀N a0 a1,OK (Qca N a0 a1) 87 [.agg (e38 a0),.agg (ZS a1)] [] (λr=>.tup [.agg (e38 r.1),vu r.2.1,vi r.2.2]) λr=>[])/\(∀N a0 a1,OK (QaN N a0 a1) 93 [.agg (e38 a0),vu a1] [] (λr=>.tup [vu r.1,vi r.2]) λr=>[])/\(∀N a0 a1 a2,OK (Qcn N a0 a1 a2) 29 [.agg (e38 a0),vi a1,vu a2] [] (λr=>.tup [.agg (e38 r.1),vu r.2.1,vi r.2.2]) λr=>[])/\(∀N a0 a1 a2,OK (Qda N a0 a1 a2) 30 [.agg (e38 a0),vi a1,vu a2] [] (λr=>.tup [.agg (e38 r.1),vu r.2.1,vi r.2.2]) λr=>[])/\(∀N a0,OK (QaJ N a0) 20 [.agg (e38 a0)] [] (λr=>.v (.bool r)) λr=>[])/\(∀N a0 a1 a2,OK (Qjf N a0 a1 a2) 156 [.agg (e27 a0),s76 a1,vu a2] [] (λr=>.tup [.agg (e27 r.1),s76 r.2.1,vu r.2.2.1,vi r.2.2.2]) λr=>[])/\(∀N a0 a1 a2,OK (QhD N a0 a1 a2) 157 [.agg (e27 a0),s76 a1,vu a2] [] (λr=>.tup [.agg (e27 r.1),s76 r.2.1,vi r.2.2]) λr=>[]):=by
 refine⟨λN _ _=>rk Tryz.f87 ?_,λN _ _=>rk Tryz.f93 ?_,λN _ _ _=>rk Tryz.f29 ?_,λN _ _ _=>rk Tryz.f30 ?_,λN _=>rk Tryz.f20 ?_,λN _ _ _=>rk Tryz.f156 ?_,λN _ _ _=>rk Tryz.f157 ?_⟩<;>(rintro _ hw r hr C _ rfl hwf hf;have hse:=@Za _ hw;simp only[Tryz.f87,Tryz.f93,Tryz.f29,Tryz.f30,Tryz.f20,Tryz.f156,Tryz.f157,Option.get!];(first|rw[Qca]at hr|rw[QaN]at hr|rw[Qcn]at hr|rw[Qda]at hr|rw[QaJ]at hr|rw[Qjf]at hr|rw[QhD]at hr);repeat' first
 |(refine El.el hr ?_;clear hr;intro hr)
 |(with_reducible intro h;refine Xx hr h ?_;clear hr;intro hr)
 |with_reducible intro _
 |simp only[go_sem,simprocAttr,ZM,hse,Wl,Wn,Wz]
 |(with_reducible first|apply Xi|apply Xh|apply Xs|apply Xq|apply Xr)
 |((first|with_reducible refine Yo hr ag ?_ ?_|(with_reducible refine Ye hr ?_ ?_;rotate_left;intro p;rotate_right));(·simp only[go_sem,simprocAttr,hse,Wl,Wn,Wz]);intro hp hn hd hr;(try have ZM:=hd _ e76);(try simp only[go_sem,simprocAttr]at ZM))
 |(refine Xt ?_ ?_;.first|assumption|omega)
 |(refine CallX.inl (f:=235) 16800 (fn:=Tryz.f235) (rs:=[.tmp 6]) (nt:=33) 1000 ac (λx=>?_) _;simp only[Tryz.f235,Option.get!])
 |(with_reducible first|refine CallX.c ?_ _|refine OK.c hr hw ?_ (λy hr=>?_) _|refine IK hr hw ?_ (λy hr=>?_) _)
 |refine dc 20 3 hf 33 [(0,508,[[],[2560]]),(1,508,[[],[2560]]),(0,51,[]),(4,51,[]),(0,15,[]),(16,15,[]),(60,3,[]),(124,3,[[2560],[]]),(252,3,[[2560],[]]),(511,0,[]),(1023,0,[])] ?_
 |refine db 235 5 ⟨⟩ 20 [(0,58,[]),(0,57,[]),(3,56,[]),(0,23,[]),(0,15,[]),(24,7,[]),(63,0,[[1856],[]]),(127,0,[])] rfl rfl ac ?_ _
 |(refine Xn hr ?_;rintro rfl;with_reducible refine XK ?_)
 |exact Yr hr
 |with_reducible refine Xl6 (λhi=>?_) (λhi=>?_)
 |(exfalso;omega)
 |omega
 |fail)
abbrev Qpj:=g42.1
abbrev Qpk:=g42.2.1
abbrev Qn8:=g42.2.2.1
abbrev Qn9:=g42.2.2.2.1
abbrev Qrf:=g42.2.2.2.2.1
abbrev Qru:=g42.2.2.2.2.2.1
abbrev Qpl:=g42.2.2.2.2.2.2
attribute [instance] Qpj Qpk Qn8 Qn9 Qrf Qru Qpl
end Go.Sx
