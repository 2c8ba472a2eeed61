import Derived.Test.YtlneiohchomcfaaGreatDoorSG7
set_option linter.all false
namespace Go.Sx
open Go.Proofs Tryz
set_option maxRecDepth 10000
set_option maxHeartbeats 100000000
def g21:(∀N(a0:Wk)(a1:Int),O1 (Qal N a0 a1) 95 [.agg (e28 a0),vu a1] (λr=>.tup [.agg (Z7 r.1),vi r.2]))/\(∀N(a0:Wk)(a1:Int)(a2:Int),O1 (QfH N a0 a1 a2) 316 [.agg (e28 a0),vi a1,vi a2] (λr=>vu r))/\(∀N(a0:Wk)(a1:Int)(a2:Int),O1 (QeC N a0 a1 a2) 292 [.agg (e28 a0),vi a1,vi a2] (λr=>.tup [.agg (e28 r.1),vu r.2.1,.v (.bool r.2.2)]))/\(∀N(a0:Wk)(a1:Int)(a2:Wv),O1 (Qbf N a0 a1 a2) 293 [.agg (e28 a0),vu a1,.agg (Z7 a2)] (λr=>.tup [.agg (e28 r.1),vi r.2]))/\(∀N(a0:WM)(a1:Int)(a2:Int)(a3:Int)(a4:Bool),O1 (QfX N a0 a1 a2 a3 a4) 195 [.agg (e42 a0),vi a1,vu a2,vu a3,.v (.bool a4)] (λr=>vi r))/\(∀N(a0:WM)(a1:Int),O1 (QaM N a0 a1) 111 [.agg (e42 a0),vu a1] (λr=>.tup [vu r.1,vi r.2]))/\(∀N(a0:WM)(a1:Int),O1 (Qfx N a0 a1) 116 [.agg (e42 a0),vu a1] (λr=>.agg (e42 r)))/\(∀N(a0:Wp)(a1:Int),O1 (QfG N a0 a1) 221 [.agg (e32 a0),vu a1] (λr=>.tup [.agg (e32 r.1),vi r.2.1,vi r.2.2.1,vi r.2.2.2]))/\(∀N(a0:Wk)(a1:Int),O1 (QeH N a0 a1) 302 [.agg (e28 a0),vi a1] (λr=>.tup [.agg (e28 r.1),.agg (XtW r.2.1),vi r.2.2]))/\(∀N(a0:Wp)(a1:Int)(a2:Int),O1 (Qho N a0 a1 a2) 230 [.agg (e32 a0),vi a1,vi a2] (λr=>.tup [vu r.1,vi r.2]))/\(∀N(a0:Wu)(a1:Int)(a2:Int),O1 (Qhj N a0 a1 a2) 234 [.agg (e35 a0),vi a1,vi a2] (λr=>vi r))/\(∀N(a0:Wp)(a1:Int)(a2:Bool),O1 (Qhs N a0 a1 a2) 236 [.agg (e32 a0),vi a1,.v (.bool a2)] (λr=>.tup [.agg (e32 r.1),vi r.2]))/\(∀N(a0:Wp),O1 (Qhp N a0) 154 [.agg (e32 a0)] (λr=>.tup [.agg (e32 r.1),vi r.2])):=by
 refine⟨λN _ _=>rk f95 ?_,λN _ _ _=>rk f316 ?_,λN _ _ _=>rk f292 ?_,λN _ _ _=>rk f293 ?_,λN _ _ _ _ _=>rk f195 ?_,λN _ _=>rk f111 ?_,λN _ _=>rk f116 ?_,λN _ _=>rk f221 ?_,λN _ _=>rk f302 ?_,λN _ _ _=>rk f230 ?_,λN _ _ _=>rk f234 ?_,λN _ _ _=>rk f236 ?_,λN _=>rk f154 ?_⟩<;>(rintro _ hw r hr C _ rfl hwf hf;have hse:=@ZZ _ hw;simp only[f95,f316,f292,f293,f195,f111,f116,f221,f302,f230,f234,f236,f154,Option.get!,Qal,QfH,QeC,Qbf,QfX,QaM,Qfx,QfG,QeH,Qho,Qhj,Qhs,Qhp]at hr⊢;repeat' first
 |(refine El.el hr ?_;clear hr;intro hr)
 |(with_reducible intro h;refine XH hr h ?_;clear hr;intro hr)
 |with_reducible intro _
 |simp only[go_sem,simprocAttr,hl3,Y9,Xm,X2,Ya,hse]
 |(with_reducible first|apply Xi|apply Xh|apply Xt|apply Xx|apply Xy)
 |((first|with_reducible refine Yy hr ag ?_ ?_|(with_reducible refine Yt hr ?_ ?_;rotate_left;intro p;rotate_right));(·simp only[go_sem,simprocAttr,hse]);intro hp hn hd hr;(try have hl3:=hd _ e3;simp only[go_sem,simprocAttr]at hl3);(try have Y9:=hd _ Vh;simp only[go_sem,simprocAttr]at Y9);(try have Xm:=hd _ X0;simp only[go_sem,simprocAttr]at Xm);(try have X2:=hd _ KN;simp only[go_sem,simprocAttr]at X2);(try have Ya:=hd _ Z6;simp only[go_sem,simprocAttr]at Ya))
 |(refine Xu ?_ ?_;.first|assumption|omega)
 |(refine CallX.inl (f:=331) 400 (fn:=f331) (rs:=[.tmp 4]) (nt:=87) 1000 ac (λx=>?_) _;simp only[f331,Option.get!])
 |(with_reducible first|refine CallX.c ?_ _|refine OK.c hr hw ?_ (λy hr=>?_) _|refine OK.d hr hw ?_ (λy hr=>?_) _)
 |refine dq 292 5 hf [(1,[],[384]),(2,[],[384]),(3,[],[384]),(4,[],[384]),(5,[],[384]),(6,[],[384]),(7,[],[384]),(8,[384],[])] ?_
 |refine dq 293 4 hf [(0,[],[1856]),(1,[],[1856]),(2,[],[1856]),(4,[1856],[]),(5,[],[1856]),(6,[],[1856]),(7,[1856],[]),(8,[1856],[])] ?_
 |refine dq 302 6 hf [(1,[],[256]),(2,[256],[]),(3,[320],[])] ?_
 |refine dq 302 15 hf [(1,[],[256]),(2,[],[256]),(3,[],[256]),(4,[256],[]),(5,[320],[])] ?_
 |refine dq 302 20 hf [(1,[],[256]),(2,[],[256]),(3,[],[256]),(4,[],[256,320]),(5,[256],[]),(6,[320],[])] ?_
 |refine dp ?_
 |(refine Xq hr ?_;rintro rfl;with_reducible refine XQ ?_)
 |exact YE hr)
abbrev Qoe:=g21.1
abbrev Qnc:=g21.2.1
abbrev Ql9:=g21.2.2.1
abbrev Qnd:=g21.2.2.2.1
abbrev Qkp:=g21.2.2.2.2.1
abbrev Qkq:=g21.2.2.2.2.2.1
abbrev Qli:=g21.2.2.2.2.2.2.1
abbrev QnS:=g21.2.2.2.2.2.2.2.1
abbrev Qjs:=g21.2.2.2.2.2.2.2.2.1
abbrev QnT:=g21.2.2.2.2.2.2.2.2.2.1
abbrev Qma:=g21.2.2.2.2.2.2.2.2.2.2.1
abbrev Qne:=g21.2.2.2.2.2.2.2.2.2.2.2.1
abbrev QnU:=g21.2.2.2.2.2.2.2.2.2.2.2.2
attribute [instance] Qoe Qnc Ql9 Qnd Qkp Qkq Qli QnS Qjs QnT Qma Qne QnU
end Go.Sx
