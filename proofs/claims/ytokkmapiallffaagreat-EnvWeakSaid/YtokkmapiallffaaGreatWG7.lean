import Derived.Test.YtokkmapiallffaaGreatWG6
set_option linter.all false
namespace Go.Sx
open Go.Proofs Tryz
set_option maxRecDepth 10000
set_option maxHeartbeats 100000000
def g23:(∀N(a0:Wh)(a1:Int),O1 (Qb7 N a0 a1) 41 [.agg (e28 a0),vu a1] (λr=>.tup [.agg (e59 r.1),vi r.2]))/\(∀N(a0:Wh)(a1:Wx),O1 (QeN N a0 a1) 261 [.agg (e28 a0),.agg (e59 a1)] (λr=>.tup [.agg (e28 r.1),vu r.2.1,vi r.2.2]))/\(∀N(a0:WQ)(a1:Int),O1 (Qem N a0 a1) 269 [.agg (e42 a0),vu a1] (λr=>.tup [vu r.1,vi r.2]))/\(∀N(a0:WQ)(a1:Int)(a2:Int),O1 (QfB N a0 a1 a2) 210 [.agg (e42 a0),vi a1,vu a2] (λr=>vi r))/\(∀N(a0:WQ)(a1:Int)(a2:Int),O1 (QfY N a0 a1 a2) 212 [.agg (e42 a0),vi a1,vu a2] (λr=>vi r))/\(∀N(a0:Um),O1 (Qgc N a0) 23 [.agg (e38 a0)] (λr=>s52 r))/\(∀N a0 c0,OK (QaZ N a0 c0) 105 [s52 a0,.clo (.func 106) [] [.ept 1000000 0 1 0 0]] [.arr true 25 1 [[s52 c0]] 0] (λr=>.v (.bool r)) λr=>[.arr true 25 1 [[s52 c0]] 0]):=by
 refine⟨λN _ _=>rk f41 ?_,λN _ _=>rk f261 ?_,λN _ _=>rk f269 ?_,λN _ _ _=>rk f210 ?_,λN _ _ _=>rk f212 ?_,λN _=>rk f23 ?_,λN _ _=>rk f105 ?_⟩<;>(rintro _ hw r hr C _ rfl hwf hf;have hse:=@Z3 _ hw;simp only[f41,f261,f269,f210,f212,f23,f105,Option.get!,Qb7,QeN,Qem,QfB,QfY,Qgc,QaZ]at hr⊢;repeat' first
 |(refine El.el hr ?_;clear hr;intro hr)
 |(with_reducible intro h;refine XJ hr h ?_;clear hr;intro hr)
 |with_reducible intro _
 |simp only[go_sem,simprocAttr,hse]
 |(with_reducible first|apply Xj|apply Xi|apply Xw|apply Xs|apply Xt)
 |(refine Xx ?_ ?_;.first|assumption|omega)
 |(with_reducible first|refine CallX.c ?_ _|refine OK.c hr hw ?_ (λy hr=>?_) _|refine OK.d hr hw ?_ (λy hr=>?_) _)
 |refine dq 23 1 hf [(10,[832],[]),(11,[832],[])] ?_
 |(refine Xp hr ?_;rintro rfl;with_reducible refine XT ?_)
 |exact YH hr)
abbrev Qnx:=g23.1
abbrev Qny:=g23.2.1
abbrev QlS:=g23.2.2.1
abbrev Qkj:=g23.2.2.2.1
abbrev Qk1:=g23.2.2.2.2.1
abbrev Qm0:=g23.2.2.2.2.2.1
abbrev Qe8:=g23.2.2.2.2.2.2
attribute [instance] Qnx Qny QlS Qkj Qk1 Qm0 Qe8
def g25:(∀N(a0:Wh)(a1:Int),O1 (Qeu N a0 a1) 42 [.agg (e28 a0),vu a1] (λr=>.tup [s52 r.1,vi r.2]))/\(∀N(a0:Wh)(a1:Int)(a2:Int),O1 (Qc1 N a0 a1 a2) 197 [.agg (e28 a0),vu a1,vi a2] (λr=>.tup [vu r.1,vi r.2]))/\(∀N(a0:WQ)(a1:Int)(a2:Int)(a3:Int)(a4:Int),O1 (QfX N a0 a1 a2 a3 a4) 209 [.agg (e42 a0),vi a1,vu a2,vu a3,vu a4] (λr=>vi r))/\(∀N(a0:WQ)(a1:Int)(a2:Int),O1 (Qgl N a0 a1 a2) 211 [.agg (e42 a0),vi a1,vu a2] (λr=>vi r))/\(∀N(a0:WQ)(a1:Int)(a2:Int)(a3:Bool),O1 (QgK N a0 a1 a2 a3) 213 [.agg (e42 a0),vi a1,vu a2,.v (.bool a3)] (λr=>vi r))/\(∀N(a0:WQ)(a1:Int)(a2:Int)(a3:Int),O1 (Qgm N a0 a1 a2 a3) 214 [.agg (e42 a0),vi a1,vu a2,vu a3] (λr=>vi r))/\(∀N(a0:Wh)(a1:Int),O1 (Qeo N a0 a1) 141 [.agg (e28 a0),vu a1] (λr=>.tup [.agg (e59 r.1),vi r.2]))/\(∀N(a0:Wh)(a1:Int)(a2:Wx),O1 (QfP N a0 a1 a2) 90 [.agg (e28 a0),vu a1,.agg (e59 a2)] (λr=>.tup [.agg (e28 r.1),vi r.2])):=by
 refine⟨λN _ _=>rk f42 ?_,λN _ _ _=>rk f197 ?_,λN _ _ _ _ _=>rk f209 ?_,λN _ _ _=>rk f211 ?_,λN _ _ _ _=>rk f213 ?_,λN _ _ _ _=>rk f214 ?_,λN _ _=>rk f141 ?_,λN _ _ _=>rk f90 ?_⟩<;>(rintro _ hw r hr C _ rfl hwf hf;have hse:=@Z3 _ hw;simp only[f42,f197,f209,f211,f213,f214,f141,f90,Option.get!,Qeu,Qc1,QfX,Qgl,QgK,Qgm,Qeo,QfP]at hr⊢;repeat' first
 |(refine El.el hr ?_;clear hr;intro hr)
 |(with_reducible intro h;refine XJ hr h ?_;clear hr;intro hr)
 |with_reducible intro _
 |simp only[go_sem,simprocAttr,XA,Xk,KO,JL,hse]
 |(with_reducible first|apply Xj|apply Xi|apply Xw|apply Xs|apply Xt)
 |((first|with_reducible refine Yy hr ah ?_ ?_|(with_reducible refine Yr hr ?_ ?_;rotate_left;intro p;rotate_right));(·simp only[go_sem,simprocAttr,hse]);intro hp hn hd hr;(try have XA:=hd _ e52;simp only[go_sem,simprocAttr]at XA);(try have Xk:=hd _ XX;simp only[go_sem,simprocAttr]at Xk);(try have KO:=hd _ Xb6;simp only[go_sem,simprocAttr]at KO);(try have JL:=hd _ Xgi;simp only[go_sem,simprocAttr]at JL))
 |(refine Xx ?_ ?_;.first|assumption|omega)
 |(with_reducible refine Xes hr ?_ ?_;(·simp only[go_sem]);intro p hp hn hd hr;(try have XA:=hd _ e52;simp only[go_sem,simprocAttr]at XA);(try have Xk:=hd _ XX;simp only[go_sem,simprocAttr]at Xk);(try have KO:=hd _ Xb6;simp only[go_sem,simprocAttr]at KO);(try have JL:=hd _ Xgi;simp only[go_sem,simprocAttr]at JL);(try simp only[W6]at hn))
 |(with_reducible first|refine CallX.c ?_ _|refine OK.c hr hw ?_ (λy hr=>?_) _|refine OK.d hr hw ?_ (λy hr=>?_) _)
 |refine dp ?_
 |(refine Xp hr ?_;rintro rfl;with_reducible refine XT ?_)
 |exact YH hr)
abbrev Qk2:=g25.1
abbrev QlT:=g25.2.1
abbrev Qk3:=g25.2.2.1
abbrev QlU:=g25.2.2.2.1
abbrev Qm1:=g25.2.2.2.2.1
abbrev QlV:=g25.2.2.2.2.2.1
abbrev Qnz:=g25.2.2.2.2.2.2.1
abbrev QlW:=g25.2.2.2.2.2.2.2
attribute [instance] Qk2 QlT Qk3 QlU Qm1 QlV Qnz QlW
abbrev Qil:=λN d Q n (st:St)=>∃e c,Iv (QaG N d n e c) Q ((∃a b,st.n=31/\st.s 1856=some (a,.arr false 52 1 (c.map e52) 0)/\st.t 1=.ept 64 b 6 0 0/\st.t 4=.osl 1856 a 1 0 c.length/\st.t 5=vi e/\st.s 64=some (b,.arr true 28 6 [e28 d] 0))\/(∃b,(st.n=31/\st.t 1=.ept 64 b 6 0 0/\st.t 4=.nsl/\st.t 5=vi e/\st.s 64=some (b,.arr true 28 6 [e28 d] 0))/\c=[]))
abbrev Qkk:=λN b c d Q n (st:St)=>∃e,Iv (QcK N b c d n e) Q ((∃a,st.n=43/\st.t 1=vi c/\st.t 2=.ept 128 a 6 0 0/\st.t 7=s4 d/\st.t 8=vi e/\st.s 128=some (a,.arr true 28 6 [e28 b] 0)))
def g26:(∀N(a0:Wh),O1 (Qby N a0) 148 [.agg (e28 a0)] (λr=>.tup [s52 r.1,vi r.2]))/\(∀N(a0:Wh)(a1:Int),O1 (Qd8 N a0 a1) 305 [.agg (e28 a0),vi a1] (λr=>vu r)):=by
 refine⟨λN _=>rk f148 ?_,λN _ _=>rk f305 ?_⟩<;>(rintro _ hw r hr C _ rfl hwf hf;have hse:=@Z3 _ hw;simp only[f148,f305,Option.get!,Qby,Qd8]at hr⊢;repeat' first
 |(refine El.el hr ?_;clear hr;intro hr)
 |(with_reducible intro h;refine XJ hr h ?_;clear hr;intro hr)
 |with_reducible intro _
 |(refine Xp hr ?_;rintro rfl;have hr:=hk;clear hk)
 |simp only[go_sem,simprocAttr,E,hl4,hse]
 |(with_reducible first|apply Xj|apply Xi|apply Xw|apply Xs|apply Xt)
 |((first|with_reducible refine Yy hr ah ?_ ?_|(with_reducible refine Yr hr ?_ ?_;rotate_left;intro p;rotate_right));(·simp only[go_sem,simprocAttr,hse]);intro hp hn hd hr;(try have hl4:=hd _ e4;simp only[go_sem,simprocAttr]at hl4))
 |(refine Xx ?_ ?_;.first|assumption|omega)
 |(with_reducible first|refine CallX.c ?_ _|refine OK.c hr hw ?_ (λy hr=>?_) _|refine OK.d hr hw ?_ (λy hr=>?_) _)
 |(with_reducible refine lp (Qil N _) hr N ?_ (λ_ p q=>⟨_,_,_,p,q,?_⟩) _;rintro n1 st ⟨_,_,_,hr,hk,(⟨_,_,E⟩|⟨_,E,z0⟩)⟩<;>(try subst z0)<;>(obtain _|n1:=n1<;>rw[QaG]at hr))
 |refine⟨_,Wz _,_,_,_,hr,hk,?_⟩
 |(with_reducible refine lp (Qkk N _ _ _) hr N ?_ (λ_ p q=>⟨_,_,p,q,?_⟩) _;rintro n1 st ⟨_,_,hr,hk,⟨_,E⟩⟩<;>(obtain _|n1:=n1<;>rw[QcK]at hr))
 |refine⟨_,Wz _,_,_,hr,hk,?_⟩
 |refine dp ?_
 |(refine Xp hr ?_;rintro rfl;with_reducible refine XT ?_)
 |exact YH hr
 |((first|refine XJ (c:=true) hr rfl ?_|refine XJ (c:=false) hr rfl ?_|refine XJ hr ah ?_);intro hr))
abbrev Qk4:=g26.1
abbrev Qm2:=g26.2
attribute [instance] Qk4 Qm2
end Go.Sx
