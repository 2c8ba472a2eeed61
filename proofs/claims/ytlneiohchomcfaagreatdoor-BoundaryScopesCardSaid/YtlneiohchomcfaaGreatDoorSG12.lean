import Derived.Test.YtlneiohchomcfaaGreatDoorSG11
set_option linter.all false
namespace Go.Sx
open Go.Proofs Tryz
set_option maxRecDepth 10000
set_option maxHeartbeats 100000000
def g23:(∀N(a0:Wk)(a1:Int),O1 (Qca N a0 a1) 36 [.agg (e28 a0),vu a1] (λr=>.tup [.agg (Z7 r.1),vi r.2]))/\(∀N(a0:Wk)(a1:Wv),O1 (Qcc N a0 a1) 255 [.agg (e28 a0),.agg (Z7 a1)] (λr=>.tup [.agg (e28 r.1),vu r.2.1,vi r.2.2]))/\(∀N(a0:WM)(a1:Int),O1 (QeE N a0 a1) 262 [.agg (e42 a0),vu a1] (λr=>.tup [vu r.1,vi r.2]))/\(∀N(a0:WM)(a1:Int)(a2:Int),O1 (QfY N a0 a1 a2) 197 [.agg (e42 a0),vi a1,vu a2] (λr=>vi r))/\(∀N(a0:WM)(a1:Int)(a2:Int),O1 (Qgm N a0 a1 a2) 199 [.agg (e42 a0),vi a1,vu a2] (λr=>vi r))/\(∀N a0 c0,OK (Qa2 N a0 c0) 131 [s49 a0,.clo (.func 132) [] [.ept 1000000 0 1 0 0]] [.arr true 25 1 [[s49 c0]] 0] (λr=>.v (.bool r)) λr=>[.arr true 25 1 [[s49 c0]] 0])/\(∀N(a0:W3),O1 (Qgz N a0) 54 [.agg (e38 a0)] (λr=>s49 r))/\(∀N(a0:Wu)(a1:Int)(a2:Int),O1 (QgV N a0 a1 a2) 231 [.agg (e35 a0),vi a1,vi a2] (λr=>.tup [vu r.1,vi r.2]))/\(∀N(a0:Wp)(a1:Int),O1 (Qha N a0 a1) 153 [.agg (e32 a0),vi a1] (λr=>.tup [.agg (e32 r.1),vi r.2])):=by
 refine⟨λN _ _=>rk f36 ?_,λN _ _=>rk f255 ?_,λN _ _=>rk f262 ?_,λN _ _ _=>rk f197 ?_,λN _ _ _=>rk f199 ?_,λN _ _=>rk f131 ?_,λN _=>rk f54 ?_,λN _ _ _=>rk f231 ?_,λN _ _=>rk f153 ?_⟩<;>(rintro _ hw r hr C _ rfl hwf hf;have hse:=@ZZ _ hw;simp only[f36,f255,f262,f197,f199,f131,f54,f231,f153,Option.get!,Qca,Qcc,QeE,QfY,Qgm,Qa2,Qgz,QgV,Qha]at hr⊢;repeat' first
 |(refine El.el hr ?_;clear hr;intro hr)
 |(with_reducible intro h;refine XH hr h ?_;clear hr;intro hr)
 |with_reducible intro _
 |simp only[go_sem,simprocAttr,Ya,hse]
 |(with_reducible first|apply Xi|apply Xh|apply Xt|apply Xx|apply Xy)
 |((first|with_reducible refine Yy hr ag ?_ ?_|(with_reducible refine Yt hr ?_ ?_;rotate_left;intro p;rotate_right));(·simp only[go_sem,simprocAttr,hse]);intro hp hn hd hr;(try have Ya:=hd _ Z6;simp only[go_sem,simprocAttr]at Ya))
 |(refine Xu ?_ ?_;.first|assumption|omega)
 |(with_reducible first|refine CallX.c ?_ _|refine OK.c hr hw ?_ (λy hr=>?_) _|refine OK.d hr hw ?_ (λy hr=>?_) _)
 |refine dq 54 1 hf [(10,[832],[]),(11,[832],[])] ?_
 |(refine Xq hr ?_;rintro rfl;with_reducible refine XQ ?_)
 |exact YE hr)
abbrev QnX:=g23.1
abbrev QnY:=g23.2.1
abbrev Qmg:=g23.2.2.1
abbrev QkD:=g23.2.2.2.1
abbrev Qll:=g23.2.2.2.2.1
abbrev Qfq:=g23.2.2.2.2.2.1
abbrev Qno:=g23.2.2.2.2.2.2.1
abbrev QnZ:=g23.2.2.2.2.2.2.2.1
abbrev Qnp:=g23.2.2.2.2.2.2.2.2
attribute [instance] QnX QnY Qmg QkD Qll Qfq Qno QnZ Qnp
def g25:(∀N(a0:Wk)(a1:Int),O1 (Qfv N a0 a1) 37 [.agg (e28 a0),vu a1] (λr=>.tup [s49 r.1,vi r.2]))/\(∀N(a0:Wk)(a1:Int)(a2:Int),O1 (Qb6 N a0 a1 a2) 184 [.agg (e28 a0),vu a1,vi a2] (λr=>.tup [vu r.1,vi r.2]))/\(∀N(a0:WM)(a1:Int)(a2:Int)(a3:Int)(a4:Int),O1 (Qgl N a0 a1 a2 a3 a4) 196 [.agg (e42 a0),vi a1,vu a2,vu a3,vu a4] (λr=>vi r))/\(∀N(a0:WM)(a1:Int)(a2:Int),O1 (QgF N a0 a1 a2) 198 [.agg (e42 a0),vi a1,vu a2] (λr=>vi r))/\(∀N(a0:WM)(a1:Int)(a2:Int)(a3:Bool),O1 (Qg3 N a0 a1 a2 a3) 200 [.agg (e42 a0),vi a1,vu a2,.v (.bool a3)] (λr=>vi r))/\(∀N(a0:WM)(a1:Int)(a2:Int)(a3:Int),O1 (QgG N a0 a1 a2 a3) 201 [.agg (e42 a0),vi a1,vu a2,vu a3] (λr=>vi r))/\(∀N(a0:Wk)(a1:Int),O1 (Qd6 N a0 a1) 277 [.agg (e28 a0),vu a1] (λr=>.tup [.agg (Z7 r.1),vi r.2]))/\(∀N(a0:Wk)(a1:Int)(a2:Wv),O1 (Qfl N a0 a1 a2) 304 [.agg (e28 a0),vu a1,.agg (Z7 a2)] (λr=>.tup [.agg (e28 r.1),vi r.2])):=by
 refine⟨λN _ _=>rk f37 ?_,λN _ _ _=>rk f184 ?_,λN _ _ _ _ _=>rk f196 ?_,λN _ _ _=>rk f198 ?_,λN _ _ _ _=>rk f200 ?_,λN _ _ _ _=>rk f201 ?_,λN _ _=>rk f277 ?_,λN _ _ _=>rk f304 ?_⟩<;>(rintro _ hw r hr C _ rfl hwf hf;have hse:=@ZZ _ hw;simp only[f37,f184,f196,f198,f200,f201,f277,f304,Option.get!,Qfv,Qb6,Qgl,QgF,Qg3,QgG,Qd6,Qfl]at hr⊢;repeat' first
 |(refine El.el hr ?_;clear hr;intro hr)
 |(with_reducible intro h;refine XH hr h ?_;clear hr;intro hr)
 |with_reducible intro _
 |simp only[go_sem,simprocAttr,XB,Xm,KW,K6,hse]
 |(with_reducible first|apply Xi|apply Xh|apply Xt|apply Xx|apply Xy)
 |((first|with_reducible refine Yy hr ag ?_ ?_|(with_reducible refine Yt hr ?_ ?_;rotate_left;intro p;rotate_right));(·simp only[go_sem,simprocAttr,hse]);intro hp hn hd hr;(try have XB:=hd _ e49;simp only[go_sem,simprocAttr]at XB);(try have Xm:=hd _ X0;simp only[go_sem,simprocAttr]at Xm);(try have KW:=hd _ Xce;simp only[go_sem,simprocAttr]at KW);(try have K6:=hd _ Xev;simp only[go_sem,simprocAttr]at K6))
 |(refine Xu ?_ ?_;.first|assumption|omega)
 |(with_reducible refine XcX hr ?_ ?_;(·simp only[go_sem]);intro p hp hn hd hr;(try have XB:=hd _ e49;simp only[go_sem,simprocAttr]at XB);(try have Xm:=hd _ X0;simp only[go_sem,simprocAttr]at Xm);(try have KW:=hd _ Xce;simp only[go_sem,simprocAttr]at KW);(try have K6:=hd _ Xev;simp only[go_sem,simprocAttr]at K6);(try simp only[WY]at hn))
 |(with_reducible first|refine CallX.c ?_ _|refine OK.c hr hw ?_ (λy hr=>?_) _|refine OK.d hr hw ?_ (λy hr=>?_) _)
 |refine dp ?_
 |(refine Xq hr ?_;rintro rfl;with_reducible refine XQ ?_)
 |exact YE hr)
abbrev Qlm:=g25.1
abbrev Qmh:=g25.2.1
abbrev Qln:=g25.2.2.1
abbrev Qmi:=g25.2.2.2.1
abbrev Qnq:=g25.2.2.2.2.1
abbrev Qmj:=g25.2.2.2.2.2.1
abbrev Qn0:=g25.2.2.2.2.2.2.1
abbrev Qmk:=g25.2.2.2.2.2.2.2
attribute [instance] Qlm Qmh Qln Qmi Qnq Qmj Qn0 Qmk
abbrev QkE:=λN b c d Q n (st:St)=>∃e,Iv (QcW N b c d n e) Q ((∃a,st.n=43/\st.t 1=vi c/\st.t 2=.ept 128 a 6 0 0/\st.t 7=s4 d/\st.t 8=vi e/\st.s 128=some (a,.arr true 28 6 [e28 b] 0)))
abbrev QiG:=λN d Q n (st:St)=>∃e c,Iv (QaO N d n e c) Q ((∃a b,st.n=31/\st.s 1856=some (a,.arr false 49 1 (c.map e49) 0)/\st.t 1=.ept 64 b 6 0 0/\st.t 4=.osl 1856 a 1 0 c.length/\st.t 5=vi e/\st.s 64=some (b,.arr true 28 6 [e28 d] 0))\/(∃b,(st.n=31/\st.t 1=.ept 64 b 6 0 0/\st.t 4=.nsl/\st.t 5=vi e/\st.s 64=some (b,.arr true 28 6 [e28 d] 0))/\c=[]))
def g26:(∀N(a0:Wk)(a1:Int),O1 (Qer N a0 a1) 287 [.agg (e28 a0),vi a1] (λr=>vu r))/\(∀N(a0:Wk),O1 (QbH N a0) 159 [.agg (e28 a0)] (λr=>.tup [s49 r.1,vi r.2])):=by
 refine⟨λN _ _=>rk f287 ?_,λN _=>rk f159 ?_⟩<;>(rintro _ hw r hr C _ rfl hwf hf;have hse:=@ZZ _ hw;simp only[f287,f159,Option.get!,Qer,QbH]at hr⊢;repeat' first
 |(refine El.el hr ?_;clear hr;intro hr)
 |(with_reducible intro h;refine XH hr h ?_;clear hr;intro hr)
 |with_reducible intro _
 |(refine Xq hr ?_;rintro rfl;have hr:=hk;clear hk)
 |simp only[go_sem,simprocAttr,E,hl4,hse]
 |(with_reducible first|apply Xi|apply Xh|apply Xt|apply Xx|apply Xy)
 |((first|with_reducible refine Yy hr ag ?_ ?_|(with_reducible refine Yt hr ?_ ?_;rotate_left;intro p;rotate_right));(·simp only[go_sem,simprocAttr,hse]);intro hp hn hd hr;(try have hl4:=hd _ e4;simp only[go_sem,simprocAttr]at hl4))
 |(refine Xu ?_ ?_;.first|assumption|omega)
 |(with_reducible first|refine CallX.c ?_ _|refine OK.c hr hw ?_ (λy hr=>?_) _|refine OK.d hr hw ?_ (λy hr=>?_) _)
 |(with_reducible refine lp (QkE N _ _ _) hr N ?_ (λ_ p q=>⟨_,_,p,q,?_⟩) _;rintro n1 st ⟨_,_,hr,hk,⟨_,E⟩⟩<;>(obtain _|n1:=n1<;>rw[QcW]at hr))
 |refine⟨_,WD _,_,_,hr,hk,?_⟩
 |(with_reducible refine lp (QiG N _) hr N ?_ (λ_ p q=>⟨_,_,_,p,q,?_⟩) _;rintro n1 st ⟨_,_,_,hr,hk,(⟨_,_,E⟩|⟨_,E,z0⟩)⟩<;>(try subst z0)<;>(obtain _|n1:=n1<;>rw[QaO]at hr))
 |refine⟨_,WD _,_,_,_,hr,hk,?_⟩
 |refine dp ?_
 |(refine Xq hr ?_;rintro rfl;with_reducible refine XQ ?_)
 |exact YE hr
 |((first|refine XH (c:=true) hr rfl ?_|refine XH (c:=false) hr rfl ?_|refine XH hr ag ?_);intro hr))
abbrev Qnr:=g26.1
abbrev Qlo:=g26.2
attribute [instance] Qnr Qlo
end Go.Sx
