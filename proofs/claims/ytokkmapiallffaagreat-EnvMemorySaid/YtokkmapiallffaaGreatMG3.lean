import Derived.Test.YtokkmapiallffaaGreatMG2
set_option linter.all false
namespace Go.Sx
open Go.Proofs Tryz
set_option maxRecDepth 10000
set_option maxHeartbeats 100000000
def g8.sp{p:Prop}(h:p:=by first|((first|refine dq 108 3 hf [(0,[],[896,1088]),(1,[],[1088]),(2,[],[1088]),(3,[],[1088]),(4,[],[1088]),(5,[],[1088]),(6,[896],[1088]),(7,[],[896]),(8,[],[896]),(9,[1088],[896]),(11,[128],[])] ?_)<;>exact zz)|fail):p:=h
def g8.g:(∀N(a0:WN),O1 (Qgb N a0) 108 [c24 a0] (λr=>.tup [c28 r.1,vi r.2]))/\(∀N(a0:WN)(a1:Int),O1 (Qb9 N a0 a1) 162 [c24 a0,vu a1] (λr=>.tup [vi r.1,vi r.2.1,vi r.2.2]))/\(∀N(a0:Ws),O1 (QcN N a0) 165 [c59 a0] (λr=>vi r))/\(∀N(a0:Ws)(a1:Int),O1 (Qby N a0 a1) 43 [c59 a0,vi a1] (λr=>vb r))/\(∀N(a0:WN),O1 (QfZ N a0) 301 [c24 a0] (λr=>vi r))/\(∀N(a0:WP)(a1:Int),O1 (QgZ N a0 a1) 219 [c42 a0,vu a1] (λr=>vi r))/\(∀N(a0:Wo)(a1:WN),O1 (QdE N a0 a1) 234 [XiZ a0,c24 a1] (λr=>vb r))/\(∀N(a0:WN)(a1:Int),O1 (Qco N a0 a1) 169 [c24 a0,vu a1] (λr=>.tup [vi r.1,vi r.2.1,vi r.2.2]))/\(∀N(a0:Int)(a1:Int),O1 (Qf9 N a0 a1) 178 [vu a0,vu a1] (λr=>vb r))/\(∀N(a0:List Wo)(a1:Int)(a2:List Wo),O1 (QgQ N a0 a1 a2) 241 [Yn a0,vi a1,Yn a2] (λr=>.tup [.fsl 122 4 (r.1.map YT),vi r.2]))/\(∀N(a0:Wi)(a1:List Int)(a2:Int),O1 (Qgu N a0 a1 a2) 161 [c28 a0,s52 a1,vi a2] (λr=>.tup [c28 r.1,vi r.2]))/\(∀N(a0:WD),O1 (Qfv N a0) 74 [c35 a0] (λr=>c35 r))/\(∀N(a0:WN),O1 (Qhk N a0) 238 [c24 a0] (λr=>vi r)):=by refine⟨λN _=>rk f108 ?_,λN _ _=>rk f162 ?_,λN _=>rk f165 ?_,λN _ _=>rk f43 ?_,λN _=>rk f301 ?_,λN _ _=>rk f219 ?_,λN _ _=>rk f234 ?_,λN _ _=>rk f169 ?_,λN _ _=>rk f178 ?_,λN _ _ _=>rq f241 [1920] ?_,λN _ _ _=>rk f161 ?_,λN _=>rk f74 ?_,λN _=>rk f238 ?_⟩<;>(simp only[f108,f162,f165,f43,f301,f219,f234,f169,f178,f241,f161,f74,f238,Option.get!,Qgb,Qb9,QcN,Qby,QfZ,QgZ,QdE,Qco,Qf9,QgQ,Qgu,Qfv,Qhk];exact zh)
abbrev QnH:=g8.g.1
abbrev Qn8:=g8.g.2.1
abbrev QmQ:=g8.g.2.2.1
abbrev Qj5:=g8.g.2.2.2.1
abbrev QlP:=g8.g.2.2.2.2.1
abbrev Qk2:=g8.g.2.2.2.2.2.1
abbrev Qh1:=g8.g.2.2.2.2.2.2.1
abbrev Qoh:=g8.g.2.2.2.2.2.2.2.1
abbrev Qip:=g8.g.2.2.2.2.2.2.2.2.1
abbrev QnI:=g8.g.2.2.2.2.2.2.2.2.2.1
abbrev Qja:=g8.g.2.2.2.2.2.2.2.2.2.2.1
abbrev Qk3:=g8.g.2.2.2.2.2.2.2.2.2.2.2.1
abbrev QmR:=g8.g.2.2.2.2.2.2.2.2.2.2.2.2
attribute [instance] QnH Qn8 QmQ Qj5 QlP Qk2 Qh1 Qoh Qip QnI Qja Qk3 QmR
abbrev Qk4:=λN a Q n (st:St)=>∃d c,Iv (QeI N a n d c) Q ((∃b,st.n=59/\VN st 1856 b c/\st.t 6=vi a.k/\ol st 7 1856 b 4 c.length/\st.t 8=vi d))
instance QpN:∀N(a0:List Wo)(a1:Int),O1 (Qhu N a0 a1) 143 [Yn a0,vi a1] (λr=>.tup [Yn r.1,vi r.2]):=by
 refineλN _ _=>rk f143 ?_<;>(rintro _ hw r hr C _ rfl hwf hf;simp only[f143,Option.get!];(rw[Qhu]at hr);repeat' first
 |(refine El.el hr ?_;clear hr;intro hr)
 |(with_reducible intro h;refine Y8 hr h ?_;clear hr;intro hr)
 |with_reducible intro _
 |(refine Yv hr ?_;rintro rfl;have hr:=hk;clear hk)
 |simp only[go_sem,simprocAttr,E,XT,ZO]
 |(with_reducible first|apply XV|apply XU|apply YM)
 |((first|with_reducible refine Jx hr ah ?_ ?_|(with_reducible refine Jh hr ?_ ?_;rotate_left;intro p;rotate_right));(·simp only[go_sem,simprocAttr]);intro hp hn hd hr;(try have ZO:=XT);(try have XT:=hd _ YT;simp only[go_sem,simprocAttr]at XT))
 |(refine YN ?_ ?_;.first|assumption|omega)
 |(with_reducible first|refine CallX.c ?_ _|refine OK.c hr hw ?_ (λy hr=>?_) _)
 |(with_reducible refine lp (Qk4 N _) hr N ?_ (λ_ p q=>⟨_,_,_,p,q,?_⟩) _;rintro n1 st ⟨_,_,_,hr,hk,⟨_,E⟩⟩<;>(obtain _|n1:=n1<;>rw[QeI]at hr))
 |refine⟨_,UP _,_,_,_,hr,hk,?_⟩
 |(refine Yv hr ?_;rintro rfl;with_reducible refine ZS ?_)
 |exact Xbn hr
 |exact Xav hr
 |(apply Xaw;assumption)
 |((first|refine Y8 (c:=true) hr rfl ?_|refine Y8 (c:=false) hr rfl ?_|refine Y8 hr ah ?_);intro hr))
def g16.sp{p:Prop}(h:p:=by first|((first|refine dq 284 12 hf [(15,[640,4160],[])] ?_|refine dq 289 12 hf [(13,[704,4672],[])] ?_|refine dq 25 1 hf [(14,[1088],[]),(15,[],[1088]),(16,[],[1088]),(17,[1280],[]),(19,[128],[])] ?_)<;>exact zz)|fail):p:=h
def g16.g:(∀N(a0:Int),O1 (QcA N a0) 164 [vu a0] (λr=>.tup [c59 r.1,vb r.2]))/\(∀N(a0:Wv)(a1:Int),O1 (QcC N a0 a1) 284 [Jw a0,vi a1] (λr=>.tup [Jw r.1,vu r.2.1,vb r.2.2]))/\(∀N(a0:Wi)(a1:Int),O1 (Qer N a0 a1) 289 [c28 a0,vi a1] (λr=>.tup [c28 r.1,vu r.2.1,vb r.2.2]))/\(∀N(a0:WD)(a1:Int)(a2:Int),O1 (QcJ N a0 a1 a2) 205 [c35 a0,vi a1,vi a2] (λr=>.tup [c35 r.1,vi r.2]))/\(∀N(a0:WP)(a1:Int)(a2:Int),O1 (QeO N a0 a1 a2) 128 [c42 a0,vi a1,vu a2] (λr=>.tup [c42 r.1,vu r.2]))/\(∀N(a0:List W6),O1 (QaJ N a0) 101 [s96 a0,.clo (.func 102) [] []] (λr=>vb r))/\(∀N(a0:WN)(a1:Int),O1 (Qe3 N a0 a1) 85 [c24 a0,vi a1] (λr=>vi r))/\(∀N(a0:List Int)(a1:Int),O1 (Qgr N a0 a1) 231 [s52 a0,vu a1] (λr=>.tup [vu r.1,vi r.2]))/\(∀N(a0:Int),O1 (QeR N a0) 221 [vu a0] (λr=>.tup [vu r.1,vb r.2]))/\(∀N(a0:Uj),O1 (Qgv N a0) 25 [c38 a0] (λr=>.agg [vi r.h.c.W,vi r.h.c.p,s52 r.h.w,Yn r.h.p,vi r.h.s,vi r.h.b,XcS r.l.S,XcR r.l.x,s3 r.l.i,s96 r.g.e,s96 r.v.e,.fsl 93 2 (r.P.map e93),.fsl 52 1 (r.R.map e52)])):=by refine⟨λN _=>rk f164 ?_,λN _ _=>rk f284 ?_,λN _ _=>rk f289 ?_,λN _ _ _=>rk f205 ?_,λN _ _ _=>rk f128 ?_,λN _=>rk f101 ?_,λN _ _=>rk f85 ?_,λN _ _=>rk f231 ?_,λN _=>rk f221 ?_,λN _=>rq f25 [1088,1280] ?_⟩<;>(simp only[f164,f284,f289,f205,f128,f101,f85,f231,f221,f25,Option.get!,QcA,QcC,Qer,QcJ,QeO,QaJ,Qe3,Qgr,QeR,Qgv];exact zh)
abbrev Qk5:=g16.g.1
abbrev QlQ:=g16.g.2.1
abbrev QlR:=g16.g.2.2.1
abbrev Qk6:=g16.g.2.2.2.1
abbrev Qj6:=g16.g.2.2.2.2.1
abbrev QeL:=g16.g.2.2.2.2.2.1
abbrev QnJ:=g16.g.2.2.2.2.2.2.1
abbrev QmS:=g16.g.2.2.2.2.2.2.2.1
abbrev Qj7:=g16.g.2.2.2.2.2.2.2.2.1
abbrev QmT:=g16.g.2.2.2.2.2.2.2.2.2
attribute [instance] Qk5 QlQ QlR Qk6 Qj6 QeL QnJ QmS Qj7 QmT
end Go.Sx
