import Derived.Test.YtokkmapiallffaaGreatDoorKG0
set_option linter.all false
namespace Go.Sx
open Go.Proofs Tryz
set_option maxRecDepth 10000
set_option maxHeartbeats 100000000
def g8.sp{p:Prop}(h:p:=by first|((first|refine dq 101 3 hf [(0,[],[896,1088]),(1,[],[1088]),(2,[],[1088]),(3,[],[1088]),(4,[],[1088]),(5,[],[1088]),(6,[896],[1088]),(7,[],[896]),(8,[],[896]),(9,[1088],[896]),(11,[128],[])] ?_)<;>exact zz)|fail):p:=h
def g8.g:(∀N(a0:WP),O1 (Qf7 N a0) 101 [c24 a0] (λr=>.tup [c28 r.1,vi r.2]))/\(∀N(a0:WP)(a1:Int),O1 (Qca N a0 a1) 161 [c24 a0,vu a1] (λr=>.tup [vi r.1,vi r.2.1,vi r.2.2]))/\(∀N(a0:Wy),O1 (QcL N a0) 164 [c98 a0] (λr=>vi r))/\(∀N(a0:Wy)(a1:Int),O1 (Qby N a0 a1) 35 [c98 a0,vi a1] (λr=>vb r))/\(∀N(a0:WP),O1 (QfT N a0) 305 [c24 a0] (λr=>vi r))/\(∀N(a0:WO)(a1:Int),O1 (QgW N a0 a1) 215 [c42 a0,vu a1] (λr=>vi r))/\(∀N(a0:Wp)(a1:WP),O1 (QdC N a0 a1) 265 [XiD a0,c24 a1] (λr=>vb r))/\(∀N(a0:List Int)(a1:Int),O1 (Qhd N a0 a1) 273 [s59 a0,vu a1] (λr=>.tup [vi r.1,vi r.2]))/\(∀N(a0:Int)(a1:Int),O1 (Qf5 N a0 a1) 155 [vu a0,vu a1] (λr=>vb r))/\(∀N(a0:List Wp)(a1:Int)(a2:List Wp),O1 (QgM N a0 a1 a2) 280 [Yn a0,vi a1,Yn a2] (λr=>.tup [.fsl 159 4 (r.1.map YT),vi r.2]))/\(∀N(a0:Wh)(a1:List Int)(a2:Int),O1 (Qgr N a0 a1 a2) 245 [c28 a0,s59 a1,vi a2] (λr=>.tup [c28 r.1,vi r.2]))/\(∀N(a0:WD),O1 (Qge N a0) 67 [c35 a0] (λr=>c35 r))/\(∀N(a0:U3),O1 (Qg5 N a0) 96 [Xmk a0] (λr=>vb r)):=by refine⟨λN _=>rk f101 ?_,λN _ _=>rk f161 ?_,λN _=>rk f164 ?_,λN _ _=>rk f35 ?_,λN _=>rk f305 ?_,λN _ _=>rk f215 ?_,λN _ _=>rk f265 ?_,λN _ _=>rk f273 ?_,λN _ _=>rk f155 ?_,λN _ _ _=>rq f280 [1920] ?_,λN _ _ _=>rk f245 ?_,λN _=>rk f67 ?_,λN _=>rk f96 ?_⟩<;>(simp only[f101,f161,f164,f35,f305,f215,f265,f273,f155,f280,f245,f67,f96,Option.get!,Qf7,Qca,QcL,Qby,QfT,QgW,QdC,Qhd,Qf5,QgM,Qgr,Qge,Qg5];exact zh)
abbrev QnS:=g8.g.1
abbrev Qoj:=g8.g.2.1
abbrev Qm2:=g8.g.2.2.1
abbrev Qkc:=g8.g.2.2.2.1
abbrev QlX:=g8.g.2.2.2.2.1
abbrev Qla:=g8.g.2.2.2.2.2.1
abbrev Qh9:=g8.g.2.2.2.2.2.2.1
abbrev QlY:=g8.g.2.2.2.2.2.2.2.1
abbrev Qiw:=g8.g.2.2.2.2.2.2.2.2.1
abbrev QnT:=g8.g.2.2.2.2.2.2.2.2.2.1
abbrev Qjg:=g8.g.2.2.2.2.2.2.2.2.2.2.1
abbrev Qlb:=g8.g.2.2.2.2.2.2.2.2.2.2.2.1
abbrev Qlc:=g8.g.2.2.2.2.2.2.2.2.2.2.2.2
attribute [instance] QnS Qoj Qm2 Qkc QlX Qla Qh9 QlY Qiw QnT Qjg Qlb Qlc
abbrev Qld:=λN a Q n (st:St)=>∃d c,Iv (QeF N a n d c) Q ((∃b,st.n=59/\VM st 1856 b c/\st.t 6=vi a.k/\ol st 7 1856 b 4 c.length/\st.t 8=vi d))
instance QpY:∀N(a0:List Wp)(a1:Int),O1 (Qhx N a0 a1) 139 [Yn a0,vi a1] (λr=>.tup [Yn r.1,vi r.2]):=by
 refineλN _ _=>rk f139 ?_<;>(rintro _ hw r hr C _ rfl hwf hf;simp only[f139,Option.get!];(rw[Qhx]at hr);repeat' first
 |(refine El.el hr ?_;clear hr;intro hr)
 |(with_reducible intro h;refine Y5 hr h ?_;clear hr;intro hr)
 |with_reducible intro _
 |(refine Yq hr ?_;rintro rfl;have hr:=hk;clear hk)
 |simp only[go_sem,simprocAttr,E,XT,ZL]
 |(with_reducible first|apply XP|apply XO|apply YF)
 |((first|with_reducible refine Jh hr ah ?_ ?_|(with_reducible refine KO hr ?_ ?_;rotate_left;intro p;rotate_right));(·simp only[go_sem,simprocAttr]);intro hp hn hd hr;(try have ZL:=XT);(try have XT:=hd _ YT;simp only[go_sem,simprocAttr]at XT))
 |(refine YG ?_ ?_;.first|assumption|omega)
 |(with_reducible first|refine CallX.c ?_ _|refine OK.c hr hw ?_ (λy hr=>?_) _)
 |(with_reducible refine lp (Qld N _) hr N ?_ (λ_ p q=>⟨_,_,_,p,q,?_⟩) _;rintro n1 st ⟨_,_,_,hr,hk,⟨_,E⟩⟩<;>(obtain _|n1:=n1<;>rw[QeF]at hr))
 |refine⟨_,UQ _,_,_,_,hr,hk,?_⟩
 |(refine Yq hr ?_;rintro rfl;with_reducible refine ZJ ?_)
 |exact XaY hr
 |exact VG hr
 |(apply VH;assumption)
 |((first|refine Y5 (c:=true) hr rfl ?_|refine Y5 (c:=false) hr rfl ?_|refine Y5 hr ah ?_);intro hr))
end Go.Sx
