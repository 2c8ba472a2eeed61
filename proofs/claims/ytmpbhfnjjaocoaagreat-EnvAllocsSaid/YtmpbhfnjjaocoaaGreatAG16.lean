import Derived.Test.YtmpbhfnjjaocoaaGreatAG14
import Derived.Test.YtmpbhfnjjaocoaaGreatAG15
set_option linter.all false
namespace Go.Sx
open Go.Proofs
set_option maxRecDepth 10000
set_option maxHeartbeats 100000000
def g25:(∀N a0 a1,OK (Qfn N a0 a1) 307 [.agg (e27 a0),vu a1] [] (λr=>.tup [s58 r.1,vi r.2]) λr=>[])/\(∀N a0 a1 a2,OK (QbN N a0 a1 a2) 250 [.agg (e27 a0),vu a1,vi a2] [] (λr=>.tup [vu r.1,vi r.2]) λr=>[])/\(∀N a0 a1 a2 a3 a4,OK (Qgf N a0 a1 a2 a3 a4) 263 [.agg (e65 a0),vi a1,vu a2,vu a3,vu a4] [] (λr=>vi r) λr=>[])/\(∀N a0 a1 a2,OK (QgL N a0 a1 a2) 265 [.agg (e65 a0),vi a1,vu a2] [] (λr=>vi r) λr=>[])/\(∀N a0 a1 a2 a3,OK (Qhb N a0 a1 a2 a3) 267 [.agg (e65 a0),vi a1,vu a2,.v (.bool a3)] [] (λr=>vi r) λr=>[])/\(∀N a0 a1 a2 a3,OK (QgM N a0 a1 a2 a3) 268 [.agg (e65 a0),vi a1,vu a2,vu a3] [] (λr=>vi r) λr=>[])/\(∀N a0 a1,OK (Qeu N a0 a1) 130 [.agg (e27 a0),vu a1] [] (λr=>.tup [.agg (e51 r.1),vi r.2]) λr=>[])/\(∀N a0 a1 a2,OK (Qfe N a0 a1 a2) 93 [.agg (e27 a0),vu a1,.agg (e51 a2)] [] (λr=>.tup [.agg (e27 r.1),vi r.2]) λr=>[]):=by
 refine⟨λN _ _=>rk Tryz.f307 [.tmp 4,.tmp 5] [] 26 ?_,λN _ _ _=>rk Tryz.f250 [.tmp 6,.tmp 7] [] 37 ?_,λN _ _ _ _ _=>rk Tryz.f263 [.tmp 10] [] 68 ?_,λN _ _ _=>rk Tryz.f265 [.tmp 6] [] 34 ?_,λN _ _ _ _=>rk Tryz.f267 [.tmp 8] [] 52 ?_,λN _ _ _ _=>rk Tryz.f268 [.tmp 8] [] 48 ?_,λN _ _=>rk Tryz.f130 [.cell 4 51,.tmp 5] [] 79 ?_,λN _ _ _=>rk Tryz.f93 [.cell 6 27,.tmp 7] [] 45 ?_⟩<;>(rintro _ hw r hr C _ rfl hwf hf;have hse:=@Zw _ hw;simp only[Tryz.f307,Tryz.f250,Tryz.f263,Tryz.f265,Tryz.f267,Tryz.f268,Tryz.f130,Tryz.f93,Option.get!];(first|rw[Qfn]at hr|rw[QbN]at hr|rw[Qgf]at hr|rw[QgL]at hr|rw[Qhb]at hr|rw[QgM]at hr|rw[Qeu]at hr|rw[Qfe]at hr);repeat' first
 |(refine El.el hr ?_;clear hr;intro hr)
 |(with_reducible intro h;refine XB hr h ?_;clear hr;intro hr)
 |with_reducible intro _
 |simp only[go_sem,simprocAttr,Xu,Xj,Kk,Kv,hse]
 |(with_reducible first|apply Xi|apply Xh|apply Xs|apply Xq|apply Xr)
 |((first|with_reducible refine Yq hr ag ?_ ?_|(with_reducible refine Yn hr ?_ ?_;rotate_left;intro p;rotate_right));(·simp only[go_sem,simprocAttr,hse]);intro hp hn hd hr;(try have Xu:=hd _ e58);(try simp only[go_sem,simprocAttr]at Xu);(try have Xj:=hd _ XS);(try simp only[go_sem,simprocAttr]at Xj);(try have Kk:=hd _ Xbg);(try simp only[go_sem,simprocAttr]at Kk);(try have Kv:=hd _ Xdx);(try simp only[go_sem,simprocAttr]at Kv))
 |(refine Xt ?_ ?_;.first|assumption|omega)
 |(with_reducible refine Xdy hr ?_ ?_;(·simp only[go_sem]);intro p hp hn hd hr;(try have Xu:=hd _ e58);(try simp only[go_sem,simprocAttr]at Xu);(try have Xj:=hd _ XS);(try simp only[go_sem,simprocAttr]at Xj);(try have Kk:=hd _ Xbg);(try simp only[go_sem,simprocAttr]at Kk);(try have Kv:=hd _ Xdx);(try simp only[go_sem,simprocAttr]at Kv);(try simp only[WU]at hn))
 |(with_reducible first|refine CallX.c ?_ _|refine OK.c hr hw ?_ (λy hr=>?_) _|refine IM hr hw ?_ (λy hr=>?_) _)
 |refine dc 263 11 hf 51 [(0,124,[]),(1,124,[]),(0,19,[]),(4,19,[]),(0,15,[]),(28,3,[]),(60,3,[]),(127,0,[]),(255,0,[])] ?_
 |(refine Xn hr ?_;rintro rfl;with_reducible refine XP ?_)
 |exact Yw hr
 |fail)
abbrev QmJ:=g25.1
abbrev QnN:=g25.2.1
abbrev QmK:=g25.2.2.1
abbrev QnO:=g25.2.2.2.1
abbrev Qo9:=g25.2.2.2.2.1
abbrev QnP:=g25.2.2.2.2.2.1
abbrev QpH:=g25.2.2.2.2.2.2.1
abbrev QnQ:=g25.2.2.2.2.2.2.2
attribute [instance] QmJ QnN QmK QnO Qo9 QnP QpH QnQ
abbrev QlV:=λN a0 a1 y3 (Q:(Ex Int Unit)→Prop) n (st:St)=>∃v4 ex,QcH N a0 a1 y3 n v4=some ex/\Q ex/\((∃w128,st.n=43/\st.t 1=vi a1/\st.t 2=.ept 128 w128 6 0 0/\st.t 7=s4 y3/\st.t 8=vi v4/\st.s 128=some (w128,.arr true 27 6 [e27 a0] 0)))
abbrev QjE:=λN a0 (Q:(Ex (List Int × Int) (List Int))→Prop) n (st:St)=>∃v2 v3 ex,QaN N a0 n v2 v3=some ex/\Q ex/\((∃w1856 w64,st.n=31/\st.s 1856=some (w1856,.arr false 58 1 (v3.map e58) 0)/\st.t 1=.ept 64 w64 6 0 0/\st.t 4=.osl 1856 w1856 1 0 v3.length/\st.t 5=vi v2/\st.s 64=some (w64,.arr true 27 6 [e27 a0] 0))\/(∃w64,(st.n=31/\st.t 1=.ept 64 w64 6 0 0/\st.t 4=.nsl/\st.t 5=vi v2/\st.s 64=some (w64,.arr true 27 6 [e27 a0] 0))/\v3=[]))
def g26:(∀N a0 a1,OK (QfB N a0 a1) 306 [.agg (e27 a0),vi a1] [] (λr=>vu r) λr=>[])/\(∀N a0,OK (Qcs N a0) 218 [.agg (e27 a0)] [] (λr=>.tup [s58 r.1,vi r.2]) λr=>[]):=by
 refine⟨λN _ _=>rk Tryz.f306 [.tmp 4] [] 43 ?_,λN _=>rk Tryz.f218 [.tmp 2,.tmp 3] [] 31 ?_⟩<;>(rintro _ hw r hr C _ rfl hwf hf;have hse:=@Zw _ hw;simp only[Tryz.f306,Tryz.f218,Option.get!];(first|rw[QfB]at hr|rw[Qcs]at hr);repeat' first
 |(refine El.el hr ?_;clear hr;intro hr)
 |(with_reducible intro h;refine XB hr h ?_;clear hr;intro hr)
 |with_reducible intro _
 |(refine Xn hr ?_;rintro rfl;have hr:=hk;clear hk)
 |simp only[go_sem,simprocAttr,E,hl4,hse]
 |(with_reducible first|apply Xi|apply Xh|apply Xs|apply Xq|apply Xr)
 |((first|with_reducible refine Yq hr ag ?_ ?_|(with_reducible refine Yn hr ?_ ?_;rotate_left;intro p;rotate_right));(·simp only[go_sem,simprocAttr,hse]);intro hp hn hd hr;(try have hl4:=hd _ e4);(try simp only[go_sem,simprocAttr]at hl4))
 |(refine Xt ?_ ?_;.first|assumption|omega)
 |(with_reducible first|refine CallX.c ?_ _|refine OK.c hr hw ?_ (λy hr=>?_) _|refine IM hr hw ?_ (λy hr=>?_) _)
 |(with_reducible refine lp (QlV N _ _ _) hr N ?_ (λex hq hk=>⟨_,ex,hq,hk,?_⟩) _;clear hr;(try clear E);rintro n1 st ⟨v4,ex,hr,hk,⟨_,E⟩⟩<;>(obtain _|n1:=n1<;>rw[QcH]at hr))
 |refine⟨_,Wz _,_,_,hr,hk,?_⟩
 |(with_reducible refine lp (QjE N _) hr N ?_ (λex hq hk=>⟨_,_,ex,hq,hk,?_⟩) _;clear hr;(try clear E);rintro n1 st ⟨v2,v3,ex,hr,hk,(⟨_,_,E⟩|⟨_,E,z0⟩)⟩<;>(try subst z0)<;>(obtain _|n1:=n1<;>rw[QaN]at hr))
 |refine⟨_,Wz _,_,_,_,hr,hk,?_⟩
 |refine dc 306 1 hf 5 [(0,448,[]),(0,160,[]),(0,96,[]),(6,32,[]),(15,0,[]),(31,0,[]),(63,2048,[]),(63,1025,[]),(127,2048,[]),(511,0,[])] ?_
 |(refine Xn hr ?_;rintro rfl;with_reducible refine XP ?_)
 |exact Yw hr
 |((first|refine XB (c:=true) hr rfl ?_|refine XB (c:=false) hr rfl ?_|refine XB hr ag ?_);intro hr)
 |fail)
abbrev Qpa:=g26.1
abbrev QmL:=g26.2
attribute [instance] Qpa QmL
end Go.Sx
