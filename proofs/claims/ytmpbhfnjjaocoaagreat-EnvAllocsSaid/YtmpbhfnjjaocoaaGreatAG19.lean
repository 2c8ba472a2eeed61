import Derived.Test.YtmpbhfnjjaocoaaGreatAG17
set_option linter.all false
namespace Go.Sx
open Go.Proofs
set_option maxRecDepth 10000
set_option maxHeartbeats 100000000
abbrev QiS:=λN a0 y1 y6 v2 y4 (Q:(Ex Uc Unit)→Prop) n (st:St)=>∃v7 ex,Qav N a0 y1 y6 v2 y4 n v7=some ex/\Q ex/\((∃w64 w128 w384,st.n=89/\st.t 1=.ept 64 w64 6 0 0/\st.t 2=.ept 128 w128 3 0 0/\st.t 3=s58 y1.1/\st.t 5=vi v2/\st.t 6=.ept 384 w384 3 0 0/\st.t 8=s58 y6.1/\st.t 10=vi v7/\st.s 64=some (w64,.arr true 27 6 [e27 a0] 0)/\st.s 128=some (w128,.arr true 296 3 [[vi 0,vi 0,vu 0]] 0)/\st.s 384=some (w384,.arr true 51 3 [e51 y4.1] 0)))
abbrev QiT:=λN a0 y1 (Q:(Ex Uc Unit)→Prop) n (st:St)=>∃v2 ex,QbU N a0 y1 n v2=some ex/\Q ex/\((∃w64 w128,st.n=89/\st.t 1=.ept 64 w64 6 0 0/\st.t 2=.ept 128 w128 3 0 0/\st.t 3=s58 y1.1/\st.t 5=vi v2/\st.s 64=some (w64,.arr true 27 6 [e27 a0] 0)/\st.s 128=some (w128,.arr true 296 3 [[vi 0,vi 0,vu 0]] 0)))
abbrev QnS:=λN a0 (Q:(Ex (List UJ × Int) (List UJ))→Prop) n (st:St)=>∃v2 v3 ex,Qf5 N a0 n v2 v3=some ex/\Q ex/\((∃w1792 w64,st.n=31/\st.s 1792=some (w1792,.arr false 281 4 (v3.map Vw) 0)/\st.t 1=.ept 64 w64 6 0 0/\st.t 4=.osl 1792 w1792 4 0 v3.length/\st.t 13=vi a0.p.length/\st.t 14=vi v2/\st.s 64=some (w64,.arr true 27 6 [e27 a0] 0))\/(∃w64,(st.n=31/\st.t 1=.ept 64 w64 6 0 0/\st.t 4=.nsl/\st.t 13=vi a0.p.length/\st.t 14=vi v2/\st.s 64=some (w64,.arr true 27 6 [e27 a0] 0))/\v3=[]))
def g31:(∀N a0,OK (Qew N a0) 287 [.agg (e27 a0)] [] (λr=>.agg (XoX r)) λr=>[])/\(∀N a0,OK (QhW N a0) 198 [.agg (e27 a0)] [] (λr=>.tup [.fsl 281 4 (r.1.map Vw),vi r.2]) λr=>[]):=by
 refine⟨λN _=>rk Tryz.f287 [.cell 2 296] [] 89 ?_,λN _=>rk Tryz.f198 [.tmp 2,.tmp 3] [1792] 31 ?_⟩<;>(rintro _ hw r hr C _ rfl hwf hf;have hse:=@Zw _ hw;simp only[Tryz.f287,Tryz.f198,Option.get!];(first|rw[Qew]at hr|rw[QhW]at hr);repeat' first
 |(refine El.el hr ?_;clear hr;intro hr)
 |(with_reducible intro h;refine XB hr h ?_;clear hr;intro hr)
 |with_reducible intro _
 |(refine Xn hr ?_;rintro rfl;have hr:=hk;clear hk)
 |simp only[go_sem,simprocAttr,E,Xu,hse]
 |(with_reducible first|apply Xi|apply Xh|apply Xs|apply Xq|apply Xr)
 |((first|with_reducible refine Yq hr ag ?_ ?_|(with_reducible refine Yn hr ?_ ?_;rotate_left;intro p;rotate_right));(·simp only[go_sem,simprocAttr,hse]);intro hp hn hd hr;(try have Xu:=hd _ e58);(try simp only[go_sem,simprocAttr]at Xu))
 |(refine Xt ?_ ?_;.first|assumption|omega)
 |(with_reducible first|refine CallX.c ?_ _|refine OK.c hr hw ?_ (λy hr=>?_) _|refine IM hr hw ?_ (λy hr=>?_) _)
 |(with_reducible refine lp (QiS N _ _ _ _ _) hr N ?_ (λex hq hk=>⟨_,ex,hq,hk,?_⟩) _;clear hr;(try clear E);rintro n1 st ⟨v7,ex,hr,hk,⟨_,_,_,E⟩⟩<;>(obtain _|n1:=n1<;>rw[Qav]at hr))
 |refine⟨_,Wz _,_,_,hr,hk,?_⟩
 |(with_reducible refine lp (QiT N _ _) hr N ?_ (λex hq hk=>⟨_,ex,hq,hk,?_⟩) _;clear hr;(try clear E);rintro n2 st ⟨v2,ex,hr,hk,⟨_,_,E⟩⟩<;>(obtain _|n2:=n2<;>rw[QbU]at hr))
 |(with_reducible refine lp (QnS N _) hr N ?_ (λex hq hk=>⟨_,_,ex,hq,hk,?_⟩) _;clear hr;(try clear E);rintro n1 st ⟨v2,v3,ex,hr,hk,(⟨_,_,E⟩|⟨_,E,z0⟩)⟩<;>(try subst z0)<;>(obtain _|n1:=n1<;>rw[Qf5]at hr))
 |refine⟨_,Wz _,_,_,_,hr,hk,?_⟩
 |refine dc 287 5 hf 6 [(0,62914561,[[],[384]]),(0,10485761,[[],[384]]),(0,6291457,[[],[384]]),(6,2097153,[[],[384]]),(14,2097153,[[],[384]]),(31,1,[[],[384]]),(63,1,[[],[384]]),(127,268435457,[[],[384]]),(127,134217729,[[],[384]]),(0,535822336,[[384],[]]),(767,268435456,[[384],[]]),(2047,0,[])] ?_
 |refine dc 287 6 hf 8 [(0,8053063680,[]),(0,1342177280,[]),(0,805306368,[]),(6,268435456,[]),(14,268435456,[]),(31,0,[]),(63,0,[]),(127,34359738368,[]),(127,17179869185,[]),(255,34359738368,[]),(1023,0,[])] ?_
 |(refine Xn hr ?_;rintro rfl;with_reducible refine XP ?_)
 |exact Yw hr
 |((first|refine XB (c:=true) hr rfl ?_|refine XB (c:=false) hr rfl ?_|refine XB hr ag ?_);intro hr)
 |fail)
abbrev QkD:=g31.1
abbrev Qp0:=g31.2
attribute [instance] QkD Qp0
def g30:(∀N a0 a1,OK (Qfp N a0 a1) 297 [.agg (e27 a0),vu a1] [] (λr=>.v (.bool r)) λr=>[])/\(∀N a0 a1,OK (Qe2 N a0 a1) 129 [.agg (e27 a0),vi a1] [] (λr=>.tup [s58 r.1,vi r.2]) λr=>[]):=by
 refine⟨λN _ _=>rk Tryz.f297 [.tmp 4] [] 15 ?_,λN _ _=>rk Tryz.f129 [.tmp 4,.tmp 5] [] 33 ?_⟩<;>(rintro _ hw r hr C _ rfl hwf hf;simp only[Tryz.f297,Tryz.f129,Option.get!];(first|rw[Qfp]at hr|rw[Qe2]at hr);repeat' first
 |(refine El.el hr ?_;clear hr;intro hr)
 |(with_reducible intro h;refine XB hr h ?_;clear hr;intro hr)
 |with_reducible intro _
 |simp only[go_sem,simprocAttr]
 |(with_reducible first|apply Xi|apply Xh|apply Xs)
 |(refine Xt ?_ ?_;.first|assumption|omega)
 |(with_reducible first|refine CallX.c ?_ _|refine OK.c hr hw ?_ (λy hr=>?_) _)
 |(refine Xn hr ?_;rintro rfl;with_reducible refine XP ?_)
 |exact Yw hr
 |fail)
abbrev QkE:=g30.1
abbrev QpK:=g30.2
attribute [instance] QkE QpK
end Go.Sx
