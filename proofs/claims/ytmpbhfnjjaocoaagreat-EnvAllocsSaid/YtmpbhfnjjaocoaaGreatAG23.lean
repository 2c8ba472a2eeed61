import Derived.Test.YtmpbhfnjjaocoaaGreatAG22
set_option linter.all false
namespace Go.Sx
open Go.Proofs
set_option maxRecDepth 10000
set_option maxHeartbeats 100000000
def g36:(∀N a0,OK (Qcu N a0) 26 [.agg (e38 a0)] [] (λr=>.v (.bool r)) λr=>[])/\(∀N a0 a1 a2,OK (Qcb N a0 a1 a2) 260 [.agg (e27 a0),s84 a1,vu a2] [] (λr=>.tup [.agg (e27 r.1),s84 r.2.1,vi r.2.2]) λr=>[])/\(∀N a0 a1 a2,OK (QdM N a0 a1 a2) 261 [.agg (e27 a0),s84 a1,vu a2] [] (λr=>.tup [.agg (e27 r.1),s84 r.2.1,vu r.2.2.1,vi r.2.2.2]) λr=>[])/\(∀N a0,OK (QfL N a0) 108 [.agg (e27 a0)] [] (λr=>.v (.bool r)) λr=>[]):=by
 refine⟨λN _=>rk Tryz.f26 [.tmp 2] [] 52 ?_,λN _ _ _=>rk Tryz.f260 [.cell 6 27,.tmp 7,.tmp 8] [] 54 ?_,λN _ _ _=>rk Tryz.f261 [.cell 6 27,.tmp 7,.tmp 8,.tmp 9] [] 77 ?_,λN _=>rk Tryz.f108 [.tmp 2] [] 7 ?_⟩<;>(rintro _ hw r hr C _ rfl hwf hf;have hse:=@Zw _ hw;simp only[Tryz.f26,Tryz.f260,Tryz.f261,Tryz.f108,Option.get!];(first|rw[Qcu]at hr|rw[Qcb]at hr|rw[QdM]at hr|rw[QfL]at hr);repeat' first
 |(refine El.el hr ?_;clear hr;intro hr)
 |(with_reducible intro h;refine XB hr h ?_;clear hr;intro hr)
 |with_reducible intro _
 |simp only[go_sem,simprocAttr,ZU,hse,Wj,Wl,WA]
 |(with_reducible first|apply Xi|apply Xh|apply Xs|apply Xq|apply Xr)
 |((first|with_reducible refine Yq hr ag ?_ ?_|(with_reducible refine Yn hr ?_ ?_;rotate_left;intro p;rotate_right));(·simp only[go_sem,simprocAttr,hse,Wj,Wl,WA]);intro hp hn hd hr;(try have ZU:=hd _ e84);(try simp only[go_sem,simprocAttr]at ZU))
 |(refine Xt ?_ ?_;.first|assumption|omega)
 |(with_reducible first|refine CallX.c ?_ _|refine OK.c hr hw ?_ (λy hr=>?_) _|refine IM hr hw ?_ (λy hr=>?_) _)
 |refine dc 26 6 hf 34 [(0,54,[[2176],[]]),(0,49,[[],[2176]]),(2,49,[[],[2176]]),(7,48,[[2176],[]]),(0,15,[[],[2176]]),(16,15,[[],[2176]]),(63,0,[]),(127,0,[[2176],[]]),(255,0,[])] ?_
 |refine dc 26 7 hf 42 [(0,508,[[],[2176,3136]]),(1,508,[[],[2176,3136]]),(0,107,[]),(0,103,[]),(12,99,[[2176],[]]),(0,31,[[],[2176]]),(32,31,[[],[2176]]),(124,3,[[3136],[]]),(252,3,[[2176],[]]),(511,0,[]),(1023,0,[])] ?_
 |refine dc 260 11 hf 42 [(0,122,[]),(0,121,[]),(3,120,[]),(0,55,[]),(0,15,[]),(16,15,[]),(56,7,[]),(127,0,[[1600],[]]),(255,0,[])] ?_
 |(refine Xn hr ?_;rintro rfl;with_reducible refine XP ?_)
 |exact Yw hr
 |with_reducible refine Xpa (λhi=>?_) (λhi=>?_)
 |(exfalso;omega)
 |fail)
abbrev QnY:=g36.1
abbrev Ql0:=g36.2.1
abbrev QpL:=g36.2.2.1
abbrev Qpd:=g36.2.2.2
attribute [instance] QnY Ql0 QpL Qpd
abbrev Qji:=λN a2 y5 y6 (Q:(Int × List Int)→Prop) n (st:St)=>∃v7 v8 v9 ex,Qa2 N a2 y5 y6 n v7 v8 v9=some ex/\Q ex/\((∃w5824 w384 w576 w704,st.n=122/\st.s 5824=some (w5824,.arr false 58 1 (v9.map e58) 0)/\st.t 2=s58 a2/\st.t 6=.ept 384 w384 6 0 0/\st.t 9=.ept 576 w576 6 0 0/\st.t 11=.ept 704 w704 16 0 0/\st.t 13=s58 y5.2.1/\st.t 15=.osl 5824 w5824 1 0 v9.length/\st.t 16=vi v7/\st.s 384=some (w384,.arr true 27 6 [[vi 0,vi 0,.nsl,.nsl,vi 0,vi 0]] 0)/\st.s 576=some (w576,.arr true 42 6 [[vi 0,vi 0,vi 0,vi 0,vi 0,vi 0]] 0)/\st.s 704=some (w704,.arr true 138 16 [[vi y6.1.h.c.W,vi y6.1.h.c.p,s58 y6.1.h.w,Yg y6.1.h.p,vi y6.1.h.s,vi y6.1.h.b,s58 y6.1.o,s3 y6.1.t,s58 y6.1.q,vi y6.1.d,vi y6.1.r.j,vi y6.1.r.K,vi y6.1.r.F,vi y6.1.r.E,vi v8,vi y6.1.r.y]] 0))\/(∃w384 w576 w704,(st.n=122/\st.t 2=s58 a2/\st.t 6=.ept 384 w384 6 0 0/\st.t 9=.ept 576 w576 6 0 0/\st.t 11=.ept 704 w704 16 0 0/\st.t 13=s58 y5.2.1/\st.t 15=.nsl/\st.t 16=vi v7/\st.s 384=some (w384,.arr true 27 6 [[vi 0,vi 0,.nsl,.nsl,vi 0,vi 0]] 0)/\st.s 576=some (w576,.arr true 42 6 [[vi 0,vi 0,vi 0,vi 0,vi 0,vi 0]] 0)/\st.s 704=some (w704,.arr true 138 16 [[vi y6.1.h.c.W,vi y6.1.h.c.p,s58 y6.1.h.w,Yg y6.1.h.p,vi y6.1.h.s,vi y6.1.h.b,s58 y6.1.o,s3 y6.1.t,s58 y6.1.q,vi y6.1.d,vi y6.1.r.j,vi y6.1.r.K,vi y6.1.r.F,vi y6.1.r.E,vi v8,vi y6.1.r.y]] 0))/\v9=[]))
instance Qp6:∀N a0 a1 a2,OK (QcJ N a0 a1 a2) 27 [.agg (e27 a0),s58 a1,s58 a2] [] (λr=>.tup [.agg (e27 r.1),s58 r.2.1,s58 r.2.2.1,.agg (e42 r.2.2.2.1),vi r.2.2.2.2]) λr=>[]:=by
 refineλN _ _ _=>rk Tryz.f27 [.cell 6 27,.tmp 7,.tmp 8,.cell 9 42,.tmp 10] [] 122 ?_<;>(rintro _ hw r hr C _ rfl hwf hf;have hse:=@Zw _ hw;simp only[Tryz.f27,Option.get!];(rw[QcJ]at hr);repeat' first
 |(refine El.el hr ?_;clear hr;intro hr)
 |(with_reducible intro h;refine XB hr h ?_;clear hr;intro hr)
 |with_reducible intro _
 |(refine Xn hr ?_;rintro rfl;have hr:=hk;clear hk)
 |simp only[go_sem,simprocAttr,E,hl3,Xu,hse]
 |(with_reducible first|apply Xi|apply Xh|apply Xs|apply Xq|apply Xr)
 |((first|with_reducible refine Yq hr ag ?_ ?_|(with_reducible refine Yn hr ?_ ?_;rotate_left;intro p;rotate_right));(·simp only[go_sem,simprocAttr,hse]);intro hp hn hd hr;(try have hl3:=hd _ e3);(try simp only[go_sem,simprocAttr]at hl3);(try have Xu:=hd _ e58);(try simp only[go_sem,simprocAttr]at Xu))
 |(refine Xt ?_ ?_;.first|assumption|omega)
 |(with_reducible first|refine CallX.c ?_ _|refine OK.c hr hw ?_ (λy hr=>?_) _|refine IM hr hw ?_ (λy hr=>?_) _)
 |(with_reducible refine lp (Qji N _ _ _) hr N ?_ (λex hq hk=>⟨_,_,_,ex,hq,hk,?_⟩) _;clear hr;(try clear E);rintro n1 st ⟨v7,v8,v9,ex,hr,hk,(⟨_,_,_,_,E⟩|⟨_,_,_,E,z0⟩)⟩<;>(try subst z0)<;>(obtain _|n1:=n1<;>rw[Qa2]at hr))
 |refine⟨_,Wz _,_,_,_,_,hr,hk,?_⟩
 |refine dc 27 18 hf 74 [(0,30,[]),(0,5,[]),(0,3,[]),(6,1,[]),(14,1,[]),(31,0,[]),(63,0,[])] ?_
 |refine dc 27 28 hf 7 [(0,38942226439011207213978722469150720,[]),(1,38942226439011207213978722469150720,[]),(0,38293189331694353760412410427998208,[[],[384]]),(0,35697040902426939946147162263388161,[[],[384]]),(0,9735556609752801803494680617287683,[[],[384]]),(16,9735556609752801803494680617287683,[[],[384]]),(3,38942226439011207213978722469150720,[[384],[]]),(71,36346078009743793399713474304540672,[]),(207,31153781151208965771182977975320576,[]),(511,0,[[576],[]]),(1023,0,[])] ?_
 |(refine Xn hr ?_;rintro rfl;with_reducible refine XP ?_)
 |exact Yw hr
 |((first|refine XB (c:=true) hr rfl ?_|refine XB (c:=false) hr rfl ?_|refine XB hr ag ?_);intro hr)
 |fail)
end Go.Sx
