import Derived.Test.YtmpbhfnjjaocoaaGreatAG25
set_option linter.all false
namespace Go.Sx
open Go.Proofs
set_option maxRecDepth 10000
set_option maxHeartbeats 100000000
def g41:(∀N a0 a1 a2 a3,OK (QdH N a0 a1 a2 a3) 175 [.agg (e38 a0),vi a1,vu a2,vu a3] [] (λr=>.tup [.agg (e38 r.1),vu r.2.1,vi r.2.2]) λr=>[])/\(∀N a0 a1 a2 a3,OK (Qep N a0 a1 a2 a3) 249 [.agg (e38 a0),vu a1,vu a2,.v (.bool a3)] [] (λr=>.tup [vu r.1,vi r.2.1,vi r.2.2]) λr=>[])/\(∀N a0 a1 a2 a3,OK (Qer N a0 a1 a2 a3) 177 [.agg (e38 a0),vi a1,vu a2,vu a3] [] (λr=>.tup [.agg (e38 r.1),vu r.2.1,vi r.2.2]) λr=>[])/\(∀N a0 a1 a2,OK (Qdh N a0 a1 a2) 178 [.agg (e38 a0),vi a1,vu a2] [] (λr=>.tup [.agg (e38 r.1),vu r.2.1,vi r.2.2]) λr=>[])/\(∀N a0 a1 a2,OK (QfH N a0 a1 a2) 181 [.agg (e38 a0),vi a1,vu a2] [] (λr=>.tup [.agg (e38 r.1),vu r.2.1,vi r.2.2]) λr=>[]):=by
 refine⟨λN _ _ _ _=>rk Tryz.f175 [.cell 8 38,.tmp 9,.tmp 10] [] 84 ?_,λN _ _ _ _=>rk Tryz.f249 [.tmp 8,.tmp 9,.tmp 10] [] 45 ?_,λN _ _ _ _=>rk Tryz.f177 [.cell 8 38,.tmp 9,.tmp 10] [] 106 ?_,λN _ _ _=>rk Tryz.f178 [.cell 6 38,.tmp 7,.tmp 8] [] 68 ?_,λN _ _ _=>rk Tryz.f181 [.cell 6 38,.tmp 7,.tmp 8] [] 79 ?_⟩<;>(rintro _ hw r hr C _ rfl hwf hf;simp only[Tryz.f175,Tryz.f249,Tryz.f177,Tryz.f178,Tryz.f181,Option.get!];(first|rw[QdH]at hr|rw[Qep]at hr|rw[Qer]at hr|rw[Qdh]at hr|rw[QfH]at hr);repeat' first
 |(refine El.el hr ?_;clear hr;intro hr)
 |(with_reducible intro h;refine XB hr h ?_;clear hr;intro hr)
 |with_reducible intro _
 |simp only[go_sem,simprocAttr]
 |(with_reducible first|apply Xi|apply Xh|apply Xs|apply Xq|apply Xr)
 |(refine Xt ?_ ?_;.first|assumption|omega)
 |(with_reducible first|refine CallX.c ?_ _|refine OK.c hr hw ?_ (λy hr=>?_) _)
 |refine dc 177 9 hf 46 [(0,14,[]),(0,1,[[],[512]]),(2,1,[[],[512]]),(6,1,[[],[512]]),(1,14,[[512],[]]),(31,0,[]),(63,0,[])] ?_
 |refine dc 177 10 hf 50 [(0,14,[]),(0,1,[[],[512]]),(2,1,[[],[512]]),(6,1,[[],[512]]),(1,14,[[512],[]]),(31,0,[]),(63,0,[])] ?_
 |(refine Xn hr ?_;rintro rfl;with_reducible refine XP ?_)
 |exact Yw hr
 |fail)
abbrev QmT:=g41.1
abbrev Qn1:=g41.2.1
abbrev Qn2:=g41.2.2.1
abbrev Ql3:=g41.2.2.2.1
abbrev Qpe:=g41.2.2.2.2
attribute [instance] QmT Qn1 Qn2 Ql3 Qpe
abbrev QkO:=λN y4 y5 y6 y9 y11 y12 y13 (Q:(List UH)→Prop) n (st:St)=>∃v14 v15 ex,Qez N y4 y5 y6 y9 y11 y12 y13 n v14 v15=some ex/\Q ex/\((∃w2560 w2561 w128 w192 w512 w640 w768,st.n=110/\st.s 2560=some (w2560,.arr false 84 2 (v15.map e84) 0)/\st.s 2561=some (w2561,.arr false 58 1 ((((y5.R.take 0) ++ y6.1) ++ (y5.R.drop y6.1.length)).map e58) 0)/\st.t 2=.ept 128 w128 13 0 0/\st.t 3=.ept 192 w192 6 0 0/\st.t 8=.ept 512 w512 6 0 0/\st.t 10=.ept 640 w640 13 0 0/\st.t 12=.ept 768 w768 3 0 0/\st.t 89=s58 y11.2/\st.t 90=vi y11.2.length/\st.t 91=vi v14/\st.s 128=some (w128,.arr true 38 13 [[vi 0,vi 0,.nsl,.nsl,vi 0,vi 0,.nsl,.nsl,.nsl,.nsl,.nsl,.nsl,.nsl]] 0)/\st.s 192=some (w192,.arr true 42 6 [[vi 0,vi 0,vi 0,vi 0,vi 0,vi 0]] 0)/\st.s 512=some (w512,.arr true 42 6 [e42 y4.2.2.2.1] 0)/\st.s 640=some (w640,.arr true 38 13 [[vi y4.1.c.W,vi y4.1.c.p,s58 y4.1.w,Yg y4.1.p,vi y4.1.s,vi y4.1.b,XbD y9.1.S,XbE y9.1.x,s3 y9.1.i,K5 y12.1.e,K5 y13.1.e,.osl 2560 w2560 2 0 v15.length,.osl 2561 w2561 1 0 (((min 0 y5.R.length) + y6.1.length) + (y5.R.length - y6.1.length))]] 0)/\st.s 768=some (w768,.arr true 77 3 [[vi y9.2,vi y12.2,vi y13.2]] 0)))
instance Qp9:∀N a0,OK (QgQ N a0) 6 [.agg (e38 a0)] [] (λr=>.tup [.agg (e38 r.1),.agg (e42 r.2.1),vi r.2.2]) λr=>[]:=by
 refineλN _=>rk Tryz.f6 [.cell 2 38,.cell 3 42,.tmp 4] [] 110 ?_<;>(rintro _ hw r hr C _ rfl hwf hf;have hse:=@Zw _ hw;simp only[Tryz.f6,Option.get!];(rw[QgQ]at hr);repeat' first
 |(refine El.el hr ?_;clear hr;intro hr)
 |(with_reducible intro h;refine XB hr h ?_;clear hr;intro hr)
 |with_reducible intro _
 |(refine Xn hr ?_;rintro rfl;have hr:=hk;clear hk)
 |simp only[go_sem,simprocAttr,E,Xu,ZU,hse,Wj,Wl,WA]
 |(with_reducible first|apply Xi|apply Xh|apply Xs|apply Xq|apply Xr)
 |((first|with_reducible refine Yq hr ag ?_ ?_|(with_reducible refine Yn hr ?_ ?_;rotate_left;intro p;rotate_right));(·simp only[go_sem,simprocAttr,hse,Wj,Wl,WA]);intro hp hn hd hr;(try have Xu:=hd _ e58);(try simp only[go_sem,simprocAttr]at Xu);(try have ZU:=hd _ e84);(try simp only[go_sem,simprocAttr]at ZU))
 |(refine Xt ?_ ?_;.first|assumption|omega)
 |(with_reducible refine Xdy hr ?_ ?_;(·simp only[go_sem]);intro p hp hn hd hr;(try have Xu:=hd _ e58);(try simp only[go_sem,simprocAttr]at Xu);(try have ZU:=hd _ e84);(try simp only[go_sem,simprocAttr]at ZU))
 |(with_reducible first|refine CallX.c ?_ _|refine OK.c hr hw ?_ (λy hr=>?_) _|refine IM hr hw ?_ (λy hr=>?_) _)
 |(with_reducible refine lp (QkO N _ _ _ _ _ _ _) hr N ?_ (λex hq hk=>⟨_,_,ex,hq,hk,?_⟩) _;clear hr;(try clear E);rintro n1 st ⟨v14,v15,ex,hr,hk,⟨_,_,_,_,_,_,_,E⟩⟩<;>(obtain _|n1:=n1<;>rw[Qez]at hr))
 |refine⟨_,Wz _,_,_,_,hr,hk,?_⟩
 |refine dc 6 3 hf 5 [(0,8126475,[[],[320,384,512]]),(1,8126475,[[],[320,384,512]]),(0,3342347,[[],[320,384,512]]),(4,3342347,[[],[320,384,512]]),(0,983051,[[],[320,384,512]]),(16,983051,[[],[320,384,512]]),(60,196619,[[],[320,384,512]]),(127,11,[[],[320,384,512]]),(255,11,[[],[320,384,512]]),(511,503316491,[[],[320,384,512]]),(511,486539275,[[],[320,384,512]]),(511,452984843,[[],[320,384,512]]),(511,385875983,[[],[320,384,512]]),(511,251658255,[[],[320,384,512]]),(0,536838154,[[320],[384,512]]),(0,536838153,[[384],[320,512]]),(0,536838147,[[512],[320,384]]),(115711,503316480,[[320],[]]),(247807,469762048,[[384],[]]),(511999,402653184,[]),(1040383,268435456,[[512],[]]),(2097151,0,[])] ?_
 |refine dc 6 9 hf 44 [(0,124,[[],[384]]),(1,124,[[],[384]]),(0,59,[]),(0,7,[]),(8,7,[]),(24,7,[]),(60,3,[[384],[]]),(127,0,[[2561],[]])] ?_
 |refine dc 6 11 hf 53 [(0,252,[[],[384]]),(1,252,[[],[384]]),(0,123,[]),(0,7,[]),(8,7,[]),(24,7,[]),(56,7,[]),(124,3,[[384],[]]),(255,0,[]),(511,0,[]),(1023,1024,[]),(1023,2560,[[],[640]]),(2047,1024,[]),(6143,1024,[[640],[]]),(16383,0,[]),(32767,0,[[768],[]])] ?_
 |refine dc 6 12 hf 67 [(0,252,[[],[384]]),(1,252,[[],[384]]),(0,123,[]),(0,7,[]),(8,7,[]),(24,7,[]),(56,7,[]),(124,3,[[384],[]]),(255,0,[]),(511,0,[]),(1023,1024,[]),(1023,2560,[[],[640]]),(2047,1024,[]),(6143,1024,[[640],[]]),(16383,0,[]),(32767,0,[[768],[]])] ?_
 |refine dc 6 21 hf 108 [(0,2,[]),(0,1,[[],[128]]),(1,2,[[128],[]]),(7,0,[[192],[]]),(15,0,[])] ?_
 |(refine Xn hr ?_;rintro rfl;with_reducible refine XP ?_)
 |exact Yw hr
 |((first|refine XB (c:=true) hr rfl ?_|refine XB (c:=false) hr rfl ?_|refine XB hr ag ?_);intro hr)
 |rw[Uj ah]
 |omega
 |rw[Uj (by simp only[WQ,W4,Wl];omega)]
 |fail)
end Go.Sx
