import Derived.Test.YtmpbhfnjjaocoaaGreatCG29
set_option linter.all false
namespace Go.Sx
open Go.Proofs
set_option maxRecDepth 10000
set_option maxHeartbeats 100000000
abbrev QmP:=λN a1 (Q:(Int × Int × List Int × List Wt × Int × Int × List UK × List UT × List Int × List W8 × List W8 × List UG × List Int × Int × Int × List Ia × List UK × List UT × List Int × List W8 × List W8 × List Il × List Int × List Int)→Prop) n (st:St)=>∃v2 v3 v4 v5 v6 v7 v8 v9 v10 v11 v12 v13 v14 v15 v16 v17 v18 v19 v20 v21 v22 v23 v24 v25 v26 v27 v28 ex,Qgb N a1 n v2 v3 v4 v5 v6 v7 v8 v9 v10 v11 v12 v13 v14 v15 v16 v17 v18 v19 v20 v21 v22 v23 v24 v25 v26 v27 v28=some ex/\Q ex/\((∃w256 w384 w640,st.n=33/\st.t 1=vi a1/\st.t 4=.ept 256 w256 24 0 0/\st.t 5=.ept 640 w640 2 0 0/\st.t 6=.ept 384 w384 24 0 0/\st.t 7=vi v2/\st.s 256=some (w256,.arr true 67 24 [[vi 0,vi 0,.nsl,.nsl,vi 0,vi 0,.nsl,.nsl,.nsl,.nsl,.nsl,.nsl,.nsl,vi 0,vi 0,.nsl,.nsl,.nsl,.nsl,.nsl,.nsl,.nsl,.nsl,.nsl]] 0)/\st.s 384=some (w384,.arr true 67 24 [[vi v5,vi v6,s58 v7,Ye v8,vi v9,vi v10,Xbp v11,Xbq v12,s3 v13,K1 v14,K1 v15,s84 v16,s58 v17,vi v18,vi v19,Xsz v20,Xbp v21,Xbq v22,s3 v23,K1 v24,K1 v25,XsA v26,s58 v27,s58 v28]] 0)/\st.s 640=some (w640,.arr true 54 2 [[s3 v3,vi v4]] 0)))
instance Qp7:∀N a0 a1,OK (Qh8 N a0 a1) 14 [s3 a0,vi a1] [] (λr=>.agg (e67 r)) λr=>[]:=by
 refineλN _ _=>rk Tryz.f14 [.cell 4 67] [] 33 ?_<;>(rintro _ hw r hr C _ rfl hwf hf;have hse:=@Zx _ hw;simp only[Tryz.f14,Option.get!];(rw[Qh8]at hr);repeat' first
 |(refine El.el hr ?_;clear hr;intro hr)
 |(with_reducible intro h;refine Xz hr h ?_;clear hr;intro hr)
 |with_reducible intro _
 |(refine Xn hr ?_;rintro rfl;have hr:=hk;clear hk)
 |simp only[go_sem,simprocAttr,E,hse]
 |(with_reducible first|apply Xi|apply Xh|apply Xq|apply Xs|apply Xt)
 |(refine Xr ?_ ?_;.first|assumption|omega)
 |(with_reducible first|refine CallX.c ?_ _|refine OK.c hr hw ?_ (λy hr=>?_) _|refine IO hr hw ?_ (λy hr=>?_) _)
 |(with_reducible refine lp (QmP N _) hr N ?_ (λex hq hk=>⟨_,_,_,_,_,_,_,_,_,_,_,_,_,_,_,_,_,_,_,_,_,_,_,_,_,_,_,ex,hq,hk,?_⟩) _;clear hr;(try clear E);rintro n1 st ⟨v2,v3,v4,v5,v6,v7,v8,v9,v10,v11,v12,v13,v14,v15,v16,v17,v18,v19,v20,v21,v22,v23,v24,v25,v26,v27,v28,ex,hr,hk,⟨_,_,_,E⟩⟩<;>(obtain _|n1:=n1<;>rw[Qgb]at hr))
 |refine⟨_,Wy _,_,_,_,_,_,_,_,_,_,_,_,_,_,_,_,_,_,_,_,_,_,_,_,_,_,_,_,_,hr,hk,?_⟩
 |refine dc 14 6 hf 24 [(0,14,[[],[640]]),(0,5,[]),(0,3,[]),(6,1,[[640],[]]),(15,0,[]),(31,0,[]),(63,192,[]),(63,160,[[],[384]]),(63,96,[[],[384]]),(127,192,[[384],[]])] ?_
 |(refine Xn hr ?_;rintro rfl;with_reducible refine XN ?_)
 |exact Yv hr
 |((first|refine Xz (c:=true) hr rfl ?_|refine Xz (c:=false) hr rfl ?_|refine Xz hr ag ?_);intro hr)
 |fail)
end Go.Sx
