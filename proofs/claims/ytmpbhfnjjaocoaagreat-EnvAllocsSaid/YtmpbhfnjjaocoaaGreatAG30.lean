import Derived.Test.YtmpbhfnjjaocoaaGreatAG29
set_option linter.all false
namespace Go.Sx
open Go.Proofs
set_option maxRecDepth 10000
set_option maxHeartbeats 100000000
abbrev QmU:=λN a1 (Q:(Int × Int × List Int × List Wt × Int × Int × List UM × List UU × List Int × List W8 × List W8 × List UH × List Int × Int × Int × List Ib × List UM × List UU × List Int × List W8 × List W8 × List Il × List Int × List Int)→Prop) n (st:St)=>∃v2 v3 v4 v5 v6 v7 v8 v9 v10 v11 v12 v13 v14 v15 v16 v17 v18 v19 v20 v21 v22 v23 v24 v25 v26 v27 v28 ex,Qgh N a1 n v2 v3 v4 v5 v6 v7 v8 v9 v10 v11 v12 v13 v14 v15 v16 v17 v18 v19 v20 v21 v22 v23 v24 v25 v26 v27 v28=some ex/\Q ex/\((∃w256 w384 w640,st.n=33/\st.t 1=vi a1/\st.t 4=.ept 256 w256 24 0 0/\st.t 5=.ept 640 w640 2 0 0/\st.t 6=.ept 384 w384 24 0 0/\st.t 7=vi v2/\st.s 256=some (w256,.arr true 67 24 [[vi 0,vi 0,.nsl,.nsl,vi 0,vi 0,.nsl,.nsl,.nsl,.nsl,.nsl,.nsl,.nsl,vi 0,vi 0,.nsl,.nsl,.nsl,.nsl,.nsl,.nsl,.nsl,.nsl,.nsl]] 0)/\st.s 384=some (w384,.arr true 67 24 [[vi v5,vi v6,s58 v7,Yg v8,vi v9,vi v10,XbD v11,XbE v12,s3 v13,K5 v14,K5 v15,s84 v16,s58 v17,vi v18,vi v19,XsK v20,XbD v21,XbE v22,s3 v23,K5 v24,K5 v25,XsL v26,s58 v27,s58 v28]] 0)/\st.s 640=some (w640,.arr true 54 2 [[s3 v3,vi v4]] 0)))
instance Qqd:∀N a0 a1,OK (Qie N a0 a1) 14 [s3 a0,vi a1] [] (λr=>.agg (e67 r)) λr=>[]:=by
 refineλN _ _=>rk Tryz.f14 [.cell 4 67] [] 33 ?_<;>(rintro _ hw r hr C _ rfl hwf hf;have hse:=@Zw _ hw;simp only[Tryz.f14,Option.get!];(rw[Qie]at hr);repeat' first
 |(refine El.el hr ?_;clear hr;intro hr)
 |(with_reducible intro h;refine XB hr h ?_;clear hr;intro hr)
 |with_reducible intro _
 |(refine Xn hr ?_;rintro rfl;have hr:=hk;clear hk)
 |simp only[go_sem,simprocAttr,E,hse]
 |(with_reducible first|apply Xi|apply Xh|apply Xs|apply Xq|apply Xr)
 |(refine Xt ?_ ?_;.first|assumption|omega)
 |(with_reducible first|refine CallX.c ?_ _|refine OK.c hr hw ?_ (λy hr=>?_) _|refine IM hr hw ?_ (λy hr=>?_) _)
 |(with_reducible refine lp (QmU N _) hr N ?_ (λex hq hk=>⟨_,_,_,_,_,_,_,_,_,_,_,_,_,_,_,_,_,_,_,_,_,_,_,_,_,_,_,ex,hq,hk,?_⟩) _;clear hr;(try clear E);rintro n1 st ⟨v2,v3,v4,v5,v6,v7,v8,v9,v10,v11,v12,v13,v14,v15,v16,v17,v18,v19,v20,v21,v22,v23,v24,v25,v26,v27,v28,ex,hr,hk,⟨_,_,_,E⟩⟩<;>(obtain _|n1:=n1<;>rw[Qgh]at hr))
 |refine⟨_,Wz _,_,_,_,_,_,_,_,_,_,_,_,_,_,_,_,_,_,_,_,_,_,_,_,_,_,_,_,_,hr,hk,?_⟩
 |refine dc 14 6 hf 24 [(0,14,[[],[640]]),(0,5,[]),(0,3,[]),(6,1,[[640],[]]),(15,0,[]),(31,0,[]),(63,192,[]),(63,160,[[],[384]]),(63,96,[[],[384]]),(127,192,[[384],[]])] ?_
 |(refine Xn hr ?_;rintro rfl;with_reducible refine XP ?_)
 |exact Yw hr
 |((first|refine XB (c:=true) hr rfl ?_|refine XB (c:=false) hr rfl ?_|refine XB hr ag ?_);intro hr)
 |fail)
end Go.Sx
