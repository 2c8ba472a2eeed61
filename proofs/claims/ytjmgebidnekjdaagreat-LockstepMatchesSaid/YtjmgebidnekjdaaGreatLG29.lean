import Derived.Test.YtjmgebidnekjdaaGreatLG28
set_option linter.all false
namespace Go.Sx
open Go.Proofs
set_option maxRecDepth 10000
set_option maxHeartbeats 100000000
abbrev Qms:=λ N a1 (Q:(Int × Int × List Int × List WM × Int × Int × List U1 × List U6 × List Int × List Uj × List Uj × List U4 × List Int × Int × Int × List UL × List U1 × List U6 × List Int × List Uj × List Uj × List U7 × List Int × List Int)→Prop) n (st:St)=>∃ v2 v3 v4 v5 v6 v7 v8 v9 v10 v11 v12 v13 v14 v15 v16 v17 v18 v19 v20 v21 v22 v23 v24 v25 v26 v27 v28 ex,Qfn N a1 n v2 v3 v4 v5 v6 v7 v8 v9 v10 v11 v12 v13 v14 v15 v16 v17 v18 v19 v20 v21 v22 v23 v24 v25 v26 v27 v28=some ex/\Q ex/\((∃ w256 w384 w640,st.n=33/\st.t 1=vi a1/\st.t 4=.ept 256 w256 24 0 0/\st.t 5=.ept 640 w640 2 0 0/\st.t 6=.ept 384 w384 24 0 0/\st.t 7=vi v2/\st.s 256=some (w256,.arr true 46 24 [[vi 0,vi 0,.nsl,.nsl,vi 0,vi 0,.nsl,.nsl,.nsl,.nsl,.nsl,.nsl,.nsl,vi 0,vi 0,.nsl,.nsl,.nsl,.nsl,.nsl,.nsl,.nsl,.nsl,.nsl]] 0)/\st.s 384=some (w384,.arr true 46 24 [[vi v5,vi v6,s76 v7,Y3 v8,vi v9,vi v10,s88 v11,s94 v12,s3 v13,s90 v14,s90 v15,s92 v16,s76 v17,vi v18,vi v19,s74 v20,s88 v21,s94 v22,s3 v23,s90 v24,s90 v25,s96 v26,s76 v27,s76 v28]] 0)/\st.s 640=some (w640,.arr true 50 2 [[s3 v3,vi v4]] 0)))
instance Qpg:∀ N a0 a1,OK (Qg0 N a0 a1) 6 [s3 a0,vi a1] [] (λ r=>.agg (e46 r)) λ r=>[]:=by
 refine λ N _ _=>rk Tryz.f6 [.cell 4 46] [] 33 ?_<;>(rintro _ hw r hr C _ rfl hwf hf;simp only[Tryz.f6,Option.get!];(rw[Qg0] at hr);repeat' first
 |(refine El.el hr ?_;intro hr)
 |(with_reducible intro h;refine Xx hr h ?_;intro hr)
 |with_reducible intro _
 |(refine Xo hr ?_;rintro rfl;have hr:=hk;clear hk)
 |simp only[go_sem,simprocAttr,E]
 |(with_reducible first|apply Xh|apply Xg|apply Xr|apply Xt|apply Xu)
 |(refine Xs ?_ ?_;·first|assumption|omega)
 |(with_reducible first|refine CallX.c ?_ _|refine OK.c hr hw ?_ (λ y hr=>?_) _|refine Ol hr hw ?_ (λ y hr=>?_) _)
 |(with_reducible refine lp (Qms N _) hr N ?_ (λ ex hq hk=>⟨_,_,_,_,_,_,_,_,_,_,_,_,_,_,_,_,_,_,_,_,_,_,_,_,_,_,_,ex,hq,hk,?_⟩) _;clear hr;(try clear E);rintro n1 st ⟨v2,v3,v4,v5,v6,v7,v8,v9,v10,v11,v12,v13,v14,v15,v16,v17,v18,v19,v20,v21,v22,v23,v24,v25,v26,v27,v28,ex,hr,hk,⟨_,_,_,E⟩⟩<;>(obtain _|n1:=n1<;>rw[Qfn] at hr))
 |refine ⟨_,WH _,_,_,_,_,_,_,_,_,_,_,_,_,_,_,_,_,_,_,_,_,_,_,_,_,_,_,_,_,hr,hk,?_⟩
 |refine dc 6 6 hf 24 [(0,14,[[],[640]]),(0,5,[]),(0,3,[]),(6,1,[[640],[]]),(15,0,[]),(31,0,[]),(63,192,[]),(63,160,[[],[384]]),(63,96,[[],[384]]),(127,192,[[384],[]])] ?_
 |(refine Xo hr ?_;rintro rfl;with_reducible refine XP ?_)
 |exact Yw hr
 |exact XV hr
 |(apply XW;assumption)
 |((first|refine Xx (c:=true) hr rfl ?_|refine Xx (c:=false) hr rfl ?_|refine Xx hr (by assumption) ?_);intro hr)
 |fail)
end Go.Sx
