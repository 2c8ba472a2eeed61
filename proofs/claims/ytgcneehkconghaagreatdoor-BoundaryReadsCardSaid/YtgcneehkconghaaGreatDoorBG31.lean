import Derived.Test.YtgcneehkconghaaGreatDoorBF
import Derived.Test.YtgcneehkconghaaGreatDoorBG1
import Derived.Test.YtgcneehkconghaaGreatDoorBG7
import Derived.Test.YtgcneehkconghaaGreatDoorBG10
import Derived.Test.YtgcneehkconghaaGreatDoorBG30
set_option linter.all false
namespace Go.Sx
open Go.Proofs
set_option maxRecDepth 10000
set_option maxHeartbeats 100000000
abbrev Qkc:=λ N (a1:Int) (Q:(Int × Int × List Int × List Wx × Int × Int × List US × List U2 × List Int × List W6 × List W6 × List UE × List Int × Int × Int × List Ie × List US × List U2 × List Int × List W6 × List W6 × List Iq × List Int × List Int)→Prop) n (st:St)=>∃ (v2:Int) (v3:List Int) (v4:Int) (v5:Int) (v6:Int) (v7:List Int) (v8:List Wx) (v9:Int) (v10:Int) (v11:List US) (v12:List U2) (v13:List Int) (v14:List W6) (v15:List W6) (v16:List UE) (v17:List Int) (v18:Int) (v19:Int) (v20:List Ie) (v21:List US) (v22:List U2) (v23:List Int) (v24:List W6) (v25:List W6) (v26:List Iq) (v27:List Int) (v28:List Int) (ex:_),Qet N a1 n v2 v3 v4 v5 v6 v7 v8 v9 v10 v11 v12 v13 v14 v15 v16 v17 v18 v19 v20 v21 v22 v23 v24 v25 v26 v27 v28=some ex/\Q ex/\((∃ w256 w384 w640,st.n=33/\st.t 1=.v (.int .i64 a1)/\st.t 4=.ept 256 w256 24 0 0/\st.t 5=.ept 640 w640 2 0 0/\st.t 6=.ept 384 w384 24 0 0/\st.t 7=.v (.int .i64 v2)/\st.s 256=some (w256,.arr true 45 24 [[.v (.int .i64 0),.v (.int .i64 0),.nsl,.nsl,.v (.int .i64 0),.v (.int .i64 0),.nsl,.nsl,.nsl,.nsl,.nsl,.nsl,.nsl,.v (.int .i64 0),.v (.int .i64 0),.nsl,.nsl,.nsl,.nsl,.nsl,.nsl,.nsl,.nsl,.nsl]] 0)/\st.s 384=some (w384,.arr true 45 24 [[.v (.int .i64 v5),.v (.int .i64 v6),.isl 39 1 (v7.map e39),.isl 175 4 (v8.map XB),.v (.int .i64 v9),.v (.int .i64 v10),.isl 115 3 (v11.map Zg),.isl 98 3 (v12.map e98),.isl 3 1 (v13.map e3),.isl 117 3 (v14.map Ym),.isl 117 3 (v15.map Ym),.isl 119 2 (v16.map YT),.isl 39 1 (v17.map e39),.v (.int .i64 v18),.v (.int .i64 v19),.isl 165 4 (v20.map VZ),.isl 115 3 (v21.map Zg),.isl 98 3 (v22.map e98),.isl 3 1 (v23.map e3),.isl 117 3 (v24.map Ym),.isl 117 3 (v25.map Ym),.isl 243 3 (v26.map Xc4),.isl 39 1 (v27.map e39),.isl 39 1 (v28.map e39)]] 0)/\st.s 640=some (w640,.arr true 60 2 [[.isl 3 1 (v3.map e3),.v (.int .i64 v4)]] 0)))
instance QoJ:∀ N (a0:List Int) (a1:Int),OK (Qf0 N a0 a1) 5 [.isl 3 1 (a0.map e3),.v (.int .i64 a1)] [] (λ r=>.agg (e45 r)) λ r=>[]:=by
 refine λ N _ _=>rn Tryz.f5 [.cell 4 45] [] 33 (by kernel_rfl) ?_<;>(rintro _ hw r hr C _ rfl hwf hf;simp only[Tryz.f5,Option.get!];(rw[Qf0] at hr);repeat' first
 |(refine El.el hr ?_;intro hr)
 |(with_reducible intro h;refine Xw hr h ?_;intro hr)
 |with_reducible intro _
 |(refine Xn hr ?_;rintro rfl;have hr:=hk;clear hk)
 |simp only[go_sem,simprocAttr,E]
 |(with_reducible first|apply Xg|apply Xf|apply Xo|apply Xt|apply Xu)
 |(refine Xp ?_ ?_;·first|assumption|omega)
 |(with_reducible first|refine CallX.c ?_ _|refine OK.c hr hw ?_ (λ y hr=>?_) _|refine IX hr hw ?_ (λ y hr=>?_) _)
 |(with_reducible refine Xe (I:=Qkc N _) hr 1000 N (λ ex hq hk=>⟨_,_,_,_,_,_,_,_,_,_,_,_,_,_,_,_,_,_,_,_,_,_,_,_,_,_,_,ex,hq,hk,?_⟩) ?_ _;rotate_left;clear hr;(try clear E);rintro n1 st ⟨v2,v3,v4,v5,v6,v7,v8,v9,v10,v11,v12,v13,v14,v15,v16,v17,v18,v19,v20,v21,v22,v23,v24,v25,v26,v27,v28,ex,hr,hk,⟨_,_,_,E⟩⟩<;>(obtain _|n1:=n1<;>rw[Qet] at hr))
 |refine ⟨_,WA _,_,_,_,_,_,_,_,_,_,_,_,_,_,_,_,_,_,_,_,_,_,_,_,_,_,_,_,_,hr,hk,?_⟩
 |refine db 5 6 hf 24 [(0,14,[[],[640]]),(0,5,[]),(0,3,[]),(6,1,[[640],[]]),(15,0,[]),(31,0,[]),(63,192,[]),(63,160,[[],[384]]),(63,96,[[],[384]]),(127,192,[[384],[]])] rfl rfl (by kernel_rfl) ?_ _
 |(refine Xn hr ?_;rintro rfl;with_reducible refine XF ?_)
 |exact Yj hr
 |((first|refine Xw (c:=true) hr rfl ?_|refine Xw (c:=false) hr rfl ?_|refine Xw hr (by assumption) ?_);intro hr)
 |fail)
end Go.Sx
