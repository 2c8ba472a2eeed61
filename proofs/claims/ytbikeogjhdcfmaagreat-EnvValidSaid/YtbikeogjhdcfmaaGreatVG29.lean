import Derived.Test.YtbikeogjhdcfmaaGreatVF
import Derived.Test.YtbikeogjhdcfmaaGreatVG2
import Derived.Test.YtbikeogjhdcfmaaGreatVG7
import Derived.Test.YtbikeogjhdcfmaaGreatVG10
import Derived.Test.YtbikeogjhdcfmaaGreatVG28
set_option linter.all false
namespace Go.Sx
open Go.Proofs
set_option maxRecDepth 10000
set_option maxHeartbeats 100000000
abbrev Qkc:=λ N (a1:Int) (Q:(Int × Int × List Int × List Wv × Int × Int × List UX × List U0 × List Int × List Ua × List Ua × List UG × List Int × Int × Int × List Ii × List UX × List U0 × List Int × List Ua × List Ua × List Ix × List Int × List Int)→Prop) n (st:St)=>∃ (v2:Int) (v3:List Int) (v4:Int) (v5:Int) (v6:Int) (v7:List Int) (v8:List Wv) (v9:Int) (v10:Int) (v11:List UX) (v12:List U0) (v13:List Int) (v14:List Ua) (v15:List Ua) (v16:List UG) (v17:List Int) (v18:Int) (v19:Int) (v20:List Ii) (v21:List UX) (v22:List U0) (v23:List Int) (v24:List Ua) (v25:List Ua) (v26:List Ix) (v27:List Int) (v28:List Int) (ex:_),QeE N a1 n v2 v3 v4 v5 v6 v7 v8 v9 v10 v11 v12 v13 v14 v15 v16 v17 v18 v19 v20 v21 v22 v23 v24 v25 v26 v27 v28=some ex/\Q ex/\((∃ w256 w384 w640,st.n=33/\st.t 1=.v (.int .i64 a1)/\st.t 4=.ept 256 w256 24 0 0/\st.t 5=.ept 640 w640 2 0 0/\st.t 6=.ept 384 w384 24 0 0/\st.t 7=.v (.int .i64 v2)/\st.s 256=some (w256,.arr true 61 24 [[.v (.int .i64 0),.v (.int .i64 0),.nsl,.nsl,.v (.int .i64 0),.v (.int .i64 0),.nsl,.nsl,.nsl,.nsl,.nsl,.nsl,.nsl,.v (.int .i64 0),.v (.int .i64 0),.nsl,.nsl,.nsl,.nsl,.nsl,.nsl,.nsl,.nsl,.nsl]] 0)/\st.s 384=some (w384,.arr true 61 24 [[.v (.int .i64 v5),.v (.int .i64 v6),.isl 71 1 (v7.map e71),.isl 108 4 (v8.map XF),.v (.int .i64 v9),.v (.int .i64 v10),.isl 88 3 (v11.map e88),.isl 90 3 (v12.map e90),.isl 3 1 (v13.map e3),.isl 92 3 (v14.map e92),.isl 92 3 (v15.map e92),.isl 77 2 (v16.map e77),.isl 71 1 (v17.map e71),.v (.int .i64 v18),.v (.int .i64 v19),.isl 205 4 (v20.map Xat),.isl 88 3 (v21.map e88),.isl 90 3 (v22.map e90),.isl 3 1 (v23.map e3),.isl 92 3 (v24.map e92),.isl 92 3 (v25.map e92),.isl 268 3 (v26.map Xd3),.isl 71 1 (v27.map e71),.isl 71 1 (v28.map e71)]] 0)/\st.s 640=some (w640,.arr true 66 2 [[.isl 3 1 (v3.map e3),.v (.int .i64 v4)]] 0)))
instance QoD:∀ N (a0:List Int) (a1:Int),OK (QgH N a0 a1) 20 [.isl 3 1 (a0.map e3),.v (.int .i64 a1)] [] (λ r=>.agg (e61 r)) λ r=>[]:=by
 refine λ N _ _=>rn Tryz.f20 [.cell 4 61] [] 33 (by kernel_rfl) ?_<;>(rintro _ hw r hr C _ rfl hwf hf;simp only[Tryz.f20,Option.get!];(rw[QgH] at hr);repeat' first
 |(refine El.el hr ?_;intro hr)
 |(with_reducible intro h;refine XB hr h ?_;intro hr)
 |with_reducible intro _
 |(refine Xn hr ?_;rintro rfl;have hr:=hk;clear hk)
 |simp only[go_sem,simprocAttr,E]
 |(with_reducible first|apply Xk|apply Xj|apply Xp|apply Xr|apply Xs)
 |(refine Xq ?_ ?_;·first|assumption|omega)
 |(with_reducible first|refine CallX.c ?_ _|refine OK.c hr hw ?_ (λ y hr=>?_) _|refine Oe hr hw ?_ (λ y hr=>?_) _)
 |(with_reducible refine Xf (I:=Qkc N _) hr 1000 N (λ ex hq hk=>⟨_,_,_,_,_,_,_,_,_,_,_,_,_,_,_,_,_,_,_,_,_,_,_,_,_,_,_,ex,hq,hk,?_⟩) ?_ _;rotate_left;clear hr;(try clear E);rintro n1 st ⟨v2,v3,v4,v5,v6,v7,v8,v9,v10,v11,v12,v13,v14,v15,v16,v17,v18,v19,v20,v21,v22,v23,v24,v25,v26,v27,v28,ex,hr,hk,⟨_,_,_,E⟩⟩<;>(obtain _|n1:=n1<;>rw[QeE] at hr))
 |refine ⟨_,WD _,_,_,_,_,_,_,_,_,_,_,_,_,_,_,_,_,_,_,_,_,_,_,_,_,_,_,_,_,hr,hk,?_⟩
 |refine db 20 6 hf 24 [(0,14,[[],[640]]),(0,5,[]),(0,3,[]),(6,1,[[640],[]]),(15,0,[]),(31,0,[]),(63,192,[]),(63,160,[[],[384]]),(63,96,[[],[384]]),(127,192,[[384],[]])] rfl rfl (by kernel_rfl) ?_ _
 |(refine Xn hr ?_;rintro rfl;with_reducible refine XM ?_)
 |exact Yw hr
 |((first|refine XB (c:=true) hr rfl ?_|refine XB (c:=false) hr rfl ?_|refine XB hr (by assumption) ?_);intro hr)
 |fail)
end Go.Sx
