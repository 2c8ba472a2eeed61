import Derived.Test.YtgcneehkconghaaGreatDoorVF
import Derived.Test.YtgcneehkconghaaGreatDoorVG2
import Derived.Test.YtgcneehkconghaaGreatDoorVG8
import Derived.Test.YtgcneehkconghaaGreatDoorVG11
import Derived.Test.YtgcneehkconghaaGreatDoorVG30
set_option linter.all false
namespace Go.Sx
open Go.Proofs
set_option maxRecDepth 10000
set_option maxHeartbeats 100000000
abbrev QjX:=λ N (a1:Int) (Q:(Int × Int × List Int × List Wv × Int × Int × List UX × List U1 × List Int × List Ub × List Ub × List UN × List Int × Int × Int × List Il × List UX × List U1 × List Int × List Ub × List Ub × List IA × List Int × List Int)→Prop) n (st:St)=>∃ (v2:Int) (v3:List Int) (v4:Int) (v5:Int) (v6:Int) (v7:List Int) (v8:List Wv) (v9:Int) (v10:Int) (v11:List UX) (v12:List U1) (v13:List Int) (v14:List Ub) (v15:List Ub) (v16:List UN) (v17:List Int) (v18:Int) (v19:Int) (v20:List Il) (v21:List UX) (v22:List U1) (v23:List Int) (v24:List Ub) (v25:List Ub) (v26:List IA) (v27:List Int) (v28:List Int) (ex:_),QeC N a1 n v2 v3 v4 v5 v6 v7 v8 v9 v10 v11 v12 v13 v14 v15 v16 v17 v18 v19 v20 v21 v22 v23 v24 v25 v26 v27 v28=some ex/\Q ex/\((∃ w256 w384 w640,st.n=33/\st.t 1=.v (.int .i64 a1)/\st.t 4=.ept 256 w256 24 0 0/\st.t 5=.ept 640 w640 2 0 0/\st.t 6=.ept 384 w384 24 0 0/\st.t 7=.v (.int .i64 v2)/\st.s 256=some (w256,.arr true 45 24 [[.v (.int .i64 0),.v (.int .i64 0),.nsl,.nsl,.v (.int .i64 0),.v (.int .i64 0),.nsl,.nsl,.nsl,.nsl,.nsl,.nsl,.nsl,.v (.int .i64 0),.v (.int .i64 0),.nsl,.nsl,.nsl,.nsl,.nsl,.nsl,.nsl,.nsl,.nsl]] 0)/\st.s 384=some (w384,.arr true 45 24 [[.v (.int .i64 v5),.v (.int .i64 v6),.isl 39 1 (v7.map e39),.isl 175 4 (v8.map XG),.v (.int .i64 v9),.v (.int .i64 v10),.isl 115 3 (v11.map Zm),.isl 98 3 (v12.map e98),.isl 3 1 (v13.map e3),.isl 117 3 (v14.map Yz),.isl 117 3 (v15.map Yz),.isl 119 2 (v16.map Zc),.isl 39 1 (v17.map e39),.v (.int .i64 v18),.v (.int .i64 v19),.isl 165 4 (v20.map XaB),.isl 115 3 (v21.map Zm),.isl 98 3 (v22.map e98),.isl 3 1 (v23.map e3),.isl 117 3 (v24.map Yz),.isl 117 3 (v25.map Yz),.isl 243 3 (v26.map Xcw),.isl 39 1 (v27.map e39),.isl 39 1 (v28.map e39)]] 0)/\st.s 640=some (w640,.arr true 60 2 [[.isl 3 1 (v3.map e3),.v (.int .i64 v4)]] 0)))
instance Qon:∀ N (a0:List Int) (a1:Int),OK (Qf4 N a0 a1) 5 [.isl 3 1 (a0.map e3),.v (.int .i64 a1)] [] (λ r=>.agg (e45 r)) λ r=>[]:=by
 refine λ N _ _=>rn Tryz.f5 [.cell 4 45] [] 33 (by kernel_rfl) ?_<;>(rintro _ hw r hr C _ rfl hwf hf;simp only[Tryz.f5,Option.get!];(rw[Qf4] at hr);repeat' first
 |(refine El.el hr ?_;intro hr)
 |(with_reducible intro h;refine XA hr h ?_;intro hr)
 |with_reducible intro _
 |(refine Xn hr ?_;rintro rfl;have hr:=hk;clear hk)
 |simp only[go_sem,simprocAttr,E]
 |(with_reducible first|apply Xk|apply Xj|apply Xo|apply Xt|apply Xu)
 |(refine Xp ?_ ?_;·first|assumption|omega)
 |(with_reducible first|refine CallX.c ?_ _|refine OK.c hr hw ?_ (λ y hr=>?_) _|refine Og hr hw ?_ (λ y hr=>?_) _)
 |(with_reducible refine Xf (I:=QjX N _) hr 1000 N (λ ex hq hk=>⟨_,_,_,_,_,_,_,_,_,_,_,_,_,_,_,_,_,_,_,_,_,_,_,_,_,_,_,ex,hq,hk,?_⟩) ?_ _;rotate_left;clear hr;(try clear E);rintro n1 st ⟨v2,v3,v4,v5,v6,v7,v8,v9,v10,v11,v12,v13,v14,v15,v16,v17,v18,v19,v20,v21,v22,v23,v24,v25,v26,v27,v28,ex,hr,hk,⟨_,_,_,E⟩⟩<;>(obtain _|n1:=n1<;>rw[QeC] at hr))
 |refine ⟨_,WD _,_,_,_,_,_,_,_,_,_,_,_,_,_,_,_,_,_,_,_,_,_,_,_,_,_,_,_,_,hr,hk,?_⟩
 |refine db 5 6 hf 24 [(0,14,[[],[640]]),(0,5,[]),(0,3,[]),(6,1,[[640],[]]),(15,0,[]),(31,0,[]),(63,192,[]),(63,160,[[],[384]]),(63,96,[[],[384]]),(127,192,[[384],[]])] rfl rfl (by kernel_rfl) ?_ _
 |(refine Xn hr ?_;rintro rfl;with_reducible refine XM ?_)
 |exact Yw hr
 |((first|refine XA (c:=true) hr rfl ?_|refine XA (c:=false) hr rfl ?_|refine XA hr (by assumption) ?_);intro hr)
 |fail)
end Go.Sx
