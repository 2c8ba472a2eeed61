import Derived.Test.YtgdhlnfcogcicaaGreatDoorTF
import Derived.Test.YtgdhlnfcogcicaaGreatDoorTG4
import Derived.Test.YtgdhlnfcogcicaaGreatDoorTG9
import Derived.Test.YtgdhlnfcogcicaaGreatDoorTG11
import Derived.Test.YtgdhlnfcogcicaaGreatDoorTG35
set_option linter.all false
namespace Go.Sx
open Go.Proofs
set_option maxRecDepth 10000
set_option maxHeartbeats 100000000
abbrev Qka:=λ N (a1:Int) (Q:(Int × Int × List Int × List W4 × Int × Int × List UR × List UV × List Int × List WP × List WP × List II × List Int × Int × Int × List W5 × List UR × List UV × List Int × List WP × List WP × List Uz × List Int × List Int)→Prop) n (st:St)=>∃ (v2:Int) (v3:List Int) (v4:Int) (v5:Int) (v6:Int) (v7:List Int) (v8:List W4) (v9:Int) (v10:Int) (v11:List UR) (v12:List UV) (v13:List Int) (v14:List WP) (v15:List WP) (v16:List II) (v17:List Int) (v18:Int) (v19:Int) (v20:List W5) (v21:List UR) (v22:List UV) (v23:List Int) (v24:List WP) (v25:List WP) (v26:List Uz) (v27:List Int) (v28:List Int) (ex:_),Qe2 N a1 n v2 v3 v4 v5 v6 v7 v8 v9 v10 v11 v12 v13 v14 v15 v16 v17 v18 v19 v20 v21 v22 v23 v24 v25 v26 v27 v28=some ex/\Q ex/\((∃ w256 w384 w640,st.n=33/\st.t 1=.v (.int .i64 a1)/\st.t 4=.ept 256 w256 24 0 0/\st.t 5=.ept 640 w640 2 0 0/\st.t 6=.ept 384 w384 24 0 0/\st.t 7=.v (.int .i64 v2)/\st.s 256=some (w256,.arr true 47 24 [[.v (.int .i64 0),.v (.int .i64 0),.nsl,.nsl,.v (.int .i64 0),.v (.int .i64 0),.nsl,.nsl,.nsl,.nsl,.nsl,.nsl,.nsl,.v (.int .i64 0),.v (.int .i64 0),.nsl,.nsl,.nsl,.nsl,.nsl,.nsl,.nsl,.nsl,.nsl]] 0)/\st.s 384=some (w384,.arr true 47 24 [[.v (.int .i64 v5),.v (.int .i64 v6),.isl 37 1 (v7.map e37),.isl 306 4 (v8.map Ym),.v (.int .i64 v9),.v (.int .i64 v10),.isl 210 3 (v11.map X4),.isl 159 3 (v12.map X9),.isl 3 1 (v13.map e3),.isl 132 3 (v14.map XC),.isl 132 3 (v15.map XC),.isl 229 2 (v16.map JA),.isl 37 1 (v17.map e37),.v (.int .i64 v18),.v (.int .i64 v19),.isl 115 4 (v20.map KG),.isl 210 3 (v21.map X4),.isl 159 3 (v22.map X9),.isl 3 1 (v23.map e3),.isl 132 3 (v24.map XC),.isl 132 3 (v25.map XC),.isl 96 3 (v26.map e96),.isl 37 1 (v27.map e37),.isl 37 1 (v28.map e37)]] 0)/\st.s 640=some (w640,.arr true 51 2 [[.isl 3 1 (v3.map e3),.v (.int .i64 v4)]] 0)))
instance QoR:∀ N (a0:List Int) (a1:Int),OK (QfZ N a0 a1) 8 [.isl 3 1 (a0.map e3),.v (.int .i64 a1)] [] (λ r=>.agg (e47 r)) λ r=>[]:=by
 refine λ N _ _=>rn Tryz.f8 [.cell 4 47] [] 33 (by kernel_rfl) ?_<;>(rintro _ hw r hr C _ rfl hwf hf;simp only[Tryz.f8,Option.get!];(rw[QfZ] at hr);repeat' first
 |(refine El.el hr ?_;intro hr)
 |(with_reducible intro h;refine Xz hr h ?_;intro hr)
 |with_reducible intro _
 |(refine Xq hr ?_;rintro rfl;have hr:=hk;clear hk)
 |simp only[go_sem,simprocAttr,E]
 |(with_reducible first|apply Xg|apply Xf|apply Xs|apply Xx|apply Xy)
 |(refine Xl ?_ ?_;·first|assumption|omega)
 |(with_reducible first|refine CallX.c ?_ _|refine OK.c hr hw ?_ (λ y hr=>?_) _|refine Oy hr hw ?_ (λ y hr=>?_) _)
 |(with_reducible refine Xj (I:=Qka N _) hr 1000 N (λ ex hq hk=>⟨_,_,_,_,_,_,_,_,_,_,_,_,_,_,_,_,_,_,_,_,_,_,_,_,_,_,_,ex,hq,hk,?_⟩) ?_ _;rotate_left;clear hr;(try clear E);rintro n1 st ⟨v2,v3,v4,v5,v6,v7,v8,v9,v10,v11,v12,v13,v14,v15,v16,v17,v18,v19,v20,v21,v22,v23,v24,v25,v26,v27,v28,ex,hr,hk,⟨_,_,_,E⟩⟩<;>(obtain _|n1:=n1<;>rw[Qe2] at hr))
 |refine ⟨_,WJ _,_,_,_,_,_,_,_,_,_,_,_,_,_,_,_,_,_,_,_,_,_,_,_,_,_,_,_,_,hr,hk,?_⟩
 |refine db 8 6 hf 24 [(0,14,[[],[640]]),(0,5,[]),(0,3,[]),(6,1,[[640],[]]),(15,0,[]),(31,0,[]),(63,192,[]),(63,160,[[],[384]]),(63,96,[[],[384]]),(127,192,[[384],[]])] rfl rfl (by kernel_rfl) ?_ _
 |(refine Xq hr ?_;rintro rfl;with_reducible refine XG ?_)
 |exact Yo hr
 |((first|refine Xz (c:=true) hr rfl ?_|refine Xz (c:=false) hr rfl ?_|refine Xz hr (by assumption) ?_);intro hr)
 |fail)
end Go.Sx
