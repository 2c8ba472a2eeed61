import Derived.Test.YtgdhlnfcogcicaaGreatDoorSF
import Derived.Test.YtgdhlnfcogcicaaGreatDoorSG3
import Derived.Test.YtgdhlnfcogcicaaGreatDoorSG9
import Derived.Test.YtgdhlnfcogcicaaGreatDoorSG11
import Derived.Test.YtgdhlnfcogcicaaGreatDoorSG28
set_option linter.all false
namespace Go.Sx
open Go.Proofs
set_option maxRecDepth 10000
set_option maxHeartbeats 100000000
abbrev Qi7:=fun N (a1:Int) (Q:(Int × Int × List Int × List TPage × Int × Int × List TSlot × List TScope × List Int × List TEntry × List TEntry × List TPin × List Int × Int × Int × List TThing × List TSlot × List TScope × List Int × List TEntry × List TEntry × List TMark × List Int × List Int)→Prop) n (st:St)=>∃ (v2:Int) (v3:List Int) (v4:Int) (v5:Int) (v6:Int) (v7:List Int) (v8:List TPage) (v9:Int) (v10:Int) (v11:List TSlot) (v12:List TScope) (v13:List Int) (v14:List TEntry) (v15:List TEntry) (v16:List TPin) (v17:List Int) (v18:Int) (v19:Int) (v20:List TThing) (v21:List TSlot) (v22:List TScope) (v23:List Int) (v24:List TEntry) (v25:List TEntry) (v26:List TMark) (v27:List Int) (v28:List Int) (ex:_),Qd3 N a1 n v2 v3 v4 v5 v6 v7 v8 v9 v10 v11 v12 v13 v14 v15 v16 v17 v18 v19 v20 v21 v22 v23 v24 v25 v26 v27 v28=some ex∧Q ex∧((∃ w256 w384 w640,st.n=33∧st.t 1=.v (.int .i64 a1)∧st.t 4=.ept 256 w256 24 0 0∧st.t 5=.ept 640 w640 2 0 0∧st.t 6=.ept 384 w384 24 0 0∧st.t 7=.v (.int .i64 v2)∧st.s 256=some (w256,.arr true 47 24 [[.v (.int .i64 0),.v (.int .i64 0),.nsl,.nsl,.v (.int .i64 0),.v (.int .i64 0),.nsl,.nsl,.nsl,.nsl,.nsl,.nsl,.nsl,.v (.int .i64 0),.v (.int .i64 0),.nsl,.nsl,.nsl,.nsl,.nsl,.nsl,.nsl,.nsl,.nsl]] 0)∧st.s 384=some (w384,.arr true 47 24 [[.v (.int .i64 v5),.v (.int .i64 v6),.isl 37 1 (v7.map e37),.isl 306 4 (v8.map e306),.v (.int .i64 v9),.v (.int .i64 v10),.isl 210 3 (v11.map e210),.isl 159 3 (v12.map e159),.isl 3 1 (v13.map e3),.isl 132 3 (v14.map e132),.isl 132 3 (v15.map e132),.isl 229 2 (v16.map e229),.isl 37 1 (v17.map e37),.v (.int .i64 v18),.v (.int .i64 v19),.isl 115 4 (v20.map e115),.isl 210 3 (v21.map e210),.isl 159 3 (v22.map e159),.isl 3 1 (v23.map e3),.isl 132 3 (v24.map e132),.isl 132 3 (v25.map e132),.isl 96 3 (v26.map e96),.isl 37 1 (v27.map e37),.isl 37 1 (v28.map e37)]] 0)∧st.s 640=some (w640,.arr true 51 2 [[.isl 3 1 (v3.map e3),.v (.int .i64 v4)]] 0)))
instance QmY:∀ N (a0:List Int) (a1:Int),OK (Qfj N a0 a1) 8 [.isl 3 1 (a0.map e3),.v (.int .i64 a1)] [] (fun r=>.agg (e47 r)) fun r=>[]:=by
 refine fun N _ _=>rn Tryz.f8 [.cell 4 47] [] 33 (by kernel_rfl) ?_<;>(rintro _ hw r hr C _ rfl hwf hf;simp only[Tryz.f8,Option.get!];(rw[Qfj] at hr);repeat' first
 |(refine El.el hr ?_;intro hr)
 |(with_reducible intro h;refine bc_e hr h ?_;intro hr)
 |with_reducible intro _
 |(refine some_e hr ?_;rintro rfl;have hr:=hk;clear hk)
 |simp only[go_sem,simprocAttr,E]
 |(with_reducible first|apply guard_of_f|apply guard_of_t|apply cond_of|apply doT_of_t|apply doT_of_f)
 |(refine and_of' ?_ ?_;·first|assumption|omega)
 |with_reducible refine CallX.c ?_ _
 |with_reducible refine OK.c hr hw ?_ (fun y hr=>?_) _
 |with_reducible refine OK.d hr hw ?_ (fun y hr=>?_) _
 |(with_reducible refine loop_e (I:=Qi7 N _) hr 1000 N (fun ex hq hk=>⟨_,_,_,_,_,_,_,_,_,_,_,_,_,_,_,_,_,_,_,_,_,_,_,_,_,_,_,ex,hq,hk,?_⟩) ?_ _;rotate_left;clear hr;(try clear E);rintro n1 st ⟨v2,v3,v4,v5,v6,v7,v8,v9,v10,v11,v12,v13,v14,v15,v16,v17,v18,v19,v20,v21,v22,v23,v24,v25,v26,v27,v28,ex,hr,hk,⟨_,_,_,E⟩⟩<;>(obtain _|n1:=n1<;>rw[Qd3] at hr))
 |refine ⟨_,Nat.lt_succ_self _,_,_,_,_,_,_,_,_,_,_,_,_,_,_,_,_,_,_,_,_,_,_,_,_,_,_,_,_,hr,hk,?_⟩
 |refine db 8 6 hf [([],[],[25,26,27],[640]),([],[],[24,26],[]),([],[],[24,25],[]),([1,2],[640],[24],[]),([0,1,2,3],[],[],[]),([0,1,2,3,4],[],[],[]),([0,1,2,3,4,5],[],[30,31],[]),([0,1,2,3,4,5],[],[29,31],[384]),([0,1,2,3,4,5],[],[29,30],[384]),([0,1,2,3,4,5,6],[384],[30,31],[])] rfl rfl (by kernel_rfl) ?_ _
 |(refine some_e hr ?_;rintro rfl;with_reducible refine ret_k ?_)
 |exact no_e hr
 |((first|refine bc_e (c:=true) hr rfl ?_|refine bc_e (c:=false) hr rfl ?_|refine bc_e hr (by assumption) ?_);intro hr)
 |fail)
end Go.Sx
