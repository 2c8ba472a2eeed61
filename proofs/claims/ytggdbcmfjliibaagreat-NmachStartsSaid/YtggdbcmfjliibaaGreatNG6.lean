import Derived.Test.YtggdbcmfjliibaaGreatNF
import Derived.Test.YtggdbcmfjliibaaGreatNG1
import Derived.Test.YtggdbcmfjliibaaGreatNG2
import Derived.Test.YtggdbcmfjliibaaGreatNG4
import Derived.Test.YtggdbcmfjliibaaGreatNG5
set_option linter.all false
namespace Go.Sx
open Go.Proofs
set_option maxRecDepth 10000
set_option maxHeartbeats 100000000
abbrev I_page_span_l1:=fun N (a1:List TPage) (a2:Int) (p1:TPage) (x5:Int) (y6:Int) (Q:(Ex Int Unit)→Prop) n (st:St)=>∃ (v7:Int) (ex:_),page_span_l1 N a1 a2 p1 x5 y6 n v7=some ex∧Q ex∧((∃ w512,st.n=66∧st.t 8=.ept 512 w512 4 0 0∧st.t 9=.v (.int .i64 y6)∧st.t 54=.isl 154 4 (((a1.drop (wI (a2 + 1)).toNat).take ((wI (a2 + y6)).toNat - (wI (a2 + 1)).toNat)).map e154)∧st.t 55=.v (.int .i64 (((min ((wI (a2 + y6)).toNat - (wI (a2 + 1)).toNat) (a1.length - (wI (a2 + 1)).toNat)):Nat):Int))∧st.t 56=.v (.int .i64 v7)∧st.s 512=some (w512,.arr true 343 4 [[.v (.int .i64 x5),.v (.int .i64 p1.Space),.v (.int .i64 p1.Used),.v (.int .i64 p1.Pins)]] 0)))
abbrev I_slots_Refs_l1:=fun N (a0:TTable) (Q:(List Int)→Prop) n (st:St)=>∃ (v2:Int) (v3:List Int) (ex:_),slots_Refs_l1 N a0 n v2 v3=some ex∧Q ex∧((∃ w1408,st.n=25∧st.s 1408=some (w1408,.arr false 38 1 (v3.map e38) 0)∧st.t 3=.osl 1408 w1408 1 0 v3.length∧st.t 10=.isl 161 3 (a0.Entries.map e161)∧st.t 11=.v (.int .i64 ((a0.Entries.length:Nat):Int))∧st.t 12=.v (.int .i64 v2))∨((st.n=25∧st.t 3=.nsl∧st.t 10=.isl 161 3 (a0.Entries.map e161)∧st.t 11=.v (.int .i64 ((a0.Entries.length:Nat):Int))∧st.t 12=.v (.int .i64 v2))∧v3=[]))
abbrev I_slices_IndexFunc_uint64_uint64_Refers1_l1:=fun N (a0:List Int) (c0:List Int) (Q:(Ex Int Unit)→Prop) n (st:St)=>∃ (v1:Int) (ex:_),slices_IndexFunc_uint64_uint64_Refers1_l1 N a0 c0 n v1=some ex∧Q ex∧((st.n=19∧st.t 0=.isl 38 1 (a0.map e38)∧st.t 1=.clo (.func 69) [] [.ept 1000000 0 1 0 0]∧st.t 7=.v (.int .i64 ((a0.length:Nat):Int))∧st.t 8=.v (.int .i64 v1)∧st.s 1000000=some (0,.arr true 25 1 [[.isl 38 1 (c0.map e38)]] 0)))
abbrev I_scope_Refs_l1:=fun N (a0:TLocals) (Q:(List Int)→Prop) n (st:St)=>∃ (v2:Int) (v3:List Int) (ex:_),scope_Refs_l1 N a0 n v2 v3=some ex∧Q ex∧((∃ w1408,st.n=25∧st.s 1408=some (w1408,.arr false 38 1 (v3.map e38) 0)∧st.t 3=.osl 1408 w1408 1 0 v3.length∧st.t 10=.isl 174 3 (a0.Slots.map e174)∧st.t 11=.v (.int .i64 ((a0.Slots.length:Nat):Int))∧st.t 12=.v (.int .i64 v2))∨((st.n=25∧st.t 3=.nsl∧st.t 10=.isl 174 3 (a0.Slots.map e174)∧st.t 11=.v (.int .i64 ((a0.Slots.length:Nat):Int))∧st.t 12=.v (.int .i64 v2))∧v3=[]))
theorem g13:(∀ N (a0:TConf) (a1:List TPage) (a2:Int),OK (page_span N a0 a1 a2) 210 [.agg (e56 a0),.isl 154 4 (a1.map e154),.v (.int .i64 a2)] [] (fun r=>.v (.int .i64 r)) fun r=>[])∧(∀ N (a0:TTable),OK (slots_Refs N a0) 35 [.agg (e67 a0)] [] (fun r=>.isl 38 1 (r.map e38)) fun r=>[])∧(∀ N (a0:List Int) (c0:List Int),OK (slices_IndexFunc_uint64_uint64_Refers1 N a0 c0) 121 [.isl 38 1 (a0.map e38),.clo (.func 69) [] [.ept 1000000 0 1 0 0]] [.arr true 25 1 [[.isl 38 1 (c0.map e38)]] 0] (fun r=>.v (.int .i64 r)) fun r=>[.arr true 25 1 [[.isl 38 1 (c0.map e38)]] 0])∧(∀ N (a0:TLocals),OK (scope_Refs N a0) 72 [.agg (e64 a0)] [] (fun r=>.isl 38 1 (r.map e38)) fun r=>[]):=by
 refine ⟨fun N _ _ _=>rn Tryz.f210 [.tmp 6] [] 66 (by kernel_rfl) ?_,fun N _=>rn Tryz.f35 [.tmp 2] [] 25 (by kernel_rfl) ?_,fun N _ _=>rn Tryz.f121 [.tmp 4] [] 19 (by kernel_rfl) ?_,fun N _=>rn Tryz.f72 [.tmp 2] [] 25 (by kernel_rfl) ?_⟩<;>(rintro _ hw r hr C _ rfl hwf hf;simp only[Tryz.f210,Tryz.f35,Tryz.f121,Tryz.f72,Option.get!];(first|rw[page_span] at hr|rw[slots_Refs] at hr|rw[slices_IndexFunc_uint64_uint64_Refers1] at hr|rw[scope_Refs] at hr);repeat' first
 |(refine El.el hr ?_;intro hr)
 |(with_reducible intro h;refine bc_e hr h ?_;intro hr)
 |with_reducible intro _
 |(refine some_e hr ?_;rintro rfl;have hr:=hk;clear hk)
 |simp only[go_sem,simprocAttr,E,hK,hl38,hl154,hl161,hl174,List.length_take,List.length_drop,Nat.min_self]
 |(with_reducible first|apply guard_of_f|apply guard_of_t|apply cond_of|apply doT_of_t|apply doT_of_f)
 |((first|with_reducible refine idx_s hr (by assumption) ?_ ?_|(with_reducible refine idx_e hr ?_ ?_;rotate_left;intro p;rotate_right));(·simp only[go_sem,simprocAttr,List.length_take,List.length_drop,Nat.min_self]);intro hp hn hd hr;(try have hl38:=hd _ e38);(try simp only[go_sem,simprocAttr] at hl38);(try have hl154:=hd _ e154);(try simp only[go_sem,simprocAttr] at hl154);(try have hl161:=hd _ e161);(try simp only[go_sem,simprocAttr] at hl161);(try have hl174:=hd _ e174);(try simp only[go_sem,simprocAttr] at hl174))
 |(refine and_of' ?_ ?_;·first|assumption|omega)
 |(with_reducible first|refine CallX.c ?_ _|refine OK.c hr hw ?_ (fun y hr=>?_) _|refine OK.d hr hw ?_ (fun y hr=>?_) _)
 |(with_reducible refine loop_e (I:=I_page_span_l1 N _ _ _ _ _) hr 1000 N (fun ex hq hk=>⟨_,ex,hq,hk,?_⟩) ?_ _;rotate_left;clear hr;(try clear E);rintro n1 st ⟨v7,ex,hr,hk,⟨_,E⟩⟩<;>(obtain _|n1:=n1<;>rw[page_span_l1] at hr))
 |refine ⟨_,Nat.lt_succ_self _,_,_,hr,hk,?_⟩
 |(with_reducible refine loop_e (I:=I_slots_Refs_l1 N _) hr 1000 N (fun ex hq hk=>⟨_,_,ex,hq,hk,?_⟩) ?_ _;rotate_left;clear hr;(try clear E);rintro n1 st ⟨v2,v3,ex,hr,hk,(⟨_,E⟩|⟨E,z0⟩)⟩<;>(try subst z0)<;>(obtain _|n1:=n1<;>rw[slots_Refs_l1] at hr))
 |refine ⟨_,Nat.lt_succ_self _,_,_,_,hr,hk,?_⟩
 |(with_reducible refine loop_e (I:=I_slices_IndexFunc_uint64_uint64_Refers1_l1 N _ _) hr 1000 N (fun ex hq hk=>⟨_,ex,hq,hk,?_⟩) ?_ _;rotate_left;clear hr;(try clear E);rintro n1 st ⟨v1,ex,hr,hk,E⟩<;>(obtain _|n1:=n1<;>rw[slices_IndexFunc_uint64_uint64_Refers1_l1] at hr))
 |(with_reducible refine loop_e (I:=I_scope_Refs_l1 N _) hr 1000 N (fun ex hq hk=>⟨_,_,ex,hq,hk,?_⟩) ?_ _;rotate_left;clear hr;(try clear E);rintro n1 st ⟨v2,v3,ex,hr,hk,(⟨_,E⟩|⟨E,z0⟩)⟩<;>(try subst z0)<;>(obtain _|n1:=n1<;>rw[scope_Refs_l1] at hr))
 |refine db 210 3 hf 26 [(0,0,[]),(1,0,[]),(3,0,[]),(7,0,[]),(15,0,[]),(31,0,[]),(63,0,[]),(127,0,[]),(255,0,[]),(511,48,[]),(1023,48,[]),(2047,48,[]),(4095,48,[]),(511,47,[]),(511,31,[]),(32767,0,[]),(65535,0,[]),(131071,0,[])] rfl rfl (by kernel_rfl) ?_ _
 |(refine some_e hr ?_;rintro rfl;with_reducible refine ret_k ?_)
 |exact no_e hr
 |((first|refine bc_e (c:=true) hr rfl ?_|refine bc_e (c:=false) hr rfl ?_|refine bc_e hr (by assumption) ?_);intro hr)
 |(with_reducible refine kase hr ?_ ?_<;>intro hK hr<;>try simp only[hK])
 |fail)
@[reducible,instance] def page_span_i:=g13.1
@[reducible,instance] def slots_Refs_i:=g13.2.1
@[reducible,instance] def slices_IndexFunc_uint64_uint64_Refers1_i:=g13.2.2.1
@[reducible,instance] def scope_Refs_i:=g13.2.2.2
abbrev I_made_Play_l1:=fun N (a1:Int) (y1:TPair × TTape) (Q:Unit→Prop) n (st:St)=>∃ ex,made_Play_l1 N a1 y1 n=some ex∧Q ex∧((∃ w256 w384 w640,st.n=33∧st.t 1=.v (.int .i64 a1)∧st.t 4=.ept 256 w256 24 0 0∧st.t 5=.ept 640 w640 2 0 0∧st.t 6=.ept 384 w384 24 0 0∧st.t 7=.v (.int .i64 0)∧st.s 256=some (w256,.arr true 82 24 [[.v (.int .i64 0),.v (.int .i64 0),.nsl,.nsl,.v (.int .i64 0),.v (.int .i64 0),.nsl,.nsl,.nsl,.nsl,.nsl,.nsl,.nsl,.v (.int .i64 0),.v (.int .i64 0),.nsl,.nsl,.nsl,.nsl,.nsl,.nsl,.nsl,.nsl,.nsl]] 0)∧st.s 384=some (w384,.arr true 82 24 [e82 y1.1] 0)∧st.s 640=some (w640,.arr true 100 2 [e100 y1.2] 0)))
instance made_Play_i:∀ N (a0:List Int) (a1:Int),OK (made_Play N a0 a1) 17 [.isl 3 1 (a0.map e3),.v (.int .i64 a1)] [] (fun r=>.agg (e82 r)) fun r=>[]:=by
 refine fun N _ _=>rn Tryz.f17 [.cell 4 82] [] 33 (by kernel_rfl) ?_<;>(rintro _ hw r hr C _ rfl hwf hf;simp only[Tryz.f17,Option.get!];(rw[made_Play] at hr);repeat' first
 |(refine El.el hr ?_;intro hr)
 |(with_reducible intro h;refine bc_e hr h ?_;intro hr)
 |with_reducible intro _
 |(refine some_e hr ?_;rintro rfl;have hr:=hk;clear hk)
 |simp only[go_sem,simprocAttr,E]
 |(with_reducible first|apply guard_of_f|apply guard_of_t|apply cond_of|apply doT_of_t|apply doT_of_f)
 |(refine and_of' ?_ ?_;·first|assumption|omega)
 |(with_reducible first|refine CallX.c ?_ _|refine OK.c hr hw ?_ (fun y hr=>?_) _|refine OK.d hr hw ?_ (fun y hr=>?_) _)
 |(with_reducible refine loop_e (I:=I_made_Play_l1 N _ _) hr 1000 N (fun ex hq hk=>⟨ex,hq,hk,?_⟩) ?_ _;rotate_left;clear hr;(try clear E);rintro n1 st ⟨ex,hr,hk,⟨_,_,_,E⟩⟩<;>(obtain _|n1:=n1<;>rw[made_Play_l1] at hr))
 |refine ⟨_,Nat.lt_succ_self _,_,hr,hk,?_⟩
 |refine db 17 6 hf 24 [(0,14,[]),(0,5,[]),(0,3,[]),(6,1,[]),(15,0,[]),(31,0,[]),(63,192,[]),(63,160,[]),(63,96,[]),(127,192,[])] rfl rfl (by kernel_rfl) ?_ _
 |(refine some_e hr ?_;rintro rfl;with_reducible refine ret_k ?_)
 |exact no_e hr
 |((first|refine bc_e (c:=true) hr rfl ?_|refine bc_e (c:=false) hr rfl ?_|refine bc_e hr (by assumption) ?_);intro hr)
 |fail)
theorem g12:(∀ N (a0:TCode) (a1:List Int),OK (nmach_Start N a0 a1) 4 [.agg (e34 a0),.isl 38 1 (a1.map e38)] [] (fun r=>.tup [.agg (e29 r.1),.v (.int .i64 r.2)]) fun r=>[])∧(∀ N (a0:TCode) (a1:TFrame),OK (nmach_may N a0 a1) 21 [.agg (e34 a0),.agg (e29 a1)] [] (fun r=>.v (.bool r)) fun r=>[]):=by
 refine ⟨fun N _ _=>rn Tryz.f4 [.cell 4 29,.tmp 5] [] 31 (by kernel_rfl) ?_,fun N _ _=>rn Tryz.f21 [.tmp 4] [] 19 (by kernel_rfl) ?_⟩<;>(rintro _ hw r hr C _ rfl hwf hf;simp only[Tryz.f4,Tryz.f21,Option.get!];(first|rw[nmach_Start] at hr|rw[nmach_may] at hr);repeat' first
 |(refine El.el hr ?_;intro hr)
 |(with_reducible intro h;refine bc_e hr h ?_;intro hr)
 |with_reducible intro _
 |simp only[go_sem,simprocAttr,List.length_take,List.length_drop,Nat.min_self]
 |(with_reducible first|apply guard_of_f|apply guard_of_t|apply cond_of)
 |(refine and_of' ?_ ?_;·first|assumption|omega)
 |(with_reducible first|refine CallX.c ?_ _|refine OK.c hr hw ?_ (fun y hr=>?_) _)
 |(refine some_e hr ?_;rintro rfl;with_reducible refine ret_k ?_)
 |exact no_e hr
 |rw[List.take_of_length_le (by simp;omega)]
 |fail)
@[reducible,instance] def nmach_Start_i:=g12.1
@[reducible,instance] def nmach_may_i:=g12.2
end Go.Sx
