import Derived.Test.YtgdnaekdnmegbaaGreatDoorF
import Derived.Test.YtgdnaekdnmegbaaGreatDoorG0
import Derived.Test.YtgdnaekdnmegbaaGreatDoorG1
import Derived.Test.YtgdnaekdnmegbaaGreatDoorG2
set_option linter.all false
namespace Go.Sx
open Go.Proofs
set_option maxRecDepth 10000
set_option maxHeartbeats 100000000
abbrev I_ref14_Valid_l1:=fun N (a0:TLocals) (Q:(Ex Bool Unit)→Prop) n (st:St)=>∃ (v1:Int) (ex:_),ref14_Valid_l1 N a0 n v1=some ex∧Q ex∧((∃ w64,st.n=174∧st.t 1=.ept 64 w64 3 0 0∧st.t 3=.v (.int .i64 v1)∧st.s 64=some (w64,.arr true 29 3 [[.isl 179 3 (a0.Slots.map e179),.isl 134 3 (a0.Scopes.map e134),.isl 3 1 (a0.Issued.map e3)]] 0)))
abbrev I_ref14_Valid_l2:=fun N (a0:TLocals) (Q:(Ex Bool Unit)→Prop) n (st:St)=>∃ (v5:Int) (v6:Int) (ex:_),ref14_Valid_l2 N a0 n v5 v6=some ex∧Q ex∧((∃ w64,st.n=174∧st.t 1=.ept 64 w64 3 0 0∧st.t 4=.v (.int .i64 v5)∧st.t 5=.v (.int .i64 v6)∧st.s 64=some (w64,.arr true 29 3 [[.isl 179 3 (a0.Slots.map e179),.isl 134 3 (a0.Scopes.map e134),.isl 3 1 (a0.Issued.map e3)]] 0)))
abbrev I_ref14_Valid_l3:=fun N (a0:TLocals) (Q:(Ex Bool Unit)→Prop) n (st:St)=>∃ (v10:Int) (v11:Int) (ex:_),ref14_Valid_l3 N a0 n v10 v11=some ex∧Q ex∧((∃ w64,st.n=174∧st.t 1=.ept 64 w64 3 0 0∧st.t 7=.v (.int .i64 v10)∧st.t 8=.v (.int .i64 v11)∧st.s 64=some (w64,.arr true 29 3 [[.isl 179 3 (a0.Slots.map e179),.isl 134 3 (a0.Scopes.map e134),.isl 3 1 (a0.Issued.map e3)]] 0)))
abbrev I_ref14_Valid_l4:=fun N (a0:TLocals) (Q:(Ex Bool Unit)→Prop) n (st:St)=>∃ (v14:Int) (ex:_),ref14_Valid_l4 N a0 n v14=some ex∧Q ex∧((∃ w64,st.n=174∧st.t 1=.ept 64 w64 3 0 0∧st.t 10=.v (.int .i64 v14)∧st.s 64=some (w64,.arr true 29 3 [[.isl 179 3 (a0.Slots.map e179),.isl 134 3 (a0.Scopes.map e134),.isl 3 1 (a0.Issued.map e3)]] 0)))
abbrev I_ref04_First_l1:=fun N (a1:Int) (y1:List TRun) (Q:(Ex Int Unit)→Prop) n (st:St)=>∃ (v2:Int) (ex:_),ref04_First_l1 N a1 y1 n v2=some ex∧Q ex∧((st.n=31∧st.t 1=.v (.int .i64 a1)∧st.t 5=.isl 316 2 (y1.map e316)∧st.t 6=.v (.int .i64 v2)))
abbrev I_scope_frames_live_l1:=fun N (y1:List TSlot) (Q:Int→Prop) n (st:St)=>∃ (v2:Int) (v3:Int) (ex:_),scope_frames_live_l1 N y1 n v2 v3=some ex∧Q ex∧((st.n=22∧st.t 5=.v (.int .i64 v2)∧st.t 10=.isl 179 3 (y1.map e179)∧st.t 11=.v (.int .i64 ((y1.length:Nat):Int))∧st.t 12=.v (.int .i64 v3)))
abbrev I_slices_IndexFunc_api_Entry_api_Entry_Valid1_l1:=fun N (a0:List TEntry) (Q:(Ex Int Unit)→Prop) n (st:St)=>∃ (v1:Int) (ex:_),slices_IndexFunc_api_Entry_api_Entry_Valid1_l1 N a0 n v1=some ex∧Q ex∧((st.n=19∧st.t 0=.isl 148 3 (a0.map e148)∧st.t 1=.clo (.func 108) [] []∧st.t 7=.v (.int .i64 ((a0.length:Nat):Int))∧st.t 8=.v (.int .i64 v1)))
abbrev I_slices_Concat_uint64_uint64_l1:=fun N (a0:List (List Int)) (Q:Int→Prop) n (st:St)=>∃ (v1:Int) (v2:Int) (ex:_),slices_Concat_uint64_uint64_l1 N a0 n v1 v2=some ex∧Q ex∧((st.n=36∧st.t 0=.isl 34 1 (a0.map e34)∧st.t 3=.v (.int .i64 v1)∧st.t 9=.isl 34 1 (a0.map e34)∧st.t 10=.v (.int .i64 ((a0.length:Nat):Int))∧st.t 11=.v (.int .i64 v2)))
abbrev I_slices_Concat_uint64_uint64_l2:=fun N (a0:List (List Int)) (Q:(List Int)→Prop) n (st:St)=>∃ (v6:Int) (v7:List Int) (ex:_),slices_Concat_uint64_uint64_l2 N a0 n v6 v7=some ex∧Q ex∧((∃ w1536,st.n=36∧st.s 1536=some (w1536,.arr false 37 1 (v7.map e37) 0)∧st.t 6=.osl 1536 w1536 1 0 v7.length∧st.t 25=.isl 34 1 (a0.map e34)∧st.t 26=.v (.int .i64 ((a0.length:Nat):Int))∧st.t 27=.v (.int .i64 v6)))
abbrev I_bits_Unpack_l1:=fun N (a0:Int) (a1:List Int) (Q:(Ex (List Int × Int) Unit)→Prop) n (st:St)=>∃ (v1:Int) (v2:Int) (ex:_),bits_Unpack_l1 N a0 a1 n v1 v2=some ex∧Q ex∧((st.n=49∧st.t 0=.v (.int .u64 a0)∧st.t 1=.isl 3 1 (a1.map e3)∧st.t 6=.v (.int .i64 v1)∧st.t 12=.isl 3 1 (a1.map e3)∧st.t 13=.v (.int .i64 ((a1.length:Nat):Int))∧st.t 14=.v (.int .i64 v2)))
abbrev I_bits_Unpack_l2:=fun N (a1:List Int) (Q:(Int × List Int)→Prop) n (st:St)=>∃ (v5:Int) (v6:Int) (v7:List Int) (ex:_),bits_Unpack_l2 N a1 n v5 v6 v7=some ex∧Q ex∧((∃ w2624,st.n=49∧st.s 2624=some (w2624,.arr false 37 1 (v7.map e37) 0)∧st.t 0=.v (.int .u64 v5)∧st.t 9=.osl 2624 w2624 1 0 v7.length∧st.t 29=.isl 3 1 (a1.map e3)∧st.t 30=.v (.int .i64 ((a1.length:Nat):Int))∧st.t 31=.v (.int .i64 v6))∨((st.n=49∧st.t 0=.v (.int .u64 v5)∧st.t 9=.nsl∧st.t 29=.isl 3 1 (a1.map e3)∧st.t 30=.v (.int .i64 ((a1.length:Nat):Int))∧st.t 31=.v (.int .i64 v6))∧v7=[]))
theorem g11:(∀ N (a0:TLocals),OK (ref14_Valid N a0) 48 [.agg (e29 a0)] [] (fun r=>.v (.bool r)) fun r=>[])∧(∀ N (a0:List TPage) (a1:Int),OK (ref04_First N a0 a1) 239 [.isl 260 4 (a0.map e260),.v (.int .i64 a1)] [] (fun r=>.v (.int .i64 r)) fun r=>[])∧(∀ N (a0:Tframes) (a1:Int),OK (scope_frames_live N a0 a1) 106 [.agg (e167 a0),.v (.int .i64 a1)] [] (fun r=>.v (.int .i64 r)) fun r=>[])∧(∀ N (a0:List TEntry),OK (slices_IndexFunc_api_Entry_api_Entry_Valid1 N a0) 156 [.isl 148 3 (a0.map e148),.clo (.func 108) [] []] [] (fun r=>.v (.int .i64 r)) fun r=>[])∧(∀ N (a0:List (List Int)),OK (slices_Concat_uint64_uint64 N a0) 44 [.isl 34 1 (a0.map e34)] [] (fun r=>.isl 37 1 (r.map e37)) fun r=>[])∧(∀ N (a0:Int) (a1:List Int),OK (bits_Unpack N a0 a1) 160 [.v (.int .u64 a0),.isl 3 1 (a1.map e3)] [] (fun r=>.tup [.isl 37 1 (r.1.map e37),.v (.int .i64 r.2)]) fun r=>[]):=by
 refine ⟨fun N _=>rn Tryz.f48 [.tmp 2] [] 174 (by kernel_rfl) ?_,fun N _ _=>rn Tryz.f239 [.tmp 4] [] 31 (by kernel_rfl) ?_,fun N _ _=>rn Tryz.f106 [.tmp 4] [] 22 (by kernel_rfl) ?_,fun N _=>rn Tryz.f156 [.tmp 4] [] 19 (by kernel_rfl) ?_,fun N _=>rn Tryz.f44 [.tmp 2] [] 36 (by kernel_rfl) ?_,fun N _ _=>rn Tryz.f160 [.tmp 4,.tmp 5] [] 49 (by kernel_rfl) ?_⟩<;>(rintro _ hw r hr C rfl hwf hf;simp only[Tryz.f48,Tryz.f239,Tryz.f106,Tryz.f156,Tryz.f44,Tryz.f160,Option.get!];(first|rw[ref14_Valid] at hr|rw[ref04_First] at hr|rw[scope_frames_live] at hr|rw[slices_IndexFunc_api_Entry_api_Entry_Valid1] at hr|rw[slices_Concat_uint64_uint64] at hr|rw[bits_Unpack] at hr);repeat' first
 |(refine El.el hr ?_;intro hr)
 |(with_reducible intro h;refine bc_e hr h ?_;intro hr)
 |with_reducible intro _
 |(refine some_e hr ?_;rintro rfl;have hr:=hk;clear hk)
 |simp only[go_sem,simprocAttr,E,hl3,hl34,hl134,hl148,hl179,hl316]
 |(with_reducible first|apply guard_of_f|apply guard_of_t|apply cond_of|apply doT_of_t|apply doT_of_f)
 |((first|with_reducible refine idx_s hr (by assumption) ?_ ?_|(with_reducible refine idx_e hr ?_ ?_;rotate_left;intro p;rotate_right));(·simp only[go_sem,simprocAttr]);intro hp hn hd hr;(try have hl3:=hd _ e3);(try simp only[go_sem,simprocAttr] at hl3);(try have hl34:=hd _ e34);(try simp only[go_sem,simprocAttr] at hl34);(try have hl134:=hd _ e134);(try simp only[go_sem,simprocAttr] at hl134);(try have hl148:=hd _ e148);(try simp only[go_sem,simprocAttr] at hl148);(try have hl179:=hd _ e179);(try simp only[go_sem,simprocAttr] at hl179);(try have hl316:=hd _ e316);(try simp only[go_sem,simprocAttr] at hl316))
 |(refine and_of' ?_ ?_;·first|assumption|omega)
 |with_reducible refine OK.c hr hw ?_ (fun y hr=>?_) _
 |with_reducible refine OK.d hr hw ?_ (fun y hr=>?_) _
 |(with_reducible refine loop_e (I:=I_ref14_Valid_l1 N _) hr 1000 N (fun ex hq hk=>⟨_,ex,hq,hk,?_⟩) ?_ _;rotate_left;clear hr;(try clear E);rintro n1 st ⟨v1,ex,hr,hk,⟨_,E⟩⟩<;>(obtain _|n1:=n1<;>rw[ref14_Valid_l1] at hr))
 |refine ⟨_,Nat.lt_succ_self _,_,_,hr,hk,?_⟩
 |(with_reducible refine loop_e (I:=I_ref14_Valid_l2 N _) hr 1000 N (fun ex hq hk=>⟨_,_,ex,hq,hk,?_⟩) ?_ _;rotate_left;clear hr;(try clear E);rintro n2 st ⟨v5,v6,ex,hr,hk,⟨_,E⟩⟩<;>(obtain _|n2:=n2<;>rw[ref14_Valid_l2] at hr))
 |refine ⟨_,Nat.lt_succ_self _,_,_,_,hr,hk,?_⟩
 |(with_reducible refine loop_e (I:=I_ref14_Valid_l3 N _) hr 1000 N (fun ex hq hk=>⟨_,_,ex,hq,hk,?_⟩) ?_ _;rotate_left;clear hr;(try clear E);rintro n3 st ⟨v10,v11,ex,hr,hk,⟨_,E⟩⟩<;>(obtain _|n3:=n3<;>rw[ref14_Valid_l3] at hr))
 |(with_reducible refine loop_e (I:=I_ref14_Valid_l4 N _) hr 1000 N (fun ex hq hk=>⟨_,ex,hq,hk,?_⟩) ?_ _;rotate_left;clear hr;(try clear E);rintro n4 st ⟨v14,ex,hr,hk,⟨_,E⟩⟩<;>(obtain _|n4:=n4<;>rw[ref14_Valid_l4] at hr))
 |(with_reducible refine loop_e (I:=I_ref04_First_l1 N _ _) hr 1000 N (fun ex hq hk=>⟨_,ex,hq,hk,?_⟩) ?_ _;rotate_left;clear hr;(try clear E);rintro n1 st ⟨v2,ex,hr,hk,E⟩<;>(obtain _|n1:=n1<;>rw[ref04_First_l1] at hr))
 |(with_reducible refine loop_e (I:=I_scope_frames_live_l1 N _) hr 1000 N (fun ex hq hk=>⟨_,_,ex,hq,hk,?_⟩) ?_ _;rotate_left;clear hr;(try clear E);rintro n1 st ⟨v2,v3,ex,hr,hk,E⟩<;>(obtain _|n1:=n1<;>rw[scope_frames_live_l1] at hr))
 |(with_reducible refine loop_e (I:=I_slices_IndexFunc_api_Entry_api_Entry_Valid1_l1 N _) hr 1000 N (fun ex hq hk=>⟨_,ex,hq,hk,?_⟩) ?_ _;rotate_left;clear hr;(try clear E);rintro n1 st ⟨v1,ex,hr,hk,E⟩<;>(obtain _|n1:=n1<;>rw[slices_IndexFunc_api_Entry_api_Entry_Valid1_l1] at hr))
 |(with_reducible refine loop_e (I:=I_slices_Concat_uint64_uint64_l1 N _) hr 1000 N (fun ex hq hk=>⟨_,_,ex,hq,hk,?_⟩) ?_ _;rotate_left;clear hr;(try clear E);rintro n1 st ⟨v1,v2,ex,hr,hk,E⟩<;>(obtain _|n1:=n1<;>rw[slices_Concat_uint64_uint64_l1] at hr))
 |(with_reducible refine loop_e (I:=I_slices_Concat_uint64_uint64_l2 N _) hr 1000 N (fun ex hq hk=>⟨_,_,ex,hq,hk,?_⟩) ?_ _;rotate_left;clear hr;(try clear E);rintro n2 st ⟨v6,v7,ex,hr,hk,⟨_,E⟩⟩<;>(obtain _|n2:=n2<;>rw[slices_Concat_uint64_uint64_l2] at hr))
 |(with_reducible refine loop_e (I:=I_bits_Unpack_l1 N _ _) hr 1000 N (fun ex hq hk=>⟨_,_,ex,hq,hk,?_⟩) ?_ _;rotate_left;clear hr;(try clear E);rintro n1 st ⟨v1,v2,ex,hr,hk,E⟩<;>(obtain _|n1:=n1<;>rw[bits_Unpack_l1] at hr))
 |(with_reducible refine loop_e (I:=I_bits_Unpack_l2 N _) hr 1000 N (fun ex hq hk=>⟨_,_,_,ex,hq,hk,?_⟩) ?_ _;rotate_left;clear hr;(try clear E);rintro n2 st ⟨v5,v6,v7,ex,hr,hk,(⟨_,E⟩|⟨E,z0⟩)⟩<;>(try subst z0)<;>(obtain _|n2:=n2<;>rw[bits_Unpack_l2] at hr))
 |refine ⟨_,Nat.lt_succ_self _,_,_,_,_,hr,hk,?_⟩
 |refine db 48 27 hf [([],[],[157,158,159,160,161,162,163,164,165,167,168,169,170,171,172],[]),([],[],[156,159,163,164,165,167,168,169,170,171,172],[]),([1],[],[156,159,163,164,165,167,168,169,170,171,172],[]),([],[],[156,157,158,163,164,165,167,168,169,170,171,172],[]),([1,2,3],[],[156,163,164,165,167,168,169,170,171,172],[]),([1,2,3,4],[],[156,163,164,165,167,168,169,170,171,172],[]),([1,2,3,4,5],[],[156,163,164,165,167,168,169,170,171,172],[]),([],[],[156,157,158,159,160,161,162,164,167,168,169,170,171,172],[]),([],[],[156,157,158,159,160,161,162,163,167,168,169,170,171,172],[]),([7,8],[],[156,157,158,159,160,161,162,167,168,169,170,171,172],[]),([0,1,2,3,4,5,6,7,8,9],[],[167,168,169,170,171,172],[]),([],[],[156,157,158,159,160,161,162,163,164,165,166,169],[]),([11],[],[156,157,158,159,160,161,162,163,164,165,166,169],[]),([],[],[156,157,158,159,160,161,162,163,164,165,166,167,168],[]),([11,12,13],[],[156,157,158,159,160,161,162,163,164,165,166],[]),([11,12,13,14],[],[156,157,158,159,160,161,162,163,164,165,166],[]),([11,12,13,14,15],[],[156,157,158,159,160,161,162,163,164,165,166],[]),([0,1,2,3,4,5,6,7,8,9,10,11,12,13,14,15,16],[],[],[])] rfl rfl (by kernel_rfl) ?_ _
 |(refine some_e hr ?_;rintro rfl;with_reducible refine ret_k ?_)
 |exact no_e hr
 |((first|refine bc_e (c:=true) hr rfl ?_|refine bc_e (c:=false) hr rfl ?_|refine bc_e hr (by assumption) ?_);intro hr)
 |fail)
@[reducible,instance] def ref14_Valid_i:=g11.1
@[reducible,instance] def ref04_First_i:=g11.2.1
@[reducible,instance] def scope_frames_live_i:=g11.2.2.1
@[reducible,instance] def slices_IndexFunc_api_Entry_api_Entry_Valid1_i:=g11.2.2.2.1
@[reducible,instance] def slices_Concat_uint64_uint64_i:=g11.2.2.2.2.1
@[reducible,instance] def bits_Unpack_i:=g11.2.2.2.2.2
end Go.Sx
