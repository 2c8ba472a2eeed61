import Derived.Test.YtgdhlnfcogcicaaGreatDoorRF
import Derived.Test.YtgdhlnfcogcicaaGreatDoorRG6
import Derived.Test.YtgdhlnfcogcicaaGreatDoorRG8
import Derived.Test.YtgdhlnfcogcicaaGreatDoorRG9
import Derived.Test.YtgdhlnfcogcicaaGreatDoorRG16
import Derived.Test.YtgdhlnfcogcicaaGreatDoorRG17
set_option linter.all false
namespace Go.Sx
open Go.Proofs
set_option maxRecDepth 10000
set_option maxHeartbeats 100000000
theorem g42:(∀ N (a0:TWorld) (a2:Int) (a3:Int) (a4:Int) (a5:TFact),OK (QdR N a0 a2 a3 a4 a5) 11 [.agg (e61 a0),.v (.int .i64 3),.v (.int .u64 a2),.v (.int .u64 a3),.v (.int .u64 a4),.agg (e66 a5)] [] (fun r=>.tup [.agg (e61 r.1),.v (.int .u64 r.2.1),.v (.int .i64 r.2.2)]) fun r=>[])∧(∀ N (a0:TWorld) (a2:Int) (a3:Int) (a4:Int) (a5:TFact),OK (Qc3 N a0 a2 a3 a4 a5) 11 [.agg (e61 a0),.v (.int .i64 10),.v (.int .u64 a2),.v (.int .u64 a3),.v (.int .u64 a4),.agg (e66 a5)] [] (fun r=>.tup [.agg (e61 r.1),.v (.int .u64 r.2.1),.v (.int .i64 r.2.2)]) fun r=>[])∧(∀ N (a0:TWorld) (a2:Int) (a3:Int) (a4:Int) (a5:TFact),OK (Qc8 N a0 a2 a3 a4 a5) 11 [.agg (e61 a0),.v (.int .i64 15),.v (.int .u64 a2),.v (.int .u64 a3),.v (.int .u64 a4),.agg (e66 a5)] [] (fun r=>.tup [.agg (e61 r.1),.v (.int .u64 r.2.1),.v (.int .i64 r.2.2)]) fun r=>[]):=by
 refine ⟨fun N _ _ _ _ _=>rn Tryz.f11 [.cell 12 61,.tmp 13,.tmp 14] [] 57 (by kernel_rfl) ?_,fun N _ _ _ _ _=>rn Tryz.f11 [.cell 12 61,.tmp 13,.tmp 14] [] 57 (by kernel_rfl) ?_,fun N _ _ _ _ _=>rn Tryz.f11 [.cell 12 61,.tmp 13,.tmp 14] [] 57 (by kernel_rfl) ?_⟩<;>(rintro _ hw r hr C _ rfl hwf hf;simp only[Tryz.f11,Tryz.f11,Tryz.f11,Option.get!];(first|rw[QdR] at hr|rw[Qc3] at hr|rw[Qc8] at hr);repeat' first
 |(refine El.el hr ?_;intro hr)
 |(with_reducible intro h;refine bc_e hr h ?_;intro hr)
 |with_reducible intro _
 |simp only[go_sem,simprocAttr,hl37,hl77]
 |(with_reducible first|apply guard_of_f|apply guard_of_t|apply cond_of|apply doT_of_t|apply doT_of_f)
 |((first|with_reducible refine idx_s hr (by assumption) ?_ ?_|(with_reducible refine idx_e hr ?_ ?_;rotate_left;intro p;rotate_right));(·simp only[go_sem,simprocAttr]);intro hp hn hd hr;(try have hl37:=hd _ e37);(try simp only[go_sem,simprocAttr] at hl37);(try have hl77:=hd _ e77);(try simp only[go_sem,simprocAttr] at hl77))
 |(refine and_of' ?_ ?_;·first|assumption|omega)
 |(refine CallX.inl (f:=42) 400 (fn:=Tryz.f42) (rs:=[.tmp 14,.tmp 15]) (nt:=221) 1000 (by kernel_rfl) (fun x=>?_) _;simp only[Tryz.f42,Option.get!])
 |(refine CallX.inl (f:=86) 800 (fn:=Tryz.f86) (rs:=[.tmp 6,.tmp 7]) (nt:=49) 1000 (by kernel_rfl) (fun x=>?_) _;simp only[Tryz.f86,Option.get!])
 |(refine CallX.inl (f:=87) 1200 (fn:=Tryz.f87) (rs:=[.tmp 4,.tmp 5]) (nt:=36) 1000 (by kernel_rfl) (fun x=>?_) _;simp only[Tryz.f87,Option.get!])
 |(refine CallX.inl (f:=88) 2800 (fn:=Tryz.f88) (rs:=[.tmp 6,.tmp 7]) (nt:=35) 1000 (by kernel_rfl) (fun x=>?_) _;simp only[Tryz.f88,Option.get!])
 |with_reducible refine CallX.c ?_ _
 |with_reducible refine OK.c hr hw ?_ (fun y hr=>?_) _
 |with_reducible refine OK.d hr hw ?_ (fun y hr=>?_) _
 |refine db 42 22 ⟨⟩ [([],[],[102,105,106,107,108,109,110,111,112],[]),([0],[],[102,105,106,107,108,109,110,111,112],[]),([],[],[102,103,104,106,107,108,109,110,111,112],[]),([],[],[103,104,105,109],[]),([3],[],[103,104,105,109],[]),([3,4],[],[103,104,105,109],[]),([],[],[103,104,105,106,107,108],[]),([3,4,5,6],[],[103,104,105],[]),([3,4,5,6,7],[],[103,104,105],[]),([3,4,5,6,7,8],[],[103,104,105,112],[]),([3,4,5,6,7,8],[],[103,104,105,111,113],[]),([0,1,2,3,4,5,6,7,8,9],[],[112],[]),([0,1,2,3,4,5,6,7,8,9,11],[],[112],[]),([0,1,2,3,4,5,6,7,8,9,10,11,12],[],[],[])] rfl rfl (by kernel_rfl) ?_ _
 |refine db 86 6 ⟨⟩ [([],[],[26,27,28,29,30,31,32,33,34,35,36],[2560,53312,53440]),([],[],[25,30,31,32,33,34,35],[53312,53440]),([1],[],[25,30,31,32,33,34,35],[53312,53440]),([1,2],[],[25,30,31,32,33,34,35],[53312,53440]),([1,2,3],[],[25,30,31,32,33,34,35],[53312,53440]),([],[],[25,26,27,28,29,31,32,33],[53312]),([],[],[25,26,27,28,29,30],[]),([6],[],[25,26,27,28,29,30],[]),([6,7],[53312],[25,26,27,28,29,30],[]),([5,6,7,8],[],[25,26,27,28,29],[]),([5,6,7,8,9],[53312,53440],[25,26,27,28,29],[]),([1,2,3,4,5,6,7,8,9,10],[2560],[25],[]),([0,1,2,3,4,5,6,7,8,9,10,11],[],[],[]),([0,1,2,3,4,5,6,7,8,9,10,11,12],[],[],[]),([0,1,2,3,4,5,6,7,8,9,10,11,12,13],[1152],[],[])] rfl rfl (by kernel_rfl) ?_ _
 |(refine some_e hr ?_;rintro rfl;with_reducible refine ret_k ?_)
 |exact no_e hr
 |fail)
@[reducible,instance] def Qk5:=g42.1
@[reducible,instance] def QkD:=g42.2.1
@[reducible,instance] def QkE:=g42.2.2
end Go.Sx
