import Derived.Test.YtgdhlnfcogcicaaGreatDoorRF
import Derived.Test.YtgdhlnfcogcicaaGreatDoorRG3
import Derived.Test.YtgdhlnfcogcicaaGreatDoorRG6
import Derived.Test.YtgdhlnfcogcicaaGreatDoorRG8
import Derived.Test.YtgdhlnfcogcicaaGreatDoorRG9
import Derived.Test.YtgdhlnfcogcicaaGreatDoorRG11
import Derived.Test.YtgdhlnfcogcicaaGreatDoorRG16
import Derived.Test.YtgdhlnfcogcicaaGreatDoorRG17
set_option linter.all false
namespace Go.Sx
open Go.Proofs
set_option maxRecDepth 10000
set_option maxHeartbeats 100000000
theorem g41:(∀ N (a0:TWorld) (a2:Int) (a3:Int) (a4:Int) (a5:TFact),OK (QdQ N a0 a2 a3 a4 a5) 11 [.agg (e61 a0),.v (.int .i64 2),.v (.int .u64 a2),.v (.int .u64 a3),.v (.int .u64 a4),.agg (e66 a5)] [] (fun r=>.tup [.agg (e61 r.1),.v (.int .u64 r.2.1),.v (.int .i64 r.2.2)]) fun r=>[])∧(∀ N (a0:TWorld) (a2:Int) (a3:Int) (a4:Int) (a5:TFact),OK (QdW N a0 a2 a3 a4 a5) 11 [.agg (e61 a0),.v (.int .i64 8),.v (.int .u64 a2),.v (.int .u64 a3),.v (.int .u64 a4),.agg (e66 a5)] [] (fun r=>.tup [.agg (e61 r.1),.v (.int .u64 r.2.1),.v (.int .i64 r.2.2)]) fun r=>[])∧(∀ N (a0:TWorld) (a2:Int) (a3:Int) (a4:Int) (a5:TFact),OK (Qc7 N a0 a2 a3 a4 a5) 11 [.agg (e61 a0),.v (.int .i64 14),.v (.int .u64 a2),.v (.int .u64 a3),.v (.int .u64 a4),.agg (e66 a5)] [] (fun r=>.tup [.agg (e61 r.1),.v (.int .u64 r.2.1),.v (.int .i64 r.2.2)]) fun r=>[])∧(∀ N (a0:TWorld) (a2:Int) (a3:Int) (a4:Int) (a5:TFact),OK (Qdc N a0 a2 a3 a4 a5) 11 [.agg (e61 a0),.v (.int .i64 19),.v (.int .u64 a2),.v (.int .u64 a3),.v (.int .u64 a4),.agg (e66 a5)] [] (fun r=>.tup [.agg (e61 r.1),.v (.int .u64 r.2.1),.v (.int .i64 r.2.2)]) fun r=>[]):=by
 refine ⟨fun N _ _ _ _ _=>rn Tryz.f11 [.cell 12 61,.tmp 13,.tmp 14] [] 57 (by kernel_rfl) ?_,fun N _ _ _ _ _=>rn Tryz.f11 [.cell 12 61,.tmp 13,.tmp 14] [] 57 (by kernel_rfl) ?_,fun N _ _ _ _ _=>rn Tryz.f11 [.cell 12 61,.tmp 13,.tmp 14] [] 57 (by kernel_rfl) ?_,fun N _ _ _ _ _=>rn Tryz.f11 [.cell 12 61,.tmp 13,.tmp 14] [] 57 (by kernel_rfl) ?_⟩<;>(rintro _ hw r hr C _ rfl hwf hf;simp only[Tryz.f11,Tryz.f11,Tryz.f11,Tryz.f11,Option.get!];(first|rw[QdQ] at hr|rw[QdW] at hr|rw[Qc7] at hr|rw[Qdc] at hr);repeat' first
 |(refine El.el hr ?_;intro hr)
 |(with_reducible intro h;refine bc_e hr h ?_;intro hr)
 |with_reducible intro _
 |simp only[go_sem,simprocAttr,hx37,hx77,hx116,List.set_set,hl37,hl77,hl116]
 |(with_reducible first|apply guard_of_f|apply guard_of_t|apply cond_of|apply doT_of_t|apply doT_of_f)
 |(with_reducible refine idx_x hr ?_ ?_;(·first|(simp only[go_sem,simprocAttr];done)|(simp only[List.length_append,List.length_cons,List.length_nil,List.length_set]<;>omega));intro p hp hn hd hx hr;(try have hl37:=hd _ e37);(try simp only[go_sem,simprocAttr] at hl37);(try have hl77:=hd _ e77);(try simp only[go_sem,simprocAttr] at hl77);(try have hl116:=hd _ e116);(try simp only[go_sem,simprocAttr] at hl116);(try have hx37:=hx _ e37);(try simp only[go_sem,simprocAttr] at hx37);(try have hx77:=hx _ e77);(try simp only[go_sem,simprocAttr] at hx77);(try have hx116:=hx _ e116);(try simp only[go_sem,simprocAttr] at hx116);(try simp only[List.length_append,List.length_cons,List.length_nil,List.length_set] at hn))
 |(refine and_of' ?_ ?_;·first|assumption|omega)
 |(refine CallX.inl (f:=42) 400 (fn:=Tryz.f42) (rs:=[.tmp 14,.tmp 15]) (nt:=221) 1000 (by kernel_rfl) (fun x=>?_) _;simp only[Tryz.f42,Option.get!])
 |(refine CallX.inl (f:=86) 800 (fn:=Tryz.f86) (rs:=[.tmp 6,.tmp 7]) (nt:=49) 1000 (by kernel_rfl) (fun x=>?_) _;simp only[Tryz.f86,Option.get!])
 |(refine CallX.inl (f:=87) 1200 (fn:=Tryz.f87) (rs:=[.tmp 4,.tmp 5]) (nt:=36) 1000 (by kernel_rfl) (fun x=>?_) _;simp only[Tryz.f87,Option.get!])
 |(refine CallX.inl (f:=89) 2400 (fn:=Tryz.f89) (rs:=[.tmp 4,.tmp 5]) (nt:=71) 1000 (by kernel_rfl) (fun x=>?_) _;simp only[Tryz.f89,Option.get!])
 |(refine CallX.inl (f:=92) 1600 (fn:=Tryz.f92) (rs:=[.tmp 6]) (nt:=39) 1000 (by kernel_rfl) (fun x=>?_) _;simp only[Tryz.f92,Option.get!])
 |with_reducible refine CallX.c ?_ _
 |with_reducible refine OK.c hr hw ?_ (fun y hr=>?_) _
 |with_reducible refine OK.d hr hw ?_ (fun y hr=>?_) _
 |refine db 42 22 ⟨⟩ [([],[],[102,105,106,107,108,109,110,111,112],[]),([0],[],[102,105,106,107,108,109,110,111,112],[]),([],[],[102,103,104,106,107,108,109,110,111,112],[]),([],[],[103,104,105,109],[]),([3],[],[103,104,105,109],[]),([3,4],[],[103,104,105,109],[]),([],[],[103,104,105,106,107,108],[]),([3,4,5,6],[],[103,104,105],[]),([3,4,5,6,7],[],[103,104,105],[]),([3,4,5,6,7,8],[],[103,104,105,112],[]),([3,4,5,6,7,8],[],[103,104,105,111,113],[]),([0,1,2,3,4,5,6,7,8,9],[],[112],[]),([0,1,2,3,4,5,6,7,8,9,11],[],[112],[]),([0,1,2,3,4,5,6,7,8,9,10,11,12],[],[],[])] rfl rfl (by kernel_rfl) ?_ _
 |refine db 86 6 ⟨⟩ [([],[],[26,27,28,29,30,31,32,33,34,35,36],[2560,53312,53440]),([],[],[25,30,31,32,33,34,35],[53312,53440]),([1],[],[25,30,31,32,33,34,35],[53312,53440]),([1,2],[],[25,30,31,32,33,34,35],[53312,53440]),([1,2,3],[],[25,30,31,32,33,34,35],[53312,53440]),([],[],[25,26,27,28,29,31,32,33],[53312]),([],[],[25,26,27,28,29,30],[]),([6],[],[25,26,27,28,29,30],[]),([6,7],[53312],[25,26,27,28,29,30],[]),([5,6,7,8],[],[25,26,27,28,29],[]),([5,6,7,8,9],[53312,53440],[25,26,27,28,29],[]),([1,2,3,4,5,6,7,8,9,10],[2560],[25],[]),([0,1,2,3,4,5,6,7,8,9,10,11],[],[],[]),([0,1,2,3,4,5,6,7,8,9,10,11,12],[],[],[]),([0,1,2,3,4,5,6,7,8,9,10,11,12,13],[1152],[],[])] rfl rfl (by kernel_rfl) ?_ _
 |refine db 89 6 ⟨⟩ [([],[],[36,38,39,40,41,42,43,44,45,46,47,48],[]),([],[],[37,42,43,44,45],[]),([1],[],[37,42,43,44,45],[]),([1,2],[],[37,42,43,44,45],[]),([1,2,3],[],[37,42,43,44,45],[]),([],[],[37,38,39,40,41,44,45],[]),([5],[],[37,38,39,40,41,44,45],[]),([],[],[37,38,39,40,41,42,43],[]),([7],[],[37,38,39,40,41,42,43],[]),([1,2,3,4,5,6,7,8],[],[37],[]),([1,2,3,4,5,6,7,8,9],[],[37],[]),([1,2,3,4,5,6,7,8,9,10],[],[37,48],[]),([1,2,3,4,5,6,7,8,9,10],[],[37,47,49,50],[1152]),([0,1,2,3,4,5,6,7,8,9,10,11],[],[48],[]),([0,1,2,3,4,5,6,7,8,9,10,11,13],[],[48],[]),([0,1,2,3,4,5,6,7,8,9,10,11,13,14],[1152],[48],[]),([0,1,2,3,4,5,6,7,8,9,10,11,12,13,14,15],[],[],[])] rfl rfl (by kernel_rfl) ?_ _
 |refine db 89 8 ⟨⟩ [([],[],[55,57,58,59,60,61,62,63,64,65,66,67],[]),([],[],[56,61,62,63,64],[]),([1],[],[56,61,62,63,64],[]),([1,2],[],[56,61,62,63,64],[]),([1,2,3],[],[56,61,62,63,64],[]),([],[],[56,57,58,59,60,63,64],[]),([5],[],[56,57,58,59,60,63,64],[]),([],[],[56,57,58,59,60,61,62],[]),([7],[],[56,57,58,59,60,61,62],[]),([1,2,3,4,5,6,7,8],[],[56],[]),([1,2,3,4,5,6,7,8,9],[],[56],[]),([1,2,3,4,5,6,7,8,9,10],[],[56,67],[]),([1,2,3,4,5,6,7,8,9,10],[],[56,66,68,69],[1152]),([0,1,2,3,4,5,6,7,8,9,10,11],[],[67],[]),([0,1,2,3,4,5,6,7,8,9,10,11,13],[],[67],[]),([0,1,2,3,4,5,6,7,8,9,10,11,13,14],[1152],[67],[]),([0,1,2,3,4,5,6,7,8,9,10,11,12,13,14,15],[],[],[])] rfl rfl (by kernel_rfl) ?_ _
 |refine db 89 2 ⟨⟩ [([],[],[13,15,16,17,18,19,20,21,22,23,24,25],[]),([],[],[14,19,20,21,22],[]),([1],[],[14,19,20,21,22],[]),([1,2],[],[14,19,20,21,22],[]),([1,2,3],[],[14,19,20,21,22],[]),([],[],[14,15,16,17,18,21,22],[]),([5],[],[14,15,16,17,18,21,22],[]),([],[],[14,15,16,17,18,19,20],[]),([7],[],[14,15,16,17,18,19,20],[]),([1,2,3,4,5,6,7,8],[],[14],[]),([1,2,3,4,5,6,7,8,9],[],[14],[]),([1,2,3,4,5,6,7,8,9,10],[],[14,25],[]),([1,2,3,4,5,6,7,8,9,10],[],[14,24,26,27],[1152]),([0,1,2,3,4,5,6,7,8,9,10,11],[],[25],[]),([0,1,2,3,4,5,6,7,8,9,10,11,13],[],[25],[]),([0,1,2,3,4,5,6,7,8,9,10,11,13,14],[1152],[25],[]),([0,1,2,3,4,5,6,7,8,9,10,11,12,13,14,15],[],[],[])] rfl rfl (by kernel_rfl) ?_ _
 |refine db 92 3 ⟨⟩ [([],[],[7,17,18,19,20,21,22,23,24,25,26,27,28,29,30],[2561,104256]),([],[],[16,22,23,24,25,26,27,28,29,30],[2561,104256]),([1],[],[16,22,23,24,25,26,27,28,29,30],[2561,104256]),([1,2],[],[16,22,23,24,25,26,27,28,29,30],[2561,104256]),([1,2,3],[],[16,22,23,24,25,26,27,28,29,30],[2561,104256]),([1,2,3,4],[],[16,22,23,24,25,26,27,28,29,30],[2561,104256]),([],[],[16,17,18,19,20,21,26,27,28,29],[104256]),([6],[],[16,17,18,19,20,21,26,27,28,29],[104256]),([6,7],[],[16,17,18,19,20,21,26,27,28,29],[104256]),([6,7,8],[],[16,17,18,19,20,21,26,27,28,29],[104256]),([],[],[16,17,18,19,20,21,22,23,24,25,27],[]),([],[],[16,17,18,19,20,21,22,23,24,25,26],[]),([10,11],[],[16,17,18,19,20,21,22,23,24,25],[]),([10,11,12],[104256],[16,17,18,19,20,21,22,23,24,25],[]),([6,7,8,9,10,11,12,13],[2561],[16,17,18,19,20,21],[]),([1,2,3,4,5,6,7,8,9,10,11,12,13,14],[],[16],[]),([0,1,2,3,4,5,6,7,8,9,10,11,12,13,14,15],[],[],[]),([0,1,2,3,4,5,6,7,8,9,10,11,12,13,14,15,16],[],[],[]),([0,1,2,3,4,5,6,7,8,9,10,11,12,13,14,15,16,17],[1152],[],[])] rfl rfl (by kernel_rfl) ?_ _
 |(refine some_e hr ?_;rintro rfl;with_reducible refine ret_k ?_)
 |exact no_e hr
 |fail)
@[reducible,instance] def QkW:=g41.1
@[reducible,instance] def QkX:=g41.2.1
@[reducible,instance] def Qku:=g41.2.2.1
@[reducible,instance] def Qkv:=g41.2.2.2
end Go.Sx
