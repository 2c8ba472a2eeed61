import Derived.Test.YtggdbcmfjliibaaGreatNF
import Derived.Test.YtggdbcmfjliibaaGreatNG0
import Derived.Test.YtggdbcmfjliibaaGreatNG1
set_option linter.all false
namespace Go.Sx
open Go.Proofs
set_option maxRecDepth 10000
set_option maxHeartbeats 100000000
theorem g5:(∀ N (a0:TCode) (a1:List Int),OK (ref23_Start N a0 a1) 6 [.agg (e24 a0),.isl 38 1 (a1.map e38)] [] (fun r=>.tup [.agg (e28 r.1),.v (.int .i64 r.2)]) fun r=>[])∧(∀ N (a0:TCode) (a1:TFrame),OK (ref23_Fetch N a0 a1) 9 [.agg (e24 a0),.agg (e28 a1)] [] (fun r=>.tup [.agg (e44 r.1),.v (.bool r.2)]) fun r=>[])∧(∀ N (a0:TConf),OK (page_SmallWords N a0) 239 [.agg (e56 a0)] [] (fun r=>.v (.int .i64 r)) fun r=>[])∧(∀ N (a0:THeader),OK (header_Valid N a0) 260 [.agg (e204 a0)] [] (fun r=>.v (.bool r)) fun r=>[])∧(∀ N (a0:TConf) (a1:Int) (a2:Int),OK (page_Address N a0 a1 a2) 240 [.agg (e56 a0),.v (.int .i64 a1),.v (.int .i64 a2)] [] (fun r=>.tup [.v (.int .u64 r.1),.v (.int .i64 r.2)]) fun r=>[])∧(∀ N (a0:Int) (a1:Int),OK (cmp_Less_uint64 N a0 a1) 122 [.v (.int .u64 a0),.v (.int .u64 a1)] [] (fun r=>.v (.bool r)) fun r=>[])∧(∀ N (a0:THeap),OK (copies_Heap N a0) 39 [.agg (e59 a0)] [] (fun r=>.agg (e59 r)) fun r=>[])∧(∀ N (a0:TTable),OK (copies_Table N a0) 41 [.agg (e67 a0)] [] (fun r=>.agg (e67 r)) fun r=>[])∧(∀ N (a0:TTape),OK (made_Tape_Conf N a0) 46 [.ept 1000000 0 2 0 0] [.arr true 100 2 [[.isl 3 1 (a0.L.map e3),.v (.int .i64 a0.at_)]] 0] (fun r=>.agg (e56 r.1)) fun r=>[.arr true 100 2 [[.isl 3 1 (r.2.L.map e3),.v (.int .i64 r.2.at_)]] 0])∧(∀ N (a0:TConf),OK (ref21_New N a0) 48 [.agg (e56 a0)] [] (fun r=>.tup [.agg (e80 r.1),.v (.int .i64 r.2)]) fun r=>[]):=by
 refine ⟨fun N _ _=>rn Tryz.f6 [.cell 4 28,.tmp 5] [] 25 (by kernel_rfl) ?_,fun N _ _=>rn Tryz.f9 [.cell 4 44,.tmp 5] [] 25 (by kernel_rfl) ?_,fun N _=>rn Tryz.f239 [.tmp 2] [] 9 (by kernel_rfl) ?_,fun N _=>rn Tryz.f260 [.tmp 2] [] 43 (by kernel_rfl) ?_,fun N _ _ _=>rn Tryz.f240 [.tmp 6,.tmp 7] [] 39 (by kernel_rfl) ?_,fun N _ _=>rn Tryz.f122 [.tmp 4] [] 17 (by kernel_rfl) ?_,fun N _=>rn Tryz.f39 [.cell 2 59] [] 12 (by kernel_rfl) ?_,fun N _=>rn Tryz.f41 [.cell 2 67] [] 7 (by kernel_rfl) ?_,fun N _=>rn Tryz.f46 [.cell 2 56] [] 14 (by kernel_rfl) ?_,fun N _=>rn Tryz.f48 [.cell 2 80,.tmp 3] [] 10 (by kernel_rfl) ?_⟩<;>(rintro _ hw r hr C _ rfl hwf hf;simp only[Tryz.f6,Tryz.f9,Tryz.f239,Tryz.f260,Tryz.f240,Tryz.f122,Tryz.f39,Tryz.f41,Tryz.f46,Tryz.f48,Option.get!];(first|rw[ref23_Start] at hr|rw[ref23_Fetch] at hr|rw[page_SmallWords] at hr|rw[header_Valid] at hr|rw[page_Address] at hr|rw[cmp_Less_uint64] at hr|rw[copies_Heap] at hr|rw[copies_Table] at hr|rw[made_Tape_Conf] at hr|rw[ref21_New] at hr);repeat' first
 |(refine El.el hr ?_;intro hr)
 |(with_reducible intro h;refine bc_e hr h ?_;intro hr)
 |with_reducible intro _
 |simp only[go_sem,simprocAttr,hl3,hl44]
 |(with_reducible first|apply guard_of_f|apply guard_of_t|apply cond_of|apply doT_of_t|apply doT_of_f)
 |((first|with_reducible refine idx_s hr (by assumption) ?_ ?_|(with_reducible refine idx_e hr ?_ ?_;rotate_left;intro p;rotate_right));(·simp only[go_sem,simprocAttr]);intro hp hn hd hr;(try have hl3:=hd _ e3);(try simp only[go_sem,simprocAttr] at hl3);(try have hl44:=hd _ e44);(try simp only[go_sem,simprocAttr] at hl44))
 |(refine and_of' ?_ ?_;·first|assumption|omega)
 |(with_reducible first|refine CallX.c ?_ _|refine OK.c hr hw ?_ (fun y hr=>?_) _|refine OK.d hr hw ?_ (fun y hr=>?_) _)
 |refine db 260 4 hf 28 [(0,0,[]),(1,0,[]),(3,0,[]),(7,0,[]),(15,56,[]),(31,56,[]),(63,56,[]),(15,7,[]),(143,7,[]),(399,7,[]),(1023,0,[]),(2047,0,[]),(4095,0,[])] rfl rfl (by kernel_rfl) ?_ _
 |refine db 39 1 hf 3 [(0,24,[]),(1,24,[]),(3,24,[[320],[]]),(0,7,[[],[320]]),(8,7,[[],[320]]),(31,64,[[512],[]]),(31,32,[[],[512]]),(127,0,[[64],[]]),(255,0,[]),(511,0,[[64],[]])] rfl rfl (by kernel_rfl) ?_ _
 |refine db 46 1 hf 3 [(0,998,[[192],[512,1000000]]),(0,97,[[],[192,512]]),(2,97,[[1000000],[192,512]]),(7,992,[[],[512,1000000]]),(15,992,[[],[512,1000000]]),(0,223,[[512],[192,1000000]]),(0,63,[[],[192,512,1000000]]),(70,57,[[1000000],[192,512]]),(230,25,[[],[192]]),(486,25,[[],[192]]),(1023,0,[]),(2047,0,[[128],[]])] rfl rfl (by kernel_rfl) ?_ _
 |(refine some_e hr ?_;rintro rfl;with_reducible refine ret_k ?_)
 |exact no_e hr
 |fail)
@[reducible,instance] def ref23_Start_i:=g5.1
@[reducible,instance] def ref23_Fetch_i:=g5.2.1
@[reducible,instance] def page_SmallWords_i:=g5.2.2.1
@[reducible,instance] def header_Valid_i:=g5.2.2.2.1
@[reducible,instance] def page_Address_i:=g5.2.2.2.2.1
@[reducible,instance] def cmp_Less_uint64_i:=g5.2.2.2.2.2.1
@[reducible,instance] def copies_Heap_i:=g5.2.2.2.2.2.2.1
@[reducible,instance] def copies_Table_i:=g5.2.2.2.2.2.2.2.1
@[reducible,instance] def made_Tape_Conf_i:=g5.2.2.2.2.2.2.2.2.1
@[reducible,instance] def ref21_New_i:=g5.2.2.2.2.2.2.2.2.2
end Go.Sx
