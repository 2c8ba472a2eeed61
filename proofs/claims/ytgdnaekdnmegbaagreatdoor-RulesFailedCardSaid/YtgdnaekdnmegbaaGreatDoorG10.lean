import Derived.Test.YtgdnaekdnmegbaaGreatDoorF
import Derived.Test.YtgdnaekdnmegbaaGreatDoorG1
import Derived.Test.YtgdnaekdnmegbaaGreatDoorG2
import Derived.Test.YtgdnaekdnmegbaaGreatDoorG3
import Derived.Test.YtgdnaekdnmegbaaGreatDoorG4
import Derived.Test.YtgdnaekdnmegbaaGreatDoorG5
import Derived.Test.YtgdnaekdnmegbaaGreatDoorG6
import Derived.Test.YtgdnaekdnmegbaaGreatDoorG7
import Derived.Test.YtgdnaekdnmegbaaGreatDoorG8
set_option linter.all false
namespace Go.Sx
open Go.Proofs
set_option maxRecDepth 10000
set_option maxHeartbeats 100000000
theorem g20:(∀ N (a0:THeap) (a1:Int),OK (ref05_At N a0 a1) 212 [.agg (e40 a0),.v (.int .u64 a1)] [] (fun r=>.tup [.agg (e97 r.1),.v (.int .i64 r.2)]) fun r=>[])∧(∀ N (a0:THeap) (a1:Int) (a2:Int),OK (ref07_large N a0 a1 a2) 234 [.agg (e40 a0),.v (.int .i64 a1),.v (.int .i64 a2)] [] (fun r=>.tup [.agg (e40 r.1),.v (.int .u64 r.2.1),.v (.bool r.2.2)]) fun r=>[])∧(∀ N (a0:TWorld) (a1:Int) (a2:Int) (a3:Int) (a4:Bool),OK (ref20_creates N a0 a1 a2 a3 a4) 30 [.agg (e36 a0),.v (.int .i64 a1),.v (.int .u64 a2),.v (.int .u64 a3),.v (.bool a4)] [] (fun r=>.v (.int .i64 r)) fun r=>[])∧(∀ N (a0:TWorld) (a1:Int),OK (ref21_remove N a0 a1) 140 [.agg (e36 a0),.v (.int .u64 a1)] [] (fun r=>.agg (e36 r)) fun r=>[])∧(∀ N (a0:TLocals) (a1:Int) (a2:Int),OK (scope_Get N a0 a1 a2) 119 [.agg (e29 a0),.v (.int .i64 a1),.v (.int .i64 a2)] [] (fun r=>.tup [.v (.int .u64 r.1),.v (.int .i64 r.2)]) fun r=>[])∧(∀ N (a0:TLocals) (a1:Int),OK (scope_New N a0 a1) 143 [.agg (e29 a0),.v (.int .u64 a1)] [] (fun r=>.tup [.agg (e29 r.1),.v (.int .i64 r.2.1),.v (.int .i64 r.2.2.1),.v (.int .i64 r.2.2.2)]) fun r=>[])∧(∀ N (a0:TLocals),OK (scope_Pop N a0) 146 [.agg (e29 a0)] [] (fun r=>.tup [.agg (e29 r.1),.v (.int .i64 r.2)]) fun r=>[]):=by
 refine ⟨fun N _ _=>rn Tryz.f212 [.cell 4 97,.tmp 5] [] 96 (by kernel_rfl) ?_,fun N _ _ _=>rn Tryz.f234 [.cell 6 40,.tmp 7,.tmp 8] [] 49 (by kernel_rfl) ?_,fun N _ _ _ _ _=>rn Tryz.f30 [.tmp 10] [] 41 (by kernel_rfl) ?_,fun N _ _=>rn Tryz.f140 [.cell 4 36] [] 52 (by kernel_rfl) ?_,fun N _ _ _=>rn Tryz.f119 [.tmp 6,.tmp 7] [] 62 (by kernel_rfl) ?_,fun N _ _=>rn Tryz.f143 [.cell 4 29,.tmp 5,.tmp 6,.tmp 7] [] 71 (by kernel_rfl) ?_,fun N _=>rn Tryz.f146 [.cell 2 29,.tmp 3] [] 29 (by kernel_rfl) ?_⟩<;>(rintro _ hw r hr C rfl hwf hf;simp only[Tryz.f212,Tryz.f234,Tryz.f30,Tryz.f140,Tryz.f119,Tryz.f143,Tryz.f146,Option.get!];(first|rw[ref05_At] at hr|rw[ref07_large] at hr|rw[ref20_creates] at hr|rw[ref21_remove] at hr|rw[scope_Get] at hr|rw[scope_New] at hr|rw[scope_Pop] at hr);repeat' first
 |(refine El.el hr ?_;intro hr)
 |(with_reducible intro h;refine bc_e hr h ?_;intro hr)
 |with_reducible intro _
 |simp only[go_sem,simprocAttr,hl3,hl134,hl179,hl260]
 |(with_reducible first|apply guard_of_f|apply guard_of_t|apply cond_of|apply doT_of_t|apply doT_of_f)
 |((first|with_reducible refine idx_s hr (by assumption) ?_ ?_|(with_reducible refine idx_e hr ?_ ?_;rotate_left;intro p;rotate_right));(·simp only[go_sem,simprocAttr]);intro hp hn hd hr;(try have hl3:=hd _ e3);(try simp only[go_sem,simprocAttr] at hl3);(try have hl134:=hd _ e134);(try simp only[go_sem,simprocAttr] at hl134);(try have hl179:=hd _ e179);(try simp only[go_sem,simprocAttr] at hl179);(try have hl260:=hd _ e260);(try simp only[go_sem,simprocAttr] at hl260))
 |(refine and_of' ?_ ?_;·first|assumption|omega)
 |with_reducible refine OK.c hr hw ?_ (fun y hr=>?_) _
 |with_reducible refine OK.d hr hw ?_ (fun y hr=>?_) _
 |refine db 234 2 hf [([],[],[],[]),([0],[],[],[]),([0,1],[],[],[]),([0,1,2],[],[20,22,23],[]),([0,1,2,3],[],[20,22,23],[]),([0,1,2,3,4],[],[20,22,23],[]),([0,1,2],[],[17,18,19,22,23,24],[]),([0,1,2,3,4,5,6],[],[22,23,24],[]),([0,1,2],[],[17,18,19,20,21],[]),([0,1,2,8],[],[17,18,19,20,21],[]),([0,1,2,3,4,5,8,9],[],[20,21],[]),([0,1,2,3,4,5,6,7,8,9,10],[],[],[]),([0,1,2,3,4,5,6,7,8,9,10,11],[],[],[])] rfl rfl (by kernel_rfl) ?_ _
 |refine db 234 5 hf [([],[],[42,43,44,45,46,47,48],[]),([],[],[41,43,44,45],[384]),([],[],[41,42],[384]),([2],[],[41,42],[384]),([2,3],[],[41,42],[384]),([1,2,3,4],[],[41],[384]),([1,2,3,4,5],[],[41],[384]),([1,2,3,4,5,6],[],[41],[384]),([0],[384],[42,43,44,45,46,47,48],[]),([0,1,2,3,4,5,6,7,8],[],[],[]),([0,1,2,3,4,5,6,7,8,9],[],[],[])] rfl rfl (by kernel_rfl) ?_ _
 |refine db 143 6 hf [([],[],[29,31,32,33,34,35,36],[]),([0],[],[29,31,32,33,34,35,36],[]),([],[],[27,28,31,32,33,34,35,36],[]),([0,1,2],[],[31,32,33,34,35,36],[]),([],[],[27,28,29,30,33],[]),([4],[],[27,28,29,30,33],[]),([],[],[27,28,29,30,31,32],[]),([4,5,6],[],[27,28,29,30],[]),([4,5,6,7],[],[27,28,29,30],[]),([4,5,6,7,8],[],[27,28,29,30],[]),([0,1,2,3,4,5,6,7,8,9],[],[],[]),([0,1,2,3,4,5,6,7,8,9,10],[],[],[])] rfl rfl (by kernel_rfl) ?_ _
 |refine db 143 11 hf [([],[],[50,51,52,53],[]),([0],[],[50,51,52,53],[]),([0,1],[],[50,51,52,53],[]),([],[],[5,47,48,49],[]),([3],[],[5,47,48,49],[]),([3,4],[],[5,47,48,49],[]),([3,4,5],[],[5,47,48,49],[]),([0,1,2],[],[50,51,52,53],[]),([0,1,2,3,4,5,6,7],[],[],[])] rfl rfl (by kernel_rfl) ?_ _
 |(refine some_e hr ?_;rintro rfl;with_reducible refine ret_k ?_)
 |exact no_e hr
 |fail)
@[reducible,instance] def ref05_At_i:=g20.1
@[reducible,instance] def ref07_large_i:=g20.2.1
@[reducible,instance] def ref20_creates_i:=g20.2.2.1
@[reducible,instance] def ref21_remove_i:=g20.2.2.2.1
@[reducible,instance] def scope_Get_i:=g20.2.2.2.2.1
@[reducible,instance] def scope_New_i:=g20.2.2.2.2.2.1
@[reducible,instance] def scope_Pop_i:=g20.2.2.2.2.2.2
instance slots_New_i:∀ N (a0:TTable) (a1:Int),OK (slots_New N a0 a1) 144 [.agg (e32 a0),.v (.int .u64 a1)] [] (fun r=>.tup [.agg (e32 r.1),.v (.int .i64 r.2.1),.v (.int .i64 r.2.2.1),.v (.int .i64 r.2.2.2)]) fun r=>[]:=by
 refine fun N _ _=>rn Tryz.f144 [.cell 4 32,.tmp 5,.tmp 6,.tmp 7] [] 63 (by kernel_rfl) ?_<;>(rintro _ hw r hr C rfl hwf hf;simp only[Tryz.f144,Option.get!];(rw[slots_New] at hr);repeat' first
 |(refine El.el hr ?_;intro hr)
 |(with_reducible intro h;refine bc_e hr h ?_;intro hr)
 |with_reducible intro _
 |simp only[go_sem,simprocAttr,hx148,List.set_set,hl148]
 |(with_reducible first|apply guard_of_f|apply guard_of_t|apply cond_of|apply doT_of_t|apply doT_of_f)
 |(with_reducible refine idx_x hr ?_ ?_;(·first|(simp only[go_sem,simprocAttr];done)|(simp only[List.length_append,List.length_cons,List.length_nil,List.length_set]<;>omega));intro p hp hn hd hx hr;(try have hl148:=hd _ e148);(try simp only[go_sem,simprocAttr] at hl148);(try have hx148:=hx _ e148);(try simp only[go_sem,simprocAttr] at hx148);(try simp only[List.length_append,List.length_cons,List.length_nil,List.length_set] at hn))
 |(refine and_of' ?_ ?_;·first|assumption|omega)
 |with_reducible refine OK.c hr hw ?_ (fun y hr=>?_) _
 |refine db 144 12 hf [([],[],[58,59,60,61,62],[]),([],[],[57,59,60,61,62],[256]),([],[],[5,57,58],[256]),([2],[],[5,57,58],[256]),([2,3],[],[5,57,58],[256]),([2,3,4],[],[5,57,58],[256]),([0],[256],[58,59,60,61,62],[]),([0,1,6],[],[59,60,61,62],[]),([0,1,2,3,4,5,6,7],[],[],[]),([0,1,2,3,4,5,6,7,8],[],[],[])] rfl rfl (by kernel_rfl) ?_ _
 |(refine some_e hr ?_;rintro rfl;with_reducible refine ret_k ?_)
 |exact no_e hr
 |fail)
end Go.Sx
