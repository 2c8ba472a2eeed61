import Derived.Test.YtgdhlnfcogcicaaGreatDoorRF
import Derived.Test.YtgdhlnfcogcicaaGreatDoorRG0
import Derived.Test.YtgdhlnfcogcicaaGreatDoorRG3
import Derived.Test.YtgdhlnfcogcicaaGreatDoorRG6
import Derived.Test.YtgdhlnfcogcicaaGreatDoorRG8
import Derived.Test.YtgdhlnfcogcicaaGreatDoorRG9
import Derived.Test.YtgdhlnfcogcicaaGreatDoorRG11
import Derived.Test.YtgdhlnfcogcicaaGreatDoorRG16
import Derived.Test.YtgdhlnfcogcicaaGreatDoorRG17
set_option linter.all false
namespace Go.Sx
open Go.Proofs
set_option maxRecDepth 10000
set_option maxHeartbeats 100000000
theorem g43:(∀ N (a0:TWorld) (a2:Int) (a3:Int) (a4:Int) (a5:TFact),OK (QdS N a0 a2 a3 a4 a5) 11 [.agg (e61 a0),.v (.int .i64 4),.v (.int .u64 a2),.v (.int .u64 a3),.v (.int .u64 a4),.agg (e66 a5)] [] (fun r=>.tup [.agg (e61 r.1),.v (.int .u64 r.2.1),.v (.int .i64 r.2.2)]) fun r=>[])∧(∀ N (a0:TWorld) (a2:Int) (a3:Int) (a4:Int) (a5:TFact),OK (Qc4 N a0 a2 a3 a4 a5) 11 [.agg (e61 a0),.v (.int .i64 11),.v (.int .u64 a2),.v (.int .u64 a3),.v (.int .u64 a4),.agg (e66 a5)] [] (fun r=>.tup [.agg (e61 r.1),.v (.int .u64 r.2.1),.v (.int .i64 r.2.2)]) fun r=>[])∧(∀ N (a0:TWorld) (a2:Int) (a3:Int) (a4:Int) (a5:TFact),OK (Qc9 N a0 a2 a3 a4 a5) 11 [.agg (e61 a0),.v (.int .i64 16),.v (.int .u64 a2),.v (.int .u64 a3),.v (.int .u64 a4),.agg (e66 a5)] [] (fun r=>.tup [.agg (e61 r.1),.v (.int .u64 r.2.1),.v (.int .i64 r.2.2)]) fun r=>[]):=by
 refine ⟨fun N _ _ _ _ _=>rn Tryz.f11 [.cell 12 61,.tmp 13,.tmp 14] [] 57 (by kernel_rfl) ?_,fun N _ _ _ _ _=>rn Tryz.f11 [.cell 12 61,.tmp 13,.tmp 14] [] 57 (by kernel_rfl) ?_,fun N _ _ _ _ _=>rn Tryz.f11 [.cell 12 61,.tmp 13,.tmp 14] [] 57 (by kernel_rfl) ?_⟩<;>(rintro _ hw r hr C _ rfl hwf hf;simp only[Tryz.f11,Tryz.f11,Tryz.f11,Option.get!];(first|rw[QdS] at hr|rw[Qc4] at hr|rw[Qc9] at hr);repeat' first
 |(refine El.el hr ?_;intro hr)
 |(with_reducible intro h;refine bc_e hr h ?_;intro hr)
 |with_reducible intro _
 |simp only[go_sem,simprocAttr,hl37,hl77]
 |(with_reducible first|apply guard_of_f|apply guard_of_t|apply cond_of|apply doT_of_t|apply doT_of_f)
 |((first|with_reducible refine idx_s hr (by assumption) ?_ ?_|(with_reducible refine idx_e hr ?_ ?_;rotate_left;intro p;rotate_right));(·simp only[go_sem,simprocAttr]);intro hp hn hd hr;(try have hl37:=hd _ e37);(try simp only[go_sem,simprocAttr] at hl37);(try have hl77:=hd _ e77);(try simp only[go_sem,simprocAttr] at hl77))
 |(refine and_of' ?_ ?_;·first|assumption|omega)
 |(refine CallX.inl (f:=42) 400 (fn:=Tryz.f42) (rs:=[.tmp 14,.tmp 15]) (nt:=221) 1000 (by kernel_rfl) (fun x=>?_) _;simp only[Tryz.f42,Option.get!])
 |(refine CallX.inl (f:=87) 1200 (fn:=Tryz.f87) (rs:=[.tmp 4,.tmp 5]) (nt:=36) 1000 (by kernel_rfl) (fun x=>?_) _;simp only[Tryz.f87,Option.get!])
 |(refine CallX.inl (f:=89) 2400 (fn:=Tryz.f89) (rs:=[.tmp 4,.tmp 5]) (nt:=71) 1000 (by kernel_rfl) (fun x=>?_) _;simp only[Tryz.f89,Option.get!])
 |with_reducible refine CallX.c ?_ _
 |with_reducible refine OK.c hr hw ?_ (fun y hr=>?_) _
 |with_reducible refine OK.d hr hw ?_ (fun y hr=>?_) _
 |refine db 42 22 ⟨⟩ [([],[],[102,105,106,107,108,109,110,111,112],[]),([0],[],[102,105,106,107,108,109,110,111,112],[]),([],[],[102,103,104,106,107,108,109,110,111,112],[]),([],[],[103,104,105,109],[]),([3],[],[103,104,105,109],[]),([3,4],[],[103,104,105,109],[]),([],[],[103,104,105,106,107,108],[]),([3,4,5,6],[],[103,104,105],[]),([3,4,5,6,7],[],[103,104,105],[]),([3,4,5,6,7,8],[],[103,104,105,112],[]),([3,4,5,6,7,8],[],[103,104,105,111,113],[]),([0,1,2,3,4,5,6,7,8,9],[],[112],[]),([0,1,2,3,4,5,6,7,8,9,11],[],[112],[]),([0,1,2,3,4,5,6,7,8,9,10,11,12],[],[],[])] rfl rfl (by kernel_rfl) ?_ _
 |refine db 89 6 ⟨⟩ [([],[],[36,38,39,40,41,42,43,44,45,46,47,48],[]),([],[],[37,42,43,44,45],[]),([1],[],[37,42,43,44,45],[]),([1,2],[],[37,42,43,44,45],[]),([1,2,3],[],[37,42,43,44,45],[]),([],[],[37,38,39,40,41,44,45],[]),([5],[],[37,38,39,40,41,44,45],[]),([],[],[37,38,39,40,41,42,43],[]),([7],[],[37,38,39,40,41,42,43],[]),([1,2,3,4,5,6,7,8],[],[37],[]),([1,2,3,4,5,6,7,8,9],[],[37],[]),([1,2,3,4,5,6,7,8,9,10],[],[37,48],[]),([1,2,3,4,5,6,7,8,9,10],[],[37,47,49,50],[1152]),([0,1,2,3,4,5,6,7,8,9,10,11],[],[48],[]),([0,1,2,3,4,5,6,7,8,9,10,11,13],[],[48],[]),([0,1,2,3,4,5,6,7,8,9,10,11,13,14],[1152],[48],[]),([0,1,2,3,4,5,6,7,8,9,10,11,12,13,14,15],[],[],[])] rfl rfl (by kernel_rfl) ?_ _
 |refine db 89 8 ⟨⟩ [([],[],[55,57,58,59,60,61,62,63,64,65,66,67],[]),([],[],[56,61,62,63,64],[]),([1],[],[56,61,62,63,64],[]),([1,2],[],[56,61,62,63,64],[]),([1,2,3],[],[56,61,62,63,64],[]),([],[],[56,57,58,59,60,63,64],[]),([5],[],[56,57,58,59,60,63,64],[]),([],[],[56,57,58,59,60,61,62],[]),([7],[],[56,57,58,59,60,61,62],[]),([1,2,3,4,5,6,7,8],[],[56],[]),([1,2,3,4,5,6,7,8,9],[],[56],[]),([1,2,3,4,5,6,7,8,9,10],[],[56,67],[]),([1,2,3,4,5,6,7,8,9,10],[],[56,66,68,69],[1152]),([0,1,2,3,4,5,6,7,8,9,10,11],[],[67],[]),([0,1,2,3,4,5,6,7,8,9,10,11,13],[],[67],[]),([0,1,2,3,4,5,6,7,8,9,10,11,13,14],[1152],[67],[]),([0,1,2,3,4,5,6,7,8,9,10,11,12,13,14,15],[],[],[])] rfl rfl (by kernel_rfl) ?_ _
 |refine db 89 2 ⟨⟩ [([],[],[13,15,16,17,18,19,20,21,22,23,24,25],[]),([],[],[14,19,20,21,22],[]),([1],[],[14,19,20,21,22],[]),([1,2],[],[14,19,20,21,22],[]),([1,2,3],[],[14,19,20,21,22],[]),([],[],[14,15,16,17,18,21,22],[]),([5],[],[14,15,16,17,18,21,22],[]),([],[],[14,15,16,17,18,19,20],[]),([7],[],[14,15,16,17,18,19,20],[]),([1,2,3,4,5,6,7,8],[],[14],[]),([1,2,3,4,5,6,7,8,9],[],[14],[]),([1,2,3,4,5,6,7,8,9,10],[],[14,25],[]),([1,2,3,4,5,6,7,8,9,10],[],[14,24,26,27],[1152]),([0,1,2,3,4,5,6,7,8,9,10,11],[],[25],[]),([0,1,2,3,4,5,6,7,8,9,10,11,13],[],[25],[]),([0,1,2,3,4,5,6,7,8,9,10,11,13,14],[1152],[25],[]),([0,1,2,3,4,5,6,7,8,9,10,11,12,13,14,15],[],[],[])] rfl rfl (by kernel_rfl) ?_ _
 |(refine some_e hr ?_;rintro rfl;with_reducible refine ret_k ?_)
 |exact no_e hr
 |fail)
@[reducible,instance] def Qk0:=g43.1
@[reducible,instance] def Qky:=g43.2.1
@[reducible,instance] def Qkz:=g43.2.2
abbrev Qhm:=fun N (y3:TWorld) (w768:Nat) (w1152:Nat) (Q:(Int × List TMark)→Prop) n (st:St)=>∃ (v10:Int) (v11:Int) (v12:List TMark) (ex:_),QbA N y3 n v10 v11 v12=some ex∧Q ex∧((∃ w2560 w2561,st.n=42∧st.s 2560=some (w2560,.arr false 77 4 (y3.Things.map e77) 0)∧st.s 2561=some (w2561,.arr false 116 3 (v12.map e116) 0)∧st.t 0=.osl 2561 w2561 3 0 v12.length∧st.t 1=.clo (.func 184) [] []∧st.t 5=.v (.int .i64 v10)∧st.t 6=.v (.int .i64 v11)∧st.s 768=some (w768,.arr true 61 10 [[.v (.int .i64 0),.v (.int .i64 0),.nsl,.nsl,.nsl,.nsl,.nsl,.nsl,.nsl,.nsl]] 0)∧st.s 1152=some (w1152,.arr true 61 10 [[.v (.int .i64 y3.Conf.PageWords),.v (.int .i64 y3.Conf.Pages),.osl 2560 w2560 4 0 y3.Things.length,.isl 210 3 (y3.Locals.Slots.map e210),.isl 159 3 (y3.Locals.Scopes.map e159),.isl 3 1 (y3.Locals.Issued.map e3),.isl 132 3 (y3.Globals.Entries.map e132),.isl 132 3 (y3.Weaks.Entries.map e132),.osl 2561 w2561 3 0 v12.length,.isl 37 1 (y3.Roots.map e37)]] 0)))
instance QkA:∀ N (a0:TWorld) (a2:Int) (a3:Int) (a4:Int) (a5:TFact),OK (Qdd N a0 a2 a3 a4 a5) 11 [.agg (e61 a0),.v (.int .i64 20),.v (.int .u64 a2),.v (.int .u64 a3),.v (.int .u64 a4),.agg (e66 a5)] [] (fun r=>.tup [.agg (e61 r.1),.v (.int .u64 r.2.1),.v (.int .i64 r.2.2)]) fun r=>[]:=by
 refine fun N _ _ _ _ _=>rn Tryz.f11 [.cell 12 61,.tmp 13,.tmp 14] [] 57 (by kernel_rfl) ?_<;>(rintro _ hw r hr C _ rfl hwf hf;simp only[Tryz.f11,Option.get!];(rw[Qdd] at hr);repeat' first
 |(refine El.el hr ?_;intro hr)
 |(with_reducible intro h;refine bc_e hr h ?_;intro hr)
 |with_reducible intro _
 |(refine some_e hr ?_;rintro rfl;have hr:=hk;clear hk)
 |simp only[go_sem,simprocAttr,hx37,hx77,hx116,List.set_set,E,hl37,hl77,hl116,List.length_take,List.length_drop,Nat.min_self]
 |(with_reducible first|apply guard_of_f|apply guard_of_t|apply cond_of|apply doT_of_t|apply doT_of_f)
 |(with_reducible refine idx_x hr ?_ ?_;(·first|(simp only[go_sem,simprocAttr];done)|(simp only[List.length_append,List.length_cons,List.length_nil,List.length_set]<;>omega));intro p hp hn hd hx hr;(try have hl37:=hd _ e37);(try simp only[go_sem,simprocAttr] at hl37);(try have hl77:=hd _ e77);(try simp only[go_sem,simprocAttr] at hl77);(try have hl116:=hd _ e116);(try simp only[go_sem,simprocAttr] at hl116);(try have hx37:=hx _ e37);(try simp only[go_sem,simprocAttr] at hx37);(try have hx77:=hx _ e77);(try simp only[go_sem,simprocAttr] at hx77);(try have hx116:=hx _ e116);(try simp only[go_sem,simprocAttr] at hx116);(try simp only[List.length_append,List.length_cons,List.length_nil,List.length_set] at hn))
 |(refine and_of' ?_ ?_;·first|assumption|omega|(dsimp only at *;omega))
 |(refine CallX.inl (f:=42) 400 (fn:=Tryz.f42) (rs:=[.tmp 14,.tmp 15]) (nt:=221) 1000 (by kernel_rfl) (fun x=>?_) _;simp only[Tryz.f42,Option.get!])
 |(refine CallX.inl (f:=92) 1600 (fn:=Tryz.f92) (rs:=[.tmp 6]) (nt:=39) 1000 (by kernel_rfl) (fun x=>?_) _;simp only[Tryz.f92,Option.get!])
 |(refine CallX.inl (f:=93) 2000 (fn:=Tryz.f93) (rs:=[]) (nt:=23) 1000 (by kernel_rfl) (fun x=>?_) _;simp only[Tryz.f93,Option.get!])
 |(refine CallX.inl (f:=183) 3200 (fn:=Tryz.f183) (rs:=[.tmp 4]) (nt:=42) 1000 (by kernel_rfl) (fun x=>?_) _;simp only[Tryz.f183,Option.get!])
 |with_reducible refine CallX.c ?_ _
 |with_reducible refine OK.c hr hw ?_ (fun y hr=>?_) _
 |with_reducible refine OK.d hr hw ?_ (fun y hr=>?_) _
 |(refine LoopG.v (id:=768) rfl (fun w768 h768=>?_) _;refine LoopG.v (id:=1152) rfl (fun w1152 h1152=>?_) _;with_reducible refine loop_e (I:=Qhm N _ w768 w1152) hr 1000 N (fun ex hq hk=>⟨_,_,_,ex,hq,hk,?_⟩) ?_ _;(all_goals (subst h768;subst h1152));rotate_left;clear hr;(try clear E);rintro n1 st ⟨v10,v11,v12,ex,hr,hk,⟨_,_,E⟩⟩<;>(obtain _|n1:=n1<;>rw[QbA] at hr))
 |refine ⟨_,Nat.lt_succ_self _,_,_,_,_,hr,hk,?_⟩
 |refine db 42 22 ⟨⟩ [([],[],[102,105,106,107,108,109,110,111,112],[]),([0],[],[102,105,106,107,108,109,110,111,112],[]),([],[],[102,103,104,106,107,108,109,110,111,112],[]),([],[],[103,104,105,109],[]),([3],[],[103,104,105,109],[]),([3,4],[],[103,104,105,109],[]),([],[],[103,104,105,106,107,108],[]),([3,4,5,6],[],[103,104,105],[]),([3,4,5,6,7],[],[103,104,105],[]),([3,4,5,6,7,8],[],[103,104,105,112],[]),([3,4,5,6,7,8],[],[103,104,105,111,113],[]),([0,1,2,3,4,5,6,7,8,9],[],[112],[]),([0,1,2,3,4,5,6,7,8,9,11],[],[112],[]),([0,1,2,3,4,5,6,7,8,9,10,11,12],[],[],[])] rfl rfl (by kernel_rfl) ?_ _
 |refine db 92 3 ⟨⟩ [([],[],[7,17,18,19,20,21,22,23,24,25,26,27,28,29,30],[2561,104256]),([],[],[16,22,23,24,25,26,27,28,29,30],[2561,104256]),([1],[],[16,22,23,24,25,26,27,28,29,30],[2561,104256]),([1,2],[],[16,22,23,24,25,26,27,28,29,30],[2561,104256]),([1,2,3],[],[16,22,23,24,25,26,27,28,29,30],[2561,104256]),([1,2,3,4],[],[16,22,23,24,25,26,27,28,29,30],[2561,104256]),([],[],[16,17,18,19,20,21,26,27,28,29],[104256]),([6],[],[16,17,18,19,20,21,26,27,28,29],[104256]),([6,7],[],[16,17,18,19,20,21,26,27,28,29],[104256]),([6,7,8],[],[16,17,18,19,20,21,26,27,28,29],[104256]),([],[],[16,17,18,19,20,21,22,23,24,25,27],[]),([],[],[16,17,18,19,20,21,22,23,24,25,26],[]),([10,11],[],[16,17,18,19,20,21,22,23,24,25],[]),([10,11,12],[104256],[16,17,18,19,20,21,22,23,24,25],[]),([6,7,8,9,10,11,12,13],[2561],[16,17,18,19,20,21],[]),([1,2,3,4,5,6,7,8,9,10,11,12,13,14],[],[16],[]),([0,1,2,3,4,5,6,7,8,9,10,11,12,13,14,15],[],[],[]),([0,1,2,3,4,5,6,7,8,9,10,11,12,13,14,15,16],[],[],[]),([0,1,2,3,4,5,6,7,8,9,10,11,12,13,14,15,16,17],[1152],[],[])] rfl rfl (by kernel_rfl) ?_ _
 |(refine some_e hr ?_;rintro rfl;with_reducible refine ret_k ?_)
 |exact no_e hr
 |((first|refine bc_e (c:=true) hr rfl ?_|refine bc_e (c:=false) hr rfl ?_|refine bc_e hr (by assumption) ?_);intro hr)
 |fail)
end Go.Sx
