import Derived.Test.YtgdhlnfcogcicaaGreatDoorSF
import Derived.Test.YtgdhlnfcogcicaaGreatDoorSG1
import Derived.Test.YtgdhlnfcogcicaaGreatDoorSG2
import Derived.Test.YtgdhlnfcogcicaaGreatDoorSG5
import Derived.Test.YtgdhlnfcogcicaaGreatDoorSG7
import Derived.Test.YtgdhlnfcogcicaaGreatDoorSG9
import Derived.Test.YtgdhlnfcogcicaaGreatDoorSG10
import Derived.Test.YtgdhlnfcogcicaaGreatDoorSG11
import Derived.Test.YtgdhlnfcogcicaaGreatDoorSG12
import Derived.Test.YtgdhlnfcogcicaaGreatDoorSG13
import Derived.Test.YtgdhlnfcogcicaaGreatDoorSG14
set_option linter.all false
namespace Go.Sx
open Go.Proofs
set_option maxRecDepth 10000
set_option maxHeartbeats 100000000
theorem g25:(∀ N (a0:TWorld) (a1:Int) (a2:Int) (a3:Int) (a4:Int),OK (QeG N a0 a1 a2 a3 a4) 95 [.agg (e36 a0),.v (.int .i64 a1),.v (.int .u64 a2),.v (.int .u64 a3),.v (.int .u64 a4)] [] (fun r=>.v (.int .i64 r)) fun r=>[])∧(∀ N (a0:TWorld) (a1:Int) (a2:Int),OK (Qe6 N a0 a1 a2) 97 [.agg (e36 a0),.v (.int .i64 a1),.v (.int .u64 a2)] [] (fun r=>.v (.int .i64 r)) fun r=>[])∧(∀ N (a0:TWorld) (a1:Int) (a2:Int) (a3:Bool),OK (Qfl N a0 a1 a2 a3) 99 [.agg (e36 a0),.v (.int .i64 a1),.v (.int .u64 a2),.v (.bool a3)] [] (fun r=>.v (.int .i64 r)) fun r=>[])∧(∀ N (a0:TWorld) (a1:Int) (a2:Int) (a3:Int),OK (Qe7 N a0 a1 a2 a3) 100 [.agg (e36 a0),.v (.int .i64 a1),.v (.int .u64 a2),.v (.int .u64 a3)] [] (fun r=>.v (.int .i64 r)) fun r=>[])∧(∀ N (a0:THeap) (a1:Int),OK (QeI N a0 a1) 290 [.agg (e42 a0),.v (.int .u64 a1)] [] (fun r=>.tup [.isl 37 1 (r.1.map e37),.v (.int .i64 r.2)]) fun r=>[])∧(∀ N (a0:THeap) (a1:Int) (a2:Int),OK (Qc9 N a0 a1 a2) 217 [.agg (e42 a0),.v (.int .u64 a1),.v (.int .i64 a2)] [] (fun r=>.tup [.v (.int .u64 r.1),.v (.int .i64 r.2)]) fun r=>[])∧(∀ N (a0:List Int) (c0:TWorld) (c1:TThing),OK (QaO N a0 c0 c1) 192 [.isl 3 1 (a0.map e3),.clo (.func 201) [] [.ept 1000000 0 10 0 0,.ept 1000001 0 4 0 0]] [.arr true 61 10 [[.v (.int .i64 c0.Conf.PageWords),.v (.int .i64 c0.Conf.Pages),.isl 77 4 (c0.Things.map e77),.isl 210 3 (c0.Locals.Slots.map e210),.isl 159 3 (c0.Locals.Scopes.map e159),.isl 3 1 (c0.Locals.Issued.map e3),.isl 132 3 (c0.Globals.Entries.map e132),.isl 132 3 (c0.Weaks.Entries.map e132),.isl 116 3 (c0.Marks.map e116),.isl 37 1 (c0.Roots.map e37)]] 0,.arr true 77 4 [[.v (.int .i64 c1.Header.Kind),.v (.int .i64 c1.Header.Length),.v (.int .u32 c1.Header.Map),.isl 37 1 (c1.Fields.map e37)]] 0] (fun r=>.v (.bool r)) fun r=>[.arr true 61 10 [[.v (.int .i64 c0.Conf.PageWords),.v (.int .i64 c0.Conf.Pages),.isl 77 4 (c0.Things.map e77),.isl 210 3 (c0.Locals.Slots.map e210),.isl 159 3 (c0.Locals.Scopes.map e159),.isl 3 1 (c0.Locals.Issued.map e3),.isl 132 3 (c0.Globals.Entries.map e132),.isl 132 3 (c0.Weaks.Entries.map e132),.isl 116 3 (c0.Marks.map e116),.isl 37 1 (c0.Roots.map e37)]] 0,.arr true 77 4 [[.v (.int .i64 c1.Header.Kind),.v (.int .i64 c1.Header.Length),.v (.int .u32 c1.Header.Map),.isl 37 1 (c1.Fields.map e37)]] 0])∧(∀ N (a0:Tasked) (a1:Int),OK (Qe4 N a0 a1) 147 [.agg (e173 a0),.v (.int .i64 a1)] [] (fun r=>.v (.int .i64 r)) fun r=>[])∧(∀ N (a0:TWorld) (a1:Int),OK (Qep N a0 a1) 80 [.agg (e61 a0),.v (.int .u64 a1)] [] (fun r=>.tup [.v (.int .u64 r.1),.v (.int .i64 r.2)]) fun r=>[]):=by
 refine ⟨fun N _ _ _ _ _=>rn Tryz.f95 [.tmp 10] [] 68 (by kernel_rfl) ?_,fun N _ _ _=>rn Tryz.f97 [.tmp 6] [] 34 (by kernel_rfl) ?_,fun N _ _ _ _=>rn Tryz.f99 [.tmp 8] [] 52 (by kernel_rfl) ?_,fun N _ _ _ _=>rn Tryz.f100 [.tmp 8] [] 48 (by kernel_rfl) ?_,fun N _ _=>rn Tryz.f290 [.tmp 4,.tmp 5] [] 26 (by kernel_rfl) ?_,fun N _ _ _=>rn Tryz.f217 [.tmp 6,.tmp 7] [] 37 (by kernel_rfl) ?_,fun N _ _ _=>rn Tryz.f192 [.tmp 4] [] 9 (by kernel_rfl) ?_,fun N _ _=>rn Tryz.f147 [.tmp 4] [] 58 (by kernel_rfl) ?_,fun N _ _=>rn Tryz.f80 [.tmp 4,.tmp 5] [] 55 (by kernel_rfl) ?_⟩<;>(rintro _ hw r hr C _ rfl hwf hf;simp only[Tryz.f95,Tryz.f97,Tryz.f99,Tryz.f100,Tryz.f290,Tryz.f217,Tryz.f192,Tryz.f147,Tryz.f80,Option.get!];(first|rw[QeG] at hr|rw[Qe6] at hr|rw[Qfl] at hr|rw[Qe7] at hr|rw[QeI] at hr|rw[Qc9] at hr|rw[QaO] at hr|rw[Qe4] at hr|rw[Qep] at hr);repeat' first
 |(refine El.el hr ?_;intro hr)
 |(with_reducible intro h;refine bc_e hr h ?_;intro hr)
 |with_reducible intro _
 |simp only[go_sem,simprocAttr,hl37,hl96,hl115]
 |(with_reducible first|apply guard_of_f|apply guard_of_t|apply cond_of|apply doT_of_t|apply doT_of_f)
 |((first|with_reducible refine idx_s hr (by assumption) ?_ ?_|(with_reducible refine idx_e hr ?_ ?_;rotate_left;intro p;rotate_right));(·simp only[go_sem,simprocAttr]);intro hp hn hd hr;(try have hl37:=hd _ e37);(try simp only[go_sem,simprocAttr] at hl37);(try have hl96:=hd _ e96);(try simp only[go_sem,simprocAttr] at hl96);(try have hl115:=hd _ e115);(try simp only[go_sem,simprocAttr] at hl115))
 |(refine and_of' ?_ ?_;·first|assumption|omega)
 |with_reducible refine CallX.c ?_ _
 |with_reducible refine OK.c hr hw ?_ (fun y hr=>?_) _
 |with_reducible refine OK.d hr hw ?_ (fun y hr=>?_) _
 |refine db 95 11 hf [([],[],[53,54,55,56,57],[]),([0],[],[53,54,55,56,57],[]),([],[],[51,52,55],[]),([2],[],[51,52,55],[]),([],[],[51,52,53,54],[]),([2,3,4],[],[51,52],[]),([2,3,4,5],[],[51,52],[]),([0,1,2,3,4,5,6],[],[],[]),([0,1,2,3,4,5,6,7],[],[],[])] rfl rfl (by kernel_rfl) ?_ _
 |(refine some_e hr ?_;rintro rfl;with_reducible refine ret_k ?_)
 |exact no_e hr
 |fail)
@[reducible,instance] def QkQ:=g25.1
@[reducible,instance] def Qlz:=g25.2.1
@[reducible,instance] def Qmt:=g25.2.2.1
@[reducible,instance] def QlA:=g25.2.2.2.1
@[reducible,instance] def QkR:=g25.2.2.2.2.1
@[reducible,instance] def QlB:=g25.2.2.2.2.2.1
@[reducible,instance] def QgQ:=g25.2.2.2.2.2.2.1
@[reducible,instance] def QjI:=g25.2.2.2.2.2.2.2.1
@[reducible,instance] def Qjz:=g25.2.2.2.2.2.2.2.2
abbrev QiN:=fun N (a0:THeap) (a1:Int) (y3:List Bool) (Q:(Ex Int Unit)→Prop) n (st:St)=>∃ (v4:Int) (ex:_),QcI N a0 a1 y3 n v4=some ex∧Q ex∧((∃ w128,st.n=43∧st.t 1=.v (.int .i64 a1)∧st.t 2=.ept 128 w128 6 0 0∧st.t 7=.isl 4 1 (y3.map e4)∧st.t 8=.v (.int .i64 v4)∧st.s 128=some (w128,.arr true 42 6 [e42 a0] 0)))
abbrev Qhm:=fun N (a0:THeap) (Q:(Ex (List Int × Int) (List Int))→Prop) n (st:St)=>∃ (v2:Int) (v3:List Int) (ex:_),Qa0 N a0 n v2 v3=some ex∧Q ex∧((∃ w1856 w64,st.n=31∧st.s 1856=some (w1856,.arr false 37 1 (v3.map e37) 0)∧st.t 1=.ept 64 w64 6 0 0∧st.t 4=.osl 1856 w1856 1 0 v3.length∧st.t 5=.v (.int .i64 v2)∧st.s 64=some (w64,.arr true 42 6 [e42 a0] 0))∨(∃ w64,(st.n=31∧st.t 1=.ept 64 w64 6 0 0∧st.t 4=.nsl∧st.t 5=.v (.int .i64 v2)∧st.s 64=some (w64,.arr true 42 6 [e42 a0] 0))∧v3=[]))
theorem g26:(∀ N (a0:THeap) (a1:Int),OK (QeS N a0 a1) 289 [.agg (e42 a0),.v (.int .i64 a1)] [] (fun r=>.v (.int .u64 r)) fun r=>[])∧(∀ N (a0:THeap),OK (Qdr N a0) 265 [.agg (e42 a0)] [] (fun r=>.tup [.isl 37 1 (r.1.map e37),.v (.int .i64 r.2)]) fun r=>[]):=by
 refine ⟨fun N _ _=>rn Tryz.f289 [.tmp 4] [] 43 (by kernel_rfl) ?_,fun N _=>rn Tryz.f265 [.tmp 2,.tmp 3] [] 31 (by kernel_rfl) ?_⟩<;>(rintro _ hw r hr C _ rfl hwf hf;simp only[Tryz.f289,Tryz.f265,Option.get!];(first|rw[QeS] at hr|rw[Qdr] at hr);repeat' first
 |(refine El.el hr ?_;intro hr)
 |(with_reducible intro h;refine bc_e hr h ?_;intro hr)
 |with_reducible intro _
 |(refine some_e hr ?_;rintro rfl;have hr:=hk;clear hk)
 |simp only[go_sem,simprocAttr,E,hl4]
 |(with_reducible first|apply guard_of_f|apply guard_of_t|apply cond_of|apply doT_of_t|apply doT_of_f)
 |((first|with_reducible refine idx_s hr (by assumption) ?_ ?_|(with_reducible refine idx_e hr ?_ ?_;rotate_left;intro p;rotate_right));(·simp only[go_sem,simprocAttr]);intro hp hn hd hr;(try have hl4:=hd _ e4);(try simp only[go_sem,simprocAttr] at hl4))
 |(refine and_of' ?_ ?_;·first|assumption|omega)
 |with_reducible refine CallX.c ?_ _
 |with_reducible refine OK.c hr hw ?_ (fun y hr=>?_) _
 |with_reducible refine OK.d hr hw ?_ (fun y hr=>?_) _
 |(with_reducible refine loop_e (I:=QiN N _ _ _) hr 1000 N (fun ex hq hk=>⟨_,ex,hq,hk,?_⟩) ?_ _;rotate_left;clear hr;(try clear E);rintro n1 st ⟨v4,ex,hr,hk,⟨_,E⟩⟩<;>(obtain _|n1:=n1<;>rw[QcI] at hr))
 |refine ⟨_,Nat.lt_succ_self _,_,_,hr,hk,?_⟩
 |(with_reducible refine loop_e (I:=Qhm N _) hr 1000 N (fun ex hq hk=>⟨_,_,ex,hq,hk,?_⟩) ?_ _;rotate_left;clear hr;(try clear E);rintro n1 st ⟨v2,v3,ex,hr,hk,(⟨_,_,E⟩|⟨_,E,z0⟩)⟩<;>(try subst z0)<;>(obtain _|n1:=n1<;>rw[Qa0] at hr))
 |refine ⟨_,Nat.lt_succ_self _,_,_,_,hr,hk,?_⟩
 |refine db 289 1 hf [([],[],[11,12,13],[]),([],[],[10,12],[]),([],[],[10,11],[]),([1,2],[],[10],[]),([0,1,2,3],[],[],[]),([0,1,2,3,4],[],[],[]),([0,1,2,3,4,5],[],[16],[]),([0,1,2,3,4,5],[],[5,15],[]),([0,1,2,3,4,5,6],[],[16],[]),([0,1,2,3,4,5,6,7,8],[],[],[])] rfl rfl (by kernel_rfl) ?_ _
 |(refine some_e hr ?_;rintro rfl;with_reducible refine ret_k ?_)
 |exact no_e hr
 |((first|refine bc_e (c:=true) hr rfl ?_|refine bc_e (c:=false) hr rfl ?_|refine bc_e hr (by assumption) ?_);intro hr)
 |fail)
@[reducible,instance] def Qmu:=g26.1
@[reducible,instance] def QkS:=g26.2
end Go.Sx
