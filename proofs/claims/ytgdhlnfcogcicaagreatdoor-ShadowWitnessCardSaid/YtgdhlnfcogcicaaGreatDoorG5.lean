import Derived.Test.YtgdhlnfcogcicaaGreatDoorF
import Derived.Test.YtgdhlnfcogcicaaGreatDoorG1
import Derived.Test.YtgdhlnfcogcicaaGreatDoorG2
import Derived.Test.YtgdhlnfcogcicaaGreatDoorG3
import Derived.Test.YtgdhlnfcogcicaaGreatDoorG4
set_option linter.all false
namespace Go.Sx
open Go.Proofs
set_option maxRecDepth 10000
set_option maxHeartbeats 100000000
theorem g12:(∀ N (a0:Int) (a1:TWorld) (a2:TThing),OK (rules_World_formed_1_2 N a0 a1 a2) 201 [.v (.int .i64 a0),.ept 1000000 0 10 0 0,.ept 1000001 0 4 0 0] [.arr true 61 10 [[.v (.int .i64 a1.Conf.PageWords),.v (.int .i64 a1.Conf.Pages),.isl 77 4 (a1.Things.map e77),.isl 210 3 (a1.Locals.Slots.map e210),.isl 159 3 (a1.Locals.Scopes.map e159),.isl 3 1 (a1.Locals.Issued.map e3),.isl 132 3 (a1.Globals.Entries.map e132),.isl 132 3 (a1.Weaks.Entries.map e132),.isl 116 3 (a1.Marks.map e116),.isl 37 1 (a1.Roots.map e37)]] 0,.arr true 77 4 [[.v (.int .i64 a2.Header.Kind),.v (.int .i64 a2.Header.Length),.v (.int .u32 a2.Header.Map),.isl 37 1 (a2.Fields.map e37)]] 0] (fun r=>.v (.bool r)) fun r=>[.arr true 61 10 [[.v (.int .i64 a1.Conf.PageWords),.v (.int .i64 a1.Conf.Pages),.isl 77 4 (a1.Things.map e77),.isl 210 3 (a1.Locals.Slots.map e210),.isl 159 3 (a1.Locals.Scopes.map e159),.isl 3 1 (a1.Locals.Issued.map e3),.isl 132 3 (a1.Globals.Entries.map e132),.isl 132 3 (a1.Weaks.Entries.map e132),.isl 116 3 (a1.Marks.map e116),.isl 37 1 (a1.Roots.map e37)]] 0,.arr true 77 4 [[.v (.int .i64 a2.Header.Kind),.v (.int .i64 a2.Header.Length),.v (.int .u32 a2.Header.Map),.isl 37 1 (a2.Fields.map e37)]] 0])∧(∀ N (a0:TLocals) (a1:Int),OK (scope_New N a0 a1) 174 [.agg (e29 a0),.v (.int .u64 a1)] [] (fun r=>.tup [.agg (e29 r.1),.v (.int .i64 r.2.1),.v (.int .i64 r.2.2.1),.v (.int .i64 r.2.2.2)]) fun r=>[])∧(∀ N (a0:TLocals) (a1:Int) (a2:Int),OK (scope_Get N a0 a1 a2) 168 [.agg (e29 a0),.v (.int .i64 a1),.v (.int .i64 a2)] [] (fun r=>.tup [.v (.int .u64 r.1),.v (.int .i64 r.2)]) fun r=>[])∧(∀ N (a0:TTable) (a1:Int) (a2:Int),OK (slots_check N a0 a1 a2) 228 [.agg (e32 a0),.v (.int .i64 a1),.v (.int .i64 a2)] [] (fun r=>.v (.int .i64 r)) fun r=>[]):=by
 refine ⟨fun N _ _ _=>rn Tryz.f201 [.tmp 4] [] 14 (by kernel_rfl) ?_,fun N _ _=>rn Tryz.f174 [.cell 4 29,.tmp 5,.tmp 6,.tmp 7] [] 71 (by kernel_rfl) ?_,fun N _ _ _=>rn Tryz.f168 [.tmp 6,.tmp 7] [] 62 (by kernel_rfl) ?_,fun N _ _ _=>rn Tryz.f228 [.tmp 6] [] 53 (by kernel_rfl) ?_⟩<;>(rintro _ hw r hr C _ rfl hwf hf;simp only[Tryz.f201,Tryz.f174,Tryz.f168,Tryz.f228,Option.get!];(first|rw[rules_World_formed_1_2] at hr|rw[scope_New] at hr|rw[scope_Get] at hr|rw[slots_check] at hr);repeat' first
 |(refine El.el hr ?_;intro hr)
 |(with_reducible intro h;refine bc_e hr h ?_;intro hr)
 |with_reducible intro _
 |simp only[go_sem,simprocAttr,hl3,hl37,hl132,hl159,hl210]
 |(with_reducible first|apply guard_of_f|apply guard_of_t|apply cond_of|apply doT_of_t|apply doT_of_f)
 |((first|with_reducible refine idx_s hr (by assumption) ?_ ?_|(with_reducible refine idx_e hr ?_ ?_;rotate_left;intro p;rotate_right));(·simp only[go_sem,simprocAttr]);intro hp hn hd hr;(try have hl3:=hd _ e3);(try simp only[go_sem,simprocAttr] at hl3);(try have hl37:=hd _ e37);(try simp only[go_sem,simprocAttr] at hl37);(try have hl132:=hd _ e132);(try simp only[go_sem,simprocAttr] at hl132);(try have hl159:=hd _ e159);(try simp only[go_sem,simprocAttr] at hl159);(try have hl210:=hd _ e210);(try simp only[go_sem,simprocAttr] at hl210))
 |(refine and_of' ?_ ?_;·first|assumption|omega)
 |with_reducible refine CallX.c ?_ _
 |with_reducible refine OK.c hr hw ?_ (fun y hr=>?_) _
 |with_reducible refine OK.d hr hw ?_ (fun y hr=>?_) _
 |refine db 201 1 hf [([],[],[6,7,8,9,10,11],[704]),([],[],[5,8],[]),([1],[],[5,8],[]),([],[],[5,6,7],[]),([1,2,3],[],[5],[]),([1,2,3,4],[],[5],[]),([1,2,3,4,5],[704],[5],[]),([0,1,2,3,4,5,6],[],[],[]),([0,1,2,3,4,5,6,7],[],[],[]),([0,1,2,3,4,5,6,7,8],[],[],[])] rfl rfl (by kernel_rfl) ?_ _
 |refine db 174 6 hf [([],[],[29,31,32,33,34,35,36],[]),([0],[],[29,31,32,33,34,35,36],[]),([],[],[27,28,31,32,33,34,35,36],[]),([0,1,2],[],[31,32,33,34,35,36],[]),([],[],[27,28,29,30,33],[]),([4],[],[27,28,29,30,33],[]),([],[],[27,28,29,30,31,32],[]),([4,5,6],[],[27,28,29,30],[]),([4,5,6,7],[],[27,28,29,30],[]),([4,5,6,7,8],[],[27,28,29,30],[]),([0,1,2,3,4,5,6,7,8,9],[],[],[]),([0,1,2,3,4,5,6,7,8,9,10],[],[],[])] rfl rfl (by kernel_rfl) ?_ _
 |refine db 174 11 hf [([],[],[50,51,52,53],[]),([0],[],[50,51,52,53],[]),([0,1],[],[50,51,52,53],[]),([],[],[5,47,48,49],[]),([3],[],[5,47,48,49],[]),([3,4],[],[5,47,48,49],[]),([3,4,5],[],[5,47,48,49],[]),([0,1,2],[],[50,51,52,53],[]),([0,1,2,3,4,5,6,7],[],[],[])] rfl rfl (by kernel_rfl) ?_ _
 |(refine some_e hr ?_;rintro rfl;with_reducible refine ret_k ?_)
 |exact no_e hr
 |fail)
@[reducible,instance] def rules_World_formed_1_2_i:=g12.1
@[reducible,instance] def scope_New_i:=g12.2.1
@[reducible,instance] def scope_Get_i:=g12.2.2.1
@[reducible,instance] def slots_check_i:=g12.2.2.2
abbrev I_scope_Refs_l1:=fun N (a0:TLocals) (Q:(List Int)→Prop) n (st:St)=>∃ (v2:Int) (v3:List Int) (ex:_),scope_Refs_l1 N a0 n v2 v3=some ex∧Q ex∧((∃ w1408,st.n=25∧st.s 1408=some (w1408,.arr false 37 1 (v3.map e37) 0)∧st.t 3=.osl 1408 w1408 1 0 v3.length∧st.t 10=.isl 210 3 (a0.Slots.map e210)∧st.t 11=.v (.int .i64 ((a0.Slots.length:Nat):Int))∧st.t 12=.v (.int .i64 v2))∨((st.n=25∧st.t 3=.nsl∧st.t 10=.isl 210 3 (a0.Slots.map e210)∧st.t 11=.v (.int .i64 ((a0.Slots.length:Nat):Int))∧st.t 12=.v (.int .i64 v2))∧v3=[]))
abbrev I_slots_Refs_l1:=fun N (a0:TTable) (Q:(List Int)→Prop) n (st:St)=>∃ (v2:Int) (v3:List Int) (ex:_),slots_Refs_l1 N a0 n v2 v3=some ex∧Q ex∧((∃ w1408,st.n=25∧st.s 1408=some (w1408,.arr false 37 1 (v3.map e37) 0)∧st.t 3=.osl 1408 w1408 1 0 v3.length∧st.t 10=.isl 132 3 (a0.Entries.map e132)∧st.t 11=.v (.int .i64 ((a0.Entries.length:Nat):Int))∧st.t 12=.v (.int .i64 v2))∨((st.n=25∧st.t 3=.nsl∧st.t 10=.isl 132 3 (a0.Entries.map e132)∧st.t 11=.v (.int .i64 ((a0.Entries.length:Nat):Int))∧st.t 12=.v (.int .i64 v2))∧v3=[]))
abbrev I_rules_World_marked_l1:=fun N (a0:TWorld) (Q:(Ex Bool Unit)→Prop) n (st:St)=>∃ (v1:Int) (ex:_),rules_World_marked_l1 N a0 n v1=some ex∧Q ex∧((∃ w64,st.n=47∧st.t 1=.ept 64 w64 10 0 0∧st.t 6=.isl 116 3 (a0.Marks.map e116)∧st.t 7=.v (.int .i64 ((a0.Marks.length:Nat):Int))∧st.t 8=.v (.int .i64 v1)∧st.s 64=some (w64,.arr true 61 10 [[.v (.int .i64 a0.Conf.PageWords),.v (.int .i64 a0.Conf.Pages),.isl 77 4 (a0.Things.map e77),.isl 210 3 (a0.Locals.Slots.map e210),.isl 159 3 (a0.Locals.Scopes.map e159),.isl 3 1 (a0.Locals.Issued.map e3),.isl 132 3 (a0.Globals.Entries.map e132),.isl 132 3 (a0.Weaks.Entries.map e132),.isl 116 3 (a0.Marks.map e116),.isl 37 1 (a0.Roots.map e37)]] 0)))
theorem g13:(∀ N (a0:TLocals),OK (scope_Refs N a0) 60 [.agg (e29 a0)] [] (fun r=>.isl 37 1 (r.map e37)) fun r=>[])∧(∀ N (a0:TTable),OK (slots_Refs N a0) 61 [.agg (e32 a0)] [] (fun r=>.isl 37 1 (r.map e37)) fun r=>[])∧(∀ N (a0:TWorld),OK (rules_World_marked N a0) 118 [.agg (e61 a0)] [] (fun r=>.v (.bool r)) fun r=>[]):=by
 refine ⟨fun N _=>rn Tryz.f60 [.tmp 2] [] 25 (by kernel_rfl) ?_,fun N _=>rn Tryz.f61 [.tmp 2] [] 25 (by kernel_rfl) ?_,fun N _=>rn Tryz.f118 [.tmp 2] [] 47 (by kernel_rfl) ?_⟩<;>(rintro _ hw r hr C _ rfl hwf hf;simp only[Tryz.f60,Tryz.f61,Tryz.f118,Option.get!];(first|rw[scope_Refs] at hr|rw[slots_Refs] at hr|rw[rules_World_marked] at hr);repeat' first
 |(refine El.el hr ?_;intro hr)
 |(with_reducible intro h;refine bc_e hr h ?_;intro hr)
 |with_reducible intro _
 |(refine some_e hr ?_;rintro rfl;have hr:=hk;clear hk)
 |simp only[go_sem,simprocAttr,E,hl116,hl132,hl210]
 |(with_reducible first|apply guard_of_f|apply guard_of_t|apply cond_of)
 |((first|with_reducible refine idx_s hr (by assumption) ?_ ?_|(with_reducible refine idx_e hr ?_ ?_;rotate_left;intro p;rotate_right));(·simp only[go_sem,simprocAttr]);intro hp hn hd hr;(try have hl116:=hd _ e116);(try simp only[go_sem,simprocAttr] at hl116);(try have hl132:=hd _ e132);(try simp only[go_sem,simprocAttr] at hl132);(try have hl210:=hd _ e210);(try simp only[go_sem,simprocAttr] at hl210))
 |(refine and_of' ?_ ?_;·first|assumption|omega)
 |with_reducible refine CallX.c ?_ _
 |with_reducible refine OK.c hr hw ?_ (fun y hr=>?_) _
 |(with_reducible refine loop_e (I:=I_scope_Refs_l1 N _) hr 1000 N (fun ex hq hk=>⟨_,_,ex,hq,hk,?_⟩) ?_ _;rotate_left;clear hr;(try clear E);rintro n1 st ⟨v2,v3,ex,hr,hk,(⟨_,E⟩|⟨E,z0⟩)⟩<;>(try subst z0)<;>(obtain _|n1:=n1<;>rw[scope_Refs_l1] at hr))
 |refine ⟨_,Nat.lt_succ_self _,_,_,_,hr,hk,?_⟩
 |(with_reducible refine loop_e (I:=I_slots_Refs_l1 N _) hr 1000 N (fun ex hq hk=>⟨_,_,ex,hq,hk,?_⟩) ?_ _;rotate_left;clear hr;(try clear E);rintro n1 st ⟨v2,v3,ex,hr,hk,(⟨_,E⟩|⟨E,z0⟩)⟩<;>(try subst z0)<;>(obtain _|n1:=n1<;>rw[slots_Refs_l1] at hr))
 |(with_reducible refine loop_e (I:=I_rules_World_marked_l1 N _) hr 1000 N (fun ex hq hk=>⟨_,ex,hq,hk,?_⟩) ?_ _;rotate_left;clear hr;(try clear E);rintro n1 st ⟨v1,ex,hr,hk,⟨_,E⟩⟩<;>(obtain _|n1:=n1<;>rw[rules_World_marked_l1] at hr))
 |refine ⟨_,Nat.lt_succ_self _,_,_,hr,hk,?_⟩
 |(refine some_e hr ?_;rintro rfl;with_reducible refine ret_k ?_)
 |exact no_e hr
 |((first|refine bc_e (c:=true) hr rfl ?_|refine bc_e (c:=false) hr rfl ?_|refine bc_e hr (by assumption) ?_);intro hr)
 |fail)
@[reducible,instance] def scope_Refs_i:=g13.1
@[reducible,instance] def slots_Refs_i:=g13.2.1
@[reducible,instance] def rules_World_marked_i:=g13.2.2
abbrev I_made_Play_l1:=fun N (a1:Int) (y1:TPair × TTape) (Q:Unit→Prop) n (st:St)=>∃ ex,made_Play_l1 N a1 y1 n=some ex∧Q ex∧((∃ w256 w384 w640,st.n=33∧st.t 1=.v (.int .i64 a1)∧st.t 4=.ept 256 w256 24 0 0∧st.t 5=.ept 640 w640 2 0 0∧st.t 6=.ept 384 w384 24 0 0∧st.t 7=.v (.int .i64 0)∧st.s 256=some (w256,.arr true 47 24 [[.v (.int .i64 0),.v (.int .i64 0),.nsl,.nsl,.v (.int .i64 0),.v (.int .i64 0),.nsl,.nsl,.nsl,.nsl,.nsl,.nsl,.nsl,.v (.int .i64 0),.v (.int .i64 0),.nsl,.nsl,.nsl,.nsl,.nsl,.nsl,.nsl,.nsl,.nsl]] 0)∧st.s 384=some (w384,.arr true 47 24 [[.v (.int .i64 y1.1.Env.Heap.Conf.PageWords),.v (.int .i64 y1.1.Env.Heap.Conf.Pages),.isl 37 1 (y1.1.Env.Heap.Words.map e37),.isl 306 4 (y1.1.Env.Heap.Pages.map e306),.v (.int .i64 y1.1.Env.Heap.Space),.v (.int .i64 y1.1.Env.Heap.Bump),.isl 210 3 (y1.1.Env.Locals.Slots.map e210),.isl 159 3 (y1.1.Env.Locals.Scopes.map e159),.isl 3 1 (y1.1.Env.Locals.Issued.map e3),.isl 132 3 (y1.1.Env.Globals.Entries.map e132),.isl 132 3 (y1.1.Env.Weaks.Entries.map e132),.isl 229 2 (y1.1.Env.Pins.map e229),.isl 37 1 (y1.1.Env.Roots.map e37),.v (.int .i64 y1.1.World.Conf.PageWords),.v (.int .i64 y1.1.World.Conf.Pages),.isl 115 4 (y1.1.World.Things.map e115),.isl 210 3 (y1.1.World.Locals.Slots.map e210),.isl 159 3 (y1.1.World.Locals.Scopes.map e159),.isl 3 1 (y1.1.World.Locals.Issued.map e3),.isl 132 3 (y1.1.World.Globals.Entries.map e132),.isl 132 3 (y1.1.World.Weaks.Entries.map e132),.isl 96 3 (y1.1.World.Marks.map e96),.isl 37 1 (y1.1.World.Roots.map e37),.isl 37 1 (y1.1.Words.map e37)]] 0)∧st.s 640=some (w640,.arr true 51 2 [[.isl 3 1 (y1.2.L.map e3),.v (.int .i64 y1.2.at_)]] 0)))
instance made_Play_i:∀ N (a0:List Int) (a1:Int),OK (made_Play N a0 a1) 8 [.isl 3 1 (a0.map e3),.v (.int .i64 a1)] [] (fun r=>.agg (e47 r)) fun r=>[]:=by
 refine fun N _ _=>rn Tryz.f8 [.cell 4 47] [] 33 (by kernel_rfl) ?_<;>(rintro _ hw r hr C _ rfl hwf hf;simp only[Tryz.f8,Option.get!];(rw[made_Play] at hr);repeat' first
 |(refine El.el hr ?_;intro hr)
 |(with_reducible intro h;refine bc_e hr h ?_;intro hr)
 |with_reducible intro _
 |(refine some_e hr ?_;rintro rfl;have hr:=hk;clear hk)
 |simp only[go_sem,simprocAttr,E]
 |(with_reducible first|apply guard_of_f|apply guard_of_t|apply cond_of|apply doT_of_t|apply doT_of_f)
 |(refine and_of' ?_ ?_;·first|assumption|omega)
 |with_reducible refine CallX.c ?_ _
 |with_reducible refine OK.c hr hw ?_ (fun y hr=>?_) _
 |with_reducible refine OK.d hr hw ?_ (fun y hr=>?_) _
 |(with_reducible refine loop_e (I:=I_made_Play_l1 N _ _) hr 1000 N (fun ex hq hk=>⟨ex,hq,hk,?_⟩) ?_ _;rotate_left;clear hr;(try clear E);rintro n1 st ⟨ex,hr,hk,⟨_,_,_,E⟩⟩<;>(obtain _|n1:=n1<;>rw[made_Play_l1] at hr))
 |refine ⟨_,Nat.lt_succ_self _,_,hr,hk,?_⟩
 |refine db 8 6 hf [([],[],[25,26,27],[]),([],[],[24,26],[]),([],[],[24,25],[]),([1,2],[],[24],[]),([0,1,2,3],[],[],[]),([0,1,2,3,4],[],[],[]),([0,1,2,3,4,5],[],[30,31],[]),([0,1,2,3,4,5],[],[29,31],[]),([0,1,2,3,4,5],[],[29,30],[]),([0,1,2,3,4,5,6],[],[30,31],[])] rfl rfl (by kernel_rfl) ?_ _
 |(refine some_e hr ?_;rintro rfl;with_reducible refine ret_k ?_)
 |exact no_e hr
 |((first|refine bc_e (c:=true) hr rfl ?_|refine bc_e (c:=false) hr rfl ?_|refine bc_e hr (by assumption) ?_);intro hr)
 |fail)
end Go.Sx
