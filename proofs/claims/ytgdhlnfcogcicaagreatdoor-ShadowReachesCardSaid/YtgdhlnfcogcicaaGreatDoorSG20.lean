import Derived.Test.YtgdhlnfcogcicaaGreatDoorSF
import Derived.Test.YtgdhlnfcogcicaaGreatDoorSG9
import Derived.Test.YtgdhlnfcogcicaaGreatDoorSG18
import Derived.Test.YtgdhlnfcogcicaaGreatDoorSG19
set_option linter.all false
namespace Go.Sx
open Go.Proofs
set_option maxRecDepth 10000
set_option maxHeartbeats 100000000
abbrev QgP:=fun N (y2:List Bool) (y3:TWorld) (Q:(List TEntry)→Prop) n (st:St)=>∃ (v4:Int) (v5:List TEntry) (ex:_),QaU N y2 y3 n v4 v5=some ex∧Q ex∧((∃ w960 w961 w128 w320,st.n=49∧st.s 960=some (w960,.arr false 77 4 (y3.Things.map e77) 0)∧st.s 961=some (w961,.arr false 132 3 (v5.map e132) 0)∧st.t 2=.ept 128 w128 10 0 0∧st.t 4=.isl 4 1 (y2.map e4)∧st.t 5=.ept 320 w320 10 0 0∧st.t 18=.osl 961 w961 3 0 v5.length∧st.t 19=.v (.int .i64 ((y3.Weaks.Entries.length:Nat):Int))∧st.t 20=.v (.int .i64 v4)∧st.s 128=some (w128,.arr true 61 10 [[.v (.int .i64 0),.v (.int .i64 0),.nsl,.nsl,.nsl,.nsl,.nsl,.nsl,.nsl,.nsl]] 0)∧st.s 320=some (w320,.arr true 61 10 [[.v (.int .i64 y3.Conf.PageWords),.v (.int .i64 y3.Conf.Pages),.osl 960 w960 4 0 y3.Things.length,.isl 210 3 (y3.Locals.Slots.map e210),.isl 159 3 (y3.Locals.Scopes.map e159),.isl 3 1 (y3.Locals.Issued.map e3),.isl 132 3 (y3.Globals.Entries.map e132),.osl 961 w961 3 0 v5.length,.isl 116 3 (y3.Marks.map e116),.isl 37 1 (y3.Roots.map e37)]] 0)))
instance Qj4:∀ N (a0:TWorld),OK (Qcr N a0) 23 [.agg (e61 a0)] [] (fun r=>.tup [.agg [.v (.int .i64 r.1.Conf.PageWords),.v (.int .i64 r.1.Conf.Pages),.fsl 77 4 (r.1.Things.map e77),.isl 210 3 (r.1.Locals.Slots.map e210),.isl 159 3 (r.1.Locals.Scopes.map e159),.isl 3 1 (r.1.Locals.Issued.map e3),.isl 132 3 (r.1.Globals.Entries.map e132),.isl 132 3 (r.1.Weaks.Entries.map e132),.isl 116 3 (r.1.Marks.map e116),.isl 37 1 (r.1.Roots.map e37)],.v (.int .i64 r.2)]) fun r=>[]:=by
 refine fun N _=>rn Tryz.f23 [.cell 2 61,.tmp 3] [960] 49 (by kernel_rfl) ?_<;>(rintro _ hw r hr C _ rfl hwf hf;simp only[Tryz.f23,Option.get!];(rw[Qcr] at hr);repeat' first
 |(refine El.el hr ?_;intro hr)
 |(with_reducible intro h;refine bc_e hr h ?_;intro hr)
 |with_reducible intro _
 |(refine some_e hr ?_;rintro rfl;have hr:=hk;clear hk)
 |simp only[go_sem,simprocAttr,E,hl4,hl132]
 |(with_reducible first|apply guard_of_f|apply guard_of_t|apply cond_of)
 |((first|with_reducible refine idx_s hr (by assumption) ?_ ?_|(with_reducible refine idx_e hr ?_ ?_;rotate_left;intro p;rotate_right));(·simp only[go_sem,simprocAttr]);intro hp hn hd hr;(try have hl4:=hd _ e4);(try simp only[go_sem,simprocAttr] at hl4);(try have hl132:=hd _ e132);(try simp only[go_sem,simprocAttr] at hl132))
 |(refine and_of' ?_ ?_;·first|assumption|omega)
 |with_reducible refine CallX.c ?_ _
 |with_reducible refine OK.c hr hw ?_ (fun y hr=>?_) _
 |(with_reducible refine loop_e (I:=QgP N _ _) hr 1000 N (fun ex hq hk=>⟨_,_,ex,hq,hk,?_⟩) ?_ _;rotate_left;clear hr;(try clear E);rintro n1 st ⟨v4,v5,ex,hr,hk,⟨_,_,_,_,E⟩⟩<;>(obtain _|n1:=n1<;>rw[QaU] at hr))
 |refine ⟨_,Nat.lt_succ_self _,_,_,_,hr,hk,?_⟩
 |(refine some_e hr ?_;rintro rfl;with_reducible refine ret_k ?_)
 |exact no_e hr
 |((first|refine bc_e (c:=true) hr rfl ?_|refine bc_e (c:=false) hr rfl ?_|refine bc_e hr (by assumption) ?_);intro hr)
 |fail)
instance Qmx:∀ N (a0:THeap),OK (QdI N a0) 240 [.agg (e42 a0)] [] (fun r=>.v (.bool r)) fun r=>[]:=by
 refine fun N _=>rn Tryz.f240 [.tmp 2] [] 7 (by kernel_rfl) ?_<;>(rintro _ hw r hr C _ rfl hwf hf;simp only[Tryz.f240,Option.get!];(rw[QdI] at hr);repeat' first
 |(refine El.el hr ?_;intro hr)
 |(with_reducible intro h;refine bc_e hr h ?_;intro hr)
 |with_reducible intro _
 |simp only[go_sem,simprocAttr]
 |(with_reducible first|apply guard_of_f|apply guard_of_t|apply cond_of)
 |(refine and_of' ?_ ?_;·first|assumption|omega)
 |with_reducible refine CallX.c ?_ _
 |with_reducible refine OK.c hr hw ?_ (fun y hr=>?_) _
 |(refine some_e hr ?_;rintro rfl;with_reducible refine ret_k ?_)
 |exact no_e hr
 |fail)
end Go.Sx
