import Derived.Test.YtgdhlnfcogcicaaGreatDoorSF
import Derived.Test.YtgdhlnfcogcicaaGreatDoorSG1
import Derived.Test.YtgdhlnfcogcicaaGreatDoorSG2
import Derived.Test.YtgdhlnfcogcicaaGreatDoorSG3
import Derived.Test.YtgdhlnfcogcicaaGreatDoorSG4
import Derived.Test.YtgdhlnfcogcicaaGreatDoorSG5
import Derived.Test.YtgdhlnfcogcicaaGreatDoorSG6
set_option linter.all false
namespace Go.Sx
open Go.Proofs
set_option maxRecDepth 10000
set_option maxHeartbeats 100000000
theorem g13:(∀ N (a0:TPair) (a1:TTape),OK (QbJ N a0 a1) 9 [.agg (e47 a0),.ept 1000000 0 2 0 0] [.arr true 51 2 [[.isl 3 1 (a1.L.map e3),.v (.int .i64 a1.at_)]] 0] (fun r=>.agg (e53 r.1)) fun r=>[.arr true 51 2 [[.isl 3 1 (r.2.L.map e3),.v (.int .i64 r.2.at_)]] 0])∧(∀ N (a0:Int),OK (Qbh N a0) 101 [.v (.int .u64 a0)] [] (fun r=>.tup [.agg (e193 r.1),.v (.int .i64 r.2)]) fun r=>[])∧(∀ N (a0:TLocals),OK (QdG N a0) 51 [.agg (e29 a0)] [] (fun r=>.tup [.agg (e29 r.1),.v (.int .i64 r.2)]) fun r=>[])∧(∀ N (a0:TWorld) (a1:Int) (a2:Int) (a3:Int),OK (Qec N a0 a1 a2 a3) 52 [.agg (e36 a0),.v (.int .i64 a1),.v (.int .u64 a2),.v (.int .u64 a3)] [] (fun r=>.tup [.agg (e36 r.1),.v (.int .u64 r.2)]) fun r=>[])∧(∀ N (a0:THeap) (a1:Int),OK (Qef N a0 a1) 243 [.agg (e42 a0),.v (.int .u64 a1)] [] (fun r=>.v (.int .i64 r)) fun r=>[])∧(∀ N (a0:List Int) (a1:Int) (a2:Int) (a3:Int),OK (Qeg N a0 a1 a2 a3) 269 [.isl 37 1 (a0.map e37),.v (.int .u64 a1),.v (.int .u64 a2),.v (.int .i64 a3)] [] (fun r=>.tup [.isl 37 1 (r.1.map e37),.v (.int .i64 r.2)]) fun r=>[])∧(∀ N (a0:List TEntry),OK (Qan N a0) 197 [.isl 132 3 (a0.map e132),.clo (.func 198) [] []] [] (fun r=>.v (.bool r)) fun r=>[])∧(∀ N (a0:List Int) (c0:TWorld),OK (Qay N a0 c0) 202 [.isl 37 1 (a0.map e37),.clo (.func 203) [] [.ept 1000000 0 10 0 0]] [.arr true 61 10 [[.v (.int .i64 c0.Conf.PageWords),.v (.int .i64 c0.Conf.Pages),.isl 77 4 (c0.Things.map e77),.isl 210 3 (c0.Locals.Slots.map e210),.isl 159 3 (c0.Locals.Scopes.map e159),.isl 3 1 (c0.Locals.Issued.map e3),.isl 132 3 (c0.Globals.Entries.map e132),.isl 132 3 (c0.Weaks.Entries.map e132),.isl 116 3 (c0.Marks.map e116),.isl 37 1 (c0.Roots.map e37)]] 0] (fun r=>.v (.bool r)) fun r=>[.arr true 61 10 [[.v (.int .i64 c0.Conf.PageWords),.v (.int .i64 c0.Conf.Pages),.isl 77 4 (c0.Things.map e77),.isl 210 3 (c0.Locals.Slots.map e210),.isl 159 3 (c0.Locals.Scopes.map e159),.isl 3 1 (c0.Locals.Issued.map e3),.isl 132 3 (c0.Globals.Entries.map e132),.isl 132 3 (c0.Weaks.Entries.map e132),.isl 116 3 (c0.Marks.map e116),.isl 37 1 (c0.Roots.map e37)]] 0])∧(∀ N (a0:Int),OK (QfM N a0) 167 [.v (.int .u64 a0)] [] (fun r=>.tup [.agg (e193 r.1),.v (.int .i64 r.2)]) fun r=>[]):=by
 refine ⟨fun N _ _=>rn Tryz.f9 [.cell 4 53] [] 79 (by kernel_rfl) ?_,fun N _=>rn Tryz.f101 [.cell 2 193,.tmp 3] [] 35 (by kernel_rfl) ?_,fun N _=>rn Tryz.f51 [.cell 2 29,.tmp 3] [] 28 (by kernel_rfl) ?_,fun N _ _ _ _=>rn Tryz.f52 [.cell 8 36,.tmp 9] [] 77 (by kernel_rfl) ?_,fun N _ _=>rn Tryz.f243 [.tmp 4] [] 17 (by kernel_rfl) ?_,fun N _ _ _ _=>rn Tryz.f269 [.tmp 8,.tmp 9] [] 28 (by kernel_rfl) ?_,fun N _=>rn Tryz.f197 [.tmp 4] [] 9 (by kernel_rfl) ?_,fun N _ _=>rn Tryz.f202 [.tmp 4] [] 9 (by kernel_rfl) ?_,fun N _=>rn Tryz.f167 [.cell 2 193,.tmp 3] [] 37 (by kernel_rfl) ?_⟩<;>(rintro _ hw r hr C _ rfl hwf hf;have hgw:=hw;unfold GW at hgw;simp only[Tryz.f9,Tryz.f101,Tryz.f51,Tryz.f52,Tryz.f243,Tryz.f269,Tryz.f197,Tryz.f202,Tryz.f167,Option.get!];(first|rw[QbJ] at hr|rw[Qbh] at hr|rw[QdG] at hr|rw[Qec] at hr|rw[Qef] at hr|rw[Qeg] at hr|rw[Qan] at hr|rw[Qay] at hr|rw[QfM] at hr);repeat' first
 |(refine El.el hr ?_;intro hr)
 |(with_reducible intro h;refine bc_e hr h ?_;intro hr)
 |with_reducible intro _
 |simp only[go_sem,simprocAttr,wI_n,hl3,hl37,hl96,hl159,hgw,List.length_take,List.length_drop,Nat.min_self]
 |(with_reducible first|apply guard_of_f|apply guard_of_t|apply cond_of|apply doT_of_t|apply doT_of_f)
 |((first|with_reducible refine idx_s hr (by assumption) ?_ ?_|(with_reducible refine idx_e hr ?_ ?_;rotate_left;intro p;rotate_right));(·simp only[go_sem,simprocAttr,hgw,List.length_take,List.length_drop,Nat.min_self]);intro hp hn hd hr;(try have hl3:=hd _ e3);(try simp only[go_sem,simprocAttr] at hl3);(try have hl37:=hd _ e37);(try simp only[go_sem,simprocAttr] at hl37);(try have hl96:=hd _ e96);(try simp only[go_sem,simprocAttr] at hl96);(try have hl159:=hd _ e159);(try simp only[go_sem,simprocAttr] at hl159))
 |(refine and_of' ?_ ?_;·first|assumption|omega)
 |(with_reducible refine idl_e hr ?_ ?_;(·simp only[go_sem]);intro p hp hn hd hr;(try have hl3:=hd _ e3);(try simp only[go_sem,simprocAttr] at hl3);(try have hl37:=hd _ e37);(try simp only[go_sem,simprocAttr] at hl37);(try have hl96:=hd _ e96);(try simp only[go_sem,simprocAttr] at hl96);(try have hl159:=hd _ e159);(try simp only[go_sem,simprocAttr] at hl159))
 |with_reducible refine CallX.c ?_ _
 |with_reducible refine OK.c hr hw ?_ (fun y hr=>?_) _
 |with_reducible refine LoopG.u 6 ?_ _
 |with_reducible refine LoopU.s 1000 ?_ _
 |refine db 52 6 hf [([],[],[39,41,42,43,44,45],[]),([0],[],[39,41,42,43,44,45],[]),([],[],[37,38,41,42,43,44,45],[]),([0,1,2],[],[41,42,43,44,45],[]),([],[],[37,38,39,40,43,44],[]),([4],[],[37,38,39,40,43,44],[]),([],[],[37,38,39,40,41,42],[]),([6],[],[37,38,39,40,41,42],[]),([4,5,6,7],[],[37,38,39,40],[]),([0,1,2,3,4,5,6,7,8],[896],[],[]),([0,1,2,3,4,5,6,7,8,9],[],[],[]),([0,1,2,3,4,5,6,7,8,9,10],[256],[],[])] rfl rfl (by kernel_rfl) ?_ _
 |refine db 52 10 hf [([],[],[61,62,63,64,65,66],[]),([],[],[60,63],[512]),([1],[],[60,63],[512]),([],[],[60,61,62],[512]),([1,2,3],[],[60],[512]),([1,2,3,4],[],[60],[512]),([1,2,3,4,5],[],[60],[512]),([0],[512],[61,62,63,64,65,66],[]),([0,1,2,3,4,5,6,7],[],[],[])] rfl rfl (by kernel_rfl) ?_ _
 |refine db 167 6 hf [([],[],[6,23,24,25,26,27,28,29,30],[384]),([0],[],[6,23,24,25,26,27,28,29,30],[384]),([0,1],[],[6,23,24,25,26,27,28,29,30],[384]),([0,1,2],[],[6,23,24,25,26,27,28,29,30],[384]),([],[],[6,19,20,21,22,27,28,29,30],[384]),([4],[],[6,19,20,21,22,27,28,29,30],[384]),([4,5],[],[6,19,20,21,22,27,28,29,30],[384]),([4,5,6],[],[6,19,20,21,22,27,28,29,30],[384]),([],[],[6,19,20,21,22,23,24,25,26],[384]),([8],[],[6,19,20,21,22,23,24,25,26],[384]),([8,9],[],[6,19,20,21,22,23,24,25,26],[384]),([8,9,10],[],[6,19,20,21,22,23,24,25,26],[384]),([0,1,2,3,4,5,6,7,8,9,10,11],[],[6],[384]),([],[384],[19,20,21,22,23,24,25,26,27,28,29,30,31],[]),([0,1,2,3,4,5,6,7,8,9,10,11,12,13],[384],[],[])] rfl rfl (by kernel_rfl) ?_ _
 |(refine some_e hr ?_;rintro rfl;with_reducible refine ret_k ?_)
 |exact no_e hr
 |with_reducible refine ite_g (fun hi=>?_) (fun hi=>?_)
 |(exfalso;omega)
 |fail)
@[reducible,instance] def QjY:=g13.1
@[reducible,instance] def QkJ:=g13.2.1
@[reducible,instance] def QmO:=g13.2.2.1
@[reducible,instance] def Ql9:=g13.2.2.2.1
@[reducible,instance] def Qma:=g13.2.2.2.2.1
@[reducible,instance] def Qmb:=g13.2.2.2.2.2.1
@[reducible,instance] def Qgf:=g13.2.2.2.2.2.2.1
@[reducible,instance] def QgA:=g13.2.2.2.2.2.2.2.1
@[reducible,instance] def Qke:=g13.2.2.2.2.2.2.2.2
abbrev QiB:=fun N (a0:TThing) (Q:(List Int)→Prop) n (st:St)=>∃ (v1:Int) (v2:List Int) (ex:_),QcE N a0 n v1 v2=some ex∧Q ex∧((∃ w1472 w64,st.n=25∧st.s 1472=some (w1472,.arr false 37 1 (v2.map e37) 0)∧st.t 1=.ept 64 w64 4 0 0∧st.t 3=.osl 1472 w1472 1 0 v2.length∧st.t 4=.v (.int .i64 v1)∧st.s 64=some (w64,.arr true 115 4 [e115 a0] 0))∨(∃ w64,(st.n=25∧st.t 1=.ept 64 w64 4 0 0∧st.t 3=.nsl∧st.t 4=.v (.int .i64 v1)∧st.s 64=some (w64,.arr true 115 4 [e115 a0] 0))∧v2=[]))
abbrev QiC:=fun N (a0:TLocals) (Q:(List Int)→Prop) n (st:St)=>∃ (v1:Int) (v2:List Int) (ex:_),QaW N a0 n v1 v2=some ex∧Q ex∧((∃ w1920 w64,st.n=32∧st.s 1920=some (w1920,.arr false 37 1 (v2.map e37) 0)∧st.t 1=.ept 64 w64 3 0 0∧st.t 3=.osl 1920 w1920 1 0 v2.length∧st.t 4=.v (.int .i64 v1)∧st.s 64=some (w64,.arr true 29 3 [e29 a0] 0))∨(∃ w64,(st.n=32∧st.t 1=.ept 64 w64 3 0 0∧st.t 3=.nsl∧st.t 4=.v (.int .i64 v1)∧st.s 64=some (w64,.arr true 29 3 [e29 a0] 0))∧v2=[]))
abbrev QiD:=fun N (a1:List Int) (Q:(List TEntry)→Prop) n (st:St)=>∃ (v3:Int) (v4:Int) (v5:List TEntry) (ex:_),QaF N a1 n v3 v4 v5=some ex∧Q ex∧((∃ w1344 w256,st.n=48∧st.s 1344=some (w1344,.arr false 132 3 (v5.map e132) 0)∧st.t 1=.isl 37 1 (a1.map e37)∧st.t 4=.ept 256 w256 1 0 0∧st.t 6=.osl 1344 w1344 3 0 v5.length∧st.t 7=.v (.int .i64 v3)∧st.t 8=.v (.int .i64 v4)∧st.s 256=some (w256,.arr true 32 1 [[.nsl]] 0)))
abbrev QiE:=fun N (a0:TConf) (a1:Int) (Q:(Ex Int Unit)→Prop) n (st:St)=>∃ (v3:Int) (ex:_),QbD N a0 a1 n v3=some ex∧Q ex∧((∃ w128,st.n=28∧st.t 1=.v (.int .i64 a1)∧st.t 2=.ept 128 w128 2 0 0∧st.t 5=.v (.int .i64 v3)∧st.s 128=some (w128,.arr true 23 2 [e23 a0] 0)))
abbrev QgM:=fun N (a0:THeader) (Q:(List Int)→Prop) n (st:St)=>∃ (v1:Int) (v2:List Int) (ex:_),Qbf N a0 n v1 v2=some ex∧Q ex∧((∃ w1344 w64,st.n=23∧st.s 1344=some (w1344,.arr false 3 1 (v2.map e3) 0)∧st.t 1=.ept 64 w64 3 0 0∧st.t 3=.osl 1344 w1344 1 0 v2.length∧st.t 4=.v (.int .i64 v1)∧st.s 64=some (w64,.arr true 75 3 [e75 a0] 0))∨(∃ w64,(st.n=23∧st.t 1=.ept 64 w64 3 0 0∧st.t 3=.nsl∧st.t 4=.v (.int .i64 v1)∧st.s 64=some (w64,.arr true 75 3 [e75 a0] 0))∧v2=[]))
abbrev QhW:=fun N (a0:TWorld) (y1:List TThing) (Q:(List TThing)→Prop) n (st:St)=>∃ (v2:Int) (v3:List TThing) (ex:_),Qdn N a0 y1 n v2 v3=some ex∧Q ex∧((∃ w448 w64 w128,st.n=47∧st.s 448=some (w448,.arr false 77 4 (v3.map e77) 0)∧st.t 1=.ept 64 w64 10 0 0∧st.t 2=.ept 128 w128 10 0 0∧st.t 10=.osl 448 w448 4 0 v3.length∧st.t 11=.v (.int .i64 ((y1.length:Nat):Int))∧st.t 12=.v (.int .i64 v2)∧st.s 64=some (w64,.arr true 61 10 [[.v (.int .i64 a0.Conf.PageWords),.v (.int .i64 a0.Conf.Pages),.osl 448 w448 4 0 v3.length,.isl 210 3 (a0.Locals.Slots.map e210),.isl 159 3 (a0.Locals.Scopes.map e159),.isl 3 1 (a0.Locals.Issued.map e3),.isl 132 3 (a0.Globals.Entries.map e132),.isl 132 3 (a0.Weaks.Entries.map e132),.isl 116 3 (a0.Marks.map e116),.isl 37 1 (a0.Roots.map e37)]] 0)∧st.s 128=some (w128,.arr true 61 10 [[.v (.int .i64 0),.v (.int .i64 0),.nsl,.nsl,.nsl,.nsl,.nsl,.nsl,.nsl,.nsl]] 0)))
abbrev Qi3:=fun N (a0:List TField) (Q:(Ex (Int × Int) Unit)→Prop) n (st:St)=>∃ (v1:Int) (v2:Int) (ex:_),Qft N a0 n v1 v2=some ex∧Q ex∧((st.n=55∧st.t 0=.isl 291 2 (a0.map e291)∧st.t 4=.v (.int .i64 v1)∧st.t 11=.isl 291 2 (a0.map e291)∧st.t 12=.v (.int .i64 ((a0.length:Nat):Int))∧st.t 13=.v (.int .i64 v2)))
abbrev Qi4:=fun N (a0:List TField) (Q:(Ex (Int × Int) Int)→Prop) n (st:St)=>∃ (v5:Int) (v6:Int) (v7:Int) (ex:_),Qfu N a0 n v5 v6 v7=some ex∧Q ex∧((st.n=55∧st.t 7=.v (.int .u64 v5)∧st.t 8=.v (.int .i64 v6)∧st.t 31=.isl 291 2 (a0.map e291)∧st.t 32=.v (.int .i64 ((a0.length:Nat):Int))∧st.t 33=.v (.int .i64 v7)))
theorem g16:(∀ N (a0:TThing),OK (Qcs N a0) 67 [.agg (e115 a0)] [] (fun r=>.isl 37 1 (r.map e37)) fun r=>[])∧(∀ N (a0:TLocals),OK (QbC N a0) 127 [.agg (e29 a0)] [] (fun r=>.isl 37 1 (r.map e37)) fun r=>[])∧(∀ N (a0:TTable) (a1:List Int),OK (QbZ N a0 a1) 69 [.agg (e32 a0),.isl 37 1 (a1.map e37)] [] (fun r=>.tup [.agg (e32 r.1),.v (.int .i64 r.2)]) fun r=>[])∧(∀ N (a0:TConf) (a1:Int),OK (QdE N a0 a1) 233 [.agg (e23 a0),.v (.int .i64 a1)] [] (fun r=>.v (.int .i64 r)) fun r=>[])∧(∀ N (a0:THeader),OK (Qd2 N a0) 271 [.agg (e75 a0)] [] (fun r=>.isl 3 1 (r.map e3)) fun r=>[])∧(∀ N (a0:TWorld),OK (QeB N a0) 41 [.agg (e61 a0)] [] (fun r=>.agg [.v (.int .i64 r.Conf.PageWords),.v (.int .i64 r.Conf.Pages),.fsl 77 4 (r.Things.map e77),.isl 210 3 (r.Locals.Slots.map e210),.isl 159 3 (r.Locals.Scopes.map e159),.isl 3 1 (r.Locals.Issued.map e3),.isl 132 3 (r.Globals.Entries.map e132),.fsl 132 3 (r.Weaks.Entries.map e132),.isl 116 3 (r.Marks.map e116),.isl 37 1 (r.Roots.map e37)]) fun r=>[])∧(∀ N (a0:List TField),OK (QgU N a0) 230 [.isl 291 2 (a0.map e291)] [] (fun r=>.tup [.v (.int .u64 r.1),.v (.int .i64 r.2)]) fun r=>[]):=by
 refine ⟨fun N _=>rn Tryz.f67 [.tmp 2] [] 25 (by kernel_rfl) ?_,fun N _=>rn Tryz.f127 [.tmp 2] [] 32 (by kernel_rfl) ?_,fun N _ _=>rn Tryz.f69 [.cell 4 32,.tmp 5] [] 48 (by kernel_rfl) ?_,fun N _ _=>rn Tryz.f233 [.tmp 4] [] 28 (by kernel_rfl) ?_,fun N _=>rn Tryz.f271 [.tmp 2] [] 23 (by kernel_rfl) ?_,fun N _=>rn Tryz.f41 [.cell 2 61] [448,2176] 47 (by kernel_rfl) ?_,fun N _=>rn Tryz.f230 [.tmp 2,.tmp 3] [] 55 (by kernel_rfl) ?_⟩<;>(rintro _ hw r hr C _ rfl hwf hf;simp only[Tryz.f67,Tryz.f127,Tryz.f69,Tryz.f233,Tryz.f271,Tryz.f41,Tryz.f230,Option.get!];(first|rw[Qcs] at hr|rw[QbC] at hr|rw[QbZ] at hr|rw[QdE] at hr|rw[Qd2] at hr|rw[QeB] at hr|rw[QgU] at hr);repeat' first
 |(refine El.el hr ?_;intro hr)
 |(with_reducible intro h;refine bc_e hr h ?_;intro hr)
 |with_reducible intro _
 |(refine some_e hr ?_;rintro rfl;have hr:=hk;clear hk)
 |simp only[go_sem,simprocAttr,E,hl37,hl77,hl132,hl210,hl291]
 |(with_reducible first|apply guard_of_f|apply guard_of_t|apply cond_of|apply doT_of_t|apply doT_of_f)
 |((first|with_reducible refine idx_s hr (by assumption) ?_ ?_|(with_reducible refine idx_e hr ?_ ?_;rotate_left;intro p;rotate_right));(·simp only[go_sem,simprocAttr]);intro hp hn hd hr;(try have hl37:=hd _ e37);(try simp only[go_sem,simprocAttr] at hl37);(try have hl77:=hd _ e77);(try simp only[go_sem,simprocAttr] at hl77);(try have hl132:=hd _ e132);(try simp only[go_sem,simprocAttr] at hl132);(try have hl210:=hd _ e210);(try simp only[go_sem,simprocAttr] at hl210);(try have hl291:=hd _ e291);(try simp only[go_sem,simprocAttr] at hl291))
 |(refine and_of' ?_ ?_;·first|assumption|omega)
 |with_reducible refine CallX.c ?_ _
 |with_reducible refine OK.c hr hw ?_ (fun y hr=>?_) _
 |with_reducible refine OK.d hr hw ?_ (fun y hr=>?_) _
 |(with_reducible refine loop_e (I:=QiB N _) hr 1000 N (fun ex hq hk=>⟨_,_,ex,hq,hk,?_⟩) ?_ _;rotate_left;clear hr;(try clear E);rintro n1 st ⟨v1,v2,ex,hr,hk,(⟨_,_,E⟩|⟨_,E,z0⟩)⟩<;>(try subst z0)<;>(obtain _|n1:=n1<;>rw[QcE] at hr))
 |refine ⟨_,Nat.lt_succ_self _,_,_,_,hr,hk,?_⟩
 |(with_reducible refine loop_e (I:=QiC N _) hr 1000 N (fun ex hq hk=>⟨_,_,ex,hq,hk,?_⟩) ?_ _;rotate_left;clear hr;(try clear E);rintro n1 st ⟨v1,v2,ex,hr,hk,(⟨_,_,E⟩|⟨_,E,z0⟩)⟩<;>(try subst z0)<;>(obtain _|n1:=n1<;>rw[QaW] at hr))
 |(with_reducible refine loop_e (I:=QiD N _) hr 1000 N (fun ex hq hk=>⟨_,_,_,ex,hq,hk,?_⟩) ?_ _;rotate_left;clear hr;(try clear E);rintro n1 st ⟨v3,v4,v5,ex,hr,hk,⟨_,_,E⟩⟩<;>(obtain _|n1:=n1<;>rw[QaF] at hr))
 |refine ⟨_,Nat.lt_succ_self _,_,_,_,_,hr,hk,?_⟩
 |(with_reducible refine loop_e (I:=QiE N _ _) hr 1000 N (fun ex hq hk=>⟨_,ex,hq,hk,?_⟩) ?_ _;rotate_left;clear hr;(try clear E);rintro n1 st ⟨v3,ex,hr,hk,⟨_,E⟩⟩<;>(obtain _|n1:=n1<;>rw[QbD] at hr))
 |refine ⟨_,Nat.lt_succ_self _,_,_,hr,hk,?_⟩
 |(with_reducible refine loop_e (I:=QgM N _) hr 1000 N (fun ex hq hk=>⟨_,_,ex,hq,hk,?_⟩) ?_ _;rotate_left;clear hr;(try clear E);rintro n1 st ⟨v1,v2,ex,hr,hk,(⟨_,_,E⟩|⟨_,E,z0⟩)⟩<;>(try subst z0)<;>(obtain _|n1:=n1<;>rw[Qbf] at hr))
 |(with_reducible refine loop_e (I:=QhW N _ _) hr 1000 N (fun ex hq hk=>⟨_,_,ex,hq,hk,?_⟩) ?_ _;rotate_left;clear hr;(try clear E);rintro n1 st ⟨v2,v3,ex,hr,hk,⟨_,_,_,E⟩⟩<;>(obtain _|n1:=n1<;>rw[Qdn] at hr))
 |(with_reducible refine loop_e (I:=Qi3 N _) hr 1000 N (fun ex hq hk=>⟨_,_,ex,hq,hk,?_⟩) ?_ _;rotate_left;clear hr;(try clear E);rintro n1 st ⟨v1,v2,ex,hr,hk,E⟩<;>(obtain _|n1:=n1<;>rw[Qft] at hr))
 |(with_reducible refine loop_e (I:=Qi4 N _) hr 1000 N (fun ex hq hk=>⟨_,_,_,ex,hq,hk,?_⟩) ?_ _;rotate_left;clear hr;(try clear E);rintro n2 st ⟨v5,v6,v7,ex,hr,hk,E⟩<;>(obtain _|n2:=n2<;>rw[Qfu] at hr))
 |refine db 41 5 hf [([],[],[19,20,21,22],[1408]),([0],[],[19,20,21,22],[1408]),([],[],[17,18,20,21,22],[1408]),([],[],[17,18,19],[]),([3],[],[17,18,19],[]),([3,4],[1408],[17,18,19],[]),([0,1,2,3,4,5],[],[],[]),([0,1,2,3,4,5,6],[],[],[]),([0,1,2,3,4,5,6,7],[448,1408],[],[])] rfl rfl (by kernel_rfl) ?_ _
 |refine db 41 7 hf [([],[],[29,30,32,33],[]),([0],[],[29,30,32,33],[]),([0,1],[],[29,30,32,33],[]),([],[],[26,27,28,32,33],[]),([3],[],[26,27,28,32,33],[]),([0,1,2,3,4],[1984],[32,33,35],[]),([],[],[26,27,28,29,30,31],[1984]),([6],[],[26,27,28,29,30,31],[1984]),([0,1,2,3,4,5,6,7],[2176],[35],[]),([0,1,2,3,4,6,7],[],[31,34],[1984,2176]),([0,1,2,3,4,5,6,7,8,9],[64],[],[]),([0,1,2,3,4,5,6,7,8,9,10],[],[],[]),([0,1,2,3,4,5,6,7,8,9,10,11],[64],[],[]),([0,1,2,3,4,5,6,7,8,9,10,11,12],[],[],[]),([0,1,2,3,4,5,6,7,8,9,10,11,12,13],[64],[],[])] rfl rfl (by kernel_rfl) ?_ _
 |refine db 41 8 hf [([],[],[41,42],[]),([0],[],[41,42],[]),([0,1],[2560],[41,42],[]),([],[],[38,39,40],[2560]),([3],[],[38,39,40],[2560]),([0,1,2,3,4],[2752],[44],[]),([0,1,2,3,4],[],[43],[2752]),([0,1,2,3,4,5,6],[64],[],[]),([0,1,2,3,4,5,6,7],[],[],[]),([0,1,2,3,4,5,6,7,8],[64],[],[])] rfl rfl (by kernel_rfl) ?_ _
 |(refine some_e hr ?_;rintro rfl;with_reducible refine ret_k ?_)
 |exact no_e hr
 |((first|refine bc_e (c:=true) hr rfl ?_|refine bc_e (c:=false) hr rfl ?_|refine bc_e hr (by assumption) ?_);intro hr)
 |fail)
@[reducible,instance] def Qmc:=g16.1
@[reducible,instance] def Qmd:=g16.2.1
@[reducible,instance] def Qme:=g16.2.2.1
@[reducible,instance] def Qmf:=g16.2.2.2.1
@[reducible,instance] def QjZ:=g16.2.2.2.2.1
@[reducible,instance] def Qlj:=g16.2.2.2.2.2.1
@[reducible,instance] def QmP:=g16.2.2.2.2.2.2
end Go.Sx
