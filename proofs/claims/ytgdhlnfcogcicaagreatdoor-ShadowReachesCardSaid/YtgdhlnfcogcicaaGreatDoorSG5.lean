import Derived.Test.YtgdhlnfcogcicaaGreatDoorSF
import Derived.Test.YtgdhlnfcogcicaaGreatDoorSG1
import Derived.Test.YtgdhlnfcogcicaaGreatDoorSG2
import Derived.Test.YtgdhlnfcogcicaaGreatDoorSG3
set_option linter.all false
namespace Go.Sx
open Go.Proofs
set_option maxRecDepth 10000
set_option maxHeartbeats 100000000
abbrev QiA:=fun N (a0:TTable) (Q:(List Int)→Prop) n (st:St)=>∃ (v1:Int) (v2:List Int) (ex:_),QaV N a0 n v1 v2=some ex∧Q ex∧((∃ w1920 w64,st.n=32∧st.s 1920=some (w1920,.arr false 37 1 (v2.map e37) 0)∧st.t 1=.ept 64 w64 1 0 0∧st.t 3=.osl 1920 w1920 1 0 v2.length∧st.t 4=.v (.int .i64 v1)∧st.s 64=some (w64,.arr true 32 1 [e32 a0] 0))∨(∃ w64,(st.n=32∧st.t 1=.ept 64 w64 1 0 0∧st.t 3=.nsl∧st.t 4=.v (.int .i64 v1)∧st.s 64=some (w64,.arr true 32 1 [e32 a0] 0))∧v2=[]))
abbrev Qi2:=fun N (a0:TTable) (a1:Int) (Q:(Ex (TTable × Int × Int × Int) Unit)→Prop) n (st:St)=>∃ (v2:Int) (ex:_),Qa6 N a0 a1 n v2=some ex∧Q ex∧((∃ w896 w256,st.n=69∧st.s 896=some (w896,.arr false 132 3 (a0.Entries.map e132) 0)∧st.t 1=.v (.int .u64 a1)∧st.t 4=.ept 256 w256 1 0 0∧st.t 8=.osl 896 w896 3 0 a0.Entries.length∧st.t 9=.v (.int .i64 v2)∧st.s 256=some (w256,.arr true 32 1 [[.nsl]] 0)))
abbrev QhT:=fun N (a1:Int) (y1:List TRun) (Q:(Ex Int Unit)→Prop) n (st:St)=>∃ (v2:Int) (ex:_),Qcm N a1 y1 n v2=some ex∧Q ex∧((st.n=31∧st.t 1=.v (.int .i64 a1)∧st.t 5=.isl 359 2 (y1.map e359)∧st.t 6=.v (.int .i64 v2)))
abbrev Qfe:=fun N (a0:List (List Int)) (Q:Int→Prop) n (st:St)=>∃ (v1:Int) (v2:Int) (ex:_),Qat N a0 n v1 v2=some ex∧Q ex∧((st.n=36∧st.t 0=.isl 34 1 (a0.map e34)∧st.t 3=.v (.int .i64 v1)∧st.t 9=.isl 34 1 (a0.map e34)∧st.t 10=.v (.int .i64 ((a0.length:Nat):Int))∧st.t 11=.v (.int .i64 v2)))
abbrev Qff:=fun N (a0:List (List Int)) (Q:(List Int)→Prop) n (st:St)=>∃ (v6:Int) (v7:List Int) (ex:_),Qau N a0 n v6 v7=some ex∧Q ex∧((∃ w1536,st.n=36∧st.s 1536=some (w1536,.arr false 37 1 (v7.map e37) 0)∧st.t 6=.osl 1536 w1536 1 0 v7.length∧st.t 25=.isl 34 1 (a0.map e34)∧st.t 26=.v (.int .i64 ((a0.length:Nat):Int))∧st.t 27=.v (.int .i64 v6)))
abbrev QeO:=fun N (a0:List Int) (Q:(Ex Int Unit)→Prop) n (st:St)=>∃ (v1:Int) (ex:_),Qam N a0 n v1=some ex∧Q ex∧((st.n=19∧st.t 0=.isl 3 1 (a0.map e3)∧st.t 1=.clo (.func 193) [] []∧st.t 7=.v (.int .i64 ((a0.length:Nat):Int))∧st.t 8=.v (.int .i64 v1)))
abbrev Qd7:=fun N (a0:List Int) (c0:TWorld) (Q:(Ex Int Unit)→Prop) n (st:St)=>∃ (v1:Int) (ex:_),Qah N a0 c0 n v1=some ex∧Q ex∧((st.n=19∧st.t 0=.isl 37 1 (a0.map e37)∧st.t 1=.clo (.func 203) [] [.ept 1000000 0 10 0 0]∧st.t 7=.v (.int .i64 ((a0.length:Nat):Int))∧st.t 8=.v (.int .i64 v1)∧st.s 1000000=some (0,.arr true 61 10 [e61 c0] 0)))
abbrev QhU:=fun N (a0:Int) (a1:List Int) (Q:(Ex (List Int × Int) Unit)→Prop) n (st:St)=>∃ (v1:Int) (v2:Int) (ex:_),QeY N a0 a1 n v1 v2=some ex∧Q ex∧((st.n=49∧st.t 0=.v (.int .u64 a0)∧st.t 1=.isl 3 1 (a1.map e3)∧st.t 6=.v (.int .i64 v1)∧st.t 12=.isl 3 1 (a1.map e3)∧st.t 13=.v (.int .i64 ((a1.length:Nat):Int))∧st.t 14=.v (.int .i64 v2)))
abbrev QhV:=fun N (a1:List Int) (Q:(Int × List Int)→Prop) n (st:St)=>∃ (v5:Int) (v6:Int) (v7:List Int) (ex:_),QeZ N a1 n v5 v6 v7=some ex∧Q ex∧((∃ w2624,st.n=49∧st.s 2624=some (w2624,.arr false 37 1 (v7.map e37) 0)∧st.t 0=.v (.int .u64 v5)∧st.t 9=.osl 2624 w2624 1 0 v7.length∧st.t 29=.isl 3 1 (a1.map e3)∧st.t 30=.v (.int .i64 ((a1.length:Nat):Int))∧st.t 31=.v (.int .i64 v6))∨((st.n=49∧st.t 0=.v (.int .u64 v5)∧st.t 9=.nsl∧st.t 29=.isl 3 1 (a1.map e3)∧st.t 30=.v (.int .i64 ((a1.length:Nat):Int))∧st.t 31=.v (.int .i64 v6))∧v7=[]))
theorem g11:(∀ N (a0:TTable),OK (QaR N a0) 68 [.agg (e32 a0)] [] (fun r=>.fsl 37 1 (r.map e37)) fun r=>[])∧(∀ N (a0:TTable) (a1:Int),OK (Qbx N a0 a1) 106 [.agg (e32 a0),.v (.int .u64 a1)] [] (fun r=>.tup [.agg (e32 r.1),.v (.int .i64 r.2.1),.v (.int .i64 r.2.2.1),.v (.int .i64 r.2.2.2)]) fun r=>[])∧(∀ N (a0:List TPage) (a1:Int),OK (Qc5 N a0 a1) 282 [.isl 306 4 (a0.map e306),.v (.int .i64 a1)] [] (fun r=>.v (.int .i64 r)) fun r=>[])∧(∀ N (a0:List (List Int)),OK (Qar N a0) 59 [.isl 34 1 (a0.map e34)] [] (fun r=>.isl 37 1 (r.map e37)) fun r=>[])∧(∀ N (a0:List Int),OK (Qa9 N a0) 235 [.isl 3 1 (a0.map e3),.clo (.func 193) [] []] [] (fun r=>.v (.int .i64 r)) fun r=>[])∧(∀ N (a0:List Int) (c0:TWorld),OK (QaE N a0 c0) 239 [.isl 37 1 (a0.map e37),.clo (.func 203) [] [.ept 1000000 0 10 0 0]] [.arr true 61 10 [[.v (.int .i64 c0.Conf.PageWords),.v (.int .i64 c0.Conf.Pages),.isl 77 4 (c0.Things.map e77),.isl 210 3 (c0.Locals.Slots.map e210),.isl 159 3 (c0.Locals.Scopes.map e159),.isl 3 1 (c0.Locals.Issued.map e3),.isl 132 3 (c0.Globals.Entries.map e132),.isl 132 3 (c0.Weaks.Entries.map e132),.isl 116 3 (c0.Marks.map e116),.isl 37 1 (c0.Roots.map e37)]] 0] (fun r=>.v (.int .i64 r)) fun r=>[.arr true 61 10 [[.v (.int .i64 c0.Conf.PageWords),.v (.int .i64 c0.Conf.Pages),.isl 77 4 (c0.Things.map e77),.isl 210 3 (c0.Locals.Slots.map e210),.isl 159 3 (c0.Locals.Scopes.map e159),.isl 3 1 (c0.Locals.Issued.map e3),.isl 132 3 (c0.Globals.Entries.map e132),.isl 132 3 (c0.Weaks.Entries.map e132),.isl 116 3 (c0.Marks.map e116),.isl 37 1 (c0.Roots.map e37)]] 0])∧(∀ N (a0:Int) (a1:List Int),OK (Qgs N a0 a1) 226 [.v (.int .u64 a0),.isl 3 1 (a1.map e3)] [] (fun r=>.tup [.isl 37 1 (r.1.map e37),.v (.int .i64 r.2)]) fun r=>[]):=by
 refine ⟨fun N _=>rn Tryz.f68 [.tmp 2] [1920] 32 (by kernel_rfl) ?_,fun N _ _=>rn Tryz.f106 [.cell 4 32,.tmp 5,.tmp 6,.tmp 7] [] 69 (by kernel_rfl) ?_,fun N _ _=>rn Tryz.f282 [.tmp 4] [] 31 (by kernel_rfl) ?_,fun N _=>rn Tryz.f59 [.tmp 2] [] 36 (by kernel_rfl) ?_,fun N _=>rn Tryz.f235 [.tmp 4] [] 19 (by kernel_rfl) ?_,fun N _ _=>rn Tryz.f239 [.tmp 4] [] 19 (by kernel_rfl) ?_,fun N _ _=>rn Tryz.f226 [.tmp 4,.tmp 5] [] 49 (by kernel_rfl) ?_⟩<;>(rintro _ hw r hr C _ rfl hwf hf;simp only[Tryz.f68,Tryz.f106,Tryz.f282,Tryz.f59,Tryz.f235,Tryz.f239,Tryz.f226,Option.get!];(first|rw[QaR] at hr|rw[Qbx] at hr|rw[Qc5] at hr|rw[Qar] at hr|rw[Qa9] at hr|rw[QaE] at hr|rw[Qgs] at hr);repeat' first
 |(refine El.el hr ?_;intro hr)
 |(with_reducible intro h;refine bc_e hr h ?_;intro hr)
 |with_reducible intro _
 |(refine some_e hr ?_;rintro rfl;have hr:=hk;clear hk)
 |simp only[go_sem,simprocAttr,E,hl3,hl34,hl37,hl132,hl359]
 |(with_reducible first|apply guard_of_f|apply guard_of_t|apply cond_of|apply doT_of_t|apply doT_of_f)
 |((first|with_reducible refine idx_s hr (by assumption) ?_ ?_|(with_reducible refine idx_e hr ?_ ?_;rotate_left;intro p;rotate_right));(·simp only[go_sem,simprocAttr]);intro hp hn hd hr;(try have hl3:=hd _ e3);(try simp only[go_sem,simprocAttr] at hl3);(try have hl34:=hd _ e34);(try simp only[go_sem,simprocAttr] at hl34);(try have hl37:=hd _ e37);(try simp only[go_sem,simprocAttr] at hl37);(try have hl132:=hd _ e132);(try simp only[go_sem,simprocAttr] at hl132);(try have hl359:=hd _ e359);(try simp only[go_sem,simprocAttr] at hl359))
 |(refine and_of' ?_ ?_;·first|assumption|omega)
 |with_reducible refine CallX.c ?_ _
 |with_reducible refine OK.c hr hw ?_ (fun y hr=>?_) _
 |(with_reducible refine loop_e (I:=QiA N _) hr 1000 N (fun ex hq hk=>⟨_,_,ex,hq,hk,?_⟩) ?_ _;rotate_left;clear hr;(try clear E);rintro n1 st ⟨v1,v2,ex,hr,hk,(⟨_,_,E⟩|⟨_,E,z0⟩)⟩<;>(try subst z0)<;>(obtain _|n1:=n1<;>rw[QaV] at hr))
 |refine ⟨_,Nat.lt_succ_self _,_,_,_,hr,hk,?_⟩
 |(with_reducible refine loop_e (I:=Qi2 N _ _) hr 1000 N (fun ex hq hk=>⟨_,ex,hq,hk,?_⟩) ?_ _;rotate_left;clear hr;(try clear E);rintro n1 st ⟨v2,ex,hr,hk,⟨_,_,E⟩⟩<;>(obtain _|n1:=n1<;>rw[Qa6] at hr))
 |refine ⟨_,Nat.lt_succ_self _,_,_,hr,hk,?_⟩
 |(with_reducible refine loop_e (I:=QhT N _ _) hr 1000 N (fun ex hq hk=>⟨_,ex,hq,hk,?_⟩) ?_ _;rotate_left;clear hr;(try clear E);rintro n1 st ⟨v2,ex,hr,hk,E⟩<;>(obtain _|n1:=n1<;>rw[Qcm] at hr))
 |(with_reducible refine loop_e (I:=Qfe N _) hr 1000 N (fun ex hq hk=>⟨_,_,ex,hq,hk,?_⟩) ?_ _;rotate_left;clear hr;(try clear E);rintro n1 st ⟨v1,v2,ex,hr,hk,E⟩<;>(obtain _|n1:=n1<;>rw[Qat] at hr))
 |(with_reducible refine loop_e (I:=Qff N _) hr 1000 N (fun ex hq hk=>⟨_,_,ex,hq,hk,?_⟩) ?_ _;rotate_left;clear hr;(try clear E);rintro n2 st ⟨v6,v7,ex,hr,hk,⟨_,E⟩⟩<;>(obtain _|n2:=n2<;>rw[Qau] at hr))
 |(with_reducible refine loop_e (I:=QeO N _) hr 1000 N (fun ex hq hk=>⟨_,ex,hq,hk,?_⟩) ?_ _;rotate_left;clear hr;(try clear E);rintro n1 st ⟨v1,ex,hr,hk,E⟩<;>(obtain _|n1:=n1<;>rw[Qam] at hr))
 |(with_reducible refine loop_e (I:=Qd7 N _ _) hr 1000 N (fun ex hq hk=>⟨_,ex,hq,hk,?_⟩) ?_ _;rotate_left;clear hr;(try clear E);rintro n1 st ⟨v1,ex,hr,hk,E⟩<;>(obtain _|n1:=n1<;>rw[Qah] at hr))
 |(with_reducible refine loop_e (I:=QhU N _ _) hr 1000 N (fun ex hq hk=>⟨_,_,ex,hq,hk,?_⟩) ?_ _;rotate_left;clear hr;(try clear E);rintro n1 st ⟨v1,v2,ex,hr,hk,E⟩<;>(obtain _|n1:=n1<;>rw[QeY] at hr))
 |(with_reducible refine loop_e (I:=QhV N _) hr 1000 N (fun ex hq hk=>⟨_,_,_,ex,hq,hk,?_⟩) ?_ _;rotate_left;clear hr;(try clear E);rintro n2 st ⟨v5,v6,v7,ex,hr,hk,(⟨_,E⟩|⟨E,z0⟩)⟩<;>(try subst z0)<;>(obtain _|n2:=n2<;>rw[QeZ] at hr))
 |refine ⟨_,Nat.lt_succ_self _,_,_,_,_,hr,hk,?_⟩
 |refine db 106 9 hf [([],[],[51,52,53,54,55,56],[]),([0],[],[51,52,53,54,55,56],[]),([],[],[49,50,52,53,54,55,56],[256]),([],[],[5,49,50,51,53],[256]),([],[],[5,49,50,51,52],[256]),([3,4],[],[5,49,50,51],[256]),([3,4,5],[],[5,49,50,51],[256]),([3,4,5,6],[],[5,49,50,51],[256]),([0,1],[256],[51,52,53,54,55,56],[]),([0,1,2,8],[],[52,53,54,55,56],[]),([0,1,2,3,4,5,6,7,8,9],[],[],[]),([0,1,2,3,4,5,6,7,8,9,10],[],[],[])] rfl rfl (by kernel_rfl) ?_ _
 |(refine some_e hr ?_;rintro rfl;with_reducible refine ret_k ?_)
 |exact no_e hr
 |((first|refine bc_e (c:=true) hr rfl ?_|refine bc_e (c:=false) hr rfl ?_|refine bc_e hr (by assumption) ?_);intro hr)
 |fail)
@[reducible,instance] def Ql2:=g11.1
@[reducible,instance] def QmF:=g11.2.1
@[reducible,instance] def Qk9:=g11.2.2.1
@[reducible,instance] def QiO:=g11.2.2.2.1
@[reducible,instance] def Qho:=g11.2.2.2.2.1
@[reducible,instance] def QgG:=g11.2.2.2.2.2.1
@[reducible,instance] def Qla:=g11.2.2.2.2.2.2
theorem g7:(∀ N (a0:TPair) (a1:TTape),OK (QaY N a0 a1) 36 [.agg (e47 a0),.ept 1000000 0 2 0 0] [.arr true 51 2 [[.isl 3 1 (a1.L.map e3),.v (.int .i64 a1.at_)]] 0] (fun r=>.v (.int .u64 r.1)) fun r=>[.arr true 51 2 [[.isl 3 1 (r.2.L.map e3),.v (.int .i64 r.2.at_)]] 0])∧(∀ N (a0:THeader) (a1:Int),OK (Qbm N a0 a1) 128 [.agg (e75 a0),.v (.int .i64 a1)] [] (fun r=>.v (.bool r)) fun r=>[])∧(∀ N (a0:TTable) (a1:Int) (a2:Int),OK (Qcv N a0 a1 a2) 103 [.agg (e32 a0),.v (.int .i64 a1),.v (.int .i64 a2)] [] (fun r=>.tup [.v (.int .u64 r.1),.v (.int .i64 r.2)]) fun r=>[])∧(∀ N (a0:THeader),OK (Qb0 N a0) 253 [.agg (e75 a0)] [] (fun r=>.tup [.v (.int .u64 r.1),.v (.int .i64 r.2)]) fun r=>[])∧(∀ N (a0:List TPage) (a1:Int) (a2:Int),OK (Qc6 N a0 a1 a2) 283 [.isl 306 4 (a0.map e306),.v (.int .i64 a1),.v (.int .i64 a2)] [] (fun r=>.tup [.fsl 306 4 (r.1.map e306),.v (.int .i64 r.2)]) fun r=>[])∧(∀ N (a0:THeader),OK (QcA N a0) 200 [.agg (e75 a0)] [] (fun r=>.v (.bool r)) fun r=>[])∧(∀ N (a0:TConf),OK (Qfr N a0) 278 [.agg (e23 a0)] [] (fun r=>.v (.int .i64 r)) fun r=>[]):=by
 refine ⟨fun N _ _=>rn Tryz.f36 [.tmp 4] [] 53 (by kernel_rfl) ?_,fun N _ _=>rn Tryz.f128 [.tmp 4] [] 35 (by kernel_rfl) ?_,fun N _ _ _=>rn Tryz.f103 [.tmp 6,.tmp 7] [] 57 (by kernel_rfl) ?_,fun N _=>rn Tryz.f253 [.tmp 2,.tmp 3] [] 22 (by kernel_rfl) ?_,fun N _ _ _=>rn Tryz.f283 [.tmp 6,.tmp 7] [1216] 22 (by kernel_rfl) ?_,fun N _=>rn Tryz.f200 [.tmp 2] [] 43 (by kernel_rfl) ?_,fun N _=>rn Tryz.f278 [.tmp 2] [] 9 (by kernel_rfl) ?_⟩<;>(rintro _ hw r hr C _ rfl hwf hf;simp only[Tryz.f36,Tryz.f128,Tryz.f103,Tryz.f253,Tryz.f283,Tryz.f200,Tryz.f278,Option.get!];(first|rw[QaY] at hr|rw[Qbm] at hr|rw[Qcv] at hr|rw[Qb0] at hr|rw[Qc6] at hr|rw[QcA] at hr|rw[Qfr] at hr);repeat' first
 |(refine El.el hr ?_;intro hr)
 |(with_reducible intro h;refine bc_e hr h ?_;intro hr)
 |with_reducible intro _
 |simp only[go_sem,simprocAttr,hl37,hl132]
 |(with_reducible first|apply guard_of_f|apply guard_of_t|apply cond_of|apply doT_of_t|apply doT_of_f)
 |((first|with_reducible refine idx_s hr (by assumption) ?_ ?_|(with_reducible refine idx_e hr ?_ ?_;rotate_left;intro p;rotate_right));(·simp only[go_sem,simprocAttr]);intro hp hn hd hr;(try have hl37:=hd _ e37);(try simp only[go_sem,simprocAttr] at hl37);(try have hl132:=hd _ e132);(try simp only[go_sem,simprocAttr] at hl132))
 |(refine and_of' ?_ ?_;·first|assumption|omega)
 |with_reducible refine CallX.c ?_ _
 |with_reducible refine OK.c hr hw ?_ (fun y hr=>?_) _
 |with_reducible refine OK.d hr hw ?_ (fun y hr=>?_) _
 |refine db 36 6 hf [([],[],[22,23,24,27,28,29],[1000000]),([0],[],[22,23,24,27,28,29],[1000000]),([],[],[20,21,23,27],[]),([],[],[20,21,22,27],[]),([2,3],[1000000],[20,21,27],[]),([0,1,2,3,4],[],[27,28,29],[1000000]),([0,1,2,3,4,5],[],[27,28,29],[1000000]),([],[],[20,21,22,23,24,25,26],[1000000]),([2,3,4,7],[1000000],[20,21,25,26],[]),([2,3,4,7,8],[],[20,21,25,26],[]),([0,1,2,3,4,5,6,7,8,9],[],[],[]),([0,1,2,3,4,5,6,7,8,9,10],[],[],[])] rfl rfl (by kernel_rfl) ?_ _
 |refine db 36 10 hf [([],[],[37,38,39],[1000000]),([0],[],[37,38,39],[1000000]),([],[],[35,36,38],[]),([],[],[35,36,37],[]),([2,3],[1000000],[35,36],[]),([0,1,2,3,4],[],[],[]),([0,1,2,3,4,5],[],[],[]),([0,1,2,3,4,5,6],[],[],[])] rfl rfl (by kernel_rfl) ?_ _
 |refine db 36 11 hf [([],[],[44,45,46,47,48,49,50],[1000000]),([0],[],[44,45,46,47,48,49,50],[1000000]),([],[],[42,43,46,47,48,49],[1000000]),([2],[],[42,43,46,47,48,49],[1000000]),([],[],[42,43,44,45,47,48],[]),([],[],[42,43,44,45,46],[]),([5],[],[42,43,44,45,46],[]),([4,5,6],[1000000],[42,43,44,45],[]),([2,3,4,5,6,7],[],[42,43],[]),([0,1,2,3,4,5,6,7,8],[],[],[]),([0,1,2,3,4,5,6,7,8,9],[],[],[]),([0,1,2,3,4,5,6,7,8,9,10],[],[],[])] rfl rfl (by kernel_rfl) ?_ _
 |refine db 200 4 hf [([],[],[],[]),([0],[],[],[]),([0,1],[],[],[]),([0,1,2],[],[],[]),([0,1,2,3],[],[31,32,33],[]),([0,1,2,3,4],[],[31,32,33],[]),([0,1,2,3,4,5],[],[31,32,33],[]),([0,1,2,3],[],[28,29,30],[]),([0,1,2,3,7],[],[28,29,30],[]),([0,1,2,3,7,8],[],[28,29,30],[]),([0,1,2,3,4,5,6,7,8,9],[],[],[]),([0,1,2,3,4,5,6,7,8,9,10],[],[],[]),([0,1,2,3,4,5,6,7,8,9,10,11],[],[],[])] rfl rfl (by kernel_rfl) ?_ _
 |(refine some_e hr ?_;rintro rfl;with_reducible refine ret_k ?_)
 |exact no_e hr
 |fail)
@[reducible,instance] def QjU:=g7.1
@[reducible,instance] def Qka:=g7.2.1
@[reducible,instance] def QmG:=g7.2.2.1
@[reducible,instance] def QkB:=g7.2.2.2.1
@[reducible,instance] def Qlb:=g7.2.2.2.2.1
@[reducible,instance] def QkC:=g7.2.2.2.2.2.1
@[reducible,instance] def QjO:=g7.2.2.2.2.2.2
theorem g9:(∀ N (a0:TTape),OK (QdZ N a0) 75 [.ept 1000000 0 2 0 0] [.arr true 51 2 [[.isl 3 1 (a0.L.map e3),.v (.int .i64 a0.at_)]] 0] (fun r=>.agg (e23 r.1)) fun r=>[.arr true 51 2 [[.isl 3 1 (r.2.L.map e3),.v (.int .i64 r.2.at_)]] 0])∧(∀ N (a0:THeader),OK (QbE N a0) 234 [.agg (e75 a0)] [] (fun r=>.v (.int .i64 r)) fun r=>[])∧(∀ N (a0:List Int) (a1:Int),OK (QfE N a0 a1) 272 [.isl 37 1 (a0.map e37),.v (.int .u64 a1)] [] (fun r=>.tup [.v (.int .i64 r.1),.v (.int .i64 r.2)]) fun r=>[])∧(∀ N (a0:List Int) (a1:Int) (a2:Int),OK (QdH N a0 a1 a2) 284 [.isl 37 1 (a0.map e37),.v (.int .u64 a1),.v (.int .i64 a2)] [] (fun r=>.tup [.isl 37 1 (r.1.map e37),.v (.int .i64 r.2)]) fun r=>[])∧(∀ N (a0:TWorld) (a1:TTape),OK (Qeo N a0 a1) 37 [.agg (e36 a0),.ept 1000000 0 2 0 0] [.arr true 51 2 [[.isl 3 1 (a1.L.map e3),.v (.int .i64 a1.at_)]] 0] (fun r=>.agg (e36 r.1)) fun r=>[.arr true 51 2 [[.isl 3 1 (r.2.L.map e3),.v (.int .i64 r.2.at_)]] 0])∧(∀ N (a0:TTable),OK (Qd6 N a0) 84 [.agg (e32 a0)] [] (fun r=>.agg [.fsl 132 3 (r.Entries.map e132)]) fun r=>[])∧(∀ N (a0:Int) (a1:Int),OK (QgT N a0 a1) 262 [.v (.int .u64 a0),.v (.int .i64 a1)] [] (fun r=>.v (.bool r)) fun r=>[]):=by
 refine ⟨fun N _=>rn Tryz.f75 [.cell 2 23] [] 14 (by kernel_rfl) ?_,fun N _=>rn Tryz.f234 [.tmp 2] [] 9 (by kernel_rfl) ?_,fun N _ _=>rn Tryz.f272 [.tmp 4,.tmp 5] [] 17 (by kernel_rfl) ?_,fun N _ _ _=>rn Tryz.f284 [.tmp 6,.tmp 7] [] 29 (by kernel_rfl) ?_,fun N _ _=>rn Tryz.f37 [.cell 4 36] [] 97 (by kernel_rfl) ?_,fun N _=>rn Tryz.f84 [.cell 2 32] [320] 7 (by kernel_rfl) ?_,fun N _ _=>rn Tryz.f262 [.tmp 4] [] 10 (by kernel_rfl) ?_⟩<;>(rintro _ hw r hr C _ rfl hwf hf;simp only[Tryz.f75,Tryz.f234,Tryz.f272,Tryz.f284,Tryz.f37,Tryz.f84,Tryz.f262,Option.get!];(first|rw[QdZ] at hr|rw[QbE] at hr|rw[QfE] at hr|rw[QdH] at hr|rw[Qeo] at hr|rw[Qd6] at hr|rw[QgT] at hr);repeat' first
 |(refine El.el hr ?_;intro hr)
 |(with_reducible intro h;refine bc_e hr h ?_;intro hr)
 |with_reducible intro _
 |simp only[go_sem,simprocAttr,hl3,hl115,List.length_take,List.length_drop,Nat.min_self]
 |(with_reducible first|apply guard_of_f|apply guard_of_t|apply cond_of|apply doT_of_t|apply doT_of_f)
 |((first|with_reducible refine idx_s hr (by assumption) ?_ ?_|(with_reducible refine idx_e hr ?_ ?_;rotate_left;intro p;rotate_right));(·simp only[go_sem,simprocAttr,List.length_take,List.length_drop,Nat.min_self]);intro hp hn hd hr;(try have hl3:=hd _ e3);(try simp only[go_sem,simprocAttr] at hl3);(try have hl115:=hd _ e115);(try simp only[go_sem,simprocAttr] at hl115))
 |(refine and_of' ?_ ?_;·first|assumption|omega)
 |with_reducible refine CallX.c ?_ _
 |with_reducible refine OK.c hr hw ?_ (fun y hr=>?_) _
 |with_reducible refine OK.d hr hw ?_ (fun y hr=>?_) _
 |refine db 75 1 hf [([],[192],[4,5,8,9,10,11,12],[512,1000000]),([],[],[3,8,9],[192,512]),([1],[1000000],[3,8,9],[192,512]),([0,1,2],[],[8,9,10,11,12],[512,1000000]),([0,1,2,3],[],[8,9,10,11,12],[512,1000000]),([],[512],[3,4,5,6,7,9,10],[192,1000000]),([],[],[3,4,5,6,7,8],[192,512,1000000]),([1,2,6],[1000000],[3,6,7,8],[192,512]),([1,2,5,6,7],[],[3,6,7],[192]),([1,2,5,6,7,8],[],[3,6,7],[192]),([0,1,2,3,4,5,6,7,8,9],[],[],[]),([0,1,2,3,4,5,6,7,8,9,10],[128],[],[])] rfl rfl (by kernel_rfl) ?_ _
 |refine db 37 12 hf [([],[],[50,51,52],[1000000]),([0],[],[50,51,52],[1000000]),([],[],[48,49,51,52],[1000000]),([],[],[48,49,50],[]),([3],[1000000],[48,49,50],[]),([0,1,2,3,4],[],[],[]),([0,1,2,3,4,5],[],[],[]),([0,1,2,3,4,5,6],[],[],[]),([0,1,2,3,4,5,6,7],[2560],[],[])] rfl rfl (by kernel_rfl) ?_ _
 |(refine some_e hr ?_;rintro rfl;with_reducible refine ret_k ?_)
 |exact no_e hr
 |fail)
@[reducible,instance] def QjV:=g9.1
@[reducible,instance] def Ql3:=g9.2.1
@[reducible,instance] def Qlc:=g9.2.2.1
@[reducible,instance] def Ql4:=g9.2.2.2.1
@[reducible,instance] def Ql5:=g9.2.2.2.2.1
@[reducible,instance] def QkD:=g9.2.2.2.2.2.1
@[reducible,instance] def QmH:=g9.2.2.2.2.2.2
end Go.Sx
