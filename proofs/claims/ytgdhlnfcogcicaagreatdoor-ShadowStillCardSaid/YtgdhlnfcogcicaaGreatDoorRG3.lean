import Derived.Test.YtgdhlnfcogcicaaGreatDoorRF
import Derived.Test.YtgdhlnfcogcicaaGreatDoorRG0
import Derived.Test.YtgdhlnfcogcicaaGreatDoorRG1
set_option linter.all false
namespace Go.Sx
open Go.Proofs
set_option maxRecDepth 10000
set_option maxHeartbeats 100000000
abbrev Qir:=fun N (a0:TLocals) (Q:(Ex Bool Unit)→Prop) n (st:St)=>∃ (v1:Int) (ex:_),QcA N a0 n v1=some ex∧Q ex∧((∃ w64,st.n=174∧st.t 1=.ept 64 w64 3 0 0∧st.t 3=.v (.int .i64 v1)∧st.s 64=some (w64,.arr true 29 3 [e29 a0] 0)))
abbrev Qis:=fun N (a0:TLocals) (Q:(Ex Bool Unit)→Prop) n (st:St)=>∃ (v5:Int) (v6:Int) (ex:_),Qam N a0 n v5 v6=some ex∧Q ex∧((∃ w64,st.n=174∧st.t 1=.ept 64 w64 3 0 0∧st.t 4=.v (.int .i64 v5)∧st.t 5=.v (.int .i64 v6)∧st.s 64=some (w64,.arr true 29 3 [e29 a0] 0)))
abbrev Qit:=fun N (a0:TLocals) (Q:(Ex Bool Unit)→Prop) n (st:St)=>∃ (v10:Int) (v11:Int) (ex:_),Qak N a0 n v10 v11=some ex∧Q ex∧((∃ w64,st.n=174∧st.t 1=.ept 64 w64 3 0 0∧st.t 7=.v (.int .i64 v10)∧st.t 8=.v (.int .i64 v11)∧st.s 64=some (w64,.arr true 29 3 [e29 a0] 0)))
abbrev Qiu:=fun N (a0:TLocals) (Q:(Ex Bool Unit)→Prop) n (st:St)=>∃ (v14:Int) (ex:_),Qb6 N a0 n v14=some ex∧Q ex∧((∃ w64,st.n=174∧st.t 1=.ept 64 w64 3 0 0∧st.t 10=.v (.int .i64 v14)∧st.s 64=some (w64,.arr true 29 3 [e29 a0] 0)))
abbrev Qiv:=fun N (a2:List Int) (y1:Int × Bool) (Q:(List Int)→Prop) n (st:St)=>∃ (v2:Int) (v3:List Int) (ex:_),Qbn N a2 y1 n v2 v3=some ex∧Q ex∧((∃ w1408,st.n=41∧st.s 1408=some (w1408,.arr false 37 1 (v3.map e37) 0)∧st.t 2=.isl 37 1 (a2.map e37)∧st.t 8=.v (.int .i64 y1.1)∧st.t 10=.osl 1408 w1408 1 0 v3.length∧st.t 11=.v (.int .i64 v2)))
abbrev Qf4:=fun N (a0:List (List Int)) (Q:Int→Prop) n (st:St)=>∃ (v1:Int) (v2:Int) (ex:_),QaD N a0 n v1 v2=some ex∧Q ex∧((st.n=36∧st.t 0=.isl 34 1 (a0.map e34)∧st.t 3=.v (.int .i64 v1)∧st.t 9=.isl 34 1 (a0.map e34)∧st.t 10=.v (.int .i64 ((a0.length:Nat):Int))∧st.t 11=.v (.int .i64 v2)))
abbrev Qf5:=fun N (a0:List (List Int)) (Q:(List Int)→Prop) n (st:St)=>∃ (v6:Int) (v7:List Int) (ex:_),QaE N a0 n v6 v7=some ex∧Q ex∧((∃ w1536,st.n=36∧st.s 1536=some (w1536,.arr false 37 1 (v7.map e37) 0)∧st.t 6=.osl 1536 w1536 1 0 v7.length∧st.t 25=.isl 34 1 (a0.map e34)∧st.t 26=.v (.int .i64 ((a0.length:Nat):Int))∧st.t 27=.v (.int .i64 v6)))
abbrev QfJ:=fun N (a0:List Int) (Q:(Ex Int Unit)→Prop) n (st:St)=>∃ (v1:Int) (ex:_),Qau N a0 n v1=some ex∧Q ex∧((st.n=19∧st.t 0=.isl 3 1 (a0.map e3)∧st.t 1=.clo (.func 193) [] []∧st.t 7=.v (.int .i64 ((a0.length:Nat):Int))∧st.t 8=.v (.int .i64 v1)))
abbrev QeM:=fun N (a0:List Int) (c0:TWorld) (Q:(Ex Int Unit)→Prop) n (st:St)=>∃ (v1:Int) (ex:_),Qap N a0 c0 n v1=some ex∧Q ex∧((st.n=19∧st.t 0=.isl 37 1 (a0.map e37)∧st.t 1=.clo (.func 203) [] [.ept 1000000 0 10 0 0]∧st.t 7=.v (.int .i64 ((a0.length:Nat):Int))∧st.t 8=.v (.int .i64 v1)∧st.s 1000000=some (0,.arr true 61 10 [e61 c0] 0)))
abbrev Qiw:=fun N (a0:Int) (a1:List Int) (Q:(Ex (List Int × Int) Unit)→Prop) n (st:St)=>∃ (v1:Int) (v2:Int) (ex:_),QbL N a0 a1 n v1 v2=some ex∧Q ex∧((st.n=49∧st.t 0=.v (.int .u64 a0)∧st.t 1=.isl 3 1 (a1.map e3)∧st.t 6=.v (.int .i64 v1)∧st.t 12=.isl 3 1 (a1.map e3)∧st.t 13=.v (.int .i64 ((a1.length:Nat):Int))∧st.t 14=.v (.int .i64 v2)))
abbrev Qix:=fun N (a1:List Int) (Q:(Int × List Int)→Prop) n (st:St)=>∃ (v5:Int) (v6:Int) (v7:List Int) (ex:_),QbM N a1 n v5 v6 v7=some ex∧Q ex∧((∃ w2624,st.n=49∧st.s 2624=some (w2624,.arr false 37 1 (v7.map e37) 0)∧st.t 0=.v (.int .u64 v5)∧st.t 9=.osl 2624 w2624 1 0 v7.length∧st.t 29=.isl 3 1 (a1.map e3)∧st.t 30=.v (.int .i64 ((a1.length:Nat):Int))∧st.t 31=.v (.int .i64 v6))∨((st.n=49∧st.t 0=.v (.int .u64 v5)∧st.t 9=.nsl∧st.t 29=.isl 3 1 (a1.map e3)∧st.t 30=.v (.int .i64 ((a1.length:Nat):Int))∧st.t 31=.v (.int .i64 v6))∧v7=[]))
abbrev Qdp:=fun N (a0:List TMark) (Q:(Ex Int Unit)→Prop) n (st:St)=>∃ (v1:Int) (ex:_),Qab N a0 n v1=some ex∧Q ex∧((st.n=19∧st.t 0=.isl 116 3 (a0.map e116)∧st.t 1=.clo (.func 184) [] []∧st.t 7=.v (.int .i64 ((a0.length:Nat):Int))∧st.t 8=.v (.int .i64 v1)))
theorem g11:(∀ N (a0:TLocals),OK (QbC N a0) 110 [.agg (e29 a0)] [] (fun r=>.v (.bool r)) fun r=>[])∧(∀ N (a0:List Int) (a1:Int) (a2:List Int),OK (Qcd N a0 a1 a2) 254 [.isl 37 1 (a0.map e37),.v (.int .u64 a1),.isl 37 1 (a2.map e37)] [] (fun r=>.tup [.isl 37 1 (r.1.map e37),.v (.int .i64 r.2)]) fun r=>[])∧(∀ N (a0:List (List Int)),OK (Qa9 N a0) 59 [.isl 34 1 (a0.map e34)] [] (fun r=>.isl 37 1 (r.map e37)) fun r=>[])∧(∀ N (a0:List Int),OK (Qbk N a0) 235 [.isl 3 1 (a0.map e3),.clo (.func 193) [] []] [] (fun r=>.v (.int .i64 r)) fun r=>[])∧(∀ N (a0:List Int) (c0:TWorld),OK (QaP N a0 c0) 239 [.isl 37 1 (a0.map e37),.clo (.func 203) [] [.ept 1000000 0 10 0 0]] [.arr true 61 10 [[.v (.int .i64 c0.Conf.PageWords),.v (.int .i64 c0.Conf.Pages),.isl 77 4 (c0.Things.map e77),.isl 210 3 (c0.Locals.Slots.map e210),.isl 159 3 (c0.Locals.Scopes.map e159),.isl 3 1 (c0.Locals.Issued.map e3),.isl 132 3 (c0.Globals.Entries.map e132),.isl 132 3 (c0.Weaks.Entries.map e132),.isl 116 3 (c0.Marks.map e116),.isl 37 1 (c0.Roots.map e37)]] 0] (fun r=>.v (.int .i64 r)) fun r=>[.arr true 61 10 [[.v (.int .i64 c0.Conf.PageWords),.v (.int .i64 c0.Conf.Pages),.isl 77 4 (c0.Things.map e77),.isl 210 3 (c0.Locals.Slots.map e210),.isl 159 3 (c0.Locals.Scopes.map e159),.isl 3 1 (c0.Locals.Issued.map e3),.isl 132 3 (c0.Globals.Entries.map e132),.isl 132 3 (c0.Weaks.Entries.map e132),.isl 116 3 (c0.Marks.map e116),.isl 37 1 (c0.Roots.map e37)]] 0])∧(∀ N (a0:Int) (a1:List Int),OK (Qf1 N a0 a1) 226 [.v (.int .u64 a0),.isl 3 1 (a1.map e3)] [] (fun r=>.tup [.isl 37 1 (r.1.map e37),.v (.int .i64 r.2)]) fun r=>[])∧(∀ N (a0:List TMark),OK (Qao N a0) 181 [.isl 116 3 (a0.map e116),.clo (.func 184) [] []] [] (fun r=>.v (.int .i64 r)) fun r=>[]):=by
 refine ⟨fun N _=>rn Tryz.f110 [.tmp 2] [] 174 (by kernel_rfl) ?_,fun N _ _ _=>rn Tryz.f254 [.tmp 6,.tmp 7] [] 41 (by kernel_rfl) ?_,fun N _=>rn Tryz.f59 [.tmp 2] [] 36 (by kernel_rfl) ?_,fun N _=>rn Tryz.f235 [.tmp 4] [] 19 (by kernel_rfl) ?_,fun N _ _=>rn Tryz.f239 [.tmp 4] [] 19 (by kernel_rfl) ?_,fun N _ _=>rn Tryz.f226 [.tmp 4,.tmp 5] [] 49 (by kernel_rfl) ?_,fun N _=>rn Tryz.f181 [.tmp 4] [] 19 (by kernel_rfl) ?_⟩<;>(rintro _ hw r hr C _ rfl hwf hf;simp only[Tryz.f110,Tryz.f254,Tryz.f59,Tryz.f235,Tryz.f239,Tryz.f226,Tryz.f181,Option.get!];(first|rw[QbC] at hr|rw[Qcd] at hr|rw[Qa9] at hr|rw[Qbk] at hr|rw[QaP] at hr|rw[Qf1] at hr|rw[Qao] at hr);repeat' first
 |(refine El.el hr ?_;intro hr)
 |(with_reducible intro h;refine bc_e hr h ?_;intro hr)
 |with_reducible intro _
 |(refine some_e hr ?_;rintro rfl;have hr:=hk;clear hk)
 |simp only[go_sem,simprocAttr,E,hl3,hl34,hl37,hl116,hl159,hl210]
 |(with_reducible first|apply guard_of_f|apply guard_of_t|apply cond_of|apply doT_of_t|apply doT_of_f)
 |((first|with_reducible refine idx_s hr (by assumption) ?_ ?_|(with_reducible refine idx_e hr ?_ ?_;rotate_left;intro p;rotate_right));(·simp only[go_sem,simprocAttr]);intro hp hn hd hr;(try have hl3:=hd _ e3);(try simp only[go_sem,simprocAttr] at hl3);(try have hl34:=hd _ e34);(try simp only[go_sem,simprocAttr] at hl34);(try have hl37:=hd _ e37);(try simp only[go_sem,simprocAttr] at hl37);(try have hl116:=hd _ e116);(try simp only[go_sem,simprocAttr] at hl116);(try have hl159:=hd _ e159);(try simp only[go_sem,simprocAttr] at hl159);(try have hl210:=hd _ e210);(try simp only[go_sem,simprocAttr] at hl210))
 |(refine and_of' ?_ ?_;·first|assumption|omega)
 |with_reducible refine CallX.c ?_ _
 |with_reducible refine OK.c hr hw ?_ (fun y hr=>?_) _
 |with_reducible refine OK.d hr hw ?_ (fun y hr=>?_) _
 |(with_reducible refine loop_e (I:=Qir N _) hr 1000 N (fun ex hq hk=>⟨_,ex,hq,hk,?_⟩) ?_ _;rotate_left;clear hr;(try clear E);rintro n1 st ⟨v1,ex,hr,hk,⟨_,E⟩⟩<;>(obtain _|n1:=n1<;>rw[QcA] at hr))
 |refine ⟨_,Nat.lt_succ_self _,_,_,hr,hk,?_⟩
 |(with_reducible refine loop_e (I:=Qis N _) hr 1000 N (fun ex hq hk=>⟨_,_,ex,hq,hk,?_⟩) ?_ _;rotate_left;clear hr;(try clear E);rintro n2 st ⟨v5,v6,ex,hr,hk,⟨_,E⟩⟩<;>(obtain _|n2:=n2<;>rw[Qam] at hr))
 |refine ⟨_,Nat.lt_succ_self _,_,_,_,hr,hk,?_⟩
 |(with_reducible refine loop_e (I:=Qit N _) hr 1000 N (fun ex hq hk=>⟨_,_,ex,hq,hk,?_⟩) ?_ _;rotate_left;clear hr;(try clear E);rintro n3 st ⟨v10,v11,ex,hr,hk,⟨_,E⟩⟩<;>(obtain _|n3:=n3<;>rw[Qak] at hr))
 |(with_reducible refine loop_e (I:=Qiu N _) hr 1000 N (fun ex hq hk=>⟨_,ex,hq,hk,?_⟩) ?_ _;rotate_left;clear hr;(try clear E);rintro n4 st ⟨v14,ex,hr,hk,⟨_,E⟩⟩<;>(obtain _|n4:=n4<;>rw[Qb6] at hr))
 |(with_reducible refine loop_e (I:=Qiv N _ _) hr 1000 N (fun ex hq hk=>⟨_,_,ex,hq,hk,?_⟩) ?_ _;rotate_left;clear hr;(try clear E);rintro n1 st ⟨v2,v3,ex,hr,hk,⟨_,E⟩⟩<;>(obtain _|n1:=n1<;>rw[Qbn] at hr))
 |(with_reducible refine loop_e (I:=Qf4 N _) hr 1000 N (fun ex hq hk=>⟨_,_,ex,hq,hk,?_⟩) ?_ _;rotate_left;clear hr;(try clear E);rintro n1 st ⟨v1,v2,ex,hr,hk,E⟩<;>(obtain _|n1:=n1<;>rw[QaD] at hr))
 |(with_reducible refine loop_e (I:=Qf5 N _) hr 1000 N (fun ex hq hk=>⟨_,_,ex,hq,hk,?_⟩) ?_ _;rotate_left;clear hr;(try clear E);rintro n2 st ⟨v6,v7,ex,hr,hk,⟨_,E⟩⟩<;>(obtain _|n2:=n2<;>rw[QaE] at hr))
 |(with_reducible refine loop_e (I:=QfJ N _) hr 1000 N (fun ex hq hk=>⟨_,ex,hq,hk,?_⟩) ?_ _;rotate_left;clear hr;(try clear E);rintro n1 st ⟨v1,ex,hr,hk,E⟩<;>(obtain _|n1:=n1<;>rw[Qau] at hr))
 |(with_reducible refine loop_e (I:=QeM N _ _) hr 1000 N (fun ex hq hk=>⟨_,ex,hq,hk,?_⟩) ?_ _;rotate_left;clear hr;(try clear E);rintro n1 st ⟨v1,ex,hr,hk,E⟩<;>(obtain _|n1:=n1<;>rw[Qap] at hr))
 |(with_reducible refine loop_e (I:=Qiw N _ _) hr 1000 N (fun ex hq hk=>⟨_,_,ex,hq,hk,?_⟩) ?_ _;rotate_left;clear hr;(try clear E);rintro n1 st ⟨v1,v2,ex,hr,hk,E⟩<;>(obtain _|n1:=n1<;>rw[QbL] at hr))
 |(with_reducible refine loop_e (I:=Qix N _) hr 1000 N (fun ex hq hk=>⟨_,_,_,ex,hq,hk,?_⟩) ?_ _;rotate_left;clear hr;(try clear E);rintro n2 st ⟨v5,v6,v7,ex,hr,hk,(⟨_,E⟩|⟨E,z0⟩)⟩<;>(try subst z0)<;>(obtain _|n2:=n2<;>rw[QbM] at hr))
 |refine ⟨_,Nat.lt_succ_self _,_,_,_,_,hr,hk,?_⟩
 |(with_reducible refine loop_e (I:=Qdp N _) hr 1000 N (fun ex hq hk=>⟨_,ex,hq,hk,?_⟩) ?_ _;rotate_left;clear hr;(try clear E);rintro n1 st ⟨v1,ex,hr,hk,E⟩<;>(obtain _|n1:=n1<;>rw[Qab] at hr))
 |refine db 110 27 hf [([],[],[157,158,159,160,161,162,163,164,165,167,168,169,170,171,172],[]),([],[],[156,159,163,164,165,167,168,169,170,171,172],[]),([1],[],[156,159,163,164,165,167,168,169,170,171,172],[]),([],[],[156,157,158,163,164,165,167,168,169,170,171,172],[]),([1,2,3],[],[156,163,164,165,167,168,169,170,171,172],[]),([1,2,3,4],[],[156,163,164,165,167,168,169,170,171,172],[]),([1,2,3,4,5],[],[156,163,164,165,167,168,169,170,171,172],[]),([],[],[156,157,158,159,160,161,162,164,167,168,169,170,171,172],[]),([],[],[156,157,158,159,160,161,162,163,167,168,169,170,171,172],[]),([7,8],[],[156,157,158,159,160,161,162,167,168,169,170,171,172],[]),([0,1,2,3,4,5,6,7,8,9],[],[167,168,169,170,171,172],[]),([],[],[156,157,158,159,160,161,162,163,164,165,166,169],[]),([11],[],[156,157,158,159,160,161,162,163,164,165,166,169],[]),([],[],[156,157,158,159,160,161,162,163,164,165,166,167,168],[]),([11,12,13],[],[156,157,158,159,160,161,162,163,164,165,166],[]),([11,12,13,14],[],[156,157,158,159,160,161,162,163,164,165,166],[]),([11,12,13,14,15],[],[156,157,158,159,160,161,162,163,164,165,166],[]),([0,1,2,3,4,5,6,7,8,9,10,11,12,13,14,15,16],[],[],[])] rfl rfl (by kernel_rfl) ?_ _
 |(refine some_e hr ?_;rintro rfl;with_reducible refine ret_k ?_)
 |exact no_e hr
 |((first|refine bc_e (c:=true) hr rfl ?_|refine bc_e (c:=false) hr rfl ?_|refine bc_e hr (by assumption) ?_);intro hr)
 |fail)
@[reducible,instance] def Qmj:=g11.1
@[reducible,instance] def Qmk:=g11.2.1
@[reducible,instance] def Qjk:=g11.2.2.1
@[reducible,instance] def Qh1:=g11.2.2.2.1
@[reducible,instance] def Qhp:=g11.2.2.2.2.1
@[reducible,instance] def Qml:=g11.2.2.2.2.2.1
@[reducible,instance] def QgK:=g11.2.2.2.2.2.2
abbrev Qi6:=fun N (a0:TTable) (Q:(List Int)→Prop) n (st:St)=>∃ (v1:Int) (v2:List Int) (ex:_),Qa2 N a0 n v1 v2=some ex∧Q ex∧((∃ w1920 w64,st.n=32∧st.s 1920=some (w1920,.arr false 37 1 (v2.map e37) 0)∧st.t 1=.ept 64 w64 1 0 0∧st.t 3=.osl 1920 w1920 1 0 v2.length∧st.t 4=.v (.int .i64 v1)∧st.s 64=some (w64,.arr true 32 1 [e32 a0] 0))∨(∃ w64,(st.n=32∧st.t 1=.ept 64 w64 1 0 0∧st.t 3=.nsl∧st.t 4=.v (.int .i64 v1)∧st.s 64=some (w64,.arr true 32 1 [e32 a0] 0))∧v2=[]))
abbrev Qjy:=fun N (a0:TTable) (a1:Int) (Q:(Ex (TTable × Int × Int × Int) Unit)→Prop) n (st:St)=>∃ (v2:Int) (ex:_),Qbh N a0 a1 n v2=some ex∧Q ex∧((∃ w896 w256,st.n=69∧st.s 896=some (w896,.arr false 132 3 (a0.Entries.map e132) 0)∧st.t 1=.v (.int .u64 a1)∧st.t 4=.ept 256 w256 1 0 0∧st.t 8=.osl 896 w896 3 0 a0.Entries.length∧st.t 9=.v (.int .i64 v2)∧st.s 256=some (w256,.arr true 32 1 [[.nsl]] 0)))
abbrev Qiy:=fun N (a1:Int) (y1:List TRun) (Q:(Ex Int Unit)→Prop) n (st:St)=>∃ (v2:Int) (ex:_),QcF N a1 y1 n v2=some ex∧Q ex∧((st.n=31∧st.t 1=.v (.int .i64 a1)∧st.t 5=.isl 359 2 (y1.map e359)∧st.t 6=.v (.int .i64 v2)))
abbrev Qhf:=fun N (y1:List TSlot) (Q:Int→Prop) n (st:St)=>∃ (v2:Int) (v3:Int) (ex:_),Qbb N y1 n v2 v3=some ex∧Q ex∧((st.n=22∧st.t 5=.v (.int .i64 v2)∧st.t 10=.isl 210 3 (y1.map e210)∧st.t 11=.v (.int .i64 ((y1.length:Nat):Int))∧st.t 12=.v (.int .i64 v3)))
abbrev Qd9:=fun N (a0:List TEntry) (Q:(Ex Int Unit)→Prop) n (st:St)=>∃ (v1:Int) (ex:_),Qal N a0 n v1=some ex∧Q ex∧((st.n=19∧st.t 0=.isl 132 3 (a0.map e132)∧st.t 1=.clo (.func 198) [] []∧st.t 7=.v (.int .i64 ((a0.length:Nat):Int))∧st.t 8=.v (.int .i64 v1)))
abbrev Qdq:=fun N (a0:List TMark) (c0:Int) (Q:(Ex Int Unit)→Prop) n (st:St)=>∃ (v1:Int) (ex:_),Qaj N a0 c0 n v1=some ex∧Q ex∧((st.n=19∧st.t 0=.isl 116 3 (a0.map e116)∧st.t 1=.clo (.func 225) [] [.ept 1000000 0 1 0 0]∧st.t 7=.v (.int .i64 ((a0.length:Nat):Int))∧st.t 8=.v (.int .i64 v1)∧st.s 1000000=some (0,.arr true 37 1 [[.v (.int .u64 c0)]] 0)))
abbrev Qd0:=fun N (a0:List TMark) (c0:Int) (Q:(Ex Int Unit)→Prop) n (st:St)=>∃ (v1:Int) (ex:_),Qag N a0 c0 n v1=some ex∧Q ex∧((st.n=19∧st.t 0=.isl 116 3 (a0.map e116)∧st.t 1=.clo (.func 182) [] [.ept 1000000 0 1 0 0]∧st.t 7=.v (.int .i64 ((a0.length:Nat):Int))∧st.t 8=.v (.int .i64 v1)∧st.s 1000000=some (0,.arr true 37 1 [[.v (.int .u64 c0)]] 0)))
theorem g10:(∀ N (a0:TTable),OK (Qa0 N a0) 68 [.agg (e32 a0)] [] (fun r=>.fsl 37 1 (r.map e37)) fun r=>[])∧(∀ N (a0:TTable) (a1:Int),OK (QbS N a0 a1) 106 [.agg (e32 a0),.v (.int .u64 a1)] [] (fun r=>.tup [.agg (e32 r.1),.v (.int .i64 r.2.1),.v (.int .i64 r.2.2.1),.v (.int .i64 r.2.2.2)]) fun r=>[])∧(∀ N (a0:List TPage) (a1:Int),OK (Qdz N a0 a1) 282 [.isl 306 4 (a0.map e306),.v (.int .i64 a1)] [] (fun r=>.v (.int .i64 r)) fun r=>[])∧(∀ N (a0:Tframes) (a1:Int),OK (Qcp N a0 a1) 196 [.agg (e255 a0),.v (.int .i64 a1)] [] (fun r=>.v (.int .i64 r)) fun r=>[])∧(∀ N (a0:List TEntry),OK (QaC N a0) 237 [.isl 132 3 (a0.map e132),.clo (.func 198) [] []] [] (fun r=>.v (.int .i64 r)) fun r=>[])∧(∀ N (a0:List TMark) (c0:Int),OK (Qaw N a0 c0) 181 [.isl 116 3 (a0.map e116),.clo (.func 225) [] [.ept 1000000 0 1 0 0]] [.arr true 37 1 [[.v (.int .u64 c0)]] 0] (fun r=>.v (.int .i64 r)) fun r=>[.arr true 37 1 [[.v (.int .u64 c0)]] 0])∧(∀ N (a0:List TMark) (c0:Int),OK (Qah N a0 c0) 181 [.isl 116 3 (a0.map e116),.clo (.func 182) [] [.ept 1000000 0 1 0 0]] [.arr true 37 1 [[.v (.int .u64 c0)]] 0] (fun r=>.v (.int .i64 r)) fun r=>[.arr true 37 1 [[.v (.int .u64 c0)]] 0]):=by
 refine ⟨fun N _=>rn Tryz.f68 [.tmp 2] [1920] 32 (by kernel_rfl) ?_,fun N _ _=>rn Tryz.f106 [.cell 4 32,.tmp 5,.tmp 6,.tmp 7] [] 69 (by kernel_rfl) ?_,fun N _ _=>rn Tryz.f282 [.tmp 4] [] 31 (by kernel_rfl) ?_,fun N _ _=>rn Tryz.f196 [.tmp 4] [] 22 (by kernel_rfl) ?_,fun N _=>rn Tryz.f237 [.tmp 4] [] 19 (by kernel_rfl) ?_,fun N _ _=>rn Tryz.f181 [.tmp 4] [] 19 (by kernel_rfl) ?_,fun N _ _=>rn Tryz.f181 [.tmp 4] [] 19 (by kernel_rfl) ?_⟩<;>(rintro _ hw r hr C _ rfl hwf hf;simp only[Tryz.f68,Tryz.f106,Tryz.f282,Tryz.f196,Tryz.f237,Tryz.f181,Tryz.f181,Option.get!];(first|rw[Qa0] at hr|rw[QbS] at hr|rw[Qdz] at hr|rw[Qcp] at hr|rw[QaC] at hr|rw[Qaw] at hr|rw[Qah] at hr);repeat' first
 |(refine El.el hr ?_;intro hr)
 |(with_reducible intro h;refine bc_e hr h ?_;intro hr)
 |with_reducible intro _
 |(refine some_e hr ?_;rintro rfl;have hr:=hk;clear hk)
 |simp only[go_sem,simprocAttr,E,hl116,hl132,hl210,hl359]
 |(with_reducible first|apply guard_of_f|apply guard_of_t|apply cond_of|apply doT_of_t|apply doT_of_f)
 |((first|with_reducible refine idx_s hr (by assumption) ?_ ?_|(with_reducible refine idx_e hr ?_ ?_;rotate_left;intro p;rotate_right));(·simp only[go_sem,simprocAttr]);intro hp hn hd hr;(try have hl116:=hd _ e116);(try simp only[go_sem,simprocAttr] at hl116);(try have hl132:=hd _ e132);(try simp only[go_sem,simprocAttr] at hl132);(try have hl210:=hd _ e210);(try simp only[go_sem,simprocAttr] at hl210);(try have hl359:=hd _ e359);(try simp only[go_sem,simprocAttr] at hl359))
 |(refine and_of' ?_ ?_;·first|assumption|omega)
 |with_reducible refine CallX.c ?_ _
 |with_reducible refine OK.c hr hw ?_ (fun y hr=>?_) _
 |(with_reducible refine loop_e (I:=Qi6 N _) hr 1000 N (fun ex hq hk=>⟨_,_,ex,hq,hk,?_⟩) ?_ _;rotate_left;clear hr;(try clear E);rintro n1 st ⟨v1,v2,ex,hr,hk,(⟨_,_,E⟩|⟨_,E,z0⟩)⟩<;>(try subst z0)<;>(obtain _|n1:=n1<;>rw[Qa2] at hr))
 |refine ⟨_,Nat.lt_succ_self _,_,_,_,hr,hk,?_⟩
 |(with_reducible refine loop_e (I:=Qjy N _ _) hr 1000 N (fun ex hq hk=>⟨_,ex,hq,hk,?_⟩) ?_ _;rotate_left;clear hr;(try clear E);rintro n1 st ⟨v2,ex,hr,hk,⟨_,_,E⟩⟩<;>(obtain _|n1:=n1<;>rw[Qbh] at hr))
 |refine ⟨_,Nat.lt_succ_self _,_,_,hr,hk,?_⟩
 |(with_reducible refine loop_e (I:=Qiy N _ _) hr 1000 N (fun ex hq hk=>⟨_,ex,hq,hk,?_⟩) ?_ _;rotate_left;clear hr;(try clear E);rintro n1 st ⟨v2,ex,hr,hk,E⟩<;>(obtain _|n1:=n1<;>rw[QcF] at hr))
 |(with_reducible refine loop_e (I:=Qhf N _) hr 1000 N (fun ex hq hk=>⟨_,_,ex,hq,hk,?_⟩) ?_ _;rotate_left;clear hr;(try clear E);rintro n1 st ⟨v2,v3,ex,hr,hk,E⟩<;>(obtain _|n1:=n1<;>rw[Qbb] at hr))
 |(with_reducible refine loop_e (I:=Qd9 N _) hr 1000 N (fun ex hq hk=>⟨_,ex,hq,hk,?_⟩) ?_ _;rotate_left;clear hr;(try clear E);rintro n1 st ⟨v1,ex,hr,hk,E⟩<;>(obtain _|n1:=n1<;>rw[Qal] at hr))
 |(with_reducible refine loop_e (I:=Qdq N _ _) hr 1000 N (fun ex hq hk=>⟨_,ex,hq,hk,?_⟩) ?_ _;rotate_left;clear hr;(try clear E);rintro n1 st ⟨v1,ex,hr,hk,E⟩<;>(obtain _|n1:=n1<;>rw[Qaj] at hr))
 |(with_reducible refine loop_e (I:=Qd0 N _ _) hr 1000 N (fun ex hq hk=>⟨_,ex,hq,hk,?_⟩) ?_ _;rotate_left;clear hr;(try clear E);rintro n1 st ⟨v1,ex,hr,hk,E⟩<;>(obtain _|n1:=n1<;>rw[Qag] at hr))
 |refine db 106 9 hf [([],[],[51,52,53,54,55,56],[]),([0],[],[51,52,53,54,55,56],[]),([],[],[49,50,52,53,54,55,56],[256]),([],[],[5,49,50,51,53],[256]),([],[],[5,49,50,51,52],[256]),([3,4],[],[5,49,50,51],[256]),([3,4,5],[],[5,49,50,51],[256]),([3,4,5,6],[],[5,49,50,51],[256]),([0,1],[256],[51,52,53,54,55,56],[]),([0,1,2,8],[],[52,53,54,55,56],[]),([0,1,2,3,4,5,6,7,8,9],[],[],[]),([0,1,2,3,4,5,6,7,8,9,10],[],[],[])] rfl rfl (by kernel_rfl) ?_ _
 |(refine some_e hr ?_;rintro rfl;with_reducible refine ret_k ?_)
 |exact no_e hr
 |((first|refine bc_e (c:=true) hr rfl ?_|refine bc_e (c:=false) hr rfl ?_|refine bc_e hr (by assumption) ?_);intro hr)
 |fail)
@[reducible,instance] def Qnb:=g10.1
@[reducible,instance] def QnO:=g10.2.1
@[reducible,instance] def Qmm:=g10.2.2.1
@[reducible,instance] def Qke:=g10.2.2.2.1
@[reducible,instance] def Qhd:=g10.2.2.2.2.1
@[reducible,instance] def Qg3:=g10.2.2.2.2.2.1
@[reducible,instance] def Qg5:=g10.2.2.2.2.2.2
end Go.Sx
