import Derived.Test.YtgdhlnfcogcicaaGreatDoorSF
set_option linter.all false
namespace Go.Sx
open Go.Proofs
set_option maxRecDepth 10000
set_option maxHeartbeats 100000000
abbrev Qit:=fun N (a0:TLocals) (a2:Int) (Q:Int→Prop) n (st:St)=>∃ (v1:Int) (v2:Int) (ex:_),Qb7 N a0 a2 n v1 v2=some ex∧Q ex∧((∃ w192,st.n=24∧st.t 2=.v (.int .i64 a2)∧st.t 3=.ept 192 w192 3 0 0∧st.t 7=.v (.int .i64 v1)∧st.t 8=.v (.int .i64 v2)∧st.s 192=some (w192,.arr true 29 3 [e29 a0] 0)))
abbrev QiZ:=fun N (a0:List Int) (a1:Int) (Q:(Ex Bool Unit)→Prop) n (st:St)=>∃ (v1:Int) (ex:_),Qd0 N a0 a1 n v1=some ex∧Q ex∧((st.n=18∧st.t 0=.isl 37 1 (a0.map e37)∧st.t 1=.v (.int .u64 a1)∧st.t 5=.v (.int .i64 v1)))
abbrev Qjm:=fun N (a0:List TPin) (a1:Int) (Q:(Ex Int Unit)→Prop) n (st:St)=>∃ (v1:Int) (ex:_),Qey N a0 a1 n v1=some ex∧Q ex∧((st.n=20∧st.t 0=.isl 229 2 (a0.map e229)∧st.t 1=.v (.int .u64 a1)∧st.t 5=.v (.int .i64 v1)))
abbrev Qiu:=fun N (a1:Int) (a2:Int) (a3:TPage) (a4:TPage) (Q:(Ex (List TPage × Int) (List TPage))→Prop) n (st:St)=>∃ (v1:Int) (v2:List TPage) (ex:_),QdB N a1 a2 a3 a4 n v1 v2=some ex∧Q ex∧((∃ w1920 w512 w576,st.n=57∧st.s 1920=some (w1920,.arr false 306 4 (v2.map e306) 0)∧st.t 1=.v (.int .i64 a1)∧st.t 2=.v (.int .i64 a2)∧st.t 8=.ept 512 w512 4 0 0∧st.t 9=.ept 576 w576 4 0 0∧st.t 12=.osl 1920 w1920 4 0 v2.length∧st.t 13=.v (.int .i64 v1)∧st.s 512=some (w512,.arr true 306 4 [e306 a3] 0)∧st.s 576=some (w576,.arr true 306 4 [e306 a4] 0)))
abbrev QgC:=fun N (a0:TWorld) (Q:(Ex Bool Unit)→Prop) n (st:St)=>∃ (v1:Int) (ex:_),QbQ N a0 n v1=some ex∧Q ex∧((∃ w64,st.n=70∧st.t 1=.ept 64 w64 10 0 0∧st.t 3=.v (.int .i64 v1)∧st.s 64=some (w64,.arr true 36 10 [e36 a0] 0)))
abbrev Qiv:=fun N (a0:TLocals) (a1:TLocals) (Q:(Ex Bool Unit)→Prop) n (st:St)=>∃ (v1:Int) (ex:_),QcO N a0 a1 n v1=some ex∧Q ex∧((∃ w128 w192,st.n=87∧st.t 2=.ept 128 w128 3 0 0∧st.t 3=.ept 192 w192 3 0 0∧st.t 5=.v (.int .i64 v1)∧st.s 128=some (w128,.arr true 29 3 [e29 a0] 0)∧st.s 192=some (w192,.arr true 29 3 [e29 a1] 0)))
abbrev Qiw:=fun N (a0:TLocals) (a1:TLocals) (Q:(Ex Bool Unit)→Prop) n (st:St)=>∃ (v5:Int) (ex:_),QcP N a0 a1 n v5=some ex∧Q ex∧((∃ w128 w192,st.n=87∧st.t 2=.ept 128 w128 3 0 0∧st.t 3=.ept 192 w192 3 0 0∧st.t 6=.v (.int .i64 v5)∧st.s 128=some (w128,.arr true 29 3 [e29 a0] 0)∧st.s 192=some (w192,.arr true 29 3 [e29 a1] 0)))
abbrev Qix:=fun N (a0:TLocals) (a1:TLocals) (Q:(Ex Bool Unit)→Prop) n (st:St)=>∃ (v9:Int) (ex:_),QcQ N a0 a1 n v9=some ex∧Q ex∧((∃ w128 w192,st.n=87∧st.t 2=.ept 128 w128 3 0 0∧st.t 3=.ept 192 w192 3 0 0∧st.t 7=.v (.int .i64 v9)∧st.s 128=some (w128,.arr true 29 3 [e29 a0] 0)∧st.s 192=some (w192,.arr true 29 3 [e29 a1] 0)))
abbrev Qge:=fun N (a0:Tframes) (Q:(Ex Bool Unit)→Prop) n (st:St)=>∃ (v1:Int) (v2:Int) (ex:_),Qap N a0 n v1 v2=some ex∧Q ex∧((∃ w64,st.n=74∧st.t 1=.ept 64 w64 3 0 0∧st.t 3=.v (.int .i64 v1)∧st.t 27=.isl 159 3 (a0.Locals.Scopes.map e159)∧st.t 28=.v (.int .i64 ((a0.Locals.Scopes.length:Nat):Int))∧st.t 29=.v (.int .i64 v2)∧st.s 64=some (w64,.arr true 255 3 [e255 a0] 0)))
abbrev Qi0:=fun N (a0:Int) (Q:Int→Prop) n (st:St)=>∃ (v1:Int) (v2:Int) (ex:_),Qd4 N a0 n v1 v2=some ex∧Q ex∧((st.n=14∧st.t 3=.v (.int .u64 v1)∧st.t 6=.v (.int .i64 (if 64 < (if a0 < 0 then 0 else a0) then 64 else (if a0 < 0 then 0 else a0)))∧st.t 7=.v (.int .i64 v2)))
theorem g5:(∀ N (a0:TLocals) (a1:Int) (a2:Int),OK (QeQ N a0 a1 a2) 188 [.agg (e29 a0),.v (.int .i64 a1),.v (.int .i64 a2)] [] (fun r=>.v (.int .i64 r)) fun r=>[])∧(∀ N (a0:List Int) (a1:Int),OK (QbM N a0 a1) 205 [.isl 37 1 (a0.map e37),.v (.int .u64 a1)] [] (fun r=>.v (.bool r)) fun r=>[])∧(∀ N (a0:List TPin) (a1:Int),OK (Qfd N a0 a1) 242 [.isl 229 2 (a0.map e229),.v (.int .u64 a1)] [] (fun r=>.v (.int .i64 r)) fun r=>[])∧(∀ N (a0:List TPage) (a1:Int) (a2:Int) (a3:TPage) (a4:TPage),OK (QeT N a0 a1 a2 a3 a4) 293 [.isl 306 4 (a0.map e306),.v (.int .i64 a1),.v (.int .i64 a2),.agg (e306 a3),.agg (e306 a4)] [] (fun r=>.tup [.fsl 306 4 (r.1.map e306),.v (.int .i64 r.2)]) fun r=>[])∧(∀ N (a0:TWorld),OK (QdK N a0) 38 [.agg (e36 a0)] [] (fun r=>.v (.bool r)) fun r=>[])∧(∀ N (a0:TLocals) (a1:TLocals),OK (Qfq N a0 a1) 53 [.agg (e29 a0),.agg (e29 a1)] [] (fun r=>.v (.bool r)) fun r=>[])∧(∀ N (a0:Tframes),OK (Qcf N a0) 194 [.agg (e255 a0)] [] (fun r=>.v (.bool r)) fun r=>[])∧(∀ N (a0:Int),OK (QdM N a0) 238 [.v (.int .i64 a0)] [] (fun r=>.v (.int .u64 r)) fun r=>[]):=by
 refine ⟨fun N _ _ _=>rn Tryz.f188 [.tmp 6] [] 24 (by kernel_rfl) ?_,fun N _ _=>rn Tryz.f205 [.tmp 4] [] 18 (by kernel_rfl) ?_,fun N _ _=>rn Tryz.f242 [.tmp 4] [] 20 (by kernel_rfl) ?_,fun N _ _ _ _ _=>rn Tryz.f293 [.tmp 10,.tmp 11] [1920] 57 (by kernel_rfl) ?_,fun N _=>rn Tryz.f38 [.tmp 2] [] 70 (by kernel_rfl) ?_,fun N _ _=>rn Tryz.f53 [.tmp 4] [] 87 (by kernel_rfl) ?_,fun N _=>rn Tryz.f194 [.tmp 2] [] 74 (by kernel_rfl) ?_,fun N _=>rn Tryz.f238 [.tmp 2] [] 14 (by kernel_rfl) ?_⟩<;>(rintro _ hw r hr C _ rfl hwf hf;simp only[Tryz.f188,Tryz.f205,Tryz.f242,Tryz.f293,Tryz.f38,Tryz.f53,Tryz.f194,Tryz.f238,Option.get!];(first|rw[QeQ] at hr|rw[QbM] at hr|rw[Qfd] at hr|rw[QeT] at hr|rw[QdK] at hr|rw[Qfq] at hr|rw[Qcf] at hr|rw[QdM] at hr);repeat' first
 |(refine El.el hr ?_;intro hr)
 |(with_reducible intro h;refine bc_e hr h ?_;intro hr)
 |with_reducible intro _
 |(refine some_e hr ?_;rintro rfl;have hr:=hk;clear hk)
 |simp only[go_sem,simprocAttr,E,hl3,hl37,hl115,hl159,hl210,hl229,hl306]
 |(with_reducible first|apply guard_of_f|apply guard_of_t|apply cond_of|apply doT_of_t|apply doT_of_f)
 |((first|with_reducible refine idx_s hr (by assumption) ?_ ?_|(with_reducible refine idx_e hr ?_ ?_;rotate_left;intro p;rotate_right));(·simp only[go_sem,simprocAttr]);intro hp hn hd hr;(try have hl3:=hd _ e3);(try simp only[go_sem,simprocAttr] at hl3);(try have hl37:=hd _ e37);(try simp only[go_sem,simprocAttr] at hl37);(try have hl115:=hd _ e115);(try simp only[go_sem,simprocAttr] at hl115);(try have hl159:=hd _ e159);(try simp only[go_sem,simprocAttr] at hl159);(try have hl210:=hd _ e210);(try simp only[go_sem,simprocAttr] at hl210);(try have hl229:=hd _ e229);(try simp only[go_sem,simprocAttr] at hl229);(try have hl306:=hd _ e306);(try simp only[go_sem,simprocAttr] at hl306))
 |(refine and_of' ?_ ?_;·first|assumption|omega)
 |(with_reducible refine loop_e (I:=Qit N _ _) hr 1000 N (fun ex hq hk=>⟨_,_,ex,hq,hk,?_⟩) ?_ _;rotate_left;clear hr;(try clear E);rintro n1 st ⟨v1,v2,ex,hr,hk,⟨_,E⟩⟩<;>(obtain _|n1:=n1<;>rw[Qb7] at hr))
 |refine ⟨_,Nat.lt_succ_self _,_,_,_,hr,hk,?_⟩
 |(with_reducible refine loop_e (I:=QiZ N _ _) hr 1000 N (fun ex hq hk=>⟨_,ex,hq,hk,?_⟩) ?_ _;rotate_left;clear hr;(try clear E);rintro n1 st ⟨v1,ex,hr,hk,E⟩<;>(obtain _|n1:=n1<;>rw[Qd0] at hr))
 |refine ⟨_,Nat.lt_succ_self _,_,_,hr,hk,?_⟩
 |(with_reducible refine loop_e (I:=Qjm N _ _) hr 1000 N (fun ex hq hk=>⟨_,ex,hq,hk,?_⟩) ?_ _;rotate_left;clear hr;(try clear E);rintro n1 st ⟨v1,ex,hr,hk,E⟩<;>(obtain _|n1:=n1<;>rw[Qey] at hr))
 |(with_reducible refine loop_e (I:=Qiu N _ _ _ _) hr 1000 N (fun ex hq hk=>⟨_,_,ex,hq,hk,?_⟩) ?_ _;rotate_left;clear hr;(try clear E);rintro n1 st ⟨v1,v2,ex,hr,hk,⟨_,_,_,E⟩⟩<;>(obtain _|n1:=n1<;>rw[QdB] at hr))
 |(with_reducible refine loop_e (I:=QgC N _) hr 1000 N (fun ex hq hk=>⟨_,ex,hq,hk,?_⟩) ?_ _;rotate_left;clear hr;(try clear E);rintro n1 st ⟨v1,ex,hr,hk,⟨_,E⟩⟩<;>(obtain _|n1:=n1<;>rw[QbQ] at hr))
 |(with_reducible refine loop_e (I:=Qiv N _ _) hr 1000 N (fun ex hq hk=>⟨_,ex,hq,hk,?_⟩) ?_ _;rotate_left;clear hr;(try clear E);rintro n1 st ⟨v1,ex,hr,hk,⟨_,_,E⟩⟩<;>(obtain _|n1:=n1<;>rw[QcO] at hr))
 |(with_reducible refine loop_e (I:=Qiw N _ _) hr 1000 N (fun ex hq hk=>⟨_,ex,hq,hk,?_⟩) ?_ _;rotate_left;clear hr;(try clear E);rintro n2 st ⟨v5,ex,hr,hk,⟨_,_,E⟩⟩<;>(obtain _|n2:=n2<;>rw[QcP] at hr))
 |(with_reducible refine loop_e (I:=Qix N _ _) hr 1000 N (fun ex hq hk=>⟨_,ex,hq,hk,?_⟩) ?_ _;rotate_left;clear hr;(try clear E);rintro n3 st ⟨v9,ex,hr,hk,⟨_,_,E⟩⟩<;>(obtain _|n3:=n3<;>rw[QcQ] at hr))
 |(with_reducible refine loop_e (I:=Qge N _) hr 1000 N (fun ex hq hk=>⟨_,_,ex,hq,hk,?_⟩) ?_ _;rotate_left;clear hr;(try clear E);rintro n1 st ⟨v1,v2,ex,hr,hk,⟨_,E⟩⟩<;>(obtain _|n1:=n1<;>rw[Qap] at hr))
 |(with_reducible refine loop_e (I:=Qi0 N _) hr 1000 N (fun ex hq hk=>⟨_,_,ex,hq,hk,?_⟩) ?_ _;rotate_left;clear hr;(try clear E);rintro n1 st ⟨v1,v2,ex,hr,hk,E⟩<;>(obtain _|n1:=n1<;>rw[Qd4] at hr))
 |refine db 53 6 hf [([],[],[42,45,46,47,48,49],[]),([0],[],[42,45,46,47,48,49],[]),([],[],[40,41,45,46,47,48,49],[]),([0,1,2],[],[45,46,47,48,49],[]),([0,1,2,3],[],[45,46,47,48,49],[]),([],[],[40,41,42,43,44,47],[]),([5],[],[40,41,42,43,44,47],[]),([],[],[40,41,42,43,44,45,46],[]),([5,6,7],[],[40,41,42,43,44],[]),([5,6,7,8],[],[40,41,42,43,44],[]),([0,1,2,3,4,5,6,7,8,9],[],[],[])] rfl rfl (by kernel_rfl) ?_ _
 |refine db 53 11 hf [([],[],[60,63,64,65,66,67],[]),([0],[],[60,63,64,65,66,67],[]),([],[],[58,59,63,64,65,66,67],[]),([0,1,2],[],[63,64,65,66,67],[]),([0,1,2,3],[],[63,64,65,66,67],[]),([],[],[58,59,60,61,62,65],[]),([5],[],[58,59,60,61,62,65],[]),([],[],[58,59,60,61,62,63,64],[]),([5,6,7],[],[58,59,60,61,62],[]),([5,6,7,8],[],[58,59,60,61,62],[]),([0,1,2,3,4,5,6,7,8,9],[],[],[])] rfl rfl (by kernel_rfl) ?_ _
 |refine db 53 16 hf [([],[],[78,81,82,83,84,85],[]),([0],[],[78,81,82,83,84,85],[]),([],[],[76,77,81,82,83,84,85],[]),([0,1,2],[],[81,82,83,84,85],[]),([0,1,2,3],[],[81,82,83,84,85],[]),([],[],[76,77,78,79,80,83],[]),([5],[],[76,77,78,79,80,83],[]),([],[],[76,77,78,79,80,81,82],[]),([5,6,7],[],[76,77,78,79,80],[]),([5,6,7,8],[],[76,77,78,79,80],[]),([0,1,2,3,4,5,6,7,8,9],[],[],[])] rfl rfl (by kernel_rfl) ?_ _
 |(refine some_e hr ?_;rintro rfl;with_reducible refine ret_k ?_)
 |exact no_e hr
 |((first|refine bc_e (c:=true) hr rfl ?_|refine bc_e (c:=false) hr rfl ?_|refine bc_e hr (by assumption) ?_);intro hr)
 |fail)
@[reducible,instance] def QlV:=g5.1
@[reducible,instance] def QmA:=g5.2.1
@[reducible,instance] def QmZ:=g5.2.2.1
@[reducible,instance] def QlW:=g5.2.2.2.1
@[reducible,instance] def QjM:=g5.2.2.2.2.1
@[reducible,instance] def QlX:=g5.2.2.2.2.2.1
@[reducible,instance] def QjB:=g5.2.2.2.2.2.2.1
@[reducible,instance] def QmB:=g5.2.2.2.2.2.2.2
theorem g2:(∀ N (a0:TConf),OK (Qak N a0) 56 [.agg (e23 a0)] [] (fun r=>.v (.bool r)) fun r=>[])∧(∀ N (a0:TLocals) (a1:Int),OK (QfX N a0 a1) 191 [.agg (e29 a0),.v (.int .i64 a1)] [] (fun r=>.v (.int .i64 r)) fun r=>[])∧(∀ N (a0:TLocals) (a1:Int),OK (Qfh N a0 a1) 111 [.agg (e29 a0),.v (.int .i64 a1)] [] (fun r=>.agg (e29 r)) fun r=>[])∧(∀ N (a0:TEnv) (a1:TEnv) (a2:Int) (a3:Int) (a4:Int),OK (QcG N a0 a1 a2 a3 a4) 27 [.agg (e45 a0),.agg (e45 a1),.v (.int .i64 a2),.v (.int .u64 a3),.v (.int .i64 a4)] [] (fun r=>.agg (e39 r)) fun r=>[])∧(∀ N (a0:THeap) (a1:Int) (a2:Int),OK (Qfb N a0 a1 a2) 297 [.agg (e42 a0),.v (.int .i64 a1),.v (.int .i64 a2)] [] (fun r=>.v (.int .u64 r)) fun r=>[])∧(∀ N (a0:Int),OK (QcJ N a0) 270 [.v (.int .u64 a0)] [] (fun r=>.tup [.v (.int .u64 r.1),.v (.int .i64 r.2)]) fun r=>[])∧(∀ N (a1:Int),OK (QaP N a1) 119 [.nsl,.v (.int .i64 a1)] [] (fun r=>.fsl 37 1 (r.map e37)) fun r=>[])∧(∀ N (a0:TEntry),OK (Qev N a0) 198 [.agg (e132 a0)] [] (fun r=>.v (.bool r)) fun r=>[]):=by
 refine ⟨fun N _=>rn Tryz.f56 [.tmp 2] [] 27 (by kernel_rfl) ?_,fun N _ _=>rn Tryz.f191 [.tmp 4] [] 21 (by kernel_rfl) ?_,fun N _ _=>rn Tryz.f111 [.cell 4 29] [] 25 (by kernel_rfl) ?_,fun N _ _ _ _ _=>rn Tryz.f27 [.cell 10 39] [] 44 (by kernel_rfl) ?_,fun N _ _ _=>rn Tryz.f297 [.tmp 6] [] 16 (by kernel_rfl) ?_,fun N _=>rn Tryz.f270 [.tmp 2,.tmp 3] [] 9 (by kernel_rfl) ?_,fun N _=>rn Tryz.f119 [.tmp 4] [1408] 27 (by kernel_rfl) ?_,fun N _=>rn Tryz.f198 [.tmp 2] [] 21 (by kernel_rfl) ?_⟩<;>(rintro _ hw r hr C _ rfl hwf hf;simp only[Tryz.f56,Tryz.f191,Tryz.f111,Tryz.f27,Tryz.f297,Tryz.f270,Tryz.f119,Tryz.f198,Option.get!];(first|rw[Qak] at hr|rw[QfX] at hr|rw[Qfh] at hr|rw[QcG] at hr|rw[Qfb] at hr|rw[QcJ] at hr|rw[QaP] at hr|rw[Qev] at hr);repeat' first
 |(refine El.el hr ?_;intro hr)
 |(with_reducible intro h;refine bc_e hr h ?_;intro hr)
 |with_reducible intro _
 |simp only[go_sem,simprocAttr,hl159,List.length_take,List.length_drop,Nat.min_self]
 |(with_reducible first|apply guard_of_f|apply guard_of_t|apply cond_of|apply doT_of_t|apply doT_of_f)
 |((first|with_reducible refine idx_s hr (by assumption) ?_ ?_|(with_reducible refine idx_e hr ?_ ?_;rotate_left;intro p;rotate_right));(·simp only[go_sem,simprocAttr,List.length_take,List.length_drop,Nat.min_self]);intro hp hn hd hr;(try have hl159:=hd _ e159);(try simp only[go_sem,simprocAttr] at hl159))
 |(refine and_of' ?_ ?_;·first|assumption|omega)
 |refine db 111 1 hf [([],[320],[6,7,8,9,10,11,12,13,14],[]),([],[],[5,8,9,10,11,12,13],[320]),([1],[],[5,8,9,10,11,12,13],[320]),([],[],[5,6,7,10],[320]),([3],[],[5,6,7,10],[320]),([],[],[5,6,7,8,9],[320]),([3,4,5],[],[5,6,7],[320]),([3,4,5,6],[],[5,6,7],[320]),([3,4,5,6,7],[],[5,6,7],[320]),([1,2,3,4,5,6,7,8],[],[5],[320]),([0,1,2,3,4,5,6,7,8,9],[320],[],[]),([0,1,2,3,4,5,6,7,8,9,10],[],[],[]),([0,1,2,3,4,5,6,7,8,9,10,11],[128],[],[])] rfl rfl (by kernel_rfl) ?_ _
 |(refine some_e hr ?_;rintro rfl;with_reducible refine ret_k ?_)
 |exact no_e hr
 |fail)
@[reducible,instance] def QjN:=g2.1
@[reducible,instance] def Qm0:=g2.2.1
@[reducible,instance] def QmC:=g2.2.2.1
@[reducible,instance] def Qj5:=g2.2.2.2.1
@[reducible,instance] def Qj6:=g2.2.2.2.2.1
@[reducible,instance] def Qj7:=g2.2.2.2.2.2.1
@[reducible,instance] def Qh9:=g2.2.2.2.2.2.2.1
@[reducible,instance] def Qj8:=g2.2.2.2.2.2.2.2
end Go.Sx
