import Derived.Test.YtggdbcmfjliibaaGreatNF
import Derived.Test.YtggdbcmfjliibaaGreatNG0
import Derived.Test.YtggdbcmfjliibaaGreatNG1
import Derived.Test.YtggdbcmfjliibaaGreatNG2
import Derived.Test.YtggdbcmfjliibaaGreatNG3
import Derived.Test.YtggdbcmfjliibaaGreatNG4
import Derived.Test.YtggdbcmfjliibaaGreatNG8
import Derived.Test.YtggdbcmfjliibaaGreatNG10
set_option linter.all false
namespace Go.Sx
open Go.Proofs
set_option maxRecDepth 10000
set_option maxHeartbeats 100000000
abbrev I_audit_dirt_l1:=fun N (a0:THeap) (y1:Int × Int) (y4:List Int × Int) (Q:(List Int)→Prop) n (st:St)=>∃ (v5:Int) (v6:List Int) (ex:_),audit_dirt_l1 N a0 y1 y4 n v5 v6=some ex∧Q ex∧((∃ w2112 w128,st.n=90∧st.s 2112=some (w2112,.arr false 38 1 (v6.map e38) 0)∧st.t 2=.ept 128 w128 6 0 0∧st.t 6=.v (.int .u64 y1.1)∧st.t 8=.osl 2112 w2112 1 0 v6.length∧st.t 44=.isl 38 1 (y4.1.map e38)∧st.t 45=.v (.int .i64 ((y4.1.length:Nat):Int))∧st.t 46=.v (.int .i64 v5)∧st.s 128=some (w128,.arr true 59 6 [e59 a0] 0)))
abbrev I_walk_Objects_l1:=fun N (Q:(Int × List Tfound)→Prop) n (st:St)=>∃ (v3:Int) (v4:Int) (v5:List Tfound) (ex:_),walk_Objects_l1 N n v3 v4 v5=some ex∧Q ex∧((∃ w512,st.n=42∧st.s 512=some (w512,.arr false 233 4 (v5.map e233) 0)∧st.t 0=.osl 512 w512 4 0 v5.length∧st.t 1=.clo (.func 120) [] []∧st.t 5=.v (.int .i64 v3)∧st.t 6=.v (.int .i64 v4)))
theorem g20:(∀ N (a0:THeap) (a1:Int),OK (audit_dirt N a0 a1) 213 [.agg (e59 a0),.v (.int .i64 a1)] [] (fun r=>.tup [.v (.int .u64 r.1),.v (.bool r.2)]) fun r=>[])∧(∀ N (a0:THeap),OK (walk_Objects N a0) 67 [.agg (e59 a0)] [] (fun r=>.tup [.isl 38 1 (r.1.map e38),.v (.int .i64 r.2)]) fun r=>[]):=by
 refine ⟨fun N _ _=>rn Tryz.f213 [.tmp 4,.tmp 5] [] 90 (by kernel_rfl) ?_,fun N _=>rn Tryz.f67 [.tmp 2,.tmp 3] [] 17 (by kernel_rfl) ?_⟩<;>(rintro _ hw r hr C _ rfl hwf hf;simp only[Tryz.f213,Tryz.f67,Option.get!];(first|rw[audit_dirt] at hr|rw[walk_Objects] at hr);repeat' first
 |(refine El.el hr ?_;intro hr)
 |(with_reducible intro h;refine bc_e hr h ?_;intro hr)
 |with_reducible intro _
 |(refine some_e hr ?_;rintro rfl;have hr:=hk;clear hk)
 |simp only[go_sem,simprocAttr,E,hl38,hl233,List.length_take,List.length_drop,Nat.min_self]
 |(with_reducible first|apply guard_of_f|apply guard_of_t|apply cond_of|apply doT_of_t|apply doT_of_f)
 |((first|with_reducible refine idx_s hr (by assumption) ?_ ?_|(with_reducible refine idx_e hr ?_ ?_;rotate_left;intro p;rotate_right));(·simp only[go_sem,simprocAttr,List.length_take,List.length_drop,Nat.min_self]);intro hp hn hd hr;(try have hl38:=hd _ e38);(try simp only[go_sem,simprocAttr] at hl38);(try have hl233:=hd _ e233);(try simp only[go_sem,simprocAttr] at hl233))
 |(refine and_of' ?_ ?_;·first|assumption|omega|(dsimp only at *;omega))
 |(refine CallX.inl (f:=119) 1200 (fn:=Tryz.f119) (rs:=[.tmp 4]) (nt:=42) 1000 (by kernel_rfl) (fun x=>?_) _;simp only[Tryz.f119,Option.get!])
 |(with_reducible first|refine CallX.c ?_ _|refine OK.c hr hw ?_ (fun y hr=>?_) _|refine OK.d hr hw ?_ (fun y hr=>?_) _)
 |(with_reducible refine loop_e (I:=I_audit_dirt_l1 N _ _ _) hr 1000 N (fun ex hq hk=>⟨_,_,ex,hq,hk,?_⟩) ?_ _;rotate_left;clear hr;(try clear E);rintro n1 st ⟨v5,v6,ex,hr,hk,⟨_,_,E⟩⟩<;>(obtain _|n1:=n1<;>rw[audit_dirt_l1] at hr))
 |refine ⟨_,Nat.lt_succ_self _,_,_,_,hr,hk,?_⟩
 |(with_reducible refine loop_e (I:=I_walk_Objects_l1 N) hr 1000 N (fun ex hq hk=>⟨_,_,_,ex,hq,hk,?_⟩) ?_ _;rotate_left;clear hr;(try clear E);rintro n1 st ⟨v3,v4,v5,ex,hr,hk,⟨_,E⟩⟩<;>(obtain _|n1:=n1<;>rw[walk_Objects_l1] at hr))
 |refine ⟨_,Nat.lt_succ_self _,_,_,_,_,hr,hk,?_⟩
 |refine db 213 3 hf 10 [(0,1879048192,[]),(0,671088640,[]),(0,402653184,[]),(6,134217728,[]),(15,0,[]),(31,0,[]),(63,8589934592,[]),(63,4294967297,[]),(127,8589934592,[]),(511,0,[])] rfl rfl (by kernel_rfl) ?_ _
 |(refine some_e hr ?_;rintro rfl;with_reducible refine ret_k ?_)
 |exact no_e hr
 |((first|refine bc_e (c:=true) hr rfl ?_|refine bc_e (c:=false) hr rfl ?_|refine bc_e hr (by assumption) ?_);intro hr)
 |omega
 |fail)
@[reducible,instance] def audit_dirt_i:=g20.1
@[reducible,instance] def walk_Objects_i:=g20.2
end Go.Sx
