import Derived.Test.YtgcneehkconghaaGreatDoorBF
import Derived.Test.YtgcneehkconghaaGreatDoorBG0
import Derived.Test.YtgcneehkconghaaGreatDoorBG1
import Derived.Test.YtgcneehkconghaaGreatDoorBG2
set_option linter.all false
namespace Go.Sx
open Go.Proofs
set_option maxRecDepth 10000
set_option maxHeartbeats 100000000
abbrev QjA:=λ N (a0:Wy) (Q:(List Int)→Prop) n (st:St)=>∃ (v1:Int) (v2:List Int) (ex:_),Qa7 N a0 n v1 v2=some ex/\Q ex/\((∃ w1920 w64,st.n=32/\st.s 1920=some (w1920,.arr false 39 1 (v2.map e39) 0)/\st.t 1=.ept 64 w64 1 0 0/\st.t 3=.osl 1920 w1920 1 0 v2.length/\st.t 4=.v (.int .i64 v1)/\st.s 64=some (w64,.arr true 35 1 [[.isl 117 3 (a0.Entries.map Ym)]] 0))\/(∃ w64,(st.n=32/\st.t 1=.ept 64 w64 1 0 0/\st.t 3=.nsl/\st.t 4=.v (.int .i64 v1)/\st.s 64=some (w64,.arr true 35 1 [[.isl 117 3 (a0.Entries.map Ym)]] 0))/\v2=[]))
abbrev QiP:=λ N (a1:Int) (y1:List IZ) (Q:(Ex Int Unit)→Prop) n (st:St)=>∃ (v2:Int) (ex:_),QcP N a1 y1 n v2=some ex/\Q ex/\((st.n=31/\st.t 1=.v (.int .i64 a1)/\st.t 5=.isl 385 2 (y1.map Xc5)/\st.t 6=.v (.int .i64 v2)))
abbrev QiQ:=λ N (a0:Int) (a1:List Int) (Q:(Ex (List Int × Int) Unit)→Prop) n (st:St)=>∃ (v1:Int) (v2:Int) (ex:_),QaA N a0 a1 n v1 v2=some ex/\Q ex/\((st.n=49/\st.t 0=.v (.int .u64 a0)/\st.t 1=.isl 3 1 (a1.map e3)/\st.t 6=.v (.int .i64 v1)/\st.t 12=.isl 3 1 (a1.map e3)/\st.t 13=.v (.int .i64 ((a1.length:Nat):Int))/\st.t 14=.v (.int .i64 v2)))
abbrev QiR:=λ N (a1:List Int) (Q:(Int × List Int)→Prop) n (st:St)=>∃ (v5:Int) (v6:Int) (v7:List Int) (ex:_),QaB N a1 n v5 v6 v7=some ex/\Q ex/\((∃ w2624,st.n=49/\st.s 2624=some (w2624,.arr false 39 1 (v7.map e39) 0)/\st.t 0=.v (.int .u64 v5)/\st.t 9=.osl 2624 w2624 1 0 v7.length/\st.t 29=.isl 3 1 (a1.map e3)/\st.t 30=.v (.int .i64 ((a1.length:Nat):Int))/\st.t 31=.v (.int .i64 v6))\/((st.n=49/\st.t 0=.v (.int .u64 v5)/\st.t 9=.nsl/\st.t 29=.isl 3 1 (a1.map e3)/\st.t 30=.v (.int .i64 ((a1.length:Nat):Int))/\st.t 31=.v (.int .i64 v6))/\v7=[]))
abbrev Qdm:=λ N (a0:List Uz) (Q:(Ex Int Unit)→Prop) n (st:St)=>∃ (v1:Int) (ex:_),Qae N a0 n v1=some ex/\Q ex/\((st.n=19/\st.t 0=.isl 279 4 (a0.map Kv)/\st.t 1=.clo (.func 226) [] []/\st.t 7=.v (.int .i64 ((a0.length:Nat):Int))/\st.t 8=.v (.int .i64 v1)))
abbrev Qhp:=λ N (y1:List US) (Q:Int→Prop) n (st:St)=>∃ (v2:Int) (v3:Int) (ex:_),Qbg N y1 n v2 v3=some ex/\Q ex/\((st.n=22/\st.t 5=.v (.int .i64 v2)/\st.t 10=.isl 115 3 (y1.map Zg)/\st.t 11=.v (.int .i64 ((y1.length:Nat):Int))/\st.t 12=.v (.int .i64 v3)))
abbrev QdT:=λ N (a0:List W6) (Q:(Ex Int Unit)→Prop) n (st:St)=>∃ (v1:Int) (ex:_),Qah N a0 n v1=some ex/\Q ex/\((st.n=19/\st.t 0=.isl 117 3 (a0.map Ym)/\st.t 1=.clo (.func 131) [] []/\st.t 7=.v (.int .i64 ((a0.length:Nat):Int))/\st.t 8=.v (.int .i64 v1)))
abbrev QjB:=λ N (a1:Int) (y1:List IZ) (Q:(Ex Int Unit)→Prop) n (st:St)=>∃ (v2:Int) (ex:_),QfU N a1 y1 n v2=some ex/\Q ex/\((st.n=23/\st.t 1=.v (.int .i64 a1)/\st.t 10=.isl 385 2 (y1.map Xc5)/\st.t 11=.v (.int .i64 ((y1.length:Nat):Int))/\st.t 12=.v (.int .i64 v2)))
theorem g10:(∀ N (a0:Wy),OK (Qa4 N a0) 62 [.agg (e35 a0)] [] (λ r=>.fsl 39 1 (r.map e39)) λ r=>[])/\(∀ N (a0:List Wx) (a1:Int),OK (Qdr N a0 a1) 356 [.isl 175 4 (a0.map XB),.v (.int .i64 a1)] [] (λ r=>.v (.int .i64 r)) λ r=>[])/\(∀ N (a0:Int) (a1:List Int),OK (QdA N a0 a1) 56 [.v (.int .u64 a0),.isl 3 1 (a1.map e3)] [] (λ r=>.tup [.isl 39 1 (r.1.map e39),.v (.int .i64 r.2)]) λ r=>[])/\(∀ N (a0:List Uz),OK (Qaf N a0) 293 [.isl 279 4 (a0.map Kv),.clo (.func 226) [] []] [] (λ r=>.v (.int .i64 r)) λ r=>[])/\(∀ N (a0:Ii) (a1:Int),OK (QcA N a0 a1) 129 [.agg (Xjy a0),.v (.int .i64 a1)] [] (λ r=>.v (.int .i64 r)) λ r=>[])/\(∀ N (a0:List W6),OK (QaG N a0) 222 [.isl 117 3 (a0.map Ym),.clo (.func 131) [] []] [] (λ r=>.v (.int .i64 r)) λ r=>[])/\(∀ N (a0:List Wx) (a1:Int),OK (QgP N a0 a1) 305 [.isl 175 4 (a0.map XB),.v (.int .i64 a1)] [] (λ r=>.v (.int .i64 r)) λ r=>[]):=by
 refine ⟨λ N _=>rn Tryz.f62 [.tmp 2] [1920] 32 (by kernel_rfl) ?_,λ N _ _=>rn Tryz.f356 [.tmp 4] [] 31 (by kernel_rfl) ?_,λ N _ _=>rn Tryz.f56 [.tmp 4,.tmp 5] [] 49 (by kernel_rfl) ?_,λ N _=>rn Tryz.f293 [.tmp 4] [] 19 (by kernel_rfl) ?_,λ N _ _=>rn Tryz.f129 [.tmp 4] [] 22 (by kernel_rfl) ?_,λ N _=>rn Tryz.f222 [.tmp 4] [] 19 (by kernel_rfl) ?_,λ N _ _=>rn Tryz.f305 [.tmp 4] [] 23 (by kernel_rfl) ?_⟩<;>(rintro _ hw r hr C _ rfl hwf hf;simp only[Tryz.f62,Tryz.f356,Tryz.f56,Tryz.f293,Tryz.f129,Tryz.f222,Tryz.f305,Option.get!];(first|rw[Qa4] at hr|rw[Qdr] at hr|rw[QdA] at hr|rw[Qaf] at hr|rw[QcA] at hr|rw[QaG] at hr|rw[QgP] at hr);repeat' first
 |(refine El.el hr ?_;intro hr)
 |(with_reducible intro h;refine Xw hr h ?_;intro hr)
 |with_reducible intro _
 |(refine Xn hr ?_;rintro rfl;have hr:=hk;clear hk)
 |simp only[go_sem,simprocAttr,E,hl3,Yd,Ye,VB,Xcd]
 |(with_reducible first|apply Xg|apply Xf|apply Xo)
 |((first|with_reducible refine Yb hr (by assumption) ?_ ?_|(with_reducible refine X7 hr ?_ ?_;rotate_left;intro p;rotate_right));(·simp only[go_sem,simprocAttr]);intro hp hn hd hr;(try have hl3:=hd _ e3);(try simp only[go_sem,simprocAttr] at hl3);(try have Yd:=hd _ Zg);(try simp only[go_sem,simprocAttr] at Yd);(try have Ye:=hd _ Ym);(try simp only[go_sem,simprocAttr] at Ye);(try have VB:=hd _ Kv);(try simp only[go_sem,simprocAttr] at VB);(try have Xcd:=hd _ Xc5);(try simp only[go_sem,simprocAttr] at Xcd))
 |(refine Xp ?_ ?_;·first|assumption|omega)
 |(with_reducible first|refine CallX.c ?_ _|refine OK.c hr hw ?_ (λ y hr=>?_) _)
 |(with_reducible refine Xe (I:=QjA N _) hr 1000 N (λ ex hq hk=>⟨_,_,ex,hq,hk,?_⟩) ?_ _;rotate_left;clear hr;(try clear E);rintro n1 st ⟨v1,v2,ex,hr,hk,(⟨_,_,E⟩|⟨_,E,z0⟩)⟩<;>(try subst z0)<;>(obtain _|n1:=n1<;>rw[Qa7] at hr))
 |refine ⟨_,WA _,_,_,_,hr,hk,?_⟩
 |(with_reducible refine Xe (I:=QiP N _ _) hr 1000 N (λ ex hq hk=>⟨_,ex,hq,hk,?_⟩) ?_ _;rotate_left;clear hr;(try clear E);rintro n1 st ⟨v2,ex,hr,hk,E⟩<;>(obtain _|n1:=n1<;>rw[QcP] at hr))
 |refine ⟨_,WA _,_,_,hr,hk,?_⟩
 |(with_reducible refine Xe (I:=QiQ N _ _) hr 1000 N (λ ex hq hk=>⟨_,_,ex,hq,hk,?_⟩) ?_ _;rotate_left;clear hr;(try clear E);rintro n1 st ⟨v1,v2,ex,hr,hk,E⟩<;>(obtain _|n1:=n1<;>rw[QaA] at hr))
 |(with_reducible refine Xe (I:=QiR N _) hr 1000 N (λ ex hq hk=>⟨_,_,_,ex,hq,hk,?_⟩) ?_ _;rotate_left;clear hr;(try clear E);rintro n2 st ⟨v5,v6,v7,ex,hr,hk,(⟨_,E⟩|⟨E,z0⟩)⟩<;>(try subst z0)<;>(obtain _|n2:=n2<;>rw[QaB] at hr))
 |refine ⟨_,WA _,_,_,_,_,hr,hk,?_⟩
 |(with_reducible refine Xe (I:=Qdm N _) hr 1000 N (λ ex hq hk=>⟨_,ex,hq,hk,?_⟩) ?_ _;rotate_left;clear hr;(try clear E);rintro n1 st ⟨v1,ex,hr,hk,E⟩<;>(obtain _|n1:=n1<;>rw[Qae] at hr))
 |(with_reducible refine Xe (I:=Qhp N _) hr 1000 N (λ ex hq hk=>⟨_,_,ex,hq,hk,?_⟩) ?_ _;rotate_left;clear hr;(try clear E);rintro n1 st ⟨v2,v3,ex,hr,hk,E⟩<;>(obtain _|n1:=n1<;>rw[Qbg] at hr))
 |(with_reducible refine Xe (I:=QdT N _) hr 1000 N (λ ex hq hk=>⟨_,ex,hq,hk,?_⟩) ?_ _;rotate_left;clear hr;(try clear E);rintro n1 st ⟨v1,ex,hr,hk,E⟩<;>(obtain _|n1:=n1<;>rw[Qah] at hr))
 |(with_reducible refine Xe (I:=QjB N _ _) hr 1000 N (λ ex hq hk=>⟨_,ex,hq,hk,?_⟩) ?_ _;rotate_left;clear hr;(try clear E);rintro n1 st ⟨v2,ex,hr,hk,E⟩<;>(obtain _|n1:=n1<;>rw[QfU] at hr))
 |(refine Xn hr ?_;rintro rfl;with_reducible refine XF ?_)
 |exact Yj hr
 |((first|refine Xw (c:=true) hr rfl ?_|refine Xw (c:=false) hr rfl ?_|refine Xw hr (by assumption) ?_);intro hr)
 |fail)
@[reducible,instance] def Qnx:=g10.1
@[reducible,instance] def Qmy:=g10.2.1
@[reducible,instance] def Qmz:=g10.2.2.1
@[reducible,instance] def QgR:=g10.2.2.2.1
@[reducible,instance] def QkM:=g10.2.2.2.2.1
@[reducible,instance] def Qhk:=g10.2.2.2.2.2.1
@[reducible,instance] def Qny:=g10.2.2.2.2.2.2
end Go.Sx
