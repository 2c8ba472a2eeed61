import Derived.Test.YtgcneehkconghaaGreatDoorVF
import Derived.Test.YtgcneehkconghaaGreatDoorVG0
import Derived.Test.YtgcneehkconghaaGreatDoorVG1
import Derived.Test.YtgcneehkconghaaGreatDoorVG2
set_option linter.all false
namespace Go.Sx
open Go.Proofs
set_option maxRecDepth 10000
set_option maxHeartbeats 100000000
abbrev QiB:=λ N (a0:Ww) (Q:(Ex Bool Unit)→Prop) n (st:St)=>∃ (v1:Int) (ex:_),Qdb N a0 n v1=some ex/\Q ex/\((∃ w64,st.n=174/\st.t 1=.ept 64 w64 3 0 0/\st.t 3=.v (.int .i64 v1)/\st.s 64=some (w64,.arr true 32 3 [e32 a0] 0)))
abbrev QiC:=λ N (a0:Ww) (Q:(Ex Bool Unit)→Prop) n (st:St)=>∃ (v5:Int) (v6:Int) (ex:_),Qaj N a0 n v5 v6=some ex/\Q ex/\((∃ w64,st.n=174/\st.t 1=.ept 64 w64 3 0 0/\st.t 4=.v (.int .i64 v5)/\st.t 5=.v (.int .i64 v6)/\st.s 64=some (w64,.arr true 32 3 [e32 a0] 0)))
abbrev QiD:=λ N (a0:Ww) (Q:(Ex Bool Unit)→Prop) n (st:St)=>∃ (v10:Int) (v11:Int) (ex:_),Qah N a0 n v10 v11=some ex/\Q ex/\((∃ w64,st.n=174/\st.t 1=.ept 64 w64 3 0 0/\st.t 7=.v (.int .i64 v10)/\st.t 8=.v (.int .i64 v11)/\st.s 64=some (w64,.arr true 32 3 [e32 a0] 0)))
abbrev QiE:=λ N (a0:Ww) (Q:(Ex Bool Unit)→Prop) n (st:St)=>∃ (v14:Int) (ex:_),QcC N a0 n v14=some ex/\Q ex/\((∃ w64,st.n=174/\st.t 1=.ept 64 w64 3 0 0/\st.t 10=.v (.int .i64 v14)/\st.s 64=some (w64,.arr true 32 3 [e32 a0] 0)))
abbrev QiF:=λ N (a2:List Int) (y1:Int × Bool) (Q:(List Int)→Prop) n (st:St)=>∃ (v2:Int) (v3:List Int) (ex:_),Qbz N a2 y1 n v2 v3=some ex/\Q ex/\((∃ w1408,st.n=41/\st.s 1408=some (w1408,.arr false 39 1 (v3.map e39) 0)/\st.t 2=.isl 39 1 (a2.map e39)/\st.t 8=.v (.int .i64 y1.1)/\st.t 10=.osl 1408 w1408 1 0 v3.length/\st.t 11=.v (.int .i64 v2)))
abbrev QjR:=λ N (a0:WI) (a1:Int) (Q:(Ex (WI × Int × Int × Int) Unit)→Prop) n (st:St)=>∃ (v2:Int) (ex:_),Qbw N a0 a1 n v2=some ex/\Q ex/\((∃ w896 w256,st.n=69/\st.s 896=some (w896,.arr false 117 3 (a0.Entries.map Yz) 0)/\st.t 1=.v (.int .u64 a1)/\st.t 4=.ept 256 w256 1 0 0/\st.t 8=.osl 896 w896 3 0 a0.Entries.length/\st.t 9=.v (.int .i64 v2)/\st.s 256=some (w256,.arr true 35 1 [[.nsl]] 0)))
abbrev QiG:=λ N (a0:Int) (a1:List Int) (Q:(Ex (List Int × Int) Unit)→Prop) n (st:St)=>∃ (v1:Int) (v2:Int) (ex:_),QaB N a0 a1 n v1 v2=some ex/\Q ex/\((st.n=49/\st.t 0=.v (.int .u64 a0)/\st.t 1=.isl 3 1 (a1.map e3)/\st.t 6=.v (.int .i64 v1)/\st.t 12=.isl 3 1 (a1.map e3)/\st.t 13=.v (.int .i64 ((a1.length:Nat):Int))/\st.t 14=.v (.int .i64 v2)))
abbrev QiH:=λ N (a1:List Int) (Q:(Int × List Int)→Prop) n (st:St)=>∃ (v5:Int) (v6:Int) (v7:List Int) (ex:_),QaC N a1 n v5 v6 v7=some ex/\Q ex/\((∃ w2624,st.n=49/\st.s 2624=some (w2624,.arr false 39 1 (v7.map e39) 0)/\st.t 0=.v (.int .u64 v5)/\st.t 9=.osl 2624 w2624 1 0 v7.length/\st.t 29=.isl 3 1 (a1.map e3)/\st.t 30=.v (.int .i64 ((a1.length:Nat):Int))/\st.t 31=.v (.int .i64 v6))\/((st.n=49/\st.t 0=.v (.int .u64 v5)/\st.t 9=.nsl/\st.t 29=.isl 3 1 (a1.map e3)/\st.t 30=.v (.int .i64 ((a1.length:Nat):Int))/\st.t 31=.v (.int .i64 v6))/\v7=[]))
abbrev QdE:=λ N (a0:List UI) (Q:(Ex Int Unit)→Prop) n (st:St)=>∃ (v1:Int) (ex:_),Qaf N a0 n v1=some ex/\Q ex/\((st.n=19/\st.t 0=.isl 279 4 (a0.map KR)/\st.t 1=.clo (.func 226) [] []/\st.t 7=.v (.int .i64 ((a0.length:Nat):Int))/\st.t 8=.v (.int .i64 v1)))
abbrev Qhh:=λ N (y1:List UX) (Q:Int→Prop) n (st:St)=>∃ (v2:Int) (v3:Int) (ex:_),Qbt N y1 n v2 v3=some ex/\Q ex/\((st.n=22/\st.t 5=.v (.int .i64 v2)/\st.t 10=.isl 115 3 (y1.map Zm)/\st.t 11=.v (.int .i64 ((y1.length:Nat):Int))/\st.t 12=.v (.int .i64 v3)))
abbrev Qea:=λ N (a0:List Ub) (Q:(Ex Int Unit)→Prop) n (st:St)=>∃ (v1:Int) (ex:_),Qai N a0 n v1=some ex/\Q ex/\((st.n=19/\st.t 0=.isl 117 3 (a0.map Yz)/\st.t 1=.clo (.func 131) [] []/\st.t 7=.v (.int .i64 ((a0.length:Nat):Int))/\st.t 8=.v (.int .i64 v1)))
abbrev Qjk:=λ N (a1:Int) (y1:List Oh) (Q:(Ex Int Unit)→Prop) n (st:St)=>∃ (v2:Int) (ex:_),QdD N a1 y1 n v2=some ex/\Q ex/\((st.n=23/\st.t 1=.v (.int .i64 a1)/\st.t 10=.isl 385 2 (y1.map Xcx)/\st.t 11=.v (.int .i64 ((y1.length:Nat):Int))/\st.t 12=.v (.int .i64 v2)))
theorem g9:(∀ N (a0:Ww),OK (QbW N a0) 60 [.agg (e32 a0)] [] (λ r=>.v (.bool r)) λ r=>[])/\(∀ N (a0:List Int) (a1:Int) (a2:List Int),OK (QbY N a0 a1 a2) 277 [.isl 39 1 (a0.map e39),.v (.int .u64 a1),.isl 39 1 (a2.map e39)] [] (λ r=>.tup [.isl 39 1 (r.1.map e39),.v (.int .i64 r.2)]) λ r=>[])/\(∀ N (a0:WI) (a1:Int),OK (Qce N a0 a1) 202 [.agg (e35 a0),.v (.int .u64 a1)] [] (λ r=>.tup [.agg (e35 r.1),.v (.int .i64 r.2.1),.v (.int .i64 r.2.2.1),.v (.int .i64 r.2.2.2)]) λ r=>[])/\(∀ N (a0:Int) (a1:List Int),OK (QdV N a0 a1) 56 [.v (.int .u64 a0),.isl 3 1 (a1.map e3)] [] (λ r=>.tup [.isl 39 1 (r.1.map e39),.v (.int .i64 r.2)]) λ r=>[])/\(∀ N (a0:List UI),OK (Qag N a0) 293 [.isl 279 4 (a0.map KR),.clo (.func 226) [] []] [] (λ r=>.v (.int .i64 r)) λ r=>[])/\(∀ N (a0:Iz) (a1:Int),OK (QdF N a0 a1) 129 [.agg (Xla a0),.v (.int .i64 a1)] [] (λ r=>.v (.int .i64 r)) λ r=>[])/\(∀ N (a0:List Ub),OK (QaI N a0) 222 [.isl 117 3 (a0.map Yz),.clo (.func 131) [] []] [] (λ r=>.v (.int .i64 r)) λ r=>[])/\(∀ N (a0:List Wv) (a1:Int),OK (QfM N a0 a1) 305 [.isl 175 4 (a0.map XG),.v (.int .i64 a1)] [] (λ r=>.v (.int .i64 r)) λ r=>[]):=by
 refine ⟨λ N _=>rn Tryz.f60 [.tmp 2] [] 174 (by kernel_rfl) ?_,λ N _ _ _=>rn Tryz.f277 [.tmp 6,.tmp 7] [] 41 (by kernel_rfl) ?_,λ N _ _=>rn Tryz.f202 [.cell 4 35,.tmp 5,.tmp 6,.tmp 7] [] 69 (by kernel_rfl) ?_,λ N _ _=>rn Tryz.f56 [.tmp 4,.tmp 5] [] 49 (by kernel_rfl) ?_,λ N _=>rn Tryz.f293 [.tmp 4] [] 19 (by kernel_rfl) ?_,λ N _ _=>rn Tryz.f129 [.tmp 4] [] 22 (by kernel_rfl) ?_,λ N _=>rn Tryz.f222 [.tmp 4] [] 19 (by kernel_rfl) ?_,λ N _ _=>rn Tryz.f305 [.tmp 4] [] 23 (by kernel_rfl) ?_⟩<;>(rintro _ hw r hr C _ rfl hwf hf;simp only[Tryz.f60,Tryz.f277,Tryz.f202,Tryz.f56,Tryz.f293,Tryz.f129,Tryz.f222,Tryz.f305,Option.get!];(first|rw[QbW] at hr|rw[QbY] at hr|rw[Qce] at hr|rw[QdV] at hr|rw[Qag] at hr|rw[QdF] at hr|rw[QaI] at hr|rw[QfM] at hr);repeat' first
 |(refine El.el hr ?_;intro hr)
 |(with_reducible intro h;refine XA hr h ?_;intro hr)
 |with_reducible intro _
 |(refine Xn hr ?_;rintro rfl;have hr:=hk;clear hk)
 |simp only[go_sem,simprocAttr,E,hl3,XR,Js,Yk,YJ,V9,Xaa]
 |(with_reducible first|apply Xk|apply Xj|apply Xo|apply Xt|apply Xu)
 |((first|with_reducible refine Ym hr (by assumption) ?_ ?_|(with_reducible refine Yi hr ?_ ?_;rotate_left;intro p;rotate_right));(·simp only[go_sem,simprocAttr]);intro hp hn hd hr;(try have hl3:=hd _ e3);(try simp only[go_sem,simprocAttr] at hl3);(try have XR:=hd _ e39);(try simp only[go_sem,simprocAttr] at XR);(try have Js:=hd _ e98);(try simp only[go_sem,simprocAttr] at Js);(try have Yk:=hd _ Zm);(try simp only[go_sem,simprocAttr] at Yk);(try have YJ:=hd _ Yz);(try simp only[go_sem,simprocAttr] at YJ);(try have V9:=hd _ KR);(try simp only[go_sem,simprocAttr] at V9);(try have Xaa:=hd _ Xcx);(try simp only[go_sem,simprocAttr] at Xaa))
 |(refine Xp ?_ ?_;·first|assumption|omega)
 |(with_reducible first|refine CallX.c ?_ _|refine OK.c hr hw ?_ (λ y hr=>?_) _|refine Og hr hw ?_ (λ y hr=>?_) _)
 |(with_reducible refine Xf (I:=QiB N _) hr 1000 N (λ ex hq hk=>⟨_,ex,hq,hk,?_⟩) ?_ _;rotate_left;clear hr;(try clear E);rintro n1 st ⟨v1,ex,hr,hk,⟨_,E⟩⟩<;>(obtain _|n1:=n1<;>rw[Qdb] at hr))
 |refine ⟨_,WD _,_,_,hr,hk,?_⟩
 |(with_reducible refine Xf (I:=QiC N _) hr 1000 N (λ ex hq hk=>⟨_,_,ex,hq,hk,?_⟩) ?_ _;rotate_left;clear hr;(try clear E);rintro n2 st ⟨v5,v6,ex,hr,hk,⟨_,E⟩⟩<;>(obtain _|n2:=n2<;>rw[Qaj] at hr))
 |refine ⟨_,WD _,_,_,_,hr,hk,?_⟩
 |(with_reducible refine Xf (I:=QiD N _) hr 1000 N (λ ex hq hk=>⟨_,_,ex,hq,hk,?_⟩) ?_ _;rotate_left;clear hr;(try clear E);rintro n3 st ⟨v10,v11,ex,hr,hk,⟨_,E⟩⟩<;>(obtain _|n3:=n3<;>rw[Qah] at hr))
 |(with_reducible refine Xf (I:=QiE N _) hr 1000 N (λ ex hq hk=>⟨_,ex,hq,hk,?_⟩) ?_ _;rotate_left;clear hr;(try clear E);rintro n4 st ⟨v14,ex,hr,hk,⟨_,E⟩⟩<;>(obtain _|n4:=n4<;>rw[QcC] at hr))
 |(with_reducible refine Xf (I:=QiF N _ _) hr 1000 N (λ ex hq hk=>⟨_,_,ex,hq,hk,?_⟩) ?_ _;rotate_left;clear hr;(try clear E);rintro n1 st ⟨v2,v3,ex,hr,hk,⟨_,E⟩⟩<;>(obtain _|n1:=n1<;>rw[Qbz] at hr))
 |(with_reducible refine Xf (I:=QjR N _ _) hr 1000 N (λ ex hq hk=>⟨_,ex,hq,hk,?_⟩) ?_ _;rotate_left;clear hr;(try clear E);rintro n1 st ⟨v2,ex,hr,hk,⟨_,_,E⟩⟩<;>(obtain _|n1:=n1<;>rw[Qbw] at hr))
 |(with_reducible refine Xf (I:=QiG N _ _) hr 1000 N (λ ex hq hk=>⟨_,_,ex,hq,hk,?_⟩) ?_ _;rotate_left;clear hr;(try clear E);rintro n1 st ⟨v1,v2,ex,hr,hk,E⟩<;>(obtain _|n1:=n1<;>rw[QaB] at hr))
 |(with_reducible refine Xf (I:=QiH N _) hr 1000 N (λ ex hq hk=>⟨_,_,_,ex,hq,hk,?_⟩) ?_ _;rotate_left;clear hr;(try clear E);rintro n2 st ⟨v5,v6,v7,ex,hr,hk,(⟨_,E⟩|⟨E,z0⟩)⟩<;>(try subst z0)<;>(obtain _|n2:=n2<;>rw[QaC] at hr))
 |refine ⟨_,WD _,_,_,_,_,hr,hk,?_⟩
 |(with_reducible refine Xf (I:=QdE N _) hr 1000 N (λ ex hq hk=>⟨_,ex,hq,hk,?_⟩) ?_ _;rotate_left;clear hr;(try clear E);rintro n1 st ⟨v1,ex,hr,hk,E⟩<;>(obtain _|n1:=n1<;>rw[Qaf] at hr))
 |(with_reducible refine Xf (I:=Qhh N _) hr 1000 N (λ ex hq hk=>⟨_,_,ex,hq,hk,?_⟩) ?_ _;rotate_left;clear hr;(try clear E);rintro n1 st ⟨v2,v3,ex,hr,hk,E⟩<;>(obtain _|n1:=n1<;>rw[Qbt] at hr))
 |(with_reducible refine Xf (I:=Qea N _) hr 1000 N (λ ex hq hk=>⟨_,ex,hq,hk,?_⟩) ?_ _;rotate_left;clear hr;(try clear E);rintro n1 st ⟨v1,ex,hr,hk,E⟩<;>(obtain _|n1:=n1<;>rw[Qai] at hr))
 |(with_reducible refine Xf (I:=Qjk N _ _) hr 1000 N (λ ex hq hk=>⟨_,ex,hq,hk,?_⟩) ?_ _;rotate_left;clear hr;(try clear E);rintro n1 st ⟨v2,ex,hr,hk,E⟩<;>(obtain _|n1:=n1<;>rw[QdD] at hr))
 |refine db 60 27 hf 156 [(0,130046,[]),(0,129929,[]),(2,129929,[]),(0,129927,[]),(14,129921,[]),(30,129921,[]),(62,129921,[]),(0,129407,[]),(0,129279,[]),(384,129151,[]),(1023,129024,[]),(0,10239,[]),(2048,10239,[]),(0,8191,[]),(14336,2047,[]),(30720,2047,[]),(63488,2047,[]),(131071,0,[])] rfl rfl (by kernel_rfl) ?_ _
 |refine db 202 9 hf 5 [(0,4433230883192832,[]),(1,4433230883192832,[]),(0,4415638697148416,[[],[256]]),(0,404620279021569,[[],[256]]),(0,263882790666241,[[],[256]]),(24,123145302310913,[[],[256]]),(56,123145302310913,[[],[256]]),(120,123145302310913,[[],[256]]),(3,4433230883192832,[[256],[]]),(263,4362862139015168,[]),(1023,0,[]),(2047,0,[])] rfl rfl (by kernel_rfl) ?_ _
 |(refine Xn hr ?_;rintro rfl;with_reducible refine XM ?_)
 |exact Yw hr
 |((first|refine XA (c:=true) hr rfl ?_|refine XA (c:=false) hr rfl ?_|refine XA hr (by assumption) ?_);intro hr)
 |fail)
@[reducible,instance] def Ql8:=g9.1
@[reducible,instance] def Ql9:=g9.2.1
@[reducible,instance] def QnW:=g9.2.2.1
@[reducible,instance] def Qma:=g9.2.2.2.1
@[reducible,instance] def QgO:=g9.2.2.2.2.1
@[reducible,instance] def Qkx:=g9.2.2.2.2.2.1
@[reducible,instance] def Qhe:=g9.2.2.2.2.2.2.1
@[reducible,instance] def Qm7:=g9.2.2.2.2.2.2.2
end Go.Sx
