import Derived.Test.YtgdhlnfcogcicaaGreatDoorTF
import Derived.Test.YtgdhlnfcogcicaaGreatDoorTG6
import Derived.Test.YtgdhlnfcogcicaaGreatDoorTG7
import Derived.Test.YtgdhlnfcogcicaaGreatDoorTG9
import Derived.Test.YtgdhlnfcogcicaaGreatDoorTG12
import Derived.Test.YtgdhlnfcogcicaaGreatDoorTG14
import Derived.Test.YtgdhlnfcogcicaaGreatDoorTG15
set_option linter.all false
namespace Go.Sx
open Go.Proofs
set_option maxRecDepth 10000
set_option maxHeartbeats 100000000
abbrev Qh9:=λ N (a0:Wm) (y2:List Bool) (Q:(List Int)→Prop) n (st:St)=>∃ (v4:Int) (v5:List Int) (ex:_),Qaw N a0 y2 n v4 v5=some ex/\Q ex/\((∃ w960 w64 w128,st.n=50/\st.s 960=some (w960,.arr false 37 1 (v5.map e37) 0)/\st.t 1=.ept 64 w64 10 0 0/\st.t 2=.ept 128 w128 10 0 0/\st.t 4=.isl 4 1 (y2.map e4)/\st.t 5=.osl 960 w960 1 0 v5.length/\st.t 6=.v (.int .i64 v4)/\st.s 64=some (w64,.arr true 36 10 [e36 a0] 0)/\st.s 128=some (w128,.arr true 36 10 [[.v (.int .i64 0),.v (.int .i64 0),.nsl,.nsl,.nsl,.nsl,.nsl,.nsl,.nsl,.nsl]] 0)))
abbrev QjN:=λ N (a0:Wz) (a1:Int) (p2:W4) (Q:(Ex (List Int × Int) (List Int))→Prop) n (st:St)=>∃ (v3:Int) (v4:List Int) (ex:_),QbJ N a0 a1 p2 n v3 v4=some ex/\Q ex/\((∃ w3904 w128 w384,st.n=70/\st.s 3904=some (w3904,.arr false 37 1 (v4.map e37) 0)/\st.t 1=.v (.int .i64 a1)/\st.t 2=.ept 128 w128 6 0 0/\st.t 6=.ept 384 w384 4 0 0/\st.t 7=.osl 3904 w3904 1 0 v4.length/\st.t 8=.v (.int .i64 v3)/\st.s 128=some (w128,.arr true 42 6 [e42 a0] 0)/\st.s 384=some (w384,.arr true 306 4 [Ym p2] 0))\/(∃ w128 w384,(st.n=70/\st.t 1=.v (.int .i64 a1)/\st.t 2=.ept 128 w128 6 0 0/\st.t 6=.ept 384 w384 4 0 0/\st.t 7=.nsl/\st.t 8=.v (.int .i64 v3)/\st.s 128=some (w128,.arr true 42 6 [e42 a0] 0)/\st.s 384=some (w384,.arr true 306 4 [Ym p2] 0))/\v4=[]))
abbrev Qi4:=λ N (a0:Wz) (a1:Int) (a2:List Int) (Q:(Ex Int Unit)→Prop) n (st:St)=>∃ (v1:Int) (ex:_),Qbq N a0 a1 a2 n v1=some ex/\Q ex/\((∃ w192,st.n=61/\st.t 1=.v (.int .i64 a1)/\st.t 2=.isl 37 1 (a2.map e37)/\st.t 3=.ept 192 w192 6 0 0/\st.t 7=.v (.int .i64 v1)/\st.s 192=some (w192,.arr true 42 6 [e42 a0] 0)))
abbrev QjO:=λ N (a0:Wz) (a1:Int) (a2:List Int) (v1:Int) (x6:Int) (Q:(List Bool)→Prop) n (st:St)=>∃ (v7:Int) (v8:List Bool) (ex:_),Qb7 N a0 a1 a2 v1 x6 n v7 v8=some ex/\Q ex/\((∃ w1088 w192,st.n=69/\st.s 1088=some (w1088,.arr false 4 1 (v8.map e4) 0)/\st.t 1=.v (.int .i64 a1)/\st.t 2=.isl 37 1 (a2.map e37)/\st.t 3=.ept 192 w192 6 0 0/\st.t 7=.osl 1088 w1088 1 0 v8.length/\st.t 8=.v (.int .i64 v1)/\st.t 11=.v (.int .i64 x6)/\st.t 12=.v (.int .i64 v7)/\st.s 192=some (w192,.arr true 42 6 [e42 a0] 0)))
abbrev QjP:=λ N (a0:Wz) (a1:Int) (a2:List Int) (Q:(List Bool)→Prop) n (st:St)=>∃ (v1:Int) (v2:List Bool) (ex:_),Qds N a0 a1 a2 n v1 v2=some ex/\Q ex/\((∃ w1088 w192,st.n=69/\st.s 1088=some (w1088,.arr false 4 1 (v2.map e4) 0)/\st.t 1=.v (.int .i64 a1)/\st.t 2=.isl 37 1 (a2.map e37)/\st.t 3=.ept 192 w192 6 0 0/\st.t 7=.osl 1088 w1088 1 0 v2.length/\st.t 8=.v (.int .i64 v1)/\st.s 192=some (w192,.arr true 42 6 [e42 a0] 0)))
abbrev Qj8:=λ N (Q:(W9 × Int)→Prop) n (st:St)=>∃ (v1:Int) (v2:Int) (v3:List Int) (v4:List W4) (v5:Int) (v6:Int) (v7:List Int) (v8:List Int) (v9:List Int) (v10:Int) (v11:Int) (v12:Int) (v13:Int) (v14:Int) (v15:Int) (v16:Int) (ex:_),Qb2 N n v1 v2 v3 v4 v5 v6 v7 v8 v9 v10 v11 v12 v13 v14 v15 v16=some ex/\Q ex/\((∃ w64 w128,st.n=21/\st.t 1=.ept 64 w64 16 0 0/\st.t 2=.ept 128 w128 16 0 0/\st.s 64=some (w64,.arr true 265 16 [[.v (.int .i64 v1),.v (.int .i64 v2),.isl 37 1 (v3.map e37),.isl 306 4 (v4.map Ym),.v (.int .i64 v5),.v (.int .i64 v6),.isl 37 1 (v7.map e37),.isl 3 1 (v8.map e3),.isl 37 1 (v9.map e37),.v (.int .i64 v10),.v (.int .i64 v11),.v (.int .i64 v12),.v (.int .i64 v13),.v (.int .i64 v14),.v (.int .i64 v15),.v (.int .i64 v16)]] 0)/\st.s 128=some (w128,.arr true 265 16 [[.v (.int .i64 0),.v (.int .i64 0),.nsl,.nsl,.v (.int .i64 0),.v (.int .i64 0),.nsl,.nsl,.nsl,.v (.int .i64 0),.v (.int .i64 0),.v (.int .i64 0),.v (.int .i64 0),.v (.int .i64 0),.v (.int .i64 0),.v (.int .i64 0)]] 0)))
abbrev QfR:=λ N (a0:List Int) (c0:Wm) (c1:W5) (Q:(Ex Int Unit)→Prop) n (st:St)=>∃ (v1:Int) (ex:_),Qau N a0 c0 c1 n v1=some ex/\Q ex/\((st.n=19/\st.t 0=.isl 3 1 (a0.map e3)/\st.t 1=.clo (.func 201) [] [.ept 1000000 0 10 0 0,.ept 1000001 0 4 0 0]/\st.t 7=.v (.int .i64 ((a0.length:Nat):Int))/\st.t 8=.v (.int .i64 v1)/\st.s 1000000=some (0,.arr true 61 10 [e61 c0] 0)/\st.s 1000001=some (0,.arr true 77 4 [KG c1] 0)))
theorem g19:(∀ N (a0:Wm),OK (QbI N a0) 24 [.agg (e36 a0)] [] (λ r=>.tup [.agg (e36 r.1),.v (.int .i64 r.2)]) λ r=>[])/\(∀ N (a0:Wz) (a1:Int),OK (QaV N a0 a1) 281 [.agg (e42 a0),.v (.int .i64 a1)] [] (λ r=>.tup [.isl 37 1 (r.1.map e37),.v (.int .i64 r.2)]) λ r=>[])/\(∀ N (a0:Wz) (a1:Int) (a2:List Int),OK (QfG N a0 a1 a2) 288 [.agg (e42 a0),.v (.int .i64 a1),.isl 37 1 (a2.map e37)] [] (λ r=>.v (.int .u64 r)) λ r=>[])/\(∀ N (a0:Wz) (a1:Int) (a2:List Int),OK (Qg1 N a0 a1 a2) 295 [.agg (e42 a0),.v (.int .i64 a1),.isl 37 1 (a2.map e37)] [] (λ r=>.isl 4 1 (r.map e4)) λ r=>[])/\(∀ N (a0:W9),OK (QfX N a0) 210 [.agg (KH a0)] [] (λ r=>.tup [.agg (KH r.1),.v (.int .i64 r.2)]) λ r=>[])/\(∀ N (a0:List Int) (c0:Wm) (c1:W5),OK (Qbh N a0 c0 c1) 235 [.isl 3 1 (a0.map e3),.clo (.func 201) [] [.ept 1000000 0 10 0 0,.ept 1000001 0 4 0 0]] [.arr true 61 10 [[.v (.int .i64 c0.Conf.PageWords),.v (.int .i64 c0.Conf.Pages),.isl 77 4 (c0.Things.map e77),.isl 210 3 (c0.Locals.Slots.map X4),.isl 159 3 (c0.Locals.Scopes.map X9),.isl 3 1 (c0.Locals.Issued.map e3),.isl 132 3 (c0.Globals.Entries.map XC),.isl 132 3 (c0.Weaks.Entries.map XC),.isl 116 3 (c0.Marks.map Yv),.isl 37 1 (c0.Roots.map e37)]] 0,.arr true 77 4 [[.v (.int .i64 c1.Header.Kind),.v (.int .i64 c1.Header.Length),.v (.int .u32 c1.Header.Map),.isl 37 1 (c1.Fields.map e37)]] 0] (λ r=>.v (.int .i64 r)) λ r=>[.arr true 61 10 [[.v (.int .i64 c0.Conf.PageWords),.v (.int .i64 c0.Conf.Pages),.isl 77 4 (c0.Things.map e77),.isl 210 3 (c0.Locals.Slots.map X4),.isl 159 3 (c0.Locals.Scopes.map X9),.isl 3 1 (c0.Locals.Issued.map e3),.isl 132 3 (c0.Globals.Entries.map XC),.isl 132 3 (c0.Weaks.Entries.map XC),.isl 116 3 (c0.Marks.map Yv),.isl 37 1 (c0.Roots.map e37)]] 0,.arr true 77 4 [[.v (.int .i64 c1.Header.Kind),.v (.int .i64 c1.Header.Length),.v (.int .u32 c1.Header.Map),.isl 37 1 (c1.Fields.map e37)]] 0]):=by
 refine ⟨λ N _=>rn Tryz.f24 [.cell 2 36,.tmp 3] [] 50 (by kernel_rfl) ?_,λ N _ _=>rn Tryz.f281 [.tmp 4,.tmp 5] [] 70 (by kernel_rfl) ?_,λ N _ _ _=>rn Tryz.f288 [.tmp 6] [] 61 (by kernel_rfl) ?_,λ N _ _ _=>rn Tryz.f295 [.tmp 6] [] 69 (by kernel_rfl) ?_,λ N _=>rn Tryz.f210 [.cell 2 265,.tmp 3] [] 21 (by kernel_rfl) ?_,λ N _ _ _=>rn Tryz.f235 [.tmp 4] [] 19 (by kernel_rfl) ?_⟩<;>(rintro _ hw r hr C _ rfl hwf hf;simp only[Tryz.f24,Tryz.f281,Tryz.f288,Tryz.f295,Tryz.f210,Tryz.f235,Option.get!];(first|rw[QbI] at hr|rw[QaV] at hr|rw[QfG] at hr|rw[Qg1] at hr|rw[QfX] at hr|rw[Qbh] at hr);repeat' first
 |(refine El.el hr ?_;intro hr)
 |(with_reducible intro h;refine Xz hr h ?_;intro hr)
 |with_reducible intro _
 |(refine Xq hr ?_;rintro rfl;have hr:=hk;clear hk)
 |simp only[go_sem,simprocAttr,E,hl3,hl4,XQ,Yn]
 |(with_reducible first|apply Xg|apply Xf|apply Xs|apply Xx|apply Xy)
 |((first|with_reducible refine Ye hr (by assumption) ?_ ?_|(with_reducible refine Yd hr ?_ ?_;rotate_left;intro p;rotate_right));(·simp only[go_sem,simprocAttr]);intro hp hn hd hr;(try have hl3:=hd _ e3);(try simp only[go_sem,simprocAttr] at hl3);(try have hl4:=hd _ e4);(try simp only[go_sem,simprocAttr] at hl4);(try have XQ:=hd _ e37);(try simp only[go_sem,simprocAttr] at XQ);(try have Yn:=hd _ Ym);(try simp only[go_sem,simprocAttr] at Yn))
 |(refine Xl ?_ ?_;·first|assumption|omega)
 |(with_reducible first|refine CallX.c ?_ _|refine OK.c hr hw ?_ (λ y hr=>?_) _|refine Oy hr hw ?_ (λ y hr=>?_) _)
 |(with_reducible refine Xj (I:=Qh9 N _ _) hr 1000 N (λ ex hq hk=>⟨_,_,ex,hq,hk,?_⟩) ?_ _;rotate_left;clear hr;(try clear E);rintro n1 st ⟨v4,v5,ex,hr,hk,⟨_,_,_,E⟩⟩<;>(obtain _|n1:=n1<;>rw[Qaw] at hr))
 |refine ⟨_,WJ _,_,_,_,hr,hk,?_⟩
 |(with_reducible refine Xj (I:=QjN N _ _ _) hr 1000 N (λ ex hq hk=>⟨_,_,ex,hq,hk,?_⟩) ?_ _;rotate_left;clear hr;(try clear E);rintro n1 st ⟨v3,v4,ex,hr,hk,(⟨_,_,_,E⟩|⟨_,_,E,z0⟩)⟩<;>(try subst z0)<;>(obtain _|n1:=n1<;>rw[QbJ] at hr))
 |(with_reducible refine Xj (I:=Qi4 N _ _ _) hr 1000 N (λ ex hq hk=>⟨_,ex,hq,hk,?_⟩) ?_ _;rotate_left;clear hr;(try clear E);rintro n1 st ⟨v1,ex,hr,hk,⟨_,E⟩⟩<;>(obtain _|n1:=n1<;>rw[Qbq] at hr))
 |refine ⟨_,WJ _,_,_,hr,hk,?_⟩
 |(with_reducible refine Xj (I:=QjO N _ _ _ _ _) hr 1000 N (λ ex hq hk=>⟨_,_,ex,hq,hk,?_⟩) ?_ _;rotate_left;clear hr;(try clear E);rintro n1 st ⟨v7,v8,ex,hr,hk,⟨_,_,E⟩⟩<;>(obtain _|n1:=n1<;>rw[Qb7] at hr))
 |(with_reducible refine Xj (I:=QjP N _ _ _) hr 1000 N (λ ex hq hk=>⟨_,_,ex,hq,hk,?_⟩) ?_ _;rotate_left;clear hr;(try clear E);rintro n2 st ⟨v1,v2,ex,hr,hk,⟨_,_,E⟩⟩<;>(obtain _|n2:=n2<;>rw[Qds] at hr))
 |(with_reducible refine Xj (I:=Qj8 N) hr 1000 N (λ ex hq hk=>⟨_,_,_,_,_,_,_,_,_,_,_,_,_,_,_,_,ex,hq,hk,?_⟩) ?_ _;rotate_left;clear hr;(try clear E);rintro n1 st ⟨v1,v2,v3,v4,v5,v6,v7,v8,v9,v10,v11,v12,v13,v14,v15,v16,ex,hr,hk,⟨_,_,E⟩⟩<;>(obtain _|n1:=n1<;>rw[Qb2] at hr))
 |refine ⟨_,WJ _,_,_,_,_,_,_,_,_,_,_,_,_,_,_,_,_,_,hr,hk,?_⟩
 |(with_reducible refine Xj (I:=QfR N _ _ _) hr 1000 N (λ ex hq hk=>⟨_,ex,hq,hk,?_⟩) ?_ _;rotate_left;clear hr;(try clear E);rintro n1 st ⟨v1,ex,hr,hk,E⟩<;>(obtain _|n1:=n1<;>rw[Qau] at hr))
 |refine db 288 4 hf 8 [(0,30721,[[],[512]]),(0,5121,[[],[512]]),(0,3073,[[],[512]]),(6,1025,[[],[512]]),(14,1025,[[],[512]]),(31,1,[[],[512]]),(63,1,[[],[512]]),(127,131073,[[],[512]]),(127,65537,[[],[512]]),(0,261632,[[512],[]]),(767,131072,[[512],[]]),(2047,0,[])] rfl rfl (by kernel_rfl) ?_ _
 |refine db 288 5 hf 26 [(0,12,[]),(1,12,[]),(0,3,[]),(4,3,[]),(15,0,[]),(31,0,[]),(63,0,[])] rfl rfl (by kernel_rfl) ?_ _
 |refine db 295 5 hf 9 [(0,1966081,[[],[576]]),(0,327681,[[],[576]]),(0,196609,[[],[576]]),(6,65537,[[],[576]]),(14,65537,[[],[576]]),(31,1,[[],[576]]),(63,1,[[],[576]]),(127,8388609,[[],[576]]),(127,4194305,[[],[576]]),(0,16744448,[[576],[]]),(767,8388608,[[576],[]]),(2047,0,[])] rfl rfl (by kernel_rfl) ?_ _
 |refine db 295 12 hf 43 [(0,8002,[]),(0,8001,[]),(3,8000,[]),(7,8000,[]),(15,8000,[]),(31,8000,[]),(0,7999,[]),(127,7936,[]),(0,3839,[]),(0,511,[]),(512,511,[]),(1536,511,[]),(3840,255,[]),(8191,0,[]),(16383,0,[])] rfl rfl (by kernel_rfl) ?_ _
 |(refine Xq hr ?_;rintro rfl;with_reducible refine XG ?_)
 |exact Yo hr
 |((first|refine Xz (c:=true) hr rfl ?_|refine Xz (c:=false) hr rfl ?_|refine Xz hr (by assumption) ?_);intro hr)
 |fail)
@[reducible,instance] def QlX:=g19.1
@[reducible,instance] def Qoh:=g19.2.1
@[reducible,instance] def Qnm:=g19.2.2.1
@[reducible,instance] def Qoi:=g19.2.2.2.1
@[reducible,instance] def QoM:=g19.2.2.2.2.1
@[reducible,instance] def Qin:=g19.2.2.2.2.2
end Go.Sx
