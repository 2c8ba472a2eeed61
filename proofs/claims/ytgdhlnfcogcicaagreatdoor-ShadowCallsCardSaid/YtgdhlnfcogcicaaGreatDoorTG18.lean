import Derived.Test.YtgdhlnfcogcicaaGreatDoorTF
import Derived.Test.YtgdhlnfcogcicaaGreatDoorTG1
import Derived.Test.YtgdhlnfcogcicaaGreatDoorTG3
import Derived.Test.YtgdhlnfcogcicaaGreatDoorTG4
import Derived.Test.YtgdhlnfcogcicaaGreatDoorTG6
import Derived.Test.YtgdhlnfcogcicaaGreatDoorTG7
import Derived.Test.YtgdhlnfcogcicaaGreatDoorTG9
import Derived.Test.YtgdhlnfcogcicaaGreatDoorTG10
import Derived.Test.YtgdhlnfcogcicaaGreatDoorTG11
import Derived.Test.YtgdhlnfcogcicaaGreatDoorTG12
import Derived.Test.YtgdhlnfcogcicaaGreatDoorTG15
import Derived.Test.YtgdhlnfcogcicaaGreatDoorTG16
import Derived.Test.YtgdhlnfcogcicaaGreatDoorTG17
set_option linter.all false
namespace Go.Sx
open Go.Proofs
set_option maxRecDepth 10000
set_option maxHeartbeats 100000000
abbrev QjQ:=λ N (a0:Wz) (a1:Int) (y3:List Bool) (Q:(Ex Int Unit)→Prop) n (st:St)=>∃ (v4:Int) (ex:_),Qdt N a0 a1 y3 n v4=some ex/\Q ex/\((∃ w128,st.n=43/\st.t 1=.v (.int .i64 a1)/\st.t 2=.ept 128 w128 6 0 0/\st.t 7=.isl 4 1 (y3.map e4)/\st.t 8=.v (.int .i64 v4)/\st.s 128=some (w128,.arr true 42 6 [e42 a0] 0)))
abbrev Qio:=λ N (a0:Wz) (Q:(Ex (List Int × Int) (List Int))→Prop) n (st:St)=>∃ (v2:Int) (v3:List Int) (ex:_),Qbd N a0 n v2 v3=some ex/\Q ex/\((∃ w1856 w64,st.n=31/\st.s 1856=some (w1856,.arr false 37 1 (v3.map e37) 0)/\st.t 1=.ept 64 w64 6 0 0/\st.t 4=.osl 1856 w1856 1 0 v3.length/\st.t 5=.v (.int .i64 v2)/\st.s 64=some (w64,.arr true 42 6 [e42 a0] 0))\/(∃ w64,(st.n=31/\st.t 1=.ept 64 w64 6 0 0/\st.t 4=.nsl/\st.t 5=.v (.int .i64 v2)/\st.s 64=some (w64,.arr true 42 6 [e42 a0] 0))/\v3=[]))
theorem g21:(∀ N (a0:Wz) (a1:Int),OK (Qf9 N a0 a1) 289 [.agg (e42 a0),.v (.int .i64 a1)] [] (λ r=>.v (.int .u64 r)) λ r=>[])/\(∀ N (a0:Wz),OK (Qen N a0) 265 [.agg (e42 a0)] [] (λ r=>.tup [.isl 37 1 (r.1.map e37),.v (.int .i64 r.2)]) λ r=>[]):=by
 refine ⟨λ N _ _=>rn Tryz.f289 [.tmp 4] [] 43 (by kernel_rfl) ?_,λ N _=>rn Tryz.f265 [.tmp 2,.tmp 3] [] 31 (by kernel_rfl) ?_⟩<;>(rintro _ hw r hr C _ rfl hwf hf;simp only[Tryz.f289,Tryz.f265,Option.get!];(first|rw[Qf9] at hr|rw[Qen] at hr);repeat' first
 |(refine El.el hr ?_;intro hr)
 |(with_reducible intro h;refine Xz hr h ?_;intro hr)
 |with_reducible intro _
 |(refine Xq hr ?_;rintro rfl;have hr:=hk;clear hk)
 |simp only[go_sem,simprocAttr,E,hl4]
 |(with_reducible first|apply Xg|apply Xf|apply Xs|apply Xx|apply Xy)
 |((first|with_reducible refine Ye hr (by assumption) ?_ ?_|(with_reducible refine Yd hr ?_ ?_;rotate_left;intro p;rotate_right));(·simp only[go_sem,simprocAttr]);intro hp hn hd hr;(try have hl4:=hd _ e4);(try simp only[go_sem,simprocAttr] at hl4))
 |(refine Xl ?_ ?_;·first|assumption|omega)
 |(with_reducible first|refine CallX.c ?_ _|refine OK.c hr hw ?_ (λ y hr=>?_) _|refine Oy hr hw ?_ (λ y hr=>?_) _)
 |(with_reducible refine Xj (I:=QjQ N _ _ _) hr 1000 N (λ ex hq hk=>⟨_,ex,hq,hk,?_⟩) ?_ _;rotate_left;clear hr;(try clear E);rintro n1 st ⟨v4,ex,hr,hk,⟨_,E⟩⟩<;>(obtain _|n1:=n1<;>rw[Qdt] at hr))
 |refine ⟨_,WJ _,_,_,hr,hk,?_⟩
 |(with_reducible refine Xj (I:=Qio N _) hr 1000 N (λ ex hq hk=>⟨_,_,ex,hq,hk,?_⟩) ?_ _;rotate_left;clear hr;(try clear E);rintro n1 st ⟨v2,v3,ex,hr,hk,(⟨_,_,E⟩|⟨_,E,z0⟩)⟩<;>(try subst z0)<;>(obtain _|n1:=n1<;>rw[Qbd] at hr))
 |refine ⟨_,WJ _,_,_,_,hr,hk,?_⟩
 |refine db 289 1 hf 5 [(0,448,[]),(0,160,[]),(0,96,[]),(6,32,[]),(15,0,[]),(31,0,[]),(63,2048,[]),(63,1025,[]),(127,2048,[]),(511,0,[])] rfl rfl (by kernel_rfl) ?_ _
 |(refine Xq hr ?_;rintro rfl;with_reducible refine XG ?_)
 |exact Yo hr
 |((first|refine Xz (c:=true) hr rfl ?_|refine Xz (c:=false) hr rfl ?_|refine Xz hr (by assumption) ?_);intro hr)
 |fail)
@[reducible,instance] def Qok:=g21.1
@[reducible,instance] def QmF:=g21.2
theorem g20:(∀ N (a0:Wm) (a1:Int) (a2:Int) (a3:Int) (a4:Int),OK (QfU N a0 a1 a2 a3 a4) 95 [.agg (e36 a0),.v (.int .i64 a1),.v (.int .u64 a2),.v (.int .u64 a3),.v (.int .u64 a4)] [] (λ r=>.v (.int .i64 r)) λ r=>[])/\(∀ N (a0:Wm) (a1:Int) (a2:Int),OK (Qgj N a0 a1 a2) 97 [.agg (e36 a0),.v (.int .i64 a1),.v (.int .u64 a2)] [] (λ r=>.v (.int .i64 r)) λ r=>[])/\(∀ N (a0:Wm) (a1:Int) (a2:Int) (a3:Bool),OK (Qgy N a0 a1 a2 a3) 99 [.agg (e36 a0),.v (.int .i64 a1),.v (.int .u64 a2),.v (.bool a3)] [] (λ r=>.v (.int .i64 r)) λ r=>[])/\(∀ N (a0:Wm) (a1:Int) (a2:Int) (a3:Int),OK (Qgk N a0 a1 a2 a3) 100 [.agg (e36 a0),.v (.int .i64 a1),.v (.int .u64 a2),.v (.int .u64 a3)] [] (λ r=>.v (.int .i64 r)) λ r=>[])/\(∀ N (a0:Wz) (a1:Int),OK (QfW N a0 a1) 290 [.agg (e42 a0),.v (.int .u64 a1)] [] (λ r=>.tup [.isl 37 1 (r.1.map e37),.v (.int .i64 r.2)]) λ r=>[])/\(∀ N (a0:Wz) (a1:Int) (a2:Int),OK (QdY N a0 a1 a2) 217 [.agg (e42 a0),.v (.int .u64 a1),.v (.int .i64 a2)] [] (λ r=>.tup [.v (.int .u64 r.1),.v (.int .i64 r.2)]) λ r=>[])/\(∀ N (a0:List Int) (c0:Wm) (c1:W5),OK (Qa1 N a0 c0 c1) 192 [.isl 3 1 (a0.map e3),.clo (.func 201) [] [.ept 1000000 0 10 0 0,.ept 1000001 0 4 0 0]] [.arr true 61 10 [[.v (.int .i64 c0.Conf.PageWords),.v (.int .i64 c0.Conf.Pages),.isl 77 4 (c0.Things.map e77),.isl 210 3 (c0.Locals.Slots.map X4),.isl 159 3 (c0.Locals.Scopes.map X9),.isl 3 1 (c0.Locals.Issued.map e3),.isl 132 3 (c0.Globals.Entries.map XC),.isl 132 3 (c0.Weaks.Entries.map XC),.isl 116 3 (c0.Marks.map Yv),.isl 37 1 (c0.Roots.map e37)]] 0,.arr true 77 4 [[.v (.int .i64 c1.Header.Kind),.v (.int .i64 c1.Header.Length),.v (.int .u32 c1.Header.Map),.isl 37 1 (c1.Fields.map e37)]] 0] (λ r=>.v (.bool r)) λ r=>[.arr true 61 10 [[.v (.int .i64 c0.Conf.PageWords),.v (.int .i64 c0.Conf.Pages),.isl 77 4 (c0.Things.map e77),.isl 210 3 (c0.Locals.Slots.map X4),.isl 159 3 (c0.Locals.Scopes.map X9),.isl 3 1 (c0.Locals.Issued.map e3),.isl 132 3 (c0.Globals.Entries.map XC),.isl 132 3 (c0.Weaks.Entries.map XC),.isl 116 3 (c0.Marks.map Yv),.isl 37 1 (c0.Roots.map e37)]] 0,.arr true 77 4 [[.v (.int .i64 c1.Header.Kind),.v (.int .i64 c1.Header.Length),.v (.int .u32 c1.Header.Map),.isl 37 1 (c1.Fields.map e37)]] 0])/\(∀ N (a0:Wm) (a1:Int),OK (Qac N a0 a1) 80 [.agg (e61 a0),.v (.int .u64 a1)] [] (λ r=>.tup [.v (.int .u64 r.1),.v (.int .i64 r.2)]) λ r=>[])/\(∀ N (a0:UQ) (a1:Int),OK (QbW N a0 a1) 147 [.agg (Kh a0),.v (.int .i64 a1)] [] (λ r=>.v (.int .i64 r)) λ r=>[])/\(∀ N (a0:UQ),OK (Qeu N a0) 162 [.agg (Kh a0)] [] (λ r=>.v (.int .i64 r)) λ r=>[]):=by
 refine ⟨λ N _ _ _ _ _=>rn Tryz.f95 [.tmp 10] [] 68 (by kernel_rfl) ?_,λ N _ _ _=>rn Tryz.f97 [.tmp 6] [] 34 (by kernel_rfl) ?_,λ N _ _ _ _=>rn Tryz.f99 [.tmp 8] [] 52 (by kernel_rfl) ?_,λ N _ _ _ _=>rn Tryz.f100 [.tmp 8] [] 48 (by kernel_rfl) ?_,λ N _ _=>rn Tryz.f290 [.tmp 4,.tmp 5] [] 26 (by kernel_rfl) ?_,λ N _ _ _=>rn Tryz.f217 [.tmp 6,.tmp 7] [] 37 (by kernel_rfl) ?_,λ N _ _ _=>rn Tryz.f192 [.tmp 4] [] 9 (by kernel_rfl) ?_,λ N _ _=>rn Tryz.f80 [.tmp 4,.tmp 5] [] 55 (by kernel_rfl) ?_,λ N _ _=>rn Tryz.f147 [.tmp 4] [] 58 (by kernel_rfl) ?_,λ N _=>rn Tryz.f162 [.tmp 2] [] 19 (by kernel_rfl) ?_⟩<;>(rintro _ hw r hr C _ rfl hwf hf;simp only[Tryz.f95,Tryz.f97,Tryz.f99,Tryz.f100,Tryz.f290,Tryz.f217,Tryz.f192,Tryz.f80,Tryz.f147,Tryz.f162,Option.get!];(first|rw[QfU] at hr|rw[Qgj] at hr|rw[Qgy] at hr|rw[Qgk] at hr|rw[QfW] at hr|rw[QdY] at hr|rw[Qa1] at hr|rw[Qac] at hr|rw[QbW] at hr|rw[Qeu] at hr);repeat' first
 |(refine El.el hr ?_;intro hr)
 |(with_reducible intro h;refine Xz hr h ?_;intro hr)
 |with_reducible intro _
 |simp only[go_sem,simprocAttr,XQ,Jg,YR]
 |(with_reducible first|apply Xg|apply Xf|apply Xs|apply Xx|apply Xy)
 |((first|with_reducible refine Ye hr (by assumption) ?_ ?_|(with_reducible refine Yd hr ?_ ?_;rotate_left;intro p;rotate_right));(·simp only[go_sem,simprocAttr]);intro hp hn hd hr;(try have XQ:=hd _ e37);(try simp only[go_sem,simprocAttr] at XQ);(try have Jg:=hd _ e96);(try simp only[go_sem,simprocAttr] at Jg);(try have YR:=hd _ KG);(try simp only[go_sem,simprocAttr] at YR))
 |(refine Xl ?_ ?_;·first|assumption|omega)
 |(with_reducible first|refine CallX.c ?_ _|refine OK.c hr hw ?_ (λ y hr=>?_) _|refine Oy hr hw ?_ (λ y hr=>?_) _)
 |refine db 95 11 hf 51 [(0,124,[]),(1,124,[]),(0,19,[]),(4,19,[]),(0,15,[]),(28,3,[]),(60,3,[]),(127,0,[]),(255,0,[])] rfl rfl (by kernel_rfl) ?_ _
 |(refine Xq hr ?_;rintro rfl;with_reducible refine XG ?_)
 |exact Yo hr
 |fail)
@[reducible,instance] def QmG:=g20.1
@[reducible,instance] def Qnp:=g20.2.1
@[reducible,instance] def Qol:=g20.2.2.1
@[reducible,instance] def Qnq:=g20.2.2.2.1
@[reducible,instance] def QmH:=g20.2.2.2.2.1
@[reducible,instance] def Qnr:=g20.2.2.2.2.2.1
@[reducible,instance] def QhX:=g20.2.2.2.2.2.2.1
@[reducible,instance] def QkC:=g20.2.2.2.2.2.2.2.1
@[reducible,instance] def QkO:=g20.2.2.2.2.2.2.2.2.1
@[reducible,instance] def QkV:=g20.2.2.2.2.2.2.2.2.2
end Go.Sx
