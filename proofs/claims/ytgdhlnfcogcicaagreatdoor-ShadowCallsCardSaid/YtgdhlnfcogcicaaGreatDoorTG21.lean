import Derived.Test.YtgdhlnfcogcicaaGreatDoorTF
import Derived.Test.YtgdhlnfcogcicaaGreatDoorTG3
import Derived.Test.YtgdhlnfcogcicaaGreatDoorTG4
import Derived.Test.YtgdhlnfcogcicaaGreatDoorTG6
import Derived.Test.YtgdhlnfcogcicaaGreatDoorTG7
import Derived.Test.YtgdhlnfcogcicaaGreatDoorTG8
import Derived.Test.YtgdhlnfcogcicaaGreatDoorTG9
import Derived.Test.YtgdhlnfcogcicaaGreatDoorTG10
import Derived.Test.YtgdhlnfcogcicaaGreatDoorTG11
import Derived.Test.YtgdhlnfcogcicaaGreatDoorTG12
import Derived.Test.YtgdhlnfcogcicaaGreatDoorTG13
import Derived.Test.YtgdhlnfcogcicaaGreatDoorTG14
import Derived.Test.YtgdhlnfcogcicaaGreatDoorTG15
import Derived.Test.YtgdhlnfcogcicaaGreatDoorTG16
import Derived.Test.YtgdhlnfcogcicaaGreatDoorTG17
import Derived.Test.YtgdhlnfcogcicaaGreatDoorTG18
import Derived.Test.YtgdhlnfcogcicaaGreatDoorTG19
import Derived.Test.YtgdhlnfcogcicaaGreatDoorTG20
set_option linter.all false
namespace Go.Sx
open Go.Proofs
set_option maxRecDepth 10000
set_option maxHeartbeats 100000000
abbrev QhU:=λ N (a0:Wz) (y1:List Int × Int) (y6:List Int × Int) (v2:Int) (y4:WE × Int) (Q:(Ex If Unit)→Prop) n (st:St)=>∃ (v7:Int) (ex:_),Qbt N a0 y1 y6 v2 y4 n v7=some ex/\Q ex/\((∃ w64 w128 w384,st.n=89/\st.t 1=.ept 64 w64 6 0 0/\st.t 2=.ept 128 w128 3 0 0/\st.t 3=.isl 37 1 (y1.1.map e37)/\st.t 5=.v (.int .i64 v2)/\st.t 6=.ept 384 w384 3 0 0/\st.t 8=.isl 37 1 (y6.1.map e37)/\st.t 10=.v (.int .i64 v7)/\st.s 64=some (w64,.arr true 42 6 [e42 a0] 0)/\st.s 128=some (w128,.arr true 330 3 [[.v (.int .i64 0),.v (.int .i64 0),.v (.int .u64 0)]] 0)/\st.s 384=some (w384,.arr true 75 3 [e75 y4.1] 0)))
abbrev QhV:=λ N (a0:Wz) (y1:List Int × Int) (Q:(Ex If Unit)→Prop) n (st:St)=>∃ (v2:Int) (ex:_),Qcy N a0 y1 n v2=some ex/\Q ex/\((∃ w64 w128,st.n=89/\st.t 1=.ept 64 w64 6 0 0/\st.t 2=.ept 128 w128 3 0 0/\st.t 3=.isl 37 1 (y1.1.map e37)/\st.t 5=.v (.int .i64 v2)/\st.s 64=some (w64,.arr true 42 6 [e42 a0] 0)/\st.s 128=some (w128,.arr true 330 3 [[.v (.int .i64 0),.v (.int .i64 0),.v (.int .u64 0)]] 0)))
abbrev Qi5:=λ N (a0:Wm) (Q:(Ex Bool Unit)→Prop) n (st:St)=>∃ (v7:Int) (ex:_),QcU N a0 n v7=some ex/\Q ex/\((∃ w64,st.n=64/\st.t 1=.ept 64 w64 10 0 0/\st.t 34=.isl 77 4 (a0.Things.map e77)/\st.t 35=.v (.int .i64 ((a0.Things.length:Nat):Int))/\st.t 36=.v (.int .i64 v7)/\st.s 64=some (w64,.arr true 61 10 [e61 a0] 0)))
theorem g26:(∀ N (a0:Wz),OK (Qe0 N a0) 280 [.agg (e42 a0)] [] (λ r=>.agg (XlY r)) λ r=>[])/\(∀ N (a0:Wm),OK (QdZ N a0) 57 [.agg (e61 a0)] [] (λ r=>.v (.bool r)) λ r=>[]):=by
 refine ⟨λ N _=>rn Tryz.f280 [.cell 2 330] [] 89 (by kernel_rfl) ?_,λ N _=>rn Tryz.f57 [.tmp 2] [] 64 (by kernel_rfl) ?_⟩<;>(rintro _ hw r hr C _ rfl hwf hf;simp only[Tryz.f280,Tryz.f57,Option.get!];(first|rw[Qe0] at hr|rw[QdZ] at hr);repeat' first
 |(refine El.el hr ?_;intro hr)
 |(with_reducible intro h;refine Xz hr h ?_;intro hr)
 |with_reducible intro _
 |(refine Xq hr ?_;rintro rfl;have hr:=hk;clear hk)
 |simp only[go_sem,simprocAttr,E,XQ,Y5]
 |(with_reducible first|apply Xg|apply Xf|apply Xs|apply Xx|apply Xy)
 |((first|with_reducible refine Ye hr (by assumption) ?_ ?_|(with_reducible refine Yd hr ?_ ?_;rotate_left;intro p;rotate_right));(·simp only[go_sem,simprocAttr]);intro hp hn hd hr;(try have XQ:=hd _ e37);(try simp only[go_sem,simprocAttr] at XQ);(try have Y5:=hd _ e77);(try simp only[go_sem,simprocAttr] at Y5))
 |(refine Xl ?_ ?_;·first|assumption|omega)
 |(with_reducible first|refine CallX.c ?_ _|refine OK.c hr hw ?_ (λ y hr=>?_) _|refine Oy hr hw ?_ (λ y hr=>?_) _)
 |(with_reducible refine Xj (I:=QhU N _ _ _ _ _) hr 1000 N (λ ex hq hk=>⟨_,ex,hq,hk,?_⟩) ?_ _;rotate_left;clear hr;(try clear E);rintro n1 st ⟨v7,ex,hr,hk,⟨_,_,_,E⟩⟩<;>(obtain _|n1:=n1<;>rw[Qbt] at hr))
 |refine ⟨_,WJ _,_,_,hr,hk,?_⟩
 |(with_reducible refine Xj (I:=QhV N _ _) hr 1000 N (λ ex hq hk=>⟨_,ex,hq,hk,?_⟩) ?_ _;rotate_left;clear hr;(try clear E);rintro n2 st ⟨v2,ex,hr,hk,⟨_,_,E⟩⟩<;>(obtain _|n2:=n2<;>rw[Qcy] at hr))
 |(with_reducible refine Xj (I:=Qi5 N _) hr 1000 N (λ ex hq hk=>⟨_,ex,hq,hk,?_⟩) ?_ _;rotate_left;clear hr;(try clear E);rintro n1 st ⟨v7,ex,hr,hk,⟨_,E⟩⟩<;>(obtain _|n1:=n1<;>rw[QcU] at hr))
 |refine db 280 5 hf 6 [(0,62914561,[[],[384]]),(0,10485761,[[],[384]]),(0,6291457,[[],[384]]),(6,2097153,[[],[384]]),(14,2097153,[[],[384]]),(31,1,[[],[384]]),(63,1,[[],[384]]),(127,268435457,[[],[384]]),(127,134217729,[[],[384]]),(0,535822336,[[384],[]]),(767,268435456,[[384],[]]),(2047,0,[])] rfl rfl (by kernel_rfl) ?_ _
 |refine db 280 6 hf 8 [(0,8053063680,[]),(0,1342177280,[]),(0,805306368,[]),(6,268435456,[]),(14,268435456,[]),(31,0,[]),(63,0,[]),(127,34359738368,[]),(127,17179869185,[]),(255,34359738368,[]),(1023,0,[])] rfl rfl (by kernel_rfl) ?_ _
 |refine db 57 9 hf 45 [(0,16382,[[],[3648]]),(0,4089,[]),(2,4089,[]),(0,1735,[]),(8,1735,[]),(24,1735,[]),(0,1599,[]),(64,1599,[]),(248,1543,[]),(0,511,[]),(512,511,[]),(2040,7,[]),(4094,1,[[3648],[]]),(8190,1,[[3648],[]]),(16383,0,[]),(32767,0,[]),(65535,0,[]),(131071,0,[]),(262143,0,[]),(524287,0,[])] rfl rfl (by kernel_rfl) ?_ _
 |(refine Xq hr ?_;rintro rfl;with_reducible refine XG ?_)
 |exact Yo hr
 |((first|refine Xz (c:=true) hr rfl ?_|refine Xz (c:=false) hr rfl ?_|refine Xz hr (by assumption) ?_);intro hr)
 |fail)
@[reducible,instance] def Qlp:=g26.1
@[reducible,instance] def Qns:=g26.2
instance Qon:∀ N (a0:Wm) (a1:Int) (a2:Int) (a3:Int) (a4:Int) (a5:UH),OK (Qaa N a0 a1 a2 a3 a4 a5) 13 [.agg (e36 a0),.v (.int .i64 a1),.v (.int .u64 a2),.v (.int .u64 a3),.v (.int .u64 a4),.agg (e39 a5)] [] (λ r=>.tup [.agg (e36 r.1),.v (.int .u64 r.2.1),.v (.int .i64 r.2.2)]) λ r=>[]:=by
 refine λ N _ _ _ _ _ _=>rn Tryz.f13 [.cell 12 36,.tmp 13,.tmp 14] [] 234 (by kernel_rfl) ?_<;>(rintro _ hw r hr C _ rfl hwf hf;simp only[Tryz.f13,Option.get!];(rw[Qaa] at hr);repeat' first
 |(refine El.el hr ?_;intro hr)
 |(with_reducible intro h;refine Xz hr h ?_;intro hr)
 |with_reducible intro _
 |simp only[go_sem,simprocAttr,XQ,YR]
 |(with_reducible first|apply Xg|apply Xf|apply Xs|apply Xx|apply Xy)
 |((first|with_reducible refine Ye hr (by assumption) ?_ ?_|(with_reducible refine Yd hr ?_ ?_;rotate_left;intro p;rotate_right));(·simp only[go_sem,simprocAttr]);intro hp hn hd hr;(try have XQ:=hd _ e37);(try simp only[go_sem,simprocAttr] at XQ);(try have YR:=hd _ KG);(try simp only[go_sem,simprocAttr] at YR))
 |(refine Xl ?_ ?_;·first|assumption|omega)
 |(with_reducible first|refine CallX.c ?_ _|refine OK.c hr hw ?_ (λ y hr=>?_) _|refine Oy hr hw ?_ (λ y hr=>?_) _)
 |refine db 13 16 hf 76 [(0,1014,[[4864],[5312,5440]]),(0,1009,[[],[4864,5312,5440]]),(2,1009,[[],[4864,5312,5440]]),(7,1008,[[4864],[5312,5440]]),(0,239,[[],[4864,5312]]),(0,31,[[],[4864]]),(32,31,[[],[4864]]),(96,31,[[5312],[4864]]),(240,15,[[],[4864]]),(496,15,[[5312,5440],[4864]]),(1023,0,[[4864],[]]),(2047,0,[]),(4095,0,[[384],[]])] rfl rfl (by kernel_rfl) ?_ _
 |refine db 13 27 hf 142 [(0,2046,[]),(0,281,[]),(2,281,[]),(0,263,[]),(8,263,[]),(30,257,[]),(62,257,[]),(126,257,[]),(0,255,[]),(510,1,[]),(1022,1,[]),(2047,0,[]),(4095,0,[]),(8191,8192,[]),(8191,4096,[[],[384]]),(16383,8192,[[384],[]]),(65535,0,[])] rfl rfl (by kernel_rfl) ?_ _
 |(refine Xq hr ?_;rintro rfl;with_reducible refine XG ?_)
 |exact Yo hr
 |fail)
theorem g25:(∀ N (a0:Wz) (a1:Int),OK (Qd7 N a0 a1) 259 [.agg (e42 a0),.v (.int .u64 a1)] [] (λ r=>.v (.bool r)) λ r=>[])/\(∀ N (a0:UQ) (a1:Bool),OK (Qbw N a0 a1) 143 [.agg (Kh a0),.v (.bool a1)] [] (λ r=>.tup [.agg (e77 r.1),.v (.int .i64 r.2)]) λ r=>[])/\(∀ N (a0:UQ),OK (QcG N a0) 144 [.agg (Kh a0)] [] (λ r=>.v (.int .i64 r)) λ r=>[])/\(∀ N (a0:UQ) (a1:WC),OK (Qbf N a0 a1) 156 [.agg (Kh a0),.agg (e32 a1)] [] (λ r=>.v (.int .i64 r)) λ r=>[])/\(∀ N (a0:UQ),OK (Qe5 N a0) 158 [.agg (Kh a0)] [] (λ r=>.v (.int .i64 r)) λ r=>[])/\(∀ N (a0:UQ),OK (Qe6 N a0) 160 [.agg (Kh a0)] [] (λ r=>.v (.int .i64 r)) λ r=>[])/\(∀ N (a0:UQ),OK (Qe7 N a0) 161 [.agg (Kh a0)] [] (λ r=>.v (.int .i64 r)) λ r=>[])/\(∀ N (a0:UQ),OK (Qdd N a0) 164 [.agg (Kh a0)] [] (λ r=>.v (.int .i64 r)) λ r=>[])/\(∀ N (a0:UQ),OK (Qd8 N a0) 165 [.agg (Kh a0)] [] (λ r=>.v (.int .i64 r)) λ r=>[]):=by
 refine ⟨λ N _ _=>rn Tryz.f259 [.tmp 4] [] 15 (by kernel_rfl) ?_,λ N _ _=>rn Tryz.f143 [.cell 4 77,.tmp 5] [] 44 (by kernel_rfl) ?_,λ N _=>rn Tryz.f144 [.tmp 2] [] 13 (by kernel_rfl) ?_,λ N _ _=>rn Tryz.f156 [.tmp 4] [] 25 (by kernel_rfl) ?_,λ N _=>rn Tryz.f158 [.tmp 2] [] 5 (by kernel_rfl) ?_,λ N _=>rn Tryz.f160 [.tmp 2] [] 5 (by kernel_rfl) ?_,λ N _=>rn Tryz.f161 [.tmp 2] [] 5 (by kernel_rfl) ?_,λ N _=>rn Tryz.f164 [.tmp 2] [] 47 (by kernel_rfl) ?_,λ N _=>rn Tryz.f165 [.tmp 2] [] 22 (by kernel_rfl) ?_⟩<;>(rintro _ hw r hr C _ rfl hwf hf;simp only[Tryz.f259,Tryz.f143,Tryz.f144,Tryz.f156,Tryz.f158,Tryz.f160,Tryz.f161,Tryz.f164,Tryz.f165,Option.get!];(first|rw[Qd7] at hr|rw[Qbw] at hr|rw[QcG] at hr|rw[Qbf] at hr|rw[Qe5] at hr|rw[Qe6] at hr|rw[Qe7] at hr|rw[Qdd] at hr|rw[Qd8] at hr);repeat' first
 |(refine El.el hr ?_;intro hr)
 |(with_reducible intro h;refine Xz hr h ?_;intro hr)
 |with_reducible intro _
 |simp only[go_sem,simprocAttr,Y5,ZA]
 |(with_reducible first|apply Xg|apply Xf|apply Xs)
 |((first|with_reducible refine Ye hr (by assumption) ?_ ?_|(with_reducible refine Yd hr ?_ ?_;rotate_left;intro p;rotate_right));(·simp only[go_sem,simprocAttr]);intro hp hn hd hr;(try have Y5:=hd _ e77);(try simp only[go_sem,simprocAttr] at Y5);(try have ZA:=hd _ Yv);(try simp only[go_sem,simprocAttr] at ZA))
 |(refine Xl ?_ ?_;·first|assumption|omega)
 |(with_reducible first|refine CallX.c ?_ _|refine OK.c hr hw ?_ (λ y hr=>?_) _)
 |(refine Xq hr ?_;rintro rfl;with_reducible refine XG ?_)
 |exact Yo hr
 |fail)
@[reducible,instance] def Qlq:=g25.1
@[reducible,instance] def QkP:=g25.2.1
@[reducible,instance] def Ql6:=g25.2.2.1
@[reducible,instance] def QkK:=g25.2.2.2.1
@[reducible,instance] def Qlr:=g25.2.2.2.2.1
@[reducible,instance] def Qls:=g25.2.2.2.2.2.1
@[reducible,instance] def Qlt:=g25.2.2.2.2.2.2.1
@[reducible,instance] def Qk3:=g25.2.2.2.2.2.2.2.1
@[reducible,instance] def Qlu:=g25.2.2.2.2.2.2.2.2
end Go.Sx
