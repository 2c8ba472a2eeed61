import Derived.Test.YtgcneehkconghaaGreatDoorVF
import Derived.Test.YtgcneehkconghaaGreatDoorVG0
import Derived.Test.YtgcneehkconghaaGreatDoorVG1
import Derived.Test.YtgcneehkconghaaGreatDoorVG2
set_option linter.all false
namespace Go.Sx
open Go.Proofs
set_option maxRecDepth 10000
set_option maxHeartbeats 100000000
abbrev Qjl:=λ N (a0:WI) (Q:(List Int)→Prop) n (st:St)=>∃ (v1:Int) (v2:List Int) (ex:_),Qbf N a0 n v1 v2=some ex/\Q ex/\((∃ w1920 w64,st.n=32/\st.s 1920=some (w1920,.arr false 39 1 (v2.map e39) 0)/\st.t 1=.ept 64 w64 1 0 0/\st.t 3=.osl 1920 w1920 1 0 v2.length/\st.t 4=.v (.int .i64 v1)/\st.s 64=some (w64,.arr true 35 1 [[.isl 117 3 (a0.Entries.map Yz)]] 0))\/(∃ w64,(st.n=32/\st.t 1=.ept 64 w64 1 0 0/\st.t 3=.nsl/\st.t 4=.v (.int .i64 v1)/\st.s 64=some (w64,.arr true 35 1 [[.isl 117 3 (a0.Entries.map Yz)]] 0))/\v2=[]))
abbrev QiI:=λ N (a1:Int) (y1:List Oh) (Q:(Ex Int Unit)→Prop) n (st:St)=>∃ (v2:Int) (ex:_),QaY N a1 y1 n v2=some ex/\Q ex/\((st.n=31/\st.t 1=.v (.int .i64 a1)/\st.t 5=.isl 385 2 (y1.map Xcx)/\st.t 6=.v (.int .i64 v2)))
abbrev Qhn:=λ N (a0:Ii) (y3:Int × UU) (Q:(List Wv)→Prop) n (st:St)=>∃ (v22:Int) (v23:List Wv) (ex:_),QbG N a0 y3 n v22 v23=some ex/\Q ex/\((∃ w704 w960 w128 w256 w320,st.n=156/\st.s 704=some (w704,.arr false 39 1 (a0.Heap.Words.map e39) 0)/\st.s 960=some (w960,.arr false 175 4 (v23.map XG) 0)/\st.t 2=.ept 128 w128 8 0 0/\st.t 4=.ept 256 w256 8 0 0/\st.t 5=.ept 320 w320 6 0 0/\st.t 8=.v (.int .i64 v22)/\st.s 128=some (w128,.arr true 112 8 [Xna a0] 0)/\st.s 256=some (w256,.arr true 112 8 [[.v (.int .i64 0),.v (.int .i64 0),.nsl,.nsl,.v (.int .i64 0),.v (.int .i64 0),.nsl,.nsl]] 0)/\st.s 320=some (w320,.arr true 27 6 [[.v (.int .i64 a0.Heap.Conf.PageWords),.v (.int .i64 a0.Heap.Conf.Pages),.osl 704 w704 1 0 a0.Heap.Words.length,.osl 960 w960 4 0 v23.length,.v (.int .i64 a0.Heap.Space),.v (.int .i64 a0.Heap.Bump)]] 0)/\st.s 1000000=some (0,.arr true 60 2 [e60 y3.2] 0)))
abbrev QeH:=λ N (a0:List Int) (Q:(Ex Int Unit)→Prop) n (st:St)=>∃ (v1:Int) (ex:_),Qap N a0 n v1=some ex/\Q ex/\((st.n=19/\st.t 0=.isl 39 1 (a0.map e39)/\st.t 1=.clo (.func 364) [] []/\st.t 7=.v (.int .i64 ((a0.length:Nat):Int))/\st.t 8=.v (.int .i64 v1)))
abbrev Qev:=λ N (a0:List UN) (c0:Int) (Q:(Ex Int Unit)→Prop) n (st:St)=>∃ (v1:Int) (ex:_),Qal N a0 c0 n v1=some ex/\Q ex/\((st.n=19/\st.t 0=.isl 119 2 (a0.map Zc)/\st.t 1=.clo (.func 291) [] [.ept 1000000 0 1 0 0]/\st.t 7=.v (.int .i64 ((a0.length:Nat):Int))/\st.t 8=.v (.int .i64 v1)/\st.s 1000000=some (0,.arr true 39 1 [[.v (.int .u64 c0)]] 0)))
abbrev Qfw:=λ N (a0:List Int) (Q:(Ex Int Unit)→Prop) n (st:St)=>∃ (v1:Int) (ex:_),Qax N a0 n v1=some ex/\Q ex/\((st.n=19/\st.t 0=.isl 3 1 (a0.map e3)/\st.t 1=.clo (.func 126) [] []/\st.t 7=.v (.int .i64 ((a0.length:Nat):Int))/\st.t 8=.v (.int .i64 v1)))
abbrev Qf0:=λ N (a0:List (List Int)) (Q:Int→Prop) n (st:St)=>∃ (v1:Int) (v2:Int) (ex:_),QaJ N a0 n v1 v2=some ex/\Q ex/\((st.n=36/\st.t 0=.isl 24 1 (a0.map e24)/\st.t 3=.v (.int .i64 v1)/\st.t 9=.isl 24 1 (a0.map e24)/\st.t 10=.v (.int .i64 ((a0.length:Nat):Int))/\st.t 11=.v (.int .i64 v2)))
abbrev Qf1:=λ N (a0:List (List Int)) (Q:(List Int)→Prop) n (st:St)=>∃ (v6:Int) (v7:List Int) (ex:_),QaK N a0 n v6 v7=some ex/\Q ex/\((∃ w1536,st.n=36/\st.s 1536=some (w1536,.arr false 39 1 (v7.map e39) 0)/\st.t 6=.osl 1536 w1536 1 0 v7.length/\st.t 25=.isl 24 1 (a0.map e24)/\st.t 26=.v (.int .i64 ((a0.length:Nat):Int))/\st.t 27=.v (.int .i64 v6)))
theorem g10:(∀ N (a0:WI),OK (Qbc N a0) 62 [.agg (e35 a0)] [] (λ r=>.fsl 39 1 (r.map e39)) λ r=>[])/\(∀ N (a0:List Wv) (a1:Int),OK (QbA N a0 a1) 356 [.isl 175 4 (a0.map XG),.v (.int .i64 a1)] [] (λ r=>.v (.int .i64 r)) λ r=>[])/\(∀ N (a0:Ii) (a1:UU),OK (Qcw N a0 a1) 46 [.agg (Xna a0),.ept 1000000 0 2 0 0] [.arr true 60 2 [[.isl 3 1 (a1.L.map e3),.v (.int .i64 a1.at_)]] 0] (λ r=>.agg (Xna r.1)) λ r=>[.arr true 60 2 [[.isl 3 1 (r.2.L.map e3),.v (.int .i64 r.2.at_)]] 0])/\(∀ N (a0:List Int),OK (QaH N a0) 227 [.isl 39 1 (a0.map e39),.clo (.func 364) [] []] [] (λ r=>.v (.int .i64 r)) λ r=>[])/\(∀ N (a0:List UN) (c0:Int),OK (QaU N a0 c0) 290 [.isl 119 2 (a0.map Zc),.clo (.func 291) [] [.ept 1000000 0 1 0 0]] [.arr true 39 1 [[.v (.int .u64 c0)]] 0] (λ r=>.v (.int .i64 r)) λ r=>[.arr true 39 1 [[.v (.int .u64 c0)]] 0])/\(∀ N (a0:List Int),OK (Qbx N a0) 220 [.isl 3 1 (a0.map e3),.clo (.func 126) [] []] [] (λ r=>.v (.int .i64 r)) λ r=>[])/\(∀ N (a0:List (List Int)),OK (Qbs N a0) 137 [.isl 24 1 (a0.map e24)] [] (λ r=>.isl 39 1 (r.map e39)) λ r=>[]):=by
 refine ⟨λ N _=>rn Tryz.f62 [.tmp 2] [1920] 32 (by kernel_rfl) ?_,λ N _ _=>rn Tryz.f356 [.tmp 4] [] 31 (by kernel_rfl) ?_,λ N _ _=>rn Tryz.f46 [.cell 4 112] [] 156 (by kernel_rfl) ?_,λ N _=>rn Tryz.f227 [.tmp 4] [] 19 (by kernel_rfl) ?_,λ N _ _=>rn Tryz.f290 [.tmp 4] [] 19 (by kernel_rfl) ?_,λ N _=>rn Tryz.f220 [.tmp 4] [] 19 (by kernel_rfl) ?_,λ N _=>rn Tryz.f137 [.tmp 2] [] 36 (by kernel_rfl) ?_⟩<;>(rintro _ hw r hr C _ rfl hwf hf;simp only[Tryz.f62,Tryz.f356,Tryz.f46,Tryz.f227,Tryz.f290,Tryz.f220,Tryz.f137,Option.get!];(first|rw[Qbc] at hr|rw[QbA] at hr|rw[Qcw] at hr|rw[QaH] at hr|rw[QaU] at hr|rw[Qbx] at hr|rw[Qbs] at hr);repeat' first
 |(refine El.el hr ?_;intro hr)
 |(with_reducible intro h;refine XA hr h ?_;intro hr)
 |with_reducible intro _
 |(refine Xn hr ?_;rintro rfl;have hr:=hk;clear hk)
 |simp only[go_sem,simprocAttr,E,hl3,Xov,XR,YJ,Zq,XK,Xaa,Wz,WO,UL]
 |(with_reducible first|apply Xk|apply Xj|apply Xo|apply Xt|apply Xu)
 |((first|with_reducible refine Ym hr (by assumption) ?_ ?_|(with_reducible refine Yi hr ?_ ?_;rotate_left;intro p;rotate_right));(·simp only[go_sem,simprocAttr,Wz,WO,UL]);intro hp hn hd hr;(try have hl3:=hd _ e3);(try simp only[go_sem,simprocAttr] at hl3);(try have Xov:=hd _ e24);(try simp only[go_sem,simprocAttr] at Xov);(try have XR:=hd _ e39);(try simp only[go_sem,simprocAttr] at XR);(try have YJ:=hd _ Yz);(try simp only[go_sem,simprocAttr] at YJ);(try have Zq:=hd _ Zc);(try simp only[go_sem,simprocAttr] at Zq);(try have XK:=hd _ XG);(try simp only[go_sem,simprocAttr] at XK);(try have Xaa:=hd _ Xcx);(try simp only[go_sem,simprocAttr] at Xaa))
 |(refine Xp ?_ ?_;·first|assumption|omega)
 |(with_reducible first|refine CallX.c ?_ _|refine OK.c hr hw ?_ (λ y hr=>?_) _|refine Og hr hw ?_ (λ y hr=>?_) _)
 |(with_reducible refine Xf (I:=Qjl N _) hr 1000 N (λ ex hq hk=>⟨_,_,ex,hq,hk,?_⟩) ?_ _;rotate_left;clear hr;(try clear E);rintro n1 st ⟨v1,v2,ex,hr,hk,(⟨_,_,E⟩|⟨_,E,z0⟩)⟩<;>(try subst z0)<;>(obtain _|n1:=n1<;>rw[Qbf] at hr))
 |refine ⟨_,WD _,_,_,_,hr,hk,?_⟩
 |(with_reducible refine Xf (I:=QiI N _ _) hr 1000 N (λ ex hq hk=>⟨_,ex,hq,hk,?_⟩) ?_ _;rotate_left;clear hr;(try clear E);rintro n1 st ⟨v2,ex,hr,hk,E⟩<;>(obtain _|n1:=n1<;>rw[QaY] at hr))
 |refine ⟨_,WD _,_,_,hr,hk,?_⟩
 |(with_reducible refine Xf (I:=Qhn N _ _) hr 1000 N (λ ex hq hk=>⟨_,_,ex,hq,hk,?_⟩) ?_ _;rotate_left;clear hr;(try clear E);rintro n1 st ⟨v22,v23,ex,hr,hk,⟨_,_,_,_,_,E⟩⟩<;>(obtain _|n1:=n1<;>rw[QbG] at hr))
 |(with_reducible refine Xf (I:=QeH N _) hr 1000 N (λ ex hq hk=>⟨_,ex,hq,hk,?_⟩) ?_ _;rotate_left;clear hr;(try clear E);rintro n1 st ⟨v1,ex,hr,hk,E⟩<;>(obtain _|n1:=n1<;>rw[Qap] at hr))
 |(with_reducible refine Xf (I:=Qev N _ _) hr 1000 N (λ ex hq hk=>⟨_,ex,hq,hk,?_⟩) ?_ _;rotate_left;clear hr;(try clear E);rintro n1 st ⟨v1,ex,hr,hk,E⟩<;>(obtain _|n1:=n1<;>rw[Qal] at hr))
 |(with_reducible refine Xf (I:=Qfw N _) hr 1000 N (λ ex hq hk=>⟨_,ex,hq,hk,?_⟩) ?_ _;rotate_left;clear hr;(try clear E);rintro n1 st ⟨v1,ex,hr,hk,E⟩<;>(obtain _|n1:=n1<;>rw[Qax] at hr))
 |(with_reducible refine Xf (I:=Qf0 N _) hr 1000 N (λ ex hq hk=>⟨_,_,ex,hq,hk,?_⟩) ?_ _;rotate_left;clear hr;(try clear E);rintro n1 st ⟨v1,v2,ex,hr,hk,E⟩<;>(obtain _|n1:=n1<;>rw[QaJ] at hr))
 |(with_reducible refine Xf (I:=Qf1 N _) hr 1000 N (λ ex hq hk=>⟨_,_,ex,hq,hk,?_⟩) ?_ _;rotate_left;clear hr;(try clear E);rintro n2 st ⟨v6,v7,ex,hr,hk,⟨_,E⟩⟩<;>(obtain _|n2:=n2<;>rw[QaK] at hr))
 |refine db 46 2 hf 11 [(0,118,[[704],[960]]),(0,113,[[],[704,960]]),(2,113,[[],[704,960]]),(7,112,[[704],[960]]),(0,367,[[960],[704]]),(0,31,[[],[704,960]]),(32,31,[[],[704,960]]),(127,256,[[960],[]]),(111,144,[[],[960]]),(511,0,[[320],[]]),(1023,0,[]),(2047,0,[[320],[]])] rfl rfl (by kernel_rfl) ?_ _
 |refine db 46 3 hf 21 [(0,494,[]),(0,481,[]),(2,481,[]),(6,481,[]),(15,480,[[1000000],[]]),(0,479,[[],[1000000]]),(0,63,[[],[1000000]]),(64,63,[[],[1000000]]),(192,63,[[],[1000000]]),(511,0,[[1000000],[]]),(1023,0,[]),(2047,0,[])] rfl rfl (by kernel_rfl) ?_ _
 |refine db 46 7 hf 36 [(0,252,[[],[2496,1000000]]),(1,252,[[],[2496,1000000]]),(0,251,[[],[2496,1000000]]),(0,55,[[2496],[1000000]]),(0,15,[[],[2496]]),(16,15,[[1000000],[2496]]),(56,7,[]),(120,7,[]),(255,0,[]),(511,0,[[704],[]])] rfl rfl (by kernel_rfl) ?_ _
 |refine db 46 9 hf 47 [(0,484,[[],[1000000]]),(1,484,[[],[1000000]]),(0,483,[[],[1000000]]),(7,480,[[],[1000000]]),(15,480,[[],[1000000]]),(0,31,[]),(32,31,[[1000000],[]]),(96,31,[]),(224,31,[]),(511,0,[]),(1023,0,[]),(2047,0,[[704],[]])] rfl rfl (by kernel_rfl) ?_ _
 |refine db 46 11 hf 60 [(0,28,[[],[1000000]]),(1,28,[[],[1000000]]),(0,27,[[],[1000000]]),(0,7,[]),(8,7,[[1000000],[]]),(31,0,[]),(63,0,[]),(127,0,[[960],[]])] rfl rfl (by kernel_rfl) ?_ _
 |refine db 46 13 hf 69 [(0,28,[[],[1000000]]),(1,28,[[],[1000000]]),(0,27,[[],[1000000]]),(0,7,[]),(8,7,[[1000000],[]]),(31,0,[]),(63,0,[]),(127,0,[[960],[]])] rfl rfl (by kernel_rfl) ?_ _
 |refine db 46 15 hf 78 [(0,8188,[[],[1000000]]),(1,8188,[[],[1000000]]),(0,8187,[[],[1000000]]),(0,1575,[[],[1000000]]),(8,1575,[[],[1000000]]),(0,1567,[[],[1000000]]),(56,1543,[[],[1000000]]),(120,1543,[[],[1000000]]),(248,1543,[[],[1000000]]),(0,511,[]),(512,511,[[1000000],[]]),(2040,7,[]),(4088,7,[]),(8191,0,[]),(16383,0,[]),(32767,0,[[960],[]])] rfl rfl (by kernel_rfl) ?_ _
 |refine db 46 17 hf 95 [(0,60,[[],[1000000]]),(1,60,[[],[1000000]]),(0,59,[[],[1000000]]),(0,7,[]),(8,7,[[1000000],[]]),(24,7,[]),(63,0,[]),(127,0,[]),(255,0,[[960],[]])] rfl rfl (by kernel_rfl) ?_ _
 |(refine Xn hr ?_;rintro rfl;with_reducible refine XM ?_)
 |exact Yw hr
 |((first|refine XA (c:=true) hr rfl ?_|refine XA (c:=false) hr rfl ?_|refine XA hr (by assumption) ?_);intro hr)
 |fail)
@[reducible,instance] def Qm8:=g10.1
@[reducible,instance] def Qmb:=g10.2.1
@[reducible,instance] def QkA:=g10.2.2.1
@[reducible,instance] def QhB:=g10.2.2.2.1
@[reducible,instance] def Qho:=g10.2.2.2.2.1
@[reducible,instance] def Qic:=g10.2.2.2.2.2.1
@[reducible,instance] def QjB:=g10.2.2.2.2.2.2
end Go.Sx
