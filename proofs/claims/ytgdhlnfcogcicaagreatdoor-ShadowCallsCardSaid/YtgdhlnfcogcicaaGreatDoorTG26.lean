import Derived.Test.YtgdhlnfcogcicaaGreatDoorTF
import Derived.Test.YtgdhlnfcogcicaaGreatDoorTG1
import Derived.Test.YtgdhlnfcogcicaaGreatDoorTG4
import Derived.Test.YtgdhlnfcogcicaaGreatDoorTG7
import Derived.Test.YtgdhlnfcogcicaaGreatDoorTG8
import Derived.Test.YtgdhlnfcogcicaaGreatDoorTG9
import Derived.Test.YtgdhlnfcogcicaaGreatDoorTG10
import Derived.Test.YtgdhlnfcogcicaaGreatDoorTG12
import Derived.Test.YtgdhlnfcogcicaaGreatDoorTG13
import Derived.Test.YtgdhlnfcogcicaaGreatDoorTG14
import Derived.Test.YtgdhlnfcogcicaaGreatDoorTG15
import Derived.Test.YtgdhlnfcogcicaaGreatDoorTG17
import Derived.Test.YtgdhlnfcogcicaaGreatDoorTG19
import Derived.Test.YtgdhlnfcogcicaaGreatDoorTG21
import Derived.Test.YtgdhlnfcogcicaaGreatDoorTG22
import Derived.Test.YtgdhlnfcogcicaaGreatDoorTG23
set_option linter.all false
namespace Go.Sx
open Go.Proofs
set_option maxRecDepth 10000
set_option maxHeartbeats 100000000
theorem g33:(∀ N (a0:Wm) (a2:Int) (a3:Int) (a4:Int) (a5:UH),OK (Qea N a0 a2 a3 a4 a5) 11 [.agg (e61 a0),.v (.int .i64 1),.v (.int .u64 a2),.v (.int .u64 a3),.v (.int .u64 a4),.agg (e66 a5)] [] (λ r=>.tup [.agg (e61 r.1),.v (.int .u64 r.2.1),.v (.int .i64 r.2.2)]) λ r=>[])/\(∀ N (a0:Wm) (a2:Int) (a3:Int) (a4:Int) (a5:UH),OK (Qef N a0 a2 a3 a4 a5) 11 [.agg (e61 a0),.v (.int .i64 6),.v (.int .u64 a2),.v (.int .u64 a3),.v (.int .u64 a4),.agg (e66 a5)] [] (λ r=>.tup [.agg (e61 r.1),.v (.int .u64 r.2.1),.v (.int .i64 r.2.2)]) λ r=>[])/\(∀ N (a0:Wm) (a2:Int) (a3:Int) (a4:Int) (a5:UH),OK (Qdh N a0 a2 a3 a4 a5) 11 [.agg (e61 a0),.v (.int .i64 13),.v (.int .u64 a2),.v (.int .u64 a3),.v (.int .u64 a4),.agg (e66 a5)] [] (λ r=>.tup [.agg (e61 r.1),.v (.int .u64 r.2.1),.v (.int .i64 r.2.2)]) λ r=>[])/\(∀ N (a0:Wm) (a2:Int) (a3:Int) (a4:Int) (a5:UH),OK (Qdm N a0 a2 a3 a4 a5) 11 [.agg (e61 a0),.v (.int .i64 18),.v (.int .u64 a2),.v (.int .u64 a3),.v (.int .u64 a4),.agg (e66 a5)] [] (λ r=>.tup [.agg (e61 r.1),.v (.int .u64 r.2.1),.v (.int .i64 r.2.2)]) λ r=>[]):=by
 refine ⟨λ N _ _ _ _ _=>rn Tryz.f11 [.cell 12 61,.tmp 13,.tmp 14] [] 57 (by kernel_rfl) ?_,λ N _ _ _ _ _=>rn Tryz.f11 [.cell 12 61,.tmp 13,.tmp 14] [] 57 (by kernel_rfl) ?_,λ N _ _ _ _ _=>rn Tryz.f11 [.cell 12 61,.tmp 13,.tmp 14] [] 57 (by kernel_rfl) ?_,λ N _ _ _ _ _=>rn Tryz.f11 [.cell 12 61,.tmp 13,.tmp 14] [] 57 (by kernel_rfl) ?_⟩<;>(rintro _ hw r hr C _ rfl hwf hf;simp only[Tryz.f11,Tryz.f11,Tryz.f11,Tryz.f11,Option.get!];(first|rw[Qea] at hr|rw[Qef] at hr|rw[Qdh] at hr|rw[Qdm] at hr);repeat' first
 |(refine El.el hr ?_;intro hr)
 |(with_reducible intro h;refine Xz hr h ?_;intro hr)
 |with_reducible intro _
 |simp only[go_sem,simprocAttr,XQ,Y5]
 |(with_reducible first|apply Xg|apply Xf|apply Xs|apply Xx|apply Xy)
 |((first|with_reducible refine Ye hr (by assumption) ?_ ?_|(with_reducible refine Yd hr ?_ ?_;rotate_left;intro p;rotate_right));(·simp only[go_sem,simprocAttr]);intro hp hn hd hr;(try have XQ:=hd _ e37);(try simp only[go_sem,simprocAttr] at XQ);(try have Y5:=hd _ e77);(try simp only[go_sem,simprocAttr] at Y5))
 |(refine Xl ?_ ?_;·first|assumption|omega)
 |(refine CallX.inl (f:=42) 400 (fn:=Tryz.f42) (rs:=[.tmp 14,.tmp 15]) (nt:=221) 1000 (by kernel_rfl) (λ x=>?_) _;simp only[Tryz.f42,Option.get!])
 |(refine CallX.inl (f:=86) 800 (fn:=Tryz.f86) (rs:=[.tmp 6,.tmp 7]) (nt:=49) 1000 (by kernel_rfl) (λ x=>?_) _;simp only[Tryz.f86,Option.get!])
 |(refine CallX.inl (f:=87) 1200 (fn:=Tryz.f87) (rs:=[.tmp 4,.tmp 5]) (nt:=36) 1000 (by kernel_rfl) (λ x=>?_) _;simp only[Tryz.f87,Option.get!])
 |(refine CallX.inl (f:=88) 2800 (fn:=Tryz.f88) (rs:=[.tmp 6,.tmp 7]) (nt:=35) 1000 (by kernel_rfl) (λ x=>?_) _;simp only[Tryz.f88,Option.get!])
 |(with_reducible first|refine CallX.c ?_ _|refine OK.c hr hw ?_ (λ y hr=>?_) _|refine Oy hr hw ?_ (λ y hr=>?_) _)
 |refine db 42 22 ⟨⟩ 102 [(0,2041,[]),(1,2041,[]),(0,2039,[]),(0,142,[]),(8,142,[]),(24,142,[]),(0,126,[]),(120,14,[]),(248,14,[]),(504,1038,[]),(504,2574,[]),(1023,1024,[]),(3071,1024,[]),(8191,0,[])] rfl rfl (by kernel_rfl) ?_ _
 |refine db 86 6 ⟨⟩ 25 [(0,4094,[[],[2560,52224,53312,53440]]),(0,2017,[[],[53312,53440]]),(2,2017,[[],[53312,53440]]),(6,2017,[[],[53312,53440]]),(14,2017,[[],[53312,53440]]),(0,479,[[],[53312]]),(0,63,[]),(64,63,[]),(192,63,[[53312],[]]),(480,31,[]),(992,31,[[53312,53440],[]]),(2046,1,[[2560,52224],[]]),(4095,0,[]),(8191,0,[]),(16383,0,[[1152],[]])] rfl rfl (by kernel_rfl) ?_ _
 |(refine Xq hr ?_;rintro rfl;with_reducible refine XG ?_)
 |exact Yo hr
 |fail)
@[reducible,instance] def QlE:=g33.1
@[reducible,instance] def QlF:=g33.2.1
@[reducible,instance] def Qla:=g33.2.2.1
@[reducible,instance] def Qlb:=g33.2.2.2
abbrev QhK:=λ N (y3:Wm) (w768:Nat) (w1152:Nat) (Q:(Int × List Uz)→Prop) n (st:St)=>∃ (v10:Int) (v11:Int) (v12:List Uz) (ex:_),QbE N y3 n v10 v11 v12=some ex/\Q ex/\((∃ w2560 w2561 w2562,st.n=42/\st.s 2560=some (w2560,.arr false 77 4 (y3.Things.map e77) 0)/\st.s 2561=some (w2561,.arr false 132 3 (y3.Weaks.Entries.map XC) 0)/\st.s 2562=some (w2562,.arr false 116 3 (v12.map Yv) 0)/\st.t 0=.osl 2562 w2562 3 0 v12.length/\st.t 1=.clo (.func 184) [] []/\st.t 5=.v (.int .i64 v10)/\st.t 6=.v (.int .i64 v11)/\st.s 768=some (w768,.arr true 61 10 [[.v (.int .i64 0),.v (.int .i64 0),.nsl,.nsl,.nsl,.nsl,.nsl,.nsl,.nsl,.nsl]] 0)/\st.s 1152=some (w1152,.arr true 61 10 [[.v (.int .i64 y3.Conf.PageWords),.v (.int .i64 y3.Conf.Pages),.osl 2560 w2560 4 0 y3.Things.length,.isl 210 3 (y3.Locals.Slots.map X4),.isl 159 3 (y3.Locals.Scopes.map X9),.isl 3 1 (y3.Locals.Issued.map e3),.isl 132 3 (y3.Globals.Entries.map XC),.osl 2561 w2561 3 0 y3.Weaks.Entries.length,.osl 2562 w2562 3 0 v12.length,.isl 37 1 (y3.Roots.map e37)]] 0)))
instance Qlc:∀ N (a0:Wm) (a2:Int) (a3:Int) (a4:Int) (a5:UH),OK (Qdo N a0 a2 a3 a4 a5) 11 [.agg (e61 a0),.v (.int .i64 20),.v (.int .u64 a2),.v (.int .u64 a3),.v (.int .u64 a4),.agg (e66 a5)] [] (λ r=>.tup [.agg (e61 r.1),.v (.int .u64 r.2.1),.v (.int .i64 r.2.2)]) λ r=>[]:=by
 refine λ N _ _ _ _ _=>rn Tryz.f11 [.cell 12 61,.tmp 13,.tmp 14] [] 57 (by kernel_rfl) ?_<;>(rintro _ hw r hr C _ rfl hwf hf;simp only[Tryz.f11,Option.get!];(rw[Qdo] at hr);repeat' first
 |(refine El.el hr ?_;intro hr)
 |(with_reducible intro h;refine Xz hr h ?_;intro hr)
 |with_reducible intro _
 |(refine Xq hr ?_;rintro rfl;have hr:=hk;clear hk)
 |simp only[go_sem,simprocAttr,XhU,XhV,Xc1,Ov,E,XQ,Y5,ZA,WO,Uo,Io]
 |(with_reducible first|apply Xg|apply Xf|apply Xs|apply Xx|apply Xy)
 |(with_reducible refine XhY hr ?_ ?_;(·first|(simp only[go_sem,simprocAttr];done)|(simp only[Wr,WM,Ub,Wv]<;>omega));intro p hp hn hd hx hr;(try have XQ:=hd _ e37);(try simp only[go_sem,simprocAttr] at XQ);(try have Y5:=hd _ e77);(try simp only[go_sem,simprocAttr] at Y5);(try have ZA:=hd _ Yv);(try simp only[go_sem,simprocAttr] at ZA);(try have XhU:=hx _ e37);(try simp only[go_sem,simprocAttr] at XhU);(try have XhV:=hx _ e77);(try simp only[go_sem,simprocAttr] at XhV);(try have Xc1:=hx _ Yv);(try simp only[go_sem,simprocAttr] at Xc1);(try simp only[Wr,WM,Ub,Wv] at hn))
 |(refine Xl ?_ ?_;·first|assumption|omega|(dsimp only at *;omega))
 |(refine CallX.inl (f:=42) 400 (fn:=Tryz.f42) (rs:=[.tmp 14,.tmp 15]) (nt:=221) 1000 (by kernel_rfl) (λ x=>?_) _;simp only[Tryz.f42,Option.get!])
 |(refine CallX.inl (f:=92) 1600 (fn:=Tryz.f92) (rs:=[.tmp 6]) (nt:=39) 1000 (by kernel_rfl) (λ x=>?_) _;simp only[Tryz.f92,Option.get!])
 |(refine CallX.inl (f:=93) 2000 (fn:=Tryz.f93) (rs:=[]) (nt:=23) 1000 (by kernel_rfl) (λ x=>?_) _;simp only[Tryz.f93,Option.get!])
 |(refine CallX.inl (f:=183) 3200 (fn:=Tryz.f183) (rs:=[.tmp 4]) (nt:=42) 1000 (by kernel_rfl) (λ x=>?_) _;simp only[Tryz.f183,Option.get!])
 |(with_reducible first|refine CallX.c ?_ _|refine OK.c hr hw ?_ (λ y hr=>?_) _|refine Oy hr hw ?_ (λ y hr=>?_) _)
 |(refine LoopG.v (id:=768) rfl (λ w768 h768=>?_) _;refine LoopG.v (id:=1152) rfl (λ w1152 h1152=>?_) _;with_reducible refine Xj (I:=QhK N _ w768 w1152) hr 1000 N (λ ex hq hk=>⟨_,_,_,ex,hq,hk,?_⟩) ?_ _;(all_goals (subst h768;subst h1152));rotate_left;clear hr;(try clear E);rintro n1 st ⟨v10,v11,v12,ex,hr,hk,⟨_,_,_,E⟩⟩<;>(obtain _|n1:=n1<;>rw[QbE] at hr))
 |refine ⟨_,WJ _,_,_,_,_,hr,hk,?_⟩
 |refine db 42 22 ⟨⟩ 102 [(0,2041,[]),(1,2041,[]),(0,2039,[]),(0,142,[]),(8,142,[]),(24,142,[]),(0,126,[]),(120,14,[]),(248,14,[]),(504,1038,[]),(504,2574,[]),(1023,1024,[]),(3071,1024,[]),(8191,0,[])] rfl rfl (by kernel_rfl) ?_ _
 |refine db 92 3 ⟨⟩ 7 [(0,16776193,[[],[2562,104256]]),(0,16744960,[[],[2562,104256]]),(2,16744960,[[],[2562,104256]]),(6,16744960,[[],[2562,104256]]),(14,16744960,[[],[2562,104256]]),(30,16744960,[[],[2562,104256]]),(0,7896576,[[],[104256]]),(64,7896576,[[],[104256]]),(192,7896576,[[],[104256]]),(448,7896576,[[],[104256]]),(0,1572352,[]),(0,1048064,[]),(3072,523776,[]),(7168,523776,[[104256],[]]),(16320,32256,[[2562],[]]),(32766,512,[]),(65535,0,[]),(131071,0,[]),(262143,0,[[1152],[]])] rfl rfl (by kernel_rfl) ?_ _
 |(refine Xq hr ?_;rintro rfl;with_reducible refine XG ?_)
 |exact Yo hr
 |((first|refine Xz (c:=true) hr rfl ?_|refine Xz (c:=false) hr rfl ?_|refine Xz hr (by assumption) ?_);intro hr)
 |fail)
theorem g34:(∀ N (a0:Wm) (a2:Int) (a3:Int) (a4:Int) (a5:UH),OK (Qeb N a0 a2 a3 a4 a5) 11 [.agg (e61 a0),.v (.int .i64 2),.v (.int .u64 a2),.v (.int .u64 a3),.v (.int .u64 a4),.agg (e66 a5)] [] (λ r=>.tup [.agg (e61 r.1),.v (.int .u64 r.2.1),.v (.int .i64 r.2.2)]) λ r=>[])/\(∀ N (a0:Wm) (a2:Int) (a3:Int) (a4:Int) (a5:UH),OK (Qeh N a0 a2 a3 a4 a5) 11 [.agg (e61 a0),.v (.int .i64 8),.v (.int .u64 a2),.v (.int .u64 a3),.v (.int .u64 a4),.agg (e66 a5)] [] (λ r=>.tup [.agg (e61 r.1),.v (.int .u64 r.2.1),.v (.int .i64 r.2.2)]) λ r=>[])/\(∀ N (a0:Wm) (a2:Int) (a3:Int) (a4:Int) (a5:UH),OK (Qdi N a0 a2 a3 a4 a5) 11 [.agg (e61 a0),.v (.int .i64 14),.v (.int .u64 a2),.v (.int .u64 a3),.v (.int .u64 a4),.agg (e66 a5)] [] (λ r=>.tup [.agg (e61 r.1),.v (.int .u64 r.2.1),.v (.int .i64 r.2.2)]) λ r=>[])/\(∀ N (a0:Wm) (a2:Int) (a3:Int) (a4:Int) (a5:UH),OK (Qdn N a0 a2 a3 a4 a5) 11 [.agg (e61 a0),.v (.int .i64 19),.v (.int .u64 a2),.v (.int .u64 a3),.v (.int .u64 a4),.agg (e66 a5)] [] (λ r=>.tup [.agg (e61 r.1),.v (.int .u64 r.2.1),.v (.int .i64 r.2.2)]) λ r=>[]):=by
 refine ⟨λ N _ _ _ _ _=>rn Tryz.f11 [.cell 12 61,.tmp 13,.tmp 14] [] 57 (by kernel_rfl) ?_,λ N _ _ _ _ _=>rn Tryz.f11 [.cell 12 61,.tmp 13,.tmp 14] [] 57 (by kernel_rfl) ?_,λ N _ _ _ _ _=>rn Tryz.f11 [.cell 12 61,.tmp 13,.tmp 14] [] 57 (by kernel_rfl) ?_,λ N _ _ _ _ _=>rn Tryz.f11 [.cell 12 61,.tmp 13,.tmp 14] [] 57 (by kernel_rfl) ?_⟩<;>(rintro _ hw r hr C _ rfl hwf hf;simp only[Tryz.f11,Tryz.f11,Tryz.f11,Tryz.f11,Option.get!];(first|rw[Qeb] at hr|rw[Qeh] at hr|rw[Qdi] at hr|rw[Qdn] at hr);repeat' first
 |(refine El.el hr ?_;intro hr)
 |(with_reducible intro h;refine Xz hr h ?_;intro hr)
 |with_reducible intro _
 |simp only[go_sem,simprocAttr,XhU,XhV,Xc1,Ov,XQ,Y5,ZA]
 |(with_reducible first|apply Xg|apply Xf|apply Xs|apply Xx|apply Xy)
 |(with_reducible refine XhY hr ?_ ?_;(·first|(simp only[go_sem,simprocAttr];done)|(simp only[Wr,WM,Ub,Wv]<;>omega));intro p hp hn hd hx hr;(try have XQ:=hd _ e37);(try simp only[go_sem,simprocAttr] at XQ);(try have Y5:=hd _ e77);(try simp only[go_sem,simprocAttr] at Y5);(try have ZA:=hd _ Yv);(try simp only[go_sem,simprocAttr] at ZA);(try have XhU:=hx _ e37);(try simp only[go_sem,simprocAttr] at XhU);(try have XhV:=hx _ e77);(try simp only[go_sem,simprocAttr] at XhV);(try have Xc1:=hx _ Yv);(try simp only[go_sem,simprocAttr] at Xc1);(try simp only[Wr,WM,Ub,Wv] at hn))
 |(refine Xl ?_ ?_;·first|assumption|omega)
 |(refine CallX.inl (f:=42) 400 (fn:=Tryz.f42) (rs:=[.tmp 14,.tmp 15]) (nt:=221) 1000 (by kernel_rfl) (λ x=>?_) _;simp only[Tryz.f42,Option.get!])
 |(refine CallX.inl (f:=86) 800 (fn:=Tryz.f86) (rs:=[.tmp 6,.tmp 7]) (nt:=49) 1000 (by kernel_rfl) (λ x=>?_) _;simp only[Tryz.f86,Option.get!])
 |(refine CallX.inl (f:=87) 1200 (fn:=Tryz.f87) (rs:=[.tmp 4,.tmp 5]) (nt:=36) 1000 (by kernel_rfl) (λ x=>?_) _;simp only[Tryz.f87,Option.get!])
 |(refine CallX.inl (f:=89) 2400 (fn:=Tryz.f89) (rs:=[.tmp 4,.tmp 5]) (nt:=71) 1000 (by kernel_rfl) (λ x=>?_) _;simp only[Tryz.f89,Option.get!])
 |(refine CallX.inl (f:=92) 1600 (fn:=Tryz.f92) (rs:=[.tmp 6]) (nt:=39) 1000 (by kernel_rfl) (λ x=>?_) _;simp only[Tryz.f92,Option.get!])
 |(with_reducible first|refine CallX.c ?_ _|refine OK.c hr hw ?_ (λ y hr=>?_) _|refine Oy hr hw ?_ (λ y hr=>?_) _)
 |refine db 42 22 ⟨⟩ 102 [(0,2041,[]),(1,2041,[]),(0,2039,[]),(0,142,[]),(8,142,[]),(24,142,[]),(0,126,[]),(120,14,[]),(248,14,[]),(504,1038,[]),(504,2574,[]),(1023,1024,[]),(3071,1024,[]),(8191,0,[])] rfl rfl (by kernel_rfl) ?_ _
 |refine db 86 6 ⟨⟩ 25 [(0,4094,[[],[2560,52224,53312,53440]]),(0,2017,[[],[53312,53440]]),(2,2017,[[],[53312,53440]]),(6,2017,[[],[53312,53440]]),(14,2017,[[],[53312,53440]]),(0,479,[[],[53312]]),(0,63,[]),(64,63,[]),(192,63,[[53312],[]]),(480,31,[]),(992,31,[[53312,53440],[]]),(2046,1,[[2560,52224],[]]),(4095,0,[]),(8191,0,[]),(16383,0,[[1152],[]])] rfl rfl (by kernel_rfl) ?_ _
 |refine db 89 6 ⟨⟩ 36 [(0,8189,[]),(0,962,[]),(2,962,[]),(6,962,[]),(14,962,[]),(0,830,[]),(32,830,[]),(0,254,[]),(128,254,[]),(510,2,[]),(1022,2,[]),(2046,4098,[]),(2046,26626,[[],[1152]]),(4095,4096,[]),(12287,4096,[]),(28671,4096,[[1152],[]]),(65535,0,[])] rfl rfl (by kernel_rfl) ?_ _
 |refine db 89 8 ⟨⟩ 55 [(0,8189,[]),(0,962,[]),(2,962,[]),(6,962,[]),(14,962,[]),(0,830,[]),(32,830,[]),(0,254,[]),(128,254,[]),(510,2,[]),(1022,2,[]),(2046,4098,[]),(2046,26626,[[],[1152]]),(4095,4096,[]),(12287,4096,[]),(28671,4096,[[1152],[]]),(65535,0,[])] rfl rfl (by kernel_rfl) ?_ _
 |refine db 89 2 ⟨⟩ 13 [(0,8189,[[],[2561]]),(0,962,[]),(2,962,[]),(6,962,[]),(14,962,[]),(0,830,[]),(32,830,[]),(0,254,[]),(128,254,[]),(510,2,[[2561],[]]),(1022,2,[]),(2046,4098,[]),(2046,26626,[[],[1152]]),(4095,4096,[]),(12287,4096,[]),(28671,4096,[[1152],[]]),(65535,0,[])] rfl rfl (by kernel_rfl) ?_ _
 |refine db 92 3 ⟨⟩ 7 [(0,16776193,[[],[2562,104256]]),(0,16744960,[[],[2562,104256]]),(2,16744960,[[],[2562,104256]]),(6,16744960,[[],[2562,104256]]),(14,16744960,[[],[2562,104256]]),(30,16744960,[[],[2562,104256]]),(0,7896576,[[],[104256]]),(64,7896576,[[],[104256]]),(192,7896576,[[],[104256]]),(448,7896576,[[],[104256]]),(0,1572352,[]),(0,1048064,[]),(3072,523776,[]),(7168,523776,[[104256],[]]),(16320,32256,[[2562],[]]),(32766,512,[]),(65535,0,[]),(131071,0,[]),(262143,0,[[1152],[]])] rfl rfl (by kernel_rfl) ?_ _
 |(refine Xq hr ?_;rintro rfl;with_reducible refine XG ?_)
 |exact Yo hr
 |fail)
@[reducible,instance] def QlG:=g34.1
@[reducible,instance] def QlH:=g34.2.1
@[reducible,instance] def Qld:=g34.2.2.1
@[reducible,instance] def Qle:=g34.2.2.2
abbrev Qi8:=λ N (a0:Wz) (a1:List II) (y2:List Int × Int) (Q:(Ex Bool (List Int))→Prop) n (st:St)=>∃ (v3:Int) (v4:List Int) (ex:_),Qd3 N a0 a1 y2 n v3 v4=some ex/\Q ex/\((∃ w1664 w128,st.n=103/\st.s 1664=some (w1664,.arr false 3 1 (v4.map e3) 0)/\st.t 1=.isl 229 2 (a1.map JA)/\st.t 2=.ept 128 w128 6 0 0/\st.t 5=.isl 37 1 (y2.1.map e37)/\st.t 7=.osl 1664 w1664 1 0 v4.length/\st.t 8=.v (.int .i64 v3)/\st.s 128=some (w128,.arr true 42 6 [e42 a0] 0)))
abbrev Qi9:=λ N (a0:Wz) (y16:List Int) (Q:(Ex Bool Unit)→Prop) n (st:St)=>∃ (v17:Int) (ex:_),Qd4 N a0 y16 n v17=some ex/\Q ex/\((∃ w1664 w128,st.n=103/\st.s 1664=some (w1664,.arr false 3 1 (y16.map e3) 0)/\st.t 2=.ept 128 w128 6 0 0/\st.t 7=.osl 1664 w1664 1 0 y16.length/\st.t 9=.v (.int .i64 v17)/\st.s 128=some (w128,.arr true 42 6 [e42 a0] 0)))
abbrev Qip:=λ N (a1:List Int) (y2:List Int × Int) (Q:(Ex Bool Unit)→Prop) n (st:St)=>∃ (v3:Int) (ex:_),Qcu N a1 y2 n v3=some ex/\Q ex/\((st.n=36/\st.t 1=.isl 37 1 (a1.map e37)/\st.t 5=.isl 37 1 (y2.1.map e37)/\st.t 7=.v (.int .i64 v3)))
abbrev Qja:=λ N (a0:Wz) (y3:List Int × Int) (Q:(List W4)→Prop) n (st:St)=>∃ (v4:Int) (v5:List W4) (ex:_),Qcf N a0 y3 n v4 v5=some ex/\Q ex/\((∃ w1472 w64 w128 w256,st.n=61/\st.s 1472=some (w1472,.arr false 306 4 (v5.map Ym) 0)/\st.t 1=.ept 64 w64 6 0 0/\st.t 2=.ept 128 w128 16 0 0/\st.t 4=.ept 256 w256 16 0 0/\st.t 5=.v (.int .i64 v4)/\st.s 64=some (w64,.arr true 42 6 [e42 a0] 0)/\st.s 128=some (w128,.arr true 265 16 [[.v (.int .i64 0),.v (.int .i64 0),.nsl,.nsl,.v (.int .i64 0),.v (.int .i64 0),.nsl,.nsl,.nsl,.v (.int .i64 0),.v (.int .i64 0),.v (.int .i64 0),.v (.int .i64 0),.v (.int .i64 0),.v (.int .i64 0),.v (.int .i64 0)]] 0)/\st.s 256=some (w256,.arr true 265 16 [[.v (.int .i64 a0.Conf.PageWords),.v (.int .i64 a0.Conf.Pages),.isl 37 1 (a0.Words.map e37),.osl 1472 w1472 4 0 v5.length,.v (.int .i64 a0.Space),.v (.int .i64 a0.Bump),.isl 37 1 (y3.1.map e37),.nsl,.nsl,.v (.int .i64 0),.v (.int .i64 0),.v (.int .i64 0),.v (.int .i64 0),.v (.int .i64 0),.v (.int .i64 0),.v (.int .i64 0)]] 0)))
abbrev Qib:=λ N (a0:Wz) (a1:Int) (Q:Int→Prop) n (st:St)=>∃ (v3:Int) (v4:Int) (ex:_),QbC N a0 a1 n v3 v4=some ex/\Q ex/\((∃ w128,st.n=65/\st.t 1=.v (.int .u64 a1)/\st.t 2=.ept 128 w128 6 0 0/\st.t 5=.v (.int .i64 v3)/\st.t 6=.v (.int .i64 v4)/\st.s 128=some (w128,.arr true 42 6 [e42 a0] 0)))
theorem g37:(∀ N (a0:Wz) (a1:List II),OK (QeM N a0 a1) 204 [.agg (e42 a0),.isl 229 2 (a1.map JA)] [] (λ r=>.v (.bool r)) λ r=>[])/\(∀ N (a0:Wz) (a1:List Int),OK (Qeo N a0 a1) 206 [.agg (e42 a0),.isl 37 1 (a1.map e37)] [] (λ r=>.v (.bool r)) λ r=>[])/\(∀ N (a0:Wz),OK (QeN N a0) 208 [.agg (e42 a0)] [] (λ r=>.tup [.agg (KH r.1),.v (.int .i64 r.2)]) λ r=>[])/\(∀ N (a0:Wz) (a1:Int),OK (QcE N a0 a1) 260 [.agg (e42 a0),.v (.int .u64 a1)] [] (λ r=>.v (.bool r)) λ r=>[]):=by
 refine ⟨λ N _ _=>rn Tryz.f204 [.tmp 4] [] 103 (by kernel_rfl) ?_,λ N _ _=>rn Tryz.f206 [.tmp 4] [] 36 (by kernel_rfl) ?_,λ N _=>rn Tryz.f208 [.cell 2 265,.tmp 3] [] 61 (by kernel_rfl) ?_,λ N _ _=>rn Tryz.f260 [.tmp 4] [] 65 (by kernel_rfl) ?_⟩<;>(rintro _ hw r hr C _ rfl hwf hf;simp only[Tryz.f204,Tryz.f206,Tryz.f208,Tryz.f260,Option.get!];(first|rw[QeM] at hr|rw[Qeo] at hr|rw[QeN] at hr|rw[QcE] at hr);repeat' first
 |(refine El.el hr ?_;intro hr)
 |(with_reducible intro h;refine Xz hr h ?_;intro hr)
 |with_reducible intro _
 |(refine Xq hr ?_;rintro rfl;have hr:=hk;clear hk)
 |simp only[go_sem,simprocAttr,E,hl3,XQ,KI,Yn]
 |(with_reducible first|apply Xg|apply Xf|apply Xs|apply Xx|apply Xy)
 |((first|with_reducible refine Ye hr (by assumption) ?_ ?_|(with_reducible refine Yd hr ?_ ?_;rotate_left;intro p;rotate_right));(·simp only[go_sem,simprocAttr]);intro hp hn hd hr;(try have hl3:=hd _ e3);(try simp only[go_sem,simprocAttr] at hl3);(try have XQ:=hd _ e37);(try simp only[go_sem,simprocAttr] at XQ);(try have KI:=hd _ JA);(try simp only[go_sem,simprocAttr] at KI);(try have Yn:=hd _ Ym);(try simp only[go_sem,simprocAttr] at Yn))
 |(refine Xl ?_ ?_;·first|assumption|omega)
 |(with_reducible first|refine CallX.c ?_ _|refine OK.c hr hw ?_ (λ y hr=>?_) _|refine Oy hr hw ?_ (λ y hr=>?_) _)
 |(with_reducible refine Xj (I:=Qi8 N _ _ _) hr 1000 N (λ ex hq hk=>⟨_,_,ex,hq,hk,?_⟩) ?_ _;rotate_left;clear hr;(try clear E);rintro n1 st ⟨v3,v4,ex,hr,hk,⟨_,_,E⟩⟩<;>(obtain _|n1:=n1<;>rw[Qd3] at hr))
 |refine ⟨_,WJ _,_,_,_,hr,hk,?_⟩
 |(with_reducible refine Xj (I:=Qi9 N _ _) hr 1000 N (λ ex hq hk=>⟨_,ex,hq,hk,?_⟩) ?_ _;rotate_left;clear hr;(try clear E);rintro n2 st ⟨v17,ex,hr,hk,⟨_,_,E⟩⟩<;>(obtain _|n2:=n2<;>rw[Qd4] at hr))
 |refine ⟨_,WJ _,_,_,hr,hk,?_⟩
 |(with_reducible refine Xj (I:=Qip N _ _) hr 1000 N (λ ex hq hk=>⟨_,ex,hq,hk,?_⟩) ?_ _;rotate_left;clear hr;(try clear E);rintro n1 st ⟨v3,ex,hr,hk,E⟩<;>(obtain _|n1:=n1<;>rw[Qcu] at hr))
 |(with_reducible refine Xj (I:=Qja N _ _) hr 1000 N (λ ex hq hk=>⟨_,_,ex,hq,hk,?_⟩) ?_ _;rotate_left;clear hr;(try clear E);rintro n1 st ⟨v4,v5,ex,hr,hk,⟨_,_,_,_,E⟩⟩<;>(obtain _|n1:=n1<;>rw[Qcf] at hr))
 |(with_reducible refine Xj (I:=Qib N _ _) hr 1000 N (λ ex hq hk=>⟨_,_,ex,hq,hk,?_⟩) ?_ _;rotate_left;clear hr;(try clear E);rintro n1 st ⟨v3,v4,ex,hr,hk,⟨_,E⟩⟩<;>(obtain _|n1:=n1<;>rw[QbC] at hr))
 |refine db 204 10 hf 68 [(0,31998,[]),(0,31869,[]),(0,31755,[]),(0,31751,[]),(12,31747,[]),(28,31747,[]),(60,31747,[]),(126,31745,[]),(255,31744,[]),(511,31744,[]),(0,3071,[]),(0,2047,[]),(3072,1023,[]),(7168,1023,[]),(15360,1023,[]),(32767,0,[]),(65535,0,[]),(131071,0,[[1664],[]])] rfl rfl (by kernel_rfl) ?_ _
 |refine db 204 14 hf 92 [(0,964,[]),(1,964,[]),(0,963,[]),(7,960,[]),(15,960,[]),(31,960,[]),(0,191,[]),(0,127,[]),(192,63,[]),(448,63,[]),(1023,0,[])] rfl rfl (by kernel_rfl) ?_ _
 |refine db 260 9 hf 7 [(0,962072674305,[[],[448]]),(1,962072674305,[[],[448]]),(0,377957122049,[[],[448]]),(0,240518168577,[[],[448]]),(12,103079215105,[[],[448]]),(31,1,[[],[448]]),(63,1,[[],[448]]),(0,4363686772736,[[448],[]]),(255,0,[[448],[]])] rfl rfl (by kernel_rfl) ?_ _
 |(refine Xq hr ?_;rintro rfl;with_reducible refine XG ?_)
 |exact Yo hr
 |((first|refine Xz (c:=true) hr rfl ?_|refine Xz (c:=false) hr rfl ?_|refine Xz hr (by assumption) ?_);intro hr)
 |fail)
@[reducible,instance] def Qnu:=g37.1
@[reducible,instance] def QmI:=g37.2.1
@[reducible,instance] def Qnv:=g37.2.2.1
@[reducible,instance] def Qmc:=g37.2.2.2
end Go.Sx
