import Derived.Test.YtgdhlnfcogcicaaGreatDoorTF
import Derived.Test.YtgdhlnfcogcicaaGreatDoorTG9
import Derived.Test.YtgdhlnfcogcicaaGreatDoorTG10
import Derived.Test.YtgdhlnfcogcicaaGreatDoorTG13
import Derived.Test.YtgdhlnfcogcicaaGreatDoorTG14
import Derived.Test.YtgdhlnfcogcicaaGreatDoorTG15
import Derived.Test.YtgdhlnfcogcicaaGreatDoorTG17
import Derived.Test.YtgdhlnfcogcicaaGreatDoorTG22
import Derived.Test.YtgdhlnfcogcicaaGreatDoorTG23
set_option linter.all false
namespace Go.Sx
open Go.Proofs
set_option maxRecDepth 10000
set_option maxHeartbeats 100000000
theorem g36:(∀ N (a0:Wm) (a2:Int) (a3:Int) (a4:Int) (a5:UH),OK (Qed N a0 a2 a3 a4 a5) 11 [.agg (e61 a0),.v (.int .i64 4),.v (.int .u64 a2),.v (.int .u64 a3),.v (.int .u64 a4),.agg (e66 a5)] [] (λ r=>.tup [.agg (e61 r.1),.v (.int .u64 r.2.1),.v (.int .i64 r.2.2)]) λ r=>[])/\(∀ N (a0:Wm) (a2:Int) (a3:Int) (a4:Int) (a5:UH),OK (Qdf N a0 a2 a3 a4 a5) 11 [.agg (e61 a0),.v (.int .i64 11),.v (.int .u64 a2),.v (.int .u64 a3),.v (.int .u64 a4),.agg (e66 a5)] [] (λ r=>.tup [.agg (e61 r.1),.v (.int .u64 r.2.1),.v (.int .i64 r.2.2)]) λ r=>[])/\(∀ N (a0:Wm) (a2:Int) (a3:Int) (a4:Int) (a5:UH),OK (Qdk N a0 a2 a3 a4 a5) 11 [.agg (e61 a0),.v (.int .i64 16),.v (.int .u64 a2),.v (.int .u64 a3),.v (.int .u64 a4),.agg (e66 a5)] [] (λ r=>.tup [.agg (e61 r.1),.v (.int .u64 r.2.1),.v (.int .i64 r.2.2)]) λ r=>[]):=by
 refine ⟨λ N _ _ _ _ _=>rn Tryz.f11 [.cell 12 61,.tmp 13,.tmp 14] [] 57 (by kernel_rfl) ?_,λ N _ _ _ _ _=>rn Tryz.f11 [.cell 12 61,.tmp 13,.tmp 14] [] 57 (by kernel_rfl) ?_,λ N _ _ _ _ _=>rn Tryz.f11 [.cell 12 61,.tmp 13,.tmp 14] [] 57 (by kernel_rfl) ?_⟩<;>(rintro _ hw r hr C _ rfl hwf hf;simp only[Tryz.f11,Tryz.f11,Tryz.f11,Option.get!];(first|rw[Qed] at hr|rw[Qdf] at hr|rw[Qdk] at hr);repeat' first
 |(refine El.el hr ?_;intro hr)
 |(with_reducible intro h;refine Xz hr h ?_;intro hr)
 |with_reducible intro _
 |simp only[go_sem,simprocAttr,XQ,Y5]
 |(with_reducible first|apply Xg|apply Xf|apply Xs|apply Xx|apply Xy)
 |((first|with_reducible refine Ye hr (by assumption) ?_ ?_|(with_reducible refine Yd hr ?_ ?_;rotate_left;intro p;rotate_right));(·simp only[go_sem,simprocAttr]);intro hp hn hd hr;(try have XQ:=hd _ e37);(try simp only[go_sem,simprocAttr] at XQ);(try have Y5:=hd _ e77);(try simp only[go_sem,simprocAttr] at Y5))
 |(refine Xl ?_ ?_;·first|assumption|omega)
 |(refine CallX.inl (f:=42) 400 (fn:=Tryz.f42) (rs:=[.tmp 14,.tmp 15]) (nt:=221) 1000 (by kernel_rfl) (λ x=>?_) _;simp only[Tryz.f42,Option.get!])
 |(refine CallX.inl (f:=87) 1200 (fn:=Tryz.f87) (rs:=[.tmp 4,.tmp 5]) (nt:=36) 1000 (by kernel_rfl) (λ x=>?_) _;simp only[Tryz.f87,Option.get!])
 |(refine CallX.inl (f:=89) 2400 (fn:=Tryz.f89) (rs:=[.tmp 4,.tmp 5]) (nt:=71) 1000 (by kernel_rfl) (λ x=>?_) _;simp only[Tryz.f89,Option.get!])
 |(with_reducible first|refine CallX.c ?_ _|refine OK.c hr hw ?_ (λ y hr=>?_) _|refine Oy hr hw ?_ (λ y hr=>?_) _)
 |refine db 42 22 ⟨⟩ 102 [(0,2041,[]),(1,2041,[]),(0,2039,[]),(0,142,[]),(8,142,[]),(24,142,[]),(0,126,[]),(120,14,[]),(248,14,[]),(504,1038,[]),(504,2574,[]),(1023,1024,[]),(3071,1024,[]),(8191,0,[])] rfl rfl (by kernel_rfl) ?_ _
 |refine db 89 6 ⟨⟩ 36 [(0,8189,[]),(0,962,[]),(2,962,[]),(6,962,[]),(14,962,[]),(0,830,[]),(32,830,[]),(0,254,[]),(128,254,[]),(510,2,[]),(1022,2,[]),(2046,4098,[]),(2046,26626,[[],[1152]]),(4095,4096,[]),(12287,4096,[]),(28671,4096,[[1152],[]]),(65535,0,[])] rfl rfl (by kernel_rfl) ?_ _
 |refine db 89 8 ⟨⟩ 55 [(0,8189,[]),(0,962,[]),(2,962,[]),(6,962,[]),(14,962,[]),(0,830,[]),(32,830,[]),(0,254,[]),(128,254,[]),(510,2,[]),(1022,2,[]),(2046,4098,[]),(2046,26626,[[],[1152]]),(4095,4096,[]),(12287,4096,[]),(28671,4096,[[1152],[]]),(65535,0,[])] rfl rfl (by kernel_rfl) ?_ _
 |refine db 89 2 ⟨⟩ 13 [(0,8189,[[],[2561]]),(0,962,[]),(2,962,[]),(6,962,[]),(14,962,[]),(0,830,[]),(32,830,[]),(0,254,[]),(128,254,[]),(510,2,[[2561],[]]),(1022,2,[]),(2046,4098,[]),(2046,26626,[[],[1152]]),(4095,4096,[]),(12287,4096,[]),(28671,4096,[[1152],[]]),(65535,0,[])] rfl rfl (by kernel_rfl) ?_ _
 |(refine Xq hr ?_;rintro rfl;with_reducible refine XG ?_)
 |exact Yo hr
 |fail)
@[reducible,instance] def QlA:=g36.1
@[reducible,instance] def Qk4:=g36.2.1
@[reducible,instance] def Qk5:=g36.2.2
theorem g32:(∀ N (a0:Wm) (a1:Int) (a2:Int) (a3:Int) (a4:Int) (a5:UH),OK (Qe8 N a0 a1 a2 a3 a4 a5) 11 [.agg (e61 a0),.v (.int .i64 a1),.v (.int .u64 a2),.v (.int .u64 a3),.v (.int .u64 a4),.agg (e66 a5)] [] (λ r=>.tup [.agg (e61 r.1),.v (.int .u64 r.2.1),.v (.int .i64 r.2.2)]) λ r=>[])/\(∀ N (a0:Wm) (a2:Int) (a3:Int) (a4:Int) (a5:UH),OK (Qee N a0 a2 a3 a4 a5) 11 [.agg (e61 a0),.v (.int .i64 5),.v (.int .u64 a2),.v (.int .u64 a3),.v (.int .u64 a4),.agg (e66 a5)] [] (λ r=>.tup [.agg (e61 r.1),.v (.int .u64 r.2.1),.v (.int .i64 r.2.2)]) λ r=>[])/\(∀ N (a0:Wm) (a2:Int) (a3:Int) (a4:Int) (a5:UH),OK (Qdg N a0 a2 a3 a4 a5) 11 [.agg (e61 a0),.v (.int .i64 12),.v (.int .u64 a2),.v (.int .u64 a3),.v (.int .u64 a4),.agg (e66 a5)] [] (λ r=>.tup [.agg (e61 r.1),.v (.int .u64 r.2.1),.v (.int .i64 r.2.2)]) λ r=>[])/\(∀ N (a0:Wm) (a2:Int) (a3:Int) (a4:Int) (a5:UH),OK (Qdl N a0 a2 a3 a4 a5) 11 [.agg (e61 a0),.v (.int .i64 17),.v (.int .u64 a2),.v (.int .u64 a3),.v (.int .u64 a4),.agg (e66 a5)] [] (λ r=>.tup [.agg (e61 r.1),.v (.int .u64 r.2.1),.v (.int .i64 r.2.2)]) λ r=>[]):=by
 refine ⟨λ N _ _ _ _ _ _=>rn Tryz.f11 [.cell 12 61,.tmp 13,.tmp 14] [] 57 (by kernel_rfl) ?_,λ N _ _ _ _ _=>rn Tryz.f11 [.cell 12 61,.tmp 13,.tmp 14] [] 57 (by kernel_rfl) ?_,λ N _ _ _ _ _=>rn Tryz.f11 [.cell 12 61,.tmp 13,.tmp 14] [] 57 (by kernel_rfl) ?_,λ N _ _ _ _ _=>rn Tryz.f11 [.cell 12 61,.tmp 13,.tmp 14] [] 57 (by kernel_rfl) ?_⟩<;>(rintro _ hw r hr C _ rfl hwf hf;simp only[Tryz.f11,Tryz.f11,Tryz.f11,Tryz.f11,Option.get!];(first|rw[Qe8] at hr|rw[Qee] at hr|rw[Qdg] at hr|rw[Qdl] at hr);repeat' first
 |(refine El.el hr ?_;intro hr)
 |(with_reducible intro h;refine Xz hr h ?_;intro hr)
 |with_reducible intro _
 |simp only[go_sem,simprocAttr,XQ,Y5]
 |(with_reducible first|apply Xg|apply Xf|apply Xs|apply Xx|apply Xy)
 |((first|with_reducible refine Ye hr (by assumption) ?_ ?_|(with_reducible refine Yd hr ?_ ?_;rotate_left;intro p;rotate_right));(·simp only[go_sem,simprocAttr]);intro hp hn hd hr;(try have XQ:=hd _ e37);(try simp only[go_sem,simprocAttr] at XQ);(try have Y5:=hd _ e77);(try simp only[go_sem,simprocAttr] at Y5))
 |(refine Xl ?_ ?_;·first|assumption|omega)
 |(refine CallX.inl (f:=42) 400 (fn:=Tryz.f42) (rs:=[.tmp 14,.tmp 15]) (nt:=221) 1000 (by kernel_rfl) (λ x=>?_) _;simp only[Tryz.f42,Option.get!])
 |(refine CallX.inl (f:=89) 2400 (fn:=Tryz.f89) (rs:=[.tmp 4,.tmp 5]) (nt:=71) 1000 (by kernel_rfl) (λ x=>?_) _;simp only[Tryz.f89,Option.get!])
 |(with_reducible first|refine CallX.c ?_ _|refine OK.c hr hw ?_ (λ y hr=>?_) _|refine Oy hr hw ?_ (λ y hr=>?_) _)
 |refine db 42 22 ⟨⟩ 102 [(0,2041,[]),(1,2041,[]),(0,2039,[]),(0,142,[]),(8,142,[]),(24,142,[]),(0,126,[]),(120,14,[]),(248,14,[]),(504,1038,[]),(504,2574,[]),(1023,1024,[]),(3071,1024,[]),(8191,0,[])] rfl rfl (by kernel_rfl) ?_ _
 |refine db 89 6 ⟨⟩ 36 [(0,8189,[]),(0,962,[]),(2,962,[]),(6,962,[]),(14,962,[]),(0,830,[]),(32,830,[]),(0,254,[]),(128,254,[]),(510,2,[]),(1022,2,[]),(2046,4098,[]),(2046,26626,[[],[1152]]),(4095,4096,[]),(12287,4096,[]),(28671,4096,[[1152],[]]),(65535,0,[])] rfl rfl (by kernel_rfl) ?_ _
 |refine db 89 8 ⟨⟩ 55 [(0,8189,[]),(0,962,[]),(2,962,[]),(6,962,[]),(14,962,[]),(0,830,[]),(32,830,[]),(0,254,[]),(128,254,[]),(510,2,[]),(1022,2,[]),(2046,4098,[]),(2046,26626,[[],[1152]]),(4095,4096,[]),(12287,4096,[]),(28671,4096,[[1152],[]]),(65535,0,[])] rfl rfl (by kernel_rfl) ?_ _
 |refine db 89 2 ⟨⟩ 13 [(0,8189,[[],[2561]]),(0,962,[]),(2,962,[]),(6,962,[]),(14,962,[]),(0,830,[]),(32,830,[]),(0,254,[]),(128,254,[]),(510,2,[[2561],[]]),(1022,2,[]),(2046,4098,[]),(2046,26626,[[],[1152]]),(4095,4096,[]),(12287,4096,[]),(28671,4096,[[1152],[]]),(65535,0,[])] rfl rfl (by kernel_rfl) ?_ _
 |(refine Xq hr ?_;rintro rfl;with_reducible refine XG ?_)
 |exact Yo hr
 |fail)
@[reducible,instance] def QlB:=g32.1
@[reducible,instance] def QlC:=g32.2.1
@[reducible,instance] def Qk6:=g32.2.2.1
@[reducible,instance] def Qk7:=g32.2.2.2
theorem g35:(∀ N (a0:Wm) (a2:Int) (a3:Int) (a4:Int) (a5:UH),OK (Qec N a0 a2 a3 a4 a5) 11 [.agg (e61 a0),.v (.int .i64 3),.v (.int .u64 a2),.v (.int .u64 a3),.v (.int .u64 a4),.agg (e66 a5)] [] (λ r=>.tup [.agg (e61 r.1),.v (.int .u64 r.2.1),.v (.int .i64 r.2.2)]) λ r=>[])/\(∀ N (a0:Wm) (a2:Int) (a3:Int) (a4:Int) (a5:UH),OK (Qde N a0 a2 a3 a4 a5) 11 [.agg (e61 a0),.v (.int .i64 10),.v (.int .u64 a2),.v (.int .u64 a3),.v (.int .u64 a4),.agg (e66 a5)] [] (λ r=>.tup [.agg (e61 r.1),.v (.int .u64 r.2.1),.v (.int .i64 r.2.2)]) λ r=>[])/\(∀ N (a0:Wm) (a2:Int) (a3:Int) (a4:Int) (a5:UH),OK (Qdj N a0 a2 a3 a4 a5) 11 [.agg (e61 a0),.v (.int .i64 15),.v (.int .u64 a2),.v (.int .u64 a3),.v (.int .u64 a4),.agg (e66 a5)] [] (λ r=>.tup [.agg (e61 r.1),.v (.int .u64 r.2.1),.v (.int .i64 r.2.2)]) λ r=>[]):=by
 refine ⟨λ N _ _ _ _ _=>rn Tryz.f11 [.cell 12 61,.tmp 13,.tmp 14] [] 57 (by kernel_rfl) ?_,λ N _ _ _ _ _=>rn Tryz.f11 [.cell 12 61,.tmp 13,.tmp 14] [] 57 (by kernel_rfl) ?_,λ N _ _ _ _ _=>rn Tryz.f11 [.cell 12 61,.tmp 13,.tmp 14] [] 57 (by kernel_rfl) ?_⟩<;>(rintro _ hw r hr C _ rfl hwf hf;simp only[Tryz.f11,Tryz.f11,Tryz.f11,Option.get!];(first|rw[Qec] at hr|rw[Qde] at hr|rw[Qdj] at hr);repeat' first
 |(refine El.el hr ?_;intro hr)
 |(with_reducible intro h;refine Xz hr h ?_;intro hr)
 |with_reducible intro _
 |simp only[go_sem,simprocAttr,XQ,Y5]
 |(with_reducible first|apply Xg|apply Xf|apply Xs|apply Xx|apply Xy)
 |((first|with_reducible refine Ye hr (by assumption) ?_ ?_|(with_reducible refine Yd hr ?_ ?_;rotate_left;intro p;rotate_right));(·simp only[go_sem,simprocAttr]);intro hp hn hd hr;(try have XQ:=hd _ e37);(try simp only[go_sem,simprocAttr] at XQ);(try have Y5:=hd _ e77);(try simp only[go_sem,simprocAttr] at Y5))
 |(refine Xl ?_ ?_;·first|assumption|omega)
 |(refine CallX.inl (f:=42) 400 (fn:=Tryz.f42) (rs:=[.tmp 14,.tmp 15]) (nt:=221) 1000 (by kernel_rfl) (λ x=>?_) _;simp only[Tryz.f42,Option.get!])
 |(refine CallX.inl (f:=86) 800 (fn:=Tryz.f86) (rs:=[.tmp 6,.tmp 7]) (nt:=49) 1000 (by kernel_rfl) (λ x=>?_) _;simp only[Tryz.f86,Option.get!])
 |(refine CallX.inl (f:=87) 1200 (fn:=Tryz.f87) (rs:=[.tmp 4,.tmp 5]) (nt:=36) 1000 (by kernel_rfl) (λ x=>?_) _;simp only[Tryz.f87,Option.get!])
 |(refine CallX.inl (f:=88) 2800 (fn:=Tryz.f88) (rs:=[.tmp 6,.tmp 7]) (nt:=35) 1000 (by kernel_rfl) (λ x=>?_) _;simp only[Tryz.f88,Option.get!])
 |(with_reducible first|refine CallX.c ?_ _|refine OK.c hr hw ?_ (λ y hr=>?_) _|refine Oy hr hw ?_ (λ y hr=>?_) _)
 |refine db 42 22 ⟨⟩ 102 [(0,2041,[]),(1,2041,[]),(0,2039,[]),(0,142,[]),(8,142,[]),(24,142,[]),(0,126,[]),(120,14,[]),(248,14,[]),(504,1038,[]),(504,2574,[]),(1023,1024,[]),(3071,1024,[]),(8191,0,[])] rfl rfl (by kernel_rfl) ?_ _
 |refine db 86 6 ⟨⟩ 25 [(0,4094,[[],[2560,52224,53312,53440]]),(0,2017,[[],[53312,53440]]),(2,2017,[[],[53312,53440]]),(6,2017,[[],[53312,53440]]),(14,2017,[[],[53312,53440]]),(0,479,[[],[53312]]),(0,63,[]),(64,63,[]),(192,63,[[53312],[]]),(480,31,[]),(992,31,[[53312,53440],[]]),(2046,1,[[2560,52224],[]]),(4095,0,[]),(8191,0,[]),(16383,0,[[1152],[]])] rfl rfl (by kernel_rfl) ?_ _
 |(refine Xq hr ?_;rintro rfl;with_reducible refine XG ?_)
 |exact Yo hr
 |fail)
@[reducible,instance] def QlD:=g35.1
@[reducible,instance] def Qk8:=g35.2.1
@[reducible,instance] def Qk9:=g35.2.2
end Go.Sx
