import Derived.Test.YtjmgebidnekjdaaGreatLG3
import Derived.Test.YtjmgebidnekjdaaGreatLG4
import Derived.Test.YtjmgebidnekjdaaGreatLG5
set_option linter.all false
namespace Go.Sx
open Go.Proofs
set_option maxRecDepth 10000
set_option maxHeartbeats 100000000
def g14:(∀ N a0,OK (Qb2 N a0) 205 [vu a0] [] (λ r=>.tup [.agg (e72 r.1),.v (.bool r.2)]) λ r=>[])/\(∀ N a0 a1,OK (Qer N a0 a1) 244 [.agg (KR a0),vi a1] [] (λ r=>.tup [.agg (KR r.1),vu r.2.1,.v (.bool r.2.2)]) λ r=>[])/\(∀ N a0 a1,OK (QdL N a0 a1) 249 [.agg (e27 a0),vi a1] [] (λ r=>.tup [.agg (e27 r.1),vu r.2.1,.v (.bool r.2.2)]) λ r=>[])/\(∀ N a0 a1 a2,OK (Qcx N a0 a1 a2) 160 [.agg (e35 a0),vi a1,vi a2] [] (λ r=>.tup [.agg (e35 r.1),vi r.2]) λ r=>[])/\(∀ N a0 a1 a2,OK (Qd5 N a0 a1 a2) 102 [.agg (e42 a0),vi a1,vu a2] [] (λ r=>.tup [.agg (e42 r.1),vu r.2]) λ r=>[])/\(∀ N a0 a1,OK (Qe2 N a0 a1) 7 [.agg (e38 a0),.ept 1000000 0 2 0 0] [.arr true 50 2 [[s3 a1.L,vi a1.at_]] 0] (λ r=>.agg (e38 r.1)) λ r=>[.arr true 50 2 [[s3 r.2.L,vi r.2.at_]] 0])/\(∀ N a0,OK (QfR N a0) 195 [vu a0] [] (λ r=>.tup [.agg (e72 r.1),.v (.bool r.2)]) λ r=>[])/\(∀ N a0 a1,OK (QfS N a0 a1) 176 [s92 a0,vu a1] [] (λ r=>vi r) λ r=>[])/\(∀ N a0,OK (QgC N a0) 50 [s24 a0] [] (λ r=>s76 r) λ r=>[]):=by
 refine ⟨λ N _=>rk Tryz.f205 [.cell 2 72,.tmp 3] [] 33 ?_,λ N _ _=>rk Tryz.f244 [.cell 4 216,.tmp 5,.tmp 6] [] 111 ?_,λ N _ _=>rk Tryz.f249 [.cell 4 27,.tmp 5,.tmp 6] [] 108 ?_,λ N _ _ _=>rk Tryz.f160 [.cell 6 35,.tmp 7] [] 26 ?_,λ N _ _ _=>rk Tryz.f102 [.cell 6 42,.tmp 7] [] 46 ?_,λ N _ _=>rk Tryz.f7 [.cell 4 38] [] 129 ?_,λ N _=>rk Tryz.f195 [.cell 2 72,.tmp 3] [] 40 ?_,λ N _ _=>rk Tryz.f176 [.tmp 4] [] 8 ?_,λ N _=>rk Tryz.f50 [.tmp 2] [] 5 ?_⟩<;>(rintro _ hw r hr C _ rfl hwf hf;simp only[Tryz.f205,Tryz.f244,Tryz.f249,Tryz.f160,Tryz.f102,Tryz.f7,Tryz.f195,Tryz.f176,Tryz.f50,Option.get!];(first|rw[Qb2] at hr|rw[Qer] at hr|rw[QdL] at hr|rw[Qcx] at hr|rw[Qd5] at hr|rw[Qe2] at hr|rw[QfR] at hr|rw[QfS] at hr|rw[QgC] at hr);repeat' first
 |(refine El.el hr ?_;intro hr)
 |(with_reducible intro h;refine Xx hr h ?_;intro hr)
 |with_reducible intro _
 |simp only[go_sem,simprocAttr,hl3,XS,Y2,XE]
 |(with_reducible first|apply Xh|apply Xg|apply Xr|apply Xt|apply Xu)
 |((first|with_reducible refine Yn hr (by assumption) ?_ ?_|(with_reducible refine Yk hr ?_ ?_;rotate_left;intro p;rotate_right));(·simp only[go_sem,simprocAttr]);intro hp hn hd hr;(try have hl3:=hd _ e3);(try simp only[go_sem,simprocAttr] at hl3);(try have XS:=hd _ e76);(try simp only[go_sem,simprocAttr] at XS);(try have Y2:=hd _ e88);(try simp only[go_sem,simprocAttr] at Y2);(try have XE:=hd _ Yp);(try simp only[go_sem,simprocAttr] at XE))
 |(refine Xs ?_ ?_;·first|assumption|omega)
 |(with_reducible refine XqG hr ?_ ?_;(·simp only[go_sem]);intro p hp hn hd hr;(try have hl3:=hd _ e3);(try simp only[go_sem,simprocAttr] at hl3);(try have XS:=hd _ e76);(try simp only[go_sem,simprocAttr] at XS);(try have Y2:=hd _ e88);(try simp only[go_sem,simprocAttr] at Y2);(try have XE:=hd _ Yp);(try simp only[go_sem,simprocAttr] at XE))
 |(with_reducible first|refine CallX.c ?_ _|refine OK.c hr hw ?_ (λ y hr=>?_) _|refine Ol hr hw ?_ (λ y hr=>?_) _)
 |refine dc 244 4 hf 23 [(0,0,[]),(1,0,[]),(3,0,[]),(7,250360,[]),(15,250360,[]),(31,250360,[]),(7,249959,[]),(71,249959,[]),(7,249887,[]),(263,249887,[]),(967,249863,[]),(1991,249863,[]),(4095,249856,[]),(8191,249856,[]),(16383,249856,[]),(7,249855,[]),(65535,245760,[]),(7,16383,[]),(131079,16383,[]),(393223,16383,[]),(917511,16383,[]),(2097151,0,[]),(4194303,0,[])] ?_
 |refine dc 244 11 hf 78 [(0,16286,[]),(0,16257,[]),(2,16257,[]),(6,16257,[]),(14,16257,[]),(31,16256,[]),(63,16256,[]),(0,1151,[]),(128,1151,[]),(384,1151,[]),(0,1023,[]),(1920,127,[]),(3968,127,[]),(8064,127,[]),(16383,0,[]),(32767,0,[]),(65535,0,[])] ?_
 |refine dc 244 12 hf 94 [(0,8184,[]),(1,8184,[]),(3,8184,[]),(0,8183,[]),(0,2191,[]),(16,2191,[]),(48,2191,[]),(0,2175,[]),(240,2063,[]),(496,2063,[]),(1008,2063,[]),(0,2047,[]),(4080,15,[]),(8191,0,[]),(16383,0,[]),(32767,0,[[640,4160],[]])] ?_
 |refine dc 249 5 hf 27 [(0,0,[]),(1,0,[]),(3,0,[]),(7,196,[]),(15,196,[]),(7,195,[]),(63,192,[]),(127,192,[]),(255,192,[]),(7,63,[]),(519,63,[]),(2047,0,[]),(4095,0,[]),(8191,0,[]),(16383,3809280,[]),(32767,3809280,[]),(16383,3807232,[]),(131071,3801088,[]),(262143,3801088,[]),(524287,3801088,[]),(16383,3799040,[]),(2097151,3670016,[]),(16383,522240,[]),(4210687,522240,[]),(12599295,522240,[]),(33554431,0,[]),(67108863,0,[]),(134217727,0,[]),(268435455,67108864,[]),(268435455,33554432,[]),(1073741823,0,[]),(2147483647,0,[])] ?_
 |refine dc 249 11 hf 79 [(0,4046,[]),(0,4033,[]),(2,4033,[]),(6,4033,[]),(15,4032,[]),(31,4032,[]),(0,319,[]),(64,319,[]),(0,255,[]),(448,63,[]),(960,63,[]),(1984,63,[]),(4095,0,[]),(8191,0,[]),(16383,0,[])] ?_
 |refine dc 249 12 hf 93 [(0,2044,[]),(1,2044,[]),(0,2043,[]),(0,551,[]),(8,551,[]),(0,543,[]),(56,519,[]),(120,519,[]),(248,519,[]),(0,511,[]),(1016,7,[]),(2047,0,[]),(4095,0,[]),(8191,0,[[704,4672],[]])] ?_
 |refine dc 7 11 hf 46 [(0,3640,[[],[1000000]]),(1,3640,[[],[1000000]]),(3,3640,[[],[1000000]]),(0,535,[]),(0,527,[]),(24,519,[[1000000],[]]),(63,3584,[[],[1000000]]),(127,3584,[[],[1000000]]),(255,3584,[[],[1000000]]),(0,511,[[],[1000000]]),(568,455,[[1000000],[]]),(1592,455,[]),(4095,0,[]),(8191,0,[]),(16383,0,[]),(32767,0,[[2496],[]])] ?_
 |refine dc 195 4 hf 6 [(0,267386881,[[],[384]]),(1,267386881,[[],[384]]),(3,267386881,[[],[384]]),(7,267386881,[[],[384]]),(0,252641281,[[],[384]]),(16,252641281,[[],[384]]),(48,252641281,[[],[384]]),(112,252641281,[[],[384]]),(0,16711681,[[],[384]]),(256,16711681,[[],[384]]),(768,16711681,[[],[384]]),(1792,16711681,[[],[384]]),(4095,1,[[],[384]]),(0,536805376,[[384],[]]),(16383,0,[[384],[]])] ?_
 |(refine Xo hr ?_;rintro rfl;with_reducible refine XP ?_)
 |exact Yw hr
 |exact XV hr
 |(apply XW;assumption)
 |fail)
abbrev Ql6:=g14.1
abbrev QmZ:=g14.2.1
abbrev Qm0:=g14.2.2.1
abbrev Ql7:=g14.2.2.2.1
abbrev Qlc:=g14.2.2.2.2.1
abbrev QoJ:=g14.2.2.2.2.2.1
abbrev Qld:=g14.2.2.2.2.2.2.1
abbrev Qle:=g14.2.2.2.2.2.2.2.1
abbrev Qn4:=g14.2.2.2.2.2.2.2.2
attribute [instance] Ql6 QmZ Qm0 Ql7 Qlc QoJ Qld Qle Qn4
end Go.Sx
