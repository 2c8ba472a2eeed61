import Derived.Test.YtgbmffljpneflaaGreatDoorSF
set_option linter.all false
namespace Go.Sx
open Go.Proofs
set_option maxRecDepth 10000
set_option maxHeartbeats 100000000
def g3:(∀N a0,OK (Qf1 N a0) 14 [.ept 1000000 0 2 0 0] [.arr true 49 2 [[s3 a0.L,vi a0.at_]] 0] (λr=>.v (.bool r)) λr=>[.arr true 49 2 [[s3 a0.L,vi a0.at_]] 0])/\(∀N a0 a1 a2,OK (Qea N a0 a1 a2) 287 [s39 a0,vu a1,vi a2] [] (λr=>.tup [vi r.1,.v (.bool r.2)]) λr=>[])/\(∀N a0,OK (Qad N a0) 24 [vi a0] [] (λr=>.tup [.agg (e38 r.1),vu r.2.1,vi r.2.2]) λr=>[])/\(∀N a0 a1,OK (Qeb N a0 a1) 288 [.agg (Jo a0),vu a1] [] (λr=>.agg (Jo r)) λr=>[])/\(∀N a0 a1 a2,OK (QhE N a0 a1 a2) 176 [.agg (e35 a0),vi a1,.agg (e74 a2)] [] (λr=>.agg (e35 r)) λr=>[])/\(∀N a0 a1 a2 a3,OK (Qgf N a0 a1 a2 a3) 116 [.agg (e43 a0),vu a1,vi a2,vu a3] [] (λr=>.agg (e43 r)) λr=>[])/\(∀N a0,OK (Qb7 N a0) 346 [.agg (Xg3 a0)] [] (λr=>.v (.bool r)) λr=>[])/\(∀N a0 a1 a2,OK (QfQ N a0 a1 a2) 341 [s39 a0,vu a1,vi a2] [] (λr=>.tup [vi r.1,.v (.bool r.2)]) λr=>[])/\(∀N a0,OK (Qfc N a0) 264 [vu a0] [] (λr=>.v (.bool r)) λr=>[])/\(∀N a0 a1,OK (Qep N a0 a1) 204 [.agg (Xm0 a0),vi a1] [] (λr=>s72 r) λr=>[])/\(∀N a1,OK (Qbs N a1) 213 [.nsl,vi a1] [] (λr=>.fsl 39 1 (r.map e39)) λr=>[]):=by
 refine⟨λN _=>rk Tryz.f14 ?_,λN _ _ _=>rk Tryz.f287 ?_,λN _=>rk Tryz.f24 ?_,λN _ _=>rk Tryz.f288 ?_,λN _ _ _=>rk Tryz.f176 ?_,λN _ _ _ _=>rk Tryz.f116 ?_,λN _=>rk Tryz.f346 ?_,λN _ _ _=>rk Tryz.f341 ?_,λN _=>rk Tryz.f264 ?_,λN _ _=>rk Tryz.f204 ?_,λN _=>rq Tryz.f213 [1408] ?_⟩<;>(rintro _ hw r hr C _ rfl hwf hf;simp only[Tryz.f14,Tryz.f287,Tryz.f24,Tryz.f288,Tryz.f176,Tryz.f116,Tryz.f346,Tryz.f341,Tryz.f264,Tryz.f204,Tryz.f213,Option.get!];(first|rw[Qf1]at hr|rw[Qea]at hr|rw[Qad]at hr|rw[Qeb]at hr|rw[QhE]at hr|rw[Qgf]at hr|rw[Qb7]at hr|rw[QfQ]at hr|rw[Qfc]at hr|rw[Qep]at hr|rw[Qbs]at hr);repeat' first
 |(refine El.el hr ?_;clear hr;intro hr)
 |(with_reducible intro h;refine Xv hr h ?_;clear hr;intro hr)
 |with_reducible intro _
 |simp only[go_sem,simprocAttr,Xw,YJ,Kf,KB,Wj,Wl,Ww]
 |(with_reducible first|apply Xi|apply Xh|apply Xo|apply Xr|apply Xs)
 |((first|with_reducible refine Yn hr ag ?_ ?_|(with_reducible refine Yj hr ?_ ?_;rotate_left;intro p;rotate_right));(·simp only[go_sem,simprocAttr,Wj,Wl,Ww]);intro hp hn hd hr;(try have Xw:=hd _ e39);(try simp only[go_sem,simprocAttr]at Xw);(try have YJ:=hd _ e74);(try simp only[go_sem,simprocAttr]at YJ);(try have Kf:=hd _ e78);(try simp only[go_sem,simprocAttr]at Kf);(try have KB:=hd _ XbM);(try simp only[go_sem,simprocAttr]at KB))
 |(refine Xp ?_ ?_;.first|assumption|omega)
 |refine dc 14 1 hf 3 [(0,496,[]),(1,496,[]),(3,496,[]),(7,496,[]),(0,15,[]),(16,15,[]),(48,15,[]),(112,15,[]),(240,15,[]),(511,0,[]),(1023,0,[])] ?_
 |refine dc 204 2 hf 12 [(0,262136,[]),(1,262136,[]),(3,262136,[]),(0,261191,[]),(8,261191,[]),(24,261191,[]),(0,261183,[]),(120,261127,[]),(248,261127,[]),(504,261127,[]),(0,25599,[]),(1024,25599,[]),(3072,25599,[]),(0,8191,[]),(8192,8191,[]),(31744,1023,[]),(64512,1023,[]),(130048,1023,[]),(262143,0,[]),(524287,0,[])] ?_
 |refine dc 204 3 hf 31 [(0,1016,[]),(1,1016,[]),(3,1016,[]),(0,71,[]),(8,71,[]),(24,71,[]),(0,63,[]),(120,7,[]),(248,7,[]),(504,7,[]),(1023,0,[]),(2047,0,[])] ?_
 |(refine Xm hr ?_;rintro rfl;with_reducible refine XI ?_)
 |exact Ym hr
 |fail)
abbrev Qk6:=g3.1
abbrev QpA:=g3.2.1
abbrev Qnk:=g3.2.2.1
abbrev QpB:=g3.2.2.2.1
abbrev Qqw:=g3.2.2.2.2.1
abbrev Qqx:=g3.2.2.2.2.2.1
abbrev Qjp:=g3.2.2.2.2.2.2.1
abbrev Qok:=g3.2.2.2.2.2.2.2.1
abbrev QjR:=g3.2.2.2.2.2.2.2.2.1
abbrev Qjc:=g3.2.2.2.2.2.2.2.2.2.1
abbrev QhK:=g3.2.2.2.2.2.2.2.2.2.2
attribute [instance] Qk6 QpA Qnk QpB Qqw Qqx Qjp Qok QjR Qjc QhK
end Go.Sx
