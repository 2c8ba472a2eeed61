import Derived.Test.YtcclgbgphjofaaaGreatHF
set_option linter.all false
namespace Go.Sx
open Go.Proofs
set_option maxRecDepth 10000
set_option maxHeartbeats 100000000
def g3:(∀N a0,OK (Qf5 N a0) 12 [.ept 1000000 0 2 0 0] [.arr true 66 2 [[s3 a0.L,vi a0.at_]] 0] (λr=>.v (.bool r)) λr=>[.arr true 66 2 [[s3 a0.L,vi a0.at_]] 0])/\(∀N a0 a1 a2,OK (QdA N a0 a1 a2) 194 [s55 a0,vu a1,vi a2] [] (λr=>.tup [vi r.1,.v (.bool r.2)]) λr=>[])/\(∀N a0,OK (QdJ N a0) 200 [vu a0] [] (λr=>.tup [vu r.1,.v (.bool r.2)]) λr=>[])/\(∀N a0,OK (Qaa N a0) 76 [vi a0] [] (λr=>.tup [.agg (e38 r.1),vu r.2.1,vi r.2.2]) λr=>[])/\(∀N a0 a1 a2,OK (Qgy N a0 a1 a2) 207 [.agg (e35 a0),vi a1,.agg (K2 a2)] [] (λr=>.agg (e35 r)) λr=>[])/\(∀N a0 a1 a2 a3,OK (Qei N a0 a1 a2 a3) 88 [.agg (e42 a0),vu a1,vi a2,vu a3] [] (λr=>.agg (e42 r)) λr=>[])/\(∀N a0,OK (Qc8 N a0) 241 [.agg (XhR a0)] [] (λr=>.v (.bool r)) λr=>[])/\(∀N a0 a1 a2,OK (QfE N a0 a1 a2) 189 [s55 a0,vu a1,vi a2] [] (λr=>.tup [vi r.1,.v (.bool r.2)]) λr=>[])/\(∀N a0,OK (Qeq N a0) 219 [vu a0] [] (λr=>.v (.bool r)) λr=>[])/\(∀N a0 a1,OK (QdP N a0 a1) 172 [.agg (Xn5 a0),vi a1] [] (λr=>Zd r) λr=>[])/\(∀N a1,OK (Qbq N a1) 113 [.nsl,vi a1] [] (λr=>.fsl 55 1 (r.map e55)) λr=>[]):=by
 refine⟨λN _=>rk Tryz.f12 ?_,λN _ _ _=>rk Tryz.f194 ?_,λN _=>rk Tryz.f200 ?_,λN _=>rk Tryz.f76 ?_,λN _ _ _=>rk Tryz.f207 ?_,λN _ _ _ _=>rk Tryz.f88 ?_,λN _=>rk Tryz.f241 ?_,λN _ _ _=>rk Tryz.f189 ?_,λN _=>rk Tryz.f219 ?_,λN _ _=>rk Tryz.f172 ?_,λN _=>rq Tryz.f113 [1408] ?_⟩<;>(rintro _ hw r hr C _ rfl hwf hf;simp only[Tryz.f12,Tryz.f194,Tryz.f200,Tryz.f76,Tryz.f207,Tryz.f88,Tryz.f241,Tryz.f189,Tryz.f219,Tryz.f172,Tryz.f113,Option.get!];(first|rw[Qf5]at hr|rw[QdA]at hr|rw[QdJ]at hr|rw[Qaa]at hr|rw[Qgy]at hr|rw[Qei]at hr|rw[Qc8]at hr|rw[QfE]at hr|rw[Qeq]at hr|rw[QdP]at hr|rw[Qbq]at hr);repeat' first
 |(refine El.el hr ?_;intro hr)
 |(with_reducible intro h;refine XH hr h ?_;intro hr)
 |with_reducible intro _
 |simp only[go_sem,simprocAttr,X2,VP,Km,Zx,Wx,WR,UX]
 |(with_reducible first|apply Xk|apply Xj|apply XA|apply XF|apply XG)
 |((first|with_reducible refine Y1 hr ag ?_ ?_|(with_reducible refine YN hr ?_ ?_;rotate_left;intro p;rotate_right));(·simp only[go_sem,simprocAttr,Wx,WR,UX]);intro hp hn hd hr;(try have X2:=hd _ e55);(try simp only[go_sem,simprocAttr]at X2);(try have VP:=hd _ e86);(try simp only[go_sem,simprocAttr]at VP);(try have Km:=hd _ XaR);(try simp only[go_sem,simprocAttr]at Km);(try have Zx:=hd _ K2);(try simp only[go_sem,simprocAttr]at Zx))
 |(refine XB ?_ ?_;.first|assumption|omega)
 |refine dc 12 1 hf 3 [(0,496,[]),(1,496,[]),(3,496,[]),(7,496,[]),(0,15,[]),(16,15,[]),(48,15,[]),(112,15,[]),(240,15,[]),(511,0,[]),(1023,0,[])] ?_
 |refine dc 172 2 hf 12 [(0,262136,[]),(1,262136,[]),(3,262136,[]),(0,261191,[]),(8,261191,[]),(24,261191,[]),(0,261183,[]),(120,261127,[]),(248,261127,[]),(504,261127,[]),(0,25599,[]),(1024,25599,[]),(3072,25599,[]),(0,8191,[]),(8192,8191,[]),(31744,1023,[]),(64512,1023,[]),(130048,1023,[]),(262143,0,[]),(524287,0,[])] ?_
 |refine dc 172 3 hf 31 [(0,1016,[]),(1,1016,[]),(3,1016,[]),(0,71,[]),(8,71,[]),(24,71,[]),(0,63,[]),(120,7,[]),(248,7,[]),(504,7,[]),(1023,0,[]),(2047,0,[])] ?_
 |(refine Xu hr ?_;rintro rfl;with_reducible refine X4 ?_)
 |exact Za hr
 |exact Yb hr
 |(apply Yc;assumption)
 |fail)
abbrev Qjo:=g3.1
abbrev Qm3:=g3.2.1
abbrev Qle:=g3.2.2.1
abbrev Qlf:=g3.2.2.2.1
abbrev QnI:=g3.2.2.2.2.1
abbrev QnJ:=g3.2.2.2.2.2.1
abbrev Qh8:=g3.2.2.2.2.2.2.1
abbrev Ql3:=g3.2.2.2.2.2.2.2.1
abbrev Qiu:=g3.2.2.2.2.2.2.2.2.1
abbrev QhT:=g3.2.2.2.2.2.2.2.2.2.1
abbrev QgD:=g3.2.2.2.2.2.2.2.2.2.2
attribute [instance] Qjo Qm3 Qle Qlf QnI QnJ Qh8 Ql3 Qiu QhT QgD
end Go.Sx
