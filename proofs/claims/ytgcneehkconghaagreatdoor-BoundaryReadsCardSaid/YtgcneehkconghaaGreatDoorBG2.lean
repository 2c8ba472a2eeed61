import Derived.Test.YtgcneehkconghaaGreatDoorBF
set_option linter.all false
namespace Go.Sx
open Go.Proofs
set_option maxRecDepth 10000
set_option maxHeartbeats 100000000
theorem g2:(∀ N (a0:WX),OK (Qat N a0) 98 [.agg (e23 a0)] [] (λ r=>.v (.bool r)) λ r=>[])/\(∀ N (a0:List Int) (a1:Int) (a2:Int),OK (QcZ N a0 a1 a2) 331 [.isl 39 1 (a0.map e39),.v (.int .u64 a1),.v (.int .i64 a2)] [] (λ r=>.tup [.v (.int .i64 r.1),.v (.bool r.2)]) λ r=>[])/\(∀ N (a0:Wq) (a1:Int),OK (QgS N a0 a1) 146 [.agg (e32 a0),.v (.int .i64 a1)] [] (λ r=>.v (.int .i64 r)) λ r=>[])/\(∀ N (a0:Int),OK (Qc7 N a0) 327 [.v (.int .u64 a0)] [] (λ r=>.tup [.v (.int .u64 r.1),.v (.int .i64 r.2)]) λ r=>[])/\(∀ N (a0:UR),OK (QfN N a0) 147 [.agg (e70 a0)] [] (λ r=>.v (.bool r)) λ r=>[])/\(∀ N (a0:Uh) (a1:Uh) (a2:Int) (a3:Int) (a4:Int),OK (Qdc N a0 a1 a2 a3 a4) 43 [.agg (e38 a0),.agg (e38 a1),.v (.int .i64 a2),.v (.int .u64 a3),.v (.int .i64 a4)] [] (λ r=>.agg (XmB r)) λ r=>[])/\(∀ N (a0:Wx) (a1:WX),OK (Qfa N a0 a1) 299 [.agg (Xeo a0),.agg (e23 a1)] [] (λ r=>.v (.bool r)) λ r=>[])/\(∀ N (a0:Wx) (a1:Wx),OK (Qen N a0 a1) 302 [.agg (Xeo a0),.agg (Xeo a1)] [] (λ r=>.v (.bool r)) λ r=>[])/\(∀ N (a0:Uz),OK (QdG N a0) 226 [.agg (Kv a0)] [] (λ r=>.v (.bool r)) λ r=>[])/\(∀ N (a0:UE) (a1:Int),OK (Qeo N a0 a1) 291 [.agg (YT a0),.ept 1000000 0 1 0 0] [.arr true 39 1 [[.v (.int .u64 a1)]] 0] (λ r=>.v (.bool r)) λ r=>[.arr true 39 1 [[.v (.int .u64 a1)]] 0])/\(∀ N (a0:W6),OK (Qe0 N a0) 131 [.agg (Ym a0)] [] (λ r=>.v (.bool r)) λ r=>[]):=by
 refine ⟨λ N _=>rn Tryz.f98 [.tmp 2] [] 27 (by kernel_rfl) ?_,λ N _ _ _=>rn Tryz.f331 [.tmp 6,.tmp 7] [] 29 (by kernel_rfl) ?_,λ N _ _=>rn Tryz.f146 [.tmp 4] [] 21 (by kernel_rfl) ?_,λ N _=>rn Tryz.f327 [.tmp 2,.tmp 3] [] 9 (by kernel_rfl) ?_,λ N _=>rn Tryz.f147 [.tmp 2] [] 31 (by kernel_rfl) ?_,λ N _ _ _ _ _=>rn Tryz.f43 [.cell 10 105] [] 44 (by kernel_rfl) ?_,λ N _ _=>rn Tryz.f299 [.tmp 4] [] 8 (by kernel_rfl) ?_,λ N _ _=>rn Tryz.f302 [.tmp 4] [] 10 (by kernel_rfl) ?_,λ N _=>rn Tryz.f226 [.tmp 2] [] 7 (by kernel_rfl) ?_,λ N _ _=>rn Tryz.f291 [.tmp 3] [] 8 (by kernel_rfl) ?_,λ N _=>rn Tryz.f131 [.tmp 2] [] 21 (by kernel_rfl) ?_⟩<;>(rintro _ hw r hr C _ rfl hwf hf;simp only[Tryz.f98,Tryz.f331,Tryz.f146,Tryz.f327,Tryz.f147,Tryz.f43,Tryz.f299,Tryz.f302,Tryz.f226,Tryz.f291,Tryz.f131,Option.get!];(first|rw[Qat] at hr|rw[QcZ] at hr|rw[QgS] at hr|rw[Qc7] at hr|rw[QfN] at hr|rw[Qdc] at hr|rw[Qfa] at hr|rw[Qen] at hr|rw[QdG] at hr|rw[Qeo] at hr|rw[Qe0] at hr);repeat' first
 |(refine El.el hr ?_;intro hr)
 |(with_reducible intro h;refine Xw hr h ?_;intro hr)
 |with_reducible intro _
 |simp only[go_sem,simprocAttr,Zt]
 |(with_reducible first|apply Xg|apply Xf|apply Xo)
 |((first|with_reducible refine Yb hr (by assumption) ?_ ?_|(with_reducible refine X7 hr ?_ ?_;rotate_left;intro p;rotate_right));(·simp only[go_sem,simprocAttr]);intro hp hn hd hr;(try have Zt:=hd _ e98);(try simp only[go_sem,simprocAttr] at Zt))
 |(refine Xp ?_ ?_;·first|assumption|omega)
 |(refine Xn hr ?_;rintro rfl;with_reducible refine XF ?_)
 |exact Yj hr
 |fail)
@[reducible,instance] def QkT:=g2.1
@[reducible,instance] def Qnp:=g2.2.1
@[reducible,instance] def QoL:=g2.2.2.1
@[reducible,instance] def Qlh:=g2.2.2.2.1
@[reducible,instance] def Qmn:=g2.2.2.2.2.1
@[reducible,instance] def Qli:=g2.2.2.2.2.2.1
@[reducible,instance] def QkU:=g2.2.2.2.2.2.2.1
@[reducible,instance] def QkJ:=g2.2.2.2.2.2.2.2.1
@[reducible,instance] def Qk2:=g2.2.2.2.2.2.2.2.2.1
@[reducible,instance] def QkK:=g2.2.2.2.2.2.2.2.2.2.1
@[reducible,instance] def Qlj:=g2.2.2.2.2.2.2.2.2.2.2
theorem g1:(∀ N (a0:U7) (a1:Int),OK (Qac N a0 a1) 39 [.ept 1000000 0 2 0 0,.v (.int .i64 a1)] [.arr true 60 2 [[.isl 3 1 (a0.L.map e3),.v (.int .i64 a0.at_)]] 0] (λ r=>.v (.int .i64 r.1)) λ r=>[.arr true 60 2 [[.isl 3 1 (r.2.L.map e3),.v (.int .i64 r.2.at_)]] 0])/\(∀ N (a0:Int),OK (Qf3 N a0) 267 [.v (.int .i64 a0)] [] (λ r=>.v (.bool r)) λ r=>[])/\(∀ N (a0:Wo) (a1:Int) (a2:Int),OK (QeS N a0 a1 a2) 369 [.agg (e27 a0),.v (.int .i64 a1),.v (.int .i64 a2)] [] (λ r=>.v (.int .u64 r)) λ r=>[])/\(∀ N (a0:WV) (a1:Int),OK (Qd3 N a0 a1) 324 [.agg (Kg a0),.v (.int .u64 a1)] [] (λ r=>.agg (Kg r)) λ r=>[])/\(∀ N (a0:Int) (a1:Int) (a2:Int),OK (QbK N a0 a1 a2) 115 [.v (.int .i64 a0),.v (.int .u64 a1),.v (.int .u64 a2)] [] (λ r=>.tup [.agg (e80 r.1),.v (.bool r.2)]) λ r=>[])/\(∀ N (a0:Wq) (a1:Int),OK (QfZ N a0 a1) 215 [.agg (e32 a0),.v (.int .i64 a1)] [] (λ r=>.agg (e32 r)) λ r=>[])/\(∀ N (a0:WX),OK (Qbd N a0) 148 [.agg (e23 a0)] [] (λ r=>.v (.bool r)) λ r=>[])/\(∀ N (a0:Wx),OK (Qcy N a0) 343 [.agg (Xeo a0)] [] (λ r=>.v (.bool r)) λ r=>[])/\(∀ N (a0:Int),OK (Qf9 N a0) 364 [.v (.int .u64 a0)] [] (λ r=>.v (.bool r)) λ r=>[])/\(∀ N (a0:Int),OK (QcK N a0) 229 [.v (.int .u64 a0)] [] (λ r=>.v (.bool r)) λ r=>[])/\(∀ N (a0:Int),OK (QeZ N a0) 126 [.v (.int .i64 a0)] [] (λ r=>.v (.bool r)) λ r=>[]):=by
 refine ⟨λ N _ _=>rn Tryz.f39 [.tmp 4] [] 48 (by kernel_rfl) ?_,λ N _=>rn Tryz.f267 [.tmp 2] [] 9 (by kernel_rfl) ?_,λ N _ _ _=>rn Tryz.f369 [.tmp 6] [] 16 (by kernel_rfl) ?_,λ N _ _=>rn Tryz.f324 [.cell 4 232] [] 20 (by kernel_rfl) ?_,λ N _ _ _=>rn Tryz.f115 [.cell 6 80,.tmp 7] [] 29 (by kernel_rfl) ?_,λ N _ _=>rn Tryz.f215 [.cell 4 32] [] 25 (by kernel_rfl) ?_,λ N _=>rn Tryz.f148 [.tmp 2] [] 27 (by kernel_rfl) ?_,λ N _=>rn Tryz.f343 [.tmp 2] [] 11 (by kernel_rfl) ?_,λ N _=>rn Tryz.f364 [.tmp 2] [] 5 (by kernel_rfl) ?_,λ N _=>rn Tryz.f229 [.tmp 2] [] 6 (by kernel_rfl) ?_,λ N _=>rn Tryz.f126 [.tmp 2] [] 9 (by kernel_rfl) ?_⟩<;>(rintro _ hw r hr C _ rfl hwf hf;simp only[Tryz.f39,Tryz.f267,Tryz.f369,Tryz.f324,Tryz.f115,Tryz.f215,Tryz.f148,Tryz.f343,Tryz.f364,Tryz.f229,Tryz.f126,Option.get!];(first|rw[Qac] at hr|rw[Qf3] at hr|rw[QeS] at hr|rw[Qd3] at hr|rw[QbK] at hr|rw[QfZ] at hr|rw[Qbd] at hr|rw[Qcy] at hr|rw[Qf9] at hr|rw[QcK] at hr|rw[QeZ] at hr);repeat' first
 |(refine El.el hr ?_;intro hr)
 |(with_reducible intro h;refine Xw hr h ?_;intro hr)
 |with_reducible intro _
 |simp only[go_sem,simprocAttr,hl3,Zt,Wz,WM,Uv]
 |(with_reducible first|apply Xg|apply Xf|apply Xo|apply Xt|apply Xu)
 |((first|with_reducible refine Yb hr (by assumption) ?_ ?_|(with_reducible refine X7 hr ?_ ?_;rotate_left;intro p;rotate_right));(·simp only[go_sem,simprocAttr,Wz,WM,Uv]);intro hp hn hd hr;(try have hl3:=hd _ e3);(try simp only[go_sem,simprocAttr] at hl3);(try have Zt:=hd _ e98);(try simp only[go_sem,simprocAttr] at Zt))
 |(refine Xp ?_ ?_;·first|assumption|omega)
 |refine db 39 4 hf 14 [(0,496,[]),(1,496,[]),(3,496,[]),(7,496,[]),(0,15,[]),(16,15,[]),(48,15,[]),(112,15,[]),(240,15,[]),(511,0,[])] rfl rfl (by kernel_rfl) ?_ _
 |refine db 39 5 hf 24 [(0,240,[]),(1,240,[]),(3,240,[]),(7,240,[]),(0,15,[]),(16,15,[]),(48,15,[]),(112,15,[]),(255,0,[]),(511,0,[]),(1023,0,[])] rfl rfl (by kernel_rfl) ?_ _
 |refine db 215 1 hf 5 [(0,1022,[[320],[]]),(0,505,[[],[320]]),(2,505,[[],[320]]),(0,39,[[],[320]]),(8,39,[[],[320]]),(0,31,[[],[320]]),(56,7,[[],[320]]),(120,7,[[],[320]]),(248,7,[[],[320]]),(510,1,[[],[320]]),(1023,0,[[320],[]]),(2047,0,[]),(4095,0,[[128],[]])] rfl rfl (by kernel_rfl) ?_ _
 |(refine Xn hr ?_;rintro rfl;with_reducible refine XF ?_)
 |exact Yj hr
 |fail)
@[reducible,instance] def Qk3:=g1.1
@[reducible,instance] def Qnq:=g1.2.1
@[reducible,instance] def Qlk:=g1.2.2.1
@[reducible,instance] def Qnr:=g1.2.2.2.1
@[reducible,instance] def Qmo:=g1.2.2.2.2.1
@[reducible,instance] def Qoh:=g1.2.2.2.2.2.1
@[reducible,instance] def Qk4:=g1.2.2.2.2.2.2.1
@[reducible,instance] def QkL:=g1.2.2.2.2.2.2.2.1
@[reducible,instance] def QlO:=g1.2.2.2.2.2.2.2.2.1
@[reducible,instance] def QkF:=g1.2.2.2.2.2.2.2.2.2.1
@[reducible,instance] def Qll:=g1.2.2.2.2.2.2.2.2.2.2
instance QiI:∀ N (a0:List Wx),OK (Qav N a0) 161 [.isl 175 4 (a0.map XB)] [] (λ r=>.fsl 175 4 (r.map XB)) λ r=>[]:=by
 refine λ N a0=>⟨λ G hw r hr=>?_⟩
 rw[Qav] at hr
 obtain rfl:=WO hr
 obtain _|⟨x,l⟩:=a0
 refine YG λ a cap=>?_
 obtain _|a:=a
 all_goals
  refine Yc (fn:=Tryz.f161) (body:=(Tryz.f161.body).get!) (rs:=[.tmp 2]) 1000 [320] 8 (by kernel_rfl) (by kernel_rfl) (by kernel_rfl) (by kernel_rfl) (by kernel_rfl) (by simp) λ C _ hG hwf=>?_;subst hG;have hw2:=hwf;simp only[WfL,Wf,Ug,and_true,W7,Xen,Xm] at hw2;simp only[Tryz.f161,Option.get!]
  simp only[go_sem,simprocAttr]
  try refine ⟨by omega,?_⟩
  with_reducible refine XF ?_
  simp only[go_sem,simprocAttr]
instance Qie:∀ N (a0:List U2),OK (QaS N a0) 163 [.isl 98 3 (a0.map e98)] [] (λ r=>.fsl 98 3 (r.map e98)) λ r=>[]:=by
 refine λ N a0=>⟨λ G hw r hr=>?_⟩
 rw[QaS] at hr
 obtain rfl:=WO hr
 obtain _|⟨x,l⟩:=a0
 refine YG λ a cap=>?_
 obtain _|a:=a
 all_goals
  refine Yc (fn:=Tryz.f163) (body:=(Tryz.f163.body).get!) (rs:=[.tmp 2]) 1000 [320] 8 (by kernel_rfl) (by kernel_rfl) (by kernel_rfl) (by kernel_rfl) (by kernel_rfl) (by simp) λ C _ hG hwf=>?_;subst hG;have hw2:=hwf;simp only[WfL,Wf,Ug,and_true,W7,Xf3,Xm] at hw2;simp only[Tryz.f163,Option.get!]
  simp only[go_sem,simprocAttr]
  try refine ⟨by omega,?_⟩
  with_reducible refine XF ?_
  simp only[go_sem,simprocAttr]
instance QiJ:∀ N (a0:List US),OK (QaY N a0) 162 [.isl 115 3 (a0.map Zg)] [] (λ r=>.fsl 115 3 (r.map Zg)) λ r=>[]:=by
 refine λ N a0=>⟨λ G hw r hr=>?_⟩
 rw[QaY] at hr
 obtain rfl:=WO hr
 obtain _|⟨x,l⟩:=a0
 refine YG λ a cap=>?_
 obtain _|a:=a
 all_goals
  refine Yc (fn:=Tryz.f162) (body:=(Tryz.f162.body).get!) (rs:=[.tmp 2]) 1000 [320] 8 (by kernel_rfl) (by kernel_rfl) (by kernel_rfl) (by kernel_rfl) (by kernel_rfl) (by simp) λ C _ hG hwf=>?_;subst hG;have hw2:=hwf;simp only[WfL,Wf,Ug,and_true,W7,Xek,Xm] at hw2;simp only[Tryz.f162,Option.get!]
  simp only[go_sem,simprocAttr]
  try refine ⟨by omega,?_⟩
  with_reducible refine XF ?_
  simp only[go_sem,simprocAttr]
instance Qif:∀ N (a0:List W6),OK (Qbh N a0) 165 [.isl 117 3 (a0.map Ym)] [] (λ r=>.fsl 117 3 (r.map Ym)) λ r=>[]:=by
 refine λ N a0=>⟨λ G hw r hr=>?_⟩
 rw[Qbh] at hr
 obtain rfl:=WO hr
 obtain _|⟨x,l⟩:=a0
 refine YG λ a cap=>?_
 obtain _|a:=a
 all_goals
  refine Yc (fn:=Tryz.f165) (body:=(Tryz.f165.body).get!) (rs:=[.tmp 2]) 1000 [320] 8 (by kernel_rfl) (by kernel_rfl) (by kernel_rfl) (by kernel_rfl) (by kernel_rfl) (by simp) λ C _ hG hwf=>?_;subst hG;have hw2:=hwf;simp only[WfL,Wf,Ug,and_true,W7,Xel,Xm] at hw2;simp only[Tryz.f165,Option.get!]
  simp only[go_sem,simprocAttr]
  try refine ⟨by omega,?_⟩
  with_reducible refine XF ?_
  simp only[go_sem,simprocAttr]
instance QkB:∀ N (a0:List Int),OK (Qcx N a0) 164 [.isl 3 1 (a0.map e3)] [] (λ r=>.fsl 3 1 (r.map e3)) λ r=>[]:=by
 refine λ N a0=>⟨λ G hw r hr=>?_⟩
 rw[Qcx] at hr
 obtain rfl:=WO hr
 obtain _|⟨x,l⟩:=a0
 refine YG λ a cap=>?_
 obtain _|a:=a
 all_goals
  refine Yc (fn:=Tryz.f164) (body:=(Tryz.f164.body).get!) (rs:=[.tmp 2]) 1000 [320] 8 (by kernel_rfl) (by kernel_rfl) (by kernel_rfl) (by kernel_rfl) (by kernel_rfl) (by simp) λ C _ hG hwf=>?_;subst hG;have hw2:=hwf;simp only[WfL,Wf,Ug,and_true,W7,Xfc,Xm] at hw2;simp only[Tryz.f164,Option.get!]
  simp only[go_sem,simprocAttr]
  try refine ⟨by omega,?_⟩
  with_reducible refine XF ?_
  simp only[go_sem,simprocAttr]
end Go.Sx
