import Derived.Test.YtgbmffljpneflaaGreatDoorSF
set_option linter.all false
namespace Go.Sx
open Go.Proofs
set_option maxRecDepth 10000
set_option maxHeartbeats 100000000
def g1:(∀N a0 a1,OK (Qai N a0 a1) 16 [.ept 1000000 0 2 0 0,vi a1] [.arr true 49 2 [[s3 a0.L,vi a0.at_]] 0] (λr=>vi r.1) λr=>[.arr true 49 2 [[s3 r.2.L,vi r.2.at_]] 0])/\(∀N a0,OK (QhM N a0) 245 [vi a0] [] (λr=>.v (.bool r)) λr=>[])/\(∀N a0 a1 a2,OK (Qgv N a0 a1 a2) 345 [.agg (e27 a0),vi a1,vi a2] [] (λr=>vu r) λr=>[])/\(∀N a0 a1 a2,OK (QbI N a0 a1 a2) 84 [vi a0,vu a1,vu a2] [] (λr=>.tup [.agg (ZM r.1),.v (.bool r.2)]) λr=>[])/\(∀N a0,OK (Qc2 N a0) 291 [vu a0] [] (λr=>.tup [vu r.1,vi r.2]) λr=>[])/\(∀N a0 a1,OK (QhF N a0 a1) 178 [.agg (e32 a0),vi a1] [] (λr=>.agg (e32 r)) λr=>[])/\(∀N a0,OK (Qcn N a0) 261 [.agg (e23 a0)] [] (λr=>.v (.bool r)) λr=>[])/\(∀N a0,OK (QdN N a0) 347 [.agg (Xg3 a0)] [] (λr=>.v (.bool r)) λr=>[])/\(∀N a0,OK (QhV N a0) 327 [vu a0] [] (λr=>.v (.bool r)) λr=>[])/\(∀N a0,OK (QdX N a0) 212 [vu a0] [] (λr=>.v (.bool r)) λr=>[])/\(∀N a0,OK (QgA N a0) 123 [vi a0] [] (λr=>.v (.bool r)) λr=>[])/\(∀N a0,OK (Qak N a0) 335 [vi a0] [] (λr=>.tup []) λr=>[]):=by
 refine⟨λN _ _=>rk Tryz.f16 ?_,λN _=>rk Tryz.f245 ?_,λN _ _ _=>rk Tryz.f345 ?_,λN _ _ _=>rk Tryz.f84 ?_,λN _=>rk Tryz.f291 ?_,λN _ _=>rk Tryz.f178 ?_,λN _=>rk Tryz.f261 ?_,λN _=>rk Tryz.f347 ?_,λN _=>rk Tryz.f327 ?_,λN _=>rk Tryz.f212 ?_,λN _=>rk Tryz.f123 ?_,λN _=>rk Tryz.f335 ?_⟩<;>(rintro _ hw r hr C _ rfl hwf hf;simp only[Tryz.f16,Tryz.f245,Tryz.f345,Tryz.f84,Tryz.f291,Tryz.f178,Tryz.f261,Tryz.f347,Tryz.f327,Tryz.f212,Tryz.f123,Tryz.f335,Option.get!];(first|rw[Qai]at hr|rw[QhM]at hr|rw[Qgv]at hr|rw[QbI]at hr|rw[Qc2]at hr|rw[QhF]at hr|rw[Qcn]at hr|rw[QdN]at hr|rw[QhV]at hr|rw[QdX]at hr|rw[QgA]at hr|rw[Qak]at hr);repeat' first
 |(refine El.el hr ?_;clear hr;intro hr)
 |(with_reducible intro h;refine Xv hr h ?_;clear hr;intro hr)
 |with_reducible intro _
 |simp only[go_sem,simprocAttr,hl3,Kf,Wj,Wl,Ww]
 |(with_reducible first|apply Xi|apply Xh|apply Xo|apply Xr|apply Xs)
 |((first|with_reducible refine Yn hr ag ?_ ?_|(with_reducible refine Yj hr ?_ ?_;rotate_left;intro p;rotate_right));(·simp only[go_sem,simprocAttr,Wj,Wl,Ww]);intro hp hn hd hr;(try have hl3:=hd _ e3);(try simp only[go_sem,simprocAttr]at hl3);(try have Kf:=hd _ e78);(try simp only[go_sem,simprocAttr]at Kf))
 |(refine Xp ?_ ?_;.first|assumption|omega)
 |refine dc 16 4 hf 14 [(0,496,[]),(1,496,[]),(3,496,[]),(7,496,[]),(0,15,[]),(16,15,[]),(48,15,[]),(112,15,[]),(240,15,[]),(511,0,[])] ?_
 |refine dc 16 5 hf 24 [(0,240,[]),(1,240,[]),(3,240,[]),(7,240,[]),(0,15,[]),(16,15,[]),(48,15,[]),(112,15,[]),(255,0,[]),(511,0,[]),(1023,0,[])] ?_
 |refine dc 178 1 hf 5 [(0,1022,[[320],[]]),(0,505,[[],[320]]),(2,505,[[],[320]]),(0,39,[[],[320]]),(8,39,[[],[320]]),(0,31,[[],[320]]),(56,7,[[],[320]]),(120,7,[[],[320]]),(248,7,[[],[320]]),(510,1,[[],[320]]),(1023,0,[[320],[]]),(2047,0,[]),(4095,0,[[128],[]])] ?_
 |(refine Xm hr ?_;rintro rfl;with_reducible refine XI ?_)
 |exact Ym hr
 |fail)
abbrev Qk2:=g1.1
abbrev Qpz:=g1.2.1
abbrev Qma:=g1.2.2.1
abbrev Qoh:=g1.2.2.2.1
abbrev Qmb:=g1.2.2.2.2.1
abbrev Qqu:=g1.2.2.2.2.2.1
abbrev Qk3:=g1.2.2.2.2.2.2.1
abbrev Qjm:=g1.2.2.2.2.2.2.2.1
abbrev Qng:=g1.2.2.2.2.2.2.2.2.1
abbrev Qi9:=g1.2.2.2.2.2.2.2.2.2.1
abbrev Qmc:=g1.2.2.2.2.2.2.2.2.2.2.1
abbrev Qnh:=g1.2.2.2.2.2.2.2.2.2.2.2
attribute [instance] Qk2 Qpz Qma Qoh Qmb Qqu Qk3 Qjm Qng Qi9 Qmc Qnh
def g2:(∀N a0,OK (QaW N a0) 106 [.agg (e23 a0)] [] (λr=>.v (.bool r)) λr=>[])/\(∀N a0,OK (Qdu N a0) 164 [.agg (ZM a0)] [] (λr=>.v (.bool r)) λr=>[])/\(∀N a0 a1,OK (QiA N a0 a1) 163 [.agg (e32 a0),vi a1] [] (λr=>vi r) λr=>[])/\(∀N a0,OK (QcQ N a0) 250 [vu a0] [] (λr=>.tup [vu r.1,.v (.bool r.2)]) λr=>[])/\(∀N a0,OK (Qhq N a0) 175 [.agg (Xh9 a0)] [] (λr=>.v (.bool r)) λr=>[])/\(∀N a0 a1 a2 a3 a4,OK (Qfo N a0 a1 a2 a3 a4) 42 [.agg (e38 a0),.agg (e38 a1),vi a2,vu a3,vi a4] [] (λr=>.agg (Xqy r)) λr=>[])/\(∀N a0 a1,OK (QgP N a0 a1) 321 [.agg (Xg3 a0),.agg (e23 a1)] [] (λr=>.v (.bool r)) λr=>[])/\(∀N a0 a1,OK (QfY N a0 a1) 324 [.agg (Xg3 a0),.agg (Xg3 a1)] [] (λr=>.v (.bool r)) λr=>[])/\(∀N a0,OK (Qe6 N a0) 209 [.agg (VQ a0)] [] (λr=>.v (.bool r)) λr=>[])/\(∀N a0 a1,OK (QfZ N a0 a1) 260 [.agg (e76 a0),.ept 1000000 0 1 0 0] [.arr true 39 1 [[vu a1]] 0] (λr=>.v (.bool r)) λr=>[.arr true 39 1 [[vu a1]] 0])/\(∀N a0,OK (QgB N a0) 128 [.agg (e74 a0)] [] (λr=>.v (.bool r)) λr=>[])/\(∀N a0 a1,OK (Qet N a0 a1) 306 [vi a0,.ept 1000000 0 1 0 0] [.arr true 24 1 [[s39 a1]] 0] (λr=>s39 r.1) λr=>[.arr true 24 1 [[s39 r.2]] 0]):=by
 refine⟨λN _=>rk Tryz.f106 ?_,λN _=>rk Tryz.f164 ?_,λN _ _=>rk Tryz.f163 ?_,λN _=>rk Tryz.f250 ?_,λN _=>rk Tryz.f175 ?_,λN _ _ _ _ _=>rk Tryz.f42 ?_,λN _ _=>rk Tryz.f321 ?_,λN _ _=>rk Tryz.f324 ?_,λN _=>rk Tryz.f209 ?_,λN _ _=>rk Tryz.f260 ?_,λN _=>rk Tryz.f128 ?_,λN _ _=>rk Tryz.f306 ?_⟩<;>(rintro _ hw r hr C _ rfl hwf hf;simp only[Tryz.f106,Tryz.f164,Tryz.f163,Tryz.f250,Tryz.f175,Tryz.f42,Tryz.f321,Tryz.f324,Tryz.f209,Tryz.f260,Tryz.f128,Tryz.f306,Option.get!];(first|rw[QaW]at hr|rw[Qdu]at hr|rw[QiA]at hr|rw[QcQ]at hr|rw[Qhq]at hr|rw[Qfo]at hr|rw[QgP]at hr|rw[QfY]at hr|rw[Qe6]at hr|rw[QfZ]at hr|rw[QgB]at hr|rw[Qet]at hr);repeat' first
 |(refine El.el hr ?_;clear hr;intro hr)
 |(with_reducible intro h;refine Xv hr h ?_;clear hr;intro hr)
 |with_reducible intro _
 |simp only[go_sem,simprocAttr,Kf,Wj,Wl,Ww]
 |(with_reducible first|apply Xi|apply Xh|apply Xo)
 |((first|with_reducible refine Yn hr ag ?_ ?_|(with_reducible refine Yj hr ?_ ?_;rotate_left;intro p;rotate_right));(·simp only[go_sem,simprocAttr,Wj,Wl,Ww]);intro hp hn hd hr;(try have Kf:=hd _ e78);(try simp only[go_sem,simprocAttr]at Kf))
 |(refine Xp ?_ ?_;.first|assumption|omega)
 |(refine Xm hr ?_;rintro rfl;with_reducible refine XI ?_)
 |exact Ym hr
 |fail)
abbrev Qkl:=g2.1
abbrev Qoi:=g2.2.1
abbrev Qq6:=g2.2.2.1
abbrev Qni:=g2.2.2.2.1
abbrev Qoj:=g2.2.2.2.2.1
abbrev Qmd:=g2.2.2.2.2.2.1
abbrev Qkm:=g2.2.2.2.2.2.2.1
abbrev Qjn:=g2.2.2.2.2.2.2.2.1
abbrev Qk4:=g2.2.2.2.2.2.2.2.2.1
abbrev Qjo:=g2.2.2.2.2.2.2.2.2.2.1
abbrev Qme:=g2.2.2.2.2.2.2.2.2.2.2.1
abbrev Qkn:=g2.2.2.2.2.2.2.2.2.2.2.2
attribute [instance] Qkl Qoi Qq6 Qni Qoj Qmd Qkm Qjn Qk4 Qjo Qme Qkn
instance Qmf:∀N(a0:List Uz),OK (Qaq N a0) 55 [.isl 76 2 (a0.map e76)] [] (λr=>.fsl 76 2 (r.map e76)) λr=>[]:=by
 refineλN a0=>⟨λG hw r hr=>?_⟩
 rw[Qaq]at hr;obtain rfl:=WE hr;obtain _|⟨x,l⟩:=a0;refine Zd λa cap=>?_;obtain _|a:=a
 all_goals
  refine Yl (fn:=Tryz.f55) (body:=(Tryz.f55.body).get!) (rs:=[.tmp 2]) 1000 [320] 8 ac ac ac ac ac ab λC _ hG hwf=>?_;subst hG;have hw2:=hwf;simp only[WfL,Wf,Ug,and_true,Uk,Xjc,Xx]at hw2;simp only[Tryz.f55,Option.get!]
  simp only[go_sem,simprocAttr]
  try refine⟨aa,?_⟩
  with_reducible refine XI ?_
  simp only[go_sem,simprocAttr]
instance Qko:∀N(a0:List WQ),OK (Qao N a0) 141 [.isl 74 3 (a0.map e74)] [] (λr=>.fsl 74 3 (r.map e74)) λr=>[]:=by
 refineλN a0=>⟨λG hw r hr=>?_⟩
 rw[Qao]at hr;obtain rfl:=WE hr;obtain _|⟨x,l⟩:=a0;refine Zd λa cap=>?_;obtain _|a:=a
 all_goals
  refine Yl (fn:=Tryz.f141) (body:=(Tryz.f141.body).get!) (rs:=[.tmp 2]) 1000 [320] 8 ac ac ac ac ac ab λC _ hG hwf=>?_;subst hG;have hw2:=hwf;simp only[WfL,Wf,Ug,and_true,Uk,Xjb,Xx]at hw2;simp only[Tryz.f141,Option.get!]
  simp only[go_sem,simprocAttr]
  try refine⟨aa,?_⟩
  with_reducible refine XI ?_
  simp only[go_sem,simprocAttr]
instance Qnj:∀N(a0:List Int),OK (Qab N a0) 56 [.isl 39 1 (a0.map e39)] [] (λr=>.fsl 39 1 (r.map e39)) λr=>[]:=by
 refineλN a0=>⟨λG hw r hr=>?_⟩
 rw[Qab]at hr;obtain rfl:=WE hr;obtain _|⟨x,l⟩:=a0;refine Zd λa cap=>?_;obtain _|a:=a
 all_goals
  refine Yl (fn:=Tryz.f56) (body:=(Tryz.f56.body).get!) (rs:=[.tmp 2]) 1000 [320] 8 ac ac ac ac ac ab λC _ hG hwf=>?_;subst hG;have hw2:=hwf;simp only[WfL,Wf,Ug,and_true,Uk,Xi9,Xx]at hw2;simp only[Tryz.f56,Option.get!]
  simp only[go_sem,simprocAttr]
  try refine⟨aa,?_⟩
  with_reducible refine XI ?_
  simp only[go_sem,simprocAttr]
instance Qqv:∀N(a0:List Int),OK (QaF N a0) 140 [.isl 3 1 (a0.map e3)] [] (λr=>.fsl 3 1 (r.map e3)) λr=>[]:=by
 refineλN a0=>⟨λG hw r hr=>?_⟩
 rw[QaF]at hr;obtain rfl:=WE hr;obtain _|⟨x,l⟩:=a0;refine Zd λa cap=>?_;obtain _|a:=a
 all_goals
  refine Yl (fn:=Tryz.f140) (body:=(Tryz.f140.body).get!) (rs:=[.tmp 2]) 1000 [320] 8 ac ac ac ac ac ab λC _ hG hwf=>?_;subst hG;have hw2:=hwf;simp only[WfL,Wf,Ug,and_true,Uk,Xh8,Xx]at hw2;simp only[Tryz.f140,Option.get!]
  simp only[go_sem,simprocAttr]
  try refine⟨aa,?_⟩
  with_reducible refine XI ?_
  simp only[go_sem,simprocAttr]
instance Qk5:∀N(a0:List UA),OK (Qas N a0) 138 [.isl 72 3 (a0.map e72)] [] (λr=>.fsl 72 3 (r.map e72)) λr=>[]:=by
 refineλN a0=>⟨λG hw r hr=>?_⟩
 rw[Qas]at hr;obtain rfl:=WE hr;obtain _|⟨x,l⟩:=a0;refine Zd λa cap=>?_;obtain _|a:=a
 all_goals
  refine Yl (fn:=Tryz.f138) (body:=(Tryz.f138.body).get!) (rs:=[.tmp 2]) 1000 [320] 8 ac ac ac ac ac ab λC _ hG hwf=>?_;subst hG;have hw2:=hwf;simp only[WfL,Wf,Ug,and_true,Uk,Xja,Xx]at hw2;simp only[Tryz.f138,Option.get!]
  simp only[go_sem,simprocAttr]
  try refine⟨aa,?_⟩
  with_reducible refine XI ?_
  simp only[go_sem,simprocAttr]
instance Qkp:∀N(a0:List UG),OK (Qan N a0) 139 [.isl 78 3 (a0.map e78)] [] (λr=>.fsl 78 3 (r.map e78)) λr=>[]:=by
 refineλN a0=>⟨λG hw r hr=>?_⟩
 rw[Qan]at hr;obtain rfl:=WE hr;obtain _|⟨x,l⟩:=a0;refine Zd λa cap=>?_;obtain _|a:=a
 all_goals
  refine Yl (fn:=Tryz.f139) (body:=(Tryz.f139.body).get!) (rs:=[.tmp 2]) 1000 [320] 8 ac ac ac ac ac ab λC _ hG hwf=>?_;subst hG;have hw2:=hwf;simp only[WfL,Wf,Ug,and_true,Uk,Xjd,Xx]at hw2;simp only[Tryz.f139,Option.get!]
  simp only[go_sem,simprocAttr]
  try refine⟨aa,?_⟩
  with_reducible refine XI ?_
  simp only[go_sem,simprocAttr]
open Go.Proofs
set_option maxRecDepth 10000
set_option maxHeartbeats 4000000
theorem tyw:Xt Tryz.prog 345=some ⟨1,8,(.map none),.other⟩:=ac
attribute [go_sem] tyw
def Y7:XaN Tryz.prog 345=some (.i64,4):=by rfl
def XqF:Tryz.prog.underlying 345=some (.map 3 4):=by rfl
def Xbl(e:WQ):Bool:=!(e.V||(e.G==4294967295))
def frU(l:List WQ)(j:Nat):Bool:=match l[j]? with|some e=>Xbl e|none=>false
def Y9(xs:List Nat):List (Int×D):=xs.map λ(j:Nat)=>((j:Int),D.v (.bool true))
def Xm6{xs:List Nat}{k:Nat}(h:k∉xs):XaO (Y9 xs) (k:Int) (.v (.bool true))=Y9 (xs++[k]):=by
 induction xs with
 |nil=>rfl
 |cons x xs ih=>simp at h;have:¬((k:Int)=(x:Int)):=aa;simp_all[Y9,Us,XaO,Wk,this,IG]
def Xg5{xs:List Nat}{k:Nat}(h:xs.Nodup):Xac (Y9 xs) (k:Int)=Y9 (xs.filter (·!= k)):=by
 induction xs with
 |nil=>rfl
 |cons x xs ih=>
  simp at h;by_cases hx:k=x
  .subst hx;simp only[Y9,Us,Xac,if_true,List.filter_cons,bne_self_eq_false,U5,if_false];have:xs.filter (·!= k)=xs:=U9.2 λy hy=>by simp;rintro rfl;exact h.1 hy
   grind
  have h1:¬((k:Int)=(x:Int)):=aa;have h2:(x != k)=true:=by simp;omega
  simp_all[Y9,Us,Xac,Wk,h1,List.filter_cons,h2,if_true]
def lef(l:List WQ)(k:Nat):List Nat:=(List.range l.length).filter λj=>decide (k<=j)||frU l j
def XeC(l:List WQ):lef l 0=List.range l.length:=U9.2 λj _=>by simp
def Xdz(l:List WQ)(k:Nat):(lef l k).Nodup:=List.Pairwise.filter _ List.nodup_range
def Xg6{l:List WQ}{k:Nat}(h:frU l k=false):(lef l k).filter (·!= k)=lef l (k+1):=by unfold lef;rw[List.filter_filter];grind
def Xki{l:List WQ}{k:Nat}(h:frU l k=true):lef l k=lef l (k+1):=by unfold lef;grind
def Xm7(l:List WQ):lef l l.length=(List.range l.length).filter (frU l):=List.filter_congr λj hj=>by grind
def XeD(l:List WQ):(l.findIdx? Xbl=none/\lef l l.length=[])\/∃k,l.findIdx? Xbl=some k/\k∈lef l l.length/\∀j∈lef l l.length,k<=j:=by
 rw[Xm7];cases h:l.findIdx? Xbl with
 |none=>
  refine .inl ⟨rfl,?_⟩;refine List.filter_eq_nil_iff.2 λj hj=>?_;have hl:j<l.length:=by simpa using hj
  simp only[frU,Wc hl];simp_all
 |some k=>
  have⟨hk,h1,h2⟩:=UH.1 h;refine .inr ⟨k,rfl,Ux.2 ⟨by simpa using hk,by simp[frU,hk,h1]⟩,λj hj=>?_⟩;have⟨hj1,hj2⟩:=Ux.1 hj;rcases Un j k with hlt|hge
  .have:=h2 j hlt;simp only[frU,Wc (show j<l.length by omega)]at hj2;rw[hj2]at this;simp at this
  omega
theorem EntL.keys{P:Program}{M:Mem}{xs:List Nat}:∀{l:List MapEntry},EntL P M .i64 l (Y9 xs)->l.map (·.key)=xs.map λ(j:Nat)=>Value.int .i64 (j:Int):=by
 intro l;induction l generalizing xs with
 |nil=>simp[EntL,Y9,List.map_eq_nil_iff]
 |cons e l ih=>
  intro h;have⟨x,d,es',h1,h2,h3,h4⟩:=h;cases xs with
  |nil=>simp_all[Y9]
  |cons y ys=>obtain⟨⟨rfl,rfl⟩,rfl⟩:=h1;simp only[Us,h2,List.cons.injEq,true_and];exact ih h4
def XqG{P:Program}{M:Mem}{l:List WQ}{ents:List MapEntry}(h:EntL P M .i64 ents (Y9 (lef l l.length))){x:Int}(hx:Xpe (l.length:Int) ents x):x=(((l.findIdx? Xbl).getD l.length:Nat):Int):=by
 have hk:=h.keys;have⟨h1,h2,h3⟩:=hx;have mem:∀j,j∈lef l l.length->∃e∈ents,e.key=.int .i64 (j:Int):=λj hj=>by
  have:Value.int .i64 (j:Int)∈ents.map (·.key):=by rw[hk];exact UJ.2 ⟨j,hj,rfl⟩
  grind
 have mem2:∀e∈ents,∀n,e.key=.int .i64 n->∃j∈lef l l.length,n=(j:Int):=λe he n hn=>by have:e.key∈ents.map (·.key):=UJ.2 ⟨e,he,rfl⟩;grind
 rcases XeD l with⟨g1,g2⟩|⟨k,g1,g2,g3⟩
 .grind
 rw[g1];have⟨e,he,hn⟩:=mem k g2;have:=h3 e he _ hn;rcases h1 with h1|⟨e2,he2,hn2⟩
 .have hl:k<l.length:=by have:=(Ux.1 g2).1;simpa using this
  omega
 grind
def Xm8(l:List WQ):decide (((Y9 (lef l l.length)).length:Int)>0)=(l.findIdx? Xbl).isSome:=by
 rcases XeD l with⟨g1,g2⟩|⟨k,g1,g2,g3⟩
 .rw[g1,g2];rfl
 grind[Y9,Ug,Option.isSome_some]
def Q1(l:List WQ)(st:St):Prop:=∃v,st.n=54/\st.t 4=.omp 640 v/\st.s 640=some (v,.mp .i64 (Y9 (lef l l.length)))/\st.t 8=.v (.int .i64 (l.length:Int))
def U1(l:List WQ)(n:Nat)(st:St):Prop:=∃(k v w1:Nat),k<=l.length/\n=l.length-k/\st.n=54/\st.t 14=.v (.int .i64 (k:Int))/\st.t 13=.v (.int .i64 (l.length:Int))/\st.t 4=.omp 640 v/\st.s 640=some (v,.mp .i64 (Y9 (List.range k))) /\
 st.t 1=.ept 64 w1 1 0 0/\st.s 64=some (w1,.arr true 35 1 [[.isl 74 3 (l.map e74)]] 0)
def U2(l:List WQ)(n:Nat)(st:St):Prop:=∃(k v w1:Nat),k<=l.length/\n=l.length-k/\st.n=54/\st.t 23=.v (.int .i64 (k:Int))/\st.t 22=.v (.int .i64 (l.length:Int))/\st.t 21=.isl 74 3 (l.map e74)/\st.t 4=.omp 640 v/\st.s 640=some (v,.mp .i64 (Y9 (lef l k))) /\
 st.t 1=.ept 64 w1 1 0 0/\st.s 64=some (w1,.arr true 35 1 [[.isl 74 3 (l.map e74)]] 0)
def Qmg(G:Nat->Option (List D))(hw:GW G)(N:Nat)(a0:Wr)(r:Int×Bool)(hr:QiC N a0=some r):YP Tryz.prog G 278 [.agg (e35 a0)] [] (Eqs (.tup [.v (.int .i64 r.1),.v (.bool r.2)]) []):=by
 obtain rfl:=WE hr;have⟨l⟩:=a0;refine Xai (fn:=Tryz.f278) (body:=(Tryz.f278.body).get!) (rs:=[.tmp 2,.tmp 3]) [] 54 (by rfl) (by rfl) (by rfl) (by rfl) (by rfl) ab λC _ hG _ hwf a w hrel=>?_;have hlen:l.length<=140737488355328:=by have h:=hwf;simp only[WfL,Wf,e35,Ug]at h;exact h.1.1.2.1
 simp only[Tryz.f278,Option.get!];refine K8 6 _ none a w ?_;simp only[Xbv,Us,If,IG,Uh];refine XaY (Q:=Q1 l) ?_ [_,_,_,_,_] none a w ?_;rotate_left
 .refine Yi 1000 _ hrel ?_;simp only[go_sem,Nat.reduceAdd,Nat.reduceMul,Nat.reduceSub,Nat.reduceLT,Nat.reduceLeDiff,Nat.reduceEqDiff,Nat.reduceBEq,Nat.reduceBNe,Int.reduceBEq,Int.reduceBNe,Int.reduceEq,Int.reduceNe,Int.reduceMul,Int.reduceSub,Int.reduceLE,Int.reduceLT,Int.reduceGT,Int.reduceGE,Int.reduceNeg,Int.reduceAdd,Int.reduceToNat,reduceCtorEq,reduceIte,eq_self,Y7];refine LoopG.of (U1 l) 1000 l.length ?_ ?_ _
  .exact⟨0,4,1,II _,rfl,by rfl,by rfl,by rfl,by rfl,by rfl,by rfl,by rfl⟩
  rintro n st ⟨k,v,w1,hk,rfl,e0,e1,e2,e3,e4,e5,e6⟩;by_cases h:k<l.length
  .have hd:decide ((k:Int)<(l.length:Int))=true:=Wd aa;have hm:XaO (Y9 (List.range k)) (k:Int) (D.v (.bool true))=Y9 (List.range (k+1)):=by rw[Xm6 ab,List.range_succ]
   have hkl:(Y9 (List.range k)).length=k:=by simp[Y9]
   have hwI:wI ((k:Int)+1)=((k+1:Nat):Int):=by simp only[wI,IntKind.wrap,IntKind.bits,IntKind.signed];simp;omega
   simp only[go_sem,Nat.reduceAdd,Nat.reduceMul,Nat.reduceSub,Nat.reduceLT,Nat.reduceLeDiff,Nat.reduceEqDiff,Nat.reduceBEq,Nat.reduceBNe,Int.reduceBEq,Int.reduceBNe,Int.reduceEq,Int.reduceNe,Int.reduceMul,Int.reduceSub,Int.reduceLE,Int.reduceLT,Int.reduceGT,Int.reduceGE,Int.reduceNeg,Int.reduceAdd,Int.reduceToNat,reduceCtorEq,reduceIte,eq_self,Y7,e0,e1,e2,e3,e4,e5,e6,hd,hm,hkl,hwI];refine⟨aa,l.length-(k+1),aa,k+1,v,w1,aa,rfl,?_,?_,?_,?_,?_,?_,?_⟩<;>(first|rfl|(simp only[go_sem,Nat.reduceAdd,Nat.reduceMul,Nat.reduceSub,Nat.reduceLT,Nat.reduceLeDiff,Nat.reduceEqDiff,Nat.reduceBEq,Nat.reduceBNe,Int.reduceBEq,Int.reduceBNe,Int.reduceEq,Int.reduceNe,Int.reduceMul,Int.reduceSub,Int.reduceLE,Int.reduceLT,Int.reduceGT,Int.reduceGE,Int.reduceNeg,Int.reduceAdd,Int.reduceToNat,reduceCtorEq,reduceIte,eq_self,Y7,e0,e1,e2,e3,e4,e5,e6,hwI,hm];done)|(simp only[go_sem,Nat.reduceAdd,Nat.reduceMul,Nat.reduceSub,Nat.reduceLT,Nat.reduceLeDiff,Nat.reduceEqDiff,Nat.reduceBEq,Nat.reduceBNe,Int.reduceBEq,Int.reduceBNe,Int.reduceEq,Int.reduceNe,Int.reduceMul,Int.reduceSub,Int.reduceLE,Int.reduceLT,Int.reduceGT,Int.reduceGE,Int.reduceNeg,Int.reduceAdd,Int.reduceToNat,reduceCtorEq,reduceIte,eq_self,Y7,e0,e1,e2,e3,e4,e5,e6,hwI,hm];rfl))
  obtain rfl:k=l.length:=aa;have hd:decide ((l.length:Int)<(l.length:Int))=false:=We aa;simp only[go_sem,Nat.reduceAdd,Nat.reduceMul,Nat.reduceSub,Nat.reduceLT,Nat.reduceLeDiff,Nat.reduceEqDiff,Nat.reduceBEq,Nat.reduceBNe,Int.reduceBEq,Int.reduceBNe,Int.reduceEq,Int.reduceNe,Int.reduceMul,Int.reduceSub,Int.reduceLE,Int.reduceLT,Int.reduceGT,Int.reduceGE,Int.reduceNeg,Int.reduceAdd,Int.reduceToNat,reduceCtorEq,reduceIte,eq_self,Y7,e0,e1,e2,e3,e4,e5,e6,hd];refine LoopG.of (U2 l) 1000 l.length ?_ ?_ _
  .refine⟨0,v,w1,II _,rfl,?_,?_,?_,?_,?_,?_,?_,?_⟩<;>(first|rfl|(simp only[XeC,go_sem,Nat.reduceAdd,Nat.reduceMul,Nat.reduceSub,Nat.reduceLT,Nat.reduceLeDiff,Nat.reduceEqDiff,Nat.reduceBEq,Nat.reduceBNe,Int.reduceBEq,Int.reduceBNe,Int.reduceEq,Int.reduceNe,Int.reduceMul,Int.reduceSub,Int.reduceLE,Int.reduceLT,Int.reduceGT,Int.reduceGE,Int.reduceNeg,Int.reduceAdd,Int.reduceToNat,reduceCtorEq,reduceIte,eq_self,Y7,e0,e1,e2,e3,e4,e5,e6];done)|(simp only[XeC,go_sem,Nat.reduceAdd,Nat.reduceMul,Nat.reduceSub,Nat.reduceLT,Nat.reduceLeDiff,Nat.reduceEqDiff,Nat.reduceBEq,Nat.reduceBNe,Int.reduceBEq,Int.reduceBNe,Int.reduceEq,Int.reduceNe,Int.reduceMul,Int.reduceSub,Int.reduceLE,Int.reduceLT,Int.reduceGT,Int.reduceGE,Int.reduceNeg,Int.reduceAdd,Int.reduceToNat,reduceCtorEq,reduceIte,eq_self,Y7,e0,e1,e2,e3,e4,e5,e6];rfl))
  clear e0 e1 e2 e3 e4 e5 e6 hk h hd;rintro n st ⟨k,v,w1,hk,rfl,e0,e1,e2,e3,e4,e5,e6,e7⟩;by_cases h:k<l.length
  .have hd:decide ((k:Int)<(l.length:Int))=true:=Wd aa;have hwI:wI ((k:Int)+1)=((k+1:Nat):Int):=by simp only[wI,IntKind.wrap,IntKind.bits,IntKind.signed];simp;omega
   have hg:(l.map e74).getD k []=e74 l[k]:=by simp[h]
   have h0:(0:Int)<=(k:Int):=aa;have h1:(k:Int)<(l.length:Int):=aa;cases hL:l[k].V with
   |true=>
    have hf:frU l k=false:=by simp[frU,h,Xbl,hL]
    have hm:Xac (Y9 (lef l k)) (k:Int)=Y9 (lef l (k+1)):=by rw[Xg5 (Xdz l k),Xg6 hf]
    simp only[go_sem,Nat.reduceAdd,Nat.reduceMul,Nat.reduceSub,Nat.reduceLT,Nat.reduceLeDiff,Nat.reduceEqDiff,Nat.reduceBEq,Nat.reduceBNe,Int.reduceBEq,Int.reduceBNe,Int.reduceEq,Int.reduceNe,Int.reduceMul,Int.reduceSub,Int.reduceLE,Int.reduceLT,Int.reduceGT,Int.reduceGE,Int.reduceNeg,Int.reduceAdd,Int.reduceToNat,reduceCtorEq,reduceIte,eq_self,Y7,e0,e1,e2,e3,e4,e5,e6,e7,hd,hm,hwI,hg,h0,h1,hL];refine⟨l.length-(k+1),aa,k+1,v,w1,aa,rfl,?_,?_,?_,?_,?_,?_,?_,?_⟩<;>(first|rfl|(simp only[go_sem,Nat.reduceAdd,Nat.reduceMul,Nat.reduceSub,Nat.reduceLT,Nat.reduceLeDiff,Nat.reduceEqDiff,Nat.reduceBEq,Nat.reduceBNe,Int.reduceBEq,Int.reduceBNe,Int.reduceEq,Int.reduceNe,Int.reduceMul,Int.reduceSub,Int.reduceLE,Int.reduceLT,Int.reduceGT,Int.reduceGE,Int.reduceNeg,Int.reduceAdd,Int.reduceToNat,reduceCtorEq,reduceIte,eq_self,Y7,e0,e1,e2,e3,e4,e5,e6,e7,hwI,hm];done)|(simp only[go_sem,Nat.reduceAdd,Nat.reduceMul,Nat.reduceSub,Nat.reduceLT,Nat.reduceLeDiff,Nat.reduceEqDiff,Nat.reduceBEq,Nat.reduceBNe,Int.reduceBEq,Int.reduceBNe,Int.reduceEq,Int.reduceNe,Int.reduceMul,Int.reduceSub,Int.reduceLE,Int.reduceLT,Int.reduceGT,Int.reduceGE,Int.reduceNeg,Int.reduceAdd,Int.reduceToNat,reduceCtorEq,reduceIte,eq_self,Y7,e0,e1,e2,e3,e4,e5,e6,e7,hwI,hm];rfl))
   |false=>
    cases hG:(l[k].G==4294967295)with
    |true=>
     have hf:frU l k=false:=by simp only[frU,h,Wc,Xbl,hL,hG];rfl
     have hm:Xac (Y9 (lef l k)) (k:Int)=Y9 (lef l (k+1)):=by rw[Xg5 (Xdz l k),Xg6 hf]
     simp only[go_sem,Nat.reduceAdd,Nat.reduceMul,Nat.reduceSub,Nat.reduceLT,Nat.reduceLeDiff,Nat.reduceEqDiff,Nat.reduceBEq,Nat.reduceBNe,Int.reduceBEq,Int.reduceBNe,Int.reduceEq,Int.reduceNe,Int.reduceMul,Int.reduceSub,Int.reduceLE,Int.reduceLT,Int.reduceGT,Int.reduceGE,Int.reduceNeg,Int.reduceAdd,Int.reduceToNat,reduceCtorEq,reduceIte,eq_self,Y7,e0,e1,e2,e3,e4,e5,e6,e7,hd,hm,hwI,hg,h0,h1,hL,hG];refine⟨l.length-(k+1),aa,k+1,v,w1,aa,rfl,?_,?_,?_,?_,?_,?_,?_,?_⟩<;>(first|rfl|(simp only[go_sem,Nat.reduceAdd,Nat.reduceMul,Nat.reduceSub,Nat.reduceLT,Nat.reduceLeDiff,Nat.reduceEqDiff,Nat.reduceBEq,Nat.reduceBNe,Int.reduceBEq,Int.reduceBNe,Int.reduceEq,Int.reduceNe,Int.reduceMul,Int.reduceSub,Int.reduceLE,Int.reduceLT,Int.reduceGT,Int.reduceGE,Int.reduceNeg,Int.reduceAdd,Int.reduceToNat,reduceCtorEq,reduceIte,eq_self,Y7,e0,e1,e2,e3,e4,e5,e6,e7,hwI,hm];done)|(simp only[go_sem,Nat.reduceAdd,Nat.reduceMul,Nat.reduceSub,Nat.reduceLT,Nat.reduceLeDiff,Nat.reduceEqDiff,Nat.reduceBEq,Nat.reduceBNe,Int.reduceBEq,Int.reduceBNe,Int.reduceEq,Int.reduceNe,Int.reduceMul,Int.reduceSub,Int.reduceLE,Int.reduceLT,Int.reduceGT,Int.reduceGE,Int.reduceNeg,Int.reduceAdd,Int.reduceToNat,reduceCtorEq,reduceIte,eq_self,Y7,e0,e1,e2,e3,e4,e5,e6,e7,hwI,hm];rfl))
    |false=>
     have hf:frU l k=true:=by simp only[frU,h,Wc,Xbl,hL,hG];rfl
     have hm:Y9 (lef l k)=Y9 (lef l (k+1)):=by rw[Xki hf]
     rw[hm]at e5;simp only[go_sem,Nat.reduceAdd,Nat.reduceMul,Nat.reduceSub,Nat.reduceLT,Nat.reduceLeDiff,Nat.reduceEqDiff,Nat.reduceBEq,Nat.reduceBNe,Int.reduceBEq,Int.reduceBNe,Int.reduceEq,Int.reduceNe,Int.reduceMul,Int.reduceSub,Int.reduceLE,Int.reduceLT,Int.reduceGT,Int.reduceGE,Int.reduceNeg,Int.reduceAdd,Int.reduceToNat,reduceCtorEq,reduceIte,eq_self,Y7,e0,e1,e2,e3,e4,e5,e6,e7,hd,hwI,hg,h0,h1,hL,hG];refine⟨l.length-(k+1),aa,k+1,v,w1,aa,rfl,?_,?_,?_,?_,?_,?_,?_,?_⟩<;>(first|rfl|(simp only[go_sem,Nat.reduceAdd,Nat.reduceMul,Nat.reduceSub,Nat.reduceLT,Nat.reduceLeDiff,Nat.reduceEqDiff,Nat.reduceBEq,Nat.reduceBNe,Int.reduceBEq,Int.reduceBNe,Int.reduceEq,Int.reduceNe,Int.reduceMul,Int.reduceSub,Int.reduceLE,Int.reduceLT,Int.reduceGT,Int.reduceGE,Int.reduceNeg,Int.reduceAdd,Int.reduceToNat,reduceCtorEq,reduceIte,eq_self,Y7,e0,e1,e2,e3,e4,e5,e6,e7,hwI];done)|(simp only[go_sem,Nat.reduceAdd,Nat.reduceMul,Nat.reduceSub,Nat.reduceLT,Nat.reduceLeDiff,Nat.reduceEqDiff,Nat.reduceBEq,Nat.reduceBNe,Int.reduceBEq,Int.reduceBNe,Int.reduceEq,Int.reduceNe,Int.reduceMul,Int.reduceSub,Int.reduceLE,Int.reduceLT,Int.reduceGT,Int.reduceGE,Int.reduceNeg,Int.reduceAdd,Int.reduceToNat,reduceCtorEq,reduceIte,eq_self,Y7,e0,e1,e2,e3,e4,e5,e6,e7,hwI];rfl))
  obtain rfl:k=l.length:=aa;have hd:decide ((l.length:Int)<(l.length:Int))=false:=We aa;simp only[go_sem,Nat.reduceAdd,Nat.reduceMul,Nat.reduceSub,Nat.reduceLT,Nat.reduceLeDiff,Nat.reduceEqDiff,Nat.reduceBEq,Nat.reduceBNe,Int.reduceBEq,Int.reduceBNe,Int.reduceEq,Int.reduceNe,Int.reduceMul,Int.reduceSub,Int.reduceLE,Int.reduceLT,Int.reduceGT,Int.reduceGE,Int.reduceNeg,Int.reduceAdd,Int.reduceToNat,reduceCtorEq,reduceIte,eq_self,Y7,e0,e1,e2,e3,e4,e5,e6,e7,hd];refine⟨v,?_,?_,?_,?_⟩<;>(first|rfl|(simp only[go_sem,Nat.reduceAdd,Nat.reduceMul,Nat.reduceSub,Nat.reduceLT,Nat.reduceLeDiff,Nat.reduceEqDiff,Nat.reduceBEq,Nat.reduceBNe,Int.reduceBEq,Int.reduceBNe,Int.reduceEq,Int.reduceNe,Int.reduceMul,Int.reduceSub,Int.reduceLE,Int.reduceLT,Int.reduceGT,Int.reduceGE,Int.reduceNeg,Int.reduceAdd,Int.reduceToNat,reduceCtorEq,reduceIte,eq_self,Y7,e0,e1,e2,e3,e4,e5,e6,e7];done)|(simp only[go_sem,Nat.reduceAdd,Nat.reduceMul,Nat.reduceSub,Nat.reduceLT,Nat.reduceLeDiff,Nat.reduceEqDiff,Nat.reduceBEq,Nat.reduceBNe,Int.reduceBEq,Int.reduceBNe,Int.reduceEq,Int.reduceNe,Int.reduceMul,Int.reduceSub,Int.reduceLE,Int.reduceLT,Int.reduceGT,Int.reduceGE,Int.reduceNeg,Int.reduceAdd,Int.reduceToNat,reduceCtorEq,reduceIte,eq_self,Y7,e0,e1,e2,e3,e4,e5,e6,e7];rfl))
 rintro st a w hrel ⟨v,q1,q2,q3,q4⟩;have⟨h1,h2,M,β,h0,h3,I⟩:=id hrel;have m4:=h3 4;have m8:=h3 8;rw[q2]at m4;rw[q4]at m8;have⟨b,cb,hb,he⟩:=m4;have⟨x0,hx0,hob⟩:=I.obs 640 v _ q3;obtain rfl:some (b,cb)=x0:=by simp_all
 obtain⟨rfl,l1,l2,ents,clock,g3,g4,g5,g6⟩:=hob;have hkeys:∀e∈ents.toList,∃n,e.key=.int .i64 n:=λe hee=>by have:e.key∈ents.toList.map (·.key):=UJ.2 ⟨e,hee,rfl⟩;grind[g4.keys]
 refine XjH XqF h1 (by simp_all) ae he m8.1 g3 g5 g6 hkeys ?_;intro a' w' x hd' hs' hm' hf' hmin hsame;have hx:=XqG g4 hmin;have hle:0<=x/\x<=l.length:=⟨aa,hmin.2.1⟩
 have hr2:=hrel.same hsame hd' hs' (t':=λi=>if i=4 then .omp 640 v else if i=8 then .v (.int .i64 x)else .any) (λM β hall i=>by
  by_cases h4:i=4
  .grind
  .rw[Wk h4]
   by_cases h8:i=8
   .subst h8
    rw[Wp rfl,hf']
    simp only[Rep]
    exact⟨trivial,by rw[hx];exact J4 (by simp only[Xx];omega)⟩
   simp[Wk,h8,Rep])
 refine Yi 1000 _ hr2 ?_;have hl:=Xm8 l;subst hx;simp only[go_sem,Nat.reduceAdd,Nat.reduceMul,Nat.reduceSub,Nat.reduceLT,Nat.reduceLeDiff,Nat.reduceEqDiff,Nat.reduceBEq,Nat.reduceBNe,Int.reduceBEq,Int.reduceBNe,Int.reduceEq,Int.reduceNe,Int.reduceMul,Int.reduceSub,Int.reduceLE,Int.reduceLT,Int.reduceGT,Int.reduceGE,Int.reduceNeg,Int.reduceAdd,Int.reduceToNat,reduceCtorEq,reduceIte,eq_self,Y7,q1,q3];with_reducible refine XI ?_
 rw[hl];simp only[go_sem,Nat.reduceAdd,Nat.reduceMul,Nat.reduceSub,Nat.reduceLT,Nat.reduceLeDiff,Nat.reduceEqDiff,Nat.reduceBEq,Nat.reduceBNe,Int.reduceBEq,Int.reduceBNe,Int.reduceEq,Int.reduceNe,Int.reduceMul,Int.reduceSub,Int.reduceLE,Int.reduceLT,Int.reduceGT,Int.reduceGE,Int.reduceNeg,Int.reduceAdd,Int.reduceToNat,reduceCtorEq,reduceIte,eq_self];exact⟨rfl,rfl⟩
@[reducible,instance] def Qrh(N:Nat)(a0:Wr):=OK.mk λG hw r hr=>Qmg G hw N a0 r hr
end Go.Sx
