import Derived.Test.YtokkmapiallffaaGreatDoorKG20
set_option linter.all false
namespace Go.Sx
open Go.Proofs Tryz
set_option maxRecDepth 10000
set_option maxHeartbeats 100000000
def Xtk{w:World}{e:Int}(he:e ≠ 0):CallsIn Fence.wide 0 prog 58 ⟨[.int .i64 e]⟩ w λen w'=>w' = w /\ en = .panicked [⟨.iface 132 (.agg ⟨[.int .i64 e]⟩),false,false⟩]:=by
 refine callsIn_of_wp (fn:=f58) (c:=f58.body.get!) ae ae trivial ?_;have hbd:(Instr.build 132 #[(0,.int .i64 e)]).run prog w = .ok (.agg ⟨[.int .i64 e]⟩) w:=by kernel_rfl
 have hmk:(Instr.makeInterface 132 (.agg ⟨[.int .i64 e]⟩)).run prog w = .ok (.iface 132 (.agg ⟨[.int .i64 e]⟩)) w:=by kernel_rfl
 have hpn:(Instr.panic (.iface 132 (.agg ⟨[.int .i64 e]⟩))).run prog w = .halt (.panic (.iface 132 (.agg ⟨[.int .i64 e]⟩))) w:=rfl;simp only [f58,Option.get!];refine wpIn_seq (wpIn_region_list (Q:=_) ?_);refine Vq (r:=none) rfl (v:=.int .i64 e) (w':=w) (by simp [execOp,go_sem,Act.eval]) ?_;refine Vq (r:=none) rfl (v:=.bool true) (w':=w) (by simp [execOp,go_sem,Act.eval,Act.put];exact he) ?_;refine wpListIn_nil ?_;show Code.wpIn _ _ _ _ _ _ _;refine wpIn_cond (t:=true) (by simp [Act.eval,Act.put,go_sem]) ?_;refine wpIn_region_list (Q:=_) ?_;refine Vq (r:=none) rfl (v:=.int .i64 e) (w':=w) (by simp [execOp,go_sem,Act.eval,Act.put]) ?_;refine Vq (r:=none) rfl (v:=.agg ⟨[.int .i64 e]⟩) (w':=w) (by simp [execOp,go_sem,Act.eval,Act.put,hbd]) ?_;refine Vq (r:=none) rfl (v:=.iface 132 (.agg ⟨[.int .i64 e]⟩)) (w':=w) (by simp [execOp,go_sem,Act.eval,Act.put,hmk]) ?_;refine wpListIn_plain rfl λK hK=>⟨λ_ _=>trivial,?_⟩
 rw [show(fz none).round = none from rfl,Oper.semAt_none];simp [execOp,go_sem,Act.eval,Act.put,hpn,Oper.uponIn];exact⟨rfl,rfl,rfl⟩
def Rel.putV{P:Program}{C:Cx}{st:St}{a:Act}{w:World}(hr:Rel P C st a w)(dst:Option Nat){d:D}{v:Value}(hv:∀M β,Rep P M β d v):Rel P C (nx st (XH dst st.n) d [] st.n (st.k + 1)) (a.put dst v) w:=by obtain⟨h1,h2,M,β,h0,h3,I⟩:=hr;exact Rel.put (u:=[]) h1 h2 h0 h3 (MLe.refl _) (BLe.refl _) (I.mono λv hv=>by show v < st.k + 1;have:v < st.k:=hv;omega) (hv _ _)
def Xpl{P:Program}{n:Nat}{Q:Exit → Act → List Frame → World → Prop}{ops:Array Oper}{i:Nat}{o:Oper}{rest:List Nat}{a:Act}{cs cs':List Frame}{w:World}{x:Value}(ho:ops[i]? = some o)(hg:o.guard = none)(hop:(execOp a.eval o).run P w = .ok .recover w)(hr:recoverD cs = some (x,cs') \/ (recoverD cs = none /\ x = .nilIface /\ cs' = cs))(k:wpOpsSIn Fence.wide n P ops Q rest (a.put o.dst x) cs' w):wpOpsSIn Fence.wide n P ops Q (i :: rest) a cs w:=by
 have hw:Region.wanted o (yielded ops a.tmps) = true:=by unfold Region.wanted;rw [hg]
 unfold wpOpsSIn;simp only [ho,hw,if_true,hop];refine⟨λ_ _=>trivial,?_⟩;rcases hr with e|⟨e,rfl,rfl⟩ <;> rw [e] <;> exact k
def Xpm{P:Program}{n:Nat}{Q:Exit → Act → List Frame → World → Prop}{ops:Array Oper}{i:Nat}{o:Oper}{rest:List Nat}{a:Act}{cs:List Frame}{w:World}{x:Value}(ho:ops[i]? = some o)(hg:o.guard = none)(hop:(execOp a.eval o).run P w = .ok (.value x) w)(k:wpOpsSIn Fence.wide n P ops Q rest (a.put o.dst x) cs w):wpOpsSIn Fence.wide n P ops Q (i :: rest) a cs w:=by
 have hw:Region.wanted o (yielded ops a.tmps) = true:=by unfold Region.wanted;rw [hg]
 unfold wpOpsSIn;simp only [ho,hw,if_true,hop];exact⟨λ_ _=>trivial,k⟩
def Xu3{C:Cx}{s:Heap}{k:Nat}{M:Mem}{β:Loc}{w:World}{caps:List D}{vb:List Value}(u u':FrameMode)(x:Value)(d:D)(b:Bool)(off m:Nat)(K:D → Heap → Nat → Prop)(hI:U7 prog C s (· < k) M β w)(hvs:RepL prog M β caps vb)(hcl:caps.length ≤ 23)(hu:∀c₀ cs,c₀.mode = u → (recoverD (c₀ :: cs) = some (x,{c₀ with mode:=u'} :: cs)) \/ (recoverD (c₀ :: cs) = none /\ x = .nilIface /\ u' = u))(hx:∀M β,Rep prog M β d x)(hne:(binOp .neq 20 x .nilIface).run prog w = .ok (.bool b) w)(hng:(eqGuard .neq 20 (.tmp 9) (.const .nilIface) x .nilIface).run prog w = .ok () w)(hrun:∀y,∀st,st.n = 23 → st.s = s → st.t 5 = d → st.t 10 = .v (.bool b) → (∀i,i < caps.length → i < 5 → st.t i = (caps[i]?).getD (.v undef)) → run prog (C.sub off y) (XfU prog [] K) m [.code (match f55.body.get! with|.seq _ (.seq _ c)=>c|c=>c)] st):
    CallsDIn Fence.wide 0 prog 55 ⟨vb⟩ u w λe u2 w'=>(∃v,e = .returned v) /\ u2 = u' /\ ∃d' s' k' M' β',U7 prog C s' (· < k') M' β' w' /\ MLe M M' /\ BLe β β' /\ K d' s' k':=by
 refine callsDIn_of_wpSIn (fn:=f55) (c:=f55.body.get!) ae ae trivial (λc₀ cs hm=>?_);have I0:U7 prog (C.sub off (M,β)) s (· < k) M β w:=⟨hI.mem,hI.used,hI.obs,hI.own,hI.inj,hI.keep,hI.old,MLe.refl _,λg cs hg=>RepC.mono hI.le (hI.glob g cs hg)⟩
 have hrel:=K9 (P:=prog) (C:=C.sub off (M,β)) (fn:=f55) (nt:=23) rfl (BLe.refl _) hvs rfl hcl I0;generalize hA:({tmps:=(⟨vb⟩:Array Value) ++ Array.replicate (f55.ntmps - (⟨vb⟩:Array Value).size) undef,defers:=[]}:Act) = a0 at hrel⊢;have fin:∀a w2,Zp prog (C.sub off (M,β)) (XfU prog [] K) a w2 → bodyPostS prog f55 c₀ cs (λe u2 w'=>(∃v,e = .returned v) /\ u2 = u' /\ ∃d' s' k' M' β',U7 prog C s' (· < k') M' β' w' /\ MLe M M' /\ BLe β β' /\ K d' s' k') .normal a ({c₀ with mode:=u'} :: cs) w2:=by
  rintro a w2 ⟨st',⟨h1,h2,M',β',h0',h3,I'⟩,hret⟩;unfold XfU at hret;split at hret
  .rename_i c ds hres;obtain⟨v,hv,hrv⟩:=Vo I' h3 (fn:=f55) (l:=[]) rfl hres hret.1;exact⟨h1,_,rfl,v,hv,⟨v,rfl⟩,rfl,_,_,_,M',β',⟨I'.mem,I'.used,I'.obs,I'.own,I'.inj,I'.keep,I'.old,hI.le.trans I'.le,hI.glob⟩,I'.le,h0',hret.2⟩
  exact hret.elim
 simp only [f55,Option.get!]at hrun fin⊢;refine wpSIn_seq (wpSIn_region ?_);show wpOpsSIn _ _ _ _ _ [0,1] _ _ _;have hsz:a0.tmps.size = 23:=hrel.2.1;refine Xpl (x:=x) (cs':={c₀ with mode:=u'} :: cs) rfl rfl (by simp [execOp,go_sem]) ?_ ?_
 .rcases hu c₀ cs hm with e|⟨e1,e2,e3⟩
  .exact .inl e
  exact .inr ⟨e1,e2,by rw [e3,←hm]⟩
 refine Xpm (x:=x) rfl rfl (by simp [execOp,go_sem,Act.eval,Act.put,hsz]) ?_;unfold wpOpsSIn;show Code.wpSIn _ _ _ _ _ _ _ _;refine wpSIn_seq (wpSIn_of_wpIn rfl (wpIn_region_list (F:=Fence.wide) ?_));refine Vq (r:=none) rfl (v:=x) (w':=w) (by simp [execOp,go_sem,Act.eval,Act.put,hsz]) ?_;refine Vq (r:=none) rfl (v:=.bool b) (w':=w) (by simp [execOp,go_sem,Act.eval,Act.put,hsz,hne,hng]) ?_;refine wpListIn_nil ?_;show Code.wpSIn _ _ _ _ _ _ _ _;have r2:=(((hrel.putV (some 8) hx).putV (some 5) hx).putV (some 9) hx).putV (some 10) (d:=.v (.bool b)) (v:=.bool b) (λM β=>by simp [Rep,wfV]);have rr:=Yj m _ r2 (hrun _ _ rfl rfl rfl rfl λi h1 h2=>?_)
 .refine wpSIn_of_wpIn rfl (wpIn_mono (F:=Fence.wide) rr ?_);intro e a' w' hq;cases e with
  |normal=>exact fin a' w' hq
  |ret=>exact fin a' w' hq
  |exit id=>exact hq.elim
  |_=>exact hq.elim
 have e5 : ¬ i = 5 := by omega
 have e8:¬i = 8:=by omega
 have e9:¬i = 9:=by omega
 have e10:¬i = 10:=by omega
 simp [nx,XH,upd,e5,e8,e9,e10]
def Xpn{P:Program}{C:Cx}{st:St}{a:Act}{w:World}{full:Array Oper}{o:Oper}{rest:List Oper}{Q:Exit → AW}{K:St → Prop}(hrd:C.rd = none)(hg:o.guard = none)(hr:Rel P C st a w)(h:Xa4 P C o st K)(k:∀st a w,Rel P C st a w → K st → wpListIn Fence.wide 0 P full Q rest a w):wpListIn Fence.wide 0 P full Q (o :: rest) a w:=by refine wpListIn_plain hg λK' hK=>?_;have:=XeZ (K':=K') (Q:=Q) hr h λst2 a2 w2 hr2 h2=>hK _ _ (k st2 a2 w2 hr2 h2);rw [hrd]at this;exact this
abbrev XeE:List D:=[.ept 384 2 6 0 0,.ept 448 3 1 0 0,.ept 512 4 1 0 0,.ept 576 5 6 0 0,.ept 640 6 1 0 0]
abbrev Xpo:List ResultVar:=[.cell 6 28,.cell 7 25,.cell 8 25,.cell 9 47,.cell 10 48]
abbrev Xpp(r:Wh × List Int × List Int × WS × Int):D → List Ob → Prop:=Eqs (.tup [.agg (e28 r.1),.isl 59 1 (r.2.1.map e59),.isl 59 1 (r.2.2.1.map e59),.agg (e47 r.2.2.2.1),.v (.int .i64 r.2.2.2.2)]) []
def Q1(a0:Wh)(a1 a2:List Int)(st:St):Prop:=st.n=79 /\ st.t 1=.isl 59 1 (a1.map e59) /\ st.t 2=.isl 59 1 (a2.map e59) /\ st.t 3=.ept 192 1 6 0 0 /\ st.t 6=.ept 384 2 6 0 0 /\ st.t 7=.ept 448 3 1 0 0 /\ st.t 8=.ept 512 4 1 0 0 /\ st.t 9=.ept 576 5 6 0 0 /\ st.t 10=.ept 640 6 1 0 0 /\ st.s 192=some (1,.arr true 28 6 [e28 a0] 0) /\ st.s 384=some (2,.arr true 28 6 [[.v (.int .i64 0),.v (.int .i64 0),.nsl,.nsl,.v (.int .i64 0),.v (.int .i64 0)]] 0) /\ st.s 448=some (3,.arr true 25 1 [[.nsl]] 0) /\ st.s 512=some (4,.arr true 25 1 [[.nsl]] 0) /\ st.s 576=some (5,.arr true 47 6 [[.v (.int .i64 0),.v (.int .i64 0),.v (.int .i64 0),.v (.int .i64 0),.v (.int .i64 0),.v (.int .i64 0)]] 0) /\ st.s 640=some (6,.arr true 48 1 [[.v (.int .i64 0)]] 0)
def QA(a2:List Int)(y4:Wu × List Int × Int)(y5:Wu)(e:Int)(w11:Nat)(st:St):Prop:=st.n=79 /\ st.t 2=.isl 59 1 (a2.map e59) /\ st.t 6=.ept 384 2 6 0 0 /\ st.t 7=.ept 448 3 1 0 0 /\ st.t 8=.ept 512 4 1 0 0 /\ st.t 9=.ept 576 5 6 0 0 /\ st.t 10=.ept 640 6 1 0 0 /\ st.t 11=.ept 704 w11 16 0 0 /\ st.s 384=some (2,.arr true 28 6 [[.v (.int .i64 0),.v (.int .i64 0),.nsl,.nsl,.v (.int .i64 0),.v (.int .i64 0)]] 0) /\ st.s 448=some (3,.arr true 25 1 [[.isl 59 1 (y4.2.1.map e59)]] 0) /\ st.s 512=some (4,.arr true 25 1 [[.nsl]] 0) /\ st.s 576=some (5,.arr true 47 6 [[.v (.int .i64 0),.v (.int .i64 0),.v (.int .i64 0),.v (.int .i64 0),.v (.int .i64 0),.v (.int .i64 0)]] 0) /\ st.s 640=some (6,.arr true 48 1 [[.v (.int .i64 e)]] 0) /\ st.s 704=some (w11,.arr true 135 16 [Xta y5] 0)
abbrev C18(C:Cx)(x:Mem × Loc)(M:Mem)(β:Loc)(vb:List Value):Cx:=(C.sub 0 x).dfr M β [⟨.fn (.func 55) ⟨vb⟩,#[]⟩]
abbrev Xpq(C:Cx)(x:Mem × Loc)(R:Ending → World → Prop)(r:Wh × List Int × List Int × WS × Int):Prop:=∀C':Cx,C'.lb = C.lb → C'.M0 = C.M0 → C'.w0 = C.w0 → BLe x.2 C'.b0 → ∀a w',Zp prog C' (JW prog Xpo [] 0 (Xpp r)) a w' → ∃v,(results f17 a.tmps).run prog w' = .ok v w' /\ R (.returned v) w'
def CR2(N:Nat)(a2:List Int)(y4:Wu × List Int × Int)(y5:Wu):Option (Wh × List Int × List Int × WS × Int):=
  bnd (QdE N y5 a2) λy6=>
  bnd (QeE N y6.2) λy7=>
  bnd (QeG N y7) λy8=>
  grd (y8.t.length ≤ 140737488355328) <|
  jn (λ(x9:Int)=>
    some ((Wh.mk y8.h.c y8.h.w y8.h.p (wI (1 - y8.h.s)) x9),y4.2.1,y6.1,y8.r,0)) λj1=>
  bif (decide (((y8.t.length:Nat):Int) > 0))then(bnd (Xd y8.t (wI (((y8.t.length:Nat):Int) - 1))) λp10=>
  j1 p10)
  else j1 (-1)
def CB(N:Nat)(a2:List Int)(y4:Wu × List Int × Int)(y5:Wu × Int):Option (Wh × List Int × List Int × WS × Int):=
  bif (y5.2 == 0)then CR2 N a2 y4 y5.1
  else some (zHp,[],[],(WS.mk 0 0 0 0 0 0),y5.2)
def CR1(N:Nat)(a2:List Int)(y4:Wu × List Int × Int):Option (Wh × List Int × List Int × WS × Int):=
  bif (y4.2.2 == 0)then(bnd (Qgd N y4.1) λy5=>CB N a2 y4 y5)
  else some (zHp,[],[],(WS.mk 0 0 0 0 0 0),y4.2.2)
def Xtl(N:Nat)(a0:Wh)(a1 a2:List Int):QdV N a0 a1 a2 = bnd (Qex N a0) λy1=>
  jn (λ(x4:Int)=>
    bnd (Qam N x4) λy5=>
    bnd (QfD N y1.1 a1) λy4=>CR1 N a2 y4) λj1=>
  bif (y1.2 == 0)then(bnd (QaR N [a1,a2]) λy2=>
    bnd (QdS N a0 y2) λy3=>
    bif (!y3)then j1 19
    else j1 y1.2)
  else j1 y1.2:=by
 have nn:∀{α β:Type} (f:α → Option β),bnd none f = none:=λf=>by unfold bnd;rfl
 have ss:∀{α β:Type} (x:α) (f:α → Option β),bnd (some x) f = f x:=λx f=>by unfold bnd;rfl
 rw [QdV];congr 1;funext y1;have jj:∀{κ β:Type} (k:κ) (f:κ → Option β),jn k f = f k:=λk f=>by unfold jn;rfl
 rw [jj];dsimp only;by_cases h:y1.2 = 0
 .rw [h,show((0:Int) == 0) = true from rfl,Wc,Wc];congr 1;funext y2;congr 1;funext y3;cases y3
  .show none = bnd (Qam N 19) _;rw [Qam,show((19:Int) != 0) = true from rfl,Wc,nn]
  show _ = bnd (Qam N 0) _;rw [Qam,show((0:Int) != 0) = false from rfl,Wa,ss];rfl
 have h1 : (y1.2 == 0) = false := by simpa using h
 have h2:(y1.2 != 0) = true:=by simpa using h
 rw [h1,Wa,Wa,Qam,h2,Wc,nn]

def OX{P:Program}{M M':Mem}{β β':Loc}(h1:MLe M M')(h2:BLe β β'):∀{ds:List D} {vs:List Value},RepL P M β ds vs → RepL P M' β' ds vs
  |[],vs,h=>by simp only [RepL]at h⊢;exact h
  |d :: ds,vs,h=>by simp only [RepL]at h⊢;obtain⟨x,xs,e,a,b⟩:=h;exact⟨x,xs,e,a.mono h1 h2,OX h1 h2 b⟩
def Xpr{C:Cx}{st:St}{a:Act}{w:World}(hr:Rel prog C st a w){o:Oper}{c:Call}{t:Nat}(hop:o.op = .call c)(hc:c.callee = .value (.func 58))(ha:c.args = #[.tmp t]){e:Int}(ht:st.t t = .v (.int .i64 e))(he:e ≠ 0){Kn:AW}{Q:Exit → AW}(hQ:wfV (.int .i64 e) → Q (.panic [⟨(.iface 132 (.agg ⟨[.int .i64 e]⟩)),false,false⟩]) a w):o.wpIn Fence.wide 0 prog a w Kn Q:=by obtain⟨h1,h2,M,β,h0,h3,I⟩:=hr;refine⟨λ_ _=>trivial,?_⟩;have ex:=JU (P:=prog) (ρ:=a.eval) hop hc (g:=58) (va:=[]) (vb:=[]) rfl (fn:=f58) ae ae ae w;have hv:=h3 t;rw [ht]at hv;simp only [Rep]at hv;have ev:a.eval (.tmp t) = .int .i64 e:=hv.1;rw [show Fence.wide.round = none from rfl,Oper.semAt_none,ex,ha];simp only [W8,UA,Il,Ih,ev];rw [Oper.uponIn_enter];refine⟨λh=>(by cases h),CallsIn.mono (Xtk he) ?_⟩;rintro en w' ⟨rfl,rfl⟩;exact hQ hv.2
def Xk3{C:Cx}{x:Mem × Loc}{M:Mem}{β:Loc}{vb:List Value}{R:Ending → World → Prop}{r:Wh × List Int × List Int × WS × Int}{st:St}{a:Act}{w:World}(u u':FrameMode)(v:Value)(d:D)(b:Bool)(K:Heap → Prop)(hu0:u ≠ .run)(hset:settle u' = .returning)(hvb:RepL prog M β XeE vb)(hb:BLe x.2 β)(hrel:Rel prog (C18 C x M β vb) st a w)(hfin:Xpq C x R r)(hu:∀c₀ cs,c₀.mode = u → (recoverD (c₀ :: cs) = some (v,{c₀ with mode:=u'} :: cs)) \/ (recoverD (c₀ :: cs) = none /\ v = .nilIface /\ u' = u))(hx:∀M β,Rep prog M β d v)(hne:(binOp .neq 20 v .nilIface).run prog w = .ok (.bool b) w)(hng:(eqGuard .neq 20 (.tmp 9) (.const .nilIface) v .nilIface).run prog w = .ok () w)(hrun:∀C2:Cx,C2.rd = none → C2.off = 100 → ∀s2:St,s2.n = 23 → s2.s = st.s → s2.t 5 = d → s2.t 10 = .v (.bool b) → s2.t 0=.ept 384 2 6 0 0 /\ s2.t 1=.ept 448 3 1 0 0 /\ s2.t 2=.ept 512 4 1 0 0 /\ s2.t 3=.ept 576 5 6 0 0 /\ s2.t 4=.ept 640 6 1 0 0 → run prog C2 (XfU prog [] λ_ s' _=>K s') 1000 [.code (match f55.body.get! with|.seq _ (.seq _ c)=>c|c=>c)] s2)(hK:∀s' k',K s' → JW prog Xpo [] 0 (Xpp r) ⟨st.t,s',st.n,k'⟩):
    LeavesIn Fence.wide 0 prog f17 a.tmps R a.defers u w:=by obtain⟨h1,h2,M1,β1,h0,h3,I⟩:=hrel;have hd:a.defers = [⟨.fn (.func 55) ⟨vb⟩,#[]⟩]:=h1;rw [hd];refine Xi6 (gn:=f55) hu0 ae ae ae ?_;refine(Xu3 u u' v d b 100 1000 (λ_ s' _=>K s') I (OX I.le h0 hvb) ac hu hx hne hng λy s2 e1 e2 e3 e5 e4=>hrun _ rfl rfl s2 e1 e2 e3 e5 ⟨e4 0 ac ab,e4 1 ac ab,e4 2 ac ab,e4 3 ac ab,e4 4 ac ab⟩).mono ?_;rintro en u2 w' ⟨hv,rfl,d',s',k',M',β',I',hM,hB,hk⟩;refine⟨hv,hset,?_⟩;exact hfin (C18 C x M β vb) rfl rfl rfl (hb.trans (BLe.refl _)) a w' ⟨⟨st.t,s',st.n,k'⟩,⟨h1,h2,M',β',h0.trans hB,λx=>(h3 x).mono hM hB,I'⟩,hK s' k' hk⟩
def XrY{C:Cx}{x:Mem × Loc}{M:Mem}{β:Loc}{vb:List Value}{R:Ending → World → Prop}{r:Wh × List Int × List Int × WS × Int}{st:St}{a:Act}{w:World}{e:Int}{w11:Nat}{a2:List Int}{y4:Wu × List Int × Int}{y5:Wu}(hvb:RepL prog M β XeE vb)(hb:BLe x.2 β)(hrel:Rel prog (C18 C x M β vb) st a w)(hfin:Xpq C x R r)(E:QA a2 y4 y5 e w11 st)(hwf:wfV (.int .i64 e))(hr:some (zHp,[],[],(WS.mk 0 0 0 0 0 0),e) = some r):
    LeavesIn Fence.wide 0 prog f17 a.tmps R a.defers (.panicking [⟨(.iface 132 (.agg ⟨[.int .i64 e]⟩)),false,false⟩]) w:=by
 unfold QA at E;refine Xk3 (.panicking [⟨(.iface 132 (.agg ⟨[.int .i64 e]⟩)),false,false⟩]) (.panicking [⟨(.iface 132 (.agg ⟨[.int .i64 e]⟩)),true,false⟩]) (.iface 132 (.agg ⟨[.int .i64 e]⟩)) (.ifc 132 (.agg [.v (.int .i64 e)])) true (λs=>s 384=some (2,.arr true 28 6 [[.v (.int .i64 0),.v (.int .i64 0),.nsl,.nsl,.v (.int .i64 0),.v (.int .i64 0)]] 0) /\ s 448=some (3,.arr true 25 1 [[.nsl]] 0) /\ s 512=some (4,.arr true 25 1 [[.nsl]] 0) /\ s 576=some (5,.arr true 47 6 [[.v (.int .i64 0),.v (.int .i64 0),.v (.int .i64 0),.v (.int .i64 0),.v (.int .i64 0),.v (.int .i64 0)]] 0) /\ s 640=some (6,.arr true 48 1 [[.v (.int .i64 e)]] 0)) ac rfl hvb hb hrel hfin (λc₀ cs hm=>.inl ?_) (λM β=>⟨_,rfl,?_⟩) ae ae ?_ ?_
 .simp [recoverD,hm]
 .simp only [Rep,RepL];exact⟨_,rfl,_,_,rfl,⟨rfl,hwf⟩,rfl⟩
 .intro C2 hrd hoff s2 hn hs h5 h10 F;simp only [f55,Option.get!]
  repeat' first
   |with_reducible intro _
   |simp only[go_sem,simprocAttr,hn,hs,h5,h10,F,E,hoff]
   |(with_reducible first|apply XP|apply XO|apply YF|apply YN|apply YO)
   |(refine YG ?_ ?_;.first|assumption|omega)
   |refine dqh 55 5 ⟨⟩ [(1,[],[384,448,512]),(2,[],[384,448,512,576]),(3,[],[384,448,512,576]),(4,[384],[]),(5,[448],[]),(6,[512],[]),(7,[576],[]),(8,[640],[])] ?_ (hrd:=hrd)
   |fail
 obtain rfl:=Wz hr;intro s' k' F;simp only[go_sem,simprocAttr,F,E];(with_reducible refine ZJ ?_)
 simp only[go_sem,simprocAttr,F,E]
def XrZ{C:Cx}{x:Mem × Loc}{M:Mem}{β:Loc}{vb:List Value}{R:Ending → World → Prop}{r:Wh × List Int × List Int × WS × Int}{st:St}{a:Act}{w:World}(hvb:RepL prog M β XeE vb)(hb:BLe x.2 β)(hrel:Rel prog (C18 C x M β vb) st a w)(hfin:Xpq C x R r)(hr:JW prog Xpo [] 0 (Xpp r) st):
    LeavesIn Fence.wide 0 prog f17 a.tmps R a.defers .returning w:=by
 refine Xk3 .returning .returning .nilIface (.v .nilIface) false (λs=>s=st.s) ac rfl hvb hb hrel hfin (λc₀ cs hm=>.inr ⟨?_,rfl,rfl⟩) (λM β=>⟨rfl,trivial⟩) ae ae ?_ ?_
 .simp [recoverD,hm]
 .intro C2 hrd hoff s2 hn hs h5 h10 F;simp only [f55,Option.get!];simp only[go_sem,simprocAttr,hn,hs,h5,h10,F,hoff]
 rintro s' k' rfl;exact hr
def Qik(G:Nat → Option (List D))(hw:GW G)(N:Nat)(a0:Wh)(a1 a2:List Int)(r:Wh × List Int × List Int × WS × Int)(hr:QdV N a0 a1 a2 = some r):YV prog G 17 [.agg (e28 a0),.isl 59 1 (a1.map e59),.isl 59 1 (a2.map e59)] [] (Xpp r):=by
 refine XeO (fn:=f17) (body:=f17.body.get!) (rs:=Xpo) [] 79 ae ae ae ae ae ac ?_;rintro C x R rfl hlb hwf hfin a w hrel;have hse:=@XgM _ hw;generalize hK:bodyPostDIn Fence.wide 0 prog f17 R = K;simp only [f17,Option.get!];refine wpIn_seq (XtP (Q:=λst=>Q1 a0 a1 a2 st) rfl hrel 1000 ?_ ?_)
 .simp only [go_sem,simprocAttr,Q1]
 clear hrel;intro st a w hrel E;unfold Q1 at E;refine wpIn_seq (wpIn_region_list ?_);refine Xpn (K:=λst=>st.t 13=.clo (.func 55) [] XeE /\ Q1 a0 a1 a2 st) rfl rfl hrel ?_ ?_
 .simp only [go_sem,simprocAttr,E,Q1,QA]
 clear hrel E;rintro st a w hrel ⟨h13,E⟩;unfold Q1 at E;refine wpListIn_plain rfl λK' hK'=>Xnx (st:=st) (x:=.tmp 13) (g:=55) (caps:=XeE) rfl rfl rfl rfl h13 rfl rfl hrel λvb M β hvb hb a hrel=>hK' _ _ (wpListIn_nil ?_);show Code.wpIn _ _ _ _ _ _ _;refine Xi7 (C:=(C.sub 0 x).dfr M β _) (Q:=λst=>∃(y4:Wu × List Int × Int) (w11:Nat),CR1 N a2 y4=some r /\ QA a2 y4 y4.1 y4.2.2 w11 st) rfl ?_ [_,_,_,_] _ _ (Yj (R:=λ_=>False) 1000 _ hrel ?_);rotate_left
 .clear hrel;rw[Xtl]at hr
  repeat' first
   |(refine El.el hr ?_;clear hr;intro hr)
   |(with_reducible intro h;refine Y5 hr h ?_;clear hr;intro hr)
   |with_reducible intro _
   |simp only[go_sem,simprocAttr,hl3,hse,E,QA]
   |(with_reducible first|apply XP|apply XO|apply YF|apply YN|apply YO)
   |((first|with_reducible refine Jh hr ah ?_ ?_|(with_reducible refine KO hr ?_ ?_;rotate_left;intro p;rotate_right));(·simp only[go_sem,simprocAttr,hse]);intro hp hn hd hr;(try have hl3:=hd _ e3;simp only[go_sem,simprocAttr]at hl3))
   |(refine YG ?_ ?_;.first|assumption|omega)
   |(with_reducible first|refine CallX.c ?_ _|refine OK.c hr hw ?_ (λy hr=>?_) _|refine OK.d hr hw ?_ (λy hr=>?_) _)
   |refine dqh 17 3 ⟨⟩ [(3,[],[1600]),(6,[1600],[]),(7,[1600],[])] ?_
   |refine dqh 17 18 ⟨⟩ [(2,[],[384]),(3,[],[384,448]),(4,[],[384,448,512]),(5,[],[384,448,512]),(6,[384],[]),(7,[448],[]),(8,[512],[]),(9,[576],[]),(10,[640],[])] ?_
   |(refine⟨_,hr,?_⟩;repeat' first|rfl|refine⟨?_,?_⟩)
   |exact XaY hr
 clear hrel E hr;rintro st a w hrel ⟨y4,w11,hr,E⟩;unfold QA at E;by_cases h4:y4.2.2=0;rotate_left
 .have hr:some (zHp,[],[],(WS.mk 0 0 0 0 0 0),y4.2.2)=some r:=by rw[CR1,show(y4.2.2==0)=false by simpa using h4,Wa]at hr;exact hr
  refine wpIn_seq (wpIn_region_list ?_);refine Xpn (K:=λst=>st.t 39=.v (.int .i64 y4.2.2) /\ QA a2 y4 y4.1 y4.2.2 w11 st) rfl rfl hrel ?_ ?_
  .simp only [go_sem,simprocAttr,E,Q1,QA]
  clear hrel E;rintro st a w hrel ⟨h39,E⟩;refine wpListIn_plain rfl λK' hK'=>Xpr hrel rfl rfl rfl h39 h4 λhwf=>?_;rw[←hK];exact XrY hvb hb hrel hfin E hwf hr
 have hr:(bnd (Qam N y4.2.2) λ_=>bnd (Qgd N y4.1) λy5=>CB N a2 y4 y5)=some r:=by rw[CR1,show(y4.2.2==0)=true by simpa using h4,Wc]at hr;rw[h4,Qam,show((0:Int)!=0)=false from rfl,Wa];unfold bnd at hr⊢;exact hr
 refine Xi7 (C:=(C.sub 0 x).dfr M β _) (Q:=λst=>∃(y5:Wu × Int) (w11:Nat),CB N a2 y4 y5=some r /\ QA a2 y4 y5.1 y5.2 w11 st) rfl ?_ [_,_] _ _ (Yj (R:=λ_=>False) 1000 _ hrel ?_);rotate_left
 .clear hrel
  repeat' first
   |(refine El.el hr ?_;clear hr;intro hr)
   |(with_reducible intro h;refine Y5 hr h ?_;clear hr;intro hr)
   |with_reducible intro _
   |simp only[go_sem,simprocAttr,hl3,hse,E,QA]
   |(with_reducible first|apply XP|apply XO|apply YF|apply YN|apply YO)
   |((first|with_reducible refine Jh hr ah ?_ ?_|(with_reducible refine KO hr ?_ ?_;rotate_left;intro p;rotate_right));(·simp only[go_sem,simprocAttr,hse]);intro hp hn hd hr;(try have hl3:=hd _ e3;simp only[go_sem,simprocAttr]at hl3))
   |(refine YG ?_ ?_;.first|assumption|omega)
   |(with_reducible first|refine CallX.c ?_ _|refine OK.c hr hw ?_ (λy hr=>?_) _|refine OK.d hr hw ?_ (λy hr=>?_) _)
   |refine dqh 17 3 ⟨⟩ [(3,[],[1600]),(6,[1600],[]),(7,[1600],[])] ?_
   |refine dqh 17 18 ⟨⟩ [(2,[],[384]),(3,[],[384,448]),(4,[],[384,448,512]),(5,[],[384,448,512]),(6,[384],[]),(7,[448],[]),(8,[512],[]),(9,[576],[]),(10,[640],[])] ?_
   |(refine⟨_,hr,?_⟩;repeat' first|rfl|refine⟨?_,?_⟩)
   |exact XaY hr
 clear hrel E hr;rintro st a w hrel ⟨y5,w11,hr,E⟩;unfold QA at E;by_cases h5:y5.2=0;rotate_left
 .have hr:some (zHp,[],[],(WS.mk 0 0 0 0 0 0),y5.2)=some r:=by rw[CB,show(y5.2==0)=false by simpa using h5,Wa]at hr;exact hr
  refine wpIn_seq (wpIn_region_list ?_);refine Xpn (K:=λst=>st.t 46=.v (.int .i64 y5.2) /\ QA a2 y4 y5.1 y5.2 w11 st) rfl rfl hrel ?_ ?_
  .simp only [go_sem,simprocAttr,E,Q1,QA]
  clear hrel E;rintro st a w hrel ⟨h46,E⟩;refine wpListIn_plain rfl λK' hK'=>Xpr hrel rfl rfl rfl h46 h5 λhwf=>?_;rw[←hK];exact XrY hvb hb hrel hfin E hwf hr
 have hr:(bnd (Qam N y5.2) λ_=>CR2 N a2 y4 y5.1)=some r:=by rw[CB,show(y5.2==0)=true by simpa using h5,Wc]at hr;rw[h5,Qam,show((0:Int)!=0)=false from rfl,Wa];unfold bnd;exact hr
 refine XtQ (C:=(C.sub 0 x).dfr M β _) (Q:=JW prog Xpo [] 0 (Xpp r)) rfl hrel 1000 ?_ ?_
 .clear hrel;have hr:(bnd (Qam N y5.2) λ_=>bnd (QdE N y5.1 a2) λy6=>
   bnd (QeE N y6.2) λy7=>
   bnd (QeG N y7) λy8=>
   grd (y8.t.length ≤ 140737488355328) <|
   jn (λ(x9:Int)=>
    some ((Wh.mk y8.h.c y8.h.w y8.h.p (wI (1 - y8.h.s)) x9),y4.2.1,y6.1,y8.r,0)) λj1=>
   bif (decide (((y8.t.length:Nat):Int) > 0))then(bnd (Xd y8.t (wI (((y8.t.length:Nat):Int) - 1))) λp10=>
   j1 p10)
   else j1 (-1))=some r:=hr
  repeat' first
   |(refine El.el hr ?_;clear hr;intro hr)
   |(with_reducible intro h;refine Y5 hr h ?_;clear hr;intro hr)
   |with_reducible intro _
   |simp only[go_sem,simprocAttr,hl3,hse,E,QA]
   |(with_reducible first|apply XP|apply XO|apply YF|apply YN|apply YO)
   |((first|with_reducible refine Jh hr ah ?_ ?_|(with_reducible refine KO hr ?_ ?_;rotate_left;intro p;rotate_right));(·simp only[go_sem,simprocAttr,hse]);intro hp hn hd hr;(try have hl3:=hd _ e3;simp only[go_sem,simprocAttr]at hl3))
   |(refine YG ?_ ?_;.first|assumption|omega)
   |(with_reducible first|refine CallX.c ?_ _|refine OK.c hr hw ?_ (λy hr=>?_) _|refine OK.d hr hw ?_ (λy hr=>?_) _)
   |refine dqh 17 3 ⟨⟩ [(3,[],[1600]),(6,[1600],[]),(7,[1600],[])] ?_
   |refine dqh 17 18 ⟨⟩ [(2,[],[384]),(3,[],[384,448]),(4,[],[384,448,512]),(5,[],[384,448,512]),(6,[384],[]),(7,[448],[]),(8,[512],[]),(9,[576],[]),(10,[640],[])] ?_
   |(refine⟨_,hr,?_⟩;repeat' first|rfl|refine⟨?_,?_⟩)
   |(refine Yq hr ?_;rintro rfl;with_reducible refine ZJ ?_)
   |exact XaY hr
 clear hr E hrel;rintro a w ⟨st,hrel,hret⟩;rw[←hK];exact⟨XrZ hvb hb hrel hfin hret,XrZ hvb hb hrel hfin hret⟩
@[reducible,instance] def Qow N (a0:Wh) (a1:List Int) (a2:List Int):=OK.mk λG hw r hr=>Qik G hw N a0 a1 a2 r hr

end Go.Sx
