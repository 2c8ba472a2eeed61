import Derived.LoopNIn
import Derived.OrdersIn
import Derived.TacticsIn
import Derived.Scope
import Derived.Test.YtjmgebidnekjdaaGreatLA
set_option linter.all false
namespace Go.Sx
variable {P:Program}
section
variable {C:Cx} {s:Heap} {U:Nat->Prop} {ver:Nat} {M:Mem} {β:Loc} {w:World}
def VA {fd:Field} (hne:P.cellsOf fd.type≠0) (b o:Nat):(fieldPlace ⟨b,o,none⟩ fd).run P w=.ok ⟨b,o+fd.offset,none⟩ w:=by
 have:=KD (P:=P) (t:=fd.type) rfl hne w
 simp[fieldPlace,this,hne,U9]
def VK {fields:Array Field} {f off sz ft:Nat} (h:(fields.toList.map λ f=>(f.offset,P.cellsOf f.type,f.type))[f]? = some (off,sz,ft)):∃ fd,fields[f]? = some fd/\fd.offset=off/\P.cellsOf fd.type=sz/\fd.type=ft:=by
 simp only[IL,W7,Wi] at h
 obtain ⟨fd,h1,h2,h3,h4⟩:=h
 exact ⟨fd,by simpa using h1,h2,h3,h4⟩
def Xgm (fields:Array Field) (hall:∀ fd∈fields.toList,((P.info? fd.type).map (·.size)).isSome=true) (w:World) :
 (fields.mapM λ f=>do pure (f.offset,← sizeOf f.type):Sem (Array (Nat×Nat))).run P w=.ok (fields.map λ f=>(f.offset,P.cellsOf f.type)) w:=by
 rw[Array.mapM_eq_mapM_toList]
 have:∀ l:List Field,(∀ fd∈l,((P.info? fd.type).map (·.size)).isSome=true)->(l.mapM λ f=>do pure (f.offset,← sizeOf f.type):Sem (List (Nat×Nat))).run P w=.ok (l.map λ f=>(f.offset,P.cellsOf f.type)) w:=by
  intro l
  induction l with
  | nil=>intro _;simp
  | cons f l ih =>
   intro h
   have h1:=h f (by simp)
   have ih':=ih λ fd hf=>h fd (by simp[hf])
   cases hi:P.info? f.type with
   | none=>simp[hi] at h1
   | some i =>
    have:(sizeOf f.type).run P w=.ok (P.cellsOf f.type) w:=by simp[sizeOf,typeInfo,hi,Program.cellsOf]
    simp only[List.mapM_cons,Sem.run_bind,this,Result.andThen_ok,Sem.run_pure,ih',WX]
 have h:=this fields.toList hall
 simp only[Sem.run_map,h,Result.andThen_ok]
 congr 1
 apply Array.ext'
 simp
def XmP (I:U8 P C s U M β w) (_hv:¬ U ver) {dst:Option Tmp} {type:TypeId} {pos:String} {after:Array Edge} {guard:Option (Nat×Bool)} (ρ:Operand->Value) (t:Operand->D) (hρ:∀ x,Rep P M β (t x) (ρ x)) {c:Prop} {d:D} {u:Up} (x:Operand)
 (h:opF P dst ver t s (.move x)=some (c,d,u)) (hc:c):OpOK P C s u U ver M β ((execOp ρ ⟨dst,(.move x),type,pos,after,guard⟩).run P w) d:=by
 unfold execOp
 simp only
 simp only[opF,Wc,Wi] at h
 obtain ⟨rfl,rfl,rfl⟩:=h
 exact .val I rfl (hρ x)
def Xiv (I:U8 P C s U M β w) (_hv:¬ U ver) {dst:Option Tmp} {type:TypeId} {pos:String} {after:Array Edge} {guard:Option (Nat×Bool)} (ρ:Operand->Value) (t:Operand->D) (hρ:∀ x,Rep P M β (t x) (ρ x)) {c:Prop} {d:D} {u:Up} (x:Operand)
 (h:opF P dst ver t s (.assign x)=some (c,d,u)) (hc:c):OpOK P C s u U ver M β ((execOp ρ ⟨dst,(.assign x),type,pos,after,guard⟩).run P w) d:=by
 unfold execOp
 simp only
 simp only[opF,Wc,Wi] at h
 obtain ⟨rfl,rfl,rfl⟩:=h
 exact .val I rfl (hρ x)
def XmQ (I:U8 P C s U M β w) (_hv:¬ U ver) {dst:Option Tmp} {type:TypeId} {pos:String} {after:Array Edge} {guard:Option (Nat×Bool)} (ρ:Operand->Value) (t:Operand->D) (hρ:∀ x,Rep P M β (t x) (ρ x)) {c:Prop} {d:D} {u:Up} (g:Operand) (a:Operand) (b:Operand)
 (h:opF P dst ver t s (.pick g a b)=some (c,d,u)) (hc:c):OpOK P C s u U ver M β ((execOp ρ ⟨dst,(.pick g a b),type,pos,after,guard⟩).run P w) d:=by
 unfold execOp
 simp only
 simp only[opF] at h
 split at h
 ·rename_i bb hg
  simp only[Wc,Wi] at h
  obtain ⟨rfl,rfl,rfl⟩:=h
  have hgr:=hρ g
  rw[hg] at hgr
  simp only[Rep] at hgr
  refine .val I (v:=if bb then ρ a else ρ b) (by simp[hgr.1,asBool]) ?_
  have ha:=hρ a
  have hb:=hρ b
  unfold XjH
  split
  ·rename_i p q e1 e2
   rw[e1] at ha
   rw[e2] at hb
   simp only[Rep] at ha hb
   cases bb
   ·simp[Rep,hb.1,wfV]
   ·simp[Rep,ha.1,wfV]
  ·cases bb
   ·simpa using hb
   ·simpa using ha
 ·cases h
def XjN (I:U8 P C s U M β w) (hv:¬ U ver) {dst:Option Tmp} {type:TypeId} {pos:String} {after:Array Edge} {guard:Option (Nat×Bool)} (ρ:Operand->Value) (t:Operand->D) (_hρ:∀ x,Rep P M β (t x) (ρ x)) {c:Prop} {d:D} {u:Up} (T:TypeId)
 (h:opF P dst ver t s (.alloc T)=some (c,d,u)) (hc:c):OpOK P C s u U ver M β ((execOp ρ ⟨dst,(.alloc T),type,pos,after,guard⟩).run P w) d:=by
 unfold execOp
 simp only
 simp only[opF] at h
 split at h
 ·rename_i ty hT
  split at h
  ·rename_i cs hcs
   split at h
   ·rename_i hcond
    simp only[Wc,Wi] at h
    obtain ⟨rfl,rfl,rfl⟩:=h
    obtain ⟨z1,z2⟩:=YU (P:=P) (M:=M) (β:=β) hcs
    have e:(Instr.alloc T true (.tuple #[])).run P w=((do pure (Value.pointer (some (← newVar T ty.zero))):Sem Value)).run P w:=by simp[Instr.alloc,Zn hT]
    exact VOK.op (sem:=Instr.alloc T true (.tuple #[])) (by rw[e];exact XjJ I hv hT z1 z2 hcond.1 hcond.2 (Kj dst))
   ·cases h
  ·cases h
 ·cases h
def Xpc (I:U8 P C s U M β w) (hv:¬ U ver) {dst:Option Tmp} {type:TypeId} {pos:String} {after:Array Edge} {guard:Option (Nat×Bool)} (ρ:Operand->Value) (t:Operand->D) (hρ:∀ x,Rep P M β (t x) (ρ x)) {c:Prop} {d:D} {u:Up} (T:TypeId) (x:Operand)
 (h:opF P dst ver t s (.box T x)=some (c,d,u)) (hc:c):OpOK P C s u U ver M β ((execOp ρ ⟨dst,(.box T x),type,pos,after,guard⟩).run P w) d:=by
 unfold execOp
 simp only
 simp only[opF] at h
 split at h
 ·rename_i ty cs hT hcs
  split at h
  ·rename_i hby
   simp only[Wc,Wi] at h
   obtain ⟨rfl,rfl,rfl⟩:=h
   obtain ⟨z1,z2⟩:=Kr hcs (hρ x)
   exact VOK.op (XjJ I hv hT z1 z2 hc hby (Kj dst))
  ·cases h
 ·cases h
def XjO (I:U8 P C s U M β w) (_hv:¬ U ver) {dst:Option Tmp} {type:TypeId} {pos:String} {after:Array Edge} {guard:Option (Nat×Bool)} (ρ:Operand->Value) (t:Operand->D) (hρ:∀ x,Rep P M β (t x) (ρ x)) {c:Prop} {d:D} {u:Up} (T:TypeId) (parts:Array (Nat×Operand))
 (h:opF P dst ver t s (.build T parts)=some (c,d,u)) (hc:c):OpOK P C s u U ver M β ((execOp ρ ⟨dst,(.build T parts),type,pos,after,guard⟩).run P w) d:=by
 unfold execOp
 simp only
 simp only[opF] at h
 split at h
 ·rename_i ty hT
  obtain ⟨p1,p2⟩:=Xc1 hρ parts.toList
  split at h
  ·rename_i cs fs hzc hk
   simp only[W7,Wi] at h
   obtain ⟨r,hr,rfl,rfl,rfl⟩:=h
   obtain ⟨z1,z2⟩:=YU (P:=P) (M:=M) (β:=β) hzc
   obtain ⟨sz0,by0,z0,k0⟩:=ty
   subst hk
   obtain ⟨fields,hu,rfl,hall⟩:=ZW hT
   obtain ⟨vs,k1,k2⟩:=XbR _ (λ i=>(fields.map λ f=>(f.offset,P.cellsOf f.type))[i]?) (λ i x hx=>by
    simp only[W7,IL,Ih] at hx
    obtain ⟨y,⟨fd,h1,rfl⟩,rfl⟩:=hx
    simp[h1]) _ (parts.map λ x=>(x.1,ρ x.2)).toList cs z0.cells r hr z1 (by simp) (by simpa using p2)
   refine .val I (v:=.agg vs) ?_ ?_
   ·simp only[Instr.build,Sem.run_bind,Zn hT,Result.andThen_ok,run_underlying hu,Xgm fields hall,k1,Sem.run_pure]
   ·simp only[Rep];exact ⟨vs.toList,by simp,k2⟩
  ·rename_i cs n e sz hzc hk
   split at h
   ·rename_i te hE
    simp only[W7,Wi] at h
    obtain ⟨r,hr,rfl,rfl,rfl⟩:=h
    obtain ⟨z1,z2⟩:=YU (P:=P) (M:=M) (β:=β) hzc
    obtain ⟨sz0,by0,z0,k0⟩:=ty
    subst hk
    obtain ⟨hu,hsz⟩:=Kq hT
    have hsize:∀ w:World,(sizeOf e).run P w=.ok sz w:=λ w=>by rw[YA hE,hsz,XbN hE]
    obtain ⟨vs,k1,k2⟩:=XbR _ (λ i=>some (i*sz,sz)) (λ i x hx=>hx) _ (parts.map λ x=>(x.1,ρ x.2)).toList cs z0.cells r hr z1 (by simp) (by simpa using p2)
    refine .val I (v:=.agg vs) ?_ ?_
    ·simp only[Instr.build,Sem.run_bind,Zn hT,Result.andThen_ok,run_underlying hu,hsize,k1,Sem.run_pure]
    ·simp only[Rep];exact ⟨vs.toList,by simp,k2⟩
   ·cases h
  ·cases h
 ·cases h
def XcU (I:U8 P C s U M β w) (hv:¬ U ver) {dst:Option Tmp} {type:TypeId} {pos:String} {after:Array Edge} {guard:Option (Nat×Bool)} (ρ:Operand->Value) (t:Operand->D) (hρ:∀ x,Rep P M β (t x) (ρ x)) {c:Prop} {d:D} {u:Up} (T:TypeId) (n:Nat) (parts:Array (Nat×Operand))
 (h:opF P dst ver t s (.buildSlice T n parts)=some (c,d,u)) (hc:c):OpOK P C s u U ver M β ((execOp ρ ⟨dst,(.buildSlice T n parts),type,pos,after,guard⟩).run P w) d:=by
 unfold execOp
 simp only
 simp only[opF] at h
 split at h
 ·rename_i a b zz E z hT
  split at h
  ·rename_i te hE
   split at h
   ·rename_i zc hzc
    split at h
    ·rename_i hcond
     obtain ⟨h1,h2,h3,h4,h5⟩:=hcond
     split at h
     ·rename_i cc ps l hps
      simp only[W7,Wi] at h
      obtain ⟨es,hes,rfl,rfl,rfl⟩:=h
      obtain ⟨p1,p2⟩:=Xc1 hρ parts.toList
      obtain ⟨M',I',hM,hF⟩:=I.freeze l
      obtain ⟨q3,q4⟩:=Xc2 I hM hps hc hF p2
      have q1:ps.map (·.1)=(parts.map λ x=>(x.1,ρ x.2)).toList.map (·.1):=by rw[q4,p1,Array.toList_map]
      have q2:RepL P M' Yj (ps.map (·.2)) ((parts.map λ x=>(x.1,ρ x.2)).toList.map (·.2)):=by rw[Array.toList_map];exact q3
      obtain ⟨M2,β2,w2,v2,g1,g2,g3,g4,g5⟩:=VOK.op (XcS I' hv hT hE hzc h1 h2 h3 h4 h5 hes q1 q2 (Kj dst))
      refine ⟨M2,β2,w2,v2,g1,?_,g3,hM.trans g4,g5⟩
      rw[YD,JS];exact g2
     ·cases h
    ·cases h
   ·cases h
  ·cases h
 ·cases h
def XmR (I:U8 P C s U M β w) (_hv:¬ U ver) {dst:Option Tmp} {type:TypeId} {pos:String} {after:Array Edge} {guard:Option (Nat×Bool)} (ρ:Operand->Value) (t:Operand->D) (hρ:∀ x,Rep P M β (t x) (ρ x)) {c:Prop} {d:D} {u:Up} (T:TypeId) (a:Operand)
 (h:opF P dst ver t s (.load T a)=some (c,d,u)) (hc:c):OpOK P C s u U ver M β ((execOp ρ ⟨dst,(.load T a),type,pos,after,guard⟩).run P w) d:=by
 unfold execOp
 simp only
 simp only[opF] at h
 split at h
 ·rename_i ty c' cs o z hT hl
  split at h
  ·rename_i hcond
   simp only[Wc,Wi] at h
   obtain ⟨rfl,rfl,rfl⟩:=h
   exact VOK.op (XmJ I hT hl hc hcond.1 hcond.2 (hρ a))
  ·cases h
 ·cases h
def XjP (I:U8 P C s U M β w) (_hv:¬ U ver) {dst:Option Tmp} {type:TypeId} {pos:String} {after:Array Edge} {guard:Option (Nat×Bool)} (ρ:Operand->Value) (t:Operand->D) (hρ:∀ x,Rep P M β (t x) (ρ x)) {c:Prop} {d:D} {u:Up} (T:TypeId) (a:Operand) (x:Operand)
 (h:opF P dst ver t s (.store T a x)=some (c,d,u)) (hc:c):OpOK P C s u U ver M β ((execOp ρ ⟨dst,(.store T a x),type,pos,after,guard⟩).run P w) d:=by
 unfold execOp
 simp only
 simp only[opF] at h
 split at h
 ·rename_i ty id v z i cc hT ha
  have hp:=hρ a
  rw[ha] at hp
  split at h
  ·rename_i v' E z' es fz hs
   split at h
   ·rename_i ds hx
    split at h
    ·rename_i hcond
     obtain ⟨rfl,rfl,hfit⟩:=hcond
     simp only[Wc,Wi] at h
     obtain ⟨rfl,rfl,rfl⟩:=h
     exact XeR I hT hs hp hx (hρ x) hc.1 hc.2.1 hc.2.2 hfit
    ·cases h
   ·cases h
  ·rename_i v' E z' es fz hs
   split at h
   ·rename_i c1 dd l hsn
    split at h
    ·rename_i ds hx
     split at h
     ·rename_i hcond
      obtain ⟨rfl,rfl,hfit,hnl⟩:=hcond
      simp only[Wc,Wi] at h
      obtain ⟨rfl,rfl,rfl⟩:=h
      obtain ⟨hc1,hc2,hc3,hc4⟩:=hc
      obtain ⟨M',I',hM,hF⟩:=I.freeze l
      have hr':=snap_rep I hM hsn hc1 hF (hρ x)
      have hs':frz s l id=some (v,.arr false E z es fz):=by unfold frz;rw[Wm hnl];exact hs
      obtain ⟨M2,β2,w2,v2,g1,g2,g3,g4,g5⟩:=XeR (ver:=ver) I' hT hs' (hp.mono hM (BLe.refl _)) hx hr' hc2 hc3 hc4 hfit
      refine ⟨M2,β2,w2,v2,g1,?_,g3,hM.trans g4,g5⟩
      rw[YD,JS];exact g2
     ·cases h
    ·cases h
   ·cases h
  ·cases h
 ·cases h
def XeW (I:U8 P C s U M β w) (_hv:¬ U ver) {dst:Option Tmp} {type:TypeId} {pos:String} {after:Array Edge} {guard:Option (Nat×Bool)} (ρ:Operand->Value) (t:Operand->D) (hρ:∀ x,Rep P M β (t x) (ρ x)) {c:Prop} {d:D} {u:Up} (x:Operand)
 (h:opF P dst ver t s (.nilCheck x)=some (c,d,u)) (hc:c):OpOK P C s u U ver M β ((execOp ρ ⟨dst,(.nilCheck x),type,pos,after,guard⟩).run P w) d:=by
 unfold execOp
 simp only
 simp only[opF] at h
 split at h
 ·rename_i id v z i cc hx
  simp only[Wc,Wi] at h
  obtain ⟨rfl,rfl,rfl⟩:=h
  have hr:=hρ x
  rw[hx] at hr
  have hr':=hr
  simp only[Rep] at hr'
  obtain ⟨b,cb,_,he⟩:=hr'
  refine .val I (v:=ρ x) ?_ hr
  rw[he];rfl
 ·rename_i z cs cc hx
  simp only[Wc,Wi] at h
  obtain ⟨rfl,rfl,rfl⟩:=h
  have hr:=hρ x
  rw[hx] at hr
  have hr':=hr
  simp only[Rep] at hr'
  obtain ⟨_,b,o,he,_⟩:=hr'
  refine .val I (v:=ρ x) ?_ hr
  rw[he];rfl
 ·cases h
def Xiw (I:U8 P C s U M β w) {op:BinOp} {T:TypeId} {x:D} {ρ:Operand->Value} {oy:Operand} {c:Prop} {d:D} (h:XdO P op T x=some (c,d)) (hc:c) {vx:Value} (rx:Rep P M β x vx) {ox:Operand} (hn:XbK oy=true)
 (hy:∀ v,oy=.const v->ρ oy=v):VOK P C s [] U ver M β ((do eqGuard op T ox oy vx (ρ oy);binOp op T vx (ρ oy):Sem Value).run P w) d:=by
 have hoy:∃ l c,ρ oy=.slice none l c:=by
  cases oy with
  | const v =>
   simp only[XbK] at hn
   unfold Xgi at hn
   split at hn
   ·cases hn
   ·cases hn
   ·rename_i l c;exact ⟨l,c,hy _ rfl⟩
   ·cases hn
  | _=>simp[XbK] at hn
 obtain ⟨ly,cy,hoy⟩:=hoy
 rw[hoy]
 have key:∀ (a:Option Addr) (l cp:Nat) {x1 x2:Nat} {x3:Value} {E z:Nat},Xm P T=some ⟨x1,x2,x3,.slice E z⟩->(Op.equal T (.slice a l cp) (.slice none ly cy)).run P w=.ok a.isNone w:=by
  intro a l cp x1 x2 x3 E z hT
  unfold Op.equal Op.maxDepth Op.equalIn
  cases a<;>simp[run_underlying (X0 hT).1]
 have hg:∀ (op:BinOp) (a:Option Addr) (l cp:Nat),(eqGuard op T ox oy (.slice a l cp) (.slice none ly cy)).run P w=.ok () w:=by
  intro op a l cp
  unfold eqGuard
  cases op<;>simp
 unfold XdO at h
 split at h
 ·rename_i E z es
  simp only[Rep] at rx
  obtain ⟨_,_,_,a,cap,rfl,_,hr⟩:=rx
  split at h
  ·rename_i hT
   simp only[Wc,Wi] at h
   obtain ⟨rfl,rfl⟩:=h
   obtain ⟨b,o,rfl,_⟩:=hr.resolve_left hc
   refine .same I (v:=.bool false) ?_ (ZH _)
   simp[hg,binOp,key _ _ _ hT]
  ·rename_i hT
   simp only[Wc,Wi] at h
   obtain ⟨rfl,rfl⟩:=h
   obtain ⟨b,o,rfl,_⟩:=hr.resolve_left hc
   refine .same I (v:=.bool true) ?_ (ZH _)
   simp[hg,binOp,key _ _ _ hT]
  ·cases h
 ·rename_i a l cp
  simp only[Rep] at rx
  obtain ⟨rfl,_⟩:=rx
  split at h
  ·rename_i hT
   simp only[Wc,Wi] at h
   obtain ⟨rfl,rfl⟩:=h
   refine .same I (v:=.bool a.isNone) ?_ (ZH _)
   simp[hg,binOp,key _ _ _ hT]
  ·rename_i hT
   simp only[Wc,Wi] at h
   obtain ⟨rfl,rfl⟩:=h
   refine .same I (v:=.bool (!a.isNone)) ?_ (ZH _)
   simp[hg,binOp,key _ _ _ hT]
  ·cases h
 ·cases h
def XjQ (I:U8 P C s U M β w) (_hv:¬ U ver) {dst:Option Tmp} {type:TypeId} {pos:String} {after:Array Edge} {guard:Option (Nat×Bool)} (ρ:Operand->Value) (t:Operand->D) (hρ:∀ x,Rep P M β (t x) (ρ x)) {c:Prop} {d:D} {u:Up} (op:BinOp) (T:TypeId) (x:Operand) (y:Operand) (yt:TypeId) (hy:∀ v,y=.const v->ρ y=v)
 (h:opF P dst ver t s (.binOp op T x y yt)=some (c,d,u)) (hc:c):OpOK P C s u U ver M β ((execOp ρ ⟨dst,(.binOp op T x y yt),type,pos,after,guard⟩).run P w) d:=by
 unfold execOp
 simp only
 simp only[opF,W7,Wi] at h
 obtain ⟨⟨c',d'⟩,hb,rfl,rfl,rfl⟩:=h
 split at hb
 ·rename_i hn
  exact VOK.op (Xiw I hb hc (hρ x) hn hy)
 ·exact VOK.op (XmI I hb hc (hρ x) (hρ y) x y)
def XmS (I:U8 P C s U M β w) (_hv:¬ U ver) {dst:Option Tmp} {type:TypeId} {pos:String} {after:Array Edge} {guard:Option (Nat×Bool)} (ρ:Operand->Value) (t:Operand->D) (hρ:∀ x,Rep P M β (t x) (ρ x)) {c:Prop} {d:D} {u:Up} (op:UnOp) (T:TypeId) (x:Operand)
 (h:opF P dst ver t s (.unOp op T x)=some (c,d,u)) (hc:c):OpOK P C s u U ver M β ((execOp ρ ⟨dst,(.unOp op T x),type,pos,after,guard⟩).run P w) d:=by
 unfold execOp
 simp only
 simp only[opF] at h
 have hr:=hρ x
 split at h
 ·rename_i b hx
  simp only[Wc,Wi] at h
  obtain ⟨rfl,rfl,rfl⟩:=h
  rw[hx] at hr
  simp only[Rep] at hr
  refine .val I (v:=.bool (!b)) ?_ (ZH _)
  rw[hr.1];simp[Op.unary]
 ·rename_i k n hx
  simp only[Wc,Wi] at h
  obtain ⟨rfl,rfl,rfl⟩:=h
  rw[hx] at hr
  simp only[Rep] at hr
  refine .val I (v:=.int k (k.wrap (0-n))) ?_ (Ze _ _ (ZG _ _))
  rw[hr.1];simp[Op.unary,Op.intArith]
 ·cases h
def Xgn (I:U8 P C s U M β w) (_hv:¬ U ver) {dst:Option Tmp} {type:TypeId} {pos:String} {after:Array Edge} {guard:Option (Nat×Bool)} (ρ:Operand->Value) (t:Operand->D) (hρ:∀ x,Rep P M β (t x) (ρ x)) {c:Prop} {d:D} {u:Up} (S:TypeId) (T:TypeId) (x:Operand)
 (h:opF P dst ver t s (.convert S T x)=some (c,d,u)) (hc:c):OpOK P C s u U ver M β ((execOp ρ ⟨dst,(.convert S T x),type,pos,after,guard⟩).run P w) d:=by
 unfold execOp
 simp only
 simp only[opF] at h
 split at h
 ·rename_i tS a b zz k k' n hS hT hx
  simp only[Wc,Wi] at h
  obtain ⟨rfl,rfl,rfl⟩:=h
  have hr:=hρ x
  rw[hx] at hr
  simp only[Rep] at hr
  obtain ⟨i,dd,_,hu,_⟩:=X3 hS
  refine .val I (v:=.int k (k.wrap n)) ?_ (Ze _ _ (ZG _ _))
  rw[hr.1];simp[convert,run_underlying hu,run_underlying (VZ hT),Conv.intToInt]
 ·cases h
def XeX (I:U8 P C s U M β w) (_hv:¬ U ver) {dst:Option Tmp} {type:TypeId} {pos:String} {after:Array Edge} {guard:Option (Nat×Bool)} (ρ:Operand->Value) (t:Operand->D) (hρ:∀ x,Rep P M β (t x) (ρ x)) {c:Prop} {d:D} {u:Up} (fn:Fn) (first:Array Operand) (captured:Array Operand)
 (h:opF P dst ver t s (.makeFunc fn first captured)=some (c,d,u)) (hc:c):OpOK P C s u U ver M β ((execOp ρ ⟨dst,(.makeFunc fn first captured),type,pos,after,guard⟩).run P w) d:=by
 unfold execOp
 simp only
 simp only[opF,Wc,Wi] at h
 obtain ⟨rfl,rfl,rfl⟩:=h
 refine .val I (v:=.func fn (first.map ρ) (captured.map ρ)) (by simp[Instr.makeFunc]) ?_
 simp only[Rep]
 refine ⟨first.toList.map ρ,captured.toList.map ρ,?_,XdU hρ _,XdU hρ _⟩
 have e:∀ l:Array Operand,l.map ρ=⟨l.toList.map ρ⟩:=λ l=>by apply Array.ext';simp
 rw[e first,e captured]
def XdX (I:U8 P C s U M β w) (hv:¬ U ver) {dst:Option Tmp} {type:TypeId} {pos:String} {after:Array Edge} {guard:Option (Nat×Bool)} (ρ:Operand->Value) (t:Operand->D) (hρ:∀ x,Rep P M β (t x) (ρ x)) {c:Prop} {d:D} {u:Up} (T:TypeId) (l:Operand) (cc:Operand)
 (h:opF P dst ver t s (.makeSlice T l cc)=some (c,d,u)) (hc:c):OpOK P C s u U ver M β ((execOp ρ ⟨dst,(.makeSlice T l cc),type,pos,after,guard⟩).run P w) d:=by
 unfold execOp
 simp only
 simp only[opF] at h
 split at h
 ·rename_i a b zz E z n m hT hl hm
  split at h
  ·rename_i te hE
   split at h
   ·rename_i zc hzc
    split at h
    ·rename_i hcond
     simp only[Wc,Wi] at h
     obtain ⟨rfl,rfl,rfl⟩:=h
     obtain ⟨h0,rfl,h1,h2⟩:=hc
     obtain ⟨k,hk,_⟩:=Ju hl (hρ l)
     obtain ⟨k',hk',_⟩:=Ju hm (hρ cc)
     rw[hk,hk']
     exact VOK.op (XmM I hv hT hE hzc hcond.1 hcond.2 h0 h1 h2 (Kj dst))
    ·cases h
   ·cases h
  ·cases h
 ·cases h
def XjR (I:U8 P C s U M β w) (_hv:¬ U ver) {dst:Option Tmp} {type:TypeId} {pos:String} {after:Array Edge} {guard:Option (Nat×Bool)} (ρ:Operand->Value) (t:Operand->D) (hρ:∀ x,Rep P M β (t x) (ρ x)) {c:Prop} {d:D} {u:Up} (T:TypeId) (x:Operand) (lo:Option Operand) (hi:Option Operand) (mx:Option Operand)
 (h:opF P dst ver t s (.slice T x lo hi mx)=some (c,d,u)) (hc:c):OpOK P C s u U ver M β ((execOp ρ ⟨dst,(.slice T x lo hi mx),type,pos,after,guard⟩).run P w) d:=by
 unfold execOp
 simp only
 simp only[opF] at h
 split at h
 ·rename_i a b zz E sz l hh m hT hl hhh hm
  split at h
  ·rename_i te hE
   simp only[W7,Wi] at h
   obtain ⟨⟨c',d'⟩,hs,rfl,rfl,rfl⟩:=h
   obtain ⟨k1,e1⟩:=Jv hρ hl
   obtain ⟨k2,e2⟩:=Jv hρ hhh
   obtain ⟨k3,e3⟩:=Jv hρ hm
   simp only[e1,e2,e3]
   exact VOK.op (Xir I hT hE hs hc (hρ x))
  ·cases h
 ·rename_i a b zz n E sz' hT hl hhh hm
  split at h
  ·rename_i te z cs hE hx
   split at h
   ·rename_i hcond
    obtain ⟨h1,rfl,h0,h2,h3⟩:=hcond
    simp only[Wc,Wi] at h
    obtain ⟨rfl,rfl,rfl⟩:=h
    obtain ⟨k1,e1⟩:=Jv hρ hl
    obtain ⟨k2,e2⟩:=Jv hρ hhh
    obtain ⟨k3,e3⟩:=Jv hρ hm
    simp only[e1,e2,e3]
    have hr:=hρ x
    rw[hx] at hr
    exact VOK.op (Xis I hT hE h1 h0 h2 h3 hr)
   ·cases h
  ·cases h
 ·cases h
def XdY (I:U8 P C s U M β w) (_hv:¬ U ver) {dst:Option Tmp} {type:TypeId} {pos:String} {after:Array Edge} {guard:Option (Nat×Bool)} (ρ:Operand->Value) (t:Operand->D) (hρ:∀ x,Rep P M β (t x) (ρ x)) {c:Prop} {d:D} {u:Up} (T:TypeId) (x:Operand) (f:Nat)
 (h:opF P dst ver t s (.fieldAddr T x f)=some (c,d,u)) (hc:c):OpOK P C s u U ver M β ((execOp ρ ⟨dst,(.fieldAddr T x f),type,pos,after,guard⟩).run P w) d:=by
 unfold execOp
 simp only
 simp only[opF] at h
 have hr:=hρ x
 split at h
 ·rename_i a b zz fs id v z i cc hT hx
  split at h
  ·rename_i off sz ft hf
   split at h
   ·cases h
   ·rename_i hne
    simp only[Wc,Wi] at h
    obtain ⟨rfl,rfl,rfl⟩:=h
    rw[hx] at hr
    simp only[Rep] at hr
    obtain ⟨bb,cb,hb,he⟩:=hr
    obtain ⟨fields,hu,rfl,_⟩:=ZW hT
    obtain ⟨fd,g1,g2,g3,g4⟩:=VK hf
    have hp:=VA (P:=P) (w:=w) (fd:=fd) (by rw[g3];exact hne) bb (i*z+cc)
    refine .val I (v:=.pointer (some ⟨bb,i*z+cc+off,none⟩)) ?_ ?_
    ·rw[he];simp[Instr.fieldAt,run_underlying hu,g1,Instr.sureAddr,hp,g2]
    ·simp only[Rep];exact ⟨bb,cb,hb,by rw[IN]⟩
  ·cases h
 ·rename_i a b zz fs z cs cc hT hx
  split at h
  ·rename_i off sz ft hf
   split at h
   ·cases h
   ·rename_i hne
    simp only[Wc,Wi] at h
    obtain ⟨rfl,rfl,rfl⟩:=h
    rw[hx] at hr
    simp only[Rep] at hr
    obtain ⟨hz,bb,o,he,hrc⟩:=hr
    obtain ⟨fields,hu,rfl,_⟩:=ZW hT
    obtain ⟨fd,g1,g2,g3,g4⟩:=VK hf
    have hp:=VA (P:=P) (w:=w) (fd:=fd) (by rw[g3];exact hne) bb (o+cc)
    refine .val I (v:=.pointer (some ⟨bb,o+cc+off,none⟩)) ?_ ?_
    ·rw[he];simp[Instr.fieldAt,run_underlying hu,g1,Instr.sureAddr,hp,g2]
    ·simp only[Rep];exact ⟨hz,bb,o,by rw[IN],hrc⟩
  ·cases h
 ·cases h
def XjS (I:U8 P C s U M β w) (_hv:¬ U ver) {dst:Option Tmp} {type:TypeId} {pos:String} {after:Array Edge} {guard:Option (Nat×Bool)} (ρ:Operand->Value) (t:Operand->D) (hρ:∀ x,Rep P M β (t x) (ρ x)) {c:Prop} {d:D} {u:Up} (T:TypeId) (x:Operand) (f:Nat)
 (h:opF P dst ver t s (.field T x f)=some (c,d,u)) (hc:c):OpOK P C s u U ver M β ((execOp ρ ⟨dst,(.field T x f),type,pos,after,guard⟩).run P w) d:=by
 unfold execOp
 simp only
 simp only[opF] at h
 have hr:=hρ x
 split at h
 ·rename_i a b zz fs cs hT hx
  split at h
  ·rename_i off sz ft hf
   split at h
   ·rename_i ty hty
    split at h
    ·rename_i hsz
     simp only[Wc,Wi] at h
     obtain ⟨rfl,rfl,rfl⟩:=h
     obtain ⟨hfit,hag⟩:=hc
     rw[hx] at hr
     simp only[Rep] at hr
     obtain ⟨vs,he,hrl⟩:=hr
     obtain ⟨fields,hu,rfl,_⟩:=ZW hT
     obtain ⟨fd,g1,g2,g3,g4⟩:=VK hf
     subst g4
     have hlen:=hrl.length
     rw[he]
     cases hagg:ty.isAgg with
     | true =>
      refine .val I (v:=.agg ((vs.toArray).extract off (off+sz))) ?_ ?_
      ·simp[Instr.field,run_underlying hu,g1,part,asAgg,Ko hty,hagg,YA hty,hsz,g2]
      ·simp only[ZV,if_true,Rep]
       refine ⟨(vs.drop off).take sz,?_,(hrl.drop off).take sz⟩
       congr 1
       apply Array.ext'
       simp[List.extract_eq_take_drop]
     | false =>
      have h1:sz=1:=by rcases hag with h | h;(rw[hagg] at h;cases h);exact h
      subst h1
      obtain ⟨x0,hx0,hr0⟩:=hrl.get off (cs[off]'(by omega)) (by simp)
      refine .val I (v:=x0) ?_ ?_
      ·simp[Instr.field,run_underlying hu,g1,part,asAgg,Ko hty,hagg,g2,hx0]
      ·simp only[ZV,US,if_false]
       have:((cs.drop off).take 1).headD .any=cs[off]'(by omega):=by
        rw[List.take_one]
        simp[List.head?_drop,show off<cs.length by omega]
       rw[this];exact hr0
    ·cases h
   ·cases h
  ·cases h
 ·cases h
def XdZ (I:U8 P C s U M β w) (_hv:¬ U ver) {dst:Option Tmp} {type:TypeId} {pos:String} {after:Array Edge} {guard:Option (Nat×Bool)} (ρ:Operand->Value) (t:Operand->D) (hρ:∀ x,Rep P M β (t x) (ρ x)) {c:Prop} {d:D} {u:Up} (T:TypeId) (x:Operand) (ix:Operand)
 (h:opF P dst ver t s (.indexAddr T x ix)=some (c,d,u)) (hc:c):OpOK P C s u U ver M β ((execOp ρ ⟨dst,(.indexAddr T x ix),type,pos,after,guard⟩).run P w) d:=by
 unfold execOp
 simp only
 simp only[opF] at h
 have hr:=hρ x
 split at h
 ·rename_i a b zz E sz E' z es i hT hx hi
  split at h
  ·rename_i hsz
   obtain ⟨rfl,hne⟩:=hsz
   simp only[Wc,Wi] at h
   obtain ⟨rfl,rfl,rfl⟩:=h
   obtain ⟨k,hk,_⟩:=Ju hi (hρ ix)
   obtain ⟨hu,hcz⟩:=X0 hT
   rw[hx] at hr
   simp only[Rep] at hr
   obtain ⟨q1,q2,q3,base,cap,he,hcap,hr⟩:=hr
   have hlt:i.toNat<es.length:=by omega
   rcases hr with rfl | ⟨bb,o,rfl,hr⟩
   ·simp at hlt
   ·have hsize:∀ {n:Nat},sz=n->n≠0->(sizeOf E).run P w=.ok n w:=λ {n} h1 h2=>KD (hcz.symm.trans h1) h2 w
    have hrc:=hr.get q1 i.toNat es[i.toNat] (by simp[hlt])
    have hgd:es.getD i.toNat []=es[i.toNat]:=by rw[Wr,Wb hlt];rfl
    rcases Uq sz with hz0 | hz0
    ·exact absurd hz0 hne
    ·refine .val I (v:=.pointer (some ⟨bb,o+i.toNat*sz,none⟩)) ?_ ?_
     ·rw[he,hk]
      simp[Instr.indexAt,run_underlying hu,asIntOf,hc.1,hc.2,hsize rfl (by omega),U9]
     ·simp only[Rep]
      rw[hgd]
      exact ⟨q1 _ (WW _),bb,o+i.toNat*sz,by simp,hrc⟩
  ·cases h
 ·rename_i a b zz E sz id v z off len i hT hx hi
  split at h
  ·rename_i hsz
   obtain ⟨rfl,hne⟩:=hsz
   simp only[Wc,Wi] at h
   obtain ⟨rfl,rfl,rfl⟩:=h
   obtain ⟨k,hk,_⟩:=Ju hi (hρ ix)
   obtain ⟨hu,hcz⟩:=X0 hT
   rw[hx] at hr
   simp only[Rep] at hr
   rcases hr with ⟨_,_,rfl,_,_⟩ | ⟨bb,cb,o,cap,hb1,he,hcap,hcb,ho⟩
   ·omega
   ·have ho':o=off*sz:=by rcases ho with h | h;exact h;omega
    subst ho'
    refine .val I (v:=.pointer (some ⟨bb,off*sz+i.toNat*sz,none⟩)) ?_ ?_
    ·rw[he,hk]
     have hsize:=KD hcz.symm hne w
     simp[Instr.indexAt,run_underlying hu,asIntOf,hc.1,hc.2,hsize,U9]
    ·simp only[Rep]
     exact ⟨bb,cb,hb1,by rw[UE];simp⟩
  ·cases h
 ·rename_i a b zz n E sz z cs cc i hT hx hi
  split at h
  ·cases h
  ·rename_i hne
   simp only[Wc,Wi] at h
   obtain ⟨rfl,rfl,rfl⟩:=h
   obtain ⟨k,hk,_⟩:=Ju hi (hρ ix)
   obtain ⟨hu,hcz⟩:=Kq hT
   have hsize:=KD hcz.symm hne w
   rw[hx] at hr
   simp only[Rep] at hr
   obtain ⟨hz,bb,o,he,hrc⟩:=hr
   refine .val I (v:=.pointer (some ⟨bb,o+cc+i.toNat*sz,none⟩)) ?_ ?_
   ·rw[he,hk]
    simp[Instr.indexAt,run_underlying hu,asIntOf,Instr.sureAddr,hc.1,hc.2,hsize,U9]
   ·simp only[Rep];exact ⟨hz,bb,o,by rw[IN],hrc⟩
 ·rename_i a b zz n E sz id v z j cc i hT hx hi
  split at h
  ·cases h
  ·rename_i hne
   simp only[Wc,Wi] at h
   obtain ⟨rfl,rfl,rfl⟩:=h
   obtain ⟨k,hk,_⟩:=Ju hi (hρ ix)
   obtain ⟨hu,hcz⟩:=Kq hT
   have hsize:=KD hcz.symm hne w
   rw[hx] at hr
   simp only[Rep] at hr
   obtain ⟨bb,cb,hb1,he⟩:=hr
   refine .val I (v:=.pointer (some ⟨bb,j*z+cc+i.toNat*sz,none⟩)) ?_ ?_
   ·rw[he,hk]
    simp[Instr.indexAt,run_underlying hu,asIntOf,Instr.sureAddr,hc.1,hc.2,hsize,U9]
   ·simp only[Rep];exact ⟨bb,cb,hb1,by rw[IN]⟩
 ·cases h
def XjT (I:U8 P C s U M β w) (_hv:¬ U ver) {dst:Option Tmp} {type:TypeId} {pos:String} {after:Array Edge} {guard:Option (Nat×Bool)} (ρ:Operand->Value) (t:Operand->D) (hρ:∀ x,Rep P M β (t x) (ρ x)) {c:Prop} {d:D} {u:Up} (T:TypeId) (x:Operand) (ix:Operand)
 (h:opF P dst ver t s (.index T x ix)=some (c,d,u)) (hc:c):OpOK P C s u U ver M β ((execOp ρ ⟨dst,(.index T x ix),type,pos,after,guard⟩).run P w) d:=by
 unfold execOp
 simp only
 simp only[opF] at h
 have hr:=hρ x
 split at h
 ·rename_i a b zz n e sz cs i hT hx hi
  split at h
  ·rename_i ty hty
   split at h
   ·rename_i hsz
    simp only[Wc,Wi] at h
    obtain ⟨rfl,rfl,rfl⟩:=h
    obtain ⟨h0,hn,hfit,hag⟩:=hc
    obtain ⟨k,hk,_⟩:=Ju hi (hρ ix)
    obtain ⟨hu,hcz⟩:=Kq hT
    rw[hx] at hr
    simp only[Rep] at hr
    obtain ⟨vs,he,hrl⟩:=hr
    have hlen:=hrl.length
    rw[UE,Nat.one_mul] at hfit
    rw[he,hk]
    cases hagg:ty.isAgg with
    | true =>
     refine .val I (v:=.agg ((vs.toArray).extract (i.toNat*sz) (i.toNat*sz+sz))) ?_ ?_
     ·simp[Instr.index,run_underlying hu,asIntOf,h0,hn,part,asAgg,Ko hty,hagg,YA hty,hsz]
     ·simp only[ZV,if_true,Rep]
      refine ⟨(vs.drop (i.toNat*sz)).take sz,?_,(hrl.drop (i.toNat*sz)).take sz⟩
      congr 1
      apply Array.ext'
      simp[List.extract_eq_take_drop]
    | false =>
     have h1:sz=1:=by rcases hag with h | h;(rw[hagg] at h;cases h);exact h
     subst h1
     obtain ⟨x0,hx0,hr0⟩:=hrl.get (i.toNat*1) (cs[i.toNat*1]'(by omega)) (by simp)
     refine .val I (v:=x0) ?_ ?_
     ·simp[Instr.index,run_underlying hu,asIntOf,h0,hn,part,asAgg,Ko hty,hagg,YA hty,hsz]
      have:vs[i.toNat]? = some x0:=by rw[← hx0,Nat.mul_one]
      simp[this]
     ·simp only[ZV,US,if_false]
      have:((cs.drop (i.toNat*1)).take 1).headD .any=cs[i.toNat*1]'(by omega):=by
       rw[List.take_one]
       have hl:i.toNat<cs.length:=by omega
       simp[List.head?_drop,hl]
      rw[this];exact hr0
   ·cases h
  ·cases h
 ·cases h
def Xgo (I:U8 P C s U M β w) (_hv:¬ U ver) {dst:Option Tmp} {type:TypeId} {pos:String} {after:Array Edge} {guard:Option (Nat×Bool)} (ρ:Operand->Value) (t:Operand->D) (hρ:∀ x,Rep P M β (t x) (ρ x)) {c:Prop} {d:D} {u:Up} (x:Operand) (i:Nat)
 (h:opF P dst ver t s (.extract x i)=some (c,d,u)) (hc:c):OpOK P C s u U ver M β ((execOp ρ ⟨dst,(.extract x i),type,pos,after,guard⟩).run P w) d:=by
 unfold execOp
 simp only
 simp only[opF] at h
 have hr:=hρ x
 split at h
 ·rename_i ds hx
  split at h
  ·rename_i hi
   simp only[Wc,Wi] at h
   obtain ⟨rfl,rfl,rfl⟩:=h
   rw[hx] at hr
   simp only[Rep] at hr
   obtain ⟨vs,he,hrl⟩:=hr
   obtain ⟨v,hv1,hv2⟩:=hrl.get i ds[i] (by simp[hi])
   refine .val I (v:=v) ?_ ?_
   ·rw[he];simp[Instr.extract,hv1]
   ·rw[Wr,Wb hi];exact hv2
  ·cases h
 ·cases h
def V2 {t:Operand->D} {ρ:Operand->Value} (hρ:∀ x,Rep P M β (t x) (ρ x)) {args:Array Operand} {d:D} (h:args.toList.map t=[d]):∃ v,args.map ρ=#[v]/\Rep P M β d v:=by
 obtain ⟨l⟩:=args
 match l,h with
 | [x],h =>
  obtain rfl:t x=d:=by simpa using h
  exact ⟨ρ x,by simp,hρ x⟩
def JU {t:Operand->D} {ρ:Operand->Value} (hρ:∀ x,Rep P M β (t x) (ρ x)) {args:Array Operand} {d e:D} (h:args.toList.map t=[d,e]):∃ v u,args.map ρ=#[v,u]/\Rep P M β d v/\Rep P M β e u:=by
 obtain ⟨l⟩:=args
 match l,h with
 | [x,y],h =>
  obtain ⟨rfl,rfl⟩:t x=d/\t y=e:=by simpa using h
  exact ⟨ρ x,ρ y,by simp,hρ x,hρ y⟩
def XaI {types:Array TypeId} {T:TypeId} (h:types.toList=[T]):types=#[T]:=by
 obtain ⟨l⟩:=types;simp at h;simp[h]
def Xix {types:Array TypeId} {T T2:TypeId} (h:types.toList=[T,T2]):types=#[T,T2]:=by
 obtain ⟨l⟩:=types;simp at h;simp[h]
def Vl {n:Nat} (h:n<=Xn):wfV (.int .i64 n):=by
 simp only[wfV,IntKind.min,IntKind.max,IntKind.signed,IntKind.bits,if_true]
 simp only[Xn] at h
 omega
def Xpd (I:U8 P C s U M β w) {dst:Option Tmp} {type:TypeId} {pos:String} {after:Array Edge} {guard:Option (Nat×Bool)} (ρ:Operand->Value) (t:Operand->D) (hρ:∀ x,Rep P M β (t x) (ρ x)) {c:Prop} {d:D} {u:Up} (args:Array Operand) (types:Array TypeId)
 (h:opF P dst ver t s (.call ⟨.builtin .len,args,types⟩)=some (c,d,u)) (hc:c):OpOK P C s u U ver M β ((execOp ρ ⟨dst,.call ⟨.builtin .len,args,types⟩,type,pos,after,guard⟩).run P w) d:=by
 simp only[opF] at h
 split at h
 ·rename_i d0 T ha ht
  obtain ⟨v,hv,hr⟩:=V2 hρ ha
  have hty:=XaI ht
  subst hty
  have start:∀ r:Int,(Builtin.len_ #[T] type #[v]).run P w=.ok (.int .i64 r) w->(execOp ρ ⟨dst,.call ⟨.builtin .len,args,#[T]⟩,type,pos,after,guard⟩).run P w=.ok (.value (.int .i64 r)) w:=by
   intro r hrun
   simp[execOp,resolve,invoke,builtin,hv,hrun]
  split at h
  ·rename_i a b zz E sz hT
   simp only[Wc,Wi] at h
   obtain ⟨rfl,rfl,rfl⟩:=h
   simp only[Rep] at hr
   obtain ⟨a',rfl⟩:=hr
   exact .val I (v:=.int .i64 0) (start 0 (by simp[Builtin.len_,run_underlying (X0 hT).1,goInt])) (Ze _ _ (Vl (n:=0) (by decide)))
  ·rename_i a b zz E sz E' z es hT
   simp only[Wc,Wi] at h
   obtain ⟨rfl,rfl,rfl⟩:=h
   simp only[Rep] at hr
   obtain ⟨_,h2,_,a',cap,rfl,_⟩:=hr
   exact .val I (v:=.int .i64 es.length) (start _ (by simp[Builtin.len_,run_underlying (X0 hT).1,goInt])) (Ze _ _ (Vl h2))
  ·rename_i a b zz E sz id v' z off len hT
   simp only[Wc,Wi] at h
   obtain ⟨rfl,rfl,rfl⟩:=h
   have hv2:∃ a cap,v=.slice a len cap:=by
    simp only[Rep] at hr
    rcases hr with ⟨_,_,rfl,a,rfl⟩ | ⟨_,_,_,cap,_,rfl,_⟩
    ·exact ⟨_,_,rfl⟩
    ·exact ⟨_,_,rfl⟩
   obtain ⟨a',cap,rfl⟩:=hv2
   exact .val I (v:=.int .i64 len) (start _ (by simp[Builtin.len_,run_underlying (X0 hT).1,goInt])) (Ze _ _ (Vl hc))
  ·rename_i a b zz n E sz hT
   split at h
   ·rename_i hn
    simp only[Wc,Wi] at h
    obtain ⟨rfl,rfl,rfl⟩:=h
    exact .val I (v:=.int .i64 n) (start _ (by simp[Builtin.len_,run_underlying (Kq hT).1,goInt])) (Ze _ _ (Vl hn))
   ·cases h
  ·rename_i id v0 _
   split at h
   ·rename_i k E v' k2 es hT hs
    split at h
    ·rename_i hcond
     obtain ⟨rfl,rfl⟩:=hcond
     simp only[Wc,Wi] at h
     obtain ⟨rfl,rfl,rfl⟩:=h
     obtain ⟨K,hT1,hT2⟩:=Y5 hT
     simp only[Rep] at hr
     obtain ⟨b,cb,hb,rfl⟩:=hr
     obtain ⟨x0,hx0,hob⟩:=I.obs id v0 _ hs
     rw[hb] at hx0
     obtain rfl:some (b,cb)=x0:=by simpa using hx0
     obtain ⟨rfl,h1,h2,ents,clock,h3,h4,h5,h6⟩:=hob
     have hl:=h4.length
     have hl':ents.size=es.length:=by simpa using hl
     exact .val I (v:=.int .i64 es.length) (start _ (by simp[Builtin.len_,run_underlying hT1,goInt,Go.MapKept.run_getObj_map h3,hl'])) (Ze _ _ (Vl h1))
    ·cases h
   ·cases h
  ·cases h
 ·cases h
def Xiy (I:U8 P C s U M β w) {dst:Option Tmp} {type:TypeId} {pos:String} {after:Array Edge} {guard:Option (Nat×Bool)} (ρ:Operand->Value) (t:Operand->D) (hρ:∀ x,Rep P M β (t x) (ρ x)) {c:Prop} {d:D} {u:Up} (args:Array Operand) (types:Array TypeId)
 (h:opF P dst ver t s (.call ⟨.builtin .delete,args,types⟩)=some (c,d,u)) (_hc:c):OpOK P C s u U ver M β ((execOp ρ ⟨dst,.call ⟨.builtin .delete,args,types⟩,type,pos,after,guard⟩).run P w) d:=by
 simp only[opF] at h
 split at h
 ·rename_i id v k' n T ts ha ht
  obtain ⟨v1,v2,hvs,hr1,hr2⟩:=JU hρ ha
  obtain ⟨tl⟩:=types
  simp only at ht
  subst ht
  split at h
  ·rename_i k E v' k2 es hT hs
   split at h
   ·rename_i hcond
    obtain ⟨rfl,rfl,rfl⟩:=hcond
    simp only[Wc,Wi] at h
    obtain ⟨rfl,rfl,rfl⟩:=h
    obtain ⟨K,hT1,hT2⟩:=Y5 hT
    simp only[Rep] at hr1 hr2
    obtain ⟨b,cb,hb,rfl⟩:=hr1
    obtain ⟨rfl,_⟩:=hr2
    obtain ⟨x0,hx0,hob⟩:=I.obs id v _ hs
    rw[hb] at hx0
    obtain rfl:some (b,cb)=x0:=by simpa using hx0
    obtain ⟨rfl,h1,h2,ents,clock,h3,h4,h5,h6⟩:=hob
    have start:∀ a,Instr.findNow (.int k) (.int k n) ents.toList 0=some a->(Builtin.delete_ ⟨T::ts⟩ type #[.map (some b),.int k n]).run P w =
     .ok (.tuple #[]) { w with heap:=w.heap.setIfInBounds b (.map (match a with | some (i,_)=>ents.eraseIdxIfInBounds i | none=>ents) clock) }:=by
     intro a ha
     unfold Builtin.delete_
     cases a with
     | none=>simp[run_underlying hT1,Go.MapKept.run_getObj_map h3,Go.MapKept.run_checkKey hT2 (Kt k n),Go.MapKept.run_findKey hT2 ha,Go.MapKept.run_setObj_map _ h3]
     | some y=>simp[run_underlying hT1,Go.MapKept.run_getObj_map h3,Go.MapKept.run_checkKey hT2 (Kt k n),Go.MapKept.run_findKey hT2 ha,Go.MapKept.run_setObj_map _ h3]
    have start2:∀ a,Instr.findNow (.int k) (.int k n) ents.toList 0=some a->(execOp ρ ⟨dst,.call ⟨.builtin .delete,args,⟨T::ts⟩⟩,type,pos,after,guard⟩).run P w =
     .ok (.value (.tuple #[])) { w with heap:=w.heap.setIfInBounds b (.map (match a with | some (i,_)=>ents.eraseIdxIfInBounds i | none=>ents) clock) }:=by
     intro a ha
     simp[execOp,resolve,invoke,builtin,hvs,start a ha]
    rcases V1 n ents.toList es 0 h4 with ⟨g1,g2,g3,g4⟩ | ⟨j,e,d0,g1,g2,g3,g4,g5,g6,g7,g8,g9⟩
    ·refine ⟨M,β,_,.tuple #[],.inl (start2 _ g4),?_,by simp[Rep,RepL],MLe.refl _,BLe.refl _⟩
     rw[g2]
     exact (I.setMap hs hb h3 h1 h4 h5 h6).mono λ _ h=>.inl h
    ·have hle:(ents.eraseIdxIfInBounds (0+j)).toList=ents.toList.eraseIdx j:=by
      have hj:j<ents.size:=by
       rcases Uw j ents.size with h' | h'
       ·exact h'
       ·rw[WZ (by simpa using h')] at g3;cases g3
      rw[Ut]
      simp[Array.eraseIdxIfInBounds,hj]
     refine ⟨M,β,_,.tuple #[],.inl (start2 _ g2),?_,by simp[Rep,RepL],MLe.refl _,BLe.refl _⟩
     refine (I.setMap hs hb h3 (by omega) (by rw[hle];exact g7) ?_ ?_).mono λ _ h=>.inl h
     ·rw[hle]
      exact h5.sublist ((List.eraseIdx_sublist _ _).map _)
     ·intro e' he'
      rw[hle] at he'
      exact h6 e' (List.mem_of_mem_eraseIdx he')
   ·cases h
  ·cases h
 ·cases h
def Xpe (I:U8 P C s U M β w) {dst:Option Tmp} {type:TypeId} {pos:String} {after:Array Edge} {guard:Option (Nat×Bool)} (ρ:Operand->Value) (t:Operand->D) (hρ:∀ x,Rep P M β (t x) (ρ x)) {c:Prop} {d:D} {u:Up} (args:Array Operand) (types:Array TypeId)
 (h:opF P dst ver t s (.call ⟨.builtin .cap,args,types⟩)=some (c,d,u)) (_hc:c):OpOK P C s u U ver M β ((execOp ρ ⟨dst,.call ⟨.builtin .cap,args,types⟩,type,pos,after,guard⟩).run P w) d:=by
 simp only[opF] at h
 split at h
 ·rename_i d0 T ha ht
  obtain ⟨v,hv,hr⟩:=V2 hρ ha
  have hty:=XaI ht
  subst hty
  split at h
  ·rename_i a b zz E sz hT
   simp only[Wc,Wi] at h
   obtain ⟨rfl,rfl,rfl⟩:=h
   simp only[Rep] at hr
   obtain ⟨a',rfl⟩:=hr
   exact .val I (v:=.int .i64 0) (by simp[execOp,resolve,invoke,builtin,hv,Builtin.cap_,run_underlying (X0 hT).1,goInt]) (Ze _ _ (Vl (n:=0) (by decide)))
  ·cases h
 ·cases h
def Xpf (I:U8 P C s U M β w) {dst:Option Tmp} {type:TypeId} {pos:String} {after:Array Edge} {guard:Option (Nat×Bool)} (ρ:Operand->Value) (t:Operand->D) (hρ:∀ x,Rep P M β (t x) (ρ x)) {c:Prop} {d:D} {u:Up} (args:Array Operand) (types:Array TypeId)
 (h:opF P dst ver t s (.call ⟨.builtin .min,args,types⟩)=some (c,d,u)) (_hc:c):OpOK P C s u U ver M β ((execOp ρ ⟨dst,.call ⟨.builtin .min,args,types⟩,type,pos,after,guard⟩).run P w) d:=by
 simp only[opF] at h
 split at h
 ·rename_i j a k b ha
  split at h
  ·rename_i hk
   subst hk
   obtain ⟨v1,v2,hv,hr1,hr2⟩:=JU hρ ha
   simp only[Wc,Wi] at h
   obtain ⟨rfl,rfl,rfl⟩:=h
   simp only[Rep] at hr1 hr2
   obtain ⟨rfl,w1⟩:=hr1
   obtain ⟨rfl,w2⟩:=hr2
   refine .val I (v:=.int j (if b<a then b else a)) (by simp[execOp,resolve,invoke,builtin,hv,Builtin.min_,Builtin.min2]) (Ze _ _ ?_)
   split<;>assumption
  ·cases h
 ·cases h
def Xpg (I:U8 P C s U M β w) {dst:Option Tmp} {type:TypeId} {pos:String} {after:Array Edge} {guard:Option (Nat×Bool)} (ρ:Operand->Value) (t:Operand->D) (hρ:∀ x,Rep P M β (t x) (ρ x)) {c:Prop} {d:D} {u:Up} (args:Array Operand) (types:Array TypeId)
 (h:opF P dst ver t s (.call ⟨.builtin .max,args,types⟩)=some (c,d,u)) (_hc:c):OpOK P C s u U ver M β ((execOp ρ ⟨dst,.call ⟨.builtin .max,args,types⟩,type,pos,after,guard⟩).run P w) d:=by
 simp only[opF] at h
 split at h
 ·rename_i j a k b ha
  split at h
  ·rename_i hk
   subst hk
   obtain ⟨v1,v2,hv,hr1,hr2⟩:=JU hρ ha
   simp only[Wc,Wi] at h
   obtain ⟨rfl,rfl,rfl⟩:=h
   simp only[Rep] at hr1 hr2
   obtain ⟨rfl,w1⟩:=hr1
   obtain ⟨rfl,w2⟩:=hr2
   refine .val I (v:=.int j (if a<b then b else a)) (by simp[execOp,resolve,invoke,builtin,hv,Builtin.max_,Builtin.max2]) (Ze _ _ ?_)
   split<;>assumption
  ·cases h
 ·cases h
def Xiz (I:U8 P C s U M β w) (hv:¬ U ver) {dst:Option Tmp} {type:TypeId} {pos:String} {after:Array Edge} {guard:Option (Nat×Bool)} (ρ:Operand->Value) (t:Operand->D) (hρ:∀ x,Rep P M β (t x) (ρ x)) {c:Prop} {d:D} {u:Up} (args:Array Operand) (types:Array TypeId)
 (h:opF P dst ver t s (.call ⟨.builtin .append,args,types⟩)=some (c,d,u)) (hc:c):OpOK P C s u U ver M β ((execOp ρ ⟨dst,.call ⟨.builtin .append,args,types⟩,type,pos,after,guard⟩).run P w) d:=by
 simp only[opF] at h
 split at h
 ·rename_i d0 x0 T T2 ha ht
  obtain ⟨v1,v2,hvs,hr1,hr2⟩:=JU hρ ha
  have hty:=Xix ht
  subst hty
  have start:∀ {d u},VOK P C s u U ver M β ((Builtin.append_ #[T,T2] type #[v1,v2]).run P w) d->OpOK P C s u U ver M β ((execOp ρ ⟨dst,.call ⟨.builtin .append,args,#[T,T2]⟩,type,pos,after,guard⟩).run P w) d:=by
   intro d u hk
   have:=VOK.op (sem:=Builtin.append_ #[T,T2] type #[v1,v2]) hk
   have e:(execOp ρ ⟨dst,.call ⟨.builtin .append,args,#[T,T2]⟩,type,pos,after,guard⟩).run P w=((do pure (Next.value (← Builtin.append_ #[T,T2] type #[v1,v2])):Sem Next)).run P w:=by
    simp[execOp,resolve,invoke,builtin,hvs]
   rw[e];exact this
  split at h
  ·rename_i a b zz E z hT
   split at h
   ·rename_i te hE
    split at h
    ·rename_i zc hzc
     split at h
     ·rename_i hcond
      obtain ⟨hz,hzl⟩:=hcond
      obtain ⟨z1,z2⟩:=YU (P:=P) (M:=M) (β:=β) hzc
      have hzs:te.zero.cells.size=te.size:=by have:=z1.length;simp at this;omega
      split at h
      ·rename_i a2 b2 zz2 E2 sz2 hT2
       split at h
       ·rename_i c0 src hel
        have hc0:c0:=by
         unfold XcP at h
         split at h
         ·simp only[Wc,Wi] at h;rw[← h.1] at hc;exact hc.1
         ·split at h
          ·split at h
           ·split at h
            ·simp only[Wc,Wi] at h;rw[← h.1] at hc;exact hc.1
            ·simp only[Wc,Wi] at h;rw[← h.1] at hc;exact hc.1
           ·cases h
          ·cases h
         ·cases h
        obtain ⟨base,cap,vals,rfl,e1,e2,e3,e4,e5,e6⟩:=XeS I hel hc0 hr2
        have R:=XdT (w:=w) (o':=type) (X0 hT).1 (X0 hT2).1 hE (xb:=base) (m:=src.length) (xc:=cap) (vals:=vals) (by rw[hz];exact e2) e3 e4 e6
        exact start (Xhl I hv hE hz hzc hzl e1 e5 e6 R h hc hr1)
       ·cases h
      ·rename_i a2 b2 zz2 k2 hT2
       split at h
       ·rename_i n hn
        have hc0:(0<=n/\n<=Xn/\n.toNat*te.bytes<=Xn):=by
         unfold XcP at h
         split at h
         ·simp only[Wc,Wi] at h;rw[← h.1] at hc;exact hc.1
         ·split at h
          ·split at h
           ·split at h
            ·simp only[Wc,Wi] at h;rw[← h.1] at hc;exact hc.1
            ·simp only[Wc,Wi] at h;rw[← h.1] at hc;exact hc.1
           ·cases h
          ·cases h
         ·cases h
        obtain ⟨g0,g1,g2⟩:=hc0
        obtain ⟨k',hk',_⟩:=Ju hn hr2
        subst hk'
        have hvl:(if n.toNat*te.size=0 then ([]:List Value) else (Builtin.zeroCells te.zero.cells n.toNat).toList)=(Builtin.zeroCells te.zero.cells n.toNat).toList:=by
         split
         ·rename_i h0
          refine (WQ ?_).symm
          rw[If,X6,hzs];exact h0
         ·rfl
        have hone:∀ v∈(Builtin.zeroCells te.zero.cells n.toNat).toList,v.oneCell'=true:=λ v hv=>YV z2 n.toNat v (by simpa using hv)
        have R:=XeT (w:=w) (o':=type) (k':=k') (X0 hT).1 (VZ hT2) hE g0 g1 g2 (vals:=(Builtin.zeroCells te.zero.cells n.toNat).toList) hvl.symm hone hzs
        exact start (Xhl I hv hE hz hzc hzl (YH _ _ _ hzl) (Vk hzc n.toNat) hone (by rw[WO];exact R) h hc hr1)
       ·cases h
      ·cases h
     ·cases h
    ·cases h
   ·cases h
  ·cases h
 ·cases h
def XjU (I:U8 P C s U M β w) {dst:Option Tmp} {type:TypeId} {pos:String} {after:Array Edge} {guard:Option (Nat×Bool)} (ρ:Operand->Value) (t:Operand->D) (hρ:∀ x,Rep P M β (t x) (ρ x)) {c:Prop} {d:D} {u:Up} (args:Array Operand) (types:Array TypeId)
 (h:opF P dst ver t s (.call ⟨.builtin .clear,args,types⟩)=some (c,d,u)) (hc:c):OpOK P C s u U ver M β ((execOp ρ ⟨dst,.call ⟨.builtin .clear,args,types⟩,type,pos,after,guard⟩).run P w) d:=by
 simp only[opF] at h
 split at h
 ·rename_i id v z off len T ha ht
  obtain ⟨v1,hvs,hr1⟩:=V2 hρ ha
  have hty:=XaI ht
  subst hty
  split at h
  ·rename_i a b zz E sz hT
   split at h
   ·rename_i te hE
    split at h
    ·rename_i zc v' E' z' es fz hzc hs
     split at h
     ·rename_i hcond
      obtain ⟨rfl,rfl,rfl,hz,hzl⟩:=hcond
      simp only[Wc,Wi] at h
      obtain ⟨rfl,rfl,rfl⟩:=h
      obtain ⟨hfit,hfz⟩:=hc
      obtain ⟨hu,hcz⟩:=X0 hT
      have start:∀ {w'},(Builtin.clear_ #[T] type #[v1]).run P w=.ok (.tuple #[]) w'->(execOp ρ ⟨dst,.call ⟨.builtin .clear,args,#[T]⟩,type,pos,after,guard⟩).run P w=.ok (.value (.tuple #[])) w':=by
       intro w' hk
       simp[execOp,resolve,invoke,builtin,hvs,hk]
      have same:len=0->upd s id (some (v,.arr false E' z (es.take off++List.replicate len zc++es.drop (off+len)) fz))=s:=by
       rintro rfl
       funext i
       unfold upd
       split
       ·rename_i e;subst e;rw[hs];simp
       ·rfl
      have nil:∀ {a cap},len=0->v1=.slice a 0 cap->OpOK P C s [(id,v,.arr false E' z (es.take off++List.replicate len zc++es.drop (off+len)) fz)] U ver M β ((execOp ρ ⟨dst,.call ⟨.builtin .clear,args,#[T]⟩,type,pos,after,guard⟩).run P w) (.tup []):=by
       intro a cap h0 h1
       subst h1
       refine ⟨M,β,w,.tuple #[],.inl (start ?_),?_,by simp[Rep,RepL],MLe.refl _,BLe.refl _⟩
       ·unfold Builtin.clear_
        cases a<;>simp[run_underlying hu]
       ·rw[Xiq,same h0];exact I.mono λ _ h=>.inl h
      obtain ⟨x0,hx0,hob⟩:=I.obs id v _ hs
      simp only[Rep] at hr1
      rcases hr1 with ⟨hn,h1,h2,a,rfl⟩ | ⟨bb,cb,o,cap,hb1,rfl,hcap,hcb,ho⟩
      ·exact nil h2 rfl
      ·rw[hb1] at hx0
       obtain rfl:some (bb,cb)=x0:=by simpa using hx0
       obtain ⟨cs,T0,k1,k2,k3,k4,k5,k6,k7,k8,k9,k10⟩:=hob
       by_cases h0:len=0
       ·subst h0;exact nil rfl rfl
       have ho':o=off*z:=by rcases ho with h | h;exact h;omega
       subst ho'
       obtain ⟨z1,z2⟩:=YU (P:=P) (M:=M) (β:=Yj) hzc
       have hzs:te.zero.cells.size=z:=by have:=z1.length;simp at this;omega
       have hvl:(Builtin.zeroCells te.zero.cells len).toList.length=(List.replicate len zc).length*z:=by
        rw[If,X6,WO,hzs]
       have hone:∀ x∈(Builtin.zeroCells te.zero.cells len).toList,x.oneCell'=true:=λ x hx=>YV z2 len x (by simpa using hx)
       have hmul:(off+len)*z<=cb*z:=W8 _ (by omega)
       rw[UE] at hmul
       have hst:=run_storeCells_at P bb (off*z) T0 (Builtin.zeroCells te.zero.cells len).toList 0 cs w k1 (by rw[hvl,WO];omega) hone
       simp only[Im] at hst
       have I':=I.seg (p:=off) (src:=List.replicate len zc) hs hb1 k1 k2 k3 k4 k8 (by simpa [XbG] using k10) (λ e he=>by rw[(List.mem_replicate.1 he).2];exact hzl) hvl (Vk hzc len) hone (by rw[WO];exact hfit) hfz
       rw[WO] at I'
       refine ⟨M,β,_,.tuple #[],.inl (start ?_),(by rw[Xiq];exact I'.mono λ _ h=>.inl h),by simp[Rep,RepL],MLe.refl _,BLe.refl _⟩
       unfold Builtin.clear_
       cases len with
       | zero=>exact absurd rfl h0
       | succ len=>simp[run_underlying hu,Zn hE,hst]
     ·cases h
    ·cases h
   ·cases h
  ·cases h
 ·rename_i id v T ts ha ht
  obtain ⟨v1,hvs,hr1⟩:=V2 hρ ha
  obtain ⟨tl⟩:=types
  simp only at ht
  subst ht
  split at h
  ·rename_i k E v' k2 es hT hs
   split at h
   ·rename_i hcond
    obtain ⟨rfl,rfl⟩:=hcond
    simp only[Wc,Wi] at h
    obtain ⟨rfl,rfl,rfl⟩:=h
    obtain ⟨K,hT1,hT2⟩:=Y5 hT
    simp only[Rep] at hr1
    obtain ⟨b,cb,hb,rfl⟩:=hr1
    obtain ⟨x0,hx0,hob⟩:=I.obs id v _ hs
    rw[hb] at hx0
    obtain rfl:some (b,cb)=x0:=by simpa using hx0
    obtain ⟨rfl,h1,h2,ents,clock,h3,h4,h5,h6⟩:=hob
    have start:(execOp ρ ⟨dst,.call ⟨.builtin .clear,args,⟨T::ts⟩⟩,type,pos,after,guard⟩).run P w=.ok (.value (.tuple #[])) { w with heap:=w.heap.setIfInBounds b (.map #[] clock) }:=by
     have:(Builtin.clear_ ⟨T::ts⟩ type #[.map (some b)]).run P w=.ok (.tuple #[]) { w with heap:=w.heap.setIfInBounds b (.map #[] clock) }:=by
      unfold Builtin.clear_
      simp[run_underlying hT1,Go.MapKept.run_getObj_map h3,Go.MapKept.run_setObj_map _ h3]
     simp[execOp,resolve,invoke,builtin,hvs,this]
    refine ⟨M,β,_,.tuple #[],.inl start,?_,by simp[Rep,RepL],MLe.refl _,BLe.refl _⟩
    exact (I.setMap (es':=[]) (ents':=#[]) hs hb h3 (Un _) rfl (by simp) (by simp)).mono λ _ h=>.inl h
   ·cases h
  ·cases h
 ·cases h
def XmT (I:U8 P C s U M β w) {dst:Option Tmp} {type:TypeId} {pos:String} {after:Array Edge} {guard:Option (Nat×Bool)} (ρ:Operand->Value) (t:Operand->D) (hρ:∀ x,Rep P M β (t x) (ρ x)) {c:Prop} {d:D} {u:Up} (args:Array Operand) (types:Array TypeId)
 (h:opF P dst ver t s (.call ⟨.builtin .copy,args,types⟩)=some (c,d,u)) (hc:c):OpOK P C s u U ver M β ((execOp ρ ⟨dst,.call ⟨.builtin .copy,args,types⟩,type,pos,after,guard⟩).run P w) d:=by
 simp only[opF] at h
 split at h
 ·rename_i id v z off len x T ts ha ht
  obtain ⟨v1,v2,hvs,hr1,hr2⟩:=JU hρ ha
  obtain ⟨types⟩:=types
  simp only at ht
  subst ht
  split at h
  ·rename_i a b zz E sz hT
   split at h
   ·rename_i te v' E' z' es fz c0 src hE hs hel
    split at h
    ·rename_i hcond
     obtain ⟨rfl,rfl,rfl,hz⟩:=hcond
     simp only[Wc,Wi] at h
     obtain ⟨rfl,rfl,rfl⟩:=h
     obtain ⟨hc0,hlen,hfit,hfz⟩:=hc
     obtain ⟨hu,hcz⟩:=X0 hT
     obtain ⟨base,cap2,vals,rfl,e1,e2,e3,e4,e5,e6⟩:=XeS I hel hc0 hr2
     have hf:(Builtin.firstCells te.size src.length (.slice base src.length cap2)).run P w=.ok vals.toArray w:=by
      cases base with
      | none =>
       have hm:=e3 rfl
       have:vals=[]:=WQ (by rw[e2,hm,Nat.zero_mul])
       subst this
       simp[Builtin.firstCells]
      | some a=>exact run_firstCells_some (P:=P) w te.size src.length a src.length cap2 vals (by rw[hz];exact e2) (λ j v hj=>e4 a rfl j v hj)
     have start:∀ {w' x'},(Builtin.copy_ ⟨T::ts⟩ type #[v1,.slice base src.length cap2]).run P w=.ok x' w'->(execOp ρ ⟨dst,.call ⟨.builtin .copy,args,⟨T::ts⟩⟩,type,pos,after,guard⟩).run P w=.ok (.value x') w':=by
      intro w' x' hk
      simp[execOp,resolve,invoke,builtin,hvs,hk]
     have hl47:src.length<=140737488355328:=by
      have:=(I.obs id v _ hs)
      obtain ⟨x0,_,hob⟩:=this
      cases x0 with
      | none =>
       obtain ⟨_,h2,_⟩:=hob
       subst h2
       simp at hfit
       omega
      | some bc =>
       obtain ⟨_,_,_,_,_,_,h5,_⟩:=hob
       simp only[Xn] at h5
       omega
     have hres:Rep P M β (.v (.int .i64 (src.length:Int))) (goInt src.length):=Ze _ _ ⟨by show (-9223372036854775808:Int)<=_;omega,by show _<=(9223372036854775807:Int);omega⟩
     have hn:Nat.min src.length len=src.length:=Oh hlen
     have nil:∀ {a cap},src=[]->v1=.slice a len cap->OpOK P C s [(id,v,.arr false E' z (es.take off++src++es.drop (off+src.length)) fz)] U ver M β ((execOp ρ ⟨dst,.call ⟨.builtin .copy,args,⟨T::ts⟩⟩,type,pos,after,guard⟩).run P w) (.v (.int .i64 (src.length:Int))):=by
      intro a cap h0 h1
      subst h1
      have hv0:vals=[]:=WQ (by rw[e2,h0];simp)
      have same:upd s id (some (v,.arr false E' z (es.take off++src++es.drop (off+src.length)) fz))=s:=by
       funext i
       unfold upd
       split
       ·rename_i e;subst e;rw[hs,h0];simp
       ·rfl
      refine ⟨M,β,w,goInt src.length,.inl (start ?_),?_,hres,MLe.refl _,BLe.refl _⟩
      ·unfold Builtin.copy_
       rw[hv0] at hf
       cases a<;>simp[run_underlying hu,Builtin.lenOf,hn,YA hE,hf,storeCells]
      ·rw[Xiq,same];exact I.mono λ _ h=>.inl h
     obtain ⟨x0,hx0,hob⟩:=I.obs id v _ hs
     simp only[Rep] at hr1
     rcases hr1 with ⟨hn0,h1,h2,a,rfl⟩ | ⟨bb,cb,o,cap,hb1,rfl,hcap,hcb,ho⟩
     ·subst h2
      exact nil (WQ (by omega)) rfl
     ·rw[hb1] at hx0
      obtain rfl:some (bb,cb)=x0:=by simpa using hx0
      obtain ⟨cs,T0,k1,k2,k3,k4,k5,k6,k7,k8,k9,k10⟩:=hob
      by_cases h0:src.length=0
      ·exact nil (WQ h0) rfl
      have ho':o=off*z:=by rcases ho with h | h;exact h;omega
      subst ho'
      have hmul:(off+src.length)*z<=cb*z:=W8 _ (by omega)
      rw[UE] at hmul
      have hst:=run_storeCells_at P bb (off*z) T0 vals 0 cs w k1 (by rw[e2];omega) e6
      simp only[Im] at hst
      have I':=I.seg (p:=off) (src:=src) hs hb1 k1 k2 k3 k4 k8 (by simpa [XbG] using k10) e1 e2 e5 e6 (by omega) hfz
      refine ⟨M,β,_,goInt src.length,.inl (start ?_),(by rw[Xiq];exact I'.mono λ _ h=>.inl h),hres,MLe.refl _,BLe.refl _⟩
      unfold Builtin.copy_
      simp[run_underlying hu,Builtin.lenOf,hn,YA hE,hf,hst]
    ·cases h
   ·cases h
  ·cases h
 ·cases h
def Jw {t:TypeId} {ty:Ou} (h:Xm P t=some ty) (hi:¬ ty.isIface=true):∃ d,P.underlying t=some d/\∀ m,d≠.interface m:=by
 obtain ⟨i,d,_,h2,_,_,_,h6⟩:=X3 h
 refine ⟨d,h2,λ m e=>hi ?_⟩
 subst e
 unfold Ou.isIface
 rw[← h6];rfl
def XaJ (I:U8 P C s U M β w) (_hv:¬ U ver) {dst:Option Tmp} {type:TypeId} {pos:String} {after:Array Edge} {guard:Option (Nat×Bool)} (ρ:Operand->Value) (t:Operand->D) (hρ:∀ x,Rep P M β (t x) (ρ x)) {c:Prop} {d:D} {u:Up} (T:TypeId) (x:Operand)
 (h:opF P dst ver t s (.makeInterface T x)=some (c,d,u)) (hc:c):OpOK P C s u U ver M β ((execOp ρ ⟨dst,(.makeInterface T x),type,pos,after,guard⟩).run P w) d:=by
 unfold execOp
 simp only
 simp only[opF] at h
 split at h
 ·rename_i ty hT
  split at h
  ·cases h
  rename_i hi
  simp only[Wc,Wi] at h
  obtain ⟨rfl,rfl,rfl⟩:=h
  obtain ⟨dd,hu,hne⟩:=Jw hT hi
  refine .val I (v:=.iface T (ρ x)) ?_ ?_
  ·cases dd<;>first | exact absurd rfl (hne _) | simp[Instr.makeInterface,run_underlying hu]
  ·simp only[Rep];exact ⟨_,rfl,hρ x⟩
 ·cases h
def XcV (I:U8 P C s U M β w) (_hv:¬ U ver) {dst:Option Tmp} {type:TypeId} {pos:String} {after:Array Edge} {guard:Option (Nat×Bool)} (ρ:Operand->Value) (t:Operand->D) (hρ:∀ x,Rep P M β (t x) (ρ x)) {c:Prop} {d:D} {u:Up} (x:Operand) (xT A:TypeId) (ok:Bool)
 (h:opF P dst ver t s (.typeAssert x xT A ok)=some (c,d,u)) (hc:c):OpOK P C s u U ver M β ((execOp ρ ⟨dst,(.typeAssert x xT A ok),type,pos,after,guard⟩).run P w) d:=by
 unfold execOp
 simp only
 simp only[opF] at h
 have hr:=hρ x
 split at h
 ·rename_i te T d0 hT hx
  rw[hx] at hr
  split at h
  ·cases h
  rename_i hi
  obtain ⟨dd,hu,hne⟩:=Jw hT hi
  simp only[Rep] at hr
  obtain ⟨y,he,hy⟩:=hr
  split at h
  ·rename_i e
   simp only[Wc,Wi] at h
   obtain ⟨rfl,rfl,rfl⟩:=h
   refine .val I (v:=.tuple #[y,.bool true]) ?_ ?_
   ·rw[he];cases dd<;>first | exact absurd rfl (hne _) | simp[Instr.typeAssert,run_underlying hu,e]
   ·simp only[Rep,RepL];exact ⟨_,rfl,_,_,rfl,hy,_,_,rfl,⟨rfl,trivial⟩,rfl⟩
  ·rename_i e
   simp only[Wc,Wi] at h
   obtain ⟨rfl,rfl,rfl⟩:=h
   refine .val I (v:=.tuple #[te.zero,.bool false]) ?_ ?_
   ·rw[he];cases dd<;>first | exact absurd rfl (hne _) | simp[Instr.typeAssert,run_underlying hu,e,Zn hT]
   ·simp only[Rep,RepL];exact ⟨_,rfl,_,_,rfl,Jt _,_,_,rfl,⟨rfl,trivial⟩,rfl⟩
 ·rename_i te hT hx
  rw[hx] at hr
  split at h
  ·cases h
  rename_i hi
  obtain ⟨dd,hu,hne⟩:=Jw hT hi
  simp only[Rep] at hr
  simp only[Wc,Wi] at h
  obtain ⟨rfl,rfl,rfl⟩:=h
  refine .val I (v:=.tuple #[te.zero,.bool false]) ?_ ?_
  ·rw[hr.1];cases dd<;>first | exact absurd rfl (hne _) | simp[Instr.typeAssert,run_underlying hu,Zn hT]
  ·simp only[Rep,RepL];exact ⟨_,rfl,_,_,rfl,Jt _,_,_,rfl,⟨rfl,trivial⟩,rfl⟩
 ·cases h
def XjV (I:U8 P C s U M β w) (hv:¬ U ver) (o:Oper) (ρ:Operand->Value) (t:Operand->D) (hρ:∀ x,Rep P M β (t x) (ρ x)) (hcn:∀ v,ρ (.const v)=v) {c:Prop} {d:D} {u:Up}
 (h:opF P o.dst ver t s o.op=some (c,d,u)) (hc:c):OpOK P C s u U ver M β ((execOp ρ o).run P w) d:=by
 obtain ⟨dst,op,type,pos,after,guard⟩:=o
 simp only at h
 cases op with
 | move x=>exact XmP I hv ρ t hρ x h hc
 | assign x=>exact Xiv I hv ρ t hρ x h hc
 | pick g a b=>exact XmQ I hv ρ t hρ g a b h hc
 | alloc T=>exact XjN I hv ρ t hρ T h hc
 | box T x=>exact Xpc I hv ρ t hρ T x h hc
 | build T parts=>exact XjO I hv ρ t hρ T parts h hc
 | buildSlice T n parts=>exact XcU I hv ρ t hρ T n parts h hc
 | load T a=>exact XmR I hv ρ t hρ T a h hc
 | store T a x=>exact XjP I hv ρ t hρ T a x h hc
 | nilCheck x=>exact XeW I hv ρ t hρ x h hc
 | binOp op T x y yt=>exact XjQ I hv ρ t hρ op T x y yt (λ v e=>by rw[e];exact hcn v) h hc
 | unOp op T x=>exact XmS I hv ρ t hρ op T x h hc
 | convert S T x=>exact Xgn I hv ρ t hρ S T x h hc
 | makeFunc fn first captured=>exact XeX I hv ρ t hρ fn first captured h hc
 | makeSlice T l cc=>exact XdX I hv ρ t hρ T l cc h hc
 | slice T x lo hi mx=>exact XjR I hv ρ t hρ T x lo hi mx h hc
 | fieldAddr T x f=>exact XdY I hv ρ t hρ T x f h hc
 | field T x f=>exact XjS I hv ρ t hρ T x f h hc
 | indexAddr T x ix=>exact XdZ I hv ρ t hρ T x ix h hc
 | index T x ix=>exact XjT I hv ρ t hρ T x ix h hc
 | makeMap T r=>exact Xgl I hv ρ t hρ T r h hc
 | mapUpdate T m k x=>exact XdW I hv ρ t hρ T m k x h hc
 | insert T m k x=>exact Xit I hv ρ t hρ T m k x h hc
 | lookup T m k ok=>exact Xiu I hv ρ t hρ T m k ok h hc
 | mapEntry T m k=>exact XeV I hv ρ t hρ T m k h hc
 | entryStore T m e x=>exact XcT I hv ρ t hρ T m e x h hc
 | extract x i=>exact Xgo I hv ρ t hρ x i h hc
 | makeInterface T x=>exact XaJ I hv ρ t hρ T x h hc
 | typeAssert x xT A ok=>exact XcV I hv ρ t hρ x xT A ok h hc
 | call cl =>
  obtain ⟨callee,args,types⟩:=cl
  cases callee with
  | value f=>simp[opF] at h
  | invoke r m=>simp[opF] at h
  | builtin b =>
   cases b with
   | len=>exact Xpd I ρ t hρ args types h hc
   | delete=>exact Xiy I ρ t hρ args types h hc
   | clear=>exact XjU I ρ t hρ args types h hc
   | copy=>exact XmT I ρ t hρ args types h hc
   | cap=>exact Xpe I ρ t hρ args types h hc
   | min=>exact Xpf I ρ t hρ args types h hc
   | max=>exact Xpg I ρ t hρ args types h hc
   | append=>exact Xiz I hv ρ t hρ args types h hc
   | _=>simp[opF] at h
 | _=>simp[opF] at h
end
variable {P:Program}
structure St where
 t:Nat->D
 s:Heap
 n:Nat
 k:Nat
def Rel (P:Program) (C:Cx) (st:St) (a:Act) (w:World):Prop :=
 a.defers=C.df/\a.tmps.size=st.n/\∃ M β,BLe C.b0 β/\(∀ x,Rep P M β (st.t x) (a.tmps.getD x undef))/\U8 P C st.s (·<st.k) M β w
def Xd0 {C:Cx} {s:Heap} {U:Nat->Prop} {M:Mem} {β:Loc} {w:World} (I:U8 P C s U M β w) {t:Nat->D} {a:Act} (h:∀ x,Rep P M β (t x) (a.tmps.getD x undef)) (x:Operand) :
 Rep P M β (ev t C.G x) (a.eval x):=by
 cases x with
 | tmp i=>exact h i
 | const v=>exact Jt v
 | global g =>
  simp only[ev,Act.eval]
  split
  ·rename_i cs hcs
   simp only[Rep]
   exact ⟨trivial,g,0,rfl,RepC.mono I.le (I.glob g cs hcs)⟩
  ·simp[Rep]
 | func f =>
  simp only[ev,Act.eval,Rep]
  exact ⟨[],[],rfl,by simp[RepL],by simp[RepL]⟩
def LB:Nat:=1000000
def Kc (lb:List (Nat×Nat)):Loc:=λ id v=>if v=0/\LB<=id then (lb[id-LB]?).map some else none
def KF (ls:List Ob):Heap:=λ id=>if LB<=id then (ls[id-LB]?).map (λ o=>(0,o)) else none
mutual
def FrRep (P:Program) (M:Mem) (w:World) (B:Nat):D->Value->List (Option (Nat×Nat))->Prop
 | .fsl E z es,y,l=>(l=[none]/\es=[]/\∃ a,y=.slice a 0 0) \/
  ∃ b cb o,l=[some (b,cb)]/\B<=b/\y=.slice (some ⟨b,o,none⟩) es.length cb/\(o=0\/cb=0)/\ObRep P M Yj w (some (b,cb)) (.arr false E z es 0)
 | .fmp k ks vs,y,l=>∃ b,l=[some (b,0)]/\B<=b/\y=.map (some b)/\ks.length=vs.length/\ObRep P M Yj w (some (b,0)) (.mp k (ks.zip vs))
 | .agg cs,y,l=>∃ vs,y=.agg ⟨vs⟩/\FrRepL P M w B cs vs l
 | .tup cs,y,l=>∃ vs,y=.tuple ⟨vs⟩/\FrRepL P M w B cs vs l
 | .ifc t d,y,l=>∃ x,y=.iface t x/\FrRep P M w B d x l
 | .clo fn a b,y,l=>∃ va vb,y=.func fn ⟨va⟩ ⟨vb⟩/\∃ l1 l2,l=l1++l2/\FrRepL P M w B a va l1/\FrRepL P M w B b vb l2
 | .any,_,l=>l=[]
 | .v x,y,l=>l=[]/\Rep P M Yj (.v x) y
 | .nsl,y,l=>l=[]/\Rep P M Yj .nsl y
 | .isl E z es,y,l=>l=[]/\Rep P M Yj (.isl E z es) y
 | .ipt z cs c,y,l=>l=[]/\Rep P M Yj (.ipt z cs c) y
 | _,_,_=>False
def FrRepL (P:Program) (M:Mem) (w:World) (B:Nat):List D->List Value->List (Option (Nat×Nat))->Prop
 | [],vs,l=>vs=[]/\l=[]
 | d::ds,vs,l=>∃ x xs l1 l2,vs=x::xs/\l=l1++l2/\FrRep P M w B d x l1/\FrRepL P M w B ds xs l2
end
def XM (l:List (Option (Nat×Nat))):List Nat:=l.filterMap (·.map (·.1))
def XmU (P:Program) (M:Mem) (w:World) (lb:List (Nat×Nat)) (R:D->List Ob->Prop) (e:Ending) (w':World):Prop :=
 ∃ v r ls M' l,e=.returned v/\R r ls/\Kp w (lb.map (·.1)) w'/\MemOK M' w'/\(∀ b o,b<w.heap.size->M' b o=M b o)/\ls.length=lb.length /\
  (∀ (k:Nat) ob x,ls[k]? = some ob->lb[k]? = some x->ObRep P M' Yj w' (some x) ob/\ob.bx=true)/\FrRep P M' w' w.heap.size r v l/\(XM l).Nodup
def YY (P:Program) (G:Nat->Option (List D)) (f:FuncId) (args:List D) (lent:List Ob) (R:D->List Ob->Prop):Prop :=
 (∃ fn,P.funcs[f]? = some fn/\fn.body.isNone=false/\(fn.name== "runtime.NumGoroutine")=false) /\
 ∀ M w vs lb,MemOK M w->(∀ g cs,G g=some cs->RepC P M cs g 0)->lb.length=lent.length->(lb.map (·.1)).Nodup ->
  (∀ (k:Nat) ob x,lent[k]? = some ob->lb[k]? = some x->ObRep P M Yj w (some x) ob/\ob.bx=true)->RepL P M (Kc lb) args vs->Calls P f ⟨vs⟩ w (XmU P M w lb R)
mutual
def imp (ver:Nat):Nat->D->D×Nat×Up
 | n,.fsl E z es=>(.osl n ver z 0 es.length,n+1,[(n,ver,.arr false E z es 0)])
 | n,.fmp k ks vs=>(.omp n ver,n+1,[(n,ver,.mp k (ks.zip vs))])
 | n,.agg cs=>let r:=K5 ver n cs;(.agg r.1,r.2.1,r.2.2)
 | n,.tup cs=>let r:=K5 ver n cs;(.tup r.1,r.2.1,r.2.2)
 | n,.ifc t d=>let r:=imp ver n d;(.ifc t r.1,r.2.1,r.2.2)
 | n,.clo fn a b=>let r:=K5 ver n a;let q:=K5 ver r.2.1 b;(.clo fn r.1 q.1,q.2.1,r.2.2++q.2.2)
 | n,d=>(d,n,[])
def K5 (ver:Nat):Nat->List D->List D×Nat×Up
 | n,[]=>([],n,[])
 | n,d::ds=>let r:=imp ver n d;let q:=K5 ver r.2.1 ds;(r.1::q.1,q.2.1,r.2.2++q.2.2)
end
section
variable {C:Cx} {U:Nat->Prop} {M:Mem} {w:World} {ver:Nat}
def Xgp (s:Heap) (β:Loc) (l:List Nat):Prop:=∀ b∈l,∀ id v ob cb,s id=some (v,ob)->β id v≠some (some (b,cb))
structure OD (P:Program) (C:Cx) (s:Heap) (U:Nat->Prop) (M:Mem) (β:Loc) (w:World) (ver n n':Nat) (u:Up) (l:List (Option (Nat×Nat))) (β':Loc):Prop where
 inv:U8 P C (app s u) (λ v=>U v\/v=ver) M β' w
 le:BLe β β'
 next:n<=n'
 high:∀ i,n'<=i->β' i ver=none
 free:∀ l',Xgp s β l'->(∀ b∈l',b∉XM l)->Xgp (app s u) β' l'
def OD.nil {s:Heap} {β:Loc} (I:U8 P C s U M β w) {n:Nat} (hi:∀ i,n<=i->β i ver=none):OD P C s U M β w ver n n [] [] β :=
 ⟨I.mono λ _ h=>.inl h,BLe.refl _,Ui _,hi,λ _ h _=>h⟩
def ObRep.row {b cb:Nat} {ob:Ob} (h:ObRep P M Yj w (some (b,cb)) ob) (hb:ob.bx=false) (β:Loc):ObRep P M β w (some (b,cb)) ob:=by
 cases ob with
 | mp kk es=>exact h
 | raw o=>exact h
 | arr bx E z es fz =>
  have:bx=false:=hb
  subst this
  exact h
def XU (l1 l2:List (Option (Nat×Nat))):XM (l1++l2)=XM l1++XM l2:=by simp[XM]
mutual
def imp_ok {B:Nat} (hB:C.w0.heap.size<=B):∀ (d:D) (y:Value) (l:List (Option (Nat×Nat))) (n:Nat) {s:Heap} {U:Nat->Prop} {β:Loc},U8 P C s U M β w->(∀ i,n<=i->β i ver=none)->FrRep P M w B d y l->(XM l).Nodup->Xgp s β (XM l) ->
 ∃ β',OD P C s U M β w ver n (imp ver n d).2.1 (imp ver n d).2.2 l β'/\Rep P M β' (imp ver n d).1 y
 | .fsl E z es,y,l,n,s,U,β,I,hi,hr,hnd,hf=>by
  simp only[FrRep] at hr
  simp only[imp]
  have hid:β n ver=none:=hi n (Ui _)
  rcases hr with ⟨rfl,rfl,a,rfl⟩ | ⟨b,cb,o,rfl,hb,rfl,ho,hob⟩
  ·refine ⟨Y4 β n ver none,⟨I.setNil n ver E z (YP hid) (XF ..) YT,YP hid,by omega,λ i h=>?_,λ l' h _=>?_⟩,?_⟩
   ·unfold Y4;rw[Wm (by omega)];exact hi i (by omega)
   ·intro b hb id v ob cb hs hx
    by_cases hn:id=n
    ·subst hn
     have hs':some (ver,Ob.arr false E z [] 0)=some (v,ob):=by rw[← hs];show _=upd s id _ id;rw[Yt]
     obtain ⟨rfl,rfl⟩:ver=v/\Ob.arr false E z [] 0=ob:=by simpa using hs'
     rw[XF] at hx;simp at hx
    ·have hs':s id=some (v,ob):=by rw[← hs];show _=upd s n _ id;rw[X2 _ _ _ _ hn]
     have hx':β id v=some (some (b,cb)):=by
      unfold Y4 at hx;rw[Wm (λ h=>hn h.1)] at hx;exact hx
     exact h b hb id v ob cb hs' hx'
   ·simp only[Rep]
    exact .inl ⟨XF ..,by simp⟩
  ·have hfree:∀ id' v' ob' cb',id'≠n->s id'=some (v',ob')->β id' v'≠some (some (b,cb')):=λ id' v' ob' cb' _ hs=>hf b (by simp[XM]) id' v' ob' cb' hs
   have hob':=hob
   obtain ⟨cs,T,k1,k2,k3,k4,k5,k6,k7,k8,k9,k10⟩:=hob'
   have I':=I.set (M':=M) (β':=Y4 β n ver (some (b,cb))) (w':=w) n ver (.arr false E z es 0) b cb (MLe.refl _) (YP hid) (λ _ _=>rfl) (λ _ _ _=>rfl) (λ o x hx=>I.mem b o x hx) (XF ..) (hob.row rfl _) hfree (.inl (by omega)) (λ _ _=>rfl) rfl rfl rfl (Ui _) YT
   refine ⟨Y4 β n ver (some (b,cb)),⟨I',YP hid,by omega,λ i h=>?_,λ l' h hl=>?_⟩,?_⟩
   ·unfold Y4;rw[Wm (by omega)];exact hi i (by omega)
   ·intro b' hb' id v ob cb' hs hx
    by_cases hn:id=n
    ·subst hn
     have hs':some (ver,Ob.arr false E z es 0)=some (v,ob):=by rw[← hs];show _=upd s id _ id;rw[Yt]
     obtain ⟨rfl,rfl⟩:ver=v/\Ob.arr false E z es 0=ob:=by simpa using hs'
     rw[XF] at hx
     obtain ⟨rfl,rfl⟩:b=b'/\cb=cb':=by simpa using hx
     exact hl b hb' (by simp[XM])
    ·have hs':s id=some (v,ob):=by rw[← hs];show _=upd s n _ id;rw[X2 _ _ _ _ hn]
     have hx':β id v=some (some (b',cb')):=by
      unfold Y4 at hx;rw[Wm (λ h=>hn h.1)] at hx;exact hx
     exact h b' hb' id v ob cb' hs' hx'
   ·simp only[Rep]
    exact .inr ⟨b,cb,o,cb,XF ..,rfl,k4,by simp,by rcases ho with h | h;(left;simp[h]);right;exact h⟩
 | .fmp k ks vs,y,l,n,s,U,β,I,hi,hr,hnd,hf=>by
  simp only[FrRep] at hr
  simp only[imp]
  have hid:β n ver=none:=hi n (Ui _)
  obtain ⟨b,rfl,hb,rfl,hlen,hob⟩:=hr
  have hfree:∀ id' v' ob' cb',id'≠n->s id'=some (v',ob')->β id' v'≠some (some (b,cb')):=λ id' v' ob' cb' _ hs=>hf b (by simp[XM]) id' v' ob' cb' hs
  have I':=I.set (M':=M) (β':=Y4 β n ver (some (b,0))) (w':=w) n ver (.mp k (ks.zip vs)) b 0 (MLe.refl _) (YP hid) (λ _ _=>rfl) (λ _ _ _=>rfl) (λ o x hx=>I.mem b o x hx) (XF ..) (hob.row rfl _) hfree (.inl (by omega)) (λ _ _=>rfl) rfl rfl rfl (Ui _) YT
  refine ⟨Y4 β n ver (some (b,0)),⟨I',YP hid,by omega,λ i h=>?_,λ l' h hl=>?_⟩,?_⟩
  ·unfold Y4;rw[Wm (by omega)];exact hi i (by omega)
  ·intro b' hb' id v ob cb' hs hx
   by_cases hn:id=n
   ·subst hn
    have hs':some (ver,Ob.mp k (ks.zip vs))=some (v,ob):=by rw[← hs];show _=upd s id _ id;rw[Yt]
    obtain ⟨rfl,rfl⟩:ver=v/\Ob.mp k (ks.zip vs)=ob:=by simpa using hs'
    rw[XF] at hx
    obtain ⟨rfl,rfl⟩:b=b'/\0=cb':=by simpa using hx
    exact hl b hb' (by simp[XM])
   ·have hs':s id=some (v,ob):=by rw[← hs];show _=upd s n _ id;rw[X2 _ _ _ _ hn]
    have hx':β id v=some (some (b',cb')):=by
     unfold Y4 at hx;rw[Wm (λ h=>hn h.1)] at hx;exact hx
    exact h b' hb' id v ob cb' hs' hx'
  ·simp only[Rep]
   exact ⟨b,0,XF ..,rfl⟩
 | .agg cs,y,l,n,s,U,β,I,hi,hr,hnd,hf=>by
  simp only[FrRep] at hr
  obtain ⟨vs,rfl,hr⟩:=hr
  obtain ⟨β',h1,h2⟩:=V3 hB cs vs l n I hi hr hnd hf
  exact ⟨β',h1,by simp only[imp,Rep];exact ⟨vs,rfl,h2⟩⟩
 | .tup cs,y,l,n,s,U,β,I,hi,hr,hnd,hf=>by
  simp only[FrRep] at hr
  obtain ⟨vs,rfl,hr⟩:=hr
  obtain ⟨β',h1,h2⟩:=V3 hB cs vs l n I hi hr hnd hf
  exact ⟨β',h1,by simp only[imp,Rep];exact ⟨vs,rfl,h2⟩⟩
 | .ifc t d,y,l,n,s,U,β,I,hi,hr,hnd,hf=>by
  simp only[FrRep] at hr
  obtain ⟨x,rfl,hr⟩:=hr
  obtain ⟨β',h1,h2⟩:=imp_ok hB d x l n I hi hr hnd hf
  exact ⟨β',h1,by simp only[imp,Rep];exact ⟨x,rfl,h2⟩⟩
 | .clo fn a b,y,l,n,s,U,β,I,hi,hr,hnd,hf=>by
  simp only[FrRep] at hr
  obtain ⟨va,vb,rfl,l1,l2,rfl,hr1,hr2⟩:=hr
  rw[XU,Iu] at hnd
  rw[XU] at hf
  obtain ⟨β1,h1,h2⟩:=V3 hB a va l1 n I hi hr1 hnd.1 (λ x hx=>hf x (Uo _ hx))
  have hf2:Xgp (app s (K5 ver n a).2.2) β1 (XM l2):=h1.free _ (λ x hx=>hf x (Ur _ hx)) (λ x hx hx'=>hnd.2.2 x hx' x hx rfl)
  obtain ⟨β2,h3,h4⟩:=V3 hB b vb l2 (K5 ver n a).2.1 h1.inv h1.high hr2 hnd.2.1 hf2
  refine ⟨β2,⟨?_,h1.le.trans h3.le,UB h1.next h3.next,h3.high,λ l' hl' hb=>?_⟩,?_⟩
  ·simp only[imp];rw[YD];exact h3.inv.mono λ v hv=>by rcases hv with (hv | hv) | hv;exact .inl hv;exact .inr hv;exact .inr hv
  ·simp only[imp];rw[YD]
   refine h3.free _ (h1.free _ hl' λ x hx hx'=>hb x hx ?_) λ x hx hx'=>hb x hx ?_
   ·rw[XU];exact Uo _ hx'
   ·rw[XU];exact Ur _ hx'
  ·simp only[imp,Rep];exact ⟨va,vb,rfl,h2.mono (MLe.refl _) h3.le,h4⟩
 | .any,y,l,n,s,U,β,I,hi,hr,hnd,hf=>by
  simp only[FrRep] at hr;subst hr
  exact ⟨β,.nil I hi,by simp[imp,Rep]⟩
 | .v x,y,l,n,s,U,β,I,hi,hr,hnd,hf=>by
  simp only[FrRep] at hr;obtain ⟨rfl,hr⟩:=hr
  exact ⟨β,.nil I hi,hr.mono (MLe.refl _) (BLe.zero _)⟩
 | .nsl,y,l,n,s,U,β,I,hi,hr,hnd,hf=>by
  simp only[FrRep] at hr;obtain ⟨rfl,hr⟩:=hr
  exact ⟨β,.nil I hi,hr.mono (MLe.refl _) (BLe.zero _)⟩
 | .isl E z es,y,l,n,s,U,β,I,hi,hr,hnd,hf=>by
  simp only[FrRep] at hr;obtain ⟨rfl,hr⟩:=hr
  exact ⟨β,.nil I hi,hr.mono (MLe.refl _) (BLe.zero _)⟩
 | .ipt z cs c,y,l,n,s,U,β,I,hi,hr,hnd,hf=>by
  simp only[FrRep] at hr;obtain ⟨rfl,hr⟩:=hr
  exact ⟨β,.nil I hi,hr.mono (MLe.refl _) (BLe.zero _)⟩
 | .osl ..,y,l,n,s,U,β,I,hi,hr,hnd,hf=>by simp[FrRep] at hr
 | .ept ..,y,l,n,s,U,β,I,hi,hr,hnd,hf=>by simp[FrRep] at hr
 | .omp ..,y,l,n,s,U,β,I,hi,hr,hnd,hf=>by simp[FrRep] at hr
def V3 {B:Nat} (hB:C.w0.heap.size<=B):∀ (ds:List D) (ys:List Value) (l:List (Option (Nat×Nat))) (n:Nat) {s:Heap} {U:Nat->Prop} {β:Loc},U8 P C s U M β w->(∀ i,n<=i->β i ver=none)->FrRepL P M w B ds ys l->(XM l).Nodup->Xgp s β (XM l) ->
 ∃ β',OD P C s U M β w ver n (K5 ver n ds).2.1 (K5 ver n ds).2.2 l β'/\RepL P M β' (K5 ver n ds).1 ys
 | [],ys,l,n,s,U,β,I,hi,hr,hnd,hf=>by
  simp only[FrRepL] at hr
  obtain ⟨rfl,rfl⟩:=hr
  exact ⟨β,.nil I hi,by simp[K5,RepL]⟩
 | d::ds,ys,l,n,s,U,β,I,hi,hr,hnd,hf=>by
  simp only[FrRepL] at hr
  obtain ⟨x,xs,l1,l2,rfl,rfl,hr1,hr2⟩:=hr
  rw[XU,Iu] at hnd
  rw[XU] at hf
  obtain ⟨β1,h1,h2⟩:=imp_ok hB d x l1 n I hi hr1 hnd.1 (λ x hx=>hf x (Uo _ hx))
  have hf2:Xgp (app s (imp ver n d).2.2) β1 (XM l2):=h1.free _ (λ x hx=>hf x (Ur _ hx)) (λ x hx hx'=>hnd.2.2 x hx' x hx rfl)
  obtain ⟨β2,h3,h4⟩:=V3 hB ds xs l2 (imp ver n d).2.1 h1.inv h1.high hr2 hnd.2.1 hf2
  refine ⟨β2,⟨?_,h1.le.trans h3.le,UB h1.next h3.next,h3.high,λ l' hl' hb=>?_⟩,?_⟩
  ·simp only[K5];rw[YD];exact h3.inv.mono λ v hv=>by rcases hv with (hv | hv) | hv;exact .inl hv;exact .inr hv;exact .inr hv
  ·simp only[K5];rw[YD]
   refine h3.free _ (h1.free _ hl' λ x hx hx'=>hb x hx ?_) λ x hx hx'=>hb x hx ?_
   ·rw[XU];exact Uo _ hx'
   ·rw[XU];exact Ur _ hx'
  ·simp only[K5,RepL];exact ⟨x,xs,rfl,h2.mono (MLe.refl _) h3.le,h4⟩
end
end
variable {P:Program}
def pos:List Nat->Nat->Option Nat
 | [],_=>none
 | x::l,i=>if x=i then some 0 else (pos l i).map (·+1)
def Xhn:∀ {l:List Nat} {i j:Nat},pos l i=some j->l[j]? = some i
 | [],i,j,h=>by simp[pos] at h
 | x::l,i,j,h=>by
  unfold pos at h
  split at h
  ·rename_i hx;simp at h;subst h;simp[hx]
  ·simp only[W7] at h
   obtain ⟨k,hk,rfl⟩:=h
   simpa using Xhn hk
def XeY:∀ {l:List Nat} {i:Nat},pos l i=none->i∉l
 | [],i,_=>by simp
 | x::l,i,h=>by
  unfold pos at h
  split at h
  ·cases h
  ·rename_i hx
   simp only[Option.map_eq_none_iff] at h
   simp only[UQ,not_or]
   exact ⟨λ e=>hx e.symm,XeY h⟩
mutual
def lend (s:Heap):List Nat->D->Option (Prop×D×List Nat×List Nat)
 | ls,.ept id ver z i c=>match s id with
  | some (ver',.arr true _ z' [_] _)=>if ver=ver'/\z=z'/\i=0 then
   match pos ls id with
   | some j=>some (True,.ept (LB+j) 0 z 0 c,ls,[])
   | none=>some (True,.ept (LB+ls.length) 0 z 0 c,ls++[id],[])
   else none
  | _=>none
 | ls,.agg cs=>match Y6 s ls cs with
  | some (c,ds,ls',l)=>some (c,.agg ds,ls',l)
  | none=>none
 | ls,.tup cs=>match Y6 s ls cs with
  | some (c,ds,ls',l)=>some (c,.tup ds,ls',l)
  | none=>none
 | ls,.clo fn a b=>match Y6 s ls a with
  | some (c,a',ls',l)=>match Y6 s ls' b with
   | some (c',b',ls'',l')=>some (c/\c',.clo fn a' b',ls'',l++l')
   | none=>none
  | none=>none
 | ls,.ifc t d=>match lend s ls d with
  | some (c,e,ls',l)=>some (c,.ifc t e,ls',l)
  | none=>none
 | ls,d=>match snap s d with
  | some (c,e,l)=>some (c,e,ls,l)
  | none=>none
def Y6 (s:Heap):List Nat->List D->Option (Prop×List D×List Nat×List Nat)
 | ls,[]=>some (True,[],ls,[])
 | ls,d::ds=>match lend s ls d with
  | some (c,e,ls',l)=>match Y6 s ls' ds with
   | some (c',es,ls'',l')=>some (c/\c',e::es,ls'',l++l')
   | none=>none
  | none=>none
end
mutual
def lend_prefix {s:Heap}:∀ {d d':D} {ls ls':List Nat} {c:Prop} {l:List Nat},lend s ls d=some (c,d',ls',l)->ls <+: ls'
 | .ept id ver z i k,d',ls,ls',c,l,h=>by
  unfold lend at h
  split at h
  ·split at h
   ·split at h
    ·simp only[Wc,Wi] at h
     obtain ⟨_,_,rfl,_⟩:=h
     exact UX _
    ·simp only[Wc,Wi] at h
     obtain ⟨_,_,rfl,_⟩:=h
     exact List.prefix_append _ _
   ·cases h
  ·cases h
 | .agg cs,d',ls,ls',c,l,h=>by
  unfold lend at h
  split at h
  ·rename_i hl
   simp only[Wc,Wi] at h
   obtain ⟨_,_,rfl,_⟩:=h
   exact YQ hl
  ·cases h
 | .tup cs,d',ls,ls',c,l,h=>by
  unfold lend at h
  split at h
  ·rename_i hl
   simp only[Wc,Wi] at h
   obtain ⟨_,_,rfl,_⟩:=h
   exact YQ hl
  ·cases h
 | .clo fn a b,d',ls,ls',c,l,h=>by
  unfold lend at h
  split at h
  ·rename_i h1
   split at h
   ·rename_i h2
    simp only[Wc,Wi] at h
    obtain ⟨_,_,rfl,_⟩:=h
    exact (YQ h1).trans (YQ h2)
   ·cases h
  ·cases h
 | .ifc t d,d',ls,ls',c,l,h=>by
  unfold lend at h
  split at h
  ·rename_i hl
   simp only[Wc,Wi] at h
   obtain ⟨_,_,rfl,_⟩:=h
   exact lend_prefix hl
  ·cases h
 | .osl id ver z off len,d',ls,ls',c,l,h=>by
  unfold lend at h
  split at h
  ·simp only[Wc,Wi] at h
   obtain ⟨_,_,rfl,_⟩:=h
   exact UX _
  ·cases h
 | .any,d',ls,ls',c,l,h=>by
  unfold lend at h
  split at h
  ·simp only[Wc,Wi] at h
   obtain ⟨_,_,rfl,_⟩:=h
   exact UX _
  ·cases h
 | .v x,d',ls,ls',c,l,h=>by
  unfold lend at h
  split at h
  ·simp only[Wc,Wi] at h
   obtain ⟨_,_,rfl,_⟩:=h
   exact UX _
  ·cases h
 | .nsl,d',ls,ls',c,l,h=>by
  unfold lend at h
  split at h
  ·simp only[Wc,Wi] at h
   obtain ⟨_,_,rfl,_⟩:=h
   exact UX _
  ·cases h
 | .isl E z es,d',ls,ls',c,l,h=>by
  unfold lend at h
  split at h
  ·simp only[Wc,Wi] at h
   obtain ⟨_,_,rfl,_⟩:=h
   exact UX _
  ·cases h
 | .ipt z cs k,d',ls,ls',c,l,h=>by
  unfold lend at h
  split at h
  ·simp only[Wc,Wi] at h
   obtain ⟨_,_,rfl,_⟩:=h
   exact UX _
  ·cases h
 | .fsl E z es,d',ls,ls',c,l,h=>by
  unfold lend at h
  split at h
  ·simp only[Wc,Wi] at h
   obtain ⟨_,_,rfl,_⟩:=h
   exact UX _
  ·cases h
 | .fmp k ks vs,d',ls,ls',c,l,h=>by
  unfold lend at h
  split at h
  ·simp only[Wc,Wi] at h
   obtain ⟨_,_,rfl,_⟩:=h
   exact UX _
  ·cases h
 | .omp id ver,d',ls,ls',c,l,h=>by
  unfold lend at h
  split at h
  ·simp only[Wc,Wi] at h
   obtain ⟨_,_,rfl,_⟩:=h
   exact UX _
  ·cases h
def YQ {s:Heap}:∀ {ds ds':List D} {ls ls':List Nat} {c:Prop} {l:List Nat},Y6 s ls ds=some (c,ds',ls',l)->ls <+: ls'
 | [],ds',ls,ls',c,l,h=>by
  simp only[Y6,Wc,Wi] at h
  obtain ⟨_,_,rfl,_⟩:=h
  exact UX _
 | d::ds,ds',ls,ls',c,l,h=>by
  unfold Y6 at h
  split at h
  ·rename_i h1
   split at h
   ·rename_i h2
    simp only[Wc,Wi] at h
    obtain ⟨_,_,rfl,_⟩:=h
    exact (lend_prefix h1).trans (YQ h2)
   ·cases h
  ·cases h
end
def XbT (s:Heap) (ls:List Nat):Prop:=ls.Nodup/\∀ id∈ls,∃ v E z cs fz,s id=some (v,.arr true E z [cs] fz)
mutual
def lend_boxes {s:Heap}:∀ {d d':D} {ls ls':List Nat} {c:Prop} {l:List Nat},lend s ls d=some (c,d',ls',l)->XbT s ls->XbT s ls'
 | .ept id ver z i k,d',ls,ls',c,l,h=>by
  intro hb
  unfold lend at h
  split at h
  ·rename_i hs
   split at h
   ·split at h
    ·simp only[Wc,Wi] at h
     obtain ⟨_,_,rfl,_⟩:=h
     exact hb
    ·rename_i hp
     simp only[Wc,Wi] at h
     obtain ⟨_,_,rfl,_⟩:=h
     refine ⟨Iu.2 ⟨hb.1,by simp,λ x hx y hy=>?_⟩,λ x hx=>?_⟩
     ·simp at hy;subst hy;rintro rfl;exact XeY hp hx
     ·simp only[WK,UT] at hx
      rcases hx with hx | rfl
      ·exact hb.2 x hx
      ·exact ⟨_,_,_,_,_,hs⟩
   ·cases h
  ·cases h
 | .agg cs,d',ls,ls',c,l,h=>by
  unfold lend at h
  split at h
  ·rename_i hl
   simp only[Wc,Wi] at h
   obtain ⟨_,_,rfl,_⟩:=h
   exact YM hl
  ·cases h
 | .tup cs,d',ls,ls',c,l,h=>by
  unfold lend at h
  split at h
  ·rename_i hl
   simp only[Wc,Wi] at h
   obtain ⟨_,_,rfl,_⟩:=h
   exact YM hl
  ·cases h
 | .clo fn a b,d',ls,ls',c,l,h=>by
  unfold lend at h
  split at h
  ·rename_i h1
   split at h
   ·rename_i h2
    simp only[Wc,Wi] at h
    obtain ⟨_,_,rfl,_⟩:=h
    exact λ hb=>YM h2 (YM h1 hb)
   ·cases h
  ·cases h
 | .ifc t d,d',ls,ls',c,l,h=>by
  unfold lend at h
  split at h
  ·rename_i hl
   simp only[Wc,Wi] at h
   obtain ⟨_,_,rfl,_⟩:=h
   exact lend_boxes hl
  ·cases h
 | .osl id ver z off len,d',ls,ls',c,l,h=>by
  unfold lend at h
  split at h
  ·simp only[Wc,Wi] at h
   obtain ⟨_,_,rfl,_⟩:=h
   exact λ h=>h
  ·cases h
 | .any,d',ls,ls',c,l,h=>by
  unfold lend at h
  split at h
  ·simp only[Wc,Wi] at h
   obtain ⟨_,_,rfl,_⟩:=h
   exact λ h=>h
  ·cases h
 | .v x,d',ls,ls',c,l,h=>by
  unfold lend at h
  split at h
  ·simp only[Wc,Wi] at h
   obtain ⟨_,_,rfl,_⟩:=h
   exact λ h=>h
  ·cases h
 | .nsl,d',ls,ls',c,l,h=>by
  unfold lend at h
  split at h
  ·simp only[Wc,Wi] at h
   obtain ⟨_,_,rfl,_⟩:=h
   exact λ h=>h
  ·cases h
 | .isl E z es,d',ls,ls',c,l,h=>by
  unfold lend at h
  split at h
  ·simp only[Wc,Wi] at h
   obtain ⟨_,_,rfl,_⟩:=h
   exact λ h=>h
  ·cases h
 | .ipt z cs k,d',ls,ls',c,l,h=>by
  unfold lend at h
  split at h
  ·simp only[Wc,Wi] at h
   obtain ⟨_,_,rfl,_⟩:=h
   exact λ h=>h
  ·cases h
 | .fsl E z es,d',ls,ls',c,l,h=>by
  unfold lend at h
  split at h
  ·simp only[Wc,Wi] at h
   obtain ⟨_,_,rfl,_⟩:=h
   exact λ h=>h
  ·cases h
 | .fmp k ks vs,d',ls,ls',c,l,h=>by
  unfold lend at h
  split at h
  ·simp only[Wc,Wi] at h
   obtain ⟨_,_,rfl,_⟩:=h
   exact λ h=>h
  ·cases h
 | .omp id ver,d',ls,ls',c,l,h=>by
  unfold lend at h
  split at h
  ·simp only[Wc,Wi] at h
   obtain ⟨_,_,rfl,_⟩:=h
   exact λ h=>h
  ·cases h
def YM {s:Heap}:∀ {ds ds':List D} {ls ls':List Nat} {c:Prop} {l:List Nat},Y6 s ls ds=some (c,ds',ls',l)->XbT s ls->XbT s ls'
 | [],ds',ls,ls',c,l,h=>by
  simp only[Y6,Wc,Wi] at h
  obtain ⟨_,_,rfl,_⟩:=h
  exact λ h=>h
 | d::ds,ds',ls,ls',c,l,h=>by
  unfold Y6 at h
  split at h
  ·rename_i h1
   split at h
   ·rename_i h2
    simp only[Wc,Wi] at h
    obtain ⟨_,_,rfl,_⟩:=h
    exact λ hb=>YM h2 (lend_boxes h1 hb)
   ·cases h
  ·cases h
end
section
variable {C:Cx} {s:Heap} {U:Nat->Prop} {M M':Mem} {β:Loc} {w:World}
def Xd1 (s:Heap) (β:Loc) (ls:List Nat) (lb:List (Nat×Nat)):Prop :=
 ∀ (j:Nat) id,ls[j]? = some id->∃ v E z cs fz x,s id=some (v,.arr true E z [cs] fz)/\lb[j]? = some x/\β id v=some (some x)
mutual
def lend_rep (I:U8 P C s U M β w) (hM:MLe M M') {lsF:List Nat} {lbF:List (Nat×Nat)} (hL:Xd1 s β lsF lbF):∀ {d d':D} {ls ls':List Nat} {c:Prop} {l:List Nat},lend s ls d=some (c,d',ls',l)->c->Frz s M' β w l->ls' <+: lsF ->
 ∀ {y:Value},Rep P M β d y->Rep P M' (Kc lbF) d' y
 | .ept id ver z i k,d',ls,ls',c,l,h,hc,hF,hp,y,hr=>by
  have key:∀ j,lsF[j]? = some id->i=0->(∃ E cs fz,s id=some (ver,.arr true E z [cs] fz))->Rep P M' (Kc lbF) (.ept (LB+j) 0 z 0 k) y:=by
   rintro j hj rfl ⟨E,cs,fz,hs⟩
   obtain ⟨v',E',z',cs',fz',x,hs',hx,hb⟩:=hL j id hj
   rw[hs] at hs'
   obtain ⟨rfl,_⟩:ver=v'/\_:=by simpa using hs'
   simp only[Rep] at hr ⊢
   obtain ⟨b,cb,hb',rfl⟩:=hr
   rw[hb] at hb'
   obtain rfl:x=(b,cb):=by simpa using hb'
   exact ⟨b,cb,by simp[Kc,hx],rfl⟩
  unfold lend at h
  split at h
  ·rename_i ver' E z' cs fz hs
   split at h
   ·rename_i hcond
    obtain ⟨rfl,rfl,hi⟩:=hcond
    split at h
    ·rename_i j hj
     simp only[Wc,Wi] at h
     obtain ⟨rfl,rfl,rfl,rfl⟩:=h
     refine key j ?_ hi ⟨_,_,_,hs⟩
     have:=Xhn hj
     obtain ⟨t,rfl⟩:=hp
     rw[Uy]
     ·exact this
     ·rcases Uw j ls.length with h | h
      ·exact h
      ·rw[WZ h] at this;cases this
    ·simp only[Wc,Wi] at h
     obtain ⟨rfl,rfl,rfl,rfl⟩:=h
     refine key ls.length ?_ hi ⟨_,_,_,hs⟩
     obtain ⟨t,rfl⟩:=hp
     simp
   ·cases h
  ·cases h
 | .agg cs,d',ls,ls',c,l,h,hc,hF,hp,y,hr=>by
  unfold lend at h
  split at h
  ·rename_i c' ds ls2 l' hl
   simp only[Wc,Wi] at h
   obtain ⟨rfl,rfl,rfl,rfl⟩:=h
   simp only[Rep] at hr ⊢
   obtain ⟨vs,e,hr⟩:=hr
   exact ⟨vs,e,Ku I hM hL hl hc hF hp hr⟩
  ·cases h
 | .tup cs,d',ls,ls',c,l,h,hc,hF,hp,y,hr=>by
  unfold lend at h
  split at h
  ·rename_i c' ds ls2 l' hl
   simp only[Wc,Wi] at h
   obtain ⟨rfl,rfl,rfl,rfl⟩:=h
   simp only[Rep] at hr ⊢
   obtain ⟨vs,e,hr⟩:=hr
   exact ⟨vs,e,Ku I hM hL hl hc hF hp hr⟩
  ·cases h
 | .clo fn a b,d',ls,ls',c,l,h,hc,hF,hp,y,hr=>by
  unfold lend at h
  split at h
  ·rename_i c1 a' ls1 l1 h1
   split at h
   ·rename_i c2 b' ls2 l2 h2
    simp only[Wc,Wi] at h
    obtain ⟨rfl,rfl,rfl,rfl⟩:=h
    simp only[Rep] at hr ⊢
    obtain ⟨va,vb,e,hr1,hr2⟩:=hr
    exact ⟨va,vb,e,Ku I hM hL h1 hc.1 (λ i hi=>hF i (Uo _ hi)) ((YQ h2).trans hp) hr1,Ku I hM hL h2 hc.2 (λ i hi=>hF i (Ur _ hi)) hp hr2⟩
   ·cases h
  ·cases h
 | .ifc t d,d',ls,ls',c,l,h,hc,hF,hp,y,hr=>by
  unfold lend at h
  split at h
  ·rename_i c' e ls2 l' hl
   simp only[Wc,Wi] at h
   obtain ⟨rfl,rfl,rfl,rfl⟩:=h
   simp only[Rep] at hr ⊢
   obtain ⟨x,e,hr⟩:=hr
   exact ⟨x,e,lend_rep I hM hL hl hc hF hp hr⟩
  ·cases h
 | .osl id ver z off len,d',ls,ls',c,l,h,hc,hF,hp,y,hr=>by
  unfold lend at h
  split at h
  ·rename_i c' e l' hl
   simp only[Wc,Wi] at h
   obtain ⟨rfl,rfl,rfl,rfl⟩:=h
   exact (snap_rep I hM hl hc hF hr).mono (MLe.refl _) (BLe.zero _)
  ·cases h
 | .any,d',ls,ls',c,l,h,hc,hF,hp,y,hr=>by
  unfold lend at h
  split at h
  ·rename_i c' e l' hl
   simp only[Wc,Wi] at h
   obtain ⟨rfl,rfl,rfl,rfl⟩:=h
   exact (snap_rep I hM hl hc hF hr).mono (MLe.refl _) (BLe.zero _)
  ·cases h
 | .v x,d',ls,ls',c,l,h,hc,hF,hp,y,hr=>by
  unfold lend at h
  split at h
  ·rename_i c' e l' hl
   simp only[Wc,Wi] at h
   obtain ⟨rfl,rfl,rfl,rfl⟩:=h
   exact (snap_rep I hM hl hc hF hr).mono (MLe.refl _) (BLe.zero _)
  ·cases h
 | .nsl,d',ls,ls',c,l,h,hc,hF,hp,y,hr=>by
  unfold lend at h
  split at h
  ·rename_i c' e l' hl
   simp only[Wc,Wi] at h
   obtain ⟨rfl,rfl,rfl,rfl⟩:=h
   exact (snap_rep I hM hl hc hF hr).mono (MLe.refl _) (BLe.zero _)
  ·cases h
 | .isl E z es,d',ls,ls',c,l,h,hc,hF,hp,y,hr=>by
  unfold lend at h
  split at h
  ·rename_i c' e l' hl
   simp only[Wc,Wi] at h
   obtain ⟨rfl,rfl,rfl,rfl⟩:=h
   exact (snap_rep I hM hl hc hF hr).mono (MLe.refl _) (BLe.zero _)
  ·cases h
 | .ipt z cs k,d',ls,ls',c,l,h,hc,hF,hp,y,hr=>by
  unfold lend at h
  split at h
  ·rename_i c' e l' hl
   simp only[Wc,Wi] at h
   obtain ⟨rfl,rfl,rfl,rfl⟩:=h
   exact (snap_rep I hM hl hc hF hr).mono (MLe.refl _) (BLe.zero _)
  ·cases h
 | .fsl E z es,d',ls,ls',c,l,h,hc,hF,hp,y,hr=>by simp[Rep] at hr
 | .fmp k ks vs,d',ls,ls',c,l,h,hc,hF,hp,y,hr=>by simp[Rep] at hr
 | .omp id ver,d',ls,ls',c,l,h,hc,hF,hp,y,hr=>by simp[lend,snap] at h
def Ku (I:U8 P C s U M β w) (hM:MLe M M') {lsF:List Nat} {lbF:List (Nat×Nat)} (hL:Xd1 s β lsF lbF):∀ {ds ds':List D} {ls ls':List Nat} {c:Prop} {l:List Nat},Y6 s ls ds=some (c,ds',ls',l)->c->Frz s M' β w l->ls' <+: lsF ->
 ∀ {ys:List Value},RepL P M β ds ys->RepL P M' (Kc lbF) ds' ys
 | [],ds',ls,ls',c,l,h,hc,hF,hp,ys,hr=>by
  simp only[Y6,Wc,Wi] at h
  obtain ⟨rfl,rfl,rfl,rfl⟩:=h
  simpa [RepL] using hr
 | d::ds,ds',ls,ls',c,l,h,hc,hF,hp,ys,hr=>by
  unfold Y6 at h
  split at h
  ·rename_i c1 e ls1 l1 h1
   split at h
   ·rename_i c2 es ls2 l2 h2
    simp only[Wc,Wi] at h
    obtain ⟨rfl,rfl,rfl,rfl⟩:=h
    simp only[RepL] at hr ⊢
    obtain ⟨x,xs,e,hr1,hr2⟩:=hr
    exact ⟨x,xs,e,lend_rep I hM hL h1 hc.1 (λ i hi=>hF i (Uo _ hi)) ((YQ h2).trans hp) hr1,Ku I hM hL h2 hc.2 (λ i hi=>hF i (Ur _ hi)) hp hr2⟩
   ·cases h
  ·cases h
end
end
variable {P:Program}
def Kg (s:Heap):List Nat->Option (Prop×List Ob×List Nat)
 | []=>some (True,[],[])
 | id::ids=>match s id with
  | some (_,.arr true E z [cs] fz)=>match Z7 s cs,Kg s ids with
   | some (c,ds,l),some (c',obs,l')=>some (c/\c',.arr true E z [ds] fz::obs,l++l')
   | _,_=>none
  | _=>none
def Zo (s:Heap):List Nat->List Ob->Up
 | id::ids,o::os=>match s id with
  | some (v,_)=>(id,v,o)::Zo s ids os
  | none=>Zo s ids os
 | _,_=>[]
section
variable {C:Cx} {s:Heap} {U:Nat->Prop} {M M':Mem} {β:Loc} {w w':World}
def XaK {lz:List Nat} (I:U8 P C s U M β w) (hM:MLe M M') (I':U8 P C (frz s lz) U M' β w) (hFz:Frz s M' β w lz):∀ {ids:List Nat} {c:Prop} {obs:List Ob} {l:List Nat} {lb:List (Nat×Nat)},Kg s ids=some (c,obs,l)->c->(∀ x∈l,x∈lz)->Xd1 s β ids lb->lb.length=ids.length ->
 obs.length=ids.length/\∀ (k:Nat) ob x,obs[k]? = some ob->lb[k]? = some x->ObRep P M' Yj w (some x) ob/\ob.bx=true
 | [],c,obs,l,lb,h,hc,hl,hL,hlen=>by
  simp only[Kg,Wc,Wi] at h
  obtain ⟨rfl,rfl,rfl⟩:=h
  exact ⟨rfl,λ k ob x h=>by simp at h⟩
 | id::ids,c,obs,l,lb,h,hc,hl,hL,hlen=>by
  unfold Kg at h
  split at h
  ·rename_i v E z cs fz hs
   split at h
   ·rename_i c1 ds l1 c2 obs2 l2 h1 h2
    simp only[Wc,Wi] at h
    obtain ⟨rfl,rfl,rfl⟩:=h
    match lb,hlen with
    | x0::lb,hlen =>
     have hL2:Xd1 s β ids lb:=λ j i hj=>by simpa using hL (j+1) i (by simpa using hj)
     obtain ⟨g1,g2⟩:=XaK I hM I' hFz h2 hc.2 (λ x hx=>hl x (Ur _ hx)) hL2 (by simpa using hlen)
     refine ⟨by simp[g1],λ k ob x hk hx=>?_⟩
     cases k with
     | succ k=>exact g2 k ob x (by simpa using hk) (by simpa using hx)
     | zero =>
      simp at hk hx
      subst hk;subst hx
      refine ⟨?_,rfl⟩
      obtain ⟨v',E',z',cs',fz',x,hs',hx',hb⟩:=hL 0 id (by simp)
      simp at hx'
      subst hx'
      rw[hs] at hs'
      obtain ⟨rfl,_⟩:v=v'/\_:=by simpa using hs'
      have hsf:frz s lz id=some (v,.arr true E z [cs] fz):=by
       unfold frz
       split
       ·rw[hs];rfl
       ·exact hs
      obtain ⟨x1,hx1,hob⟩:=I'.obs id v _ hsf
      rw[hb] at hx1
      obtain rfl:x0=x1:=by simpa using hx1
      obtain ⟨b,cb⟩:=x0
      obtain ⟨y,T,k1,k2,k3,k4,k5,k6,k7,k8,k9,k10⟩:=hob
      obtain ⟨x2,hx2,hob2⟩:=I.obs id v _ hs
      rw[hb] at hx2
      obtain rfl:some (b,cb)=x2:=by simpa using hx2
      obtain ⟨y2,T2,j1,j2,j3,j4,j5,j6,j7,j8,j9,j10⟩:=hob2
      rw[k1] at j1
      obtain ⟨rfl,rfl⟩:y=y2/\T=T2:=by simpa using j1
      have hcsl:RepL P M β cs (y.toList.take cs.length):=by
       have hle:cs.length<=y.size:=by
        have:=k3 cs (by simp)
        have:z<=cb*z:=Nat.le_mul_of_pos_left _ (by simp at k4;omega)
        omega
       refine RepL.of (by simp;omega) λ i d x hd hx=>?_
       obtain ⟨u,hu,hru⟩:=j10 i d (by simpa using hd)
       rw[W6] at hx
       split at hx
       ·rw[Ih,hu] at hx
        obtain rfl:u=x:=by simpa using hx
        exact hru
       ·cases hx
      have hds:=Ks I hM h1 hc.1 (λ i hi=>hFz i (hl i (Uo _ hi))) hcsl
      have hdl:ds.length=cs.length:=by rw[← hds.length,hcsl.length]
      refine ⟨y,T,k1,k2,?_,by simpa using k4,by simpa using k5,by simpa using k6,by simpa using k7,k8,k9,λ i d hd=>?_⟩
      ·intro e he
       simp at he
       subst he
       rw[hdl];exact k3 cs (by simp)
      ·have hd':ds[i]? = some d:=by simpa using hd
       obtain ⟨u,hu,hru⟩:=hds.get i d hd'
       rw[W6] at hu
       split at hu
       ·exact ⟨u,by simpa using hu,hru⟩
       ·cases hu
   ·cases h
  ·cases h
def XbU (s0:Heap):∀ (ids:List Nat) (obs:List Ob) (s:Heap) (i:Nat),ids.Nodup->(∀ id∈ids,∃ v o,s0 id=some (v,o))->obs.length=ids.length ->
 (i∉ids->app s (Zo s0 ids obs) i=s i)/\∀ (j:Nat) o,ids[j]? = some i->obs[j]? = some o->∀ v o',s0 i=some (v,o')->app s (Zo s0 ids obs) i=some (v,o)
 | [],obs,s,i,_,_,_=>by
  refine ⟨λ _=>by simp[Zo,app],λ j o h=>by simp at h⟩
 | id::ids,o::obs,s,i,hnd,hall,hlen=>by
  obtain ⟨v,o0,hs⟩:=hall id (by simp)
  simp only[List.nodup_cons] at hnd
  have hu:app s (Zo s0 (id::ids) (o::obs))=app (upd s id (some (v,o))) (Zo s0 ids obs):=by
   simp only[Zo,hs];rfl
  obtain ⟨g1,g2⟩:=XbU s0 ids obs (upd s id (some (v,o))) i hnd.2 (λ x hx=>hall x (by simp[hx])) (by simpa using hlen)
  rw[hu]
  refine ⟨λ hi=>?_,λ j o' hj ho v' o'' hs'=>?_⟩
  ·simp only[UQ,not_or] at hi
   rw[g1 hi.2,X2 _ _ _ _ hi.1]
  ·cases j with
   | zero =>
    simp at hj ho
    subst hj;subst ho
    rw[hs] at hs'
    obtain ⟨rfl,rfl⟩:v=v'/\o0=o'':=by simpa using hs'
    rw[g1 hnd.1,Yt]
   | succ j=>exact g2 j o' (by simpa using hj) (by simpa using ho) v' o'' hs'
def U8.called (I:U8 P C s U M β w) {ids:List Nat} {lb:List (Nat×Nat)} (hB:XbT s ids) (hL:Xd1 s β ids lb) (hlb:lb.length=ids.length) (hK:Kp w (lb.map (·.1)) w') (hmem:MemOK M' w') (hold:∀ b o,b<w.heap.size->M' b o=M b o)
 {obs:List Ob} (hlo:obs.length=ids.length) (hobs:∀ (k:Nat) ob x,obs[k]? = some ob->lb[k]? = some x->ObRep P M' Yj w' (some x) ob/\ob.bx=true) :
 U8 P C (app s (Zo s ids obs)) U M' β w'/\MLe M M':=by
 have hMle:MLe M M':=λ b o x hx=>by rw[hold b o (I.mem.lt hx)];exact hx
 have hall:∀ id∈ids,∃ v o,s id=some (v,o):=λ id hid=>by
  obtain ⟨v,E,z,cs,fz,h⟩:=hB.2 id hid
  exact ⟨_,_,h⟩
 have hsv:∀ id v ob,app s (Zo s ids obs) id=some (v,ob)->(id∉ids/\s id=some (v,ob))\/∃ (j:Nat) (x:Nat×Nat) (ob0:Ob),ids[j]? = some id/\lb[j]? = some x/\obs[j]? = some ob/\s id=some (v,ob0)/\ob0.bx=true/\β id v=some (some x):=by
  intro id v ob h
  obtain ⟨g1,g2⟩:=XbU s ids obs s id hB.1 hall hlo
  by_cases hid:id∈ids
  ·right
   obtain ⟨j,hj,rfl⟩:=WU hid
   obtain ⟨v',E,z,cs,fz,x,hs,hx,hb⟩:=hL j _ (Wb hj)
   have ho:obs[j]? = some (obs[j]'(by omega)):=Wb (by omega)
   have:=g2 j _ (by simp) ho v' _ hs
   rw[this] at h
   obtain ⟨rfl,rfl⟩:v'=v/\obs[j]'(by omega)=ob:=by simpa using h
   exact ⟨j,x,_,Wb hj,hx,ho,hs,rfl,hb⟩
  ·left;rw[g1 hid] at h;exact ⟨hid,h⟩
 have hnot:∀ id v ob b cb,id∉ids->s id=some (v,ob)->β id v=some (some (b,cb))->b∉lb.map (·.1):=by
  intro id v ob b cb hid hs hb hm
  rw[UH] at hm
  obtain ⟨x,hx,rfl⟩:=hm
  obtain ⟨j,hj,rfl⟩:=WU hx
  obtain ⟨v',E,z,cs,fz,x',hs',hx',hb'⟩:=hL j (ids[j]'(by omega)) (by simp)
  have:lb[j]=x':=by rw[Wb hj] at hx';simpa using hx'
  have hid':=I.inj id v ob (ids[j]'(by omega)) v' _ _ cb x'.2 hs hs' (by rw[hb]) (by rw[hb',← this])
  exact hid (hid'▸WW _)
 refine ⟨?_,hMle⟩
 constructor
 ·exact hmem
 ·exact I.used
 ·intro id v ob hs
  rcases hsv id v ob hs with ⟨hid,hs⟩ | ⟨j,x,ob0,hj,hx,ho,hs,_,hb⟩
  ·obtain ⟨x,hx,hr⟩:=I.obs id v ob hs
   refine ⟨x,hx,hr.mono hMle (BLe.refl _) ?_ ?_⟩
   ·rintro b cb rfl
    exact hK.block b hr.lt (hnot id v ob b cb hid hs hx)
   ·rintro b cb rfl o
    exact hold b o hr.lt
  ·obtain ⟨g1,g2⟩:=hobs j ob x ho hx
   exact ⟨some x,hb,g1.mono (MLe.refl _) (BLe.zero _) (λ _ _ _=>rfl) (λ _ _ _ _=>rfl)⟩
 ·intro id v ob b cb hs hb
  rcases hsv id v ob hs with ⟨hid,hs⟩ | ⟨j,x,ob0,hj,hx,ho,hs,hbx,hb'⟩
  ·exact I.own id v ob b cb hs hb
  ·rcases I.own id v ob0 b cb hs hb with h | h
   ·exact .inl h
   ·exact .inr ⟨h.1,(hobs j ob x ho hx).2⟩
 ·intro id v ob id' v' ob' b cb cb' hs hs' hb hb'
  have h1:∃ o,s id=some (v,o):=by
   rcases hsv id v ob hs with ⟨_,hs⟩ | ⟨_,_,o,_,_,_,hs,_⟩<;>exact ⟨_,hs⟩
  have h2:∃ o,s id'=some (v',o):=by
   rcases hsv id' v' ob' hs' with ⟨_,hs⟩ | ⟨_,_,o,_,_,_,hs,_⟩<;>exact ⟨_,hs⟩
  obtain ⟨o1,h1⟩:=h1
  obtain ⟨o2,h2⟩:=h2
  exact I.inj id v o1 id' v' o2 b cb cb' h1 h2 hb hb'
 ·refine ⟨hK.os.trans I.keep.os,hK.tape.trans I.keep.tape,hK.output.trans I.keep.output,UB I.keep.size hK.size,λ k hk hl=>?_⟩
  rw[← I.keep.block k hk hl]
  refine hK.block k (Nat.lt_of_lt_of_le hk I.keep.size) λ hm=>?_
  rw[UH] at hm
  obtain ⟨x,hx,rfl⟩:=hm
  obtain ⟨j,hj,rfl⟩:=WU hx
  obtain ⟨v',E,z,cs,fz,x',hs',hx',hb'⟩:=hL j (ids[j]'(by omega)) (by simp)
  have hx2:lb[j]=x':=by rw[Wb hj] at hx';simpa using hx'
  rcases I.own _ v' _ lb[j].1 x'.2 hs' (by rw[hb',hx2]) with h | h
  ·omega
  ·exact hl h.1
 ·intro b o hb
  rw[hold b o (Nat.lt_of_lt_of_le hb I.keep.size)]
  exact I.old b o hb
 ·exact I.le.trans hMle
 ·exact I.glob
end
variable {P:Program}
mutual
def fits:D->D->Prop
 | .nsl,.isl _ _ es=>es=[]
 | .agg cs,.agg ds=>ZD cs ds
 | .tup cs,.tup ds=>ZD cs ds
 | .clo fn a b,.clo fn' a' b'=>fn=fn'/\ZD a a'/\ZD b b'
 | .ifc t d,.ifc t' d'=>t=t'/\fits d d'
 | d,e=>d=e
def ZD:List D->List D->Prop
 | [],[]=>True
 | d::ds,e::es=>fits d e/\ZD ds es
 | _,_=>False
end
mutual
def fits_rep {M:Mem} {β:Loc}:∀ {d e:D} {y:Value},fits d e->Rep P M β d y->Rep P M β e y
 | .nsl,e,y,h,hr=>by
  cases e<;>simp only[fits,reduceCtorEq] at h<;>try (first | exact hr | (exact h.elim))
  subst h
  simp only[Rep] at hr ⊢
  obtain ⟨a,rfl⟩:=hr
  exact ⟨by simp,by simp[Xn],by simp[Xn],a,0,rfl,Ui _,.inl trivial⟩
 | .agg cs,e,y,h,hr=>by
  cases e<;>simp only[fits,reduceCtorEq] at h
  simp only[Rep] at hr ⊢
  obtain ⟨vs,e,hr⟩:=hr
  exact ⟨vs,e,Kv h hr⟩
 | .tup cs,e,y,h,hr=>by
  cases e<;>simp only[fits,reduceCtorEq] at h
  simp only[Rep] at hr ⊢
  obtain ⟨vs,e,hr⟩:=hr
  exact ⟨vs,e,Kv h hr⟩
 | .clo fn a b,e,y,h,hr=>by
  cases e<;>simp only[fits,reduceCtorEq] at h
  obtain ⟨rfl,h1,h2⟩:=h
  simp only[Rep] at hr ⊢
  obtain ⟨va,vb,e,hr1,hr2⟩:=hr
  exact ⟨va,vb,e,Kv h1 hr1,Kv h2 hr2⟩
 | .ifc t d,e,y,h,hr=>by
  cases e<;>simp only[fits,reduceCtorEq] at h
  obtain ⟨rfl,h1⟩:=h
  simp only[Rep] at hr ⊢
  obtain ⟨x,e,hr⟩:=hr
  exact ⟨x,e,fits_rep h1 hr⟩
 | .any,e,y,h,hr=>by have:D.any=e:=by cases e<;>simpa [fits] using h
                     exact this▸hr
 | .v x,e,y,h,hr=>by have:D.v x=e:=by cases e<;>simpa [fits] using h
                     exact this▸hr
 | .isl a b c,e,y,h,hr=>by have:D.isl a b c=e:=by cases e<;>simpa [fits] using h
                           exact this▸hr
 | .osl a b c d f,e,y,h,hr=>by have:D.osl a b c d f=e:=by cases e<;>simpa [fits] using h
                               exact this▸hr
 | .ept a b c d f,e,y,h,hr=>by have:D.ept a b c d f=e:=by cases e<;>simpa [fits] using h
                               exact this▸hr
 | .ipt a b c,e,y,h,hr=>by have:D.ipt a b c=e:=by cases e<;>simpa [fits] using h
                           exact this▸hr
 | .fsl a b c,e,y,h,hr=>by simp[Rep] at hr
 | .fmp a b c,e,y,h,hr=>by simp[Rep] at hr
 | .omp a b,e,y,h,hr=>by have:D.omp a b=e:=by cases e<;>simpa [fits] using h
                         exact this▸hr
def Kv {M:Mem} {β:Loc}:∀ {ds es:List D} {ys:List Value},ZD ds es->RepL P M β ds ys->RepL P M β es ys
 | [],es,ys,h,hr=>by
  cases es<;>simp only[ZD] at h
  exact hr
 | d::ds,es,ys,h,hr=>by
  cases es<;>simp only[ZD] at h
  simp only[RepL] at hr ⊢
  obtain ⟨x,xs,e,h1,h2⟩:=hr
  exact ⟨x,xs,e,fits_rep h.1 h1,Kv h.2 h2⟩
end
mutual
def scal:D->Bool
 | .any=>true
 | .v _=>true
 | .agg cs=>Jc cs
 | .tup cs=>Jc cs
 | _=>false
def Jc:List D->Bool
 | []=>true
 | d::ds=>scal d&&Jc ds
end
mutual
def scal_rep {M M':Mem} {w:World} {B:Nat} (β:Loc) (ver n:Nat):∀ {d:D} {y:Value} {l:List (Option (Nat×Nat))},scal d=true->FrRep P M w B d y l->l=[]/\Rep P M' β d y/\imp ver n d=(d,n,[])
 | .any,y,l,_,hr=>by simp only[FrRep] at hr;exact ⟨hr,by simp[Rep],by simp[imp]⟩
 | .v x,y,l,_,hr=>by simp only[FrRep] at hr;exact ⟨hr.1,by simpa [Rep] using hr.2,by simp[imp]⟩
 | .agg cs,y,l,hs,hr=>by
  simp only[scal] at hs
  simp only[FrRep] at hr
  obtain ⟨vs,e,hr⟩:=hr
  obtain ⟨h1,h2,h3⟩:=XaL (M':=M') β ver n hs hr
  exact ⟨h1,by simp only[Rep];exact ⟨vs,e,h2⟩,by simp only[imp,h3]⟩
 | .tup cs,y,l,hs,hr=>by
  simp only[scal] at hs
  simp only[FrRep] at hr
  obtain ⟨vs,e,hr⟩:=hr
  obtain ⟨h1,h2,h3⟩:=XaL (M':=M') β ver n hs hr
  exact ⟨h1,by simp only[Rep];exact ⟨vs,e,h2⟩,by simp only[imp,h3]⟩
 | .nsl,y,l,hs,hr=>by simp[scal] at hs
 | .isl ..,y,l,hs,hr=>by simp[scal] at hs
 | .osl ..,y,l,hs,hr=>by simp[scal] at hs
 | .ept ..,y,l,hs,hr=>by simp[scal] at hs
 | .ipt ..,y,l,hs,hr=>by simp[scal] at hs
 | .clo ..,y,l,hs,hr=>by simp[scal] at hs
 | .ifc ..,y,l,hs,hr=>by simp[scal] at hs
 | .fsl ..,y,l,hs,hr=>by simp[scal] at hs
 | .fmp ..,y,l,hs,hr=>by simp[scal] at hs
 | .omp ..,y,l,hs,hr=>by simp[scal] at hs
def XaL {M M':Mem} {w:World} {B:Nat} (β:Loc) (ver n:Nat):∀ {ds:List D} {ys:List Value} {l:List (Option (Nat×Nat))},Jc ds=true->FrRepL P M w B ds ys l->l=[]/\RepL P M' β ds ys/\K5 ver n ds=(ds,n,[])
 | [],ys,l,_,hr=>by simp only[FrRepL] at hr;exact ⟨hr.2,by simp[RepL,hr.1],by simp[K5]⟩
 | d::ds,ys,l,hs,hr=>by
  simp only[Jc,Ww] at hs
  simp only[FrRepL] at hr
  obtain ⟨x,xs,l1,l2,e,rfl,h1,h2⟩:=hr
  obtain ⟨rfl,h3,h4⟩:=scal_rep (M':=M') β ver n hs.1 h1
  obtain ⟨rfl,h5,h6⟩:=XaL (M':=M') β ver n hs.2 h2
  exact ⟨rfl,by simp only[RepL];exact ⟨x,xs,e,h3,h5⟩,by simp only[K5,h4,h6,Iw]⟩
end
mutual
def FrRep.ge {M:Mem} {w:World} {B:Nat}:∀ {d:D} {y:Value} {l:List (Option (Nat×Nat))},FrRep P M w B d y l->∀ b∈XM l,B<=b
 | .fsl E z es,y,l,hr=>by
  simp only[FrRep] at hr
  rcases hr with ⟨rfl,_⟩ | ⟨b,cb,o,rfl,hb,_⟩
  ·simp[XM]
  ·simp[XM,hb]
 | .fmp k ks vs,y,l,hr=>by
  simp only[FrRep] at hr
  obtain ⟨b,rfl,hb,_⟩:=hr
  simp[XM,hb]
 | .agg cs,y,l,hr=>by simp only[FrRep] at hr;obtain ⟨vs,_,hr⟩:=hr;exact FrRepL.ge hr
 | .tup cs,y,l,hr=>by simp only[FrRep] at hr;obtain ⟨vs,_,hr⟩:=hr;exact FrRepL.ge hr
 | .ifc t d,y,l,hr=>by simp only[FrRep] at hr;obtain ⟨vs,_,hr⟩:=hr;exact FrRep.ge hr
 | .clo fn a b,y,l,hr=>by
  simp only[FrRep] at hr
  obtain ⟨va,vb,_,l1,l2,rfl,h1,h2⟩:=hr
  intro b hb
  rw[XU,WK] at hb
  rcases hb with hb | hb
  ·exact FrRepL.ge h1 b hb
  ·exact FrRepL.ge h2 b hb
 | .any,y,l,hr=>by simp only[FrRep] at hr;subst hr;simp[XM]
 | .v _,y,l,hr=>by simp only[FrRep] at hr;rw[hr.1];simp[XM]
 | .nsl,y,l,hr=>by simp only[FrRep] at hr;rw[hr.1];simp[XM]
 | .isl ..,y,l,hr=>by simp only[FrRep] at hr;rw[hr.1];simp[XM]
 | .ipt ..,y,l,hr=>by simp only[FrRep] at hr;rw[hr.1];simp[XM]
 | .osl ..,y,l,hr=>by simp[FrRep] at hr
 | .ept ..,y,l,hr=>by simp[FrRep] at hr
 | .omp ..,y,l,hr=>by simp[FrRep] at hr
def FrRepL.ge {M:Mem} {w:World} {B:Nat}:∀ {ds:List D} {ys:List Value} {l:List (Option (Nat×Nat))},FrRepL P M w B ds ys l->∀ b∈XM l,B<=b
 | [],ys,l,hr=>by simp only[FrRepL] at hr;rw[hr.2];simp[XM]
 | d::ds,ys,l,hr=>by
  simp only[FrRepL] at hr
  obtain ⟨x,xs,l1,l2,_,rfl,h1,h2⟩:=hr
  intro b hb
  rw[XU,WK] at hb
  rcases hb with hb | hb
  ·exact FrRep.ge h1 b hb
  ·exact FrRepL.ge h2 b hb
end
def YS (s:Heap) (args:List D):Option (Prop×List D×List Nat×List Ob×List Nat) :=
 match Y6 s [] args with
 | some (c,as,ids,l1)=>match Kg s ids with
  | some (c',obs,l2)=>some (c/\c',as,ids,obs,l1++l2)
  | none=>none
 | none=>none
def JV:Ob->Bool
 | .arr true _ _ es 0=>es.all Jc
 | _=>false
mutual
def scalR {M M':Mem} {β β':Loc}:∀ {d:D} {y:Value},scal d=true->Rep P M β d y->Rep P M' β' d y
 | .any,y,_,_=>by simp[Rep]
 | .v x,y,_,h=>by simpa only[Rep] using h
 | .agg cs,y,hs,h=>by
  simp only[scal] at hs
  simp only[Rep] at h ⊢
  obtain ⟨vs,e,h⟩:=h
  exact ⟨vs,e,Xgq hs h⟩
 | .tup cs,y,hs,h=>by
  simp only[scal] at hs
  simp only[Rep] at h ⊢
  obtain ⟨vs,e,h⟩:=h
  exact ⟨vs,e,Xgq hs h⟩
 | .nsl,_,hs,_=>by simp[scal] at hs
 | .isl ..,_,hs,_=>by simp[scal] at hs
 | .osl ..,_,hs,_=>by simp[scal] at hs
 | .ept ..,_,hs,_=>by simp[scal] at hs
 | .ipt ..,_,hs,_=>by simp[scal] at hs
 | .clo ..,_,hs,_=>by simp[scal] at hs
 | .ifc ..,_,hs,_=>by simp[scal] at hs
 | .fsl ..,_,hs,_=>by simp[scal] at hs
 | .fmp ..,_,hs,_=>by simp[scal] at hs
 | .omp ..,_,hs,_=>by simp[scal] at hs
def Xgq {M M':Mem} {β β':Loc}:∀ {ds:List D} {ys:List Value},Jc ds=true->RepL P M β ds ys->RepL P M' β' ds ys
 | [],ys,_,h=>by simpa only[RepL] using h
 | d::ds,ys,hs,h=>by
  simp only[Jc,Ww] at hs
  simp only[RepL] at h ⊢
  obtain ⟨x,xs,e,h1,h2⟩:=h
  exact ⟨x,xs,e,scalR hs.1 h1,Xgq hs.2 h2⟩
end
def Xc3:∀ {ds:List D},Jc ds=true->∀ d∈ds,scal d=true
 | [],_,d,h=>by simp at h
 | e::ds,hs,d,h=>by
  simp only[Jc,Ww] at hs
  rcases UQ.1 h with rfl | h
  ·exact hs.1
  ·exact Xc3 hs.2 d h
def XiA {M M':Mem} {w:World} {x:Nat×Nat}:∀ {ob:Ob},JV ob=true->(∀ b o y,M b o=some y->M' b o=some y)->ObRep P M' Yj w (some x) ob->ObRep P M Yj w (some x) ob
 | .mp ..,hs,_,_=>by simp[JV] at hs
 | .raw _,hs,_,_=>by simp[JV] at hs
 | .arr false ..,hs,_,_=>by simp[JV] at hs
 | .arr true E z es (n+1),hs,_,_=>by simp[JV] at hs
 | .arr true E z es 0,hs,hle,h=>by
  obtain ⟨b,cb⟩:=x
  simp only[JV,W3] at hs
  simp only[ObRep] at h ⊢
  obtain ⟨cs,T,k1,k2,k3,k4,k5,k6,k7,k8,k9,k10⟩:=h
  refine ⟨cs,T,k1,k2,k3,k4,k5,k6,k7,k8,λ o=>?_,λ i d hd=>?_⟩
  ·have h9:=k9 o
   rw[Wm (by omega)] at h9 ⊢
   cases hM:M b o with
   | none=>rfl
   | some y=>rw[hle b o y hM] at h9;cases h9
  ·obtain ⟨y,hy,hr⟩:=k10 i d hd
   obtain ⟨e,he,hde⟩:=List.mem_flatten.1 (Ua hd)
   exact ⟨y,hy,scalR (Xc3 (hs e he) d hde) hr⟩
def Kw (s:Heap) (ids fz:List Nat) (r:D) (ls:List Ob) (ver n:Nat):D×Heap :=
 let s1:=if scal r&&ls.all JV then s else frz s fz
 let s2:=app s1 (Zo s ids ls)
 let q:=imp ver n r
 (q.1,app s2 q.2.2)
section
variable {C:Cx} {s:Heap} {U:Nat->Prop} {M:Mem} {β:Loc} {w:World} {ver:Nat}
def XaM (s:Heap) (fz:List Nat):∀ (ids:List Nat) (obs:List Ob),(∀ id∈ids,∃ v o,s id=some (v,o))->Zo (frz s fz) ids obs=Zo s ids obs
 | [],_,_=>rfl
 | id::ids,[],_=>rfl
 | id::ids,o::obs,h=>by
  obtain ⟨v,o0,hs⟩:=h id (by simp)
  have ih:=XaM s fz ids obs λ x hx=>h x (by simp[hx])
  have hv:∃ o',frz s fz id=some (v,o'):=by
   unfold frz
   split
   ·rw[hs]
    cases o0 with
    | mp _=>exact ⟨_,rfl⟩
    | raw _=>exact ⟨_,rfl⟩
    | arr bx E z es f=>cases bx<;>exact ⟨_,rfl⟩
   ·exact ⟨_,hs⟩
  obtain ⟨o',hv⟩:=hv
  simp only[Zo,hv,hs,ih]
def Xho (I:U8 P C s U M β w) (hv:¬ U ver) {f:FuncId} {args eargs:List D} {vs:List Value} (hr:RepL P M β args vs) {c:Prop} {as:List D} {ids:List Nat} {obs:List Ob} {fz:List Nat}
 (h:YS s args=some (c,as,ids,obs,fz)) (hc:c) (hfit:ZD as eargs) {R:D->List Ob->Prop} (hA:YY P C.G f eargs obs R) (n:Nat) :
 Calls P f ⟨vs⟩ w λ e w'=>∃ v r ls M' β',e=.returned v/\R r ls/\U8 P C (Kw s ids fz r ls ver n).2 (λ x=>U x\/x=ver) M' β' w'/\Rep P M' β' (Kw s ids fz r ls ver n).1 v/\MLe M M'/\BLe β β':=by
 unfold YS at h
 split at h
 ·rename_i c1 as' ids' l1 hl
  split at h
  ·rename_i c2 obs' l2 ho
   simp only[Wc,Wi] at h
   obtain ⟨rfl,rfl,rfl,rfl,rfl⟩:=h
   obtain ⟨M1,I1,hM1,hF⟩:=I.freeze (l1++l2)
   have hboxes:XbT s ids':=YM hl ⟨by simp,by simp⟩
   have hlb:∃ lb:List (Nat×Nat),lb.length=ids'.length/\Xd1 s β ids' lb:=by
    have:∀ l:List Nat,(∀ id∈l,∃ v E z cs fz,s id=some (v,.arr true E z [cs] fz))->∃ lb:List (Nat×Nat),lb.length=l.length/\Xd1 s β l lb:=by
     intro l
     induction l with
     | nil=>intro _;exact ⟨[],rfl,λ j id h=>by simp at h⟩
     | cons id l ih =>
      intro hall
      obtain ⟨lb,h1,h2⟩:=ih λ x hx=>hall x (by simp[hx])
      obtain ⟨v,E,z,cs,fz,hs⟩:=hall id (by simp)
      obtain ⟨x,hx,hob⟩:=I.obs id v _ hs
      cases x with
      | none=>simp[ObRep] at hob
      | some x =>
       refine ⟨x::lb,by simp[h1],λ j i hj=>?_⟩
       cases j with
       | zero=>simp at hj;subst hj;exact ⟨v,E,z,cs,fz,x,hs,by simp,hx⟩
       | succ j=>simpa using h2 j i (by simpa using hj)
    exact this ids' hboxes.2
   obtain ⟨lb,hlen,hL⟩:=hlb
   have hargs:=Kv hfit (Ku I hM1 hL hl hc.1 (λ i hi=>hF i (Uo _ hi)) (UX _) hr)
   obtain ⟨g1,g2⟩:=XaK I hM1 I1 hF ho hc.2 (λ x hx=>Ur _ hx) hL hlen
   have hnd:(lb.map (·.1)).Nodup:=by
    rw[IE,Ie]
    intro i j hi0 hj0 hij he
    simp only[W0] at hi0 hj0
    have hii:i<lb.length:=by omega
    have hj:j<lb.length:=by omega
    simp only[List.getElem_map] at he
    obtain ⟨v,E,z,cs,fz,x,hs,hx,hb⟩:=hL i (ids'[i]'(by omega)) (by simp)
    obtain ⟨v',E',z',cs',fz',x',hs',hx',hb'⟩:=hL j (ids'[j]'(by omega)) (by simp)
    have e1:lb[i]=x:=by simpa [hii] using hx
    have e2:lb[j]=x':=by simpa [hj] using hx'
    have hid:=I.inj _ v _ _ v' _ x.1 x.2 x'.2 hs hs' hb (by rw[hb',← e2,← e1,he])
    have:=(Ie.1 (IE.1 hboxes.1)) i j (by omega) (by omega) hij
    exact this hid
   refine (hA.2 M1 w vs lb I1.mem (λ g cs hg=>RepC.mono I1.le (I1.glob g cs hg)) (by rw[hlen,g1]) hnd g2 hargs).mono ?_
   rintro e w' ⟨v,r,ls,M',l,rfl,hR,hK,hmem,hold,hls,hobs,hfr,hndl⟩
   refine ⟨v,r,ls,?_⟩
   have hlsn:ls.length=ids'.length:=by rw[hls,hlen]
   have hall:∀ id∈ids',∃ v o,s id=some (v,o):=λ id hid=>by
    obtain ⟨v,E,z,cs,fz,h⟩:=hboxes.2 id hid
    exact ⟨_,_,h⟩
   have hold0:∀ b o x,M b o=some x->M' b o=some x:=λ b o x hx=>by
    rw[hold b o (I.mem.lt hx)];exact hM1 _ _ _ hx
   unfold Kw
   by_cases hsc:(scal r&&ls.all JV)=true
   ·simp only[hsc,if_true]
    simp only[Ww] at hsc
    obtain ⟨hsc1,hso⟩:=hsc
    obtain ⟨rfl,hrv,himp⟩:=scal_rep (M':=M) β ver n hsc1 hfr
    obtain ⟨I2,_⟩:=I.called (ids:=ids') (lb:=lb) (M':=M) (w':=w') (obs:=ls) hboxes hL hlen hK (λ b o x hx=>hmem b o x (hold0 b o x hx)) (λ _ _ _=>rfl) hlsn (λ k ob x h1 h2=>by
     obtain ⟨g3,g4⟩:=hobs k ob x h1 h2
     exact ⟨XiA (W3.1 hso ob (Ua h1)) hold0 g3,g4⟩)
    refine ⟨M,β,trivial,hR,?_,?_,MLe.refl _,BLe.refl _⟩
    ·rw[himp];exact I2.mono λ _ h=>.inl h
    ·rw[himp];exact hrv
   ·simp only[hsc,US,if_false]
    have hB1:XbT (frz s (l1++l2)) ids':=⟨hboxes.1,λ id hid=>by
     obtain ⟨v,E,z,cs,fz,hs⟩:=hboxes.2 id hid
     refine ⟨v,E,z,cs,fz,?_⟩
     unfold frz
     split
     ·rw[hs];rfl
     ·exact hs⟩
    have hL1:Xd1 (frz s (l1++l2)) β ids' lb:=λ j id hj=>by
     obtain ⟨v,E,z,cs,fz,x,hs,hx,hb⟩:=hL j id hj
     refine ⟨v,E,z,cs,fz,x,?_,hx,hb⟩
     unfold frz
     split
     ·rw[hs];rfl
     ·exact hs
    obtain ⟨I2,hM2⟩:=I1.called hB1 hL1 hlen hK hmem hold hlsn hobs
    rw[XaM s _ ids' ls hall] at I2
    have hfree:Xgp (app (frz s (l1++l2)) (Zo s ids' ls)) β (XM l):=by
     intro b hb id v' ob cb hs hx
     have hge:=FrRep.ge hfr b hb
     have h1:∃ o,frz s (l1++l2) id=some (v',o):=by
      obtain ⟨q1,q2⟩:=XbU (frz s (l1++l2)) ids' ls (frz s (l1++l2)) id hB1.1 (λ i hi=>by
       obtain ⟨v,E,z,cs,fz,h⟩:=hB1.2 i hi
       exact ⟨_,_,h⟩) hlsn
      rw[XaM s _ ids' ls hall] at q1 q2
      by_cases hid:id∈ids'
      ·obtain ⟨j,hj,rfl⟩:=WU hid
       obtain ⟨v2,E,z,cs,fz,h⟩:=hB1.2 _ hid
       have:=q2 j (ls[j]'(by omega)) (by simp) (by simp) v2 _ h
       rw[this] at hs
       obtain ⟨rfl,_⟩:v2=v'/\_:=by simpa using hs
       exact ⟨_,h⟩
      ·rw[q1 hid] at hs;exact ⟨_,hs⟩
     obtain ⟨o,h1⟩:=h1
     obtain ⟨x,hx1,hob⟩:=I1.obs id v' o h1
     rw[hx] at hx1
     obtain rfl:some (b,cb)=x:=by simpa using hx1
     have:=hob.lt
     omega
    obtain ⟨β',h1,h2⟩:=imp_ok (C:=C) (ver:=ver) (B:=w.heap.size) I.keep.size r v l n I2 (λ i _=>I2.fresh hv i) hfr hndl hfree
    exact ⟨M',β',trivial,hR,h1.inv,h2,hM1.trans hM2,h1.le⟩
  ·cases h
 ·cases h
def XmV (I:U8 P C s U M β w) {f:FuncId} {eargs:List D} {vs:List Value} {M1:Mem} (hM1:MLe M M1) (hm1:MemOK M1 w) (hargs:RepL P M1 Yj eargs vs) {R:D->List Ob->Prop} (hA:YY P C.G f eargs [] R) (hsc:∀ r ls,R r ls->scal r=true) :
 Calls P f ⟨vs⟩ w λ e w'=>∃ v r ls,e=.returned v/\R r ls/\U8 P C s U M β w'/\Rep P M β r v:=by
 refine (hA.2 M1 w vs [] hm1 (λ g cs hg=>RepC.mono (I.le.trans hM1) (I.glob g cs hg)) rfl (by simp) (λ k ob x h=>by simp at h) (hargs.mono (MLe.refl _) (BLe.zero _))).mono ?_
 rintro e w' ⟨v,r,ls,M',l,rfl,hR,hK,hmem,hold,hls,hobs,hfr,hndl⟩
 have hold0:∀ b o x,M b o=some x->M' b o=some x:=λ b o x hx=>by
  rw[hold b o (I.mem.lt hx)];exact hM1 _ _ _ hx
 obtain ⟨rfl,hrv,_⟩:=scal_rep (M':=M) β 0 0 (hsc r ls hR) hfr
 obtain ⟨I2,_⟩:=I.called (ids:=[]) (lb:=[]) (M':=M) (w':=w') (obs:=[]) ⟨by simp,by simp⟩ (λ j id h=>by simp at h) rfl hK (λ b o x hx=>hmem b o x (hold0 b o x hx)) (λ _ _ _=>rfl) rfl (λ k ob x h=>by simp at h)
 exact ⟨v,r,ls,rfl,hR,I2,hrv⟩
end
variable {P:Program}
def HLe (s s':Heap):Prop:=∀ i x,s i=some x->s' i=some x
section
variable {s s':Heap}
mutual
def snap_le (hs:HLe s s'):∀ {d:D} {r},snap s d=some r->snap s' d=some r
 | .osl id ver z off len,r,h=>by
  unfold snap at h ⊢
  split at h
  ·rename_i ver' E z' es f he
   rw[hs _ _ he]
   exact h
  ·cases h
 | .agg cs,r,h=>by
  unfold snap at h ⊢
  split at h
  ·rename_i c ds l he
   rw[Jd hs he];exact h
  ·cases h
 | .tup cs,r,h=>by
  unfold snap at h ⊢
  split at h
  ·rename_i c ds l he
   rw[Jd hs he];exact h
  ·cases h
 | .clo fn a b,r,h=>by
  unfold snap at h ⊢
  split at h
  ·rename_i he hf
   rw[Jd hs he,Jd hs hf];exact h
  ·cases h
 | .ifc t d,r,h=>by
  unfold snap at h ⊢
  split at h
  ·rename_i he
   rw[snap_le hs he];exact h
  ·cases h
 | .any,r,h=>by simpa only[snap] using h
 | .v _,r,h=>by simpa only[snap] using h
 | .nsl,r,h=>by simpa only[snap] using h
 | .isl ..,r,h=>by simpa only[snap] using h
 | .ipt ..,r,h=>by simpa only[snap] using h
 | .ept ..,r,h=>by simp[snap] at h
 | .fsl ..,r,h=>by simp[snap] at h
 | .fmp ..,r,h=>by simp[snap] at h
 | .omp ..,r,h=>by simp[snap] at h
def Jd (hs:HLe s s'):∀ {ds:List D} {r},Z7 s ds=some r->Z7 s' ds=some r
 | [],r,h=>by simpa only[Z7] using h
 | d::ds,r,h=>by
  unfold Z7 at h ⊢
  split at h
  ·rename_i he hf
   rw[snap_le hs he,Jd hs hf];exact h
  ·cases h
end
def XeZ (hs:HLe s s'):∀ {ds:List (Nat×D)} {r},K9 s ds=some r->K9 s' ds=some r
 | [],r,h=>by simpa only[K9] using h
 | (i,d)::ds,r,h=>by
  unfold K9 at h ⊢
  split at h
  ·rename_i he hf
   rw[snap_le hs he,XeZ hs hf];exact h
  ·cases h
def Has (s:Heap) (l:List Nat):Prop:=∀ i∈l,∃ x,s i=some x
def V4 (hs:HLe s s'):∀ {l:List Nat},Has s l->VI s' l=VI s l
 | [],_=>rfl
 | i::l,h=>by
  obtain ⟨x,hx⟩:=h i (by simp)
  have ih:=V4 hs (l:=l) (λ j hj=>h j (W4 _ hj))
  simp only[VI,hx,hs _ _ hx,ih]
mutual
def snap_has:∀ {d:D} {c e l},snap s d=some (c,e,l)->Has s l
 | .osl id ver z off len,c,e,l,h=>by
  unfold snap at h
  split at h
  ·rename_i he
   split at h
   ·simp only[Wc,Wi] at h
    obtain ⟨_,_,rfl⟩:=h
    intro i hi;simp at hi;subst hi;exact ⟨_,he⟩
   ·cases h
  ·cases h
 | .agg cs,c,e,l,h=>by
  unfold snap at h
  split at h
  ·rename_i he
   simp only[Wc,Wi] at h
   obtain ⟨_,_,rfl⟩:=h
   exact Kx he
  ·cases h
 | .tup cs,c,e,l,h=>by
  unfold snap at h
  split at h
  ·rename_i he
   simp only[Wc,Wi] at h
   obtain ⟨_,_,rfl⟩:=h
   exact Kx he
  ·cases h
 | .clo fn a b,c,e,l,h=>by
  unfold snap at h
  split at h
  ·rename_i he hf
   simp only[Wc,Wi] at h
   obtain ⟨_,_,rfl⟩:=h
   intro i hi
   rcases WK.1 hi with hi | hi
   ·exact Kx he i hi
   ·exact Kx hf i hi
  ·cases h
 | .ifc t d,c,e,l,h=>by
  unfold snap at h
  split at h
  ·rename_i he
   simp only[Wc,Wi] at h
   obtain ⟨_,_,rfl⟩:=h
   exact snap_has he
  ·cases h
 | .any,c,e,l,h=>by simp[snap] at h;obtain ⟨_,_,rfl⟩:=h;intro i hi;simp at hi
 | .v _,c,e,l,h=>by simp[snap] at h;obtain ⟨_,_,rfl⟩:=h;intro i hi;simp at hi
 | .nsl,c,e,l,h=>by simp[snap] at h;obtain ⟨_,_,rfl⟩:=h;intro i hi;simp at hi
 | .isl ..,c,e,l,h=>by simp[snap] at h;obtain ⟨_,_,rfl⟩:=h;intro i hi;simp at hi
 | .ipt ..,c,e,l,h=>by simp[snap] at h;obtain ⟨_,_,rfl⟩:=h;intro i hi;simp at hi
 | .ept ..,c,e,l,h=>by simp[snap] at h
 | .fsl ..,c,e,l,h=>by simp[snap] at h
 | .fmp ..,c,e,l,h=>by simp[snap] at h
 | .omp ..,c,e,l,h=>by simp[snap] at h
def Kx:∀ {ds:List D} {c es l},Z7 s ds=some (c,es,l)->Has s l
 | [],c,es,l,h=>by simp[Z7] at h;obtain ⟨_,_,rfl⟩:=h;intro i hi;simp at hi
 | d::ds,c,es,l,h=>by
  unfold Z7 at h
  split at h
  ·rename_i he hf
   simp only[Wc,Wi] at h
   obtain ⟨_,_,rfl⟩:=h
   intro i hi
   rcases WK.1 hi with hi | hi
   ·exact snap_has he i hi
   ·exact Kx hf i hi
  ·cases h
end
def Xc4:∀ {ds:List (Nat×D)} {c es l},K9 s ds=some (c,es,l)->Has s l
 | [],c,es,l,h=>by simp[K9] at h;obtain ⟨_,_,rfl⟩:=h;intro i hi;simp at hi
 | (j,d)::ds,c,es,l,h=>by
  unfold K9 at h
  split at h
  ·rename_i he hf
   simp only[Wc,Wi] at h
   obtain ⟨_,_,rfl⟩:=h
   intro i hi
   rcases WK.1 hi with hi | hi
   ·exact snap_has he i hi
   ·exact Xc4 hf i hi
  ·cases h
def XmW (hs:HLe s s') {d:D} {r} (h:XdM s d=some r):XdM s' d=some r:=by
 unfold XdM at h ⊢
 split at h
 ·exact h
 ·split at h
  ·rename_i he
   rw[hs _ _ he];exact h
  ·cases h
 ·cases h
def Xe0 (hs:HLe s s') {z:Nat} {d:D} {r} (h:elems s z d=some r):elems s' z d=some r:=by
 unfold elems at h ⊢
 split at h
 ·exact h
 ·exact h
 ·exact h
 ·split at h
  ·rename_i he
   rw[hs _ _ he];exact h
  ·cases h
 ·cases h
def Xhp (hs:HLe s s') {a b E z n:Nat} {c:Prop} {src:List (List D)} {d:D} {r} (h:XcP P s a b E z n c src d=some r):XcP P s' a b E z n c src d=some r:=by
 unfold XcP at h ⊢
 split at h
 ·exact h
 ·split at h
  ·rename_i he
   rw[hs _ _ he];exact h
  ·cases h
 ·cases h
def Xhq (hs:HLe s s') {T:TypeId} {m key x:D} {r} (h:Xgj P s T m key x=some r):Xgj P s' T m key x=some r:=by
 unfold Xgj at h ⊢
 split at h
 ·rename_i h0
  try simp only[h0]
  split at h
  ·rename_i h1
   rw[hs _ _ h1]
   simp only
   split at h
   ·rename_i h2
    rw[snap_le hs h2];simp only
    rw[V4 hs (snap_has h2)]
    exact h
   ·cases h
  ·cases h
 ·cases h
def Xph (hs:HLe s s') {dst:Option Nat} {ver:Nat} {t:Operand->D} {op:Op} {r} (h:opF P dst ver t s op=some r):opF P dst ver t s' op=some r:=by
 cases op with
 | load T a =>
  simp only[opF] at h ⊢
  split at h
  ·rename_i h1 h2
   rw[h1,XmW hs h2];exact h
  ·cases h
 | store T a x =>
  simp only[opF] at h ⊢
  split at h
  ·rename_i h1 h2
   try simp only[h1,h2]
   split at h
   ·rename_i h3
    rw[hs _ _ h3];exact h
   ·rename_i h3
    rw[hs _ _ h3]
    split at h
    ·rename_i h4
     simp only[snap_le hs h4]
     rw[V4 hs (snap_has h4)]
     exact h
    ·cases h
   ·cases h
  ·cases h
 | buildSlice T n parts =>
  simp only[opF] at h ⊢
  split at h
  ·rename_i h1
   try simp only[h1]
   split at h
   ·rename_i h2
    try simp only[h2]
    split at h
    ·rename_i h3
     try simp only[h3]
     split at h
     ·rename_i h4
      rw[Wn h4]
      split at h
      ·rename_i h5
       simp only[XeZ hs h5]
       rw[V4 hs (Xc4 h5)]
       exact h
      ·cases h
     ·cases h
    ·cases h
   ·cases h
  ·cases h
 | mapUpdate T m key x=>simp only[opF] at h ⊢;exact Xhq hs h
 | insert T m key x=>simp only[opF] at h ⊢;exact Xhq hs h
 | lookup T m key ok =>
  simp only[opF] at h ⊢
  split at h
  ·rename_i h1 h2 h3
   try simp only[h1,h2,h3]
   split at h
   ·rename_i h4 h5
    simp only[hs _ _ h4,h5];exact h
   ·rename_i h4 h5
    simp only[hs _ _ h4,h5];exact h
   ·cases h
  ·cases h
 | mapEntry T m key =>
  simp only[opF] at h ⊢
  split at h
  ·rename_i h1 h2 h3
   try simp only[h1,h2,h3]
   split at h
   ·rename_i h4 h5
    simp only[hs _ _ h4,h5];exact h
   ·cases h
  ·cases h
 | entryStore T m e x =>
  simp only[opF] at h ⊢
  split at h
  ·rename_i h1 h2 h3
   try simp only[h1,h2,h3]
   split at h
   ·rename_i h4
    simp only[hs _ _ h4];exact h
   ·cases h
  ·cases h
 | call c =>
  obtain ⟨callee,args,types⟩:=c
  cases callee with
  | builtin b =>
   cases b<;>first | exact h | skip
   case len =>
    simp only[opF] at h ⊢
    split at h
    ·rename_i h1 h2
     try simp only[h1,h2]
     split at h
     ·rename_i h3;try simp only[h3]
      exact h
     ·rename_i h3;try simp only[h3]
      exact h
     ·rename_i h3;try simp only[h3]
      exact h
     ·rename_i h3;try simp only[h3]
      exact h
     ·split at h
      ·rename_i h4 h5
       simp only[h4,hs _ _ h5];exact h
      ·cases h
     ·cases h
    ·cases h
   case clear =>
    simp only[opF] at h ⊢
    split at h
    ·rename_i h1 h2
     try simp only[h1,h2]
     split at h
     ·rename_i h3
      try simp only[h3]
      split at h
      ·rename_i h4
       try simp only[h4]
       split at h
       ·rename_i h5 h6
        simp only[h5,hs _ _ h6];exact h
       ·cases h
      ·cases h
     ·cases h
    ·rename_i h1 h2
     try simp only[h1,h2]
     split at h
     ·rename_i h4 h5
      simp only[h4,hs _ _ h5];exact h
     ·cases h
    ·cases h
   case copy =>
    simp only[opF] at h ⊢
    split at h
    ·rename_i h1 h2
     try simp only[h1,h2]
     split at h
     ·rename_i h3
      try simp only[h3]
      split at h
      ·rename_i h4 h5 h6
       simp only[h4,hs _ _ h5,Xe0 hs h6];exact h
      ·cases h
     ·cases h
    ·cases h
   case delete =>
    simp only[opF] at h ⊢
    split at h
    ·rename_i h1 h2
     try simp only[h1,h2]
     split at h
     ·rename_i h4 h5
      simp only[h4,hs _ _ h5];exact h
     ·cases h
    ·cases h
   simp only[opF] at h ⊢
   split at h
   ·rename_i h1 h2
    try simp only[h1,h2]
    split at h
    ·rename_i h3
     try simp only[h3]
     split at h
     ·rename_i h4
      try simp only[h4]
      split at h
      ·rename_i h5
       try simp only[h5]
       split at h
       ·rename_i h6
        rw[Wn h6]
        split at h
        ·rename_i h7
         try simp only[h7]
         split at h
         ·rename_i h8
          simp only[Xe0 hs h8]
          exact Xhp hs h
         ·cases h
        ·rename_i h7
         try simp only[h7]
         split at h
         ·rename_i h8
          try simp only[h8]
          exact Xhp hs h
         ·cases h
        ·cases h
       ·cases h
      ·cases h
     ·cases h
    ·cases h
   ·cases h
  | _=>exact h
 | _=>exact h
end
variable {P:Program}
inductive It where
 | code (c:Code)
 | ops (full:Array Oper) (rest:List Oper)
 | blk (id:Nat)
 | stop (Q:St->Prop)
abbrev AW:=Act->World->Prop
def Xgr {F:Fence} {n:Nat} {c:Code} {Q:Exit->AW} {a:Act} {w:World} (h:c.wpIn F n P (Exit.noGoto Q) a w):(Code.scope c).wpIn F n P Q a w:=by
 intro b k cs hro hb hr
 have h0:(lone (b.atR a (.code (.scope c)::k)) cs w).fenced P F:=fenced_calm hb hr rfl
 have s0:step P (lone (b.atR a (.code (.scope c)::k)) cs w)=.next (lone (b.atR a (.code c::.inScope c::k)) cs w):=step_lone_go (by simp[stepG,stepG.exec,Frame.atR])
 obtain ⟨e,a₁,w₁,hq,harr⟩:=h b (.inScope c::k) cs hro hb hr
 have s1:step P (lone (b.atR a₁ (.inScope c::k)) cs w₁)=.next (lone (b.atR a₁ k) cs w₁):=step_lone_go (by simp[stepG,stepG.exec,Frame.atR])
 cases e with
 | normal=>exact ⟨.normal,a₁,w₁,hq,.head h0 s0 (StepsIn.trans harr (.one (fenced_calm hb hr rfl) s1))⟩
 | exit id=>exact ⟨.exit id,a₁,w₁,hq,λ k' hk=>.head h0 s0 (harr.1 k' (by simp[exitTo,hk])),λ hr' hk=>let ⟨k1,e,s⟩:=harr.2 hr' (by simp[exitTo,hk]);⟨k1,e,.head h0 s0 s⟩⟩
 | goto l=>exact hq.elim
 | ret=>exact ⟨_,a₁,w₁,hq,.of_steps (.one h0 s0) harr⟩
 | panic ch=>exact ⟨_,a₁,w₁,hq,.of_steps (.one h0 s0) harr⟩
 | outgrown=>exact ⟨_,a₁,w₁,hq,.of_steps (.one h0 s0) harr⟩
def Xbp {F:Fence} {rm:Nat} {c:Code} {Q:Exit->AW} {a:Act} {w:World} (I:Nat->AW) (n:Nat) (h0:I n a w) (rd:∀ n a w,I n a w->c.wpIn F rm P (Exit.then (λ a w=>∃ k,k<n/\I k a w) Q) a w):(Code.loop c).wpIn F rm P Q a w:=by
 refine wpIn_loop (λ a w=>∃ n,I n a w) (λ a w=>leastOf λ n=>I n a w) ⟨n,h0⟩ λ a w hI=>wpIn_mono (rd _ a w (leastOf_spec hI).1) λ e a' w' hq=>?_
 cases e with
 | normal =>
  obtain ⟨k,hk,hJ⟩:=hq
  exact And.intro ⟨k,hJ⟩ (Nat.lt_of_le_of_lt ((leastOf_spec ⟨k,hJ⟩).2 k hJ) hk)
 | _=>exact hq
@[reducible] def fz (r:Option Nat):Fence:={ Fence.wide with round:=r }
def XbV {r:Option Nat} {n:Nat} {f:FuncId} {args:Array Value} {w:World} {R:Ending->World->Prop} (h:Calls P f args w R):CallsIn (fz r) n P f args w R:=(callsIn_wide (n:=n)).2 h
def XoT {r:Option Nat} {n:Nat} {o:Oper} {a:Act} {w:World} {K:AW} {Q:Exit->AW} (hd:∀ c,o.op≠.defer c) (h:o.wp P a w K Q):o.wpIn (fz r) n P a w K Q:=by
 refine ⟨λ _ _=>trivial,?_⟩
 rw[Oper.semAt_eq _ _ _ hd]
 unfold Oper.wp at h
 revert h
 generalize (execOp a.eval o).run P w=x
 intro h
 unfold Oper.upon at h
 split at h
 ·exact h
 ·exact h
 ·exact h
 ·exact ⟨λ e=>(by cases e),XbV h⟩
 ·exact ⟨λ e=>(by cases e),λ c cs _=>let ⟨v,w',r,s⟩:=h c cs;⟨v,w',r,stepsIn_wide.2 s⟩⟩
 ·exact h
 ·exact h.elim
def Xba (R:AW) (f:Option Nat->AW):Exit->AW
 | .normal=>f none
 | .exit id=>f (some id)
 | .ret=>R
 | _=>λ _ _=>False
def sem (P:Program) (C:Cx) (R:AW):List It->Option Nat->AW
 | [],none=>R
 | [],some _=>λ _ _=>False
 | .stop Q::_,none=>λ a w=>∃ st,Rel P C st a w/\Q st
 | .stop _::k,some i=>sem P C R k (some i)
 | .blk _::k,none=>sem P C R k none
 | .blk j::k,some i=>if i=j then sem P C R k none else sem P C R k (some i)
 | .code c::k,none=>c.wpIn (fz C.rd) 0 P (Xba R (sem P C R k))
 | .code _::k,some i=>sem P C R k (some i)
 | .ops full rest::k,none=>wpListIn (fz C.rd) 0 P full (Xba R (sem P C R k)) rest
 | .ops _ _::k,some i=>sem P C R k (some i)
def Jx (P:Program) (C:Cx) (Q:St->Prop):AW:=λ a w=>∃ st,Rel P C st a w/\Q st
class Tag {α:Type} (x:α):Type
instance {α:Type} (x:α):Tag x:=⟨⟩
abbrev Prf {α:Type} (_:α):Prop:=True
def LoopG (P:Program) (C:Cx) (R:St->Prop) (c:Code) (k:List It) (st:St) [Tag (C,R,c,k,st)] (_:Prf c):Prop :=
 ∀ a w,Rel P C st a w->(Code.loop c).wpIn (fz C.rd) 0 P (Xba (Jx P C R) (sem P C (Jx P C R) k)) a w
def DrawnG (P:Program) (C:Cx) (R:St->Prop) (id:Nat) (ops:Array Oper) (k:List It) (st:St) [Tag (C,R,ops,k,st)] (_:Prf ops):Prop :=
 ∀ a w,Rel P C st a w->(Code.region id ops true).wpIn (fz C.rd) 0 P (Xba (Jx P C R) (sem P C (Jx P C R) k)) a w
def CallG (P:Program) (G:Nat->Option (List D)) (f:FuncId) (args:List D) (obs:List Ob) (K:D->List Ob->Prop) [Tag (G,K)] (_:Prf args):Prop :=
 ∃ eargs R,ZD args eargs/\YY P G f eargs obs R/\∀ r ls,R r ls->K r ls
def JW (b:Bool) (x y:Prop):Prop:=(b=true->x)/\(b=false->y)
def Vy (st:St) (x:Nat) (d:D):St:={ st with t:=upd st.t x d }
def nx (st:St) (dst:Option Nat) (d:D) (u:Up) (n k:Nat):St :=
 ⟨match dst with | some x=>upd st.t x d | none=>st.t,app st.s u,n,k⟩
def XL (dst:Option Nat) (n:Nat):Option Nat:=match dst with
 | some x=>if x<n then some x else none
 | none=>none
def callee (t:Operand->D) (c:Call):Option (FuncId×List D):=match c.callee with
 | .value f=>match t f with
  | .clo (.func g) first caps=>some (g,first++(c.args.toList.map t++caps))
  | _=>none
 | _=>none
def Xbr (t:Operand->D) (c:Call):Option (Nat×List D):=match c.callee with
 | .value f=>match t f with
  | .clo (.yield l) [] []=>some (l,c.args.toList.map t)
  | _=>none
 | _=>none
def Jy:Op->Option Call
 | .call c=>match c.callee with
  | .value _=>some c
  | _=>none
 | _=>none
def aft (s:Heap) (ids fz:List Nat) (r:D) (ls:List Ob) (ver n:Nat):D×Up :=
 if scal r&&ls.all JV then (r,Zo s ids ls) else ((imp ver n r).1,VI s fz++(Zo s ids ls++(imp ver n r).2.2))
def Xpi (x:D×Up) (dst:Option Nat) (n k:Nat) (f:Option Nat->D->Up->Nat->Nat->Prop) [Tag f] (_:Prf x):Prop:=f dst x.1 x.2 n k
def Xbb (x:Option (Prop×D×Up)) (dst:Option Nat) (n k:Nat) (f:Option Nat->D->Up->Nat->Nat->Prop) [Tag f] (_:Prf x):Prop:=match (generalizing:=false) x with
 | some (c,d,u)=>c/\f dst d u n k
 | none=>False
def Xgs (P:Program) (G:Nat->Option (List D)) (f:FuncId) (x:Option (Prop×List D×List Nat×List Ob×List Nat)) (K:List Nat->List Nat->D->List Ob->Prop) [Tag (G,K)] (_:Prf x):Prop:=match (generalizing:=false) x with
 | some (cc,as,ids,obs,fz)=>cc/\CallG P G f as obs (K ids fz) trivial
 | none=>False
def nxS (st:St) (dst:Option Nat) (d:D) (s:Heap) (n k:Nat):St :=
 ⟨match dst with | some x=>upd st.t x d | none=>st.t,s,n,k⟩
def Xe1 (n:Nat) (dst:Option Nat):Option Nat:=match dst with
 | some d=>some (n+d)
 | none=>none
def CallX (P:Program) (C:Cx) (f:FuncId) (args:List D) (dst:Option Nat) (st:St) (K:St->Prop) [Tag (C,dst,st,K)] (_:Prf args):Prop :=
 (∃ fn,P.funcs[f]? = some fn/\fn.body.isNone=false/\(fn.name== "runtime.NumGoroutine")=false) /\
 ∀ M β w vs,BLe C.b0 β->U8 P C st.s (·<st.k) M β w->RepL P M β args vs->Calls P f ⟨vs⟩ w λ e w'=>∃ v d s' k' M' β',e=.returned v/\U8 P C s' (·<k') M' β' w'/\Rep P M' β' d v/\MLe M M'/\BLe β β'/\K (nxS st (XL dst st.n) d s' st.n k')
def YieldX (P:Program) (C:Cx) (l:Nat) (args:List D) (dst:Option Nat) (st:St) (K:St->Prop) [Tag (C,dst,st,K)] (_:Prf args):Prop :=
 ∀ M β w vs,BLe C.b0 β->U8 P C st.s (·<st.k) M β w->RepL P M β args vs->∃ f tmps assign body,(Instr.yield l ⟨vs⟩).run P w=.ok (.round l f tmps assign body) w /\
  RoundIn (fz C.rd) 0 P l f tmps assign body w λ e w'=>∃ v d s' k' M' β',e=.returned v/\U8 P C s' (·<k') M' β' w'/\Rep P M' β' d v/\MLe M M'/\BLe β β'/\K (nxS st (XL dst st.n) d s' st.n k')
def Xd2 (P:Program) (C:Cx) (x:Option (Nat×List D)) (dst:Option Nat) (st:St) (K:St->Prop) [Tag (C,dst,st,K)] (_:Prf x):Prop:=match (generalizing:=false) x with
 | some (l,args)=>YieldX P C l args dst st K trivial
 | none=>False
def XbW (P:Program) (C:Cx) (x:Option (FuncId×List D)) (c:Call) (dst:Option Nat) (st:St) (K:St->Prop) [Tag (C,c,dst,st,K)] (_:Prf x):Prop:=match (generalizing:=false) x with
 | some (f,args)=>CallX P C f args dst st K trivial
 | none=>Xd2 P C (Xbr (ev st.t C.G) c) dst st K trivial
def Xc5 (P:Program) (C:Cx) (x:Option Call) (o:Oper) (st:St) (K:St->Prop) [Tag (C,o,st,K)] (_:Prf x):Prop :=
 match (generalizing:=false) x with
 | some c=>XbW P C (callee (ev st.t C.G) c) c o.dst st K trivial
 | none=>Xbb (opF P (Xe1 C.off o.dst) st.k (ev st.t C.G) st.s o.op) (XL o.dst st.n) st.n (st.k+1) (λ dst d u n k=>K (nx st dst d u n k)) trivial
def XaN (P:Program) (C:Cx) (o:Oper) (st:St) (K:St->Prop):Prop:=Xc5 P C (Jy o.op) o st K trivial
def Xe2 (dst:Option Nat) (n k:Nat) (f:Option Nat->Nat->Nat->Prop) [Tag f] (_:Prf dst):Prop:=f dst n k
def ZI (d:D) (r:Nat) (want:Bool) (st:St) (x y:St->Prop) [Tag (st,x,y)] (_:Prf d):Prop:=match (generalizing:=false) d with
 | .v (.bool b)=>JW b (if want then x st else y st) (if want then y st else x st)
 | .v (.tuple _)=>y st
 | _=>False
def Xd3 (r:Option Nat) (want:Bool) (st:St) (x y:St->Prop) [Tag (st,x,y)] (_:Prf r):Prop:=match (generalizing:=false) r with
 | some r=>ZI (st.t r) r want st x y trivial
 | none=>False
def XaO (full:Array Oper) (o:Oper) (st:St) (x y:St->Prop):Prop :=
 match o.guard with
 | none=>x st
 | some (g,want)=>Xd3 ((full[g]?).bind (·.dst)) want st x y trivial
def Xbc (d:D) (c:Operand) (st:St) (x y:St->Prop) [Tag (c,st,x,y)] (_:Prf d):Prop:=match (generalizing:=false) d with
 | .v (.bool b)=>JW b (x st) (y st)
 | _=>False
def JX:Nat->List It->Option (List It)
 | _,[]=>none
 | id,.blk j::k=>if id=j then some k else JX id k
 | id,_::k=>JX id k
def Xhr (x:Option (List It)) (f:List It->Prop) [Tag f] (_:Prf x):Prop:=match (generalizing:=false) x with
 | some k=>f k
 | none=>False
def run (P:Program) (C:Cx) (R:St->Prop):Nat->List It->St->Prop
 | 0,_,_=>False
 | _+1,[],st=>R st
 | _+1,.stop Q::_,st=>Q st
 | n+1,.blk _::k,st=>run P C R n k st
 | n+1,.ops _ []::k,st=>run P C R n k st
 | n+1,.ops full (o::rest)::k,st=>XaO full o st
     (λ st=>XaN P C o st (run P C R n (.ops full rest::k)))
     (λ st=>Xe2 (XL o.dst st.n) st.n (st.k+1) (λ dst m j=>run P C R n (.ops full rest::k) (nx st dst (.v undef) [] m j)) trivial)
 | n+1,.code .skip::k,st=>run P C R n k st
 | n+1,.code (.seq x y)::k,st=>run P C R n (.code x::.code y::k) st
 | n+1,.code (.cond c x y)::k,st=>Xbc (ev st.t C.G c) c st (run P C R n (.code x::k)) (run P C R n (.code y::k)) trivial
 | n+1,.code (.block id c)::k,st=>run P C R n (.code c::.blk id::k) st
 | n+1,.code (.scope c)::k,st=>run P C R n (.code c::k) st
 | n+1,.code (.label _)::k,st=>run P C R n k st
 | n+1,.code (.exit id)::k,st=>Xhr (JX id k) (λ k'=>run P C R n k' st) trivial
 | _+1,.code .ret::_,st=>R st
 | _+1,.code (.loop c)::k,st=>LoopG P C R c k st trivial
 | n+1,.code (.region _ ops false)::k,st=>run P C R n (.ops ops ops.toList::k) st
 | _+1,.code (.region id ops true)::k,st=>DrawnG P C R id ops k st trivial
 | _+1,.code _::_,_=>False
def JY {C:Cx} {R:AW} {id:Nat}:∀ {k k':List It} {a:Act} {w:World},JX id k=some k'->sem P C R k' none a w->sem P C R k (some id) a w
 | [],k',a,w,h,_=>by simp[JX] at h
 | .blk j::k,k',a,w,h,hs=>by
  unfold JX at h
  unfold sem
  split at h
  ·rename_i e
   rw[Wn e]
   simp only[Wc] at h
   exact h▸hs
  ·rename_i e
   rw[Wm e]
   exact JY h hs
 | .code c::k,k',a,w,h,hs=>by unfold JX at h;unfold sem;exact JY h hs
 | .ops _ _::k,k',a,w,h,hs=>by unfold JX at h;unfold sem;exact JY h hs
 | .stop _::k,k',a,w,h,hs=>by unfold JX at h;unfold sem;exact JY h hs
def Ot {C:Cx} {st:St} {a:Act} {w':World} {s':Heap} {k':Nat} {M':Mem} {β':Loc} {M:Mem} {β:Loc} {d:D} {v:Value} {dst:Option Nat} (h1:a.defers=C.df) (h2:a.tmps.size=st.n) (h0:BLe C.b0 β)
 (h3:∀ x,Rep P M β (st.t x) (a.tmps.getD x undef)) (hM:MLe M M') (hB:BLe β β') (I:U8 P C s' (·<k') M' β' w') (hv:Rep P M' β' d v):Rel P C (nxS st (XL dst st.n) d s' st.n k') (a.put dst v) w':=by
 cases dst with
 | none=>exact ⟨h1,h2,M',β',h0.trans hB,λ x=>(h3 x).mono hM hB,I⟩
 | some x =>
  by_cases hx:x<st.n
  ·simp only[XL,Wn hx]
   refine ⟨h1,by simpa [nxS,Act.put] using h2,M',β',h0.trans hB,λ i=>?_,I⟩
   simp only[nxS,upd,Act.put]
   by_cases hi:i=x
   ·subst hi
    rw[Wn rfl]
    have:i<a.tmps.size:=by omega
    simpa [this] using hv
   ·rw[Wm hi]
    have e:(a.tmps.setIfInBounds x v).getD i undef=a.tmps.getD i undef:=by
     simp[Ne.symm hi]
    rw[e]
    exact (h3 i).mono hM hB
  ·simp only[XL,Wm hx]
   refine ⟨h1,by simpa [nxS,Act.put] using h2,M',β',h0.trans hB,λ i=>?_,I⟩
   have e:a.put (some x) v=a:=by
    simp only[Act.put]
    rw[Array.setIfInBounds_eq_of_size_le (by omega)]
   rw[e]
   exact (h3 i).mono hM hB
def Rel.put {C:Cx} {st:St} {a:Act} {w':World} {u:Up} {k':Nat} {M':Mem} {β':Loc} {M:Mem} {β:Loc} {d:D} {v:Value} {dst:Option Nat} (h1:a.defers=C.df) (h2:a.tmps.size=st.n) (h0:BLe C.b0 β)
 (h3:∀ x,Rep P M β (st.t x) (a.tmps.getD x undef)) (hM:MLe M M') (hB:BLe β β') (I:U8 P C (app st.s u) (·<k') M' β' w') (hv:Rep P M' β' d v):Rel P C (nx st (XL dst st.n) d u st.n k') (a.put dst v) w':=Ot h1 h2 h0 h3 hM hB I hv
def XaP:wfV undef:=by simp[undef,wfV]
def Xe3 {g:FuncId} {va vb vs:List Value} {w:World}:(Deferred.ofValue (.func (.func g) ⟨va⟩ ⟨vb⟩) ⟨vs⟩).run P w=.ok { target:=.fn (.func g) ⟨vb⟩,args:=⟨va++vs⟩ } w:=by
 simp[Deferred.ofValue,pure,Sem.run]
def RepL.map {M:Mem} {β:Loc} {t:Operand->D} {ρ:Operand->Value} (h:∀ x,Rep P M β (t x) (ρ x)):∀ l:List Operand,RepL P M β (l.map t) (l.map ρ)
 | []=>by simp[RepL]
 | x::l=>by simp only[WX,RepL];exact ⟨_,_,rfl,h x,RepL.map h l⟩
def XaQ {ρ:Operand->Value} {o:Oper} {c:Call} (hop:o.op=.call c) {x:Operand} (hc:c.callee=.value x) {g:FuncId} {va vb:List Value} (hx:ρ x=.func (.func g) ⟨va⟩ ⟨vb⟩)
 {fn:Func} (hf:P.funcs[g]? = some fn) (hb:fn.body.isNone=false) (hn:(fn.name== "runtime.NumGoroutine")=false) (w:World) :
 (execOp ρ o).run P w=.ok (.enter g ⟨va++(c.args.toList.map ρ++vb)⟩) w:=by
 unfold execOp
 simp only[hop,resolve,hc,hx]
 have e:c.args.map ρ=⟨c.args.toList.map ρ⟩:=by rw[← Array.toList_inj];simp
 rw[e]
 have hn':¬ fn.name = "runtime.NumGoroutine":=by simpa using hn
 have hb':¬ fn.body=none:=by
  intro h0;rw[h0] at hb;simp at hb
 simp[go_sem,Xe3,invoke,callFunc,hf,hb',hn']
def Xgt {ρ:Operand->Value} {o:Oper} {c:Call} (hop:o.op=.call c) {x:Operand} (hc:c.callee=.value x) {l:Nat} (hx:ρ x=.func (.yield l) #[] #[])
 {w:World} {n:Next} (hy:(Instr.yield l ⟨c.args.toList.map ρ⟩).run P w=.ok n w):(execOp ρ o).run P w=.ok n w:=by
 unfold execOp
 simp only[hop,resolve,hc,hx]
 have e:c.args.map ρ=⟨c.args.toList.map ρ⟩:=by rw[← Array.toList_inj];simp
 rw[e]
 simp[go_sem,Deferred.ofValue,pure,invoke,hy]
section
variable {C:Cx} {st:St} {a:Act} {w:World}
mutual
def scal_imp {ver n:Nat}:∀ {d:D},scal d=true->imp ver n d=(d,n,[])
 | .any,_=>by simp[imp]
 | .v x,_=>by simp[imp]
 | .agg cs,h=>by simp only[scal] at h;simp only[imp,XaR h]
 | .tup cs,h=>by simp only[scal] at h;simp only[imp,XaR h]
 | .nsl,h=>by simp[scal] at h
 | .isl ..,h=>by simp[scal] at h
 | .osl ..,h=>by simp[scal] at h
 | .ept ..,h=>by simp[scal] at h
 | .ipt ..,h=>by simp[scal] at h
 | .clo ..,h=>by simp[scal] at h
 | .ifc ..,h=>by simp[scal] at h
 | .fsl ..,h=>by simp[scal] at h
 | .fmp ..,h=>by simp[scal] at h
 | .omp ..,h=>by simp[scal] at h
def XaR {ver n:Nat}:∀ {ds:List D},Jc ds=true->K5 ver n ds=(ds,n,[])
 | [],_=>by simp[K5]
 | d::ds,h=>by
  simp only[Jc,Ww] at h
  simp only[K5,scal_imp h.1,XaR h.2,Iw]
end
def XjW (s:Heap) (ids fz:List Nat) (r:D) (ls:List Ob) (ver n:Nat) (hids:∀ id∈ids,∃ v o,s id=some (v,o)):(aft s ids fz r ls ver n).1=(Kw s ids fz r ls ver n).1/\app s (aft s ids fz r ls ver n).2=(Kw s ids fz r ls ver n).2:=by
 unfold aft Kw
 by_cases h:(scal r&&ls.all JV)=true
 ·simp only[h,if_true]
  simp only[Ww] at h
  rw[scal_imp h.1]
  exact ⟨rfl,rfl⟩
 ·simp only[h,US,if_false]
  refine ⟨trivial,?_⟩
  rw[YD,YD,JS]
def Xe4 {ρ:Operand->Value} {o:Oper} {x:Option Nat}:execOp ρ { o with dst:=x }=execOp ρ o:=by
 cases o;rfl
def CallX.c {K:St->Prop} {f:FuncId} {args:List D} {dst:Option Nat} (h:Xgs P C.G f (YS st.s args) (λ ids fz r ls =>
 Xpi (aft st.s ids fz r ls st.k (64*(C.off+dst.getD 0))) (XL dst st.n) st.n (st.k+1) (λ dst d u n k=>K (nx st dst d u n k)) trivial) trivial) (t:Prf args):CallX P C f args dst st K t:=by
 unfold Xgs at h
 split at h
 ·rename_i cc as ids obs fz hca
  obtain ⟨hcc,eargs,R,hfit,hA,hKR⟩:=h
  obtain ⟨⟨fn,hf,hb',hn⟩,_⟩:=id hA
  refine ⟨⟨fn,hf,hb',hn⟩,λ M β w vs h0 I hargs=>?_⟩
  have hbox:∀ id∈ids,∃ v o,st.s id=some (v,o):=by
   unfold YS at hca
   split at hca
   ·rename_i hl
    split at hca
    ·simp only[Wc,Wi] at hca
     obtain ⟨_,_,rfl,_,_⟩:=hca
     intro id hid
     obtain ⟨v,E,z,cs,fz,hs⟩:=(YM hl ⟨by simp,by simp⟩).2 id hid
     exact ⟨_,_,hs⟩
    ·cases hca
   ·cases hca
  refine (Xho I (ver:=st.k) (by omega) hargs hca hcc hfit hA (64*(C.off+dst.getD 0))).mono ?_
  rintro e w' ⟨v,r,ls,M',β',rfl,hR,I',hv,hM,hB⟩
  obtain ⟨e1,e2⟩:=XjW st.s ids fz r ls st.k (64*(C.off+dst.getD 0)) hbox
  rw[← e1] at hv
  rw[← e2] at I'
  exact ⟨v,_,_,st.k+1,M',β',rfl,I'.mono λ v hv=>by show v<st.k+1;omega,hv,hM,hB,hKR r ls hR⟩
 ·exact h.elim
def XiB {o:Oper} {K:St->Prop} {K':AW} {Q:Exit->AW} (hr:Rel P C st a w) (h:XaN P C o st K) (hK:∀ st a w,Rel P C st a w->K st->K' a w):o.wpIn (fz C.rd) 0 P a w K' Q:=by
 have hnd:∀ c,o.op≠.defer c:=by
  intro c e
  unfold XaN Xc5 at h
  rw[e] at h
  simp[Jy,opF,Xbb] at h
 obtain ⟨h1,h2,M,β,h0,h3,I⟩:=hr
 have hev:=Xd0 I h3
 unfold XaN Xc5 at h
 split at h
 ·rename_i c hc
  have hop:o.op=.call c:=by
   unfold Jy at hc
   split at hc
   ·rename_i c' e
    split at hc
    ·simp only[Wc] at hc;subst hc;exact e
    ·cases hc
   ·cases hc
  unfold XbW at h
  split at h
  ·rename_i f args hcal
   obtain ⟨⟨fn,hf,hb',hn⟩,hX⟩:=h
   unfold callee at hcal
   split at hcal
   ·rename_i x hx
    split at hcal
    ·rename_i g first caps hclo
     simp only[Wc,Wi] at hcal
     obtain ⟨rfl,rfl⟩:=hcal
     have hfx:=hev x
     rw[hclo] at hfx
     simp only[Rep] at hfx
     obtain ⟨va,vb,hfx,ha,hb⟩:=hfx
     refine XoT hnd ?_
     unfold Oper.wp
     rw[XaQ hop hx hfx hf hb' hn w]
     rw[Oper.upon_enter]
     have hargs:RepL P M β (first++(c.args.toList.map (ev st.t C.G)++caps)) (va++(c.args.toList.map a.eval++vb)) :=
      ha.append ((RepL.map hev _).append hb)
     refine (hX M β w _ h0 I hargs).mono ?_
     rintro e w' ⟨v,d,s',k',M',β',rfl,I',hv,hM,hB,hk⟩
     exact hK _ _ _ (Ot h1 h2 h0 h3 hM hB I' hv) hk
    ·cases hcal
   ·cases hcal
  ·unfold Xd2 at h
   split at h
   rotate_left
   ·exact h.elim
   rename_i l args hcal
   unfold Xbr at hcal
   split at hcal
   ·rename_i x hx
    split at hcal
    ·rename_i l' hclo
     simp only[Wc,Wi] at hcal
     obtain ⟨rfl,rfl⟩:=hcal
     have hfx:=hev x
     rw[hclo] at hfx
     simp only[Rep,RepL] at hfx
     obtain ⟨va,vb,hfx,rfl,rfl⟩:=hfx
     obtain ⟨f,tmps,assign,body,hy,hR⟩:=h M β w _ h0 I (RepL.map hev _)
     refine ⟨λ _ _=>trivial,?_⟩
     rw[Oper.semAt_eq _ _ _ hnd,Xgt hop hx hfx hy,Oper.uponIn_round]
     refine ⟨λ e=>(by cases e),hR.mono ?_⟩
     rintro e w' ⟨v,d,s',k',M',β',rfl,I',hv,hM,hB,hk⟩
     exact hK _ _ _ (Ot h1 h2 h0 h3 hM hB I' hv) hk
    ·cases hcal
   ·cases hcal
 ·refine XoT hnd ?_
  unfold Xbb at h
  split at h
  ·rename_i c d u hop
   have:=XjV I (ver:=st.k) (by omega) { o with dst:=Xe1 C.off o.dst } a.eval (ev st.t C.G) hev (λ _=>rfl) hop h.1
   obtain ⟨M',β',w',v,hres,I',hv,hM,hB⟩:=this
   rw[Xe4] at hres
   have hrel:Rel P C (nx st (XL o.dst st.n) d u st.n (st.k+1)) (a.put o.dst v) w':=Rel.put h1 h2 h0 h3 hM hB (I'.mono λ v hv=>by show v<st.k+1;omega) hv
   unfold Oper.wp
   rcases hres with hres | ⟨hres,rfl⟩
   ·rw[hres];exact hK _ _ _ hrel h.2
   ·rw[hres];exact hK _ _ _ hrel h.2
  ·exact h.elim
def Rel.bump (hr:Rel P C st a w) (dst:Option Nat):Rel P C (nx st (XL dst st.n) (.v undef) [] st.n (st.k+1)) (a.put dst undef) w:=by
 obtain ⟨h1,h2,M,β,h0,h3,I⟩:=hr
 exact Rel.put (u:=[]) h1 h2 h0 h3 (MLe.refl _) (BLe.refl _) (I.mono λ v hv=>by show v<st.k+1;have:v<st.k:=hv;omega) (by simp[Rep,XaP])
def Rel.bool (hr:Rel P C st a w) {r:Nat} {b:Bool} (hb:st.t r=.v (.bool b)):a.tmps.getD r undef=.bool b:=by
 obtain ⟨h1,h2,M,β,h0,h3,I⟩:=hr
 have:=h3 r
 rw[hb] at this
 simp only[Rep] at this
 exact this.1
def Rel.tuple (hr:Rel P C st a w) {r:Nat} {vs:Array Value} (hb:st.t r=.v (.tuple vs)):a.tmps.getD r undef=.tuple vs:=by
 obtain ⟨h1,h2,M,β,h0,h3,I⟩:=hr
 have:=h3 r
 rw[hb] at this
 simp only[Rep] at this
 exact this.1
def XiC {full:Array Oper} {o:Oper} {x y:St->Prop} (hr:Rel P C st a w) (h:XaO full o st x y) :
 (Region.wanted o (yielded full a.tmps)=true->x st)/\(Region.wanted o (yielded full a.tmps)=false->y st):=by
 unfold XaO at h
 split at h
 ·rename_i hg
  have hw:Region.wanted o (yielded full a.tmps)=true:=by unfold Region.wanted;rw[hg]
  rw[hw]
  exact ⟨λ _=>h,λ e=>by cases e⟩
 ·rename_i g want hg
  unfold Xd3 at h
  split at h
  ·rename_i r hdst
   unfold ZI at h
   split at h
   ·rename_i b hb
    have hval:=hr.bool hb
    have hy:yielded full a.tmps g=some b:=by
     unfold yielded
     rw[hdst]
     simp only[Ic]
     by_cases hs:r<a.tmps.size
     ·have:a.tmps[r]? = some (.bool b):=by
       simp[hs] at hval
       simp[hs,hval]
      rw[this]
     ·simp[hs,undef] at hval
    have hw:Region.wanted o (yielded full a.tmps)=(some b==some want):=by
     unfold Region.wanted;rw[hg];simp only;rw[hy]
    rw[hw]
    obtain ⟨ht,hf⟩:=h
    cases b
    ·have hf:=hf rfl
     cases want<;>simpa using hf
    ·have ht:=ht rfl
     cases want<;>simpa using ht
   ·rename_i vs hb
    have hval:=hr.tuple hb
    have hy:yielded full a.tmps g=none:=by
     unfold yielded
     rw[hdst]
     simp only[Ic]
     by_cases hs:r<a.tmps.size
     ·have:a.tmps[r]? = some (.tuple vs):=by
       simp[hs] at hval
       simp[hs,hval]
      rw[this]
     ·have:a.tmps[r]? = none:=by simp;omega
      rw[this]
    have hw:Region.wanted o (yielded full a.tmps)=false:=by
     unfold Region.wanted;rw[hg];simp only;rw[hy];rfl
    rw[hw]
    exact ⟨λ e=>(by cases e),λ _=>h⟩
   ·exact h.elim
  ·exact h.elim
def Yu {R:St->Prop}:∀ (n:Nat) (k:List It) {st:St} {a:Act} {w:World},Rel P C st a w->run P C R n k st->sem P C (Jx P C R) k none a w
 | 0,k,st,a,w,_,h=>by unfold run at h;exact h.elim
 | n+1,[],st,a,w,hr,h=>by unfold run at h;exact ⟨st,hr,h⟩
 | n+1,.stop Q::k,st,a,w,hr,h=>by unfold run at h;exact ⟨st,hr,h⟩
 | n+1,.blk _::k,st,a,w,hr,h=>by unfold run at h;exact Yu n k hr h
 | n+1,.ops full []::k,st,a,w,hr,h=>by
  unfold run at h
  show wpListIn (fz C.rd) 0 P full _ [] a w
  exact Yu n k hr h
 | n+1,.ops full (o::rest)::k,st,a,w,hr,h=>by
  unfold run at h
  show wpListIn (fz C.rd) 0 P full _ (o::rest) a w
  obtain ⟨hx,hy⟩:=XiC hr h
  refine wpListIn_step λ K hK=>?_
  split
  ·rename_i hw
   exact XiB hr (hx hw) λ st2 a2 w2 hr2 h2=>hK _ _ (Yu n (.ops full rest::k) hr2 h2)
  ·rename_i hw
   exact ⟨λ _ _=>trivial,hK _ _ (Yu n (.ops full rest::k) (hr.bump o.dst) (hy (by simpa using hw)))⟩
 | n+1,.code .skip::k,st,a,w,hr,h=>by unfold run at h;exact wpIn_skip (Yu n k hr h)
 | n+1,.code (.seq x y)::k,st,a,w,hr,h=>by
  unfold run at h
  refine wpIn_seq ?_
  refine wpIn_mono (Yu n (.code x::.code y::k) hr h) ?_
  intro e a' w' hq
  cases e<;>exact hq
 | n+1,.code (.cond c x y)::k,st,a,w,hr,h=>by
  unfold run Xbc at h
  split at h
  ·rename_i b hb
   have h2:a.eval c=.bool b:=by
    obtain ⟨h1,h2,M,β,h0,h3,I⟩:=hr
    have:=Xd0 I h3 c
    rw[hb] at this
    simp only[Rep] at this
    exact this.1
   refine wpIn_cond_split h2 (λ e=>?_) (λ e=>?_)
   ·exact Yu n (.code x::k) hr (h.1 e)
   ·exact Yu n (.code y::k) hr (h.2 e)
  ·exact h.elim
 | n+1,.code (.block id c)::k,st,a,w,hr,h=>by
  unfold run at h
  refine wpIn_block ?_
  refine wpIn_mono (Yu n (.code c::.blk id::k) hr h) ?_
  intro e a' w' hq
  cases e with
  | exit i =>
   simp only[Exit.inBlock]
   have hq:sem P C (Jx P C R) (.blk id::k) (some i) a' w':=hq
   unfold sem at hq
   split at hq<;>rename_i e
   ·rw[Wn e];exact hq
   ·rw[Wm e];exact hq
  | _=>exact hq
 | n+1,.code (.scope c)::k,st,a,w,hr,h=>by
  unfold run at h
  refine Xgr (wpIn_mono (Yu n (.code c::k) hr h) ?_)
  intro e a' w' hq
  cases e<;>exact hq
 | n+1,.code (.label l)::k,st,a,w,hr,h=>by unfold run at h;exact wpIn_label (Yu n k hr h)
 | n+1,.code (.exit id)::k,st,a,w,hr,h=>by
  unfold run Xhr at h
  split at h
  ·rename_i k' hk
   exact wpIn_exit (JY hk (Yu n k' hr h))
  ·exact h.elim
 | n+1,.code .ret::k,st,a,w,hr,h=>by unfold run at h;exact wpIn_ret ⟨st,hr,h⟩
 | n+1,.code (.loop c)::k,st,a,w,hr,h=>by unfold run at h;exact h a w hr
 | n+1,.code (.region id ops false)::k,st,a,w,hr,h=>by
  unfold run at h
  exact wpIn_region_list (Yu n (.ops ops ops.toList::k) hr h)
 | n+1,.code (.region id ops true)::k,st,a,w,hr,h=>by unfold run at h;exact h a w hr
 | n+1,.code (.rangeFunc ..)::k,st,a,w,hr,h=>by unfold run at h;exact h.elim
 | n+1,.code (.goto ..)::k,st,a,w,hr,h=>by unfold run at h;exact h.elim
 | n+1,.code (.refuse ..)::k,st,a,w,hr,h=>by unfold run at h;exact h.elim
def LoopG.of {R:St->Prop} {c:Code} {k:List It} (I:Nat->St->Prop) (m n:Nat) (h0:I n st) (round:∀ n st,I n st->run P C R m (.code c::.stop (λ st'=>∃ n',n'<n/\I n' st')::k) st) (t':Prf c):LoopG P C R c k st t':=by
 intro a w hr
 refine Xbp (λ n a w=>∃ st,Rel P C st a w/\I n st) n ⟨st,hr,h0⟩ ?_
 rintro n a w ⟨st,hr,hI⟩
 refine wpIn_mono (Yu m _ hr (round n st hI)) ?_
 intro e a' w' hq
 cases e with
 | normal =>
  obtain ⟨st',hr',n',hn,hI'⟩:=hq
  exact ⟨n',hn,st',hr',hI'⟩
 | _=>exact hq
def LoopU (P:Program) (C:Cx) (R:St->Prop) (c:Code) (k:List It) (n:Nat) (st:St) [Tag (C,R,c,k,st)] (_:Prf c):Prop :=
 ∀ a w,Rel P C st a w->Code.roundsIn (fz C.rd) 0 P c (Xba (Jx P C R) (sem P C (Jx P C R) k)) n a w
def LoopU.s {R:St->Prop} {c:Code} {k:List It} {st:St} {n:Nat} (m:Nat) (h:run P C R m (.code c::.stop (λ st'=>LoopU P C R c k n st' trivial)::k) st) (t':Prf c):LoopU P C R c k (n+1) st t':=by
 intro a w hr
 rw[roundsIn_succ]
 refine wpIn_mono (Yu m _ hr h) ?_
 intro e a' w' hq
 cases e with
 | normal =>
  obtain ⟨st',hr',hI⟩:=hq
  exact hI a' w' hr'
 | _=>exact hq
end
variable {P:Program}
mutual
def shut (s:Heap) (fr:List Nat):D->Option (Prop×D×List Nat×List Nat)
 | .osl id ver z off len=>match s id with
  | some (ver',.arr false E z' es fz)=>if ver=ver'/\z=z' then
   (if id∈fr then some (off=0/\fz=0/\len<=es.length,.fsl E z (es.take len),[],[id])
    else some (off+len<=es.length,.isl E z ((es.drop off).take len),[id],[])) else none
  | _=>none
 | .omp id ver=>match s id with
  | some (ver',.mp k es)=>if ver=ver'/\id∈fr then some (True,.fmp k (es.map (·.1)) (es.map (·.2)),[],[id]) else none
  | _=>none
 | .agg cs=>match V5 s fr cs with
  | some (c,ds,l,m)=>some (c,.agg ds,l,m)
  | none=>none
 | .tup cs=>match V5 s fr cs with
  | some (c,ds,l,m)=>some (c,.tup ds,l,m)
  | none=>none
 | .clo fn a b=>match V5 s fr a,V5 s fr b with
  | some (c,a',l,m),some (c',b',l',m')=>some (c/\c',.clo fn a' b',l++l',m++m')
  | _,_=>none
 | .ifc t d=>match shut s fr d with
  | some (c,e,l,m)=>some (c,.ifc t e,l,m)
  | none=>none
 | .any=>some (True,.any,[],[])
 | .v x=>some (True,.v x,[],[])
 | .nsl=>some (True,.nsl,[],[])
 | .isl E z es=>some (True,.isl E z es,[],[])
 | .ipt z cs c=>some (True,.ipt z cs c,[],[])
 | _=>none
def V5 (s:Heap) (fr:List Nat):List D->Option (Prop×List D×List Nat×List Nat)
 | []=>some (True,[],[],[])
 | d::ds=>match shut s fr d,V5 s fr ds with
  | some (c,e,l,m),some (c',es,l',m')=>some (c/\c',e::es,l++l',m++m')
  | _,_=>none
end
def Blk (β:Loc) (s:Heap) (m:List Nat) (bl:List (Option (Nat×Nat))):Prop :=
 ∃ f:List (Nat×Nat×Option (Nat×Nat)),f.map (·.1)=m/\f.map (·.2.2)=bl/\∀ x∈f,β x.1 x.2.1=some x.2.2/\∃ ob,s x.1=some (x.2.1,ob)
section
variable {C:Cx} {s:Heap} {U:Nat->Prop} {M M':Mem} {β:Loc} {w:World}
def Blk.nil:Blk β s [] []:=⟨[],rfl,rfl,by simp⟩
def Blk.append {m m':List Nat} {b b':List (Option (Nat×Nat))} (h:Blk β s m b) (k:Blk β s m' b'):Blk β s (m++m') (b++b'):=by
 obtain ⟨f,h1,h2,h3⟩:=h
 obtain ⟨g,k1,k2,k3⟩:=k
 refine ⟨f++g,by simp[h1,k1],by simp[h2,k2],λ x hx=>?_⟩
 rcases WK.1 hx with hx | hx
 ·exact h3 x hx
 ·exact k3 x hx
def OE {x:Option (Nat×Nat)} {E z:Nat} {es:List (List D)} (h:ObRep P M β w x (.arr false E z es 0)) (n:Nat):ObRep P M β w x (.arr false E z (es.take n) 0):=by
 cases x with
 | none =>
  simp only[ObRep] at h ⊢
  obtain ⟨_,rfl,_⟩:=h
  simp
 | some bc =>
  obtain ⟨b,cb⟩:=bc
  simp only[ObRep] at h ⊢
  obtain ⟨cs,T,h1,h2,h3,h4,h5,h6,h7,h8,h9,h10⟩:=h
  have hl:(es.take n).length<=es.length:=by simp;omega
  refine ⟨cs,T,h1,h2,λ e he=>h3 e (W9 he),by omega,by omega,UB (W8 _ hl) h6,by omega,h8,h9,λ i d hd=>h10 i d ?_⟩
  obtain ⟨l,hl2⟩:=List.take_prefix n es
  rw[← hl2,List.flatten_append]
  rw[Uy]
  ·exact hd
  ·exact (List.getElem?_eq_some_iff.1 hd).1
mutual
def shut_rep {lz:List Nat} (I:U8 P C s U M β w) (hM:MLe M M') (I':U8 P C (frz s lz) U M' β w) (hF:Frz s M' β w lz) {fr:List Nat} (hfr:∀ i∈fr,i∉lz) :
 ∀ {d r:D} {c:Prop} {l m:List Nat},shut s fr d=some (c,r,l,m)->c->(∀ i∈l,i∈lz)->∀ {y:Value},Rep P M β d y->∃ bl,FrRep P M' w C.w0.heap.size r y bl/\Blk β s m bl
 | .osl id ver z off len,r,c,l,m,h,hc,hl,y,hr=>by
  unfold shut at h
  split at h
  ·rename_i ver' E z' es fz hs
   split at h
   ·rename_i e
    obtain ⟨rfl,rfl⟩:=e
    split at h
    ·rename_i hid
     simp only[Wc,Wi] at h
     obtain ⟨rfl,rfl,rfl,rfl⟩:=h
     obtain ⟨rfl,rfl,hle⟩:=hc
     have hsf:frz s lz id=some (ver,.arr false E z es 0):=by
      unfold frz;rw[Wm (hfr id hid)];exact hs
     obtain ⟨x,hx,hob⟩:=I'.obs id ver _ hsf
     have hob:=OE hob len
     simp only[Rep] at hr
     rcases hr with ⟨h1,_,h2,a,rfl⟩ | ⟨b,cb,o,cap,h1,rfl,h2,h3,h4⟩
     ·rw[h1] at hx
      obtain rfl:none=x:=by simpa using hx
      refine ⟨[none],?_,[(id,ver,none)],rfl,rfl,?_⟩
      ·simp only[FrRep];exact .inl ⟨trivial,WQ (by simp;omega),a,rfl⟩
      ·intro x hx;simp at hx;subst hx;exact ⟨h1,_,hs⟩
     ·rw[h1] at hx
      obtain rfl:some (b,cb)=x:=by simpa using hx
      refine ⟨[some (b,cb)],?_,[(id,ver,some (b,cb))],rfl,rfl,?_⟩
      ·simp only[FrRep]
       refine .inr ⟨b,cb,o,rfl,?_,?_,?_,?_⟩
       ·rcases I.own id ver _ b cb hs h1 with h | h
        ·exact h
        ·simp[Ob.bx] at h
       ·rw[show cap=cb by omega,WC,Oh hle]
       ·rcases h4 with h | h
        ·left;simpa using h
        ·right;omega
       ·exact hob
      ·intro x hx;simp at hx;subst hx;exact ⟨h1,_,hs⟩
    ·simp only[Wc,Wi] at h
     obtain ⟨rfl,rfl,rfl,rfl⟩:=h
     have:=snap_rep (d:=.osl id ver z off len) (d':=.isl E z ((es.drop off).take len)) (c:=off+len<=es.length) (l:=[id]) I hM (by simp[snap,hs]) hc (λ i hi=>hF i (hl i hi)) hr
     exact ⟨[],by simp only[FrRep];exact ⟨trivial,this⟩,Blk.nil⟩
   ·cases h
  ·cases h
 | .agg cs,r,c,l,m,h,hc,hl,y,hr=>by
  unfold shut at h
  split at h
  ·rename_i he
   simp only[Wc,Wi] at h
   obtain ⟨rfl,rfl,rfl,rfl⟩:=h
   simp only[Rep] at hr
   obtain ⟨vs,rfl,hr⟩:=hr
   obtain ⟨bl,h1,h2⟩:=Je I hM I' hF hfr he hc hl hr
   exact ⟨bl,by simp only[FrRep];exact ⟨vs,rfl,h1⟩,h2⟩
  ·cases h
 | .tup cs,r,c,l,m,h,hc,hl,y,hr=>by
  unfold shut at h
  split at h
  ·rename_i he
   simp only[Wc,Wi] at h
   obtain ⟨rfl,rfl,rfl,rfl⟩:=h
   simp only[Rep] at hr
   obtain ⟨vs,rfl,hr⟩:=hr
   obtain ⟨bl,h1,h2⟩:=Je I hM I' hF hfr he hc hl hr
   exact ⟨bl,by simp only[FrRep];exact ⟨vs,rfl,h1⟩,h2⟩
  ·cases h
 | .clo fn a b,r,c,l,m,h,hc,hl,y,hr=>by
  unfold shut at h
  split at h
  ·rename_i he hf
   simp only[Wc,Wi] at h
   obtain ⟨rfl,rfl,rfl,rfl⟩:=h
   simp only[Rep] at hr
   obtain ⟨va,vb,rfl,hr1,hr2⟩:=hr
   obtain ⟨bl,h1,h2⟩:=Je I hM I' hF hfr he hc.1 (λ i hi=>hl i (Uo _ hi)) hr1
   obtain ⟨bl',h3,h4⟩:=Je I hM I' hF hfr hf hc.2 (λ i hi=>hl i (Ur _ hi)) hr2
   exact ⟨bl++bl',by simp only[FrRep];exact ⟨va,vb,rfl,bl,bl',rfl,h1,h3⟩,h2.append h4⟩
  ·cases h
 | .ifc t d,r,c,l,m,h,hc,hl,y,hr=>by
  unfold shut at h
  split at h
  ·rename_i he
   simp only[Wc,Wi] at h
   obtain ⟨rfl,rfl,rfl,rfl⟩:=h
   simp only[Rep] at hr
   obtain ⟨x,rfl,hr⟩:=hr
   obtain ⟨bl,h1,h2⟩:=shut_rep I hM I' hF hfr he hc hl hr
   exact ⟨bl,by simp only[FrRep];exact ⟨x,rfl,h1⟩,h2⟩
  ·cases h
 | .any,r,c,l,m,h,hc,hl,y,hr=>by
  simp only[shut,Wc,Wi] at h
  obtain ⟨rfl,rfl,rfl,rfl⟩:=h
  exact ⟨[],by simp[FrRep],Blk.nil⟩
 | .v x,r,c,l,m,h,hc,hl,y,hr=>by
  simp only[shut,Wc,Wi] at h
  obtain ⟨rfl,rfl,rfl,rfl⟩:=h
  exact ⟨[],by simpa [FrRep,Rep] using hr,Blk.nil⟩
 | .nsl,r,c,l,m,h,hc,hl,y,hr=>by
  simp only[shut,Wc,Wi] at h
  obtain ⟨rfl,rfl,rfl,rfl⟩:=h
  exact ⟨[],by simpa [FrRep,Rep] using hr,Blk.nil⟩
 | .isl E z es,r,c,l,m,h,hc,hl,y,hr=>by
  simp only[shut,Wc,Wi] at h
  obtain ⟨rfl,rfl,rfl,rfl⟩:=h
  have:=hr.mono hM (BLe.refl _)
  exact ⟨[],by simp only[FrRep];simp only[Rep] at this ⊢;exact ⟨trivial,this⟩,Blk.nil⟩
 | .ipt z cs k,r,c,l,m,h,hc,hl,y,hr=>by
  simp only[shut,Wc,Wi] at h
  obtain ⟨rfl,rfl,rfl,rfl⟩:=h
  have:=hr.mono hM (BLe.refl _)
  exact ⟨[],by simp only[FrRep];simp only[Rep] at this ⊢;exact ⟨trivial,this⟩,Blk.nil⟩
 | .ept ..,r,c,l,m,h,hc,hl,y,hr=>by simp[shut] at h
 | .fsl ..,r,c,l,m,h,hc,hl,y,hr=>by simp[shut] at h
 | .fmp ..,r,c,l,m,h,hc,hl,y,hr=>by simp[shut] at h
 | .omp id ver,r,c,l,m,h,hc,hl,y,hr=>by
  unfold shut at h
  split at h
  ·rename_i ver' k es hs
   split at h
   ·rename_i hcond
    obtain ⟨rfl,hid⟩:=hcond
    simp only[Wc,Wi] at h
    obtain ⟨rfl,rfl,rfl,rfl⟩:=h
    have hsf:frz s lz id=some (ver,.mp k es):=by
     unfold frz;rw[Wm (hfr id hid)];exact hs
    obtain ⟨x,hx,hob⟩:=I'.obs id ver _ hsf
    simp only[Rep] at hr
    obtain ⟨b,cb,h1,rfl⟩:=hr
    rw[h1] at hx
    obtain rfl:some (b,cb)=x:=by simpa using hx
    obtain rfl:cb=0:=hob.1
    refine ⟨[some (b,0)],?_,[(id,ver,some (b,0))],rfl,rfl,?_⟩
    ·simp only[FrRep]
     refine ⟨b,rfl,?_,rfl,by simp,?_⟩
     ·rcases I.own id ver _ b 0 hs h1 with h | h
      ·exact h
      ·simp[Ob.bx] at h
     ·rw[show (es.map (·.1)).zip (es.map (·.2))=es by rw[List.zip_map'];simp]
      exact hob
    ·intro x hx;simp at hx;subst hx;exact ⟨h1,_,hs⟩
   ·cases h
  ·cases h
def Je {lz:List Nat} (I:U8 P C s U M β w) (hM:MLe M M') (I':U8 P C (frz s lz) U M' β w) (hF:Frz s M' β w lz) {fr:List Nat} (hfr:∀ i∈fr,i∉lz) :
 ∀ {ds rs:List D} {c:Prop} {l m:List Nat},V5 s fr ds=some (c,rs,l,m)->c->(∀ i∈l,i∈lz)->∀ {ys:List Value},RepL P M β ds ys->∃ bl,FrRepL P M' w C.w0.heap.size rs ys bl/\Blk β s m bl
 | [],rs,c,l,m,h,hc,hl,ys,hr=>by
  simp only[V5,Wc,Wi] at h
  obtain ⟨rfl,rfl,rfl,rfl⟩:=h
  simp only[RepL] at hr
  exact ⟨[],by simp[FrRepL,hr],Blk.nil⟩
 | d::ds,rs,c,l,m,h,hc,hl,ys,hr=>by
  unfold V5 at h
  split at h
  ·rename_i he hf
   simp only[Wc,Wi] at h
   obtain ⟨rfl,rfl,rfl,rfl⟩:=h
   simp only[RepL] at hr
   obtain ⟨x,xs,rfl,hr1,hr2⟩:=hr
   obtain ⟨bl,h1,h2⟩:=shut_rep I hM I' hF hfr he hc.1 (λ i hi=>hl i (Uo _ hi)) hr1
   obtain ⟨bl',h3,h4⟩:=Je I hM I' hF hfr hf hc.2 (λ i hi=>hl i (Ur _ hi)) hr2
   exact ⟨bl++bl',by simp only[FrRepL];exact ⟨x,xs,bl,bl',rfl,rfl,h1,h3⟩,h2.append h4⟩
  ·cases h
end
def Blk.nodup (I:U8 P C s U M β w) {m:List Nat} {bl:List (Option (Nat×Nat))} (h:Blk β s m bl) (hm:m.Nodup):(XM bl).Nodup:=by
 obtain ⟨f,rfl,rfl,hf⟩:=h
 induction f with
 | nil=>simp[XM]
 | cons x f ih =>
  simp only[WX,List.nodup_cons] at hm
  have ih:=ih hm.2 λ y hy=>hf y (W4 _ hy)
  obtain ⟨i,v,o⟩:=x
  cases o with
  | none=>simpa [XM] using ih
  | some bc =>
   obtain ⟨b,cb⟩:=bc
   have e:XM (((i,v,some (b,cb))::f).map (·.2.2))=b::XM (f.map (·.2.2)):=by simp[XM]
   rw[e,List.nodup_cons]
   refine ⟨λ hb=>?_,ih⟩
   simp only[XM,List.mem_filterMap,UH] at hb
   obtain ⟨o',⟨y,hy,rfl⟩,hb⟩:=hb
   obtain ⟨j,v',o'⟩:=y
   simp only[W7] at hb
   obtain ⟨⟨b',cb'⟩,rfl,rfl⟩:=hb
   obtain ⟨h1,ob,h2⟩:=hf (i,v,some (b',cb)) (by simp)
   obtain ⟨h3,ob',h4⟩:=hf (j,v',some (b',cb')) (W4 _ hy)
   have:=I.inj i v ob j v' ob' b' cb cb' h2 h4 h1 h3
   subst this
   exact hm.1 (UH.2 ⟨_,hy,rfl⟩)
mutual
def fitsR:D->D->Prop
 | .nsl,.isl _ _ es=>es=[]
 | .nsl,.fsl _ _ es=>es=[]
 | .agg cs,.agg ds=>KG cs ds
 | .tup cs,.tup ds=>KG cs ds
 | .ifc t d,.ifc t' e=>t=t'/\fitsR d e
 | d,e=>d=e
def KG:List D->List D->Prop
 | [],[]=>True
 | d::ds,e::es=>fitsR d e/\KG ds es
 | _,_=>False
end
def RetG (r:D) (obs:List Ob) (R':D->List Ob->Prop):Prop:=∃ r',fitsR r r'/\R' r' obs
mutual
def fitsR_refl:∀ d:D,fitsR d d
 | .agg cs=>by simp only[fitsR];exact JZ cs
 | .tup cs=>by simp only[fitsR];exact JZ cs
 | .ifc t d=>by simp only[fitsR];exact ⟨trivial,fitsR_refl d⟩
 | .nsl=>by simp[fitsR]
 | .any=>by simp[fitsR]
 | .v _=>by simp[fitsR]
 | .isl ..=>by simp[fitsR]
 | .osl ..=>by simp[fitsR]
 | .ept ..=>by simp[fitsR]
 | .ipt ..=>by simp[fitsR]
 | .clo ..=>by simp[fitsR]
 | .fsl ..=>by simp[fitsR]
 | .fmp ..=>by simp[fitsR]
 | .omp ..=>by simp[fitsR]
def JZ:∀ ds:List D,KG ds ds
 | []=>by simp[KG]
 | d::ds=>by simp only[KG];exact ⟨fitsR_refl d,JZ ds⟩
end
def RetG.same {r:D} {obs:List Ob} {R':D->List Ob->Prop} (h:R' r obs):RetG r obs R':=⟨r,fitsR_refl r,h⟩
mutual
def fitsR_rep {M:Mem} {w:World} {B:Nat}:∀ {d e:D} {y:Value} {l:List (Option (Nat×Nat))},fitsR d e->FrRep P M w B d y l->∃ l',FrRep P M w B e y l'/\XM l'=XM l
 | .nsl,e,y,l,h,hr=>by
  cases e with
  | isl E z es =>
   simp only[fitsR] at h
   subst h
   simp only[FrRep,Rep] at hr
   obtain ⟨rfl,a,rfl⟩:=hr
   refine ⟨[],?_,rfl⟩
   simp only[FrRep,Rep]
   exact ⟨trivial,by simp,by simp[Xn],by simp[Xn],a,0,rfl,Ui _,.inl trivial⟩
  | fsl E z es =>
   simp only[fitsR] at h
   subst h
   simp only[FrRep,Rep] at hr
   obtain ⟨rfl,a,rfl⟩:=hr
   refine ⟨[none],?_,rfl⟩
   simp only[FrRep]
   exact .inl ⟨trivial,trivial,a,rfl⟩
  | nsl=>exact ⟨l,hr,rfl⟩
  | _=>simp[fitsR] at h
 | .agg cs,e,y,l,h,hr=>by
  cases e with
  | agg ds =>
   simp only[fitsR] at h
   simp only[FrRep] at hr ⊢
   obtain ⟨vs,rfl,hr⟩:=hr
   obtain ⟨l',h1,h2⟩:=VL h hr
   exact ⟨l',⟨vs,rfl,h1⟩,h2⟩
  | _=>simp[fitsR] at h
 | .tup cs,e,y,l,h,hr=>by
  cases e with
  | tup ds =>
   simp only[fitsR] at h
   simp only[FrRep] at hr ⊢
   obtain ⟨vs,rfl,hr⟩:=hr
   obtain ⟨l',h1,h2⟩:=VL h hr
   exact ⟨l',⟨vs,rfl,h1⟩,h2⟩
  | _=>simp[fitsR] at h
 | .ifc t d,e,y,l,h,hr=>by
  cases e with
  | ifc t' e =>
   simp only[fitsR] at h
   obtain ⟨rfl,h⟩:=h
   simp only[FrRep] at hr ⊢
   obtain ⟨x,rfl,hr⟩:=hr
   obtain ⟨l',h1,h2⟩:=fitsR_rep h hr
   exact ⟨l',⟨x,rfl,h1⟩,h2⟩
  | _=>simp[fitsR] at h
 | .any,e,y,l,h,hr=>by have:D.any=e:=by simpa [fitsR] using h
                       exact ⟨l,this▸hr,rfl⟩
 | .v x,e,y,l,h,hr=>by have:D.v x=e:=by simpa [fitsR] using h
                       exact ⟨l,this▸hr,rfl⟩
 | .isl a b c,e,y,l,h,hr=>by have:D.isl a b c=e:=by simpa [fitsR] using h
                             exact ⟨l,this▸hr,rfl⟩
 | .ipt a b c,e,y,l,h,hr=>by have:D.ipt a b c=e:=by simpa [fitsR] using h
                             exact ⟨l,this▸hr,rfl⟩
 | .fsl a b c,e,y,l,h,hr=>by have:D.fsl a b c=e:=by simpa [fitsR] using h
                             exact ⟨l,this▸hr,rfl⟩
 | .fmp a b c,e,y,l,h,hr=>by have:D.fmp a b c=e:=by simpa [fitsR] using h
                             exact ⟨l,this▸hr,rfl⟩
 | .clo a b c,e,y,l,h,hr=>by have:D.clo a b c=e:=by simpa [fitsR] using h
                             exact ⟨l,this▸hr,rfl⟩
 | .osl ..,e,y,l,h,hr=>by simp[FrRep] at hr
 | .ept ..,e,y,l,h,hr=>by simp[FrRep] at hr
 | .omp ..,e,y,l,h,hr=>by simp[FrRep] at hr
def VL {M:Mem} {w:World} {B:Nat}:∀ {ds es:List D} {ys:List Value} {l:List (Option (Nat×Nat))},KG ds es->FrRepL P M w B ds ys l->∃ l',FrRepL P M w B es ys l'/\XM l'=XM l
 | [],es,ys,l,h,hr=>by
  cases es with
  | nil=>exact ⟨l,hr,rfl⟩
  | cons e es=>simp[KG] at h
 | d::ds,es,ys,l,h,hr=>by
  cases es with
  | nil=>simp[KG] at h
  | cons e es =>
   simp only[KG] at h
   simp only[FrRepL] at hr
   obtain ⟨x,xs,l1,l2,rfl,rfl,h1,h2⟩:=hr
   obtain ⟨l1',k1,k2⟩:=fitsR_rep h.1 h1
   obtain ⟨l2',k3,k4⟩:=VL h.2 h2
   exact ⟨l1'++l2',by simp only[FrRepL];exact ⟨x,xs,l1',l2',rfl,rfl,k1,k3⟩,by rw[XU,XU,k2,k4]⟩
end
def VB:Nat->Nat->List Nat
 | _,0=>[]
 | k,n+1=>(LB+k)::VB (k+1) n
def Vm:∀ (n k j:Nat),j<n->(VB k n)[j]? = some (LB+(k+j))
 | 0,_,_,h=>by omega
 | n+1,k,0,_=>by simp[VB]
 | n+1,k,j+1,h=>by
  simp only[VB,List.getElem?_cons_succ]
  rw[Vm n (k+1) j (by omega)]
  congr 1;omega
def Kk:∀ (n k:Nat),(VB k n).length=n
 | 0,_=>rfl
 | n+1,k=>by simp[VB,Kk n (k+1)]
def XmX (s:Heap):List Nat->Prop
 | []=>True
 | i::l=>(s i).map (·.1)=some 0/\XmX s l
def Xe5 {s:Heap}:∀ {l:List Nat} {j i:Nat},XmX s l->l[j]? = some i->(s i).map (·.1)=some 0
 | [],j,i,_,h=>by simp at h
 | x::l,0,i,hv,h=>by simp at h;subst h;exact hv.1
 | x::l,j+1,i,hv,h=>Xe5 hv.2 (by simpa using h)
def XiD (st:St) (P:Program):ResultVar->Option (Prop×D)
 | .tmp t=>some (True,st.t t)
 | .cell a T=>match Xm P T,XdM st.s (st.t a) with
  | some ty,some (c,cs,o,z)=>if o+ty.size<=z/\(ty.isAgg=true\/ty.size=1) then some (c,ZV ty.isAgg ((cs.drop o).take ty.size)) else none
  | _,_=>none
def Xe6 (st:St) (P:Program):List ResultVar->Option (Prop×List D)
 | []=>some (True,[])
 | x::l=>match XiD st P x,Xe6 st P l with
  | some (c,d),some (c',ds)=>some (c/\c',d::ds)
  | _,_=>none
def Xgu:List D->D
 | [d]=>d
 | ds=>.tup ds
def VM (P:Program) (results:List ResultVar) (fr:List Nat) (nl:Nat) (R':D->List Ob->Prop) (st:St):Prop :=
 match Xe6 st P results with
 | some (c,ds)=>match shut st.s fr (Xgu ds),Kg st.s (VB 0 nl) with
  | some (c1,r,fz1,fh),some (c2,obs,fz2)=>c/\c1/\c2/\XmX st.s (VB 0 nl)/\fh.Nodup/\(∀ i∈fr,i∉fz1++fz2)/\RetG r obs R'
  | _,_=>False
 | none=>False
end
variable {P:Program}
section
variable {C:Cx} {s:Heap} {U:Nat->Prop} {M:Mem} {β:Loc} {w:World}
def XbX (tmps:Array Value):ResultVar->Sem Value
 | .tmp t=>pure (tmps.getD t undef)
 | .cell a t=>do loadVar t (← asAddr (tmps.getD a undef))
def XmY {st:St} (I:U8 P C st.s U M β w) {tmps:Array Value} (h3:∀ x,Rep P M β (st.t x) (tmps.getD x undef)) {x:ResultVar} {c:Prop} {d:D} (h:XiD st P x=some (c,d)) (hc:c) :
 ∃ v,(XbX tmps x).run P w=.ok v w/\Rep P M β d v:=by
 cases x with
 | tmp t =>
  simp only[XiD,Wc,Wi] at h
  obtain ⟨rfl,rfl⟩:=h
  exact ⟨_,rfl,h3 t⟩
 | cell a T =>
  simp only[XiD] at h
  split at h
  ·rename_i hT hl
   split at h
   ·rename_i hcond
    simp only[Wc,Wi] at h
    obtain ⟨rfl,rfl⟩:=h
    obtain ⟨b,o0,hy,hlen,hcell⟩:=Xhh I hl hc (h3 a)
    obtain ⟨v,hv,hrv⟩:=XbP hT w M β b o0 _ _ _ hlen hcond.1 hcell (λ hf=>by rcases hcond.2 with h | h;(rw[h] at hf;cases hf);exact h)
    refine ⟨v,?_,hrv⟩
    unfold XbX
    simp only
    rw[hy]
    simp[asAddr,hv]
   ·cases h
  ·cases h
def Xhs {st:St} {f:ResultVar->Sem Value} (hf:∀ x c d,XiD st P x=some (c,d)->c->∃ v,(f x).run P w=.ok v w/\Rep P M β d v):∀ {l:List ResultVar} {c:Prop} {ds:List D},Xe6 st P l=some (c,ds)->c ->
 ∃ vs,(l.mapM f).run P w=.ok vs w/\RepL P M β ds vs
 | [],c,ds,h,hc=>by
  simp only[Xe6,Wc,Wi] at h
  obtain ⟨rfl,rfl⟩:=h
  exact ⟨[],rfl,by simp[RepL]⟩
 | x::l,c,ds,h,hc=>by
  unfold Xe6 at h
  split at h
  ·rename_i he hl
   simp only[Wc,Wi] at h
   obtain ⟨rfl,rfl⟩:=h
   obtain ⟨v,h1,h2⟩:=hf _ _ _ he hc.1
   obtain ⟨vs,h4,h5⟩:=Xhs hf hl hc.2
   refine ⟨v::vs,?_,by simp only[RepL];exact ⟨_,_,rfl,h2,h5⟩⟩
   simp only[List.mapM_cons,Sem.run_bind,Result.andThen_ok,Sem.run_pure,h4,h1]
  ·cases h
def VN {st:St} (I:U8 P C st.s U M β w) {tmps:Array Value} (h3:∀ x,Rep P M β (st.t x) (tmps.getD x undef)) {fn:Func} {l:List ResultVar} (hl:fn.results=⟨l⟩) {c:Prop} {ds:List D} (h:Xe6 st P l=some (c,ds)) (hc:c) :
 ∃ v,(results fn tmps).run P w=.ok v w/\Rep P M β (Xgu ds) v:=by
 obtain ⟨vs,h1,h2⟩:=Xhs (f:=XbX tmps) (λ x c d hx hc=>XmY I h3 hx hc) h hc
 have e0:(fn.results.mapM (XbX tmps)).run P w=.ok vs.toArray w:=by
  rw[hl,Array.mapM_eq_mapM_toList]
  simp only[Sem.run_map,h1,Result.andThen_ok]
 have e:(results fn tmps).run P w=.ok (if h:vs.toArray.size=1 then vs.toArray[0] else .tuple vs.toArray) w:=by
  show ((fn.results.mapM (XbX tmps)) >>= λ vs=>pure (if h:vs.size=1 then vs[0] else .tuple vs):Sem Value).run P w=_
  simp only[Sem.run_bind,e0,Result.andThen_ok,Sem.run_pure]
 refine ⟨_,e,?_⟩
 have hlen:=h2.length
 match ds,vs,h2,hlen with
 | [d],[v],h2,_=>simp only[RepL] at h2;obtain ⟨x,xs,e,h,h'⟩:=h2;simp at e;obtain ⟨rfl,rfl⟩:=e;simpa [Xgu] using h
 | [],[],h2,_=>simp[Xgu,Rep,RepL]
 | d::d'::ds,v::v'::vs,h2,_ =>
  have:¬ (v::v'::vs).toArray.size=1:=by simp
  rw[dif_neg this]
  simp only[Xgu,Rep]
  exact ⟨_,rfl,h2⟩
def Xc6 {s:Heap}:∀ {ids:List Nat} {r},Kg s ids=some r->∀ id∈ids,∃ v E z cs fz,s id=some (v,.arr true E z [cs] fz)
 | [],r,h,id,hid=>by simp at hid
 | i::ids,r,h,id,hid=>by
  unfold Kg at h
  split at h
  ·rename_i v E z cs fz hs
   split at h
   ·rename_i h1 h2
    rcases UQ.1 hid with rfl | hid
    ·exact ⟨_,_,_,_,_,hs⟩
    ·exact Xc6 h2 id hid
   ·cases h
  ·cases h
def st0 (args:List D) (lent:List Ob) (n:Nat):St:=⟨λ i=>(args[i]?).getD (.v undef),KF lent,n,1⟩
def Xc7 {G:Nat->Option (List D)} {lb:List (Nat×Nat)} {lent:List Ob} (hM:MemOK M w) (hG:∀ g cs,G g=some cs->RepC P M cs g 0) (hlen:lb.length=lent.length) (hnd:(lb.map (·.1)).Nodup)
 (hob:∀ (k:Nat) ob x,lent[k]? = some ob->lb[k]? = some x->ObRep P M Yj w (some x) ob/\ob.bx=true):U8 P ⟨G,M,w,lb.map (·.1),Kc lb,M,0,none,[]⟩ (KF lent) (·<1) M (Kc lb) w:=by
 have hsplit:∀ id v ob,KF lent id=some (v,ob)->LB<=id/\v=0/\lent[id-LB]? = some ob:=by
  intro id v ob h
  unfold KF at h
  split at h
  ·rename_i hle
   simp only[W7,Wi] at h
   obtain ⟨o,h1,rfl,rfl⟩:=h
   exact ⟨hle,rfl,h1⟩
  ·cases h
 have hloc:∀ id v x,Kc lb id v=some x->v=0/\LB<=id/\∃ y,lb[id-LB]? = some y/\x=some y:=by
  intro id v x h
  unfold Kc at h
  split at h
  ·rename_i hle
   simp only[W7] at h
   obtain ⟨o,h1,rfl⟩:=h
   exact ⟨hle.1,hle.2,o,h1,rfl⟩
  ·cases h
 constructor
 ·exact hM
 ·intro id v x h
  obtain ⟨rfl,_⟩:=hloc id v x h
  exact Nat.zero_lt_one
 ·intro id v ob h
  obtain ⟨h1,rfl,h2⟩:=hsplit id v ob h
  have hlt:id-LB<lb.length:=by
   rw[hlen]
   rcases Uw (id-LB) lent.length with h' | h'
   ·exact h'
   ·simp[WZ h'] at h2
  refine ⟨some lb[id-LB],?_,?_⟩
  ·unfold Kc
   rw[Wn ⟨rfl,h1⟩]
   simp[hlt]
  ·obtain ⟨g1,_⟩:=hob _ ob lb[id-LB] h2 (Wb hlt)
   exact g1.mono (MLe.refl _) (BLe.zero _) (λ _ _ _=>rfl) (λ _ _ _ _=>rfl)
 ·intro id v ob b cb h hb
  obtain ⟨h1,rfl,h2⟩:=hsplit id v ob h
  obtain ⟨_,_,y,hy,e⟩:=hloc _ _ _ hb
  simp only[Wc] at e
  subst e
  exact .inr ⟨UH.2 ⟨_,Ua hy,rfl⟩,(hob _ ob _ h2 hy).2⟩
 ·intro id v ob id' v' ob' b cb cb' h h' hb hb'
  obtain ⟨h1,rfl,h2⟩:=hsplit id v ob h
  obtain ⟨h1',rfl,h2'⟩:=hsplit id' v' ob' h'
  obtain ⟨_,_,y,hy,e⟩:=hloc _ _ _ hb
  obtain ⟨_,_,y',hy',e'⟩:=hloc _ _ _ hb'
  simp only[Wc] at e e'
  subst e;subst e'
  have hn:=Ie.1 (IE.1 hnd)
  have hlt:id-LB<lb.length:=by
   rcases Uw (id-LB) lb.length with h' | h'
   ·exact h'
   ·simp[WZ h'] at hy
  have hlt':id'-LB<lb.length:=by
   rcases Uw (id'-LB) lb.length with h' | h'
   ·exact h'
   ·simp[WZ h'] at hy'
  have key:∀ i j,i<j->∀ (hi:i<lb.length) (hj:j<lb.length),∀ c c',lb[i]? = some (b,c)->lb[j]? = some (b,c')->False:=by
   intro i j hij hi hj c c' e e'
   rw[Wb hi] at e
   rw[Wb hj] at e'
   simp only[Wc] at e e'
   exact hn i j (by simpa using hi) (by simpa using hj) hij (by simp[e,e'])
  rcases Nat.lt_trichotomy (id-LB) (id'-LB) with h | h | h
  ·exact (key _ _ h hlt hlt' _ _ hy hy').elim
  ·rw[← Nat.sub_add_cancel h1,← Nat.sub_add_cancel h1',h]
  ·exact (key _ _ h hlt' hlt _ _ hy' hy).elim
 ·exact Kp.refl _ _
 ·intro b o _;rfl
 ·exact MLe.refl _
 ·exact hG
def Vn {C:Cx} {fn:Func} {args:List D} {vs:List Value} {nt k:Nat} {s:Heap} {M:Mem} {β:Loc} (hd:C.df=[]) (hb:BLe C.b0 β) (hvs:RepL P M β args vs) (hnt:fn.ntmps=nt) (hargs:args.length<=nt) (I:U8 P C s (·<k) M β w) :
 Rel P C ⟨λ i=>(args[i]?).getD (.v undef),s,nt,k⟩ { tmps:=(⟨vs⟩:Array Value)++Array.replicate (fn.ntmps-(⟨vs⟩:Array Value).size) undef,defers:=[] } w:=by
 have hvl:=hvs.length
 refine ⟨hd.symm,by simp[hnt];omega,M,β,hb,λ i=>?_,I⟩
 show Rep P M β ((args[i]?).getD (.v undef)) (((⟨vs⟩:Array Value)++Array.replicate (fn.ntmps-(⟨vs⟩:Array Value).size) undef).getD i undef)
 rcases Uw i args.length with hi | hi
 ·obtain ⟨x,hx,hr⟩:=hvs.get i args[i] (Wb hi)
  rw[Wb hi]
  have:((⟨vs⟩:Array Value)++Array.replicate (fn.ntmps-(⟨vs⟩:Array Value).size) undef).getD i undef=x:=by
   have hlt:i<vs.length:=by omega
   rw[Wb hlt] at hx
   simp only[Wc] at hx
   simp[Array.getElem?_append,hlt,hx]
  rw[this]
  exact hr
 ·rw[WZ hi]
  have:((⟨vs⟩:Array Value)++Array.replicate (fn.ntmps-(⟨vs⟩:Array Value).size) undef).getD i undef=undef:=by
   have hlt:¬ i<vs.length:=by omega
   simp only[Array.getD_eq_getD_getElem?,Array.getElem?_append]
   simp only[List.size_toArray,hlt,if_false]
   rw[Array.getElem?_replicate]
   split<;>rfl
  rw[this]
  simp[Rep,XaP]
def XbY {C:Cx} {fn:Func} {rs:List ResultVar} {fr:List Nat} {lent:List Ob} {lb:List (Nat×Nat)} {R':D->List Ob->Prop} (hlb:C.lb=lb.map (·.1)) (hb0:BLe (Kc lb) C.b0) (hlen:lb.length=lent.length) (hrs:fn.results=⟨rs⟩) :
 ∀ a w',Jx P C (VM P rs fr lent.length R') a w'->∃ v,(results fn a.tmps).run P w'=.ok v w'/\XmU P C.M0 C.w0 lb R' (.returned v) w':=by
 rintro a w' ⟨st,⟨h1,h2,M',β,h0,h3,I⟩,hret⟩
 unfold VM at hret
 split at hret
 ·rename_i c ds hres
  split at hret
  ·rename_i c1 r fz1 fh c2 obs fz2 hsh hle
   obtain ⟨hc,hc1,hc2,hver,hfh,hdis,hR⟩:=hret
   obtain ⟨v,hv,hrv⟩:=VN I h3 hrs hres hc
   obtain ⟨M2,I2,hM2,hF⟩:=I.freeze (fz1++fz2)
   obtain ⟨bl,hfr,hbl⟩:=shut_rep I hM2 I2 hF hdis hsh hc1 (λ i hi=>Uo _ hi) hrv
   have hL:Xd1 st.s β (VB 0 lent.length) lb:=by
    intro j id hj
    have hjl:j<lent.length:=by
     rcases Uw j lent.length with h' | h'
     ·exact h'
     ·rw[WZ (by rw[Kk];exact h')] at hj;cases hj
    rw[Vm _ _ _ hjl] at hj
    simp only[Wc,Ut] at hj
    subst hj
    have hv0:=Xe5 hver (Vm lent.length 0 j hjl)
    rw[Ut] at hv0
    simp only[W7] at hv0
    obtain ⟨⟨v',ob⟩,hs,rfl⟩:=hv0
    have hβ:β (LB+j) 0=some (some (lb[j]'(by omega))):=by
     refine h0 _ _ _ (hb0 _ _ _ ?_)
     show Kc lb (LB+j) 0=_
     unfold Kc
     rw[Wn ⟨rfl,Nat.le_add_right _ _⟩]
     have:LB+j-LB=j:=IS ..
     rw[this]
     rw[Wb (by omega)]
     rfl
    have hbox:∃ E z cs fz,ob=.arr true E z [cs] fz:=by
     have hmem:=Xc6 hle _ (Ua (Vm lent.length 0 j hjl))
     rw[Ut] at hmem
     obtain ⟨v,E,z,cs,fz,hs'⟩:=hmem
     rw[hs] at hs'
     simp only[Wc,Wi] at hs'
     exact ⟨E,z,cs,fz,hs'.2⟩
    obtain ⟨E,z,cs,fz,rfl⟩:=hbox
    exact ⟨0,E,z,cs,fz,lb[j]'(by omega),hs,Wb (by omega),hβ⟩
   obtain ⟨g1,g2⟩:=XaK I hM2 I2 hF hle hc2 (λ x hx=>Ur _ hx) hL (by rw[Kk,hlen])
   obtain ⟨r',hrr,hR⟩:=hR
   obtain ⟨bl',hfr',hbb⟩:=fitsR_rep hrr hfr
   refine ⟨v,hv,v,r',obs,M2,bl',rfl,hR,hlb▸I.keep,I2.mem,λ b o hb=>?_,?_,g2,hfr',hbb▸hbl.nodup I hfh⟩
   ·exact I2.old b o hb
   ·rw[g1,Kk,hlen]
  ·exact hret.elim
 ·exact hret.elim
def XcW {G:Nat->Option (List D)} {f:FuncId} {fn:Func} {body:Code} {rs:List ResultVar} {args:List D} {lent:List Ob} {R':D->List Ob->Prop} (fr:List Nat) (nt:Nat)
 (hf:P.funcs[f]? = some fn) (hb:fn.body=some body) (hn:(fn.name== "runtime.NumGoroutine")=false) (hrs:fn.results=⟨rs⟩) (hnt:fn.ntmps=nt) (hargs:args.length<=nt)
 (h:∀ (C:Cx) x,C.G=G->C.lb.length=lent.length->WfL P args->∀ a w,Rel P (C.sub 0 x) (st0 args lent nt) a w->sem P (C.sub 0 x) (Jx P (C.sub 0 x) (VM P rs fr lent.length R')) [.code body] none a w):YY P G f args lent R':=by
 refine ⟨⟨fn,hf,by simp[hb],hn⟩,λ M w vs lb hM hG hlen hnd hob hvs=>?_⟩
 refine calls_of_wp hf hb ?_
 have I0:=Xc7 (G:=G) hM hG hlen hnd hob
 have hrel:Rel P ⟨G,M,w,lb.map (·.1),Kc lb,M,0,none,[]⟩ (st0 args lent nt) _ w:=Vn rfl (BLe.refl _) hvs hnt hargs I0
 have hrun:=h ⟨G,M,w,lb.map (·.1),Kc lb,M,0,none,[]⟩ (M,Kc lb) rfl (by rw[← hlen];exact W0 ..) hvs.wf _ _ hrel
 refine wp_mono ((wpIn_wide (n:=0)).1 hrun) ?_
 have fin:∀ a w',Jx P ⟨G,M,w,lb.map (·.1),Kc lb,M,0,none,[]⟩ (VM P rs fr lent.length R') a w'->a.defers=[]/\∃ v,(results fn a.tmps).run P w'=.ok v w'/\XmU P M w lb R' (.returned v) w':=λ a w' h=>⟨by obtain ⟨st,h1,_⟩:=h;exact h1.1,XbY rfl (BLe.refl _) hlen hrs a w' h⟩
 intro e a w' hq
 cases e with
 | normal=>exact fin a w' hq
 | ret=>exact fin a w' hq
 | exit id=>exact hq.elim
 | _=>exact hq.elim
def VC {G:Nat->Option (List D)} {f:FuncId} {fn:Func} {body:Code} {rs:List ResultVar} {args:List D} {lent:List Ob} {R':D->List Ob->Prop} (m:Nat) (fr:List Nat) (nt:Nat)
 (hf:P.funcs[f]? = some fn) (hb:fn.body=some body) (hn:(fn.name== "runtime.NumGoroutine")=false) (hrs:fn.results=⟨rs⟩) (hnt:fn.ntmps=nt) (hargs:args.length<=nt)
 (h:∀ (C:Cx) x,C.G=G->WfL P args->run P (C.sub 0 x) (VM P rs fr lent.length R') m [.code body] (st0 args lent nt)):YY P G f args lent R' :=
 XcW fr nt hf hb hn hrs hnt hargs λ C x hG _ hwf a w hr=>Yu m _ hr (h C x hG hwf)
def stI (args:List D) (s:Heap) (n k:Nat):St:=⟨λ i=>(args[i]?).getD (.v undef),s,n,k⟩
def XmZ (P:Program) (rs:List ResultVar) (K:D->Heap->Nat->Prop) (st:St):Prop:=match Xe6 st P rs with
 | some (c,ds)=>c/\K (Xgu ds) st.s st.k
 | none=>False
def kOf (dst:Option Nat) (st:St) (K:St->Prop):D->Heap->Nat->Prop:=λ d s k=>K (nxS st (XL dst st.n) d s st.n k)
def CallX.inl {C:Cx} {f:FuncId} {args:List D} {dst:Option Nat} {st:St} {K:St->Prop} (off:Nat) {fn:Func} {rs:List ResultVar} {nt:Nat} (m:Nat)
 (hk:(P.funcs[f]?,fn.body,fn.name== "runtime.NumGoroutine",fn.results,fn.ntmps,args.length.ble nt)=(some fn,some (fn.body.get!),false,⟨rs⟩,nt,true))
 (h:∀ x,run P (C.sub off x) (XmZ P rs (kOf dst st K)) m [.code (fn.body.get!)] (stI args st.s nt st.k)) (t:Prf args):CallX P C f args dst st K t:=by
 injection hk with hf hk;injection hk with hb hk;injection hk with hn hk;injection hk with hrs hk;injection hk with hnt hargs
 have hargs:=Nat.le_of_ble_eq_true hargs
 refine ⟨⟨fn,hf,by rw[hb];rfl,hn⟩,λ M β w vs h0 I hvs=>?_⟩
 refine calls_of_wp hf hb ?_
 have I0:U8 P (C.sub off (M,β)) st.s (·<st.k) M β w:=⟨I.mem,I.used,I.obs,I.own,I.inj,I.keep,I.old,MLe.refl _,λ g cs hg=>RepC.mono I.le (I.glob g cs hg)⟩
 have hrel:Rel P (C.sub off (M,β)) (stI args st.s nt st.k) _ w:=Vn rfl (BLe.refl _) hvs hnt hargs I0
 have hrun:=Yu m _ hrel (h (M,β))
 refine wp_mono ((wpIn_wide (n:=0)).1 hrun) ?_
 have fin:∀ a w',Jx P (C.sub off (M,β)) (XmZ P rs (kOf dst st K)) a w'->a.defers=[]/\∃ v,(results fn a.tmps).run P w'=.ok v w' /\
  (λ e w'=>∃ v d s' k' M' β',e=Ending.returned v/\U8 P C s' (·<k') M' β' w'/\Rep P M' β' d v/\MLe M M'/\BLe β β'/\K (nxS st (XL dst st.n) d s' st.n k')) (.returned v) w':=by
  rintro a w' ⟨st',⟨h1,h2,M',β',h0',h3,I'⟩,hret⟩
  refine ⟨h1,?_⟩
  unfold XmZ at hret
  split at hret
  ·rename_i c ds hres
   obtain ⟨v,hv,hrv⟩:=VN I' h3 hrs hres hret.1
   exact ⟨v,hv,v,_,_,_,M',β',rfl,⟨I'.mem,I'.used,I'.obs,I'.own,I'.inj,I'.keep,I'.old,I.le.trans I'.le,I.glob⟩,hrv,I'.le,h0',hret.2⟩
  ·exact hret.elim
 intro e a w' hq
 cases e with
 | normal=>exact fin a w' hq
 | ret=>exact fin a w' hq
 | exit id=>exact hq.elim
 | _=>exact hq.elim
def Xd4 {G:Nat->Option (List D)} {f:FuncId} {E z:Nat} {args:List D} {lent:List Ob} {R':D->List Ob->Prop} (h:∀ a cap,YY P G f (.v (.slice a 0 cap)::args) lent R'):YY P G f (.isl E z []::args) lent R':=by
 refine ⟨(h none 0).1,λ M w vs lb h1 h2 h3 h4 h5 h6=>?_⟩
 simp only[RepL,Rep] at h6
 obtain ⟨x,xs,rfl,⟨_,_,_,a,cap,rfl,_⟩,h7⟩:=h6
 refine (h a cap).2 M w _ lb h1 h2 h3 h4 h5 ?_
 simp only[RepL,Rep]
 exact ⟨_,_,rfl,⟨rfl,trivial⟩,h7⟩
end
variable {P:Program} {C:Cx} {R:St->Prop}
section
variable {n:Nat} {k:List It} {st:St}
def Xm0:run P C R (n+1) [] st=R st:=propext Iff.rfl
def XjX {Q:St->Prop}:run P C R (n+1) (.stop Q::k) st=Q st:=propext Iff.rfl
def Xm1 {i:Nat}:run P C R (n+1) (.blk i::k) st=run P C R n k st:=propext Iff.rfl
def XjY {full:Array Oper}:run P C R (n+1) (.ops full []::k) st=run P C R n k st:=propext Iff.rfl
def Xpj {full:Array Oper} {o:Oper} {rest:List Oper}:run P C R (n+1) (.ops full (o::rest)::k) st=XaO full o st
 (λ st=>XaN P C o st (run P C R n (.ops full rest::k)))
 (λ st=>Xe2 (XL o.dst st.n) st.n (st.k+1) (λ dst m j=>run P C R n (.ops full rest::k) (nx st dst (.v undef) [] m j)) trivial):=propext Iff.rfl
def XjZ:run P C R (n+1) (.code .skip::k) st=run P C R n k st:=propext Iff.rfl
def Xm2 {x y:Code}:run P C R (n+1) (.code (.seq x y)::k) st=run P C R n (.code x::.code y::k) st:=propext Iff.rfl
def Xj0 {c:Operand} {x y:Code}:run P C R (n+1) (.code (.cond c x y)::k) st=Xbc (ev st.t C.G c) c st (run P C R n (.code x::k)) (run P C R n (.code y::k)) trivial:=propext Iff.rfl
def XiE {i:Nat} {c:Code}:run P C R (n+1) (.code (.block i c)::k) st=run P C R n (.code c::.blk i::k) st:=propext Iff.rfl
def XiF {c:Code}:run P C R (n+1) (.code (.scope c)::k) st=run P C R n (.code c::k) st:=propext Iff.rfl
def XiG {i:Nat}:run P C R (n+1) (.code (.label i)::k) st=run P C R n k st:=propext Iff.rfl
def Xj1 {i:Nat}:run P C R (n+1) (.code (.exit i)::k) st=Xhr (JX i k) (λ k'=>run P C R n k' st) trivial:=propext Iff.rfl
def Xm3:run P C R (n+1) (.code .ret::k) st=R st:=propext Iff.rfl
def Xj2 {c:Code}:run P C R (n+1) (.code (.loop c)::k) st=LoopG P C R c k st trivial:=propext Iff.rfl
def Xgv {i:Nat} {ops:List Oper}:run P C R (n+1) (.code (.region i ⟨ops⟩ false)::k) st=run P C R n (.ops ⟨ops⟩ ops::k) st:=propext Iff.rfl
def XiH {i:Nat} {ops:Array Oper}:run P C R (n+1) (.code (.region i ops true)::k) st=DrawnG P C R i ops k st trivial:=propext Iff.rfl
variable {full:Array Oper} {dst:Option Nat} {op:Op} {ty:Nat} {pos:String} {af:Array Edge} {x y:St->Prop} {K:St->Prop}
def Xe7:XaO full ⟨dst,op,ty,pos,af,none⟩ st x y=x st:=propext Iff.rfl
def Xe8 {g:Nat} {want:Bool}:XaO full ⟨dst,op,ty,pos,af,some (g,want)⟩ st x y=Xd3 ((full[g]?).bind (·.dst)) want st x y trivial:=propext Iff.rfl
def Xe9 {r:Nat} {want:Bool} {t':Prf (some r)}:Xd3 (some r) want st x y t'=ZI (st.t r) r want st x y trivial:=propext Iff.rfl
def XiI {r:Nat} {t':Prf (D.v (.bool true))}:ZI (.v (.bool true)) r true st x y t'=x st:=by simp[ZI,JW]
def XiJ {r:Nat} {t':Prf (D.v (.bool true))}:ZI (.v (.bool true)) r false st x y t'=y st:=by simp[ZI,JW]
def XiK {r:Nat} {t':Prf (D.v (.bool false))}:ZI (.v (.bool false)) r true st x y t'=y st:=by simp[ZI,JW]
def XiL {r:Nat} {t':Prf (D.v (.bool false))}:ZI (.v (.bool false)) r false st x y t'=x st:=by simp[ZI,JW]
def Xj3 {r:Nat} {want:Bool} {vs:Array Value} {t':Prf (D.v (.tuple vs))}:ZI (.v (.tuple vs)) r want st x y t'=y st:=rfl
def Xm4 {c:Operand} {t':Prf (D.v (.bool true))}:Xbc (.v (.bool true)) c st x y t'=x st:=by simp[Xbc,JW]
def Xm5 {c:Operand} {t':Prf (D.v (.bool false))}:Xbc (.v (.bool false)) c st x y t'=y st:=by simp[Xbc,JW]
def Xgw {f:List It->Prop} {t':Prf (some k)}:Xhr (some k) f t'=f k:=propext Iff.rfl
def Xj4 {m j:Nat} {f:Option Nat->Nat->Nat->Prop} {t':Prf dst}:Xe2 dst m j f t'=f dst m j:=propext Iff.rfl
def XiM {o:Oper}:XaN P C o st K=Xc5 P C (Jy o.op) o st K trivial:=propext Iff.rfl
def Xgx {o:Oper} {t':Prf (none:Option Call)}:Xc5 P C none o st K t'=Xbb (opF P (Xe1 C.off o.dst) st.k (ev st.t C.G) st.s o.op) (XL o.dst st.n) st.n (st.k+1) (λ dst d u n k=>K (nx st dst d u n k)) trivial:=propext Iff.rfl
def Xgy {o:Oper} {c:Call} {t':Prf (some c)}:Xc5 P C (some c) o st K t'=XbW P C (callee (ev st.t C.G) c) c o.dst st K trivial:=propext Iff.rfl
def Xfa {f:Nat} {args:List D} {c:Call} {dst:Option Nat} {t':Prf (some (f,args))}:XbW P C (some (f,args)) c dst st K t'=CallX P C f args dst st K trivial:=propext Iff.rfl
def Xfb {c:Call} {dst:Option Nat} {t':Prf (none:Option (Nat×List D))}:XbW P C none c dst st K t'=Xd2 P C (Xbr (ev st.t C.G) c) dst st K trivial:=propext Iff.rfl
def Xfc {l:Nat} {args:List D} {dst:Option Nat} {t':Prf (some (l,args))}:Xd2 P C (some (l,args)) dst st K t'=YieldX P C l args dst st K trivial:=propext Iff.rfl
def Xgz {c:Prop} {d:D} {u:Up} {m j:Nat} {f:Option Nat->D->Up->Nat->Nat->Prop} {t':Prf (some (c,d,u))}:Xbb (some (c,d,u)) dst m j f t'=(c/\f dst d u m j):=propext Iff.rfl
def Xfd {G:Nat->Option (List D)} {f:Nat} {cc:Prop} {as:List D} {ids:List Nat} {obs:List Ob} {fz:List Nat} {K:List Nat->List Nat->D->List Ob->Prop} {t':Prf (some (cc,as,ids,obs,fz))}:Xgs P G f (some (cc,as,ids,obs,fz)) K t'=(cc/\CallG P G f as obs (K ids fz) trivial):=propext Iff.rfl
def Xm6 {d:D} {u:Up} {m j:Nat} {f:Option Nat->D->Up->Nat->Nat->Prop} {t':Prf (d,u)}:Xpi (d,u) dst m j f t'=f dst d u m j:=propext Iff.rfl
variable {d:D} {u:Up} {m j i x:Nat}
def XsK:(nx st dst d u m j).n=m:=rfl
def XsL:(nx st dst d u m j).k=j:=rfl
def XsM {i x:Nat}:(nx st (some x) d u m j).t i=if i=x then d else st.t i:=rfl
def XqH {i:Nat}:(nx st none d u m j).t i=st.t i:=rfl
def XqI:(nx st dst d [] m j).s=st.s:=rfl
def XsN {e:Nat×Nat×Ob}:(nx st dst d (e::u) m j).s=app st.s (e::u):=rfl
def XqJ {s:Heap}:(nxS st dst d s m j).n=m:=rfl
def XqK {s:Heap}:(nxS st dst d s m j).k=j:=rfl
def XqL {s:Heap} {i x:Nat}:(nxS st (some x) d s m j).t i=if i=x then d else st.t i:=rfl
def Xpk {s:Heap} {i:Nat}:(nxS st none d s m j).t i=st.t i:=rfl
def XqM {s:Heap}:(nxS st dst d s m j).s=s:=rfl
def XqN {args:List D} {s:Heap} {n k i:Nat}:(stI args s n k).t i=(args[i]?).getD (.v undef):=rfl
def XqO {args:List D} {s:Heap} {n k:Nat}:(stI args s n k).s=s:=rfl
def XqP {args:List D} {s:Heap} {n k:Nat}:(stI args s n k).n=n:=rfl
def XqQ {args:List D} {s:Heap} {n k:Nat}:(stI args s n k).k=k:=rfl
def Xpl {s:Heap} {k:Nat}:kOf dst st K d s k=K (nxS st (XL dst st.n) d s st.n k):=rfl
def Xm7 {C:Cx} {n:Nat} {x:Mem×Loc}:(C.sub n x).off=n:=rfl
def XqR {C:Cx} {n:Nat} {x:Mem×Loc}:(C.sub n x).G=C.G:=rfl
def XqS {args:List D} {lent:List Ob} {n i:Nat}:(st0 args lent n).t i=(args[i]?).getD (.v undef):=rfl
def XqT {args:List D} {lent:List Ob} {n:Nat}:(st0 args lent n).s=KF lent:=rfl
def XqU {args:List D} {lent:List Ob} {n:Nat}:(st0 args lent n).n=n:=rfl
def XqV {args:List D} {lent:List Ob} {n:Nat}:(st0 args lent n).k=1:=rfl
def Xm8 {s:Heap}:app s []=s:=rfl
def Xj5 {s:Heap} {i v:Nat} {o:Ob}:app s ((i,v,o)::u)=app (upd s i (some (v,o))) u:=rfl
def Xpm {s:Heap} {i j:Nat} {x:Option (Nat×Ob)}:upd s i x j=if j=i then x else s j:=rfl
def XiN {i:Nat}:KF [] i=none:=by simp[KF]
def KH {ls:List Ob} {j:Nat}:KF ls (LB+j)=(ls[j]?).map (λ o=>(0,o)):=by
 unfold KF
 rw[Wn (Nat.le_add_right _ _),IS]
def Xpn:IntKind.min .i8 = -128:=by decide
def Xpo:IntKind.max .i8=127:=by decide
def Xm9:IntKind.min .i16 = -32768:=by decide
def Xna:IntKind.max .i16=32767:=by decide
def Xnb:IntKind.min .i32 = -2147483648:=by decide
def Xnc:IntKind.max .i32=2147483647:=by decide
def Xnd:IntKind.min .i64 = -9223372036854775808:=by decide
def Xne:IntKind.max .i64=9223372036854775807:=by decide
def Xpp:IntKind.min .u8=0:=by decide
def Xpq:IntKind.max .u8=255:=by decide
def Xnf:IntKind.min .u16=0:=by decide
def Xng:IntKind.max .u16=65535:=by decide
def Xht:IntKind.min .u32=0:=by decide
def Xhu:IntKind.max .u32=4294967295:=by decide
def Xhv:IntKind.min .u64=0:=by decide
def Xhw:IntKind.max .u64=18446744073709551615:=by decide
def YW {r:Nat} {d:D} (h:st.t r=d):Vy st r d=st:=by
 unfold Vy
 have:upd st.t r d=st.t:=by
  funext j
  unfold upd
  split
  ·rename_i e;subst e;exact h.symm
  ·rfl
 rw[this]
def Xr {b:Bool} {r:Nat} {x y:St->Prop} (hr:st.t r=.v (.bool b)) (h1:b=true->x (Vy st r (.v (.bool true)))) (h2:b=false->y (Vy st r (.v (.bool false)))) (t':Prf (D.v (.bool b))):Xbc (.v (.bool b)) (.tmp r) st x y t' :=
 ⟨λ e=>by subst e;have:=h1 rfl;rwa[YW hr] at this,λ e=>by subst e;have:=h2 rfl;rwa[YW hr] at this⟩
def Xg {b:Bool} {r:Nat} {x y:St->Prop} (hr:st.t r=.v (.bool b)) (h1:b=true->x (Vy st r (.v (.bool true)))) (h2:b=false->y (Vy st r (.v (.bool false)))) (t':Prf (D.v (.bool b))):ZI (.v (.bool b)) r true st x y t' :=
 ⟨λ e=>by subst e;have:=h1 rfl;rwa[YW hr] at this,λ e=>by subst e;have:=h2 rfl;rwa[YW hr] at this⟩
def Xh {b:Bool} {r:Nat} {x y:St->Prop} (hr:st.t r=.v (.bool b)) (h1:b=true->y (Vy st r (.v (.bool true)))) (h2:b=false->x (Vy st r (.v (.bool false)))) (t':Prf (D.v (.bool b))):ZI (.v (.bool b)) r false st x y t' :=
 ⟨λ e=>by subst e;have:=h1 rfl;rwa[YW hr] at this,λ e=>by subst e;have:=h2 rfl;rwa[YW hr] at this⟩
def Xpr {r i:Nat} {d:D}:(Vy st r d).t i=if i=r then d else st.t i:=rfl
def Xps {r:Nat} {d:D}:(Vy st r d).s=st.s:=rfl
def Xpt {r:Nat} {d:D}:(Vy st r d).n=st.n:=rfl
def Xpu {r:Nat} {d:D}:(Vy st r d).k=st.k:=rfl
def CallG.of {G:Nat->Option (List D)} {f:FuncId} {args eargs:List D} {obs:List Ob} {R:D->List Ob->Prop} {K:D->List Ob->Prop} (h:YY P G f eargs obs R) (hf:ZD args eargs) (hK:∀ r ls,R r ls->K r ls) (t':Prf args):CallG P G f args obs K t' :=
 ⟨eargs,R,hf,h,hK⟩
end
variable {P:Program}
structure En where
 i:Nat
 o:Oper
 anc:List Nat
 ws:List Nat
 ms:List Nat
 mi:List Nat
def ZS (ms:List Nat) (t:Nat->D):Nat->D:=λ x=>if ms.contains x then .any else t x
def Y7 (mi:List Nat) (s:Heap):Heap:=λ x=>if mi.contains x then none else s x
inductive Kd where
 | det (c:Prop) (d:D) (u:Up)
 | call (c:Prop) (f:FuncId) (as:List D) (ids:List Nat) (obs:List Ob) (fz:List Nat)
 | ro (f:FuncId) (args:List D)
def kd1 (x:Option (Prop×D×Up)):Option Kd:=match x with
 | some (c,d,u)=>some (.det c d u)
 | none=>none
def kd2 (f:FuncId) (args:List D) (x:Option (Prop×List D×List Nat×List Ob×List Nat)):Option Kd:=match x with
 | some (cc,as,ids,obs,fz)=>some (.call cc f as ids obs fz)
 | none=>some (.ro f args)
def kd3 (s:Heap) (x:Option (FuncId×List D)):Option Kd:=match x with
 | some (f,args)=>kd2 f args (YS s args)
 | none=>none
def RoA (P:Program) (C:Cx) (s:Heap) (args eargs:List D):Prop:=∀ s' U M β w vs,HLe s s'->U8 P C s' U M β w->RepL P M β args vs->∃ M1,MLe M M1/\MemOK M1 w/\RepL P M1 Yj eargs vs
def kdO (P:Program) (C:Cx) (ver:Nat) (o:Oper) (t:Nat->D) (s:Heap):Option Kd:=match Jy o.op with
 | some c=>kd3 s (callee (ev t C.G) c)
 | none=>kd1 (opF P (Xe1 C.off o.dst) ver (ev t C.G) s o.op)
def kdG (d:D) (_:Nat) (want:Bool) (x:Option Kd):Option Kd:=match d with
 | .v (.bool b)=>bif b==want then x else some (.det True (.v undef) [])
 | .v (.tuple _)=>some (.det True (.v undef) [])
 | _=>none
def kdE (P:Program) (C:Cx) (full:Array Oper) (ver:Nat) (o:Oper) (t:Nat->D) (s:Heap):Option Kd:=match o.guard with
 | none=>kdO P C ver o t s
 | some (g,want)=>match (full[g]?).bind (·.dst) with
  | some r=>kdG (t r) r want (kdO P C ver o t s)
  | none=>none
def Kh (u:Up) (ws:List Nat):Prop:=∀ x∈u,x.1∈ws
def doK (P:Program) (C:Cx) (e:En) (ver:Nat) (s:Heap) (x:Option Kd) (F:D->Up->Prop):Prop:=match x with
 | none=>False
 | some (.det c d u)=>c/\Kh u e.ws/\F d u
 | some (.call c f as ids obs fz)=>c/\∃ eargs R,ZD as eargs/\YY P C.G f eargs obs R/\(∃ r ls,R r ls)/\∀ r ls,R r ls ->
  Kh (aft s ids fz r ls ver (64*(C.off+e.o.dst.getD 0))).2 e.ws/\F (aft s ids fz r ls ver (64*(C.off+e.o.dst.getD 0))).1 (aft s ids fz r ls ver (64*(C.off+e.o.dst.getD 0))).2
 | some (.ro f args)=>∃ eargs R,RoA P C s args eargs/\YY P C.G f eargs [] R/\(∃ r ls,R r ls)/\∀ r ls,R r ls->scal r=true/\F r []
def Jf (P:Program) (C:Cx) (full:Array Oper) (k0:Nat) (e:En) (st:St) (F:St->Prop):Prop :=
 doK P C e (k0+e.i) (Y7 e.mi st.s) (kdE P C full (k0+e.i) e.o (ZS e.ms st.t) (Y7 e.mi st.s)) λ d u=>F (nx st (XL e.o.dst st.n) d u st.n st.k)
def dr (P:Program) (C:Cx) (full:Array Oper) (k0:Nat):List En->St->(St->Prop)->Prop
 | [],st,K=>K st
 | e::es,st,K=>Jf P C full k0 e st λ st=>dr P C full k0 es st K
def V6 (o:Oper):Bool:=(Jy o.op).isSome
def inB (x:Option Nat) (l:List Nat):Bool:=match x with
 | some x=>l.contains x
 | none=>true
def XbZ (e j:En):Bool :=
 (e.o.dst != j.o.dst||e.o.dst.isNone)&&inB e.o.dst j.ms&&inB j.o.dst e.ms&&e.ws.all (λ x=>j.mi.contains x)&&j.ws.all (λ x=>e.mi.contains x)&&e.ws.all (λ x=>!j.ws.contains x)&&!(V6 e.o&&V6 j.o)
section
variable {C:Cx} {full:Array Oper} {k0:Nat} {st:St}
def Xj6 {e:En} {ver:Nat} {s:Heap} {x:Option Kd} {F F':D->Up->Prop} (h:∀ d u,F d u->F' d u) (hd:doK P C e ver s x F):doK P C e ver s x F':=by
 unfold doK at hd ⊢
 split at hd
 ·exact hd
 ·exact ⟨hd.1,hd.2.1,h _ _ hd.2.2⟩
 ·obtain ⟨hc,eargs,R,h1,h2,h3,h4⟩:=hd
  exact ⟨hc,eargs,R,h1,h2,h3,λ r ls hR=>⟨(h4 r ls hR).1,h _ _ (h4 r ls hR).2⟩⟩
 ·obtain ⟨eargs,R,h1,h2,h3,h4⟩:=hd
  exact ⟨eargs,R,h1,h2,h3,λ r ls hR=>⟨(h4 r ls hR).1,h _ _ (h4 r ls hR).2⟩⟩
def XgA {e:En} {F F':St->Prop} (h:∀ st,F st->F' st) (hd:Jf P C full k0 e st F):Jf P C full k0 e st F' :=
 Xj6 (λ _ _ hF=>h _ hF) hd
def Xj7 {ms:List Nat} {dst:Option Nat} {n m k:Nat} {d:D} {u:Up} (h:inB dst ms=true):ZS ms (nx st (XL dst n) d u m k).t=ZS ms st.t:=by
 funext x
 unfold ZS
 split
 ·rfl
 ·rename_i hx
  cases dst with
  | none=>rfl
  | some y =>
   simp only[XL]
   split
   ·simp only[nx,upd]
    split
    ·rename_i e;subst e;exact absurd h hx
    ·rfl
   ·rfl
def Jg {s:Heap} {i:Nat}:∀ {u:Up},(∀ x∈u,x.1≠i)->app s u i=s i:=by
 intro u
 induction u generalizing s with
 | nil=>intro _;rfl
 | cons x u ih =>
  intro h
  obtain ⟨j,v,o⟩:=x
  show app (upd s j _) u i=s i
  rw[ih λ y hy=>h y (W4 _ hy),X2 _ _ _ _ (Ne.symm (h (j,v,o) (by simp)))]
def Xj8 {mi ws:List Nat} {dst:Option Nat} {m k:Nat} {d:D} {u:Up} (hu:Kh u ws) (h:∀ x∈ws,mi.contains x=true):Y7 mi (nx st dst d u m k).s=Y7 mi st.s:=by
 funext x
 unfold Y7
 split
 ·rfl
 ·rename_i hx
  exact Jg λ y hy e=>hx (e▸h _ (hu y hy))
def Xc8 {s s':Heap} {i:Nat}:∀ {u:Up},s i=s' i->app s u i=app s' u i:=by
 intro u
 induction u generalizing s s' with
 | nil=>intro h;exact h
 | cons x u ih =>
  intro h
  obtain ⟨j,v,o⟩:=x
  show app (upd s j _) u i=app (upd s' j _) u i
  refine ih ?_
  unfold upd
  split
  ·rfl
  ·exact h
def Xj9 {s:Heap} {u u':Up} (h:∀ x∈u,∀ y∈u',x.1≠y.1):app (app s u) u'=app (app s u') u:=by
 funext i
 by_cases hi:∃ x∈u,x.1=i
 ·obtain ⟨x,hx,rfl⟩:=hi
  rw[Jg λ y hy e=>h x hx y hy e.symm]
  exact Xc8 (Jg λ y hy e=>h x hx y hy e.symm).symm
 ·have hn:∀ x∈u,x.1≠i:=λ x hx e=>hi ⟨x,hx,e⟩
  rw[Jg (s:=app s u') hn]
  exact Xc8 (Jg hn)
def V7 {e j:Option Nat} {n k:Nat} {d d':D} {u u':Up} (hne:e≠j\/e=none) (h:∀ x∈u,∀ y∈u',x.1≠y.1) :
 nx (nx st (XL e n) d u n k) (XL j n) d' u' n k=nx (nx st (XL j n) d' u' n k) (XL e n) d u n k:=by
 have ht:(nx (nx st (XL e n) d u n k) (XL j n) d' u' n k).t=(nx (nx st (XL j n) d' u' n k) (XL e n) d u n k).t:=by
  funext x
  cases e with
  | none=>rfl
  | some a =>
   cases j with
   | none=>rfl
   | some b =>
    simp only[XL]
    have hab:a≠b:=by
     rcases hne with h | h
     ·exact λ hh=>h (by rw[hh])
     ·cases h
    split<;>split<;>simp only[nx,upd]
    by_cases h1:x=a<;>by_cases h2:x=b<;>simp[h1,h2]
    ·omega
    ·intro hh;exact absurd hh hab
    ·intro hh;exact absurd hh.symm hab
 have hs:(nx (nx st (XL e n) d u n k) (XL j n) d' u' n k).s=(nx (nx st (XL j n) d' u' n k) (XL e n) d u n k).s:=Xj9 h
 have:∀ (a b:St),a.t=b.t->a.s=b.s->a.n=b.n->a.k=b.k->a=b:=by
  rintro ⟨_,_,_,_⟩ ⟨_,_,_,_⟩ h1 h2 h3 h4
  simp only at h1 h2 h3 h4
  subst h1;subst h2;subst h3;subst h4;rfl
 exact this _ _ ht hs rfl rfl
def Kd.isDet:Kd->Bool
 | .det _ _ _=>true
 | _=>false
def Jh {ver:Nat} {o:Oper} {t:Nat->D} {s:Heap} {x:Kd} (h:kdE P C full ver o t s=some x) (hx:x.isDet=false):V6 o=true:=by
 have key:kdO P C ver o t s=some x->V6 o=true:=by
  intro h
  unfold kdO at h
  unfold V6
  split at h
  ·rename_i hc;rw[hc];rfl
  ·unfold kd1 at h
   split at h
   ·simp only[Wc] at h;subst h;cases hx
   ·cases h
 unfold kdE at h
 split at h
 ·exact key h
 ·split at h
  ·unfold kdG at h
   split at h
   ·rename_i b _
    cases hb:(b==_) with
    | true=>rw[hb] at h;exact key h
    | false=>rw[hb] at h;simp only[Wa,Wc] at h;subst h;cases hx
   ·simp only[Wc] at h;subst h;cases hx
   ·cases h
  ·cases h
def XgB {e j:En} {F:St->Prop} (hap:XbZ e j=true) (h:Jf P C full k0 e st λ st=>Jf P C full k0 j st F):Jf P C full k0 j st λ st=>Jf P C full k0 e st F:=by
 unfold XbZ at hap
 simp only[Ww,Ip,bne_iff_ne,ne_eq,Option.isNone_iff_eq_none,W3,Uv] at hap
 obtain ⟨⟨⟨⟨⟨⟨hdst,hem⟩,hjm⟩,hew⟩,hjw⟩,hdis⟩,hcc⟩:=hap
 have hdis':∀ {u u':Up},Kh u e.ws->Kh u' j.ws->∀ x∈u,∀ y∈u',x.1≠y.1:=by
  intro u u' hu hu' x hx y hy e'
  have h1:=hdis x.1 (hu x hx)
  have h2:=hu' y hy
  rw[← e'] at h2
  have:j.ws.contains x.1=true:=by simpa using h2
  rw[h1] at this;cases this
 have vj:∀ {d u},Kh u e.ws->ZS j.ms (nx st (XL e.o.dst st.n) d u st.n st.k).t=ZS j.ms st.t/\Y7 j.mi (nx st (XL e.o.dst st.n) d u st.n st.k).s=Y7 j.mi st.s :=
  λ hu=>⟨Xj7 hem,Xj8 hu hew⟩
 have ve:∀ {d u},Kh u j.ws->ZS e.ms (nx st (XL j.o.dst st.n) d u st.n st.k).t=ZS e.ms st.t/\Y7 e.mi (nx st (XL j.o.dst st.n) d u st.n st.k).s=Y7 e.mi st.s :=
  λ hu=>⟨Xj7 hjm,Xj8 hu hjw⟩
 unfold Jf at h ⊢
 generalize hke:kdE P C full (k0+e.i) e.o (ZS e.ms st.t) (Y7 e.mi st.s)=ke at h
 generalize hkj:kdE P C full (k0+j.i) j.o (ZS j.ms st.t) (Y7 j.mi st.s)=kj
 cases ke with
 | none=>exact h.elim
 | some ke =>
  cases ke with
  | det c d u =>
   obtain ⟨hc,hu,h⟩:=h
   obtain ⟨v1,v2⟩:=vj (d:=d) hu
   dsimp only at h
   rw[v1,v2,hkj] at h
   cases kj with
   | none=>exact h.elim
   | some kj =>
    cases kj with
    | det c' d' u' =>
     obtain ⟨hc',hu',h⟩:=h
     refine ⟨hc',hu',?_⟩
     obtain ⟨v3,v4⟩:=ve (d:=d') hu'
     try dsimp only
     rw[v3,v4,hke]
     refine ⟨hc,hu,?_⟩
     have:=V7 (st:=st) (e:=e.o.dst) (j:=j.o.dst) (n:=st.n) (k:=st.k) (d:=d) (d':=d') hdst (hdis' hu hu')
     exact (congrArg F this).mp h
    | call c' f as ids obs fz =>
     obtain ⟨hc',eargs,R,h1,h2,h3,h4⟩:=h
     refine ⟨hc',eargs,R,h1,h2,h3,λ r ls hR=>?_⟩
     obtain ⟨hu',h⟩:=h4 r ls hR
     refine ⟨hu',?_⟩
     obtain ⟨v3,v4⟩:=ve (d:=(aft (Y7 j.mi st.s) ids fz r ls (k0+j.i) (64*(C.off+j.o.dst.getD 0))).1) hu'
     try dsimp only
     rw[v3,v4,hke]
     refine ⟨hc,hu,?_⟩
     have:=V7 (st:=st) (e:=e.o.dst) (j:=j.o.dst) (n:=st.n) (k:=st.k) (d:=d) (d':=(aft (Y7 j.mi st.s) ids fz r ls (k0+j.i) (64*(C.off+j.o.dst.getD 0))).1) hdst (hdis' hu hu')
     exact (congrArg F this).mp h
    | ro f' args' =>
     obtain ⟨eargs,R,h1,h2,h3,h4⟩:=h
     refine ⟨eargs,R,h1,h2,h3,λ r ls hR=>⟨(h4 r ls hR).1,?_⟩⟩
     have h:=(h4 r ls hR).2
     have hu':Kh [] j.ws:=λ x hx=>by cases hx
     obtain ⟨v3,v4⟩:=ve (d:=r) hu'
     try dsimp only
     rw[v3,v4,hke]
     refine ⟨hc,hu,?_⟩
     have:=V7 (st:=st) (e:=e.o.dst) (j:=j.o.dst) (n:=st.n) (k:=st.k) (d:=d) (d':=r) hdst (hdis' hu hu')
     exact (congrArg F this).mp h
  | ro f args =>
   have hce:=Jh hke rfl
   obtain ⟨eargs,R,h1,h2,⟨r0,ls0,hR0⟩,h4⟩:=h
   have hu:Kh [] e.ws:=λ x hx=>by cases hx
   obtain ⟨_,h0⟩:=h4 r0 ls0 hR0
   obtain ⟨v1,v2⟩:=vj (d:=r0) hu
   dsimp only at h0
   rw[v1,v2,hkj] at h0
   cases kj with
   | none=>exact h0.elim
   | some kj =>
    cases kj with
    | call c' f' as' ids' obs' fz' =>
     have hcj:=Jh hkj rfl
     rw[hce,hcj] at hcc
     cases hcc
    | ro f' args' =>
     have hcj:=Jh hkj rfl
     rw[hce,hcj] at hcc
     cases hcc
    | det c' d' u' =>
     refine ⟨h0.1,h0.2.1,?_⟩
     obtain ⟨v3,v4⟩:=ve (d:=d') h0.2.1
     try dsimp only
     rw[v3,v4,hke]
     refine ⟨eargs,R,h1,h2,⟨r0,ls0,hR0⟩,λ r ls hR=>⟨(h4 r ls hR).1,?_⟩⟩
     have h:=(h4 r ls hR).2
     obtain ⟨v1,v2⟩:=vj (d:=r) hu
     dsimp only at h
     rw[v1,v2,hkj] at h
     have:=V7 (st:=st) (e:=e.o.dst) (j:=j.o.dst) (n:=st.n) (k:=st.k) (d:=r) (d':=d') hdst (hdis' hu h0.2.1)
     exact (congrArg F this).mp h.2.2
  | call c f as ids obs fz =>
   have hce:=Jh hke rfl
   obtain ⟨hc,eargs,R,h1,h2,⟨r0,ls0,hR0⟩,h4⟩:=h
   obtain ⟨hu0,h0⟩:=h4 r0 ls0 hR0
   obtain ⟨v1,v2⟩:=vj (d:=(aft (Y7 e.mi st.s) ids fz r0 ls0 (k0+e.i) (64*(C.off+e.o.dst.getD 0))).1) hu0
   dsimp only at h0
   rw[v1,v2,hkj] at h0
   cases kj with
   | none=>exact h0.elim
   | some kj =>
    cases kj with
    | call c' f' as' ids' obs' fz' =>
     have hcj:=Jh hkj rfl
     rw[hce,hcj] at hcc
     cases hcc
    | ro f' args' =>
     have hcj:=Jh hkj rfl
     rw[hce,hcj] at hcc
     cases hcc
    | det c' d' u' =>
     refine ⟨h0.1,h0.2.1,?_⟩
     obtain ⟨v3,v4⟩:=ve (d:=d') h0.2.1
     try dsimp only
     rw[v3,v4,hke]
     refine ⟨hc,eargs,R,h1,h2,⟨r0,ls0,hR0⟩,λ r ls hR=>?_⟩
     obtain ⟨hu,h⟩:=h4 r ls hR
     obtain ⟨v1,v2⟩:=vj (d:=(aft (Y7 e.mi st.s) ids fz r ls (k0+e.i) (64*(C.off+e.o.dst.getD 0))).1) hu
     dsimp only at h
     rw[v1,v2,hkj] at h
     refine ⟨hu,?_⟩
     have:=V7 (st:=st) (e:=e.o.dst) (j:=j.o.dst) (n:=st.n) (k:=st.k) (d:=(aft (Y7 e.mi st.s) ids fz r ls (k0+e.i) (64*(C.off+e.o.dst.getD 0))).1) (d':=d') hdst (hdis' hu h0.2.1)
     exact (congrArg F this).mp h.2.2
def Xbd {K:St->Prop} {j:En} {l2:List En}:∀ {l1:List En} {st:St},(∀ e∈l1,XbZ e j=true)->dr P C full k0 (l1++j::l2) st K->Jf P C full k0 j st λ st=>dr P C full k0 (l1++l2) st K
 | [],st,_,h=>h
 | e::l1,st,hap,h=>by
  have h':Jf P C full k0 e st λ st=>Jf P C full k0 j st λ st=>dr P C full k0 (l1++l2) st K :=
   XgA (λ st hst=>Xbd (λ x hx=>hap x (W4 _ hx)) hst) h
  exact XgB (hap e (by simp)) h'
end
variable {P:Program}
section
variable {s s':Heap}
mutual
def lend_le (hs:HLe s s'):∀ {d:D} {ls:List Nat} {r},lend s ls d=some r->lend s' ls d=some r
 | .ept id ver z i c,ls,r,h=>by
  unfold lend at h ⊢
  split at h
  ·rename_i he
   rw[hs _ _ he];exact h
  ·cases h
 | .agg cs,ls,r,h=>by
  unfold lend at h ⊢
  split at h
  ·rename_i he
   rw[Ji hs he];exact h
  ·cases h
 | .tup cs,ls,r,h=>by
  unfold lend at h ⊢
  split at h
  ·rename_i he
   rw[Ji hs he];exact h
  ·cases h
 | .ifc t d,ls,r,h=>by
  unfold lend at h ⊢
  split at h
  ·rename_i he
   rw[lend_le hs he];exact h
  ·cases h
 | .clo fn a b,ls,r,h=>by
  unfold lend at h ⊢
  split at h
  ·rename_i he
   rw[Ji hs he]
   simp only
   split at h
   ·rename_i hf
    rw[Ji hs hf];exact h
   ·cases h
  ·cases h
 | .osl id ver z off len,ls,r,h=>by
  unfold lend at h ⊢
  split at h
  ·rename_i he
   rw[snap_le hs he];exact h
  ·cases h
 | .any,ls,r,h=>by
  unfold lend at h ⊢
  split at h
  ·rename_i he
   rw[snap_le hs he];exact h
  ·cases h
 | .v _,ls,r,h=>by
  unfold lend at h ⊢
  split at h
  ·rename_i he
   rw[snap_le hs he];exact h
  ·cases h
 | .nsl,ls,r,h=>by
  unfold lend at h ⊢
  split at h
  ·rename_i he
   rw[snap_le hs he];exact h
  ·cases h
 | .isl ..,ls,r,h=>by
  unfold lend at h ⊢
  split at h
  ·rename_i he
   rw[snap_le hs he];exact h
  ·cases h
 | .ipt ..,ls,r,h=>by
  unfold lend at h ⊢
  split at h
  ·rename_i he
   rw[snap_le hs he];exact h
  ·cases h
 | .fsl ..,ls,r,h=>by simp[lend,snap] at h
 | .fmp ..,ls,r,h=>by simp[lend,snap] at h
 | .omp ..,ls,r,h=>by simp[lend,snap] at h
def Ji (hs:HLe s s'):∀ {ds:List D} {ls:List Nat} {r},Y6 s ls ds=some r->Y6 s' ls ds=some r
 | [],ls,r,h=>by simpa only[Y6] using h
 | d::ds,ls,r,h=>by
  unfold Y6 at h ⊢
  split at h
  ·rename_i he
   rw[lend_le hs he]
   simp only
   split at h
   ·rename_i hf
    rw[Ji hs hf];exact h
   ·cases h
  ·cases h
end
def Xbs {l l':List Nat} (h:Has s l) (h':Has s l'):Has s (l++l'):=λ i hi=>by
 rcases WK.1 hi with hi | hi
 ·exact h i hi
 ·exact h' i hi
mutual
def lend_has:∀ {d:D} {ls:List Nat} {r},lend s ls d=some r->Has s r.2.2.2
 | .ept id ver z i c,ls,r,h=>by
  unfold lend at h
  split at h
  ·split at h
   ·split at h<;>simp only[Wc] at h<;>subst h<;>intro i hi<;>simp at hi
   ·cases h
  ·cases h
 | .agg cs,ls,r,h=>by
  unfold lend at h
  split at h
  ·rename_i he
   simp only[Wc] at h
   subst h
   exact Ky he
  ·cases h
 | .tup cs,ls,r,h=>by
  unfold lend at h
  split at h
  ·rename_i he
   simp only[Wc] at h
   subst h
   exact Ky he
  ·cases h
 | .ifc t d,ls,r,h=>by
  unfold lend at h
  split at h
  ·rename_i he
   simp only[Wc] at h
   subst h
   have:=lend_has he
   exact this
  ·cases h
 | .clo fn a b,ls,r,h=>by
  unfold lend at h
  split at h
  ·rename_i he
   split at h
   ·rename_i hf
    simp only[Wc] at h
    subst h
    exact Xbs (Ky he) (Ky hf)
   ·cases h
  ·cases h
 | .osl id ver z off len,ls,r,h=>by
  unfold lend at h
  split at h
  ·rename_i he
   simp only[Wc] at h
   subst h
   exact snap_has he
  ·cases h
 | .any,ls,r,h=>by
  unfold lend at h
  split at h
  ·rename_i he
   simp only[Wc] at h
   subst h
   exact snap_has he
  ·cases h
 | .v _,ls,r,h=>by
  unfold lend at h
  split at h
  ·rename_i he
   simp only[Wc] at h
   subst h
   exact snap_has he
  ·cases h
 | .nsl,ls,r,h=>by
  unfold lend at h
  split at h
  ·rename_i he
   simp only[Wc] at h
   subst h
   exact snap_has he
  ·cases h
 | .isl ..,ls,r,h=>by
  unfold lend at h
  split at h
  ·rename_i he
   simp only[Wc] at h
   subst h
   exact snap_has he
  ·cases h
 | .ipt ..,ls,r,h=>by
  unfold lend at h
  split at h
  ·rename_i he
   simp only[Wc] at h
   subst h
   exact snap_has he
  ·cases h
 | .fsl ..,ls,r,h=>by simp[lend,snap] at h
 | .fmp ..,ls,r,h=>by simp[lend,snap] at h
 | .omp ..,ls,r,h=>by simp[lend,snap] at h
def Ky:∀ {ds:List D} {ls:List Nat} {r},Y6 s ls ds=some r->Has s r.2.2.2
 | [],ls,r,h=>by
  simp only[Y6,Wc] at h
  subst h
  intro i hi;simp at hi
 | d::ds,ls,r,h=>by
  unfold Y6 at h
  split at h
  ·rename_i he
   split at h
   ·rename_i hf
    simp only[Wc] at h
    subst h
    exact Xbs (lend_has he) (Ky hf)
   ·cases h
  ·cases h
end
def Xfe (hs:HLe s s'):∀ {ids:List Nat} {r},Kg s ids=some r->Kg s' ids=some r
 | [],r,h=>by simpa only[Kg] using h
 | id::ids,r,h=>by
  unfold Kg at h ⊢
  split at h
  ·rename_i he
   rw[hs _ _ he]
   simp only
   split at h
   ·rename_i h1 h2
    rw[Jd hs h1,Xfe hs h2];exact h
   ·cases h
  ·cases h
def Xc9:∀ {ids:List Nat} {r},Kg s ids=some r->Has s r.2.2
 | [],r,h=>by
  simp only[Kg,Wc] at h
  subst h
  intro i hi;simp at hi
 | id::ids,r,h=>by
  unfold Kg at h
  split at h
  ·split at h
   ·rename_i h1 h2
    simp only[Wc] at h
    subst h
    exact Xbs (Kx h1) (Xc9 h2)
   ·cases h
  ·cases h
def Xff (hs:HLe s s') {args:List D} {r} (h:YS s args=some r):YS s' args=some r:=by
 unfold YS at h ⊢
 split at h
 ·rename_i h1
  rw[Ji hs h1]
  simp only
  split at h
  ·rename_i h2
   rw[Xfe hs h2];exact h
  ·cases h
 ·cases h
def Xd5 {args:List D} {cc:Prop} {as:List D} {ids:List Nat} {obs:List Ob} {fz:List Nat} (h:YS s args=some (cc,as,ids,obs,fz)):Has s ids/\Has s fz:=by
 unfold YS at h
 split at h
 ·rename_i hl
  split at h
  ·rename_i ho
   simp only[Wc,Wi] at h
   obtain ⟨_,_,rfl,_,rfl⟩:=h
   refine ⟨λ id hid=>?_,Xbs (Ky hl) (Xc9 ho)⟩
   obtain ⟨v,E,z,cs,fz,hs⟩:=(YM hl ⟨by simp,by simp⟩).2 id hid
   exact ⟨_,hs⟩
  ·cases h
 ·cases h
def Xfg (hs:HLe s s'):∀ {ids:List Nat} {obs:List Ob},Has s ids->Zo s' ids obs=Zo s ids obs
 | [],obs,_=>by cases obs<;>rfl
 | id::ids,[],_=>rfl
 | id::ids,o::obs,h=>by
  obtain ⟨x,hx⟩:=h id (by simp)
  obtain ⟨v,ob⟩:=x
  have ih:=Xfg hs (ids:=ids) (obs:=obs) λ i hi=>h i (W4 _ hi)
  simp only[Zo,hx,hs _ _ hx,ih]
def Xpv (hs:HLe s s') {ids fz:List Nat} (h1:Has s ids) (h2:Has s fz) (r:D) (ls:List Ob) (ver n:Nat):aft s' ids fz r ls ver n=aft s ids fz r ls ver n:=by
 unfold aft
 rw[V4 hs h2,Xfg hs h1]
def Xnh (mi:List Nat) (s:Heap):HLe (Y7 mi s) s:=by
 intro i x h
 unfold Y7 at h
 split at h
 ·cases h
 ·exact h
end
def RelD (P:Program) (C:Cx) (U:Nat->Prop) (st:St) (a:Act) (w:World):Prop :=
 a.defers=C.df/\a.tmps.size=st.n/\∃ M β,BLe C.b0 β/\(∀ x,Rep P M β (st.t x) (a.tmps.getD x undef))/\U8 P C st.s U M β w
section
variable {C:Cx} {st:St} {a:Act} {w:World} {U:Nat->Prop}
def RelD.put {w':World} {u:Up} {U':Nat->Prop} {M':Mem} {β':Loc} {M:Mem} {β:Loc} {d:D} {v:Value} {dst:Option Nat} {k':Nat} (h1:a.defers=C.df) (h2:a.tmps.size=st.n) (h0:BLe C.b0 β)
 (h3:∀ x,Rep P M β (st.t x) (a.tmps.getD x undef)) (hM:MLe M M') (hB:BLe β β') (I:U8 P C (app st.s u) U' M' β' w') (hv:Rep P M' β' d v):RelD P C U' (nx st (XL dst st.n) d u st.n k') (a.put dst v) w':=by
 cases dst with
 | none=>exact ⟨h1,h2,M',β',h0.trans hB,λ x=>(h3 x).mono hM hB,I⟩
 | some x =>
  by_cases hx:x<st.n
  ·simp only[XL,Wn hx]
   refine ⟨h1,by simpa [nx,Act.put] using h2,M',β',h0.trans hB,λ i=>?_,I⟩
   simp only[nx,upd,Act.put]
   by_cases hi:i=x
   ·subst hi
    rw[Wn rfl]
    have:i<a.tmps.size:=by omega
    simpa [this] using hv
   ·rw[Wm hi]
    have e:(a.tmps.setIfInBounds x v).getD i undef=a.tmps.getD i undef:=by
     simp[Ne.symm hi]
    rw[e]
    exact (h3 i).mono hM hB
  ·simp only[XL,Wm hx]
   refine ⟨h1,by simpa [nx,Act.put] using h2,M',β',h0.trans hB,λ i=>?_,I⟩
   have e:a.put (some x) v=a:=by
    simp only[Act.put]
    rw[Array.setIfInBounds_eq_of_size_le (by omega)]
   rw[e]
   exact (h3 i).mono hM hB
def RelD.drew (h:RelD P C U st a w) (k:Nat):RelD P C U st a { w with drawn:=k }:=by
 obtain ⟨h1,h2,M,β,h0,h3,I⟩:=h
 refine ⟨h1,h2,M,β,h0,h3,?_⟩
 constructor
 ·exact I.mem
 ·exact I.used
 ·intro id v ob hs
  obtain ⟨x,hx,ho⟩:=I.obs id v ob hs
  exact ⟨x,hx,ho.mono (MLe.refl _) (BLe.refl _) (λ _ _ _=>rfl) (λ _ _ _ _=>rfl)⟩
 ·exact I.own
 ·exact I.inj
 ·exact ⟨I.keep.os,I.keep.tape,I.keep.output,I.keep.size,I.keep.block⟩
 ·exact I.old
 ·exact I.le
 ·exact I.glob
def Xka {full:Array Oper} {k0:Nat} {e:En} {F:St->Prop} {K:AW} {Q:Exit->AW} (hr:RelD P C U st a w) (hv:¬ U (k0+e.i)) (h:Jf P C full k0 e st F)
 (hK:∀ st' a' w',RelD P C (λ x=>U x\/x=k0+e.i) st' a' w'->F st'->K a' w'):if Region.wanted e.o (yielded full a.tmps)=true then e.o.wp P a w K Q else K (a.put e.o.dst undef) w:=by
 obtain ⟨h1,h2,M,β,h0,h3,I⟩:=hr
 have h3m:∀ x,Rep P M β (ZS e.ms st.t x) (a.tmps.getD x undef):=λ x=>by
  unfold ZS
  split
  ·simp[Rep]
  ·exact h3 x
 have hev:=Xd0 I h3m
 have hle:=Xnh e.mi st.s
 have hskip:F (nx st (XL e.o.dst st.n) (.v undef) [] st.n st.k)->K (a.put e.o.dst undef) w:=λ hF =>
  hK _ _ _ (RelD.put (u:=[]) h1 h2 h0 h3 (MLe.refl _) (BLe.refl _) (I.mono λ _ h=>.inl h) (by simp[Rep,XaP])) hF
 have hrun:doK P C e (k0+e.i) (Y7 e.mi st.s) (kdO P C (k0+e.i) e.o (ZS e.ms st.t) (Y7 e.mi st.s)) (λ d u=>F (nx st (XL e.o.dst st.n) d u st.n st.k))->e.o.wp P a w K Q:=by
  intro h
  unfold kdO at h
  split at h
  ·rename_i c hc
   have hop:e.o.op=.call c:=by
    unfold Jy at hc
    split at hc
    ·rename_i c' e
     split at hc
     ·simp only[Wc] at hc;subst hc;exact e
     ·cases hc
    ·cases hc
   unfold kd3 at h
   split at h
   ·rename_i f args hcal
    unfold kd2 at h
    split at h
    ·rename_i cc as ids obs fz hca
     obtain ⟨hcc,eargs,R,hfit,hA,_,hKR⟩:=h
     unfold callee at hcal
     split at hcal
     ·rename_i x hx
      split at hcal
      ·rename_i g first caps hclo
       simp only[Wc,Wi] at hcal
       obtain ⟨rfl,rfl⟩:=hcal
       have hfx:=hev x
       rw[hclo] at hfx
       simp only[Rep] at hfx
       obtain ⟨va,vb,hfx,ha,hb⟩:=hfx
       obtain ⟨⟨fn,hf,hb',hn⟩,_⟩:=id hA
       unfold Oper.wp
       rw[XaQ hop hx hfx hf hb' hn w]
       rw[Oper.upon_enter]
       have hargs:RepL P M β (first++(c.args.toList.map (ev (ZS e.ms st.t) C.G)++caps)) (va++(c.args.toList.map a.eval++vb)) :=
        ha.append ((RepL.map hev _).append hb)
       obtain ⟨hh1,hh2⟩:=Xd5 hca
       have hca':=Xff hle hca
       refine (Xho I (ver:=k0+e.i) hv hargs hca' hcc hfit hA (64*(C.off+e.o.dst.getD 0))).mono ?_
       rintro e' w' ⟨v,r,ls,M',β',rfl,hR,I',hv',hM,hB⟩
       have hbox:∀ id∈ids,∃ v o,st.s id=some (v,o):=λ id hid=>by
        obtain ⟨x,hx⟩:=hh1 id hid
        exact ⟨x.1,x.2,hle _ _ hx⟩
       obtain ⟨e1,e2⟩:=XjW st.s ids fz r ls (k0+e.i) (64*(C.off+e.o.dst.getD 0)) hbox
       rw[← e1] at hv'
       rw[← e2] at I'
       have ea:=Xpv hle hh1 hh2 r ls (k0+e.i) (64*(C.off+e.o.dst.getD 0))
       rw[ea] at hv' I'
       exact hK _ _ _ (RelD.put h1 h2 h0 h3 hM hB I' hv') (hKR r ls hR).2
      ·cases hcal
     ·cases hcal
    ·obtain ⟨eargs,R,hro,hA,_,hKR⟩:=h
     unfold callee at hcal
     split at hcal
     ·rename_i x hx
      split at hcal
      ·rename_i g first caps hclo
       simp only[Wc,Wi] at hcal
       obtain ⟨rfl,rfl⟩:=hcal
       have hfx:=hev x
       rw[hclo] at hfx
       simp only[Rep] at hfx
       obtain ⟨va,vb,hfx,ha,hb⟩:=hfx
       obtain ⟨⟨fn,hf,hb',hn⟩,_⟩:=id hA
       unfold Oper.wp
       rw[XaQ hop hx hfx hf hb' hn w]
       rw[Oper.upon_enter]
       have hargs:RepL P M β (first++(c.args.toList.map (ev (ZS e.ms st.t) C.G)++caps)) (va++(c.args.toList.map a.eval++vb)) :=
        ha.append ((RepL.map hev _).append hb)
       obtain ⟨M1,hM1,hm1,hargs⟩:=hro st.s U M β w _ hle I hargs
       refine (XmV I hM1 hm1 hargs hA (λ r ls h=>(hKR r ls h).1)).mono ?_
       rintro e' w' ⟨v,r,ls,rfl,hR,I',hv'⟩
       exact hK _ _ _ (RelD.put (u:=[]) h1 h2 h0 h3 (MLe.refl _) (BLe.refl _) (I'.mono λ _ h=>.inl h) hv') (hKR r ls hR).2
      ·cases hcal
     ·cases hcal
   ·exact h.elim
  ·unfold kd1 at h
   split at h
   ·rename_i c d u hop
    obtain ⟨hc,_,hF⟩:=h
    have:=XjV I (ver:=k0+e.i) hv { e.o with dst:=Xe1 C.off e.o.dst } a.eval (ev (ZS e.ms st.t) C.G) hev (λ _=>rfl) (Xph hle hop) hc
    obtain ⟨M',β',w',v,hres,I',hv',hM,hB⟩:=this
    rw[Xe4] at hres
    have hrel:RelD P C (λ x=>U x\/x=k0+e.i) (nx st (XL e.o.dst st.n) d u st.n st.k) (a.put e.o.dst v) w':=RelD.put h1 h2 h0 h3 hM hB I' hv'
    unfold Oper.wp
    rcases hres with hres | ⟨hres,rfl⟩
    ·rw[hres];exact hK _ _ _ hrel hF
    ·rw[hres];exact hK _ _ _ hrel hF
   ·exact h.elim
 unfold Jf kdE at h
 split at h
 ·rename_i hg
  have hw:Region.wanted e.o (yielded full a.tmps)=true:=by unfold Region.wanted;rw[hg]
  rw[Wn hw]
  exact hrun h
 ·rename_i g want hg
  split at h
  ·rename_i r hdst
   unfold kdG at h
   split at h
   ·rename_i b hb
    have hval:a.tmps.getD r undef=.bool b:=by
     have:=h3m r
     rw[hb] at this
     simp only[Rep] at this
     exact this.1
    have hy:yielded full a.tmps g=some b:=by
     unfold yielded
     rw[hdst]
     simp only[Ic]
     by_cases hs:r<a.tmps.size
     ·have:a.tmps[r]? = some (.bool b):=by
       simp[hs] at hval
       simp[hs,hval]
      rw[this]
     ·simp[hs,undef] at hval
    have hw:Region.wanted e.o (yielded full a.tmps)=(b==want):=by
     unfold Region.wanted;rw[hg];simp only;rw[hy];rfl
    rw[hw]
    cases hbw:(b==want) with
    | true =>
     rw[hbw] at h
     rw[Wn rfl]
     exact hrun h
    | false =>
     rw[hbw] at h
     rw[Wm (by simp)]
     exact hskip h.2.2
   ·rename_i vs hb
    have hval:a.tmps.getD r undef=.tuple vs:=by
     have:=h3m r
     rw[hb] at this
     simp only[Rep] at this
     exact this.1
    have hy:yielded full a.tmps g=none:=by
     unfold yielded
     rw[hdst]
     simp only[Ic]
     by_cases hs:r<a.tmps.size
     ·have:a.tmps[r]? = some (.tuple vs):=by
       simp[hs] at hval
       simp[hs,hval]
      rw[this]
     ·rw[Ib (Nat.le_of_not_lt hs)]
    have hw:Region.wanted e.o (yielded full a.tmps)=false:=by
     unfold Region.wanted;rw[hg];simp only;rw[hy];rfl
    rw[hw,Wm (by simp)]
    exact hskip h.2.2
   ·exact h.elim
  ·exact h.elim
end
variable {P:Program}
def XoU (e:En):Bool:=e.o.after.toList.all λ d=>!Region.binds .any d||d.on<e.i
def Xpw (es:List En) (e:En):Bool:=e.anc.all λ x=>e.o.after.toList.any λ d=>Region.binds .any d&&(d.on==x||((es[d.on]?).map (·.anc.contains x)).getD false)
def XoV (es:List En) (j:En):Bool:=es.all λ e=>!(e.i<j.i)||j.anc.contains e.i||XbZ e j
def XiO (es:List En):Bool:=es.all XoU&&es.all (Xpw es)&&es.all (XoV es)
def J0 (es:List En) (listed:Array Bool):List En:=es.filter λ e=>!listed.getD e.i true
section
variable {C:Cx} {ops:Array Oper} {k0:Nat} {es:List En} {Q:Exit->AW} {K:St->Prop}
def UD (k0:Nat) (listed:Array Bool):Nat->Prop:=λ v=>v<k0\/∃ i,listed.getD i false=true/\v=k0+i
def Xkb (ho:es.map (·.o)=ops.toList) (hi:es.map (·.i)=List.range es.length) {j:Nat} {o:Oper} (h:ops[j]? = some o):∃ e,e∈es/\es[j]? = some e/\e.i=j/\e.o=o:=by
 have h1:(es.map (·.o))[j]? = some o:=by rw[ho];simpa using h
 simp only[IL,W7] at h1
 obtain ⟨e,he,rfl⟩:=h1
 refine ⟨e,Ua he,he,?_,rfl⟩
 have h2:(es.map (·.i))[j]? = some e.i:=by simp[he]
 rw[hi] at h2
 have hj:j<es.length:=by
  rcases Uw j es.length with h' | h'
  ·exact h'
  ·rw[WZ h'] at he;cases he
 rw[Ix hj] at h2
 simpa using h2.symm
def Xfh (hi:es.map (·.i)=List.range es.length) {e:En} (he:e∈es):e.i<es.length/\es[e.i]? = some e:=by
 obtain ⟨j,hj,rfl⟩:=WU he
 have h2:(es.map (·.i))[j]? = some es[j].i:=by simp[hj]
 rw[hi,Ix hj] at h2
 simp only[Wc] at h2
 rw[← h2]
 exact ⟨hj,by simp[hj]⟩
def XiP (hi:es.map (·.i)=List.range es.length):es.Pairwise λ a b=>a.i<b.i:=by
 have:=List.pairwise_lt_range (n:=es.length)
 rw[← hi,List.pairwise_map] at this
 exact this
def XsO (ho:es.map (·.o)=ops.toList) (hi:es.map (·.i)=List.range es.length) (hc:XiO es=true)
 (hQ:∀ st a w,RelD P C (λ v=>v<k0+es.length) st a w->K st->Q .normal a w) :
 ∀ (fuel:Nat) (listed:Array Bool) (a:Act) (w:World) (st:St),(J0 es listed).length=fuel->listed.size=es.length->RelD P C (UD k0 listed) st a w ->
  (∀ e∈es,listed.getD e.i false=true->∀ x∈e.anc,listed.getD x false=true)->dr P C ops k0 (J0 es listed) st K->wpAny P .any ops Q fuel listed a w:=by
 unfold XiO at hc
 simp only[Ww,W3] at hc
 obtain ⟨⟨hedge,hanc⟩,hpair⟩:=hc
 have hsort:=XiP hi
 have hlen:es.length=ops.size:=by
  have:=congrArg List.length ho
  simpa using this
 have getD_flip:∀ (listed:Array Bool) (x:Nat),x<listed.size->(listed.getD x true=listed.getD x false):=by
  intro listed x hx
  simp[hx]
 intro fuel
 induction fuel with
 | zero =>
  intro listed a w st hfuel hsz hr hcl hd
  have hnil:J0 es listed=[]:=WQ hfuel
  refine ⟨?_,?_⟩
  ·cases hrd:Region.ready .any ops listed with
   | nil=>rfl
   | cons j js =>
    have hj:j∈Region.ready .any ops listed:=by rw[hrd];simp
    obtain ⟨hun,o,hoj,_⟩:=mem_ready.1 hj
    obtain ⟨e,he,_,hei,_⟩:=Xkb ho hi hoj
    have:e∈J0 es listed:=UJ.2 ⟨he,by rw[hei,hun];rfl⟩
    rw[hnil] at this;cases this
  ·rw[hnil] at hd
   refine hQ st a w ?_ hd
   obtain ⟨h1,h2,M,β,h0,h3,I⟩:=hr
   refine ⟨h1,h2,M,β,h0,h3,I.mono λ v hv=>?_⟩
   rcases hv with hv | ⟨i,hl,rfl⟩
   ·exact Nat.lt_of_lt_of_le hv (Nat.le_add_right _ _)
   ·have:i<listed.size:=by
     rcases Uw i listed.size with h' | h'
     ·exact h'
     ·simp[Ib h'] at hl
    show k0+i<k0+es.length
    omega
 | succ fuel ih =>
  intro listed a w st hfuel hsz hr hcl hd
  refine ⟨λ hnil=>?_,λ j hj=>?_⟩
  ·
   exfalso
   cases hrem:J0 es listed with
   | nil=>rw[hrem] at hfuel;simp at hfuel
   | cons e l =>
    have hmem:e∈J0 es listed:=by rw[hrem];simp
    obtain ⟨he,hun⟩:=UJ.1 hmem
    have hsr:(J0 es listed).Pairwise λ a b=>a.i<b.i:=hsort.filter _
    rw[hrem,List.pairwise_cons] at hsr
    obtain ⟨hlt,hget⟩:=Xfh hi he
    have hoe:ops[e.i]? = some e.o:=by
     have:(es.map (·.o))[e.i]? = some e.o:=by simp[hget]
     rw[ho] at this
     simpa using this
    have:e.i∈Region.ready .any ops listed:=by
     refine mem_ready.2 ⟨by simpa using hun,e.o,hoe,λ d hd hb=>?_⟩
     have h1:=hedge e he
     unfold XoU at h1
     simp only[W3] at h1
     have h2:=h1 d (by simpa using hd)
     simp only[hb,Ws,UZ,decide_eq_true_eq] at h2
     have hdl:d.on<es.length:=by omega
     cases hv:listed.getD d.on false with
     | true=>rfl
     | false =>
      have hmem2:es[d.on]∈J0 es listed:=by
       refine UJ.2 ⟨WW _,?_⟩
       have e1:es[d.on].i=d.on:=by
        have h2:(es.map (·.i))[d.on]? = some es[d.on].i:=by simp[hdl]
        rw[hi,Ix hdl] at h2
        simpa using h2.symm
       rw[e1,getD_flip _ _ (by omega),hv];rfl
      have e1:es[d.on].i=d.on:=by
       have h2:(es.map (·.i))[d.on]? = some es[d.on].i:=by simp[hdl]
       rw[hi,Ix hdl] at h2
       simpa using h2.symm
      rw[hrem] at hmem2
      rcases UQ.1 hmem2 with h | h
      ·rw[h] at e1;omega
      ·have:=hsr.1 _ h
       omega
    rw[hnil] at this;cases this
  ·obtain ⟨hun,o,hoj,hall⟩:=mem_ready.1 hj
   obtain ⟨e,he,hget,hei,rfl⟩:=Xkb ho hi hoj
   have hmem:e∈J0 es listed:=UJ.2 ⟨he,by rw[hei,hun];rfl⟩
   obtain ⟨l1,l2,hsplit⟩:=List.append_of_mem hmem
   have hsr:(J0 es listed).Pairwise λ a b=>a.i<b.i:=hsort.filter _
   rw[hsplit] at hsr
   obtain ⟨hs1,hs2,hs3⟩:=I9.1 hsr
   rw[List.pairwise_cons] at hs2
   have hjsz:j<listed.size:=by
    rcases Uw j listed.size with h' | h'
    ·exact h'
    ·simp[Ib h'] at hun
   have hap:∀ x∈l1,XbZ x e=true:=by
    intro x hx
    have hxl:x∈J0 es listed:=by rw[hsplit];exact Uo _ hx
    obtain ⟨hxe,hxun⟩:=UJ.1 hxl
    have hlt:x.i<e.i:=hs3 x hx e (by simp)
    have h1:=hpair e he
    unfold XoV at h1
    simp only[W3] at h1
    have h2:=h1 x hxe
    simp only[hlt,decide_true,Ws,UZ,Ip] at h2
    rcases h2 with h2 | h2
    ·exfalso
     have h3:=hanc e he
     unfold Xpw at h3
     simp only[W3] at h3
     have h4:=h3 x.i (by simpa using h2)
     simp only[Ik,Ww,Ip,beq_iff_eq] at h4
     obtain ⟨d,hd,hb,hor⟩:=h4
     have hl:listed.getD d.on false=true:=hall d (by simpa using hd) hb
     have hxl:listed.getD x.i false=true:=by
      rcases hor with hor | hor
      ·rw[← hor];exact hl
      ·cases hg:es[d.on]? with
       | none=>rw[hg] at hor;simp at hor
       | some y =>
        rw[hg] at hor
        have hy:=Ua hg
        have hyi:y.i=d.on:=by
         have hdl:d.on<es.length:=by
          rcases Uw d.on es.length with h' | h'
          ·exact h'
          ·rw[WZ h'] at hg;cases hg
         have h2:(es.map (·.i))[d.on]? = some y.i:=by simp[hg]
         rw[hi,Ix hdl] at h2
         simpa using h2.symm
        exact hcl y hy (by rw[hyi];exact hl) x.i (by simpa using hor)
     have:x.i<listed.size:=by rw[hsz];exact (Xfh hi hxe).1
     rw[getD_flip _ _ this,hxl] at hxun
     cases hxun
    ·exact h2
   rw[hsplit] at hd
   have hst:=Xbd hap hd
   have hrem':J0 es (listed.setIfInBounds j true)=l1++l2:=by
    have h1:J0 es (listed.setIfInBounds j true)=(J0 es listed).filter λ x=>x.i != j:=by
     unfold J0
     rw[List.filter_filter]
     refine List.filter_congr λ x hx=>?_
     by_cases hxj:x.i=j
     ·rw[hxj]
      simp[hjsz]
     ·rw[getD_set_ne true (Ne.symm hxj)]
      simp[hxj]
    rw[h1,hsplit,List.filter_append,Od]
    have h2:(e.i != j)=false:=by simp[hei]
    rw[h2]
    have h3:l1.filter (λ x=>x.i != j)=l1:=IP.2 λ x hx=>by
     have:=hs3 x hx e (by simp)
     simp;omega
    have h4:l2.filter (λ x=>x.i != j)=l2:=IP.2 λ x hx=>by
     have:=hs2.1 x hx
     simp;omega
    rw[h3,h4]
    simp
   have hnotU:¬ UD k0 listed (k0+e.i):=by
    rintro (h | ⟨i,hl,h⟩)
    ·omega
    ·have:i=j:=by omega
     subst this
     rw[getD_flip _ _ hjsz,hl] at hun
     cases hun
   have hone:=Xka (Q:=Q) (K:=wpAny P .any ops Q fuel (listed.setIfInBounds j true)) hr hnotU hst λ st' a' w' hr' hF=>by
    refine ih (listed.setIfInBounds j true) a' w' st' ?_ (by simpa using hsz) ?_ ?_ (by rw[hrem'];exact hF)
    ·rw[hrem']
     rw[hsplit] at hfuel
     simp only[Wp,Uc] at hfuel ⊢
     omega
    ·obtain ⟨h1,h2,M,β,h0,h3,I⟩:=hr'
     refine ⟨h1,h2,M,β,h0,h3,I.mono λ v hv=>?_⟩
     rcases hv with (hv | ⟨i,hl,rfl⟩) | rfl
     ·exact .inl hv
     ·exact .inr ⟨i,getD_set_true hl,rfl⟩
     ·exact .inr ⟨j,by simp[hjsz],by rw[hei]⟩
    ·intro y hy hl x hx
     by_cases hyj:y.i=j
     ·have hye:y=e:=by
       have h1:=(Xfh hi hy).2
       rw[hyj,hget] at h1
       simpa using h1.symm
      subst hye
      refine getD_set_true ?_
      have h3:=hanc y hy
      unfold Xpw at h3
      simp only[W3] at h3
      have h4:=h3 x hx
      simp only[Ik,Ww,Ip,beq_iff_eq] at h4
      obtain ⟨d,hd,hb,hor⟩:=h4
      have hl:listed.getD d.on false=true:=hall d (by simpa using hd) hb
      rcases hor with rfl | hor
      ·exact hl
      ·cases hg:es[d.on]? with
       | none=>rw[hg] at hor;simp at hor
       | some z =>
        rw[hg] at hor
        have hz:=Ua hg
        have hzi:z.i=d.on:=by
         have hdl:d.on<es.length:=by
          rcases Uw d.on es.length with h' | h'
          ·exact h'
          ·rw[WZ h'] at hg;cases hg
         have h2:(es.map (·.i))[d.on]? = some z.i:=by simp[hg]
         rw[hi,Ix hdl] at h2
         simpa using h2.symm
        exact hcl z hz (by rw[hzi];exact hl) x (by simpa using hor)
     ·have e1:(listed.setIfInBounds j true).getD y.i false=listed.getD y.i false:=by
       simp[Array.getElem?_setIfInBounds_ne (Ne.symm hyj)]
      rw[e1] at hl
      exact getD_set_true (hcl y hy hl x hx)
   unfold wpOp
   rw[hoj]
   simp only
   split
   ·rename_i hw
    rw[Wn hw] at hone
    exact .inl hone
   ·rename_i hw
    rw[Wm hw] at hone
    exact hone
def DrawnG.of {R:St->Prop} {id:Nat} {k:List It} {st:St} {l:List Oper} (hm:P.follows .mixedOrders=true) (es:List En) (n:Nat) (ho:es.map (·.o)=l) (hi:es.map (·.i)=List.range es.length) (hc:XiO es=true)
 (h:dr P C ⟨l⟩ st.k es st λ st'=>run P C R n k ⟨st'.t,st'.s,st'.n,st.k+es.length⟩) (t:Prf (⟨l⟩:Array Oper)) (hrd:C.rd=none:=by rfl):DrawnG P C R id ⟨l⟩ k st t:=by
 intro a w hr
 rw[show fz C.rd=Fence.wide by rw[hrd];rfl]
 refine wpIn_wide.2 (wp_region_any hm ?_)
 have hlen:es.length=l.length:=by rw[← ho];simp
 have hrd:RelD P C (UD st.k (Array.replicate (⟨l⟩:Array Oper).size false)) st a { w with drawn:=w.drawn+1 }:=by
  refine RelD.drew ?_ _
  obtain ⟨h1,h2,M,β,h0,h3,I⟩:=hr
  exact ⟨h1,h2,M,β,h0,h3,I.mono λ v hv=>.inl hv⟩
 have hall:J0 es (Array.replicate (⟨l⟩:Array Oper).size false)=es:=by
  unfold J0
  refine IP.2 λ e he=>?_
  have:=(Xfh hi he).1
  simp[Array.getElem?_replicate,hlen▸this]
 refine XsO (es:=es) (k0:=st.k) ho hi hc ?_ _ _ a _ st (by rw[hall,hlen];simp) (by simp[hlen]) hrd (λ e he hl=>?_) (by rw[hall];exact h)
 ·rintro st' a' w' ⟨h1,h2,M,β,h0,h3,I⟩ hK
  exact Yu n k (st:=⟨st'.t,st'.s,st'.n,st.k+es.length⟩) ⟨h1,h2,M,β,h0,h3,I⟩ hK
 ·have:=(Xfh hi he).1
  simp[Array.getElem?_replicate,hlen▸this] at hl
end
variable {P:Program}
def XqW:Nat->List Oper->List (List Nat×List Nat×List Nat×List Nat)->List En
 | i,o::l,(a,w,m,k)::x=>⟨i,o,a,w,m,k⟩::XqW (i+1) l x
 | _,_,_=>[]
def CallD (P:Program) (G:Nat->Option (List D)) (f:FuncId) (args:List D) (obs:List Ob) (K:D->List Ob->Prop) [Tag (G,K)] (_:Prf args):Prop :=
 ∃ eargs R,ZD args eargs/\YY P G f eargs obs R/\(∃ r ls,R r ls)/\∀ r ls,R r ls->K r ls
def doT (P:Program) (C:Cx) (e:En) (ver:Nat) (s:Heap) (x:Option Kd) (st:St) (F:St->Prop) [Tag (C,e,s,st,F)] (_:Prf x):Prop :=
 doK P C e ver s x λ d u=>F (nx st (XL e.o.dst st.n) d u st.n st.k)
def XoW (P:Program) (C:Cx) (s:Heap) (f:FuncId) (args:List D) (K:D->Prop) [Tag (C,s,K)] (_:Prf args):Prop :=
 ∃ eargs R,RoA P C s args eargs/\YY P C.G f eargs [] R/\(∃ r ls,R r ls)/\∀ r ls,R r ls->scal r=true/\K r
section
variable {C:Cx} {full:Array Oper} {k0:Nat} {st:St} {K F:St->Prop} {e:En} {es:List En} {ver:Nat} {s:Heap}
def Xpx:dr P C full k0 [] st K=K st:=propext Iff.rfl
def Xni:dr P C full k0 (e::es) st K=doT P C e (k0+e.i) (Y7 e.mi st.s) (kdE P C full (k0+e.i) e.o (ZS e.ms st.t) (Y7 e.mi st.s)) st (λ st=>dr P C full k0 es st K) trivial:=propext Iff.rfl
def Xnj {c:Prop} {d:D} {u:Up} {t':Prf (some (Kd.det c d u))}:doT P C e ver s (some (.det c d u)) st F t'=(c/\Kh u e.ws/\Xe2 (XL e.o.dst st.n) st.n st.k (λ dst n k=>F (nx st dst d u n k)) trivial):=propext Iff.rfl
def Xkc {c:Prop} {f:FuncId} {as:List D} {ids:List Nat} {obs:List Ob} {fz:List Nat} {t':Prf (some (Kd.call c f as ids obs fz))}:doT P C e ver s (some (.call c f as ids obs fz)) st F t'=(c/\CallD P C.G f as obs (λ r ls =>
 Xpi (aft s ids fz r ls ver (64*(C.off+e.o.dst.getD 0))) (XL e.o.dst st.n) st.n st.k (λ dst d u n k=>Kh u e.ws/\F (nx st dst d u n k)) trivial) trivial):=propext Iff.rfl
def Xpy {f:FuncId} {args:List D} {t':Prf (some (Kd.ro f args))}:doT P C e ver s (some (.ro f args)) st F t'=XoW P C s f args (λ r=>Xe2 (XL e.o.dst st.n) st.n st.k (λ dst n k=>F (nx st dst r [] n k)) trivial) trivial:=propext Iff.rfl
def Xpz {r:Nat} {x:Option Kd}:kdG (.v (.bool true)) r true x=x:=rfl
def XpA {r:Nat} {x:Option Kd}:kdG (.v (.bool false)) r false x=x:=rfl
def XpB {r:Nat} {x:Option Kd}:kdG (.v (.bool true)) r false x=some (.det True (.v undef) []):=rfl
def XpC {r:Nat} {x:Option Kd}:kdG (.v (.bool false)) r true x=some (.det True (.v undef) []):=rfl
def XqX {r:Nat} {want:Bool} {x:Option Kd} {vs:Array Value}:kdG (.v (.tuple vs)) r want x=some (.det True (.v undef) []):=rfl
def Xkd {dst:Option Nat} {op:Op} {ty:Nat} {pos:String} {af:Array Edge} {t:Nat->D}:kdE P C full ver ⟨dst,op,ty,pos,af,none⟩ t s=kdO P C ver ⟨dst,op,ty,pos,af,none⟩ t s:=rfl
def kdF (r:Option Nat) (t:Nat->D) (want:Bool) (x:Option Kd):Option Kd:=match r with
 | some r=>kdG (t r) r want x
 | none=>none
def Xke {r:Nat} {t:Nat->D} {want:Bool} {x:Option Kd}:kdF (some r) t want x=kdG (t r) r want x:=rfl
def Xkf {dst:Option Nat} {op:Op} {ty:Nat} {pos:String} {af:Array Edge} {t:Nat->D} {g:Nat} {want:Bool}:kdE P C full ver ⟨dst,op,ty,pos,af,some (g,want)⟩ t s=kdF ((full[g]?).bind (·.dst)) t want (kdO P C ver ⟨dst,op,ty,pos,af,some (g,want)⟩ t s):=by
 simp only[kdE,kdF]
 split<;>rename_i h<;>rw[h]
def kdI (P:Program) (C:Cx) (x:Option Call) (ver:Nat) (o:Oper) (t:Nat->D) (s:Heap):Option Kd:=match x with
 | some c=>kd3 s (callee (ev t C.G) c)
 | none=>kd1 (opF P (Xe1 C.off o.dst) ver (ev t C.G) s o.op)
def XpD {o:Oper} {t:Nat->D}:kdO P C ver o t s=kdI P C (Jy o.op) ver o t s:=by
 simp only[kdO,kdI]<;>(split<;>rename_i h<;>rw[h])
def Xkg {o:Oper} {t:Nat->D}:kdI P C none ver o t s=kd1 (opF P (Xe1 C.off o.dst) ver (ev t C.G) s o.op):=rfl
def Xkh {o:Oper} {t:Nat->D} {c:Call}:kdI P C (some c) ver o t s=kd3 s (callee (ev t C.G) c):=rfl
def Xki {c:Prop} {d:D} {u:Up}:kd1 (some (c,d,u))=some (.det c d u):=rfl
def Xkj {f:Nat} {args:List D} {cc:Prop} {as:List D} {ids:List Nat} {obs:List Ob} {fz:List Nat}:kd2 f args (some (cc,as,ids,obs,fz))=some (.call cc f as ids obs fz):=rfl
def Xkk {f:Nat} {args:List D}:kd2 f args none=some (.ro f args):=rfl
def Xkl {f:Nat} {args:List D}:kd3 s (some (f,args))=kd2 f args (YS s args):=rfl
def XiQ {ws:List Nat}:Kh [] ws=True:=by simp[Kh]
def XgC {i v:Nat} {o:Ob} {u:Up} {ws:List Nat}:Kh ((i,v,o)::u) ws=(i∈ws/\Kh u ws):=by simp[Kh]
def Xkm {ms:List Nat} {t:Nat->D} {x:Nat}:ZS ms t x=if ms.contains x then .any else t x:=rfl
def Xkn {ms:List Nat} {x:Nat}:Y7 ms s x=if ms.contains x then none else s x:=rfl
def Xt {b:Bool} {r:Nat} {x:Option Kd} (hr:st.t r=.v (.bool b)) (h1:b=true->doT P C e ver s x (Vy st r (.v (.bool true))) F trivial) (h2:b=false->doT P C e ver s (some (.det True (.v undef) [])) (Vy st r (.v (.bool false))) F trivial) (t':Prf (kdG (.v (.bool b)) r true x)):doT P C e ver s (kdG (.v (.bool b)) r true x) st F t':=by
 cases b
 ·have:=h2 rfl;rw[YW hr] at this;exact this
 ·have:=h1 rfl;rw[YW hr] at this;exact this
def Xu {b:Bool} {r:Nat} {x:Option Kd} (hr:st.t r=.v (.bool b)) (h1:b=true->doT P C e ver s (some (.det True (.v undef) [])) (Vy st r (.v (.bool true))) F trivial) (h2:b=false->doT P C e ver s x (Vy st r (.v (.bool false))) F trivial) (t':Prf (kdG (.v (.bool b)) r false x)):doT P C e ver s (kdG (.v (.bool b)) r false x) st F t':=by
 cases b
 ·have:=h2 rfl;rw[YW hr] at this;exact this
 ·have:=h1 rfl;rw[YW hr] at this;exact this
def CallD.of {G:Nat->Option (List D)} {f:FuncId} {args eargs:List D} {obs:List Ob} {R:D->List Ob->Prop} {K:D->List Ob->Prop} (h:YY P G f eargs obs R) (hf:ZD args eargs) (hne:∃ r ls,R r ls) (hK:∀ r ls,R r ls->K r ls) (t':Prf args):CallD P G f args obs K t' :=
 ⟨eargs,R,hf,h,hne,hK⟩
end
def Xnk {ls:List Ob}:KF ls 1000000=(ls[0]?).map (λ o=>(0,o)):=KH (j:=0)
def Xnl {ls:List Ob}:KF ls 1000001=(ls[1]?).map (λ o=>(0,o)):=KH (j:=1)
def Xnm {ls:List Ob}:KF ls 1000002=(ls[2]?).map (λ o=>(0,o)):=KH (j:=2)
def Xnn {ls:List Ob}:KF ls 1000003=(ls[3]?).map (λ o=>(0,o)):=KH (j:=3)
def Xno {ls:List Ob}:KF ls 1000004=(ls[4]?).map (λ o=>(0,o)):=KH (j:=4)
def Xnp {ls:List Ob}:KF ls 1000005=(ls[5]?).map (λ o=>(0,o)):=KH (j:=5)
attribute [go_sem] LB Xnk Xnl Xnm Xnn Xno Xnp
attribute [go_sem ↓] Xpx Xni Xkd Xkf XpD
attribute [go_sem] Xnj Xkc Xpy Xkk Xpz XpA XpB XpC XqX Xke Xkg Xkh Xki Xkj Xkl XiQ XgC Xkm Xkn XqW List.contains_cons List.contains_nil Bool.or_false Bool.or_true UZ IY
attribute [go_sem ↓] Xm0 XjX Xm1 XjY Xpj XjZ Xm2 Xj0 XiE Xj1 XiF XiG Xm3 Xj2 Xgv XiH Xe7 Xe8 XiM
attribute [go_sem] Xe9 XiI XiJ XiK XiL Xj3 Xm4 Xm5 Xgw Xj4 Xgx Xgy Xgz Xfa Xfb Xfc Xbr Xfd XqJ XqK XqL Xpk XqM XqN XqO XqP XqQ Xpl Xm7 XqR XmZ Xe1 Xm6 XsK XsL XsM XqH XqI XsN XqS XqT XqU XqV Xm8 Xj5 Xpm XiN KH Xpr Xps Xpt Xpu
attribute [go_sem] XbK Xgi XdO XcQ XbL XbM Xgj Option.isSome_some Option.isSome_none Option.isNone_some Option.isNone_none
attribute [go_sem] undef Jy callee opF ev ofV XjG okV XL JX XjH ivD ivO XdM Ja elems ZV XbI XbJ ZU D.cells D.one Value.oneCell' Ou.isAgg Ou.isIface Kj XcP XdP snap Z7 K9 VI XbH YS Y6 lend Kg pos Zo aft scal Jc JV imp K5 VM Xe6 XiD Xgu shut V5 VB XmX YO XdN Xn
attribute [go_sem] Uc UG WX Uz List.getElem?_cons_zero List.getElem?_cons_succ List.getElem?_nil UF Option.getD_none Ic Iv Option.map_none UU true_and and_true ne_eq false_implies Ui Ut W0 Wp WO Wx U5 We Wa Ws WS if_true if_false ite_true ite_false US List.isEmpty_nil List.isEmpty_cons I5 IF WA W5 Iw Ux Ia List.getD_cons_zero List.getD_cons_succ WP List.drop_succ_cons Iy List.take_zero List.head?_cons List.headD_cons U2 List.all_nil List.set_cons_zero List.set_cons_succ UQ List.not_mem_nil or_false or_true false_or not_false_eq_true not_true_eq_false Oa List.nodup_cons implies_true forall_const decide_true decide_false and_self Xpn Xpo Xm9 Xna Xnb Xnc Xnd Xne Xpp Xpq Xnf Xng Xht Xhu Xhv Xhw List.replicate_succ List.replicate_zero
variable {P:Program}
def Xnq (n:Int):IntKind.wrap .i64 n=wI n:=rfl
def Xnr (n:Int):IntKind.wrap .u64 n=wU n:=rfl
def Xns (n:Int):IntKind.wrap .u32 n=wW n:=rfl
section
variable {k k':IntKind} {a b:Int} {T:Nat} {p q:Bool} {xs ys:List D}
def Xko:Yy P .add T (.v (.int k a)) (.v (.int k b))=some (True,.v (.int k (k.wrap (a+b)))):=by simp[Yy,JM]
def Xkp:Yy P .sub T (.v (.int k a)) (.v (.int k b))=some (True,.v (.int k (k.wrap (a-b)))):=by simp[Yy,JM]
def Xkq:Yy P .mul T (.v (.int k a)) (.v (.int k b))=some (True,.v (.int k (k.wrap (a*b)))):=by simp[Yy,JM]
def Xkr:Yy P .quo T (.v (.int k a)) (.v (.int k b))=some (b≠0,.v (.int k (k.wrap (a.tdiv b)))):=by simp[Yy,JM]
def Xks:Yy P .rem T (.v (.int k a)) (.v (.int k b))=some (b≠0,.v (.int k (a.tmod b))):=by simp[Yy,JM]
def Xkt:Yy P .and T (.v (.int k a)) (.v (.int k b))=some (True,.v (.int k (YF k a b))):=by simp[Yy,JM,YF]
def Xnt:Yy P .or T (.v (.int k a)) (.v (.int k b))=some (True,.v (.int k (bOr k a b))):=by simp[Yy,JM,bOr]
def Xku:Yy P .xor T (.v (.int k a)) (.v (.int k b))=some (True,.v (.int k (XmC k a b))):=by simp[Yy,JM,XmC]
def Xfi:Yy P .andNot T (.v (.int k a)) (.v (.int k b))=some (True,.v (.int k (Xhg k a b))):=by simp[Yy,JM,Xhg]
def Xkv:Yy P .eql T (.v (.int k a)) (.v (.int k b))=some (True,.v (.bool (a==b))):=by simp[Yy,JM]
def Xkw:Yy P .neq T (.v (.int k a)) (.v (.int k b))=some (True,.v (.bool (a != b))):=by simp[Yy,JM]
def Xkx:Yy P .lss T (.v (.int k a)) (.v (.int k b))=some (True,.v (.bool (a<b))):=by simp[Yy,JM]
def Xky:Yy P .leq T (.v (.int k a)) (.v (.int k b))=some (True,.v (.bool (a<=b))):=by simp[Yy,JM]
def Xkz:Yy P .gtr T (.v (.int k a)) (.v (.int k b))=some (True,.v (.bool (a>b))):=by simp[Yy,JM]
def XkA:Yy P .geq T (.v (.int k a)) (.v (.int k b))=some (True,.v (.bool (a>=b))):=by simp[Yy,JM]
def XkB:Yy P .shl T (.v (.int k a)) (.v (.int k' b))=some (0<=b,.v (.int k (K4 k a b))):=by simp[Yy,K4]
def XkC:Yy P .shr T (.v (.int k a)) (.v (.int k' b))=some (0<=b,.v (.int k (Yf k a b))):=by simp[Yy,Yf]
def isB:Option Ou->Option (Prop×D)->Option (Prop×D)
 | some ⟨_,_,_,.bool⟩,x=>x
 | _,_=>none
def XqY {x y:Nat} {z:Value} {r:Option (Prop×D)}:isB (some ⟨x,y,z,.bool⟩) r=r:=rfl
def XkD:Yy P .eql T (.v (.bool p)) (.v (.bool q))=isB (Xm P T) (some (True,.v (.bool (p==q)))):=by
 simp only[Yy];unfold isB;split<;>simp_all
def XkE:Yy P .neq T (.v (.bool p)) (.v (.bool q))=isB (Xm P T) (some (True,.v (.bool (!(p==q))))):=by
 simp only[Yy];unfold isB;split<;>simp_all
def eqA (neg:Bool):Option (List (Option IntKind))->List D->List D->Option (Prop×D)
 | some ks,xs,ys=>(YO ks xs ys).map λ b=>(True,.v (.bool (bif neg then !b else b)))
 | none,_,_=>none
def XkF {neg:Bool} {ks:List (Option IntKind)}:eqA neg (some ks) xs ys=(YO ks xs ys).map λ b=>(True,.v (.bool (bif neg then !b else b))):=rfl
def XkG:Yy P .eql T (.agg xs) (.agg ys)=eqA false (Yc P T) xs ys:=by
 simp only[Yy];cases Yc P T with
 | none=>rfl
 | some ks=>simp only[eqA];cases YO ks xs ys<;>rfl
def XkH:Yy P .neq T (.agg xs) (.agg ys)=eqA true (Yc P T) xs ys:=by
 simp only[Yy];cases Yc P T with
 | none=>rfl
 | some ks=>simp only[eqA];cases YO ks xs ys<;>rfl
end
def XiR {c:Prop} [Decidable c] {x y:Option (Prop×D×Up)} {dst:Option Nat} {m j:Nat} {f:Option Nat->D->Up->Nat->Nat->Prop} {t':Prf (if c then x else y)}:Xbb (if c then x else y) dst m j f t'=(if c then Xbb x dst m j f trivial else Xbb y dst m j f trivial):=by split<;>rfl
def Xnu {c:Prop} [Decidable c] {x y:Option (Prop×D×Up)}:kd1 (if c then x else y)=(if c then kd1 x else kd1 y):=by split<;>rfl
def Xnv {C:Cx} {e:En} {ver:Nat} {s:Heap} {c:Prop} [Decidable c] {x y:Option Kd} {st:St} {F:St->Prop} {t':Prf (if c then x else y)}:doT P C e ver s (if c then x else y) st F t'=(if c then doT P C e ver s x st F trivial else doT P C e ver s y st F trivial):=by split<;>rfl
def XoX {c a b:Prop} [Decidable c] (h1:c->a) (h2:¬ c->b):if c then a else b:=by split;exact h1 ‹_›;exact h2 ‹_›
def Eqs (e:D) (ls:List Ob) (d:D) (os:List Ob):Prop:=d=e/\os=ls
def XpE {e:D} {ls:List Ob}:∃ d os,Eqs e ls d os:=⟨_,_,rfl,rfl⟩
def Xs {a b:Prop} (h:a) (h':b):a/\b:=⟨h,h'⟩
def XkI {α:Type} {l:List α} {n:Nat} (h:l.length<=n):l.take n=l:=In h
def XpF {C:Cx} {R:St->Prop} {c:Code} {k:List It} {st:St} {α β:Type} {o:Option α} {f:α->Option β} {r:β} {I:(α->Prop)->Nat->St->Prop} (hr:bnd o f=some r) (m n:Nat)
 (h0:∀ ex,o=some ex->f ex=some r->I (λ y=>f y=some r) n st) (round:∀ n st,I (λ y=>f y=some r) n st->run P C R m (.code c::.stop (λ st'=>∃ n',n'<n/\I (λ y=>f y=some r) n' st')::k) st) (t':Prf c):LoopG P C R c k st t' :=
 XcZ hr λ ex h1 h2=>LoopG.of (I (λ y=>f y=some r)) m n (h0 ex h1 h2) round t'
def Xd6 {α:Type} {x:α} {l:List α} {n:Nat}:List.take (1+n) (x::l)=x::List.take n l:=by rw[Nat.add_comm];rfl
def CallG.ofE {G:Nat->Option (List D)} {f:FuncId} {args eargs:List D} {obs ls:List Ob} {e:D} {K:D->List Ob->Prop} (h:YY P G f eargs obs (Eqs e ls)) (hf:ZD args eargs) (hK:K e ls) (t':Prf args):CallG P G f args obs K t' :=
 CallG.of h hf (λ _ _ ⟨h1,h2⟩=>h1▸h2▸hK) t'
def CallD.ofE {G:Nat->Option (List D)} {f:FuncId} {args eargs:List D} {obs ls:List Ob} {e:D} {K:D->List Ob->Prop} (h:YY P G f eargs obs (Eqs e ls)) (hf:ZD args eargs) (hK:K e ls) (t':Prf args):CallD P G f args obs K t' :=
 CallD.of h hf XpE (λ _ _ ⟨h1,h2⟩=>h1▸h2▸hK) t'
def XP {d e:D} {obs ls:List Ob} (h:fitsR d e/\obs=ls):RetG d obs (Eqs e ls):=⟨_,h.1,rfl,h.2⟩
def XpG {a c:Nat} {b d:Ob}:(some (a,b)=some (c,d))=(a=c/\b=d):=by simp
def XqZ {a b:D} {l m:List D}:(a::l=b::m)=(a=b/\l=m):=by simp
def XpH {a b:List D} {l m:List (List D)}:(a::l=b::m)=(a=b/\l=m):=by simp
def XpI {a b:Ob} {l m:List Ob}:(a::l=b::m)=(a=b/\l=m):=by simp
attribute [go_sem] fits ZD fitsR KG XqZ XpH XpI XpG D.osl.injEq D.ept.injEq Ob.arr.injEq exists_eq_left' exists_eq_left exists_eq exists_eq' exists_and_left exists_const or_self true_or or_true false_or or_false false_and and_false eq_self
attribute [go_sem] XiR Xnu Xnv Xd6 Nat.sub_zero XkI Xnq Xnr Xns Xko Xkp Xkq Xkr Xks Xkt Xnt Xku Xfi Xkv Xkw Xkx Xky Xkz XkA XkB XkC XkD XkE XqY XkF XkG XkH IJ List.map_set List.map_take List.map_drop List.map_replicate
end Go.Sx
