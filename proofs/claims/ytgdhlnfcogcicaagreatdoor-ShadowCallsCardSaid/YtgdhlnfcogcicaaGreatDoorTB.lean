import Derived.LoopN
import Derived.Maps.RangeRun
import Derived.ProofKit
import Derived.LaidMore
import Derived.OpenShut
import Derived.Stop.Joined
import Derived.ChangeSame
import Derived.Carry
import Derived.Test.YtgdhlnfcogcicaaGreatDoorTA
set_option linter.all false
namespace Go.Sx
variable {P:Program}
section
variable {C:Cx} {s:Heap} {U:Nat->Prop} {ver:Nat} {M:Mem} {β:Loc} {w:World}
theorem Vl {fd:Field} (hne:P.cellsOf fd.type≠0) (b o:Nat):(fieldPlace ⟨b,o,none⟩ fd).run P w=.ok ⟨b,o+fd.offset,none⟩ w:=by
 have:=Ku (P:=P) (t:=fd.type) rfl hne w
 simp[fieldPlace,this,hne,Ik]
theorem Vw {fields:Array Field} {f off sz ft:Nat} (h:(fields.toList.map λ f=>(f.offset,P.cellsOf f.type,f.type))[f]? = some (off,sz,ft)):∃ fd,fields[f]? = some fd/\fd.offset=off/\P.cellsOf fd.type=sz/\fd.type=ft:=by
 simp only[W7,WW,Wi] at h
 obtain ⟨fd,h1,h2,h3,h4⟩:=h
 exact ⟨fd,by simpa using h1,h2,h3,h4⟩
theorem Xe7 (fields:Array Field) (hall:∀ fd∈fields.toList,((P.info? fd.type).map (·.size)).isSome=true) (w:World) :
 (fields.mapM λ f=>do pure (f.offset,← sizeOf f.type):Sem (Array (Nat×Nat))).run P w=.ok (fields.map λ f=>(f.offset,P.cellsOf f.type)) w:=by
 rw[Array.mapM_eq_mapM_toList]
 have:∀ l:List Field,(∀ fd∈l,((P.info? fd.type).map (·.size)).isSome=true)->(l.mapM λ f=>do pure (f.offset,← sizeOf f.type):Sem (List (Nat×Nat))).run P w=.ok (l.map λ f=>(f.offset,P.cellsOf f.type)) w:=by
  intro l
  induction l with
  | nil=>intro _;simp
  | cons f l ih =>
   intro h
   have h1:=h f (by simp)
   have ih':=ih λ fd hf=>h fd (by simp[hf])
   cases hi:P.info? f.type with
   | none=>simp[hi] at h1
   | some i =>
    have:(sizeOf f.type).run P w=.ok (P.cellsOf f.type) w:=by simp[sizeOf,typeInfo,hi,Program.cellsOf]
    simp only[List.mapM_cons,Sem.run_bind,this,Result.andThen_ok,Sem.run_pure,ih',WV]
 have h:=this fields.toList hall
 simp only[Sem.run_map,h,Result.andThen_ok]
 congr 1
 apply Array.ext'
 simp
theorem Xkw (I:Iw P C s U M β w) (_hv:¬ U ver) {dst:Option Tmp} {type:TypeId} {pos:String} {after:Array Edge} {guard:Option (Nat×Bool)} (ρ:Operand->Value) (t:Operand->D) (hρ:∀ x,Rep P M β (t x) (ρ x)) {c:Prop} {d:D} {u:Up} (x:Operand)
 (h:opF P dst ver t s (.move x)=some (c,d,u)) (hc:c):OpOK P C s u U ver M β ((execOp ρ ⟨dst,(.move x),type,pos,after,guard⟩).run P w) d:=by
 unfold execOp
 simp only
 simp only[opF,Wb,Wi] at h
 obtain ⟨rfl,rfl,rfl⟩:=h
 exact .val I rfl (hρ x)
theorem Xg3 (I:Iw P C s U M β w) (_hv:¬ U ver) {dst:Option Tmp} {type:TypeId} {pos:String} {after:Array Edge} {guard:Option (Nat×Bool)} (ρ:Operand->Value) (t:Operand->D) (hρ:∀ x,Rep P M β (t x) (ρ x)) {c:Prop} {d:D} {u:Up} (x:Operand)
 (h:opF P dst ver t s (.assign x)=some (c,d,u)) (hc:c):OpOK P C s u U ver M β ((execOp ρ ⟨dst,(.assign x),type,pos,after,guard⟩).run P w) d:=by
 unfold execOp
 simp only
 simp only[opF,Wb,Wi] at h
 obtain ⟨rfl,rfl,rfl⟩:=h
 exact .val I rfl (hρ x)
theorem Xkx (I:Iw P C s U M β w) (_hv:¬ U ver) {dst:Option Tmp} {type:TypeId} {pos:String} {after:Array Edge} {guard:Option (Nat×Bool)} (ρ:Operand->Value) (t:Operand->D) (hρ:∀ x,Rep P M β (t x) (ρ x)) {c:Prop} {d:D} {u:Up} (g:Operand) (a:Operand) (b:Operand)
 (h:opF P dst ver t s (.pick g a b)=some (c,d,u)) (hc:c):OpOK P C s u U ver M β ((execOp ρ ⟨dst,(.pick g a b),type,pos,after,guard⟩).run P w) d:=by
 unfold execOp
 simp only
 simp only[opF] at h
 split at h
 ·rename_i bb hg
  simp only[Wb,Wi] at h
  obtain ⟨rfl,rfl,rfl⟩:=h
  have hgr:=hρ g
  rw[hg] at hgr
  simp only[Rep] at hgr
  refine .val I (v:=if bb then ρ a else ρ b) (by simp[hgr.1,asBool]) ?_
  have ha:=hρ a
  have hb:=hρ b
  unfold Xh2
  split
  ·rename_i p q e1 e2
   rw[e1] at ha
   rw[e2] at hb
   simp only[Rep] at ha hb
   cases bb
   ·simp[Rep,hb.1,wfV]
   ·simp[Rep,ha.1,wfV]
  ·cases bb
   ·simpa using hb
   ·simpa using ha
 ·cases h
theorem Xh8 (I:Iw P C s U M β w) (hv:¬ U ver) {dst:Option Tmp} {type:TypeId} {pos:String} {after:Array Edge} {guard:Option (Nat×Bool)} (ρ:Operand->Value) (t:Operand->D) (_hρ:∀ x,Rep P M β (t x) (ρ x)) {c:Prop} {d:D} {u:Up} (T:TypeId)
 (h:opF P dst ver t s (.alloc T)=some (c,d,u)) (hc:c):OpOK P C s u U ver M β ((execOp ρ ⟨dst,(.alloc T),type,pos,after,guard⟩).run P w) d:=by
 unfold execOp
 simp only
 simp only[opF] at h
 split at h
 ·rename_i ty hT
  split at h
  ·rename_i cs hcs
   split at h
   ·rename_i hcond
    simp only[Wb,Wi] at h
    obtain ⟨rfl,rfl,rfl⟩:=h
    obtain ⟨z1,z2⟩:=Y6 (P:=P) (M:=M) (β:=β) hcs
    have e:(Instr.alloc T true (.tuple #[])).run P w=((do pure (Value.pointer (some (← newVar T ty.zero))):Sem Value)).run P w:=by simp[Instr.alloc,KX hT]
    exact VOK.op (sem:=Instr.alloc T true (.tuple #[])) (by rw[e];exact Xh3 I hv hT z1 z2 hcond.1 hcond.2 (Kb dst))
   ·cases h
  ·cases h
 ·cases h
theorem Xmy (I:Iw P C s U M β w) (hv:¬ U ver) {dst:Option Tmp} {type:TypeId} {pos:String} {after:Array Edge} {guard:Option (Nat×Bool)} (ρ:Operand->Value) (t:Operand->D) (hρ:∀ x,Rep P M β (t x) (ρ x)) {c:Prop} {d:D} {u:Up} (T:TypeId) (x:Operand)
 (h:opF P dst ver t s (.box T x)=some (c,d,u)) (hc:c):OpOK P C s u U ver M β ((execOp ρ ⟨dst,(.box T x),type,pos,after,guard⟩).run P w) d:=by
 unfold execOp
 simp only
 simp only[opF] at h
 split at h
 ·rename_i ty cs hT hcs
  split at h
  ·rename_i hby
   simp only[Wb,Wi] at h
   obtain ⟨rfl,rfl,rfl⟩:=h
   obtain ⟨z1,z2⟩:=Kk hcs (hρ x)
   exact VOK.op (Xh3 I hv hT z1 z2 hc hby (Kb dst))
  ·cases h
 ·cases h
theorem Xh9 (I:Iw P C s U M β w) (_hv:¬ U ver) {dst:Option Tmp} {type:TypeId} {pos:String} {after:Array Edge} {guard:Option (Nat×Bool)} (ρ:Operand->Value) (t:Operand->D) (hρ:∀ x,Rep P M β (t x) (ρ x)) {c:Prop} {d:D} {u:Up} (T:TypeId) (parts:Array (Nat×Operand))
 (h:opF P dst ver t s (.build T parts)=some (c,d,u)) (hc:c):OpOK P C s u U ver M β ((execOp ρ ⟨dst,(.build T parts),type,pos,after,guard⟩).run P w) d:=by
 unfold execOp
 simp only
 simp only[opF] at h
 split at h
 ·rename_i ty hT
  obtain ⟨p1,p2⟩:=Xco hρ parts.toList
  split at h
  ·rename_i cs fs hzc hk
   simp only[WW,Wi] at h
   obtain ⟨r,hr,rfl,rfl,rfl⟩:=h
   obtain ⟨z1,z2⟩:=Y6 (P:=P) (M:=M) (β:=β) hzc
   obtain ⟨sz0,by0,z0,k0⟩:=ty
   subst hk
   obtain ⟨fields,hu,rfl,hall⟩:=ZQ hT
   obtain ⟨vs,k1,k2⟩:=Xbg _ (λ i=>(fields.map λ f=>(f.offset,P.cellsOf f.type))[i]?) (λ i x hx=>by
    simp only[WW,W7,Ii] at hx
    obtain ⟨y,⟨fd,h1,rfl⟩,rfl⟩:=hx
    simp[h1]) _ (parts.map λ x=>(x.1,ρ x.2)).toList cs z0.cells r hr z1 (by simp) (by simpa using p2)
   refine .val I (v:=.agg vs) ?_ ?_
   ·simp only[Instr.build,Sem.run_bind,KX hT,Result.andThen_ok,run_underlying hu,Xe7 fields hall,k1,Sem.run_pure]
   ·simp only[Rep];exact ⟨vs.toList,by simp,k2⟩
  ·rename_i cs n e sz hzc hk
   split at h
   ·rename_i te hE
    simp only[WW,Wi] at h
    obtain ⟨r,hr,rfl,rfl,rfl⟩:=h
    obtain ⟨z1,z2⟩:=Y6 (P:=P) (M:=M) (β:=β) hzc
    obtain ⟨sz0,by0,z0,k0⟩:=ty
    subst hk
    obtain ⟨hu,hsz⟩:=Kj hT
    have hsize:∀ w:World,(sizeOf e).run P w=.ok sz w:=λ w=>by rw[Y1 hE,hsz,Xbc hE]
    obtain ⟨vs,k1,k2⟩:=Xbg _ (λ i=>some (i*sz,sz)) (λ i x hx=>hx) _ (parts.map λ x=>(x.1,ρ x.2)).toList cs z0.cells r hr z1 (by simp) (by simpa using p2)
    refine .val I (v:=.agg vs) ?_ ?_
    ·simp only[Instr.build,Sem.run_bind,KX hT,Result.andThen_ok,run_underlying hu,hsize,k1,Sem.run_pure]
    ·simp only[Rep];exact ⟨vs.toList,by simp,k2⟩
   ·cases h
  ·cases h
 ·cases h
theorem Xcj (I:Iw P C s U M β w) (hv:¬ U ver) {dst:Option Tmp} {type:TypeId} {pos:String} {after:Array Edge} {guard:Option (Nat×Bool)} (ρ:Operand->Value) (t:Operand->D) (hρ:∀ x,Rep P M β (t x) (ρ x)) {c:Prop} {d:D} {u:Up} (T:TypeId) (n:Nat) (parts:Array (Nat×Operand))
 (h:opF P dst ver t s (.buildSlice T n parts)=some (c,d,u)) (hc:c):OpOK P C s u U ver M β ((execOp ρ ⟨dst,(.buildSlice T n parts),type,pos,after,guard⟩).run P w) d:=by
 unfold execOp
 simp only
 simp only[opF] at h
 split at h
 ·rename_i a b zz E z hT
  split at h
  ·rename_i te hE
   split at h
   ·rename_i zc hzc
    split at h
    ·rename_i hcond
     obtain ⟨h1,h2,h3,h4,h5⟩:=hcond
     split at h
     ·rename_i cc ps l hps
      simp only[WW,Wi] at h
      obtain ⟨es,hes,rfl,rfl,rfl⟩:=h
      obtain ⟨p1,p2⟩:=Xco hρ parts.toList
      obtain ⟨M',I',hM,hF⟩:=I.freeze l
      obtain ⟨q3,q4⟩:=Xcp I hM hps hc hF p2
      have q1:ps.map (·.1)=(parts.map λ x=>(x.1,ρ x.2)).toList.map (·.1):=by rw[q4,p1,Array.toList_map]
      have q2:RepL P M' Yg (ps.map (·.2)) ((parts.map λ x=>(x.1,ρ x.2)).toList.map (·.2)):=by rw[Array.toList_map];exact q3
      obtain ⟨M2,β2,w2,v2,g1,g2,g3,g4,g5⟩:=VOK.op (Xci I' hv hT hE hzc h1 h2 h3 h4 h5 hes q1 q2 (Kb dst))
      refine ⟨M2,β2,w2,v2,g1,?_,g3,hM.trans g4,g5⟩
      rw[YH,JF];exact g2
     ·cases h
    ·cases h
   ·cases h
  ·cases h
 ·cases h
theorem Xky (I:Iw P C s U M β w) (_hv:¬ U ver) {dst:Option Tmp} {type:TypeId} {pos:String} {after:Array Edge} {guard:Option (Nat×Bool)} (ρ:Operand->Value) (t:Operand->D) (hρ:∀ x,Rep P M β (t x) (ρ x)) {c:Prop} {d:D} {u:Up} (T:TypeId) (a:Operand)
 (h:opF P dst ver t s (.load T a)=some (c,d,u)) (hc:c):OpOK P C s u U ver M β ((execOp ρ ⟨dst,(.load T a),type,pos,after,guard⟩).run P w) d:=by
 unfold execOp
 simp only
 simp only[opF] at h
 split at h
 ·rename_i ty c' cs o z hT hl
  split at h
  ·rename_i hcond
   simp only[Wb,Wi] at h
   obtain ⟨rfl,rfl,rfl⟩:=h
   exact VOK.op (Xks I hT hl hc hcond.1 hcond.2 (hρ a))
  ·cases h
 ·cases h
theorem Xia (I:Iw P C s U M β w) (_hv:¬ U ver) {dst:Option Tmp} {type:TypeId} {pos:String} {after:Array Edge} {guard:Option (Nat×Bool)} (ρ:Operand->Value) (t:Operand->D) (hρ:∀ x,Rep P M β (t x) (ρ x)) {c:Prop} {d:D} {u:Up} (T:TypeId) (a:Operand) (x:Operand)
 (h:opF P dst ver t s (.store T a x)=some (c,d,u)) (hc:c):OpOK P C s u U ver M β ((execOp ρ ⟨dst,(.store T a x),type,pos,after,guard⟩).run P w) d:=by
 unfold execOp
 simp only
 simp only[opF] at h
 split at h
 ·rename_i ty id v z i cc hT ha
  have hp:=hρ a
  rw[ha] at hp
  split at h
  ·rename_i v' E z' es fz hs
   split at h
   ·rename_i ds hx
    split at h
    ·rename_i hcond
     obtain ⟨rfl,rfl,hfit⟩:=hcond
     simp only[Wb,Wi] at h
     obtain ⟨rfl,rfl,rfl⟩:=h
     exact XdR I hT hs hp hx (hρ x) hc.1 hc.2.1 hc.2.2 hfit
    ·cases h
   ·cases h
  ·rename_i v' E z' es fz hs
   split at h
   ·rename_i c1 dd l hsn
    split at h
    ·rename_i ds hx
     split at h
     ·rename_i hcond
      obtain ⟨rfl,rfl,hfit,hnl⟩:=hcond
      simp only[Wb,Wi] at h
      obtain ⟨rfl,rfl,rfl⟩:=h
      obtain ⟨hc1,hc2,hc3,hc4⟩:=hc
      obtain ⟨M',I',hM,hF⟩:=I.freeze l
      have hr':=snap_rep I hM hsn hc1 hF (hρ x)
      have hs':frz s l id=some (v,.arr false E z es fz):=by unfold frz;rw[Wh hnl];exact hs
      obtain ⟨M2,β2,w2,v2,g1,g2,g3,g4,g5⟩:=XdR (ver:=ver) I' hT hs' (hp.mono hM (BLe.refl _)) hx hr' hc2 hc3 hc4 hfit
      refine ⟨M2,β2,w2,v2,g1,?_,g3,hM.trans g4,g5⟩
      rw[YH,JF];exact g2
     ·cases h
    ·cases h
   ·cases h
  ·cases h
 ·cases h
theorem XdU (I:Iw P C s U M β w) (_hv:¬ U ver) {dst:Option Tmp} {type:TypeId} {pos:String} {after:Array Edge} {guard:Option (Nat×Bool)} (ρ:Operand->Value) (t:Operand->D) (hρ:∀ x,Rep P M β (t x) (ρ x)) {c:Prop} {d:D} {u:Up} (x:Operand)
 (h:opF P dst ver t s (.nilCheck x)=some (c,d,u)) (hc:c):OpOK P C s u U ver M β ((execOp ρ ⟨dst,(.nilCheck x),type,pos,after,guard⟩).run P w) d:=by
 unfold execOp
 simp only
 simp only[opF] at h
 split at h
 ·rename_i id v z i cc hx
  simp only[Wb,Wi] at h
  obtain ⟨rfl,rfl,rfl⟩:=h
  have hr:=hρ x
  rw[hx] at hr
  have hr':=hr
  simp only[Rep] at hr'
  obtain ⟨b,cb,_,he⟩:=hr'
  refine .val I (v:=ρ x) ?_ hr
  rw[he];rfl
 ·rename_i z cs cc hx
  simp only[Wb,Wi] at h
  obtain ⟨rfl,rfl,rfl⟩:=h
  have hr:=hρ x
  rw[hx] at hr
  have hr':=hr
  simp only[Rep] at hr'
  obtain ⟨_,b,o,he,_⟩:=hr'
  refine .val I (v:=ρ x) ?_ hr
  rw[he];rfl
 ·cases h
theorem Xg4 (I:Iw P C s U M β w) {op:BinOp} {T:TypeId} {x:D} {ρ:Operand->Value} {oy:Operand} {c:Prop} {d:D} (h:Xc8 P op T x=some (c,d)) (hc:c) {vx:Value} (rx:Rep P M β x vx) {ox:Operand} (hn:Xbb oy=true)
 (hy:∀ v,oy=.const v->ρ oy=v):VOK P C s [] U ver M β ((do eqGuard op T ox oy vx (ρ oy);binOp op T vx (ρ oy):Sem Value).run P w) d:=by
 have hoy:∃ l c,ρ oy=.slice none l c:=by
  cases oy with
  | const v =>
   simp only[Xbb] at hn
   unfold Xe3 at hn
   split at hn
   ·cases hn
   ·cases hn
   ·rename_i l c;exact ⟨l,c,hy _ rfl⟩
   ·cases hn
  | _=>simp[Xbb] at hn
 obtain ⟨ly,cy,hoy⟩:=hoy
 rw[hoy]
 have key:∀ (a:Option Addr) (l cp:Nat) {x1 x2:Nat} {x3:Value} {E z:Nat},Xt P T=some ⟨x1,x2,x3,.slice E z⟩->(Op.equal T (.slice a l cp) (.slice none ly cy)).run P w=.ok a.isNone w:=by
  intro a l cp x1 x2 x3 E z hT
  unfold Op.equal Op.maxDepth Op.equalIn
  cases a<;>simp[run_underlying (X7 hT).1]
 have hg:∀ (op:BinOp) (a:Option Addr) (l cp:Nat),(eqGuard op T ox oy (.slice a l cp) (.slice none ly cy)).run P w=.ok () w:=by
  intro op a l cp
  unfold eqGuard
  cases op<;>simp
 unfold Xc8 at h
 split at h
 ·rename_i E z es
  simp only[Rep] at rx
  obtain ⟨_,_,_,a,cap,rfl,_,hr⟩:=rx
  split at h
  ·rename_i hT
   simp only[Wb,Wi] at h
   obtain ⟨rfl,rfl⟩:=h
   obtain ⟨b,o,rfl,_⟩:=hr.resolve_left hc
   refine .same I (v:=.bool false) ?_ (ZI _)
   simp[hg,binOp,key _ _ _ hT]
  ·rename_i hT
   simp only[Wb,Wi] at h
   obtain ⟨rfl,rfl⟩:=h
   obtain ⟨b,o,rfl,_⟩:=hr.resolve_left hc
   refine .same I (v:=.bool true) ?_ (ZI _)
   simp[hg,binOp,key _ _ _ hT]
  ·cases h
 ·rename_i a l cp
  simp only[Rep] at rx
  obtain ⟨rfl,_⟩:=rx
  split at h
  ·rename_i hT
   simp only[Wb,Wi] at h
   obtain ⟨rfl,rfl⟩:=h
   refine .same I (v:=.bool a.isNone) ?_ (ZI _)
   simp[hg,binOp,key _ _ _ hT]
  ·rename_i hT
   simp only[Wb,Wi] at h
   obtain ⟨rfl,rfl⟩:=h
   refine .same I (v:=.bool (!a.isNone)) ?_ (ZI _)
   simp[hg,binOp,key _ _ _ hT]
  ·cases h
 ·cases h
theorem Xib (I:Iw P C s U M β w) (_hv:¬ U ver) {dst:Option Tmp} {type:TypeId} {pos:String} {after:Array Edge} {guard:Option (Nat×Bool)} (ρ:Operand->Value) (t:Operand->D) (hρ:∀ x,Rep P M β (t x) (ρ x)) {c:Prop} {d:D} {u:Up} (op:BinOp) (T:TypeId) (x:Operand) (y:Operand) (yt:TypeId) (hy:∀ v,y=.const v->ρ y=v)
 (h:opF P dst ver t s (.binOp op T x y yt)=some (c,d,u)) (hc:c):OpOK P C s u U ver M β ((execOp ρ ⟨dst,(.binOp op T x y yt),type,pos,after,guard⟩).run P w) d:=by
 unfold execOp
 simp only
 simp only[opF,WW,Wi] at h
 obtain ⟨⟨c',d'⟩,hb,rfl,rfl,rfl⟩:=h
 split at hb
 ·rename_i hn
  exact VOK.op (Xg4 I hb hc (hρ x) hn hy)
 ·exact VOK.op (Xkq I hb hc (hρ x) (hρ y) x y)
theorem Xkz (I:Iw P C s U M β w) (_hv:¬ U ver) {dst:Option Tmp} {type:TypeId} {pos:String} {after:Array Edge} {guard:Option (Nat×Bool)} (ρ:Operand->Value) (t:Operand->D) (hρ:∀ x,Rep P M β (t x) (ρ x)) {c:Prop} {d:D} {u:Up} (op:UnOp) (T:TypeId) (x:Operand)
 (h:opF P dst ver t s (.unOp op T x)=some (c,d,u)) (hc:c):OpOK P C s u U ver M β ((execOp ρ ⟨dst,(.unOp op T x),type,pos,after,guard⟩).run P w) d:=by
 unfold execOp
 simp only
 simp only[opF] at h
 have hr:=hρ x
 split at h
 ·rename_i b hx
  simp only[Wb,Wi] at h
  obtain ⟨rfl,rfl,rfl⟩:=h
  rw[hx] at hr
  simp only[Rep] at hr
  refine .val I (v:=.bool (!b)) ?_ (ZI _)
  rw[hr.1];simp[Op.unary]
 ·rename_i k n hx
  simp only[Wb,Wi] at h
  obtain ⟨rfl,rfl,rfl⟩:=h
  rw[hx] at hr
  simp only[Rep] at hr
  refine .val I (v:=.int k (k.wrap (0-n))) ?_ (YW _ _ (ZH _ _))
  rw[hr.1];simp[Op.unary,Op.intArith]
 ·cases h
theorem Xe8 (I:Iw P C s U M β w) (_hv:¬ U ver) {dst:Option Tmp} {type:TypeId} {pos:String} {after:Array Edge} {guard:Option (Nat×Bool)} (ρ:Operand->Value) (t:Operand->D) (hρ:∀ x,Rep P M β (t x) (ρ x)) {c:Prop} {d:D} {u:Up} (S:TypeId) (T:TypeId) (x:Operand)
 (h:opF P dst ver t s (.convert S T x)=some (c,d,u)) (hc:c):OpOK P C s u U ver M β ((execOp ρ ⟨dst,(.convert S T x),type,pos,after,guard⟩).run P w) d:=by
 unfold execOp
 simp only
 simp only[opF] at h
 split at h
 ·rename_i tS a b zz k k' n hS hT hx
  simp only[Wb,Wi] at h
  obtain ⟨rfl,rfl,rfl⟩:=h
  have hr:=hρ x
  rw[hx] at hr
  simp only[Rep] at hr
  obtain ⟨i,dd,_,hu,_⟩:=Yb hS
  refine .val I (v:=.int k (k.wrap n)) ?_ (YW _ _ (ZH _ _))
  rw[hr.1];simp[convert,run_underlying hu,run_underlying (J1 hT),Conv.intToInt]
 ·cases h
theorem XdV (I:Iw P C s U M β w) (_hv:¬ U ver) {dst:Option Tmp} {type:TypeId} {pos:String} {after:Array Edge} {guard:Option (Nat×Bool)} (ρ:Operand->Value) (t:Operand->D) (hρ:∀ x,Rep P M β (t x) (ρ x)) {c:Prop} {d:D} {u:Up} (fn:Fn) (first:Array Operand) (captured:Array Operand)
 (h:opF P dst ver t s (.makeFunc fn first captured)=some (c,d,u)) (hc:c):OpOK P C s u U ver M β ((execOp ρ ⟨dst,(.makeFunc fn first captured),type,pos,after,guard⟩).run P w) d:=by
 unfold execOp
 simp only
 simp only[opF,Wb,Wi] at h
 obtain ⟨rfl,rfl,rfl⟩:=h
 refine .val I (v:=.func fn (first.map ρ) (captured.map ρ)) (by simp[Instr.makeFunc]) ?_
 simp only[Rep]
 refine ⟨first.toList.map ρ,captured.toList.map ρ,?_,Xdd hρ _,Xdd hρ _⟩
 have e:∀ l:Array Operand,l.map ρ=⟨l.toList.map ρ⟩:=λ l=>by apply Array.ext';simp
 rw[e first,e captured]
theorem Xdg (I:Iw P C s U M β w) (hv:¬ U ver) {dst:Option Tmp} {type:TypeId} {pos:String} {after:Array Edge} {guard:Option (Nat×Bool)} (ρ:Operand->Value) (t:Operand->D) (hρ:∀ x,Rep P M β (t x) (ρ x)) {c:Prop} {d:D} {u:Up} (T:TypeId) (l:Operand) (cc:Operand)
 (h:opF P dst ver t s (.makeSlice T l cc)=some (c,d,u)) (hc:c):OpOK P C s u U ver M β ((execOp ρ ⟨dst,(.makeSlice T l cc),type,pos,after,guard⟩).run P w) d:=by
 unfold execOp
 simp only
 simp only[opF] at h
 split at h
 ·rename_i a b zz E z n m hT hl hm
  split at h
  ·rename_i te hE
   split at h
   ·rename_i zc hzc
    split at h
    ·rename_i hcond
     simp only[Wb,Wi] at h
     obtain ⟨rfl,rfl,rfl⟩:=h
     obtain ⟨h0,rfl,h1,h2⟩:=hc
     obtain ⟨k,hk,_⟩:=Jj hl (hρ l)
     obtain ⟨k',hk',_⟩:=Jj hm (hρ cc)
     rw[hk,hk']
     exact VOK.op (Xkv I hv hT hE hzc hcond.1 hcond.2 h0 h1 h2 (Kb dst))
    ·cases h
   ·cases h
  ·cases h
 ·cases h
theorem Xic (I:Iw P C s U M β w) (_hv:¬ U ver) {dst:Option Tmp} {type:TypeId} {pos:String} {after:Array Edge} {guard:Option (Nat×Bool)} (ρ:Operand->Value) (t:Operand->D) (hρ:∀ x,Rep P M β (t x) (ρ x)) {c:Prop} {d:D} {u:Up} (T:TypeId) (x:Operand) (lo:Option Operand) (hi:Option Operand) (mx:Option Operand)
 (h:opF P dst ver t s (.slice T x lo hi mx)=some (c,d,u)) (hc:c):OpOK P C s u U ver M β ((execOp ρ ⟨dst,(.slice T x lo hi mx),type,pos,after,guard⟩).run P w) d:=by
 unfold execOp
 simp only
 simp only[opF] at h
 split at h
 ·rename_i a b zz E sz l hh m hT hl hhh hm
  split at h
  ·rename_i te hE
   simp only[WW,Wi] at h
   obtain ⟨⟨c',d'⟩,hs,rfl,rfl,rfl⟩:=h
   obtain ⟨k1,e1⟩:=Jk hρ hl
   obtain ⟨k2,e2⟩:=Jk hρ hhh
   obtain ⟨k3,e3⟩:=Jk hρ hm
   simp only[e1,e2,e3]
   exact VOK.op (XgZ I hT hE hs hc (hρ x))
  ·cases h
 ·rename_i a b zz n E sz' hT hl hhh hm
  split at h
  ·rename_i te z cs hE hx
   split at h
   ·rename_i hcond
    obtain ⟨h1,rfl,h0,h2,h3⟩:=hcond
    simp only[Wb,Wi] at h
    obtain ⟨rfl,rfl,rfl⟩:=h
    obtain ⟨k1,e1⟩:=Jk hρ hl
    obtain ⟨k2,e2⟩:=Jk hρ hhh
    obtain ⟨k3,e3⟩:=Jk hρ hm
    simp only[e1,e2,e3]
    have hr:=hρ x
    rw[hx] at hr
    exact VOK.op (Xg0 I hT hE h1 h0 h2 h3 hr)
   ·cases h
  ·cases h
 ·cases h
theorem Xdh (I:Iw P C s U M β w) (_hv:¬ U ver) {dst:Option Tmp} {type:TypeId} {pos:String} {after:Array Edge} {guard:Option (Nat×Bool)} (ρ:Operand->Value) (t:Operand->D) (hρ:∀ x,Rep P M β (t x) (ρ x)) {c:Prop} {d:D} {u:Up} (T:TypeId) (x:Operand) (f:Nat)
 (h:opF P dst ver t s (.fieldAddr T x f)=some (c,d,u)) (hc:c):OpOK P C s u U ver M β ((execOp ρ ⟨dst,(.fieldAddr T x f),type,pos,after,guard⟩).run P w) d:=by
 unfold execOp
 simp only
 simp only[opF] at h
 have hr:=hρ x
 split at h
 ·rename_i a b zz fs id v z i cc hT hx
  split at h
  ·rename_i off sz ft hf
   split at h
   ·cases h
   ·rename_i hne
    simp only[Wb,Wi] at h
    obtain ⟨rfl,rfl,rfl⟩:=h
    rw[hx] at hr
    simp only[Rep] at hr
    obtain ⟨bb,cb,hb,he⟩:=hr
    obtain ⟨fields,hu,rfl,_⟩:=ZQ hT
    obtain ⟨fd,g1,g2,g3,g4⟩:=Vw hf
    have hp:=Vl (P:=P) (w:=w) (fd:=fd) (by rw[g3];exact hne) bb (i*z+cc)
    refine .val I (v:=.pointer (some ⟨bb,i*z+cc+off,none⟩)) ?_ ?_
    ·rw[he];simp[Instr.fieldAt,run_underlying hu,g1,Instr.sureAddr,hp,g2]
    ·simp only[Rep];exact ⟨bb,cb,hb,by rw[Oe]⟩
  ·cases h
 ·rename_i a b zz fs z cs cc hT hx
  split at h
  ·rename_i off sz ft hf
   split at h
   ·cases h
   ·rename_i hne
    simp only[Wb,Wi] at h
    obtain ⟨rfl,rfl,rfl⟩:=h
    rw[hx] at hr
    simp only[Rep] at hr
    obtain ⟨hz,bb,o,he,hrc⟩:=hr
    obtain ⟨fields,hu,rfl,_⟩:=ZQ hT
    obtain ⟨fd,g1,g2,g3,g4⟩:=Vw hf
    have hp:=Vl (P:=P) (w:=w) (fd:=fd) (by rw[g3];exact hne) bb (o+cc)
    refine .val I (v:=.pointer (some ⟨bb,o+cc+off,none⟩)) ?_ ?_
    ·rw[he];simp[Instr.fieldAt,run_underlying hu,g1,Instr.sureAddr,hp,g2]
    ·simp only[Rep];exact ⟨hz,bb,o,by rw[Oe],hrc⟩
  ·cases h
 ·cases h
theorem Xid (I:Iw P C s U M β w) (_hv:¬ U ver) {dst:Option Tmp} {type:TypeId} {pos:String} {after:Array Edge} {guard:Option (Nat×Bool)} (ρ:Operand->Value) (t:Operand->D) (hρ:∀ x,Rep P M β (t x) (ρ x)) {c:Prop} {d:D} {u:Up} (T:TypeId) (x:Operand) (f:Nat)
 (h:opF P dst ver t s (.field T x f)=some (c,d,u)) (hc:c):OpOK P C s u U ver M β ((execOp ρ ⟨dst,(.field T x f),type,pos,after,guard⟩).run P w) d:=by
 unfold execOp
 simp only
 simp only[opF] at h
 have hr:=hρ x
 split at h
 ·rename_i a b zz fs cs hT hx
  split at h
  ·rename_i off sz ft hf
   split at h
   ·rename_i ty hty
    split at h
    ·rename_i hsz
     simp only[Wb,Wi] at h
     obtain ⟨rfl,rfl,rfl⟩:=h
     obtain ⟨hfit,hag⟩:=hc
     rw[hx] at hr
     simp only[Rep] at hr
     obtain ⟨vs,he,hrl⟩:=hr
     obtain ⟨fields,hu,rfl,_⟩:=ZQ hT
     obtain ⟨fd,g1,g2,g3,g4⟩:=Vw hf
     subst g4
     have hlen:=hrl.length
     rw[he]
     cases hagg:ty.isAgg with
     | true =>
      refine .val I (v:=.agg ((vs.toArray).extract off (off+sz))) ?_ ?_
      ·simp[Instr.field,run_underlying hu,g1,part,asAgg,Ki hty,hagg,Y1 hty,hsz,g2]
      ·simp only[ZP,if_true,Rep]
       refine ⟨(vs.drop off).take sz,?_,(hrl.drop off).take sz⟩
       congr 1
       apply Array.ext'
       simp[List.extract_eq_take_drop]
     | false =>
      have h1:sz=1:=by rcases hag with h | h;(rw[hagg] at h;cases h);exact h
      subst h1
      obtain ⟨x0,hx0,hr0⟩:=hrl.get off (cs[off]'(by omega)) (by simp)
      refine .val I (v:=x0) ?_ ?_
      ·simp[Instr.field,run_underlying hu,g1,part,asAgg,Ki hty,hagg,g2,hx0]
      ·simp only[ZP,Ie,if_false]
       have:((cs.drop off).take 1).headD .any=cs[off]'(by omega):=by
        rw[List.take_one]
        simp[List.head?_drop,show off<cs.length by omega]
       rw[this];exact hr0
    ·cases h
   ·cases h
  ·cases h
 ·cases h
theorem Xdi (I:Iw P C s U M β w) (_hv:¬ U ver) {dst:Option Tmp} {type:TypeId} {pos:String} {after:Array Edge} {guard:Option (Nat×Bool)} (ρ:Operand->Value) (t:Operand->D) (hρ:∀ x,Rep P M β (t x) (ρ x)) {c:Prop} {d:D} {u:Up} (T:TypeId) (x:Operand) (ix:Operand)
 (h:opF P dst ver t s (.indexAddr T x ix)=some (c,d,u)) (hc:c):OpOK P C s u U ver M β ((execOp ρ ⟨dst,(.indexAddr T x ix),type,pos,after,guard⟩).run P w) d:=by
 unfold execOp
 simp only
 simp only[opF] at h
 have hr:=hρ x
 split at h
 ·rename_i a b zz E sz E' z es i hT hx hi
  split at h
  ·rename_i hsz
   obtain ⟨rfl,hne⟩:=hsz
   simp only[Wb,Wi] at h
   obtain ⟨rfl,rfl,rfl⟩:=h
   obtain ⟨k,hk,_⟩:=Jj hi (hρ ix)
   obtain ⟨hu,hcz⟩:=X7 hT
   rw[hx] at hr
   simp only[Rep] at hr
   obtain ⟨q1,q2,q3,base,cap,he,hcap,hr⟩:=hr
   have hlt:i.toNat<es.length:=by omega
   rcases hr with rfl | ⟨bb,o,rfl,hr⟩
   ·simp at hlt
   ·have hsize:∀ {n:Nat},sz=n->n≠0->(sizeOf E).run P w=.ok n w:=λ {n} h1 h2=>Ku (hcz.symm.trans h1) h2 w
    have hrc:=hr.get q1 i.toNat es[i.toNat] (by simp[hlt])
    have hgd:es.getD i.toNat []=es[i.toNat]:=by rw[Wk,Wc hlt];rfl
    rcases Us sz with hz0 | hz0
    ·exact absurd hz0 hne
    ·refine .val I (v:=.pointer (some ⟨bb,o+i.toNat*sz,none⟩)) ?_ ?_
     ·rw[he,hk]
      simp[Instr.indexAt,run_underlying hu,asIntOf,hc.1,hc.2,hsize rfl (by omega),Ik]
     ·simp only[Rep]
      rw[hgd]
      exact ⟨q1 _ (W6 _),bb,o+i.toNat*sz,by simp,hrc⟩
  ·cases h
 ·rename_i a b zz E sz id v z off len i hT hx hi
  split at h
  ·rename_i hsz
   obtain ⟨rfl,hne⟩:=hsz
   simp only[Wb,Wi] at h
   obtain ⟨rfl,rfl,rfl⟩:=h
   obtain ⟨k,hk,_⟩:=Jj hi (hρ ix)
   obtain ⟨hu,hcz⟩:=X7 hT
   rw[hx] at hr
   simp only[Rep] at hr
   rcases hr with ⟨_,_,rfl,_,_⟩ | ⟨bb,cb,o,cap,hb1,he,hcap,hcb,ho⟩
   ·omega
   ·have ho':o=off*sz:=by rcases ho with h | h;exact h;omega
    subst ho'
    refine .val I (v:=.pointer (some ⟨bb,off*sz+i.toNat*sz,none⟩)) ?_ ?_
    ·rw[he,hk]
     have hsize:=Ku hcz.symm hne w
     simp[Instr.indexAt,run_underlying hu,asIntOf,hc.1,hc.2,hsize,Ik]
    ·simp only[Rep]
     exact ⟨bb,cb,hb1,by rw[UK];simp⟩
  ·cases h
 ·rename_i a b zz n E sz z cs cc i hT hx hi
  split at h
  ·cases h
  ·rename_i hne
   simp only[Wb,Wi] at h
   obtain ⟨rfl,rfl,rfl⟩:=h
   obtain ⟨k,hk,_⟩:=Jj hi (hρ ix)
   obtain ⟨hu,hcz⟩:=Kj hT
   have hsize:=Ku hcz.symm hne w
   rw[hx] at hr
   simp only[Rep] at hr
   obtain ⟨hz,bb,o,he,hrc⟩:=hr
   refine .val I (v:=.pointer (some ⟨bb,o+cc+i.toNat*sz,none⟩)) ?_ ?_
   ·rw[he,hk]
    simp[Instr.indexAt,run_underlying hu,asIntOf,Instr.sureAddr,hc.1,hc.2,hsize,Ik]
   ·simp only[Rep];exact ⟨hz,bb,o,by rw[Oe],hrc⟩
 ·rename_i a b zz n E sz id v z j cc i hT hx hi
  split at h
  ·cases h
  ·rename_i hne
   simp only[Wb,Wi] at h
   obtain ⟨rfl,rfl,rfl⟩:=h
   obtain ⟨k,hk,_⟩:=Jj hi (hρ ix)
   obtain ⟨hu,hcz⟩:=Kj hT
   have hsize:=Ku hcz.symm hne w
   rw[hx] at hr
   simp only[Rep] at hr
   obtain ⟨bb,cb,hb1,he⟩:=hr
   refine .val I (v:=.pointer (some ⟨bb,j*z+cc+i.toNat*sz,none⟩)) ?_ ?_
   ·rw[he,hk]
    simp[Instr.indexAt,run_underlying hu,asIntOf,Instr.sureAddr,hc.1,hc.2,hsize,Ik]
   ·simp only[Rep];exact ⟨bb,cb,hb1,by rw[Oe]⟩
 ·cases h
theorem Xie (I:Iw P C s U M β w) (_hv:¬ U ver) {dst:Option Tmp} {type:TypeId} {pos:String} {after:Array Edge} {guard:Option (Nat×Bool)} (ρ:Operand->Value) (t:Operand->D) (hρ:∀ x,Rep P M β (t x) (ρ x)) {c:Prop} {d:D} {u:Up} (T:TypeId) (x:Operand) (ix:Operand)
 (h:opF P dst ver t s (.index T x ix)=some (c,d,u)) (hc:c):OpOK P C s u U ver M β ((execOp ρ ⟨dst,(.index T x ix),type,pos,after,guard⟩).run P w) d:=by
 unfold execOp
 simp only
 simp only[opF] at h
 have hr:=hρ x
 split at h
 ·rename_i a b zz n e sz cs i hT hx hi
  split at h
  ·rename_i ty hty
   split at h
   ·rename_i hsz
    simp only[Wb,Wi] at h
    obtain ⟨rfl,rfl,rfl⟩:=h
    obtain ⟨h0,hn,hfit,hag⟩:=hc
    obtain ⟨k,hk,_⟩:=Jj hi (hρ ix)
    obtain ⟨hu,hcz⟩:=Kj hT
    rw[hx] at hr
    simp only[Rep] at hr
    obtain ⟨vs,he,hrl⟩:=hr
    have hlen:=hrl.length
    rw[UK,Nat.one_mul] at hfit
    rw[he,hk]
    cases hagg:ty.isAgg with
    | true =>
     refine .val I (v:=.agg ((vs.toArray).extract (i.toNat*sz) (i.toNat*sz+sz))) ?_ ?_
     ·simp[Instr.index,run_underlying hu,asIntOf,h0,hn,part,asAgg,Ki hty,hagg,Y1 hty,hsz]
     ·simp only[ZP,if_true,Rep]
      refine ⟨(vs.drop (i.toNat*sz)).take sz,?_,(hrl.drop (i.toNat*sz)).take sz⟩
      congr 1
      apply Array.ext'
      simp[List.extract_eq_take_drop]
    | false =>
     have h1:sz=1:=by rcases hag with h | h;(rw[hagg] at h;cases h);exact h
     subst h1
     obtain ⟨x0,hx0,hr0⟩:=hrl.get (i.toNat*1) (cs[i.toNat*1]'(by omega)) (by simp)
     refine .val I (v:=x0) ?_ ?_
     ·simp[Instr.index,run_underlying hu,asIntOf,h0,hn,part,asAgg,Ki hty,hagg,Y1 hty,hsz]
      have:vs[i.toNat]? = some x0:=by rw[← hx0,Nat.mul_one]
      simp[this]
     ·simp only[ZP,Ie,if_false]
      have:((cs.drop (i.toNat*1)).take 1).headD .any=cs[i.toNat*1]'(by omega):=by
       rw[List.take_one]
       have hl:i.toNat<cs.length:=by omega
       simp[List.head?_drop,hl]
      rw[this];exact hr0
   ·cases h
  ·cases h
 ·cases h
theorem Xe9 (I:Iw P C s U M β w) (_hv:¬ U ver) {dst:Option Tmp} {type:TypeId} {pos:String} {after:Array Edge} {guard:Option (Nat×Bool)} (ρ:Operand->Value) (t:Operand->D) (hρ:∀ x,Rep P M β (t x) (ρ x)) {c:Prop} {d:D} {u:Up} (x:Operand) (i:Nat)
 (h:opF P dst ver t s (.extract x i)=some (c,d,u)) (hc:c):OpOK P C s u U ver M β ((execOp ρ ⟨dst,(.extract x i),type,pos,after,guard⟩).run P w) d:=by
 unfold execOp
 simp only
 simp only[opF] at h
 have hr:=hρ x
 split at h
 ·rename_i ds hx
  split at h
  ·rename_i hi
   simp only[Wb,Wi] at h
   obtain ⟨rfl,rfl,rfl⟩:=h
   rw[hx] at hr
   simp only[Rep] at hr
   obtain ⟨vs,he,hrl⟩:=hr
   obtain ⟨v,hv1,hv2⟩:=hrl.get i ds[i] (by simp[hi])
   refine .val I (v:=v) ?_ ?_
   ·rw[he];simp[Instr.extract,hv1]
   ·rw[Wk,Wc hi];exact hv2
  ·cases h
 ·cases h
theorem VK {t:Operand->D} {ρ:Operand->Value} (hρ:∀ x,Rep P M β (t x) (ρ x)) {args:Array Operand} {d:D} (h:args.toList.map t=[d]):∃ v,args.map ρ=#[v]/\Rep P M β d v:=by
 obtain ⟨l⟩:=args
 match l,h with
 | [x],h =>
  obtain rfl:t x=d:=by simpa using h
  exact ⟨ρ x,by simp,hρ x⟩
theorem VL {t:Operand->D} {ρ:Operand->Value} (hρ:∀ x,Rep P M β (t x) (ρ x)) {args:Array Operand} {d e:D} (h:args.toList.map t=[d,e]):∃ v u,args.map ρ=#[v,u]/\Rep P M β d v/\Rep P M β e u:=by
 obtain ⟨l⟩:=args
 match l,h with
 | [x,y],h =>
  obtain ⟨rfl,rfl⟩:t x=d/\t y=e:=by simpa using h
  exact ⟨ρ x,ρ y,by simp,hρ x,hρ y⟩
theorem Xai {types:Array TypeId} {T:TypeId} (h:types.toList=[T]):types=#[T]:=by
 obtain ⟨l⟩:=types;simp at h;simp[h]
theorem Xg5 {types:Array TypeId} {T T2:TypeId} (h:types.toList=[T,T2]):types=#[T,T2]:=by
 obtain ⟨l⟩:=types;simp at h;simp[h]
theorem Jl {n:Nat} (h:n<=Xn):wfV (.int .i64 n):=by
 simp only[wfV,IntKind.min,IntKind.max,IntKind.signed,IntKind.bits,if_true]
 simp only[Xn] at h
 omega
theorem Xmz (I:Iw P C s U M β w) {dst:Option Tmp} {type:TypeId} {pos:String} {after:Array Edge} {guard:Option (Nat×Bool)} (ρ:Operand->Value) (t:Operand->D) (hρ:∀ x,Rep P M β (t x) (ρ x)) {c:Prop} {d:D} {u:Up} (args:Array Operand) (types:Array TypeId)
 (h:opF P dst ver t s (.call ⟨.builtin .len,args,types⟩)=some (c,d,u)) (hc:c):OpOK P C s u U ver M β ((execOp ρ ⟨dst,.call ⟨.builtin .len,args,types⟩,type,pos,after,guard⟩).run P w) d:=by
 simp only[opF] at h
 split at h
 ·rename_i d0 T ha ht
  obtain ⟨v,hv,hr⟩:=VK hρ ha
  have hty:=Xai ht
  subst hty
  have start:∀ r:Int,(Builtin.len_ #[T] type #[v]).run P w=.ok (.int .i64 r) w->(execOp ρ ⟨dst,.call ⟨.builtin .len,args,#[T]⟩,type,pos,after,guard⟩).run P w=.ok (.value (.int .i64 r)) w:=by
   intro r hrun
   simp[execOp,resolve,invoke,builtin,hv,hrun]
  split at h
  ·rename_i a b zz E sz hT
   simp only[Wb,Wi] at h
   obtain ⟨rfl,rfl,rfl⟩:=h
   simp only[Rep] at hr
   obtain ⟨a',rfl⟩:=hr
   exact .val I (v:=.int .i64 0) (start 0 (by simp[Builtin.len_,run_underlying (X7 hT).1,goInt])) (YW _ _ (Jl (n:=0) (by decide)))
  ·rename_i a b zz E sz E' z es hT
   simp only[Wb,Wi] at h
   obtain ⟨rfl,rfl,rfl⟩:=h
   simp only[Rep] at hr
   obtain ⟨_,h2,_,a',cap,rfl,_⟩:=hr
   exact .val I (v:=.int .i64 es.length) (start _ (by simp[Builtin.len_,run_underlying (X7 hT).1,goInt])) (YW _ _ (Jl h2))
  ·rename_i a b zz E sz id v' z off len hT
   simp only[Wb,Wi] at h
   obtain ⟨rfl,rfl,rfl⟩:=h
   have hv2:∃ a cap,v=.slice a len cap:=by
    simp only[Rep] at hr
    rcases hr with ⟨_,_,rfl,a,rfl⟩ | ⟨_,_,_,cap,_,rfl,_⟩
    ·exact ⟨_,_,rfl⟩
    ·exact ⟨_,_,rfl⟩
   obtain ⟨a',cap,rfl⟩:=hv2
   exact .val I (v:=.int .i64 len) (start _ (by simp[Builtin.len_,run_underlying (X7 hT).1,goInt])) (YW _ _ (Jl hc))
  ·rename_i a b zz n E sz hT
   split at h
   ·rename_i hn
    simp only[Wb,Wi] at h
    obtain ⟨rfl,rfl,rfl⟩:=h
    exact .val I (v:=.int .i64 n) (start _ (by simp[Builtin.len_,run_underlying (Kj hT).1,goInt])) (YW _ _ (Jl hn))
   ·cases h
  ·rename_i id v0 _
   split at h
   ·rename_i k E v' k2 es hT hs
    split at h
    ·rename_i hcond
     obtain ⟨rfl,rfl⟩:=hcond
     simp only[Wb,Wi] at h
     obtain ⟨rfl,rfl,rfl⟩:=h
     obtain ⟨K,hT1,hT2⟩:=ZS hT
     simp only[Rep] at hr
     obtain ⟨b,cb,hb,rfl⟩:=hr
     obtain ⟨x0,hx0,hob⟩:=I.obs id v0 _ hs
     rw[hb] at hx0
     obtain rfl:some (b,cb)=x0:=by simpa using hx0
     obtain ⟨rfl,h1,h2,ents,clock,h3,h4,h5,h6⟩:=hob
     have hl:=h4.length
     have hl':ents.size=es.length:=by simpa using hl
     exact .val I (v:=.int .i64 es.length) (start _ (by simp[Builtin.len_,run_underlying hT1,goInt,Go.MapKept.run_getObj_map h3,hl'])) (YW _ _ (Jl h1))
    ·cases h
   ·cases h
  ·cases h
 ·cases h
theorem Xg6 (I:Iw P C s U M β w) {dst:Option Tmp} {type:TypeId} {pos:String} {after:Array Edge} {guard:Option (Nat×Bool)} (ρ:Operand->Value) (t:Operand->D) (hρ:∀ x,Rep P M β (t x) (ρ x)) {c:Prop} {d:D} {u:Up} (args:Array Operand) (types:Array TypeId)
 (h:opF P dst ver t s (.call ⟨.builtin .delete,args,types⟩)=some (c,d,u)) (_hc:c):OpOK P C s u U ver M β ((execOp ρ ⟨dst,.call ⟨.builtin .delete,args,types⟩,type,pos,after,guard⟩).run P w) d:=by
 simp only[opF] at h
 split at h
 ·rename_i id v k' n T ts ha ht
  obtain ⟨v1,v2,hvs,hr1,hr2⟩:=VL hρ ha
  obtain ⟨tl⟩:=types
  simp only at ht
  subst ht
  split at h
  ·rename_i k E v' k2 es hT hs
   split at h
   ·rename_i hcond
    obtain ⟨rfl,rfl,rfl⟩:=hcond
    simp only[Wb,Wi] at h
    obtain ⟨rfl,rfl,rfl⟩:=h
    obtain ⟨K,hT1,hT2⟩:=ZS hT
    simp only[Rep] at hr1 hr2
    obtain ⟨b,cb,hb,rfl⟩:=hr1
    obtain ⟨rfl,_⟩:=hr2
    obtain ⟨x0,hx0,hob⟩:=I.obs id v _ hs
    rw[hb] at hx0
    obtain rfl:some (b,cb)=x0:=by simpa using hx0
    obtain ⟨rfl,h1,h2,ents,clock,h3,h4,h5,h6⟩:=hob
    have start:∀ a,Instr.findNow (.int k) (.int k n) ents.toList 0=some a->(Builtin.delete_ ⟨T::ts⟩ type #[.map (some b),.int k n]).run P w =
     .ok (.tuple #[]) { w with heap:=w.heap.setIfInBounds b (.map (match a with | some (i,_)=>ents.eraseIdxIfInBounds i | none=>ents) clock) }:=by
     intro a ha
     unfold Builtin.delete_
     cases a with
     | none=>simp[run_underlying hT1,Go.MapKept.run_getObj_map h3,Go.MapKept.run_checkKey hT2 (J3 k n),Go.MapKept.run_findKey hT2 ha,Go.MapKept.run_setObj_map _ h3]
     | some y=>simp[run_underlying hT1,Go.MapKept.run_getObj_map h3,Go.MapKept.run_checkKey hT2 (J3 k n),Go.MapKept.run_findKey hT2 ha,Go.MapKept.run_setObj_map _ h3]
    have start2:∀ a,Instr.findNow (.int k) (.int k n) ents.toList 0=some a->(execOp ρ ⟨dst,.call ⟨.builtin .delete,args,⟨T::ts⟩⟩,type,pos,after,guard⟩).run P w =
     .ok (.value (.tuple #[])) { w with heap:=w.heap.setIfInBounds b (.map (match a with | some (i,_)=>ents.eraseIdxIfInBounds i | none=>ents) clock) }:=by
     intro a ha
     simp[execOp,resolve,invoke,builtin,hvs,start a ha]
    rcases VJ n ents.toList es 0 h4 with ⟨g1,g2,g3,g4⟩ | ⟨j,e,d0,g1,g2,g3,g4,g5,g6,g7,g8,g9⟩
    ·refine ⟨M,β,_,.tuple #[],.inl (start2 _ g4),?_,by simp[Rep,RepL],MLe.refl _,BLe.refl _⟩
     rw[g2]
     exact (I.setMap hs hb h3 h1 h4 h5 h6).mono λ _ h=>.inl h
    ·have hle:(ents.eraseIdxIfInBounds (0+j)).toList=ents.toList.eraseIdx j:=by
      have hj:j<ents.size:=by
       rcases Uk j ents.size with h' | h'
       ·exact h'
       ·rw[WK (by simpa using h')] at g3;cases g3
      rw[UM]
      simp[Array.eraseIdxIfInBounds,hj]
     refine ⟨M,β,_,.tuple #[],.inl (start2 _ g2),?_,by simp[Rep,RepL],MLe.refl _,BLe.refl _⟩
     refine (I.setMap hs hb h3 (by omega) (by rw[hle];exact g7) ?_ ?_).mono λ _ h=>.inl h
     ·rw[hle]
      exact h5.sublist ((List.eraseIdx_sublist _ _).map _)
     ·intro e' he'
      rw[hle] at he'
      exact h6 e' (List.mem_of_mem_eraseIdx he')
   ·cases h
  ·cases h
 ·cases h
theorem XmA (I:Iw P C s U M β w) {dst:Option Tmp} {type:TypeId} {pos:String} {after:Array Edge} {guard:Option (Nat×Bool)} (ρ:Operand->Value) (t:Operand->D) (hρ:∀ x,Rep P M β (t x) (ρ x)) {c:Prop} {d:D} {u:Up} (args:Array Operand) (types:Array TypeId)
 (h:opF P dst ver t s (.call ⟨.builtin .cap,args,types⟩)=some (c,d,u)) (_hc:c):OpOK P C s u U ver M β ((execOp ρ ⟨dst,.call ⟨.builtin .cap,args,types⟩,type,pos,after,guard⟩).run P w) d:=by
 simp only[opF] at h
 split at h
 ·rename_i d0 T ha ht
  obtain ⟨v,hv,hr⟩:=VK hρ ha
  have hty:=Xai ht
  subst hty
  split at h
  ·rename_i a b zz E sz hT
   simp only[Wb,Wi] at h
   obtain ⟨rfl,rfl,rfl⟩:=h
   simp only[Rep] at hr
   obtain ⟨a',rfl⟩:=hr
   exact .val I (v:=.int .i64 0) (by simp[execOp,resolve,invoke,builtin,hv,Builtin.cap_,run_underlying (X7 hT).1,goInt]) (YW _ _ (Jl (n:=0) (by decide)))
  ·cases h
 ·cases h
theorem XmB (I:Iw P C s U M β w) {dst:Option Tmp} {type:TypeId} {pos:String} {after:Array Edge} {guard:Option (Nat×Bool)} (ρ:Operand->Value) (t:Operand->D) (hρ:∀ x,Rep P M β (t x) (ρ x)) {c:Prop} {d:D} {u:Up} (args:Array Operand) (types:Array TypeId)
 (h:opF P dst ver t s (.call ⟨.builtin .min,args,types⟩)=some (c,d,u)) (_hc:c):OpOK P C s u U ver M β ((execOp ρ ⟨dst,.call ⟨.builtin .min,args,types⟩,type,pos,after,guard⟩).run P w) d:=by
 simp only[opF] at h
 split at h
 ·rename_i j a k b ha
  split at h
  ·rename_i hk
   subst hk
   obtain ⟨v1,v2,hv,hr1,hr2⟩:=VL hρ ha
   simp only[Wb,Wi] at h
   obtain ⟨rfl,rfl,rfl⟩:=h
   simp only[Rep] at hr1 hr2
   obtain ⟨rfl,w1⟩:=hr1
   obtain ⟨rfl,w2⟩:=hr2
   refine .val I (v:=.int j (if b<a then b else a)) (by simp[execOp,resolve,invoke,builtin,hv,Builtin.min_,Builtin.min2]) (YW _ _ ?_)
   split<;>assumption
  ·cases h
 ·cases h
theorem XmC (I:Iw P C s U M β w) {dst:Option Tmp} {type:TypeId} {pos:String} {after:Array Edge} {guard:Option (Nat×Bool)} (ρ:Operand->Value) (t:Operand->D) (hρ:∀ x,Rep P M β (t x) (ρ x)) {c:Prop} {d:D} {u:Up} (args:Array Operand) (types:Array TypeId)
 (h:opF P dst ver t s (.call ⟨.builtin .max,args,types⟩)=some (c,d,u)) (_hc:c):OpOK P C s u U ver M β ((execOp ρ ⟨dst,.call ⟨.builtin .max,args,types⟩,type,pos,after,guard⟩).run P w) d:=by
 simp only[opF] at h
 split at h
 ·rename_i j a k b ha
  split at h
  ·rename_i hk
   subst hk
   obtain ⟨v1,v2,hv,hr1,hr2⟩:=VL hρ ha
   simp only[Wb,Wi] at h
   obtain ⟨rfl,rfl,rfl⟩:=h
   simp only[Rep] at hr1 hr2
   obtain ⟨rfl,w1⟩:=hr1
   obtain ⟨rfl,w2⟩:=hr2
   refine .val I (v:=.int j (if a<b then b else a)) (by simp[execOp,resolve,invoke,builtin,hv,Builtin.max_,Builtin.max2]) (YW _ _ ?_)
   split<;>assumption
  ·cases h
 ·cases h
theorem Xg7 (I:Iw P C s U M β w) (hv:¬ U ver) {dst:Option Tmp} {type:TypeId} {pos:String} {after:Array Edge} {guard:Option (Nat×Bool)} (ρ:Operand->Value) (t:Operand->D) (hρ:∀ x,Rep P M β (t x) (ρ x)) {c:Prop} {d:D} {u:Up} (args:Array Operand) (types:Array TypeId)
 (h:opF P dst ver t s (.call ⟨.builtin .append,args,types⟩)=some (c,d,u)) (hc:c):OpOK P C s u U ver M β ((execOp ρ ⟨dst,.call ⟨.builtin .append,args,types⟩,type,pos,after,guard⟩).run P w) d:=by
 simp only[opF] at h
 split at h
 ·rename_i d0 x0 T T2 ha ht
  obtain ⟨v1,v2,hvs,hr1,hr2⟩:=VL hρ ha
  have hty:=Xg5 ht
  subst hty
  have start:∀ {d u},VOK P C s u U ver M β ((Builtin.append_ #[T,T2] type #[v1,v2]).run P w) d->OpOK P C s u U ver M β ((execOp ρ ⟨dst,.call ⟨.builtin .append,args,#[T,T2]⟩,type,pos,after,guard⟩).run P w) d:=by
   intro d u hk
   have:=VOK.op (sem:=Builtin.append_ #[T,T2] type #[v1,v2]) hk
   have e:(execOp ρ ⟨dst,.call ⟨.builtin .append,args,#[T,T2]⟩,type,pos,after,guard⟩).run P w=((do pure (Next.value (← Builtin.append_ #[T,T2] type #[v1,v2])):Sem Next)).run P w:=by
    simp[execOp,resolve,invoke,builtin,hvs]
   rw[e];exact this
  split at h
  ·rename_i a b zz E z hT
   split at h
   ·rename_i te hE
    split at h
    ·rename_i zc hzc
     split at h
     ·rename_i hcond
      obtain ⟨hz,hzl⟩:=hcond
      obtain ⟨z1,z2⟩:=Y6 (P:=P) (M:=M) (β:=β) hzc
      have hzs:te.zero.cells.size=te.size:=by have:=z1.length;simp at this;omega
      split at h
      ·rename_i a2 b2 zz2 E2 sz2 hT2
       split at h
       ·rename_i c0 src hel
        have hc0:c0:=by
         unfold Xcf at h
         split at h
         ·simp only[Wb,Wi] at h;rw[← h.1] at hc;exact hc.1
         ·split at h
          ·split at h
           ·split at h
            ·simp only[Wb,Wi] at h;rw[← h.1] at hc;exact hc.1
            ·simp only[Wb,Wi] at h;rw[← h.1] at hc;exact hc.1
           ·cases h
          ·cases h
         ·cases h
        obtain ⟨base,cap,vals,rfl,e1,e2,e3,e4,e5,e6⟩:=Xh4 I hel hc0 hr2
        have R:=Xdc (w:=w) (o':=type) (X7 hT).1 (X7 hT2).1 hE (xb:=base) (m:=src.length) (xc:=cap) (vals:=vals) (by rw[hz];exact e2) e3 e4 e6
        exact start (XfZ I hv hE hz hzc hzl e1 e5 e6 R h hc hr1)
       ·cases h
      ·rename_i a2 b2 zz2 k2 hT2
       split at h
       ·rename_i n hn
        have hc0:(0<=n/\n<=Xn/\n.toNat*te.bytes<=Xn):=by
         unfold Xcf at h
         split at h
         ·simp only[Wb,Wi] at h;rw[← h.1] at hc;exact hc.1
         ·split at h
          ·split at h
           ·split at h
            ·simp only[Wb,Wi] at h;rw[← h.1] at hc;exact hc.1
            ·simp only[Wb,Wi] at h;rw[← h.1] at hc;exact hc.1
           ·cases h
          ·cases h
         ·cases h
        obtain ⟨g0,g1,g2⟩:=hc0
        obtain ⟨k',hk',_⟩:=Jj hn hr2
        subst hk'
        have hvl:(if n.toNat*te.size=0 then ([]:List Value) else (Builtin.zeroCells te.zero.cells n.toNat).toList)=(Builtin.zeroCells te.zero.cells n.toNat).toList:=by
         split
         ·rename_i h0
          refine (WR ?_).symm
          rw[Ip,Ya,hzs];exact h0
         ·rfl
        have hone:∀ v∈(Builtin.zeroCells te.zero.cells n.toNat).toList,v.oneCell'=true:=λ v hv=>Y7 z2 n.toNat v (by simpa using hv)
        have R:=XdS (w:=w) (o':=type) (k':=k') (X7 hT).1 (J1 hT2) hE g0 g1 g2 (vals:=(Builtin.zeroCells te.zero.cells n.toNat).toList) hvl.symm hone hzs
        exact start (XfZ I hv hE hz hzc hzl (YL _ _ _ hzl) (J2 hzc n.toNat) hone (by rw[Uc];exact R) h hc hr1)
       ·cases h
      ·cases h
     ·cases h
    ·cases h
   ·cases h
  ·cases h
 ·cases h
theorem Xif (I:Iw P C s U M β w) {dst:Option Tmp} {type:TypeId} {pos:String} {after:Array Edge} {guard:Option (Nat×Bool)} (ρ:Operand->Value) (t:Operand->D) (hρ:∀ x,Rep P M β (t x) (ρ x)) {c:Prop} {d:D} {u:Up} (args:Array Operand) (types:Array TypeId)
 (h:opF P dst ver t s (.call ⟨.builtin .clear,args,types⟩)=some (c,d,u)) (hc:c):OpOK P C s u U ver M β ((execOp ρ ⟨dst,.call ⟨.builtin .clear,args,types⟩,type,pos,after,guard⟩).run P w) d:=by
 simp only[opF] at h
 split at h
 ·rename_i id v z off len T ha ht
  obtain ⟨v1,hvs,hr1⟩:=VK hρ ha
  have hty:=Xai ht
  subst hty
  split at h
  ·rename_i a b zz E sz hT
   split at h
   ·rename_i te hE
    split at h
    ·rename_i zc v' E' z' es fz hzc hs
     split at h
     ·rename_i hcond
      obtain ⟨rfl,rfl,rfl,hz,hzl⟩:=hcond
      simp only[Wb,Wi] at h
      obtain ⟨rfl,rfl,rfl⟩:=h
      obtain ⟨hfit,hfz⟩:=hc
      obtain ⟨hu,hcz⟩:=X7 hT
      have start:∀ {w'},(Builtin.clear_ #[T] type #[v1]).run P w=.ok (.tuple #[]) w'->(execOp ρ ⟨dst,.call ⟨.builtin .clear,args,#[T]⟩,type,pos,after,guard⟩).run P w=.ok (.value (.tuple #[])) w':=by
       intro w' hk
       simp[execOp,resolve,invoke,builtin,hvs,hk]
      have same:len=0->upd s id (some (v,.arr false E' z (es.take off++List.replicate len zc++es.drop (off+len)) fz))=s:=by
       rintro rfl
       funext i
       unfold upd
       split
       ·rename_i e;subst e;rw[hs];simp
       ·rfl
      have nil:∀ {a cap},len=0->v1=.slice a 0 cap->OpOK P C s [(id,v,.arr false E' z (es.take off++List.replicate len zc++es.drop (off+len)) fz)] U ver M β ((execOp ρ ⟨dst,.call ⟨.builtin .clear,args,#[T]⟩,type,pos,after,guard⟩).run P w) (.tup []):=by
       intro a cap h0 h1
       subst h1
       refine ⟨M,β,w,.tuple #[],.inl (start ?_),?_,by simp[Rep,RepL],MLe.refl _,BLe.refl _⟩
       ·unfold Builtin.clear_
        cases a<;>simp[run_underlying hu]
       ·rw[Xkr,same h0];exact I.mono λ _ h=>.inl h
      obtain ⟨x0,hx0,hob⟩:=I.obs id v _ hs
      simp only[Rep] at hr1
      rcases hr1 with ⟨hn,h1,h2,a,rfl⟩ | ⟨bb,cb,o,cap,hb1,rfl,hcap,hcb,ho⟩
      ·exact nil h2 rfl
      ·rw[hb1] at hx0
       obtain rfl:some (bb,cb)=x0:=by simpa using hx0
       obtain ⟨cs,T0,k1,k2,k3,k4,k5,k6,k7,k8,k9,k10⟩:=hob
       by_cases h0:len=0
       ·subst h0;exact nil rfl rfl
       have ho':o=off*z:=by rcases ho with h | h;exact h;omega
       subst ho'
       obtain ⟨z1,z2⟩:=Y6 (P:=P) (M:=M) (β:=Yg) hzc
       have hzs:te.zero.cells.size=z:=by have:=z1.length;simp at this;omega
       have hvl:(Builtin.zeroCells te.zero.cells len).toList.length=(List.replicate len zc).length*z:=by
        rw[Ip,Ya,Uc,hzs]
       have hone:∀ x∈(Builtin.zeroCells te.zero.cells len).toList,x.oneCell'=true:=λ x hx=>Y7 z2 len x (by simpa using hx)
       have hmul:(off+len)*z<=cb*z:=Uh _ (by omega)
       rw[UK] at hmul
       have hst:=run_storeCells_at P bb (off*z) T0 (Builtin.zeroCells te.zero.cells len).toList 0 cs w k1 (by rw[hvl,Uc];omega) hone
       simp only[I8] at hst
       have I':=I.seg (p:=off) (src:=List.replicate len zc) hs hb1 k1 k2 k3 k4 k8 (by simpa [XaT] using k10) (λ e he=>by rw[(List.mem_replicate.1 he).2];exact hzl) hvl (J2 hzc len) hone (by rw[Uc];exact hfit) hfz
       rw[Uc] at I'
       refine ⟨M,β,_,.tuple #[],.inl (start ?_),(by rw[Xkr];exact I'.mono λ _ h=>.inl h),by simp[Rep,RepL],MLe.refl _,BLe.refl _⟩
       unfold Builtin.clear_
       cases len with
       | zero=>exact absurd rfl h0
       | succ len=>simp[run_underlying hu,KX hE,hst]
     ·cases h
    ·cases h
   ·cases h
  ·cases h
 ·rename_i id v T ts ha ht
  obtain ⟨v1,hvs,hr1⟩:=VK hρ ha
  obtain ⟨tl⟩:=types
  simp only at ht
  subst ht
  split at h
  ·rename_i k E v' k2 es hT hs
   split at h
   ·rename_i hcond
    obtain ⟨rfl,rfl⟩:=hcond
    simp only[Wb,Wi] at h
    obtain ⟨rfl,rfl,rfl⟩:=h
    obtain ⟨K,hT1,hT2⟩:=ZS hT
    simp only[Rep] at hr1
    obtain ⟨b,cb,hb,rfl⟩:=hr1
    obtain ⟨x0,hx0,hob⟩:=I.obs id v _ hs
    rw[hb] at hx0
    obtain rfl:some (b,cb)=x0:=by simpa using hx0
    obtain ⟨rfl,h1,h2,ents,clock,h3,h4,h5,h6⟩:=hob
    have start:(execOp ρ ⟨dst,.call ⟨.builtin .clear,args,⟨T::ts⟩⟩,type,pos,after,guard⟩).run P w=.ok (.value (.tuple #[])) { w with heap:=w.heap.setIfInBounds b (.map #[] clock) }:=by
     have:(Builtin.clear_ ⟨T::ts⟩ type #[.map (some b)]).run P w=.ok (.tuple #[]) { w with heap:=w.heap.setIfInBounds b (.map #[] clock) }:=by
      unfold Builtin.clear_
      simp[run_underlying hT1,Go.MapKept.run_getObj_map h3,Go.MapKept.run_setObj_map _ h3]
     simp[execOp,resolve,invoke,builtin,hvs,this]
    refine ⟨M,β,_,.tuple #[],.inl start,?_,by simp[Rep,RepL],MLe.refl _,BLe.refl _⟩
    exact (I.setMap (es':=[]) (ents':=#[]) hs hb h3 (Ix _) rfl (by simp) (by simp)).mono λ _ h=>.inl h
   ·cases h
  ·cases h
 ·cases h
theorem Xig (I:Iw P C s U M β w) (hv:¬ U ver) (o:Oper) (ρ:Operand->Value) (t:Operand->D) (hρ:∀ x,Rep P M β (t x) (ρ x)) (hcn:∀ v,ρ (.const v)=v) {c:Prop} {d:D} {u:Up}
 (h:opF P o.dst ver t s o.op=some (c,d,u)) (hc:c):OpOK P C s u U ver M β ((execOp ρ o).run P w) d:=by
 obtain ⟨dst,op,type,pos,after,guard⟩:=o
 simp only at h
 cases op with
 | move x=>exact Xkw I hv ρ t hρ x h hc
 | assign x=>exact Xg3 I hv ρ t hρ x h hc
 | pick g a b=>exact Xkx I hv ρ t hρ g a b h hc
 | alloc T=>exact Xh8 I hv ρ t hρ T h hc
 | box T x=>exact Xmy I hv ρ t hρ T x h hc
 | build T parts=>exact Xh9 I hv ρ t hρ T parts h hc
 | buildSlice T n parts=>exact Xcj I hv ρ t hρ T n parts h hc
 | load T a=>exact Xky I hv ρ t hρ T a h hc
 | store T a x=>exact Xia I hv ρ t hρ T a x h hc
 | nilCheck x=>exact XdU I hv ρ t hρ x h hc
 | binOp op T x y yt=>exact Xib I hv ρ t hρ op T x y yt (λ v e=>by rw[e];exact hcn v) h hc
 | unOp op T x=>exact Xkz I hv ρ t hρ op T x h hc
 | convert S T x=>exact Xe8 I hv ρ t hρ S T x h hc
 | makeFunc fn first captured=>exact XdV I hv ρ t hρ fn first captured h hc
 | makeSlice T l cc=>exact Xdg I hv ρ t hρ T l cc h hc
 | slice T x lo hi mx=>exact Xic I hv ρ t hρ T x lo hi mx h hc
 | fieldAddr T x f=>exact Xdh I hv ρ t hρ T x f h hc
 | field T x f=>exact Xid I hv ρ t hρ T x f h hc
 | indexAddr T x ix=>exact Xdi I hv ρ t hρ T x ix h hc
 | index T x ix=>exact Xie I hv ρ t hρ T x ix h hc
 | makeMap T r=>exact Xe6 I hv ρ t hρ T r h hc
 | mapUpdate T m k x=>exact Xdf I hv ρ t hρ T m k x h hc
 | insert T m k x=>exact Xg1 I hv ρ t hρ T m k x h hc
 | lookup T m k ok=>exact Xg2 I hv ρ t hρ T m k ok h hc
 | extract x i=>exact Xe9 I hv ρ t hρ x i h hc
 | call cl =>
  obtain ⟨callee,args,types⟩:=cl
  cases callee with
  | value f=>simp[opF] at h
  | invoke r m=>simp[opF] at h
  | builtin b =>
   cases b with
   | len=>exact Xmz I ρ t hρ args types h hc
   | delete=>exact Xg6 I ρ t hρ args types h hc
   | clear=>exact Xif I ρ t hρ args types h hc
   | cap=>exact XmA I ρ t hρ args types h hc
   | min=>exact XmB I ρ t hρ args types h hc
   | max=>exact XmC I ρ t hρ args types h hc
   | append=>exact Xg7 I hv ρ t hρ args types h hc
   | _=>simp[opF] at h
 | _=>simp[opF] at h
end
end Go.Sx
namespace Go.Sx
variable {P:Program}
structure St where
 t:Nat->D
 s:Heap
 n:Nat
 k:Nat
def Rel (P:Program) (C:Cx) (st:St) (a:Act) (w:World):Prop :=
 a.defers=[]/\a.tmps.size=st.n/\∃ M β,BLe C.b0 β/\(∀ x,Rep P M β (st.t x) (a.tmps.getD x undef))/\Iw P C st.s (·<st.k) M β w
theorem Xfa {C:Cx} {s:Heap} {U:Nat->Prop} {M:Mem} {β:Loc} {w:World} (I:Iw P C s U M β w) {t:Nat->D} {a:Act} (h:∀ x,Rep P M β (t x) (a.tmps.getD x undef)) (x:Operand) :
 Rep P M β (ev t C.G x) (a.eval x):=by
 cases x with
 | tmp i=>exact h i
 | const v=>exact XaX v
 | global g =>
  simp only[ev,Act.eval]
  split
  ·rename_i cs hcs
   simp only[Rep]
   exact ⟨trivial,g,0,rfl,RepC.mono I.le (I.glob g cs hcs)⟩
  ·simp[Rep]
 | func f =>
  simp only[ev,Act.eval,Rep]
  exact ⟨[],[],rfl,by simp[RepL],by simp[RepL]⟩
def LB:Nat:=1000000
def Jm (lb:List (Nat×Nat)):Loc:=λ id v=>if v=0/\LB<=id then (lb[id-LB]?).map some else none
def Kv (ls:List Ob):Heap:=λ id=>if LB<=id then (ls[id-LB]?).map (λ o=>(0,o)) else none
mutual
def FrRep (P:Program) (M:Mem) (w:World) (B:Nat):D->Value->List (Option (Nat×Nat))->Prop
 | .fsl E z es,y,l=>(l=[none]/\es=[]/\∃ a,y=.slice a 0 0) \/
  ∃ b cb o,l=[some (b,cb)]/\B<=b/\y=.slice (some ⟨b,o,none⟩) es.length cb/\(o=0\/cb=0)/\ObRep P M Yg w (some (b,cb)) (.arr false E z es 0)
 | .fmp k ks vs,y,l=>∃ b,l=[some (b,0)]/\B<=b/\y=.map (some b)/\ks.length=vs.length/\ObRep P M Yg w (some (b,0)) (.mp k (ks.zip vs))
 | .agg cs,y,l=>∃ vs,y=.agg ⟨vs⟩/\FrRepL P M w B cs vs l
 | .tup cs,y,l=>∃ vs,y=.tuple ⟨vs⟩/\FrRepL P M w B cs vs l
 | .ifc t d,y,l=>∃ x,y=.iface t x/\FrRep P M w B d x l
 | .clo fn a b,y,l=>∃ va vb,y=.func fn ⟨va⟩ ⟨vb⟩/\∃ l1 l2,l=l1++l2/\FrRepL P M w B a va l1/\FrRepL P M w B b vb l2
 | .any,_,l=>l=[]
 | .v x,y,l=>l=[]/\Rep P M Yg (.v x) y
 | .nsl,y,l=>l=[]/\Rep P M Yg .nsl y
 | .isl E z es,y,l=>l=[]/\Rep P M Yg (.isl E z es) y
 | .ipt z cs c,y,l=>l=[]/\Rep P M Yg (.ipt z cs c) y
 | _,_,_=>False
def FrRepL (P:Program) (M:Mem) (w:World) (B:Nat):List D->List Value->List (Option (Nat×Nat))->Prop
 | [],vs,l=>vs=[]/\l=[]
 | d::ds,vs,l=>∃ x xs l1 l2,vs=x::xs/\l=l1++l2/\FrRep P M w B d x l1/\FrRepL P M w B ds xs l2
end
def XS (l:List (Option (Nat×Nat))):List Nat:=l.filterMap (·.map (·.1))
def XnK (P:Program) (M:Mem) (w:World) (lb:List (Nat×Nat)) (R:D->List Ob->Prop) (e:Ending) (w':World):Prop :=
 ∃ v r ls M' l,e=.returned v/\R r ls/\Kp w (lb.map (·.1)) w'/\MemOK M' w'/\(∀ b o,b<w.heap.size->M' b o=M b o)/\ls.length=lb.length /\
  (∀ (k:Nat) ob x,ls[k]? = some ob->lb[k]? = some x->ObRep P M' Yg w' (some x) ob/\ob.bx=true)/\FrRep P M' w' w.heap.size r v l/\(XS l).Nodup
def YF (P:Program) (G:Nat->Option (List D)) (f:FuncId) (args:List D) (lent:List Ob) (R:D->List Ob->Prop):Prop :=
 (∃ fn,P.funcs[f]? = some fn/\fn.body.isNone=false/\(fn.name== "runtime.NumGoroutine")=false) /\
 ∀ M w vs lb,MemOK M w->(∀ g cs,G g=some cs->RepC P M cs g 0)->lb.length=lent.length->(lb.map (·.1)).Nodup ->
  (∀ (k:Nat) ob x,lent[k]? = some ob->lb[k]? = some x->ObRep P M Yg w (some x) ob/\ob.bx=true)->RepL P M (Jm lb) args vs->Calls P f ⟨vs⟩ w (XnK P M w lb R)
mutual
def imp (ver:Nat):Nat->D->D×Nat×Up
 | n,.fsl E z es=>(.osl n ver z 0 es.length,n+1,[(n,ver,.arr false E z es 0)])
 | n,.fmp k ks vs=>(.omp n ver,n+1,[(n,ver,.mp k (ks.zip vs))])
 | n,.agg cs=>let r:=KP ver n cs;(.agg r.1,r.2.1,r.2.2)
 | n,.tup cs=>let r:=KP ver n cs;(.tup r.1,r.2.1,r.2.2)
 | n,.ifc t d=>let r:=imp ver n d;(.ifc t r.1,r.2.1,r.2.2)
 | n,.clo fn a b=>let r:=KP ver n a;let q:=KP ver r.2.1 b;(.clo fn r.1 q.1,q.2.1,r.2.2++q.2.2)
 | n,d=>(d,n,[])
def KP (ver:Nat):Nat->List D->List D×Nat×Up
 | n,[]=>([],n,[])
 | n,d::ds=>let r:=imp ver n d;let q:=KP ver r.2.1 ds;(r.1::q.1,q.2.1,r.2.2++q.2.2)
end
section
variable {C:Cx} {U:Nat->Prop} {M:Mem} {w:World} {ver:Nat}
def Xfb (s:Heap) (β:Loc) (l:List Nat):Prop:=∀ b∈l,∀ id v ob cb,s id=some (v,ob)->β id v≠some (some (b,cb))
structure O0 (P:Program) (C:Cx) (s:Heap) (U:Nat->Prop) (M:Mem) (β:Loc) (w:World) (ver n n':Nat) (u:Up) (l:List (Option (Nat×Nat))) (β':Loc):Prop where
 inv:Iw P C (app s u) (λ v=>U v\/v=ver) M β' w
 le:BLe β β'
 next:n<=n'
 high:∀ i,n'<=i->β' i ver=none
 free:∀ l',Xfb s β l'->(∀ b∈l',b∉XS l)->Xfb (app s u) β' l'
theorem O0.nil {s:Heap} {β:Loc} (I:Iw P C s U M β w) {n:Nat} (hi:∀ i,n<=i->β i ver=none):O0 P C s U M β w ver n n [] [] β :=
 ⟨I.mono λ _ h=>.inl h,BLe.refl _,WQ _,hi,λ _ h _=>h⟩
theorem ObRep.row {b cb:Nat} {ob:Ob} (h:ObRep P M Yg w (some (b,cb)) ob) (hb:ob.bx=false) (β:Loc):ObRep P M β w (some (b,cb)) ob:=by
 cases ob with
 | mp kk es=>exact h
 | arr bx E z es fz =>
  have:bx=false:=hb
  subst this
  exact h
theorem X0 (l1 l2:List (Option (Nat×Nat))):XS (l1++l2)=XS l1++XS l2:=by simp[XS]
mutual
theorem imp_ok {B:Nat} (hB:C.w0.heap.size<=B):∀ (d:D) (y:Value) (l:List (Option (Nat×Nat))) (n:Nat) {s:Heap} {U:Nat->Prop} {β:Loc},Iw P C s U M β w->(∀ i,n<=i->β i ver=none)->FrRep P M w B d y l->(XS l).Nodup->Xfb s β (XS l) ->
 ∃ β',O0 P C s U M β w ver n (imp ver n d).2.1 (imp ver n d).2.2 l β'/\Rep P M β' (imp ver n d).1 y
 | .fsl E z es,y,l,n,s,U,β,I,hi,hr,hnd,hf=>by
  simp only[FrRep] at hr
  simp only[imp]
  have hid:β n ver=none:=hi n (WQ _)
  rcases hr with ⟨rfl,rfl,a,rfl⟩ | ⟨b,cb,o,rfl,hb,rfl,ho,hob⟩
  ·refine ⟨ZF β n ver none,⟨I.setNil n ver E z (Zb hid) (XR ..) Zn,Zb hid,by omega,λ i h=>?_,λ l' h _=>?_⟩,?_⟩
   ·unfold ZF;rw[Wh (by omega)];exact hi i (by omega)
   ·intro b hb id v ob cb hs hx
    by_cases hn:id=n
    ·subst hn
     have hs':some (ver,Ob.arr false E z [] 0)=some (v,ob):=by rw[← hs];show _=upd s id _ id;rw[Yu]
     obtain ⟨rfl,rfl⟩:ver=v/\Ob.arr false E z [] 0=ob:=by simpa using hs'
     rw[XR] at hx;simp at hx
    ·have hs':s id=some (v,ob):=by rw[← hs];show _=upd s n _ id;rw[X5 _ _ _ _ hn]
     have hx':β id v=some (some (b,cb)):=by
      unfold ZF at hx;rw[Wh (λ h=>hn h.1)] at hx;exact hx
     exact h b hb id v ob cb hs' hx'
   ·simp only[Rep]
    exact .inl ⟨XR ..,by simp⟩
  ·have hfree:∀ id' v' ob' cb',id'≠n->s id'=some (v',ob')->β id' v'≠some (some (b,cb')):=λ id' v' ob' cb' _ hs=>hf b (by simp[XS]) id' v' ob' cb' hs
   have hob':=hob
   obtain ⟨cs,T,k1,k2,k3,k4,k5,k6,k7,k8,k9,k10⟩:=hob'
   have I':=I.set (M':=M) (β':=ZF β n ver (some (b,cb))) (w':=w) n ver (.arr false E z es 0) b cb (MLe.refl _) (Zb hid) (λ _ _=>rfl) (λ _ _ _=>rfl) (λ o x hx=>I.mem b o x hx) (XR ..) (hob.row rfl _) hfree (.inl (by omega)) (λ _ _=>rfl) rfl rfl rfl (WQ _) Zn
   refine ⟨ZF β n ver (some (b,cb)),⟨I',Zb hid,by omega,λ i h=>?_,λ l' h hl=>?_⟩,?_⟩
   ·unfold ZF;rw[Wh (by omega)];exact hi i (by omega)
   ·intro b' hb' id v ob cb' hs hx
    by_cases hn:id=n
    ·subst hn
     have hs':some (ver,Ob.arr false E z es 0)=some (v,ob):=by rw[← hs];show _=upd s id _ id;rw[Yu]
     obtain ⟨rfl,rfl⟩:ver=v/\Ob.arr false E z es 0=ob:=by simpa using hs'
     rw[XR] at hx
     obtain ⟨rfl,rfl⟩:b=b'/\cb=cb':=by simpa using hx
     exact hl b hb' (by simp[XS])
    ·have hs':s id=some (v,ob):=by rw[← hs];show _=upd s n _ id;rw[X5 _ _ _ _ hn]
     have hx':β id v=some (some (b',cb')):=by
      unfold ZF at hx;rw[Wh (λ h=>hn h.1)] at hx;exact hx
     exact h b' hb' id v ob cb' hs' hx'
   ·simp only[Rep]
    exact .inr ⟨b,cb,o,cb,XR ..,rfl,k4,by simp,by rcases ho with h | h;(left;simp[h]);right;exact h⟩
 | .fmp k ks vs,y,l,n,s,U,β,I,hi,hr,hnd,hf=>by
  simp only[FrRep] at hr
  simp only[imp]
  have hid:β n ver=none:=hi n (WQ _)
  obtain ⟨b,rfl,hb,rfl,hlen,hob⟩:=hr
  have hfree:∀ id' v' ob' cb',id'≠n->s id'=some (v',ob')->β id' v'≠some (some (b,cb')):=λ id' v' ob' cb' _ hs=>hf b (by simp[XS]) id' v' ob' cb' hs
  have I':=I.set (M':=M) (β':=ZF β n ver (some (b,0))) (w':=w) n ver (.mp k (ks.zip vs)) b 0 (MLe.refl _) (Zb hid) (λ _ _=>rfl) (λ _ _ _=>rfl) (λ o x hx=>I.mem b o x hx) (XR ..) (hob.row rfl _) hfree (.inl (by omega)) (λ _ _=>rfl) rfl rfl rfl (WQ _) Zn
  refine ⟨ZF β n ver (some (b,0)),⟨I',Zb hid,by omega,λ i h=>?_,λ l' h hl=>?_⟩,?_⟩
  ·unfold ZF;rw[Wh (by omega)];exact hi i (by omega)
  ·intro b' hb' id v ob cb' hs hx
   by_cases hn:id=n
   ·subst hn
    have hs':some (ver,Ob.mp k (ks.zip vs))=some (v,ob):=by rw[← hs];show _=upd s id _ id;rw[Yu]
    obtain ⟨rfl,rfl⟩:ver=v/\Ob.mp k (ks.zip vs)=ob:=by simpa using hs'
    rw[XR] at hx
    obtain ⟨rfl,rfl⟩:b=b'/\0=cb':=by simpa using hx
    exact hl b hb' (by simp[XS])
   ·have hs':s id=some (v,ob):=by rw[← hs];show _=upd s n _ id;rw[X5 _ _ _ _ hn]
    have hx':β id v=some (some (b',cb')):=by
     unfold ZF at hx;rw[Wh (λ h=>hn h.1)] at hx;exact hx
    exact h b' hb' id v ob cb' hs' hx'
  ·simp only[Rep]
   exact ⟨b,0,XR ..,rfl⟩
 | .agg cs,y,l,n,s,U,β,I,hi,hr,hnd,hf=>by
  simp only[FrRep] at hr
  obtain ⟨vs,rfl,hr⟩:=hr
  obtain ⟨β',h1,h2⟩:=VM hB cs vs l n I hi hr hnd hf
  exact ⟨β',h1,by simp only[imp,Rep];exact ⟨vs,rfl,h2⟩⟩
 | .tup cs,y,l,n,s,U,β,I,hi,hr,hnd,hf=>by
  simp only[FrRep] at hr
  obtain ⟨vs,rfl,hr⟩:=hr
  obtain ⟨β',h1,h2⟩:=VM hB cs vs l n I hi hr hnd hf
  exact ⟨β',h1,by simp only[imp,Rep];exact ⟨vs,rfl,h2⟩⟩
 | .ifc t d,y,l,n,s,U,β,I,hi,hr,hnd,hf=>by
  simp only[FrRep] at hr
  obtain ⟨x,rfl,hr⟩:=hr
  obtain ⟨β',h1,h2⟩:=imp_ok hB d x l n I hi hr hnd hf
  exact ⟨β',h1,by simp only[imp,Rep];exact ⟨x,rfl,h2⟩⟩
 | .clo fn a b,y,l,n,s,U,β,I,hi,hr,hnd,hf=>by
  simp only[FrRep] at hr
  obtain ⟨va,vb,rfl,l1,l2,rfl,hr1,hr2⟩:=hr
  rw[X0,IC] at hnd
  rw[X0] at hf
  obtain ⟨β1,h1,h2⟩:=VM hB a va l1 n I hi hr1 hnd.1 (λ x hx=>hf x (Uf _ hx))
  have hf2:Xfb (app s (KP ver n a).2.2) β1 (XS l2):=h1.free _ (λ x hx=>hf x (Uj _ hx)) (λ x hx hx'=>hnd.2.2 x hx' x hx rfl)
  obtain ⟨β2,h3,h4⟩:=VM hB b vb l2 (KP ver n a).2.1 h1.inv h1.high hr2 hnd.2.1 hf2
  refine ⟨β2,⟨?_,h1.le.trans h3.le,Ic h1.next h3.next,h3.high,λ l' hl' hb=>?_⟩,?_⟩
  ·simp only[imp];rw[YH];exact h3.inv.mono λ v hv=>by rcases hv with (hv | hv) | hv;exact .inl hv;exact .inr hv;exact .inr hv
  ·simp only[imp];rw[YH]
   refine h3.free _ (h1.free _ hl' λ x hx hx'=>hb x hx ?_) λ x hx hx'=>hb x hx ?_
   ·rw[X0];exact Uf _ hx'
   ·rw[X0];exact Uj _ hx'
  ·simp only[imp,Rep];exact ⟨va,vb,rfl,h2.mono (MLe.refl _) h3.le,h4⟩
 | .any,y,l,n,s,U,β,I,hi,hr,hnd,hf=>by
  simp only[FrRep] at hr;subst hr
  exact ⟨β,.nil I hi,by simp[imp,Rep]⟩
 | .v x,y,l,n,s,U,β,I,hi,hr,hnd,hf=>by
  simp only[FrRep] at hr;obtain ⟨rfl,hr⟩:=hr
  exact ⟨β,.nil I hi,hr.mono (MLe.refl _) (BLe.zero _)⟩
 | .nsl,y,l,n,s,U,β,I,hi,hr,hnd,hf=>by
  simp only[FrRep] at hr;obtain ⟨rfl,hr⟩:=hr
  exact ⟨β,.nil I hi,hr.mono (MLe.refl _) (BLe.zero _)⟩
 | .isl E z es,y,l,n,s,U,β,I,hi,hr,hnd,hf=>by
  simp only[FrRep] at hr;obtain ⟨rfl,hr⟩:=hr
  exact ⟨β,.nil I hi,hr.mono (MLe.refl _) (BLe.zero _)⟩
 | .ipt z cs c,y,l,n,s,U,β,I,hi,hr,hnd,hf=>by
  simp only[FrRep] at hr;obtain ⟨rfl,hr⟩:=hr
  exact ⟨β,.nil I hi,hr.mono (MLe.refl _) (BLe.zero _)⟩
 | .osl ..,y,l,n,s,U,β,I,hi,hr,hnd,hf=>by simp[FrRep] at hr
 | .ept ..,y,l,n,s,U,β,I,hi,hr,hnd,hf=>by simp[FrRep] at hr
 | .omp ..,y,l,n,s,U,β,I,hi,hr,hnd,hf=>by simp[FrRep] at hr
theorem VM {B:Nat} (hB:C.w0.heap.size<=B):∀ (ds:List D) (ys:List Value) (l:List (Option (Nat×Nat))) (n:Nat) {s:Heap} {U:Nat->Prop} {β:Loc},Iw P C s U M β w->(∀ i,n<=i->β i ver=none)->FrRepL P M w B ds ys l->(XS l).Nodup->Xfb s β (XS l) ->
 ∃ β',O0 P C s U M β w ver n (KP ver n ds).2.1 (KP ver n ds).2.2 l β'/\RepL P M β' (KP ver n ds).1 ys
 | [],ys,l,n,s,U,β,I,hi,hr,hnd,hf=>by
  simp only[FrRepL] at hr
  obtain ⟨rfl,rfl⟩:=hr
  exact ⟨β,.nil I hi,by simp[KP,RepL]⟩
 | d::ds,ys,l,n,s,U,β,I,hi,hr,hnd,hf=>by
  simp only[FrRepL] at hr
  obtain ⟨x,xs,l1,l2,rfl,rfl,hr1,hr2⟩:=hr
  rw[X0,IC] at hnd
  rw[X0] at hf
  obtain ⟨β1,h1,h2⟩:=imp_ok hB d x l1 n I hi hr1 hnd.1 (λ x hx=>hf x (Uf _ hx))
  have hf2:Xfb (app s (imp ver n d).2.2) β1 (XS l2):=h1.free _ (λ x hx=>hf x (Uj _ hx)) (λ x hx hx'=>hnd.2.2 x hx' x hx rfl)
  obtain ⟨β2,h3,h4⟩:=VM hB ds xs l2 (imp ver n d).2.1 h1.inv h1.high hr2 hnd.2.1 hf2
  refine ⟨β2,⟨?_,h1.le.trans h3.le,Ic h1.next h3.next,h3.high,λ l' hl' hb=>?_⟩,?_⟩
  ·simp only[KP];rw[YH];exact h3.inv.mono λ v hv=>by rcases hv with (hv | hv) | hv;exact .inl hv;exact .inr hv;exact .inr hv
  ·simp only[KP];rw[YH]
   refine h3.free _ (h1.free _ hl' λ x hx hx'=>hb x hx ?_) λ x hx hx'=>hb x hx ?_
   ·rw[X0];exact Uf _ hx'
   ·rw[X0];exact Uj _ hx'
  ·simp only[KP,RepL];exact ⟨x,xs,rfl,h2.mono (MLe.refl _) h3.le,h4⟩
end
end
end Go.Sx
namespace Go.Sx
variable {P:Program}
def pos:List Nat->Nat->Option Nat
 | [],_=>none
 | x::l,i=>if x=i then some 0 else (pos l i).map (·+1)
theorem Xf1:∀ {l:List Nat} {i j:Nat},pos l i=some j->l[j]? = some i
 | [],i,j,h=>by simp[pos] at h
 | x::l,i,j,h=>by
  unfold pos at h
  split at h
  ·rename_i hx;simp at h;subst h;simp[hx]
  ·simp only[WW] at h
   obtain ⟨k,hk,rfl⟩:=h
   simpa using Xf1 hk
theorem XdW:∀ {l:List Nat} {i:Nat},pos l i=none->i∉l
 | [],i,_=>by simp
 | x::l,i,h=>by
  unfold pos at h
  split at h
  ·cases h
  ·rename_i hx
   simp only[Option.map_eq_none_iff] at h
   simp only[UN,not_or]
   exact ⟨λ e=>hx e.symm,XdW h⟩
mutual
def lend (s:Heap):List Nat->D->Option (Prop×D×List Nat×List Nat)
 | ls,.ept id ver z i c=>match s id with
  | some (ver',.arr true _ z' [_] _)=>if ver=ver'/\z=z'/\i=0 then
   match pos ls id with
   | some j=>some (True,.ept (LB+j) 0 z 0 c,ls,[])
   | none=>some (True,.ept (LB+ls.length) 0 z 0 c,ls++[id],[])
   else none
  | _=>none
 | ls,.agg cs=>match Zc s ls cs with
  | some (c,ds,ls',l)=>some (c,.agg ds,ls',l)
  | none=>none
 | ls,.tup cs=>match Zc s ls cs with
  | some (c,ds,ls',l)=>some (c,.tup ds,ls',l)
  | none=>none
 | ls,.clo fn a b=>match Zc s ls a with
  | some (c,a',ls',l)=>match Zc s ls' b with
   | some (c',b',ls'',l')=>some (c/\c',.clo fn a' b',ls'',l++l')
   | none=>none
  | none=>none
 | ls,.ifc t d=>match lend s ls d with
  | some (c,e,ls',l)=>some (c,.ifc t e,ls',l)
  | none=>none
 | ls,d=>match snap s d with
  | some (c,e,l)=>some (c,e,ls,l)
  | none=>none
def Zc (s:Heap):List Nat->List D->Option (Prop×List D×List Nat×List Nat)
 | ls,[]=>some (True,[],ls,[])
 | ls,d::ds=>match lend s ls d with
  | some (c,e,ls',l)=>match Zc s ls' ds with
   | some (c',es,ls'',l')=>some (c/\c',e::es,ls'',l++l')
   | none=>none
  | none=>none
end
mutual
theorem lend_prefix {s:Heap}:∀ {d d':D} {ls ls':List Nat} {c:Prop} {l:List Nat},lend s ls d=some (c,d',ls',l)->ls <+: ls'
 | .ept id ver z i k,d',ls,ls',c,l,h=>by
  unfold lend at h
  split at h
  ·split at h
   ·split at h
    ·simp only[Wb,Wi] at h
     obtain ⟨_,_,rfl,_⟩:=h
     exact U9 _
    ·simp only[Wb,Wi] at h
     obtain ⟨_,_,rfl,_⟩:=h
     exact List.prefix_append _ _
   ·cases h
  ·cases h
 | .agg cs,d',ls,ls',c,l,h=>by
  unfold lend at h
  split at h
  ·rename_i hl
   simp only[Wb,Wi] at h
   obtain ⟨_,_,rfl,_⟩:=h
   exact YX hl
  ·cases h
 | .tup cs,d',ls,ls',c,l,h=>by
  unfold lend at h
  split at h
  ·rename_i hl
   simp only[Wb,Wi] at h
   obtain ⟨_,_,rfl,_⟩:=h
   exact YX hl
  ·cases h
 | .clo fn a b,d',ls,ls',c,l,h=>by
  unfold lend at h
  split at h
  ·rename_i h1
   split at h
   ·rename_i h2
    simp only[Wb,Wi] at h
    obtain ⟨_,_,rfl,_⟩:=h
    exact (YX h1).trans (YX h2)
   ·cases h
  ·cases h
 | .ifc t d,d',ls,ls',c,l,h=>by
  unfold lend at h
  split at h
  ·rename_i hl
   simp only[Wb,Wi] at h
   obtain ⟨_,_,rfl,_⟩:=h
   exact lend_prefix hl
  ·cases h
 | .osl id ver z off len,d',ls,ls',c,l,h=>by
  unfold lend at h
  split at h
  ·simp only[Wb,Wi] at h
   obtain ⟨_,_,rfl,_⟩:=h
   exact U9 _
  ·cases h
 | .any,d',ls,ls',c,l,h=>by
  unfold lend at h
  split at h
  ·simp only[Wb,Wi] at h
   obtain ⟨_,_,rfl,_⟩:=h
   exact U9 _
  ·cases h
 | .v x,d',ls,ls',c,l,h=>by
  unfold lend at h
  split at h
  ·simp only[Wb,Wi] at h
   obtain ⟨_,_,rfl,_⟩:=h
   exact U9 _
  ·cases h
 | .nsl,d',ls,ls',c,l,h=>by
  unfold lend at h
  split at h
  ·simp only[Wb,Wi] at h
   obtain ⟨_,_,rfl,_⟩:=h
   exact U9 _
  ·cases h
 | .isl E z es,d',ls,ls',c,l,h=>by
  unfold lend at h
  split at h
  ·simp only[Wb,Wi] at h
   obtain ⟨_,_,rfl,_⟩:=h
   exact U9 _
  ·cases h
 | .ipt z cs k,d',ls,ls',c,l,h=>by
  unfold lend at h
  split at h
  ·simp only[Wb,Wi] at h
   obtain ⟨_,_,rfl,_⟩:=h
   exact U9 _
  ·cases h
 | .fsl E z es,d',ls,ls',c,l,h=>by
  unfold lend at h
  split at h
  ·simp only[Wb,Wi] at h
   obtain ⟨_,_,rfl,_⟩:=h
   exact U9 _
  ·cases h
 | .fmp k ks vs,d',ls,ls',c,l,h=>by
  unfold lend at h
  split at h
  ·simp only[Wb,Wi] at h
   obtain ⟨_,_,rfl,_⟩:=h
   exact U9 _
  ·cases h
 | .omp id ver,d',ls,ls',c,l,h=>by
  unfold lend at h
  split at h
  ·simp only[Wb,Wi] at h
   obtain ⟨_,_,rfl,_⟩:=h
   exact U9 _
  ·cases h
theorem YX {s:Heap}:∀ {ds ds':List D} {ls ls':List Nat} {c:Prop} {l:List Nat},Zc s ls ds=some (c,ds',ls',l)->ls <+: ls'
 | [],ds',ls,ls',c,l,h=>by
  simp only[Zc,Wb,Wi] at h
  obtain ⟨_,_,rfl,_⟩:=h
  exact U9 _
 | d::ds,ds',ls,ls',c,l,h=>by
  unfold Zc at h
  split at h
  ·rename_i h1
   split at h
   ·rename_i h2
    simp only[Wb,Wi] at h
    obtain ⟨_,_,rfl,_⟩:=h
    exact (lend_prefix h1).trans (YX h2)
   ·cases h
  ·cases h
end
def Xbi (s:Heap) (ls:List Nat):Prop:=ls.Nodup/\∀ id∈ls,∃ v E z cs fz,s id=some (v,.arr true E z [cs] fz)
mutual
theorem lend_boxes {s:Heap}:∀ {d d':D} {ls ls':List Nat} {c:Prop} {l:List Nat},lend s ls d=some (c,d',ls',l)->Xbi s ls->Xbi s ls'
 | .ept id ver z i k,d',ls,ls',c,l,h=>by
  intro hb
  unfold lend at h
  split at h
  ·rename_i hs
   split at h
   ·split at h
    ·simp only[Wb,Wi] at h
     obtain ⟨_,_,rfl,_⟩:=h
     exact hb
    ·rename_i hp
     simp only[Wb,Wi] at h
     obtain ⟨_,_,rfl,_⟩:=h
     refine ⟨IC.2 ⟨hb.1,by simp,λ x hx y hy=>?_⟩,λ x hx=>?_⟩
     ·simp at hy;subst hy;rintro rfl;exact XdW hp hx
     ·simp only[WH,UT] at hx
      rcases hx with hx | rfl
      ·exact hb.2 x hx
      ·exact ⟨_,_,_,_,_,hs⟩
   ·cases h
  ·cases h
 | .agg cs,d',ls,ls',c,l,h=>by
  unfold lend at h
  split at h
  ·rename_i hl
   simp only[Wb,Wi] at h
   obtain ⟨_,_,rfl,_⟩:=h
   exact YT hl
  ·cases h
 | .tup cs,d',ls,ls',c,l,h=>by
  unfold lend at h
  split at h
  ·rename_i hl
   simp only[Wb,Wi] at h
   obtain ⟨_,_,rfl,_⟩:=h
   exact YT hl
  ·cases h
 | .clo fn a b,d',ls,ls',c,l,h=>by
  unfold lend at h
  split at h
  ·rename_i h1
   split at h
   ·rename_i h2
    simp only[Wb,Wi] at h
    obtain ⟨_,_,rfl,_⟩:=h
    exact λ hb=>YT h2 (YT h1 hb)
   ·cases h
  ·cases h
 | .ifc t d,d',ls,ls',c,l,h=>by
  unfold lend at h
  split at h
  ·rename_i hl
   simp only[Wb,Wi] at h
   obtain ⟨_,_,rfl,_⟩:=h
   exact lend_boxes hl
  ·cases h
 | .osl id ver z off len,d',ls,ls',c,l,h=>by
  unfold lend at h
  split at h
  ·simp only[Wb,Wi] at h
   obtain ⟨_,_,rfl,_⟩:=h
   exact λ h=>h
  ·cases h
 | .any,d',ls,ls',c,l,h=>by
  unfold lend at h
  split at h
  ·simp only[Wb,Wi] at h
   obtain ⟨_,_,rfl,_⟩:=h
   exact λ h=>h
  ·cases h
 | .v x,d',ls,ls',c,l,h=>by
  unfold lend at h
  split at h
  ·simp only[Wb,Wi] at h
   obtain ⟨_,_,rfl,_⟩:=h
   exact λ h=>h
  ·cases h
 | .nsl,d',ls,ls',c,l,h=>by
  unfold lend at h
  split at h
  ·simp only[Wb,Wi] at h
   obtain ⟨_,_,rfl,_⟩:=h
   exact λ h=>h
  ·cases h
 | .isl E z es,d',ls,ls',c,l,h=>by
  unfold lend at h
  split at h
  ·simp only[Wb,Wi] at h
   obtain ⟨_,_,rfl,_⟩:=h
   exact λ h=>h
  ·cases h
 | .ipt z cs k,d',ls,ls',c,l,h=>by
  unfold lend at h
  split at h
  ·simp only[Wb,Wi] at h
   obtain ⟨_,_,rfl,_⟩:=h
   exact λ h=>h
  ·cases h
 | .fsl E z es,d',ls,ls',c,l,h=>by
  unfold lend at h
  split at h
  ·simp only[Wb,Wi] at h
   obtain ⟨_,_,rfl,_⟩:=h
   exact λ h=>h
  ·cases h
 | .fmp k ks vs,d',ls,ls',c,l,h=>by
  unfold lend at h
  split at h
  ·simp only[Wb,Wi] at h
   obtain ⟨_,_,rfl,_⟩:=h
   exact λ h=>h
  ·cases h
 | .omp id ver,d',ls,ls',c,l,h=>by
  unfold lend at h
  split at h
  ·simp only[Wb,Wi] at h
   obtain ⟨_,_,rfl,_⟩:=h
   exact λ h=>h
  ·cases h
theorem YT {s:Heap}:∀ {ds ds':List D} {ls ls':List Nat} {c:Prop} {l:List Nat},Zc s ls ds=some (c,ds',ls',l)->Xbi s ls->Xbi s ls'
 | [],ds',ls,ls',c,l,h=>by
  simp only[Zc,Wb,Wi] at h
  obtain ⟨_,_,rfl,_⟩:=h
  exact λ h=>h
 | d::ds,ds',ls,ls',c,l,h=>by
  unfold Zc at h
  split at h
  ·rename_i h1
   split at h
   ·rename_i h2
    simp only[Wb,Wi] at h
    obtain ⟨_,_,rfl,_⟩:=h
    exact λ hb=>YT h2 (lend_boxes h1 hb)
   ·cases h
  ·cases h
end
section
variable {C:Cx} {s:Heap} {U:Nat->Prop} {M M':Mem} {β:Loc} {w:World}
def Xdj (s:Heap) (β:Loc) (ls:List Nat) (lb:List (Nat×Nat)):Prop :=
 ∀ (j:Nat) id,ls[j]? = some id->∃ v E z cs fz x,s id=some (v,.arr true E z [cs] fz)/\lb[j]? = some x/\β id v=some (some x)
mutual
theorem lend_rep (I:Iw P C s U M β w) (hM:MLe M M') {lsF:List Nat} {lbF:List (Nat×Nat)} (hL:Xdj s β lsF lbF):∀ {d d':D} {ls ls':List Nat} {c:Prop} {l:List Nat},lend s ls d=some (c,d',ls',l)->c->Frz s M' β w l->ls' <+: lsF ->
 ∀ {y:Value},Rep P M β d y->Rep P M' (Jm lbF) d' y
 | .ept id ver z i k,d',ls,ls',c,l,h,hc,hF,hp,y,hr=>by
  have key:∀ j,lsF[j]? = some id->i=0->(∃ E cs fz,s id=some (ver,.arr true E z [cs] fz))->Rep P M' (Jm lbF) (.ept (LB+j) 0 z 0 k) y:=by
   rintro j hj rfl ⟨E,cs,fz,hs⟩
   obtain ⟨v',E',z',cs',fz',x,hs',hx,hb⟩:=hL j id hj
   rw[hs] at hs'
   obtain ⟨rfl,_⟩:ver=v'/\_:=by simpa using hs'
   simp only[Rep] at hr ⊢
   obtain ⟨b,cb,hb',rfl⟩:=hr
   rw[hb] at hb'
   obtain rfl:x=(b,cb):=by simpa using hb'
   exact ⟨b,cb,by simp[Jm,hx],rfl⟩
  unfold lend at h
  split at h
  ·rename_i ver' E z' cs fz hs
   split at h
   ·rename_i hcond
    obtain ⟨rfl,rfl,hi⟩:=hcond
    split at h
    ·rename_i j hj
     simp only[Wb,Wi] at h
     obtain ⟨rfl,rfl,rfl,rfl⟩:=h
     refine key j ?_ hi ⟨_,_,_,hs⟩
     have:=Xf1 hj
     obtain ⟨t,rfl⟩:=hp
     rw[Ux]
     ·exact this
     ·rcases Uk j ls.length with h | h
      ·exact h
      ·rw[WK h] at this;cases this
    ·simp only[Wb,Wi] at h
     obtain ⟨rfl,rfl,rfl,rfl⟩:=h
     refine key ls.length ?_ hi ⟨_,_,_,hs⟩
     obtain ⟨t,rfl⟩:=hp
     simp
   ·cases h
  ·cases h
 | .agg cs,d',ls,ls',c,l,h,hc,hF,hp,y,hr=>by
  unfold lend at h
  split at h
  ·rename_i c' ds ls2 l' hl
   simp only[Wb,Wi] at h
   obtain ⟨rfl,rfl,rfl,rfl⟩:=h
   simp only[Rep] at hr ⊢
   obtain ⟨vs,e,hr⟩:=hr
   exact ⟨vs,e,Kl I hM hL hl hc hF hp hr⟩
  ·cases h
 | .tup cs,d',ls,ls',c,l,h,hc,hF,hp,y,hr=>by
  unfold lend at h
  split at h
  ·rename_i c' ds ls2 l' hl
   simp only[Wb,Wi] at h
   obtain ⟨rfl,rfl,rfl,rfl⟩:=h
   simp only[Rep] at hr ⊢
   obtain ⟨vs,e,hr⟩:=hr
   exact ⟨vs,e,Kl I hM hL hl hc hF hp hr⟩
  ·cases h
 | .clo fn a b,d',ls,ls',c,l,h,hc,hF,hp,y,hr=>by
  unfold lend at h
  split at h
  ·rename_i c1 a' ls1 l1 h1
   split at h
   ·rename_i c2 b' ls2 l2 h2
    simp only[Wb,Wi] at h
    obtain ⟨rfl,rfl,rfl,rfl⟩:=h
    simp only[Rep] at hr ⊢
    obtain ⟨va,vb,e,hr1,hr2⟩:=hr
    exact ⟨va,vb,e,Kl I hM hL h1 hc.1 (λ i hi=>hF i (Uf _ hi)) ((YX h2).trans hp) hr1,Kl I hM hL h2 hc.2 (λ i hi=>hF i (Uj _ hi)) hp hr2⟩
   ·cases h
  ·cases h
 | .ifc t d,d',ls,ls',c,l,h,hc,hF,hp,y,hr=>by
  unfold lend at h
  split at h
  ·rename_i c' e ls2 l' hl
   simp only[Wb,Wi] at h
   obtain ⟨rfl,rfl,rfl,rfl⟩:=h
   simp only[Rep] at hr ⊢
   obtain ⟨x,e,hr⟩:=hr
   exact ⟨x,e,lend_rep I hM hL hl hc hF hp hr⟩
  ·cases h
 | .osl id ver z off len,d',ls,ls',c,l,h,hc,hF,hp,y,hr=>by
  unfold lend at h
  split at h
  ·rename_i c' e l' hl
   simp only[Wb,Wi] at h
   obtain ⟨rfl,rfl,rfl,rfl⟩:=h
   exact (snap_rep I hM hl hc hF hr).mono (MLe.refl _) (BLe.zero _)
  ·cases h
 | .any,d',ls,ls',c,l,h,hc,hF,hp,y,hr=>by
  unfold lend at h
  split at h
  ·rename_i c' e l' hl
   simp only[Wb,Wi] at h
   obtain ⟨rfl,rfl,rfl,rfl⟩:=h
   exact (snap_rep I hM hl hc hF hr).mono (MLe.refl _) (BLe.zero _)
  ·cases h
 | .v x,d',ls,ls',c,l,h,hc,hF,hp,y,hr=>by
  unfold lend at h
  split at h
  ·rename_i c' e l' hl
   simp only[Wb,Wi] at h
   obtain ⟨rfl,rfl,rfl,rfl⟩:=h
   exact (snap_rep I hM hl hc hF hr).mono (MLe.refl _) (BLe.zero _)
  ·cases h
 | .nsl,d',ls,ls',c,l,h,hc,hF,hp,y,hr=>by
  unfold lend at h
  split at h
  ·rename_i c' e l' hl
   simp only[Wb,Wi] at h
   obtain ⟨rfl,rfl,rfl,rfl⟩:=h
   exact (snap_rep I hM hl hc hF hr).mono (MLe.refl _) (BLe.zero _)
  ·cases h
 | .isl E z es,d',ls,ls',c,l,h,hc,hF,hp,y,hr=>by
  unfold lend at h
  split at h
  ·rename_i c' e l' hl
   simp only[Wb,Wi] at h
   obtain ⟨rfl,rfl,rfl,rfl⟩:=h
   exact (snap_rep I hM hl hc hF hr).mono (MLe.refl _) (BLe.zero _)
  ·cases h
 | .ipt z cs k,d',ls,ls',c,l,h,hc,hF,hp,y,hr=>by
  unfold lend at h
  split at h
  ·rename_i c' e l' hl
   simp only[Wb,Wi] at h
   obtain ⟨rfl,rfl,rfl,rfl⟩:=h
   exact (snap_rep I hM hl hc hF hr).mono (MLe.refl _) (BLe.zero _)
  ·cases h
 | .fsl E z es,d',ls,ls',c,l,h,hc,hF,hp,y,hr=>by simp[Rep] at hr
 | .fmp k ks vs,d',ls,ls',c,l,h,hc,hF,hp,y,hr=>by simp[Rep] at hr
 | .omp id ver,d',ls,ls',c,l,h,hc,hF,hp,y,hr=>by simp[lend,snap] at h
theorem Kl (I:Iw P C s U M β w) (hM:MLe M M') {lsF:List Nat} {lbF:List (Nat×Nat)} (hL:Xdj s β lsF lbF):∀ {ds ds':List D} {ls ls':List Nat} {c:Prop} {l:List Nat},Zc s ls ds=some (c,ds',ls',l)->c->Frz s M' β w l->ls' <+: lsF ->
 ∀ {ys:List Value},RepL P M β ds ys->RepL P M' (Jm lbF) ds' ys
 | [],ds',ls,ls',c,l,h,hc,hF,hp,ys,hr=>by
  simp only[Zc,Wb,Wi] at h
  obtain ⟨rfl,rfl,rfl,rfl⟩:=h
  simpa [RepL] using hr
 | d::ds,ds',ls,ls',c,l,h,hc,hF,hp,ys,hr=>by
  unfold Zc at h
  split at h
  ·rename_i c1 e ls1 l1 h1
   split at h
   ·rename_i c2 es ls2 l2 h2
    simp only[Wb,Wi] at h
    obtain ⟨rfl,rfl,rfl,rfl⟩:=h
    simp only[RepL] at hr ⊢
    obtain ⟨x,xs,e,hr1,hr2⟩:=hr
    exact ⟨x,xs,e,lend_rep I hM hL h1 hc.1 (λ i hi=>hF i (Uf _ hi)) ((YX h2).trans hp) hr1,Kl I hM hL h2 hc.2 (λ i hi=>hF i (Uj _ hi)) hp hr2⟩
   ·cases h
  ·cases h
end
end
end Go.Sx
namespace Go.Sx
variable {P:Program}
def Z6 (s:Heap):List Nat->Option (Prop×List Ob×List Nat)
 | []=>some (True,[],[])
 | id::ids=>match s id with
  | some (_,.arr true E z [cs] fz)=>match ZG s cs,Z6 s ids with
   | some (c,ds,l),some (c',obs,l')=>some (c/\c',.arr true E z [ds] fz::obs,l++l')
   | _,_=>none
  | _=>none
def Zu (s:Heap):List Nat->List Ob->Up
 | id::ids,o::os=>match s id with
  | some (v,_)=>(id,v,o)::Zu s ids os
  | none=>Zu s ids os
 | _,_=>[]
section
variable {C:Cx} {s:Heap} {U:Nat->Prop} {M M':Mem} {β:Loc} {w w':World}
theorem Xaj {lz:List Nat} (I:Iw P C s U M β w) (hM:MLe M M') (I':Iw P C (frz s lz) U M' β w) (hFz:Frz s M' β w lz):∀ {ids:List Nat} {c:Prop} {obs:List Ob} {l:List Nat} {lb:List (Nat×Nat)},Z6 s ids=some (c,obs,l)->c->(∀ x∈l,x∈lz)->Xdj s β ids lb->lb.length=ids.length ->
 obs.length=ids.length/\∀ (k:Nat) ob x,obs[k]? = some ob->lb[k]? = some x->ObRep P M' Yg w (some x) ob/\ob.bx=true
 | [],c,obs,l,lb,h,hc,hl,hL,hlen=>by
  simp only[Z6,Wb,Wi] at h
  obtain ⟨rfl,rfl,rfl⟩:=h
  exact ⟨rfl,λ k ob x h=>by simp at h⟩
 | id::ids,c,obs,l,lb,h,hc,hl,hL,hlen=>by
  unfold Z6 at h
  split at h
  ·rename_i v E z cs fz hs
   split at h
   ·rename_i c1 ds l1 c2 obs2 l2 h1 h2
    simp only[Wb,Wi] at h
    obtain ⟨rfl,rfl,rfl⟩:=h
    match lb,hlen with
    | x0::lb,hlen =>
     have hL2:Xdj s β ids lb:=λ j i hj=>by simpa using hL (j+1) i (by simpa using hj)
     obtain ⟨g1,g2⟩:=Xaj I hM I' hFz h2 hc.2 (λ x hx=>hl x (Uj _ hx)) hL2 (by simpa using hlen)
     refine ⟨by simp[g1],λ k ob x hk hx=>?_⟩
     cases k with
     | succ k=>exact g2 k ob x (by simpa using hk) (by simpa using hx)
     | zero =>
      simp at hk hx
      subst hk;subst hx
      refine ⟨?_,rfl⟩
      obtain ⟨v',E',z',cs',fz',x,hs',hx',hb⟩:=hL 0 id (by simp)
      simp at hx'
      subst hx'
      rw[hs] at hs'
      obtain ⟨rfl,_⟩:v=v'/\_:=by simpa using hs'
      have hsf:frz s lz id=some (v,.arr true E z [cs] fz):=by
       unfold frz
       split
       ·rw[hs];rfl
       ·exact hs
      obtain ⟨x1,hx1,hob⟩:=I'.obs id v _ hsf
      rw[hb] at hx1
      obtain rfl:x0=x1:=by simpa using hx1
      obtain ⟨b,cb⟩:=x0
      obtain ⟨y,T,k1,k2,k3,k4,k5,k6,k7,k8,k9,k10⟩:=hob
      obtain ⟨x2,hx2,hob2⟩:=I.obs id v _ hs
      rw[hb] at hx2
      obtain rfl:some (b,cb)=x2:=by simpa using hx2
      obtain ⟨y2,T2,j1,j2,j3,j4,j5,j6,j7,j8,j9,j10⟩:=hob2
      rw[k1] at j1
      obtain ⟨rfl,rfl⟩:y=y2/\T=T2:=by simpa using j1
      have hcsl:RepL P M β cs (y.toList.take cs.length):=by
       have hle:cs.length<=y.size:=by
        have:=k3 cs (by simp)
        have:z<=cb*z:=Nat.le_mul_of_pos_left _ (by simp at k4;omega)
        omega
       refine RepL.of (by simp;omega) λ i d x hd hx=>?_
       obtain ⟨u,hu,hru⟩:=j10 i d (by simpa using hd)
       rw[UF] at hx
       split at hx
       ·rw[Ii,hu] at hx
        obtain rfl:u=x:=by simpa using hx
        exact hru
       ·cases hx
      have hds:=ZR I hM h1 hc.1 (λ i hi=>hFz i (hl i (Uf _ hi))) hcsl
      have hdl:ds.length=cs.length:=by rw[← hds.length,hcsl.length]
      refine ⟨y,T,k1,k2,?_,by simpa using k4,by simpa using k5,by simpa using k6,by simpa using k7,k8,k9,λ i d hd=>?_⟩
      ·intro e he
       simp at he
       subst he
       rw[hdl];exact k3 cs (by simp)
      ·have hd':ds[i]? = some d:=by simpa using hd
       obtain ⟨u,hu,hru⟩:=hds.get i d hd'
       rw[UF] at hu
       split at hu
       ·exact ⟨u,by simpa using hu,hru⟩
       ·cases hu
   ·cases h
  ·cases h
theorem Xbj (s0:Heap):∀ (ids:List Nat) (obs:List Ob) (s:Heap) (i:Nat),ids.Nodup->(∀ id∈ids,∃ v o,s0 id=some (v,o))->obs.length=ids.length ->
 (i∉ids->app s (Zu s0 ids obs) i=s i)/\∀ (j:Nat) o,ids[j]? = some i->obs[j]? = some o->∀ v o',s0 i=some (v,o')->app s (Zu s0 ids obs) i=some (v,o)
 | [],obs,s,i,_,_,_=>by
  refine ⟨λ _=>by simp[Zu,app],λ j o h=>by simp at h⟩
 | id::ids,o::obs,s,i,hnd,hall,hlen=>by
  obtain ⟨v,o0,hs⟩:=hall id (by simp)
  simp only[Od] at hnd
  have hu:app s (Zu s0 (id::ids) (o::obs))=app (upd s id (some (v,o))) (Zu s0 ids obs):=by
   simp only[Zu,hs];rfl
  obtain ⟨g1,g2⟩:=Xbj s0 ids obs (upd s id (some (v,o))) i hnd.2 (λ x hx=>hall x (by simp[hx])) (by simpa using hlen)
  rw[hu]
  refine ⟨λ hi=>?_,λ j o' hj ho v' o'' hs'=>?_⟩
  ·simp only[UN,not_or] at hi
   rw[g1 hi.2,X5 _ _ _ _ hi.1]
  ·cases j with
   | zero =>
    simp at hj ho
    subst hj;subst ho
    rw[hs] at hs'
    obtain ⟨rfl,rfl⟩:v=v'/\o0=o'':=by simpa using hs'
    rw[g1 hnd.1,Yu]
   | succ j=>exact g2 j o' (by simpa using hj) (by simpa using ho) v' o'' hs'
theorem Iw.called (I:Iw P C s U M β w) {ids:List Nat} {lb:List (Nat×Nat)} (hB:Xbi s ids) (hL:Xdj s β ids lb) (hlb:lb.length=ids.length) (hK:Kp w (lb.map (·.1)) w') (hmem:MemOK M' w') (hold:∀ b o,b<w.heap.size->M' b o=M b o)
 {obs:List Ob} (hlo:obs.length=ids.length) (hobs:∀ (k:Nat) ob x,obs[k]? = some ob->lb[k]? = some x->ObRep P M' Yg w' (some x) ob/\ob.bx=true) :
 Iw P C (app s (Zu s ids obs)) U M' β w'/\MLe M M':=by
 have hMle:MLe M M':=λ b o x hx=>by rw[hold b o (I.mem.lt hx)];exact hx
 have hall:∀ id∈ids,∃ v o,s id=some (v,o):=λ id hid=>by
  obtain ⟨v,E,z,cs,fz,h⟩:=hB.2 id hid
  exact ⟨_,_,h⟩
 have hsv:∀ id v ob,app s (Zu s ids obs) id=some (v,ob)->(id∉ids/\s id=some (v,ob))\/∃ (j:Nat) (x:Nat×Nat) (ob0:Ob),ids[j]? = some id/\lb[j]? = some x/\obs[j]? = some ob/\s id=some (v,ob0)/\ob0.bx=true/\β id v=some (some x):=by
  intro id v ob h
  obtain ⟨g1,g2⟩:=Xbj s ids obs s id hB.1 hall hlo
  by_cases hid:id∈ids
  ·right
   obtain ⟨j,hj,rfl⟩:=WX hid
   obtain ⟨v',E,z,cs,fz,x,hs,hx,hb⟩:=hL j _ (Wc hj)
   have ho:obs[j]? = some (obs[j]'(by omega)):=Wc (by omega)
   have:=g2 j _ (by simp) ho v' _ hs
   rw[this] at h
   obtain ⟨rfl,rfl⟩:v'=v/\obs[j]'(by omega)=ob:=by simpa using h
   exact ⟨j,x,_,Wc hj,hx,ho,hs,rfl,hb⟩
  ·left;rw[g1 hid] at h;exact ⟨hid,h⟩
 have hnot:∀ id v ob b cb,id∉ids->s id=some (v,ob)->β id v=some (some (b,cb))->b∉lb.map (·.1):=by
  intro id v ob b cb hid hs hb hm
  rw[W8] at hm
  obtain ⟨x,hx,rfl⟩:=hm
  obtain ⟨j,hj,rfl⟩:=WX hx
  obtain ⟨v',E,z,cs,fz,x',hs',hx',hb'⟩:=hL j (ids[j]'(by omega)) (by simp)
  have:lb[j]=x':=by rw[Wc hj] at hx';simpa using hx'
  have hid':=I.inj id v ob (ids[j]'(by omega)) v' _ _ cb x'.2 hs hs' (by rw[hb]) (by rw[hb',← this])
  exact hid (hid'▸W6 _)
 refine ⟨?_,hMle⟩
 constructor
 ·exact hmem
 ·exact I.used
 ·intro id v ob hs
  rcases hsv id v ob hs with ⟨hid,hs⟩ | ⟨j,x,ob0,hj,hx,ho,hs,_,hb⟩
  ·obtain ⟨x,hx,hr⟩:=I.obs id v ob hs
   refine ⟨x,hx,hr.mono hMle (BLe.refl _) ?_ ?_⟩
   ·rintro b cb rfl
    exact hK.block b hr.lt (hnot id v ob b cb hid hs hx)
   ·rintro b cb rfl o
    exact hold b o hr.lt
  ·obtain ⟨g1,g2⟩:=hobs j ob x ho hx
   exact ⟨some x,hb,g1.mono (MLe.refl _) (BLe.zero _) (λ _ _ _=>rfl) (λ _ _ _ _=>rfl)⟩
 ·intro id v ob b cb hs hb
  rcases hsv id v ob hs with ⟨hid,hs⟩ | ⟨j,x,ob0,hj,hx,ho,hs,hbx,hb'⟩
  ·exact I.own id v ob b cb hs hb
  ·rcases I.own id v ob0 b cb hs hb with h | h
   ·exact .inl h
   ·exact .inr ⟨h.1,(hobs j ob x ho hx).2⟩
 ·intro id v ob id' v' ob' b cb cb' hs hs' hb hb'
  have h1:∃ o,s id=some (v,o):=by
   rcases hsv id v ob hs with ⟨_,hs⟩ | ⟨_,_,o,_,_,_,hs,_⟩<;>exact ⟨_,hs⟩
  have h2:∃ o,s id'=some (v',o):=by
   rcases hsv id' v' ob' hs' with ⟨_,hs⟩ | ⟨_,_,o,_,_,_,hs,_⟩<;>exact ⟨_,hs⟩
  obtain ⟨o1,h1⟩:=h1
  obtain ⟨o2,h2⟩:=h2
  exact I.inj id v o1 id' v' o2 b cb cb' h1 h2 hb hb'
 ·refine ⟨hK.os.trans I.keep.os,hK.tape.trans I.keep.tape,hK.output.trans I.keep.output,Ic I.keep.size hK.size,λ k hk hl=>?_⟩
  rw[← I.keep.block k hk hl]
  refine hK.block k (I9 hk I.keep.size) λ hm=>?_
  rw[W8] at hm
  obtain ⟨x,hx,rfl⟩:=hm
  obtain ⟨j,hj,rfl⟩:=WX hx
  obtain ⟨v',E,z,cs,fz,x',hs',hx',hb'⟩:=hL j (ids[j]'(by omega)) (by simp)
  have hx2:lb[j]=x':=by rw[Wc hj] at hx';simpa using hx'
  rcases I.own _ v' _ lb[j].1 x'.2 hs' (by rw[hb',hx2]) with h | h
  ·omega
  ·exact hl h.1
 ·intro b o hb
  rw[hold b o (I9 hb I.keep.size)]
  exact I.old b o hb
 ·exact I.le.trans hMle
 ·exact I.glob
end
end Go.Sx
namespace Go.Sx
variable {P:Program}
mutual
def fits:D->D->Prop
 | .nsl,.isl _ _ es=>es=[]
 | .agg cs,.agg ds=>Zv cs ds
 | .tup cs,.tup ds=>Zv cs ds
 | .clo fn a b,.clo fn' a' b'=>fn=fn'/\Zv a a'/\Zv b b'
 | .ifc t d,.ifc t' d'=>t=t'/\fits d d'
 | d,e=>d=e
def Zv:List D->List D->Prop
 | [],[]=>True
 | d::ds,e::es=>fits d e/\Zv ds es
 | _,_=>False
end
mutual
theorem fits_rep {M:Mem} {β:Loc}:∀ {d e:D} {y:Value},fits d e->Rep P M β d y->Rep P M β e y
 | .nsl,e,y,h,hr=>by
  cases e<;>simp only[fits,reduceCtorEq] at h<;>try (first | exact hr | (exact h.elim))
  subst h
  simp only[Rep] at hr ⊢
  obtain ⟨a,rfl⟩:=hr
  exact ⟨by simp,by simp[Xn],by simp[Xn],a,0,rfl,WQ _,.inl trivial⟩
 | .agg cs,e,y,h,hr=>by
  cases e<;>simp only[fits,reduceCtorEq] at h
  simp only[Rep] at hr ⊢
  obtain ⟨vs,e,hr⟩:=hr
  exact ⟨vs,e,Km h hr⟩
 | .tup cs,e,y,h,hr=>by
  cases e<;>simp only[fits,reduceCtorEq] at h
  simp only[Rep] at hr ⊢
  obtain ⟨vs,e,hr⟩:=hr
  exact ⟨vs,e,Km h hr⟩
 | .clo fn a b,e,y,h,hr=>by
  cases e<;>simp only[fits,reduceCtorEq] at h
  obtain ⟨rfl,h1,h2⟩:=h
  simp only[Rep] at hr ⊢
  obtain ⟨va,vb,e,hr1,hr2⟩:=hr
  exact ⟨va,vb,e,Km h1 hr1,Km h2 hr2⟩
 | .ifc t d,e,y,h,hr=>by
  cases e<;>simp only[fits,reduceCtorEq] at h
  obtain ⟨rfl,h1⟩:=h
  simp only[Rep] at hr ⊢
  obtain ⟨x,e,hr⟩:=hr
  exact ⟨x,e,fits_rep h1 hr⟩
 | .any,e,y,h,hr=>by have:D.any=e:=by cases e<;>simpa [fits] using h
                     exact this▸hr
 | .v x,e,y,h,hr=>by have:D.v x=e:=by cases e<;>simpa [fits] using h
                     exact this▸hr
 | .isl a b c,e,y,h,hr=>by have:D.isl a b c=e:=by cases e<;>simpa [fits] using h
                           exact this▸hr
 | .osl a b c d f,e,y,h,hr=>by have:D.osl a b c d f=e:=by cases e<;>simpa [fits] using h
                               exact this▸hr
 | .ept a b c d f,e,y,h,hr=>by have:D.ept a b c d f=e:=by cases e<;>simpa [fits] using h
                               exact this▸hr
 | .ipt a b c,e,y,h,hr=>by have:D.ipt a b c=e:=by cases e<;>simpa [fits] using h
                           exact this▸hr
 | .fsl a b c,e,y,h,hr=>by simp[Rep] at hr
 | .fmp a b c,e,y,h,hr=>by simp[Rep] at hr
 | .omp a b,e,y,h,hr=>by have:D.omp a b=e:=by cases e<;>simpa [fits] using h
                         exact this▸hr
theorem Km {M:Mem} {β:Loc}:∀ {ds es:List D} {ys:List Value},Zv ds es->RepL P M β ds ys->RepL P M β es ys
 | [],es,ys,h,hr=>by
  cases es<;>simp only[Zv] at h
  exact hr
 | d::ds,es,ys,h,hr=>by
  cases es<;>simp only[Zv] at h
  simp only[RepL] at hr ⊢
  obtain ⟨x,xs,e,h1,h2⟩:=hr
  exact ⟨x,xs,e,fits_rep h.1 h1,Km h.2 h2⟩
end
mutual
def scal:D->Bool
 | .any=>true
 | .v _=>true
 | .agg cs=>KY cs
 | .tup cs=>KY cs
 | _=>false
def KY:List D->Bool
 | []=>true
 | d::ds=>scal d&&KY ds
end
mutual
theorem scal_rep {M M':Mem} {w:World} {B:Nat} (β:Loc) (ver n:Nat):∀ {d:D} {y:Value} {l:List (Option (Nat×Nat))},scal d=true->FrRep P M w B d y l->l=[]/\Rep P M' β d y/\imp ver n d=(d,n,[])
 | .any,y,l,_,hr=>by simp only[FrRep] at hr;exact ⟨hr,by simp[Rep],by simp[imp]⟩
 | .v x,y,l,_,hr=>by simp only[FrRep] at hr;exact ⟨hr.1,by simpa [Rep] using hr.2,by simp[imp]⟩
 | .agg cs,y,l,hs,hr=>by
  simp only[scal] at hs
  simp only[FrRep] at hr
  obtain ⟨vs,e,hr⟩:=hr
  obtain ⟨h1,h2,h3⟩:=Xak (M':=M') β ver n hs hr
  exact ⟨h1,by simp only[Rep];exact ⟨vs,e,h2⟩,by simp only[imp,h3]⟩
 | .tup cs,y,l,hs,hr=>by
  simp only[scal] at hs
  simp only[FrRep] at hr
  obtain ⟨vs,e,hr⟩:=hr
  obtain ⟨h1,h2,h3⟩:=Xak (M':=M') β ver n hs hr
  exact ⟨h1,by simp only[Rep];exact ⟨vs,e,h2⟩,by simp only[imp,h3]⟩
 | .nsl,y,l,hs,hr=>by simp[scal] at hs
 | .isl ..,y,l,hs,hr=>by simp[scal] at hs
 | .osl ..,y,l,hs,hr=>by simp[scal] at hs
 | .ept ..,y,l,hs,hr=>by simp[scal] at hs
 | .ipt ..,y,l,hs,hr=>by simp[scal] at hs
 | .clo ..,y,l,hs,hr=>by simp[scal] at hs
 | .ifc ..,y,l,hs,hr=>by simp[scal] at hs
 | .fsl ..,y,l,hs,hr=>by simp[scal] at hs
 | .fmp ..,y,l,hs,hr=>by simp[scal] at hs
 | .omp ..,y,l,hs,hr=>by simp[scal] at hs
theorem Xak {M M':Mem} {w:World} {B:Nat} (β:Loc) (ver n:Nat):∀ {ds:List D} {ys:List Value} {l:List (Option (Nat×Nat))},KY ds=true->FrRepL P M w B ds ys l->l=[]/\RepL P M' β ds ys/\KP ver n ds=(ds,n,[])
 | [],ys,l,_,hr=>by simp only[FrRepL] at hr;exact ⟨hr.2,by simp[RepL,hr.1],by simp[KP]⟩
 | d::ds,ys,l,hs,hr=>by
  simp only[KY,WG] at hs
  simp only[FrRepL] at hr
  obtain ⟨x,xs,l1,l2,e,rfl,h1,h2⟩:=hr
  obtain ⟨rfl,h3,h4⟩:=scal_rep (M':=M') β ver n hs.1 h1
  obtain ⟨rfl,h5,h6⟩:=Xak (M':=M') β ver n hs.2 h2
  exact ⟨rfl,by simp only[RepL];exact ⟨x,xs,e,h3,h5⟩,by simp only[KP,h4,h6,IE]⟩
end
mutual
theorem FrRep.ge {M:Mem} {w:World} {B:Nat}:∀ {d:D} {y:Value} {l:List (Option (Nat×Nat))},FrRep P M w B d y l->∀ b∈XS l,B<=b
 | .fsl E z es,y,l,hr=>by
  simp only[FrRep] at hr
  rcases hr with ⟨rfl,_⟩ | ⟨b,cb,o,rfl,hb,_⟩
  ·simp[XS]
  ·simp[XS,hb]
 | .fmp k ks vs,y,l,hr=>by
  simp only[FrRep] at hr
  obtain ⟨b,rfl,hb,_⟩:=hr
  simp[XS,hb]
 | .agg cs,y,l,hr=>by simp only[FrRep] at hr;obtain ⟨vs,_,hr⟩:=hr;exact FrRepL.ge hr
 | .tup cs,y,l,hr=>by simp only[FrRep] at hr;obtain ⟨vs,_,hr⟩:=hr;exact FrRepL.ge hr
 | .ifc t d,y,l,hr=>by simp only[FrRep] at hr;obtain ⟨vs,_,hr⟩:=hr;exact FrRep.ge hr
 | .clo fn a b,y,l,hr=>by
  simp only[FrRep] at hr
  obtain ⟨va,vb,_,l1,l2,rfl,h1,h2⟩:=hr
  intro b hb
  rw[X0,WH] at hb
  rcases hb with hb | hb
  ·exact FrRepL.ge h1 b hb
  ·exact FrRepL.ge h2 b hb
 | .any,y,l,hr=>by simp only[FrRep] at hr;subst hr;simp[XS]
 | .v _,y,l,hr=>by simp only[FrRep] at hr;rw[hr.1];simp[XS]
 | .nsl,y,l,hr=>by simp only[FrRep] at hr;rw[hr.1];simp[XS]
 | .isl ..,y,l,hr=>by simp only[FrRep] at hr;rw[hr.1];simp[XS]
 | .ipt ..,y,l,hr=>by simp only[FrRep] at hr;rw[hr.1];simp[XS]
 | .osl ..,y,l,hr=>by simp[FrRep] at hr
 | .ept ..,y,l,hr=>by simp[FrRep] at hr
 | .omp ..,y,l,hr=>by simp[FrRep] at hr
theorem FrRepL.ge {M:Mem} {w:World} {B:Nat}:∀ {ds:List D} {ys:List Value} {l:List (Option (Nat×Nat))},FrRepL P M w B ds ys l->∀ b∈XS l,B<=b
 | [],ys,l,hr=>by simp only[FrRepL] at hr;rw[hr.2];simp[XS]
 | d::ds,ys,l,hr=>by
  simp only[FrRepL] at hr
  obtain ⟨x,xs,l1,l2,_,rfl,h1,h2⟩:=hr
  intro b hb
  rw[X0,WH] at hb
  rcases hb with hb | hb
  ·exact FrRep.ge h1 b hb
  ·exact FrRepL.ge h2 b hb
end
def Y2 (s:Heap) (args:List D):Option (Prop×List D×List Nat×List Ob×List Nat) :=
 match Zc s [] args with
 | some (c,as,ids,l1)=>match Z6 s ids with
  | some (c',obs,l2)=>some (c/\c',as,ids,obs,l1++l2)
  | none=>none
 | none=>none
def Vm:Ob->Bool
 | .arr true _ _ es 0=>es.all KY
 | _=>false
mutual
theorem scalR {M M':Mem} {β β':Loc}:∀ {d:D} {y:Value},scal d=true->Rep P M β d y->Rep P M' β' d y
 | .any,y,_,_=>by simp[Rep]
 | .v x,y,_,h=>by simpa only[Rep] using h
 | .agg cs,y,hs,h=>by
  simp only[scal] at hs
  simp only[Rep] at h ⊢
  obtain ⟨vs,e,h⟩:=h
  exact ⟨vs,e,Xfc hs h⟩
 | .tup cs,y,hs,h=>by
  simp only[scal] at hs
  simp only[Rep] at h ⊢
  obtain ⟨vs,e,h⟩:=h
  exact ⟨vs,e,Xfc hs h⟩
 | .nsl,_,hs,_=>by simp[scal] at hs
 | .isl ..,_,hs,_=>by simp[scal] at hs
 | .osl ..,_,hs,_=>by simp[scal] at hs
 | .ept ..,_,hs,_=>by simp[scal] at hs
 | .ipt ..,_,hs,_=>by simp[scal] at hs
 | .clo ..,_,hs,_=>by simp[scal] at hs
 | .ifc ..,_,hs,_=>by simp[scal] at hs
 | .fsl ..,_,hs,_=>by simp[scal] at hs
 | .fmp ..,_,hs,_=>by simp[scal] at hs
 | .omp ..,_,hs,_=>by simp[scal] at hs
theorem Xfc {M M':Mem} {β β':Loc}:∀ {ds:List D} {ys:List Value},KY ds=true->RepL P M β ds ys->RepL P M' β' ds ys
 | [],ys,_,h=>by simpa only[RepL] using h
 | d::ds,ys,hs,h=>by
  simp only[KY,WG] at hs
  simp only[RepL] at h ⊢
  obtain ⟨x,xs,e,h1,h2⟩:=h
  exact ⟨x,xs,e,scalR hs.1 h1,Xfc hs.2 h2⟩
end
theorem Xcq:∀ {ds:List D},KY ds=true->∀ d∈ds,scal d=true
 | [],_,d,h=>by simp at h
 | e::ds,hs,d,h=>by
  simp only[KY,WG] at hs
  rcases UN.1 h with rfl | h
  ·exact hs.1
  ·exact Xcq hs.2 d h
theorem Xg8 {M M':Mem} {w:World} {x:Nat×Nat}:∀ {ob:Ob},Vm ob=true->(∀ b o y,M b o=some y->M' b o=some y)->ObRep P M' Yg w (some x) ob->ObRep P M Yg w (some x) ob
 | .mp ..,hs,_,_=>by simp[Vm] at hs
 | .arr false ..,hs,_,_=>by simp[Vm] at hs
 | .arr true E z es (n+1),hs,_,_=>by simp[Vm] at hs
 | .arr true E z es 0,hs,hle,h=>by
  obtain ⟨b,cb⟩:=x
  simp only[Vm,Ur] at hs
  simp only[ObRep] at h ⊢
  obtain ⟨cs,T,k1,k2,k3,k4,k5,k6,k7,k8,k9,k10⟩:=h
  refine ⟨cs,T,k1,k2,k3,k4,k5,k6,k7,k8,λ o=>?_,λ i d hd=>?_⟩
  ·have h9:=k9 o
   rw[Wh (by omega)] at h9 ⊢
   cases hM:M b o with
   | none=>rfl
   | some y=>rw[hle b o y hM] at h9;cases h9
  ·obtain ⟨y,hy,hr⟩:=k10 i d hd
   obtain ⟨e,he,hde⟩:=List.mem_flatten.1 (WU hd)
   exact ⟨y,hy,scalR (Xcq (hs e he) d hde) hr⟩
def Kn (s:Heap) (ids fz:List Nat) (r:D) (ls:List Ob) (ver n:Nat):D×Heap :=
 let s1:=if scal r&&ls.all Vm then s else frz s fz
 let s2:=app s1 (Zu s ids ls)
 let q:=imp ver n r
 (q.1,app s2 q.2.2)
section
variable {C:Cx} {s:Heap} {U:Nat->Prop} {M:Mem} {β:Loc} {w:World} {ver:Nat}
theorem Xal (s:Heap) (fz:List Nat):∀ (ids:List Nat) (obs:List Ob),(∀ id∈ids,∃ v o,s id=some (v,o))->Zu (frz s fz) ids obs=Zu s ids obs
 | [],_,_=>rfl
 | id::ids,[],_=>rfl
 | id::ids,o::obs,h=>by
  obtain ⟨v,o0,hs⟩:=h id (by simp)
  have ih:=Xal s fz ids obs λ x hx=>h x (by simp[hx])
  have hv:∃ o',frz s fz id=some (v,o'):=by
   unfold frz
   split
   ·rw[hs]
    cases o0 with
    | mp _=>exact ⟨_,rfl⟩
    | arr bx E z es f=>cases bx<;>exact ⟨_,rfl⟩
   ·exact ⟨_,hs⟩
  obtain ⟨o',hv⟩:=hv
  simp only[Zu,hv,hs,ih]
theorem Xf2 (I:Iw P C s U M β w) (hv:¬ U ver) {f:FuncId} {args eargs:List D} {vs:List Value} (hr:RepL P M β args vs) {c:Prop} {as:List D} {ids:List Nat} {obs:List Ob} {fz:List Nat}
 (h:Y2 s args=some (c,as,ids,obs,fz)) (hc:c) (hfit:Zv as eargs) {R:D->List Ob->Prop} (hA:YF P C.G f eargs obs R) (n:Nat) :
 Calls P f ⟨vs⟩ w λ e w'=>∃ v r ls M' β',e=.returned v/\R r ls/\Iw P C (Kn s ids fz r ls ver n).2 (λ x=>U x\/x=ver) M' β' w'/\Rep P M' β' (Kn s ids fz r ls ver n).1 v/\MLe M M'/\BLe β β':=by
 unfold Y2 at h
 split at h
 ·rename_i c1 as' ids' l1 hl
  split at h
  ·rename_i c2 obs' l2 ho
   simp only[Wb,Wi] at h
   obtain ⟨rfl,rfl,rfl,rfl,rfl⟩:=h
   obtain ⟨M1,I1,hM1,hF⟩:=I.freeze (l1++l2)
   have hboxes:Xbi s ids':=YT hl ⟨by simp,by simp⟩
   have hlb:∃ lb:List (Nat×Nat),lb.length=ids'.length/\Xdj s β ids' lb:=by
    have:∀ l:List Nat,(∀ id∈l,∃ v E z cs fz,s id=some (v,.arr true E z [cs] fz))->∃ lb:List (Nat×Nat),lb.length=l.length/\Xdj s β l lb:=by
     intro l
     induction l with
     | nil=>intro _;exact ⟨[],rfl,λ j id h=>by simp at h⟩
     | cons id l ih =>
      intro hall
      obtain ⟨lb,h1,h2⟩:=ih λ x hx=>hall x (by simp[hx])
      obtain ⟨v,E,z,cs,fz,hs⟩:=hall id (by simp)
      obtain ⟨x,hx,hob⟩:=I.obs id v _ hs
      cases x with
      | none=>simp[ObRep] at hob
      | some x =>
       refine ⟨x::lb,by simp[h1],λ j i hj=>?_⟩
       cases j with
       | zero=>simp at hj;subst hj;exact ⟨v,E,z,cs,fz,x,hs,by simp,hx⟩
       | succ j=>simpa using h2 j i (by simpa using hj)
    exact this ids' hboxes.2
   obtain ⟨lb,hlen,hL⟩:=hlb
   have hargs:=Km hfit (Kl I hM1 hL hl hc.1 (λ i hi=>hF i (Uf _ hi)) (U9 _) hr)
   obtain ⟨g1,g2⟩:=Xaj I hM1 I1 hF ho hc.2 (λ x hx=>Uj _ hx) hL hlen
   have hnd:(lb.map (·.1)).Nodup:=by
    rw[Ia,IF]
    intro i j hi0 hj0 hij he
    simp only[Wt] at hi0 hj0
    have hii:i<lb.length:=by omega
    have hj:j<lb.length:=by omega
    simp only[Om] at he
    obtain ⟨v,E,z,cs,fz,x,hs,hx,hb⟩:=hL i (ids'[i]'(by omega)) (by simp)
    obtain ⟨v',E',z',cs',fz',x',hs',hx',hb'⟩:=hL j (ids'[j]'(by omega)) (by simp)
    have e1:lb[i]=x:=by simpa [hii] using hx
    have e2:lb[j]=x':=by simpa [hj] using hx'
    have hid:=I.inj _ v _ _ v' _ x.1 x.2 x'.2 hs hs' hb (by rw[hb',← e2,← e1,he])
    have:=(IF.1 (Ia.1 hboxes.1)) i j (by omega) (by omega) hij
    exact this hid
   refine (hA.2 M1 w vs lb I1.mem (λ g cs hg=>RepC.mono I1.le (I1.glob g cs hg)) (by rw[hlen,g1]) hnd g2 hargs).mono ?_
   rintro e w' ⟨v,r,ls,M',l,rfl,hR,hK,hmem,hold,hls,hobs,hfr,hndl⟩
   refine ⟨v,r,ls,?_⟩
   have hlsn:ls.length=ids'.length:=by rw[hls,hlen]
   have hall:∀ id∈ids',∃ v o,s id=some (v,o):=λ id hid=>by
    obtain ⟨v,E,z,cs,fz,h⟩:=hboxes.2 id hid
    exact ⟨_,_,h⟩
   have hold0:∀ b o x,M b o=some x->M' b o=some x:=λ b o x hx=>by
    rw[hold b o (I.mem.lt hx)];exact hM1 _ _ _ hx
   unfold Kn
   by_cases hsc:(scal r&&ls.all Vm)=true
   ·simp only[hsc,if_true]
    simp only[WG] at hsc
    obtain ⟨hsc1,hso⟩:=hsc
    obtain ⟨rfl,hrv,himp⟩:=scal_rep (M':=M) β ver n hsc1 hfr
    obtain ⟨I2,_⟩:=I.called (ids:=ids') (lb:=lb) (M':=M) (w':=w') (obs:=ls) hboxes hL hlen hK (λ b o x hx=>hmem b o x (hold0 b o x hx)) (λ _ _ _=>rfl) hlsn (λ k ob x h1 h2=>by
     obtain ⟨g3,g4⟩:=hobs k ob x h1 h2
     exact ⟨Xg8 (Ur.1 hso ob (WU h1)) hold0 g3,g4⟩)
    refine ⟨M,β,trivial,hR,?_,?_,MLe.refl _,BLe.refl _⟩
    ·rw[himp];exact I2.mono λ _ h=>.inl h
    ·rw[himp];exact hrv
   ·simp only[hsc,Ie,if_false]
    have hB1:Xbi (frz s (l1++l2)) ids':=⟨hboxes.1,λ id hid=>by
     obtain ⟨v,E,z,cs,fz,hs⟩:=hboxes.2 id hid
     refine ⟨v,E,z,cs,fz,?_⟩
     unfold frz
     split
     ·rw[hs];rfl
     ·exact hs⟩
    have hL1:Xdj (frz s (l1++l2)) β ids' lb:=λ j id hj=>by
     obtain ⟨v,E,z,cs,fz,x,hs,hx,hb⟩:=hL j id hj
     refine ⟨v,E,z,cs,fz,x,?_,hx,hb⟩
     unfold frz
     split
     ·rw[hs];rfl
     ·exact hs
    obtain ⟨I2,hM2⟩:=I1.called hB1 hL1 hlen hK hmem hold hlsn hobs
    rw[Xal s _ ids' ls hall] at I2
    have hfree:Xfb (app (frz s (l1++l2)) (Zu s ids' ls)) β (XS l):=by
     intro b hb id v' ob cb hs hx
     have hge:=FrRep.ge hfr b hb
     have h1:∃ o,frz s (l1++l2) id=some (v',o):=by
      obtain ⟨q1,q2⟩:=Xbj (frz s (l1++l2)) ids' ls (frz s (l1++l2)) id hB1.1 (λ i hi=>by
       obtain ⟨v,E,z,cs,fz,h⟩:=hB1.2 i hi
       exact ⟨_,_,h⟩) hlsn
      rw[Xal s _ ids' ls hall] at q1 q2
      by_cases hid:id∈ids'
      ·obtain ⟨j,hj,rfl⟩:=WX hid
       obtain ⟨v2,E,z,cs,fz,h⟩:=hB1.2 _ hid
       have:=q2 j (ls[j]'(by omega)) (by simp) (by simp) v2 _ h
       rw[this] at hs
       obtain ⟨rfl,_⟩:v2=v'/\_:=by simpa using hs
       exact ⟨_,h⟩
      ·rw[q1 hid] at hs;exact ⟨_,hs⟩
     obtain ⟨o,h1⟩:=h1
     obtain ⟨x,hx1,hob⟩:=I1.obs id v' o h1
     rw[hx] at hx1
     obtain rfl:some (b,cb)=x:=by simpa using hx1
     have:=hob.lt
     omega
    obtain ⟨β',h1,h2⟩:=imp_ok (C:=C) (ver:=ver) (B:=w.heap.size) I.keep.size r v l n I2 (λ i _=>I2.fresh hv i) hfr hndl hfree
    exact ⟨M',β',trivial,hR,h1.inv,h2,hM1.trans hM2,h1.le⟩
  ·cases h
 ·cases h
theorem XkA (I:Iw P C s U M β w) {f:FuncId} {eargs:List D} {vs:List Value} {M1:Mem} (hM1:MLe M M1) (hm1:MemOK M1 w) (hargs:RepL P M1 Yg eargs vs) {R:D->List Ob->Prop} (hA:YF P C.G f eargs [] R) (hsc:∀ r ls,R r ls->scal r=true) :
 Calls P f ⟨vs⟩ w λ e w'=>∃ v r ls,e=.returned v/\R r ls/\Iw P C s U M β w'/\Rep P M β r v:=by
 refine (hA.2 M1 w vs [] hm1 (λ g cs hg=>RepC.mono (I.le.trans hM1) (I.glob g cs hg)) rfl (by simp) (λ k ob x h=>by simp at h) (hargs.mono (MLe.refl _) (BLe.zero _))).mono ?_
 rintro e w' ⟨v,r,ls,M',l,rfl,hR,hK,hmem,hold,hls,hobs,hfr,hndl⟩
 have hold0:∀ b o x,M b o=some x->M' b o=some x:=λ b o x hx=>by
  rw[hold b o (I.mem.lt hx)];exact hM1 _ _ _ hx
 obtain ⟨rfl,hrv,_⟩:=scal_rep (M':=M) β 0 0 (hsc r ls hR) hfr
 obtain ⟨I2,_⟩:=I.called (ids:=[]) (lb:=[]) (M':=M) (w':=w') (obs:=[]) ⟨by simp,by simp⟩ (λ j id h=>by simp at h) rfl hK (λ b o x hx=>hmem b o x (hold0 b o x hx)) (λ _ _ _=>rfl) rfl (λ k ob x h=>by simp at h)
 exact ⟨v,r,ls,rfl,hR,I2,hrv⟩
end
end Go.Sx
namespace Go.Sx
variable {P:Program}
def HLe (s s':Heap):Prop:=∀ i x,s i=some x->s' i=some x
section
variable {s s':Heap}
mutual
theorem snap_le (hs:HLe s s'):∀ {d:D} {r},snap s d=some r->snap s' d=some r
 | .osl id ver z off len,r,h=>by
  unfold snap at h ⊢
  split at h
  ·rename_i ver' E z' es f he
   rw[hs _ _ he]
   exact h
  ·cases h
 | .agg cs,r,h=>by
  unfold snap at h ⊢
  split at h
  ·rename_i c ds l he
   rw[Kw hs he];exact h
  ·cases h
 | .tup cs,r,h=>by
  unfold snap at h ⊢
  split at h
  ·rename_i c ds l he
   rw[Kw hs he];exact h
  ·cases h
 | .clo fn a b,r,h=>by
  unfold snap at h ⊢
  split at h
  ·rename_i he hf
   rw[Kw hs he,Kw hs hf];exact h
  ·cases h
 | .ifc t d,r,h=>by
  unfold snap at h ⊢
  split at h
  ·rename_i he
   rw[snap_le hs he];exact h
  ·cases h
 | .any,r,h=>by simpa only[snap] using h
 | .v _,r,h=>by simpa only[snap] using h
 | .nsl,r,h=>by simpa only[snap] using h
 | .isl ..,r,h=>by simpa only[snap] using h
 | .ipt ..,r,h=>by simpa only[snap] using h
 | .ept ..,r,h=>by simp[snap] at h
 | .fsl ..,r,h=>by simp[snap] at h
 | .fmp ..,r,h=>by simp[snap] at h
 | .omp ..,r,h=>by simp[snap] at h
theorem Kw (hs:HLe s s'):∀ {ds:List D} {r},ZG s ds=some r->ZG s' ds=some r
 | [],r,h=>by simpa only[ZG] using h
 | d::ds,r,h=>by
  unfold ZG at h ⊢
  split at h
  ·rename_i he hf
   rw[snap_le hs he,Kw hs hf];exact h
  ·cases h
end
theorem XdX (hs:HLe s s'):∀ {ds:List (Nat×D)} {r},KU s ds=some r->KU s' ds=some r
 | [],r,h=>by simpa only[KU] using h
 | (i,d)::ds,r,h=>by
  unfold KU at h ⊢
  split at h
  ·rename_i he hf
   rw[snap_le hs he,XdX hs hf];exact h
  ·cases h
def Has (s:Heap) (l:List Nat):Prop:=∀ i∈l,∃ x,s i=some x
theorem VN (hs:HLe s s'):∀ {l:List Nat},Has s l->Vu s' l=Vu s l
 | [],_=>rfl
 | i::l,h=>by
  obtain ⟨x,hx⟩:=h i (by simp)
  have ih:=VN hs (l:=l) (λ j hj=>h j (Ud _ hj))
  simp only[Vu,hx,hs _ _ hx,ih]
mutual
theorem snap_has:∀ {d:D} {c e l},snap s d=some (c,e,l)->Has s l
 | .osl id ver z off len,c,e,l,h=>by
  unfold snap at h
  split at h
  ·rename_i he
   split at h
   ·simp only[Wb,Wi] at h
    obtain ⟨_,_,rfl⟩:=h
    intro i hi;simp at hi;subst hi;exact ⟨_,he⟩
   ·cases h
  ·cases h
 | .agg cs,c,e,l,h=>by
  unfold snap at h
  split at h
  ·rename_i he
   simp only[Wb,Wi] at h
   obtain ⟨_,_,rfl⟩:=h
   exact Ko he
  ·cases h
 | .tup cs,c,e,l,h=>by
  unfold snap at h
  split at h
  ·rename_i he
   simp only[Wb,Wi] at h
   obtain ⟨_,_,rfl⟩:=h
   exact Ko he
  ·cases h
 | .clo fn a b,c,e,l,h=>by
  unfold snap at h
  split at h
  ·rename_i he hf
   simp only[Wb,Wi] at h
   obtain ⟨_,_,rfl⟩:=h
   intro i hi
   rcases WH.1 hi with hi | hi
   ·exact Ko he i hi
   ·exact Ko hf i hi
  ·cases h
 | .ifc t d,c,e,l,h=>by
  unfold snap at h
  split at h
  ·rename_i he
   simp only[Wb,Wi] at h
   obtain ⟨_,_,rfl⟩:=h
   exact snap_has he
  ·cases h
 | .any,c,e,l,h=>by simp[snap] at h;obtain ⟨_,_,rfl⟩:=h;intro i hi;simp at hi
 | .v _,c,e,l,h=>by simp[snap] at h;obtain ⟨_,_,rfl⟩:=h;intro i hi;simp at hi
 | .nsl,c,e,l,h=>by simp[snap] at h;obtain ⟨_,_,rfl⟩:=h;intro i hi;simp at hi
 | .isl ..,c,e,l,h=>by simp[snap] at h;obtain ⟨_,_,rfl⟩:=h;intro i hi;simp at hi
 | .ipt ..,c,e,l,h=>by simp[snap] at h;obtain ⟨_,_,rfl⟩:=h;intro i hi;simp at hi
 | .ept ..,c,e,l,h=>by simp[snap] at h
 | .fsl ..,c,e,l,h=>by simp[snap] at h
 | .fmp ..,c,e,l,h=>by simp[snap] at h
 | .omp ..,c,e,l,h=>by simp[snap] at h
theorem Ko:∀ {ds:List D} {c es l},ZG s ds=some (c,es,l)->Has s l
 | [],c,es,l,h=>by simp[ZG] at h;obtain ⟨_,_,rfl⟩:=h;intro i hi;simp at hi
 | d::ds,c,es,l,h=>by
  unfold ZG at h
  split at h
  ·rename_i he hf
   simp only[Wb,Wi] at h
   obtain ⟨_,_,rfl⟩:=h
   intro i hi
   rcases WH.1 hi with hi | hi
   ·exact snap_has he i hi
   ·exact Ko hf i hi
  ·cases h
end
theorem Xcr:∀ {ds:List (Nat×D)} {c es l},KU s ds=some (c,es,l)->Has s l
 | [],c,es,l,h=>by simp[KU] at h;obtain ⟨_,_,rfl⟩:=h;intro i hi;simp at hi
 | (j,d)::ds,c,es,l,h=>by
  unfold KU at h
  split at h
  ·rename_i he hf
   simp only[Wb,Wi] at h
   obtain ⟨_,_,rfl⟩:=h
   intro i hi
   rcases WH.1 hi with hi | hi
   ·exact snap_has he i hi
   ·exact Xcr hf i hi
  ·cases h
theorem XkB (hs:HLe s s') {d:D} {r} (h:Xc6 s d=some r):Xc6 s' d=some r:=by
 unfold Xc6 at h ⊢
 split at h
 ·exact h
 ·split at h
  ·rename_i he
   rw[hs _ _ he];exact h
  ·cases h
 ·cases h
theorem Xih (hs:HLe s s') {z:Nat} {d:D} {r} (h:elems s z d=some r):elems s' z d=some r:=by
 unfold elems at h ⊢
 split at h
 ·exact h
 ·exact h
 ·exact h
 ·split at h
  ·rename_i he
   rw[hs _ _ he];exact h
  ·cases h
 ·cases h
theorem Xf3 (hs:HLe s s') {a b E z n:Nat} {c:Prop} {src:List (List D)} {d:D} {r} (h:Xcf P s a b E z n c src d=some r):Xcf P s' a b E z n c src d=some r:=by
 unfold Xcf at h ⊢
 split at h
 ·exact h
 ·split at h
  ·rename_i he
   rw[hs _ _ he];exact h
  ·cases h
 ·cases h
theorem Xf4 (hs:HLe s s') {T:TypeId} {m key x:D} {r} (h:Xe4 P s T m key x=some r):Xe4 P s' T m key x=some r:=by
 unfold Xe4 at h ⊢
 split at h
 ·rename_i h0
  try simp only[h0]
  split at h
  ·rename_i h1
   rw[hs _ _ h1]
   simp only
   split at h
   ·rename_i h2
    rw[snap_le hs h2];simp only
    rw[VN hs (snap_has h2)]
    exact h
   ·cases h
  ·cases h
 ·cases h
theorem XmD (hs:HLe s s') {dst:Option Nat} {ver:Nat} {t:Operand->D} {op:Op} {r} (h:opF P dst ver t s op=some r):opF P dst ver t s' op=some r:=by
 cases op with
 | load T a =>
  simp only[opF] at h ⊢
  split at h
  ·rename_i h1 h2
   rw[h1,XkB hs h2];exact h
  ·cases h
 | store T a x =>
  simp only[opF] at h ⊢
  split at h
  ·rename_i h1 h2
   try simp only[h1,h2]
   split at h
   ·rename_i h3
    rw[hs _ _ h3];exact h
   ·rename_i h3
    rw[hs _ _ h3]
    split at h
    ·rename_i h4
     simp only[snap_le hs h4]
     rw[VN hs (snap_has h4)]
     exact h
    ·cases h
   ·cases h
  ·cases h
 | buildSlice T n parts =>
  simp only[opF] at h ⊢
  split at h
  ·rename_i h1
   try simp only[h1]
   split at h
   ·rename_i h2
    try simp only[h2]
    split at h
    ·rename_i h3
     try simp only[h3]
     split at h
     ·rename_i h4
      rw[Wn h4]
      split at h
      ·rename_i h5
       simp only[XdX hs h5]
       rw[VN hs (Xcr h5)]
       exact h
      ·cases h
     ·cases h
    ·cases h
   ·cases h
  ·cases h
 | mapUpdate T m key x=>simp only[opF] at h ⊢;exact Xf4 hs h
 | insert T m key x=>simp only[opF] at h ⊢;exact Xf4 hs h
 | lookup T m key ok =>
  simp only[opF] at h ⊢
  split at h
  ·rename_i h1 h2 h3
   try simp only[h1,h2,h3]
   split at h
   ·rename_i h4 h5
    simp only[hs _ _ h4,h5];exact h
   ·cases h
  ·cases h
 | call c =>
  obtain ⟨callee,args,types⟩:=c
  cases callee with
  | builtin b =>
   cases b<;>first | exact h | skip
   case len =>
    simp only[opF] at h ⊢
    split at h
    ·rename_i h1 h2
     try simp only[h1,h2]
     split at h
     ·rename_i h3;try simp only[h3]
      exact h
     ·rename_i h3;try simp only[h3]
      exact h
     ·rename_i h3;try simp only[h3]
      exact h
     ·rename_i h3;try simp only[h3]
      exact h
     ·split at h
      ·rename_i h4 h5
       simp only[h4,hs _ _ h5];exact h
      ·cases h
     ·cases h
    ·cases h
   case clear =>
    simp only[opF] at h ⊢
    split at h
    ·rename_i h1 h2
     try simp only[h1,h2]
     split at h
     ·rename_i h3
      try simp only[h3]
      split at h
      ·rename_i h4
       try simp only[h4]
       split at h
       ·rename_i h5 h6
        simp only[h5,hs _ _ h6];exact h
       ·cases h
      ·cases h
     ·cases h
    ·rename_i h1 h2
     try simp only[h1,h2]
     split at h
     ·rename_i h4 h5
      simp only[h4,hs _ _ h5];exact h
     ·cases h
    ·cases h
   case delete =>
    simp only[opF] at h ⊢
    split at h
    ·rename_i h1 h2
     try simp only[h1,h2]
     split at h
     ·rename_i h4 h5
      simp only[h4,hs _ _ h5];exact h
     ·cases h
    ·cases h
   simp only[opF] at h ⊢
   split at h
   ·rename_i h1 h2
    try simp only[h1,h2]
    split at h
    ·rename_i h3
     try simp only[h3]
     split at h
     ·rename_i h4
      try simp only[h4]
      split at h
      ·rename_i h5
       try simp only[h5]
       split at h
       ·rename_i h6
        rw[Wn h6]
        split at h
        ·rename_i h7
         try simp only[h7]
         split at h
         ·rename_i h8
          simp only[Xih hs h8]
          exact Xf3 hs h
         ·cases h
        ·rename_i h7
         try simp only[h7]
         split at h
         ·rename_i h8
          try simp only[h8]
          exact Xf3 hs h
         ·cases h
        ·cases h
       ·cases h
      ·cases h
     ·cases h
    ·cases h
   ·cases h
  | _=>exact h
 | _=>exact h
end
end Go.Sx
namespace Go.Sx
variable {P:Program}
inductive It where
 | code (c:Code)
 | ops (full:Array Oper) (rest:List Oper)
 | blk (id:Nat)
 | stop (Q:St->Prop)
abbrev AW:=Act->World->Prop
def XdY (R:AW) (f:Option Nat->AW):Exit->AW
 | .normal=>f none
 | .exit id=>f (some id)
 | .ret=>R
 | _=>λ _ _=>False
def sem (P:Program) (C:Cx) (R:AW):List It->Option Nat->AW
 | [],none=>R
 | [],some _=>λ _ _=>False
 | .stop Q::_,none=>λ a w=>∃ st,Rel P C st a w/\Q st
 | .stop _::k,some i=>sem P C R k (some i)
 | .blk _::k,none=>sem P C R k none
 | .blk j::k,some i=>if i=j then sem P C R k none else sem P C R k (some i)
 | .code c::k,none=>c.wp P (XdY R (sem P C R k))
 | .code _::k,some i=>sem P C R k (some i)
 | .ops full rest::k,none=>wpList P full (XdY R (sem P C R k)) rest
 | .ops _ _::k,some i=>sem P C R k (some i)
def VO (P:Program) (C:Cx) (Q:St->Prop):AW:=λ a w=>∃ st,Rel P C st a w/\Q st
class Tag {α:Type} (x:α):Type
instance {α:Type} (x:α):Tag x:=⟨⟩
abbrev Prf {α:Type} (_:α):Prop:=True
def LoopG (P:Program) (C:Cx) (R:St->Prop) (c:Code) (k:List It) (st:St) [Tag (C,R,c,k,st)] (_:Prf c):Prop :=
 ∀ a w,Rel P C st a w->(Code.loop c).wp P (XdY (VO P C R) (sem P C (VO P C R) k)) a w
def DrawnG (P:Program) (C:Cx) (R:St->Prop) (id:Nat) (ops:Array Oper) (k:List It) (st:St) [Tag (C,R,ops,k,st)] (_:Prf ops):Prop :=
 ∀ a w,Rel P C st a w->(Code.region id ops true).wp P (XdY (VO P C R) (sem P C (VO P C R) k)) a w
def CallG (P:Program) (G:Nat->Option (List D)) (f:FuncId) (args:List D) (obs:List Ob) (K:D->List Ob->Prop) [Tag (G,K)] (_:Prf args):Prop :=
 ∃ eargs R,Zv args eargs/\YF P G f eargs obs R/\∀ r ls,R r ls->K r ls
def JG (b:Bool) (x y:Prop):Prop:=(b=true->x)/\(b=false->y)
def setT (st:St) (x:Nat) (d:D):St:={ st with t:=upd st.t x d }
def nx (st:St) (dst:Option Nat) (d:D) (u:Up) (n k:Nat):St :=
 ⟨match dst with | some x=>upd st.t x d | none=>st.t,app st.s u,n,k⟩
def XX (dst:Option Nat) (n:Nat):Option Nat:=match dst with
 | some x=>if x<n then some x else none
 | none=>none
def callee (t:Operand->D) (c:Call):Option (FuncId×List D):=match c.callee with
 | .value f=>match t f with
  | .clo (.func g) first caps=>some (g,first++(c.args.toList.map t++caps))
  | _=>none
 | _=>none
def JH:Op->Option Call
 | .call c=>match c.callee with
  | .value _=>some c
  | _=>none
 | _=>none
def aft (s:Heap) (ids fz:List Nat) (r:D) (ls:List Ob) (ver n:Nat):D×Up :=
 if scal r&&ls.all Vm then (r,Zu s ids ls) else ((imp ver n r).1,Vu s fz++(Zu s ids ls++(imp ver n r).2.2))
def XmE (x:D×Up) (dst:Option Nat) (n k:Nat) (f:Option Nat->D->Up->Nat->Nat->Prop) [Tag f] (_:Prf x):Prop:=f dst x.1 x.2 n k
def Xbk (x:Option (Prop×D×Up)) (dst:Option Nat) (n k:Nat) (f:Option Nat->D->Up->Nat->Nat->Prop) [Tag f] (_:Prf x):Prop:=match (generalizing:=false) x with
 | some (c,d,u)=>c/\f dst d u n k
 | none=>False
def Xfd (P:Program) (G:Nat->Option (List D)) (f:FuncId) (x:Option (Prop×List D×List Nat×List Ob×List Nat)) (K:List Nat->List Nat->D->List Ob->Prop) [Tag (G,K)] (_:Prf x):Prop:=match (generalizing:=false) x with
 | some (cc,as,ids,obs,fz)=>cc/\CallG P G f as obs (K ids fz) trivial
 | none=>False
def nxS (st:St) (dst:Option Nat) (d:D) (s:Heap) (n k:Nat):St :=
 ⟨match dst with | some x=>upd st.t x d | none=>st.t,s,n,k⟩
def XdZ (n:Nat) (dst:Option Nat):Option Nat:=match dst with
 | some d=>some (n+d)
 | none=>none
def CallX (P:Program) (C:Cx) (f:FuncId) (args:List D) (dst:Option Nat) (st:St) (K:St->Prop) [Tag (C,dst,st,K)] (_:Prf args):Prop :=
 (∃ fn,P.funcs[f]? = some fn/\fn.body.isNone=false/\(fn.name== "runtime.NumGoroutine")=false) /\
 ∀ M β w vs,BLe C.b0 β->Iw P C st.s (·<st.k) M β w->RepL P M β args vs->Calls P f ⟨vs⟩ w λ e w'=>∃ v d s' k' M' β',e=.returned v/\Iw P C s' (·<k') M' β' w'/\Rep P M' β' d v/\MLe M M'/\BLe β β'/\K (nxS st (XX dst st.n) d s' st.n k')
def Xdk (P:Program) (C:Cx) (x:Option (FuncId×List D)) (dst:Option Nat) (st:St) (K:St->Prop) [Tag (C,dst,st,K)] (_:Prf x):Prop:=match (generalizing:=false) x with
 | some (f,args)=>CallX P C f args dst st K trivial
 | none=>False
def Xd0 (P:Program) (C:Cx) (x:Option Call) (o:Oper) (st:St) (K:St->Prop) [Tag (C,o,st,K)] (_:Prf x):Prop :=
 match (generalizing:=false) x with
 | some c=>Xdk P C (callee (ev st.t C.G) c) o.dst st K trivial
 | none=>Xbk (opF P (XdZ C.off o.dst) st.k (ev st.t C.G) st.s o.op) (XX o.dst st.n) st.n (st.k+1) (λ dst d u n k=>K (nx st dst d u n k)) trivial
def Xbl (P:Program) (C:Cx) (o:Oper) (st:St) (K:St->Prop):Prop:=Xd0 P C (JH o.op) o st K trivial
def Xd1 (dst:Option Nat) (n k:Nat) (f:Option Nat->Nat->Nat->Prop) [Tag f] (_:Prf dst):Prop:=f dst n k
def ZJ (d:D) (r:Nat) (want:Bool) (st:St) (x y:St->Prop) [Tag (st,x,y)] (_:Prf d):Prop:=match (generalizing:=false) d with
 | .v (.bool b)=>JG b (if want then x st else y st) (if want then y st else x st)
 | .v (.tuple _)=>y st
 | _=>False
def Xdl (r:Option Nat) (want:Bool) (st:St) (x y:St->Prop) [Tag (st,x,y)] (_:Prf r):Prop:=match (generalizing:=false) r with
 | some r=>ZJ (st.t r) r want st x y trivial
 | none=>False
def Xam (full:Array Oper) (o:Oper) (st:St) (x y:St->Prop):Prop :=
 match o.guard with
 | none=>x st
 | some (g,want)=>Xdl ((full[g]?).bind (·.dst)) want st x y trivial
def XaH (d:D) (c:Operand) (st:St) (x y:St->Prop) [Tag (c,st,x,y)] (_:Prf d):Prop:=match (generalizing:=false) d with
 | .v (.bool b)=>JG b (x st) (y st)
 | _=>False
def JI:Nat->List It->Option (List It)
 | _,[]=>none
 | id,.blk j::k=>if id=j then some k else JI id k
 | id,_::k=>JI id k
def Xf5 (x:Option (List It)) (f:List It->Prop) [Tag f] (_:Prf x):Prop:=match (generalizing:=false) x with
 | some k=>f k
 | none=>False
def run (P:Program) (C:Cx) (R:St->Prop):Nat->List It->St->Prop
 | 0,_,_=>False
 | _+1,[],st=>R st
 | _+1,.stop Q::_,st=>Q st
 | n+1,.blk _::k,st=>run P C R n k st
 | n+1,.ops _ []::k,st=>run P C R n k st
 | n+1,.ops full (o::rest)::k,st=>Xam full o st
     (λ st=>Xbl P C o st (run P C R n (.ops full rest::k)))
     (λ st=>Xd1 (XX o.dst st.n) st.n (st.k+1) (λ dst m j=>run P C R n (.ops full rest::k) (nx st dst (.v undef) [] m j)) trivial)
 | n+1,.code .skip::k,st=>run P C R n k st
 | n+1,.code (.seq x y)::k,st=>run P C R n (.code x::.code y::k) st
 | n+1,.code (.cond c x y)::k,st=>XaH (ev st.t C.G c) c st (run P C R n (.code x::k)) (run P C R n (.code y::k)) trivial
 | n+1,.code (.block id c)::k,st=>run P C R n (.code c::.blk id::k) st
 | n+1,.code (.exit id)::k,st=>Xf5 (JI id k) (λ k'=>run P C R n k' st) trivial
 | _+1,.code .ret::_,st=>R st
 | _+1,.code (.loop c)::k,st=>LoopG P C R c k st trivial
 | n+1,.code (.region _ ops false)::k,st=>run P C R n (.ops ops ops.toList::k) st
 | _+1,.code (.region id ops true)::k,st=>DrawnG P C R id ops k st trivial
 | _+1,.code _::_,_=>False
theorem JJ {C:Cx} {R:AW} {id:Nat}:∀ {k k':List It} {a:Act} {w:World},JI id k=some k'->sem P C R k' none a w->sem P C R k (some id) a w
 | [],k',a,w,h,_=>by simp[JI] at h
 | .blk j::k,k',a,w,h,hs=>by
  unfold JI at h
  unfold sem
  split at h
  ·rename_i e
   rw[Wn e]
   simp only[Wb] at h
   exact h▸hs
  ·rename_i e
   rw[Wh e]
   exact JJ h hs
 | .code c::k,k',a,w,h,hs=>by unfold JI at h;unfold sem;exact JJ h hs
 | .ops _ _::k,k',a,w,h,hs=>by unfold JI at h;unfold sem;exact JJ h hs
 | .stop _::k,k',a,w,h,hs=>by unfold JI at h;unfold sem;exact JJ h hs
theorem Rel.setT {C:Cx} {st:St} {a:Act} {w:World} (h:Rel P C st a w) {x:Nat} {d:D} (hd:∀ y M β,Rep P M β (st.t x) y->Rep P M β d y):Rel P C (setT st x d) a w:=by
 obtain ⟨h1,h2,M,β,h0,h3,h4⟩:=h
 refine ⟨h1,h2,M,β,h0,λ i=>?_,h4⟩
 simp only[Sx.setT,upd]
 split
 ·rename_i e;subst e;exact hd _ _ _ (h3 i)
 ·exact h3 i
theorem OW {C:Cx} {st:St} {a:Act} {w':World} {s':Heap} {k':Nat} {M':Mem} {β':Loc} {M:Mem} {β:Loc} {d:D} {v:Value} {dst:Option Nat} (h1:a.defers=[]) (h2:a.tmps.size=st.n) (h0:BLe C.b0 β)
 (h3:∀ x,Rep P M β (st.t x) (a.tmps.getD x undef)) (hM:MLe M M') (hB:BLe β β') (I:Iw P C s' (·<k') M' β' w') (hv:Rep P M' β' d v):Rel P C (nxS st (XX dst st.n) d s' st.n k') (a.put dst v) w':=by
 cases dst with
 | none=>exact ⟨h1,h2,M',β',h0.trans hB,λ x=>(h3 x).mono hM hB,I⟩
 | some x =>
  by_cases hx:x<st.n
  ·simp only[XX,Wn hx]
   refine ⟨h1,by simpa [nxS,Act.put] using h2,M',β',h0.trans hB,λ i=>?_,I⟩
   simp only[nxS,upd,Act.put]
   by_cases hi:i=x
   ·subst hi
    rw[Wn rfl]
    have:i<a.tmps.size:=by omega
    simpa [this] using hv
   ·rw[Wh hi]
    have e:(a.tmps.setIfInBounds x v).getD i undef=a.tmps.getD i undef:=by
     simp[Ne.symm hi]
    rw[e]
    exact (h3 i).mono hM hB
  ·simp only[XX,Wh hx]
   refine ⟨h1,by simpa [nxS,Act.put] using h2,M',β',h0.trans hB,λ i=>?_,I⟩
   have e:a.put (some x) v=a:=by
    simp only[Act.put]
    rw[Array.setIfInBounds_eq_of_size_le (by omega)]
   rw[e]
   exact (h3 i).mono hM hB
theorem Rel.put {C:Cx} {st:St} {a:Act} {w':World} {u:Up} {k':Nat} {M':Mem} {β':Loc} {M:Mem} {β:Loc} {d:D} {v:Value} {dst:Option Nat} (h1:a.defers=[]) (h2:a.tmps.size=st.n) (h0:BLe C.b0 β)
 (h3:∀ x,Rep P M β (st.t x) (a.tmps.getD x undef)) (hM:MLe M M') (hB:BLe β β') (I:Iw P C (app st.s u) (·<k') M' β' w') (hv:Rep P M' β' d v):Rel P C (nx st (XX dst st.n) d u st.n k') (a.put dst v) w':=OW h1 h2 h0 h3 hM hB I hv
theorem J4:wfV undef:=by simp[undef,wfV]
theorem Xd2 {g:FuncId} {va vb vs:List Value} {w:World}:(Deferred.ofValue (.func (.func g) ⟨va⟩ ⟨vb⟩) ⟨vs⟩).run P w=.ok { target:=.fn (.func g) ⟨vb⟩,args:=⟨va++vs⟩ } w:=by
 simp[Deferred.ofValue,pure,Sem.run]
theorem RepL.map {M:Mem} {β:Loc} {t:Operand->D} {ρ:Operand->Value} (h:∀ x,Rep P M β (t x) (ρ x)):∀ l:List Operand,RepL P M β (l.map t) (l.map ρ)
 | []=>by simp[RepL]
 | x::l=>by simp only[WV,RepL];exact ⟨_,_,rfl,h x,RepL.map h l⟩
theorem Xan {ρ:Operand->Value} {o:Oper} {c:Call} (hop:o.op=.call c) {x:Operand} (hc:c.callee=.value x) {g:FuncId} {va vb:List Value} (hx:ρ x=.func (.func g) ⟨va⟩ ⟨vb⟩)
 {fn:Func} (hf:P.funcs[g]? = some fn) (hb:fn.body.isNone=false) (hn:(fn.name== "runtime.NumGoroutine")=false) (w:World) :
 (execOp ρ o).run P w=.ok (.enter g ⟨va++(c.args.toList.map ρ++vb)⟩) w:=by
 unfold execOp
 simp only[hop,resolve,hc,hx]
 have e:c.args.map ρ=⟨c.args.toList.map ρ⟩:=by rw[← Array.toList_inj];simp
 rw[e]
 have hn':¬ fn.name = "runtime.NumGoroutine":=by simpa using hn
 have hb':¬ fn.body=none:=by
  intro h0;rw[h0] at hb;simp at hb
 simp[go_sem,Xd2,invoke,callFunc,hf,hb',hn']
section
variable {C:Cx} {st:St} {a:Act} {w:World}
mutual
theorem scal_imp {ver n:Nat}:∀ {d:D},scal d=true->imp ver n d=(d,n,[])
 | .any,_=>by simp[imp]
 | .v x,_=>by simp[imp]
 | .agg cs,h=>by simp only[scal] at h;simp only[imp,Xao h]
 | .tup cs,h=>by simp only[scal] at h;simp only[imp,Xao h]
 | .nsl,h=>by simp[scal] at h
 | .isl ..,h=>by simp[scal] at h
 | .osl ..,h=>by simp[scal] at h
 | .ept ..,h=>by simp[scal] at h
 | .ipt ..,h=>by simp[scal] at h
 | .clo ..,h=>by simp[scal] at h
 | .ifc ..,h=>by simp[scal] at h
 | .fsl ..,h=>by simp[scal] at h
 | .fmp ..,h=>by simp[scal] at h
 | .omp ..,h=>by simp[scal] at h
theorem Xao {ver n:Nat}:∀ {ds:List D},KY ds=true->KP ver n ds=(ds,n,[])
 | [],_=>by simp[KP]
 | d::ds,h=>by
  simp only[KY,WG] at h
  simp only[KP,scal_imp h.1,Xao h.2,IE]
end
theorem Xii (s:Heap) (ids fz:List Nat) (r:D) (ls:List Ob) (ver n:Nat) (hids:∀ id∈ids,∃ v o,s id=some (v,o)):(aft s ids fz r ls ver n).1=(Kn s ids fz r ls ver n).1/\app s (aft s ids fz r ls ver n).2=(Kn s ids fz r ls ver n).2:=by
 unfold aft Kn
 by_cases h:(scal r&&ls.all Vm)=true
 ·simp only[h,if_true]
  simp only[WG] at h
  rw[scal_imp h.1]
  exact ⟨rfl,rfl⟩
 ·simp only[h,Ie,if_false]
  refine ⟨trivial,?_⟩
  rw[YH,YH,JF]
theorem Xd3 {ρ:Operand->Value} {o:Oper} {x:Option Nat}:execOp ρ { o with dst:=x }=execOp ρ o:=by
 cases o;rfl
theorem CallX.c {K:St->Prop} {f:FuncId} {args:List D} {dst:Option Nat} (h:Xfd P C.G f (Y2 st.s args) (λ ids fz r ls =>
 XmE (aft st.s ids fz r ls st.k (64*(C.off+dst.getD 0))) (XX dst st.n) st.n (st.k+1) (λ dst d u n k=>K (nx st dst d u n k)) trivial) trivial) (t:Prf args):CallX P C f args dst st K t:=by
 unfold Xfd at h
 split at h
 ·rename_i cc as ids obs fz hca
  obtain ⟨hcc,eargs,R,hfit,hA,hKR⟩:=h
  obtain ⟨⟨fn,hf,hb',hn⟩,_⟩:=id hA
  refine ⟨⟨fn,hf,hb',hn⟩,λ M β w vs h0 I hargs=>?_⟩
  have hbox:∀ id∈ids,∃ v o,st.s id=some (v,o):=by
   unfold Y2 at hca
   split at hca
   ·rename_i hl
    split at hca
    ·simp only[Wb,Wi] at hca
     obtain ⟨_,_,rfl,_,_⟩:=hca
     intro id hid
     obtain ⟨v,E,z,cs,fz,hs⟩:=(YT hl ⟨by simp,by simp⟩).2 id hid
     exact ⟨_,_,hs⟩
    ·cases hca
   ·cases hca
  refine (Xf2 I (ver:=st.k) (by omega) hargs hca hcc hfit hA (64*(C.off+dst.getD 0))).mono ?_
  rintro e w' ⟨v,r,ls,M',β',rfl,hR,I',hv,hM,hB⟩
  obtain ⟨e1,e2⟩:=Xii st.s ids fz r ls st.k (64*(C.off+dst.getD 0)) hbox
  rw[← e1] at hv
  rw[← e2] at I'
  exact ⟨v,_,_,st.k+1,M',β',rfl,I'.mono λ v hv=>by show v<st.k+1;omega,hv,hM,hB,hKR r ls hR⟩
 ·exact h.elim
theorem Xg9 {o:Oper} {K:St->Prop} {K':AW} {Q:Exit->AW} (hr:Rel P C st a w) (h:Xbl P C o st K) (hK:∀ st a w,Rel P C st a w->K st->K' a w):o.wp P a w K' Q:=by
 obtain ⟨h1,h2,M,β,h0,h3,I⟩:=hr
 have hev:=Xfa I h3
 unfold Xbl Xd0 at h
 split at h
 ·rename_i c hc
  have hop:o.op=.call c:=by
   unfold JH at hc
   split at hc
   ·rename_i c' e
    split at hc
    ·simp only[Wb] at hc;subst hc;exact e
    ·cases hc
   ·cases hc
  unfold Xdk at h
  split at h
  ·rename_i f args hcal
   obtain ⟨⟨fn,hf,hb',hn⟩,hX⟩:=h
   unfold callee at hcal
   split at hcal
   ·rename_i x hx
    split at hcal
    ·rename_i g first caps hclo
     simp only[Wb,Wi] at hcal
     obtain ⟨rfl,rfl⟩:=hcal
     have hfx:=hev x
     rw[hclo] at hfx
     simp only[Rep] at hfx
     obtain ⟨va,vb,hfx,ha,hb⟩:=hfx
     unfold Oper.wp
     rw[Xan hop hx hfx hf hb' hn w]
     rw[Oper.upon_enter]
     have hargs:RepL P M β (first++(c.args.toList.map (ev st.t C.G)++caps)) (va++(c.args.toList.map a.eval++vb)) :=
      ha.append ((RepL.map hev _).append hb)
     refine (hX M β w _ h0 I hargs).mono ?_
     rintro e w' ⟨v,d,s',k',M',β',rfl,I',hv,hM,hB,hk⟩
     exact hK _ _ _ (OW h1 h2 h0 h3 hM hB I' hv) hk
    ·cases hcal
   ·cases hcal
  ·exact h.elim
 ·unfold Xbk at h
  split at h
  ·rename_i c d u hop
   have:=Xig I (ver:=st.k) (by omega) { o with dst:=XdZ C.off o.dst } a.eval (ev st.t C.G) hev (λ _=>rfl) hop h.1
   obtain ⟨M',β',w',v,hres,I',hv,hM,hB⟩:=this
   rw[Xd3] at hres
   have hrel:Rel P C (nx st (XX o.dst st.n) d u st.n (st.k+1)) (a.put o.dst v) w':=Rel.put h1 h2 h0 h3 hM hB (I'.mono λ v hv=>by show v<st.k+1;omega) hv
   unfold Oper.wp
   rcases hres with hres | ⟨hres,rfl⟩
   ·rw[hres];exact hK _ _ _ hrel h.2
   ·rw[hres];exact hK _ _ _ hrel h.2
  ·exact h.elim
theorem Rel.bump (hr:Rel P C st a w) (dst:Option Nat):Rel P C (nx st (XX dst st.n) (.v undef) [] st.n (st.k+1)) (a.put dst undef) w:=by
 obtain ⟨h1,h2,M,β,h0,h3,I⟩:=hr
 exact Rel.put (u:=[]) h1 h2 h0 h3 (MLe.refl _) (BLe.refl _) (I.mono λ v hv=>by show v<st.k+1;have:v<st.k:=hv;omega) (by simp[Rep,J4])
theorem Rel.bool (hr:Rel P C st a w) {r:Nat} {b:Bool} (hb:st.t r=.v (.bool b)):a.tmps.getD r undef=.bool b:=by
 obtain ⟨h1,h2,M,β,h0,h3,I⟩:=hr
 have:=h3 r
 rw[hb] at this
 simp only[Rep] at this
 exact this.1
theorem Rel.tuple (hr:Rel P C st a w) {r:Nat} {vs:Array Value} (hb:st.t r=.v (.tuple vs)):a.tmps.getD r undef=.tuple vs:=by
 obtain ⟨h1,h2,M,β,h0,h3,I⟩:=hr
 have:=h3 r
 rw[hb] at this
 simp only[Rep] at this
 exact this.1
theorem Xha {full:Array Oper} {o:Oper} {x y:St->Prop} (hr:Rel P C st a w) (h:Xam full o st x y) :
 (Region.wanted o (yielded full a.tmps)=true->x st)/\(Region.wanted o (yielded full a.tmps)=false->y st):=by
 unfold Xam at h
 split at h
 ·rename_i hg
  have hw:Region.wanted o (yielded full a.tmps)=true:=by unfold Region.wanted;rw[hg]
  rw[hw]
  exact ⟨λ _=>h,λ e=>by cases e⟩
 ·rename_i g want hg
  unfold Xdl at h
  split at h
  ·rename_i r hdst
   unfold ZJ at h
   split at h
   ·rename_i b hb
    have hval:=hr.bool hb
    have hy:yielded full a.tmps g=some b:=by
     unfold yielded
     rw[hdst]
     simp only[On]
     by_cases hs:r<a.tmps.size
     ·have:a.tmps[r]? = some (.bool b):=by
       simp[hs] at hval
       simp[hs,hval]
      rw[this]
     ·simp[hs,undef] at hval
    have hw:Region.wanted o (yielded full a.tmps)=(some b==some want):=by
     unfold Region.wanted;rw[hg];simp only;rw[hy]
    rw[hw]
    obtain ⟨ht,hf⟩:=h
    cases b
    ·have hf:=hf rfl
     cases want<;>simpa using hf
    ·have ht:=ht rfl
     cases want<;>simpa using ht
   ·rename_i vs hb
    have hval:=hr.tuple hb
    have hy:yielded full a.tmps g=none:=by
     unfold yielded
     rw[hdst]
     simp only[On]
     by_cases hs:r<a.tmps.size
     ·have:a.tmps[r]? = some (.tuple vs):=by
       simp[hs] at hval
       simp[hs,hval]
      rw[this]
     ·have:a.tmps[r]? = none:=by simp;omega
      rw[this]
    have hw:Region.wanted o (yielded full a.tmps)=false:=by
     unfold Region.wanted;rw[hg];simp only;rw[hy];rfl
    rw[hw]
    exact ⟨λ e=>(by cases e),λ _=>h⟩
   ·exact h.elim
  ·exact h.elim
theorem YM {R:St->Prop}:∀ (n:Nat) (k:List It) {st:St} {a:Act} {w:World},Rel P C st a w->run P C R n k st->sem P C (VO P C R) k none a w
 | 0,k,st,a,w,_,h=>by unfold run at h;exact h.elim
 | n+1,[],st,a,w,hr,h=>by unfold run at h;exact ⟨st,hr,h⟩
 | n+1,.stop Q::k,st,a,w,hr,h=>by unfold run at h;exact ⟨st,hr,h⟩
 | n+1,.blk _::k,st,a,w,hr,h=>by unfold run at h;exact YM n k hr h
 | n+1,.ops full []::k,st,a,w,hr,h=>by
  unfold run at h
  show wpList P full _ [] a w
  exact YM n k hr h
 | n+1,.ops full (o::rest)::k,st,a,w,hr,h=>by
  unfold run at h
  show wpList P full _ (o::rest) a w
  obtain ⟨hx,hy⟩:=Xha hr h
  refine wpList_step λ K hK=>?_
  split
  ·rename_i hw
   exact Xg9 hr (hx hw) λ st2 a2 w2 hr2 h2=>hK _ _ (YM n (.ops full rest::k) hr2 h2)
  ·rename_i hw
   exact hK _ _ (YM n (.ops full rest::k) (hr.bump o.dst) (hy (by simpa using hw)))
 | n+1,.code .skip::k,st,a,w,hr,h=>by unfold run at h;exact wp_skip (YM n k hr h)
 | n+1,.code (.seq x y)::k,st,a,w,hr,h=>by
  unfold run at h
  refine wp_seq ?_
  refine wp_mono (YM n (.code x::.code y::k) hr h) ?_
  intro e a' w' hq
  cases e<;>exact hq
 | n+1,.code (.cond c x y)::k,st,a,w,hr,h=>by
  unfold run XaH at h
  split at h
  ·rename_i b hb
   have h2:a.eval c=.bool b:=by
    obtain ⟨h1,h2,M,β,h0,h3,I⟩:=hr
    have:=Xfa I h3 c
    rw[hb] at this
    simp only[Rep] at this
    exact this.1
   refine wp_cond_split h2 (λ e=>?_) (λ e=>?_)
   ·exact YM n (.code x::k) hr (h.1 e)
   ·exact YM n (.code y::k) hr (h.2 e)
  ·exact h.elim
 | n+1,.code (.block id c)::k,st,a,w,hr,h=>by
  unfold run at h
  refine wp_block ?_
  refine wp_mono (YM n (.code c::.blk id::k) hr h) ?_
  intro e a' w' hq
  cases e with
  | exit i =>
   simp only[Exit.inBlock]
   have hq:sem P C (VO P C R) (.blk id::k) (some i) a' w':=hq
   unfold sem at hq
   split at hq<;>rename_i e
   ·rw[Wn e];exact hq
   ·rw[Wh e];exact hq
  | _=>exact hq
 | n+1,.code (.exit id)::k,st,a,w,hr,h=>by
  unfold run Xf5 at h
  split at h
  ·rename_i k' hk
   exact wp_exit (JJ hk (YM n k' hr h))
  ·exact h.elim
 | n+1,.code .ret::k,st,a,w,hr,h=>by unfold run at h;exact wp_ret ⟨st,hr,h⟩
 | n+1,.code (.loop c)::k,st,a,w,hr,h=>by unfold run at h;exact h a w hr
 | n+1,.code (.region id ops false)::k,st,a,w,hr,h=>by
  unfold run at h
  exact wp_region_list (YM n (.ops ops ops.toList::k) hr h)
 | n+1,.code (.region id ops true)::k,st,a,w,hr,h=>by unfold run at h;exact h a w hr
 | n+1,.code (.rangeFunc ..)::k,st,a,w,hr,h=>by unfold run at h;exact h.elim
 | n+1,.code (.scope ..)::k,st,a,w,hr,h=>by unfold run at h;exact h.elim
 | n+1,.code (.label ..)::k,st,a,w,hr,h=>by unfold run at h;exact h.elim
 | n+1,.code (.goto ..)::k,st,a,w,hr,h=>by unfold run at h;exact h.elim
 | n+1,.code (.refuse ..)::k,st,a,w,hr,h=>by unfold run at h;exact h.elim
theorem LoopG.of {R:St->Prop} {c:Code} {k:List It} (I:Nat->St->Prop) (m n:Nat) (h0:I n st) (round:∀ n st,I n st->run P C R m (.code c::.stop (λ st'=>∃ n',n'<n/\I n' st')::k) st) (t':Prf c):LoopG P C R c k st t':=by
 intro a w hr
 refine wp_loop_ghost (λ n a w=>∃ st,Rel P C st a w/\I n st) n ⟨st,hr,h0⟩ ?_
 rintro n a w ⟨st,hr,hI⟩
 refine wp_mono (YM m _ hr (round n st hI)) ?_
 intro e a' w' hq
 cases e with
 | normal =>
  obtain ⟨st',hr',n',hn,hI'⟩:=hq
  exact ⟨n',hn,st',hr',hI'⟩
 | _=>exact hq
def LoopU (P:Program) (C:Cx) (R:St->Prop) (c:Code) (k:List It) (n:Nat) (st:St) [Tag (C,R,c,k,st)] (_:Prf c):Prop :=
 ∀ a w,Rel P C st a w->Code.rounds P c (XdY (VO P C R) (sem P C (VO P C R) k)) n a w
theorem OI {R:St->Prop} {c:Code} {k:List It} {st:St} (n:Nat) (h:LoopU P C R c k n st trivial) (t':Prf c):LoopG P C R c k st t' :=
 λ a w hr=>wp_loop_rounds n (h a w hr)
theorem LoopU.s {R:St->Prop} {c:Code} {k:List It} {st:St} {n:Nat} (m:Nat) (h:run P C R m (.code c::.stop (λ st'=>LoopU P C R c k n st' trivial)::k) st) (t':Prf c):LoopU P C R c k (n+1) st t':=by
 intro a w hr
 rw[rounds_succ]
 refine wp_mono (YM m _ hr h) ?_
 intro e a' w' hq
 cases e with
 | normal =>
  obtain ⟨st',hr',hI⟩:=hq
  exact hI a' w' hr'
 | _=>exact hq
end
end Go.Sx
namespace Go.Sx
variable {P:Program}
mutual
def shut (s:Heap) (fr:List Nat):D->Option (Prop×D×List Nat×List Nat)
 | .osl id ver z off len=>match s id with
  | some (ver',.arr false E z' es fz)=>if ver=ver'/\z=z' then
   (if id∈fr then some (off=0/\fz=0/\len<=es.length,.fsl E z (es.take len),[],[id])
    else some (off+len<=es.length,.isl E z ((es.drop off).take len),[id],[])) else none
  | _=>none
 | .omp id ver=>match s id with
  | some (ver',.mp k es)=>if ver=ver'/\id∈fr then some (True,.fmp k (es.map (·.1)) (es.map (·.2)),[],[id]) else none
  | _=>none
 | .agg cs=>match VP s fr cs with
  | some (c,ds,l,m)=>some (c,.agg ds,l,m)
  | none=>none
 | .tup cs=>match VP s fr cs with
  | some (c,ds,l,m)=>some (c,.tup ds,l,m)
  | none=>none
 | .clo fn a b=>match VP s fr a,VP s fr b with
  | some (c,a',l,m),some (c',b',l',m')=>some (c/\c',.clo fn a' b',l++l',m++m')
  | _,_=>none
 | .ifc t d=>match shut s fr d with
  | some (c,e,l,m)=>some (c,.ifc t e,l,m)
  | none=>none
 | .any=>some (True,.any,[],[])
 | .v x=>some (True,.v x,[],[])
 | .nsl=>some (True,.nsl,[],[])
 | .isl E z es=>some (True,.isl E z es,[],[])
 | .ipt z cs c=>some (True,.ipt z cs c,[],[])
 | _=>none
def VP (s:Heap) (fr:List Nat):List D->Option (Prop×List D×List Nat×List Nat)
 | []=>some (True,[],[],[])
 | d::ds=>match shut s fr d,VP s fr ds with
  | some (c,e,l,m),some (c',es,l',m')=>some (c/\c',e::es,l++l',m++m')
  | _,_=>none
end
def Blk (β:Loc) (s:Heap) (m:List Nat) (bl:List (Option (Nat×Nat))):Prop :=
 ∃ f:List (Nat×Nat×Option (Nat×Nat)),f.map (·.1)=m/\f.map (·.2.2)=bl/\∀ x∈f,β x.1 x.2.1=some x.2.2/\∃ ob,s x.1=some (x.2.1,ob)
section
variable {C:Cx} {s:Heap} {U:Nat->Prop} {M M':Mem} {β:Loc} {w:World}
theorem Blk.nil:Blk β s [] []:=⟨[],rfl,rfl,by simp⟩
theorem Blk.append {m m':List Nat} {b b':List (Option (Nat×Nat))} (h:Blk β s m b) (k:Blk β s m' b'):Blk β s (m++m') (b++b'):=by
 obtain ⟨f,h1,h2,h3⟩:=h
 obtain ⟨g,k1,k2,k3⟩:=k
 refine ⟨f++g,by simp[h1,k1],by simp[h2,k2],λ x hx=>?_⟩
 rcases WH.1 hx with hx | hx
 ·exact h3 x hx
 ·exact k3 x hx
theorem O1 {x:Option (Nat×Nat)} {E z:Nat} {es:List (List D)} (h:ObRep P M β w x (.arr false E z es 0)) (n:Nat):ObRep P M β w x (.arr false E z (es.take n) 0):=by
 cases x with
 | none =>
  simp only[ObRep] at h ⊢
  obtain ⟨_,rfl,_⟩:=h
  simp
 | some bc =>
  obtain ⟨b,cb⟩:=bc
  simp only[ObRep] at h ⊢
  obtain ⟨cs,T,h1,h2,h3,h4,h5,h6,h7,h8,h9,h10⟩:=h
  have hl:(es.take n).length<=es.length:=by simp;omega
  refine ⟨cs,T,h1,h2,λ e he=>h3 e (Ue he),by omega,by omega,Ic (Uh _ hl) h6,by omega,h8,h9,λ i d hd=>h10 i d ?_⟩
  obtain ⟨l,hl2⟩:=List.take_prefix n es
  rw[← hl2,List.flatten_append]
  rw[Ux]
  ·exact hd
  ·exact (IT.1 hd).1
mutual
theorem shut_rep {lz:List Nat} (I:Iw P C s U M β w) (hM:MLe M M') (I':Iw P C (frz s lz) U M' β w) (hF:Frz s M' β w lz) {fr:List Nat} (hfr:∀ i∈fr,i∉lz) :
 ∀ {d r:D} {c:Prop} {l m:List Nat},shut s fr d=some (c,r,l,m)->c->(∀ i∈l,i∈lz)->∀ {y:Value},Rep P M β d y->∃ bl,FrRep P M' w C.w0.heap.size r y bl/\Blk β s m bl
 | .osl id ver z off len,r,c,l,m,h,hc,hl,y,hr=>by
  unfold shut at h
  split at h
  ·rename_i ver' E z' es fz hs
   split at h
   ·rename_i e
    obtain ⟨rfl,rfl⟩:=e
    split at h
    ·rename_i hid
     simp only[Wb,Wi] at h
     obtain ⟨rfl,rfl,rfl,rfl⟩:=h
     obtain ⟨rfl,rfl,hle⟩:=hc
     have hsf:frz s lz id=some (ver,.arr false E z es 0):=by
      unfold frz;rw[Wh (hfr id hid)];exact hs
     obtain ⟨x,hx,hob⟩:=I'.obs id ver _ hsf
     have hob:=O1 hob len
     simp only[Rep] at hr
     rcases hr with ⟨h1,_,h2,a,rfl⟩ | ⟨b,cb,o,cap,h1,rfl,h2,h3,h4⟩
     ·rw[h1] at hx
      obtain rfl:none=x:=by simpa using hx
      refine ⟨[none],?_,[(id,ver,none)],rfl,rfl,?_⟩
      ·simp only[FrRep];exact .inl ⟨trivial,WR (by simp;omega),a,rfl⟩
      ·intro x hx;simp at hx;subst hx;exact ⟨h1,_,hs⟩
     ·rw[h1] at hx
      obtain rfl:some (b,cb)=x:=by simpa using hx
      refine ⟨[some (b,cb)],?_,[(id,ver,some (b,cb))],rfl,rfl,?_⟩
      ·simp only[FrRep]
       refine .inr ⟨b,cb,o,rfl,?_,?_,?_,?_⟩
       ·rcases I.own id ver _ b cb hs h1 with h | h
        ·exact h
        ·simp[Ob.bx] at h
       ·rw[show cap=cb by omega,WO,OC hle]
       ·rcases h4 with h | h
        ·left;simpa using h
        ·right;omega
       ·exact hob
      ·intro x hx;simp at hx;subst hx;exact ⟨h1,_,hs⟩
    ·simp only[Wb,Wi] at h
     obtain ⟨rfl,rfl,rfl,rfl⟩:=h
     have:=snap_rep (d:=.osl id ver z off len) (d':=.isl E z ((es.drop off).take len)) (c:=off+len<=es.length) (l:=[id]) I hM (by simp[snap,hs]) hc (λ i hi=>hF i (hl i hi)) hr
     exact ⟨[],by simp only[FrRep];exact ⟨trivial,this⟩,Blk.nil⟩
   ·cases h
  ·cases h
 | .agg cs,r,c,l,m,h,hc,hl,y,hr=>by
  unfold shut at h
  split at h
  ·rename_i he
   simp only[Wb,Wi] at h
   obtain ⟨rfl,rfl,rfl,rfl⟩:=h
   simp only[Rep] at hr
   obtain ⟨vs,rfl,hr⟩:=hr
   obtain ⟨bl,h1,h2⟩:=KZ I hM I' hF hfr he hc hl hr
   exact ⟨bl,by simp only[FrRep];exact ⟨vs,rfl,h1⟩,h2⟩
  ·cases h
 | .tup cs,r,c,l,m,h,hc,hl,y,hr=>by
  unfold shut at h
  split at h
  ·rename_i he
   simp only[Wb,Wi] at h
   obtain ⟨rfl,rfl,rfl,rfl⟩:=h
   simp only[Rep] at hr
   obtain ⟨vs,rfl,hr⟩:=hr
   obtain ⟨bl,h1,h2⟩:=KZ I hM I' hF hfr he hc hl hr
   exact ⟨bl,by simp only[FrRep];exact ⟨vs,rfl,h1⟩,h2⟩
  ·cases h
 | .clo fn a b,r,c,l,m,h,hc,hl,y,hr=>by
  unfold shut at h
  split at h
  ·rename_i he hf
   simp only[Wb,Wi] at h
   obtain ⟨rfl,rfl,rfl,rfl⟩:=h
   simp only[Rep] at hr
   obtain ⟨va,vb,rfl,hr1,hr2⟩:=hr
   obtain ⟨bl,h1,h2⟩:=KZ I hM I' hF hfr he hc.1 (λ i hi=>hl i (Uf _ hi)) hr1
   obtain ⟨bl',h3,h4⟩:=KZ I hM I' hF hfr hf hc.2 (λ i hi=>hl i (Uj _ hi)) hr2
   exact ⟨bl++bl',by simp only[FrRep];exact ⟨va,vb,rfl,bl,bl',rfl,h1,h3⟩,h2.append h4⟩
  ·cases h
 | .ifc t d,r,c,l,m,h,hc,hl,y,hr=>by
  unfold shut at h
  split at h
  ·rename_i he
   simp only[Wb,Wi] at h
   obtain ⟨rfl,rfl,rfl,rfl⟩:=h
   simp only[Rep] at hr
   obtain ⟨x,rfl,hr⟩:=hr
   obtain ⟨bl,h1,h2⟩:=shut_rep I hM I' hF hfr he hc hl hr
   exact ⟨bl,by simp only[FrRep];exact ⟨x,rfl,h1⟩,h2⟩
  ·cases h
 | .any,r,c,l,m,h,hc,hl,y,hr=>by
  simp only[shut,Wb,Wi] at h
  obtain ⟨rfl,rfl,rfl,rfl⟩:=h
  exact ⟨[],by simp[FrRep],Blk.nil⟩
 | .v x,r,c,l,m,h,hc,hl,y,hr=>by
  simp only[shut,Wb,Wi] at h
  obtain ⟨rfl,rfl,rfl,rfl⟩:=h
  exact ⟨[],by simpa [FrRep,Rep] using hr,Blk.nil⟩
 | .nsl,r,c,l,m,h,hc,hl,y,hr=>by
  simp only[shut,Wb,Wi] at h
  obtain ⟨rfl,rfl,rfl,rfl⟩:=h
  exact ⟨[],by simpa [FrRep,Rep] using hr,Blk.nil⟩
 | .isl E z es,r,c,l,m,h,hc,hl,y,hr=>by
  simp only[shut,Wb,Wi] at h
  obtain ⟨rfl,rfl,rfl,rfl⟩:=h
  have:=hr.mono hM (BLe.refl _)
  exact ⟨[],by simp only[FrRep];simp only[Rep] at this ⊢;exact ⟨trivial,this⟩,Blk.nil⟩
 | .ipt z cs k,r,c,l,m,h,hc,hl,y,hr=>by
  simp only[shut,Wb,Wi] at h
  obtain ⟨rfl,rfl,rfl,rfl⟩:=h
  have:=hr.mono hM (BLe.refl _)
  exact ⟨[],by simp only[FrRep];simp only[Rep] at this ⊢;exact ⟨trivial,this⟩,Blk.nil⟩
 | .ept ..,r,c,l,m,h,hc,hl,y,hr=>by simp[shut] at h
 | .fsl ..,r,c,l,m,h,hc,hl,y,hr=>by simp[shut] at h
 | .fmp ..,r,c,l,m,h,hc,hl,y,hr=>by simp[shut] at h
 | .omp id ver,r,c,l,m,h,hc,hl,y,hr=>by
  unfold shut at h
  split at h
  ·rename_i ver' k es hs
   split at h
   ·rename_i hcond
    obtain ⟨rfl,hid⟩:=hcond
    simp only[Wb,Wi] at h
    obtain ⟨rfl,rfl,rfl,rfl⟩:=h
    have hsf:frz s lz id=some (ver,.mp k es):=by
     unfold frz;rw[Wh (hfr id hid)];exact hs
    obtain ⟨x,hx,hob⟩:=I'.obs id ver _ hsf
    simp only[Rep] at hr
    obtain ⟨b,cb,h1,rfl⟩:=hr
    rw[h1] at hx
    obtain rfl:some (b,cb)=x:=by simpa using hx
    obtain rfl:cb=0:=hob.1
    refine ⟨[some (b,0)],?_,[(id,ver,some (b,0))],rfl,rfl,?_⟩
    ·simp only[FrRep]
     refine ⟨b,rfl,?_,rfl,by simp,?_⟩
     ·rcases I.own id ver _ b 0 hs h1 with h | h
      ·exact h
      ·simp[Ob.bx] at h
     ·rw[show (es.map (·.1)).zip (es.map (·.2))=es by rw[List.zip_map'];simp]
      exact hob
    ·intro x hx;simp at hx;subst hx;exact ⟨h1,_,hs⟩
   ·cases h
  ·cases h
theorem KZ {lz:List Nat} (I:Iw P C s U M β w) (hM:MLe M M') (I':Iw P C (frz s lz) U M' β w) (hF:Frz s M' β w lz) {fr:List Nat} (hfr:∀ i∈fr,i∉lz) :
 ∀ {ds rs:List D} {c:Prop} {l m:List Nat},VP s fr ds=some (c,rs,l,m)->c->(∀ i∈l,i∈lz)->∀ {ys:List Value},RepL P M β ds ys->∃ bl,FrRepL P M' w C.w0.heap.size rs ys bl/\Blk β s m bl
 | [],rs,c,l,m,h,hc,hl,ys,hr=>by
  simp only[VP,Wb,Wi] at h
  obtain ⟨rfl,rfl,rfl,rfl⟩:=h
  simp only[RepL] at hr
  exact ⟨[],by simp[FrRepL,hr],Blk.nil⟩
 | d::ds,rs,c,l,m,h,hc,hl,ys,hr=>by
  unfold VP at h
  split at h
  ·rename_i he hf
   simp only[Wb,Wi] at h
   obtain ⟨rfl,rfl,rfl,rfl⟩:=h
   simp only[RepL] at hr
   obtain ⟨x,xs,rfl,hr1,hr2⟩:=hr
   obtain ⟨bl,h1,h2⟩:=shut_rep I hM I' hF hfr he hc.1 (λ i hi=>hl i (Uf _ hi)) hr1
   obtain ⟨bl',h3,h4⟩:=KZ I hM I' hF hfr hf hc.2 (λ i hi=>hl i (Uj _ hi)) hr2
   exact ⟨bl++bl',by simp only[FrRepL];exact ⟨x,xs,bl,bl',rfl,rfl,h1,h3⟩,h2.append h4⟩
  ·cases h
end
theorem Blk.nodup (I:Iw P C s U M β w) {m:List Nat} {bl:List (Option (Nat×Nat))} (h:Blk β s m bl) (hm:m.Nodup):(XS bl).Nodup:=by
 obtain ⟨f,rfl,rfl,hf⟩:=h
 induction f with
 | nil=>simp[XS]
 | cons x f ih =>
  simp only[WV,Od] at hm
  have ih:=ih hm.2 λ y hy=>hf y (Ud _ hy)
  obtain ⟨i,v,o⟩:=x
  cases o with
  | none=>simpa [XS] using ih
  | some bc =>
   obtain ⟨b,cb⟩:=bc
   have e:XS (((i,v,some (b,cb))::f).map (·.2.2))=b::XS (f.map (·.2.2)):=by simp[XS]
   rw[e,Od]
   refine ⟨λ hb=>?_,ih⟩
   simp only[XS,List.mem_filterMap,W8] at hb
   obtain ⟨o',⟨y,hy,rfl⟩,hb⟩:=hb
   obtain ⟨j,v',o'⟩:=y
   simp only[WW] at hb
   obtain ⟨⟨b',cb'⟩,rfl,rfl⟩:=hb
   obtain ⟨h1,ob,h2⟩:=hf (i,v,some (b',cb)) (by simp)
   obtain ⟨h3,ob',h4⟩:=hf (j,v',some (b',cb')) (Ud _ hy)
   have:=I.inj i v ob j v' ob' b' cb cb' h2 h4 h1 h3
   subst this
   exact hm.1 (W8.2 ⟨_,hy,rfl⟩)
mutual
def fitsR:D->D->Prop
 | .nsl,.isl _ _ es=>es=[]
 | .nsl,.fsl _ _ es=>es=[]
 | .agg cs,.agg ds=>Kx cs ds
 | .tup cs,.tup ds=>Kx cs ds
 | .ifc t d,.ifc t' e=>t=t'/\fitsR d e
 | d,e=>d=e
def Kx:List D->List D->Prop
 | [],[]=>True
 | d::ds,e::es=>fitsR d e/\Kx ds es
 | _,_=>False
end
def RetG (r:D) (obs:List Ob) (R':D->List Ob->Prop):Prop:=∃ r',fitsR r r'/\R' r' obs
mutual
theorem fitsR_refl:∀ d:D,fitsR d d
 | .agg cs=>by simp only[fitsR];exact JK cs
 | .tup cs=>by simp only[fitsR];exact JK cs
 | .ifc t d=>by simp only[fitsR];exact ⟨trivial,fitsR_refl d⟩
 | .nsl=>by simp[fitsR]
 | .any=>by simp[fitsR]
 | .v _=>by simp[fitsR]
 | .isl ..=>by simp[fitsR]
 | .osl ..=>by simp[fitsR]
 | .ept ..=>by simp[fitsR]
 | .ipt ..=>by simp[fitsR]
 | .clo ..=>by simp[fitsR]
 | .fsl ..=>by simp[fitsR]
 | .fmp ..=>by simp[fitsR]
 | .omp ..=>by simp[fitsR]
theorem JK:∀ ds:List D,Kx ds ds
 | []=>by simp[Kx]
 | d::ds=>by simp only[Kx];exact ⟨fitsR_refl d,JK ds⟩
end
theorem RetG.same {r:D} {obs:List Ob} {R':D->List Ob->Prop} (h:R' r obs):RetG r obs R':=⟨r,fitsR_refl r,h⟩
mutual
theorem fitsR_rep {M:Mem} {w:World} {B:Nat}:∀ {d e:D} {y:Value} {l:List (Option (Nat×Nat))},fitsR d e->FrRep P M w B d y l->∃ l',FrRep P M w B e y l'/\XS l'=XS l
 | .nsl,e,y,l,h,hr=>by
  cases e with
  | isl E z es =>
   simp only[fitsR] at h
   subst h
   simp only[FrRep,Rep] at hr
   obtain ⟨rfl,a,rfl⟩:=hr
   refine ⟨[],?_,rfl⟩
   simp only[FrRep,Rep]
   exact ⟨trivial,by simp,by simp[Xn],by simp[Xn],a,0,rfl,WQ _,.inl trivial⟩
  | fsl E z es =>
   simp only[fitsR] at h
   subst h
   simp only[FrRep,Rep] at hr
   obtain ⟨rfl,a,rfl⟩:=hr
   refine ⟨[none],?_,rfl⟩
   simp only[FrRep]
   exact .inl ⟨trivial,trivial,a,rfl⟩
  | nsl=>exact ⟨l,hr,rfl⟩
  | _=>simp[fitsR] at h
 | .agg cs,e,y,l,h,hr=>by
  cases e with
  | agg ds =>
   simp only[fitsR] at h
   simp only[FrRep] at hr ⊢
   obtain ⟨vs,rfl,hr⟩:=hr
   obtain ⟨l',h1,h2⟩:=Vx h hr
   exact ⟨l',⟨vs,rfl,h1⟩,h2⟩
  | _=>simp[fitsR] at h
 | .tup cs,e,y,l,h,hr=>by
  cases e with
  | tup ds =>
   simp only[fitsR] at h
   simp only[FrRep] at hr ⊢
   obtain ⟨vs,rfl,hr⟩:=hr
   obtain ⟨l',h1,h2⟩:=Vx h hr
   exact ⟨l',⟨vs,rfl,h1⟩,h2⟩
  | _=>simp[fitsR] at h
 | .ifc t d,e,y,l,h,hr=>by
  cases e with
  | ifc t' e =>
   simp only[fitsR] at h
   obtain ⟨rfl,h⟩:=h
   simp only[FrRep] at hr ⊢
   obtain ⟨x,rfl,hr⟩:=hr
   obtain ⟨l',h1,h2⟩:=fitsR_rep h hr
   exact ⟨l',⟨x,rfl,h1⟩,h2⟩
  | _=>simp[fitsR] at h
 | .any,e,y,l,h,hr=>by have:D.any=e:=by simpa [fitsR] using h
                       exact ⟨l,this▸hr,rfl⟩
 | .v x,e,y,l,h,hr=>by have:D.v x=e:=by simpa [fitsR] using h
                       exact ⟨l,this▸hr,rfl⟩
 | .isl a b c,e,y,l,h,hr=>by have:D.isl a b c=e:=by simpa [fitsR] using h
                             exact ⟨l,this▸hr,rfl⟩
 | .ipt a b c,e,y,l,h,hr=>by have:D.ipt a b c=e:=by simpa [fitsR] using h
                             exact ⟨l,this▸hr,rfl⟩
 | .fsl a b c,e,y,l,h,hr=>by have:D.fsl a b c=e:=by simpa [fitsR] using h
                             exact ⟨l,this▸hr,rfl⟩
 | .fmp a b c,e,y,l,h,hr=>by have:D.fmp a b c=e:=by simpa [fitsR] using h
                             exact ⟨l,this▸hr,rfl⟩
 | .clo a b c,e,y,l,h,hr=>by have:D.clo a b c=e:=by simpa [fitsR] using h
                             exact ⟨l,this▸hr,rfl⟩
 | .osl ..,e,y,l,h,hr=>by simp[FrRep] at hr
 | .ept ..,e,y,l,h,hr=>by simp[FrRep] at hr
 | .omp ..,e,y,l,h,hr=>by simp[FrRep] at hr
theorem Vx {M:Mem} {w:World} {B:Nat}:∀ {ds es:List D} {ys:List Value} {l:List (Option (Nat×Nat))},Kx ds es->FrRepL P M w B ds ys l->∃ l',FrRepL P M w B es ys l'/\XS l'=XS l
 | [],es,ys,l,h,hr=>by
  cases es with
  | nil=>exact ⟨l,hr,rfl⟩
  | cons e es=>simp[Kx] at h
 | d::ds,es,ys,l,h,hr=>by
  cases es with
  | nil=>simp[Kx] at h
  | cons e es =>
   simp only[Kx] at h
   simp only[FrRepL] at hr
   obtain ⟨x,xs,l1,l2,rfl,rfl,h1,h2⟩:=hr
   obtain ⟨l1',k1,k2⟩:=fitsR_rep h.1 h1
   obtain ⟨l2',k3,k4⟩:=Vx h.2 h2
   exact ⟨l1'++l2',by simp only[FrRepL];exact ⟨x,xs,l1',l2',rfl,rfl,k1,k3⟩,by rw[X0,X0,k2,k4]⟩
end
def Vn:Nat->Nat->List Nat
 | _,0=>[]
 | k,n+1=>(LB+k)::Vn (k+1) n
theorem J5:∀ (n k j:Nat),j<n->(Vn k n)[j]? = some (LB+(k+j))
 | 0,_,_,h=>by omega
 | n+1,k,0,_=>by simp[Vn]
 | n+1,k,j+1,h=>by
  simp only[Vn,List.getElem?_cons_succ]
  rw[J5 n (k+1) j (by omega)]
  congr 1;omega
theorem Kc:∀ (n k:Nat),(Vn k n).length=n
 | 0,_=>rfl
 | n+1,k=>by simp[Vn,Kc n (k+1)]
def XkC (s:Heap):List Nat->Prop
 | []=>True
 | i::l=>(s i).map (·.1)=some 0/\XkC s l
theorem Xd4 {s:Heap}:∀ {l:List Nat} {j i:Nat},XkC s l->l[j]? = some i->(s i).map (·.1)=some 0
 | [],j,i,_,h=>by simp at h
 | x::l,0,i,hv,h=>by simp at h;subst h;exact hv.1
 | x::l,j+1,i,hv,h=>Xd4 hv.2 (by simpa using h)
def Xhb (st:St) (P:Program):ResultVar->Option (Prop×D)
 | .tmp t=>some (True,st.t t)
 | .cell a T=>match Xt P T,Xc6 st.s (st.t a) with
  | some ty,some (c,cs,o,z)=>if o+ty.size<=z/\(ty.isAgg=true\/ty.size=1) then some (c,ZP ty.isAgg ((cs.drop o).take ty.size)) else none
  | _,_=>none
def Xd5 (st:St) (P:Program):List ResultVar->Option (Prop×List D)
 | []=>some (True,[])
 | x::l=>match Xhb st P x,Xd5 st P l with
  | some (c,d),some (c',ds)=>some (c/\c',d::ds)
  | _,_=>none
def Xfe:List D->D
 | [d]=>d
 | ds=>.tup ds
def Xck (P:Program) (results:List ResultVar) (fr:List Nat) (nl:Nat) (R':D->List Ob->Prop) (st:St):Prop :=
 match Xd5 st P results with
 | some (c,ds)=>match shut st.s fr (Xfe ds),Z6 st.s (Vn 0 nl) with
  | some (c1,r,fz1,fh),some (c2,obs,fz2)=>c/\c1/\c2/\XkC st.s (Vn 0 nl)/\fh.Nodup/\(∀ i∈fr,i∉fz1++fz2)/\RetG r obs R'
  | _,_=>False
 | none=>False
end
end Go.Sx
namespace Go.Sx
variable {P:Program}
section
variable {C:Cx} {s:Heap} {U:Nat->Prop} {M:Mem} {β:Loc} {w:World}
def Xbm (tmps:Array Value):ResultVar->Sem Value
 | .tmp t=>pure (tmps.getD t undef)
 | .cell a t=>do loadVar t (← asAddr (tmps.getD a undef))
theorem XkD {st:St} (I:Iw P C st.s U M β w) {tmps:Array Value} (h3:∀ x,Rep P M β (st.t x) (tmps.getD x undef)) {x:ResultVar} {c:Prop} {d:D} (h:Xhb st P x=some (c,d)) (hc:c) :
 ∃ v,(Xbm tmps x).run P w=.ok v w/\Rep P M β d v:=by
 cases x with
 | tmp t =>
  simp only[Xhb,Wb,Wi] at h
  obtain ⟨rfl,rfl⟩:=h
  exact ⟨_,rfl,h3 t⟩
 | cell a T =>
  simp only[Xhb] at h
  split at h
  ·rename_i hT hl
   split at h
   ·rename_i hcond
    simp only[Wb,Wi] at h
    obtain ⟨rfl,rfl⟩:=h
    obtain ⟨b,o0,hy,hlen,hcell⟩:=XfV I hl hc (h3 a)
    obtain ⟨v,hv,hrv⟩:=Xbe hT w M β b o0 _ _ _ hlen hcond.1 hcell (λ hf=>by rcases hcond.2 with h | h;(rw[h] at hf;cases hf);exact h)
    refine ⟨v,?_,hrv⟩
    unfold Xbm
    simp only
    rw[hy]
    simp[asAddr,hv]
   ·cases h
  ·cases h
theorem Xf6 {st:St} {f:ResultVar->Sem Value} (hf:∀ x c d,Xhb st P x=some (c,d)->c->∃ v,(f x).run P w=.ok v w/\Rep P M β d v):∀ {l:List ResultVar} {c:Prop} {ds:List D},Xd5 st P l=some (c,ds)->c ->
 ∃ vs,(l.mapM f).run P w=.ok vs w/\RepL P M β ds vs
 | [],c,ds,h,hc=>by
  simp only[Xd5,Wb,Wi] at h
  obtain ⟨rfl,rfl⟩:=h
  exact ⟨[],rfl,by simp[RepL]⟩
 | x::l,c,ds,h,hc=>by
  unfold Xd5 at h
  split at h
  ·rename_i he hl
   simp only[Wb,Wi] at h
   obtain ⟨rfl,rfl⟩:=h
   obtain ⟨v,h1,h2⟩:=hf _ _ _ he hc.1
   obtain ⟨vs,h4,h5⟩:=Xf6 hf hl hc.2
   refine ⟨v::vs,?_,by simp only[RepL];exact ⟨_,_,rfl,h2,h5⟩⟩
   simp only[List.mapM_cons,Sem.run_bind,Result.andThen_ok,Sem.run_pure,h4,h1]
  ·cases h
theorem Xbn {st:St} (I:Iw P C st.s U M β w) {tmps:Array Value} (h3:∀ x,Rep P M β (st.t x) (tmps.getD x undef)) {fn:Func} {l:List ResultVar} (hl:fn.results=⟨l⟩) {c:Prop} {ds:List D} (h:Xd5 st P l=some (c,ds)) (hc:c) :
 ∃ v,(results fn tmps).run P w=.ok v w/\Rep P M β (Xfe ds) v:=by
 obtain ⟨vs,h1,h2⟩:=Xf6 (f:=Xbm tmps) (λ x c d hx hc=>XkD I h3 hx hc) h hc
 have e0:(fn.results.mapM (Xbm tmps)).run P w=.ok vs.toArray w:=by
  rw[hl,Array.mapM_eq_mapM_toList]
  simp only[Sem.run_map,h1,Result.andThen_ok]
 have e:(results fn tmps).run P w=.ok (if h:vs.toArray.size=1 then vs.toArray[0] else .tuple vs.toArray) w:=by
  show ((fn.results.mapM (Xbm tmps)) >>= λ vs=>pure (if h:vs.size=1 then vs[0] else .tuple vs):Sem Value).run P w=_
  simp only[Sem.run_bind,e0,Result.andThen_ok,Sem.run_pure]
 refine ⟨_,e,?_⟩
 have hlen:=h2.length
 match ds,vs,h2,hlen with
 | [d],[v],h2,_=>simp only[RepL] at h2;obtain ⟨x,xs,e,h,h'⟩:=h2;simp at e;obtain ⟨rfl,rfl⟩:=e;simpa [Xfe] using h
 | [],[],h2,_=>simp[Xfe,Rep,RepL]
 | d::d'::ds,v::v'::vs,h2,_ =>
  have:¬ (v::v'::vs).toArray.size=1:=by simp
  rw[dif_neg this]
  simp only[Xfe,Rep]
  exact ⟨_,rfl,h2⟩
theorem Xcs {s:Heap}:∀ {ids:List Nat} {r},Z6 s ids=some r->∀ id∈ids,∃ v E z cs fz,s id=some (v,.arr true E z [cs] fz)
 | [],r,h,id,hid=>by simp at hid
 | i::ids,r,h,id,hid=>by
  unfold Z6 at h
  split at h
  ·rename_i v E z cs fz hs
   split at h
   ·rename_i h1 h2
    rcases UN.1 hid with rfl | hid
    ·exact ⟨_,_,_,_,_,hs⟩
    ·exact Xcs h2 id hid
   ·cases h
  ·cases h
def st0 (args:List D) (lent:List Ob) (n:Nat):St:=⟨λ i=>(args[i]?).getD (.v undef),Kv lent,n,1⟩
theorem Xhc {G:Nat->Option (List D)} {lb:List (Nat×Nat)} {lent:List Ob} (hM:MemOK M w) (hG:∀ g cs,G g=some cs->RepC P M cs g 0) (hlen:lb.length=lent.length) (hnd:(lb.map (·.1)).Nodup)
 (hob:∀ (k:Nat) ob x,lent[k]? = some ob->lb[k]? = some x->ObRep P M Yg w (some x) ob/\ob.bx=true):Iw P ⟨G,M,w,lb.map (·.1),Jm lb,M,0⟩ (Kv lent) (·<1) M (Jm lb) w:=by
 have hsplit:∀ id v ob,Kv lent id=some (v,ob)->LB<=id/\v=0/\lent[id-LB]? = some ob:=by
  intro id v ob h
  unfold Kv at h
  split at h
  ·rename_i hle
   simp only[WW,Wi] at h
   obtain ⟨o,h1,rfl,rfl⟩:=h
   exact ⟨hle,rfl,h1⟩
  ·cases h
 have hloc:∀ id v x,Jm lb id v=some x->v=0/\LB<=id/\∃ y,lb[id-LB]? = some y/\x=some y:=by
  intro id v x h
  unfold Jm at h
  split at h
  ·rename_i hle
   simp only[WW] at h
   obtain ⟨o,h1,rfl⟩:=h
   exact ⟨hle.1,hle.2,o,h1,rfl⟩
  ·cases h
 constructor
 ·exact hM
 ·intro id v x h
  obtain ⟨rfl,_⟩:=hloc id v x h
  exact Nat.zero_lt_one
 ·intro id v ob h
  obtain ⟨h1,rfl,h2⟩:=hsplit id v ob h
  have hlt:id-LB<lb.length:=by
   rw[hlen]
   rcases Uk (id-LB) lent.length with h' | h'
   ·exact h'
   ·simp[WK h'] at h2
  refine ⟨some lb[id-LB],?_,?_⟩
  ·unfold Jm
   rw[Wn ⟨rfl,h1⟩]
   simp[hlt]
  ·obtain ⟨g1,_⟩:=hob _ ob lb[id-LB] h2 (Wc hlt)
   exact g1.mono (MLe.refl _) (BLe.zero _) (λ _ _ _=>rfl) (λ _ _ _ _=>rfl)
 ·intro id v ob b cb h hb
  obtain ⟨h1,rfl,h2⟩:=hsplit id v ob h
  obtain ⟨_,_,y,hy,e⟩:=hloc _ _ _ hb
  simp only[Wb] at e
  subst e
  exact .inr ⟨W8.2 ⟨_,WU hy,rfl⟩,(hob _ ob _ h2 hy).2⟩
 ·intro id v ob id' v' ob' b cb cb' h h' hb hb'
  obtain ⟨h1,rfl,h2⟩:=hsplit id v ob h
  obtain ⟨h1',rfl,h2'⟩:=hsplit id' v' ob' h'
  obtain ⟨_,_,y,hy,e⟩:=hloc _ _ _ hb
  obtain ⟨_,_,y',hy',e'⟩:=hloc _ _ _ hb'
  simp only[Wb] at e e'
  subst e;subst e'
  have hn:=IF.1 (Ia.1 hnd)
  have hlt:id-LB<lb.length:=by
   rcases Uk (id-LB) lb.length with h' | h'
   ·exact h'
   ·simp[WK h'] at hy
  have hlt':id'-LB<lb.length:=by
   rcases Uk (id'-LB) lb.length with h' | h'
   ·exact h'
   ·simp[WK h'] at hy'
  have key:∀ i j,i<j->∀ (hi:i<lb.length) (hj:j<lb.length),∀ c c',lb[i]? = some (b,c)->lb[j]? = some (b,c')->False:=by
   intro i j hij hi hj c c' e e'
   rw[Wc hi] at e
   rw[Wc hj] at e'
   simp only[Wb] at e e'
   exact hn i j (by simpa using hi) (by simpa using hj) hij (by simp[e,e'])
  rcases Nat.lt_trichotomy (id-LB) (id'-LB) with h | h | h
  ·exact (key _ _ h hlt hlt' _ _ hy hy').elim
  ·rw[← Nat.sub_add_cancel h1,← Nat.sub_add_cancel h1',h]
  ·exact (key _ _ h hlt' hlt _ _ hy' hy).elim
 ·exact Kp.refl _ _
 ·intro b o _;rfl
 ·exact MLe.refl _
 ·exact hG
theorem KQ {G:Nat->Option (List D)} {f:FuncId} {fn:Func} {body:Code} {rs:List ResultVar} {args:List D} {lent:List Ob} {R':D->List Ob->Prop} (fr:List Nat) (nt:Nat)
 (hf:P.funcs[f]? = some fn) (hb:fn.body=some body) (hn:(fn.name== "runtime.NumGoroutine")=false) (hrs:fn.results=⟨rs⟩) (hnt:fn.ntmps=nt) (hargs:args.length<=nt)
 (h:∀ (C:Cx) x,C.G=G->C.lb.length=lent.length->WfL P args->∀ a w,Rel P (C.sub 0 x) (st0 args lent nt) a w->sem P (C.sub 0 x) (VO P (C.sub 0 x) (Xck P rs fr lent.length R')) [.code body] none a w):YF P G f args lent R':=by
 refine ⟨⟨fn,hf,by simp[hb],hn⟩,λ M w vs lb hM hG hlen hnd hob hvs=>?_⟩
 refine calls_of_wp hf hb ?_
 have I0:=Xhc (G:=G) hM hG hlen hnd hob
 have hvl:=hvs.length
 have hrel:Rel P ⟨G,M,w,lb.map (·.1),Jm lb,M,0⟩ (st0 args lent nt) { tmps:=(⟨vs⟩:Array Value)++Array.replicate (fn.ntmps-(⟨vs⟩:Array Value).size) undef,defers:=[] } w:=by
  refine ⟨rfl,by simp[st0,hnt];omega,M,Jm lb,BLe.refl _,λ i=>?_,I0⟩
  simp only[st0]
  rcases Uk i args.length with hi | hi
  ·obtain ⟨x,hx,hr⟩:=hvs.get i args[i] (Wc hi)
   rw[Wc hi]
   have:((⟨vs⟩:Array Value)++Array.replicate (fn.ntmps-(⟨vs⟩:Array Value).size) undef).getD i undef=x:=by
    have hlt:i<vs.length:=by omega
    rw[Wc hlt] at hx
    simp only[Wb] at hx
    simp[Of,hlt,hx]
   rw[this]
   exact hr
  ·rw[WK hi]
   have:((⟨vs⟩:Array Value)++Array.replicate (fn.ntmps-(⟨vs⟩:Array Value).size) undef).getD i undef=undef:=by
    have hlt:¬ i<vs.length:=by omega
    simp only[UE,Of]
    simp only[U0,hlt,if_false]
    rw[UP]
    split<;>rfl
   rw[this]
   simp[Rep,J4]
 have hrun:=h ⟨G,M,w,lb.map (·.1),Jm lb,M,0⟩ (M,Jm lb) rfl (by rw[← hlen];exact Wt ..) hvs.wf _ _ hrel
 refine wp_mono hrun ?_
 have fin:∀ a w',VO P ⟨G,M,w,lb.map (·.1),Jm lb,M,0⟩ (Xck P rs fr lent.length R') a w'->a.defers=[]/\∃ v,(results fn a.tmps).run P w'=.ok v w'/\XnK P M w lb R' (.returned v) w':=by
  rintro a w' ⟨st,⟨h1,h2,M',β,h0,h3,I⟩,hret⟩
  refine ⟨h1,?_⟩
  unfold Xck at hret
  split at hret
  ·rename_i c ds hres
   split at hret
   ·rename_i c1 r fz1 fh c2 obs fz2 hsh hle
    obtain ⟨hc,hc1,hc2,hver,hfh,hdis,hR⟩:=hret
    obtain ⟨v,hv,hrv⟩:=Xbn I h3 hrs hres hc
    obtain ⟨M2,I2,hM2,hF⟩:=I.freeze (fz1++fz2)
    obtain ⟨bl,hfr,hbl⟩:=shut_rep I hM2 I2 hF hdis hsh hc1 (λ i hi=>Uf _ hi) hrv
    have hL:Xdj st.s β (Vn 0 lent.length) lb:=by
     intro j id hj
     have hjl:j<lent.length:=by
      rcases Uk j lent.length with h' | h'
      ·exact h'
      ·rw[WK (by rw[Kc];exact h')] at hj;cases hj
     rw[J5 _ _ _ hjl] at hj
     simp only[Wb,UM] at hj
     subst hj
     have hv0:=Xd4 hver (J5 lent.length 0 j hjl)
     rw[UM] at hv0
     simp only[WW] at hv0
     obtain ⟨⟨v',ob⟩,hs,rfl⟩:=hv0
     have hβ:β (LB+j) 0=some (some (lb[j]'(by omega))):=by
      refine h0 _ _ _ ?_
      show Jm lb (LB+j) 0=_
      unfold Jm
      rw[Wn ⟨rfl,Nat.le_add_right _ _⟩]
      have:LB+j-LB=j:=I5 ..
      rw[this]
      rw[Wc (by omega)]
      rfl
     have hbox:∃ E z cs fz,ob=.arr true E z [cs] fz:=by
      have hmem:=Xcs hle _ (WU (J5 lent.length 0 j hjl))
      rw[UM] at hmem
      obtain ⟨v,E,z,cs,fz,hs'⟩:=hmem
      rw[hs] at hs'
      simp only[Wb,Wi] at hs'
      exact ⟨E,z,cs,fz,hs'.2⟩
     obtain ⟨E,z,cs,fz,rfl⟩:=hbox
     exact ⟨0,E,z,cs,fz,lb[j]'(by omega),hs,Wc (by omega),hβ⟩
    obtain ⟨g1,g2⟩:=Xaj I hM2 I2 hF hle hc2 (λ x hx=>Uj _ hx) hL (by rw[Kc,hlen])
    obtain ⟨r',hrr,hR⟩:=hR
    obtain ⟨bl',hfr',hbb⟩:=fitsR_rep hrr hfr
    refine ⟨v,hv,v,r',obs,M2,bl',rfl,hR,I.keep,I2.mem,λ b o hb=>?_,?_,g2,hfr',hbb▸hbl.nodup I hfh⟩
    ·exact I2.old b o hb
    ·rw[g1,Kc,hlen]
   ·exact hret.elim
  ·exact hret.elim
 intro e a w' hq
 cases e with
 | normal=>exact fin a w' hq
 | ret=>exact fin a w' hq
 | exit id=>exact hq.elim
 | _=>exact hq.elim
theorem X6 {G:Nat->Option (List D)} {f:FuncId} {fn:Func} {body:Code} {rs:List ResultVar} {args:List D} {lent:List Ob} {R':D->List Ob->Prop} (m:Nat) (fr:List Nat) (nt:Nat)
 (hf:P.funcs[f]? = some fn) (hb:fn.body=some body) (hn:(fn.name== "runtime.NumGoroutine")=false) (hrs:fn.results=⟨rs⟩) (hnt:fn.ntmps=nt) (hargs:args.length<=nt)
 (h:∀ (C:Cx) x,C.G=G->WfL P args->run P (C.sub 0 x) (Xck P rs fr lent.length R') m [.code body] (st0 args lent nt)):YF P G f args lent R' :=
 KQ fr nt hf hb hn hrs hnt hargs λ C x hG _ hwf a w hr=>YM m _ hr (h C x hG hwf)
def stI (args:List D) (s:Heap) (n k:Nat):St:=⟨λ i=>(args[i]?).getD (.v undef),s,n,k⟩
def XkE (P:Program) (rs:List ResultVar) (K:D->Heap->Nat->Prop) (st:St):Prop:=match Xd5 st P rs with
 | some (c,ds)=>c/\K (Xfe ds) st.s st.k
 | none=>False
def kOf (dst:Option Nat) (st:St) (K:St->Prop):D->Heap->Nat->Prop:=λ d s k=>K (nxS st (XX dst st.n) d s st.n k)
theorem CallX.inl {C:Cx} {f:FuncId} {args:List D} {dst:Option Nat} {st:St} {K:St->Prop} (off:Nat) {fn:Func} {rs:List ResultVar} {nt:Nat} (m:Nat)
 (hk:(P.funcs[f]?,fn.body,fn.name== "runtime.NumGoroutine",fn.results,fn.ntmps,args.length.ble nt)=(some fn,some (fn.body.get!),false,⟨rs⟩,nt,true))
 (h:∀ x,run P (C.sub off x) (XkE P rs (kOf dst st K)) m [.code (fn.body.get!)] (stI args st.s nt st.k)) (t:Prf args):CallX P C f args dst st K t:=by
 injection hk with hf hk;injection hk with hb hk;injection hk with hn hk;injection hk with hrs hk;injection hk with hnt hargs
 have hargs:=Nat.le_of_ble_eq_true hargs
 refine ⟨⟨fn,hf,by rw[hb];rfl,hn⟩,λ M β w vs h0 I hvs=>?_⟩
 refine calls_of_wp hf hb ?_
 have hvl:=hvs.length
 have I0:Iw P (C.sub off (M,β)) st.s (·<st.k) M β w:=⟨I.mem,I.used,I.obs,I.own,I.inj,I.keep,I.old,MLe.refl _,λ g cs hg=>RepC.mono I.le (I.glob g cs hg)⟩
 have hrel:Rel P (C.sub off (M,β)) (stI args st.s nt st.k) { tmps:=(⟨vs⟩:Array Value)++Array.replicate (fn.ntmps-(⟨vs⟩:Array Value).size) undef,defers:=[] } w:=by
  refine ⟨rfl,by simp[stI,hnt];omega,M,β,BLe.refl _,λ i=>?_,I0⟩
  simp only[stI]
  rcases Uk i args.length with hi | hi
  ·obtain ⟨x,hx,hr⟩:=hvs.get i args[i] (Wc hi)
   rw[Wc hi]
   have:((⟨vs⟩:Array Value)++Array.replicate (fn.ntmps-(⟨vs⟩:Array Value).size) undef).getD i undef=x:=by
    have hlt:i<vs.length:=by omega
    rw[Wc hlt] at hx
    simp only[Wb] at hx
    simp[Of,hlt,hx]
   rw[this]
   exact hr
  ·rw[WK hi]
   have:((⟨vs⟩:Array Value)++Array.replicate (fn.ntmps-(⟨vs⟩:Array Value).size) undef).getD i undef=undef:=by
    have hlt:¬ i<vs.length:=by omega
    simp only[UE,Of]
    simp only[U0,hlt,if_false]
    rw[UP]
    split<;>rfl
   rw[this]
   simp[Rep,J4]
 have hrun:=YM m _ hrel (h (M,β))
 refine wp_mono hrun ?_
 have fin:∀ a w',VO P (C.sub off (M,β)) (XkE P rs (kOf dst st K)) a w'->a.defers=[]/\∃ v,(results fn a.tmps).run P w'=.ok v w' /\
  (λ e w'=>∃ v d s' k' M' β',e=Ending.returned v/\Iw P C s' (·<k') M' β' w'/\Rep P M' β' d v/\MLe M M'/\BLe β β'/\K (nxS st (XX dst st.n) d s' st.n k')) (.returned v) w':=by
  rintro a w' ⟨st',⟨h1,h2,M',β',h0',h3,I'⟩,hret⟩
  refine ⟨h1,?_⟩
  unfold XkE at hret
  split at hret
  ·rename_i c ds hres
   obtain ⟨v,hv,hrv⟩:=Xbn I' h3 hrs hres hret.1
   exact ⟨v,hv,v,_,_,_,M',β',rfl,⟨I'.mem,I'.used,I'.obs,I'.own,I'.inj,I'.keep,I'.old,I.le.trans I'.le,I.glob⟩,hrv,I'.le,h0',hret.2⟩
  ·exact hret.elim
 intro e a w' hq
 cases e with
 | normal=>exact fin a w' hq
 | ret=>exact fin a w' hq
 | exit id=>exact hq.elim
 | _=>exact hq.elim
theorem Yy {G:Nat->Option (List D)} {f:FuncId} {E z:Nat} {args:List D} {lent:List Ob} {R':D->List Ob->Prop} (h:∀ a cap,YF P G f (.v (.slice a 0 cap)::args) lent R'):YF P G f (.isl E z []::args) lent R':=by
 refine ⟨(h none 0).1,λ M w vs lb h1 h2 h3 h4 h5 h6=>?_⟩
 simp only[RepL,Rep] at h6
 obtain ⟨x,xs,rfl,⟨_,_,_,a,cap,rfl,_⟩,h7⟩:=h6
 refine (h a cap).2 M w _ lb h1 h2 h3 h4 h5 ?_
 simp only[RepL,Rep]
 exact ⟨_,_,rfl,⟨rfl,trivial⟩,h7⟩
end
end Go.Sx
namespace Go.Sx
variable {P:Program} {C:Cx} {R:St->Prop}
section
variable {n:Nat} {k:List It} {st:St}
theorem XkF:run P C R (n+1) [] st=R st:=propext Iff.rfl
theorem Xij {Q:St->Prop}:run P C R (n+1) (.stop Q::k) st=Q st:=propext Iff.rfl
theorem XkG {i:Nat}:run P C R (n+1) (.blk i::k) st=run P C R n k st:=propext Iff.rfl
theorem Xik {full:Array Oper}:run P C R (n+1) (.ops full []::k) st=run P C R n k st:=propext Iff.rfl
theorem XmF {full:Array Oper} {o:Oper} {rest:List Oper}:run P C R (n+1) (.ops full (o::rest)::k) st=Xam full o st
 (λ st=>Xbl P C o st (run P C R n (.ops full rest::k)))
 (λ st=>Xd1 (XX o.dst st.n) st.n (st.k+1) (λ dst m j=>run P C R n (.ops full rest::k) (nx st dst (.v undef) [] m j)) trivial):=propext Iff.rfl
theorem Xil:run P C R (n+1) (.code .skip::k) st=run P C R n k st:=propext Iff.rfl
theorem XkH {x y:Code}:run P C R (n+1) (.code (.seq x y)::k) st=run P C R n (.code x::.code y::k) st:=propext Iff.rfl
theorem Xim {c:Operand} {x y:Code}:run P C R (n+1) (.code (.cond c x y)::k) st=XaH (ev st.t C.G c) c st (run P C R n (.code x::k)) (run P C R n (.code y::k)) trivial:=propext Iff.rfl
theorem Xhd {i:Nat} {c:Code}:run P C R (n+1) (.code (.block i c)::k) st=run P C R n (.code c::.blk i::k) st:=propext Iff.rfl
theorem Xin {i:Nat}:run P C R (n+1) (.code (.exit i)::k) st=Xf5 (JI i k) (λ k'=>run P C R n k' st) trivial:=propext Iff.rfl
theorem XkI:run P C R (n+1) (.code .ret::k) st=R st:=propext Iff.rfl
theorem Xio {c:Code}:run P C R (n+1) (.code (.loop c)::k) st=LoopG P C R c k st trivial:=propext Iff.rfl
theorem Xff {i:Nat} {ops:List Oper}:run P C R (n+1) (.code (.region i ⟨ops⟩ false)::k) st=run P C R n (.ops ⟨ops⟩ ops::k) st:=propext Iff.rfl
theorem Xhe {i:Nat} {ops:Array Oper}:run P C R (n+1) (.code (.region i ops true)::k) st=DrawnG P C R i ops k st trivial:=propext Iff.rfl
variable {full:Array Oper} {dst:Option Nat} {op:Op} {ty:Nat} {pos:String} {af:Array Edge} {x y:St->Prop} {K:St->Prop}
theorem Xd6:Xam full ⟨dst,op,ty,pos,af,none⟩ st x y=x st:=propext Iff.rfl
theorem Xd7 {g:Nat} {want:Bool}:Xam full ⟨dst,op,ty,pos,af,some (g,want)⟩ st x y=Xdl ((full[g]?).bind (·.dst)) want st x y trivial:=propext Iff.rfl
theorem Xd8 {r:Nat} {want:Bool} {t':Prf (some r)}:Xdl (some r) want st x y t'=ZJ (st.t r) r want st x y trivial:=propext Iff.rfl
theorem Xhf {r:Nat} {t':Prf (D.v (.bool true))}:ZJ (.v (.bool true)) r true st x y t'=x st:=by simp[ZJ,JG]
theorem Xhg {r:Nat} {t':Prf (D.v (.bool true))}:ZJ (.v (.bool true)) r false st x y t'=y st:=by simp[ZJ,JG]
theorem Xhh {r:Nat} {t':Prf (D.v (.bool false))}:ZJ (.v (.bool false)) r true st x y t'=y st:=by simp[ZJ,JG]
theorem Xhi {r:Nat} {t':Prf (D.v (.bool false))}:ZJ (.v (.bool false)) r false st x y t'=x st:=by simp[ZJ,JG]
theorem Xip {r:Nat} {want:Bool} {vs:Array Value} {t':Prf (D.v (.tuple vs))}:ZJ (.v (.tuple vs)) r want st x y t'=y st:=rfl
theorem XkJ {c:Operand} {t':Prf (D.v (.bool true))}:XaH (.v (.bool true)) c st x y t'=x st:=by simp[XaH,JG]
theorem XkK {c:Operand} {t':Prf (D.v (.bool false))}:XaH (.v (.bool false)) c st x y t'=y st:=by simp[XaH,JG]
theorem Xfg {f:List It->Prop} {t':Prf (some k)}:Xf5 (some k) f t'=f k:=propext Iff.rfl
theorem Xiq {m j:Nat} {f:Option Nat->Nat->Nat->Prop} {t':Prf dst}:Xd1 dst m j f t'=f dst m j:=propext Iff.rfl
theorem Xhj {o:Oper}:Xbl P C o st K=Xd0 P C (JH o.op) o st K trivial:=propext Iff.rfl
theorem Xfh {o:Oper} {t':Prf (none:Option Call)}:Xd0 P C none o st K t'=Xbk (opF P (XdZ C.off o.dst) st.k (ev st.t C.G) st.s o.op) (XX o.dst st.n) st.n (st.k+1) (λ dst d u n k=>K (nx st dst d u n k)) trivial:=propext Iff.rfl
theorem Xfi {o:Oper} {c:Call} {t':Prf (some c)}:Xd0 P C (some c) o st K t'=Xdk P C (callee (ev st.t C.G) c) o.dst st K trivial:=propext Iff.rfl
theorem Xd9 {f:Nat} {args:List D} {dst:Option Nat} {t':Prf (some (f,args))}:Xdk P C (some (f,args)) dst st K t'=CallX P C f args dst st K trivial:=propext Iff.rfl
theorem Xfj {c:Prop} {d:D} {u:Up} {m j:Nat} {f:Option Nat->D->Up->Nat->Nat->Prop} {t':Prf (some (c,d,u))}:Xbk (some (c,d,u)) dst m j f t'=(c/\f dst d u m j):=propext Iff.rfl
theorem Xea {G:Nat->Option (List D)} {f:Nat} {cc:Prop} {as:List D} {ids:List Nat} {obs:List Ob} {fz:List Nat} {K:List Nat->List Nat->D->List Ob->Prop} {t':Prf (some (cc,as,ids,obs,fz))}:Xfd P G f (some (cc,as,ids,obs,fz)) K t'=(cc/\CallG P G f as obs (K ids fz) trivial):=propext Iff.rfl
theorem XkL {d:D} {u:Up} {m j:Nat} {f:Option Nat->D->Up->Nat->Nat->Prop} {t':Prf (d,u)}:XmE (d,u) dst m j f t'=f dst d u m j:=propext Iff.rfl
variable {d:D} {u:Up} {m j i x:Nat}
theorem Xpj:(nx st dst d u m j).n=m:=rfl
theorem Xpk:(nx st dst d u m j).k=j:=rfl
theorem Xpl {i x:Nat}:(nx st (some x) d u m j).t i=if i=x then d else st.t i:=rfl
theorem XnL {i:Nat}:(nx st none d u m j).t i=st.t i:=rfl
theorem XnM:(nx st dst d [] m j).s=st.s:=rfl
theorem Xpm {e:Nat×Nat×Ob}:(nx st dst d (e::u) m j).s=app st.s (e::u):=rfl
theorem XnN {s:Heap}:(nxS st dst d s m j).n=m:=rfl
theorem XnO {s:Heap}:(nxS st dst d s m j).k=j:=rfl
theorem XnP {s:Heap} {i x:Nat}:(nxS st (some x) d s m j).t i=if i=x then d else st.t i:=rfl
theorem XmG {s:Heap} {i:Nat}:(nxS st none d s m j).t i=st.t i:=rfl
theorem XnQ {s:Heap}:(nxS st dst d s m j).s=s:=rfl
theorem XnR {args:List D} {s:Heap} {n k i:Nat}:(stI args s n k).t i=(args[i]?).getD (.v undef):=rfl
theorem XnS {args:List D} {s:Heap} {n k:Nat}:(stI args s n k).s=s:=rfl
theorem XnT {args:List D} {s:Heap} {n k:Nat}:(stI args s n k).n=n:=rfl
theorem XnU {args:List D} {s:Heap} {n k:Nat}:(stI args s n k).k=k:=rfl
theorem XmH {s:Heap} {k:Nat}:kOf dst st K d s k=K (nxS st (XX dst st.n) d s st.n k):=rfl
theorem XkM {C:Cx} {n:Nat} {x:Mem×Loc}:(C.sub n x).off=n:=rfl
theorem XnV {C:Cx} {n:Nat} {x:Mem×Loc}:(C.sub n x).G=C.G:=rfl
theorem XnW {args:List D} {lent:List Ob} {n i:Nat}:(st0 args lent n).t i=(args[i]?).getD (.v undef):=rfl
theorem XnX {args:List D} {lent:List Ob} {n:Nat}:(st0 args lent n).s=Kv lent:=rfl
theorem XnY {args:List D} {lent:List Ob} {n:Nat}:(st0 args lent n).n=n:=rfl
theorem XnZ {args:List D} {lent:List Ob} {n:Nat}:(st0 args lent n).k=1:=rfl
theorem XkN {s:Heap}:app s []=s:=rfl
theorem Xir {s:Heap} {i v:Nat} {o:Ob}:app s ((i,v,o)::u)=app (upd s i (some (v,o))) u:=rfl
theorem XmI {s:Heap} {i j:Nat} {x:Option (Nat×Ob)}:upd s i x j=if j=i then x else s j:=rfl
theorem Xhk {i:Nat}:Kv [] i=none:=by simp[Kv]
theorem Ky {ls:List Ob} {j:Nat}:Kv ls (LB+j)=(ls[j]?).map (λ o=>(0,o)):=by
 unfold Kv
 rw[Wn (Nat.le_add_right _ _),I5]
theorem XmJ:IntKind.min .i8 = -128:=by decide
theorem XmK:IntKind.max .i8=127:=by decide
theorem XkO:IntKind.min .i16 = -32768:=by decide
theorem XkP:IntKind.max .i16=32767:=by decide
theorem XkQ:IntKind.min .i32 = -2147483648:=by decide
theorem XkR:IntKind.max .i32=2147483647:=by decide
theorem XkS:IntKind.min .i64 = -9223372036854775808:=by decide
theorem XkT:IntKind.max .i64=9223372036854775807:=by decide
theorem XmL:IntKind.min .u8=0:=by decide
theorem XmM:IntKind.max .u8=255:=by decide
theorem XkU:IntKind.min .u16=0:=by decide
theorem XkV:IntKind.max .u16=65535:=by decide
theorem Xf7:IntKind.min .u32=0:=by decide
theorem Xf8:IntKind.max .u32=4294967295:=by decide
theorem Xf9:IntKind.min .u64=0:=by decide
theorem Xga:IntKind.max .u64=18446744073709551615:=by decide
theorem Y8 {r:Nat} {d:D} (h:st.t r=d):setT st r d=st:=by
 unfold setT
 have:upd st.t r d=st.t:=by
  funext j
  unfold upd
  split
  ·rename_i e;subst e;exact h.symm
  ·rfl
 rw[this]
theorem Xs {b:Bool} {r:Nat} {x y:St->Prop} (hr:st.t r=.v (.bool b)) (h1:b=true->x (setT st r (.v (.bool true)))) (h2:b=false->y (setT st r (.v (.bool false)))) (t':Prf (D.v (.bool b))):XaH (.v (.bool b)) (.tmp r) st x y t' :=
 ⟨λ e=>by subst e;have:=h1 rfl;rwa[Y8 hr] at this,λ e=>by subst e;have:=h2 rfl;rwa[Y8 hr] at this⟩
theorem Xf {b:Bool} {r:Nat} {x y:St->Prop} (hr:st.t r=.v (.bool b)) (h1:b=true->x (setT st r (.v (.bool true)))) (h2:b=false->y (setT st r (.v (.bool false)))) (t':Prf (D.v (.bool b))):ZJ (.v (.bool b)) r true st x y t' :=
 ⟨λ e=>by subst e;have:=h1 rfl;rwa[Y8 hr] at this,λ e=>by subst e;have:=h2 rfl;rwa[Y8 hr] at this⟩
theorem Xg {b:Bool} {r:Nat} {x y:St->Prop} (hr:st.t r=.v (.bool b)) (h1:b=true->y (setT st r (.v (.bool true)))) (h2:b=false->x (setT st r (.v (.bool false)))) (t':Prf (D.v (.bool b))):ZJ (.v (.bool b)) r false st x y t' :=
 ⟨λ e=>by subst e;have:=h1 rfl;rwa[Y8 hr] at this,λ e=>by subst e;have:=h2 rfl;rwa[Y8 hr] at this⟩
theorem XmN {r i:Nat} {d:D}:(setT st r d).t i=if i=r then d else st.t i:=rfl
theorem XmO {r:Nat} {d:D}:(setT st r d).s=st.s:=rfl
theorem XmP {r:Nat} {d:D}:(setT st r d).n=st.n:=rfl
theorem XmQ {r:Nat} {d:D}:(setT st r d).k=st.k:=rfl
theorem CallG.of {G:Nat->Option (List D)} {f:FuncId} {args eargs:List D} {obs:List Ob} {R:D->List Ob->Prop} {K:D->List Ob->Prop} (h:YF P G f eargs obs R) (hf:Zv args eargs) (hK:∀ r ls,R r ls->K r ls) (t':Prf args):CallG P G f args obs K t' :=
 ⟨eargs,R,hf,h,hK⟩
end
end Go.Sx
namespace Go.Sx
variable {P:Program}
structure En where
 i:Nat
 o:Oper
 anc:List Nat
 ws:List Nat
 ms:List Nat
 mi:List Nat
def ZM (ms:List Nat) (t:Nat->D):Nat->D:=λ x=>if ms.contains x then .any else t x
def Zd (mi:List Nat) (s:Heap):Heap:=λ x=>if mi.contains x then none else s x
inductive Kd where
 | det (c:Prop) (d:D) (u:Up)
 | call (c:Prop) (f:FuncId) (as:List D) (ids:List Nat) (obs:List Ob) (fz:List Nat)
 | ro (f:FuncId) (args:List D)
def kd1 (x:Option (Prop×D×Up)):Option Kd:=match x with
 | some (c,d,u)=>some (.det c d u)
 | none=>none
def kd2 (f:FuncId) (args:List D) (x:Option (Prop×List D×List Nat×List Ob×List Nat)):Option Kd:=match x with
 | some (cc,as,ids,obs,fz)=>some (.call cc f as ids obs fz)
 | none=>some (.ro f args)
def kd3 (s:Heap) (x:Option (FuncId×List D)):Option Kd:=match x with
 | some (f,args)=>kd2 f args (Y2 s args)
 | none=>none
def RoA (P:Program) (C:Cx) (s:Heap) (args eargs:List D):Prop:=∀ s' U M β w vs,HLe s s'->Iw P C s' U M β w->RepL P M β args vs->∃ M1,MLe M M1/\MemOK M1 w/\RepL P M1 Yg eargs vs
def kdO (P:Program) (C:Cx) (ver:Nat) (o:Oper) (t:Nat->D) (s:Heap):Option Kd:=match JH o.op with
 | some c=>kd3 s (callee (ev t C.G) c)
 | none=>kd1 (opF P (XdZ C.off o.dst) ver (ev t C.G) s o.op)
def kdG (d:D) (_:Nat) (want:Bool) (x:Option Kd):Option Kd:=match d with
 | .v (.bool b)=>bif b==want then x else some (.det True (.v undef) [])
 | .v (.tuple _)=>some (.det True (.v undef) [])
 | _=>none
def kdE (P:Program) (C:Cx) (full:Array Oper) (ver:Nat) (o:Oper) (t:Nat->D) (s:Heap):Option Kd:=match o.guard with
 | none=>kdO P C ver o t s
 | some (g,want)=>match (full[g]?).bind (·.dst) with
  | some r=>kdG (t r) r want (kdO P C ver o t s)
  | none=>none
def Z7 (u:Up) (ws:List Nat):Prop:=∀ x∈u,x.1∈ws
def doK (P:Program) (C:Cx) (e:En) (ver:Nat) (s:Heap) (x:Option Kd) (F:D->Up->Prop):Prop:=match x with
 | none=>False
 | some (.det c d u)=>c/\Z7 u e.ws/\F d u
 | some (.call c f as ids obs fz)=>c/\∃ eargs R,Zv as eargs/\YF P C.G f eargs obs R/\(∃ r ls,R r ls)/\∀ r ls,R r ls ->
  Z7 (aft s ids fz r ls ver (64*(C.off+e.o.dst.getD 0))).2 e.ws/\F (aft s ids fz r ls ver (64*(C.off+e.o.dst.getD 0))).1 (aft s ids fz r ls ver (64*(C.off+e.o.dst.getD 0))).2
 | some (.ro f args)=>∃ eargs R,RoA P C s args eargs/\YF P C.G f eargs [] R/\(∃ r ls,R r ls)/\∀ r ls,R r ls->scal r=true/\F r []
def K0 (P:Program) (C:Cx) (full:Array Oper) (k0:Nat) (e:En) (st:St) (F:St->Prop):Prop :=
 doK P C e (k0+e.i) (Zd e.mi st.s) (kdE P C full (k0+e.i) e.o (ZM e.ms st.t) (Zd e.mi st.s)) λ d u=>F (nx st (XX e.o.dst st.n) d u st.n st.k)
def dr (P:Program) (C:Cx) (full:Array Oper) (k0:Nat):List En->St->(St->Prop)->Prop
 | [],st,K=>K st
 | e::es,st,K=>K0 P C full k0 e st λ st=>dr P C full k0 es st K
def VQ (o:Oper):Bool:=(JH o.op).isSome
def inB (x:Option Nat) (l:List Nat):Bool:=match x with
 | some x=>l.contains x
 | none=>true
def Xbo (e j:En):Bool :=
 (e.o.dst != j.o.dst||e.o.dst.isNone)&&inB e.o.dst j.ms&&inB j.o.dst e.ms&&e.ws.all (λ x=>j.mi.contains x)&&j.ws.all (λ x=>e.mi.contains x)&&e.ws.all (λ x=>!j.ws.contains x)&&!(VQ e.o&&VQ j.o)
section
variable {C:Cx} {full:Array Oper} {k0:Nat} {st:St}
theorem Xis {e:En} {ver:Nat} {s:Heap} {x:Option Kd} {F F':D->Up->Prop} (h:∀ d u,F d u->F' d u) (hd:doK P C e ver s x F):doK P C e ver s x F':=by
 unfold doK at hd ⊢
 split at hd
 ·exact hd
 ·exact ⟨hd.1,hd.2.1,h _ _ hd.2.2⟩
 ·obtain ⟨hc,eargs,R,h1,h2,h3,h4⟩:=hd
  exact ⟨hc,eargs,R,h1,h2,h3,λ r ls hR=>⟨(h4 r ls hR).1,h _ _ (h4 r ls hR).2⟩⟩
 ·obtain ⟨eargs,R,h1,h2,h3,h4⟩:=hd
  exact ⟨eargs,R,h1,h2,h3,λ r ls hR=>⟨(h4 r ls hR).1,h _ _ (h4 r ls hR).2⟩⟩
theorem Xfk {e:En} {F F':St->Prop} (h:∀ st,F st->F' st) (hd:K0 P C full k0 e st F):K0 P C full k0 e st F' :=
 Xis (λ _ _ hF=>h _ hF) hd
theorem Xit {ms:List Nat} {dst:Option Nat} {n m k:Nat} {d:D} {u:Up} (h:inB dst ms=true):ZM ms (nx st (XX dst n) d u m k).t=ZM ms st.t:=by
 funext x
 unfold ZM
 split
 ·rfl
 ·rename_i hx
  cases dst with
  | none=>rfl
  | some y =>
   simp only[XX]
   split
   ·simp only[nx,upd]
    split
    ·rename_i e;subst e;exact absurd h hx
    ·rfl
   ·rfl
theorem K1 {s:Heap} {i:Nat}:∀ {u:Up},(∀ x∈u,x.1≠i)->app s u i=s i:=by
 intro u
 induction u generalizing s with
 | nil=>intro _;rfl
 | cons x u ih =>
  intro h
  obtain ⟨j,v,o⟩:=x
  show app (upd s j _) u i=s i
  rw[ih λ y hy=>h y (Ud _ hy),X5 _ _ _ _ (Ne.symm (h (j,v,o) (by simp)))]
theorem Xiu {mi ws:List Nat} {dst:Option Nat} {m k:Nat} {d:D} {u:Up} (hu:Z7 u ws) (h:∀ x∈ws,mi.contains x=true):Zd mi (nx st dst d u m k).s=Zd mi st.s:=by
 funext x
 unfold Zd
 split
 ·rfl
 ·rename_i hx
  exact K1 λ y hy e=>hx (e▸h _ (hu y hy))
theorem Xct {s s':Heap} {i:Nat}:∀ {u:Up},s i=s' i->app s u i=app s' u i:=by
 intro u
 induction u generalizing s s' with
 | nil=>intro h;exact h
 | cons x u ih =>
  intro h
  obtain ⟨j,v,o⟩:=x
  show app (upd s j _) u i=app (upd s' j _) u i
  refine ih ?_
  unfold upd
  split
  ·rfl
  ·exact h
theorem Xiv {s:Heap} {u u':Up} (h:∀ x∈u,∀ y∈u',x.1≠y.1):app (app s u) u'=app (app s u') u:=by
 funext i
 by_cases hi:∃ x∈u,x.1=i
 ·obtain ⟨x,hx,rfl⟩:=hi
  rw[K1 λ y hy e=>h x hx y hy e.symm]
  exact Xct (K1 λ y hy e=>h x hx y hy e.symm).symm
 ·have hn:∀ x∈u,x.1≠i:=λ x hx e=>hi ⟨x,hx,e⟩
  rw[K1 (s:=app s u') hn]
  exact Xct (K1 hn)
theorem VR {e j:Option Nat} {n k:Nat} {d d':D} {u u':Up} (hne:e≠j\/e=none) (h:∀ x∈u,∀ y∈u',x.1≠y.1) :
 nx (nx st (XX e n) d u n k) (XX j n) d' u' n k=nx (nx st (XX j n) d' u' n k) (XX e n) d u n k:=by
 have ht:(nx (nx st (XX e n) d u n k) (XX j n) d' u' n k).t=(nx (nx st (XX j n) d' u' n k) (XX e n) d u n k).t:=by
  funext x
  cases e with
  | none=>rfl
  | some a =>
   cases j with
   | none=>rfl
   | some b =>
    simp only[XX]
    have hab:a≠b:=by
     rcases hne with h | h
     ·exact λ hh=>h (by rw[hh])
     ·cases h
    split<;>split<;>simp only[nx,upd]
    by_cases h1:x=a<;>by_cases h2:x=b<;>simp[h1,h2]
    ·omega
    ·intro hh;exact absurd hh hab
    ·intro hh;exact absurd hh.symm hab
 have hs:(nx (nx st (XX e n) d u n k) (XX j n) d' u' n k).s=(nx (nx st (XX j n) d' u' n k) (XX e n) d u n k).s:=Xiv h
 have:∀ (a b:St),a.t=b.t->a.s=b.s->a.n=b.n->a.k=b.k->a=b:=by
  rintro ⟨_,_,_,_⟩ ⟨_,_,_,_⟩ h1 h2 h3 h4
  simp only at h1 h2 h3 h4
  subst h1;subst h2;subst h3;subst h4;rfl
 exact this _ _ ht hs rfl rfl
def Kd.isDet:Kd->Bool
 | .det _ _ _=>true
 | _=>false
theorem K2 {ver:Nat} {o:Oper} {t:Nat->D} {s:Heap} {x:Kd} (h:kdE P C full ver o t s=some x) (hx:x.isDet=false):VQ o=true:=by
 have key:kdO P C ver o t s=some x->VQ o=true:=by
  intro h
  unfold kdO at h
  unfold VQ
  split at h
  ·rename_i hc;rw[hc];rfl
  ·unfold kd1 at h
   split at h
   ·simp only[Wb] at h;subst h;cases hx
   ·cases h
 unfold kdE at h
 split at h
 ·exact key h
 ·split at h
  ·unfold kdG at h
   split at h
   ·rename_i b _
    cases hb:(b==_) with
    | true=>rw[hb] at h;exact key h
    | false=>rw[hb] at h;simp only[Wa,Wb] at h;subst h;cases hx
   ·simp only[Wb] at h;subst h;cases hx
   ·cases h
  ·cases h
theorem Xfl {e j:En} {F:St->Prop} (hap:Xbo e j=true) (h:K0 P C full k0 e st λ st=>K0 P C full k0 j st F):K0 P C full k0 j st λ st=>K0 P C full k0 e st F:=by
 unfold Xbo at hap
 simp only[WG,Ig,bne_iff_ne,ne_eq,Option.isNone_iff_eq_none,Ur,Uv] at hap
 obtain ⟨⟨⟨⟨⟨⟨hdst,hem⟩,hjm⟩,hew⟩,hjw⟩,hdis⟩,hcc⟩:=hap
 have hdis':∀ {u u':Up},Z7 u e.ws->Z7 u' j.ws->∀ x∈u,∀ y∈u',x.1≠y.1:=by
  intro u u' hu hu' x hx y hy e'
  have h1:=hdis x.1 (hu x hx)
  have h2:=hu' y hy
  rw[← e'] at h2
  have:j.ws.contains x.1=true:=by simpa using h2
  rw[h1] at this;cases this
 have vj:∀ {d u},Z7 u e.ws->ZM j.ms (nx st (XX e.o.dst st.n) d u st.n st.k).t=ZM j.ms st.t/\Zd j.mi (nx st (XX e.o.dst st.n) d u st.n st.k).s=Zd j.mi st.s :=
  λ hu=>⟨Xit hem,Xiu hu hew⟩
 have ve:∀ {d u},Z7 u j.ws->ZM e.ms (nx st (XX j.o.dst st.n) d u st.n st.k).t=ZM e.ms st.t/\Zd e.mi (nx st (XX j.o.dst st.n) d u st.n st.k).s=Zd e.mi st.s :=
  λ hu=>⟨Xit hjm,Xiu hu hjw⟩
 unfold K0 at h ⊢
 generalize hke:kdE P C full (k0+e.i) e.o (ZM e.ms st.t) (Zd e.mi st.s)=ke at h
 generalize hkj:kdE P C full (k0+j.i) j.o (ZM j.ms st.t) (Zd j.mi st.s)=kj
 cases ke with
 | none=>exact h.elim
 | some ke =>
  cases ke with
  | det c d u =>
   obtain ⟨hc,hu,h⟩:=h
   obtain ⟨v1,v2⟩:=vj (d:=d) hu
   dsimp only at h
   rw[v1,v2,hkj] at h
   cases kj with
   | none=>exact h.elim
   | some kj =>
    cases kj with
    | det c' d' u' =>
     obtain ⟨hc',hu',h⟩:=h
     refine ⟨hc',hu',?_⟩
     obtain ⟨v3,v4⟩:=ve (d:=d') hu'
     try dsimp only
     rw[v3,v4,hke]
     refine ⟨hc,hu,?_⟩
     have:=VR (st:=st) (e:=e.o.dst) (j:=j.o.dst) (n:=st.n) (k:=st.k) (d:=d) (d':=d') hdst (hdis' hu hu')
     exact (congrArg F this).mp h
    | call c' f as ids obs fz =>
     obtain ⟨hc',eargs,R,h1,h2,h3,h4⟩:=h
     refine ⟨hc',eargs,R,h1,h2,h3,λ r ls hR=>?_⟩
     obtain ⟨hu',h⟩:=h4 r ls hR
     refine ⟨hu',?_⟩
     obtain ⟨v3,v4⟩:=ve (d:=(aft (Zd j.mi st.s) ids fz r ls (k0+j.i) (64*(C.off+j.o.dst.getD 0))).1) hu'
     try dsimp only
     rw[v3,v4,hke]
     refine ⟨hc,hu,?_⟩
     have:=VR (st:=st) (e:=e.o.dst) (j:=j.o.dst) (n:=st.n) (k:=st.k) (d:=d) (d':=(aft (Zd j.mi st.s) ids fz r ls (k0+j.i) (64*(C.off+j.o.dst.getD 0))).1) hdst (hdis' hu hu')
     exact (congrArg F this).mp h
    | ro f' args' =>
     obtain ⟨eargs,R,h1,h2,h3,h4⟩:=h
     refine ⟨eargs,R,h1,h2,h3,λ r ls hR=>⟨(h4 r ls hR).1,?_⟩⟩
     have h:=(h4 r ls hR).2
     have hu':Z7 [] j.ws:=λ x hx=>by cases hx
     obtain ⟨v3,v4⟩:=ve (d:=r) hu'
     try dsimp only
     rw[v3,v4,hke]
     refine ⟨hc,hu,?_⟩
     have:=VR (st:=st) (e:=e.o.dst) (j:=j.o.dst) (n:=st.n) (k:=st.k) (d:=d) (d':=r) hdst (hdis' hu hu')
     exact (congrArg F this).mp h
  | ro f args =>
   have hce:=K2 hke rfl
   obtain ⟨eargs,R,h1,h2,⟨r0,ls0,hR0⟩,h4⟩:=h
   have hu:Z7 [] e.ws:=λ x hx=>by cases hx
   obtain ⟨_,h0⟩:=h4 r0 ls0 hR0
   obtain ⟨v1,v2⟩:=vj (d:=r0) hu
   dsimp only at h0
   rw[v1,v2,hkj] at h0
   cases kj with
   | none=>exact h0.elim
   | some kj =>
    cases kj with
    | call c' f' as' ids' obs' fz' =>
     have hcj:=K2 hkj rfl
     rw[hce,hcj] at hcc
     cases hcc
    | ro f' args' =>
     have hcj:=K2 hkj rfl
     rw[hce,hcj] at hcc
     cases hcc
    | det c' d' u' =>
     refine ⟨h0.1,h0.2.1,?_⟩
     obtain ⟨v3,v4⟩:=ve (d:=d') h0.2.1
     try dsimp only
     rw[v3,v4,hke]
     refine ⟨eargs,R,h1,h2,⟨r0,ls0,hR0⟩,λ r ls hR=>⟨(h4 r ls hR).1,?_⟩⟩
     have h:=(h4 r ls hR).2
     obtain ⟨v1,v2⟩:=vj (d:=r) hu
     dsimp only at h
     rw[v1,v2,hkj] at h
     have:=VR (st:=st) (e:=e.o.dst) (j:=j.o.dst) (n:=st.n) (k:=st.k) (d:=r) (d':=d') hdst (hdis' hu h0.2.1)
     exact (congrArg F this).mp h.2.2
  | call c f as ids obs fz =>
   have hce:=K2 hke rfl
   obtain ⟨hc,eargs,R,h1,h2,⟨r0,ls0,hR0⟩,h4⟩:=h
   obtain ⟨hu0,h0⟩:=h4 r0 ls0 hR0
   obtain ⟨v1,v2⟩:=vj (d:=(aft (Zd e.mi st.s) ids fz r0 ls0 (k0+e.i) (64*(C.off+e.o.dst.getD 0))).1) hu0
   dsimp only at h0
   rw[v1,v2,hkj] at h0
   cases kj with
   | none=>exact h0.elim
   | some kj =>
    cases kj with
    | call c' f' as' ids' obs' fz' =>
     have hcj:=K2 hkj rfl
     rw[hce,hcj] at hcc
     cases hcc
    | ro f' args' =>
     have hcj:=K2 hkj rfl
     rw[hce,hcj] at hcc
     cases hcc
    | det c' d' u' =>
     refine ⟨h0.1,h0.2.1,?_⟩
     obtain ⟨v3,v4⟩:=ve (d:=d') h0.2.1
     try dsimp only
     rw[v3,v4,hke]
     refine ⟨hc,eargs,R,h1,h2,⟨r0,ls0,hR0⟩,λ r ls hR=>?_⟩
     obtain ⟨hu,h⟩:=h4 r ls hR
     obtain ⟨v1,v2⟩:=vj (d:=(aft (Zd e.mi st.s) ids fz r ls (k0+e.i) (64*(C.off+e.o.dst.getD 0))).1) hu
     dsimp only at h
     rw[v1,v2,hkj] at h
     refine ⟨hu,?_⟩
     have:=VR (st:=st) (e:=e.o.dst) (j:=j.o.dst) (n:=st.n) (k:=st.k) (d:=(aft (Zd e.mi st.s) ids fz r ls (k0+e.i) (64*(C.off+e.o.dst.getD 0))).1) (d':=d') hdst (hdis' hu h0.2.1)
     exact (congrArg F this).mp h.2.2
theorem XaI {K:St->Prop} {j:En} {l2:List En}:∀ {l1:List En} {st:St},(∀ e∈l1,Xbo e j=true)->dr P C full k0 (l1++j::l2) st K->K0 P C full k0 j st λ st=>dr P C full k0 (l1++l2) st K
 | [],st,_,h=>h
 | e::l1,st,hap,h=>by
  have h':K0 P C full k0 e st λ st=>K0 P C full k0 j st λ st=>dr P C full k0 (l1++l2) st K :=
   Xfk (λ st hst=>XaI (λ x hx=>hap x (Ud _ hx)) hst) h
  exact Xfl (hap e (by simp)) h'
end
end Go.Sx
namespace Go.Sx
variable {P:Program}
section
variable {s s':Heap}
mutual
theorem lend_le (hs:HLe s s'):∀ {d:D} {ls:List Nat} {r},lend s ls d=some r->lend s' ls d=some r
 | .ept id ver z i c,ls,r,h=>by
  unfold lend at h ⊢
  split at h
  ·rename_i he
   rw[hs _ _ he];exact h
  ·cases h
 | .agg cs,ls,r,h=>by
  unfold lend at h ⊢
  split at h
  ·rename_i he
   rw[K3 hs he];exact h
  ·cases h
 | .tup cs,ls,r,h=>by
  unfold lend at h ⊢
  split at h
  ·rename_i he
   rw[K3 hs he];exact h
  ·cases h
 | .ifc t d,ls,r,h=>by
  unfold lend at h ⊢
  split at h
  ·rename_i he
   rw[lend_le hs he];exact h
  ·cases h
 | .clo fn a b,ls,r,h=>by
  unfold lend at h ⊢
  split at h
  ·rename_i he
   rw[K3 hs he]
   simp only
   split at h
   ·rename_i hf
    rw[K3 hs hf];exact h
   ·cases h
  ·cases h
 | .osl id ver z off len,ls,r,h=>by
  unfold lend at h ⊢
  split at h
  ·rename_i he
   rw[snap_le hs he];exact h
  ·cases h
 | .any,ls,r,h=>by
  unfold lend at h ⊢
  split at h
  ·rename_i he
   rw[snap_le hs he];exact h
  ·cases h
 | .v _,ls,r,h=>by
  unfold lend at h ⊢
  split at h
  ·rename_i he
   rw[snap_le hs he];exact h
  ·cases h
 | .nsl,ls,r,h=>by
  unfold lend at h ⊢
  split at h
  ·rename_i he
   rw[snap_le hs he];exact h
  ·cases h
 | .isl ..,ls,r,h=>by
  unfold lend at h ⊢
  split at h
  ·rename_i he
   rw[snap_le hs he];exact h
  ·cases h
 | .ipt ..,ls,r,h=>by
  unfold lend at h ⊢
  split at h
  ·rename_i he
   rw[snap_le hs he];exact h
  ·cases h
 | .fsl ..,ls,r,h=>by simp[lend,snap] at h
 | .fmp ..,ls,r,h=>by simp[lend,snap] at h
 | .omp ..,ls,r,h=>by simp[lend,snap] at h
theorem K3 (hs:HLe s s'):∀ {ds:List D} {ls:List Nat} {r},Zc s ls ds=some r->Zc s' ls ds=some r
 | [],ls,r,h=>by simpa only[Zc] using h
 | d::ds,ls,r,h=>by
  unfold Zc at h ⊢
  split at h
  ·rename_i he
   rw[lend_le hs he]
   simp only
   split at h
   ·rename_i hf
    rw[K3 hs hf];exact h
   ·cases h
  ·cases h
end
theorem XaY {l l':List Nat} (h:Has s l) (h':Has s l'):Has s (l++l'):=λ i hi=>by
 rcases WH.1 hi with hi | hi
 ·exact h i hi
 ·exact h' i hi
mutual
theorem lend_has:∀ {d:D} {ls:List Nat} {r},lend s ls d=some r->Has s r.2.2.2
 | .ept id ver z i c,ls,r,h=>by
  unfold lend at h
  split at h
  ·split at h
   ·split at h<;>simp only[Wb] at h<;>subst h<;>intro i hi<;>simp at hi
   ·cases h
  ·cases h
 | .agg cs,ls,r,h=>by
  unfold lend at h
  split at h
  ·rename_i he
   simp only[Wb] at h
   subst h
   exact Kq he
  ·cases h
 | .tup cs,ls,r,h=>by
  unfold lend at h
  split at h
  ·rename_i he
   simp only[Wb] at h
   subst h
   exact Kq he
  ·cases h
 | .ifc t d,ls,r,h=>by
  unfold lend at h
  split at h
  ·rename_i he
   simp only[Wb] at h
   subst h
   have:=lend_has he
   exact this
  ·cases h
 | .clo fn a b,ls,r,h=>by
  unfold lend at h
  split at h
  ·rename_i he
   split at h
   ·rename_i hf
    simp only[Wb] at h
    subst h
    exact XaY (Kq he) (Kq hf)
   ·cases h
  ·cases h
 | .osl id ver z off len,ls,r,h=>by
  unfold lend at h
  split at h
  ·rename_i he
   simp only[Wb] at h
   subst h
   exact snap_has he
  ·cases h
 | .any,ls,r,h=>by
  unfold lend at h
  split at h
  ·rename_i he
   simp only[Wb] at h
   subst h
   exact snap_has he
  ·cases h
 | .v _,ls,r,h=>by
  unfold lend at h
  split at h
  ·rename_i he
   simp only[Wb] at h
   subst h
   exact snap_has he
  ·cases h
 | .nsl,ls,r,h=>by
  unfold lend at h
  split at h
  ·rename_i he
   simp only[Wb] at h
   subst h
   exact snap_has he
  ·cases h
 | .isl ..,ls,r,h=>by
  unfold lend at h
  split at h
  ·rename_i he
   simp only[Wb] at h
   subst h
   exact snap_has he
  ·cases h
 | .ipt ..,ls,r,h=>by
  unfold lend at h
  split at h
  ·rename_i he
   simp only[Wb] at h
   subst h
   exact snap_has he
  ·cases h
 | .fsl ..,ls,r,h=>by simp[lend,snap] at h
 | .fmp ..,ls,r,h=>by simp[lend,snap] at h
 | .omp ..,ls,r,h=>by simp[lend,snap] at h
theorem Kq:∀ {ds:List D} {ls:List Nat} {r},Zc s ls ds=some r->Has s r.2.2.2
 | [],ls,r,h=>by
  simp only[Zc,Wb] at h
  subst h
  intro i hi;simp at hi
 | d::ds,ls,r,h=>by
  unfold Zc at h
  split at h
  ·rename_i he
   split at h
   ·rename_i hf
    simp only[Wb] at h
    subst h
    exact XaY (lend_has he) (Kq hf)
   ·cases h
  ·cases h
end
theorem Xeb (hs:HLe s s'):∀ {ids:List Nat} {r},Z6 s ids=some r->Z6 s' ids=some r
 | [],r,h=>by simpa only[Z6] using h
 | id::ids,r,h=>by
  unfold Z6 at h ⊢
  split at h
  ·rename_i he
   rw[hs _ _ he]
   simp only
   split at h
   ·rename_i h1 h2
    rw[Kw hs h1,Xeb hs h2];exact h
   ·cases h
  ·cases h
theorem Xcu:∀ {ids:List Nat} {r},Z6 s ids=some r->Has s r.2.2
 | [],r,h=>by
  simp only[Z6,Wb] at h
  subst h
  intro i hi;simp at hi
 | id::ids,r,h=>by
  unfold Z6 at h
  split at h
  ·split at h
   ·rename_i h1 h2
    simp only[Wb] at h
    subst h
    exact XaY (Ko h1) (Xcu h2)
   ·cases h
  ·cases h
theorem Xec (hs:HLe s s') {args:List D} {r} (h:Y2 s args=some r):Y2 s' args=some r:=by
 unfold Y2 at h ⊢
 split at h
 ·rename_i h1
  rw[K3 hs h1]
  simp only
  split at h
  ·rename_i h2
   rw[Xeb hs h2];exact h
  ·cases h
 ·cases h
theorem Xdm {args:List D} {cc:Prop} {as:List D} {ids:List Nat} {obs:List Ob} {fz:List Nat} (h:Y2 s args=some (cc,as,ids,obs,fz)):Has s ids/\Has s fz:=by
 unfold Y2 at h
 split at h
 ·rename_i hl
  split at h
  ·rename_i ho
   simp only[Wb,Wi] at h
   obtain ⟨_,_,rfl,_,rfl⟩:=h
   refine ⟨λ id hid=>?_,XaY (Kq hl) (Xcu ho)⟩
   obtain ⟨v,E,z,cs,fz,hs⟩:=(YT hl ⟨by simp,by simp⟩).2 id hid
   exact ⟨_,hs⟩
  ·cases h
 ·cases h
theorem Xed (hs:HLe s s'):∀ {ids:List Nat} {obs:List Ob},Has s ids->Zu s' ids obs=Zu s ids obs
 | [],obs,_=>by cases obs<;>rfl
 | id::ids,[],_=>rfl
 | id::ids,o::obs,h=>by
  obtain ⟨x,hx⟩:=h id (by simp)
  obtain ⟨v,ob⟩:=x
  have ih:=Xed hs (ids:=ids) (obs:=obs) λ i hi=>h i (Ud _ hi)
  simp only[Zu,hx,hs _ _ hx,ih]
theorem XmR (hs:HLe s s') {ids fz:List Nat} (h1:Has s ids) (h2:Has s fz) (r:D) (ls:List Ob) (ver n:Nat):aft s' ids fz r ls ver n=aft s ids fz r ls ver n:=by
 unfold aft
 rw[VN hs h2,Xed hs h1]
theorem XkW (mi:List Nat) (s:Heap):HLe (Zd mi s) s:=by
 intro i x h
 unfold Zd at h
 split at h
 ·cases h
 ·exact h
end
def RelD (P:Program) (C:Cx) (U:Nat->Prop) (st:St) (a:Act) (w:World):Prop :=
 a.defers=[]/\a.tmps.size=st.n/\∃ M β,BLe C.b0 β/\(∀ x,Rep P M β (st.t x) (a.tmps.getD x undef))/\Iw P C st.s U M β w
section
variable {C:Cx} {st:St} {a:Act} {w:World} {U:Nat->Prop}
theorem RelD.put {w':World} {u:Up} {U':Nat->Prop} {M':Mem} {β':Loc} {M:Mem} {β:Loc} {d:D} {v:Value} {dst:Option Nat} {k':Nat} (h1:a.defers=[]) (h2:a.tmps.size=st.n) (h0:BLe C.b0 β)
 (h3:∀ x,Rep P M β (st.t x) (a.tmps.getD x undef)) (hM:MLe M M') (hB:BLe β β') (I:Iw P C (app st.s u) U' M' β' w') (hv:Rep P M' β' d v):RelD P C U' (nx st (XX dst st.n) d u st.n k') (a.put dst v) w':=by
 cases dst with
 | none=>exact ⟨h1,h2,M',β',h0.trans hB,λ x=>(h3 x).mono hM hB,I⟩
 | some x =>
  by_cases hx:x<st.n
  ·simp only[XX,Wn hx]
   refine ⟨h1,by simpa [nx,Act.put] using h2,M',β',h0.trans hB,λ i=>?_,I⟩
   simp only[nx,upd,Act.put]
   by_cases hi:i=x
   ·subst hi
    rw[Wn rfl]
    have:i<a.tmps.size:=by omega
    simpa [this] using hv
   ·rw[Wh hi]
    have e:(a.tmps.setIfInBounds x v).getD i undef=a.tmps.getD i undef:=by
     simp[Ne.symm hi]
    rw[e]
    exact (h3 i).mono hM hB
  ·simp only[XX,Wh hx]
   refine ⟨h1,by simpa [nx,Act.put] using h2,M',β',h0.trans hB,λ i=>?_,I⟩
   have e:a.put (some x) v=a:=by
    simp only[Act.put]
    rw[Array.setIfInBounds_eq_of_size_le (by omega)]
   rw[e]
   exact (h3 i).mono hM hB
theorem RelD.drew (h:RelD P C U st a w) (k:Nat):RelD P C U st a { w with drawn:=k }:=by
 obtain ⟨h1,h2,M,β,h0,h3,I⟩:=h
 refine ⟨h1,h2,M,β,h0,h3,?_⟩
 constructor
 ·exact I.mem
 ·exact I.used
 ·intro id v ob hs
  obtain ⟨x,hx,ho⟩:=I.obs id v ob hs
  exact ⟨x,hx,ho.mono (MLe.refl _) (BLe.refl _) (λ _ _ _=>rfl) (λ _ _ _ _=>rfl)⟩
 ·exact I.own
 ·exact I.inj
 ·exact ⟨I.keep.os,I.keep.tape,I.keep.output,I.keep.size,I.keep.block⟩
 ·exact I.old
 ·exact I.le
 ·exact I.glob
theorem Xiw {full:Array Oper} {k0:Nat} {e:En} {F:St->Prop} {K:AW} {Q:Exit->AW} (hr:RelD P C U st a w) (hv:¬ U (k0+e.i)) (h:K0 P C full k0 e st F)
 (hK:∀ st' a' w',RelD P C (λ x=>U x\/x=k0+e.i) st' a' w'->F st'->K a' w'):if Region.wanted e.o (yielded full a.tmps)=true then e.o.wp P a w K Q else K (a.put e.o.dst undef) w:=by
 obtain ⟨h1,h2,M,β,h0,h3,I⟩:=hr
 have h3m:∀ x,Rep P M β (ZM e.ms st.t x) (a.tmps.getD x undef):=λ x=>by
  unfold ZM
  split
  ·simp[Rep]
  ·exact h3 x
 have hev:=Xfa I h3m
 have hle:=XkW e.mi st.s
 have hskip:F (nx st (XX e.o.dst st.n) (.v undef) [] st.n st.k)->K (a.put e.o.dst undef) w:=λ hF =>
  hK _ _ _ (RelD.put (u:=[]) h1 h2 h0 h3 (MLe.refl _) (BLe.refl _) (I.mono λ _ h=>.inl h) (by simp[Rep,J4])) hF
 have hrun:doK P C e (k0+e.i) (Zd e.mi st.s) (kdO P C (k0+e.i) e.o (ZM e.ms st.t) (Zd e.mi st.s)) (λ d u=>F (nx st (XX e.o.dst st.n) d u st.n st.k))->e.o.wp P a w K Q:=by
  intro h
  unfold kdO at h
  split at h
  ·rename_i c hc
   have hop:e.o.op=.call c:=by
    unfold JH at hc
    split at hc
    ·rename_i c' e
     split at hc
     ·simp only[Wb] at hc;subst hc;exact e
     ·cases hc
    ·cases hc
   unfold kd3 at h
   split at h
   ·rename_i f args hcal
    unfold kd2 at h
    split at h
    ·rename_i cc as ids obs fz hca
     obtain ⟨hcc,eargs,R,hfit,hA,_,hKR⟩:=h
     unfold callee at hcal
     split at hcal
     ·rename_i x hx
      split at hcal
      ·rename_i g first caps hclo
       simp only[Wb,Wi] at hcal
       obtain ⟨rfl,rfl⟩:=hcal
       have hfx:=hev x
       rw[hclo] at hfx
       simp only[Rep] at hfx
       obtain ⟨va,vb,hfx,ha,hb⟩:=hfx
       obtain ⟨⟨fn,hf,hb',hn⟩,_⟩:=id hA
       unfold Oper.wp
       rw[Xan hop hx hfx hf hb' hn w]
       rw[Oper.upon_enter]
       have hargs:RepL P M β (first++(c.args.toList.map (ev (ZM e.ms st.t) C.G)++caps)) (va++(c.args.toList.map a.eval++vb)) :=
        ha.append ((RepL.map hev _).append hb)
       obtain ⟨hh1,hh2⟩:=Xdm hca
       have hca':=Xec hle hca
       refine (Xf2 I (ver:=k0+e.i) hv hargs hca' hcc hfit hA (64*(C.off+e.o.dst.getD 0))).mono ?_
       rintro e' w' ⟨v,r,ls,M',β',rfl,hR,I',hv',hM,hB⟩
       have hbox:∀ id∈ids,∃ v o,st.s id=some (v,o):=λ id hid=>by
        obtain ⟨x,hx⟩:=hh1 id hid
        exact ⟨x.1,x.2,hle _ _ hx⟩
       obtain ⟨e1,e2⟩:=Xii st.s ids fz r ls (k0+e.i) (64*(C.off+e.o.dst.getD 0)) hbox
       rw[← e1] at hv'
       rw[← e2] at I'
       have ea:=XmR hle hh1 hh2 r ls (k0+e.i) (64*(C.off+e.o.dst.getD 0))
       rw[ea] at hv' I'
       exact hK _ _ _ (RelD.put h1 h2 h0 h3 hM hB I' hv') (hKR r ls hR).2
      ·cases hcal
     ·cases hcal
    ·obtain ⟨eargs,R,hro,hA,_,hKR⟩:=h
     unfold callee at hcal
     split at hcal
     ·rename_i x hx
      split at hcal
      ·rename_i g first caps hclo
       simp only[Wb,Wi] at hcal
       obtain ⟨rfl,rfl⟩:=hcal
       have hfx:=hev x
       rw[hclo] at hfx
       simp only[Rep] at hfx
       obtain ⟨va,vb,hfx,ha,hb⟩:=hfx
       obtain ⟨⟨fn,hf,hb',hn⟩,_⟩:=id hA
       unfold Oper.wp
       rw[Xan hop hx hfx hf hb' hn w]
       rw[Oper.upon_enter]
       have hargs:RepL P M β (first++(c.args.toList.map (ev (ZM e.ms st.t) C.G)++caps)) (va++(c.args.toList.map a.eval++vb)) :=
        ha.append ((RepL.map hev _).append hb)
       obtain ⟨M1,hM1,hm1,hargs⟩:=hro st.s U M β w _ hle I hargs
       refine (XkA I hM1 hm1 hargs hA (λ r ls h=>(hKR r ls h).1)).mono ?_
       rintro e' w' ⟨v,r,ls,rfl,hR,I',hv'⟩
       exact hK _ _ _ (RelD.put (u:=[]) h1 h2 h0 h3 (MLe.refl _) (BLe.refl _) (I'.mono λ _ h=>.inl h) hv') (hKR r ls hR).2
      ·cases hcal
     ·cases hcal
   ·exact h.elim
  ·unfold kd1 at h
   split at h
   ·rename_i c d u hop
    obtain ⟨hc,_,hF⟩:=h
    have:=Xig I (ver:=k0+e.i) hv { e.o with dst:=XdZ C.off e.o.dst } a.eval (ev (ZM e.ms st.t) C.G) hev (λ _=>rfl) (XmD hle hop) hc
    obtain ⟨M',β',w',v,hres,I',hv',hM,hB⟩:=this
    rw[Xd3] at hres
    have hrel:RelD P C (λ x=>U x\/x=k0+e.i) (nx st (XX e.o.dst st.n) d u st.n st.k) (a.put e.o.dst v) w':=RelD.put h1 h2 h0 h3 hM hB I' hv'
    unfold Oper.wp
    rcases hres with hres | ⟨hres,rfl⟩
    ·rw[hres];exact hK _ _ _ hrel hF
    ·rw[hres];exact hK _ _ _ hrel hF
   ·exact h.elim
 unfold K0 kdE at h
 split at h
 ·rename_i hg
  have hw:Region.wanted e.o (yielded full a.tmps)=true:=by unfold Region.wanted;rw[hg]
  rw[Wn hw]
  exact hrun h
 ·rename_i g want hg
  split at h
  ·rename_i r hdst
   unfold kdG at h
   split at h
   ·rename_i b hb
    have hval:a.tmps.getD r undef=.bool b:=by
     have:=h3m r
     rw[hb] at this
     simp only[Rep] at this
     exact this.1
    have hy:yielded full a.tmps g=some b:=by
     unfold yielded
     rw[hdst]
     simp only[On]
     by_cases hs:r<a.tmps.size
     ·have:a.tmps[r]? = some (.bool b):=by
       simp[hs] at hval
       simp[hs,hval]
      rw[this]
     ·simp[hs,undef] at hval
    have hw:Region.wanted e.o (yielded full a.tmps)=(b==want):=by
     unfold Region.wanted;rw[hg];simp only;rw[hy];rfl
    rw[hw]
    cases hbw:(b==want) with
    | true =>
     rw[hbw] at h
     rw[Wn rfl]
     exact hrun h
    | false =>
     rw[hbw] at h
     rw[Wh (by simp)]
     exact hskip h.2.2
   ·rename_i vs hb
    have hval:a.tmps.getD r undef=.tuple vs:=by
     have:=h3m r
     rw[hb] at this
     simp only[Rep] at this
     exact this.1
    have hy:yielded full a.tmps g=none:=by
     unfold yielded
     rw[hdst]
     simp only[On]
     by_cases hs:r<a.tmps.size
     ·have:a.tmps[r]? = some (.tuple vs):=by
       simp[hs] at hval
       simp[hs,hval]
      rw[this]
     ·rw[In (Nat.le_of_not_lt hs)]
    have hw:Region.wanted e.o (yielded full a.tmps)=false:=by
     unfold Region.wanted;rw[hg];simp only;rw[hy];rfl
    rw[hw,Wh (by simp)]
    exact hskip h.2.2
   ·exact h.elim
  ·exact h.elim
end
end Go.Sx
namespace Go.Sx
variable {P:Program}
def Xmb (e:En):Bool:=e.o.after.toList.all λ d=>!Region.binds .any d||d.on<e.i
def XmS (es:List En) (e:En):Bool:=e.anc.all λ x=>e.o.after.toList.any λ d=>Region.binds .any d&&(d.on==x||((es[d.on]?).map (·.anc.contains x)).getD false)
def Xmc (es:List En) (j:En):Bool:=es.all λ e=>!(e.i<j.i)||j.anc.contains e.i||Xbo e j
def Xfm (es:List En):Bool:=es.all Xmb&&es.all (XmS es)&&es.all (Xmc es)
def Jn (es:List En) (listed:Array Bool):List En:=es.filter λ e=>!listed.getD e.i true
section
variable {C:Cx} {ops:Array Oper} {k0:Nat} {es:List En} {Q:Exit->AW} {K:St->Prop}
def UD (k0:Nat) (listed:Array Bool):Nat->Prop:=λ v=>v<k0\/∃ i,listed.getD i false=true/\v=k0+i
theorem Xix (ho:es.map (·.o)=ops.toList) (hi:es.map (·.i)=List.range es.length) {j:Nat} {o:Oper} (h:ops[j]? = some o):∃ e,e∈es/\es[j]? = some e/\e.i=j/\e.o=o:=by
 have h1:(es.map (·.o))[j]? = some o:=by rw[ho];simpa using h
 simp only[W7,WW] at h1
 obtain ⟨e,he,rfl⟩:=h1
 refine ⟨e,WU he,he,?_,rfl⟩
 have h2:(es.map (·.i))[j]? = some e.i:=by simp[he]
 rw[hi] at h2
 have hj:j<es.length:=by
  rcases Uk j es.length with h' | h'
  ·exact h'
  ·rw[WK h'] at he;cases he
 rw[IN hj] at h2
 simpa using h2.symm
theorem Xbp (hi:es.map (·.i)=List.range es.length) {e:En} (he:e∈es):e.i<es.length/\es[e.i]? = some e:=by
 obtain ⟨j,hj,rfl⟩:=WX he
 have h2:(es.map (·.i))[j]? = some es[j].i:=by simp[hj]
 rw[hi,IN hj] at h2
 simp only[Wb] at h2
 rw[← h2]
 exact ⟨hj,by simp[hj]⟩
theorem Xhl (hi:es.map (·.i)=List.range es.length):es.Pairwise λ a b=>a.i<b.i:=by
 have:=List.pairwise_lt_range (n:=es.length)
 rw[← hi,List.pairwise_map] at this
 exact this
theorem Xn0 (ho:es.map (·.o)=ops.toList) (hi:es.map (·.i)=List.range es.length) (hc:Xfm es=true)
 (hQ:∀ st a w,RelD P C (λ v=>v<k0+es.length) st a w->K st->Q .normal a w) :
 ∀ (fuel:Nat) (listed:Array Bool) (a:Act) (w:World) (st:St),(Jn es listed).length=fuel->listed.size=es.length->RelD P C (UD k0 listed) st a w ->
  (∀ e∈es,listed.getD e.i false=true->∀ x∈e.anc,listed.getD x false=true)->dr P C ops k0 (Jn es listed) st K->wpAny P .any ops Q fuel listed a w:=by
 unfold Xfm at hc
 simp only[WG,Ur] at hc
 obtain ⟨⟨hedge,hanc⟩,hpair⟩:=hc
 have hsort:=Xhl hi
 have hlen:es.length=ops.size:=by
  have:=congrArg List.length ho
  simpa using this
 have getD_flip:∀ (listed:Array Bool) (x:Nat),x<listed.size->(listed.getD x true=listed.getD x false):=by
  intro listed x hx
  simp[hx]
 intro fuel
 induction fuel with
 | zero =>
  intro listed a w st hfuel hsz hr hcl hd
  have hnil:Jn es listed=[]:=WR hfuel
  refine ⟨?_,?_⟩
  ·cases hrd:Region.ready .any ops listed with
   | nil=>rfl
   | cons j js =>
    have hj:j∈Region.ready .any ops listed:=by rw[hrd];simp
    obtain ⟨hun,o,hoj,_⟩:=mem_ready.1 hj
    obtain ⟨e,he,_,hei,_⟩:=Xix ho hi hoj
    have:e∈Jn es listed:=Uq.2 ⟨he,by rw[hei,hun];rfl⟩
    rw[hnil] at this;cases this
  ·rw[hnil] at hd
   refine hQ st a w ?_ hd
   obtain ⟨h1,h2,M,β,h0,h3,I⟩:=hr
   refine ⟨h1,h2,M,β,h0,h3,I.mono λ v hv=>?_⟩
   rcases hv with hv | ⟨i,hl,rfl⟩
   ·exact I9 hv (Nat.le_add_right _ _)
   ·have:i<listed.size:=by
     rcases Uk i listed.size with h' | h'
     ·exact h'
     ·simp[In h'] at hl
    show k0+i<k0+es.length
    omega
 | succ fuel ih =>
  intro listed a w st hfuel hsz hr hcl hd
  refine ⟨λ hnil=>?_,λ j hj=>?_⟩
  ·
   exfalso
   cases hrem:Jn es listed with
   | nil=>rw[hrem] at hfuel;simp at hfuel
   | cons e l =>
    have hmem:e∈Jn es listed:=by rw[hrem];simp
    obtain ⟨he,hun⟩:=Uq.1 hmem
    have hsr:(Jn es listed).Pairwise λ a b=>a.i<b.i:=hsort.filter _
    rw[hrem,List.pairwise_cons] at hsr
    obtain ⟨hlt,hget⟩:=Xbp hi he
    have hoe:ops[e.i]? = some e.o:=by
     have:(es.map (·.o))[e.i]? = some e.o:=by simp[hget]
     rw[ho] at this
     simpa using this
    have:e.i∈Region.ready .any ops listed:=by
     refine mem_ready.2 ⟨by simpa using hun,e.o,hoe,λ d hd hb=>?_⟩
     have h1:=hedge e he
     unfold Xmb at h1
     simp only[Ur] at h1
     have h2:=h1 d (by simpa using hd)
     simp only[hb,Wx,IZ,decide_eq_true_eq] at h2
     have hdl:d.on<es.length:=by omega
     cases hv:listed.getD d.on false with
     | true=>rfl
     | false =>
      have hmem2:es[d.on]∈Jn es listed:=by
       refine Uq.2 ⟨W6 _,?_⟩
       have e1:es[d.on].i=d.on:=by
        have h2:(es.map (·.i))[d.on]? = some es[d.on].i:=by simp[hdl]
        rw[hi,IN hdl] at h2
        simpa using h2.symm
       rw[e1,getD_flip _ _ (by omega),hv];rfl
      have e1:es[d.on].i=d.on:=by
       have h2:(es.map (·.i))[d.on]? = some es[d.on].i:=by simp[hdl]
       rw[hi,IN hdl] at h2
       simpa using h2.symm
      rw[hrem] at hmem2
      rcases UN.1 hmem2 with h | h
      ·rw[h] at e1;omega
      ·have:=hsr.1 _ h
       omega
    rw[hnil] at this;cases this
  ·obtain ⟨hun,o,hoj,hall⟩:=mem_ready.1 hj
   obtain ⟨e,he,hget,hei,rfl⟩:=Xix ho hi hoj
   have hmem:e∈Jn es listed:=Uq.2 ⟨he,by rw[hei,hun];rfl⟩
   obtain ⟨l1,l2,hsplit⟩:=List.append_of_mem hmem
   have hsr:(Jn es listed).Pairwise λ a b=>a.i<b.i:=hsort.filter _
   rw[hsplit] at hsr
   obtain ⟨hs1,hs2,hs3⟩:=Oh.1 hsr
   rw[List.pairwise_cons] at hs2
   have hjsz:j<listed.size:=by
    rcases Uk j listed.size with h' | h'
    ·exact h'
    ·simp[In h'] at hun
   have hap:∀ x∈l1,Xbo x e=true:=by
    intro x hx
    have hxl:x∈Jn es listed:=by rw[hsplit];exact Uf _ hx
    obtain ⟨hxe,hxun⟩:=Uq.1 hxl
    have hlt:x.i<e.i:=hs3 x hx e (by simp)
    have h1:=hpair e he
    unfold Xmc at h1
    simp only[Ur] at h1
    have h2:=h1 x hxe
    simp only[hlt,decide_true,Wx,IZ,Ig] at h2
    rcases h2 with h2 | h2
    ·exfalso
     have h3:=hanc e he
     unfold XmS at h3
     simp only[Ur] at h3
     have h4:=h3 x.i (by simpa using h2)
     simp only[Oo,WG,Ig,beq_iff_eq] at h4
     obtain ⟨d,hd,hb,hor⟩:=h4
     have hl:listed.getD d.on false=true:=hall d (by simpa using hd) hb
     have hxl:listed.getD x.i false=true:=by
      rcases hor with hor | hor
      ·rw[← hor];exact hl
      ·cases hg:es[d.on]? with
       | none=>rw[hg] at hor;simp at hor
       | some y =>
        rw[hg] at hor
        have hy:=WU hg
        have hyi:y.i=d.on:=by
         have hdl:d.on<es.length:=by
          rcases Uk d.on es.length with h' | h'
          ·exact h'
          ·rw[WK h'] at hg;cases hg
         have h2:(es.map (·.i))[d.on]? = some y.i:=by simp[hg]
         rw[hi,IN hdl] at h2
         simpa using h2.symm
        exact hcl y hy (by rw[hyi];exact hl) x.i (by simpa using hor)
     have:x.i<listed.size:=by rw[hsz];exact (Xbp hi hxe).1
     rw[getD_flip _ _ this,hxl] at hxun
     cases hxun
    ·exact h2
   rw[hsplit] at hd
   have hst:=XaI hap hd
   have hrem':Jn es (listed.setIfInBounds j true)=l1++l2:=by
    have h1:Jn es (listed.setIfInBounds j true)=(Jn es listed).filter λ x=>x.i != j:=by
     unfold Jn
     rw[List.filter_filter]
     refine List.filter_congr λ x hx=>?_
     by_cases hxj:x.i=j
     ·rw[hxj]
      simp[hjsz]
     ·rw[getD_set_ne true (Ne.symm hxj)]
      simp[hxj]
    rw[h1,hsplit,List.filter_append,List.filter_cons]
    have h2:(e.i != j)=false:=by simp[hei]
    rw[h2]
    have h3:l1.filter (λ x=>x.i != j)=l1:=IO.2 λ x hx=>by
     have:=hs3 x hx e (by simp)
     simp;omega
    have h4:l2.filter (λ x=>x.i != j)=l2:=IO.2 λ x hx=>by
     have:=hs2.1 x hx
     simp;omega
    rw[h3,h4]
    simp
   have hnotU:¬ UD k0 listed (k0+e.i):=by
    rintro (h | ⟨i,hl,h⟩)
    ·omega
    ·have:i=j:=by omega
     subst this
     rw[getD_flip _ _ hjsz,hl] at hun
     cases hun
   have hone:=Xiw (Q:=Q) (K:=wpAny P .any ops Q fuel (listed.setIfInBounds j true)) hr hnotU hst λ st' a' w' hr' hF=>by
    refine ih (listed.setIfInBounds j true) a' w' st' ?_ (by simpa using hsz) ?_ ?_ (by rw[hrem'];exact hF)
    ·rw[hrem']
     rw[hsplit] at hfuel
     simp only[Wr,WM] at hfuel ⊢
     omega
    ·obtain ⟨h1,h2,M,β,h0,h3,I⟩:=hr'
     refine ⟨h1,h2,M,β,h0,h3,I.mono λ v hv=>?_⟩
     rcases hv with (hv | ⟨i,hl,rfl⟩) | rfl
     ·exact .inl hv
     ·exact .inr ⟨i,getD_set_true hl,rfl⟩
     ·exact .inr ⟨j,by simp[hjsz],by rw[hei]⟩
    ·intro y hy hl x hx
     by_cases hyj:y.i=j
     ·have hye:y=e:=by
       have h1:=(Xbp hi hy).2
       rw[hyj,hget] at h1
       simpa using h1.symm
      subst hye
      refine getD_set_true ?_
      have h3:=hanc y hy
      unfold XmS at h3
      simp only[Ur] at h3
      have h4:=h3 x hx
      simp only[Oo,WG,Ig,beq_iff_eq] at h4
      obtain ⟨d,hd,hb,hor⟩:=h4
      have hl:listed.getD d.on false=true:=hall d (by simpa using hd) hb
      rcases hor with rfl | hor
      ·exact hl
      ·cases hg:es[d.on]? with
       | none=>rw[hg] at hor;simp at hor
       | some z =>
        rw[hg] at hor
        have hz:=WU hg
        have hzi:z.i=d.on:=by
         have hdl:d.on<es.length:=by
          rcases Uk d.on es.length with h' | h'
          ·exact h'
          ·rw[WK h'] at hg;cases hg
         have h2:(es.map (·.i))[d.on]? = some z.i:=by simp[hg]
         rw[hi,IN hdl] at h2
         simpa using h2.symm
        exact hcl z hz (by rw[hzi];exact hl) x (by simpa using hor)
     ·have e1:(listed.setIfInBounds j true).getD y.i false=listed.getD y.i false:=by
       simp[Array.getElem?_setIfInBounds_ne (Ne.symm hyj)]
      rw[e1] at hl
      exact getD_set_true (hcl y hy hl x hx)
   unfold wpOp
   rw[hoj]
   simp only
   split
   ·rename_i hw
    rw[Wn hw] at hone
    exact .inl hone
   ·rename_i hw
    rw[Wh hw] at hone
    exact hone
theorem DrawnG.of {R:St->Prop} {id:Nat} {k:List It} {st:St} {l:List Oper} (hm:P.follows .mixedOrders=true) (es:List En) (n:Nat) (ho:es.map (·.o)=l) (hi:es.map (·.i)=List.range es.length) (hc:Xfm es=true)
 (h:dr P C ⟨l⟩ st.k es st λ st'=>run P C R n k ⟨st'.t,st'.s,st'.n,st.k+es.length⟩) (t:Prf (⟨l⟩:Array Oper)):DrawnG P C R id ⟨l⟩ k st t:=by
 intro a w hr
 refine wp_region_any hm ?_
 have hlen:es.length=l.length:=by rw[← ho];simp
 have hrd:RelD P C (UD st.k (Array.replicate (⟨l⟩:Array Oper).size false)) st a { w with drawn:=w.drawn+1 }:=by
  refine RelD.drew ?_ _
  obtain ⟨h1,h2,M,β,h0,h3,I⟩:=hr
  exact ⟨h1,h2,M,β,h0,h3,I.mono λ v hv=>.inl hv⟩
 have hall:Jn es (Array.replicate (⟨l⟩:Array Oper).size false)=es:=by
  unfold Jn
  refine IO.2 λ e he=>?_
  have:=(Xbp hi he).1
  simp[UP,hlen▸this]
 refine Xn0 (es:=es) (k0:=st.k) ho hi hc ?_ _ _ a _ st (by rw[hall,hlen];simp) (by simp[hlen]) hrd (λ e he hl=>?_) (by rw[hall];exact h)
 ·rintro st' a' w' ⟨h1,h2,M,β,h0,h3,I⟩ hK
  exact YM n k (st:=⟨st'.t,st'.s,st'.n,st.k+es.length⟩) ⟨h1,h2,M,β,h0,h3,I⟩ hK
 ·have:=(Xbp hi he).1
  simp[UP,hlen▸this] at hl
end
end Go.Sx
namespace Go.Sx
variable {P:Program}
def Xdn:Nat->List Oper->List (List Nat×List Nat×List Nat×List Nat)->List En
 | i,o::l,(a,w,m,k)::x=>⟨i,o,a,w,m,k⟩::Xdn (i+1) l x
 | _,_,_=>[]
def CallD (P:Program) (G:Nat->Option (List D)) (f:FuncId) (args:List D) (obs:List Ob) (K:D->List Ob->Prop) [Tag (G,K)] (_:Prf args):Prop :=
 ∃ eargs R,Zv args eargs/\YF P G f eargs obs R/\(∃ r ls,R r ls)/\∀ r ls,R r ls->K r ls
def doT (P:Program) (C:Cx) (e:En) (ver:Nat) (s:Heap) (x:Option Kd) (st:St) (F:St->Prop) [Tag (C,e,s,st,F)] (_:Prf x):Prop :=
 doK P C e ver s x λ d u=>F (nx st (XX e.o.dst st.n) d u st.n st.k)
def Xmd (P:Program) (C:Cx) (s:Heap) (f:FuncId) (args:List D) (K:D->Prop) [Tag (C,s,K)] (_:Prf args):Prop :=
 ∃ eargs R,RoA P C s args eargs/\YF P C.G f eargs [] R/\(∃ r ls,R r ls)/\∀ r ls,R r ls->scal r=true/\K r
section
variable {C:Cx} {full:Array Oper} {k0:Nat} {st:St} {K F:St->Prop} {e:En} {es:List En} {ver:Nat} {s:Heap}
theorem XmT:dr P C full k0 [] st K=K st:=propext Iff.rfl
theorem XkX:dr P C full k0 (e::es) st K=doT P C e (k0+e.i) (Zd e.mi st.s) (kdE P C full (k0+e.i) e.o (ZM e.ms st.t) (Zd e.mi st.s)) st (λ st=>dr P C full k0 es st K) trivial:=propext Iff.rfl
theorem XkY {c:Prop} {d:D} {u:Up} {t':Prf (some (Kd.det c d u))}:doT P C e ver s (some (.det c d u)) st F t'=(c/\Z7 u e.ws/\Xd1 (XX e.o.dst st.n) st.n st.k (λ dst n k=>F (nx st dst d u n k)) trivial):=propext Iff.rfl
theorem Xiy {c:Prop} {f:FuncId} {as:List D} {ids:List Nat} {obs:List Ob} {fz:List Nat} {t':Prf (some (Kd.call c f as ids obs fz))}:doT P C e ver s (some (.call c f as ids obs fz)) st F t'=(c/\CallD P C.G f as obs (λ r ls =>
 XmE (aft s ids fz r ls ver (64*(C.off+e.o.dst.getD 0))) (XX e.o.dst st.n) st.n st.k (λ dst d u n k=>Z7 u e.ws/\F (nx st dst d u n k)) trivial) trivial):=propext Iff.rfl
theorem XmU {f:FuncId} {args:List D} {t':Prf (some (Kd.ro f args))}:doT P C e ver s (some (.ro f args)) st F t'=Xmd P C s f args (λ r=>Xd1 (XX e.o.dst st.n) st.n st.k (λ dst n k=>F (nx st dst r [] n k)) trivial) trivial:=propext Iff.rfl
theorem XmV {r:Nat} {x:Option Kd}:kdG (.v (.bool true)) r true x=x:=rfl
theorem XmW {r:Nat} {x:Option Kd}:kdG (.v (.bool false)) r false x=x:=rfl
theorem XmX {r:Nat} {x:Option Kd}:kdG (.v (.bool true)) r false x=some (.det True (.v undef) []):=rfl
theorem XmY {r:Nat} {x:Option Kd}:kdG (.v (.bool false)) r true x=some (.det True (.v undef) []):=rfl
theorem Xn1 {r:Nat} {want:Bool} {x:Option Kd} {vs:Array Value}:kdG (.v (.tuple vs)) r want x=some (.det True (.v undef) []):=rfl
theorem Xiz {dst:Option Nat} {op:Op} {ty:Nat} {pos:String} {af:Array Edge} {t:Nat->D}:kdE P C full ver ⟨dst,op,ty,pos,af,none⟩ t s=kdO P C ver ⟨dst,op,ty,pos,af,none⟩ t s:=rfl
def kdF (r:Option Nat) (t:Nat->D) (want:Bool) (x:Option Kd):Option Kd:=match r with
 | some r=>kdG (t r) r want x
 | none=>none
theorem XiA {r:Nat} {t:Nat->D} {want:Bool} {x:Option Kd}:kdF (some r) t want x=kdG (t r) r want x:=rfl
theorem XiB {dst:Option Nat} {op:Op} {ty:Nat} {pos:String} {af:Array Edge} {t:Nat->D} {g:Nat} {want:Bool}:kdE P C full ver ⟨dst,op,ty,pos,af,some (g,want)⟩ t s=kdF ((full[g]?).bind (·.dst)) t want (kdO P C ver ⟨dst,op,ty,pos,af,some (g,want)⟩ t s):=by
 simp only[kdE,kdF]
 split<;>rename_i h<;>rw[h]
def kdI (P:Program) (C:Cx) (x:Option Call) (ver:Nat) (o:Oper) (t:Nat->D) (s:Heap):Option Kd:=match x with
 | some c=>kd3 s (callee (ev t C.G) c)
 | none=>kd1 (opF P (XdZ C.off o.dst) ver (ev t C.G) s o.op)
theorem XmZ {o:Oper} {t:Nat->D}:kdO P C ver o t s=kdI P C (JH o.op) ver o t s:=by
 simp only[kdO,kdI]<;>(split<;>rename_i h<;>rw[h])
theorem XiC {o:Oper} {t:Nat->D}:kdI P C none ver o t s=kd1 (opF P (XdZ C.off o.dst) ver (ev t C.G) s o.op):=rfl
theorem XiD {o:Oper} {t:Nat->D} {c:Call}:kdI P C (some c) ver o t s=kd3 s (callee (ev t C.G) c):=rfl
theorem XiE {c:Prop} {d:D} {u:Up}:kd1 (some (c,d,u))=some (.det c d u):=rfl
theorem XiF {f:Nat} {args:List D} {cc:Prop} {as:List D} {ids:List Nat} {obs:List Ob} {fz:List Nat}:kd2 f args (some (cc,as,ids,obs,fz))=some (.call cc f as ids obs fz):=rfl
theorem XiG {f:Nat} {args:List D}:kd2 f args none=some (.ro f args):=rfl
theorem XiH {f:Nat} {args:List D}:kd3 s (some (f,args))=kd2 f args (Y2 s args):=rfl
theorem Xhm {ws:List Nat}:Z7 [] ws=True:=by simp[Z7]
theorem Xfn {i v:Nat} {o:Ob} {u:Up} {ws:List Nat}:Z7 ((i,v,o)::u) ws=(i∈ws/\Z7 u ws):=by simp[Z7]
theorem XiI {ms:List Nat} {t:Nat->D} {x:Nat}:ZM ms t x=if ms.contains x then .any else t x:=rfl
theorem XiJ {ms:List Nat} {x:Nat}:Zd ms s x=if ms.contains x then none else s x:=rfl
theorem Xx {b:Bool} {r:Nat} {x:Option Kd} (hr:st.t r=.v (.bool b)) (h1:b=true->doT P C e ver s x (setT st r (.v (.bool true))) F trivial) (h2:b=false->doT P C e ver s (some (.det True (.v undef) [])) (setT st r (.v (.bool false))) F trivial) (t':Prf (kdG (.v (.bool b)) r true x)):doT P C e ver s (kdG (.v (.bool b)) r true x) st F t':=by
 cases b
 ·have:=h2 rfl;rw[Y8 hr] at this;exact this
 ·have:=h1 rfl;rw[Y8 hr] at this;exact this
theorem Xy {b:Bool} {r:Nat} {x:Option Kd} (hr:st.t r=.v (.bool b)) (h1:b=true->doT P C e ver s (some (.det True (.v undef) [])) (setT st r (.v (.bool true))) F trivial) (h2:b=false->doT P C e ver s x (setT st r (.v (.bool false))) F trivial) (t':Prf (kdG (.v (.bool b)) r false x)):doT P C e ver s (kdG (.v (.bool b)) r false x) st F t':=by
 cases b
 ·have:=h2 rfl;rw[Y8 hr] at this;exact this
 ·have:=h1 rfl;rw[Y8 hr] at this;exact this
theorem CallD.of {G:Nat->Option (List D)} {f:FuncId} {args eargs:List D} {obs:List Ob} {R:D->List Ob->Prop} {K:D->List Ob->Prop} (h:YF P G f eargs obs R) (hf:Zv args eargs) (hne:∃ r ls,R r ls) (hK:∀ r ls,R r ls->K r ls) (t':Prf args):CallD P G f args obs K t' :=
 ⟨eargs,R,hf,h,hne,hK⟩
theorem O8 {R:St->Prop} {id:Nat} {k:List It} {st:St} {l:List Oper} (aux:List (List Nat×List Nat×List Nat×List Nat)) (n:Nat) (hm:P.follows .mixedOrders=true) (ho:(Xdn 0 l aux).map (·.o)=l) (hi:(Xdn 0 l aux).map (·.i)=List.range (Xdn 0 l aux).length) (hc:Xfm (Xdn 0 l aux)=true)
 (h:dr P C ⟨l⟩ st.k (Xdn 0 l aux) st λ st'=>run P C R n k ⟨st'.t,st'.s,st'.n,st.k+(Xdn 0 l aux).length⟩) (t:Prf (⟨l⟩:Array Oper)):DrawnG P C R id ⟨l⟩ k st t :=
 DrawnG.of hm (Xdn 0 l aux) n ho hi hc h t
end
theorem XkZ {ls:List Ob}:Kv ls 1000000=(ls[0]?).map (λ o=>(0,o)):=Ky (j:=0)
theorem Xk0 {ls:List Ob}:Kv ls 1000001=(ls[1]?).map (λ o=>(0,o)):=Ky (j:=1)
theorem Xk1 {ls:List Ob}:Kv ls 1000002=(ls[2]?).map (λ o=>(0,o)):=Ky (j:=2)
theorem Xk2 {ls:List Ob}:Kv ls 1000003=(ls[3]?).map (λ o=>(0,o)):=Ky (j:=3)
theorem Xk3 {ls:List Ob}:Kv ls 1000004=(ls[4]?).map (λ o=>(0,o)):=Ky (j:=4)
theorem Xk4 {ls:List Ob}:Kv ls 1000005=(ls[5]?).map (λ o=>(0,o)):=Ky (j:=5)
attribute [go_sem] LB XkZ Xk0 Xk1 Xk2 Xk3 Xk4
attribute [go_sem ↓] XmT XkX Xiz XiB XmZ
attribute [go_sem] XkY Xiy XmU XiG XmV XmW XmX XmY Xn1 XiA XiC XiD XiE XiF XiH Xhm Xfn XiI XiJ Xdn List.contains_cons List.contains_nil Bool.or_false Bool.or_true IZ Bool.true_or
end Go.Sx
namespace Go.Sx
attribute [go_sem ↓] XkF Xij XkG Xik XmF Xil XkH Xim Xhd Xin XkI Xio Xff Xhe Xd6 Xd7 Xhj
attribute [go_sem] Xd8 Xhf Xhg Xhh Xhi Xip XkJ XkK Xfg Xiq Xfh Xfi Xfj Xd9 Xea XnN XnO XnP XmG XnQ XnR XnS XnT XnU XmH XkM XnV XkE XdZ XkL Xpj Xpk Xpl XnL XnM Xpm XnW XnX XnY XnZ XkN Xir XmI Xhk Ky XmN XmO XmP XmQ
attribute [go_sem] Xbb Xe3 Xc8 Xcg Vi Vj Xe4 Option.isSome_some Option.isSome_none Option.isNone_some Option.isNone_none
attribute [go_sem] undef JH callee opF ev ofV Xh1 okV XX JI Xh2 ivD ivO Xc6 KV elems ZP Xa9 Xba ZO D.cells D.one Value.oneCell' OO.isAgg Kb Xcf Xc9 snap ZG KU Vu Xa8 Y2 Zc lend Z6 pos Zu aft scal KY Vm imp KP Xck Xd5 Xhb Xfe shut VP Vn XkC YV Xc7 Xn
attribute [go_sem] WM Ub WV UO IJ List.getElem?_cons_succ List.getElem?_nil Ul Option.getD_none On Im Option.map_none U6 true_and and_true ne_eq false_implies WQ UM Wt Wr Uc Wv WD We Wa Wx WS if_true if_false ite_true ite_false Ie List.isEmpty_nil List.isEmpty_cons Bool.and_true Bool.and_false WN UC IE Uu Ih List.getD_cons_zero List.getD_cons_succ Un List.drop_succ_cons List.take_succ_cons List.take_zero List.head?_cons List.headD_cons List.all_cons List.all_nil List.set_cons_zero List.set_cons_succ UN Oq or_false or_true false_or not_false_eq_true not_true_eq_false Is Od implies_true forall_const decide_true decide_false and_self XmJ XmK XkO XkP XkQ XkR XkS XkT XmL XmM XkU XkV Xf7 Xf8 Xf9 Xga List.replicate_succ List.replicate_zero
end Go.Sx
namespace Go.Sx
variable {P:Program}
theorem Xk5 (n:Int):IntKind.wrap .i64 n=wI n:=rfl
theorem Xk6 (n:Int):IntKind.wrap .u64 n=wU n:=rfl
theorem Xk7 (n:Int):IntKind.wrap .u32 n=wW n:=rfl
section
variable {k k':IntKind} {a b:Int} {T:Nat} {p q:Bool} {xs ys:List D}
theorem XiK:YE P .add T (.v (.int k a)) (.v (.int k b))=some (True,.v (.int k (k.wrap (a+b)))):=by simp[YE,Jz]
theorem XiL:YE P .sub T (.v (.int k a)) (.v (.int k b))=some (True,.v (.int k (k.wrap (a-b)))):=by simp[YE,Jz]
theorem XiM:YE P .mul T (.v (.int k a)) (.v (.int k b))=some (True,.v (.int k (k.wrap (a*b)))):=by simp[YE,Jz]
theorem XiN:YE P .quo T (.v (.int k a)) (.v (.int k b))=some (b≠0,.v (.int k (k.wrap (a.tdiv b)))):=by simp[YE,Jz]
theorem XiO:YE P .rem T (.v (.int k a)) (.v (.int k b))=some (b≠0,.v (.int k (a.tmod b))):=by simp[YE,Jz]
theorem XiP:YE P .and T (.v (.int k a)) (.v (.int k b))=some (True,.v (.int k (Y0 k a b))):=by simp[YE,Jz,Y0]
theorem Xk8:YE P .or T (.v (.int k a)) (.v (.int k b))=some (True,.v (.int k (bOr k a b))):=by simp[YE,Jz,bOr]
theorem XiQ:YE P .xor T (.v (.int k a)) (.v (.int k b))=some (True,.v (.int k (XnF k a b))):=by simp[YE,Jz,XnF]
theorem Xee:YE P .andNot T (.v (.int k a)) (.v (.int k b))=some (True,.v (.int k (XaV k a b))):=by simp[YE,Jz,XaV]
theorem XiR:YE P .eql T (.v (.int k a)) (.v (.int k b))=some (True,.v (.bool (a==b))):=by simp[YE,Jz]
theorem XiS:YE P .neq T (.v (.int k a)) (.v (.int k b))=some (True,.v (.bool (a != b))):=by simp[YE,Jz]
theorem XiT:YE P .lss T (.v (.int k a)) (.v (.int k b))=some (True,.v (.bool (a<b))):=by simp[YE,Jz]
theorem XiU:YE P .leq T (.v (.int k a)) (.v (.int k b))=some (True,.v (.bool (a<=b))):=by simp[YE,Jz]
theorem XiV:YE P .gtr T (.v (.int k a)) (.v (.int k b))=some (True,.v (.bool (a>b))):=by simp[YE,Jz]
theorem XiW:YE P .geq T (.v (.int k a)) (.v (.int k b))=some (True,.v (.bool (a>=b))):=by simp[YE,Jz]
theorem XiX:YE P .shl T (.v (.int k a)) (.v (.int k' b))=some (0<=b,.v (.int k (Ka k a b))):=by simp[YE,Ka]
theorem XiY:YE P .shr T (.v (.int k a)) (.v (.int k' b))=some (0<=b,.v (.int k (YD k a b))):=by simp[YE,YD]
def isB:Option OO->Option (Prop×D)->Option (Prop×D)
 | some ⟨_,_,_,.bool⟩,x=>x
 | _,_=>none
theorem Xn2 {x y:Nat} {z:Value} {r:Option (Prop×D)}:isB (some ⟨x,y,z,.bool⟩) r=r:=rfl
theorem XiZ:YE P .eql T (.v (.bool p)) (.v (.bool q))=isB (Xt P T) (some (True,.v (.bool (p==q)))):=by
 simp only[YE];unfold isB;split<;>simp_all
theorem Xi0:YE P .neq T (.v (.bool p)) (.v (.bool q))=isB (Xt P T) (some (True,.v (.bool (!(p==q))))):=by
 simp only[YE];unfold isB;split<;>simp_all
def eqA (neg:Bool):Option (List (Option IntKind))->List D->List D->Option (Prop×D)
 | some ks,xs,ys=>(YV ks xs ys).map λ b=>(True,.v (.bool (bif neg then !b else b)))
 | none,_,_=>none
theorem Xi1 {neg:Bool} {ks:List (Option IntKind)}:eqA neg (some ks) xs ys=(YV ks xs ys).map λ b=>(True,.v (.bool (bif neg then !b else b))):=rfl
theorem Xi2:YE P .eql T (.agg xs) (.agg ys)=eqA false (Yp P T) xs ys:=by
 simp only[YE];cases Yp P T with
 | none=>rfl
 | some ks=>simp only[eqA];cases YV ks xs ys<;>rfl
theorem Xi3:YE P .neq T (.agg xs) (.agg ys)=eqA true (Yp P T) xs ys:=by
 simp only[YE];cases Yp P T with
 | none=>rfl
 | some ks=>simp only[eqA];cases YV ks xs ys<;>rfl
end
theorem Xhn {c:Prop} [Decidable c] {x y:Option (Prop×D×Up)} {dst:Option Nat} {m j:Nat} {f:Option Nat->D->Up->Nat->Nat->Prop} {t':Prf (if c then x else y)}:Xbk (if c then x else y) dst m j f t'=(if c then Xbk x dst m j f trivial else Xbk y dst m j f trivial):=by split<;>rfl
theorem Xk9 {c:Prop} [Decidable c] {x y:Option (Prop×D×Up)}:kd1 (if c then x else y)=(if c then kd1 x else kd1 y):=by split<;>rfl
theorem Xla {C:Cx} {e:En} {ver:Nat} {s:Heap} {c:Prop} [Decidable c] {x y:Option Kd} {st:St} {F:St->Prop} {t':Prf (if c then x else y)}:doT P C e ver s (if c then x else y) st F t'=(if c then doT P C e ver s x st F trivial else doT P C e ver s y st F trivial):=by split<;>rfl
theorem Xme {c a b:Prop} [Decidable c] (h1:c->a) (h2:¬ c->b):if c then a else b:=by split;exact h1 ‹_›;exact h2 ‹_›
def Eqs (e:D) (ls:List Ob) (d:D) (os:List Ob):Prop:=d=e/\os=ls
theorem Xm0 {e:D} {ls:List Ob}:∃ d os,Eqs e ls d os:=⟨_,_,rfl,rfl⟩
theorem Xl {a b:Prop} (h:a) (h':b):a/\b:=⟨h,h'⟩
theorem Xi4 {α:Type} {l:List α} {n:Nat} (h:l.length<=n):l.take n=l:=UZ h
theorem Xj {C:Cx} {R:St->Prop} {c:Code} {k:List It} {st:St} {α β:Type} {o:Option α} {f:α->Option β} {r:β} {I:(α->Prop)->Nat->St->Prop} (hr:bnd o f=some r) (m n:Nat)
 (h0:∀ ex,o=some ex->f ex=some r->I (λ y=>f y=some r) n st) (round:∀ n st,I (λ y=>f y=some r) n st->run P C R m (.code c::.stop (λ st'=>∃ n',n'<n/\I (λ y=>f y=some r) n' st')::k) st) (t':Prf c):LoopG P C R c k st t' :=
 Jx hr λ ex h1 h2=>LoopG.of (I (λ y=>f y=some r)) m n (h0 ex h1 h2) round t'
theorem Xdo {α:Type} {x:α} {l:List α} {n:Nat}:List.take (1+n) (x::l)=x::List.take n l:=by rw[Nat.add_comm];rfl
theorem CallG.ofE {G:Nat->Option (List D)} {f:FuncId} {args eargs:List D} {obs ls:List Ob} {e:D} {K:D->List Ob->Prop} (h:YF P G f eargs obs (Eqs e ls)) (hf:Zv args eargs) (hK:K e ls) (t':Prf args):CallG P G f args obs K t' :=
 CallG.of h hf (λ _ _ ⟨h1,h2⟩=>h1▸h2▸hK) t'
theorem CallD.ofE {G:Nat->Option (List D)} {f:FuncId} {args eargs:List D} {obs ls:List Ob} {e:D} {K:D->List Ob->Prop} (h:YF P G f eargs obs (Eqs e ls)) (hf:Zv args eargs) (hK:K e ls) (t':Prf args):CallD P G f args obs K t' :=
 CallD.of h hf Xm0 (λ _ _ ⟨h1,h2⟩=>h1▸h2▸hK) t'
theorem XG {d e:D} {obs ls:List Ob} (h:fitsR d e/\obs=ls):RetG d obs (Eqs e ls):=⟨_,h.1,rfl,h.2⟩
theorem Xm1 {a c:Nat} {b d:Ob}:(some (a,b)=some (c,d))=(a=c/\b=d):=by simp
theorem Xn3 {a b:D} {l m:List D}:(a::l=b::m)=(a=b/\l=m):=by simp
theorem Xm2 {a b:List D} {l m:List (List D)}:(a::l=b::m)=(a=b/\l=m):=by simp
theorem Xm3 {a b:Ob} {l m:List Ob}:(a::l=b::m)=(a=b/\l=m):=by simp
attribute [go_sem] fits Zv fitsR Kx Xn3 Xm2 Xm3 Xm1 D.osl.injEq D.ept.injEq Ob.arr.injEq exists_eq_left' exists_eq_left exists_eq exists_eq' exists_and_left exists_const or_self true_or or_true false_or or_false false_and and_false eq_self
attribute [go_sem] Xhn Xk9 Xla Xdo Nat.sub_zero Xi4 Xk5 Xk6 Xk7 XiK XiL XiM XiN XiO XiP Xk8 XiQ Xee XiR XiS XiT XiU XiV XiW XiX XiY XiZ Xi0 Xn2 Xi1 Xi2 Xi3 IV List.map_set List.map_take List.map_drop List.map_replicate
end Go.Sx
namespace Go.Sx
open Go.MapKept
variable {P:Program} {C:Cx}
theorem XaZ {R:AW} {Q:St->Prop} {k2:List It} (hQ:∀ st a w,Rel P C st a w->Q st->sem P C R k2 none a w):∀ (k1:List Code) (e:Option Nat) (a:Act) (w:World),sem P C R (k1.map It.code++[.stop Q]) e a w->sem P C R (k1.map It.code++k2) e a w
 | [],none,a,w,h=>by
  obtain ⟨st,hr,hq⟩:=h
  exact hQ st a w hr hq
 | [],some i,a,w,h=>h.elim
 | c::k1,none,a,w,h=>by
  refine wp_mono h ?_
  intro e a' w' hq
  cases e with
  | normal=>exact XaZ hQ k1 none a' w' hq
  | exit i=>exact XaZ hQ k1 (some i) a' w' hq
  | _=>exact hq
 | _::k1,some i,a,w,h=>XaZ hQ k1 (some i) a w h
def Xfo:Nat->Code->List Code
 | n+1,.seq x y=>x::Xfo n y
 | _,c=>[c]
theorem Jo {R:AW} {k:List It}:∀ (n:Nat) (c:Code) (e:Option Nat) (a:Act) (w:World),sem P C R ((Xfo n c).map It.code++k) e a w->sem P C R (.code c::k) e a w
 | 0,c,e,a,w,h=>by cases c<;>exact h
 | n+1,.seq x y,none,a,w,h=>by
  refine wp_seq (wp_mono h ?_)
  intro e a' w' hq
  cases e with
  | normal=>exact Jo n y none a' w' hq
  | exit i=>exact Jo n y (some i) a' w' hq
  | _=>exact hq
 | n+1,.seq x y,some i,a,w,h=>Jo n y (some i) a w h
 | n+1,.region _ _ _,e,a,w,h=>h
 | n+1,.skip,e,a,w,h=>h
 | n+1,.cond _ _ _,e,a,w,h=>h
 | n+1,.block _ _,e,a,w,h=>h
 | n+1,.loop _,e,a,w,h=>h
 | n+1,.rangeFunc ..,e,a,w,h=>h
 | n+1,.exit _,e,a,w,h=>h
 | n+1,.scope _,e,a,w,h=>h
 | n+1,.label _,e,a,w,h=>h
 | n+1,.goto _,e,a,w,h=>h
 | n+1,.ret,e,a,w,h=>h
 | n+1,.refuse _,e,a,w,h=>h
theorem Zo {ops:Array Oper} {Q:Exit->AW} {rest:List Oper} {o:Oper} {a:Act} {w w':World} {v:Value} (hg:o.guard=none) (h:(execOp a.eval o).run P w=.ok (.value v) w') (k:wpList P ops Q rest (a.put o.dst v) w'):wpList P ops Q (o::rest) a w:=by
 refine wpList_step λ K hK=>?_
 have hw:Region.wanted o (yielded ops a.tmps)=true:=by unfold Region.wanted;rw[hg]
 rw[Wn hw]
 unfold Oper.wp
 rw[h]
 exact hK _ _ k
theorem XL {a:Act} {x y:Nat} {v:Value} (h:x<a.tmps.size):(a.put (some x) v).tmps.getD y undef=if y=x then v else a.tmps.getD y undef:=by
 simp only[Act.put]
 by_cases hy:y=x
 ·subst hy;rw[Wn rfl];simp[h]
 ·rw[Wh hy];simp[Ne.symm hy]
theorem Xu {a:Act} {x:Option Nat} {v:Value}:(a.put x v).tmps.size=a.tmps.size:=by
 cases x<;>simp[Act.put]
theorem Yh {a:Act} {x:Option Nat} {v:Value}:(a.put x v).defers=a.defers:=by
 cases x<;>rfl
def Xmf (x0:Int) (l:List MapEntry) (x:Int):Prop :=
 (x=x0\/∃ e∈l,e.key=.int .i64 x)/\x<=x0/\∀ e∈l,∀ n,e.key=.int .i64 n->x<=n
def Xdp (w w':World):Prop:=(∀ k,k<w.heap.size->w'.heap[k]? = w.heap[k]?)/\w.heap.size<=w'.heap.size/\w'.os=w.os/\w'.tape=w.tape/\w'.output=w.output
theorem Rel.same {st:St} {a a':Act} {w w':World} (hr:Rel P C st a w) (hw:Xdp w w') (hd:a'.defers=[]) (hs:a'.tmps.size=a.tmps.size) {t':Nat->D}
 (ht:∀ M β,(∀ x,Rep P M β (st.t x) (a.tmps.getD x undef))->∀ x,Rep P M β (t' x) (a'.tmps.getD x undef)):Rel P C ⟨t',st.s,st.n,st.k⟩ a' w':=by
 obtain ⟨h1,h2,M,β,h0,h3,I⟩:=hr
 obtain ⟨g1,g2,g3,g4,g5⟩:=hw
 refine ⟨hd,hs.trans h2,M,β,h0,ht M β h3,?_⟩
 have hlt:∀ b o x,M b o=some x->b<w.heap.size:=λ b o x hx=>I.mem.lt hx
 constructor
 ·intro b o x hx
  have:=I.mem b o x hx
  refine ⟨?_,this.2⟩
  rw[← this.1]
  simp[World.cell?,g1 b (hlt b o x hx)]
 ·exact I.used
 ·intro id v ob hs
  obtain ⟨x,hx,ho⟩:=I.obs id v ob hs
  refine ⟨x,hx,ho.mono (MLe.refl _) (BLe.refl _) ?_ (λ _ _ _ _=>rfl)⟩
  rintro b cb rfl
  exact g1 b ho.lt
 ·exact I.own
 ·exact I.inj
 ·exact ⟨g3.trans I.keep.os,g4.trans I.keep.tape,g5.trans I.keep.output,Ic I.keep.size g2,λ k hk hl=>by rw[g1 k (I9 hk I.keep.size)];exact I.keep.block k hk hl⟩
 ·exact I.old
 ·exact I.le
 ·exact I.glob
theorem YJ (a:Act) (i:Nat):a.eval (.tmp i)=a.tmps.getD i undef:=rfl
theorem Xho {R:AW} {k:List It} {T K E:Nat} (hT:P.underlying T=some (.map K E)) {r0 r1 r2 r3 i0 i1 tm tf ti tr ta tb tc td te tg th tz:Nat} {x0 x1 x2 x3 x4 x5 x6 x7 x8 x9 x10:Nat} {p0 p1 p2 p3 p4 p5 p6 p7 p8 p9 p10:String} {f0 f1 f2 f3 f4 f5 f6 f7 f8 f9 f10:Array Edge} {tys:Array Nat}
 {a:Act} {w:World} {b:Nat} {n0:Int} {ents:Array MapEntry} {clock:Nat} (hd:a.defers=[]) (hsz:∀ t∈[tm,tf,ti,tr,ta,tb,tc,td,te,tg,th,tz],t<a.tmps.size)
 (hne:[tm,tf,tr,ta,tb,tc,td,te,tg,th,ti,tz].Nodup) (hm:a.tmps.getD tm undef=.map (some b)) (hf:a.tmps.getD tf undef=.int .i64 n0)
 (hb:w.heap[b]? = some (.map ents clock)) (hp:(ents.toList.map (·.born)).Pairwise (·<·)) (hc:∀ e∈ents.toList,e.born<clock) (hkey:∀ e∈ents.toList,∃ n,e.key=.int .i64 n)
 (fin:∀ a' w' x,a'.defers=[]->a'.tmps.size=a.tmps.size->a'.tmps.getD tm undef=.map (some b)->a'.tmps.getD tf undef=.int .i64 x->Xmf n0 ents.toList x->Xdp w w'->sem P C R k none a' w') :
 sem P C R (.code (.seq (.region r0 ⟨[⟨some ta,.move (.tmp tm),x0,p0,f0,none⟩,⟨some tr,.range T (.tmp ta),x1,p1,f1,none⟩]⟩ false)
  (.block i0 (.loop (.seq (.region r1 ⟨[⟨some tb,.next (.tmp tr) false,x2,p2,f2,none⟩,⟨some tc,.extract (.tmp tb) 0,x3,p3,f3,none⟩]⟩ false) (.seq (.cond (.tmp tc) .skip (.exit i0))
   (.block i1 (.seq (.region r2 ⟨[⟨some td,.entry (.tmp tr),x4,p4,f4,none⟩,⟨some te,.extract (.tmp td) 0,x5,p5,f5,none⟩,⟨some ti,.assign (.tmp te),x6,p6,f6,none⟩]⟩ false)
    (.region r3 ⟨[⟨some tg,.move (.tmp tf),x7,p7,f7,none⟩,⟨some th,.move (.tmp ti),x8,p8,f8,none⟩,⟨some tz,.call ⟨.builtin .min,#[.tmp tg,.tmp th],tys⟩,x9,p9,f9,none⟩,⟨some tf,.assign (.tmp tz),x10,p10,f10,none⟩]⟩ false))))))))
  :: k) none a w:=by
 simp only[UN,Oq,or_false,forall_eq_or_imp,forall_eq] at hsz
 obtain ⟨s1,s2,s3,s4,s5,s6,s7,s8,s9,s10,s11,s12⟩:=hsz
 simp only[Od,UN,Oq,or_false,not_or,Is,and_true,not_false_eq_true] at hne
 obtain ⟨⟨n1,n2,n3,n4,n5,n6,n7,n8,n9,n10,n11⟩,⟨n12,n13,n14,n15,n16,n17,n18,n19,n20,n21⟩,⟨n22,n23,n24,n25,n26,n27,n28,n29,n30⟩,⟨n31,n32,n33,n34,n35,n36,n37,n38⟩,⟨n39,n40,n41,n42,n43,n44,n45⟩,⟨n46,n47,n48,n49,n50,n51⟩,⟨n52,n53,n54,n55,n56⟩,⟨n57,n58,n59,n60⟩,⟨n61,n62,n63⟩,⟨n64,n65⟩,n66⟩:=hne
 refine wp_seq (wp_region_list ?_)
 have hmap:∀ w:World,w.heap[b]? = some (.map ents clock)->(Instr.range T (.map (some b))).run P w=.ok (.pointer (some ⟨w.heap.size,0,none⟩)) (w.alloc (.mapIter (some b) clock #[] clock)):=by
  intro w hb
  simp[Instr.range,run_underlying hT,Go.MapKept.run_getObj_map hb]
 refine Zo (v:=.map (some b)) (w':=w) rfl (by simp only[execOp,YJ,hm];rfl) ?_
 refine Zo (v:=.pointer (some ⟨w.heap.size,0,none⟩)) (w':=w.alloc (.mapIter (some b) clock #[] clock)) rfl (by
  simp only[execOp,YJ,XL s5,if_true]
  simp[hmap w hb]) ?_
 show Exit.then _ _ .normal _ _
 refine wp_block ?_
 have hblt:b<w.heap.size:=(UG.1 hb).1
 refine wp_loop_ghost (λ n a' w'=>∃ seen c x,n=(leftOf ents seen).size/\a'.defers=[]/\a'.tmps.size=a.tmps.size/\a'.tmps.getD tm undef=.map (some b)/\a'.tmps.getD tf undef=.int .i64 x /\
  a'.tmps.getD tr undef=.pointer (some ⟨w.heap.size,0,none⟩)/\w'.heap[w.heap.size]? = some (.mapIter (some b) clock seen c)/\clock<=c/\w.heap.size+1<=w'.heap.size/\Xdp w w' /\
  (x=n0\/∃ e∈ents.toList,e.key=.int .i64 x)/\x<=n0/\∀ e∈ents.toList,seen.contains e.born=true->∀ n,e.key=.int .i64 n->x<=n) _ ⟨#[],clock,n0,rfl,?_⟩ ?_
 ·obtain ⟨g1,g2⟩:=heap_alloc w (.mapIter (some b) clock #[] clock)
  refine ⟨by rw[Yh,Yh];exact hd,by rw[Xu,Xu],?_,?_,?_,g1,WQ _,by show _<=(w.heap.push _).size;simp,⟨g2,by show _<=(w.heap.push _).size;simp,rfl,rfl,rfl⟩,.inl rfl,Int.le_refl _,λ e he h=>by simp at h⟩
  ·rw[XL (by rw[Xu];exact s4),Wh n2,XL s5,Wh n3];exact hm
  ·rw[XL (by rw[Xu];exact s4),Wh n12,XL s5,Wh n13];exact hf
  ·rw[XL (by rw[Xu];exact s4),Wn rfl]
 ·rintro n a' w' ⟨seen,c,x,rfl,hd',hsz',hm',hf',hr',hit,hcc,hsz2,hsame,hx1,hx2,hx3⟩
  have hb':w'.heap[b]? = some (.map ents clock):=by rw[hsame.1 b hblt];exact hb
  have S:∀ {t},t<a.tmps.size->t<a'.tmps.size:=λ h=>by rw[hsz'];exact h
  refine wp_seq (wp_region_list ?_)
  rcases run_next_at (P:=P) w' x2 w.heap.size b clock c seen ents clock hit hb' hc hcc with ⟨h0,hnx⟩ | ⟨e,he,w1,hw1,hnx⟩
  ·
   refine Zo (v:=.tuple #[.bool false]) (w':=w') rfl (by simp only[execOp,YJ,hr'];simp[hnx]) ?_
   refine Zo (v:=.bool false) (w':=w') rfl (by simp only[execOp,YJ,XL (S s6),if_true];simp[Instr.extract]) ?_
   show Exit.then _ _ .normal _ _
   refine wp_seq (wp_cond_split (t:=false) (by rw[YJ,XL (by rw[Xu];exact S s7),Wn rfl]) (λ h=>by cases h) λ _=>wp_exit ?_)
   show Exit.inBlock i0 _ (.exit i0) _ _
   unfold Exit.inBlock
   simp only[if_true]
   refine fin _ _ x (by rw[Yh,Yh];exact hd') (by rw[Xu,Xu];exact hsz') ?_ ?_ ⟨hx1,hx2,λ e he n hn=>hx3 e he (all_seen ents seen h0 e he) n hn⟩ hsame
   ·rw[XL (by rw[Xu];exact S s7),Wh n5,XL (S s6),Wh n4];exact hm'
   ·rw[XL (by rw[Xu];exact S s7),Wh n15,XL (S s6),Wh n14];exact hf'
  ·
   obtain ⟨hee,hns⟩:=mem_left he
   obtain ⟨ke,hke⟩:=hkey e hee
   generalize hw2:Go.ChangeMaps.setBlock w1 w.heap.size (.mapIter (some b) clock (seen.push e.born) clock)=w2 at hnx
   have hw1h:w1.heap=w'.heap:=by rcases hw1 with rfl | rfl<;>rfl
   have hlt2:w.heap.size<w'.heap.size:=by omega
   have h2it:w2.heap[w.heap.size]? = some (.mapIter (some b) clock (seen.push e.born) clock):=by
    subst hw2;simp[Go.ChangeMaps.setBlock,hw1h,hlt2]
   have h2o:∀ j,j≠w.heap.size->w2.heap[j]? = w'.heap[j]?:=by
    intro j hj;subst hw2;simp[Go.ChangeMaps.setBlock,hw1h,Ne.symm hj]
   have h2s:w2.heap.size=w'.heap.size:=by subst hw2;simp[Go.ChangeMaps.setBlock,hw1h]
   have h2b:w2.heap[b]? = some (.map ents clock):=by rw[h2o b (by omega)];exact hb'
   have h2e:w2.os=w'.os/\w2.tape=w'.tape/\w2.output=w'.output:=by
    subst hw2;rcases hw1 with rfl | rfl<;>exact ⟨rfl,rfl,rfl⟩
   have hnod:(ents.toList.map (·.born)).Nodup:=by
    rw[Ia];exact hp.imp λ h=>Nat.ne_of_lt h
   have hent:=run_entry_at (P:=P) w2 w.heap.size b clock seen ents clock e h2it h2b hee hnod
   refine Zo (v:=.tuple #[.bool true,e.key,e.val]) (w':=w2) rfl (by simp only[execOp,YJ,hr'];simp[hnx]) ?_
   refine Zo (v:=.bool true) (w':=w2) rfl (by simp only[execOp,YJ,XL (S s6),if_true];simp[Instr.extract]) ?_
   show Exit.then _ _ .normal _ _
   generalize ha2:(a'.put (some tb) (.tuple #[.bool true,e.key,e.val])).put (some tc) (.bool true)=a2
   have G2:∀ t,a2.tmps.getD t undef=if t=tc then .bool true else if t=tb then .tuple #[.bool true,e.key,e.val] else a'.tmps.getD t undef:=by
    intro t;subst ha2;rw[XL (by rw[Xu];exact S s7),XL (S s6)]
   have Z2:a2.tmps.size=a.tmps.size:=by subst ha2;rw[Xu,Xu];exact hsz'
   have D2:a2.defers=[]:=by subst ha2;rw[Yh,Yh];exact hd'
   refine wp_seq (wp_cond_split (t:=true) (by rw[YJ,G2,Wn rfl]) (λ _=>wp_skip ?_) λ h=>by cases h)
   show Exit.then _ _ .normal _ _
   refine wp_block (wp_seq (wp_region_list ?_))
   have S2:∀ {t},t<a.tmps.size->t<a2.tmps.size:=λ h=>by rw[Z2];exact h
   refine Zo (v:=.tuple #[e.key,e.val]) (w':=w2) rfl (by simp only[execOp,YJ,G2,Wh n24,Wh n23,hr'];simp[hent]) ?_
   refine Zo (v:=.int .i64 ke) (w':=w2) rfl (by simp only[execOp,YJ,XL (S2 s8),if_true];simp[Instr.extract,hke]) ?_
   refine Zo (v:=.int .i64 ke) (w':=w2) rfl (by simp only[execOp,YJ];rw[XL (by rw[Xu];exact S2 s9),Wn rfl];rfl) ?_
   show Exit.then _ _ .normal _ _
   generalize ha3:((a2.put (some td) (.tuple #[e.key,e.val])).put (some te) (.int .i64 ke)).put (some ti) (.int .i64 ke)=a3
   have G3:∀ t,a3.tmps.getD t undef=if t=ti then .int .i64 ke else if t=te then .int .i64 ke else if t=td then .tuple #[e.key,e.val] else a2.tmps.getD t undef:=by
    intro t;subst ha3;rw[XL (by rw[Xu,Xu];exact S2 s3),XL (by rw[Xu];exact S2 s9),XL (S2 s8)]
   have Z3:a3.tmps.size=a.tmps.size:=by subst ha3;rw[Xu,Xu,Xu];exact Z2
   have D3:a3.defers=[]:=by subst ha3;rw[Yh,Yh,Yh];exact D2
   have S3:∀ {t},t<a.tmps.size->t<a3.tmps.size:=λ h=>by rw[Z3];exact h
   have f3:a3.tmps.getD tf undef=.int .i64 x:=by rw[G3,Wh n20,Wh n17,Wh n16,G2,Wh n15,Wh n14];exact hf'
   refine wp_region_list ?_
   refine Zo (v:=.int .i64 x) (w':=w2) rfl (by simp only[execOp,YJ,f3];rfl) ?_
   refine Zo (v:=.int .i64 ke) (w':=w2) rfl (by simp only[execOp,YJ,XL (S3 s10)];rw[Wh (Ne.symm n62),G3,Wn rfl];rfl) ?_
   refine Zo (v:=.int .i64 (if ke<x then ke else x)) (w':=w2) rfl (by
    have e1:((a3.put (some tg) (.int .i64 x)).put (some th) (.int .i64 ke)).eval (.tmp tg)=.int .i64 x:=by rw[YJ,XL (by rw[Xu];exact S3 s11),Wh n61,XL (S3 s10),Wn rfl]
    have e2:((a3.put (some tg) (.int .i64 x)).put (some th) (.int .i64 ke)).eval (.tmp th)=.int .i64 ke:=by rw[YJ,XL (by rw[Xu];exact S3 s11),Wn rfl]
    simp[execOp,resolve,invoke,builtin,e1,e2,Builtin.min_,Builtin.min2]) ?_
   refine Zo (v:=.int .i64 (if ke<x then ke else x)) (w':=w2) rfl (by simp only[execOp,YJ];rw[XL (by rw[Xu,Xu];exact S3 s12),Wn rfl];rfl) ?_
   show ∃ _,_
   refine ⟨_,left_shrinks ents seen e he,seen.push e.born,clock,if ke<x then ke else x,rfl,by rw[Yh,Yh,Yh,Yh];exact D3,by rw[Xu,Xu,Xu,Xu];exact Z3,?_,?_,?_,h2it,WQ _,by omega,?_,?_,?_,?_⟩
   ·rw[XL (by rw[Xu,Xu,Xu];exact S3 s2),Wh n1,XL (by rw[Xu,Xu];exact S3 s12),Wh n11,XL (by rw[Xu];exact S3 s11),Wh n9,XL (S3 s10),Wh n8,G3,Wh n10,Wh n7,Wh n6,G2,Wh n5,Wh n4];exact hm'
   ·rw[XL (by rw[Xu,Xu,Xu];exact S3 s2),Wn rfl]
   ·rw[XL (by rw[Xu,Xu,Xu];exact S3 s2),Wh (Ne.symm n12),XL (by rw[Xu,Xu];exact S3 s12),Wh n30,XL (by rw[Xu];exact S3 s11),Wh n28,XL (S3 s10),Wh n27,G3,Wh n29,Wh n26,Wh n25,G2,Wh n24,Wh n23];exact hr'
   ·obtain ⟨q1,q2,q3,q4,q5⟩:=hsame
    refine ⟨λ j hj=>?_,by omega,h2e.1.trans q3,h2e.2.1.trans q4,h2e.2.2.trans q5⟩
    rw[h2o j (by omega)];exact q1 j hj
   ·split
    ·exact .inr ⟨e,hee,hke⟩
    ·exact hx1
   ·split<;>omega
   ·intro e2 he2 hs2 n2 hn2
    simp only[Array.contains_push,Ig,beq_iff_eq] at hs2
    rcases hs2 with hs2 | hs2
    ·have:=hx3 e2 he2 hs2 n2 hn2
     split<;>omega
    ·have:e2=e:=by
      obtain ⟨i,hi,rfl⟩:=WX he2
      obtain ⟨j,hj,rfl⟩:=WX hee
      have hpn:=IF.1 hp
      rcases Nat.lt_trichotomy i j with h | h | h
      ·have:=hpn i j (by simpa using hi) (by simpa using hj) h;rw[Om,Om,hs2] at this;exact absurd this (IY _)
      ·subst h;rfl
      ·have:=hpn j i (by simpa using hj) (by simpa using hi) h;rw[Om,Om,hs2] at this;exact absurd this (IY _)
     subst this
     rw[hke] at hn2
     simp only[Value.int.injEq,true_and] at hn2
     subst hn2
     split<;>omega
end Go.Sx
namespace Go.Sx
open Go.RowKit Go.WideShapes Go.ChangeShapes
variable {P:Program}
def ZK (w:World):Mem:=λ b o=>match w.cell? ⟨b,o,none⟩ with
 | some x=>bif x.oneCell' then some x else none
 | none=>none
theorem Xhp (w:World):MemOK (ZK w) w:=by
 intro b o x h
 unfold ZK at h
 split at h
 ·rename_i y hy
  cases hone:y.oneCell'
  ·rw[hone] at h;cases h
  ·rw[hone] at h
   simp only[We,Wb] at h
   subst h
   exact ⟨hy,hone⟩
 ·cases h
theorem Xcv {w:World} {b o:Nat} {x:Value} (h:w.cell? ⟨b,o,none⟩=some x) (h1:x.oneCell'=true):ZK w b o=some x:=by
 unfold ZK;rw[h];simp[h1]
def ShF (sh:TypeId->List D->Prop):List TypeId->List D->Prop
 | [],ds=>ds=[]
 | f::fs,ds=>∃ a b,ds=a++b/\sh f a/\ShF sh fs b
def Sh (P:Program):Nat->TypeId->List D->Prop
 | 0,_,_=>False
 | m+1,t,ds=>match P.underlying t with
  | some .bool=>∃ b,ds=[.v (.bool b)]
  | some (.int k)=>∃ n,ds=[.v (.int k n)]/\k.min<=n/\n<=k.max
  | some (.slice e)=>∃ es,ds=[.isl e (P.cellsOf e) es]/\es.length<=Xn/\es.length*P.bytesOf e<=Xn/\∀ x∈es,Sh P m e x
  | some (.struct fs)=>ShF (Sh P m) (fs.toList.map (·.type)) ds
  | _=>False
def JL (P:Program):Nat->List Field->Option Nat
 | n,[]=>some n
 | n,f::fs=>if f.offset=n then JL P (n+P.cellsOf f.type) fs else none
def okS (P:Program):Nat->TypeId->Bool
 | 0,_=>false
 | m+1,t=>match P.underlying t with
  | some .bool=>true
  | some (.int _)=>true
  | some (.slice e)=>decide (0<P.cellsOf e)&&decide (0<P.bytesOf e)&&okS P m e
  | some (.struct fs)=>(JL P 0 fs.toList==some (P.cellsOf t))&&fs.toList.all λ f=>okS P m f.type
  | _=>false
theorem Xgb {sh:TypeId->List D->Prop} (h:∀ t ds,sh t ds->∀ d∈ds,d.one=true):∀ (fs:List TypeId) (ds:List D),ShF sh fs ds->∀ d∈ds,d.one=true
 | [],ds,hs,d,hd=>by simp only[ShF] at hs;subst hs;cases hd
 | f::fs,ds,hs,d,hd=>by
  simp only[ShF] at hs
  obtain ⟨a,b,rfl,h1,h2⟩:=hs
  rcases WH.1 hd with hd | hd
  ·exact h _ _ h1 d hd
  ·exact Xgb h fs b h2 d hd
theorem Xi5:∀ (m:Nat) (t:TypeId) (ds:List D),Sh P m t ds->∀ d∈ds,d.one=true
 | 0,_,_,h=>by simp[Sh] at h
 | m+1,t,ds,h=>by
  unfold Sh at h
  split at h
  ·obtain ⟨b,rfl⟩:=h;intro d hd;simp at hd;subst hd;rfl
  ·obtain ⟨n,rfl,_⟩:=h;intro d hd;simp at hd;subst hd;rfl
  ·obtain ⟨es,rfl,_⟩:=h;intro d hd;simp at hd;subst hd;rfl
  ·exact Xgb (Xi5 m) _ _ h
  ·exact h.elim
theorem Xcw {α β:Type} {g:α->Option β}:∀ {l:List α} {xs:List β},l.mapM g=some xs->xs.length=l.length/\∀ (i:Nat) y,l[i]? = some y->∃ x,g y=some x/\xs[i]? = some x
 | [],xs,h=>by simp at h;subst h;simp
 | y::l,xs,h=>by
  simp only[List.mapM_cons,Option.bind_eq_bind,Option.bind_eq_some_iff,Option.pure_def,Wb] at h
  obtain ⟨x,hx,xs',hxs,rfl⟩:=h
  obtain ⟨h1,h2⟩:=Xcw hxs
  refine ⟨by simp[h1],λ i z hz=>?_⟩
  cases i with
  | zero=>simp at hz;subst hz;exact ⟨x,hx,by simp⟩
  | succ i=>simpa using h2 i z (by simpa using hz)
theorem Xgc {α:Type} {p:Nat->α->Prop}:∀ (n:Nat),(∀ i,i<n->∃ x,p i x)->∃ l:List α,l.length=n/\∀ (i:Nat) x,l[i]? = some x->p i x
 | 0,_=>⟨[],rfl,λ i x h=>by simp at h⟩
 | n+1,h=>by
  obtain ⟨l,h1,h2⟩:=Xgc n λ i hi=>h i (by omega)
  obtain ⟨x,hx⟩:=h n (by omega)
  refine ⟨l++[x],by simp[h1],λ i y hy=>?_⟩
  rw[Il] at hy
  split at hy
  ·exact h2 i y hy
  ·rename_i hge
   have hi:i=n:=by
    rcases Uk n i with h' | h'
    ·rw[WK (by simp;omega)] at hy;cases hy
    ·omega
   subst hi
   simp[h1] at hy
   subst hy;exact hx
theorem Xfp {w:World} {base n:Nat} {a:Addr} {vs:List Value} (h:w.cells? base a n=some vs):vs.length=n/\∀ j,j<n->∃ x,w.cell? (a.add j)=some x/\vs[j]? = some x:=by
 unfold World.cells? at h
 split at h
 ·obtain ⟨h1,h2⟩:=Xcw h
  refine ⟨by simpa using h1,λ j hj=>h2 j j (by simp[hj])⟩
 ·cases h
theorem Xhq {w:World} {a:Addr} {x:Value} (h:w.cell? a=some x):a=⟨a.block,a.off,none⟩:=by
 obtain ⟨b,o,s⟩:=a
 cases s with
 | none=>rfl
 | some s =>
  unfold World.cell? at h
  simp only at h
  split at h
  ·simp at h
  ·cases h
variable {H:Type} {enc:TypeId×Value->H}
theorem Xm4 {k:IntKind} {n:Int} (h:(Lit.int k n).wf=true):k.min<=n/\n<=k.max:=by
 simpa [Lit.wf] using h
theorem Xbq {w:World} {base:Nat} {spare:Nat->Bool} {held:Bool}:∀ (m:Nat) (t:TypeId),okS P m t=true->∀ (fuel:Nat) (cs:List Value) (d:DataW H) (ps:List MemPlace),
 DataW.trod enc P w base spare held fuel t cs=some (d,ps)->(∀ x∈d.weights P t,x<=reachBytes)->∃ ds,Sh P m t ds/\RepL P (ZK w) Yg ds cs
 | 0,t,ho,_,_,_,_,_,_=>by simp[okS] at ho
 | m+1,t,ho,0,cs,d,ps,h,_=>by simp[DataW.trod] at h
 | m+1,t,ho,fuel+1,cs,d,ps,h,hw=>by
  unfold okS at ho
  split at ho
  ·
   rename_i hu
   obtain ⟨b,rfl,_⟩:=DataW.trod_bool hu h
   exact ⟨[.v (.bool b)],by simp[Sh,hu],by simp[RepL,Rep,wfV]⟩
  ·
   rename_i k hu
   obtain ⟨n,rfl,_,hn⟩:=DataW.trod_int hu h
   have hn:=Xm4 hn
   exact ⟨[.v (.int k n)],by simp only[Sh,hu];exact ⟨n,rfl,hn⟩,by simp[RepL,Rep,wfV,hn]⟩
  ·
   rename_i e hu
   simp only[WG,decide_eq_true_eq] at ho
   obtain ⟨⟨hz,hby⟩,ho⟩:=ho
   rcases DataW.trod_slice hu h with ⟨rfl,_⟩ | ⟨a,len,cap,elems,rest,n,hn,rfl,hd,hb,hlc,hcm,l1,l2,_,_⟩
   ·refine ⟨[.isl e (P.cellsOf e) []],by simp[Sh,hu],?_⟩
    simp only[RepL,Rep]
    exact ⟨_,_,rfl,⟨by simp,by simp,by simp,none,0,rfl,WQ _,.inl trivial⟩,rfl⟩
   ·obtain rfl:fuel=n:=by omega
    simp only[Wi] at hd
    obtain ⟨rfl,_⟩:=hd
    simp only[DataW.weights,hu,Wt,UN,WH,forall_eq_or_imp] at hw
    obtain ⟨hw1,hw2⟩:=hw
    have hbytes:len*P.bytesOf e<=reachBytes:=by
     refine Ic (Uh _ ?_) hw1
     omega
    have hreach:reachBytes<=Xn:=by decide
    have hlen47:len<=Xn:=Ic (Nat.le_mul_of_pos_right _ hby) (Ic hbytes hreach)
    have key:∀ i,i<len->∃ ds vs,Sh P m e ds/\RepL P (ZK w) Yg ds vs/\vs.length=P.cellsOf e/\∀ j,j<P.cellsOf e->∃ x,w.cell? ((a.add (i*P.cellsOf e)).add j)=some x/\vs[j]? = some x:=by
     intro i hi
     have hx:=l2 i hi
     rw[Wc (by omega)] at hx
     obtain ⟨vs,hvs,hx⟩:=Option.bind_eq_some_iff.1 hx
     obtain ⟨c1,c2⟩:=Xfp hvs
     have hwx:∀ y∈(elems[i]).1.weights P e,y<=reachBytes:=by
      intro y hy
      refine hw2 y (.inl ?_)
      have hmem:(elems[i]).1∈elems.map (·.1):=W8.2 ⟨_,W6 _,rfl⟩
      generalize elems.map (·.1)=L at hmem
      induction L with
      | nil=>cases hmem
      | cons z L ih =>
       simp only[DataW.weightsAll,WH]
       rcases UN.1 hmem with rfl | hmem
       ·exact .inl hy
       ·exact .inr (ih hmem)
     obtain ⟨ds,s1,s2⟩:=Xbq m e ho fuel vs _ _ hx hwx
     exact ⟨ds,vs,s1,s2,c1,c2⟩
    rcases Us len with rfl | hpos
    ·refine ⟨[.isl e (P.cellsOf e) []],by simp[Sh,hu],?_⟩
     simp only[RepL,Rep]
     exact ⟨_,_,rfl,⟨by simp,by simp,by simp,some a,cap,rfl,Ix _,.inl trivial⟩,rfl⟩
    ·have hplain:a=⟨a.block,a.off,none⟩:=by
      obtain ⟨_,_,_,_,_,c2⟩:=key 0 hpos
      obtain ⟨x,hx,_⟩:=c2 0 hz
      simp only[Nat.zero_mul,Addr.add,if_true] at hx
      exact Xhq hx
     obtain ⟨b,o,s⟩:=a
     simp only[Addr.mk.injEq,true_and] at hplain
     subst hplain
     obtain ⟨es,e1,e2⟩:=Xgc (α:=List D) (p:=λ i ds=>∃ vs,Sh P m e ds/\RepL P (ZK w) Yg ds vs/\vs.length=P.cellsOf e/\∀ j,j<P.cellsOf e->∃ x,w.cell? (((⟨b,o,none⟩:Addr).add (i*P.cellsOf e)).add j)=some x/\vs[j]? = some x) len (λ i hi=>by
      obtain ⟨ds,vs,h⟩:=key i hi;exact ⟨ds,vs,h⟩)
     have elen:∀ x∈es,x.length=P.cellsOf e:=by
      intro x hx
      obtain ⟨i,hi,rfl⟩:=WX hx
      obtain ⟨vs,_,h2,h3,_⟩:=e2 i es[i] (by simp)
      rw[← h2.length,h3]
     refine ⟨[.isl e (P.cellsOf e) es],?_,?_⟩
     ·simp only[Sh,hu]
      refine ⟨es,rfl,by omega,by rw[e1];omega,λ x hx=>?_⟩
      obtain ⟨i,hi,rfl⟩:=WX hx
      exact (e2 i es[i] (by simp)).choose_spec.1
     ·simp only[RepL,Rep]
      refine ⟨_,_,rfl,⟨elen,by omega,by rw[e1];omega,some ⟨b,o,none⟩,cap,by rw[e1],by omega,.inr ⟨b,o,rfl,?_⟩⟩,rfl⟩
      refine RepE.of (z:=P.cellsOf e) elen λ i x hx=>?_
      obtain ⟨vs,h1,h2,h3,h4⟩:=e2 i x hx
      refine RepC.of λ j dd hdd=>?_
      obtain ⟨y,hy,hr⟩:=h2.get j dd hdd
      have hj:j<P.cellsOf e:=by
       rcases Uk j vs.length with h' | h'
       ·omega
       ·rw[WK h'] at hy;cases hy
      obtain ⟨y',hy1,hy2⟩:=h4 j hj
      rw[hy] at hy2
      obtain rfl:y=y':=by simpa using hy2
      refine ⟨y,Xcv ?_ (Xbd (Xi5 m e x h1 dd (WU hdd)) hr).1,hr⟩
      rw[Ik,Ik] at hy1
      exact hy1
  ·
   rename_i fs hu
   simp only[WG,beq_iff_eq,Ur] at ho
   obtain ⟨hcon,hall⟩:=ho
   obtain ⟨xs,n,hn,hd,hlen,hxl,hxs⟩:=DataW.trod_struct hu h
   obtain rfl:fuel=n:=by omega
   simp only[Wi] at hd
   obtain ⟨rfl,_⟩:=hd
   have hw':∀ x∈DataW.weightsEach P (fs.toList.map (·.type)) (xs.map (·.1)),x<=reachBytes:=by
    simpa only[DataW.weights,hu] using hw
   have mono:∀ (l:List Field) n k,JL P n l=some k->n<=k:=by
    intro l
    induction l with
    | nil=>intro n k h;simp only[JL,Wb] at h;omega
    | cons g l ih =>
     intro n k h
     simp only[JL] at h
     split at h
     ·have:=ih _ _ h;omega
     ·cases h
   have main:∀ (l:List Field) (off:Nat) (xs:List (DataW H×List MemPlace)),JL P off l=some (P.cellsOf t)->(∀ f∈l,okS P m f.type=true)->xs.length=l.length ->
    (∀ (i:Nat) (f:Field),l[i]? = some f->DataW.trod enc P w base spare held fuel f.type ((cs.drop f.offset).take (P.cellsOf f.type))=xs[i]?)->(∀ x∈DataW.weightsEach P (l.map (·.type)) (xs.map (·.1)),x<=reachBytes) ->
    ∃ ds,ShF (Sh P m) (l.map (·.type)) ds/\RepL P (ZK w) Yg ds (cs.drop off):=by
    intro l
    induction l with
    | nil =>
     intro off xs hc _ _ _ _
     simp only[JL,Wb] at hc
     refine ⟨[],rfl,?_⟩
     rw[WZ (by omega)]
     simp[RepL]
    | cons f l ih =>
     intro off xs hc hok hxl hx hwt
     simp only[JL] at hc
     split at hc
     ·rename_i hoff
      match xs,hxl with
      | x::xs',hxl =>
       simp only[WV,DataW.weightsEach,WH] at hwt
       have hle2:=mono _ _ _ hc
       have hx1:=hx 0 f (by simp)
       simp only[IJ] at hx1
       obtain ⟨ds1,s1,r1⟩:=Xbq m f.type (hok f (by simp)) fuel _ x.1 x.2 hx1 (λ y hy=>hwt y (.inl hy))
       obtain ⟨ds2,s2,r2⟩:=ih (off+P.cellsOf f.type) xs' hc (λ g hg=>hok g (Ud _ hg)) (by simpa using hxl) (λ i g hg=>by simpa using hx (i+1) g (by simpa using hg)) (λ y hy=>hwt y (.inr hy))
       refine ⟨ds1++ds2,⟨ds1,ds2,rfl,s1,s2⟩,?_⟩
       have hsp:cs.drop off=(cs.drop f.offset).take (P.cellsOf f.type)++cs.drop (off+P.cellsOf f.type):=by
        rw[hoff,← List.drop_drop,List.take_append_drop]
       rw[hsp]
       exact r1.append r2
     ·cases hc
   obtain ⟨ds,s,r⟩:=main fs.toList 0 xs hcon hall (by simpa using hxl) (λ i f hf=>hxs i f (by simpa using hf)) hw'
   exact ⟨ds,by simp only[Sh,hu];exact s,by simpa using r⟩
  ·cases ho
end Go.Sx
namespace Go.Sx
open Go.RowKit Go.WideShapes Go.ChangeShapes
variable {P:Program}
theorem Xi6:Jm []=Yg:=by
 funext i v
 simp[Jm,Yg]
theorem XnD {G:Nat->Option (List D)} {f:FuncId} {args:List D} (hA:YF P G f args [] (Eqs (.v (.bool true)) [])) {W:World} {vs:List Value} (hG:∀ g cs,G g=some cs->RepC P (ZK W) cs g 0)
 (hargs:RepL P (ZK W) Yg args vs):Calls P f ⟨vs⟩ W λ e W'=>e=.returned (.bool true)/\Below W.heap.size W W':=by
 refine (hA.2 (ZK W) W vs [] (Xhp W) hG rfl Is (λ k ob x h=>by simp at h) (by rw[Xi6];exact hargs)).mono ?_
 rintro e W' ⟨v,r,ls,M',l,rfl,⟨rfl,rfl⟩,hK,_,_,_,_,hfr,_⟩
 simp only[FrRep,Rep] at hfr
 obtain ⟨_,rfl,_⟩:=hfr
 exact ⟨rfl,hK.os,hK.tape,hK.output,hK.size,λ k hk=>hK.block k hk (by simp)⟩
section
variable {H:Type} {enc:TypeId×Value->H}
theorem Xcl {f:Func} {s:ChangeSpec} {apart fresh handsOn again:Bool} {W W':World} {args:Array Value} {v:Value} {ds gs:List (DataW H)} {before pa pv:List MemPlace}
 (hW:DataW.Whole enc P f.params.toList s.vars apart W args.toList ds gs before)
 (hres:∀ (b:Nat) (sp:Nat->Bool) (hd:Bool),DataW.TrodAll enc P W' b sp hd f.resultTypes.toList (v.resultList f.resultTypes.size) (s.fn H (ds++gs)).results [])
 (hargs:∀ sp:Nat->Bool,(∀ p∈before,sp p.block=true)->DataW.TrodAll enc P W' 0 sp true f.params.toList args.toList (s.fn H (ds++gs)).args pa)
 (hvars:∀ sp:Nat->Bool,(∀ p∈before,sp p.block=true)->DataW.TrodVars enc P W' sp s.vars (s.fn H (ds++gs)).vars pv)
 (hps:before=pa++pv) (hb:Below W.heap.size W W')
 (hok:∀ (j:Nat) (t:TypeId) (r:Value),f.resultTypes[j]? = some t->(v.resultList f.resultTypes.size)[j]? = some r->Value.okWide P W' .any 0 t r) :
 s.post enc P f apart fresh handsOn again W args v W':=by
 have hlt:∀ p∈before,p.block<W.heap.size:=λ p hp=>hW.lt p hp
 have hold:∀ p∈before,(λ b=>decide (b<W.heap.size)) p.block=true:=λ p hp=>by simpa using hlt p hp
 refine ⟨ds,gs,before,[],pa,pv,hW,hres _ _ _,hargs _ hold,hvars _ hold,World.keptBut_mono (λ p hp=>⟨hp,?_⟩) (hb.frame (·∈before)),λ _=>?_⟩
 ·rw[hps,WH] at hp
  exact Or.inr hp
 ·obtain ⟨_,_,_,_,_,hz,hn⟩:=hW
  refine ⟨hok,_,_,([]++pa)++pv,⟨[]++pa,pv,trodAll_append (hargs _ (λ _ _=>rfl)) (hres _ _ _),hvars _ (λ _ _=>rfl),rfl,?_,?_⟩,?_⟩
  ·intro b off hp
   have hin:MemPlace.cell b off∈before:=by rw[hps];simpa using hp
   rw[hb.frozen (hlt _ hin)]
   exact hz b off hin
  ·intro ha
   have:=hn ha
   rw[hps] at this
   simpa using this
  ·intro p hp _
   rw[hps]
   simpa using hp
theorem Vo {W W':World} (hl:laidOutB P=true) {sp:Nat->Bool} (hb:Below W.heap.size W W'):∀ {ts:List TypeId} {vs:List Value} {ds:List (DataW H)} {ps:List MemPlace},(∀ t∈ts,P.readableRec t=true/\t<P.types.size) ->
 DataW.TrodAll enc P W 0 (λ _=>true) true ts vs ds ps->(∀ x∈ps,x.block<W.heap.size)->(∀ x∈ps,sp x.block=true)->DataW.TrodAll enc P W' 0 sp true ts vs ds ps
 | [],[],[],ps,_,h,_,_=>h
 | [],[],_::_,_,_,h,_,_=>h.elim
 | [],_::_,_,_,_,h,_,_=>h.elim
 | _::_,[],_,_,_,h,_,_=>h.elim
 | _::_,_::_,[],_,_,h,_,_=>h.elim
 | t::ts,v::vs,d::ds,ps,hr,h,hlt,hsp=>by
  obtain ⟨p,q,h1,h2,rfl⟩:=h
  obtain ⟨r1,r2⟩:=hr t (by simp)
  exact ⟨p,q,WideElems.Trod_stays hl r1 r2 h1 (λ x hx=>hb.same (hlt x (Uf _ hx))) (λ x hx=>hsp x (Uf _ hx)),
   Vo hl hb (λ t ht=>hr t (Ud _ ht)) h2 (λ x hx=>hlt x (Uj _ hx)) (λ x hx=>hsp x (Uj _ hx)),rfl⟩
theorem Xn4 {fn:Func} {s:ChangeSpec} {apart fresh handsOn again:Bool} {W W':World} {args:Array Value} {ds gs:List (DataW H)} {before:List MemPlace} {tb:TypeId} (hv:s.vars=[]) (hres:fn.resultTypes=#[tb])
 (htb:P.underlying tb=some .bool) (hl:laidOutB P=true) (hr:∀ t∈fn.params.toList,P.readableRec t=true/\t<P.types.size)
 (hW:DataW.Whole enc P fn.params.toList s.vars apart W args.toList ds gs before) (hfn:s.fn H (ds++gs)={ results:=[.lit (.bool true)],args:=ds }) (hB:Below W.heap.size W W') :
 s.post enc P fn apart fresh handsOn again W args (.bool true) W':=by
 have hW2:=hW
 obtain ⟨p,q,h1,h2,rfl,hz,hn⟩:=hW
 rw[hv] at h2
 match gs,h2 with
 | [],h2 =>
  simp only[DataW.TrodVars] at h2
  subst h2
  have hlt:∀ x∈p++[],x.block<W.heap.size:=λ x hx=>hW2.lt x hx
  refine Xcl (pa:=p) (pv:=[]) hW2 ?_ (λ sp hsp=>?_) (λ sp _=>?_) rfl hB ?_
  ·intro b sp hd
   rw[hres,hfn]
   exact trodAll_mk1 (shut_bool htb _)
  ·rw[hfn]
   exact Vo hl hB hr h1 (λ x hx=>hlt x (by simpa using hx)) (λ x hx=>hsp x (by simpa using hx))
  ·rw[hv,hfn];rfl
  ·exact ok_one hres rfl (okWide_bool_mk htb _)
end
theorem Xef {H:Type} {enc:TypeId×Value->H} {W:World}:∀ {ts:List TypeId} {vs:List Value} {ds:List (DataW H)} {ps:List MemPlace},DataW.TrodAll enc P W 0 (λ _=>true) true ts vs ds ps->ds.length=ts.length
 | [],[],[],ps,_=>rfl
 | [],[],_::_,_,h=>h.elim
 | [],_::_,_,_,h=>h.elim
 | _::_,[],_,_,h=>h.elim
 | _::_,_::_,[],_,h=>h.elim
 | t::ts,v::vs,d::ds,ps,h=>by
  obtain ⟨p,q,_,h2,_⟩:=h
  simp[Xef h2]
theorem Xm5 {M:Mem} {W:World} {base:Nat} {t:TypeId} {a b:Nat} {z:Value} {fs:List (Nat×Nat×Nat)} (ht:Xt P t=some ⟨a,b,z,.struct fs⟩) {v:Value} (hv:Value.okWide P W .any base t v) {ds:List D} (h:RepL P M Yg ds v.cells.toList):Rep P M Yg (.agg ds) v:=by
 obtain ⟨fields,hu,_⟩:=ZQ ht
 obtain ⟨cs,rfl,_⟩:=okWide_struct hu hv
 simp only[Rep]
 exact ⟨cs.toList,rfl,by simpa [Value.cells] using h⟩
theorem Xi7 {M:Mem} {v:Value} (hv:v.cells=#[v]) {d:D} (h:RepL P M Yg [d] v.cells.toList):Rep P M Yg d v:=by
 rw[hv] at h
 simp only[RepL] at h
 obtain ⟨x,xs,e,hr,_⟩:=h
 simp only[OA] at e
 rw[e.1];exact hr
theorem XnE {M:Mem} {W:World} {base:Nat} {t:TypeId} {a b e s:Nat} {z:Value} (ht:Xt P t=some ⟨a,b,z,.slice e s⟩) {v:Value} (hv:Value.okWide P W .any base t v) {d:D} (h:RepL P M Yg [d] v.cells.toList):Rep P M Yg d v:=by
 obtain ⟨_,_,_,rfl⟩:=okWide_slice (X7 ht).1 hv
 exact Xi7 rfl h
theorem Xo7 {M:Mem} {W:World} {base:Nat} {t:TypeId} {a b:Nat} {k:IntKind} {z:Value} (ht:Xt P t=some ⟨a,b,z,.int k⟩) {v:Value} (hv:Value.okWide P W .any base t v) {d:D} (h:RepL P M Yg [d] v.cells.toList):Rep P M Yg d v:=by
 obtain ⟨_,rfl⟩:=okWide_int (J1 ht) hv
 exact Xi7 rfl h
theorem Xhr {H:Type} {enc:TypeId×Value->H} {W:World} (m:Nat):∀ {ts:List TypeId} {vs:List Value} {ds:List (DataW H)} {ps:List MemPlace},(∀ t∈ts,okS P m t=true)->DataW.TrodAll enc P W 0 (λ _=>true) true ts vs ds ps ->
 (∀ x∈DataW.weightsEach P ts ds,x<=reachBytes)->∃ dss:List (List D),dss.length=ts.length/\vs.length=ts.length/\∀ (i:Nat) t,ts[i]? = some t->∃ ds v,dss[i]? = some ds/\vs[i]? = some v/\Sh P m t ds/\RepL P (ZK W) Yg ds v.cells.toList
 | [],[],[],ps,_,h,_=>⟨[],rfl,rfl,λ i t h=>by simp at h⟩
 | [],[],_::_,_,_,h,_=>h.elim
 | [],_::_,_,_,_,h,_=>h.elim
 | _::_,[],_,_,_,h,_=>h.elim
 | _::_,_::_,[],_,_,h,_=>h.elim
 | t::ts,v::vs,d::ds,ps,ho,h,hw=>by
  obtain ⟨p,q,⟨fuel,h1⟩,h2,rfl⟩:=h
  simp only[DataW.weightsEach,WH] at hw
  obtain ⟨dd,s1,r1⟩:=Xbq m t (ho t (by simp)) fuel _ d p h1 (λ x hx=>hw x (.inl hx))
  obtain ⟨dss,g1,g2,g3⟩:=Xhr m (λ t ht=>ho t (Ud _ ht)) h2 (λ x hx=>hw x (.inr hx))
  refine ⟨dd::dss,by simp[g1],by simp[g2],λ i u hu=>?_⟩
  cases i with
  | zero=>simp at hu;subst hu;exact ⟨dd,v,by simp,by simp,s1,r1⟩
  | succ i=>simpa using g3 i u (by simpa using hu)
end Go.Sx
namespace Go.Sx
variable {P:Program}
section
variable {C:Cx} {s:Heap} {U:Nat->Prop} {M:Mem} {β:Loc} {w:World}
theorem Iw.wide (I:Iw P C s U M β w) {id v E z:Nat} {es:List (List D)} (hs:s id=some (v,.arr false E z es 0)) (hne:es≠[]):Iw P C (upd s id (some (v,.arr true E z es 0))) U M β w:=by
 have hsv:∀ i v' ob,upd s id (some (v,.arr true E z es 0)) i=some (v',ob)->∃ ob0,s i=some (v',ob0)/\(ob=ob0\/(ob0=.arr false E z es 0/\ob=.arr true E z es 0)):=by
  intro i v' ob h
  by_cases hi:i=id
  ·subst hi
   rw[Yu] at h
   simp only[Wb,Wi] at h
   obtain ⟨rfl,rfl⟩:=h
   exact ⟨_,hs,.inr ⟨rfl,rfl⟩⟩
  ·rw[X5 _ _ _ _ hi] at h
   exact ⟨ob,h,.inl rfl⟩
 constructor
 ·exact I.mem
 ·exact I.used
 ·intro i v' ob h
  obtain ⟨ob0,h0,hc⟩:=hsv i v' ob h
  obtain ⟨x,hx,hr⟩:=I.obs i v' ob0 h0
  refine ⟨x,hx,?_⟩
  rcases hc with rfl | ⟨rfl,rfl⟩
  ·exact hr
  ·cases x with
   | none=>simp only[ObRep] at hr;exact absurd hr.2.1 hne
   | some bc =>
    obtain ⟨b,cb⟩:=bc
    simp only[ObRep] at hr ⊢
    obtain ⟨cs,T,k1,k2,k3,k4,k5,k6,k7,k8,k9,k10⟩:=hr
    refine ⟨cs,T,k1,k2,k3,k4,k5,k6,k7,k8,k9,λ i d hd=>?_⟩
    obtain ⟨y,hy,hr⟩:=k10 i d hd
    exact ⟨y,hy,hr.mono (MLe.refl _) (BLe.zero _)⟩
 ·intro i v' ob b cb h hb
  obtain ⟨ob0,h0,hc⟩:=hsv i v' ob h
  rcases I.own i v' ob0 b cb h0 hb with h1 | h1
  ·exact .inl h1
  ·rcases hc with rfl | ⟨rfl,rfl⟩
   ·exact .inr h1
   ·simp[Ob.bx] at h1
 ·intro i v' ob i' v2 ob' b cb cb' h h' hb hb'
  obtain ⟨ob0,h0,_⟩:=hsv i v' ob h
  obtain ⟨ob1,h1,_⟩:=hsv i' v2 ob' h'
  exact I.inj i v' ob0 i' v2 ob1 b cb cb' h0 h1 hb hb'
 ·exact I.keep
 ·exact I.old
 ·exact I.le
 ·exact I.glob
def XaJ:D->Bool
 | .v _=>true
 | .isl _ _ _=>true
 | .nsl=>true
 | _=>false
theorem Xeg {d:D} (h:XaJ d=true) {y:Value} (hr:Rep P M β d y):Rep P M Yg d y:=by
 cases d<;>simp only[XaJ,Ie] at h<;>simpa only[Rep] using hr
theorem Iw.narrow (I:Iw P C s U M β w) (hlb:C.lb=[]) {id v E z idF vF E' z' fz:Nat} {es fs:List (List D)} (hs:s id=some (v,.arr true E z es 0)) (hF:s idF=some (vF,.arr false E' z' fs fz)) (es2:List (List D))
 (hl:es2.length=es.length) (hz:∀ e∈es2,e.length=z)
 (hd:∀ (j c:Nat) (e2:List D) (d2:D),es2[j]? = some e2->e2[c]? = some d2->∃ e d,es[j]? = some e/\e[c]? = some d/\((d2=d/\XaJ d=true)\/(d=.osl idF vF z' 0 fs.length/\d2=.isl E' z' fs))) :
 ∃ M',Iw P C (upd (upd s idF (some (vF,.arr false E' z' fs fs.length))) id (some (v,.arr false E z es2 0))) U M' β w/\MLe M M':=by
 have hne:id≠idF:=by rintro rfl;rw[hs] at hF;simp at hF
 obtain ⟨M',I',hM,hFz⟩:=I.freeze [idF]
 have hfz:upd s idF (some (vF,.arr false E' z' fs fs.length))=frz s [idF]:=by
  funext i
  unfold frz upd
  by_cases hi:i=idF
  ·subst hi;simp[hF,Xa8]
  ·simp[hi]
 rw[hfz]
 have hs':frz s [idF] id=some (v,.arr true E z es 0):=by unfold frz;simp[hne,hs]
 refine ⟨M',?_,hM⟩
 have hsv:∀ i v' ob,upd (frz s [idF]) id (some (v,.arr false E z es2 0)) i=some (v',ob)->∃ ob0,frz s [idF] i=some (v',ob0)/\(ob=ob0\/(ob0=.arr true E z es 0/\ob=.arr false E z es2 0)):=by
  intro i v' ob h
  by_cases hi:i=id
  ·subst hi
   rw[Yu] at h
   simp only[Wb,Wi] at h
   obtain ⟨rfl,rfl⟩:=h
   exact ⟨_,hs',.inr ⟨rfl,rfl⟩⟩
  ·rw[X5 _ _ _ _ hi] at h
   exact ⟨ob,h,.inl rfl⟩
 constructor
 ·exact I'.mem
 ·exact I'.used
 ·intro i v' ob h
  obtain ⟨ob0,h0,hc⟩:=hsv i v' ob h
  obtain ⟨x,hx,hr⟩:=I'.obs i v' ob0 h0
  refine ⟨x,hx,?_⟩
  rcases hc with rfl | ⟨rfl,rfl⟩
  ·exact hr
  ·cases x with
   | none=>simp[ObRep] at hr
   | some bc =>
    obtain ⟨b,cb⟩:=bc
    simp only[ObRep] at hr ⊢
    obtain ⟨cs,T,k1,k2,k3,k4,k5,k6,k7,k8,k9,k10⟩:=hr
    refine ⟨cs,T,k1,k2,hz,by omega,by omega,by rw[hl];exact k6,by omega,k8,k9,λ i d hd2=>?_⟩
    rw[YA hz i] at hd2
    have hj:i / z<es2.length:=by
     rcases Uk (i / z) es2.length with h' | h'
     ·exact h'
     ·rw[Wk,WK h'] at hd2;simp at hd2
    rw[Wk,Wc hj,Ul] at hd2
    obtain ⟨e,d0,g1,g2,hc⟩:=hd _ _ _ _ (Wc hj) hd2
    have g3:es.flatten[i]? = some d0:=by rw[YA k3 i,Wk,g1,Ul];exact g2
    obtain ⟨y,hy,hr⟩:=k10 i d0 g3
    refine ⟨y,hy,?_⟩
    rcases hc with ⟨rfl,hp⟩ | ⟨rfl,rfl⟩
    ·exact Xeg hp hr
    ·have hr2:Rep P M β (.osl idF vF z' 0 fs.length) y:=by simp only[Rep,XaT,if_true] at hr ⊢;exact hr
     have:=snap_rep (d:=.osl idF vF z' 0 fs.length) (d':=.isl E' z' ((fs.drop 0).take fs.length)) (c:=0+fs.length<=fs.length) (l:=[idF]) I hM (by simp[snap,hF]) (by omega) hFz hr2
     rw[Un,List.take_length] at this
     exact this
 ·intro i v' ob b cb h hb
  obtain ⟨ob0,h0,hc⟩:=hsv i v' ob h
  rcases I'.own i v' ob0 b cb h0 hb with h1 | h1
  ·exact .inl h1
  ·rw[hlb] at h1;exact absurd h1.1 (by simp)
 ·intro i v' ob i' v2 ob' b cb cb' h h' hb hb'
  obtain ⟨ob0,h0,_⟩:=hsv i v' ob h
  obtain ⟨ob1,h1,_⟩:=hsv i' v2 ob' h'
  exact I'.inj i v' ob0 i' v2 ob1 b cb cb' h0 h1 hb hb'
 ·exact I'.keep
 ·exact I'.old
 ·exact I'.le
 ·exact I'.glob
end
theorem LoopG.v {C:Cx} {R:St->Prop} {c:Code} {k:List It} {st:St} {id v:Nat} (_:(st.s id).map (·.1)=some v) (h:∀ w,w=v->LoopG P C R c k st trivial) (t:Prf c):LoopG P C R c k st t:=h v rfl
theorem LoopG.wide {C:Cx} {R:St->Prop} {c:Code} {k:List It} {st:St} {id v E z:Nat} {es:List (List D)} (hs:st.s id=some (v,.arr false E z es 0)) (hne:es≠[])
 (h:LoopG P C R c k (nxS st none .any (upd st.s id (some (v,.arr true E z es 0))) st.n st.k) trivial) (t:Prf c):LoopG P C R c k st t:=by
 intro a w hr
 obtain ⟨h1,h2,M,β,h0,h3,I⟩:=hr
 exact h a w ⟨h1,h2,M,β,h0,h3,I.wide hs hne⟩
def Gh (P:Program) (C:Cx) (Q:St->Prop) (st:St):Prop:=∃ st',(∀ a w,Rel P C st a w->Rel P C st' a w)/\Q st'
theorem Gh.no {C:Cx} {Q:St->Prop} {st:St} (h:Q st):Gh P C Q st:=⟨st,λ _ _ h=>h,h⟩
theorem Gh.narrow {C:Cx} {Q:St->Prop} {st:St} (hlb:C.lb=[]) {id v E z idF vF E' z' fz:Nat} {es fs:List (List D)} (hs:st.s id=some (v,.arr true E z es 0)) (hF:st.s idF=some (vF,.arr false E' z' fs fz)) (es2:List (List D))
 (hl:es2.length=es.length) (hz:∀ e∈es2,e.length=z)
 (hd:∀ (j c:Nat) (e2:List D) (d2:D),es2[j]? = some e2->e2[c]? = some d2->∃ e d,es[j]? = some e/\e[c]? = some d/\((d2=d/\XaJ d=true)\/(d=.osl idF vF z' 0 fs.length/\d2=.isl E' z' fs)))
 (h:Q (nxS st none .any (upd (upd st.s idF (some (vF,.arr false E' z' fs fs.length))) id (some (v,.arr false E z es2 0))) st.n st.k)):Gh P C Q st:=by
 refine ⟨_,λ a w hr=>?_,h⟩
 obtain ⟨h1,h2,M,β,h0,h3,I⟩:=hr
 obtain ⟨M',I',hM⟩:=I.narrow hlb hs hF es2 hl hz hd
 exact ⟨h1,h2,M',β,h0,λ x=>(h3 x).mono hM (BLe.refl _),I'⟩
theorem Xdq {G:Nat->Option (List D)} {f:FuncId} {fn:Func} {body:Code} {rs:List ResultVar} {args:List D} {R':D->List Ob->Prop} (m:Nat) (fr:List Nat) (nt:Nat)
 (hf:P.funcs[f]? = some fn) (hb:fn.body=some body) (hn:(fn.name== "runtime.NumGoroutine")=false) (hrs:fn.results=⟨rs⟩) (hnt:fn.ntmps=nt) (hargs:args.length<=nt)
 (h:∀ (C:Cx) x,C.G=G->C.lb=[]->WfL P args->run P (C.sub 0 x) (Gh P (C.sub 0 x) (Xck P rs fr 0 R')) m [.code body] (st0 args [] nt)):YF P G f args [] R' :=
 KQ fr nt hf hb hn hrs hnt hargs λ C x hG hlb hwf a w hr=>by
  have h1:=YM m _ hr (h C x hG (WR hlb) hwf)
  have key:∀ a w,VO P (C.sub 0 x) (Gh P (C.sub 0 x) (Xck P rs fr 0 R')) a w->VO P (C.sub 0 x) (Xck P rs fr 0 R') a w:=by
   rintro a w ⟨st,hr,st',h2,h3⟩
   exact ⟨st',h2 a w hr,h3⟩
  refine wp_mono h1 ?_
  intro e a' w' hq
  cases e with
  | normal=>exact key _ _ hq
  | ret=>exact key _ _ hq
  | exit id=>exact hq
  | _=>exact hq
theorem Xi8 {C:Cx} (hlb:C.lb=[]) {s:Heap} {id v E z idF vF E' z' fz:Nat} {es fs:List (List D)} (hs:s id=some (v,.arr true E z es 0)) (hF:s idF=some (vF,.arr false E' z' fs fz)) (es2:List (List D))
 (hl:es2.length=es.length) (hz:∀ e∈es2,e.length=z)
 (hd:∀ (j c:Nat) (e2:List D) (d2:D),es2[j]? = some e2->e2[c]? = some d2->∃ e d,es[j]? = some e/\e[c]? = some d/\((d2=d/\XaJ d=true)\/(d=.osl idF vF z' 0 fs.length/\d2=.isl E' z' fs)))
 {ds ds2:List D} {x:D} (hx:XaJ x=true) (hsn:∃ c l,ZG (upd (upd s idF (some (vF,.arr false E' z' fs fs.length))) id (some (v,.arr false E z es2 0))) ds=some (c,ds2,l)/\c):RoA P C s [.agg ds,x] [.agg ds2,x]:=by
 intro s' U M β w vs hle I hr
 obtain ⟨c,l,hsn,hc⟩:=hsn
 obtain ⟨M',I',hM⟩:=I.narrow hlb (hle _ _ hs) (hle _ _ hF) es2 hl hz hd
 obtain ⟨M2,I2,hM2,hFz⟩:=I'.freeze l
 have hle2:HLe (upd (upd s idF (some (vF,.arr false E' z' fs fs.length))) id (some (v,.arr false E z es2 0))) (upd (upd s' idF (some (vF,.arr false E' z' fs fs.length))) id (some (v,.arr false E z es2 0))):=λ i y h=>by
  unfold upd at h ⊢
  split at h
  ·rename_i e;rw[Wn e];exact h
  ·rename_i e
   rw[Wh e]
   split at h
   ·rename_i e;rw[Wn e];exact h
   ·rename_i e;rw[Wh e];exact hle _ _ h
 refine ⟨M2,hM.trans hM2,I2.mem,?_⟩
 simp only[RepL] at hr ⊢
 obtain ⟨y,ys,rfl,r1,y2,ys2,rfl,r2,rfl⟩:=hr
 refine ⟨_,_,rfl,?_,_,_,rfl,(Xeg hx r2).mono (hM.trans hM2) (BLe.refl _),rfl⟩
 simp only[Rep] at r1 ⊢
 obtain ⟨l',rfl,r1⟩:=r1
 exact ⟨l',rfl,ZR I' hM2 (Kw hle2 hsn) hc hFz (RepL.mono hM (BLe.refl _) r1)⟩
end Go.Sx
namespace Go.Sx
variable {P:Program}
def Xbr (o:Oper):List Nat:=(o.after.toList.filter (Region.binds .any)).map (·.on)
def Xcx (l:List Oper) (i:Nat):List Nat:=match l[i]? with | some x=>Xbr x | none=>[]
def Xgd (l:List Oper) (o:Oper):Bool:=(l.all λ x=>x.guard.isNone)&&(o.guard.isNone&&((Xbr o).all λ j=>decide (j<l.length))&&((List.range l.length).all (λ i=>(Xcx l i).all λ j=>decide (j<i))&&(List.range l.length).all λ j=>(Xbr o).contains j||(List.range l.length).any λ i=>(Xcx l i).contains j))
def QL (P:Program) (ops:Array Oper) (Q:Exit->AW) (o:Oper):Exit->AW
 | .normal,a,w=>wpList P ops Q [o] a w
 | .ret,a,w=>Q .ret a w
 | .exit i,a,w=>Q (.exit i) a w
 | .goto i,a,w=>Q (.goto i) a w
 | .panic c,a,w=>Q (.panic c) a w
 | .outgrown,a,w=>Q .outgrown a w
section
variable {ops:Array Oper} {Q:Exit->AW} {o:Oper}
theorem Xi9 (h:LetsOut (QL P ops Q o)):LetsOut Q:=by obtain ⟨a,w,h⟩:=h;exact ⟨a,w,h⟩
theorem Xm6 {x:Oper} {a:Act} {w:World} {K K':AW} (h:∀ a w,K a w->K' a w) (hh:x.wp P a w K (QL P ops Q o)):x.wp P a w K' Q:=by
 unfold Oper.wp at *
 generalize (execOp a.eval x).run P w=r at *
 cases r with
 | ok n w' =>
  cases n<;>simp only[Oper.upon] at hh ⊢<;>
   first
    | exact h _ _ hh
    | exact Calls.mono hh (λ e w'' he=>by cases e<;>first | exact h _ _ he | exact Xi9 he | exact he)
    | exact Rows.mono hh (λ _ _ he=>h _ _ he)
 | halt x w'=>cases x<;>simp only[Oper.upon] at hh ⊢<;>exact hh
def Ke (listed:Array Bool):Nat:=listed.toList.countP (!·)
theorem Xfq {listed:Array Bool} {i:Nat} (h:listed[i]? = some false):Ke (listed.setIfInBounds i true)+1=Ke listed:=by
 unfold Ke
 rw[Array.toList_setIfInBounds]
 have:∀ (l:List Bool) (i:Nat),l[i]? = some false->(l.set i true).countP (!·)+1=l.countP (!·):=by
  intro l
  induction l with
  | nil=>intro i h;simp at h
  | cons b l ih =>
   intro i h
   cases i with
   | zero=>simp at h;subst h;simp
   | succ i =>
    have:=ih i (by simpa using h)
    rw[List.set_cons_succ,I6,I6]
    omega
 exact this _ _ (by simpa using h)
theorem Xja {l:List Oper} (hc:Xgd l o=true):∀ (fuel:Nat) (listed:Array Bool) (a:Act) (w:World),listed.size=l.length->Ke listed=fuel->(∀ i,i<l.length->listed.getD i false=true->∀ j∈Xcx l i,listed.getD j false=true) ->
 wpAny P .any ⟨l⟩ (QL P ⟨l++[o]⟩ Q o) fuel listed a w->wpAny P .any ⟨l++[o]⟩ Q (fuel+1) (listed.push false) a w:=by
 unfold Xgd at hc
 simp only[WG,Ur,Oi,decide_eq_true_eq,Ig,List.contains_iff_mem,Oo] at hc
 obtain ⟨hg,⟨hgo,hdo⟩,hedge,hcov⟩:=hc
 have hgL:(l++[o])[l.length]? = some o:=by simp
 have getP:∀ (listed:Array Bool),listed.size=l.length->∀ x,(listed.push false).getD x false=listed.getD x false:=λ listed hs x=>by
  simp only[UE,U7]
  split
  ·rename_i e;rw[In (by omega)];rfl
  ·rfl
 have rdy:∀ (listed:Array Bool),listed.size=l.length->∀ i,i<l.length->(i∈Region.ready .any ⟨l++[o]⟩ (listed.push false)↔i∈Region.ready .any ⟨l⟩ listed):=λ listed hs i hi=>by
  unfold Region.ready
  simp only[Uq,Oi,U0,Wr,WM,Ub]
  have e1:(listed.push false).getD i true=listed.getD i true:=by
   simp only[UE,U7]
   rw[Wh (by omega)]
  have e2:(⟨l++[o]⟩:Array Oper)[i]? = (⟨l⟩:Array Oper)[i]?:=by simp[Ux hi]
  rw[e1,e2]
  have e3:∀ x:Oper,(x.after.all λ e=>!Region.binds .any e||(listed.push false).getD e.on false)=(x.after.all λ e=>!Region.binds .any e||listed.getD e.on false):=λ x=>by
   congr 1
   funext e
   rw[getP listed hs]
  simp only[e3]
  exact ⟨λ h=>⟨hi,h.2⟩,λ h=>⟨by omega,h.2⟩⟩
 have rdyO:∀ (listed:Array Bool),listed.size=l.length->(l.length∈Region.ready .any ⟨l++[o]⟩ (listed.push false)↔∀ j∈Xbr o,listed.getD j false=true):=λ listed hs=>by
  unfold Region.ready
  simp only[Uq,Oi,U0,Wr,WM,Ub]
  have e1:(listed.push false).getD l.length true=false:=by
   rw[UE,U7,Wn hs.symm];rfl
  rw[e1]
  have e2:(⟨l++[o]⟩:Array Oper)[l.length]? = some o:=by simp
  rw[e2]
  simp only[Im,Ul,WS,WN,Array.all_eq_true_iff_forall_mem,Ig,Uv]
  unfold Xbr
  simp only[W8,Uq]
  constructor
  ·rintro ⟨_,h⟩ j ⟨e,⟨he,hb⟩,rfl⟩
   have:=h e (by simpa using he)
   rw[hb,getP listed hs] at this
   simpa using this
  ·intro h
   refine ⟨by omega,λ e he=>?_⟩
   cases hb:Region.binds .any e with
   | false=>exact .inl rfl
   | true=>exact .inr (by rw[getP listed hs];exact h e.on ⟨e,⟨by simpa using he,hb⟩,rfl⟩)
 have allL:∀ (listed:Array Bool),listed.size=l.length->(∀ i,i<l.length->listed.getD i false=true->∀ j∈Xcx l i,listed.getD j false=true)->(∀ j∈Xbr o,listed.getD j false=true)->∀ j,j<l.length->listed.getD j false=true:=λ listed hs hcl ho=>by
  have:∀ m j,l.length-j<=m->j<l.length->listed.getD j false=true:=by
   intro m
   induction m with
   | zero=>intro j h1 h2;omega
   | succ m ih =>
    intro j h1 h2
    rcases hcov j h2 with h | ⟨i,hi,hj⟩
    ·exact ho j h
    ·have:=hedge i hi j hj
     exact hcl i hi (ih i (by omega) hi) j hj
  exact λ j hj=>this l.length j (by omega) hj
 have none0:∀ (listed:Array Bool),listed.size=l.length->(∀ j,j<l.length->listed.getD j false=true)->Ke listed=0:=λ listed hs h=>by
  unfold Ke
  rw[List.countP_eq_zero]
  intro b hb
  obtain ⟨j,hj,rfl⟩:=WX hb
  have hj':j<listed.size:=by simpa using hj
  have:=h j (by omega)
  simp[hj'] at this
  simp[this]
 have zero:∀ (listed:Array Bool),listed.size=l.length->Ke listed=0->∀ j,j<l.length->listed.getD j false=true:=λ listed hs hn j hj=>by
  unfold Ke at hn
  rw[List.countP_eq_zero] at hn
  have hj':j<listed.size:=by omega
  have:=hn listed[j] (by simp)
  simp at this
  simp[hj',this]
 have readyI:∀ (listed:Array Bool),listed.size=l.length->∀ i,i<l.length->(i∈Region.ready .any ⟨l⟩ listed↔listed.getD i false=false/\∀ j∈Xcx l i,listed.getD j false=true):=λ listed hs i hi=>by
  unfold Region.ready
  simp only[Uq,Oi,U0]
  have hi':i<listed.size:=by omega
  have e0:listed.getD i true=listed.getD i false:=by simp[hi']
  have e2:(⟨l⟩:Array Oper)[i]? = some l[i]:=by simp[hi]
  rw[e0,e2]
  unfold Xcx
  rw[Wc hi]
  simp only[Im,Ul,WG,Uv,Array.all_eq_true_iff_forall_mem,Ig]
  unfold Xbr
  simp only[W8,Uq]
  constructor
  ·rintro ⟨_,h1,h2⟩
   refine ⟨h1,?_⟩
   rintro j ⟨e,⟨he,hb⟩,rfl⟩
   have:=h2 e (by simpa using he)
   rw[hb] at this
   simpa using this
  ·rintro ⟨h1,h2⟩
   refine ⟨hi,h1,λ e he=>?_⟩
   cases hb:Region.binds .any e with
   | false=>exact .inl rfl
   | true=>exact .inr (h2 e.on ⟨e,⟨by simpa using he,hb⟩,rfl⟩)
 intro fuel
 induction fuel with
 | zero =>
  rintro listed a w hs hn hcl ⟨_,h⟩
  have hall:=zero listed hs hn
  have ho:l.length∈Region.ready .any ⟨l++[o]⟩ (listed.push false):=(rdyO listed hs).2 λ j hj=>hall j (hdo j hj)
  refine ⟨λ h0=>(by rw[h0] at ho;cases ho),λ i hi=>?_⟩
  have hil:i=l.length:=by
   have h1:i<l.length+1:=by
    unfold Region.ready at hi
    have:=(Uq.1 hi).1
    simpa using this
   by_cases h2:i<l.length
   ·have:=((readyI listed hs i h2).1 ((rdy listed hs i h2).1 hi)).1
    rw[hall i h2] at this;cases this
   ·omega
  subst hil
  have hw:Region.wanted o (yielded (⟨l++[o]⟩:Array Oper) a.tmps)=true:=by
   unfold Region.wanted
   cases hgg:o.guard with
   | none=>rfl
   | some g=>rw[hgg] at hgo;cases hgo
  have h2:wpList P ⟨l++[o]⟩ Q [o] a w:=h
  unfold wpList at h2
  rw[Wn hw] at h2
  unfold wpOp
  have e2:(⟨l++[o]⟩:Array Oper)[l.length]? = some o:=by simp
  rw[e2]
  simp only[hw,if_true]
  refine h2.imp (Oper.wp_mono λ a w hq=>⟨?_,hq⟩) id
  refine List.eq_nil_iff_forall_not_mem.2 λ j hj=>?_
  unfold Region.ready at hj
  obtain ⟨h3,h4⟩:=Uq.1 hj
  simp only[U0,Wr,WM,Ub,Oi] at h3
  have h5:((listed.push false).setIfInBounds l.length true).getD j true=true:=by
   rw[UE,IK]
   split
   ·rename_i e;rw[Wn (by simp;omega)];rfl
   ·rename_i e
    rw[U7,Wh (by omega)]
    have:=hall j (by omega)
    rw[UE] at this
    have hj':j<listed.size:=by omega
    simp[hj'] at this ⊢
    exact this
  rw[h5] at h4
  simp at h4
 | succ fuel ih =>
  rintro listed a w hs hn hcl ⟨h0,h⟩
  refine ⟨λ hr=>?_,λ i hi=>?_⟩
  ·exfalso
   have:∀ m j,j<=m->j<l.length->listed.getD j false=true:=by
    intro m
    induction m with
    | zero =>
     intro j h1 h2
     cases hb:listed.getD j false with
     | true=>rfl
     | false =>
      have:=(rdy listed hs j h2).2 ((readyI listed hs j h2).2 ⟨hb,λ k hk=>by have:=hedge j h2 k hk;omega⟩)
      rw[hr] at this;cases this
    | succ m ihm =>
     intro j h1 h2
     cases hb:listed.getD j false with
     | true=>rfl
     | false =>
      have:=(rdy listed hs j h2).2 ((readyI listed hs j h2).2 ⟨hb,λ k hk=>by have:=hedge j h2 k hk;exact ihm k (by omega) (by omega)⟩)
      rw[hr] at this;cases this
   have:=none0 listed hs λ j hj=>this j j (WQ _) hj
   omega
  ·have h1:i<l.length+1:=by
    unfold Region.ready at hi
    have:=(Uq.1 hi).1
    simpa using this
   by_cases h2:i<l.length
   rotate_left
   ·exfalso
    obtain rfl:i=l.length:=by omega
    have:=none0 listed hs (allL listed hs hcl ((rdyO listed hs).1 hi))
    omega
   have hir:=(rdy listed hs i h2).1 hi
   obtain ⟨hun,hdep⟩:=(readyI listed hs i h2).1 hir
   have hone:=h i hir
   have hi':i<listed.size:=by omega
   have hset:(listed.push false).setIfInBounds i true=(listed.setIfInBounds i true).push false:=by
    apply Array.ext_getElem?
    intro j
    rw[IK,U7,U7,IK]
    simp only[Array.size_push,Array.size_setIfInBounds]
    split
    ·rename_i e;subst e
     rw[Wn (by omega),Wh (by omega)]
    ·split<;>rfl
   rw[hset]
   have hsome:listed[i]? = some false:=by
    rw[UE,IU hi'] at hun
    rw[IU hi']
    simpa using hun
   have next:∀ a w,wpAny P .any ⟨l⟩ (QL P ⟨l++[o]⟩ Q o) fuel (listed.setIfInBounds i true) a w->wpAny P .any ⟨l++[o]⟩ Q (fuel+1) ((listed.setIfInBounds i true).push false) a w:=λ a w hq=>by
    refine ih _ a w (by rw[Array.size_setIfInBounds];exact hs) (by have:=Xfq hsome;omega) (λ x hx hl j hj=>?_) hq
    have gset:∀ y,(listed.setIfInBounds i true).getD y false=(if y=i then true else listed.getD y false):=λ y=>by
     rw[UE,IK]
     split
     ·rename_i e;subst e;rw[Wn rfl];rfl
     ·rename_i e;rw[Wh (Ne.symm e),UE]
    rw[gset] at hl ⊢
    split
    ·rfl
    ·by_cases hxi:x=i
     ·subst hxi;exact hdep j hj
     ·rw[Wh hxi] at hl;exact hcl x hx hl j hj
   have e1:(⟨l⟩:Array Oper)[i]? = some l[i]:=by simp[h2]
   have e2:(⟨l++[o]⟩:Array Oper)[i]? = some l[i]:=by simp[Ux h2,h2]
   unfold wpOp at hone ⊢
   rw[e1] at hone
   rw[e2]
   have hgi:=hg l[i] (W6 h2)
   have hwt:∀ y,Region.wanted l[i] y=true:=λ y=>by
    unfold Region.wanted
    cases hgg:l[i].guard with
    | none=>rfl
    | some g=>rw[hgg] at hgi;cases hgi
   simp only[hwt,if_true] at hone ⊢
   exact hone.imp (Xm6 next) λ hx=>⟨hx.1,Xi9 hx.2⟩
end
section
variable {C:Cx} {R:St->Prop}
theorem OT {id:Nat} {k:List It} {st:St} {l:List Oper} {o:Oper} (hl:Xgd l o=true) (hm:P.follows .mixedOrders=true) (es:List En) (n:Nat) (ho:es.map (·.o)=l) (hi:es.map (·.i)=List.range es.length) (hc:Xfm es=true)
 (h:dr P C ⟨l⟩ st.k es st λ st'=>run P C R n (.ops ⟨l++[o]⟩ [o]::k) ⟨st'.t,st'.s,st'.n,st.k+es.length⟩) (t:Prf (⟨l++[o]⟩:Array Oper)):DrawnG P C R id ⟨l++[o]⟩ k st t:=by
 intro a w hr
 refine wp_region_any hm ?_
 have hlen:es.length=l.length:=by rw[← ho];simp
 have hrd:RelD P C (UD st.k (Array.replicate (⟨l⟩:Array Oper).size false)) st a { w with drawn:=w.drawn+1 }:=by
  refine RelD.drew ?_ _
  obtain ⟨h1,h2,M,β,h0,h3,I⟩:=hr
  exact ⟨h1,h2,M,β,h0,h3,I.mono λ v hv=>.inl hv⟩
 have hall:Jn es (Array.replicate (⟨l⟩:Array Oper).size false)=es:=by
  unfold Jn
  refine IO.2 λ e he=>?_
  have:=(Xbp hi he).1
  simp[UP,hlen▸this]
 have e0:(Array.replicate (⟨l++[o]⟩:Array Oper).size false)=(Array.replicate (⟨l⟩:Array Oper).size false).push false:=by
  apply Array.ext_getElem?
  intro j
  rw[U7,UP,UP]
  simp only[U0,Wr,WM,Ub,Array.size_replicate]
  split
  ·split
   ·rfl
   ·rw[Wn (by omega)]
  ·rw[Wh (by omega),Wh (by omega)]
 rw[e0]
 have es0:(⟨l++[o]⟩:Array Oper).size=l.length+1:=by simp
 rw[es0]
 refine Xja hl l.length _ a _ (by simp) ?_ (λ i hi hx=>?_) ?_
 ·unfold Ke
  rw[Array.toList_replicate,List.countP_replicate]
  simp
 ·simp[UP] at hx
  split at hx<;>cases hx
 refine Xn0 (es:=es) (k0:=st.k) ho hi hc ?_ _ _ a _ st (by rw[hall,hlen]) (by simp[hlen]) hrd (λ e he hl=>?_) (by rw[hall];exact h)
 ·rintro st' a' w' ⟨h1,h2,M,β,h0,h3,I⟩ hK
  have h1:sem P C (VO P C R) (.ops ⟨l++[o]⟩ [o]::k) none a' w':=YM n _ (st:=⟨st'.t,st'.s,st'.n,st.k+es.length⟩) ⟨h1,h2,M,β,h0,h3,I⟩ hK
  exact h1
 ·have:=(Xbp hi he).1
  simp[UP,hlen▸this] at hl
end
end Go.Sx
