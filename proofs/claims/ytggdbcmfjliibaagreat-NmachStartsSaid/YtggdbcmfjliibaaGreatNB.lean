import Derived.LoopNIn
import Derived.OrdersIn
import Derived.TacticsIn
import Derived.Scope
import Derived.Test.YtggdbcmfjliibaaGreatNA
set_option linter.all false
namespace Go.Sx
variable {P:Program}
section
variable {C:Cx} {s:Heap} {U:Nat->Prop} {ver:Nat} {M:Mem} {β:Loc} {w:World}
theorem head_agg {cs:List D} {o n:Nat} (h:o+n<=cs.length):((cs.drop o).take n).length=n:=by simp;omega
theorem fieldPlace_ok {fd:Field} (hne:P.cellsOf fd.type≠0) (b o:Nat):(fieldPlace ⟨b,o,none⟩ fd).run P w=.ok ⟨b,o+fd.offset,none⟩ w:=by
 have:=size_cells (P:=P) (t:=fd.type) rfl hne w
 simp[fieldPlace,this,hne,Addr.add_p]
theorem fields_get {fields:Array Field} {f off sz ft:Nat} (h:(fields.toList.map fun f=>(f.offset,P.cellsOf f.type,f.type))[f]? = some (off,sz,ft)):∃ fd,fields[f]? = some fd∧fd.offset=off∧P.cellsOf fd.type=sz∧fd.type=ft:=by
 simp only[List.getElem?_map,Option.map_eq_some_iff,Prod.mk.injEq] at h
 obtain ⟨fd,h1,h2,h3,h4⟩:=h
 exact ⟨fd,by simpa using h1,h2,h3,h4⟩
theorem places_run (fields:Array Field) (hall:∀ fd∈fields.toList,((P.info? fd.type).map (·.size)).isSome=true) (w:World) :
 (fields.mapM fun f=>do pure (f.offset,← sizeOf f.type):Sem (Array (Nat×Nat))).run P w=.ok (fields.map fun f=>(f.offset,P.cellsOf f.type)) w:=by
 rw[Array.mapM_eq_mapM_toList]
 have:∀ l:List Field,(∀ fd∈l,((P.info? fd.type).map (·.size)).isSome=true)->(l.mapM fun f=>do pure (f.offset,← sizeOf f.type):Sem (List (Nat×Nat))).run P w=.ok (l.map fun f=>(f.offset,P.cellsOf f.type)) w:=by
  intro l
  induction l with
  | nil=>intro _;simp
  | cons f l ih =>
   intro h
   have h1:=h f (by simp)
   have ih':=ih fun fd hf=>h fd (by simp[hf])
   cases hi:P.info? f.type with
   | none=>simp[hi] at h1
   | some i =>
    have:(sizeOf f.type).run P w=.ok (P.cellsOf f.type) w:=by simp[sizeOf,typeInfo,hi,Program.cellsOf]
    simp only[List.mapM_cons,Sem.run_bind,this,Result.andThen_ok,Sem.run_pure,ih',List.map_cons]
 have h:=this fields.toList hall
 simp only[Sem.run_map,h,Result.andThen_ok]
 congr 1
 apply Array.ext'
 simp
theorem op_move (I:Inv P C s U M β w) (_hv:¬ U ver) {dst:Option Tmp} {type:TypeId} {pos:String} {after:Array Edge} {guard:Option (Nat×Bool)} (ρ:Operand->Value) (t:Operand->D) (hρ:∀ x,Rep P M β (t x) (ρ x)) {c:Prop} {d:D} {u:Up} (x:Operand)
 (h:opF P dst ver t s (.move x)=some (c,d,u)) (hc:c):OpOK P C s u U ver M β ((execOp ρ ⟨dst,(.move x),type,pos,after,guard⟩).run P w) d:=by
 unfold execOp
 simp only
 simp only[opF,Option.some.injEq,Prod.mk.injEq] at h
 obtain ⟨rfl,rfl,rfl⟩:=h
 exact .val I rfl (hρ x)
theorem op_assign (I:Inv P C s U M β w) (_hv:¬ U ver) {dst:Option Tmp} {type:TypeId} {pos:String} {after:Array Edge} {guard:Option (Nat×Bool)} (ρ:Operand->Value) (t:Operand->D) (hρ:∀ x,Rep P M β (t x) (ρ x)) {c:Prop} {d:D} {u:Up} (x:Operand)
 (h:opF P dst ver t s (.assign x)=some (c,d,u)) (hc:c):OpOK P C s u U ver M β ((execOp ρ ⟨dst,(.assign x),type,pos,after,guard⟩).run P w) d:=by
 unfold execOp
 simp only
 simp only[opF,Option.some.injEq,Prod.mk.injEq] at h
 obtain ⟨rfl,rfl,rfl⟩:=h
 exact .val I rfl (hρ x)
theorem op_pick (I:Inv P C s U M β w) (_hv:¬ U ver) {dst:Option Tmp} {type:TypeId} {pos:String} {after:Array Edge} {guard:Option (Nat×Bool)} (ρ:Operand->Value) (t:Operand->D) (hρ:∀ x,Rep P M β (t x) (ρ x)) {c:Prop} {d:D} {u:Up} (g:Operand) (a:Operand) (b:Operand)
 (h:opF P dst ver t s (.pick g a b)=some (c,d,u)) (hc:c):OpOK P C s u U ver M β ((execOp ρ ⟨dst,(.pick g a b),type,pos,after,guard⟩).run P w) d:=by
 unfold execOp
 simp only
 simp only[opF] at h
 split at h
 ·rename_i bb hg
  simp only[Option.some.injEq,Prod.mk.injEq] at h
  obtain ⟨rfl,rfl,rfl⟩:=h
  have hgr:=hρ g
  rw[hg] at hgr
  simp only[Rep] at hgr
  refine .val I (v:=if bb then ρ a else ρ b) (by simp[hgr.1,asBool]) ?_
  have ha:=hρ a
  have hb:=hρ b
  unfold pickD
  split
  ·rename_i p q e1 e2
   rw[e1] at ha
   rw[e2] at hb
   simp only[Rep] at ha hb
   cases bb
   ·simp[Rep,hb.1,wfV]
   ·simp[Rep,ha.1,wfV]
  ·cases bb
   ·simpa using hb
   ·simpa using ha
 ·cases h
theorem op_alloc (I:Inv P C s U M β w) (hv:¬ U ver) {dst:Option Tmp} {type:TypeId} {pos:String} {after:Array Edge} {guard:Option (Nat×Bool)} (ρ:Operand->Value) (t:Operand->D) (_hρ:∀ x,Rep P M β (t x) (ρ x)) {c:Prop} {d:D} {u:Up} (T:TypeId)
 (h:opF P dst ver t s (.alloc T)=some (c,d,u)) (hc:c):OpOK P C s u U ver M β ((execOp ρ ⟨dst,(.alloc T),type,pos,after,guard⟩).run P w) d:=by
 unfold execOp
 simp only
 simp only[opF] at h
 split at h
 ·rename_i ty hT
  split at h
  ·rename_i cs hcs
   split at h
   ·rename_i hcond
    simp only[Option.some.injEq,Prod.mk.injEq] at h
    obtain ⟨rfl,rfl,rfl⟩:=h
    obtain ⟨z1,z2⟩:=zeroC_rep (P:=P) (M:=M) (β:=β) hcs
    have e:(Instr.alloc T true (.tuple #[])).run P w=((do pure (Value.pointer (some (← newVar T ty.zero))):Sem Value)).run P w:=by simp[Instr.alloc,zero_run hT]
    exact VOK.op (sem:=Instr.alloc T true (.tuple #[])) (by rw[e];exact box_ok I hv hT z1 z2 hcond.1 hcond.2 (site dst))
   ·cases h
  ·cases h
 ·cases h
theorem op_box (I:Inv P C s U M β w) (hv:¬ U ver) {dst:Option Tmp} {type:TypeId} {pos:String} {after:Array Edge} {guard:Option (Nat×Bool)} (ρ:Operand->Value) (t:Operand->D) (hρ:∀ x,Rep P M β (t x) (ρ x)) {c:Prop} {d:D} {u:Up} (T:TypeId) (x:Operand)
 (h:opF P dst ver t s (.box T x)=some (c,d,u)) (hc:c):OpOK P C s u U ver M β ((execOp ρ ⟨dst,(.box T x),type,pos,after,guard⟩).run P w) d:=by
 unfold execOp
 simp only
 simp only[opF] at h
 split at h
 ·rename_i ty cs hT hcs
  split at h
  ·rename_i hby
   simp only[Option.some.injEq,Prod.mk.injEq] at h
   obtain ⟨rfl,rfl,rfl⟩:=h
   obtain ⟨z1,z2⟩:=cells_rep hcs (hρ x)
   exact VOK.op (box_ok I hv hT z1 z2 hc hby (site dst))
  ·cases h
 ·cases h
theorem op_build (I:Inv P C s U M β w) (_hv:¬ U ver) {dst:Option Tmp} {type:TypeId} {pos:String} {after:Array Edge} {guard:Option (Nat×Bool)} (ρ:Operand->Value) (t:Operand->D) (hρ:∀ x,Rep P M β (t x) (ρ x)) {c:Prop} {d:D} {u:Up} (T:TypeId) (parts:Array (Nat×Operand))
 (h:opF P dst ver t s (.build T parts)=some (c,d,u)) (hc:c):OpOK P C s u U ver M β ((execOp ρ ⟨dst,(.build T parts),type,pos,after,guard⟩).run P w) d:=by
 unfold execOp
 simp only
 simp only[opF] at h
 split at h
 ·rename_i ty hT
  obtain ⟨p1,p2⟩:=parts_rep hρ parts.toList
  split at h
  ·rename_i cs fs hzc hk
   simp only[Option.map_eq_some_iff,Prod.mk.injEq] at h
   obtain ⟨r,hr,rfl,rfl,rfl⟩:=h
   obtain ⟨z1,z2⟩:=zeroC_rep (P:=P) (M:=M) (β:=β) hzc
   obtain ⟨sz0,by0,z0,k0⟩:=ty
   subst hk
   obtain ⟨fields,hu,rfl,hall⟩:=und_struct hT
   obtain ⟨vs,k1,k2⟩:=fillD_ok _ (fun i=>(fields.map fun f=>(f.offset,P.cellsOf f.type))[i]?) (fun i x hx=>by
    simp only[Option.map_eq_some_iff,List.getElem?_map,Array.getElem?_toList] at hx
    obtain ⟨y,⟨fd,h1,rfl⟩,rfl⟩:=hx
    simp[h1]) _ (parts.map fun x=>(x.1,ρ x.2)).toList cs z0.cells r hr z1 (by simp) (by simpa using p2)
   refine .val I (v:=.agg vs) ?_ ?_
   ·simp only[Instr.build,Sem.run_bind,zero_run hT,Result.andThen_ok,run_underlying hu,places_run fields hall,k1,Sem.run_pure]
   ·simp only[Rep];exact ⟨vs.toList,by simp,k2⟩
  ·rename_i cs n e sz hzc hk
   split at h
   ·rename_i te hE
    simp only[Option.map_eq_some_iff,Prod.mk.injEq] at h
    obtain ⟨r,hr,rfl,rfl,rfl⟩:=h
    obtain ⟨z1,z2⟩:=zeroC_rep (P:=P) (M:=M) (β:=β) hzc
    obtain ⟨sz0,by0,z0,k0⟩:=ty
    subst hk
    obtain ⟨hu,hsz⟩:=und_array hT
    have hsize:∀ w:World,(sizeOf e).run P w=.ok sz w:=fun w=>by rw[size_run hE,hsz,cellsOf_eq hE]
    obtain ⟨vs,k1,k2⟩:=fillD_ok _ (fun i=>some (i*sz,sz)) (fun i x hx=>hx) _ (parts.map fun x=>(x.1,ρ x.2)).toList cs z0.cells r hr z1 (by simp) (by simpa using p2)
    refine .val I (v:=.agg vs) ?_ ?_
    ·simp only[Instr.build,Sem.run_bind,zero_run hT,Result.andThen_ok,run_underlying hu,hsize,k1,Sem.run_pure]
    ·simp only[Rep];exact ⟨vs.toList,by simp,k2⟩
   ·cases h
  ·cases h
 ·cases h
theorem op_buildSlice (I:Inv P C s U M β w) (hv:¬ U ver) {dst:Option Tmp} {type:TypeId} {pos:String} {after:Array Edge} {guard:Option (Nat×Bool)} (ρ:Operand->Value) (t:Operand->D) (hρ:∀ x,Rep P M β (t x) (ρ x)) {c:Prop} {d:D} {u:Up} (T:TypeId) (n:Nat) (parts:Array (Nat×Operand))
 (h:opF P dst ver t s (.buildSlice T n parts)=some (c,d,u)) (hc:c):OpOK P C s u U ver M β ((execOp ρ ⟨dst,(.buildSlice T n parts),type,pos,after,guard⟩).run P w) d:=by
 unfold execOp
 simp only
 simp only[opF] at h
 split at h
 ·rename_i a b zz E z hT
  split at h
  ·rename_i te hE
   split at h
   ·rename_i zc hzc
    split at h
    ·rename_i hcond
     obtain ⟨h1,h2,h3,h4,h5⟩:=hcond
     split at h
     ·rename_i cc ps l hps
      simp only[Option.map_eq_some_iff,Prod.mk.injEq] at h
      obtain ⟨es,hes,rfl,rfl,rfl⟩:=h
      obtain ⟨p1,p2⟩:=parts_rep hρ parts.toList
      obtain ⟨M',I',hM,hF⟩:=I.freeze l
      obtain ⟨q3,q4⟩:=snapP_rep I hM hps hc hF p2
      have q1:ps.map (·.1)=(parts.map fun x=>(x.1,ρ x.2)).toList.map (·.1):=by rw[q4,p1,Array.toList_map]
      have q2:RepL P M' loc0 (ps.map (·.2)) ((parts.map fun x=>(x.1,ρ x.2)).toList.map (·.2)):=by rw[Array.toList_map];exact q3
      obtain ⟨M2,β2,w2,v2,g1,g2,g3,g4,g5⟩:=VOK.op (buildSlice_ok I' hv hT hE hzc h1 h2 h3 h4 h5 hes q1 q2 (site dst))
      refine ⟨M2,β2,w2,v2,g1,?_,g3,hM.trans g4,g5⟩
      rw[app_append,app_frzU];exact g2
     ·cases h
    ·cases h
   ·cases h
  ·cases h
 ·cases h
theorem op_load (I:Inv P C s U M β w) (_hv:¬ U ver) {dst:Option Tmp} {type:TypeId} {pos:String} {after:Array Edge} {guard:Option (Nat×Bool)} (ρ:Operand->Value) (t:Operand->D) (hρ:∀ x,Rep P M β (t x) (ρ x)) {c:Prop} {d:D} {u:Up} (T:TypeId) (a:Operand)
 (h:opF P dst ver t s (.load T a)=some (c,d,u)) (hc:c):OpOK P C s u U ver M β ((execOp ρ ⟨dst,(.load T a),type,pos,after,guard⟩).run P w) d:=by
 unfold execOp
 simp only
 simp only[opF] at h
 split at h
 ·rename_i ty c' cs o z hT hl
  split at h
  ·rename_i hcond
   simp only[Option.some.injEq,Prod.mk.injEq] at h
   obtain ⟨rfl,rfl,rfl⟩:=h
   exact VOK.op (load_ok I hT hl hc hcond.1 hcond.2 (hρ a))
  ·cases h
 ·cases h
theorem op_store (I:Inv P C s U M β w) (_hv:¬ U ver) {dst:Option Tmp} {type:TypeId} {pos:String} {after:Array Edge} {guard:Option (Nat×Bool)} (ρ:Operand->Value) (t:Operand->D) (hρ:∀ x,Rep P M β (t x) (ρ x)) {c:Prop} {d:D} {u:Up} (T:TypeId) (a:Operand) (x:Operand)
 (h:opF P dst ver t s (.store T a x)=some (c,d,u)) (hc:c):OpOK P C s u U ver M β ((execOp ρ ⟨dst,(.store T a x),type,pos,after,guard⟩).run P w) d:=by
 unfold execOp
 simp only
 simp only[opF] at h
 split at h
 ·rename_i ty id v z i cc hT ha
  have hp:=hρ a
  rw[ha] at hp
  split at h
  ·rename_i v' E z' es fz hs
   split at h
   ·rename_i ds hx
    split at h
    ·rename_i hcond
     obtain ⟨rfl,rfl,hfit⟩:=hcond
     simp only[Option.some.injEq,Prod.mk.injEq] at h
     obtain ⟨rfl,rfl,rfl⟩:=h
     exact store_ok I hT hs hp hx (hρ x) hc.1 hc.2.1 hc.2.2 hfit
    ·cases h
   ·cases h
  ·rename_i v' E z' es fz hs
   split at h
   ·rename_i c1 dd l hsn
    split at h
    ·rename_i ds hx
     split at h
     ·rename_i hcond
      obtain ⟨rfl,rfl,hfit,hnl⟩:=hcond
      simp only[Option.some.injEq,Prod.mk.injEq] at h
      obtain ⟨rfl,rfl,rfl⟩:=h
      obtain ⟨hc1,hc2,hc3,hc4⟩:=hc
      obtain ⟨M',I',hM,hF⟩:=I.freeze l
      have hr':=snap_rep I hM hsn hc1 hF (hρ x)
      have hs':frz s l id=some (v,.arr false E z es fz):=by unfold frz;rw[if_neg hnl];exact hs
      obtain ⟨M2,β2,w2,v2,g1,g2,g3,g4,g5⟩:=store_ok (ver:=ver) I' hT hs' (hp.mono hM (BLe.refl _)) hx hr' hc2 hc3 hc4 hfit
      refine ⟨M2,β2,w2,v2,g1,?_,g3,hM.trans g4,g5⟩
      rw[app_append,app_frzU];exact g2
     ·cases h
    ·cases h
   ·cases h
  ·cases h
 ·cases h
theorem op_nilCheck (I:Inv P C s U M β w) (_hv:¬ U ver) {dst:Option Tmp} {type:TypeId} {pos:String} {after:Array Edge} {guard:Option (Nat×Bool)} (ρ:Operand->Value) (t:Operand->D) (hρ:∀ x,Rep P M β (t x) (ρ x)) {c:Prop} {d:D} {u:Up} (x:Operand)
 (h:opF P dst ver t s (.nilCheck x)=some (c,d,u)) (hc:c):OpOK P C s u U ver M β ((execOp ρ ⟨dst,(.nilCheck x),type,pos,after,guard⟩).run P w) d:=by
 unfold execOp
 simp only
 simp only[opF] at h
 split at h
 ·rename_i id v z i cc hx
  simp only[Option.some.injEq,Prod.mk.injEq] at h
  obtain ⟨rfl,rfl,rfl⟩:=h
  have hr:=hρ x
  rw[hx] at hr
  have hr':=hr
  simp only[Rep] at hr'
  obtain ⟨b,cb,_,he⟩:=hr'
  refine .val I (v:=ρ x) ?_ hr
  rw[he];rfl
 ·rename_i z cs cc hx
  simp only[Option.some.injEq,Prod.mk.injEq] at h
  obtain ⟨rfl,rfl,rfl⟩:=h
  have hr:=hρ x
  rw[hx] at hr
  have hr':=hr
  simp only[Rep] at hr'
  obtain ⟨_,b,o,he,_⟩:=hr'
  refine .val I (v:=ρ x) ?_ hr
  rw[he];rfl
 ·cases h
theorem nilCmp_ok (I:Inv P C s U M β w) {op:BinOp} {T:TypeId} {x:D} {ρ:Operand->Value} {oy:Operand} {c:Prop} {d:D} (h:nilCmp P op T x=some (c,d)) (hc:c) {vx:Value} (rx:Rep P M β x vx) {ox:Operand} (hn:isNilC oy=true)
 (hy:∀ v,oy=.const v->ρ oy=v):VOK P C s [] U ver M β ((do eqGuard op T ox oy vx (ρ oy);binOp op T vx (ρ oy):Sem Value).run P w) d:=by
 have hoy:∃ l c,ρ oy=.slice none l c:=by
  cases oy with
  | const v =>
   simp only[isNilC] at hn
   unfold isNilV at hn
   split at hn
   ·cases hn
   ·cases hn
   ·rename_i l c;exact ⟨l,c,hy _ rfl⟩
   ·cases hn
  | _=>simp[isNilC] at hn
 obtain ⟨ly,cy,hoy⟩:=hoy
 rw[hoy]
 have key:∀ (a:Option Addr) (l cp:Nat) {x1 x2:Nat} {x3:Value} {E z:Nat},tyOf P T=some ⟨x1,x2,x3,.slice E z⟩->(Op.equal T (.slice a l cp) (.slice none ly cy)).run P w=.ok a.isNone w:=by
  intro a l cp x1 x2 x3 E z hT
  unfold Op.equal Op.maxDepth Op.equalIn
  cases a<;>simp[run_underlying (und_slice hT).1]
 have hg:∀ (op:BinOp) (a:Option Addr) (l cp:Nat),(eqGuard op T ox oy (.slice a l cp) (.slice none ly cy)).run P w=.ok () w:=by
  intro op a l cp
  unfold eqGuard
  cases op<;>simp
 unfold nilCmp at h
 split at h
 ·rename_i E z es
  simp only[Rep] at rx
  obtain ⟨_,_,_,a,cap,rfl,_,hr⟩:=rx
  split at h
  ·rename_i hT
   simp only[Option.some.injEq,Prod.mk.injEq] at h
   obtain ⟨rfl,rfl⟩:=h
   obtain ⟨b,o,rfl,_⟩:=hr.resolve_left hc
   refine .same I (v:=.bool false) ?_ (rep_bool _)
   simp[hg,binOp,key _ _ _ hT]
  ·rename_i hT
   simp only[Option.some.injEq,Prod.mk.injEq] at h
   obtain ⟨rfl,rfl⟩:=h
   obtain ⟨b,o,rfl,_⟩:=hr.resolve_left hc
   refine .same I (v:=.bool true) ?_ (rep_bool _)
   simp[hg,binOp,key _ _ _ hT]
  ·cases h
 ·rename_i a l cp
  simp only[Rep] at rx
  obtain ⟨rfl,_⟩:=rx
  split at h
  ·rename_i hT
   simp only[Option.some.injEq,Prod.mk.injEq] at h
   obtain ⟨rfl,rfl⟩:=h
   refine .same I (v:=.bool a.isNone) ?_ (rep_bool _)
   simp[hg,binOp,key _ _ _ hT]
  ·rename_i hT
   simp only[Option.some.injEq,Prod.mk.injEq] at h
   obtain ⟨rfl,rfl⟩:=h
   refine .same I (v:=.bool (!a.isNone)) ?_ (rep_bool _)
   simp[hg,binOp,key _ _ _ hT]
  ·cases h
 ·cases h
theorem op_binOp (I:Inv P C s U M β w) (_hv:¬ U ver) {dst:Option Tmp} {type:TypeId} {pos:String} {after:Array Edge} {guard:Option (Nat×Bool)} (ρ:Operand->Value) (t:Operand->D) (hρ:∀ x,Rep P M β (t x) (ρ x)) {c:Prop} {d:D} {u:Up} (op:BinOp) (T:TypeId) (x:Operand) (y:Operand) (yt:TypeId) (hy:∀ v,y=.const v->ρ y=v)
 (h:opF P dst ver t s (.binOp op T x y yt)=some (c,d,u)) (hc:c):OpOK P C s u U ver M β ((execOp ρ ⟨dst,(.binOp op T x y yt),type,pos,after,guard⟩).run P w) d:=by
 unfold execOp
 simp only
 simp only[opF,Option.map_eq_some_iff,Prod.mk.injEq] at h
 obtain ⟨⟨c',d'⟩,hb,rfl,rfl,rfl⟩:=h
 split at hb
 ·rename_i hn
  exact VOK.op (nilCmp_ok I hb hc (hρ x) hn hy)
 ·exact VOK.op (binD_ok I hb hc (hρ x) (hρ y) x y)
theorem op_unOp (I:Inv P C s U M β w) (_hv:¬ U ver) {dst:Option Tmp} {type:TypeId} {pos:String} {after:Array Edge} {guard:Option (Nat×Bool)} (ρ:Operand->Value) (t:Operand->D) (hρ:∀ x,Rep P M β (t x) (ρ x)) {c:Prop} {d:D} {u:Up} (op:UnOp) (T:TypeId) (x:Operand)
 (h:opF P dst ver t s (.unOp op T x)=some (c,d,u)) (hc:c):OpOK P C s u U ver M β ((execOp ρ ⟨dst,(.unOp op T x),type,pos,after,guard⟩).run P w) d:=by
 unfold execOp
 simp only
 simp only[opF] at h
 have hr:=hρ x
 split at h
 ·rename_i b hx
  simp only[Option.some.injEq,Prod.mk.injEq] at h
  obtain ⟨rfl,rfl,rfl⟩:=h
  rw[hx] at hr
  simp only[Rep] at hr
  refine .val I (v:=.bool (!b)) ?_ (rep_bool _)
  rw[hr.1];simp[Op.unary]
 ·rename_i k n hx
  simp only[Option.some.injEq,Prod.mk.injEq] at h
  obtain ⟨rfl,rfl,rfl⟩:=h
  rw[hx] at hr
  simp only[Rep] at hr
  refine .val I (v:=.int k (k.wrap (0-n))) ?_ (rep_int _ _ (wf_wrap _ _))
  rw[hr.1];simp[Op.unary,Op.intArith]
 ·cases h
theorem op_convert (I:Inv P C s U M β w) (_hv:¬ U ver) {dst:Option Tmp} {type:TypeId} {pos:String} {after:Array Edge} {guard:Option (Nat×Bool)} (ρ:Operand->Value) (t:Operand->D) (hρ:∀ x,Rep P M β (t x) (ρ x)) {c:Prop} {d:D} {u:Up} (S:TypeId) (T:TypeId) (x:Operand)
 (h:opF P dst ver t s (.convert S T x)=some (c,d,u)) (hc:c):OpOK P C s u U ver M β ((execOp ρ ⟨dst,(.convert S T x),type,pos,after,guard⟩).run P w) d:=by
 unfold execOp
 simp only
 simp only[opF] at h
 split at h
 ·rename_i tS a b zz k k' n hS hT hx
  simp only[Option.some.injEq,Prod.mk.injEq] at h
  obtain ⟨rfl,rfl,rfl⟩:=h
  have hr:=hρ x
  rw[hx] at hr
  simp only[Rep] at hr
  obtain ⟨i,dd,_,hu,_⟩:=tyOf_spec hS
  refine .val I (v:=.int k (k.wrap n)) ?_ (rep_int _ _ (wf_wrap _ _))
  rw[hr.1];simp[convert,run_underlying hu,run_underlying (und_int hT),Conv.intToInt]
 ·cases h
theorem op_makeFunc (I:Inv P C s U M β w) (_hv:¬ U ver) {dst:Option Tmp} {type:TypeId} {pos:String} {after:Array Edge} {guard:Option (Nat×Bool)} (ρ:Operand->Value) (t:Operand->D) (hρ:∀ x,Rep P M β (t x) (ρ x)) {c:Prop} {d:D} {u:Up} (fn:Fn) (first:Array Operand) (captured:Array Operand)
 (h:opF P dst ver t s (.makeFunc fn first captured)=some (c,d,u)) (hc:c):OpOK P C s u U ver M β ((execOp ρ ⟨dst,(.makeFunc fn first captured),type,pos,after,guard⟩).run P w) d:=by
 unfold execOp
 simp only
 simp only[opF,Option.some.injEq,Prod.mk.injEq] at h
 obtain ⟨rfl,rfl,rfl⟩:=h
 refine .val I (v:=.func fn (first.map ρ) (captured.map ρ)) (by simp[Instr.makeFunc]) ?_
 simp only[Rep]
 refine ⟨first.toList.map ρ,captured.toList.map ρ,?_,map_rep hρ _,map_rep hρ _⟩
 have e:∀ l:Array Operand,l.map ρ=⟨l.toList.map ρ⟩:=fun l=>by apply Array.ext';simp
 rw[e first,e captured]
theorem op_makeSlice (I:Inv P C s U M β w) (hv:¬ U ver) {dst:Option Tmp} {type:TypeId} {pos:String} {after:Array Edge} {guard:Option (Nat×Bool)} (ρ:Operand->Value) (t:Operand->D) (hρ:∀ x,Rep P M β (t x) (ρ x)) {c:Prop} {d:D} {u:Up} (T:TypeId) (l:Operand) (cc:Operand)
 (h:opF P dst ver t s (.makeSlice T l cc)=some (c,d,u)) (hc:c):OpOK P C s u U ver M β ((execOp ρ ⟨dst,(.makeSlice T l cc),type,pos,after,guard⟩).run P w) d:=by
 unfold execOp
 simp only
 simp only[opF] at h
 split at h
 ·rename_i a b zz E z n m hT hl hm
  split at h
  ·rename_i te hE
   split at h
   ·rename_i zc hzc
    split at h
    ·rename_i hcond
     simp only[Option.some.injEq,Prod.mk.injEq] at h
     obtain ⟨rfl,rfl,rfl⟩:=h
     obtain ⟨h0,rfl,h1,h2⟩:=hc
     obtain ⟨k,hk,_⟩:=iv_rep hl (hρ l)
     obtain ⟨k',hk',_⟩:=iv_rep hm (hρ cc)
     rw[hk,hk']
     exact VOK.op (make_ok I hv hT hE hzc hcond.1 hcond.2 h0 h1 h2 (site dst))
    ·cases h
   ·cases h
  ·cases h
 ·cases h
theorem op_slice (I:Inv P C s U M β w) (_hv:¬ U ver) {dst:Option Tmp} {type:TypeId} {pos:String} {after:Array Edge} {guard:Option (Nat×Bool)} (ρ:Operand->Value) (t:Operand->D) (hρ:∀ x,Rep P M β (t x) (ρ x)) {c:Prop} {d:D} {u:Up} (T:TypeId) (x:Operand) (lo:Option Operand) (hi:Option Operand) (mx:Option Operand)
 (h:opF P dst ver t s (.slice T x lo hi mx)=some (c,d,u)) (hc:c):OpOK P C s u U ver M β ((execOp ρ ⟨dst,(.slice T x lo hi mx),type,pos,after,guard⟩).run P w) d:=by
 unfold execOp
 simp only
 simp only[opF] at h
 split at h
 ·rename_i a b zz E sz l hh m hT hl hhh hm
  split at h
  ·rename_i te hE
   simp only[Option.map_eq_some_iff,Prod.mk.injEq] at h
   obtain ⟨⟨c',d'⟩,hs,rfl,rfl,rfl⟩:=h
   obtain ⟨k1,e1⟩:=ivO_rep hρ hl
   obtain ⟨k2,e2⟩:=ivO_rep hρ hhh
   obtain ⟨k3,e3⟩:=ivO_rep hρ hm
   simp only[e1,e2,e3]
   exact VOK.op (sliceD_ok I hT hE hs hc (hρ x))
  ·cases h
 ·rename_i a b zz n E sz' hT hl hhh hm
  split at h
  ·rename_i te z cs hE hx
   split at h
   ·rename_i hcond
    obtain ⟨h1,rfl,h0,h2,h3⟩:=hcond
    simp only[Option.some.injEq,Prod.mk.injEq] at h
    obtain ⟨rfl,rfl,rfl⟩:=h
    obtain ⟨k1,e1⟩:=ivO_rep hρ hl
    obtain ⟨k2,e2⟩:=ivO_rep hρ hhh
    obtain ⟨k3,e3⟩:=ivO_rep hρ hm
    simp only[e1,e2,e3]
    have hr:=hρ x
    rw[hx] at hr
    exact VOK.op (sliceA_ok I hT hE h1 h0 h2 h3 hr)
   ·cases h
  ·cases h
 ·cases h
theorem op_fieldAddr (I:Inv P C s U M β w) (_hv:¬ U ver) {dst:Option Tmp} {type:TypeId} {pos:String} {after:Array Edge} {guard:Option (Nat×Bool)} (ρ:Operand->Value) (t:Operand->D) (hρ:∀ x,Rep P M β (t x) (ρ x)) {c:Prop} {d:D} {u:Up} (T:TypeId) (x:Operand) (f:Nat)
 (h:opF P dst ver t s (.fieldAddr T x f)=some (c,d,u)) (hc:c):OpOK P C s u U ver M β ((execOp ρ ⟨dst,(.fieldAddr T x f),type,pos,after,guard⟩).run P w) d:=by
 unfold execOp
 simp only
 simp only[opF] at h
 have hr:=hρ x
 split at h
 ·rename_i a b zz fs id v z i cc hT hx
  split at h
  ·rename_i off sz ft hf
   split at h
   ·cases h
   ·rename_i hne
    simp only[Option.some.injEq,Prod.mk.injEq] at h
    obtain ⟨rfl,rfl,rfl⟩:=h
    rw[hx] at hr
    simp only[Rep] at hr
    obtain ⟨bb,cb,hb,he⟩:=hr
    obtain ⟨fields,hu,rfl,_⟩:=und_struct hT
    obtain ⟨fd,g1,g2,g3,g4⟩:=fields_get hf
    have hp:=fieldPlace_ok (P:=P) (w:=w) (fd:=fd) (by rw[g3];exact hne) bb (i*z+cc)
    refine .val I (v:=.pointer (some ⟨bb,i*z+cc+off,none⟩)) ?_ ?_
    ·rw[he];simp[Instr.fieldAt,run_underlying hu,g1,Instr.sureAddr,hp,g2]
    ·simp only[Rep];exact ⟨bb,cb,hb,by rw[Nat.add_assoc]⟩
  ·cases h
 ·rename_i a b zz fs z cs cc hT hx
  split at h
  ·rename_i off sz ft hf
   split at h
   ·cases h
   ·rename_i hne
    simp only[Option.some.injEq,Prod.mk.injEq] at h
    obtain ⟨rfl,rfl,rfl⟩:=h
    rw[hx] at hr
    simp only[Rep] at hr
    obtain ⟨hz,bb,o,he,hrc⟩:=hr
    obtain ⟨fields,hu,rfl,_⟩:=und_struct hT
    obtain ⟨fd,g1,g2,g3,g4⟩:=fields_get hf
    have hp:=fieldPlace_ok (P:=P) (w:=w) (fd:=fd) (by rw[g3];exact hne) bb (o+cc)
    refine .val I (v:=.pointer (some ⟨bb,o+cc+off,none⟩)) ?_ ?_
    ·rw[he];simp[Instr.fieldAt,run_underlying hu,g1,Instr.sureAddr,hp,g2]
    ·simp only[Rep];exact ⟨hz,bb,o,by rw[Nat.add_assoc],hrc⟩
  ·cases h
 ·cases h
theorem op_field (I:Inv P C s U M β w) (_hv:¬ U ver) {dst:Option Tmp} {type:TypeId} {pos:String} {after:Array Edge} {guard:Option (Nat×Bool)} (ρ:Operand->Value) (t:Operand->D) (hρ:∀ x,Rep P M β (t x) (ρ x)) {c:Prop} {d:D} {u:Up} (T:TypeId) (x:Operand) (f:Nat)
 (h:opF P dst ver t s (.field T x f)=some (c,d,u)) (hc:c):OpOK P C s u U ver M β ((execOp ρ ⟨dst,(.field T x f),type,pos,after,guard⟩).run P w) d:=by
 unfold execOp
 simp only
 simp only[opF] at h
 have hr:=hρ x
 split at h
 ·rename_i a b zz fs cs hT hx
  split at h
  ·rename_i off sz ft hf
   split at h
   ·rename_i ty hty
    split at h
    ·rename_i hsz
     simp only[Option.some.injEq,Prod.mk.injEq] at h
     obtain ⟨rfl,rfl,rfl⟩:=h
     obtain ⟨hfit,hag⟩:=hc
     rw[hx] at hr
     simp only[Rep] at hr
     obtain ⟨vs,he,hrl⟩:=hr
     obtain ⟨fields,hu,rfl,_⟩:=und_struct hT
     obtain ⟨fd,g1,g2,g3,g4⟩:=fields_get hf
     subst g4
     have hlen:=hrl.length
     rw[he]
     cases hagg:ty.isAgg with
     | true =>
      refine .val I (v:=.agg ((vs.toArray).extract off (off+sz))) ?_ ?_
      ·simp[Instr.field,run_underlying hu,g1,part,asAgg,isAgg_run hty,hagg,size_run hty,hsz,g2]
      ·simp only[cellsD,if_true,Rep]
       refine ⟨(vs.drop off).take sz,?_,(hrl.drop off).take sz⟩
       congr 1
       apply Array.ext'
       simp[List.extract_eq_take_drop]
     | false =>
      have h1:sz=1:=by rcases hag with h | h;(rw[hagg] at h;cases h);exact h
      subst h1
      obtain ⟨x0,hx0,hr0⟩:=hrl.get off (cs[off]'(by omega)) (by simp)
      refine .val I (v:=x0) ?_ ?_
      ·simp[Instr.field,run_underlying hu,g1,part,asAgg,isAgg_run hty,hagg,g2,hx0]
      ·simp only[cellsD,Bool.false_eq_true,if_false]
       have:((cs.drop off).take 1).headD .any=cs[off]'(by omega):=by
        rw[List.take_one]
        simp[List.head?_drop,show off<cs.length by omega]
       rw[this];exact hr0
    ·cases h
   ·cases h
  ·cases h
 ·cases h
theorem op_indexAddr (I:Inv P C s U M β w) (_hv:¬ U ver) {dst:Option Tmp} {type:TypeId} {pos:String} {after:Array Edge} {guard:Option (Nat×Bool)} (ρ:Operand->Value) (t:Operand->D) (hρ:∀ x,Rep P M β (t x) (ρ x)) {c:Prop} {d:D} {u:Up} (T:TypeId) (x:Operand) (ix:Operand)
 (h:opF P dst ver t s (.indexAddr T x ix)=some (c,d,u)) (hc:c):OpOK P C s u U ver M β ((execOp ρ ⟨dst,(.indexAddr T x ix),type,pos,after,guard⟩).run P w) d:=by
 unfold execOp
 simp only
 simp only[opF] at h
 have hr:=hρ x
 split at h
 ·rename_i a b zz E sz E' z es i hT hx hi
  split at h
  ·rename_i hsz
   obtain ⟨rfl,hne⟩:=hsz
   simp only[Option.some.injEq,Prod.mk.injEq] at h
   obtain ⟨rfl,rfl,rfl⟩:=h
   obtain ⟨k,hk,_⟩:=iv_rep hi (hρ ix)
   obtain ⟨hu,hcz⟩:=und_slice hT
   rw[hx] at hr
   simp only[Rep] at hr
   obtain ⟨q1,q2,q3,base,cap,he,hcap,hr⟩:=hr
   have hlt:i.toNat<es.length:=by omega
   rcases hr with rfl | ⟨bb,o,rfl,hr⟩
   ·simp at hlt
   ·have hsize:∀ {n:Nat},sz=n->n≠0->(sizeOf E).run P w=.ok n w:=fun {n} h1 h2=>size_cells (hcz.symm.trans h1) h2 w
    have hrc:=hr.get q1 i.toNat es[i.toNat] (by simp[hlt])
    have hgd:es.getD i.toNat []=es[i.toNat]:=by rw[List.getD_eq_getElem?_getD,List.getElem?_eq_getElem hlt];rfl
    rcases Nat.eq_zero_or_pos sz with hz0 | hz0
    ·exact absurd hz0 hne
    ·refine .val I (v:=.pointer (some ⟨bb,o+i.toNat*sz,none⟩)) ?_ ?_
     ·rw[he,hk]
      simp[Instr.indexAt,run_underlying hu,asIntOf,hc.1,hc.2,hsize rfl (by omega),Addr.add_p]
     ·simp only[Rep]
      rw[hgd]
      exact ⟨q1 _ (List.getElem_mem _),bb,o+i.toNat*sz,by simp,hrc⟩
  ·cases h
 ·rename_i a b zz E sz id v z off len i hT hx hi
  split at h
  ·rename_i hsz
   obtain ⟨rfl,hne⟩:=hsz
   simp only[Option.some.injEq,Prod.mk.injEq] at h
   obtain ⟨rfl,rfl,rfl⟩:=h
   obtain ⟨k,hk,_⟩:=iv_rep hi (hρ ix)
   obtain ⟨hu,hcz⟩:=und_slice hT
   rw[hx] at hr
   simp only[Rep] at hr
   rcases hr with ⟨_,_,rfl,_,_⟩ | ⟨bb,cb,o,cap,hb1,he,hcap,hcb,ho⟩
   ·omega
   ·have ho':o=off*sz:=by rcases ho with h | h;exact h;omega
    subst ho'
    refine .val I (v:=.pointer (some ⟨bb,off*sz+i.toNat*sz,none⟩)) ?_ ?_
    ·rw[he,hk]
     have hsize:=size_cells hcz.symm hne w
     simp[Instr.indexAt,run_underlying hu,asIntOf,hc.1,hc.2,hsize,Addr.add_p]
    ·simp only[Rep]
     exact ⟨bb,cb,hb1,by rw[Nat.add_mul];simp⟩
  ·cases h
 ·rename_i a b zz n E sz z cs cc i hT hx hi
  split at h
  ·cases h
  ·rename_i hne
   simp only[Option.some.injEq,Prod.mk.injEq] at h
   obtain ⟨rfl,rfl,rfl⟩:=h
   obtain ⟨k,hk,_⟩:=iv_rep hi (hρ ix)
   obtain ⟨hu,hcz⟩:=und_array hT
   have hsize:=size_cells hcz.symm hne w
   rw[hx] at hr
   simp only[Rep] at hr
   obtain ⟨hz,bb,o,he,hrc⟩:=hr
   refine .val I (v:=.pointer (some ⟨bb,o+cc+i.toNat*sz,none⟩)) ?_ ?_
   ·rw[he,hk]
    simp[Instr.indexAt,run_underlying hu,asIntOf,Instr.sureAddr,hc.1,hc.2,hsize,Addr.add_p]
   ·simp only[Rep];exact ⟨hz,bb,o,by rw[Nat.add_assoc],hrc⟩
 ·rename_i a b zz n E sz id v z j cc i hT hx hi
  split at h
  ·cases h
  ·rename_i hne
   simp only[Option.some.injEq,Prod.mk.injEq] at h
   obtain ⟨rfl,rfl,rfl⟩:=h
   obtain ⟨k,hk,_⟩:=iv_rep hi (hρ ix)
   obtain ⟨hu,hcz⟩:=und_array hT
   have hsize:=size_cells hcz.symm hne w
   rw[hx] at hr
   simp only[Rep] at hr
   obtain ⟨bb,cb,hb1,he⟩:=hr
   refine .val I (v:=.pointer (some ⟨bb,j*z+cc+i.toNat*sz,none⟩)) ?_ ?_
   ·rw[he,hk]
    simp[Instr.indexAt,run_underlying hu,asIntOf,Instr.sureAddr,hc.1,hc.2,hsize,Addr.add_p]
   ·simp only[Rep];exact ⟨bb,cb,hb1,by rw[Nat.add_assoc]⟩
 ·cases h
theorem op_index (I:Inv P C s U M β w) (_hv:¬ U ver) {dst:Option Tmp} {type:TypeId} {pos:String} {after:Array Edge} {guard:Option (Nat×Bool)} (ρ:Operand->Value) (t:Operand->D) (hρ:∀ x,Rep P M β (t x) (ρ x)) {c:Prop} {d:D} {u:Up} (T:TypeId) (x:Operand) (ix:Operand)
 (h:opF P dst ver t s (.index T x ix)=some (c,d,u)) (hc:c):OpOK P C s u U ver M β ((execOp ρ ⟨dst,(.index T x ix),type,pos,after,guard⟩).run P w) d:=by
 unfold execOp
 simp only
 simp only[opF] at h
 have hr:=hρ x
 split at h
 ·rename_i a b zz n e sz cs i hT hx hi
  split at h
  ·rename_i ty hty
   split at h
   ·rename_i hsz
    simp only[Option.some.injEq,Prod.mk.injEq] at h
    obtain ⟨rfl,rfl,rfl⟩:=h
    obtain ⟨h0,hn,hfit,hag⟩:=hc
    obtain ⟨k,hk,_⟩:=iv_rep hi (hρ ix)
    obtain ⟨hu,hcz⟩:=und_array hT
    rw[hx] at hr
    simp only[Rep] at hr
    obtain ⟨vs,he,hrl⟩:=hr
    have hlen:=hrl.length
    rw[Nat.add_mul,Nat.one_mul] at hfit
    rw[he,hk]
    cases hagg:ty.isAgg with
    | true =>
     refine .val I (v:=.agg ((vs.toArray).extract (i.toNat*sz) (i.toNat*sz+sz))) ?_ ?_
     ·simp[Instr.index,run_underlying hu,asIntOf,h0,hn,part,asAgg,isAgg_run hty,hagg,size_run hty,hsz]
     ·simp only[cellsD,if_true,Rep]
      refine ⟨(vs.drop (i.toNat*sz)).take sz,?_,(hrl.drop (i.toNat*sz)).take sz⟩
      congr 1
      apply Array.ext'
      simp[List.extract_eq_take_drop]
    | false =>
     have h1:sz=1:=by rcases hag with h | h;(rw[hagg] at h;cases h);exact h
     subst h1
     obtain ⟨x0,hx0,hr0⟩:=hrl.get (i.toNat*1) (cs[i.toNat*1]'(by omega)) (by simp)
     refine .val I (v:=x0) ?_ ?_
     ·simp[Instr.index,run_underlying hu,asIntOf,h0,hn,part,asAgg,isAgg_run hty,hagg,size_run hty,hsz]
      have:vs[i.toNat]? = some x0:=by rw[← hx0,Nat.mul_one]
      simp[this]
     ·simp only[cellsD,Bool.false_eq_true,if_false]
      have:((cs.drop (i.toNat*1)).take 1).headD .any=cs[i.toNat*1]'(by omega):=by
       rw[List.take_one]
       have hl:i.toNat<cs.length:=by omega
       simp[List.head?_drop,hl]
      rw[this];exact hr0
   ·cases h
  ·cases h
 ·cases h
theorem op_extract (I:Inv P C s U M β w) (_hv:¬ U ver) {dst:Option Tmp} {type:TypeId} {pos:String} {after:Array Edge} {guard:Option (Nat×Bool)} (ρ:Operand->Value) (t:Operand->D) (hρ:∀ x,Rep P M β (t x) (ρ x)) {c:Prop} {d:D} {u:Up} (x:Operand) (i:Nat)
 (h:opF P dst ver t s (.extract x i)=some (c,d,u)) (hc:c):OpOK P C s u U ver M β ((execOp ρ ⟨dst,(.extract x i),type,pos,after,guard⟩).run P w) d:=by
 unfold execOp
 simp only
 simp only[opF] at h
 have hr:=hρ x
 split at h
 ·rename_i ds hx
  split at h
  ·rename_i hi
   simp only[Option.some.injEq,Prod.mk.injEq] at h
   obtain ⟨rfl,rfl,rfl⟩:=h
   rw[hx] at hr
   simp only[Rep] at hr
   obtain ⟨vs,he,hrl⟩:=hr
   obtain ⟨v,hv1,hv2⟩:=hrl.get i ds[i] (by simp[hi])
   refine .val I (v:=v) ?_ ?_
   ·rw[he];simp[Instr.extract,hv1]
   ·rw[List.getD_eq_getElem?_getD,List.getElem?_eq_getElem hi];exact hv2
  ·cases h
 ·cases h
theorem args_one {t:Operand->D} {ρ:Operand->Value} (hρ:∀ x,Rep P M β (t x) (ρ x)) {args:Array Operand} {d:D} (h:args.toList.map t=[d]):∃ v,args.map ρ=#[v]∧Rep P M β d v:=by
 obtain ⟨l⟩:=args
 match l,h with
 | [x],h =>
  obtain rfl:t x=d:=by simpa using h
  exact ⟨ρ x,by simp,hρ x⟩
theorem args_two {t:Operand->D} {ρ:Operand->Value} (hρ:∀ x,Rep P M β (t x) (ρ x)) {args:Array Operand} {d e:D} (h:args.toList.map t=[d,e]):∃ v u,args.map ρ=#[v,u]∧Rep P M β d v∧Rep P M β e u:=by
 obtain ⟨l⟩:=args
 match l,h with
 | [x,y],h =>
  obtain ⟨rfl,rfl⟩:t x=d∧t y=e:=by simpa using h
  exact ⟨ρ x,ρ y,by simp,hρ x,hρ y⟩
theorem types_one {types:Array TypeId} {T:TypeId} (h:types.toList=[T]):types=#[T]:=by
 obtain ⟨l⟩:=types;simp at h;simp[h]
theorem types_two {types:Array TypeId} {T T2:TypeId} (h:types.toList=[T,T2]):types=#[T,T2]:=by
 obtain ⟨l⟩:=types;simp at h;simp[h]
theorem len_nat {n:Nat} (h:n<=top47):wfV (.int .i64 n):=by
 simp only[wfV,IntKind.min,IntKind.max,IntKind.signed,IntKind.bits,if_true]
 simp only[top47] at h
 omega
theorem op_len (I:Inv P C s U M β w) {dst:Option Tmp} {type:TypeId} {pos:String} {after:Array Edge} {guard:Option (Nat×Bool)} (ρ:Operand->Value) (t:Operand->D) (hρ:∀ x,Rep P M β (t x) (ρ x)) {c:Prop} {d:D} {u:Up} (args:Array Operand) (types:Array TypeId)
 (h:opF P dst ver t s (.call ⟨.builtin .len,args,types⟩)=some (c,d,u)) (hc:c):OpOK P C s u U ver M β ((execOp ρ ⟨dst,.call ⟨.builtin .len,args,types⟩,type,pos,after,guard⟩).run P w) d:=by
 simp only[opF] at h
 split at h
 ·rename_i d0 T ha ht
  obtain ⟨v,hv,hr⟩:=args_one hρ ha
  have hty:=types_one ht
  subst hty
  have start:∀ r:Int,(Builtin.len_ #[T] type #[v]).run P w=.ok (.int .i64 r) w->(execOp ρ ⟨dst,.call ⟨.builtin .len,args,#[T]⟩,type,pos,after,guard⟩).run P w=.ok (.value (.int .i64 r)) w:=by
   intro r hrun
   simp[execOp,resolve,invoke,builtin,hv,hrun]
  split at h
  ·rename_i a b zz E sz hT
   simp only[Option.some.injEq,Prod.mk.injEq] at h
   obtain ⟨rfl,rfl,rfl⟩:=h
   simp only[Rep] at hr
   obtain ⟨a',rfl⟩:=hr
   exact .val I (v:=.int .i64 0) (start 0 (by simp[Builtin.len_,run_underlying (und_slice hT).1,goInt])) (rep_int _ _ (len_nat (n:=0) (by decide)))
  ·rename_i a b zz E sz E' z es hT
   simp only[Option.some.injEq,Prod.mk.injEq] at h
   obtain ⟨rfl,rfl,rfl⟩:=h
   simp only[Rep] at hr
   obtain ⟨_,h2,_,a',cap,rfl,_⟩:=hr
   exact .val I (v:=.int .i64 es.length) (start _ (by simp[Builtin.len_,run_underlying (und_slice hT).1,goInt])) (rep_int _ _ (len_nat h2))
  ·rename_i a b zz E sz id v' z off len hT
   simp only[Option.some.injEq,Prod.mk.injEq] at h
   obtain ⟨rfl,rfl,rfl⟩:=h
   have hv2:∃ a cap,v=.slice a len cap:=by
    simp only[Rep] at hr
    rcases hr with ⟨_,_,rfl,a,rfl⟩ | ⟨_,_,_,cap,_,rfl,_⟩
    ·exact ⟨_,_,rfl⟩
    ·exact ⟨_,_,rfl⟩
   obtain ⟨a',cap,rfl⟩:=hv2
   exact .val I (v:=.int .i64 len) (start _ (by simp[Builtin.len_,run_underlying (und_slice hT).1,goInt])) (rep_int _ _ (len_nat hc))
  ·rename_i a b zz n E sz hT
   split at h
   ·rename_i hn
    simp only[Option.some.injEq,Prod.mk.injEq] at h
    obtain ⟨rfl,rfl,rfl⟩:=h
    exact .val I (v:=.int .i64 n) (start _ (by simp[Builtin.len_,run_underlying (und_array hT).1,goInt])) (rep_int _ _ (len_nat hn))
   ·cases h
  ·rename_i id v0 _
   split at h
   ·rename_i k E v' k2 es hT hs
    split at h
    ·rename_i hcond
     obtain ⟨rfl,rfl⟩:=hcond
     simp only[Option.some.injEq,Prod.mk.injEq] at h
     obtain ⟨rfl,rfl,rfl⟩:=h
     obtain ⟨K,hT1,hT2⟩:=mapTy_spec hT
     simp only[Rep] at hr
     obtain ⟨b,cb,hb,rfl⟩:=hr
     obtain ⟨x0,hx0,hob⟩:=I.obs id v0 _ hs
     rw[hb] at hx0
     obtain rfl:some (b,cb)=x0:=by simpa using hx0
     obtain ⟨rfl,h1,h2,ents,clock,h3,h4,h5,h6⟩:=hob
     have hl:=h4.length
     have hl':ents.size=es.length:=by simpa using hl
     exact .val I (v:=.int .i64 es.length) (start _ (by simp[Builtin.len_,run_underlying hT1,goInt,Go.MapKept.run_getObj_map h3,hl'])) (rep_int _ _ (len_nat h1))
    ·cases h
   ·cases h
  ·cases h
 ·cases h
theorem op_delete (I:Inv P C s U M β w) {dst:Option Tmp} {type:TypeId} {pos:String} {after:Array Edge} {guard:Option (Nat×Bool)} (ρ:Operand->Value) (t:Operand->D) (hρ:∀ x,Rep P M β (t x) (ρ x)) {c:Prop} {d:D} {u:Up} (args:Array Operand) (types:Array TypeId)
 (h:opF P dst ver t s (.call ⟨.builtin .delete,args,types⟩)=some (c,d,u)) (_hc:c):OpOK P C s u U ver M β ((execOp ρ ⟨dst,.call ⟨.builtin .delete,args,types⟩,type,pos,after,guard⟩).run P w) d:=by
 simp only[opF] at h
 split at h
 ·rename_i id v k' n T ts ha ht
  obtain ⟨v1,v2,hvs,hr1,hr2⟩:=args_two hρ ha
  obtain ⟨tl⟩:=types
  simp only at ht
  subst ht
  split at h
  ·rename_i k E v' k2 es hT hs
   split at h
   ·rename_i hcond
    obtain ⟨rfl,rfl,rfl⟩:=hcond
    simp only[Option.some.injEq,Prod.mk.injEq] at h
    obtain ⟨rfl,rfl,rfl⟩:=h
    obtain ⟨K,hT1,hT2⟩:=mapTy_spec hT
    simp only[Rep] at hr1 hr2
    obtain ⟨b,cb,hb,rfl⟩:=hr1
    obtain ⟨rfl,_⟩:=hr2
    obtain ⟨x0,hx0,hob⟩:=I.obs id v _ hs
    rw[hb] at hx0
    obtain rfl:some (b,cb)=x0:=by simpa using hx0
    obtain ⟨rfl,h1,h2,ents,clock,h3,h4,h5,h6⟩:=hob
    have start:∀ a,Instr.findNow (.int k) (.int k n) ents.toList 0=some a->(Builtin.delete_ ⟨T::ts⟩ type #[.map (some b),.int k n]).run P w =
     .ok (.tuple #[]) { w with heap:=w.heap.setIfInBounds b (.map (match a with | some (i,_)=>ents.eraseIdxIfInBounds i | none=>ents) clock) }:=by
     intro a ha
     unfold Builtin.delete_
     cases a with
     | none=>simp[run_underlying hT1,Go.MapKept.run_getObj_map h3,Go.MapKept.run_checkKey hT2 (isKey_int k n),Go.MapKept.run_findKey hT2 ha,Go.MapKept.run_setObj_map _ h3]
     | some y=>simp[run_underlying hT1,Go.MapKept.run_getObj_map h3,Go.MapKept.run_checkKey hT2 (isKey_int k n),Go.MapKept.run_findKey hT2 ha,Go.MapKept.run_setObj_map _ h3]
    have start2:∀ a,Instr.findNow (.int k) (.int k n) ents.toList 0=some a->(execOp ρ ⟨dst,.call ⟨.builtin .delete,args,⟨T::ts⟩⟩,type,pos,after,guard⟩).run P w =
     .ok (.value (.tuple #[])) { w with heap:=w.heap.setIfInBounds b (.map (match a with | some (i,_)=>ents.eraseIdxIfInBounds i | none=>ents) clock) }:=by
     intro a ha
     simp[execOp,resolve,invoke,builtin,hvs,start a ha]
    rcases find_ent n ents.toList es 0 h4 with ⟨g1,g2,g3,g4⟩ | ⟨j,e,d0,g1,g2,g3,g4,g5,g6,g7,g8,g9⟩
    ·refine ⟨M,β,_,.tuple #[],.inl (start2 _ g4),?_,by simp[Rep,RepL],MLe.refl _,BLe.refl _⟩
     rw[g2]
     exact (I.setMap hs hb h3 h1 h4 h5 h6).mono fun _ h=>.inl h
    ·have hle:(ents.eraseIdxIfInBounds (0+j)).toList=ents.toList.eraseIdx j:=by
      have hj:j<ents.size:=by
       rcases Nat.lt_or_ge j ents.size with h' | h'
       ·exact h'
       ·rw[List.getElem?_eq_none (by simpa using h')] at g3;cases g3
      rw[Nat.zero_add]
      simp[Array.eraseIdxIfInBounds,hj]
     refine ⟨M,β,_,.tuple #[],.inl (start2 _ g2),?_,by simp[Rep,RepL],MLe.refl _,BLe.refl _⟩
     refine (I.setMap hs hb h3 (by omega) (by rw[hle];exact g7) ?_ ?_).mono fun _ h=>.inl h
     ·rw[hle]
      exact h5.sublist ((List.eraseIdx_sublist _ _).map _)
     ·intro e' he'
      rw[hle] at he'
      exact h6 e' (List.mem_of_mem_eraseIdx he')
   ·cases h
  ·cases h
 ·cases h
theorem op_cap (I:Inv P C s U M β w) {dst:Option Tmp} {type:TypeId} {pos:String} {after:Array Edge} {guard:Option (Nat×Bool)} (ρ:Operand->Value) (t:Operand->D) (hρ:∀ x,Rep P M β (t x) (ρ x)) {c:Prop} {d:D} {u:Up} (args:Array Operand) (types:Array TypeId)
 (h:opF P dst ver t s (.call ⟨.builtin .cap,args,types⟩)=some (c,d,u)) (_hc:c):OpOK P C s u U ver M β ((execOp ρ ⟨dst,.call ⟨.builtin .cap,args,types⟩,type,pos,after,guard⟩).run P w) d:=by
 simp only[opF] at h
 split at h
 ·rename_i d0 T ha ht
  obtain ⟨v,hv,hr⟩:=args_one hρ ha
  have hty:=types_one ht
  subst hty
  split at h
  ·rename_i a b zz E sz hT
   simp only[Option.some.injEq,Prod.mk.injEq] at h
   obtain ⟨rfl,rfl,rfl⟩:=h
   simp only[Rep] at hr
   obtain ⟨a',rfl⟩:=hr
   exact .val I (v:=.int .i64 0) (by simp[execOp,resolve,invoke,builtin,hv,Builtin.cap_,run_underlying (und_slice hT).1,goInt]) (rep_int _ _ (len_nat (n:=0) (by decide)))
  ·cases h
 ·cases h
theorem op_min (I:Inv P C s U M β w) {dst:Option Tmp} {type:TypeId} {pos:String} {after:Array Edge} {guard:Option (Nat×Bool)} (ρ:Operand->Value) (t:Operand->D) (hρ:∀ x,Rep P M β (t x) (ρ x)) {c:Prop} {d:D} {u:Up} (args:Array Operand) (types:Array TypeId)
 (h:opF P dst ver t s (.call ⟨.builtin .min,args,types⟩)=some (c,d,u)) (_hc:c):OpOK P C s u U ver M β ((execOp ρ ⟨dst,.call ⟨.builtin .min,args,types⟩,type,pos,after,guard⟩).run P w) d:=by
 simp only[opF] at h
 split at h
 ·rename_i j a k b ha
  split at h
  ·rename_i hk
   subst hk
   obtain ⟨v1,v2,hv,hr1,hr2⟩:=args_two hρ ha
   simp only[Option.some.injEq,Prod.mk.injEq] at h
   obtain ⟨rfl,rfl,rfl⟩:=h
   simp only[Rep] at hr1 hr2
   obtain ⟨rfl,w1⟩:=hr1
   obtain ⟨rfl,w2⟩:=hr2
   refine .val I (v:=.int j (if b<a then b else a)) (by simp[execOp,resolve,invoke,builtin,hv,Builtin.min_,Builtin.min2]) (rep_int _ _ ?_)
   split<;>assumption
  ·cases h
 ·cases h
theorem op_max (I:Inv P C s U M β w) {dst:Option Tmp} {type:TypeId} {pos:String} {after:Array Edge} {guard:Option (Nat×Bool)} (ρ:Operand->Value) (t:Operand->D) (hρ:∀ x,Rep P M β (t x) (ρ x)) {c:Prop} {d:D} {u:Up} (args:Array Operand) (types:Array TypeId)
 (h:opF P dst ver t s (.call ⟨.builtin .max,args,types⟩)=some (c,d,u)) (_hc:c):OpOK P C s u U ver M β ((execOp ρ ⟨dst,.call ⟨.builtin .max,args,types⟩,type,pos,after,guard⟩).run P w) d:=by
 simp only[opF] at h
 split at h
 ·rename_i j a k b ha
  split at h
  ·rename_i hk
   subst hk
   obtain ⟨v1,v2,hv,hr1,hr2⟩:=args_two hρ ha
   simp only[Option.some.injEq,Prod.mk.injEq] at h
   obtain ⟨rfl,rfl,rfl⟩:=h
   simp only[Rep] at hr1 hr2
   obtain ⟨rfl,w1⟩:=hr1
   obtain ⟨rfl,w2⟩:=hr2
   refine .val I (v:=.int j (if a<b then b else a)) (by simp[execOp,resolve,invoke,builtin,hv,Builtin.max_,Builtin.max2]) (rep_int _ _ ?_)
   split<;>assumption
  ·cases h
 ·cases h
theorem op_append (I:Inv P C s U M β w) (hv:¬ U ver) {dst:Option Tmp} {type:TypeId} {pos:String} {after:Array Edge} {guard:Option (Nat×Bool)} (ρ:Operand->Value) (t:Operand->D) (hρ:∀ x,Rep P M β (t x) (ρ x)) {c:Prop} {d:D} {u:Up} (args:Array Operand) (types:Array TypeId)
 (h:opF P dst ver t s (.call ⟨.builtin .append,args,types⟩)=some (c,d,u)) (hc:c):OpOK P C s u U ver M β ((execOp ρ ⟨dst,.call ⟨.builtin .append,args,types⟩,type,pos,after,guard⟩).run P w) d:=by
 simp only[opF] at h
 split at h
 ·rename_i d0 x0 T T2 ha ht
  obtain ⟨v1,v2,hvs,hr1,hr2⟩:=args_two hρ ha
  have hty:=types_two ht
  subst hty
  have start:∀ {d u},VOK P C s u U ver M β ((Builtin.append_ #[T,T2] type #[v1,v2]).run P w) d->OpOK P C s u U ver M β ((execOp ρ ⟨dst,.call ⟨.builtin .append,args,#[T,T2]⟩,type,pos,after,guard⟩).run P w) d:=by
   intro d u hk
   have:=VOK.op (sem:=Builtin.append_ #[T,T2] type #[v1,v2]) hk
   have e:(execOp ρ ⟨dst,.call ⟨.builtin .append,args,#[T,T2]⟩,type,pos,after,guard⟩).run P w=((do pure (Next.value (← Builtin.append_ #[T,T2] type #[v1,v2])):Sem Next)).run P w:=by
    simp[execOp,resolve,invoke,builtin,hvs]
   rw[e];exact this
  split at h
  ·rename_i a b zz E z hT
   split at h
   ·rename_i te hE
    split at h
    ·rename_i zc hzc
     split at h
     ·rename_i hcond
      obtain ⟨hz,hzl⟩:=hcond
      obtain ⟨z1,z2⟩:=zeroC_rep (P:=P) (M:=M) (β:=β) hzc
      have hzs:te.zero.cells.size=te.size:=by have:=z1.length;simp at this;omega
      split at h
      ·rename_i a2 b2 zz2 E2 sz2 hT2
       split at h
       ·rename_i c0 src hel
        have hc0:c0:=by
         unfold appD at h
         split at h
         ·simp only[Option.some.injEq,Prod.mk.injEq] at h;rw[← h.1] at hc;exact hc.1
         ·split at h
          ·split at h
           ·split at h
            ·simp only[Option.some.injEq,Prod.mk.injEq] at h;rw[← h.1] at hc;exact hc.1
            ·simp only[Option.some.injEq,Prod.mk.injEq] at h;rw[← h.1] at hc;exact hc.1
           ·cases h
          ·cases h
         ·cases h
        obtain ⟨base,cap,vals,rfl,e1,e2,e3,e4,e5,e6⟩:=elems_ok I hel hc0 hr2
        have R:=appRun_slice (w:=w) (o':=type) (und_slice hT).1 (und_slice hT2).1 hE (xb:=base) (m:=src.length) (xc:=cap) (vals:=vals) (by rw[hz];exact e2) e3 e4 e6
        exact start (appD_ok I hv hE hz hzc hzl e1 e5 e6 R h hc hr1)
       ·cases h
      ·rename_i a2 b2 zz2 k2 hT2
       split at h
       ·rename_i n hn
        have hc0:(0<=n∧n<=top47∧n.toNat*te.bytes<=top47):=by
         unfold appD at h
         split at h
         ·simp only[Option.some.injEq,Prod.mk.injEq] at h;rw[← h.1] at hc;exact hc.1
         ·split at h
          ·split at h
           ·split at h
            ·simp only[Option.some.injEq,Prod.mk.injEq] at h;rw[← h.1] at hc;exact hc.1
            ·simp only[Option.some.injEq,Prod.mk.injEq] at h;rw[← h.1] at hc;exact hc.1
           ·cases h
          ·cases h
         ·cases h
        obtain ⟨g0,g1,g2⟩:=hc0
        obtain ⟨k',hk',_⟩:=iv_rep hn hr2
        subst hk'
        have hvl:(if n.toNat*te.size=0 then ([]:List Value) else (Builtin.zeroCells te.zero.cells n.toNat).toList)=(Builtin.zeroCells te.zero.cells n.toNat).toList:=by
         split
         ·rename_i h0
          refine (List.eq_nil_of_length_eq_zero ?_).symm
          rw[Array.length_toList,zeroCells_size,hzs];exact h0
         ·rfl
        have hone:∀ v∈(Builtin.zeroCells te.zero.cells n.toNat).toList,v.oneCell'=true:=fun v hv=>zeroCells_one z2 n.toNat v (by simpa using hv)
        have R:=appRun_made (w:=w) (o':=type) (k':=k') (und_slice hT).1 (und_int hT2) hE g0 g1 g2 (vals:=(Builtin.zeroCells te.zero.cells n.toNat).toList) hvl.symm hone hzs
        exact start (appD_ok I hv hE hz hzc hzl (replicate_flat _ _ _ hzl) (zeros_rep hzc n.toNat) hone (by rw[List.length_replicate];exact R) h hc hr1)
       ·cases h
      ·cases h
     ·cases h
    ·cases h
   ·cases h
  ·cases h
 ·cases h
theorem op_clear (I:Inv P C s U M β w) {dst:Option Tmp} {type:TypeId} {pos:String} {after:Array Edge} {guard:Option (Nat×Bool)} (ρ:Operand->Value) (t:Operand->D) (hρ:∀ x,Rep P M β (t x) (ρ x)) {c:Prop} {d:D} {u:Up} (args:Array Operand) (types:Array TypeId)
 (h:opF P dst ver t s (.call ⟨.builtin .clear,args,types⟩)=some (c,d,u)) (hc:c):OpOK P C s u U ver M β ((execOp ρ ⟨dst,.call ⟨.builtin .clear,args,types⟩,type,pos,after,guard⟩).run P w) d:=by
 simp only[opF] at h
 split at h
 ·rename_i id v z off len T ha ht
  obtain ⟨v1,hvs,hr1⟩:=args_one hρ ha
  have hty:=types_one ht
  subst hty
  split at h
  ·rename_i a b zz E sz hT
   split at h
   ·rename_i te hE
    split at h
    ·rename_i zc v' E' z' es fz hzc hs
     split at h
     ·rename_i hcond
      obtain ⟨rfl,rfl,rfl,hz,hzl⟩:=hcond
      simp only[Option.some.injEq,Prod.mk.injEq] at h
      obtain ⟨rfl,rfl,rfl⟩:=h
      obtain ⟨hfit,hfz⟩:=hc
      obtain ⟨hu,hcz⟩:=und_slice hT
      have start:∀ {w'},(Builtin.clear_ #[T] type #[v1]).run P w=.ok (.tuple #[]) w'->(execOp ρ ⟨dst,.call ⟨.builtin .clear,args,#[T]⟩,type,pos,after,guard⟩).run P w=.ok (.value (.tuple #[])) w':=by
       intro w' hk
       simp[execOp,resolve,invoke,builtin,hvs,hk]
      have same:len=0->upd s id (some (v,.arr false E' z (es.take off++List.replicate len zc++es.drop (off+len)) fz))=s:=by
       rintro rfl
       funext i
       unfold upd
       split
       ·rename_i e;subst e;rw[hs];simp
       ·rfl
      have nil:∀ {a cap},len=0->v1=.slice a 0 cap->OpOK P C s [(id,v,.arr false E' z (es.take off++List.replicate len zc++es.drop (off+len)) fz)] U ver M β ((execOp ρ ⟨dst,.call ⟨.builtin .clear,args,#[T]⟩,type,pos,after,guard⟩).run P w) (.tup []):=by
       intro a cap h0 h1
       subst h1
       refine ⟨M,β,w,.tuple #[],.inl (start ?_),?_,by simp[Rep,RepL],MLe.refl _,BLe.refl _⟩
       ·unfold Builtin.clear_
        cases a<;>simp[run_underlying hu]
       ·rw[app1,same h0];exact I.mono fun _ h=>.inl h
      obtain ⟨x0,hx0,hob⟩:=I.obs id v _ hs
      simp only[Rep] at hr1
      rcases hr1 with ⟨hn,h1,h2,a,rfl⟩ | ⟨bb,cb,o,cap,hb1,rfl,hcap,hcb,ho⟩
      ·exact nil h2 rfl
      ·rw[hb1] at hx0
       obtain rfl:some (bb,cb)=x0:=by simpa using hx0
       obtain ⟨cs,T0,k1,k2,k3,k4,k5,k6,k7,k8,k9,k10⟩:=hob
       by_cases h0:len=0
       ·subst h0;exact nil rfl rfl
       have ho':o=off*z:=by rcases ho with h | h;exact h;omega
       subst ho'
       obtain ⟨z1,z2⟩:=zeroC_rep (P:=P) (M:=M) (β:=loc0) hzc
       have hzs:te.zero.cells.size=z:=by have:=z1.length;simp at this;omega
       have hvl:(Builtin.zeroCells te.zero.cells len).toList.length=(List.replicate len zc).length*z:=by
        rw[Array.length_toList,zeroCells_size,List.length_replicate,hzs]
       have hone:∀ x∈(Builtin.zeroCells te.zero.cells len).toList,x.oneCell'=true:=fun x hx=>zeroCells_one z2 len x (by simpa using hx)
       have hmul:(off+len)*z<=cb*z:=Nat.mul_le_mul_right _ (by omega)
       rw[Nat.add_mul] at hmul
       have hst:=run_storeCells_at P bb (off*z) T0 (Builtin.zeroCells te.zero.cells len).toList 0 cs w k1 (by rw[hvl,List.length_replicate];omega) hone
       simp only[Nat.add_zero] at hst
       have I':=I.seg (p:=off) (src:=List.replicate len zc) hs hb1 k1 k2 k3 k4 k8 (by simpa [selB] using k10) (fun e he=>by rw[(List.mem_replicate.1 he).2];exact hzl) hvl (zeros_rep hzc len) hone (by rw[List.length_replicate];exact hfit) hfz
       rw[List.length_replicate] at I'
       refine ⟨M,β,_,.tuple #[],.inl (start ?_),(by rw[app1];exact I'.mono fun _ h=>.inl h),by simp[Rep,RepL],MLe.refl _,BLe.refl _⟩
       unfold Builtin.clear_
       cases len with
       | zero=>exact absurd rfl h0
       | succ len=>simp[run_underlying hu,zero_run hE,hst]
     ·cases h
    ·cases h
   ·cases h
  ·cases h
 ·rename_i id v T ts ha ht
  obtain ⟨v1,hvs,hr1⟩:=args_one hρ ha
  obtain ⟨tl⟩:=types
  simp only at ht
  subst ht
  split at h
  ·rename_i k E v' k2 es hT hs
   split at h
   ·rename_i hcond
    obtain ⟨rfl,rfl⟩:=hcond
    simp only[Option.some.injEq,Prod.mk.injEq] at h
    obtain ⟨rfl,rfl,rfl⟩:=h
    obtain ⟨K,hT1,hT2⟩:=mapTy_spec hT
    simp only[Rep] at hr1
    obtain ⟨b,cb,hb,rfl⟩:=hr1
    obtain ⟨x0,hx0,hob⟩:=I.obs id v _ hs
    rw[hb] at hx0
    obtain rfl:some (b,cb)=x0:=by simpa using hx0
    obtain ⟨rfl,h1,h2,ents,clock,h3,h4,h5,h6⟩:=hob
    have start:(execOp ρ ⟨dst,.call ⟨.builtin .clear,args,⟨T::ts⟩⟩,type,pos,after,guard⟩).run P w=.ok (.value (.tuple #[])) { w with heap:=w.heap.setIfInBounds b (.map #[] clock) }:=by
     have:(Builtin.clear_ ⟨T::ts⟩ type #[.map (some b)]).run P w=.ok (.tuple #[]) { w with heap:=w.heap.setIfInBounds b (.map #[] clock) }:=by
      unfold Builtin.clear_
      simp[run_underlying hT1,Go.MapKept.run_getObj_map h3,Go.MapKept.run_setObj_map _ h3]
     simp[execOp,resolve,invoke,builtin,hvs,this]
    refine ⟨M,β,_,.tuple #[],.inl start,?_,by simp[Rep,RepL],MLe.refl _,BLe.refl _⟩
    exact (I.setMap (es':=[]) (ents':=#[]) hs hb h3 (Nat.zero_le _) rfl (by simp) (by simp)).mono fun _ h=>.inl h
   ·cases h
  ·cases h
 ·cases h
theorem op_copy (I:Inv P C s U M β w) {dst:Option Tmp} {type:TypeId} {pos:String} {after:Array Edge} {guard:Option (Nat×Bool)} (ρ:Operand->Value) (t:Operand->D) (hρ:∀ x,Rep P M β (t x) (ρ x)) {c:Prop} {d:D} {u:Up} (args:Array Operand) (types:Array TypeId)
 (h:opF P dst ver t s (.call ⟨.builtin .copy,args,types⟩)=some (c,d,u)) (hc:c):OpOK P C s u U ver M β ((execOp ρ ⟨dst,.call ⟨.builtin .copy,args,types⟩,type,pos,after,guard⟩).run P w) d:=by
 simp only[opF] at h
 split at h
 ·rename_i id v z off len x T ts ha ht
  obtain ⟨v1,v2,hvs,hr1,hr2⟩:=args_two hρ ha
  obtain ⟨types⟩:=types
  simp only at ht
  subst ht
  split at h
  ·rename_i a b zz E sz hT
   split at h
   ·rename_i te v' E' z' es fz c0 src hE hs hel
    split at h
    ·rename_i hcond
     obtain ⟨rfl,rfl,rfl,hz⟩:=hcond
     simp only[Option.some.injEq,Prod.mk.injEq] at h
     obtain ⟨rfl,rfl,rfl⟩:=h
     obtain ⟨hc0,hlen,hfit,hfz⟩:=hc
     obtain ⟨hu,hcz⟩:=und_slice hT
     obtain ⟨base,cap2,vals,rfl,e1,e2,e3,e4,e5,e6⟩:=elems_ok I hel hc0 hr2
     have hf:(Builtin.firstCells te.size src.length (.slice base src.length cap2)).run P w=.ok vals.toArray w:=by
      cases base with
      | none =>
       have hm:=e3 rfl
       have:vals=[]:=List.eq_nil_of_length_eq_zero (by rw[e2,hm,Nat.zero_mul])
       subst this
       simp[Builtin.firstCells]
      | some a=>exact run_firstCells_some (P:=P) w te.size src.length a src.length cap2 vals (by rw[hz];exact e2) (fun j v hj=>e4 a rfl j v hj)
     have start:∀ {w' x'},(Builtin.copy_ ⟨T::ts⟩ type #[v1,.slice base src.length cap2]).run P w=.ok x' w'->(execOp ρ ⟨dst,.call ⟨.builtin .copy,args,⟨T::ts⟩⟩,type,pos,after,guard⟩).run P w=.ok (.value x') w':=by
      intro w' x' hk
      simp[execOp,resolve,invoke,builtin,hvs,hk]
     have hl47:src.length<=140737488355328:=by
      have:=(I.obs id v _ hs)
      obtain ⟨x0,_,hob⟩:=this
      cases x0 with
      | none =>
       obtain ⟨_,h2,_⟩:=hob
       subst h2
       simp at hfit
       omega
      | some bc =>
       obtain ⟨_,_,_,_,_,_,h5,_⟩:=hob
       simp only[top47] at h5
       omega
     have hres:Rep P M β (.v (.int .i64 (src.length:Int))) (goInt src.length):=rep_int _ _ ⟨by show (-9223372036854775808:Int)<=_;omega,by show _<=(9223372036854775807:Int);omega⟩
     have hn:Nat.min src.length len=src.length:=Nat.min_eq_left hlen
     have nil:∀ {a cap},src=[]->v1=.slice a len cap->OpOK P C s [(id,v,.arr false E' z (es.take off++src++es.drop (off+src.length)) fz)] U ver M β ((execOp ρ ⟨dst,.call ⟨.builtin .copy,args,⟨T::ts⟩⟩,type,pos,after,guard⟩).run P w) (.v (.int .i64 (src.length:Int))):=by
      intro a cap h0 h1
      subst h1
      have hv0:vals=[]:=List.eq_nil_of_length_eq_zero (by rw[e2,h0];simp)
      have same:upd s id (some (v,.arr false E' z (es.take off++src++es.drop (off+src.length)) fz))=s:=by
       funext i
       unfold upd
       split
       ·rename_i e;subst e;rw[hs,h0];simp
       ·rfl
      refine ⟨M,β,w,goInt src.length,.inl (start ?_),?_,hres,MLe.refl _,BLe.refl _⟩
      ·unfold Builtin.copy_
       rw[hv0] at hf
       cases a<;>simp[run_underlying hu,Builtin.lenOf,hn,size_run hE,hf,storeCells]
      ·rw[app1,same];exact I.mono fun _ h=>.inl h
     obtain ⟨x0,hx0,hob⟩:=I.obs id v _ hs
     simp only[Rep] at hr1
     rcases hr1 with ⟨hn0,h1,h2,a,rfl⟩ | ⟨bb,cb,o,cap,hb1,rfl,hcap,hcb,ho⟩
     ·subst h2
      exact nil (List.eq_nil_of_length_eq_zero (by omega)) rfl
     ·rw[hb1] at hx0
      obtain rfl:some (bb,cb)=x0:=by simpa using hx0
      obtain ⟨cs,T0,k1,k2,k3,k4,k5,k6,k7,k8,k9,k10⟩:=hob
      by_cases h0:src.length=0
      ·exact nil (List.eq_nil_of_length_eq_zero h0) rfl
      have ho':o=off*z:=by rcases ho with h | h;exact h;omega
      subst ho'
      have hmul:(off+src.length)*z<=cb*z:=Nat.mul_le_mul_right _ (by omega)
      rw[Nat.add_mul] at hmul
      have hst:=run_storeCells_at P bb (off*z) T0 vals 0 cs w k1 (by rw[e2];omega) e6
      simp only[Nat.add_zero] at hst
      have I':=I.seg (p:=off) (src:=src) hs hb1 k1 k2 k3 k4 k8 (by simpa [selB] using k10) e1 e2 e5 e6 (by omega) hfz
      refine ⟨M,β,_,goInt src.length,.inl (start ?_),(by rw[app1];exact I'.mono fun _ h=>.inl h),hres,MLe.refl _,BLe.refl _⟩
      unfold Builtin.copy_
      simp[run_underlying hu,Builtin.lenOf,hn,size_run hE,hf,hst]
    ·cases h
   ·cases h
  ·cases h
 ·cases h
theorem und_concrete {t:TypeId} {ty:TyI} (h:tyOf P t=some ty) (hi:¬ ty.isIface=true):∃ d,P.underlying t=some d∧∀ m,d≠.interface m:=by
 obtain ⟨i,d,_,h2,_,_,_,h6⟩:=tyOf_spec h
 refine ⟨d,h2,fun m e=>hi ?_⟩
 subst e
 unfold TyI.isIface
 rw[← h6];rfl
theorem op_makeInterface (I:Inv P C s U M β w) (_hv:¬ U ver) {dst:Option Tmp} {type:TypeId} {pos:String} {after:Array Edge} {guard:Option (Nat×Bool)} (ρ:Operand->Value) (t:Operand->D) (hρ:∀ x,Rep P M β (t x) (ρ x)) {c:Prop} {d:D} {u:Up} (T:TypeId) (x:Operand)
 (h:opF P dst ver t s (.makeInterface T x)=some (c,d,u)) (hc:c):OpOK P C s u U ver M β ((execOp ρ ⟨dst,(.makeInterface T x),type,pos,after,guard⟩).run P w) d:=by
 unfold execOp
 simp only
 simp only[opF] at h
 split at h
 ·rename_i ty hT
  split at h
  ·cases h
  rename_i hi
  simp only[Option.some.injEq,Prod.mk.injEq] at h
  obtain ⟨rfl,rfl,rfl⟩:=h
  obtain ⟨dd,hu,hne⟩:=und_concrete hT hi
  refine .val I (v:=.iface T (ρ x)) ?_ ?_
  ·cases dd<;>first | exact absurd rfl (hne _) | simp[Instr.makeInterface,run_underlying hu]
  ·simp only[Rep];exact ⟨_,rfl,hρ x⟩
 ·cases h
theorem op_typeAssert (I:Inv P C s U M β w) (_hv:¬ U ver) {dst:Option Tmp} {type:TypeId} {pos:String} {after:Array Edge} {guard:Option (Nat×Bool)} (ρ:Operand->Value) (t:Operand->D) (hρ:∀ x,Rep P M β (t x) (ρ x)) {c:Prop} {d:D} {u:Up} (x:Operand) (xT A:TypeId) (ok:Bool)
 (h:opF P dst ver t s (.typeAssert x xT A ok)=some (c,d,u)) (hc:c):OpOK P C s u U ver M β ((execOp ρ ⟨dst,(.typeAssert x xT A ok),type,pos,after,guard⟩).run P w) d:=by
 unfold execOp
 simp only
 simp only[opF] at h
 have hr:=hρ x
 split at h
 ·rename_i te T d0 hT hx
  rw[hx] at hr
  split at h
  ·cases h
  rename_i hi
  obtain ⟨dd,hu,hne⟩:=und_concrete hT hi
  simp only[Rep] at hr
  obtain ⟨y,he,hy⟩:=hr
  split at h
  ·rename_i e
   simp only[Option.some.injEq,Prod.mk.injEq] at h
   obtain ⟨rfl,rfl,rfl⟩:=h
   refine .val I (v:=.tuple #[y,.bool true]) ?_ ?_
   ·rw[he];cases dd<;>first | exact absurd rfl (hne _) | simp[Instr.typeAssert,run_underlying hu,e]
   ·simp only[Rep,RepL];exact ⟨_,rfl,_,_,rfl,hy,_,_,rfl,⟨rfl,trivial⟩,rfl⟩
  ·rename_i e
   simp only[Option.some.injEq,Prod.mk.injEq] at h
   obtain ⟨rfl,rfl,rfl⟩:=h
   refine .val I (v:=.tuple #[te.zero,.bool false]) ?_ ?_
   ·rw[he];cases dd<;>first | exact absurd rfl (hne _) | simp[Instr.typeAssert,run_underlying hu,e,zero_run hT]
   ·simp only[Rep,RepL];exact ⟨_,rfl,_,_,rfl,ofV_rep _,_,_,rfl,⟨rfl,trivial⟩,rfl⟩
 ·rename_i te hT hx
  rw[hx] at hr
  split at h
  ·cases h
  rename_i hi
  obtain ⟨dd,hu,hne⟩:=und_concrete hT hi
  simp only[Rep] at hr
  simp only[Option.some.injEq,Prod.mk.injEq] at h
  obtain ⟨rfl,rfl,rfl⟩:=h
  refine .val I (v:=.tuple #[te.zero,.bool false]) ?_ ?_
  ·rw[hr.1];cases dd<;>first | exact absurd rfl (hne _) | simp[Instr.typeAssert,run_underlying hu,zero_run hT]
  ·simp only[Rep,RepL];exact ⟨_,rfl,_,_,rfl,ofV_rep _,_,_,rfl,⟨rfl,trivial⟩,rfl⟩
 ·cases h
theorem opF_ok (I:Inv P C s U M β w) (hv:¬ U ver) (o:Oper) (ρ:Operand->Value) (t:Operand->D) (hρ:∀ x,Rep P M β (t x) (ρ x)) (hcn:∀ v,ρ (.const v)=v) {c:Prop} {d:D} {u:Up}
 (h:opF P o.dst ver t s o.op=some (c,d,u)) (hc:c):OpOK P C s u U ver M β ((execOp ρ o).run P w) d:=by
 obtain ⟨dst,op,type,pos,after,guard⟩:=o
 simp only at h
 cases op with
 | move x=>exact op_move I hv ρ t hρ x h hc
 | assign x=>exact op_assign I hv ρ t hρ x h hc
 | pick g a b=>exact op_pick I hv ρ t hρ g a b h hc
 | alloc T=>exact op_alloc I hv ρ t hρ T h hc
 | box T x=>exact op_box I hv ρ t hρ T x h hc
 | build T parts=>exact op_build I hv ρ t hρ T parts h hc
 | buildSlice T n parts=>exact op_buildSlice I hv ρ t hρ T n parts h hc
 | load T a=>exact op_load I hv ρ t hρ T a h hc
 | store T a x=>exact op_store I hv ρ t hρ T a x h hc
 | nilCheck x=>exact op_nilCheck I hv ρ t hρ x h hc
 | binOp op T x y yt=>exact op_binOp I hv ρ t hρ op T x y yt (fun v e=>by rw[e];exact hcn v) h hc
 | unOp op T x=>exact op_unOp I hv ρ t hρ op T x h hc
 | convert S T x=>exact op_convert I hv ρ t hρ S T x h hc
 | makeFunc fn first captured=>exact op_makeFunc I hv ρ t hρ fn first captured h hc
 | makeSlice T l cc=>exact op_makeSlice I hv ρ t hρ T l cc h hc
 | slice T x lo hi mx=>exact op_slice I hv ρ t hρ T x lo hi mx h hc
 | fieldAddr T x f=>exact op_fieldAddr I hv ρ t hρ T x f h hc
 | field T x f=>exact op_field I hv ρ t hρ T x f h hc
 | indexAddr T x ix=>exact op_indexAddr I hv ρ t hρ T x ix h hc
 | index T x ix=>exact op_index I hv ρ t hρ T x ix h hc
 | makeMap T r=>exact op_makeMap I hv ρ t hρ T r h hc
 | mapUpdate T m k x=>exact op_mapUpdate I hv ρ t hρ T m k x h hc
 | insert T m k x=>exact op_insert I hv ρ t hρ T m k x h hc
 | lookup T m k ok=>exact op_lookup I hv ρ t hρ T m k ok h hc
 | extract x i=>exact op_extract I hv ρ t hρ x i h hc
 | makeInterface T x=>exact op_makeInterface I hv ρ t hρ T x h hc
 | typeAssert x xT A ok=>exact op_typeAssert I hv ρ t hρ x xT A ok h hc
 | call cl =>
  obtain ⟨callee,args,types⟩:=cl
  cases callee with
  | value f=>simp[opF] at h
  | invoke r m=>simp[opF] at h
  | builtin b =>
   cases b with
   | len=>exact op_len I ρ t hρ args types h hc
   | delete=>exact op_delete I ρ t hρ args types h hc
   | clear=>exact op_clear I ρ t hρ args types h hc
   | copy=>exact op_copy I ρ t hρ args types h hc
   | cap=>exact op_cap I ρ t hρ args types h hc
   | min=>exact op_min I ρ t hρ args types h hc
   | max=>exact op_max I ρ t hρ args types h hc
   | append=>exact op_append I hv ρ t hρ args types h hc
   | _=>simp[opF] at h
 | _=>simp[opF] at h
end
end Go.Sx
namespace Go.Sx
variable {P:Program}
structure St where
 t:Nat->D
 s:Heap
 n:Nat
 k:Nat
def Rel (P:Program) (C:Cx) (st:St) (a:Act) (w:World):Prop :=
 a.defers=C.df∧a.tmps.size=st.n∧∃ M β,BLe C.b0 β∧(∀ x,Rep P M β (st.t x) (a.tmps.getD x undef))∧Inv P C st.s (·<st.k) M β w
theorem ev_rep {C:Cx} {s:Heap} {U:Nat->Prop} {M:Mem} {β:Loc} {w:World} (I:Inv P C s U M β w) {t:Nat->D} {a:Act} (h:∀ x,Rep P M β (t x) (a.tmps.getD x undef)) (x:Operand) :
 Rep P M β (ev t C.G x) (a.eval x):=by
 cases x with
 | tmp i=>exact h i
 | const v=>exact ofV_rep v
 | global g =>
  simp only[ev,Act.eval]
  split
  ·rename_i cs hcs
   simp only[Rep]
   exact ⟨trivial,g,0,rfl,RepC.mono I.le (I.glob g cs hcs)⟩
  ·simp[Rep]
 | func f =>
  simp only[ev,Act.eval,Rep]
  exact ⟨[],[],rfl,by simp[RepL],by simp[RepL]⟩
def LB:Nat:=1000000
def locL (lb:List (Nat×Nat)):Loc:=fun id v=>if v=0∧LB<=id then (lb[id-LB]?).map some else none
def heapL (ls:List Ob):Heap:=fun id=>if LB<=id then (ls[id-LB]?).map (fun o=>(0,o)) else none
mutual
def FrRep (P:Program) (M:Mem) (w:World) (B:Nat):D->Value->List (Option (Nat×Nat))->Prop
 | .fsl E z es,y,l=>(l=[none]∧es=[]∧∃ a,y=.slice a 0 0) ∨
  ∃ b cb o,l=[some (b,cb)]∧B<=b∧y=.slice (some ⟨b,o,none⟩) es.length cb∧(o=0∨cb=0)∧ObRep P M loc0 w (some (b,cb)) (.arr false E z es 0)
 | .fmp k ks vs,y,l=>∃ b,l=[some (b,0)]∧B<=b∧y=.map (some b)∧ks.length=vs.length∧ObRep P M loc0 w (some (b,0)) (.mp k (ks.zip vs))
 | .agg cs,y,l=>∃ vs,y=.agg ⟨vs⟩∧FrRepL P M w B cs vs l
 | .tup cs,y,l=>∃ vs,y=.tuple ⟨vs⟩∧FrRepL P M w B cs vs l
 | .ifc t d,y,l=>∃ x,y=.iface t x∧FrRep P M w B d x l
 | .clo fn a b,y,l=>∃ va vb,y=.func fn ⟨va⟩ ⟨vb⟩∧∃ l1 l2,l=l1++l2∧FrRepL P M w B a va l1∧FrRepL P M w B b vb l2
 | .any,_,l=>l=[]
 | .v x,y,l=>l=[]∧Rep P M loc0 (.v x) y
 | .nsl,y,l=>l=[]∧Rep P M loc0 .nsl y
 | .isl E z es,y,l=>l=[]∧Rep P M loc0 (.isl E z es) y
 | .ipt z cs c,y,l=>l=[]∧Rep P M loc0 (.ipt z cs c) y
 | _,_,_=>False
def FrRepL (P:Program) (M:Mem) (w:World) (B:Nat):List D->List Value->List (Option (Nat×Nat))->Prop
 | [],vs,l=>vs=[]∧l=[]
 | d::ds,vs,l=>∃ x xs l1 l2,vs=x::xs∧l=l1++l2∧FrRep P M w B d x l1∧FrRepL P M w B ds xs l2
end
def blocks (l:List (Option (Nat×Nat))):List Nat:=l.filterMap (·.map (·.1))
def Post (P:Program) (M:Mem) (w:World) (lb:List (Nat×Nat)) (R:D->List Ob->Prop) (e:Ending) (w':World):Prop :=
 ∃ v r ls M' l,e=.returned v∧R r ls∧Kp w (lb.map (·.1)) w'∧MemOK M' w'∧(∀ b o,b<w.heap.size->M' b o=M b o)∧ls.length=lb.length ∧
  (∀ (k:Nat) ob x,ls[k]? = some ob->lb[k]? = some x->ObRep P M' loc0 w' (some x) ob∧ob.bx=true)∧FrRep P M' w' w.heap.size r v l∧(blocks l).Nodup
def ACalls (P:Program) (G:Nat->Option (List D)) (f:FuncId) (args:List D) (lent:List Ob) (R:D->List Ob->Prop):Prop :=
 (∃ fn,P.funcs[f]? = some fn∧fn.body.isNone=false∧(fn.name== "runtime.NumGoroutine")=false) ∧
 ∀ M w vs lb,MemOK M w->(∀ g cs,G g=some cs->RepC P M cs g 0)->lb.length=lent.length->(lb.map (·.1)).Nodup ->
  (∀ (k:Nat) ob x,lent[k]? = some ob->lb[k]? = some x->ObRep P M loc0 w (some x) ob∧ob.bx=true)->RepL P M (locL lb) args vs->Calls P f ⟨vs⟩ w (Post P M w lb R)
mutual
def imp (ver:Nat):Nat->D->D×Nat×Up
 | n,.fsl E z es=>(.osl n ver z 0 es.length,n+1,[(n,ver,.arr false E z es 0)])
 | n,.fmp k ks vs=>(.omp n ver,n+1,[(n,ver,.mp k (ks.zip vs))])
 | n,.agg cs=>let r:=impL ver n cs;(.agg r.1,r.2.1,r.2.2)
 | n,.tup cs=>let r:=impL ver n cs;(.tup r.1,r.2.1,r.2.2)
 | n,.ifc t d=>let r:=imp ver n d;(.ifc t r.1,r.2.1,r.2.2)
 | n,.clo fn a b=>let r:=impL ver n a;let q:=impL ver r.2.1 b;(.clo fn r.1 q.1,q.2.1,r.2.2++q.2.2)
 | n,d=>(d,n,[])
def impL (ver:Nat):Nat->List D->List D×Nat×Up
 | n,[]=>([],n,[])
 | n,d::ds=>let r:=imp ver n d;let q:=impL ver r.2.1 ds;(r.1::q.1,q.2.1,r.2.2++q.2.2)
end
section
variable {C:Cx} {U:Nat->Prop} {M:Mem} {w:World} {ver:Nat}
def Free (s:Heap) (β:Loc) (l:List Nat):Prop:=∀ b∈l,∀ id v ob cb,s id=some (v,ob)->β id v≠some (some (b,cb))
structure ImpOK (P:Program) (C:Cx) (s:Heap) (U:Nat->Prop) (M:Mem) (β:Loc) (w:World) (ver n n':Nat) (u:Up) (l:List (Option (Nat×Nat))) (β':Loc):Prop where
 inv:Inv P C (app s u) (fun v=>U v∨v=ver) M β' w
 le:BLe β β'
 next:n<=n'
 high:∀ i,n'<=i->β' i ver=none
 free:∀ l',Free s β l'->(∀ b∈l',b∉blocks l)->Free (app s u) β' l'
theorem ImpOK.nil {s:Heap} {β:Loc} (I:Inv P C s U M β w) {n:Nat} (hi:∀ i,n<=i->β i ver=none):ImpOK P C s U M β w ver n n [] [] β :=
 ⟨I.mono fun _ h=>.inl h,BLe.refl _,Nat.le_refl _,hi,fun _ h _=>h⟩
theorem ObRep.row {b cb:Nat} {ob:Ob} (h:ObRep P M loc0 w (some (b,cb)) ob) (hb:ob.bx=false) (β:Loc):ObRep P M β w (some (b,cb)) ob:=by
 cases ob with
 | mp kk es=>exact h
 | raw o=>exact h
 | arr bx E z es fz =>
  have:bx=false:=hb
  subst this
  exact h
theorem blocks_append (l1 l2:List (Option (Nat×Nat))):blocks (l1++l2)=blocks l1++blocks l2:=by simp[blocks]
mutual
theorem imp_ok {B:Nat} (hB:C.w0.heap.size<=B):∀ (d:D) (y:Value) (l:List (Option (Nat×Nat))) (n:Nat) {s:Heap} {U:Nat->Prop} {β:Loc},Inv P C s U M β w->(∀ i,n<=i->β i ver=none)->FrRep P M w B d y l->(blocks l).Nodup->Free s β (blocks l) ->
 ∃ β',ImpOK P C s U M β w ver n (imp ver n d).2.1 (imp ver n d).2.2 l β'∧Rep P M β' (imp ver n d).1 y
 | .fsl E z es,y,l,n,s,U,β,I,hi,hr,hnd,hf=>by
  simp only[FrRep] at hr
  simp only[imp]
  have hid:β n ver=none:=hi n (Nat.le_refl _)
  rcases hr with ⟨rfl,rfl,a,rfl⟩ | ⟨b,cb,o,rfl,hb,rfl,ho,hob⟩
  ·refine ⟨updL β n ver none,⟨I.setNil n ver E z (updL_le hid) (updL_same ..) updL_used,updL_le hid,by omega,fun i h=>?_,fun l' h _=>?_⟩,?_⟩
   ·unfold updL;rw[if_neg (by omega)];exact hi i (by omega)
   ·intro b hb id v ob cb hs hx
    by_cases hn:id=n
    ·subst hn
     have hs':some (ver,Ob.arr false E z [] 0)=some (v,ob):=by rw[← hs];show _=upd s id _ id;rw[upd_same]
     obtain ⟨rfl,rfl⟩:ver=v∧Ob.arr false E z [] 0=ob:=by simpa using hs'
     rw[updL_same] at hx;simp at hx
    ·have hs':s id=some (v,ob):=by rw[← hs];show _=upd s n _ id;rw[upd_other _ _ _ _ hn]
     have hx':β id v=some (some (b,cb)):=by
      unfold updL at hx;rw[if_neg (fun h=>hn h.1)] at hx;exact hx
     exact h b hb id v ob cb hs' hx'
   ·simp only[Rep]
    exact .inl ⟨updL_same ..,by simp⟩
  ·have hfree:∀ id' v' ob' cb',id'≠n->s id'=some (v',ob')->β id' v'≠some (some (b,cb')):=fun id' v' ob' cb' _ hs=>hf b (by simp[blocks]) id' v' ob' cb' hs
   have hob':=hob
   obtain ⟨cs,T,k1,k2,k3,k4,k5,k6,k7,k8,k9,k10⟩:=hob'
   have I':=I.set (M':=M) (β':=updL β n ver (some (b,cb))) (w':=w) n ver (.arr false E z es 0) b cb (MLe.refl _) (updL_le hid) (fun _ _=>rfl) (fun _ _ _=>rfl) (fun o x hx=>I.mem b o x hx) (updL_same ..) (hob.row rfl _) hfree (.inl (by omega)) (fun _ _=>rfl) rfl rfl rfl (Nat.le_refl _) updL_used
   refine ⟨updL β n ver (some (b,cb)),⟨I',updL_le hid,by omega,fun i h=>?_,fun l' h hl=>?_⟩,?_⟩
   ·unfold updL;rw[if_neg (by omega)];exact hi i (by omega)
   ·intro b' hb' id v ob cb' hs hx
    by_cases hn:id=n
    ·subst hn
     have hs':some (ver,Ob.arr false E z es 0)=some (v,ob):=by rw[← hs];show _=upd s id _ id;rw[upd_same]
     obtain ⟨rfl,rfl⟩:ver=v∧Ob.arr false E z es 0=ob:=by simpa using hs'
     rw[updL_same] at hx
     obtain ⟨rfl,rfl⟩:b=b'∧cb=cb':=by simpa using hx
     exact hl b hb' (by simp[blocks])
    ·have hs':s id=some (v,ob):=by rw[← hs];show _=upd s n _ id;rw[upd_other _ _ _ _ hn]
     have hx':β id v=some (some (b',cb')):=by
      unfold updL at hx;rw[if_neg (fun h=>hn h.1)] at hx;exact hx
     exact h b' hb' id v ob cb' hs' hx'
   ·simp only[Rep]
    exact .inr ⟨b,cb,o,cb,updL_same ..,rfl,k4,by simp,by rcases ho with h | h;(left;simp[h]);right;exact h⟩
 | .fmp k ks vs,y,l,n,s,U,β,I,hi,hr,hnd,hf=>by
  simp only[FrRep] at hr
  simp only[imp]
  have hid:β n ver=none:=hi n (Nat.le_refl _)
  obtain ⟨b,rfl,hb,rfl,hlen,hob⟩:=hr
  have hfree:∀ id' v' ob' cb',id'≠n->s id'=some (v',ob')->β id' v'≠some (some (b,cb')):=fun id' v' ob' cb' _ hs=>hf b (by simp[blocks]) id' v' ob' cb' hs
  have I':=I.set (M':=M) (β':=updL β n ver (some (b,0))) (w':=w) n ver (.mp k (ks.zip vs)) b 0 (MLe.refl _) (updL_le hid) (fun _ _=>rfl) (fun _ _ _=>rfl) (fun o x hx=>I.mem b o x hx) (updL_same ..) (hob.row rfl _) hfree (.inl (by omega)) (fun _ _=>rfl) rfl rfl rfl (Nat.le_refl _) updL_used
  refine ⟨updL β n ver (some (b,0)),⟨I',updL_le hid,by omega,fun i h=>?_,fun l' h hl=>?_⟩,?_⟩
  ·unfold updL;rw[if_neg (by omega)];exact hi i (by omega)
  ·intro b' hb' id v ob cb' hs hx
   by_cases hn:id=n
   ·subst hn
    have hs':some (ver,Ob.mp k (ks.zip vs))=some (v,ob):=by rw[← hs];show _=upd s id _ id;rw[upd_same]
    obtain ⟨rfl,rfl⟩:ver=v∧Ob.mp k (ks.zip vs)=ob:=by simpa using hs'
    rw[updL_same] at hx
    obtain ⟨rfl,rfl⟩:b=b'∧0=cb':=by simpa using hx
    exact hl b hb' (by simp[blocks])
   ·have hs':s id=some (v,ob):=by rw[← hs];show _=upd s n _ id;rw[upd_other _ _ _ _ hn]
    have hx':β id v=some (some (b',cb')):=by
     unfold updL at hx;rw[if_neg (fun h=>hn h.1)] at hx;exact hx
    exact h b' hb' id v ob cb' hs' hx'
  ·simp only[Rep]
   exact ⟨b,0,updL_same ..,rfl⟩
 | .agg cs,y,l,n,s,U,β,I,hi,hr,hnd,hf=>by
  simp only[FrRep] at hr
  obtain ⟨vs,rfl,hr⟩:=hr
  obtain ⟨β',h1,h2⟩:=impL_ok hB cs vs l n I hi hr hnd hf
  exact ⟨β',h1,by simp only[imp,Rep];exact ⟨vs,rfl,h2⟩⟩
 | .tup cs,y,l,n,s,U,β,I,hi,hr,hnd,hf=>by
  simp only[FrRep] at hr
  obtain ⟨vs,rfl,hr⟩:=hr
  obtain ⟨β',h1,h2⟩:=impL_ok hB cs vs l n I hi hr hnd hf
  exact ⟨β',h1,by simp only[imp,Rep];exact ⟨vs,rfl,h2⟩⟩
 | .ifc t d,y,l,n,s,U,β,I,hi,hr,hnd,hf=>by
  simp only[FrRep] at hr
  obtain ⟨x,rfl,hr⟩:=hr
  obtain ⟨β',h1,h2⟩:=imp_ok hB d x l n I hi hr hnd hf
  exact ⟨β',h1,by simp only[imp,Rep];exact ⟨x,rfl,h2⟩⟩
 | .clo fn a b,y,l,n,s,U,β,I,hi,hr,hnd,hf=>by
  simp only[FrRep] at hr
  obtain ⟨va,vb,rfl,l1,l2,rfl,hr1,hr2⟩:=hr
  rw[blocks_append,List.nodup_append] at hnd
  rw[blocks_append] at hf
  obtain ⟨β1,h1,h2⟩:=impL_ok hB a va l1 n I hi hr1 hnd.1 (fun x hx=>hf x (List.mem_append_left _ hx))
  have hf2:Free (app s (impL ver n a).2.2) β1 (blocks l2):=h1.free _ (fun x hx=>hf x (List.mem_append_right _ hx)) (fun x hx hx'=>hnd.2.2 x hx' x hx rfl)
  obtain ⟨β2,h3,h4⟩:=impL_ok hB b vb l2 (impL ver n a).2.1 h1.inv h1.high hr2 hnd.2.1 hf2
  refine ⟨β2,⟨?_,h1.le.trans h3.le,Nat.le_trans h1.next h3.next,h3.high,fun l' hl' hb=>?_⟩,?_⟩
  ·simp only[imp];rw[app_append];exact h3.inv.mono fun v hv=>by rcases hv with (hv | hv) | hv;exact .inl hv;exact .inr hv;exact .inr hv
  ·simp only[imp];rw[app_append]
   refine h3.free _ (h1.free _ hl' fun x hx hx'=>hb x hx ?_) fun x hx hx'=>hb x hx ?_
   ·rw[blocks_append];exact List.mem_append_left _ hx'
   ·rw[blocks_append];exact List.mem_append_right _ hx'
  ·simp only[imp,Rep];exact ⟨va,vb,rfl,h2.mono (MLe.refl _) h3.le,h4⟩
 | .any,y,l,n,s,U,β,I,hi,hr,hnd,hf=>by
  simp only[FrRep] at hr;subst hr
  exact ⟨β,.nil I hi,by simp[imp,Rep]⟩
 | .v x,y,l,n,s,U,β,I,hi,hr,hnd,hf=>by
  simp only[FrRep] at hr;obtain ⟨rfl,hr⟩:=hr
  exact ⟨β,.nil I hi,hr.mono (MLe.refl _) (BLe.zero _)⟩
 | .nsl,y,l,n,s,U,β,I,hi,hr,hnd,hf=>by
  simp only[FrRep] at hr;obtain ⟨rfl,hr⟩:=hr
  exact ⟨β,.nil I hi,hr.mono (MLe.refl _) (BLe.zero _)⟩
 | .isl E z es,y,l,n,s,U,β,I,hi,hr,hnd,hf=>by
  simp only[FrRep] at hr;obtain ⟨rfl,hr⟩:=hr
  exact ⟨β,.nil I hi,hr.mono (MLe.refl _) (BLe.zero _)⟩
 | .ipt z cs c,y,l,n,s,U,β,I,hi,hr,hnd,hf=>by
  simp only[FrRep] at hr;obtain ⟨rfl,hr⟩:=hr
  exact ⟨β,.nil I hi,hr.mono (MLe.refl _) (BLe.zero _)⟩
 | .osl ..,y,l,n,s,U,β,I,hi,hr,hnd,hf=>by simp[FrRep] at hr
 | .ept ..,y,l,n,s,U,β,I,hi,hr,hnd,hf=>by simp[FrRep] at hr
 | .omp ..,y,l,n,s,U,β,I,hi,hr,hnd,hf=>by simp[FrRep] at hr
theorem impL_ok {B:Nat} (hB:C.w0.heap.size<=B):∀ (ds:List D) (ys:List Value) (l:List (Option (Nat×Nat))) (n:Nat) {s:Heap} {U:Nat->Prop} {β:Loc},Inv P C s U M β w->(∀ i,n<=i->β i ver=none)->FrRepL P M w B ds ys l->(blocks l).Nodup->Free s β (blocks l) ->
 ∃ β',ImpOK P C s U M β w ver n (impL ver n ds).2.1 (impL ver n ds).2.2 l β'∧RepL P M β' (impL ver n ds).1 ys
 | [],ys,l,n,s,U,β,I,hi,hr,hnd,hf=>by
  simp only[FrRepL] at hr
  obtain ⟨rfl,rfl⟩:=hr
  exact ⟨β,.nil I hi,by simp[impL,RepL]⟩
 | d::ds,ys,l,n,s,U,β,I,hi,hr,hnd,hf=>by
  simp only[FrRepL] at hr
  obtain ⟨x,xs,l1,l2,rfl,rfl,hr1,hr2⟩:=hr
  rw[blocks_append,List.nodup_append] at hnd
  rw[blocks_append] at hf
  obtain ⟨β1,h1,h2⟩:=imp_ok hB d x l1 n I hi hr1 hnd.1 (fun x hx=>hf x (List.mem_append_left _ hx))
  have hf2:Free (app s (imp ver n d).2.2) β1 (blocks l2):=h1.free _ (fun x hx=>hf x (List.mem_append_right _ hx)) (fun x hx hx'=>hnd.2.2 x hx' x hx rfl)
  obtain ⟨β2,h3,h4⟩:=impL_ok hB ds xs l2 (imp ver n d).2.1 h1.inv h1.high hr2 hnd.2.1 hf2
  refine ⟨β2,⟨?_,h1.le.trans h3.le,Nat.le_trans h1.next h3.next,h3.high,fun l' hl' hb=>?_⟩,?_⟩
  ·simp only[impL];rw[app_append];exact h3.inv.mono fun v hv=>by rcases hv with (hv | hv) | hv;exact .inl hv;exact .inr hv;exact .inr hv
  ·simp only[impL];rw[app_append]
   refine h3.free _ (h1.free _ hl' fun x hx hx'=>hb x hx ?_) fun x hx hx'=>hb x hx ?_
   ·rw[blocks_append];exact List.mem_append_left _ hx'
   ·rw[blocks_append];exact List.mem_append_right _ hx'
  ·simp only[impL,RepL];exact ⟨x,xs,rfl,h2.mono (MLe.refl _) h3.le,h4⟩
end
end
end Go.Sx
namespace Go.Sx
variable {P:Program}
def pos:List Nat->Nat->Option Nat
 | [],_=>none
 | x::l,i=>if x=i then some 0 else (pos l i).map (·+1)
theorem pos_get:∀ {l:List Nat} {i j:Nat},pos l i=some j->l[j]? = some i
 | [],i,j,h=>by simp[pos] at h
 | x::l,i,j,h=>by
  unfold pos at h
  split at h
  ·rename_i hx;simp at h;subst h;simp[hx]
  ·simp only[Option.map_eq_some_iff] at h
   obtain ⟨k,hk,rfl⟩:=h
   simpa using pos_get hk
theorem pos_none:∀ {l:List Nat} {i:Nat},pos l i=none->i∉l
 | [],i,_=>by simp
 | x::l,i,h=>by
  unfold pos at h
  split at h
  ·cases h
  ·rename_i hx
   simp only[Option.map_eq_none_iff] at h
   simp only[List.mem_cons,not_or]
   exact ⟨fun e=>hx e.symm,pos_none h⟩
mutual
def lend (s:Heap):List Nat->D->Option (Prop×D×List Nat×List Nat)
 | ls,.ept id ver z i c=>match s id with
  | some (ver',.arr true _ z' [_] _)=>if ver=ver'∧z=z'∧i=0 then
   match pos ls id with
   | some j=>some (True,.ept (LB+j) 0 z 0 c,ls,[])
   | none=>some (True,.ept (LB+ls.length) 0 z 0 c,ls++[id],[])
   else none
  | _=>none
 | ls,.agg cs=>match lendL s ls cs with
  | some (c,ds,ls',l)=>some (c,.agg ds,ls',l)
  | none=>none
 | ls,.tup cs=>match lendL s ls cs with
  | some (c,ds,ls',l)=>some (c,.tup ds,ls',l)
  | none=>none
 | ls,.clo fn a b=>match lendL s ls a with
  | some (c,a',ls',l)=>match lendL s ls' b with
   | some (c',b',ls'',l')=>some (c∧c',.clo fn a' b',ls'',l++l')
   | none=>none
  | none=>none
 | ls,.ifc t d=>match lend s ls d with
  | some (c,e,ls',l)=>some (c,.ifc t e,ls',l)
  | none=>none
 | ls,d=>match snap s d with
  | some (c,e,l)=>some (c,e,ls,l)
  | none=>none
def lendL (s:Heap):List Nat->List D->Option (Prop×List D×List Nat×List Nat)
 | ls,[]=>some (True,[],ls,[])
 | ls,d::ds=>match lend s ls d with
  | some (c,e,ls',l)=>match lendL s ls' ds with
   | some (c',es,ls'',l')=>some (c∧c',e::es,ls'',l++l')
   | none=>none
  | none=>none
end
mutual
theorem lend_prefix {s:Heap}:∀ {d d':D} {ls ls':List Nat} {c:Prop} {l:List Nat},lend s ls d=some (c,d',ls',l)->ls <+: ls'
 | .ept id ver z i k,d',ls,ls',c,l,h=>by
  unfold lend at h
  split at h
  ·split at h
   ·split at h
    ·simp only[Option.some.injEq,Prod.mk.injEq] at h
     obtain ⟨_,_,rfl,_⟩:=h
     exact List.prefix_refl _
    ·simp only[Option.some.injEq,Prod.mk.injEq] at h
     obtain ⟨_,_,rfl,_⟩:=h
     exact List.prefix_append _ _
   ·cases h
  ·cases h
 | .agg cs,d',ls,ls',c,l,h=>by
  unfold lend at h
  split at h
  ·rename_i hl
   simp only[Option.some.injEq,Prod.mk.injEq] at h
   obtain ⟨_,_,rfl,_⟩:=h
   exact lendL_prefix hl
  ·cases h
 | .tup cs,d',ls,ls',c,l,h=>by
  unfold lend at h
  split at h
  ·rename_i hl
   simp only[Option.some.injEq,Prod.mk.injEq] at h
   obtain ⟨_,_,rfl,_⟩:=h
   exact lendL_prefix hl
  ·cases h
 | .clo fn a b,d',ls,ls',c,l,h=>by
  unfold lend at h
  split at h
  ·rename_i h1
   split at h
   ·rename_i h2
    simp only[Option.some.injEq,Prod.mk.injEq] at h
    obtain ⟨_,_,rfl,_⟩:=h
    exact (lendL_prefix h1).trans (lendL_prefix h2)
   ·cases h
  ·cases h
 | .ifc t d,d',ls,ls',c,l,h=>by
  unfold lend at h
  split at h
  ·rename_i hl
   simp only[Option.some.injEq,Prod.mk.injEq] at h
   obtain ⟨_,_,rfl,_⟩:=h
   exact lend_prefix hl
  ·cases h
 | .osl id ver z off len,d',ls,ls',c,l,h=>by
  unfold lend at h
  split at h
  ·simp only[Option.some.injEq,Prod.mk.injEq] at h
   obtain ⟨_,_,rfl,_⟩:=h
   exact List.prefix_refl _
  ·cases h
 | .any,d',ls,ls',c,l,h=>by
  unfold lend at h
  split at h
  ·simp only[Option.some.injEq,Prod.mk.injEq] at h
   obtain ⟨_,_,rfl,_⟩:=h
   exact List.prefix_refl _
  ·cases h
 | .v x,d',ls,ls',c,l,h=>by
  unfold lend at h
  split at h
  ·simp only[Option.some.injEq,Prod.mk.injEq] at h
   obtain ⟨_,_,rfl,_⟩:=h
   exact List.prefix_refl _
  ·cases h
 | .nsl,d',ls,ls',c,l,h=>by
  unfold lend at h
  split at h
  ·simp only[Option.some.injEq,Prod.mk.injEq] at h
   obtain ⟨_,_,rfl,_⟩:=h
   exact List.prefix_refl _
  ·cases h
 | .isl E z es,d',ls,ls',c,l,h=>by
  unfold lend at h
  split at h
  ·simp only[Option.some.injEq,Prod.mk.injEq] at h
   obtain ⟨_,_,rfl,_⟩:=h
   exact List.prefix_refl _
  ·cases h
 | .ipt z cs k,d',ls,ls',c,l,h=>by
  unfold lend at h
  split at h
  ·simp only[Option.some.injEq,Prod.mk.injEq] at h
   obtain ⟨_,_,rfl,_⟩:=h
   exact List.prefix_refl _
  ·cases h
 | .fsl E z es,d',ls,ls',c,l,h=>by
  unfold lend at h
  split at h
  ·simp only[Option.some.injEq,Prod.mk.injEq] at h
   obtain ⟨_,_,rfl,_⟩:=h
   exact List.prefix_refl _
  ·cases h
 | .fmp k ks vs,d',ls,ls',c,l,h=>by
  unfold lend at h
  split at h
  ·simp only[Option.some.injEq,Prod.mk.injEq] at h
   obtain ⟨_,_,rfl,_⟩:=h
   exact List.prefix_refl _
  ·cases h
 | .omp id ver,d',ls,ls',c,l,h=>by
  unfold lend at h
  split at h
  ·simp only[Option.some.injEq,Prod.mk.injEq] at h
   obtain ⟨_,_,rfl,_⟩:=h
   exact List.prefix_refl _
  ·cases h
theorem lendL_prefix {s:Heap}:∀ {ds ds':List D} {ls ls':List Nat} {c:Prop} {l:List Nat},lendL s ls ds=some (c,ds',ls',l)->ls <+: ls'
 | [],ds',ls,ls',c,l,h=>by
  simp only[lendL,Option.some.injEq,Prod.mk.injEq] at h
  obtain ⟨_,_,rfl,_⟩:=h
  exact List.prefix_refl _
 | d::ds,ds',ls,ls',c,l,h=>by
  unfold lendL at h
  split at h
  ·rename_i h1
   split at h
   ·rename_i h2
    simp only[Option.some.injEq,Prod.mk.injEq] at h
    obtain ⟨_,_,rfl,_⟩:=h
    exact (lend_prefix h1).trans (lendL_prefix h2)
   ·cases h
  ·cases h
end
def Boxes (s:Heap) (ls:List Nat):Prop:=ls.Nodup∧∀ id∈ls,∃ v E z cs fz,s id=some (v,.arr true E z [cs] fz)
mutual
theorem lend_boxes {s:Heap}:∀ {d d':D} {ls ls':List Nat} {c:Prop} {l:List Nat},lend s ls d=some (c,d',ls',l)->Boxes s ls->Boxes s ls'
 | .ept id ver z i k,d',ls,ls',c,l,h=>by
  intro hb
  unfold lend at h
  split at h
  ·rename_i hs
   split at h
   ·split at h
    ·simp only[Option.some.injEq,Prod.mk.injEq] at h
     obtain ⟨_,_,rfl,_⟩:=h
     exact hb
    ·rename_i hp
     simp only[Option.some.injEq,Prod.mk.injEq] at h
     obtain ⟨_,_,rfl,_⟩:=h
     refine ⟨List.nodup_append.2 ⟨hb.1,by simp,fun x hx y hy=>?_⟩,fun x hx=>?_⟩
     ·simp at hy;subst hy;rintro rfl;exact pos_none hp hx
     ·simp only[List.mem_append,List.mem_singleton] at hx
      rcases hx with hx | rfl
      ·exact hb.2 x hx
      ·exact ⟨_,_,_,_,_,hs⟩
   ·cases h
  ·cases h
 | .agg cs,d',ls,ls',c,l,h=>by
  unfold lend at h
  split at h
  ·rename_i hl
   simp only[Option.some.injEq,Prod.mk.injEq] at h
   obtain ⟨_,_,rfl,_⟩:=h
   exact lendL_boxes hl
  ·cases h
 | .tup cs,d',ls,ls',c,l,h=>by
  unfold lend at h
  split at h
  ·rename_i hl
   simp only[Option.some.injEq,Prod.mk.injEq] at h
   obtain ⟨_,_,rfl,_⟩:=h
   exact lendL_boxes hl
  ·cases h
 | .clo fn a b,d',ls,ls',c,l,h=>by
  unfold lend at h
  split at h
  ·rename_i h1
   split at h
   ·rename_i h2
    simp only[Option.some.injEq,Prod.mk.injEq] at h
    obtain ⟨_,_,rfl,_⟩:=h
    exact fun hb=>lendL_boxes h2 (lendL_boxes h1 hb)
   ·cases h
  ·cases h
 | .ifc t d,d',ls,ls',c,l,h=>by
  unfold lend at h
  split at h
  ·rename_i hl
   simp only[Option.some.injEq,Prod.mk.injEq] at h
   obtain ⟨_,_,rfl,_⟩:=h
   exact lend_boxes hl
  ·cases h
 | .osl id ver z off len,d',ls,ls',c,l,h=>by
  unfold lend at h
  split at h
  ·simp only[Option.some.injEq,Prod.mk.injEq] at h
   obtain ⟨_,_,rfl,_⟩:=h
   exact fun h=>h
  ·cases h
 | .any,d',ls,ls',c,l,h=>by
  unfold lend at h
  split at h
  ·simp only[Option.some.injEq,Prod.mk.injEq] at h
   obtain ⟨_,_,rfl,_⟩:=h
   exact fun h=>h
  ·cases h
 | .v x,d',ls,ls',c,l,h=>by
  unfold lend at h
  split at h
  ·simp only[Option.some.injEq,Prod.mk.injEq] at h
   obtain ⟨_,_,rfl,_⟩:=h
   exact fun h=>h
  ·cases h
 | .nsl,d',ls,ls',c,l,h=>by
  unfold lend at h
  split at h
  ·simp only[Option.some.injEq,Prod.mk.injEq] at h
   obtain ⟨_,_,rfl,_⟩:=h
   exact fun h=>h
  ·cases h
 | .isl E z es,d',ls,ls',c,l,h=>by
  unfold lend at h
  split at h
  ·simp only[Option.some.injEq,Prod.mk.injEq] at h
   obtain ⟨_,_,rfl,_⟩:=h
   exact fun h=>h
  ·cases h
 | .ipt z cs k,d',ls,ls',c,l,h=>by
  unfold lend at h
  split at h
  ·simp only[Option.some.injEq,Prod.mk.injEq] at h
   obtain ⟨_,_,rfl,_⟩:=h
   exact fun h=>h
  ·cases h
 | .fsl E z es,d',ls,ls',c,l,h=>by
  unfold lend at h
  split at h
  ·simp only[Option.some.injEq,Prod.mk.injEq] at h
   obtain ⟨_,_,rfl,_⟩:=h
   exact fun h=>h
  ·cases h
 | .fmp k ks vs,d',ls,ls',c,l,h=>by
  unfold lend at h
  split at h
  ·simp only[Option.some.injEq,Prod.mk.injEq] at h
   obtain ⟨_,_,rfl,_⟩:=h
   exact fun h=>h
  ·cases h
 | .omp id ver,d',ls,ls',c,l,h=>by
  unfold lend at h
  split at h
  ·simp only[Option.some.injEq,Prod.mk.injEq] at h
   obtain ⟨_,_,rfl,_⟩:=h
   exact fun h=>h
  ·cases h
theorem lendL_boxes {s:Heap}:∀ {ds ds':List D} {ls ls':List Nat} {c:Prop} {l:List Nat},lendL s ls ds=some (c,ds',ls',l)->Boxes s ls->Boxes s ls'
 | [],ds',ls,ls',c,l,h=>by
  simp only[lendL,Option.some.injEq,Prod.mk.injEq] at h
  obtain ⟨_,_,rfl,_⟩:=h
  exact fun h=>h
 | d::ds,ds',ls,ls',c,l,h=>by
  unfold lendL at h
  split at h
  ·rename_i h1
   split at h
   ·rename_i h2
    simp only[Option.some.injEq,Prod.mk.injEq] at h
    obtain ⟨_,_,rfl,_⟩:=h
    exact fun hb=>lendL_boxes h2 (lend_boxes h1 hb)
   ·cases h
  ·cases h
end
section
variable {C:Cx} {s:Heap} {U:Nat->Prop} {M M':Mem} {β:Loc} {w:World}
def Lent (s:Heap) (β:Loc) (ls:List Nat) (lb:List (Nat×Nat)):Prop :=
 ∀ (j:Nat) id,ls[j]? = some id->∃ v E z cs fz x,s id=some (v,.arr true E z [cs] fz)∧lb[j]? = some x∧β id v=some (some x)
mutual
theorem lend_rep (I:Inv P C s U M β w) (hM:MLe M M') {lsF:List Nat} {lbF:List (Nat×Nat)} (hL:Lent s β lsF lbF):∀ {d d':D} {ls ls':List Nat} {c:Prop} {l:List Nat},lend s ls d=some (c,d',ls',l)->c->Frz s M' β w l->ls' <+: lsF ->
 ∀ {y:Value},Rep P M β d y->Rep P M' (locL lbF) d' y
 | .ept id ver z i k,d',ls,ls',c,l,h,hc,hF,hp,y,hr=>by
  have key:∀ j,lsF[j]? = some id->i=0->(∃ E cs fz,s id=some (ver,.arr true E z [cs] fz))->Rep P M' (locL lbF) (.ept (LB+j) 0 z 0 k) y:=by
   rintro j hj rfl ⟨E,cs,fz,hs⟩
   obtain ⟨v',E',z',cs',fz',x,hs',hx,hb⟩:=hL j id hj
   rw[hs] at hs'
   obtain ⟨rfl,_⟩:ver=v'∧_:=by simpa using hs'
   simp only[Rep] at hr ⊢
   obtain ⟨b,cb,hb',rfl⟩:=hr
   rw[hb] at hb'
   obtain rfl:x=(b,cb):=by simpa using hb'
   exact ⟨b,cb,by simp[locL,hx],rfl⟩
  unfold lend at h
  split at h
  ·rename_i ver' E z' cs fz hs
   split at h
   ·rename_i hcond
    obtain ⟨rfl,rfl,hi⟩:=hcond
    split at h
    ·rename_i j hj
     simp only[Option.some.injEq,Prod.mk.injEq] at h
     obtain ⟨rfl,rfl,rfl,rfl⟩:=h
     refine key j ?_ hi ⟨_,_,_,hs⟩
     have:=pos_get hj
     obtain ⟨t,rfl⟩:=hp
     rw[List.getElem?_append_left]
     ·exact this
     ·rcases Nat.lt_or_ge j ls.length with h | h
      ·exact h
      ·rw[List.getElem?_eq_none h] at this;cases this
    ·simp only[Option.some.injEq,Prod.mk.injEq] at h
     obtain ⟨rfl,rfl,rfl,rfl⟩:=h
     refine key ls.length ?_ hi ⟨_,_,_,hs⟩
     obtain ⟨t,rfl⟩:=hp
     simp
   ·cases h
  ·cases h
 | .agg cs,d',ls,ls',c,l,h,hc,hF,hp,y,hr=>by
  unfold lend at h
  split at h
  ·rename_i c' ds ls2 l' hl
   simp only[Option.some.injEq,Prod.mk.injEq] at h
   obtain ⟨rfl,rfl,rfl,rfl⟩:=h
   simp only[Rep] at hr ⊢
   obtain ⟨vs,e,hr⟩:=hr
   exact ⟨vs,e,lendL_rep I hM hL hl hc hF hp hr⟩
  ·cases h
 | .tup cs,d',ls,ls',c,l,h,hc,hF,hp,y,hr=>by
  unfold lend at h
  split at h
  ·rename_i c' ds ls2 l' hl
   simp only[Option.some.injEq,Prod.mk.injEq] at h
   obtain ⟨rfl,rfl,rfl,rfl⟩:=h
   simp only[Rep] at hr ⊢
   obtain ⟨vs,e,hr⟩:=hr
   exact ⟨vs,e,lendL_rep I hM hL hl hc hF hp hr⟩
  ·cases h
 | .clo fn a b,d',ls,ls',c,l,h,hc,hF,hp,y,hr=>by
  unfold lend at h
  split at h
  ·rename_i c1 a' ls1 l1 h1
   split at h
   ·rename_i c2 b' ls2 l2 h2
    simp only[Option.some.injEq,Prod.mk.injEq] at h
    obtain ⟨rfl,rfl,rfl,rfl⟩:=h
    simp only[Rep] at hr ⊢
    obtain ⟨va,vb,e,hr1,hr2⟩:=hr
    exact ⟨va,vb,e,lendL_rep I hM hL h1 hc.1 (fun i hi=>hF i (List.mem_append_left _ hi)) ((lendL_prefix h2).trans hp) hr1,lendL_rep I hM hL h2 hc.2 (fun i hi=>hF i (List.mem_append_right _ hi)) hp hr2⟩
   ·cases h
  ·cases h
 | .ifc t d,d',ls,ls',c,l,h,hc,hF,hp,y,hr=>by
  unfold lend at h
  split at h
  ·rename_i c' e ls2 l' hl
   simp only[Option.some.injEq,Prod.mk.injEq] at h
   obtain ⟨rfl,rfl,rfl,rfl⟩:=h
   simp only[Rep] at hr ⊢
   obtain ⟨x,e,hr⟩:=hr
   exact ⟨x,e,lend_rep I hM hL hl hc hF hp hr⟩
  ·cases h
 | .osl id ver z off len,d',ls,ls',c,l,h,hc,hF,hp,y,hr=>by
  unfold lend at h
  split at h
  ·rename_i c' e l' hl
   simp only[Option.some.injEq,Prod.mk.injEq] at h
   obtain ⟨rfl,rfl,rfl,rfl⟩:=h
   exact (snap_rep I hM hl hc hF hr).mono (MLe.refl _) (BLe.zero _)
  ·cases h
 | .any,d',ls,ls',c,l,h,hc,hF,hp,y,hr=>by
  unfold lend at h
  split at h
  ·rename_i c' e l' hl
   simp only[Option.some.injEq,Prod.mk.injEq] at h
   obtain ⟨rfl,rfl,rfl,rfl⟩:=h
   exact (snap_rep I hM hl hc hF hr).mono (MLe.refl _) (BLe.zero _)
  ·cases h
 | .v x,d',ls,ls',c,l,h,hc,hF,hp,y,hr=>by
  unfold lend at h
  split at h
  ·rename_i c' e l' hl
   simp only[Option.some.injEq,Prod.mk.injEq] at h
   obtain ⟨rfl,rfl,rfl,rfl⟩:=h
   exact (snap_rep I hM hl hc hF hr).mono (MLe.refl _) (BLe.zero _)
  ·cases h
 | .nsl,d',ls,ls',c,l,h,hc,hF,hp,y,hr=>by
  unfold lend at h
  split at h
  ·rename_i c' e l' hl
   simp only[Option.some.injEq,Prod.mk.injEq] at h
   obtain ⟨rfl,rfl,rfl,rfl⟩:=h
   exact (snap_rep I hM hl hc hF hr).mono (MLe.refl _) (BLe.zero _)
  ·cases h
 | .isl E z es,d',ls,ls',c,l,h,hc,hF,hp,y,hr=>by
  unfold lend at h
  split at h
  ·rename_i c' e l' hl
   simp only[Option.some.injEq,Prod.mk.injEq] at h
   obtain ⟨rfl,rfl,rfl,rfl⟩:=h
   exact (snap_rep I hM hl hc hF hr).mono (MLe.refl _) (BLe.zero _)
  ·cases h
 | .ipt z cs k,d',ls,ls',c,l,h,hc,hF,hp,y,hr=>by
  unfold lend at h
  split at h
  ·rename_i c' e l' hl
   simp only[Option.some.injEq,Prod.mk.injEq] at h
   obtain ⟨rfl,rfl,rfl,rfl⟩:=h
   exact (snap_rep I hM hl hc hF hr).mono (MLe.refl _) (BLe.zero _)
  ·cases h
 | .fsl E z es,d',ls,ls',c,l,h,hc,hF,hp,y,hr=>by simp[Rep] at hr
 | .fmp k ks vs,d',ls,ls',c,l,h,hc,hF,hp,y,hr=>by simp[Rep] at hr
 | .omp id ver,d',ls,ls',c,l,h,hc,hF,hp,y,hr=>by simp[lend,snap] at h
theorem lendL_rep (I:Inv P C s U M β w) (hM:MLe M M') {lsF:List Nat} {lbF:List (Nat×Nat)} (hL:Lent s β lsF lbF):∀ {ds ds':List D} {ls ls':List Nat} {c:Prop} {l:List Nat},lendL s ls ds=some (c,ds',ls',l)->c->Frz s M' β w l->ls' <+: lsF ->
 ∀ {ys:List Value},RepL P M β ds ys->RepL P M' (locL lbF) ds' ys
 | [],ds',ls,ls',c,l,h,hc,hF,hp,ys,hr=>by
  simp only[lendL,Option.some.injEq,Prod.mk.injEq] at h
  obtain ⟨rfl,rfl,rfl,rfl⟩:=h
  simpa [RepL] using hr
 | d::ds,ds',ls,ls',c,l,h,hc,hF,hp,ys,hr=>by
  unfold lendL at h
  split at h
  ·rename_i c1 e ls1 l1 h1
   split at h
   ·rename_i c2 es ls2 l2 h2
    simp only[Option.some.injEq,Prod.mk.injEq] at h
    obtain ⟨rfl,rfl,rfl,rfl⟩:=h
    simp only[RepL] at hr ⊢
    obtain ⟨x,xs,e,hr1,hr2⟩:=hr
    exact ⟨x,xs,e,lend_rep I hM hL h1 hc.1 (fun i hi=>hF i (List.mem_append_left _ hi)) ((lendL_prefix h2).trans hp) hr1,lendL_rep I hM hL h2 hc.2 (fun i hi=>hF i (List.mem_append_right _ hi)) hp hr2⟩
   ·cases h
  ·cases h
end
end
end Go.Sx
namespace Go.Sx
variable {P:Program}
def lentO (s:Heap):List Nat->Option (Prop×List Ob×List Nat)
 | []=>some (True,[],[])
 | id::ids=>match s id with
  | some (_,.arr true E z [cs] fz)=>match snapL s cs,lentO s ids with
   | some (c,ds,l),some (c',obs,l')=>some (c∧c',.arr true E z [ds] fz::obs,l++l')
   | _,_=>none
  | _=>none
def lentU (s:Heap):List Nat->List Ob->Up
 | id::ids,o::os=>match s id with
  | some (v,_)=>(id,v,o)::lentU s ids os
  | none=>lentU s ids os
 | _,_=>[]
section
variable {C:Cx} {s:Heap} {U:Nat->Prop} {M M':Mem} {β:Loc} {w w':World}
theorem lentO_rep {lz:List Nat} (I:Inv P C s U M β w) (hM:MLe M M') (I':Inv P C (frz s lz) U M' β w) (hFz:Frz s M' β w lz):∀ {ids:List Nat} {c:Prop} {obs:List Ob} {l:List Nat} {lb:List (Nat×Nat)},lentO s ids=some (c,obs,l)->c->(∀ x∈l,x∈lz)->Lent s β ids lb->lb.length=ids.length ->
 obs.length=ids.length∧∀ (k:Nat) ob x,obs[k]? = some ob->lb[k]? = some x->ObRep P M' loc0 w (some x) ob∧ob.bx=true
 | [],c,obs,l,lb,h,hc,hl,hL,hlen=>by
  simp only[lentO,Option.some.injEq,Prod.mk.injEq] at h
  obtain ⟨rfl,rfl,rfl⟩:=h
  exact ⟨rfl,fun k ob x h=>by simp at h⟩
 | id::ids,c,obs,l,lb,h,hc,hl,hL,hlen=>by
  unfold lentO at h
  split at h
  ·rename_i v E z cs fz hs
   split at h
   ·rename_i c1 ds l1 c2 obs2 l2 h1 h2
    simp only[Option.some.injEq,Prod.mk.injEq] at h
    obtain ⟨rfl,rfl,rfl⟩:=h
    match lb,hlen with
    | x0::lb,hlen =>
     have hL2:Lent s β ids lb:=fun j i hj=>by simpa using hL (j+1) i (by simpa using hj)
     obtain ⟨g1,g2⟩:=lentO_rep I hM I' hFz h2 hc.2 (fun x hx=>hl x (List.mem_append_right _ hx)) hL2 (by simpa using hlen)
     refine ⟨by simp[g1],fun k ob x hk hx=>?_⟩
     cases k with
     | succ k=>exact g2 k ob x (by simpa using hk) (by simpa using hx)
     | zero =>
      simp at hk hx
      subst hk;subst hx
      refine ⟨?_,rfl⟩
      obtain ⟨v',E',z',cs',fz',x,hs',hx',hb⟩:=hL 0 id (by simp)
      simp at hx'
      subst hx'
      rw[hs] at hs'
      obtain ⟨rfl,_⟩:v=v'∧_:=by simpa using hs'
      have hsf:frz s lz id=some (v,.arr true E z [cs] fz):=by
       unfold frz
       split
       ·rw[hs];rfl
       ·exact hs
      obtain ⟨x1,hx1,hob⟩:=I'.obs id v _ hsf
      rw[hb] at hx1
      obtain rfl:x0=x1:=by simpa using hx1
      obtain ⟨b,cb⟩:=x0
      obtain ⟨y,T,k1,k2,k3,k4,k5,k6,k7,k8,k9,k10⟩:=hob
      obtain ⟨x2,hx2,hob2⟩:=I.obs id v _ hs
      rw[hb] at hx2
      obtain rfl:some (b,cb)=x2:=by simpa using hx2
      obtain ⟨y2,T2,j1,j2,j3,j4,j5,j6,j7,j8,j9,j10⟩:=hob2
      rw[k1] at j1
      obtain ⟨rfl,rfl⟩:y=y2∧T=T2:=by simpa using j1
      have hcsl:RepL P M β cs (y.toList.take cs.length):=by
       have hle:cs.length<=y.size:=by
        have:=k3 cs (by simp)
        have:z<=cb*z:=Nat.le_mul_of_pos_left _ (by simp at k4;omega)
        omega
       refine RepL.of (by simp;omega) fun i d x hd hx=>?_
       obtain ⟨u,hu,hru⟩:=j10 i d (by simpa using hd)
       rw[List.getElem?_take] at hx
       split at hx
       ·rw[Array.getElem?_toList,hu] at hx
        obtain rfl:u=x:=by simpa using hx
        exact hru
       ·cases hx
      have hds:=snapL_rep I hM h1 hc.1 (fun i hi=>hFz i (hl i (List.mem_append_left _ hi))) hcsl
      have hdl:ds.length=cs.length:=by rw[← hds.length,hcsl.length]
      refine ⟨y,T,k1,k2,?_,by simpa using k4,by simpa using k5,by simpa using k6,by simpa using k7,k8,k9,fun i d hd=>?_⟩
      ·intro e he
       simp at he
       subst he
       rw[hdl];exact k3 cs (by simp)
      ·have hd':ds[i]? = some d:=by simpa using hd
       obtain ⟨u,hu,hru⟩:=hds.get i d hd'
       rw[List.getElem?_take] at hu
       split at hu
       ·exact ⟨u,by simpa using hu,hru⟩
       ·cases hu
   ·cases h
  ·cases h
theorem lentU_at (s0:Heap):∀ (ids:List Nat) (obs:List Ob) (s:Heap) (i:Nat),ids.Nodup->(∀ id∈ids,∃ v o,s0 id=some (v,o))->obs.length=ids.length ->
 (i∉ids->app s (lentU s0 ids obs) i=s i)∧∀ (j:Nat) o,ids[j]? = some i->obs[j]? = some o->∀ v o',s0 i=some (v,o')->app s (lentU s0 ids obs) i=some (v,o)
 | [],obs,s,i,_,_,_=>by
  refine ⟨fun _=>by simp[lentU,app],fun j o h=>by simp at h⟩
 | id::ids,o::obs,s,i,hnd,hall,hlen=>by
  obtain ⟨v,o0,hs⟩:=hall id (by simp)
  simp only[List.nodup_cons] at hnd
  have hu:app s (lentU s0 (id::ids) (o::obs))=app (upd s id (some (v,o))) (lentU s0 ids obs):=by
   simp only[lentU,hs];rfl
  obtain ⟨g1,g2⟩:=lentU_at s0 ids obs (upd s id (some (v,o))) i hnd.2 (fun x hx=>hall x (by simp[hx])) (by simpa using hlen)
  rw[hu]
  refine ⟨fun hi=>?_,fun j o' hj ho v' o'' hs'=>?_⟩
  ·simp only[List.mem_cons,not_or] at hi
   rw[g1 hi.2,upd_other _ _ _ _ hi.1]
  ·cases j with
   | zero =>
    simp at hj ho
    subst hj;subst ho
    rw[hs] at hs'
    obtain ⟨rfl,rfl⟩:v=v'∧o0=o'':=by simpa using hs'
    rw[g1 hnd.1,upd_same]
   | succ j=>exact g2 j o' (by simpa using hj) (by simpa using ho) v' o'' hs'
theorem Inv.called (I:Inv P C s U M β w) {ids:List Nat} {lb:List (Nat×Nat)} (hB:Boxes s ids) (hL:Lent s β ids lb) (hlb:lb.length=ids.length) (hK:Kp w (lb.map (·.1)) w') (hmem:MemOK M' w') (hold:∀ b o,b<w.heap.size->M' b o=M b o)
 {obs:List Ob} (hlo:obs.length=ids.length) (hobs:∀ (k:Nat) ob x,obs[k]? = some ob->lb[k]? = some x->ObRep P M' loc0 w' (some x) ob∧ob.bx=true) :
 Inv P C (app s (lentU s ids obs)) U M' β w'∧MLe M M':=by
 have hMle:MLe M M':=fun b o x hx=>by rw[hold b o (I.mem.lt hx)];exact hx
 have hall:∀ id∈ids,∃ v o,s id=some (v,o):=fun id hid=>by
  obtain ⟨v,E,z,cs,fz,h⟩:=hB.2 id hid
  exact ⟨_,_,h⟩
 have hsv:∀ id v ob,app s (lentU s ids obs) id=some (v,ob)->(id∉ids∧s id=some (v,ob))∨∃ (j:Nat) (x:Nat×Nat) (ob0:Ob),ids[j]? = some id∧lb[j]? = some x∧obs[j]? = some ob∧s id=some (v,ob0)∧ob0.bx=true∧β id v=some (some x):=by
  intro id v ob h
  obtain ⟨g1,g2⟩:=lentU_at s ids obs s id hB.1 hall hlo
  by_cases hid:id∈ids
  ·right
   obtain ⟨j,hj,rfl⟩:=List.getElem_of_mem hid
   obtain ⟨v',E,z,cs,fz,x,hs,hx,hb⟩:=hL j _ (List.getElem?_eq_getElem hj)
   have ho:obs[j]? = some (obs[j]'(by omega)):=List.getElem?_eq_getElem (by omega)
   have:=g2 j _ (by simp) ho v' _ hs
   rw[this] at h
   obtain ⟨rfl,rfl⟩:v'=v∧obs[j]'(by omega)=ob:=by simpa using h
   exact ⟨j,x,_,List.getElem?_eq_getElem hj,hx,ho,hs,rfl,hb⟩
  ·left;rw[g1 hid] at h;exact ⟨hid,h⟩
 have hnot:∀ id v ob b cb,id∉ids->s id=some (v,ob)->β id v=some (some (b,cb))->b∉lb.map (·.1):=by
  intro id v ob b cb hid hs hb hm
  rw[List.mem_map] at hm
  obtain ⟨x,hx,rfl⟩:=hm
  obtain ⟨j,hj,rfl⟩:=List.getElem_of_mem hx
  obtain ⟨v',E,z,cs,fz,x',hs',hx',hb'⟩:=hL j (ids[j]'(by omega)) (by simp)
  have:lb[j]=x':=by rw[List.getElem?_eq_getElem hj] at hx';simpa using hx'
  have hid':=I.inj id v ob (ids[j]'(by omega)) v' _ _ cb x'.2 hs hs' (by rw[hb]) (by rw[hb',← this])
  exact hid (hid'▸List.getElem_mem _)
 refine ⟨?_,hMle⟩
 constructor
 ·exact hmem
 ·exact I.used
 ·intro id v ob hs
  rcases hsv id v ob hs with ⟨hid,hs⟩ | ⟨j,x,ob0,hj,hx,ho,hs,_,hb⟩
  ·obtain ⟨x,hx,hr⟩:=I.obs id v ob hs
   refine ⟨x,hx,hr.mono hMle (BLe.refl _) ?_ ?_⟩
   ·rintro b cb rfl
    exact hK.block b hr.lt (hnot id v ob b cb hid hs hx)
   ·rintro b cb rfl o
    exact hold b o hr.lt
  ·obtain ⟨g1,g2⟩:=hobs j ob x ho hx
   exact ⟨some x,hb,g1.mono (MLe.refl _) (BLe.zero _) (fun _ _ _=>rfl) (fun _ _ _ _=>rfl)⟩
 ·intro id v ob b cb hs hb
  rcases hsv id v ob hs with ⟨hid,hs⟩ | ⟨j,x,ob0,hj,hx,ho,hs,hbx,hb'⟩
  ·exact I.own id v ob b cb hs hb
  ·rcases I.own id v ob0 b cb hs hb with h | h
   ·exact .inl h
   ·exact .inr ⟨h.1,(hobs j ob x ho hx).2⟩
 ·intro id v ob id' v' ob' b cb cb' hs hs' hb hb'
  have h1:∃ o,s id=some (v,o):=by
   rcases hsv id v ob hs with ⟨_,hs⟩ | ⟨_,_,o,_,_,_,hs,_⟩<;>exact ⟨_,hs⟩
  have h2:∃ o,s id'=some (v',o):=by
   rcases hsv id' v' ob' hs' with ⟨_,hs⟩ | ⟨_,_,o,_,_,_,hs,_⟩<;>exact ⟨_,hs⟩
  obtain ⟨o1,h1⟩:=h1
  obtain ⟨o2,h2⟩:=h2
  exact I.inj id v o1 id' v' o2 b cb cb' h1 h2 hb hb'
 ·refine ⟨hK.os.trans I.keep.os,hK.tape.trans I.keep.tape,hK.output.trans I.keep.output,Nat.le_trans I.keep.size hK.size,fun k hk hl=>?_⟩
  rw[← I.keep.block k hk hl]
  refine hK.block k (Nat.lt_of_lt_of_le hk I.keep.size) fun hm=>?_
  rw[List.mem_map] at hm
  obtain ⟨x,hx,rfl⟩:=hm
  obtain ⟨j,hj,rfl⟩:=List.getElem_of_mem hx
  obtain ⟨v',E,z,cs,fz,x',hs',hx',hb'⟩:=hL j (ids[j]'(by omega)) (by simp)
  have hx2:lb[j]=x':=by rw[List.getElem?_eq_getElem hj] at hx';simpa using hx'
  rcases I.own _ v' _ lb[j].1 x'.2 hs' (by rw[hb',hx2]) with h | h
  ·omega
  ·exact hl h.1
 ·intro b o hb
  rw[hold b o (Nat.lt_of_lt_of_le hb I.keep.size)]
  exact I.old b o hb
 ·exact I.le.trans hMle
 ·exact I.glob
end
end Go.Sx
namespace Go.Sx
variable {P:Program}
mutual
def fits:D->D->Prop
 | .nsl,.isl _ _ es=>es=[]
 | .agg cs,.agg ds=>fitsL cs ds
 | .tup cs,.tup ds=>fitsL cs ds
 | .clo fn a b,.clo fn' a' b'=>fn=fn'∧fitsL a a'∧fitsL b b'
 | .ifc t d,.ifc t' d'=>t=t'∧fits d d'
 | d,e=>d=e
def fitsL:List D->List D->Prop
 | [],[]=>True
 | d::ds,e::es=>fits d e∧fitsL ds es
 | _,_=>False
end
mutual
theorem fits_rep {M:Mem} {β:Loc}:∀ {d e:D} {y:Value},fits d e->Rep P M β d y->Rep P M β e y
 | .nsl,e,y,h,hr=>by
  cases e<;>simp only[fits,reduceCtorEq] at h<;>try (first | exact hr | (exact h.elim))
  subst h
  simp only[Rep] at hr ⊢
  obtain ⟨a,rfl⟩:=hr
  exact ⟨by simp,by simp[top47],by simp[top47],a,0,rfl,Nat.le_refl _,.inl trivial⟩
 | .agg cs,e,y,h,hr=>by
  cases e<;>simp only[fits,reduceCtorEq] at h
  simp only[Rep] at hr ⊢
  obtain ⟨vs,e,hr⟩:=hr
  exact ⟨vs,e,fitsL_rep h hr⟩
 | .tup cs,e,y,h,hr=>by
  cases e<;>simp only[fits,reduceCtorEq] at h
  simp only[Rep] at hr ⊢
  obtain ⟨vs,e,hr⟩:=hr
  exact ⟨vs,e,fitsL_rep h hr⟩
 | .clo fn a b,e,y,h,hr=>by
  cases e<;>simp only[fits,reduceCtorEq] at h
  obtain ⟨rfl,h1,h2⟩:=h
  simp only[Rep] at hr ⊢
  obtain ⟨va,vb,e,hr1,hr2⟩:=hr
  exact ⟨va,vb,e,fitsL_rep h1 hr1,fitsL_rep h2 hr2⟩
 | .ifc t d,e,y,h,hr=>by
  cases e<;>simp only[fits,reduceCtorEq] at h
  obtain ⟨rfl,h1⟩:=h
  simp only[Rep] at hr ⊢
  obtain ⟨x,e,hr⟩:=hr
  exact ⟨x,e,fits_rep h1 hr⟩
 | .any,e,y,h,hr=>by have:D.any=e:=by cases e<;>simpa [fits] using h
                     exact this▸hr
 | .v x,e,y,h,hr=>by have:D.v x=e:=by cases e<;>simpa [fits] using h
                     exact this▸hr
 | .isl a b c,e,y,h,hr=>by have:D.isl a b c=e:=by cases e<;>simpa [fits] using h
                           exact this▸hr
 | .osl a b c d f,e,y,h,hr=>by have:D.osl a b c d f=e:=by cases e<;>simpa [fits] using h
                               exact this▸hr
 | .ept a b c d f,e,y,h,hr=>by have:D.ept a b c d f=e:=by cases e<;>simpa [fits] using h
                               exact this▸hr
 | .ipt a b c,e,y,h,hr=>by have:D.ipt a b c=e:=by cases e<;>simpa [fits] using h
                           exact this▸hr
 | .fsl a b c,e,y,h,hr=>by simp[Rep] at hr
 | .fmp a b c,e,y,h,hr=>by simp[Rep] at hr
 | .omp a b,e,y,h,hr=>by have:D.omp a b=e:=by cases e<;>simpa [fits] using h
                         exact this▸hr
theorem fitsL_rep {M:Mem} {β:Loc}:∀ {ds es:List D} {ys:List Value},fitsL ds es->RepL P M β ds ys->RepL P M β es ys
 | [],es,ys,h,hr=>by
  cases es<;>simp only[fitsL] at h
  exact hr
 | d::ds,es,ys,h,hr=>by
  cases es<;>simp only[fitsL] at h
  simp only[RepL] at hr ⊢
  obtain ⟨x,xs,e,h1,h2⟩:=hr
  exact ⟨x,xs,e,fits_rep h.1 h1,fitsL_rep h.2 h2⟩
end
mutual
def scal:D->Bool
 | .any=>true
 | .v _=>true
 | .agg cs=>scalL cs
 | .tup cs=>scalL cs
 | _=>false
def scalL:List D->Bool
 | []=>true
 | d::ds=>scal d&&scalL ds
end
mutual
theorem scal_rep {M M':Mem} {w:World} {B:Nat} (β:Loc) (ver n:Nat):∀ {d:D} {y:Value} {l:List (Option (Nat×Nat))},scal d=true->FrRep P M w B d y l->l=[]∧Rep P M' β d y∧imp ver n d=(d,n,[])
 | .any,y,l,_,hr=>by simp only[FrRep] at hr;exact ⟨hr,by simp[Rep],by simp[imp]⟩
 | .v x,y,l,_,hr=>by simp only[FrRep] at hr;exact ⟨hr.1,by simpa [Rep] using hr.2,by simp[imp]⟩
 | .agg cs,y,l,hs,hr=>by
  simp only[scal] at hs
  simp only[FrRep] at hr
  obtain ⟨vs,e,hr⟩:=hr
  obtain ⟨h1,h2,h3⟩:=scalL_rep (M':=M') β ver n hs hr
  exact ⟨h1,by simp only[Rep];exact ⟨vs,e,h2⟩,by simp only[imp,h3]⟩
 | .tup cs,y,l,hs,hr=>by
  simp only[scal] at hs
  simp only[FrRep] at hr
  obtain ⟨vs,e,hr⟩:=hr
  obtain ⟨h1,h2,h3⟩:=scalL_rep (M':=M') β ver n hs hr
  exact ⟨h1,by simp only[Rep];exact ⟨vs,e,h2⟩,by simp only[imp,h3]⟩
 | .nsl,y,l,hs,hr=>by simp[scal] at hs
 | .isl ..,y,l,hs,hr=>by simp[scal] at hs
 | .osl ..,y,l,hs,hr=>by simp[scal] at hs
 | .ept ..,y,l,hs,hr=>by simp[scal] at hs
 | .ipt ..,y,l,hs,hr=>by simp[scal] at hs
 | .clo ..,y,l,hs,hr=>by simp[scal] at hs
 | .ifc ..,y,l,hs,hr=>by simp[scal] at hs
 | .fsl ..,y,l,hs,hr=>by simp[scal] at hs
 | .fmp ..,y,l,hs,hr=>by simp[scal] at hs
 | .omp ..,y,l,hs,hr=>by simp[scal] at hs
theorem scalL_rep {M M':Mem} {w:World} {B:Nat} (β:Loc) (ver n:Nat):∀ {ds:List D} {ys:List Value} {l:List (Option (Nat×Nat))},scalL ds=true->FrRepL P M w B ds ys l->l=[]∧RepL P M' β ds ys∧impL ver n ds=(ds,n,[])
 | [],ys,l,_,hr=>by simp only[FrRepL] at hr;exact ⟨hr.2,by simp[RepL,hr.1],by simp[impL]⟩
 | d::ds,ys,l,hs,hr=>by
  simp only[scalL,Bool.and_eq_true] at hs
  simp only[FrRepL] at hr
  obtain ⟨x,xs,l1,l2,e,rfl,h1,h2⟩:=hr
  obtain ⟨rfl,h3,h4⟩:=scal_rep (M':=M') β ver n hs.1 h1
  obtain ⟨rfl,h5,h6⟩:=scalL_rep (M':=M') β ver n hs.2 h2
  exact ⟨rfl,by simp only[RepL];exact ⟨x,xs,e,h3,h5⟩,by simp only[impL,h4,h6,List.append_nil]⟩
end
mutual
theorem FrRep.ge {M:Mem} {w:World} {B:Nat}:∀ {d:D} {y:Value} {l:List (Option (Nat×Nat))},FrRep P M w B d y l->∀ b∈blocks l,B<=b
 | .fsl E z es,y,l,hr=>by
  simp only[FrRep] at hr
  rcases hr with ⟨rfl,_⟩ | ⟨b,cb,o,rfl,hb,_⟩
  ·simp[blocks]
  ·simp[blocks,hb]
 | .fmp k ks vs,y,l,hr=>by
  simp only[FrRep] at hr
  obtain ⟨b,rfl,hb,_⟩:=hr
  simp[blocks,hb]
 | .agg cs,y,l,hr=>by simp only[FrRep] at hr;obtain ⟨vs,_,hr⟩:=hr;exact FrRepL.ge hr
 | .tup cs,y,l,hr=>by simp only[FrRep] at hr;obtain ⟨vs,_,hr⟩:=hr;exact FrRepL.ge hr
 | .ifc t d,y,l,hr=>by simp only[FrRep] at hr;obtain ⟨vs,_,hr⟩:=hr;exact FrRep.ge hr
 | .clo fn a b,y,l,hr=>by
  simp only[FrRep] at hr
  obtain ⟨va,vb,_,l1,l2,rfl,h1,h2⟩:=hr
  intro b hb
  rw[blocks_append,List.mem_append] at hb
  rcases hb with hb | hb
  ·exact FrRepL.ge h1 b hb
  ·exact FrRepL.ge h2 b hb
 | .any,y,l,hr=>by simp only[FrRep] at hr;subst hr;simp[blocks]
 | .v _,y,l,hr=>by simp only[FrRep] at hr;rw[hr.1];simp[blocks]
 | .nsl,y,l,hr=>by simp only[FrRep] at hr;rw[hr.1];simp[blocks]
 | .isl ..,y,l,hr=>by simp only[FrRep] at hr;rw[hr.1];simp[blocks]
 | .ipt ..,y,l,hr=>by simp only[FrRep] at hr;rw[hr.1];simp[blocks]
 | .osl ..,y,l,hr=>by simp[FrRep] at hr
 | .ept ..,y,l,hr=>by simp[FrRep] at hr
 | .omp ..,y,l,hr=>by simp[FrRep] at hr
theorem FrRepL.ge {M:Mem} {w:World} {B:Nat}:∀ {ds:List D} {ys:List Value} {l:List (Option (Nat×Nat))},FrRepL P M w B ds ys l->∀ b∈blocks l,B<=b
 | [],ys,l,hr=>by simp only[FrRepL] at hr;rw[hr.2];simp[blocks]
 | d::ds,ys,l,hr=>by
  simp only[FrRepL] at hr
  obtain ⟨x,xs,l1,l2,_,rfl,h1,h2⟩:=hr
  intro b hb
  rw[blocks_append,List.mem_append] at hb
  rcases hb with hb | hb
  ·exact FrRep.ge h1 b hb
  ·exact FrRepL.ge h2 b hb
end
def callArgs (s:Heap) (args:List D):Option (Prop×List D×List Nat×List Ob×List Nat) :=
 match lendL s [] args with
 | some (c,as,ids,l1)=>match lentO s ids with
  | some (c',obs,l2)=>some (c∧c',as,ids,obs,l1++l2)
  | none=>none
 | none=>none
def scalO:Ob->Bool
 | .arr true _ _ es 0=>es.all scalL
 | _=>false
mutual
theorem scalR {M M':Mem} {β β':Loc}:∀ {d:D} {y:Value},scal d=true->Rep P M β d y->Rep P M' β' d y
 | .any,y,_,_=>by simp[Rep]
 | .v x,y,_,h=>by simpa only[Rep] using h
 | .agg cs,y,hs,h=>by
  simp only[scal] at hs
  simp only[Rep] at h ⊢
  obtain ⟨vs,e,h⟩:=h
  exact ⟨vs,e,scalRL hs h⟩
 | .tup cs,y,hs,h=>by
  simp only[scal] at hs
  simp only[Rep] at h ⊢
  obtain ⟨vs,e,h⟩:=h
  exact ⟨vs,e,scalRL hs h⟩
 | .nsl,_,hs,_=>by simp[scal] at hs
 | .isl ..,_,hs,_=>by simp[scal] at hs
 | .osl ..,_,hs,_=>by simp[scal] at hs
 | .ept ..,_,hs,_=>by simp[scal] at hs
 | .ipt ..,_,hs,_=>by simp[scal] at hs
 | .clo ..,_,hs,_=>by simp[scal] at hs
 | .ifc ..,_,hs,_=>by simp[scal] at hs
 | .fsl ..,_,hs,_=>by simp[scal] at hs
 | .fmp ..,_,hs,_=>by simp[scal] at hs
 | .omp ..,_,hs,_=>by simp[scal] at hs
theorem scalRL {M M':Mem} {β β':Loc}:∀ {ds:List D} {ys:List Value},scalL ds=true->RepL P M β ds ys->RepL P M' β' ds ys
 | [],ys,_,h=>by simpa only[RepL] using h
 | d::ds,ys,hs,h=>by
  simp only[scalL,Bool.and_eq_true] at hs
  simp only[RepL] at h ⊢
  obtain ⟨x,xs,e,h1,h2⟩:=h
  exact ⟨x,xs,e,scalR hs.1 h1,scalRL hs.2 h2⟩
end
theorem scalL_mem:∀ {ds:List D},scalL ds=true->∀ d∈ds,scal d=true
 | [],_,d,h=>by simp at h
 | e::ds,hs,d,h=>by
  simp only[scalL,Bool.and_eq_true] at hs
  rcases List.mem_cons.1 h with rfl | h
  ·exact hs.1
  ·exact scalL_mem hs.2 d h
theorem scalO_rep {M M':Mem} {w:World} {x:Nat×Nat}:∀ {ob:Ob},scalO ob=true->(∀ b o y,M b o=some y->M' b o=some y)->ObRep P M' loc0 w (some x) ob->ObRep P M loc0 w (some x) ob
 | .mp ..,hs,_,_=>by simp[scalO] at hs
 | .raw _,hs,_,_=>by simp[scalO] at hs
 | .arr false ..,hs,_,_=>by simp[scalO] at hs
 | .arr true E z es (n+1),hs,_,_=>by simp[scalO] at hs
 | .arr true E z es 0,hs,hle,h=>by
  obtain ⟨b,cb⟩:=x
  simp only[scalO,List.all_eq_true] at hs
  simp only[ObRep] at h ⊢
  obtain ⟨cs,T,k1,k2,k3,k4,k5,k6,k7,k8,k9,k10⟩:=h
  refine ⟨cs,T,k1,k2,k3,k4,k5,k6,k7,k8,fun o=>?_,fun i d hd=>?_⟩
  ·have h9:=k9 o
   rw[if_neg (by omega)] at h9 ⊢
   cases hM:M b o with
   | none=>rfl
   | some y=>rw[hle b o y hM] at h9;cases h9
  ·obtain ⟨y,hy,hr⟩:=k10 i d hd
   obtain ⟨e,he,hde⟩:=List.mem_flatten.1 (List.mem_of_getElem? hd)
   exact ⟨y,hy,scalR (scalL_mem (hs e he) d hde) hr⟩
def afterCall (s:Heap) (ids fz:List Nat) (r:D) (ls:List Ob) (ver n:Nat):D×Heap :=
 let s1:=if scal r&&ls.all scalO then s else frz s fz
 let s2:=app s1 (lentU s ids ls)
 let q:=imp ver n r
 (q.1,app s2 q.2.2)
section
variable {C:Cx} {s:Heap} {U:Nat->Prop} {M:Mem} {β:Loc} {w:World} {ver:Nat}
theorem lentU_frz (s:Heap) (fz:List Nat):∀ (ids:List Nat) (obs:List Ob),(∀ id∈ids,∃ v o,s id=some (v,o))->lentU (frz s fz) ids obs=lentU s ids obs
 | [],_,_=>rfl
 | id::ids,[],_=>rfl
 | id::ids,o::obs,h=>by
  obtain ⟨v,o0,hs⟩:=h id (by simp)
  have ih:=lentU_frz s fz ids obs fun x hx=>h x (by simp[hx])
  have hv:∃ o',frz s fz id=some (v,o'):=by
   unfold frz
   split
   ·rw[hs]
    cases o0 with
    | mp _=>exact ⟨_,rfl⟩
    | raw _=>exact ⟨_,rfl⟩
    | arr bx E z es f=>cases bx<;>exact ⟨_,rfl⟩
   ·exact ⟨_,hs⟩
  obtain ⟨o',hv⟩:=hv
  simp only[lentU,hv,hs,ih]
theorem call_ok (I:Inv P C s U M β w) (hv:¬ U ver) {f:FuncId} {args eargs:List D} {vs:List Value} (hr:RepL P M β args vs) {c:Prop} {as:List D} {ids:List Nat} {obs:List Ob} {fz:List Nat}
 (h:callArgs s args=some (c,as,ids,obs,fz)) (hc:c) (hfit:fitsL as eargs) {R:D->List Ob->Prop} (hA:ACalls P C.G f eargs obs R) (n:Nat) :
 Calls P f ⟨vs⟩ w fun e w'=>∃ v r ls M' β',e=.returned v∧R r ls∧Inv P C (afterCall s ids fz r ls ver n).2 (fun x=>U x∨x=ver) M' β' w'∧Rep P M' β' (afterCall s ids fz r ls ver n).1 v∧MLe M M'∧BLe β β':=by
 unfold callArgs at h
 split at h
 ·rename_i c1 as' ids' l1 hl
  split at h
  ·rename_i c2 obs' l2 ho
   simp only[Option.some.injEq,Prod.mk.injEq] at h
   obtain ⟨rfl,rfl,rfl,rfl,rfl⟩:=h
   obtain ⟨M1,I1,hM1,hF⟩:=I.freeze (l1++l2)
   have hboxes:Boxes s ids':=lendL_boxes hl ⟨by simp,by simp⟩
   have hlb:∃ lb:List (Nat×Nat),lb.length=ids'.length∧Lent s β ids' lb:=by
    have:∀ l:List Nat,(∀ id∈l,∃ v E z cs fz,s id=some (v,.arr true E z [cs] fz))->∃ lb:List (Nat×Nat),lb.length=l.length∧Lent s β l lb:=by
     intro l
     induction l with
     | nil=>intro _;exact ⟨[],rfl,fun j id h=>by simp at h⟩
     | cons id l ih =>
      intro hall
      obtain ⟨lb,h1,h2⟩:=ih fun x hx=>hall x (by simp[hx])
      obtain ⟨v,E,z,cs,fz,hs⟩:=hall id (by simp)
      obtain ⟨x,hx,hob⟩:=I.obs id v _ hs
      cases x with
      | none=>simp[ObRep] at hob
      | some x =>
       refine ⟨x::lb,by simp[h1],fun j i hj=>?_⟩
       cases j with
       | zero=>simp at hj;subst hj;exact ⟨v,E,z,cs,fz,x,hs,by simp,hx⟩
       | succ j=>simpa using h2 j i (by simpa using hj)
    exact this ids' hboxes.2
   obtain ⟨lb,hlen,hL⟩:=hlb
   have hargs:=fitsL_rep hfit (lendL_rep I hM1 hL hl hc.1 (fun i hi=>hF i (List.mem_append_left _ hi)) (List.prefix_refl _) hr)
   obtain ⟨g1,g2⟩:=lentO_rep I hM1 I1 hF ho hc.2 (fun x hx=>List.mem_append_right _ hx) hL hlen
   have hnd:(lb.map (·.1)).Nodup:=by
    rw[List.nodup_iff_pairwise_ne,List.pairwise_iff_getElem]
    intro i j hi0 hj0 hij he
    simp only[List.length_map] at hi0 hj0
    have hii:i<lb.length:=by omega
    have hj:j<lb.length:=by omega
    simp only[List.getElem_map] at he
    obtain ⟨v,E,z,cs,fz,x,hs,hx,hb⟩:=hL i (ids'[i]'(by omega)) (by simp)
    obtain ⟨v',E',z',cs',fz',x',hs',hx',hb'⟩:=hL j (ids'[j]'(by omega)) (by simp)
    have e1:lb[i]=x:=by simpa [hii] using hx
    have e2:lb[j]=x':=by simpa [hj] using hx'
    have hid:=I.inj _ v _ _ v' _ x.1 x.2 x'.2 hs hs' hb (by rw[hb',← e2,← e1,he])
    have:=(List.pairwise_iff_getElem.1 (List.nodup_iff_pairwise_ne.1 hboxes.1)) i j (by omega) (by omega) hij
    exact this hid
   refine (hA.2 M1 w vs lb I1.mem (fun g cs hg=>RepC.mono I1.le (I1.glob g cs hg)) (by rw[hlen,g1]) hnd g2 hargs).mono ?_
   rintro e w' ⟨v,r,ls,M',l,rfl,hR,hK,hmem,hold,hls,hobs,hfr,hndl⟩
   refine ⟨v,r,ls,?_⟩
   have hlsn:ls.length=ids'.length:=by rw[hls,hlen]
   have hall:∀ id∈ids',∃ v o,s id=some (v,o):=fun id hid=>by
    obtain ⟨v,E,z,cs,fz,h⟩:=hboxes.2 id hid
    exact ⟨_,_,h⟩
   have hold0:∀ b o x,M b o=some x->M' b o=some x:=fun b o x hx=>by
    rw[hold b o (I.mem.lt hx)];exact hM1 _ _ _ hx
   unfold afterCall
   by_cases hsc:(scal r&&ls.all scalO)=true
   ·simp only[hsc,if_true]
    simp only[Bool.and_eq_true] at hsc
    obtain ⟨hsc1,hso⟩:=hsc
    obtain ⟨rfl,hrv,himp⟩:=scal_rep (M':=M) β ver n hsc1 hfr
    obtain ⟨I2,_⟩:=I.called (ids:=ids') (lb:=lb) (M':=M) (w':=w') (obs:=ls) hboxes hL hlen hK (fun b o x hx=>hmem b o x (hold0 b o x hx)) (fun _ _ _=>rfl) hlsn (fun k ob x h1 h2=>by
     obtain ⟨g3,g4⟩:=hobs k ob x h1 h2
     exact ⟨scalO_rep (List.all_eq_true.1 hso ob (List.mem_of_getElem? h1)) hold0 g3,g4⟩)
    refine ⟨M,β,trivial,hR,?_,?_,MLe.refl _,BLe.refl _⟩
    ·rw[himp];exact I2.mono fun _ h=>.inl h
    ·rw[himp];exact hrv
   ·simp only[hsc,Bool.false_eq_true,if_false]
    have hB1:Boxes (frz s (l1++l2)) ids':=⟨hboxes.1,fun id hid=>by
     obtain ⟨v,E,z,cs,fz,hs⟩:=hboxes.2 id hid
     refine ⟨v,E,z,cs,fz,?_⟩
     unfold frz
     split
     ·rw[hs];rfl
     ·exact hs⟩
    have hL1:Lent (frz s (l1++l2)) β ids' lb:=fun j id hj=>by
     obtain ⟨v,E,z,cs,fz,x,hs,hx,hb⟩:=hL j id hj
     refine ⟨v,E,z,cs,fz,x,?_,hx,hb⟩
     unfold frz
     split
     ·rw[hs];rfl
     ·exact hs
    obtain ⟨I2,hM2⟩:=I1.called hB1 hL1 hlen hK hmem hold hlsn hobs
    rw[lentU_frz s _ ids' ls hall] at I2
    have hfree:Free (app (frz s (l1++l2)) (lentU s ids' ls)) β (blocks l):=by
     intro b hb id v' ob cb hs hx
     have hge:=FrRep.ge hfr b hb
     have h1:∃ o,frz s (l1++l2) id=some (v',o):=by
      obtain ⟨q1,q2⟩:=lentU_at (frz s (l1++l2)) ids' ls (frz s (l1++l2)) id hB1.1 (fun i hi=>by
       obtain ⟨v,E,z,cs,fz,h⟩:=hB1.2 i hi
       exact ⟨_,_,h⟩) hlsn
      rw[lentU_frz s _ ids' ls hall] at q1 q2
      by_cases hid:id∈ids'
      ·obtain ⟨j,hj,rfl⟩:=List.getElem_of_mem hid
       obtain ⟨v2,E,z,cs,fz,h⟩:=hB1.2 _ hid
       have:=q2 j (ls[j]'(by omega)) (by simp) (by simp) v2 _ h
       rw[this] at hs
       obtain ⟨rfl,_⟩:v2=v'∧_:=by simpa using hs
       exact ⟨_,h⟩
      ·rw[q1 hid] at hs;exact ⟨_,hs⟩
     obtain ⟨o,h1⟩:=h1
     obtain ⟨x,hx1,hob⟩:=I1.obs id v' o h1
     rw[hx] at hx1
     obtain rfl:some (b,cb)=x:=by simpa using hx1
     have:=hob.lt
     omega
    obtain ⟨β',h1,h2⟩:=imp_ok (C:=C) (ver:=ver) (B:=w.heap.size) I.keep.size r v l n I2 (fun i _=>I2.fresh hv i) hfr hndl hfree
    exact ⟨M',β',trivial,hR,h1.inv,h2,hM1.trans hM2,h1.le⟩
  ·cases h
 ·cases h
theorem call_ro (I:Inv P C s U M β w) {f:FuncId} {eargs:List D} {vs:List Value} {M1:Mem} (hM1:MLe M M1) (hm1:MemOK M1 w) (hargs:RepL P M1 loc0 eargs vs) {R:D->List Ob->Prop} (hA:ACalls P C.G f eargs [] R) (hsc:∀ r ls,R r ls->scal r=true) :
 Calls P f ⟨vs⟩ w fun e w'=>∃ v r ls,e=.returned v∧R r ls∧Inv P C s U M β w'∧Rep P M β r v:=by
 refine (hA.2 M1 w vs [] hm1 (fun g cs hg=>RepC.mono (I.le.trans hM1) (I.glob g cs hg)) rfl (by simp) (fun k ob x h=>by simp at h) (hargs.mono (MLe.refl _) (BLe.zero _))).mono ?_
 rintro e w' ⟨v,r,ls,M',l,rfl,hR,hK,hmem,hold,hls,hobs,hfr,hndl⟩
 have hold0:∀ b o x,M b o=some x->M' b o=some x:=fun b o x hx=>by
  rw[hold b o (I.mem.lt hx)];exact hM1 _ _ _ hx
 obtain ⟨rfl,hrv,_⟩:=scal_rep (M':=M) β 0 0 (hsc r ls hR) hfr
 obtain ⟨I2,_⟩:=I.called (ids:=[]) (lb:=[]) (M':=M) (w':=w') (obs:=[]) ⟨by simp,by simp⟩ (fun j id h=>by simp at h) rfl hK (fun b o x hx=>hmem b o x (hold0 b o x hx)) (fun _ _ _=>rfl) rfl (fun k ob x h=>by simp at h)
 exact ⟨v,r,ls,rfl,hR,I2,hrv⟩
end
end Go.Sx
namespace Go.Sx
variable {P:Program}
def HLe (s s':Heap):Prop:=∀ i x,s i=some x->s' i=some x
section
variable {s s':Heap}
mutual
theorem snap_le (hs:HLe s s'):∀ {d:D} {r},snap s d=some r->snap s' d=some r
 | .osl id ver z off len,r,h=>by
  unfold snap at h ⊢
  split at h
  ·rename_i ver' E z' es f he
   rw[hs _ _ he]
   exact h
  ·cases h
 | .agg cs,r,h=>by
  unfold snap at h ⊢
  split at h
  ·rename_i c ds l he
   rw[snapL_le hs he];exact h
  ·cases h
 | .tup cs,r,h=>by
  unfold snap at h ⊢
  split at h
  ·rename_i c ds l he
   rw[snapL_le hs he];exact h
  ·cases h
 | .clo fn a b,r,h=>by
  unfold snap at h ⊢
  split at h
  ·rename_i he hf
   rw[snapL_le hs he,snapL_le hs hf];exact h
  ·cases h
 | .ifc t d,r,h=>by
  unfold snap at h ⊢
  split at h
  ·rename_i he
   rw[snap_le hs he];exact h
  ·cases h
 | .any,r,h=>by simpa only[snap] using h
 | .v _,r,h=>by simpa only[snap] using h
 | .nsl,r,h=>by simpa only[snap] using h
 | .isl ..,r,h=>by simpa only[snap] using h
 | .ipt ..,r,h=>by simpa only[snap] using h
 | .ept ..,r,h=>by simp[snap] at h
 | .fsl ..,r,h=>by simp[snap] at h
 | .fmp ..,r,h=>by simp[snap] at h
 | .omp ..,r,h=>by simp[snap] at h
theorem snapL_le (hs:HLe s s'):∀ {ds:List D} {r},snapL s ds=some r->snapL s' ds=some r
 | [],r,h=>by simpa only[snapL] using h
 | d::ds,r,h=>by
  unfold snapL at h ⊢
  split at h
  ·rename_i he hf
   rw[snap_le hs he,snapL_le hs hf];exact h
  ·cases h
end
theorem snapP_le (hs:HLe s s'):∀ {ds:List (Nat×D)} {r},snapP s ds=some r->snapP s' ds=some r
 | [],r,h=>by simpa only[snapP] using h
 | (i,d)::ds,r,h=>by
  unfold snapP at h ⊢
  split at h
  ·rename_i he hf
   rw[snap_le hs he,snapP_le hs hf];exact h
  ·cases h
def Has (s:Heap) (l:List Nat):Prop:=∀ i∈l,∃ x,s i=some x
theorem frzU_le (hs:HLe s s'):∀ {l:List Nat},Has s l->frzU s' l=frzU s l
 | [],_=>rfl
 | i::l,h=>by
  obtain ⟨x,hx⟩:=h i (by simp)
  have ih:=frzU_le hs (l:=l) (fun j hj=>h j (List.mem_cons_of_mem _ hj))
  simp only[frzU,hx,hs _ _ hx,ih]
mutual
theorem snap_has:∀ {d:D} {c e l},snap s d=some (c,e,l)->Has s l
 | .osl id ver z off len,c,e,l,h=>by
  unfold snap at h
  split at h
  ·rename_i he
   split at h
   ·simp only[Option.some.injEq,Prod.mk.injEq] at h
    obtain ⟨_,_,rfl⟩:=h
    intro i hi;simp at hi;subst hi;exact ⟨_,he⟩
   ·cases h
  ·cases h
 | .agg cs,c,e,l,h=>by
  unfold snap at h
  split at h
  ·rename_i he
   simp only[Option.some.injEq,Prod.mk.injEq] at h
   obtain ⟨_,_,rfl⟩:=h
   exact snapL_has he
  ·cases h
 | .tup cs,c,e,l,h=>by
  unfold snap at h
  split at h
  ·rename_i he
   simp only[Option.some.injEq,Prod.mk.injEq] at h
   obtain ⟨_,_,rfl⟩:=h
   exact snapL_has he
  ·cases h
 | .clo fn a b,c,e,l,h=>by
  unfold snap at h
  split at h
  ·rename_i he hf
   simp only[Option.some.injEq,Prod.mk.injEq] at h
   obtain ⟨_,_,rfl⟩:=h
   intro i hi
   rcases List.mem_append.1 hi with hi | hi
   ·exact snapL_has he i hi
   ·exact snapL_has hf i hi
  ·cases h
 | .ifc t d,c,e,l,h=>by
  unfold snap at h
  split at h
  ·rename_i he
   simp only[Option.some.injEq,Prod.mk.injEq] at h
   obtain ⟨_,_,rfl⟩:=h
   exact snap_has he
  ·cases h
 | .any,c,e,l,h=>by simp[snap] at h;obtain ⟨_,_,rfl⟩:=h;intro i hi;simp at hi
 | .v _,c,e,l,h=>by simp[snap] at h;obtain ⟨_,_,rfl⟩:=h;intro i hi;simp at hi
 | .nsl,c,e,l,h=>by simp[snap] at h;obtain ⟨_,_,rfl⟩:=h;intro i hi;simp at hi
 | .isl ..,c,e,l,h=>by simp[snap] at h;obtain ⟨_,_,rfl⟩:=h;intro i hi;simp at hi
 | .ipt ..,c,e,l,h=>by simp[snap] at h;obtain ⟨_,_,rfl⟩:=h;intro i hi;simp at hi
 | .ept ..,c,e,l,h=>by simp[snap] at h
 | .fsl ..,c,e,l,h=>by simp[snap] at h
 | .fmp ..,c,e,l,h=>by simp[snap] at h
 | .omp ..,c,e,l,h=>by simp[snap] at h
theorem snapL_has:∀ {ds:List D} {c es l},snapL s ds=some (c,es,l)->Has s l
 | [],c,es,l,h=>by simp[snapL] at h;obtain ⟨_,_,rfl⟩:=h;intro i hi;simp at hi
 | d::ds,c,es,l,h=>by
  unfold snapL at h
  split at h
  ·rename_i he hf
   simp only[Option.some.injEq,Prod.mk.injEq] at h
   obtain ⟨_,_,rfl⟩:=h
   intro i hi
   rcases List.mem_append.1 hi with hi | hi
   ·exact snap_has he i hi
   ·exact snapL_has hf i hi
  ·cases h
end
theorem snapP_has:∀ {ds:List (Nat×D)} {c es l},snapP s ds=some (c,es,l)->Has s l
 | [],c,es,l,h=>by simp[snapP] at h;obtain ⟨_,_,rfl⟩:=h;intro i hi;simp at hi
 | (j,d)::ds,c,es,l,h=>by
  unfold snapP at h
  split at h
  ·rename_i he hf
   simp only[Option.some.injEq,Prod.mk.injEq] at h
   obtain ⟨_,_,rfl⟩:=h
   intro i hi
   rcases List.mem_append.1 hi with hi | hi
   ·exact snap_has he i hi
   ·exact snapP_has hf i hi
  ·cases h
theorem look_le (hs:HLe s s') {d:D} {r} (h:look s d=some r):look s' d=some r:=by
 unfold look at h ⊢
 split at h
 ·exact h
 ·split at h
  ·rename_i he
   rw[hs _ _ he];exact h
  ·cases h
 ·cases h
theorem elems_le (hs:HLe s s') {z:Nat} {d:D} {r} (h:elems s z d=some r):elems s' z d=some r:=by
 unfold elems at h ⊢
 split at h
 ·exact h
 ·exact h
 ·exact h
 ·split at h
  ·rename_i he
   rw[hs _ _ he];exact h
  ·cases h
 ·cases h
theorem appD_le (hs:HLe s s') {a b E z n:Nat} {c:Prop} {src:List (List D)} {d:D} {r} (h:appD P s a b E z n c src d=some r):appD P s' a b E z n c src d=some r:=by
 unfold appD at h ⊢
 split at h
 ·exact h
 ·split at h
  ·rename_i he
   rw[hs _ _ he];exact h
  ·cases h
 ·cases h
theorem updM_le (hs:HLe s s') {T:TypeId} {m key x:D} {r} (h:updM P s T m key x=some r):updM P s' T m key x=some r:=by
 unfold updM at h ⊢
 split at h
 ·rename_i h0
  try simp only[h0]
  split at h
  ·rename_i h1
   rw[hs _ _ h1]
   simp only
   split at h
   ·rename_i h2
    rw[snap_le hs h2];simp only
    rw[frzU_le hs (snap_has h2)]
    exact h
   ·cases h
  ·cases h
 ·cases h
theorem opF_le (hs:HLe s s') {dst:Option Nat} {ver:Nat} {t:Operand->D} {op:Op} {r} (h:opF P dst ver t s op=some r):opF P dst ver t s' op=some r:=by
 cases op with
 | load T a =>
  simp only[opF] at h ⊢
  split at h
  ·rename_i h1 h2
   rw[h1,look_le hs h2];exact h
  ·cases h
 | store T a x =>
  simp only[opF] at h ⊢
  split at h
  ·rename_i h1 h2
   try simp only[h1,h2]
   split at h
   ·rename_i h3
    rw[hs _ _ h3];exact h
   ·rename_i h3
    rw[hs _ _ h3]
    split at h
    ·rename_i h4
     simp only[snap_le hs h4]
     rw[frzU_le hs (snap_has h4)]
     exact h
    ·cases h
   ·cases h
  ·cases h
 | buildSlice T n parts =>
  simp only[opF] at h ⊢
  split at h
  ·rename_i h1
   try simp only[h1]
   split at h
   ·rename_i h2
    try simp only[h2]
    split at h
    ·rename_i h3
     try simp only[h3]
     split at h
     ·rename_i h4
      rw[if_pos h4]
      split at h
      ·rename_i h5
       simp only[snapP_le hs h5]
       rw[frzU_le hs (snapP_has h5)]
       exact h
      ·cases h
     ·cases h
    ·cases h
   ·cases h
  ·cases h
 | mapUpdate T m key x=>simp only[opF] at h ⊢;exact updM_le hs h
 | insert T m key x=>simp only[opF] at h ⊢;exact updM_le hs h
 | lookup T m key ok =>
  simp only[opF] at h ⊢
  split at h
  ·rename_i h1 h2 h3
   try simp only[h1,h2,h3]
   split at h
   ·rename_i h4 h5
    simp only[hs _ _ h4,h5];exact h
   ·cases h
  ·cases h
 | call c =>
  obtain ⟨callee,args,types⟩:=c
  cases callee with
  | builtin b =>
   cases b<;>first | exact h | skip
   case len =>
    simp only[opF] at h ⊢
    split at h
    ·rename_i h1 h2
     try simp only[h1,h2]
     split at h
     ·rename_i h3;try simp only[h3]
      exact h
     ·rename_i h3;try simp only[h3]
      exact h
     ·rename_i h3;try simp only[h3]
      exact h
     ·rename_i h3;try simp only[h3]
      exact h
     ·split at h
      ·rename_i h4 h5
       simp only[h4,hs _ _ h5];exact h
      ·cases h
     ·cases h
    ·cases h
   case clear =>
    simp only[opF] at h ⊢
    split at h
    ·rename_i h1 h2
     try simp only[h1,h2]
     split at h
     ·rename_i h3
      try simp only[h3]
      split at h
      ·rename_i h4
       try simp only[h4]
       split at h
       ·rename_i h5 h6
        simp only[h5,hs _ _ h6];exact h
       ·cases h
      ·cases h
     ·cases h
    ·rename_i h1 h2
     try simp only[h1,h2]
     split at h
     ·rename_i h4 h5
      simp only[h4,hs _ _ h5];exact h
     ·cases h
    ·cases h
   case copy =>
    simp only[opF] at h ⊢
    split at h
    ·rename_i h1 h2
     try simp only[h1,h2]
     split at h
     ·rename_i h3
      try simp only[h3]
      split at h
      ·rename_i h4 h5 h6
       simp only[h4,hs _ _ h5,elems_le hs h6];exact h
      ·cases h
     ·cases h
    ·cases h
   case delete =>
    simp only[opF] at h ⊢
    split at h
    ·rename_i h1 h2
     try simp only[h1,h2]
     split at h
     ·rename_i h4 h5
      simp only[h4,hs _ _ h5];exact h
     ·cases h
    ·cases h
   simp only[opF] at h ⊢
   split at h
   ·rename_i h1 h2
    try simp only[h1,h2]
    split at h
    ·rename_i h3
     try simp only[h3]
     split at h
     ·rename_i h4
      try simp only[h4]
      split at h
      ·rename_i h5
       try simp only[h5]
       split at h
       ·rename_i h6
        rw[if_pos h6]
        split at h
        ·rename_i h7
         try simp only[h7]
         split at h
         ·rename_i h8
          simp only[elems_le hs h8]
          exact appD_le hs h
         ·cases h
        ·rename_i h7
         try simp only[h7]
         split at h
         ·rename_i h8
          try simp only[h8]
          exact appD_le hs h
         ·cases h
        ·cases h
       ·cases h
      ·cases h
     ·cases h
    ·cases h
   ·cases h
  | _=>exact h
 | _=>exact h
end
end Go.Sx
namespace Go.Sx
variable {P:Program}
inductive It where
 | code (c:Code)
 | ops (full:Array Oper) (rest:List Oper)
 | blk (id:Nat)
 | stop (Q:St->Prop)
abbrev AW:=Act->World->Prop
theorem wpIn_scope {F:Fence} {n:Nat} {c:Code} {Q:Exit->AW} {a:Act} {w:World} (h:c.wpIn F n P (Exit.noGoto Q) a w):(Code.scope c).wpIn F n P Q a w:=by
 intro b k cs hro hb hr
 have h0:(lone (b.atR a (.code (.scope c)::k)) cs w).fenced P F:=fenced_calm hb hr rfl
 have s0:step P (lone (b.atR a (.code (.scope c)::k)) cs w)=.next (lone (b.atR a (.code c::.inScope c::k)) cs w):=step_lone_go (by simp[stepG,stepG.exec,Frame.atR])
 obtain ⟨e,a₁,w₁,hq,harr⟩:=h b (.inScope c::k) cs hro hb hr
 have s1:step P (lone (b.atR a₁ (.inScope c::k)) cs w₁)=.next (lone (b.atR a₁ k) cs w₁):=step_lone_go (by simp[stepG,stepG.exec,Frame.atR])
 cases e with
 | normal=>exact ⟨.normal,a₁,w₁,hq,.head h0 s0 (StepsIn.trans harr (.one (fenced_calm hb hr rfl) s1))⟩
 | exit id=>exact ⟨.exit id,a₁,w₁,hq,fun k' hk=>.head h0 s0 (harr.1 k' (by simp[exitTo,hk])),fun hr' hk=>let ⟨k1,e,s⟩:=harr.2 hr' (by simp[exitTo,hk]);⟨k1,e,.head h0 s0 s⟩⟩
 | goto l=>exact hq.elim
 | ret=>exact ⟨_,a₁,w₁,hq,.of_steps (.one h0 s0) harr⟩
 | panic ch=>exact ⟨_,a₁,w₁,hq,.of_steps (.one h0 s0) harr⟩
 | outgrown=>exact ⟨_,a₁,w₁,hq,.of_steps (.one h0 s0) harr⟩
theorem wpIn_loop_ghost {F:Fence} {rm:Nat} {c:Code} {Q:Exit->AW} {a:Act} {w:World} (I:Nat->AW) (n:Nat) (h0:I n a w) (rd:∀ n a w,I n a w->c.wpIn F rm P (Exit.then (fun a w=>∃ k,k<n∧I k a w) Q) a w):(Code.loop c).wpIn F rm P Q a w:=by
 refine wpIn_loop (fun a w=>∃ n,I n a w) (fun a w=>leastOf fun n=>I n a w) ⟨n,h0⟩ fun a w hI=>wpIn_mono (rd _ a w (leastOf_spec hI).1) fun e a' w' hq=>?_
 cases e with
 | normal =>
  obtain ⟨k,hk,hJ⟩:=hq
  exact And.intro ⟨k,hJ⟩ (Nat.lt_of_le_of_lt ((leastOf_spec ⟨k,hJ⟩).2 k hJ) hk)
 | _=>exact hq
@[reducible] def fz (r:Option Nat):Fence:={ Fence.wide with round:=r }
theorem callsIn_fz {r:Option Nat} {n:Nat} {f:FuncId} {args:Array Value} {w:World} {R:Ending->World->Prop} (h:Calls P f args w R):CallsIn (fz r) n P f args w R:=(callsIn_wide (n:=n)).2 h
theorem wp_fz {r:Option Nat} {n:Nat} {o:Oper} {a:Act} {w:World} {K:AW} {Q:Exit->AW} (hd:∀ c,o.op≠.defer c) (h:o.wp P a w K Q):o.wpIn (fz r) n P a w K Q:=by
 refine ⟨fun _ _=>trivial,?_⟩
 rw[Oper.semAt_eq _ _ _ hd]
 unfold Oper.wp at h
 revert h
 generalize (execOp a.eval o).run P w=x
 intro h
 unfold Oper.upon at h
 split at h
 ·exact h
 ·exact h
 ·exact h
 ·exact ⟨fun e=>(by cases e),callsIn_fz h⟩
 ·exact ⟨fun e=>(by cases e),fun c cs _=>let ⟨v,w',r,s⟩:=h c cs;⟨v,w',r,stepsIn_wide.2 s⟩⟩
 ·exact h
 ·exact h.elim
def ofSem (R:AW) (f:Option Nat->AW):Exit->AW
 | .normal=>f none
 | .exit id=>f (some id)
 | .ret=>R
 | _=>fun _ _=>False
def sem (P:Program) (C:Cx) (R:AW):List It->Option Nat->AW
 | [],none=>R
 | [],some _=>fun _ _=>False
 | .stop Q::_,none=>fun a w=>∃ st,Rel P C st a w∧Q st
 | .stop _::k,some i=>sem P C R k (some i)
 | .blk _::k,none=>sem P C R k none
 | .blk j::k,some i=>if i=j then sem P C R k none else sem P C R k (some i)
 | .code c::k,none=>c.wpIn (fz C.rd) 0 P (ofSem R (sem P C R k))
 | .code _::k,some i=>sem P C R k (some i)
 | .ops full rest::k,none=>wpListIn (fz C.rd) 0 P full (ofSem R (sem P C R k)) rest
 | .ops _ _::k,some i=>sem P C R k (some i)
def RelP (P:Program) (C:Cx) (Q:St->Prop):AW:=fun a w=>∃ st,Rel P C st a w∧Q st
class Tag {α:Type} (x:α):Type
instance {α:Type} (x:α):Tag x:=⟨⟩
abbrev Prf {α:Type} (_:α):Prop:=True
def LoopG (P:Program) (C:Cx) (R:St->Prop) (c:Code) (k:List It) (st:St) [Tag (C,R,c,k,st)] (_:Prf c):Prop :=
 ∀ a w,Rel P C st a w->(Code.loop c).wpIn (fz C.rd) 0 P (ofSem (RelP P C R) (sem P C (RelP P C R) k)) a w
def DrawnG (P:Program) (C:Cx) (R:St->Prop) (id:Nat) (ops:Array Oper) (k:List It) (st:St) [Tag (C,R,ops,k,st)] (_:Prf ops):Prop :=
 ∀ a w,Rel P C st a w->(Code.region id ops true).wpIn (fz C.rd) 0 P (ofSem (RelP P C R) (sem P C (RelP P C R) k)) a w
def CallG (P:Program) (G:Nat->Option (List D)) (f:FuncId) (args:List D) (obs:List Ob) (K:D->List Ob->Prop) [Tag (G,K)] (_:Prf args):Prop :=
 ∃ eargs R,fitsL args eargs∧ACalls P G f eargs obs R∧∀ r ls,R r ls->K r ls
def splitB (b:Bool) (x y:Prop):Prop:=(b=true->x)∧(b=false->y)
def setT (st:St) (x:Nat) (d:D):St:={ st with t:=upd st.t x d }
def nx (st:St) (dst:Option Nat) (d:D) (u:Up) (n k:Nat):St :=
 ⟨match dst with | some x=>upd st.t x d | none=>st.t,app st.s u,n,k⟩
def dstOf (dst:Option Nat) (n:Nat):Option Nat:=match dst with
 | some x=>if x<n then some x else none
 | none=>none
def callee (t:Operand->D) (c:Call):Option (FuncId×List D):=match c.callee with
 | .value f=>match t f with
  | .clo (.func g) first caps=>some (g,first++(c.args.toList.map t++caps))
  | _=>none
 | _=>none
def calleeY (t:Operand->D) (c:Call):Option (Nat×List D):=match c.callee with
 | .value f=>match t f with
  | .clo (.yield l) [] []=>some (l,c.args.toList.map t)
  | _=>none
 | _=>none
def isCall:Op->Option Call
 | .call c=>match c.callee with
  | .value _=>some c
  | _=>none
 | _=>none
def aft (s:Heap) (ids fz:List Nat) (r:D) (ls:List Ob) (ver n:Nat):D×Up :=
 if scal r&&ls.all scalO then (r,lentU s ids ls) else ((imp ver n r).1,frzU s fz++(lentU s ids ls++(imp ver n r).2.2))
def aftK (x:D×Up) (dst:Option Nat) (n k:Nat) (f:Option Nat->D->Up->Nat->Nat->Prop) [Tag f] (_:Prf x):Prop:=f dst x.1 x.2 n k
def stepK (x:Option (Prop×D×Up)) (dst:Option Nat) (n k:Nat) (f:Option Nat->D->Up->Nat->Nat->Prop) [Tag f] (_:Prf x):Prop:=match (generalizing:=false) x with
 | some (c,d,u)=>c∧f dst d u n k
 | none=>False
def callK2 (P:Program) (G:Nat->Option (List D)) (f:FuncId) (x:Option (Prop×List D×List Nat×List Ob×List Nat)) (K:List Nat->List Nat->D->List Ob->Prop) [Tag (G,K)] (_:Prf x):Prop:=match (generalizing:=false) x with
 | some (cc,as,ids,obs,fz)=>cc∧CallG P G f as obs (K ids fz) trivial
 | none=>False
def nxS (st:St) (dst:Option Nat) (d:D) (s:Heap) (n k:Nat):St :=
 ⟨match dst with | some x=>upd st.t x d | none=>st.t,s,n,k⟩
def offD (n:Nat) (dst:Option Nat):Option Nat:=match dst with
 | some d=>some (n+d)
 | none=>none
def CallX (P:Program) (C:Cx) (f:FuncId) (args:List D) (dst:Option Nat) (st:St) (K:St->Prop) [Tag (C,dst,st,K)] (_:Prf args):Prop :=
 (∃ fn,P.funcs[f]? = some fn∧fn.body.isNone=false∧(fn.name== "runtime.NumGoroutine")=false) ∧
 ∀ M β w vs,BLe C.b0 β->Inv P C st.s (·<st.k) M β w->RepL P M β args vs->Calls P f ⟨vs⟩ w fun e w'=>∃ v d s' k' M' β',e=.returned v∧Inv P C s' (·<k') M' β' w'∧Rep P M' β' d v∧MLe M M'∧BLe β β'∧K (nxS st (dstOf dst st.n) d s' st.n k')
def YieldX (P:Program) (C:Cx) (l:Nat) (args:List D) (dst:Option Nat) (st:St) (K:St->Prop) [Tag (C,dst,st,K)] (_:Prf args):Prop :=
 ∀ M β w vs,BLe C.b0 β->Inv P C st.s (·<st.k) M β w->RepL P M β args vs->∃ f tmps assign body,(Instr.yield l ⟨vs⟩).run P w=.ok (.round l f tmps assign body) w ∧
  RoundIn (fz C.rd) 0 P l f tmps assign body w fun e w'=>∃ v d s' k' M' β',e=.returned v∧Inv P C s' (·<k') M' β' w'∧Rep P M' β' d v∧MLe M M'∧BLe β β'∧K (nxS st (dstOf dst st.n) d s' st.n k')
def callY1 (P:Program) (C:Cx) (x:Option (Nat×List D)) (dst:Option Nat) (st:St) (K:St->Prop) [Tag (C,dst,st,K)] (_:Prf x):Prop:=match (generalizing:=false) x with
 | some (l,args)=>YieldX P C l args dst st K trivial
 | none=>False
def callX1 (P:Program) (C:Cx) (x:Option (FuncId×List D)) (c:Call) (dst:Option Nat) (st:St) (K:St->Prop) [Tag (C,c,dst,st,K)] (_:Prf x):Prop:=match (generalizing:=false) x with
 | some (f,args)=>CallX P C f args dst st K trivial
 | none=>callY1 P C (calleeY (ev st.t C.G) c) dst st K trivial
def stepI (P:Program) (C:Cx) (x:Option Call) (o:Oper) (st:St) (K:St->Prop) [Tag (C,o,st,K)] (_:Prf x):Prop :=
 match (generalizing:=false) x with
 | some c=>callX1 P C (callee (ev st.t C.G) c) c o.dst st K trivial
 | none=>stepK (opF P (offD C.off o.dst) st.k (ev st.t C.G) st.s o.op) (dstOf o.dst st.n) st.n (st.k+1) (fun dst d u n k=>K (nx st dst d u n k)) trivial
def stepOp (P:Program) (C:Cx) (o:Oper) (st:St) (K:St->Prop):Prop:=stepI P C (isCall o.op) o st K trivial
def skipK (dst:Option Nat) (n k:Nat) (f:Option Nat->Nat->Nat->Prop) [Tag f] (_:Prf dst):Prop:=f dst n k
def guardE (d:D) (r:Nat) (want:Bool) (st:St) (x y:St->Prop) [Tag (st,x,y)] (_:Prf d):Prop:=match (generalizing:=false) d with
 | .v (.bool b)=>splitB b (if want then x st else y st) (if want then y st else x st)
 | .v (.tuple _)=>y st
 | _=>False
def guardG (r:Option Nat) (want:Bool) (st:St) (x y:St->Prop) [Tag (st,x,y)] (_:Prf r):Prop:=match (generalizing:=false) r with
 | some r=>guardE (st.t r) r want st x y trivial
 | none=>False
def guardB (full:Array Oper) (o:Oper) (st:St) (x y:St->Prop):Prop :=
 match o.guard with
 | none=>x st
 | some (g,want)=>guardG ((full[g]?).bind (·.dst)) want st x y trivial
def condE (d:D) (c:Operand) (st:St) (x y:St->Prop) [Tag (c,st,x,y)] (_:Prf d):Prop:=match (generalizing:=false) d with
 | .v (.bool b)=>splitB b (x st) (y st)
 | _=>False
def exitK:Nat->List It->Option (List It)
 | _,[]=>none
 | id,.blk j::k=>if id=j then some k else exitK id k
 | id,_::k=>exitK id k
def exitE (x:Option (List It)) (f:List It->Prop) [Tag f] (_:Prf x):Prop:=match (generalizing:=false) x with
 | some k=>f k
 | none=>False
def run (P:Program) (C:Cx) (R:St->Prop):Nat->List It->St->Prop
 | 0,_,_=>False
 | _+1,[],st=>R st
 | _+1,.stop Q::_,st=>Q st
 | n+1,.blk _::k,st=>run P C R n k st
 | n+1,.ops _ []::k,st=>run P C R n k st
 | n+1,.ops full (o::rest)::k,st=>guardB full o st
     (fun st=>stepOp P C o st (run P C R n (.ops full rest::k)))
     (fun st=>skipK (dstOf o.dst st.n) st.n (st.k+1) (fun dst m j=>run P C R n (.ops full rest::k) (nx st dst (.v undef) [] m j)) trivial)
 | n+1,.code .skip::k,st=>run P C R n k st
 | n+1,.code (.seq x y)::k,st=>run P C R n (.code x::.code y::k) st
 | n+1,.code (.cond c x y)::k,st=>condE (ev st.t C.G c) c st (run P C R n (.code x::k)) (run P C R n (.code y::k)) trivial
 | n+1,.code (.block id c)::k,st=>run P C R n (.code c::.blk id::k) st
 | n+1,.code (.scope c)::k,st=>run P C R n (.code c::k) st
 | n+1,.code (.label _)::k,st=>run P C R n k st
 | n+1,.code (.exit id)::k,st=>exitE (exitK id k) (fun k'=>run P C R n k' st) trivial
 | _+1,.code .ret::_,st=>R st
 | _+1,.code (.loop c)::k,st=>LoopG P C R c k st trivial
 | n+1,.code (.region _ ops false)::k,st=>run P C R n (.ops ops ops.toList::k) st
 | _+1,.code (.region id ops true)::k,st=>DrawnG P C R id ops k st trivial
 | _+1,.code _::_,_=>False
theorem sem_exit {C:Cx} {R:AW} {id:Nat}:∀ {k k':List It} {a:Act} {w:World},exitK id k=some k'->sem P C R k' none a w->sem P C R k (some id) a w
 | [],k',a,w,h,_=>by simp[exitK] at h
 | .blk j::k,k',a,w,h,hs=>by
  unfold exitK at h
  unfold sem
  split at h
  ·rename_i e
   rw[if_pos e]
   simp only[Option.some.injEq] at h
   exact h▸hs
  ·rename_i e
   rw[if_neg e]
   exact sem_exit h hs
 | .code c::k,k',a,w,h,hs=>by unfold exitK at h;unfold sem;exact sem_exit h hs
 | .ops _ _::k,k',a,w,h,hs=>by unfold exitK at h;unfold sem;exact sem_exit h hs
 | .stop _::k,k',a,w,h,hs=>by unfold exitK at h;unfold sem;exact sem_exit h hs
theorem Rel.setT {C:Cx} {st:St} {a:Act} {w:World} (h:Rel P C st a w) {x:Nat} {d:D} (hd:∀ y M β,Rep P M β (st.t x) y->Rep P M β d y):Rel P C (setT st x d) a w:=by
 obtain ⟨h1,h2,M,β,h0,h3,h4⟩:=h
 refine ⟨h1,h2,M,β,h0,fun i=>?_,h4⟩
 simp only[Sx.setT,upd]
 split
 ·rename_i e;subst e;exact hd _ _ _ (h3 i)
 ·exact h3 i
theorem Rel.putS {C:Cx} {st:St} {a:Act} {w':World} {s':Heap} {k':Nat} {M':Mem} {β':Loc} {M:Mem} {β:Loc} {d:D} {v:Value} {dst:Option Nat} (h1:a.defers=C.df) (h2:a.tmps.size=st.n) (h0:BLe C.b0 β)
 (h3:∀ x,Rep P M β (st.t x) (a.tmps.getD x undef)) (hM:MLe M M') (hB:BLe β β') (I:Inv P C s' (·<k') M' β' w') (hv:Rep P M' β' d v):Rel P C (nxS st (dstOf dst st.n) d s' st.n k') (a.put dst v) w':=by
 cases dst with
 | none=>exact ⟨h1,h2,M',β',h0.trans hB,fun x=>(h3 x).mono hM hB,I⟩
 | some x =>
  by_cases hx:x<st.n
  ·simp only[dstOf,if_pos hx]
   refine ⟨h1,by simpa [nxS,Act.put] using h2,M',β',h0.trans hB,fun i=>?_,I⟩
   simp only[nxS,upd,Act.put]
   by_cases hi:i=x
   ·subst hi
    rw[if_pos rfl]
    have:i<a.tmps.size:=by omega
    simpa [this] using hv
   ·rw[if_neg hi]
    have e:(a.tmps.setIfInBounds x v).getD i undef=a.tmps.getD i undef:=by
     simp[Ne.symm hi]
    rw[e]
    exact (h3 i).mono hM hB
  ·simp only[dstOf,if_neg hx]
   refine ⟨h1,by simpa [nxS,Act.put] using h2,M',β',h0.trans hB,fun i=>?_,I⟩
   have e:a.put (some x) v=a:=by
    simp only[Act.put]
    rw[Array.setIfInBounds_eq_of_size_le (by omega)]
   rw[e]
   exact (h3 i).mono hM hB
theorem Rel.put {C:Cx} {st:St} {a:Act} {w':World} {u:Up} {k':Nat} {M':Mem} {β':Loc} {M:Mem} {β:Loc} {d:D} {v:Value} {dst:Option Nat} (h1:a.defers=C.df) (h2:a.tmps.size=st.n) (h0:BLe C.b0 β)
 (h3:∀ x,Rep P M β (st.t x) (a.tmps.getD x undef)) (hM:MLe M M') (hB:BLe β β') (I:Inv P C (app st.s u) (·<k') M' β' w') (hv:Rep P M' β' d v):Rel P C (nx st (dstOf dst st.n) d u st.n k') (a.put dst v) w':=Rel.putS h1 h2 h0 h3 hM hB I hv
theorem wfV_undef:wfV undef:=by simp[undef,wfV]
theorem ofValue_clo {g:FuncId} {va vb vs:List Value} {w:World}:(Deferred.ofValue (.func (.func g) ⟨va⟩ ⟨vb⟩) ⟨vs⟩).run P w=.ok { target:=.fn (.func g) ⟨vb⟩,args:=⟨va++vs⟩ } w:=by
 simp[Deferred.ofValue,pure,Sem.run]
theorem RepL.map {M:Mem} {β:Loc} {t:Operand->D} {ρ:Operand->Value} (h:∀ x,Rep P M β (t x) (ρ x)):∀ l:List Operand,RepL P M β (l.map t) (l.map ρ)
 | []=>by simp[RepL]
 | x::l=>by simp only[List.map_cons,RepL];exact ⟨_,_,rfl,h x,RepL.map h l⟩
theorem exec_call {ρ:Operand->Value} {o:Oper} {c:Call} (hop:o.op=.call c) {x:Operand} (hc:c.callee=.value x) {g:FuncId} {va vb:List Value} (hx:ρ x=.func (.func g) ⟨va⟩ ⟨vb⟩)
 {fn:Func} (hf:P.funcs[g]? = some fn) (hb:fn.body.isNone=false) (hn:(fn.name== "runtime.NumGoroutine")=false) (w:World) :
 (execOp ρ o).run P w=.ok (.enter g ⟨va++(c.args.toList.map ρ++vb)⟩) w:=by
 unfold execOp
 simp only[hop,resolve,hc,hx]
 have e:c.args.map ρ=⟨c.args.toList.map ρ⟩:=by rw[← Array.toList_inj];simp
 rw[e]
 have hn':¬ fn.name = "runtime.NumGoroutine":=by simpa using hn
 have hb':¬ fn.body=none:=by
  intro h0;rw[h0] at hb;simp at hb
 simp[go_sem,ofValue_clo,invoke,callFunc,hf,hb',hn']
theorem exec_yield {ρ:Operand->Value} {o:Oper} {c:Call} (hop:o.op=.call c) {x:Operand} (hc:c.callee=.value x) {l:Nat} (hx:ρ x=.func (.yield l) #[] #[])
 {w:World} {n:Next} (hy:(Instr.yield l ⟨c.args.toList.map ρ⟩).run P w=.ok n w):(execOp ρ o).run P w=.ok n w:=by
 unfold execOp
 simp only[hop,resolve,hc,hx]
 have e:c.args.map ρ=⟨c.args.toList.map ρ⟩:=by rw[← Array.toList_inj];simp
 rw[e]
 simp[go_sem,Deferred.ofValue,pure,invoke,hy]
section
variable {C:Cx} {st:St} {a:Act} {w:World}
mutual
theorem scal_imp {ver n:Nat}:∀ {d:D},scal d=true->imp ver n d=(d,n,[])
 | .any,_=>by simp[imp]
 | .v x,_=>by simp[imp]
 | .agg cs,h=>by simp only[scal] at h;simp only[imp,scalL_imp h]
 | .tup cs,h=>by simp only[scal] at h;simp only[imp,scalL_imp h]
 | .nsl,h=>by simp[scal] at h
 | .isl ..,h=>by simp[scal] at h
 | .osl ..,h=>by simp[scal] at h
 | .ept ..,h=>by simp[scal] at h
 | .ipt ..,h=>by simp[scal] at h
 | .clo ..,h=>by simp[scal] at h
 | .ifc ..,h=>by simp[scal] at h
 | .fsl ..,h=>by simp[scal] at h
 | .fmp ..,h=>by simp[scal] at h
 | .omp ..,h=>by simp[scal] at h
theorem scalL_imp {ver n:Nat}:∀ {ds:List D},scalL ds=true->impL ver n ds=(ds,n,[])
 | [],_=>by simp[impL]
 | d::ds,h=>by
  simp only[scalL,Bool.and_eq_true] at h
  simp only[impL,scal_imp h.1,scalL_imp h.2,List.append_nil]
end
theorem aft_eq (s:Heap) (ids fz:List Nat) (r:D) (ls:List Ob) (ver n:Nat) (hids:∀ id∈ids,∃ v o,s id=some (v,o)):(aft s ids fz r ls ver n).1=(afterCall s ids fz r ls ver n).1∧app s (aft s ids fz r ls ver n).2=(afterCall s ids fz r ls ver n).2:=by
 unfold aft afterCall
 by_cases h:(scal r&&ls.all scalO)=true
 ·simp only[h,if_true]
  simp only[Bool.and_eq_true] at h
  rw[scal_imp h.1]
  exact ⟨rfl,rfl⟩
 ·simp only[h,Bool.false_eq_true,if_false]
  refine ⟨trivial,?_⟩
  rw[app_append,app_append,app_frzU]
theorem exec_dst {ρ:Operand->Value} {o:Oper} {x:Option Nat}:execOp ρ { o with dst:=x }=execOp ρ o:=by
 cases o;rfl
theorem CallX.c {K:St->Prop} {f:FuncId} {args:List D} {dst:Option Nat} (h:callK2 P C.G f (callArgs st.s args) (fun ids fz r ls =>
 aftK (aft st.s ids fz r ls st.k (64*(C.off+dst.getD 0))) (dstOf dst st.n) st.n (st.k+1) (fun dst d u n k=>K (nx st dst d u n k)) trivial) trivial) (t:Prf args):CallX P C f args dst st K t:=by
 unfold callK2 at h
 split at h
 ·rename_i cc as ids obs fz hca
  obtain ⟨hcc,eargs,R,hfit,hA,hKR⟩:=h
  obtain ⟨⟨fn,hf,hb',hn⟩,_⟩:=id hA
  refine ⟨⟨fn,hf,hb',hn⟩,fun M β w vs h0 I hargs=>?_⟩
  have hbox:∀ id∈ids,∃ v o,st.s id=some (v,o):=by
   unfold callArgs at hca
   split at hca
   ·rename_i hl
    split at hca
    ·simp only[Option.some.injEq,Prod.mk.injEq] at hca
     obtain ⟨_,_,rfl,_,_⟩:=hca
     intro id hid
     obtain ⟨v,E,z,cs,fz,hs⟩:=(lendL_boxes hl ⟨by simp,by simp⟩).2 id hid
     exact ⟨_,_,hs⟩
    ·cases hca
   ·cases hca
  refine (call_ok I (ver:=st.k) (by omega) hargs hca hcc hfit hA (64*(C.off+dst.getD 0))).mono ?_
  rintro e w' ⟨v,r,ls,M',β',rfl,hR,I',hv,hM,hB⟩
  obtain ⟨e1,e2⟩:=aft_eq st.s ids fz r ls st.k (64*(C.off+dst.getD 0)) hbox
  rw[← e1] at hv
  rw[← e2] at I'
  exact ⟨v,_,_,st.k+1,M',β',rfl,I'.mono fun v hv=>by show v<st.k+1;omega,hv,hM,hB,hKR r ls hR⟩
 ·exact h.elim
theorem stepOp_ok {o:Oper} {K:St->Prop} {K':AW} {Q:Exit->AW} (hr:Rel P C st a w) (h:stepOp P C o st K) (hK:∀ st a w,Rel P C st a w->K st->K' a w):o.wpIn (fz C.rd) 0 P a w K' Q:=by
 have hnd:∀ c,o.op≠.defer c:=by
  intro c e
  unfold stepOp stepI at h
  rw[e] at h
  simp[isCall,opF,stepK] at h
 obtain ⟨h1,h2,M,β,h0,h3,I⟩:=hr
 have hev:=ev_rep I h3
 unfold stepOp stepI at h
 split at h
 ·rename_i c hc
  have hop:o.op=.call c:=by
   unfold isCall at hc
   split at hc
   ·rename_i c' e
    split at hc
    ·simp only[Option.some.injEq] at hc;subst hc;exact e
    ·cases hc
   ·cases hc
  unfold callX1 at h
  split at h
  ·rename_i f args hcal
   obtain ⟨⟨fn,hf,hb',hn⟩,hX⟩:=h
   unfold callee at hcal
   split at hcal
   ·rename_i x hx
    split at hcal
    ·rename_i g first caps hclo
     simp only[Option.some.injEq,Prod.mk.injEq] at hcal
     obtain ⟨rfl,rfl⟩:=hcal
     have hfx:=hev x
     rw[hclo] at hfx
     simp only[Rep] at hfx
     obtain ⟨va,vb,hfx,ha,hb⟩:=hfx
     refine wp_fz hnd ?_
     unfold Oper.wp
     rw[exec_call hop hx hfx hf hb' hn w]
     rw[Oper.upon_enter]
     have hargs:RepL P M β (first++(c.args.toList.map (ev st.t C.G)++caps)) (va++(c.args.toList.map a.eval++vb)) :=
      ha.append ((RepL.map hev _).append hb)
     refine (hX M β w _ h0 I hargs).mono ?_
     rintro e w' ⟨v,d,s',k',M',β',rfl,I',hv,hM,hB,hk⟩
     exact hK _ _ _ (Rel.putS h1 h2 h0 h3 hM hB I' hv) hk
    ·cases hcal
   ·cases hcal
  ·unfold callY1 at h
   split at h
   rotate_left
   ·exact h.elim
   rename_i l args hcal
   unfold calleeY at hcal
   split at hcal
   ·rename_i x hx
    split at hcal
    ·rename_i l' hclo
     simp only[Option.some.injEq,Prod.mk.injEq] at hcal
     obtain ⟨rfl,rfl⟩:=hcal
     have hfx:=hev x
     rw[hclo] at hfx
     simp only[Rep,RepL] at hfx
     obtain ⟨va,vb,hfx,rfl,rfl⟩:=hfx
     obtain ⟨f,tmps,assign,body,hy,hR⟩:=h M β w _ h0 I (RepL.map hev _)
     refine ⟨fun _ _=>trivial,?_⟩
     rw[Oper.semAt_eq _ _ _ hnd,exec_yield hop hx hfx hy,Oper.uponIn_round]
     refine ⟨fun e=>(by cases e),hR.mono ?_⟩
     rintro e w' ⟨v,d,s',k',M',β',rfl,I',hv,hM,hB,hk⟩
     exact hK _ _ _ (Rel.putS h1 h2 h0 h3 hM hB I' hv) hk
    ·cases hcal
   ·cases hcal
 ·refine wp_fz hnd ?_
  unfold stepK at h
  split at h
  ·rename_i c d u hop
   have:=opF_ok I (ver:=st.k) (by omega) { o with dst:=offD C.off o.dst } a.eval (ev st.t C.G) hev (fun _=>rfl) hop h.1
   obtain ⟨M',β',w',v,hres,I',hv,hM,hB⟩:=this
   rw[exec_dst] at hres
   have hrel:Rel P C (nx st (dstOf o.dst st.n) d u st.n (st.k+1)) (a.put o.dst v) w':=Rel.put h1 h2 h0 h3 hM hB (I'.mono fun v hv=>by show v<st.k+1;omega) hv
   unfold Oper.wp
   rcases hres with hres | ⟨hres,rfl⟩
   ·rw[hres];exact hK _ _ _ hrel h.2
   ·rw[hres];exact hK _ _ _ hrel h.2
  ·exact h.elim
theorem Rel.bump (hr:Rel P C st a w) (dst:Option Nat):Rel P C (nx st (dstOf dst st.n) (.v undef) [] st.n (st.k+1)) (a.put dst undef) w:=by
 obtain ⟨h1,h2,M,β,h0,h3,I⟩:=hr
 exact Rel.put (u:=[]) h1 h2 h0 h3 (MLe.refl _) (BLe.refl _) (I.mono fun v hv=>by show v<st.k+1;have:v<st.k:=hv;omega) (by simp[Rep,wfV_undef])
theorem Rel.bool (hr:Rel P C st a w) {r:Nat} {b:Bool} (hb:st.t r=.v (.bool b)):a.tmps.getD r undef=.bool b:=by
 obtain ⟨h1,h2,M,β,h0,h3,I⟩:=hr
 have:=h3 r
 rw[hb] at this
 simp only[Rep] at this
 exact this.1
theorem Rel.tuple (hr:Rel P C st a w) {r:Nat} {vs:Array Value} (hb:st.t r=.v (.tuple vs)):a.tmps.getD r undef=.tuple vs:=by
 obtain ⟨h1,h2,M,β,h0,h3,I⟩:=hr
 have:=h3 r
 rw[hb] at this
 simp only[Rep] at this
 exact this.1
theorem guardB_ok {full:Array Oper} {o:Oper} {x y:St->Prop} (hr:Rel P C st a w) (h:guardB full o st x y) :
 (Region.wanted o (yielded full a.tmps)=true->x st)∧(Region.wanted o (yielded full a.tmps)=false->y st):=by
 unfold guardB at h
 split at h
 ·rename_i hg
  have hw:Region.wanted o (yielded full a.tmps)=true:=by unfold Region.wanted;rw[hg]
  rw[hw]
  exact ⟨fun _=>h,fun e=>by cases e⟩
 ·rename_i g want hg
  unfold guardG at h
  split at h
  ·rename_i r hdst
   unfold guardE at h
   split at h
   ·rename_i b hb
    have hval:=hr.bool hb
    have hy:yielded full a.tmps g=some b:=by
     unfold yielded
     rw[hdst]
     simp only[Option.bind_some]
     by_cases hs:r<a.tmps.size
     ·have:a.tmps[r]? = some (.bool b):=by
       simp[hs] at hval
       simp[hs,hval]
      rw[this]
     ·simp[hs,undef] at hval
    have hw:Region.wanted o (yielded full a.tmps)=(some b==some want):=by
     unfold Region.wanted;rw[hg];simp only;rw[hy]
    rw[hw]
    obtain ⟨ht,hf⟩:=h
    cases b
    ·have hf:=hf rfl
     cases want<;>simpa using hf
    ·have ht:=ht rfl
     cases want<;>simpa using ht
   ·rename_i vs hb
    have hval:=hr.tuple hb
    have hy:yielded full a.tmps g=none:=by
     unfold yielded
     rw[hdst]
     simp only[Option.bind_some]
     by_cases hs:r<a.tmps.size
     ·have:a.tmps[r]? = some (.tuple vs):=by
       simp[hs] at hval
       simp[hs,hval]
      rw[this]
     ·have:a.tmps[r]? = none:=by simp;omega
      rw[this]
    have hw:Region.wanted o (yielded full a.tmps)=false:=by
     unfold Region.wanted;rw[hg];simp only;rw[hy];rfl
    rw[hw]
    exact ⟨fun e=>(by cases e),fun _=>h⟩
   ·exact h.elim
  ·exact h.elim
theorem run_ok {R:St->Prop}:∀ (n:Nat) (k:List It) {st:St} {a:Act} {w:World},Rel P C st a w->run P C R n k st->sem P C (RelP P C R) k none a w
 | 0,k,st,a,w,_,h=>by unfold run at h;exact h.elim
 | n+1,[],st,a,w,hr,h=>by unfold run at h;exact ⟨st,hr,h⟩
 | n+1,.stop Q::k,st,a,w,hr,h=>by unfold run at h;exact ⟨st,hr,h⟩
 | n+1,.blk _::k,st,a,w,hr,h=>by unfold run at h;exact run_ok n k hr h
 | n+1,.ops full []::k,st,a,w,hr,h=>by
  unfold run at h
  show wpListIn (fz C.rd) 0 P full _ [] a w
  exact run_ok n k hr h
 | n+1,.ops full (o::rest)::k,st,a,w,hr,h=>by
  unfold run at h
  show wpListIn (fz C.rd) 0 P full _ (o::rest) a w
  obtain ⟨hx,hy⟩:=guardB_ok hr h
  refine wpListIn_step fun K hK=>?_
  split
  ·rename_i hw
   exact stepOp_ok hr (hx hw) fun st2 a2 w2 hr2 h2=>hK _ _ (run_ok n (.ops full rest::k) hr2 h2)
  ·rename_i hw
   exact ⟨fun _ _=>trivial,hK _ _ (run_ok n (.ops full rest::k) (hr.bump o.dst) (hy (by simpa using hw)))⟩
 | n+1,.code .skip::k,st,a,w,hr,h=>by unfold run at h;exact wpIn_skip (run_ok n k hr h)
 | n+1,.code (.seq x y)::k,st,a,w,hr,h=>by
  unfold run at h
  refine wpIn_seq ?_
  refine wpIn_mono (run_ok n (.code x::.code y::k) hr h) ?_
  intro e a' w' hq
  cases e<;>exact hq
 | n+1,.code (.cond c x y)::k,st,a,w,hr,h=>by
  unfold run condE at h
  split at h
  ·rename_i b hb
   have h2:a.eval c=.bool b:=by
    obtain ⟨h1,h2,M,β,h0,h3,I⟩:=hr
    have:=ev_rep I h3 c
    rw[hb] at this
    simp only[Rep] at this
    exact this.1
   refine wpIn_cond_split h2 (fun e=>?_) (fun e=>?_)
   ·exact run_ok n (.code x::k) hr (h.1 e)
   ·exact run_ok n (.code y::k) hr (h.2 e)
  ·exact h.elim
 | n+1,.code (.block id c)::k,st,a,w,hr,h=>by
  unfold run at h
  refine wpIn_block ?_
  refine wpIn_mono (run_ok n (.code c::.blk id::k) hr h) ?_
  intro e a' w' hq
  cases e with
  | exit i =>
   simp only[Exit.inBlock]
   have hq:sem P C (RelP P C R) (.blk id::k) (some i) a' w':=hq
   unfold sem at hq
   split at hq<;>rename_i e
   ·rw[if_pos e];exact hq
   ·rw[if_neg e];exact hq
  | _=>exact hq
 | n+1,.code (.scope c)::k,st,a,w,hr,h=>by
  unfold run at h
  refine wpIn_scope (wpIn_mono (run_ok n (.code c::k) hr h) ?_)
  intro e a' w' hq
  cases e<;>exact hq
 | n+1,.code (.label l)::k,st,a,w,hr,h=>by unfold run at h;exact wpIn_label (run_ok n k hr h)
 | n+1,.code (.exit id)::k,st,a,w,hr,h=>by
  unfold run exitE at h
  split at h
  ·rename_i k' hk
   exact wpIn_exit (sem_exit hk (run_ok n k' hr h))
  ·exact h.elim
 | n+1,.code .ret::k,st,a,w,hr,h=>by unfold run at h;exact wpIn_ret ⟨st,hr,h⟩
 | n+1,.code (.loop c)::k,st,a,w,hr,h=>by unfold run at h;exact h a w hr
 | n+1,.code (.region id ops false)::k,st,a,w,hr,h=>by
  unfold run at h
  exact wpIn_region_list (run_ok n (.ops ops ops.toList::k) hr h)
 | n+1,.code (.region id ops true)::k,st,a,w,hr,h=>by unfold run at h;exact h a w hr
 | n+1,.code (.rangeFunc ..)::k,st,a,w,hr,h=>by unfold run at h;exact h.elim
 | n+1,.code (.goto ..)::k,st,a,w,hr,h=>by unfold run at h;exact h.elim
 | n+1,.code (.refuse ..)::k,st,a,w,hr,h=>by unfold run at h;exact h.elim
theorem LoopG.of {R:St->Prop} {c:Code} {k:List It} (I:Nat->St->Prop) (m n:Nat) (h0:I n st) (round:∀ n st,I n st->run P C R m (.code c::.stop (fun st'=>∃ n',n'<n∧I n' st')::k) st) (t':Prf c):LoopG P C R c k st t':=by
 intro a w hr
 refine wpIn_loop_ghost (fun n a w=>∃ st,Rel P C st a w∧I n st) n ⟨st,hr,h0⟩ ?_
 rintro n a w ⟨st,hr,hI⟩
 refine wpIn_mono (run_ok m _ hr (round n st hI)) ?_
 intro e a' w' hq
 cases e with
 | normal =>
  obtain ⟨st',hr',n',hn,hI'⟩:=hq
  exact ⟨n',hn,st',hr',hI'⟩
 | _=>exact hq
def LoopU (P:Program) (C:Cx) (R:St->Prop) (c:Code) (k:List It) (n:Nat) (st:St) [Tag (C,R,c,k,st)] (_:Prf c):Prop :=
 ∀ a w,Rel P C st a w->Code.roundsIn (fz C.rd) 0 P c (ofSem (RelP P C R) (sem P C (RelP P C R) k)) n a w
theorem LoopG.u {R:St->Prop} {c:Code} {k:List It} {st:St} (n:Nat) (h:LoopU P C R c k n st trivial) (t':Prf c):LoopG P C R c k st t' :=
 fun a w hr=>wpIn_loop_rounds n (h a w hr)
theorem LoopU.s {R:St->Prop} {c:Code} {k:List It} {st:St} {n:Nat} (m:Nat) (h:run P C R m (.code c::.stop (fun st'=>LoopU P C R c k n st' trivial)::k) st) (t':Prf c):LoopU P C R c k (n+1) st t':=by
 intro a w hr
 rw[roundsIn_succ]
 refine wpIn_mono (run_ok m _ hr h) ?_
 intro e a' w' hq
 cases e with
 | normal =>
  obtain ⟨st',hr',hI⟩:=hq
  exact hI a' w' hr'
 | _=>exact hq
end
end Go.Sx
namespace Go.Sx
variable {P:Program}
mutual
def shut (s:Heap) (fr:List Nat):D->Option (Prop×D×List Nat×List Nat)
 | .osl id ver z off len=>match s id with
  | some (ver',.arr false E z' es fz)=>if ver=ver'∧z=z' then
   (if id∈fr then some (off=0∧fz=0∧len<=es.length,.fsl E z (es.take len),[],[id])
    else some (off+len<=es.length,.isl E z ((es.drop off).take len),[id],[])) else none
  | _=>none
 | .omp id ver=>match s id with
  | some (ver',.mp k es)=>if ver=ver'∧id∈fr then some (True,.fmp k (es.map (·.1)) (es.map (·.2)),[],[id]) else none
  | _=>none
 | .agg cs=>match shutL s fr cs with
  | some (c,ds,l,m)=>some (c,.agg ds,l,m)
  | none=>none
 | .tup cs=>match shutL s fr cs with
  | some (c,ds,l,m)=>some (c,.tup ds,l,m)
  | none=>none
 | .clo fn a b=>match shutL s fr a,shutL s fr b with
  | some (c,a',l,m),some (c',b',l',m')=>some (c∧c',.clo fn a' b',l++l',m++m')
  | _,_=>none
 | .ifc t d=>match shut s fr d with
  | some (c,e,l,m)=>some (c,.ifc t e,l,m)
  | none=>none
 | .any=>some (True,.any,[],[])
 | .v x=>some (True,.v x,[],[])
 | .nsl=>some (True,.nsl,[],[])
 | .isl E z es=>some (True,.isl E z es,[],[])
 | .ipt z cs c=>some (True,.ipt z cs c,[],[])
 | _=>none
def shutL (s:Heap) (fr:List Nat):List D->Option (Prop×List D×List Nat×List Nat)
 | []=>some (True,[],[],[])
 | d::ds=>match shut s fr d,shutL s fr ds with
  | some (c,e,l,m),some (c',es,l',m')=>some (c∧c',e::es,l++l',m++m')
  | _,_=>none
end
def Blk (β:Loc) (s:Heap) (m:List Nat) (bl:List (Option (Nat×Nat))):Prop :=
 ∃ f:List (Nat×Nat×Option (Nat×Nat)),f.map (·.1)=m∧f.map (·.2.2)=bl∧∀ x∈f,β x.1 x.2.1=some x.2.2∧∃ ob,s x.1=some (x.2.1,ob)
section
variable {C:Cx} {s:Heap} {U:Nat->Prop} {M M':Mem} {β:Loc} {w:World}
theorem Blk.nil:Blk β s [] []:=⟨[],rfl,rfl,by simp⟩
theorem Blk.append {m m':List Nat} {b b':List (Option (Nat×Nat))} (h:Blk β s m b) (k:Blk β s m' b'):Blk β s (m++m') (b++b'):=by
 obtain ⟨f,h1,h2,h3⟩:=h
 obtain ⟨g,k1,k2,k3⟩:=k
 refine ⟨f++g,by simp[h1,k1],by simp[h2,k2],fun x hx=>?_⟩
 rcases List.mem_append.1 hx with hx | hx
 ·exact h3 x hx
 ·exact k3 x hx
theorem ObRep.cut {x:Option (Nat×Nat)} {E z:Nat} {es:List (List D)} (h:ObRep P M β w x (.arr false E z es 0)) (n:Nat):ObRep P M β w x (.arr false E z (es.take n) 0):=by
 cases x with
 | none =>
  simp only[ObRep] at h ⊢
  obtain ⟨_,rfl,_⟩:=h
  simp
 | some bc =>
  obtain ⟨b,cb⟩:=bc
  simp only[ObRep] at h ⊢
  obtain ⟨cs,T,h1,h2,h3,h4,h5,h6,h7,h8,h9,h10⟩:=h
  have hl:(es.take n).length<=es.length:=by simp;omega
  refine ⟨cs,T,h1,h2,fun e he=>h3 e (List.mem_of_mem_take he),by omega,by omega,Nat.le_trans (Nat.mul_le_mul_right _ hl) h6,by omega,h8,h9,fun i d hd=>h10 i d ?_⟩
  obtain ⟨l,hl2⟩:=List.take_prefix n es
  rw[← hl2,List.flatten_append]
  rw[List.getElem?_append_left]
  ·exact hd
  ·exact (List.getElem?_eq_some_iff.1 hd).1
mutual
theorem shut_rep {lz:List Nat} (I:Inv P C s U M β w) (hM:MLe M M') (I':Inv P C (frz s lz) U M' β w) (hF:Frz s M' β w lz) {fr:List Nat} (hfr:∀ i∈fr,i∉lz) :
 ∀ {d r:D} {c:Prop} {l m:List Nat},shut s fr d=some (c,r,l,m)->c->(∀ i∈l,i∈lz)->∀ {y:Value},Rep P M β d y->∃ bl,FrRep P M' w C.w0.heap.size r y bl∧Blk β s m bl
 | .osl id ver z off len,r,c,l,m,h,hc,hl,y,hr=>by
  unfold shut at h
  split at h
  ·rename_i ver' E z' es fz hs
   split at h
   ·rename_i e
    obtain ⟨rfl,rfl⟩:=e
    split at h
    ·rename_i hid
     simp only[Option.some.injEq,Prod.mk.injEq] at h
     obtain ⟨rfl,rfl,rfl,rfl⟩:=h
     obtain ⟨rfl,rfl,hle⟩:=hc
     have hsf:frz s lz id=some (ver,.arr false E z es 0):=by
      unfold frz;rw[if_neg (hfr id hid)];exact hs
     obtain ⟨x,hx,hob⟩:=I'.obs id ver _ hsf
     have hob:=ObRep.cut hob len
     simp only[Rep] at hr
     rcases hr with ⟨h1,_,h2,a,rfl⟩ | ⟨b,cb,o,cap,h1,rfl,h2,h3,h4⟩
     ·rw[h1] at hx
      obtain rfl:none=x:=by simpa using hx
      refine ⟨[none],?_,[(id,ver,none)],rfl,rfl,?_⟩
      ·simp only[FrRep];exact .inl ⟨trivial,List.eq_nil_of_length_eq_zero (by simp;omega),a,rfl⟩
      ·intro x hx;simp at hx;subst hx;exact ⟨h1,_,hs⟩
     ·rw[h1] at hx
      obtain rfl:some (b,cb)=x:=by simpa using hx
      refine ⟨[some (b,cb)],?_,[(id,ver,some (b,cb))],rfl,rfl,?_⟩
      ·simp only[FrRep]
       refine .inr ⟨b,cb,o,rfl,?_,?_,?_,?_⟩
       ·rcases I.own id ver _ b cb hs h1 with h | h
        ·exact h
        ·simp[Ob.bx] at h
       ·rw[show cap=cb by omega,List.length_take,Nat.min_eq_left hle]
       ·rcases h4 with h | h
        ·left;simpa using h
        ·right;omega
       ·exact hob
      ·intro x hx;simp at hx;subst hx;exact ⟨h1,_,hs⟩
    ·simp only[Option.some.injEq,Prod.mk.injEq] at h
     obtain ⟨rfl,rfl,rfl,rfl⟩:=h
     have:=snap_rep (d:=.osl id ver z off len) (d':=.isl E z ((es.drop off).take len)) (c:=off+len<=es.length) (l:=[id]) I hM (by simp[snap,hs]) hc (fun i hi=>hF i (hl i hi)) hr
     exact ⟨[],by simp only[FrRep];exact ⟨trivial,this⟩,Blk.nil⟩
   ·cases h
  ·cases h
 | .agg cs,r,c,l,m,h,hc,hl,y,hr=>by
  unfold shut at h
  split at h
  ·rename_i he
   simp only[Option.some.injEq,Prod.mk.injEq] at h
   obtain ⟨rfl,rfl,rfl,rfl⟩:=h
   simp only[Rep] at hr
   obtain ⟨vs,rfl,hr⟩:=hr
   obtain ⟨bl,h1,h2⟩:=shutL_rep I hM I' hF hfr he hc hl hr
   exact ⟨bl,by simp only[FrRep];exact ⟨vs,rfl,h1⟩,h2⟩
  ·cases h
 | .tup cs,r,c,l,m,h,hc,hl,y,hr=>by
  unfold shut at h
  split at h
  ·rename_i he
   simp only[Option.some.injEq,Prod.mk.injEq] at h
   obtain ⟨rfl,rfl,rfl,rfl⟩:=h
   simp only[Rep] at hr
   obtain ⟨vs,rfl,hr⟩:=hr
   obtain ⟨bl,h1,h2⟩:=shutL_rep I hM I' hF hfr he hc hl hr
   exact ⟨bl,by simp only[FrRep];exact ⟨vs,rfl,h1⟩,h2⟩
  ·cases h
 | .clo fn a b,r,c,l,m,h,hc,hl,y,hr=>by
  unfold shut at h
  split at h
  ·rename_i he hf
   simp only[Option.some.injEq,Prod.mk.injEq] at h
   obtain ⟨rfl,rfl,rfl,rfl⟩:=h
   simp only[Rep] at hr
   obtain ⟨va,vb,rfl,hr1,hr2⟩:=hr
   obtain ⟨bl,h1,h2⟩:=shutL_rep I hM I' hF hfr he hc.1 (fun i hi=>hl i (List.mem_append_left _ hi)) hr1
   obtain ⟨bl',h3,h4⟩:=shutL_rep I hM I' hF hfr hf hc.2 (fun i hi=>hl i (List.mem_append_right _ hi)) hr2
   exact ⟨bl++bl',by simp only[FrRep];exact ⟨va,vb,rfl,bl,bl',rfl,h1,h3⟩,h2.append h4⟩
  ·cases h
 | .ifc t d,r,c,l,m,h,hc,hl,y,hr=>by
  unfold shut at h
  split at h
  ·rename_i he
   simp only[Option.some.injEq,Prod.mk.injEq] at h
   obtain ⟨rfl,rfl,rfl,rfl⟩:=h
   simp only[Rep] at hr
   obtain ⟨x,rfl,hr⟩:=hr
   obtain ⟨bl,h1,h2⟩:=shut_rep I hM I' hF hfr he hc hl hr
   exact ⟨bl,by simp only[FrRep];exact ⟨x,rfl,h1⟩,h2⟩
  ·cases h
 | .any,r,c,l,m,h,hc,hl,y,hr=>by
  simp only[shut,Option.some.injEq,Prod.mk.injEq] at h
  obtain ⟨rfl,rfl,rfl,rfl⟩:=h
  exact ⟨[],by simp[FrRep],Blk.nil⟩
 | .v x,r,c,l,m,h,hc,hl,y,hr=>by
  simp only[shut,Option.some.injEq,Prod.mk.injEq] at h
  obtain ⟨rfl,rfl,rfl,rfl⟩:=h
  exact ⟨[],by simpa [FrRep,Rep] using hr,Blk.nil⟩
 | .nsl,r,c,l,m,h,hc,hl,y,hr=>by
  simp only[shut,Option.some.injEq,Prod.mk.injEq] at h
  obtain ⟨rfl,rfl,rfl,rfl⟩:=h
  exact ⟨[],by simpa [FrRep,Rep] using hr,Blk.nil⟩
 | .isl E z es,r,c,l,m,h,hc,hl,y,hr=>by
  simp only[shut,Option.some.injEq,Prod.mk.injEq] at h
  obtain ⟨rfl,rfl,rfl,rfl⟩:=h
  have:=hr.mono hM (BLe.refl _)
  exact ⟨[],by simp only[FrRep];simp only[Rep] at this ⊢;exact ⟨trivial,this⟩,Blk.nil⟩
 | .ipt z cs k,r,c,l,m,h,hc,hl,y,hr=>by
  simp only[shut,Option.some.injEq,Prod.mk.injEq] at h
  obtain ⟨rfl,rfl,rfl,rfl⟩:=h
  have:=hr.mono hM (BLe.refl _)
  exact ⟨[],by simp only[FrRep];simp only[Rep] at this ⊢;exact ⟨trivial,this⟩,Blk.nil⟩
 | .ept ..,r,c,l,m,h,hc,hl,y,hr=>by simp[shut] at h
 | .fsl ..,r,c,l,m,h,hc,hl,y,hr=>by simp[shut] at h
 | .fmp ..,r,c,l,m,h,hc,hl,y,hr=>by simp[shut] at h
 | .omp id ver,r,c,l,m,h,hc,hl,y,hr=>by
  unfold shut at h
  split at h
  ·rename_i ver' k es hs
   split at h
   ·rename_i hcond
    obtain ⟨rfl,hid⟩:=hcond
    simp only[Option.some.injEq,Prod.mk.injEq] at h
    obtain ⟨rfl,rfl,rfl,rfl⟩:=h
    have hsf:frz s lz id=some (ver,.mp k es):=by
     unfold frz;rw[if_neg (hfr id hid)];exact hs
    obtain ⟨x,hx,hob⟩:=I'.obs id ver _ hsf
    simp only[Rep] at hr
    obtain ⟨b,cb,h1,rfl⟩:=hr
    rw[h1] at hx
    obtain rfl:some (b,cb)=x:=by simpa using hx
    obtain rfl:cb=0:=hob.1
    refine ⟨[some (b,0)],?_,[(id,ver,some (b,0))],rfl,rfl,?_⟩
    ·simp only[FrRep]
     refine ⟨b,rfl,?_,rfl,by simp,?_⟩
     ·rcases I.own id ver _ b 0 hs h1 with h | h
      ·exact h
      ·simp[Ob.bx] at h
     ·rw[show (es.map (·.1)).zip (es.map (·.2))=es by rw[List.zip_map'];simp]
      exact hob
    ·intro x hx;simp at hx;subst hx;exact ⟨h1,_,hs⟩
   ·cases h
  ·cases h
theorem shutL_rep {lz:List Nat} (I:Inv P C s U M β w) (hM:MLe M M') (I':Inv P C (frz s lz) U M' β w) (hF:Frz s M' β w lz) {fr:List Nat} (hfr:∀ i∈fr,i∉lz) :
 ∀ {ds rs:List D} {c:Prop} {l m:List Nat},shutL s fr ds=some (c,rs,l,m)->c->(∀ i∈l,i∈lz)->∀ {ys:List Value},RepL P M β ds ys->∃ bl,FrRepL P M' w C.w0.heap.size rs ys bl∧Blk β s m bl
 | [],rs,c,l,m,h,hc,hl,ys,hr=>by
  simp only[shutL,Option.some.injEq,Prod.mk.injEq] at h
  obtain ⟨rfl,rfl,rfl,rfl⟩:=h
  simp only[RepL] at hr
  exact ⟨[],by simp[FrRepL,hr],Blk.nil⟩
 | d::ds,rs,c,l,m,h,hc,hl,ys,hr=>by
  unfold shutL at h
  split at h
  ·rename_i he hf
   simp only[Option.some.injEq,Prod.mk.injEq] at h
   obtain ⟨rfl,rfl,rfl,rfl⟩:=h
   simp only[RepL] at hr
   obtain ⟨x,xs,rfl,hr1,hr2⟩:=hr
   obtain ⟨bl,h1,h2⟩:=shut_rep I hM I' hF hfr he hc.1 (fun i hi=>hl i (List.mem_append_left _ hi)) hr1
   obtain ⟨bl',h3,h4⟩:=shutL_rep I hM I' hF hfr hf hc.2 (fun i hi=>hl i (List.mem_append_right _ hi)) hr2
   exact ⟨bl++bl',by simp only[FrRepL];exact ⟨x,xs,bl,bl',rfl,rfl,h1,h3⟩,h2.append h4⟩
  ·cases h
end
theorem Blk.nodup (I:Inv P C s U M β w) {m:List Nat} {bl:List (Option (Nat×Nat))} (h:Blk β s m bl) (hm:m.Nodup):(blocks bl).Nodup:=by
 obtain ⟨f,rfl,rfl,hf⟩:=h
 induction f with
 | nil=>simp[blocks]
 | cons x f ih =>
  simp only[List.map_cons,List.nodup_cons] at hm
  have ih:=ih hm.2 fun y hy=>hf y (List.mem_cons_of_mem _ hy)
  obtain ⟨i,v,o⟩:=x
  cases o with
  | none=>simpa [blocks] using ih
  | some bc =>
   obtain ⟨b,cb⟩:=bc
   have e:blocks (((i,v,some (b,cb))::f).map (·.2.2))=b::blocks (f.map (·.2.2)):=by simp[blocks]
   rw[e,List.nodup_cons]
   refine ⟨fun hb=>?_,ih⟩
   simp only[blocks,List.mem_filterMap,List.mem_map] at hb
   obtain ⟨o',⟨y,hy,rfl⟩,hb⟩:=hb
   obtain ⟨j,v',o'⟩:=y
   simp only[Option.map_eq_some_iff] at hb
   obtain ⟨⟨b',cb'⟩,rfl,rfl⟩:=hb
   obtain ⟨h1,ob,h2⟩:=hf (i,v,some (b',cb)) (by simp)
   obtain ⟨h3,ob',h4⟩:=hf (j,v',some (b',cb')) (List.mem_cons_of_mem _ hy)
   have:=I.inj i v ob j v' ob' b' cb cb' h2 h4 h1 h3
   subst this
   exact hm.1 (List.mem_map.2 ⟨_,hy,rfl⟩)
mutual
def fitsR:D->D->Prop
 | .nsl,.isl _ _ es=>es=[]
 | .nsl,.fsl _ _ es=>es=[]
 | .agg cs,.agg ds=>fitsRL cs ds
 | .tup cs,.tup ds=>fitsRL cs ds
 | .ifc t d,.ifc t' e=>t=t'∧fitsR d e
 | d,e=>d=e
def fitsRL:List D->List D->Prop
 | [],[]=>True
 | d::ds,e::es=>fitsR d e∧fitsRL ds es
 | _,_=>False
end
def RetG (r:D) (obs:List Ob) (R':D->List Ob->Prop):Prop:=∃ r',fitsR r r'∧R' r' obs
mutual
theorem fitsR_refl:∀ d:D,fitsR d d
 | .agg cs=>by simp only[fitsR];exact fitsRL_refl cs
 | .tup cs=>by simp only[fitsR];exact fitsRL_refl cs
 | .ifc t d=>by simp only[fitsR];exact ⟨trivial,fitsR_refl d⟩
 | .nsl=>by simp[fitsR]
 | .any=>by simp[fitsR]
 | .v _=>by simp[fitsR]
 | .isl ..=>by simp[fitsR]
 | .osl ..=>by simp[fitsR]
 | .ept ..=>by simp[fitsR]
 | .ipt ..=>by simp[fitsR]
 | .clo ..=>by simp[fitsR]
 | .fsl ..=>by simp[fitsR]
 | .fmp ..=>by simp[fitsR]
 | .omp ..=>by simp[fitsR]
theorem fitsRL_refl:∀ ds:List D,fitsRL ds ds
 | []=>by simp[fitsRL]
 | d::ds=>by simp only[fitsRL];exact ⟨fitsR_refl d,fitsRL_refl ds⟩
end
theorem RetG.same {r:D} {obs:List Ob} {R':D->List Ob->Prop} (h:R' r obs):RetG r obs R':=⟨r,fitsR_refl r,h⟩
mutual
theorem fitsR_rep {M:Mem} {w:World} {B:Nat}:∀ {d e:D} {y:Value} {l:List (Option (Nat×Nat))},fitsR d e->FrRep P M w B d y l->∃ l',FrRep P M w B e y l'∧blocks l'=blocks l
 | .nsl,e,y,l,h,hr=>by
  cases e with
  | isl E z es =>
   simp only[fitsR] at h
   subst h
   simp only[FrRep,Rep] at hr
   obtain ⟨rfl,a,rfl⟩:=hr
   refine ⟨[],?_,rfl⟩
   simp only[FrRep,Rep]
   exact ⟨trivial,by simp,by simp[top47],by simp[top47],a,0,rfl,Nat.le_refl _,.inl trivial⟩
  | fsl E z es =>
   simp only[fitsR] at h
   subst h
   simp only[FrRep,Rep] at hr
   obtain ⟨rfl,a,rfl⟩:=hr
   refine ⟨[none],?_,rfl⟩
   simp only[FrRep]
   exact .inl ⟨trivial,trivial,a,rfl⟩
  | nsl=>exact ⟨l,hr,rfl⟩
  | _=>simp[fitsR] at h
 | .agg cs,e,y,l,h,hr=>by
  cases e with
  | agg ds =>
   simp only[fitsR] at h
   simp only[FrRep] at hr ⊢
   obtain ⟨vs,rfl,hr⟩:=hr
   obtain ⟨l',h1,h2⟩:=fitsRL_rep h hr
   exact ⟨l',⟨vs,rfl,h1⟩,h2⟩
  | _=>simp[fitsR] at h
 | .tup cs,e,y,l,h,hr=>by
  cases e with
  | tup ds =>
   simp only[fitsR] at h
   simp only[FrRep] at hr ⊢
   obtain ⟨vs,rfl,hr⟩:=hr
   obtain ⟨l',h1,h2⟩:=fitsRL_rep h hr
   exact ⟨l',⟨vs,rfl,h1⟩,h2⟩
  | _=>simp[fitsR] at h
 | .ifc t d,e,y,l,h,hr=>by
  cases e with
  | ifc t' e =>
   simp only[fitsR] at h
   obtain ⟨rfl,h⟩:=h
   simp only[FrRep] at hr ⊢
   obtain ⟨x,rfl,hr⟩:=hr
   obtain ⟨l',h1,h2⟩:=fitsR_rep h hr
   exact ⟨l',⟨x,rfl,h1⟩,h2⟩
  | _=>simp[fitsR] at h
 | .any,e,y,l,h,hr=>by have:D.any=e:=by simpa [fitsR] using h
                       exact ⟨l,this▸hr,rfl⟩
 | .v x,e,y,l,h,hr=>by have:D.v x=e:=by simpa [fitsR] using h
                       exact ⟨l,this▸hr,rfl⟩
 | .isl a b c,e,y,l,h,hr=>by have:D.isl a b c=e:=by simpa [fitsR] using h
                             exact ⟨l,this▸hr,rfl⟩
 | .ipt a b c,e,y,l,h,hr=>by have:D.ipt a b c=e:=by simpa [fitsR] using h
                             exact ⟨l,this▸hr,rfl⟩
 | .fsl a b c,e,y,l,h,hr=>by have:D.fsl a b c=e:=by simpa [fitsR] using h
                             exact ⟨l,this▸hr,rfl⟩
 | .fmp a b c,e,y,l,h,hr=>by have:D.fmp a b c=e:=by simpa [fitsR] using h
                             exact ⟨l,this▸hr,rfl⟩
 | .clo a b c,e,y,l,h,hr=>by have:D.clo a b c=e:=by simpa [fitsR] using h
                             exact ⟨l,this▸hr,rfl⟩
 | .osl ..,e,y,l,h,hr=>by simp[FrRep] at hr
 | .ept ..,e,y,l,h,hr=>by simp[FrRep] at hr
 | .omp ..,e,y,l,h,hr=>by simp[FrRep] at hr
theorem fitsRL_rep {M:Mem} {w:World} {B:Nat}:∀ {ds es:List D} {ys:List Value} {l:List (Option (Nat×Nat))},fitsRL ds es->FrRepL P M w B ds ys l->∃ l',FrRepL P M w B es ys l'∧blocks l'=blocks l
 | [],es,ys,l,h,hr=>by
  cases es with
  | nil=>exact ⟨l,hr,rfl⟩
  | cons e es=>simp[fitsRL] at h
 | d::ds,es,ys,l,h,hr=>by
  cases es with
  | nil=>simp[fitsRL] at h
  | cons e es =>
   simp only[fitsRL] at h
   simp only[FrRepL] at hr
   obtain ⟨x,xs,l1,l2,rfl,rfl,h1,h2⟩:=hr
   obtain ⟨l1',k1,k2⟩:=fitsR_rep h.1 h1
   obtain ⟨l2',k3,k4⟩:=fitsRL_rep h.2 h2
   exact ⟨l1'++l2',by simp only[FrRepL];exact ⟨x,xs,l1',l2',rfl,rfl,k1,k3⟩,by rw[blocks_append,blocks_append,k2,k4]⟩
end
def keysL:Nat->Nat->List Nat
 | _,0=>[]
 | k,n+1=>(LB+k)::keysL (k+1) n
theorem keysL_get:∀ (n k j:Nat),j<n->(keysL k n)[j]? = some (LB+(k+j))
 | 0,_,_,h=>by omega
 | n+1,k,0,_=>by simp[keysL]
 | n+1,k,j+1,h=>by
  simp only[keysL,List.getElem?_cons_succ]
  rw[keysL_get n (k+1) j (by omega)]
  congr 1;omega
theorem keysL_length:∀ (n k:Nat),(keysL k n).length=n
 | 0,_=>rfl
 | n+1,k=>by simp[keysL,keysL_length n (k+1)]
def verL (s:Heap):List Nat->Prop
 | []=>True
 | i::l=>(s i).map (·.1)=some 0∧verL s l
theorem verL_get {s:Heap}:∀ {l:List Nat} {j i:Nat},verL s l->l[j]? = some i->(s i).map (·.1)=some 0
 | [],j,i,_,h=>by simp at h
 | x::l,0,i,hv,h=>by simp at h;subst h;exact hv.1
 | x::l,j+1,i,hv,h=>verL_get hv.2 (by simpa using h)
def res1 (st:St) (P:Program):ResultVar->Option (Prop×D)
 | .tmp t=>some (True,st.t t)
 | .cell a T=>match tyOf P T,look st.s (st.t a) with
  | some ty,some (c,cs,o,z)=>if o+ty.size<=z∧(ty.isAgg=true∨ty.size=1) then some (c,cellsD ty.isAgg ((cs.drop o).take ty.size)) else none
  | _,_=>none
def resL (st:St) (P:Program):List ResultVar->Option (Prop×List D)
 | []=>some (True,[])
 | x::l=>match res1 st P x,resL st P l with
  | some (c,d),some (c',ds)=>some (c∧c',d::ds)
  | _,_=>none
def resD:List D->D
 | [d]=>d
 | ds=>.tup ds
def retP (P:Program) (results:List ResultVar) (fr:List Nat) (nl:Nat) (R':D->List Ob->Prop) (st:St):Prop :=
 match resL st P results with
 | some (c,ds)=>match shut st.s fr (resD ds),lentO st.s (keysL 0 nl) with
  | some (c1,r,fz1,fh),some (c2,obs,fz2)=>c∧c1∧c2∧verL st.s (keysL 0 nl)∧fh.Nodup∧(∀ i∈fr,i∉fz1++fz2)∧RetG r obs R'
  | _,_=>False
 | none=>False
end
end Go.Sx
namespace Go.Sx
variable {P:Program}
section
variable {C:Cx} {s:Heap} {U:Nat->Prop} {M:Mem} {β:Loc} {w:World}
def resSem (tmps:Array Value):ResultVar->Sem Value
 | .tmp t=>pure (tmps.getD t undef)
 | .cell a t=>do loadVar t (← asAddr (tmps.getD a undef))
theorem res1_ok {st:St} (I:Inv P C st.s U M β w) {tmps:Array Value} (h3:∀ x,Rep P M β (st.t x) (tmps.getD x undef)) {x:ResultVar} {c:Prop} {d:D} (h:res1 st P x=some (c,d)) (hc:c) :
 ∃ v,(resSem tmps x).run P w=.ok v w∧Rep P M β d v:=by
 cases x with
 | tmp t =>
  simp only[res1,Option.some.injEq,Prod.mk.injEq] at h
  obtain ⟨rfl,rfl⟩:=h
  exact ⟨_,rfl,h3 t⟩
 | cell a T =>
  simp only[res1] at h
  split at h
  ·rename_i hT hl
   split at h
   ·rename_i hcond
    simp only[Option.some.injEq,Prod.mk.injEq] at h
    obtain ⟨rfl,rfl⟩:=h
    obtain ⟨b,o0,hy,hlen,hcell⟩:=look_ok I hl hc (h3 a)
    obtain ⟨v,hv,hrv⟩:=loadVar_ok hT w M β b o0 _ _ _ hlen hcond.1 hcell (fun hf=>by rcases hcond.2 with h | h;(rw[h] at hf;cases hf);exact h)
    refine ⟨v,?_,hrv⟩
    unfold resSem
    simp only
    rw[hy]
    simp[asAddr,hv]
   ·cases h
  ·cases h
theorem resL_ok {st:St} {f:ResultVar->Sem Value} (hf:∀ x c d,res1 st P x=some (c,d)->c->∃ v,(f x).run P w=.ok v w∧Rep P M β d v):∀ {l:List ResultVar} {c:Prop} {ds:List D},resL st P l=some (c,ds)->c ->
 ∃ vs,(l.mapM f).run P w=.ok vs w∧RepL P M β ds vs
 | [],c,ds,h,hc=>by
  simp only[resL,Option.some.injEq,Prod.mk.injEq] at h
  obtain ⟨rfl,rfl⟩:=h
  exact ⟨[],rfl,by simp[RepL]⟩
 | x::l,c,ds,h,hc=>by
  unfold resL at h
  split at h
  ·rename_i he hl
   simp only[Option.some.injEq,Prod.mk.injEq] at h
   obtain ⟨rfl,rfl⟩:=h
   obtain ⟨v,h1,h2⟩:=hf _ _ _ he hc.1
   obtain ⟨vs,h4,h5⟩:=resL_ok hf hl hc.2
   refine ⟨v::vs,?_,by simp only[RepL];exact ⟨_,_,rfl,h2,h5⟩⟩
   simp only[List.mapM_cons,Sem.run_bind,Result.andThen_ok,Sem.run_pure,h4,h1]
  ·cases h
theorem results_ok {st:St} (I:Inv P C st.s U M β w) {tmps:Array Value} (h3:∀ x,Rep P M β (st.t x) (tmps.getD x undef)) {fn:Func} {l:List ResultVar} (hl:fn.results=⟨l⟩) {c:Prop} {ds:List D} (h:resL st P l=some (c,ds)) (hc:c) :
 ∃ v,(results fn tmps).run P w=.ok v w∧Rep P M β (resD ds) v:=by
 obtain ⟨vs,h1,h2⟩:=resL_ok (f:=resSem tmps) (fun x c d hx hc=>res1_ok I h3 hx hc) h hc
 have e0:(fn.results.mapM (resSem tmps)).run P w=.ok vs.toArray w:=by
  rw[hl,Array.mapM_eq_mapM_toList]
  simp only[Sem.run_map,h1,Result.andThen_ok]
 have e:(results fn tmps).run P w=.ok (if h:vs.toArray.size=1 then vs.toArray[0] else .tuple vs.toArray) w:=by
  show ((fn.results.mapM (resSem tmps)) >>= fun vs=>pure (if h:vs.size=1 then vs[0] else .tuple vs):Sem Value).run P w=_
  simp only[Sem.run_bind,e0,Result.andThen_ok,Sem.run_pure]
 refine ⟨_,e,?_⟩
 have hlen:=h2.length
 match ds,vs,h2,hlen with
 | [d],[v],h2,_=>simp only[RepL] at h2;obtain ⟨x,xs,e,h,h'⟩:=h2;simp at e;obtain ⟨rfl,rfl⟩:=e;simpa [resD] using h
 | [],[],h2,_=>simp[resD,Rep,RepL]
 | d::d'::ds,v::v'::vs,h2,_ =>
  have:¬ (v::v'::vs).toArray.size=1:=by simp
  rw[dif_neg this]
  simp only[resD,Rep]
  exact ⟨_,rfl,h2⟩
theorem lentO_box {s:Heap}:∀ {ids:List Nat} {r},lentO s ids=some r->∀ id∈ids,∃ v E z cs fz,s id=some (v,.arr true E z [cs] fz)
 | [],r,h,id,hid=>by simp at hid
 | i::ids,r,h,id,hid=>by
  unfold lentO at h
  split at h
  ·rename_i v E z cs fz hs
   split at h
   ·rename_i h1 h2
    rcases List.mem_cons.1 hid with rfl | hid
    ·exact ⟨_,_,_,_,_,hs⟩
    ·exact lentO_box h2 id hid
   ·cases h
  ·cases h
def st0 (args:List D) (lent:List Ob) (n:Nat):St:=⟨fun i=>(args[i]?).getD (.v undef),heapL lent,n,1⟩
theorem start_inv {G:Nat->Option (List D)} {lb:List (Nat×Nat)} {lent:List Ob} (hM:MemOK M w) (hG:∀ g cs,G g=some cs->RepC P M cs g 0) (hlen:lb.length=lent.length) (hnd:(lb.map (·.1)).Nodup)
 (hob:∀ (k:Nat) ob x,lent[k]? = some ob->lb[k]? = some x->ObRep P M loc0 w (some x) ob∧ob.bx=true):Inv P ⟨G,M,w,lb.map (·.1),locL lb,M,0,none,[]⟩ (heapL lent) (·<1) M (locL lb) w:=by
 have hsplit:∀ id v ob,heapL lent id=some (v,ob)->LB<=id∧v=0∧lent[id-LB]? = some ob:=by
  intro id v ob h
  unfold heapL at h
  split at h
  ·rename_i hle
   simp only[Option.map_eq_some_iff,Prod.mk.injEq] at h
   obtain ⟨o,h1,rfl,rfl⟩:=h
   exact ⟨hle,rfl,h1⟩
  ·cases h
 have hloc:∀ id v x,locL lb id v=some x->v=0∧LB<=id∧∃ y,lb[id-LB]? = some y∧x=some y:=by
  intro id v x h
  unfold locL at h
  split at h
  ·rename_i hle
   simp only[Option.map_eq_some_iff] at h
   obtain ⟨o,h1,rfl⟩:=h
   exact ⟨hle.1,hle.2,o,h1,rfl⟩
  ·cases h
 constructor
 ·exact hM
 ·intro id v x h
  obtain ⟨rfl,_⟩:=hloc id v x h
  exact Nat.zero_lt_one
 ·intro id v ob h
  obtain ⟨h1,rfl,h2⟩:=hsplit id v ob h
  have hlt:id-LB<lb.length:=by
   rw[hlen]
   rcases Nat.lt_or_ge (id-LB) lent.length with h' | h'
   ·exact h'
   ·simp[List.getElem?_eq_none h'] at h2
  refine ⟨some lb[id-LB],?_,?_⟩
  ·unfold locL
   rw[if_pos ⟨rfl,h1⟩]
   simp[hlt]
  ·obtain ⟨g1,_⟩:=hob _ ob lb[id-LB] h2 (List.getElem?_eq_getElem hlt)
   exact g1.mono (MLe.refl _) (BLe.zero _) (fun _ _ _=>rfl) (fun _ _ _ _=>rfl)
 ·intro id v ob b cb h hb
  obtain ⟨h1,rfl,h2⟩:=hsplit id v ob h
  obtain ⟨_,_,y,hy,e⟩:=hloc _ _ _ hb
  simp only[Option.some.injEq] at e
  subst e
  exact .inr ⟨List.mem_map.2 ⟨_,List.mem_of_getElem? hy,rfl⟩,(hob _ ob _ h2 hy).2⟩
 ·intro id v ob id' v' ob' b cb cb' h h' hb hb'
  obtain ⟨h1,rfl,h2⟩:=hsplit id v ob h
  obtain ⟨h1',rfl,h2'⟩:=hsplit id' v' ob' h'
  obtain ⟨_,_,y,hy,e⟩:=hloc _ _ _ hb
  obtain ⟨_,_,y',hy',e'⟩:=hloc _ _ _ hb'
  simp only[Option.some.injEq] at e e'
  subst e;subst e'
  have hn:=List.pairwise_iff_getElem.1 (List.nodup_iff_pairwise_ne.1 hnd)
  have hlt:id-LB<lb.length:=by
   rcases Nat.lt_or_ge (id-LB) lb.length with h' | h'
   ·exact h'
   ·simp[List.getElem?_eq_none h'] at hy
  have hlt':id'-LB<lb.length:=by
   rcases Nat.lt_or_ge (id'-LB) lb.length with h' | h'
   ·exact h'
   ·simp[List.getElem?_eq_none h'] at hy'
  have key:∀ i j,i<j->∀ (hi:i<lb.length) (hj:j<lb.length),∀ c c',lb[i]? = some (b,c)->lb[j]? = some (b,c')->False:=by
   intro i j hij hi hj c c' e e'
   rw[List.getElem?_eq_getElem hi] at e
   rw[List.getElem?_eq_getElem hj] at e'
   simp only[Option.some.injEq] at e e'
   exact hn i j (by simpa using hi) (by simpa using hj) hij (by simp[e,e'])
  rcases Nat.lt_trichotomy (id-LB) (id'-LB) with h | h | h
  ·exact (key _ _ h hlt hlt' _ _ hy hy').elim
  ·rw[← Nat.sub_add_cancel h1,← Nat.sub_add_cancel h1',h]
  ·exact (key _ _ h hlt' hlt _ _ hy' hy).elim
 ·exact Kp.refl _ _
 ·intro b o _;rfl
 ·exact MLe.refl _
 ·exact hG
theorem rel_start {C:Cx} {fn:Func} {args:List D} {vs:List Value} {nt k:Nat} {s:Heap} {M:Mem} {β:Loc} (hd:C.df=[]) (hb:BLe C.b0 β) (hvs:RepL P M β args vs) (hnt:fn.ntmps=nt) (hargs:args.length<=nt) (I:Inv P C s (·<k) M β w) :
 Rel P C ⟨fun i=>(args[i]?).getD (.v undef),s,nt,k⟩ { tmps:=(⟨vs⟩:Array Value)++Array.replicate (fn.ntmps-(⟨vs⟩:Array Value).size) undef,defers:=[] } w:=by
 have hvl:=hvs.length
 refine ⟨hd.symm,by simp[hnt];omega,M,β,hb,fun i=>?_,I⟩
 show Rep P M β ((args[i]?).getD (.v undef)) (((⟨vs⟩:Array Value)++Array.replicate (fn.ntmps-(⟨vs⟩:Array Value).size) undef).getD i undef)
 rcases Nat.lt_or_ge i args.length with hi | hi
 ·obtain ⟨x,hx,hr⟩:=hvs.get i args[i] (List.getElem?_eq_getElem hi)
  rw[List.getElem?_eq_getElem hi]
  have:((⟨vs⟩:Array Value)++Array.replicate (fn.ntmps-(⟨vs⟩:Array Value).size) undef).getD i undef=x:=by
   have hlt:i<vs.length:=by omega
   rw[List.getElem?_eq_getElem hlt] at hx
   simp only[Option.some.injEq] at hx
   simp[Array.getElem?_append,hlt,hx]
  rw[this]
  exact hr
 ·rw[List.getElem?_eq_none hi]
  have:((⟨vs⟩:Array Value)++Array.replicate (fn.ntmps-(⟨vs⟩:Array Value).size) undef).getD i undef=undef:=by
   have hlt:¬ i<vs.length:=by omega
   simp only[Array.getD_eq_getD_getElem?,Array.getElem?_append]
   simp only[List.size_toArray,hlt,if_false]
   rw[Array.getElem?_replicate]
   split<;>rfl
  rw[this]
  simp[Rep,wfV_undef]
theorem retP_fin {C:Cx} {fn:Func} {rs:List ResultVar} {fr:List Nat} {lent:List Ob} {lb:List (Nat×Nat)} {R':D->List Ob->Prop} (hlb:C.lb=lb.map (·.1)) (hb0:BLe (locL lb) C.b0) (hlen:lb.length=lent.length) (hrs:fn.results=⟨rs⟩) :
 ∀ a w',RelP P C (retP P rs fr lent.length R') a w'->∃ v,(results fn a.tmps).run P w'=.ok v w'∧Post P C.M0 C.w0 lb R' (.returned v) w':=by
 rintro a w' ⟨st,⟨h1,h2,M',β,h0,h3,I⟩,hret⟩
 unfold retP at hret
 split at hret
 ·rename_i c ds hres
  split at hret
  ·rename_i c1 r fz1 fh c2 obs fz2 hsh hle
   obtain ⟨hc,hc1,hc2,hver,hfh,hdis,hR⟩:=hret
   obtain ⟨v,hv,hrv⟩:=results_ok I h3 hrs hres hc
   obtain ⟨M2,I2,hM2,hF⟩:=I.freeze (fz1++fz2)
   obtain ⟨bl,hfr,hbl⟩:=shut_rep I hM2 I2 hF hdis hsh hc1 (fun i hi=>List.mem_append_left _ hi) hrv
   have hL:Lent st.s β (keysL 0 lent.length) lb:=by
    intro j id hj
    have hjl:j<lent.length:=by
     rcases Nat.lt_or_ge j lent.length with h' | h'
     ·exact h'
     ·rw[List.getElem?_eq_none (by rw[keysL_length];exact h')] at hj;cases hj
    rw[keysL_get _ _ _ hjl] at hj
    simp only[Option.some.injEq,Nat.zero_add] at hj
    subst hj
    have hv0:=verL_get hver (keysL_get lent.length 0 j hjl)
    rw[Nat.zero_add] at hv0
    simp only[Option.map_eq_some_iff] at hv0
    obtain ⟨⟨v',ob⟩,hs,rfl⟩:=hv0
    have hβ:β (LB+j) 0=some (some (lb[j]'(by omega))):=by
     refine h0 _ _ _ (hb0 _ _ _ ?_)
     show locL lb (LB+j) 0=_
     unfold locL
     rw[if_pos ⟨rfl,Nat.le_add_right _ _⟩]
     have:LB+j-LB=j:=Nat.add_sub_cancel_left ..
     rw[this]
     rw[List.getElem?_eq_getElem (by omega)]
     rfl
    have hbox:∃ E z cs fz,ob=.arr true E z [cs] fz:=by
     have hmem:=lentO_box hle _ (List.mem_of_getElem? (keysL_get lent.length 0 j hjl))
     rw[Nat.zero_add] at hmem
     obtain ⟨v,E,z,cs,fz,hs'⟩:=hmem
     rw[hs] at hs'
     simp only[Option.some.injEq,Prod.mk.injEq] at hs'
     exact ⟨E,z,cs,fz,hs'.2⟩
    obtain ⟨E,z,cs,fz,rfl⟩:=hbox
    exact ⟨0,E,z,cs,fz,lb[j]'(by omega),hs,List.getElem?_eq_getElem (by omega),hβ⟩
   obtain ⟨g1,g2⟩:=lentO_rep I hM2 I2 hF hle hc2 (fun x hx=>List.mem_append_right _ hx) hL (by rw[keysL_length,hlen])
   obtain ⟨r',hrr,hR⟩:=hR
   obtain ⟨bl',hfr',hbb⟩:=fitsR_rep hrr hfr
   refine ⟨v,hv,v,r',obs,M2,bl',rfl,hR,hlb▸I.keep,I2.mem,fun b o hb=>?_,?_,g2,hfr',hbb▸hbl.nodup I hfh⟩
   ·exact I2.old b o hb
   ·rw[g1,keysL_length,hlen]
  ·exact hret.elim
 ·exact hret.elim
theorem acalls_of_sem {G:Nat->Option (List D)} {f:FuncId} {fn:Func} {body:Code} {rs:List ResultVar} {args:List D} {lent:List Ob} {R':D->List Ob->Prop} (fr:List Nat) (nt:Nat)
 (hf:P.funcs[f]? = some fn) (hb:fn.body=some body) (hn:(fn.name== "runtime.NumGoroutine")=false) (hrs:fn.results=⟨rs⟩) (hnt:fn.ntmps=nt) (hargs:args.length<=nt)
 (h:∀ (C:Cx) x,C.G=G->C.lb.length=lent.length->WfL P args->∀ a w,Rel P (C.sub 0 x) (st0 args lent nt) a w->sem P (C.sub 0 x) (RelP P (C.sub 0 x) (retP P rs fr lent.length R')) [.code body] none a w):ACalls P G f args lent R':=by
 refine ⟨⟨fn,hf,by simp[hb],hn⟩,fun M w vs lb hM hG hlen hnd hob hvs=>?_⟩
 refine calls_of_wp hf hb ?_
 have I0:=start_inv (G:=G) hM hG hlen hnd hob
 have hrel:Rel P ⟨G,M,w,lb.map (·.1),locL lb,M,0,none,[]⟩ (st0 args lent nt) _ w:=rel_start rfl (BLe.refl _) hvs hnt hargs I0
 have hrun:=h ⟨G,M,w,lb.map (·.1),locL lb,M,0,none,[]⟩ (M,locL lb) rfl (by rw[← hlen];exact List.length_map ..) hvs.wf _ _ hrel
 refine wp_mono ((wpIn_wide (n:=0)).1 hrun) ?_
 have fin:∀ a w',RelP P ⟨G,M,w,lb.map (·.1),locL lb,M,0,none,[]⟩ (retP P rs fr lent.length R') a w'->a.defers=[]∧∃ v,(results fn a.tmps).run P w'=.ok v w'∧Post P M w lb R' (.returned v) w':=fun a w' h=>⟨by obtain ⟨st,h1,_⟩:=h;exact h1.1,retP_fin rfl (BLe.refl _) hlen hrs a w' h⟩
 intro e a w' hq
 cases e with
 | normal=>exact fin a w' hq
 | ret=>exact fin a w' hq
 | exit id=>exact hq.elim
 | _=>exact hq.elim
theorem acalls_of_run {G:Nat->Option (List D)} {f:FuncId} {fn:Func} {body:Code} {rs:List ResultVar} {args:List D} {lent:List Ob} {R':D->List Ob->Prop} (m:Nat) (fr:List Nat) (nt:Nat)
 (hf:P.funcs[f]? = some fn) (hb:fn.body=some body) (hn:(fn.name== "runtime.NumGoroutine")=false) (hrs:fn.results=⟨rs⟩) (hnt:fn.ntmps=nt) (hargs:args.length<=nt)
 (h:∀ (C:Cx) x,C.G=G->WfL P args->run P (C.sub 0 x) (retP P rs fr lent.length R') m [.code body] (st0 args lent nt)):ACalls P G f args lent R' :=
 acalls_of_sem fr nt hf hb hn hrs hnt hargs fun C x hG _ hwf a w hr=>run_ok m _ hr (h C x hG hwf)
def stI (args:List D) (s:Heap) (n k:Nat):St:=⟨fun i=>(args[i]?).getD (.v undef),s,n,k⟩
def retI (P:Program) (rs:List ResultVar) (K:D->Heap->Nat->Prop) (st:St):Prop:=match resL st P rs with
 | some (c,ds)=>c∧K (resD ds) st.s st.k
 | none=>False
def kOf (dst:Option Nat) (st:St) (K:St->Prop):D->Heap->Nat->Prop:=fun d s k=>K (nxS st (dstOf dst st.n) d s st.n k)
theorem CallX.inl {C:Cx} {f:FuncId} {args:List D} {dst:Option Nat} {st:St} {K:St->Prop} (off:Nat) {fn:Func} {rs:List ResultVar} {nt:Nat} (m:Nat)
 (hk:(P.funcs[f]?,fn.body,fn.name== "runtime.NumGoroutine",fn.results,fn.ntmps,args.length.ble nt)=(some fn,some (fn.body.get!),false,⟨rs⟩,nt,true))
 (h:∀ x,run P (C.sub off x) (retI P rs (kOf dst st K)) m [.code (fn.body.get!)] (stI args st.s nt st.k)) (t:Prf args):CallX P C f args dst st K t:=by
 injection hk with hf hk;injection hk with hb hk;injection hk with hn hk;injection hk with hrs hk;injection hk with hnt hargs
 have hargs:=Nat.le_of_ble_eq_true hargs
 refine ⟨⟨fn,hf,by rw[hb];rfl,hn⟩,fun M β w vs h0 I hvs=>?_⟩
 refine calls_of_wp hf hb ?_
 have I0:Inv P (C.sub off (M,β)) st.s (·<st.k) M β w:=⟨I.mem,I.used,I.obs,I.own,I.inj,I.keep,I.old,MLe.refl _,fun g cs hg=>RepC.mono I.le (I.glob g cs hg)⟩
 have hrel:Rel P (C.sub off (M,β)) (stI args st.s nt st.k) _ w:=rel_start rfl (BLe.refl _) hvs hnt hargs I0
 have hrun:=run_ok m _ hrel (h (M,β))
 refine wp_mono ((wpIn_wide (n:=0)).1 hrun) ?_
 have fin:∀ a w',RelP P (C.sub off (M,β)) (retI P rs (kOf dst st K)) a w'->a.defers=[]∧∃ v,(results fn a.tmps).run P w'=.ok v w' ∧
  (fun e w'=>∃ v d s' k' M' β',e=Ending.returned v∧Inv P C s' (·<k') M' β' w'∧Rep P M' β' d v∧MLe M M'∧BLe β β'∧K (nxS st (dstOf dst st.n) d s' st.n k')) (.returned v) w':=by
  rintro a w' ⟨st',⟨h1,h2,M',β',h0',h3,I'⟩,hret⟩
  refine ⟨h1,?_⟩
  unfold retI at hret
  split at hret
  ·rename_i c ds hres
   obtain ⟨v,hv,hrv⟩:=results_ok I' h3 hrs hres hret.1
   exact ⟨v,hv,v,_,_,_,M',β',rfl,⟨I'.mem,I'.used,I'.obs,I'.own,I'.inj,I'.keep,I'.old,I.le.trans I'.le,I.glob⟩,hrv,I'.le,h0',hret.2⟩
  ·exact hret.elim
 intro e a w' hq
 cases e with
 | normal=>exact fin a w' hq
 | ret=>exact fin a w' hq
 | exit id=>exact hq.elim
 | _=>exact hq.elim
theorem acalls_empty {G:Nat->Option (List D)} {f:FuncId} {E z:Nat} {args:List D} {lent:List Ob} {R':D->List Ob->Prop} (h:∀ a cap,ACalls P G f (.v (.slice a 0 cap)::args) lent R'):ACalls P G f (.isl E z []::args) lent R':=by
 refine ⟨(h none 0).1,fun M w vs lb h1 h2 h3 h4 h5 h6=>?_⟩
 simp only[RepL,Rep] at h6
 obtain ⟨x,xs,rfl,⟨_,_,_,a,cap,rfl,_⟩,h7⟩:=h6
 refine (h a cap).2 M w _ lb h1 h2 h3 h4 h5 ?_
 simp only[RepL,Rep]
 exact ⟨_,_,rfl,⟨rfl,trivial⟩,h7⟩
end
end Go.Sx
namespace Go.Sx
variable {P:Program} {C:Cx} {R:St->Prop}
section
variable {n:Nat} {k:List It} {st:St}
theorem run_nil:run P C R (n+1) [] st=R st:=propext Iff.rfl
theorem run_stop {Q:St->Prop}:run P C R (n+1) (.stop Q::k) st=Q st:=propext Iff.rfl
theorem run_blk {i:Nat}:run P C R (n+1) (.blk i::k) st=run P C R n k st:=propext Iff.rfl
theorem run_done {full:Array Oper}:run P C R (n+1) (.ops full []::k) st=run P C R n k st:=propext Iff.rfl
theorem run_op {full:Array Oper} {o:Oper} {rest:List Oper}:run P C R (n+1) (.ops full (o::rest)::k) st=guardB full o st
 (fun st=>stepOp P C o st (run P C R n (.ops full rest::k)))
 (fun st=>skipK (dstOf o.dst st.n) st.n (st.k+1) (fun dst m j=>run P C R n (.ops full rest::k) (nx st dst (.v undef) [] m j)) trivial):=propext Iff.rfl
theorem run_skip:run P C R (n+1) (.code .skip::k) st=run P C R n k st:=propext Iff.rfl
theorem run_seq {x y:Code}:run P C R (n+1) (.code (.seq x y)::k) st=run P C R n (.code x::.code y::k) st:=propext Iff.rfl
theorem run_cond {c:Operand} {x y:Code}:run P C R (n+1) (.code (.cond c x y)::k) st=condE (ev st.t C.G c) c st (run P C R n (.code x::k)) (run P C R n (.code y::k)) trivial:=propext Iff.rfl
theorem run_block {i:Nat} {c:Code}:run P C R (n+1) (.code (.block i c)::k) st=run P C R n (.code c::.blk i::k) st:=propext Iff.rfl
theorem run_scope {c:Code}:run P C R (n+1) (.code (.scope c)::k) st=run P C R n (.code c::k) st:=propext Iff.rfl
theorem run_label {i:Nat}:run P C R (n+1) (.code (.label i)::k) st=run P C R n k st:=propext Iff.rfl
theorem run_exit {i:Nat}:run P C R (n+1) (.code (.exit i)::k) st=exitE (exitK i k) (fun k'=>run P C R n k' st) trivial:=propext Iff.rfl
theorem run_ret:run P C R (n+1) (.code .ret::k) st=R st:=propext Iff.rfl
theorem run_loop {c:Code}:run P C R (n+1) (.code (.loop c)::k) st=LoopG P C R c k st trivial:=propext Iff.rfl
theorem run_region {i:Nat} {ops:List Oper}:run P C R (n+1) (.code (.region i ⟨ops⟩ false)::k) st=run P C R n (.ops ⟨ops⟩ ops::k) st:=propext Iff.rfl
theorem run_drawn {i:Nat} {ops:Array Oper}:run P C R (n+1) (.code (.region i ops true)::k) st=DrawnG P C R i ops k st trivial:=propext Iff.rfl
variable {full:Array Oper} {dst:Option Nat} {op:Op} {ty:Nat} {pos:String} {af:Array Edge} {x y:St->Prop} {K:St->Prop}
theorem guardB_none:guardB full ⟨dst,op,ty,pos,af,none⟩ st x y=x st:=propext Iff.rfl
theorem guardB_some {g:Nat} {want:Bool}:guardB full ⟨dst,op,ty,pos,af,some (g,want)⟩ st x y=guardG ((full[g]?).bind (·.dst)) want st x y trivial:=propext Iff.rfl
theorem guardG_some {r:Nat} {want:Bool} {t':Prf (some r)}:guardG (some r) want st x y t'=guardE (st.t r) r want st x y trivial:=propext Iff.rfl
theorem guardE_tt {r:Nat} {t':Prf (D.v (.bool true))}:guardE (.v (.bool true)) r true st x y t'=x st:=by simp[guardE,splitB]
theorem guardE_tf {r:Nat} {t':Prf (D.v (.bool true))}:guardE (.v (.bool true)) r false st x y t'=y st:=by simp[guardE,splitB]
theorem guardE_ft {r:Nat} {t':Prf (D.v (.bool false))}:guardE (.v (.bool false)) r true st x y t'=y st:=by simp[guardE,splitB]
theorem guardE_ff {r:Nat} {t':Prf (D.v (.bool false))}:guardE (.v (.bool false)) r false st x y t'=x st:=by simp[guardE,splitB]
theorem guardE_u {r:Nat} {want:Bool} {vs:Array Value} {t':Prf (D.v (.tuple vs))}:guardE (.v (.tuple vs)) r want st x y t'=y st:=rfl
theorem condE_t {c:Operand} {t':Prf (D.v (.bool true))}:condE (.v (.bool true)) c st x y t'=x st:=by simp[condE,splitB]
theorem condE_f {c:Operand} {t':Prf (D.v (.bool false))}:condE (.v (.bool false)) c st x y t'=y st:=by simp[condE,splitB]
theorem exitE_some {f:List It->Prop} {t':Prf (some k)}:exitE (some k) f t'=f k:=propext Iff.rfl
theorem skipK_eq {m j:Nat} {f:Option Nat->Nat->Nat->Prop} {t':Prf dst}:skipK dst m j f t'=f dst m j:=propext Iff.rfl
theorem stepOp_eq {o:Oper}:stepOp P C o st K=stepI P C (isCall o.op) o st K trivial:=propext Iff.rfl
theorem stepI_none {o:Oper} {t':Prf (none:Option Call)}:stepI P C none o st K t'=stepK (opF P (offD C.off o.dst) st.k (ev st.t C.G) st.s o.op) (dstOf o.dst st.n) st.n (st.k+1) (fun dst d u n k=>K (nx st dst d u n k)) trivial:=propext Iff.rfl
theorem stepI_some {o:Oper} {c:Call} {t':Prf (some c)}:stepI P C (some c) o st K t'=callX1 P C (callee (ev st.t C.G) c) c o.dst st K trivial:=propext Iff.rfl
theorem callX1_some {f:Nat} {args:List D} {c:Call} {dst:Option Nat} {t':Prf (some (f,args))}:callX1 P C (some (f,args)) c dst st K t'=CallX P C f args dst st K trivial:=propext Iff.rfl
theorem callX1_none {c:Call} {dst:Option Nat} {t':Prf (none:Option (Nat×List D))}:callX1 P C none c dst st K t'=callY1 P C (calleeY (ev st.t C.G) c) dst st K trivial:=propext Iff.rfl
theorem callY1_some {l:Nat} {args:List D} {dst:Option Nat} {t':Prf (some (l,args))}:callY1 P C (some (l,args)) dst st K t'=YieldX P C l args dst st K trivial:=propext Iff.rfl
theorem stepK_some {c:Prop} {d:D} {u:Up} {m j:Nat} {f:Option Nat->D->Up->Nat->Nat->Prop} {t':Prf (some (c,d,u))}:stepK (some (c,d,u)) dst m j f t'=(c∧f dst d u m j):=propext Iff.rfl
theorem callK2_some {G:Nat->Option (List D)} {f:Nat} {cc:Prop} {as:List D} {ids:List Nat} {obs:List Ob} {fz:List Nat} {K:List Nat->List Nat->D->List Ob->Prop} {t':Prf (some (cc,as,ids,obs,fz))}:callK2 P G f (some (cc,as,ids,obs,fz)) K t'=(cc∧CallG P G f as obs (K ids fz) trivial):=propext Iff.rfl
theorem aftK_eq {d:D} {u:Up} {m j:Nat} {f:Option Nat->D->Up->Nat->Nat->Prop} {t':Prf (d,u)}:aftK (d,u) dst m j f t'=f dst d u m j:=propext Iff.rfl
variable {d:D} {u:Up} {m j i x:Nat}
theorem nx_n:(nx st dst d u m j).n=m:=rfl
theorem nx_k:(nx st dst d u m j).k=j:=rfl
theorem nx_t {i x:Nat}:(nx st (some x) d u m j).t i=if i=x then d else st.t i:=rfl
theorem nx_t0 {i:Nat}:(nx st none d u m j).t i=st.t i:=rfl
theorem nx_s0:(nx st dst d [] m j).s=st.s:=rfl
theorem nx_s {e:Nat×Nat×Ob}:(nx st dst d (e::u) m j).s=app st.s (e::u):=rfl
theorem nxS_n {s:Heap}:(nxS st dst d s m j).n=m:=rfl
theorem nxS_k {s:Heap}:(nxS st dst d s m j).k=j:=rfl
theorem nxS_t {s:Heap} {i x:Nat}:(nxS st (some x) d s m j).t i=if i=x then d else st.t i:=rfl
theorem nxS_t0 {s:Heap} {i:Nat}:(nxS st none d s m j).t i=st.t i:=rfl
theorem nxS_s {s:Heap}:(nxS st dst d s m j).s=s:=rfl
theorem stI_t {args:List D} {s:Heap} {n k i:Nat}:(stI args s n k).t i=(args[i]?).getD (.v undef):=rfl
theorem stI_s {args:List D} {s:Heap} {n k:Nat}:(stI args s n k).s=s:=rfl
theorem stI_n {args:List D} {s:Heap} {n k:Nat}:(stI args s n k).n=n:=rfl
theorem stI_k {args:List D} {s:Heap} {n k:Nat}:(stI args s n k).k=k:=rfl
theorem kOf_eq {s:Heap} {k:Nat}:kOf dst st K d s k=K (nxS st (dstOf dst st.n) d s st.n k):=rfl
theorem sub_off {C:Cx} {n:Nat} {x:Mem×Loc}:(C.sub n x).off=n:=rfl
theorem sub_G {C:Cx} {n:Nat} {x:Mem×Loc}:(C.sub n x).G=C.G:=rfl
theorem st0_t {args:List D} {lent:List Ob} {n i:Nat}:(st0 args lent n).t i=(args[i]?).getD (.v undef):=rfl
theorem st0_s {args:List D} {lent:List Ob} {n:Nat}:(st0 args lent n).s=heapL lent:=rfl
theorem st0_n {args:List D} {lent:List Ob} {n:Nat}:(st0 args lent n).n=n:=rfl
theorem st0_k {args:List D} {lent:List Ob} {n:Nat}:(st0 args lent n).k=1:=rfl
theorem app_nil {s:Heap}:app s []=s:=rfl
theorem app_cons {s:Heap} {i v:Nat} {o:Ob}:app s ((i,v,o)::u)=app (upd s i (some (v,o))) u:=rfl
theorem upd_at {s:Heap} {i j:Nat} {x:Option (Nat×Ob)}:upd s i x j=if j=i then x else s j:=rfl
theorem heapL_nil {i:Nat}:heapL [] i=none:=by simp[heapL]
theorem heapL_at {ls:List Ob} {j:Nat}:heapL ls (LB+j)=(ls[j]?).map (fun o=>(0,o)):=by
 unfold heapL
 rw[if_pos (Nat.le_add_right _ _),Nat.add_sub_cancel_left]
theorem min_i8:IntKind.min .i8 = -128:=by decide
theorem max_i8:IntKind.max .i8=127:=by decide
theorem min_i16:IntKind.min .i16 = -32768:=by decide
theorem max_i16:IntKind.max .i16=32767:=by decide
theorem min_i32:IntKind.min .i32 = -2147483648:=by decide
theorem max_i32:IntKind.max .i32=2147483647:=by decide
theorem min_i64:IntKind.min .i64 = -9223372036854775808:=by decide
theorem max_i64:IntKind.max .i64=9223372036854775807:=by decide
theorem min_u8:IntKind.min .u8=0:=by decide
theorem max_u8:IntKind.max .u8=255:=by decide
theorem min_u16:IntKind.min .u16=0:=by decide
theorem max_u16:IntKind.max .u16=65535:=by decide
theorem min_u32:IntKind.min .u32=0:=by decide
theorem max_u32:IntKind.max .u32=4294967295:=by decide
theorem min_u64:IntKind.min .u64=0:=by decide
theorem max_u64:IntKind.max .u64=18446744073709551615:=by decide
theorem setT_same {r:Nat} {d:D} (h:st.t r=d):setT st r d=st:=by
 unfold setT
 have:upd st.t r d=st.t:=by
  funext j
  unfold upd
  split
  ·rename_i e;subst e;exact h.symm
  ·rfl
 rw[this]
theorem splitB_of {b:Bool} {x y:Prop} (h1:b=true->x) (h2:b=false->y):splitB b x y:=⟨h1,h2⟩
theorem cond_of {b:Bool} {r:Nat} {x y:St->Prop} (hr:st.t r=.v (.bool b)) (h1:b=true->x (setT st r (.v (.bool true)))) (h2:b=false->y (setT st r (.v (.bool false)))) (t':Prf (D.v (.bool b))):condE (.v (.bool b)) (.tmp r) st x y t' :=
 ⟨fun e=>by subst e;have:=h1 rfl;rwa[setT_same hr] at this,fun e=>by subst e;have:=h2 rfl;rwa[setT_same hr] at this⟩
theorem guard_of_t {b:Bool} {r:Nat} {x y:St->Prop} (hr:st.t r=.v (.bool b)) (h1:b=true->x (setT st r (.v (.bool true)))) (h2:b=false->y (setT st r (.v (.bool false)))) (t':Prf (D.v (.bool b))):guardE (.v (.bool b)) r true st x y t' :=
 ⟨fun e=>by subst e;have:=h1 rfl;rwa[setT_same hr] at this,fun e=>by subst e;have:=h2 rfl;rwa[setT_same hr] at this⟩
theorem guard_of_f {b:Bool} {r:Nat} {x y:St->Prop} (hr:st.t r=.v (.bool b)) (h1:b=true->y (setT st r (.v (.bool true)))) (h2:b=false->x (setT st r (.v (.bool false)))) (t':Prf (D.v (.bool b))):guardE (.v (.bool b)) r false st x y t' :=
 ⟨fun e=>by subst e;have:=h1 rfl;rwa[setT_same hr] at this,fun e=>by subst e;have:=h2 rfl;rwa[setT_same hr] at this⟩
theorem setT_t {r i:Nat} {d:D}:(setT st r d).t i=if i=r then d else st.t i:=rfl
theorem setT_s {r:Nat} {d:D}:(setT st r d).s=st.s:=rfl
theorem setT_n {r:Nat} {d:D}:(setT st r d).n=st.n:=rfl
theorem setT_k {r:Nat} {d:D}:(setT st r d).k=st.k:=rfl
theorem CallG.of {G:Nat->Option (List D)} {f:FuncId} {args eargs:List D} {obs:List Ob} {R:D->List Ob->Prop} {K:D->List Ob->Prop} (h:ACalls P G f eargs obs R) (hf:fitsL args eargs) (hK:∀ r ls,R r ls->K r ls) (t':Prf args):CallG P G f args obs K t' :=
 ⟨eargs,R,hf,h,hK⟩
end
end Go.Sx
namespace Go.Sx
variable {P:Program}
structure En where
 i:Nat
 o:Oper
 anc:List Nat
 ws:List Nat
 ms:List Nat
 mi:List Nat
def maskT (ms:List Nat) (t:Nat->D):Nat->D:=fun x=>if ms.contains x then .any else t x
def maskS (mi:List Nat) (s:Heap):Heap:=fun x=>if mi.contains x then none else s x
inductive Kd where
 | det (c:Prop) (d:D) (u:Up)
 | call (c:Prop) (f:FuncId) (as:List D) (ids:List Nat) (obs:List Ob) (fz:List Nat)
 | ro (f:FuncId) (args:List D)
def kd1 (x:Option (Prop×D×Up)):Option Kd:=match x with
 | some (c,d,u)=>some (.det c d u)
 | none=>none
def kd2 (f:FuncId) (args:List D) (x:Option (Prop×List D×List Nat×List Ob×List Nat)):Option Kd:=match x with
 | some (cc,as,ids,obs,fz)=>some (.call cc f as ids obs fz)
 | none=>some (.ro f args)
def kd3 (s:Heap) (x:Option (FuncId×List D)):Option Kd:=match x with
 | some (f,args)=>kd2 f args (callArgs s args)
 | none=>none
def RoA (P:Program) (C:Cx) (s:Heap) (args eargs:List D):Prop:=∀ s' U M β w vs,HLe s s'->Inv P C s' U M β w->RepL P M β args vs->∃ M1,MLe M M1∧MemOK M1 w∧RepL P M1 loc0 eargs vs
def kdO (P:Program) (C:Cx) (ver:Nat) (o:Oper) (t:Nat->D) (s:Heap):Option Kd:=match isCall o.op with
 | some c=>kd3 s (callee (ev t C.G) c)
 | none=>kd1 (opF P (offD C.off o.dst) ver (ev t C.G) s o.op)
def kdG (d:D) (_:Nat) (want:Bool) (x:Option Kd):Option Kd:=match d with
 | .v (.bool b)=>bif b==want then x else some (.det True (.v undef) [])
 | .v (.tuple _)=>some (.det True (.v undef) [])
 | _=>none
def kdE (P:Program) (C:Cx) (full:Array Oper) (ver:Nat) (o:Oper) (t:Nat->D) (s:Heap):Option Kd:=match o.guard with
 | none=>kdO P C ver o t s
 | some (g,want)=>match (full[g]?).bind (·.dst) with
  | some r=>kdG (t r) r want (kdO P C ver o t s)
  | none=>none
def idsIn (u:Up) (ws:List Nat):Prop:=∀ x∈u,x.1∈ws
def doK (P:Program) (C:Cx) (e:En) (ver:Nat) (s:Heap) (x:Option Kd) (F:D->Up->Prop):Prop:=match x with
 | none=>False
 | some (.det c d u)=>c∧idsIn u e.ws∧F d u
 | some (.call c f as ids obs fz)=>c∧∃ eargs R,fitsL as eargs∧ACalls P C.G f eargs obs R∧(∃ r ls,R r ls)∧∀ r ls,R r ls ->
  idsIn (aft s ids fz r ls ver (64*(C.off+e.o.dst.getD 0))).2 e.ws∧F (aft s ids fz r ls ver (64*(C.off+e.o.dst.getD 0))).1 (aft s ids fz r ls ver (64*(C.off+e.o.dst.getD 0))).2
 | some (.ro f args)=>∃ eargs R,RoA P C s args eargs∧ACalls P C.G f eargs [] R∧(∃ r ls,R r ls)∧∀ r ls,R r ls->scal r=true∧F r []
def stepE (P:Program) (C:Cx) (full:Array Oper) (k0:Nat) (e:En) (st:St) (F:St->Prop):Prop :=
 doK P C e (k0+e.i) (maskS e.mi st.s) (kdE P C full (k0+e.i) e.o (maskT e.ms st.t) (maskS e.mi st.s)) fun d u=>F (nx st (dstOf e.o.dst st.n) d u st.n st.k)
def dr (P:Program) (C:Cx) (full:Array Oper) (k0:Nat):List En->St->(St->Prop)->Prop
 | [],st,K=>K st
 | e::es,st,K=>stepE P C full k0 e st fun st=>dr P C full k0 es st K
def isCallB (o:Oper):Bool:=(isCall o.op).isSome
def inB (x:Option Nat) (l:List Nat):Bool:=match x with
 | some x=>l.contains x
 | none=>true
def apartB (e j:En):Bool :=
 (e.o.dst != j.o.dst||e.o.dst.isNone)&&inB e.o.dst j.ms&&inB j.o.dst e.ms&&e.ws.all (fun x=>j.mi.contains x)&&j.ws.all (fun x=>e.mi.contains x)&&e.ws.all (fun x=>!j.ws.contains x)&&!(isCallB e.o&&isCallB j.o)
section
variable {C:Cx} {full:Array Oper} {k0:Nat} {st:St}
theorem doK_mono {e:En} {ver:Nat} {s:Heap} {x:Option Kd} {F F':D->Up->Prop} (h:∀ d u,F d u->F' d u) (hd:doK P C e ver s x F):doK P C e ver s x F':=by
 unfold doK at hd ⊢
 split at hd
 ·exact hd
 ·exact ⟨hd.1,hd.2.1,h _ _ hd.2.2⟩
 ·obtain ⟨hc,eargs,R,h1,h2,h3,h4⟩:=hd
  exact ⟨hc,eargs,R,h1,h2,h3,fun r ls hR=>⟨(h4 r ls hR).1,h _ _ (h4 r ls hR).2⟩⟩
 ·obtain ⟨eargs,R,h1,h2,h3,h4⟩:=hd
  exact ⟨eargs,R,h1,h2,h3,fun r ls hR=>⟨(h4 r ls hR).1,h _ _ (h4 r ls hR).2⟩⟩
theorem stepE_mono {e:En} {F F':St->Prop} (h:∀ st,F st->F' st) (hd:stepE P C full k0 e st F):stepE P C full k0 e st F' :=
 doK_mono (fun _ _ hF=>h _ hF) hd
theorem mask_t {ms:List Nat} {dst:Option Nat} {n m k:Nat} {d:D} {u:Up} (h:inB dst ms=true):maskT ms (nx st (dstOf dst n) d u m k).t=maskT ms st.t:=by
 funext x
 unfold maskT
 split
 ·rfl
 ·rename_i hx
  cases dst with
  | none=>rfl
  | some y =>
   simp only[dstOf]
   split
   ·simp only[nx,upd]
    split
    ·rename_i e;subst e;exact absurd h hx
    ·rfl
   ·rfl
theorem app_other {s:Heap} {i:Nat}:∀ {u:Up},(∀ x∈u,x.1≠i)->app s u i=s i:=by
 intro u
 induction u generalizing s with
 | nil=>intro _;rfl
 | cons x u ih =>
  intro h
  obtain ⟨j,v,o⟩:=x
  show app (upd s j _) u i=s i
  rw[ih fun y hy=>h y (List.mem_cons_of_mem _ hy),upd_other _ _ _ _ (Ne.symm (h (j,v,o) (by simp)))]
theorem mask_s {mi ws:List Nat} {dst:Option Nat} {m k:Nat} {d:D} {u:Up} (hu:idsIn u ws) (h:∀ x∈ws,mi.contains x=true):maskS mi (nx st dst d u m k).s=maskS mi st.s:=by
 funext x
 unfold maskS
 split
 ·rfl
 ·rename_i hx
  exact app_other fun y hy e=>hx (e▸h _ (hu y hy))
theorem app_congr {s s':Heap} {i:Nat}:∀ {u:Up},s i=s' i->app s u i=app s' u i:=by
 intro u
 induction u generalizing s s' with
 | nil=>intro h;exact h
 | cons x u ih =>
  intro h
  obtain ⟨j,v,o⟩:=x
  show app (upd s j _) u i=app (upd s' j _) u i
  refine ih ?_
  unfold upd
  split
  ·rfl
  ·exact h
theorem app_comm {s:Heap} {u u':Up} (h:∀ x∈u,∀ y∈u',x.1≠y.1):app (app s u) u'=app (app s u') u:=by
 funext i
 by_cases hi:∃ x∈u,x.1=i
 ·obtain ⟨x,hx,rfl⟩:=hi
  rw[app_other fun y hy e=>h x hx y hy e.symm]
  exact app_congr (app_other fun y hy e=>h x hx y hy e.symm).symm
 ·have hn:∀ x∈u,x.1≠i:=fun x hx e=>hi ⟨x,hx,e⟩
  rw[app_other (s:=app s u') hn]
  exact app_congr (app_other hn)
theorem nx_comm {e j:Option Nat} {n k:Nat} {d d':D} {u u':Up} (hne:e≠j∨e=none) (h:∀ x∈u,∀ y∈u',x.1≠y.1) :
 nx (nx st (dstOf e n) d u n k) (dstOf j n) d' u' n k=nx (nx st (dstOf j n) d' u' n k) (dstOf e n) d u n k:=by
 have ht:(nx (nx st (dstOf e n) d u n k) (dstOf j n) d' u' n k).t=(nx (nx st (dstOf j n) d' u' n k) (dstOf e n) d u n k).t:=by
  funext x
  cases e with
  | none=>rfl
  | some a =>
   cases j with
   | none=>rfl
   | some b =>
    simp only[dstOf]
    have hab:a≠b:=by
     rcases hne with h | h
     ·exact fun hh=>h (by rw[hh])
     ·cases h
    split<;>split<;>simp only[nx,upd]
    by_cases h1:x=a<;>by_cases h2:x=b<;>simp[h1,h2]
    ·omega
    ·intro hh;exact absurd hh hab
    ·intro hh;exact absurd hh.symm hab
 have hs:(nx (nx st (dstOf e n) d u n k) (dstOf j n) d' u' n k).s=(nx (nx st (dstOf j n) d' u' n k) (dstOf e n) d u n k).s:=app_comm h
 have:∀ (a b:St),a.t=b.t->a.s=b.s->a.n=b.n->a.k=b.k->a=b:=by
  rintro ⟨_,_,_,_⟩ ⟨_,_,_,_⟩ h1 h2 h3 h4
  simp only at h1 h2 h3 h4
  subst h1;subst h2;subst h3;subst h4;rfl
 exact this _ _ ht hs rfl rfl
def Kd.isDet:Kd->Bool
 | .det _ _ _=>true
 | _=>false
theorem kdE_call {ver:Nat} {o:Oper} {t:Nat->D} {s:Heap} {x:Kd} (h:kdE P C full ver o t s=some x) (hx:x.isDet=false):isCallB o=true:=by
 have key:kdO P C ver o t s=some x->isCallB o=true:=by
  intro h
  unfold kdO at h
  unfold isCallB
  split at h
  ·rename_i hc;rw[hc];rfl
  ·unfold kd1 at h
   split at h
   ·simp only[Option.some.injEq] at h;subst h;cases hx
   ·cases h
 unfold kdE at h
 split at h
 ·exact key h
 ·split at h
  ·unfold kdG at h
   split at h
   ·rename_i b _
    cases hb:(b==_) with
    | true=>rw[hb] at h;exact key h
    | false=>rw[hb] at h;simp only[cond_false,Option.some.injEq] at h;subst h;cases hx
   ·simp only[Option.some.injEq] at h;subst h;cases hx
   ·cases h
  ·cases h
theorem stepE_swap {e j:En} {F:St->Prop} (hap:apartB e j=true) (h:stepE P C full k0 e st fun st=>stepE P C full k0 j st F):stepE P C full k0 j st fun st=>stepE P C full k0 e st F:=by
 unfold apartB at hap
 simp only[Bool.and_eq_true,Bool.or_eq_true,bne_iff_ne,ne_eq,Option.isNone_iff_eq_none,List.all_eq_true,Bool.not_eq_true'] at hap
 obtain ⟨⟨⟨⟨⟨⟨hdst,hem⟩,hjm⟩,hew⟩,hjw⟩,hdis⟩,hcc⟩:=hap
 have hdis':∀ {u u':Up},idsIn u e.ws->idsIn u' j.ws->∀ x∈u,∀ y∈u',x.1≠y.1:=by
  intro u u' hu hu' x hx y hy e'
  have h1:=hdis x.1 (hu x hx)
  have h2:=hu' y hy
  rw[← e'] at h2
  have:j.ws.contains x.1=true:=by simpa using h2
  rw[h1] at this;cases this
 have vj:∀ {d u},idsIn u e.ws->maskT j.ms (nx st (dstOf e.o.dst st.n) d u st.n st.k).t=maskT j.ms st.t∧maskS j.mi (nx st (dstOf e.o.dst st.n) d u st.n st.k).s=maskS j.mi st.s :=
  fun hu=>⟨mask_t hem,mask_s hu hew⟩
 have ve:∀ {d u},idsIn u j.ws->maskT e.ms (nx st (dstOf j.o.dst st.n) d u st.n st.k).t=maskT e.ms st.t∧maskS e.mi (nx st (dstOf j.o.dst st.n) d u st.n st.k).s=maskS e.mi st.s :=
  fun hu=>⟨mask_t hjm,mask_s hu hjw⟩
 unfold stepE at h ⊢
 generalize hke:kdE P C full (k0+e.i) e.o (maskT e.ms st.t) (maskS e.mi st.s)=ke at h
 generalize hkj:kdE P C full (k0+j.i) j.o (maskT j.ms st.t) (maskS j.mi st.s)=kj
 cases ke with
 | none=>exact h.elim
 | some ke =>
  cases ke with
  | det c d u =>
   obtain ⟨hc,hu,h⟩:=h
   obtain ⟨v1,v2⟩:=vj (d:=d) hu
   dsimp only at h
   rw[v1,v2,hkj] at h
   cases kj with
   | none=>exact h.elim
   | some kj =>
    cases kj with
    | det c' d' u' =>
     obtain ⟨hc',hu',h⟩:=h
     refine ⟨hc',hu',?_⟩
     obtain ⟨v3,v4⟩:=ve (d:=d') hu'
     try dsimp only
     rw[v3,v4,hke]
     refine ⟨hc,hu,?_⟩
     have:=nx_comm (st:=st) (e:=e.o.dst) (j:=j.o.dst) (n:=st.n) (k:=st.k) (d:=d) (d':=d') hdst (hdis' hu hu')
     exact (congrArg F this).mp h
    | call c' f as ids obs fz =>
     obtain ⟨hc',eargs,R,h1,h2,h3,h4⟩:=h
     refine ⟨hc',eargs,R,h1,h2,h3,fun r ls hR=>?_⟩
     obtain ⟨hu',h⟩:=h4 r ls hR
     refine ⟨hu',?_⟩
     obtain ⟨v3,v4⟩:=ve (d:=(aft (maskS j.mi st.s) ids fz r ls (k0+j.i) (64*(C.off+j.o.dst.getD 0))).1) hu'
     try dsimp only
     rw[v3,v4,hke]
     refine ⟨hc,hu,?_⟩
     have:=nx_comm (st:=st) (e:=e.o.dst) (j:=j.o.dst) (n:=st.n) (k:=st.k) (d:=d) (d':=(aft (maskS j.mi st.s) ids fz r ls (k0+j.i) (64*(C.off+j.o.dst.getD 0))).1) hdst (hdis' hu hu')
     exact (congrArg F this).mp h
    | ro f' args' =>
     obtain ⟨eargs,R,h1,h2,h3,h4⟩:=h
     refine ⟨eargs,R,h1,h2,h3,fun r ls hR=>⟨(h4 r ls hR).1,?_⟩⟩
     have h:=(h4 r ls hR).2
     have hu':idsIn [] j.ws:=fun x hx=>by cases hx
     obtain ⟨v3,v4⟩:=ve (d:=r) hu'
     try dsimp only
     rw[v3,v4,hke]
     refine ⟨hc,hu,?_⟩
     have:=nx_comm (st:=st) (e:=e.o.dst) (j:=j.o.dst) (n:=st.n) (k:=st.k) (d:=d) (d':=r) hdst (hdis' hu hu')
     exact (congrArg F this).mp h
  | ro f args =>
   have hce:=kdE_call hke rfl
   obtain ⟨eargs,R,h1,h2,⟨r0,ls0,hR0⟩,h4⟩:=h
   have hu:idsIn [] e.ws:=fun x hx=>by cases hx
   obtain ⟨_,h0⟩:=h4 r0 ls0 hR0
   obtain ⟨v1,v2⟩:=vj (d:=r0) hu
   dsimp only at h0
   rw[v1,v2,hkj] at h0
   cases kj with
   | none=>exact h0.elim
   | some kj =>
    cases kj with
    | call c' f' as' ids' obs' fz' =>
     have hcj:=kdE_call hkj rfl
     rw[hce,hcj] at hcc
     cases hcc
    | ro f' args' =>
     have hcj:=kdE_call hkj rfl
     rw[hce,hcj] at hcc
     cases hcc
    | det c' d' u' =>
     refine ⟨h0.1,h0.2.1,?_⟩
     obtain ⟨v3,v4⟩:=ve (d:=d') h0.2.1
     try dsimp only
     rw[v3,v4,hke]
     refine ⟨eargs,R,h1,h2,⟨r0,ls0,hR0⟩,fun r ls hR=>⟨(h4 r ls hR).1,?_⟩⟩
     have h:=(h4 r ls hR).2
     obtain ⟨v1,v2⟩:=vj (d:=r) hu
     dsimp only at h
     rw[v1,v2,hkj] at h
     have:=nx_comm (st:=st) (e:=e.o.dst) (j:=j.o.dst) (n:=st.n) (k:=st.k) (d:=r) (d':=d') hdst (hdis' hu h0.2.1)
     exact (congrArg F this).mp h.2.2
  | call c f as ids obs fz =>
   have hce:=kdE_call hke rfl
   obtain ⟨hc,eargs,R,h1,h2,⟨r0,ls0,hR0⟩,h4⟩:=h
   obtain ⟨hu0,h0⟩:=h4 r0 ls0 hR0
   obtain ⟨v1,v2⟩:=vj (d:=(aft (maskS e.mi st.s) ids fz r0 ls0 (k0+e.i) (64*(C.off+e.o.dst.getD 0))).1) hu0
   dsimp only at h0
   rw[v1,v2,hkj] at h0
   cases kj with
   | none=>exact h0.elim
   | some kj =>
    cases kj with
    | call c' f' as' ids' obs' fz' =>
     have hcj:=kdE_call hkj rfl
     rw[hce,hcj] at hcc
     cases hcc
    | ro f' args' =>
     have hcj:=kdE_call hkj rfl
     rw[hce,hcj] at hcc
     cases hcc
    | det c' d' u' =>
     refine ⟨h0.1,h0.2.1,?_⟩
     obtain ⟨v3,v4⟩:=ve (d:=d') h0.2.1
     try dsimp only
     rw[v3,v4,hke]
     refine ⟨hc,eargs,R,h1,h2,⟨r0,ls0,hR0⟩,fun r ls hR=>?_⟩
     obtain ⟨hu,h⟩:=h4 r ls hR
     obtain ⟨v1,v2⟩:=vj (d:=(aft (maskS e.mi st.s) ids fz r ls (k0+e.i) (64*(C.off+e.o.dst.getD 0))).1) hu
     dsimp only at h
     rw[v1,v2,hkj] at h
     refine ⟨hu,?_⟩
     have:=nx_comm (st:=st) (e:=e.o.dst) (j:=j.o.dst) (n:=st.n) (k:=st.k) (d:=(aft (maskS e.mi st.s) ids fz r ls (k0+e.i) (64*(C.off+e.o.dst.getD 0))).1) (d':=d') hdst (hdis' hu h0.2.1)
     exact (congrArg F this).mp h.2.2
theorem dr_exchange {K:St->Prop} {j:En} {l2:List En}:∀ {l1:List En} {st:St},(∀ e∈l1,apartB e j=true)->dr P C full k0 (l1++j::l2) st K->stepE P C full k0 j st fun st=>dr P C full k0 (l1++l2) st K
 | [],st,_,h=>h
 | e::l1,st,hap,h=>by
  have h':stepE P C full k0 e st fun st=>stepE P C full k0 j st fun st=>dr P C full k0 (l1++l2) st K :=
   stepE_mono (fun st hst=>dr_exchange (fun x hx=>hap x (List.mem_cons_of_mem _ hx)) hst) h
  exact stepE_swap (hap e (by simp)) h'
end
end Go.Sx
