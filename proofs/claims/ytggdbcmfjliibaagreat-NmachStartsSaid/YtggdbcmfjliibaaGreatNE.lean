import Derived.Maps.RangeRun
import Derived.ProofKit
import Derived.LaidMore
import Derived.OpenShut
import Derived.Stop.Joined
import Derived.ChangeSame
import Derived.Carry
import Derived.RangeFuncLeaves
import Derived.RangeFuncRecord
import Derived.RangeFuncIn
import Derived.Test.YtggdbcmfjliibaaGreatNB
set_option linter.all false
namespace Go.Sx
variable {P:Program}
section
variable {s s':Heap}
mutual
theorem lend_le (hs:HLe s s'):∀ {d:D} {ls:List Nat} {r},lend s ls d=some r->lend s' ls d=some r
 | .ept id ver z i c,ls,r,h=>by
  unfold lend at h ⊢
  split at h
  ·rename_i he
   rw[hs _ _ he];exact h
  ·cases h
 | .agg cs,ls,r,h=>by
  unfold lend at h ⊢
  split at h
  ·rename_i he
   rw[lendL_le hs he];exact h
  ·cases h
 | .tup cs,ls,r,h=>by
  unfold lend at h ⊢
  split at h
  ·rename_i he
   rw[lendL_le hs he];exact h
  ·cases h
 | .ifc t d,ls,r,h=>by
  unfold lend at h ⊢
  split at h
  ·rename_i he
   rw[lend_le hs he];exact h
  ·cases h
 | .clo fn a b,ls,r,h=>by
  unfold lend at h ⊢
  split at h
  ·rename_i he
   rw[lendL_le hs he]
   simp only
   split at h
   ·rename_i hf
    rw[lendL_le hs hf];exact h
   ·cases h
  ·cases h
 | .osl id ver z off len,ls,r,h=>by
  unfold lend at h ⊢
  split at h
  ·rename_i he
   rw[snap_le hs he];exact h
  ·cases h
 | .any,ls,r,h=>by
  unfold lend at h ⊢
  split at h
  ·rename_i he
   rw[snap_le hs he];exact h
  ·cases h
 | .v _,ls,r,h=>by
  unfold lend at h ⊢
  split at h
  ·rename_i he
   rw[snap_le hs he];exact h
  ·cases h
 | .nsl,ls,r,h=>by
  unfold lend at h ⊢
  split at h
  ·rename_i he
   rw[snap_le hs he];exact h
  ·cases h
 | .isl ..,ls,r,h=>by
  unfold lend at h ⊢
  split at h
  ·rename_i he
   rw[snap_le hs he];exact h
  ·cases h
 | .ipt ..,ls,r,h=>by
  unfold lend at h ⊢
  split at h
  ·rename_i he
   rw[snap_le hs he];exact h
  ·cases h
 | .fsl ..,ls,r,h=>by simp[lend,snap] at h
 | .fmp ..,ls,r,h=>by simp[lend,snap] at h
 | .omp ..,ls,r,h=>by simp[lend,snap] at h
theorem lendL_le (hs:HLe s s'):∀ {ds:List D} {ls:List Nat} {r},lendL s ls ds=some r->lendL s' ls ds=some r
 | [],ls,r,h=>by simpa only[lendL] using h
 | d::ds,ls,r,h=>by
  unfold lendL at h ⊢
  split at h
  ·rename_i he
   rw[lend_le hs he]
   simp only
   split at h
   ·rename_i hf
    rw[lendL_le hs hf];exact h
   ·cases h
  ·cases h
end
theorem has_app {l l':List Nat} (h:Has s l) (h':Has s l'):Has s (l++l'):=fun i hi=>by
 rcases List.mem_append.1 hi with hi | hi
 ·exact h i hi
 ·exact h' i hi
mutual
theorem lend_has:∀ {d:D} {ls:List Nat} {r},lend s ls d=some r->Has s r.2.2.2
 | .ept id ver z i c,ls,r,h=>by
  unfold lend at h
  split at h
  ·split at h
   ·split at h<;>simp only[Option.some.injEq] at h<;>subst h<;>intro i hi<;>simp at hi
   ·cases h
  ·cases h
 | .agg cs,ls,r,h=>by
  unfold lend at h
  split at h
  ·rename_i he
   simp only[Option.some.injEq] at h
   subst h
   exact lendL_has he
  ·cases h
 | .tup cs,ls,r,h=>by
  unfold lend at h
  split at h
  ·rename_i he
   simp only[Option.some.injEq] at h
   subst h
   exact lendL_has he
  ·cases h
 | .ifc t d,ls,r,h=>by
  unfold lend at h
  split at h
  ·rename_i he
   simp only[Option.some.injEq] at h
   subst h
   have:=lend_has he
   exact this
  ·cases h
 | .clo fn a b,ls,r,h=>by
  unfold lend at h
  split at h
  ·rename_i he
   split at h
   ·rename_i hf
    simp only[Option.some.injEq] at h
    subst h
    exact has_app (lendL_has he) (lendL_has hf)
   ·cases h
  ·cases h
 | .osl id ver z off len,ls,r,h=>by
  unfold lend at h
  split at h
  ·rename_i he
   simp only[Option.some.injEq] at h
   subst h
   exact snap_has he
  ·cases h
 | .any,ls,r,h=>by
  unfold lend at h
  split at h
  ·rename_i he
   simp only[Option.some.injEq] at h
   subst h
   exact snap_has he
  ·cases h
 | .v _,ls,r,h=>by
  unfold lend at h
  split at h
  ·rename_i he
   simp only[Option.some.injEq] at h
   subst h
   exact snap_has he
  ·cases h
 | .nsl,ls,r,h=>by
  unfold lend at h
  split at h
  ·rename_i he
   simp only[Option.some.injEq] at h
   subst h
   exact snap_has he
  ·cases h
 | .isl ..,ls,r,h=>by
  unfold lend at h
  split at h
  ·rename_i he
   simp only[Option.some.injEq] at h
   subst h
   exact snap_has he
  ·cases h
 | .ipt ..,ls,r,h=>by
  unfold lend at h
  split at h
  ·rename_i he
   simp only[Option.some.injEq] at h
   subst h
   exact snap_has he
  ·cases h
 | .fsl ..,ls,r,h=>by simp[lend,snap] at h
 | .fmp ..,ls,r,h=>by simp[lend,snap] at h
 | .omp ..,ls,r,h=>by simp[lend,snap] at h
theorem lendL_has:∀ {ds:List D} {ls:List Nat} {r},lendL s ls ds=some r->Has s r.2.2.2
 | [],ls,r,h=>by
  simp only[lendL,Option.some.injEq] at h
  subst h
  intro i hi;simp at hi
 | d::ds,ls,r,h=>by
  unfold lendL at h
  split at h
  ·rename_i he
   split at h
   ·rename_i hf
    simp only[Option.some.injEq] at h
    subst h
    exact has_app (lend_has he) (lendL_has hf)
   ·cases h
  ·cases h
end
theorem lentO_le (hs:HLe s s'):∀ {ids:List Nat} {r},lentO s ids=some r->lentO s' ids=some r
 | [],r,h=>by simpa only[lentO] using h
 | id::ids,r,h=>by
  unfold lentO at h ⊢
  split at h
  ·rename_i he
   rw[hs _ _ he]
   simp only
   split at h
   ·rename_i h1 h2
    rw[snapL_le hs h1,lentO_le hs h2];exact h
   ·cases h
  ·cases h
theorem lentO_has:∀ {ids:List Nat} {r},lentO s ids=some r->Has s r.2.2
 | [],r,h=>by
  simp only[lentO,Option.some.injEq] at h
  subst h
  intro i hi;simp at hi
 | id::ids,r,h=>by
  unfold lentO at h
  split at h
  ·split at h
   ·rename_i h1 h2
    simp only[Option.some.injEq] at h
    subst h
    exact has_app (snapL_has h1) (lentO_has h2)
   ·cases h
  ·cases h
theorem callArgs_le (hs:HLe s s') {args:List D} {r} (h:callArgs s args=some r):callArgs s' args=some r:=by
 unfold callArgs at h ⊢
 split at h
 ·rename_i h1
  rw[lendL_le hs h1]
  simp only
  split at h
  ·rename_i h2
   rw[lentO_le hs h2];exact h
  ·cases h
 ·cases h
theorem callArgs_has {args:List D} {cc:Prop} {as:List D} {ids:List Nat} {obs:List Ob} {fz:List Nat} (h:callArgs s args=some (cc,as,ids,obs,fz)):Has s ids∧Has s fz:=by
 unfold callArgs at h
 split at h
 ·rename_i hl
  split at h
  ·rename_i ho
   simp only[Option.some.injEq,Prod.mk.injEq] at h
   obtain ⟨_,_,rfl,_,rfl⟩:=h
   refine ⟨fun id hid=>?_,has_app (lendL_has hl) (lentO_has ho)⟩
   obtain ⟨v,E,z,cs,fz,hs⟩:=(lendL_boxes hl ⟨by simp,by simp⟩).2 id hid
   exact ⟨_,hs⟩
  ·cases h
 ·cases h
theorem lentU_le (hs:HLe s s'):∀ {ids:List Nat} {obs:List Ob},Has s ids->lentU s' ids obs=lentU s ids obs
 | [],obs,_=>by cases obs<;>rfl
 | id::ids,[],_=>rfl
 | id::ids,o::obs,h=>by
  obtain ⟨x,hx⟩:=h id (by simp)
  obtain ⟨v,ob⟩:=x
  have ih:=lentU_le hs (ids:=ids) (obs:=obs) fun i hi=>h i (List.mem_cons_of_mem _ hi)
  simp only[lentU,hx,hs _ _ hx,ih]
theorem aft_le (hs:HLe s s') {ids fz:List Nat} (h1:Has s ids) (h2:Has s fz) (r:D) (ls:List Ob) (ver n:Nat):aft s' ids fz r ls ver n=aft s ids fz r ls ver n:=by
 unfold aft
 rw[frzU_le hs h2,lentU_le hs h1]
theorem mask_le (mi:List Nat) (s:Heap):HLe (maskS mi s) s:=by
 intro i x h
 unfold maskS at h
 split at h
 ·cases h
 ·exact h
end
def RelD (P:Program) (C:Cx) (U:Nat->Prop) (st:St) (a:Act) (w:World):Prop :=
 a.defers=C.df∧a.tmps.size=st.n∧∃ M β,BLe C.b0 β∧(∀ x,Rep P M β (st.t x) (a.tmps.getD x undef))∧Inv P C st.s U M β w
section
variable {C:Cx} {st:St} {a:Act} {w:World} {U:Nat->Prop}
theorem RelD.put {w':World} {u:Up} {U':Nat->Prop} {M':Mem} {β':Loc} {M:Mem} {β:Loc} {d:D} {v:Value} {dst:Option Nat} {k':Nat} (h1:a.defers=C.df) (h2:a.tmps.size=st.n) (h0:BLe C.b0 β)
 (h3:∀ x,Rep P M β (st.t x) (a.tmps.getD x undef)) (hM:MLe M M') (hB:BLe β β') (I:Inv P C (app st.s u) U' M' β' w') (hv:Rep P M' β' d v):RelD P C U' (nx st (dstOf dst st.n) d u st.n k') (a.put dst v) w':=by
 cases dst with
 | none=>exact ⟨h1,h2,M',β',h0.trans hB,fun x=>(h3 x).mono hM hB,I⟩
 | some x =>
  by_cases hx:x<st.n
  ·simp only[dstOf,if_pos hx]
   refine ⟨h1,by simpa [nx,Act.put] using h2,M',β',h0.trans hB,fun i=>?_,I⟩
   simp only[nx,upd,Act.put]
   by_cases hi:i=x
   ·subst hi
    rw[if_pos rfl]
    have:i<a.tmps.size:=by omega
    simpa [this] using hv
   ·rw[if_neg hi]
    have e:(a.tmps.setIfInBounds x v).getD i undef=a.tmps.getD i undef:=by
     simp[Ne.symm hi]
    rw[e]
    exact (h3 i).mono hM hB
  ·simp only[dstOf,if_neg hx]
   refine ⟨h1,by simpa [nx,Act.put] using h2,M',β',h0.trans hB,fun i=>?_,I⟩
   have e:a.put (some x) v=a:=by
    simp only[Act.put]
    rw[Array.setIfInBounds_eq_of_size_le (by omega)]
   rw[e]
   exact (h3 i).mono hM hB
theorem RelD.drew (h:RelD P C U st a w) (k:Nat):RelD P C U st a { w with drawn:=k }:=by
 obtain ⟨h1,h2,M,β,h0,h3,I⟩:=h
 refine ⟨h1,h2,M,β,h0,h3,?_⟩
 constructor
 ·exact I.mem
 ·exact I.used
 ·intro id v ob hs
  obtain ⟨x,hx,ho⟩:=I.obs id v ob hs
  exact ⟨x,hx,ho.mono (MLe.refl _) (BLe.refl _) (fun _ _ _=>rfl) (fun _ _ _ _=>rfl)⟩
 ·exact I.own
 ·exact I.inj
 ·exact ⟨I.keep.os,I.keep.tape,I.keep.output,I.keep.size,I.keep.block⟩
 ·exact I.old
 ·exact I.le
 ·exact I.glob
theorem stepE_ok {full:Array Oper} {k0:Nat} {e:En} {F:St->Prop} {K:AW} {Q:Exit->AW} (hr:RelD P C U st a w) (hv:¬ U (k0+e.i)) (h:stepE P C full k0 e st F)
 (hK:∀ st' a' w',RelD P C (fun x=>U x∨x=k0+e.i) st' a' w'->F st'->K a' w'):if Region.wanted e.o (yielded full a.tmps)=true then e.o.wp P a w K Q else K (a.put e.o.dst undef) w:=by
 obtain ⟨h1,h2,M,β,h0,h3,I⟩:=hr
 have h3m:∀ x,Rep P M β (maskT e.ms st.t x) (a.tmps.getD x undef):=fun x=>by
  unfold maskT
  split
  ·simp[Rep]
  ·exact h3 x
 have hev:=ev_rep I h3m
 have hle:=mask_le e.mi st.s
 have hskip:F (nx st (dstOf e.o.dst st.n) (.v undef) [] st.n st.k)->K (a.put e.o.dst undef) w:=fun hF =>
  hK _ _ _ (RelD.put (u:=[]) h1 h2 h0 h3 (MLe.refl _) (BLe.refl _) (I.mono fun _ h=>.inl h) (by simp[Rep,wfV_undef])) hF
 have hrun:doK P C e (k0+e.i) (maskS e.mi st.s) (kdO P C (k0+e.i) e.o (maskT e.ms st.t) (maskS e.mi st.s)) (fun d u=>F (nx st (dstOf e.o.dst st.n) d u st.n st.k))->e.o.wp P a w K Q:=by
  intro h
  unfold kdO at h
  split at h
  ·rename_i c hc
   have hop:e.o.op=.call c:=by
    unfold isCall at hc
    split at hc
    ·rename_i c' e
     split at hc
     ·simp only[Option.some.injEq] at hc;subst hc;exact e
     ·cases hc
    ·cases hc
   unfold kd3 at h
   split at h
   ·rename_i f args hcal
    unfold kd2 at h
    split at h
    ·rename_i cc as ids obs fz hca
     obtain ⟨hcc,eargs,R,hfit,hA,_,hKR⟩:=h
     unfold callee at hcal
     split at hcal
     ·rename_i x hx
      split at hcal
      ·rename_i g first caps hclo
       simp only[Option.some.injEq,Prod.mk.injEq] at hcal
       obtain ⟨rfl,rfl⟩:=hcal
       have hfx:=hev x
       rw[hclo] at hfx
       simp only[Rep] at hfx
       obtain ⟨va,vb,hfx,ha,hb⟩:=hfx
       obtain ⟨⟨fn,hf,hb',hn⟩,_⟩:=id hA
       unfold Oper.wp
       rw[exec_call hop hx hfx hf hb' hn w]
       rw[Oper.upon_enter]
       have hargs:RepL P M β (first++(c.args.toList.map (ev (maskT e.ms st.t) C.G)++caps)) (va++(c.args.toList.map a.eval++vb)) :=
        ha.append ((RepL.map hev _).append hb)
       obtain ⟨hh1,hh2⟩:=callArgs_has hca
       have hca':=callArgs_le hle hca
       refine (call_ok I (ver:=k0+e.i) hv hargs hca' hcc hfit hA (64*(C.off+e.o.dst.getD 0))).mono ?_
       rintro e' w' ⟨v,r,ls,M',β',rfl,hR,I',hv',hM,hB⟩
       have hbox:∀ id∈ids,∃ v o,st.s id=some (v,o):=fun id hid=>by
        obtain ⟨x,hx⟩:=hh1 id hid
        exact ⟨x.1,x.2,hle _ _ hx⟩
       obtain ⟨e1,e2⟩:=aft_eq st.s ids fz r ls (k0+e.i) (64*(C.off+e.o.dst.getD 0)) hbox
       rw[← e1] at hv'
       rw[← e2] at I'
       have ea:=aft_le hle hh1 hh2 r ls (k0+e.i) (64*(C.off+e.o.dst.getD 0))
       rw[ea] at hv' I'
       exact hK _ _ _ (RelD.put h1 h2 h0 h3 hM hB I' hv') (hKR r ls hR).2
      ·cases hcal
     ·cases hcal
    ·obtain ⟨eargs,R,hro,hA,_,hKR⟩:=h
     unfold callee at hcal
     split at hcal
     ·rename_i x hx
      split at hcal
      ·rename_i g first caps hclo
       simp only[Option.some.injEq,Prod.mk.injEq] at hcal
       obtain ⟨rfl,rfl⟩:=hcal
       have hfx:=hev x
       rw[hclo] at hfx
       simp only[Rep] at hfx
       obtain ⟨va,vb,hfx,ha,hb⟩:=hfx
       obtain ⟨⟨fn,hf,hb',hn⟩,_⟩:=id hA
       unfold Oper.wp
       rw[exec_call hop hx hfx hf hb' hn w]
       rw[Oper.upon_enter]
       have hargs:RepL P M β (first++(c.args.toList.map (ev (maskT e.ms st.t) C.G)++caps)) (va++(c.args.toList.map a.eval++vb)) :=
        ha.append ((RepL.map hev _).append hb)
       obtain ⟨M1,hM1,hm1,hargs⟩:=hro st.s U M β w _ hle I hargs
       refine (call_ro I hM1 hm1 hargs hA (fun r ls h=>(hKR r ls h).1)).mono ?_
       rintro e' w' ⟨v,r,ls,rfl,hR,I',hv'⟩
       exact hK _ _ _ (RelD.put (u:=[]) h1 h2 h0 h3 (MLe.refl _) (BLe.refl _) (I'.mono fun _ h=>.inl h) hv') (hKR r ls hR).2
      ·cases hcal
     ·cases hcal
   ·exact h.elim
  ·unfold kd1 at h
   split at h
   ·rename_i c d u hop
    obtain ⟨hc,_,hF⟩:=h
    have:=opF_ok I (ver:=k0+e.i) hv { e.o with dst:=offD C.off e.o.dst } a.eval (ev (maskT e.ms st.t) C.G) hev (fun _=>rfl) (opF_le hle hop) hc
    obtain ⟨M',β',w',v,hres,I',hv',hM,hB⟩:=this
    rw[exec_dst] at hres
    have hrel:RelD P C (fun x=>U x∨x=k0+e.i) (nx st (dstOf e.o.dst st.n) d u st.n st.k) (a.put e.o.dst v) w':=RelD.put h1 h2 h0 h3 hM hB I' hv'
    unfold Oper.wp
    rcases hres with hres | ⟨hres,rfl⟩
    ·rw[hres];exact hK _ _ _ hrel hF
    ·rw[hres];exact hK _ _ _ hrel hF
   ·exact h.elim
 unfold stepE kdE at h
 split at h
 ·rename_i hg
  have hw:Region.wanted e.o (yielded full a.tmps)=true:=by unfold Region.wanted;rw[hg]
  rw[if_pos hw]
  exact hrun h
 ·rename_i g want hg
  split at h
  ·rename_i r hdst
   unfold kdG at h
   split at h
   ·rename_i b hb
    have hval:a.tmps.getD r undef=.bool b:=by
     have:=h3m r
     rw[hb] at this
     simp only[Rep] at this
     exact this.1
    have hy:yielded full a.tmps g=some b:=by
     unfold yielded
     rw[hdst]
     simp only[Option.bind_some]
     by_cases hs:r<a.tmps.size
     ·have:a.tmps[r]? = some (.bool b):=by
       simp[hs] at hval
       simp[hs,hval]
      rw[this]
     ·simp[hs,undef] at hval
    have hw:Region.wanted e.o (yielded full a.tmps)=(b==want):=by
     unfold Region.wanted;rw[hg];simp only;rw[hy];rfl
    rw[hw]
    cases hbw:(b==want) with
    | true =>
     rw[hbw] at h
     rw[if_pos rfl]
     exact hrun h
    | false =>
     rw[hbw] at h
     rw[if_neg (by simp)]
     exact hskip h.2.2
   ·rename_i vs hb
    have hval:a.tmps.getD r undef=.tuple vs:=by
     have:=h3m r
     rw[hb] at this
     simp only[Rep] at this
     exact this.1
    have hy:yielded full a.tmps g=none:=by
     unfold yielded
     rw[hdst]
     simp only[Option.bind_some]
     by_cases hs:r<a.tmps.size
     ·have:a.tmps[r]? = some (.tuple vs):=by
       simp[hs] at hval
       simp[hs,hval]
      rw[this]
     ·rw[Array.getElem?_eq_none (Nat.le_of_not_lt hs)]
    have hw:Region.wanted e.o (yielded full a.tmps)=false:=by
     unfold Region.wanted;rw[hg];simp only;rw[hy];rfl
    rw[hw,if_neg (by simp)]
    exact hskip h.2.2
   ·exact h.elim
  ·exact h.elim
end
end Go.Sx
namespace Go.Sx
variable {P:Program}
def edgeB (e:En):Bool:=e.o.after.toList.all fun d=>!Region.binds .any d||d.on<e.i
def ancB (es:List En) (e:En):Bool:=e.anc.all fun x=>e.o.after.toList.any fun d=>Region.binds .any d&&(d.on==x||((es[d.on]?).map (·.anc.contains x)).getD false)
def pairB (es:List En) (j:En):Bool:=es.all fun e=>!(e.i<j.i)||j.anc.contains e.i||apartB e j
def chkD (es:List En):Bool:=es.all edgeB&&es.all (ancB es)&&es.all (pairB es)
def remD (es:List En) (listed:Array Bool):List En:=es.filter fun e=>!listed.getD e.i true
section
variable {C:Cx} {ops:Array Oper} {k0:Nat} {es:List En} {Q:Exit->AW} {K:St->Prop}
def UD (k0:Nat) (listed:Array Bool):Nat->Prop:=fun v=>v<k0∨∃ i,listed.getD i false=true∧v=k0+i
theorem es_get (ho:es.map (·.o)=ops.toList) (hi:es.map (·.i)=List.range es.length) {j:Nat} {o:Oper} (h:ops[j]? = some o):∃ e,e∈es∧es[j]? = some e∧e.i=j∧e.o=o:=by
 have h1:(es.map (·.o))[j]? = some o:=by rw[ho];simpa using h
 simp only[List.getElem?_map,Option.map_eq_some_iff] at h1
 obtain ⟨e,he,rfl⟩:=h1
 refine ⟨e,List.mem_of_getElem? he,he,?_,rfl⟩
 have h2:(es.map (·.i))[j]? = some e.i:=by simp[he]
 rw[hi] at h2
 have hj:j<es.length:=by
  rcases Nat.lt_or_ge j es.length with h' | h'
  ·exact h'
  ·rw[List.getElem?_eq_none h'] at he;cases he
 rw[List.getElem?_range hj] at h2
 simpa using h2.symm
theorem es_lt (hi:es.map (·.i)=List.range es.length) {e:En} (he:e∈es):e.i<es.length∧es[e.i]? = some e:=by
 obtain ⟨j,hj,rfl⟩:=List.getElem_of_mem he
 have h2:(es.map (·.i))[j]? = some es[j].i:=by simp[hj]
 rw[hi,List.getElem?_range hj] at h2
 simp only[Option.some.injEq] at h2
 rw[← h2]
 exact ⟨hj,by simp[hj]⟩
theorem es_sorted (hi:es.map (·.i)=List.range es.length):es.Pairwise fun a b=>a.i<b.i:=by
 have:=List.pairwise_lt_range (n:=es.length)
 rw[← hi,List.pairwise_map] at this
 exact this
theorem anyD (ho:es.map (·.o)=ops.toList) (hi:es.map (·.i)=List.range es.length) (hc:chkD es=true)
 (hQ:∀ st a w,RelD P C (fun v=>v<k0+es.length) st a w->K st->Q .normal a w) :
 ∀ (fuel:Nat) (listed:Array Bool) (a:Act) (w:World) (st:St),(remD es listed).length=fuel->listed.size=es.length->RelD P C (UD k0 listed) st a w ->
  (∀ e∈es,listed.getD e.i false=true->∀ x∈e.anc,listed.getD x false=true)->dr P C ops k0 (remD es listed) st K->wpAny P .any ops Q fuel listed a w:=by
 unfold chkD at hc
 simp only[Bool.and_eq_true,List.all_eq_true] at hc
 obtain ⟨⟨hedge,hanc⟩,hpair⟩:=hc
 have hsort:=es_sorted hi
 have hlen:es.length=ops.size:=by
  have:=congrArg List.length ho
  simpa using this
 have getD_flip:∀ (listed:Array Bool) (x:Nat),x<listed.size->(listed.getD x true=listed.getD x false):=by
  intro listed x hx
  simp[hx]
 intro fuel
 induction fuel with
 | zero =>
  intro listed a w st hfuel hsz hr hcl hd
  have hnil:remD es listed=[]:=List.eq_nil_of_length_eq_zero hfuel
  refine ⟨?_,?_⟩
  ·cases hrd:Region.ready .any ops listed with
   | nil=>rfl
   | cons j js =>
    have hj:j∈Region.ready .any ops listed:=by rw[hrd];simp
    obtain ⟨hun,o,hoj,_⟩:=mem_ready.1 hj
    obtain ⟨e,he,_,hei,_⟩:=es_get ho hi hoj
    have:e∈remD es listed:=List.mem_filter.2 ⟨he,by rw[hei,hun];rfl⟩
    rw[hnil] at this;cases this
  ·rw[hnil] at hd
   refine hQ st a w ?_ hd
   obtain ⟨h1,h2,M,β,h0,h3,I⟩:=hr
   refine ⟨h1,h2,M,β,h0,h3,I.mono fun v hv=>?_⟩
   rcases hv with hv | ⟨i,hl,rfl⟩
   ·exact Nat.lt_of_lt_of_le hv (Nat.le_add_right _ _)
   ·have:i<listed.size:=by
     rcases Nat.lt_or_ge i listed.size with h' | h'
     ·exact h'
     ·simp[Array.getElem?_eq_none h'] at hl
    show k0+i<k0+es.length
    omega
 | succ fuel ih =>
  intro listed a w st hfuel hsz hr hcl hd
  refine ⟨fun hnil=>?_,fun j hj=>?_⟩
  ·
   exfalso
   cases hrem:remD es listed with
   | nil=>rw[hrem] at hfuel;simp at hfuel
   | cons e l =>
    have hmem:e∈remD es listed:=by rw[hrem];simp
    obtain ⟨he,hun⟩:=List.mem_filter.1 hmem
    have hsr:(remD es listed).Pairwise fun a b=>a.i<b.i:=hsort.filter _
    rw[hrem,List.pairwise_cons] at hsr
    obtain ⟨hlt,hget⟩:=es_lt hi he
    have hoe:ops[e.i]? = some e.o:=by
     have:(es.map (·.o))[e.i]? = some e.o:=by simp[hget]
     rw[ho] at this
     simpa using this
    have:e.i∈Region.ready .any ops listed:=by
     refine mem_ready.2 ⟨by simpa using hun,e.o,hoe,fun d hd hb=>?_⟩
     have h1:=hedge e he
     unfold edgeB at h1
     simp only[List.all_eq_true] at h1
     have h2:=h1 d (by simpa using hd)
     simp only[hb,Bool.not_true,Bool.false_or,decide_eq_true_eq] at h2
     have hdl:d.on<es.length:=by omega
     cases hv:listed.getD d.on false with
     | true=>rfl
     | false =>
      have hmem2:es[d.on]∈remD es listed:=by
       refine List.mem_filter.2 ⟨List.getElem_mem _,?_⟩
       have e1:es[d.on].i=d.on:=by
        have h2:(es.map (·.i))[d.on]? = some es[d.on].i:=by simp[hdl]
        rw[hi,List.getElem?_range hdl] at h2
        simpa using h2.symm
       rw[e1,getD_flip _ _ (by omega),hv];rfl
      have e1:es[d.on].i=d.on:=by
       have h2:(es.map (·.i))[d.on]? = some es[d.on].i:=by simp[hdl]
       rw[hi,List.getElem?_range hdl] at h2
       simpa using h2.symm
      rw[hrem] at hmem2
      rcases List.mem_cons.1 hmem2 with h | h
      ·rw[h] at e1;omega
      ·have:=hsr.1 _ h
       omega
    rw[hnil] at this;cases this
  ·obtain ⟨hun,o,hoj,hall⟩:=mem_ready.1 hj
   obtain ⟨e,he,hget,hei,rfl⟩:=es_get ho hi hoj
   have hmem:e∈remD es listed:=List.mem_filter.2 ⟨he,by rw[hei,hun];rfl⟩
   obtain ⟨l1,l2,hsplit⟩:=List.append_of_mem hmem
   have hsr:(remD es listed).Pairwise fun a b=>a.i<b.i:=hsort.filter _
   rw[hsplit] at hsr
   obtain ⟨hs1,hs2,hs3⟩:=List.pairwise_append.1 hsr
   rw[List.pairwise_cons] at hs2
   have hjsz:j<listed.size:=by
    rcases Nat.lt_or_ge j listed.size with h' | h'
    ·exact h'
    ·simp[Array.getElem?_eq_none h'] at hun
   have hap:∀ x∈l1,apartB x e=true:=by
    intro x hx
    have hxl:x∈remD es listed:=by rw[hsplit];exact List.mem_append_left _ hx
    obtain ⟨hxe,hxun⟩:=List.mem_filter.1 hxl
    have hlt:x.i<e.i:=hs3 x hx e (by simp)
    have h1:=hpair e he
    unfold pairB at h1
    simp only[List.all_eq_true] at h1
    have h2:=h1 x hxe
    simp only[hlt,decide_true,Bool.not_true,Bool.false_or,Bool.or_eq_true] at h2
    rcases h2 with h2 | h2
    ·exfalso
     have h3:=hanc e he
     unfold ancB at h3
     simp only[List.all_eq_true] at h3
     have h4:=h3 x.i (by simpa using h2)
     simp only[List.any_eq_true,Bool.and_eq_true,Bool.or_eq_true,beq_iff_eq] at h4
     obtain ⟨d,hd,hb,hor⟩:=h4
     have hl:listed.getD d.on false=true:=hall d (by simpa using hd) hb
     have hxl:listed.getD x.i false=true:=by
      rcases hor with hor | hor
      ·rw[← hor];exact hl
      ·cases hg:es[d.on]? with
       | none=>rw[hg] at hor;simp at hor
       | some y =>
        rw[hg] at hor
        have hy:=List.mem_of_getElem? hg
        have hyi:y.i=d.on:=by
         have hdl:d.on<es.length:=by
          rcases Nat.lt_or_ge d.on es.length with h' | h'
          ·exact h'
          ·rw[List.getElem?_eq_none h'] at hg;cases hg
         have h2:(es.map (·.i))[d.on]? = some y.i:=by simp[hg]
         rw[hi,List.getElem?_range hdl] at h2
         simpa using h2.symm
        exact hcl y hy (by rw[hyi];exact hl) x.i (by simpa using hor)
     have:x.i<listed.size:=by rw[hsz];exact (es_lt hi hxe).1
     rw[getD_flip _ _ this,hxl] at hxun
     cases hxun
    ·exact h2
   rw[hsplit] at hd
   have hst:=dr_exchange hap hd
   have hrem':remD es (listed.setIfInBounds j true)=l1++l2:=by
    have h1:remD es (listed.setIfInBounds j true)=(remD es listed).filter fun x=>x.i != j:=by
     unfold remD
     rw[List.filter_filter]
     refine List.filter_congr fun x hx=>?_
     by_cases hxj:x.i=j
     ·rw[hxj]
      simp[hjsz]
     ·rw[getD_set_ne true (Ne.symm hxj)]
      simp[hxj]
    rw[h1,hsplit,List.filter_append,List.filter_cons]
    have h2:(e.i != j)=false:=by simp[hei]
    rw[h2]
    have h3:l1.filter (fun x=>x.i != j)=l1:=List.filter_eq_self.2 fun x hx=>by
     have:=hs3 x hx e (by simp)
     simp;omega
    have h4:l2.filter (fun x=>x.i != j)=l2:=List.filter_eq_self.2 fun x hx=>by
     have:=hs2.1 x hx
     simp;omega
    rw[h3,h4]
    simp
   have hnotU:¬ UD k0 listed (k0+e.i):=by
    rintro (h | ⟨i,hl,h⟩)
    ·omega
    ·have:i=j:=by omega
     subst this
     rw[getD_flip _ _ hjsz,hl] at hun
     cases hun
   have hone:=stepE_ok (Q:=Q) (K:=wpAny P .any ops Q fuel (listed.setIfInBounds j true)) hr hnotU hst fun st' a' w' hr' hF=>by
    refine ih (listed.setIfInBounds j true) a' w' st' ?_ (by simpa using hsz) ?_ ?_ (by rw[hrem'];exact hF)
    ·rw[hrem']
     rw[hsplit] at hfuel
     simp only[List.length_append,List.length_cons] at hfuel ⊢
     omega
    ·obtain ⟨h1,h2,M,β,h0,h3,I⟩:=hr'
     refine ⟨h1,h2,M,β,h0,h3,I.mono fun v hv=>?_⟩
     rcases hv with (hv | ⟨i,hl,rfl⟩) | rfl
     ·exact .inl hv
     ·exact .inr ⟨i,getD_set_true hl,rfl⟩
     ·exact .inr ⟨j,by simp[hjsz],by rw[hei]⟩
    ·intro y hy hl x hx
     by_cases hyj:y.i=j
     ·have hye:y=e:=by
       have h1:=(es_lt hi hy).2
       rw[hyj,hget] at h1
       simpa using h1.symm
      subst hye
      refine getD_set_true ?_
      have h3:=hanc y hy
      unfold ancB at h3
      simp only[List.all_eq_true] at h3
      have h4:=h3 x hx
      simp only[List.any_eq_true,Bool.and_eq_true,Bool.or_eq_true,beq_iff_eq] at h4
      obtain ⟨d,hd,hb,hor⟩:=h4
      have hl:listed.getD d.on false=true:=hall d (by simpa using hd) hb
      rcases hor with rfl | hor
      ·exact hl
      ·cases hg:es[d.on]? with
       | none=>rw[hg] at hor;simp at hor
       | some z =>
        rw[hg] at hor
        have hz:=List.mem_of_getElem? hg
        have hzi:z.i=d.on:=by
         have hdl:d.on<es.length:=by
          rcases Nat.lt_or_ge d.on es.length with h' | h'
          ·exact h'
          ·rw[List.getElem?_eq_none h'] at hg;cases hg
         have h2:(es.map (·.i))[d.on]? = some z.i:=by simp[hg]
         rw[hi,List.getElem?_range hdl] at h2
         simpa using h2.symm
        exact hcl z hz (by rw[hzi];exact hl) x (by simpa using hor)
     ·have e1:(listed.setIfInBounds j true).getD y.i false=listed.getD y.i false:=by
       simp[Array.getElem?_setIfInBounds_ne (Ne.symm hyj)]
      rw[e1] at hl
      exact getD_set_true (hcl y hy hl x hx)
   unfold wpOp
   rw[hoj]
   simp only
   split
   ·rename_i hw
    rw[if_pos hw] at hone
    exact .inl hone
   ·rename_i hw
    rw[if_neg hw] at hone
    exact hone
theorem DrawnG.of {R:St->Prop} {id:Nat} {k:List It} {st:St} {l:List Oper} (hm:P.follows .mixedOrders=true) (es:List En) (n:Nat) (ho:es.map (·.o)=l) (hi:es.map (·.i)=List.range es.length) (hc:chkD es=true)
 (h:dr P C ⟨l⟩ st.k es st fun st'=>run P C R n k ⟨st'.t,st'.s,st'.n,st.k+es.length⟩) (t:Prf (⟨l⟩:Array Oper)) (hrd:C.rd=none:=by rfl):DrawnG P C R id ⟨l⟩ k st t:=by
 intro a w hr
 rw[show fz C.rd=Fence.wide by rw[hrd];rfl]
 refine wpIn_wide.2 (wp_region_any hm ?_)
 have hlen:es.length=l.length:=by rw[← ho];simp
 have hrd:RelD P C (UD st.k (Array.replicate (⟨l⟩:Array Oper).size false)) st a { w with drawn:=w.drawn+1 }:=by
  refine RelD.drew ?_ _
  obtain ⟨h1,h2,M,β,h0,h3,I⟩:=hr
  exact ⟨h1,h2,M,β,h0,h3,I.mono fun v hv=>.inl hv⟩
 have hall:remD es (Array.replicate (⟨l⟩:Array Oper).size false)=es:=by
  unfold remD
  refine List.filter_eq_self.2 fun e he=>?_
  have:=(es_lt hi he).1
  simp[Array.getElem?_replicate,hlen▸this]
 refine anyD (es:=es) (k0:=st.k) ho hi hc ?_ _ _ a _ st (by rw[hall,hlen];simp) (by simp[hlen]) hrd (fun e he hl=>?_) (by rw[hall];exact h)
 ·rintro st' a' w' ⟨h1,h2,M,β,h0,h3,I⟩ hK
  exact run_ok n k (st:=⟨st'.t,st'.s,st'.n,st.k+es.length⟩) ⟨h1,h2,M,β,h0,h3,I⟩ hK
 ·have:=(es_lt hi he).1
  simp[Array.getElem?_replicate,hlen▸this] at hl
end
end Go.Sx
namespace Go.Sx
variable {P:Program}
def mkEn:Nat->List Oper->List (List Nat×List Nat×List Nat×List Nat)->List En
 | i,o::l,(a,w,m,k)::x=>⟨i,o,a,w,m,k⟩::mkEn (i+1) l x
 | _,_,_=>[]
def CallD (P:Program) (G:Nat->Option (List D)) (f:FuncId) (args:List D) (obs:List Ob) (K:D->List Ob->Prop) [Tag (G,K)] (_:Prf args):Prop :=
 ∃ eargs R,fitsL args eargs∧ACalls P G f eargs obs R∧(∃ r ls,R r ls)∧∀ r ls,R r ls->K r ls
def doT (P:Program) (C:Cx) (e:En) (ver:Nat) (s:Heap) (x:Option Kd) (st:St) (F:St->Prop) [Tag (C,e,s,st,F)] (_:Prf x):Prop :=
 doK P C e ver s x fun d u=>F (nx st (dstOf e.o.dst st.n) d u st.n st.k)
def CallR (P:Program) (C:Cx) (s:Heap) (f:FuncId) (args:List D) (K:D->Prop) [Tag (C,s,K)] (_:Prf args):Prop :=
 ∃ eargs R,RoA P C s args eargs∧ACalls P C.G f eargs [] R∧(∃ r ls,R r ls)∧∀ r ls,R r ls->scal r=true∧K r
section
variable {C:Cx} {full:Array Oper} {k0:Nat} {st:St} {K F:St->Prop} {e:En} {es:List En} {ver:Nat} {s:Heap}
theorem dr_nil:dr P C full k0 [] st K=K st:=propext Iff.rfl
theorem dr_cons:dr P C full k0 (e::es) st K=doT P C e (k0+e.i) (maskS e.mi st.s) (kdE P C full (k0+e.i) e.o (maskT e.ms st.t) (maskS e.mi st.s)) st (fun st=>dr P C full k0 es st K) trivial:=propext Iff.rfl
theorem doT_det {c:Prop} {d:D} {u:Up} {t':Prf (some (Kd.det c d u))}:doT P C e ver s (some (.det c d u)) st F t'=(c∧idsIn u e.ws∧skipK (dstOf e.o.dst st.n) st.n st.k (fun dst n k=>F (nx st dst d u n k)) trivial):=propext Iff.rfl
theorem doT_call {c:Prop} {f:FuncId} {as:List D} {ids:List Nat} {obs:List Ob} {fz:List Nat} {t':Prf (some (Kd.call c f as ids obs fz))}:doT P C e ver s (some (.call c f as ids obs fz)) st F t'=(c∧CallD P C.G f as obs (fun r ls =>
 aftK (aft s ids fz r ls ver (64*(C.off+e.o.dst.getD 0))) (dstOf e.o.dst st.n) st.n st.k (fun dst d u n k=>idsIn u e.ws∧F (nx st dst d u n k)) trivial) trivial):=propext Iff.rfl
theorem doT_ro {f:FuncId} {args:List D} {t':Prf (some (Kd.ro f args))}:doT P C e ver s (some (.ro f args)) st F t'=CallR P C s f args (fun r=>skipK (dstOf e.o.dst st.n) st.n st.k (fun dst n k=>F (nx st dst r [] n k)) trivial) trivial:=propext Iff.rfl
theorem kdG_tt {r:Nat} {x:Option Kd}:kdG (.v (.bool true)) r true x=x:=rfl
theorem kdG_ff {r:Nat} {x:Option Kd}:kdG (.v (.bool false)) r false x=x:=rfl
theorem kdG_tf {r:Nat} {x:Option Kd}:kdG (.v (.bool true)) r false x=some (.det True (.v undef) []):=rfl
theorem kdG_ft {r:Nat} {x:Option Kd}:kdG (.v (.bool false)) r true x=some (.det True (.v undef) []):=rfl
theorem kdG_u {r:Nat} {want:Bool} {x:Option Kd} {vs:Array Value}:kdG (.v (.tuple vs)) r want x=some (.det True (.v undef) []):=rfl
theorem kdE_none {dst:Option Nat} {op:Op} {ty:Nat} {pos:String} {af:Array Edge} {t:Nat->D}:kdE P C full ver ⟨dst,op,ty,pos,af,none⟩ t s=kdO P C ver ⟨dst,op,ty,pos,af,none⟩ t s:=rfl
def kdF (r:Option Nat) (t:Nat->D) (want:Bool) (x:Option Kd):Option Kd:=match r with
 | some r=>kdG (t r) r want x
 | none=>none
theorem kdF_some {r:Nat} {t:Nat->D} {want:Bool} {x:Option Kd}:kdF (some r) t want x=kdG (t r) r want x:=rfl
theorem kdE_some {dst:Option Nat} {op:Op} {ty:Nat} {pos:String} {af:Array Edge} {t:Nat->D} {g:Nat} {want:Bool}:kdE P C full ver ⟨dst,op,ty,pos,af,some (g,want)⟩ t s=kdF ((full[g]?).bind (·.dst)) t want (kdO P C ver ⟨dst,op,ty,pos,af,some (g,want)⟩ t s):=by
 simp only[kdE,kdF]
 split<;>rename_i h<;>rw[h]
theorem kdO_call {dst:Option Nat} {x:Operand} {xs:Array Operand} {ys:Array Nat} {ty:Nat} {pos:String} {af:Array Edge} {g:Option (Nat×Bool)} {t:Nat->D}:kdO P C ver ⟨dst,.call ⟨.value x,xs,ys⟩,ty,pos,af,g⟩ t s=kd3 s (callee (ev t C.G) ⟨.value x,xs,ys⟩):=rfl
def kdI (P:Program) (C:Cx) (x:Option Call) (ver:Nat) (o:Oper) (t:Nat->D) (s:Heap):Option Kd:=match x with
 | some c=>kd3 s (callee (ev t C.G) c)
 | none=>kd1 (opF P (offD C.off o.dst) ver (ev t C.G) s o.op)
theorem kdO_eq {o:Oper} {t:Nat->D}:kdO P C ver o t s=kdI P C (isCall o.op) ver o t s:=by
 simp only[kdO,kdI]<;>(split<;>rename_i h<;>rw[h])
theorem kdI_none {o:Oper} {t:Nat->D}:kdI P C none ver o t s=kd1 (opF P (offD C.off o.dst) ver (ev t C.G) s o.op):=rfl
theorem kdI_some {o:Oper} {t:Nat->D} {c:Call}:kdI P C (some c) ver o t s=kd3 s (callee (ev t C.G) c):=rfl
theorem kd1_some {c:Prop} {d:D} {u:Up}:kd1 (some (c,d,u))=some (.det c d u):=rfl
theorem kd2_some {f:Nat} {args:List D} {cc:Prop} {as:List D} {ids:List Nat} {obs:List Ob} {fz:List Nat}:kd2 f args (some (cc,as,ids,obs,fz))=some (.call cc f as ids obs fz):=rfl
theorem kd2_none {f:Nat} {args:List D}:kd2 f args none=some (.ro f args):=rfl
theorem kd3_some {f:Nat} {args:List D}:kd3 s (some (f,args))=kd2 f args (callArgs s args):=rfl
theorem idsIn_nil {ws:List Nat}:idsIn [] ws=True:=by simp[idsIn]
theorem idsIn_cons {i v:Nat} {o:Ob} {u:Up} {ws:List Nat}:idsIn ((i,v,o)::u) ws=(i∈ws∧idsIn u ws):=by simp[idsIn]
theorem maskT_at {ms:List Nat} {t:Nat->D} {x:Nat}:maskT ms t x=if ms.contains x then .any else t x:=rfl
theorem maskS_at {ms:List Nat} {x:Nat}:maskS ms s x=if ms.contains x then none else s x:=rfl
theorem doT_of_t {b:Bool} {r:Nat} {x:Option Kd} (hr:st.t r=.v (.bool b)) (h1:b=true->doT P C e ver s x (setT st r (.v (.bool true))) F trivial) (h2:b=false->doT P C e ver s (some (.det True (.v undef) [])) (setT st r (.v (.bool false))) F trivial) (t':Prf (kdG (.v (.bool b)) r true x)):doT P C e ver s (kdG (.v (.bool b)) r true x) st F t':=by
 cases b
 ·have:=h2 rfl;rw[setT_same hr] at this;exact this
 ·have:=h1 rfl;rw[setT_same hr] at this;exact this
theorem doT_of_f {b:Bool} {r:Nat} {x:Option Kd} (hr:st.t r=.v (.bool b)) (h1:b=true->doT P C e ver s (some (.det True (.v undef) [])) (setT st r (.v (.bool true))) F trivial) (h2:b=false->doT P C e ver s x (setT st r (.v (.bool false))) F trivial) (t':Prf (kdG (.v (.bool b)) r false x)):doT P C e ver s (kdG (.v (.bool b)) r false x) st F t':=by
 cases b
 ·have:=h2 rfl;rw[setT_same hr] at this;exact this
 ·have:=h1 rfl;rw[setT_same hr] at this;exact this
theorem CallD.of {G:Nat->Option (List D)} {f:FuncId} {args eargs:List D} {obs:List Ob} {R:D->List Ob->Prop} {K:D->List Ob->Prop} (h:ACalls P G f eargs obs R) (hf:fitsL args eargs) (hne:∃ r ls,R r ls) (hK:∀ r ls,R r ls->K r ls) (t':Prf args):CallD P G f args obs K t' :=
 ⟨eargs,R,hf,h,hne,hK⟩
theorem DrawnG.by {R:St->Prop} {id:Nat} {k:List It} {st:St} {l:List Oper} (aux:List (List Nat×List Nat×List Nat×List Nat)) (n:Nat) (hm:P.follows .mixedOrders=true) (ho:(mkEn 0 l aux).map (·.o)=l) (hi:(mkEn 0 l aux).map (·.i)=List.range (mkEn 0 l aux).length) (hc:chkD (mkEn 0 l aux)=true)
 (h:dr P C ⟨l⟩ st.k (mkEn 0 l aux) st fun st'=>run P C R n k ⟨st'.t,st'.s,st'.n,st.k+(mkEn 0 l aux).length⟩) (t:Prf (⟨l⟩:Array Oper)) (hrd:C.rd=none:=by rfl):DrawnG P C R id ⟨l⟩ k st t :=
 DrawnG.of hm (mkEn 0 l aux) n ho hi hc h t hrd
end
theorem heapL_0 {ls:List Ob}:heapL ls 1000000=(ls[0]?).map (fun o=>(0,o)):=heapL_at (j:=0)
theorem heapL_1 {ls:List Ob}:heapL ls 1000001=(ls[1]?).map (fun o=>(0,o)):=heapL_at (j:=1)
theorem heapL_2 {ls:List Ob}:heapL ls 1000002=(ls[2]?).map (fun o=>(0,o)):=heapL_at (j:=2)
theorem heapL_3 {ls:List Ob}:heapL ls 1000003=(ls[3]?).map (fun o=>(0,o)):=heapL_at (j:=3)
theorem heapL_4 {ls:List Ob}:heapL ls 1000004=(ls[4]?).map (fun o=>(0,o)):=heapL_at (j:=4)
theorem heapL_5 {ls:List Ob}:heapL ls 1000005=(ls[5]?).map (fun o=>(0,o)):=heapL_at (j:=5)
attribute [go_sem] LB heapL_0 heapL_1 heapL_2 heapL_3 heapL_4 heapL_5
attribute [go_sem ↓] dr_nil dr_cons kdE_none kdE_some kdO_eq
attribute [go_sem] doT_det doT_call doT_ro kd2_none kdG_tt kdG_ff kdG_tf kdG_ft kdG_u kdF_some kdI_none kdI_some kd1_some kd2_some kd3_some idsIn_nil idsIn_cons maskT_at maskS_at mkEn List.contains_cons List.contains_nil Bool.or_false Bool.or_true Bool.false_or Bool.true_or
end Go.Sx
namespace Go.Sx
attribute [go_sem ↓] run_nil run_stop run_blk run_done run_op run_skip run_seq run_cond run_block run_exit run_scope run_label run_ret run_loop run_region run_drawn guardB_none guardB_some stepOp_eq
attribute [go_sem] guardG_some guardE_tt guardE_tf guardE_ft guardE_ff guardE_u condE_t condE_f exitE_some skipK_eq stepI_none stepI_some stepK_some callX1_some callX1_none callY1_some calleeY callK2_some nxS_n nxS_k nxS_t nxS_t0 nxS_s stI_t stI_s stI_n stI_k kOf_eq sub_off sub_G retI offD aftK_eq nx_n nx_k nx_t nx_t0 nx_s0 nx_s st0_t st0_s st0_n st0_k app_nil app_cons upd_at heapL_nil heapL_at setT_t setT_s setT_n setT_k
attribute [go_sem] isNilC isNilV nilCmp mget mset mdel updM Option.isSome_some Option.isSome_none Option.isNone_some Option.isNone_none
attribute [go_sem] undef isCall callee opF ev ofV ofV1 okV dstOf exitK pickD ivD ivO look zeroC elems cellsD fillD fillE splice D.cells D.one Value.oneCell' TyI.isAgg TyI.isIface site appD sliceD snap snapL snapP frzU frz1 callArgs lendL lend lentO pos lentU aft scal scalL scalO imp impL retP resL res1 resD shut shutL keysL verL eqCells eqCell top47
attribute [go_sem] List.length_cons List.length_nil List.map_cons List.map_nil List.getElem?_cons_zero List.getElem?_cons_succ List.getElem?_nil Option.getD_some Option.getD_none Option.bind_some Option.map_some Option.map_none List.getElem?_toArray true_and and_true ne_eq false_implies Nat.le_refl Nat.zero_add List.length_map List.length_append List.length_replicate List.length_set Int.toNat_natCast cond_true cond_false Bool.not_true Bool.not_false if_true if_false ite_true ite_false Bool.false_eq_true List.isEmpty_nil List.isEmpty_cons Bool.and_true Bool.and_false Bool.true_and Bool.false_and List.append_nil List.nil_append List.cons_append List.getD_cons_zero List.getD_cons_succ List.drop_zero List.drop_succ_cons List.take_succ_cons List.take_zero List.head?_cons List.headD_cons List.all_cons List.all_nil List.set_cons_zero List.set_cons_succ List.mem_cons List.not_mem_nil or_false or_true false_or not_false_eq_true not_true_eq_false List.nodup_nil List.nodup_cons implies_true forall_const decide_true decide_false and_self min_i8 max_i8 min_i16 max_i16 min_i32 max_i32 min_i64 max_i64 min_u8 max_u8 min_u16 max_u16 min_u32 max_u32 min_u64 max_u64 List.replicate_succ List.replicate_zero
end Go.Sx
namespace Go.Sx
variable {P:Program}
theorem wI_fold (n:Int):IntKind.wrap .i64 n=wI n:=rfl
theorem wU_fold (n:Int):IntKind.wrap .u64 n=wU n:=rfl
theorem wW_fold (n:Int):IntKind.wrap .u32 n=wW n:=rfl
section
variable {k k':IntKind} {a b:Int} {T:Nat} {p q:Bool} {xs ys:List D}
theorem binD_add:binD P .add T (.v (.int k a)) (.v (.int k b))=some (True,.v (.int k (k.wrap (a+b)))):=by simp[binD,binI]
theorem binD_sub:binD P .sub T (.v (.int k a)) (.v (.int k b))=some (True,.v (.int k (k.wrap (a-b)))):=by simp[binD,binI]
theorem binD_mul:binD P .mul T (.v (.int k a)) (.v (.int k b))=some (True,.v (.int k (k.wrap (a*b)))):=by simp[binD,binI]
theorem binD_quo:binD P .quo T (.v (.int k a)) (.v (.int k b))=some (b≠0,.v (.int k (k.wrap (a.tdiv b)))):=by simp[binD,binI]
theorem binD_rem:binD P .rem T (.v (.int k a)) (.v (.int k b))=some (b≠0,.v (.int k (a.tmod b))):=by simp[binD,binI]
theorem binD_and:binD P .and T (.v (.int k a)) (.v (.int k b))=some (True,.v (.int k (bAnd k a b))):=by simp[binD,binI,bAnd]
theorem binD_or:binD P .or T (.v (.int k a)) (.v (.int k b))=some (True,.v (.int k (bOr k a b))):=by simp[binD,binI,bOr]
theorem binD_xor:binD P .xor T (.v (.int k a)) (.v (.int k b))=some (True,.v (.int k (bXor k a b))):=by simp[binD,binI,bXor]
theorem binD_andNot:binD P .andNot T (.v (.int k a)) (.v (.int k b))=some (True,.v (.int k (bAndNot k a b))):=by simp[binD,binI,bAndNot]
theorem binD_eql:binD P .eql T (.v (.int k a)) (.v (.int k b))=some (True,.v (.bool (a==b))):=by simp[binD,binI]
theorem binD_neq:binD P .neq T (.v (.int k a)) (.v (.int k b))=some (True,.v (.bool (a != b))):=by simp[binD,binI]
theorem binD_lss:binD P .lss T (.v (.int k a)) (.v (.int k b))=some (True,.v (.bool (a<b))):=by simp[binD,binI]
theorem binD_leq:binD P .leq T (.v (.int k a)) (.v (.int k b))=some (True,.v (.bool (a<=b))):=by simp[binD,binI]
theorem binD_gtr:binD P .gtr T (.v (.int k a)) (.v (.int k b))=some (True,.v (.bool (a>b))):=by simp[binD,binI]
theorem binD_geq:binD P .geq T (.v (.int k a)) (.v (.int k b))=some (True,.v (.bool (a>=b))):=by simp[binD,binI]
theorem binD_shl:binD P .shl T (.v (.int k a)) (.v (.int k' b))=some (0<=b,.v (.int k (sShl k a b))):=by simp[binD,sShl]
theorem binD_shr:binD P .shr T (.v (.int k a)) (.v (.int k' b))=some (0<=b,.v (.int k (sShr k a b))):=by simp[binD,sShr]
def isB:Option TyI->Option (Prop×D)->Option (Prop×D)
 | some ⟨_,_,_,.bool⟩,x=>x
 | _,_=>none
theorem isB_t {x y:Nat} {z:Value} {r:Option (Prop×D)}:isB (some ⟨x,y,z,.bool⟩) r=r:=rfl
theorem binD_beq:binD P .eql T (.v (.bool p)) (.v (.bool q))=isB (tyOf P T) (some (True,.v (.bool (p==q)))):=by
 simp only[binD];unfold isB;split<;>simp_all
theorem binD_bne:binD P .neq T (.v (.bool p)) (.v (.bool q))=isB (tyOf P T) (some (True,.v (.bool (!(p==q))))):=by
 simp only[binD];unfold isB;split<;>simp_all
def eqA (neg:Bool):Option (List (Option IntKind))->List D->List D->Option (Prop×D)
 | some ks,xs,ys=>(eqCells ks xs ys).map fun b=>(True,.v (.bool (bif neg then !b else b)))
 | none,_,_=>none
theorem eqA_some {neg:Bool} {ks:List (Option IntKind)}:eqA neg (some ks) xs ys=(eqCells ks xs ys).map fun b=>(True,.v (.bool (bif neg then !b else b))):=rfl
theorem binD_aeq:binD P .eql T (.agg xs) (.agg ys)=eqA false (flatKinds P T) xs ys:=by
 simp only[binD];cases flatKinds P T with
 | none=>rfl
 | some ks=>simp only[eqA];cases eqCells ks xs ys<;>rfl
theorem binD_ane:binD P .neq T (.agg xs) (.agg ys)=eqA true (flatKinds P T) xs ys:=by
 simp only[binD];cases flatKinds P T with
 | none=>rfl
 | some ks=>simp only[eqA];cases eqCells ks xs ys<;>rfl
end
theorem stepK_ite {c:Prop} [Decidable c] {x y:Option (Prop×D×Up)} {dst:Option Nat} {m j:Nat} {f:Option Nat->D->Up->Nat->Nat->Prop} {t':Prf (if c then x else y)}:stepK (if c then x else y) dst m j f t'=(if c then stepK x dst m j f trivial else stepK y dst m j f trivial):=by split<;>rfl
theorem kd1_ite {c:Prop} [Decidable c] {x y:Option (Prop×D×Up)}:kd1 (if c then x else y)=(if c then kd1 x else kd1 y):=by split<;>rfl
theorem doT_ite {C:Cx} {e:En} {ver:Nat} {s:Heap} {c:Prop} [Decidable c] {x y:Option Kd} {st:St} {F:St->Prop} {t':Prf (if c then x else y)}:doT P C e ver s (if c then x else y) st F t'=(if c then doT P C e ver s x st F trivial else doT P C e ver s y st F trivial):=by split<;>rfl
theorem ite_g {c a b:Prop} [Decidable c] (h1:c->a) (h2:¬ c->b):if c then a else b:=by split;exact h1 ‹_›;exact h2 ‹_›
def Eqs (e:D) (ls:List Ob) (d:D) (os:List Ob):Prop:=d=e∧os=ls
theorem eqs_ex {e:D} {ls:List Ob}:∃ d os,Eqs e ls d os:=⟨_,_,rfl,rfl⟩
theorem and_of' {a b:Prop} (h:a) (h':b):a∧b:=⟨h,h'⟩
theorem take_all {α:Type} {l:List α} {n:Nat} (h:l.length<=n):l.take n=l:=List.take_of_length_le h
theorem loop_e {C:Cx} {R:St->Prop} {c:Code} {k:List It} {st:St} {α β:Type} {o:Option α} {f:α->Option β} {r:β} {I:(α->Prop)->Nat->St->Prop} (hr:bnd o f=some r) (m n:Nat)
 (h0:∀ ex,o=some ex->f ex=some r->I (fun y=>f y=some r) n st) (round:∀ n st,I (fun y=>f y=some r) n st->run P C R m (.code c::.stop (fun st'=>∃ n',n'<n∧I (fun y=>f y=some r) n' st')::k) st) (t':Prf c):LoopG P C R c k st t' :=
 bnd_e hr fun ex h1 h2=>LoopG.of (I (fun y=>f y=some r)) m n (h0 ex h1 h2) round t'
theorem take_one_add {α:Type} {x:α} {l:List α} {n:Nat}:List.take (1+n) (x::l)=x::List.take n l:=by rw[Nat.add_comm];rfl
theorem CallG.ofE {G:Nat->Option (List D)} {f:FuncId} {args eargs:List D} {obs ls:List Ob} {e:D} {K:D->List Ob->Prop} (h:ACalls P G f eargs obs (Eqs e ls)) (hf:fitsL args eargs) (hK:K e ls) (t':Prf args):CallG P G f args obs K t' :=
 CallG.of h hf (fun _ _ ⟨h1,h2⟩=>h1▸h2▸hK) t'
theorem CallD.ofE {G:Nat->Option (List D)} {f:FuncId} {args eargs:List D} {obs ls:List Ob} {e:D} {K:D->List Ob->Prop} (h:ACalls P G f eargs obs (Eqs e ls)) (hf:fitsL args eargs) (hK:K e ls) (t':Prf args):CallD P G f args obs K t' :=
 CallD.of h hf eqs_ex (fun _ _ ⟨h1,h2⟩=>h1▸h2▸hK) t'
theorem ret_k {d e:D} {obs ls:List Ob} (h:fitsR d e∧obs=ls):RetG d obs (Eqs e ls):=⟨_,h.1,rfl,h.2⟩
theorem someOb {a c:Nat} {b d:Ob}:(some (a,b)=some (c,d))=(a=c∧b=d):=by simp
theorem consD {a b:D} {l m:List D}:(a::l=b::m)=(a=b∧l=m):=by simp
theorem consDL {a b:List D} {l m:List (List D)}:(a::l=b::m)=(a=b∧l=m):=by simp
theorem consOb {a b:Ob} {l m:List Ob}:(a::l=b::m)=(a=b∧l=m):=by simp
attribute [go_sem] fits fitsL fitsR fitsRL consD consDL consOb someOb D.osl.injEq D.ept.injEq Ob.arr.injEq exists_eq_left' exists_eq_left exists_eq exists_eq' exists_and_left exists_const or_self true_or or_true false_or or_false false_and and_false eq_self
attribute [go_sem] stepK_ite kd1_ite doT_ite take_one_add Nat.sub_zero take_all wI_fold wU_fold wW_fold binD_add binD_sub binD_mul binD_quo binD_rem binD_and binD_or binD_xor binD_andNot binD_eql binD_neq binD_lss binD_leq binD_gtr binD_geq binD_shl binD_shr binD_beq binD_bne isB_t eqA_some binD_aeq binD_ane List.map_append List.map_set List.map_take List.map_drop List.map_replicate
end Go.Sx
namespace Go.Sx
open Go.MapKept
variable {P:Program} {C:Cx}
theorem sem_seq {R:AW} {x y:Code} {k:List It} {a:Act} {w:World} (h:sem P C R (.code x::.code y::k) none a w):sem P C R (.code (.seq x y)::k) none a w:=by
 refine wpIn_seq (wpIn_mono h ?_)
 intro e a' w' hq
 cases e<;>exact hq
theorem sem_cut {R:AW} {Q:St->Prop} {k2:List It} (hQ:∀ st a w,Rel P C st a w->Q st->sem P C R k2 none a w):∀ (k1:List Code) (e:Option Nat) (a:Act) (w:World),sem P C R (k1.map It.code++[.stop Q]) e a w->sem P C R (k1.map It.code++k2) e a w
 | [],none,a,w,h=>by
  obtain ⟨st,hr,hq⟩:=h
  exact hQ st a w hr hq
 | [],some i,a,w,h=>h.elim
 | c::k1,none,a,w,h=>by
  refine wpIn_mono h ?_
  intro e a' w' hq
  cases e with
  | normal=>exact sem_cut hQ k1 none a' w' hq
  | exit i=>exact sem_cut hQ k1 (some i) a' w' hq
  | _=>exact hq
 | _::k1,some i,a,w,h=>sem_cut hQ k1 (some i) a w h
def unroll:Nat->Code->List Code
 | n+1,.seq x y=>x::unroll n y
 | _,c=>[c]
theorem sem_unroll {R:AW} {k:List It}:∀ (n:Nat) (c:Code) (e:Option Nat) (a:Act) (w:World),sem P C R ((unroll n c).map It.code++k) e a w->sem P C R (.code c::k) e a w
 | 0,c,e,a,w,h=>by cases c<;>exact h
 | n+1,.seq x y,none,a,w,h=>by
  refine wpIn_seq (wpIn_mono h ?_)
  intro e a' w' hq
  cases e with
  | normal=>exact sem_unroll n y none a' w' hq
  | exit i=>exact sem_unroll n y (some i) a' w' hq
  | _=>exact hq
 | n+1,.seq x y,some i,a,w,h=>sem_unroll n y (some i) a w h
 | n+1,.region _ _ _,e,a,w,h=>h
 | n+1,.skip,e,a,w,h=>h
 | n+1,.cond _ _ _,e,a,w,h=>h
 | n+1,.block _ _,e,a,w,h=>h
 | n+1,.loop _,e,a,w,h=>h
 | n+1,.rangeFunc ..,e,a,w,h=>h
 | n+1,.exit _,e,a,w,h=>h
 | n+1,.scope _,e,a,w,h=>h
 | n+1,.label _,e,a,w,h=>h
 | n+1,.goto _,e,a,w,h=>h
 | n+1,.ret,e,a,w,h=>h
 | n+1,.refuse _,e,a,w,h=>h
theorem wpl_val {r:Option Nat} {ops:Array Oper} {Q:Exit->AW} {rest:List Oper} {o:Oper} {a:Act} {w w':World} {v:Value} (hg:o.guard=none) (h:(execOp a.eval o).run P w=.ok (.value v) w') (k:wpListIn (fz r) 0 P ops Q rest (a.put o.dst v) w') (hd:∀ c,o.op≠.defer c:=by intro c h;cases h):wpListIn (fz r) 0 P ops Q (o::rest) a w:=by
 refine wpListIn_step fun K hK=>?_
 have hw:Region.wanted o (yielded ops a.tmps)=true:=by unfold Region.wanted;rw[hg]
 rw[if_pos hw]
 refine wp_fz hd ?_
 unfold Oper.wp
 rw[h]
 exact hK _ _ k
theorem put_get {a:Act} {x y:Nat} {v:Value} (h:x<a.tmps.size):(a.put (some x) v).tmps.getD y undef=if y=x then v else a.tmps.getD y undef:=by
 simp only[Act.put]
 by_cases hy:y=x
 ·subst hy;rw[if_pos rfl];simp[h]
 ·rw[if_neg hy];simp[Ne.symm hy]
theorem put_size {a:Act} {x:Option Nat} {v:Value}:(a.put x v).tmps.size=a.tmps.size:=by
 cases x<;>simp[Act.put]
theorem put_defers {a:Act} {x:Option Nat} {v:Value}:(a.put x v).defers=a.defers:=by
 cases x<;>rfl
def MinOf (x0:Int) (l:List MapEntry) (x:Int):Prop :=
 (x=x0∨∃ e∈l,e.key=.int .i64 x)∧x<=x0∧∀ e∈l,∀ n,e.key=.int .i64 n->x<=n
def SameBut (w w':World):Prop:=(∀ k,k<w.heap.size->w'.heap[k]? = w.heap[k]?)∧w.heap.size<=w'.heap.size∧w'.os=w.os∧w'.tape=w.tape∧w'.output=w.output
theorem Rel.same {st:St} {a a':Act} {w w':World} (hr:Rel P C st a w) (hw:SameBut w w') (hd:a'.defers=C.df) (hs:a'.tmps.size=a.tmps.size) {t':Nat->D}
 (ht:∀ M β,(∀ x,Rep P M β (st.t x) (a.tmps.getD x undef))->∀ x,Rep P M β (t' x) (a'.tmps.getD x undef)):Rel P C ⟨t',st.s,st.n,st.k⟩ a' w':=by
 obtain ⟨h1,h2,M,β,h0,h3,I⟩:=hr
 obtain ⟨g1,g2,g3,g4,g5⟩:=hw
 refine ⟨hd,hs.trans h2,M,β,h0,ht M β h3,?_⟩
 have hlt:∀ b o x,M b o=some x->b<w.heap.size:=fun b o x hx=>I.mem.lt hx
 constructor
 ·intro b o x hx
  have:=I.mem b o x hx
  refine ⟨?_,this.2⟩
  rw[← this.1]
  simp[World.cell?,g1 b (hlt b o x hx)]
 ·exact I.used
 ·intro id v ob hs
  obtain ⟨x,hx,ho⟩:=I.obs id v ob hs
  refine ⟨x,hx,ho.mono (MLe.refl _) (BLe.refl _) ?_ (fun _ _ _ _=>rfl)⟩
  rintro b cb rfl
  exact g1 b ho.lt
 ·exact I.own
 ·exact I.inj
 ·exact ⟨g3.trans I.keep.os,g4.trans I.keep.tape,g5.trans I.keep.output,Nat.le_trans I.keep.size g2,fun k hk hl=>by rw[g1 k (Nat.lt_of_lt_of_le hk I.keep.size)];exact I.keep.block k hk hl⟩
 ·exact I.old
 ·exact I.le
 ·exact I.glob
theorem act_tmp (a:Act) (i:Nat):a.eval (.tmp i)=a.tmps.getD i undef:=rfl
theorem range_min {R:AW} {k:List It} {T K E:Nat} (hT:P.underlying T=some (.map K E)) {r0 r1 r2 r3 i0 i1 tm tf ti tr ta tb tc td te tg th tz:Nat} {x0 x1 x2 x3 x4 x5 x6 x7 x8 x9 x10:Nat} {p0 p1 p2 p3 p4 p5 p6 p7 p8 p9 p10:String} {f0 f1 f2 f3 f4 f5 f6 f7 f8 f9 f10:Array Edge} {tys:Array Nat}
 {a:Act} {w:World} {b:Nat} {n0:Int} {ents:Array MapEntry} {clock:Nat} (hd:a.defers=[]) (hsz:∀ t∈[tm,tf,ti,tr,ta,tb,tc,td,te,tg,th,tz],t<a.tmps.size)
 (hne:[tm,tf,tr,ta,tb,tc,td,te,tg,th,ti,tz].Nodup) (hm:a.tmps.getD tm undef=.map (some b)) (hf:a.tmps.getD tf undef=.int .i64 n0)
 (hb:w.heap[b]? = some (.map ents clock)) (hp:(ents.toList.map (·.born)).Pairwise (·<·)) (hc:∀ e∈ents.toList,e.born<clock) (hkey:∀ e∈ents.toList,∃ n,e.key=.int .i64 n)
 (fin:∀ a' w' x,a'.defers=[]->a'.tmps.size=a.tmps.size->a'.tmps.getD tm undef=.map (some b)->a'.tmps.getD tf undef=.int .i64 x->MinOf n0 ents.toList x->SameBut w w'->sem P C R k none a' w') :
 sem P C R (.code (.seq (.region r0 ⟨[⟨some ta,.move (.tmp tm),x0,p0,f0,none⟩,⟨some tr,.range T (.tmp ta),x1,p1,f1,none⟩]⟩ false)
  (.block i0 (.loop (.seq (.region r1 ⟨[⟨some tb,.next (.tmp tr) false,x2,p2,f2,none⟩,⟨some tc,.extract (.tmp tb) 0,x3,p3,f3,none⟩]⟩ false) (.seq (.cond (.tmp tc) .skip (.exit i0))
   (.block i1 (.seq (.region r2 ⟨[⟨some td,.entry (.tmp tr),x4,p4,f4,none⟩,⟨some te,.extract (.tmp td) 0,x5,p5,f5,none⟩,⟨some ti,.assign (.tmp te),x6,p6,f6,none⟩]⟩ false)
    (.region r3 ⟨[⟨some tg,.move (.tmp tf),x7,p7,f7,none⟩,⟨some th,.move (.tmp ti),x8,p8,f8,none⟩,⟨some tz,.call ⟨.builtin .min,#[.tmp tg,.tmp th],tys⟩,x9,p9,f9,none⟩,⟨some tf,.assign (.tmp tz),x10,p10,f10,none⟩]⟩ false))))))))
  :: k) none a w:=by
 simp only[List.mem_cons,List.not_mem_nil,or_false,forall_eq_or_imp,forall_eq] at hsz
 obtain ⟨s1,s2,s3,s4,s5,s6,s7,s8,s9,s10,s11,s12⟩:=hsz
 simp only[List.nodup_cons,List.mem_cons,List.not_mem_nil,or_false,not_or,List.nodup_nil,and_true,not_false_eq_true] at hne
 obtain ⟨⟨n1,n2,n3,n4,n5,n6,n7,n8,n9,n10,n11⟩,⟨n12,n13,n14,n15,n16,n17,n18,n19,n20,n21⟩,⟨n22,n23,n24,n25,n26,n27,n28,n29,n30⟩,⟨n31,n32,n33,n34,n35,n36,n37,n38⟩,⟨n39,n40,n41,n42,n43,n44,n45⟩,⟨n46,n47,n48,n49,n50,n51⟩,⟨n52,n53,n54,n55,n56⟩,⟨n57,n58,n59,n60⟩,⟨n61,n62,n63⟩,⟨n64,n65⟩,n66⟩:=hne
 refine wpIn_seq (wpIn_region_list ?_)
 have hmap:∀ w:World,w.heap[b]? = some (.map ents clock)->(Instr.range T (.map (some b))).run P w=.ok (.pointer (some ⟨w.heap.size,0,none⟩)) (w.alloc (.mapIter (some b) clock #[] clock)):=by
  intro w hb
  simp[Instr.range,run_underlying hT,Go.MapKept.run_getObj_map hb]
 refine wpl_val (v:=.map (some b)) (w':=w) rfl (by simp only[execOp,act_tmp,hm];rfl) ?_
 refine wpl_val (v:=.pointer (some ⟨w.heap.size,0,none⟩)) (w':=w.alloc (.mapIter (some b) clock #[] clock)) rfl (by
  simp only[execOp,act_tmp,put_get s5,if_true]
  simp[hmap w hb]) ?_
 show Exit.then _ _ .normal _ _
 refine wpIn_block ?_
 have hblt:b<w.heap.size:=(Array.getElem?_eq_some_iff.1 hb).1
 refine wpIn_loop_ghost (fun n a' w'=>∃ seen c x,n=(leftOf ents seen).size∧a'.defers=[]∧a'.tmps.size=a.tmps.size∧a'.tmps.getD tm undef=.map (some b)∧a'.tmps.getD tf undef=.int .i64 x ∧
  a'.tmps.getD tr undef=.pointer (some ⟨w.heap.size,0,none⟩)∧w'.heap[w.heap.size]? = some (.mapIter (some b) clock seen c)∧clock<=c∧w.heap.size+1<=w'.heap.size∧SameBut w w' ∧
  (x=n0∨∃ e∈ents.toList,e.key=.int .i64 x)∧x<=n0∧∀ e∈ents.toList,seen.contains e.born=true->∀ n,e.key=.int .i64 n->x<=n) _ ⟨#[],clock,n0,rfl,?_⟩ ?_
 ·obtain ⟨g1,g2⟩:=heap_alloc w (.mapIter (some b) clock #[] clock)
  refine ⟨by rw[put_defers,put_defers];exact hd,by rw[put_size,put_size],?_,?_,?_,g1,Nat.le_refl _,by show _<=(w.heap.push _).size;simp,⟨g2,by show _<=(w.heap.push _).size;simp,rfl,rfl,rfl⟩,.inl rfl,Int.le_refl _,fun e he h=>by simp at h⟩
  ·rw[put_get (by rw[put_size];exact s4),if_neg n2,put_get s5,if_neg n3];exact hm
  ·rw[put_get (by rw[put_size];exact s4),if_neg n12,put_get s5,if_neg n13];exact hf
  ·rw[put_get (by rw[put_size];exact s4),if_pos rfl]
 ·rintro n a' w' ⟨seen,c,x,rfl,hd',hsz',hm',hf',hr',hit,hcc,hsz2,hsame,hx1,hx2,hx3⟩
  have hb':w'.heap[b]? = some (.map ents clock):=by rw[hsame.1 b hblt];exact hb
  have S:∀ {t},t<a.tmps.size->t<a'.tmps.size:=fun h=>by rw[hsz'];exact h
  refine wpIn_seq (wpIn_region_list ?_)
  rcases run_next_at (P:=P) w' x2 w.heap.size b clock c seen ents clock hit hb' hc hcc with ⟨h0,hnx⟩ | ⟨e,he,w1,hw1,hnx⟩
  ·
   refine wpl_val (v:=.tuple #[.bool false]) (w':=w') rfl (by simp only[execOp,act_tmp,hr'];simp[hnx]) ?_
   refine wpl_val (v:=.bool false) (w':=w') rfl (by simp only[execOp,act_tmp,put_get (S s6),if_true];simp[Instr.extract]) ?_
   show Exit.then _ _ .normal _ _
   refine wpIn_seq (wpIn_cond_split (t:=false) (by rw[act_tmp,put_get (by rw[put_size];exact S s7),if_pos rfl]) (fun h=>by cases h) fun _=>wpIn_exit ?_)
   show Exit.inBlock i0 _ (.exit i0) _ _
   unfold Exit.inBlock
   simp only[if_true]
   refine fin _ _ x (by rw[put_defers,put_defers];exact hd') (by rw[put_size,put_size];exact hsz') ?_ ?_ ⟨hx1,hx2,fun e he n hn=>hx3 e he (all_seen ents seen h0 e he) n hn⟩ hsame
   ·rw[put_get (by rw[put_size];exact S s7),if_neg n5,put_get (S s6),if_neg n4];exact hm'
   ·rw[put_get (by rw[put_size];exact S s7),if_neg n15,put_get (S s6),if_neg n14];exact hf'
  ·
   obtain ⟨hee,hns⟩:=mem_left he
   obtain ⟨ke,hke⟩:=hkey e hee
   generalize hw2:Go.ChangeMaps.setBlock w1 w.heap.size (.mapIter (some b) clock (seen.push e.born) clock)=w2 at hnx
   have hw1h:w1.heap=w'.heap:=by rcases hw1 with rfl | rfl<;>rfl
   have hlt2:w.heap.size<w'.heap.size:=by omega
   have h2it:w2.heap[w.heap.size]? = some (.mapIter (some b) clock (seen.push e.born) clock):=by
    subst hw2;simp[Go.ChangeMaps.setBlock,hw1h,hlt2]
   have h2o:∀ j,j≠w.heap.size->w2.heap[j]? = w'.heap[j]?:=by
    intro j hj;subst hw2;simp[Go.ChangeMaps.setBlock,hw1h,Ne.symm hj]
   have h2s:w2.heap.size=w'.heap.size:=by subst hw2;simp[Go.ChangeMaps.setBlock,hw1h]
   have h2b:w2.heap[b]? = some (.map ents clock):=by rw[h2o b (by omega)];exact hb'
   have h2e:w2.os=w'.os∧w2.tape=w'.tape∧w2.output=w'.output:=by
    subst hw2;rcases hw1 with rfl | rfl<;>exact ⟨rfl,rfl,rfl⟩
   have hnod:(ents.toList.map (·.born)).Nodup:=by
    rw[List.nodup_iff_pairwise_ne];exact hp.imp fun h=>Nat.ne_of_lt h
   have hent:=run_entry_at (P:=P) w2 w.heap.size b clock seen ents clock e h2it h2b hee hnod
   refine wpl_val (v:=.tuple #[.bool true,e.key,e.val]) (w':=w2) rfl (by simp only[execOp,act_tmp,hr'];simp[hnx]) ?_
   refine wpl_val (v:=.bool true) (w':=w2) rfl (by simp only[execOp,act_tmp,put_get (S s6),if_true];simp[Instr.extract]) ?_
   show Exit.then _ _ .normal _ _
   generalize ha2:(a'.put (some tb) (.tuple #[.bool true,e.key,e.val])).put (some tc) (.bool true)=a2
   have G2:∀ t,a2.tmps.getD t undef=if t=tc then .bool true else if t=tb then .tuple #[.bool true,e.key,e.val] else a'.tmps.getD t undef:=by
    intro t;subst ha2;rw[put_get (by rw[put_size];exact S s7),put_get (S s6)]
   have Z2:a2.tmps.size=a.tmps.size:=by subst ha2;rw[put_size,put_size];exact hsz'
   have D2:a2.defers=[]:=by subst ha2;rw[put_defers,put_defers];exact hd'
   refine wpIn_seq (wpIn_cond_split (t:=true) (by rw[act_tmp,G2,if_pos rfl]) (fun _=>wpIn_skip ?_) fun h=>by cases h)
   show Exit.then _ _ .normal _ _
   refine wpIn_block (wpIn_seq (wpIn_region_list ?_))
   have S2:∀ {t},t<a.tmps.size->t<a2.tmps.size:=fun h=>by rw[Z2];exact h
   refine wpl_val (v:=.tuple #[e.key,e.val]) (w':=w2) rfl (by simp only[execOp,act_tmp,G2,if_neg n24,if_neg n23,hr'];simp[hent]) ?_
   refine wpl_val (v:=.int .i64 ke) (w':=w2) rfl (by simp only[execOp,act_tmp,put_get (S2 s8),if_true];simp[Instr.extract,hke]) ?_
   refine wpl_val (v:=.int .i64 ke) (w':=w2) rfl (by simp only[execOp,act_tmp];rw[put_get (by rw[put_size];exact S2 s9),if_pos rfl];rfl) ?_
   show Exit.then _ _ .normal _ _
   generalize ha3:((a2.put (some td) (.tuple #[e.key,e.val])).put (some te) (.int .i64 ke)).put (some ti) (.int .i64 ke)=a3
   have G3:∀ t,a3.tmps.getD t undef=if t=ti then .int .i64 ke else if t=te then .int .i64 ke else if t=td then .tuple #[e.key,e.val] else a2.tmps.getD t undef:=by
    intro t;subst ha3;rw[put_get (by rw[put_size,put_size];exact S2 s3),put_get (by rw[put_size];exact S2 s9),put_get (S2 s8)]
   have Z3:a3.tmps.size=a.tmps.size:=by subst ha3;rw[put_size,put_size,put_size];exact Z2
   have D3:a3.defers=[]:=by subst ha3;rw[put_defers,put_defers,put_defers];exact D2
   have S3:∀ {t},t<a.tmps.size->t<a3.tmps.size:=fun h=>by rw[Z3];exact h
   have f3:a3.tmps.getD tf undef=.int .i64 x:=by rw[G3,if_neg n20,if_neg n17,if_neg n16,G2,if_neg n15,if_neg n14];exact hf'
   refine wpIn_region_list ?_
   refine wpl_val (v:=.int .i64 x) (w':=w2) rfl (by simp only[execOp,act_tmp,f3];rfl) ?_
   refine wpl_val (v:=.int .i64 ke) (w':=w2) rfl (by simp only[execOp,act_tmp,put_get (S3 s10)];rw[if_neg (Ne.symm n62),G3,if_pos rfl];rfl) ?_
   refine wpl_val (v:=.int .i64 (if ke<x then ke else x)) (w':=w2) rfl (by
    have e1:((a3.put (some tg) (.int .i64 x)).put (some th) (.int .i64 ke)).eval (.tmp tg)=.int .i64 x:=by rw[act_tmp,put_get (by rw[put_size];exact S3 s11),if_neg n61,put_get (S3 s10),if_pos rfl]
    have e2:((a3.put (some tg) (.int .i64 x)).put (some th) (.int .i64 ke)).eval (.tmp th)=.int .i64 ke:=by rw[act_tmp,put_get (by rw[put_size];exact S3 s11),if_pos rfl]
    simp[execOp,resolve,invoke,builtin,e1,e2,Builtin.min_,Builtin.min2]) ?_
   refine wpl_val (v:=.int .i64 (if ke<x then ke else x)) (w':=w2) rfl (by simp only[execOp,act_tmp];rw[put_get (by rw[put_size,put_size];exact S3 s12),if_pos rfl];rfl) ?_
   show ∃ _,_
   refine ⟨_,left_shrinks ents seen e he,seen.push e.born,clock,if ke<x then ke else x,rfl,by rw[put_defers,put_defers,put_defers,put_defers];exact D3,by rw[put_size,put_size,put_size,put_size];exact Z3,?_,?_,?_,h2it,Nat.le_refl _,by omega,?_,?_,?_,?_⟩
   ·rw[put_get (by rw[put_size,put_size,put_size];exact S3 s2),if_neg n1,put_get (by rw[put_size,put_size];exact S3 s12),if_neg n11,put_get (by rw[put_size];exact S3 s11),if_neg n9,put_get (S3 s10),if_neg n8,G3,if_neg n10,if_neg n7,if_neg n6,G2,if_neg n5,if_neg n4];exact hm'
   ·rw[put_get (by rw[put_size,put_size,put_size];exact S3 s2),if_pos rfl]
   ·rw[put_get (by rw[put_size,put_size,put_size];exact S3 s2),if_neg (Ne.symm n12),put_get (by rw[put_size,put_size];exact S3 s12),if_neg n30,put_get (by rw[put_size];exact S3 s11),if_neg n28,put_get (S3 s10),if_neg n27,G3,if_neg n29,if_neg n26,if_neg n25,G2,if_neg n24,if_neg n23];exact hr'
   ·obtain ⟨q1,q2,q3,q4,q5⟩:=hsame
    refine ⟨fun j hj=>?_,by omega,h2e.1.trans q3,h2e.2.1.trans q4,h2e.2.2.trans q5⟩
    rw[h2o j (by omega)];exact q1 j hj
   ·split
    ·exact .inr ⟨e,hee,hke⟩
    ·exact hx1
   ·split<;>omega
   ·intro e2 he2 hs2 n2 hn2
    simp only[Array.contains_push,Bool.or_eq_true,beq_iff_eq] at hs2
    rcases hs2 with hs2 | hs2
    ·have:=hx3 e2 he2 hs2 n2 hn2
     split<;>omega
    ·have:e2=e:=by
      obtain ⟨i,hi,rfl⟩:=List.getElem_of_mem he2
      obtain ⟨j,hj,rfl⟩:=List.getElem_of_mem hee
      have hpn:=List.pairwise_iff_getElem.1 hp
      rcases Nat.lt_trichotomy i j with h | h | h
      ·have:=hpn i j (by simpa using hi) (by simpa using hj) h;rw[List.getElem_map,List.getElem_map,hs2] at this;exact absurd this (Nat.lt_irrefl _)
      ·subst h;rfl
      ·have:=hpn j i (by simpa using hj) (by simpa using hi) h;rw[List.getElem_map,List.getElem_map,hs2] at this;exact absurd this (Nat.lt_irrefl _)
     subst this
     rw[hke] at hn2
     simp only[Value.int.injEq,true_and] at hn2
     subst hn2
     split<;>omega
end Go.Sx
namespace Go.Sx
open Go.RowKit Go.WideShapes Go.ChangeShapes
variable {P:Program}
def memAll (w:World):Mem:=fun b o=>match w.cell? ⟨b,o,none⟩ with
 | some x=>bif x.oneCell' then some x else none
 | none=>none
theorem memAll_ok (w:World):MemOK (memAll w) w:=by
 intro b o x h
 unfold memAll at h
 split at h
 ·rename_i y hy
  cases hone:y.oneCell'
  ·rw[hone] at h;cases h
  ·rw[hone] at h
   simp only[cond_true,Option.some.injEq] at h
   subst h
   exact ⟨hy,hone⟩
 ·cases h
theorem memAll_at {w:World} {b o:Nat} {x:Value} (h:w.cell? ⟨b,o,none⟩=some x) (h1:x.oneCell'=true):memAll w b o=some x:=by
 unfold memAll;rw[h];simp[h1]
def ShF (sh:TypeId->List D->Prop):List TypeId->List D->Prop
 | [],ds=>ds=[]
 | f::fs,ds=>∃ a b,ds=a++b∧sh f a∧ShF sh fs b
def Sh (P:Program):Nat->TypeId->List D->Prop
 | 0,_,_=>False
 | m+1,t,ds=>match P.underlying t with
  | some .bool=>∃ b,ds=[.v (.bool b)]
  | some (.int k)=>∃ n,ds=[.v (.int k n)]∧k.min<=n∧n<=k.max
  | some (.slice e)=>∃ es,ds=[.isl e (P.cellsOf e) es]∧es.length<=top47∧es.length*P.bytesOf e<=top47∧∀ x∈es,Sh P m e x
  | some (.struct fs)=>ShF (Sh P m) (fs.toList.map (·.type)) ds
  | _=>False
def contig (P:Program):Nat->List Field->Option Nat
 | n,[]=>some n
 | n,f::fs=>if f.offset=n then contig P (n+P.cellsOf f.type) fs else none
def okS (P:Program):Nat->TypeId->Bool
 | 0,_=>false
 | m+1,t=>match P.underlying t with
  | some .bool=>true
  | some (.int _)=>true
  | some (.slice e)=>decide (0<P.cellsOf e)&&decide (0<P.bytesOf e)&&okS P m e
  | some (.struct fs)=>(contig P 0 fs.toList==some (P.cellsOf t))&&fs.toList.all fun f=>okS P m f.type
  | _=>false
theorem ShF_one {sh:TypeId->List D->Prop} (h:∀ t ds,sh t ds->∀ d∈ds,d.one=true):∀ (fs:List TypeId) (ds:List D),ShF sh fs ds->∀ d∈ds,d.one=true
 | [],ds,hs,d,hd=>by simp only[ShF] at hs;subst hs;cases hd
 | f::fs,ds,hs,d,hd=>by
  simp only[ShF] at hs
  obtain ⟨a,b,rfl,h1,h2⟩:=hs
  rcases List.mem_append.1 hd with hd | hd
  ·exact h _ _ h1 d hd
  ·exact ShF_one h fs b h2 d hd
theorem Sh_one:∀ (m:Nat) (t:TypeId) (ds:List D),Sh P m t ds->∀ d∈ds,d.one=true
 | 0,_,_,h=>by simp[Sh] at h
 | m+1,t,ds,h=>by
  unfold Sh at h
  split at h
  ·obtain ⟨b,rfl⟩:=h;intro d hd;simp at hd;subst hd;rfl
  ·obtain ⟨n,rfl,_⟩:=h;intro d hd;simp at hd;subst hd;rfl
  ·obtain ⟨es,rfl,_⟩:=h;intro d hd;simp at hd;subst hd;rfl
  ·exact ShF_one (Sh_one m) _ _ h
  ·exact h.elim
theorem mapM_some {α β:Type} {g:α->Option β}:∀ {l:List α} {xs:List β},l.mapM g=some xs->xs.length=l.length∧∀ (i:Nat) y,l[i]? = some y->∃ x,g y=some x∧xs[i]? = some x
 | [],xs,h=>by simp at h;subst h;simp
 | y::l,xs,h=>by
  simp only[List.mapM_cons,Option.bind_eq_bind,Option.bind_eq_some_iff,Option.pure_def,Option.some.injEq] at h
  obtain ⟨x,hx,xs',hxs,rfl⟩:=h
  obtain ⟨h1,h2⟩:=mapM_some hxs
  refine ⟨by simp[h1],fun i z hz=>?_⟩
  cases i with
  | zero=>simp at hz;subst hz;exact ⟨x,hx,by simp⟩
  | succ i=>simpa using h2 i z (by simpa using hz)
theorem list_of {α:Type} {p:Nat->α->Prop}:∀ (n:Nat),(∀ i,i<n->∃ x,p i x)->∃ l:List α,l.length=n∧∀ (i:Nat) x,l[i]? = some x->p i x
 | 0,_=>⟨[],rfl,fun i x h=>by simp at h⟩
 | n+1,h=>by
  obtain ⟨l,h1,h2⟩:=list_of n fun i hi=>h i (by omega)
  obtain ⟨x,hx⟩:=h n (by omega)
  refine ⟨l++[x],by simp[h1],fun i y hy=>?_⟩
  rw[List.getElem?_append] at hy
  split at hy
  ·exact h2 i y hy
  ·rename_i hge
   have hi:i=n:=by
    rcases Nat.lt_or_ge n i with h' | h'
    ·rw[List.getElem?_eq_none (by simp;omega)] at hy;cases hy
    ·omega
   subst hi
   simp[h1] at hy
   subst hy;exact hx
theorem cells_some {w:World} {base n:Nat} {a:Addr} {vs:List Value} (h:w.cells? base a n=some vs):vs.length=n∧∀ j,j<n->∃ x,w.cell? (a.add j)=some x∧vs[j]? = some x:=by
 unfold World.cells? at h
 split at h
 ·obtain ⟨h1,h2⟩:=mapM_some h
  refine ⟨by simpa using h1,fun j hj=>h2 j j (by simp[hj])⟩
 ·cases h
theorem spot_none {w:World} {a:Addr} {x:Value} (h:w.cell? a=some x):a=⟨a.block,a.off,none⟩:=by
 obtain ⟨b,o,s⟩:=a
 cases s with
 | none=>rfl
 | some s =>
  unfold World.cell? at h
  simp only at h
  split at h
  ·simp at h
  ·cases h
variable {H:Type} {enc:TypeId×Value->H}
theorem int_wf {k:IntKind} {n:Int} (h:(Lit.int k n).wf=true):k.min<=n∧n<=k.max:=by
 simpa [Lit.wf] using h
theorem trod_rep {w:World} {base:Nat} {spare:Nat->Bool} {held:Bool}:∀ (m:Nat) (t:TypeId),okS P m t=true->∀ (fuel:Nat) (cs:List Value) (d:DataW H) (ps:List MemPlace),
 DataW.trod enc P w base spare held fuel t cs=some (d,ps)->(∀ x∈d.weights P t,x<=reachBytes)->∃ ds,Sh P m t ds∧RepL P (memAll w) loc0 ds cs
 | 0,t,ho,_,_,_,_,_,_=>by simp[okS] at ho
 | m+1,t,ho,0,cs,d,ps,h,_=>by simp[DataW.trod] at h
 | m+1,t,ho,fuel+1,cs,d,ps,h,hw=>by
  unfold okS at ho
  split at ho
  ·
   rename_i hu
   obtain ⟨b,rfl,_⟩:=DataW.trod_bool hu h
   exact ⟨[.v (.bool b)],by simp[Sh,hu],by simp[RepL,Rep,wfV]⟩
  ·
   rename_i k hu
   obtain ⟨n,rfl,_,hn⟩:=DataW.trod_int hu h
   have hn:=int_wf hn
   exact ⟨[.v (.int k n)],by simp only[Sh,hu];exact ⟨n,rfl,hn⟩,by simp[RepL,Rep,wfV,hn]⟩
  ·
   rename_i e hu
   simp only[Bool.and_eq_true,decide_eq_true_eq] at ho
   obtain ⟨⟨hz,hby⟩,ho⟩:=ho
   rcases DataW.trod_slice hu h with ⟨rfl,_⟩ | ⟨a,len,cap,elems,rest,n,hn,rfl,hd,hb,hlc,hcm,l1,l2,_,_⟩
   ·refine ⟨[.isl e (P.cellsOf e) []],by simp[Sh,hu],?_⟩
    simp only[RepL,Rep]
    exact ⟨_,_,rfl,⟨by simp,by simp,by simp,none,0,rfl,Nat.le_refl _,.inl trivial⟩,rfl⟩
   ·obtain rfl:fuel=n:=by omega
    simp only[Prod.mk.injEq] at hd
    obtain ⟨rfl,_⟩:=hd
    simp only[DataW.weights,hu,List.length_map,List.mem_cons,List.mem_append,forall_eq_or_imp] at hw
    obtain ⟨hw1,hw2⟩:=hw
    have hbytes:len*P.bytesOf e<=reachBytes:=by
     refine Nat.le_trans (Nat.mul_le_mul_right _ ?_) hw1
     omega
    have hreach:reachBytes<=top47:=by decide
    have hlen47:len<=top47:=Nat.le_trans (Nat.le_mul_of_pos_right _ hby) (Nat.le_trans hbytes hreach)
    have key:∀ i,i<len->∃ ds vs,Sh P m e ds∧RepL P (memAll w) loc0 ds vs∧vs.length=P.cellsOf e∧∀ j,j<P.cellsOf e->∃ x,w.cell? ((a.add (i*P.cellsOf e)).add j)=some x∧vs[j]? = some x:=by
     intro i hi
     have hx:=l2 i hi
     rw[List.getElem?_eq_getElem (by omega)] at hx
     obtain ⟨vs,hvs,hx⟩:=Option.bind_eq_some_iff.1 hx
     obtain ⟨c1,c2⟩:=cells_some hvs
     have hwx:∀ y∈(elems[i]).1.weights P e,y<=reachBytes:=by
      intro y hy
      refine hw2 y (.inl ?_)
      have hmem:(elems[i]).1∈elems.map (·.1):=List.mem_map.2 ⟨_,List.getElem_mem _,rfl⟩
      generalize elems.map (·.1)=L at hmem
      induction L with
      | nil=>cases hmem
      | cons z L ih =>
       simp only[DataW.weightsAll,List.mem_append]
       rcases List.mem_cons.1 hmem with rfl | hmem
       ·exact .inl hy
       ·exact .inr (ih hmem)
     obtain ⟨ds,s1,s2⟩:=trod_rep m e ho fuel vs _ _ hx hwx
     exact ⟨ds,vs,s1,s2,c1,c2⟩
    rcases Nat.eq_zero_or_pos len with rfl | hpos
    ·refine ⟨[.isl e (P.cellsOf e) []],by simp[Sh,hu],?_⟩
     simp only[RepL,Rep]
     exact ⟨_,_,rfl,⟨by simp,by simp,by simp,some a,cap,rfl,Nat.zero_le _,.inl trivial⟩,rfl⟩
    ·have hplain:a=⟨a.block,a.off,none⟩:=by
      obtain ⟨_,_,_,_,_,c2⟩:=key 0 hpos
      obtain ⟨x,hx,_⟩:=c2 0 hz
      simp only[Nat.zero_mul,Addr.add,if_true] at hx
      exact spot_none hx
     obtain ⟨b,o,s⟩:=a
     simp only[Addr.mk.injEq,true_and] at hplain
     subst hplain
     obtain ⟨es,e1,e2⟩:=list_of (α:=List D) (p:=fun i ds=>∃ vs,Sh P m e ds∧RepL P (memAll w) loc0 ds vs∧vs.length=P.cellsOf e∧∀ j,j<P.cellsOf e->∃ x,w.cell? (((⟨b,o,none⟩:Addr).add (i*P.cellsOf e)).add j)=some x∧vs[j]? = some x) len (fun i hi=>by
      obtain ⟨ds,vs,h⟩:=key i hi;exact ⟨ds,vs,h⟩)
     have elen:∀ x∈es,x.length=P.cellsOf e:=by
      intro x hx
      obtain ⟨i,hi,rfl⟩:=List.getElem_of_mem hx
      obtain ⟨vs,_,h2,h3,_⟩:=e2 i es[i] (by simp)
      rw[← h2.length,h3]
     refine ⟨[.isl e (P.cellsOf e) es],?_,?_⟩
     ·simp only[Sh,hu]
      refine ⟨es,rfl,by omega,by rw[e1];omega,fun x hx=>?_⟩
      obtain ⟨i,hi,rfl⟩:=List.getElem_of_mem hx
      exact (e2 i es[i] (by simp)).choose_spec.1
     ·simp only[RepL,Rep]
      refine ⟨_,_,rfl,⟨elen,by omega,by rw[e1];omega,some ⟨b,o,none⟩,cap,by rw[e1],by omega,.inr ⟨b,o,rfl,?_⟩⟩,rfl⟩
      refine RepE.of (z:=P.cellsOf e) elen fun i x hx=>?_
      obtain ⟨vs,h1,h2,h3,h4⟩:=e2 i x hx
      refine RepC.of fun j dd hdd=>?_
      obtain ⟨y,hy,hr⟩:=h2.get j dd hdd
      have hj:j<P.cellsOf e:=by
       rcases Nat.lt_or_ge j vs.length with h' | h'
       ·omega
       ·rw[List.getElem?_eq_none h'] at hy;cases hy
      obtain ⟨y',hy1,hy2⟩:=h4 j hj
      rw[hy] at hy2
      obtain rfl:y=y':=by simpa using hy2
      refine ⟨y,memAll_at ?_ (one_cell (Sh_one m e x h1 dd (List.mem_of_getElem? hdd)) hr).1,hr⟩
      rw[Addr.add_p,Addr.add_p] at hy1
      exact hy1
  ·
   rename_i fs hu
   simp only[Bool.and_eq_true,beq_iff_eq,List.all_eq_true] at ho
   obtain ⟨hcon,hall⟩:=ho
   obtain ⟨xs,n,hn,hd,hlen,hxl,hxs⟩:=DataW.trod_struct hu h
   obtain rfl:fuel=n:=by omega
   simp only[Prod.mk.injEq] at hd
   obtain ⟨rfl,_⟩:=hd
   have hw':∀ x∈DataW.weightsEach P (fs.toList.map (·.type)) (xs.map (·.1)),x<=reachBytes:=by
    simpa only[DataW.weights,hu] using hw
   have mono:∀ (l:List Field) n k,contig P n l=some k->n<=k:=by
    intro l
    induction l with
    | nil=>intro n k h;simp only[contig,Option.some.injEq] at h;omega
    | cons g l ih =>
     intro n k h
     simp only[contig] at h
     split at h
     ·have:=ih _ _ h;omega
     ·cases h
   have main:∀ (l:List Field) (off:Nat) (xs:List (DataW H×List MemPlace)),contig P off l=some (P.cellsOf t)->(∀ f∈l,okS P m f.type=true)->xs.length=l.length ->
    (∀ (i:Nat) (f:Field),l[i]? = some f->DataW.trod enc P w base spare held fuel f.type ((cs.drop f.offset).take (P.cellsOf f.type))=xs[i]?)->(∀ x∈DataW.weightsEach P (l.map (·.type)) (xs.map (·.1)),x<=reachBytes) ->
    ∃ ds,ShF (Sh P m) (l.map (·.type)) ds∧RepL P (memAll w) loc0 ds (cs.drop off):=by
    intro l
    induction l with
    | nil =>
     intro off xs hc _ _ _ _
     simp only[contig,Option.some.injEq] at hc
     refine ⟨[],rfl,?_⟩
     rw[List.drop_eq_nil_of_le (by omega)]
     simp[RepL]
    | cons f l ih =>
     intro off xs hc hok hxl hx hwt
     simp only[contig] at hc
     split at hc
     ·rename_i hoff
      match xs,hxl with
      | x::xs',hxl =>
       simp only[List.map_cons,DataW.weightsEach,List.mem_append] at hwt
       have hle2:=mono _ _ _ hc
       have hx1:=hx 0 f (by simp)
       simp only[List.getElem?_cons_zero] at hx1
       obtain ⟨ds1,s1,r1⟩:=trod_rep m f.type (hok f (by simp)) fuel _ x.1 x.2 hx1 (fun y hy=>hwt y (.inl hy))
       obtain ⟨ds2,s2,r2⟩:=ih (off+P.cellsOf f.type) xs' hc (fun g hg=>hok g (List.mem_cons_of_mem _ hg)) (by simpa using hxl) (fun i g hg=>by simpa using hx (i+1) g (by simpa using hg)) (fun y hy=>hwt y (.inr hy))
       refine ⟨ds1++ds2,⟨ds1,ds2,rfl,s1,s2⟩,?_⟩
       have hsp:cs.drop off=(cs.drop f.offset).take (P.cellsOf f.type)++cs.drop (off+P.cellsOf f.type):=by
        rw[hoff,← List.drop_drop,List.take_append_drop]
       rw[hsp]
       exact r1.append r2
     ·cases hc
   obtain ⟨ds,s,r⟩:=main fs.toList 0 xs hcon hall (by simpa using hxl) (fun i f hf=>hxs i f (by simpa using hf)) hw'
   exact ⟨ds,by simp only[Sh,hu];exact s,by simpa using r⟩
  ·cases ho
end Go.Sx
namespace Go.Sx
open Go.RowKit Go.WideShapes Go.ChangeShapes
variable {P:Program}
theorem locL_nil:locL []=loc0:=by
 funext i v
 simp[locL,loc0]
theorem calls_law {G:Nat->Option (List D)} {f:FuncId} {args:List D} (hA:ACalls P G f args [] (Eqs (.v (.bool true)) [])) {W:World} {vs:List Value} (hG:∀ g cs,G g=some cs->RepC P (memAll W) cs g 0)
 (hargs:RepL P (memAll W) loc0 args vs):Calls P f ⟨vs⟩ W fun e W'=>e=.returned (.bool true)∧Below W.heap.size W W':=by
 refine (hA.2 (memAll W) W vs [] (memAll_ok W) hG rfl List.nodup_nil (fun k ob x h=>by simp at h) (by rw[locL_nil];exact hargs)).mono ?_
 rintro e W' ⟨v,r,ls,M',l,rfl,⟨rfl,rfl⟩,hK,_,_,_,_,hfr,_⟩
 simp only[FrRep,Rep] at hfr
 obtain ⟨_,rfl,_⟩:=hfr
 exact ⟨rfl,hK.os,hK.tape,hK.output,hK.size,fun k hk=>hK.block k hk (by simp)⟩
section
variable {H:Type} {enc:TypeId×Value->H}
theorem post_of_below {f:Func} {s:ChangeSpec} {apart fresh handsOn again:Bool} {W W':World} {args:Array Value} {v:Value} {ds gs:List (DataW H)} {before pa pv:List MemPlace}
 (hW:DataW.Whole enc P f.params.toList s.vars apart W args.toList ds gs before)
 (hres:∀ (b:Nat) (sp:Nat->Bool) (hd:Bool),DataW.TrodAll enc P W' b sp hd f.resultTypes.toList (v.resultList f.resultTypes.size) (s.fn H (ds++gs)).results [])
 (hargs:∀ sp:Nat->Bool,(∀ p∈before,sp p.block=true)->DataW.TrodAll enc P W' 0 sp true f.params.toList args.toList (s.fn H (ds++gs)).args pa)
 (hvars:∀ sp:Nat->Bool,(∀ p∈before,sp p.block=true)->DataW.TrodVars enc P W' sp s.vars (s.fn H (ds++gs)).vars pv)
 (hps:before=pa++pv) (hb:Below W.heap.size W W')
 (hok:∀ (j:Nat) (t:TypeId) (r:Value),f.resultTypes[j]? = some t->(v.resultList f.resultTypes.size)[j]? = some r->Value.okWide P W' .any 0 t r) :
 s.post enc P f apart fresh handsOn again W args v W':=by
 have hlt:∀ p∈before,p.block<W.heap.size:=fun p hp=>hW.lt p hp
 have hold:∀ p∈before,(fun b=>decide (b<W.heap.size)) p.block=true:=fun p hp=>by simpa using hlt p hp
 refine ⟨ds,gs,before,[],pa,pv,hW,hres _ _ _,hargs _ hold,hvars _ hold,World.keptBut_mono (fun p hp=>⟨hp,?_⟩) (hb.frame (·∈before)),fun _=>?_⟩
 ·rw[hps,List.mem_append] at hp
  exact Or.inr hp
 ·obtain ⟨_,_,_,_,_,hz,hn⟩:=hW
  refine ⟨hok,_,_,([]++pa)++pv,⟨[]++pa,pv,trodAll_append (hargs _ (fun _ _=>rfl)) (hres _ _ _),hvars _ (fun _ _=>rfl),rfl,?_,?_⟩,?_⟩
  ·intro b off hp
   have hin:MemPlace.cell b off∈before:=by rw[hps];simpa using hp
   rw[hb.frozen (hlt _ hin)]
   exact hz b off hin
  ·intro ha
   have:=hn ha
   rw[hps] at this
   simpa using this
  ·intro p hp _
   rw[hps]
   simpa using hp
theorem trodAll_stays {W W':World} (hl:laidOutB P=true) {sp:Nat->Bool} (hb:Below W.heap.size W W'):∀ {ts:List TypeId} {vs:List Value} {ds:List (DataW H)} {ps:List MemPlace},(∀ t∈ts,P.readableRec t=true∧t<P.types.size) ->
 DataW.TrodAll enc P W 0 (fun _=>true) true ts vs ds ps->(∀ x∈ps,x.block<W.heap.size)->(∀ x∈ps,sp x.block=true)->DataW.TrodAll enc P W' 0 sp true ts vs ds ps
 | [],[],[],ps,_,h,_,_=>h
 | [],[],_::_,_,_,h,_,_=>h.elim
 | [],_::_,_,_,_,h,_,_=>h.elim
 | _::_,[],_,_,_,h,_,_=>h.elim
 | _::_,_::_,[],_,_,h,_,_=>h.elim
 | t::ts,v::vs,d::ds,ps,hr,h,hlt,hsp=>by
  obtain ⟨p,q,h1,h2,rfl⟩:=h
  obtain ⟨r1,r2⟩:=hr t (by simp)
  exact ⟨p,q,WideElems.Trod_stays hl r1 r2 h1 (fun x hx=>hb.same (hlt x (List.mem_append_left _ hx))) (fun x hx=>hsp x (List.mem_append_left _ hx)),
   trodAll_stays hl hb (fun t ht=>hr t (List.mem_cons_of_mem _ ht)) h2 (fun x hx=>hlt x (List.mem_append_right _ hx)) (fun x hx=>hsp x (List.mem_append_right _ hx)),rfl⟩
theorem law_post {fn:Func} {s:ChangeSpec} {apart fresh handsOn again:Bool} {W W':World} {args:Array Value} {ds gs:List (DataW H)} {before:List MemPlace} {tb:TypeId} (hv:s.vars=[]) (hres:fn.resultTypes=#[tb])
 (htb:P.underlying tb=some .bool) (hl:laidOutB P=true) (hr:∀ t∈fn.params.toList,P.readableRec t=true∧t<P.types.size)
 (hW:DataW.Whole enc P fn.params.toList s.vars apart W args.toList ds gs before) (hfn:s.fn H (ds++gs)={ results:=[.lit (.bool true)],args:=ds }) (hB:Below W.heap.size W W') :
 s.post enc P fn apart fresh handsOn again W args (.bool true) W':=by
 have hW2:=hW
 obtain ⟨p,q,h1,h2,rfl,hz,hn⟩:=hW
 rw[hv] at h2
 match gs,h2 with
 | [],h2 =>
  simp only[DataW.TrodVars] at h2
  subst h2
  have hlt:∀ x∈p++[],x.block<W.heap.size:=fun x hx=>hW2.lt x hx
  refine post_of_below (pa:=p) (pv:=[]) hW2 ?_ (fun sp hsp=>?_) (fun sp _=>?_) rfl hB ?_
  ·intro b sp hd
   rw[hres,hfn]
   exact trodAll_mk1 (shut_bool htb _)
  ·rw[hfn]
   exact trodAll_stays hl hB hr h1 (fun x hx=>hlt x (by simpa using hx)) (fun x hx=>hsp x (by simpa using hx))
  ·rw[hv,hfn];rfl
  ·exact ok_one hres rfl (okWide_bool_mk htb _)
end
theorem trodAll_len {H:Type} {enc:TypeId×Value->H} {W:World}:∀ {ts:List TypeId} {vs:List Value} {ds:List (DataW H)} {ps:List MemPlace},DataW.TrodAll enc P W 0 (fun _=>true) true ts vs ds ps->ds.length=ts.length
 | [],[],[],ps,_=>rfl
 | [],[],_::_,_,h=>h.elim
 | [],_::_,_,_,h=>h.elim
 | _::_,[],_,_,h=>h.elim
 | _::_,_::_,[],_,h=>h.elim
 | t::ts,v::vs,d::ds,ps,h=>by
  obtain ⟨p,q,_,h2,_⟩:=h
  simp[trodAll_len h2]
theorem arg_struct {M:Mem} {W:World} {base:Nat} {t:TypeId} {a b:Nat} {z:Value} {fs:List (Nat×Nat×Nat)} (ht:tyOf P t=some ⟨a,b,z,.struct fs⟩) {v:Value} (hv:Value.okWide P W .any base t v) {ds:List D} (h:RepL P M loc0 ds v.cells.toList):Rep P M loc0 (.agg ds) v:=by
 obtain ⟨fields,hu,_⟩:=und_struct ht
 obtain ⟨cs,rfl,_⟩:=okWide_struct hu hv
 simp only[Rep]
 exact ⟨cs.toList,rfl,by simpa [Value.cells] using h⟩
theorem arg_of {M:Mem} {v:Value} (hv:v.cells=#[v]) {d:D} (h:RepL P M loc0 [d] v.cells.toList):Rep P M loc0 d v:=by
 rw[hv] at h
 simp only[RepL] at h
 obtain ⟨x,xs,e,hr,_⟩:=h
 simp only[List.cons.injEq] at e
 rw[e.1];exact hr
theorem arg_slice {M:Mem} {W:World} {base:Nat} {t:TypeId} {a b e s:Nat} {z:Value} (ht:tyOf P t=some ⟨a,b,z,.slice e s⟩) {v:Value} (hv:Value.okWide P W .any base t v) {d:D} (h:RepL P M loc0 [d] v.cells.toList):Rep P M loc0 d v:=by
 obtain ⟨_,_,_,rfl⟩:=okWide_slice (und_slice ht).1 hv
 exact arg_of rfl h
theorem arg_int {M:Mem} {W:World} {base:Nat} {t:TypeId} {a b:Nat} {k:IntKind} {z:Value} (ht:tyOf P t=some ⟨a,b,z,.int k⟩) {v:Value} (hv:Value.okWide P W .any base t v) {d:D} (h:RepL P M loc0 [d] v.cells.toList):Rep P M loc0 d v:=by
 obtain ⟨_,rfl⟩:=okWide_int (und_int ht) hv
 exact arg_of rfl h
theorem arg_bool {M:Mem} {W:World} {base:Nat} {t:TypeId} {a b:Nat} {z:Value} (ht:tyOf P t=some ⟨a,b,z,.bool⟩) {v:Value} (hv:Value.okWide P W .any base t v) {d:D} (h:RepL P M loc0 [d] v.cells.toList):Rep P M loc0 d v:=by
 obtain ⟨_,rfl⟩:=okWide_bool (und_bool ht) hv
 exact arg_of rfl h
theorem open_args {H:Type} {enc:TypeId×Value->H} {W:World} (m:Nat):∀ {ts:List TypeId} {vs:List Value} {ds:List (DataW H)} {ps:List MemPlace},(∀ t∈ts,okS P m t=true)->DataW.TrodAll enc P W 0 (fun _=>true) true ts vs ds ps ->
 (∀ x∈DataW.weightsEach P ts ds,x<=reachBytes)->∃ dss:List (List D),dss.length=ts.length∧vs.length=ts.length∧∀ (i:Nat) t,ts[i]? = some t->∃ ds v,dss[i]? = some ds∧vs[i]? = some v∧Sh P m t ds∧RepL P (memAll W) loc0 ds v.cells.toList
 | [],[],[],ps,_,h,_=>⟨[],rfl,rfl,fun i t h=>by simp at h⟩
 | [],[],_::_,_,_,h,_=>h.elim
 | [],_::_,_,_,_,h,_=>h.elim
 | _::_,[],_,_,_,h,_=>h.elim
 | _::_,_::_,[],_,_,h,_=>h.elim
 | t::ts,v::vs,d::ds,ps,ho,h,hw=>by
  obtain ⟨p,q,⟨fuel,h1⟩,h2,rfl⟩:=h
  simp only[DataW.weightsEach,List.mem_append] at hw
  obtain ⟨dd,s1,r1⟩:=trod_rep m t (ho t (by simp)) fuel _ d p h1 (fun x hx=>hw x (.inl hx))
  obtain ⟨dss,g1,g2,g3⟩:=open_args m (fun t ht=>ho t (List.mem_cons_of_mem _ ht)) h2 (fun x hx=>hw x (.inr hx))
  refine ⟨dd::dss,by simp[g1],by simp[g2],fun i u hu=>?_⟩
  cases i with
  | zero=>simp at hu;subst hu;exact ⟨dd,v,by simp,by simp,s1,r1⟩
  | succ i=>simpa using g3 i u (by simpa using hu)
end Go.Sx
namespace Go.Sx
variable {P:Program}
section
variable {C:Cx} {s:Heap} {U:Nat->Prop} {M:Mem} {β:Loc} {w:World}
theorem Inv.wide (I:Inv P C s U M β w) {id v E z:Nat} {es:List (List D)} (hs:s id=some (v,.arr false E z es 0)) (hne:es≠[]):Inv P C (upd s id (some (v,.arr true E z es 0))) U M β w:=by
 have hsv:∀ i v' ob,upd s id (some (v,.arr true E z es 0)) i=some (v',ob)->∃ ob0,s i=some (v',ob0)∧(ob=ob0∨(ob0=.arr false E z es 0∧ob=.arr true E z es 0)):=by
  intro i v' ob h
  by_cases hi:i=id
  ·subst hi
   rw[upd_same] at h
   simp only[Option.some.injEq,Prod.mk.injEq] at h
   obtain ⟨rfl,rfl⟩:=h
   exact ⟨_,hs,.inr ⟨rfl,rfl⟩⟩
  ·rw[upd_other _ _ _ _ hi] at h
   exact ⟨ob,h,.inl rfl⟩
 constructor
 ·exact I.mem
 ·exact I.used
 ·intro i v' ob h
  obtain ⟨ob0,h0,hc⟩:=hsv i v' ob h
  obtain ⟨x,hx,hr⟩:=I.obs i v' ob0 h0
  refine ⟨x,hx,?_⟩
  rcases hc with rfl | ⟨rfl,rfl⟩
  ·exact hr
  ·cases x with
   | none=>simp only[ObRep] at hr;exact absurd hr.2.1 hne
   | some bc =>
    obtain ⟨b,cb⟩:=bc
    simp only[ObRep] at hr ⊢
    obtain ⟨cs,T,k1,k2,k3,k4,k5,k6,k7,k8,k9,k10⟩:=hr
    refine ⟨cs,T,k1,k2,k3,k4,k5,k6,k7,k8,k9,fun i d hd=>?_⟩
    obtain ⟨y,hy,hr⟩:=k10 i d hd
    exact ⟨y,hy,hr.mono (MLe.refl _) (BLe.zero _)⟩
 ·intro i v' ob b cb h hb
  obtain ⟨ob0,h0,hc⟩:=hsv i v' ob h
  rcases I.own i v' ob0 b cb h0 hb with h1 | h1
  ·exact .inl h1
  ·rcases hc with rfl | ⟨rfl,rfl⟩
   ·exact .inr h1
   ·simp[Ob.bx] at h1
 ·intro i v' ob i' v2 ob' b cb cb' h h' hb hb'
  obtain ⟨ob0,h0,_⟩:=hsv i v' ob h
  obtain ⟨ob1,h1,_⟩:=hsv i' v2 ob' h'
  exact I.inj i v' ob0 i' v2 ob1 b cb cb' h0 h1 hb hb'
 ·exact I.keep
 ·exact I.old
 ·exact I.le
 ·exact I.glob
def pureB:D->Bool
 | .v _=>true
 | .isl _ _ _=>true
 | .nsl=>true
 | _=>false
theorem pure_rep {d:D} (h:pureB d=true) {y:Value} (hr:Rep P M β d y):Rep P M loc0 d y:=by
 cases d<;>simp only[pureB,Bool.false_eq_true] at h<;>simpa only[Rep] using hr
theorem Inv.narrow (I:Inv P C s U M β w) (hlb:C.lb=[]) {id v E z idF vF E' z' fz:Nat} {es fs:List (List D)} (hs:s id=some (v,.arr true E z es 0)) (hF:s idF=some (vF,.arr false E' z' fs fz)) (es2:List (List D))
 (hl:es2.length=es.length) (hz:∀ e∈es2,e.length=z)
 (hd:∀ (j c:Nat) (e2:List D) (d2:D),es2[j]? = some e2->e2[c]? = some d2->∃ e d,es[j]? = some e∧e[c]? = some d∧((d2=d∧pureB d=true)∨(d=.osl idF vF z' 0 fs.length∧d2=.isl E' z' fs))) :
 ∃ M',Inv P C (upd (upd s idF (some (vF,.arr false E' z' fs fs.length))) id (some (v,.arr false E z es2 0))) U M' β w∧MLe M M':=by
 have hne:id≠idF:=by rintro rfl;rw[hs] at hF;simp at hF
 obtain ⟨M',I',hM,hFz⟩:=I.freeze [idF]
 have hfz:upd s idF (some (vF,.arr false E' z' fs fs.length))=frz s [idF]:=by
  funext i
  unfold frz upd
  by_cases hi:i=idF
  ·subst hi;simp[hF,frz1]
  ·simp[hi]
 rw[hfz]
 have hs':frz s [idF] id=some (v,.arr true E z es 0):=by unfold frz;simp[hne,hs]
 refine ⟨M',?_,hM⟩
 have hsv:∀ i v' ob,upd (frz s [idF]) id (some (v,.arr false E z es2 0)) i=some (v',ob)->∃ ob0,frz s [idF] i=some (v',ob0)∧(ob=ob0∨(ob0=.arr true E z es 0∧ob=.arr false E z es2 0)):=by
  intro i v' ob h
  by_cases hi:i=id
  ·subst hi
   rw[upd_same] at h
   simp only[Option.some.injEq,Prod.mk.injEq] at h
   obtain ⟨rfl,rfl⟩:=h
   exact ⟨_,hs',.inr ⟨rfl,rfl⟩⟩
  ·rw[upd_other _ _ _ _ hi] at h
   exact ⟨ob,h,.inl rfl⟩
 constructor
 ·exact I'.mem
 ·exact I'.used
 ·intro i v' ob h
  obtain ⟨ob0,h0,hc⟩:=hsv i v' ob h
  obtain ⟨x,hx,hr⟩:=I'.obs i v' ob0 h0
  refine ⟨x,hx,?_⟩
  rcases hc with rfl | ⟨rfl,rfl⟩
  ·exact hr
  ·cases x with
   | none=>simp[ObRep] at hr
   | some bc =>
    obtain ⟨b,cb⟩:=bc
    simp only[ObRep] at hr ⊢
    obtain ⟨cs,T,k1,k2,k3,k4,k5,k6,k7,k8,k9,k10⟩:=hr
    refine ⟨cs,T,k1,k2,hz,by omega,by omega,by rw[hl];exact k6,by omega,k8,k9,fun i d hd2=>?_⟩
    rw[flat_div hz i] at hd2
    have hj:i / z<es2.length:=by
     rcases Nat.lt_or_ge (i / z) es2.length with h' | h'
     ·exact h'
     ·rw[List.getD_eq_getElem?_getD,List.getElem?_eq_none h'] at hd2;simp at hd2
    rw[List.getD_eq_getElem?_getD,List.getElem?_eq_getElem hj,Option.getD_some] at hd2
    obtain ⟨e,d0,g1,g2,hc⟩:=hd _ _ _ _ (List.getElem?_eq_getElem hj) hd2
    have g3:es.flatten[i]? = some d0:=by rw[flat_div k3 i,List.getD_eq_getElem?_getD,g1,Option.getD_some];exact g2
    obtain ⟨y,hy,hr⟩:=k10 i d0 g3
    refine ⟨y,hy,?_⟩
    rcases hc with ⟨rfl,hp⟩ | ⟨rfl,rfl⟩
    ·exact pure_rep hp hr
    ·have hr2:Rep P M β (.osl idF vF z' 0 fs.length) y:=by simp only[Rep,selB,if_true] at hr ⊢;exact hr
     have:=snap_rep (d:=.osl idF vF z' 0 fs.length) (d':=.isl E' z' ((fs.drop 0).take fs.length)) (c:=0+fs.length<=fs.length) (l:=[idF]) I hM (by simp[snap,hF]) (by omega) hFz hr2
     rw[List.drop_zero,List.take_length] at this
     exact this
 ·intro i v' ob b cb h hb
  obtain ⟨ob0,h0,hc⟩:=hsv i v' ob h
  rcases I'.own i v' ob0 b cb h0 hb with h1 | h1
  ·exact .inl h1
  ·rw[hlb] at h1;exact absurd h1.1 (by simp)
 ·intro i v' ob i' v2 ob' b cb cb' h h' hb hb'
  obtain ⟨ob0,h0,_⟩:=hsv i v' ob h
  obtain ⟨ob1,h1,_⟩:=hsv i' v2 ob' h'
  exact I'.inj i v' ob0 i' v2 ob1 b cb cb' h0 h1 hb hb'
 ·exact I'.keep
 ·exact I'.old
 ·exact I'.le
 ·exact I'.glob
end
theorem LoopG.v {C:Cx} {R:St->Prop} {c:Code} {k:List It} {st:St} {id v:Nat} (_:(st.s id).map (·.1)=some v) (h:∀ w,w=v->LoopG P C R c k st trivial) (t:Prf c):LoopG P C R c k st t:=h v rfl
theorem LoopG.wide {C:Cx} {R:St->Prop} {c:Code} {k:List It} {st:St} {id v E z:Nat} {es:List (List D)} (hs:st.s id=some (v,.arr false E z es 0)) (hne:es≠[])
 (h:LoopG P C R c k (nxS st none .any (upd st.s id (some (v,.arr true E z es 0))) st.n st.k) trivial) (t:Prf c):LoopG P C R c k st t:=by
 intro a w hr
 obtain ⟨h1,h2,M,β,h0,h3,I⟩:=hr
 exact h a w ⟨h1,h2,M,β,h0,h3,I.wide hs hne⟩
def Gh (P:Program) (C:Cx) (Q:St->Prop) (st:St):Prop:=∃ st',(∀ a w,Rel P C st a w->Rel P C st' a w)∧Q st'
theorem Gh.no {C:Cx} {Q:St->Prop} {st:St} (h:Q st):Gh P C Q st:=⟨st,fun _ _ h=>h,h⟩
theorem Gh.narrow {C:Cx} {Q:St->Prop} {st:St} (hlb:C.lb=[]) {id v E z idF vF E' z' fz:Nat} {es fs:List (List D)} (hs:st.s id=some (v,.arr true E z es 0)) (hF:st.s idF=some (vF,.arr false E' z' fs fz)) (es2:List (List D))
 (hl:es2.length=es.length) (hz:∀ e∈es2,e.length=z)
 (hd:∀ (j c:Nat) (e2:List D) (d2:D),es2[j]? = some e2->e2[c]? = some d2->∃ e d,es[j]? = some e∧e[c]? = some d∧((d2=d∧pureB d=true)∨(d=.osl idF vF z' 0 fs.length∧d2=.isl E' z' fs)))
 (h:Q (nxS st none .any (upd (upd st.s idF (some (vF,.arr false E' z' fs fs.length))) id (some (v,.arr false E z es2 0))) st.n st.k)):Gh P C Q st:=by
 refine ⟨_,fun a w hr=>?_,h⟩
 obtain ⟨h1,h2,M,β,h0,h3,I⟩:=hr
 obtain ⟨M',I',hM⟩:=I.narrow hlb hs hF es2 hl hz hd
 exact ⟨h1,h2,M',β,h0,fun x=>(h3 x).mono hM (BLe.refl _),I'⟩
theorem acalls_of_gh {G:Nat->Option (List D)} {f:FuncId} {fn:Func} {body:Code} {rs:List ResultVar} {args:List D} {R':D->List Ob->Prop} (m:Nat) (fr:List Nat) (nt:Nat)
 (hf:P.funcs[f]? = some fn) (hb:fn.body=some body) (hn:(fn.name== "runtime.NumGoroutine")=false) (hrs:fn.results=⟨rs⟩) (hnt:fn.ntmps=nt) (hargs:args.length<=nt)
 (h:∀ (C:Cx) x,C.G=G->C.lb=[]->WfL P args->run P (C.sub 0 x) (Gh P (C.sub 0 x) (retP P rs fr 0 R')) m [.code body] (st0 args [] nt)):ACalls P G f args [] R' :=
 acalls_of_sem fr nt hf hb hn hrs hnt hargs fun C x hG hlb hwf a w hr=>by
  have h1:=run_ok m _ hr (h C x hG (List.eq_nil_of_length_eq_zero hlb) hwf)
  have key:∀ a w,RelP P (C.sub 0 x) (Gh P (C.sub 0 x) (retP P rs fr 0 R')) a w->RelP P (C.sub 0 x) (retP P rs fr 0 R') a w:=by
   rintro a w ⟨st,hr,st',h2,h3⟩
   exact ⟨st',h2 a w hr,h3⟩
  refine wpIn_mono h1 ?_
  intro e a' w' hq
  cases e with
  | normal=>exact key _ _ hq
  | ret=>exact key _ _ hq
  | exit id=>exact hq
  | _=>exact hq
theorem pureL_rep {M M':Mem} {β:Loc} (hM:MLe M M'):∀ {ds:List D} {ys:List Value},ds.all pureB=true->RepL P M β ds ys->RepL P M' loc0 ds ys
 | [],ys,_,h=>by simpa only[RepL] using h
 | d::ds,ys,hp,h=>by
  simp only[List.all_cons,Bool.and_eq_true] at hp
  simp only[RepL] at h ⊢
  obtain ⟨x,xs,e,h1,h2⟩:=h
  exact ⟨x,xs,e,(pure_rep hp.1 h1).mono hM (BLe.refl _),pureL_rep hM hp.2 h2⟩
theorem ro_world {C:Cx} (hlb:C.lb=[]) {s:Heap} {id v E z idF vF E' z' fz:Nat} {es fs:List (List D)} (hs:s id=some (v,.arr true E z es 0)) (hF:s idF=some (vF,.arr false E' z' fs fz)) (es2:List (List D))
 (hl:es2.length=es.length) (hz:∀ e∈es2,e.length=z)
 (hd:∀ (j c:Nat) (e2:List D) (d2:D),es2[j]? = some e2->e2[c]? = some d2->∃ e d,es[j]? = some e∧e[c]? = some d∧((d2=d∧pureB d=true)∨(d=.osl idF vF z' 0 fs.length∧d2=.isl E' z' fs)))
 {ds ds2:List D} {x:D} (hx:pureB x=true) (hsn:∃ c l,snapL (upd (upd s idF (some (vF,.arr false E' z' fs fs.length))) id (some (v,.arr false E z es2 0))) ds=some (c,ds2,l)∧c):RoA P C s [.agg ds,x] [.agg ds2,x]:=by
 intro s' U M β w vs hle I hr
 obtain ⟨c,l,hsn,hc⟩:=hsn
 obtain ⟨M',I',hM⟩:=I.narrow hlb (hle _ _ hs) (hle _ _ hF) es2 hl hz hd
 obtain ⟨M2,I2,hM2,hFz⟩:=I'.freeze l
 have hle2:HLe (upd (upd s idF (some (vF,.arr false E' z' fs fs.length))) id (some (v,.arr false E z es2 0))) (upd (upd s' idF (some (vF,.arr false E' z' fs fs.length))) id (some (v,.arr false E z es2 0))):=fun i y h=>by
  unfold upd at h ⊢
  split at h
  ·rename_i e;rw[if_pos e];exact h
  ·rename_i e
   rw[if_neg e]
   split at h
   ·rename_i e;rw[if_pos e];exact h
   ·rename_i e;rw[if_neg e];exact hle _ _ h
 refine ⟨M2,hM.trans hM2,I2.mem,?_⟩
 simp only[RepL] at hr ⊢
 obtain ⟨y,ys,rfl,r1,y2,ys2,rfl,r2,rfl⟩:=hr
 refine ⟨_,_,rfl,?_,_,_,rfl,(pure_rep hx r2).mono (hM.trans hM2) (BLe.refl _),rfl⟩
 simp only[Rep] at r1 ⊢
 obtain ⟨l',rfl,r1⟩:=r1
 exact ⟨l',rfl,snapL_rep I' hM2 (snapL_le hle2 hsn) hc hFz (RepL.mono hM (BLe.refl _) r1)⟩
end Go.Sx
namespace Go.Sx
variable {P:Program} {C:Cx}
section
variable {s:Heap} {U:Nat->Prop} {M:Mem} {β:Loc} {w:World}
theorem Inv.newRaw (h:Inv P C s U M β w) {ver:Nat} (hv:¬ U ver) (id:Nat) (o:Obj) :
 Inv P C (upd s id (some (ver,.raw o))) (fun v=>U v∨v=ver) M (updL β id ver (some (w.heap.size,0))) (w.alloc o)∧BLe β (updL β id ver (some (w.heap.size,0))):=by
 have hB:BLe β (updL β id ver (some (w.heap.size,0))):=updL_le (h.fresh hv id)
 have hnone:∀ o,M w.heap.size o=none:=by
  intro o
  cases hx:M w.heap.size o with
  | none=>rfl
  | some x=>exact absurd (h.mem.lt hx) (Nat.lt_irrefl _)
 have hheap:∀ k,k≠w.heap.size->(w.alloc o).heap[k]? = w.heap[k]?:=by
  intro k hk
  show (w.heap.push _)[k]? = _
  rw[Array.getElem?_push,if_neg hk]
 have hnew:(w.alloc o).heap[w.heap.size]? = some o:=World.alloc_heap_new w o
 refine ⟨h.set id ver (.raw o) w.heap.size 0 (MLe.refl M) hB hheap (fun _ _ _=>rfl) ?_ (updL_same ..) ⟨rfl,hnone,hnew⟩ ?_ (.inl h.keep.size) ?_ rfl rfl rfl ?_ updL_used,hB⟩
 ·intro o x hx;rw[hnone o] at hx;cases hx
 ·intro id' v' ob' cb' _ hs hx
  obtain ⟨y,hy,hr⟩:=h.obs id' v' ob' hs
  rw[hx] at hy
  obtain rfl:some (w.heap.size,cb')=y:=by simpa using hy
  exact absurd hr.lt (Nat.lt_irrefl _)
 ·intro hlt;exact absurd h.keep.size (by omega)
 ·show w.heap.size<=(w.heap.push _).size
  simp
theorem Inv.raw (h:Inv P C s U M β w) {id ver b cb:Nat} {o:Obj} (hs:s id=some (ver,.raw o)) (hb:β id ver=some (some (b,cb))):cb=0∧(∀ i,M b i=none)∧w.heap[b]? = some o:=by
 obtain ⟨x,hx,hr⟩:=h.obs id ver _ hs
 rw[hb] at hx
 obtain rfl:some (b,cb)=x:=by simpa using hx
 exact hr
theorem Inv.putRaw (h:Inv P C s U M β w) {id ver b cb:Nat} {o:Obj} (hs:s id=some (ver,.raw o)) (hb:β id ver=some (some (b,cb))) (o':Obj) :
 Inv P C (upd s id (some (ver,.raw o'))) U M β (w.putObj b o'):=by
 obtain ⟨rfl,h2,h3⟩:=h.raw hs hb
 have hlt:b<w.heap.size:=(Array.getElem?_eq_some_iff.1 h3).1
 have:=h.set (M':=M) (β':=β) (w':=w.putObj b o') id ver (.raw o') b 0 (MLe.refl M) (BLe.refl β) (fun k hk=>World.putObj_heap_other hk) (fun _ _ _=>rfl) ?_ hb ⟨rfl,h2,World.putObj_heap_same hlt⟩ ?_ (by have:=h.own id ver _ b 0 hs hb;exact this) (fun _ _=>rfl) rfl rfl rfl (by simp) (fun _ _ _ e=>.inl e)
 ·exact this.mono fun v hv=>by
   rcases hv with hv | rfl
   ·exact hv
   ·exact h.used id _ _ hb
 ·intro o x hx;rw[h2 o] at hx;cases hx
 ·intro id' v' ob' cb' hne hs' hx'
  exact hne (h.inj id' v' ob' id ver _ b cb' 0 hs' hs hx' hb)
end
@[reducible] def Cx.inR (C:Cx) (l:Nat) (x:Mem×Loc):Cx:=⟨C.G,C.M0,C.w0,C.lb,x.2,x.1,C.off,some l,[]⟩
@[reducible] def Cx.mk' (C:Cx) (b:Loc) (D:Nat):Cx:=⟨C.G,C.M0,C.w0,C.lb,b,C.M1,C.off,C.rd,[{ target:=.collected D,args:=#[] }]⟩
theorem Inv.cx {C':Cx} {s:Heap} {U:Nat->Prop} {M:Mem} {β:Loc} {w:World} (I:Inv P C s U M β w) (hG:C'.G=C.G) (h0:C'.M0=C.M0) (hw:C'.w0=C.w0) (hl:C'.lb=C.lb) (h1:C'.M1=C.M1):Inv P C' s U M β w:=by
 obtain ⟨G,M0,w0,lb,b0,M1,off,rd,df⟩:=C
 obtain ⟨G',M0',w0',lb',b0',M1',off',rd',df'⟩:=C'
 simp only at hG h0 hw hl h1
 subst hG h0 hw hl h1
 exact ⟨I.mem,I.used,I.obs,I.own,I.inj,I.keep,I.old,I.le,I.glob⟩
theorem Rel.putT {st:St} {a:Act} {w:World} {p:Nat} {d:D} {x:Value} (h:Rel P C st a w) (hp:p<st.n) (hx:∀ M β,BLe C.b0 β->MLe C.M1 M->Rep P M β d x):Rel P C ⟨upd st.t p d,st.s,st.n,st.k⟩ (a.put (some p) x) w:=by
 obtain ⟨h1,h2,M,β,h0,h3,I⟩:=h
 have:=Rel.putS (dst:=some p) (d:=d) (v:=x) h1 h2 h0 h3 (MLe.refl M) (BLe.refl β) I (hx M β h0 I.le)
 simpa only[dstOf,if_pos hp,nxS] using this
theorem YieldX.of {args:List D} {dst:Option Nat} {st:St} {K:St->Prop} {l kr v:Nat} {r:Loop} {cA cB:Code} {p1 p2:Nat} {d1 d2:D} (tO:Nat->D) (nO m:Nat)
 (hs:st.s kr=some (v,.raw (.loop r))) (hst:r.state=.ready) (hA:r.assign=cA) (hB:r.body=cB) (hps:r.params=#[p1,p2]) (hp1:p1<nO) (hp2:p2<nO) (hargs:args=[d1,d2]) (hb:C.b0 kr v=some (some (l,0)))
 (hsz:r.tmps.size=nO) (hO:∀ x,Rep P C.M1 C.b0 (tO x) (r.tmps.getD x undef))
 (h:∀ x,run P (C.inR l x) (fun _=>False) m [.code cA,.stop fun sb=>sb.s kr=some (v,.raw (.loop r)) ∧
  run P (C.inR l x) (fun sc=>sc.s kr=some (v,.raw (.loop { r with state:=.busy }))∧K (nxS st (dstOf dst st.n) (.v (.bool false)) (upd sc.s kr (some (v,.raw (.loop { r with state:=.done,pending:=some .ret })))) st.n sc.k)) m
   [.code cB,.stop fun sc=>sc.s kr=some (v,.raw (.loop { r with state:=.busy }))∧K (nxS st (dstOf dst st.n) (.v (.bool true)) (upd sc.s kr (some (v,.raw (.loop { r with state:=.ready,pending:=none })))) st.n sc.k)]
   ⟨sb.t,upd sb.s kr (some (v,.raw (.loop { r with state:=.busy }))),sb.n,sb.k⟩] ⟨upd (upd tO p1 d1) p2 d2,st.s,nO,st.k⟩) (t:Prf args):YieldX P C l args dst st K t:=by
 intro M β w vs h0 I hr
 subst hargs
 simp only[RepL] at hr
 obtain ⟨x1,_,rfl,hr1,x2,_,rfl,hr2,rfl⟩:=hr
 have hl:=(I.raw hs (h0 _ _ _ hb)).2.2
 refine ⟨r.fn,_,r.assign,r.body,run_yield hl (by rw[hps];rfl),roundIn_of_wpIn trivial ?_⟩
 have hrel0:Rel P (C.inR l (M,β)) ⟨upd (upd tO p1 d1) p2 d2,st.s,nO,st.k⟩ ((({ tmps:=r.tmps,defers:=[] }:Act).put (some p1) x1).put (some p2) x2) w:=by
  have hb:∀ x,Rep P M β (tO x) (r.tmps.getD x undef):=fun x=>(hO x).mono I.le h0
  have hI:Inv P (C.inR l (M,β)) st.s (·<st.k) M β w:=⟨I.mem,I.used,I.obs,I.own,I.inj,I.keep,I.old,MLe.refl M,fun g cs hg=>RepC.mono I.le (I.glob g cs hg)⟩
  have h1:=Rel.putS (C:=C.inR l (M,β)) (st:=⟨tO,st.s,nO,st.k⟩) (a:={ tmps:=r.tmps,defers:=[] }) (dst:=some p1) (d:=d1) (v:=x1) rfl hsz (BLe.refl β) hb (MLe.refl M) (BLe.refl β) hI hr1
  simp only[dstOf,if_pos hp1,nxS] at h1
  have hsz1:(({ tmps:=r.tmps,defers:=[] }:Act).put (some p1) x1).tmps.size=nO:=by simpa [Act.put] using hsz
  have hb1:∀ x,Rep P M β (upd tO p1 d1 x) ((({ tmps:=r.tmps,defers:=[] }:Act).put (some p1) x1).tmps.getD x undef):=fun x=>by
   have e:(({ tmps:=r.tmps,defers:=[] }:Act).put (some p1) x1).tmps.getD x undef=if x=p1 then x1 else r.tmps.getD x undef:=by
    simp only[Act.put]
    by_cases hy:x=p1
    ·subst hy;rw[if_pos rfl];simp[hsz,hp1]
    ·rw[if_neg hy];simp[Ne.symm hy]
   rw[e]
   unfold upd
   split
   ·exact hr1
   ·exact hb x
  have h2:=Rel.putS (C:=C.inR l (M,β)) (st:=⟨upd tO p1 d1,st.s,nO,st.k⟩) (a:=({ tmps:=r.tmps,defers:=[] }:Act).put (some p1) x1) (dst:=some p2) (d:=d2) (v:=x2) rfl hsz1 (BLe.refl β) hb1 (MLe.refl M) (BLe.refl β) hI hr2
  simpa only[dstOf,if_pos hp2,nxS] using h2
 have hrel:Rel P (C.inR l (M,β)) ⟨upd (upd tO p1 d1) p2 d2,st.s,nO,st.k⟩ { tmps:=(r.params.zip #[x1,x2]).foldl (fun tmps (t,a)=>tmps.setIfInBounds t a) r.tmps,defers:=[] } w:=by
  rw[hps,show (#[p1,p2].zip #[x1,x2])=#[(p1,x1),(p2,x2)] by simp];exact hrel0
 rw[hA,hB]
 refine wpIn_mono (run_ok m _ hrel (h (M,β))) ?_
 clear h hrel hrel0
 intro e a1 w1 hq
 cases e with
 | normal =>
  obtain ⟨sb,⟨g1,g2,M1,β1,g0,g3,J⟩,hsb,hrun⟩:=hq
  have hbl:=g0 _ _ _ (h0 _ _ _ hb)
  have hl1:=(J.raw hsb hbl).2.2
  refine ⟨_,run_beginRound hl1 hst,?_⟩
  refine wpIn_mono (run_ok m _ (st:=⟨sb.t,upd sb.s kr (some (v,.raw (.loop { r with state:=.busy }))),sb.n,sb.k⟩) ⟨g1,g2,M1,β1,g0,g3,J.putRaw hsb hbl _⟩ hrun) ?_
  intro e a2 w2 hq
  have fin:∀ (jump:Option Code) (sc:St),Rel P (C.inR l (M,β)) sc a2 w2->sc.s kr=some (v,.raw (.loop { r with state:=.busy })) ->
   K (nxS st (dstOf dst st.n) (.v (.bool jump.isNone)) (upd sc.s kr (some (v,.raw (.loop { r with state:=if jump.isNone then .ready else .done,pending:=jump })))) st.n sc.k) ->
   ∃ v' w',(Instr.endRound l jump).run P w2=.ok v' w'∧∃ v d s' k' M' β',Ending.returned v'=.returned v∧Inv P C s' (·<k') M' β' w'∧Rep P M' β' d v∧MLe M M'∧BLe β β'∧K (nxS st (dstOf dst st.n) d s' st.n k'):=by
   rintro jump sc ⟨k1,k2,M2,β2,k0,k3,J2⟩ hsc hk
   have hbl2:=k0 _ _ _ (h0 _ _ _ hb)
   have hl2:=(J2.raw hsc hbl2).2.2
   refine ⟨_,_,run_endRound jump hl2,_,.v (.bool jump.isNone),_,sc.k,M2,β2,rfl,?_,by simp[Rep,wfV],J2.le,k0,hk⟩
   have J3:=J2.putRaw hsc hbl2 (.loop { r with state:=if jump.isNone then .ready else .done,pending:=jump })
   exact ⟨J3.mem,J3.used,J3.obs,J3.own,J3.inj,J3.keep,J3.old,I.le.trans J3.le,I.glob⟩
  cases e with
  | normal =>
   obtain ⟨sc,hr,hc,hk⟩:=hq
   exact fin none sc hr hc hk
  | ret =>
   obtain ⟨sc,hr,hc,hk⟩:=hq
   exact fin (some .ret) sc hr hc hk
  | exit id=>exact hq.elim
  | _=>exact hq.elim
 | ret=>obtain ⟨_,_,hf⟩:=hq;exact hf.elim
 | exit id=>exact hq.elim
 | _=>exact hq.elim
def endR (FN FR:Loop->St->Prop) (kr v:Nat) (st:St):Prop :=
 ∃ r:Loop,st.s kr=some (v,.raw (.loop r))∧r.state≠.busy∧((r.pending=none∧FN r st)∨(r.pending=some .ret∧FR r st))
theorem rangeF {a:Act} {w:World} {st:St} {R:AW} {k:List It} {g:Operand} {ps:Array Tmp} {cA cB:Code} (hrd:C.rd=none) (hdf:C.df=[]) (hr:Rel P C st a w)
 {gf:FuncId} {caps:List D} (hg:ev st.t C.G g=.clo (.func gf) [] caps) (kr kd:Nat) (hne:kr≠kd)
 {fn:Func} {nt:Nat} (hk:(P.funcs[gf]?,fn.body,fn.name== "runtime.NumGoroutine",fn.results,fn.ntmps,(caps.length+1).ble nt)=(some fn,some (fn.body.get!),false,⟨[]⟩,nt,true)) (off m:Nat)
 (h:∀ (l D:Nat) (r:Loop) (x:Mem×Loc),r.state=.ready->r.pending=none->r.params=ps->r.assign=cA->r.body=cB->r.tmps.size=st.n->x.2 kr (st.k+1)=some (some (l,0))->x.2 kd st.k=some (some (D,0)) ->
  (∀ y,Rep P x.1 x.2 (st.t y) (r.tmps.getD y undef))->BLe C.b0 x.2 ->
  run P (C.sub off x) (endR
      (fun r' st'=>∀ a' w',Rel P (C.mk' x.2 D) ⟨st.t,upd st'.s kr (some (st.k+1,.raw (.loop { r' with state:=.exhausted }))),st.n,st'.k⟩ a' w'->sem P C R k none a' w')
      (fun r' st'=>∀ a' w',Rel P (C.mk' x.2 D) ⟨st.t,upd st'.s kr (some (st.k+1,.raw (.loop { r' with state:=.exhausted }))),st.n,st'.k⟩ a' w'->R a' w') kr (st.k+1)) m
   [.code (fn.body.get!)] (stI (.clo (.yield l) [] []::caps) (upd (upd st.s kd (some (st.k,.raw (.deferred (some []))))) kr (some (st.k+1,.raw (.loop r)))) nt (st.k+2))) :
 (Code.rangeFunc g ps cA cB).wpIn (fz C.rd) 0 P (ofSem R (sem P C R k)) a w:=by
 injection hk with hf hk;injection hk with hb hk;injection hk with hn hk;injection hk with hrs hk;injection hk with hnt hargs
 have hargs:=Nat.le_of_ble_eq_true hargs
 obtain ⟨h1,h2,M,β,h0,h3,I⟩:=hr
 have hgv:=ev_rep I h3 g
 rw[hg] at hgv
 simp only[Rep,RepL] at hgv
 obtain ⟨_,vb,hgv,rfl,hcaps⟩:=hgv
 refine wpIn_rangeFunc ?_
 intro fi _
 rw[show (fz C.rd).round=none from hrd]
 obtain ⟨r,hrec⟩:∃ r:Loop,r={ state:=.ready,pending:=none,fn:=fi,tmps:=a.tmps,params:=ps,assign:=cA,body:=cB,defers:=w.heap.size }:=⟨_,rfl⟩
 obtain ⟨W1,hW1⟩:∃ W1,(w.alloc (.deferred (some []))).alloc (.loop r)=W1:=⟨_,rfl⟩
 refine ⟨w.heap.size+1,[{ target:=.collected w.heap.size,args:=#[] }],W1,{ target:=.fn (.func gf) ⟨vb⟩,args:=#[.func (.yield (w.heap.size+1)) #[] #[]] },W1,gf,
  #[.func (.yield (w.heap.size+1)) #[] #[]]++⟨vb⟩,W1,?_,?_,fun _ _=>trivial,?_,fun e=>(by cases e),?_⟩
 ·rw[← hW1,hrec];exact run_enterLoop_outer _ _ _ _ _
 ·simp only[resolve,hgv]
  simp[go_sem,Deferred.ofValue,pure]
 ·have hn':¬ fn.name = "runtime.NumGoroutine":=by simpa using hn
  have hb':¬ fn.body=none:=by
   intro h0;rw[h0] at hb;simp at hb
  simp[go_sem,invoke,callFunc,hf,hb',hn']
 refine callsIn_fz (calls_of_wp hf hb ?_)
 obtain ⟨I1,hB1⟩:=I.newRaw (ver:=st.k) (fun h=>absurd h (Nat.lt_irrefl _)) kd (.deferred (some []))
 obtain ⟨I2,hB2⟩:=I1.newRaw (ver:=st.k+1) (fun h=>by rcases h with h | h<;>omega) kr (.loop r)
 rw[World.size_alloc] at I2 hB2
 rw[hW1] at I2
 have hB:=hB1.trans hB2
 generalize hβ2:updL (updL β kd st.k (some (w.heap.size,0))) kr (st.k+1) (some (w.heap.size+1,0))=β2 at I2 hB2 hB
 have hkr:β2 kr (st.k+1)=some (some (w.heap.size+1,0)):=by rw[← hβ2];exact updL_same ..
 have hkd:β2 kd st.k=some (some (w.heap.size,0)):=hB2 _ _ _ (updL_same ..)
 have I3:Inv P (C.sub off (M,β2)) (upd (upd st.s kd (some (st.k,.raw (.deferred (some []))))) kr (some (st.k+1,.raw (.loop r)))) (·<st.k+2) M β2 W1 :=
  ⟨I2.mem,fun i v x e=>by rcases I2.used i v x e with (h | h) | h<;>omega,I2.obs,I2.own,I2.inj,I2.keep,I2.old,MLe.refl M,fun g cs hg=>RepC.mono I.le (I.glob g cs hg)⟩
 have hvs:RepL P M β2 (.clo (.yield (w.heap.size+1)) [] []::caps) (.func (.yield (w.heap.size+1)) #[] #[]::vb):=by
  simp only[RepL,Rep]
  exact ⟨_,_,rfl,⟨[],[],rfl,rfl,rfl⟩,hcaps.mono (MLe.refl M) hB⟩
 have e0:(#[.func (.yield (w.heap.size+1)) #[] #[]]++(⟨vb⟩:Array Value))=(⟨.func (.yield (w.heap.size+1)) #[] #[]::vb⟩:Array Value):=by simp
 rw[e0]
 have hrel:Rel P (C.sub off (M,β2)) (stI (.clo (.yield (w.heap.size+1)) [] []::caps) (upd (upd st.s kd (some (st.k,.raw (.deferred (some []))))) kr (some (st.k+1,.raw (.loop r)))) nt (st.k+2)) _ W1:=rel_start rfl (BLe.refl _) hvs hnt (by simpa using hargs) I3
 have hrun:=run_ok m _ hrel (h (w.heap.size+1) w.heap.size r (M,β2) (by rw[hrec]) (by rw[hrec]) (by rw[hrec]) (by rw[hrec]) (by rw[hrec]) (by rw[hrec];exact h2) hkr hkd (fun y=>by rw[hrec];exact (h3 y).mono (MLe.refl M) hB) (h0.trans hB))
 refine wp_mono ((wpIn_wide (n:=0)).1 hrun) ?_
 have fin:∀ a1 w1,RelP P (C.sub off (M,β2)) (endR
  (fun r' st'=>∀ a' w',Rel P (C.mk' β2 w.heap.size) ⟨st.t,upd st'.s kr (some (st.k+1,.raw (.loop { r' with state:=.exhausted }))),st.n,st'.k⟩ a' w'->sem P C R k none a' w')
  (fun r' st'=>∀ a' w',Rel P (C.mk' β2 w.heap.size) ⟨st.t,upd st'.s kr (some (st.k+1,.raw (.loop { r' with state:=.exhausted }))),st.n,st'.k⟩ a' w'->R a' w') kr (st.k+1)) a1 w1 ->
  a1.defers=[]∧∃ v,(results fn a1.tmps).run P w1=.ok v w1∧rangePost (fz C.rd) 0 P (w.heap.size+1) (ofSem R (sem P C R k)) { a with defers:=[{ target:=.collected w.heap.size,args:=#[] }]++a.defers } (.returned v) w1:=by
  rintro a1 w1 ⟨st',⟨g1,g2,M',β',g0,g3,J⟩,r',hs',hst',hor⟩
  obtain ⟨v,hv,_⟩:=results_ok J g3 hrs (ds:=[]) (c:=True) rfl trivial
  have hl:=g0 _ _ _ hkr
  refine ⟨g1,v,hv,_,_,run_endLoop (J.raw hs' hl).2.2 hst',?_⟩
  have J2:=J.putRaw hs' hl (.loop { r' with state:=.exhausted })
  have hrel':Rel P (C.mk' β2 w.heap.size) ⟨st.t,upd st'.s kr (some (st.k+1,.raw (.loop { r' with state:=.exhausted }))),st.n,st'.k⟩ { a with defers:=[{ target:=.collected w.heap.size,args:=#[] }]++a.defers } (w1.putObj (w.heap.size+1) (.loop { r' with state:=.exhausted })):=by
   refine ⟨by rw[h1,hdf];rfl,h2,M',β',g0,fun x=>(h3 x).mono J.le (hB.trans g0),⟨J2.mem,J2.used,J2.obs,J2.own,J2.inj,J2.keep,J2.old,I.le.trans J2.le,I.glob⟩⟩
  generalize w1.putObj (w.heap.size+1) (.loop { r' with state:=.exhausted })=w4 at hrel' ⊢
  rcases hor with ⟨hp,hf⟩ | ⟨hp,hf⟩
  ·rw[hp];exact hf _ _ hrel'
  ·rw[hp];exact wpIn_ret (hf _ _ hrel')
 intro e a' w' hq
 cases e with
 | normal=>exact fin a' w' hq
 | ret=>exact fin a' w' hq
 | exit id=>exact hq.elim
 | _=>exact hq.elim
def Marked (P:Program) (C:Cx) (Q:St->Prop):AW:=fun a w=>∃ D kd v b1,BLe C.b0 b1∧b1 kd v=some (some (D,0)) ∧
 RelP P (C.mk' b1 D) (fun st=>st.s kd=some (v,.raw (.deferred (some [])))∧Q ⟨st.t,upd st.s kd (some (v,.raw (.deferred none))),st.n,st.k⟩) a w
theorem acalls_of_mark {G:Nat->Option (List D)} {f:FuncId} {fn:Func} {body:Code} {rs:List ResultVar} {args:List D} {lent:List Ob} {R':D->List Ob->Prop} (fr:List Nat) (nt:Nat)
 (hf:P.funcs[f]? = some fn) (hb:fn.body=some body) (hn:(fn.name== "runtime.NumGoroutine")=false) (hrs:fn.results=⟨rs⟩) (hnt:fn.ntmps=nt) (hargs:args.length<=nt)
 (h:∀ (C:Cx) x,C.G=G->C.lb.length=lent.length->WfL P args->∀ a w,Rel P (C.sub 0 x) (st0 args lent nt) a w ->
  sem P (C.sub 0 x) (fun a w=>RelP P (C.sub 0 x) (retP P rs fr lent.length R') a w∨Marked P (C.sub 0 x) (retP P rs fr lent.length R') a w) [.code body] none a w):ACalls P G f args lent R':=by
 refine ⟨⟨fn,hf,by simp[hb],hn⟩,fun M w vs lb hM hG hlen hnd hob hvs=>?_⟩
 refine callsIn_wide.1 (callsIn_of_wp_marks (F:=Fence.wide) (n:=0) hf hb trivial ?_)
 have I0:=start_inv (G:=G) hM hG hlen hnd hob
 have hrel:Rel P ⟨G,M,w,lb.map (·.1),locL lb,M,0,none,[]⟩ (st0 args lent nt) _ w:=rel_start rfl (BLe.refl _) hvs hnt hargs I0
 have hrun:=h ⟨G,M,w,lb.map (·.1),locL lb,M,0,none,[]⟩ (M,locL lb) rfl (by rw[← hlen];exact List.length_map ..) hvs.wf _ _ hrel
 refine wpIn_mono hrun ?_
 have fin:∀ a w',(RelP P ⟨G,M,w,lb.map (·.1),locL lb,M,0,none,[]⟩ (retP P rs fr lent.length R') a w'∨Marked P ⟨G,M,w,lb.map (·.1),locL lb,M,0,none,[]⟩ (retP P rs fr lent.length R') a w') ->
  LeavesInM Fence.wide 0 P fn a.tmps (Post P M w lb R') a.defers .returning w':=by
  rintro a w' (hq | ⟨D,kd,v,b1,hb1,hkd,hq⟩)
  ·have hd:a.defers=[]:=by obtain ⟨st,h1,_⟩:=hq;exact h1.1
   rw[hd]
   exact retP_fin rfl (BLe.refl _) hlen hrs a w' hq
  ·obtain ⟨st,⟨h1,h2,M',β',h0,h3,I⟩,hs,hret⟩:=hq
   rw[h1]
   have hD:=h0 _ _ _ hkd
   have hh:=(I.raw hs hD).2.2
   refine ⟨by simp,.inl ⟨D,_,rfl,run_takeDeferred hh,?_⟩⟩
   exact retP_fin (C:=Cx.mk' ⟨G,M,w,lb.map (·.1),locL lb,M,0,none,[]⟩ b1 D) rfl hb1 hlen hrs a _ ⟨⟨st.t,upd st.s kd (some (v,.raw (.deferred none))),st.n,st.k⟩,⟨h1,h2,M',β',h0,h3,I.putRaw hs hD _⟩,hret⟩
 intro e a w' hq
 cases e with
 | normal=>exact fin a w' hq
 | ret=>exact fin a w' hq
 | exit id=>exact hq.elim
 | _=>exact hq.elim
end Go.Sx
namespace Go.Sx
variable {P:Program} {C:Cx}
theorem sem_block {R:AW} {id:Nat} {c:Code} {k:List It} {a:Act} {w:World} (h:sem P C R (.code c::.blk id::k) none a w):sem P C R (.code (.block id c)::k) none a w:=by
 refine wpIn_block (wpIn_mono h ?_)
 intro e a' w' hq
 cases e with
 | exit i =>
  simp only[Exit.inBlock]
  have hq:sem P C R (.blk id::k) (some i) a' w':=hq
  unfold sem at hq
  split at hq<;>rename_i e
  ·rw[if_pos e];exact hq
  ·rw[if_neg e];exact hq
 | _=>exact hq
def noStop:List It->Bool
 | []=>true
 | .stop _::_=>false
 | .ops _ _::_=>false
 | _::k=>noStop k
theorem sem_conv {C':Cx} (hrd:C'.rd=C.rd) {R R':AW} (hR:∀ a w,R' a w->R a w):∀ (k:List It),noStop k=true->∀ e a w,sem P C' R' k e a w->sem P C R k e a w
 | [],_,none,a,w,h=>hR a w h
 | [],_,some _,a,w,h=>h.elim
 | .blk j::k,hk,none,a,w,h=>sem_conv hrd hR k hk none a w h
 | .blk j::k,hk,some i,a,w,h=>by
  unfold sem at h ⊢
  split
  ·rename_i e;rw[if_pos e] at h;exact sem_conv hrd hR k hk none a w h
  ·rename_i e;rw[if_neg e] at h;exact sem_conv hrd hR k hk (some i) a w h
 | .code c::k,hk,some i,a,w,h=>sem_conv hrd hR k hk (some i) a w h
 | .code c::k,hk,none,a,w,h=>by
  have h:c.wpIn (fz C'.rd) 0 P (ofSem R' (sem P C' R' k)) a w:=h
  rw[hrd] at h
  refine wpIn_mono h ?_
  intro e a' w' hq
  cases e with
  | normal=>exact sem_conv hrd hR k hk none a' w' hq
  | exit i=>exact sem_conv hrd hR k hk (some i) a' w' hq
  | ret=>exact hR a' w' hq
  | _=>exact hq
def noOps:List It->Bool
 | []=>true
 | .ops _ _::_=>false
 | _::k=>noOps k
theorem sem_mono {R R':AW} (hR:∀ a w,R' a w->R a w):∀ (k:List It),noOps k=true->∀ e a w,sem P C R' k e a w->sem P C R k e a w
 | [],_,none,a,w,h=>hR a w h
 | [],_,some _,a,w,h=>h.elim
 | .stop _::k,_,none,a,w,h=>h
 | .stop _::k,hk,some i,a,w,h=>sem_mono hR k hk (some i) a w h
 | .blk j::k,hk,none,a,w,h=>sem_mono hR k hk none a w h
 | .blk j::k,hk,some i,a,w,h=>by
  unfold sem at h ⊢
  split
  ·rename_i e;rw[if_pos e] at h;exact sem_mono hR k hk none a w h
  ·rename_i e;rw[if_neg e] at h;exact sem_mono hR k hk (some i) a w h
 | .code c::k,hk,some i,a,w,h=>sem_mono hR k hk (some i) a w h
 | .code c::k,hk,none,a,w,h=>by
  refine wpIn_mono h ?_
  intro e a' w' hq
  cases e with
  | normal=>exact sem_mono hR k hk none a' w' hq
  | exit i=>exact sem_mono hR k hk (some i) a' w' hq
  | ret=>exact hR a' w' hq
  | _=>exact hq
theorem sem_tail {R:AW} {kx ky:List It} (h:∀ e a w,sem P C R kx e a w->sem P C R ky e a w):∀ (k1:List Code) (e:Option Nat) (a:Act) (w:World),sem P C R (k1.map It.code++kx) e a w->sem P C R (k1.map It.code++ky) e a w
 | [],e,a,w,hq=>h e a w hq
 | c::k1,none,a,w,hq=>by
  refine wpIn_mono hq ?_
  intro e a' w' hq
  cases e with
  | normal=>exact sem_tail h k1 none a' w' hq
  | exit i=>exact sem_tail h k1 (some i) a' w' hq
  | _=>exact hq
 | _::k1,some i,a,w,hq=>sem_tail h k1 (some i) a w hq
theorem sem_two {R:AW} {x y:Code} {k:List It} (e:Option Nat) (a:Act) (w:World) (h:sem P C R (.code x::.code y::k) e a w):sem P C R (.code (.seq x y)::k) e a w:=by
 cases e with
 | some i=>exact h
 | none =>
  refine wpIn_seq (wpIn_mono h ?_)
  intro e a' w' hq
  cases e<;>exact hq
end Go.Sx
