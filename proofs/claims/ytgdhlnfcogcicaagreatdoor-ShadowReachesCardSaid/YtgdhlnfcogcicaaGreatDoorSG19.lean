import Derived.Test.YtgdhlnfcogcicaaGreatDoorSS
import Derived.Test.YtgdhlnfcogcicaaGreatDoorSF
import Derived.Test.YtgdhlnfcogcicaaGreatDoorSG5
import Derived.Test.YtgdhlnfcogcicaaGreatDoorSG10
import Derived.Test.YtgdhlnfcogcicaaGreatDoorSG12
import Derived.Test.YtgdhlnfcogcicaaGreatDoorSG15
import Derived.Test.YtgdhlnfcogcicaaGreatDoorSG16
import Derived.Test.YtgdhlnfcogcicaaGreatDoorSG18
set_option linter.all false
namespace Go.Sx
open Go.Proofs Go.Maps Go.MapKept Go.RowKit
set_option maxRecDepth 100000
theorem EntL.keyU {M:Mem} {xs:List (Int×D)}:∀ {l:List MapEntry},EntL Tryz.prog M .u64 l xs->l.map (·.key)=xs.map fun p=>Value.int .u64 p.1:=by
 intro l
 induction l generalizing xs with
 | nil=>intro h;simp only[EntL] at h;subst h;rfl
 | cons e l ih =>
  intro h
  simp only[EntL] at h
  obtain ⟨x,d,es',rfl,h2,h3,h4⟩:=h
  simp only[List.map_cons,h2,ih h4]
theorem EntL.valU {M:Mem} {xs:List (Int×D)}:∀ {l:List MapEntry},EntL Tryz.prog M .u64 l xs->(∀ p∈xs,p.2=.v (.bool true))->∀ e∈l,e.val=.bool true:=by
 intro l
 induction l generalizing xs with
 | nil=>intro _ _ e he;cases he
 | cons e l ih =>
  intro h hb x hx
  simp only[EntL] at h
  obtain ⟨n,d,es',rfl,h2,h3,h4⟩:=h
  rcases List.mem_cons.1 hx with rfl | hx
  ·have:d=.v (.bool true):=hb (n,d) (by simp)
   subst this
   exact h3.1
  ·exact ih h4 (fun p hp=>hb p (List.mem_cons_of_mem _ hp)) x hx
def keyI:Value->Int
 | .int _ n=>n
 | _=>0
theorem und4:Tryz.prog.underlying 4=some .bool:=by kernel_rfl
theorem wfU {x:Int} (h0:0<=x) (h1:x<=18446744073709551615):(Lit.int .u64 x).wf=true:=by
 show (decide (IntKind.u64.min<=x)&&decide (x<=IntKind.u64.max))=true
 rw[decide_eq_true (show IntKind.u64.min<=x from h0),decide_eq_true (show x<=IntKind.u64.max from h1)]
 rfl
section
variable {M:Mem} {ents:Array MapEntry} {clock:Nat} {es:List (Int×D)}
theorem rd_mp (hE:EntL Tryz.prog M .u64 ents.toList es) (hb:∀ p∈es,p.2=.v (.bool true)∧0<=p.1∧p.1<=18446744073709551615) {x:MapEntry} (hx:x∈ents.toList):WideElems.rd (H:=Unit) Tryz.prog 37 (plainElem Tryz.prog 4) x=some (.int .u64 (keyI x.key),.lit (.bool true)):=by
 have h1:x.key∈es.map fun p=>Value.int .u64 p.1:=by rw[← hE.keyU];exact List.mem_map.2 ⟨x,hx,rfl⟩
 obtain ⟨p,hp,hk⟩:=List.mem_map.1 h1
 have h2:=hE.valU (fun p hp=>(hb p hp).1) x hx
 obtain ⟨key,val,born⟩:=x
 simp only at hk h2
 subst hk h2
 exact WideElems.rd_mk (keyOf_int_mk und37 (wfU (hb p hp).2.1 (hb p hp).2.2)) (plainElem_bool und4 true)
theorem fit_mp (hE:EntL Tryz.prog M .u64 ents.toList es) (hb:∀ p∈es,p.2=.v (.bool true)∧0<=p.1∧p.1<=18446744073709551615) (hp:(ents.toList.map (·.born)).Pairwise (·<·)) (hc:∀ e∈ents.toList,e.born<clock) (hnd:(es.map (·.1)).Nodup) (hl:es.length<=top47) :
 WideElems.Fit (H:=Unit) Tryz.prog 37 (plainElem Tryz.prog 4) ents clock:=by
 refine ⟨?_,⟨hc,?_,?_⟩,fun x hx=>⟨_,rd_mp hE hb hx⟩⟩
 ·have:=hE.length
  simp only[top47] at hl
  simp at this
  unfold maxLen
  omega
 ·rw[List.nodup_iff_pairwise_ne];exact hp.imp fun h=>Nat.ne_of_lt h
 ·rw[hE.keyU,List.nodup_iff_pairwise_ne,List.pairwise_map]
  rw[List.nodup_iff_pairwise_ne,List.pairwise_map] at hnd
  exact hnd.imp fun h e=>h (by simpa using e)
theorem keys_mp (hE:EntL Tryz.prog M .u64 ents.toList es) (hb:∀ p∈es,p.2=.v (.bool true)∧0<=p.1∧p.1<=18446744073709551615):(intKeys (H:=Unit) (.map ((ents.toList.map (WideElems.rg Tryz.prog 37 (plainElem Tryz.prog 4))).foldr DataW.insert []))).Perm (es.map (·.1)):=by
 have h1:=((Go.WideShapes.sorted_perm (ents.toList.map (WideElems.rg (H:=Unit) Tryz.prog 37 (plainElem Tryz.prog 4)))).map fun p=>intOf p.1)
 have h2:(ents.toList.map (WideElems.rg (H:=Unit) Tryz.prog 37 (plainElem Tryz.prog 4))).map (fun p=>intOf p.1)=es.map (·.1):=by
  rw[List.map_map]
  have h3:ents.toList.map ((fun p=>intOf p.1) ∘ WideElems.rg (H:=Unit) Tryz.prog 37 (plainElem Tryz.prog 4))=(ents.toList.map (·.key)).map keyI:=by
   rw[List.map_map]
   refine List.map_congr_left fun x hx=>?_
   show intOf (WideElems.rg Tryz.prog 37 (plainElem Tryz.prog 4) x).1=keyI x.key
   rw[WideElems.rg_of (rd_mp hE hb hx)]
   rfl
  rw[h3,hE.keyU,List.map_map]
  exact List.map_congr_left fun p _=>rfl
 rw[h2] at h1
 exact h1
end
theorem repE_row {M:Mem} {b:Nat}:∀ (xs:List Int) (o:Nat),(∀ x∈xs,0<=x∧x<=18446744073709551615)->(∀ (j:Nat) x,xs[j]? = some x->M b (o+j)=some (.int .u64 x))->RepE Tryz.prog M (xs.map fun x=>[D.v (.int .u64 x)]) b o
 | [],o,_,_=>by simp[RepE]
 | x::xs,o,hx,hc=>by
  simp only[List.map_cons,RepE,RepC,and_true,List.length_cons,List.length_nil,Nat.zero_add]
  refine ⟨⟨_,by simpa using hc 0 x rfl,?_⟩,repE_row xs (o+1) (fun y hy=>hx y (List.mem_cons_of_mem _ hy)) fun j y hj=>by have:=hc (j+1) y (by simpa using hj);rwa[show o+(j+1)=o+1+j by omega] at this⟩
  have:=hx x (by simp)
  simp only[Rep,wfV,true_and]
  exact ⟨this.1,this.2⟩
theorem by37:Tryz.prog.bytesOf 37=8:=by kernel_rfl
theorem collectX {C:Cx} {dst:Option Nat} {st:St} {K:St->Prop} {id v mid mv fz:Nat} {es:List (Int×D)}
 (hs:st.s id=some (v,.arr true 135 1 [[.omp mid mv]] fz)) (hm:st.s mid=some (mv,.mp .u64 es)) (hnd:(es.map (·.1)).Nodup)
 (hb:∀ p∈es,p.2=.v (.bool true)∧0<=p.1∧p.1<=18446744073709551615) (hl8:es.length*8<=140737488355328)
 (hK:∀ xs:List Int,xs.Perm (es.map (·.1))->K (nxS st (dstOf dst st.n) (.isl 37 1 (xs.map fun x=>[.v (.int .u64 x)])) st.s st.n st.k))
 (t:Prf [D.clo (.func 121) [] [.ept id v 1 0 0]]):CallX Tryz.prog C 62 [.clo (.func 121) [] [.ept id v 1 0 0]] dst st K t:=by
 refine ⟨⟨Tryz.f62,it62,by kernel_rfl,by kernel_rfl⟩,fun M β w vs hB I hr=>?_⟩
 simp only[RepL,Rep] at hr
 obtain ⟨x,xs,rfl,⟨va,vb,rfl,rfl,y,ys,rfl,⟨b,cb,hbe,rfl⟩,rfl⟩,rfl⟩:=hr
 obtain ⟨x0,hx0,hob⟩:=I.obs id v _ hs
 rw[hbe] at hx0
 obtain rfl:some (b,cb)=x0:=by simpa using hx0
 obtain ⟨cs,T0,k1,k2,k3,k4,k5,k6,k7,k8,k9,k10⟩:=hob
 obtain ⟨z,hz,hzr⟩:=k10 0 (.omp mid mv) rfl
 simp only[selB,if_true,Rep] at hzr
 obtain ⟨mb,mcb,hmb,rfl⟩:=hzr
 obtain ⟨x1,hx1,hom⟩:=I.obs mid mv _ hm
 rw[hmb] at hx1
 obtain rfl:some (mb,mcb)=x1:=by simpa using hx1
 obtain ⟨rfl,hl,hM0,ents,clock,g3,g4,g5,g6⟩:=hom
 have F:=fit_mp g4 hb g5 g6 hnd hl
 have hkp:=keys_mp g4 hb
 generalize hD:(DataW.map ((ents.toList.map (WideElems.rg (H:=Unit) Tryz.prog 37 (plainElem Tryz.prog 4))).foldr DataW.insert []))=D0 at hkp
 have hown:w.ownsMap Tryz.prog 37 (plainElem Tryz.prog 4) mb ents.size D0:=⟨ents,clock,g3,F,Nat.le_refl _,hD.symm⟩
 have hcell:w.cell? ⟨b,0,none⟩=some (.map (some mb)):=by simp[World.cell?,k1,hz]
 have hbl:b<w.heap.size:=(Array.getElem?_eq_some_iff.1 k1).1
 have hsz:Maps.size D0=es.length:=by
  have h1:=hkp.length_eq
  rw[← hD] at h1 ⊢
  simpa [intKeys,Maps.size] using h1
 have hseq:=it_keys_gives (H:=Unit) Fence.wide 1 trivial rfl (Nat.le_refl _) b mb ents.size D0 w hbl hcell hown
 have hcall:=it_collect_in Fence.wide 3 trivial trivial rfl (Nat.le_refl _) 121 #[.pointer (some ⟨b,0,none⟩)] trivial (enters_of it121 (by kernel_rfl) rfl) _ _ (by rw[hsz];unfold maxLen;omega) (by rw[hsz];exact hl8) w hseq
 refine (callsIn_wide.1 hcall).mono ?_
 rintro e w' ⟨u,ss,rfl,hS,hrow,hnil,hbw⟩
 have hperm:ss.Perm (es.map (·.1)):=hS.trans hkp
 have hlen:ss.length=es.length:=by rw[hperm.length_eq,List.length_map]
 have hrange:∀ x∈ss,0<=x∧x<=18446744073709551615:=fun x hx=>by
  obtain ⟨p,hp,rfl⟩:=List.mem_map.1 (hperm.mem_iff.1 hx)
  exact (hb p hp).2
 have hkeep:Kp w [] w':=⟨hbw.os,hbw.tape,hbw.output,hbw.size,fun k hk _=>hbw.block k hk⟩
 have fin:∀ M':Mem,MemOK M' w'->(∀ b o,b<w.heap.size->M' b o=M b o)->Rep Tryz.prog M' β (.isl 37 1 (ss.map fun x=>[.v (.int .u64 x)])) u->∃ v d s' k' M' β',Ending.returned u=.returned v∧Inv Tryz.prog C s' (·<k') M' β' w'∧Rep Tryz.prog M' β' d v∧MLe M M'∧BLe β β'∧K (nxS st (dstOf dst st.n) d s' st.n k'):=by
  intro M' hm' hold hrep
  obtain ⟨I2,hM2⟩:=I.called (ids:=[]) (lb:=[]) (obs:=[]) ⟨List.nodup_nil,fun _ h=>by cases h⟩ (fun j i h=>by simp at h) rfl hkeep hm' hold rfl (fun k ob x h=>by simp at h)
  exact ⟨u,_,st.s,st.k,M',β,rfl,I2,hrep,hM2,BLe.refl _,hK ss hperm⟩
 have hlt:ss.length<=top47∧ss.length*8<=top47:=by simp only[top47];omega
 rcases hrow.2 with ⟨rfl,h0⟩ | ⟨g,cap,cur,rfl,hbase,hgb,hr1,hr2,hr3,hr4⟩
 ·have hss:ss=[]:=hnil.1 rfl
  subst hss
  refine fin M (fun b o x hx=>?_) (fun _ _ _=>rfl) ?_
  ·have hlt:=I.mem.lt hx
   have:=I.mem b o x hx
   refine ⟨?_,this.2⟩
   rw[← this.1]
   simp[World.cell?,hbw.block b hlt]
  ·simp only[List.map_nil,Rep]
   exact ⟨by simp,by simp,by simp,none,0,rfl,Nat.le_refl _,by simp⟩
 ·rw[Nat.mul_one] at hr4
  have row2:∀ o,o<ss.length->cur[o]? = (ss[o]?).map encU:=fun o ho=>by
   have h1:(cur.toList.take ss.length)[o]? = (ss.map encU)[o]?:=by rw[hr4]
   rw[List.getElem?_take_of_lt ho,List.getElem?_map,Array.getElem?_toList] at h1
   exact h1
  have row:∀ o,o<ss.length->∀ x,cur[o]? = some x->∃ y,y∈ss∧x=encU y:=fun o ho x hx=>by
   rw[row2 o ho,List.getElem?_eq_getElem ho] at hx
   exact ⟨_,List.getElem_mem ho,(Option.some.inj hx).symm⟩
  refine fin (fun b o=>if b=g then (if o<ss.length then cur[o]? else none) else M b o) (fun b o x hx=>?_) (fun b o hb=>if_neg (by omega)) ?_
  ·simp only at hx
   split at hx
   ·rename_i e
    subst e
    split at hx
    ·rename_i ho
     refine ⟨by simp[World.cell?,hgb,hx],?_⟩
     obtain ⟨y,_,rfl⟩:=row o ho x hx
     rfl
    ·cases hx
   ·have hlt:=I.mem.lt hx
    have:=I.mem b o x hx
    refine ⟨?_,this.2⟩
    rw[← this.1]
    simp[World.cell?,hbw.block b hlt]
  ·simp only[Rep]
   refine ⟨by simp,by rw[List.length_map];exact hlt.1,by rw[List.length_map,by37];exact hlt.2,_,_,by rw[List.length_map],by rw[List.length_map];exact hr1,.inr ⟨g,0,rfl,repE_row ss 0 hrange fun j y hj=>?_⟩⟩
   have hjl:j<ss.length:=(List.getElem?_eq_some_iff.1 hj).1
   rw[if_pos rfl,Nat.zero_add,if_pos hjl,row2 j hjl,hj];rfl
def initO:List Oper->List Oper
 | []=>[]
 | [_]=>[]
 | a::b::l=>a::initO (b::l)
def lastO:List Oper->Oper
 | []=>default
 | [a]=>a
 | _::b::l=>lastO (b::l)
theorem initO_1 {a:Oper}:initO [a]=[]:=rfl
theorem initO_2 {a b:Oper} {l:List Oper}:initO (a::b::l)=a::initO (b::l):=rfl
theorem lastO_1 {a:Oper}:lastO [a]=a:=rfl
theorem lastO_2 {a b:Oper} {l:List Oper}:lastO (a::b::l)=lastO (b::l):=rfl
theorem dbL {C:Cx} {R:St->Prop} {k:List It} {st:St} {l:List Oper} (f id:Nat) (aux:List (List Nat×List Nat×List Nat×List Nat)) (hl:initO l++[lastO l]=l) (hb:lastB (initO l) (lastO l)=true) (ho:(mkEn 0 (initO l) aux).map (·.o)=initO l) (hi:(mkEn 0 (initO l) aux).map (·.i)=List.range (mkEn 0 (initO l) aux).length) (hc:chkD (mkEn 0 (initO l) aux)=true)
 (h:dr Tryz.prog C ⟨initO l⟩ st.k (mkEn 0 (initO l) aux) st fun st'=>run Tryz.prog C R 1000 (.ops ⟨l⟩ [lastO l]::k) ⟨st'.t,st'.s,st'.n,st.k+(mkEn 0 (initO l) aux).length⟩) (t:Prf (⟨l⟩:Array Oper)):DrawnG Tryz.prog C R id ⟨l⟩ k st t:=by
 have:DrawnG Tryz.prog C R id ⟨initO l++[lastO l]⟩ k st trivial:=DrawnG.lastOf hb mixed (mkEn 0 (initO l) aux) 1000 ho hi hc (by rw[hl];exact h) trivial
 rw[hl] at this
 exact this
theorem map135:mapTy Tryz.prog 135=some (.u64,4):=by kernel_rfl
def mpF (F:List Int):List (Int×D):=F.map fun x=>(x,D.v (.bool true))
theorem mpF_new:∀ {F:List Int} {x:Int},x∉F->mset (mpF F) x (.v (.bool true))=mpF (F++[x])
 | [],x,_=>rfl
 | y::F,x,h=>by
  simp only[List.mem_cons,not_or] at h
  show (if x=y then _ else _)=_
  rw[if_neg h.1]
  exact congrArg _ (mpF_new h.2)
theorem mpF_len (F:List Int):(mpF F).length=F.length:=by simp[mpF]
theorem mpF_fst (F:List Int):(mpF F).map (·.1)=F:=by simp[mpF,Function.comp_def]
def RS (a0:TWorld) (out:List Bool) (F:List Int) (st:St):Prop:=st.s 64=some (1,.arr true 61 10 [e61 a0] 0)∧st.s 192=some (10,.arr true 85 1 [[.osl 1280 9 1 0 a0.Things.length]] 0)∧st.s 256=some (13,.arr true 135 1 [[.omp 1344 12]] 0)∧st.s 1280=some (9,.arr false 4 1 (out.map e4) 0)∧st.s 1344=some (12,.mp .u64 (mpF F))
def FT (st:St):Prop:=st.n=86∧st.t 1=.ept 64 1 10 0 0∧st.t 3=.ept 192 10 1 0 0∧st.t 4=.ept 256 13 1 0 0∧st.t 5=.clo (.func 58) [] [.ept 192 10 1 0 0,.ept 256 13 1 0 0]
theorem see3 {N:Nat} {a0:TWorld} {l F todo:List Int} {out:List Bool} (hn:a0.Things.length<=140737488355328) (h:RInv N a0 l out F todo) {x:Int} (h0:0<=x) (h1:x<=a0.Things.length) :
 (x=0∧seeO out x=out∧seeF out F x=F)∨((x != 0)=true∧wU (x-1)=x-1∧(0<=x-1∧x-1<a0.Things.length)∧(out.map e4).getD (x-1).toNat []=[.v (.bool true)]∧seeO out x=out∧seeF out F x=F) ∨
 ((x != 0)=true∧wU (x-1)=x-1∧(0<=x-1∧x-1<a0.Things.length)∧(out.map e4).getD (x-1).toNat []=[.v (.bool false)]∧(out.map e4).set (x-1).toNat [.v (.bool true)]=(seeO out x).map e4∧mset (mpF F) x (.v (.bool true))=mpF (seeF out F x)):=by
 by_cases hx:x=0
 ·subst hx;exact .inl ⟨rfl,rfl,rfl⟩
 have hx':(x != 0)=true:=by simpa using hx
 have hj:(x-1).toNat<out.length:=by rw[h.len];omega
 have hg:out.getD (x-1).toNat false=out[(x-1).toNat]:=by rw[List.getD_eq_getElem?_getD,List.getElem?_eq_getElem hj];rfl
 have hm:(out.map e4).getD (x-1).toNat []=[.v (.bool out[(x-1).toNat])]:=by rw[List.getD_eq_getElem?_getD,List.getElem?_map,List.getElem?_eq_getElem hj];rfl
 have hw:wU (x-1)=x-1:=wU_id (by omega) (by omega)
 unfold seeO seeF newIn
 rw[hg,hx',Bool.true_and,hm]
 cases hb:out[(x-1).toNat] with
 | true=>exact .inr (.inl ⟨rfl,hw,by omega,rfl,rfl,rfl⟩)
 | false =>
  refine .inr (.inr ⟨rfl,hw,by omega,rfl,?_,?_⟩)
  ·simp only[Bool.not_false,if_true,List.map_set];rfl
  ·simp only[Bool.not_false,if_true]
   refine mpF_new fun hm=>?_
   have:=(h.mem x (.inl hm)).2.2
   rw[List.getElem?_eq_getElem hj,hb] at this
   cases this
theorem wI_s {i n:Nat} (h:i<n) (hn:n<=140737488355328):wI ((i:Int)+1)=((i+1:Nat):Int):=by rw[wI_id (by omega) (by omega)];omega
def Rt (l:List Int) (out:List Bool):Prop:=∀ x∈l,x≠0->out[(x-1).toNat]? = some true
def U1 (N:Nat) (a0:TWorld) (l y:List Int) (n:Nat) (st:St):Prop:=∃ (i:Nat) (out:List Bool) (F:List Int),i<=y.length∧n=y.length-i∧RInv N a0 l out F []∧(∀ (j:Nat) x,j<i->y[j]? = some x->x≠0->out[(x-1).toNat]? = some true)∧st.n=29∧st.t 1=.ept 192 10 1 0 0∧st.t 2=.ept 256 13 1 0 0∧st.t 6=.isl 37 1 (y.map e37)∧st.t 7=.v (.int .i64 (y.length:Int))∧st.t 8=.v (.int .i64 (i:Int))∧RS a0 out F st
def U2 (N:Nat) (a0:TWorld) (l y:List Int) (n:Nat) (st:St):Prop:=∃ (i:Nat) (out:List Bool) (F:List Int),i<=a0.Marks.length∧n=a0.Marks.length-i∧RInv N a0 l out F []∧Rt y out∧(∀ (j:Nat) m,j<i->a0.Marks[j]? = some m->m.Id≠0->out[(m.Id-1).toNat]? = some true)∧FT st∧st.t 36=.isl 116 3 (a0.Marks.map e116)∧st.t 37=.v (.int .i64 (a0.Marks.length:Int))∧st.t 38=.v (.int .i64 (i:Int))∧RS a0 out F st
def U3 (N:Nat) (a0:TWorld) (l:List Int) (n:Nat) (st:St):Prop:=∃ (out:List Bool) (F:List Int),RInv N a0 l out F []∧n=2*cFal out+(if F=[] then 0 else 1)∧Rt l out∧FT st∧RS a0 out F st
def U4 (N:Nat) (a0:TWorld) (l xs:List Int) (c0:Nat) (n:Nat) (st:St):Prop:=∃ (i:Nat) (out:List Bool) (F:List Int),i<=xs.length∧n=xs.length-i∧RInv N a0 l out F (xs.drop i)∧cFal out+F.length=c0∧Rt l out∧FT st∧st.t 55=.isl 37 1 (xs.map e37)∧st.t 56=.v (.int .i64 (xs.length:Int))∧st.t 57=.v (.int .i64 (i:Int))∧RS a0 out F st
def U5 (N:Nat) (a0:TWorld) (l xs:List Int) (c0 i:Nat) (t:TThing) (ps:List Int) (n:Nat) (st:St):Prop:=∃ (m:Nat) (out:List Bool) (F:List Int),m<=ps.length∧n=ps.length-m∧RInv N a0 l out F (xs.drop i)∧cFal out+F.length=c0∧Rt l out∧(∀ (j:Nat) k,j<m->ps[j]? = some k->t.Fields.getD k.toNat 0≠0->out[(t.Fields.getD k.toNat 0-1).toNat]? = some true)∧FT st∧st.t 55=.isl 37 1 (xs.map e37)∧st.t 56=.v (.int .i64 (xs.length:Int))∧st.t 57=.v (.int .i64 (i:Int)) ∧
 st.t 69=.isl 3 1 (ps.map e3)∧st.t 70=.v (.int .i64 (ps.length:Int))∧st.t 71=.v (.int .i64 (m:Int))∧RS a0 out F st∧∃ w,st.t 11=.ept 704 w 4 0 0∧st.s 704=some (w,.arr true 77 4 [e77 t] 0)
instance Qj3:∀ N (a0:TWorld),OK (Qdm N a0) 21 [.agg (e61 a0)] [] (fun r=>.isl 4 1 (r.map e4)) fun r=>[]:=by
 refine fun N a0=>rn Tryz.f21 [.tmp 2] [] 86 (by kernel_rfl) ?_
 rintro _ hw r hr C x rfl hwf hf
 have hlen:a0.Things.length*48<=140737488355328:=by
  simp only[WfL,Wf,e61,List.length_map,top47,bytes77] at hwf
  exact hwf.1.2.2.1.2.2.1
 simp only[Tryz.f21,Option.get!]
 rw[Qdm] at hr
 repeat' first
  |(refine El.el hr ?_;clear hr;intro hr)
  |(with_reducible intro h;refine bc_e hr h ?_;clear hr;intro hr)
  |with_reducible intro _
  |simp only[go_sem,simprocAttr,map135,initO_1,initO_2,lastO_1,lastO_2]
  |(with_reducible first|apply guard_of_f|apply guard_of_t|apply cond_of)
  |(refine and_of' ?_ ?_;·first|assumption|omega)
  |(refine dbL 21 6 [([],[],[24,25,26,27,28,29,30,31,32,33],[2048]),([],[],[23,26,27,28,29,30,31],[]),([1],[],[23,26,27,28,29,30,31],[]),([],[],[23,24,25,29,30],[]),([3],[],[23,24,25,29,30],[]),([3,4],[],[23,24,25,29,30],[]),([],[],[23,24,25,26,27,28],[]),([6],[],[23,24,25,26,27,28],[]),([3,4,5,6,7],[],[23,24,25],[]),([1,2,3,4,5,6,7,8],[2048],[23],[]),([1,2,3,4,5,6,7,8,9],[2048],[23],[])] rfl (by kernel_rfl) rfl rfl (by kernel_rfl) ?_ _)
  |(refine CallX.inl (f:=58) 86 (fn:=Tryz.f58) (rs:=[]) (nt:=29) 1000 (by kernel_rfl) (fun x=>?_) _;simp only[Tryz.f58,Option.get!])
  |with_reducible refine CallX.c ?_ _
  |with_reducible refine OK.c hr hw ?_ (fun y hr=>?_) _
  |with_reducible refine OK.d hr hw ?_ (fun y hr=>?_) _
  |(refine some_e hr ?_;rintro rfl;with_reducible refine ret_k ?_)
  |fail
 rename_i hok
 obtain ⟨ex,hex,hr⟩:∃ ex,Qai N a0 N 0 (List.replicate a0.Things.length false) (y++a0.Marks.map (·.Id))=some ex∧some ex=some r:=bnd_e hr fun ex h1 h2=>⟨ex,h1,h2⟩
 obtain rfl:=Option.some.inj hr
 have hd:=rchOK_dat hok
 have hfin:=reach_spec hd (by omega) hex
 clear hr
 generalize hl:y++a0.Marks.map (·.Id)=l at hd hfin
 have hyl:∀ x∈y,x∈l:=fun x hx=>by rw[← hl];exact List.mem_append_left _ hx
 have hml:∀ m∈a0.Marks,m.Id∈l:=fun m hm=>by rw[← hl];exact List.mem_append_right _ (List.mem_map.2 ⟨m,hm,rfl⟩)
 have hylen:y.length<=140737488355328:=by have:=hd.len;rw[← hl,List.length_append] at this;omega
 have hmlen:a0.Marks.length<=140737488355328:=by have:=hd.len;rw[← hl,List.length_append,List.length_map] at this;omega
 have hn0:a0.Things.length<=140737488355328:=by omega
 refine LoopG.of (U1 N a0 l y) 1000 y.length ?_ ?_ _
 ·refine ⟨0,List.replicate a0.Things.length false,[],Nat.zero_le _,rfl,.start,fun j x hj=>by omega,?_⟩
  unfold RS
  simp only[go_sem,simprocAttr,List.map_replicate]
  simp[mpF]
 ·rintro n st ⟨i,out,F,hi,rfl,hI,hdone,E0,E1,E2,E3,E4,E5,H1,H2,H3,H4,H5⟩
  have hfl:F.length<140737488355328∨a0.Things.length=140737488355328:=by have:=hI.cnt;omega
  by_cases hil:i<y.length
  ·have hq:=List.getElem?_eq_getElem hil
   have hxm:y[i]∈l:=hyl _ (List.getElem_mem hil)
   generalize y[i]=x at hq hxm
   have hx:=hd.roots x hxm
   have hol:x<=out.length:=by rw[hI.len];exact hx.2
   have hyd:(y.map e37).getD i []=e37 x:=by rw[List.getD_eq_getElem?_getD,List.getElem?_map,hq];rfl
   have hdc:decide ((i:Int)<(y.length:Int))=true:=decide_eq_true (by omega)
   have hws:=wI_s hil hylen
   have hI2:=hI.see hx.1 hx.2 (fun h0=>Rch.root hxm h0)
   have hfl:F.length<140737488355328:=by have:=hI.cnt;omega
   have hdn:∀ (j:Nat) z,j<i+1->y[j]? = some z->z≠0->(seeO out x)[(z-1).toNat]? = some true:=fun j z hj hz h0=>by
    rcases Nat.lt_or_ge j i with h1 | h1
    ·exact seeO_keep hx.1 hol (hdone j z h1 hz h0)
    ·obtain rfl:j=i:=by omega
     rw[hq] at hz;obtain rfl:=Option.some.inj hz
     exact seeO_new hx.1 hol h0
   simp only[e37] at hyd
   rcases see3 hn0 hI hx.1 hx.2 with ⟨hz,hO,hF⟩ | ⟨hA,hB,hC2,hD,hO,hF⟩ | ⟨hA,hB,hC2,hD,hO,hF⟩
   ·
    repeat' first
     |simp only[go_sem,simprocAttr,map135,mpF_len,E0,E1,E2,E3,E4,E5,H1,H2,H3,H4,H5,hdc,hyd,hz,Int.toNat_natCast,List.length_map]
     |(refine and_of' ?_ ?_;·first|assumption|omega)
     |fail
    refine ⟨y.length-(i+1),by omega,i+1,_,_,by omega,rfl,hI2,hdn,?_⟩
    unfold RS
    simp only[go_sem,simprocAttr,E0,E1,E2,E3,E4,E5,H1,H2,H3,H4,H5,hws,hO,hF]
   ·
    repeat' first
     |simp only[go_sem,simprocAttr,map135,mpF_len,E0,E1,E2,E3,E4,E5,H1,H2,H3,H4,H5,hdc,hyd,hA,hB,hD,hI.len,Int.toNat_natCast,List.length_map]
     |(refine and_of' ?_ ?_;·first|assumption|omega)
     |fail
    refine ⟨y.length-(i+1),by omega,i+1,_,_,by omega,rfl,hI2,hdn,?_⟩
    unfold RS
    simp only[go_sem,simprocAttr,E0,E1,E2,E3,E4,E5,H1,H2,H3,H4,H5,hws,hO,hF]
   ·
    repeat' first
     |simp only[go_sem,simprocAttr,map135,mpF_len,E0,E1,E2,E3,E4,E5,H1,H2,H3,H4,H5,hdc,hyd,hA,hB,hD,hI.len,Int.toNat_natCast,List.length_map]
     |(refine and_of' ?_ ?_;·first|assumption|omega)
     |(refine db 58 4 ⟨⟩ [([],[],[23,24,25,26],[]),([],[],[22,25,26],[]),([1],[],[22,25,26],[]),([],[],[22,23,24,26,27],[1280]),([],[],[22,23,24,25,27],[1280]),([0,1,2],[],[25,26],[]),([0,1,2,5],[1280],[25,26],[]),([0,1,2,3,4,5,6],[1344],[],[])] rfl rfl (by kernel_rfl) ?_ _)
     |fail
    refine ⟨y.length-(i+1),by omega,i+1,_,_,by omega,rfl,hI2,hdn,?_⟩
    unfold RS
    simp only[go_sem,simprocAttr,E0,E1,E2,E3,E4,E5,H1,H2,H3,H4,H5,hws,hO,hF]
  ·obtain rfl:i=y.length:=by omega
   have hdc:decide ((y.length:Int)<(y.length:Int))=false:=decide_eq_false (by omega)
   have hRy:Rt y out:=fun x hx h0=>by
    obtain ⟨j,hj,rfl⟩:=List.getElem_of_mem hx
    exact hdone j _ hj (List.getElem?_eq_getElem hj) h0
   clear hdone hfl
   repeat' first
    |simp only[go_sem,simprocAttr,map135,mpF_len,E0,E1,E2,E3,E4,E5,H1,H2,H3,H4,H5,hdc,Int.toNat_natCast,List.length_map]
    |(refine and_of' ?_ ?_;·first|assumption|omega)
    |fail
   refine LoopG.of (U2 N a0 l y) 1000 a0.Marks.length ?_ ?_ _
   ·refine ⟨0,out,F,Nat.zero_le _,rfl,hI,hRy,fun j x hj=>by omega,?_⟩
    unfold RS FT
    simp only[go_sem,simprocAttr,H1,H2,H3,H4,H5]
   ·clear E0 E1 E2 E3 E4 E5 H1 H2 H3 H4 H5 hdc hRy hI
    clear hi st out F
    rintro n st ⟨i,out,F,hi,rfl,hI,hRy,hdone,⟨E0,E1,E2,E3,E4⟩,E5,E6,E7,H1,H2,H3,H4,H5⟩
    by_cases hil:i<a0.Marks.length
    ·have hq:=List.getElem?_eq_getElem hil
     have hxm:a0.Marks[i].Id∈l:=hml _ (List.getElem_mem hil)
     generalize a0.Marks[i]=mk at hq hxm
     have hx:=hd.roots mk.Id hxm
     have hol:mk.Id<=out.length:=by rw[hI.len];exact hx.2
     have hyd:(a0.Marks.map e116).getD i []=e116 mk:=by rw[List.getD_eq_getElem?_getD,List.getElem?_map,hq];rfl
     have hdc:decide ((i:Int)<(a0.Marks.length:Int))=true:=decide_eq_true (by omega)
     have hws:=wI_s hil hmlen
     have hI2:=hI.see hx.1 hx.2 (fun h0=>Rch.root hxm h0)
     have hfl:F.length<140737488355328:=by have:=hI.cnt;omega
     have hRy2:Rt y (seeO out mk.Id):=fun z hz h0=>seeO_keep hx.1 hol (hRy z hz h0)
     have hdn:∀ (j:Nat) z,j<i+1->a0.Marks[j]? = some z->z.Id≠0->(seeO out mk.Id)[(z.Id-1).toNat]? = some true:=fun j z hj hz h0=>by
      rcases Nat.lt_or_ge j i with h1 | h1
      ·exact seeO_keep hx.1 hol (hdone j z h1 hz h0)
      ·obtain rfl:j=i:=by omega
       rw[hq] at hz;obtain rfl:=Option.some.inj hz
       exact seeO_new hx.1 hol h0
     simp only[e116] at hyd
     rcases see3 hn0 hI hx.1 hx.2 with ⟨hz,hO,hF⟩ | ⟨hA,hB,hC2,hD,hO,hF⟩ | ⟨hA,hB,hC2,hD,hO,hF⟩
     ·
      repeat' first
       |simp only[go_sem,simprocAttr,map135,mpF_len,E0,E1,E2,E3,E4,E5,E6,E7,H1,H2,H3,H4,H5,hdc,hyd,wI_n,hz,Int.toNat_natCast,List.length_map]
       |(refine and_of' ?_ ?_;·first|assumption|omega)
       |(refine CallX.inl (f:=58) 86 (fn:=Tryz.f58) (rs:=[]) (nt:=29) 1000 (by kernel_rfl) (fun x=>?_) _;simp only[Tryz.f58,Option.get!])
       |with_reducible refine LoopG.u 6 ?_ _
       |with_reducible refine LoopU.s 1000 ?_ _
       |fail
      refine ⟨a0.Marks.length-(i+1),by omega,i+1,_,_,by omega,rfl,hI2,hRy2,hdn,?_⟩
      unfold RS FT
      simp only[go_sem,simprocAttr,E0,E1,E2,E3,E4,E5,E6,E7,H1,H2,H3,H4,H5,hws,hO,hF]
     ·
      repeat' first
       |simp only[go_sem,simprocAttr,map135,mpF_len,E0,E1,E2,E3,E4,E5,E6,E7,H1,H2,H3,H4,H5,hdc,hyd,wI_n,hA,hB,hD,hI.len,Int.toNat_natCast,List.length_map]
       |(refine and_of' ?_ ?_;·first|assumption|omega)
       |(refine CallX.inl (f:=58) 86 (fn:=Tryz.f58) (rs:=[]) (nt:=29) 1000 (by kernel_rfl) (fun x=>?_) _;simp only[Tryz.f58,Option.get!])
       |with_reducible refine LoopG.u 6 ?_ _
       |with_reducible refine LoopU.s 1000 ?_ _
       |fail
      refine ⟨a0.Marks.length-(i+1),by omega,i+1,_,_,by omega,rfl,hI2,hRy2,hdn,?_⟩
      unfold RS FT
      simp only[go_sem,simprocAttr,E0,E1,E2,E3,E4,E5,E6,E7,H1,H2,H3,H4,H5,hws,hO,hF]
     ·
      repeat' first
       |simp only[go_sem,simprocAttr,map135,mpF_len,E0,E1,E2,E3,E4,E5,E6,E7,H1,H2,H3,H4,H5,hdc,hyd,wI_n,hA,hB,hD,hI.len,Int.toNat_natCast,List.length_map]
       |(refine and_of' ?_ ?_;·first|assumption|omega)
       |(refine CallX.inl (f:=58) 86 (fn:=Tryz.f58) (rs:=[]) (nt:=29) 1000 (by kernel_rfl) (fun x=>?_) _;simp only[Tryz.f58,Option.get!])
       |with_reducible refine LoopG.u 6 ?_ _
       |with_reducible refine LoopU.s 1000 ?_ _
       |(refine db 58 4 ⟨⟩ [([],[],[23,24,25,26],[]),([],[],[22,25,26],[]),([1],[],[22,25,26],[]),([],[],[22,23,24,26,27],[1280]),([],[],[22,23,24,25,27],[1280]),([0,1,2],[],[25,26],[]),([0,1,2,5],[1280],[25,26],[]),([0,1,2,3,4,5,6],[1344],[],[])] rfl rfl (by kernel_rfl) ?_ _)
       |fail
      refine ⟨a0.Marks.length-(i+1),by omega,i+1,_,_,by omega,rfl,hI2,hRy2,hdn,?_⟩
      unfold RS FT
      simp only[go_sem,simprocAttr,E0,E1,E2,E3,E4,E5,E6,E7,H1,H2,H3,H4,H5,hws,hO,hF]
    ·obtain rfl:i=a0.Marks.length:=by omega
     have hdc:decide ((a0.Marks.length:Int)<(a0.Marks.length:Int))=false:=decide_eq_false (by omega)
     have hR:Rt l out:=fun x hx h0=>by
      rw[← hl] at hx
      rcases List.mem_append.1 hx with hx | hx
      ·exact hRy x hx h0
      ·obtain ⟨m,hm,rfl⟩:=List.mem_map.1 hx
       obtain ⟨j,hj,rfl⟩:=List.getElem_of_mem hm
       exact hdone j _ hj (List.getElem?_eq_getElem hj) h0
     clear hdone hRy
     repeat' first
      |simp only[go_sem,simprocAttr,map135,mpF_len,E0,E1,E2,E3,E4,E5,E6,E7,H1,H2,H3,H4,H5,hdc,Int.toNat_natCast,List.length_map]
      |(refine and_of' ?_ ?_;·first|assumption|omega)
      |fail
     refine LoopG.of (U3 N a0 l) 1000 (2*cFal out+(if F=[] then 0 else 1)) ?_ ?_ _
     ·refine ⟨out,F,hI,rfl,hR,?_⟩
      unfold RS FT
      simp only[go_sem,simprocAttr,E0,E1,E2,E3,E4,H1,H2,H3,H4,H5]
     ·clear E0 E1 E2 E3 E4 E5 E6 E7 H1 H2 H3 H4 H5 hdc hR hI
      clear hi st out F
      rintro n st ⟨out,F,hI,rfl,hR,⟨E0,E1,E2,E3,E4⟩,H1,H2,H3,H4,H5⟩
      by_cases hF0:F=[]
      ·subst hF0
       have hout:=(hI.fin hR).unique hfin (fun x hx=>(hd.roots x hx).1) (fun x c hc=>(hd.kid hc).1)
       have hdc:decide ((((mpF []).length:Nat):Int)>0)=false:=rfl
       repeat' first
        |simp only[go_sem,simprocAttr,map135,E0,E1,E2,E3,E4,H1,H2,H3,H4,H5,hdc,Int.toNat_natCast,List.length_map,hout]
        |(refine and_of' ?_ ?_;·first|assumption|omega)
        |with_reducible refine ret_k ?_
        |fail
       refine ⟨Nat.le_of_eq hfin.len.symm,?_⟩
       rw[List.take_of_length_le (by rw[List.length_map,hfin.len];exact Nat.le_refl _)]
       with_reducible refine ret_k ?_
       simp only[go_sem,simprocAttr]
      ·have hdc:decide ((((mpF F).length:Nat):Int)>0)=true:=by rw[mpF_len];exact decide_eq_true (by have:=List.length_pos_iff.2 hF0;omega)
       have hmem:∀ p∈mpF F,p.2=.v (.bool true)∧0<=p.1∧p.1<=18446744073709551615:=fun p hp=>by
        obtain ⟨x,hx,rfl⟩:=List.mem_map.1 hp
        have:=hI.mem x (.inl hx)
        exact ⟨rfl,by show 0<=x;omega,by show x<=_;omega⟩
       have hl8:(mpF F).length*8<=140737488355328:=by rw[mpF_len];have:=hI.cnt;omega
       have hnd:((mpF F).map (·.1)).Nodup:=by rw[mpF_fst];exact hI.nodup
       repeat' first
        |simp only[go_sem,simprocAttr,map135,E0,E1,E2,E3,E4,H1,H2,H3,H4,H5,hdc,Int.toNat_natCast,List.length_map]
        |(refine and_of' ?_ ?_;·first|assumption|omega)
        |(refine CallX.inl (f:=63) 120 (fn:=Tryz.f63) (rs:=[.tmp 2]) (nt:=4) 1000 (by kernel_rfl) (fun x=>?_) _;simp only[Tryz.f63,Option.get!])
        |fail
       refine collectX (id:=7744) (mid:=1344) (mv:=12) (fz:=0) (es:=mpF F) (by simp only[go_sem,simprocAttr]) (by simp only[go_sem,simprocAttr,H5]) hnd hmem hl8 (fun xs hp=>?_) _
       rw[mpF_fst] at hp
       have hI0:=hI.wave hp
       have hxl:xs.length<=140737488355328:=by have:=hI.cnt;rw[hp.length_eq];omega
       have hcl:cFal out+0<2*cFal out+(if F=[] then 0 else 1)∨True:=.inr trivial
       rw[if_neg hF0]
       rw[show (xs.map fun x=>[D.v (.int .u64 x)])=xs.map e37 from rfl]
       repeat' first
        |simp only[go_sem,simprocAttr,map135,E0,E1,E2,E3,E4,H1,H2,H3,H4,H5,hdc,Int.toNat_natCast,List.length_map]
        |(refine and_of' ?_ ?_;·first|assumption|omega)
        |fail
       refine LoopG.of (U4 N a0 l xs (cFal out)) 1000 xs.length ?_ ?_ _
       ·refine ⟨0,out,[],Nat.zero_le _,rfl,hI0,rfl,hR,?_⟩
        unfold RS FT
        simp only[go_sem,simprocAttr,E0,E1,E2,E3,E4,H1,H2,H3,H4,H5]
        simp[mpF]
       ·generalize cFal out=c0
        clear E0 E1 E2 E3 E4 H1 H2 H3 H4 H5 hdc hR hI hI0 hcl hl8 hnd hmem hp hF0
        clear st out F
        rintro n st ⟨i,out,F,hi,rfl,hI,hc0,hR,⟨E0,E1,E2,E3,E4⟩,E5,E6,E7,H1,H2,H3,H4,H5⟩
        by_cases hil:i<xs.length
        ·have hq:=List.getElem?_eq_getElem hil
         have hdrop:=List.drop_eq_getElem_cons hil
         generalize xs[i]=x at hq hdrop
         have hx:=hI.mem x (.inr (by rw[hdrop];simp))
         have hxR:Rch (kidsW N a0) l x:=by have:=hI.sound _ hx.2.2;rwa[show (((x-1).toNat:Nat):Int)+1=x by omega] at this
         have hyd:(xs.map e37).getD i []=e37 x:=by rw[List.getD_eq_getElem?_getD,List.getElem?_map,hq];rfl
         have hdc:decide ((i:Int)<(xs.length:Int))=true:=decide_eq_true (by omega)
         have hws:=wI_s hil hxl
         have hwx:wU (x-1)=x-1:=wU_id (by omega) (by omega)
         have hxi:0<=x-1∧x-1<a0.Things.length:=by omega
         have hti:=List.getElem?_eq_getElem (show (x-1).toNat<a0.Things.length by omega)
         generalize a0.Things[(x-1).toNat]'(by omega)=t at hti
         have htd:(a0.Things.map e77).getD (x-1).toNat []=e77 t:=by rw[List.getD_eq_getElem?_getD,List.getElem?_map,hti];rfl
         obtain ⟨ps,hps,hrf,hpl,hpk⟩:=hd.thing t (List.mem_of_getElem? hti)
         have hkid:kidsW N a0 x=ps.map fun i=>t.Fields.getD i.toNat 0:=by unfold kidsW;rw[hti];simp only[hps]
         simp only[e37] at hyd
         simp only[e77] at htd
         repeat' first
          |simp only[go_sem,simprocAttr,map135,mpF_len,E0,E1,E2,E3,E4,E5,E6,E7,H1,H2,H3,H4,H5,hdc,hyd,hwx,htd,Int.toNat_natCast,List.length_map]
          |(refine and_of' ?_ ?_;·first|assumption|omega)
          |with_reducible refine CallX.c ?_ _
          |with_reducible refine OK.t hps hw ?_ ?_ _
          |fail
         refine LoopG.of (U5 N a0 l xs c0 i t ps) 1000 ps.length ?_ ?_ _
         ·have fin:∀ st':St,FT st'∧(st'.t 55=.isl 37 1 (xs.map e37)∧st'.t 56=.v (.int .i64 (xs.length:Int))∧st'.t 57=.v (.int .i64 (i:Int))∧st'.t 69=.isl 3 1 (ps.map e3)∧st'.t 70=.v (.int .i64 (ps.length:Int))∧st'.t 71=.v (.int .i64 ((0:Nat):Int))∧RS a0 out F st')->(∀ w,st'.t 11=.ept 704 w 4 0 0->st'.s 704=some (w,.arr true 77 4 [e77 t] 0))->(∃ w,st'.t 11=.ept 704 w 4 0 0)->U5 N a0 l xs c0 i t ps ps.length st':=fun st' ⟨h1,h2,h3,h4,h5,h6,h7,h8⟩ h9 ⟨w,h10⟩=>⟨0,out,F,Nat.zero_le _,rfl,hI,hc0,hR,fun j k hj=>by omega,h1,h2,h3,h4,h5,h6,h7,h8,w,h10,h9 w h10⟩
          refine fin _ ?h1 (fun w hw=>?h2) ⟨?w,?h3⟩
          case h3 =>
           simp only[go_sem,simprocAttr]
           rfl
          case h1 =>
           unfold RS FT
           simp only[go_sem,simprocAttr,E0,E1,E2,E3,E4,E5,E6,E7,H1,H2,H3,H4,H5]
           try exact ⟨trivial,rfl⟩
          case h2 =>
           simp only[go_sem,simprocAttr,D.ept.injEq,true_and,and_true] at hw
           subst hw
           simp only[go_sem,simprocAttr]
         ·clear E0 E1 E2 E3 E4 E5 E6 E7 H1 H2 H3 H4 H5 hdc hyd htd hR hI hc0 hx
          clear st out F
          rintro n st ⟨m,out,F,hm,rfl,hI,hc0,hR,hdone,⟨E0,E1,E2,E3,E4⟩,E5,E6,E7,E10,E11,E12,⟨H1,H2,H3,H4,H5⟩,w,E8,E9⟩
          by_cases hml2:m<ps.length
          ·have hq2:=List.getElem?_eq_getElem hml2
           have hkm:ps[m]∈ps:=List.getElem_mem hml2
           generalize ps[m]=k at hq2 hkm
           obtain ⟨k0,k1,f0,f1⟩:=hpk k hkm
           have hfk:t.Fields.getD k.toNat 0∈kidsW N a0 x:=by rw[hkid];exact List.mem_map.2 ⟨k,hkm,rfl⟩
           have hfd:(t.Fields.map e37).getD k.toNat []=e37 (t.Fields.getD k.toNat 0):=by rw[List.getD_eq_getElem?_getD,List.getElem?_map,List.getD_eq_getElem?_getD,List.getElem?_eq_getElem (show k.toNat<t.Fields.length by omega)];rfl
           generalize hf:t.Fields.getD k.toNat 0=f at hfk hfd f0 f1
           have hol:f<=out.length:=by rw[hI.len];exact f1
           have hyd:(ps.map e3).getD m []=e3 k:=by rw[List.getD_eq_getElem?_getD,List.getElem?_map,hq2];rfl
           have hdc:decide ((m:Int)<(ps.length:Int))=true:=decide_eq_true (by omega)
           have hws2:=wI_s hml2 hpl
           have hI2:=hI.see f0 f1 (fun h0=>Rch.step hxR hfk h0)
           have hfl:F.length<140737488355328:=by have:=hI.cnt;omega
           have hc2:cFal (seeO out f)+(seeF out F f).length=c0:=by rw[see_count f0 hol];exact hc0
           have hR2:Rt l (seeO out f):=fun z hz h0=>seeO_keep f0 hol (hR z hz h0)
           have hdn:∀ (j:Nat) z,j<m+1->ps[j]? = some z->t.Fields.getD z.toNat 0≠0->(seeO out f)[(t.Fields.getD z.toNat 0-1).toNat]? = some true:=fun j z hj hz h0=>by
            rcases Nat.lt_or_ge j m with h1 | h1
            ·exact seeO_keep f0 hol (hdone j z h1 hz h0)
            ·obtain rfl:j=m:=by omega
             rw[hq2] at hz;obtain rfl:=Option.some.inj hz
             rw[hf] at h0 ⊢
             exact seeO_new f0 hol h0
           simp only[e3] at hyd
           simp only[e37] at hfd
           rcases see3 hn0 hI f0 f1 with ⟨hz,hO,hF⟩ | ⟨hA,hB,hC2,hD,hO,hF⟩ | ⟨hA,hB,hC2,hD,hO,hF⟩
           ·
            repeat' first
             |simp only[go_sem,simprocAttr,map135,mpF_len,E0,E1,E2,E3,E4,E5,E6,E7,E8,E9,E10,E11,E12,H1,H2,H3,H4,H5,hdc,hyd,hfd,wI_n,hz,Int.toNat_natCast,List.length_map]
             |(refine and_of' ?_ ?_;·first|assumption|omega)
             |(refine CallX.inl (f:=58) 86 (fn:=Tryz.f58) (rs:=[]) (nt:=29) 1000 (by kernel_rfl) (fun x=>?_) _;simp only[Tryz.f58,Option.get!])
             |with_reducible refine LoopG.u 6 ?_ _
             |with_reducible refine LoopU.s 1000 ?_ _
             |fail
            refine ⟨ps.length-(m+1),by omega,m+1,_,_,by omega,rfl,hI2,hc2,hR2,hdn,?_,?_,?_,?_,?_,?_,?_,?_,w,?_,?_⟩<;>(try unfold RS)<;>(try unfold FT)<;>simp only[go_sem,simprocAttr,E0,E1,E2,E3,E4,E5,E6,E7,E8,E9,E10,E11,E12,H1,H2,H3,H4,H5,hws2,hO,hF]
           ·
            repeat' first
             |simp only[go_sem,simprocAttr,map135,mpF_len,E0,E1,E2,E3,E4,E5,E6,E7,E8,E9,E10,E11,E12,H1,H2,H3,H4,H5,hdc,hyd,hfd,wI_n,hA,hB,hD,hI.len,Int.toNat_natCast,List.length_map]
             |(refine and_of' ?_ ?_;·first|assumption|omega)
             |(refine CallX.inl (f:=58) 86 (fn:=Tryz.f58) (rs:=[]) (nt:=29) 1000 (by kernel_rfl) (fun x=>?_) _;simp only[Tryz.f58,Option.get!])
             |with_reducible refine LoopG.u 6 ?_ _
             |with_reducible refine LoopU.s 1000 ?_ _
             |fail
            refine ⟨ps.length-(m+1),by omega,m+1,_,_,by omega,rfl,hI2,hc2,hR2,hdn,?_,?_,?_,?_,?_,?_,?_,?_,w,?_,?_⟩<;>(try unfold RS)<;>(try unfold FT)<;>simp only[go_sem,simprocAttr,E0,E1,E2,E3,E4,E5,E6,E7,E8,E9,E10,E11,E12,H1,H2,H3,H4,H5,hws2,hO,hF]
           ·
            repeat' first
             |simp only[go_sem,simprocAttr,map135,mpF_len,E0,E1,E2,E3,E4,E5,E6,E7,E8,E9,E10,E11,E12,H1,H2,H3,H4,H5,hdc,hyd,hfd,wI_n,hA,hB,hD,hI.len,Int.toNat_natCast,List.length_map]
             |(refine and_of' ?_ ?_;·first|assumption|omega)
             |(refine CallX.inl (f:=58) 86 (fn:=Tryz.f58) (rs:=[]) (nt:=29) 1000 (by kernel_rfl) (fun x=>?_) _;simp only[Tryz.f58,Option.get!])
             |with_reducible refine LoopG.u 6 ?_ _
             |with_reducible refine LoopU.s 1000 ?_ _
             |(refine db 58 4 ⟨⟩ [([],[],[23,24,25,26],[]),([],[],[22,25,26],[]),([1],[],[22,25,26],[]),([],[],[22,23,24,26,27],[1280]),([],[],[22,23,24,25,27],[1280]),([0,1,2],[],[25,26],[]),([0,1,2,5],[1280],[25,26],[]),([0,1,2,3,4,5,6],[1344],[],[])] rfl rfl (by kernel_rfl) ?_ _)
             |fail
            refine ⟨ps.length-(m+1),by omega,m+1,_,_,by omega,rfl,hI2,hc2,hR2,hdn,?_,?_,?_,?_,?_,?_,?_,?_,w,?_,?_⟩<;>(try unfold RS)<;>(try unfold FT)<;>simp only[go_sem,simprocAttr,E0,E1,E2,E3,E4,E5,E6,E7,E8,E9,E10,E11,E12,H1,H2,H3,H4,H5,hws2,hO,hF]
          ·obtain rfl:m=ps.length:=by omega
           have hdc:decide ((ps.length:Int)<(ps.length:Int))=false:=decide_eq_false (by omega)
           rw[hdrop] at hI
           have hI3:=hI.next fun c hc h0=>by
            rw[hkid] at hc
            obtain ⟨k,hk,rfl⟩:=List.mem_map.1 hc
            obtain ⟨j,hj,rfl⟩:=List.getElem_of_mem hk
            exact hdone j _ hj (List.getElem?_eq_getElem hj) h0
           repeat' first
            |simp only[go_sem,simprocAttr,map135,mpF_len,E0,E1,E2,E3,E4,E5,E6,E7,E8,E9,E10,E11,E12,H1,H2,H3,H4,H5,hdc,Int.toNat_natCast,List.length_map]
            |(refine and_of' ?_ ?_;·first|assumption|omega)
            |fail
           refine ⟨xs.length-(i+1),by omega,i+1,out,F,by omega,rfl,hI3,hc0,hR,?_⟩
           unfold RS FT
           simp only[go_sem,simprocAttr,E0,E1,E2,E3,E4,E5,E6,E7,H1,H2,H3,H4,H5,hws]
        ·obtain rfl:i=xs.length:=by omega
         have hdc:decide ((xs.length:Int)<(xs.length:Int))=false:=decide_eq_false (by omega)
         rw[List.drop_eq_nil_of_le (Nat.le_refl _)] at hI
         repeat' first
          |simp only[go_sem,simprocAttr,map135,mpF_len,E0,E1,E2,E3,E4,E5,E6,E7,H1,H2,H3,H4,H5,hdc,Int.toNat_natCast,List.length_map]
          |(refine and_of' ?_ ?_;·first|assumption|omega)
          |fail
         refine ⟨2*cFal out+(if F=[] then 0 else 1),?_,out,F,hI,rfl,hR,?_⟩
         ·split
          ·omega
          ·rename_i hF;have:=List.length_pos_iff.2 hF;omega
         ·unfold RS FT
          simp only[go_sem,simprocAttr,E0,E1,E2,E3,E4,H1,H2,H3,H4,H5]
abbrev Qh4:=fun N (a0:THeap) (Q:(Ex TFinding Unit)→Prop) n (st:St)=>∃ (v2:Int) (ex:_),Qde N a0 n v2=some ex∧Q ex∧((∃ w64 w128,st.n=65∧st.t 1=.ept 64 w64 6 0 0∧st.t 2=.ept 128 w128 3 0 0∧st.t 3=.v (.int .i64 v2)∧st.s 64=some (w64,.arr true 42 6 [e42 a0] 0)∧st.s 128=some (w128,.arr true 330 3 [[.v (.int .i64 0),.v (.int .i64 0),.v (.int .u64 0)]] 0)))
abbrev Qh5:=fun N (a0:THeap) (Q:Int→Prop) n (st:St)=>∃ (v6:Int) (v7:Int) (ex:_),QbN N a0 n v6 v7=some ex∧Q ex∧((∃ w64 w128,st.n=65∧st.t 1=.ept 64 w64 6 0 0∧st.t 2=.ept 128 w128 3 0 0∧st.t 6=.v (.int .i64 v6)∧st.t 7=.v (.int .i64 v7)∧st.s 64=some (w64,.arr true 42 6 [e42 a0] 0)∧st.s 128=some (w128,.arr true 330 3 [[.v (.int .i64 0),.v (.int .i64 0),.v (.int .u64 0)]] 0)))
instance QlD:∀ N (a0:THeap),OK (QfF N a0) 264 [.agg (e42 a0)] [] (fun r=>.agg (e330 r)) fun r=>[]:=by
 refine fun N _=>rn Tryz.f264 [.cell 2 330] [] 65 (by kernel_rfl) ?_<;>(rintro _ hw r hr C _ rfl hwf hf;simp only[Tryz.f264,Option.get!];(rw[QfF] at hr);repeat' first
 |(refine El.el hr ?_;intro hr)
 |(with_reducible intro h;refine bc_e hr h ?_;intro hr)
 |with_reducible intro _
 |(refine some_e hr ?_;rintro rfl;have hr:=hk;clear hk)
 |simp only[go_sem,simprocAttr,E,hl306]
 |(with_reducible first|apply guard_of_f|apply guard_of_t|apply cond_of)
 |((first|with_reducible refine idx_s hr (by assumption) ?_ ?_|(with_reducible refine idx_e hr ?_ ?_;rotate_left;intro p;rotate_right));(·simp only[go_sem,simprocAttr]);intro hp hn hd hr;(try have hl306:=hd _ e306);(try simp only[go_sem,simprocAttr] at hl306))
 |(refine and_of' ?_ ?_;·first|assumption|omega)
 |with_reducible refine CallX.c ?_ _
 |with_reducible refine OK.c hr hw ?_ (fun y hr=>?_) _
 |(with_reducible refine loop_e (I:=Qh4 N _) hr 1000 N (fun ex hq hk=>⟨_,ex,hq,hk,?_⟩) ?_ _;rotate_left;clear hr;(try clear E);rintro n1 st ⟨v2,ex,hr,hk,⟨_,_,E⟩⟩<;>(obtain _|n1:=n1<;>rw[Qde] at hr))
 |refine ⟨_,Nat.lt_succ_self _,_,_,hr,hk,?_⟩
 |(with_reducible refine loop_e (I:=Qh5 N _) hr 1000 N (fun ex hq hk=>⟨_,_,ex,hq,hk,?_⟩) ?_ _;rotate_left;clear hr;(try clear E);rintro n2 st ⟨v6,v7,ex,hr,hk,⟨_,_,E⟩⟩<;>(obtain _|n2:=n2<;>rw[QbN] at hr))
 |refine ⟨_,Nat.lt_succ_self _,_,_,_,hr,hk,?_⟩
 |(refine some_e hr ?_;rintro rfl;with_reducible refine ret_k ?_)
 |exact no_e hr
 |((first|refine bc_e (c:=true) hr rfl ?_|refine bc_e (c:=false) hr rfl ?_|refine bc_e hr (by assumption) ?_);intro hr)
 |fail)
theorem H0:True:=trivial
theorem mapT:mapTy Tryz.prog 170=some (.i64,168):=by kernel_rfl
theorem Qi6 (G:Nat→Option (List D)):ACalls Tryz.prog G 79 [] [] (Eqs (.fmp .i64 [1,2,3,4,5,6,7,8,9,10,11,13,15,12,14,16,17,18,19,20] [.agg [.clo (.func 146) [] []],.agg [.clo (.func 148) [] []],.agg [.clo (.func 149) [] []],.agg [.clo (.func 144) [] []],.agg [.clo (.func 144) [] []],.agg [.clo (.func 142) [] []],.agg [.clo (.func 142) [] []],.agg [.clo (.func 150) [] []],.agg [.clo (.func 151) [] []],.agg [.clo (.func 152) [] []],.agg [.clo (.func 153) [] []],.agg [.clo (.func 155) [] []],.agg [.clo (.func 157) [] []],.agg [.clo (.func 158) [] []],.agg [.clo (.func 160) [] []],.agg [.clo (.func 161) [] []],.agg [.clo (.func 162) [] []],.agg [.clo (.func 163) [] []],.agg [.clo (.func 164) [] []],.agg [.clo (.func 165) [] []]]) []):=by
 refine acalls_of_run (fn:=Tryz.f79) (body:=(Tryz.f79.body).get!) (rs:=[.tmp 0]) 1000 [192] 29 (by kernel_rfl) (by kernel_rfl) (by kernel_rfl) (by kernel_rfl) (by kernel_rfl) (by simp) fun C _ hG hwf=>?_
 subst hG
 simp only[Tryz.f79,Option.get!]
 simp only[go_sem,simprocAttr,mapT]
 with_reducible refine ret_k ?_
 simp only[go_sem,simprocAttr]
instance Qkp:∀ N (a0:TWorld) (a1:Int) (a2:Int) (a3:Int) (a4:Int) (a5:Bool),OK (QfL N a0 a1 a2 a3 a4 a5) 39 [.agg (e61 a0),.v (.int .i64 a1),.v (.int .u64 a2),.v (.int .u64 a3),.v (.int .u64 a4),.v (.bool a5)] [] (fun r=>.v (.int .i64 r)) fun r=>[]:=by
 refine fun N a0 a1 a2 a3 a4 a5=>?_
 have hc:a1=3∨(a1≠3):=by omega
 rcases hc with rfl|H0
 all_goals
  refine rn Tryz.f39 [.tmp 12] [] 35 (by kernel_rfl) ?_
  rintro _ hw r hr C _ rfl hwf hf
  rw[QfL] at hr
  simp only[Tryz.f39,Option.get!]
  repeat' first
   |simp only[go_sem,simprocAttr,mapT,List.zip_cons_cons,List.zip_nil_left,H0]
   |(with_reducible intro h;refine bc_e hr h ?_;intro hr)
   |(refine El.el hr ?_;intro hr)
   |(with_reducible first|apply guard_of_f|apply guard_of_t|apply cond_of)
   |(refine and_of' ?_ ?_;(·first|assumption|omega))
   |with_reducible refine CallX.c ?_ _
   |with_reducible refine OK.c hr hw ?_ (fun y hr=>?_) _
   |with_reducible refine CallG.ofE (Qi6 _) ?_ ?_ _
   |with_reducible refine CallG.ofE (OK.h _ hw _ hr) ?_ ?_ _
   |(refine some_e hr ?_;rintro rfl;with_reducible refine ret_k ?_)
   |((first|refine bc_e (c:=true) hr rfl ?_|refine bc_e (c:=false) hr rfl ?_|refine bc_e (c:=false) hr (beq_eq_false_iff_ne.2 (by simp only[H0,ne_eq,not_false_eq_true])) ?_);intro hr)
   |exact no_e hr
   |with_reducible refine ret_k ?_
   |fail
instance Qkq:∀ N (a0:TWorld) (a1:Int),OK (QfN N a0 a1) 40 [.agg (e61 a0),.v (.int .u64 a1)] [] (fun r=>.tup [.v (.int .u64 r.1),.v (.int .i64 r.2)]) fun r=>[]:=by
 refine fun N _ _=>rn Tryz.f40 [.tmp 4,.tmp 5] [] 14 (by kernel_rfl) ?_<;>(rintro _ hw r hr C _ rfl hwf hf;simp only[Tryz.f40,Option.get!];(rw[QfN] at hr);repeat' first
 |(refine El.el hr ?_;intro hr)
 |(with_reducible intro h;refine bc_e hr h ?_;intro hr)
 |with_reducible intro _
 |simp only[go_sem,simprocAttr]
 |(with_reducible first|apply guard_of_f|apply guard_of_t|apply cond_of)
 |(refine and_of' ?_ ?_;·first|assumption|omega)
 |with_reducible refine CallX.c ?_ _
 |with_reducible refine OK.c hr hw ?_ (fun y hr=>?_) _
 |(refine some_e hr ?_;rintro rfl;with_reducible refine ret_k ?_)
 |exact no_e hr
 |fail)
end Go.Sx
