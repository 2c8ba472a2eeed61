import GoSem.Core.View
import Derived.Deep.LoopGhost
import Derived.Orders
import Derived.Below
import Derived.Laws.CopyRow
import Derived.Laws.AppendOwn
import Derived.Laws.MakeOwn
import Derived.Laws.OwnMore
import Derived.Laws.StructEq
import Derived.Laws.Tables
import Derived.Laws.Rows
import Derived.MapKept
set_option linter.all false
namespace Go.Sx
def Wa{α:Type _}(a b:α):(bif false then a else b)=b:=rfl
def We{α:Type _}(a b:α):(bif true then a else b)=a:=rfl
def Wb:type_of% @List.getElem?_eq_getElem:=@List.getElem?_eq_getElem
def Wc:type_of% @Option.some.injEq:=@Option.some.injEq
def Wi:type_of% @Prod.mk.injEq:=@Prod.mk.injEq
def Wj:type_of% @decide_eq_true:=@decide_eq_true
def Wk:type_of% @decide_eq_false:=@decide_eq_false
def Wm:type_of% @if_neg:=@if_neg
def Wn:type_of% @if_pos:=@if_pos
def Wp:type_of% @List.length_append:=@List.length_append
def Wq:type_of% @of_decide_eq_true:=@of_decide_eq_true
def Wr:type_of% @List.getD_eq_getElem?_getD:=@List.getD_eq_getElem?_getD
def Ws:type_of% @Bool.not_true:=@Bool.not_true
def Wt:type_of% @List.drop_eq_getElem_cons:=@List.drop_eq_getElem_cons
def Ww:type_of% @Bool.and_eq_true:=@Bool.and_eq_true
def Wx:type_of% @List.length_set:=@List.length_set
def WA:type_of% @Bool.true_and:=@Bool.true_and
def WC:type_of% @List.length_take:=@List.length_take
def WG:type_of% @of_decide_eq_false:=@of_decide_eq_false
def WH:type_of% @Nat.lt_succ_self:=@Nat.lt_succ_self
def WK:type_of% @List.mem_append:=@List.mem_append
def WL:type_of% @List.drop_eq_nil_of_le:=@List.drop_eq_nil_of_le
def WO:type_of% @List.length_replicate:=@List.length_replicate
def WP:type_of% @List.drop_zero:=@List.drop_zero
def WQ:type_of% @List.eq_nil_of_length_eq_zero:=@List.eq_nil_of_length_eq_zero
def WR:type_of% @List.length_drop:=@List.length_drop
def WS:type_of% @Bool.not_false:=@Bool.not_false
def WU:type_of% @List.getElem_of_mem:=@List.getElem_of_mem
def WW:type_of% @List.getElem_mem:=@List.getElem_mem
def WX:type_of% @List.map_cons:=@List.map_cons
def WZ:type_of% @List.getElem?_eq_none:=@List.getElem?_eq_none
def W0:type_of% @List.length_map:=@List.length_map
def W3:type_of% @List.all_eq_true:=@List.all_eq_true
def W4:type_of% @List.mem_cons_of_mem:=@List.mem_cons_of_mem
def W5:type_of% @Bool.false_and:=@Bool.false_and
def W6:type_of% @List.getElem?_take:=@List.getElem?_take
def W7:type_of% @Option.map_eq_some_iff:=@Option.map_eq_some_iff
def W8:type_of% @Nat.mul_le_mul_right:=@Nat.mul_le_mul_right
def W9:type_of% @List.mem_of_mem_take:=@List.mem_of_mem_take
def Ua:type_of% @List.mem_of_getElem?:=@List.mem_of_getElem?
def Ub:type_of% @decide_eq_false_iff_not:=@decide_eq_false_iff_not
def Uc:type_of% @List.length_cons:=@List.length_cons
def Uf:type_of% @List.mem_of_mem_drop:=@List.mem_of_mem_drop
def Ug:type_of% @Option.some.inj:=@Option.some.inj
def Ui:type_of% @Nat.le_refl:=@Nat.le_refl
def Ul:type_of% @List.append_assoc:=@List.append_assoc
def Un:type_of% @Nat.zero_le:=@Nat.zero_le
def Uo:type_of% @List.mem_append_left:=@List.mem_append_left
def Uq:type_of% @Nat.eq_zero_or_pos:=@Nat.eq_zero_or_pos
def Ur:type_of% @List.mem_append_right:=@List.mem_append_right
def Ut:type_of% @Nat.zero_add:=@Nat.zero_add
def Uu:type_of% @List.getElem?_drop:=@List.getElem?_drop
def Uv:type_of% @Bool.not_eq_true':=@Bool.not_eq_true'
def Uw:type_of% @Nat.lt_or_ge:=@Nat.lt_or_ge
def Ux:type_of% @List.nil_append:=@List.nil_append
def Uy:type_of% @List.getElem?_append_left:=@List.getElem?_append_left
def Uz:type_of% @List.map_nil:=@List.map_nil
def UB:type_of% @Nat.le_trans:=@Nat.le_trans
def UE:type_of% @Nat.add_mul:=@Nat.add_mul
def UF:type_of% @Option.getD_some:=@Option.getD_some
def UG:type_of% @List.length_nil:=@List.length_nil
def UH:type_of% @List.mem_map:=@List.mem_map
def UI:type_of% @Bool.cond_decide:=@Bool.cond_decide
def UJ:type_of% @List.mem_filter:=@List.mem_filter
def UK:type_of% @List.mem_or_eq_of_mem_set:=@List.mem_or_eq_of_mem_set
def UM:type_of% @Nat.min_self:=@Nat.min_self
def UN:type_of% @List.getElem?_append:=@List.getElem?_append
def UO:type_of% @Int.mul_le_mul_of_nonneg_right:=@Int.mul_le_mul_of_nonneg_right
def UP:type_of% @List.filter_cons_of_neg:=@List.filter_cons_of_neg
def UQ:type_of% @List.mem_cons:=@List.mem_cons
def US:type_of% @Bool.false_eq_true:=@Bool.false_eq_true
def UT:type_of% @List.mem_singleton:=@List.mem_singleton
def UU:type_of% @List.getElem?_toArray:=@List.getElem?_toArray
def UW:type_of% @List.getElem?_append_right:=@List.getElem?_append_right
def UX:type_of% @List.prefix_refl:=@List.prefix_refl
def UY:type_of% @List.filter_cons_of_pos:=@List.filter_cons_of_pos
def UZ:type_of% @Bool.false_or:=@Bool.false_or
def U2:type_of% @List.all_cons:=@List.all_cons
def U5:type_of% @Int.toNat_natCast:=@Int.toNat_natCast
def Ia:type_of% @List.cons_append:=@List.cons_append
def Ib:type_of% @Array.getElem?_eq_none:=@Array.getElem?_eq_none
def Ic:type_of% @Option.bind_some:=@Option.bind_some
def Ie:type_of% @List.pairwise_iff_getElem:=@List.pairwise_iff_getElem
def If:type_of% @Array.length_toList:=@Array.length_toList
def Ig:type_of% @List.any_eq_false:=@List.any_eq_false
def Ih:type_of% @Array.getElem?_toList:=@Array.getElem?_toList
def Ii:type_of% @List.contains_iff_mem:=@List.contains_iff_mem
def Ij:type_of% @Nat.succ_mul:=@Nat.succ_mul
def Ik:type_of% @List.any_eq_true:=@List.any_eq_true
def Il:type_of% @Int.eq_ofNat_of_zero_le:=@Int.eq_ofNat_of_zero_le
def Im:type_of% @Nat.add_zero:=@Nat.add_zero
def In:type_of% @List.take_of_length_le:=@List.take_of_length_le
def Io:type_of% @Int.tdiv_eq_ediv_of_nonneg:=@Int.tdiv_eq_ediv_of_nonneg
def Ip:type_of% @Bool.or_eq_true:=@Bool.or_eq_true
def Iq:type_of% @List.mem_of_find?_eq_some:=@List.mem_of_find?_eq_some
def Ir:type_of% @Nat.div_lt_iff_lt_mul:=@Nat.div_lt_iff_lt_mul
def Is:type_of% @List.getElem?_set:=@List.getElem?_set
def Iu:type_of% @List.nodup_append:=@List.nodup_append
def Iv:type_of% @Option.map_some:=@Option.map_some
def Iw:type_of% @List.append_nil:=@List.append_nil
def Ix:type_of% @List.getElem?_range:=@List.getElem?_range
def Iy:type_of% @List.take_succ_cons:=@List.take_succ_cons
def Iz:type_of% @beq_eq_false_iff_ne:=@beq_eq_false_iff_ne
def IC:type_of% @Nat.lt_irrefl:=@Nat.lt_irrefl
def IE:type_of% @List.nodup_iff_pairwise_ne:=@List.nodup_iff_pairwise_ne
def IF:type_of% @Bool.and_false:=@Bool.and_false
def IG:type_of% @Int.tmod_eq_emod_of_nonneg:=@Int.tmod_eq_emod_of_nonneg
def IH:type_of% @List.zip_cons_cons:=@List.zip_cons_cons
def IJ:type_of% @List.map_append:=@List.map_append
def IK:type_of% @List.all_append:=@List.all_append
def IL:type_of% @List.getElem?_map:=@List.getElem?_map
def IM:type_of% @Nat.le_succ_of_le:=@Nat.le_succ_of_le
def IN:type_of% @Nat.add_assoc:=@Nat.add_assoc
def IP:type_of% @List.filter_eq_self:=@List.filter_eq_self
def IQ:type_of% @List.length_zipWith:=@List.length_zipWith
def IR:type_of% @Bool.not_eq_true:=@Bool.not_eq_true
def IS:type_of% @Nat.add_sub_cancel_left:=@Nat.add_sub_cancel_left
def IT:type_of% @List.getElem?_replicate:=@List.getElem?_replicate
def IU:type_of% @Int.add_mul:=@Int.add_mul
def IX:type_of% @List.mem_cons_self:=@List.mem_cons_self
def IY:type_of% @Bool.true_or:=@Bool.true_or
def IZ:type_of% @Nat.add_sub_cancel:=@Nat.add_sub_cancel
def I4:type_of% @List.foldl_cons:=@List.foldl_cons
def I5:type_of% @Bool.and_true:=@Bool.and_true
def I6:type_of% @List.cons.inj:=@List.cons.inj
def I7:type_of% @List.take_append_drop:=@List.take_append_drop
def I8:type_of% @List.ext_getElem?:=@List.ext_getElem?
def I9:type_of% @List.pairwise_append:=@List.pairwise_append
def Oa:type_of% @List.nodup_nil:=@List.nodup_nil
def Oc:type_of% @List.mem_toArray:=@List.mem_toArray
def Od:type_of% @List.filter_cons:=@List.filter_cons
def Oh:type_of% @Nat.min_eq_left:=@Nat.min_eq_left
def Oj:type_of% @Int.one_mul:=@Int.one_mul
def Om:type_of% @Int.mul_comm:=@Int.mul_comm
def On:type_of% @Nat.mod_lt:=@Nat.mod_lt
inductive Ex (α β:Type) where
 | ret (a:α)
 | nxt (b:β)
def exK {α β γ:Type} (e:Ex α β) (f:α->γ) (k:β->γ):γ:=match e with
 | .ret a=>f a
 | .nxt b=>k b
def bnd {α β:Type} (o:Option α) (f:α->Option β):Option β:=o.bind f
def grd {α:Type} (p:Prop) [Decidable p] (x:Option α):Option α:=if p then x else none
def jn {κ γ:Type} (k:κ) (f:κ->γ):γ:=f k
def Xb {α:Type} (l:List α) (i:Int):Option α:=if 0<=i then l[i.toNat]? else none
def wI (n:Int):Int:=IntKind.wrap .i64 n
def wU (n:Int):Int:=IntKind.wrap .u64 n
def wW (n:Int):Int:=IntKind.wrap .u32 n
def YF (k:IntKind) (a b:Int):Int:=k.wrap (BitVec.ofInt k.bits a &&& BitVec.ofInt k.bits b).toNat
def bOr (k:IntKind) (a b:Int):Int:=k.wrap (BitVec.ofInt k.bits a ||| BitVec.ofInt k.bits b).toNat
def XmC (k:IntKind) (a b:Int):Int:=k.wrap (BitVec.ofInt k.bits a ^^^ BitVec.ofInt k.bits b).toNat
def Xhg (k:IntKind) (a b:Int):Int:=k.wrap (BitVec.ofInt k.bits a &&& ~~~ BitVec.ofInt k.bits b).toNat
def K4 (k:IntKind) (a b:Int):Int:=k.wrap (a*2 ^ min b.toNat k.bits)
def Yf (k:IntKind) (a b:Int):Int:=a.fdiv (2 ^ min b.toNat k.bits)
def XeK {α β:Type} {o:Option α} {f:α->Option β} {r:β} (h:bnd o f=some r):∃ y,o=some y/\f y=some r:=by
 cases o with
 | none=>cases h
 | some y=>exact ⟨y,rfl,h⟩
def XeL {α:Type} {p:Prop} [Decidable p] {x:Option α} {r:α} (h:grd p x=some r):p/\x=some r:=by
 unfold grd at h
 by_cases hp:p
 ·rw[Wn hp] at h;exact ⟨hp,h⟩
 ·rw[Wm hp] at h;cases h
def XcZ {α β:Type} {G:Prop} {o:Option α} {f:α->Option β} {r:β} (h:bnd o f=some r) (k:∀ y,o=some y->f y=some r->G):G:=(XeK h).elim λ y hy=>k y hy.1 hy.2
def XqC {α β:Type} {G:Prop} {o:Option α} {f:α->Option β} {r:β} {y:α} (h:bnd o f=some r) (hy:o=some y) (k:o=some y->f y=some r->G):G:=by
 obtain ⟨z,hz,hr⟩:=XeK h
 obtain rfl:y=z:=Ug (hy.symm.trans hz)
 exact k hy hr
def XqD {α:Type} {G p:Prop} [Decidable p] {x:Option α} {r:α} (h:grd p x=some r) (k:p->x=some r->G):G:=k (XeL h).1 (XeL h).2
def XsJ {κ α:Type} {G:Prop} {k:κ} {f:κ->Option α} {r:α} (h:jn k f=some r) (g:f k=some r->G):G:=g h
def XqE {α β γ:Type} {G:Prop} {b:β} {f:α->Option γ} {k:β->Option γ} {r:γ} (h:exK (.nxt b) f k=some r) (g:k b=some r->G):G:=g h
def XqF {α β γ:Type} {G:Prop} {a:α} {f:α->Option γ} {k:β->Option γ} {r:γ} (h:exK (.ret a) f k=some r) (g:f a=some r->G):G:=g h
def Xo {α:Type} {G:Prop} {x r:α} (h:some x=some r) (k:x=r->G):G:=k (Ug h)
def Yw {α:Type} {G:Prop} {r:α} (h:none=some r):G:=by cases h
def XdJ {α:Type} {l:List α} {i:Int} {p:α} (h:Xb l i=some p):0<=i/\i<l.length:=by
 unfold Xb at h
 split at h
 ·rename_i h0
  obtain ⟨h1,_⟩:=List.getElem?_eq_some_iff.1 h
  exact ⟨h0,by omega⟩
 ·cases h
def XdK {α:Type} {l:List α} {i:Int} {p:α} (h:Xb l i=some p):i.toNat<l.length:=by
 have:=XdJ h
 omega
def XdL {α β:Type} {l:List α} {i:Int} {p:α} (h:Xb l i=some p) (e:α->List β):(l.map e).getD i.toNat []=e p:=by
 unfold Xb at h
 split at h
 ·simp only[List.getD,IL,h,Iv,UF]
 ·cases h
def Yk {α:Type} {l:List α} {i n:Int} {b:Prop} {β:Type} {f:α->Option β} {r:β} (hr:bnd (Xb l i) f=some r) (hn:(l.length:Int)=n)
 (k:∀ p,Xb l i=some p->i.toNat<l.length->(∀ (γ:Type) (e:α->List γ),(l.map e).getD i.toNat []=e p)->f p=some r->b):(0<=i/\i<n)/\b :=
 XcZ hr λ p hp hr=>⟨hn▸XdJ hp,k p hp (XdK hp) (λ _ e=>XdL hp e) hr⟩
def Yn {α:Type} {l:List α} {i n:Int} {b:Prop} {β:Type} {f:α->Option β} {r:β} {p:α} (hr:bnd (Xb l i) f=some r) (hp:Xb l i=some p) (hn:(l.length:Int)=n)
 (k:Xb l i=some p->i.toNat<l.length->(∀ (γ:Type) (e:α->List γ),(l.map e).getD i.toNat []=e p)->f p=some r->b):(0<=i/\i<n)/\b :=
 XqC hr hp λ hp hr=>⟨hn▸XdJ hp,k hp (XdK hp) (λ _ e=>XdL hp e) hr⟩
def XqG {α:Type} {l:List α} {i n:Int} {b:Prop} {β:Type} {f:α->Option β} {r:β} (hr:bnd (Xb l i) f=some r) (hn:(l.length:Int)=n)
 (k:∀ p,Xb l i=some p->i.toNat<l.length->(∀ (γ:Type) (e:α->List γ),(l.map e).getD i.toNat []=e p)->f p=some r->b):i<n/\b :=
 XcZ hr λ p hp hr=>⟨(hn▸XdJ hp).2,k p hp (XdK hp) (λ _ e=>XdL hp e) hr⟩
attribute [irreducible] bnd grd jn exK Xb
def mG:List (Int×Int)->Int->Option Int
 | [],_=>none
 | (x,d)::es,n=>if n=x then some d else mG es n
inductive D where
 | any
 | v (x:Value)
 | agg (cs:List D)
 | tup (cs:List D)
 | nsl
 | isl (E z:Nat) (es:List (List D))
 | osl (id ver z off len:Nat)
 | ept (id ver z i c:Nat)
 | ipt (z:Nat) (cs:List D) (c:Nat)
 | clo (fn:Fn) (first caps:List D)
 | ifc (t:TypeId) (d:D)
 | fsl (E z:Nat) (es:List (List D))
 | omp (id ver:Nat)
 | fmp (k:IntKind) (ks:List Int) (vs:List D)
 deriving Inhabited
abbrev Mem:=Nat->Nat->Option Value
abbrev Loc:=Nat->Nat->Option (Option (Nat×Nat))
def Yj:Loc:=λ _ _=>none
def Xn:Nat:=140737488355328
def wfV:Value->Prop
 | .int k n=>k.min<=n/\n<=k.max
 | .agg _=>False
 | _=>True
mutual
def Rep (P:Program) (M:Mem):Loc->D->Value->Prop
 | _,.any,_=>True
 | _,.v x,y=>y=x/\wfV x
 | β,.agg cs,y=>∃ vs,y=.agg ⟨vs⟩/\RepL P M β cs vs
 | β,.tup cs,y=>∃ vs,y=.tuple ⟨vs⟩/\RepL P M β cs vs
 | _,.nsl,y=>∃ a,y=.slice a 0 0
 | _,.isl E z es,y=>(∀ e∈es,e.length=z)/\es.length<=Xn/\es.length*P.bytesOf E<=Xn /\
  ∃ a cap,y=.slice a es.length cap/\es.length<=cap/\(es=[]\/∃ b o,a=some ⟨b,o,none⟩/\RepE P M es b o)
 | β,.osl id ver z off len,y=>(β id ver=some none/\off=0/\len=0/\∃ a,y=.slice a 0 0) \/
  ∃ b cb o cap,β id ver=some (some (b,cb))/\y=.slice (some ⟨b,o,none⟩) len cap/\len<=cap/\off+cap=cb/\(o=off*z\/cap=0)
 | β,.ept id ver z i c,y=>∃ b cb,β id ver=some (some (b,cb))/\y=.pointer (some ⟨b,i*z+c,none⟩)
 | _,.ipt z cs c,y=>cs.length=z/\∃ b o,y=.pointer (some ⟨b,o+c,none⟩)/\RepC P M cs b o
 | β,.clo fn fs cs,y=>∃ a b,y=.func fn ⟨a⟩ ⟨b⟩/\RepL P M β fs a/\RepL P M β cs b
 | β,.ifc t d,y=>∃ x,y=.iface t x/\Rep P M β d x
 | _,.fsl _ _ _,_=>False
 | _,.fmp _ _ _,_=>False
 | β,.omp id ver,y=>∃ b cb,β id ver=some (some (b,cb))/\y=.map (some b)
def RepL (P:Program) (M:Mem):Loc->List D->List Value->Prop
 | _,[],vs=>vs=[]
 | β,d::ds,vs=>∃ x xs,vs=x::xs/\Rep P M β d x/\RepL P M β ds xs
def RepC (P:Program) (M:Mem):List D->Nat->Nat->Prop
 | [],_,_=>True
 | d::ds,b,o=>(∃ x,M b o=some x/\Rep P M Yj d x)/\RepC P M ds b (o+1)
def RepE (P:Program) (M:Mem):List (List D)->Nat->Nat->Prop
 | [],_,_=>True
 | ds::es,b,o=>RepC P M ds b o/\RepE P M es b (o+ds.length)
end
def MLe (M M':Mem):Prop:=∀ b o x,M b o=some x->M' b o=some x
def BLe (β β':Loc):Prop:=∀ i k x,β i k=some x->β' i k=some x
def MLe.refl (M:Mem):MLe M M:=λ _ _ _ h=>h
def BLe.refl (β:Loc):BLe β β:=λ _ _ _ h=>h
def MLe.trans {a b c:Mem} (h:MLe a b) (k:MLe b c):MLe a c:=λ _ _ _ e=>k _ _ _ (h _ _ _ e)
def BLe.trans {a b c:Loc} (h:BLe a b) (k:BLe b c):BLe a c:=λ _ _ _ e=>k _ _ _ (h _ _ _ e)
def BLe.zero (β:Loc):BLe Yj β:=λ _ _ _ h=>by cases h
variable {P:Program}
mutual
def Rep.mono {M M':Mem} {β β':Loc} (hM:MLe M M') (hB:BLe β β'):∀ {d:D} {y:Value},Rep P M β d y->Rep P M' β' d y
 | .any,_,_=>by simp[Rep]
 | .v x,y,h=>by simpa [Rep] using h
 | .agg cs,y,h=>by
  simp only[Rep] at h ⊢
  obtain ⟨vs,e,h⟩:=h
  exact ⟨vs,e,RepL.mono hM hB h⟩
 | .tup cs,y,h=>by
  simp only[Rep] at h ⊢
  obtain ⟨vs,e,h⟩:=h
  exact ⟨vs,e,RepL.mono hM hB h⟩
 | .nsl,y,h=>by simpa [Rep] using h
 | .isl E z es,y,h=>by
  simp only[Rep] at h ⊢
  obtain ⟨h1,h2,h3,a,cap,e,hle,h⟩:=h
  refine ⟨h1,h2,h3,a,cap,e,hle,?_⟩
  rcases h with h | ⟨b,o,e',h⟩
  ·exact .inl h
  ·exact .inr ⟨b,o,e',RepE.mono hM h⟩
 | .osl id ver z off len,y,h=>by
  simp only[Rep] at h ⊢
  rcases h with ⟨h1,h2⟩ | ⟨b,cb,o,cap,h1,h2⟩
  ·exact .inl ⟨hB _ _ _ h1,h2⟩
  ·exact .inr ⟨b,cb,o,cap,hB _ _ _ h1,h2⟩
 | .ept id ver z i c,y,h=>by
  simp only[Rep] at h ⊢
  obtain ⟨b,cb,h1,h2⟩:=h
  exact ⟨b,cb,hB _ _ _ h1,h2⟩
 | .ipt z cs c,y,h=>by
  simp only[Rep] at h ⊢
  obtain ⟨hz,b,o,e,h⟩:=h
  exact ⟨hz,b,o,e,RepC.mono hM h⟩
 | .clo fn fs cs,y,h=>by
  simp only[Rep] at h ⊢
  obtain ⟨a,b,e,h1,h2⟩:=h
  exact ⟨a,b,e,RepL.mono hM hB h1,RepL.mono hM hB h2⟩
 | .ifc t d,y,h=>by
  simp only[Rep] at h ⊢
  obtain ⟨x,e,h⟩:=h
  exact ⟨x,e,Rep.mono hM hB h⟩
 | .fsl _ _ _,y,h=>by simp[Rep] at h
 | .fmp _ _ _,y,h=>by simp[Rep] at h
 | .omp id ver,y,h=>by
  simp only[Rep] at h ⊢
  obtain ⟨b,cb,h1,h2⟩:=h
  exact ⟨b,cb,hB _ _ _ h1,h2⟩
def RepL.mono {M M':Mem} {β β':Loc} (hM:MLe M M') (hB:BLe β β'):∀ {ds:List D} {vs:List Value},RepL P M β ds vs->RepL P M' β' ds vs
 | [],_,h=>by simpa [RepL] using h
 | d::ds,vs,h=>by
  simp only[RepL] at h ⊢
  obtain ⟨x,xs,e,h1,h2⟩:=h
  exact ⟨x,xs,e,Rep.mono hM hB h1,RepL.mono hM hB h2⟩
def RepC.mono {M M':Mem} (hM:MLe M M'):∀ {ds:List D} {b o:Nat},RepC P M ds b o->RepC P M' ds b o
 | [],_,_,_=>by simp[RepC]
 | d::ds,b,o,h=>by
  simp only[RepC] at h ⊢
  obtain ⟨⟨x,e,h1⟩,h2⟩:=h
  exact ⟨⟨x,hM _ _ _ e,Rep.mono hM (BLe.refl _) h1⟩,RepC.mono hM h2⟩
def RepE.mono {M M':Mem} (hM:MLe M M'):∀ {es:List (List D)} {b o:Nat},RepE P M es b o->RepE P M' es b o
 | [],_,_,_=>by simp[RepE]
 | ds::es,b,o,h=>by
  simp only[RepE] at h ⊢
  exact ⟨RepC.mono hM h.1,RepE.mono hM h.2⟩
end
def RepL.length {M:Mem} {β:Loc}:∀ {ds:List D} {vs:List Value},RepL P M β ds vs->vs.length=ds.length
 | [],_,h=>by simp[RepL] at h;simp[h]
 | d::ds,vs,h=>by
  simp only[RepL] at h
  obtain ⟨x,xs,rfl,_,h2⟩:=h
  simp[RepL.length h2]
def RepL.get {M:Mem} {β:Loc}:∀ {ds:List D} {vs:List Value},RepL P M β ds vs->∀ (i:Nat) (d:D),ds[i]? = some d->∃ x,vs[i]? = some x/\Rep P M β d x
 | [],_,_,i,d,hd=>by simp at hd
 | e::ds,vs,h,i,d,hd=>by
  simp only[RepL] at h
  obtain ⟨x,xs,rfl,h1,h2⟩:=h
  cases i with
  | zero=>simp at hd;subst hd;exact ⟨x,by simp,h1⟩
  | succ i=>simp at hd;simpa using RepL.get h2 i d hd
def RepL.of {M:Mem} {β:Loc}:∀ {ds:List D} {vs:List Value},vs.length=ds.length->(∀ (i:Nat) (d:D) (x:Value),ds[i]? = some d->vs[i]? = some x->Rep P M β d x)->RepL P M β ds vs
 | [],vs,hl,_=>by simp at hl;simp[RepL,hl]
 | d::ds,vs,hl,h=>by
  cases vs with
  | nil=>simp at hl
  | cons x xs =>
   simp only[RepL]
   exact ⟨x,xs,rfl,h 0 d x (by simp) (by simp),RepL.of (by simpa using hl) λ (i:Nat) d' x' hd hx=>h (i+1) d' x' (by simpa using hd) (by simpa using hx)⟩
def RepL.append {M:Mem} {β:Loc} {ds es:List D} {vs xs:List Value} (h:RepL P M β ds vs) (k:RepL P M β es xs):RepL P M β (ds++es) (vs++xs):=by
 induction ds generalizing vs with
 | nil=>simp[RepL] at h;simpa [h] using k
 | cons d ds ih =>
  simp only[RepL] at h
  obtain ⟨x,ys,rfl,h1,h2⟩:=h
  simp only[Ia,RepL]
  exact ⟨x,ys++xs,rfl,h1,ih h2⟩
def RepC.get {M:Mem}:∀ {ds:List D} {b o:Nat},RepC P M ds b o->∀ (i:Nat) (d:D),ds[i]? = some d->∃ x,M b (o+i)=some x/\Rep P M Yj d x
 | [],_,_,_,i,d,hd=>by simp at hd
 | e::ds,b,o,h,i,d,hd=>by
  simp only[RepC] at h
  obtain ⟨⟨x,e1,h1⟩,h2⟩:=h
  cases i with
  | zero=>simp at hd;subst hd;exact ⟨x,by simpa using e1,h1⟩
  | succ i =>
   simp at hd
   obtain ⟨y,hy,hr⟩:=RepC.get h2 i d hd
   exact ⟨y,by rw[← hy];congr 1;omega,hr⟩
def RepC.of {M:Mem}:∀ {ds:List D} {b o:Nat},(∀ (i:Nat) (d:D),ds[i]? = some d->∃ x,M b (o+i)=some x/\Rep P M Yj d x)->RepC P M ds b o
 | [],_,_,_=>by simp[RepC]
 | e::ds,b,o,h=>by
  simp only[RepC]
  refine ⟨by simpa using h 0 e (by simp),RepC.of λ (i:Nat) d hd=>?_⟩
  obtain ⟨x,hx,hr⟩:=h (i+1) d (by simpa using hd)
  exact ⟨x,by rw[← hx];congr 1;omega,hr⟩
def RepE.get {M:Mem} {z:Nat}:∀ {es:List (List D)} {b o:Nat},(∀ e∈es,e.length=z)->RepE P M es b o->∀ (i:Nat) (e:List D),es[i]? = some e->RepC P M e b (o+i*z)
 | [],_,_,_,_,i,e,he=>by simp at he
 | d::es,b,o,hz,h,i,e,he=>by
  simp only[RepE] at h
  cases i with
  | zero=>simp at he;subst he;simpa using h.1
  | succ i =>
   simp at he
   have h1:=RepE.get (λ e' h'=>hz e' (by simp[h'])) h.2 i e he
   have h2:d.length=z:=hz d (by simp)
   rw[h2] at h1
   have:o+z+i*z=o+(i+1)*z:=by rw[Ij];omega
   rwa[this] at h1
def RepE.of {M:Mem} {z:Nat}:∀ {es:List (List D)} {b o:Nat},(∀ e∈es,e.length=z)->(∀ (i:Nat) (e:List D),es[i]? = some e->RepC P M e b (o+i*z))->RepE P M es b o
 | [],_,_,_,_=>by simp[RepE]
 | d::es,b,o,hz,h=>by
  simp only[RepE]
  refine ⟨by simpa using h 0 d (by simp),RepE.of (z:=z) (λ e' h'=>hz e' (by simp[h'])) λ (i:Nat) e he=>?_⟩
  have h1:=h (i+1) e (by simpa using he)
  have h2:d.length=z:=hz d (by simp)
  rw[h2]
  have:o+z+i*z=o+(i+1)*z:=by rw[Ij];omega
  rwa[this]
mutual
def Wf (P:Program):D->Prop
 | .v x=>wfV x
 | .agg cs=>WfL P cs
 | .tup cs=>WfL P cs
 | .isl E z es=>(∀ e∈es,e.length=z)/\es.length<=Xn/\es.length*P.bytesOf E<=Xn/\WfE P es
 | .ipt _ cs _=>WfL P cs
 | _=>True
def WfL (P:Program):List D->Prop
 | []=>True
 | d::ds=>Wf P d/\WfL P ds
def WfE (P:Program):List (List D)->Prop
 | []=>True
 | e::es=>WfL P e/\WfE P es
end
mutual
def Rep.wf {M:Mem} {β:Loc}:∀ {d:D} {y:Value},Rep P M β d y->Wf P d
 | .any,_,_=>by simp[Wf]
 | .v x,y,h=>by simp only[Rep] at h;simp only[Wf];exact h.2
 | .agg cs,y,h=>by
  simp only[Rep] at h
  obtain ⟨vs,_,h⟩:=h
  simp only[Wf];exact RepL.wf h
 | .tup cs,y,h=>by
  simp only[Rep] at h
  obtain ⟨vs,_,h⟩:=h
  simp only[Wf];exact RepL.wf h
 | .nsl,_,_=>by simp[Wf]
 | .isl E z es,y,h=>by
  simp only[Rep] at h
  obtain ⟨h1,h2,h3,a,cap,_,_,h⟩:=h
  simp only[Wf]
  refine ⟨h1,h2,h3,?_⟩
  rcases h with rfl | ⟨b,o,_,h⟩
  ·simp[WfE]
  ·exact RepE.wf h
 | .osl ..,_,_=>by simp[Wf]
 | .ept ..,_,_=>by simp[Wf]
 | .ipt z cs c,y,h=>by
  simp only[Rep] at h
  obtain ⟨_,b,o,_,h⟩:=h
  simp only[Wf];exact RepC.wf h
 | .clo ..,_,_=>by simp[Wf]
 | .ifc ..,_,_=>by simp[Wf]
 | .fsl ..,_,_=>by simp[Wf]
 | .fmp ..,_,_=>by simp[Wf]
 | .omp ..,_,_=>by simp[Wf]
def RepL.wf {M:Mem} {β:Loc}:∀ {ds:List D} {vs:List Value},RepL P M β ds vs->WfL P ds
 | [],_,_=>by simp[WfL]
 | d::ds,vs,h=>by
  simp only[RepL] at h
  obtain ⟨x,xs,_,h1,h2⟩:=h
  simp only[WfL];exact ⟨Rep.wf h1,RepL.wf h2⟩
def RepC.wf {M:Mem}:∀ {ds:List D} {b o:Nat},RepC P M ds b o->WfL P ds
 | [],_,_,_=>by simp[WfL]
 | d::ds,b,o,h=>by
  simp only[RepC] at h
  obtain ⟨⟨x,_,h1⟩,h2⟩:=h
  simp only[WfL];exact ⟨Rep.wf h1,RepC.wf h2⟩
def RepE.wf {M:Mem}:∀ {es:List (List D)} {b o:Nat},RepE P M es b o->WfE P es
 | [],_,_,_=>by simp[WfE]
 | e::es,b,o,h=>by
  simp only[RepE] at h
  simp only[WfE];exact ⟨RepC.wf h.1,RepE.wf h.2⟩
end
inductive Ob where
 | arr (bx:Bool) (E z:Nat) (es:List (List D)) (fz:Nat)
 | mp (k:IntKind) (es:List (Int×D))
 | raw (o:Obj)
 deriving Inhabited
def Ob.bx:Ob->Bool
 | .arr b _ _ _ _=>b
 | .mp ..=>false
 | .raw _=>false
def XbG (bx:Bool) (β:Loc):Loc:=if bx then β else Yj
def XmD (bx:Bool) (β:Loc):BLe (XbG bx β) β:=by
 cases bx
 ·exact BLe.zero β
 ·exact BLe.refl β
def Xc0 (bx:Bool) {β β':Loc} (h:BLe β β'):BLe (XbG bx β) (XbG bx β'):=by
 cases bx
 ·exact BLe.refl _
 ·exact h
def EntL (P:Program) (M:Mem) (k:IntKind):List MapEntry->List (Int×D)->Prop
 | [],es=>es=[]
 | e::l,es=>∃ x d es',es=(x,d)::es'/\e.key=.int k x/\Rep P M Yj d e.val/\EntL P M k l es'
def EntL.mono {P:Program} {M M':Mem} (hM:MLe M M') {k:IntKind}:∀ {l:List MapEntry} {es:List (Int×D)},EntL P M k l es->EntL P M' k l es
 | [],_,h=>h
 | e::l,es,⟨x,d,es',h1,h2,h3,h4⟩=>⟨x,d,es',h1,h2,h3.mono hM (BLe.refl _),EntL.mono hM h4⟩
def EntL.length {P:Program} {M:Mem} {k:IntKind}:∀ {l:List MapEntry} {es:List (Int×D)},EntL P M k l es->l.length=es.length
 | [],_,h=>by simp only[EntL] at h;subst h;rfl
 | e::l,es,⟨x,d,es',h1,h2,h3,h4⟩=>by subst h1;simp[EntL.length h4]
def ObRep (P:Program) (M:Mem) (β:Loc) (w:World):Option (Nat×Nat)->Ob->Prop
 | none,.arr bx _ _ es fz=>bx=false/\es=[]/\fz=0
 | some (b,cb),.arr bx E z es fz=>∃ cs T,w.heap[b]? = some (.cells cs T (0,0))/\cs.size=cb*z/\(∀ e∈es,e.length=z)/\es.length<=cb /\
  es.length<=Xn/\es.length*P.bytesOf E<=Xn/\fz<=es.length/\(∀ x∈cs,x.oneCell'=true) /\
  (∀ o,M b o=if o<fz*z then cs[o]? else none)/\∀ (i:Nat) (d:D),es.flatten[i]? = some d->∃ x,cs[i]? = some x/\Rep P M (XbG bx β) d x
 | some (b,cb),.mp k es=>cb=0/\es.length<=Xn/\(∀ o,M b o=none)/\∃ ents clock,w.heap[b]? = some (.map ents clock)/\EntL P M k ents.toList es /\
  (ents.toList.map (·.born)).Pairwise (·<·)/\∀ e∈ents.toList,e.born<clock
 | some (b,cb),.raw o=>cb=0/\(∀ i,M b i=none)/\w.heap[b]? = some o
 | _,_=>False
def MemOK (M:Mem) (w:World):Prop:=∀ b o x,M b o=some x->w.cell? ⟨b,o,none⟩=some x/\x.oneCell'=true
inductive OQ where
 | struct (fs:List (Nat×Nat×Nat))
 | array (n e sz:Nat)
 | slice (e sz:Nat)
 | int (k:IntKind)
 | bool
 | str
 | iface
 | other
structure Ou where
 size:Nat
 bytes:Nat
 zero:Value
 k:OQ
def Ou.isAgg (t:Ou):Bool:=match t.k with | .struct _ | .array _ _ _=>true | _=>false
def Ou.isIface (t:Ou):Bool:=match t.k with | .iface=>true | _=>false
def JP (P:Program):TypeDesc->OQ
 | .struct fs=>.struct (fs.toList.map λ f=>(f.offset,P.cellsOf f.type,f.type))
 | .array n e=>.array n e (P.cellsOf e)
 | .slice e=>.slice e (P.cellsOf e)
 | .int k=>.int k
 | .bool=>.bool
 | .string=>.str
 | .interface _=>.iface
 | _=>.other
def XjF (P:Program):TypeDesc->Bool
 | .struct fs=>fs.toList.all (λ f=>((P.info? f.type).map (·.size)).isSome)
 | _=>true
def Xm (P:Program) (t:TypeId):Option Ou :=
 match P.info? t,P.underlying t with
 | some i,some d=>match i.zero with
  | some z=>if XjF P d then some ⟨i.size,i.bytes,z,JP P d⟩ else none
  | none=>none
 | _,_=>none
def upd {α:Type} (f:Nat->α) (i:Nat) (x:α):Nat->α:=λ j=>if j=i then x else f j
def Yt {α:Type} (f:Nat->α) (i:Nat) (x:α):upd f i x i=x:=by simp[upd]
def X2 {α:Type} (f:Nat->α) (i j:Nat) (x:α) (h:j≠i):upd f i x j=f j:=by simp[upd,h]
def okV:Value->Bool
 | .int k n=>decide (k.min<=n)&&decide (n<=k.max)
 | .agg _=>false
 | _=>true
def Xio {x:Value} (h:okV x=true):wfV x:=by
 cases x<;>simp_all[okV,wfV]
def XjG:Value->D
 | .slice none 0 0=>.nsl
 | x=>if okV x then .v x else .any
def ofV:Value->D
 | .agg cs=>.agg (cs.toList.map XjG)
 | x=>XjG x
def ev (t:Nat->D) (G:Nat->Option (List D)):Operand->D
 | .tmp i=>t i
 | .const x=>ofV x
 | .global g=>match G g with | some cs=>.ipt cs.length cs 0 | none=>.any
 | .func f=>.clo (.func f) [] []
def D.one:D->Bool
 | .any | .agg _ | .tup _ | .fsl _ _ _ | .fmp _ _ _=>false
 | .v x=>x.oneCell'
 | _=>true
def D.cells:D->Option (List D)
 | .agg cs=>if cs.all D.one then some cs else none
 | d=>if d.one then some [d] else none
def ZU (e:List D) (c:Nat) (cs:List D):List D:=e.take c++cs++e.drop (c+cs.length)
abbrev Heap:=Nat->Option (Nat×Ob)
abbrev Up:=List (Nat×Nat×Ob)
def app (s:Heap):Up->Heap
 | []=>s
 | (i,v,o)::u=>app (upd s i (some (v,o))) u
mutual
def snap (s:Heap):D->Option (Prop×D×List Nat)
 | .osl id ver z off len=>match s id with
  | some (ver',.arr false E z' es _)=>if ver=ver'/\z=z' then some (off+len<=es.length,.isl E z ((es.drop off).take len),[id]) else none
  | _=>none
 | .agg cs=>match Z7 s cs with
  | some (c,ds,l)=>some (c,.agg ds,l)
  | none=>none
 | .tup cs=>match Z7 s cs with
  | some (c,ds,l)=>some (c,.tup ds,l)
  | none=>none
 | .clo fn a b=>match Z7 s a,Z7 s b with
  | some (c,a',l),some (c',b',l')=>some (c/\c',.clo fn a' b',l++l')
  | _,_=>none
 | .ifc t d=>match snap s d with
  | some (c,e,l)=>some (c,.ifc t e,l)
  | none=>none
 | .any=>some (True,.any,[])
 | .v x=>some (True,.v x,[])
 | .nsl=>some (True,.nsl,[])
 | .isl E z es=>some (True,.isl E z es,[])
 | .ipt z cs c=>some (True,.ipt z cs c,[])
 | _=>none
def Z7 (s:Heap):List D->Option (Prop×List D×List Nat)
 | []=>some (True,[],[])
 | d::ds=>match snap s d,Z7 s ds with
  | some (c,e,l),some (c',es,l')=>some (c/\c',e::es,l++l')
  | _,_=>none
end
def K9 (s:Heap):List (Nat×D)->Option (Prop×List (Nat×D)×List Nat)
 | []=>some (True,[],[])
 | (i,d)::ds=>match snap s d,K9 s ds with
  | some (c,e,l),some (c',es,l')=>some (c/\c',(i,e)::es,l++l')
  | _,_=>none
def XbH:Nat×Ob->Nat×Ob
 | (v,.arr false E z es _)=>(v,.arr false E z es es.length)
 | x=>x
def VI (s:Heap):List Nat->Up
 | []=>[]
 | i::l=>match s i with
  | some x=>(i,XbH x)::VI s l
  | none=>VI s l
def XdM (s:Heap):D->Option (Prop×List D×Nat×Nat)
 | .ipt z cs c=>some (True,cs,c,z)
 | .ept id ver z i c=>match s id with
  | some (ver',.arr _ _ z' es _)=>if ver=ver'/\z=z' then some (i<es.length,es.getD i [],c,z) else none
  | _=>none
 | _=>none
def Ja (ty:Ou):Option (List D):=(ofV ty.zero).cells
def elems (s:Heap) (z:Nat):D->Option (Prop×List (List D))
 | .nsl=>some (True,[])
 | .v (.slice _ 0 _)=>some (True,[])
 | .isl _ z' es=>if z=z' then some (True,es) else none
 | .osl id ver z' off len=>match s id with
  | some (ver',.arr false _ z'' es _)=>if ver=ver'/\z=z'/\z'=z'' then some (off+len<=es.length,(es.drop off).take len) else none
  | _=>none
 | _=>none
def ZV (isAgg:Bool) (cs:List D):D:=if isAgg then .agg cs else cs.headD .any
def XbI (place:Nat->Option (Nat×Nat)):List D->List (Nat×D)->Option (List D)
 | cs,[]=>some cs
 | cs,(i,d)::rest=>match place i,d.cells with
  | some (off,sz),some ds=>if ds.length=sz/\off+sz<=cs.length then XbI place (ZU cs off ds) rest else none
  | _,_=>none
def XbJ (z:Nat):List (List D)->List (Nat×D)->Option (List (List D))
 | es,[]=>some es
 | es,(i,d)::rest=>match d.cells with
  | some ds=>if ds.length=z/\i<es.length then XbJ z (es.set i ds) rest else none
  | _=>none
def XdN:Option IntKind->D->D->Option Bool
 | some _,.v (.int j a),.v (.int k b)=>if j=k then some (a==b) else none
 | none,.v (.bool a),.v (.bool b)=>some (a==b)
 | _,_,_=>none
def YO:List (Option IntKind)->List D->List D->Option Bool
 | [],[],[]=>some true
 | k::ks,x::xs,y::ys=>match XdN k x y,YO ks xs ys with
  | some a,some b=>some (a&&b)
  | _,_=>none
 | _,_,_=>none
def Zw (P:Program):Nat->List Field->Option (List (Option IntKind))
 | _,[]=>some []
 | n,f::fs=>if (f.offset==n)&&(f.name != "_") then
  match P.underlying f.type with
  | some (.int k)=>(Zw P (n+1) fs).map (some k::·)
  | some .bool=>(Zw P (n+1) fs).map (none::·)
  | _=>none
  else none
def Yc (P:Program) (t:TypeId):Option (List (Option IntKind)) :=
 match P.underlying t with
 | some (.struct fs)=>if P.stoodInHeld t||P.eqGuardType P.depth t then none else Zw P 0 fs.toList
 | _=>none
def JM (op:BinOp) (k:IntKind) (a b:Int):Option (Prop×Value) :=
 match op with
 | .add=>some (True,.int k (k.wrap (a+b)))
 | .sub=>some (True,.int k (k.wrap (a-b)))
 | .mul=>some (True,.int k (k.wrap (a*b)))
 | .quo=>some (b≠0,.int k (k.wrap (a.tdiv b)))
 | .rem=>some (b≠0,.int k (a.tmod b))
 | .and=>some (True,.int k (k.wrap (BitVec.ofInt k.bits a &&& BitVec.ofInt k.bits b).toNat))
 | .or=>some (True,.int k (k.wrap (BitVec.ofInt k.bits a ||| BitVec.ofInt k.bits b).toNat))
 | .xor=>some (True,.int k (k.wrap (BitVec.ofInt k.bits a ^^^ BitVec.ofInt k.bits b).toNat))
 | .andNot=>some (True,.int k (k.wrap (BitVec.ofInt k.bits a &&& ~~~ BitVec.ofInt k.bits b).toNat))
 | .eql=>some (True,.bool (a==b))
 | .neq=>some (True,.bool (a != b))
 | .lss=>some (True,.bool (a<b))
 | .leq=>some (True,.bool (a<=b))
 | .gtr=>some (True,.bool (a>b))
 | .geq=>some (True,.bool (a>=b))
 | _=>none
def Yy (P:Program) (op:BinOp) (T:TypeId):D->D->Option (Prop×D)
 | .v (.int k a),.v (.int k' b)=>match op with
  | .shl=>some (0<=b,.v (.int k (k.wrap (a*2 ^ min b.toNat k.bits))))
  | .shr=>some (0<=b,.v (.int k (a.fdiv (2 ^ min b.toNat k.bits))))
  | op=>if k=k' then (JM op k a b).map λ r=>(r.1,.v r.2) else none
 | .v (.bool a),.v (.bool b)=>match Xm P T with
  | some ⟨_,_,_,.bool⟩=>match op with
   | .eql=>some (True,.v (.bool (a==b)))
   | .neq=>some (True,.v (.bool (!(a==b))))
   | _=>none
  | _=>none
 | .agg xs,.agg ys=>match Yc P T with
  | some ks=>match YO ks xs ys,op with
   | some b,.eql=>some (True,.v (.bool b))
   | some b,.neq=>some (True,.v (.bool (!b)))
   | _,_=>none
  | none=>none
 | _,_=>none
def ivD:D->Option Int
 | .v (.int _ n)=>some n
 | _=>none
def ivO (t:Operand->D):Option Operand->Option (Option Int)
 | none=>some none
 | some x=>(ivD (t x)).map some
def Xgi:Value->Bool
 | .int _ _=>false
 | .bool _=>false
 | .slice none _ _=>true
 | _=>false
def XbK:Operand->Bool
 | .tmp _=>false
 | .global _=>false
 | .func _=>false
 | .const v=>Xgi v
def XdO (P:Program) (op:BinOp) (T:TypeId):D->Option (Prop×D)
 | .isl _ _ es=>match Xm P T,op with
  | some ⟨_,_,_,.slice _ _⟩,.eql=>some (es≠[],.v (.bool false))
  | some ⟨_,_,_,.slice _ _⟩,.neq=>some (es≠[],.v (.bool true))
  | _,_=>none
 | .v (.slice a _ _)=>match Xm P T,op with
  | some ⟨_,_,_,.slice _ _⟩,.eql=>some (True,.v (.bool a.isNone))
  | some ⟨_,_,_,.slice _ _⟩,.neq=>some (True,.v (.bool (!a.isNone)))
  | _,_=>none
 | _=>none
def XdP (sz:Nat) (lo hi mx:Option Int):D->Option (Prop×D)
 | .nsl=>match mx,hi with
  | some _,none=>none
  | _,_=>some (lo.getD 0=0/\hi.getD 0=0/\mx.getD 0=0,.nsl)
 | .isl E z es=>if z=sz then match mx,hi with
  | none,_=>some (0<=lo.getD 0/\lo.getD 0<=hi.getD es.length/\hi.getD es.length<=es.length,
   .isl E z ((es.drop (lo.getD 0).toNat).take ((hi.getD es.length).toNat-(lo.getD 0).toNat)))
  | some m,some h=>some (lo.getD 0=0/\h=0/\m=0,.nsl)
  | _,_=>none
  else none
 | .osl id ver z off len=>if z=sz then match mx with
  | none=>some (0<=lo.getD 0/\lo.getD 0<=hi.getD len/\hi.getD len<=len,
   .osl id ver z (off+(lo.getD 0).toNat) ((hi.getD len).toNat-(lo.getD 0).toNat))
  | some _=>none
  else none
 | _=>none
def XcP (P:Program) (s:Heap) (Kj ver E z bytes:Nat) (c0:Prop) (src:List (List D)):D->Option (Prop×D×Up)
 | .nsl=>some (c0/\src.length<=Xn/\src.length*bytes<=Xn,.osl Kj ver z 0 src.length,[(Kj,ver,.arr false E z src 0)])
 | .osl id v z' off len=>match s id with
  | some (v',.arr false E' z'' es fz) =>
   if v=v'/\z=z'/\z=z''/\P.bytesOf E'=bytes then
    if off+len=es.length then
     some (c0/\off=0/\es.length+src.length<=Xn/\(es.length+src.length)*bytes<=Xn,.osl id ver z 0 (len+src.length),[(id,ver,.arr false E' z (es++src) fz)])
    else
     some (c0/\off+len+src.length<=es.length/\fz<=off+len,.osl id v z off (len+src.length),
      [(id,v,.arr false E' z (es.take (off+len)++src++es.drop (off+len+src.length)) fz)])
   else none
  | _=>none
 | _=>none
def XjH (g:Bool):D->D->D
 | .v (.bool p),.v (.bool q)=>.v (.bool (bif g then p else q))
 | a,b=>match g with
  | true=>a
  | false=>b
def Vz (P:Program) (T:TypeId):Option (IntKind×TypeId):=match P.underlying T with
 | some (.map K E)=>match P.underlying K with
  | some (.int k)=>some (k,E)
  | _=>none
 | _=>none
def XcQ:List (Int×D)->Int->Option D
 | [],_=>none
 | (x,d)::es,n=>if n=x then some d else XcQ es n
def XbL:List (Int×D)->Int->D->List (Int×D)
 | [],n,d=>[(n,d)]
 | (x,e)::es,n,d=>if n=x then (x,d)::es else (x,e)::XbL es n d
def XbM:List (Int×D)->Int->List (Int×D)
 | [],_=>[]
 | (x,e)::es,n=>if n=x then es else (x,e)::XbM es n
def Xgj (P:Program) (s:Heap) (T:TypeId) (m key x:D):Option (Prop×D×Up):=match Vz P T,m,key with
 | some (k,_),.omp id v,.v (.int k' n)=>match s id with
  | some (v',.mp k2 es)=>match snap s x with
   | some (c,d,l)=>if v=v'/\k=k2/\k=k'/\id∉l then some (c/\es.length<Xn,.v undef,VI s l++[(id,v',.mp k (XbL es n d))]) else none
   | none=>none
  | _=>none
 | _,_,_=>none
def XmE (es:Array MapEntry) (k:IntKind) (n:Int):Prop:=(Instr.findNow (.int k) (.int k n) es.toList 0).isSome=true
def XdQ (es:Array MapEntry) (k:IntKind) (n:Int) (z:Value):Value:=match Instr.findNow (.int k) (.int k n) es.toList 0 with
 | some (some (_,v))=>v
 | _=>z
def XeM (es:Array MapEntry) (k:IntKind) (n:Int):Bool:=match Instr.findNow (.int k) (.int k n) es.toList 0 with
 | some (some _)=>true
 | _=>false
def Xpb (es:Array MapEntry) (b:Int):Prop:=(es.findIdx? λ e=>(e.born:Int)==b).isSome=true
def XjI (es:Array MapEntry) (b:Int) (y:Value):Array MapEntry:=es.modify ((es.findIdx? λ e=>(e.born:Int)==b).getD 0) λ e=>{ e with val:=y }
def Kj (dst:Option Nat):Nat:=match dst with | some d=>64*d | none=>0
def opF (P:Program) (dst:Option Nat) (ver:Nat) (t:Operand->D) (s:Heap):Op->Option (Prop×D×Up)
 | .move x | .assign x=>some (True,t x,[])
 | .pick c a b=>match t c with
  | .v (.bool g)=>some (True,XjH g (t a) (t b),[])
  | _=>none
 | .alloc T=>match Xm P T with
  | some ty=>match Ja ty with
   | some cs=>if cs.length=ty.size/\ty.bytes<=Xn then some (True,.ept (Kj dst) ver ty.size 0 0,[(Kj dst,ver,.arr true T ty.size [cs] 0)]) else none
   | none=>none
  | none=>none
 | .box T x=>match Xm P T,(t x).cells with
  | some ty,some cs=>if ty.bytes<=Xn then some (cs.length=ty.size,.ept (Kj dst) ver ty.size 0 0,[(Kj dst,ver,.arr true T ty.size [cs] 0)]) else none
  | _,_=>none
 | .build T parts=>match Xm P T with
  | some ty=>match Ja ty,ty.k with
   | some cs,.struct fs=>(XbI (λ i=>(fs[i]?).map λ f=>(f.1,f.2.1)) cs (parts.toList.map λ p=>(p.1,t p.2))).map λ r=>(True,.agg r,[])
   | some cs,.array _ e sz=>match Xm P e with
    | some _=>(XbI (λ i=>some (i*sz,sz)) cs (parts.toList.map λ p=>(p.1,t p.2))).map λ r=>(True,.agg r,[])
    | none=>none
   | _,_=>none
  | none=>none
 | .buildSlice T n parts=>match Xm P T with
  | some ⟨_,_,_,.slice E z⟩=>match Xm P E with
   | some te=>match Ja te with
    | some zc=>if zc.length=z/\te.size=z/\n*z<=16777216/\n*te.bytes<=Xn/\n<=Xn then
     match K9 s (parts.toList.map λ p=>(p.1,t p.2)) with
     | some (c,ps,l)=>(XbJ z (List.replicate n zc) ps).map λ es=>(c,.osl (Kj dst) ver z 0 n,VI s l++[(Kj dst,ver,.arr false E z es 0)])
     | none=>none
     else none
    | none=>none
   | none=>none
  | _=>none
 | .load T a=>match Xm P T,XdM s (t a) with
  | some ty,some (c,cs,o,z)=>if o+ty.size<=z/\(ty.isAgg=true\/ty.size=1) then some (c,ZV ty.isAgg ((cs.drop o).take ty.size),[]) else none
  | _,_=>none
 | .store T a x=>match Xm P T,t a with
  | some ty,.ept id v z i c=>match s id with
   | some (v',.arr true E z' es fz)=>match (t x).cells with
    | some ds=>if v=v'/\z=z'/\c+ty.size<=z then
     some (i<es.length/\fz<=i/\ds.length=ty.size,.v undef,[(id,v,.arr true E z (es.set i (ZU (es.getD i []) c ds)) fz)])
     else none
    | none=>none
   | some (v',.arr false E z' es fz)=>match snap s (t x) with
    | some (cc,d,l)=>match d.cells with
     | some ds=>if v=v'/\z=z'/\c+ty.size<=z/\id∉l then
      some (cc/\i<es.length/\fz<=i/\ds.length=ty.size,.v undef,VI s l++[(id,v,.arr false E z (es.set i (ZU (es.getD i []) c ds)) fz)])
      else none
     | none=>none
    | none=>none
   | _=>none
  | _,_=>none
 | .nilCheck x=>match t x with
  | .ept id v z i c=>some (True,.ept id v z i c,[])
  | .ipt z cs c=>some (True,.ipt z cs c,[])
  | _=>none
 | .binOp op T x y _=>(if XbK y then XdO P op T (t x) else Yy P op T (t x) (t y)).map λ r=>(r.1,r.2,[])
 | .unOp op _ x=>match op,t x with
  | .not,.v (.bool b)=>some (True,.v (.bool (!b)),[])
  | .neg,.v (.int k n)=>some (True,.v (.int k (k.wrap (0-n))),[])
  | _,_=>none
 | .convert S T x=>match Xm P S,Xm P T,t x with
  | some _,some ⟨_,_,_,.int k⟩,.v (.int _ n)=>some (True,.v (.int k (k.wrap n)),[])
  | _,_,_=>none
 | .makeFunc fn first captured=>some (True,.clo fn (first.toList.map t) (captured.toList.map t),[])
 | .makeSlice T l c=>match Xm P T,ivD (t l),ivD (t c) with
  | some ⟨_,_,_,.slice E z⟩,some n,some m=>match Xm P E with
   | some te=>match Ja te with
    | some zc=>if zc.length=z/\te.size=z then
     some (0<=n/\m=n/\n.toNat<=Xn/\n.toNat*te.bytes<=Xn,.osl (Kj dst) ver z 0 n.toNat,[(Kj dst,ver,.arr false E z (List.replicate n.toNat zc) 0)])
     else none
    | none=>none
   | none=>none
  | _,_,_=>none
 | .slice T x lo hi mx=>match Xm P T,ivO t lo,ivO t hi,ivO t mx with
  | some ⟨_,_,_,.slice E sz⟩,some l,some h,some m=>match Xm P E with
   | some _=>(XdP sz l h m (t x)).map λ r=>(r.1,r.2,[])
   | none=>none
  | some ⟨_,_,_,.array n E _⟩,some none,some none,some none=>match Xm P E,t x with
   | some te,.ipt z cs 0=>if te.size=1/\z=n/\0<n/\n<=Xn/\n*P.bytesOf E<=Xn then some (cs.length=z,.isl E 1 (cs.map λ x=>[x]),[]) else none
   | _,_=>none
  | _,_,_,_=>none
 | .fieldAddr T x f=>match Xm P T,t x with
  | some ⟨_,_,_,.struct fs⟩,.ept id v z i c=>match fs[f]? with
   | some (off,sz,_)=>if sz=0 then none else some (True,.ept id v z i (c+off),[])
   | none=>none
  | some ⟨_,_,_,.struct fs⟩,.ipt z cs c=>match fs[f]? with
   | some (off,sz,_)=>if sz=0 then none else some (True,.ipt z cs (c+off),[])
   | none=>none
  | _,_=>none
 | .field T x f=>match Xm P T,t x with
  | some ⟨_,_,_,.struct fs⟩,.agg cs=>match fs[f]? with
   | some (off,sz,ft)=>match Xm P ft with
    | some ty=>if ty.size=sz then some (off+sz<=cs.length/\(ty.isAgg=true\/sz=1),ZV ty.isAgg ((cs.drop off).take sz),[]) else none
    | none=>none
   | none=>none
  | _,_=>none
 | .indexAddr T x ix=>match Xm P T,t x,ivD (t ix) with
  | some ⟨_,_,_,.slice _ sz⟩,.isl _ z es,some i=>if sz=z/\sz≠0 then some (0<=i/\i<es.length,.ipt z (es.getD i.toNat []) 0,[]) else none
  | some ⟨_,_,_,.slice _ sz⟩,.osl id v z off len,some i=>if sz=z/\sz≠0 then some (0<=i/\i<len,.ept id v z (off+i.toNat) 0,[]) else none
  | some ⟨_,_,_,.array n _ sz⟩,.ipt z cs c,some i=>if sz=0 then none else some (0<=i/\i<n,.ipt z cs (c+i.toNat*sz),[])
  | some ⟨_,_,_,.array n _ sz⟩,.ept id v z j c,some i=>if sz=0 then none else some (0<=i/\i<n,.ept id v z j (c+i.toNat*sz),[])
  | _,_,_=>none
 | .index T x ix=>match Xm P T,t x,ivD (t ix) with
  | some ⟨_,_,_,.array n e sz⟩,.agg cs,some i=>match Xm P e with
   | some ty=>if ty.size=sz then some (0<=i/\i<n/\(i.toNat+1)*sz<=cs.length/\(ty.isAgg=true\/sz=1),ZV ty.isAgg ((cs.drop (i.toNat*sz)).take sz),[]) else none
   | none=>none
  | _,_,_=>none
 | .makeMap T r=>match Vz P T,ivO t r with
  | some (_,_),some _=>some (True,.omp (Kj dst) ver,[(Kj dst,ver,.raw (.map #[] 0))])
  | _,_=>none
 | .mapUpdate T m key x | .insert T m key x=>Xgj P s T (t m) (t key) (t x)
 | .lookup T m key ok=>match Vz P T,t m,t key with
  | some (k,E),.omp id v,.v (.int k' n)=>match s id,Xm P E with
   | some (v',.mp k2 es),some te=>if v=v'/\k=k2/\k=k' then
    some (True,if ok then .tup [(XcQ es n).getD (ofV te.zero),.v (.bool (XcQ es n).isSome)] else (XcQ es n).getD (ofV te.zero),[])
    else none
   | some (v',.raw (.map es _)),some te=>if v=v'/\k=k' then
    some (XmE es k n/\wfV (XdQ es k n te.zero),if ok then .tup [.v (XdQ es k n te.zero),.v (.bool (XeM es k n))] else .v (XdQ es k n te.zero),[])
    else none
   | _,_=>none
  | _,_,_=>none
 | .mapEntry T m key=>match Vz P T,t m,t key with
  | some (k,E),.omp id v,.v (.int k' n)=>match s id,Xm P E with
   | some (v',.raw (.map es cl)),some te=>if v=v'/\k=k' then
    some (XmE es k n/\XeM es k n=false/\cl<Xn,.tup [ofV te.zero,.v (.int .i64 cl)],[(id,v',.raw (.map (es.push ⟨.int k n,te.zero,cl⟩) (cl+1)))])
    else none
   | _,_=>none
  | _,_,_=>none
 | .entryStore _ m e x=>match t m,t e,t x with
  | .omp id v,.v (.int .i64 b),.v y=>match s id with
   | some (v',.raw (.map es cl))=>if v=v' then
    some (Xpb es b,.v undef,[(id,v',.raw (.map (XjI es b y) cl))])
    else none
   | _=>none
  | _,_,_=>none
 | .extract x i=>match t x with
  | .tup ds=>if i<ds.length then some (True,ds.getD i .any,[]) else none
  | _=>none
 | .makeInterface T x=>match Xm P T with
  | some ty=>if ty.isIface then none else some (True,.ifc T (t x),[])
  | none=>none
 | .typeAssert x _ A ok=>match Xm P A,t x,ok with
  | some te,.ifc T d,true=>if te.isIface then none else if T=A then some (True,.tup [d,.v (.bool true)],[]) else some (True,.tup [ofV te.zero,.v (.bool false)],[])
  | some te,.v .nilIface,true=>if te.isIface then none else some (True,.tup [ofV te.zero,.v (.bool false)],[])
  | _,_,_=>none
 | .call ⟨.builtin .len,args,types⟩=>match args.toList.map t,types.toList with
  | [d],[T]=>match Xm P T,d with
   | some ⟨_,_,_,.slice _ _⟩,.nsl=>some (True,.v (.int .i64 0),[])
   | some ⟨_,_,_,.slice _ _⟩,.isl _ _ es=>some (True,.v (.int .i64 es.length),[])
   | some ⟨_,_,_,.slice _ _⟩,.osl _ _ _ _ len=>some (len<=Xn,.v (.int .i64 len),[])
   | some ⟨_,_,_,.array n _ _⟩,_=>if n<=Xn then some (True,.v (.int .i64 n),[]) else none
   | _,.omp id v=>match Vz P T,s id with
    | some (k,_),some (v',.mp k2 es)=>if v=v'/\k=k2 then some (True,.v (.int .i64 es.length),[]) else none
    | _,_=>none
   | _,_=>none
  | _,_=>none
 | .call ⟨.builtin .delete,args,types⟩=>match args.toList.map t,types.toList with
  | [.omp id v,.v (.int k' n)],T::_=>match Vz P T,s id with
   | some (k,_),some (v',.mp k2 es)=>if v=v'/\k=k2/\k=k' then some (True,.tup [],[(id,v',.mp k (XbM es n))]) else none
   | _,_=>none
  | _,_=>none
 | .call ⟨.builtin .cap,args,types⟩=>match args.toList.map t,types.toList with
  | [d],[T]=>match Xm P T,d with
   | some ⟨_,_,_,.slice _ _⟩,.nsl=>some (True,.v (.int .i64 0),[])
   | _,_=>none
  | _,_=>none
 | .call ⟨.builtin .min,args,_⟩=>match args.toList.map t with
  | [.v (.int j a),.v (.int k b)]=>if j=k then some (True,.v (.int j (if b<a then b else a)),[]) else none
  | _=>none
 | .call ⟨.builtin .max,args,_⟩=>match args.toList.map t with
  | [.v (.int j a),.v (.int k b)]=>if j=k then some (True,.v (.int j (if a<b then b else a)),[]) else none
  | _=>none
 | .call ⟨.builtin .clear,args,types⟩=>match args.toList.map t,types.toList with
  | [.osl id v z off len],[T]=>match Xm P T with
   | some ⟨_,_,_,.slice E sz⟩=>match Xm P E with
    | some te=>match Ja te,s id with
     | some zc,some (v',.arr false E' z' es fz)=>if v=v'/\z=z'/\z=sz/\te.size=sz/\zc.length=sz then some (off+len<=es.length/\fz<=off,.tup [],[(id,v,.arr false E' z (es.take off++List.replicate len zc++es.drop (off+len)) fz)]) else none
     | _,_=>none
    | none=>none
   | _=>none
  | [.omp id v],T::_=>match Vz P T,s id with
   | some (k,_),some (v',.mp k2 es)=>if v=v'/\k=k2 then some (True,.tup [],[(id,v',.mp k [])]) else none
   | _,_=>none
  | _,_=>none
 | .call ⟨.builtin .copy,args,types⟩=>match args.toList.map t,types.toList with
  | [.osl id v z off len,x],T::_=>match Xm P T with
   | some ⟨_,_,_,.slice E sz⟩=>match Xm P E,s id,elems s z x with
    | some te,some (v',.arr false E' z' es fz),some (c,src)=>if v=v'/\z=z'/\z=sz/\te.size=sz then
     some (c/\src.length<=len/\off+len<=es.length/\fz<=off,.v (.int .i64 src.length),[(id,v,.arr false E' z (es.take off++src++es.drop (off+src.length)) fz)])
     else none
    | _,_,_=>none
   | _=>none
  | _,_=>none
 | .call ⟨.builtin .append,args,types⟩=>match args.toList.map t,types.toList with
  | [d,x],[T,T2]=>match Xm P T with
   | some ⟨_,_,_,.slice E z⟩=>match Xm P E with
    | some te=>match Ja te with
     | some zc=>if te.size=z/\zc.length=z then match Xm P T2 with
      | some ⟨_,_,_,.slice _ _⟩=>match elems s z x with
       | some (c,src)=>XcP P s (Kj dst) ver E z te.bytes c src d
       | none=>none
      | some ⟨_,_,_,.int _⟩=>match ivD x with
       | some n=>XcP P s (Kj dst) ver E z te.bytes (0<=n/\n<=Xn/\n.toNat*te.bytes<=Xn) (List.replicate n.toNat zc) d
       | _=>none
      | _=>none
      else none
     | none=>none
    | none=>none
   | _=>none
  | _,_=>none
 | _=>none
variable {P:Program}
structure Cx where
 G:Nat->Option (List D)
 M0:Mem
 w0:World
 lb:List Nat
 b0:Loc
 M1:Mem
 off:Nat
 rd:Option Nat
 df:List Deferred
@[reducible] def Cx.sub (C:Cx) (n:Nat) (x:Mem×Loc):Cx:=⟨C.G,C.M0,C.w0,C.lb,x.2,x.1,n,none,[]⟩
structure Kp (w0:World) (lb:List Nat) (w:World):Prop where
 os:w.os=w0.os
 tape:w.tape=w0.tape
 output:w.output=w0.output
 size:w0.heap.size<=w.heap.size
 block:∀ k,k<w0.heap.size->k∉lb->w.heap[k]? = w0.heap[k]?
def Kp.refl (w:World) (lb:List Nat):Kp w lb w:=⟨rfl,rfl,rfl,Ui _,λ _ _ _=>rfl⟩
structure U8 (P:Program) (C:Cx) (s:Heap) (U:Nat->Prop) (M:Mem) (β:Loc) (w:World):Prop where
 mem:MemOK M w
 used:∀ id ver x,β id ver=some x->U ver
 obs:∀ id v ob,s id=some (v,ob)->∃ x,β id v=some x/\ObRep P M β w x ob
 own:∀ id v ob b cb,s id=some (v,ob)->β id v=some (some (b,cb))->C.w0.heap.size<=b\/(b∈C.lb/\ob.bx=true)
 inj:∀ id v ob id' v' ob' b cb cb',s id=some (v,ob)->s id'=some (v',ob')->β id v=some (some (b,cb))->β id' v'=some (some (b,cb'))->id=id'
 keep:Kp C.w0 C.lb w
 old:∀ b o,b<C.w0.heap.size->M b o=C.M0 b o
 le:MLe C.M1 M
 glob:∀ g cs,C.G g=some cs->RepC P C.M1 cs g 0
def U8.mono {C:Cx} {s:Heap} {U U':Nat->Prop} {M:Mem} {β:Loc} {w:World} (h:U8 P C s U M β w) (hU:∀ v,U v->U' v):U8 P C s U' M β w :=
 { h with used:=λ i v x e=>hU _ (h.used i v x e) }
def MemOK.lt {M:Mem} {w:World} (h:MemOK M w) {b o:Nat} {x:Value} (e:M b o=some x):b<w.heap.size :=
 World.block_lt_of_cell? (a:=⟨b,o,none⟩) w (h b o x e).1
def ObRep.lt {M:Mem} {β:Loc} {w:World} {b cb:Nat} {ob:Ob} (h:ObRep P M β w (some (b,cb)) ob):b<w.heap.size:=by
 cases ob with
 | raw o =>
  obtain ⟨_,_,hh⟩:=h
  rcases Uw b w.heap.size with h' | h'
  ·exact h'
  ·simp[Ib h'] at hh
 | mp kk es =>
  obtain ⟨_,_,_,ents,clock,hh,_⟩:=h
  rcases Uw b w.heap.size with h' | h'
  ·exact h'
  ·simp[Ib h'] at hh
 | arr bx E z es fz =>
  obtain ⟨cs,T,hh,_⟩:=h
  rcases Uw b w.heap.size with h' | h'
  ·exact h'
  ·simp[Ib h'] at hh
def ObRep.mono {M M':Mem} {β β':Loc} {w w':World} {x:Option (Nat×Nat)} {ob:Ob} (h:ObRep P M β w x ob) (hM:MLe M M') (hB:BLe β β')
 (hw:∀ b cb,x=some (b,cb)->w'.heap[b]? = w.heap[b]?) (hm:∀ b cb,x=some (b,cb)->∀ o,M' b o=M b o):ObRep P M' β' w' x ob:=by
 cases ob with
 | raw o =>
  cases x with
  | none=>simp[ObRep] at h
  | some bc =>
   obtain ⟨b,cb⟩:=bc
   obtain ⟨h1,h2,h3⟩:=h
   exact ⟨h1,λ o=>(hm b cb rfl o).trans (h2 o),(hw b cb rfl).trans h3⟩
 | mp kk es =>
  cases x with
  | none=>simp[ObRep] at h
  | some bc =>
   obtain ⟨b,cb⟩:=bc
   obtain ⟨h1,h2,h3,ents,clock,h4,h5,h6⟩:=h
   exact ⟨h1,h2,λ o=>(hm b cb rfl o).trans (h3 o),ents,clock,(hw b cb rfl).trans h4,h5.mono hM,h6⟩
 | arr bx E z es fz =>
  cases x with
  | none=>simpa [ObRep] using h
  | some bc =>
   obtain ⟨b,cb⟩:=bc
   simp only[ObRep] at h ⊢
   obtain ⟨cs,T,h1,h2,h3,h4,h5,h6,h7,h8,h9,h10⟩:=h
   refine ⟨cs,T,(hw b cb rfl).trans h1,h2,h3,h4,h5,h6,h7,h8,λ o=>(hm b cb rfl o).trans (h9 o),λ i d hd=>?_⟩
   obtain ⟨y,hy,hr⟩:=h10 i d hd
   exact ⟨y,hy,hr.mono hM (Xc0 bx hB)⟩
def U8.set {C:Cx} {s:Heap} {U:Nat->Prop} {M M':Mem} {β β':Loc} {w w':World} (h:U8 P C s U M β w)
 (id ver:Nat) (ob:Ob) (b cb:Nat) (hM:MLe M M') (hB:BLe β β')
 (hw:∀ k,k≠b->w'.heap[k]? = w.heap[k]?) (hm:∀ k,k≠b->∀ o,M' k o=M k o)
 (hmem:∀ o x,M' b o=some x->w'.cell? ⟨b,o,none⟩=some x/\x.oneCell'=true)
 (hβ:β' id ver=some (some (b,cb))) (hob:ObRep P M' β' w' (some (b,cb)) ob)
 (hfree:∀ id' v' ob' cb',id'≠id->s id'=some (v',ob')->β id' v'≠some (some (b,cb')))
 (hown:C.w0.heap.size<=b\/(b∈C.lb/\ob.bx=true)) (hold:b<C.w0.heap.size->∀ o,M' b o=M b o)
 (hos:w'.os=w.os) (htape:w'.tape=w.tape) (hout:w'.output=w.output) (hsize:w.heap.size<=w'.heap.size)
 (hused:∀ i v x,β' i v=some x->β i v=some x\/v=ver):U8 P C (upd s id (some (ver,ob))) (λ v=>U v\/v=ver) M' β' w':=by
 have hsame:∀ id' v' ob' x,id'≠id->s id'=some (v',ob')->β' id' v'=some x->β id' v'=some x:=by
  intro id' v' ob' x hne hs hx
  obtain ⟨y,hy,_⟩:=h.obs id' v' ob' hs
  rw[hB _ _ _ hy] at hx
  rw[hy];exact hx
 constructor
 ·intro k o x hx
  by_cases hk:k=b
  ·subst hk;exact hmem o x hx
  ·rw[hm k hk o] at hx
   have:=h.mem k o x hx
   refine ⟨?_,this.2⟩
   rw[← this.1]
   simp[World.cell?,hw k hk]
 ·intro i v x hx
  rcases hused i v x hx with hx | rfl
  ·exact .inl (h.used i v x hx)
  ·exact .inr rfl
 ·intro id' v ob' hs
  by_cases hid:id'=id
  ·subst hid
   rw[Yt] at hs
   obtain ⟨rfl,rfl⟩:=by simpa using hs
   exact ⟨_,hβ,hob⟩
  ·rw[X2 _ _ _ _ hid] at hs
   obtain ⟨x,hx,hr⟩:=h.obs id' v ob' hs
   refine ⟨x,hB _ _ _ hx,hr.mono hM hB ?_ ?_⟩
   ·rintro k ck rfl
    exact hw k λ e=>hfree id' v ob' ck hid hs (e▸hx)
   ·rintro k ck rfl
    exact hm k λ e=>hfree id' v ob' ck hid hs (e▸hx)
 ·intro id' v ob' k ck hs hx
  by_cases hid:id'=id
  ·subst hid
   rw[Yt] at hs
   obtain ⟨rfl,rfl⟩:=by simpa using hs
   rw[hβ] at hx
   obtain ⟨rfl,rfl⟩:=by simpa using hx
   exact hown
  ·rw[X2 _ _ _ _ hid] at hs
   exact h.own id' v ob' k ck hs (hsame id' v ob' _ hid hs hx)
 ·intro id1 v1 ob1 id2 v2 ob2 k c1 c2 hs1 hs2 hx1 hx2
  by_cases h1:id1=id
  ·by_cases h2:id2=id
   ·rw[h1,h2]
   ·subst h1
    rw[Yt] at hs1
    obtain ⟨rfl,rfl⟩:=by simpa using hs1
    rw[hβ] at hx1
    obtain ⟨rfl,rfl⟩:=by simpa using hx1
    rw[X2 _ _ _ _ h2] at hs2
    exact absurd (hsame id2 v2 ob2 _ h2 hs2 hx2) (hfree id2 v2 ob2 c2 h2 hs2)
  ·rw[X2 _ _ _ _ h1] at hs1
   have hx1':=hsame id1 v1 ob1 _ h1 hs1 hx1
   by_cases h2:id2=id
   ·subst h2
    rw[Yt] at hs2
    obtain ⟨rfl,rfl⟩:=by simpa using hs2
    rw[hβ] at hx2
    obtain ⟨rfl,rfl⟩:=by simpa using hx2
    exact absurd hx1' (hfree id1 v1 ob1 c1 h1 hs1)
   ·rw[X2 _ _ _ _ h2] at hs2
    exact h.inj id1 v1 ob1 id2 v2 ob2 k c1 c2 hs1 hs2 hx1' (hsame id2 v2 ob2 _ h2 hs2 hx2)
 ·refine ⟨hos.trans h.keep.os,htape.trans h.keep.tape,hout.trans h.keep.output,UB h.keep.size hsize,λ k hk hl=>?_⟩
  rw[← h.keep.block k hk hl]
  refine hw k ?_
  rintro rfl
  rcases hown with ho | ho
  ·omega
  ·exact hl ho.1
 ·intro k o hk
  by_cases hkb:k=b
  ·subst hkb;rw[hold hk o];exact h.old k o hk
  ·rw[hm k hkb o];exact h.old k o hk
 ·exact h.le.trans hM
 ·exact h.glob
def U8.setNil {C:Cx} {s:Heap} {U:Nat->Prop} {M:Mem} {β β':Loc} {w:World} (h:U8 P C s U M β w)
 (id ver:Nat) (E z:Nat) (hB:BLe β β') (hβ:β' id ver=some none)
 (hused:∀ i v x,β' i v=some x->β i v=some x\/v=ver):U8 P C (upd s id (some (ver,.arr false E z [] 0))) (λ v=>U v\/v=ver) M β' w:=by
 have hsame:∀ id' v' ob' x,id'≠id->s id'=some (v',ob')->β' id' v'=some x->β id' v'=some x:=by
  intro id' v' ob' x hne hs hx
  obtain ⟨y,hy,_⟩:=h.obs id' v' ob' hs
  rw[hB _ _ _ hy] at hx
  rw[hy];exact hx
 constructor
 ·exact h.mem
 ·intro i v x hx
  rcases hused i v x hx with hx | rfl
  ·exact .inl (h.used i v x hx)
  ·exact .inr rfl
 ·intro id' v ob' hs
  by_cases hid:id'=id
  ·subst hid
   rw[Yt] at hs
   obtain ⟨rfl,rfl⟩:=by simpa using hs
   exact ⟨_,hβ,by simp[ObRep]⟩
  ·rw[X2 _ _ _ _ hid] at hs
   obtain ⟨x,hx,hr⟩:=h.obs id' v ob' hs
   exact ⟨x,hB _ _ _ hx,hr.mono (MLe.refl _) hB (λ _ _ _=>rfl) (λ _ _ _ _=>rfl)⟩
 ·intro id' v ob' k ck hs hx
  by_cases hid:id'=id
  ·subst hid
   rw[Yt] at hs
   obtain ⟨rfl,rfl⟩:=by simpa using hs
   rw[hβ] at hx
   simp at hx
  ·rw[X2 _ _ _ _ hid] at hs
   exact h.own id' v ob' k ck hs (hsame id' v ob' _ hid hs hx)
 ·intro id1 v1 ob1 id2 v2 ob2 k c1 c2 hs1 hs2 hx1 hx2
  by_cases h1:id1=id
  ·subst h1
   rw[Yt] at hs1
   obtain ⟨rfl,rfl⟩:=by simpa using hs1
   rw[hβ] at hx1
   simp at hx1
  ·by_cases h2:id2=id
   ·subst h2
    rw[Yt] at hs2
    obtain ⟨rfl,rfl⟩:=by simpa using hs2
    rw[hβ] at hx2
    simp at hx2
   ·rw[X2 _ _ _ _ h1] at hs1
    rw[X2 _ _ _ _ h2] at hs2
    exact h.inj id1 v1 ob1 id2 v2 ob2 k c1 c2 hs1 hs2 (hsame id1 v1 ob1 _ h1 hs1 hx1) (hsame id2 v2 ob2 _ h2 hs2 hx2)
 ·exact h.keep
 ·exact h.old
 ·exact h.le
 ·exact h.glob
def Y4 (β:Loc) (id ver:Nat) (x:Option (Nat×Nat)):Loc:=λ i v=>if i=id/\v=ver then some x else β i v
def XF (β:Loc) (id ver:Nat) (x):Y4 β id ver x id ver=some x:=by simp[Y4]
def YP {β:Loc} {id ver:Nat} {x} (h:β id ver=none):BLe β (Y4 β id ver x):=by
 intro i v y hy
 unfold Y4
 split
 ·rename_i hc;obtain ⟨rfl,rfl⟩:=hc;rw[h] at hy;cases hy
 ·exact hy
def YT {β:Loc} {id ver:Nat} {x} (i v:Nat) (y) (h:Y4 β id ver x i v=some y):β i v=some y\/v=ver:=by
 unfold Y4 at h
 split at h
 ·rename_i hc;exact .inr hc.2
 ·exact .inl h
def U8.fresh {C:Cx} {s:Heap} {U:Nat->Prop} {M:Mem} {β:Loc} {w:World} (h:U8 P C s U M β w) {ver:Nat} (hv:¬ U ver) (id:Nat):β id ver=none:=by
 cases hb:β id ver with
 | none=>rfl
 | some x=>exact absurd (h.used id ver x hb) hv
def XK {z:Nat}:∀ {es:List (List D)},(∀ e∈es,e.length=z)->es.flatten.length=es.length*z
 | [],_=>by simp
 | e::es,h=>by
  have ih:es.flatten.length=es.length*z:=XK λ e' h'=>h e' (W4 _ h')
  have he:e.length=z:=h e (IX ..)
  rw[List.flatten_cons,Wp,ih,he,Uc,Ij]
  omega
def Jb {z:Nat}:∀ {es:List (List D)},(∀ e∈es,e.length=z)->∀ (i j:Nat),j<z->es.flatten[i*z+j]? = (es.getD i [])[j]?
 | [],_,i,j,_=>by simp
 | e::es,h,i,j,hj=>by
  have he:e.length=z:=h e (by simp)
  cases i with
  | zero=>simp[Uy (show j<e.length by omega)]
  | succ i =>
   have:¬ (i+1)*z+j<e.length:=by rw[he,Ij];omega
   rw[List.flatten_cons,UW (by omega),he]
   have h2:(i+1)*z+j-z=i*z+j:=by rw[Ij];omega
   rw[h2,Jb (λ e' h'=>h e' (by simp[h'])) i j hj]
   simp
def YG {z:Nat} {es:List (List D)} (h:∀ e∈es,e.length=z) (k:Nat):es.flatten[k]? = (es.getD (k / z) [])[k % z]?:=by
 rcases Uq z with rfl | hz
 ·have h0:es.flatten=[]:=WQ (by rw[XK h];simp)
  rw[h0]
  simp only[Nat.div_zero,Nat.mod_zero]
  cases es with
  | nil=>simp
  | cons e es =>
   have:e=[]:=WQ (h e (by simp))
   simp[this]
 ·have:=Jb h (k / z) (k % z) (On _ hz)
  rwa[Nat.div_add_mod'] at this
def VY (es:List (List D)) (h:∀ e∈es,e.length=0) (k:Nat):es.flatten[k]? = none:=by
 have h0:es.flatten=[]:=WQ (by rw[XK h];simp)
 rw[h0];simp
def U8.alloc {C:Cx} {s:Heap} {U:Nat->Prop} {M:Mem} {β:Loc} {w w1:World} (h:U8 P C s U M β w)
 (hw1:w1.heap=w.heap/\w1.os=w.os/\w1.tape=w.tape/\w1.output=w.output)
 {ver:Nat} (hv:¬ U ver) (bx:Bool) (id E z:Nat) (es:List (List D)) (cb:Nat) (cs:Array Value) (T:TypeId)
 (hcs:cs.size=cb*z) (hz:∀ e∈es,e.length=z) (hcb:es.length<=cb) (hl:es.length<=Xn) (hb:es.length*P.bytesOf E<=Xn)
 (hone:∀ x∈cs,x.oneCell'=true) (hrep:∀ (i:Nat) (d:D),es.flatten[i]? = some d->∃ x,cs[i]? = some x/\Rep P M (XbG bx β) d x) :
 U8 P C (upd s id (some (ver,.arr bx E z es 0))) (λ v=>U v\/v=ver) M (Y4 β id ver (some (w.heap.size,cb))) (w1.alloc (.cells cs T)) /\
  BLe β (Y4 β id ver (some (w.heap.size,cb))):=by
 have hf:=h.fresh hv id
 have hB:BLe β (Y4 β id ver (some (w.heap.size,cb))):=YP hf
 have hnone:∀ o,M w.heap.size o=none:=by
  intro o
  cases hx:M w.heap.size o with
  | none=>rfl
  | some x=>exact absurd (h.mem.lt hx) (IC _)
 obtain ⟨e1,e2,e3,e4⟩:=hw1
 have hheap:∀ k,k≠w.heap.size->(w1.alloc (.cells cs T)).heap[k]? = w.heap[k]?:=by
  intro k hk
  show (w1.heap.push _)[k]? = _
  rw[e1,Array.getElem?_push,Wm hk]
 have hnew:(w1.alloc (.cells cs T)).heap[w.heap.size]? = some (.cells cs T (0,0)):=by
  show (w1.heap.push _)[w.heap.size]? = _
  rw[e1];simp
 refine ⟨h.set id ver _ w.heap.size cb (MLe.refl M) hB hheap (λ _ _ _=>rfl) ?_ (XF ..) ?_ ?_ (.inl h.keep.size) ?_ e2 e3 e4 ?_ YT,hB⟩
 ·intro o x hx;rw[hnone o] at hx;cases hx
 ·refine ⟨cs,T,hnew,hcs,hz,hcb,hl,hb,Un _,hone,λ o=>by simp[hnone o],λ i d hd=>?_⟩
  obtain ⟨x,hx,hr⟩:=hrep i d hd
  exact ⟨x,hx,hr.mono (MLe.refl M) (Xc0 bx hB)⟩
 ·intro id' v' ob' cb' _ hs hx
  obtain ⟨y,hy,hr⟩:=h.obs id' v' ob' hs
  rw[hx] at hy
  obtain rfl:some (w.heap.size,cb')=y:=by simpa using hy
  exact absurd hr.lt (IC _)
 ·intro hlt;exact absurd h.keep.size (by omega)
 ·show w.heap.size<=(w1.heap.push _).size
  rw[e1];simp
def U8.write {C:Cx} {s:Heap} {U:Nat->Prop} {M:Mem} {β:Loc} {w:World} (h:U8 P C s U M β w)
 {bx:Bool} {id ver E z fz:Nat} {es es':List (List D)} (hs:s id=some (ver,.arr bx E z es fz)) {b cb:Nat} (hb:β id ver=some (some (b,cb)))
 {cs cs':Array Value} {T:TypeId} (hcs:w.heap[b]? = some (.cells cs T (0,0))) (hsz:cs'.size=cs.size) (hlen:es'.length=es.length) (hz:∀ e∈es',e.length=z)
 (hone:∀ x∈cs',x.oneCell'=true) (hfz:∀ o,o<fz*z->cs'[o]? = cs[o]?)
 (hrep:∀ (i:Nat) (d:D),es'.flatten[i]? = some d->∃ x,cs'[i]? = some x/\Rep P M (XbG bx β) d x) :
 U8 P C (upd s id (some (ver,.arr bx E z es' fz))) U M β (w.setRow b cs'):=by
 obtain ⟨x,hx,hr⟩:=h.obs id ver _ hs
 rw[hb] at hx
 obtain rfl:some (b,cb)=x:=by simpa using hx
 obtain ⟨cs0,T0,k1,k2,k3,k4,k5,k6,k7,k8,k9,k10⟩:=hr
 rw[hcs] at k1
 obtain ⟨rfl,rfl⟩:cs=cs0/\T=T0:=by simpa using k1
 have hheap:∀ k,k≠b->(w.setRow b cs').heap[k]? = w.heap[k]?:=λ k hk=>setRow_other w b k cs' hk
 have hnew:=setRow_heap w b cs cs' T (0,0) hcs
 have:=h.set (M':=M) (β':=β) (w':=w.setRow b cs') id ver (.arr bx E z es' fz) b cb (MLe.refl M) (BLe.refl β) hheap (λ _ _ _=>rfl) ?_ hb ?_ ?_ (h.own id ver (.arr bx E z es fz) b cb hs hb:_\/(_/\bx=true)) (λ _ _=>rfl) rfl rfl rfl (by simp) (λ _ _ _ e=>.inl e)
 ·exact this.mono λ v hv=>by
   rcases hv with hv | rfl
   ·exact hv
   ·exact h.used id _ _ hb
 ·intro o x hx
  have ho:=k9 o
  rw[hx] at ho
  split at ho
  ·rename_i hlt
   have:(w.setRow b cs').cell? ⟨b,o,none⟩=cs'[o]?:=cell_setRow_same w b o cs cs' T (0,0) hcs
   rw[this,hfz o hlt]
   exact ⟨ho.symm,(h.mem b o x hx).2⟩
  ·cases ho
 ·refine ⟨cs',T,hnew,by rw[hsz];exact k2,hz,by rw[hlen];exact k4,by rw[hlen];exact k5,by rw[hlen];exact k6,by rw[hlen];exact k7,hone,λ o=>?_,hrep⟩
  rw[k9 o]
  split
  ·rename_i hlt;exact (hfz o hlt).symm
  ·rfl
 ·intro id' v' ob' cb' hne hs' hx'
  exact hne (h.inj id' v' ob' id ver _ b cb' cb hs' hs hx' hb)
variable {P:Program}
def X3 {t:TypeId} {ty:Ou} (h:Xm P t=some ty):∃ i d,P.info? t=some i/\P.underlying t=some d/\i.zero=some ty.zero/\i.size=ty.size/\i.bytes=ty.bytes/\JP P d=ty.k:=by
 unfold Xm at h
 split at h
 ·rename_i i d h1 h2
  split at h
  ·rename_i z hz
   split at h
   ·simp only[Wc] at h
    subst h
    exact ⟨i,d,h1,h2,hz,rfl,rfl,rfl⟩
   ·cases h
  ·cases h
 ·cases h
def YA {t:TypeId} {ty:Ou} (h:Xm P t=some ty) (w:World):(sizeOf t).run P w=.ok ty.size w:=by
 obtain ⟨i,d,h1,_,_,h4,_⟩:=X3 h
 simp[sizeOf,typeInfo,h1,h4]
def Zn {t:TypeId} {ty:Ou} (h:Xm P t=some ty) (w:World):(zeroValue t).run P w=.ok ty.zero w:=by
 obtain ⟨i,d,h1,_,h3,_⟩:=X3 h
 simp[zeroValue,typeInfo,h1,h3]
def XbN {t:TypeId} {ty:Ou} (h:Xm P t=some ty):P.cellsOf t=ty.size:=by
 obtain ⟨i,d,h1,_,_,h4,_⟩:=X3 h
 simp[Program.cellsOf,h1,h4]
def Js {t:TypeId} {ty:Ou} (h:Xm P t=some ty):P.bytesOf t=ty.bytes:=by
 obtain ⟨i,d,h1,_,_,_,h5,_⟩:=X3 h
 simp[Program.bytesOf,h1,h5]
def Ko {t:TypeId} {ty:Ou} (h:Xm P t=some ty) (w:World):(isAgg t).run P w=.ok ty.isAgg w:=by
 obtain ⟨i,d,_,h2,_,_,_,h6⟩:=X3 h
 unfold isAgg
 simp only[Sem.run_bind,run_underlying h2,Result.andThen_ok]
 unfold Ou.isAgg
 rw[← h6]
 cases d<;>simp[JP]
def X0 {t:TypeId} {a b:Nat} {z:Value} {E sz:Nat} (h:Xm P t=some ⟨a,b,z,.slice E sz⟩):P.underlying t=some (.slice E)/\sz=P.cellsOf E:=by
 obtain ⟨i,d,_,h2,_,_,_,h6⟩:=X3 h
 cases d<;>simp[JP] at h6
 obtain ⟨rfl,rfl⟩:=h6
 exact ⟨h2,rfl⟩
def Kq {t:TypeId} {a b:Nat} {z:Value} {n E sz:Nat} (h:Xm P t=some ⟨a,b,z,.array n E sz⟩):P.underlying t=some (.array n E)/\sz=P.cellsOf E:=by
 obtain ⟨i,d,_,h2,_,_,_,h6⟩:=X3 h
 cases d<;>simp[JP] at h6
 obtain ⟨rfl,rfl,rfl⟩:=h6
 exact ⟨h2,rfl⟩
def VZ {t:TypeId} {a b:Nat} {z:Value} {k:IntKind} (h:Xm P t=some ⟨a,b,z,.int k⟩):P.underlying t=some (.int k):=by
 obtain ⟨i,d,_,h2,_,_,_,h6⟩:=X3 h
 cases d<;>simp[JP] at h6
 subst h6;exact h2
def XeN {t:TypeId} {a b:Nat} {z:Value} (h:Xm P t=some ⟨a,b,z,.bool⟩):P.underlying t=some .bool:=by
 obtain ⟨i,d,_,h2,_,_,_,h6⟩:=X3 h
 cases d<;>simp[JP] at h6
 exact h2
def ZW {t:TypeId} {a b:Nat} {z:Value} {fs:List (Nat×Nat×Nat)} (h:Xm P t=some ⟨a,b,z,.struct fs⟩) :
 ∃ fields,P.underlying t=some (.struct fields)/\(fs=fields.toList.map λ f=>(f.offset,P.cellsOf f.type,f.type))/\∀ fd∈fields.toList,((P.info? fd.type).map (·.size)).isSome=true:=by
 obtain ⟨i,d,_,h2,_,_,_,h6⟩:=X3 h
 have hok:XjF P d=true:=by
  unfold Xm at h
  split at h
  ·rename_i i' d' h1 h2'
   rw[h2] at h2'
   obtain rfl:d=d':=by simpa using h2'
   split at h
   ·split at h
    ·assumption
    ·cases h
   ·cases h
  ·cases h
 cases d<;>simp only[JP,reduceCtorEq] at h6
 rename_i fields
 simp only[OQ.struct.injEq] at h6
 exact ⟨fields,h2,h6.symm,λ fd hf=>W3.1 hok fd hf⟩
def KD {t:TypeId} {n:Nat} (hn:P.cellsOf t=n) (h0:n≠0) (w:World):(sizeOf t).run P w=.ok n w:=by
 unfold Program.cellsOf at hn
 cases hi:P.info? t with
 | none=>simp[hi] at hn;omega
 | some i=>simp[hi] at hn;simp[sizeOf,typeInfo,hi,hn]
def U9 (b o n:Nat):(⟨b,o,none⟩:Addr).add n=⟨b,o+n,none⟩:=by unfold Addr.add;split<;>simp_all
def XeO {M:Mem} {β:Loc} (x:Value):Rep P M β (XjG x) x:=by
 unfold XjG
 split
 ·simp[Rep]
 ·split
  ·rename_i h;simp[Rep,Xio h]
  ·simp[Rep]
def Jt {M:Mem} {β:Loc} (x:Value):Rep P M β (ofV x) x:=by
 unfold ofV
 split
 ·rename_i cs
  simp only[Rep]
  refine ⟨cs.toList,rfl,RepL.of (by simp) λ i d x hd hx=>?_⟩
  simp only[IL,W7] at hd
  obtain ⟨y,hy,rfl⟩:=hd
  rw[hy] at hx
  obtain rfl:y=x:=by simpa using hx
  exact XeO _
 ·exact XeO _
def XbO {M:Mem} {β:Loc} {d:D} {x:Value} (h1:d.one=true) (h:Rep P M β d x):x.oneCell'=true/\x.cells=#[x]:=by
 have key:x.oneCell'=true:=by
  cases d<;>simp[D.one] at h1<;>simp only[Rep] at h
  ·rw[h.1];exact h1
  ·obtain ⟨a,rfl⟩:=h;rfl
  ·obtain ⟨_,_,_,a,c,rfl,_⟩:=h;rfl
  ·rcases h with ⟨_,_,_,a,rfl⟩ | ⟨_,_,_,_,_,rfl,_⟩<;>rfl
  ·obtain ⟨_,_,_,rfl⟩:=h;rfl
  ·obtain ⟨_,_,_,rfl,_⟩:=h;rfl
  ·obtain ⟨_,_,rfl,_⟩:=h;rfl
  ·obtain ⟨_,rfl,_⟩:=h;rfl
  ·obtain ⟨_,_,_,rfl⟩:=h;rfl
 refine ⟨key,?_⟩
 cases x<;>simp_all[Value.oneCell',Value.cells]
def Kr {M:Mem} {β:Loc} {d:D} {x:Value} {ds:List D} (h:d.cells=some ds) (hr:Rep P M β d x) :
 RepL P M β ds x.cells.toList/\∀ y∈x.cells,y.oneCell'=true:=by
 unfold D.cells at h
 split at h
 ·rename_i cs
  split at h
  ·rename_i hall
   obtain rfl:cs=ds:=by simpa using h
   simp only[Rep] at hr
   obtain ⟨vs,rfl,hr⟩:=hr
   refine ⟨by simpa [Value.cells] using hr,λ y hy=>?_⟩
   have hy':y∈vs:=by simpa [Value.cells] using hy
   obtain ⟨i,hi,rfl⟩:=WU hy'
   have hlen:=hr.length
   obtain ⟨y,hy1,hy2⟩:=hr.get i (cs[i]'(by omega)) (by simp)
   have:vs[i]? = some vs[i]:=by simp
   rw[this] at hy1
   obtain rfl:vs[i]=y:=by simpa using hy1
   exact (XbO (W3.1 hall _ (WW _)) hy2).1
  ·cases h
 ·split at h
  ·rename_i h1
   obtain rfl:[d]=ds:=by simpa using h
   obtain ⟨k1,k2⟩:=XbO h1 hr
   rw[k2]
   exact ⟨by simp only[RepL];exact ⟨x,[],rfl,hr,rfl⟩,by simpa using k1⟩
  ·cases h
def VJ {M:Mem} {β:Loc} {d:D} {x:Value} {ds:List D} (h:d.cells=some ds) (hr:Rep P M β d x):x.cells.size=ds.length:=by
 have:=(Kr h hr).1.length
 simpa using this
def Xhh {C:Cx} {s:Heap} {U:Nat->Prop} {M:Mem} {β:Loc} {w:World} (I:U8 P C s U M β w) {d:D} {y:Value} {c:Prop} {cs:List D} {o z:Nat}
 (h:XdM s d=some (c,cs,o,z)) (hc:c) (hr:Rep P M β d y) :
 ∃ b o0,y=.pointer (some ⟨b,o0+o,none⟩)/\cs.length=z/\∀ (i:Nat) (d:D),cs[i]? = some d->∃ x,w.cell? ⟨b,o0+i,none⟩=some x/\Rep P M β d x:=by
 unfold XdM at h
 split at h
 ·rename_i z' cs' c'
  obtain ⟨rfl,rfl,rfl,rfl⟩:True=c/\cs'=cs/\c'=o/\z'=z:=by simpa using h
  simp only[Rep] at hr
  obtain ⟨hz,b,o0,rfl,hr⟩:=hr
  refine ⟨b,o0,rfl,hz,λ i d hd=>?_⟩
  obtain ⟨x,hx,hx2⟩:=hr.get i d hd
  exact ⟨x,(I.mem b _ x hx).1,hx2.mono (MLe.refl _) (BLe.zero _)⟩
 ·rename_i id ver z' i' c'
  split at h
  ·rename_i ver' bx E z'' es fz hs
   split at h
   ·rename_i hv
    obtain ⟨rfl,rfl⟩:=hv
    obtain ⟨rfl,rfl,rfl,rfl⟩:(i'<es.length)=c/\es.getD i' []=cs/\c'=o/\z'=z:=by simpa using h
    simp only[Rep] at hr
    obtain ⟨b,cb,hb,rfl⟩:=hr
    obtain ⟨x,hx,ho⟩:=I.obs id ver _ hs
    rw[hb] at hx
    obtain rfl:some (b,cb)=x:=by simpa using hx
    obtain ⟨vs,T,k1,k2,k3,k4,k5,k6,k7,k8,k9,k10⟩:=ho
    have hlen:(es.getD i' []).length=z':=by
     rw[Wr,Wb hc]
     exact k3 _ (WW _)
    refine ⟨b,i'*z',rfl,hlen,λ j d hd=>?_⟩
    have hj:j<z':=by
     rcases Uw j z' with h' | h'
     ·exact h'
     ·rw[WZ (by omega)] at hd;cases hd
    obtain ⟨x,hx,hx2⟩:=k10 (i'*z'+j) d (by rw[Jb k3 _ _ hj];exact hd)
    exact ⟨x,by rw[cell_of_row w b _ vs T (0,0) k1];exact hx,hx2.mono (MLe.refl _) (XmD bx β)⟩
   ·cases h
  ·cases h
 ·cases h
def JQ {α:Type} (l:List α) (o n i:Nat):((l.drop o).take n)[i]? = if i<n then l[o+i]? else none:=by
 rw[W6]
 split<;>simp
def XbP {t:TypeId} {ty:Ou} (h:Xm P t=some ty) (w:World) (M:Mem) (β:Loc) (b o0 o z:Nat) (cs:List D) (hl:cs.length=z) (hfit:o+ty.size<=z)
 (hc:∀ (i:Nat) (d:D),cs[i]? = some d->∃ x,w.cell? ⟨b,o0+i,none⟩=some x/\Rep P M β d x) (hone:ty.isAgg=false->ty.size=1) :
 ∃ v,(loadVar t ⟨b,o0+o,none⟩).run P w=.ok v w/\Rep P M β (ZV ty.isAgg ((cs.drop o).take ty.size)) v:=by
 have hval:∃ vs:List Value,vs.length=ty.size/\(∀ (j:Nat) v,vs[j]? = some v->w.cell? ((⟨b,o0+o,none⟩:Addr).add j)=some v)/\RepL P M β ((cs.drop o).take ty.size) vs:=by
  have:∀ n,n<=ty.size->∃ vs:List Value,vs.length=n/\(∀ (j:Nat) v,vs[j]? = some v->w.cell? ((⟨b,o0+o,none⟩:Addr).add j)=some v)/\RepL P M β ((cs.drop o).take n) vs:=by
   intro n
   induction n with
   | zero=>intro _;exact ⟨[],rfl,by simp,by simp[RepL]⟩
   | succ n ih =>
    intro hn
    obtain ⟨vs,h1,h2,h3⟩:=ih (by omega)
    have hlt:o+n<cs.length:=by omega
    obtain ⟨x,hx,hr⟩:=hc (o+n) cs[o+n] (by simp[hlt])
    refine ⟨vs++[x],by simp[h1],λ j v hj=>?_,?_⟩
    ·rw[UN] at hj
     split at hj
     ·exact h2 j v hj
     ·rename_i hge
      have hj0:j=n:=by
       rcases Uw n j with h' | h'
       ·rw[WZ (by simp;omega)] at hj;cases hj
       ·omega
      subst hj0
      simp[h1] at hj
      subst hj
      rw[U9]
      have:o0+o+j=o0+(o+j):=by omega
      rw[this];exact hx
    ·have:(cs.drop o).take (n+1)=(cs.drop o).take n++[cs[o+n]]:=by
      rw[List.take_succ_eq_append_getElem (by simp;omega)];simp
     rw[this]
     exact h3.append (by simp only[RepL];exact ⟨x,[],rfl,hr,rfl⟩)
  exact this _ (Ui _)
 obtain ⟨vs,h1,h2,h3⟩:=hval
 cases hag:ty.isAgg with
 | true =>
  refine ⟨.agg ⟨vs⟩,?_,?_⟩
  ·have:=run_loadCells_list (P:=P) w ⟨b,o0+o,none⟩ vs h2
   rw[h1] at this
   simp[loadVar,Ko h,YA h,hag,this]
  ·simp only[ZV,if_true,Rep];exact ⟨vs,rfl,h3⟩
 | false =>
  have hs1:=hone hag
  rw[hs1] at h1 h3
  match vs,h1 with
  | [x],_ =>
   have hx:=h2 0 x (by simp)
   rw[U9] at hx
   refine ⟨x,?_,?_⟩
   ·simp[loadVar,Ko h,hag,run_load]
    simp at hx
    rw[hx]
   ·simp only[ZV,hs1,US,if_false]
    have:=h3.length
    match hcs:(cs.drop o).take 1,this with
    | [d],_ =>
     rw[hcs] at h3
     simp only[RepL] at h3
     obtain ⟨x',xs,e,hr,_⟩:=h3
     obtain ⟨rfl,_⟩:x=x'/\[]=xs:=by simpa using e
     simpa using hr
variable {P:Program}
def VOK (P:Program) (C:Cx) (s:Heap) (u:Up) (U:Nat->Prop) (ver:Nat) (M:Mem) (β:Loc) (r:Result Value) (d:D):Prop :=
 ∃ M' β' w' v,r=.ok v w'/\U8 P C (app s u) (λ x=>U x\/x=ver) M' β' w'/\Rep P M' β' d v/\MLe M M'/\BLe β β'
def OpOK (P:Program) (C:Cx) (s:Heap) (u:Up) (U:Nat->Prop) (ver:Nat) (M:Mem) (β:Loc) (r:Result Next) (d:D):Prop :=
 ∃ M' β' w' v,(r=.ok (.value v) w'\/r=.ok .skip w'/\v=undef)/\U8 P C (app s u) (λ x=>U x\/x=ver) M' β' w'/\Rep P M' β' d v/\MLe M M'/\BLe β β'
section
variable {C:Cx} {s:Heap} {U:Nat->Prop} {ver:Nat} {M:Mem} {β:Loc} {w:World}
def VOK.op {u:Up} {sem:Sem Value} {d:D} (h:VOK P C s u U ver M β (sem.run P w) d):OpOK P C s u U ver M β ((do pure (Next.value (← sem)):Sem Next).run P w) d:=by
 obtain ⟨M',β',w',v,hr,rest⟩:=h
 exact ⟨M',β',w',v,.inl (by simp[hr]),rest⟩
def VOK.same (I:U8 P C s U M β w) {r:Result Value} {d:D} {v:Value} (hr:r=.ok v w) (h:Rep P M β d v):VOK P C s [] U ver M β r d :=
 ⟨M,β,w,v,hr,I.mono λ _ hv=>.inl hv,h,MLe.refl _,BLe.refl _⟩
def ZG (k:IntKind) (n:Int):wfV (.int k (k.wrap n)):=by
 simp only[wfV]
 cases k<;>simp only[IntKind.wrap,IntKind.min,IntKind.max,IntKind.bits,IntKind.signed,W5,WA,US,if_true,if_false]<;>(try split)<;>(try simp only[decide_eq_true_eq,ge_iff_le,Int.not_le] at *)<;>constructor<;>omega
def Ze (k:IntKind) (n:Int) (h:wfV (.int k n)):Rep P M β (.v (.int k n)) (.int k n):=by simp[Rep,h]
def ZH (b:Bool):Rep P M β (.v (.bool b)) (.bool b):=by simp[Rep,wfV]
def Xhi (k:IntKind):k.min<=0:=by cases k<;>decide
def Xhj (k:IntKind):0<=k.max:=by cases k<;>decide
def XmF (a b:Int) (lo hi:Int) (h1:lo<=a) (h2:a<=hi) (h3:lo<=0) (h4:0<=hi):lo<=a.tmod b/\a.tmod b<=hi:=by
 have h5:(a.tmod b).natAbs<=a.natAbs:=by rw[Int.natAbs_tmod];exact Nat.mod_le _ _
 rcases Int.le_total 0 a with h | h
 ·have e1:0<=a.tmod b:=Int.tmod_nonneg b h
  omega
 ·have e1:a.tmod b = -((-a).tmod b):=by rw[Int.neg_tmod];omega
  have e3:0<=(-a).tmod b:=Int.tmod_nonneg b (by omega)
  omega
def XmG (a:Int) (n:Nat) (lo hi:Int) (h1:lo<=a) (h2:a<=hi) (h3:lo<=0) (h4:0<=hi):lo<=a.fdiv (2 ^ n)/\a.fdiv (2 ^ n)<=hi:=by
 have hp:(0:Int)<2 ^ n:=Int.pow_pos (by omega)
 rw[Int.fdiv_eq_ediv_of_nonneg _ (Int.le_of_lt hp)]
 have hm:=Int.emod_nonneg a (show (2 ^ n:Int)≠0 by omega)
 have hlt:=Int.emod_lt_of_pos a hp
 have heq:=Int.mul_ediv_add_emod a (2 ^ n)
 generalize a % 2 ^ n=r at *
 generalize a / 2 ^ n=q at *
 generalize (2:Int) ^ n=p at *
 constructor
 ·rcases Int.le_total 0 q with hq | hq
  ·omega
  ·rcases Int.lt_or_le q 0 with hq' | hq'
   ·have h6:p*(q+1)<=1*(q+1):=Int.mul_le_mul_of_nonpos_right (show 1<=p by omega) (by omega)
    rw[Int.mul_add] at h6
    omega
   ·omega
 ·rcases Int.le_total q 0 with hq | hq
  ·omega
  ·have h6:1*q<=p*q:=UO (show 1<=p by omega) hq
   omega
def XmH {op:BinOp} {k:IntKind} {a b:Int} {c:Prop} {r:Value} (h:JM op k a b=some (c,r)) (hc:c) (T:TypeId)
 (ha:wfV (.int k a)):(binOp op T (.int k a) (.int k b)).run P w=.ok r w/\wfV r:=by
 cases op<;>simp only[JM,Wc,Wi,reduceCtorEq] at h<;>obtain ⟨rfl,rfl⟩:=h
 ·exact ⟨by simp[binOp,Op.intArith],ZG _ _⟩
 ·exact ⟨by simp[binOp,Op.intArith],ZG _ _⟩
 ·exact ⟨by simp[binOp,Op.intArith],ZG _ _⟩
 ·exact ⟨by simp[binOp,Op.intDiv,hc],ZG _ _⟩
 ·refine ⟨by simp[binOp,Op.intDiv,hc],?_⟩
  simp only[wfV] at ha ⊢
  exact XmF a b _ _ ha.1 ha.2 (Xhi k) (Xhj k)
 ·exact ⟨by simp[binOp,Op.intBits],ZG _ _⟩
 ·exact ⟨by simp[binOp,Op.intBits],ZG _ _⟩
 ·exact ⟨by simp[binOp,Op.intBits],ZG _ _⟩
 ·exact ⟨by simp[binOp,Op.intBits],ZG _ _⟩
 ·exact ⟨by simp[binOp,Op.intCmp],trivial⟩
 ·exact ⟨by simp[binOp,Op.intCmp],trivial⟩
 ·exact ⟨by simp[binOp,Op.intCmp],trivial⟩
 ·exact ⟨by simp[binOp,Op.intCmp],trivial⟩
 ·exact ⟨by simp[binOp,Op.intCmp],trivial⟩
 ·exact ⟨by simp[binOp,Op.intCmp],trivial⟩
def kTy:Option IntKind->TypeDesc
 | some k=>.int k
 | none=>.bool
def Xip {M:Mem} {β:Loc} {k:Option IntKind} {x y:D} {b:Bool} (h:XdN k x y=some b) {vx vy:Value} (rx:Rep P M β x vx) (ry:Rep P M β y vy) (t:TypeId)
 (ht:P.underlying t=some (kTy k)) (d:Nat) (w:World) :
 (Op.equalIn (d+1) t vx vy).run P w=.ok b w:=by
 unfold XdN at h
 split at h
 ·rename_i k' j a k b'
  split at h
  ·rename_i hjk
   subst hjk
   obtain rfl:(a==b')=b:=by simpa using h
   simp only[Rep] at rx ry
   rw[rx.1,ry.1]
   exact run_equalIn_int w d t j k' a b' ht
  ·cases h
 ·rename_i a b'
  obtain rfl:(a==b')=b:=by simpa using h
  simp only[Rep] at rx ry
  rw[rx.1,ry.1]
  exact run_equalIn_bool' w d t a b' ht
 ·cases h
def XbQ {M:Mem} {β:Loc}:∀ (fs:List Field) (n d:Nat) (ks:List (Option IntKind)) (xs ys:List D) (b:Bool) (vx vy:List Value) (w:World),Zw P n fs=some ks->YO ks xs ys=some b ->
 (∀ (i:Nat) (d:D),xs[i]? = some d->∃ v,vx[n+i]? = some v/\Rep P M β d v)->(∀ (i:Nat) (d:D),ys[i]? = some d->∃ v,vy[n+i]? = some v/\Rep P M β d v) ->
 (Op.eqFields (d+1) ⟨vx⟩ ⟨vy⟩ fs).run P w=.ok b w
 | [],n,d,ks,xs,ys,b,vx,vy,w,hf,he,_,_=>by
  obtain rfl:[]=ks:=by simpa [Zw] using hf
  match xs,ys with
  | [],[]=>obtain rfl:true=b:=by simpa [YO] using he
           simp[Op.eqFields]
  | x::xs,_=>simp[YO] at he
  | [],y::ys=>simp[YO] at he
 | f::fs,n,d,ks,xs,ys,b,vx,vy,w,hf,he,hx,hy=>by
  unfold Zw at hf
  split at hf
  ·rename_i hc
   simp only[Ww,beq_iff_eq,bne_iff_ne] at hc
   obtain ⟨hoff,hname⟩:=hc
   have key:∃ k ks',ks=k::ks'/\Zw P (n+1) fs=some ks'/\P.underlying f.type=some (kTy k):=by
    split at hf
    ·rename_i k hk
     simp only[W7] at hf
     obtain ⟨ks',h1,rfl⟩:=hf
     exact ⟨some k,ks',rfl,h1,hk⟩
    ·rename_i hk
     simp only[W7] at hf
     obtain ⟨ks',h1,rfl⟩:=hf
     exact ⟨none,ks',rfl,h1,hk⟩
    ·cases hf
   obtain ⟨k,ks',rfl,hrest,hty⟩:=key
   match xs,ys with
   | [],_=>simp[YO] at he
   | x::xs,[]=>simp[YO] at he
   | x::xs,y::ys =>
    simp only[YO] at he
    split at he
    ·rename_i a b' ha hb
     obtain rfl:(a&&b')=b:=by simpa using he
     obtain ⟨v1,e1,r1⟩:=hx 0 x (by simp)
     obtain ⟨v2,e2,r2⟩:=hy 0 y (by simp)
     have hagg:(isAgg f.type).run P w=.ok false w:=by
      unfold isAgg
      cases k<;>simp[run_underlying hty,kTy]
     have p1:(part f.type ⟨vx⟩ f.offset).run P w=.ok v1 w:=by
      have:vx[f.offset]? = some v1:=by rw[hoff];simpa using e1
      simp[part,hagg,this]
     have p2:(part f.type ⟨vy⟩ f.offset).run P w=.ok v2 w:=by
      have:vy[f.offset]? = some v2:=by rw[hoff];simpa using e2
      simp[part,hagg,this]
     have hq:=Xip ha r1 r2 f.type hty d w
     have ih:=XbQ fs (n+1) d ks' xs ys b' vx vy w hrest hb
      (λ i d hd=>by
       obtain ⟨v,hv,hr⟩:=hx (i+1) d (by simpa using hd)
       exact ⟨v,by rw[← hv];congr 1;omega,hr⟩)
      (λ i d hd=>by
       obtain ⟨v,hv,hr⟩:=hy (i+1) d (by simpa using hd)
       exact ⟨v,by rw[← hv];congr 1;omega,hr⟩)
     simp only[Op.eqFields,hname,ne_eq,not_false_eq_true,if_true,Sem.run_bind,p1,p2,hq,Result.andThen_ok]
     cases a
     ·simp
     ·simp[ih]
    ·cases he
  ·cases hf
def XmI (I:U8 P C s U M β w) {op:BinOp} {T:TypeId} {x y:D} {c:Prop} {d:D} (h:Yy P op T x y=some (c,d)) (hc:c) {vx vy:Value} (rx:Rep P M β x vx) (ry:Rep P M β y vy) (ox oy:Operand) :
 VOK P C s [] U ver M β ((do eqGuard op T ox oy vx vy;binOp op T vx vy:Sem Value).run P w) d:=by
 unfold Yy at h
 split at h
 ·rename_i k a k' b
  simp only[Rep] at rx ry
  obtain ⟨rfl,wx⟩:=rx
  obtain ⟨rfl,wy⟩:=ry
  have hg:(eqGuard op T ox oy (.int k a) (.int k' b)).run P w=.ok () w:=by unfold eqGuard;cases op<;>simp
  split at h
  ·simp only[Wc,Wi] at h
   obtain ⟨rfl,rfl⟩:=h
   refine .same I (v:=.int k (k.wrap (a*2 ^ min b.toNat k.bits))) ?_ (Ze _ _ (ZG _ _))
   have:¬ b<0:=by omega
   simp[hg,binOp,Op.shift,this]
  ·simp only[Wc,Wi] at h
   obtain ⟨rfl,rfl⟩:=h
   have:¬ b<0:=by omega
   refine .same I (v:=.int k (a.fdiv (2 ^ min b.toNat k.bits))) ?_ (Ze _ _ ?_)
   ·simp[hg,binOp,Op.shift,this]
   ·simp only[wfV] at wx ⊢
    exact XmG a _ _ _ wx.1 wx.2 (Xhi k) (Xhj k)
  ·rename_i h1 h2
   split at h
   ·rename_i hk
    subst hk
    simp only[W7] at h
    obtain ⟨⟨c',r⟩,hb,he⟩:=h
    simp only[Wi] at he
    obtain ⟨rfl,rfl⟩:=he
    obtain ⟨e1,e2⟩:=XmH (P:=P) (w:=w) hb hc T wx
    exact .same I (v:=r) (by simp[hg,e1]) (by simp[Rep,e2])
   ·cases h
 ·rename_i a b
  simp only[Rep] at rx ry
  obtain ⟨rfl,wx⟩:=rx
  obtain ⟨rfl,wy⟩:=ry
  have hg:(eqGuard op T ox oy (.bool a) (.bool b)).run P w=.ok () w:=by unfold eqGuard;cases op<;>simp
  split at h
  ·rename_i z1 z2 z3 hT
   have hq:=run_equalIn_bool' w 9999 T a b (XeN hT)
   split at h
   ·simp only[Wc,Wi] at h
    obtain ⟨rfl,rfl⟩:=h
    refine .same I (v:=.bool (a==b)) ?_ (ZH _)
    simp[hg,binOp,Op.equal,Op.maxDepth,hq]
   ·simp only[Wc,Wi] at h
    obtain ⟨rfl,rfl⟩:=h
    refine .same I (v:=.bool (!(a==b))) ?_ (ZH _)
    simp[hg,binOp,Op.equal,Op.maxDepth,hq]
   ·cases h
  ·cases h
 ·rename_i xs ys
  split at h
  ·rename_i ks hks
   simp only[Rep] at rx ry
   obtain ⟨vxs,rfl,rx⟩:=rx
   obtain ⟨vys,rfl,ry⟩:=ry
   unfold Yc at hks
   split at hks
   ·rename_i fs hfs
    split at hks
    ·cases hks
    ·rename_i hno
     simp only[Ip,not_or,IR] at hno
     have hg:(eqGuard op T ox oy (.agg ⟨vxs⟩) (.agg ⟨vys⟩)).run P w=.ok () w:=run_eqGuard_agg w op T ox oy _ _ hno.2
     have hfo:P.fieldsOf T=fs:=by simp[Program.fieldsOf,hfs]
     have hq:∀ b,YO ks xs ys=some b->(Op.equalIn 10000 T (.agg ⟨vxs⟩) (.agg ⟨vys⟩)).run P w=.ok b w:=by
      intro b hb
      rw[run_equalIn_struct w 9999 T ⟨vxs⟩ ⟨vys⟩ (by rw[hfo];exact hfs) hno.1,hfo]
      exact XbQ fs.toList 0 9998 ks xs ys b vxs vys w hks hb (λ i d hd=>by simpa using rx.get i d hd) (λ i d hd=>by simpa using ry.get i d hd)
     split at h
     ·rename_i b hb
      simp only[Wc,Wi] at h
      obtain ⟨rfl,rfl⟩:=h
      refine .same I (v:=.bool b) ?_ (ZH _)
      simp[hg,run_eql_struct,hq b hb]
     ·rename_i b hb
      simp only[Wc,Wi] at h
      obtain ⟨rfl,rfl⟩:=h
      refine .same I (v:=.bool (!b)) ?_ (ZH _)
      simp[hg,run_neq_struct,hq b hb]
     ·cases h
   ·cases hks
  ·cases h
 ·cases h
end
variable {P:Program}
def XdR (off:Nat):∀ (vs:List Value) (k:Nat) (cells:Array Value),off+k+vs.length<=cells.size ->
 (((vs.zipIdx k).foldl (λ (cs:Array Value) (p:Value×Nat)=>cs.setIfInBounds (off+p.2) p.1) cells).toList=cells.toList.take (off+k)++vs++cells.toList.drop (off+k+vs.length))
 | [],k,cells,_=>by simp
 | v::vs,k,cells,h=>by
  simp only[Uc] at h
  rw[List.zipIdx_cons,I4,XdR off vs (k+1) _ (by simp;omega)]
  have:=list_seg_step cells.toList (off+k) v vs (by simpa using h)
  simpa [Array.toList_setIfInBounds,IN] using this
def XcR (e:List D) (c:Nat) (cs:List D) (h:c+cs.length<=e.length):(ZU e c cs).length=e.length:=by
 simp[ZU];omega
def Xgk (e:List D) (c:Nat) (cs:List D) (h:c+cs.length<=e.length) (i:Nat):(ZU e c cs)[i]? = if i<c then e[i]? else if i<c+cs.length then cs[i-c]? else e[i]?:=by
 unfold ZU
 rw[Ul,UN]
 have h1:(e.take c).length=c:=by simp;omega
 rw[h1]
 split
 ·rename_i hi;simp[hi]
 ·rename_i hi
  rw[UN]
  split
  ·rename_i h2;rw[Wn (by omega)]
  ·rename_i h2
   rw[Wm (by omega),Uu]
   congr 1;omega
def KV {α:Type} (e:List α) (c:Nat) (cs:List α) (h:c+cs.length<=e.length) (i:Nat):(e.take c++cs++e.drop (c+cs.length))[i]? = if i<c then e[i]? else if i<c+cs.length then cs[i-c]? else e[i]?:=by
 rw[Ul,UN]
 have h1:(e.take c).length=c:=by simp;omega
 rw[h1]
 split
 ·rename_i hi;simp[hi]
 ·rename_i hi
  rw[UN]
  split
  ·rename_i h2;rw[Wn (by omega)]
  ·rename_i h2
   rw[Wm (by omega),Uu]
   congr 1;omega
def RepL.take {M:Mem} {β:Loc} {ds:List D} {vs:List Value} (h:RepL P M β ds vs) (n:Nat):RepL P M β (ds.take n) (vs.take n):=by
 have:=h.length
 refine RepL.of (by simp;omega) λ i d x hd hx=>?_
 rw[W6] at hd hx
 split at hd
 ·rename_i hi
  rw[Wn hi] at hx
  obtain ⟨y,hy,hr⟩:=h.get i d hd
  rw[hx] at hy
  obtain rfl:x=y:=by simpa using hy
  exact hr
 ·cases hd
def RepL.drop {M:Mem} {β:Loc} {ds:List D} {vs:List Value} (h:RepL P M β ds vs) (n:Nat):RepL P M β (ds.drop n) (vs.drop n):=by
 have:=h.length
 refine RepL.of (by simp;omega) λ i d x hd hx=>?_
 rw[Uu] at hd hx
 obtain ⟨y,hy,hr⟩:=h.get _ d hd
 rw[hx] at hy
 obtain rfl:x=y:=by simpa using hy
 exact hr
def XbR {M:Mem} {β:Loc} (place place':Nat->Option (Nat×Nat)) (hp:∀ i x,place i=some x->place' i=some x):∀ (parts:List (Nat×D)) (vparts:List (Nat×Value)) (cs:List D) (vs:Array Value) (r:List D),
 XbI place cs parts=some r->RepL P M β cs vs.toList->parts.map (·.1)=vparts.map (·.1)->RepL P M β (parts.map (·.2)) (vparts.map (·.2)) ->
 ∃ vs',Instr.fill place' vs vparts=some vs'/\RepL P M β r vs'.toList
 | [],vparts,cs,vs,r,h,hcs,h1,_=>by
  match vparts,h1 with
  | [],_ =>
   obtain rfl:cs=r:=by simpa [XbI] using h
   exact ⟨vs,by simp[Instr.fill],hcs⟩
 | (i,d)::parts,vparts,cs,vs,r,h,hcs,h1,h2=>by
  match vparts,h1 with
  | (i',v)::vparts,h1 =>
   simp only[WX,List.cons.injEq] at h1
   obtain ⟨rfl,h1⟩:=h1
   simp only[WX,RepL] at h2
   obtain ⟨x,xs,e,hd,h2⟩:=h2
   obtain ⟨rfl,rfl⟩:v=x/\vparts.map (·.2)=xs:=by simpa using e
   unfold XbI at h
   split at h
   ·rename_i off sz ds hpl hdc
    split at h
    ·rename_i hsz
     obtain ⟨hs1,hs2⟩:=hsz
     obtain ⟨hrep,hone⟩:=Kr hdc hd
     have hvl:=hcs.length
     have hcsz:v.cells.size=sz:=by rw[VJ hdc hd,hs1]
     have hsp:=XdR off v.cells.toList 0 vs (by simp at hvl ⊢;omega)
     have hcs':RepL P M β (ZU cs off ds) ((v.cells.zipIdx.foldl (λ (cs:Array Value) (p:Value×Nat)=>cs.setIfInBounds (off+p.2) p.1) vs).toList):=by
      have e1:v.cells.zipIdx.foldl (λ (cs:Array Value) (p:Value×Nat)=>cs.setIfInBounds (off+p.2) p.1) vs=(v.cells.toList.zipIdx 0).foldl (λ (cs:Array Value) (p:Value×Nat)=>cs.setIfInBounds (off+p.2) p.1) vs:=by
       rw[← Array.foldl_toList,Array.toList_zipIdx]
      rw[e1,hsp]
      unfold ZU
      have e2:off+0+v.cells.toList.length=off+ds.length:=by simp[hcsz,hs1]
      rw[e2]
      exact ((hcs.take off).append hrep).append (hcs.drop _)
     obtain ⟨vs',k1,k2⟩:=XbR place place' hp parts vparts _ _ r h hcs' h1 h2
     refine ⟨vs',?_,k2⟩
     simp only[Instr.fill,hp _ _ hpl]
     have hne:¬ (v.cells.size≠sz||off+v.cells.size>vs.size)=true:=by
      simp at hvl ⊢;omega
     rw[Wm hne]
     exact k1
    ·cases h
   ·cases h
def XeP {z:Nat} {es:List (List D)} (h:∀ e∈es,e.length=z) (i:Nat) (e':List D) (hi:i<es.length) (he:e'.length=z) (k:Nat) :
 (es.set i e').flatten[k]? = if i*z<=k/\k<(i+1)*z then e'[k-i*z]? else es.flatten[k]?:=by
 have h':∀ e∈es.set i e',e.length=z:=by
  intro e hm
  rcases UK hm with hm | rfl
  ·exact h e hm
  ·exact he
 rcases Uq z with hz | hz
 ·subst hz
  rw[VY _ h',VY _ h]
  simp
 ·rw[YG h',YG h]
  have hk:=Nat.div_add_mod' k z
  have hm:=On k hz
  by_cases hq:k / z=i
  ·subst hq
   rw[Wn ⟨by omega,by rw[Ij];omega⟩]
   have:k-k / z*z=k % z:=by omega
   rw[this]
   simp[hi]
  ·rw[Wm]
   ·simp only[Wr]
    rw[List.getElem?_set_ne (Ne.symm hq)]
   ·rintro ⟨h1,h2⟩
    apply hq
    exact Nat.le_antisymm (Nat.le_of_lt_succ ((Ir hz).2 h2)) ((Nat.le_div_iff_mul_le hz).2 h1)
def Ym {es src:List (List D)} (k:Nat):(es++src).flatten[k]? = if k<es.flatten.length then es.flatten[k]? else src.flatten[k-es.flatten.length]?:=by
 rw[List.flatten_append,UN]
def XeQ {M:Mem} {β:Loc} (z:Nat):∀ (parts:List (Nat×D)) (vparts:List (Nat×Value)) (es:List (List D)) (vs:Array Value) (r:List (List D)),
 XbJ z es parts=some r->(∀ e∈es,e.length=z)->RepL P M β es.flatten vs.toList->parts.map (·.1)=vparts.map (·.1)->RepL P M β (parts.map (·.2)) (vparts.map (·.2))->(∀ x∈vs,x.oneCell'=true) ->
 ∃ vs',Instr.fill (λ i=>some (i*z,z)) vs vparts=some vs'/\RepL P M β r.flatten vs'.toList/\r.length=es.length/\(∀ e∈r,e.length=z)/\(∀ x∈vs',x.oneCell'=true)
 | [],vparts,es,vs,r,h,hz,hcs,h1,_,ho=>by
  match vparts,h1 with
  | [],_ =>
   obtain rfl:es=r:=by simpa [XbJ] using h
   exact ⟨vs,by simp[Instr.fill],hcs,rfl,hz,ho⟩
 | (i,d)::parts,vparts,es,vs,r,h,hz,hcs,h1,h2,ho=>by
  match vparts,h1 with
  | (i',v)::vparts,h1 =>
   simp only[WX,List.cons.injEq] at h1
   obtain ⟨rfl,h1⟩:=h1
   simp only[WX,RepL] at h2
   obtain ⟨x,xs,e,hd,h2⟩:=h2
   obtain ⟨rfl,rfl⟩:v=x/\vparts.map (·.2)=xs:=by simpa using e
   unfold XbJ at h
   split at h
   ·rename_i ds hdc
    split at h
    ·rename_i hsz
     obtain ⟨hs1,hs2⟩:=hsz
     obtain ⟨hrep,hone⟩:=Kr hdc hd
     have hvl:=hcs.length
     rw[XK hz] at hvl
     have hcsz:v.cells.size=z:=by rw[VJ hdc hd,hs1]
     have hle:(i+1)*z<=es.length*z:=W8 _ hs2
     have hle':i*z+z<=es.length*z:=by rw[Ij] at hle;exact hle
     have hsp:=XdR (i*z) v.cells.toList 0 vs (by simp at hvl ⊢;omega)
     have e1:v.cells.zipIdx.foldl (λ (cs:Array Value) (p:Value×Nat)=>cs.setIfInBounds (i*z+p.2) p.1) vs=(v.cells.toList.zipIdx 0).foldl (λ (cs:Array Value) (p:Value×Nat)=>cs.setIfInBounds (i*z+p.2) p.1) vs:=by
      rw[← Array.foldl_toList,Array.toList_zipIdx]
     have hz':∀ e∈es.set i ds,e.length=z:=by
      intro e hm
      rcases UK hm with hm | rfl
      ·exact hz e hm
      ·exact hs1
     have hcs':RepL P M β (es.set i ds).flatten ((v.cells.zipIdx.foldl (λ (cs:Array Value) (p:Value×Nat)=>cs.setIfInBounds (i*z+p.2) p.1) vs).toList):=by
      rw[e1,hsp]
      refine RepL.of ?_ λ k dk xk hdk hxk=>?_
      ·rw[XK hz'];simp at hvl ⊢;omega
      ·rw[XeP hz i ds hs2 hs1] at hdk
       rw[Im,KV _ _ _ (by simp at hvl ⊢;omega)] at hxk
       simp only[If,hcsz] at hxk
       split at hdk
       ·rename_i hk
        rw[Ij] at hk
        rw[Wm (by omega),Wn (by omega)] at hxk
        obtain ⟨y,hy,hr⟩:=hrep.get _ dk hdk
        rw[hxk] at hy
        obtain rfl:xk=y:=by simpa using hy
        exact hr
       ·rename_i hk
        rw[Ij] at hk
        obtain ⟨y,hy,hr⟩:=hcs.get _ dk hdk
        have:vs.toList[k]? = some xk:=by
         split at hxk
         ·exact hxk
         ·split at hxk
          ·omega
          ·exact hxk
        rw[this] at hy
        obtain rfl:xk=y:=by simpa using hy
        exact hr
     have ho':∀ x∈(v.cells.zipIdx.foldl (λ (cs:Array Value) (p:Value×Nat)=>cs.setIfInBounds (i*z+p.2) p.1) vs),x.oneCell'=true:=by
      intro x hx
      rw[e1] at hx
      have hx':x∈((v.cells.toList.zipIdx 0).foldl (λ (cs:Array Value) (p:Value×Nat)=>cs.setIfInBounds (i*z+p.2) p.1) vs).toList:=by simpa using hx
      rw[hsp] at hx'
      simp only[WK] at hx'
      rcases hx' with (hx' | hx') | hx'
      ·exact ho x (by simpa using W9 hx')
      ·exact hone x (by simpa using hx')
      ·exact ho x (by simpa using Uf hx')
     obtain ⟨vs',k1,k2,k3,k4,k5⟩:=XeQ z parts vparts _ _ r h hz' hcs' h1 h2 ho'
     refine ⟨vs',?_,k2,by simpa using k3,k4,k5⟩
     simp only[Instr.fill]
     have hne:¬ (v.cells.size≠z||i*z+v.cells.size>vs.size)=true:=by
      simp at hvl ⊢;omega
     rw[Wm hne]
     exact k1
    ·cases h
   ·cases h
variable {P:Program}
section
variable {C:Cx} {s:Heap} {U:Nat->Prop} {ver:Nat} {M:Mem} {β:Loc} {w:World}
def Xiq (s:Heap) (id v:Nat) (o:Ob):app s [(id,v,o)]=upd s id (some (v,o)):=rfl
def XdS (I:U8 P C s U M β w) (hv:¬ U ver) (bx:Bool) (id E z:Nat) (es:List (List D)) (cb:Nat) (cs:Array Value) (T:TypeId) (w1:World)
 (hw1:w1.heap=w.heap/\w1.os=w.os/\w1.tape=w.tape/\w1.output=w.output)
 (hcs:cs.size=cb*z) (hz:∀ e∈es,e.length=z) (hcb:es.length<=cb) (hl:es.length<=Xn) (hb:es.length*P.bytesOf E<=Xn)
 (hone:∀ x∈cs,x.oneCell'=true) (hrep:RepL P M (XbG bx β) es.flatten (cs.toList.take es.flatten.length)) :
 ∃ β',U8 P C (app s [(id,ver,.arr bx E z es 0)]) (λ x=>U x\/x=ver) M β' (w1.alloc (.cells cs T))/\β' id ver=some (some (w.heap.size,cb))/\BLe β β':=by
 have:=I.alloc hw1 hv bx id E z es cb cs T hcs hz hcb hl hb hone (λ i d hd=>by
  obtain ⟨x,hx,hr⟩:=hrep.get i d hd
  refine ⟨x,?_,hr⟩
  rw[W6] at hx
  split at hx
  ·simpa using hx
  ·cases hx)
 exact ⟨_,this.1,XF ..,this.2⟩
def XjJ (I:U8 P C s U M β w) (hv:¬ U ver) {T:TypeId} {ty:Ou} (hT:Xm P T=some ty) {x:Value} {cs:List D} (hrep:RepL P M β cs x.cells.toList) (hone:∀ y∈x.cells,y.oneCell'=true)
 (hsz:cs.length=ty.size) (hby:ty.bytes<=Xn) (id:Nat) :
 VOK P C s [(id,ver,.arr true T ty.size [cs] 0)] U ver M β ((do pure (Value.pointer (some (← newVar T x))):Sem Value).run P w) (.ept id ver ty.size 0 0):=by
 have hl:=hrep.length
 obtain ⟨β',I',hβ,hB⟩:=XdS I hv true id T ty.size [cs] 1 x.cells T w ⟨rfl,rfl,rfl,rfl⟩ (by simp at hl;omega) (by simpa using hsz) (by simp) (by simp[Xn]) (by rw[Js hT];simpa using hby) hone (by
  simp only[List.flatten_cons,List.flatten_nil,Iw]
  rw[In (by omega)];exact hrep)
 refine ⟨M,β',_,.pointer (some ⟨w.heap.size,0,none⟩),?_,I',?_,MLe.refl _,hB⟩
 ·simp[newVar,newRow]
 ·simp only[Rep]
  exact ⟨_,_,hβ,by simp⟩
def YU {ty:Ou} {cs:List D} (h:Ja ty=some cs):RepL P M β cs ty.zero.cells.toList/\∀ y∈ty.zero.cells,y.oneCell'=true :=
 Kr h (Jt _)
def XmJ (I:U8 P C s U M β w) {T:TypeId} {ty:Ou} (hT:Xm P T=some ty) {d:D} {y:Value} {c:Prop} {cs:List D} {o z:Nat} (h:XdM s d=some (c,cs,o,z)) (hc:c) (hfit:o+ty.size<=z)
 (hag:ty.isAgg=true\/ty.size=1) (hr:Rep P M β d y):VOK P C s [] U ver M β ((Instr.loadAt T y).run P w) (ZV ty.isAgg ((cs.drop o).take ty.size)):=by
 obtain ⟨b,o0,rfl,hl,hcell⟩:=Xhh I h hc hr
 obtain ⟨v,hv,hrv⟩:=XbP hT w M β b o0 o z cs hl hfit hcell (λ hf=>by rcases hag with h | h;(rw[h] at hf;cases hf);exact h)
 refine .same I (v:=v) ?_ hrv
 simp[Instr.loadAt,Instr.sureAddr,hv]
def XeR (I:U8 P C s U M β w) {T:TypeId} {ty:Ou} (hT:Xm P T=some ty) {id v z i c:Nat} {bx:Bool} {E fz:Nat} {es:List (List D)} (hs:s id=some (v,.arr bx E z es fz)) {y x:Value} {dx:D} {ds:List D}
 (hp:Rep P M β (.ept id v z i c) y) (hd:dx.cells=some ds) (hx:Rep P M (XbG bx β) dx x) (hi:i<es.length) (hfz:fz<=i) (hl:ds.length=ty.size) (hfit:c+ty.size<=z) :
 OpOK P C s [(id,v,.arr bx E z (es.set i (ZU (es.getD i []) c ds)) fz)] U ver M β ((do Instr.storeAt T y x;pure Next.skip:Sem Next).run P w) (.v undef):=by
 simp only[Rep] at hp
 obtain ⟨b,cb,hb,rfl⟩:=hp
 obtain ⟨x0,hx0,ho⟩:=I.obs id v _ hs
 rw[hb] at hx0
 obtain rfl:some (b,cb)=x0:=by simpa using hx0
 obtain ⟨vs,T0,k1,k2,k3,k4,k5,k6,k7,k8,k9,k10⟩:=ho
 obtain ⟨hrep,hone⟩:=Kr hd hx
 have hcsz:x.cells.size=ty.size:=by rw[VJ hd hx,hl]
 have he:(es.getD i []).length=z:=by
  rw[Wr,Wb hi]
  exact k3 _ (WW _)
 have hle:(i+1)*z<=cb*z:=W8 _ (by omega)
 rw[Ij] at hle
 have hst:=run_storeCells_at P b (i*z+c) T0 x.cells.toList 0 vs w k1 (by simp[hcsz];omega) (by simpa using hone)
 simp only[Im] at hst
 have hspl:(ZU (es.getD i []) c ds).length=z:=by rw[XcR _ _ _ (by omega)];exact he
 have I':=I.write hs hb k1 (cs':=(vs.toList.take (i*z+c)++x.cells.toList++vs.toList.drop (i*z+c+x.cells.toList.length)).toArray) (es':=es.set i (ZU (es.getD i []) c ds))
  (by simp[hcsz];omega) (by simp)
  (λ e hm=>by
   rcases UK hm with hm | rfl
   ·exact k3 e hm
   ·exact hspl)
  (λ y hy=>by
   simp only[Oc,WK] at hy
   rcases hy with (hy | hy) | hy
   ·exact k8 y (by simpa using W9 hy)
   ·exact hone y (by simpa using hy)
   ·exact k8 y (by simpa using Uf hy))
  (λ o ho=>by
   have hlt:o<i*z+c:=by
    have:fz*z<=i*z:=W8 _ hfz
    omega
   have hle2:i*z+c<=vs.size:=by omega
   simp only[UU,Ul]
   rw[Uy (by simp;omega),W6,Wn hlt]
   simp)
  (λ k d hk=>by
   rw[XeP k3 i _ hi hspl] at hk
   simp only[UU]
   rw[KV _ _ _ (by simp[hcsz];omega)]
   simp only[If,hcsz]
   split at hk
   ·rename_i hin
    rw[Ij] at hin
    rw[Xgk _ _ _ (by omega)] at hk
    have hold:∀ d,(es.getD i [])[k-i*z]? = some d->∃ x,vs.toList[k]? = some x/\Rep P M (XbG bx β) d x:=by
     intro d hd'
     obtain ⟨x,hx1,hx2⟩:=k10 (i*z+(k-i*z)) d (by rw[Jb k3 _ _ (by omega)];exact hd')
     have:i*z+(k-i*z)=k:=by omega
     rw[this] at hx1
     exact ⟨x,by simpa using hx1,hx2⟩
    split at hk
    ·rw[Wn (by omega)];exact hold d hk
    ·split at hk
     ·rw[Wm (by omega),Wn (by omega)]
      obtain ⟨x',hx1,hx2⟩:=hrep.get _ d hk
      refine ⟨x',?_,hx2⟩
      rw[← hx1];congr 1;omega
     ·rw[Wm (by omega),Wm (by omega)];exact hold d hk
   ·rename_i hout
    rw[Ij] at hout
    obtain ⟨x',hx1,hx2⟩:=k10 k d hk
    by_cases hlo:k<i*z+c
    ·rw[Wn hlo];exact ⟨x',by simpa using hx1,hx2⟩
    ·rw[Wm hlo,Wm (by omega)];exact ⟨x',by simpa using hx1,hx2⟩)
 refine ⟨M,β,_,undef,.inr ⟨?_,rfl⟩,(by rw[Xiq];exact I'.mono λ _ h=>Or.inl h),by simp[Rep,undef,wfV],MLe.refl _,BLe.refl _⟩
 have hnot:¬ x.cells.size≠ty.size:=by simp[hcsz]
 simp[Instr.storeAt,Instr.sureAddr,storeVar,YA hT,hcsz,hst]
end
variable {P:Program}
def Xa9 {p:Nat->Value->Prop}:∀ (n:Nat),(∀ k,k<n->∃ x,p k x)->∃ l:List Value,l.length=n/\∀ (k:Nat) (x:Value),l[k]? = some x->p k x
 | 0,_=>⟨[],rfl,by simp⟩
 | n+1,h=>by
  obtain ⟨l,h1,h2⟩:=Xa9 n (λ k hk=>h k (by omega))
  obtain ⟨x,hx⟩:=h n (by omega)
  refine ⟨l++[x],by simp[h1],λ k y hy=>?_⟩
  rw[UN] at hy
  split at hy
  ·exact h2 k y hy
  ·rename_i hge
   have:k-l.length=0:=by
    rcases Uq (k-l.length) with h0 | h0
    ·exact h0
    ·rw[WZ (by simp;omega)] at hy;cases hy
   rw[this] at hy
   have hk:k=n:=by omega
   obtain rfl:x=y:=by simpa using hy
   rw[hk];exact hx
section
variable {C:Cx} {s:Heap} {U:Nat->Prop} {ver:Nat} {M:Mem} {β:Loc} {w:World}
def XeS (I:U8 P C s U M β w) {z:Nat} {d:D} {c:Prop} {src:List (List D)} (h:elems s z d=some (c,src)) (hc:c) {y:Value} (hr:Rep P M β d y) :
 ∃ base cap vals,y=.slice base src.length cap/\(∀ e∈src,e.length=z)/\vals.length=src.length*z/\(base=none->src.length=0) /\
  (∀ a,base=some a->∀ (j:Nat) (v:Value),vals[j]? = some v->w.cell? (a.add j)=some v)/\RepL P M Yj src.flatten vals/\∀ v∈vals,v.oneCell'=true:=by
 unfold elems at h
 split at h
 ·obtain ⟨rfl,rfl⟩:True=c/\[]=src:=by simpa using h
  simp only[Rep] at hr
  obtain ⟨a,rfl⟩:=hr
  refine ⟨a,0,[],rfl,by simp,by simp,by simp,λ a' ha=>by simp,by simp[RepL],by simp⟩
 ·rename_i a cap
  obtain ⟨rfl,rfl⟩:True=c/\[]=src:=by simpa using h
  simp only[Rep] at hr
  obtain ⟨rfl,_⟩:=hr
  refine ⟨a,cap,[],rfl,by simp,by simp,by simp,λ a' ha=>by simp,by simp[RepL],by simp⟩
 ·rename_i E z' es
  split at h
  ·rename_i hz
   subst hz
   obtain ⟨rfl,rfl⟩:True=c/\es=src:=by simpa using h
   simp only[Rep] at hr
   obtain ⟨h1,h2,h3,a,cap,rfl,_,hr⟩:=hr
   rcases hr with rfl | ⟨b,o,rfl,hr⟩
   ·refine ⟨a,cap,[],rfl,by simp,by simp,by simp,λ a' ha=>by simp,by simp[RepL],by simp⟩
   ·obtain ⟨vals,l1,l2⟩:=Xa9 (p:=λ k x=>M b (o+k)=some x/\∀ d,es.flatten[k]? = some d->Rep P M Yj d x) (es.length*z) (λ k hk=>by
     have hzp:0<z:=by
      rcases Uq z with h0 | h0
      ·subst h0;simp at hk
      ·exact h0
     have hq:k / z<es.length:=(Ir hzp).2 hk
     have hm:=On k hzp
     have he:=hr.get h1 (k / z) es[k / z] (by simp[hq])
     have hlen:(es[k / z]).length=z:=h1 _ (WW _)
     obtain ⟨x,hx1,hx2⟩:=he.get (k % z) (es[k / z][k % z]'(by omega)) (by simp)
     refine ⟨x,?_,λ d hd=>?_⟩
     ·rw[← hx1];have:=Nat.div_add_mod' k z;congr 1;omega
     ·rw[YG h1,Wr,Wb hq] at hd
      simp only[UF] at hd
      rw[Wb (by omega)] at hd
      obtain rfl:=by simpa using hd
      exact hx2)
    refine ⟨some ⟨b,o,none⟩,cap,vals,rfl,h1,l1,by simp,λ a ha=>?_,?_,?_⟩
    ·obtain rfl:=by simpa using ha
     intro j v hv
     rw[U9]
     exact (I.mem b _ v (l2 j v hv).1).1
    ·refine RepL.of (by rw[l1,XK h1]) λ i d x hd hx=>?_
     exact (l2 i x hx).2 d hd
    ·intro v hv
     obtain ⟨i,hi,rfl⟩:=WU hv
     exact (I.mem b _ _ (l2 i _ (by simp)).1).2
  ·cases h
 ·rename_i id v z' off len
  split at h
  ·rename_i v' E z'' es fz hs
   split at h
   ·rename_i hv
    obtain ⟨rfl,rfl,rfl⟩:=hv
    obtain ⟨rfl,rfl⟩:(off+len<=es.length)=c/\(es.drop off).take len=src:=by simpa using h
    have hlen:((es.drop off).take len).length=len:=by simp;omega
    simp only[Rep] at hr
    rcases hr with ⟨hn,rfl,rfl,a,rfl⟩ | ⟨b,cb,o,cap,hb,rfl,hcap,hcb,ho⟩
    ·refine ⟨a,0,[],by simp,by simp,by simp,by simp,λ a' ha=>by simp,by simp[RepL],by simp⟩
    ·obtain ⟨x0,hx0,hob⟩:=I.obs id v _ hs
     rw[hb] at hx0
     obtain rfl:some (b,cb)=x0:=by simpa using hx0
     obtain ⟨vs,T0,k1,k2,k3,k4,k5,k6,k7,k8,k9,k10⟩:=hob
     have hcl:(off+len)*z<=cb*z:=W8 _ (by omega)
     rw[UE] at hcl
     have hsub:∀ e∈(es.drop off).take len,e.length=z:=λ e he=>k3 e (Uf (W9 he))
     refine ⟨some ⟨b,o,none⟩,cap,(vs.toList.drop (off*z)).take (len*z),by rw[hlen],hsub,by rw[hlen];simp;omega,by simp,λ a ha=>?_,?_,λ v hv=>k8 v (by simpa using Uf (W9 hv))⟩
     ·obtain rfl:=by simpa using ha
      intro j v hv
      rw[JQ] at hv
      split at hv
      ·rename_i hj
       have hcap0:cap≠0:=by
        rintro rfl
        have:len=0:=by omega
        subst this
        simp at hj
       have ho':o=off*z:=by rcases ho with h | h;exact h;exact absurd h hcap0
       subst ho'
       rw[U9,cell_of_row w b _ vs T0 (0,0) k1]
       simpa using hv
      ·cases hv
     ·refine RepL.of (by rw[XK hsub,hlen];simp;omega) λ i d x hd hx=>?_
      rw[JQ] at hx
      split at hx
      ·rename_i hi
       have hzp:0<z:=by
        rcases Uq z with h0 | h0
        ·subst h0;simp at hi
        ·exact h0
       have hdiv:=Nat.div_add_mod' i z
       have hm:=On i hzp
       have hq:i / z<len:=(Ir hzp).2 hi
       rw[YG hsub,Wr,JQ,Wn hq] at hd
       obtain ⟨y,hy,hry⟩:=k10 (off*z+i) d (by
        have:off*z+i=(off+i / z)*z+i % z:=by rw[UE];omega
        rw[this,Jb k3 _ _ hm,Wr];exact hd)
       rw[Ih,hy] at hx
       obtain rfl:y=x:=by simpa using hx
       exact hry
      ·cases hx
   ·cases h
  ·cases h
 ·cases h
section
variable {T T2 E E2:TypeId} {te:Ou} {o':TypeId} {sLen sCap:Nat}
def XjK (hT:P.underlying T=some (.slice E)) (hT2:P.underlying T2=some (.slice E2)) (hE:Xm P E=some te) {xb:Option Addr} {m xc:Nat} {news:List Value} {b o:Nat} {cur:Array Value} {T0:TypeId}
 (hroom:sLen+m<=sCap) (happ:(Builtin.firstCells te.size m (.slice xb m xc)).run P w=.ok news.toArray w) (hg:w.heap[b]? = some (.cells cur T0 (0,0))) (hfit:o+sLen*te.size+news.length<=cur.size) (h1:∀ u∈news,u.oneCell'=true) :
 (Builtin.append_ #[T,T2] o' #[.slice (some ⟨b,o,none⟩) sLen sCap,.slice xb m xc]).run P w =
  .ok (.slice (some ⟨b,o,none⟩) (sLen+m) sCap) (w.setRow b (cur.toList.take (o+sLen*te.size)++news++cur.toList.drop (o+sLen*te.size+news.length)).toArray):=by
 have hst:=run_storeCells_at P b (o+sLen*te.size) T0 news 0 cur w hg (by simpa using hfit) h1
 simp only[Im] at hst
 simp[Builtin.append_,run_underlying hT,run_underlying hT2,YA hE,Builtin.lenOf,hroom,happ,U9,hst]
def XjL (hT:P.underlying T=some (.slice E)) (hT2:P.underlying T2=some (.slice E2)) (hE:Xm P E=some te) {xb:Option Addr} {m xc:Nat} {news:List Value} (a:Option Addr)
 (hroom:sLen+m<=sCap) (happ:(Builtin.firstCells te.size m (.slice xb m xc)).run P w=.ok news.toArray w) (ha:news=[]) :
 (Builtin.append_ #[T,T2] o' #[.slice a sLen sCap,.slice xb m xc]).run P w=.ok (.slice a (sLen+m) sCap) w:=by
 subst ha
 cases a<;>simp[Builtin.append_,run_underlying hT,run_underlying hT2,YA hE,Builtin.lenOf,hroom,happ,storeCells]
def XjM (hT:P.underlying T=some (.slice E)) (hT2:P.underlying T2=some (.slice E2)) (hE:Xm P E=some te) {base:Option Addr} {xb:Option Addr} {m xc:Nat} {olds news:List Value}
 (hno:sCap<sLen+m) (hold:(Builtin.firstCells te.size sLen (.slice base sLen sCap)).run P w.drew=.ok olds.toArray w.drew) (happ:(Builtin.firstCells te.size m (.slice xb m xc)).run P w.drew=.ok news.toArray w.drew)
 (hb:(sLen+m)*te.bytes<=Xn) (hl:sLen+m<=Xn) :
 (Builtin.append_ #[T,T2] o' #[.slice base sLen sCap,.slice xb m xc]).run P w =
  .ok (.slice (some ⟨w.heap.size,0,none⟩) (sLen+m) (grownCap w (sLen+m) sCap E)) (w.drew.alloc (.cells (olds.toArray++news.toArray++Builtin.zeroCells te.zero.cells (grownCap w (sLen+m) sCap E-(sLen+m))) E)):=by
 have hn:¬ (sLen+m<=sCap):=by omega
 have h63':¬ (9223372036854775807<((sLen:Int)+(m:Int))):=by simp only[Xn] at hl;omega
 obtain ⟨i,d,hi,hu,hz,hsz,hby,_⟩:=X3 hE
 have h48':¬ (281474976710656<Builtin.nextslicecap (sLen+m) sCap*i.bytes):=by
  have:=growslice_fits (bytes:=te.bytes) hno (by simpa [Xn] using hb)
  rw[hby];omega
 simp[Builtin.append_,run_underlying hT,run_underlying hT2,Builtin.lenOf,hn,h63',sizeOf,typeInfo,hi,hsz,h48',Question.forced,hold,happ,zeroValue,hz,newRow,grownCap]
 congr 2
 apply Array.ext'
 simp[Ul]
def XmK (hT:P.underlying T=some (.slice E)) {k k':IntKind} (hT2:P.underlying T2=some (.int k)) (hE:Xm P E=some te) {n:Int} (h0:0<=n) (hn1:n<=Xn) (hn2:n.toNat*te.bytes<=Xn) {b o:Nat} {cur:Array Value} {T0:TypeId}
 {news:List Value} (hnews:news=(if n.toNat*te.size=0 then [] else (Builtin.zeroCells te.zero.cells n.toNat).toList))
 (hroom:sLen+n.toNat<=sCap) (hg:w.heap[b]? = some (.cells cur T0 (0,0))) (hfit:o+sLen*te.size+news.length<=cur.size) (h1:∀ u∈news,u.oneCell'=true) :
 (Builtin.append_ #[T,T2] o' #[.slice (some ⟨b,o,none⟩) sLen sCap,.int k' n]).run P w =
  .ok (.slice (some ⟨b,o,none⟩) (sLen+n.toNat) sCap) (w.setRow b (cur.toList.take (o+sLen*te.size)++news++cur.toList.drop (o+sLen*te.size+news.length)).toArray):=by
 have hst:=run_storeCells_at P b (o+sLen*te.size) T0 news 0 cur w hg (by simpa using hfit) h1
 simp only[Im] at hst
 have hw:IntKind.i64.wrap n=n:=by rw[IntKind.wrap_i64];simp only[Xn] at hn1;omega
 have hneg:¬ n<0:=by omega
 obtain ⟨i,d,hi,hu,hz,hsz,hby,_⟩:=X3 hE
 have hb48:¬ (281474976710656<n*(i.bytes:Int)):=by
  have:((n.toNat*te.bytes:Nat):Int)=n*te.bytes:=by rw[Int.natCast_mul,Int.toNat_of_nonneg h0]
  rw[hby,← this];simp only[Xn] at hn2;omega
 by_cases hz0:n.toNat*te.size=0
 ·rw[Wn hz0] at hnews
  subst hnews
  simp only[Iw,UG,Im,I7,Array.toArray_toList] at hst ⊢
  simp[Builtin.append_,run_underlying hT,run_underlying hT2,sizeOf,typeInfo,hi,hsz,asInt,asIntOf,hw,hneg,hb48,hroom,hz0,storeCells,setRow_self w b cur T0 (0,0) hg]
 ·rw[Wm hz0] at hnews
  have hza:(Builtin.zeroCells te.zero.cells n.toNat).toList=news:=hnews.symm
  simp[Builtin.append_,run_underlying hT,run_underlying hT2,sizeOf,typeInfo,hi,hsz,asInt,asIntOf,hw,hneg,hb48,hroom,hz0,zeroValue,hz,U9,hza,hst]
def XmL (hT:P.underlying T=some (.slice E)) {k k':IntKind} (hT2:P.underlying T2=some (.int k)) (hE:Xm P E=some te) {n:Int} (h0:0<=n) (hn1:n<=Xn) (hn2:n.toNat*te.bytes<=Xn) {base:Option Addr} {olds news:List Value}
 (hnews:news=(if n.toNat*te.size=0 then [] else (Builtin.zeroCells te.zero.cells n.toNat).toList))
 (hno:sCap<sLen+n.toNat) (hold:(Builtin.firstCells te.size sLen (.slice base sLen sCap)).run P w.drew=.ok olds.toArray w.drew)
 (hb:(sLen+n.toNat)*te.bytes<=Xn) (hl:sLen+n.toNat<=Xn) :
 (Builtin.append_ #[T,T2] o' #[.slice base sLen sCap,.int k' n]).run P w =
  .ok (.slice (some ⟨w.heap.size,0,none⟩) (sLen+n.toNat) (grownCap w (sLen+n.toNat) sCap E)) (w.drew.alloc (.cells (olds.toArray++news.toArray++Builtin.zeroCells te.zero.cells (grownCap w (sLen+n.toNat) sCap E-(sLen+n.toNat))) E)):=by
 have hn:¬ (sLen+n.toNat<=sCap):=by omega
 have hw:IntKind.i64.wrap n=n:=by rw[IntKind.wrap_i64];simp only[Xn] at hn1;omega
 have hneg:¬ n<0:=by omega
 have h63'':¬ (9223372036854775807<((sLen:Int)+max n 0)):=by simp only[Xn] at hl;omega
 obtain ⟨i,d,hi,hu,hz,hsz,hby,_⟩:=X3 hE
 have hb48:¬ (281474976710656<n*(i.bytes:Int)):=by
  have:((n.toNat*te.bytes:Nat):Int)=n*te.bytes:=by rw[Int.natCast_mul,Int.toNat_of_nonneg h0]
  rw[hby,← this];simp only[Xn] at hn2;omega
 have h48':¬ (281474976710656<Builtin.nextslicecap (sLen+n.toNat) sCap*i.bytes):=by
  have:=growslice_fits (bytes:=te.bytes) hno (by simpa [Xn] using hb)
  rw[hby];omega
 by_cases hz0:n.toNat*te.size=0
 ·rw[Wn hz0] at hnews
  subst hnews
  simp[Builtin.append_,run_underlying hT,run_underlying hT2,sizeOf,typeInfo,hi,hsz,asInt,asIntOf,hw,hneg,hb48,hn,h63'',h48',Question.forced,hold,hz0,zeroValue,hz,newRow,grownCap]
 ·rw[Wm hz0] at hnews
  have hza:(Builtin.zeroCells te.zero.cells n.toNat).toList=news:=hnews.symm
  have hza':Builtin.zeroCells te.zero.cells n.toNat=news.toArray:=by rw[← hza]
  simp[Builtin.append_,run_underlying hT,run_underlying hT2,sizeOf,typeInfo,hi,hsz,asInt,asIntOf,hw,hneg,hb48,hn,h63'',h48',Question.forced,hold,hz0,zeroValue,hz,newRow,grownCap,hza']
  congr 2
  apply Array.ext'
  simp[Ul]
end
end
variable {P:Program}
section
variable {C:Cx} {s:Heap} {U:Nat->Prop} {ver:Nat} {M:Mem} {β:Loc} {w:World}
def X6 (z:Array Value) (n:Nat):(Builtin.zeroCells z n).size=n*z.size:=by simp[Builtin.zeroCells]
def YV {z:Array Value} (h:∀ y∈z,y.oneCell'=true) (n:Nat):∀ y∈Builtin.zeroCells z n,y.oneCell'=true:=by
 intro y hy
 simp only[Builtin.zeroCells,Array.mem_map,Array.mem_range] at hy
 obtain ⟨i,hi,rfl⟩:=hy
 have hz:0<z.size:=by
  rcases Uq z.size with h0 | h0
  ·rw[h0] at hi;simp at hi
  ·exact h0
 have hm:=On i hz
 rw[getElem!_pos z _ hm]
 exact h _ (Array.getElem_mem _)
structure OB (P:Program) (w:World) (E:Nat) (te:Ou) (n:Nat) (vals:List Value) (run:Value->Result Value):Prop where
 room:∀ b o sLen sCap cur T0,sLen+n<=sCap->w.heap[b]? = some (.cells cur T0 (0,0))->o+sLen*te.size+vals.length<=cur.size ->
  run (.slice (some ⟨b,o,none⟩) sLen sCap)=.ok (.slice (some ⟨b,o,none⟩) (sLen+n) sCap) (w.setRow b (cur.toList.take (o+sLen*te.size)++vals++cur.toList.drop (o+sLen*te.size+vals.length)).toArray)
 none:∀ a sLen sCap,sLen+n<=sCap->vals=[]->run (.slice a sLen sCap)=.ok (.slice a (sLen+n) sCap) w
 grow:∀ base sLen sCap (olds:List Value),sCap<sLen+n->(Builtin.firstCells te.size sLen (.slice base sLen sCap)).run P w.drew=.ok olds.toArray w.drew->(sLen+n)*te.bytes<=Xn->sLen+n<=Xn ->
  run (.slice base sLen sCap)=.ok (.slice (some ⟨w.heap.size,0,.none⟩) (sLen+n) (grownCap w (sLen+n) sCap E)) (w.drew.alloc (.cells (olds.toArray++vals.toArray++Builtin.zeroCells te.zero.cells (grownCap w (sLen+n) sCap E-(sLen+n))) E))
def XbS (size:Nat) (a:Option Addr) (sCap:Nat) (w:World):(Builtin.firstCells size 0 (.slice a 0 sCap)).run P w=.ok #[] w:=by
 cases a<;>simp[Builtin.firstCells,loadCells,loadCellsFrom]
def Xhk (I:U8 P C s U M β w) (hv:¬ U ver) {E z:Nat} {te:Ou} {zc:List D} (hzc:Ja te=some zc) (hzl:zc.length=z)
 {src:List (List D)} {vals:List Value} (hsz:∀ e∈src,e.length=z) (hrep:RepL P M Yj src.flatten vals) (hone:∀ v∈vals,v.oneCell'=true) {E':Nat} (hb:src.length*P.bytesOf E'<=Xn) (hl:src.length<=Xn) (id:Nat) (cap:Nat) (hcap:src.length<=cap) :
 ∃ β',U8 P C (app s [(id,ver,.arr false E' z src 0)]) (λ x=>U x\/x=ver) M β' (w.drew.alloc (.cells (([]:List Value).toArray++vals.toArray++Builtin.zeroCells te.zero.cells (cap-src.length)) E)) /\
  β' id ver=some (some (w.heap.size,cap))/\BLe β β':=by
 obtain ⟨z1,z2⟩:=YU (P:=P) (M:=M) (β:=β) hzc
 have hzs:te.zero.cells.size=z:=by
  have:=z1.length
  simp at this;omega
 have hvl:vals.length=src.length*z:=by rw[hrep.length,XK hsz]
 refine XdS I hv false id E' z src cap _ E w.drew ⟨rfl,rfl,rfl,rfl⟩ ?_ hsz hcap hl hb ?_ ?_
 ·simp only[List.append_toArray,Ux,Array.size_append,List.size_toArray,X6,hzs,hvl,← UE]
  congr 1;omega
 ·intro x hx
  simp only[List.append_toArray,Ux,Array.mem_append,Oc] at hx
  rcases hx with hx | hx
  ·exact hone x hx
  ·exact YV z2 _ x hx
 ·have:(([]:List Value).toArray++vals.toArray++Builtin.zeroCells te.zero.cells (cap-src.length)).toList.take src.flatten.length=vals:=by
   have h1:src.flatten.length=vals.length:=hrep.length.symm
   simp[h1]
  rw[this];exact hrep
def Xhl (I:U8 P C s U M β w) (hv:¬ U ver) {E z:Nat} {te:Ou} (hE:Xm P E=some te) (hz:te.size=z) {zc:List D} (hzc:Ja te=some zc) (hzl:zc.length=z)
 {src:List (List D)} {vals:List Value} (hsz:∀ e∈src,e.length=z) (hrep:RepL P M Yj src.flatten vals) (hone:∀ v∈vals,v.oneCell'=true)
 {run:Value->Result Value} (R:OB P w E te src.length vals run) {sid:Nat} {c0 c:Prop} {d d':D} {u:Up} (h:XcP P s sid ver E z te.bytes c0 src d=some (c,d',u)) (hc:c) {y:Value} (hr:Rep P M β d y) :
 VOK P C s u U ver M β (run y) d':=by
 have hvl:vals.length=src.length*z:=by rw[hrep.length,XK hsz]
 obtain ⟨z1,z2⟩:=YU (P:=P) (M:=M) (β:=β) hzc
 have hzs:te.zero.cells.size=z:=by
  have:=z1.length
  simp at this;omega
 unfold XcP at h
 split at h
 ·
  simp only[Wc,Wi] at h
  obtain ⟨rfl,rfl,rfl⟩:=h
  obtain ⟨_,hl,hb⟩:=hc
  simp only[Rep] at hr
  obtain ⟨a,rfl⟩:=hr
  rcases Uq src.length with h0 | h0
  ·have hsrc:src=[]:=WQ h0
   subst hsrc
   have hvals:vals=[]:=WQ (by simpa using hvl)
   refine ⟨M,Y4 β sid ver none,w,_,R.none a 0 0 (by simp) hvals,I.setNil sid ver E z (YP (I.fresh hv sid)) (XF ..) YT,?_,MLe.refl _,YP (I.fresh hv sid)⟩
   simp only[Rep]
   exact .inl ⟨XF ..,by simp⟩
  ·have hg:=R.grow a 0 0 [] (by omega) (XbS _ _ _ _) (by simpa using hb) (by simpa using hl)
   simp only[Ut] at hg
   have hcap:=grownCap_ge w src.length 0 E
   obtain ⟨β',I',hβ,hB⟩:=Xhk (E:=E) I hv hzc hzl hsz hrep hone (E':=E) (by rw[Js hE];exact hb) hl sid _ hcap
   refine ⟨M,β',_,_,hg,I',?_,MLe.refl _,hB⟩
   simp only[Rep]
   exact .inr ⟨_,_,0,_,hβ,rfl,hcap,by simp,.inl (by simp)⟩
 ·rename_i id v z' off len
  split at h
  ·rename_i v' E' z'' es fz hs
   split at h
   ·rename_i hcond
    obtain ⟨rfl,rfl,rfl,hbE⟩:=hcond
    obtain ⟨x0,hx0,hob⟩:=I.obs id v _ hs
    split at h
    ·
     rename_i hend
     simp only[Wc,Wi] at h
     obtain ⟨rfl,rfl,rfl⟩:=h
     obtain ⟨_,rfl,hl,hb⟩:=hc
     simp only[Ut] at hend
     subst hend
     simp only[Rep] at hr
     have hid:=I.fresh hv id
     rcases hr with ⟨hn,_,hlen,a,rfl⟩ | ⟨b,cb,o,cap,hb1,rfl,hcap,hcb,ho⟩
     ·have hes:es=[]:=WQ hlen
      subst hes
      rw[hn] at hx0
      obtain rfl:none=x0:=by simpa using hx0
      simp only[ObRep] at hob
      obtain ⟨_,_,rfl⟩:=hob
      simp only[UG,Ut,Ux] at hl hb ⊢
      rcases Uq src.length with h0 | h0
      ·have hsrc:src=[]:=WQ h0
       subst hsrc
       have hvals:vals=[]:=WQ (by simpa using hvl)
       refine ⟨M,Y4 β id ver none,w,_,R.none a 0 0 (by simp) hvals,I.setNil id ver E' z (YP hid) (XF ..) YT,?_,MLe.refl _,YP hid⟩
       simp only[Rep]
       exact .inl ⟨XF ..,by simp⟩
      ·have hg:=R.grow a 0 0 [] (by omega) (XbS _ _ _ _) (by simpa using hb) (by simpa using hl)
       simp only[Ut] at hg
       have hcap:=grownCap_ge w src.length 0 E
       obtain ⟨β',I',hβ,hB⟩:=Xhk (E:=E) I hv hzc hzl hsz hrep hone (E':=E') (by rw[hbE];exact hb) hl id _ hcap
       refine ⟨M,β',_,_,hg,I',?_,MLe.refl _,hB⟩
       simp only[Rep]
       exact .inr ⟨_,_,0,_,hβ,rfl,hcap,by simp,.inl (by simp)⟩
     ·rw[hb1] at hx0
      obtain rfl:some (b,cb)=x0:=by simpa using hx0
      obtain ⟨cs,T0,k1,k2,k3,k4,k5,k6,k7,k8,k9,k10⟩:=hob
      have hcb':cap=cb:=by omega
      subst hcb'
      have hz':∀ e∈es++src,e.length=z:=λ e he=>by
       rcases WK.1 he with he | he
       ·exact k3 e he
       ·exact hsz e he
      have hfl:es.flatten.length=es.length*z:=XK k3
      have hBl:BLe β (Y4 β id ver (some (b,cap))):=YP hid
      have put:∀ (cs':Array Value) (w':World),w'.heap[b]? = some (.cells cs' T0 (0,0))->cs'.size=cs.size->es.length+src.length<=cap->(∀ x∈cs',x.oneCell'=true)->(∀ o,o<fz*z->cs'[o]? = cs[o]?) ->
       (∀ (i:Nat) (d:D),(es++src).flatten[i]? = some d->∃ x,cs'[i]? = some x/\Rep P M Yj d x)->(∀ k,k≠b->w'.heap[k]? = w.heap[k]?)->w'.os=w.os->w'.tape=w.tape->w'.output=w.output->w.heap.size<=w'.heap.size ->
       U8 P C (upd s id (some (ver,.arr false E' z (es++src) fz))) (λ x=>U x\/x=ver) M (Y4 β id ver (some (b,cap))) w':=by
       intro cs' w' h1 h2 h3 h4 h5 h6 h7 h8 h9 h10 h11
       refine I.set id ver _ b cap (MLe.refl M) hBl h7 (λ _ _ _=>rfl) ?_ (XF ..) ?_ ?_ (I.own id v (.arr false E' z es fz) b cap hs hb1:_\/(_/\false=true)) (λ _ _=>rfl) h8 h9 h10 h11 YT
       ·intro o x hx
        have ho:=k9 o
        rw[hx] at ho
        split at ho
        ·rename_i hlt
         rw[cell_of_row w' b o cs' T0 (0,0) h1,h5 o hlt]
         exact ⟨ho.symm,(I.mem b o x hx).2⟩
        ·cases ho
       ·refine ⟨cs',T0,h1,by rw[h2];exact k2,hz',by simpa using h3,by simpa using hl,by rw[hbE];simpa using hb,by simp;omega,h4,λ o=>?_,λ i d hd=>?_⟩
        ·rw[k9 o]
         split
         ·rename_i hlt;exact (h5 o hlt).symm
         ·rfl
        ·obtain ⟨x,hx,hr⟩:=h6 i d hd
         exact ⟨x,hx,hr⟩
       ·intro id' v' ob' cb' hne hs' hx'
        exact hne (I.inj id' v' ob' id v _ b cb' cap hs' hs hx' hb1)
      by_cases hroom:es.length+src.length<=cap
      ·by_cases hvals:vals=[]
       ·refine ⟨M,Y4 β id ver (some (b,cap)),w,_,R.none _ es.length cap hroom hvals,?_,?_,MLe.refl _,hBl⟩
        ·refine put cs w k1 rfl hroom k8 (λ _ _=>rfl) (λ i d hd=>?_) (λ _ _=>rfl) rfl rfl rfl (Ui _)
         rw[Ym] at hd
         split at hd
         ·exact k10 i d hd
         ·have:src.flatten=[]:=WQ (by rw[XK hsz,← hvl,hvals];rfl)
          rw[this] at hd;simp at hd
        ·simp only[Rep]
         exact .inr ⟨b,cap,o,cap,XF ..,rfl,hroom,by simp,ho⟩
       ·have hcap0:cap≠0:=by
         rintro rfl
         have:src.length=0:=by omega
         exact hvals (WQ (by rw[hvl,this];simp))
        have ho':o=0:=by rcases ho with h | h;simpa using h;exact absurd h hcap0
        subst ho'
        have hmul:(es.length+src.length)*z<=cap*z:=W8 _ hroom
        rw[UE] at hmul
        have hrun:=R.room b 0 es.length cap cs T0 hroom k1 (by rw[hz,hvl];omega)
        rw[hz] at hrun
        simp only[Ut] at hrun
        refine ⟨M,Y4 β id ver (some (b,cap)),_,_,hrun,?_,?_,MLe.refl _,hBl⟩
        ·refine put _ _ (setRow_heap w b cs _ T0 (0,0) k1) (by simp[hvl];omega) hroom ?_ ?_ ?_ (λ k hk=>setRow_other w b k _ hk) rfl rfl rfl (by simp)
         ·intro x hx
          simp only[Oc,WK] at hx
          rcases hx with (hx | hx) | hx
          ·exact k8 x (by simpa using W9 hx)
          ·exact hone x hx
          ·exact k8 x (by simpa using Uf hx)
         ·intro i hi
          have:fz*z<=es.length*z:=W8 _ k7
          simp only[UU]
          rw[KV _ _ _ (by simp;omega),Wn (by omega)]
          simp
         ·intro i d hd
          rw[Ym,hfl] at hd
          simp only[UU]
          rw[KV _ _ _ (by simp;omega)]
          split at hd
          ·rename_i hi
           rw[Wn hi]
           obtain ⟨x,hx,hr⟩:=k10 i d hd
           exact ⟨x,by simpa using hx,hr⟩
          ·rename_i hi
           rw[Wm hi]
           obtain ⟨x,hx,hr⟩:=hrep.get _ d hd
           have hlt:i-es.length*z<vals.length:=by
            rcases Uw (i-es.length*z) vals.length with h | h
            ·exact h
            ·rw[WZ h] at hx;cases hx
           rw[Wn (by omega)]
           exact ⟨x,hx,hr⟩
        ·simp only[Rep]
         exact .inr ⟨b,cap,0,cap,XF ..,rfl,hroom,by simp,.inl (by simp)⟩
      ·
       have hlt:cap<es.length+src.length:=by omega
       have holds:(Builtin.firstCells te.size es.length (.slice (some ⟨b,o,none⟩) es.length cap)).run P w.drew=.ok ((cs.toList.take (es.length*z)).toArray) w.drew:=by
        refine run_firstCells_some (P:=P) w.drew te.size es.length ⟨b,o,none⟩ es.length cap (cs.toList.take (es.length*z)) ?_ ?_
        ·have:es.length*z<=cap*z:=W8 _ k4
         simp[hz];omega
        ·intro j x hx
         rw[W6] at hx
         split at hx
         ·rename_i hj
          have hcap0:cap≠0:=by
           rintro rfl
           have:es.length=0:=by omega
           rw[this] at hj;simp at hj
          have ho':o=0:=by rcases ho with h | h;simpa using h;exact absurd h hcap0
          subst ho'
          rw[U9]
          show w.cell? ⟨b,0+j,none⟩=some x
          rw[Ut,cell_of_row w b j cs T0 (0,0) k1]
          simpa using hx
         ·cases hx
       have hg:=R.grow (some ⟨b,o,none⟩) es.length cap (cs.toList.take (es.length*z)) hlt holds hb hl
       have hcapn:=grownCap_ge w (es.length+src.length) cap E
       generalize hN:grownCap w (es.length+src.length) cap E=N at hg hcapn
       generalize hrow:((cs.toList.take (es.length*z)).toArray++vals.toArray++Builtin.zeroCells te.zero.cells (N-(es.length+src.length)))=row at hg
       have hescs:es.length*z<=cs.size:=by rw[k2];exact W8 _ k4
       have hrowsize:row.size=N*z:=by
        rw[← hrow]
        simp only[Array.size_append,List.size_toArray,WC,If,X6,hzs,hvl]
        have:min (es.length*z) cs.size=es.length*z:=by omega
        rw[this,← UE,← UE]
        congr 1;omega
       have hrowlist:row.toList=cs.toList.take (es.length*z)++(vals++(Builtin.zeroCells te.zero.cells (N-(es.length+src.length))).toList):=by rw[← hrow];simp
       have hrowget1:∀ i,i<es.length*z->row[i]? = cs[i]?:=by
        intro i hi
        rw[← Ih,hrowlist,Uy (by simp;omega),W6,Wn hi]
        simp
       have hrowget2:∀ i,i<vals.length->row[es.length*z+i]? = vals[i]?:=by
        intro i hi
        have h1:(cs.toList.take (es.length*z)).length=es.length*z:=by simp;omega
        rw[← Ih,hrowlist,UW (by omega),h1,IS,Uy hi]
       have hrowone:∀ x∈row,x.oneCell'=true:=by
        intro x hx
        have hx':x∈row.toList:=by simpa using hx
        rw[hrowlist] at hx'
        simp only[WK] at hx'
        rcases hx' with hx' | hx' | hx'
        ·exact k8 x (by simpa using W9 hx')
        ·exact hone x hx'
        ·exact YV z2 _ x (by simpa using hx')
       have hMnew:∀ i,M w.heap.size i=none:=by
        intro i
        cases hx:M w.heap.size i with
        | none=>rfl
        | some x=>exact absurd (I.mem.lt hx) (IC _)
       have hblt:b<w.heap.size:=by
        rcases Uw b w.heap.size with h' | h'
        ·exact h'
        ·simp[Ib h'] at k1
       let M':Mem:=λ k i=>if k=w.heap.size then (if i<fz*z then row[i]? else none) else M k i
       have hMle:MLe M M':=by
        intro k i x hx
        show (if k=w.heap.size then _ else M k i)=some x
        rw[Wm]
        ·exact hx
        ·rintro rfl;rw[hMnew] at hx;cases hx
       have hBl':BLe β (Y4 β id ver (some (w.heap.size,N))):=YP hid
       have hheap:∀ k,k≠w.heap.size->(w.drew.alloc (.cells row E)).heap[k]? = w.heap[k]?:=by
        intro k hk
        show (w.heap.push _)[k]? = _
        rw[Array.getElem?_push,Wm hk]
       have hnew:(w.drew.alloc (.cells row E)).heap[w.heap.size]? = some (.cells row E (0,0)):=by
        show (w.heap.push _)[w.heap.size]? = _
        simp
       refine ⟨M',Y4 β id ver (some (w.heap.size,N)),_,_,hg,?_,?_,hMle,hBl'⟩
       ·refine I.set id ver _ w.heap.size N hMle hBl' hheap (λ k hk i=>Wm hk) ?_ (XF ..) ?_ ?_ (.inl I.keep.size) ?_ rfl rfl rfl (by show w.heap.size<=(w.heap.push _).size;simp) YT
        ·intro i x hx
         have hx':(if i<fz*z then row[i]? else none)=some x:=by
          have:=hx
          simp only[M',if_true] at this
          exact this
         split at hx'
         ·rename_i hi
          rw[cell_of_row _ _ i row E (0,0) hnew]
          refine ⟨hx',hrowone x ?_⟩
          exact Array.mem_of_getElem? hx'
         ·cases hx'
        ·refine ⟨row,E,hnew,hrowsize,hz',by simpa using hcapn,by simpa using hl,by rw[hbE];simpa using hb,by simp;omega,hrowone,λ i=>?_,λ i d hd=>?_⟩
         ·simp only[M',if_true]
         ·rw[Ym,hfl] at hd
          split at hd
          ·rename_i hi
           obtain ⟨x,hx,hr⟩:=k10 i d hd
           exact ⟨x,by rw[hrowget1 i hi];exact hx,hr.mono hMle (BLe.refl _)⟩
          ·rename_i hi
           obtain ⟨x,hx,hr⟩:=hrep.get _ d hd
           have hlt2:i-es.length*z<vals.length:=by
            rcases Uw (i-es.length*z) vals.length with h | h
            ·exact h
            ·rw[WZ h] at hx;cases hx
           have:=hrowget2 _ hlt2
           have hi2:es.length*z+(i-es.length*z)=i:=by omega
           rw[hi2] at this
           exact ⟨x,by rw[this];exact hx,hr.mono hMle (BLe.refl _)⟩
        ·intro id' v' ob' cb' _ hs' hx'
         obtain ⟨yy,hy,hob'⟩:=I.obs id' v' ob' hs'
         rw[hx'] at hy
         obtain rfl:some (w.heap.size,cb')=yy:=by simpa using hy
         exact absurd hob'.lt (IC _)
        ·intro hlt' ;exact absurd I.keep.size (by omega)
       ·simp only[Rep]
        exact .inr ⟨w.heap.size,N,0,N,XF ..,rfl,hcapn,by simp,.inl (by simp)⟩
    ·
     rename_i hend
     simp only[Wc,Wi] at h
     obtain ⟨rfl,rfl,rfl⟩:=h
     obtain ⟨_,hfit,hfz⟩:=hc
     simp only[Rep] at hr
     rcases hr with ⟨hn,rfl,rfl,a,rfl⟩ | ⟨b,cb,o,cap,hb1,rfl,hcap,hcb,ho⟩
     ·rw[hn] at hx0
      obtain rfl:none=x0:=by simpa using hx0
      simp only[ObRep] at hob
      exact absurd (by rw[hob.2.1];rfl) hend
     ·rw[hb1] at hx0
      obtain rfl:some (b,cb)=x0:=by simpa using hx0
      obtain ⟨cs,T0,k1,k2,k3,k4,k5,k6,k7,k8,k9,k10⟩:=hob
      have hcap0:cap≠0:=by
       rintro rfl
       omega
      have ho':o=off*z:=by rcases ho with h | h;exact h;exact absurd h hcap0
      subst ho'
      have hroom:len+src.length<=cap:=by omega
      have hmul:(off+len+src.length)*z<=cb*z:=W8 _ (by omega)
      rw[UE,UE] at hmul
      have hrun:=R.room b (off*z) len cap cs T0 hroom k1 (by rw[hz,hvl];omega)
      rw[hz] at hrun
      have hpre:∀ e∈es.take (off+len)++src++es.drop (off+len+src.length),e.length=z:=by
       intro e he
       simp only[WK] at he
       rcases he with (he | he) | he
       ·exact k3 e (W9 he)
       ·exact hsz e he
       ·exact k3 e (Uf he)
      have I':=I.write hs hb1 k1 (cs':=(cs.toList.take (off*z+len*z)++vals++cs.toList.drop (off*z+len*z+vals.length)).toArray) (es':=es.take (off+len)++src++es.drop (off+len+src.length))
       (by simp[hvl];omega) (by simp;omega) hpre
       (λ x hx=>by
        simp only[Oc,WK] at hx
        rcases hx with (hx | hx) | hx
        ·exact k8 x (by simpa using W9 hx)
        ·exact hone x hx
        ·exact k8 x (by simpa using Uf hx))
       (λ i hi=>by
        have h1:fz*z<=(off+len)*z:=W8 _ hfz
        rw[UE] at h1
        simp only[UU]
        rw[KV _ _ _ (by simp;omega),Wn (by omega)]
        simp)
       (λ i d hd=>by
        simp only[UU]
        rw[KV _ _ _ (by simp;omega)]
        have htl:(es.take (off+len)).length=off+len:=by simp;omega
        have ht:(es.take (off+len)).flatten.length=off*z+len*z:=by
         rw[XK (λ e he=>k3 e (W9 he)),htl,UE]
        have hsrcl:src.flatten.length=vals.length:=hrep.length.symm
        rw[Ul,Ym,ht,Ym,hsrcl] at hd
        split at hd
        ·rename_i hi
         rw[Wn hi]
         have hd':es.flatten[i]? = some d:=by
          have hzp:0<z:=by
           rcases Uq z with h0 | h0
           ·subst h0;simp at hi
           ·exact h0
          rw[YG (λ e he=>k3 e (W9 he))] at hd
          rw[YG k3]
          have hq:i / z<off+len:=(Ir hzp).2 (by rw[UE];exact hi)
          rw[Wr,W6,Wn hq] at hd
          rw[Wr];exact hd
         obtain ⟨x,hx,hr⟩:=k10 i d hd'
         exact ⟨x,by simpa using hx,hr⟩
        ·rename_i hi
         rw[Wm hi]
         split at hd
         ·rename_i hi2
          rw[Wn (by omega)]
          obtain ⟨x,hx,hr⟩:=hrep.get _ d hd
          exact ⟨x,hx,hr⟩
         ·rename_i hi2
          rw[Wm (by omega)]
          have hd':es.flatten[i]? = some d:=by
           rcases Uq z with h0 | hzp
           ·subst h0
            rw[VY _ (λ e he=>k3 e (Uf he))] at hd
            cases hd
           ·rw[YG (λ e he=>k3 e (Uf he))] at hd
            rw[YG k3]
            have hN:i-(off*z+len*z)-vals.length=i-z*(off+len+src.length):=by rw[hvl,Nat.mul_comm z,UE,UE];omega
            have hge:(off+len+src.length)*z<=i:=by rw[UE,UE];omega
            rw[hN,Nat.sub_mul_div,Nat.sub_mul_mod (by rw[Nat.mul_comm];exact hge)] at hd
            rw[Wr,Uu] at hd
            have hq:off+len+src.length<=i / z:=(Nat.le_div_iff_mul_le hzp).2 hge
            have:off+len+src.length+(i / z-(off+len+src.length))=i / z:=by omega
            rw[this] at hd
            rw[Wr];exact hd
          obtain ⟨x,hx,hr⟩:=k10 i d hd'
          exact ⟨x,by simpa using hx,hr⟩)
      refine ⟨M,β,_,_,hrun,(by rw[Xiq];exact I'.mono λ _ h=>Or.inl h),?_,MLe.refl _,BLe.refl _⟩
      simp only[Rep]
      exact .inr ⟨b,cb,off*z,cap,hb1,rfl,hroom,hcb,.inl rfl⟩
   ·cases h
  ·cases h
 ·cases h
def U8.seg (I:U8 P C s U M β w) {id v E' z fz b cb p:Nat} {es src:List (List D)} {cs:Array Value} {T0:TypeId} {vals:List Value} (hs:s id=some (v,.arr false E' z es fz)) (hb1:β id v=some (some (b,cb)))
 (k1:w.heap[b]? = some (.cells cs T0 (0,0))) (k2:cs.size=cb*z) (k3:∀ e∈es,e.length=z) (k4:es.length<=cb) (k8:∀ x∈cs,x.oneCell'=true) (k10:∀ (i:Nat) (d:D),es.flatten[i]? = some d->∃ x,cs[i]? = some x/\Rep P M Yj d x)
 (hsz:∀ e∈src,e.length=z) (hvl:vals.length=src.length*z) (hrep:RepL P M Yj src.flatten vals) (hone:∀ x∈vals,x.oneCell'=true) (hfit:p+src.length<=es.length) (hfz:fz<=p) :
 U8 P C (upd s id (some (v,.arr false E' z (es.take p++src++es.drop (p+src.length)) fz))) U M β (w.setRow b (cs.toList.take (p*z)++vals++cs.toList.drop (p*z+vals.length)).toArray):=by
 have hmul:(p+src.length)*z<=cb*z:=W8 _ (by omega)
 rw[UE] at hmul
 have hpre:∀ e∈es.take (p)++src++es.drop (p+src.length),e.length=z:=by
  intro e he
  simp only[WK] at he
  rcases he with (he | he) | he
  ·exact k3 e (W9 he)
  ·exact hsz e he
  ·exact k3 e (Uf he)
 exact I.write hs hb1 k1 (cs':=(cs.toList.take (p*z)++vals++cs.toList.drop (p*z+vals.length)).toArray) (es':=es.take (p)++src++es.drop (p+src.length))
  (by simp[hvl];omega) (by simp;omega) hpre
  (λ x hx=>by
   simp only[Oc,WK] at hx
   rcases hx with (hx | hx) | hx
   ·exact k8 x (by simpa using W9 hx)
   ·exact hone x hx
   ·exact k8 x (by simpa using Uf hx))
  (λ i hi=>by
   have h1:fz*z<=(p)*z:=W8 _ hfz
   simp only[UU]
   rw[KV _ _ _ (by simp;omega),Wn (by omega)]
   simp)
  (λ i d hd=>by
   simp only[UU]
   rw[KV _ _ _ (by simp;omega)]
   have htl:(es.take (p)).length=p:=by simp;omega
   have ht:(es.take (p)).flatten.length=p*z:=by
    rw[XK (λ e he=>k3 e (W9 he)),htl]
   have hsrcl:src.flatten.length=vals.length:=hrep.length.symm
   rw[Ul,Ym,ht,Ym,hsrcl] at hd
   split at hd
   ·rename_i hi
    rw[Wn hi]
    have hd':es.flatten[i]? = some d:=by
     have hzp:0<z:=by
      rcases Uq z with h0 | h0
      ·subst h0;simp at hi
      ·exact h0
     rw[YG (λ e he=>k3 e (W9 he))] at hd
     rw[YG k3]
     have hq:i / z<p:=(Ir hzp).2 hi
     rw[Wr,W6,Wn hq] at hd
     rw[Wr];exact hd
    obtain ⟨x,hx,hr⟩:=k10 i d hd'
    exact ⟨x,by simpa using hx,hr⟩
   ·rename_i hi
    rw[Wm hi]
    split at hd
    ·rename_i hi2
     rw[Wn (by omega)]
     obtain ⟨x,hx,hr⟩:=hrep.get _ d hd
     exact ⟨x,hx,hr⟩
    ·rename_i hi2
     rw[Wm (by omega)]
     have hd':es.flatten[i]? = some d:=by
      rcases Uq z with h0 | hzp
      ·subst h0
       rw[VY _ (λ e he=>k3 e (Uf he))] at hd
       cases hd
      ·rw[YG (λ e he=>k3 e (Uf he))] at hd
       rw[YG k3]
       have hN:i-(p*z)-vals.length=i-z*(p+src.length):=by rw[hvl,Nat.mul_comm z,UE];omega
       have hge:(p+src.length)*z<=i:=by rw[UE];omega
       rw[hN,Nat.sub_mul_div,Nat.sub_mul_mod (by rw[Nat.mul_comm];exact hge)] at hd
       rw[Wr,Uu] at hd
       have hq:p+src.length<=i / z:=(Nat.le_div_iff_mul_le hzp).2 hge
       have:p+src.length+(i / z-(p+src.length))=i / z:=by omega
       rw[this] at hd
       rw[Wr];exact hd
     obtain ⟨x,hx,hr⟩:=k10 i d hd'
     exact ⟨x,by simpa using hx,hr⟩)
end
variable {P:Program}
section
variable {C:Cx} {s:Heap} {U:Nat->Prop} {ver:Nat} {M:Mem} {β:Loc} {w:World}
def OpOK.val (I:U8 P C s U M β w) {r:Result Next} {d:D} {v:Value} (hr:r=.ok (.value v) w) (h:Rep P M β d v):OpOK P C s [] U ver M β r d :=
 ⟨M,β,w,v,.inl hr,I.mono λ _ hv=>.inl hv,h,MLe.refl _,BLe.refl _⟩
def XdT {T T2 E E2:TypeId} {te:Ou} {o':TypeId} (hT:P.underlying T=some (.slice E)) (hT2:P.underlying T2=some (.slice E2)) (hE:Xm P E=some te)
 {xb:Option Addr} {m xc:Nat} {vals:List Value} (hn:vals.length=m*te.size) (h0:xb=none->m=0) (hc:∀ a,xb=some a->∀ (j:Nat) (v:Value),vals[j]? = some v->w.cell? (a.add j)=some v) (h1:∀ v∈vals,v.oneCell'=true) :
 OB P w E te m vals (λ y=>(Builtin.append_ #[T,T2] o' #[y,.slice xb m xc]).run P w):=by
 have hf:∀ w':World,(∀ a,w'.cell? a=w.cell? a)->(Builtin.firstCells te.size m (.slice xb m xc)).run P w'=.ok vals.toArray w':=by
  intro w' hw
  cases xb with
  | none =>
   have hm:=h0 rfl
   subst hm
   have:vals=[]:=WQ (by simpa using hn)
   subst this
   simp[Builtin.firstCells]
  | some a=>exact run_firstCells_some (P:=P) w' te.size m a m xc vals hn (λ j v hj=>by rw[hw];exact hc a rfl j v hj)
 exact {
  room:=λ b o sLen sCap cur T0 hr hg hfit=>XjK hT hT2 hE hr (hf w λ _=>rfl) hg hfit h1
  none:=λ a sLen sCap hr hv=>XjL hT hT2 hE a hr (hf w λ _=>rfl) hv
  grow:=λ base sLen sCap olds hno hold hb hl=>XjM hT hT2 hE hno hold (hf w.drew λ _=>rfl) hb hl }
def XeT {T T2 E:TypeId} {te:Ou} {o':TypeId} {k k':IntKind} (hT:P.underlying T=some (.slice E)) (hT2:P.underlying T2=some (.int k)) (hE:Xm P E=some te) {n:Int} (h0:0<=n) (hn1:n<=Xn) (hn2:n.toNat*te.bytes<=Xn)
 {vals:List Value} (hnews:vals=(if n.toNat*te.size=0 then [] else (Builtin.zeroCells te.zero.cells n.toNat).toList)) (h1:∀ v∈vals,v.oneCell'=true) (hz:te.zero.cells.size=te.size) :
 OB P w E te n.toNat vals (λ y=>(Builtin.append_ #[T,T2] o' #[y,.int k' n]).run P w):=by
 refine {
  room:=λ b o sLen sCap cur T0 hr hg hfit=>XmK hT hT2 hE h0 hn1 hn2 hnews hr hg hfit h1
  none:=λ a sLen sCap hr hv=>?_
  grow:=λ base sLen sCap olds hno hold hb hl=>XmL hT hT2 hE h0 hn1 hn2 hnews hno hold hb hl }
 have hw:IntKind.i64.wrap n=n:=by rw[IntKind.wrap_i64];simp only[Xn] at hn1;omega
 have hneg:¬ n<0:=by omega
 obtain ⟨i,d,hi,hu,hz',hsz,hby,_⟩:=X3 hE
 have hb48:¬ (281474976710656<n*(i.bytes:Int)):=by
  have:((n.toNat*te.bytes:Nat):Int)=n*te.bytes:=by rw[Int.natCast_mul,Int.toNat_of_nonneg h0]
  rw[hby,← this];simp only[Xn] at hn2;omega
 have hz0:n.toNat*te.size=0:=by
  rcases Uq (n.toNat*te.size) with h | h
  ·exact h
  ·rw[Wm (by omega)] at hnews
   have:(Builtin.zeroCells te.zero.cells n.toNat).toList.length=n.toNat*te.size:=by rw[If,X6,hz]
   rw[← hnews,hv] at this
   simp at this;omega
 cases a<;>simp[Builtin.append_,run_underlying hT,run_underlying hT2,sizeOf,typeInfo,hi,hsz,asInt,asIntOf,hw,hneg,hb48,hr,hz0,storeCells]
def YH (n:Nat) (zc:List D) (z:Nat) (hz:zc.length=z):∀ e∈List.replicate n zc,e.length=z:=by
 intro e he
 rw[List.mem_replicate] at he
 rw[he.2];exact hz
def Vk {te:Ou} {zc:List D} (hzc:Ja te=some zc) (n:Nat):RepL P M β (List.replicate n zc).flatten (Builtin.zeroCells te.zero.cells n).toList:=by
 obtain ⟨z1,z2⟩:=YU (P:=P) (M:=M) (β:=β) hzc
 have hl:te.zero.cells.size=zc.length:=by simpa using z1.length
 have hfl:=XK (YH n zc zc.length rfl)
 rw[WO] at hfl
 refine RepL.of (by rw[hfl,If,X6,hl]) λ i d x hd hx=>?_
 have hi:i<n*zc.length:=by
  rcases Uw i (n*zc.length) with h | h
  ·exact h
  ·rw[WZ (by omega)] at hd;cases hd
 have hzp:0<zc.length:=by
  rcases Uq zc.length with h | h
  ·rw[h] at hi;simp at hi
  ·exact h
 have hq:i / zc.length<n:=(Ir hzp).2 hi
 have hm:=On i hzp
 rw[YG (YH n zc zc.length rfl),Wr,IT,Wn hq] at hd
 simp only[UF] at hd
 obtain ⟨y,hy,hr⟩:=z1.get _ d hd
 have hx':x=y:=by
  rw[Ih] at hx
  simp only[Builtin.zeroCells,Array.getElem?_map,hl,Array.getElem?_range,hi,if_true] at hx
  simp only[Iv,Wc] at hx
  rw[getElem!_pos _ _ (by rw[hl];exact hm)] at hx
  rw[Ih,Array.getElem?_eq_getElem (by rw[hl];exact hm)] at hy
  rw[← hx];simpa using hy
 rw[hx'];exact hr
def XmM (I:U8 P C s U M β w) (hv:¬ U ver) {T E z:Nat} {a b:Nat} {zz:Value} {te:Ou} (hT:Xm P T=some ⟨a,b,zz,.slice E z⟩) (hE:Xm P E=some te) {zc:List D} (hzc:Ja te=some zc) (hzl:zc.length=z) (hz:te.size=z)
 {k k':IntKind} {n:Int} (h0:0<=n) (h1:n.toNat<=Xn) (h2:n.toNat*te.bytes<=Xn) (id:Nat) :
 VOK P C s [(id,ver,.arr false E z (List.replicate n.toNat zc) 0)] U ver M β ((Instr.makeSlice T (.int k n) (.int k' n)).run P w) (.osl id ver z 0 n.toNat):=by
 obtain ⟨i,d,hi,hu,hz',hsz,hby,_⟩:=X3 hE
 obtain ⟨z1,z2⟩:=YU (P:=P) (M:=M) (β:=β) hzc
 have hl:te.zero.cells.size=z:=by have:=z1.length;simp at this;omega
 have hrun:=run_make (P:=P) w T E i te.zero (X0 hT).1 hi hz' k k' n n h0 (Int.le_refl _) (by
  have:((n.toNat*te.bytes:Nat):Int)=n*te.bytes:=by rw[Int.natCast_mul,Int.toNat_of_nonneg h0]
  rw[hby,Om,← this];simp only[Xn] at h2;omega) (by simp only[Xn] at h1;omega)
 have hcells:madeCells te.zero.cells (n.toNat*i.size)=Builtin.zeroCells te.zero.cells n.toNat:=by rw[hsz,hz,← hl];rfl
 rw[hcells] at hrun
 obtain ⟨β',I',hβ,hB⟩:=XdS I hv false id E z (List.replicate n.toNat zc) n.toNat (Builtin.zeroCells te.zero.cells n.toNat) E w ⟨rfl,rfl,rfl,rfl⟩ (by rw[X6,hl]) (YH _ _ _ hzl) (by simp) (by simpa using h1) (by rw[Js hE];simpa using h2)
  (YV z2 _) (by
   rw[In]
   ·exact Vk hzc n.toNat
   ·rw[XK (YH _ _ _ hzl),If,X6,hl];simp)
 refine ⟨M,β',_,_,hrun,I',?_,MLe.refl _,hB⟩
 simp only[Rep]
 exact .inr ⟨_,_,0,_,hβ,rfl,Ui _,by simp,.inl (by simp)⟩
def XcS (I:U8 P C s U M β w) (hv:¬ U ver) {T E z n:Nat} {a b:Nat} {zz:Value} {te:Ou} (hT:Xm P T=some ⟨a,b,zz,.slice E z⟩) (hE:Xm P E=some te) {zc:List D} (hzc:Ja te=some zc) (hzl:zc.length=z) (hz:te.size=z)
 (hn1:n*z<=16777216) (hn2:n*te.bytes<=Xn) (hn3:n<=Xn) {parts:List (Nat×D)} {vparts:Array (Nat×Value)} {es:List (List D)} (h:XbJ z (List.replicate n zc) parts=some es)
 (h1:parts.map (·.1)=vparts.toList.map (·.1)) (h2:RepL P M Yj (parts.map (·.2)) (vparts.toList.map (·.2))) (id:Nat) :
 VOK P C s [(id,ver,.arr false E z es 0)] U ver M β ((Instr.buildSlice T n vparts).run P w) (.osl id ver z 0 n):=by
 obtain ⟨z1,z2⟩:=YU (P:=P) (M:=M) (β:=β) hzc
 have hl:te.zero.cells.size=z:=by have:=z1.length;simp at this;omega
 obtain ⟨vs,k1,k2,k3,k4,k5⟩:=XeQ z parts vparts.toList _ (Builtin.zeroCells te.zero.cells n) es h (YH _ _ _ hzl) (Vk hzc n) h1 h2 (λ x hx=>YV z2 n x hx)
 rw[WO] at k3
 have hrun:(Instr.buildSlice T n vparts).run P w=.ok (.slice (some ⟨w.heap.size,0,none⟩) n n) (w.alloc (.cells vs E)):=by
  have hbig:¬ (16777216<n*z):=by omega
  by_cases h0:n*z=0
  ·have hk:Instr.fill (λ i=>some (i*z,z)) #[] vparts.toList=some vs:=by
    have:Builtin.zeroCells te.zero.cells n=#[]:=by
     apply Array.eq_empty_of_size_eq_zero
     rw[X6,hl];exact h0
    rw[this] at k1;exact k1
   simp[Instr.buildSlice,run_underlying (X0 hT).1,YA hE,hz,h0,hk,newRow,Array.range_zero']
  ·have hzer:((Array.range (n*z)).map λ i=>te.zero.cells[i % te.zero.cells.size]!)=Builtin.zeroCells te.zero.cells n:=by rw[← hl];rfl
   simp only[Instr.buildSlice,Sem.run_bind,run_underlying (X0 hT).1,YA hE,hz,hbig,h0,newRow,Zn hE,Result.andThen_ok,Sem.run_ite,gt_iff_lt,if_false,Sem.run_pure,hzer,k1,Nat.reducePow,run_newObj,World.alloc_eq]
 have hsz:vs.size=n*z:=by have:=k2.length;rw[XK k4,k3] at this;simpa using this
 obtain ⟨β',I',hβ,hB⟩:=XdS I hv false id E z es n vs E w ⟨rfl,rfl,rfl,rfl⟩ hsz k4 (by omega) (by omega) (by rw[Js hE,k3];exact hn2) k5 (by
  rw[In]
  ·exact k2
  ·rw[XK k4,k3];simp[hsz])
 refine ⟨M,β',_,_,hrun,I',?_,MLe.refl _,hB⟩
 simp only[Rep]
 exact .inr ⟨_,_,0,_,hβ,rfl,Ui _,by simp,.inl (by simp)⟩
end
variable {P:Program}
section
variable {C:Cx} {s:Heap} {U:Nat->Prop} {ver:Nat} {M:Mem} {β:Loc} {w:World}
def Ju {d:D} {n:Int} (h:ivD d=some n) {y:Value} (hr:Rep P M β d y):∃ k,y=.int k n/\wfV (.int k n):=by
 unfold ivD at h
 split at h
 ·rename_i k m
  obtain rfl:m=n:=by simpa using h
  simp only[Rep] at hr
  exact ⟨k,hr.1,hr.2⟩
 ·cases h
def XdU {t:Operand->D} {ρ:Operand->Value} (hρ:∀ x,Rep P M β (t x) (ρ x)) (l:List Operand):RepL P M β (l.map t) (l.map ρ):=by
 induction l with
 | nil=>simp[RepL]
 | cons x l ih=>simp only[WX,RepL];exact ⟨_,_,rfl,hρ x,ih⟩
def Xc1 {t:Operand->D} {ρ:Operand->Value} (hρ:∀ x,Rep P M β (t x) (ρ x)) (l:List (Nat×Operand)) :
 (l.map λ p=>(p.1,t p.2)).map (·.1)=(l.map λ p=>(p.1,ρ p.2)).map (·.1)/\RepL P M β ((l.map λ p=>(p.1,t p.2)).map (·.2)) ((l.map λ p=>(p.1,ρ p.2)).map (·.2)):=by
 constructor
 ·simp
 ·simp only[List.map_map]
  have:=XdU hρ (l.map (·.2))
  simpa [List.map_map,Function.comp_def] using this
def Jv {t:Operand->D} {ρ:Operand->Value} (hρ:∀ x,Rep P M β (t x) (ρ x)) {o:Option Operand} {r:Option Int} (h:ivO t o=some r):∃ ks:IntKind,(o.map ρ)=r.map (λ n=>Value.int ks n):=by
 cases o with
 | none=>simp[ivO] at h;subst h;exact ⟨.i64,rfl⟩
 | some x =>
  simp only[ivO,W7] at h
  obtain ⟨n,hn,rfl⟩:=h
  obtain ⟨k,hk,_⟩:=Ju hn (hρ x)
  exact ⟨k,by simp[hk]⟩
def V0 (k:IntKind) (n:Int) (y:Nat) (code:BoundsCode) (h0:0<=n) (h1:n<=y):(Instr.sliceBound (.int k n) y code).run P w=.ok n.toNat w:=by
 simp[Instr.sliceBound,asIntOf,h0,h1]
def Kb (k1 k2:IntKind) (lo hi:Option Int) (len cap:Nat) (h0:0<=lo.getD 0) (h1:lo.getD 0<=hi.getD len) (h2:hi.getD len<=len) (h3:len<=cap) :
 (Instr.sliceBounds true len cap (lo.map (Value.int k1)) (hi.map (Value.int k2)) none).run P w=.ok ((lo.getD 0).toNat,(hi.getD len).toNat,cap) w:=by
 cases lo<;>cases hi<;>simp only[Option.getD_none,UF] at h0 h1 h2 ⊢
 ·simp[Instr.sliceBounds]
 ·rename_i b
  have hb:=V0 (P:=P) (w:=w) k2 b cap .sliceAcap (by omega) (by omega)
  simp[Instr.sliceBounds,hb]
 ·rename_i a
  have ha:=V0 (P:=P) (w:=w) k1 a len .sliceB (by omega) (by omega)
  simp[Instr.sliceBounds,ha]
 ·rename_i a b
  have hb:=V0 (P:=P) (w:=w) k2 b cap .sliceAcap (by omega) (by omega)
  have ha:=V0 (P:=P) (w:=w) k1 a b.toNat .sliceB (by omega) (by omega)
  simp[Instr.sliceBounds,hb,ha]
def JL (k1 k2 k3:IntKind) (lo hi mx:Option Int) (cap len:Nat) (h:mx=none\/hi≠none) (h1:lo.getD 0=0) (h2:hi.getD 0=0) (h3:mx.getD 0=0) (h4:(mx=none->cap=0)/\(hi=none->len=0)) :
 (Instr.sliceBounds true len cap (lo.map (Value.int k1)) (hi.map (Value.int k2)) (mx.map (Value.int k3))).run P w=.ok (0,0,0) w:=by
 have hz:∀ (k:IntKind) (y:Nat) (code:BoundsCode),(Instr.sliceBound (.int k 0) y code).run P w=.ok 0 w:=λ k y code=>by simp[Instr.sliceBound,asIntOf]
 cases hi with
 | none =>
  have hm:mx=none:=by rcases h with h | h;exact h;exact absurd rfl h
  subst hm
  obtain ⟨hc,hl⟩:=h4
  rw[hc rfl,hl rfl]
  cases lo with
  | none=>simp[Instr.sliceBounds]
  | some l=>simp only[UF] at h1;subst h1;simp[Instr.sliceBounds,hz]
 | some x =>
  simp only[UF] at h2
  subst h2
  cases mx with
  | none =>
   rw[h4.1 rfl]
   cases lo with
   | none=>simp[Instr.sliceBounds,hz]
   | some l=>simp only[UF] at h1;subst h1;simp[Instr.sliceBounds,hz]
  | some m =>
   simp only[UF] at h3
   subst h3
   cases lo with
   | none=>simp[Instr.sliceBounds,hz]
   | some l=>simp only[UF] at h1;subst h1;simp[Instr.sliceBounds,hz]
def Xir (I:U8 P C s U M β w) {T E sz:Nat} {a b:Nat} {zz:Value} (hT:Xm P T=some ⟨a,b,zz,.slice E sz⟩) {te:Ou} (hE:Xm P E=some te) {lo hi mx:Option Int} {k1 k2 k3:IntKind} {d d':D} {c:Prop} (h:XdP sz lo hi mx d=some (c,d')) (hc:c) {y:Value} (hr:Rep P M β d y) :
 VOK P C s [] U ver M β ((Instr.sliceAt T y (lo.map (Value.int k1)) (hi.map (Value.int k2)) (mx.map (Value.int k3))).run P w) d':=by
 obtain ⟨hu,hsz⟩:=X0 hT
 have hsize:(sizeOf E).run P w=.ok sz w:=by rw[YA hE,hsz,XbN hE]
 have start:∀ (base:Option Addr) (len cap:Nat),(Instr.sliceAt T (.slice base len cap) (lo.map (Value.int k1)) (hi.map (Value.int k2)) (mx.map (Value.int k3))).run P w =
  ((Instr.sliceBounds true len cap (lo.map (Value.int k1)) (hi.map (Value.int k2)) (mx.map (Value.int k3))).run P w).andThen λ r w' =>
   ((sizeOf E).run P w').andThen λ size w''=>.ok (.slice (if r.2.2=r.1 then base else base.map (·.add (r.1*size))) (r.2.1-r.1) (r.2.2-r.1)) w'':=by
  intro base len cap
  simp[Instr.sliceAt,Instr.slice,run_underlying hu]
 unfold XdP at h
 split at h
 ·have key:(mx=none\/hi≠none)/\(lo.getD 0=0/\hi.getD 0=0/\mx.getD 0=0)/\d'=.nsl:=by
   split at h
   ·cases h
   ·rename_i hne
    simp only[Wc,Wi] at h
    obtain ⟨rfl,rfl⟩:=h
    refine ⟨?_,hc,rfl⟩
    cases mx with
    | none=>exact .inl rfl
    | some m=>exact .inr λ h=>hne m rfl h
  obtain ⟨h1,⟨h2,h3,h4⟩,rfl⟩:=key
  simp only[Rep] at hr
  obtain ⟨a',rfl⟩:=hr
  refine .same I (v:=.slice a' 0 0) ?_ (by simp[Rep])
  rw[start,JL k1 k2 k3 lo hi mx 0 0 h1 h2 h3 h4 ⟨λ _=>rfl,λ _=>rfl⟩]
  simp[hsize]
 ·rename_i E' z es
  split at h
  ·rename_i hzz
   subst hzz
   simp only[Rep] at hr
   obtain ⟨q1,q2,q3,a',cap,rfl,hcap,hr⟩:=hr
   split at h
   ·simp only[Wc,Wi] at h
    obtain ⟨rfl,rfl⟩:=h
    obtain ⟨h0,h1,h2⟩:=hc
    have hlen:((es.drop (lo.getD 0).toNat).take ((hi.getD es.length).toNat-(lo.getD 0).toNat)).length=(hi.getD es.length).toNat-(lo.getD 0).toNat:=by simp;omega
    refine .same I (v:=.slice (if cap=(lo.getD 0).toNat then a' else a'.map (·.add ((lo.getD 0).toNat*z))) ((hi.getD es.length).toNat-(lo.getD 0).toNat) (cap-(lo.getD 0).toNat)) ?_ ?_
    ·rw[start,Option.map_none,Kb k1 k2 lo hi es.length cap h0 h1 h2 hcap]
     simp only[Result.andThen_ok,hsize]
    ·simp only[Rep]
     have hmul:((hi.getD es.length).toNat-(lo.getD 0).toNat)*P.bytesOf E'<=es.length*P.bytesOf E':=W8 _ (by omega)
     refine ⟨λ e he=>q1 e (Uf (W9 he)),by rw[hlen];omega,by rw[hlen];omega,_,_,by rw[hlen],by rw[hlen];omega,?_⟩
     rcases Uq ((hi.getD es.length).toNat-(lo.getD 0).toNat) with hz0 | hz0
     ·left;exact WQ (by rw[hlen];exact hz0)
     ·right
      rcases hr with rfl | ⟨b,o,rfl,hr⟩
      ·simp at hz0 h2;omega
      ·rw[Wm (by omega)]
       refine ⟨b,o+(lo.getD 0).toNat*z,by simp[U9],RepE.of (z:=z) (λ e he=>q1 e (Uf (W9 he))) λ i e he=>?_⟩
       rw[JQ] at he
       split at he
       ·have:=hr.get q1 _ e he
        rw[UE,← IN] at this;exact this
       ·cases he
   ·simp only[Wc,Wi] at h
    obtain ⟨rfl,rfl⟩:=h
    obtain ⟨h1,rfl,rfl⟩:=hc
    refine .same I (v:=.slice a' 0 0) ?_ (by simp[Rep])
    rw[start,JL k1 k2 k3 lo (some 0) (some 0) cap es.length (.inr (by simp)) h1 rfl rfl ⟨by simp,by simp⟩]
    simp[hsize]
   ·cases h
  ·cases h
 ·rename_i id v z off len
  split at h
  ·rename_i hzz
   subst hzz
   split at h
   ·simp only[Wc,Wi] at h
    obtain ⟨rfl,rfl⟩:=h
    obtain ⟨h0,h1,h2⟩:=hc
    simp only[Rep] at hr
    rcases hr with ⟨hn,rfl,rfl,a',rfl⟩ | ⟨b,cb,o,cap,hb1,rfl,hcap,hcb,ho⟩
    ·refine .same I (v:=.slice a' 0 0) ?_ ?_
     ·rw[start,Option.map_none,Kb k1 k2 lo hi 0 0 h0 h1 h2 (Ui _)]
      have e1:(lo.getD 0).toNat=0:=by omega
      have e2:(hi.getD ((0:Nat):Int)).toNat=0:=by omega
      simp only[Result.andThen_ok,hsize,e1,e2]
      simp
     ·have e1:(lo.getD 0).toNat=0:=by omega
      have e2:(hi.getD ((0:Nat):Int)).toNat=0:=by omega
      simp only[Rep,e1,e2]
      exact .inl ⟨hn,by simp⟩
    ·refine .same I (v:=.slice (some ⟨b,if cap=(lo.getD 0).toNat then o else o+(lo.getD 0).toNat*z,none⟩) ((hi.getD len).toNat-(lo.getD 0).toNat) (cap-(lo.getD 0).toNat)) ?_ ?_
     ·rw[start,Option.map_none,Kb k1 k2 lo hi len cap h0 h1 h2 hcap]
      simp only[Result.andThen_ok,hsize]
      split
      ·simp
      ·simp[U9]
     ·simp only[Rep]
      refine .inr ⟨b,cb,_,_,hb1,rfl,by omega,by omega,?_⟩
      split
      ·rename_i hcl;right;omega
      ·rename_i hcl
       left
       rcases ho with ho | ho
       ·rw[ho,UE]
       ·omega
   ·cases h
  ·cases h
 ·cases h
def XeU {M:Mem}:∀ {cs:List D} {b o:Nat},RepC P M cs b o->RepE P M (cs.map λ x=>[x]) b o
 | [],_,_,_=>by simp[RepE]
 | d::cs,b,o,h=>by
  simp only[RepC] at h
  simp only[WX,RepE,RepC]
  exact ⟨⟨h.1,trivial⟩,XeU h.2⟩
def Xis (I:U8 P C s U M β w) {T E n sz:Nat} {a b:Nat} {zz:Value} (hT:Xm P T=some ⟨a,b,zz,.array n E sz⟩) {te:Ou} (hE:Xm P E=some te) (h1:te.size=1) (h0:0<n) (h2:n<=Xn) (h3:n*P.bytesOf E<=Xn) {cs:List D} {y:Value} (hr:Rep P M β (.ipt n cs 0) y) :
 VOK P C s [] U ver M β ((Instr.sliceAt T y none none none).run P w) (.isl E 1 (cs.map λ x=>[x])):=by
 have hu:=(Kq hT).1
 have hsize:(sizeOf E).run P w=.ok 1 w:=by rw[YA hE,h1]
 simp only[Rep] at hr
 obtain ⟨hlen,bb,o,rfl,hr⟩:=hr
 refine .same I (v:=.slice (some ⟨bb,o,none⟩) n n) ?_ ?_
 ·have hne:¬ n=0:=by omega
  simp[Instr.sliceAt,run_underlying hu,Instr.sureAddr,Instr.sliceBounds,hsize,hne,U9]
 ·simp only[Rep]
  refine ⟨λ e he=>?_,by simp;omega,by simp only[W0,hlen];exact h3,some ⟨bb,o,none⟩,n,by simp[hlen],by simp;omega,.inr ⟨bb,o,rfl,XeU hr⟩⟩
  obtain ⟨x,_,rfl⟩:=UH.1 he
  rfl
end
variable {P:Program}
section
variable {C:Cx} {s:Heap} {U:Nat->Prop} {M:Mem} {β:Loc} {w:World}
def frz (s:Heap) (l:List Nat):Heap:=λ i=>if i∈l then (s i).map XbH else s i
def YD (s:Heap) (u v:Up):app s (u++v)=app (app s u) v:=by
 induction u generalizing s with
 | nil=>rfl
 | cons x u ih =>
  obtain ⟨i,k,o⟩:=x
  exact ih _
def JR (s0:Heap):∀ (l:List Nat) (s:Heap) (i:Nat),(∀ j,s j=s0 j\/s j=(s0 j).map XbH)->app s (VI s0 l) i=if i∈l then (s0 i).map XbH else s i
 | [],s,i,_=>by simp[VI,app]
 | j::l,s,i,h=>by
  unfold VI
  split
  ·rename_i x hx
   show app (upd s j (some (XbH x))) (VI s0 l) i=_
   rw[JR s0 l _ i (λ k=>by
    by_cases hk:k=j
    ·subst hk;rw[Yt];right;rw[hx];rfl
    ·rw[X2 _ _ _ _ hk];exact h k)]
   by_cases hi:i∈l
   ·simp[hi]
   ·by_cases hij:i=j
    ·subst hij;simp[hi,hx,Yt]
    ·simp[hi,hij,X2]
  ·rename_i hx
   rw[JR s0 l s i h]
   by_cases hi:i∈l
   ·simp[hi]
   ·by_cases hij:i=j
    ·subst hij
     have:s i=none:=by rcases h i with h | h<;>simp[h,hx]
     simp[hi,hx,this]
    ·simp[hi,hij]
def JS (s:Heap) (l:List Nat):app s (VI s l)=frz s l:=by
 funext i
 rw[JR s l s i (λ _=>.inl rfl)]
 rfl
def Frz (s:Heap) (M:Mem) (β:Loc) (w:World) (l:List Nat):Prop :=
 ∀ id∈l,∀ v E z es fz b cb cs T,s id=some (v,.arr false E z es fz)->β id v=some (some (b,cb))->w.heap[b]? = some (.cells cs T (0,0))->∀ o,o<es.length*z->M b o=cs[o]?
open Classical in
def U8.freeze (h:U8 P C s U M β w) (l:List Nat):∃ M',U8 P C (frz s l) U M' β w/\MLe M M'/\Frz s M' β w l:=by
 let hit (b o:Nat):Prop:=∃ id v E z es fz cb,id∈l/\s id=some (v,.arr false E z es fz)/\β id v=some (some (b,cb))/\o<es.length*z
 let M':Mem:=λ b o=>if hit b o then w.cell? ⟨b,o,none⟩ else M b o
 have hcell:∀ {id v E z es fz b cb},s id=some (v,.arr false E z es fz)->β id v=some (some (b,cb))->∃ cs T,w.heap[b]? = some (.cells cs T (0,0))/\cs.size=cb*z/\es.length<=cb/\(∀ x∈cs,x.oneCell'=true)/\(∀ o,M b o=if o<fz*z then cs[o]? else none):=by
  intro id v E z es fz b cb hs hb
  obtain ⟨x,hx,hr⟩:=h.obs id v _ hs
  rw[hb] at hx
  obtain rfl:some (b,cb)=x:=by simpa using hx
  obtain ⟨cs,T,k1,k2,k3,k4,k5,k6,k7,k8,k9,k10⟩:=hr
  exact ⟨cs,T,k1,k2,k4,k8,k9⟩
 have hMle:MLe M M':=by
  intro b o x hx
  show (if hit b o then _ else M b o)=some x
  split
  ·exact (h.mem b o x hx).1
  ·exact hx
 have hval:∀ {id v E z es fz b cb},id∈l->s id=some (v,.arr false E z es fz)->β id v=some (some (b,cb))->∀ {cs T},w.heap[b]? = some (.cells cs T (0,0))->∀ o,M' b o=if o<es.length*z then cs[o]? else none:=by
  intro id v E z es fz b cb hl hs hb cs T hcs o
  obtain ⟨cs',T',g1,g2,g3,g4,g5⟩:=hcell hs hb
  rw[hcs] at g1
  obtain ⟨rfl,rfl⟩:cs=cs'/\T=T':=by simpa using g1
  show (if hit b o then _ else M b o)=_
  by_cases ho:o<es.length*z
  ·rw[Wn ⟨id,v,E,z,es,fz,cb,hl,hs,hb,ho⟩,Wn ho,cell_of_row w b o cs T (0,0) hcs]
  ·rw[Wm,Wm ho,g5 o,Wm]
   ·obtain ⟨x,hx,hr⟩:=h.obs id v _ hs
    rw[hb] at hx
    obtain rfl:some (b,cb)=x:=by simpa using hx
    obtain ⟨_,_,_,_,_,_,_,_,k7,_⟩:=hr
    have:fz*z<=es.length*z:=W8 _ k7
    omega
   ·rintro ⟨id',v',E',z',es',fz',cb',hl',hs',hb',ho'⟩
    have hid:=h.inj id v _ id' v' _ b cb cb' hs hs' hb hb'
    subst hid
    rw[hs] at hs'
    obtain ⟨rfl,rfl,rfl,rfl,rfl⟩:v=v'/\E=E'/\z=z'/\es=es'/\fz=fz':=by simpa using hs'
    exact ho ho'
 have hoff:∀ b,(∀ id v E z es fz cb,id∈l->s id=some (v,.arr false E z es fz)->β id v≠some (some (b,cb)))->∀ o,M' b o=M b o:=by
  intro b hb o
  show (if hit b o then _ else M b o)=_
  rw[Wm]
  rintro ⟨id',v',E',z',es',fz',cb',hl',hs',hb',ho'⟩
  exact hb id' v' E' z' es' fz' cb' hl' hs' hb'
 have hsv:∀ id v ob,frz s l id=some (v,ob)->∃ ob0,s id=some (v,ob0)/\ob.bx=ob0.bx/\(ob=ob0\/(id∈l/\∃ E z es fz,ob0=.arr false E z es fz/\ob=.arr false E z es es.length)):=by
  intro id v ob hs
  unfold frz at hs
  split at hs
  ·rename_i hl
   simp only[W7] at hs
   obtain ⟨⟨v0,o0⟩,h1,h2⟩:=hs
   cases o0 with
   | raw o=>simp[XbH] at h2;obtain ⟨rfl,rfl⟩:=h2;exact ⟨_,h1,rfl,.inl rfl⟩
   | mp es=>simp[XbH] at h2;obtain ⟨rfl,rfl⟩:=h2;exact ⟨_,h1,rfl,.inl rfl⟩
   | arr bx E z es fz =>
    cases bx with
    | true=>simp[XbH] at h2;obtain ⟨rfl,rfl⟩:=h2;exact ⟨_,h1,rfl,.inl rfl⟩
    | false=>simp[XbH] at h2;obtain ⟨rfl,rfl⟩:=h2;exact ⟨_,h1,rfl,.inr ⟨hl,_,_,_,_,rfl,rfl⟩⟩
  ·exact ⟨ob,hs,rfl,.inl rfl⟩
 refine ⟨M',?_,hMle,λ id hl v E z es fz b cb cs T hs hb hcs o ho=>by rw[hval hl hs hb hcs,Wn ho]⟩
 constructor
 ·intro b o x hx
  have hx':(if hit b o then w.cell? ⟨b,o,none⟩ else M b o)=some x:=hx
  split at hx'
  ·rename_i hh
   obtain ⟨id',v',E',z',es',fz',cb',hl',hs',hb',ho'⟩:=hh
   obtain ⟨cs',T',g1,g2,g3,g4,g5⟩:=hcell hs' hb'
   refine ⟨hx',?_⟩
   rw[cell_of_row w b o cs' T' (0,0) g1] at hx'
   exact g4 x (Array.mem_of_getElem? hx')
  ·exact h.mem b o x hx'
 ·exact h.used
 ·intro id v ob hs
  obtain ⟨ob0,h1,_,h2⟩:=hsv id v ob hs
  obtain ⟨x,hx,hr⟩:=h.obs id v ob0 h1
  refine ⟨x,hx,?_⟩
  rcases h2 with rfl | ⟨hl,E,z,es,fz,rfl,rfl⟩
  ·by_cases hf:id∈l/\∃ E z es fz,ob=.arr false E z es fz
   ·obtain ⟨hl,E,z,es,fz,rfl⟩:=hf
    cases x with
    | none=>simpa [ObRep] using hr
    | some bc =>
     obtain ⟨b,cb⟩:=bc
     obtain ⟨cs,T,k1,k2,k3,k4,k5,k6,k7,k8,k9,k10⟩:=hr
     have hlen:fz=es.length:=by
      have:=hs
      unfold frz at this
      rw[Wn hl,h1] at this
      simp[XbH] at this
      omega
     subst hlen
     exact ⟨cs,T,k1,k2,k3,k4,k5,k6,k7,k8,λ o=>hval hl h1 hx k1 o,λ i d hd=>by
      obtain ⟨y,hy,hr⟩:=k10 i d hd
      exact ⟨y,hy,hr.mono hMle (BLe.refl _)⟩⟩
   ·refine hr.mono hMle (BLe.refl _) (λ _ _ _=>rfl) ?_
    rintro b cb rfl o
    refine hoff b ?_ o
    rintro id' v' E' z' es' fz' cb' hl' hs' hb'
    have hid:=h.inj id v _ id' v' _ b cb cb' h1 hs' hx hb'
    subst hid
    rw[h1] at hs'
    simp at hs'
    exact hf ⟨hl',_,_,_,_,hs'.2⟩
  ·cases x with
   | none =>
    simp only[ObRep] at hr ⊢
    obtain ⟨_,rfl,_⟩:=hr
    simp
   | some bc =>
    obtain ⟨b,cb⟩:=bc
    obtain ⟨cs,T,k1,k2,k3,k4,k5,k6,k7,k8,k9,k10⟩:=hr
    exact ⟨cs,T,k1,k2,k3,k4,k5,k6,Ui _,k8,λ o=>hval hl h1 hx k1 o,λ i d hd=>by
     obtain ⟨y,hy,hr⟩:=k10 i d hd
     exact ⟨y,hy,hr.mono hMle (BLe.refl _)⟩⟩
 ·intro id v ob b cb hs hb
  obtain ⟨ob0,h1,h2,_⟩:=hsv id v ob hs
  rw[h2]
  exact h.own id v ob0 b cb h1 hb
 ·intro id v ob id' v' ob' b cb cb' hs hs' hb hb'
  obtain ⟨ob0,h1,_⟩:=hsv id v ob hs
  obtain ⟨ob0',h1',_⟩:=hsv id' v' ob' hs'
  exact h.inj id v ob0 id' v' ob0' b cb cb' h1 h1' hb hb'
 ·exact h.keep
 ·intro b o hb
  rw[hoff b ?_ o]
  ·exact h.old b o hb
  ·intro id v E z es fz cb hl hs hbb
   rcases h.own id v _ b cb hs hbb with h1 | h1
   ·omega
   ·simp[Ob.bx] at h1
 ·exact h.le.trans hMle
 ·exact h.glob
mutual
def snap_rep {M':Mem} (I:U8 P C s U M β w) (hM:MLe M M'):∀ {d d':D} {c:Prop} {l:List Nat},snap s d=some (c,d',l)->c->Frz s M' β w l->∀ {y:Value},Rep P M β d y->Rep P M' Yj d' y
 | .osl id ver z off len,d',c,l,h,hc,hF,y,hr=>by
  unfold snap at h
  split at h
  ·rename_i v' E z' es fz hs
   split at h
   ·rename_i hv
    obtain ⟨rfl,rfl⟩:=hv
    simp only[Wc,Wi] at h
    obtain ⟨rfl,rfl,rfl⟩:=h
    have hlen:((es.drop off).take len).length=len:=by simp;omega
    obtain ⟨x,hx,hob⟩:=I.obs id ver _ hs
    simp only[Rep] at hr
    rcases hr with ⟨hn,rfl,rfl,a,rfl⟩ | ⟨b,cb,o,cap,hb,rfl,hcap,hcb,ho⟩
    ·simp only[Rep]
     exact ⟨by simp,by simp[Xn],by simp[Xn],a,0,by simp,by simp,.inl (by simp)⟩
    ·rw[hb] at hx
     obtain rfl:some (b,cb)=x:=by simpa using hx
     obtain ⟨cs,T,k1,k2,k3,k4,k5,k6,k7,k8,k9,k10⟩:=hob
     have hsub:∀ e∈(es.drop off).take len,e.length=z:=λ e he=>k3 e (Uf (W9 he))
     have hmul:len*P.bytesOf E<=es.length*P.bytesOf E:=W8 _ (by omega)
     simp only[Rep]
     refine ⟨hsub,by rw[hlen];omega,by rw[hlen];omega,_,cap,by rw[hlen],by rw[hlen];exact hcap,?_⟩
     rcases Uq len with h0 | h0
     ·left;exact WQ (by rw[hlen];exact h0)
     ·right
      have ho':o=off*z:=by rcases ho with h | h;exact h;omega
      subst ho'
      refine ⟨b,off*z,rfl,RepE.of (z:=z) hsub λ i e he=>RepC.of λ j d hd=>?_⟩
      rw[JQ] at he
      split at he
      ·rename_i hi
       have hj:j<z:=by
        have:=k3 e (Ua he)
        rcases Uw j z with h | h
        ·exact h
        ·rw[WZ (by omega)] at hd;cases hd
       obtain ⟨x,hx,hrx⟩:=k10 ((off+i)*z+j) d (by rw[Jb k3 _ _ hj,Wr,he];exact hd)
       have hlt:(off+i)*z+j<es.length*z:=by
        have:(off+i+1)*z<=es.length*z:=W8 _ (by omega)
        rw[Ij] at this;omega
       have hm:=hF id (by simp) ver E z es fz b cb cs T hs hb k1 _ hlt
       refine ⟨x,?_,hrx.mono hM (BLe.refl _)⟩
       rw[← hx,← hm,UE]
      ·cases he
   ·cases h
  ·cases h
 | .agg cs,d',c,l,h,hc,hF,y,hr=>by
  unfold snap at h
  split at h
  ·rename_i c' ds l' hl
   simp only[Wc,Wi] at h
   obtain ⟨rfl,rfl,rfl⟩:=h
   simp only[Rep] at hr ⊢
   obtain ⟨vs,e,hr⟩:=hr
   exact ⟨vs,e,Ks I hM hl hc hF hr⟩
  ·cases h
 | .tup cs,d',c,l,h,hc,hF,y,hr=>by
  unfold snap at h
  split at h
  ·rename_i c' ds l' hl
   simp only[Wc,Wi] at h
   obtain ⟨rfl,rfl,rfl⟩:=h
   simp only[Rep] at hr ⊢
   obtain ⟨vs,e,hr⟩:=hr
   exact ⟨vs,e,Ks I hM hl hc hF hr⟩
  ·cases h
 | .clo fn a b,d',c,l,h,hc,hF,y,hr=>by
  unfold snap at h
  split at h
  ·rename_i c1 a' l1 c2 b' l2 h1 h2
   simp only[Wc,Wi] at h
   obtain ⟨rfl,rfl,rfl⟩:=h
   simp only[Rep] at hr ⊢
   obtain ⟨va,vb,e,hr1,hr2⟩:=hr
   exact ⟨va,vb,e,Ks I hM h1 hc.1 (λ i hi=>hF i (Uo _ hi)) hr1,Ks I hM h2 hc.2 (λ i hi=>hF i (Ur _ hi)) hr2⟩
  ·cases h
 | .ifc t d,d',c,l,h,hc,hF,y,hr=>by
  unfold snap at h
  split at h
  ·rename_i c' e l' hl
   simp only[Wc,Wi] at h
   obtain ⟨rfl,rfl,rfl⟩:=h
   simp only[Rep] at hr ⊢
   obtain ⟨x,e,hr⟩:=hr
   exact ⟨x,e,snap_rep I hM hl hc hF hr⟩
  ·cases h
 | .any,d',c,l,h,hc,hF,y,hr=>by
  simp only[snap,Wc,Wi] at h
  obtain ⟨rfl,rfl,rfl⟩:=h
  simp[Rep]
 | .v x,d',c,l,h,hc,hF,y,hr=>by
  simp only[snap,Wc,Wi] at h
  obtain ⟨rfl,rfl,rfl⟩:=h
  simpa [Rep] using hr
 | .nsl,d',c,l,h,hc,hF,y,hr=>by
  simp only[snap,Wc,Wi] at h
  obtain ⟨rfl,rfl,rfl⟩:=h
  simpa [Rep] using hr
 | .isl E z es,d',c,l,h,hc,hF,y,hr=>by
  simp only[snap,Wc,Wi] at h
  obtain ⟨rfl,rfl,rfl⟩:=h
  have:=hr.mono (β':=β) hM (BLe.refl _)
  simpa [Rep] using this
 | .ipt z cs k,d',c,l,h,hc,hF,y,hr=>by
  simp only[snap,Wc,Wi] at h
  obtain ⟨rfl,rfl,rfl⟩:=h
  have:=hr.mono (β':=β) hM (BLe.refl _)
  simpa [Rep] using this
 | .ept ..,d',c,l,h,_,_,_,_=>by simp[snap] at h
 | .fsl ..,d',c,l,h,_,_,_,_=>by simp[snap] at h
 | .fmp ..,d',c,l,h,_,_,_,_=>by simp[snap] at h
 | .omp ..,d',c,l,h,_,_,_,_=>by simp[snap] at h
def Ks {M':Mem} (I:U8 P C s U M β w) (hM:MLe M M'):∀ {ds ds':List D} {c:Prop} {l:List Nat},Z7 s ds=some (c,ds',l)->c->Frz s M' β w l->∀ {ys:List Value},RepL P M β ds ys->RepL P M' Yj ds' ys
 | [],ds',c,l,h,hc,hF,ys,hr=>by
  simp only[Z7,Wc,Wi] at h
  obtain ⟨rfl,rfl,rfl⟩:=h
  simpa [RepL] using hr
 | d::ds,ds',c,l,h,hc,hF,ys,hr=>by
  unfold Z7 at h
  split at h
  ·rename_i c1 e l1 c2 es l2 h1 h2
   simp only[Wc,Wi] at h
   obtain ⟨rfl,rfl,rfl⟩:=h
   simp only[RepL] at hr ⊢
   obtain ⟨x,xs,e,hr1,hr2⟩:=hr
   exact ⟨x,xs,e,snap_rep I hM h1 hc.1 (λ i hi=>hF i (Uo _ hi)) hr1,Ks I hM h2 hc.2 (λ i hi=>hF i (Ur _ hi)) hr2⟩
  ·cases h
end
def Xc2 {M':Mem} (I:U8 P C s U M β w) (hM:MLe M M'):∀ {ps ps':List (Nat×D)} {c:Prop} {l:List Nat},K9 s ps=some (c,ps',l)->c->Frz s M' β w l->∀ {ys:List Value},RepL P M β (ps.map (·.2)) ys ->
 RepL P M' Yj (ps'.map (·.2)) ys/\ps'.map (·.1)=ps.map (·.1)
 | [],ps',c,l,h,hc,hF,ys,hr=>by
  simp only[K9,Wc,Wi] at h
  obtain ⟨rfl,rfl,rfl⟩:=h
  exact ⟨by simpa [RepL] using hr,rfl⟩
 | (i,d)::ps,ps',c,l,h,hc,hF,ys,hr=>by
  unfold K9 at h
  split at h
  ·rename_i c1 e l1 c2 es l2 h1 h2
   simp only[Wc,Wi] at h
   obtain ⟨rfl,rfl,rfl⟩:=h
   simp only[WX,RepL] at hr ⊢
   obtain ⟨x,xs,e,hr1,hr2⟩:=hr
   have ih:=Xc2 I hM h2 hc.2 (λ i hi=>hF i (Ur _ hi)) hr2
   exact ⟨⟨x,xs,e,snap_rep I hM h1 hc.1 (λ i hi=>hF i (Uo _ hi)) hr1,ih.1⟩,by rw[ih.2]⟩
  ·cases h
end
open Go.MapKept
variable {P:Program}
section
variable {C:Cx} {s:Heap} {U:Nat->Prop} {ver:Nat} {M:Mem} {β:Loc} {w:World}
def Y5 {T:TypeId} {k:IntKind} {E:TypeId} (h:Vz P T=some (k,E)):∃ K,P.underlying T=some (.map K E)/\P.underlying K=some (.int k):=by
 unfold Vz at h
 split at h
 ·rename_i K E' h1
  split at h
  ·rename_i k' h2
   simp only[Wc,Wi] at h
   obtain ⟨rfl,rfl⟩:=h
   exact ⟨K,h1,h2⟩
  ·cases h
 ·cases h
def JT (k:IntKind) (a b:Int):Instr.sameNow (.int k) (.int k a) (.int k b)=some (a==b):=by simp[Instr.sameNow]
def V1 {k:IntKind} (n:Int):∀ (l:List MapEntry) (es:List (Int×D)) (i:Nat),EntL P M k l es ->
 (XcQ es n=none/\XbM es n=es/\(∀ d,XbL es n d=es++[(n,d)])/\Instr.findNow (.int k) (.int k n) l i=some none) \/
 ∃ j e d,XcQ es n=some d/\Instr.findNow (.int k) (.int k n) l i=some (some (i+j,e.val))/\l[j]? = some e/\e.key=.int k n/\Rep P M Yj d e.val /\
  (∀ e' d',e'.key=.int k n->Rep P M Yj d' e'.val->EntL P M k (l.set j e') (XbL es n d'))/\EntL P M k (l.eraseIdx j) (XbM es n)/\(∀ d',(XbL es n d').length=es.length)/\(XbM es n).length<=es.length
 | [],es,i,h=>by
  simp only[EntL] at h
  subst h
  exact .inl ⟨rfl,rfl,λ _=>rfl,rfl⟩
 | e::l,es,i,h=>by
  simp only[EntL] at h
  obtain ⟨x,d,es',rfl,hk,hr,hl⟩:=h
  by_cases hx:n=x
  ·subst hx
   refine .inr ⟨0,e,d,by simp[XcQ],?_,rfl,hk,hr,λ e' d' h1 h2=>?_,?_,λ d'=>by simp[XbL],by simp[XbM]⟩
   ·simp[Instr.findNow,hk,JT]
   ·simp only[List.set_cons_zero,XbL,if_true,EntL]
    exact ⟨n,d',es',rfl,h1,h2,hl⟩
   ·simpa [XbM] using hl
  ·have hs:Instr.sameNow (.int k) (.int k n) e.key=some false:=by rw[hk,JT];simp[hx]
   rcases V1 n l es' (i+1) hl with ⟨h1,h2,h3,h4⟩ | ⟨j,e',d',h1,h2,h3,h4,h5,h6,h7,h8,h9⟩
   ·exact .inl ⟨by simp[XcQ,hx,h1],by simp[XbM,hx,h2],λ d=>by simp[XbL,hx,h3],by simp[Instr.findNow,hs,h4]⟩
   ·refine .inr ⟨j+1,e',d',by simp[XcQ,hx,h1],by simp[Instr.findNow,hs,h2];omega,by simpa using h3,h4,h5,λ e2 d2 g1 g2=>?_,?_,λ d2=>by simp[XbL,hx,h8],by simp[XbM,hx,h9]⟩
    ·simp only[List.set_cons_succ,XbL,Wm hx,EntL]
     exact ⟨x,d,_,rfl,hk,hr,h6 e2 d2 g1 g2⟩
    ·simp only[List.eraseIdx_cons_succ,XbM,Wm hx,EntL]
     exact ⟨x,d,_,rfl,hk,hr,h7⟩
def EntL.push {k:IntKind} {e':MapEntry} {n:Int} {d':D} (h1:e'.key=.int k n) (h2:Rep P M Yj d' e'.val):∀ {l:List MapEntry} {es:List (Int×D)},EntL P M k l es->EntL P M k (l++[e']) (es++[(n,d')])
 | [],es,h=>by
  simp only[EntL] at h
  subst h
  simp only[Ux,EntL]
  exact ⟨n,d',[],rfl,h1,h2,rfl⟩
 | e::l,es,h=>by
  simp only[EntL] at h
  obtain ⟨x,d,es',rfl,hk,hr,hl⟩:=h
  simp only[Ia,EntL]
  exact ⟨x,d,_,rfl,hk,hr,EntL.push h1 h2 hl⟩
def U8.setMap (I:U8 P C s U M β w) {id ver:Nat} {k:IntKind} {es es':List (Int×D)} (hs:s id=some (ver,.mp k es)) {b cb:Nat} (hb:β id ver=some (some (b,cb)))
 {ents ents':Array MapEntry} {clock clock':Nat} (hh:w.heap[b]? = some (.map ents clock)) (hl:es'.length<=Xn) (he:EntL P M k ents'.toList es')
 (hp:(ents'.toList.map (·.born)).Pairwise (·<·)) (hc:∀ e∈ents'.toList,e.born<clock') :
 U8 P C (upd s id (some (ver,.mp k es'))) U M β { w with heap:=w.heap.setIfInBounds b (.map ents' clock') }:=by
 obtain ⟨x,hx,hr⟩:=I.obs id ver _ hs
 rw[hb] at hx
 obtain rfl:some (b,cb)=x:=by simpa using hx
 obtain ⟨rfl,_,hM,_⟩:=hr
 obtain ⟨g1,g2⟩:=heap_set (o':=.map ents' clock') hh
 have:=I.set (M':=M) (β':=β) (w':={ w with heap:=w.heap.setIfInBounds b (.map ents' clock') }) id ver (.mp k es') b 0 (MLe.refl M) (BLe.refl β) g2 (λ _ _ _=>rfl)
  (λ o x hx=>by rw[hM o] at hx;cases hx) hb ⟨rfl,hl,hM,ents',clock',g1,he,hp,hc⟩ (λ id' v' ob' cb' hne hs' hx'=>hne (I.inj id' v' ob' id ver _ b cb' 0 hs' hs hx' hb))
  (I.own id ver (.mp k es) b 0 hs hb:_\/(_/\false=true)) (λ _ _=>rfl) rfl rfl rfl (by simp) (λ _ _ _ e=>.inl e)
 exact this.mono λ v hv=>by
  rcases hv with hv | rfl
  ·exact hv
  ·exact I.used id _ _ hb
def U8.setRaw (I:U8 P C s U M β w) {id ver:Nat} {o o':Obj} (hs:s id=some (ver,.raw o)) {b cb:Nat} (hb:β id ver=some (some (b,cb))) (hh:w.heap[b]? = some o) :
 U8 P C (upd s id (some (ver,.raw o'))) U M β { w with heap:=w.heap.setIfInBounds b o' }:=by
 obtain ⟨x,hx,hr⟩:=I.obs id ver _ hs
 rw[hb] at hx
 obtain rfl:some (b,cb)=x:=by simpa using hx
 obtain ⟨rfl,hM,_⟩:=hr
 obtain ⟨g1,g2⟩:=heap_set (o':=o') hh
 have:=I.set (M':=M) (β':=β) (w':={ w with heap:=w.heap.setIfInBounds b o' }) id ver (.raw o') b 0 (MLe.refl M) (BLe.refl β) g2 (λ _ _ _=>rfl)
  (λ o x hx=>by rw[hM o] at hx;cases hx) hb ⟨rfl,hM,g1⟩ (λ id' v' ob' cb' hne hs' hx'=>hne (I.inj id' v' ob' id ver _ b cb' 0 hs' hs hx' hb))
  (I.own id ver (.raw o) b 0 hs hb:_\/(_/\false=true)) (λ _ _=>rfl) rfl rfl rfl (by simp) (λ _ _ _ e=>.inl e)
 exact this.mono λ v hv=>by
  rcases hv with hv | rfl
  ·exact hv
  ·exact I.used id _ _ hb
def XmN {es:Array MapEntry} {k:IntKind} {n:Int} {a:Option (Nat×Value)} (ha:Instr.findNow (.int k) (.int k n) es.toList 0=some a) (z:Value):XdQ es k n z=(a.map (·.2)).getD z:=by unfold XdQ;rw[ha];cases a<;>rfl
def XmO {es:Array MapEntry} {k:IntKind} {n:Int} {a:Option (Nat×Value)} (ha:Instr.findNow (.int k) (.int k n) es.toList 0=some a):XeM es k n=a.isSome:=by unfold XeM;rw[ha];cases a<;>rfl
def Xgl (I:U8 P C s U M β w) (hv:¬ U ver) {dst:Option Tmp} {type:TypeId} {pos:String} {after:Array Edge} {guard:Option (Nat×Bool)} (ρ:Operand->Value) (t:Operand->D) (hρ:∀ x,Rep P M β (t x) (ρ x)) {c:Prop} {d:D} {u:Up} (T:TypeId) (r:Option Operand)
 (h:opF P dst ver t s (.makeMap T r)=some (c,d,u)) (_hc:c):OpOK P C s u U ver M β ((execOp ρ ⟨dst,.makeMap T r,type,pos,after,guard⟩).run P w) d:=by
 unfold execOp
 simp only
 simp only[opF] at h
 split at h
 ·rename_i k E l hT hl
  simp only[Wc,Wi] at h
  obtain ⟨rfl,rfl,rfl⟩:=h
  obtain ⟨K,hT1,hT2⟩:=Y5 hT
  have hrun:(Instr.makeMap T (r.map ρ)).run P w=.ok (.map (some w.heap.size)) (w.alloc (.map #[] 0)):=by
   obtain ⟨k1,e1⟩:=Jv hρ hl
   rw[e1]
   cases l with
   | none=>simp[Instr.makeMap]
   | some n=>simp[Instr.makeMap,run_underlying hT1,asInt,asIntOf]
  have hf:=I.fresh hv (Kj dst)
  have hB:BLe β (Y4 β (Kj dst) ver (some (w.heap.size,0))):=YP hf
  have hnone:∀ o,M w.heap.size o=none:=by
   intro o
   cases hx:M w.heap.size o with
   | none=>rfl
   | some x=>exact absurd (I.mem.lt hx) (IC _)
  obtain ⟨g1,g2⟩:=heap_alloc w (.map #[] 0)
  have I':=I.set (M':=M) (β':=Y4 β (Kj dst) ver (some (w.heap.size,0))) (w':=w.alloc (.map #[] 0)) (Kj dst) ver (.raw (.map #[] 0)) w.heap.size 0 (MLe.refl M) hB
   (λ j hj=>by
    show (w.heap.push _)[j]? = _
    rw[Array.getElem?_push,Wm hj]) (λ _ _ _=>rfl) (λ o x hx=>by rw[hnone o] at hx;cases hx) (XF ..)
   ⟨rfl,hnone,g1⟩
   (λ id' v' ob' cb' _ hs hx=>by
    obtain ⟨y,hy,hr⟩:=I.obs id' v' ob' hs
    rw[hx] at hy
    obtain rfl:some (w.heap.size,cb')=y:=by simpa using hy
    exact absurd hr.lt (IC _))
   (.inl I.keep.size) (λ hlt=>absurd I.keep.size (by omega)) rfl rfl rfl (by show w.heap.size<=(w.heap.push _).size;simp) YT
  exact VOK.op (sem:=Instr.makeMap T (r.map ρ)) ⟨M,_,_,_,hrun,I',by simp only[Rep];exact ⟨_,_,XF ..,rfl⟩,MLe.refl _,hB⟩
 ·cases h
def XdV (n:Nat) (k:IntKind) (a:Int):Instr.sameBits n (.int k a) (.int k a)=true:=by cases n<;>simp[Instr.sameBits]
def Kt (k:IntKind) (n:Int):IsKey (.int k) (.int k n):=by simp[IsKey]
def Xhm (I:U8 P C s U M β w) {T:TypeId} {m key x:D} {vm vk vx:Value} {c:Prop} {d:D} {u:Up} (h:Xgj P s T m key x=some (c,d,u)) (hc:c) (hm:Rep P M β m vm) (hk:Rep P M β key vk) (hx:Rep P M β x vx) :
 ∃ M' w',(Instr.mapUpdate T vm vk vx).run P w=.ok () w'/\d=.v undef/\U8 P C (app s u) U M' β w'/\MLe M M':=by
 unfold Xgj at h
 split at h
 ·rename_i k E id v k' n hT
  split at h
  ·rename_i v' k2 es hs
   split at h
   ·rename_i cc dd l hsn
    split at h
    ·rename_i hcond
     obtain ⟨rfl,rfl,rfl,hl⟩:=hcond
     simp only[Wc,Wi] at h
     obtain ⟨rfl,rfl,rfl⟩:=h
     obtain ⟨hcc,hlen⟩:=hc
     obtain ⟨K,hT1,hT2⟩:=Y5 hT
     obtain ⟨M',I',hM,hF⟩:=I.freeze l
     have hr':=snap_rep I hM hsn hcc hF hx
     have hs':frz s l id=some (v,.mp k es):=by unfold frz;rw[Wm hl];exact hs
     simp only[Rep] at hm hk
     obtain ⟨b,cb,hb,rfl⟩:=hm
     obtain ⟨rfl,hwk⟩:=hk
     obtain ⟨x0,hx0,hob⟩:=I'.obs id v _ hs'
     rw[hb] at hx0
     obtain rfl:some (b,cb)=x0:=by simpa using hx0
     obtain ⟨rfl,h1,h2,ents,clock,h3,h4,h5,h6⟩:=hob
     have start:∀ a,Instr.findNow (.int k) (.int k n) ents.toList 0=some a->(Instr.mapUpdate T (.map (some b)) (.int k n) vx).run P w =
      ((match a with
       | some (i,_)=>do
        let key ← Instr.keyThatStays (((ents[i]?).map (·.key)).getD (.int k n)) (.int k n)
        setObj b (.map (ents.modify i λ e=>{ e with key,val:=vx }) clock)
       | none=>setObj b (.map (ents.push { key:=.int k n,val:=vx,born:=clock }) (clock+1)):Sem Unit)).run P w:=by
      intro a ha
      unfold Instr.mapUpdate
      simp only[Sem.run_bind,run_underlying hT1,Result.andThen_ok,Go.MapKept.run_getObj_map h3,run_checkKey hT2 (Kt k n),run_findKey hT2 ha]
      cases a<;>rfl
     rcases V1 n ents.toList es 0 h4 with ⟨g1,g2,g3,g4⟩ | ⟨j,e,d0,g1,g2,g3,g4,g5,g6,g7,g8,g9⟩
     ·refine ⟨M',{ w with heap:=w.heap.setIfInBounds b (.map (ents.push { key:=.int k n,val:=vx,born:=clock }) (clock+1)) },?_,rfl,?_,hM⟩
      ·rw[start _ g4];exact Go.MapKept.run_setObj_map _ h3
      ·rw[YD,JS,g3 dd]
       refine I'.setMap hs' hb h3 (by simp;omega) (by simpa using EntL.push rfl (hr') h4) ?_ ?_
       ·simp only[Array.toList_push,IJ,WX,Uz]
        rw[I9]
        refine ⟨h5,by simp,λ a ha b hb=>?_⟩
        simp only[UT] at hb
        subst hb
        obtain ⟨e,he,rfl⟩:=UH.1 ha
        exact h6 e he
       ·intro e he
        simp only[Array.toList_push,WK,UT] at he
        rcases he with he | rfl
        ·exact Nat.lt_succ_of_lt (h6 e he)
        ·exact WH _
     ·have hj:j<ents.size:=by
       rcases Uw j ents.size with h' | h'
       ·exact h'
       ·rw[WZ (by simpa using h')] at g3;cases g3
      have hge:ents[j]? = some e:=by simpa using g3
      have hmod:(ents.modify j λ e=>{ e with key:=.int k n,val:=vx }).toList=ents.toList.set j { e with key:=.int k n,val:=vx }:=by
       refine I8 λ i=>?_
       rw[Array.toList_modify,List.getElem?_modify,Is]
       split
       ·rename_i hij
        subst hij
        rw[g3,Wn (by simpa using hj)];rfl
       ·cases ents.toList[i]?<;>rfl
      refine ⟨M',{ w with heap:=w.heap.setIfInBounds b (.map (ents.modify j λ e=>{ e with key:=.int k n,val:=vx }) clock) },?_,rfl,?_,hM⟩
      ·rw[start _ g2]
       simp only[Ut,hge,Iv,UF,g4,Instr.keyThatStays,XdV,if_true,Sem.run_bind,Sem.run_pure,Result.andThen_ok]
       exact Go.MapKept.run_setObj_map _ h3
      ·rw[YD,JS]
       have hborn:(ents.toList.set j { e with key:=.int k n,val:=vx }).map (·.born)=ents.toList.map (·.born):=by
        rw[List.map_set]
        refine I8 λ i=>?_
        rw[Is]
        split
        ·rename_i hij
         subst hij
         rw[Wn (by simpa using hj),IL,g3];rfl
        ·rfl
       refine I'.setMap hs' hb h3 (by rw[g8];exact h1) (by rw[hmod];exact g6 _ dd rfl hr') (by rw[hmod,hborn];exact h5) ?_
       intro e' he'
       rw[hmod] at he'
       rcases UK he' with he' | rfl
       ·exact h6 e' he'
       ·exact h6 e (Ua g3)
    ·cases h
   ·cases h
  ·cases h
 ·cases h
def XdW (I:U8 P C s U M β w) (_hv:¬ U ver) {dst:Option Tmp} {type:TypeId} {pos:String} {after:Array Edge} {guard:Option (Nat×Bool)} (ρ:Operand->Value) (t:Operand->D) (hρ:∀ x,Rep P M β (t x) (ρ x)) {c:Prop} {d:D} {u:Up} (T:TypeId) (m key x:Operand)
 (h:opF P dst ver t s (.mapUpdate T m key x)=some (c,d,u)) (hc:c):OpOK P C s u U ver M β ((execOp ρ ⟨dst,.mapUpdate T m key x,type,pos,after,guard⟩).run P w) d:=by
 unfold execOp
 simp only
 simp only[opF] at h
 obtain ⟨M',w',h1,rfl,h3,h4⟩:=Xhm I h hc (hρ m) (hρ key) (hρ x)
 exact ⟨M',β,w',undef,.inr ⟨by simp[h1],rfl⟩,h3.mono λ _ h=>.inl h,by simp[Rep,wfV,undef],h4,BLe.refl _⟩
def Xit (I:U8 P C s U M β w) (_hv:¬ U ver) {dst:Option Tmp} {type:TypeId} {pos:String} {after:Array Edge} {guard:Option (Nat×Bool)} (ρ:Operand->Value) (t:Operand->D) (hρ:∀ x,Rep P M β (t x) (ρ x)) {c:Prop} {d:D} {u:Up} (T:TypeId) (m key x:Operand)
 (h:opF P dst ver t s (.insert T m key x)=some (c,d,u)) (hc:c):OpOK P C s u U ver M β ((execOp ρ ⟨dst,.insert T m key x,type,pos,after,guard⟩).run P w) d:=by
 unfold execOp
 simp only
 simp only[opF] at h
 obtain ⟨M',w',h1,rfl,h3,h4⟩:=Xhm I h hc (hρ m) (hρ key) (hρ x)
 exact ⟨M',β,w',undef,.inr ⟨by simp[h1],rfl⟩,h3.mono λ _ h=>.inl h,by simp[Rep,wfV,undef],h4,BLe.refl _⟩
def Xiu (I:U8 P C s U M β w) (_hv:¬ U ver) {dst:Option Tmp} {type:TypeId} {pos:String} {after:Array Edge} {guard:Option (Nat×Bool)} (ρ:Operand->Value) (t:Operand->D) (hρ:∀ x,Rep P M β (t x) (ρ x)) {c:Prop} {d:D} {u:Up} (T:TypeId) (m key:Operand) (ok:Bool)
 (h:opF P dst ver t s (.lookup T m key ok)=some (c,d,u)) (_hc:c):OpOK P C s u U ver M β ((execOp ρ ⟨dst,.lookup T m key ok,type,pos,after,guard⟩).run P w) d:=by
 unfold execOp
 simp only
 simp only[opF] at h
 split at h
 ·rename_i k E id v k' n hT hm hk
  split at h
  ·rename_i v' k2 es te hs hE
   split at h
   ·rename_i hcond
    obtain ⟨rfl,rfl,rfl⟩:=hcond
    simp only[Wc,Wi] at h
    obtain ⟨rfl,rfl,rfl⟩:=h
    obtain ⟨K,hT1,hT2⟩:=Y5 hT
    have hrm:=hρ m
    have hrk:=hρ key
    rw[hm] at hrm
    rw[hk] at hrk
    simp only[Rep] at hrm hrk
    obtain ⟨b,cb,hb,hme⟩:=hrm
    obtain ⟨x0,hx0,hob⟩:=I.obs id v _ hs
    rw[hb] at hx0
    obtain rfl:some (b,cb)=x0:=by simpa using hx0
    obtain ⟨rfl,h1,h2,ents,clock,h3,h4,h5,h6⟩:=hob
    rw[hme,hrk.1]
    have start:∀ a,Instr.findNow (.int k) (.int k n) ents.toList 0=some a->(Instr.lookup T (.map (some b)) (.int k n) ok).run P w =
     .ok (if ok then .tuple #[(match a with | some (_,v)=>v | none=>te.zero),.bool a.isSome] else (match a with | some (_,v)=>v | none=>te.zero)) w:=by
     intro a ha
     unfold Instr.lookup
     simp only[Sem.run_bind,run_underlying hT1,Result.andThen_ok,Go.MapKept.run_getObj_map h3,Sem.run_pure,run_checkKey hT2 (Kt k n),run_findKey hT2 ha]
     cases a with
     | none=>simp[Zn hE]
     | some y=>simp
    rcases V1 n ents.toList es 0 h4 with ⟨g1,g2,g3,g4⟩ | ⟨j,e,d0,g1,g2,g3,g4,g5,g6,g7,g8,g9⟩
    ·refine VOK.op (.same I (start _ g4) ?_)
     rw[g1]
     cases ok with
     | true =>
      simp only[if_true,Rep,RepL,Option.getD_none,Option.isSome_none]
      exact ⟨_,rfl,_,_,rfl,Jt _,_,_,rfl,⟨rfl,trivial⟩,rfl⟩
     | false=>exact Jt _
    ·refine VOK.op (.same I (start _ g2) ?_)
     rw[g1]
     have hr:=g5.mono (MLe.refl M) (BLe.zero β)
     cases ok with
     | true =>
      simp only[if_true,Rep,RepL,UF,Option.isSome_some]
      exact ⟨_,rfl,_,_,rfl,hr,_,_,rfl,⟨rfl,trivial⟩,rfl⟩
     | false=>exact hr
   ·cases h
  ·rename_i v' es cl te hs hE
   split at h
   ·rename_i hcond
    obtain ⟨rfl,rfl⟩:=hcond
    simp only[Wc,Wi] at h
    obtain ⟨rfl,rfl,rfl⟩:=h
    obtain ⟨K,hT1,hT2⟩:=Y5 hT
    have hrm:=hρ m
    have hrk:=hρ key
    rw[hm] at hrm
    rw[hk] at hrk
    simp only[Rep] at hrm hrk
    obtain ⟨b,cb,hb,hme⟩:=hrm
    obtain ⟨x0,hx0,hob⟩:=I.obs id v _ hs
    rw[hb] at hx0
    obtain rfl:some (b,cb)=x0:=by simpa using hx0
    obtain ⟨rfl,h1,h3⟩:=hob
    rw[hme,hrk.1]
    obtain ⟨hf,hwf⟩:=_hc
    obtain ⟨a,ha⟩:=Option.isSome_iff_exists.1 hf
    have e1:=XmN ha te.zero
    have e2:=XmO ha
    have start:(Instr.lookup T (.map (some b)) (.int k n) ok).run P w =
     .ok (if ok then .tuple #[XdQ es k n te.zero,.bool (XeM es k n)] else XdQ es k n te.zero) w:=by
     rw[e1,e2]
     unfold Instr.lookup
     simp only[Sem.run_bind,run_underlying hT1,Result.andThen_ok,Go.MapKept.run_getObj_map h3,Sem.run_pure,run_checkKey hT2 (Kt k n),run_findKey hT2 ha]
     cases a with
     | none=>simp[Zn hE]
     | some y=>simp
    refine VOK.op (.same I start ?_)
    cases ok with
    | true =>
     simp only[if_true,Rep,RepL]
     exact ⟨_,rfl,_,_,rfl,⟨rfl,hwf⟩,_,_,rfl,⟨rfl,trivial⟩,rfl⟩
    | false=>exact ⟨rfl,hwf⟩
   ·cases h
  ·cases h
 ·cases h
def XeV (I:U8 P C s U M β w) (_hv:¬ U ver) {dst:Option Tmp} {type:TypeId} {pos:String} {after:Array Edge} {guard:Option (Nat×Bool)} (ρ:Operand->Value) (t:Operand->D) (hρ:∀ x,Rep P M β (t x) (ρ x)) {c:Prop} {d:D} {u:Up} (T:TypeId) (m key:Operand)
 (h:opF P dst ver t s (.mapEntry T m key)=some (c,d,u)) (hc:c):OpOK P C s u U ver M β ((execOp ρ ⟨dst,.mapEntry T m key,type,pos,after,guard⟩).run P w) d:=by
 unfold execOp
 simp only
 simp only[opF] at h
 split at h
 ·rename_i k E id v k' n hT hm hk
  split at h
  ·rename_i v' es cl te hs hE
   split at h
   ·rename_i hcond
    obtain ⟨rfl,rfl⟩:=hcond
    simp only[Wc,Wi] at h
    obtain ⟨rfl,rfl,rfl⟩:=h
    obtain ⟨K,hT1,hT2⟩:=Y5 hT
    have hrm:=hρ m
    have hrk:=hρ key
    rw[hm] at hrm
    rw[hk] at hrk
    simp only[Rep] at hrm hrk
    obtain ⟨b,cb,hb,hme⟩:=hrm
    obtain ⟨x0,hx0,hob⟩:=I.obs id v _ hs
    rw[hb] at hx0
    obtain rfl:some (b,cb)=x0:=by simpa using hx0
    obtain ⟨rfl,h1,h3⟩:=hob
    obtain ⟨hf,hn,hcl⟩:=hc
    obtain ⟨a,ha⟩:=Option.isSome_iff_exists.1 hf
    obtain rfl:a=none:=by
     unfold XeM at hn
     rw[ha] at hn
     cases a with
     | none=>rfl
     | some y=>cases hn
    have start:(Instr.mapEntry T (.map (some b)) (.int k n)).run P w=.ok (.tuple #[te.zero,goInt cl]) { w with heap:=w.heap.setIfInBounds b (.map (es.push ⟨.int k n,te.zero,cl⟩) (cl+1)) }:=by
     unfold Instr.mapEntry
     simp only[Sem.run_bind,run_underlying hT1,Result.andThen_ok,Go.MapKept.run_getObj_map h3,Sem.run_pure,run_checkKey hT2 (Kt k n),run_findKey hT2 ha,Zn hE,Go.MapKept.run_setObj_map _ h3]
    rw[hme,hrk.1]
    refine VOK.op ⟨M,β,_,_,start,?_,?_,MLe.refl _,BLe.refl _⟩
    ·exact (I.setRaw hs hb h3).mono λ _ h=>.inl h
    ·simp only[Rep,RepL]
     exact ⟨_,rfl,_,_,rfl,Jt _,_,_,rfl,⟨rfl,by unfold Xn at hcl;simp only[wfV,IntKind.min,IntKind.max,IntKind.bits,IntKind.signed];omega⟩,rfl⟩
   ·cases h
  ·cases h
 ·cases h
def XcT (I:U8 P C s U M β w) (_hv:¬ U ver) {dst:Option Tmp} {type:TypeId} {pos:String} {after:Array Edge} {guard:Option (Nat×Bool)} (ρ:Operand->Value) (t:Operand->D) (hρ:∀ x,Rep P M β (t x) (ρ x)) {c:Prop} {d:D} {u:Up} (T:TypeId) (m e x:Operand)
 (h:opF P dst ver t s (.entryStore T m e x)=some (c,d,u)) (hc:c):OpOK P C s u U ver M β ((execOp ρ ⟨dst,.entryStore T m e x,type,pos,after,guard⟩).run P w) d:=by
 unfold execOp
 simp only
 simp only[opF] at h
 split at h
 ·rename_i id v bn y hm he hx
  split at h
  ·rename_i v' es cl hs
   split at h
   ·rename_i hcond
    subst hcond
    simp only[Wc,Wi] at h
    obtain ⟨rfl,rfl,rfl⟩:=h
    have hrm:=hρ m
    have hre:=hρ e
    have hrx:=hρ x
    rw[hm] at hrm
    rw[he] at hre
    rw[hx] at hrx
    simp only[Rep] at hrm hre hrx
    obtain ⟨b,cb,hb,hme⟩:=hrm
    obtain ⟨x0,hx0,hob⟩:=I.obs id v _ hs
    rw[hb] at hx0
    obtain rfl:some (b,cb)=x0:=by simpa using hx0
    obtain ⟨rfl,h1,h3⟩:=hob
    obtain ⟨i,hi⟩:=Option.isSome_iff_exists.1 hc
    have start:(Instr.entryStore T (.map (some b)) (.int .i64 bn) y).run P w=.ok () { w with heap:=w.heap.setIfInBounds b (.map (XjI es bn y) cl) }:=by
     unfold Instr.entryStore XjI
     simp only[Sem.run_bind,Result.andThen_ok,Go.MapKept.run_getObj_map h3,Sem.run_pure,asInt,asIntOf,hi,UF]
     exact Go.MapKept.run_setObj_map _ h3
    rw[hme,hre.1,hrx.1]
    exact ⟨M,β,_,undef,.inr ⟨by simp[start],rfl⟩,(I.setRaw hs hb h3).mono λ _ h=>.inl h,by simp[Rep,wfV,undef],MLe.refl _,BLe.refl _⟩
   ·cases h
  ·cases h
 ·cases h
end
end Go.Sx
