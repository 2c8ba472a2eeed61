import GoSem.Core.View
import Derived.Deep.LoopGhost
import Derived.Orders
import Derived.Below
import Derived.Laws.CopyRow
import Derived.Laws.AppendOwn
import Derived.Laws.MakeOwn
import Derived.Laws.OwnMore
import Derived.Laws.StructEq
import Derived.Laws.Tables
import Derived.Laws.Rows
import Derived.ChangeKeysEq
import Derived.MapKept
set_option linter.all false
namespace Go.Sx
theorem aa{P:Prop}(h:P:=by omega):P:=h
theorem ab{P:Prop}(h:P:=by simp):P:=h
theorem ac{P:Prop}(h:P:=by kernel_rfl):P:=h
theorem ae{P:Prop}(h:P:=by decide):P:=h
theorem ag{P:Prop}(h:P:=by assumption):P:=h
theorem ah{P:Prop}(h:P:=by simp;omega):P:=h
def Wa{α:Type _}(a b:α):(bif false then a else b)=b:=rfl
def Wb{α:Type _}(a b:α):(bif true then a else b)=a:=rfl
def Wc:type_of% @List.getElem?_eq_getElem:=@List.getElem?_eq_getElem
def Wd:type_of% @decide_eq_true:=@decide_eq_true
def Wh:type_of% @decide_eq_false:=@decide_eq_false
def Wi:type_of% @Bool.not_true:=@Bool.not_true
def Wk:type_of% @if_neg:=@if_neg
def Wl:type_of% @List.length_take:=@List.length_take
theorem Wn:type_of% @List.length_drop:=@List.length_drop
def Wq:type_of% @if_pos:=@if_pos
def Wr:type_of% @List.getD_eq_getElem?_getD:=@List.getD_eq_getElem?_getD
theorem Wt:type_of% @Option.some.injEq:=@Option.some.injEq
def Wu:type_of% @List.drop_eq_getElem_cons:=@List.drop_eq_getElem_cons
def Ww:type_of% @of_decide_eq_true:=@of_decide_eq_true
theorem Wy:type_of% @Prod.mk.injEq:=@Prod.mk.injEq
def Wz:type_of% @Nat.min_self:=@Nat.min_self
def WA:type_of% @Nat.lt_succ_self:=@Nat.lt_succ_self
def WG:type_of% @Option.some.inj:=@Option.some.inj
def WH:type_of% @List.mem_append:=@List.mem_append
def WL:type_of% @List.getElem_mem:=@List.getElem_mem
def WM:type_of% @List.getElem_of_mem:=@List.getElem_of_mem
def WN:type_of% @List.eq_nil_of_length_eq_zero:=@List.eq_nil_of_length_eq_zero
theorem WO:type_of% @List.length_set:=@List.length_set
def WP:type_of% @of_decide_eq_false:=@of_decide_eq_false
theorem WR:type_of% @List.length_append:=@List.length_append
def WS:type_of% @List.mem_of_mem_drop:=@List.mem_of_mem_drop
theorem WV:type_of% @List.length_replicate:=@List.length_replicate
def WY:type_of% @List.mem_of_mem_take:=@List.mem_of_mem_take
def WZ:type_of% @beq_eq_false_iff_ne:=@beq_eq_false_iff_ne
def W0:type_of% @List.drop_zero:=@List.drop_zero
def W3:type_of% @List.getElem?_eq_none:=@List.getElem?_eq_none
theorem W4:type_of% @List.length_map:=@List.length_map
def W5:type_of% @Nat.mul_le_mul_right:=@Nat.mul_le_mul_right
def W6:type_of% @List.mem_append_left:=@List.mem_append_left
def W7:type_of% @Bool.not_false:=@Bool.not_false
def W8:type_of% @Bool.true_and:=@Bool.true_and
def W9:type_of% @Bool.and_eq_true:=@Bool.and_eq_true
theorem Ub:type_of% @List.map_cons:=@List.map_cons
def Ud:type_of% @List.all_eq_true:=@List.all_eq_true
def Ue:type_of% @List.mem_of_getElem?:=@List.mem_of_getElem?
def Uf:type_of% @Nat.eq_zero_or_pos:=@Nat.eq_zero_or_pos
def Ug:type_of% @List.mem_append_right:=@List.mem_append_right
def Ui:type_of% @Option.map_eq_some_iff:=@Option.map_eq_some_iff
def Uj:type_of% @Nat.le_refl:=@Nat.le_refl
theorem Uk:type_of% @List.nil_append:=@List.nil_append
def Ul:type_of% @List.mem_cons_of_mem:=@List.mem_cons_of_mem
def Um:type_of% @List.length_cons:=@List.length_cons
def Un:type_of% @List.getElem?_take:=@List.getElem?_take
def Uo:type_of% @Int.eq_ofNat_of_zero_le:=@Int.eq_ofNat_of_zero_le
def Uq:type_of% @Nat.le_trans:=@Nat.le_trans
def Ur:type_of% @Nat.lt_or_ge:=@Nat.lt_or_ge
def Us:type_of% @Nat.add_mul:=@Nat.add_mul
def Ut:type_of% @Int.mul_le_mul_of_nonneg_right:=@Int.mul_le_mul_of_nonneg_right
def Uu:type_of% @List.take_of_length_le:=@List.take_of_length_le
def Uw:type_of% @Bool.false_and:=@Bool.false_and
def Uy:type_of% @List.map_nil:=@List.map_nil
def Uz:type_of% @Bool.cond_decide:=@Bool.cond_decide
def UA:type_of% @List.filter_cons_of_pos:=@List.filter_cons_of_pos
def UB:type_of% @List.mem_filter:=@List.mem_filter
def UC:type_of% @List.mem_or_eq_of_mem_set:=@List.mem_or_eq_of_mem_set
def UG:type_of% @Nat.zero_add:=@Nat.zero_add
def UI:type_of% @List.append_assoc:=@List.append_assoc
def UK:type_of% @List.findIdx?_eq_some_iff_getElem:=@List.findIdx?_eq_some_iff_getElem
def UL:type_of% @List.pairwise_iff_getElem:=@List.pairwise_iff_getElem
def UM:type_of% @List.mem_map:=@List.mem_map
def UN:type_of% @List.drop_eq_nil_of_le:=@List.drop_eq_nil_of_le
def UO:type_of% @List.getElem?_drop:=@List.getElem?_drop
def UP:type_of% @Nat.zero_le:=@Nat.zero_le
def US:type_of% @List.mem_singleton:=@List.mem_singleton
def UT:type_of% @List.mem_cons:=@List.mem_cons
def UW:type_of% @Array.getElem?_toList:=@Array.getElem?_toList
def UX:type_of% @Int.toNat_natCast:=@Int.toNat_natCast
def UZ:type_of% @List.filter_cons_of_neg:=@List.filter_cons_of_neg
def U3:type_of% @List.getElem?_append_right:=@List.getElem?_append_right
def U4:type_of% @Option.map_some:=@Option.map_some
def U5:type_of% @Option.getD_some:=@Option.getD_some
def U6:type_of% @List.getElem?_append_left:=@List.getElem?_append_left
def U7:type_of% @Array.length_toList:=@Array.length_toList
def U8:type_of% @List.getElem?_toArray:=@List.getElem?_toArray
def U9:type_of% @Bool.false_eq_true:=@Bool.false_eq_true
def Ia:type_of% @BitVec.toNat_ofNat:=@BitVec.toNat_ofNat
def Ib:type_of% @Nat.lt_irrefl:=@Nat.lt_irrefl
def Ic:type_of% @Int.tdiv_eq_ediv_of_nonneg:=@Int.tdiv_eq_ediv_of_nonneg
def Ie:type_of% @List.filter_eq_self:=@List.filter_eq_self
def If:type_of% @List.append_nil:=@List.append_nil
def Ig:type_of% @List.length_nil:=@List.length_nil
def Ih:type_of% @Nat.div_lt_iff_lt_mul:=@Nat.div_lt_iff_lt_mul
def Ii:type_of% @Bool.false_or:=@Bool.false_or
def Ij:type_of% @List.getElem_take:=@List.getElem_take
def Im:type_of% @Nat.mod_eq_of_lt:=@Nat.mod_eq_of_lt
def Ip:type_of% @List.set_cons_zero:=@List.set_cons_zero
def Iq:type_of% @Nat.lt_of_lt_of_le:=@Nat.lt_of_lt_of_le
def Ir:type_of% @List.nodup_iff_pairwise_ne:=@List.nodup_iff_pairwise_ne
def Is:type_of% @Int.tmod_eq_emod_of_nonneg:=@Int.tmod_eq_emod_of_nonneg
def Iu:type_of% @Nat.add_sub_cancel:=@Nat.add_sub_cancel
def Iv:type_of% @List.set_append_right:=@List.set_append_right
def Iw:type_of% @List.getElem?_eq_some_iff:=@List.getElem?_eq_some_iff
def Ix:type_of% @Bool.or_eq_true:=@Bool.or_eq_true
def Iy:type_of% @List.foldl_cons:=@List.foldl_cons
def IB:type_of% @Nat.succ_mul:=@Nat.succ_mul
def IC:type_of% @List.getElem?_set:=@List.getElem?_set
def ID:type_of% @List.nodup_append:=@List.nodup_append
def IE:type_of% @Nat.pow_le_pow_right:=@Nat.pow_le_pow_right
def IF:type_of% @Int.add_mul:=@Int.add_mul
def IG:type_of% @Nat.le_succ_of_le:=@Nat.le_succ_of_le
def IH:type_of% @List.getElem_drop:=@List.getElem_drop
def II:type_of% @Bool.and_self:=@Bool.and_self
def IL:type_of% @List.drop_set_of_lt:=@List.drop_set_of_lt
def IN:type_of% @Nat.add_sub_cancel_left:=@Nat.add_sub_cancel_left
def IO:type_of% @List.cons_append:=@List.cons_append
def IP:type_of% @decide_eq_false_iff_not:=@decide_eq_false_iff_not
def IQ:type_of% @List.getElem?_set_self:=@List.getElem?_set_self
def IR:type_of% @Nat.add_zero:=@Nat.add_zero
def IS:type_of% @List.pairwise_cons:=@List.pairwise_cons
def IT:type_of% @List.findIdx?_cons:=@List.findIdx?_cons
def IU:type_of% @Nat.sub_self:=@Nat.sub_self
def IV:type_of% @Int.tmod_lt_of_pos:=@Int.tmod_lt_of_pos
def IX:type_of% @Option.map_none:=@Option.map_none
def IZ:type_of% @Nat.le_of_ble_eq_true:=@Nat.le_of_ble_eq_true
def I4:type_of% @List.contains_iff_mem:=@List.contains_iff_mem
def I6:type_of% @List.getElem?_map:=@List.getElem?_map
def I7:type_of% @Bool.not_eq_true':=@Bool.not_eq_true'
def I8:type_of% @List.pairwise_append:=@List.pairwise_append
def I9:type_of% @Int.one_mul:=@Int.one_mul
def Oa:type_of% @BitVec.ofInt_natCast:=@BitVec.ofInt_natCast
def Od:type_of% @Bool.not_eq_true:=@Bool.not_eq_true
def Oe:type_of% @List.getElem_map:=@List.getElem_map
def Of:type_of% @Option.bind_some:=@Option.bind_some
def Oh:type_of% @List.cons.inj:=@List.cons.inj
def Oi:type_of% @Int.tmod_nonneg:=@Int.tmod_nonneg
def Oj:type_of% @Int.natCast_mul:=@Int.natCast_mul
def Ol:type_of% @Nat.min_eq_left:=@Nat.min_eq_left
def Om:type_of% @Nat.mul_comm:=@Nat.mul_comm
def On:type_of% @List.nodup_nil:=@List.nodup_nil
def Oo:type_of% @List.drop_drop:=@List.drop_drop
inductive Ex(α β:Type) where
 |ret (a:α)
 |nxt (b:β)
def exK{α β γ:Type}(e:Ex α β)(f:α->γ)(k:β->γ):γ:=match e with
 |.ret a=>f a
 |.nxt b=>k b
def bnd{α β:Type}(o:Option α)(f:α->Option β):Option β:=o.bind f
def grd{α:Type}(p:Prop)[Decidable p](x:Option α):Option α:=if p then x else none
def jn{κ γ:Type}(k:κ)(f:κ->γ):γ:=f k
def Xb{α:Type}(l:List α)(i:Int):Option α:=if 0<=i then l[i.toNat]? else none
def wI(n:Int):Int:=IntKind.wrap .i64 n
def wU(n:Int):Int:=IntKind.wrap .u64 n
def wW(n:Int):Int:=IntKind.wrap .u32 n
def Y4(k:IntKind)(a b:Int):Int:=k.wrap (BitVec.ofInt k.bits a &&& BitVec.ofInt k.bits b).toNat
def bOr(k:IntKind)(a b:Int):Int:=k.wrap (BitVec.ofInt k.bits a |||BitVec.ofInt k.bits b).toNat
def Xod(k:IntKind)(a b:Int):Int:=k.wrap (BitVec.ofInt k.bits a ^^^ BitVec.ofInt k.bits b).toNat
def XaW(k:IntKind)(a b:Int):Int:=k.wrap (BitVec.ofInt k.bits a &&& ~~~ BitVec.ofInt k.bits b).toNat
def ZN(k:IntKind)(a b:Int):Int:=k.wrap (a*2 ^ min b.toNat k.bits)
def YD(k:IntKind)(a b:Int):Int:=a.fdiv (2 ^ min b.toNat k.bits)
def Xf1{α β:Type}{o:Option α}{f:α->Option β}{r:β}(h:bnd o f=some r):∃y,o=some y/\f y=some r:=by
 cases o with
 |none=>cases h
 |some y=>exact⟨y,rfl,h⟩
def Xf2{α:Type}{p:Prop}[Decidable p]{x:Option α}{r:α}(h:grd p x=some r):p/\x=some r:=by unfold grd at h;simp_all
def Xaq{α β:Type}{G:Prop}{o:Option α}{f:α->Option β}{r:β}(h:bnd o f=some r)(k:∀y,o=some y->f y=some r->G):G:=(Xf1 h).elim λy e=>k y e.1 e.2
def Xr1{α β:Type}{G:Prop}{o:Option α}{f:α->Option β}{r:β}{y:α}(h:bnd o f=some r)(e:o=some y)(k:o=some y->f y=some r->G):G:=by have⟨z,g,j⟩:=Xf1 h;simp_all
def Xr2{α:Type}{G p:Prop}[Decidable p]{x:Option α}{r:α}(h:grd p x=some r)(k:p->x=some r->G):G:=k (Xf2 h).1 (Xf2 h).2
def Xum{κ α:Type}{G:Prop}{k:κ}{f:κ->Option α}{r:α}(h:jn k f=some r)(g:f k=some r->G):G:=g h
def Xr3{α β γ:Type}{G:Prop}{b:β}{f:α->Option γ}{k:β->Option γ}{r:γ}(h:exK (.nxt b) f k=some r)(g:k b=some r->G):G:=g h
def Xr4{α β γ:Type}{G:Prop}{a:α}{f:α->Option γ}{k:β->Option γ}{r:γ}(h:exK (.ret a) f k=some r)(g:f a=some r->G):G:=g h
def Xn{α:Type}{G:Prop}{x r:α}(h:some x=some r)(k:x=r->G):G:=k (WG h)
def Yr{α:Type}{G:Prop}{r:α}(h:none=some r):G:=by grind
def XcJ{α:Type}{l:List α}{i:Int}{p:α}(h:Xb l i=some p):0<=i/\i<l.length:=by unfold Xb at h;grind
def XaX{α:Type}{l:List α}{i:Int}{p:α}(h:Xb l i=some p):i.toNat<l.length:=by have:=XcJ h;omega
def Xcp{α β:Type}{l:List α}{i:Int}{p:α}(h:Xb l i=some p)(e:α->List β):(l.map e).getD i.toNat []=e p:=by unfold Xb at h;simp_all
def Ye{α:Type}{l:List α}{i n:Int}{b:Prop}{β:Type}{f:α->Option β}{r:β}(g:bnd (Xb l i) f=some r)(h:(l.length:Int)=n)(k:∀p,Xb l i=some p->i.toNat<l.length->(∀(γ:Type) (e:α->List γ),(l.map e).getD i.toNat []=e p)->f p=some r->b):(0<=i/\i<n)/\b:=
 Xaq g λp hp g=>⟨h▸XcJ hp,k p hp (XaX hp) (λ_ e=>Xcp hp e) g⟩
def Yo{α:Type}{l:List α}{i n:Int}{b:Prop}{β:Type}{f:α->Option β}{r:β}{p:α}(g:bnd (Xb l i) f=some r)(hp:Xb l i=some p)(h:(l.length:Int)=n)(k:Xb l i=some p->i.toNat<l.length->(∀(γ:Type) (e:α->List γ),(l.map e).getD i.toNat []=e p)->f p=some r->b):(0<=i/\i<n)/\b:=
 Xr1 g hp λhp g=>⟨h▸XcJ hp,k hp (XaX hp) (λ_ e=>Xcp hp e) g⟩
def Xr5{α:Type}{l:List α}{i n:Int}{b:Prop}{β:Type}{f:α->Option β}{r:β}(g:bnd (Xb l i) f=some r)(h:(l.length:Int)=n)(k:∀p,Xb l i=some p->i.toNat<l.length->(∀(γ:Type) (e:α->List γ),(l.map e).getD i.toNat []=e p)->(∀(γ:Type) (e:α->List γ) (x:List γ),((l.map e).set i.toNat x).getD i.toNat []=x)->f p=some r->b):(0<=i/\i<n)/\b:=
 Xaq g λp hp g=>⟨h▸XcJ hp,k p hp (XaX hp) (λ_ e=>Xcp hp e) (λ_ e x=>by rw[Wr,IQ (by rw[W4];exact XaX hp)];rfl) g⟩
def XcK{α:Type}{l:List α}{i n:Int}{b:Prop}{β:Type}{f:α->Option β}{r:β}(g:bnd (Xb l i) f=some r)(h:(l.length:Int)=n)(k:∀p,Xb l i=some p->i.toNat<l.length->(∀(γ:Type) (e:α->List γ),(l.map e).getD i.toNat []=e p)->f p=some r->b):i<n/\b:=
 Xaq g λp hp g=>⟨(h▸XcJ hp).2,k p hp (XaX hp) (λ_ e=>Xcp hp e) g⟩
def KM{α:Type}(l:List α)(o n:Nat)(i:Int):Option α:=if 0<=i/\i<n then l[o+i.toNat]? else none
def XhH{α:Type}{l:List α}{o n:Nat}{i:Int}{p:α}(h:KM l o n i=some p):(0<=i/\i<n)/\l[o+i.toNat]? = some p:=by unfold KM at h;simp_all
def XiN{α:Type}{l:List α}{o n:Nat}{i:Int}{b:Prop}{β:Type}{f:α->Option β}{r:β}(g:bnd (KM l o n i) f=some r)(k:∀p,KM l o n i=some p->o+i.toNat<l.length->(∀(γ:Type) (e:α->List γ),(l.map e).getD (o+i.toNat) []=e p)->f p=some r->b):(0<=i/\i<n)/\b:=
 Xaq g λp hp g=>⟨(XhH hp).1,k p hp (Iw.1 (XhH hp).2).1 (λ_ e=>by rw[Wr,I6,(XhH hp).2];rfl) g⟩
def Xqb{α:Type}{l:List α}{o n:Nat}{i:Int}{b:Prop}{β:Type}{f:α->Option β}{r:β}(g:bnd (KM l o n i) f=some r)(k:∀p,KM l o n i=some p->o+i.toNat<l.length->(∀(γ:Type) (e:α->List γ),(l.map e).getD (o+i.toNat) []=e p)->f p=some r->b):i<n/\b:=
 let ⟨h,j⟩:=XiN g k;⟨h.2,j⟩
attribute [irreducible] bnd grd jn exK Xb KM
inductive D where
 |any
 |v (x:Value)
 |agg (cs:List D)
 |tup (cs:List D)
 |nsl
 |isl (E z:Nat) (es:List (List D))
 |osl (id ver z off len:Nat)
 |ept (id ver z i c:Nat)
 |ipt (z:Nat) (cs:List D) (c:Nat)
 |clo (fn:Fn) (first caps:List D)
 |ifc (t:TypeId) (d:D)
 |fsl (E z:Nat) (es:List (List D))
 |omp (id ver:Nat)
 |fmp (k:IntKind) (ks:List Int) (vs:List D)
 deriving Inhabited
abbrev Mem:=Nat->Nat->Option Value
abbrev Loc:=Nat->Nat->Option (Option (Nat×Nat))
def Yx:Loc:=λ_ _=>none
def Xy:Nat:=140737488355328
def wfV:Value->Prop
 |.int k n=>k.min<=n/\n<=k.max
 |.agg _=>False
 |_=>True
mutual
def Rep(P:Program)(M:Mem):Loc->D->Value->Prop
 |_,.any,_=>True
 |_,.v x,y=>y=x/\wfV x
 |β,.agg f,y=>∃j,y=.agg ⟨j⟩/\RepL P M β f j
 |β,.tup f,y=>∃j,y=.tuple ⟨j⟩/\RepL P M β f j
 |_,.nsl,y=>∃a,y=.slice a 0 0
 |_,.isl E z g,y=>(∀e∈g,e.length=z)/\g.length<=Xy/\g.length*P.bytesOf E<=Xy /\
  ∃a cap,y=.slice a g.length cap/\g.length<=cap/\(g=[]\/∃b o,a=some ⟨b,o,none⟩/\RepE P M g b o)
 |β,.osl id ver z off len,y=>(β id ver=some none/\off=0/\len=0/\∃a,y=.slice a 0 0) \/
  ∃b h o cap,β id ver=some (some (b,h))/\y=.slice (some ⟨b,o,none⟩) len cap/\len<=cap/\off+cap=h/\(o=off*z\/cap=0)
 |β,.ept id ver z i c,y=>∃b h,β id ver=some (some (b,h))/\y=.pointer (some ⟨b,i*z+c,none⟩)
 |_,.ipt z f c,y=>f.length=z/\∃b o,y=.pointer (some ⟨b,o+c,none⟩)/\RepC P M f b o
 |β,.clo fn k f,y=>∃a b,y=.func fn ⟨a⟩ ⟨b⟩/\RepL P M β k a/\RepL P M β f b
 |β,.ifc t d,y=>∃x,y=.iface t x/\Rep P M β d x
 |_,.fsl _ _ _,_=>False
 |_,.fmp _ _ _,_=>False
 |β,.omp id ver,y=>∃b h,β id ver=some (some (b,h))/\y=.map (some b)
def RepL(P:Program)(M:Mem):Loc->List D->List Value->Prop
 |_,[],e=>e=[]
 |β,d::g,e=>∃x f,e=x::f/\Rep P M β d x/\RepL P M β g f
def RepC(P:Program)(M:Mem):List D->Nat->Nat->Prop
 |[],_,_=>True
 |d::e,b,o=>(∃x,M b o=some x/\Rep P M Yx d x)/\RepC P M e b (o+1)
def RepE(P:Program)(M:Mem):List (List D)->Nat->Nat->Prop
 |[],_,_=>True
 |e::f,b,o=>RepC P M e b o/\RepE P M f b (o+e.length)
end
def MLe(M M':Mem):Prop:=∀b o x,M b o=some x->M' b o=some x
def BLe(β β':Loc):Prop:=∀i k x,β i k=some x->β' i k=some x
def MLe.refl(M:Mem):MLe M M:=λ_ _ _ h=>h
def BLe.refl(β:Loc):BLe β β:=λ_ _ _ h=>h
def MLe.trans{a b c:Mem}(h:MLe a b)(k:MLe b c):MLe a c:=λ_ _ _ e=>k _ _ _ (h _ _ _ e)
def BLe.trans{a b c:Loc}(h:BLe a b)(k:BLe b c):BLe a c:=λ_ _ _ e=>k _ _ _ (h _ _ _ e)
def BLe.zero(β:Loc):BLe Yx β:=λ_ _ _ h=>by cases h
variable {P:Program}
mutual
def Rep.mono{M M':Mem}{β β':Loc}(k:MLe M M')(j:BLe β β'):∀{d:D} {y:Value},Rep P M β d y->Rep P M' β' d y
 |.any,_,_=>by simp[Rep]
 |.v x,y,h=>by assumption
 |.agg p,y,h=>by have⟨q,e,h⟩:=h;exact⟨q,e,RepL.mono k j h⟩
 |.tup p,y,h=>by have⟨q,e,h⟩:=h;exact⟨q,e,RepL.mono k j h⟩
 |.nsl,y,h=>by assumption
 |.isl E z A,y,h=>by
  have⟨f,g,s,a,cap,e,r,h⟩:=h;refine⟨f,g,s,a,cap,e,r,?_⟩;rcases h with h|⟨b,o,u,h⟩
  .simp_all
  exact .inr ⟨b,o,u,RepE.mono k h⟩
 |.osl id ver z off len,y,h=>by
  rcases h with⟨f,g⟩|⟨b,l,o,cap,f,g⟩
  .exact .inl ⟨j _ _ _ f,g⟩
  exact .inr ⟨b,l,o,cap,j _ _ _ f,g⟩
 |.ept id ver z i c,y,h=>by have⟨b,l,f,g⟩:=h;exact⟨b,l,j _ _ _ f,g⟩
 |.ipt z p c,y,h=>by have⟨w,b,o,e,h⟩:=h;exact⟨w,b,o,e,RepC.mono k h⟩
 |.clo fn B p,y,h=>by have⟨a,b,e,f,g⟩:=h;exact⟨a,b,e,RepL.mono k j f,RepL.mono k j g⟩
 |.ifc t d,y,h=>by have⟨x,e,h⟩:=h;exact⟨x,e,Rep.mono k j h⟩
 |.fsl _ _ _,y,h=>by assumption
 |.fmp _ _ _,y,h=>by assumption
 |.omp id ver,y,h=>by have⟨b,l,f,g⟩:=h;exact⟨b,l,j _ _ _ f,g⟩
def RepL.mono{M M':Mem}{β β':Loc}(j:MLe M M')(k:BLe β β'):∀{f:List D} {g:List Value},RepL P M β f g->RepL P M' β' f g
 |[],_,h=>by assumption
 |d::f,g,h=>by have⟨x,l,e,o,p⟩:=h;exact⟨x,l,e,Rep.mono j k o,RepL.mono j k p⟩
def RepC.mono{M M':Mem}(f:MLe M M'):∀{g:List D} {b o:Nat},RepC P M g b o->RepC P M' g b o
 |[],_,_,_=>by simp[RepC]
 |d::g,b,o,h=>by have⟨⟨x,e,j⟩,k⟩:=h;exact⟨⟨x,f _ _ _ e,Rep.mono f (BLe.refl _) j⟩,RepC.mono f k⟩
def RepE.mono{M M':Mem}(f:MLe M M'):∀{e:List (List D)} {b o:Nat},RepE P M e b o->RepE P M' e b o
 |[],_,_,_=>by simp[RepE]
 |g::e,b,o,h=>by exact⟨RepC.mono f h.1,RepE.mono f h.2⟩
end
def RepL.length{M:Mem}{β:Loc}:∀{e:List D} {f:List Value},RepL P M β e f->f.length=e.length
 |[],_,h=>by simp_all[RepL,h]
 |d::e,f,h=>by obtain⟨x,j,rfl,_,g⟩:=h;simp[RepL.length g]
def RepL.get{M:Mem}{β:Loc}:∀{f:List D} {g:List Value},RepL P M β f g->∀(i:Nat) (d:D),f[i]? = some d->∃x,g[i]? = some x/\Rep P M β d x
 |[],_,_,i,d,hd=>by simp_all
 |e::f,g,h,i,d,hd=>by
  obtain⟨x,k,rfl,l,j⟩:=h;cases i with
  |zero=>simp_all
  |succ i=>exact RepL.get j i d hd
def RepL.of{M:Mem}{β:Loc}:∀{f:List D} {e:List Value},e.length=f.length->(∀(i:Nat) (d:D) (x:Value),f[i]? = some d->e[i]? = some x->Rep P M β d x)->RepL P M β f e
 |[],e,g,_=>by simp_all[RepL,g]
 |d::f,e,g,h=>by
  cases e with
  |nil=>simp_all
  |cons x j=>exact⟨x,j,rfl,h 0 d x ab ab,RepL.of (by simp_all) λ(i:Nat) k o hd p=>h (i+1) k o ag ag⟩
def RepL.append{M:Mem}{β:Loc}{e g:List D}{f j:List Value}(h:RepL P M β e f)(k:RepL P M β g j):RepL P M β (e++g) (f++j):=by
 induction e generalizing f with
 |nil=>simp_all[RepL,h]
 |cons d e l=>grind[RepL]
def RepC.get{M:Mem}:∀{f:List D} {b o:Nat},RepC P M f b o->∀(i:Nat) (d:D),f[i]? = some d->∃x,M b (o+i)=some x/\Rep P M Yx d x
 |[],_,_,_,i,d,hd=>by simp_all
 |e::f,b,o,h,i,d,hd=>by
  have⟨⟨x,j,k⟩,g⟩:=h;cases i with
  |zero=>simp_all
  |succ i=>have⟨y,l,p⟩:=RepC.get g i d hd;grind
def RepC.of{M:Mem}:∀{f:List D} {b o:Nat},(∀(i:Nat) (d:D),f[i]? = some d->∃x,M b (o+i)=some x/\Rep P M Yx d x)->RepC P M f b o
 |[],_,_,_=>by simp[RepC]
 |e::f,b,o,h=>by refine⟨by simpa using h 0 e ab,RepC.of λ(i:Nat) d hd=>?_⟩;have⟨x,g,j⟩:=h (i+1) d (by simpa using hd);grind
def RepE.get{M:Mem}{z:Nat}:∀{f:List (List D)} {b o:Nat},(∀e∈f,e.length=z)->RepE P M f b o->∀(i:Nat) (e:List D),f[i]? = some e->RepC P M e b (o+i*z)
 |[],_,_,_,_,i,e,g=>by simp_all
 |d::f,b,o,j,h,i,e,g=>by
  simp only[RepE]at h;cases i with
  |zero=>simp_all
  |succ i=>have p:=RepE.get (λk l=>j k (by simp[l])) h.2 i e g;grind
def RepE.of{M:Mem}{z:Nat}:∀{f:List (List D)} {b o:Nat},(∀e∈f,e.length=z)->(∀(i:Nat) (e:List D),f[i]? = some e->RepC P M e b (o+i*z))->RepE P M f b o
 |[],_,_,_,_=>by simp[RepE]
 |d::f,b,o,g,h=>by refine⟨by simpa using h 0 d ab,RepE.of (z:=z) (λj k=>g j (by simp[k])) λ(i:Nat) e p=>?_⟩;have q:=h (i+1) e (by exact p);grind
mutual
def Wf(P:Program):D->Prop
 |.v x=>wfV x
 |.agg f=>WfL P f
 |.tup f=>WfL P f
 |.isl E z g=>(∀e∈g,e.length=z)/\g.length<=Xy/\g.length*P.bytesOf E<=Xy/\WfE P g
 |.ipt _ f _=>WfL P f
 |_=>True
def WfL(P:Program):List D->Prop
 |[]=>True
 |d::e=>Wf P d/\WfL P e
def WfE(P:Program):List (List D)->Prop
 |[]=>True
 |e::f=>WfL P e/\WfE P f
end
mutual
def Rep.wf{M:Mem}{β:Loc}:∀{d:D} {y:Value},Rep P M β d y->Wf P d
 |.any,_,_=>by simp[Wf]
 |.v x,y,h=>by simp_all[Rep,Wf]
 |.agg e,y,h=>by have⟨f,_,h⟩:=h;exact RepL.wf h
 |.tup e,y,h=>by have⟨f,_,h⟩:=h;exact RepL.wf h
 |.nsl,_,_=>by simp[Wf]
 |.isl E z l,y,h=>by
  have⟨g,j,k,a,cap,_,_,h⟩:=h;refine⟨g,j,k,?_⟩;rcases h with rfl|⟨b,o,_,h⟩
  .simp[WfE]
  exact RepE.wf h
 |.osl ..,_,_=>by simp[Wf]
 |.ept ..,_,_=>by simp[Wf]
 |.ipt z e c,y,h=>by have⟨_,b,o,_,h⟩:=h;exact RepC.wf h
 |.clo ..,_,_=>by simp[Wf]
 |.ifc ..,_,_=>by simp[Wf]
 |.fsl ..,_,_=>by simp[Wf]
 |.fmp ..,_,_=>by simp[Wf]
 |.omp ..,_,_=>by simp[Wf]
def RepL.wf{M:Mem}{β:Loc}:∀{e:List D} {f:List Value},RepL P M β e f->WfL P e
 |[],_,_=>by simp[WfL]
 |d::e,f,h=>by have⟨x,k,_,g,j⟩:=h;exact⟨Rep.wf g,RepL.wf j⟩
def RepC.wf{M:Mem}:∀{e:List D} {b o:Nat},RepC P M e b o->WfL P e
 |[],_,_,_=>by simp[WfL]
 |d::e,b,o,h=>by have⟨⟨x,_,f⟩,g⟩:=h;exact⟨Rep.wf f,RepC.wf g⟩
def RepE.wf{M:Mem}:∀{f:List (List D)} {b o:Nat},RepE P M f b o->WfE P f
 |[],_,_,_=>by simp[WfE]
 |e::f,b,o,h=>by exact⟨RepC.wf h.1,RepE.wf h.2⟩
end
inductive Ob where
 |arr (bx:Bool) (E z:Nat) (es:List (List D)) (fz:Nat)
 |mp (k:IntKind) (es:List (Int×D))
 |raw (o:Obj)
 deriving Inhabited
def Ob.bx:Ob->Bool
 |.arr b _ _ _ _=>b
 |.mp ..=>false
 |.raw _=>false
def Xe2(bx:Bool)(β:Loc):Loc:=if bx then β else Yx
def Xoe(bx:Bool)(β:Loc):BLe (Xe2 bx β) β:=by
 cases bx
 .exact BLe.zero β
 exact BLe.refl β
def Xed(bx:Bool){β β':Loc}(h:BLe β β'):BLe (Xe2 bx β) (Xe2 bx β'):=by
 cases bx
 .exact BLe.refl _
 exact h
def EntL(P:Program)(M:Mem)(k:IntKind):List MapEntry->List (Int×D)->Prop
 |[],g=>g=[]
 |e::l,g=>∃x d f,g=(x,d)::f/\e.key=.int k x/\Rep P M Yx d e.val/\EntL P M k l f
def EntL.mono{P:Program}{M M':Mem}(j:MLe M M'){k:IntKind}:∀{l:List MapEntry} {f:List (Int×D)},EntL P M k l f->EntL P M' k l f
 |[],_,h=>h
 |e::l,f,⟨x,d,g,o,p,q,r⟩=>⟨x,d,g,o,p,q.mono j (BLe.refl _),EntL.mono j r⟩
def EntL.length{P:Program}{M:Mem}{k:IntKind}:∀{l:List MapEntry} {f:List (Int×D)},EntL P M k l f->l.length=f.length
 |[],_,h=>by simp_all[EntL]
 |e::l,f,⟨x,d,g,j,p,q,o⟩=>by subst j;simp[EntL.length o]
def ObRep(P:Program)(M:Mem)(β:Loc)(w:World):Option (Nat×Nat)->Ob->Prop
 |none,.arr bx _ _ f fz=>bx=false/\f=[]/\fz=0
 |some (b,g),.arr bx E z f fz=>∃h T,w.heap[b]? = some (.cells h T (0,0))/\h.size=g*z/\(∀e∈f,e.length=z)/\f.length<=g /\
  f.length<=Xy/\f.length*P.bytesOf E<=Xy/\fz<=f.length/\(∀x∈h,x.oneCell'=true) /\
  (∀o,M b o=if o<fz*z then h[o]? else none)/\∀(i:Nat) (d:D),f.flatten[i]? = some d->∃x,h[i]? = some x/\Rep P M (Xe2 bx β) d x
 |some (b,g),.mp k f=>g=0/\f.length<=Xy/\(∀o,M b o=none)/\∃ents clock,w.heap[b]? = some (.map ents clock)/\EntL P M k ents.toList f /\
  (ents.toList.map (·.born)).Pairwise (·<·)/\∀e∈ents.toList,e.born<clock
 |some (b,g),.raw o=>g=0/\(∀i,M b i=none)/\w.heap[b]? = some o
 |_,_=>False
def MemOK(M:Mem)(w:World):Prop:=∀b o x,M b o=some x->w.cell? ⟨b,o,none⟩=some x/\x.oneCell'=true
inductive OZ where
 |struct (fs:List (Nat×Nat×Nat))
 |array (n e sz:Nat)
 |slice (e sz:Nat)
 |int (k:IntKind)
 |bool
 |str
 |iface
 |other
structure Ow where
 size:Nat
 bytes:Nat
 zero:Value
 k:OZ
def Ow.isAgg(t:Ow):Bool:=match t.k with|.struct _|.array _ _ _=>true|_=>false
def Ow.isIface(t:Ow):Bool:=match t.k with|.iface=>true|_=>false
def Vy(P:Program):TypeDesc->OZ
 |.struct g=>.struct (g.toList.map λf=>(f.offset,P.cellsOf f.type,f.type))
 |.array n e=>.array n e (P.cellsOf e)
 |.slice e=>.slice e (P.cellsOf e)
 |.int k=>.int k
 |.bool=>.bool
 |.string=>.str
 |.interface _=>.iface
 |_=>.other
def Xk1(P:Program):TypeDesc->Bool
 |.struct e=>e.toList.all (λf=>((P.info? f.type).map (·.size)).isSome)
 |_=>true
def Xu(P:Program)(t:TypeId):Option Ow:=
 match P.info? t,P.underlying t with
 |some i,some d=>match i.zero with
  |some z=>if Xk1 P d then some ⟨i.size,i.bytes,z,Vy P d⟩else none
  |none=>none
 |_,_=>none
def upd{α:Type}(f:Nat->α)(i:Nat)(x:α):Nat->α:=λj=>if j=i then x else f j
theorem YO{α:Type}(f:Nat->α)(i:Nat)(x:α):upd f i x i=x:=by simp[upd]
def Yf{α:Type}(f:Nat->α)(i j:Nat)(x:α)(h:j≠i):upd f i x j=f j:=by simp[upd,h]
def okV:Value->Bool
 |.int k n=>decide (k.min<=n)&&decide (n<=k.max)
 |.agg _=>false
 |_=>true
def XjR{x:Value}(h:okV x=true):wfV x:=by cases x<;>simp_all[okV,wfV]
def Xk2:Value->D
 |.slice none 0 0=>.nsl
 |x=>if okV x then .v x else .any
def ofV:Value->D
 |.agg e=>.agg (e.toList.map Xk2)
 |x=>Xk2 x
def ev(t:Nat->D)(G:Nat->Option (List D)):Operand->D
 |.tmp i=>t i
 |.const x=>ofV x
 |.global g=>match G g with|some e=>.ipt e.length e 0|none=>.any
 |.func f=>.clo (.func f) [] []
def D.one:D->Bool
 |.any|.agg _|.tup _|.fsl _ _ _|.fmp _ _ _=>false
 |.v x=>x.oneCell'
 |_=>true
def D.cells:D->Option (List D)
 |.agg e=>if e.all D.one then some e else none
 |d=>if d.one then some [d]else none
def Ks(e:List D)(c:Nat)(f:List D):List D:=e.take c++f++e.drop (c+f.length)
abbrev Heap:=Nat->Option (Nat×Ob)
abbrev Up:=List (Nat×Nat×Ob)
def app(s:Heap):Up->Heap
 |[]=>s
 |(i,v,o)::u=>app (upd s i (some (v,o))) u
mutual
def snap(s:Heap):D->Option (Prop×D×List Nat)
 |.osl id ver z off len=>match s id with
  |some (f,.arr false E k h _)=>if ver=f/\z=k then some (off+len<=h.length,.isl E z ((h.drop off).take len),[id])else none
  |_=>none
 |.agg g=>match ZO s g with
  |some (c,j,l)=>some (c,.agg j,l)
  |none=>none
 |.tup g=>match ZO s g with
  |some (c,j,l)=>some (c,.tup j,l)
  |none=>none
 |.clo fn a b=>match ZO s a,ZO s b with
  |some (c,o,l),some (p,q,r)=>some (c/\p,.clo fn o q,l++r)
  |_,_=>none
 |.ifc t d=>match snap s d with
  |some (c,e,l)=>some (c,.ifc t e,l)
  |none=>none
 |.any=>some (True,.any,[])
 |.v x=>some (True,.v x,[])
 |.nsl=>some (True,.nsl,[])
 |.isl E z h=>some (True,.isl E z h,[])
 |.ipt z g c=>some (True,.ipt z g c,[])
 |_=>none
def ZO(s:Heap):List D->Option (Prop×List D×List Nat)
 |[]=>some (True,[],[])
 |d::f=>match snap s d,ZO s f with
  |some (c,e,l),some (g,h,j)=>some (c/\g,e::h,l++j)
  |_,_=>none
end
def Vz(s:Heap):List (Nat×D)->Option (Prop×List (Nat×D)×List Nat)
 |[]=>some (True,[],[])
 |(i,d)::f=>match snap s d,Vz s f with
  |some (c,e,l),some (g,h,j)=>some (c/\g,(i,e)::h,l++j)
  |_,_=>none
def Xd2:Nat×Ob->Nat×Ob
 |(v,.arr false E z e _)=>(v,.arr false E z e e.length)
 |x=>x
def XaY(s:Heap):List Nat->Up
 |[]=>[]
 |i::l=>match s i with
  |some x=>(i,Xd2 x)::XaY s l
  |none=>XaY s l
def Xe3(s:Heap):D->Option (Prop×List D×Nat×Nat)
 |.ipt z g c=>some (True,g,c,z)
 |.ept id ver z i c=>match s id with
  |some (e,.arr _ _ h f _)=>if ver=e/\z=h then some (i<f.length,f.getD i [],c,z)else none
  |_=>none
 |_=>none
def JS(ty:Ow):Option (List D):=(ofV ty.zero).cells
def elems(s:Heap)(z:Nat):D->Option (Prop×List (List D))
 |.nsl=>some (True,[])
 |.v (.slice _ 0 _)=>some (True,[])
 |.isl _ f g=>if z=f then some (True,g)else none
 |.osl id ver f off len=>match s id with
  |some (e,.arr false _ h g _)=>if ver=e/\z=f/\f=h then some (off+len<=g.length,(g.drop off).take len)else none
  |_=>none
 |_=>none
def Ji(isAgg:Bool)(e:List D):D:=if isAgg then .agg e else e.headD .any
def XcL(place:Nat->Option (Nat×Nat)):List D->List (Nat×D)->Option (List D)
 |e,[]=>some e
 |e,(i,d)::rest=>match place i,d.cells with
  |some (off,sz),some f=>if f.length=sz/\off+sz<=e.length then XcL place (Ks e off f) rest else none
  |_,_=>none
def XcM(z:Nat):List (List D)->List (Nat×D)->Option (List (List D))
 |e,[]=>some e
 |e,(i,d)::rest=>match d.cells with
  |some f=>if f.length=z/\i<e.length then XcM z (e.set i f) rest else none
  |_=>none
def Xe4:Option IntKind->D->D->Option Bool
 |some _,.v (.int j a),.v (.int k b)=>if j=k then some (a==b)else none
 |none,.v (.bool a),.v (.bool b)=>some (a==b)
 |_,_,_=>none
def Yk:List (Option IntKind)->List D->List D->Option Bool
 |[],[],[]=>some true
 |k::e,x::f,y::g=>match Xe4 k x y,Yk e f g with
  |some a,some b=>some (a&&b)
  |_,_=>none
 |_,_,_=>none
def ZU(P:Program):Nat->List Field->Option (List (Option IntKind))
 |_,[]=>some []
 |n,f::e=>if(f.offset==n)&&(f.name != "_")then
  match P.underlying f.type with
  |some (.int k)=>(ZU P (n+1) e).map (some k::·)
  |some .bool=>(ZU P (n+1) e).map (none::·)
  |_=>none
  else none
def Yg(P:Program)(t:TypeId):Option (List (Option IntKind)):=
 match P.underlying t with
 |some (.struct f)=>if P.stoodInHeld t||P.eqGuardType P.depth t then none else ZU P 0 f.toList
 |some (.array n e)=>if P.eqGuardType P.depth t then none else match P.underlying e,P.info? e with
  |some (.int k),some _=>if P.cellsOf e=1 then some (List.replicate n (some k))else none
  |_,_=>none
 |_=>none
def Vv(op:BinOp)(k:IntKind)(a b:Int):Option (Prop×Value):=
 match op with
 |.add=>some (True,.int k (k.wrap (a+b)))
 |.sub=>some (True,.int k (k.wrap (a-b)))
 |.mul=>some (True,.int k (k.wrap (a*b)))
 |.quo=>some (b≠0,.int k (k.wrap (a.tdiv b)))
 |.rem=>some (b≠0,.int k (a.tmod b))
 |.and=>some (True,.int k (k.wrap (BitVec.ofInt k.bits a &&& BitVec.ofInt k.bits b).toNat))
 |.or=>some (True,.int k (k.wrap (BitVec.ofInt k.bits a |||BitVec.ofInt k.bits b).toNat))
 |.xor=>some (True,.int k (k.wrap (BitVec.ofInt k.bits a ^^^ BitVec.ofInt k.bits b).toNat))
 |.andNot=>some (True,.int k (k.wrap (BitVec.ofInt k.bits a &&& ~~~ BitVec.ofInt k.bits b).toNat))
 |.eql=>some (True,.bool (a==b))
 |.neq=>some (True,.bool (a != b))
 |.lss=>some (True,.bool (a<b))
 |.leq=>some (True,.bool (a<=b))
 |.gtr=>some (True,.bool (a>b))
 |.geq=>some (True,.bool (a>=b))
 |_=>none
def YX(P:Program)(op:BinOp)(T:TypeId):D->D->Option (Prop×D)
 |.v (.int k a),.v (.int e b)=>match op with
  |.shl=>some (0<=b,.v (.int k (k.wrap (a*2 ^ min b.toNat k.bits))))
  |.shr=>some (0<=b,.v (.int k (a.fdiv (2 ^ min b.toNat k.bits))))
  |op=>if k=e then(Vv op k a b).map λr=>(r.1,.v r.2)else none
 |.v (.bool a),.v (.bool b)=>match Xu P T with
  |some ⟨_,_,_,.bool⟩=>match op with
   |.eql=>some (True,.v (.bool (a==b)))
   |.neq=>some (True,.v (.bool (!(a==b))))
   |_=>none
  |_=>none
 |.agg f,.agg g=>match Yg P T with
  |some h=>match Yk h f g,op with
   |some b,.eql=>some (True,.v (.bool b))
   |some b,.neq=>some (True,.v (.bool (!b)))
   |_,_=>none
  |none=>none
 |_,_=>none
def ivD:D->Option Int
 |.v (.int _ n)=>some n
 |_=>none
def ivO(t:Operand->D):Option Operand->Option (Option Int)
 |none=>some none
 |some x=>(ivD (t x)).map some
def XhI:Value->Bool
 |.int _ _=>false
 |.bool _=>false
 |.slice none _ _=>true
 |_=>false
def XcN:Operand->Bool
 |.tmp _=>false
 |.global _=>false
 |.func _=>false
 |.const v=>XhI v
def Xe5(P:Program)(op:BinOp)(T:TypeId):D->Option (Prop×D)
 |.isl _ _ e=>match Xu P T,op with
  |some ⟨_,_,_,.slice _ _⟩,.eql=>some (e≠[],.v (.bool false))
  |some ⟨_,_,_,.slice _ _⟩,.neq=>some (e≠[],.v (.bool true))
  |_,_=>none
 |.v (.slice a _ _)=>match Xu P T,op with
  |some ⟨_,_,_,.slice _ _⟩,.eql=>some (True,.v (.bool a.isNone))
  |some ⟨_,_,_,.slice _ _⟩,.neq=>some (True,.v (.bool (!a.isNone)))
  |_,_=>none
 |_=>none
def XaA(sz:Nat)(e f j:Option Int):D->Option (Prop×D)
 |.nsl=>match j,f with
  |some _,none=>none
  |_,_=>some (e.getD 0=0/\f.getD 0=0/\j.getD 0=0,.nsl)
 |.isl E z g=>if z=sz then match j,f with
  |none,_=>some (0<=e.getD 0/\e.getD 0<=f.getD g.length/\f.getD g.length<=g.length,
   .isl E z ((g.drop (e.getD 0).toNat).take ((f.getD g.length).toNat-(e.getD 0).toNat)))
  |some m,some h=>some (e.getD 0=0/\h=0/\m=0,.nsl)
  |_,_=>none
  else none
 |.osl id ver z off len=>if z=sz then match j with
  |none=>some (0<=e.getD 0/\e.getD 0<=f.getD len/\f.getD len<=len,
   .osl id ver z (off+(e.getD 0).toNat) ((f.getD len).toNat-(e.getD 0).toNat))
  |some m=>match f with
   |some h=>some (0<=e.getD 0/\e.getD 0<=h/\h<=m/\m<=len,.any)
   |none=>none
  else none
 |_=>none
def XaB(s:Heap)(sz:Nat)(e f g:Option Int)(d:D):Option (Prop×D):=match g,e,f with
 |none,some l,some h=>match d with
  |.osl id v z off len=>match s id with
   |some (k,.arr false _ o j _)=>if z=sz/\v=k/\z=o then
    (if off+len=j.length then XaA sz e f g d else some (0<=l/\l<=h/\off+h.toNat<=j.length,.osl id v z (off+l.toNat) (h.toNat-l.toNat)))
    else XaA sz e f g d
   |_=>none
  |_=>XaA sz e f g d
 |_,_,_=>XaA sz e f g d
def Xd3(P:Program)(s:Heap)(KV ver E z bytes:Nat)(f:Prop)(src:List (List D)):D->Option (Prop×D×Up)
 |.nsl=>some (f/\src.length<=Xy/\src.length*bytes<=Xy,.osl KV ver z 0 src.length,[(KV,ver,.arr false E z src 0)])
 |.osl id v h off len=>match s id with
  |some (j,.arr false E' g e fz)=>
   if v=j/\z=h/\z=g/\P.bytesOf E'=bytes then
    if off+len=e.length then
     some (f/\off=0/\e.length+src.length<=Xy/\(e.length+src.length)*bytes<=Xy,.osl id ver z 0 (len+src.length),[(id,ver,.arr false E' z (e++src) fz)])
    else
     some (f/\off+len+src.length<=e.length/\fz<=off+len,.osl id v z off (len+src.length),
      [(id,v,.arr false E' z (e.take (off+len)++src++e.drop (off+len+src.length)) fz)])
   else none
  |_=>none
 |_=>none
def Xk3(g:Bool):D->D->D
 |.v (.bool p),.v (.bool q)=>.v (.bool (bif g then p else q))
 |a,b=>match g with
  |true=>a
  |false=>b
def XaZ(P:Program)(T:TypeId):Option (IntKind×TypeId):=match P.underlying T with
 |some (.map K E)=>match P.underlying K with
  |some (.int k)=>some (k,E)
  |_=>none
 |_=>none
def Xd4:List (Int×D)->Int->Option D
 |[],_=>none
 |(x,d)::e,n=>if n=x then some d else Xd4 e n
def Xa0:List (Int×D)->Int->D->List (Int×D)
 |[],n,d=>[(n,d)]
 |(x,e)::f,n,d=>if n=x then(x,d)::f else(x,e)::Xa0 f n d
def Xam:List (Int×D)->Int->List (Int×D)
 |[],_=>[]
 |(x,e)::f,n=>if n=x then f else(x,e)::Xam f n
def XhJ(P:Program)(s:Heap)(T:TypeId)(m key x:D):Option (Prop×D×Up):=match XaZ P T,m,key with
 |some (k,_),.omp id v,.v (.int g n)=>match s id with
  |some (e,.mp k2 f)=>match snap s x with
   |some (c,d,l)=>if v=e/\k=k2/\k=g/\id∉l then some (c/\f.length<Xy,.v undef,XaY s l++[(id,e,.mp k (Xa0 f n d))])else none
   |none=>none
  |_=>none
 |_,_,_=>none
def KV(dst:Option Nat):Nat:=match dst with|some d=>64*d|none=>0
def opF(P:Program)(dst:Option Nat)(ver:Nat)(t:Operand->D)(s:Heap):Op->Option (Prop×D×Up)
 |.move x|.assign x=>some (True,t x,[])
 |.pick c a b=>match t c with
  |.v (.bool g)=>some (True,Xk3 g (t a) (t b),[])
  |_=>none
 |.alloc T=>match Xu P T with
  |some ty=>match JS ty with
   |some w=>if w.length=ty.size/\ty.bytes<=Xy then some (True,.ept (KV dst) ver ty.size 0 0,[(KV dst,ver,.arr true T ty.size [w] 0)])else none
   |none=>none
  |none=>none
 |.box T x=>match Xu P T,(t x).cells with
  |some ty,some w=>if ty.bytes<=Xy then some (w.length=ty.size,.ept (KV dst) ver ty.size 0 0,[(KV dst,ver,.arr true T ty.size [w] 0)])else none
  |_,_=>none
 |.build T parts=>match Xu P T with
  |some ty=>match JS ty,ty.k with
   |some w,.struct I=>(XcL (λi=>(I[i]?).map λf=>(f.1,f.2.1)) w (parts.toList.map λp=>(p.1,t p.2))).map λr=>(True,.agg r,[])
   |some w,.array _ e sz=>match Xu P e with
    |some _=>(XcL (λi=>some (i*sz,sz)) w (parts.toList.map λp=>(p.1,t p.2))).map λr=>(True,.agg r,[])
    |none=>none
   |_,_=>none
  |none=>none
 |.buildSlice T n parts=>match Xu P T with
  |some ⟨_,_,_,.slice E z⟩=>match Xu P E with
   |some u=>match JS u with
    |some G=>if G.length=z/\u.size=z/\n*z<=16777216/\n*u.bytes<=Xy/\n<=Xy then
     match Vz s (parts.toList.map λp=>(p.1,t p.2))with
     |some (c,L,l)=>(XcM z (List.replicate n G) L).map λq=>(c,.osl (KV dst) ver z 0 n,XaY s l++[(KV dst,ver,.arr false E z q 0)])
     |none=>none
     else none
    |none=>none
   |none=>none
  |_=>none
 |.load T a=>match Xu P T,Xe3 s (t a)with
  |some ty,some (c,w,o,z)=>if o+ty.size<=z/\(ty.isAgg=true\/ty.size=1)then some (c,Ji ty.isAgg ((w.drop o).take ty.size),[])else none
  |_,_=>none
 |.store T a x=>match Xu P T,t a with
  |some ty,.ept id v z i c=>match s id with
   |some (B,.arr true E J q fz)=>match (t x).cells with
    |some H=>if v=B/\z=J/\c+ty.size<=z then
     some (i<q.length/\fz<=i/\H.length=ty.size,.v undef,[(id,v,.arr true E z (q.set i (Ks (q.getD i []) c H)) fz)])
     else none
    |none=>none
   |some (B,.arr false E J q fz)=>match snap s (t x)with
    |some (M,d,l)=>match d.cells with
     |some H=>if v=B/\z=J/\c+ty.size<=z/\id∉l then
      some (M/\i<q.length/\fz<=i/\H.length=ty.size,.v undef,XaY s l++[(id,v,.arr false E z (q.set i (Ks (q.getD i []) c H)) fz)])
      else none
     |none=>none
    |none=>none
   |_=>none
  |_,_=>none
 |.nilCheck x=>match t x with
  |.ept id v z i c=>some (True,.ept id v z i c,[])
  |.ipt z w c=>some (True,.ipt z w c,[])
  |_=>none
 |.binOp op T x y _=>(if XcN y then Xe5 P op T (t x)else YX P op T (t x) (t y)).map λr=>(r.1,r.2,[])
 |.unOp op _ x=>match op,t x with
  |.not,.v (.bool b)=>some (True,.v (.bool (!b)),[])
  |.neg,.v (.int k n)=>some (True,.v (.int k (k.wrap (0-n))),[])
  |_,_=>none
 |.convert S T x=>match Xu P S,Xu P T,t x with
  |some _,some ⟨_,_,_,.int k⟩,.v (.int _ n)=>some (True,.v (.int k (k.wrap n)),[])
  |_,_,_=>none
 |.makeFunc fn first captured=>some (True,.clo fn (first.toList.map t) (captured.toList.map t),[])
 |.makeSlice T l c=>match Xu P T,ivD (t l),ivD (t c)with
  |some ⟨_,_,_,.slice E z⟩,some n,some m=>match Xu P E with
   |some u=>match JS u with
    |some G=>if G.length=z/\u.size=z then
     some (0<=n/\m=n/\n.toNat<=Xy/\n.toNat*u.bytes<=Xy,.osl (KV dst) ver z 0 n.toNat,[(KV dst,ver,.arr false E z (List.replicate n.toNat G) 0)])
     else none
    |none=>none
   |none=>none
  |_,_,_=>none
 |.slice T x N O R=>match Xu P T,ivO t N,ivO t O,ivO t R with
  |some ⟨_,_,_,.slice E sz⟩,some l,some h,some m=>match Xu P E with
   |some _=>(XaB s sz l h m (t x)).map λr=>(r.1,r.2,[])
   |none=>none
  |some ⟨_,_,_,.array n E _⟩,some none,some none,some none=>match Xu P E,t x with
   |some u,.ipt z w 0=>if u.size=1/\z=n/\0<n/\n<=Xy/\n*P.bytesOf E<=Xy then some (w.length=z,.isl E 1 (w.map λx=>[x]),[])else none
   |_,_=>none
  |_,_,_,_=>none
 |.fieldAddr T x f=>match Xu P T,t x with
  |some ⟨_,_,_,.struct I⟩,.ept id v z i c=>match I[f]? with
   |some (off,sz,_)=>if sz=0 then none else some (True,.ept id v z i (c+off),[])
   |none=>none
  |some ⟨_,_,_,.struct I⟩,.ipt z w c=>match I[f]? with
   |some (off,sz,_)=>if sz=0 then none else some (True,.ipt z w (c+off),[])
   |none=>none
  |_,_=>none
 |.field T x f=>match Xu P T,t x with
  |some ⟨_,_,_,.struct I⟩,.agg w=>match I[f]? with
   |some (off,sz,U)=>match Xu P U with
    |some ty=>if ty.size=sz then some (off+sz<=w.length/\(ty.isAgg=true\/sz=1),Ji ty.isAgg ((w.drop off).take sz),[])else none
    |none=>none
   |none=>none
  |_,_=>none
 |.indexAddr T x ix=>match Xu P T,t x,ivD (t ix)with
  |some ⟨_,_,_,.slice _ sz⟩,.isl _ z q,some i=>if sz=z/\sz≠0 then some (0<=i/\i<q.length,.ipt z (q.getD i.toNat []) 0,[])else none
  |some ⟨_,_,_,.slice _ sz⟩,.osl id v z off len,some i=>if sz=z/\sz≠0 then some (0<=i/\i<len,.ept id v z (off+i.toNat) 0,[])else none
  |some ⟨_,_,_,.array n _ sz⟩,.ipt z w c,some i=>if sz=0 then none else some (0<=i/\i<n,.ipt z w (c+i.toNat*sz),[])
  |some ⟨_,_,_,.array n _ sz⟩,.ept id v z j c,some i=>if sz=0 then none else some (0<=i/\i<n,.ept id v z j (c+i.toNat*sz),[])
  |_,_,_=>none
 |.index T x ix=>match Xu P T,t x,ivD (t ix)with
  |some ⟨_,_,_,.array n e sz⟩,.agg w,some i=>match Xu P e with
   |some ty=>if ty.size=sz then some (0<=i/\i<n/\(i.toNat+1)*sz<=w.length/\(ty.isAgg=true\/sz=1),Ji ty.isAgg ((w.drop (i.toNat*sz)).take sz),[])else none
   |none=>none
  |_,_,_=>none
 |.makeMap T r=>match XaZ P T,ivO t r with
  |some (k,_),some _=>some (True,.omp (KV dst) ver,[(KV dst,ver,.mp k [])])
  |_,_=>none
 |.mapUpdate T m key x|.insert T m key x=>XhJ P s T (t m) (t key) (t x)
 |.lookup T m key ok=>match XaZ P T,t m,t key with
  |some (k,E),.omp id v,.v (.int K n)=>match s id,Xu P E with
   |some (B,.mp k2 q),some u=>if v=B/\k=k2/\k=K then
    some (True,if ok then .tup [(Xd4 q n).getD (ofV u.zero),.v (.bool (Xd4 q n).isSome)]else(Xd4 q n).getD (ofV u.zero),[])
    else none
   |_,_=>none
  |_,_,_=>none
 |.extract x i=>match t x with
  |.tup H=>if i<H.length then some (True,H.getD i .any,[])else none
  |_=>none
 |.makeInterface T x=>match Xu P T with
  |some ty=>if ty.isIface then none else some (True,.ifc T (t x),[])
  |none=>none
 |.typeAssert x _ A ok=>match Xu P A,t x,ok with
  |some u,.ifc T d,true=>if u.isIface then none else if T=A then some (True,.tup [d,.v (.bool true)],[])else some (True,.tup [ofV u.zero,.v (.bool false)],[])
  |some u,.v .nilIface,true=>if u.isIface then none else some (True,.tup [ofV u.zero,.v (.bool false)],[])
  |_,_,_=>none
 |.call ⟨.builtin .len,args,types⟩=>match args.toList.map t,types.toList with
  |[d],[T]=>match Xu P T,d with
   |some ⟨_,_,_,.slice _ _⟩,.nsl=>some (True,.v (.int .i64 0),[])
   |some ⟨_,_,_,.slice _ _⟩,.isl _ _ q=>some (True,.v (.int .i64 q.length),[])
   |some ⟨_,_,_,.slice _ _⟩,.osl _ _ _ _ len=>some (len<=Xy,.v (.int .i64 len),[])
   |some ⟨_,_,_,.array n _ _⟩,_=>if n<=Xy then some (True,.v (.int .i64 n),[])else none
   |_,.omp id v=>match XaZ P T,s id with
    |some (k,_),some (B,.mp k2 q)=>if v=B/\k=k2 then some (True,.v (.int .i64 q.length),[])else none
    |_,_=>none
   |_,_=>none
  |_,_=>none
 |.call ⟨.builtin .delete,args,types⟩=>match args.toList.map t,types.toList with
  |[.omp id v,.v (.int K n)],T::_=>match XaZ P T,s id with
   |some (k,_),some (B,.mp k2 q)=>if v=B/\k=k2/\k=K then some (True,.tup [],[(id,B,.mp k (Xam q n))])else none
   |_,_=>none
  |_,_=>none
 |.call ⟨.builtin .cap,args,types⟩=>match args.toList.map t,types.toList with
  |[d],[T]=>match Xu P T,d with
   |some ⟨_,_,_,.slice _ _⟩,.nsl=>some (True,.v (.int .i64 0),[])
   |_,_=>none
  |_,_=>none
 |.call ⟨.builtin .min,args,_⟩=>match args.toList.map t with
  |[.v (.int j a),.v (.int k b)]=>if j=k then some (True,.v (.int j (if b<a then b else a)),[])else none
  |_=>none
 |.call ⟨.builtin .max,args,_⟩=>match args.toList.map t with
  |[.v (.int j a),.v (.int k b)]=>if j=k then some (True,.v (.int j (if a<b then b else a)),[])else none
  |_=>none
 |.call ⟨.builtin .clear,args,types⟩=>match args.toList.map t,types.toList with
  |[.osl id v z off len],[T]=>match Xu P T with
   |some ⟨_,_,_,.slice E sz⟩=>match Xu P E with
    |some u=>match JS u,s id with
     |some G,some (B,.arr false E' J q fz)=>if v=B/\z=J/\z=sz/\u.size=sz/\G.length=sz then some (off+len<=q.length/\fz<=off,.tup [],[(id,v,.arr false E' z (q.take off++List.replicate len G++q.drop (off+len)) fz)])else none
     |_,_=>none
    |none=>none
   |_=>none
  |[.omp id v],T::_=>match XaZ P T,s id with
   |some (k,_),some (B,.mp k2 q)=>if v=B/\k=k2 then some (True,.tup [],[(id,B,.mp k [])])else none
   |_,_=>none
  |_,_=>none
 |.call ⟨.builtin .copy,args,types⟩=>match args.toList.map t,types.toList with
  |[.osl id v z off len,x],T::_=>match Xu P T with
   |some ⟨_,_,_,.slice E sz⟩=>match Xu P E,s id,elems s z x with
    |some u,some (B,.arr false E' J q fz),some (c,src)=>if v=B/\z=J/\z=sz/\u.size=sz then
     some (c/\src.length<=len/\off+len<=q.length/\fz<=off,.v (.int .i64 src.length),[(id,v,.arr false E' z (q.take off++src++q.drop (off+src.length)) fz)])
     else none
    |_,_,_=>none
   |_=>none
  |_,_=>none
 |.call ⟨.builtin .append,args,types⟩=>match args.toList.map t,types.toList with
  |[d,x],[T,T2]=>match Xu P T with
   |some ⟨_,_,_,.slice E z⟩=>match Xu P E with
    |some u=>match JS u with
     |some G=>if u.size=z/\G.length=z then match Xu P T2 with
      |some ⟨_,_,_,.slice _ _⟩=>match elems s z x with
       |some (c,src)=>Xd3 P s (KV dst) ver E z u.bytes c src d
       |none=>none
      |some ⟨_,_,_,.int _⟩=>match ivD x with
       |some n=>Xd3 P s (KV dst) ver E z u.bytes (0<=n/\n<=Xy/\n.toNat*u.bytes<=Xy) (List.replicate n.toNat G) d
       |_=>none
      |_=>none
      else none
     |none=>none
    |none=>none
   |_=>none
  |_,_=>none
 |_=>none
variable {P:Program}
structure Cx where
 G:Nat->Option (List D)
 M0:Mem
 w0:World
 lb:List Nat
 b0:Loc
 M1:Mem
 off:Nat
 rd:Option Nat
 df:List Deferred
@[reducible] def Cx.sub(C:Cx)(n:Nat)(x:Mem×Loc):Cx:=⟨C.G,C.M0,C.w0,C.lb,x.2,x.1,n,none,[]⟩
structure Kp(w0:World)(lb:List Nat)(w:World):Prop where
 os:w.os=w0.os
 tape:w.tape=w0.tape
 output:w.output=w0.output
 size:w0.heap.size<=w.heap.size
 block:∀k,k<w0.heap.size->k∉lb->w.heap[k]? = w0.heap[k]?
def Kp.refl(w:World)(lb:List Nat):Kp w lb w:=⟨rfl,rfl,rfl,Uj _,λ_ _ _=>rfl⟩
structure UY(P:Program)(C:Cx)(s:Heap)(U:Nat->Prop)(M:Mem)(β:Loc)(w:World):Prop where
 mem:MemOK M w
 used:∀id ver x,β id ver=some x->U ver
 obs:∀id v ob,s id=some (v,ob)->∃x,β id v=some x/\ObRep P M β w x ob
 own:∀id v ob b cb,s id=some (v,ob)->β id v=some (some (b,cb))->C.w0.heap.size<=b\/(b∈C.lb/\ob.bx=true)
 inj:∀id v ob id' v' ob' b cb cb',s id=some (v,ob)->s id'=some (v',ob')->β id v=some (some (b,cb))->β id' v'=some (some (b,cb'))->id=id'
 keep:Kp C.w0 C.lb w
 old:∀b o,b<C.w0.heap.size->M b o=C.M0 b o
 le:MLe C.M1 M
 glob:∀g cs,C.G g=some cs->RepC P C.M1 cs g 0
def UY.mono{C:Cx}{s:Heap}{U U':Nat->Prop}{M:Mem}{β:Loc}{w:World}(h:UY P C s U M β w)(f:∀v,U v->U' v):UY P C s U' M β w:=
 {h with used:=λi v x e=>f _ (h.used i v x e)}
def MemOK.lt{M:Mem}{w:World}(h:MemOK M w){b o:Nat}{x:Value}(e:M b o=some x):b<w.heap.size:=
 World.block_lt_of_cell? (a:=⟨b,o,none⟩) w (h b o x e).1
def ObRep.lt{M:Mem}{β:Loc}{w:World}{b f:Nat}{ob:Ob}(h:ObRep P M β w (some (b,f)) ob):b<w.heap.size:=by
 cases ob with
 |raw o=>have⟨_,_,e⟩:=h;grind
 |mp kk g=>have⟨_,_,_,ents,clock,e,_⟩:=h;grind
 |arr bx E z g fz=>have⟨j,T,e,_⟩:=h;grind
def ObRep.mono{M M':Mem}{β β':Loc}{w u:World}{x:Option (Nat×Nat)}{ob:Ob}(h:ObRep P M β w x ob)(v:MLe M M')(A:BLe β β')(hw:∀b e,x=some (b,e)->u.heap[b]? = w.heap[b]?)(l:∀b e,x=some (b,e)->∀o,M' b o=M b o):ObRep P M' β' u x ob:=by
 cases ob with
 |raw o=>
  cases x with
  |none=>assumption
  |some f=>have⟨b,e⟩:=f;have⟨g,j,k⟩:=h;exact⟨g,λo=>(l b e rfl o).trans (j o),(hw b e rfl).trans k⟩
 |mp kk B=>
  cases x with
  |none=>assumption
  |some f=>have⟨b,e⟩:=f;have⟨g,j,k,ents,clock,p,q,r⟩:=h;exact⟨g,j,λo=>(l b e rfl o).trans (k o),ents,clock,(hw b e rfl).trans p,q.mono v,r⟩
 |arr bx E z B fz=>
  cases x with
  |none=>assumption
  |some f=>have⟨b,e⟩:=f;have⟨D,T,g,j,k,p,q,r,G,H,I,s⟩:=h;refine⟨D,T,(hw b e rfl).trans g,j,k,p,q,r,G,H,λo=>(l b e rfl o).trans (I o),λi d hd=>?_⟩;have⟨y,J,K⟩:=s i d hd;exact⟨y,J,K.mono v (Xed bx A)⟩
def UY.set{C:Cx}{s:Heap}{U:Nat->Prop}{M M':Mem}{β β':Loc}{w w':World}(h:UY P C s U M β w)(id ver:Nat)(ob:Ob)(b cb:Nat)(hM:MLe M M')(V:BLe β β')(hw:∀k,k≠b->w'.heap[k]? = w.heap[k]?)(hm:∀k,k≠b->∀o,M' k o=M k o)(hmem:∀o x,M' b o=some x->w'.cell? ⟨b,o,none⟩=some x/\x.oneCell'=true)(hβ:β' id ver=some (some (b,cb)))(hob:ObRep P M' β' w' (some (b,cb)) ob)(D:∀f A g W,f≠id->s f=some (A,g)->β f A≠some (some (b,W)))(hown:C.w0.heap.size<=b\/(b∈C.lb/\ob.bx=true))(J:b<C.w0.heap.size->∀o,M' b o=M b o)(Y:w'.os=w.os)(E:w'.tape=w.tape)(K:w'.output=w.output)(G:w.heap.size<=w'.heap.size)(H:∀i v x,β' i v=some x->β i v=some x\/v=ver):UY P C (upd s id (some (ver,ob))) (λv=>U v\/v=ver) M' β' w':=by
 have j:∀f A g x,f≠id->s f=some (A,g)->β' f A=some x->β f A=some x:=by intro f A g x hne u l;obtain⟨y,hy,_⟩:=h.obs f A g u;rw[V _ _ _ hy]at l;rw[hy];exact l
 constructor
 .intro k o x l;by_cases B:k=b
  .grind
  rw[hm k B o]at l;have:=h.mem k o x l;refine⟨?_,this.2⟩;rw[←this.1];simp[World.cell?,hw k B]
 .intro i v x l;rcases H i v x l with l|rfl
  .exact .inl (h.used i v x l)
  omega
 .intro f v g u;by_cases p:f=id
  .simp_all[YO]
  rw[Yf _ _ _ _ p]at u;have⟨x,l,hr⟩:=h.obs f v g u;refine⟨x,V _ _ _ l,hr.mono hM V ?_ ?_⟩
  .rintro k Z rfl;exact hw k λe=>D f v g Z p u (e▸l)
  grind
 .intro f v g k Z u l;by_cases p:f=id
  .simp_all[YO,hβ]
  rw[Yf _ _ _ _ p]at u;exact h.own f v g k Z u (j f v g _ p u l)
 .intro I v1 L z v2 N k c1 c2 q r O hx2;by_cases h1:I=id
  .by_cases R:z=id
   .omega
   subst h1;rw[YO]at q;obtain⟨rfl,rfl⟩:=by simpa using q
   rw[hβ]at O;rw[Yf _ _ _ _ R]at r;grind
  rw[Yf _ _ _ _ h1]at q;have S:=j I v1 L _ h1 q O;by_cases R:z=id
  .subst R;rw[YO]at r;grind
  rw[Yf _ _ _ _ R]at r;exact h.inj I v1 L z v2 N k c1 c2 q r S (j z v2 N _ R r hx2)
 .refine⟨Y.trans h.keep.os,E.trans h.keep.tape,K.trans h.keep.output,Uq h.keep.size G,λk B hl=>?_⟩;rw[←h.keep.block k B hl];grind
 .intro k o B;by_cases T:k=b
  .subst T;rw[J B o];exact h.old k o B
  rw[hm k T o];exact h.old k o B
 .exact h.le.trans hM
 exact h.glob
def UY.setNil{C:Cx}{s:Heap}{U:Nat->Prop}{M:Mem}{β β':Loc}{w:World}(h:UY P C s U M β w)(id ver E z:Nat)(H:BLe β β')(hβ:β' id ver=some none)(p:∀i v x,β' i v=some x->β i v=some x\/v=ver):UY P C (upd s id (some (ver,.arr false E z [] 0))) (λv=>U v\/v=ver) M β' w:=by
 have g:∀e B f x,e≠id->s e=some (B,f)->β' e B=some x->β e B=some x:=by intro e B f x S o j;obtain⟨y,K,_⟩:=h.obs e B f o;rw[H _ _ _ K]at j;rw[K];exact j
 constructor
 .exact h.mem
 .intro i v x j;rcases p i v x j with j|rfl
  .exact .inl (h.used i v x j)
  omega
 .intro e v f o;by_cases l:e=id
  .grind[YO,ObRep]
  rw[Yf _ _ _ _ l]at o;have⟨x,j,T⟩:=h.obs e v f o;exact⟨x,H _ _ _ j,T.mono (MLe.refl _) H (λ_ _ _=>rfl) (λ_ _ _ _=>rfl)⟩
 .intro e v f k V o j;by_cases l:e=id
  .simp_all[YO,hβ]
  rw[Yf _ _ _ _ l]at o;exact h.own e v f k V o (g e v f _ l o j)
 .intro q L D r N G k W Y u A I J;by_cases O:q=id
  .simp_all[YO,hβ]
  by_cases R:r=id
  .simp_all[YO,hβ]
  rw[Yf _ _ _ _ O]at u;rw[Yf _ _ _ _ R]at A;exact h.inj q L D r N G k W Y u A (g q L D _ O u I) (g r N G _ R A J)
 .exact h.keep
 .exact h.old
 .exact h.le
 exact h.glob
def Zx(β:Loc)(id ver:Nat)(x:Option (Nat×Nat)):Loc:=λi v=>if i=id/\v=ver then some x else β i v
theorem XM(β:Loc)(id ver:Nat) (x):Zx β id ver x id ver=some x:=by simp[Zx]
def Zd{β:Loc}{id ver:Nat}{x}(h:β id ver=none):BLe β (Zx β id ver x):=by intro i v y e;unfold Zx;grind
def Zm{β:Loc}{id ver:Nat}{x}(i v:Nat) (y) (h:Zx β id ver x i v=some y):β i v=some y\/v=ver:=by unfold Zx at h;grind
def UY.fresh{C:Cx}{s:Heap}{U:Nat->Prop}{M:Mem}{β:Loc}{w:World}(h:UY P C s U M β w){ver:Nat}(e:¬U ver)(id:Nat):β id ver=none:=by
 cases hb:β id ver with
 |none=>rfl
 |some x=>exact absurd (h.used id ver x hb) e
def XY{z:Nat}:∀{f:List (List D)},(∀e∈f,e.length=z)->f.flatten.length=f.length*z
 |[],_=>by simp
 |e::f,h=>by have k:f.flatten.length=f.length*z:=XY λg j=>h g (Ul _ j);grind
def JT{z:Nat}:∀{f:List (List D)},(∀e∈f,e.length=z)->∀(i j:Nat),j<z->f.flatten[i*z+j]? = (f.getD i [])[j]?
 |[],_,i,j,_=>by simp
 |e::f,h,i,j,k=>by
  have g:e.length=z:=h e ab;cases i with
  |zero=>grind
  |succ i=>
   have:¬(i+1)*z+j<e.length:=by rw[g,IB];omega
   rw[List.flatten_cons,U3 aa,g];have l:(i+1)*z+j-z=i*z+j:=by rw[IB];omega
   rw[l,JT (λo p=>h o (by grind)) i j k];simp
def Y5{z:Nat}{f:List (List D)}(h:∀e∈f,e.length=z)(k:Nat):f.flatten[k]? = (f.getD (k / z) [])[k % z]?:=by
 rcases Uf z with rfl|g
 .have j:f.flatten=[]:=WN (by rw[XY h];simp);grind
 have:=JT h (k / z) (k % z) (Nat.mod_lt _ g);simp_all[Nat.div_add_mod']
def XcO(f:List (List D))(h:∀e∈f,e.length=0)(k:Nat):f.flatten[k]? = none:=by have g:f.flatten=[]:=WN (by rw[XY h];simp);grind
def UY.alloc{C:Cx}{s:Heap}{U:Nat->Prop}{M:Mem}{β:Loc}{w w1:World}(h:UY P C s U M β w)(B:w1.heap=w.heap/\w1.os=w.os/\w1.tape=w.tape/\w1.output=w.output){ver:Nat}(S:¬U ver)(bx:Bool)(id E z:Nat)(p:List (List D))(q:Nat)(g:Array Value)(T:TypeId)(G:g.size=q*z)(V:∀e∈p,e.length=z)(H:p.length<=q)(W:p.length<=Xy)(hb:p.length*P.bytesOf E<=Xy)(r:∀x∈g,x.oneCell'=true)(u:∀(i:Nat) (d:D),p.flatten[i]? = some d->∃x,g[i]? = some x/\Rep P M (Xe2 bx β) d x):
 UY P C (upd s id (some (ver,.arr bx E z p 0))) (λv=>U v\/v=ver) M (Zx β id ver (some (w.heap.size,q))) (w1.alloc (.cells g T)) /\
  BLe β (Zx β id ver (some (w.heap.size,q))):=by
 have Y:=h.fresh S id;have I:BLe β (Zx β id ver (some (w.heap.size,q))):=Zd Y;have f:∀o,M w.heap.size o=none:=by
  intro o;cases j:M w.heap.size o with
  |none=>rfl
  |some x=>exact absurd (h.mem.lt j) (Ib _)
 have⟨O,Z,e3,e4⟩:=B;have l:∀k,k≠w.heap.size->(w1.alloc (.cells g T)).heap[k]? = w.heap[k]?:=by intro k hk;show(w1.heap.push _)[k]? = _;rw[O,Array.getElem?_push,Wk hk]
 have A:(w1.alloc (.cells g T)).heap[w.heap.size]? = some (.cells g T (0,0)):=by show(w1.heap.push _)[w.heap.size]? = _;rw[O];simp
 refine⟨h.set id ver _ w.heap.size q (MLe.refl M) I l (λ_ _ _=>rfl) ?_ (XM ..) ?_ ?_ (.inl h.keep.size) ?_ Z e3 e4 ?_ Zm,I⟩
 .intro o x j;rw[f o]at j;cases j
 .refine⟨g,T,A,G,V,H,W,hb,UP _,r,λo=>by simp[f o],λi d hd=>?_⟩;have⟨x,j,J⟩:=u i d hd;exact⟨x,j,J.mono (MLe.refl M) (Xed bx I)⟩
 .intro K v' L N _ hs j;have⟨y,R,J⟩:=h.obs K v' L hs;rw[j]at R;obtain rfl:some (w.heap.size,N)=y:=by simpa using R
  exact absurd J.lt (Ib _)
 .intro hlt;exact absurd h.keep.size aa
 simp_all
def UY.write{C:Cx}{s:Heap}{U:Nat->Prop}{M:Mem}{β:Loc}{w:World}(h:UY P C s U M β w){bx:Bool}{id ver E z fz:Nat}{y es':List (List D)}(A:s id=some (ver,.arr bx E z y fz)){b l:Nat}(hb:β id ver=some (some (b,l))){j cs':Array Value}{T:TypeId}(p:w.heap[b]? = some (.cells j T (0,0)))(B:cs'.size=j.size)(f:es'.length=y.length)(Y:∀e∈es',e.length=z)(q:∀x∈cs',x.oneCell'=true)(G:∀o,o<fz*z->cs'[o]? = j[o]?)(r:∀(i:Nat) (d:D),es'.flatten[i]? = some d->∃x,cs'[i]? = some x/\Rep P M (Xe2 bx β) d x):
 UY P C (upd s id (some (ver,.arr bx E z es' fz))) U M β (w.setRow b cs'):=by
 have⟨x,H,Z⟩:=h.obs id ver _ A;obtain rfl:some (b,l)=x:=by simp_all
 have⟨I,T0,k1,k2,k3,k4,k5,k6,k7,k8,k9,k10⟩:=Z;have⟨rfl,rfl⟩:j=I/\T=T0:=by simp_all
 have g:∀k,k≠b->(w.setRow b cs').heap[k]? = w.heap[k]?:=λk hk=>setRow_other w b k cs' hk;have u:=setRow_heap w b j cs' T (0,0) p;have:=h.set (M':=M) (β':=β) (w':=w.setRow b cs') id ver (.arr bx E z es' fz) b l (MLe.refl M) (BLe.refl β) g (λ_ _ _=>rfl) ?_ hb ?_ ?_ (h.own id ver (.arr bx E z y fz) b l A hb:_\/(_/\bx=true)) (λ_ _=>rfl) rfl rfl rfl ab (λ_ _ _ e=>.inl e)
 .exact this.mono λv W=>by
   rcases W with W|rfl
   .omega
   exact h.used id _ _ hb
 .intro o x H;have J:=k9 o;rw[H]at J;split at J
  .rename_i K;have:(w.setRow b cs').cell? ⟨b,o,none⟩=cs'[o]?:=cell_setRow_same w b o j cs' T (0,0) p;rw[this,G o K];exact⟨J.symm,(h.mem b o x H).2⟩
  simp_all
 .refine⟨cs',T,u,by rw[B];exact k2,Y,by rw[f];exact k4,by rw[f];exact k5,by rw[f];exact k6,by rw[f];exact k7,q,λo=>?_,r⟩;simp_all
 intro L v' N O R S V;exact R (h.inj L v' N id ver _ b O l S A V hb)
variable {P:Program}
def Yh{t:TypeId}{ty:Ow}(h:Xu P t=some ty):∃i d,P.info? t=some i/\P.underlying t=some d/\i.zero=some ty.zero/\i.size=ty.size/\i.bytes=ty.bytes/\Vy P d=ty.k:=by unfold Xu at h;grind
def YP{t:TypeId}{ty:Ow}(h:Xu P t=some ty)(w:World):(sizeOf t).run P w=.ok ty.size w:=by have⟨i,d,e,_,_,f,_⟩:=Yh h;simp[sizeOf,typeInfo,e,f]
def KC{t:TypeId}{ty:Ow}(h:Xu P t=some ty)(w:World):(zeroValue t).run P w=.ok ty.zero w:=by have⟨i,d,e,_,f,_⟩:=Yh h;simp[zeroValue,typeInfo,e,f]
def XaC{t:TypeId}{ty:Ow}(h:Xu P t=some ty):P.cellsOf t=ty.size:=by have⟨i,d,e,_,_,f,_⟩:=Yh h;simp[Program.cellsOf,e,f]
def Vb{t:TypeId}{ty:Ow}(h:Xu P t=some ty):P.bytesOf t=ty.bytes:=by have⟨i,d,e,_,_,_,f,_⟩:=Yh h;simp[Program.bytesOf,e,f]
def K6{t:TypeId}{ty:Ow}(h:Xu P t=some ty)(w:World):(isAgg t).run P w=.ok ty.isAgg w:=by have⟨i,d,_,e,_,_,_,f⟩:=Yh h;unfold isAgg;simp only[Sem.run_bind,run_underlying e,Result.andThen_ok];unfold Ow.isAgg;rw[←f];cases d<;>simp[Vy]
def X4{t:TypeId}{a b:Nat}{z:Value}{E sz:Nat}(h:Xu P t=some ⟨a,b,z,.slice E sz⟩):P.underlying t=some (.slice E)/\sz=P.cellsOf E:=by have⟨i,d,_,f,_,_,_,e⟩:=Yh h;cases d<;>simp[Vy]at e;grind
def K7{t:TypeId}{a b:Nat}{z:Value}{n E sz:Nat}(h:Xu P t=some ⟨a,b,z,.array n E sz⟩):P.underlying t=some (.array n E)/\sz=P.cellsOf E:=by have⟨i,d,_,f,_,_,_,e⟩:=Yh h;cases d<;>simp[Vy]at e;grind
def Xa1{t:TypeId}{a b:Nat}{z:Value}{k:IntKind}(h:Xu P t=some ⟨a,b,z,.int k⟩):P.underlying t=some (.int k):=by have⟨i,d,_,f,_,_,_,e⟩:=Yh h;cases d<;>simp[Vy]at e;simp_all
def Xf3{t:TypeId}{a b:Nat}{z:Value}(h:Xu P t=some ⟨a,b,z,.bool⟩):P.underlying t=some .bool:=by have⟨i,d,_,f,_,_,_,e⟩:=Yh h;cases d<;>simp[Vy]at e;omega
def Kt{t:TypeId}{a b:Nat}{z:Value}{k:List (Nat×Nat×Nat)}(h:Xu P t=some ⟨a,b,z,.struct k⟩):
 ∃fields,P.underlying t=some (.struct fields)/\(k=fields.toList.map λf=>(f.offset,P.cellsOf f.type,f.type))/\∀e∈fields.toList,((P.info? e.type).map (·.size)).isSome=true:=by
 have⟨i,d,_,l,_,_,_,g⟩:=Yh h;have j:Xk1 P d=true:=by
  unfold Xu at h;split at h
  .simp_all
  grind
 cases d<;>simp only[Vy,reduceCtorEq]at g;rename_i fields;simp at g;exact⟨fields,l,g.symm,λe o=>Ud.1 j e o⟩
def Jj{t:TypeId}{n:Nat}(e:P.cellsOf t=n)(g:n≠0)(w:World):(sizeOf t).run P w=.ok n w:=by
 unfold Program.cellsOf at e;cases f:P.info? t with
 |none=>simp_all
 |some i=>simp_all[f,sizeOf,typeInfo,e]
def UV(b o n:Nat):(⟨b,o,none⟩:Addr).add n=⟨b,o+n,none⟩:=by unfold Addr.add;simp
def Xf4{M:Mem}{β:Loc}(x:Value):Rep P M β (Xk2 x) x:=by
 unfold Xk2;split
 .simp[Rep]
 split
 .rename_i h;simp[Rep,XjR h]
 simp[Rep]
def V3{M:Mem}{β:Loc}(x:Value):Rep P M β (ofV x) x:=by
 unfold ofV;split
 .rename_i e;refine⟨e.toList,rfl,RepL.of ab λi d x hd f=>?_⟩;simp only[I6,Ui]at hd;obtain⟨y,g,rfl⟩:=hd;obtain rfl:y=x:=by simp_all
  exact Xf4 _
 exact Xf4 _
def XcP{M:Mem}{β:Loc}{d:D}{x:Value}(e:d.one=true)(h:Rep P M β d x):x.oneCell'=true/\x.cells=#[x]:=by
 have key:x.oneCell'=true:=by
  cases d<;>simp[D.one]at e<;>simp only[Rep]at h
  .simp_all
  .obtain⟨a,rfl⟩:=h;rfl
  .obtain⟨_,_,_,a,c,rfl,_⟩:=h;rfl
  .rcases h with⟨_,_,_,a,rfl⟩|⟨_,_,_,_,_,rfl,_⟩<;>rfl
  .obtain⟨_,_,_,rfl⟩:=h;rfl
  .obtain⟨_,_,_,rfl,_⟩:=h;rfl
  .obtain⟨_,_,rfl,_⟩:=h;rfl
  .obtain⟨_,rfl,_⟩:=h;rfl
  obtain⟨_,_,_,rfl⟩:=h;rfl
 cases x<;>simp_all[Value.oneCell',Value.cells]
def K8{M:Mem}{β:Loc}{d:D}{x:Value}{ds:List D}(h:d.cells=some ds)(e:Rep P M β d x):
 RepL P M β ds x.cells.toList/\∀y∈x.cells,y.oneCell'=true:=by
 unfold D.cells at h;split at h
 .rename_i l;split at h
  .rename_i f;obtain rfl:l=ds:=by simpa using h
   obtain⟨vs,rfl,e⟩:=e;refine⟨by simpa [Value.cells]using e,λy p=>?_⟩;have j:y∈vs:=by simpa [Value.cells]using p
   obtain⟨i,r,rfl⟩:=WM j;have o:=e.length;have⟨y,g,k⟩:=e.get i (l[i]'aa) ab;have:vs[i]? = some vs[i]:=by simp
   rw[this]at g;obtain rfl:vs[i]=y:=by simpa using g
   exact(XcP (Ud.1 f _ (WL _)) k).1
  simp_all
 split at h
 .rename_i q;obtain rfl:[d]=ds:=by simpa using h
  have⟨k1,k2⟩:=XcP q e;rw[k2];exact⟨by exact⟨x,[],rfl,e,rfl⟩,by simpa using k1⟩
 simp_all
def XaD{M:Mem}{β:Loc}{d:D}{x:Value}{e:List D}(h:d.cells=some e)(f:Rep P M β d x):x.cells.size=e.length:=by have:=(K8 h f).1.length;omega
def XiO{C:Cx}{s:Heap}{U:Nat->Prop}{M:Mem}{β:Loc}{w:World}(I:UY P C s U M β w){d:D}{y:Value}{c:Prop}{g:List D}{o z:Nat}(h:Xe3 s d=some (c,g,o,z))(J:c)(p:Rep P M β d y):
 ∃b q,y=.pointer (some ⟨b,q+o,none⟩)/\g.length=z/\∀(i:Nat) (d:D),g[i]? = some d->∃x,w.cell? ⟨b,q+i,none⟩=some x/\Rep P M β d x:=by
 unfold Xe3 at h;split at h
 .rename_i z' r u;have⟨rfl,rfl,rfl,rfl⟩:True=c/\r=g/\u=o/\z'=z:=by simpa using h
  obtain⟨K,b,q,rfl,p⟩:=p;refine⟨b,q,rfl,K,λi d hd=>?_⟩;have⟨x,f,e⟩:=p.get i d hd;exact⟨x,(I.mem b _ x f).1,e.mono (MLe.refl _) (BLe.zero _)⟩
 .rename_i id ver z' k u;split at h
  .rename_i B bx E L v fz N;split at h
   .rename_i O;have⟨rfl,rfl⟩:=O;have⟨rfl,rfl,rfl,rfl⟩:(k<v.length)=c/\v.getD k []=g/\u=o/\z'=z:=by simpa using h
    obtain⟨b,R,hb,rfl⟩:=p;have⟨x,f,S⟩:=I.obs id ver _ N;rw[hb]at f;obtain rfl:some (b,R)=x:=by simpa using f
    have⟨V,T,k1,k2,G,Y,Z,k6,k7,k8,k9,A⟩:=S;have l:(v.getD k []).length=z':=by rw[Wr,Wc J];exact G _ (WL _)
    refine⟨b,k*z',rfl,l,λj d hd=>?_⟩;have W:j<z':=by
     rcases Ur j z' with H|H
     .exact H
     rw[W3 aa]at hd;cases hd
    have⟨x,f,e⟩:=A (k*z'+j) d (by rw[JT G _ _ W];exact hd);exact⟨x,by rw[cell_of_row w b _ V T (0,0) k1];exact f,e.mono (MLe.refl _) (Xoe bx β)⟩
   cases h
  cases h
 simp_all
def VA{α:Type}(l:List α)(o n i:Nat):((l.drop o).take n)[i]? = if i<n then l[o+i]? else none:=by grind
def XcQ{t:TypeId}{ty:Ow}(h:Xu P t=some ty)(w:World)(M:Mem)(β:Loc)(b k o z:Nat)(e:List D)(L:e.length=z)(E:o+ty.size<=z)(G:∀(i:Nat) (d:D),e[i]? = some d->∃x,w.cell? ⟨b,k+i,none⟩=some x/\Rep P M β d x)(l:ty.isAgg=false->ty.size=1):
 ∃v,(loadVar t ⟨b,k+o,none⟩).run P w=.ok v w/\Rep P M β (Ji ty.isAgg ((e.drop o).take ty.size)) v:=by
 have p:∃vs:List Value,vs.length=ty.size/\(∀(j:Nat)v,vs[j]? = some v->w.cell? ((⟨b,k+o,none⟩:Addr).add j)=some v)/\RepL P M β ((e.drop o).take ty.size) vs:=by
  have:∀n,n<=ty.size->∃vs:List Value,vs.length=n/\(∀(j:Nat)v,vs[j]? = some v->w.cell? ((⟨b,k+o,none⟩:Addr).add j)=some v)/\RepL P M β ((e.drop o).take n) vs:=by
   intro n;induction n with
   |zero=>simp[RepL]
   |succ n H=>
    intro N;obtain⟨vs,q,u,s⟩:=H aa;have I:o+n<e.length:=aa;obtain⟨x,y,O⟩:=G (o+n) e[o+n] ab;refine⟨vs++[x],by grind,λj v g=>?_,?_⟩
    .rw[List.getElem?_append]at g;split at g
     .simp_all
     rename_i J;have A:j=n:=by
      rcases Ur n j with K|K
      .rw[W3 ah]at g;cases g
      omega
     subst A;simp[q]at g;subst g;rw[UV];grind
    have:(e.drop o).take (n+1)=(e.drop o).take n++[e[o+n]]:=by rw[List.take_succ_eq_append_getElem (by grind)];simp
    rw[this];exact s.append (by simp_all[RepL])
  exact this _ (Uj _)
 have⟨vs,q,u,s⟩:=p;cases f:ty.isAgg with
 |true=>
  refine⟨.agg ⟨vs⟩,?_,?_⟩
  .have:=run_loadCells_list (P:=P) w ⟨b,k+o,none⟩ vs u;rw[q]at this;simp[loadVar,K6 h,YP h,f,this]
  simp_all[Ji,if_true,Rep]
 |false=>
  have r:=l f;rw[r]at q s;match vs,q with
  |[x],_=>
   have y:=u 0 x ab;rw[UV]at y;refine⟨x,?_,?_⟩
   .simp_all[loadVar,K6,h,f,run_load,y]
   simp only[Ji,r,U9,if_false];have:=s.length;match B:(e.drop o).take 1,this with
   |[d],_=>simp_all[B,RepL]
variable {P:Program}
def VOK(P:Program)(C:Cx)(s:Heap)(u:Up)(U:Nat->Prop)(ver:Nat)(M:Mem)(β:Loc)(r:Result Value)(d:D):Prop:=
 ∃M' β' e v,r=.ok v e/\UY P C (app s u) (λx=>U x\/x=ver) M' β' e/\Rep P M' β' d v/\MLe M M'/\BLe β β'
def OpOK(P:Program)(C:Cx)(s:Heap)(u:Up)(U:Nat->Prop)(ver:Nat)(M:Mem)(β:Loc)(r:Result Next)(d:D):Prop:=
 ∃M' β' e v,(r=.ok (.value v) e\/r=.ok .skip e/\v=undef)/\UY P C (app s u) (λx=>U x\/x=ver) M' β' e/\Rep P M' β' d v/\MLe M M'/\BLe β β'
section
variable {C:Cx}{s:Heap}{U:Nat->Prop}{ver:Nat}{M:Mem}{β:Loc}{w:World}
def VOK.op{u:Up}{sem:Sem Value}{d:D}(h:VOK P C s u U ver M β (sem.run P w) d):OpOK P C s u U ver M β ((do pure (Next.value (←sem)):Sem Next).run P w) d:=by have⟨M',β',e,v,f,rest⟩:=h;exact⟨M',β',e,v,.inl (by simp[f]),rest⟩
def VOK.same(I:UY P C s U M β w){r:Result Value}{d:D}{v:Value}(e:r=.ok v w)(h:Rep P M β d v):VOK P C s [] U ver M β r d:=
 ⟨M,β,w,v,e,I.mono λ_ f=>.inl f,h,MLe.refl _,BLe.refl _⟩
def Ka(k:IntKind)(n:Int):wfV (.int k (k.wrap n)):=by simp only[wfV];cases k<;>simp only[IntKind.wrap,IntKind.min,IntKind.max,IntKind.bits,IntKind.signed,Uw,W8,U9,if_true,if_false]<;>(try split)<;>(try simp only[decide_eq_true_eq,ge_iff_le,Int.not_le]at *)<;>constructor<;>omega
def Y1(k:IntKind)(n:Int)(h:wfV (.int k n)):Rep P M β (.v (.int k n)) (.int k n):=by simp[Rep,h]
def Zy(b:Bool):Rep P M β (.v (.bool b)) (.bool b):=by simp[Rep,wfV]
def XiP(k:IntKind):k.min<=0:=by cases k<;>decide
def XiQ(k:IntKind):0<=k.max:=by cases k<;>decide
def Xof(a b e hi:Int)(g:e<=a)(j:a<=hi)(k:e<=0)(l:0<=hi):e<=a.tmod b/\a.tmod b<=hi:=by
 have o:(a.tmod b).natAbs<=a.natAbs:=by rw[Int.natAbs_tmod];exact Nat.mod_le _ _
 rcases Int.le_total 0 a with h|h
 .have f:0<=a.tmod b:=Oi b h;omega
 have f:a.tmod b = -((-a).tmod b):=by rw[Int.neg_tmod];omega
 have e3:0<=(-a).tmod b:=Oi b aa;omega
def Xog(a:Int)(n:Nat)(f hi:Int)(l:f<=a)(o:a<=hi)(r:f<=0)(u:0<=hi):f<=a.fdiv (2 ^ n)/\a.fdiv (2 ^ n)<=hi:=by
 have hp:(0:Int)<2 ^ n:=Int.pow_pos aa;rw[Int.fdiv_eq_ediv_of_nonneg _ (Int.le_of_lt hp)];have v:=Int.emod_nonneg a (show(2 ^ n:Int)≠0 by omega);have j:=Int.emod_lt_of_pos a hp;have k:=Int.mul_ediv_add_emod a (2 ^ n);generalize a / 2 ^ n=q at *;generalize (2:Int) ^ n=p at *;constructor
 .rcases Int.le_total 0 q with e|e
  .omega
  rcases Int.lt_or_le q 0 with g|g
  .have h:p*(q+1)<=1*(q+1):=Int.mul_le_mul_of_nonpos_right (show 1<=p by omega) aa;rw[Int.mul_add]at h;omega
  omega
 rcases Int.le_total q 0 with e|e
 .omega
 have h:1*q<=p*q:=Ut (show 1<=p by omega) e;omega
def Xoh{op:BinOp}{k:IntKind}{a b:Int}{c:Prop}{r:Value}(h:Vv op k a b=some (c,r))(e:c)(T:TypeId)(f:wfV (.int k a)):(binOp op T (.int k a) (.int k b)).run P w=.ok r w/\wfV r:=by
 cases op<;>simp only[Vv,Wt,Wy,reduceCtorEq]at h<;>obtain⟨rfl,rfl⟩:=h
 .exact⟨by simp[binOp,Op.intArith],Ka _ _⟩
 .exact⟨by simp[binOp,Op.intArith],Ka _ _⟩
 .exact⟨by simp[binOp,Op.intArith],Ka _ _⟩
 .exact⟨by simp[binOp,Op.intDiv,e],Ka _ _⟩
 .refine⟨by simp[binOp,Op.intDiv,e],?_⟩;exact Xof a b _ _ f.1 f.2 (XiP k) (XiQ k)
 .exact⟨by simp[binOp,Op.intBits],Ka _ _⟩
 .exact⟨by simp[binOp,Op.intBits],Ka _ _⟩
 .exact⟨by simp[binOp,Op.intBits],Ka _ _⟩
 .exact⟨by simp[binOp,Op.intBits],Ka _ _⟩
 .exact⟨by simp[binOp,Op.intCmp],trivial⟩
 .exact⟨by simp[binOp,Op.intCmp],trivial⟩
 .exact⟨by simp[binOp,Op.intCmp],trivial⟩
 .exact⟨by simp[binOp,Op.intCmp],trivial⟩
 .exact⟨by simp[binOp,Op.intCmp],trivial⟩
 exact⟨by simp[binOp,Op.intCmp],trivial⟩
def kTy:Option IntKind->TypeDesc
 |some k=>.int k
 |none=>.bool
def Xee{M:Mem}{β:Loc}{k:Option IntKind}{x y:D}{b:Bool}(h:Xe4 k x y=some b){g l:Value}(o:Rep P M β x g)(p:Rep P M β y l)(t:TypeId)(ht:P.underlying t=some (kTy k))(d:Nat)(w:World):
 (Op.equalIn (d+1) t g l).run P w=.ok b w:=by
 unfold Xe4 at h;split at h
 .rename_i q j a k e;split at h
  .rename_i f;subst f;obtain rfl:(a==e)=b:=by simpa using h
   rw[o.1,p.1];exact run_equalIn_int w d t j q a e ht
  cases h
 .rename_i a e;obtain rfl:(a==e)=b:=by simpa using h
  rw[o.1,p.1];exact run_equalIn_bool' w d t a e ht
 simp_all
def XcR{M:Mem}{β:Loc}:∀(A:List Field) (n d:Nat) (ks:List (Option IntKind)) (g h:List D) (b:Bool) (p q:List Value) (w:World),ZU P n A=some ks->Yk ks g h=some b ->
 (∀(i:Nat) (d:D),g[i]? = some d->∃v,p[n+i]? = some v/\Rep P M β d v)->(∀(i:Nat) (d:D),h[i]? = some d->∃v,q[n+i]? = some v/\Rep P M β d v) ->
 (Op.eqFields (d+1) ⟨p⟩ ⟨q⟩ A).run P w=.ok b w
 |[],n,d,ks,g,h,b,p,q,w,j,r,_,_=>by
  have rfl:[]=ks:=by simp_all[ZU]
  match g,h with
  |[],[]=>simp_all[Yk,Op.eqFields]
  |x::g,_=>simp_all[Yk]
  |[],y::h=>simp_all[Yk]
 |f::A,n,d,ks,g,h,b,p,q,w,j,r,J,K=>by
  unfold ZU at j;split at j
  .rename_i L;simp at L;have⟨l,u⟩:=L;have key:∃k e,ks=k::e/\ZU P (n+1) A=some e/\P.underlying f.type=some (kTy k):=by
    split at j
    .rename_i k E;simp at j;obtain⟨e,G,rfl⟩:=j;exact⟨some k,e,rfl,G,E⟩
    .rename_i E;simp at j;obtain⟨e,G,rfl⟩:=j;exact⟨none,e,rfl,G,E⟩
    cases j
   obtain⟨k,e,rfl,z,B⟩:=key;match g,h with
   |[],_=>simp[Yk]at r
   |x::g,[]=>simp[Yk]at r
   |x::g,y::h=>
    simp only[Yk]at r;split at r
    .rename_i a N O hb;obtain rfl:(a&&N)=b:=by simpa using r
     have⟨v1,R,S⟩:=J 0 x ab;have⟨v2,T,V⟩:=K 0 y ab;have o:(isAgg f.type).run P w=.ok false w:=by unfold isAgg;cases k<;>simp[run_underlying B,kTy]
     have W:(part f.type ⟨p⟩ f.offset).run P w=.ok v1 w:=by
      have:p[f.offset]? = some v1:=by rw[l];simpa using R
      simp[part,o,this]
     have Y:(part f.type ⟨q⟩ f.offset).run P w=.ok v2 w:=by
      have:q[f.offset]? = some v2:=by rw[l];simpa using T
      simp[part,o,this]
     have Z:=Xee O S V f.type B d w
     have ih:=XcR A (n+1) d e g h N p q w z hb
      (λi d hd=>by
       obtain⟨v,H,I⟩:=J (i+1) d (by exact hd)
       exact⟨v,by rw[←H];congr 1;omega,I⟩)
      (λi d hd=>by
       have⟨v,H,I⟩:=K (i+1) d (by simpa using hd)
       exact⟨v,by rw[←H];congr 1;omega,I⟩)
     simp only[Op.eqFields,u,ne_eq,not_false_eq_true,if_true,Sem.run_bind,W,Y,Z,Result.andThen_ok];cases a
     .simp
     simp[ih]
    cases r
  simp_all
def Xf5{M:Mem}{β:Loc}{k:Option IntKind}{e:TypeId}(l:P.underlying e=some (kTy k)){o p:List Value}{w:World}(d:Nat):∀(m s:Nat) (f g:List D) (b:Bool),
 Yk (List.replicate m k) f g=some b->(∀i d,f[i]? = some d->∃v,o[s+i]? = some v/\Rep P M β d v)->(∀i d,g[i]? = some d->∃v,p[s+i]? = some v/\Rep P M β d v) ->
 (Op.eqItems (d+1) e 1 ⟨o⟩ ⟨p⟩ (List.range' s m)).run P w=.ok b w
 |0,s,f,g,b,h,_,_=>by
  match f,g with
  |[],[]=>simp_all[Yk,Op.eqItems]
  |x::f,_=>simp_all[Yk]
  |[],y::g=>simp_all[Yk]
 |m+1,s,f,g,b,h,u,z=>by
  rw[List.replicate_succ]at h;match f,g with
  |[],_=>simp_all[Yk]
  |x::f,[]=>simp_all[Yk]
  |x::f,y::g=>
   simp only[Yk]at h;split at h
   .rename_i a A B hb;obtain rfl:(a&&A)=b:=by simpa using h
    have⟨v1,E,G⟩:=u 0 x ab;have⟨v2,H,I⟩:=z 0 y ab;have j:(isAgg e).run P w=.ok false w:=by unfold isAgg;cases k<;>simp[run_underlying l,kTy]
    have J:(part e ⟨o⟩ (s*1)).run P w=.ok v1 w:=by
     have:o[s]? = some v1:=by simpa using E
     simp[part,j,this]
    have K:(part e ⟨p⟩ (s*1)).run P w=.ok v2 w:=by
     have:p[s]? = some v2:=by simpa using H
     simp[part,j,this]
    have L:=Xee B G I e l d w;have N:=Xf5 l d (w:=w) m (s+1) f g A hb (λi d hd=>by
     obtain⟨v,q,r⟩:=u (i+1) d (by exact hd)
     exact⟨v,by rw[←q];congr 1;omega,r⟩)
     (λi d hd=>by
      obtain⟨v,q,r⟩:=z (i+1) d (by exact hd)
      exact⟨v,by rw[←q];congr 1;omega,r⟩)
    simp only[List.range'_succ,Op.eqItems,Sem.run_bind,J,K,L,Result.andThen_ok];cases a
    .simp
    exact N
   simp_all
def Xcn{M:Mem}{β:Loc}{k:Option IntKind}{e t:TypeId}{n:Nat}{i:TypeInfo}(ht:P.underlying t=some (.array n e))(f:P.underlying e=some (kTy k))(p:P.info? e=some i)(q:P.cellsOf e=1){l o:List Value}{w:World}(d:Nat){g j:List D}{b:Bool}(h:Yk (List.replicate n k) g j=some b)(r:∀(i:Nat) (d:D),g[i]? = some d->∃v,l[i]? = some v/\Rep P M β d v)(u:∀(i:Nat) (d:D),j[i]? = some d->∃v,o[i]? = some v/\Rep P M β d v):
 (Op.equalIn (d+2) t (.agg ⟨l⟩) (.agg ⟨o⟩)).run P w=.ok b w:=by rw[run_equalIn_array w (d+1) _ _ ht p,q,List.range_eq_range'];exact Xf5 f d (w:=w) n 0 g j b h (by simpa using r) (by simp_all)
def Xoi(I:UY P C s U M β w){op:BinOp}{T:TypeId}{x y:D}{c:Prop}{d:D}(h:YX P op T x y=some (c,d))(O:c){E G:Value}(o:Rep P M β x E)(p:Rep P M β y G)(u z:Operand):
 VOK P C s [] U ver M β ((do eqGuard op T u z E G;binOp op T E G:Sem Value).run P w) d:=by
 unfold YX at h;split at h
 .rename_i k a R b;obtain⟨rfl,B⟩:=o;obtain⟨rfl,S⟩:=p;have j:(eqGuard op T u z (.int k a) (.int R b)).run P w=.ok () w:=by unfold eqGuard;cases op<;>simp
  split at h
  .obtain⟨rfl,rfl⟩:=h;refine .same I (v:=.int k (k.wrap (a*2 ^ min b.toNat k.bits))) ?_ (Y1 _ _ (Ka _ _));have:¬b<0:=aa;simp[j,binOp,Op.shift,this]
  .obtain⟨rfl,rfl⟩:=h;have:¬b<0:=aa;refine .same I (v:=.int k (a.fdiv (2 ^ min b.toNat k.bits))) ?_ (Y1 _ _ ?_)
   .simp[j,binOp,Op.shift,this]
   exact Xog a _ _ _ B.1 B.2 (XiP k) (XiQ k)
  split at h
  .rename_i H;subst H;simp only[Ui]at h;obtain⟨⟨c',r⟩,hb,L⟩:=h;simp only[Wy]at L;obtain⟨rfl,rfl⟩:=L;obtain⟨V,W⟩:=Xoh (P:=P) (w:=w) hb O T B;exact .same I (v:=r) (by simp[j,V]) (by simp[Rep,W])
  cases h
 .rename_i a b;simp only[Rep]at o p;obtain⟨rfl,B⟩:=o;obtain⟨rfl,S⟩:=p;have j:(eqGuard op T u z (.bool a) (.bool b)).run P w=.ok () w:=by unfold eqGuard;cases op<;>simp
  split at h
  .rename_i z1 z2 z3 Y;have q:=run_equalIn_bool' w 9999 T a b (Xf3 Y);split at h
   .simp only[Wt,Wy]at h;obtain⟨rfl,rfl⟩:=h;refine .same I (v:=.bool (a==b)) ?_ (Zy _);simp[j,binOp,Op.equal,Op.maxDepth,q]
   .simp only[Wt,Wy]at h;obtain⟨rfl,rfl⟩:=h;refine .same I (v:=.bool (!(a==b))) ?_ (Zy _);simp[j,binOp,Op.equal,Op.maxDepth,q]
   cases h
  cases h
 .rename_i J K;split at h
  .rename_i N f;simp only[Rep]at o p;obtain⟨vxs,rfl,o⟩:=o;obtain⟨vys,rfl,p⟩:=p;unfold Yg at f;split at f
   .rename_i fs l;split at f
    .cases f
    rename_i g;simp only[Ix,not_or,Od]at g;have j:(eqGuard op T u z (.agg ⟨vxs⟩) (.agg ⟨vys⟩)).run P w=.ok () w:=run_eqGuard_agg w op T u z _ _ g.2;have A:P.fieldsOf T=fs:=by simp[Program.fieldsOf,l]
    have q:∀b,Yk N J K=some b->(Op.equalIn 10000 T (.agg ⟨vxs⟩) (.agg ⟨vys⟩)).run P w=.ok b w:=by intro b hb;rw[run_equalIn_struct w 9999 T ⟨vxs⟩ ⟨vys⟩ (by rw[A];exact l) g.1,A];exact XcR fs.toList 0 9998 N J K b vxs vys w f hb (λi d hd=>by simpa using o.get i d hd) (λi d hd=>by simpa using p.get i d hd)
    split at h
    .rename_i b hb;simp only[Wt,Wy]at h;obtain⟨rfl,rfl⟩:=h;refine .same I (v:=.bool b) ?_ (Zy _);simp[j,run_eql_struct,q b hb]
    .rename_i b hb;simp only[Wt,Wy]at h;obtain⟨rfl,rfl⟩:=h;refine .same I (v:=.bool (!b)) ?_ (Zy _);simp[j,run_neq_struct,q b hb]
    cases h
   .rename_i n e l;split at f
    .cases f
    rename_i g;simp only[Od]at g;split at f
    .rename_i k i H Z;split at f
     .rename_i h1;obtain rfl:=WG f;have j:(eqGuard op T u z (.agg ⟨vxs⟩) (.agg ⟨vys⟩)).run P w=.ok () w:=run_eqGuard_agg w op T u z _ _ g;have q:∀b,Yk (List.replicate n (some k)) J K=some b->(Op.equalIn 10000 T (.agg ⟨vxs⟩) (.agg ⟨vys⟩)).run P w=.ok b w:=λb hb=>
       Xcn (k:=some k) l H Z h1 9998 hb (λi d hd=>by simpa using o.get i d hd) (λi d hd=>by simpa using p.get i d hd)
      split at h
      .rename_i b hb;simp only[Wt,Wy]at h;obtain⟨rfl,rfl⟩:=h;refine .same I (v:=.bool b) ?_ (Zy _);simp[j,run_eql_struct,q b hb]
      .rename_i b hb;simp only[Wt,Wy]at h;obtain⟨rfl,rfl⟩:=h;refine .same I (v:=.bool (!b)) ?_ (Zy _);simp[j,run_neq_struct,q b hb]
      cases h
     cases f
    cases f
   cases f
  cases h
 simp_all
end
variable {P:Program}
def Xe6(off:Nat):∀(e:List Value) (k:Nat) (cells:Array Value),off+k+e.length<=cells.size ->
 (((e.zipIdx k).foldl (λ(f:Array Value) (p:Value×Nat)=>f.setIfInBounds (off+p.2) p.1) cells).toList=cells.toList.take (off+k)++e++cells.toList.drop (off+k+e.length))
 |[],k,cells,_=>by simp
 |v::e,k,cells,h=>by simp at h;rw[List.zipIdx_cons,Iy,Xe6 off e (k+1) _ ah];have:=list_seg_step cells.toList (off+k) v e (by exact h);grind
def Xd5(e:List D)(c:Nat)(f:List D)(h:c+f.length<=e.length):(Ks e c f).length=e.length:=by grind[Ks]
def XhK(e:List D)(c:Nat)(f:List D)(h:c+f.length<=e.length)(i:Nat):(Ks e c f)[i]? = if i<c then e[i]? else if i<c+f.length then f[i-c]? else e[i]?:=by unfold Ks;grind
def Vc{α:Type}(e:List α)(c:Nat)(f:List α)(h:c+f.length<=e.length)(i:Nat):(e.take c++f++e.drop (c+f.length))[i]? = if i<c then e[i]? else if i<c+f.length then f[i-c]? else e[i]?:=by grind
def RepL.take{M:Mem}{β:Loc}{f:List D}{g:List Value}(h:RepL P M β f g)(n:Nat):RepL P M β (f.take n) (g.take n):=by
 have:=h.length;refine RepL.of ah λi d x hd e=>?_;rw[Un]at hd e;split at hd
 .rename_i k;rw[Wq k]at e;have⟨y,j,l⟩:=h.get i d hd;rw[e]at j;obtain rfl:x=y:=by simpa using j
  exact l
 simp_all
def RepL.drop{M:Mem}{β:Loc}{e:List D}{f:List Value}(h:RepL P M β e f)(n:Nat):RepL P M β (e.drop n) (f.drop n):=by have:=h.length;refine RepL.of ah λi d x hd g=>?_;rw[UO]at hd g;have⟨y,j,k⟩:=h.get _ d hd;simp_all
def XcS{M:Mem}{β:Loc}(place place':Nat->Option (Nat×Nat))(hp:∀i x,place i=some x->place' i=some x):∀(parts:List (Nat×D)) (vparts:List (Nat×Value)) (f:List D) (vs:Array Value) (r:List D),
 XcL place f parts=some r->RepL P M β f vs.toList->parts.map (·.1)=vparts.map (·.1)->RepL P M β (parts.map (·.2)) (vparts.map (·.2)) ->
 ∃g,Instr.fill place' vs vparts=some g/\RepL P M β r g.toList
 |[],vparts,f,vs,r,h,j,k,_=>by simp_all[XcL,Instr.fill]
 |(i,d)::parts,vparts,f,vs,r,h,j,k,A=>by
  match vparts,k with
  |(O,v)::vparts,k=>
   simp at k;have⟨rfl,k⟩:=k;have⟨x,xs,e,hd,A⟩:=A;have⟨rfl,rfl⟩:v=x/\vparts.map (·.2)=xs:=by simpa using e
   unfold XcL at h;split at h
   .rename_i off sz I B l;split at h
    .rename_i E;have⟨o,K⟩:=E;have⟨q,J⟩:=K8 l hd;have u:=j.length;have y:v.cells.size=sz:=by rw[XaD l hd,o]
     have G:=Xe6 off v.cells.toList 0 vs (by simp at u⊢;omega);have z:RepL P M β (Ks f off I) ((v.cells.zipIdx.foldl (λ(f:Array Value) (p:Value×Nat)=>f.setIfInBounds (off+p.2) p.1) vs).toList):=by
      have L:v.cells.zipIdx.foldl (λ(f:Array Value) (p:Value×Nat)=>f.setIfInBounds (off+p.2) p.1) vs=(v.cells.toList.zipIdx 0).foldl (λ(f:Array Value) (p:Value×Nat)=>f.setIfInBounds (off+p.2) p.1) vs:=by rw[←Array.foldl_toList,Array.toList_zipIdx]
      rw[L,G];unfold Ks;have N:off+0+v.cells.toList.length=off+I.length:=by simp[y,o]
      rw[N];exact((j.take off).append q).append (j.drop _)
     have⟨g,k1,k2⟩:=XcS place place' hp parts vparts _ _ r h z k A;refine⟨g,?_,k2⟩;simp only[Instr.fill,hp _ _ B];have H:¬(v.cells.size≠sz||off+v.cells.size>vs.size)=true:=by simp at u⊢;omega
     rw[Wk H];exact k1
    cases h
   simp_all
def Xf6{z:Nat}{f:List (List D)}(h:∀e∈f,e.length=z)(i:Nat)(g:List D)(u:i<f.length)(v:g.length=z)(k:Nat):
 (f.set i g).flatten[k]? = if i*z<=k/\k<(i+1)*z then g[k-i*z]? else f.flatten[k]?:=by
 have l:∀e∈f.set i g,e.length=z:=by
  intro e o;rcases UC o with o|rfl
  .simp_all
  omega
 rcases Uf z with j|j
 .simp_all[XcO,l,h]
 rw[Y5 l,Y5 h];have y:=Nat.div_add_mod' k z;by_cases p:k / z=i
 .grind
 rw[Wk]
 .grind
 rintro⟨q,r⟩;apply p;exact Nat.le_antisymm (Nat.le_of_lt_succ ((Ih j).2 r)) ((Nat.le_div_iff_mul_le j).2 q)
def YE{e src:List (List D)}(k:Nat):(e++src).flatten[k]? = if k<e.flatten.length then e.flatten[k]? else src.flatten[k-e.flatten.length]?:=by grind
def Xf7{M:Mem}{β:Loc}(z:Nat):∀(parts:List (Nat×D)) (vparts:List (Nat×Value)) (o:List (List D)) (vs:Array Value) (r:List (List D)),
 XcM z o parts=some r->(∀e∈o,e.length=z)->RepL P M β o.flatten vs.toList->parts.map (·.1)=vparts.map (·.1)->RepL P M β (parts.map (·.2)) (vparts.map (·.2))->(∀x∈vs,x.oneCell'=true) ->
 ∃j,Instr.fill (λi=>some (i*z,z)) vs vparts=some j/\RepL P M β r.flatten j.toList/\r.length=o.length/\(∀e∈r,e.length=z)/\(∀x∈j,x.oneCell'=true)
 |[],vparts,o,vs,r,h,T,A,B,_,V=>by simp_all[XcM,Instr.fill]
 |(i,d)::parts,vparts,o,vs,r,h,T,A,B,W,V=>by
  match vparts,B with
  |(i',v)::vparts,B=>
   simp at B;have⟨rfl,B⟩:=B;have⟨x,xs,e,hd,W⟩:=W;have⟨rfl,rfl⟩:v=x/\vparts.map (·.2)=xs:=by simpa using e
   unfold XcM at h;split at h
   .rename_i Y G;split at h
    .rename_i Z;have⟨E,H⟩:=Z;have⟨I,J⟩:=K8 G hd;have l:=A.length;rw[XY T]at l;have K:v.cells.size=z:=by rw[XaD G hd,E]
     have L:(i+1)*z<=o.length*z:=W5 _ H;have hle':i*z+z<=o.length*z:=by rw[IB]at L;exact L
     have N:=Xe6 (i*z) v.cells.toList 0 vs (by simp at l⊢;omega);have e1:v.cells.zipIdx.foldl (λ(q:Array Value) (p:Value×Nat)=>q.setIfInBounds (i*z+p.2) p.1) vs=(v.cells.toList.zipIdx 0).foldl (λ(q:Array Value) (p:Value×Nat)=>q.setIfInBounds (i*z+p.2) p.1) vs:=by rw[←Array.foldl_toList,Array.toList_zipIdx]
     have O:∀e∈o.set i Y,e.length=z:=by
      intro e hm;rcases UC hm with hm|rfl
      .exact T e hm
      exact E
     have R:RepL P M β (o.set i Y).flatten ((v.cells.zipIdx.foldl (λ(q:Array Value) (p:Value×Nat)=>q.setIfInBounds (i*z+p.2) p.1) vs).toList):=by
      rw[e1,N];refine RepL.of ?_ λk dk xk u g=>?_
      .rw[XY O];simp at l⊢;omega
      rw[Xf6 T i Y H E]at u;rw[IR,Vc _ _ _ (by simp at l⊢;omega)]at g;simp only[U7,K]at g;split at u
      .rename_i hk;rw[IB]at hk;rw[Wk aa,Wq aa]at g;obtain⟨y,S,hr⟩:=I.get _ dk u;rw[g]at S;obtain rfl:xk=y:=by simpa using S
       exact hr
      rename_i hk;rw[IB]at hk;obtain⟨y,S,hr⟩:=A.get _ dk u;have:vs.toList[k]? = some xk:=by
       split at g
       .exact g
       split at g
       .omega
       exact g
      rw[this]at S;obtain rfl:xk=y:=by simpa using S
      exact hr
     have ho':∀x∈(v.cells.zipIdx.foldl (λ(q:Array Value) (p:Value×Nat)=>q.setIfInBounds (i*z+p.2) p.1) vs),x.oneCell'=true:=by
      intro x hx;rw[e1]at hx;have f:x∈((v.cells.toList.zipIdx 0).foldl (λ(q:Array Value) (p:Value×Nat)=>q.setIfInBounds (i*z+p.2) p.1) vs).toList:=by simpa using hx
      rw[N]at f;simp only[WH]at f;rcases f with(f|f)|f
      .exact V x (by simpa using WY f)
      .exact J x (by simpa using f)
      exact V x (by simpa using WS f)
     have⟨j,k1,k2,k3,k4,k5⟩:=Xf7 z parts vparts _ _ r h O R B W ho';refine⟨j,?_,k2,by simpa using k3,k4,k5⟩;simp only[Instr.fill];have hne:¬(v.cells.size≠z||i*z+v.cells.size>vs.size)=true:=by simp at l⊢;omega
     rw[Wk hne];exact k1
    cases h
   simp_all
variable {P:Program}
section
variable {C:Cx}{s:Heap}{U:Nat->Prop}{ver:Nat}{M:Mem}{β:Loc}{w:World}
def XjS(s:Heap)(id v:Nat)(o:Ob):app s [(id,v,o)]=upd s id (some (v,o)):=rfl
def Xe7(I:UY P C s U M β w)(q:¬U ver)(bx:Bool)(id E z:Nat)(f:List (List D))(k:Nat)(g:Array Value)(T:TypeId)(w1:World)(l:w1.heap=w.heap/\w1.os=w.os/\w1.tape=w.tape/\w1.output=w.output)(o:g.size=k*z)(r:∀e∈f,e.length=z)(p:f.length<=k)(u:f.length<=Xy)(hb:f.length*P.bytesOf E<=Xy)(h:∀x∈g,x.oneCell'=true)(j:RepL P M (Xe2 bx β) f.flatten (g.toList.take f.flatten.length)):
 ∃β',UY P C (app s [(id,ver,.arr bx E z f 0)]) (λx=>U x\/x=ver) M β' (w1.alloc (.cells g T))/\β' id ver=some (some (w.heap.size,k))/\BLe β β':=by
 have:=I.alloc l q bx id E z f k g T o r p u hb h (λi d hd=>by
  have⟨x,v,y⟩:=j.get i d hd
  grind)
 exact⟨_,this.1,XM ..,this.2⟩
def Xk4(I:UY P C s U M β w)(k:¬U ver){T:TypeId}{ty:Ow}(l:Xu P T=some ty){x:Value}{g:List D}(e:RepL P M β g x.cells.toList)(f:∀y∈x.cells,y.oneCell'=true)(h:g.length=ty.size)(j:ty.bytes<=Xy)(id:Nat):
 VOK P C s [(id,ver,.arr true T ty.size [g] 0)] U ver M β ((do pure (Value.pointer (some (←newVar T x))):Sem Value).run P w) (.ept id ver ty.size 0 0):=by
 have o:=e.length;have⟨β',I',hβ,p⟩:=Xe7 I k true id T ty.size [g] 1 x.cells T w ⟨rfl,rfl,rfl,rfl⟩ (by simp at o;omega) (by simpa using h) ab (by simp[Xy]) (by rw[Vb l];simpa using j) f (by
  simp only[List.flatten_cons,List.flatten_nil,If]
  rw[Uu aa];exact e)
 refine⟨M,β',_,.pointer (some ⟨w.heap.size,0,none⟩),?_,I',?_,MLe.refl _,p⟩
 .simp[newVar,newRow]
 simp_all[Rep]
def Zn{ty:Ow}{e:List D}(h:JS ty=some e):RepL P M β e ty.zero.cells.toList/\∀y∈ty.zero.cells,y.oneCell'=true:=
 K8 h (V3 _)
def Xoj(I:UY P C s U M β w){T:TypeId}{ty:Ow}(p:Xu P T=some ty){d:D}{y:Value}{c:Prop}{g:List D}{o z:Nat}(h:Xe3 s d=some (c,g,o,z))(q:c)(f:o+ty.size<=z)(j:ty.isAgg=true\/ty.size=1)(r:Rep P M β d y):VOK P C s [] U ver M β ((Instr.loadAt T y).run P w) (Ji ty.isAgg ((g.drop o).take ty.size)):=by obtain⟨b,u,rfl,A,e⟩:=XiO I h q r;obtain⟨v,B,k⟩:=XcQ p w M β b u o z g A f e (λl=>by rcases j with h|h;(rw[h]at l;cases l);exact h);refine .same I (v:=v) ?_ k;assumption
def Xf8(I:UY P C s U M β w){T:TypeId}{ty:Ow}(hT:Xu P T=some ty){id v z i c:Nat}{bx:Bool}{E fz:Nat}{l:List (List D)}(hs:s id=some (v,.arr bx E z l fz)){y x:Value}{dx:D}{B:List D}(hp:Rep P M β (.ept id v z i c) y)(hd:dx.cells=some B)(hx:Rep P M (Xe2 bx β) dx x)(hi:i<l.length)(S:fz<=i)(hl:B.length=ty.size)(hfit:c+ty.size<=z):
 OpOK P C s [(id,v,.arr bx E z (l.set i (Ks (l.getD i []) c B)) fz)] U ver M β ((do Instr.storeAt T y x;pure Next.skip:Sem Next).run P w) (.v undef):=by
 obtain⟨b,cb,hb,rfl⟩:=hp;have⟨x0,G,ho⟩:=I.obs id v _ hs;rw[hb]at G;obtain rfl:some (b,cb)=x0:=by simpa using G
 have⟨N,T0,k1,k2,O,k4,k5,k6,k7,k8,k9,H⟩:=ho;have⟨J,q⟩:=K8 hd hx;have f:x.cells.size=ty.size:=by rw[XaD hd hx,hl]
 have he:(l.getD i []).length=z:=by rw[Wr,Wc hi];exact O _ (WL _)
 have V:(i+1)*z<=cb*z:=W5 _ aa;rw[IB]at V;have W:=run_storeCells_at P b (i*z+c) T0 x.cells.toList 0 N w k1 (by simp[f];omega) (by simpa using q);have r:(Ks (l.getD i []) c B).length=z:=by rw[Xd5 _ _ _ aa];exact he
 have I':=I.write hs hb k1 (cs':=(N.toList.take (i*z+c)++x.cells.toList++N.toList.drop (i*z+c+x.cells.toList.length)).toArray) (es':=l.set i (Ks (l.getD i []) c B))
  (by simp[f];omega) ab
  (λe Y=>by
   rcases UC Y with Y|rfl
   .exact O e Y
   .exact r)
  (λy u=>by
   simp only[List.mem_toArray,WH]at u
   rcases u with(u|u)|u
   .exact k8 y (by simpa using WY u)
   .exact q y (by simpa using u)
   .exact k8 y (by simpa using WS u))
  (λo ho=>by
   have Z:o<i*z+c:=by
    have:fz*z<=i*z:=W5 _ S
    omega
   simp
   rw[U6 ah,Un,Wq Z]
   simp)
  (λk d p=>by
   rw[Xf6 O i _ hi r]at p
   simp only[U8]
   rw[Vc _ _ _ (by simp[f];omega)]
   simp only[U7,f]
   split at p
   .rename_i hin
    rw[IB]at hin
    rw[XhK _ _ _ aa]at p
    have A:∀d,(l.getD i [])[k-i*z]? = some d->∃x,N.toList[k]? = some x/\Rep P M (Xe2 bx β) d x:=by
     intro d hd'
     obtain⟨x,g,j⟩:=H (i*z+(k-i*z)) d (by rw[JT O _ _ aa];exact hd')
     have:i*z+(k-i*z)=k:=aa
     rw[this]at g
     exact⟨x,by simpa using g,j⟩
    split at p
    .rw[Wq aa];exact A d p
    .split at p
     .rw[Wk aa,Wq aa]
      have⟨R,g,j⟩:=J.get _ d p
      refine⟨R,?_,j⟩
      rw[←g];congr 1;omega
     .rw[Wk aa,Wk aa];exact A d p
   .rename_i K
    rw[IB]at K
    have⟨R,g,j⟩:=H k d p
    by_cases L:k<i*z+c
    .rw[Wq L];exact⟨R,by simpa using g,j⟩
    .rw[Wk L,Wk aa];exact⟨R,by simpa using g,j⟩)
 refine⟨M,β,_,undef,.inr ⟨?_,rfl⟩,(by rw[XjS];exact I'.mono λ_ h=>Or.inl h),by simp[Rep,undef,wfV],MLe.refl _,BLe.refl _⟩;simp[f,Instr.storeAt,Instr.sureAddr,storeVar,YP,hT,W]
end
variable {P:Program}
def Xb6{p:Nat->Value->Prop}:∀(n:Nat),(∀k,k<n->∃x,p k x)->∃l:List Value,l.length=n/\∀(k:Nat) (x:Value),l[k]? = some x->p k x
 |0,_=>⟨[],rfl,ab⟩
 |n+1,h=>by have⟨l,e,f⟩:=Xb6 n (λk g=>h k aa);have⟨x,j⟩:=h n aa;refine⟨l++[x],by simp[e],λk y o=>?_⟩;grind
section
variable {C:Cx}{s:Heap}{U:Nat->Prop}{ver:Nat}{M:Mem}{β:Loc}{w:World}
def Xf9(I:UY P C s U M β w){z:Nat}{d:D}{c:Prop}{src:List (List D)}(h:elems s z d=some (c,src))(hc:c){y:Value}(u:Rep P M β d y):
 ∃base cap vals,y=.slice base src.length cap/\(∀e∈src,e.length=z)/\vals.length=src.length*z/\(base=none->src.length=0) /\
  (∀a,base=some a->∀(j:Nat) (v:Value),vals[j]? = some v->w.cell? (a.add j)=some v)/\RepL P M Yx src.flatten vals/\∀v∈vals,v.oneCell'=true:=by
 unfold elems at h;split at h
 .have⟨rfl,rfl⟩:True=c/\[]=src:=by simpa using h
  obtain⟨a,rfl⟩:=u;refine⟨a,0,[],rfl,ab,ab,ab,λN A=>ab,by simp[RepL],ab⟩
 .rename_i a cap;have⟨rfl,rfl⟩:True=c/\[]=src:=by simpa using h
  obtain⟨rfl,_⟩:=u;refine⟨a,cap,[],rfl,ab,ab,ab,λN A=>ab,by simp[RepL],ab⟩
 .rename_i E z' g;split at h
  .rename_i hz;subst hz;have⟨rfl,rfl⟩:True=c/\g=src:=by simpa using h
   obtain⟨J,h2,h3,a,cap,rfl,_,u⟩:=u;rcases u with rfl|⟨b,o,rfl,u⟩
   .refine⟨a,cap,[],rfl,ab,ab,ab,λN A=>ab,by simp[RepL],ab⟩
   .obtain⟨vals,l1,O⟩:=Xb6 (p:=λk x=>M b (o+k)=some x/\∀d,g.flatten[k]? = some d->Rep P M Yx d x) (g.length*z) (λk hk=>by
     have q:0<z:=by
      rcases Uf z with B|B
      .subst B;simp at hk
      .exact B
     have L:k / z<g.length:=(Ih q).2 hk
     have hm:=Nat.mod_lt k q
     have R:=u.get J (k / z) g[k / z] (by simp[L])
     have f:(g[k / z]).length=z:=J _ (WL _)
     have⟨x,S,T⟩:=R.get (k % z) (g[k / z][k % z]'aa) ab
     refine⟨x,?_,λd hd=>?_⟩
     .rw[←S];have:=Nat.div_add_mod' k z;congr 1;omega
     .rw[Y5 J,Wr,Wc L]at hd
      simp at hd
      rw[Wc aa]at hd
      obtain rfl:=by simpa using hd
      exact T)
    refine⟨some ⟨b,o,none⟩,cap,vals,rfl,J,l1,ab,λa A=>?_,?_,?_⟩
    .obtain rfl:=by simpa using A
     intro j v l
     rw[UV]
     exact(I.mem b _ v (O j v l).1).1
    .refine RepL.of (by rw[l1,XY J]) λi d x hd G=>?_
     exact(O i x G).2 d hd
    .intro v l
     obtain⟨i,V,rfl⟩:=WM l
     exact(I.mem b _ _ (O i _ ab).1).2
  cases h
 .rename_i id v z' off len;split at h
  .rename_i v' E z'' g fz hs;split at h
   .rename_i l;have⟨rfl,rfl,rfl⟩:=l;have⟨rfl,rfl⟩:(off+len<=g.length)=c/\(g.drop off).take len=src:=by simpa using h
    have f:((g.drop off).take len).length=len:=by simp;omega
    rcases u with⟨hn,rfl,rfl,a,rfl⟩|⟨b,cb,o,cap,hb,rfl,hcap,hcb,ho⟩
    .refine⟨a,0,[],ab,ab,ab,ab,λN A=>ab,by simp[RepL],ab⟩
    have⟨x0,K,W⟩:=I.obs id v _ hs;rw[hb]at K;obtain rfl:some (b,cb)=x0:=by simpa using K
    have⟨vs,T0,k1,k2,k3,k4,k5,k6,k7,k8,k9,Y⟩:=W;have Z:(off+len)*z<=cb*z:=W5 _ aa;rw[Us]at Z;have r:∀e∈(g.drop off).take len,e.length=z:=λe R=>k3 e (WS (WY R));refine⟨some ⟨b,o,none⟩,cap,(vs.toList.drop (off*z)).take (len*z),by rw[f],r,by rw[f];simp;omega,ab,λa A=>?_,?_,λv l=>k8 v (by simpa using WS (WY l))⟩
    .obtain rfl:=by simpa using A
     intro j v l;rw[VA]at l;split at l
     .rename_i hj;have H:cap≠0:=by rintro rfl;have:len=0:=aa;subst this;simp at hj
      have ho':o=off*z:=by rcases ho with h|h;exact h;exact absurd h H
      subst ho';rw[UV,cell_of_row w b _ vs T0 (0,0) k1];simpa using l
     cases l
    refine RepL.of (by rw[XY r,f];simp;omega) λi d x hd G=>?_;rw[VA]at G;split at G
    .rename_i V;have q:0<z:=by
      rcases Uf z with B|B
      .subst B;simp at V
      exact B
     have hdiv:=Nat.div_add_mod' i z;have hm:=Nat.mod_lt i q;have L:i / z<len:=(Ih q).2 V;rw[Y5 r,Wr,VA,Wq L]at hd;have⟨y,hy,hry⟩:=Y (off*z+i) d (by
      have:off*z+i=(off+i / z)*z+i % z:=by rw[Us];omega
      rw[this,JT k3 _ _ hm,Wr];exact hd)
     rw[UW,hy]at G;obtain rfl:y=x:=by simpa using G
     exact hry
    cases G
   cases h
  cases h
 simp_all
section
variable {T T2 E E2:TypeId}{te:Ow}{o':TypeId}{sLen sCap:Nat}
def Xk5(k:P.underlying T=some (.slice E))(h:P.underlying T2=some (.slice E2))(l:Xu P E=some te){xb:Option Addr}{m xc:Nat}{news:List Value}{b o:Nat}{cur:Array Value}{T0:TypeId}(e:sLen+m<=sCap)(f:(Builtin.firstCells te.size m (.slice xb m xc)).run P w=.ok news.toArray w)(p:w.heap[b]? = some (.cells cur T0 (0,0)))(g:o+sLen*te.size+news.length<=cur.size)(q:∀u∈news,u.oneCell'=true):
 (Builtin.append_ #[T,T2] o' #[.slice (some ⟨b,o,none⟩) sLen sCap,.slice xb m xc]).run P w =
  .ok (.slice (some ⟨b,o,none⟩) (sLen+m) sCap) (w.setRow b (cur.toList.take (o+sLen*te.size)++news++cur.toList.drop (o+sLen*te.size+news.length)).toArray):=by have j:=run_storeCells_at P b (o+sLen*te.size) T0 news 0 cur w p (by exact g) q;simp[IR,Builtin.append_,run_underlying,k,h,YP,l,Builtin.lenOf,e,f,UV,j]
def Xk6(h:P.underlying T=some (.slice E))(g:P.underlying T2=some (.slice E2))(j:Xu P E=some te){xb:Option Addr}{m xc:Nat}{news:List Value}(a:Option Addr)(e:sLen+m<=sCap)(f:(Builtin.firstCells te.size m (.slice xb m xc)).run P w=.ok news.toArray w)(k:news=[]):
 (Builtin.append_ #[T,T2] o' #[.slice a sLen sCap,.slice xb m xc]).run P w=.ok (.slice a (sLen+m) sCap) w:=by subst k;cases a<;>simp[Builtin.append_,run_underlying h,run_underlying g,YP j,Builtin.lenOf,e,f,storeCells]
def Xk7(p:P.underlying T=some (.slice E))(j:P.underlying T2=some (.slice E2))(q:Xu P E=some te){base xb:Option Addr}{m xc:Nat}{olds news:List Value}(k:sCap<sLen+m)(e:(Builtin.firstCells te.size sLen (.slice base sLen sCap)).run P w.drew=.ok olds.toArray w.drew)(f:(Builtin.firstCells te.size m (.slice xb m xc)).run P w.drew=.ok news.toArray w.drew)(hb:(sLen+m)*te.bytes<=Xy)(r:sLen+m<=Xy):
 (Builtin.append_ #[T,T2] o' #[.slice base sLen sCap,.slice xb m xc]).run P w =
  .ok (.slice (some ⟨w.heap.size,0,none⟩) (sLen+m) (grownCap w (sLen+m) sCap E)) (w.drew.alloc (.cells (olds.toArray++news.toArray++Builtin.zeroCells te.zero.cells (grownCap w (sLen+m) sCap E-(sLen+m))) E)):=by
 have u:¬(sLen+m<=sCap):=aa;have g:¬(9223372036854775807<((sLen:Int)+(m:Int))):=by simp only[Xy]at r;omega
 have⟨i,d,v,z,y,l,o,_⟩:=Yh q;have h:¬(281474976710656<Builtin.nextslicecap (sLen+m) sCap*i.bytes):=by have:=growslice_fits (bytes:=te.bytes) k (by exact hb);rw[o];omega
 simp[Builtin.append_,run_underlying p,run_underlying j,Builtin.lenOf,u,g,sizeOf,typeInfo,v,l,h,Question.forced,e,f,zeroValue,y,newRow,grownCap];grind
def Xok(A:P.underlying T=some (.slice E)){k H:IntKind}(l:P.underlying T2=some (.int k))(I:Xu P E=some te){n:Int}(J:0<=n)(q:n<=Xy)(r:n.toNat*te.bytes<=Xy){b o:Nat}{cur:Array Value}{T0:TypeId}{news:List Value}(e:news=(if n.toNat*te.size=0 then[]else(Builtin.zeroCells te.zero.cells n.toNat).toList))(f:sLen+n.toNat<=sCap)(B:w.heap[b]? = some (.cells cur T0 (0,0)))(D:o+sLen*te.size+news.length<=cur.size)(K:∀u∈news,u.oneCell'=true):
 (Builtin.append_ #[T,T2] o' #[.slice (some ⟨b,o,none⟩) sLen sCap,.int H n]).run P w =
  .ok (.slice (some ⟨b,o,none⟩) (sLen+n.toNat) sCap) (w.setRow b (cur.toList.take (o+sLen*te.size)++news++cur.toList.drop (o+sLen*te.size+news.length)).toArray):=by
 have v:=run_storeCells_at P b (o+sLen*te.size) T0 news 0 cur w B aa K;have hw:IntKind.i64.wrap n=n:=by rw[IntKind.wrap_i64];simp only[Xy]at q;omega
 have h:¬n<0:=aa;have⟨i,d,G,N,L,p,y,_⟩:=Yh I;have j:¬(281474976710656<n*(i.bytes:Int)):=by
  have:((n.toNat*te.bytes:Nat):Int)=n*te.bytes:=by rw[Oj,Int.toNat_of_nonneg J]
  rw[y,←this];simp only[Xy]at r;omega
 by_cases g:n.toNat*te.size=0
 .rw[Wq g]at e;subst e;simp[Builtin.append_,run_underlying A,run_underlying l,sizeOf,typeInfo,G,p,asInt,asIntOf,hw,h,j,f,g,storeCells,setRow_self w b cur T0 (0,0) B]
 rw[Wk g]at e;have z:(Builtin.zeroCells te.zero.cells n.toNat).toList=news:=e.symm;simp[Builtin.append_,run_underlying A,run_underlying l,sizeOf,typeInfo,G,p,asInt,asIntOf,hw,h,j,f,g,zeroValue,L,UV,z,v]
def Xol(B:P.underlying T=some (.slice E)){k I:IntKind}(p:P.underlying T2=some (.int k))(J:Xu P E=some te){n:Int}(K:0<=n)(v:n<=Xy)(y:n.toNat*te.bytes<=Xy){base:Option Addr}{olds news:List Value}(e:news=(if n.toNat*te.size=0 then[]else(Builtin.zeroCells te.zero.cells n.toNat).toList))(z:sCap<sLen+n.toNat)(g:(Builtin.firstCells te.size sLen (.slice base sLen sCap)).run P w.drew=.ok olds.toArray w.drew)(hb:(sLen+n.toNat)*te.bytes<=Xy)(L:sLen+n.toNat<=Xy):
 (Builtin.append_ #[T,T2] o' #[.slice base sLen sCap,.int I n]).run P w =
  .ok (.slice (some ⟨w.heap.size,0,none⟩) (sLen+n.toNat) (grownCap w (sLen+n.toNat) sCap E)) (w.drew.alloc (.cells (olds.toArray++news.toArray++Builtin.zeroCells te.zero.cells (grownCap w (sLen+n.toNat) sCap E-(sLen+n.toNat))) E)):=by
 have D:¬(sLen+n.toNat<=sCap):=aa;have hw:IntKind.i64.wrap n=n:=by rw[IntKind.wrap_i64];simp only[Xy]at v;omega
 have h:¬n<0:=aa;have f:¬(9223372036854775807<((sLen:Int)+max n 0)):=by simp only[Xy]at L;omega
 have⟨i,d,G,N,H,q,r,_⟩:=Yh J;have j:¬(281474976710656<n*(i.bytes:Int)):=by
  have:((n.toNat*te.bytes:Nat):Int)=n*te.bytes:=by rw[Oj,Int.toNat_of_nonneg K]
  rw[r,←this];simp only[Xy]at y;omega
 have l:¬(281474976710656<Builtin.nextslicecap (sLen+n.toNat) sCap*i.bytes):=by have:=growslice_fits (bytes:=te.bytes) z ag;rw[r];omega
 by_cases o:n.toNat*te.size=0
 .subst e;simp[Builtin.append_,run_underlying B,run_underlying p,sizeOf,typeInfo,G,q,asInt,asIntOf,hw,h,j,D,f,l,Question.forced,g,o,zeroValue,H,newRow,grownCap]
 rw[Wk o]at e;have A:(Builtin.zeroCells te.zero.cells n.toNat).toList=news:=e.symm;have u:Builtin.zeroCells te.zero.cells n.toNat=news.toArray:=by rw[←A]
 simp[Builtin.append_,run_underlying B,run_underlying p,sizeOf,typeInfo,G,q,asInt,asIntOf,hw,h,j,D,f,l,Question.forced,g,o,zeroValue,H,newRow,grownCap,u];grind
end
end
variable {P:Program}
section
variable {C:Cx}{s:Heap}{U:Nat->Prop}{ver:Nat}{M:Mem}{β:Loc}{w:World}
def Ys(z:Array Value)(n:Nat):(Builtin.zeroCells z n).size=n*z.size:=by simp[Builtin.zeroCells]
def Zo{z:Array Value}(h:∀y∈z,y.oneCell'=true)(n:Nat):∀y∈Builtin.zeroCells z n,y.oneCell'=true:=by
 intro y f;simp only[Builtin.zeroCells,Array.mem_map,Array.mem_range]at f;obtain⟨i,g,rfl⟩:=f;have j:0<z.size:=by
  rcases Uf z.size with e|e
  .rw[e]at g;simp at g
  exact e
 have k:=Nat.mod_lt i j;simp_all
structure OE(P:Program)(w:World)(E:Nat)(te:Ow)(n:Nat)(vals:List Value)(run:Value->Result Value):Prop where
 room:∀b o sLen sCap cur T0,sLen+n<=sCap->w.heap[b]? = some (.cells cur T0 (0,0))->o+sLen*te.size+vals.length<=cur.size ->
  run (.slice (some ⟨b,o,none⟩) sLen sCap)=.ok (.slice (some ⟨b,o,none⟩) (sLen+n) sCap) (w.setRow b (cur.toList.take (o+sLen*te.size)++vals++cur.toList.drop (o+sLen*te.size+vals.length)).toArray)
 none:∀a sLen sCap,sLen+n<=sCap->vals=[]->run (.slice a sLen sCap)=.ok (.slice a (sLen+n) sCap) w
 grow:∀base sLen sCap(olds:List Value),sCap<sLen+n->(Builtin.firstCells te.size sLen (.slice base sLen sCap)).run P w.drew=.ok olds.toArray w.drew->(sLen+n)*te.bytes<=Xy->sLen+n<=Xy ->
  run (.slice base sLen sCap)=.ok (.slice (some ⟨w.heap.size,0,.none⟩) (sLen+n) (grownCap w (sLen+n) sCap E)) (w.drew.alloc (.cells (olds.toArray++vals.toArray++Builtin.zeroCells te.zero.cells (grownCap w (sLen+n) sCap E-(sLen+n))) E))
def XcT(size:Nat)(a:Option Addr)(sCap:Nat)(w:World):(Builtin.firstCells size 0 (.slice a 0 sCap)).run P w=.ok #[] w:=by cases a<;>simp[Builtin.firstCells,loadCells,loadCellsFrom]
def XiR(I:UY P C s U M β w)(r:¬U ver){E z:Nat}{te:Ow}{p:List D}(k:JS te=some p)(u:p.length=z){src:List (List D)}{vals:List Value}(g:∀e∈src,e.length=z)(f:RepL P M Yx src.flatten vals)(q:∀v∈vals,v.oneCell'=true){E':Nat}(hb:src.length*P.bytesOf E'<=Xy)(y:src.length<=Xy)(id cap:Nat)(h:src.length<=cap):
 ∃β',UY P C (app s [(id,ver,.arr false E' z src 0)]) (λx=>U x\/x=ver) M β' (w.drew.alloc (.cells (([]:List Value).toArray++vals.toArray++Builtin.zeroCells te.zero.cells (cap-src.length)) E)) /\
  β' id ver=some (some (w.heap.size,cap))/\BLe β β':=by
 have⟨A,B⟩:=Zn (P:=P) (M:=M) (β:=β) k;have l:te.zero.cells.size=z:=by have:=A.length;simp at this;omega
 have o:vals.length=src.length*z:=by rw[f.length,XY g]
 refine Xe7 I r false id E' z src cap _ E w.drew ⟨rfl,rfl,rfl,rfl⟩ ?_ g h y hb ?_ ?_
 .simp only[List.append_toArray,Uk,Array.size_append,List.size_toArray,Ys,l,o,←Us];simp_all
 .intro x j;simp at j;rcases j with j|j
  .simp_all
  exact Zo B _ x j
 have:(([]:List Value).toArray++vals.toArray++Builtin.zeroCells te.zero.cells (cap-src.length)).toList.take src.flatten.length=vals:=by have G:src.flatten.length=vals.length:=f.length.symm;simp[G]
 rw[this];exact f
def XiS(I:UY P C s U M β w)(hv:¬U ver){E z:Nat}{te:Ow}(hE:Xu P E=some te)(hz:te.size=z){zc:List D}(hzc:JS te=some zc)(hzl:zc.length=z){src:List (List D)}{vals:List Value}(hsz:∀e∈src,e.length=z)(r:RepL P M Yx src.flatten vals)(S:∀v∈vals,v.oneCell'=true){run:Value->Result Value}(R:OE P w E te src.length vals run){sid:Nat}{c0 c:Prop}{d d':D}{u:Up}(h:Xd3 P s sid ver E z te.bytes c0 src d=some (c,d',u))(hc:c){y:Value}(H:Rep P M β d y):
 VOK P C s u U ver M β (run y) d':=by
 have J:vals.length=src.length*z:=by rw[r.length,XY hsz]
 have⟨z1,z2⟩:=Zn (P:=P) (M:=M) (β:=β) hzc;have hzs:te.zero.cells.size=z:=by have:=z1.length;simp at this;omega
 unfold Xd3 at h;split at h
 ·
  obtain⟨rfl,rfl,rfl⟩:=h;have⟨_,hl,hb⟩:=hc;obtain⟨a,rfl⟩:=H;rcases Uf src.length with h0|h0
  .have hsrc:src=[]:=WN h0;subst hsrc;have q:vals=[]:=WN (by simpa using J);refine⟨M,Zx β sid ver none,w,_,R.none a 0 0 ab q,I.setNil sid ver E z (Zd (I.fresh hv sid)) (XM ..) Zm,?_,MLe.refl _,Zd (I.fresh hv sid)⟩;exact .inl ⟨XM ..,ab⟩
  have hg:=R.grow a 0 0 [] aa (XcT _ _ _ _) (by simpa using hb) (by simpa using hl);simp only[UG]at hg;have A:=grownCap_ge w src.length 0 E;have⟨β',I',hβ,hB⟩:=XiR (E:=E) I hv hzc hzl hsz r S (E':=E) (by rw[Vb hE];exact hb) hl sid _ A;refine⟨M,β',_,_,hg,I',?_,MLe.refl _,hB⟩;exact .inr ⟨_,_,0,_,hβ,rfl,A,ab,.inl ab⟩
 .rename_i id v z' off len;split at h
  .rename_i v' E' z'' g fz hs;split at h
   .rename_i hcond;have⟨rfl,rfl,rfl,hbE⟩:=hcond;have⟨x0,V,hob⟩:=I.obs id v _ hs;split at h
    ·
     rename_i Z;obtain⟨rfl,rfl,rfl⟩:=h;obtain⟨_,rfl,hl,hb⟩:=hc;simp only[UG]at Z;subst Z;simp only[Rep]at H;have hid:=I.fresh hv id;rcases H with⟨hn,_,hlen,a,rfl⟩|⟨b,cb,o,cap,W,rfl,A,hcb,ho⟩
     .have hes:g=[]:=WN hlen;subst hes;rw[hn]at V;obtain rfl:none=x0:=by simpa using V
      simp only[ObRep]at hob;obtain⟨_,_,rfl⟩:=hob;simp only[Ig,UG,Uk]at hl hb⊢;rcases Uf src.length with h0|h0
      .have hsrc:src=[]:=WN h0;subst hsrc;have q:vals=[]:=WN (by simpa using J);refine⟨M,Zx β id ver none,w,_,R.none a 0 0 ab q,I.setNil id ver E' z (Zd hid) (XM ..) Zm,?_,MLe.refl _,Zd hid⟩;simp only[Rep];exact .inl ⟨XM ..,ab⟩
      have hg:=R.grow a 0 0 [] aa (XcT _ _ _ _) (by simpa using hb) (by simpa using hl);simp only[UG]at hg;have A:=grownCap_ge w src.length 0 E;obtain⟨β',I',hβ,hB⟩:=XiR (E:=E) I hv hzc hzl hsz r S (E':=E') (by rw[hbE];exact hb) hl id _ A;refine⟨M,β',_,_,hg,I',?_,MLe.refl _,hB⟩;simp only[Rep];exact .inr ⟨_,_,0,_,hβ,rfl,A,ab,.inl ab⟩
     rw[W]at V;obtain rfl:some (b,cb)=x0:=by simpa using V
     obtain⟨L,T0,k1,k2,k3,k4,k5,k6,k7,k8,k9,k10⟩:=hob;have hcb':cap=cb:=aa;subst hcb';have hz':∀e∈g++src,e.length=z:=λe G=>by
      rcases WH.1 G with G|G
      .exact k3 e G
      exact hsz e G
     have hfl:g.flatten.length=g.length*z:=XY k3;have hBl:BLe β (Zx β id ver (some (b,cap))):=Zd hid;have put:∀(cs':Array Value) (w':World),w'.heap[b]? = some (.cells cs' T0 (0,0))->cs'.size=L.size->g.length+src.length<=cap->(∀x∈cs',x.oneCell'=true)->(∀o,o<fz*z->cs'[o]? = L[o]?) ->
      (∀(i:Nat) (d:D),(g++src).flatten[i]? = some d->∃x,cs'[i]? = some x/\Rep P M Yx d x)->(∀k,k≠b->w'.heap[k]? = w.heap[k]?)->w'.os=w.os->w'.tape=w.tape->w'.output=w.output->w.heap.size<=w'.heap.size ->
      UY P C (upd s id (some (ver,.arr false E' z (g++src) fz))) (λx=>U x\/x=ver) M (Zx β id ver (some (b,cap))) w':=by
      intro cs' w' h1 h2 h3 h4 h5 h6 h7 h8 h9 h10 h11
      refine I.set id ver _ b cap (MLe.refl M) hBl h7 (λ_ _ _=>rfl) ?_ (XM ..) ?_ ?_ (I.own id v (.arr false E' z g fz) b cap hs W:_\/(_/\false=true)) (λ_ _=>rfl) h8 h9 h10 h11 Zm
      .intro o x f
       have ho:=k9 o
       rw[f]at ho
       split at ho
       .rename_i hlt
        rw[cell_of_row w' b o cs' T0 (0,0) h1,h5 o hlt]
        exact⟨ho.symm,(I.mem b o x f).2⟩
       .cases ho
      .refine⟨cs',T0,h1,by rw[h2];exact k2,hz',by simpa using h3,by simpa using hl,by rw[hbE];simpa using hb,ah,h4,λo=>?_,λi d hd=>?_⟩
       .rw[k9 o]
        split
        .rename_i hlt;exact(h5 o hlt).symm
        .rfl
       .obtain⟨x,f,H⟩:=h6 i d hd
        exact⟨x,f,H⟩
      .intro id' v' ob' cb' hne hs' p
       exact hne (I.inj id' v' ob' id v _ b cb' cap hs' hs p W)
     by_cases l:g.length+src.length<=cap
     .by_cases q:vals=[]
      .refine⟨M,Zx β id ver (some (b,cap)),w,_,R.none _ g.length cap l q,?_,?_,MLe.refl _,hBl⟩
       .refine put L w k1 rfl l k8 (λ_ _=>rfl) (λi d hd=>?_) (λ_ _=>rfl) rfl rfl rfl (Uj _);rw[YE]at hd;split at hd
        .exact k10 i d hd
        have:src.flatten=[]:=WN (by rw[XY hsz,←J,q];rfl);rw[this]at hd;simp at hd
       simp only[Rep];exact .inr ⟨b,cap,o,cap,XM ..,rfl,l,ab,ho⟩
      have B:cap≠0:=by rintro rfl;have:src.length=0:=aa;exact q (WN (by rw[J,this];simp))
      have ho':o=0:=by rcases ho with h|h;simpa using h;exact absurd h B
      subst ho';have hmul:(g.length+src.length)*z<=cap*z:=W5 _ l;rw[Us]at hmul;have K:=R.room b 0 g.length cap L T0 l k1 (by rw[hz,J];omega);rw[hz]at K;simp only[UG]at K;refine⟨M,Zx β id ver (some (b,cap)),_,_,K,?_,?_,MLe.refl _,hBl⟩
      .refine put _ _ (setRow_heap w b L _ T0 (0,0) k1) (by simp[J];omega) l ?_ ?_ ?_ (λk hk=>setRow_other w b k _ hk) rfl rfl rfl ab
       .intro x f;simp only[List.mem_toArray,WH]at f;rcases f with(f|f)|f
        .exact k8 x (by simpa using WY f)
        .exact S x f
        exact k8 x (by simpa using WS f)
       .intro i O;have:fz*z<=g.length*z:=W5 _ k7;simp only[U8];rw[Vc _ _ _ ah,Wq aa];simp
       intro i d hd;rw[YE,hfl]at hd;simp only[U8];rw[Vc _ _ _ ah];split at hd
       .rename_i O;rw[Wq O];obtain⟨x,f,H⟩:=k10 i d hd;exact⟨x,by simpa using f,H⟩
       rename_i O;rw[Wk O];obtain⟨x,f,H⟩:=r.get _ d hd;have hlt:i-g.length*z<vals.length:=by
        rcases Ur (i-g.length*z) vals.length with h|h
        .exact h
        rw[W3 h]at f;cases f
       rw[Wq aa];exact⟨x,f,H⟩
      simp only[Rep];exact .inr ⟨b,cap,0,cap,XM ..,rfl,l,ab,.inl ab⟩
     
     have hlt:cap<g.length+src.length:=aa;have holds:(Builtin.firstCells te.size g.length (.slice (some ⟨b,o,none⟩) g.length cap)).run P w.drew=.ok ((L.toList.take (g.length*z)).toArray) w.drew:=by
      refine run_firstCells_some (P:=P) w.drew te.size g.length ⟨b,o,none⟩ g.length cap (L.toList.take (g.length*z)) ?_ ?_
      .have:g.length*z<=cap*z:=W5 _ k4;simp[hz];omega
      intro j x f;rw[Un]at f;split at f
      .rename_i hj;have B:cap≠0:=by rintro rfl;have:g.length=0:=aa;rw[this]at hj;simp at hj
       have ho':o=0:=by rcases ho with h|h;simpa using h;exact absurd h B
       subst ho';rw[UV];show w.cell? ⟨b,0+j,none⟩=some x;rw[UG,cell_of_row w b j L T0 (0,0) k1];simpa using f
      cases f
     have hg:=R.grow (some ⟨b,o,none⟩) g.length cap (L.toList.take (g.length*z)) hlt holds hb hl;have Y:=grownCap_ge w (g.length+src.length) cap E;generalize hN:grownCap w (g.length+src.length) cap E=N at hg Y;generalize hrow:((L.toList.take (g.length*z)).toArray++vals.toArray++Builtin.zeroCells te.zero.cells (N-(g.length+src.length)))=row at hg;have hescs:g.length*z<=L.size:=by rw[k2];exact W5 _ k4
     have hrowsize:row.size=N*z:=by rw[←hrow];simp only[Array.size_append,List.size_toArray,Wl,U7,Ys,hzs,J];have:min (g.length*z) L.size=g.length*z:=aa;rw[this,←Us,←Us];congr 1;omega
     have hrowlist:row.toList=L.toList.take (g.length*z)++(vals++(Builtin.zeroCells te.zero.cells (N-(g.length+src.length))).toList):=by rw[←hrow];simp
     have hrowget1:∀i,i<g.length*z->row[i]? = L[i]?:=by intro i O;rw[←UW,hrowlist,U6 ah,Un,Wq O];simp
     have hrowget2:∀i,i<vals.length->row[g.length*z+i]? = vals[i]?:=by
      intro i O;have h1:(L.toList.take (g.length*z)).length=g.length*z:=by simp;omega
      rw[←UW,hrowlist,U3 aa,h1,IN,U6 O]
     have hrowone:∀x∈row,x.oneCell'=true:=by
      intro x f;have p:x∈row.toList:=by simpa using f
      rw[hrowlist]at p;simp only[WH]at p;rcases p with p|p|p
      .exact k8 x (by simpa using WY p)
      .exact S x p
      exact Zo z2 _ x (by simpa using p)
     have hMnew:∀i,M w.heap.size i=none:=by
      intro i;cases f:M w.heap.size i with
      |none=>rfl
      |some x=>exact absurd (I.mem.lt f) (Ib _)
     have hblt:b<w.heap.size:=by
      rcases Ur b w.heap.size with h'|h'
      .exact h'
      simp[Array.getElem?_eq_none h']at k1
     let M':Mem:=λk i=>if k=w.heap.size then(if i<fz*z then row[i]? else none)else M k i
     have hMle:MLe M M':=by
      intro k i x f;show(if k=w.heap.size then _ else M k i)=some x;rw[Wk]
      .exact f
      rintro rfl;rw[hMnew]at f;cases f
     have hBl':BLe β (Zx β id ver (some (w.heap.size,N))):=Zd hid;have hheap:∀k,k≠w.heap.size->(w.drew.alloc (.cells row E)).heap[k]? = w.heap[k]?:=by intro k hk;show(w.heap.push _)[k]? = _;rw[Array.getElem?_push,Wk hk]
     have hnew:(w.drew.alloc (.cells row E)).heap[w.heap.size]? = some (.cells row E (0,0)):=by show(w.heap.push _)[w.heap.size]? = _;simp
     refine⟨M',Zx β id ver (some (w.heap.size,N)),_,_,hg,?_,?_,hMle,hBl'⟩
     .refine I.set id ver _ w.heap.size N hMle hBl' hheap (λk hk i=>Wk hk) ?_ (XM ..) ?_ ?_ (.inl I.keep.size) ?_ rfl rfl rfl (by show w.heap.size<=(w.heap.push _).size;simp) Zm
      .intro i x f;have p:(if i<fz*z then row[i]? else none)=some x:=by have:=f;simp only[M',if_true]at this;exact this
       split at p
       .rename_i O;rw[cell_of_row _ _ i row E (0,0) hnew];refine⟨p,hrowone x ?_⟩;exact Array.mem_of_getElem? p
       cases p
      .refine⟨row,E,hnew,hrowsize,hz',by simpa using Y,by simpa using hl,by rw[hbE];simpa using hb,ah,hrowone,λi=>?_,λi d hd=>?_⟩
       .simp only[M',if_true]
       rw[YE,hfl]at hd;split at hd
       .rename_i O;obtain⟨x,f,H⟩:=k10 i d hd;exact⟨x,by rw[hrowget1 i O];exact f,H.mono hMle (BLe.refl _)⟩
       rename_i O;obtain⟨x,f,H⟩:=r.get _ d hd;have hlt2:i-g.length*z<vals.length:=by
        rcases Ur (i-g.length*z) vals.length with h|h
        .exact h
        rw[W3 h]at f;cases f
       have:=hrowget2 _ hlt2;have hi2:g.length*z+(i-g.length*z)=i:=aa;rw[hi2]at this;exact⟨x,by rw[this];exact f,H.mono hMle (BLe.refl _)⟩
      .intro id' v' ob' cb' _ hs' p;obtain⟨yy,hy,hob'⟩:=I.obs id' v' ob' hs';rw[p]at hy;obtain rfl:some (w.heap.size,cb')=yy:=by simpa using hy
       exact absurd hob'.lt (Ib _)
      intro hlt';exact absurd I.keep.size aa
     simp only[Rep];exact .inr ⟨w.heap.size,N,0,N,XM ..,rfl,Y,ab,.inl ab⟩
    
    rename_i Z;simp only[Wt,Wy]at h;obtain⟨rfl,rfl,rfl⟩:=h;obtain⟨_,hfit,hfz⟩:=hc;simp only[Rep]at H;rcases H with⟨hn,rfl,rfl,a,rfl⟩|⟨b,cb,o,cap,W,rfl,A,hcb,ho⟩
    .rw[hn]at V;obtain rfl:none=x0:=by simpa using V
     simp only[ObRep]at hob;exact absurd (by rw[hob.2.1];rfl) Z
    rw[W]at V;obtain rfl:some (b,cb)=x0:=by simpa using V
    obtain⟨L,T0,k1,k2,k3,k4,k5,k6,k7,k8,k9,k10⟩:=hob;have B:cap≠0:=by rintro rfl;omega
    have ho':o=off*z:=by rcases ho with h|h;exact h;exact absurd h B
    subst ho';have l:len+src.length<=cap:=aa;have hmul:(off+len+src.length)*z<=cb*z:=W5 _ aa;rw[Us,Us]at hmul;have K:=R.room b (off*z) len cap L T0 l k1 (by rw[hz,J];omega);rw[hz]at K;have hpre:∀e∈g.take (off+len)++src++g.drop (off+len+src.length),e.length=z:=by
     intro e G;simp only[WH]at G;rcases G with(G|G)|G
     .exact k3 e (WY G)
     .exact hsz e G
     exact k3 e (WS G)
    have I':=I.write hs W k1 (cs':=(L.toList.take (off*z+len*z)++vals++L.toList.drop (off*z+len*z+vals.length)).toArray) (es':=g.take (off+len)++src++g.drop (off+len+src.length))
     (by simp[J];omega) ah hpre
     (λx f=>by
      simp only[List.mem_toArray,WH]at f
      rcases f with(f|f)|f
      .exact k8 x (by simpa using WY f)
      .exact S x f
      .exact k8 x (by simpa using WS f))
     (λi O=>by
      have h1:fz*z<=(off+len)*z:=W5 _ hfz
      rw[Us]at h1
      simp only[U8]
      rw[Vc _ _ _ ah,Wq aa]
      simp)
     (λi d hd=>by
      simp only[U8]
      rw[Vc _ _ _ ah]
      have htl:(g.take (off+len)).length=off+len:=by simp;omega
      have ht:(g.take (off+len)).flatten.length=off*z+len*z:=by
       rw[XY (λe G=>k3 e (WY G)),htl,Us]
      have hsrcl:src.flatten.length=vals.length:=r.length.symm
      rw[UI,YE,ht,YE,hsrcl]at hd
      split at hd
      .rename_i O
       rw[Wq O]
       have hd':g.flatten[i]? = some d:=by
        have hzp:0<z:=by
         rcases Uf z with h0|h0
         .subst h0;simp at O
         .exact h0
        rw[Y5 (λe G=>k3 e (WY G))]at hd
        rw[Y5 k3]
        have hq:i / z<off+len:=(Ih hzp).2 (by rw[Us];exact O)
        rw[Wr,Un,Wq hq]at hd
        rw[Wr];exact hd
       obtain⟨x,f,H⟩:=k10 i d hd'
       exact⟨x,by simpa using f,H⟩
      .rename_i O
       rw[Wk O]
       split at hd
       .rename_i hi2
        rw[Wq aa]
        obtain⟨x,f,H⟩:=r.get _ d hd
        exact⟨x,f,H⟩
       .rename_i hi2
        rw[Wk aa]
        have hd':g.flatten[i]? = some d:=by
         rcases Uf z with h0|hzp
         .subst h0
          rw[XcO _ (λe G=>k3 e (WS G))]at hd
          cases hd
         .rw[Y5 (λe G=>k3 e (WS G))]at hd
          rw[Y5 k3]
          have hN:i-(off*z+len*z)-vals.length=i-z*(off+len+src.length):=by rw[J,Om z,Us,Us];omega
          have hge:(off+len+src.length)*z<=i:=by rw[Us,Us];omega
          rw[hN,Nat.sub_mul_div,Nat.sub_mul_mod (by rw[Om];exact hge)]at hd
          rw[Wr,UO]at hd
          have hq:off+len+src.length<=i / z:=(Nat.le_div_iff_mul_le hzp).2 hge
          have:off+len+src.length+(i / z-(off+len+src.length))=i / z:=aa
          rw[this]at hd
          rw[Wr];exact hd
        obtain⟨x,f,H⟩:=k10 i d hd'
        exact⟨x,by simpa using f,H⟩)
    refine⟨M,β,_,_,K,(by rw[XjS];exact I'.mono λ_ h=>Or.inl h),?_,MLe.refl _,BLe.refl _⟩;simp only[Rep];exact .inr ⟨b,cb,off*z,cap,W,rfl,l,hcb,.inl rfl⟩
   cases h
  cases h
 simp_all
def UY.seg(I:UY P C s U M β w){id v E' z fz b G p:Nat}{f src:List (List D)}{h:Array Value}{T0:TypeId}{vals:List Value}(Y:s id=some (v,.arr false E' z f fz))(K:β id v=some (some (b,G)))(k1:w.heap[b]? = some (.cells h T0 (0,0)))(k2:h.size=G*z)(q:∀e∈f,e.length=z)(k4:f.length<=G)(k8:∀x∈h,x.oneCell'=true)(r:∀(i:Nat) (d:D),f.flatten[i]? = some d->∃x,h[i]? = some x/\Rep P M Yx d x)(Z:∀e∈src,e.length=z)(L:vals.length=src.length*z)(j:RepL P M Yx src.flatten vals)(S:∀x∈vals,x.oneCell'=true)(V:p+src.length<=f.length)(N:fz<=p):
 UY P C (upd s id (some (v,.arr false E' z (f.take p++src++f.drop (p+src.length)) fz))) U M β (w.setRow b (h.toList.take (p*z)++vals++h.toList.drop (p*z+vals.length)).toArray):=by
 have u:(p+src.length)*z<=G*z:=W5 _ aa;rw[Us]at u;have y:∀e∈f.take (p)++src++f.drop (p+src.length),e.length=z:=by
  intro e g;simp only[WH]at g;rcases g with(g|g)|g
  .grind
  .simp_all
  grind
 exact I.write Y K k1 (cs':=(h.toList.take (p*z)++vals++h.toList.drop (p*z+vals.length)).toArray) (es':=f.take (p)++src++f.drop (p+src.length))
  (by grind) (by grind) y
  (λx H=>by
   grind)
  (λi J=>by
   have h1:fz*z<=(p)*z:=W5 _ N
   grind)
  (λi d hd=>by
   simp only[U8]
   rw[Vc _ _ _ (by simp_all)]
   have O:(f.take (p)).length=p:=by simp;omega
   have ht:(f.take (p)).flatten.length=p*z:=by
    rw[XY (λe g=>q e (WY g)),O]
   have k:src.flatten.length=vals.length:=j.length.symm
   rw[UI,YE,ht,YE,k]at hd
   split at hd
   .rename_i J
    have l:f.flatten[i]? = some d:=by
     have o:0<z:=by
      rcases Uf z with R|R
      .simp_all
      .omega
     rw[Y5 (λe g=>q e (WY g))]at hd
     rw[Y5 q]
     have W:i / z<p:=(Ih o).2 J
     rw[Wr,Un,Wq W]at hd
     rw[Wr];exact hd
    have⟨x,H,A⟩:=r i d l
    exact⟨x,by simp_all,A⟩
   .rename_i J
    rw[Wk J]
    split at hd
    .rw[Wq aa]
     have⟨x,H,A⟩:=j.get _ d hd
     exact⟨x,H,A⟩
    .rw[Wk aa]
     have l:f.flatten[i]? = some d:=by
      rcases Uf z with R|o
      .subst R
       rw[XcO _ (λe g=>q e (WS g))]at hd
       grind
      .rw[Y5 (λe g=>q e (WS g))]at hd
       rw[Y5 q]
       have hN:i-(p*z)-vals.length=i-z*(p+src.length):=by rw[L,Om z,Us];omega
       have B:(p+src.length)*z<=i:=by rw[Us];omega
       rw[hN,Nat.sub_mul_div,Nat.sub_mul_mod (by rw[Om];exact B)]at hd
       rw[Wr,UO]at hd
       have W:p+src.length<=i / z:=(Nat.le_div_iff_mul_le o).2 B
       simp_all
     have⟨x,H,A⟩:=r i d l
     exact⟨x,by simp_all,A⟩)
end
variable {P:Program}
section
variable {C:Cx}{s:Heap}{U:Nat->Prop}{ver:Nat}{M:Mem}{β:Loc}{w:World}
def OpOK.val(I:UY P C s U M β w){r:Result Next}{d:D}{v:Value}(e:r=.ok (.value v) w)(h:Rep P M β d v):OpOK P C s [] U ver M β r d:=
 ⟨M,β,w,v,.inl e,I.mono λ_ f=>.inl f,h,MLe.refl _,BLe.refl _⟩
def Xe8{T T2 E E2:TypeId}{te:Ow}{o':TypeId}(h:P.underlying T=some (.slice E))(e:P.underlying T2=some (.slice E2))(k:Xu P E=some te){xb:Option Addr}{m xc:Nat}{vals:List Value}(r:vals.length=m*te.size)(D:xb=none->m=0)(G:∀a,xb=some a->∀(j:Nat) (v:Value),vals[j]? = some v->w.cell? (a.add j)=some v)(u:∀v∈vals,v.oneCell'=true):
 OE P w E te m vals (λy=>(Builtin.append_ #[T,T2] o' #[y,.slice xb m xc]).run P w):=by
 have l:∀w':World,(∀a,w'.cell? a=w.cell? a)->(Builtin.firstCells te.size m (.slice xb m xc)).run P w'=.ok vals.toArray w':=by
  intro w' hw;cases xb with
  |none=>simp_all[Builtin.firstCells]
  |some a=>exact run_firstCells_some (P:=P) w' te.size m a m xc vals r (λj v H=>by simp_all)
 exact {
  room:=λb o sLen sCap cur T0 p z f=>Xk5 h e k p (l w λ_=>rfl) z f u
  none:=λa sLen sCap p A=>Xk6 h e k a p (l w λ_=>rfl) A
  grow:=λbase sLen sCap olds q g hb B=>Xk7 h e k q g (l w.drew λ_=>rfl) hb B}
def Xga{T T2 E:TypeId}{te:Ow}{o':TypeId}{k k':IntKind}(u:P.underlying T=some (.slice E))(f:P.underlying T2=some (.int k))(z:Xu P E=some te){n:Int}(A:0<=n)(g:n<=Xy)(j:n.toNat*te.bytes<=Xy){vals:List Value}(e:vals=(if n.toNat*te.size=0 then[]else(Builtin.zeroCells te.zero.cells n.toNat).toList))(J:∀v∈vals,v.oneCell'=true)(K:te.zero.cells.size=te.size):
 OE P w E te n.toNat vals (λy=>(Builtin.append_ #[T,T2] o' #[y,.int k' n]).run P w):=by
 refine {
  room:=λb o sLen sCap cur T0 B L l=>Xok u f z A g j e B L l J
  none:=λa sLen sCap B S=>?_
  grow:=λbase sLen sCap olds D p hb N=>Xol u f z A g j e D p hb N}
 have hw:IntKind.i64.wrap n=n:=by rw[IntKind.wrap_i64];simp only[Xy]at g;omega
 have q:¬n<0:=aa;have⟨i,d,O,V,R,G,H,_⟩:=Yh z;have r:¬(281474976710656<n*(i.bytes:Int)):=by
  have:((n.toNat*te.bytes:Nat):Int)=n*te.bytes:=by rw[Oj,Int.toNat_of_nonneg A]
  rw[H,←this];simp only[Xy]at j;omega
 have I:n.toNat*te.size=0:=by
  rcases Uf (n.toNat*te.size)with h|h
  .omega
  rw[Wk aa]at e;have:(Builtin.zeroCells te.zero.cells n.toNat).toList.length=n.toNat*te.size:=by rw[U7,Ys,K]
  simp_all
 cases a<;>simp[Builtin.append_,run_underlying u,run_underlying f,sizeOf,typeInfo,O,G,asInt,asIntOf,hw,q,r,B,I,storeCells]
def Y6(n:Nat)(f:List D)(z:Nat)(g:f.length=z):∀e∈List.replicate n f,e.length=z:=by simp_all
def V4{te:Ow}{e:List D}(o:JS te=some e)(n:Nat):RepL P M β (List.replicate n e).flatten (Builtin.zeroCells te.zero.cells n).toList:=by
 have⟨p,z⟩:=Zn (P:=P) (M:=M) (β:=β) o;have k:te.zero.cells.size=e.length:=by simpa using p.length
 have f:=XY (Y6 n e e.length rfl);rw[WV]at f;refine RepL.of (by rw[f,U7,Ys,k]) λi d x hd g=>?_;have l:i<n*e.length:=by
  rcases Ur i (n*e.length)with h|h
  .exact h
  rw[W3 aa]at hd;cases hd
 have j:0<e.length:=by
  rcases Uf e.length with h|h
  .rw[h]at l;simp at l
  exact h
 have u:i / e.length<n:=(Ih j).2 l;have q:=Nat.mod_lt i j;rw[Y5 (Y6 n e e.length rfl),Wr,List.getElem?_replicate,Wq u]at hd;have⟨y,r,A⟩:=p.get _ d hd;have v:x=y:=by rw[UW]at g;simp only[Builtin.zeroCells,Array.getElem?_map,k,Array.getElem?_range,l,if_true]at g;simp only[U4,Wt]at g;rw[getElem!_pos _ _ (by rw[k];exact q)]at g;rw[UW,Array.getElem?_eq_getElem (by rw[k];exact q)]at r;rw[←g];simpa using r
 simp_all
def Xom(I:UY P C s U M β w)(A:¬U ver){T E z a b:Nat}{zz:Value}{te:Ow}(B:Xu P T=some ⟨a,b,zz,.slice E z⟩)(q:Xu P E=some te){h:List D}(f:JS te=some h)(g:h.length=z)(G:te.size=z){k r:IntKind}{n:Int}(u:0<=n)(v:n.toNat<=Xy)(y:n.toNat*te.bytes<=Xy)(id:Nat):
 VOK P C s [(id,ver,.arr false E z (List.replicate n.toNat h) 0)] U ver M β ((Instr.makeSlice T (.int k n) (.int r n)).run P w) (.osl id ver z 0 n.toNat):=by
 have⟨i,d,H,N,j,l,o,_⟩:=Yh q;have⟨J,K⟩:=Zn (P:=P) (M:=M) (β:=β) f;have p:te.zero.cells.size=z:=by have:=J.length;simp at this;omega
 have e:=run_make (P:=P) w T E i te.zero (X4 B).1 H j k r n n u (Int.le_refl _) (by
  have:((n.toNat*te.bytes:Nat):Int)=n*te.bytes:=by rw[Oj,Int.toNat_of_nonneg u]
  rw[o,Int.mul_comm,←this];simp only[Xy]at y;omega) (by simp only[Xy]at v;omega)
 have hcells:madeCells te.zero.cells (n.toNat*i.size)=Builtin.zeroCells te.zero.cells n.toNat:=by rw[l,G,←p];rfl
 rw[hcells]at e
 have⟨β',I',hβ,L⟩:=Xe7 I A false id E z (List.replicate n.toNat h) n.toNat (Builtin.zeroCells te.zero.cells n.toNat) E w ⟨rfl,rfl,rfl,rfl⟩ (by rw[Ys,p]) (Y6 _ _ _ g) ab (by simpa using v) (by rw[Vb q];simpa using y)
  (Zo K _) (by
   rw[Uu]
   .exact V4 f n.toNat
   .rw[XY (Y6 _ _ _ g),U7,Ys,p];simp)
 refine⟨M,β',_,_,e,I',?_,MLe.refl _,L⟩;grind[Rep]
def Xd6(I:UY P C s U M β w)(H:¬U ver){T E z n a b:Nat}{zz:Value}{te:Ow}(A:Xu P T=some ⟨a,b,zz,.slice E z⟩)(l:Xu P E=some te){q:List D}(e:JS te=some q)(r:q.length=z)(B:te.size=z)(J:n*z<=16777216)(u:n*te.bytes<=Xy)(K:n<=Xy){parts:List (Nat×D)}{vparts:Array (Nat×Value)}{o:List (List D)}(h:XcM z (List.replicate n q) parts=some o)(L:parts.map (·.1)=vparts.toList.map (·.1))(N:RepL P M Yx (parts.map (·.2)) (vparts.toList.map (·.2)))(id:Nat):
 VOK P C s [(id,ver,.arr false E z o 0)] U ver M β ((Instr.buildSlice T n vparts).run P w) (.osl id ver z 0 n):=by
 have⟨O,R⟩:=Zn (P:=P) (M:=M) (β:=β) e;have G:te.zero.cells.size=z:=by have:=O.length;simp at this;omega
 have⟨vs,k1,k2,p,v,S⟩:=Xf7 z parts vparts.toList _ (Builtin.zeroCells te.zero.cells n) o h (Y6 _ _ _ r) (V4 e n) L N (λx V=>Zo R n x V);rw[WV]at p;have f:(Instr.buildSlice T n vparts).run P w=.ok (.slice (some ⟨w.heap.size,0,none⟩) n n) (w.alloc (.cells vs E)):=by
  have g:¬(16777216<n*z):=aa;by_cases y:n*z=0
  .have W:Instr.fill (λi=>some (i*z,z)) #[] vparts.toList=some vs:=by
    have:Builtin.zeroCells te.zero.cells n=#[]:=by apply Array.eq_empty_of_size_eq_zero;rw[Ys,G];exact y
    rw[this]at k1;exact k1
   simp[Instr.buildSlice,run_underlying (X4 A).1,YP l,B,y,W,newRow,Array.range_zero']
  have j:((Array.range (n*z)).map λi=>te.zero.cells[i % te.zero.cells.size]!)=Builtin.zeroCells te.zero.cells n:=by rw[←G];rfl
  simp only[Instr.buildSlice,Sem.run_bind,run_underlying (X4 A).1,YP l,B,g,y,newRow,KC l,Result.andThen_ok,Sem.run_ite,gt_iff_lt,if_false,Sem.run_pure,j,k1,Nat.reducePow,run_newObj,World.alloc_eq]
 have k:vs.size=n*z:=by have:=k2.length;rw[XY v,p]at this;simpa using this
 have⟨β',I',hβ,Y⟩:=Xe7 I H false id E z o n vs E w ⟨rfl,rfl,rfl,rfl⟩ k v aa aa (by rw[Vb l,p];exact u) S (by
  rw[Uu]
  .exact k2
  .rw[XY v,p];simp[k])
 refine⟨M,β',_,_,f,I',?_,MLe.refl _,Y⟩;grind[Rep]
end
variable {P:Program}
section
variable {C:Cx}{s:Heap}{U:Nat->Prop}{ver:Nat}{M:Mem}{β:Loc}{w:World}
def Vd{d:D}{n:Int}(h:ivD d=some n){y:Value}(e:Rep P M β d y):∃k,y=.int k n/\wfV (.int k n):=by unfold ivD at h;grind[Rep]
def Xe9{t:Operand->D}{ρ:Operand->Value}(hρ:∀x,Rep P M β (t x) (ρ x))(l:List Operand):RepL P M β (l.map t) (l.map ρ):=by
 induction l with
 |nil=>rfl
 |cons x l e=>grind[Ub,RepL]
def Xef{t:Operand->D}{ρ:Operand->Value}(hρ:∀x,Rep P M β (t x) (ρ x))(l:List (Nat×Operand)):
 (l.map λp=>(p.1,t p.2)).map (·.1)=(l.map λp=>(p.1,ρ p.2)).map (·.1)/\RepL P M β ((l.map λp=>(p.1,t p.2)).map (·.2)) ((l.map λp=>(p.1,ρ p.2)).map (·.2)):=by
 constructor
 .simp
 have:=Xe9 hρ (l.map (·.2));simp_all[List.map_map,Function.comp_def]
def Ve{t:Operand->D}{ρ:Operand->Value}(hρ:∀x,Rep P M β (t x) (ρ x)){o:Option Operand}{r:Option Int}(h:ivO t o=some r):∃e:IntKind,(o.map ρ)=r.map (λn=>Value.int e n):=by
 cases o with
 |none=>simp[ivO]at h;subst h;simp
 |some x=>simp only[ivO,Ui]at h;obtain⟨n,f,rfl⟩:=h;have⟨k,g,_⟩:=Vd f (hρ x);simp_all
def Kb(k:IntKind)(n:Int)(y:Nat)(code:BoundsCode)(e:0<=n)(f:n<=y):(Instr.sliceBound (.int k n) y code).run P w=.ok n.toNat w:=by simp[Instr.sliceBound,asIntOf,e,f]
def KN(k1 k2:IntKind)(e f:Option Int)(len cap:Nat)(h:0<=e.getD 0)(j:e.getD 0<=f.getD len)(k:f.getD len<=len)(l:len<=cap):
 (Instr.sliceBounds true len cap (e.map (Value.int k1)) (f.map (Value.int k2)) none).run P w=.ok ((e.getD 0).toNat,(f.getD len).toNat,cap) w:=by
 cases e<;>cases f<;>simp only[Option.getD_none,U5]at h j k⊢
 .rfl
 .rename_i b;have hb:=Kb (P:=P) (w:=w) k2 b cap .sliceAcap aa aa;simp[Instr.sliceBounds,hb]
 .rename_i a;have g:=Kb (P:=P) (w:=w) k1 a len .sliceB aa aa;simp[Instr.sliceBounds,g]
 rename_i a b;have hb:=Kb (P:=P) (w:=w) k2 b cap .sliceAcap aa aa;have g:=Kb (P:=P) (w:=w) k1 a b.toNat .sliceB aa aa;simp[Instr.sliceBounds,hb,g]
def JU(k1 k2:IntKind)(l h:Int)(len cap:Nat)(e:0<=l)(j:l<=h)(f:h<=cap):
 (Instr.sliceBounds true len cap (some (Value.int k1 l)) (some (Value.int k2 h)) none).run P w=.ok (l.toNat,h.toNat,cap) w:=by have hb:=Kb (P:=P) (w:=w) k2 h cap .sliceAcap aa f;have g:=Kb (P:=P) (w:=w) k1 l h.toNat .sliceB e aa;simp[Instr.sliceBounds,hb,g]
def Xa2(k1 k2 f:IntKind)(e:Option Int)(h m:Int)(len cap:Nat)(j:0<=e.getD 0)(k:e.getD 0<=h)(q:h<=m)(o:m<=cap):
 ∃r,(Instr.sliceBounds true len cap (e.map (Value.int k1)) (some (Value.int k2 h)) (some (Value.int f m))).run P w=.ok r w:=by
 have g:=Kb (P:=P) (w:=w) f m cap .slice3Acap aa o;have hb:=Kb (P:=P) (w:=w) k2 h m.toNat .slice3B aa aa;cases e with
 |none=>exact⟨_,by simp[Instr.sliceBounds,hb,g];rfl⟩
 |some l=>have p:=Kb (P:=P) (w:=w) k1 l h.toNat .slice3C j (by simp only[U5]at k;omega);exact⟨_,by simp[Instr.sliceBounds,hb,g,p];rfl⟩
def Vs(k1 k2 p:IntKind)(f g e:Option Int)(cap len:Nat)(h:e=none\/g≠none)(A:f.getD 0=0)(q:g.getD 0=0)(r:e.getD 0=0)(o:(e=none->cap=0)/\(g=none->len=0)):
 (Instr.sliceBounds true len cap (f.map (Value.int k1)) (g.map (Value.int k2)) (e.map (Value.int p))).run P w=.ok (0,0,0) w:=by
 have j:∀(k:IntKind) (y:Nat) (code:BoundsCode),(Instr.sliceBound (.int k 0) y code).run P w=.ok 0 w:=λk y code=>by rfl
 cases g with
 |none=>
  have u:e=none:=by rcases h with h|h;exact h;exact absurd rfl h
  subst u;have⟨v,z⟩:=o;rw[v rfl,z rfl];cases f with
  |none=>rfl
  |some l=>simp_all[U5,Instr.sliceBounds,j]
 |some x=>
  subst q;cases e with
  |none=>
   rw[o.1 rfl];cases f with
   |none=>rfl
   |some l=>simp_all[U5,Instr.sliceBounds,j]
  |some m=>
   subst r;cases f with
   |none=>rfl
   |some l=>simp_all[U5,Instr.sliceBounds,j]
def V5(I:UY P C s U M β w){T E sz a b:Nat}{zz:Value}(hT:Xu P T=some ⟨a,b,zz,.slice E sz⟩){te:Ow}(hE:Xu P E=some te){f k B:Option Int}{k1 k2 L:IntKind}{d d':D}{c:Prop}(h:XaA sz f k B d=some (c,d'))(O:c){y:Value}(l:Rep P M β d y):
 VOK P C s [] U ver M β ((Instr.sliceAt T y (f.map (Value.int k1)) (k.map (Value.int k2)) (B.map (Value.int L))).run P w) d':=by
 have⟨hu,V⟩:=X4 hT;have g:(sizeOf E).run P w=.ok sz w:=by rw[YP hE,V,XaC hE]
 have start:∀(base:Option Addr) (len cap:Nat),(Instr.sliceAt T (.slice base len cap) (f.map (Value.int k1)) (k.map (Value.int k2)) (B.map (Value.int L))).run P w =
  ((Instr.sliceBounds true len cap (f.map (Value.int k1)) (k.map (Value.int k2)) (B.map (Value.int L))).run P w).andThen λr w'=>
   ((sizeOf E).run P w').andThen λsize w''=>.ok (.slice (if r.2.2=r.1 then base else base.map (·.add (r.1*size))) (r.2.1-r.1) (r.2.2-r.1)) w'':=by
  intro base len cap
  simp[Instr.sliceAt,Instr.slice,run_underlying hu]
 unfold XaA at h;split at h
 .have key:(B=none\/k≠none)/\(f.getD 0=0/\k.getD 0=0/\B.getD 0=0)/\d'=.nsl:=by
   split at h
   .cases h
   rename_i W;simp only[Wt,Wy]at h;obtain⟨rfl,rfl⟩:=h;refine⟨?_,O,rfl⟩;cases B with
   |none=>exact .inl rfl
   |some m=>exact .inr λh=>W m rfl h
  obtain⟨q,⟨u,h3,h4⟩,rfl⟩:=key;obtain⟨G,rfl⟩:=l;refine .same I (v:=.slice G 0 0) ?_ (by simp[Rep]);rw[start,Vs k1 k2 L f k B 0 0 q u h3 h4 ⟨λ_=>rfl,λ_=>rfl⟩];simp[g]
 .rename_i E' z A;split at h
  .rename_i J;subst J;obtain⟨Y,q2,q3,G,cap,rfl,j,l⟩:=l;split at h
   .obtain⟨rfl,rfl⟩:=h;have⟨N,q,u⟩:=O;have p:((A.drop (f.getD 0).toNat).take ((k.getD A.length).toNat-(f.getD 0).toNat)).length=(k.getD A.length).toNat-(f.getD 0).toNat:=by simp;omega
    refine .same I (v:=.slice (if cap=(f.getD 0).toNat then G else G.map (·.add ((f.getD 0).toNat*z))) ((k.getD A.length).toNat-(f.getD 0).toNat) (cap-(f.getD 0).toNat)) ?_ ?_
    .rw[start,IX,KN k1 k2 f k A.length cap N q u j];simp only[Result.andThen_ok,g]
    have hmul:((k.getD A.length).toNat-(f.getD 0).toNat)*P.bytesOf E'<=A.length*P.bytesOf E':=W5 _ aa;refine⟨λe H=>Y e (WS (WY H)),aa,by rw[p];omega,_,_,by rw[p],aa,?_⟩;rcases Uf ((k.getD A.length).toNat-(f.getD 0).toNat)with K|K
    .left;exact WN (by rw[p];exact K)
    right;rcases l with rfl|⟨b,o,rfl,l⟩
    .simp at K u;omega
    rw[Wk aa];refine⟨b,o+(f.getD 0).toNat*z,by simp[UV],RepE.of (z:=z) (λe H=>Y e (WS (WY H))) λi e H=>?_⟩;rw[VA]at H;split at H
    .have:=l.get Y _ e H;rw[Us,←Nat.add_assoc]at this;exact this
    cases H
   .obtain⟨rfl,rfl⟩:=h;obtain⟨q,rfl,rfl⟩:=O;refine .same I (v:=.slice G 0 0) ?_ (by simp[Rep]);rw[start,Vs k1 k2 L f (some 0) (some 0) cap A.length (.inr ab) q rfl rfl ⟨ab,ab⟩];simp[g]
   cases h
  cases h
 .rename_i id v z off len;split at h
  .rename_i J;subst J;split at h
   .obtain⟨rfl,rfl⟩:=h;obtain⟨N,q,u⟩:=O;simp only[Rep]at l;rcases l with⟨hn,rfl,rfl,G,rfl⟩|⟨b,cb,o,cap,R,rfl,j,Z,S⟩
    .refine .same I (v:=.slice G 0 0) ?_ ?_
     .rw[start,IX,KN k1 k2 f k 0 0 N q u (Uj _)];have e1:(f.getD 0).toNat=0:=aa;have e2:(k.getD ((0:Nat):Int)).toNat=0:=aa;simp only[Result.andThen_ok,g,e1,e2];simp
     have e1:(f.getD 0).toNat=0:=aa;have e2:(k.getD ((0:Nat):Int)).toNat=0:=aa;simp only[Rep,e1,e2];exact .inl ⟨hn,ab⟩
    refine .same I (v:=.slice (some ⟨b,if cap=(f.getD 0).toNat then o else o+(f.getD 0).toNat*z,none⟩) ((k.getD len).toNat-(f.getD 0).toNat) (cap-(f.getD 0).toNat)) ?_ ?_
    .rw[start,IX,KN k1 k2 f k len cap N q u j];simp only[Result.andThen_ok,g];split
     .simp
     simp[UV]
    simp only[Rep];refine .inr ⟨b,cb,_,_,R,rfl,aa,aa,?_⟩;split
    .rename_i hcl;right;omega
    rename_i hcl;left;rcases S with S|S
    .rw[S,Us]
    omega
   rename_i m;split at h
   .rename_i hh;simp only[Wt,Wy]at h;obtain⟨rfl,rfl⟩:=h;obtain⟨N,q,u,h3⟩:=O;simp only[Rep]at l;obtain⟨base,cap,rfl,j⟩:∃base cap,y=.slice base len cap/\len<=cap:=by
     rcases l with⟨hn,rfl,rfl,G,rfl⟩|⟨b,cb,o,cap,R,rfl,j,Z,S⟩
     .exact⟨_,_,rfl,Uj _⟩
     exact⟨_,_,rfl,j⟩
    obtain⟨r,l⟩:=Xa2 (P:=P) (w:=w) k1 k2 L f hh m len cap N q u aa;refine .same I (v:=.slice (if r.2.2=r.1 then base else base.map (·.add (r.1*z))) (r.2.1-r.1) (r.2.2-r.1)) ?_ (by simp only[Rep]);rw[start,U4,U4,l];simp only[Result.andThen_ok,g]
   cases h
  cases h
 cases h
def XjT(I:UY P C s U M β w){T E sz a b:Nat}{zz:Value}(p:Xu P T=some ⟨a,b,zz,.slice E sz⟩){te:Ow}(j:Xu P E=some te){L N O:Option Int}{k1 k2 k3:IntKind}{d d':D}{c:Prop}(h:XaB s sz L N O d=some (c,d'))(q:c){y:Value}(k:Rep P M β d y):
 VOK P C s [] U ver M β ((Instr.sliceAt T y (L.map (Value.int k1)) (N.map (Value.int k2)) (O.map (Value.int k3))).run P w) d':=by
 unfold XaB at h;split at h
 .rename_i l r;split at h
  .rename_i id v z off len;split at h
   .rename_i v' bx E' z' es fz hs;split at h
    .rename_i g;obtain⟨rfl,rfl,rfl⟩:=g;split at h
     .exact V5 I p j h q k
     simp only[Wt,Wy]at h;obtain⟨rfl,rfl⟩:=h;obtain⟨R,S,V⟩:=q;obtain⟨W,G⟩:=X4 p;have e:(sizeOf E).run P w=.ok z w:=by rw[YP j,G,XaC j]
     obtain⟨x,A,f⟩:=I.obs _ _ _ hs;simp only[Rep]at k;rcases k with⟨Y,rfl,rfl,a',rfl⟩|⟨b,cb,o,cap,u,rfl,Z,hcb,B⟩
     .rw[Y]at A;obtain rfl:=WG A;simp only[ObRep]at f;rw[f.2.1]at V;simp only[Ig]at V;refine .same I (v:=.slice a' 0 0) ?_ ?_
      .have:=JU (P:=P) (w:=w) k1 k2 l r 0 0 R S aa;simp only[Instr.sliceAt,U4,IX];simp[Instr.slice,run_underlying W,this,e];have H:l.toNat=0:=aa;have J:r.toNat=0:=aa;simp[H,J]
      have H:l.toNat=0:=aa;have J:r.toNat=0:=aa;simp only[Rep,H,J];exact .inl ⟨Y,ab⟩
     rw[u]at A;obtain rfl:=WG A;simp only[ObRep]at f;obtain⟨cs,T',_,_,_,hle,_⟩:=f;have hb:=JU (P:=P) (w:=w) k1 k2 l r len cap R S aa;refine .same I (v:=.slice (some ⟨b,if cap=l.toNat then o else o+l.toNat*z,none⟩) (r.toNat-l.toNat) (cap-l.toNat)) ?_ ?_
     .simp only[Instr.sliceAt,U4,IX];simp only[Instr.slice,run_underlying W,hb,Sem.run_bind,Result.andThen_ok,e];split<;>simp_all[UV]
     simp only[Rep];refine .inr ⟨b,cb,_,_,u,rfl,aa,aa,?_⟩;split
     .rename_i K;right;omega
     rename_i K;left;rcases B with B|B
     .rw[B,Us]
     omega
    exact V5 I p j h q k
   cases h
  exact V5 I p j h q k
 exact V5 I p j h q k
def Xgb{M:Mem}:∀{e:List D} {b o:Nat},RepC P M e b o->RepE P M (e.map λx=>[x]) b o
 |[],_,_,_=>by simp[RepE]
 |d::e,b,o,h=>by exact⟨⟨h.1,trivial⟩,Xgb h.2⟩
def XjU(I:UY P C s U M β w){T E n sz a b:Nat}{zz:Value}(p:Xu P T=some ⟨a,b,zz,.array n E sz⟩){te:Ow}(q:Xu P E=some te)(r:te.size=1)(A:0<n)(B:n<=Xy)(u:n*P.bytesOf E<=Xy){l:List D}{y:Value}(h:Rep P M β (.ipt n l 0) y):
 VOK P C s [] U ver M β ((Instr.sliceAt T y none none none).run P w) (.isl E 1 (l.map λx=>[x])):=by
 have z:=(K7 p).1;have g:(sizeOf E).run P w=.ok 1 w:=by rw[YP q,r]
 obtain⟨f,j,o,rfl,h⟩:=h;refine .same I (v:=.slice (some ⟨j,o,none⟩) n n) ?_ ?_
 .have k:¬n=0:=aa;simp[Instr.sliceAt,run_underlying,z,Instr.sureAddr,Instr.sliceBounds,g,k,UV]
 refine⟨λe G=>?_,ah,by simp only[W4,f];exact u,some ⟨j,o,none⟩,n,by simp[f],ah,.inr ⟨j,o,rfl,Xgb h⟩⟩;grind
end
variable {P:Program}
section
variable {C:Cx}{s:Heap}{U:Nat->Prop}{M:Mem}{β:Loc}{w:World}
def frz(s:Heap)(l:List Nat):Heap:=λi=>if i∈l then(s i).map Xd2 else s i
def Ze(s:Heap)(u v:Up):app s (u++v)=app (app s u) v:=by
 induction u generalizing s with
 |nil=>rfl
 |cons x u e=>exact e _
def VB(e:Heap):∀(l:List Nat) (s:Heap) (i:Nat),(∀j,s j=e j\/s j=(e j).map Xd2)->app s (XaY e l) i=if i∈l then(e i).map Xd2 else s i
 |[],s,i,_=>by rfl
 |j::l,s,i,h=>by
  unfold XaY;split
  .rename_i x g;show app (upd s j (some (Xd2 x))) (XaY e l) i=_;rw[VB e l _ i (λk=>by
    by_cases o:k=j
    .subst o;rw[YO];right;rw[g];rfl
    simp_all[Yf,o])]
   by_cases p:i∈l
   .grind
   by_cases f:i=j
   .subst f;simp[p,g,YO]
   simp[p,f,Yf]
  rw[VB e l s i h];grind
def VC(s:Heap)(l:List Nat):app s (XaY s l)=frz s l:=by funext i;rw[VB s l s i (λ_=>.inl rfl)];rfl
def Frz(s:Heap)(M:Mem)(β:Loc)(w:World)(l:List Nat):Prop:=
 ∀id∈l,∀v E z e fz b g f T,s id=some (v,.arr false E z e fz)->β id v=some (some (b,g))->w.heap[b]? = some (.cells f T (0,0))->∀o,o<e.length*z->M b o=f[o]?
open Classical in
def UY.freeze(h:UY P C s U M β w)(l:List Nat):∃M',UY P C (frz s l) U M' β w/\MLe M M'/\Frz s M' β w l:=by
 let D (b o:Nat):Prop:=∃id v E z e fz f,id∈l/\s id=some (v,.arr false E z e fz)/\β id v=some (some (b,f))/\o<e.length*z;let M':Mem:=λb o=>if D b o then w.cell? ⟨b,o,none⟩else M b o
 have S:∀{id v E z e fz b f},s id=some (v,.arr false E z e fz)->β id v=some (some (b,f))->∃k T,w.heap[b]? = some (.cells k T (0,0))/\k.size=f*z/\e.length<=f/\(∀x∈k,x.oneCell'=true)/\(∀o,M b o=if o<fz*z then k[o]? else none):=by
  intro id v E z e fz b f g hb;obtain⟨x,G,H⟩:=h.obs id v _ g;rw[hb]at G;obtain rfl:some (b,f)=x:=by simp_all
  obtain⟨k,T,k1,k2,k3,Z,k5,k6,k7,k8,k9,K⟩:=H;exact⟨k,T,k1,k2,Z,k8,k9⟩
 have p:MLe M M':=by
  intro b o x G;show(if D b o then _ else M b o)=some x;split
  .exact(h.mem b o x G).1
  omega
 have I:∀{id v E z e fz b f},id∈l->s id=some (v,.arr false E z e fz)->β id v=some (some (b,f))->∀{k T},w.heap[b]? = some (.cells k T (0,0))->∀o,M' b o=if o<e.length*z then k[o]? else none:=by
  intro id v E z e fz b f J g hb k T L o;obtain⟨cs',T',g1,g2,g3,g4,g5⟩:=S g hb;rw[L]at g1;obtain⟨rfl,rfl⟩:k=cs'/\T=T':=by simp_all
  show(if D b o then _ else M b o)=_;by_cases ho:o<e.length*z
  .rw[Wq ⟨id,v,E,z,e,fz,f,J,g,hb,ho⟩,Wq ho,cell_of_row w b o k T (0,0) L]
  rw[Wk,Wk ho,g5 o,Wk]
  .have⟨x,G,H⟩:=h.obs id v _ g;obtain rfl:some (b,f)=x:=by simp_all
   have⟨_,_,_,_,_,_,_,_,k7,_⟩:=H;have:fz*z<=e.length*z:=W5 _ k7;omega
  rintro⟨q,O,E',z',V,W,r,Y,u,A,ho'⟩;have hid:=h.inj id v _ q O _ b f r g u hb A;grind
 have R:∀b,(∀id v E z e fz f,id∈l->s id=some (v,.arr false E z e fz)->β id v≠some (some (b,f)))->∀o,M' b o=M b o:=by intro b hb o;show(if D b o then _ else M b o)=_;rw[Wk];rintro⟨q,O,E',z',V,W,r,Y,u,A,ho'⟩;exact hb q O E' z' V W r Y u A
 have N:∀id v ob,frz s l id=some (v,ob)->∃j,s id=some (v,j)/\ob.bx=j.bx/\(ob=j\/(id∈l/\∃E z e fz,j=.arr false E z e fz/\ob=.arr false E z e e.length)):=by
  intro id v ob g;unfold frz at g;split at g
  .rename_i J;simp only[Ui]at g;have⟨⟨v0,o0⟩,B,h2⟩:=g;cases o0 with
   |raw o=>simp_all[Xd2]
   |mp e=>simp_all[Xd2]
   |arr bx E z e fz=>
    cases bx with
    |true=>simp_all[Xd2]
    |false=>obtain⟨rfl,rfl⟩:=h2;exact⟨_,B,rfl,.inr ⟨J,_,_,_,_,rfl,rfl⟩⟩
  simp_all
 refine⟨M',?_,p,λid J v E z e fz b f k T g hb L o ho=>by rw[I J g hb L,Wq ho]⟩;constructor
 .intro b o x G;have hx':(if D b o then w.cell? ⟨b,o,none⟩else M b o)=some x:=G;split at hx'
  .grind
  exact h.mem b o x hx'
 .exact h.used
 .intro id v ob g;have⟨j,B,_,h2⟩:=N id v ob g;have⟨x,G,H⟩:=h.obs id v j B;refine⟨x,G,?_⟩;rcases h2 with rfl|⟨J,E,z,e,fz,rfl,rfl⟩
  .by_cases hf:id∈l/\∃E z e fz,ob=.arr false E z e fz
   .obtain⟨J,E,z,e,fz,rfl⟩:=hf;cases x with
    |none=>assumption
    |some bc=>
     have⟨k,T,k1,k2,k3,Z,k5,k6,k7,k8,k9,K⟩:=H;have hlen:fz=e.length:=by have:=g;unfold frz at this;rw[Wq J,B]at this;simp[Xd2]at this;omega
     subst hlen;exact⟨k,T,k1,k2,k3,Z,k5,k6,k7,k8,λo=>I J B G k1 o,λi d hd=>by
      have⟨y,hy,H⟩:=K i d hd
      exact⟨y,hy,H.mono p (BLe.refl _)⟩⟩
   refine H.mono p (BLe.refl _) (λ_ _ _=>rfl) ?_;rintro b f rfl o;refine R b ?_ o;rintro q O E' z' V W r Y u A;have hid:=h.inj id v _ q O _ b f r B u G A;grind
  cases x with
  |none=>simp_all[ObRep]
  |some bc=>
   have⟨k,T,k1,k2,k3,Z,k5,k6,k7,k8,k9,K⟩:=H;exact⟨k,T,k1,k2,k3,Z,k5,k6,Uj _,k8,λo=>I J B G k1 o,λi d hd=>by
    have⟨y,hy,H⟩:=K i d hd
    exact⟨y,hy,H.mono p (BLe.refl _)⟩⟩
 .intro id v ob b f g hb;have⟨j,B,h2,_⟩:=N id v ob g;rw[h2];exact h.own id v j b f B hb
 .intro id v ob q O ob' b f r g u hb A;have⟨j,B,_⟩:=N id v ob g;have⟨ob0',h1',_⟩:=N q O ob' u;exact h.inj id v j q O ob0' b f r B h1' hb A
 .exact h.keep
 .intro b o hb;rw[R b ?_ o]
  .exact h.old b o hb
  intro id v E z e fz f J g hbb;rcases h.own id v _ b f g hbb with B|B
  .omega
  simp_all[Ob.bx]
 .exact h.le.trans p
 exact h.glob
mutual
def snap_rep{M':Mem}(I:UY P C s U M β w)(r:MLe M M'):∀{d d':D} {c:Prop} {l:List Nat},snap s d=some (c,d',l)->c->Frz s M' β w l->∀{y:Value},Rep P M β d y->Rep P M' Yx d' y
 |.osl id ver z off len,d',c,l,h,p,g,y,f=>by
  unfold snap at h;split at h
  .rename_i v' E z' A fz hs;split at h
   .rename_i hv;have⟨rfl,rfl⟩:=hv;obtain⟨rfl,rfl,rfl⟩:=h;have q:((A.drop off).take len).length=len:=by simp;omega
    have⟨x,J,L⟩:=I.obs id ver _ hs;rcases f with⟨hn,rfl,rfl,a,rfl⟩|⟨b,cb,o,cap,hb,rfl,G,hcb,ho⟩
    .exact⟨ab,by simp[Xy],by simp[Xy],a,0,ab,ab,.inl ab⟩
    rw[hb]at J;obtain rfl:some (b,cb)=x:=by simpa using J
    have⟨K,T,k1,k2,N,k4,k5,k6,k7,k8,k9,O⟩:=L;have u:∀e∈(A.drop off).take len,e.length=z:=λe B=>N e (WS (WY B));have hmul:len*P.bytesOf E<=A.length*P.bytesOf E:=W5 _ aa;refine⟨u,aa,by rw[q];omega,_,cap,by rw[q],by rw[q];exact G,?_⟩;rcases Uf len with h0|h0
    .left;exact WN (by rw[q];exact h0)
    right;have R:o=off*z:=by rcases ho with h|h;exact h;omega
    subst R;refine⟨b,off*z,rfl,RepE.of (z:=z) u λi e B=>RepC.of λj d hd=>?_⟩;rw[VA]at B;split at B
    .have hj:j<z:=by
      have:=N e (Ue B);rcases Ur j z with h|h
      .exact h
      rw[W3 aa]at hd;cases hd
     have⟨x,J,S⟩:=O ((off+i)*z+j) d (by rw[JT N _ _ hj,Wr,B];exact hd);have V:(off+i)*z+j<A.length*z:=by have:(off+i+1)*z<=A.length*z:=W5 _ aa;rw[IB]at this;omega
     have hm:=g id ab ver E z A fz b cb K T hs hb k1 _ V;refine⟨x,?_,S.mono r (BLe.refl _)⟩;rw[←J,←hm,Us]
    cases B
   cases h
  simp_all
 |.agg K,d',c,l,h,p,g,y,f=>by
  unfold snap at h;split at h
  .rename_i c' ds l' H;obtain⟨rfl,rfl,rfl⟩:=h;simp only[Rep]at f⊢;obtain⟨W,e,f⟩:=f;exact⟨W,e,Ku I r H p g f⟩
  simp_all
 |.tup K,d',c,l,h,p,g,y,f=>by
  unfold snap at h;split at h
  .rename_i c' ds l' H;simp only[Wt,Wy]at h;obtain⟨rfl,rfl,rfl⟩:=h;simp only[Rep]at f⊢;obtain⟨W,e,f⟩:=f;exact⟨W,e,Ku I r H p g f⟩
  simp_all
 |.clo fn a b,d',c,l,h,p,g,y,f=>by
  unfold snap at h;split at h
  .rename_i c1 a' l1 c2 b' l2 h1 h2;simp only[Wt,Wy]at h;obtain⟨rfl,rfl,rfl⟩:=h;simp only[Rep]at f⊢;obtain⟨va,vb,e,Y,Z⟩:=f;exact⟨va,vb,e,Ku I r h1 p.1 (λi hi=>g i (W6 _ hi)) Y,Ku I r h2 p.2 (λi hi=>g i (Ug _ hi)) Z⟩
  simp_all
 |.ifc t d,d',c,l,h,p,g,y,f=>by
  unfold snap at h;split at h
  .rename_i c' e l' H;simp only[Wt,Wy]at h;obtain⟨rfl,rfl,rfl⟩:=h;simp only[Rep]at f⊢;obtain⟨x,e,f⟩:=f;exact⟨x,e,snap_rep I r H p g f⟩
  simp_all
 |.any,d',c,l,h,p,g,y,f=>by grind[snap,Wt,Wy,Rep]
 |.v x,d',c,l,h,p,g,y,f=>by grind[snap,Wt,Wy,Rep]
 |.nsl,d',c,l,h,p,g,y,f=>by grind[snap,Wt,Wy,Rep]
 |.isl E z A,d',c,l,h,p,g,y,f=>by simp only[snap,Wt,Wy]at h;obtain⟨rfl,rfl,rfl⟩:=h;have:=f.mono (β':=β) r (BLe.refl _);assumption
 |.ipt z K k,d',c,l,h,p,g,y,f=>by simp only[snap,Wt,Wy]at h;obtain⟨rfl,rfl,rfl⟩:=h;have:=f.mono (β':=β) r (BLe.refl _);assumption
 |.ept ..,d',c,l,h,_,_,_,_=>by simp_all[snap]
 |.fsl ..,d',c,l,h,_,_,_,_=>by simp_all[snap]
 |.fmp ..,d',c,l,h,_,_,_,_=>by simp_all[snap]
 |.omp ..,d',c,l,h,_,_,_,_=>by simp_all[snap]
def Ku{M':Mem}(I:UY P C s U M β w)(u:MLe M M'):∀{j f:List D} {c:Prop} {l:List Nat},ZO s j=some (c,f,l)->c->Frz s M' β w l->∀{g:List Value},RepL P M β j g->RepL P M' Yx f g
 |[],f,c,l,h,k,o,g,v=>by simp_all[ZO,Wt,Wy,RepL]
 |d::j,f,c,l,h,k,o,g,v=>by
  unfold ZO at h;split at h
  .rename_i B e G H J K y z;obtain⟨rfl,rfl,rfl⟩:=h;have⟨x,A,e,p,q⟩:=v;exact⟨x,A,e,snap_rep I u y k.1 (λi r=>o i (W6 _ r)) p,Ku I u z k.2 (λi r=>o i (Ug _ r)) q⟩
  simp_all
end
def Xeg{M':Mem}(I:UY P C s U M β w)(v:MLe M M'):∀{g f:List (Nat×D)} {c:Prop} {l:List Nat},Vz s g=some (c,f,l)->c->Frz s M' β w l->∀{j:List Value},RepL P M β (g.map (·.2)) j ->
 RepL P M' Yx (f.map (·.2)) j/\f.map (·.1)=g.map (·.1)
 |[],f,c,l,h,k,o,j,p=>by simp_all[Vz,Wt,Wy,RepL]
 |(i,d)::g,f,c,l,h,k,o,j,p=>by
  unfold Vz at h;split at h
  .rename_i G e H J K L z A;obtain⟨rfl,rfl,rfl⟩:=h;simp at p⊢;have⟨x,B,e,q,r⟩:=p;have y:=Xeg I v A k.2 (λi u=>o i (Ug _ u)) r;exact⟨⟨x,B,e,snap_rep I v z k.1 (λi u=>o i (W6 _ u)) q,y.1⟩,by rw[y.2]⟩
  simp_all
end
open Go.MapKept
variable {P:Program}
section
variable {C:Cx}{s:Heap}{U:Nat->Prop}{ver:Nat}{M:Mem}{β:Loc}{w:World}
def Kv{T:TypeId}{k:IntKind}{E:TypeId}(h:XaZ P T=some (k,E)):∃K,P.underlying T=some (.map K E)/\P.underlying K=some (.int k):=by unfold XaZ at h;grind
def Xb7(k:IntKind)(a b:Int):Instr.sameNow (.int k) (.int k a) (.int k b)=some (a==b):=by simp[Instr.sameNow]
def Xa3{k:IntKind}(n:Int):∀(l:List MapEntry) (f:List (Int×D)) (i:Nat),EntL P M k l f ->
 (Xd4 f n=none/\Xam f n=f/\(∀d,Xa0 f n d=f++[(n,d)])/\Instr.findNow (.int k) (.int k n) l i=some none) \/
 ∃j e d,Xd4 f n=some d/\Instr.findNow (.int k) (.int k n) l i=some (some (i+j,e.val))/\l[j]? = some e/\e.key=.int k n/\Rep P M Yx d e.val /\
  (∀p g,p.key=.int k n->Rep P M Yx g p.val->EntL P M k (l.set j p) (Xa0 f n g))/\EntL P M k (l.eraseIdx j) (Xam f n)/\(∀g,(Xa0 f n g).length=f.length)/\(Xam f n).length<=f.length
 |[],f,i,h=>by subst h;exact .inl ⟨rfl,rfl,λ_=>rfl,rfl⟩
 |e::l,f,i,h=>by
  obtain⟨x,d,q,rfl,v,G,z⟩:=h;by_cases o:n=x
  .subst o;refine .inr ⟨0,e,d,by simp[Xd4],?_,rfl,v,G,λp g r u=>?_,?_,λg=>by simp[Xa0],by simp[Xam]⟩
   .simp[Instr.findNow,v,Xb7]
   .simp only[Ip,Xa0,if_true,EntL];exact⟨n,g,q,rfl,r,u,z⟩
   simp_all[Xam]
  have A:Instr.sameNow (.int k) (.int k n) e.key=some false:=by rw[v,Xb7];simp[o]
  rcases Xa3 n l q (i+1) z with⟨r,u,B,y⟩|⟨j,p,g,r,u,B,y,H,L,N,I,J⟩
  .simp[Xd4,o,r,Xam,u,Xa0,B,Instr.findNow,A,y]
  refine .inr ⟨j+1,p,g,by simp[Xd4,o,r],by simp[Instr.findNow,A,u];omega,ag,y,H,λO K g1 g2=>?_,?_,λK=>by simp[Xa0,o,I],by simp[Xam,o,J]⟩
  .simp only[List.set_cons_succ,Xa0,Wk o,EntL];grind
  simp only[List.eraseIdx_cons_succ,Xam,Wk o,EntL];grind
def EntL.push{k:IntKind}{g:MapEntry}{n:Int}{j:D}(o:g.key=.int k n)(p:Rep P M Yx j g.val):∀{l:List MapEntry} {f:List (Int×D)},EntL P M k l f->EntL P M k (l++[g]) (f++[(n,j)])
 |[],f,h=>by grind[EntL,Uk]
 |e::l,f,h=>by obtain⟨x,d,q,rfl,r,u,v⟩:=h;exact⟨x,d,_,rfl,r,u,EntL.push o p v⟩
def UY.setMap(I:UY P C s U M β w){id ver:Nat}{k:IntKind}{r es':List (Int×D)}(f:s id=some (ver,.mp k r)){b u:Nat}(hb:β id ver=some (some (b,u))){ents ents':Array MapEntry}{clock clock':Nat}(z:w.heap[b]? = some (.map ents clock))(A:es'.length<=Xy)(B:EntL P M k ents'.toList es')(hp:(ents'.toList.map (·.born)).Pairwise (·<·))(G:∀e∈ents'.toList,e.born<clock'):
 UY P C (upd s id (some (ver,.mp k es'))) U M β {w with heap:=w.heap.setIfInBounds b (.map ents' clock')}:=by
 have⟨x,H,J⟩:=I.obs id ver _ f;obtain rfl:some (b,u)=x:=by simp_all
 obtain⟨rfl,_,K,_⟩:=J;have⟨g1,g2⟩:=heap_set (o':=.map ents' clock') z
 have:=I.set (M':=M) (β':=β) (w':={w with heap:=w.heap.setIfInBounds b (.map ents' clock')}) id ver (.mp k es') b 0 (MLe.refl M) (BLe.refl β) g2 (λ_ _ _=>rfl)
  (λo x H=>by simp_all) hb ⟨rfl,A,K,ents',clock',g1,B,hp,G⟩ (λg L h j l p q=>l (I.inj g L h id ver _ b j 0 p f q hb))
  (I.own id ver (.mp k r) b 0 f hb:_\/(_/\false=true)) (λ_ _=>rfl) rfl rfl rfl ab (λ_ _ _ e=>.inl e)
 exact this.mono λv y=>by
  rcases y with y|rfl
  .omega
  exact I.used id _ _ hb
def XhL(I:UY P C s U M β w)(G:¬U ver){dst:Option Tmp}{type:TypeId}{pos:String}{after:Array Edge}{guard:Option (Nat×Bool)}(ρ:Operand->Value)(t:Operand->D)(hρ:∀x,Rep P M β (t x) (ρ x)){c:Prop}{d:D}{u:Up}(T:TypeId)(r:Option Operand)(h:opF P dst ver t s (.makeMap T r)=some (c,d,u))(_hc:c):OpOK P C s u U ver M β ((execOp ρ ⟨dst,.makeMap T r,type,pos,after,guard⟩).run P w) d:=by
 unfold execOp;simp only[opF]at h;split at h
 .rename_i k E l H J;obtain⟨rfl,rfl,rfl⟩:=h;have⟨K,p,L⟩:=Kv H;have g:(Instr.makeMap T (r.map ρ)).run P w=.ok (.map (some w.heap.size)) (w.alloc (.map #[] 0)):=by
   obtain⟨k1,N⟩:=Ve hρ J;rw[N];cases l with
   |none=>simp[Instr.makeMap]
   |some n=>simp[Instr.makeMap,run_underlying p,asInt,asIntOf]
  have O:=I.fresh G (KV dst);have A:BLe β (Zx β (KV dst) ver (some (w.heap.size,0))):=Zd O;have e:∀o,M w.heap.size o=none:=by
   intro o;cases f:M w.heap.size o with
   |none=>rfl
   |some x=>exact absurd (I.mem.lt f) (Ib _)
  have⟨g1,g2⟩:=heap_alloc w (.map #[] 0)
  have I':=I.set (M':=M) (β':=Zx β (KV dst) ver (some (w.heap.size,0))) (w':=w.alloc (.map #[] 0)) (KV dst) ver (.mp k []) w.heap.size 0 (MLe.refl M) A
   (λj R=>by
    show(w.heap.push _)[j]? = _
    rw[Array.getElem?_push,Wk R]) (λ_ _ _=>rfl) (λo x f=>by rw[e o]at f;cases f) (XM ..)
   ⟨rfl,ab,e,#[],0,g1,by simp[EntL],ab,ab⟩
   (λq S v z _ V f=>by
    have⟨y,B,W⟩:=I.obs q S v V
    rw[f]at B
    obtain rfl:some (w.heap.size,z)=y:=by simpa using B
    exact absurd W.lt (Ib _))
   (.inl I.keep.size) (λY=>absurd I.keep.size aa) rfl rfl rfl ab Zm
  exact VOK.op (sem:=Instr.makeMap T (r.map ρ)) ⟨M,_,_,_,g,I',by exact⟨_,_,XM ..,rfl⟩,MLe.refl _,A⟩
 simp_all
def Xfa(n:Nat)(k:IntKind)(a:Int):Instr.sameBits n (.int k a) (.int k a)=true:=by simp[Instr.sameBits]
def V6(k:IntKind)(n:Int):IsKey (.int k) (.int k n):=by rfl
def XiT(I:UY P C s U M β w){T:TypeId}{m key x:D}{Z vk g:Value}{c:Prop}{d:D}{u:Up}(h:XhJ P s T m key x=some (c,d,u))(hc:c)(hm:Rep P M β m Z)(hk:Rep P M β key vk)(hx:Rep P M β x g):
 ∃M' w',(Instr.mapUpdate T Z vk g).run P w=.ok () w'/\d=.v undef/\UY P C (app s u) U M' β w'/\MLe M M':=by
 unfold XhJ at h;split at h
 .rename_i k E id v k' n hT;split at h
  .rename_i v' k2 es hs;split at h
   .rename_i cc dd l L;split at h
    .rename_i p;have⟨rfl,rfl,rfl,hl⟩:=p;obtain⟨rfl,rfl,rfl⟩:=h;have⟨N,hlen⟩:=hc;have⟨K,O,A⟩:=Kv hT;have⟨M',I',R,hF⟩:=I.freeze l;have B:=snap_rep I R L N hF hx;have q:frz s l id=some (v,.mp k es):=by unfold frz;rw[Wk hl];exact hs
     obtain⟨b,cb,hb,rfl⟩:=hm;obtain⟨rfl,hwk⟩:=hk;have⟨x0,G,S⟩:=I'.obs id v _ q;rw[hb]at G;obtain rfl:some (b,cb)=x0:=by simpa using G
     obtain⟨rfl,h1,h2,ents,clock,H,h4,h5,J⟩:=S;have start:∀a,Instr.findNow (.int k) (.int k n) ents.toList 0=some a->(Instr.mapUpdate T (.map (some b)) (.int k n) g).run P w =
      ((match a with
       |some (i,_)=>do
        let key ←Instr.keyThatStays (((ents[i]?).map (·.key)).getD (.int k n)) (.int k n)
        setObj b (.map (ents.modify i λe=>{e with key,val:=g}) clock)
       |none=>setObj b (.map (ents.push {key:=.int k n,val:=g,born:=clock}) (clock+1)):Sem Unit)).run P w:=by
      intro a V
      unfold Instr.mapUpdate
      simp only[Sem.run_bind,run_underlying O,Result.andThen_ok,Go.MapKept.run_getObj_map H,run_checkKey A (V6 k n),run_findKey A V]
      cases a<;>rfl
     rcases Xa3 n ents.toList es 0 h4 with⟨g1,g2,g3,g4⟩|⟨j,e,d0,g1,g2,g3,g4,g5,g6,g7,g8,g9⟩
     .refine⟨M',{w with heap:=w.heap.setIfInBounds b (.map (ents.push {key:=.int k n,val:=g,born:=clock}) (clock+1))},?_,rfl,?_,R⟩
      .rw[start _ g4];exact Go.MapKept.run_setObj_map _ H
      rw[Ze,VC,g3 dd];refine I'.setMap q hb H ah (by simpa using EntL.push rfl (B) h4) ?_ ?_
      .simp;rw[I8];refine⟨h5,ab,λa V b hb=>?_⟩;simp at hb;subst hb;obtain⟨e,z,rfl⟩:=UM.1 V;exact J e z
      intro e z;simp only[Array.toList_push,WH,US]at z;rcases z with z|rfl
      .exact Nat.lt_succ_of_lt (J e z)
      exact WA _
     have hj:j<ents.size:=by
      rcases Ur j ents.size with W|W
      .exact W
      rw[W3 (by exact W)]at g3;cases g3
     have Y:ents[j]? = some e:=by simpa using g3
     have f:(ents.modify j λe=>{e with key:=.int k n,val:=g}).toList=ents.toList.set j {e with key:=.int k n,val:=g}:=by
      refine List.ext_getElem? λi=>?_;rw[Array.toList_modify,List.getElem?_modify,IC];split
      .rename_i r;subst r;rw[g3,Wq (by exact hj)];rfl
      cases ents.toList[i]?<;>rfl
     refine⟨M',{w with heap:=w.heap.setIfInBounds b (.map (ents.modify j λe=>{e with key:=.int k n,val:=g}) clock)},?_,rfl,?_,R⟩
     .rw[start _ g2];simp only[UG,Y,U4,U5,g4,Instr.keyThatStays,Xfa,if_true,Sem.run_bind,Sem.run_pure,Result.andThen_ok];exact Go.MapKept.run_setObj_map _ H
     rw[Ze,VC];have y:(ents.toList.set j {e with key:=.int k n,val:=g}).map (·.born)=ents.toList.map (·.born):=by
      rw[List.map_set];refine List.ext_getElem? λi=>?_;rw[IC];split
      .rename_i r;subst r;rw[Wq (by simpa using hj),I6,g3];rfl
      rfl
     refine I'.setMap q hb H (by rw[g8];exact h1) (by rw[f];exact g6 _ dd rfl B) (by rw[f,y];exact h5) ?_;intro e' o;rw[f]at o;rcases UC o with o|rfl
     .exact J e' o
     exact J e (Ue g3)
    cases h
   cases h
  cases h
 simp_all
def Xfb(I:UY P C s U M β w)(_hv:¬U ver){dst:Option Tmp}{type:TypeId}{pos:String}{after:Array Edge}{guard:Option (Nat×Bool)}(ρ:Operand->Value)(t:Operand->D)(hρ:∀x,Rep P M β (t x) (ρ x)){c:Prop}{d:D}{u:Up}(T:TypeId)(m key x:Operand)(h:opF P dst ver t s (.mapUpdate T m key x)=some (c,d,u))(e:c):OpOK P C s u U ver M β ((execOp ρ ⟨dst,.mapUpdate T m key x,type,pos,after,guard⟩).run P w) d:=by unfold execOp;obtain⟨M',f,g,rfl,j,k⟩:=XiT I h e (hρ m) (hρ key) (hρ x);exact⟨M',β,f,undef,.inr ⟨by simp[g],rfl⟩,j.mono λ_ h=>.inl h,by simp[Rep,wfV,undef],k,BLe.refl _⟩
def XjV(I:UY P C s U M β w)(_hv:¬U ver){dst:Option Tmp}{type:TypeId}{pos:String}{after:Array Edge}{guard:Option (Nat×Bool)}(ρ:Operand->Value)(t:Operand->D)(hρ:∀x,Rep P M β (t x) (ρ x)){c:Prop}{d:D}{u:Up}(T:TypeId)(m key x:Operand)(h:opF P dst ver t s (.insert T m key x)=some (c,d,u))(e:c):OpOK P C s u U ver M β ((execOp ρ ⟨dst,.insert T m key x,type,pos,after,guard⟩).run P w) d:=by unfold execOp;obtain⟨M',f,g,rfl,j,k⟩:=XiT I h e (hρ m) (hρ key) (hρ x);exact⟨M',β,f,undef,.inr ⟨by simp[g],rfl⟩,j.mono λ_ h=>.inl h,by simp[Rep,wfV,undef],k,BLe.refl _⟩
def XjW(I:UY P C s U M β w)(_hv:¬U ver){dst:Option Tmp}{type:TypeId}{pos:String}{after:Array Edge}{guard:Option (Nat×Bool)}(ρ:Operand->Value)(t:Operand->D)(hρ:∀x,Rep P M β (t x) (ρ x)){c:Prop}{d:D}{u:Up}(T:TypeId)(m key:Operand)(ok:Bool)(h:opF P dst ver t s (.lookup T m key ok)=some (c,d,u))(_hc:c):OpOK P C s u U ver M β ((execOp ρ ⟨dst,.lookup T m key ok,type,pos,after,guard⟩).run P w) d:=by
 unfold execOp;simp only;simp only[opF]at h;split at h
 .rename_i k E id v W n B G H;split at h
  .rename_i Y k2 J te L N;split at h
   .rename_i f;have⟨rfl,rfl,rfl⟩:=f;obtain⟨rfl,rfl,rfl⟩:=h;have⟨K,q,g⟩:=Kv B;have l:=hρ m;have o:=hρ key;rw[G]at l;rw[H]at o;have⟨b,O,hb,r⟩:=l;have⟨x0,p,z⟩:=I.obs id v _ L;rw[hb]at p;obtain rfl:some (b,O)=x0:=by simpa using p
    obtain⟨rfl,Z,h2,ents,clock,R,S,h5,h6⟩:=z;rw[r,o.1];have start:∀a,Instr.findNow (.int k) (.int k n) ents.toList 0=some a->(Instr.lookup T (.map (some b)) (.int k n) ok).run P w =
     .ok (if ok then .tuple #[(match a with|some (_,v)=>v|none=>te.zero),.bool a.isSome]else(match a with|some (_,v)=>v|none=>te.zero)) w:=by
     intro a V
     unfold Instr.lookup
     simp only[Sem.run_bind,run_underlying q,Result.andThen_ok,Go.MapKept.run_getObj_map R,Sem.run_pure,run_checkKey g (V6 k n),run_findKey g V]
     cases a with
     |none=>simp[KC N]
     |some y=>simp
    rcases Xa3 n ents.toList J 0 S with⟨g1,g2,g3,g4⟩|⟨j,e,d0,g1,g2,g3,g4,g5,g6,g7,g8,g9⟩
    .refine VOK.op (.same I (start _ g4) ?_);rw[g1];cases ok with
     |true=>exact⟨_,rfl,_,_,rfl,V3 _,_,_,rfl,⟨rfl,trivial⟩,rfl⟩
     |false=>exact V3 _
    refine VOK.op (.same I (start _ g2) ?_);rw[g1];have A:=g5.mono (MLe.refl M) (BLe.zero β);cases ok with
    |true=>exact⟨_,rfl,_,_,rfl,A,_,_,rfl,⟨rfl,trivial⟩,rfl⟩
    |false=>exact A
   cases h
  cases h
 simp_all
end
end Go.Sx
