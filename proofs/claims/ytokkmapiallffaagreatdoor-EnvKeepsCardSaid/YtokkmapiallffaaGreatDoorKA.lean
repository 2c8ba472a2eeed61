import GoSem.Core.View
import Derived.Deep.LoopGhost
import Derived.Orders
import Derived.Below
import Derived.Laws.CopyRow
import Derived.Laws.AppendOwn
import Derived.Laws.MakeOwn
import Derived.Laws.OwnMore
import Derived.Laws.StructEq
import Derived.Laws.Tables
import Derived.Laws.Rows
import Derived.ChangeKeysEq
import Derived.MapKept
set_option linter.all false
namespace Go.Sx
theorem ab{P:Prop}(h:P:=by omega):P:=h
theorem ac{P:Prop}(h:P:=by simp):P:=h
theorem ae{P:Prop}(h:P:=by kernel_rfl):P:=h
theorem ag{P:Prop}(h:P:=by decide):P:=h
theorem ah{P:Prop}(h:P:=by assumption):P:=h
theorem ai{P:Prop}(h:P:=by simp;omega):P:=h
def Wa{α:Type _}(a b:α):(bif false then a else b)=b:=rfl
def Wc{α:Type _}(a b:α):(bif true then a else b)=a:=rfl
def Wb:type_of% @List.getElem?_eq_getElem:=@List.getElem?_eq_getElem
def We:type_of% @decide_eq_false:=@decide_eq_false
def Wg:type_of% @decide_eq_true:=@decide_eq_true
def Wi:type_of% @Bool.not_true:=@Bool.not_true
def Wj:type_of% @if_neg:=@if_neg
def Wk:type_of% @List.getD_eq_getElem?_getD:=@List.getD_eq_getElem?_getD
def Wl:type_of% @List.drop_eq_getElem_cons:=@List.drop_eq_getElem_cons
def Wm:type_of% @if_pos:=@if_pos
theorem Wo:type_of% @Option.some.injEq:=@Option.some.injEq
def Wr:type_of% @List.mem_append:=@List.mem_append
def Ws:type_of% @List.length_take:=@List.length_take
def Wt:type_of% @List.getElem_mem:=@List.getElem_mem
def Wv:type_of% @List.getElem_of_mem:=@List.getElem_of_mem
def Ww:type_of% @of_decide_eq_true:=@of_decide_eq_true
theorem Wx:type_of% @Prod.mk.injEq:=@Prod.mk.injEq
def Wz:type_of% @Option.some.inj:=@Option.some.inj
theorem WA:type_of% @List.length_drop:=@List.length_drop
def WG:type_of% @List.eq_nil_of_length_eq_zero:=@List.eq_nil_of_length_eq_zero
def WH:type_of% @Bool.and_eq_true:=@Bool.and_eq_true
def WI:type_of% @List.mem_map:=@List.mem_map
theorem WK:type_of% @List.length_append:=@List.length_append
theorem WL:type_of% @List.length_set:=@List.length_set
def WM:type_of% @of_decide_eq_false:=@of_decide_eq_false
def WN:type_of% @List.getElem?_eq_none:=@List.getElem?_eq_none
def WQ:type_of% @List.mem_of_mem_take:=@List.mem_of_mem_take
def WR:type_of% @List.mem_of_mem_drop:=@List.mem_of_mem_drop
def WT:type_of% @List.mem_cons_of_mem:=@List.mem_cons_of_mem
def WU:type_of% @List.mem_append_left:=@List.mem_append_left
def WV:type_of% @List.all_eq_true:=@List.all_eq_true
def WW:type_of% @Int.mul_le_mul_of_nonneg_right:=@Int.mul_le_mul_of_nonneg_right
def WX:type_of% @List.drop_zero:=@List.drop_zero
def WY:type_of% @List.mem_filter:=@List.mem_filter
def WZ:type_of% @List.drop_eq_nil_of_le:=@List.drop_eq_nil_of_le
def W0:type_of% @List.mem_or_eq_of_mem_set:=@List.mem_or_eq_of_mem_set
def W4:type_of% @List.append_assoc:=@List.append_assoc
def W5:type_of% @List.mem_of_getElem?:=@List.mem_of_getElem?
def W7:type_of% @List.pairwise_iff_getElem:=@List.pairwise_iff_getElem
theorem W8:type_of% @List.nil_append:=@List.nil_append
theorem W9:type_of% @List.length_replicate:=@List.length_replicate
def Ua:type_of% @Nat.mul_le_mul_right:=@Nat.mul_le_mul_right
def Ub:type_of% @Bool.not_false:=@Bool.not_false
def Uc:type_of% @List.mem_singleton:=@List.mem_singleton
def Ud:type_of% @List.getElem?_append_right:=@List.getElem?_append_right
def Uf:type_of% @Bool.true_and:=@Bool.true_and
def Ug:type_of% @List.length_map:=@List.length_map
def Uh:type_of% @Nat.le_refl:=@Nat.le_refl
def Ui:type_of% @List.mem_append_right:=@List.mem_append_right
def Uk:type_of% @List.getElem?_append_left:=@List.getElem?_append_left
theorem Ul:type_of% @List.length_cons:=@List.length_cons
def Um:type_of% @Nat.eq_zero_or_pos:=@Nat.eq_zero_or_pos
def Uo:type_of% @Option.map_eq_some_iff:=@Option.map_eq_some_iff
def Uq:type_of% @List.filter_cons_of_pos:=@List.filter_cons_of_pos
def Ur:type_of% @List.getElem?_take:=@List.getElem?_take
def Uu:type_of% @Int.le_refl:=@Int.le_refl
def Ux:type_of% @Nat.lt_or_ge:=@Nat.lt_or_ge
def Uy:type_of% @List.take_of_length_le:=@List.take_of_length_le
def Uz:type_of% @Nat.add_mul:=@Nat.add_mul
theorem UA:type_of% @List.map_cons:=@List.map_cons
def UC:type_of% @List.filter_cons_of_neg:=@List.filter_cons_of_neg
def UE:type_of% @Nat.zero_add:=@Nat.zero_add
def UF:type_of% @Nat.min_self:=@Nat.min_self
def UG:type_of% @List.contains_iff_mem:=@List.contains_iff_mem
def UI:type_of% @List.map_append:=@List.map_append
theorem UJ:type_of% @List.findIdx?_eq_some_iff_getElem:=@List.findIdx?_eq_some_iff_getElem
def UK:type_of% @Bool.false_and:=@Bool.false_and
def UL:type_of% @Nat.le_trans:=@Nat.le_trans
def UM:type_of% @Bool.cond_decide:=@Bool.cond_decide
def UN:type_of% @List.getElem?_drop:=@List.getElem?_drop
def UP:type_of% @Int.eq_ofNat_of_zero_le:=@Int.eq_ofNat_of_zero_le
def UQ:type_of% @Nat.lt_succ_self:=@Nat.lt_succ_self
def UR:type_of% @List.countP_eq_length_filter:=@List.countP_eq_length_filter
def US:type_of% @List.getElem?_map:=@List.getElem?_map
def UT:type_of% @List.nodup_append:=@List.nodup_append
def UV:type_of% @List.drop_set_of_lt:=@List.drop_set_of_lt
def UW:type_of% @Int.tdiv_eq_ediv_of_nonneg:=@Int.tdiv_eq_ediv_of_nonneg
def UZ:type_of% @Option.map_some:=@Option.map_some
def U0:type_of% @Int.add_mul:=@Int.add_mul
def U2:type_of% @Array.getElem?_toList:=@Array.getElem?_toList
def U5:type_of% @List.getElem?_set:=@List.getElem?_set
def U6:type_of% @Nat.sub_self:=@Nat.sub_self
def U8:type_of% @List.pairwise_cons:=@List.pairwise_cons
def U9:type_of% @List.countP_cons:=@List.countP_cons
def Ia:type_of% @List.getElem?_eq_some_iff:=@List.getElem?_eq_some_iff
def Ib:type_of% @Array.length_toList:=@Array.length_toList
def Ic:type_of% @Bool.not_eq_true':=@Bool.not_eq_true'
def Ie:type_of% @List.getElem?_toArray:=@List.getElem?_toArray
def If:type_of% @List.take_append_drop:=@List.take_append_drop
def Ig:type_of% @List.mem_cons:=@List.mem_cons
def Ih:type_of% @List.append_nil:=@List.append_nil
def Ii:type_of% @Option.getD_some:=@Option.getD_some
def Ij:type_of% @List.getElem?_cons_succ:=@List.getElem?_cons_succ
def Il:type_of% @List.map_nil:=@List.map_nil
def Im:type_of% @List.take_add_one:=@List.take_add_one
def In:type_of% @List.filter_eq_self:=@List.filter_eq_self
def Ip:type_of% @Bool.or_eq_true:=@Bool.or_eq_true
def Iq:type_of% @Nat.div_lt_iff_lt_mul:=@Nat.div_lt_iff_lt_mul
def Ir:type_of% @Bool.false_eq_true:=@Bool.false_eq_true
def Iu:type_of% @Bool.false_or:=@Bool.false_or
def Iw:type_of% @List.getElem?_replicate:=@List.getElem?_replicate
def Ix:type_of% @decide_eq_false_iff_not:=@decide_eq_false_iff_not
def Iy:type_of% @List.getElem_take:=@List.getElem_take
def Iz:type_of% @List.pairwise_map:=@List.pairwise_map
def IA:type_of% @List.foldl_cons:=@List.foldl_cons
def IE:type_of% @Nat.lt_irrefl:=@Nat.lt_irrefl
def IG:type_of% @List.ext_getElem:=@List.ext_getElem
def IH:type_of% @List.set_cons_zero:=@List.set_cons_zero
def II:type_of% @List.mem_replicate:=@List.mem_replicate
def IJ:type_of% @List.filter_append:=@List.filter_append
def IK:type_of% @BitVec.toNat_ofNat:=@BitVec.toNat_ofNat
def IL:type_of% @Int.tmod_eq_emod_of_nonneg:=@Int.tmod_eq_emod_of_nonneg
def IM:type_of% @Nat.add_sub_cancel:=@Nat.add_sub_cancel
def IO:type_of% @List.set_append_right:=@List.set_append_right
def IP:type_of% @List.findIdx?_eq_none_iff:=@List.findIdx?_eq_none_iff
def IQ:type_of% @List.length_nil:=@List.length_nil
def IR:type_of% @Nat.succ_mul:=@Nat.succ_mul
def IS:type_of% @Nat.zero_le:=@Nat.zero_le
def IT:type_of% @Nat.add_zero:=@Nat.add_zero
def IU:type_of% @List.map_map:=@List.map_map
def IV:type_of% @Nat.le_succ_of_le:=@Nat.le_succ_of_le
def IW:type_of% @List.getElem_drop:=@List.getElem_drop
def IX:type_of% @List.cons.inj:=@List.cons.inj
def IY:type_of% @List.map_congr_left:=@List.map_congr_left
def IZ:type_of% @List.take_set_of_le:=@List.take_set_of_le
def I5:type_of% @Bool.not_eq_true:=@Bool.not_eq_true
def I6:type_of% @Nat.add_sub_cancel_left:=@Nat.add_sub_cancel_left
def I7:type_of% @Nat.lt_of_lt_of_le:=@Nat.lt_of_lt_of_le
def I8:type_of% @List.ne_nil_of_mem:=@List.ne_nil_of_mem
def I9:type_of% @Option.map_none:=@Option.map_none
def Oa:type_of% @Nat.min_eq_left:=@Nat.min_eq_left
def Oc:type_of% @List.all_cons:=@List.all_cons
def Og:type_of% @List.pairwise_append:=@List.pairwise_append
def Oh:type_of% @Nat.pow_le_pow_right:=@Nat.pow_le_pow_right
def Oi:type_of% @Int.one_mul:=@Int.one_mul
def Oj:type_of% @List.mem_of_getLast?:=@List.mem_of_getLast?
def Ol:type_of% @Option.bind_some:=@Option.bind_some
def Om:type_of% @List.any_eq_true:=@List.any_eq_true
def On:type_of% @Nat.mod_eq_of_lt:=@Nat.mod_eq_of_lt
def Oq:type_of% @List.nodup_cons:=@List.nodup_cons
def Ot:type_of% @Nat.mul_comm:=@Nat.mul_comm
def Ou:type_of% @List.take_zero:=@List.take_zero
def Ov:type_of% @List.drop_drop:=@List.drop_drop
inductive Ex(α β:Type) where
 |ret (a:α)
 |nxt (b:β)
def exK{α β γ:Type}(e:Ex α β)(f:α->γ)(k:β->γ):γ:=match e with
 |.ret a=>f a
 |.nxt b=>k b
def bnd{α β:Type}(o:Option α)(f:α->Option β):Option β:=o.bind f
def grd{α:Type}(p:Prop)[Decidable p](x:Option α):Option α:=if p then x else none
def jn{κ γ:Type}(k:κ)(f:κ->γ):γ:=f k
def Xd{α:Type}(l:List α)(i:Int):Option α:=if 0<=i then l[i.toNat]? else none
def wI(n:Int):Int:=IntKind.wrap .i64 n
def wU(n:Int):Int:=IntKind.wrap .u64 n
def wW(n:Int):Int:=IntKind.wrap .u32 n
def Y6(k:IntKind)(a b:Int):Int:=k.wrap (BitVec.ofInt k.bits a &&& BitVec.ofInt k.bits b).toNat
def bOr(k:IntKind)(a b:Int):Int:=k.wrap (BitVec.ofInt k.bits a |||BitVec.ofInt k.bits b).toNat
def Xr0(k:IntKind)(a b:Int):Int:=k.wrap (BitVec.ofInt k.bits a ^^^ BitVec.ofInt k.bits b).toNat
def XcM(k:IntKind)(a b:Int):Int:=k.wrap (BitVec.ofInt k.bits a &&& ~~~ BitVec.ofInt k.bits b).toNat
def Ke(k:IntKind)(a b:Int):Int:=k.wrap (a*2 ^ min b.toNat k.bits)
def Yy(k:IntKind)(a b:Int):Int:=a.fdiv (2 ^ min b.toNat k.bits)
def XgN{α β:Type}{o:Option α}{f:α->Option β}{r:β}(h:bnd o f=some r):∃y,o=some y/\f y=some r:=by
 cases o with
 |none=>cases h
 |some y=>exact⟨y,rfl,h⟩
def XgO{α:Type}{p:Prop}[Decidable p]{x:Option α}{r:α}(h:grd p x=some r):p/\x=some r:=by unfold grd at h;simp_all
def Xbj{α β:Type}{G:Prop}{o:Option α}{f:α->Option β}{r:β}(h:bnd o f=some r)(k:∀y,o=some y->f y=some r->G):G:=(XgN h).elim λy e=>k y e.1 e.2
def Xtp{α β:Type}{G:Prop}{o:Option α}{f:α->Option β}{r:β}{y:α}(h:bnd o f=some r)(e:o=some y)(k:o=some y->f y=some r->G):G:=by have⟨z,g,j⟩:=XgN h;simp_all
def Xtq{α:Type}{G p:Prop}[Decidable p]{x:Option α}{r:α}(h:grd p x=some r)(k:p->x=some r->G):G:=k (XgO h).1 (XgO h).2
def Xvh{κ α:Type}{G:Prop}{k:κ}{f:κ->Option α}{r:α}(h:jn k f=some r)(g:f k=some r->G):G:=g h
def Xtr{α β γ:Type}{G:Prop}{b:β}{f:α->Option γ}{k:β->Option γ}{r:γ}(h:exK (.nxt b) f k=some r)(g:k b=some r->G):G:=g h
def Xts{α β γ:Type}{G:Prop}{a:α}{f:α->Option γ}{k:β->Option γ}{r:γ}(h:exK (.ret a) f k=some r)(g:f a=some r->G):G:=g h
def Yq{α:Type}{G:Prop}{x r:α}(h:some x=some r)(k:x=r->G):G:=k (Wz h)
def XaY{α:Type}{G:Prop}{r:α}(h:none=some r):G:=by grind
def XfA{α:Type}{l:List α}{i:Int}{p:α}(h:Xd l i=some p):0<=i/\i<l.length:=by unfold Xd at h;grind
def XfB{α:Type}{l:List α}{i:Int}{p:α}(h:Xd l i=some p):i.toNat<l.length:=by have:=XfA h;omega
def XfC{α β:Type}{l:List α}{i:Int}{p:α}(h:Xd l i=some p)(e:α->List β):(l.map e).getD i.toNat []=e p:=by unfold Xd at h;simp_all
def KO{α:Type}{l:List α}{i n:Int}{b:Prop}{β:Type}{f:α->Option β}{r:β}(g:bnd (Xd l i) f=some r)(h:(l.length:Int)=n)(k:∀p,Xd l i=some p->i.toNat<l.length->(∀(γ:Type) (e:α->List γ),(l.map e).getD i.toNat []=e p)->f p=some r->b):(0<=i/\i<n)/\b:=
 Xbj g λp hp g=>⟨h▸XfA hp,k p hp (XfB hp) (λ_ e=>XfC hp e) g⟩
def Jh{α:Type}{l:List α}{i n:Int}{b:Prop}{β:Type}{f:α->Option β}{r:β}{p:α}(g:bnd (Xd l i) f=some r)(hp:Xd l i=some p)(h:(l.length:Int)=n)(k:Xd l i=some p->i.toNat<l.length->(∀(γ:Type) (e:α->List γ),(l.map e).getD i.toNat []=e p)->f p=some r->b):(0<=i/\i<n)/\b:=
 Xtp g hp λhp g=>⟨h▸XfA hp,k hp (XfB hp) (λ_ e=>XfC hp e) g⟩
def XjI{α:Type}{l:List α}{i n:Int}{b:Prop}{β:Type}{f:α->Option β}{r:β}(g:bnd (Xd l i) f=some r)(h:(l.length:Int)=n)(k:∀p,Xd l i=some p->i.toNat<l.length->(∀(γ:Type) (e:α->List γ),(l.map e).getD i.toNat []=e p)->f p=some r->b):i<n/\b:=
 Xbj g λp hp g=>⟨(h▸XfA hp).2,k p hp (XfB hp) (λ_ e=>XfC hp e) g⟩
def KI{α:Type}(l:List α)(o n:Nat)(i:Int):Option α:=if 0<=i/\i<n then l[o+i.toNat]? else none
def XiE{α:Type}{l:List α}{o n:Nat}{i:Int}{p:α}(h:KI l o n i=some p):(0<=i/\i<n)/\l[o+i.toNat]? = some p:=by unfold KI at h;simp_all
def XgP{α:Type}{l:List α}{o n:Nat}{i:Int}{b:Prop}{β:Type}{f:α->Option β}{r:β}(g:bnd (KI l o n i) f=some r)(k:∀p,KI l o n i=some p->o+i.toNat<l.length->(∀(γ:Type) (e:α->List γ),(l.map e).getD (o+i.toNat) []=e p)->f p=some r->b):(0<=i/\i<n)/\b:=
 Xbj g λp hp g=>⟨(XiE hp).1,k p hp (Ia.1 (XiE hp).2).1 (λ_ e=>by rw[Wk,US,(XiE hp).2];rfl) g⟩
def Xml{α:Type}{l:List α}{o n:Nat}{i:Int}{b:Prop}{β:Type}{f:α->Option β}{r:β}(g:bnd (KI l o n i) f=some r)(k:∀p,KI l o n i=some p->o+i.toNat<l.length->(∀(γ:Type) (e:α->List γ),(l.map e).getD (o+i.toNat) []=e p)->f p=some r->b):i<n/\b:=
 let ⟨h,j⟩:=XgP g k;⟨h.2,j⟩
attribute [irreducible] bnd grd jn exK Xd KI
inductive D where
 |any
 |v (x:Value)
 |agg (cs:List D)
 |tup (cs:List D)
 |nsl
 |isl (E z:Nat) (es:List (List D))
 |osl (id ver z off len:Nat)
 |ept (id ver z i c:Nat)
 |ipt (z:Nat) (cs:List D) (c:Nat)
 |clo (fn:Fn) (first caps:List D)
 |ifc (t:TypeId) (d:D)
 |fsl (E z:Nat) (es:List (List D))
 |omp (id ver:Nat)
 |fmp (k:IntKind) (ks:List Int) (vs:List D)
 deriving Inhabited
abbrev Mem:=Nat->Nat->Option Value
abbrev Loc:=Nat->Nat->Option (Option (Nat×Nat))
def Yz:Loc:=λ_ _=>none
def Xs:Nat:=140737488355328
def wfV:Value->Prop
 |.int k n=>k.min<=n/\n<=k.max
 |.agg _=>False
 |_=>True
mutual
def Rep(P:Program)(M:Mem):Loc->D->Value->Prop
 |_,.any,_=>True
 |_,.v x,y=>y=x/\wfV x
 |β,.agg f,y=>∃j,y=.agg ⟨j⟩/\RepL P M β f j
 |β,.tup f,y=>∃j,y=.tuple ⟨j⟩/\RepL P M β f j
 |_,.nsl,y=>∃a,y=.slice a 0 0
 |_,.isl E z g,y=>(∀e∈g,e.length=z)/\g.length<=Xs/\g.length*P.bytesOf E<=Xs /\
  ∃a cap,y=.slice a g.length cap/\g.length<=cap/\(g=[]\/∃b o,a=some ⟨b,o,none⟩/\RepE P M g b o)
 |β,.osl id ver z off len,y=>(β id ver=some none/\off=0/\len=0/\∃a,y=.slice a 0 0) \/
  ∃b h o cap,β id ver=some (some (b,h))/\y=.slice (some ⟨b,o,none⟩) len cap/\len<=cap/\off+cap=h/\(o=off*z\/cap=0)
 |β,.ept id ver z i c,y=>∃b h,β id ver=some (some (b,h))/\y=.pointer (some ⟨b,i*z+c,none⟩)
 |_,.ipt z f c,y=>f.length=z/\∃b o,y=.pointer (some ⟨b,o+c,none⟩)/\RepC P M f b o
 |β,.clo fn k f,y=>∃a b,y=.func fn ⟨a⟩ ⟨b⟩/\RepL P M β k a/\RepL P M β f b
 |β,.ifc t d,y=>∃x,y=.iface t x/\Rep P M β d x
 |_,.fsl _ _ _,_=>False
 |_,.fmp _ _ _,_=>False
 |β,.omp id ver,y=>∃b h,β id ver=some (some (b,h))/\y=.map (some b)
def RepL(P:Program)(M:Mem):Loc->List D->List Value->Prop
 |_,[],e=>e=[]
 |β,d::g,e=>∃x f,e=x::f/\Rep P M β d x/\RepL P M β g f
def RepC(P:Program)(M:Mem):List D->Nat->Nat->Prop
 |[],_,_=>True
 |d::e,b,o=>(∃x,M b o=some x/\Rep P M Yz d x)/\RepC P M e b (o+1)
def RepE(P:Program)(M:Mem):List (List D)->Nat->Nat->Prop
 |[],_,_=>True
 |e::f,b,o=>RepC P M e b o/\RepE P M f b (o+e.length)
end
def MLe(M M':Mem):Prop:=∀b o x,M b o=some x->M' b o=some x
def BLe(β β':Loc):Prop:=∀i k x,β i k=some x->β' i k=some x
def MLe.refl(M:Mem):MLe M M:=λ_ _ _ h=>h
def BLe.refl(β:Loc):BLe β β:=λ_ _ _ h=>h
def MLe.trans{a b c:Mem}(h:MLe a b)(k:MLe b c):MLe a c:=λ_ _ _ e=>k _ _ _ (h _ _ _ e)
def BLe.trans{a b c:Loc}(h:BLe a b)(k:BLe b c):BLe a c:=λ_ _ _ e=>k _ _ _ (h _ _ _ e)
def BLe.zero(β:Loc):BLe Yz β:=λ_ _ _ h=>by cases h
variable {P:Program}
mutual
def Rep.mono{M M':Mem}{β β':Loc}(k:MLe M M')(j:BLe β β'):∀{d:D} {y:Value},Rep P M β d y->Rep P M' β' d y
 |.any,_,_=>by simp[Rep]
 |.v x,y,h=>by assumption
 |.agg q,y,h=>by have⟨r,e,h⟩:=h;exact⟨r,e,RepL.mono k j h⟩
 |.tup q,y,h=>by have⟨r,e,h⟩:=h;exact⟨r,e,RepL.mono k j h⟩
 |.nsl,y,h=>by assumption
 |.isl E z B,y,h=>by
  have⟨f,g,u,a,cap,e,s,h⟩:=h;refine⟨f,g,u,a,cap,e,s,?_⟩;rcases h with h|⟨b,o,w,h⟩
  .simp_all
  exact .inr ⟨b,o,w,RepE.mono k h⟩
 |.osl id ver z off len,y,h=>by
  rcases h with⟨f,g⟩|⟨b,p,o,cap,f,g⟩
  .exact .inl ⟨j _ _ _ f,g⟩
  exact .inr ⟨b,p,o,cap,j _ _ _ f,g⟩
 |.ept id ver z i c,y,h=>by have⟨b,p,f,g⟩:=h;exact⟨b,p,j _ _ _ f,g⟩
 |.ipt z q c,y,h=>by have⟨A,b,o,e,h⟩:=h;exact⟨A,b,o,e,RepC.mono k h⟩
 |.clo fn G q,y,h=>by have⟨a,b,e,f,g⟩:=h;exact⟨a,b,e,RepL.mono k j f,RepL.mono k j g⟩
 |.ifc t d,y,h=>by have⟨x,e,h⟩:=h;exact⟨x,e,Rep.mono k j h⟩
 |.fsl _ _ _,y,h=>by assumption
 |.fmp _ _ _,y,h=>by assumption
 |.omp id ver,y,h=>by have⟨b,p,f,g⟩:=h;exact⟨b,p,j _ _ _ f,g⟩
def RepL.mono{M M':Mem}{β β':Loc}(j:MLe M M')(k:BLe β β'):∀{f:List D} {g:List Value},RepL P M β f g->RepL P M' β' f g
 |[],_,h=>by assumption
 |d::f,g,h=>by have⟨x,o,e,p,q⟩:=h;exact⟨x,o,e,Rep.mono j k p,RepL.mono j k q⟩
def RepC.mono{M M':Mem}(f:MLe M M'):∀{g:List D} {b o:Nat},RepC P M g b o->RepC P M' g b o
 |[],_,_,_=>by simp[RepC]
 |d::g,b,o,h=>by have⟨⟨x,e,j⟩,k⟩:=h;exact⟨⟨x,f _ _ _ e,Rep.mono f (BLe.refl _) j⟩,RepC.mono f k⟩
def RepE.mono{M M':Mem}(f:MLe M M'):∀{e:List (List D)} {b o:Nat},RepE P M e b o->RepE P M' e b o
 |[],_,_,_=>by simp[RepE]
 |g::e,b,o,h=>by exact⟨RepC.mono f h.1,RepE.mono f h.2⟩
end
def RepL.length{M:Mem}{β:Loc}:∀{e:List D} {f:List Value},RepL P M β e f->f.length=e.length
 |[],_,h=>by simp_all[RepL,h]
 |d::e,f,h=>by obtain⟨x,j,rfl,_,g⟩:=h;simp[RepL.length g]
def RepL.get{M:Mem}{β:Loc}:∀{f:List D} {g:List Value},RepL P M β f g->∀(i:Nat) (d:D),f[i]? = some d->∃x,g[i]? = some x/\Rep P M β d x
 |[],_,_,i,d,hd=>by simp_all
 |e::f,g,h,i,d,hd=>by
  obtain⟨x,o,rfl,p,j⟩:=h;cases i with
  |zero=>simp_all
  |succ i=>exact RepL.get j i d hd
def RepL.of{M:Mem}{β:Loc}:∀{f:List D} {e:List Value},e.length=f.length->(∀(i:Nat) (d:D) (x:Value),f[i]? = some d->e[i]? = some x->Rep P M β d x)->RepL P M β f e
 |[],e,g,_=>by simp_all[RepL,g]
 |d::f,e,g,h=>by
  cases e with
  |nil=>simp_all
  |cons x j=>exact⟨x,j,rfl,h 0 d x ac ac,RepL.of (by simp_all) λ(i:Nat) k o hd p=>h (i+1) k o ah ah⟩
def RepL.append{M:Mem}{β:Loc}{e g:List D}{f j:List Value}(h:RepL P M β e f)(k:RepL P M β g j):RepL P M β (e++g) (f++j):=by
 induction e generalizing f with
 |nil=>simp_all[RepL,h]
 |cons d e o=>grind[RepL]
def RepC.get{M:Mem}:∀{f:List D} {b o:Nat},RepC P M f b o->∀(i:Nat) (d:D),f[i]? = some d->∃x,M b (o+i)=some x/\Rep P M Yz d x
 |[],_,_,_,i,d,hd=>by simp_all
 |e::f,b,o,h,i,d,hd=>by
  have⟨⟨x,j,p⟩,g⟩:=h;cases i with
  |zero=>simp_all
  |succ i=>have⟨y,q,r⟩:=RepC.get g i d hd;grind
def RepC.of{M:Mem}:∀{f:List D} {b o:Nat},(∀(i:Nat) (d:D),f[i]? = some d->∃x,M b (o+i)=some x/\Rep P M Yz d x)->RepC P M f b o
 |[],_,_,_=>by simp[RepC]
 |e::f,b,o,h=>by refine⟨by simpa using h 0 e ac,RepC.of λ(i:Nat) d hd=>?_⟩;have⟨x,g,j⟩:=h (i+1) d (by simpa using hd);grind
def RepE.get{M:Mem}{z:Nat}:∀{f:List (List D)} {b o:Nat},(∀e∈f,e.length=z)->RepE P M f b o->∀(i:Nat) (e:List D),f[i]? = some e->RepC P M e b (o+i*z)
 |[],_,_,_,_,i,e,g=>by simp_all
 |d::f,b,o,j,h,i,e,g=>by
  simp only[RepE]at h;cases i with
  |zero=>simp_all
  |succ i=>have r:=RepE.get (λp q=>j p (by simp[q])) h.2 i e g;grind
def RepE.of{M:Mem}{z:Nat}:∀{f:List (List D)} {b o:Nat},(∀e∈f,e.length=z)->(∀(i:Nat) (e:List D),f[i]? = some e->RepC P M e b (o+i*z))->RepE P M f b o
 |[],_,_,_,_=>by simp[RepE]
 |d::f,b,o,g,h=>by refine⟨by simpa using h 0 d ac,RepE.of (z:=z) (λj k=>g j (by simp[k])) λ(i:Nat) e p=>?_⟩;have q:=h (i+1) e (by exact p);grind
mutual
def Wf(P:Program):D->Prop
 |.v x=>wfV x
 |.agg f=>WfL P f
 |.tup f=>WfL P f
 |.isl E z g=>(∀e∈g,e.length=z)/\g.length<=Xs/\g.length*P.bytesOf E<=Xs/\WfE P g
 |.ipt _ f _=>WfL P f
 |_=>True
def WfL(P:Program):List D->Prop
 |[]=>True
 |d::e=>Wf P d/\WfL P e
def WfE(P:Program):List (List D)->Prop
 |[]=>True
 |e::f=>WfL P e/\WfE P f
end
mutual
def Rep.wf{M:Mem}{β:Loc}:∀{d:D} {y:Value},Rep P M β d y->Wf P d
 |.any,_,_=>by simp[Wf]
 |.v x,y,h=>by simp_all[Rep,Wf]
 |.agg e,y,h=>by have⟨f,_,h⟩:=h;exact RepL.wf h
 |.tup e,y,h=>by have⟨f,_,h⟩:=h;exact RepL.wf h
 |.nsl,_,_=>by simp[Wf]
 |.isl E z p,y,h=>by
  have⟨g,j,k,a,cap,_,_,h⟩:=h;refine⟨g,j,k,?_⟩;rcases h with rfl|⟨b,o,_,h⟩
  .simp[WfE]
  exact RepE.wf h
 |.osl ..,_,_=>by simp[Wf]
 |.ept ..,_,_=>by simp[Wf]
 |.ipt z e c,y,h=>by have⟨_,b,o,_,h⟩:=h;exact RepC.wf h
 |.clo ..,_,_=>by simp[Wf]
 |.ifc ..,_,_=>by simp[Wf]
 |.fsl ..,_,_=>by simp[Wf]
 |.fmp ..,_,_=>by simp[Wf]
 |.omp ..,_,_=>by simp[Wf]
def RepL.wf{M:Mem}{β:Loc}:∀{e:List D} {f:List Value},RepL P M β e f->WfL P e
 |[],_,_=>by simp[WfL]
 |d::e,f,h=>by have⟨x,k,_,g,j⟩:=h;exact⟨Rep.wf g,RepL.wf j⟩
def RepC.wf{M:Mem}:∀{e:List D} {b o:Nat},RepC P M e b o->WfL P e
 |[],_,_,_=>by simp[WfL]
 |d::e,b,o,h=>by have⟨⟨x,_,f⟩,g⟩:=h;exact⟨Rep.wf f,RepC.wf g⟩
def RepE.wf{M:Mem}:∀{f:List (List D)} {b o:Nat},RepE P M f b o->WfE P f
 |[],_,_,_=>by simp[WfE]
 |e::f,b,o,h=>by exact⟨RepC.wf h.1,RepE.wf h.2⟩
end
inductive Ob where
 |arr (bx:Bool) (E z:Nat) (es:List (List D)) (fz:Nat)
 |mp (k:IntKind) (es:List (Int×D))
 |raw (o:Obj)
 deriving Inhabited
def Ob.bx:Ob->Bool
 |.arr b _ _ _ _=>b
 |.mp ..=>false
 |.raw _=>false
def XfD(bx:Bool)(β:Loc):Loc:=if bx then β else Yz
def Xpv(bx:Bool)(β:Loc):BLe (XfD bx β) β:=by
 cases bx
 .exact BLe.zero β
 exact BLe.refl β
def XeS(bx:Bool){β β':Loc}(h:BLe β β'):BLe (XfD bx β) (XfD bx β'):=by
 cases bx
 .exact BLe.refl _
 exact h
def EntL(P:Program)(M:Mem)(k:IntKind):List MapEntry->List (Int×D)->Prop
 |[],g=>g=[]
 |e::l,g=>∃x d f,g=(x,d)::f/\e.key=.int k x/\Rep P M Yz d e.val/\EntL P M k l f
def EntL.mono{P:Program}{M M':Mem}(j:MLe M M'){k:IntKind}:∀{l:List MapEntry} {f:List (Int×D)},EntL P M k l f->EntL P M' k l f
 |[],_,h=>h
 |e::l,f,⟨x,d,g,o,p,q,r⟩=>⟨x,d,g,o,p,q.mono j (BLe.refl _),EntL.mono j r⟩
def EntL.length{P:Program}{M:Mem}{k:IntKind}:∀{l:List MapEntry} {f:List (Int×D)},EntL P M k l f->l.length=f.length
 |[],_,h=>by simp_all[EntL]
 |e::l,f,⟨x,d,g,j,p,q,o⟩=>by subst j;simp[EntL.length o]
def ObRep(P:Program)(M:Mem)(β:Loc)(w:World):Option (Nat×Nat)->Ob->Prop
 |none,.arr bx _ _ f fz=>bx=false/\f=[]/\fz=0
 |some (b,g),.arr bx E z f fz=>∃h T,w.heap[b]? = some (.cells h T (0,0))/\h.size=g*z/\(∀e∈f,e.length=z)/\f.length<=g /\
  f.length<=Xs/\f.length*P.bytesOf E<=Xs/\fz<=f.length/\(∀x∈h,x.oneCell'=true) /\
  (∀o,M b o=if o<fz*z then h[o]? else none)/\∀(i:Nat) (d:D),f.flatten[i]? = some d->∃x,h[i]? = some x/\Rep P M (XfD bx β) d x
 |some (b,g),.mp k f=>g=0/\f.length<=Xs/\(∀o,M b o=none)/\∃ents clock,w.heap[b]? = some (.map ents clock)/\EntL P M k ents.toList f /\
  (ents.toList.map (·.born)).Pairwise (·<·)/\∀e∈ents.toList,e.born<clock
 |some (b,g),.raw o=>g=0/\(∀i,M b i=none)/\w.heap[b]? = some o
 |_,_=>False
def MemOK(M:Mem)(w:World):Prop:=∀b o x,M b o=some x->w.cell? ⟨b,o,none⟩=some x/\x.oneCell'=true
inductive Sn where
 |struct (fs:List (Nat×Nat×Nat))
 |array (n e sz:Nat)
 |slice (e sz:Nat)
 |int (k:IntKind)
 |bool
 |str
 |iface
 |other
structure OF where
 size:Nat
 bytes:Nat
 zero:Value
 k:Sn
def OF.isAgg(t:OF):Bool:=match t.k with|.struct _|.array _ _ _=>true|_=>false
def OF.isIface(t:OF):Bool:=match t.k with|.iface=>true|_=>false
def VN(P:Program):TypeDesc->Sn
 |.struct g=>.struct (g.toList.map λf=>(f.offset,P.cellsOf f.type,f.type))
 |.array n e=>.array n e (P.cellsOf e)
 |.slice e=>.slice e (P.cellsOf e)
 |.int k=>.int k
 |.bool=>.bool
 |.string=>.str
 |.interface _=>.iface
 |_=>.other
def Xmm(P:Program):TypeDesc->Bool
 |.struct e=>e.toList.all (λf=>((P.info? f.type).map (·.size)).isSome)
 |_=>true
def Xm(P:Program)(t:TypeId):Option OF:=
 match P.info? t,P.underlying t with
 |some i,some d=>match i.zero with
  |some z=>if Xmm P d then some ⟨i.size,i.bytes,z,VN P d⟩else none
  |none=>none
 |_,_=>none
def upd{α:Type}(f:Nat->α)(i:Nat)(x:α):Nat->α:=λj=>if j=i then x else f j
theorem YC{α:Type}(f:Nat->α)(i:Nat)(x:α):upd f i x i=x:=by simp[upd]
def Yb{α:Type}(f:Nat->α)(i j:Nat)(x:α)(h:j≠i):upd f i x j=f j:=by simp[upd,h]
def okV:Value->Bool
 |.int k n=>decide (k.min<=n)&&decide (n<=k.max)
 |.agg _=>false
 |_=>true
def Xk4{x:Value}(h:okV x=true):wfV x:=by cases x<;>simp_all[okV,wfV]
def Xmn:Value->D
 |.slice none 0 0=>.nsl
 |x=>if okV x then .v x else .any
def ofV:Value->D
 |.agg e=>.agg (e.toList.map Xmn)
 |x=>Xmn x
def ev(t:Nat->D)(G:Nat->Option (List D)):Operand->D
 |.tmp i=>t i
 |.const x=>ofV x
 |.global g=>match G g with|some e=>.ipt e.length e 0|none=>.any
 |.func f=>.clo (.func f) [] []
def D.one:D->Bool
 |.any|.agg _|.tup _|.fsl _ _ _|.fmp _ _ _=>false
 |.v x=>x.oneCell'
 |_=>true
def D.cells:D->Option (List D)
 |.agg e=>if e.all D.one then some e else none
 |d=>if d.one then some [d]else none
def Kl(e:List D)(c:Nat)(f:List D):List D:=e.take c++f++e.drop (c+f.length)
abbrev Heap:=Nat->Option (Nat×Ob)
abbrev Up:=List (Nat×Nat×Ob)
def app(s:Heap):Up->Heap
 |[]=>s
 |(i,v,o)::u=>app (upd s i (some (v,o))) u
mutual
def snap(s:Heap):D->Option (Prop×D×List Nat)
 |.osl id ver z off len=>match s id with
  |some (f,.arr false E k h _)=>if ver=f/\z=k then some (off+len<=h.length,.isl E z ((h.drop off).take len),[id])else none
  |_=>none
 |.agg g=>match ZO s g with
  |some (c,j,l)=>some (c,.agg j,l)
  |none=>none
 |.tup g=>match ZO s g with
  |some (c,j,l)=>some (c,.tup j,l)
  |none=>none
 |.clo fn a b=>match ZO s a,ZO s b with
  |some (c,o,l),some (p,q,r)=>some (c/\p,.clo fn o q,l++r)
  |_,_=>none
 |.ifc t d=>match snap s d with
  |some (c,e,l)=>some (c,.ifc t e,l)
  |none=>none
 |.any=>some (True,.any,[])
 |.v x=>some (True,.v x,[])
 |.nsl=>some (True,.nsl,[])
 |.isl E z h=>some (True,.isl E z h,[])
 |.ipt z g c=>some (True,.ipt z g c,[])
 |_=>none
def ZO(s:Heap):List D->Option (Prop×List D×List Nat)
 |[]=>some (True,[],[])
 |d::f=>match snap s d,ZO s f with
  |some (c,e,l),some (g,h,j)=>some (c/\g,e::h,l++j)
  |_,_=>none
end
def VO(s:Heap):List (Nat×D)->Option (Prop×List (Nat×D)×List Nat)
 |[]=>some (True,[],[])
 |(i,d)::f=>match snap s d,VO s f with
  |some (c,e,l),some (g,h,j)=>some (c/\g,(i,e)::h,l++j)
  |_,_=>none
def XeF:Nat×Ob->Nat×Ob
 |(v,.arr false E z e _)=>(v,.arr false E z e e.length)
 |x=>x
def Xbk(s:Heap):List Nat->Up
 |[]=>[]
 |i::l=>match s i with
  |some x=>(i,XeF x)::Xbk s l
  |none=>Xbk s l
def XfE(s:Heap):D->Option (Prop×List D×Nat×Nat)
 |.ipt z g c=>some (True,g,c,z)
 |.ept id ver z i c=>match s id with
  |some (e,.arr _ _ h f _)=>if ver=e/\z=h then some (i<f.length,f.getD i [],c,z)else none
  |_=>none
 |_=>none
def JQ(ty:OF):Option (List D):=(ofV ty.zero).cells
def elems(s:Heap)(z:Nat):D->Option (Prop×List (List D))
 |.nsl=>some (True,[])
 |.v (.slice _ 0 _)=>some (True,[])
 |.isl _ f g=>if z=f then some (True,g)else none
 |.osl id ver f off len=>match s id with
  |some (e,.arr false _ h g _)=>if ver=e/\z=f/\f=h then some (off+len<=g.length,(g.drop off).take len)else none
  |_=>none
 |_=>none
def Ji(isAgg:Bool)(e:List D):D:=if isAgg then .agg e else e.headD .any
def Xdb(place:Nat->Option (Nat×Nat)):List D->List (Nat×D)->Option (List D)
 |e,[]=>some e
 |e,(i,d)::rest=>match place i,d.cells with
  |some (off,sz),some f=>if f.length=sz/\off+sz<=e.length then Xdb place (Kl e off f) rest else none
  |_,_=>none
def Xdc(z:Nat):List (List D)->List (Nat×D)->Option (List (List D))
 |e,[]=>some e
 |e,(i,d)::rest=>match d.cells with
  |some f=>if f.length=z/\i<e.length then Xdc z (e.set i f) rest else none
  |_=>none
def XfF:Option IntKind->D->D->Option Bool
 |some _,.v (.int j a),.v (.int k b)=>if j=k then some (a==b)else none
 |none,.v (.bool a),.v (.bool b)=>some (a==b)
 |_,_,_=>none
def Yf:List (Option IntKind)->List D->List D->Option Bool
 |[],[],[]=>some true
 |k::e,x::f,y::g=>match XfF k x y,Yf e f g with
  |some a,some b=>some (a&&b)
  |_,_=>none
 |_,_,_=>none
def ZW(P:Program):Nat->List Field->Option (List (Option IntKind))
 |_,[]=>some []
 |n,f::e=>if(f.offset==n)&&(f.name != "_")then
  match P.underlying f.type with
  |some (.int k)=>(ZW P (n+1) e).map (some k::·)
  |some .bool=>(ZW P (n+1) e).map (none::·)
  |_=>none
  else none
def YJ(P:Program)(t:TypeId):Option (List (Option IntKind)):=
 match P.underlying t with
 |some (.struct f)=>if P.stoodInHeld t||P.eqGuardType P.depth t then none else ZW P 0 f.toList
 |some (.array n e)=>if P.eqGuardType P.depth t then none else match P.underlying e,P.info? e with
  |some (.int k),some _=>if P.cellsOf e=1 then some (List.replicate n (some k))else none
  |_,_=>none
 |_=>none
def VJ(op:BinOp)(k:IntKind)(a b:Int):Option (Prop×Value):=
 match op with
 |.add=>some (True,.int k (k.wrap (a+b)))
 |.sub=>some (True,.int k (k.wrap (a-b)))
 |.mul=>some (True,.int k (k.wrap (a*b)))
 |.quo=>some (b≠0,.int k (k.wrap (a.tdiv b)))
 |.rem=>some (b≠0,.int k (a.tmod b))
 |.and=>some (True,.int k (k.wrap (BitVec.ofInt k.bits a &&& BitVec.ofInt k.bits b).toNat))
 |.or=>some (True,.int k (k.wrap (BitVec.ofInt k.bits a |||BitVec.ofInt k.bits b).toNat))
 |.xor=>some (True,.int k (k.wrap (BitVec.ofInt k.bits a ^^^ BitVec.ofInt k.bits b).toNat))
 |.andNot=>some (True,.int k (k.wrap (BitVec.ofInt k.bits a &&& ~~~ BitVec.ofInt k.bits b).toNat))
 |.eql=>some (True,.bool (a==b))
 |.neq=>some (True,.bool (a != b))
 |.lss=>some (True,.bool (a<b))
 |.leq=>some (True,.bool (a<=b))
 |.gtr=>some (True,.bool (a>b))
 |.geq=>some (True,.bool (a>=b))
 |_=>none
def YU(P:Program)(op:BinOp)(T:TypeId):D->D->Option (Prop×D)
 |.v (.int k a),.v (.int e b)=>match op with
  |.shl=>some (0<=b,.v (.int k (k.wrap (a*2 ^ min b.toNat k.bits))))
  |.shr=>some (0<=b,.v (.int k (a.fdiv (2 ^ min b.toNat k.bits))))
  |op=>if k=e then(VJ op k a b).map λr=>(r.1,.v r.2)else none
 |.v (.bool a),.v (.bool b)=>match Xm P T with
  |some ⟨_,_,_,.bool⟩=>match op with
   |.eql=>some (True,.v (.bool (a==b)))
   |.neq=>some (True,.v (.bool (!(a==b))))
   |_=>none
  |_=>none
 |.agg f,.agg g=>match YJ P T with
  |some h=>match Yf h f g,op with
   |some b,.eql=>some (True,.v (.bool b))
   |some b,.neq=>some (True,.v (.bool (!b)))
   |_,_=>none
  |none=>none
 |_,_=>none
def ivD:D->Option Int
 |.v (.int _ n)=>some n
 |_=>none
def ivO(t:Operand->D):Option Operand->Option (Option Int)
 |none=>some none
 |some x=>(ivD (t x)).map some
def XiF:Value->Bool
 |.int _ _=>false
 |.bool _=>false
 |.slice none _ _=>true
 |_=>false
def Xdd:Operand->Bool
 |.tmp _=>false
 |.global _=>false
 |.func _=>false
 |.const v=>XiF v
def XfG(P:Program)(op:BinOp)(T:TypeId):D->Option (Prop×D)
 |.isl _ _ e=>match Xm P T,op with
  |some ⟨_,_,_,.slice _ _⟩,.eql=>some (e≠[],.v (.bool false))
  |some ⟨_,_,_,.slice _ _⟩,.neq=>some (e≠[],.v (.bool true))
  |_,_=>none
 |.v (.slice a _ _)=>match Xm P T,op with
  |some ⟨_,_,_,.slice _ _⟩,.eql=>some (True,.v (.bool a.isNone))
  |some ⟨_,_,_,.slice _ _⟩,.neq=>some (True,.v (.bool (!a.isNone)))
  |_,_=>none
 |_=>none
def XaZ(sz:Nat)(e f mx:Option Int):D->Option (Prop×D)
 |.nsl=>match mx,f with
  |some _,none=>none
  |_,_=>some (e.getD 0=0/\f.getD 0=0/\mx.getD 0=0,.nsl)
 |.isl E z g=>if z=sz then match mx,f with
  |none,_=>some (0<=e.getD 0/\e.getD 0<=f.getD g.length/\f.getD g.length<=g.length,
   .isl E z ((g.drop (e.getD 0).toNat).take ((f.getD g.length).toNat-(e.getD 0).toNat)))
  |some m,some h=>some (e.getD 0=0/\h=0/\m=0,.nsl)
  |_,_=>none
  else none
 |.osl id ver z off len=>if z=sz then match mx with
  |none=>some (0<=e.getD 0/\e.getD 0<=f.getD len/\f.getD len<=len,
   .osl id ver z (off+(e.getD 0).toNat) ((f.getD len).toNat-(e.getD 0).toNat))
  |some m=>match f with
   |some h=>some (0<=e.getD 0/\e.getD 0<=h/\h<=m/\m<=len,.any)
   |none=>none
  else none
 |_=>none
def Xa0(s:Heap)(sz:Nat)(e f mx:Option Int)(d:D):Option (Prop×D):=match mx,e,f with
 |none,some l,some h=>match d with
  |.osl id v z off len=>match s id with
   |some (j,.arr false _ k g _)=>if z=sz/\v=j/\z=k then
    (if off+len=g.length then XaZ sz e f mx d else some (0<=l/\l<=h/\off+h.toNat<=g.length,.osl id v z (off+l.toNat) (h.toNat-l.toNat)))
    else XaZ sz e f mx d
   |_=>none
  |_=>XaZ sz e f mx d
 |_,_,_=>XaZ sz e f mx d
def XeG(P:Program)(s:Heap)(KS ver E z bytes:Nat)(c0:Prop)(src:List (List D)):D->Option (Prop×D×Up)
 |.nsl=>some (c0/\src.length<=Xs/\src.length*bytes<=Xs,.osl KS ver z 0 src.length,[(KS,ver,.arr false E z src 0)])
 |.osl id v g off len=>match s id with
  |some (h,.arr false E' f e fz)=>
   if v=h/\z=g/\z=f/\P.bytesOf E'=bytes then
    if off+len=e.length then
     some (c0/\off=0/\e.length+src.length<=Xs/\(e.length+src.length)*bytes<=Xs,.osl id ver z 0 (len+src.length),[(id,ver,.arr false E' z (e++src) fz)])
    else
     some (c0/\off+len+src.length<=e.length/\fz<=off+len,.osl id v z off (len+src.length),
      [(id,v,.arr false E' z (e.take (off+len)++src++e.drop (off+len+src.length)) fz)])
   else none
  |_=>none
 |_=>none
def Xmo(g:Bool):D->D->D
 |.v (.bool p),.v (.bool q)=>.v (.bool (bif g then p else q))
 |a,b=>match g with
  |true=>a
  |false=>b
def Xcm(P:Program)(T:TypeId):Option (IntKind×TypeId):=match P.underlying T with
 |some (.map K E)=>match P.underlying K with
  |some (.int k)=>some (k,E)
  |_=>none
 |_=>none
def XeH:List (Int×D)->Int->Option D
 |[],_=>none
 |(x,d)::e,n=>if n=x then some d else XeH e n
def Xde:List (Int×D)->Int->D->List (Int×D)
 |[],n,d=>[(n,d)]
 |(x,e)::f,n,d=>if n=x then(x,d)::f else(x,e)::Xde f n d
def Xdf:List (Int×D)->Int->List (Int×D)
 |[],_=>[]
 |(x,e)::f,n=>if n=x then f else(x,e)::Xdf f n
def XiG(P:Program)(s:Heap)(T:TypeId)(m key x:D):Option (Prop×D×Up):=match Xcm P T,m,key with
 |some (k,_),.omp id v,.v (.int g n)=>match s id with
  |some (e,.mp k2 f)=>match snap s x with
   |some (c,d,l)=>if v=e/\k=k2/\k=g/\id∉l then some (c/\f.length<Xs,.v undef,Xbk s l++[(id,e,.mp k (Xde f n d))])else none
   |none=>none
  |_=>none
 |_,_,_=>none
def KS(dst:Option Nat):Nat:=match dst with|some d=>64*d|none=>0
def opF(P:Program)(dst:Option Nat)(ver:Nat)(t:Operand->D)(s:Heap):Op->Option (Prop×D×Up)
 |.move x|.assign x=>some (True,t x,[])
 |.pick c a b=>match t c with
  |.v (.bool g)=>some (True,Xmo g (t a) (t b),[])
  |_=>none
 |.alloc T=>match Xm P T with
  |some ty=>match JQ ty with
   |some w=>if w.length=ty.size/\ty.bytes<=Xs then some (True,.ept (KS dst) ver ty.size 0 0,[(KS dst,ver,.arr true T ty.size [w] 0)])else none
   |none=>none
  |none=>none
 |.box T x=>match Xm P T,(t x).cells with
  |some ty,some w=>if ty.bytes<=Xs then some (w.length=ty.size,.ept (KS dst) ver ty.size 0 0,[(KS dst,ver,.arr true T ty.size [w] 0)])else none
  |_,_=>none
 |.build T parts=>match Xm P T with
  |some ty=>match JQ ty,ty.k with
   |some w,.struct I=>(Xdb (λi=>(I[i]?).map λf=>(f.1,f.2.1)) w (parts.toList.map λp=>(p.1,t p.2))).map λr=>(True,.agg r,[])
   |some w,.array _ e sz=>match Xm P e with
    |some _=>(Xdb (λi=>some (i*sz,sz)) w (parts.toList.map λp=>(p.1,t p.2))).map λr=>(True,.agg r,[])
    |none=>none
   |_,_=>none
  |none=>none
 |.buildSlice T n parts=>match Xm P T with
  |some ⟨_,_,_,.slice E z⟩=>match Xm P E with
   |some u=>match JQ u with
    |some G=>if G.length=z/\u.size=z/\n*z<=16777216/\n*u.bytes<=Xs/\n<=Xs then
     match VO s (parts.toList.map λp=>(p.1,t p.2))with
     |some (c,ps,l)=>(Xdc z (List.replicate n G) ps).map λq=>(c,.osl (KS dst) ver z 0 n,Xbk s l++[(KS dst,ver,.arr false E z q 0)])
     |none=>none
     else none
    |none=>none
   |none=>none
  |_=>none
 |.load T a=>match Xm P T,XfE s (t a)with
  |some ty,some (c,w,o,z)=>if o+ty.size<=z/\(ty.isAgg=true\/ty.size=1)then some (c,Ji ty.isAgg ((w.drop o).take ty.size),[])else none
  |_,_=>none
 |.store T a x=>match Xm P T,t a with
  |some ty,.ept id v z i c=>match s id with
   |some (B,.arr true E J q fz)=>match (t x).cells with
    |some H=>if v=B/\z=J/\c+ty.size<=z then
     some (i<q.length/\fz<=i/\H.length=ty.size,.v undef,[(id,v,.arr true E z (q.set i (Kl (q.getD i []) c H)) fz)])
     else none
    |none=>none
   |some (B,.arr false E J q fz)=>match snap s (t x)with
    |some (L,d,l)=>match d.cells with
     |some H=>if v=B/\z=J/\c+ty.size<=z/\id∉l then
      some (L/\i<q.length/\fz<=i/\H.length=ty.size,.v undef,Xbk s l++[(id,v,.arr false E z (q.set i (Kl (q.getD i []) c H)) fz)])
      else none
     |none=>none
    |none=>none
   |_=>none
  |_,_=>none
 |.nilCheck x=>match t x with
  |.ept id v z i c=>some (True,.ept id v z i c,[])
  |.ipt z w c=>some (True,.ipt z w c,[])
  |_=>none
 |.binOp op T x y _=>(if Xdd y then XfG P op T (t x)else YU P op T (t x) (t y)).map λr=>(r.1,r.2,[])
 |.unOp op _ x=>match op,t x with
  |.not,.v (.bool b)=>some (True,.v (.bool (!b)),[])
  |.neg,.v (.int k n)=>some (True,.v (.int k (k.wrap (0-n))),[])
  |_,_=>none
 |.convert S T x=>match Xm P S,Xm P T,t x with
  |some _,some ⟨_,_,_,.int k⟩,.v (.int _ n)=>some (True,.v (.int k (k.wrap n)),[])
  |_,_,_=>none
 |.makeFunc fn first captured=>some (True,.clo fn (first.toList.map t) (captured.toList.map t),[])
 |.makeSlice T l c=>match Xm P T,ivD (t l),ivD (t c)with
  |some ⟨_,_,_,.slice E z⟩,some n,some m=>match Xm P E with
   |some u=>match JQ u with
    |some G=>if G.length=z/\u.size=z then
     some (0<=n/\m=n/\n.toNat<=Xs/\n.toNat*u.bytes<=Xs,.osl (KS dst) ver z 0 n.toNat,[(KS dst,ver,.arr false E z (List.replicate n.toNat G) 0)])
     else none
    |none=>none
   |none=>none
  |_,_,_=>none
 |.slice T x M N mx=>match Xm P T,ivO t M,ivO t N,ivO t mx with
  |some ⟨_,_,_,.slice E sz⟩,some l,some h,some m=>match Xm P E with
   |some _=>(Xa0 s sz l h m (t x)).map λr=>(r.1,r.2,[])
   |none=>none
  |some ⟨_,_,_,.array n E _⟩,some none,some none,some none=>match Xm P E,t x with
   |some u,.ipt z w 0=>if u.size=1/\z=n/\0<n/\n<=Xs/\n*P.bytesOf E<=Xs then some (w.length=z,.isl E 1 (w.map λx=>[x]),[])else none
   |_,_=>none
  |_,_,_,_=>none
 |.fieldAddr T x f=>match Xm P T,t x with
  |some ⟨_,_,_,.struct I⟩,.ept id v z i c=>match I[f]? with
   |some (off,sz,_)=>if sz=0 then none else some (True,.ept id v z i (c+off),[])
   |none=>none
  |some ⟨_,_,_,.struct I⟩,.ipt z w c=>match I[f]? with
   |some (off,sz,_)=>if sz=0 then none else some (True,.ipt z w (c+off),[])
   |none=>none
  |_,_=>none
 |.field T x f=>match Xm P T,t x with
  |some ⟨_,_,_,.struct I⟩,.agg w=>match I[f]? with
   |some (off,sz,O)=>match Xm P O with
    |some ty=>if ty.size=sz then some (off+sz<=w.length/\(ty.isAgg=true\/sz=1),Ji ty.isAgg ((w.drop off).take sz),[])else none
    |none=>none
   |none=>none
  |_,_=>none
 |.indexAddr T x ix=>match Xm P T,t x,ivD (t ix)with
  |some ⟨_,_,_,.slice _ sz⟩,.isl _ z q,some i=>if sz=z/\sz≠0 then some (0<=i/\i<q.length,.ipt z (q.getD i.toNat []) 0,[])else none
  |some ⟨_,_,_,.slice _ sz⟩,.osl id v z off len,some i=>if sz=z/\sz≠0 then some (0<=i/\i<len,.ept id v z (off+i.toNat) 0,[])else none
  |some ⟨_,_,_,.array n _ sz⟩,.ipt z w c,some i=>if sz=0 then none else some (0<=i/\i<n,.ipt z w (c+i.toNat*sz),[])
  |some ⟨_,_,_,.array n _ sz⟩,.ept id v z j c,some i=>if sz=0 then none else some (0<=i/\i<n,.ept id v z j (c+i.toNat*sz),[])
  |_,_,_=>none
 |.index T x ix=>match Xm P T,t x,ivD (t ix)with
  |some ⟨_,_,_,.array n e sz⟩,.agg w,some i=>match Xm P e with
   |some ty=>if ty.size=sz then some (0<=i/\i<n/\(i.toNat+1)*sz<=w.length/\(ty.isAgg=true\/sz=1),Ji ty.isAgg ((w.drop (i.toNat*sz)).take sz),[])else none
   |none=>none
  |_,_,_=>none
 |.makeMap T r=>match Xcm P T,ivO t r with
  |some (k,_),some _=>some (True,.omp (KS dst) ver,[(KS dst,ver,.mp k [])])
  |_,_=>none
 |.mapUpdate T m key x|.insert T m key x=>XiG P s T (t m) (t key) (t x)
 |.lookup T m key ok=>match Xcm P T,t m,t key with
  |some (k,E),.omp id v,.v (.int K n)=>match s id,Xm P E with
   |some (B,.mp k2 q),some u=>if v=B/\k=k2/\k=K then
    some (True,if ok then .tup [(XeH q n).getD (ofV u.zero),.v (.bool (XeH q n).isSome)]else(XeH q n).getD (ofV u.zero),[])
    else none
   |_,_=>none
  |_,_,_=>none
 |.extract x i=>match t x with
  |.tup H=>if i<H.length then some (True,H.getD i .any,[])else none
  |_=>none
 |.makeInterface T x=>match Xm P T with
  |some ty=>if ty.isIface then none else some (True,.ifc T (t x),[])
  |none=>none
 |.typeAssert x _ A ok=>match Xm P A,t x,ok with
  |some u,.ifc T d,true=>if u.isIface then none else if T=A then some (True,.tup [d,.v (.bool true)],[])else some (True,.tup [ofV u.zero,.v (.bool false)],[])
  |some u,.v .nilIface,true=>if u.isIface then none else some (True,.tup [ofV u.zero,.v (.bool false)],[])
  |_,_,_=>none
 |.call ⟨.builtin .len,args,types⟩=>match args.toList.map t,types.toList with
  |[d],[T]=>match Xm P T,d with
   |some ⟨_,_,_,.slice _ _⟩,.nsl=>some (True,.v (.int .i64 0),[])
   |some ⟨_,_,_,.slice _ _⟩,.isl _ _ q=>some (True,.v (.int .i64 q.length),[])
   |some ⟨_,_,_,.slice _ _⟩,.osl _ _ _ _ len=>some (len<=Xs,.v (.int .i64 len),[])
   |some ⟨_,_,_,.array n _ _⟩,_=>if n<=Xs then some (True,.v (.int .i64 n),[])else none
   |_,.omp id v=>match Xcm P T,s id with
    |some (k,_),some (B,.mp k2 q)=>if v=B/\k=k2 then some (True,.v (.int .i64 q.length),[])else none
    |_,_=>none
   |_,_=>none
  |_,_=>none
 |.call ⟨.builtin .delete,args,types⟩=>match args.toList.map t,types.toList with
  |[.omp id v,.v (.int K n)],T::_=>match Xcm P T,s id with
   |some (k,_),some (B,.mp k2 q)=>if v=B/\k=k2/\k=K then some (True,.tup [],[(id,B,.mp k (Xdf q n))])else none
   |_,_=>none
  |_,_=>none
 |.call ⟨.builtin .cap,args,types⟩=>match args.toList.map t,types.toList with
  |[d],[T]=>match Xm P T,d with
   |some ⟨_,_,_,.slice _ _⟩,.nsl=>some (True,.v (.int .i64 0),[])
   |_,_=>none
  |_,_=>none
 |.call ⟨.builtin .min,args,_⟩=>match args.toList.map t with
  |[.v (.int j a),.v (.int k b)]=>if j=k then some (True,.v (.int j (if b<a then b else a)),[])else none
  |_=>none
 |.call ⟨.builtin .max,args,_⟩=>match args.toList.map t with
  |[.v (.int j a),.v (.int k b)]=>if j=k then some (True,.v (.int j (if a<b then b else a)),[])else none
  |_=>none
 |.call ⟨.builtin .clear,args,types⟩=>match args.toList.map t,types.toList with
  |[.osl id v z off len],[T]=>match Xm P T with
   |some ⟨_,_,_,.slice E sz⟩=>match Xm P E with
    |some u=>match JQ u,s id with
     |some G,some (B,.arr false E' J q fz)=>if v=B/\z=J/\z=sz/\u.size=sz/\G.length=sz then some (off+len<=q.length/\fz<=off,.tup [],[(id,v,.arr false E' z (q.take off++List.replicate len G++q.drop (off+len)) fz)])else none
     |_,_=>none
    |none=>none
   |_=>none
  |[.omp id v],T::_=>match Xcm P T,s id with
   |some (k,_),some (B,.mp k2 q)=>if v=B/\k=k2 then some (True,.tup [],[(id,B,.mp k [])])else none
   |_,_=>none
  |_,_=>none
 |.call ⟨.builtin .copy,args,types⟩=>match args.toList.map t,types.toList with
  |[.osl id v z off len,x],T::_=>match Xm P T with
   |some ⟨_,_,_,.slice E sz⟩=>match Xm P E,s id,elems s z x with
    |some u,some (B,.arr false E' J q fz),some (c,src)=>if v=B/\z=J/\z=sz/\u.size=sz then
     some (c/\src.length<=len/\off+len<=q.length/\fz<=off,.v (.int .i64 src.length),[(id,v,.arr false E' z (q.take off++src++q.drop (off+src.length)) fz)])
     else none
    |_,_,_=>none
   |_=>none
  |_,_=>none
 |.call ⟨.builtin .append,args,types⟩=>match args.toList.map t,types.toList with
  |[d,x],[T,T2]=>match Xm P T with
   |some ⟨_,_,_,.slice E z⟩=>match Xm P E with
    |some u=>match JQ u with
     |some G=>if u.size=z/\G.length=z then match Xm P T2 with
      |some ⟨_,_,_,.slice _ _⟩=>match elems s z x with
       |some (c,src)=>XeG P s (KS dst) ver E z u.bytes c src d
       |none=>none
      |some ⟨_,_,_,.int _⟩=>match ivD x with
       |some n=>XeG P s (KS dst) ver E z u.bytes (0<=n/\n<=Xs/\n.toNat*u.bytes<=Xs) (List.replicate n.toNat G) d
       |_=>none
      |_=>none
      else none
     |none=>none
    |none=>none
   |_=>none
  |_,_=>none
 |_=>none
variable {P:Program}
structure Cx where
 G:Nat->Option (List D)
 M0:Mem
 w0:World
 lb:List Nat
 b0:Loc
 M1:Mem
 off:Nat
 rd:Option Nat
 df:List Deferred
@[reducible] def Cx.sub(C:Cx)(n:Nat)(x:Mem×Loc):Cx:=⟨C.G,C.M0,C.w0,C.lb,x.2,x.1,n,none,[]⟩
structure Kp(w0:World)(lb:List Nat)(w:World):Prop where
 os:w.os=w0.os
 tape:w.tape=w0.tape
 output:w.output=w0.output
 size:w0.heap.size<=w.heap.size
 block:∀k,k<w0.heap.size->k∉lb->w.heap[k]? = w0.heap[k]?
def Kp.refl(w:World)(lb:List Nat):Kp w lb w:=⟨rfl,rfl,rfl,Uh _,λ_ _ _=>rfl⟩
structure U7(P:Program)(C:Cx)(s:Heap)(U:Nat->Prop)(M:Mem)(β:Loc)(w:World):Prop where
 mem:MemOK M w
 used:∀id ver x,β id ver=some x->U ver
 obs:∀id v ob,s id=some (v,ob)->∃x,β id v=some x/\ObRep P M β w x ob
 own:∀id v ob b cb,s id=some (v,ob)->β id v=some (some (b,cb))->C.w0.heap.size<=b\/(b∈C.lb/\ob.bx=true)
 inj:∀id v ob id' v' ob' b cb cb',s id=some (v,ob)->s id'=some (v',ob')->β id v=some (some (b,cb))->β id' v'=some (some (b,cb'))->id=id'
 keep:Kp C.w0 C.lb w
 old:∀b o,b<C.w0.heap.size->M b o=C.M0 b o
 le:MLe C.M1 M
 glob:∀g cs,C.G g=some cs->RepC P C.M1 cs g 0
def U7.mono{C:Cx}{s:Heap}{U U':Nat->Prop}{M:Mem}{β:Loc}{w:World}(h:U7 P C s U M β w)(f:∀v,U v->U' v):U7 P C s U' M β w:=
 {h with used:=λi v x e=>f _ (h.used i v x e)}
def MemOK.lt{M:Mem}{w:World}(h:MemOK M w){b o:Nat}{x:Value}(e:M b o=some x):b<w.heap.size:=
 World.block_lt_of_cell? (a:=⟨b,o,none⟩) w (h b o x e).1
def ObRep.lt{M:Mem}{β:Loc}{w:World}{b f:Nat}{ob:Ob}(h:ObRep P M β w (some (b,f)) ob):b<w.heap.size:=by
 cases ob with
 |raw o=>have⟨_,_,e⟩:=h;grind
 |mp kk g=>have⟨_,_,_,ents,clock,e,_⟩:=h;grind
 |arr bx E z g fz=>have⟨j,T,e,_⟩:=h;grind
def ObRep.mono{M M':Mem}{β β':Loc}{w w':World}{x:Option (Nat×Nat)}{ob:Ob}(h:ObRep P M β w x ob)(v:MLe M M')(A:BLe β β')(hw:∀b e,x=some (b,e)->w'.heap[b]? = w.heap[b]?)(p:∀b e,x=some (b,e)->∀o,M' b o=M b o):ObRep P M' β' w' x ob:=by
 cases ob with
 |raw o=>
  cases x with
  |none=>assumption
  |some f=>have⟨b,e⟩:=f;have⟨g,j,k⟩:=h;exact⟨g,λo=>(p b e rfl o).trans (j o),(hw b e rfl).trans k⟩
 |mp kk B=>
  cases x with
  |none=>assumption
  |some f=>have⟨b,e⟩:=f;have⟨g,j,k,ents,clock,q,r,s⟩:=h;exact⟨g,j,λo=>(p b e rfl o).trans (k o),ents,clock,(hw b e rfl).trans q,r.mono v,s⟩
 |arr bx E z B fz=>
  cases x with
  |none=>assumption
  |some f=>have⟨b,e⟩:=f;have⟨D,T,g,j,k,q,r,s,G,H,I,u⟩:=h;refine⟨D,T,(hw b e rfl).trans g,j,k,q,r,s,G,H,λo=>(p b e rfl o).trans (I o),λi d hd=>?_⟩;have⟨y,J,K⟩:=u i d hd;exact⟨y,J,K.mono v (XeS bx A)⟩
def U7.set{C:Cx}{s:Heap}{U:Nat->Prop}{M M':Mem}{β β':Loc}{w w':World}(h:U7 P C s U M β w)(id ver:Nat)(ob:Ob)(b cb:Nat)(hM:MLe M M')(W:BLe β β')(hw:∀k,k≠b->w'.heap[k]? = w.heap[k]?)(hm:∀k,k≠b->∀o,M' k o=M k o)(hmem:∀o x,M' b o=some x->w'.cell? ⟨b,o,none⟩=some x/\x.oneCell'=true)(hβ:β' id ver=some (some (b,cb)))(hob:ObRep P M' β' w' (some (b,cb)) ob)(E:∀f B g Y,f≠id->s f=some (B,g)->β f B≠some (some (b,Y)))(hown:C.w0.heap.size<=b\/(b∈C.lb/\ob.bx=true))(K:b<C.w0.heap.size->∀o,M' b o=M b o)(Z:w'.os=w.os)(G:w'.tape=w.tape)(L:w'.output=w.output)(H:w.heap.size<=w'.heap.size)(I:∀i v x,β' i v=some x->β i v=some x\/v=ver):U7 P C (upd s id (some (ver,ob))) (λv=>U v\/v=ver) M' β' w':=by
 have j:∀f B g x,f≠id->s f=some (B,g)->β' f B=some x->β f B=some x:=by intro f B g x hne z p;obtain⟨y,hy,_⟩:=h.obs f B g z;rw[W _ _ _ hy]at p;rw[hy];exact p
 constructor
 .intro k o x p;by_cases D:k=b
  .grind
  rw[hm k D o]at p;have:=h.mem k o x p;refine⟨?_,this.2⟩;rw[←this.1];simp[World.cell?,hw k D]
 .intro i v x p;rcases I i v x p with p|rfl
  .exact .inl (h.used i v x p)
  omega
 .intro f v g z;by_cases q:f=id
  .simp_all[YC]
  rw[Yb _ _ _ _ q]at z;have⟨x,p,hr⟩:=h.obs f v g z;refine⟨x,W _ _ _ p,hr.mono hM W ?_ ?_⟩
  .rintro k ck rfl;exact hw k λe=>E f v g ck q z (e▸p)
  grind
 .intro f v g k ck z p;by_cases q:f=id
  .simp_all[YC,hβ]
  rw[Yb _ _ _ _ q]at z;exact h.own f v g k ck z (j f v g _ q z p)
 .intro J v1 N A v2 O k c1 c2 r u R hx2;by_cases h1:J=id
  .by_cases S:A=id
   .omega
   subst h1;rw[YC]at r;obtain⟨rfl,rfl⟩:=by simpa using r
   rw[hβ]at R;rw[Yb _ _ _ _ S]at u;grind
  rw[Yb _ _ _ _ h1]at r;have T:=j J v1 N _ h1 r R;by_cases S:A=id
  .subst S;rw[YC]at u;grind
  rw[Yb _ _ _ _ S]at u;exact h.inj J v1 N A v2 O k c1 c2 r u T (j A v2 O _ S u hx2)
 .refine⟨Z.trans h.keep.os,G.trans h.keep.tape,L.trans h.keep.output,UL h.keep.size H,λk D hl=>?_⟩;rw[←h.keep.block k D hl];grind
 .intro k o D;by_cases V:k=b
  .subst V;rw[K D o];exact h.old k o D
  rw[hm k V o];exact h.old k o D
 .exact h.le.trans hM
 exact h.glob
def U7.setNil{C:Cx}{s:Heap}{U:Nat->Prop}{M:Mem}{β β':Loc}{w:World}(h:U7 P C s U M β w)(id ver E z:Nat)(I:BLe β β')(hβ:β' id ver=some none)(q:∀i v x,β' i v=some x->β i v=some x\/v=ver):U7 P C (upd s id (some (ver,.arr false E z [] 0))) (λv=>U v\/v=ver) M β' w:=by
 have g:∀e D f x,e≠id->s e=some (D,f)->β' e D=some x->β e D=some x:=by intro e D f x T p j;obtain⟨y,L,_⟩:=h.obs e D f p;rw[I _ _ _ L]at j;rw[L];exact j
 constructor
 .exact h.mem
 .intro i v x j;rcases q i v x j with j|rfl
  .exact .inl (h.used i v x j)
  omega
 .intro e v f p;by_cases o:e=id
  .grind[YC,ObRep]
  rw[Yb _ _ _ _ o]at p;have⟨x,j,V⟩:=h.obs e v f p;exact⟨x,I _ _ _ j,V.mono (MLe.refl _) I (λ_ _ _=>rfl) (λ_ _ _ _=>rfl)⟩
 .intro e v f k W p j;by_cases o:e=id
  .simp_all[YC,hβ]
  rw[Yb _ _ _ _ o]at p;exact h.own e v f k W p (g e v f _ o p j)
 .intro r N G u O H k c1 Y A B J K;by_cases R:r=id
  .simp_all[YC,hβ]
  by_cases S:u=id
  .simp_all[YC,hβ]
  rw[Yb _ _ _ _ R]at A;rw[Yb _ _ _ _ S]at B;exact h.inj r N G u O H k c1 Y A B (g r N G _ R A J) (g u O H _ S B K)
 .exact h.keep
 .exact h.old
 .exact h.le
 exact h.glob
def Zs(β:Loc)(id ver:Nat)(x:Option (Nat×Nat)):Loc:=λi v=>if i=id/\v=ver then some x else β i v
theorem XF(β:Loc)(id ver:Nat) (x):Zs β id ver x id ver=some x:=by simp[Zs]
def Y9{β:Loc}{id ver:Nat}{x}(h:β id ver=none):BLe β (Zs β id ver x):=by intro i v y e;unfold Zs;grind
def Zj{β:Loc}{id ver:Nat}{x}(i v:Nat) (y) (h:Zs β id ver x i v=some y):β i v=some y\/v=ver:=by unfold Zs at h;grind
def U7.fresh{C:Cx}{s:Heap}{U:Nat->Prop}{M:Mem}{β:Loc}{w:World}(h:U7 P C s U M β w){ver:Nat}(e:¬U ver)(id:Nat):β id ver=none:=by
 cases hb:β id ver with
 |none=>rfl
 |some x=>exact absurd (h.used id ver x hb) e
def XI{z:Nat}:∀{f:List (List D)},(∀e∈f,e.length=z)->f.flatten.length=f.length*z
 |[],_=>by simp
 |e::f,h=>by have k:f.flatten.length=f.length*z:=XI λg j=>h g (WT _ j);grind
def JR{z:Nat}:∀{f:List (List D)},(∀e∈f,e.length=z)->∀(i j:Nat),j<z->f.flatten[i*z+j]? = (f.getD i [])[j]?
 |[],_,i,j,_=>by simp
 |e::f,h,i,j,k=>by
  have g:e.length=z:=h e ac;cases i with
  |zero=>grind
  |succ i=>
   have:¬(i+1)*z+j<e.length:=by rw[g,IR];omega
   rw[List.flatten_cons,Ud ab,g];have o:(i+1)*z+j-z=i*z+j:=by rw[IR];omega
   rw[o,JR (λp q=>h p (by grind)) i j k];simp
def Y0{z:Nat}{f:List (List D)}(h:∀e∈f,e.length=z)(k:Nat):f.flatten[k]? = (f.getD (k / z) [])[k % z]?:=by
 rcases Um z with rfl|g
 .have j:f.flatten=[]:=WG (by rw[XI h];simp);grind
 have:=JR h (k / z) (k % z) (Nat.mod_lt _ g);simp_all[Nat.div_add_mod']
def Xdg(f:List (List D))(h:∀e∈f,e.length=0)(k:Nat):f.flatten[k]? = none:=by have g:f.flatten=[]:=WG (by rw[XI h];simp);grind
def U7.alloc{C:Cx}{s:Heap}{U:Nat->Prop}{M:Mem}{β:Loc}{w w1:World}(h:U7 P C s U M β w)(G:w1.heap=w.heap/\w1.os=w.os/\w1.tape=w.tape/\w1.output=w.output){ver:Nat}(V:¬U ver)(bx:Bool)(id E z:Nat)(q:List (List D))(r:Nat)(g:Array Value)(T:TypeId)(H:g.size=r*z)(W:∀e∈q,e.length=z)(I:q.length<=r)(Y:q.length<=Xs)(hb:q.length*P.bytesOf E<=Xs)(u:∀x∈g,x.oneCell'=true)(A:∀(i:Nat) (d:D),q.flatten[i]? = some d->∃x,g[i]? = some x/\Rep P M (XfD bx β) d x):
 U7 P C (upd s id (some (ver,.arr bx E z q 0))) (λv=>U v\/v=ver) M (Zs β id ver (some (w.heap.size,r))) (w1.alloc (.cells g T)) /\
  BLe β (Zs β id ver (some (w.heap.size,r))):=by
 have Z:=h.fresh V id;have J:BLe β (Zs β id ver (some (w.heap.size,r))):=Y9 Z;have f:∀o,M w.heap.size o=none:=by
  intro o;cases j:M w.heap.size o with
  |none=>rfl
  |some x=>exact absurd (h.mem.lt j) (IE _)
 have⟨R,e2,e3,e4⟩:=G;have p:∀k,k≠w.heap.size->(w1.alloc (.cells g T)).heap[k]? = w.heap[k]?:=by intro k hk;show(w1.heap.push _)[k]? = _;rw[R,Array.getElem?_push,Wj hk]
 have B:(w1.alloc (.cells g T)).heap[w.heap.size]? = some (.cells g T (0,0)):=by show(w1.heap.push _)[w.heap.size]? = _;rw[R];simp
 refine⟨h.set id ver _ w.heap.size r (MLe.refl M) J p (λ_ _ _=>rfl) ?_ (XF ..) ?_ ?_ (.inl h.keep.size) ?_ e2 e3 e4 ?_ Zj,J⟩
 .intro o x j;rw[f o]at j;cases j
 .refine⟨g,T,B,H,W,I,Y,hb,IS _,u,λo=>by simp[f o],λi d hd=>?_⟩;have⟨x,j,K⟩:=A i d hd;exact⟨x,j,K.mono (MLe.refl M) (XeS bx J)⟩
 .intro L v' N O _ hs j;have⟨y,S,K⟩:=h.obs L v' N hs;rw[j]at S;obtain rfl:some (w.heap.size,O)=y:=by simpa using S
  exact absurd K.lt (IE _)
 .intro hlt;exact absurd h.keep.size ab
 simp_all
def U7.write{C:Cx}{s:Heap}{U:Nat->Prop}{M:Mem}{β:Loc}{w:World}(h:U7 P C s U M β w){bx:Bool}{id ver E z fz:Nat}{A es':List (List D)}(B:s id=some (ver,.arr bx E z A fz)){b p:Nat}(hb:β id ver=some (some (b,p))){j cs':Array Value}{T:TypeId}(q:w.heap[b]? = some (.cells j T (0,0)))(G:cs'.size=j.size)(f:es'.length=A.length)(Z:∀e∈es',e.length=z)(r:∀x∈cs',x.oneCell'=true)(H:∀o,o<fz*z->cs'[o]? = j[o]?)(u:∀(i:Nat) (d:D),es'.flatten[i]? = some d->∃x,cs'[i]? = some x/\Rep P M (XfD bx β) d x):
 U7 P C (upd s id (some (ver,.arr bx E z es' fz))) U M β (w.setRow b cs'):=by
 have⟨x,I,hr⟩:=h.obs id ver _ B;obtain rfl:some (b,p)=x:=by simp_all
 have⟨J,T0,k1,k2,k3,k4,k5,k6,k7,k8,k9,k10⟩:=hr;have⟨rfl,rfl⟩:j=J/\T=T0:=by simp_all
 have g:∀k,k≠b->(w.setRow b cs').heap[k]? = w.heap[k]?:=λk hk=>setRow_other w b k cs' hk;have y:=setRow_heap w b j cs' T (0,0) q;have:=h.set (M':=M) (β':=β) (w':=w.setRow b cs') id ver (.arr bx E z es' fz) b p (MLe.refl M) (BLe.refl β) g (λ_ _ _=>rfl) ?_ hb ?_ ?_ (h.own id ver (.arr bx E z A fz) b p B hb:_\/(_/\bx=true)) (λ_ _=>rfl) rfl rfl rfl ac (λ_ _ _ e=>.inl e)
 .exact this.mono λv Y=>by
   rcases Y with Y|rfl
   .omega
   exact h.used id _ _ hb
 .intro o x I;have K:=k9 o;rw[I]at K;split at K
  .rename_i L;have:(w.setRow b cs').cell? ⟨b,o,none⟩=cs'[o]?:=cell_setRow_same w b o j cs' T (0,0) q;rw[this,H o L];exact⟨K.symm,(h.mem b o x I).2⟩
  simp_all
 .refine⟨cs',T,y,by rw[G];exact k2,Z,by rw[f];exact k4,by rw[f];exact k5,by rw[f];exact k6,by rw[f];exact k7,r,λo=>?_,u⟩;simp_all
 intro N v' O R S V W;exact S (h.inj N v' O id ver _ b R p V B W hb)
variable {P:Program}
def Yc{t:TypeId}{ty:OF}(h:Xm P t=some ty):∃i d,P.info? t=some i/\P.underlying t=some d/\i.zero=some ty.zero/\i.size=ty.size/\i.bytes=ty.bytes/\VN P d=ty.k:=by unfold Xm at h;grind
def YD{t:TypeId}{ty:OF}(h:Xm P t=some ty)(w:World):(sizeOf t).run P w=.ok ty.size w:=by have⟨i,d,e,_,_,f,_⟩:=Yc h;simp[sizeOf,typeInfo,e,f]
def KB{t:TypeId}{ty:OF}(h:Xm P t=some ty)(w:World):(zeroValue t).run P w=.ok ty.zero w:=by have⟨i,d,e,_,f,_⟩:=Yc h;simp[zeroValue,typeInfo,e,f]
def Xa1{t:TypeId}{ty:OF}(h:Xm P t=some ty):P.cellsOf t=ty.size:=by have⟨i,d,e,_,_,f,_⟩:=Yc h;simp[Program.cellsOf,e,f]
def Vh{t:TypeId}{ty:OF}(h:Xm P t=some ty):P.bytesOf t=ty.bytes:=by have⟨i,d,e,_,_,_,f,_⟩:=Yc h;simp[Program.bytesOf,e,f]
def K2{t:TypeId}{ty:OF}(h:Xm P t=some ty)(w:World):(isAgg t).run P w=.ok ty.isAgg w:=by have⟨i,d,_,e,_,_,_,f⟩:=Yc h;unfold isAgg;simp only[Sem.run_bind,run_underlying e,Result.andThen_ok];unfold OF.isAgg;rw[←f];cases d<;>simp[VN]
def XX{t:TypeId}{a b:Nat}{z:Value}{E sz:Nat}(h:Xm P t=some ⟨a,b,z,.slice E sz⟩):P.underlying t=some (.slice E)/\sz=P.cellsOf E:=by have⟨i,d,_,f,_,_,_,e⟩:=Yc h;cases d<;>simp[VN]at e;grind
def K3{t:TypeId}{a b:Nat}{z:Value}{n E sz:Nat}(h:Xm P t=some ⟨a,b,z,.array n E sz⟩):P.underlying t=some (.array n E)/\sz=P.cellsOf E:=by have⟨i,d,_,f,_,_,_,e⟩:=Yc h;cases d<;>simp[VN]at e;grind
def XfH{t:TypeId}{a b:Nat}{z:Value}{k:IntKind}(h:Xm P t=some ⟨a,b,z,.int k⟩):P.underlying t=some (.int k):=by have⟨i,d,_,f,_,_,_,e⟩:=Yc h;cases d<;>simp[VN]at e;simp_all
def Xmp{t:TypeId}{a b:Nat}{z:Value}(h:Xm P t=some ⟨a,b,z,.bool⟩):P.underlying t=some .bool:=by have⟨i,d,_,f,_,_,_,e⟩:=Yc h;cases d<;>simp[VN]at e;omega
def Vi{t:TypeId}{a b:Nat}{z:Value}{j:List (Nat×Nat×Nat)}(h:Xm P t=some ⟨a,b,z,.struct j⟩):
 ∃fields,P.underlying t=some (.struct fields)/\(j=fields.toList.map λf=>(f.offset,P.cellsOf f.type,f.type))/\∀fd∈fields.toList,((P.info? fd.type).map (·.size)).isSome=true:=by
 have⟨i,d,_,k,_,_,_,e⟩:=Yc h;have g:Xmm P d=true:=by
  unfold Xm at h;split at h
  .simp_all
  grind
 cases d<;>simp only[VN,reduceCtorEq]at e;rename_i fields;simp at e;exact⟨fields,k,e.symm,λfd o=>WV.1 g fd o⟩
def Jj{t:TypeId}{n:Nat}(e:P.cellsOf t=n)(g:n≠0)(w:World):(sizeOf t).run P w=.ok n w:=by
 unfold Program.cellsOf at e;cases f:P.info? t with
 |none=>simp_all
 |some i=>simp_all[f,sizeOf,typeInfo,e]
def U1(b o n:Nat):(⟨b,o,none⟩:Addr).add n=⟨b,o+n,none⟩:=by unfold Addr.add;simp
def XgQ{M:Mem}{β:Loc}(x:Value):Rep P M β (Xmn x) x:=by
 unfold Xmn;split
 .simp[Rep]
 split
 .rename_i h;simp[Rep,Xk4 h]
 simp[Rep]
def Xat{M:Mem}{β:Loc}(x:Value):Rep P M β (ofV x) x:=by
 unfold ofV;split
 .rename_i e;refine⟨e.toList,rfl,RepL.of ac λi d x hd f=>?_⟩;simp only[US,Uo]at hd;obtain⟨y,g,rfl⟩:=hd;obtain rfl:y=x:=by simp_all
  exact XgQ _
 exact XgQ _
def Xdh{M:Mem}{β:Loc}{d:D}{x:Value}(e:d.one=true)(h:Rep P M β d x):x.oneCell'=true/\x.cells=#[x]:=by
 have key:x.oneCell'=true:=by
  cases d<;>simp[D.one]at e<;>simp only[Rep]at h
  .simp_all
  .obtain⟨a,rfl⟩:=h;rfl
  .obtain⟨_,_,_,a,c,rfl,_⟩:=h;rfl
  .rcases h with⟨_,_,_,a,rfl⟩|⟨_,_,_,_,_,rfl,_⟩<;>rfl
  .obtain⟨_,_,_,rfl⟩:=h;rfl
  .obtain⟨_,_,_,rfl,_⟩:=h;rfl
  .obtain⟨_,_,rfl,_⟩:=h;rfl
  .obtain⟨_,rfl,_⟩:=h;rfl
  obtain⟨_,_,_,rfl⟩:=h;rfl
 cases x<;>simp_all[Value.oneCell',Value.cells]
def K4{M:Mem}{β:Loc}{d:D}{x:Value}{ds:List D}(h:d.cells=some ds)(e:Rep P M β d x):
 RepL P M β ds x.cells.toList/\∀y∈x.cells,y.oneCell'=true:=by
 unfold D.cells at h;split at h
 .rename_i o;split at h
  .rename_i f;obtain rfl:o=ds:=by simpa using h
   obtain⟨vs,rfl,e⟩:=e;refine⟨by simpa [Value.cells]using e,λy q=>?_⟩;have j:y∈vs:=by simpa [Value.cells]using q
   obtain⟨i,s,rfl⟩:=Wv j;have p:=e.length;have⟨y,g,k⟩:=e.get i (o[i]'ab) ac;have:vs[i]? = some vs[i]:=by simp
   rw[this]at g;obtain rfl:vs[i]=y:=by simpa using g
   exact(Xdh (WV.1 f _ (Wt _)) k).1
  simp_all
 split at h
 .rename_i r;obtain rfl:[d]=ds:=by simpa using h
  have⟨k1,k2⟩:=Xdh r e;rw[k2];exact⟨by exact⟨x,[],rfl,e,rfl⟩,by simpa using k1⟩
 simp_all
def Xa2{M:Mem}{β:Loc}{d:D}{x:Value}{e:List D}(h:d.cells=some e)(f:Rep P M β d x):x.cells.size=e.length:=by have:=(K4 h f).1.length;omega
def XjJ{C:Cx}{s:Heap}{U:Nat->Prop}{M:Mem}{β:Loc}{w:World}(I:U7 P C s U M β w){d:D}{y:Value}{c:Prop}{g:List D}{o z:Nat}(h:XfE s d=some (c,g,o,z))(K:c)(q:Rep P M β d y):
 ∃b r,y=.pointer (some ⟨b,r+o,none⟩)/\g.length=z/\∀(i:Nat) (d:D),g[i]? = some d->∃x,w.cell? ⟨b,r+i,none⟩=some x/\Rep P M β d x:=by
 unfold XfE at h;split at h
 .rename_i z' u v;have⟨rfl,rfl,rfl,rfl⟩:True=c/\u=g/\v=o/\z'=z:=by simpa using h
  obtain⟨L,b,r,rfl,q⟩:=q;refine⟨b,r,rfl,L,λi d hd=>?_⟩;have⟨x,f,e⟩:=q.get i d hd;exact⟨x,(I.mem b _ x f).1,e.mono (MLe.refl _) (BLe.zero _)⟩
 .rename_i id ver z' k v;split at h
  .rename_i G bx E N A fz O;split at h
   .rename_i R;have⟨rfl,rfl⟩:=R;have⟨rfl,rfl,rfl,rfl⟩:(k<A.length)=c/\A.getD k []=g/\v=o/\z'=z:=by simpa using h
    obtain⟨b,S,hb,rfl⟩:=q;have⟨x,f,V⟩:=I.obs id ver _ O;rw[hb]at f;obtain rfl:some (b,S)=x:=by simpa using f
    have⟨W,T,k1,k2,H,Z,k5,k6,k7,k8,k9,B⟩:=V;have p:(A.getD k []).length=z':=by rw[Wk,Wb K];exact H _ (Wt _)
    refine⟨b,k*z',rfl,p,λj d hd=>?_⟩;have Y:j<z':=by
     rcases Ux j z' with J|J
     .exact J
     rw[WN ab]at hd;cases hd
    have⟨x,f,e⟩:=B (k*z'+j) d (by rw[JR H _ _ Y];exact hd);exact⟨x,by rw[cell_of_row w b _ W T (0,0) k1];exact f,e.mono (MLe.refl _) (Xpv bx β)⟩
   cases h
  cases h
 simp_all
def VP{α:Type}(l:List α)(o n i:Nat):((l.drop o).take n)[i]? = if i<n then l[o+i]? else none:=by grind
def Xdi{t:TypeId}{ty:OF}(h:Xm P t=some ty)(w:World)(M:Mem)(β:Loc)(b k o z:Nat)(e:List D)(N:e.length=z)(G:o+ty.size<=z)(H:∀(i:Nat) (d:D),e[i]? = some d->∃x,w.cell? ⟨b,k+i,none⟩=some x/\Rep P M β d x)(p:ty.isAgg=false->ty.size=1):
 ∃v,(loadVar t ⟨b,k+o,none⟩).run P w=.ok v w/\Rep P M β (Ji ty.isAgg ((e.drop o).take ty.size)) v:=by
 have q:∃vs:List Value,vs.length=ty.size/\(∀(j:Nat)v,vs[j]? = some v->w.cell? ((⟨b,k+o,none⟩:Addr).add j)=some v)/\RepL P M β ((e.drop o).take ty.size) vs:=by
  have:∀n,n<=ty.size->∃vs:List Value,vs.length=n/\(∀(j:Nat)v,vs[j]? = some v->w.cell? ((⟨b,k+o,none⟩:Addr).add j)=some v)/\RepL P M β ((e.drop o).take n) vs:=by
   intro n;induction n with
   |zero=>simp[RepL]
   |succ n I=>
    intro O;obtain⟨vs,r,y,u⟩:=I ab;have J:o+n<e.length:=ab;obtain⟨x,A,R⟩:=H (o+n) e[o+n] ac;refine⟨vs++[x],by grind,λj v g=>?_,?_⟩
    .rw[List.getElem?_append]at g;split at g
     .simp_all
     rename_i K;have B:j=n:=by
      rcases Ux n j with L|L
      .rw[WN ai]at g;cases g
      omega
     subst B;simp[r]at g;subst g;rw[U1];grind
    have:(e.drop o).take (n+1)=(e.drop o).take n++[e[o+n]]:=by rw[List.take_succ_eq_append_getElem (by grind)];simp
    rw[this];exact u.append (by simp_all[RepL])
  exact this _ (Uh _)
 have⟨vs,r,y,u⟩:=q;cases f:ty.isAgg with
 |true=>
  refine⟨.agg ⟨vs⟩,?_,?_⟩
  .have:=run_loadCells_list (P:=P) w ⟨b,k+o,none⟩ vs y;rw[r]at this;simp[loadVar,K2 h,YD h,f,this]
  simp_all[Ji,if_true,Rep]
 |false=>
  have s:=p f;rw[s]at r u;match vs,r with
  |[x],_=>
   have A:=y 0 x ac;rw[U1]at A;refine⟨x,?_,?_⟩
   .simp_all[loadVar,K2,h,f,run_load,A]
   simp only[Ji,s,Ir,if_false];have:=u.length;match E:(e.drop o).take 1,this with
   |[d],_=>simp_all[E,RepL]
variable {P:Program}
def VOK(P:Program)(C:Cx)(s:Heap)(u:Up)(U:Nat->Prop)(ver:Nat)(M:Mem)(β:Loc)(r:Result Value)(d:D):Prop:=
 ∃M' β' w' v,r=.ok v w'/\U7 P C (app s u) (λx=>U x\/x=ver) M' β' w'/\Rep P M' β' d v/\MLe M M'/\BLe β β'
def OpOK(P:Program)(C:Cx)(s:Heap)(u:Up)(U:Nat->Prop)(ver:Nat)(M:Mem)(β:Loc)(r:Result Next)(d:D):Prop:=
 ∃M' β' w' v,(r=.ok (.value v) w'\/r=.ok .skip w'/\v=undef)/\U7 P C (app s u) (λx=>U x\/x=ver) M' β' w'/\Rep P M' β' d v/\MLe M M'/\BLe β β'
section
variable {C:Cx}{s:Heap}{U:Nat->Prop}{ver:Nat}{M:Mem}{β:Loc}{w:World}
def VOK.op{u:Up}{sem:Sem Value}{d:D}(h:VOK P C s u U ver M β (sem.run P w) d):OpOK P C s u U ver M β ((do pure (Next.value (←sem)):Sem Next).run P w) d:=by have⟨M',β',w',v,e,rest⟩:=h;exact⟨M',β',w',v,.inl (by simp[e]),rest⟩
def VOK.same(I:U7 P C s U M β w){r:Result Value}{d:D}{v:Value}(e:r=.ok v w)(h:Rep P M β d v):VOK P C s [] U ver M β r d:=
 ⟨M,β,w,v,e,I.mono λ_ f=>.inl f,h,MLe.refl _,BLe.refl _⟩
def Z3(k:IntKind)(n:Int):wfV (.int k (k.wrap n)):=by simp only[wfV];cases k<;>simp only[IntKind.wrap,IntKind.min,IntKind.max,IntKind.bits,IntKind.signed,UK,Uf,Ir,if_true,if_false]<;>(try split)<;>(try simp only[decide_eq_true_eq,ge_iff_le,Int.not_le]at *)<;>constructor<;>omega
def YZ(k:IntKind)(n:Int)(h:wfV (.int k n)):Rep P M β (.v (.int k n)) (.int k n):=by simp[Rep,h]
def Zt(b:Bool):Rep P M β (.v (.bool b)) (.bool b):=by simp[Rep,wfV]
def XjK(k:IntKind):k.min<=0:=by cases k<;>decide
def XjL(k:IntKind):0<=k.max:=by cases k<;>decide
def Xpw(a b e hi:Int)(g:e<=a)(j:a<=hi)(k:e<=0)(o:0<=hi):e<=a.tmod b/\a.tmod b<=hi:=by
 have p:(a.tmod b).natAbs<=a.natAbs:=by rw[Int.natAbs_tmod];exact Nat.mod_le _ _
 rcases Int.le_total 0 a with h|h
 .have f:0<=a.tmod b:=Int.tmod_nonneg b h;omega
 have f:a.tmod b = -((-a).tmod b):=by rw[Int.neg_tmod];omega
 have e3:0<=(-a).tmod b:=Int.tmod_nonneg b ab;omega
def Xpx(a:Int)(n:Nat)(f hi:Int)(o:f<=a)(r:a<=hi)(u:f<=0)(v:0<=hi):f<=a.fdiv (2 ^ n)/\a.fdiv (2 ^ n)<=hi:=by
 have hp:(0:Int)<2 ^ n:=Int.pow_pos ab;rw[Int.fdiv_eq_ediv_of_nonneg _ (Int.le_of_lt hp)];have x:=Int.emod_nonneg a (show(2 ^ n:Int)≠0 by omega);have j:=Int.emod_lt_of_pos a hp;have k:=Int.mul_ediv_add_emod a (2 ^ n);generalize a / 2 ^ n=q at *;generalize (2:Int) ^ n=p at *;constructor
 .rcases Int.le_total 0 q with e|e
  .omega
  rcases Int.lt_or_le q 0 with g|g
  .have h:p*(q+1)<=1*(q+1):=Int.mul_le_mul_of_nonpos_right (show 1<=p by omega) ab;rw[Int.mul_add]at h;omega
  omega
 rcases Int.le_total q 0 with e|e
 .omega
 have h:1*q<=p*q:=WW (show 1<=p by omega) e;omega
def Xpy{op:BinOp}{k:IntKind}{a b:Int}{c:Prop}{r:Value}(h:VJ op k a b=some (c,r))(e:c)(T:TypeId)(f:wfV (.int k a)):(binOp op T (.int k a) (.int k b)).run P w=.ok r w/\wfV r:=by
 cases op<;>simp only[VJ,Wo,Wx,reduceCtorEq]at h<;>obtain⟨rfl,rfl⟩:=h
 .exact⟨by simp[binOp,Op.intArith],Z3 _ _⟩
 .exact⟨by simp[binOp,Op.intArith],Z3 _ _⟩
 .exact⟨by simp[binOp,Op.intArith],Z3 _ _⟩
 .exact⟨by simp[binOp,Op.intDiv,e],Z3 _ _⟩
 .refine⟨by simp[binOp,Op.intDiv,e],?_⟩;exact Xpw a b _ _ f.1 f.2 (XjK k) (XjL k)
 .exact⟨by simp[binOp,Op.intBits],Z3 _ _⟩
 .exact⟨by simp[binOp,Op.intBits],Z3 _ _⟩
 .exact⟨by simp[binOp,Op.intBits],Z3 _ _⟩
 .exact⟨by simp[binOp,Op.intBits],Z3 _ _⟩
 .exact⟨by simp[binOp,Op.intCmp],trivial⟩
 .exact⟨by simp[binOp,Op.intCmp],trivial⟩
 .exact⟨by simp[binOp,Op.intCmp],trivial⟩
 .exact⟨by simp[binOp,Op.intCmp],trivial⟩
 .exact⟨by simp[binOp,Op.intCmp],trivial⟩
 exact⟨by simp[binOp,Op.intCmp],trivial⟩
def kTy:Option IntKind->TypeDesc
 |some k=>.int k
 |none=>.bool
def XeT{M:Mem}{β:Loc}{k:Option IntKind}{x y:D}{b:Bool}(h:XfF k x y=some b){vx g:Value}(o:Rep P M β x vx)(p:Rep P M β y g)(t:TypeId)(ht:P.underlying t=some (kTy k))(d:Nat)(w:World):
 (Op.equalIn (d+1) t vx g).run P w=.ok b w:=by
 unfold XfF at h;split at h
 .rename_i q j a k e;split at h
  .rename_i f;subst f;obtain rfl:(a==e)=b:=by simpa using h
   rw[o.1,p.1];exact run_equalIn_int w d t j q a e ht
  cases h
 .rename_i a e;obtain rfl:(a==e)=b:=by simpa using h
  rw[o.1,p.1];exact run_equalIn_bool' w d t a e ht
 simp_all
def Xdj{M:Mem}{β:Loc}:∀(A:List Field) (n d:Nat) (ks:List (Option IntKind)) (g h:List D) (b:Bool) (vx q:List Value) (w:World),ZW P n A=some ks->Yf ks g h=some b ->
 (∀(i:Nat) (d:D),g[i]? = some d->∃v,vx[n+i]? = some v/\Rep P M β d v)->(∀(i:Nat) (d:D),h[i]? = some d->∃v,q[n+i]? = some v/\Rep P M β d v) ->
 (Op.eqFields (d+1) ⟨vx⟩ ⟨q⟩ A).run P w=.ok b w
 |[],n,d,ks,g,h,b,vx,q,w,j,r,_,_=>by
  have rfl:[]=ks:=by simp_all[ZW]
  match g,h with
  |[],[]=>simp_all[Yf,Op.eqFields]
  |x::g,_=>simp_all[Yf]
  |[],y::h=>simp_all[Yf]
 |f::A,n,d,ks,g,h,b,vx,q,w,j,r,J,K=>by
  unfold ZW at j;split at j
  .rename_i L;simp at L;have⟨o,u⟩:=L;have key:∃k e,ks=k::e/\ZW P (n+1) A=some e/\P.underlying f.type=some (kTy k):=by
    split at j
    .rename_i k E;simp at j;obtain⟨e,G,rfl⟩:=j;exact⟨some k,e,rfl,G,E⟩
    .rename_i E;simp at j;obtain⟨e,G,rfl⟩:=j;exact⟨none,e,rfl,G,E⟩
    cases j
   obtain⟨k,e,rfl,z,B⟩:=key;match g,h with
   |[],_=>simp[Yf]at r
   |x::g,[]=>simp[Yf]at r
   |x::g,y::h=>
    simp only[Yf]at r;split at r
    .rename_i a N O hb;obtain rfl:(a&&N)=b:=by simpa using r
     have⟨v1,R,S⟩:=J 0 x ac;have⟨v2,T,V⟩:=K 0 y ac;have p:(isAgg f.type).run P w=.ok false w:=by unfold isAgg;cases k<;>simp[run_underlying B,kTy]
     have W:(part f.type ⟨vx⟩ f.offset).run P w=.ok v1 w:=by
      have:vx[f.offset]? = some v1:=by rw[o];simpa using R
      simp[part,p,this]
     have Y:(part f.type ⟨q⟩ f.offset).run P w=.ok v2 w:=by
      have:q[f.offset]? = some v2:=by rw[o];simpa using T
      simp[part,p,this]
     have Z:=XeT O S V f.type B d w
     have ih:=Xdj A (n+1) d e g h N vx q w z hb
      (λi d hd=>by
       obtain⟨v,H,I⟩:=J (i+1) d (by exact hd)
       exact⟨v,by rw[←H];congr 1;omega,I⟩)
      (λi d hd=>by
       have⟨v,H,I⟩:=K (i+1) d (by simpa using hd)
       exact⟨v,by rw[←H];congr 1;omega,I⟩)
     simp only[Op.eqFields,u,ne_eq,not_false_eq_true,if_true,Sem.run_bind,W,Y,Z,Result.andThen_ok];cases a
     .simp
     simp[ih]
    cases r
  simp_all
def XgR{M:Mem}{β:Loc}{k:Option IntKind}{e:TypeId}(o:P.underlying e=some (kTy k)){vx p:List Value}{w:World}(d:Nat):∀(m s:Nat) (f g:List D) (b:Bool),
 Yf (List.replicate m k) f g=some b->(∀i d,f[i]? = some d->∃v,vx[s+i]? = some v/\Rep P M β d v)->(∀i d,g[i]? = some d->∃v,p[s+i]? = some v/\Rep P M β d v) ->
 (Op.eqItems (d+1) e 1 ⟨vx⟩ ⟨p⟩ (List.range' s m)).run P w=.ok b w
 |0,s,f,g,b,h,_,_=>by
  match f,g with
  |[],[]=>simp_all[Yf,Op.eqItems]
  |x::f,_=>simp_all[Yf]
  |[],y::g=>simp_all[Yf]
 |m+1,s,f,g,b,h,u,z=>by
  rw[List.replicate_succ]at h;match f,g with
  |[],_=>simp_all[Yf]
  |x::f,[]=>simp_all[Yf]
  |x::f,y::g=>
   simp only[Yf]at h;split at h
   .rename_i a A B hb;obtain rfl:(a&&A)=b:=by simpa using h
    have⟨v1,E,G⟩:=u 0 x ac;have⟨v2,H,I⟩:=z 0 y ac;have j:(isAgg e).run P w=.ok false w:=by unfold isAgg;cases k<;>simp[run_underlying o,kTy]
    have J:(part e ⟨vx⟩ (s*1)).run P w=.ok v1 w:=by
     have:vx[s]? = some v1:=by simpa using E
     simp[part,j,this]
    have K:(part e ⟨p⟩ (s*1)).run P w=.ok v2 w:=by
     have:p[s]? = some v2:=by simpa using H
     simp[part,j,this]
    have L:=XeT B G I e o d w;have N:=XgR o d (w:=w) m (s+1) f g A hb (λi d hd=>by
     obtain⟨v,q,r⟩:=u (i+1) d (by exact hd)
     exact⟨v,by rw[←q];congr 1;omega,r⟩)
     (λi d hd=>by
      obtain⟨v,q,r⟩:=z (i+1) d (by exact hd)
      exact⟨v,by rw[←q];congr 1;omega,r⟩)
    simp only[List.range'_succ,Op.eqItems,Sem.run_bind,J,K,L,Result.andThen_ok];cases a
    .simp
    exact N
   simp_all
def XcF{M:Mem}{β:Loc}{k:Option IntKind}{e t:TypeId}{n:Nat}{i:TypeInfo}(ht:P.underlying t=some (.array n e))(f:P.underlying e=some (kTy k))(p:P.info? e=some i)(q:P.cellsOf e=1){vx o:List Value}{w:World}(d:Nat){g j:List D}{b:Bool}(h:Yf (List.replicate n k) g j=some b)(r:∀(i:Nat) (d:D),g[i]? = some d->∃v,vx[i]? = some v/\Rep P M β d v)(u:∀(i:Nat) (d:D),j[i]? = some d->∃v,o[i]? = some v/\Rep P M β d v):
 (Op.equalIn (d+2) t (.agg ⟨vx⟩) (.agg ⟨o⟩)).run P w=.ok b w:=by rw[run_equalIn_array w (d+1) _ _ ht p,q,List.range_eq_range'];exact XgR f d (w:=w) n 0 g j b h (by simpa using r) (by simp_all)
def Xpz(I:U7 P C s U M β w){op:BinOp}{T:TypeId}{x y:D}{c:Prop}{d:D}(h:YU P op T x y=some (c,d))(O:c){vx G:Value}(p:Rep P M β x vx)(q:Rep P M β y G)(z A:Operand):
 VOK P C s [] U ver M β ((do eqGuard op T z A vx G;binOp op T vx G:Sem Value).run P w) d:=by
 unfold YU at h;split at h
 .rename_i k a R b;obtain⟨rfl,E⟩:=p;obtain⟨rfl,S⟩:=q;have j:(eqGuard op T z A (.int k a) (.int R b)).run P w=.ok () w:=by unfold eqGuard;cases op<;>simp
  split at h
  .obtain⟨rfl,rfl⟩:=h;refine .same I (v:=.int k (k.wrap (a*2 ^ min b.toNat k.bits))) ?_ (YZ _ _ (Z3 _ _));have:¬b<0:=ab;simp[j,binOp,Op.shift,this]
  .obtain⟨rfl,rfl⟩:=h;have:¬b<0:=ab;refine .same I (v:=.int k (a.fdiv (2 ^ min b.toNat k.bits))) ?_ (YZ _ _ ?_)
   .simp[j,binOp,Op.shift,this]
   exact Xpx a _ _ _ E.1 E.2 (XjK k) (XjL k)
  split at h
  .rename_i H;subst H;simp only[Uo]at h;obtain⟨⟨c',r⟩,hb,L⟩:=h;simp only[Wx]at L;obtain⟨rfl,rfl⟩:=L;obtain⟨V,W⟩:=Xpy (P:=P) (w:=w) hb O T E;exact .same I (v:=r) (by simp[j,V]) (by simp[Rep,W])
  cases h
 .rename_i a b;simp only[Rep]at p q;obtain⟨rfl,E⟩:=p;obtain⟨rfl,S⟩:=q;have j:(eqGuard op T z A (.bool a) (.bool b)).run P w=.ok () w:=by unfold eqGuard;cases op<;>simp
  split at h
  .rename_i z1 z2 z3 Y;have u:=run_equalIn_bool' w 9999 T a b (Xmp Y);split at h
   .simp only[Wo,Wx]at h;obtain⟨rfl,rfl⟩:=h;refine .same I (v:=.bool (a==b)) ?_ (Zt _);simp[j,binOp,Op.equal,Op.maxDepth,u]
   .simp only[Wo,Wx]at h;obtain⟨rfl,rfl⟩:=h;refine .same I (v:=.bool (!(a==b))) ?_ (Zt _);simp[j,binOp,Op.equal,Op.maxDepth,u]
   cases h
  cases h
 .rename_i J K;split at h
  .rename_i N f;simp only[Rep]at p q;obtain⟨vxs,rfl,p⟩:=p;obtain⟨vys,rfl,q⟩:=q;unfold YJ at f;split at f
   .rename_i fs o;split at f
    .cases f
    rename_i g;simp only[Ip,not_or,I5]at g;have j:(eqGuard op T z A (.agg ⟨vxs⟩) (.agg ⟨vys⟩)).run P w=.ok () w:=run_eqGuard_agg w op T z A _ _ g.2;have B:P.fieldsOf T=fs:=by simp[Program.fieldsOf,o]
    have u:∀b,Yf N J K=some b->(Op.equalIn 10000 T (.agg ⟨vxs⟩) (.agg ⟨vys⟩)).run P w=.ok b w:=by intro b hb;rw[run_equalIn_struct w 9999 T ⟨vxs⟩ ⟨vys⟩ (by rw[B];exact o) g.1,B];exact Xdj fs.toList 0 9998 N J K b vxs vys w f hb (λi d hd=>by simpa using p.get i d hd) (λi d hd=>by simpa using q.get i d hd)
    split at h
    .rename_i b hb;simp only[Wo,Wx]at h;obtain⟨rfl,rfl⟩:=h;refine .same I (v:=.bool b) ?_ (Zt _);simp[j,run_eql_struct,u b hb]
    .rename_i b hb;simp only[Wo,Wx]at h;obtain⟨rfl,rfl⟩:=h;refine .same I (v:=.bool (!b)) ?_ (Zt _);simp[j,run_neq_struct,u b hb]
    cases h
   .rename_i n e o;split at f
    .cases f
    rename_i g;simp only[I5]at g;split at f
    .rename_i k i H Z;split at f
     .rename_i h1;obtain rfl:=Wz f;have j:(eqGuard op T z A (.agg ⟨vxs⟩) (.agg ⟨vys⟩)).run P w=.ok () w:=run_eqGuard_agg w op T z A _ _ g;have u:∀b,Yf (List.replicate n (some k)) J K=some b->(Op.equalIn 10000 T (.agg ⟨vxs⟩) (.agg ⟨vys⟩)).run P w=.ok b w:=λb hb=>
       XcF (k:=some k) o H Z h1 9998 hb (λi d hd=>by simpa using p.get i d hd) (λi d hd=>by simpa using q.get i d hd)
      split at h
      .rename_i b hb;simp only[Wo,Wx]at h;obtain⟨rfl,rfl⟩:=h;refine .same I (v:=.bool b) ?_ (Zt _);simp[j,run_eql_struct,u b hb]
      .rename_i b hb;simp only[Wo,Wx]at h;obtain⟨rfl,rfl⟩:=h;refine .same I (v:=.bool (!b)) ?_ (Zt _);simp[j,run_neq_struct,u b hb]
      cases h
     cases f
    cases f
   cases f
  cases h
 simp_all
end
variable {P:Program}
def XfI(off:Nat):∀(e:List Value) (k:Nat) (cells:Array Value),off+k+e.length<=cells.size ->
 (((e.zipIdx k).foldl (λ(f:Array Value) (p:Value×Nat)=>f.setIfInBounds (off+p.2) p.1) cells).toList=cells.toList.take (off+k)++e++cells.toList.drop (off+k+e.length))
 |[],k,cells,_=>by simp
 |v::e,k,cells,h=>by simp at h;rw[List.zipIdx_cons,IA,XfI off e (k+1) _ ai];have:=list_seg_step cells.toList (off+k) v e (by exact h);grind
def XeI(e:List D)(c:Nat)(f:List D)(h:c+f.length<=e.length):(Kl e c f).length=e.length:=by grind[Kl]
def XiH(e:List D)(c:Nat)(f:List D)(h:c+f.length<=e.length)(i:Nat):(Kl e c f)[i]? = if i<c then e[i]? else if i<c+f.length then f[i-c]? else e[i]?:=by unfold Kl;grind
def Vj{α:Type}(e:List α)(c:Nat)(f:List α)(h:c+f.length<=e.length)(i:Nat):(e.take c++f++e.drop (c+f.length))[i]? = if i<c then e[i]? else if i<c+f.length then f[i-c]? else e[i]?:=by grind
def RepL.take{M:Mem}{β:Loc}{f:List D}{g:List Value}(h:RepL P M β f g)(n:Nat):RepL P M β (f.take n) (g.take n):=by
 have:=h.length;refine RepL.of ai λi d x hd e=>?_;rw[Ur]at hd e;split at hd
 .rename_i k;rw[Wm k]at e;have⟨y,j,o⟩:=h.get i d hd;rw[e]at j;obtain rfl:x=y:=by simpa using j
  exact o
 simp_all
def RepL.drop{M:Mem}{β:Loc}{e:List D}{f:List Value}(h:RepL P M β e f)(n:Nat):RepL P M β (e.drop n) (f.drop n):=by have:=h.length;refine RepL.of ai λi d x hd g=>?_;rw[UN]at hd g;have⟨y,j,k⟩:=h.get _ d hd;simp_all
def Xdk{M:Mem}{β:Loc}(place place':Nat->Option (Nat×Nat))(hp:∀i x,place i=some x->place' i=some x):∀(parts:List (Nat×D)) (vparts:List (Nat×Value)) (f:List D) (vs:Array Value) (r:List D),
 Xdb place f parts=some r->RepL P M β f vs.toList->parts.map (·.1)=vparts.map (·.1)->RepL P M β (parts.map (·.2)) (vparts.map (·.2)) ->
 ∃g,Instr.fill place' vs vparts=some g/\RepL P M β r g.toList
 |[],vparts,f,vs,r,h,j,k,_=>by simp_all[Xdb,Instr.fill]
 |(i,d)::parts,vparts,f,vs,r,h,j,k,B=>by
  match vparts,k with
  |(R,v)::vparts,k=>
   simp at k;have⟨rfl,k⟩:=k;have⟨x,xs,e,hd,B⟩:=B;have⟨rfl,rfl⟩:v=x/\vparts.map (·.2)=xs:=by simpa using e
   unfold Xdb at h;split at h
   .rename_i off sz J E o;split at h
    .rename_i G;have⟨q,L⟩:=G;have⟨u,K⟩:=K4 o hd;have y:=j.length;have z:v.cells.size=sz:=by rw[Xa2 o hd,q]
     have H:=XfI off v.cells.toList 0 vs (by simp at y⊢;omega);have A:RepL P M β (Kl f off J) ((v.cells.zipIdx.foldl (λ(f:Array Value) (p:Value×Nat)=>f.setIfInBounds (off+p.2) p.1) vs).toList):=by
      have N:v.cells.zipIdx.foldl (λ(f:Array Value) (p:Value×Nat)=>f.setIfInBounds (off+p.2) p.1) vs=(v.cells.toList.zipIdx 0).foldl (λ(f:Array Value) (p:Value×Nat)=>f.setIfInBounds (off+p.2) p.1) vs:=by rw[←Array.foldl_toList,Array.toList_zipIdx]
      rw[N,H];unfold Kl;have O:off+0+v.cells.toList.length=off+J.length:=by simp[z,q]
      rw[O];exact((j.take off).append u).append (j.drop _)
     have⟨g,k1,k2⟩:=Xdk place place' hp parts vparts _ _ r h A k B;refine⟨g,?_,k2⟩;simp only[Instr.fill,hp _ _ E];have I:¬(v.cells.size≠sz||off+v.cells.size>vs.size)=true:=by simp at y⊢;omega
     rw[Wj I];exact k1
    cases h
   simp_all
def XgS{z:Nat}{f:List (List D)}(h:∀e∈f,e.length=z)(i:Nat)(g:List D)(v:i<f.length)(x:g.length=z)(k:Nat):
 (f.set i g).flatten[k]? = if i*z<=k/\k<(i+1)*z then g[k-i*z]? else f.flatten[k]?:=by
 have o:∀e∈f.set i g,e.length=z:=by
  intro e p;rcases W0 p with p|rfl
  .simp_all
  omega
 rcases Um z with j|j
 .simp_all[Xdg,o,h]
 rw[Y0 o,Y0 h];have y:=Nat.div_add_mod' k z;by_cases q:k / z=i
 .grind
 rw[Wj]
 .grind
 rintro⟨r,u⟩;apply q;exact Nat.le_antisymm (Nat.le_of_lt_succ ((Iq j).2 u)) ((Nat.le_div_iff_mul_le j).2 r)
def Yw{e src:List (List D)}(k:Nat):(e++src).flatten[k]? = if k<e.flatten.length then e.flatten[k]? else src.flatten[k-e.flatten.length]?:=by grind
def XgT{M:Mem}{β:Loc}(z:Nat):∀(parts:List (Nat×D)) (vparts:List (Nat×Value)) (q:List (List D)) (vs:Array Value) (r:List (List D)),
 Xdc z q parts=some r->(∀e∈q,e.length=z)->RepL P M β q.flatten vs.toList->parts.map (·.1)=vparts.map (·.1)->RepL P M β (parts.map (·.2)) (vparts.map (·.2))->(∀x∈vs,x.oneCell'=true) ->
 ∃j,Instr.fill (λi=>some (i*z,z)) vs vparts=some j/\RepL P M β r.flatten j.toList/\r.length=q.length/\(∀e∈r,e.length=z)/\(∀x∈j,x.oneCell'=true)
 |[],vparts,q,vs,r,h,V,B,E,_,W=>by simp_all[Xdc,Instr.fill]
 |(i,d)::parts,vparts,q,vs,r,h,V,B,E,Y,W=>by
  match vparts,E with
  |(i',v)::vparts,E=>
   simp at E;have⟨rfl,E⟩:=E;have⟨x,xs,e,hd,Y⟩:=Y;have⟨rfl,rfl⟩:v=x/\vparts.map (·.2)=xs:=by simpa using e
   unfold Xdc at h;split at h
   .rename_i Z H;split at h
    .rename_i hsz;have⟨G,I⟩:=hsz;have⟨J,K⟩:=K4 H hd;have o:=B.length;rw[XI V]at o;have L:v.cells.size=z:=by rw[Xa2 H hd,G]
     have N:(i+1)*z<=q.length*z:=Ua _ I;have hle':i*z+z<=q.length*z:=by rw[IR]at N;exact N
     have O:=XfI (i*z) v.cells.toList 0 vs (by simp at o⊢;omega);have e1:v.cells.zipIdx.foldl (λ(u:Array Value) (p:Value×Nat)=>u.setIfInBounds (i*z+p.2) p.1) vs=(v.cells.toList.zipIdx 0).foldl (λ(u:Array Value) (p:Value×Nat)=>u.setIfInBounds (i*z+p.2) p.1) vs:=by rw[←Array.foldl_toList,Array.toList_zipIdx]
     have R:∀e∈q.set i Z,e.length=z:=by
      intro e hm;rcases W0 hm with hm|rfl
      .exact V e hm
      exact G
     have S:RepL P M β (q.set i Z).flatten ((v.cells.zipIdx.foldl (λ(u:Array Value) (p:Value×Nat)=>u.setIfInBounds (i*z+p.2) p.1) vs).toList):=by
      rw[e1,O];refine RepL.of ?_ λk dk xk A g=>?_
      .rw[XI R];simp at o⊢;omega
      rw[XgS V i Z I G]at A;rw[IT,Vj _ _ _ (by simp at o⊢;omega)]at g;simp only[Ib,L]at g;split at A
      .rename_i hk;rw[IR]at hk;rw[Wj ab,Wm ab]at g;obtain⟨y,T,hr⟩:=J.get _ dk A;rw[g]at T;obtain rfl:xk=y:=by simpa using T
       exact hr
      rename_i hk;rw[IR]at hk;obtain⟨y,T,hr⟩:=B.get _ dk A;have:vs.toList[k]? = some xk:=by
       split at g
       .exact g
       split at g
       .omega
       exact g
      rw[this]at T;obtain rfl:xk=y:=by simpa using T
      exact hr
     have ho':∀x∈(v.cells.zipIdx.foldl (λ(u:Array Value) (p:Value×Nat)=>u.setIfInBounds (i*z+p.2) p.1) vs),x.oneCell'=true:=by
      intro x hx;rw[e1]at hx;have f:x∈((v.cells.toList.zipIdx 0).foldl (λ(u:Array Value) (p:Value×Nat)=>u.setIfInBounds (i*z+p.2) p.1) vs).toList:=by simpa using hx
      rw[O]at f;simp only[Wr]at f;rcases f with(f|f)|f
      .exact W x (by simpa using WQ f)
      .exact K x (by simpa using f)
      exact W x (by simpa using WR f)
     have⟨j,k1,k2,k3,k4,k5⟩:=XgT z parts vparts _ _ r h R S E Y ho';refine⟨j,?_,k2,by simpa using k3,k4,k5⟩;simp only[Instr.fill];have hne:¬(v.cells.size≠z||i*z+v.cells.size>vs.size)=true:=by simp at o⊢;omega
     rw[Wj hne];exact k1
    cases h
   simp_all
variable {P:Program}
section
variable {C:Cx}{s:Heap}{U:Nat->Prop}{ver:Nat}{M:Mem}{β:Loc}{w:World}
def Xk5(s:Heap)(id v:Nat)(o:Ob):app s [(id,v,o)]=upd s id (some (v,o)):=rfl
def XfJ(I:U7 P C s U M β w)(r:¬U ver)(bx:Bool)(id E z:Nat)(f:List (List D))(k:Nat)(g:Array Value)(T:TypeId)(w1:World)(o:w1.heap=w.heap/\w1.os=w.os/\w1.tape=w.tape/\w1.output=w.output)(p:g.size=k*z)(u:∀e∈f,e.length=z)(q:f.length<=k)(v:f.length<=Xs)(hb:f.length*P.bytesOf E<=Xs)(h:∀x∈g,x.oneCell'=true)(j:RepL P M (XfD bx β) f.flatten (g.toList.take f.flatten.length)):
 ∃β',U7 P C (app s [(id,ver,.arr bx E z f 0)]) (λx=>U x\/x=ver) M β' (w1.alloc (.cells g T))/\β' id ver=some (some (w.heap.size,k))/\BLe β β':=by
 have:=I.alloc o r bx id E z f k g T p u q v hb h (λi d hd=>by
  have⟨x,y,A⟩:=j.get i d hd
  grind)
 exact⟨_,this.1,XF ..,this.2⟩
def Xmq(I:U7 P C s U M β w)(k:¬U ver){T:TypeId}{ty:OF}(o:Xm P T=some ty){x:Value}{g:List D}(e:RepL P M β g x.cells.toList)(f:∀y∈x.cells,y.oneCell'=true)(h:g.length=ty.size)(j:ty.bytes<=Xs)(id:Nat):
 VOK P C s [(id,ver,.arr true T ty.size [g] 0)] U ver M β ((do pure (Value.pointer (some (←newVar T x))):Sem Value).run P w) (.ept id ver ty.size 0 0):=by
 have p:=e.length;have⟨β',I',hβ,q⟩:=XfJ I k true id T ty.size [g] 1 x.cells T w ⟨rfl,rfl,rfl,rfl⟩ (by simp at p;omega) (by simpa using h) ac (by simp[Xs]) (by rw[Vh o];simpa using j) f (by
  simp only[List.flatten_cons,List.flatten_nil,Ih]
  rw[Uy ab];exact e)
 refine⟨M,β',_,.pointer (some ⟨w.heap.size,0,none⟩),?_,I',?_,MLe.refl _,q⟩
 .simp[newVar,newRow]
 simp_all[Rep]
def Zk{ty:OF}{e:List D}(h:JQ ty=some e):RepL P M β e ty.zero.cells.toList/\∀y∈ty.zero.cells,y.oneCell'=true:=
 K4 h (Xat _)
def XpA(I:U7 P C s U M β w){T:TypeId}{ty:OF}(q:Xm P T=some ty){d:D}{y:Value}{c:Prop}{g:List D}{o z:Nat}(h:XfE s d=some (c,g,o,z))(r:c)(f:o+ty.size<=z)(j:ty.isAgg=true\/ty.size=1)(u:Rep P M β d y):VOK P C s [] U ver M β ((Instr.loadAt T y).run P w) (Ji ty.isAgg ((g.drop o).take ty.size)):=by obtain⟨b,x,rfl,A,e⟩:=XjJ I h r u;obtain⟨v,B,k⟩:=Xdi q w M β b x o z g A f e (λp=>by rcases j with h|h;(rw[h]at p;cases p);exact h);refine .same I (v:=v) ?_ k;assumption
def XgU(I:U7 P C s U M β w){T:TypeId}{ty:OF}(hT:Xm P T=some ty){id v z i c:Nat}{bx:Bool}{E fz:Nat}{p:List (List D)}(hs:s id=some (v,.arr bx E z p fz)){y x:Value}{dx:D}{G:List D}(hp:Rep P M β (.ept id v z i c) y)(hd:dx.cells=some G)(hx:Rep P M (XfD bx β) dx x)(hi:i<p.length)(V:fz<=i)(hl:G.length=ty.size)(hfit:c+ty.size<=z):
 OpOK P C s [(id,v,.arr bx E z (p.set i (Kl (p.getD i []) c G)) fz)] U ver M β ((do Instr.storeAt T y x;pure Next.skip:Sem Next).run P w) (.v undef):=by
 obtain⟨b,cb,hb,rfl⟩:=hp;have⟨x0,H,ho⟩:=I.obs id v _ hs;rw[hb]at H;obtain rfl:some (b,cb)=x0:=by simpa using H
 have⟨O,T0,k1,k2,R,k4,k5,k6,k7,k8,k9,J⟩:=ho;have⟨K,r⟩:=K4 hd hx;have f:x.cells.size=ty.size:=by rw[Xa2 hd hx,hl]
 have he:(p.getD i []).length=z:=by rw[Wk,Wb hi];exact R _ (Wt _)
 have W:(i+1)*z<=cb*z:=Ua _ ab;rw[IR]at W;have Y:=run_storeCells_at P b (i*z+c) T0 x.cells.toList 0 O w k1 (by simp[f];omega) (by simpa using r);have u:(Kl (p.getD i []) c G).length=z:=by rw[XeI _ _ _ ab];exact he
 have I':=I.write hs hb k1 (cs':=(O.toList.take (i*z+c)++x.cells.toList++O.toList.drop (i*z+c+x.cells.toList.length)).toArray) (es':=p.set i (Kl (p.getD i []) c G))
  (by simp[f];omega) ac
  (λe Z=>by
   rcases W0 Z with Z|rfl
   .exact R e Z
   .exact u)
  (λy A=>by
   simp only[List.mem_toArray,Wr]at A
   rcases A with(A|A)|A
   .exact k8 y (by simpa using WQ A)
   .exact r y (by simpa using A)
   .exact k8 y (by simpa using WR A))
  (λo ho=>by
   have hlt:o<i*z+c:=by
    have:fz*z<=i*z:=Ua _ V
    omega
   simp
   rw[Uk ai,Ur,Wm hlt]
   simp)
  (λk d q=>by
   rw[XgS R i _ hi u]at q
   simp only[Ie]
   rw[Vj _ _ _ (by simp[f];omega)]
   simp only[Ib,f]
   split at q
   .rename_i hin
    rw[IR]at hin
    rw[XiH _ _ _ ab]at q
    have B:∀d,(p.getD i [])[k-i*z]? = some d->∃x,O.toList[k]? = some x/\Rep P M (XfD bx β) d x:=by
     intro d hd'
     obtain⟨x,g,j⟩:=J (i*z+(k-i*z)) d (by rw[JR R _ _ ab];exact hd')
     have:i*z+(k-i*z)=k:=ab
     rw[this]at g
     exact⟨x,by simpa using g,j⟩
    split at q
    .rw[Wm ab];exact B d q
    .split at q
     .rw[Wj ab,Wm ab]
      have⟨S,g,j⟩:=K.get _ d q
      refine⟨S,?_,j⟩
      rw[←g];congr 1;omega
     .rw[Wj ab,Wj ab];exact B d q
   .rename_i L
    rw[IR]at L
    have⟨S,g,j⟩:=J k d q
    by_cases N:k<i*z+c
    .rw[Wm N];exact⟨S,by simpa using g,j⟩
    .rw[Wj N,Wj ab];exact⟨S,by simpa using g,j⟩)
 refine⟨M,β,_,undef,.inr ⟨?_,rfl⟩,(by rw[Xk5];exact I'.mono λ_ h=>Or.inl h),by simp[Rep,undef,wfV],MLe.refl _,BLe.refl _⟩;simp[f,Instr.storeAt,Instr.sureAddr,storeVar,YD,hT,Y]
end
variable {P:Program}
def Xcn{p:Nat->Value->Prop}:∀(n:Nat),(∀k,k<n->∃x,p k x)->∃l:List Value,l.length=n/\∀(k:Nat) (x:Value),l[k]? = some x->p k x
 |0,_=>⟨[],rfl,ac⟩
 |n+1,h=>by have⟨l,e,f⟩:=Xcn n (λk g=>h k ab);have⟨x,j⟩:=h n ab;refine⟨l++[x],by simp[e],λk y o=>?_⟩;grind
section
variable {C:Cx}{s:Heap}{U:Nat->Prop}{ver:Nat}{M:Mem}{β:Loc}{w:World}
def XgV(I:U7 P C s U M β w){z:Nat}{d:D}{c:Prop}{src:List (List D)}(h:elems s z d=some (c,src))(hc:c){y:Value}(A:Rep P M β d y):
 ∃base cap vals,y=.slice base src.length cap/\(∀e∈src,e.length=z)/\vals.length=src.length*z/\(base=none->src.length=0) /\
  (∀a,base=some a->∀(j:Nat) (v:Value),vals[j]? = some v->w.cell? (a.add j)=some v)/\RepL P M Yz src.flatten vals/\∀v∈vals,v.oneCell'=true:=by
 unfold elems at h;split at h
 .have⟨rfl,rfl⟩:True=c/\[]=src:=by simpa using h
  obtain⟨a,rfl⟩:=A;refine⟨a,0,[],rfl,ac,ac,ac,λO B=>ac,by simp[RepL],ac⟩
 .rename_i a cap;have⟨rfl,rfl⟩:True=c/\[]=src:=by simpa using h
  obtain⟨rfl,_⟩:=A;refine⟨a,cap,[],rfl,ac,ac,ac,λO B=>ac,by simp[RepL],ac⟩
 .rename_i E z' g;split at h
  .rename_i hz;subst hz;have⟨rfl,rfl⟩:True=c/\g=src:=by simpa using h
   obtain⟨K,h2,h3,a,cap,rfl,_,A⟩:=A;rcases A with rfl|⟨b,o,rfl,A⟩
   .refine⟨a,cap,[],rfl,ac,ac,ac,λO B=>ac,by simp[RepL],ac⟩
   .obtain⟨vals,l1,R⟩:=Xcn (p:=λk x=>M b (o+k)=some x/\∀d,g.flatten[k]? = some d->Rep P M Yz d x) (g.length*z) (λk hk=>by
     have r:0<z:=by
      rcases Um z with G|G
      .subst G;simp at hk
      .exact G
     have N:k / z<g.length:=(Iq r).2 hk
     have hm:=Nat.mod_lt k r
     have S:=A.get K (k / z) g[k / z] (by simp[N])
     have f:(g[k / z]).length=z:=K _ (Wt _)
     have⟨x,T,V⟩:=S.get (k % z) (g[k / z][k % z]'ab) ac
     refine⟨x,?_,λd hd=>?_⟩
     .rw[←T];have:=Nat.div_add_mod' k z;congr 1;omega
     .rw[Y0 K,Wk,Wb N]at hd
      simp at hd
      rw[Wb ab]at hd
      obtain rfl:=by simpa using hd
      exact V)
    refine⟨some ⟨b,o,none⟩,cap,vals,rfl,K,l1,ac,λa B=>?_,?_,?_⟩
    .obtain rfl:=by simpa using B
     intro j v q
     rw[U1]
     exact(I.mem b _ v (R j v q).1).1
    .refine RepL.of (by rw[l1,XI K]) λi d x hd H=>?_
     exact(R i x H).2 d hd
    .intro v q
     obtain⟨i,W,rfl⟩:=Wv q
     exact(I.mem b _ _ (R i _ ac).1).2
  cases h
 .rename_i id v z' off len;split at h
  .rename_i v' E z'' g fz hs;split at h
   .rename_i q;have⟨rfl,rfl,rfl⟩:=q;have⟨rfl,rfl⟩:(off+len<=g.length)=c/\(g.drop off).take len=src:=by simpa using h
    have f:((g.drop off).take len).length=len:=by simp;omega
    rcases A with⟨hn,rfl,rfl,a,rfl⟩|⟨b,cb,o,cap,hb,rfl,hcap,hcb,ho⟩
    .refine⟨a,0,[],ac,ac,ac,ac,λO B=>ac,by simp[RepL],ac⟩
    have⟨x0,L,Y⟩:=I.obs id v _ hs;rw[hb]at L;obtain rfl:some (b,cb)=x0:=by simpa using L
    have⟨vs,T0,k1,k2,k3,k4,k5,k6,k7,k8,k9,Z⟩:=Y;have hcl:(off+len)*z<=cb*z:=Ua _ ab;rw[Uz]at hcl;have u:∀e∈(g.drop off).take len,e.length=z:=λe S=>k3 e (WR (WQ S));refine⟨some ⟨b,o,none⟩,cap,(vs.toList.drop (off*z)).take (len*z),by rw[f],u,by rw[f];simp;omega,ac,λa B=>?_,?_,λv q=>k8 v (by simpa using WR (WQ q))⟩
    .obtain rfl:=by simpa using B
     intro j v q;rw[VP]at q;split at q
     .rename_i hj;have J:cap≠0:=by rintro rfl;have:len=0:=ab;subst this;simp at hj
      have ho':o=off*z:=by rcases ho with h|h;exact h;exact absurd h J
      subst ho';rw[U1,cell_of_row w b _ vs T0 (0,0) k1];simpa using q
     cases q
    refine RepL.of (by rw[XI u,f];simp;omega) λi d x hd H=>?_;rw[VP]at H;split at H
    .rename_i W;have r:0<z:=by
      rcases Um z with G|G
      .subst G;simp at W
      exact G
     have hdiv:=Nat.div_add_mod' i z;have hm:=Nat.mod_lt i r;have N:i / z<len:=(Iq r).2 W;rw[Y0 u,Wk,VP,Wm N]at hd;have⟨y,hy,hry⟩:=Z (off*z+i) d (by
      have:off*z+i=(off+i / z)*z+i % z:=by rw[Uz];omega
      rw[this,JR k3 _ _ hm,Wk];exact hd)
     rw[U2,hy]at H;obtain rfl:y=x:=by simpa using H
     exact hry
    cases H
   cases h
  cases h
 simp_all
section
variable {T T2 E E2:TypeId}{te:OF}{o':TypeId}{sLen sCap:Nat}
def Xmr(k:P.underlying T=some (.slice E))(h:P.underlying T2=some (.slice E2))(p:Xm P E=some te){xb:Option Addr}{m xc:Nat}{news:List Value}{b o:Nat}{cur:Array Value}{T0:TypeId}(e:sLen+m<=sCap)(f:(Builtin.firstCells te.size m (.slice xb m xc)).run P w=.ok news.toArray w)(q:w.heap[b]? = some (.cells cur T0 (0,0)))(g:o+sLen*te.size+news.length<=cur.size)(r:∀u∈news,u.oneCell'=true):
 (Builtin.append_ #[T,T2] o' #[.slice (some ⟨b,o,none⟩) sLen sCap,.slice xb m xc]).run P w =
  .ok (.slice (some ⟨b,o,none⟩) (sLen+m) sCap) (w.setRow b (cur.toList.take (o+sLen*te.size)++news++cur.toList.drop (o+sLen*te.size+news.length)).toArray):=by have j:=run_storeCells_at P b (o+sLen*te.size) T0 news 0 cur w q (by exact g) r;simp[IT,Builtin.append_,run_underlying,k,h,YD,p,Builtin.lenOf,e,f,U1,j]
def Xms(h:P.underlying T=some (.slice E))(g:P.underlying T2=some (.slice E2))(j:Xm P E=some te){xb:Option Addr}{m xc:Nat}{news:List Value}(a:Option Addr)(e:sLen+m<=sCap)(f:(Builtin.firstCells te.size m (.slice xb m xc)).run P w=.ok news.toArray w)(k:news=[]):
 (Builtin.append_ #[T,T2] o' #[.slice a sLen sCap,.slice xb m xc]).run P w=.ok (.slice a (sLen+m) sCap) w:=by subst k;cases a<;>simp[Builtin.append_,run_underlying h,run_underlying g,YD j,Builtin.lenOf,e,f,storeCells]
def Xmt(q:P.underlying T=some (.slice E))(j:P.underlying T2=some (.slice E2))(r:Xm P E=some te){base xb:Option Addr}{m xc:Nat}{olds news:List Value}(k:sCap<sLen+m)(e:(Builtin.firstCells te.size sLen (.slice base sLen sCap)).run P w.drew=.ok olds.toArray w.drew)(f:(Builtin.firstCells te.size m (.slice xb m xc)).run P w.drew=.ok news.toArray w.drew)(hb:(sLen+m)*te.bytes<=Xs)(u:sLen+m<=Xs):
 (Builtin.append_ #[T,T2] o' #[.slice base sLen sCap,.slice xb m xc]).run P w =
  .ok (.slice (some ⟨w.heap.size,0,none⟩) (sLen+m) (grownCap w (sLen+m) sCap E)) (w.drew.alloc (.cells (olds.toArray++news.toArray++Builtin.zeroCells te.zero.cells (grownCap w (sLen+m) sCap E-(sLen+m))) E)):=by
 have v:¬(sLen+m<=sCap):=ab;have g:¬(9223372036854775807<((sLen:Int)+(m:Int))):=by simp only[Xs]at u;omega
 have⟨i,d,x,z,y,o,p,_⟩:=Yc r;have h:¬(281474976710656<Builtin.nextslicecap (sLen+m) sCap*i.bytes):=by have:=growslice_fits (bytes:=te.bytes) k (by exact hb);rw[p];omega
 simp[Builtin.append_,run_underlying q,run_underlying j,Builtin.lenOf,v,g,sizeOf,typeInfo,x,o,h,Question.forced,e,f,zeroValue,y,newRow,grownCap];grind
def XpB(A:P.underlying T=some (.slice E)){k H:IntKind}(p:P.underlying T2=some (.int k))(I:Xm P E=some te){n:Int}(J:0<=n)(r:n<=Xs)(v:n.toNat*te.bytes<=Xs){b o:Nat}{cur:Array Value}{T0:TypeId}{news:List Value}(e:news=(if n.toNat*te.size=0 then[]else(Builtin.zeroCells te.zero.cells n.toNat).toList))(f:sLen+n.toNat<=sCap)(B:w.heap[b]? = some (.cells cur T0 (0,0)))(D:o+sLen*te.size+news.length<=cur.size)(K:∀u∈news,u.oneCell'=true):
 (Builtin.append_ #[T,T2] o' #[.slice (some ⟨b,o,none⟩) sLen sCap,.int H n]).run P w =
  .ok (.slice (some ⟨b,o,none⟩) (sLen+n.toNat) sCap) (w.setRow b (cur.toList.take (o+sLen*te.size)++news++cur.toList.drop (o+sLen*te.size+news.length)).toArray):=by
 have x:=run_storeCells_at P b (o+sLen*te.size) T0 news 0 cur w B ab K;have hw:IntKind.i64.wrap n=n:=by rw[IntKind.wrap_i64];simp only[Xs]at r;omega
 have h:¬n<0:=ab;have⟨i,d,G,N,L,q,y,_⟩:=Yc I;have j:¬(281474976710656<n*(i.bytes:Int)):=by
  have:((n.toNat*te.bytes:Nat):Int)=n*te.bytes:=by rw[Int.natCast_mul,Int.toNat_of_nonneg J]
  rw[y,←this];simp only[Xs]at v;omega
 by_cases g:n.toNat*te.size=0
 .rw[Wm g]at e;subst e;simp[Builtin.append_,run_underlying A,run_underlying p,sizeOf,typeInfo,G,q,asInt,asIntOf,hw,h,j,f,g,storeCells,setRow_self w b cur T0 (0,0) B]
 rw[Wj g]at e;have z:(Builtin.zeroCells te.zero.cells n.toNat).toList=news:=e.symm;simp[Builtin.append_,run_underlying A,run_underlying p,sizeOf,typeInfo,G,q,asInt,asIntOf,hw,h,j,f,g,zeroValue,L,U1,z,x]
def XpC(B:P.underlying T=some (.slice E)){k I:IntKind}(q:P.underlying T2=some (.int k))(J:Xm P E=some te){n:Int}(K:0<=n)(x:n<=Xs)(y:n.toNat*te.bytes<=Xs){base:Option Addr}{olds news:List Value}(e:news=(if n.toNat*te.size=0 then[]else(Builtin.zeroCells te.zero.cells n.toNat).toList))(z:sCap<sLen+n.toNat)(g:(Builtin.firstCells te.size sLen (.slice base sLen sCap)).run P w.drew=.ok olds.toArray w.drew)(hb:(sLen+n.toNat)*te.bytes<=Xs)(L:sLen+n.toNat<=Xs):
 (Builtin.append_ #[T,T2] o' #[.slice base sLen sCap,.int I n]).run P w =
  .ok (.slice (some ⟨w.heap.size,0,none⟩) (sLen+n.toNat) (grownCap w (sLen+n.toNat) sCap E)) (w.drew.alloc (.cells (olds.toArray++news.toArray++Builtin.zeroCells te.zero.cells (grownCap w (sLen+n.toNat) sCap E-(sLen+n.toNat))) E)):=by
 have D:¬(sLen+n.toNat<=sCap):=ab;have hw:IntKind.i64.wrap n=n:=by rw[IntKind.wrap_i64];simp only[Xs]at x;omega
 have h:¬n<0:=ab;have f:¬(9223372036854775807<((sLen:Int)+max n 0)):=by simp only[Xs]at L;omega
 have⟨i,d,G,N,H,r,u,_⟩:=Yc J;have j:¬(281474976710656<n*(i.bytes:Int)):=by
  have:((n.toNat*te.bytes:Nat):Int)=n*te.bytes:=by rw[Int.natCast_mul,Int.toNat_of_nonneg K]
  rw[u,←this];simp only[Xs]at y;omega
 have o:¬(281474976710656<Builtin.nextslicecap (sLen+n.toNat) sCap*i.bytes):=by have:=growslice_fits (bytes:=te.bytes) z ah;rw[u];omega
 by_cases p:n.toNat*te.size=0
 .subst e;simp[Builtin.append_,run_underlying B,run_underlying q,sizeOf,typeInfo,G,r,asInt,asIntOf,hw,h,j,D,f,o,Question.forced,g,p,zeroValue,H,newRow,grownCap]
 rw[Wj p]at e;have A:(Builtin.zeroCells te.zero.cells n.toNat).toList=news:=e.symm;have v:Builtin.zeroCells te.zero.cells n.toNat=news.toArray:=by rw[←A]
 simp[Builtin.append_,run_underlying B,run_underlying q,sizeOf,typeInfo,G,r,asInt,asIntOf,hw,h,j,D,f,o,Question.forced,g,p,zeroValue,H,newRow,grownCap,v];grind
end
end
variable {P:Program}
section
variable {C:Cx}{s:Heap}{U:Nat->Prop}{ver:Nat}{M:Mem}{β:Loc}{w:World}
def Yi(z:Array Value)(n:Nat):(Builtin.zeroCells z n).size=n*z.size:=by simp[Builtin.zeroCells]
def Zl{z:Array Value}(h:∀y∈z,y.oneCell'=true)(n:Nat):∀y∈Builtin.zeroCells z n,y.oneCell'=true:=by
 intro y f;simp only[Builtin.zeroCells,Array.mem_map,Array.mem_range]at f;obtain⟨i,g,rfl⟩:=f;have j:0<z.size:=by
  rcases Um z.size with e|e
  .rw[e]at g;simp at g
  exact e
 have k:=Nat.mod_lt i j;simp_all
structure OT(P:Program)(w:World)(E:Nat)(te:OF)(n:Nat)(vals:List Value)(run:Value->Result Value):Prop where
 room:∀b o sLen sCap cur T0,sLen+n<=sCap->w.heap[b]? = some (.cells cur T0 (0,0))->o+sLen*te.size+vals.length<=cur.size ->
  run (.slice (some ⟨b,o,none⟩) sLen sCap)=.ok (.slice (some ⟨b,o,none⟩) (sLen+n) sCap) (w.setRow b (cur.toList.take (o+sLen*te.size)++vals++cur.toList.drop (o+sLen*te.size+vals.length)).toArray)
 none:∀a sLen sCap,sLen+n<=sCap->vals=[]->run (.slice a sLen sCap)=.ok (.slice a (sLen+n) sCap) w
 grow:∀base sLen sCap(olds:List Value),sCap<sLen+n->(Builtin.firstCells te.size sLen (.slice base sLen sCap)).run P w.drew=.ok olds.toArray w.drew->(sLen+n)*te.bytes<=Xs->sLen+n<=Xs ->
  run (.slice base sLen sCap)=.ok (.slice (some ⟨w.heap.size,0,.none⟩) (sLen+n) (grownCap w (sLen+n) sCap E)) (w.drew.alloc (.cells (olds.toArray++vals.toArray++Builtin.zeroCells te.zero.cells (grownCap w (sLen+n) sCap E-(sLen+n))) E))
def Xdl(size:Nat)(a:Option Addr)(sCap:Nat)(w:World):(Builtin.firstCells size 0 (.slice a 0 sCap)).run P w=.ok #[] w:=by cases a<;>simp[Builtin.firstCells,loadCells,loadCellsFrom]
def XjM(I:U7 P C s U M β w)(u:¬U ver){E z:Nat}{te:OF}{q:List D}(k:JQ te=some q)(y:q.length=z){src:List (List D)}{vals:List Value}(g:∀e∈src,e.length=z)(f:RepL P M Yz src.flatten vals)(r:∀v∈vals,v.oneCell'=true){E':Nat}(hb:src.length*P.bytesOf E'<=Xs)(A:src.length<=Xs)(id cap:Nat)(h:src.length<=cap):
 ∃β',U7 P C (app s [(id,ver,.arr false E' z src 0)]) (λx=>U x\/x=ver) M β' (w.drew.alloc (.cells (([]:List Value).toArray++vals.toArray++Builtin.zeroCells te.zero.cells (cap-src.length)) E)) /\
  β' id ver=some (some (w.heap.size,cap))/\BLe β β':=by
 have⟨B,G⟩:=Zk (P:=P) (M:=M) (β:=β) k;have o:te.zero.cells.size=z:=by have:=B.length;simp at this;omega
 have p:vals.length=src.length*z:=by rw[f.length,XI g]
 refine XfJ I u false id E' z src cap _ E w.drew ⟨rfl,rfl,rfl,rfl⟩ ?_ g h A hb ?_ ?_
 .simp only[List.append_toArray,W8,Array.size_append,List.size_toArray,Yi,o,p,←Uz];simp_all
 .intro x j;simp at j;rcases j with j|j
  .simp_all
  exact Zl G _ x j
 have:(([]:List Value).toArray++vals.toArray++Builtin.zeroCells te.zero.cells (cap-src.length)).toList.take src.flatten.length=vals:=by have H:src.flatten.length=vals.length:=f.length.symm;simp[H]
 rw[this];exact f
def XjN(I:U7 P C s U M β w)(hv:¬U ver){E z:Nat}{te:OF}(hE:Xm P E=some te)(hz:te.size=z){zc:List D}(hzc:JQ te=some zc)(hzl:zc.length=z){src:List (List D)}{vals:List Value}(hsz:∀e∈src,e.length=z)(A:RepL P M Yz src.flatten vals)(V:∀v∈vals,v.oneCell'=true){run:Value->Result Value}(R:OT P w E te src.length vals run){sid:Nat}{c0 c:Prop}{d d':D}{u:Up}(h:XeG P s sid ver E z te.bytes c0 src d=some (c,d',u))(hc:c){y:Value}(J:Rep P M β d y):
 VOK P C s u U ver M β (run y) d':=by
 have K:vals.length=src.length*z:=by rw[A.length,XI hsz]
 have⟨z1,z2⟩:=Zk (P:=P) (M:=M) (β:=β) hzc;have hzs:te.zero.cells.size=z:=by have:=z1.length;simp at this;omega
 unfold XeG at h;split at h
 ·
  obtain⟨rfl,rfl,rfl⟩:=h;have⟨_,hl,hb⟩:=hc;obtain⟨a,rfl⟩:=J;rcases Um src.length with h0|h0
  .have hsrc:src=[]:=WG h0;subst hsrc;have r:vals=[]:=WG (by simpa using K);refine⟨M,Zs β sid ver none,w,_,R.none a 0 0 ac r,I.setNil sid ver E z (Y9 (I.fresh hv sid)) (XF ..) Zj,?_,MLe.refl _,Y9 (I.fresh hv sid)⟩;exact .inl ⟨XF ..,ac⟩
  have hg:=R.grow a 0 0 [] ab (Xdl _ _ _ _) (by simpa using hb) (by simpa using hl);simp only[UE]at hg;have B:=grownCap_ge w src.length 0 E;have⟨β',I',hβ,hB⟩:=XjM (E:=E) I hv hzc hzl hsz A V (E':=E) (by rw[Vh hE];exact hb) hl sid _ B;refine⟨M,β',_,_,hg,I',?_,MLe.refl _,hB⟩;exact .inr ⟨_,_,0,_,hβ,rfl,B,ac,.inl ac⟩
 .rename_i id v z' off len;split at h
  .rename_i v' E' z'' g fz hs;split at h
   .rename_i hcond;have⟨rfl,rfl,rfl,hbE⟩:=hcond;have⟨x0,W,hob⟩:=I.obs id v _ hs;split at h
    ·
     rename_i hend;obtain⟨rfl,rfl,rfl⟩:=h;obtain⟨_,rfl,hl,hb⟩:=hc;simp only[UE]at hend;subst hend;simp only[Rep]at J;have hid:=I.fresh hv id;rcases J with⟨hn,_,hlen,a,rfl⟩|⟨b,cb,o,cap,Y,rfl,B,hcb,ho⟩
     .have hes:g=[]:=WG hlen;subst hes;rw[hn]at W;obtain rfl:none=x0:=by simpa using W
      simp only[ObRep]at hob;obtain⟨_,_,rfl⟩:=hob;simp only[IQ,UE,W8]at hl hb⊢;rcases Um src.length with h0|h0
      .have hsrc:src=[]:=WG h0;subst hsrc;have r:vals=[]:=WG (by simpa using K);refine⟨M,Zs β id ver none,w,_,R.none a 0 0 ac r,I.setNil id ver E' z (Y9 hid) (XF ..) Zj,?_,MLe.refl _,Y9 hid⟩;simp only[Rep];exact .inl ⟨XF ..,ac⟩
      have hg:=R.grow a 0 0 [] ab (Xdl _ _ _ _) (by simpa using hb) (by simpa using hl);simp only[UE]at hg;have B:=grownCap_ge w src.length 0 E;obtain⟨β',I',hβ,hB⟩:=XjM (E:=E) I hv hzc hzl hsz A V (E':=E') (by rw[hbE];exact hb) hl id _ B;refine⟨M,β',_,_,hg,I',?_,MLe.refl _,hB⟩;simp only[Rep];exact .inr ⟨_,_,0,_,hβ,rfl,B,ac,.inl ac⟩
     rw[Y]at W;obtain rfl:some (b,cb)=x0:=by simpa using W
     obtain⟨O,T0,k1,k2,k3,k4,k5,k6,k7,k8,k9,k10⟩:=hob;have hcb':cap=cb:=ab;subst hcb';have hz':∀e∈g++src,e.length=z:=λe H=>by
      rcases Wr.1 H with H|H
      .exact k3 e H
      exact hsz e H
     have hfl:g.flatten.length=g.length*z:=XI k3;have hBl:BLe β (Zs β id ver (some (b,cap))):=Y9 hid;have put:∀(cs':Array Value) (w':World),w'.heap[b]? = some (.cells cs' T0 (0,0))->cs'.size=O.size->g.length+src.length<=cap->(∀x∈cs',x.oneCell'=true)->(∀o,o<fz*z->cs'[o]? = O[o]?) ->
      (∀(i:Nat) (d:D),(g++src).flatten[i]? = some d->∃x,cs'[i]? = some x/\Rep P M Yz d x)->(∀k,k≠b->w'.heap[k]? = w.heap[k]?)->w'.os=w.os->w'.tape=w.tape->w'.output=w.output->w.heap.size<=w'.heap.size ->
      U7 P C (upd s id (some (ver,.arr false E' z (g++src) fz))) (λx=>U x\/x=ver) M (Zs β id ver (some (b,cap))) w':=by
      intro cs' w' h1 h2 h3 h4 h5 h6 h7 h8 h9 h10 h11
      refine I.set id ver _ b cap (MLe.refl M) hBl h7 (λ_ _ _=>rfl) ?_ (XF ..) ?_ ?_ (I.own id v (.arr false E' z g fz) b cap hs Y:_\/(_/\false=true)) (λ_ _=>rfl) h8 h9 h10 h11 Zj
      .intro o x f
       have ho:=k9 o
       rw[f]at ho
       split at ho
       .rename_i hlt
        rw[cell_of_row w' b o cs' T0 (0,0) h1,h5 o hlt]
        exact⟨ho.symm,(I.mem b o x f).2⟩
       .cases ho
      .refine⟨cs',T0,h1,by rw[h2];exact k2,hz',by simpa using h3,by simpa using hl,by rw[hbE];simpa using hb,ai,h4,λo=>?_,λi d hd=>?_⟩
       .rw[k9 o]
        split
        .rename_i hlt;exact(h5 o hlt).symm
        .rfl
       .obtain⟨x,f,J⟩:=h6 i d hd
        exact⟨x,f,J⟩
      .intro id' v' ob' cb' hne hs' q
       exact hne (I.inj id' v' ob' id v _ b cb' cap hs' hs q Y)
     by_cases p:g.length+src.length<=cap
     .by_cases r:vals=[]
      .refine⟨M,Zs β id ver (some (b,cap)),w,_,R.none _ g.length cap p r,?_,?_,MLe.refl _,hBl⟩
       .refine put O w k1 rfl p k8 (λ_ _=>rfl) (λi d hd=>?_) (λ_ _=>rfl) rfl rfl rfl (Uh _);rw[Yw]at hd;split at hd
        .exact k10 i d hd
        have:src.flatten=[]:=WG (by rw[XI hsz,←K,r];rfl);rw[this]at hd;simp at hd
       simp only[Rep];exact .inr ⟨b,cap,o,cap,XF ..,rfl,p,ac,ho⟩
      have G:cap≠0:=by rintro rfl;have:src.length=0:=ab;exact r (WG (by rw[K,this];simp))
      have ho':o=0:=by rcases ho with h|h;simpa using h;exact absurd h G
      subst ho';have hmul:(g.length+src.length)*z<=cap*z:=Ua _ p;rw[Uz]at hmul;have L:=R.room b 0 g.length cap O T0 p k1 (by rw[hz,K];omega);rw[hz]at L;simp only[UE]at L;refine⟨M,Zs β id ver (some (b,cap)),_,_,L,?_,?_,MLe.refl _,hBl⟩
      .refine put _ _ (setRow_heap w b O _ T0 (0,0) k1) (by simp[K];omega) p ?_ ?_ ?_ (λk hk=>setRow_other w b k _ hk) rfl rfl rfl ac
       .intro x f;simp only[List.mem_toArray,Wr]at f;rcases f with(f|f)|f
        .exact k8 x (by simpa using WQ f)
        .exact V x f
        exact k8 x (by simpa using WR f)
       .intro i S;have:fz*z<=g.length*z:=Ua _ k7;simp only[Ie];rw[Vj _ _ _ ai,Wm ab];simp
       intro i d hd;rw[Yw,hfl]at hd;simp only[Ie];rw[Vj _ _ _ ai];split at hd
       .rename_i S;rw[Wm S];obtain⟨x,f,J⟩:=k10 i d hd;exact⟨x,by simpa using f,J⟩
       rename_i S;rw[Wj S];obtain⟨x,f,J⟩:=A.get _ d hd;have hlt:i-g.length*z<vals.length:=by
        rcases Ux (i-g.length*z) vals.length with h|h
        .exact h
        rw[WN h]at f;cases f
       rw[Wm ab];exact⟨x,f,J⟩
      simp only[Rep];exact .inr ⟨b,cap,0,cap,XF ..,rfl,p,ac,.inl ac⟩
     
     have hlt:cap<g.length+src.length:=ab;have holds:(Builtin.firstCells te.size g.length (.slice (some ⟨b,o,none⟩) g.length cap)).run P w.drew=.ok ((O.toList.take (g.length*z)).toArray) w.drew:=by
      refine run_firstCells_some (P:=P) w.drew te.size g.length ⟨b,o,none⟩ g.length cap (O.toList.take (g.length*z)) ?_ ?_
      .have:g.length*z<=cap*z:=Ua _ k4;simp[hz];omega
      intro j x f;rw[Ur]at f;split at f
      .rename_i hj;have G:cap≠0:=by rintro rfl;have:g.length=0:=ab;rw[this]at hj;simp at hj
       have ho':o=0:=by rcases ho with h|h;simpa using h;exact absurd h G
       subst ho';rw[U1];show w.cell? ⟨b,0+j,none⟩=some x;rw[UE,cell_of_row w b j O T0 (0,0) k1];simpa using f
      cases f
     have hg:=R.grow (some ⟨b,o,none⟩) g.length cap (O.toList.take (g.length*z)) hlt holds hb hl;have Z:=grownCap_ge w (g.length+src.length) cap E;generalize hN:grownCap w (g.length+src.length) cap E=N at hg Z;generalize hrow:((O.toList.take (g.length*z)).toArray++vals.toArray++Builtin.zeroCells te.zero.cells (N-(g.length+src.length)))=row at hg;have hescs:g.length*z<=O.size:=by rw[k2];exact Ua _ k4
     have hrowsize:row.size=N*z:=by rw[←hrow];simp only[Array.size_append,List.size_toArray,Ws,Ib,Yi,hzs,K];have:min (g.length*z) O.size=g.length*z:=ab;rw[this,←Uz,←Uz];congr 1;omega
     have hrowlist:row.toList=O.toList.take (g.length*z)++(vals++(Builtin.zeroCells te.zero.cells (N-(g.length+src.length))).toList):=by rw[←hrow];simp
     have hrowget1:∀i,i<g.length*z->row[i]? = O[i]?:=by intro i S;rw[←U2,hrowlist,Uk ai,Ur,Wm S];simp
     have hrowget2:∀i,i<vals.length->row[g.length*z+i]? = vals[i]?:=by
      intro i S;have h1:(O.toList.take (g.length*z)).length=g.length*z:=by simp;omega
      rw[←U2,hrowlist,Ud ab,h1,I6,Uk S]
     have hrowone:∀x∈row,x.oneCell'=true:=by
      intro x f;have q:x∈row.toList:=by simpa using f
      rw[hrowlist]at q;simp only[Wr]at q;rcases q with q|q|q
      .exact k8 x (by simpa using WQ q)
      .exact V x q
      exact Zl z2 _ x (by simpa using q)
     have hMnew:∀i,M w.heap.size i=none:=by
      intro i;cases f:M w.heap.size i with
      |none=>rfl
      |some x=>exact absurd (I.mem.lt f) (IE _)
     have hblt:b<w.heap.size:=by
      rcases Ux b w.heap.size with h'|h'
      .exact h'
      simp[Array.getElem?_eq_none h']at k1
     let M':Mem:=λk i=>if k=w.heap.size then(if i<fz*z then row[i]? else none)else M k i
     have hMle:MLe M M':=by
      intro k i x f;show(if k=w.heap.size then _ else M k i)=some x;rw[Wj]
      .exact f
      rintro rfl;rw[hMnew]at f;cases f
     have hBl':BLe β (Zs β id ver (some (w.heap.size,N))):=Y9 hid;have hheap:∀k,k≠w.heap.size->(w.drew.alloc (.cells row E)).heap[k]? = w.heap[k]?:=by intro k hk;show(w.heap.push _)[k]? = _;rw[Array.getElem?_push,Wj hk]
     have hnew:(w.drew.alloc (.cells row E)).heap[w.heap.size]? = some (.cells row E (0,0)):=by show(w.heap.push _)[w.heap.size]? = _;simp
     refine⟨M',Zs β id ver (some (w.heap.size,N)),_,_,hg,?_,?_,hMle,hBl'⟩
     .refine I.set id ver _ w.heap.size N hMle hBl' hheap (λk hk i=>Wj hk) ?_ (XF ..) ?_ ?_ (.inl I.keep.size) ?_ rfl rfl rfl (by show w.heap.size<=(w.heap.push _).size;simp) Zj
      .intro i x f;have q:(if i<fz*z then row[i]? else none)=some x:=by have:=f;simp only[M',if_true]at this;exact this
       split at q
       .rename_i S;rw[cell_of_row _ _ i row E (0,0) hnew];refine⟨q,hrowone x ?_⟩;exact Array.mem_of_getElem? q
       cases q
      .refine⟨row,E,hnew,hrowsize,hz',by simpa using Z,by simpa using hl,by rw[hbE];simpa using hb,ai,hrowone,λi=>?_,λi d hd=>?_⟩
       .simp only[M',if_true]
       rw[Yw,hfl]at hd;split at hd
       .rename_i S;obtain⟨x,f,J⟩:=k10 i d hd;exact⟨x,by rw[hrowget1 i S];exact f,J.mono hMle (BLe.refl _)⟩
       rename_i S;obtain⟨x,f,J⟩:=A.get _ d hd;have hlt2:i-g.length*z<vals.length:=by
        rcases Ux (i-g.length*z) vals.length with h|h
        .exact h
        rw[WN h]at f;cases f
       have:=hrowget2 _ hlt2;have hi2:g.length*z+(i-g.length*z)=i:=ab;rw[hi2]at this;exact⟨x,by rw[this];exact f,J.mono hMle (BLe.refl _)⟩
      .intro id' v' ob' cb' _ hs' q;obtain⟨yy,hy,hob'⟩:=I.obs id' v' ob' hs';rw[q]at hy;obtain rfl:some (w.heap.size,cb')=yy:=by simpa using hy
       exact absurd hob'.lt (IE _)
      intro hlt';exact absurd I.keep.size ab
     simp only[Rep];exact .inr ⟨w.heap.size,N,0,N,XF ..,rfl,Z,ac,.inl ac⟩
    
    rename_i hend;simp only[Wo,Wx]at h;obtain⟨rfl,rfl,rfl⟩:=h;obtain⟨_,hfit,hfz⟩:=hc;simp only[Rep]at J;rcases J with⟨hn,rfl,rfl,a,rfl⟩|⟨b,cb,o,cap,Y,rfl,B,hcb,ho⟩
    .rw[hn]at W;obtain rfl:none=x0:=by simpa using W
     simp only[ObRep]at hob;exact absurd (by rw[hob.2.1];rfl) hend
    rw[Y]at W;obtain rfl:some (b,cb)=x0:=by simpa using W
    obtain⟨O,T0,k1,k2,k3,k4,k5,k6,k7,k8,k9,k10⟩:=hob;have G:cap≠0:=by rintro rfl;omega
    have ho':o=off*z:=by rcases ho with h|h;exact h;exact absurd h G
    subst ho';have p:len+src.length<=cap:=ab;have hmul:(off+len+src.length)*z<=cb*z:=Ua _ ab;rw[Uz,Uz]at hmul;have L:=R.room b (off*z) len cap O T0 p k1 (by rw[hz,K];omega);rw[hz]at L;have hpre:∀e∈g.take (off+len)++src++g.drop (off+len+src.length),e.length=z:=by
     intro e H;simp only[Wr]at H;rcases H with(H|H)|H
     .exact k3 e (WQ H)
     .exact hsz e H
     exact k3 e (WR H)
    have I':=I.write hs Y k1 (cs':=(O.toList.take (off*z+len*z)++vals++O.toList.drop (off*z+len*z+vals.length)).toArray) (es':=g.take (off+len)++src++g.drop (off+len+src.length))
     (by simp[K];omega) ai hpre
     (λx f=>by
      simp only[List.mem_toArray,Wr]at f
      rcases f with(f|f)|f
      .exact k8 x (by simpa using WQ f)
      .exact V x f
      .exact k8 x (by simpa using WR f))
     (λi S=>by
      have h1:fz*z<=(off+len)*z:=Ua _ hfz
      rw[Uz]at h1
      simp only[Ie]
      rw[Vj _ _ _ ai,Wm ab]
      simp)
     (λi d hd=>by
      simp only[Ie]
      rw[Vj _ _ _ ai]
      have htl:(g.take (off+len)).length=off+len:=by simp;omega
      have ht:(g.take (off+len)).flatten.length=off*z+len*z:=by
       rw[XI (λe H=>k3 e (WQ H)),htl,Uz]
      have hsrcl:src.flatten.length=vals.length:=A.length.symm
      rw[W4,Yw,ht,Yw,hsrcl]at hd
      split at hd
      .rename_i S
       rw[Wm S]
       have hd':g.flatten[i]? = some d:=by
        have hzp:0<z:=by
         rcases Um z with h0|h0
         .subst h0;simp at S
         .exact h0
        rw[Y0 (λe H=>k3 e (WQ H))]at hd
        rw[Y0 k3]
        have hq:i / z<off+len:=(Iq hzp).2 (by rw[Uz];exact S)
        rw[Wk,Ur,Wm hq]at hd
        rw[Wk];exact hd
       obtain⟨x,f,J⟩:=k10 i d hd'
       exact⟨x,by simpa using f,J⟩
      .rename_i S
       rw[Wj S]
       split at hd
       .rename_i hi2
        rw[Wm ab]
        obtain⟨x,f,J⟩:=A.get _ d hd
        exact⟨x,f,J⟩
       .rename_i hi2
        rw[Wj ab]
        have hd':g.flatten[i]? = some d:=by
         rcases Um z with h0|hzp
         .subst h0
          rw[Xdg _ (λe H=>k3 e (WR H))]at hd
          cases hd
         .rw[Y0 (λe H=>k3 e (WR H))]at hd
          rw[Y0 k3]
          have hN:i-(off*z+len*z)-vals.length=i-z*(off+len+src.length):=by rw[K,Ot z,Uz,Uz];omega
          have hge:(off+len+src.length)*z<=i:=by rw[Uz,Uz];omega
          rw[hN,Nat.sub_mul_div,Nat.sub_mul_mod (by rw[Ot];exact hge)]at hd
          rw[Wk,UN]at hd
          have hq:off+len+src.length<=i / z:=(Nat.le_div_iff_mul_le hzp).2 hge
          have:off+len+src.length+(i / z-(off+len+src.length))=i / z:=ab
          rw[this]at hd
          rw[Wk];exact hd
        obtain⟨x,f,J⟩:=k10 i d hd'
        exact⟨x,by simpa using f,J⟩)
    refine⟨M,β,_,_,L,(by rw[Xk5];exact I'.mono λ_ h=>Or.inl h),?_,MLe.refl _,BLe.refl _⟩;simp only[Rep];exact .inr ⟨b,cb,off*z,cap,Y,rfl,p,hcb,.inl rfl⟩
   cases h
  cases h
 simp_all
def U7.seg(I:U7 P C s U M β w){id v E' z fz b H p:Nat}{f src:List (List D)}{h:Array Value}{T0:TypeId}{vals:List Value}(Z:s id=some (v,.arr false E' z f fz))(L:β id v=some (some (b,H)))(k1:w.heap[b]? = some (.cells h T0 (0,0)))(k2:h.size=H*z)(r:∀e∈f,e.length=z)(k4:f.length<=H)(k8:∀x∈h,x.oneCell'=true)(u:∀(i:Nat) (d:D),f.flatten[i]? = some d->∃x,h[i]? = some x/\Rep P M Yz d x)(hsz:∀e∈src,e.length=z)(N:vals.length=src.length*z)(j:RepL P M Yz src.flatten vals)(V:∀x∈vals,x.oneCell'=true)(W:p+src.length<=f.length)(O:fz<=p):
 U7 P C (upd s id (some (v,.arr false E' z (f.take p++src++f.drop (p+src.length)) fz))) U M β (w.setRow b (h.toList.take (p*z)++vals++h.toList.drop (p*z+vals.length)).toArray):=by
 have y:(p+src.length)*z<=H*z:=Ua _ ab;rw[Uz]at y;have A:∀e∈f.take (p)++src++f.drop (p+src.length),e.length=z:=by
  intro e g;simp only[Wr]at g;rcases g with(g|g)|g
  .grind
  .simp_all
  grind
 exact I.write Z L k1 (cs':=(h.toList.take (p*z)++vals++h.toList.drop (p*z+vals.length)).toArray) (es':=f.take (p)++src++f.drop (p+src.length))
  (by grind) (by grind) A
  (λx J=>by
   grind)
  (λi K=>by
   have h1:fz*z<=(p)*z:=Ua _ O
   grind)
  (λi d hd=>by
   simp only[Ie]
   rw[Vj _ _ _ (by simp_all)]
   have R:(f.take (p)).length=p:=by simp;omega
   have ht:(f.take (p)).flatten.length=p*z:=by
    rw[XI (λe g=>r e (WQ g)),R]
   have k:src.flatten.length=vals.length:=j.length.symm
   rw[W4,Yw,ht,Yw,k]at hd
   split at hd
   .rename_i K
    have o:f.flatten[i]? = some d:=by
     have q:0<z:=by
      rcases Um z with S|S
      .simp_all
      .omega
     rw[Y0 (λe g=>r e (WQ g))]at hd
     rw[Y0 r]
     have Y:i / z<p:=(Iq q).2 K
     rw[Wk,Ur,Wm Y]at hd
     rw[Wk];exact hd
    have⟨x,J,B⟩:=u i d o
    exact⟨x,by simp_all,B⟩
   .rename_i K
    rw[Wj K]
    split at hd
    .rw[Wm ab]
     have⟨x,J,B⟩:=j.get _ d hd
     exact⟨x,J,B⟩
    .rw[Wj ab]
     have o:f.flatten[i]? = some d:=by
      rcases Um z with S|q
      .subst S
       rw[Xdg _ (λe g=>r e (WR g))]at hd
       grind
      .rw[Y0 (λe g=>r e (WR g))]at hd
       rw[Y0 r]
       have hN:i-(p*z)-vals.length=i-z*(p+src.length):=by rw[N,Ot z,Uz];omega
       have G:(p+src.length)*z<=i:=by rw[Uz];omega
       rw[hN,Nat.sub_mul_div,Nat.sub_mul_mod (by rw[Ot];exact G)]at hd
       rw[Wk,UN]at hd
       have Y:p+src.length<=i / z:=(Nat.le_div_iff_mul_le q).2 G
       simp_all
     have⟨x,J,B⟩:=u i d o
     exact⟨x,by simp_all,B⟩)
end
variable {P:Program}
section
variable {C:Cx}{s:Heap}{U:Nat->Prop}{ver:Nat}{M:Mem}{β:Loc}{w:World}
def OpOK.val(I:U7 P C s U M β w){r:Result Next}{d:D}{v:Value}(e:r=.ok (.value v) w)(h:Rep P M β d v):OpOK P C s [] U ver M β r d:=
 ⟨M,β,w,v,.inl e,I.mono λ_ f=>.inl f,h,MLe.refl _,BLe.refl _⟩
def XfK{T T2 E E2:TypeId}{te:OF}{o':TypeId}(h:P.underlying T=some (.slice E))(e:P.underlying T2=some (.slice E2))(k:Xm P E=some te){xb:Option Addr}{m xc:Nat}{vals:List Value}(u:vals.length=m*te.size)(D:xb=none->m=0)(G:∀a,xb=some a->∀(j:Nat) (v:Value),vals[j]? = some v->w.cell? (a.add j)=some v)(x:∀v∈vals,v.oneCell'=true):
 OT P w E te m vals (λy=>(Builtin.append_ #[T,T2] o' #[y,.slice xb m xc]).run P w):=by
 have p:∀w':World,(∀a,w'.cell? a=w.cell? a)->(Builtin.firstCells te.size m (.slice xb m xc)).run P w'=.ok vals.toArray w':=by
  intro w' hw;cases xb with
  |none=>simp_all[Builtin.firstCells]
  |some a=>exact run_firstCells_some (P:=P) w' te.size m a m xc vals u (λj v H=>by simp_all)
 exact {
  room:=λb o sLen sCap cur T0 q z f=>Xmr h e k q (p w λ_=>rfl) z f x
  none:=λa sLen sCap q A=>Xms h e k a q (p w λ_=>rfl) A
  grow:=λbase sLen sCap olds r g hb B=>Xmt h e k r g (p w.drew λ_=>rfl) hb B}
def XgW{T T2 E:TypeId}{te:OF}{o':TypeId}{k k':IntKind}(x:P.underlying T=some (.slice E))(f:P.underlying T2=some (.int k))(z:Xm P E=some te){n:Int}(A:0<=n)(g:n<=Xs)(j:n.toNat*te.bytes<=Xs){vals:List Value}(e:vals=(if n.toNat*te.size=0 then[]else(Builtin.zeroCells te.zero.cells n.toNat).toList))(J:∀v∈vals,v.oneCell'=true)(K:te.zero.cells.size=te.size):
 OT P w E te n.toNat vals (λy=>(Builtin.append_ #[T,T2] o' #[y,.int k' n]).run P w):=by
 refine {
  room:=λb o sLen sCap cur T0 B L p=>XpB x f z A g j e B L p J
  none:=λa sLen sCap B S=>?_
  grow:=λbase sLen sCap olds D q hb N=>XpC x f z A g j e D q hb N}
 have hw:IntKind.i64.wrap n=n:=by rw[IntKind.wrap_i64];simp only[Xs]at g;omega
 have r:¬n<0:=ab;have⟨i,d,O,V,R,G,H,_⟩:=Yc z;have u:¬(281474976710656<n*(i.bytes:Int)):=by
  have:((n.toNat*te.bytes:Nat):Int)=n*te.bytes:=by rw[Int.natCast_mul,Int.toNat_of_nonneg A]
  rw[H,←this];simp only[Xs]at j;omega
 have I:n.toNat*te.size=0:=by
  rcases Um (n.toNat*te.size)with h|h
  .omega
  rw[Wj ab]at e;have:(Builtin.zeroCells te.zero.cells n.toNat).toList.length=n.toNat*te.size:=by rw[Ib,Yi,K]
  simp_all
 cases a<;>simp[Builtin.append_,run_underlying x,run_underlying f,sizeOf,typeInfo,O,G,asInt,asIntOf,hw,r,u,B,I,storeCells]
def Y1(n:Nat)(f:List D)(z:Nat)(g:f.length=z):∀e∈List.replicate n f,e.length=z:=by simp_all
def Xau{te:OF}{e:List D}(p:JQ te=some e)(n:Nat):RepL P M β (List.replicate n e).flatten (Builtin.zeroCells te.zero.cells n).toList:=by
 have⟨q,A⟩:=Zk (P:=P) (M:=M) (β:=β) p;have k:te.zero.cells.size=e.length:=by simpa using q.length
 have f:=XI (Y1 n e e.length rfl);rw[W9]at f;refine RepL.of (by rw[f,Ib,Yi,k]) λi d x hd g=>?_;have o:i<n*e.length:=by
  rcases Ux i (n*e.length)with h|h
  .exact h
  rw[WN ab]at hd;cases hd
 have j:0<e.length:=by
  rcases Um e.length with h|h
  .rw[h]at o;simp at o
  exact h
 have v:i / e.length<n:=(Iq j).2 o;have r:=Nat.mod_lt i j;rw[Y0 (Y1 n e e.length rfl),Wk,Iw,Wm v]at hd;have⟨y,u,B⟩:=q.get _ d hd;have z:x=y:=by rw[U2]at g;simp only[Builtin.zeroCells,Array.getElem?_map,k,Array.getElem?_range,o,if_true]at g;simp only[UZ,Wo]at g;rw[getElem!_pos _ _ (by rw[k];exact r)]at g;rw[U2,Array.getElem?_eq_getElem (by rw[k];exact r)]at u;rw[←g];simpa using u
 simp_all
def XpD(I:U7 P C s U M β w)(A:¬U ver){T E z a b:Nat}{zz:Value}{te:OF}(B:Xm P T=some ⟨a,b,zz,.slice E z⟩)(r:Xm P E=some te){h:List D}(f:JQ te=some h)(g:h.length=z)(G:te.size=z){k u:IntKind}{n:Int}(v:0<=n)(x:n.toNat<=Xs)(y:n.toNat*te.bytes<=Xs)(id:Nat):
 VOK P C s [(id,ver,.arr false E z (List.replicate n.toNat h) 0)] U ver M β ((Instr.makeSlice T (.int k n) (.int u n)).run P w) (.osl id ver z 0 n.toNat):=by
 have⟨i,d,H,N,j,o,p,_⟩:=Yc r;have⟨J,K⟩:=Zk (P:=P) (M:=M) (β:=β) f;have q:te.zero.cells.size=z:=by have:=J.length;simp at this;omega
 have e:=run_make (P:=P) w T E i te.zero (XX B).1 H j k u n n v (Uu _) (by
  have:((n.toNat*te.bytes:Nat):Int)=n*te.bytes:=by rw[Int.natCast_mul,Int.toNat_of_nonneg v]
  rw[p,Int.mul_comm,←this];simp only[Xs]at y;omega) (by simp only[Xs]at x;omega)
 have hcells:madeCells te.zero.cells (n.toNat*i.size)=Builtin.zeroCells te.zero.cells n.toNat:=by rw[o,G,←q];rfl
 rw[hcells]at e
 have⟨β',I',hβ,L⟩:=XfJ I A false id E z (List.replicate n.toNat h) n.toNat (Builtin.zeroCells te.zero.cells n.toNat) E w ⟨rfl,rfl,rfl,rfl⟩ (by rw[Yi,q]) (Y1 _ _ _ g) ac (by simpa using x) (by rw[Vh r];simpa using y)
  (Zl K _) (by
   rw[Uy]
   .exact Xau f n.toNat
   .rw[XI (Y1 _ _ _ g),Ib,Yi,q];simp)
 refine⟨M,β',_,_,e,I',?_,MLe.refl _,L⟩;grind[Rep]
def XeJ(I:U7 P C s U M β w)(J:¬U ver){T E z n a b:Nat}{zz:Value}{te:OF}(B:Xm P T=some ⟨a,b,zz,.slice E z⟩)(o:Xm P E=some te){r:List D}(e:JQ te=some r)(u:r.length=z)(G:te.size=z)(K:n*z<=16777216)(v:n*te.bytes<=Xs)(L:n<=Xs){parts:List (Nat×D)}{vparts:Array (Nat×Value)}{p:List (List D)}(h:Xdc z (List.replicate n r) parts=some p)(N:parts.map (·.1)=vparts.toList.map (·.1))(O:RepL P M Yz (parts.map (·.2)) (vparts.toList.map (·.2)))(id:Nat):
 VOK P C s [(id,ver,.arr false E z p 0)] U ver M β ((Instr.buildSlice T n vparts).run P w) (.osl id ver z 0 n):=by
 have⟨R,S⟩:=Zk (P:=P) (M:=M) (β:=β) e;have H:te.zero.cells.size=z:=by have:=R.length;simp at this;omega
 have⟨vs,k1,k2,q,y,V⟩:=XgT z parts vparts.toList _ (Builtin.zeroCells te.zero.cells n) p h (Y1 _ _ _ u) (Xau e n) N O (λx W=>Zl S n x W);rw[W9]at q;have f:(Instr.buildSlice T n vparts).run P w=.ok (.slice (some ⟨w.heap.size,0,none⟩) n n) (w.alloc (.cells vs E)):=by
  have g:¬(16777216<n*z):=ab;by_cases A:n*z=0
  .have Y:Instr.fill (λi=>some (i*z,z)) #[] vparts.toList=some vs:=by
    have:Builtin.zeroCells te.zero.cells n=#[]:=by apply Array.eq_empty_of_size_eq_zero;rw[Yi,H];exact A
    rw[this]at k1;exact k1
   simp[Instr.buildSlice,run_underlying (XX B).1,YD o,G,A,Y,newRow,Array.range_zero']
  have j:((Array.range (n*z)).map λi=>te.zero.cells[i % te.zero.cells.size]!)=Builtin.zeroCells te.zero.cells n:=by rw[←H];rfl
  simp only[Instr.buildSlice,Sem.run_bind,run_underlying (XX B).1,YD o,G,g,A,newRow,KB o,Result.andThen_ok,Sem.run_ite,gt_iff_lt,if_false,Sem.run_pure,j,k1,Nat.reducePow,run_newObj,World.alloc_eq]
 have k:vs.size=n*z:=by have:=k2.length;rw[XI y,q]at this;simpa using this
 have⟨β',I',hβ,Z⟩:=XfJ I J false id E z p n vs E w ⟨rfl,rfl,rfl,rfl⟩ k y ab ab (by rw[Vh o,q];exact v) V (by
  rw[Uy]
  .exact k2
  .rw[XI y,q];simp[k])
 refine⟨M,β',_,_,f,I',?_,MLe.refl _,Z⟩;grind[Rep]
end
variable {P:Program}
section
variable {C:Cx}{s:Heap}{U:Nat->Prop}{ver:Nat}{M:Mem}{β:Loc}{w:World}
def Vk{d:D}{n:Int}(h:ivD d=some n){y:Value}(e:Rep P M β d y):∃k,y=.int k n/\wfV (.int k n):=by unfold ivD at h;grind[Rep]
def XfL{t:Operand->D}{ρ:Operand->Value}(hρ:∀x,Rep P M β (t x) (ρ x))(l:List Operand):RepL P M β (l.map t) (l.map ρ):=by
 induction l with
 |nil=>rfl
 |cons x l e=>grind[UA,RepL]
def XeU{t:Operand->D}{ρ:Operand->Value}(hρ:∀x,Rep P M β (t x) (ρ x))(l:List (Nat×Operand)):
 (l.map λp=>(p.1,t p.2)).map (·.1)=(l.map λp=>(p.1,ρ p.2)).map (·.1)/\RepL P M β ((l.map λp=>(p.1,t p.2)).map (·.2)) ((l.map λp=>(p.1,ρ p.2)).map (·.2)):=by
 constructor
 .simp
 have:=XfL hρ (l.map (·.2));simp_all[IU,Function.comp_def]
def Vl{t:Operand->D}{ρ:Operand->Value}(hρ:∀x,Rep P M β (t x) (ρ x)){o:Option Operand}{r:Option Int}(h:ivO t o=some r):∃e:IntKind,(o.map ρ)=r.map (λn=>Value.int e n):=by
 cases o with
 |none=>simp[ivO]at h;subst h;simp
 |some x=>simp only[ivO,Uo]at h;obtain⟨n,f,rfl⟩:=h;have⟨k,g,_⟩:=Vk f (hρ x);simp_all
def Z4(k:IntKind)(n:Int)(y:Nat)(code:BoundsCode)(e:0<=n)(f:n<=y):(Instr.sliceBound (.int k n) y code).run P w=.ok n.toNat w:=by simp[Instr.sliceBound,asIntOf,e,f]
def KJ(k1 k2:IntKind)(e f:Option Int)(len cap:Nat)(h:0<=e.getD 0)(j:e.getD 0<=f.getD len)(k:f.getD len<=len)(o:len<=cap):
 (Instr.sliceBounds true len cap (e.map (Value.int k1)) (f.map (Value.int k2)) none).run P w=.ok ((e.getD 0).toNat,(f.getD len).toNat,cap) w:=by
 cases e<;>cases f<;>simp only[Option.getD_none,Ii]at h j k⊢
 .rfl
 .rename_i b;have hb:=Z4 (P:=P) (w:=w) k2 b cap .sliceAcap ab ab;simp[Instr.sliceBounds,hb]
 .rename_i a;have g:=Z4 (P:=P) (w:=w) k1 a len .sliceB ab ab;simp[Instr.sliceBounds,g]
 rename_i a b;have hb:=Z4 (P:=P) (w:=w) k2 b cap .sliceAcap ab ab;have g:=Z4 (P:=P) (w:=w) k1 a b.toNat .sliceB ab ab;simp[Instr.sliceBounds,hb,g]
def JS(k1 k2:IntKind)(l h:Int)(len cap:Nat)(e:0<=l)(j:l<=h)(f:h<=cap):
 (Instr.sliceBounds true len cap (some (Value.int k1 l)) (some (Value.int k2 h)) none).run P w=.ok (l.toNat,h.toNat,cap) w:=by have hb:=Z4 (P:=P) (w:=w) k2 h cap .sliceAcap ab f;have g:=Z4 (P:=P) (w:=w) k1 l h.toNat .sliceB e ab;simp[Instr.sliceBounds,hb,g]
def Xbl(k1 k2 f:IntKind)(e:Option Int)(h m:Int)(len cap:Nat)(j:0<=e.getD 0)(k:e.getD 0<=h)(q:h<=m)(o:m<=cap):
 ∃r,(Instr.sliceBounds true len cap (e.map (Value.int k1)) (some (Value.int k2 h)) (some (Value.int f m))).run P w=.ok r w:=by
 have g:=Z4 (P:=P) (w:=w) f m cap .slice3Acap ab o;have hb:=Z4 (P:=P) (w:=w) k2 h m.toNat .slice3B ab ab;cases e with
 |none=>exact⟨_,by simp[Instr.sliceBounds,hb,g];rfl⟩
 |some l=>have p:=Z4 (P:=P) (w:=w) k1 l h.toNat .slice3C j (by simp only[Ii]at k;omega);exact⟨_,by simp[Instr.sliceBounds,hb,g,p];rfl⟩
def VE(k1 k2 o:IntKind)(e f mx:Option Int)(cap len:Nat)(h:mx=none\/f≠none)(z:e.getD 0=0)(p:f.getD 0=0)(q:mx.getD 0=0)(j:(mx=none->cap=0)/\(f=none->len=0)):
 (Instr.sliceBounds true len cap (e.map (Value.int k1)) (f.map (Value.int k2)) (mx.map (Value.int o))).run P w=.ok (0,0,0) w:=by
 have g:∀(k:IntKind) (y:Nat) (code:BoundsCode),(Instr.sliceBound (.int k 0) y code).run P w=.ok 0 w:=λk y code=>by rfl
 cases f with
 |none=>
  have r:mx=none:=by rcases h with h|h;exact h;exact absurd rfl h
  subst r;have⟨u,v⟩:=j;rw[u rfl,v rfl];cases e with
  |none=>rfl
  |some l=>simp_all[Ii,Instr.sliceBounds,g]
 |some x=>
  subst p;cases mx with
  |none=>
   rw[j.1 rfl];cases e with
   |none=>rfl
   |some l=>simp_all[Ii,Instr.sliceBounds,g]
  |some m=>
   subst q;cases e with
   |none=>rfl
   |some l=>simp_all[Ii,Instr.sliceBounds,g]
def Xav(I:U7 P C s U M β w){T E sz a b:Nat}{zz:Value}(hT:Xm P T=some ⟨a,b,zz,.slice E sz⟩){te:OF}(hE:Xm P E=some te){f k mx:Option Int}{k1 k2 K:IntKind}{d d':D}{c:Prop}(h:XaZ sz f k mx d=some (c,d'))(N:c){y:Value}(p:Rep P M β d y):
 VOK P C s [] U ver M β ((Instr.sliceAt T y (f.map (Value.int k1)) (k.map (Value.int k2)) (mx.map (Value.int K))).run P w) d':=by
 have⟨hu,S⟩:=XX hT;have g:(sizeOf E).run P w=.ok sz w:=by rw[YD hE,S,Xa1 hE]
 have start:∀(base:Option Addr) (len cap:Nat),(Instr.sliceAt T (.slice base len cap) (f.map (Value.int k1)) (k.map (Value.int k2)) (mx.map (Value.int K))).run P w =
  ((Instr.sliceBounds true len cap (f.map (Value.int k1)) (k.map (Value.int k2)) (mx.map (Value.int K))).run P w).andThen λr w'=>
   ((sizeOf E).run P w').andThen λsize w''=>.ok (.slice (if r.2.2=r.1 then base else base.map (·.add (r.1*size))) (r.2.1-r.1) (r.2.2-r.1)) w'':=by
  intro base len cap
  simp[Instr.sliceAt,Instr.slice,run_underlying hu]
 unfold XaZ at h;split at h
 .have key:(mx=none\/k≠none)/\(f.getD 0=0/\k.getD 0=0/\mx.getD 0=0)/\d'=.nsl:=by
   split at h
   .cases h
   rename_i V;simp only[Wo,Wx]at h;obtain⟨rfl,rfl⟩:=h;refine⟨?_,N,rfl⟩;cases mx with
   |none=>exact .inl rfl
   |some m=>exact .inr λh=>V m rfl h
  obtain⟨u,⟨x,h3,h4⟩,rfl⟩:=key;obtain⟨B,rfl⟩:=p;refine .same I (v:=.slice B 0 0) ?_ (by simp[Rep]);rw[start,VE k1 k2 K f k mx 0 0 u x h3 h4 ⟨λ_=>rfl,λ_=>rfl⟩];simp[g]
 .rename_i E' z A;split at h
  .rename_i H;subst H;obtain⟨W,q2,q3,B,cap,rfl,j,p⟩:=p;split at h
   .obtain⟨rfl,rfl⟩:=h;have⟨L,u,x⟩:=N;have q:((A.drop (f.getD 0).toNat).take ((k.getD A.length).toNat-(f.getD 0).toNat)).length=(k.getD A.length).toNat-(f.getD 0).toNat:=by simp;omega
    refine .same I (v:=.slice (if cap=(f.getD 0).toNat then B else B.map (·.add ((f.getD 0).toNat*z))) ((k.getD A.length).toNat-(f.getD 0).toNat) (cap-(f.getD 0).toNat)) ?_ ?_
    .rw[start,I9,KJ k1 k2 f k A.length cap L u x j];simp only[Result.andThen_ok,g]
    have hmul:((k.getD A.length).toNat-(f.getD 0).toNat)*P.bytesOf E'<=A.length*P.bytesOf E':=Ua _ ab;refine⟨λe G=>W e (WR (WQ G)),ab,by rw[q];omega,_,_,by rw[q],ab,?_⟩;rcases Um ((k.getD A.length).toNat-(f.getD 0).toNat)with J|J
    .left;exact WG (by rw[q];exact J)
    right;rcases p with rfl|⟨b,o,rfl,p⟩
    .simp at J x;omega
    rw[Wj ab];refine⟨b,o+(f.getD 0).toNat*z,by simp[U1],RepE.of (z:=z) (λe G=>W e (WR (WQ G))) λi e G=>?_⟩;rw[VP]at G;split at G
    .have:=p.get W _ e G;rw[Uz,←Nat.add_assoc]at this;exact this
    cases G
   .obtain⟨rfl,rfl⟩:=h;obtain⟨u,rfl,rfl⟩:=N;refine .same I (v:=.slice B 0 0) ?_ (by simp[Rep]);rw[start,VE k1 k2 K f (some 0) (some 0) cap A.length (.inr ac) u rfl rfl ⟨ac,ac⟩];simp[g]
   cases h
  cases h
 .rename_i id v z off len;split at h
  .rename_i H;subst H;split at h
   .obtain⟨rfl,rfl⟩:=h;obtain⟨L,u,x⟩:=N;simp only[Rep]at p;rcases p with⟨hn,rfl,rfl,B,rfl⟩|⟨b,cb,o,cap,O,rfl,j,Y,R⟩
    .refine .same I (v:=.slice B 0 0) ?_ ?_
     .rw[start,I9,KJ k1 k2 f k 0 0 L u x (Uh _)];have Z:(f.getD 0).toNat=0:=ab;have e2:(k.getD ((0:Nat):Int)).toNat=0:=ab;simp only[Result.andThen_ok,g,Z,e2];simp
     have Z:(f.getD 0).toNat=0:=ab;have e2:(k.getD ((0:Nat):Int)).toNat=0:=ab;simp only[Rep,Z,e2];exact .inl ⟨hn,ac⟩
    refine .same I (v:=.slice (some ⟨b,if cap=(f.getD 0).toNat then o else o+(f.getD 0).toNat*z,none⟩) ((k.getD len).toNat-(f.getD 0).toNat) (cap-(f.getD 0).toNat)) ?_ ?_
    .rw[start,I9,KJ k1 k2 f k len cap L u x j];simp only[Result.andThen_ok,g];split
     .simp
     simp[U1]
    simp only[Rep];refine .inr ⟨b,cb,_,_,O,rfl,ab,ab,?_⟩;split
    .rename_i hcl;right;omega
    rename_i hcl;left;rcases R with R|R
    .rw[R,Uz]
    omega
   rename_i m;split at h
   .rename_i hh;simp only[Wo,Wx]at h;obtain⟨rfl,rfl⟩:=h;obtain⟨L,u,x,h3⟩:=N;simp only[Rep]at p;obtain⟨base,cap,rfl,j⟩:∃base cap,y=.slice base len cap/\len<=cap:=by
     rcases p with⟨hn,rfl,rfl,B,rfl⟩|⟨b,cb,o,cap,O,rfl,j,Y,R⟩
     .exact⟨_,_,rfl,Uh _⟩
     exact⟨_,_,rfl,j⟩
    obtain⟨r,p⟩:=Xbl (P:=P) (w:=w) k1 k2 K f hh m len cap L u x ab;refine .same I (v:=.slice (if r.2.2=r.1 then base else base.map (·.add (r.1*z))) (r.2.1-r.1) (r.2.2-r.1)) ?_ (by simp only[Rep]);rw[start,UZ,UZ,p];simp only[Result.andThen_ok,g]
   cases h
  cases h
 cases h
def Xk6(I:U7 P C s U M β w){T E sz a b:Nat}{zz:Value}(p:Xm P T=some ⟨a,b,zz,.slice E sz⟩){te:OF}(j:Xm P E=some te){L N mx:Option Int}{k1 k2 Z:IntKind}{d d':D}{c:Prop}(h:Xa0 s sz L N mx d=some (c,d'))(q:c){y:Value}(k:Rep P M β d y):
 VOK P C s [] U ver M β ((Instr.sliceAt T y (L.map (Value.int k1)) (N.map (Value.int k2)) (mx.map (Value.int Z))).run P w) d':=by
 unfold Xa0 at h;split at h
 .rename_i l r;split at h
  .rename_i id v z off len;split at h
   .rename_i v' bx E' z' es fz hs;split at h
    .rename_i g;obtain⟨rfl,rfl,rfl⟩:=g;split at h
     .exact Xav I p j h q k
     simp only[Wo,Wx]at h;obtain⟨rfl,rfl⟩:=h;obtain⟨O,R,S⟩:=q;obtain⟨V,G⟩:=XX p;have e:(sizeOf E).run P w=.ok z w:=by rw[YD j,G,Xa1 j]
     obtain⟨x,A,f⟩:=I.obs _ _ _ hs;simp only[Rep]at k;rcases k with⟨W,rfl,rfl,a',rfl⟩|⟨b,cb,o,cap,u,rfl,Y,hcb,B⟩
     .rw[W]at A;obtain rfl:=Wz A;simp only[ObRep]at f;rw[f.2.1]at S;simp only[IQ]at S;refine .same I (v:=.slice a' 0 0) ?_ ?_
      .have:=JS (P:=P) (w:=w) k1 k2 l r 0 0 O R ab;simp only[Instr.sliceAt,UZ,I9];simp[Instr.slice,run_underlying V,this,e];have H:l.toNat=0:=ab;have J:r.toNat=0:=ab;simp[H,J]
      have H:l.toNat=0:=ab;have J:r.toNat=0:=ab;simp only[Rep,H,J];exact .inl ⟨W,ac⟩
     rw[u]at A;obtain rfl:=Wz A;simp only[ObRep]at f;obtain⟨cs,T',_,_,_,hle,_⟩:=f;have hb:=JS (P:=P) (w:=w) k1 k2 l r len cap O R ab;refine .same I (v:=.slice (some ⟨b,if cap=l.toNat then o else o+l.toNat*z,none⟩) (r.toNat-l.toNat) (cap-l.toNat)) ?_ ?_
     .simp only[Instr.sliceAt,UZ,I9];simp only[Instr.slice,run_underlying V,hb,Sem.run_bind,Result.andThen_ok,e];split<;>simp_all[U1]
     simp only[Rep];refine .inr ⟨b,cb,_,_,u,rfl,ab,ab,?_⟩;split
     .rename_i K;right;omega
     rename_i K;left;rcases B with B|B
     .rw[B,Uz]
     omega
    exact Xav I p j h q k
   cases h
  exact Xav I p j h q k
 exact Xav I p j h q k
def XgX{M:Mem}:∀{e:List D} {b o:Nat},RepC P M e b o->RepE P M (e.map λx=>[x]) b o
 |[],_,_,_=>by simp[RepE]
 |d::e,b,o,h=>by exact⟨⟨h.1,trivial⟩,XgX h.2⟩
def Xk7(I:U7 P C s U M β w){T E n sz a b:Nat}{zz:Value}(q:Xm P T=some ⟨a,b,zz,.array n E sz⟩){te:OF}(r:Xm P E=some te)(u:te.size=1)(B:0<n)(G:n<=Xs)(z:n*P.bytesOf E<=Xs){p:List D}{y:Value}(h:Rep P M β (.ipt n p 0) y):
 VOK P C s [] U ver M β ((Instr.sliceAt T y none none none).run P w) (.isl E 1 (p.map λx=>[x])):=by
 have A:=(K3 q).1;have g:(sizeOf E).run P w=.ok 1 w:=by rw[YD r,u]
 obtain⟨f,j,o,rfl,h⟩:=h;refine .same I (v:=.slice (some ⟨j,o,none⟩) n n) ?_ ?_
 .have k:¬n=0:=ab;simp[Instr.sliceAt,run_underlying,A,Instr.sureAddr,Instr.sliceBounds,g,k,U1]
 refine⟨λe H=>?_,ai,by simp only[Ug,f];exact z,some ⟨j,o,none⟩,n,by simp[f],ai,.inr ⟨j,o,rfl,XgX h⟩⟩;grind
end
variable {P:Program}
section
variable {C:Cx}{s:Heap}{U:Nat->Prop}{M:Mem}{β:Loc}{w:World}
def frz(s:Heap)(l:List Nat):Heap:=λi=>if i∈l then(s i).map XeF else s i
def Za(s:Heap)(u v:Up):app s (u++v)=app (app s u) v:=by
 induction u generalizing s with
 |nil=>rfl
 |cons x u e=>exact e _
def VQ(e:Heap):∀(l:List Nat) (s:Heap) (i:Nat),(∀j,s j=e j\/s j=(e j).map XeF)->app s (Xbk e l) i=if i∈l then(e i).map XeF else s i
 |[],s,i,_=>by rfl
 |j::l,s,i,h=>by
  unfold Xbk;split
  .rename_i x g;show app (upd s j (some (XeF x))) (Xbk e l) i=_;rw[VQ e l _ i (λk=>by
    by_cases o:k=j
    .subst o;rw[YC];right;rw[g];rfl
    simp_all[Yb,o])]
   by_cases p:i∈l
   .grind
   by_cases f:i=j
   .subst f;simp[p,g,YC]
   simp[p,f,Yb]
  rw[VQ e l s i h];grind
def VR(s:Heap)(l:List Nat):app s (Xbk s l)=frz s l:=by funext i;rw[VQ s l s i (λ_=>.inl rfl)];rfl
def Frz(s:Heap)(M:Mem)(β:Loc)(w:World)(l:List Nat):Prop:=
 ∀id∈l,∀v E z e fz b g f T,s id=some (v,.arr false E z e fz)->β id v=some (some (b,g))->w.heap[b]? = some (.cells f T (0,0))->∀o,o<e.length*z->M b o=f[o]?
open Classical in
def U7.freeze(h:U7 P C s U M β w)(l:List Nat):∃M',U7 P C (frz s l) U M' β w/\MLe M M'/\Frz s M' β w l:=by
 let D (b o:Nat):Prop:=∃id v E z e fz f,id∈l/\s id=some (v,.arr false E z e fz)/\β id v=some (some (b,f))/\o<e.length*z;let M':Mem:=λb o=>if D b o then w.cell? ⟨b,o,none⟩else M b o
 have S:∀{id v E z e fz b f},s id=some (v,.arr false E z e fz)->β id v=some (some (b,f))->∃k T,w.heap[b]? = some (.cells k T (0,0))/\k.size=f*z/\e.length<=f/\(∀x∈k,x.oneCell'=true)/\(∀o,M b o=if o<fz*z then k[o]? else none):=by
  intro id v E z e fz b f g hb;obtain⟨x,G,H⟩:=h.obs id v _ g;rw[hb]at G;obtain rfl:some (b,f)=x:=by simp_all
  obtain⟨k,T,k1,k2,k3,Z,k5,k6,k7,k8,k9,K⟩:=H;exact⟨k,T,k1,k2,Z,k8,k9⟩
 have p:MLe M M':=by
  intro b o x G;show(if D b o then _ else M b o)=some x;split
  .exact(h.mem b o x G).1
  omega
 have I:∀{id v E z e fz b f},id∈l->s id=some (v,.arr false E z e fz)->β id v=some (some (b,f))->∀{k T},w.heap[b]? = some (.cells k T (0,0))->∀o,M' b o=if o<e.length*z then k[o]? else none:=by
  intro id v E z e fz b f J g hb k T L o;obtain⟨cs',T',g1,g2,g3,g4,g5⟩:=S g hb;rw[L]at g1;obtain⟨rfl,rfl⟩:k=cs'/\T=T':=by simp_all
  show(if D b o then _ else M b o)=_;by_cases ho:o<e.length*z
  .rw[Wm ⟨id,v,E,z,e,fz,f,J,g,hb,ho⟩,Wm ho,cell_of_row w b o k T (0,0) L]
  rw[Wj,Wj ho,g5 o,Wj]
  .have⟨x,G,H⟩:=h.obs id v _ g;obtain rfl:some (b,f)=x:=by simp_all
   have⟨_,_,_,_,_,_,_,_,k7,_⟩:=H;have:fz*z<=e.length*z:=Ua _ k7;omega
  rintro⟨q,O,E',z',V,W,r,Y,u,A,ho'⟩;have hid:=h.inj id v _ q O _ b f r g u hb A;grind
 have R:∀b,(∀id v E z e fz f,id∈l->s id=some (v,.arr false E z e fz)->β id v≠some (some (b,f)))->∀o,M' b o=M b o:=by intro b hb o;show(if D b o then _ else M b o)=_;rw[Wj];rintro⟨q,O,E',z',V,W,r,Y,u,A,ho'⟩;exact hb q O E' z' V W r Y u A
 have N:∀id v ob,frz s l id=some (v,ob)->∃j,s id=some (v,j)/\ob.bx=j.bx/\(ob=j\/(id∈l/\∃E z e fz,j=.arr false E z e fz/\ob=.arr false E z e e.length)):=by
  intro id v ob g;unfold frz at g;split at g
  .rename_i J;simp only[Uo]at g;have⟨⟨v0,o0⟩,B,h2⟩:=g;cases o0 with
   |raw o=>simp_all[XeF]
   |mp e=>simp_all[XeF]
   |arr bx E z e fz=>
    cases bx with
    |true=>simp_all[XeF]
    |false=>obtain⟨rfl,rfl⟩:=h2;exact⟨_,B,rfl,.inr ⟨J,_,_,_,_,rfl,rfl⟩⟩
  simp_all
 refine⟨M',?_,p,λid J v E z e fz b f k T g hb L o ho=>by rw[I J g hb L,Wm ho]⟩;constructor
 .intro b o x G;have hx':(if D b o then w.cell? ⟨b,o,none⟩else M b o)=some x:=G;split at hx'
  .grind
  exact h.mem b o x hx'
 .exact h.used
 .intro id v ob g;have⟨j,B,_,h2⟩:=N id v ob g;have⟨x,G,H⟩:=h.obs id v j B;refine⟨x,G,?_⟩;rcases h2 with rfl|⟨J,E,z,e,fz,rfl,rfl⟩
  .by_cases hf:id∈l/\∃E z e fz,ob=.arr false E z e fz
   .obtain⟨J,E,z,e,fz,rfl⟩:=hf;cases x with
    |none=>assumption
    |some bc=>
     have⟨k,T,k1,k2,k3,Z,k5,k6,k7,k8,k9,K⟩:=H;have hlen:fz=e.length:=by have:=g;unfold frz at this;rw[Wm J,B]at this;simp[XeF]at this;omega
     subst hlen;exact⟨k,T,k1,k2,k3,Z,k5,k6,k7,k8,λo=>I J B G k1 o,λi d hd=>by
      have⟨y,hy,H⟩:=K i d hd
      exact⟨y,hy,H.mono p (BLe.refl _)⟩⟩
   refine H.mono p (BLe.refl _) (λ_ _ _=>rfl) ?_;rintro b f rfl o;refine R b ?_ o;rintro q O E' z' V W r Y u A;have hid:=h.inj id v _ q O _ b f r B u G A;grind
  cases x with
  |none=>simp_all[ObRep]
  |some bc=>
   have⟨k,T,k1,k2,k3,Z,k5,k6,k7,k8,k9,K⟩:=H;exact⟨k,T,k1,k2,k3,Z,k5,k6,Uh _,k8,λo=>I J B G k1 o,λi d hd=>by
    have⟨y,hy,H⟩:=K i d hd
    exact⟨y,hy,H.mono p (BLe.refl _)⟩⟩
 .intro id v ob b f g hb;have⟨j,B,h2,_⟩:=N id v ob g;rw[h2];exact h.own id v j b f B hb
 .intro id v ob q O ob' b f r g u hb A;have⟨j,B,_⟩:=N id v ob g;have⟨ob0',h1',_⟩:=N q O ob' u;exact h.inj id v j q O ob0' b f r B h1' hb A
 .exact h.keep
 .intro b o hb;rw[R b ?_ o]
  .exact h.old b o hb
  intro id v E z e fz f J g hbb;rcases h.own id v _ b f g hbb with B|B
  .omega
  simp_all[Ob.bx]
 .exact h.le.trans p
 exact h.glob
mutual
def snap_rep{M':Mem}(I:U7 P C s U M β w)(r:MLe M M'):∀{d d':D} {c:Prop} {l:List Nat},snap s d=some (c,d',l)->c->Frz s M' β w l->∀{y:Value},Rep P M β d y->Rep P M' Yz d' y
 |.osl id ver z off len,d',c,l,h,p,g,y,f=>by
  unfold snap at h;split at h
  .rename_i v' E z' A fz hs;split at h
   .rename_i hv;have⟨rfl,rfl⟩:=hv;obtain⟨rfl,rfl,rfl⟩:=h;have q:((A.drop off).take len).length=len:=by simp;omega
    have⟨x,J,L⟩:=I.obs id ver _ hs;rcases f with⟨hn,rfl,rfl,a,rfl⟩|⟨b,cb,o,cap,hb,rfl,G,hcb,ho⟩
    .exact⟨ac,by simp[Xs],by simp[Xs],a,0,ac,ac,.inl ac⟩
    rw[hb]at J;obtain rfl:some (b,cb)=x:=by simpa using J
    have⟨K,T,k1,k2,N,k4,k5,k6,k7,k8,k9,O⟩:=L;have u:∀e∈(A.drop off).take len,e.length=z:=λe B=>N e (WR (WQ B));have hmul:len*P.bytesOf E<=A.length*P.bytesOf E:=Ua _ ab;refine⟨u,ab,by rw[q];omega,_,cap,by rw[q],by rw[q];exact G,?_⟩;rcases Um len with h0|h0
    .left;exact WG (by rw[q];exact h0)
    right;have R:o=off*z:=by rcases ho with h|h;exact h;omega
    subst R;refine⟨b,off*z,rfl,RepE.of (z:=z) u λi e B=>RepC.of λj d hd=>?_⟩;rw[VP]at B;split at B
    .have hj:j<z:=by
      have:=N e (W5 B);rcases Ux j z with h|h
      .exact h
      rw[WN ab]at hd;cases hd
     have⟨x,J,S⟩:=O ((off+i)*z+j) d (by rw[JR N _ _ hj,Wk,B];exact hd);have V:(off+i)*z+j<A.length*z:=by have:(off+i+1)*z<=A.length*z:=Ua _ ab;rw[IR]at this;omega
     have hm:=g id ac ver E z A fz b cb K T hs hb k1 _ V;refine⟨x,?_,S.mono r (BLe.refl _)⟩;rw[←J,←hm,Uz]
    cases B
   cases h
  simp_all
 |.agg K,d',c,l,h,p,g,y,f=>by
  unfold snap at h;split at h
  .rename_i c' ds l' H;obtain⟨rfl,rfl,rfl⟩:=h;simp only[Rep]at f⊢;obtain⟨W,e,f⟩:=f;exact⟨W,e,Km I r H p g f⟩
  simp_all
 |.tup K,d',c,l,h,p,g,y,f=>by
  unfold snap at h;split at h
  .rename_i c' ds l' H;simp only[Wo,Wx]at h;obtain⟨rfl,rfl,rfl⟩:=h;simp only[Rep]at f⊢;obtain⟨W,e,f⟩:=f;exact⟨W,e,Km I r H p g f⟩
  simp_all
 |.clo fn a b,d',c,l,h,p,g,y,f=>by
  unfold snap at h;split at h
  .rename_i c1 a' l1 c2 b' l2 h1 h2;simp only[Wo,Wx]at h;obtain⟨rfl,rfl,rfl⟩:=h;simp only[Rep]at f⊢;obtain⟨va,vb,e,Y,Z⟩:=f;exact⟨va,vb,e,Km I r h1 p.1 (λi hi=>g i (WU _ hi)) Y,Km I r h2 p.2 (λi hi=>g i (Ui _ hi)) Z⟩
  simp_all
 |.ifc t d,d',c,l,h,p,g,y,f=>by
  unfold snap at h;split at h
  .rename_i c' e l' H;simp only[Wo,Wx]at h;obtain⟨rfl,rfl,rfl⟩:=h;simp only[Rep]at f⊢;obtain⟨x,e,f⟩:=f;exact⟨x,e,snap_rep I r H p g f⟩
  simp_all
 |.any,d',c,l,h,p,g,y,f=>by grind[snap,Wo,Wx,Rep]
 |.v x,d',c,l,h,p,g,y,f=>by grind[snap,Wo,Wx,Rep]
 |.nsl,d',c,l,h,p,g,y,f=>by grind[snap,Wo,Wx,Rep]
 |.isl E z A,d',c,l,h,p,g,y,f=>by simp only[snap,Wo,Wx]at h;obtain⟨rfl,rfl,rfl⟩:=h;have:=f.mono (β':=β) r (BLe.refl _);assumption
 |.ipt z K k,d',c,l,h,p,g,y,f=>by simp only[snap,Wo,Wx]at h;obtain⟨rfl,rfl,rfl⟩:=h;have:=f.mono (β':=β) r (BLe.refl _);assumption
 |.ept ..,d',c,l,h,_,_,_,_=>by simp_all[snap]
 |.fsl ..,d',c,l,h,_,_,_,_=>by simp_all[snap]
 |.fmp ..,d',c,l,h,_,_,_,_=>by simp_all[snap]
 |.omp ..,d',c,l,h,_,_,_,_=>by simp_all[snap]
def Km{M':Mem}(I:U7 P C s U M β w)(u:MLe M M'):∀{j f:List D} {c:Prop} {l:List Nat},ZO s j=some (c,f,l)->c->Frz s M' β w l->∀{g:List Value},RepL P M β j g->RepL P M' Yz f g
 |[],f,c,l,h,k,o,g,v=>by simp_all[ZO,Wo,Wx,RepL]
 |d::j,f,c,l,h,k,o,g,v=>by
  unfold ZO at h;split at h
  .rename_i c1 e B G H J y z;obtain⟨rfl,rfl,rfl⟩:=h;have⟨x,A,e,p,q⟩:=v;exact⟨x,A,e,snap_rep I u y k.1 (λi r=>o i (WU _ r)) p,Km I u z k.2 (λi r=>o i (Ui _ r)) q⟩
  simp_all
end
def XeV{M':Mem}(I:U7 P C s U M β w)(u:MLe M M'):∀{ps f:List (Nat×D)} {c:Prop} {l:List Nat},VO s ps=some (c,f,l)->c->Frz s M' β w l->∀{g:List Value},RepL P M β (ps.map (·.2)) g ->
 RepL P M' Yz (f.map (·.2)) g/\f.map (·.1)=ps.map (·.1)
 |[],f,c,l,h,j,k,g,o=>by simp_all[VO,Wo,Wx,RepL]
 |(i,d)::ps,f,c,l,h,j,k,g,o=>by
  unfold VO at h;split at h
  .rename_i c1 e B G H J y z;obtain⟨rfl,rfl,rfl⟩:=h;simp at o⊢;have⟨x,A,e,p,q⟩:=o;have v:=XeV I u z j.2 (λi r=>k i (Ui _ r)) q;exact⟨⟨x,A,e,snap_rep I u y j.1 (λi r=>k i (WU _ r)) p,v.1⟩,by rw[v.2]⟩
  simp_all
end
open Go.MapKept
variable {P:Program}
section
variable {C:Cx}{s:Heap}{U:Nat->Prop}{ver:Nat}{M:Mem}{β:Loc}{w:World}
def Ko{T:TypeId}{k:IntKind}{E:TypeId}(h:Xcm P T=some (k,E)):∃K,P.underlying T=some (.map K E)/\P.underlying K=some (.int k):=by unfold Xcm at h;grind
def Xco(k:IntKind)(a b:Int):Instr.sameNow (.int k) (.int k a) (.int k b)=some (a==b):=by simp[Instr.sameNow]
def Xbm{k:IntKind}(n:Int):∀(l:List MapEntry) (f:List (Int×D)) (i:Nat),EntL P M k l f ->
 (XeH f n=none/\Xdf f n=f/\(∀d,Xde f n d=f++[(n,d)])/\Instr.findNow (.int k) (.int k n) l i=some none) \/
 ∃j e d,XeH f n=some d/\Instr.findNow (.int k) (.int k n) l i=some (some (i+j,e.val))/\l[j]? = some e/\e.key=.int k n/\Rep P M Yz d e.val /\
  (∀p g,p.key=.int k n->Rep P M Yz g p.val->EntL P M k (l.set j p) (Xde f n g))/\EntL P M k (l.eraseIdx j) (Xdf f n)/\(∀g,(Xde f n g).length=f.length)/\(Xdf f n).length<=f.length
 |[],f,i,h=>by subst h;exact .inl ⟨rfl,rfl,λ_=>rfl,rfl⟩
 |e::l,f,i,h=>by
  obtain⟨x,d,q,rfl,v,G,z⟩:=h;by_cases o:n=x
  .subst o;refine .inr ⟨0,e,d,by simp[XeH],?_,rfl,v,G,λp g r u=>?_,?_,λg=>by simp[Xde],by simp[Xdf]⟩
   .simp[Instr.findNow,v,Xco]
   .simp only[IH,Xde,if_true,EntL];exact⟨n,g,q,rfl,r,u,z⟩
   simp_all[Xdf]
  have A:Instr.sameNow (.int k) (.int k n) e.key=some false:=by rw[v,Xco];simp[o]
  rcases Xbm n l q (i+1) z with⟨r,u,B,y⟩|⟨j,p,g,r,u,B,y,H,L,N,I,J⟩
  .simp[XeH,o,r,Xdf,u,Xde,B,Instr.findNow,A,y]
  refine .inr ⟨j+1,p,g,by simp[XeH,o,r],by simp[Instr.findNow,A,u];omega,ah,y,H,λO K g1 g2=>?_,?_,λK=>by simp[Xde,o,I],by simp[Xdf,o,J]⟩
  .simp only[List.set_cons_succ,Xde,Wj o,EntL];grind
  simp only[List.eraseIdx_cons_succ,Xdf,Wj o,EntL];grind
def EntL.push{k:IntKind}{g:MapEntry}{n:Int}{j:D}(o:g.key=.int k n)(p:Rep P M Yz j g.val):∀{l:List MapEntry} {f:List (Int×D)},EntL P M k l f->EntL P M k (l++[g]) (f++[(n,j)])
 |[],f,h=>by grind[EntL,W8]
 |e::l,f,h=>by obtain⟨x,d,q,rfl,r,u,v⟩:=h;exact⟨x,d,_,rfl,r,u,EntL.push o p v⟩
def U7.setMap(I:U7 P C s U M β w){id ver:Nat}{k:IntKind}{u es':List (Int×D)}(f:s id=some (ver,.mp k u)){b y:Nat}(hb:β id ver=some (some (b,y))){ents ents':Array MapEntry}{clock clock':Nat}(A:w.heap[b]? = some (.map ents clock))(B:es'.length<=Xs)(G:EntL P M k ents'.toList es')(hp:(ents'.toList.map (·.born)).Pairwise (·<·))(H:∀e∈ents'.toList,e.born<clock'):
 U7 P C (upd s id (some (ver,.mp k es'))) U M β {w with heap:=w.heap.setIfInBounds b (.map ents' clock')}:=by
 have⟨x,J,K⟩:=I.obs id ver _ f;obtain rfl:some (b,y)=x:=by simp_all
 obtain⟨rfl,_,L,_⟩:=K;have⟨g1,g2⟩:=heap_set (o':=.map ents' clock') A
 have:=I.set (M':=M) (β':=β) (w':={w with heap:=w.heap.setIfInBounds b (.map ents' clock')}) id ver (.mp k es') b 0 (MLe.refl M) (BLe.refl β) g2 (λ_ _ _=>rfl)
  (λo x J=>by simp_all) hb ⟨rfl,B,L,ents',clock',g1,G,hp,H⟩ (λg N h j p q r=>p (I.inj g N h id ver _ b j 0 q f r hb))
  (I.own id ver (.mp k u) b 0 f hb:_\/(_/\false=true)) (λ_ _=>rfl) rfl rfl rfl ac (λ_ _ _ e=>.inl e)
 exact this.mono λv z=>by
  rcases z with z|rfl
  .omega
  exact I.used id _ _ hb
def XiI(I:U7 P C s U M β w)(G:¬U ver){dst:Option Tmp}{type:TypeId}{pos:String}{after:Array Edge}{guard:Option (Nat×Bool)}(ρ:Operand->Value)(t:Operand->D)(hρ:∀x,Rep P M β (t x) (ρ x)){c:Prop}{d:D}{u:Up}(T:TypeId)(r:Option Operand)(h:opF P dst ver t s (.makeMap T r)=some (c,d,u))(_hc:c):OpOK P C s u U ver M β ((execOp ρ ⟨dst,.makeMap T r,type,pos,after,guard⟩).run P w) d:=by
 unfold execOp;simp only[opF]at h;split at h
 .rename_i k E l H J;obtain⟨rfl,rfl,rfl⟩:=h;have⟨K,p,L⟩:=Ko H;have g:(Instr.makeMap T (r.map ρ)).run P w=.ok (.map (some w.heap.size)) (w.alloc (.map #[] 0)):=by
   obtain⟨k1,N⟩:=Vl hρ J;rw[N];cases l with
   |none=>simp[Instr.makeMap]
   |some n=>simp[Instr.makeMap,run_underlying p,asInt,asIntOf]
  have O:=I.fresh G (KS dst);have A:BLe β (Zs β (KS dst) ver (some (w.heap.size,0))):=Y9 O;have e:∀o,M w.heap.size o=none:=by
   intro o;cases f:M w.heap.size o with
   |none=>rfl
   |some x=>exact absurd (I.mem.lt f) (IE _)
  have⟨g1,g2⟩:=heap_alloc w (.map #[] 0)
  have I':=I.set (M':=M) (β':=Zs β (KS dst) ver (some (w.heap.size,0))) (w':=w.alloc (.map #[] 0)) (KS dst) ver (.mp k []) w.heap.size 0 (MLe.refl M) A
   (λj R=>by
    show(w.heap.push _)[j]? = _
    rw[Array.getElem?_push,Wj R]) (λ_ _ _=>rfl) (λo x f=>by rw[e o]at f;cases f) (XF ..)
   ⟨rfl,ac,e,#[],0,g1,by simp[EntL],ac,ac⟩
   (λq S v z _ V f=>by
    have⟨y,B,W⟩:=I.obs q S v V
    rw[f]at B
    obtain rfl:some (w.heap.size,z)=y:=by simpa using B
    exact absurd W.lt (IE _))
   (.inl I.keep.size) (λY=>absurd I.keep.size ab) rfl rfl rfl ac Zj
  exact VOK.op (sem:=Instr.makeMap T (r.map ρ)) ⟨M,_,_,_,g,I',by exact⟨_,_,XF ..,rfl⟩,MLe.refl _,A⟩
 simp_all
def XfM(n:Nat)(k:IntKind)(a:Int):Instr.sameBits n (.int k a) (.int k a)=true:=by simp[Instr.sameBits]
def Xaw(k:IntKind)(n:Int):IsKey (.int k) (.int k n):=by rfl
def XjO(I:U7 P C s U M β w){T:TypeId}{m key x:D}{Y Z vx:Value}{c:Prop}{d:D}{u:Up}(h:XiG P s T m key x=some (c,d,u))(hc:c)(hm:Rep P M β m Y)(hk:Rep P M β key Z)(hx:Rep P M β x vx):
 ∃M' w',(Instr.mapUpdate T Y Z vx).run P w=.ok () w'/\d=.v undef/\U7 P C (app s u) U M' β w'/\MLe M M':=by
 unfold XiG at h;split at h
 .rename_i k E id v k' n hT;split at h
  .rename_i v' k2 es hs;split at h
   .rename_i cc dd l J;split at h
    .rename_i o;have⟨rfl,rfl,rfl,hl⟩:=o;obtain⟨rfl,rfl,rfl⟩:=h;have⟨L,hlen⟩:=hc;have⟨K,N,z⟩:=Ko hT;have⟨M',I',O,hF⟩:=I.freeze l;have A:=snap_rep I O J L hF hx;have p:frz s l id=some (v,.mp k es):=by unfold frz;rw[Wj hl];exact hs
     obtain⟨b,cb,hb,rfl⟩:=hm;obtain⟨rfl,hwk⟩:=hk;have⟨x0,B,R⟩:=I'.obs id v _ p;rw[hb]at B;obtain rfl:some (b,cb)=x0:=by simpa using B
     obtain⟨rfl,h1,h2,ents,clock,G,h4,h5,H⟩:=R;have start:∀a,Instr.findNow (.int k) (.int k n) ents.toList 0=some a->(Instr.mapUpdate T (.map (some b)) (.int k n) vx).run P w =
      ((match a with
       |some (i,_)=>do
        let key ←Instr.keyThatStays (((ents[i]?).map (·.key)).getD (.int k n)) (.int k n)
        setObj b (.map (ents.modify i λe=>{e with key,val:=vx}) clock)
       |none=>setObj b (.map (ents.push {key:=.int k n,val:=vx,born:=clock}) (clock+1)):Sem Unit)).run P w:=by
      intro a S
      unfold Instr.mapUpdate
      simp only[Sem.run_bind,run_underlying N,Result.andThen_ok,Go.MapKept.run_getObj_map G,run_checkKey z (Xaw k n),run_findKey z S]
      cases a<;>rfl
     rcases Xbm n ents.toList es 0 h4 with⟨g1,g2,g3,g4⟩|⟨j,e,d0,g1,g2,g3,g4,g5,g6,g7,g8,g9⟩
     .refine⟨M',{w with heap:=w.heap.setIfInBounds b (.map (ents.push {key:=.int k n,val:=vx,born:=clock}) (clock+1))},?_,rfl,?_,O⟩
      .rw[start _ g4];exact Go.MapKept.run_setObj_map _ G
      rw[Za,VR,g3 dd];refine I'.setMap p hb G ai (by simpa using EntL.push rfl (A) h4) ?_ ?_
      .simp;rw[Og];refine⟨h5,ac,λa S b hb=>?_⟩;simp at hb;subst hb;obtain⟨e,y,rfl⟩:=WI.1 S;exact H e y
      intro e y;simp only[Array.toList_push,Wr,Uc]at y;rcases y with y|rfl
      .exact Nat.lt_succ_of_lt (H e y)
      exact UQ _
     have hj:j<ents.size:=by
      rcases Ux j ents.size with V|V
      .exact V
      rw[WN (by exact V)]at g3;cases g3
     have W:ents[j]? = some e:=by simpa using g3
     have f:(ents.modify j λe=>{e with key:=.int k n,val:=vx}).toList=ents.toList.set j {e with key:=.int k n,val:=vx}:=by
      refine List.ext_getElem? λi=>?_;rw[Array.toList_modify,List.getElem?_modify,U5];split
      .rename_i q;subst q;rw[g3,Wm (by exact hj)];rfl
      cases ents.toList[i]?<;>rfl
     refine⟨M',{w with heap:=w.heap.setIfInBounds b (.map (ents.modify j λe=>{e with key:=.int k n,val:=vx}) clock)},?_,rfl,?_,O⟩
     .rw[start _ g2];simp only[UE,W,UZ,Ii,g4,Instr.keyThatStays,XfM,if_true,Sem.run_bind,Sem.run_pure,Result.andThen_ok];exact Go.MapKept.run_setObj_map _ G
     rw[Za,VR];have r:(ents.toList.set j {e with key:=.int k n,val:=vx}).map (·.born)=ents.toList.map (·.born):=by
      rw[List.map_set];refine List.ext_getElem? λi=>?_;rw[U5];split
      .rename_i q;subst q;rw[Wm (by simpa using hj),US,g3];rfl
      rfl
     refine I'.setMap p hb G (by rw[g8];exact h1) (by rw[f];exact g6 _ dd rfl A) (by rw[f,r];exact h5) ?_;intro e' g;rw[f]at g;rcases W0 g with g|rfl
     .exact H e' g
     exact H e (W5 g3)
    cases h
   cases h
  cases h
 simp_all
def XfN(I:U7 P C s U M β w)(_hv:¬U ver){dst:Option Tmp}{type:TypeId}{pos:String}{after:Array Edge}{guard:Option (Nat×Bool)}(ρ:Operand->Value)(t:Operand->D)(hρ:∀x,Rep P M β (t x) (ρ x)){c:Prop}{d:D}{u:Up}(T:TypeId)(m key x:Operand)(h:opF P dst ver t s (.mapUpdate T m key x)=some (c,d,u))(e:c):OpOK P C s u U ver M β ((execOp ρ ⟨dst,.mapUpdate T m key x,type,pos,after,guard⟩).run P w) d:=by unfold execOp;obtain⟨M',w',f,rfl,g,j⟩:=XjO I h e (hρ m) (hρ key) (hρ x);exact⟨M',β,w',undef,.inr ⟨by simp[f],rfl⟩,g.mono λ_ h=>.inl h,by simp[Rep,wfV,undef],j,BLe.refl _⟩
def Xk8(I:U7 P C s U M β w)(_hv:¬U ver){dst:Option Tmp}{type:TypeId}{pos:String}{after:Array Edge}{guard:Option (Nat×Bool)}(ρ:Operand->Value)(t:Operand->D)(hρ:∀x,Rep P M β (t x) (ρ x)){c:Prop}{d:D}{u:Up}(T:TypeId)(m key x:Operand)(h:opF P dst ver t s (.insert T m key x)=some (c,d,u))(e:c):OpOK P C s u U ver M β ((execOp ρ ⟨dst,.insert T m key x,type,pos,after,guard⟩).run P w) d:=by unfold execOp;obtain⟨M',w',f,rfl,g,j⟩:=XjO I h e (hρ m) (hρ key) (hρ x);exact⟨M',β,w',undef,.inr ⟨by simp[f],rfl⟩,g.mono λ_ h=>.inl h,by simp[Rep,wfV,undef],j,BLe.refl _⟩
def Xk9(I:U7 P C s U M β w)(_hv:¬U ver){dst:Option Tmp}{type:TypeId}{pos:String}{after:Array Edge}{guard:Option (Nat×Bool)}(ρ:Operand->Value)(t:Operand->D)(hρ:∀x,Rep P M β (t x) (ρ x)){c:Prop}{d:D}{u:Up}(T:TypeId)(m key:Operand)(ok:Bool)(h:opF P dst ver t s (.lookup T m key ok)=some (c,d,u))(_hc:c):OpOK P C s u U ver M β ((execOp ρ ⟨dst,.lookup T m key ok,type,pos,after,guard⟩).run P w) d:=by
 unfold execOp;simp only;simp only[opF]at h;split at h
 .rename_i k E id v Y n G H J;split at h
  .rename_i Z k2 L te N O;split at h
   .rename_i f;have⟨rfl,rfl,rfl⟩:=f;obtain⟨rfl,rfl,rfl⟩:=h;have⟨K,r,g⟩:=Ko G;have o:=hρ m;have p:=hρ key;rw[H]at o;rw[J]at p;have⟨b,R,hb,z⟩:=o;have⟨x0,q,A⟩:=I.obs id v _ N;rw[hb]at q;obtain rfl:some (b,R)=x0:=by simpa using q
    obtain⟨rfl,h1,h2,ents,clock,S,V,h5,h6⟩:=A;rw[z,p.1];have start:∀a,Instr.findNow (.int k) (.int k n) ents.toList 0=some a->(Instr.lookup T (.map (some b)) (.int k n) ok).run P w =
     .ok (if ok then .tuple #[(match a with|some (_,v)=>v|none=>te.zero),.bool a.isSome]else(match a with|some (_,v)=>v|none=>te.zero)) w:=by
     intro a W
     unfold Instr.lookup
     simp only[Sem.run_bind,run_underlying r,Result.andThen_ok,Go.MapKept.run_getObj_map S,Sem.run_pure,run_checkKey g (Xaw k n),run_findKey g W]
     cases a with
     |none=>simp[KB O]
     |some y=>simp
    rcases Xbm n ents.toList L 0 V with⟨g1,g2,g3,g4⟩|⟨j,e,d0,g1,g2,g3,g4,g5,g6,g7,g8,g9⟩
    .refine VOK.op (.same I (start _ g4) ?_);rw[g1];cases ok with
     |true=>exact⟨_,rfl,_,_,rfl,Xat _,_,_,rfl,⟨rfl,trivial⟩,rfl⟩
     |false=>exact Xat _
    refine VOK.op (.same I (start _ g2) ?_);rw[g1];have B:=g5.mono (MLe.refl M) (BLe.zero β);cases ok with
    |true=>exact⟨_,rfl,_,_,rfl,B,_,_,rfl,⟨rfl,trivial⟩,rfl⟩
    |false=>exact B
   cases h
  cases h
 simp_all
end
end Go.Sx
