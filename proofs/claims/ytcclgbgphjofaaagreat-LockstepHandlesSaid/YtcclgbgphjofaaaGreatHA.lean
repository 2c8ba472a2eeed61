import GoSem.Core.View
import Derived.Deep.LoopGhost
import Derived.Orders
import Derived.Below
import Derived.Laws.CopyRow
import Derived.Laws.AppendOwn
import Derived.Laws.MakeOwn
import Derived.Laws.OwnMore
import Derived.Laws.StructEq
import Derived.Laws.Tables
import Derived.Laws.Rows
import Derived.ChangeKeysEq
import Derived.MapKept
set_option linter.all false
namespace Go.Sx
theorem aa{P:Prop}(h:P:=by omega):P:=h
theorem ab{P:Prop}(h:P:=by simp):P:=h
theorem ac{P:Prop}(h:P:=by kernel_rfl):P:=h
theorem ae{P:Prop}(h:P:=by decide):P:=h
theorem ag{P:Prop}(h:P:=by assumption):P:=h
theorem ah{P:Prop}(h:P:=by simp;omega):P:=h
def Wa{α:Type _}(a b:α):(bif false then a else b)=b:=rfl
def Wc{α:Type _}(a b:α):(bif true then a else b)=a:=rfl
def Wb:type_of% @List.getElem?_eq_getElem:=@List.getElem?_eq_getElem
def We:type_of% @List.getD_eq_getElem?_getD:=@List.getD_eq_getElem?_getD
def Wg:type_of% @if_neg:=@if_neg
def Wh:type_of% @decide_eq_false:=@decide_eq_false
def Wi:type_of% @decide_eq_true:=@decide_eq_true
def Wj:type_of% @if_pos:=@if_pos
def Wl:type_of% @Bool.not_true:=@Bool.not_true
def Wm:type_of% @List.drop_eq_getElem_cons:=@List.drop_eq_getElem_cons
theorem Wq:type_of% @Option.some.injEq:=@Option.some.injEq
def Wr:type_of% @Bool.and_eq_true:=@Bool.and_eq_true
def Ws:type_of% @List.mem_append:=@List.mem_append
def Wt:type_of% @List.getElem_mem:=@List.getElem_mem
theorem Wu:type_of% @List.length_append:=@List.length_append
def Wv:type_of% @List.getElem_of_mem:=@List.getElem_of_mem
theorem Ww:type_of% @List.length_set:=@List.length_set
def Wx:type_of% @List.length_take:=@List.length_take
theorem Wy:type_of% @Prod.mk.injEq:=@Prod.mk.injEq
def WA:type_of% @of_decide_eq_true:=@of_decide_eq_true
def WC:type_of% @List.mem_cons_of_mem:=@List.mem_cons_of_mem
def WG:type_of% @List.mem_map:=@List.mem_map
def WI:type_of% @Bool.true_and:=@Bool.true_and
def WK:type_of% @Nat.lt_succ_self:=@Nat.lt_succ_self
def WL:type_of% @List.drop_zero:=@List.drop_zero
def WM:type_of% @List.mem_singleton:=@List.mem_singleton
def WN:type_of% @List.drop_eq_nil_of_le:=@List.drop_eq_nil_of_le
theorem WO:type_of% @List.length_replicate:=@List.length_replicate
def WP:type_of% @List.all_eq_true:=@List.all_eq_true
def WR:type_of% @List.length_drop:=@List.length_drop
def WT:type_of% @Option.some.inj:=@Option.some.inj
def WU:type_of% @List.getElem?_append_left:=@List.getElem?_append_left
def WW:type_of% @List.mem_of_getElem?:=@List.mem_of_getElem?
def WX:type_of% @List.mem_append_left:=@List.mem_append_left
def WY:type_of% @Bool.not_false:=@Bool.not_false
def WZ:type_of% @List.eq_nil_of_length_eq_zero:=@List.eq_nil_of_length_eq_zero
def W0:type_of% @List.append_assoc:=@List.append_assoc
def W3:type_of% @List.getElem?_eq_none:=@List.getElem?_eq_none
def W5:type_of% @of_decide_eq_false:=@of_decide_eq_false
def W6:type_of% @List.mem_filter:=@List.mem_filter
def W7:type_of% @List.mem_or_eq_of_mem_set:=@List.mem_or_eq_of_mem_set
def Ua:type_of% @List.getElem?_take:=@List.getElem?_take
def Ub:type_of% @List.contains_iff_mem:=@List.contains_iff_mem
def Uc:type_of% @List.mem_of_mem_take:=@List.mem_of_mem_take
def Ud:type_of% @List.mem_of_mem_drop:=@List.mem_of_mem_drop
def Ue:type_of% @Nat.zero_add:=@Nat.zero_add
def Uf:type_of% @List.pairwise_iff_getElem:=@List.pairwise_iff_getElem
def Ug:type_of% @List.getElem?_append_right:=@List.getElem?_append_right
def Uh:type_of% @Bool.false_and:=@Bool.false_and
def Ui:type_of% @Nat.mul_le_mul_right:=@Nat.mul_le_mul_right
theorem Um:type_of% @List.nil_append:=@List.nil_append
def Uo:type_of% @Int.le_refl:=@Int.le_refl
def Uq:type_of% @List.length_cons:=@List.length_cons
def Ur:type_of% @List.take_of_length_le:=@List.take_of_length_le
def Us:type_of% @List.mem_cons:=@List.mem_cons
def Uu:type_of% @Nat.le_refl:=@Nat.le_refl
def Uv:type_of% @Option.map_eq_some_iff:=@Option.map_eq_some_iff
def Ux:type_of% @Nat.eq_zero_or_pos:=@Nat.eq_zero_or_pos
def Uy:type_of% @List.mem_append_right:=@List.mem_append_right
theorem UA:type_of% @List.map_cons:=@List.map_cons
def UC:type_of% @List.getElem?_drop:=@List.getElem?_drop
def UE:type_of% @Bool.not_eq_true':=@Bool.not_eq_true'
def UF:type_of% @Int.mul_le_mul_of_nonneg_right:=@Int.mul_le_mul_of_nonneg_right
def UG:type_of% @List.getElem?_replicate:=@List.getElem?_replicate
def UH:type_of% @List.filter_cons_of_pos:=@List.filter_cons_of_pos
def UJ:type_of% @List.getElem?_set:=@List.getElem?_set
def UK:type_of% @List.length_map:=@List.length_map
def UL:type_of% @List.filter_cons_of_neg:=@List.filter_cons_of_neg
def UM:type_of% @Nat.lt_or_ge:=@Nat.lt_or_ge
def UN:type_of% @Nat.add_mul:=@Nat.add_mul
def UR:type_of% @decide_eq_false_iff_not:=@decide_eq_false_iff_not
def US:type_of% @Bool.cond_decide:=@Bool.cond_decide
def UT:type_of% @List.take_add_one:=@List.take_add_one
def UU:type_of% @Bool.false_eq_true:=@Bool.false_eq_true
def UV:type_of% @List.map_append:=@List.map_append
def UX:type_of% @Nat.min_self:=@Nat.min_self
def UY:type_of% @Nat.zero_le:=@Nat.zero_le
def UZ:type_of% @List.drop_set_of_lt:=@List.drop_set_of_lt
def U0:type_of% @List.findIdx?_eq_some_iff_getElem:=@List.findIdx?_eq_some_iff_getElem
def U1:type_of% @Bool.false_or:=@Bool.false_or
def U3:type_of% @Int.tdiv_eq_ediv_of_nonneg:=@Int.tdiv_eq_ediv_of_nonneg
def U4:type_of% @List.countP_cons:=@List.countP_cons
def U6:type_of% @List.nodup_append:=@List.nodup_append
def U7:type_of% @List.all_cons:=@List.all_cons
def U9:type_of% @List.map_nil:=@List.map_nil
def Ia:type_of% @List.append_nil:=@List.append_nil
def Ib:type_of% @List.length_nil:=@List.length_nil
def Ic:type_of% @List.set_eq_take_append_cons_drop:=@List.set_eq_take_append_cons_drop
def Ie:type_of% @Option.getD_some:=@Option.getD_some
def Ig:type_of% @List.take_append_drop:=@List.take_append_drop
def Ii:type_of% @Nat.le_trans:=@Nat.le_trans
def Ik:type_of% @List.eraseIdx_eq_take_drop_succ:=@List.eraseIdx_eq_take_drop_succ
def Il:type_of% @Bool.or_eq_true:=@Bool.or_eq_true
def Im:type_of% @Option.map_some:=@Option.map_some
def In:type_of% @Bool.not_eq_true:=@Bool.not_eq_true
def Io:type_of% @List.any_eq_true:=@List.any_eq_true
def Ip:type_of% @List.getElem?_set_self:=@List.getElem?_set_self
def Iq:type_of% @List.getElem?_eq_some_iff:=@List.getElem?_eq_some_iff
def Is:type_of% @Array.length_toList:=@Array.length_toList
def Iu:type_of% @List.any_eq_false:=@List.any_eq_false
def Iv:type_of% @List.pairwise_map:=@List.pairwise_map
def Iw:type_of% @List.getElem?_toArray:=@List.getElem?_toArray
def Ix:type_of% @Array.getElem?_toList:=@Array.getElem?_toList
def Iy:type_of% @Option.bind_some:=@Option.bind_some
def Iz:type_of% @List.getElem?_cons_succ:=@List.getElem?_cons_succ
def IA:type_of% @List.cons_append:=@List.cons_append
def IB:type_of% @Int.eq_ofNat_of_zero_le:=@Int.eq_ofNat_of_zero_le
def IC:type_of% @List.cons.inj:=@List.cons.inj
def ID:type_of% @List.getElem_take:=@List.getElem_take
def IE:type_of% @Nat.sub_self:=@Nat.sub_self
def IF:type_of% @List.filter_eq_self:=@List.filter_eq_self
def IG:type_of% @beq_eq_false_iff_ne:=@beq_eq_false_iff_ne
def IH:type_of% @List.take_set_of_le:=@List.take_set_of_le
def II:type_of% @List.map_uncurry_zip_eq_zipWith:=@List.map_uncurry_zip_eq_zipWith
def IJ:type_of% @List.mem_of_find?_eq_some:=@List.mem_of_find?_eq_some
def IK:type_of% @Nat.div_lt_iff_lt_mul:=@Nat.div_lt_iff_lt_mul
def IL:type_of% @List.pairwise_cons:=@List.pairwise_cons
def IM:type_of% @List.mem_cons_self:=@List.mem_cons_self
def IN:type_of% @List.take_append_of_le_length:=@List.take_append_of_le_length
def IQ:type_of% @List.getElem?_map:=@List.getElem?_map
def IR:type_of% @Nat.lt_trichotomy:=@Nat.lt_trichotomy
def IS:type_of% @Int.toNat_natCast:=@Int.toNat_natCast
def IU:type_of% @Nat.lt_irrefl:=@Nat.lt_irrefl
def IW:type_of% @List.mem_replicate:=@List.mem_replicate
def IX:type_of% @List.nodup_iff_pairwise_ne:=@List.nodup_iff_pairwise_ne
def IY:type_of% @List.findIdx?_cons:=@List.findIdx?_cons
def I4:type_of% @List.all_append:=@List.all_append
def I6:type_of% @Nat.succ_mul:=@Nat.succ_mul
def I7:type_of% @Bool.true_or:=@Bool.true_or
def I8:type_of% @Nat.le_succ_of_le:=@Nat.le_succ_of_le
def I9:type_of% @List.length_zipWith:=@List.length_zipWith
def Oc:type_of% @Nat.add_zero:=@Nat.add_zero
def Od:type_of% @List.set_cons_zero:=@List.set_cons_zero
def Oe:type_of% @List.filter_append:=@List.filter_append
def Of:type_of% @Nat.add_sub_cancel:=@Nat.add_sub_cancel
def Og:type_of% @List.countP_append:=@List.countP_append
def Oh:type_of% @List.zip_cons_cons:=@List.zip_cons_cons
def Oi:type_of% @Option.map_none:=@Option.map_none
def Oj:type_of% @Nat.add_assoc:=@Nat.add_assoc
def Ol:type_of% @Nat.le_of_ble_eq_true:=@Nat.le_of_ble_eq_true
def Om:type_of% @List.ext_getElem?:=@List.ext_getElem?
def On:type_of% @List.getElem_drop:=@List.getElem_drop
def Oo:type_of% @List.getElem?_append:=@List.getElem?_append
def Oq:type_of% @List.pairwise_append:=@List.pairwise_append
def Ot:type_of% @List.take_zero:=@List.take_zero
def Ou:type_of% @Int.add_mul:=@Int.add_mul
def Ov:type_of% @List.getElem_map:=@List.getElem_map
def Ow:type_of% @List.filter_cons:=@List.filter_cons
def OA:type_of% @Bool.and_true:=@Bool.and_true
def OC:type_of% @Bool.cond_self:=@Bool.cond_self
inductive Ex(α β:Type) where
 |ret (a:α)
 |nxt (b:β)
def exK{α β γ:Type}(e:Ex α β)(f:α->γ)(k:β->γ):γ:=match e with
 |.ret a=>f a
 |.nxt b=>k b
def bnd{α β:Type}(o:Option α)(f:α->Option β):Option β:=o.bind f
def grd{α:Type}(p:Prop)[Decidable p](x:Option α):Option α:=if p then x else none
def jn{κ γ:Type}(k:κ)(f:κ->γ):γ:=f k
def Xd{α:Type}(l:List α)(i:Int):Option α:=if 0<=i then l[i.toNat]? else none
def wI(n:Int):Int:=IntKind.wrap .i64 n
def wU(n:Int):Int:=IntKind.wrap .u64 n
def wW(n:Int):Int:=IntKind.wrap .u32 n
def ZI(k:IntKind)(a b:Int):Int:=k.wrap (BitVec.ofInt k.bits a &&& BitVec.ofInt k.bits b).toNat
def bOr(k:IntKind)(a b:Int):Int:=k.wrap (BitVec.ofInt k.bits a |||BitVec.ofInt k.bits b).toNat
def XqS(k:IntKind)(a b:Int):Int:=k.wrap (BitVec.ofInt k.bits a ^^^ BitVec.ofInt k.bits b).toNat
def XiU(k:IntKind)(a b:Int):Int:=k.wrap (BitVec.ofInt k.bits a &&& ~~~ BitVec.ofInt k.bits b).toNat
def JT(k:IntKind)(a b:Int):Int:=k.wrap (a*2 ^ min b.toNat k.bits)
def Y5(k:IntKind)(a b:Int):Int:=a.fdiv (2 ^ min b.toNat k.bits)
def Xgf{α β:Type}{o:Option α}{f:α->Option β}{r:β}(h:bnd o f=some r):∃y,o=some y/\f y=some r:=by
 cases o with
 |none=>cases h
 |some y=>exact⟨y,rfl,h⟩
def Xgg{α:Type}{p:Prop}[Decidable p]{x:Option α}{r:α}(h:grd p x=some r):p/\x=some r:=by unfold grd at h;simp_all
def Xew{α β:Type}{G:Prop}{o:Option α}{f:α->Option β}{r:β}(h:bnd o f=some r)(k:∀y,o=some y->f y=some r->G):G:=(Xgf h).elim λy e=>k y e.1 e.2
def Xsa{α β:Type}{G:Prop}{o:Option α}{f:α->Option β}{r:β}{y:α}(h:bnd o f=some r)(e:o=some y)(k:o=some y->f y=some r->G):G:=by have⟨z,g,j⟩:=Xgf h;simp_all
def Xsb{α:Type}{G p:Prop}[Decidable p]{x:Option α}{r:α}(h:grd p x=some r)(k:p->x=some r->G):G:=k (Xgg h).1 (Xgg h).2
def XtA{κ α:Type}{G:Prop}{k:κ}{f:κ->Option α}{r:α}(h:jn k f=some r)(g:f k=some r->G):G:=g h
def Xsc{α β γ:Type}{G:Prop}{b:β}{f:α->Option γ}{k:β->Option γ}{r:γ}(h:exK (.nxt b) f k=some r)(g:k b=some r->G):G:=g h
def Xsd{α β γ:Type}{G:Prop}{a:α}{f:α->Option γ}{k:β->Option γ}{r:γ}(h:exK (.ret a) f k=some r)(g:f a=some r->G):G:=g h
def Xu{α:Type}{G:Prop}{x r:α}(h:some x=some r)(k:x=r->G):G:=k (WT h)
def Za{α:Type}{G:Prop}{r:α}(h:none=some r):G:=by grind
def Xfh{α:Type}{l:List α}{i:Int}{p:α}(h:Xd l i=some p):0<=i/\i<l.length:=by unfold Xd at h;grind
def Xfi{α:Type}{l:List α}{i:Int}{p:α}(h:Xd l i=some p):i.toNat<l.length:=by have:=Xfh h;omega
def Xfj{α β:Type}{l:List α}{i:Int}{p:α}(h:Xd l i=some p)(e:α->List β):(l.map e).getD i.toNat []=e p:=by unfold Xd at h;simp_all
def YN{α:Type}{l:List α}{i n:Int}{b:Prop}{β:Type}{f:α->Option β}{r:β}(g:bnd (Xd l i) f=some r)(h:(l.length:Int)=n)(k:∀p,Xd l i=some p->i.toNat<l.length->(∀(γ:Type) (e:α->List γ),(l.map e).getD i.toNat []=e p)->f p=some r->b):(0<=i/\i<n)/\b:=
 Xew g λp hp g=>⟨h▸Xfh hp,k p hp (Xfi hp) (λ_ e=>Xfj hp e) g⟩
def Y1{α:Type}{l:List α}{i n:Int}{b:Prop}{β:Type}{f:α->Option β}{r:β}{p:α}(g:bnd (Xd l i) f=some r)(hp:Xd l i=some p)(h:(l.length:Int)=n)(k:Xd l i=some p->i.toNat<l.length->(∀(γ:Type) (e:α->List γ),(l.map e).getD i.toNat []=e p)->f p=some r->b):(0<=i/\i<n)/\b:=
 Xsa g hp λhp g=>⟨h▸Xfh hp,k hp (Xfi hp) (λ_ e=>Xfj hp e) g⟩
def Xse{α:Type}{l:List α}{i n:Int}{b:Prop}{β:Type}{f:α->Option β}{r:β}(g:bnd (Xd l i) f=some r)(h:(l.length:Int)=n)(k:∀p,Xd l i=some p->i.toNat<l.length->(∀(γ:Type) (e:α->List γ),(l.map e).getD i.toNat []=e p)->f p=some r->b):i<n/\b:=
 Xew g λp hp g=>⟨(h▸Xfh hp).2,k p hp (Xfi hp) (λ_ e=>Xfj hp e) g⟩
def XtB{α:Type}(l:List α)(o n:Nat)(i:Int):Option α:=if 0<=i/\i<n then l[o+i.toNat]? else none
attribute [irreducible] bnd grd jn exK Xd XtB
def mG:List (Int×Int)->Int->Option Int
 |[],_=>none
 |(x,d)::e,n=>if n=x then some d else mG e n
def mS:List (Int×Int)->Int->Int->List (Int×Int)
 |[],n,d=>[(n,d)]
 |(x,e)::f,n,d=>if n=x then(x,d)::f else(x,e)::mS f n d
inductive D where
 |any
 |v (x:Value)
 |agg (cs:List D)
 |tup (cs:List D)
 |nsl
 |isl (E z:Nat) (es:List (List D))
 |osl (id ver z off len:Nat)
 |ept (id ver z i c:Nat)
 |ipt (z:Nat) (cs:List D) (c:Nat)
 |clo (fn:Fn) (first caps:List D)
 |ifc (t:TypeId) (d:D)
 |fsl (E z:Nat) (es:List (List D))
 |omp (id ver:Nat)
 |fmp (k:IntKind) (ks:List Int) (vs:List D)
 deriving Inhabited
abbrev Mem:=Nat->Nat->Option Value
abbrev Loc:=Nat->Nat->Option (Option (Nat×Nat))
def YH:Loc:=λ_ _=>none
def Xw:Nat:=140737488355328
def wfV:Value->Prop
 |.int k n=>k.min<=n/\n<=k.max
 |.agg _=>False
 |_=>True
mutual
def Rep(P:Program)(M:Mem):Loc->D->Value->Prop
 |_,.any,_=>True
 |_,.v x,y=>y=x/\wfV x
 |β,.agg f,y=>∃j,y=.agg ⟨j⟩/\RepL P M β f j
 |β,.tup f,y=>∃j,y=.tuple ⟨j⟩/\RepL P M β f j
 |_,.nsl,y=>∃a,y=.slice a 0 0
 |_,.isl E z g,y=>(∀e∈g,e.length=z)/\g.length<=Xw/\g.length*P.bytesOf E<=Xw /\
  ∃a cap,y=.slice a g.length cap/\g.length<=cap/\(g=[]\/∃b o,a=some ⟨b,o,none⟩/\RepE P M g b o)
 |β,.osl id ver z off len,y=>(β id ver=some none/\off=0/\len=0/\∃a,y=.slice a 0 0) \/
  ∃b h o cap,β id ver=some (some (b,h))/\y=.slice (some ⟨b,o,none⟩) len cap/\len<=cap/\off+cap=h/\(o=off*z\/cap=0)
 |β,.ept id ver z i c,y=>∃b h,β id ver=some (some (b,h))/\y=.pointer (some ⟨b,i*z+c,none⟩)
 |_,.ipt z f c,y=>f.length=z/\∃b o,y=.pointer (some ⟨b,o+c,none⟩)/\RepC P M f b o
 |β,.clo fn l f,y=>∃a b,y=.func fn ⟨a⟩ ⟨b⟩/\RepL P M β l a/\RepL P M β f b
 |β,.ifc t d,y=>∃x,y=.iface t x/\Rep P M β d x
 |_,.fsl _ _ _,_=>False
 |_,.fmp _ _ _,_=>False
 |β,.omp id ver,y=>∃b h,β id ver=some (some (b,h))/\y=.map (some b)
def RepL(P:Program)(M:Mem):Loc->List D->List Value->Prop
 |_,[],e=>e=[]
 |β,d::g,e=>∃x f,e=x::f/\Rep P M β d x/\RepL P M β g f
def RepC(P:Program)(M:Mem):List D->Nat->Nat->Prop
 |[],_,_=>True
 |d::e,b,o=>(∃x,M b o=some x/\Rep P M YH d x)/\RepC P M e b (o+1)
def RepE(P:Program)(M:Mem):List (List D)->Nat->Nat->Prop
 |[],_,_=>True
 |e::f,b,o=>RepC P M e b o/\RepE P M f b (o+e.length)
end
def MLe(M M':Mem):Prop:=∀b o x,M b o=some x->M' b o=some x
def BLe(β β':Loc):Prop:=∀i k x,β i k=some x->β' i k=some x
def MLe.refl(M:Mem):MLe M M:=λ_ _ _ h=>h
def BLe.refl(β:Loc):BLe β β:=λ_ _ _ h=>h
def MLe.trans{a b c:Mem}(h:MLe a b)(k:MLe b c):MLe a c:=λ_ _ _ e=>k _ _ _ (h _ _ _ e)
def BLe.trans{a b c:Loc}(h:BLe a b)(k:BLe b c):BLe a c:=λ_ _ _ e=>k _ _ _ (h _ _ _ e)
def BLe.zero(β:Loc):BLe YH β:=λ_ _ _ h=>by cases h
variable {P:Program}
mutual
def Rep.mono{M M':Mem}{β β':Loc}(l:MLe M M')(j:BLe β β'):∀{d:D} {y:Value},Rep P M β d y->Rep P M' β' d y
 |.any,_,_=>by simp[Rep]
 |.v x,y,h=>by assumption
 |.agg q,y,h=>by have⟨r,e,h⟩:=h;exact⟨r,e,RepL.mono l j h⟩
 |.tup q,y,h=>by have⟨r,e,h⟩:=h;exact⟨r,e,RepL.mono l j h⟩
 |.nsl,y,h=>by assumption
 |.isl E z B,y,h=>by
  have⟨f,g,u,a,cap,e,s,h⟩:=h;refine⟨f,g,u,a,cap,e,s,?_⟩;rcases h with h|⟨b,o,w,h⟩
  .simp_all
  exact .inr ⟨b,o,w,RepE.mono l h⟩
 |.osl id ver z off len,y,h=>by
  rcases h with⟨f,g⟩|⟨b,p,o,cap,f,g⟩
  .exact .inl ⟨j _ _ _ f,g⟩
  exact .inr ⟨b,p,o,cap,j _ _ _ f,g⟩
 |.ept id ver z i c,y,h=>by have⟨b,p,f,g⟩:=h;exact⟨b,p,j _ _ _ f,g⟩
 |.ipt z q c,y,h=>by have⟨A,b,o,e,h⟩:=h;exact⟨A,b,o,e,RepC.mono l h⟩
 |.clo fn G q,y,h=>by have⟨a,b,e,f,g⟩:=h;exact⟨a,b,e,RepL.mono l j f,RepL.mono l j g⟩
 |.ifc t d,y,h=>by have⟨x,e,h⟩:=h;exact⟨x,e,Rep.mono l j h⟩
 |.fsl _ _ _,y,h=>by assumption
 |.fmp _ _ _,y,h=>by assumption
 |.omp id ver,y,h=>by have⟨b,p,f,g⟩:=h;exact⟨b,p,j _ _ _ f,g⟩
def RepL.mono{M M':Mem}{β β':Loc}(j:MLe M M')(l:BLe β β'):∀{f:List D} {g:List Value},RepL P M β f g->RepL P M' β' f g
 |[],_,h=>by assumption
 |d::f,g,h=>by have⟨x,o,e,p,q⟩:=h;exact⟨x,o,e,Rep.mono j l p,RepL.mono j l q⟩
def RepC.mono{M M':Mem}(f:MLe M M'):∀{g:List D} {b o:Nat},RepC P M g b o->RepC P M' g b o
 |[],_,_,_=>by simp[RepC]
 |d::g,b,o,h=>by have⟨⟨x,e,j⟩,l⟩:=h;exact⟨⟨x,f _ _ _ e,Rep.mono f (BLe.refl _) j⟩,RepC.mono f l⟩
def RepE.mono{M M':Mem}(f:MLe M M'):∀{e:List (List D)} {b o:Nat},RepE P M e b o->RepE P M' e b o
 |[],_,_,_=>by simp[RepE]
 |g::e,b,o,h=>by exact⟨RepC.mono f h.1,RepE.mono f h.2⟩
end
def RepL.length{M:Mem}{β:Loc}:∀{e:List D} {f:List Value},RepL P M β e f->f.length=e.length
 |[],_,h=>by simp_all[RepL,h]
 |d::e,f,h=>by obtain⟨x,j,rfl,_,g⟩:=h;simp[RepL.length g]
def RepL.get{M:Mem}{β:Loc}:∀{f:List D} {g:List Value},RepL P M β f g->∀(i:Nat) (d:D),f[i]? = some d->∃x,g[i]? = some x/\Rep P M β d x
 |[],_,_,i,d,hd=>by simp_all
 |e::f,g,h,i,d,hd=>by
  obtain⟨x,l,rfl,o,j⟩:=h;cases i with
  |zero=>simp_all
  |succ i=>exact RepL.get j i d hd
def RepL.of{M:Mem}{β:Loc}:∀{f:List D} {e:List Value},e.length=f.length->(∀(i:Nat) (d:D) (x:Value),f[i]? = some d->e[i]? = some x->Rep P M β d x)->RepL P M β f e
 |[],e,g,_=>by simp_all[RepL,g]
 |d::f,e,g,h=>by
  cases e with
  |nil=>simp_all
  |cons x j=>exact⟨x,j,rfl,h 0 d x ab ab,RepL.of (by simp_all) λ(i:Nat) o p hd q=>h (i+1) o p ag ag⟩
def RepL.append{M:Mem}{β:Loc}{e g:List D}{f j:List Value}(h:RepL P M β e f)(k:RepL P M β g j):RepL P M β (e++g) (f++j):=by
 induction e generalizing f with
 |nil=>simp_all[RepL,h]
 |cons d e l=>grind[RepL]
def RepC.get{M:Mem}:∀{f:List D} {b o:Nat},RepC P M f b o->∀(i:Nat) (d:D),f[i]? = some d->∃x,M b (o+i)=some x/\Rep P M YH d x
 |[],_,_,_,i,d,hd=>by simp_all
 |e::f,b,o,h,i,d,hd=>by
  have⟨⟨x,j,l⟩,g⟩:=h;cases i with
  |zero=>simp_all
  |succ i=>have⟨y,p,q⟩:=RepC.get g i d hd;grind
def RepC.of{M:Mem}:∀{f:List D} {b o:Nat},(∀(i:Nat) (d:D),f[i]? = some d->∃x,M b (o+i)=some x/\Rep P M YH d x)->RepC P M f b o
 |[],_,_,_=>by simp[RepC]
 |e::f,b,o,h=>by refine⟨by simpa using h 0 e ab,RepC.of λ(i:Nat) d hd=>?_⟩;have⟨x,g,j⟩:=h (i+1) d (by simpa using hd);grind
def RepE.get{M:Mem}{z:Nat}:∀{f:List (List D)} {b o:Nat},(∀e∈f,e.length=z)->RepE P M f b o->∀(i:Nat) (e:List D),f[i]? = some e->RepC P M e b (o+i*z)
 |[],_,_,_,_,i,e,g=>by simp_all
 |d::f,b,o,j,h,i,e,g=>by
  simp only[RepE]at h;cases i with
  |zero=>simp_all
  |succ i=>have q:=RepE.get (λl p=>j l (by simp[p])) h.2 i e g;grind
def RepE.of{M:Mem}{z:Nat}:∀{f:List (List D)} {b o:Nat},(∀e∈f,e.length=z)->(∀(i:Nat) (e:List D),f[i]? = some e->RepC P M e b (o+i*z))->RepE P M f b o
 |[],_,_,_,_=>by simp[RepE]
 |d::f,b,o,g,h=>by refine⟨by simpa using h 0 d ab,RepE.of (z:=z) (λj p=>g j (by simp[p])) λ(i:Nat) e q=>?_⟩;have s:=h (i+1) e (by exact q);grind
mutual
def Wf(P:Program):D->Prop
 |.v x=>wfV x
 |.agg f=>WfL P f
 |.tup f=>WfL P f
 |.isl E z g=>(∀e∈g,e.length=z)/\g.length<=Xw/\g.length*P.bytesOf E<=Xw/\WfE P g
 |.ipt _ f _=>WfL P f
 |_=>True
def WfL(P:Program):List D->Prop
 |[]=>True
 |d::e=>Wf P d/\WfL P e
def WfE(P:Program):List (List D)->Prop
 |[]=>True
 |e::f=>WfL P e/\WfE P f
end
mutual
def Rep.wf{M:Mem}{β:Loc}:∀{d:D} {y:Value},Rep P M β d y->Wf P d
 |.any,_,_=>by simp[Wf]
 |.v x,y,h=>by simp_all[Rep,Wf]
 |.agg e,y,h=>by have⟨f,_,h⟩:=h;exact RepL.wf h
 |.tup e,y,h=>by have⟨f,_,h⟩:=h;exact RepL.wf h
 |.nsl,_,_=>by simp[Wf]
 |.isl E z p,y,h=>by
  have⟨g,j,l,a,cap,_,_,h⟩:=h;refine⟨g,j,l,?_⟩;rcases h with rfl|⟨b,o,_,h⟩
  .simp[WfE]
  exact RepE.wf h
 |.osl ..,_,_=>by simp[Wf]
 |.ept ..,_,_=>by simp[Wf]
 |.ipt z e c,y,h=>by have⟨_,b,o,_,h⟩:=h;exact RepC.wf h
 |.clo ..,_,_=>by simp[Wf]
 |.ifc ..,_,_=>by simp[Wf]
 |.fsl ..,_,_=>by simp[Wf]
 |.fmp ..,_,_=>by simp[Wf]
 |.omp ..,_,_=>by simp[Wf]
def RepL.wf{M:Mem}{β:Loc}:∀{e:List D} {f:List Value},RepL P M β e f->WfL P e
 |[],_,_=>by simp[WfL]
 |d::e,f,h=>by have⟨x,l,_,g,j⟩:=h;exact⟨Rep.wf g,RepL.wf j⟩
def RepC.wf{M:Mem}:∀{e:List D} {b o:Nat},RepC P M e b o->WfL P e
 |[],_,_,_=>by simp[WfL]
 |d::e,b,o,h=>by have⟨⟨x,_,f⟩,g⟩:=h;exact⟨Rep.wf f,RepC.wf g⟩
def RepE.wf{M:Mem}:∀{f:List (List D)} {b o:Nat},RepE P M f b o->WfE P f
 |[],_,_,_=>by simp[WfE]
 |e::f,b,o,h=>by exact⟨RepC.wf h.1,RepE.wf h.2⟩
end
inductive Ob where
 |arr (bx:Bool) (E z:Nat) (es:List (List D)) (fz:Nat)
 |mp (k:IntKind) (es:List (Int×D))
 |raw (o:Obj)
 deriving Inhabited
def Ob.bx:Ob->Bool
 |.arr b _ _ _ _=>b
 |.mp ..=>false
 |.raw _=>false
def Xfk(bx:Bool)(β:Loc):Loc:=if bx then β else YH
def Xn9(bx:Bool)(β:Loc):BLe (Xfk bx β) β:=by
 cases bx
 .exact BLe.zero β
 exact BLe.refl β
def Xex(bx:Bool){β β':Loc}(h:BLe β β'):BLe (Xfk bx β) (Xfk bx β'):=by
 cases bx
 .exact BLe.refl _
 exact h
def EntL(P:Program)(M:Mem)(k:IntKind):List MapEntry->List (Int×D)->Prop
 |[],g=>g=[]
 |e::l,g=>∃x d f,g=(x,d)::f/\e.key=.int k x/\Rep P M YH d e.val/\EntL P M k l f
def EntL.mono{P:Program}{M M':Mem}(j:MLe M M'){k:IntKind}:∀{l:List MapEntry} {f:List (Int×D)},EntL P M k l f->EntL P M' k l f
 |[],_,h=>h
 |e::l,f,⟨x,d,g,o,p,q,r⟩=>⟨x,d,g,o,p,q.mono j (BLe.refl _),EntL.mono j r⟩
def EntL.length{P:Program}{M:Mem}{k:IntKind}:∀{l:List MapEntry} {f:List (Int×D)},EntL P M k l f->l.length=f.length
 |[],_,h=>by simp_all[EntL]
 |e::l,f,⟨x,d,g,j,p,q,o⟩=>by subst j;simp[EntL.length o]
def ObRep(P:Program)(M:Mem)(β:Loc)(w:World):Option (Nat×Nat)->Ob->Prop
 |none,.arr bx _ _ f fz=>bx=false/\f=[]/\fz=0
 |some (b,g),.arr bx E z f fz=>∃h T,w.heap[b]? = some (.cells h T (0,0))/\h.size=g*z/\(∀e∈f,e.length=z)/\f.length<=g /\
  f.length<=Xw/\f.length*P.bytesOf E<=Xw/\fz<=f.length/\(∀x∈h,x.oneCell'=true) /\
  (∀o,M b o=if o<fz*z then h[o]? else none)/\∀(i:Nat) (d:D),f.flatten[i]? = some d->∃x,h[i]? = some x/\Rep P M (Xfk bx β) d x
 |some (b,g),.mp k f=>g=0/\f.length<=Xw/\(∀o,M b o=none)/\∃ents clock,w.heap[b]? = some (.map ents clock)/\EntL P M k ents.toList f /\
  (ents.toList.map (·.born)).Pairwise (·<·)/\∀e∈ents.toList,e.born<clock
 |some (b,g),.raw o=>g=0/\(∀i,M b i=none)/\w.heap[b]? = some o
 |_,_=>False
def MemOK(M:Mem)(w:World):Prop:=∀b o x,M b o=some x->w.cell? ⟨b,o,none⟩=some x/\x.oneCell'=true
inductive Sj where
 |struct (fs:List (Nat×Nat×Nat))
 |array (n e sz:Nat)
 |slice (e sz:Nat)
 |int (k:IntKind)
 |bool
 |str
 |iface
 |other
structure OL where
 size:Nat
 bytes:Nat
 zero:Value
 k:Sj
def OL.isAgg(t:OL):Bool:=match t.k with|.struct _|.array _ _ _=>true|_=>false
def OL.isIface(t:OL):Bool:=match t.k with|.iface=>true|_=>false
def VQ(P:Program):TypeDesc->Sj
 |.struct g=>.struct (g.toList.map λf=>(f.offset,P.cellsOf f.type,f.type))
 |.array n e=>.array n e (P.cellsOf e)
 |.slice e=>.slice e (P.cellsOf e)
 |.int k=>.int k
 |.bool=>.bool
 |.string=>.str
 |.interface _=>.iface
 |_=>.other
def Xlg(P:Program):TypeDesc->Bool
 |.struct e=>e.toList.all (λf=>((P.info? f.type).map (·.size)).isSome)
 |_=>true
def Xt(P:Program)(t:TypeId):Option OL:=
 match P.info? t,P.underlying t with
 |some i,some d=>match i.zero with
  |some z=>if Xlg P d then some ⟨i.size,i.bytes,z,VQ P d⟩else none
  |none=>none
 |_,_=>none
def upd{α:Type}(f:Nat->α)(i:Nat)(x:α):Nat->α:=λj=>if j=i then x else f j
theorem YO{α:Type}(f:Nat->α)(i:Nat)(x:α):upd f i x i=x:=by simp[upd]
def Yi{α:Type}(f:Nat->α)(i j:Nat)(x:α)(h:j≠i):upd f i x j=f j:=by simp[upd,h]
def okV:Value->Bool
 |.int k n=>decide (k.min<=n)&&decide (n<=k.max)
 |.agg _=>false
 |_=>true
def Xj0{x:Value}(h:okV x=true):wfV x:=by cases x<;>simp_all[okV,wfV]
def Xlh:Value->D
 |.slice none 0 0=>.nsl
 |x=>if okV x then .v x else .any
def ofV:Value->D
 |.agg e=>.agg (e.toList.map Xlh)
 |x=>Xlh x
def ev(t:Nat->D)(G:Nat->Option (List D)):Operand->D
 |.tmp i=>t i
 |.const x=>ofV x
 |.global g=>match G g with|some e=>.ipt e.length e 0|none=>.any
 |.func f=>.clo (.func f) [] []
def D.one:D->Bool
 |.any|.agg _|.tup _|.fsl _ _ _|.fmp _ _ _=>false
 |.v x=>x.oneCell'
 |_=>true
def D.cells:D->Option (List D)
 |.agg e=>if e.all D.one then some e else none
 |d=>if d.one then some [d]else none
def KC(e:List D)(c:Nat)(f:List D):List D:=e.take c++f++e.drop (c+f.length)
abbrev Heap:=Nat->Option (Nat×Ob)
abbrev Up:=List (Nat×Nat×Ob)
def app(s:Heap):Up->Heap
 |[]=>s
 |(i,v,o)::u=>app (upd s i (some (v,o))) u
mutual
def snap(s:Heap):D->Option (Prop×D×List Nat)
 |.osl id ver z off len=>match s id with
  |some (f,.arr false E o h _)=>if ver=f/\z=o then some (off+len<=h.length,.isl E z ((h.drop off).take len),[id])else none
  |_=>none
 |.agg g=>match Jr s g with
  |some (c,j,l)=>some (c,.agg j,l)
  |none=>none
 |.tup g=>match Jr s g with
  |some (c,j,l)=>some (c,.tup j,l)
  |none=>none
 |.clo fn a b=>match Jr s a,Jr s b with
  |some (c,p,l),some (q,r,u)=>some (c/\q,.clo fn p r,l++u)
  |_,_=>none
 |.ifc t d=>match snap s d with
  |some (c,e,l)=>some (c,.ifc t e,l)
  |none=>none
 |.any=>some (True,.any,[])
 |.v x=>some (True,.v x,[])
 |.nsl=>some (True,.nsl,[])
 |.isl E z h=>some (True,.isl E z h,[])
 |.ipt z g c=>some (True,.ipt z g c,[])
 |_=>none
def Jr(s:Heap):List D->Option (Prop×List D×List Nat)
 |[]=>some (True,[],[])
 |d::f=>match snap s d,Jr s f with
  |some (c,e,l),some (g,h,j)=>some (c/\g,e::h,l++j)
  |_,_=>none
end
def VR(s:Heap):List (Nat×D)->Option (Prop×List (Nat×D)×List Nat)
 |[]=>some (True,[],[])
 |(i,d)::f=>match snap s d,VR s f with
  |some (c,e,l),some (g,h,j)=>some (c/\g,(i,e)::h,l++j)
  |_,_=>none
def Xej:Nat×Ob->Nat×Ob
 |(v,.arr false E z e _)=>(v,.arr false E z e e.length)
 |x=>x
def Xbh(s:Heap):List Nat->Up
 |[]=>[]
 |i::l=>match s i with
  |some x=>(i,Xej x)::Xbh s l
  |none=>Xbh s l
def Xfl(s:Heap):D->Option (Prop×List D×Nat×Nat)
 |.ipt z g c=>some (True,g,c,z)
 |.ept id ver z i c=>match s id with
  |some (e,.arr _ _ h f _)=>if ver=e/\z=h then some (i<f.length,f.getD i [],c,z)else none
  |_=>none
 |_=>none
def JU(ty:OL):Option (List D):=(ofV ty.zero).cells
def elems(s:Heap)(z:Nat):D->Option (Prop×List (List D))
 |.nsl=>some (True,[])
 |.v (.slice _ 0 _)=>some (True,[])
 |.isl _ f g=>if z=f then some (True,g)else none
 |.osl id ver f off len=>match s id with
  |some (e,.arr false _ h g _)=>if ver=e/\z=f/\f=h then some (off+len<=g.length,(g.drop off).take len)else none
  |_=>none
 |_=>none
def Js(isAgg:Bool)(e:List D):D:=if isAgg then .agg e else e.headD .any
def Xc3(place:Nat->Option (Nat×Nat)):List D->List (Nat×D)->Option (List D)
 |e,[]=>some e
 |e,(i,d)::rest=>match place i,d.cells with
  |some (off,sz),some f=>if f.length=sz/\off+sz<=e.length then Xc3 place (KC e off f) rest else none
  |_,_=>none
def Xc4(z:Nat):List (List D)->List (Nat×D)->Option (List (List D))
 |e,[]=>some e
 |e,(i,d)::rest=>match d.cells with
  |some f=>if f.length=z/\i<e.length then Xc4 z (e.set i f) rest else none
  |_=>none
def Xfm:Option IntKind->D->D->Option Bool
 |some _,.v (.int j a),.v (.int k b)=>if j=k then some (a==b)else none
 |none,.v (.bool a),.v (.bool b)=>some (a==b)
 |_,_,_=>none
def Yl:List (Option IntKind)->List D->List D->Option Bool
 |[],[],[]=>some true
 |k::e,x::f,y::g=>match Xfm k x y,Yl e f g with
  |some a,some b=>some (a&&b)
  |_,_=>none
 |_,_,_=>none
def Ke(P:Program):Nat->List Field->Option (List (Option IntKind))
 |_,[]=>some []
 |n,f::e=>if(f.offset==n)&&(f.name != "_")then
  match P.underlying f.type with
  |some (.int k)=>(Ke P (n+1) e).map (some k::·)
  |some .bool=>(Ke P (n+1) e).map (none::·)
  |_=>none
  else none
def YM(P:Program)(t:TypeId):Option (List (Option IntKind)):=
 match P.underlying t with
 |some (.struct f)=>if P.stoodInHeld t||P.eqGuardType P.depth t then none else Ke P 0 f.toList
 |some (.array n e)=>if P.eqGuardType P.depth t then none else match P.underlying e,P.info? e with
  |some (.int k),some _=>if P.cellsOf e=1 then some (List.replicate n (some k))else none
  |_,_=>none
 |_=>none
def VM(op:BinOp)(k:IntKind)(a b:Int):Option (Prop×Value):=
 match op with
 |.add=>some (True,.int k (k.wrap (a+b)))
 |.sub=>some (True,.int k (k.wrap (a-b)))
 |.mul=>some (True,.int k (k.wrap (a*b)))
 |.quo=>some (b≠0,.int k (k.wrap (a.tdiv b)))
 |.rem=>some (b≠0,.int k (a.tmod b))
 |.and=>some (True,.int k (k.wrap (BitVec.ofInt k.bits a &&& BitVec.ofInt k.bits b).toNat))
 |.or=>some (True,.int k (k.wrap (BitVec.ofInt k.bits a |||BitVec.ofInt k.bits b).toNat))
 |.xor=>some (True,.int k (k.wrap (BitVec.ofInt k.bits a ^^^ BitVec.ofInt k.bits b).toNat))
 |.andNot=>some (True,.int k (k.wrap (BitVec.ofInt k.bits a &&& ~~~ BitVec.ofInt k.bits b).toNat))
 |.eql=>some (True,.bool (a==b))
 |.neq=>some (True,.bool (a != b))
 |.lss=>some (True,.bool (a<b))
 |.leq=>some (True,.bool (a<=b))
 |.gtr=>some (True,.bool (a>b))
 |.geq=>some (True,.bool (a>=b))
 |_=>none
def Zb(P:Program)(op:BinOp)(T:TypeId):D->D->Option (Prop×D)
 |.v (.int k a),.v (.int e b)=>match op with
  |.shl=>some (0<=b,.v (.int k (k.wrap (a*2 ^ min b.toNat k.bits))))
  |.shr=>some (0<=b,.v (.int k (a.fdiv (2 ^ min b.toNat k.bits))))
  |op=>if k=e then(VM op k a b).map λr=>(r.1,.v r.2)else none
 |.v (.bool a),.v (.bool b)=>match Xt P T with
  |some ⟨_,_,_,.bool⟩=>match op with
   |.eql=>some (True,.v (.bool (a==b)))
   |.neq=>some (True,.v (.bool (!(a==b))))
   |_=>none
  |_=>none
 |.agg f,.agg g=>match YM P T with
  |some h=>match Yl h f g,op with
   |some b,.eql=>some (True,.v (.bool b))
   |some b,.neq=>some (True,.v (.bool (!b)))
   |_,_=>none
  |none=>none
 |_,_=>none
def ivD:D->Option Int
 |.v (.int _ n)=>some n
 |_=>none
def ivO(t:Operand->D):Option Operand->Option (Option Int)
 |none=>some none
 |some x=>(ivD (t x)).map some
def XhS:Value->Bool
 |.int _ _=>false
 |.bool _=>false
 |.slice none _ _=>true
 |_=>false
def Xc5:Operand->Bool
 |.tmp _=>false
 |.global _=>false
 |.func _=>false
 |.const v=>XhS v
def Xfn(P:Program)(op:BinOp)(T:TypeId):D->Option (Prop×D)
 |.isl _ _ e=>match Xt P T,op with
  |some ⟨_,_,_,.slice _ _⟩,.eql=>some (e≠[],.v (.bool false))
  |some ⟨_,_,_,.slice _ _⟩,.neq=>some (e≠[],.v (.bool true))
  |_,_=>none
 |.v (.slice a _ _)=>match Xt P T,op with
  |some ⟨_,_,_,.slice _ _⟩,.eql=>some (True,.v (.bool a.isNone))
  |some ⟨_,_,_,.slice _ _⟩,.neq=>some (True,.v (.bool (!a.isNone)))
  |_,_=>none
 |_=>none
def XaX(sz:Nat)(lo e mx:Option Int):D->Option (Prop×D)
 |.nsl=>match mx,e with
  |some _,none=>none
  |_,_=>some (lo.getD 0=0/\e.getD 0=0/\mx.getD 0=0,.nsl)
 |.isl E z f=>if z=sz then match mx,e with
  |none,_=>some (0<=lo.getD 0/\lo.getD 0<=e.getD f.length/\e.getD f.length<=f.length,
   .isl E z ((f.drop (lo.getD 0).toNat).take ((e.getD f.length).toNat-(lo.getD 0).toNat)))
  |some m,some h=>some (lo.getD 0=0/\h=0/\m=0,.nsl)
  |_,_=>none
  else none
 |.osl id ver z off len=>if z=sz then match mx with
  |none=>some (0<=lo.getD 0/\lo.getD 0<=e.getD len/\e.getD len<=len,
   .osl id ver z (off+(lo.getD 0).toNat) ((e.getD len).toNat-(lo.getD 0).toNat))
  |some m=>match e with
   |some h=>some (0<=lo.getD 0/\lo.getD 0<=h/\h<=m/\m<=len,.any)
   |none=>none
  else none
 |_=>none
def XaY(s:Heap)(sz:Nat)(lo e mx:Option Int)(d:D):Option (Prop×D):=match mx,lo,e with
 |none,some l,some h=>match d with
  |.osl id v z off len=>match s id with
   |some (g,.arr false _ j f _)=>if z=sz/\v=g/\z=j then
    (if off+len=f.length then XaX sz lo e mx d else some (0<=l/\l<=h/\off+h.toNat<=f.length,.osl id v z (off+l.toNat) (h.toNat-l.toNat)))
    else XaX sz lo e mx d
   |_=>none
  |_=>XaX sz lo e mx d
 |_,_,_=>XaX sz lo e mx d
def Xek(P:Program)(s:Heap)(K7 ver E z bytes:Nat)(c0:Prop)(src:List (List D)):D->Option (Prop×D×Up)
 |.nsl=>some (c0/\src.length<=Xw/\src.length*bytes<=Xw,.osl K7 ver z 0 src.length,[(K7,ver,.arr false E z src 0)])
 |.osl id v g off len=>match s id with
  |some (h,.arr false E' f e fz)=>
   if v=h/\z=g/\z=f/\P.bytesOf E'=bytes then
    if off+len=e.length then
     some (c0/\off=0/\e.length+src.length<=Xw/\(e.length+src.length)*bytes<=Xw,.osl id ver z 0 (len+src.length),[(id,ver,.arr false E' z (e++src) fz)])
    else
     some (c0/\off+len+src.length<=e.length/\fz<=off+len,.osl id v z off (len+src.length),
      [(id,v,.arr false E' z (e.take (off+len)++src++e.drop (off+len+src.length)) fz)])
   else none
  |_=>none
 |_=>none
def Xli(g:Bool):D->D->D
 |.v (.bool p),.v (.bool q)=>.v (.bool (bif g then p else q))
 |a,b=>match g with
  |true=>a
  |false=>b
def XaS(P:Program)(T:TypeId):Option (IntKind×TypeId):=match P.underlying T with
 |some (.map K E)=>match P.underlying K with
  |some (.int k)=>some (k,E)
  |_=>none
 |_=>none
def Xel:List (Int×D)->Int->Option D
 |[],_=>none
 |(x,d)::e,n=>if n=x then some d else Xel e n
def Xc6:List (Int×D)->Int->D->List (Int×D)
 |[],n,d=>[(n,d)]
 |(x,e)::f,n,d=>if n=x then(x,d)::f else(x,e)::Xc6 f n d
def Xc7:List (Int×D)->Int->List (Int×D)
 |[],_=>[]
 |(x,e)::f,n=>if n=x then f else(x,e)::Xc7 f n
def XhT(P:Program)(s:Heap)(T:TypeId)(m key x:D):Option (Prop×D×Up):=match XaS P T,m,key with
 |some (k,_),.omp id v,.v (.int g n)=>match s id with
  |some (e,.mp k2 f)=>match snap s x with
   |some (c,d,l)=>if v=e/\k=k2/\k=g/\id∉l then some (c/\f.length<Xw,.v undef,Xbh s l++[(id,e,.mp k (Xc6 f n d))])else none
   |none=>none
  |_=>none
 |_,_,_=>none
def Xoa(e:Array MapEntry)(k:IntKind)(n:Int):Prop:=(Instr.findNow (.int k) (.int k n) e.toList 0).isSome=true
def Xfo(e:Array MapEntry)(k:IntKind)(n:Int)(z:Value):Value:=match Instr.findNow (.int k) (.int k n) e.toList 0 with
 |some (some (_,v))=>v
 |_=>z
def Xgh(e:Array MapEntry)(k:IntKind)(n:Int):Bool:=match Instr.findNow (.int k) (.int k n) e.toList 0 with
 |some (some _)=>true
 |_=>false
def XqT(f:Array MapEntry)(b:Int):Prop:=(f.findIdx? λe=>(e.born:Int)==b).isSome=true
def Xlj(f:Array MapEntry)(b:Int)(y:Value):Array MapEntry:=f.modify ((f.findIdx? λe=>(e.born:Int)==b).getD 0) λe=>{e with val:=y}
def K7(dst:Option Nat):Nat:=match dst with|some d=>64*d|none=>0
def opF(P:Program)(dst:Option Nat)(ver:Nat)(t:Operand->D)(s:Heap):Op->Option (Prop×D×Up)
 |.move x|.assign x=>some (True,t x,[])
 |.pick c a b=>match t c with
  |.v (.bool g)=>some (True,Xli g (t a) (t b),[])
  |_=>none
 |.alloc T=>match Xt P T with
  |some ty=>match JU ty with
   |some w=>if w.length=ty.size/\ty.bytes<=Xw then some (True,.ept (K7 dst) ver ty.size 0 0,[(K7 dst,ver,.arr true T ty.size [w] 0)])else none
   |none=>none
  |none=>none
 |.box T x=>match Xt P T,(t x).cells with
  |some ty,some w=>if ty.bytes<=Xw then some (w.length=ty.size,.ept (K7 dst) ver ty.size 0 0,[(K7 dst,ver,.arr true T ty.size [w] 0)])else none
  |_,_=>none
 |.build T parts=>match Xt P T with
  |some ty=>match JU ty,ty.k with
   |some w,.struct I=>(Xc3 (λi=>(I[i]?).map λf=>(f.1,f.2.1)) w (parts.toList.map λp=>(p.1,t p.2))).map λr=>(True,.agg r,[])
   |some w,.array _ e sz=>match Xt P e with
    |some _=>(Xc3 (λi=>some (i*sz,sz)) w (parts.toList.map λp=>(p.1,t p.2))).map λr=>(True,.agg r,[])
    |none=>none
   |_,_=>none
  |none=>none
 |.buildSlice T n parts=>match Xt P T with
  |some ⟨_,_,_,.slice E z⟩=>match Xt P E with
   |some u=>match JU u with
    |some G=>if G.length=z/\u.size=z/\n*z<=16777216/\n*u.bytes<=Xw/\n<=Xw then
     match VR s (parts.toList.map λp=>(p.1,t p.2))with
     |some (c,ps,l)=>(Xc4 z (List.replicate n G) ps).map λq=>(c,.osl (K7 dst) ver z 0 n,Xbh s l++[(K7 dst,ver,.arr false E z q 0)])
     |none=>none
     else none
    |none=>none
   |none=>none
  |_=>none
 |.load T a=>match Xt P T,Xfl s (t a)with
  |some ty,some (c,w,o,z)=>if o+ty.size<=z/\(ty.isAgg=true\/ty.size=1)then some (c,Js ty.isAgg ((w.drop o).take ty.size),[])else none
  |_,_=>none
 |.store T a x=>match Xt P T,t a with
  |some ty,.ept id v z i c=>match s id with
   |some (B,.arr true E J q fz)=>match (t x).cells with
    |some H=>if v=B/\z=J/\c+ty.size<=z then
     some (i<q.length/\fz<=i/\H.length=ty.size,.v undef,[(id,v,.arr true E z (q.set i (KC (q.getD i []) c H)) fz)])
     else none
    |none=>none
   |some (B,.arr false E J q fz)=>match snap s (t x)with
    |some (L,d,l)=>match d.cells with
     |some H=>if v=B/\z=J/\c+ty.size<=z/\id∉l then
      some (L/\i<q.length/\fz<=i/\H.length=ty.size,.v undef,Xbh s l++[(id,v,.arr false E z (q.set i (KC (q.getD i []) c H)) fz)])
      else none
     |none=>none
    |none=>none
   |_=>none
  |_,_=>none
 |.nilCheck x=>match t x with
  |.ept id v z i c=>some (True,.ept id v z i c,[])
  |.ipt z w c=>some (True,.ipt z w c,[])
  |_=>none
 |.binOp op T x y _=>(if Xc5 y then Xfn P op T (t x)else Zb P op T (t x) (t y)).map λr=>(r.1,r.2,[])
 |.unOp op _ x=>match op,t x with
  |.not,.v (.bool b)=>some (True,.v (.bool (!b)),[])
  |.neg,.v (.int k n)=>some (True,.v (.int k (k.wrap (0-n))),[])
  |_,_=>none
 |.convert S T x=>match Xt P S,Xt P T,t x with
  |some _,some ⟨_,_,_,.int k⟩,.v (.int _ n)=>some (True,.v (.int k (k.wrap n)),[])
  |_,_,_=>none
 |.makeFunc fn first captured=>some (True,.clo fn (first.toList.map t) (captured.toList.map t),[])
 |.makeSlice T l c=>match Xt P T,ivD (t l),ivD (t c)with
  |some ⟨_,_,_,.slice E z⟩,some n,some m=>match Xt P E with
   |some u=>match JU u with
    |some G=>if G.length=z/\u.size=z then
     some (0<=n/\m=n/\n.toNat<=Xw/\n.toNat*u.bytes<=Xw,.osl (K7 dst) ver z 0 n.toNat,[(K7 dst,ver,.arr false E z (List.replicate n.toNat G) 0)])
     else none
    |none=>none
   |none=>none
  |_,_,_=>none
 |.slice T x lo M mx=>match Xt P T,ivO t lo,ivO t M,ivO t mx with
  |some ⟨_,_,_,.slice E sz⟩,some l,some h,some m=>match Xt P E with
   |some _=>(XaY s sz l h m (t x)).map λr=>(r.1,r.2,[])
   |none=>none
  |some ⟨_,_,_,.array n E _⟩,some none,some none,some none=>match Xt P E,t x with
   |some u,.ipt z w 0=>if u.size=1/\z=n/\0<n/\n<=Xw/\n*P.bytesOf E<=Xw then some (w.length=z,.isl E 1 (w.map λx=>[x]),[])else none
   |_,_=>none
  |_,_,_,_=>none
 |.fieldAddr T x f=>match Xt P T,t x with
  |some ⟨_,_,_,.struct I⟩,.ept id v z i c=>match I[f]? with
   |some (off,sz,_)=>if sz=0 then none else some (True,.ept id v z i (c+off),[])
   |none=>none
  |some ⟨_,_,_,.struct I⟩,.ipt z w c=>match I[f]? with
   |some (off,sz,_)=>if sz=0 then none else some (True,.ipt z w (c+off),[])
   |none=>none
  |_,_=>none
 |.field T x f=>match Xt P T,t x with
  |some ⟨_,_,_,.struct I⟩,.agg w=>match I[f]? with
   |some (off,sz,O)=>match Xt P O with
    |some ty=>if ty.size=sz then some (off+sz<=w.length/\(ty.isAgg=true\/sz=1),Js ty.isAgg ((w.drop off).take sz),[])else none
    |none=>none
   |none=>none
  |_,_=>none
 |.indexAddr T x ix=>match Xt P T,t x,ivD (t ix)with
  |some ⟨_,_,_,.slice _ sz⟩,.isl _ z q,some i=>if sz=z/\sz≠0 then some (0<=i/\i<q.length,.ipt z (q.getD i.toNat []) 0,[])else none
  |some ⟨_,_,_,.slice _ sz⟩,.osl id v z off len,some i=>if sz=z/\sz≠0 then some (0<=i/\i<len,.ept id v z (off+i.toNat) 0,[])else none
  |some ⟨_,_,_,.array n _ sz⟩,.ipt z w c,some i=>if sz=0 then none else some (0<=i/\i<n,.ipt z w (c+i.toNat*sz),[])
  |some ⟨_,_,_,.array n _ sz⟩,.ept id v z j c,some i=>if sz=0 then none else some (0<=i/\i<n,.ept id v z j (c+i.toNat*sz),[])
  |_,_,_=>none
 |.index T x ix=>match Xt P T,t x,ivD (t ix)with
  |some ⟨_,_,_,.array n e sz⟩,.agg w,some i=>match Xt P e with
   |some ty=>if ty.size=sz then some (0<=i/\i<n/\(i.toNat+1)*sz<=w.length/\(ty.isAgg=true\/sz=1),Js ty.isAgg ((w.drop (i.toNat*sz)).take sz),[])else none
   |none=>none
  |_,_,_=>none
 |.makeMap T r=>match XaS P T,ivO t r with
  |some (_,_),some _=>some (True,.omp (K7 dst) ver,[(K7 dst,ver,.raw (.map #[] 0))])
  |_,_=>none
 |.mapUpdate T m key x|.insert T m key x=>XhT P s T (t m) (t key) (t x)
 |.lookup T m key ok=>match XaS P T,t m,t key with
  |some (k,E),.omp id v,.v (.int K n)=>match s id,Xt P E with
   |some (B,.mp k2 q),some u=>if v=B/\k=k2/\k=K then
    some (True,if ok then .tup [(Xel q n).getD (ofV u.zero),.v (.bool (Xel q n).isSome)]else(Xel q n).getD (ofV u.zero),[])
    else none
   |some (B,.raw (.map q _)),some u=>if v=B/\k=K then
    some (Xoa q k n/\wfV (Xfo q k n u.zero),if ok then .tup [.v (Xfo q k n u.zero),.v (.bool (Xgh q k n))]else .v (Xfo q k n u.zero),[])
    else none
   |_,_=>none
  |_,_,_=>none
 |.mapEntry T m key=>match XaS P T,t m,t key with
  |some (k,E),.omp id v,.v (.int K n)=>match s id,Xt P E with
   |some (B,.raw (.map q cl)),some u=>if v=B/\k=K then
    some (Xoa q k n/\Xgh q k n=false/\cl<Xw,.tup [ofV u.zero,.v (.int .i64 cl)],[(id,B,.raw (.map (q.push ⟨.int k n,u.zero,cl⟩) (cl+1)))])
    else none
   |_,_=>none
  |_,_,_=>none
 |.entryStore _ m e x=>match t m,t e,t x with
  |.omp id v,.v (.int .i64 b),.v y=>match s id with
   |some (B,.raw (.map q cl))=>if v=B then
    some (XqT q b,.v undef,[(id,B,.raw (.map (Xlj q b y) cl))])
    else none
   |_=>none
  |_,_,_=>none
 |.extract x i=>match t x with
  |.tup H=>if i<H.length then some (True,H.getD i .any,[])else none
  |_=>none
 |.makeInterface T x=>match Xt P T with
  |some ty=>if ty.isIface then none else some (True,.ifc T (t x),[])
  |none=>none
 |.typeAssert x _ A ok=>match Xt P A,t x,ok with
  |some u,.ifc T d,true=>if u.isIface then none else if T=A then some (True,.tup [d,.v (.bool true)],[])else some (True,.tup [ofV u.zero,.v (.bool false)],[])
  |some u,.v .nilIface,true=>if u.isIface then none else some (True,.tup [ofV u.zero,.v (.bool false)],[])
  |_,_,_=>none
 |.call ⟨.builtin .len,args,types⟩=>match args.toList.map t,types.toList with
  |[d],[T]=>match Xt P T,d with
   |some ⟨_,_,_,.slice _ _⟩,.nsl=>some (True,.v (.int .i64 0),[])
   |some ⟨_,_,_,.slice _ _⟩,.isl _ _ q=>some (True,.v (.int .i64 q.length),[])
   |some ⟨_,_,_,.slice _ _⟩,.osl _ _ _ _ len=>some (len<=Xw,.v (.int .i64 len),[])
   |some ⟨_,_,_,.array n _ _⟩,_=>if n<=Xw then some (True,.v (.int .i64 n),[])else none
   |_,.omp id v=>match XaS P T,s id with
    |some (k,_),some (B,.mp k2 q)=>if v=B/\k=k2 then some (True,.v (.int .i64 q.length),[])else none
    |_,_=>none
   |_,_=>none
  |_,_=>none
 |.call ⟨.builtin .delete,args,types⟩=>match args.toList.map t,types.toList with
  |[.omp id v,.v (.int K n)],T::_=>match XaS P T,s id with
   |some (k,_),some (B,.mp k2 q)=>if v=B/\k=k2/\k=K then some (True,.tup [],[(id,B,.mp k (Xc7 q n))])else none
   |_,_=>none
  |_,_=>none
 |.call ⟨.builtin .cap,args,types⟩=>match args.toList.map t,types.toList with
  |[d],[T]=>match Xt P T,d with
   |some ⟨_,_,_,.slice _ _⟩,.nsl=>some (True,.v (.int .i64 0),[])
   |_,_=>none
  |_,_=>none
 |.call ⟨.builtin .min,args,_⟩=>match args.toList.map t with
  |[.v (.int j a),.v (.int k b)]=>if j=k then some (True,.v (.int j (if b<a then b else a)),[])else none
  |_=>none
 |.call ⟨.builtin .max,args,_⟩=>match args.toList.map t with
  |[.v (.int j a),.v (.int k b)]=>if j=k then some (True,.v (.int j (if a<b then b else a)),[])else none
  |_=>none
 |.call ⟨.builtin .clear,args,types⟩=>match args.toList.map t,types.toList with
  |[.osl id v z off len],[T]=>match Xt P T with
   |some ⟨_,_,_,.slice E sz⟩=>match Xt P E with
    |some u=>match JU u,s id with
     |some G,some (B,.arr false E' J q fz)=>if v=B/\z=J/\z=sz/\u.size=sz/\G.length=sz then some (off+len<=q.length/\fz<=off,.tup [],[(id,v,.arr false E' z (q.take off++List.replicate len G++q.drop (off+len)) fz)])else none
     |_,_=>none
    |none=>none
   |_=>none
  |[.omp id v],T::_=>match XaS P T,s id with
   |some (k,_),some (B,.mp k2 q)=>if v=B/\k=k2 then some (True,.tup [],[(id,B,.mp k [])])else none
   |_,_=>none
  |_,_=>none
 |.call ⟨.builtin .copy,args,types⟩=>match args.toList.map t,types.toList with
  |[.osl id v z off len,x],T::_=>match Xt P T with
   |some ⟨_,_,_,.slice E sz⟩=>match Xt P E,s id,elems s z x with
    |some u,some (B,.arr false E' J q fz),some (c,src)=>if v=B/\z=J/\z=sz/\u.size=sz then
     some (c/\src.length<=len/\off+len<=q.length/\fz<=off,.v (.int .i64 src.length),[(id,v,.arr false E' z (q.take off++src++q.drop (off+src.length)) fz)])
     else none
    |_,_,_=>none
   |_=>none
  |_,_=>none
 |.call ⟨.builtin .append,args,types⟩=>match args.toList.map t,types.toList with
  |[d,x],[T,T2]=>match Xt P T with
   |some ⟨_,_,_,.slice E z⟩=>match Xt P E with
    |some u=>match JU u with
     |some G=>if u.size=z/\G.length=z then match Xt P T2 with
      |some ⟨_,_,_,.slice _ _⟩=>match elems s z x with
       |some (c,src)=>Xek P s (K7 dst) ver E z u.bytes c src d
       |none=>none
      |some ⟨_,_,_,.int _⟩=>match ivD x with
       |some n=>Xek P s (K7 dst) ver E z u.bytes (0<=n/\n<=Xw/\n.toNat*u.bytes<=Xw) (List.replicate n.toNat G) d
       |_=>none
      |_=>none
      else none
     |none=>none
    |none=>none
   |_=>none
  |_,_=>none
 |_=>none
variable {P:Program}
structure Cx where
 G:Nat->Option (List D)
 M0:Mem
 w0:World
 lb:List Nat
 b0:Loc
 M1:Mem
 off:Nat
 rd:Option Nat
 df:List Deferred
@[reducible] def Cx.sub(C:Cx)(n:Nat)(x:Mem×Loc):Cx:=⟨C.G,C.M0,C.w0,C.lb,x.2,x.1,n,none,[]⟩
structure Kp(w0:World)(lb:List Nat)(w:World):Prop where
 os:w.os=w0.os
 tape:w.tape=w0.tape
 output:w.output=w0.output
 size:w0.heap.size<=w.heap.size
 block:∀k,k<w0.heap.size->k∉lb->w.heap[k]? = w0.heap[k]?
def Kp.refl(w:World)(lb:List Nat):Kp w lb w:=⟨rfl,rfl,rfl,Uu _,λ_ _ _=>rfl⟩
structure Ij(P:Program)(C:Cx)(s:Heap)(U:Nat->Prop)(M:Mem)(β:Loc)(w:World):Prop where
 mem:MemOK M w
 used:∀id ver x,β id ver=some x->U ver
 obs:∀id v ob,s id=some (v,ob)->∃x,β id v=some x/\ObRep P M β w x ob
 own:∀id v ob b cb,s id=some (v,ob)->β id v=some (some (b,cb))->C.w0.heap.size<=b\/(b∈C.lb/\ob.bx=true)
 inj:∀id v ob id' v' ob' b cb cb',s id=some (v,ob)->s id'=some (v',ob')->β id v=some (some (b,cb))->β id' v'=some (some (b,cb'))->id=id'
 keep:Kp C.w0 C.lb w
 old:∀b o,b<C.w0.heap.size->M b o=C.M0 b o
 le:MLe C.M1 M
 glob:∀g cs,C.G g=some cs->RepC P C.M1 cs g 0
def Ij.mono{C:Cx}{s:Heap}{U U':Nat->Prop}{M:Mem}{β:Loc}{w:World}(h:Ij P C s U M β w)(f:∀v,U v->U' v):Ij P C s U' M β w:=
 {h with used:=λi v x e=>f _ (h.used i v x e)}
def MemOK.lt{M:Mem}{w:World}(h:MemOK M w){b o:Nat}{x:Value}(e:M b o=some x):b<w.heap.size:=
 World.block_lt_of_cell? (a:=⟨b,o,none⟩) w (h b o x e).1
def ObRep.lt{M:Mem}{β:Loc}{w:World}{b f:Nat}{ob:Ob}(h:ObRep P M β w (some (b,f)) ob):b<w.heap.size:=by
 cases ob with
 |raw o=>have⟨_,_,e⟩:=h;grind
 |mp kk g=>have⟨_,_,_,ents,clock,e,_⟩:=h;grind
 |arr bx E z g fz=>have⟨j,T,e,_⟩:=h;grind
def ObRep.mono{M M':Mem}{β β':Loc}{w w':World}{x:Option (Nat×Nat)}{ob:Ob}(h:ObRep P M β w x ob)(u:MLe M M')(A:BLe β β')(hw:∀b e,x=some (b,e)->w'.heap[b]? = w.heap[b]?)(p:∀b e,x=some (b,e)->∀o,M' b o=M b o):ObRep P M' β' w' x ob:=by
 cases ob with
 |raw o=>
  cases x with
  |none=>assumption
  |some f=>have⟨b,e⟩:=f;have⟨g,j,l⟩:=h;exact⟨g,λo=>(p b e rfl o).trans (j o),(hw b e rfl).trans l⟩
 |mp kk B=>
  cases x with
  |none=>assumption
  |some f=>have⟨b,e⟩:=f;have⟨g,j,l,ents,clock,q,r,s⟩:=h;exact⟨g,j,λo=>(p b e rfl o).trans (l o),ents,clock,(hw b e rfl).trans q,r.mono u,s⟩
 |arr bx E z B fz=>
  cases x with
  |none=>assumption
  |some f=>have⟨b,e⟩:=f;have⟨D,T,g,j,l,q,r,s,G,H,I,t⟩:=h;refine⟨D,T,(hw b e rfl).trans g,j,l,q,r,s,G,H,λo=>(p b e rfl o).trans (I o),λi d hd=>?_⟩;have⟨y,J,K⟩:=t i d hd;exact⟨y,J,K.mono u (Xex bx A)⟩
def Ij.set{C:Cx}{s:Heap}{U:Nat->Prop}{M M':Mem}{β β':Loc}{w w':World}(h:Ij P C s U M β w)(id ver:Nat)(ob:Ob)(b cb:Nat)(hM:MLe M M')(T:BLe β β')(hw:∀k,k≠b->w'.heap[k]? = w.heap[k]?)(hm:∀k,k≠b->∀o,M' k o=M k o)(hmem:∀o x,M' b o=some x->w'.cell? ⟨b,o,none⟩=some x/\x.oneCell'=true)(hβ:β' id ver=some (some (b,cb)))(hob:ObRep P M' β' w' (some (b,cb)) ob)(B:∀f z g V,f≠id->s f=some (z,g)->β f z≠some (some (b,V)))(hown:C.w0.heap.size<=b\/(b∈C.lb/\ob.bx=true))(I:b<C.w0.heap.size->∀o,M' b o=M b o)(W:w'.os=w.os)(D:w'.tape=w.tape)(J:w'.output=w.output)(E:w.heap.size<=w'.heap.size)(G:∀i v x,β' i v=some x->β i v=some x\/v=ver):Ij P C (upd s id (some (ver,ob))) (λv=>U v\/v=ver) M' β' w':=by
 have j:∀f z g x,f≠id->s f=some (z,g)->β' f z=some x->β f z=some x:=by intro f z g x hne t l;obtain⟨y,hy,_⟩:=h.obs f z g t;rw[T _ _ _ hy]at l;rw[hy];exact l
 constructor
 .intro k o x l;by_cases A:k=b
  .grind
  rw[hm k A o]at l;have:=h.mem k o x l;refine⟨?_,this.2⟩;rw[←this.1];simp[World.cell?,hw k A]
 .intro i v x l;rcases G i v x l with l|rfl
  .exact .inl (h.used i v x l)
  omega
 .intro f v g t;by_cases p:f=id
  .simp_all[YO]
  rw[Yi _ _ _ _ p]at t;have⟨x,l,hr⟩:=h.obs f v g t;refine⟨x,T _ _ _ l,hr.mono hM T ?_ ?_⟩
  .rintro k Y rfl;exact hw k λe=>B f v g Y p t (e▸l)
  grind
 .intro f v g k Y t l;by_cases p:f=id
  .simp_all[YO,hβ]
  rw[Yi _ _ _ _ p]at t;exact h.own f v g k Y t (j f v g _ p t l)
 .intro H v1 K u v2 L k c1 c2 q r O Z;by_cases h1:H=id
  .by_cases Q:u=id
   .omega
   subst h1;rw[YO]at q;obtain⟨rfl,rfl⟩:=by simpa using q
   rw[hβ]at O;rw[Yi _ _ _ _ Q]at r;grind
  rw[Yi _ _ _ _ h1]at q;have R:=j H v1 K _ h1 q O;by_cases Q:u=id
  .subst Q;rw[YO]at r;grind
  rw[Yi _ _ _ _ Q]at r;exact h.inj H v1 K u v2 L k c1 c2 q r R (j u v2 L _ Q r Z)
 .refine⟨W.trans h.keep.os,D.trans h.keep.tape,J.trans h.keep.output,Ii h.keep.size E,λk A hl=>?_⟩;rw[←h.keep.block k A hl];grind
 .intro k o A;by_cases S:k=b
  .subst S;rw[I A o];exact h.old k o A
  rw[hm k S o];exact h.old k o A
 .exact h.le.trans hM
 exact h.glob
def Ij.setNil{C:Cx}{s:Heap}{U:Nat->Prop}{M:Mem}{β β':Loc}{w:World}(h:Ij P C s U M β w)(id ver E z:Nat)(G:BLe β β')(hβ:β' id ver=some none)(p:∀i v x,β' i v=some x->β i v=some x\/v=ver):Ij P C (upd s id (some (ver,.arr false E z [] 0))) (λv=>U v\/v=ver) M β' w:=by
 have g:∀e A f x,e≠id->s e=some (A,f)->β' e A=some x->β e A=some x:=by intro e A f x R o j;obtain⟨y,J,_⟩:=h.obs e A f o;rw[G _ _ _ J]at j;rw[J];exact j
 constructor
 .exact h.mem
 .intro i v x j;rcases p i v x j with j|rfl
  .exact .inl (h.used i v x j)
  omega
 .intro e v f o;by_cases l:e=id
  .grind[YO,ObRep]
  rw[Yi _ _ _ _ l]at o;have⟨x,j,S⟩:=h.obs e v f o;exact⟨x,G _ _ _ j,S.mono (MLe.refl _) G (λ_ _ _=>rfl) (λ_ _ _ _=>rfl)⟩
 .intro e v f k T o j;by_cases l:e=id
  .simp_all[YO,hβ]
  rw[Yi _ _ _ _ l]at o;exact h.own e v f k T o (g e v f _ l o j)
 .intro q K B r L D k c1 V t u H I;by_cases O:q=id
  .simp_all[YO,hβ]
  by_cases Q:r=id
  .simp_all[YO,hβ]
  rw[Yi _ _ _ _ O]at t;rw[Yi _ _ _ _ Q]at u;exact h.inj q K B r L D k c1 V t u (g q K B _ O t H) (g r L D _ Q u I)
 .exact h.keep
 .exact h.old
 .exact h.le
 exact h.glob
def ZJ(β:Loc)(id ver:Nat)(x:Option (Nat×Nat)):Loc:=λi v=>if i=id/\v=ver then some x else β i v
theorem XP(β:Loc)(id ver:Nat) (x):ZJ β id ver x id ver=some x:=by simp[ZJ]
def Zn{β:Loc}{id ver:Nat}{x}(h:β id ver=none):BLe β (ZJ β id ver x):=by intro i v y e;unfold ZJ;grind
def Zy{β:Loc}{id ver:Nat}{x}(i v:Nat) (y) (h:ZJ β id ver x i v=some y):β i v=some y\/v=ver:=by unfold ZJ at h;grind
def Ij.fresh{C:Cx}{s:Heap}{U:Nat->Prop}{M:Mem}{β:Loc}{w:World}(h:Ij P C s U M β w){ver:Nat}(e:¬U ver)(id:Nat):β id ver=none:=by
 cases hb:β id ver with
 |none=>rfl
 |some x=>exact absurd (h.used id ver x hb) e
def XW{z:Nat}:∀{f:List (List D)},(∀e∈f,e.length=z)->f.flatten.length=f.length*z
 |[],_=>by simp
 |e::f,h=>by have l:f.flatten.length=f.length*z:=XW λg j=>h g (WC _ j);grind
def JV{z:Nat}:∀{f:List (List D)},(∀e∈f,e.length=z)->∀(i j:Nat),j<z->f.flatten[i*z+j]? = (f.getD i [])[j]?
 |[],_,i,j,_=>by simp
 |e::f,h,i,j,l=>by
  have g:e.length=z:=h e ab;cases i with
  |zero=>grind
  |succ i=>
   have:¬(i+1)*z+j<e.length:=by rw[g,I6];omega
   rw[List.flatten_cons,Ug aa,g];have o:(i+1)*z+j-z=i*z+j:=by rw[I6];omega
   rw[o,JV (λp q=>h p (by grind)) i j l];simp
def Zf{z:Nat}{f:List (List D)}(h:∀e∈f,e.length=z)(k:Nat):f.flatten[k]? = (f.getD (k / z) [])[k % z]?:=by
 rcases Ux z with rfl|g
 .have j:f.flatten=[]:=WZ (by rw[XW h];simp);grind
 have:=JV h (k / z) (k % z) (Nat.mod_lt _ g);simp_all[Nat.div_add_mod']
def Xc8(f:List (List D))(h:∀e∈f,e.length=0)(k:Nat):f.flatten[k]? = none:=by have g:f.flatten=[]:=WZ (by rw[XW h];simp);grind
def Ij.alloc{C:Cx}{s:Heap}{U:Nat->Prop}{M:Mem}{β:Loc}{w w1:World}(h:Ij P C s U M β w)(A:w1.heap=w.heap/\w1.os=w.os/\w1.tape=w.tape/\w1.output=w.output){ver:Nat}(R:¬U ver)(bx:Bool)(id E z:Nat)(p:List (List D))(q:Nat)(g:Array Value)(T:TypeId)(B:g.size=q*z)(S:∀e∈p,e.length=z)(G:p.length<=q)(V:p.length<=Xw)(hb:p.length*P.bytesOf E<=Xw)(r:∀x∈g,x.oneCell'=true)(t:∀(i:Nat) (d:D),p.flatten[i]? = some d->∃x,g[i]? = some x/\Rep P M (Xfk bx β) d x):
 Ij P C (upd s id (some (ver,.arr bx E z p 0))) (λv=>U v\/v=ver) M (ZJ β id ver (some (w.heap.size,q))) (w1.alloc (.cells g T)) /\
  BLe β (ZJ β id ver (some (w.heap.size,q))):=by
 have W:=h.fresh R id;have H:BLe β (ZJ β id ver (some (w.heap.size,q))):=Zn W;have f:∀o,M w.heap.size o=none:=by
  intro o;cases j:M w.heap.size o with
  |none=>rfl
  |some x=>exact absurd (h.mem.lt j) (IU _)
 have⟨O,Y,e3,e4⟩:=A;have l:∀k,k≠w.heap.size->(w1.alloc (.cells g T)).heap[k]? = w.heap[k]?:=by intro k Z;show(w1.heap.push _)[k]? = _;rw[O,Array.getElem?_push,Wg Z]
 have u:(w1.alloc (.cells g T)).heap[w.heap.size]? = some (.cells g T (0,0)):=by show(w1.heap.push _)[w.heap.size]? = _;rw[O];simp
 refine⟨h.set id ver _ w.heap.size q (MLe.refl M) H l (λ_ _ _=>rfl) ?_ (XP ..) ?_ ?_ (.inl h.keep.size) ?_ Y e3 e4 ?_ Zy,H⟩
 .intro o x j;rw[f o]at j;cases j
 .refine⟨g,T,u,B,S,G,V,hb,UY _,r,λo=>by simp[f o],λi d hd=>?_⟩;have⟨x,j,I⟩:=t i d hd;exact⟨x,j,I.mono (MLe.refl M) (Xex bx H)⟩
 .intro J v' K L _ hs j;have⟨y,Q,I⟩:=h.obs J v' K hs;rw[j]at Q;obtain rfl:some (w.heap.size,L)=y:=by simpa using Q
  exact absurd I.lt (IU _)
 .intro hlt;exact absurd h.keep.size aa
 simp_all
def Ij.write{C:Cx}{s:Heap}{U:Nat->Prop}{M:Mem}{β:Loc}{w:World}(h:Ij P C s U M β w){bx:Bool}{id ver E z fz:Nat}{u es':List (List D)}(y:s id=some (ver,.arr bx E z u fz)){b l:Nat}(hb:β id ver=some (some (b,l))){j cs':Array Value}{T:TypeId}(p:w.heap[b]? = some (.cells j T (0,0)))(A:cs'.size=j.size)(f:es'.length=u.length)(W:∀e∈es',e.length=z)(q:∀x∈cs',x.oneCell'=true)(B:∀o,o<fz*z->cs'[o]? = j[o]?)(r:∀(i:Nat) (d:D),es'.flatten[i]? = some d->∃x,cs'[i]? = some x/\Rep P M (Xfk bx β) d x):
 Ij P C (upd s id (some (ver,.arr bx E z es' fz))) U M β (w.setRow b cs'):=by
 have⟨x,G,Y⟩:=h.obs id ver _ y;obtain rfl:some (b,l)=x:=by simp_all
 have⟨H,T0,k1,k2,k3,Z,k5,k6,k7,k8,k9,k10⟩:=Y;have⟨rfl,rfl⟩:j=H/\T=T0:=by simp_all
 have g:∀k,k≠b->(w.setRow b cs').heap[k]? = w.heap[k]?:=λk hk=>setRow_other w b k cs' hk;have t:=setRow_heap w b j cs' T (0,0) p;have:=h.set (M':=M) (β':=β) (w':=w.setRow b cs') id ver (.arr bx E z es' fz) b l (MLe.refl M) (BLe.refl β) g (λ_ _ _=>rfl) ?_ hb ?_ ?_ (h.own id ver (.arr bx E z u fz) b l y hb:_\/(_/\bx=true)) (λ_ _=>rfl) rfl rfl rfl ab (λ_ _ _ e=>.inl e)
 .exact this.mono λv V=>by
   rcases V with V|rfl
   .omega
   exact h.used id _ _ hb
 .intro o x G;have I:=k9 o;rw[G]at I;split at I
  .rename_i J;have:(w.setRow b cs').cell? ⟨b,o,none⟩=cs'[o]?:=cell_setRow_same w b o j cs' T (0,0) p;rw[this,B o J];exact⟨I.symm,(h.mem b o x G).2⟩
  simp_all
 .refine⟨cs',T,t,by rw[A];exact k2,W,by rw[f];exact Z,by rw[f];exact k5,by rw[f];exact k6,by rw[f];exact k7,q,λo=>?_,r⟩;simp_all
 intro K v' L O Q R S;exact Q (h.inj K v' L id ver _ b O l R y S hb)
variable {P:Program}
def Yj{t:TypeId}{ty:OL}(h:Xt P t=some ty):∃i d,P.info? t=some i/\P.underlying t=some d/\i.zero=some ty.zero/\i.size=ty.size/\i.bytes=ty.bytes/\VQ P d=ty.k:=by unfold Xt at h;grind
def YP{t:TypeId}{ty:OL}(h:Xt P t=some ty)(w:World):(sizeOf t).run P w=.ok ty.size w:=by have⟨i,d,e,_,_,f,_⟩:=Yj h;simp[sizeOf,typeInfo,e,f]
def Z6{t:TypeId}{ty:OL}(h:Xt P t=some ty)(w:World):(zeroValue t).run P w=.ok ty.zero w:=by have⟨i,d,e,_,f,_⟩:=Yj h;simp[zeroValue,typeInfo,e,f]
def XaZ{t:TypeId}{ty:OL}(h:Xt P t=some ty):P.cellsOf t=ty.size:=by have⟨i,d,e,_,_,f,_⟩:=Yj h;simp[Program.cellsOf,e,f]
def Vm{t:TypeId}{ty:OL}(h:Xt P t=some ty):P.bytesOf t=ty.bytes:=by have⟨i,d,e,_,_,_,f,_⟩:=Yj h;simp[Program.bytesOf,e,f]
def Jg{t:TypeId}{ty:OL}(h:Xt P t=some ty)(w:World):(isAgg t).run P w=.ok ty.isAgg w:=by have⟨i,d,_,e,_,_,_,f⟩:=Yj h;unfold isAgg;simp only[Sem.run_bind,run_underlying e,Result.andThen_ok];unfold OL.isAgg;rw[←f];cases d<;>simp[VQ]
def X9{t:TypeId}{a b:Nat}{z:Value}{E sz:Nat}(h:Xt P t=some ⟨a,b,z,.slice E sz⟩):P.underlying t=some (.slice E)/\sz=P.cellsOf E:=by have⟨i,d,_,f,_,_,_,e⟩:=Yj h;cases d<;>simp[VQ]at e;grind
def Jh{t:TypeId}{a b:Nat}{z:Value}{n E sz:Nat}(h:Xt P t=some ⟨a,b,z,.array n E sz⟩):P.underlying t=some (.array n E)/\sz=P.cellsOf E:=by have⟨i,d,_,f,_,_,_,e⟩:=Yj h;cases d<;>simp[VQ]at e;grind
def XiV{t:TypeId}{a b:Nat}{z:Value}{k:IntKind}(h:Xt P t=some ⟨a,b,z,.int k⟩):P.underlying t=some (.int k):=by have⟨i,d,_,f,_,_,_,e⟩:=Yj h;cases d<;>simp[VQ]at e;simp_all
def Xlk{t:TypeId}{a b:Nat}{z:Value}(h:Xt P t=some ⟨a,b,z,.bool⟩):P.underlying t=some .bool:=by have⟨i,d,_,f,_,_,_,e⟩:=Yj h;cases d<;>simp[VQ]at e;omega
def Vn{t:TypeId}{a b:Nat}{z:Value}{j:List (Nat×Nat×Nat)}(h:Xt P t=some ⟨a,b,z,.struct j⟩):
 ∃fields,P.underlying t=some (.struct fields)/\(j=fields.toList.map λf=>(f.offset,P.cellsOf f.type,f.type))/\∀fd∈fields.toList,((P.info? fd.type).map (·.size)).isSome=true:=by
 have⟨i,d,_,l,_,_,_,e⟩:=Yj h;have g:Xlg P d=true:=by
  unfold Xt at h;split at h
  .simp_all
  grind
 cases d<;>simp only[VQ,reduceCtorEq]at e;rename_i fields;simp at e;exact⟨fields,l,e.symm,λfd o=>WP.1 g fd o⟩
def Jt{t:TypeId}{n:Nat}(e:P.cellsOf t=n)(g:n≠0)(w:World):(sizeOf t).run P w=.ok n w:=by
 unfold Program.cellsOf at e;cases f:P.info? t with
 |none=>simp_all
 |some i=>simp_all[f,sizeOf,typeInfo,e]
def If(b o n:Nat):(⟨b,o,none⟩:Addr).add n=⟨b,o+n,none⟩:=by unfold Addr.add;simp
def Xgi{M:Mem}{β:Loc}(x:Value):Rep P M β (Xlh x) x:=by
 unfold Xlh;split
 .simp[Rep]
 split
 .rename_i h;simp[Rep,Xj0 h]
 simp[Rep]
def Vo{M:Mem}{β:Loc}(x:Value):Rep P M β (ofV x) x:=by
 unfold ofV;split
 .rename_i e;refine⟨e.toList,rfl,RepL.of ab λi d x hd f=>?_⟩;simp only[IQ,Uv]at hd;obtain⟨y,g,rfl⟩:=hd;obtain rfl:y=x:=by simp_all
  exact Xgi _
 exact Xgi _
def Xc9{M:Mem}{β:Loc}{d:D}{x:Value}(e:d.one=true)(h:Rep P M β d x):x.oneCell'=true/\x.cells=#[x]:=by
 have key:x.oneCell'=true:=by
  cases d<;>simp[D.one]at e<;>simp only[Rep]at h
  .simp_all
  .obtain⟨a,rfl⟩:=h;rfl
  .obtain⟨_,_,_,a,c,rfl,_⟩:=h;rfl
  .rcases h with⟨_,_,_,a,rfl⟩|⟨_,_,_,_,_,rfl,_⟩<;>rfl
  .obtain⟨_,_,_,rfl⟩:=h;rfl
  .obtain⟨_,_,_,rfl,_⟩:=h;rfl
  .obtain⟨_,_,rfl,_⟩:=h;rfl
  .obtain⟨_,rfl,_⟩:=h;rfl
  obtain⟨_,_,_,rfl⟩:=h;rfl
 cases x<;>simp_all[Value.oneCell',Value.cells]
def Ji{M:Mem}{β:Loc}{d:D}{x:Value}{ds:List D}(h:d.cells=some ds)(e:Rep P M β d x):
 RepL P M β ds x.cells.toList/\∀y∈x.cells,y.oneCell'=true:=by
 unfold D.cells at h;split at h
 .rename_i o;split at h
  .rename_i f;obtain rfl:o=ds:=by simpa using h
   obtain⟨vs,rfl,e⟩:=e;refine⟨by simpa [Value.cells]using e,λy q=>?_⟩;have j:y∈vs:=by simpa [Value.cells]using q
   obtain⟨i,s,rfl⟩:=Wv j;have p:=e.length;have⟨y,g,l⟩:=e.get i (o[i]'aa) ab;have:vs[i]? = some vs[i]:=by simp
   rw[this]at g;obtain rfl:vs[i]=y:=by simpa using g
   exact(Xc9 (WP.1 f _ (Wt _)) l).1
  simp_all
 split at h
 .rename_i r;obtain rfl:[d]=ds:=by simpa using h
  have⟨k1,k2⟩:=Xc9 r e;rw[k2];exact⟨by exact⟨x,[],rfl,e,rfl⟩,by simpa using k1⟩
 simp_all
def Xa0{M:Mem}{β:Loc}{d:D}{x:Value}{e:List D}(h:d.cells=some e)(f:Rep P M β d x):x.cells.size=e.length:=by have:=(Ji h f).1.length;omega
def XiW{C:Cx}{s:Heap}{U:Nat->Prop}{M:Mem}{β:Loc}{w:World}(I:Ij P C s U M β w){d:D}{y:Value}{c:Prop}{g:List D}{o z:Nat}(h:Xfl s d=some (c,g,o,z))(K:c)(q:Rep P M β d y):
 ∃b r,y=.pointer (some ⟨b,r+o,none⟩)/\g.length=z/\∀(i:Nat) (d:D),g[i]? = some d->∃x,w.cell? ⟨b,r+i,none⟩=some x/\Rep P M β d x:=by
 unfold Xfl at h;split at h
 .rename_i z' t u;have⟨rfl,rfl,rfl,rfl⟩:True=c/\t=g/\u=o/\z'=z:=by simpa using h
  obtain⟨L,b,r,rfl,q⟩:=q;refine⟨b,r,rfl,L,λi d hd=>?_⟩;have⟨x,f,e⟩:=q.get i d hd;exact⟨x,(I.mem b _ x f).1,e.mono (MLe.refl _) (BLe.zero _)⟩
 .rename_i id ver z' l u;split at h
  .rename_i G bx E O A fz Q;split at h
   .rename_i R;have⟨rfl,rfl⟩:=R;have⟨rfl,rfl,rfl,rfl⟩:(l<A.length)=c/\A.getD l []=g/\u=o/\z'=z:=by simpa using h
    obtain⟨b,S,hb,rfl⟩:=q;have⟨x,f,V⟩:=I.obs id ver _ Q;rw[hb]at f;obtain rfl:some (b,S)=x:=by simpa using f
    have⟨W,T,k1,k2,H,Z,k5,k6,k7,k8,k9,B⟩:=V;have p:(A.getD l []).length=z':=by rw[We,Wb K];exact H _ (Wt _)
    refine⟨b,l*z',rfl,p,λj d hd=>?_⟩;have Y:j<z':=by
     rcases UM j z' with J|J
     .exact J
     rw[W3 aa]at hd;cases hd
    have⟨x,f,e⟩:=B (l*z'+j) d (by rw[JV H _ _ Y];exact hd);exact⟨x,by rw[cell_of_row w b _ W T (0,0) k1];exact f,e.mono (MLe.refl _) (Xn9 bx β)⟩
   cases h
  cases h
 simp_all
def VS{α:Type}(l:List α)(o n i:Nat):((l.drop o).take n)[i]? = if i<n then l[o+i]? else none:=by grind
def Xda{t:TypeId}{ty:OL}(h:Xt P t=some ty)(w:World)(M:Mem)(β:Loc)(b l o z:Nat)(e:List D)(O:e.length=z)(G:o+ty.size<=z)(H:∀(i:Nat) (d:D),e[i]? = some d->∃x,w.cell? ⟨b,l+i,none⟩=some x/\Rep P M β d x)(p:ty.isAgg=false->ty.size=1):
 ∃v,(loadVar t ⟨b,l+o,none⟩).run P w=.ok v w/\Rep P M β (Js ty.isAgg ((e.drop o).take ty.size)) v:=by
 have q:∃vs:List Value,vs.length=ty.size/\(∀(j:Nat)v,vs[j]? = some v->w.cell? ((⟨b,l+o,none⟩:Addr).add j)=some v)/\RepL P M β ((e.drop o).take ty.size) vs:=by
  have:∀n,n<=ty.size->∃vs:List Value,vs.length=n/\(∀(j:Nat)v,vs[j]? = some v->w.cell? ((⟨b,l+o,none⟩:Addr).add j)=some v)/\RepL P M β ((e.drop o).take n) vs:=by
   intro n;induction n with
   |zero=>simp[RepL]
   |succ n I=>
    intro Q;obtain⟨vs,r,y,u⟩:=I aa;have J:o+n<e.length:=aa;obtain⟨x,A,R⟩:=H (o+n) e[o+n] ab;refine⟨vs++[x],by grind,λj v g=>?_,?_⟩
    .rw[Oo]at g;split at g
     .simp_all
     rename_i K;have B:j=n:=by
      rcases UM n j with L|L
      .rw[W3 ah]at g;cases g
      omega
     subst B;simp[r]at g;subst g;rw[If];grind
    have:(e.drop o).take (n+1)=(e.drop o).take n++[e[o+n]]:=by rw[List.take_succ_eq_append_getElem (by grind)];simp
    rw[this];exact u.append (by simp_all[RepL])
  exact this _ (Uu _)
 have⟨vs,r,y,u⟩:=q;cases f:ty.isAgg with
 |true=>
  refine⟨.agg ⟨vs⟩,?_,?_⟩
  .have:=run_loadCells_list (P:=P) w ⟨b,l+o,none⟩ vs y;rw[r]at this;simp[loadVar,Jg h,YP h,f,this]
  simp_all[Js,if_true,Rep]
 |false=>
  have s:=p f;rw[s]at r u;match vs,r with
  |[x],_=>
   have A:=y 0 x ab;rw[If]at A;refine⟨x,?_,?_⟩
   .simp_all[loadVar,Jg,h,f,run_load,A]
   simp only[Js,s,UU,if_false];have:=u.length;match E:(e.drop o).take 1,this with
   |[d],_=>simp_all[E,RepL]
variable {P:Program}
def VOK(P:Program)(C:Cx)(s:Heap)(u:Up)(U:Nat->Prop)(ver:Nat)(M:Mem)(β:Loc)(r:Result Value)(d:D):Prop:=
 ∃M' β' w' v,r=.ok v w'/\Ij P C (app s u) (λx=>U x\/x=ver) M' β' w'/\Rep P M' β' d v/\MLe M M'/\BLe β β'
def OpOK(P:Program)(C:Cx)(s:Heap)(u:Up)(U:Nat->Prop)(ver:Nat)(M:Mem)(β:Loc)(r:Result Next)(d:D):Prop:=
 ∃M' β' w' v,(r=.ok (.value v) w'\/r=.ok .skip w'/\v=undef)/\Ij P C (app s u) (λx=>U x\/x=ver) M' β' w'/\Rep P M' β' d v/\MLe M M'/\BLe β β'
section
variable {C:Cx}{s:Heap}{U:Nat->Prop}{ver:Nat}{M:Mem}{β:Loc}{w:World}
def VOK.op{u:Up}{sem:Sem Value}{d:D}(h:VOK P C s u U ver M β (sem.run P w) d):OpOK P C s u U ver M β ((do pure (Next.value (←sem)):Sem Next).run P w) d:=by have⟨M',β',w',v,e,rest⟩:=h;exact⟨M',β',w',v,.inl (by simp[e]),rest⟩
def VOK.same(I:Ij P C s U M β w){r:Result Value}{d:D}{v:Value}(e:r=.ok v w)(h:Rep P M β d v):VOK P C s [] U ver M β r d:=
 ⟨M,β,w,v,e,I.mono λ_ f=>.inl f,h,MLe.refl _,BLe.refl _⟩
def Kn(k:IntKind)(n:Int):wfV (.int k (k.wrap n)):=by simp only[wfV];cases k<;>simp only[IntKind.wrap,IntKind.min,IntKind.max,IntKind.bits,IntKind.signed,Uh,WI,UU,if_true,if_false]<;>(try split)<;>(try simp only[decide_eq_true_eq,ge_iff_le,Int.not_le]at *)<;>constructor<;>omega
def ZS(k:IntKind)(n:Int)(h:wfV (.int k n)):Rep P M β (.v (.int k n)) (.int k n):=by simp[Rep,h]
def ZK(b:Bool):Rep P M β (.v (.bool b)) (.bool b):=by simp[Rep,wfV]
def XiX(k:IntKind):k.min<=0:=by cases k<;>decide
def XiY(k:IntKind):0<=k.max:=by cases k<;>decide
def Xob(a b lo hi:Int)(f:lo<=a)(g:a<=hi)(j:lo<=0)(l:0<=hi):lo<=a.tmod b/\a.tmod b<=hi:=by
 have o:(a.tmod b).natAbs<=a.natAbs:=by rw[Int.natAbs_tmod];exact Nat.mod_le _ _
 rcases Int.le_total 0 a with h|h
 .have e:0<=a.tmod b:=Int.tmod_nonneg b h;omega
 have e:a.tmod b = -((-a).tmod b):=by rw[Int.neg_tmod];omega
 have e3:0<=(-a).tmod b:=Int.tmod_nonneg b aa;omega
def Xoc(a:Int)(n:Nat)(lo hi:Int)(l:lo<=a)(o:a<=hi)(r:lo<=0)(t:0<=hi):lo<=a.fdiv (2 ^ n)/\a.fdiv (2 ^ n)<=hi:=by
 have hp:(0:Int)<2 ^ n:=Int.pow_pos aa;rw[Int.fdiv_eq_ediv_of_nonneg _ (Int.le_of_lt hp)];have u:=Int.emod_nonneg a (show(2 ^ n:Int)≠0 by omega);have h:=Int.emod_lt_of_pos a hp;have j:=Int.mul_ediv_add_emod a (2 ^ n);generalize a / 2 ^ n=q at *;generalize (2:Int) ^ n=p at *;constructor
 .rcases Int.le_total 0 q with e|e
  .omega
  rcases Int.lt_or_le q 0 with f|f
  .have g:p*(q+1)<=1*(q+1):=Int.mul_le_mul_of_nonpos_right (show 1<=p by omega) aa;rw[Int.mul_add]at g;omega
  omega
 rcases Int.le_total q 0 with e|e
 .omega
 have g:1*q<=p*q:=UF (show 1<=p by omega) e;omega
def Xod{op:BinOp}{k:IntKind}{a b:Int}{c:Prop}{r:Value}(h:VM op k a b=some (c,r))(e:c)(T:TypeId)(f:wfV (.int k a)):(binOp op T (.int k a) (.int k b)).run P w=.ok r w/\wfV r:=by
 cases op<;>simp only[VM,Wq,Wy,reduceCtorEq]at h<;>obtain⟨rfl,rfl⟩:=h
 .exact⟨by simp[binOp,Op.intArith],Kn _ _⟩
 .exact⟨by simp[binOp,Op.intArith],Kn _ _⟩
 .exact⟨by simp[binOp,Op.intArith],Kn _ _⟩
 .exact⟨by simp[binOp,Op.intDiv,e],Kn _ _⟩
 .refine⟨by simp[binOp,Op.intDiv,e],?_⟩;exact Xob a b _ _ f.1 f.2 (XiX k) (XiY k)
 .exact⟨by simp[binOp,Op.intBits],Kn _ _⟩
 .exact⟨by simp[binOp,Op.intBits],Kn _ _⟩
 .exact⟨by simp[binOp,Op.intBits],Kn _ _⟩
 .exact⟨by simp[binOp,Op.intBits],Kn _ _⟩
 .exact⟨by simp[binOp,Op.intCmp],trivial⟩
 .exact⟨by simp[binOp,Op.intCmp],trivial⟩
 .exact⟨by simp[binOp,Op.intCmp],trivial⟩
 .exact⟨by simp[binOp,Op.intCmp],trivial⟩
 .exact⟨by simp[binOp,Op.intCmp],trivial⟩
 exact⟨by simp[binOp,Op.intCmp],trivial⟩
def kTy:Option IntKind->TypeDesc
 |some k=>.int k
 |none=>.bool
def Xey{M:Mem}{β:Loc}{k:Option IntKind}{x y:D}{b:Bool}(h:Xfm k x y=some b){vx g:Value}(l:Rep P M β x vx)(o:Rep P M β y g)(t:TypeId)(ht:P.underlying t=some (kTy k))(d:Nat)(w:World):
 (Op.equalIn (d+1) t vx g).run P w=.ok b w:=by
 unfold Xfm at h;split at h
 .rename_i p j a k e;split at h
  .rename_i f;subst f;obtain rfl:(a==e)=b:=by simpa using h
   rw[l.1,o.1];exact run_equalIn_int w d t j p a e ht
  cases h
 .rename_i a e;obtain rfl:(a==e)=b:=by simpa using h
  rw[l.1,o.1];exact run_equalIn_bool' w d t a e ht
 simp_all
def Xdb{M:Mem}{β:Loc}:∀(u:List Field) (n d:Nat) (ks:List (Option IntKind)) (g h:List D) (b:Bool) (vx p:List Value) (w:World),Ke P n u=some ks->Yl ks g h=some b ->
 (∀(i:Nat) (d:D),g[i]? = some d->∃v,vx[n+i]? = some v/\Rep P M β d v)->(∀(i:Nat) (d:D),h[i]? = some d->∃v,p[n+i]? = some v/\Rep P M β d v) ->
 (Op.eqFields (d+1) ⟨vx⟩ ⟨p⟩ u).run P w=.ok b w
 |[],n,d,ks,g,h,b,vx,p,w,j,q,_,_=>by
  have rfl:[]=ks:=by simp_all[Ke]
  match g,h with
  |[],[]=>simp_all[Yl,Op.eqFields]
  |x::g,_=>simp_all[Yl]
  |[],y::h=>simp_all[Yl]
 |f::u,n,d,ks,g,h,b,vx,p,w,j,q,H,I=>by
  unfold Ke at j;split at j
  .rename_i J;simp at J;have⟨l,r⟩:=J;have key:∃k e,ks=k::e/\Ke P (n+1) u=some e/\P.underlying f.type=some (kTy k):=by
    split at j
    .rename_i k A;simp at j;obtain⟨e,B,rfl⟩:=j;exact⟨some k,e,rfl,B,A⟩
    .rename_i A;simp at j;obtain⟨e,B,rfl⟩:=j;exact⟨none,e,rfl,B,A⟩
    cases j
   obtain⟨k,e,rfl,t,z⟩:=key;match g,h with
   |[],_=>simp[Yl]at q
   |x::g,[]=>simp[Yl]at q
   |x::g,y::h=>
    simp only[Yl]at q;split at q
    .rename_i a K L hb;obtain rfl:(a&&K)=b:=by simpa using q
     have⟨v1,O,Q⟩:=H 0 x ab;have⟨v2,R,S⟩:=I 0 y ab;have o:(isAgg f.type).run P w=.ok false w:=by unfold isAgg;cases k<;>simp[run_underlying z,kTy]
     have T:(part f.type ⟨vx⟩ f.offset).run P w=.ok v1 w:=by
      have:vx[f.offset]? = some v1:=by rw[l];simpa using O
      simp[part,o,this]
     have V:(part f.type ⟨p⟩ f.offset).run P w=.ok v2 w:=by
      have:p[f.offset]? = some v2:=by rw[l];simpa using R
      simp[part,o,this]
     have W:=Xey L Q S f.type z d w
     have Y:=Xdb u (n+1) d e g h K vx p w t hb
      (λi d hd=>by
       obtain⟨v,E,G⟩:=H (i+1) d (by exact hd)
       exact⟨v,by rw[←E];congr 1;omega,G⟩)
      (λi d hd=>by
       have⟨v,E,G⟩:=I (i+1) d (by simpa using hd)
       exact⟨v,by rw[←E];congr 1;omega,G⟩)
     simp only[Op.eqFields,r,ne_eq,not_false_eq_true,if_true,Sem.run_bind,T,V,W,Result.andThen_ok];cases a
     .simp
     simp[Y]
    cases q
  simp_all
def Xgj{M:Mem}{β:Loc}{k:Option IntKind}{e:TypeId}(l:P.underlying e=some (kTy k)){vx o:List Value}{w:World}(d:Nat):∀(m s:Nat) (f g:List D) (b:Bool),
 Yl (List.replicate m k) f g=some b->(∀i d,f[i]? = some d->∃v,vx[s+i]? = some v/\Rep P M β d v)->(∀i d,g[i]? = some d->∃v,o[s+i]? = some v/\Rep P M β d v) ->
 (Op.eqItems (d+1) e 1 ⟨vx⟩ ⟨o⟩ (List.range' s m)).run P w=.ok b w
 |0,s,f,g,b,h,_,_=>by
  match f,g with
  |[],[]=>simp_all[Yl,Op.eqItems]
  |x::f,_=>simp_all[Yl]
  |[],y::g=>simp_all[Yl]
 |m+1,s,f,g,b,h,r,t=>by
  rw[List.replicate_succ]at h;match f,g with
  |[],_=>simp_all[Yl]
  |x::f,[]=>simp_all[Yl]
  |x::f,y::g=>
   simp only[Yl]at h;split at h
   .rename_i a u z hb;obtain rfl:(a&&u)=b:=by simpa using h
    have⟨v1,A,B⟩:=r 0 x ab;have⟨v2,E,G⟩:=t 0 y ab;have j:(isAgg e).run P w=.ok false w:=by unfold isAgg;cases k<;>simp[run_underlying l,kTy]
    have H:(part e ⟨vx⟩ (s*1)).run P w=.ok v1 w:=by
     have:vx[s]? = some v1:=by simpa using A
     simp[part,j,this]
    have I:(part e ⟨o⟩ (s*1)).run P w=.ok v2 w:=by
     have:o[s]? = some v2:=by simpa using E
     simp[part,j,this]
    have J:=Xey z B G e l d w;have K:=Xgj l d (w:=w) m (s+1) f g u hb (λi d hd=>by
     obtain⟨v,p,q⟩:=r (i+1) d (by exact hd)
     exact⟨v,by rw[←p];congr 1;omega,q⟩)
     (λi d hd=>by
      obtain⟨v,p,q⟩:=t (i+1) d (by exact hd)
      exact⟨v,by rw[←p];congr 1;omega,q⟩)
    simp only[List.range'_succ,Op.eqItems,Sem.run_bind,H,I,J,Result.andThen_ok];cases a
    .simp
    exact K
   simp_all
def XcB{M:Mem}{β:Loc}{k:Option IntKind}{e t:TypeId}{n:Nat}{i:TypeInfo}(ht:P.underlying t=some (.array n e))(f:P.underlying e=some (kTy k))(o:P.info? e=some i)(p:P.cellsOf e=1){vx l:List Value}{w:World}(d:Nat){g j:List D}{b:Bool}(h:Yl (List.replicate n k) g j=some b)(q:∀(i:Nat) (d:D),g[i]? = some d->∃v,vx[i]? = some v/\Rep P M β d v)(r:∀(i:Nat) (d:D),j[i]? = some d->∃v,l[i]? = some v/\Rep P M β d v):
 (Op.equalIn (d+2) t (.agg ⟨vx⟩) (.agg ⟨l⟩)).run P w=.ok b w:=by rw[run_equalIn_array w (d+1) _ _ ht o,p,List.range_eq_range'];exact Xgj f d (w:=w) n 0 g j b h (by simpa using q) (by simp_all)
def Xoe(I:Ij P C s U M β w){op:BinOp}{T:TypeId}{x y:D}{c:Prop}{d:D}(h:Zb P op T x y=some (c,d))(L:c){vx B:Value}(o:Rep P M β x vx)(p:Rep P M β y B)(t u:Operand):
 VOK P C s [] U ver M β ((do eqGuard op T t u vx B;binOp op T vx B:Sem Value).run P w) d:=by
 unfold Zb at h;split at h
 .rename_i k a O b;obtain⟨rfl,A⟩:=o;obtain⟨rfl,Q⟩:=p;have j:(eqGuard op T t u (.int k a) (.int O b)).run P w=.ok () w:=by unfold eqGuard;cases op<;>simp
  split at h
  .obtain⟨rfl,rfl⟩:=h;refine .same I (v:=.int k (k.wrap (a*2 ^ min b.toNat k.bits))) ?_ (ZS _ _ (Kn _ _));have:¬b<0:=aa;simp[j,binOp,Op.shift,this]
  .obtain⟨rfl,rfl⟩:=h;have:¬b<0:=aa;refine .same I (v:=.int k (a.fdiv (2 ^ min b.toNat k.bits))) ?_ (ZS _ _ ?_)
   .simp[j,binOp,Op.shift,this]
   exact Xoc a _ _ _ A.1 A.2 (XiX k) (XiY k)
  split at h
  .rename_i E;subst E;simp only[Uv]at h;obtain⟨⟨Z,r⟩,hb,J⟩:=h;simp only[Wy]at J;obtain⟨rfl,rfl⟩:=J;obtain⟨R,S⟩:=Xod (P:=P) (w:=w) hb L T A;exact .same I (v:=r) (by simp[j,R]) (by simp[Rep,S])
  cases h
 .rename_i a b;simp only[Rep]at o p;obtain⟨rfl,A⟩:=o;obtain⟨rfl,Q⟩:=p;have j:(eqGuard op T t u (.bool a) (.bool b)).run P w=.ok () w:=by unfold eqGuard;cases op<;>simp
  split at h
  .rename_i z1 z2 z3 V;have q:=run_equalIn_bool' w 9999 T a b (Xlk V);split at h
   .simp only[Wq,Wy]at h;obtain⟨rfl,rfl⟩:=h;refine .same I (v:=.bool (a==b)) ?_ (ZK _);simp[j,binOp,Op.equal,Op.maxDepth,q]
   .simp only[Wq,Wy]at h;obtain⟨rfl,rfl⟩:=h;refine .same I (v:=.bool (!(a==b))) ?_ (ZK _);simp[j,binOp,Op.equal,Op.maxDepth,q]
   cases h
  cases h
 .rename_i G H;split at h
  .rename_i K f;simp only[Rep]at o p;obtain⟨vxs,rfl,o⟩:=o;obtain⟨vys,rfl,p⟩:=p;unfold YM at f;split at f
   .rename_i fs l;split at f
    .cases f
    rename_i g;simp only[Il,not_or,In]at g;have j:(eqGuard op T t u (.agg ⟨vxs⟩) (.agg ⟨vys⟩)).run P w=.ok () w:=run_eqGuard_agg w op T t u _ _ g.2;have z:P.fieldsOf T=fs:=by simp[Program.fieldsOf,l]
    have q:∀b,Yl K G H=some b->(Op.equalIn 10000 T (.agg ⟨vxs⟩) (.agg ⟨vys⟩)).run P w=.ok b w:=by intro b hb;rw[run_equalIn_struct w 9999 T ⟨vxs⟩ ⟨vys⟩ (by rw[z];exact l) g.1,z];exact Xdb fs.toList 0 9998 K G H b vxs vys w f hb (λi d hd=>by simpa using o.get i d hd) (λi d hd=>by simpa using p.get i d hd)
    split at h
    .rename_i b hb;simp only[Wq,Wy]at h;obtain⟨rfl,rfl⟩:=h;refine .same I (v:=.bool b) ?_ (ZK _);simp[j,run_eql_struct,q b hb]
    .rename_i b hb;simp only[Wq,Wy]at h;obtain⟨rfl,rfl⟩:=h;refine .same I (v:=.bool (!b)) ?_ (ZK _);simp[j,run_neq_struct,q b hb]
    cases h
   .rename_i n e l;split at f
    .cases f
    rename_i g;simp only[In]at g;split at f
    .rename_i k i E W;split at f
     .rename_i Y;obtain rfl:=WT f;have j:(eqGuard op T t u (.agg ⟨vxs⟩) (.agg ⟨vys⟩)).run P w=.ok () w:=run_eqGuard_agg w op T t u _ _ g;have q:∀b,Yl (List.replicate n (some k)) G H=some b->(Op.equalIn 10000 T (.agg ⟨vxs⟩) (.agg ⟨vys⟩)).run P w=.ok b w:=λb hb=>
       XcB (k:=some k) l E W Y 9998 hb (λi d hd=>by simpa using o.get i d hd) (λi d hd=>by simpa using p.get i d hd)
      split at h
      .rename_i b hb;simp only[Wq,Wy]at h;obtain⟨rfl,rfl⟩:=h;refine .same I (v:=.bool b) ?_ (ZK _);simp[j,run_eql_struct,q b hb]
      .rename_i b hb;simp only[Wq,Wy]at h;obtain⟨rfl,rfl⟩:=h;refine .same I (v:=.bool (!b)) ?_ (ZK _);simp[j,run_neq_struct,q b hb]
      cases h
     cases f
    cases f
   cases f
  cases h
 simp_all
end
variable {P:Program}
def Xfp(off:Nat):∀(e:List Value) (k:Nat) (cells:Array Value),off+k+e.length<=cells.size ->
 (((e.zipIdx k).foldl (λ(f:Array Value) (p:Value×Nat)=>f.setIfInBounds (off+p.2) p.1) cells).toList=cells.toList.take (off+k)++e++cells.toList.drop (off+k+e.length))
 |[],k,cells,_=>by simp
 |v::e,k,cells,h=>by simp at h;rw[List.zipIdx_cons,List.foldl_cons,Xfp off e (k+1) _ ah];have:=list_seg_step cells.toList (off+k) v e (by exact h);grind
def Xem(e:List D)(c:Nat)(f:List D)(h:c+f.length<=e.length):(KC e c f).length=e.length:=by grind[KC]
def XhU(e:List D)(c:Nat)(f:List D)(h:c+f.length<=e.length)(i:Nat):(KC e c f)[i]? = if i<c then e[i]? else if i<c+f.length then f[i-c]? else e[i]?:=by unfold KC;grind
def Vp{α:Type}(e:List α)(c:Nat)(f:List α)(h:c+f.length<=e.length)(i:Nat):(e.take c++f++e.drop (c+f.length))[i]? = if i<c then e[i]? else if i<c+f.length then f[i-c]? else e[i]?:=by grind
def RepL.take{M:Mem}{β:Loc}{f:List D}{g:List Value}(h:RepL P M β f g)(n:Nat):RepL P M β (f.take n) (g.take n):=by
 have:=h.length;refine RepL.of ah λi d x hd e=>?_;rw[Ua]at hd e;split at hd
 .rename_i l;rw[Wj l]at e;have⟨y,j,o⟩:=h.get i d hd;rw[e]at j;obtain rfl:x=y:=by simpa using j
  exact o
 simp_all
def RepL.drop{M:Mem}{β:Loc}{e:List D}{f:List Value}(h:RepL P M β e f)(n:Nat):RepL P M β (e.drop n) (f.drop n):=by have:=h.length;refine RepL.of ah λi d x hd g=>?_;rw[UC]at hd g;have⟨y,j,l⟩:=h.get _ d hd;simp_all
def Xdc{M:Mem}{β:Loc}(place place':Nat->Option (Nat×Nat))(hp:∀i x,place i=some x->place' i=some x):∀(parts:List (Nat×D)) (vparts:List (Nat×Value)) (f:List D) (vs:Array Value) (r:List D),
 Xc3 place f parts=some r->RepL P M β f vs.toList->parts.map (·.1)=vparts.map (·.1)->RepL P M β (parts.map (·.2)) (vparts.map (·.2)) ->
 ∃g,Instr.fill place' vs vparts=some g/\RepL P M β r g.toList
 |[],vparts,f,vs,r,h,j,l,_=>by simp_all[Xc3,Instr.fill]
 |(i,d)::parts,vparts,f,vs,r,h,j,l,A=>by
  match vparts,l with
  |(Q,v)::vparts,l=>
   simp at l;have⟨rfl,l⟩:=l;have⟨x,xs,e,hd,A⟩:=A;have⟨rfl,rfl⟩:v=x/\vparts.map (·.2)=xs:=by simpa using e
   unfold Xc3 at h;split at h
   .rename_i off sz I B o;split at h
    .rename_i E;have⟨q,K⟩:=E;have⟨t,J⟩:=Ji o hd;have u:=j.length;have y:v.cells.size=sz:=by rw[Xa0 o hd,q]
     have G:=Xfp off v.cells.toList 0 vs (by simp at u⊢;omega);have z:RepL P M β (KC f off I) ((v.cells.zipIdx.foldl (λ(f:Array Value) (p:Value×Nat)=>f.setIfInBounds (off+p.2) p.1) vs).toList):=by
      have L:v.cells.zipIdx.foldl (λ(f:Array Value) (p:Value×Nat)=>f.setIfInBounds (off+p.2) p.1) vs=(v.cells.toList.zipIdx 0).foldl (λ(f:Array Value) (p:Value×Nat)=>f.setIfInBounds (off+p.2) p.1) vs:=by rw[←Array.foldl_toList,Array.toList_zipIdx]
      rw[L,G];unfold KC;have O:off+0+v.cells.toList.length=off+I.length:=by simp[y,q]
      rw[O];exact((j.take off).append t).append (j.drop _)
     have⟨g,k1,k2⟩:=Xdc place place' hp parts vparts _ _ r h z l A;refine⟨g,?_,k2⟩;simp only[Instr.fill,hp _ _ B];have H:¬(v.cells.size≠sz||off+v.cells.size>vs.size)=true:=by simp at u⊢;omega
     rw[Wg H];exact k1
    cases h
   simp_all
def Xgk{z:Nat}{f:List (List D)}(h:∀e∈f,e.length=z)(i:Nat)(g:List D)(t:i<f.length)(u:g.length=z)(k:Nat):
 (f.set i g).flatten[k]? = if i*z<=k/\k<(i+1)*z then g[k-i*z]? else f.flatten[k]?:=by
 have l:∀e∈f.set i g,e.length=z:=by
  intro e o;rcases W7 o with o|rfl
  .simp_all
  omega
 rcases Ux z with j|j
 .simp_all[Xc8,l,h]
 rw[Zf l,Zf h];have x:=Nat.div_add_mod' k z;by_cases p:k / z=i
 .grind
 rw[Wg]
 .grind
 rintro⟨q,r⟩;apply p;exact Nat.le_antisymm (Nat.le_of_lt_succ ((IK j).2 r)) ((Nat.le_div_iff_mul_le j).2 q)
def YE{e src:List (List D)}(k:Nat):(e++src).flatten[k]? = if k<e.flatten.length then e.flatten[k]? else src.flatten[k-e.flatten.length]?:=by grind
def Xgl{M:Mem}{β:Loc}(z:Nat):∀(parts:List (Nat×D)) (vparts:List (Nat×Value)) (o:List (List D)) (vs:Array Value) (r:List (List D)),
 Xc4 z o parts=some r->(∀e∈o,e.length=z)->RepL P M β o.flatten vs.toList->parts.map (·.1)=vparts.map (·.1)->RepL P M β (parts.map (·.2)) (vparts.map (·.2))->(∀x∈vs,x.oneCell'=true) ->
 ∃j,Instr.fill (λi=>some (i*z,z)) vs vparts=some j/\RepL P M β r.flatten j.toList/\r.length=o.length/\(∀e∈r,e.length=z)/\(∀x∈j,x.oneCell'=true)
 |[],vparts,o,vs,r,h,S,u,A,_,T=>by simp_all[Xc4,Instr.fill]
 |(i,d)::parts,vparts,o,vs,r,h,S,u,A,V,T=>by
  match vparts,A with
  |(i',v)::vparts,A=>
   simp at A;have⟨rfl,A⟩:=A;have⟨x,xs,e,hd,V⟩:=V;have⟨rfl,rfl⟩:v=x/\vparts.map (·.2)=xs:=by simpa using e
   unfold Xc4 at h;split at h
   .rename_i W E;split at h
    .rename_i Y;have⟨B,G⟩:=Y;have⟨H,I⟩:=Ji E hd;have l:=u.length;rw[XW S]at l;have J:v.cells.size=z:=by rw[Xa0 E hd,B]
     have K:(i+1)*z<=o.length*z:=Ui _ G;have hle':i*z+z<=o.length*z:=by rw[I6]at K;exact K
     have L:=Xfp (i*z) v.cells.toList 0 vs (by simp at l⊢;omega);have e1:v.cells.zipIdx.foldl (λ(q:Array Value) (p:Value×Nat)=>q.setIfInBounds (i*z+p.2) p.1) vs=(v.cells.toList.zipIdx 0).foldl (λ(q:Array Value) (p:Value×Nat)=>q.setIfInBounds (i*z+p.2) p.1) vs:=by rw[←Array.foldl_toList,Array.toList_zipIdx]
     have O:∀e∈o.set i W,e.length=z:=by
      intro e Z;rcases W7 Z with Z|rfl
      .exact S e Z
      exact B
     have Q:RepL P M β (o.set i W).flatten ((v.cells.zipIdx.foldl (λ(q:Array Value) (p:Value×Nat)=>q.setIfInBounds (i*z+p.2) p.1) vs).toList):=by
      rw[e1,L];refine RepL.of ?_ λk dk xk t g=>?_
      .rw[XW O];simp at l⊢;omega
      rw[Xgk S i W G B]at t;rw[Oc,Vp _ _ _ (by simp at l⊢;omega)]at g;simp only[Is,J]at g;split at t
      .rename_i hk;rw[I6]at hk;rw[Wg aa,Wj aa]at g;obtain⟨y,R,hr⟩:=H.get _ dk t;rw[g]at R;obtain rfl:xk=y:=by simpa using R
       exact hr
      rename_i hk;rw[I6]at hk;obtain⟨y,R,hr⟩:=u.get _ dk t;have:vs.toList[k]? = some xk:=by
       split at g
       .exact g
       split at g
       .omega
       exact g
      rw[this]at R;obtain rfl:xk=y:=by simpa using R
      exact hr
     have ho':∀x∈(v.cells.zipIdx.foldl (λ(q:Array Value) (p:Value×Nat)=>q.setIfInBounds (i*z+p.2) p.1) vs),x.oneCell'=true:=by
      intro x hx;rw[e1]at hx;have f:x∈((v.cells.toList.zipIdx 0).foldl (λ(q:Array Value) (p:Value×Nat)=>q.setIfInBounds (i*z+p.2) p.1) vs).toList:=by simpa using hx
      rw[L]at f;simp only[Ws]at f;rcases f with(f|f)|f
      .exact T x (by simpa using Uc f)
      .exact I x (by simpa using f)
      exact T x (by simpa using Ud f)
     have⟨j,k1,k2,k3,k4,k5⟩:=Xgl z parts vparts _ _ r h O Q A V ho';refine⟨j,?_,k2,by simpa using k3,k4,k5⟩;simp only[Instr.fill];have hne:¬(v.cells.size≠z||i*z+v.cells.size>vs.size)=true:=by simp at l⊢;omega
     rw[Wg hne];exact k1
    cases h
   simp_all
variable {P:Program}
section
variable {C:Cx}{s:Heap}{U:Nat->Prop}{ver:Nat}{M:Mem}{β:Loc}{w:World}
def Xj1(s:Heap)(id v:Nat)(o:Ob):app s [(id,v,o)]=upd s id (some (v,o)):=rfl
def Xfq(I:Ij P C s U M β w)(r:¬U ver)(bx:Bool)(id E z:Nat)(f:List (List D))(l:Nat)(g:Array Value)(T:TypeId)(w1:World)(o:w1.heap=w.heap/\w1.os=w.os/\w1.tape=w.tape/\w1.output=w.output)(p:g.size=l*z)(t:∀e∈f,e.length=z)(q:f.length<=l)(u:f.length<=Xw)(hb:f.length*P.bytesOf E<=Xw)(h:∀x∈g,x.oneCell'=true)(j:RepL P M (Xfk bx β) f.flatten (g.toList.take f.flatten.length)):
 ∃β',Ij P C (app s [(id,ver,.arr bx E z f 0)]) (λx=>U x\/x=ver) M β' (w1.alloc (.cells g T))/\β' id ver=some (some (w.heap.size,l))/\BLe β β':=by
 have:=I.alloc o r bx id E z f l g T p t q u hb h (λi d hd=>by
  have⟨x,y,A⟩:=j.get i d hd
  grind)
 exact⟨_,this.1,XP ..,this.2⟩
def Xll(I:Ij P C s U M β w)(l:¬U ver){T:TypeId}{ty:OL}(o:Xt P T=some ty){x:Value}{g:List D}(e:RepL P M β g x.cells.toList)(f:∀y∈x.cells,y.oneCell'=true)(h:g.length=ty.size)(j:ty.bytes<=Xw)(id:Nat):
 VOK P C s [(id,ver,.arr true T ty.size [g] 0)] U ver M β ((do pure (Value.pointer (some (←newVar T x))):Sem Value).run P w) (.ept id ver ty.size 0 0):=by
 have p:=e.length;have⟨β',I',hβ,q⟩:=Xfq I l true id T ty.size [g] 1 x.cells T w ⟨rfl,rfl,rfl,rfl⟩ (by simp at p;omega) (by simpa using h) ab (by simp[Xw]) (by rw[Vm o];simpa using j) f (by
  simp only[List.flatten_cons,List.flatten_nil,Ia]
  rw[Ur aa];exact e)
 refine⟨M,β',_,.pointer (some ⟨w.heap.size,0,none⟩),?_,I',?_,MLe.refl _,q⟩
 .simp[newVar,newRow]
 simp_all[Rep]
def Zz{ty:OL}{e:List D}(h:JU ty=some e):RepL P M β e ty.zero.cells.toList/\∀y∈ty.zero.cells,y.oneCell'=true:=
 Ji h (Vo _)
def Xof(I:Ij P C s U M β w){T:TypeId}{ty:OL}(q:Xt P T=some ty){d:D}{y:Value}{c:Prop}{g:List D}{o z:Nat}(h:Xfl s d=some (c,g,o,z))(r:c)(f:o+ty.size<=z)(j:ty.isAgg=true\/ty.size=1)(t:Rep P M β d y):VOK P C s [] U ver M β ((Instr.loadAt T y).run P w) (Js ty.isAgg ((g.drop o).take ty.size)):=by obtain⟨b,u,rfl,x,e⟩:=XiW I h r t;obtain⟨v,A,l⟩:=Xda q w M β b u o z g x f e (λp=>by rcases j with h|h;(rw[h]at p;cases p);exact h);refine .same I (v:=v) ?_ l;assumption
def Xgm(I:Ij P C s U M β w){T:TypeId}{ty:OL}(hT:Xt P T=some ty){id v z i c:Nat}{bx:Bool}{E fz:Nat}{l:List (List D)}(hs:s id=some (v,.arr bx E z l fz)){y x:Value}{dx:D}{A:List D}(hp:Rep P M β (.ept id v z i c) y)(hd:dx.cells=some A)(hx:Rep P M (Xfk bx β) dx x)(hi:i<l.length)(R:fz<=i)(hl:A.length=ty.size)(hfit:c+ty.size<=z):
 OpOK P C s [(id,v,.arr bx E z (l.set i (KC (l.getD i []) c A)) fz)] U ver M β ((do Instr.storeAt T y x;pure Next.skip:Sem Next).run P w) (.v undef):=by
 obtain⟨b,cb,hb,rfl⟩:=hp;have⟨x0,B,ho⟩:=I.obs id v _ hs;rw[hb]at B;obtain rfl:some (b,cb)=x0:=by simpa using B
 have⟨L,T0,k1,k2,O,k4,k5,k6,k7,k8,k9,G⟩:=ho;have⟨H,q⟩:=Ji hd hx;have f:x.cells.size=ty.size:=by rw[Xa0 hd hx,hl]
 have he:(l.getD i []).length=z:=by rw[We,Wb hi];exact O _ (Wt _)
 have S:(i+1)*z<=cb*z:=Ui _ aa;rw[I6]at S;have V:=run_storeCells_at P b (i*z+c) T0 x.cells.toList 0 L w k1 (by simp[f];omega) (by simpa using q);have r:(KC (l.getD i []) c A).length=z:=by rw[Xem _ _ _ aa];exact he
 have I':=I.write hs hb k1 (cs':=(L.toList.take (i*z+c)++x.cells.toList++L.toList.drop (i*z+c+x.cells.toList.length)).toArray) (es':=l.set i (KC (l.getD i []) c A))
  (by simp[f];omega) ab
  (λe W=>by
   rcases W7 W with W|rfl
   .exact O e W
   .exact r)
  (λy t=>by
   simp only[List.mem_toArray,Ws]at t
   rcases t with(t|t)|t
   .exact k8 y (by simpa using Uc t)
   .exact q y (by simpa using t)
   .exact k8 y (by simpa using Ud t))
  (λo ho=>by
   have Y:o<i*z+c:=by
    have:fz*z<=i*z:=Ui _ R
    omega
   simp
   rw[WU ah,Ua,Wj Y]
   simp)
  (λk d p=>by
   rw[Xgk O i _ hi r]at p
   simp only[Iw]
   rw[Vp _ _ _ (by simp[f];omega)]
   simp only[Is,f]
   split at p
   .rename_i Z
    rw[I6]at Z
    rw[XhU _ _ _ aa]at p
    have u:∀d,(l.getD i [])[k-i*z]? = some d->∃x,L.toList[k]? = some x/\Rep P M (Xfk bx β) d x:=by
     intro d hd'
     obtain⟨x,g,j⟩:=G (i*z+(k-i*z)) d (by rw[JV O _ _ aa];exact hd')
     have:i*z+(k-i*z)=k:=aa
     rw[this]at g
     exact⟨x,by simpa using g,j⟩
    split at p
    .rw[Wj aa];exact u d p
    .split at p
     .rw[Wg aa,Wj aa]
      have⟨Q,g,j⟩:=H.get _ d p
      refine⟨Q,?_,j⟩
      rw[←g];congr 1;omega
     .rw[Wg aa,Wg aa];exact u d p
   .rename_i J
    rw[I6]at J
    have⟨Q,g,j⟩:=G k d p
    by_cases K:k<i*z+c
    .rw[Wj K];exact⟨Q,by simpa using g,j⟩
    .rw[Wg K,Wg aa];exact⟨Q,by simpa using g,j⟩)
 refine⟨M,β,_,undef,.inr ⟨?_,rfl⟩,(by rw[Xj1];exact I'.mono λ_ h=>Or.inl h),by simp[Rep,undef,wfV],MLe.refl _,BLe.refl _⟩;simp[f,Instr.storeAt,Instr.sureAddr,storeVar,YP,hT,V]
end
variable {P:Program}
def Xcm{p:Nat->Value->Prop}:∀(n:Nat),(∀k,k<n->∃x,p k x)->∃l:List Value,l.length=n/\∀(k:Nat) (x:Value),l[k]? = some x->p k x
 |0,_=>⟨[],rfl,ab⟩
 |n+1,h=>by have⟨l,e,f⟩:=Xcm n (λk g=>h k aa);have⟨x,j⟩:=h n aa;refine⟨l++[x],by simp[e],λk y o=>?_⟩;grind
section
variable {C:Cx}{s:Heap}{U:Nat->Prop}{ver:Nat}{M:Mem}{β:Loc}{w:World}
def Xgn(I:Ij P C s U M β w){z:Nat}{d:D}{c:Prop}{src:List (List D)}(h:elems s z d=some (c,src))(hc:c){y:Value}(t:Rep P M β d y):
 ∃base cap vals,y=.slice base src.length cap/\(∀e∈src,e.length=z)/\vals.length=src.length*z/\(base=none->src.length=0) /\
  (∀a,base=some a->∀(j:Nat) (v:Value),vals[j]? = some v->w.cell? (a.add j)=some v)/\RepL P M YH src.flatten vals/\∀v∈vals,v.oneCell'=true:=by
 unfold elems at h;split at h
 .have⟨rfl,rfl⟩:True=c/\[]=src:=by simpa using h
  obtain⟨a,rfl⟩:=t;refine⟨a,0,[],rfl,ab,ab,ab,λL u=>ab,by simp[RepL],ab⟩
 .rename_i a cap;have⟨rfl,rfl⟩:True=c/\[]=src:=by simpa using h
  obtain⟨rfl,_⟩:=t;refine⟨a,cap,[],rfl,ab,ab,ab,λL u=>ab,by simp[RepL],ab⟩
 .rename_i E z' g;split at h
  .rename_i hz;subst hz;have⟨rfl,rfl⟩:True=c/\g=src:=by simpa using h
   obtain⟨H,h2,h3,a,cap,rfl,_,t⟩:=t;rcases t with rfl|⟨b,o,rfl,t⟩
   .refine⟨a,cap,[],rfl,ab,ab,ab,λL u=>ab,by simp[RepL],ab⟩
   .obtain⟨vals,l1,O⟩:=Xcm (p:=λk x=>M b (o+k)=some x/\∀d,g.flatten[k]? = some d->Rep P M YH d x) (g.length*z) (λk hk=>by
     have q:0<z:=by
      rcases Ux z with A|A
      .subst A;simp at hk
      .exact A
     have K:k / z<g.length:=(IK q).2 hk
     have hm:=Nat.mod_lt k q
     have Q:=t.get H (k / z) g[k / z] (by simp[K])
     have f:(g[k / z]).length=z:=H _ (Wt _)
     have⟨x,R,S⟩:=Q.get (k % z) (g[k / z][k % z]'aa) ab
     refine⟨x,?_,λd hd=>?_⟩
     .rw[←R];have:=Nat.div_add_mod' k z;congr 1;omega
     .rw[Zf H,We,Wb K]at hd
      simp at hd
      rw[Wb aa]at hd
      obtain rfl:=by simpa using hd
      exact S)
    refine⟨some ⟨b,o,none⟩,cap,vals,rfl,H,l1,ab,λa u=>?_,?_,?_⟩
    .obtain rfl:=by simpa using u
     intro j v l
     rw[If]
     exact(I.mem b _ v (O j v l).1).1
    .refine RepL.of (by rw[l1,XW H]) λi d x hd B=>?_
     exact(O i x B).2 d hd
    .intro v l
     obtain⟨i,T,rfl⟩:=Wv l
     exact(I.mem b _ _ (O i _ ab).1).2
  cases h
 .rename_i id v z' off len;split at h
  .rename_i v' E z'' g fz hs;split at h
   .rename_i l;have⟨rfl,rfl,rfl⟩:=l;have⟨rfl,rfl⟩:(off+len<=g.length)=c/\(g.drop off).take len=src:=by simpa using h
    have f:((g.drop off).take len).length=len:=by simp;omega
    rcases t with⟨hn,rfl,rfl,a,rfl⟩|⟨b,cb,o,cap,hb,rfl,hcap,hcb,ho⟩
    .refine⟨a,0,[],ab,ab,ab,ab,λL u=>ab,by simp[RepL],ab⟩
    have⟨x0,J,V⟩:=I.obs id v _ hs;rw[hb]at J;obtain rfl:some (b,cb)=x0:=by simpa using J
    have⟨vs,T0,k1,k2,k3,k4,k5,k6,k7,k8,k9,W⟩:=V;have Y:(off+len)*z<=cb*z:=Ui _ aa;rw[UN]at Y;have r:∀e∈(g.drop off).take len,e.length=z:=λe Q=>k3 e (Ud (Uc Q));refine⟨some ⟨b,o,none⟩,cap,(vs.toList.drop (off*z)).take (len*z),by rw[f],r,by rw[f];simp;omega,ab,λa u=>?_,?_,λv l=>k8 v (by simpa using Ud (Uc l))⟩
    .obtain rfl:=by simpa using u
     intro j v l;rw[VS]at l;split at l
     .rename_i hj;have G:cap≠0:=by rintro rfl;have:len=0:=aa;subst this;simp at hj
      have Z:o=off*z:=by rcases ho with h|h;exact h;exact absurd h G
      subst Z;rw[If,cell_of_row w b _ vs T0 (0,0) k1];simpa using l
     cases l
    refine RepL.of (by rw[XW r,f];simp;omega) λi d x hd B=>?_;rw[VS]at B;split at B
    .rename_i T;have q:0<z:=by
      rcases Ux z with A|A
      .subst A;simp at T
      exact A
     have hdiv:=Nat.div_add_mod' i z;have hm:=Nat.mod_lt i q;have K:i / z<len:=(IK q).2 T;rw[Zf r,We,VS,Wj K]at hd;have⟨y,hy,hry⟩:=W (off*z+i) d (by
      have:off*z+i=(off+i / z)*z+i % z:=by rw[UN];omega
      rw[this,JV k3 _ _ hm,We];exact hd)
     rw[Ix,hy]at B;obtain rfl:y=x:=by simpa using B
     exact hry
    cases B
   cases h
  cases h
 simp_all
section
variable {T T2 E E2:TypeId}{te:OL}{o':TypeId}{sLen sCap:Nat}
def Xlm(l:P.underlying T=some (.slice E))(h:P.underlying T2=some (.slice E2))(p:Xt P E=some te){xb:Option Addr}{m xc:Nat}{news:List Value}{b o:Nat}{cur:Array Value}{T0:TypeId}(e:sLen+m<=sCap)(f:(Builtin.firstCells te.size m (.slice xb m xc)).run P w=.ok news.toArray w)(q:w.heap[b]? = some (.cells cur T0 (0,0)))(g:o+sLen*te.size+news.length<=cur.size)(r:∀u∈news,u.oneCell'=true):
 (Builtin.append_ #[T,T2] o' #[.slice (some ⟨b,o,none⟩) sLen sCap,.slice xb m xc]).run P w =
  .ok (.slice (some ⟨b,o,none⟩) (sLen+m) sCap) (w.setRow b (cur.toList.take (o+sLen*te.size)++news++cur.toList.drop (o+sLen*te.size+news.length)).toArray):=by have j:=run_storeCells_at P b (o+sLen*te.size) T0 news 0 cur w q (by exact g) r;simp[Oc,Builtin.append_,run_underlying,l,h,YP,p,Builtin.lenOf,e,f,If,j]
def Xln(h:P.underlying T=some (.slice E))(g:P.underlying T2=some (.slice E2))(j:Xt P E=some te){xb:Option Addr}{m xc:Nat}{news:List Value}(a:Option Addr)(e:sLen+m<=sCap)(f:(Builtin.firstCells te.size m (.slice xb m xc)).run P w=.ok news.toArray w)(l:news=[]):
 (Builtin.append_ #[T,T2] o' #[.slice a sLen sCap,.slice xb m xc]).run P w=.ok (.slice a (sLen+m) sCap) w:=by subst l;cases a<;>simp[Builtin.append_,run_underlying h,run_underlying g,YP j,Builtin.lenOf,e,f,storeCells]
def Xlo(q:P.underlying T=some (.slice E))(j:P.underlying T2=some (.slice E2))(r:Xt P E=some te){base xb:Option Addr}{m xc:Nat}{olds news:List Value}(l:sCap<sLen+m)(e:(Builtin.firstCells te.size sLen (.slice base sLen sCap)).run P w.drew=.ok olds.toArray w.drew)(f:(Builtin.firstCells te.size m (.slice xb m xc)).run P w.drew=.ok news.toArray w.drew)(hb:(sLen+m)*te.bytes<=Xw)(t:sLen+m<=Xw):
 (Builtin.append_ #[T,T2] o' #[.slice base sLen sCap,.slice xb m xc]).run P w =
  .ok (.slice (some ⟨w.heap.size,0,none⟩) (sLen+m) (grownCap w (sLen+m) sCap E)) (w.drew.alloc (.cells (olds.toArray++news.toArray++Builtin.zeroCells te.zero.cells (grownCap w (sLen+m) sCap E-(sLen+m))) E)):=by
 have u:¬(sLen+m<=sCap):=aa;have g:¬(9223372036854775807<((sLen:Int)+(m:Int))):=by simp only[Xw]at t;omega
 have⟨i,d,x,z,y,o,p,_⟩:=Yj r;have h:¬(281474976710656<Builtin.nextslicecap (sLen+m) sCap*i.bytes):=by have:=growslice_fits (bytes:=te.bytes) l (by exact hb);rw[p];omega
 simp[Builtin.append_,run_underlying q,run_underlying j,Builtin.lenOf,u,g,sizeOf,typeInfo,x,o,h,Question.forced,e,f,zeroValue,y,newRow,grownCap];grind
def Xog(z:P.underlying T=some (.slice E)){k G:IntKind}(l:P.underlying T2=some (.int k))(H:Xt P E=some te){n:Int}(I:0<=n)(q:n<=Xw)(r:n.toNat*te.bytes<=Xw){b o:Nat}{cur:Array Value}{T0:TypeId}{news:List Value}(e:news=(if n.toNat*te.size=0 then[]else(Builtin.zeroCells te.zero.cells n.toNat).toList))(f:sLen+n.toNat<=sCap)(A:w.heap[b]? = some (.cells cur T0 (0,0)))(B:o+sLen*te.size+news.length<=cur.size)(J:∀u∈news,u.oneCell'=true):
 (Builtin.append_ #[T,T2] o' #[.slice (some ⟨b,o,none⟩) sLen sCap,.int G n]).run P w =
  .ok (.slice (some ⟨b,o,none⟩) (sLen+n.toNat) sCap) (w.setRow b (cur.toList.take (o+sLen*te.size)++news++cur.toList.drop (o+sLen*te.size+news.length)).toArray):=by
 have t:=run_storeCells_at P b (o+sLen*te.size) T0 news 0 cur w A aa J;have hw:IntKind.i64.wrap n=n:=by rw[IntKind.wrap_i64];simp only[Xw]at q;omega
 have h:¬n<0:=aa;have⟨i,d,D,L,K,p,x,_⟩:=Yj H;have j:¬(281474976710656<n*(i.bytes:Int)):=by
  have:((n.toNat*te.bytes:Nat):Int)=n*te.bytes:=by rw[Int.natCast_mul,Int.toNat_of_nonneg I]
  rw[x,←this];simp only[Xw]at r;omega
 by_cases g:n.toNat*te.size=0
 .rw[Wj g]at e;subst e;simp[Builtin.append_,run_underlying z,run_underlying l,sizeOf,typeInfo,D,p,asInt,asIntOf,hw,h,j,f,g,storeCells,setRow_self w b cur T0 (0,0) A]
 rw[Wg g]at e;have y:(Builtin.zeroCells te.zero.cells n.toNat).toList=news:=e.symm;simp[Builtin.append_,run_underlying z,run_underlying l,sizeOf,typeInfo,D,p,asInt,asIntOf,hw,h,j,f,g,zeroValue,K,If,y,t]
def Xoh(A:P.underlying T=some (.slice E)){k H:IntKind}(p:P.underlying T2=some (.int k))(I:Xt P E=some te){n:Int}(J:0<=n)(u:n<=Xw)(x:n.toNat*te.bytes<=Xw){base:Option Addr}{olds news:List Value}(e:news=(if n.toNat*te.size=0 then[]else(Builtin.zeroCells te.zero.cells n.toNat).toList))(y:sCap<sLen+n.toNat)(g:(Builtin.firstCells te.size sLen (.slice base sLen sCap)).run P w.drew=.ok olds.toArray w.drew)(hb:(sLen+n.toNat)*te.bytes<=Xw)(K:sLen+n.toNat<=Xw):
 (Builtin.append_ #[T,T2] o' #[.slice base sLen sCap,.int H n]).run P w =
  .ok (.slice (some ⟨w.heap.size,0,none⟩) (sLen+n.toNat) (grownCap w (sLen+n.toNat) sCap E)) (w.drew.alloc (.cells (olds.toArray++news.toArray++Builtin.zeroCells te.zero.cells (grownCap w (sLen+n.toNat) sCap E-(sLen+n.toNat))) E)):=by
 have B:¬(sLen+n.toNat<=sCap):=aa;have hw:IntKind.i64.wrap n=n:=by rw[IntKind.wrap_i64];simp only[Xw]at u;omega
 have h:¬n<0:=aa;have f:¬(9223372036854775807<((sLen:Int)+max n 0)):=by simp only[Xw]at K;omega
 have⟨i,d,D,L,G,q,r,_⟩:=Yj I;have j:¬(281474976710656<n*(i.bytes:Int)):=by
  have:((n.toNat*te.bytes:Nat):Int)=n*te.bytes:=by rw[Int.natCast_mul,Int.toNat_of_nonneg J]
  rw[r,←this];simp only[Xw]at x;omega
 have l:¬(281474976710656<Builtin.nextslicecap (sLen+n.toNat) sCap*i.bytes):=by have:=growslice_fits (bytes:=te.bytes) y ag;rw[r];omega
 by_cases o:n.toNat*te.size=0
 .subst e;simp[Builtin.append_,run_underlying A,run_underlying p,sizeOf,typeInfo,D,q,asInt,asIntOf,hw,h,j,B,f,l,Question.forced,g,o,zeroValue,G,newRow,grownCap]
 rw[Wg o]at e;have z:(Builtin.zeroCells te.zero.cells n.toNat).toList=news:=e.symm;have t:Builtin.zeroCells te.zero.cells n.toNat=news.toArray:=by rw[←z]
 simp[Builtin.append_,run_underlying A,run_underlying p,sizeOf,typeInfo,D,q,asInt,asIntOf,hw,h,j,B,f,l,Question.forced,g,o,zeroValue,G,newRow,grownCap,t];grind
end
end
variable {P:Program}
section
variable {C:Cx}{s:Heap}{U:Nat->Prop}{ver:Nat}{M:Mem}{β:Loc}{w:World}
def Yq(z:Array Value)(n:Nat):(Builtin.zeroCells z n).size=n*z.size:=by simp[Builtin.zeroCells]
def ZA{z:Array Value}(h:∀y∈z,y.oneCell'=true)(n:Nat):∀y∈Builtin.zeroCells z n,y.oneCell'=true:=by
 intro y f;simp only[Builtin.zeroCells,Array.mem_map,Array.mem_range]at f;obtain⟨i,g,rfl⟩:=f;have j:0<z.size:=by
  rcases Ux z.size with e|e
  .rw[e]at g;simp at g
  exact e
 have l:=Nat.mod_lt i j;simp_all
structure OW(P:Program)(w:World)(E:Nat)(te:OL)(n:Nat)(vals:List Value)(run:Value->Result Value):Prop where
 room:∀b o sLen sCap cur T0,sLen+n<=sCap->w.heap[b]? = some (.cells cur T0 (0,0))->o+sLen*te.size+vals.length<=cur.size ->
  run (.slice (some ⟨b,o,none⟩) sLen sCap)=.ok (.slice (some ⟨b,o,none⟩) (sLen+n) sCap) (w.setRow b (cur.toList.take (o+sLen*te.size)++vals++cur.toList.drop (o+sLen*te.size+vals.length)).toArray)
 none:∀a sLen sCap,sLen+n<=sCap->vals=[]->run (.slice a sLen sCap)=.ok (.slice a (sLen+n) sCap) w
 grow:∀base sLen sCap(olds:List Value),sCap<sLen+n->(Builtin.firstCells te.size sLen (.slice base sLen sCap)).run P w.drew=.ok olds.toArray w.drew->(sLen+n)*te.bytes<=Xw->sLen+n<=Xw ->
  run (.slice base sLen sCap)=.ok (.slice (some ⟨w.heap.size,0,.none⟩) (sLen+n) (grownCap w (sLen+n) sCap E)) (w.drew.alloc (.cells (olds.toArray++vals.toArray++Builtin.zeroCells te.zero.cells (grownCap w (sLen+n) sCap E-(sLen+n))) E))
def Xdd(size:Nat)(a:Option Addr)(sCap:Nat)(w:World):(Builtin.firstCells size 0 (.slice a 0 sCap)).run P w=.ok #[] w:=by cases a<;>simp[Builtin.firstCells,loadCells,loadCellsFrom]
def XiZ(I:Ij P C s U M β w)(t:¬U ver){E z:Nat}{te:OL}{q:List D}(l:JU te=some q)(u:q.length=z){src:List (List D)}{vals:List Value}(g:∀e∈src,e.length=z)(f:RepL P M YH src.flatten vals)(r:∀v∈vals,v.oneCell'=true){E':Nat}(hb:src.length*P.bytesOf E'<=Xw)(y:src.length<=Xw)(id cap:Nat)(h:src.length<=cap):
 ∃β',Ij P C (app s [(id,ver,.arr false E' z src 0)]) (λx=>U x\/x=ver) M β' (w.drew.alloc (.cells (([]:List Value).toArray++vals.toArray++Builtin.zeroCells te.zero.cells (cap-src.length)) E)) /\
  β' id ver=some (some (w.heap.size,cap))/\BLe β β':=by
 have⟨A,B⟩:=Zz (P:=P) (M:=M) (β:=β) l;have o:te.zero.cells.size=z:=by have:=A.length;simp at this;omega
 have p:vals.length=src.length*z:=by rw[f.length,XW g]
 refine Xfq I t false id E' z src cap _ E w.drew ⟨rfl,rfl,rfl,rfl⟩ ?_ g h y hb ?_ ?_
 .simp only[List.append_toArray,Um,Array.size_append,List.size_toArray,Yq,o,p,←UN];simp_all
 .intro x j;simp at j;rcases j with j|j
  .simp_all
  exact ZA B _ x j
 have:(([]:List Value).toArray++vals.toArray++Builtin.zeroCells te.zero.cells (cap-src.length)).toList.take src.flatten.length=vals:=by have G:src.flatten.length=vals.length:=f.length.symm;simp[G]
 rw[this];exact f
def Xi0(I:Ij P C s U M β w)(hv:¬U ver){E z:Nat}{te:OL}(hE:Xt P E=some te)(hz:te.size=z){zc:List D}(hzc:JU te=some zc)(hzl:zc.length=z){src:List (List D)}{vals:List Value}(Z:∀e∈src,e.length=z)(r:RepL P M YH src.flatten vals)(O:∀v∈vals,v.oneCell'=true){run:Value->Result Value}(R:OW P w E te src.length vals run){sid:Nat}{c0 c:Prop}{d d':D}{u:Up}(h:Xek P s sid ver E z te.bytes c0 src d=some (c,d',u))(hc:c){y:Value}(G:Rep P M β d y):
 VOK P C s u U ver M β (run y) d':=by
 have H:vals.length=src.length*z:=by rw[r.length,XW Z]
 have⟨z1,z2⟩:=Zz (P:=P) (M:=M) (β:=β) hzc;have hzs:te.zero.cells.size=z:=by have:=z1.length;simp at this;omega
 unfold Xek at h;split at h
 ·
  obtain⟨rfl,rfl,rfl⟩:=h;have⟨_,hl,hb⟩:=hc;obtain⟨a,rfl⟩:=G;rcases Ux src.length with h0|h0
  .have hsrc:src=[]:=WZ h0;subst hsrc;have q:vals=[]:=WZ (by simpa using H);refine⟨M,ZJ β sid ver none,w,_,R.none a 0 0 ab q,I.setNil sid ver E z (Zn (I.fresh hv sid)) (XP ..) Zy,?_,MLe.refl _,Zn (I.fresh hv sid)⟩;exact .inl ⟨XP ..,ab⟩
  have hg:=R.grow a 0 0 [] aa (Xdd _ _ _ _) (by simpa using hb) (by simpa using hl);simp only[Ue]at hg;have t:=grownCap_ge w src.length 0 E;have⟨β',I',hβ,hB⟩:=XiZ (E:=E) I hv hzc hzl Z r O (E':=E) (by rw[Vm hE];exact hb) hl sid _ t;refine⟨M,β',_,_,hg,I',?_,MLe.refl _,hB⟩;exact .inr ⟨_,_,0,_,hβ,rfl,t,ab,.inl ab⟩
 .rename_i id v z' off len;split at h
  .rename_i v' E' z'' g fz hs;split at h
   .rename_i hcond;have⟨rfl,rfl,rfl,hbE⟩:=hcond;have⟨x0,Q,hob⟩:=I.obs id v _ hs;split at h
    ·
     rename_i W;obtain⟨rfl,rfl,rfl⟩:=h;obtain⟨_,rfl,hl,hb⟩:=hc;simp only[Ue]at W;subst W;simp only[Rep]at G;have hid:=I.fresh hv id;rcases G with⟨hn,_,hlen,a,rfl⟩|⟨b,cb,o,cap,S,rfl,t,hcb,ho⟩
     .have hes:g=[]:=WZ hlen;subst hes;rw[hn]at Q;obtain rfl:none=x0:=by simpa using Q
      simp only[ObRep]at hob;obtain⟨_,_,rfl⟩:=hob;simp only[Ib,Ue,Um]at hl hb⊢;rcases Ux src.length with h0|h0
      .have hsrc:src=[]:=WZ h0;subst hsrc;have q:vals=[]:=WZ (by simpa using H);refine⟨M,ZJ β id ver none,w,_,R.none a 0 0 ab q,I.setNil id ver E' z (Zn hid) (XP ..) Zy,?_,MLe.refl _,Zn hid⟩;simp only[Rep];exact .inl ⟨XP ..,ab⟩
      have hg:=R.grow a 0 0 [] aa (Xdd _ _ _ _) (by simpa using hb) (by simpa using hl);simp only[Ue]at hg;have t:=grownCap_ge w src.length 0 E;obtain⟨β',I',hβ,hB⟩:=XiZ (E:=E) I hv hzc hzl Z r O (E':=E') (by rw[hbE];exact hb) hl id _ t;refine⟨M,β',_,_,hg,I',?_,MLe.refl _,hB⟩;simp only[Rep];exact .inr ⟨_,_,0,_,hβ,rfl,t,ab,.inl ab⟩
     rw[S]at Q;obtain rfl:some (b,cb)=x0:=by simpa using Q
     obtain⟨K,T0,k1,k2,k3,k4,k5,k6,k7,k8,k9,k10⟩:=hob;have hcb':cap=cb:=aa;subst hcb';have hz':∀e∈g++src,e.length=z:=λe B=>by
      rcases Ws.1 B with B|B
      .exact k3 e B
      exact Z e B
     have hfl:g.flatten.length=g.length*z:=XW k3;have hBl:BLe β (ZJ β id ver (some (b,cap))):=Zn hid;have put:∀(cs':Array Value) (w':World),w'.heap[b]? = some (.cells cs' T0 (0,0))->cs'.size=K.size->g.length+src.length<=cap->(∀x∈cs',x.oneCell'=true)->(∀o,o<fz*z->cs'[o]? = K[o]?) ->
      (∀(i:Nat) (d:D),(g++src).flatten[i]? = some d->∃x,cs'[i]? = some x/\Rep P M YH d x)->(∀k,k≠b->w'.heap[k]? = w.heap[k]?)->w'.os=w.os->w'.tape=w.tape->w'.output=w.output->w.heap.size<=w'.heap.size ->
      Ij P C (upd s id (some (ver,.arr false E' z (g++src) fz))) (λx=>U x\/x=ver) M (ZJ β id ver (some (b,cap))) w':=by
      intro cs' w' h1 h2 h3 h4 h5 h6 h7 h8 h9 h10 h11
      refine I.set id ver _ b cap (MLe.refl M) hBl h7 (λ_ _ _=>rfl) ?_ (XP ..) ?_ ?_ (I.own id v (.arr false E' z g fz) b cap hs S:_\/(_/\false=true)) (λ_ _=>rfl) h8 h9 h10 h11 Zy
      .intro o x f
       have ho:=k9 o
       rw[f]at ho
       split at ho
       .rename_i hlt
        rw[cell_of_row w' b o cs' T0 (0,0) h1,h5 o hlt]
        exact⟨ho.symm,(I.mem b o x f).2⟩
       .cases ho
      .refine⟨cs',T0,h1,by rw[h2];exact k2,hz',by simpa using h3,by simpa using hl,by rw[hbE];simpa using hb,ah,h4,λo=>?_,λi d hd=>?_⟩
       .rw[k9 o]
        split
        .rename_i hlt;exact(h5 o hlt).symm
        .rfl
       .obtain⟨x,f,G⟩:=h6 i d hd
        exact⟨x,f,G⟩
      .intro id' v' ob' cb' hne hs' p
       exact hne (I.inj id' v' ob' id v _ b cb' cap hs' hs p S)
     by_cases l:g.length+src.length<=cap
     .by_cases q:vals=[]
      .refine⟨M,ZJ β id ver (some (b,cap)),w,_,R.none _ g.length cap l q,?_,?_,MLe.refl _,hBl⟩
       .refine put K w k1 rfl l k8 (λ_ _=>rfl) (λi d hd=>?_) (λ_ _=>rfl) rfl rfl rfl (Uu _);rw[YE]at hd;split at hd
        .exact k10 i d hd
        have:src.flatten=[]:=WZ (by rw[XW Z,←H,q];rfl);rw[this]at hd;simp at hd
       simp only[Rep];exact .inr ⟨b,cap,o,cap,XP ..,rfl,l,ab,ho⟩
      have A:cap≠0:=by rintro rfl;have:src.length=0:=aa;exact q (WZ (by rw[H,this];simp))
      have ho':o=0:=by rcases ho with h|h;simpa using h;exact absurd h A
      subst ho';have hmul:(g.length+src.length)*z<=cap*z:=Ui _ l;rw[UN]at hmul;have J:=R.room b 0 g.length cap K T0 l k1 (by rw[hz,H];omega);rw[hz]at J;simp only[Ue]at J;refine⟨M,ZJ β id ver (some (b,cap)),_,_,J,?_,?_,MLe.refl _,hBl⟩
      .refine put _ _ (setRow_heap w b K _ T0 (0,0) k1) (by simp[H];omega) l ?_ ?_ ?_ (λk hk=>setRow_other w b k _ hk) rfl rfl rfl ab
       .intro x f;simp only[List.mem_toArray,Ws]at f;rcases f with(f|f)|f
        .exact k8 x (by simpa using Uc f)
        .exact O x f
        exact k8 x (by simpa using Ud f)
       .intro i L;have:fz*z<=g.length*z:=Ui _ k7;simp only[Iw];rw[Vp _ _ _ ah,Wj aa];simp
       intro i d hd;rw[YE,hfl]at hd;simp only[Iw];rw[Vp _ _ _ ah];split at hd
       .rename_i L;rw[Wj L];obtain⟨x,f,G⟩:=k10 i d hd;exact⟨x,by simpa using f,G⟩
       rename_i L;rw[Wg L];obtain⟨x,f,G⟩:=r.get _ d hd;have hlt:i-g.length*z<vals.length:=by
        rcases UM (i-g.length*z) vals.length with h|h
        .exact h
        rw[W3 h]at f;cases f
       rw[Wj aa];exact⟨x,f,G⟩
      simp only[Rep];exact .inr ⟨b,cap,0,cap,XP ..,rfl,l,ab,.inl ab⟩
     
     have hlt:cap<g.length+src.length:=aa;have holds:(Builtin.firstCells te.size g.length (.slice (some ⟨b,o,none⟩) g.length cap)).run P w.drew=.ok ((K.toList.take (g.length*z)).toArray) w.drew:=by
      refine run_firstCells_some (P:=P) w.drew te.size g.length ⟨b,o,none⟩ g.length cap (K.toList.take (g.length*z)) ?_ ?_
      .have:g.length*z<=cap*z:=Ui _ k4;simp[hz];omega
      intro j x f;rw[Ua]at f;split at f
      .rename_i hj;have A:cap≠0:=by rintro rfl;have:g.length=0:=aa;rw[this]at hj;simp at hj
       have ho':o=0:=by rcases ho with h|h;simpa using h;exact absurd h A
       subst ho';rw[If];show w.cell? ⟨b,0+j,none⟩=some x;rw[Ue,cell_of_row w b j K T0 (0,0) k1];simpa using f
      cases f
     have hg:=R.grow (some ⟨b,o,none⟩) g.length cap (K.toList.take (g.length*z)) hlt holds hb hl;have V:=grownCap_ge w (g.length+src.length) cap E;generalize hN:grownCap w (g.length+src.length) cap E=N at hg V;generalize hrow:((K.toList.take (g.length*z)).toArray++vals.toArray++Builtin.zeroCells te.zero.cells (N-(g.length+src.length)))=row at hg;have hescs:g.length*z<=K.size:=by rw[k2];exact Ui _ k4
     have hrowsize:row.size=N*z:=by rw[←hrow];simp only[Array.size_append,List.size_toArray,Wx,Is,Yq,hzs,H];have:min (g.length*z) K.size=g.length*z:=aa;rw[this,←UN,←UN];congr 1;omega
     have hrowlist:row.toList=K.toList.take (g.length*z)++(vals++(Builtin.zeroCells te.zero.cells (N-(g.length+src.length))).toList):=by rw[←hrow];simp
     have hrowget1:∀i,i<g.length*z->row[i]? = K[i]?:=by intro i L;rw[←Ix,hrowlist,WU ah,Ua,Wj L];simp
     have hrowget2:∀i,i<vals.length->row[g.length*z+i]? = vals[i]?:=by
      intro i L;have h1:(K.toList.take (g.length*z)).length=g.length*z:=by simp;omega
      rw[←Ix,hrowlist,Ug aa,h1,Nat.add_sub_cancel_left,WU L]
     have hrowone:∀x∈row,x.oneCell'=true:=by
      intro x f;have p:x∈row.toList:=by simpa using f
      rw[hrowlist]at p;simp only[Ws]at p;rcases p with p|p|p
      .exact k8 x (by simpa using Uc p)
      .exact O x p
      exact ZA z2 _ x (by simpa using p)
     have hMnew:∀i,M w.heap.size i=none:=by
      intro i;cases f:M w.heap.size i with
      |none=>rfl
      |some x=>exact absurd (I.mem.lt f) (IU _)
     have hblt:b<w.heap.size:=by
      rcases UM b w.heap.size with h'|h'
      .exact h'
      simp[Array.getElem?_eq_none h']at k1
     let M':Mem:=λk i=>if k=w.heap.size then(if i<fz*z then row[i]? else none)else M k i
     have Y:MLe M M':=by
      intro k i x f;show(if k=w.heap.size then _ else M k i)=some x;rw[Wg]
      .exact f
      rintro rfl;rw[hMnew]at f;cases f
     have hBl':BLe β (ZJ β id ver (some (w.heap.size,N))):=Zn hid;have hheap:∀k,k≠w.heap.size->(w.drew.alloc (.cells row E)).heap[k]? = w.heap[k]?:=by intro k hk;show(w.heap.push _)[k]? = _;rw[Array.getElem?_push,Wg hk]
     have hnew:(w.drew.alloc (.cells row E)).heap[w.heap.size]? = some (.cells row E (0,0)):=by show(w.heap.push _)[w.heap.size]? = _;simp
     refine⟨M',ZJ β id ver (some (w.heap.size,N)),_,_,hg,?_,?_,Y,hBl'⟩
     .refine I.set id ver _ w.heap.size N Y hBl' hheap (λk hk i=>Wg hk) ?_ (XP ..) ?_ ?_ (.inl I.keep.size) ?_ rfl rfl rfl (by show w.heap.size<=(w.heap.push _).size;simp) Zy
      .intro i x f;have p:(if i<fz*z then row[i]? else none)=some x:=by have:=f;simp only[M',if_true]at this;exact this
       split at p
       .rename_i L;rw[cell_of_row _ _ i row E (0,0) hnew];refine⟨p,hrowone x ?_⟩;exact Array.mem_of_getElem? p
       cases p
      .refine⟨row,E,hnew,hrowsize,hz',by simpa using V,by simpa using hl,by rw[hbE];simpa using hb,ah,hrowone,λi=>?_,λi d hd=>?_⟩
       .simp only[M',if_true]
       rw[YE,hfl]at hd;split at hd
       .rename_i L;obtain⟨x,f,G⟩:=k10 i d hd;exact⟨x,by rw[hrowget1 i L];exact f,G.mono Y (BLe.refl _)⟩
       rename_i L;obtain⟨x,f,G⟩:=r.get _ d hd;have hlt2:i-g.length*z<vals.length:=by
        rcases UM (i-g.length*z) vals.length with h|h
        .exact h
        rw[W3 h]at f;cases f
       have:=hrowget2 _ hlt2;have hi2:g.length*z+(i-g.length*z)=i:=aa;rw[hi2]at this;exact⟨x,by rw[this];exact f,G.mono Y (BLe.refl _)⟩
      .intro id' v' ob' cb' _ hs' p;obtain⟨yy,hy,hob'⟩:=I.obs id' v' ob' hs';rw[p]at hy;obtain rfl:some (w.heap.size,cb')=yy:=by simpa using hy
       exact absurd hob'.lt (IU _)
      intro hlt';exact absurd I.keep.size aa
     simp only[Rep];exact .inr ⟨w.heap.size,N,0,N,XP ..,rfl,V,ab,.inl ab⟩
    
    rename_i W;simp only[Wq,Wy]at h;obtain⟨rfl,rfl,rfl⟩:=h;obtain⟨_,hfit,hfz⟩:=hc;simp only[Rep]at G;rcases G with⟨hn,rfl,rfl,a,rfl⟩|⟨b,cb,o,cap,S,rfl,t,hcb,ho⟩
    .rw[hn]at Q;obtain rfl:none=x0:=by simpa using Q
     simp only[ObRep]at hob;exact absurd (by rw[hob.2.1];rfl) W
    rw[S]at Q;obtain rfl:some (b,cb)=x0:=by simpa using Q
    obtain⟨K,T0,k1,k2,k3,k4,k5,k6,k7,k8,k9,k10⟩:=hob;have A:cap≠0:=by rintro rfl;omega
    have ho':o=off*z:=by rcases ho with h|h;exact h;exact absurd h A
    subst ho';have l:len+src.length<=cap:=aa;have hmul:(off+len+src.length)*z<=cb*z:=Ui _ aa;rw[UN,UN]at hmul;have J:=R.room b (off*z) len cap K T0 l k1 (by rw[hz,H];omega);rw[hz]at J;have hpre:∀e∈g.take (off+len)++src++g.drop (off+len+src.length),e.length=z:=by
     intro e B;simp only[Ws]at B;rcases B with(B|B)|B
     .exact k3 e (Uc B)
     .exact Z e B
     exact k3 e (Ud B)
    have I':=I.write hs S k1 (cs':=(K.toList.take (off*z+len*z)++vals++K.toList.drop (off*z+len*z+vals.length)).toArray) (es':=g.take (off+len)++src++g.drop (off+len+src.length))
     (by simp[H];omega) ah hpre
     (λx f=>by
      simp only[List.mem_toArray,Ws]at f
      rcases f with(f|f)|f
      .exact k8 x (by simpa using Uc f)
      .exact O x f
      .exact k8 x (by simpa using Ud f))
     (λi L=>by
      have h1:fz*z<=(off+len)*z:=Ui _ hfz
      rw[UN]at h1
      simp only[Iw]
      rw[Vp _ _ _ ah,Wj aa]
      simp)
     (λi d hd=>by
      simp only[Iw]
      rw[Vp _ _ _ ah]
      have htl:(g.take (off+len)).length=off+len:=by simp;omega
      have ht:(g.take (off+len)).flatten.length=off*z+len*z:=by
       rw[XW (λe B=>k3 e (Uc B)),htl,UN]
      have hsrcl:src.flatten.length=vals.length:=r.length.symm
      rw[W0,YE,ht,YE,hsrcl]at hd
      split at hd
      .rename_i L
       rw[Wj L]
       have hd':g.flatten[i]? = some d:=by
        have hzp:0<z:=by
         rcases Ux z with h0|h0
         .subst h0;simp at L
         .exact h0
        rw[Zf (λe B=>k3 e (Uc B))]at hd
        rw[Zf k3]
        have hq:i / z<off+len:=(IK hzp).2 (by rw[UN];exact L)
        rw[We,Ua,Wj hq]at hd
        rw[We];exact hd
       obtain⟨x,f,G⟩:=k10 i d hd'
       exact⟨x,by simpa using f,G⟩
      .rename_i L
       rw[Wg L]
       split at hd
       .rename_i hi2
        rw[Wj aa]
        obtain⟨x,f,G⟩:=r.get _ d hd
        exact⟨x,f,G⟩
       .rename_i hi2
        rw[Wg aa]
        have hd':g.flatten[i]? = some d:=by
         rcases Ux z with h0|hzp
         .subst h0
          rw[Xc8 _ (λe B=>k3 e (Ud B))]at hd
          cases hd
         .rw[Zf (λe B=>k3 e (Ud B))]at hd
          rw[Zf k3]
          have hN:i-(off*z+len*z)-vals.length=i-z*(off+len+src.length):=by rw[H,Nat.mul_comm z,UN,UN];omega
          have hge:(off+len+src.length)*z<=i:=by rw[UN,UN];omega
          rw[hN,Nat.sub_mul_div,Nat.sub_mul_mod (by rw[Nat.mul_comm];exact hge)]at hd
          rw[We,UC]at hd
          have hq:off+len+src.length<=i / z:=(Nat.le_div_iff_mul_le hzp).2 hge
          have:off+len+src.length+(i / z-(off+len+src.length))=i / z:=aa
          rw[this]at hd
          rw[We];exact hd
        obtain⟨x,f,G⟩:=k10 i d hd'
        exact⟨x,by simpa using f,G⟩)
    refine⟨M,β,_,_,J,(by rw[Xj1];exact I'.mono λ_ h=>Or.inl h),?_,MLe.refl _,BLe.refl _⟩;simp only[Rep];exact .inr ⟨b,cb,off*z,cap,S,rfl,l,hcb,.inl rfl⟩
   cases h
  cases h
 simp_all
def Ij.seg(I:Ij P C s U M β w){id v E' z fz b G p:Nat}{f src:List (List D)}{h:Array Value}{T0:TypeId}{vals:List Value}(Y:s id=some (v,.arr false E' z f fz))(K:β id v=some (some (b,G)))(k1:w.heap[b]? = some (.cells h T0 (0,0)))(k2:h.size=G*z)(r:∀e∈f,e.length=z)(k4:f.length<=G)(k8:∀x∈h,x.oneCell'=true)(t:∀(i:Nat) (d:D),f.flatten[i]? = some d->∃x,h[i]? = some x/\Rep P M YH d x)(Z:∀e∈src,e.length=z)(L:vals.length=src.length*z)(j:RepL P M YH src.flatten vals)(S:∀x∈vals,x.oneCell'=true)(V:p+src.length<=f.length)(O:fz<=p):
 Ij P C (upd s id (some (v,.arr false E' z (f.take p++src++f.drop (p+src.length)) fz))) U M β (w.setRow b (h.toList.take (p*z)++vals++h.toList.drop (p*z+vals.length)).toArray):=by
 have u:(p+src.length)*z<=G*z:=Ui _ aa;rw[UN]at u;have y:∀e∈f.take (p)++src++f.drop (p+src.length),e.length=z:=by
  intro e g;simp only[Ws]at g;rcases g with(g|g)|g
  .grind
  .simp_all
  grind
 exact I.write Y K k1 (cs':=(h.toList.take (p*z)++vals++h.toList.drop (p*z+vals.length)).toArray) (es':=f.take (p)++src++f.drop (p+src.length))
  (by grind) (by grind) y
  (λx H=>by
   grind)
  (λi J=>by
   have h1:fz*z<=(p)*z:=Ui _ O
   grind)
  (λi d hd=>by
   simp only[Iw]
   rw[Vp _ _ _ (by simp_all)]
   have Q:(f.take (p)).length=p:=by simp;omega
   have ht:(f.take (p)).flatten.length=p*z:=by
    rw[XW (λe g=>r e (Uc g)),Q]
   have l:src.flatten.length=vals.length:=j.length.symm
   rw[W0,YE,ht,YE,l]at hd
   split at hd
   .rename_i J
    have o:f.flatten[i]? = some d:=by
     have q:0<z:=by
      rcases Ux z with R|R
      .simp_all
      .omega
     rw[Zf (λe g=>r e (Uc g))]at hd
     rw[Zf r]
     have W:i / z<p:=(IK q).2 J
     rw[We,Ua,Wj W]at hd
     rw[We];exact hd
    have⟨x,H,A⟩:=t i d o
    exact⟨x,by simp_all,A⟩
   .rename_i J
    rw[Wg J]
    split at hd
    .rw[Wj aa]
     have⟨x,H,A⟩:=j.get _ d hd
     exact⟨x,H,A⟩
    .rw[Wg aa]
     have o:f.flatten[i]? = some d:=by
      rcases Ux z with R|q
      .subst R
       rw[Xc8 _ (λe g=>r e (Ud g))]at hd
       grind
      .rw[Zf (λe g=>r e (Ud g))]at hd
       rw[Zf r]
       have hN:i-(p*z)-vals.length=i-z*(p+src.length):=by rw[L,Nat.mul_comm z,UN];omega
       have B:(p+src.length)*z<=i:=by rw[UN];omega
       rw[hN,Nat.sub_mul_div,Nat.sub_mul_mod (by rw[Nat.mul_comm];exact B)]at hd
       rw[We,UC]at hd
       have W:p+src.length<=i / z:=(Nat.le_div_iff_mul_le q).2 B
       simp_all
     have⟨x,H,A⟩:=t i d o
     exact⟨x,by simp_all,A⟩)
end
variable {P:Program}
section
variable {C:Cx}{s:Heap}{U:Nat->Prop}{ver:Nat}{M:Mem}{β:Loc}{w:World}
def OpOK.val(I:Ij P C s U M β w){r:Result Next}{d:D}{v:Value}(e:r=.ok (.value v) w)(h:Rep P M β d v):OpOK P C s [] U ver M β r d:=
 ⟨M,β,w,v,.inl e,I.mono λ_ f=>.inl f,h,MLe.refl _,BLe.refl _⟩
def Xfr{T T2 E E2:TypeId}{te:OL}{o':TypeId}(h:P.underlying T=some (.slice E))(e:P.underlying T2=some (.slice E2))(l:Xt P E=some te){xb:Option Addr}{m xc:Nat}{vals:List Value}(t:vals.length=m*te.size)(B:xb=none->m=0)(D:∀a,xb=some a->∀(j:Nat) (v:Value),vals[j]? = some v->w.cell? (a.add j)=some v)(u:∀v∈vals,v.oneCell'=true):
 OW P w E te m vals (λy=>(Builtin.append_ #[T,T2] o' #[y,.slice xb m xc]).run P w):=by
 have p:∀w':World,(∀a,w'.cell? a=w.cell? a)->(Builtin.firstCells te.size m (.slice xb m xc)).run P w'=.ok vals.toArray w':=by
  intro w' hw;cases xb with
  |none=>simp_all[Builtin.firstCells]
  |some a=>exact run_firstCells_some (P:=P) w' te.size m a m xc vals t (λj v G=>by simp_all)
 exact {
  room:=λb o sLen sCap cur T0 q x f=>Xlm h e l q (p w λ_=>rfl) x f u
  none:=λa sLen sCap q z=>Xln h e l a q (p w λ_=>rfl) z
  grow:=λbase sLen sCap olds r g hb A=>Xlo h e l r g (p w.drew λ_=>rfl) hb A}
def Xgo{T T2 E:TypeId}{te:OL}{o':TypeId}{k k':IntKind}(t:P.underlying T=some (.slice E))(f:P.underlying T2=some (.int k))(u:Xt P E=some te){n:Int}(x:0<=n)(g:n<=Xw)(j:n.toNat*te.bytes<=Xw){vals:List Value}(e:vals=(if n.toNat*te.size=0 then[]else(Builtin.zeroCells te.zero.cells n.toNat).toList))(H:∀v∈vals,v.oneCell'=true)(I:te.zero.cells.size=te.size):
 OW P w E te n.toNat vals (λy=>(Builtin.append_ #[T,T2] o' #[y,.int k' n]).run P w):=by
 refine {
  room:=λb o sLen sCap cur T0 z J l=>Xog t f u x g j e z J l H
  none:=λa sLen sCap z Q=>?_
  grow:=λbase sLen sCap olds A p hb K=>Xoh t f u x g j e A p hb K}
 have hw:IntKind.i64.wrap n=n:=by rw[IntKind.wrap_i64];simp only[Xw]at g;omega
 have q:¬n<0:=aa;have⟨i,d,L,R,O,B,D,_⟩:=Yj u;have r:¬(281474976710656<n*(i.bytes:Int)):=by
  have:((n.toNat*te.bytes:Nat):Int)=n*te.bytes:=by rw[Int.natCast_mul,Int.toNat_of_nonneg x]
  rw[D,←this];simp only[Xw]at j;omega
 have G:n.toNat*te.size=0:=by
  rcases Ux (n.toNat*te.size)with h|h
  .omega
  rw[Wg aa]at e;have:(Builtin.zeroCells te.zero.cells n.toNat).toList.length=n.toNat*te.size:=by rw[Is,Yq,I]
  simp_all
 cases a<;>simp[Builtin.append_,run_underlying t,run_underlying f,sizeOf,typeInfo,L,B,asInt,asIntOf,hw,q,r,z,G,storeCells]
def Zg(n:Nat)(f:List D)(z:Nat)(g:f.length=z):∀e∈List.replicate n f,e.length=z:=by simp_all
def Xao{te:OL}{e:List D}(p:JU te=some e)(n:Nat):RepL P M β (List.replicate n e).flatten (Builtin.zeroCells te.zero.cells n).toList:=by
 have⟨q,A⟩:=Zz (P:=P) (M:=M) (β:=β) p;have l:te.zero.cells.size=e.length:=by simpa using q.length
 have f:=XW (Zg n e e.length rfl);rw[WO]at f;refine RepL.of (by rw[f,Is,Yq,l]) λi d x hd g=>?_;have o:i<n*e.length:=by
  rcases UM i (n*e.length)with h|h
  .exact h
  rw[W3 aa]at hd;cases hd
 have j:0<e.length:=by
  rcases Ux e.length with h|h
  .rw[h]at o;simp at o
  exact h
 have u:i / e.length<n:=(IK j).2 o;have r:=Nat.mod_lt i j;rw[Zf (Zg n e e.length rfl),We,UG,Wj u]at hd;have⟨y,t,B⟩:=q.get _ d hd;have z:x=y:=by rw[Ix]at g;simp only[Builtin.zeroCells,Array.getElem?_map,l,Array.getElem?_range,o,if_true]at g;simp only[Im,Wq]at g;rw[getElem!_pos _ _ (by rw[l];exact r)]at g;rw[Ix,Array.getElem?_eq_getElem (by rw[l];exact r)]at t;rw[←g];simpa using t
 simp_all
def Xoi(I:Ij P C s U M β w)(y:¬U ver){T E z a b:Nat}{A:Value}{te:OL}(B:Xt P T=some ⟨a,b,A,.slice E z⟩)(q:Xt P E=some te){h:List D}(f:JU te=some h)(g:h.length=z)(G:te.size=z){k r:IntKind}{n:Int}(t:0<=n)(u:n.toNat<=Xw)(x:n.toNat*te.bytes<=Xw)(id:Nat):
 VOK P C s [(id,ver,.arr false E z (List.replicate n.toNat h) 0)] U ver M β ((Instr.makeSlice T (.int k n) (.int r n)).run P w) (.osl id ver z 0 n.toNat):=by
 have⟨i,d,H,O,j,l,o,_⟩:=Yj q;have⟨J,K⟩:=Zz (P:=P) (M:=M) (β:=β) f;have p:te.zero.cells.size=z:=by have:=J.length;simp at this;omega
 have e:=run_make (P:=P) w T E i te.zero (X9 B).1 H j k r n n t (Uo _) (by
  have:((n.toNat*te.bytes:Nat):Int)=n*te.bytes:=by rw[Int.natCast_mul,Int.toNat_of_nonneg t]
  rw[o,Int.mul_comm,←this];simp only[Xw]at x;omega) (by simp only[Xw]at u;omega)
 have hcells:madeCells te.zero.cells (n.toNat*i.size)=Builtin.zeroCells te.zero.cells n.toNat:=by rw[l,G,←p];rfl
 rw[hcells]at e
 have⟨β',I',hβ,L⟩:=Xfq I y false id E z (List.replicate n.toNat h) n.toNat (Builtin.zeroCells te.zero.cells n.toNat) E w ⟨rfl,rfl,rfl,rfl⟩ (by rw[Yq,p]) (Zg _ _ _ g) ab (by simpa using u) (by rw[Vm q];simpa using x)
  (ZA K _) (by
   rw[Ur]
   .exact Xao f n.toNat
   .rw[XW (Zg _ _ _ g),Is,Yq,p];simp)
 refine⟨M,β',_,_,e,I',?_,MLe.refl _,L⟩;grind[Rep]
def Xen(I:Ij P C s U M β w)(J:¬U ver){T E z n a b:Nat}{K:Value}{te:OL}(B:Xt P T=some ⟨a,b,K,.slice E z⟩)(o:Xt P E=some te){r:List D}(e:JU te=some r)(t:r.length=z)(G:te.size=z)(L:n*z<=16777216)(u:n*te.bytes<=Xw)(O:n<=Xw){parts:List (Nat×D)}{vparts:Array (Nat×Value)}{p:List (List D)}(h:Xc4 z (List.replicate n r) parts=some p)(Q:parts.map (·.1)=vparts.toList.map (·.1))(R:RepL P M YH (parts.map (·.2)) (vparts.toList.map (·.2)))(id:Nat):
 VOK P C s [(id,ver,.arr false E z p 0)] U ver M β ((Instr.buildSlice T n vparts).run P w) (.osl id ver z 0 n):=by
 have⟨S,V⟩:=Zz (P:=P) (M:=M) (β:=β) e;have H:te.zero.cells.size=z:=by have:=S.length;simp at this;omega
 have⟨vs,k1,k2,q,y,W⟩:=Xgl z parts vparts.toList _ (Builtin.zeroCells te.zero.cells n) p h (Zg _ _ _ t) (Xao e n) Q R (λx Y=>ZA V n x Y);rw[WO]at q;have f:(Instr.buildSlice T n vparts).run P w=.ok (.slice (some ⟨w.heap.size,0,none⟩) n n) (w.alloc (.cells vs E)):=by
  have g:¬(16777216<n*z):=aa;by_cases A:n*z=0
  .have Z:Instr.fill (λi=>some (i*z,z)) #[] vparts.toList=some vs:=by
    have:Builtin.zeroCells te.zero.cells n=#[]:=by apply Array.eq_empty_of_size_eq_zero;rw[Yq,H];exact A
    rw[this]at k1;exact k1
   simp[Instr.buildSlice,run_underlying (X9 B).1,YP o,G,A,Z,newRow,Array.range_zero']
  have j:((Array.range (n*z)).map λi=>te.zero.cells[i % te.zero.cells.size]!)=Builtin.zeroCells te.zero.cells n:=by rw[←H];rfl
  simp only[Instr.buildSlice,Sem.run_bind,run_underlying (X9 B).1,YP o,G,g,A,newRow,Z6 o,Result.andThen_ok,Sem.run_ite,gt_iff_lt,if_false,Sem.run_pure,j,k1,Nat.reducePow,run_newObj,World.alloc_eq]
 have l:vs.size=n*z:=by have:=k2.length;rw[XW y,q]at this;simpa using this
 have⟨β',I',hβ,hB⟩:=Xfq I J false id E z p n vs E w ⟨rfl,rfl,rfl,rfl⟩ l y aa aa (by rw[Vm o,q];exact u) W (by
  rw[Ur]
  .exact k2
  .rw[XW y,q];simp[l])
 refine⟨M,β',_,_,f,I',?_,MLe.refl _,hB⟩;grind[Rep]
end
variable {P:Program}
section
variable {C:Cx}{s:Heap}{U:Nat->Prop}{ver:Nat}{M:Mem}{β:Loc}{w:World}
def Vq{d:D}{n:Int}(h:ivD d=some n){y:Value}(e:Rep P M β d y):∃k,y=.int k n/\wfV (.int k n):=by unfold ivD at h;grind[Rep]
def Xfs{t:Operand->D}{ρ:Operand->Value}(hρ:∀x,Rep P M β (t x) (ρ x))(l:List Operand):RepL P M β (l.map t) (l.map ρ):=by
 induction l with
 |nil=>rfl
 |cons x l e=>grind[UA,RepL]
def Xez{t:Operand->D}{ρ:Operand->Value}(hρ:∀x,Rep P M β (t x) (ρ x))(l:List (Nat×Operand)):
 (l.map λp=>(p.1,t p.2)).map (·.1)=(l.map λp=>(p.1,ρ p.2)).map (·.1)/\RepL P M β ((l.map λp=>(p.1,t p.2)).map (·.2)) ((l.map λp=>(p.1,ρ p.2)).map (·.2)):=by
 constructor
 .simp
 have:=Xfs hρ (l.map (·.2));simp_all[List.map_map,Function.comp_def]
def Vr{t:Operand->D}{ρ:Operand->Value}(hρ:∀x,Rep P M β (t x) (ρ x)){o:Option Operand}{r:Option Int}(h:ivO t o=some r):∃e:IntKind,(o.map ρ)=r.map (λn=>Value.int e n):=by
 cases o with
 |none=>simp[ivO]at h;subst h;simp
 |some x=>simp only[ivO,Uv]at h;obtain⟨n,f,rfl⟩:=h;have⟨k,g,_⟩:=Vq f (hρ x);simp_all
def Ko(k:IntKind)(n:Int)(y:Nat)(code:BoundsCode)(e:0<=n)(f:n<=y):(Instr.sliceBound (.int k n) y code).run P w=.ok n.toNat w:=by simp[Instr.sliceBound,asIntOf,e,f]
def KV(k1 k2:IntKind)(lo e:Option Int)(len cap:Nat)(g:0<=lo.getD 0)(h:lo.getD 0<=e.getD len)(j:e.getD len<=len)(l:len<=cap):
 (Instr.sliceBounds true len cap (lo.map (Value.int k1)) (e.map (Value.int k2)) none).run P w=.ok ((lo.getD 0).toNat,(e.getD len).toNat,cap) w:=by
 cases lo<;>cases e<;>simp only[Option.getD_none,Ie]at g h j⊢
 .rfl
 .rename_i b;have hb:=Ko (P:=P) (w:=w) k2 b cap .sliceAcap aa aa;simp[Instr.sliceBounds,hb]
 .rename_i a;have f:=Ko (P:=P) (w:=w) k1 a len .sliceB aa aa;simp[Instr.sliceBounds,f]
 rename_i a b;have hb:=Ko (P:=P) (w:=w) k2 b cap .sliceAcap aa aa;have f:=Ko (P:=P) (w:=w) k1 a b.toNat .sliceB aa aa;simp[Instr.sliceBounds,hb,f]
def JW(k1 k2:IntKind)(l h:Int)(len cap:Nat)(e:0<=l)(j:l<=h)(f:h<=cap):
 (Instr.sliceBounds true len cap (some (Value.int k1 l)) (some (Value.int k2 h)) none).run P w=.ok (l.toNat,h.toNat,cap) w:=by have hb:=Ko (P:=P) (w:=w) k2 h cap .sliceAcap aa f;have g:=Ko (P:=P) (w:=w) k1 l h.toNat .sliceB e aa;simp[Instr.sliceBounds,hb,g]
def Xbi(k1 k2 e:IntKind)(lo:Option Int)(h m:Int)(len cap:Nat)(g:0<=lo.getD 0)(j:lo.getD 0<=h)(q:h<=m)(o:m<=cap):
 ∃r,(Instr.sliceBounds true len cap (lo.map (Value.int k1)) (some (Value.int k2 h)) (some (Value.int e m))).run P w=.ok r w:=by
 have f:=Ko (P:=P) (w:=w) e m cap .slice3Acap aa o;have hb:=Ko (P:=P) (w:=w) k2 h m.toNat .slice3B aa aa;cases lo with
 |none=>exact⟨_,by simp[Instr.sliceBounds,hb,f];rfl⟩
 |some l=>have p:=Ko (P:=P) (w:=w) k1 l h.toNat .slice3C g (by simp only[Ie]at j;omega);exact⟨_,by simp[Instr.sliceBounds,hb,f,p];rfl⟩
def VJ(k1 k2 j:IntKind)(lo e mx:Option Int)(cap len:Nat)(h:mx=none\/e≠none)(u:lo.getD 0=0)(o:e.getD 0=0)(p:mx.getD 0=0)(g:(mx=none->cap=0)/\(e=none->len=0)):
 (Instr.sliceBounds true len cap (lo.map (Value.int k1)) (e.map (Value.int k2)) (mx.map (Value.int j))).run P w=.ok (0,0,0) w:=by
 have f:∀(k:IntKind) (y:Nat) (code:BoundsCode),(Instr.sliceBound (.int k 0) y code).run P w=.ok 0 w:=λk y code=>by rfl
 cases e with
 |none=>
  have q:mx=none:=by rcases h with h|h;exact h;exact absurd rfl h
  subst q;have⟨r,t⟩:=g;rw[r rfl,t rfl];cases lo with
  |none=>rfl
  |some l=>simp_all[Ie,Instr.sliceBounds,f]
 |some x=>
  subst o;cases mx with
  |none=>
   rw[g.1 rfl];cases lo with
   |none=>rfl
   |some l=>simp_all[Ie,Instr.sliceBounds,f]
  |some m=>
   subst p;cases lo with
   |none=>rfl
   |some l=>simp_all[Ie,Instr.sliceBounds,f]
def Xap(I:Ij P C s U M β w){T E sz a b:Nat}{zz:Value}(hT:Xt P T=some ⟨a,b,zz,.slice E sz⟩){te:OL}(hE:Xt P E=some te){lo j mx:Option Int}{k1 k2 H:IntKind}{d d':D}{c:Prop}(h:XaX sz lo j mx d=some (c,d'))(K:c){y:Value}(l:Rep P M β d y):
 VOK P C s [] U ver M β ((Instr.sliceAt T y (lo.map (Value.int k1)) (j.map (Value.int k2)) (mx.map (Value.int H))).run P w) d':=by
 have⟨hu,Q⟩:=X9 hT;have f:(sizeOf E).run P w=.ok sz w:=by rw[YP hE,Q,XaZ hE]
 have start:∀(base:Option Addr) (len cap:Nat),(Instr.sliceAt T (.slice base len cap) (lo.map (Value.int k1)) (j.map (Value.int k2)) (mx.map (Value.int H))).run P w =
  ((Instr.sliceBounds true len cap (lo.map (Value.int k1)) (j.map (Value.int k2)) (mx.map (Value.int H))).run P w).andThen λr w'=>
   ((sizeOf E).run P w').andThen λsize w''=>.ok (.slice (if r.2.2=r.1 then base else base.map (·.add (r.1*size))) (r.2.1-r.1) (r.2.2-r.1)) w'':=by
  intro base len cap
  simp[Instr.sliceAt,Instr.slice,run_underlying hu]
 unfold XaX at h;split at h
 .have key:(mx=none\/j≠none)/\(lo.getD 0=0/\j.getD 0=0/\mx.getD 0=0)/\d'=.nsl:=by
   split at h
   .cases h
   rename_i R;simp only[Wq,Wy]at h;obtain⟨rfl,rfl⟩:=h;refine⟨?_,K,rfl⟩;cases mx with
   |none=>exact .inl rfl
   |some m=>exact .inr λh=>R m rfl h
  obtain⟨q,⟨t,h3,h4⟩,rfl⟩:=key;obtain⟨x,rfl⟩:=l;refine .same I (v:=.slice x 0 0) ?_ (by simp[Rep]);rw[start,VJ k1 k2 H lo j mx 0 0 q t h3 h4 ⟨λ_=>rfl,λ_=>rfl⟩];simp[f]
 .rename_i E' z u;split at h
  .rename_i B;subst B;obtain⟨S,q2,q3,x,cap,rfl,g,l⟩:=l;split at h
   .obtain⟨rfl,rfl⟩:=h;have⟨J,q,t⟩:=K;have p:((u.drop (lo.getD 0).toNat).take ((j.getD u.length).toNat-(lo.getD 0).toNat)).length=(j.getD u.length).toNat-(lo.getD 0).toNat:=by simp;omega
    refine .same I (v:=.slice (if cap=(lo.getD 0).toNat then x else x.map (·.add ((lo.getD 0).toNat*z))) ((j.getD u.length).toNat-(lo.getD 0).toNat) (cap-(lo.getD 0).toNat)) ?_ ?_
    .rw[start,Oi,KV k1 k2 lo j u.length cap J q t g];simp only[Result.andThen_ok,f]
    have hmul:((j.getD u.length).toNat-(lo.getD 0).toNat)*P.bytesOf E'<=u.length*P.bytesOf E':=Ui _ aa;refine⟨λe A=>S e (Ud (Uc A)),aa,by rw[p];omega,_,_,by rw[p],aa,?_⟩;rcases Ux ((j.getD u.length).toNat-(lo.getD 0).toNat)with G|G
    .left;exact WZ (by rw[p];exact G)
    right;rcases l with rfl|⟨b,o,rfl,l⟩
    .simp at G t;omega
    rw[Wg aa];refine⟨b,o+(lo.getD 0).toNat*z,by simp[If],RepE.of (z:=z) (λe A=>S e (Ud (Uc A))) λi e A=>?_⟩;rw[VS]at A;split at A
    .have:=l.get S _ e A;rw[UN,←Oj]at this;exact this
    cases A
   .obtain⟨rfl,rfl⟩:=h;obtain⟨q,rfl,rfl⟩:=K;refine .same I (v:=.slice x 0 0) ?_ (by simp[Rep]);rw[start,VJ k1 k2 H lo (some 0) (some 0) cap u.length (.inr ab) q rfl rfl ⟨ab,ab⟩];simp[f]
   cases h
  cases h
 .rename_i id v z off len;split at h
  .rename_i B;subst B;split at h
   .obtain⟨rfl,rfl⟩:=h;obtain⟨J,q,t⟩:=K;simp only[Rep]at l;rcases l with⟨hn,rfl,rfl,x,rfl⟩|⟨b,cb,o,cap,L,rfl,g,V,O⟩
    .refine .same I (v:=.slice x 0 0) ?_ ?_
     .rw[start,Oi,KV k1 k2 lo j 0 0 J q t (Uu _)];have W:(lo.getD 0).toNat=0:=aa;have Y:(j.getD ((0:Nat):Int)).toNat=0:=aa;simp only[Result.andThen_ok,f,W,Y];simp
     have W:(lo.getD 0).toNat=0:=aa;have Y:(j.getD ((0:Nat):Int)).toNat=0:=aa;simp only[Rep,W,Y];exact .inl ⟨hn,ab⟩
    refine .same I (v:=.slice (some ⟨b,if cap=(lo.getD 0).toNat then o else o+(lo.getD 0).toNat*z,none⟩) ((j.getD len).toNat-(lo.getD 0).toNat) (cap-(lo.getD 0).toNat)) ?_ ?_
    .rw[start,Oi,KV k1 k2 lo j len cap J q t g];simp only[Result.andThen_ok,f];split
     .simp
     simp[If]
    simp only[Rep];refine .inr ⟨b,cb,_,_,L,rfl,aa,aa,?_⟩;split
    .rename_i Z;right;omega
    rename_i Z;left;rcases O with O|O
    .rw[O,UN]
    omega
   rename_i m;split at h
   .rename_i hh;simp only[Wq,Wy]at h;obtain⟨rfl,rfl⟩:=h;obtain⟨J,q,t,h3⟩:=K;simp only[Rep]at l;obtain⟨base,cap,rfl,g⟩:∃base cap,y=.slice base len cap/\len<=cap:=by
     rcases l with⟨hn,rfl,rfl,x,rfl⟩|⟨b,cb,o,cap,L,rfl,g,V,O⟩
     .exact⟨_,_,rfl,Uu _⟩
     exact⟨_,_,rfl,g⟩
    obtain⟨r,l⟩:=Xbi (P:=P) (w:=w) k1 k2 H lo hh m len cap J q t aa;refine .same I (v:=.slice (if r.2.2=r.1 then base else base.map (·.add (r.1*z))) (r.2.1-r.1) (r.2.2-r.1)) ?_ (by simp only[Rep]);rw[start,Im,Im,l];simp only[Result.andThen_ok,f]
   cases h
  cases h
 cases h
def Xj2(I:Ij P C s U M β w){T E sz a b:Nat}{Y:Value}(q:Xt P T=some ⟨a,b,Y,.slice E sz⟩){te:OL}(j:Xt P E=some te){lo L mx:Option Int}{k1 k2 Z:IntKind}{d d':D}{c:Prop}(h:XaY s sz lo L mx d=some (c,d'))(r:c){y:Value}(p:Rep P M β d y):
 VOK P C s [] U ver M β ((Instr.sliceAt T y (lo.map (Value.int k1)) (L.map (Value.int k2)) (mx.map (Value.int Z))).run P w) d':=by
 unfold XaY at h;split at h
 .rename_i l t;split at h
  .rename_i id v z off len;split at h
   .rename_i v' bx E' z' es fz hs;split at h
    .rename_i g;obtain⟨rfl,rfl,rfl⟩:=g;split at h
     .exact Xap I q j h r p
     simp only[Wq,Wy]at h;obtain⟨rfl,rfl⟩:=h;obtain⟨O,Q,R⟩:=r;obtain⟨S,G⟩:=X9 q;have e:(sizeOf E).run P w=.ok z w:=by rw[YP j,G,XaZ j]
     obtain⟨x,A,f⟩:=I.obs _ _ _ hs;simp only[Rep]at p;rcases p with⟨V,rfl,rfl,a',rfl⟩|⟨b,cb,o,cap,u,rfl,W,hcb,B⟩
     .rw[V]at A;obtain rfl:=WT A;simp only[ObRep]at f;rw[f.2.1]at R;simp only[Ib]at R;refine .same I (v:=.slice a' 0 0) ?_ ?_
      .have:=JW (P:=P) (w:=w) k1 k2 l t 0 0 O Q aa;simp only[Instr.sliceAt,Im,Oi];simp[Instr.slice,run_underlying S,this,e];have H:l.toNat=0:=aa;have J:t.toNat=0:=aa;simp[H,J]
      have H:l.toNat=0:=aa;have J:t.toNat=0:=aa;simp only[Rep,H,J];exact .inl ⟨V,ab⟩
     rw[u]at A;obtain rfl:=WT A;simp only[ObRep]at f;obtain⟨cs,T',_,_,_,hle,_⟩:=f;have hb:=JW (P:=P) (w:=w) k1 k2 l t len cap O Q aa;refine .same I (v:=.slice (some ⟨b,if cap=l.toNat then o else o+l.toNat*z,none⟩) (t.toNat-l.toNat) (cap-l.toNat)) ?_ ?_
     .simp only[Instr.sliceAt,Im,Oi];simp only[Instr.slice,run_underlying S,hb,Sem.run_bind,Result.andThen_ok,e];split<;>simp_all[If]
     simp only[Rep];refine .inr ⟨b,cb,_,_,u,rfl,aa,aa,?_⟩;split
     .rename_i K;right;omega
     rename_i K;left;rcases B with B|B
     .rw[B,UN]
     omega
    exact Xap I q j h r p
   cases h
  exact Xap I q j h r p
 exact Xap I q j h r p
def Xgp{M:Mem}:∀{e:List D} {b o:Nat},RepC P M e b o->RepE P M (e.map λx=>[x]) b o
 |[],_,_,_=>by simp[RepE]
 |d::e,b,o,h=>by exact⟨⟨h.1,trivial⟩,Xgp h.2⟩
def Xj3(I:Ij P C s U M β w){T E n sz a b:Nat}{q:Value}(r:Xt P T=some ⟨a,b,q,.array n E sz⟩){te:OL}(t:Xt P E=some te)(u:te.size=1)(B:0<n)(G:n<=Xw)(z:n*P.bytesOf E<=Xw){p:List D}{y:Value}(h:Rep P M β (.ipt n p 0) y):
 VOK P C s [] U ver M β ((Instr.sliceAt T y none none none).run P w) (.isl E 1 (p.map λx=>[x])):=by
 have A:=(Jh r).1;have g:(sizeOf E).run P w=.ok 1 w:=by rw[YP t,u]
 obtain⟨f,j,o,rfl,h⟩:=h;refine .same I (v:=.slice (some ⟨j,o,none⟩) n n) ?_ ?_
 .have l:¬n=0:=aa;simp[Instr.sliceAt,run_underlying,A,Instr.sureAddr,Instr.sliceBounds,g,l,If]
 refine⟨λe H=>?_,ah,by simp only[UK,f];exact z,some ⟨j,o,none⟩,n,by simp[f],ah,.inr ⟨j,o,rfl,Xgp h⟩⟩;grind
end
variable {P:Program}
section
variable {C:Cx}{s:Heap}{U:Nat->Prop}{M:Mem}{β:Loc}{w:World}
def frz(s:Heap)(l:List Nat):Heap:=λi=>if i∈l then(s i).map Xej else s i
def Zo(s:Heap)(u v:Up):app s (u++v)=app (app s u) v:=by
 induction u generalizing s with
 |nil=>rfl
 |cons x u e=>exact e _
def VT(e:Heap):∀(l:List Nat) (s:Heap) (i:Nat),(∀j,s j=e j\/s j=(e j).map Xej)->app s (Xbh e l) i=if i∈l then(e i).map Xej else s i
 |[],s,i,_=>by rfl
 |j::l,s,i,h=>by
  unfold Xbh;split
  .rename_i x g;show app (upd s j (some (Xej x))) (Xbh e l) i=_;rw[VT e l _ i (λk=>by
    by_cases o:k=j
    .subst o;rw[YO];right;rw[g];rfl
    simp_all[Yi,o])]
   by_cases p:i∈l
   .grind
   by_cases f:i=j
   .subst f;simp[p,g,YO]
   simp[p,f,Yi]
  rw[VT e l s i h];grind
def VU(s:Heap)(l:List Nat):app s (Xbh s l)=frz s l:=by funext i;rw[VT s l s i (λ_=>.inl rfl)];rfl
def Frz(s:Heap)(M:Mem)(β:Loc)(w:World)(l:List Nat):Prop:=
 ∀id∈l,∀v E z e fz b g f T,s id=some (v,.arr false E z e fz)->β id v=some (some (b,g))->w.heap[b]? = some (.cells f T (0,0))->∀o,o<e.length*z->M b o=f[o]?
open Classical in
def Ij.freeze(h:Ij P C s U M β w)(l:List Nat):∃M',Ij P C (frz s l) U M' β w/\MLe M M'/\Frz s M' β w l:=by
 let D (b o:Nat):Prop:=∃id v E z e fz f,id∈l/\s id=some (v,.arr false E z e fz)/\β id v=some (some (b,f))/\o<e.length*z;let M':Mem:=λb o=>if D b o then w.cell? ⟨b,o,none⟩else M b o
 have S:∀{id v E z e fz b f},s id=some (v,.arr false E z e fz)->β id v=some (some (b,f))->∃p T,w.heap[b]? = some (.cells p T (0,0))/\p.size=f*z/\e.length<=f/\(∀x∈p,x.oneCell'=true)/\(∀o,M b o=if o<fz*z then p[o]? else none):=by
  intro id v E z e fz b f g hb;obtain⟨x,G,H⟩:=h.obs id v _ g;rw[hb]at G;obtain rfl:some (b,f)=x:=by simp_all
  obtain⟨p,T,k1,k2,k3,Z,k5,k6,k7,k8,k9,K⟩:=H;exact⟨p,T,k1,k2,Z,k8,k9⟩
 have q:MLe M M':=by
  intro b o x G;show(if D b o then _ else M b o)=some x;split
  .exact(h.mem b o x G).1
  omega
 have I:∀{id v E z e fz b f},id∈l->s id=some (v,.arr false E z e fz)->β id v=some (some (b,f))->∀{p T},w.heap[b]? = some (.cells p T (0,0))->∀o,M' b o=if o<e.length*z then p[o]? else none:=by
  intro id v E z e fz b f J g hb p T L o;obtain⟨cs',T',g1,g2,g3,g4,g5⟩:=S g hb;rw[L]at g1;obtain⟨rfl,rfl⟩:p=cs'/\T=T':=by simp_all
  show(if D b o then _ else M b o)=_;by_cases ho:o<e.length*z
  .rw[Wj ⟨id,v,E,z,e,fz,f,J,g,hb,ho⟩,Wj ho,cell_of_row w b o p T (0,0) L]
  rw[Wg,Wg ho,g5 o,Wg]
  .have⟨x,G,H⟩:=h.obs id v _ g;obtain rfl:some (b,f)=x:=by simp_all
   have⟨_,_,_,_,_,_,_,_,k7,_⟩:=H;have:fz*z<=e.length*z:=Ui _ k7;omega
  rintro⟨r,Q,E',z',V,W,t,Y,u,A,ho'⟩;have hid:=h.inj id v _ r Q _ b f t g u hb A;grind
 have R:∀b,(∀id v E z e fz f,id∈l->s id=some (v,.arr false E z e fz)->β id v≠some (some (b,f)))->∀o,M' b o=M b o:=by intro b hb o;show(if D b o then _ else M b o)=_;rw[Wg];rintro⟨r,Q,E',z',V,W,t,Y,u,A,ho'⟩;exact hb r Q E' z' V W t Y u A
 have O:∀id v ob,frz s l id=some (v,ob)->∃j,s id=some (v,j)/\ob.bx=j.bx/\(ob=j\/(id∈l/\∃E z e fz,j=.arr false E z e fz/\ob=.arr false E z e e.length)):=by
  intro id v ob g;unfold frz at g;split at g
  .rename_i J;simp only[Uv]at g;have⟨⟨v0,o0⟩,B,h2⟩:=g;cases o0 with
   |raw o=>simp_all[Xej]
   |mp e=>simp_all[Xej]
   |arr bx E z e fz=>
    cases bx with
    |true=>simp_all[Xej]
    |false=>obtain⟨rfl,rfl⟩:=h2;exact⟨_,B,rfl,.inr ⟨J,_,_,_,_,rfl,rfl⟩⟩
  simp_all
 refine⟨M',?_,q,λid J v E z e fz b f p T g hb L o ho=>by rw[I J g hb L,Wj ho]⟩;constructor
 .intro b o x G;have hx':(if D b o then w.cell? ⟨b,o,none⟩else M b o)=some x:=G;split at hx'
  .grind
  exact h.mem b o x hx'
 .exact h.used
 .intro id v ob g;have⟨j,B,_,h2⟩:=O id v ob g;have⟨x,G,H⟩:=h.obs id v j B;refine⟨x,G,?_⟩;rcases h2 with rfl|⟨J,E,z,e,fz,rfl,rfl⟩
  .by_cases hf:id∈l/\∃E z e fz,ob=.arr false E z e fz
   .obtain⟨J,E,z,e,fz,rfl⟩:=hf;cases x with
    |none=>assumption
    |some bc=>
     have⟨p,T,k1,k2,k3,Z,k5,k6,k7,k8,k9,K⟩:=H;have hlen:fz=e.length:=by have:=g;unfold frz at this;rw[Wj J,B]at this;simp[Xej]at this;omega
     subst hlen;exact⟨p,T,k1,k2,k3,Z,k5,k6,k7,k8,λo=>I J B G k1 o,λi d hd=>by
      have⟨y,hy,H⟩:=K i d hd
      exact⟨y,hy,H.mono q (BLe.refl _)⟩⟩
   refine H.mono q (BLe.refl _) (λ_ _ _=>rfl) ?_;rintro b f rfl o;refine R b ?_ o;rintro r Q E' z' V W t Y u A;have hid:=h.inj id v _ r Q _ b f t B u G A;grind
  cases x with
  |none=>simp_all[ObRep]
  |some bc=>
   have⟨p,T,k1,k2,k3,Z,k5,k6,k7,k8,k9,K⟩:=H;exact⟨p,T,k1,k2,k3,Z,k5,k6,Uu _,k8,λo=>I J B G k1 o,λi d hd=>by
    have⟨y,hy,H⟩:=K i d hd
    exact⟨y,hy,H.mono q (BLe.refl _)⟩⟩
 .intro id v ob b f g hb;have⟨j,B,h2,_⟩:=O id v ob g;rw[h2];exact h.own id v j b f B hb
 .intro id v ob r Q ob' b f t g u hb A;have⟨j,B,_⟩:=O id v ob g;have⟨ob0',h1',_⟩:=O r Q ob' u;exact h.inj id v j r Q ob0' b f t B h1' hb A
 .exact h.keep
 .intro b o hb;rw[R b ?_ o]
  .exact h.old b o hb
  intro id v E z e fz f J g hbb;rcases h.own id v _ b f g hbb with B|B
  .omega
  simp_all[Ob.bx]
 .exact h.le.trans q
 exact h.glob
mutual
def snap_rep{M':Mem}(I:Ij P C s U M β w)(r:MLe M M'):∀{d d':D} {c:Prop} {l:List Nat},snap s d=some (c,d',l)->c->Frz s M' β w l->∀{y:Value},Rep P M β d y->Rep P M' YH d' y
 |.osl id ver z off len,d',c,l,h,p,g,y,f=>by
  unfold snap at h;split at h
  .rename_i v' E z' A fz hs;split at h
   .rename_i hv;have⟨rfl,rfl⟩:=hv;obtain⟨rfl,rfl,rfl⟩:=h;have q:((A.drop off).take len).length=len:=by simp;omega
    have⟨x,J,L⟩:=I.obs id ver _ hs;rcases f with⟨hn,rfl,rfl,a,rfl⟩|⟨b,cb,o,cap,hb,rfl,G,hcb,ho⟩
    .exact⟨ab,by simp[Xw],by simp[Xw],a,0,ab,ab,.inl ab⟩
    rw[hb]at J;obtain rfl:some (b,cb)=x:=by simpa using J
    have⟨K,T,k1,k2,O,k4,k5,k6,k7,k8,k9,Q⟩:=L;have u:∀e∈(A.drop off).take len,e.length=z:=λe B=>O e (Ud (Uc B));have hmul:len*P.bytesOf E<=A.length*P.bytesOf E:=Ui _ aa;refine⟨u,aa,by rw[q];omega,_,cap,by rw[q],by rw[q];exact G,?_⟩;rcases Ux len with h0|h0
    .left;exact WZ (by rw[q];exact h0)
    right;have R:o=off*z:=by rcases ho with h|h;exact h;omega
    subst R;refine⟨b,off*z,rfl,RepE.of (z:=z) u λi e B=>RepC.of λj d hd=>?_⟩;rw[VS]at B;split at B
    .have hj:j<z:=by
      have:=O e (WW B);rcases UM j z with h|h
      .exact h
      rw[W3 aa]at hd;cases hd
     have⟨x,J,S⟩:=Q ((off+i)*z+j) d (by rw[JV O _ _ hj,We,B];exact hd);have V:(off+i)*z+j<A.length*z:=by have:(off+i+1)*z<=A.length*z:=Ui _ aa;rw[I6]at this;omega
     have hm:=g id ab ver E z A fz b cb K T hs hb k1 _ V;refine⟨x,?_,S.mono r (BLe.refl _)⟩;rw[←J,←hm,UN]
    cases B
   cases h
  simp_all
 |.agg K,d',c,l,h,p,g,y,f=>by
  unfold snap at h;split at h
  .rename_i c' ds l' H;obtain⟨rfl,rfl,rfl⟩:=h;simp only[Rep]at f⊢;obtain⟨W,e,f⟩:=f;exact⟨W,e,Jj I r H p g f⟩
  simp_all
 |.tup K,d',c,l,h,p,g,y,f=>by
  unfold snap at h;split at h
  .rename_i c' ds l' H;simp only[Wq,Wy]at h;obtain⟨rfl,rfl,rfl⟩:=h;simp only[Rep]at f⊢;obtain⟨W,e,f⟩:=f;exact⟨W,e,Jj I r H p g f⟩
  simp_all
 |.clo fn a b,d',c,l,h,p,g,y,f=>by
  unfold snap at h;split at h
  .rename_i c1 a' l1 c2 b' l2 h1 h2;simp only[Wq,Wy]at h;obtain⟨rfl,rfl,rfl⟩:=h;simp only[Rep]at f⊢;obtain⟨va,vb,e,Y,Z⟩:=f;exact⟨va,vb,e,Jj I r h1 p.1 (λi hi=>g i (WX _ hi)) Y,Jj I r h2 p.2 (λi hi=>g i (Uy _ hi)) Z⟩
  simp_all
 |.ifc t d,d',c,l,h,p,g,y,f=>by
  unfold snap at h;split at h
  .rename_i c' e l' H;simp only[Wq,Wy]at h;obtain⟨rfl,rfl,rfl⟩:=h;simp only[Rep]at f⊢;obtain⟨x,e,f⟩:=f;exact⟨x,e,snap_rep I r H p g f⟩
  simp_all
 |.any,d',c,l,h,p,g,y,f=>by grind[snap,Wq,Wy,Rep]
 |.v x,d',c,l,h,p,g,y,f=>by grind[snap,Wq,Wy,Rep]
 |.nsl,d',c,l,h,p,g,y,f=>by grind[snap,Wq,Wy,Rep]
 |.isl E z A,d',c,l,h,p,g,y,f=>by simp only[snap,Wq,Wy]at h;obtain⟨rfl,rfl,rfl⟩:=h;have:=f.mono (β':=β) r (BLe.refl _);assumption
 |.ipt z K k,d',c,l,h,p,g,y,f=>by simp only[snap,Wq,Wy]at h;obtain⟨rfl,rfl,rfl⟩:=h;have:=f.mono (β':=β) r (BLe.refl _);assumption
 |.ept ..,d',c,l,h,_,_,_,_=>by simp_all[snap]
 |.fsl ..,d',c,l,h,_,_,_,_=>by simp_all[snap]
 |.fmp ..,d',c,l,h,_,_,_,_=>by simp_all[snap]
 |.omp ..,d',c,l,h,_,_,_,_=>by simp_all[snap]
def Jj{M':Mem}(I:Ij P C s U M β w)(u:MLe M M'):∀{j f:List D} {c:Prop} {l:List Nat},Jr s j=some (c,f,l)->c->Frz s M' β w l->∀{g:List Value},RepL P M β j g->RepL P M' YH f g
 |[],f,c,l,h,o,p,g,y=>by simp_all[Jr,Wq,Wy,RepL]
 |d::j,f,c,l,h,o,p,g,y=>by
  unfold Jr at h;split at h
  .rename_i c1 e G H J K z A;obtain⟨rfl,rfl,rfl⟩:=h;have⟨x,B,e,q,r⟩:=y;exact⟨x,B,e,snap_rep I u z o.1 (λi t=>p i (WX _ t)) q,Jj I u A o.2 (λi t=>p i (Uy _ t)) r⟩
  simp_all
end
def XeA{M':Mem}(I:Ij P C s U M β w)(u:MLe M M'):∀{ps f:List (Nat×D)} {c:Prop} {l:List Nat},VR s ps=some (c,f,l)->c->Frz s M' β w l->∀{g:List Value},RepL P M β (ps.map (·.2)) g ->
 RepL P M' YH (f.map (·.2)) g/\f.map (·.1)=ps.map (·.1)
 |[],f,c,l,h,j,o,g,p=>by simp_all[VR,Wq,Wy,RepL]
 |(i,d)::ps,f,c,l,h,j,o,g,p=>by
  unfold VR at h;split at h
  .rename_i c1 e G H J K z A;obtain⟨rfl,rfl,rfl⟩:=h;simp at p⊢;have⟨x,B,e,q,r⟩:=p;have y:=XeA I u A j.2 (λi t=>o i (Uy _ t)) r;exact⟨⟨x,B,e,snap_rep I u z j.1 (λi t=>o i (WX _ t)) q,y.1⟩,by rw[y.2]⟩
  simp_all
end
open Go.MapKept
variable {P:Program}
section
variable {C:Cx}{s:Heap}{U:Nat->Prop}{ver:Nat}{M:Mem}{β:Loc}{w:World}
def ZL{T:TypeId}{k:IntKind}{E:TypeId}(h:XaS P T=some (k,E)):∃K,P.underlying T=some (.map K E)/\P.underlying K=some (.int k):=by unfold XaS at h;grind
def VV(k:IntKind)(a b:Int):Instr.sameNow (.int k) (.int k a) (.int k b)=some (a==b):=by simp[Instr.sameNow]
def Xbj{k:IntKind}(n:Int):∀(l:List MapEntry) (f:List (Int×D)) (i:Nat),EntL P M k l f ->
 (Xel f n=none/\Xc7 f n=f/\(∀d,Xc6 f n d=f++[(n,d)])/\Instr.findNow (.int k) (.int k n) l i=some none) \/
 ∃j e d,Xel f n=some d/\Instr.findNow (.int k) (.int k n) l i=some (some (i+j,e.val))/\l[j]? = some e/\e.key=.int k n/\Rep P M YH d e.val /\
  (∀p g,p.key=.int k n->Rep P M YH g p.val->EntL P M k (l.set j p) (Xc6 f n g))/\EntL P M k (l.eraseIdx j) (Xc7 f n)/\(∀g,(Xc6 f n g).length=f.length)/\(Xc7 f n).length<=f.length
 |[],f,i,h=>by subst h;exact .inl ⟨rfl,rfl,λ_=>rfl,rfl⟩
 |e::l,f,i,h=>by
  obtain⟨x,d,q,rfl,u,G,z⟩:=h;by_cases o:n=x
  .subst o;refine .inr ⟨0,e,d,by simp[Xel],?_,rfl,u,G,λp g r t=>?_,?_,λg=>by simp[Xc6],by simp[Xc7]⟩
   .simp[Instr.findNow,u,VV]
   .simp only[Od,Xc6,if_true,EntL];exact⟨n,g,q,rfl,r,t,z⟩
   simp_all[Xc7]
  have A:Instr.sameNow (.int k) (.int k n) e.key=some false:=by rw[u,VV];simp[o]
  rcases Xbj n l q (i+1) z with⟨r,t,B,y⟩|⟨j,p,g,r,t,B,y,H,L,O,I,J⟩
  .simp[Xel,o,r,Xc7,t,Xc6,B,Instr.findNow,A,y]
  refine .inr ⟨j+1,p,g,by simp[Xel,o,r],by simp[Instr.findNow,A,t];omega,ag,y,H,λQ K g1 g2=>?_,?_,λK=>by simp[Xc6,o,I],by simp[Xc7,o,J]⟩
  .simp only[List.set_cons_succ,Xc6,Wg o,EntL];grind
  simp only[List.eraseIdx_cons_succ,Xc7,Wg o,EntL];grind
def EntL.push{k:IntKind}{g:MapEntry}{n:Int}{j:D}(o:g.key=.int k n)(p:Rep P M YH j g.val):∀{l:List MapEntry} {f:List (Int×D)},EntL P M k l f->EntL P M k (l++[g]) (f++[(n,j)])
 |[],f,h=>by grind[EntL,Um]
 |e::l,f,h=>by obtain⟨x,d,q,rfl,r,t,u⟩:=h;exact⟨x,d,_,rfl,r,t,EntL.push o p u⟩
def Ij.setMap(I:Ij P C s U M β w){id ver:Nat}{k:IntKind}{r es':List (Int×D)}(f:s id=some (ver,.mp k r)){b t:Nat}(hb:β id ver=some (some (b,t))){ents ents':Array MapEntry}{clock clock':Nat}(y:w.heap[b]? = some (.map ents clock))(z:es'.length<=Xw)(A:EntL P M k ents'.toList es')(hp:(ents'.toList.map (·.born)).Pairwise (·<·))(B:∀e∈ents'.toList,e.born<clock'):
 Ij P C (upd s id (some (ver,.mp k es'))) U M β {w with heap:=w.heap.setIfInBounds b (.map ents' clock')}:=by
 have⟨x,G,H⟩:=I.obs id ver _ f;obtain rfl:some (b,t)=x:=by simp_all
 obtain⟨rfl,_,J,_⟩:=H;have⟨g1,g2⟩:=heap_set (o':=.map ents' clock') y
 have:=I.set (M':=M) (β':=β) (w':={w with heap:=w.heap.setIfInBounds b (.map ents' clock')}) id ver (.mp k es') b 0 (MLe.refl M) (BLe.refl β) g2 (λ_ _ _=>rfl)
  (λo x G=>by simp_all) hb ⟨rfl,z,J,ents',clock',g1,A,hp,B⟩ (λg K h j l p q=>l (I.inj g K h id ver _ b j 0 p f q hb))
  (I.own id ver (.mp k r) b 0 f hb:_\/(_/\false=true)) (λ_ _=>rfl) rfl rfl rfl ab (λ_ _ _ e=>.inl e)
 exact this.mono λv u=>by
  rcases u with u|rfl
  .omega
  exact I.used id _ _ hb
def Ij.setRaw(I:Ij P C s U M β w){id ver:Nat}{o o':Obj}(g:s id=some (ver,.raw o)){b u:Nat}(hb:β id ver=some (some (b,u)))(z:w.heap[b]? = some o):
 Ij P C (upd s id (some (ver,.raw o'))) U M β {w with heap:=w.heap.setIfInBounds b o'}:=by
 obtain⟨x,f,A⟩:=I.obs id ver _ g;rw[hb]at f;obtain rfl:some (b,u)=x:=by simpa using f
 obtain⟨rfl,y,_⟩:=A;obtain⟨g1,g2⟩:=heap_set (o':=o') z
 have:=I.set (M':=M) (β':=β) (w':={w with heap:=w.heap.setIfInBounds b o'}) id ver (.raw o') b 0 (MLe.refl M) (BLe.refl β) g2 (λ_ _ _=>rfl)
  (λo x f=>by rw[y o]at f;cases f) hb ⟨rfl,y,g1⟩ (λh B j l p q r=>p (I.inj h B j id ver _ b l 0 q g r hb))
  (I.own id ver (.raw o) b 0 g hb:_\/(_/\false=true)) (λ_ _=>rfl) rfl rfl rfl ab (λ_ _ _ e=>.inl e)
 exact this.mono λv t=>by
  rcases t with t|rfl
  .exact t
  exact I.used id _ _ hb
def Xoj{e:Array MapEntry}{k:IntKind}{n:Int}{a:Option (Nat×Value)}(f:Instr.findNow (.int k) (.int k n) e.toList 0=some a)(z:Value):Xfo e k n z=(a.map (·.2)).getD z:=by unfold Xfo;rw[f];cases a<;>rfl
def Xok{e:Array MapEntry}{k:IntKind}{n:Int}{a:Option (Nat×Value)}(f:Instr.findNow (.int k) (.int k n) e.toList 0=some a):Xgh e k n=a.isSome:=by unfold Xgh;rw[f];cases a<;>rfl
def XhV(I:Ij P C s U M β w)(H:¬U ver){dst:Option Tmp}{type:TypeId}{pos:String}{after:Array Edge}{guard:Option (Nat×Bool)}(ρ:Operand->Value)(t:Operand->D)(hρ:∀x,Rep P M β (t x) (ρ x)){c:Prop}{d:D}{u:Up}(T:TypeId)(r:Option Operand)(h:opF P dst ver t s (.makeMap T r)=some (c,d,u))(_hc:c):OpOK P C s u U ver M β ((execOp ρ ⟨dst,.makeMap T r,type,pos,after,guard⟩).run P w) d:=by
 unfold execOp;simp only[opF]at h;split at h
 .rename_i k E l J L;obtain⟨rfl,rfl,rfl⟩:=h;have⟨K,p,O⟩:=ZL J;have g:(Instr.makeMap T (r.map ρ)).run P w=.ok (.map (some w.heap.size)) (w.alloc (.map #[] 0)):=by
   obtain⟨k1,Q⟩:=Vr hρ L;rw[Q];cases l with
   |none=>simp[Instr.makeMap]
   |some n=>simp[Instr.makeMap,run_underlying p,asInt,asIntOf]
  have R:=I.fresh H (K7 dst);have B:BLe β (ZJ β (K7 dst) ver (some (w.heap.size,0))):=Zn R;have e:∀o,M w.heap.size o=none:=by
   intro o;cases f:M w.heap.size o with
   |none=>rfl
   |some x=>exact absurd (I.mem.lt f) (IU _)
  have⟨g1,g2⟩:=heap_alloc w (.map #[] 0)
  have I':=I.set (M':=M) (β':=ZJ β (K7 dst) ver (some (w.heap.size,0))) (w':=w.alloc (.map #[] 0)) (K7 dst) ver (.raw (.map #[] 0)) w.heap.size 0 (MLe.refl M) B
   (λj S=>by
    show(w.heap.push _)[j]? = _
    rw[Array.getElem?_push,Wg S]) (λ_ _ _=>rfl) (λo x f=>by rw[e o]at f;cases f) (XP ..)
   ⟨rfl,e,g1⟩
   (λq V z A _ W f=>by
    have⟨y,G,Y⟩:=I.obs q V z W
    rw[f]at G
    obtain rfl:some (w.heap.size,A)=y:=by simpa using G
    exact absurd Y.lt (IU _))
   (.inl I.keep.size) (λZ=>absurd I.keep.size aa) rfl rfl rfl ab Zy
  exact VOK.op (sem:=Instr.makeMap T (r.map ρ)) ⟨M,_,_,_,g,I',by exact⟨_,_,XP ..,rfl⟩,MLe.refl _,B⟩
 simp_all
def Xft(n:Nat)(k:IntKind)(a:Int):Instr.sameBits n (.int k a) (.int k a)=true:=by simp[Instr.sameBits]
def Jk(k:IntKind)(n:Int):IsKey (.int k) (.int k n):=by rfl
def Xi1(I:Ij P C s U M β w){T:TypeId}{m key x:D}{W Y vx:Value}{c:Prop}{d:D}{u:Up}(h:XhT P s T m key x=some (c,d,u))(hc:c)(hm:Rep P M β m W)(hk:Rep P M β key Y)(hx:Rep P M β x vx):
 ∃M' w',(Instr.mapUpdate T W Y vx).run P w=.ok () w'/\d=.v undef/\Ij P C (app s u) U M' β w'/\MLe M M':=by
 unfold XhT at h;split at h
 .rename_i k E id v k' n hT;split at h
  .rename_i v' k2 Z hs;split at h
   .rename_i cc dd l H;split at h
    .rename_i o;have⟨rfl,rfl,rfl,hl⟩:=o;obtain⟨rfl,rfl,rfl⟩:=h;have⟨J,hlen⟩:=hc;have⟨K,L,y⟩:=ZL hT;have⟨M',I',O,hF⟩:=I.freeze l;have z:=snap_rep I O H J hF hx;have p:frz s l id=some (v,.mp k Z):=by unfold frz;rw[Wg hl];exact hs
     obtain⟨b,cb,hb,rfl⟩:=hm;obtain⟨rfl,hwk⟩:=hk;have⟨x0,A,Q⟩:=I'.obs id v _ p;rw[hb]at A;obtain rfl:some (b,cb)=x0:=by simpa using A
     obtain⟨rfl,h1,h2,ents,clock,B,h4,h5,G⟩:=Q;have start:∀a,Instr.findNow (.int k) (.int k n) ents.toList 0=some a->(Instr.mapUpdate T (.map (some b)) (.int k n) vx).run P w =
      ((match a with
       |some (i,_)=>do
        let key ←Instr.keyThatStays (((ents[i]?).map (·.key)).getD (.int k n)) (.int k n)
        setObj b (.map (ents.modify i λe=>{e with key,val:=vx}) clock)
       |none=>setObj b (.map (ents.push {key:=.int k n,val:=vx,born:=clock}) (clock+1)):Sem Unit)).run P w:=by
      intro a R
      unfold Instr.mapUpdate
      simp only[Sem.run_bind,run_underlying L,Result.andThen_ok,Go.MapKept.run_getObj_map B,run_checkKey y (Jk k n),run_findKey y R]
      cases a<;>rfl
     rcases Xbj n ents.toList Z 0 h4 with⟨g1,g2,g3,g4⟩|⟨j,e,d0,g1,g2,g3,g4,g5,g6,g7,g8,g9⟩
     .refine⟨M',{w with heap:=w.heap.setIfInBounds b (.map (ents.push {key:=.int k n,val:=vx,born:=clock}) (clock+1))},?_,rfl,?_,O⟩
      .rw[start _ g4];exact Go.MapKept.run_setObj_map _ B
      rw[Zo,VU,g3 dd];refine I'.setMap p hb B ah (by simpa using EntL.push rfl (z) h4) ?_ ?_
      .simp;rw[Oq];refine⟨h5,ab,λa R b hb=>?_⟩;simp at hb;subst hb;obtain⟨e,t,rfl⟩:=WG.1 R;exact G e t
      intro e t;simp only[Array.toList_push,Ws,WM]at t;rcases t with t|rfl
      .exact Nat.lt_succ_of_lt (G e t)
      exact WK _
     have hj:j<ents.size:=by
      rcases UM j ents.size with S|S
      .exact S
      rw[W3 (by exact S)]at g3;cases g3
     have V:ents[j]? = some e:=by simpa using g3
     have f:(ents.modify j λe=>{e with key:=.int k n,val:=vx}).toList=ents.toList.set j {e with key:=.int k n,val:=vx}:=by
      refine Om λi=>?_;rw[Array.toList_modify,List.getElem?_modify,UJ];split
      .rename_i q;subst q;rw[g3,Wj (by exact hj)];rfl
      cases ents.toList[i]?<;>rfl
     refine⟨M',{w with heap:=w.heap.setIfInBounds b (.map (ents.modify j λe=>{e with key:=.int k n,val:=vx}) clock)},?_,rfl,?_,O⟩
     .rw[start _ g2];simp only[Ue,V,Im,Ie,g4,Instr.keyThatStays,Xft,if_true,Sem.run_bind,Sem.run_pure,Result.andThen_ok];exact Go.MapKept.run_setObj_map _ B
     rw[Zo,VU];have r:(ents.toList.set j {e with key:=.int k n,val:=vx}).map (·.born)=ents.toList.map (·.born):=by
      rw[List.map_set];refine Om λi=>?_;rw[UJ];split
      .rename_i q;subst q;rw[Wj (by simpa using hj),IQ,g3];rfl
      rfl
     refine I'.setMap p hb B (by rw[g8];exact h1) (by rw[f];exact g6 _ dd rfl z) (by rw[f,r];exact h5) ?_;intro e' g;rw[f]at g;rcases W7 g with g|rfl
     .exact G e' g
     exact G e (WW g3)
    cases h
   cases h
  cases h
 simp_all
def Xfu(I:Ij P C s U M β w)(_hv:¬U ver){dst:Option Tmp}{type:TypeId}{pos:String}{after:Array Edge}{guard:Option (Nat×Bool)}(ρ:Operand->Value)(t:Operand->D)(hρ:∀x,Rep P M β (t x) (ρ x)){c:Prop}{d:D}{u:Up}(T:TypeId)(m key x:Operand)(h:opF P dst ver t s (.mapUpdate T m key x)=some (c,d,u))(e:c):OpOK P C s u U ver M β ((execOp ρ ⟨dst,.mapUpdate T m key x,type,pos,after,guard⟩).run P w) d:=by unfold execOp;obtain⟨M',w',f,rfl,g,j⟩:=Xi1 I h e (hρ m) (hρ key) (hρ x);exact⟨M',β,w',undef,.inr ⟨by simp[f],rfl⟩,g.mono λ_ h=>.inl h,by simp[Rep,wfV,undef],j,BLe.refl _⟩
def Xj4(I:Ij P C s U M β w)(_hv:¬U ver){dst:Option Tmp}{type:TypeId}{pos:String}{after:Array Edge}{guard:Option (Nat×Bool)}(ρ:Operand->Value)(t:Operand->D)(hρ:∀x,Rep P M β (t x) (ρ x)){c:Prop}{d:D}{u:Up}(T:TypeId)(m key x:Operand)(h:opF P dst ver t s (.insert T m key x)=some (c,d,u))(e:c):OpOK P C s u U ver M β ((execOp ρ ⟨dst,.insert T m key x,type,pos,after,guard⟩).run P w) d:=by unfold execOp;obtain⟨M',w',f,rfl,g,j⟩:=Xi1 I h e (hρ m) (hρ key) (hρ x);exact⟨M',β,w',undef,.inr ⟨by simp[f],rfl⟩,g.mono λ_ h=>.inl h,by simp[Rep,wfV,undef],j,BLe.refl _⟩
def Xj5(I:Ij P C s U M β w)(_hv:¬U ver){dst:Option Tmp}{type:TypeId}{pos:String}{after:Array Edge}{guard:Option (Nat×Bool)}(ρ:Operand->Value)(t:Operand->D)(hρ:∀x,Rep P M β (t x) (ρ x)){c:Prop}{d:D}{u:Up}(T:TypeId)(m key:Operand)(ok:Bool)(h:opF P dst ver t s (.lookup T m key ok)=some (c,d,u))(_hc:c):OpOK P C s u U ver M β ((execOp ρ ⟨dst,.lookup T m key ok,type,pos,after,guard⟩).run P w) d:=by
 unfold execOp;simp only;simp only[opF]at h;split at h
 .rename_i k E id v k' n Q R S;split at h
  .rename_i W k2 A te H J;split at h
   .rename_i f;have⟨rfl,rfl,rfl⟩:=f;obtain⟨rfl,rfl,rfl⟩:=h;have⟨K,q,o⟩:=ZL Q;have g:=hρ m;have l:=hρ key;rw[R]at g;rw[S]at l;have⟨b,L,hb,r⟩:=g;have⟨x0,p,z⟩:=I.obs id v _ H;rw[hb]at p;obtain rfl:some (b,L)=x0:=by simpa using p
    obtain⟨rfl,Y,h2,ents,clock,O,Z,h5,h6⟩:=z;rw[r,l.1];have start:∀a,Instr.findNow (.int k) (.int k n) ents.toList 0=some a->(Instr.lookup T (.map (some b)) (.int k n) ok).run P w =
     .ok (if ok then .tuple #[(match a with|some (_,v)=>v|none=>te.zero),.bool a.isSome]else(match a with|some (_,v)=>v|none=>te.zero)) w:=by
     intro a B
     unfold Instr.lookup
     simp only[Sem.run_bind,run_underlying q,Result.andThen_ok,Go.MapKept.run_getObj_map O,Sem.run_pure,run_checkKey o (Jk k n),run_findKey o B]
     cases a with
     |none=>simp[Z6 J]
     |some y=>simp
    rcases Xbj n ents.toList A 0 Z with⟨g1,g2,g3,g4⟩|⟨j,e,d0,g1,g2,g3,g4,g5,g6,g7,g8,g9⟩
    .refine VOK.op (.same I (start _ g4) ?_);rw[g1];cases ok with
     |true=>exact⟨_,rfl,_,_,rfl,Vo _,_,_,rfl,⟨rfl,trivial⟩,rfl⟩
     |false=>exact Vo _
    refine VOK.op (.same I (start _ g2) ?_);rw[g1];have V:=g5.mono (MLe.refl M) (BLe.zero β);cases ok with
    |true=>exact⟨_,rfl,_,_,rfl,V,_,_,rfl,⟨rfl,trivial⟩,rfl⟩
    |false=>exact V
   cases h
  .rename_i W A cl te H J;split at h
   .rename_i f;obtain⟨rfl,rfl⟩:=f;simp only[Wq,Wy]at h;obtain⟨rfl,rfl,rfl⟩:=h;obtain⟨K,q,o⟩:=ZL Q;have g:=hρ m;have l:=hρ key;rw[R]at g;rw[S]at l;simp only[Rep]at g l;obtain⟨b,L,hb,r⟩:=g;obtain⟨x0,p,z⟩:=I.obs id v _ H;rw[hb]at p;obtain rfl:some (b,L)=x0:=by simpa using p
    obtain⟨rfl,Y,O⟩:=z;rw[r,l.1];obtain⟨hf,G⟩:=_hc;obtain⟨a,B⟩:=Option.isSome_iff_exists.1 hf;have e1:=Xoj B te.zero;have e2:=Xok B;have start:(Instr.lookup T (.map (some b)) (.int k n) ok).run P w =
     .ok (if ok then .tuple #[Xfo A k n te.zero,.bool (Xgh A k n)]else Xfo A k n te.zero) w:=by
     rw[e1,e2]
     unfold Instr.lookup
     simp only[Sem.run_bind,run_underlying q,Result.andThen_ok,Go.MapKept.run_getObj_map O,Sem.run_pure,run_checkKey o (Jk k n),run_findKey o B]
     cases a with
     |none=>simp[Z6 J]
     |some y=>simp
    refine VOK.op (.same I start ?_);cases ok with
    |true=>simp only[if_true,Rep,RepL];exact⟨_,rfl,_,_,rfl,⟨rfl,G⟩,_,_,rfl,⟨rfl,trivial⟩,rfl⟩
    |false=>exact⟨rfl,G⟩
   cases h
  cases h
 cases h
def Xgq(I:Ij P C s U M β w)(_hv:¬U ver){dst:Option Tmp}{type:TypeId}{pos:String}{after:Array Edge}{guard:Option (Nat×Bool)}(ρ:Operand->Value)(t:Operand->D)(hρ:∀x,Rep P M β (t x) (ρ x)){c:Prop}{d:D}{u:Up}(T:TypeId)(m key:Operand)(h:opF P dst ver t s (.mapEntry T m key)=some (c,d,u))(H:c):OpOK P C s u U ver M β ((execOp ρ ⟨dst,.mapEntry T m key,type,pos,after,guard⟩).run P w) d:=by
 unfold execOp;simp only;simp only[opF]at h;split at h
 .rename_i k E id v W n J L O;split at h
  .rename_i Y Q cl te B R;split at h
   .rename_i e;obtain⟨rfl,rfl⟩:=e;simp only[Wq,Wy]at h;obtain⟨rfl,rfl,rfl⟩:=h;obtain⟨K,o,j⟩:=ZL J;have f:=hρ m;have g:=hρ key;rw[L]at f;rw[O]at g;simp only[Rep]at f g;obtain⟨b,S,hb,p⟩:=f;obtain⟨x0,l,q⟩:=I.obs id v _ B;rw[hb]at l;obtain rfl:some (b,S)=x0:=by simpa using l
    obtain⟨rfl,Z,r⟩:=q;obtain⟨V,z,A⟩:=H;obtain⟨a,G⟩:=Option.isSome_iff_exists.1 V;obtain rfl:a=none:=by
     unfold Xgh at z;rw[G]at z;cases a with
     |none=>rfl
     |some y=>cases z
    have start:(Instr.mapEntry T (.map (some b)) (.int k n)).run P w=.ok (.tuple #[te.zero,goInt cl]) {w with heap:=w.heap.setIfInBounds b (.map (Q.push ⟨.int k n,te.zero,cl⟩) (cl+1))}:=by unfold Instr.mapEntry;simp only[Sem.run_bind,run_underlying o,Result.andThen_ok,Go.MapKept.run_getObj_map r,Sem.run_pure,run_checkKey j (Jk k n),run_findKey j G,Z6 R,Go.MapKept.run_setObj_map _ r]
    rw[p,g.1];refine VOK.op ⟨M,β,_,_,start,?_,?_,MLe.refl _,BLe.refl _⟩
    .exact(I.setRaw B hb r).mono λ_ h=>.inl h
    simp only[Rep,RepL];exact⟨_,rfl,_,_,rfl,Vo _,_,_,rfl,⟨rfl,by unfold Xw at A;simp only[wfV,IntKind.min,IntKind.max,IntKind.bits,IntKind.signed];omega⟩,rfl⟩
   cases h
  cases h
 cases h
def Xeo(I:Ij P C s U M β w)(_hv:¬U ver){dst:Option Tmp}{type:TypeId}{pos:String}{after:Array Edge}{guard:Option (Nat×Bool)}(ρ:Operand->Value)(t:Operand->D)(hρ:∀x,Rep P M β (t x) (ρ x)){c:Prop}{d:D}{u:Up}(T:TypeId)(m e x:Operand)(h:opF P dst ver t s (.entryStore T m e x)=some (c,d,u))(B:c):OpOK P C s u U ver M β ((execOp ρ ⟨dst,.entryStore T m e x,type,pos,after,guard⟩).run P w) d:=by
 unfold execOp;simp only;simp only[opF]at h;split at h
 .rename_i id v z y G H J;split at h
  .rename_i Q K cl A;split at h
   .rename_i f;subst f;simp only[Wq,Wy]at h;obtain⟨rfl,rfl,rfl⟩:=h;have g:=hρ m;have j:=hρ e;have l:=hρ x;rw[G]at g;rw[H]at j;rw[J]at l;simp only[Rep]at g j l;obtain⟨b,L,hb,p⟩:=g;obtain⟨x0,o,q⟩:=I.obs id v _ A;rw[hb]at o;obtain rfl:some (b,L)=x0:=by simpa using o
    obtain⟨rfl,R,r⟩:=q;obtain⟨i,O⟩:=Option.isSome_iff_exists.1 B;have start:(Instr.entryStore T (.map (some b)) (.int .i64 z) y).run P w=.ok () {w with heap:=w.heap.setIfInBounds b (.map (Xlj K z y) cl)}:=by unfold Instr.entryStore Xlj;simp only[Sem.run_bind,Result.andThen_ok,Go.MapKept.run_getObj_map r,Sem.run_pure,asInt,asIntOf,O,Ie];exact Go.MapKept.run_setObj_map _ r
    rw[p,j.1,l.1];exact⟨M,β,_,undef,.inr ⟨by simp[start],rfl⟩,(I.setRaw A hb r).mono λ_ h=>.inl h,by simp[Rep,wfV,undef],MLe.refl _,BLe.refl _⟩
   cases h
  cases h
 simp_all
end
end Go.Sx
