import GoSem.Core.View
import Derived.Deep.LoopGhost
import Derived.Orders
import Derived.Below
import Derived.Laws.CopyRow
import Derived.Laws.AppendOwn
import Derived.Laws.MakeOwn
import Derived.Laws.OwnMore
import Derived.Laws.StructEq
import Derived.Laws.Tables
import Derived.Laws.Rows
import Derived.ChangeKeysEq
import Derived.MapKept
set_option linter.all false
namespace Go.Sx
theorem aa{P:Prop}(h:P:=by omega):P:=h
theorem ab{P:Prop}(h:P:=by simp):P:=h
theorem ac{P:Prop}(h:P:=by kernel_rfl):P:=h
theorem ae{P:Prop}(h:P:=by decide):P:=h
theorem ag{P:Prop}(h:P:=by assumption):P:=h
theorem ah{P:Prop}(h:P:=by simp;omega):P:=h
def Wa{α:Type _}(a b:α):(bif false then a else b)=b:=rfl
def Wb{α:Type _}(a b:α):(bif true then a else b)=a:=rfl
def Wc:type_of% @List.getElem?_eq_getElem:=@List.getElem?_eq_getElem
def Wg:type_of% @decide_eq_true:=@decide_eq_true
def Wh:type_of% @decide_eq_false:=@decide_eq_false
def Wj:type_of% @List.length_take:=@List.length_take
theorem Wl:type_of% @List.length_drop:=@List.length_drop
def Wn:type_of% @if_neg:=@if_neg
def Wo:type_of% @Bool.not_true:=@Bool.not_true
def Wp:type_of% @List.getD_eq_getElem?_getD:=@List.getD_eq_getElem?_getD
def Wq:type_of% @if_pos:=@if_pos
def Wr:type_of% @List.drop_eq_getElem_cons:=@List.drop_eq_getElem_cons
theorem Ws:type_of% @Option.some.injEq:=@Option.some.injEq
def Wu:type_of% @of_decide_eq_true:=@of_decide_eq_true
theorem Wx:type_of% @Prod.mk.injEq:=@Prod.mk.injEq
def Wz:type_of% @Nat.lt_succ_self:=@Nat.lt_succ_self
def WA:type_of% @Nat.min_self:=@Nat.min_self
def WG:type_of% @List.mem_append:=@List.mem_append
def WJ:type_of% @List.eq_nil_of_length_eq_zero:=@List.eq_nil_of_length_eq_zero
def WK:type_of% @Option.some.inj:=@Option.some.inj
def WL:type_of% @of_decide_eq_false:=@of_decide_eq_false
def WN:type_of% @List.getElem_of_mem:=@List.getElem_of_mem
def WO:type_of% @List.getElem_mem:=@List.getElem_mem
def WP:type_of% @List.mem_of_mem_drop:=@List.mem_of_mem_drop
theorem WQ:type_of% @List.length_append:=@List.length_append
theorem WR:type_of% @List.length_set:=@List.length_set
theorem WU:type_of% @List.length_replicate:=@List.length_replicate
def WW:type_of% @List.mem_of_mem_take:=@List.mem_of_mem_take
def WX:type_of% @List.drop_zero:=@List.drop_zero
def WY:type_of% @List.getElem?_eq_none:=@List.getElem?_eq_none
def WZ:type_of% @Nat.mul_le_mul_right:=@Nat.mul_le_mul_right
def W0:type_of% @List.mem_append_left:=@List.mem_append_left
def W3:type_of% @Bool.true_and:=@Bool.true_and
def W4:type_of% @List.length_map:=@List.length_map
def W6:type_of% @Bool.and_eq_true:=@Bool.and_eq_true
def Ua:type_of% @Nat.eq_zero_or_pos:=@Nat.eq_zero_or_pos
def Ub:type_of% @List.mem_append_right:=@List.mem_append_right
def Ud:type_of% @List.all_eq_true:=@List.all_eq_true
def Ue:type_of% @Option.map_eq_some_iff:=@Option.map_eq_some_iff
def Uf:type_of% @Bool.not_false:=@Bool.not_false
theorem Ug:type_of% @List.map_cons:=@List.map_cons
theorem Uh:type_of% @List.nil_append:=@List.nil_append
def Ui:type_of% @List.mem_of_getElem?:=@List.mem_of_getElem?
def Uj:type_of% @List.take_of_length_le:=@List.take_of_length_le
def Uk:type_of% @List.getElem?_take:=@List.getElem?_take
def Ul:type_of% @List.mem_cons_of_mem:=@List.mem_cons_of_mem
def Um:type_of% @Nat.le_trans:=@Nat.le_trans
def Un:type_of% @Nat.le_refl:=@Nat.le_refl
def Uo:type_of% @List.length_cons:=@List.length_cons
def Uq:type_of% @Nat.lt_or_ge:=@Nat.lt_or_ge
def Ur:type_of% @Int.mul_le_mul_of_nonneg_right:=@Int.mul_le_mul_of_nonneg_right
def Ut:type_of% @Bool.false_and:=@Bool.false_and
def Uu:type_of% @Nat.add_mul:=@Nat.add_mul
def Uv:type_of% @Bool.cond_decide:=@Bool.cond_decide
def Uw:type_of% @List.filter_cons_of_pos:=@List.filter_cons_of_pos
def Ux:type_of% @List.mem_or_eq_of_mem_set:=@List.mem_or_eq_of_mem_set
def Uy:type_of% @Nat.zero_add:=@Nat.zero_add
def Uz:type_of% @List.map_nil:=@List.map_nil
def UA:type_of% @List.append_assoc:=@List.append_assoc
def UB:type_of% @Int.eq_ofNat_of_zero_le:=@Int.eq_ofNat_of_zero_le
def UE:type_of% @List.drop_eq_nil_of_le:=@List.drop_eq_nil_of_le
def UF:type_of% @List.getElem?_drop:=@List.getElem?_drop
def UI:type_of% @List.pairwise_iff_getElem:=@List.pairwise_iff_getElem
def UK:type_of% @List.mem_singleton:=@List.mem_singleton
def UN:type_of% @Nat.zero_le:=@Nat.zero_le
def UO:type_of% @Array.getElem?_toList:=@Array.getElem?_toList
def UQ:type_of% @List.filter_cons_of_neg:=@List.filter_cons_of_neg
def US:type_of% @List.mem_filter:=@List.mem_filter
def UT:type_of% @List.getElem?_append_left:=@List.getElem?_append_left
def UV:type_of% @Array.length_toList:=@Array.length_toList
def UW:type_of% @List.getElem?_toArray:=@List.getElem?_toArray
def UX:type_of% @List.mem_map:=@List.mem_map
def UY:type_of% @List.mem_cons:=@List.mem_cons
def UZ:type_of% @List.getElem?_append_right:=@List.getElem?_append_right
def U0:type_of% @Int.tdiv_eq_ediv_of_nonneg:=@Int.tdiv_eq_ediv_of_nonneg
def U1:type_of% @List.append_nil:=@List.append_nil
def U3:type_of% @Nat.div_lt_iff_lt_mul:=@Nat.div_lt_iff_lt_mul
def U4:type_of% @Bool.false_eq_true:=@Bool.false_eq_true
def U5:type_of% @Option.getD_some:=@Option.getD_some
def U7:type_of% @List.getElem_take:=@List.getElem_take
def U8:type_of% @Nat.lt_irrefl:=@Nat.lt_irrefl
def U9:type_of% @Bool.false_or:=@Bool.false_or
def Ic:type_of% @List.set_cons_zero:=@List.set_cons_zero
def Ie:type_of% @BitVec.toNat_ofNat:=@BitVec.toNat_ofNat
def If:type_of% @Int.tmod_eq_emod_of_nonneg:=@Int.tmod_eq_emod_of_nonneg
def Ig:type_of% @Nat.add_sub_cancel:=@Nat.add_sub_cancel
def Ii:type_of% @List.getElem?_eq_some_iff:=@List.getElem?_eq_some_iff
def Ij:type_of% @Bool.or_eq_true:=@Bool.or_eq_true
def Ik:type_of% @List.foldl_cons:=@List.foldl_cons
def Im:type_of% @Nat.succ_mul:=@Nat.succ_mul
def In:type_of% @List.getElem?_set:=@List.getElem?_set
def Io:type_of% @List.nodup_append:=@List.nodup_append
def Ip:type_of% @Int.add_mul:=@Int.add_mul
def Iq:type_of% @Nat.le_succ_of_le:=@Nat.le_succ_of_le
def Ir:type_of% @List.getElem_drop:=@List.getElem_drop
def Is:type_of% @Bool.and_self:=@Bool.and_self
def Iu:type_of% @List.filter_eq_self:=@List.filter_eq_self
def Iv:type_of% @List.drop_set_of_lt:=@List.drop_set_of_lt
def Ix:type_of% @Nat.add_sub_cancel_left:=@Nat.add_sub_cancel_left
def Iy:type_of% @decide_eq_false_iff_not:=@decide_eq_false_iff_not
def IB:type_of% @Nat.add_zero:=@Nat.add_zero
def IC:type_of% @Nat.lt_of_lt_of_le:=@Nat.lt_of_lt_of_le
def ID:type_of% @List.pairwise_cons:=@List.pairwise_cons
def IE:type_of% @List.length_nil:=@List.length_nil
def IF:type_of% @Option.map_some:=@Option.map_some
def II:type_of% @List.contains_iff_mem:=@List.contains_iff_mem
def IJ:type_of% @List.set_append_right:=@List.set_append_right
def IL:type_of% @Bool.not_eq_true':=@Bool.not_eq_true'
def IN:type_of% @List.pairwise_append:=@List.pairwise_append
def IO:type_of% @Nat.pow_le_pow_right:=@Nat.pow_le_pow_right
def IP:type_of% @Int.one_mul:=@Int.one_mul
def IQ:type_of% @Bool.not_eq_true:=@Bool.not_eq_true
def IR:type_of% @Option.bind_some:=@Option.bind_some
def IS:type_of% @Nat.mod_eq_of_lt:=@Nat.mod_eq_of_lt
def IU:type_of% @List.cons.inj:=@List.cons.inj
def IW:type_of% @List.drop_drop:=@List.drop_drop
def IX:type_of% @Nat.sub_self:=@Nat.sub_self
inductive Ex(α β:Type) where
 |ret (a:α)
 |nxt (b:β)
def exK{α β γ:Type}(e:Ex α β)(f:α->γ)(k:β->γ):γ:=match e with
 |.ret a=>f a
 |.nxt b=>k b
def bnd{α β:Type}(o:Option α)(f:α->Option β):Option β:=o.bind f
def grd{α:Type}(p:Prop)[Decidable p](x:Option α):Option α:=if p then x else none
def jn{κ γ:Type}(k:κ)(f:κ->γ):γ:=f k
def Xb{α:Type}(l:List α)(i:Int):Option α:=if 0<=i then l[i.toNat]? else none
def wI(n:Int):Int:=IntKind.wrap .i64 n
def wU(n:Int):Int:=IntKind.wrap .u64 n
def wW(n:Int):Int:=IntKind.wrap .u32 n
def Zc(k:IntKind)(a b:Int):Int:=k.wrap (BitVec.ofInt k.bits a &&& BitVec.ofInt k.bits b).toNat
def bOr(k:IntKind)(a b:Int):Int:=k.wrap (BitVec.ofInt k.bits a |||BitVec.ofInt k.bits b).toNat
def Xm0(k:IntKind)(a b:Int):Int:=k.wrap (BitVec.ofInt k.bits a ^^^ BitVec.ofInt k.bits b).toNat
def XbF(k:IntKind)(a b:Int):Int:=k.wrap (BitVec.ofInt k.bits a &&& ~~~ BitVec.ofInt k.bits b).toNat
def ZQ(k:IntKind)(a b:Int):Int:=k.wrap (a*2 ^ min b.toNat k.bits)
def YA(k:IntKind)(a b:Int):Int:=a.fdiv (2 ^ min b.toNat k.bits)
def Xfj{α β:Type}{o:Option α}{f:α->Option β}{r:β}(h:bnd o f=some r):∃y,o=some y/\f y=some r:=by
 cases o with
 |none=>cases h
 |some y=>exact⟨y,rfl,h⟩
def Xfk{α:Type}{p:Prop}[Decidable p]{x:Option α}{r:α}(h:grd p x=some r):p/\x=some r:=by unfold grd at h;simp_all
def Xae{α β:Type}{G:Prop}{o:Option α}{f:α->Option β}{r:β}(h:bnd o f=some r)(k:∀y,o=some y->f y=some r->G):G:=(Xfj h).elim λy hy=>k y hy.1 hy.2
def XqY{α β:Type}{G:Prop}{o:Option α}{f:α->Option β}{r:β}{y:α}(h:bnd o f=some r)(hy:o=some y)(k:o=some y->f y=some r->G):G:=by have⟨z,hz,hr⟩:=Xfj h;simp_all
def XqZ{α:Type}{G p:Prop}[Decidable p]{x:Option α}{r:α}(h:grd p x=some r)(k:p->x=some r->G):G:=k (Xfk h).1 (Xfk h).2
def XsY{κ α:Type}{G:Prop}{k:κ}{f:κ->Option α}{r:α}(h:jn k f=some r)(g:f k=some r->G):G:=g h
def Xq0{α β γ:Type}{G:Prop}{b:β}{f:α->Option γ}{k:β->Option γ}{r:γ}(h:exK (.nxt b) f k=some r)(g:k b=some r->G):G:=g h
def Xq1{α β γ:Type}{G:Prop}{a:α}{f:α->Option γ}{k:β->Option γ}{r:γ}(h:exK (.ret a) f k=some r)(g:f a=some r->G):G:=g h
def Xn{α:Type}{G:Prop}{x r:α}(h:some x=some r)(k:x=r->G):G:=k (WK h)
def Yw{α:Type}{G:Prop}{r:α}(h:none=some r):G:=by grind
def Xej{α:Type}{l:List α}{i:Int}{p:α}(h:Xb l i=some p):0<=i/\i<l.length:=by unfold Xb at h;grind
def Xek{α:Type}{l:List α}{i:Int}{p:α}(h:Xb l i=some p):i.toNat<l.length:=by have:=Xej h;omega
def Xel{α β:Type}{l:List α}{i:Int}{p:α}(h:Xb l i=some p)(e:α->List β):(l.map e).getD i.toNat []=e p:=by unfold Xb at h;simp_all
def Yn{α:Type}{l:List α}{i n:Int}{b:Prop}{β:Type}{f:α->Option β}{r:β}(hr:bnd (Xb l i) f=some r)(hn:(l.length:Int)=n)(k:∀p,Xb l i=some p->i.toNat<l.length->(∀(γ:Type)(e:α->List γ),(l.map e).getD i.toNat []=e p)->f p=some r->b):(0<=i/\i<n)/\b:=
 Xae hr λp hp hr=>⟨hn▸Xej hp,k p hp (Xek hp) (λ_ e=>Xel hp e) hr⟩
def Yq{α:Type}{l:List α}{i n:Int}{b:Prop}{β:Type}{f:α->Option β}{r:β}{p:α}(hr:bnd (Xb l i) f=some r)(hp:Xb l i=some p)(hn:(l.length:Int)=n)(k:Xb l i=some p->i.toNat<l.length->(∀(γ:Type)(e:α->List γ),(l.map e).getD i.toNat []=e p)->f p=some r->b):(0<=i/\i<n)/\b:=
 XqY hr hp λhp hr=>⟨hn▸Xej hp,k hp (Xek hp) (λ_ e=>Xel hp e) hr⟩
def Xdy{α:Type}{l:List α}{i n:Int}{b:Prop}{β:Type}{f:α->Option β}{r:β}(hr:bnd (Xb l i) f=some r)(hn:(l.length:Int)=n)(k:∀p,Xb l i=some p->i.toNat<l.length->(∀(γ:Type)(e:α->List γ),(l.map e).getD i.toNat []=e p)->f p=some r->b):i<n/\b:=
 Xae hr λp hp hr=>⟨(hn▸Xej hp).2,k p hp (Xek hp) (λ_ e=>Xel hp e) hr⟩
def Km{α:Type}(l:List α)(o n:Nat)(i:Int):Option α:=if 0<=i/\i<n then l[o+i.toNat]? else none
def XgN{α:Type}{l:List α}{o n:Nat}{i:Int}{p:α}(h:Km l o n i=some p):(0<=i/\i<n)/\l[o+i.toNat]? = some p:=by unfold Km at h;simp_all
def XhR{α:Type}{l:List α}{o n:Nat}{i:Int}{b:Prop}{β:Type}{f:α->Option β}{r:β}(hr:bnd (Km l o n i) f=some r)(k:∀p,Km l o n i=some p->o+i.toNat<l.length->(∀(γ:Type)(e:α->List γ),(l.map e).getD (o+i.toNat) []=e p)->f p=some r->b):(0<=i/\i<n)/\b:=
 Xae hr λp hp hr=>⟨(XgN hp).1,k p hp (Ii.1 (XgN hp).2).1 (λ_ e=>by rw[Wp,List.getElem?_map,(XgN hp).2];rfl) hr⟩
def Xo6{α:Type}{l:List α}{o n:Nat}{i:Int}{b:Prop}{β:Type}{f:α->Option β}{r:β}(hr:bnd (Km l o n i) f=some r)(k:∀p,Km l o n i=some p->o+i.toNat<l.length->(∀(γ:Type)(e:α->List γ),(l.map e).getD (o+i.toNat) []=e p)->f p=some r->b):i<n/\b:=
 let ⟨h1,h2⟩:=XhR hr k;⟨h1.2,h2⟩
attribute [irreducible] bnd grd jn exK Xb Km
inductive D where
 |any
 |v (x:Value)
 |agg (cs:List D)
 |tup (cs:List D)
 |nsl
 |isl (E z:Nat) (es:List (List D))
 |osl (id ver z off len:Nat)
 |ept (id ver z i c:Nat)
 |ipt (z:Nat) (cs:List D) (c:Nat)
 |clo (fn:Fn) (first caps:List D)
 |ifc (t:TypeId) (d:D)
 |fsl (E z:Nat) (es:List (List D))
 |omp (id ver:Nat)
 |fmp (k:IntKind) (ks:List Int) (vs:List D)
 deriving Inhabited
abbrev Mem:=Nat->Nat->Option Value
abbrev Loc:=Nat->Nat->Option (Option (Nat×Nat))
def Yu:Loc:=λ_ _=>none
def Xp:Nat:=140737488355328
def wfV:Value->Prop
 |.int k n=>k.min<=n/\n<=k.max
 |.agg _=>False
 |_=>True
mutual
def Rep(P:Program)(M:Mem):Loc->D->Value->Prop
 |_,.any,_=>True
 |_,.v x,y=>y=x/\wfV x
 |β,.agg cs,y=>∃vs,y=.agg ⟨vs⟩/\RepL P M β cs vs
 |β,.tup cs,y=>∃vs,y=.tuple ⟨vs⟩/\RepL P M β cs vs
 |_,.nsl,y=>∃a,y=.slice a 0 0
 |_,.isl E z es,y=>(∀e∈es,e.length=z)/\es.length<=Xp/\es.length*P.bytesOf E<=Xp /\
  ∃a cap,y=.slice a es.length cap/\es.length<=cap/\(es=[]\/∃b o,a=some ⟨b,o,none⟩/\RepE P M es b o)
 |β,.osl id ver z off len,y=>(β id ver=some none/\off=0/\len=0/\∃a,y=.slice a 0 0) \/
  ∃b cb o cap,β id ver=some (some (b,cb))/\y=.slice (some ⟨b,o,none⟩) len cap/\len<=cap/\off+cap=cb/\(o=off*z\/cap=0)
 |β,.ept id ver z i c,y=>∃b cb,β id ver=some (some (b,cb))/\y=.pointer (some ⟨b,i*z+c,none⟩)
 |_,.ipt z cs c,y=>cs.length=z/\∃b o,y=.pointer (some ⟨b,o+c,none⟩)/\RepC P M cs b o
 |β,.clo fn fs cs,y=>∃a b,y=.func fn ⟨a⟩ ⟨b⟩/\RepL P M β fs a/\RepL P M β cs b
 |β,.ifc t d,y=>∃x,y=.iface t x/\Rep P M β d x
 |_,.fsl _ _ _,_=>False
 |_,.fmp _ _ _,_=>False
 |β,.omp id ver,y=>∃b cb,β id ver=some (some (b,cb))/\y=.map (some b)
def RepL(P:Program)(M:Mem):Loc->List D->List Value->Prop
 |_,[],vs=>vs=[]
 |β,d::ds,vs=>∃x xs,vs=x::xs/\Rep P M β d x/\RepL P M β ds xs
def RepC(P:Program)(M:Mem):List D->Nat->Nat->Prop
 |[],_,_=>True
 |d::ds,b,o=>(∃x,M b o=some x/\Rep P M Yu d x)/\RepC P M ds b (o+1)
def RepE(P:Program)(M:Mem):List (List D)->Nat->Nat->Prop
 |[],_,_=>True
 |ds::es,b,o=>RepC P M ds b o/\RepE P M es b (o+ds.length)
end
def MLe(M M':Mem):Prop:=∀b o x,M b o=some x->M' b o=some x
def BLe(β β':Loc):Prop:=∀i k x,β i k=some x->β' i k=some x
def MLe.refl(M:Mem):MLe M M:=λ_ _ _ h=>h
def BLe.refl(β:Loc):BLe β β:=λ_ _ _ h=>h
def MLe.trans{a b c:Mem}(h:MLe a b)(k:MLe b c):MLe a c:=λ_ _ _ e=>k _ _ _ (h _ _ _ e)
def BLe.trans{a b c:Loc}(h:BLe a b)(k:BLe b c):BLe a c:=λ_ _ _ e=>k _ _ _ (h _ _ _ e)
def BLe.zero(β:Loc):BLe Yu β:=λ_ _ _ h=>by cases h
variable {P:Program}
mutual
def Rep.mono{M M':Mem}{β β':Loc}(hM:MLe M M')(hB:BLe β β'):∀{d:D}{y:Value},Rep P M β d y->Rep P M' β' d y
 |.any,_,_=>by simp[Rep]
 |.v x,y,h=>by assumption
 |.agg cs,y,h=>by have⟨vs,e,h⟩:=h;exact⟨vs,e,RepL.mono hM hB h⟩
 |.tup cs,y,h=>by have⟨vs,e,h⟩:=h;exact⟨vs,e,RepL.mono hM hB h⟩
 |.nsl,y,h=>by assumption
 |.isl E z es,y,h=>by
  have⟨h1,h2,h3,a,cap,e,hle,h⟩:=h;refine⟨h1,h2,h3,a,cap,e,hle,?_⟩;rcases h with h|⟨b,o,e',h⟩
  .simp_all
  exact .inr ⟨b,o,e',RepE.mono hM h⟩
 |.osl id ver z off len,y,h=>by
  rcases h with⟨h1,h2⟩|⟨b,cb,o,cap,h1,h2⟩
  .exact .inl ⟨hB _ _ _ h1,h2⟩
  exact .inr ⟨b,cb,o,cap,hB _ _ _ h1,h2⟩
 |.ept id ver z i c,y,h=>by have⟨b,cb,h1,h2⟩:=h;exact⟨b,cb,hB _ _ _ h1,h2⟩
 |.ipt z cs c,y,h=>by have⟨hz,b,o,e,h⟩:=h;exact⟨hz,b,o,e,RepC.mono hM h⟩
 |.clo fn fs cs,y,h=>by have⟨a,b,e,h1,h2⟩:=h;exact⟨a,b,e,RepL.mono hM hB h1,RepL.mono hM hB h2⟩
 |.ifc t d,y,h=>by have⟨x,e,h⟩:=h;exact⟨x,e,Rep.mono hM hB h⟩
 |.fsl _ _ _,y,h=>by assumption
 |.fmp _ _ _,y,h=>by assumption
 |.omp id ver,y,h=>by have⟨b,cb,h1,h2⟩:=h;exact⟨b,cb,hB _ _ _ h1,h2⟩
def RepL.mono{M M':Mem}{β β':Loc}(hM:MLe M M')(hB:BLe β β'):∀{ds:List D}{vs:List Value},RepL P M β ds vs->RepL P M' β' ds vs
 |[],_,h=>by assumption
 |d::ds,vs,h=>by have⟨x,xs,e,h1,h2⟩:=h;exact⟨x,xs,e,Rep.mono hM hB h1,RepL.mono hM hB h2⟩
def RepC.mono{M M':Mem}(hM:MLe M M'):∀{ds:List D}{b o:Nat},RepC P M ds b o->RepC P M' ds b o
 |[],_,_,_=>by simp[RepC]
 |d::ds,b,o,h=>by have⟨⟨x,e,h1⟩,h2⟩:=h;exact⟨⟨x,hM _ _ _ e,Rep.mono hM (BLe.refl _) h1⟩,RepC.mono hM h2⟩
def RepE.mono{M M':Mem}(hM:MLe M M'):∀{es:List (List D)}{b o:Nat},RepE P M es b o->RepE P M' es b o
 |[],_,_,_=>by simp[RepE]
 |ds::es,b,o,h=>by exact⟨RepC.mono hM h.1,RepE.mono hM h.2⟩
end
def RepL.length{M:Mem}{β:Loc}:∀{ds:List D}{vs:List Value},RepL P M β ds vs->vs.length=ds.length
 |[],_,h=>by simp_all[RepL,h]
 |d::ds,vs,h=>by obtain⟨x,xs,rfl,_,h2⟩:=h;simp[RepL.length h2]
def RepL.get{M:Mem}{β:Loc}:∀{ds:List D}{vs:List Value},RepL P M β ds vs->∀(i:Nat)(d:D),ds[i]? = some d->∃x,vs[i]? = some x/\Rep P M β d x
 |[],_,_,i,d,hd=>by simp_all
 |e::ds,vs,h,i,d,hd=>by
  obtain⟨x,xs,rfl,h1,h2⟩:=h;cases i with
  |zero=>simp_all
  |succ i=>exact RepL.get h2 i d hd
def RepL.of{M:Mem}{β:Loc}:∀{ds:List D}{vs:List Value},vs.length=ds.length->(∀(i:Nat)(d:D)(x:Value),ds[i]? = some d->vs[i]? = some x->Rep P M β d x)->RepL P M β ds vs
 |[],vs,hl,_=>by simp_all[RepL,hl]
 |d::ds,vs,hl,h=>by
  cases vs with
  |nil=>simp_all
  |cons x xs=>exact⟨x,xs,rfl,h 0 d x ab ab,RepL.of (by simp_all) λ(i:Nat) d' x' hd hx=>h (i+1) d' x' ag ag⟩
def RepL.append{M:Mem}{β:Loc}{ds es:List D}{vs xs:List Value}(h:RepL P M β ds vs)(k:RepL P M β es xs):RepL P M β (ds++es) (vs++xs):=by
 induction ds generalizing vs with
 |nil=>simp_all[RepL,h]
 |cons d ds ih=>grind[RepL]
def RepC.get{M:Mem}:∀{ds:List D}{b o:Nat},RepC P M ds b o->∀(i:Nat)(d:D),ds[i]? = some d->∃x,M b (o+i)=some x/\Rep P M Yu d x
 |[],_,_,_,i,d,hd=>by simp_all
 |e::ds,b,o,h,i,d,hd=>by
  have⟨⟨x,e1,h1⟩,h2⟩:=h;cases i with
  |zero=>simp_all
  |succ i=>have⟨y,hy,hr⟩:=RepC.get h2 i d hd;grind
def RepC.of{M:Mem}:∀{ds:List D}{b o:Nat},(∀(i:Nat)(d:D),ds[i]? = some d->∃x,M b (o+i)=some x/\Rep P M Yu d x)->RepC P M ds b o
 |[],_,_,_=>by simp[RepC]
 |e::ds,b,o,h=>by refine⟨by simpa using h 0 e ab,RepC.of λ(i:Nat) d hd=>?_⟩;have⟨x,hx,hr⟩:=h (i+1) d (by simpa using hd);grind
def RepE.get{M:Mem}{z:Nat}:∀{es:List (List D)}{b o:Nat},(∀e∈es,e.length=z)->RepE P M es b o->∀(i:Nat)(e:List D),es[i]? = some e->RepC P M e b (o+i*z)
 |[],_,_,_,_,i,e,he=>by simp_all
 |d::es,b,o,hz,h,i,e,he=>by
  simp only[RepE]at h;cases i with
  |zero=>simp_all
  |succ i=>have h1:=RepE.get (λe' h'=>hz e' (by simp[h'])) h.2 i e he;grind
def RepE.of{M:Mem}{z:Nat}:∀{es:List (List D)}{b o:Nat},(∀e∈es,e.length=z)->(∀(i:Nat)(e:List D),es[i]? = some e->RepC P M e b (o+i*z))->RepE P M es b o
 |[],_,_,_,_=>by simp[RepE]
 |d::es,b,o,hz,h=>by refine⟨by simpa using h 0 d ab,RepE.of (z:=z) (λe' h'=>hz e' (by simp[h'])) λ(i:Nat) e he=>?_⟩;have h1:=h (i+1) e (by exact he);grind
mutual
def Wf(P:Program):D->Prop
 |.v x=>wfV x
 |.agg cs=>WfL P cs
 |.tup cs=>WfL P cs
 |.isl E z es=>(∀e∈es,e.length=z)/\es.length<=Xp/\es.length*P.bytesOf E<=Xp/\WfE P es
 |.ipt _ cs _=>WfL P cs
 |_=>True
def WfL(P:Program):List D->Prop
 |[]=>True
 |d::ds=>Wf P d/\WfL P ds
def WfE(P:Program):List (List D)->Prop
 |[]=>True
 |e::es=>WfL P e/\WfE P es
end
mutual
def Rep.wf{M:Mem}{β:Loc}:∀{d:D}{y:Value},Rep P M β d y->Wf P d
 |.any,_,_=>by simp[Wf]
 |.v x,y,h=>by simp_all[Rep,Wf]
 |.agg cs,y,h=>by have⟨vs,_,h⟩:=h;exact RepL.wf h
 |.tup cs,y,h=>by have⟨vs,_,h⟩:=h;exact RepL.wf h
 |.nsl,_,_=>by simp[Wf]
 |.isl E z es,y,h=>by
  have⟨h1,h2,h3,a,cap,_,_,h⟩:=h;refine⟨h1,h2,h3,?_⟩;rcases h with rfl|⟨b,o,_,h⟩
  .simp[WfE]
  exact RepE.wf h
 |.osl ..,_,_=>by simp[Wf]
 |.ept ..,_,_=>by simp[Wf]
 |.ipt z cs c,y,h=>by have⟨_,b,o,_,h⟩:=h;exact RepC.wf h
 |.clo ..,_,_=>by simp[Wf]
 |.ifc ..,_,_=>by simp[Wf]
 |.fsl ..,_,_=>by simp[Wf]
 |.fmp ..,_,_=>by simp[Wf]
 |.omp ..,_,_=>by simp[Wf]
def RepL.wf{M:Mem}{β:Loc}:∀{ds:List D}{vs:List Value},RepL P M β ds vs->WfL P ds
 |[],_,_=>by simp[WfL]
 |d::ds,vs,h=>by have⟨x,xs,_,h1,h2⟩:=h;exact⟨Rep.wf h1,RepL.wf h2⟩
def RepC.wf{M:Mem}:∀{ds:List D}{b o:Nat},RepC P M ds b o->WfL P ds
 |[],_,_,_=>by simp[WfL]
 |d::ds,b,o,h=>by have⟨⟨x,_,h1⟩,h2⟩:=h;exact⟨Rep.wf h1,RepC.wf h2⟩
def RepE.wf{M:Mem}:∀{es:List (List D)}{b o:Nat},RepE P M es b o->WfE P es
 |[],_,_,_=>by simp[WfE]
 |e::es,b,o,h=>by exact⟨RepC.wf h.1,RepE.wf h.2⟩
end
inductive Ob where
 |arr (bx:Bool) (E z:Nat) (es:List (List D)) (fz:Nat)
 |mp (k:IntKind) (es:List (Int×D))
 |raw (o:Obj)
 deriving Inhabited
def Ob.bx:Ob->Bool
 |.arr b _ _ _ _=>b
 |.mp ..=>false
 |.raw _=>false
def Xem(bx:Bool)(β:Loc):Loc:=if bx then β else Yu
def Xm1(bx:Bool)(β:Loc):BLe (Xem bx β) β:=by
 cases bx
 .exact BLe.zero β
 exact BLe.refl β
def Xdz(bx:Bool){β β':Loc}(h:BLe β β'):BLe (Xem bx β) (Xem bx β'):=by
 cases bx
 .exact BLe.refl _
 exact h
def EntL(P:Program)(M:Mem)(k:IntKind):List MapEntry->List (Int×D)->Prop
 |[],es=>es=[]
 |e::l,es=>∃x d es',es=(x,d)::es'/\e.key=.int k x/\Rep P M Yu d e.val/\EntL P M k l es'
def EntL.mono{P:Program}{M M':Mem}(hM:MLe M M'){k:IntKind}:∀{l:List MapEntry}{es:List (Int×D)},EntL P M k l es->EntL P M' k l es
 |[],_,h=>h
 |e::l,es,⟨x,d,es',h1,h2,h3,h4⟩=>⟨x,d,es',h1,h2,h3.mono hM (BLe.refl _),EntL.mono hM h4⟩
def EntL.length{P:Program}{M:Mem}{k:IntKind}:∀{l:List MapEntry}{es:List (Int×D)},EntL P M k l es->l.length=es.length
 |[],_,h=>by simp_all[EntL]
 |e::l,es,⟨x,d,es',h1,h2,h3,h4⟩=>by subst h1;simp[EntL.length h4]
def ObRep(P:Program)(M:Mem)(β:Loc)(w:World):Option (Nat×Nat)->Ob->Prop
 |none,.arr bx _ _ es fz=>bx=false/\es=[]/\fz=0
 |some (b,cb),.arr bx E z es fz=>∃cs T,w.heap[b]? = some (.cells cs T (0,0))/\cs.size=cb*z/\(∀e∈es,e.length=z)/\es.length<=cb /\
  es.length<=Xp/\es.length*P.bytesOf E<=Xp/\fz<=es.length/\(∀x∈cs,x.oneCell'=true) /\
  (∀o,M b o=if o<fz*z then cs[o]? else none)/\∀(i:Nat)(d:D),es.flatten[i]? = some d->∃x,cs[i]? = some x/\Rep P M (Xem bx β) d x
 |some (b,cb),.mp k es=>cb=0/\es.length<=Xp/\(∀o,M b o=none)/\∃ents clock,w.heap[b]? = some (.map ents clock)/\EntL P M k ents.toList es /\
  (ents.toList.map (·.born)).Pairwise (·<·)/\∀e∈ents.toList,e.born<clock
 |some (b,cb),.raw o=>cb=0/\(∀i,M b i=none)/\w.heap[b]? = some o
 |_,_=>False
def MemOK(M:Mem)(w:World):Prop:=∀b o x,M b o=some x->w.cell? ⟨b,o,none⟩=some x/\x.oneCell'=true
inductive OB where
 |struct (fs:List (Nat×Nat×Nat))
 |array (n e sz:Nat)
 |slice (e sz:Nat)
 |int (k:IntKind)
 |bool
 |str
 |iface
 |other
structure I8 where
 size:Nat
 bytes:Nat
 zero:Value
 k:OB
def I8.isAgg(t:I8):Bool:=match t.k with|.struct _|.array _ _ _=>true|_=>false
def I8.isIface(t:I8):Bool:=match t.k with|.iface=>true|_=>false
def J5(P:Program):TypeDesc->OB
 |.struct fs=>.struct (fs.toList.map λf=>(f.offset,P.cellsOf f.type,f.type))
 |.array n e=>.array n e (P.cellsOf e)
 |.slice e=>.slice e (P.cellsOf e)
 |.int k=>.int k
 |.bool=>.bool
 |.string=>.str
 |.interface _=>.iface
 |_=>.other
def Xj0(P:Program):TypeDesc->Bool
 |.struct fs=>fs.toList.all (λf=>((P.info? f.type).map (·.size)).isSome)
 |_=>true
def Xo(P:Program)(t:TypeId):Option I8:=
 match P.info? t,P.underlying t with
 |some i,some d=>match i.zero with
  |some z=>if Xj0 P d then some ⟨i.size,i.bytes,z,J5 P d⟩else none
  |none=>none
 |_,_=>none
def upd{α:Type}(f:Nat->α)(i:Nat)(x:α):Nat->α:=λj=>if j=i then x else f j
theorem YC{α:Type}(f:Nat->α)(i:Nat)(x:α):upd f i x i=x:=by simp[upd]
def Yb{α:Type}(f:Nat->α)(i j:Nat)(x:α)(h:j≠i):upd f i x j=f j:=by simp[upd,h]
def okV:Value->Bool
 |.int k n=>decide (k.min<=n)&&decide (n<=k.max)
 |.agg _=>false
 |_=>true
def XiS{x:Value}(h:okV x=true):wfV x:=by cases x<;>simp_all[okV,wfV]
def Xj1:Value->D
 |.slice none 0 0=>.nsl
 |x=>if okV x then .v x else .any
def ofV:Value->D
 |.agg cs=>.agg (cs.toList.map Xj1)
 |x=>Xj1 x
def ev(t:Nat->D)(G:Nat->Option (List D)):Operand->D
 |.tmp i=>t i
 |.const x=>ofV x
 |.global g=>match G g with|some cs=>.ipt cs.length cs 0|none=>.any
 |.func f=>.clo (.func f) [] []
def D.one:D->Bool
 |.any|.agg _|.tup _|.fsl _ _ _|.fmp _ _ _=>false
 |.v x=>x.oneCell'
 |_=>true
def D.cells:D->Option (List D)
 |.agg cs=>if cs.all D.one then some cs else none
 |d=>if d.one then some [d]else none
def Z7(e:List D)(c:Nat)(cs:List D):List D:=e.take c++cs++e.drop (c+cs.length)
abbrev Heap:=Nat->Option (Nat×Ob)
abbrev Up:=List (Nat×Nat×Ob)
def app(s:Heap):Up->Heap
 |[]=>s
 |(i,v,o)::u=>app (upd s i (some (v,o))) u
mutual
def snap(s:Heap):D->Option (Prop×D×List Nat)
 |.osl id ver z off len=>match s id with
  |some (ver',.arr false E z' es _)=>if ver=ver'/\z=z' then some (off+len<=es.length,.isl E z ((es.drop off).take len),[id])else none
  |_=>none
 |.agg cs=>match Zx s cs with
  |some (c,ds,l)=>some (c,.agg ds,l)
  |none=>none
 |.tup cs=>match Zx s cs with
  |some (c,ds,l)=>some (c,.tup ds,l)
  |none=>none
 |.clo fn a b=>match Zx s a,Zx s b with
  |some (c,a',l),some (c',b',l')=>some (c/\c',.clo fn a' b',l++l')
  |_,_=>none
 |.ifc t d=>match snap s d with
  |some (c,e,l)=>some (c,.ifc t e,l)
  |none=>none
 |.any=>some (True,.any,[])
 |.v x=>some (True,.v x,[])
 |.nsl=>some (True,.nsl,[])
 |.isl E z es=>some (True,.isl E z es,[])
 |.ipt z cs c=>some (True,.ipt z cs c,[])
 |_=>none
def Zx(s:Heap):List D->Option (Prop×List D×List Nat)
 |[]=>some (True,[],[])
 |d::ds=>match snap s d,Zx s ds with
  |some (c,e,l),some (c',es,l')=>some (c/\c',e::es,l++l')
  |_,_=>none
end
def J6(s:Heap):List (Nat×D)->Option (Prop×List (Nat×D)×List Nat)
 |[]=>some (True,[],[])
 |(i,d)::ds=>match snap s d,J6 s ds with
  |some (c,e,l),some (c',es,l')=>some (c/\c',(i,e)::es,l++l')
  |_,_=>none
def Xdm:Nat×Ob->Nat×Ob
 |(v,.arr false E z es _)=>(v,.arr false E z es es.length)
 |x=>x
def Xaf(s:Heap):List Nat->Up
 |[]=>[]
 |i::l=>match s i with
  |some x=>(i,Xdm x)::Xaf s l
  |none=>Xaf s l
def Xen(s:Heap):D->Option (Prop×List D×Nat×Nat)
 |.ipt z cs c=>some (True,cs,c,z)
 |.ept id ver z i c=>match s id with
  |some (ver',.arr _ _ z' es _)=>if ver=ver'/\z=z' then some (i<es.length,es.getD i [],c,z)else none
  |_=>none
 |_=>none
def Jm(ty:I8):Option (List D):=(ofV ty.zero).cells
def elems(s:Heap)(z:Nat):D->Option (Prop×List (List D))
 |.nsl=>some (True,[])
 |.v (.slice _ 0 _)=>some (True,[])
 |.isl _ z' es=>if z=z' then some (True,es)else none
 |.osl id ver z' off len=>match s id with
  |some (ver',.arr false _ z'' es _)=>if ver=ver'/\z=z'/\z'=z'' then some (off+len<=es.length,(es.drop off).take len)else none
  |_=>none
 |_=>none
def KS(isAgg:Bool)(cs:List D):D:=if isAgg then .agg cs else cs.headD .any
def Xb0(place:Nat->Option (Nat×Nat)):List D->List (Nat×D)->Option (List D)
 |cs,[]=>some cs
 |cs,(i,d)::rest=>match place i,d.cells with
  |some (off,sz),some ds=>if ds.length=sz/\off+sz<=cs.length then Xb0 place (Z7 cs off ds) rest else none
  |_,_=>none
def Xb1(z:Nat):List (List D)->List (Nat×D)->Option (List (List D))
 |es,[]=>some es
 |es,(i,d)::rest=>match d.cells with
  |some ds=>if ds.length=z/\i<es.length then Xb1 z (es.set i ds) rest else none
  |_=>none
def Xeo:Option IntKind->D->D->Option Bool
 |some _,.v (.int j a),.v (.int k b)=>if j=k then some (a==b)else none
 |none,.v (.bool a),.v (.bool b)=>some (a==b)
 |_,_,_=>none
def Ye:List (Option IntKind)->List D->List D->Option Bool
 |[],[],[]=>some true
 |k::ks,x::xs,y::ys=>match Xeo k x y,Ye ks xs ys with
  |some a,some b=>some (a&&b)
  |_,_=>none
 |_,_,_=>none
def ZD(P:Program):Nat->List Field->Option (List (Option IntKind))
 |_,[]=>some []
 |n,f::fs=>if(f.offset==n)&&(f.name != "_")then
  match P.underlying f.type with
  |some (.int k)=>(ZD P (n+1) fs).map (some k::·)
  |some .bool=>(ZD P (n+1) fs).map (none::·)
  |_=>none
  else none
def Yc(P:Program)(t:TypeId):Option (List (Option IntKind)):=
 match P.underlying t with
 |some (.struct fs)=>if P.stoodInHeld t||P.eqGuardType P.depth t then none else ZD P 0 fs.toList
 |some (.array n e)=>if P.eqGuardType P.depth t then none else match P.underlying e,P.info? e with
  |some (.int k),some _=>if P.cellsOf e=1 then some (List.replicate n (some k))else none
  |_,_=>none
 |_=>none
def JZ(op:BinOp)(k:IntKind)(a b:Int):Option (Prop×Value):=
 match op with
 |.add=>some (True,.int k (k.wrap (a+b)))
 |.sub=>some (True,.int k (k.wrap (a-b)))
 |.mul=>some (True,.int k (k.wrap (a*b)))
 |.quo=>some (b≠0,.int k (k.wrap (a.tdiv b)))
 |.rem=>some (b≠0,.int k (a.tmod b))
 |.and=>some (True,.int k (k.wrap (BitVec.ofInt k.bits a &&& BitVec.ofInt k.bits b).toNat))
 |.or=>some (True,.int k (k.wrap (BitVec.ofInt k.bits a |||BitVec.ofInt k.bits b).toNat))
 |.xor=>some (True,.int k (k.wrap (BitVec.ofInt k.bits a ^^^ BitVec.ofInt k.bits b).toNat))
 |.andNot=>some (True,.int k (k.wrap (BitVec.ofInt k.bits a &&& ~~~ BitVec.ofInt k.bits b).toNat))
 |.eql=>some (True,.bool (a==b))
 |.neq=>some (True,.bool (a != b))
 |.lss=>some (True,.bool (a<b))
 |.leq=>some (True,.bool (a<=b))
 |.gtr=>some (True,.bool (a>b))
 |.geq=>some (True,.bool (a>=b))
 |_=>none
def YL(P:Program)(op:BinOp)(T:TypeId):D->D->Option (Prop×D)
 |.v (.int k a),.v (.int k' b)=>match op with
  |.shl=>some (0<=b,.v (.int k (k.wrap (a*2 ^ min b.toNat k.bits))))
  |.shr=>some (0<=b,.v (.int k (a.fdiv (2 ^ min b.toNat k.bits))))
  |op=>if k=k' then(JZ op k a b).map λr=>(r.1,.v r.2)else none
 |.v (.bool a),.v (.bool b)=>match Xo P T with
  |some ⟨_,_,_,.bool⟩=>match op with
   |.eql=>some (True,.v (.bool (a==b)))
   |.neq=>some (True,.v (.bool (!(a==b))))
   |_=>none
  |_=>none
 |.agg xs,.agg ys=>match Yc P T with
  |some ks=>match Ye ks xs ys,op with
   |some b,.eql=>some (True,.v (.bool b))
   |some b,.neq=>some (True,.v (.bool (!b)))
   |_,_=>none
  |none=>none
 |_,_=>none
def ivD:D->Option Int
 |.v (.int _ n)=>some n
 |_=>none
def ivO(t:Operand->D):Option Operand->Option (Option Int)
 |none=>some none
 |some x=>(ivD (t x)).map some
def XgO:Value->Bool
 |.int _ _=>false
 |.bool _=>false
 |.slice none _ _=>true
 |_=>false
def Xb2:Operand->Bool
 |.tmp _=>false
 |.global _=>false
 |.func _=>false
 |.const v=>XgO v
def Xep(P:Program)(op:BinOp)(T:TypeId):D->Option (Prop×D)
 |.isl _ _ es=>match Xo P T,op with
  |some ⟨_,_,_,.slice _ _⟩,.eql=>some (es≠[],.v (.bool false))
  |some ⟨_,_,_,.slice _ _⟩,.neq=>some (es≠[],.v (.bool true))
  |_,_=>none
 |.v (.slice a _ _)=>match Xo P T,op with
  |some ⟨_,_,_,.slice _ _⟩,.eql=>some (True,.v (.bool a.isNone))
  |some ⟨_,_,_,.slice _ _⟩,.neq=>some (True,.v (.bool (!a.isNone)))
  |_,_=>none
 |_=>none
def Xeq(sz:Nat)(lo hi mx:Option Int):D->Option (Prop×D)
 |.nsl=>match mx,hi with
  |some _,none=>none
  |_,_=>some (lo.getD 0=0/\hi.getD 0=0/\mx.getD 0=0,.nsl)
 |.isl E z es=>if z=sz then match mx,hi with
  |none,_=>some (0<=lo.getD 0/\lo.getD 0<=hi.getD es.length/\hi.getD es.length<=es.length,
   .isl E z ((es.drop (lo.getD 0).toNat).take ((hi.getD es.length).toNat-(lo.getD 0).toNat)))
  |some m,some h=>some (lo.getD 0=0/\h=0/\m=0,.nsl)
  |_,_=>none
  else none
 |.osl id ver z off len=>if z=sz then match mx with
  |none=>some (0<=lo.getD 0/\lo.getD 0<=hi.getD len/\hi.getD len<=len,
   .osl id ver z (off+(lo.getD 0).toNat) ((hi.getD len).toNat-(lo.getD 0).toNat))
  |some _=>none
  else none
 |_=>none
def Xdn(P:Program)(s:Heap)(Kw ver E z bytes:Nat)(c0:Prop)(src:List (List D)):D->Option (Prop×D×Up)
 |.nsl=>some (c0/\src.length<=Xp/\src.length*bytes<=Xp,.osl Kw ver z 0 src.length,[(Kw,ver,.arr false E z src 0)])
 |.osl id v z' off len=>match s id with
  |some (v',.arr false E' z'' es fz)=>
   if v=v'/\z=z'/\z=z''/\P.bytesOf E'=bytes then
    if off+len=es.length then
     some (c0/\off=0/\es.length+src.length<=Xp/\(es.length+src.length)*bytes<=Xp,.osl id ver z 0 (len+src.length),[(id,ver,.arr false E' z (es++src) fz)])
    else
     some (c0/\off+len+src.length<=es.length/\fz<=off+len,.osl id v z off (len+src.length),
      [(id,v,.arr false E' z (es.take (off+len)++src++es.drop (off+len+src.length)) fz)])
   else none
  |_=>none
 |_=>none
def Xj2(g:Bool):D->D->D
 |.v (.bool p),.v (.bool q)=>.v (.bool (bif g then p else q))
 |a,b=>match g with
  |true=>a
  |false=>b
def Xbh(P:Program)(T:TypeId):Option (IntKind×TypeId):=match P.underlying T with
 |some (.map K E)=>match P.underlying K with
  |some (.int k)=>some (k,E)
  |_=>none
 |_=>none
def Xdo:List (Int×D)->Int->Option D
 |[],_=>none
 |(x,d)::es,n=>if n=x then some d else Xdo es n
def Xb3:List (Int×D)->Int->D->List (Int×D)
 |[],n,d=>[(n,d)]
 |(x,e)::es,n,d=>if n=x then(x,d)::es else(x,e)::Xb3 es n d
def Xb4:List (Int×D)->Int->List (Int×D)
 |[],_=>[]
 |(x,e)::es,n=>if n=x then es else(x,e)::Xb4 es n
def XgP(P:Program)(s:Heap)(T:TypeId)(m key x:D):Option (Prop×D×Up):=match Xbh P T,m,key with
 |some (k,_),.omp id v,.v (.int k' n)=>match s id with
  |some (v',.mp k2 es)=>match snap s x with
   |some (c,d,l)=>if v=v'/\k=k2/\k=k'/\id∉l then some (c/\es.length<Xp,.v undef,Xaf s l++[(id,v',.mp k (Xb3 es n d))])else none
   |none=>none
  |_=>none
 |_,_,_=>none
def Kw(dst:Option Nat):Nat:=match dst with|some d=>64*d|none=>0
def opF(P:Program)(dst:Option Nat)(ver:Nat)(t:Operand->D)(s:Heap):Op->Option (Prop×D×Up)
 |.move x|.assign x=>some (True,t x,[])
 |.pick c a b=>match t c with
  |.v (.bool g)=>some (True,Xj2 g (t a) (t b),[])
  |_=>none
 |.alloc T=>match Xo P T with
  |some ty=>match Jm ty with
   |some cs=>if cs.length=ty.size/\ty.bytes<=Xp then some (True,.ept (Kw dst) ver ty.size 0 0,[(Kw dst,ver,.arr true T ty.size [cs] 0)])else none
   |none=>none
  |none=>none
 |.box T x=>match Xo P T,(t x).cells with
  |some ty,some cs=>if ty.bytes<=Xp then some (cs.length=ty.size,.ept (Kw dst) ver ty.size 0 0,[(Kw dst,ver,.arr true T ty.size [cs] 0)])else none
  |_,_=>none
 |.build T parts=>match Xo P T with
  |some ty=>match Jm ty,ty.k with
   |some cs,.struct fs=>(Xb0 (λi=>(fs[i]?).map λf=>(f.1,f.2.1)) cs (parts.toList.map λp=>(p.1,t p.2))).map λr=>(True,.agg r,[])
   |some cs,.array _ e sz=>match Xo P e with
    |some _=>(Xb0 (λi=>some (i*sz,sz)) cs (parts.toList.map λp=>(p.1,t p.2))).map λr=>(True,.agg r,[])
    |none=>none
   |_,_=>none
  |none=>none
 |.buildSlice T n parts=>match Xo P T with
  |some ⟨_,_,_,.slice E z⟩=>match Xo P E with
   |some te=>match Jm te with
    |some zc=>if zc.length=z/\te.size=z/\n*z<=16777216/\n*te.bytes<=Xp/\n<=Xp then
     match J6 s (parts.toList.map λp=>(p.1,t p.2))with
     |some (c,ps,l)=>(Xb1 z (List.replicate n zc) ps).map λes=>(c,.osl (Kw dst) ver z 0 n,Xaf s l++[(Kw dst,ver,.arr false E z es 0)])
     |none=>none
     else none
    |none=>none
   |none=>none
  |_=>none
 |.load T a=>match Xo P T,Xen s (t a)with
  |some ty,some (c,cs,o,z)=>if o+ty.size<=z/\(ty.isAgg=true\/ty.size=1)then some (c,KS ty.isAgg ((cs.drop o).take ty.size),[])else none
  |_,_=>none
 |.store T a x=>match Xo P T,t a with
  |some ty,.ept id v z i c=>match s id with
   |some (v',.arr true E z' es fz)=>match (t x).cells with
    |some ds=>if v=v'/\z=z'/\c+ty.size<=z then
     some (i<es.length/\fz<=i/\ds.length=ty.size,.v undef,[(id,v,.arr true E z (es.set i (Z7 (es.getD i []) c ds)) fz)])
     else none
    |none=>none
   |some (v',.arr false E z' es fz)=>match snap s (t x)with
    |some (cc,d,l)=>match d.cells with
     |some ds=>if v=v'/\z=z'/\c+ty.size<=z/\id∉l then
      some (cc/\i<es.length/\fz<=i/\ds.length=ty.size,.v undef,Xaf s l++[(id,v,.arr false E z (es.set i (Z7 (es.getD i []) c ds)) fz)])
      else none
     |none=>none
    |none=>none
   |_=>none
  |_,_=>none
 |.nilCheck x=>match t x with
  |.ept id v z i c=>some (True,.ept id v z i c,[])
  |.ipt z cs c=>some (True,.ipt z cs c,[])
  |_=>none
 |.binOp op T x y _=>(if Xb2 y then Xep P op T (t x)else YL P op T (t x) (t y)).map λr=>(r.1,r.2,[])
 |.unOp op _ x=>match op,t x with
  |.not,.v (.bool b)=>some (True,.v (.bool (!b)),[])
  |.neg,.v (.int k n)=>some (True,.v (.int k (k.wrap (0-n))),[])
  |_,_=>none
 |.convert S T x=>match Xo P S,Xo P T,t x with
  |some _,some ⟨_,_,_,.int k⟩,.v (.int _ n)=>some (True,.v (.int k (k.wrap n)),[])
  |_,_,_=>none
 |.makeFunc fn first captured=>some (True,.clo fn (first.toList.map t) (captured.toList.map t),[])
 |.makeSlice T l c=>match Xo P T,ivD (t l),ivD (t c)with
  |some ⟨_,_,_,.slice E z⟩,some n,some m=>match Xo P E with
   |some te=>match Jm te with
    |some zc=>if zc.length=z/\te.size=z then
     some (0<=n/\m=n/\n.toNat<=Xp/\n.toNat*te.bytes<=Xp,.osl (Kw dst) ver z 0 n.toNat,[(Kw dst,ver,.arr false E z (List.replicate n.toNat zc) 0)])
     else none
    |none=>none
   |none=>none
  |_,_,_=>none
 |.slice T x lo hi mx=>match Xo P T,ivO t lo,ivO t hi,ivO t mx with
  |some ⟨_,_,_,.slice E sz⟩,some l,some h,some m=>match Xo P E with
   |some _=>(Xeq sz l h m (t x)).map λr=>(r.1,r.2,[])
   |none=>none
  |some ⟨_,_,_,.array n E _⟩,some none,some none,some none=>match Xo P E,t x with
   |some te,.ipt z cs 0=>if te.size=1/\z=n/\0<n/\n<=Xp/\n*P.bytesOf E<=Xp then some (cs.length=z,.isl E 1 (cs.map λx=>[x]),[])else none
   |_,_=>none
  |_,_,_,_=>none
 |.fieldAddr T x f=>match Xo P T,t x with
  |some ⟨_,_,_,.struct fs⟩,.ept id v z i c=>match fs[f]? with
   |some (off,sz,_)=>if sz=0 then none else some (True,.ept id v z i (c+off),[])
   |none=>none
  |some ⟨_,_,_,.struct fs⟩,.ipt z cs c=>match fs[f]? with
   |some (off,sz,_)=>if sz=0 then none else some (True,.ipt z cs (c+off),[])
   |none=>none
  |_,_=>none
 |.field T x f=>match Xo P T,t x with
  |some ⟨_,_,_,.struct fs⟩,.agg cs=>match fs[f]? with
   |some (off,sz,ft)=>match Xo P ft with
    |some ty=>if ty.size=sz then some (off+sz<=cs.length/\(ty.isAgg=true\/sz=1),KS ty.isAgg ((cs.drop off).take sz),[])else none
    |none=>none
   |none=>none
  |_,_=>none
 |.indexAddr T x ix=>match Xo P T,t x,ivD (t ix)with
  |some ⟨_,_,_,.slice _ sz⟩,.isl _ z es,some i=>if sz=z/\sz≠0 then some (0<=i/\i<es.length,.ipt z (es.getD i.toNat []) 0,[])else none
  |some ⟨_,_,_,.slice _ sz⟩,.osl id v z off len,some i=>if sz=z/\sz≠0 then some (0<=i/\i<len,.ept id v z (off+i.toNat) 0,[])else none
  |some ⟨_,_,_,.array n _ sz⟩,.ipt z cs c,some i=>if sz=0 then none else some (0<=i/\i<n,.ipt z cs (c+i.toNat*sz),[])
  |some ⟨_,_,_,.array n _ sz⟩,.ept id v z j c,some i=>if sz=0 then none else some (0<=i/\i<n,.ept id v z j (c+i.toNat*sz),[])
  |_,_,_=>none
 |.index T x ix=>match Xo P T,t x,ivD (t ix)with
  |some ⟨_,_,_,.array n e sz⟩,.agg cs,some i=>match Xo P e with
   |some ty=>if ty.size=sz then some (0<=i/\i<n/\(i.toNat+1)*sz<=cs.length/\(ty.isAgg=true\/sz=1),KS ty.isAgg ((cs.drop (i.toNat*sz)).take sz),[])else none
   |none=>none
  |_,_,_=>none
 |.makeMap T r=>match Xbh P T,ivO t r with
  |some (k,_),some _=>some (True,.omp (Kw dst) ver,[(Kw dst,ver,.mp k [])])
  |_,_=>none
 |.mapUpdate T m key x|.insert T m key x=>XgP P s T (t m) (t key) (t x)
 |.lookup T m key ok=>match Xbh P T,t m,t key with
  |some (k,E),.omp id v,.v (.int k' n)=>match s id,Xo P E with
   |some (v',.mp k2 es),some te=>if v=v'/\k=k2/\k=k' then
    some (True,if ok then .tup [(Xdo es n).getD (ofV te.zero),.v (.bool (Xdo es n).isSome)]else(Xdo es n).getD (ofV te.zero),[])
    else none
   |_,_=>none
  |_,_,_=>none
 |.extract x i=>match t x with
  |.tup ds=>if i<ds.length then some (True,ds.getD i .any,[])else none
  |_=>none
 |.makeInterface T x=>match Xo P T with
  |some ty=>if ty.isIface then none else some (True,.ifc T (t x),[])
  |none=>none
 |.typeAssert x _ A ok=>match Xo P A,t x,ok with
  |some te,.ifc T d,true=>if te.isIface then none else if T=A then some (True,.tup [d,.v (.bool true)],[])else some (True,.tup [ofV te.zero,.v (.bool false)],[])
  |some te,.v .nilIface,true=>if te.isIface then none else some (True,.tup [ofV te.zero,.v (.bool false)],[])
  |_,_,_=>none
 |.call ⟨.builtin .len,args,types⟩=>match args.toList.map t,types.toList with
  |[d],[T]=>match Xo P T,d with
   |some ⟨_,_,_,.slice _ _⟩,.nsl=>some (True,.v (.int .i64 0),[])
   |some ⟨_,_,_,.slice _ _⟩,.isl _ _ es=>some (True,.v (.int .i64 es.length),[])
   |some ⟨_,_,_,.slice _ _⟩,.osl _ _ _ _ len=>some (len<=Xp,.v (.int .i64 len),[])
   |some ⟨_,_,_,.array n _ _⟩,_=>if n<=Xp then some (True,.v (.int .i64 n),[])else none
   |_,.omp id v=>match Xbh P T,s id with
    |some (k,_),some (v',.mp k2 es)=>if v=v'/\k=k2 then some (True,.v (.int .i64 es.length),[])else none
    |_,_=>none
   |_,_=>none
  |_,_=>none
 |.call ⟨.builtin .delete,args,types⟩=>match args.toList.map t,types.toList with
  |[.omp id v,.v (.int k' n)],T::_=>match Xbh P T,s id with
   |some (k,_),some (v',.mp k2 es)=>if v=v'/\k=k2/\k=k' then some (True,.tup [],[(id,v',.mp k (Xb4 es n))])else none
   |_,_=>none
  |_,_=>none
 |.call ⟨.builtin .cap,args,types⟩=>match args.toList.map t,types.toList with
  |[d],[T]=>match Xo P T,d with
   |some ⟨_,_,_,.slice _ _⟩,.nsl=>some (True,.v (.int .i64 0),[])
   |_,_=>none
  |_,_=>none
 |.call ⟨.builtin .min,args,_⟩=>match args.toList.map t with
  |[.v (.int j a),.v (.int k b)]=>if j=k then some (True,.v (.int j (if b<a then b else a)),[])else none
  |_=>none
 |.call ⟨.builtin .max,args,_⟩=>match args.toList.map t with
  |[.v (.int j a),.v (.int k b)]=>if j=k then some (True,.v (.int j (if a<b then b else a)),[])else none
  |_=>none
 |.call ⟨.builtin .clear,args,types⟩=>match args.toList.map t,types.toList with
  |[.osl id v z off len],[T]=>match Xo P T with
   |some ⟨_,_,_,.slice E sz⟩=>match Xo P E with
    |some te=>match Jm te,s id with
     |some zc,some (v',.arr false E' z' es fz)=>if v=v'/\z=z'/\z=sz/\te.size=sz/\zc.length=sz then some (off+len<=es.length/\fz<=off,.tup [],[(id,v,.arr false E' z (es.take off++List.replicate len zc++es.drop (off+len)) fz)])else none
     |_,_=>none
    |none=>none
   |_=>none
  |[.omp id v],T::_=>match Xbh P T,s id with
   |some (k,_),some (v',.mp k2 es)=>if v=v'/\k=k2 then some (True,.tup [],[(id,v',.mp k [])])else none
   |_,_=>none
  |_,_=>none
 |.call ⟨.builtin .copy,args,types⟩=>match args.toList.map t,types.toList with
  |[.osl id v z off len,x],T::_=>match Xo P T with
   |some ⟨_,_,_,.slice E sz⟩=>match Xo P E,s id,elems s z x with
    |some te,some (v',.arr false E' z' es fz),some (c,src)=>if v=v'/\z=z'/\z=sz/\te.size=sz then
     some (c/\src.length<=len/\off+len<=es.length/\fz<=off,.v (.int .i64 src.length),[(id,v,.arr false E' z (es.take off++src++es.drop (off+src.length)) fz)])
     else none
    |_,_,_=>none
   |_=>none
  |_,_=>none
 |.call ⟨.builtin .append,args,types⟩=>match args.toList.map t,types.toList with
  |[d,x],[T,T2]=>match Xo P T with
   |some ⟨_,_,_,.slice E z⟩=>match Xo P E with
    |some te=>match Jm te with
     |some zc=>if te.size=z/\zc.length=z then match Xo P T2 with
      |some ⟨_,_,_,.slice _ _⟩=>match elems s z x with
       |some (c,src)=>Xdn P s (Kw dst) ver E z te.bytes c src d
       |none=>none
      |some ⟨_,_,_,.int _⟩=>match ivD x with
       |some n=>Xdn P s (Kw dst) ver E z te.bytes (0<=n/\n<=Xp/\n.toNat*te.bytes<=Xp) (List.replicate n.toNat zc) d
       |_=>none
      |_=>none
      else none
     |none=>none
    |none=>none
   |_=>none
  |_,_=>none
 |_=>none
variable {P:Program}
structure Cx where
 G:Nat->Option (List D)
 M0:Mem
 w0:World
 lb:List Nat
 b0:Loc
 M1:Mem
 off:Nat
 rd:Option Nat
 df:List Deferred
@[reducible] def Cx.sub(C:Cx)(n:Nat)(x:Mem×Loc):Cx:=⟨C.G,C.M0,C.w0,C.lb,x.2,x.1,n,none,[]⟩
structure Kp(w0:World)(lb:List Nat)(w:World):Prop where
 os:w.os=w0.os
 tape:w.tape=w0.tape
 output:w.output=w0.output
 size:w0.heap.size<=w.heap.size
 block:∀k,k<w0.heap.size->k∉lb->w.heap[k]? = w0.heap[k]?
def Kp.refl(w:World)(lb:List Nat):Kp w lb w:=⟨rfl,rfl,rfl,Un _,λ_ _ _=>rfl⟩
structure UP(P:Program)(C:Cx)(s:Heap)(U:Nat->Prop)(M:Mem)(β:Loc)(w:World):Prop where
 mem:MemOK M w
 used:∀id ver x,β id ver=some x->U ver
 obs:∀id v ob,s id=some (v,ob)->∃x,β id v=some x/\ObRep P M β w x ob
 own:∀id v ob b cb,s id=some (v,ob)->β id v=some (some (b,cb))->C.w0.heap.size<=b\/(b∈C.lb/\ob.bx=true)
 inj:∀id v ob id' v' ob' b cb cb',s id=some (v,ob)->s id'=some (v',ob')->β id v=some (some (b,cb))->β id' v'=some (some (b,cb'))->id=id'
 keep:Kp C.w0 C.lb w
 old:∀b o,b<C.w0.heap.size->M b o=C.M0 b o
 le:MLe C.M1 M
 glob:∀g cs,C.G g=some cs->RepC P C.M1 cs g 0
def UP.mono{C:Cx}{s:Heap}{U U':Nat->Prop}{M:Mem}{β:Loc}{w:World}(h:UP P C s U M β w)(hU:∀v,U v->U' v):UP P C s U' M β w:=
 {h with used:=λi v x e=>hU _ (h.used i v x e)}
def MemOK.lt{M:Mem}{w:World}(h:MemOK M w){b o:Nat}{x:Value}(e:M b o=some x):b<w.heap.size:=
 World.block_lt_of_cell? (a:=⟨b,o,none⟩) w (h b o x e).1
def ObRep.lt{M:Mem}{β:Loc}{w:World}{b cb:Nat}{ob:Ob}(h:ObRep P M β w (some (b,cb)) ob):b<w.heap.size:=by
 cases ob with
 |raw o=>have⟨_,_,hh⟩:=h;grind
 |mp kk es=>have⟨_,_,_,ents,clock,hh,_⟩:=h;grind
 |arr bx E z es fz=>have⟨cs,T,hh,_⟩:=h;grind
def ObRep.mono{M M':Mem}{β β':Loc}{w w':World}{x:Option (Nat×Nat)}{ob:Ob}(h:ObRep P M β w x ob)(hM:MLe M M')(hB:BLe β β')(hw:∀b cb,x=some (b,cb)->w'.heap[b]? = w.heap[b]?)(hm:∀b cb,x=some (b,cb)->∀o,M' b o=M b o):ObRep P M' β' w' x ob:=by
 cases ob with
 |raw o=>
  cases x with
  |none=>assumption
  |some bc=>have⟨b,cb⟩:=bc;have⟨h1,h2,h3⟩:=h;exact⟨h1,λo=>(hm b cb rfl o).trans (h2 o),(hw b cb rfl).trans h3⟩
 |mp kk es=>
  cases x with
  |none=>assumption
  |some bc=>have⟨b,cb⟩:=bc;have⟨h1,h2,h3,ents,clock,h4,h5,h6⟩:=h;exact⟨h1,h2,λo=>(hm b cb rfl o).trans (h3 o),ents,clock,(hw b cb rfl).trans h4,h5.mono hM,h6⟩
 |arr bx E z es fz=>
  cases x with
  |none=>assumption
  |some bc=>have⟨b,cb⟩:=bc;have⟨cs,T,h1,h2,h3,h4,h5,h6,h7,h8,h9,h10⟩:=h;refine⟨cs,T,(hw b cb rfl).trans h1,h2,h3,h4,h5,h6,h7,h8,λo=>(hm b cb rfl o).trans (h9 o),λi d hd=>?_⟩;have⟨y,hy,hr⟩:=h10 i d hd;exact⟨y,hy,hr.mono hM (Xdz bx hB)⟩
def UP.set{C:Cx}{s:Heap}{U:Nat->Prop}{M M':Mem}{β β':Loc}{w w':World}(h:UP P C s U M β w)(id ver:Nat)(ob:Ob)(b cb:Nat)(hM:MLe M M')(hB:BLe β β')(hw:∀k,k≠b->w'.heap[k]? = w.heap[k]?)(hm:∀k,k≠b->∀o,M' k o=M k o)(hmem:∀o x,M' b o=some x->w'.cell? ⟨b,o,none⟩=some x/\x.oneCell'=true)(hβ:β' id ver=some (some (b,cb)))(hob:ObRep P M' β' w' (some (b,cb)) ob)(hfree:∀id' v' ob' cb',id'≠id->s id'=some (v',ob')->β id' v'≠some (some (b,cb')))(hown:C.w0.heap.size<=b\/(b∈C.lb/\ob.bx=true))(hold:b<C.w0.heap.size->∀o,M' b o=M b o)(hos:w'.os=w.os)(htape:w'.tape=w.tape)(hout:w'.output=w.output)(hsize:w.heap.size<=w'.heap.size)(hused:∀i v x,β' i v=some x->β i v=some x\/v=ver):UP P C (upd s id (some (ver,ob))) (λv=>U v\/v=ver) M' β' w':=by
 have hsame:∀id' v' ob' x,id'≠id->s id'=some (v',ob')->β' id' v'=some x->β id' v'=some x:=by intro id' v' ob' x hne hs hx;obtain⟨y,hy,_⟩:=h.obs id' v' ob' hs;rw[hB _ _ _ hy]at hx;rw[hy];exact hx
 constructor
 .intro k o x hx;by_cases hk:k=b
  .grind
  rw[hm k hk o]at hx;have:=h.mem k o x hx;refine⟨?_,this.2⟩;rw[←this.1];simp[World.cell?,hw k hk]
 .intro i v x hx;rcases hused i v x hx with hx|rfl
  .exact .inl (h.used i v x hx)
  omega
 .intro id' v ob' hs;by_cases hid:id'=id
  .simp_all[YC]
  rw[Yb _ _ _ _ hid]at hs;have⟨x,hx,hr⟩:=h.obs id' v ob' hs;refine⟨x,hB _ _ _ hx,hr.mono hM hB ?_ ?_⟩
  .rintro k ck rfl;exact hw k λe=>hfree id' v ob' ck hid hs (e▸hx)
  grind
 .intro id' v ob' k ck hs hx;by_cases hid:id'=id
  .simp_all[YC,hβ]
  rw[Yb _ _ _ _ hid]at hs;exact h.own id' v ob' k ck hs (hsame id' v ob' _ hid hs hx)
 .intro id1 v1 ob1 id2 v2 ob2 k c1 c2 hs1 hs2 hx1 hx2;by_cases h1:id1=id
  .by_cases h2:id2=id
   .omega
   subst h1;rw[YC]at hs1;obtain⟨rfl,rfl⟩:=by simpa using hs1
   rw[hβ]at hx1;rw[Yb _ _ _ _ h2]at hs2;grind
  rw[Yb _ _ _ _ h1]at hs1;have hx1':=hsame id1 v1 ob1 _ h1 hs1 hx1;by_cases h2:id2=id
  .subst h2;rw[YC]at hs2;grind
  rw[Yb _ _ _ _ h2]at hs2;exact h.inj id1 v1 ob1 id2 v2 ob2 k c1 c2 hs1 hs2 hx1' (hsame id2 v2 ob2 _ h2 hs2 hx2)
 .refine⟨hos.trans h.keep.os,htape.trans h.keep.tape,hout.trans h.keep.output,Um h.keep.size hsize,λk hk hl=>?_⟩;rw[←h.keep.block k hk hl];grind
 .intro k o hk;by_cases hkb:k=b
  .subst hkb;rw[hold hk o];exact h.old k o hk
  rw[hm k hkb o];exact h.old k o hk
 .exact h.le.trans hM
 exact h.glob
def UP.setNil{C:Cx}{s:Heap}{U:Nat->Prop}{M:Mem}{β β':Loc}{w:World}(h:UP P C s U M β w)(id ver:Nat)(E z:Nat)(hB:BLe β β')(hβ:β' id ver=some none)(hused:∀i v x,β' i v=some x->β i v=some x\/v=ver):UP P C (upd s id (some (ver,.arr false E z [] 0))) (λv=>U v\/v=ver) M β' w:=by
 have hsame:∀id' v' ob' x,id'≠id->s id'=some (v',ob')->β' id' v'=some x->β id' v'=some x:=by intro id' v' ob' x hne hs hx;obtain⟨y,hy,_⟩:=h.obs id' v' ob' hs;rw[hB _ _ _ hy]at hx;rw[hy];exact hx
 constructor
 .exact h.mem
 .intro i v x hx;rcases hused i v x hx with hx|rfl
  .exact .inl (h.used i v x hx)
  omega
 .intro id' v ob' hs;by_cases hid:id'=id
  .grind[YC,ObRep]
  rw[Yb _ _ _ _ hid]at hs;have⟨x,hx,hr⟩:=h.obs id' v ob' hs;exact⟨x,hB _ _ _ hx,hr.mono (MLe.refl _) hB (λ_ _ _=>rfl) (λ_ _ _ _=>rfl)⟩
 .intro id' v ob' k ck hs hx;by_cases hid:id'=id
  .simp_all[YC,hβ]
  rw[Yb _ _ _ _ hid]at hs;exact h.own id' v ob' k ck hs (hsame id' v ob' _ hid hs hx)
 .intro id1 v1 ob1 id2 v2 ob2 k c1 c2 hs1 hs2 hx1 hx2;by_cases h1:id1=id
  .simp_all[YC,hβ]
  by_cases h2:id2=id
  .simp_all[YC,hβ]
  rw[Yb _ _ _ _ h1]at hs1;rw[Yb _ _ _ _ h2]at hs2;exact h.inj id1 v1 ob1 id2 v2 ob2 k c1 c2 hs1 hs2 (hsame id1 v1 ob1 _ h1 hs1 hx1) (hsame id2 v2 ob2 _ h2 hs2 hx2)
 .exact h.keep
 .exact h.old
 .exact h.le
 exact h.glob
def Zf(β:Loc)(id ver:Nat)(x:Option (Nat×Nat)):Loc:=λi v=>if i=id/\v=ver then some x else β i v
theorem XJ(β:Loc)(id ver:Nat) (x):Zf β id ver x id ver=some x:=by simp[Zf]
def YV{β:Loc}{id ver:Nat}{x}(h:β id ver=none):BLe β (Zf β id ver x):=by intro i v y hy;unfold Zf;grind
def Y4{β:Loc}{id ver:Nat}{x}(i v:Nat) (y) (h:Zf β id ver x i v=some y):β i v=some y\/v=ver:=by unfold Zf at h;grind
def UP.fresh{C:Cx}{s:Heap}{U:Nat->Prop}{M:Mem}{β:Loc}{w:World}(h:UP P C s U M β w){ver:Nat}(hv:¬U ver)(id:Nat):β id ver=none:=by
 cases hb:β id ver with
 |none=>rfl
 |some x=>exact absurd (h.used id ver x hb) hv
def XV{z:Nat}:∀{es:List (List D)},(∀e∈es,e.length=z)->es.flatten.length=es.length*z
 |[],_=>by simp
 |e::es,h=>by have ih:es.flatten.length=es.length*z:=XV λe' h'=>h e' (Ul _ h');grind
def Jn{z:Nat}:∀{es:List (List D)},(∀e∈es,e.length=z)->∀(i j:Nat),j<z->es.flatten[i*z+j]? = (es.getD i [])[j]?
 |[],_,i,j,_=>by simp
 |e::es,h,i,j,hj=>by
  have he:e.length=z:=h e ab;cases i with
  |zero=>grind
  |succ i=>
   have:¬(i+1)*z+j<e.length:=by rw[he,Im];omega
   rw[List.flatten_cons,UZ aa,he];have h2:(i+1)*z+j-z=i*z+j:=by rw[Im];omega
   rw[h2,Jn (λe' h'=>h e' (by grind)) i j hj];simp
def YN{z:Nat}{es:List (List D)}(h:∀e∈es,e.length=z)(k:Nat):es.flatten[k]? = (es.getD (k / z) [])[k % z]?:=by
 rcases Ua z with rfl|hz
 .have h0:es.flatten=[]:=WJ (by rw[XV h];simp);grind
 have:=Jn h (k / z) (k % z) (Nat.mod_lt _ hz);simp_all[Nat.div_add_mod']
def Xb5(es:List (List D))(h:∀e∈es,e.length=0)(k:Nat):es.flatten[k]? = none:=by have h0:es.flatten=[]:=WJ (by rw[XV h];simp);grind
def UP.alloc{C:Cx}{s:Heap}{U:Nat->Prop}{M:Mem}{β:Loc}{w w1:World}(h:UP P C s U M β w)(hw1:w1.heap=w.heap/\w1.os=w.os/\w1.tape=w.tape/\w1.output=w.output){ver:Nat}(hv:¬U ver)(bx:Bool)(id E z:Nat)(es:List (List D))(cb:Nat)(cs:Array Value)(T:TypeId)(hcs:cs.size=cb*z)(hz:∀e∈es,e.length=z)(hcb:es.length<=cb)(hl:es.length<=Xp)(hb:es.length*P.bytesOf E<=Xp)(hone:∀x∈cs,x.oneCell'=true)(hrep:∀(i:Nat)(d:D),es.flatten[i]? = some d->∃x,cs[i]? = some x/\Rep P M (Xem bx β) d x):
 UP P C (upd s id (some (ver,.arr bx E z es 0))) (λv=>U v\/v=ver) M (Zf β id ver (some (w.heap.size,cb))) (w1.alloc (.cells cs T)) /\
  BLe β (Zf β id ver (some (w.heap.size,cb))):=by
 have hf:=h.fresh hv id;have hB:BLe β (Zf β id ver (some (w.heap.size,cb))):=YV hf;have hnone:∀o,M w.heap.size o=none:=by
  intro o;cases hx:M w.heap.size o with
  |none=>rfl
  |some x=>exact absurd (h.mem.lt hx) (U8 _)
 have⟨e1,e2,e3,e4⟩:=hw1;have hheap:∀k,k≠w.heap.size->(w1.alloc (.cells cs T)).heap[k]? = w.heap[k]?:=by intro k hk;show(w1.heap.push _)[k]? = _;rw[e1,Array.getElem?_push,Wn hk]
 have hnew:(w1.alloc (.cells cs T)).heap[w.heap.size]? = some (.cells cs T (0,0)):=by show(w1.heap.push _)[w.heap.size]? = _;rw[e1];simp
 refine⟨h.set id ver _ w.heap.size cb (MLe.refl M) hB hheap (λ_ _ _=>rfl) ?_ (XJ ..) ?_ ?_ (.inl h.keep.size) ?_ e2 e3 e4 ?_ Y4,hB⟩
 .intro o x hx;rw[hnone o]at hx;cases hx
 .refine⟨cs,T,hnew,hcs,hz,hcb,hl,hb,UN _,hone,λo=>by simp[hnone o],λi d hd=>?_⟩;have⟨x,hx,hr⟩:=hrep i d hd;exact⟨x,hx,hr.mono (MLe.refl M) (Xdz bx hB)⟩
 .intro id' v' ob' cb' _ hs hx;have⟨y,hy,hr⟩:=h.obs id' v' ob' hs;rw[hx]at hy;obtain rfl:some (w.heap.size,cb')=y:=by simpa using hy
  exact absurd hr.lt (U8 _)
 .intro hlt;exact absurd h.keep.size aa
 simp_all
def UP.write{C:Cx}{s:Heap}{U:Nat->Prop}{M:Mem}{β:Loc}{w:World}(h:UP P C s U M β w){bx:Bool}{id ver E z fz:Nat}{es es':List (List D)}(hs:s id=some (ver,.arr bx E z es fz)){b cb:Nat}(hb:β id ver=some (some (b,cb))){cs cs':Array Value}{T:TypeId}(hcs:w.heap[b]? = some (.cells cs T (0,0)))(hsz:cs'.size=cs.size)(hlen:es'.length=es.length)(hz:∀e∈es',e.length=z)(hone:∀x∈cs',x.oneCell'=true)(hfz:∀o,o<fz*z->cs'[o]? = cs[o]?)(hrep:∀(i:Nat)(d:D),es'.flatten[i]? = some d->∃x,cs'[i]? = some x/\Rep P M (Xem bx β) d x):
 UP P C (upd s id (some (ver,.arr bx E z es' fz))) U M β (w.setRow b cs'):=by
 have⟨x,hx,hr⟩:=h.obs id ver _ hs;obtain rfl:some (b,cb)=x:=by simp_all
 have⟨cs0,T0,k1,k2,k3,k4,k5,k6,k7,k8,k9,k10⟩:=hr;have⟨rfl,rfl⟩:cs=cs0/\T=T0:=by simp_all
 have hheap:∀k,k≠b->(w.setRow b cs').heap[k]? = w.heap[k]?:=λk hk=>setRow_other w b k cs' hk;have hnew:=setRow_heap w b cs cs' T (0,0) hcs;have:=h.set (M':=M) (β':=β) (w':=w.setRow b cs') id ver (.arr bx E z es' fz) b cb (MLe.refl M) (BLe.refl β) hheap (λ_ _ _=>rfl) ?_ hb ?_ ?_ (h.own id ver (.arr bx E z es fz) b cb hs hb:_\/(_/\bx=true)) (λ_ _=>rfl) rfl rfl rfl ab (λ_ _ _ e=>.inl e)
 .exact this.mono λv hv=>by
   rcases hv with hv|rfl
   .omega
   exact h.used id _ _ hb
 .intro o x hx;have ho:=k9 o;rw[hx]at ho;split at ho
  .rename_i hlt;have:(w.setRow b cs').cell? ⟨b,o,none⟩=cs'[o]?:=cell_setRow_same w b o cs cs' T (0,0) hcs;rw[this,hfz o hlt];exact⟨ho.symm,(h.mem b o x hx).2⟩
  simp_all
 .refine⟨cs',T,hnew,by rw[hsz];exact k2,hz,by rw[hlen];exact k4,by rw[hlen];exact k5,by rw[hlen];exact k6,by rw[hlen];exact k7,hone,λo=>?_,hrep⟩;simp_all
 intro id' v' ob' cb' hne hs' hx';exact hne (h.inj id' v' ob' id ver _ b cb' cb hs' hs hx' hb)
variable {P:Program}
def Yd{t:TypeId}{ty:I8}(h:Xo P t=some ty):∃i d,P.info? t=some i/\P.underlying t=some d/\i.zero=some ty.zero/\i.size=ty.size/\i.bytes=ty.bytes/\J5 P d=ty.k:=by unfold Xo at h;grind
def YJ{t:TypeId}{ty:I8}(h:Xo P t=some ty)(w:World):(sizeOf t).run P w=.ok ty.size w:=by have⟨i,d,h1,_,_,h4,_⟩:=Yd h;simp[sizeOf,typeInfo,h1,h4]
def Kg{t:TypeId}{ty:I8}(h:Xo P t=some ty)(w:World):(zeroValue t).run P w=.ok ty.zero w:=by have⟨i,d,h1,_,h3,_⟩:=Yd h;simp[zeroValue,typeInfo,h1,h3]
def Xb6{t:TypeId}{ty:I8}(h:Xo P t=some ty):P.cellsOf t=ty.size:=by have⟨i,d,h1,_,_,h4,_⟩:=Yd h;simp[Program.cellsOf,h1,h4]
def JE{t:TypeId}{ty:I8}(h:Xo P t=some ty):P.bytesOf t=ty.bytes:=by have⟨i,d,h1,_,_,_,h5,_⟩:=Yd h;simp[Program.bytesOf,h1,h5]
def KD{t:TypeId}{ty:I8}(h:Xo P t=some ty)(w:World):(isAgg t).run P w=.ok ty.isAgg w:=by have⟨i,d,_,h2,_,_,_,h6⟩:=Yd h;unfold isAgg;simp only[Sem.run_bind,run_underlying h2,Result.andThen_ok];unfold I8.isAgg;rw[←h6];cases d<;>simp[J5]
def X4{t:TypeId}{a b:Nat}{z:Value}{E sz:Nat}(h:Xo P t=some ⟨a,b,z,.slice E sz⟩):P.underlying t=some (.slice E)/\sz=P.cellsOf E:=by have⟨i,d,_,h2,_,_,_,h6⟩:=Yd h;cases d<;>simp[J5]at h6;grind
def KF{t:TypeId}{a b:Nat}{z:Value}{n E sz:Nat}(h:Xo P t=some ⟨a,b,z,.array n E sz⟩):P.underlying t=some (.array n E)/\sz=P.cellsOf E:=by have⟨i,d,_,h2,_,_,_,h6⟩:=Yd h;cases d<;>simp[J5]at h6;grind
def XbG{t:TypeId}{a b:Nat}{z:Value}{k:IntKind}(h:Xo P t=some ⟨a,b,z,.int k⟩):P.underlying t=some (.int k):=by have⟨i,d,_,h2,_,_,_,h6⟩:=Yd h;cases d<;>simp[J5]at h6;simp_all
def Xfl{t:TypeId}{a b:Nat}{z:Value}(h:Xo P t=some ⟨a,b,z,.bool⟩):P.underlying t=some .bool:=by have⟨i,d,_,h2,_,_,_,h6⟩:=Yd h;cases d<;>simp[J5]at h6;omega
def Z8{t:TypeId}{a b:Nat}{z:Value}{fs:List (Nat×Nat×Nat)}(h:Xo P t=some ⟨a,b,z,.struct fs⟩):
 ∃fields,P.underlying t=some (.struct fields)/\(fs=fields.toList.map λf=>(f.offset,P.cellsOf f.type,f.type))/\∀fd∈fields.toList,((P.info? fd.type).map (·.size)).isSome=true:=by
 have⟨i,d,_,h2,_,_,_,h6⟩:=Yd h;have hok:Xj0 P d=true:=by
  unfold Xo at h;split at h
  .simp_all
  grind
 cases d<;>simp only[J5,reduceCtorEq]at h6;rename_i fields;simp at h6;exact⟨fields,h2,h6.symm,λfd hf=>Ud.1 hok fd hf⟩
def KT{t:TypeId}{n:Nat}(hn:P.cellsOf t=n)(h0:n≠0)(w:World):(sizeOf t).run P w=.ok n w:=by
 unfold Program.cellsOf at hn;cases hi:P.info? t with
 |none=>simp_all
 |some i=>simp_all[hi,sizeOf,typeInfo,hn]
def UR(b o n:Nat):(⟨b,o,none⟩:Addr).add n=⟨b,o+n,none⟩:=by unfold Addr.add;simp
def Xfm{M:Mem}{β:Loc}(x:Value):Rep P M β (Xj1 x) x:=by
 unfold Xj1;split
 .simp[Rep]
 split
 .rename_i h;simp[Rep,XiS h]
 simp[Rep]
def Vx{M:Mem}{β:Loc}(x:Value):Rep P M β (ofV x) x:=by
 unfold ofV;split
 .rename_i cs;refine⟨cs.toList,rfl,RepL.of ab λi d x hd hx=>?_⟩;simp only[List.getElem?_map,Ue]at hd;obtain⟨y,hy,rfl⟩:=hd;obtain rfl:y=x:=by simp_all
  exact Xfm _
 exact Xfm _
def Xb7{M:Mem}{β:Loc}{d:D}{x:Value}(h1:d.one=true)(h:Rep P M β d x):x.oneCell'=true/\x.cells=#[x]:=by
 have key:x.oneCell'=true:=by
  cases d<;>simp[D.one]at h1<;>simp only[Rep]at h
  .simp_all
  .obtain⟨a,rfl⟩:=h;rfl
  .obtain⟨_,_,_,a,c,rfl,_⟩:=h;rfl
  .rcases h with⟨_,_,_,a,rfl⟩|⟨_,_,_,_,_,rfl,_⟩<;>rfl
  .obtain⟨_,_,_,rfl⟩:=h;rfl
  .obtain⟨_,_,_,rfl,_⟩:=h;rfl
  .obtain⟨_,_,rfl,_⟩:=h;rfl
  .obtain⟨_,rfl,_⟩:=h;rfl
  obtain⟨_,_,_,rfl⟩:=h;rfl
 cases x<;>simp_all[Value.oneCell',Value.cells]
def KG{M:Mem}{β:Loc}{d:D}{x:Value}{ds:List D}(h:d.cells=some ds)(hr:Rep P M β d x):
 RepL P M β ds x.cells.toList/\∀y∈x.cells,y.oneCell'=true:=by
 unfold D.cells at h;split at h
 .rename_i cs;split at h
  .rename_i hall;obtain rfl:cs=ds:=by simpa using h
   obtain⟨vs,rfl,hr⟩:=hr;refine⟨by simpa [Value.cells]using hr,λy hy=>?_⟩;have hy':y∈vs:=by simpa [Value.cells]using hy
   obtain⟨i,hi,rfl⟩:=WN hy';have hlen:=hr.length;have⟨y,hy1,hy2⟩:=hr.get i (cs[i]'aa) ab;have:vs[i]? = some vs[i]:=by simp
   rw[this]at hy1;obtain rfl:vs[i]=y:=by simpa using hy1
   exact(Xb7 (Ud.1 hall _ (WO _)) hy2).1
  simp_all
 split at h
 .rename_i h1;obtain rfl:[d]=ds:=by simpa using h
  have⟨k1,k2⟩:=Xb7 h1 hr;rw[k2];exact⟨by exact⟨x,[],rfl,hr,rfl⟩,by simpa using k1⟩
 simp_all
def VZ{M:Mem}{β:Loc}{d:D}{x:Value}{ds:List D}(h:d.cells=some ds)(hr:Rep P M β d x):x.cells.size=ds.length:=by have:=(KG h hr).1.length;omega
def XhS{C:Cx}{s:Heap}{U:Nat->Prop}{M:Mem}{β:Loc}{w:World}(I:UP P C s U M β w){d:D}{y:Value}{c:Prop}{cs:List D}{o z:Nat}(h:Xen s d=some (c,cs,o,z))(hc:c)(hr:Rep P M β d y):
 ∃b o0,y=.pointer (some ⟨b,o0+o,none⟩)/\cs.length=z/\∀(i:Nat)(d:D),cs[i]? = some d->∃x,w.cell? ⟨b,o0+i,none⟩=some x/\Rep P M β d x:=by
 unfold Xen at h;split at h
 .rename_i z' cs' c';have⟨rfl,rfl,rfl,rfl⟩:True=c/\cs'=cs/\c'=o/\z'=z:=by simpa using h
  obtain⟨hz,b,o0,rfl,hr⟩:=hr;refine⟨b,o0,rfl,hz,λi d hd=>?_⟩;have⟨x,hx,hx2⟩:=hr.get i d hd;exact⟨x,(I.mem b _ x hx).1,hx2.mono (MLe.refl _) (BLe.zero _)⟩
 .rename_i id ver z' i' c';split at h
  .rename_i ver' bx E z'' es fz hs;split at h
   .rename_i hv;have⟨rfl,rfl⟩:=hv;have⟨rfl,rfl,rfl,rfl⟩:(i'<es.length)=c/\es.getD i' []=cs/\c'=o/\z'=z:=by simpa using h
    obtain⟨b,cb,hb,rfl⟩:=hr;have⟨x,hx,ho⟩:=I.obs id ver _ hs;rw[hb]at hx;obtain rfl:some (b,cb)=x:=by simpa using hx
    have⟨vs,T,k1,k2,k3,k4,k5,k6,k7,k8,k9,k10⟩:=ho;have hlen:(es.getD i' []).length=z':=by rw[Wp,Wc hc];exact k3 _ (WO _)
    refine⟨b,i'*z',rfl,hlen,λj d hd=>?_⟩;have hj:j<z':=by
     rcases Uq j z' with h'|h'
     .exact h'
     rw[WY aa]at hd;cases hd
    have⟨x,hx,hx2⟩:=k10 (i'*z'+j) d (by rw[Jn k3 _ _ hj];exact hd);exact⟨x,by rw[cell_of_row w b _ vs T (0,0) k1];exact hx,hx2.mono (MLe.refl _) (Xm1 bx β)⟩
   cases h
  cases h
 simp_all
def J7{α:Type}(l:List α)(o n i:Nat):((l.drop o).take n)[i]? = if i<n then l[o+i]? else none:=by grind
def Xb8{t:TypeId}{ty:I8}(h:Xo P t=some ty)(w:World)(M:Mem)(β:Loc)(b o0 o z:Nat)(cs:List D)(hl:cs.length=z)(hfit:o+ty.size<=z)(hc:∀(i:Nat)(d:D),cs[i]? = some d->∃x,w.cell? ⟨b,o0+i,none⟩=some x/\Rep P M β d x)(hone:ty.isAgg=false->ty.size=1):
 ∃v,(loadVar t ⟨b,o0+o,none⟩).run P w=.ok v w/\Rep P M β (KS ty.isAgg ((cs.drop o).take ty.size)) v:=by
 have hval:∃vs:List Value,vs.length=ty.size/\(∀(j:Nat)v,vs[j]? = some v->w.cell? ((⟨b,o0+o,none⟩:Addr).add j)=some v)/\RepL P M β ((cs.drop o).take ty.size) vs:=by
  have:∀n,n<=ty.size->∃vs:List Value,vs.length=n/\(∀(j:Nat)v,vs[j]? = some v->w.cell? ((⟨b,o0+o,none⟩:Addr).add j)=some v)/\RepL P M β ((cs.drop o).take n) vs:=by
   intro n;induction n with
   |zero=>simp[RepL]
   |succ n ih=>
    intro hn;obtain⟨vs,h1,h2,h3⟩:=ih aa;have hlt:o+n<cs.length:=aa;obtain⟨x,hx,hr⟩:=hc (o+n) cs[o+n] ab;refine⟨vs++[x],by grind,λj v hj=>?_,?_⟩
    .rw[List.getElem?_append]at hj;split at hj
     .simp_all
     rename_i hge;have hj0:j=n:=by
      rcases Uq n j with h'|h'
      .rw[WY ah]at hj;cases hj
      omega
     subst hj0;simp[h1]at hj;subst hj;rw[UR];grind
    have:(cs.drop o).take (n+1)=(cs.drop o).take n++[cs[o+n]]:=by rw[List.take_succ_eq_append_getElem (by grind)];simp
    rw[this];exact h3.append (by simp_all[RepL])
  exact this _ (Un _)
 have⟨vs,h1,h2,h3⟩:=hval;cases hag:ty.isAgg with
 |true=>
  refine⟨.agg ⟨vs⟩,?_,?_⟩
  .have:=run_loadCells_list (P:=P) w ⟨b,o0+o,none⟩ vs h2;rw[h1]at this;simp[loadVar,KD h,YJ h,hag,this]
  simp_all[KS,if_true,Rep]
 |false=>
  have hs1:=hone hag;rw[hs1]at h1 h3;match vs,h1 with
  |[x],_=>
   have hx:=h2 0 x ab;rw[UR]at hx;refine⟨x,?_,?_⟩
   .simp_all[loadVar,KD,h,hag,run_load,hx]
   simp only[KS,hs1,U4,if_false];have:=h3.length;match hcs:(cs.drop o).take 1,this with
   |[d],_=>simp_all[hcs,RepL]
variable {P:Program}
def VOK(P:Program)(C:Cx)(s:Heap)(u:Up)(U:Nat->Prop)(ver:Nat)(M:Mem)(β:Loc)(r:Result Value)(d:D):Prop:=
 ∃M' β' w' v,r=.ok v w'/\UP P C (app s u) (λx=>U x\/x=ver) M' β' w'/\Rep P M' β' d v/\MLe M M'/\BLe β β'
def OpOK(P:Program)(C:Cx)(s:Heap)(u:Up)(U:Nat->Prop)(ver:Nat)(M:Mem)(β:Loc)(r:Result Next)(d:D):Prop:=
 ∃M' β' w' v,(r=.ok (.value v) w'\/r=.ok .skip w'/\v=undef)/\UP P C (app s u) (λx=>U x\/x=ver) M' β' w'/\Rep P M' β' d v/\MLe M M'/\BLe β β'
section
variable {C:Cx}{s:Heap}{U:Nat->Prop}{ver:Nat}{M:Mem}{β:Loc}{w:World}
def VOK.op{u:Up}{sem:Sem Value}{d:D}(h:VOK P C s u U ver M β (sem.run P w) d):OpOK P C s u U ver M β ((do pure (Next.value (←sem)):Sem Next).run P w) d:=by have⟨M',β',w',v,hr,rest⟩:=h;exact⟨M',β',w',v,.inl (by simp[hr]),rest⟩
def VOK.same(I:UP P C s U M β w){r:Result Value}{d:D}{v:Value}(hr:r=.ok v w)(h:Rep P M β d v):VOK P C s [] U ver M β r d:=
 ⟨M,β,w,v,hr,I.mono λ_ hv=>.inl hv,h,MLe.refl _,BLe.refl _⟩
def ZV(k:IntKind)(n:Int):wfV (.int k (k.wrap n)):=by simp only[wfV];cases k<;>simp only[IntKind.wrap,IntKind.min,IntKind.max,IntKind.bits,IntKind.signed,Ut,W3,U4,if_true,if_false]<;>(try split)<;>(try simp only[decide_eq_true_eq,ge_iff_le,Int.not_le]at *)<;>constructor<;>omega
def Zm(k:IntKind)(n:Int)(h:wfV (.int k n)):Rep P M β (.v (.int k n)) (.int k n):=by simp[Rep,h]
def Zg(b:Bool):Rep P M β (.v (.bool b)) (.bool b):=by simp[Rep,wfV]
def XhT(k:IntKind):k.min<=0:=by cases k<;>decide
def XhU(k:IntKind):0<=k.max:=by cases k<;>decide
def Xm2(a b:Int)(lo hi:Int)(h1:lo<=a)(h2:a<=hi)(h3:lo<=0)(h4:0<=hi):lo<=a.tmod b/\a.tmod b<=hi:=by
 have h5:(a.tmod b).natAbs<=a.natAbs:=by rw[Int.natAbs_tmod];exact Nat.mod_le _ _
 rcases Int.le_total 0 a with h|h
 .have e1:0<=a.tmod b:=Int.tmod_nonneg b h;omega
 have e1:a.tmod b = -((-a).tmod b):=by rw[Int.neg_tmod];omega
 have e3:0<=(-a).tmod b:=Int.tmod_nonneg b aa;omega
def Xm3(a:Int)(n:Nat)(lo hi:Int)(h1:lo<=a)(h2:a<=hi)(h3:lo<=0)(h4:0<=hi):lo<=a.fdiv (2 ^ n)/\a.fdiv (2 ^ n)<=hi:=by
 have hp:(0:Int)<2 ^ n:=Int.pow_pos aa;rw[Int.fdiv_eq_ediv_of_nonneg _ (Int.le_of_lt hp)];have hm:=Int.emod_nonneg a (show(2 ^ n:Int)≠0 by omega);have hlt:=Int.emod_lt_of_pos a hp;have heq:=Int.mul_ediv_add_emod a (2 ^ n);generalize a / 2 ^ n=q at *;generalize (2:Int) ^ n=p at *;constructor
 .rcases Int.le_total 0 q with hq|hq
  .omega
  rcases Int.lt_or_le q 0 with hq'|hq'
  .have h6:p*(q+1)<=1*(q+1):=Int.mul_le_mul_of_nonpos_right (show 1<=p by omega) aa;rw[Int.mul_add]at h6;omega
  omega
 rcases Int.le_total q 0 with hq|hq
 .omega
 have h6:1*q<=p*q:=Ur (show 1<=p by omega) hq;omega
def Xm4{op:BinOp}{k:IntKind}{a b:Int}{c:Prop}{r:Value}(h:JZ op k a b=some (c,r))(hc:c)(T:TypeId)(ha:wfV (.int k a)):(binOp op T (.int k a) (.int k b)).run P w=.ok r w/\wfV r:=by
 cases op<;>simp only[JZ,Ws,Wx,reduceCtorEq]at h<;>obtain⟨rfl,rfl⟩:=h
 .exact⟨by simp[binOp,Op.intArith],ZV _ _⟩
 .exact⟨by simp[binOp,Op.intArith],ZV _ _⟩
 .exact⟨by simp[binOp,Op.intArith],ZV _ _⟩
 .exact⟨by simp[binOp,Op.intDiv,hc],ZV _ _⟩
 .refine⟨by simp[binOp,Op.intDiv,hc],?_⟩;exact Xm2 a b _ _ ha.1 ha.2 (XhT k) (XhU k)
 .exact⟨by simp[binOp,Op.intBits],ZV _ _⟩
 .exact⟨by simp[binOp,Op.intBits],ZV _ _⟩
 .exact⟨by simp[binOp,Op.intBits],ZV _ _⟩
 .exact⟨by simp[binOp,Op.intBits],ZV _ _⟩
 .exact⟨by simp[binOp,Op.intCmp],trivial⟩
 .exact⟨by simp[binOp,Op.intCmp],trivial⟩
 .exact⟨by simp[binOp,Op.intCmp],trivial⟩
 .exact⟨by simp[binOp,Op.intCmp],trivial⟩
 .exact⟨by simp[binOp,Op.intCmp],trivial⟩
 exact⟨by simp[binOp,Op.intCmp],trivial⟩
def kTy:Option IntKind->TypeDesc
 |some k=>.int k
 |none=>.bool
def XdA{M:Mem}{β:Loc}{k:Option IntKind}{x y:D}{b:Bool}(h:Xeo k x y=some b){vx vy:Value}(rx:Rep P M β x vx)(ry:Rep P M β y vy)(t:TypeId)(ht:P.underlying t=some (kTy k))(d:Nat)(w:World):
 (Op.equalIn (d+1) t vx vy).run P w=.ok b w:=by
 unfold Xeo at h;split at h
 .rename_i k' j a k b';split at h
  .rename_i hjk;subst hjk;obtain rfl:(a==b')=b:=by simpa using h
   rw[rx.1,ry.1];exact run_equalIn_int w d t j k' a b' ht
  cases h
 .rename_i a b';obtain rfl:(a==b')=b:=by simpa using h
  rw[rx.1,ry.1];exact run_equalIn_bool' w d t a b' ht
 simp_all
def Xb9{M:Mem}{β:Loc}:∀(fs:List Field)(n d:Nat)(ks:List (Option IntKind))(xs ys:List D)(b:Bool)(vx vy:List Value)(w:World),ZD P n fs=some ks->Ye ks xs ys=some b ->
 (∀(i:Nat)(d:D),xs[i]? = some d->∃v,vx[n+i]? = some v/\Rep P M β d v)->(∀(i:Nat)(d:D),ys[i]? = some d->∃v,vy[n+i]? = some v/\Rep P M β d v) ->
 (Op.eqFields (d+1) ⟨vx⟩ ⟨vy⟩ fs).run P w=.ok b w
 |[],n,d,ks,xs,ys,b,vx,vy,w,hf,he,_,_=>by
  have rfl:[]=ks:=by simp_all[ZD]
  match xs,ys with
  |[],[]=>simp_all[Ye,Op.eqFields]
  |x::xs,_=>simp_all[Ye]
  |[],y::ys=>simp_all[Ye]
 |f::fs,n,d,ks,xs,ys,b,vx,vy,w,hf,he,hx,hy=>by
  unfold ZD at hf;split at hf
  .rename_i hc;simp at hc;have⟨hoff,hname⟩:=hc;have key:∃k ks',ks=k::ks'/\ZD P (n+1) fs=some ks'/\P.underlying f.type=some (kTy k):=by
    split at hf
    .rename_i k hk;simp at hf;obtain⟨ks',h1,rfl⟩:=hf;exact⟨some k,ks',rfl,h1,hk⟩
    .rename_i hk;simp at hf;obtain⟨ks',h1,rfl⟩:=hf;exact⟨none,ks',rfl,h1,hk⟩
    cases hf
   obtain⟨k,ks',rfl,hrest,hty⟩:=key;match xs,ys with
   |[],_=>simp[Ye]at he
   |x::xs,[]=>simp[Ye]at he
   |x::xs,y::ys=>
    simp only[Ye]at he;split at he
    .rename_i a b' ha hb;obtain rfl:(a&&b')=b:=by simpa using he
     have⟨v1,e1,r1⟩:=hx 0 x ab;have⟨v2,e2,r2⟩:=hy 0 y ab;have hagg:(isAgg f.type).run P w=.ok false w:=by unfold isAgg;cases k<;>simp[run_underlying hty,kTy]
     have p1:(part f.type ⟨vx⟩ f.offset).run P w=.ok v1 w:=by
      have:vx[f.offset]? = some v1:=by rw[hoff];simpa using e1
      simp[part,hagg,this]
     have p2:(part f.type ⟨vy⟩ f.offset).run P w=.ok v2 w:=by
      have:vy[f.offset]? = some v2:=by rw[hoff];simpa using e2
      simp[part,hagg,this]
     have hq:=XdA ha r1 r2 f.type hty d w
     have ih:=Xb9 fs (n+1) d ks' xs ys b' vx vy w hrest hb
      (λi d hd=>by
       obtain⟨v,hv,hr⟩:=hx (i+1) d (by exact hd)
       exact⟨v,by rw[←hv];congr 1;omega,hr⟩)
      (λi d hd=>by
       have⟨v,hv,hr⟩:=hy (i+1) d (by simpa using hd)
       exact⟨v,by rw[←hv];congr 1;omega,hr⟩)
     simp only[Op.eqFields,hname,ne_eq,not_false_eq_true,if_true,Sem.run_bind,p1,p2,hq,Result.andThen_ok];cases a
     .simp
     simp[ih]
    cases he
  simp_all
def Xfn{M:Mem}{β:Loc}{k:Option IntKind}{e:TypeId}(hty:P.underlying e=some (kTy k)){vx vy:List Value}{w:World}(d:Nat):∀(m s:Nat)(xs ys:List D)(b:Bool),
 Ye (List.replicate m k) xs ys=some b->(∀i d,xs[i]? = some d->∃v,vx[s+i]? = some v/\Rep P M β d v)->(∀i d,ys[i]? = some d->∃v,vy[s+i]? = some v/\Rep P M β d v) ->
 (Op.eqItems (d+1) e 1 ⟨vx⟩ ⟨vy⟩ (List.range' s m)).run P w=.ok b w
 |0,s,xs,ys,b,h,_,_=>by
  match xs,ys with
  |[],[]=>simp_all[Ye,Op.eqItems]
  |x::xs,_=>simp_all[Ye]
  |[],y::ys=>simp_all[Ye]
 |m+1,s,xs,ys,b,h,hx,hy=>by
  rw[List.replicate_succ]at h;match xs,ys with
  |[],_=>simp_all[Ye]
  |x::xs,[]=>simp_all[Ye]
  |x::xs,y::ys=>
   simp only[Ye]at h;split at h
   .rename_i a b' ha hb;obtain rfl:(a&&b')=b:=by simpa using h
    have⟨v1,e1,r1⟩:=hx 0 x ab;have⟨v2,e2,r2⟩:=hy 0 y ab;have hagg:(isAgg e).run P w=.ok false w:=by unfold isAgg;cases k<;>simp[run_underlying hty,kTy]
    have p1:(part e ⟨vx⟩ (s*1)).run P w=.ok v1 w:=by
     have:vx[s]? = some v1:=by simpa using e1
     simp[part,hagg,this]
    have p2:(part e ⟨vy⟩ (s*1)).run P w=.ok v2 w:=by
     have:vy[s]? = some v2:=by simpa using e2
     simp[part,hagg,this]
    have hq:=XdA ha r1 r2 e hty d w;have ih:=Xfn hty d (w:=w) m (s+1) xs ys b' hb (λi d hd=>by
     obtain⟨v,hv,hr⟩:=hx (i+1) d (by exact hd)
     exact⟨v,by rw[←hv];congr 1;omega,hr⟩)
     (λi d hd=>by
      obtain⟨v,hv,hr⟩:=hy (i+1) d (by exact hd)
      exact⟨v,by rw[←hv];congr 1;omega,hr⟩)
    simp only[List.range'_succ,Op.eqItems,Sem.run_bind,p1,p2,hq,Result.andThen_ok];cases a
    .simp
    exact ih
   simp_all
def XbA{M:Mem}{β:Loc}{k:Option IntKind}{e t:TypeId}{n:Nat}{i:TypeInfo}(ht:P.underlying t=some (.array n e))(hty:P.underlying e=some (kTy k))(hi:P.info? e=some i)(h1:P.cellsOf e=1){vx vy:List Value}{w:World}(d:Nat){xs ys:List D}{b:Bool}(h:Ye (List.replicate n k) xs ys=some b)(hx:∀(i:Nat)(d:D),xs[i]? = some d->∃v,vx[i]? = some v/\Rep P M β d v)(hy:∀(i:Nat)(d:D),ys[i]? = some d->∃v,vy[i]? = some v/\Rep P M β d v):
 (Op.equalIn (d+2) t (.agg ⟨vx⟩) (.agg ⟨vy⟩)).run P w=.ok b w:=by rw[run_equalIn_array w (d+1) _ _ ht hi,h1,List.range_eq_range'];exact Xfn hty d (w:=w) n 0 xs ys b h (by simpa using hx) (by simp_all)
def Xm5(I:UP P C s U M β w){op:BinOp}{T:TypeId}{x y:D}{c:Prop}{d:D}(h:YL P op T x y=some (c,d))(hc:c){vx vy:Value}(rx:Rep P M β x vx)(ry:Rep P M β y vy)(ox oy:Operand):
 VOK P C s [] U ver M β ((do eqGuard op T ox oy vx vy;binOp op T vx vy:Sem Value).run P w) d:=by
 unfold YL at h;split at h
 .rename_i k a k' b;obtain⟨rfl,wx⟩:=rx;obtain⟨rfl,wy⟩:=ry;have hg:(eqGuard op T ox oy (.int k a) (.int k' b)).run P w=.ok () w:=by unfold eqGuard;cases op<;>simp
  split at h
  .obtain⟨rfl,rfl⟩:=h;refine .same I (v:=.int k (k.wrap (a*2 ^ min b.toNat k.bits))) ?_ (Zm _ _ (ZV _ _));have:¬b<0:=aa;simp[hg,binOp,Op.shift,this]
  .obtain⟨rfl,rfl⟩:=h;have:¬b<0:=aa;refine .same I (v:=.int k (a.fdiv (2 ^ min b.toNat k.bits))) ?_ (Zm _ _ ?_)
   .simp[hg,binOp,Op.shift,this]
   exact Xm3 a _ _ _ wx.1 wx.2 (XhT k) (XhU k)
  split at h
  .rename_i hk;subst hk;simp only[Ue]at h;obtain⟨⟨c',r⟩,hb,he⟩:=h;simp only[Wx]at he;obtain⟨rfl,rfl⟩:=he;obtain⟨e1,e2⟩:=Xm4 (P:=P) (w:=w) hb hc T wx;exact .same I (v:=r) (by simp[hg,e1]) (by simp[Rep,e2])
  cases h
 .rename_i a b;simp only[Rep]at rx ry;obtain⟨rfl,wx⟩:=rx;obtain⟨rfl,wy⟩:=ry;have hg:(eqGuard op T ox oy (.bool a) (.bool b)).run P w=.ok () w:=by unfold eqGuard;cases op<;>simp
  split at h
  .rename_i z1 z2 z3 hT;have hq:=run_equalIn_bool' w 9999 T a b (Xfl hT);split at h
   .simp only[Ws,Wx]at h;obtain⟨rfl,rfl⟩:=h;refine .same I (v:=.bool (a==b)) ?_ (Zg _);simp[hg,binOp,Op.equal,Op.maxDepth,hq]
   .simp only[Ws,Wx]at h;obtain⟨rfl,rfl⟩:=h;refine .same I (v:=.bool (!(a==b))) ?_ (Zg _);simp[hg,binOp,Op.equal,Op.maxDepth,hq]
   cases h
  cases h
 .rename_i xs ys;split at h
  .rename_i ks hks;simp only[Rep]at rx ry;obtain⟨vxs,rfl,rx⟩:=rx;obtain⟨vys,rfl,ry⟩:=ry;unfold Yc at hks;split at hks
   .rename_i fs hfs;split at hks
    .cases hks
    rename_i hno;simp only[Ij,not_or,IQ]at hno;have hg:(eqGuard op T ox oy (.agg ⟨vxs⟩) (.agg ⟨vys⟩)).run P w=.ok () w:=run_eqGuard_agg w op T ox oy _ _ hno.2;have hfo:P.fieldsOf T=fs:=by simp[Program.fieldsOf,hfs]
    have hq:∀b,Ye ks xs ys=some b->(Op.equalIn 10000 T (.agg ⟨vxs⟩) (.agg ⟨vys⟩)).run P w=.ok b w:=by intro b hb;rw[run_equalIn_struct w 9999 T ⟨vxs⟩ ⟨vys⟩ (by rw[hfo];exact hfs) hno.1,hfo];exact Xb9 fs.toList 0 9998 ks xs ys b vxs vys w hks hb (λi d hd=>by simpa using rx.get i d hd) (λi d hd=>by simpa using ry.get i d hd)
    split at h
    .rename_i b hb;simp only[Ws,Wx]at h;obtain⟨rfl,rfl⟩:=h;refine .same I (v:=.bool b) ?_ (Zg _);simp[hg,run_eql_struct,hq b hb]
    .rename_i b hb;simp only[Ws,Wx]at h;obtain⟨rfl,rfl⟩:=h;refine .same I (v:=.bool (!b)) ?_ (Zg _);simp[hg,run_neq_struct,hq b hb]
    cases h
   .rename_i n e hfs;split at hks
    .cases hks
    rename_i hno;simp only[IQ]at hno;split at hks
    .rename_i k i hk hi;split at hks
     .rename_i h1;obtain rfl:=WK hks;have hg:(eqGuard op T ox oy (.agg ⟨vxs⟩) (.agg ⟨vys⟩)).run P w=.ok () w:=run_eqGuard_agg w op T ox oy _ _ hno;have hq:∀b,Ye (List.replicate n (some k)) xs ys=some b->(Op.equalIn 10000 T (.agg ⟨vxs⟩) (.agg ⟨vys⟩)).run P w=.ok b w:=λb hb=>
       XbA (k:=some k) hfs hk hi h1 9998 hb (λi d hd=>by simpa using rx.get i d hd) (λi d hd=>by simpa using ry.get i d hd)
      split at h
      .rename_i b hb;simp only[Ws,Wx]at h;obtain⟨rfl,rfl⟩:=h;refine .same I (v:=.bool b) ?_ (Zg _);simp[hg,run_eql_struct,hq b hb]
      .rename_i b hb;simp only[Ws,Wx]at h;obtain⟨rfl,rfl⟩:=h;refine .same I (v:=.bool (!b)) ?_ (Zg _);simp[hg,run_neq_struct,hq b hb]
      cases h
     cases hks
    cases hks
   cases hks
  cases h
 simp_all
end
variable {P:Program}
def Xer(off:Nat):∀(vs:List Value)(k:Nat)(cells:Array Value),off+k+vs.length<=cells.size ->
 (((vs.zipIdx k).foldl (λ(cs:Array Value) (p:Value×Nat)=>cs.setIfInBounds (off+p.2) p.1) cells).toList=cells.toList.take (off+k)++vs++cells.toList.drop (off+k+vs.length))
 |[],k,cells,_=>by simp
 |v::vs,k,cells,h=>by simp at h;rw[List.zipIdx_cons,Ik,Xer off vs (k+1) _ ah];have:=list_seg_step cells.toList (off+k) v vs (by exact h);grind
def Xdp(e:List D)(c:Nat)(cs:List D)(h:c+cs.length<=e.length):(Z7 e c cs).length=e.length:=by grind[Z7]
def XgQ(e:List D)(c:Nat)(cs:List D)(h:c+cs.length<=e.length)(i:Nat):(Z7 e c cs)[i]? = if i<c then e[i]? else if i<c+cs.length then cs[i-c]? else e[i]?:=by unfold Z7;grind
def JF{α:Type}(e:List α)(c:Nat)(cs:List α)(h:c+cs.length<=e.length)(i:Nat):(e.take c++cs++e.drop (c+cs.length))[i]? = if i<c then e[i]? else if i<c+cs.length then cs[i-c]? else e[i]?:=by grind
def RepL.take{M:Mem}{β:Loc}{ds:List D}{vs:List Value}(h:RepL P M β ds vs)(n:Nat):RepL P M β (ds.take n) (vs.take n):=by
 have:=h.length;refine RepL.of ah λi d x hd hx=>?_;rw[Uk]at hd hx;split at hd
 .rename_i hi;rw[Wq hi]at hx;have⟨y,hy,hr⟩:=h.get i d hd;rw[hx]at hy;obtain rfl:x=y:=by simpa using hy
  exact hr
 simp_all
def RepL.drop{M:Mem}{β:Loc}{ds:List D}{vs:List Value}(h:RepL P M β ds vs)(n:Nat):RepL P M β (ds.drop n) (vs.drop n):=by have:=h.length;refine RepL.of ah λi d x hd hx=>?_;rw[UF]at hd hx;have⟨y,hy,hr⟩:=h.get _ d hd;simp_all
def Xca{M:Mem}{β:Loc}(place place':Nat->Option (Nat×Nat))(hp:∀i x,place i=some x->place' i=some x):∀(parts:List (Nat×D))(vparts:List (Nat×Value))(cs:List D)(vs:Array Value)(r:List D),
 Xb0 place cs parts=some r->RepL P M β cs vs.toList->parts.map (·.1)=vparts.map (·.1)->RepL P M β (parts.map (·.2)) (vparts.map (·.2)) ->
 ∃vs',Instr.fill place' vs vparts=some vs'/\RepL P M β r vs'.toList
 |[],vparts,cs,vs,r,h,hcs,h1,_=>by simp_all[Xb0,Instr.fill]
 |(i,d)::parts,vparts,cs,vs,r,h,hcs,h1,h2=>by
  match vparts,h1 with
  |(i',v)::vparts,h1=>
   simp at h1;have⟨rfl,h1⟩:=h1;have⟨x,xs,e,hd,h2⟩:=h2;have⟨rfl,rfl⟩:v=x/\vparts.map (·.2)=xs:=by simpa using e
   unfold Xb0 at h;split at h
   .rename_i off sz ds hpl hdc;split at h
    .rename_i hsz;have⟨hs1,hs2⟩:=hsz;have⟨hrep,hone⟩:=KG hdc hd;have hvl:=hcs.length;have hcsz:v.cells.size=sz:=by rw[VZ hdc hd,hs1]
     have hsp:=Xer off v.cells.toList 0 vs (by simp at hvl⊢;omega);have hcs':RepL P M β (Z7 cs off ds) ((v.cells.zipIdx.foldl (λ(cs:Array Value) (p:Value×Nat)=>cs.setIfInBounds (off+p.2) p.1) vs).toList):=by
      have e1:v.cells.zipIdx.foldl (λ(cs:Array Value) (p:Value×Nat)=>cs.setIfInBounds (off+p.2) p.1) vs=(v.cells.toList.zipIdx 0).foldl (λ(cs:Array Value) (p:Value×Nat)=>cs.setIfInBounds (off+p.2) p.1) vs:=by rw[←Array.foldl_toList,Array.toList_zipIdx]
      rw[e1,hsp];unfold Z7;have e2:off+0+v.cells.toList.length=off+ds.length:=by simp[hcsz,hs1]
      rw[e2];exact((hcs.take off).append hrep).append (hcs.drop _)
     have⟨vs',k1,k2⟩:=Xca place place' hp parts vparts _ _ r h hcs' h1 h2;refine⟨vs',?_,k2⟩;simp only[Instr.fill,hp _ _ hpl];have hne:¬(v.cells.size≠sz||off+v.cells.size>vs.size)=true:=by simp at hvl⊢;omega
     rw[Wn hne];exact k1
    cases h
   simp_all
def Xfo{z:Nat}{es:List (List D)}(h:∀e∈es,e.length=z)(i:Nat)(e':List D)(hi:i<es.length)(he:e'.length=z)(k:Nat):
 (es.set i e').flatten[k]? = if i*z<=k/\k<(i+1)*z then e'[k-i*z]? else es.flatten[k]?:=by
 have h':∀e∈es.set i e',e.length=z:=by
  intro e hm;rcases Ux hm with hm|rfl
  .simp_all
  omega
 rcases Ua z with hz|hz
 .simp_all[Xb5,h',h]
 rw[YN h',YN h];have hk:=Nat.div_add_mod' k z;by_cases hq:k / z=i
 .grind
 rw[Wn]
 .grind
 rintro⟨h1,h2⟩;apply hq;exact Nat.le_antisymm (Nat.le_of_lt_succ ((U3 hz).2 h2)) ((Nat.le_div_iff_mul_le hz).2 h1)
def Yx{es src:List (List D)}(k:Nat):(es++src).flatten[k]? = if k<es.flatten.length then es.flatten[k]? else src.flatten[k-es.flatten.length]?:=by grind
def Xfp{M:Mem}{β:Loc}(z:Nat):∀(parts:List (Nat×D))(vparts:List (Nat×Value))(es:List (List D))(vs:Array Value)(r:List (List D)),
 Xb1 z es parts=some r->(∀e∈es,e.length=z)->RepL P M β es.flatten vs.toList->parts.map (·.1)=vparts.map (·.1)->RepL P M β (parts.map (·.2)) (vparts.map (·.2))->(∀x∈vs,x.oneCell'=true) ->
 ∃vs',Instr.fill (λi=>some (i*z,z)) vs vparts=some vs'/\RepL P M β r.flatten vs'.toList/\r.length=es.length/\(∀e∈r,e.length=z)/\(∀x∈vs',x.oneCell'=true)
 |[],vparts,es,vs,r,h,hz,hcs,h1,_,ho=>by simp_all[Xb1,Instr.fill]
 |(i,d)::parts,vparts,es,vs,r,h,hz,hcs,h1,h2,ho=>by
  match vparts,h1 with
  |(i',v)::vparts,h1=>
   simp at h1;have⟨rfl,h1⟩:=h1;have⟨x,xs,e,hd,h2⟩:=h2;have⟨rfl,rfl⟩:v=x/\vparts.map (·.2)=xs:=by simpa using e
   unfold Xb1 at h;split at h
   .rename_i ds hdc;split at h
    .rename_i hsz;have⟨hs1,hs2⟩:=hsz;have⟨hrep,hone⟩:=KG hdc hd;have hvl:=hcs.length;rw[XV hz]at hvl;have hcsz:v.cells.size=z:=by rw[VZ hdc hd,hs1]
     have hle:(i+1)*z<=es.length*z:=WZ _ hs2;have hle':i*z+z<=es.length*z:=by rw[Im]at hle;exact hle
     have hsp:=Xer (i*z) v.cells.toList 0 vs (by simp at hvl⊢;omega);have e1:v.cells.zipIdx.foldl (λ(cs:Array Value) (p:Value×Nat)=>cs.setIfInBounds (i*z+p.2) p.1) vs=(v.cells.toList.zipIdx 0).foldl (λ(cs:Array Value) (p:Value×Nat)=>cs.setIfInBounds (i*z+p.2) p.1) vs:=by rw[←Array.foldl_toList,Array.toList_zipIdx]
     have hz':∀e∈es.set i ds,e.length=z:=by
      intro e hm;rcases Ux hm with hm|rfl
      .exact hz e hm
      exact hs1
     have hcs':RepL P M β (es.set i ds).flatten ((v.cells.zipIdx.foldl (λ(cs:Array Value) (p:Value×Nat)=>cs.setIfInBounds (i*z+p.2) p.1) vs).toList):=by
      rw[e1,hsp];refine RepL.of ?_ λk dk xk hdk hxk=>?_
      .rw[XV hz'];simp at hvl⊢;omega
      rw[Xfo hz i ds hs2 hs1]at hdk;rw[IB,JF _ _ _ (by simp at hvl⊢;omega)]at hxk;simp only[UV,hcsz]at hxk;split at hdk
      .rename_i hk;rw[Im]at hk;rw[Wn aa,Wq aa]at hxk;obtain⟨y,hy,hr⟩:=hrep.get _ dk hdk;rw[hxk]at hy;obtain rfl:xk=y:=by simpa using hy
       exact hr
      rename_i hk;rw[Im]at hk;obtain⟨y,hy,hr⟩:=hcs.get _ dk hdk;have:vs.toList[k]? = some xk:=by
       split at hxk
       .exact hxk
       split at hxk
       .omega
       exact hxk
      rw[this]at hy;obtain rfl:xk=y:=by simpa using hy
      exact hr
     have ho':∀x∈(v.cells.zipIdx.foldl (λ(cs:Array Value) (p:Value×Nat)=>cs.setIfInBounds (i*z+p.2) p.1) vs),x.oneCell'=true:=by
      intro x hx;rw[e1]at hx;have hx':x∈((v.cells.toList.zipIdx 0).foldl (λ(cs:Array Value) (p:Value×Nat)=>cs.setIfInBounds (i*z+p.2) p.1) vs).toList:=by simpa using hx
      rw[hsp]at hx';simp only[WG]at hx';rcases hx' with(hx'|hx')|hx'
      .exact ho x (by simpa using WW hx')
      .exact hone x (by simpa using hx')
      exact ho x (by simpa using WP hx')
     have⟨vs',k1,k2,k3,k4,k5⟩:=Xfp z parts vparts _ _ r h hz' hcs' h1 h2 ho';refine⟨vs',?_,k2,by simpa using k3,k4,k5⟩;simp only[Instr.fill];have hne:¬(v.cells.size≠z||i*z+v.cells.size>vs.size)=true:=by simp at hvl⊢;omega
     rw[Wn hne];exact k1
    cases h
   simp_all
variable {P:Program}
section
variable {C:Cx}{s:Heap}{U:Nat->Prop}{ver:Nat}{M:Mem}{β:Loc}{w:World}
def XiT(s:Heap)(id v:Nat)(o:Ob):app s [(id,v,o)]=upd s id (some (v,o)):=rfl
def Xes(I:UP P C s U M β w)(hv:¬U ver)(bx:Bool)(id E z:Nat)(es:List (List D))(cb:Nat)(cs:Array Value)(T:TypeId)(w1:World)(hw1:w1.heap=w.heap/\w1.os=w.os/\w1.tape=w.tape/\w1.output=w.output)(hcs:cs.size=cb*z)(hz:∀e∈es,e.length=z)(hcb:es.length<=cb)(hl:es.length<=Xp)(hb:es.length*P.bytesOf E<=Xp)(hone:∀x∈cs,x.oneCell'=true)(hrep:RepL P M (Xem bx β) es.flatten (cs.toList.take es.flatten.length)):
 ∃β',UP P C (app s [(id,ver,.arr bx E z es 0)]) (λx=>U x\/x=ver) M β' (w1.alloc (.cells cs T))/\β' id ver=some (some (w.heap.size,cb))/\BLe β β':=by
 have:=I.alloc hw1 hv bx id E z es cb cs T hcs hz hcb hl hb hone (λi d hd=>by
  have⟨x,hx,hr⟩:=hrep.get i d hd
  grind)
 exact⟨_,this.1,XJ ..,this.2⟩
def Xj3(I:UP P C s U M β w)(hv:¬U ver){T:TypeId}{ty:I8}(hT:Xo P T=some ty){x:Value}{cs:List D}(hrep:RepL P M β cs x.cells.toList)(hone:∀y∈x.cells,y.oneCell'=true)(hsz:cs.length=ty.size)(hby:ty.bytes<=Xp)(id:Nat):
 VOK P C s [(id,ver,.arr true T ty.size [cs] 0)] U ver M β ((do pure (Value.pointer (some (←newVar T x))):Sem Value).run P w) (.ept id ver ty.size 0 0):=by
 have hl:=hrep.length;have⟨β',I',hβ,hB⟩:=Xes I hv true id T ty.size [cs] 1 x.cells T w ⟨rfl,rfl,rfl,rfl⟩ (by simp at hl;omega) (by simpa using hsz) ab (by simp[Xp]) (by rw[JE hT];simpa using hby) hone (by
  simp only[List.flatten_cons,List.flatten_nil,U1]
  rw[Uj aa];exact hrep)
 refine⟨M,β',_,.pointer (some ⟨w.heap.size,0,none⟩),?_,I',?_,MLe.refl _,hB⟩
 .simp[newVar,newRow]
 simp_all[Rep]
def Y5{ty:I8}{cs:List D}(h:Jm ty=some cs):RepL P M β cs ty.zero.cells.toList/\∀y∈ty.zero.cells,y.oneCell'=true:=
 KG h (Vx _)
def Xm6(I:UP P C s U M β w){T:TypeId}{ty:I8}(hT:Xo P T=some ty){d:D}{y:Value}{c:Prop}{cs:List D}{o z:Nat}(h:Xen s d=some (c,cs,o,z))(hc:c)(hfit:o+ty.size<=z)(hag:ty.isAgg=true\/ty.size=1)(hr:Rep P M β d y):VOK P C s [] U ver M β ((Instr.loadAt T y).run P w) (KS ty.isAgg ((cs.drop o).take ty.size)):=by obtain⟨b,o0,rfl,hl,hcell⟩:=XhS I h hc hr;obtain⟨v,hv,hrv⟩:=Xb8 hT w M β b o0 o z cs hl hfit hcell (λhf=>by rcases hag with h|h;(rw[h]at hf;cases hf);exact h);refine .same I (v:=v) ?_ hrv;assumption
def Xfq(I:UP P C s U M β w){T:TypeId}{ty:I8}(hT:Xo P T=some ty){id v z i c:Nat}{bx:Bool}{E fz:Nat}{es:List (List D)}(hs:s id=some (v,.arr bx E z es fz)){y x:Value}{dx:D}{ds:List D}(hp:Rep P M β (.ept id v z i c) y)(hd:dx.cells=some ds)(hx:Rep P M (Xem bx β) dx x)(hi:i<es.length)(hfz:fz<=i)(hl:ds.length=ty.size)(hfit:c+ty.size<=z):
 OpOK P C s [(id,v,.arr bx E z (es.set i (Z7 (es.getD i []) c ds)) fz)] U ver M β ((do Instr.storeAt T y x;pure Next.skip:Sem Next).run P w) (.v undef):=by
 obtain⟨b,cb,hb,rfl⟩:=hp;have⟨x0,hx0,ho⟩:=I.obs id v _ hs;rw[hb]at hx0;obtain rfl:some (b,cb)=x0:=by simpa using hx0
 have⟨vs,T0,k1,k2,k3,k4,k5,k6,k7,k8,k9,k10⟩:=ho;have⟨hrep,hone⟩:=KG hd hx;have hcsz:x.cells.size=ty.size:=by rw[VZ hd hx,hl]
 have he:(es.getD i []).length=z:=by rw[Wp,Wc hi];exact k3 _ (WO _)
 have hle:(i+1)*z<=cb*z:=WZ _ aa;rw[Im]at hle;have hst:=run_storeCells_at P b (i*z+c) T0 x.cells.toList 0 vs w k1 (by simp[hcsz];omega) (by simpa using hone);have hspl:(Z7 (es.getD i []) c ds).length=z:=by rw[Xdp _ _ _ aa];exact he
 have I':=I.write hs hb k1 (cs':=(vs.toList.take (i*z+c)++x.cells.toList++vs.toList.drop (i*z+c+x.cells.toList.length)).toArray) (es':=es.set i (Z7 (es.getD i []) c ds))
  (by simp[hcsz];omega) ab
  (λe hm=>by
   rcases Ux hm with hm|rfl
   .exact k3 e hm
   .exact hspl)
  (λy hy=>by
   simp only[List.mem_toArray,WG]at hy
   rcases hy with(hy|hy)|hy
   .exact k8 y (by simpa using WW hy)
   .exact hone y (by simpa using hy)
   .exact k8 y (by simpa using WP hy))
  (λo ho=>by
   have hlt:o<i*z+c:=by
    have:fz*z<=i*z:=WZ _ hfz
    omega
   simp
   rw[UT ah,Uk,Wq hlt]
   simp)
  (λk d hk=>by
   rw[Xfo k3 i _ hi hspl]at hk
   simp only[UW]
   rw[JF _ _ _ (by simp[hcsz];omega)]
   simp only[UV,hcsz]
   split at hk
   .rename_i hin
    rw[Im]at hin
    rw[XgQ _ _ _ aa]at hk
    have hold:∀d,(es.getD i [])[k-i*z]? = some d->∃x,vs.toList[k]? = some x/\Rep P M (Xem bx β) d x:=by
     intro d hd'
     obtain⟨x,hx1,hx2⟩:=k10 (i*z+(k-i*z)) d (by rw[Jn k3 _ _ aa];exact hd')
     have:i*z+(k-i*z)=k:=aa
     rw[this]at hx1
     exact⟨x,by simpa using hx1,hx2⟩
    split at hk
    .rw[Wq aa];exact hold d hk
    .split at hk
     .rw[Wn aa,Wq aa]
      have⟨x',hx1,hx2⟩:=hrep.get _ d hk
      refine⟨x',?_,hx2⟩
      rw[←hx1];congr 1;omega
     .rw[Wn aa,Wn aa];exact hold d hk
   .rename_i hout
    rw[Im]at hout
    have⟨x',hx1,hx2⟩:=k10 k d hk
    by_cases hlo:k<i*z+c
    .rw[Wq hlo];exact⟨x',by simpa using hx1,hx2⟩
    .rw[Wn hlo,Wn aa];exact⟨x',by simpa using hx1,hx2⟩)
 refine⟨M,β,_,undef,.inr ⟨?_,rfl⟩,(by rw[XiT];exact I'.mono λ_ h=>Or.inl h),by simp[Rep,undef,wfV],MLe.refl _,BLe.refl _⟩;simp[hcsz,Instr.storeAt,Instr.sureAddr,storeVar,YJ,hT,hst]
end
variable {P:Program}
def Xbi{p:Nat->Value->Prop}:∀(n:Nat),(∀k,k<n->∃x,p k x)->∃l:List Value,l.length=n/\∀(k:Nat)(x:Value),l[k]? = some x->p k x
 |0,_=>⟨[],rfl,ab⟩
 |n+1,h=>by have⟨l,h1,h2⟩:=Xbi n (λk hk=>h k aa);have⟨x,hx⟩:=h n aa;refine⟨l++[x],by simp[h1],λk y hy=>?_⟩;grind
section
variable {C:Cx}{s:Heap}{U:Nat->Prop}{ver:Nat}{M:Mem}{β:Loc}{w:World}
def Xfr(I:UP P C s U M β w){z:Nat}{d:D}{c:Prop}{src:List (List D)}(h:elems s z d=some (c,src))(hc:c){y:Value}(hr:Rep P M β d y):
 ∃base cap vals,y=.slice base src.length cap/\(∀e∈src,e.length=z)/\vals.length=src.length*z/\(base=none->src.length=0) /\
  (∀a,base=some a->∀(j:Nat)(v:Value),vals[j]? = some v->w.cell? (a.add j)=some v)/\RepL P M Yu src.flatten vals/\∀v∈vals,v.oneCell'=true:=by
 unfold elems at h;split at h
 .have⟨rfl,rfl⟩:True=c/\[]=src:=by simpa using h
  obtain⟨a,rfl⟩:=hr;refine⟨a,0,[],rfl,ab,ab,ab,λa' ha=>ab,by simp[RepL],ab⟩
 .rename_i a cap;have⟨rfl,rfl⟩:True=c/\[]=src:=by simpa using h
  obtain⟨rfl,_⟩:=hr;refine⟨a,cap,[],rfl,ab,ab,ab,λa' ha=>ab,by simp[RepL],ab⟩
 .rename_i E z' es;split at h
  .rename_i hz;subst hz;have⟨rfl,rfl⟩:True=c/\es=src:=by simpa using h
   obtain⟨h1,h2,h3,a,cap,rfl,_,hr⟩:=hr;rcases hr with rfl|⟨b,o,rfl,hr⟩
   .refine⟨a,cap,[],rfl,ab,ab,ab,λa' ha=>ab,by simp[RepL],ab⟩
   .obtain⟨vals,l1,l2⟩:=Xbi (p:=λk x=>M b (o+k)=some x/\∀d,es.flatten[k]? = some d->Rep P M Yu d x) (es.length*z) (λk hk=>by
     have hzp:0<z:=by
      rcases Ua z with h0|h0
      .subst h0;simp at hk
      .exact h0
     have hq:k / z<es.length:=(U3 hzp).2 hk
     have hm:=Nat.mod_lt k hzp
     have he:=hr.get h1 (k / z) es[k / z] (by simp[hq])
     have hlen:(es[k / z]).length=z:=h1 _ (WO _)
     have⟨x,hx1,hx2⟩:=he.get (k % z) (es[k / z][k % z]'aa) ab
     refine⟨x,?_,λd hd=>?_⟩
     .rw[←hx1];have:=Nat.div_add_mod' k z;congr 1;omega
     .rw[YN h1,Wp,Wc hq]at hd
      simp at hd
      rw[Wc aa]at hd
      obtain rfl:=by simpa using hd
      exact hx2)
    refine⟨some ⟨b,o,none⟩,cap,vals,rfl,h1,l1,ab,λa ha=>?_,?_,?_⟩
    .obtain rfl:=by simpa using ha
     intro j v hv
     rw[UR]
     exact(I.mem b _ v (l2 j v hv).1).1
    .refine RepL.of (by rw[l1,XV h1]) λi d x hd hx=>?_
     exact(l2 i x hx).2 d hd
    .intro v hv
     obtain⟨i,hi,rfl⟩:=WN hv
     exact(I.mem b _ _ (l2 i _ ab).1).2
  cases h
 .rename_i id v z' off len;split at h
  .rename_i v' E z'' es fz hs;split at h
   .rename_i hv;have⟨rfl,rfl,rfl⟩:=hv;have⟨rfl,rfl⟩:(off+len<=es.length)=c/\(es.drop off).take len=src:=by simpa using h
    have hlen:((es.drop off).take len).length=len:=by simp;omega
    rcases hr with⟨hn,rfl,rfl,a,rfl⟩|⟨b,cb,o,cap,hb,rfl,hcap,hcb,ho⟩
    .refine⟨a,0,[],ab,ab,ab,ab,λa' ha=>ab,by simp[RepL],ab⟩
    have⟨x0,hx0,hob⟩:=I.obs id v _ hs;rw[hb]at hx0;obtain rfl:some (b,cb)=x0:=by simpa using hx0
    have⟨vs,T0,k1,k2,k3,k4,k5,k6,k7,k8,k9,k10⟩:=hob;have hcl:(off+len)*z<=cb*z:=WZ _ aa;rw[Uu]at hcl;have hsub:∀e∈(es.drop off).take len,e.length=z:=λe he=>k3 e (WP (WW he));refine⟨some ⟨b,o,none⟩,cap,(vs.toList.drop (off*z)).take (len*z),by rw[hlen],hsub,by rw[hlen];simp;omega,ab,λa ha=>?_,?_,λv hv=>k8 v (by simpa using WP (WW hv))⟩
    .obtain rfl:=by simpa using ha
     intro j v hv;rw[J7]at hv;split at hv
     .rename_i hj;have hcap0:cap≠0:=by rintro rfl;have:len=0:=aa;subst this;simp at hj
      have ho':o=off*z:=by rcases ho with h|h;exact h;exact absurd h hcap0
      subst ho';rw[UR,cell_of_row w b _ vs T0 (0,0) k1];simpa using hv
     cases hv
    refine RepL.of (by rw[XV hsub,hlen];simp;omega) λi d x hd hx=>?_;rw[J7]at hx;split at hx
    .rename_i hi;have hzp:0<z:=by
      rcases Ua z with h0|h0
      .subst h0;simp at hi
      exact h0
     have hdiv:=Nat.div_add_mod' i z;have hm:=Nat.mod_lt i hzp;have hq:i / z<len:=(U3 hzp).2 hi;rw[YN hsub,Wp,J7,Wq hq]at hd;have⟨y,hy,hry⟩:=k10 (off*z+i) d (by
      have:off*z+i=(off+i / z)*z+i % z:=by rw[Uu];omega
      rw[this,Jn k3 _ _ hm,Wp];exact hd)
     rw[UO,hy]at hx;obtain rfl:y=x:=by simpa using hx
     exact hry
    cases hx
   cases h
  cases h
 simp_all
section
variable {T T2 E E2:TypeId}{te:I8}{o':TypeId}{sLen sCap:Nat}
def Xj4(hT:P.underlying T=some (.slice E))(hT2:P.underlying T2=some (.slice E2))(hE:Xo P E=some te){xb:Option Addr}{m xc:Nat}{news:List Value}{b o:Nat}{cur:Array Value}{T0:TypeId}(hroom:sLen+m<=sCap)(happ:(Builtin.firstCells te.size m (.slice xb m xc)).run P w=.ok news.toArray w)(hg:w.heap[b]? = some (.cells cur T0 (0,0)))(hfit:o+sLen*te.size+news.length<=cur.size)(h1:∀u∈news,u.oneCell'=true):
 (Builtin.append_ #[T,T2] o' #[.slice (some ⟨b,o,none⟩) sLen sCap,.slice xb m xc]).run P w =
  .ok (.slice (some ⟨b,o,none⟩) (sLen+m) sCap) (w.setRow b (cur.toList.take (o+sLen*te.size)++news++cur.toList.drop (o+sLen*te.size+news.length)).toArray):=by have hst:=run_storeCells_at P b (o+sLen*te.size) T0 news 0 cur w hg (by exact hfit) h1;simp[IB,Builtin.append_,run_underlying,hT,hT2,YJ,hE,Builtin.lenOf,hroom,happ,UR,hst]
def Xj5(hT:P.underlying T=some (.slice E))(hT2:P.underlying T2=some (.slice E2))(hE:Xo P E=some te){xb:Option Addr}{m xc:Nat}{news:List Value}(a:Option Addr)(hroom:sLen+m<=sCap)(happ:(Builtin.firstCells te.size m (.slice xb m xc)).run P w=.ok news.toArray w)(ha:news=[]):
 (Builtin.append_ #[T,T2] o' #[.slice a sLen sCap,.slice xb m xc]).run P w=.ok (.slice a (sLen+m) sCap) w:=by subst ha;cases a<;>simp[Builtin.append_,run_underlying hT,run_underlying hT2,YJ hE,Builtin.lenOf,hroom,happ,storeCells]
def Xj6(hT:P.underlying T=some (.slice E))(hT2:P.underlying T2=some (.slice E2))(hE:Xo P E=some te){base:Option Addr}{xb:Option Addr}{m xc:Nat}{olds news:List Value}(hno:sCap<sLen+m)(hold:(Builtin.firstCells te.size sLen (.slice base sLen sCap)).run P w.drew=.ok olds.toArray w.drew)(happ:(Builtin.firstCells te.size m (.slice xb m xc)).run P w.drew=.ok news.toArray w.drew)(hb:(sLen+m)*te.bytes<=Xp)(hl:sLen+m<=Xp):
 (Builtin.append_ #[T,T2] o' #[.slice base sLen sCap,.slice xb m xc]).run P w =
  .ok (.slice (some ⟨w.heap.size,0,none⟩) (sLen+m) (grownCap w (sLen+m) sCap E)) (w.drew.alloc (.cells (olds.toArray++news.toArray++Builtin.zeroCells te.zero.cells (grownCap w (sLen+m) sCap E-(sLen+m))) E)):=by
 have hn:¬(sLen+m<=sCap):=aa;have h63':¬(9223372036854775807<((sLen:Int)+(m:Int))):=by simp only[Xp]at hl;omega
 have⟨i,d,hi,hu,hz,hsz,hby,_⟩:=Yd hE;have h48':¬(281474976710656<Builtin.nextslicecap (sLen+m) sCap*i.bytes):=by have:=growslice_fits (bytes:=te.bytes) hno (by exact hb);rw[hby];omega
 simp[Builtin.append_,run_underlying hT,run_underlying hT2,Builtin.lenOf,hn,h63',sizeOf,typeInfo,hi,hsz,h48',Question.forced,hold,happ,zeroValue,hz,newRow,grownCap];grind
def Xm7(hT:P.underlying T=some (.slice E)){k k':IntKind}(hT2:P.underlying T2=some (.int k))(hE:Xo P E=some te){n:Int}(h0:0<=n)(hn1:n<=Xp)(hn2:n.toNat*te.bytes<=Xp){b o:Nat}{cur:Array Value}{T0:TypeId}{news:List Value}(hnews:news=(if n.toNat*te.size=0 then[]else(Builtin.zeroCells te.zero.cells n.toNat).toList))(hroom:sLen+n.toNat<=sCap)(hg:w.heap[b]? = some (.cells cur T0 (0,0)))(hfit:o+sLen*te.size+news.length<=cur.size)(h1:∀u∈news,u.oneCell'=true):
 (Builtin.append_ #[T,T2] o' #[.slice (some ⟨b,o,none⟩) sLen sCap,.int k' n]).run P w =
  .ok (.slice (some ⟨b,o,none⟩) (sLen+n.toNat) sCap) (w.setRow b (cur.toList.take (o+sLen*te.size)++news++cur.toList.drop (o+sLen*te.size+news.length)).toArray):=by
 have hst:=run_storeCells_at P b (o+sLen*te.size) T0 news 0 cur w hg aa h1;have hw:IntKind.i64.wrap n=n:=by rw[IntKind.wrap_i64];simp only[Xp]at hn1;omega
 have hneg:¬n<0:=aa;have⟨i,d,hi,hu,hz,hsz,hby,_⟩:=Yd hE;have hb48:¬(281474976710656<n*(i.bytes:Int)):=by
  have:((n.toNat*te.bytes:Nat):Int)=n*te.bytes:=by rw[Int.natCast_mul,Int.toNat_of_nonneg h0]
  rw[hby,←this];simp only[Xp]at hn2;omega
 by_cases hz0:n.toNat*te.size=0
 .rw[Wq hz0]at hnews;subst hnews;simp[Builtin.append_,run_underlying hT,run_underlying hT2,sizeOf,typeInfo,hi,hsz,asInt,asIntOf,hw,hneg,hb48,hroom,hz0,storeCells,setRow_self w b cur T0 (0,0) hg]
 rw[Wn hz0]at hnews;have hza:(Builtin.zeroCells te.zero.cells n.toNat).toList=news:=hnews.symm;simp[Builtin.append_,run_underlying hT,run_underlying hT2,sizeOf,typeInfo,hi,hsz,asInt,asIntOf,hw,hneg,hb48,hroom,hz0,zeroValue,hz,UR,hza,hst]
def Xm8(hT:P.underlying T=some (.slice E)){k k':IntKind}(hT2:P.underlying T2=some (.int k))(hE:Xo P E=some te){n:Int}(h0:0<=n)(hn1:n<=Xp)(hn2:n.toNat*te.bytes<=Xp){base:Option Addr}{olds news:List Value}(hnews:news=(if n.toNat*te.size=0 then[]else(Builtin.zeroCells te.zero.cells n.toNat).toList))(hno:sCap<sLen+n.toNat)(hold:(Builtin.firstCells te.size sLen (.slice base sLen sCap)).run P w.drew=.ok olds.toArray w.drew)(hb:(sLen+n.toNat)*te.bytes<=Xp)(hl:sLen+n.toNat<=Xp):
 (Builtin.append_ #[T,T2] o' #[.slice base sLen sCap,.int k' n]).run P w =
  .ok (.slice (some ⟨w.heap.size,0,none⟩) (sLen+n.toNat) (grownCap w (sLen+n.toNat) sCap E)) (w.drew.alloc (.cells (olds.toArray++news.toArray++Builtin.zeroCells te.zero.cells (grownCap w (sLen+n.toNat) sCap E-(sLen+n.toNat))) E)):=by
 have hn:¬(sLen+n.toNat<=sCap):=aa;have hw:IntKind.i64.wrap n=n:=by rw[IntKind.wrap_i64];simp only[Xp]at hn1;omega
 have hneg:¬n<0:=aa;have h63'':¬(9223372036854775807<((sLen:Int)+max n 0)):=by simp only[Xp]at hl;omega
 have⟨i,d,hi,hu,hz,hsz,hby,_⟩:=Yd hE;have hb48:¬(281474976710656<n*(i.bytes:Int)):=by
  have:((n.toNat*te.bytes:Nat):Int)=n*te.bytes:=by rw[Int.natCast_mul,Int.toNat_of_nonneg h0]
  rw[hby,←this];simp only[Xp]at hn2;omega
 have h48':¬(281474976710656<Builtin.nextslicecap (sLen+n.toNat) sCap*i.bytes):=by have:=growslice_fits (bytes:=te.bytes) hno ag;rw[hby];omega
 by_cases hz0:n.toNat*te.size=0
 .subst hnews;simp[Builtin.append_,run_underlying hT,run_underlying hT2,sizeOf,typeInfo,hi,hsz,asInt,asIntOf,hw,hneg,hb48,hn,h63'',h48',Question.forced,hold,hz0,zeroValue,hz,newRow,grownCap]
 rw[Wn hz0]at hnews;have hza:(Builtin.zeroCells te.zero.cells n.toNat).toList=news:=hnews.symm;have hza':Builtin.zeroCells te.zero.cells n.toNat=news.toArray:=by rw[←hza]
 simp[Builtin.append_,run_underlying hT,run_underlying hT2,sizeOf,typeInfo,hi,hsz,asInt,asIntOf,hw,hneg,hb48,hn,h63'',h48',Question.forced,hold,hz0,zeroValue,hz,newRow,grownCap,hza'];grind
end
end
variable {P:Program}
section
variable {C:Cx}{s:Heap}{U:Nat->Prop}{ver:Nat}{M:Mem}{β:Loc}{w:World}
def Yi(z:Array Value)(n:Nat):(Builtin.zeroCells z n).size=n*z.size:=by simp[Builtin.zeroCells]
def Y6{z:Array Value}(h:∀y∈z,y.oneCell'=true)(n:Nat):∀y∈Builtin.zeroCells z n,y.oneCell'=true:=by
 intro y hy;simp only[Builtin.zeroCells,Array.mem_map,Array.mem_range]at hy;obtain⟨i,hi,rfl⟩:=hy;have hz:0<z.size:=by
  rcases Ua z.size with h0|h0
  .rw[h0]at hi;simp at hi
  exact h0
 have hm:=Nat.mod_lt i hz;simp_all
structure Of(P:Program)(w:World)(E:Nat)(te:I8)(n:Nat)(vals:List Value)(run:Value->Result Value):Prop where
 room:∀b o sLen sCap cur T0,sLen+n<=sCap->w.heap[b]? = some (.cells cur T0 (0,0))->o+sLen*te.size+vals.length<=cur.size ->
  run (.slice (some ⟨b,o,none⟩) sLen sCap)=.ok (.slice (some ⟨b,o,none⟩) (sLen+n) sCap) (w.setRow b (cur.toList.take (o+sLen*te.size)++vals++cur.toList.drop (o+sLen*te.size+vals.length)).toArray)
 none:∀a sLen sCap,sLen+n<=sCap->vals=[]->run (.slice a sLen sCap)=.ok (.slice a (sLen+n) sCap) w
 grow:∀base sLen sCap(olds:List Value),sCap<sLen+n->(Builtin.firstCells te.size sLen (.slice base sLen sCap)).run P w.drew=.ok olds.toArray w.drew->(sLen+n)*te.bytes<=Xp->sLen+n<=Xp ->
  run (.slice base sLen sCap)=.ok (.slice (some ⟨w.heap.size,0,.none⟩) (sLen+n) (grownCap w (sLen+n) sCap E)) (w.drew.alloc (.cells (olds.toArray++vals.toArray++Builtin.zeroCells te.zero.cells (grownCap w (sLen+n) sCap E-(sLen+n))) E))
def Xcb(size:Nat)(a:Option Addr)(sCap:Nat)(w:World):(Builtin.firstCells size 0 (.slice a 0 sCap)).run P w=.ok #[] w:=by cases a<;>simp[Builtin.firstCells,loadCells,loadCellsFrom]
def XhV(I:UP P C s U M β w)(hv:¬U ver){E z:Nat}{te:I8}{zc:List D}(hzc:Jm te=some zc)(hzl:zc.length=z){src:List (List D)}{vals:List Value}(hsz:∀e∈src,e.length=z)(hrep:RepL P M Yu src.flatten vals)(hone:∀v∈vals,v.oneCell'=true){E':Nat}(hb:src.length*P.bytesOf E'<=Xp)(hl:src.length<=Xp)(id:Nat)(cap:Nat)(hcap:src.length<=cap):
 ∃β',UP P C (app s [(id,ver,.arr false E' z src 0)]) (λx=>U x\/x=ver) M β' (w.drew.alloc (.cells (([]:List Value).toArray++vals.toArray++Builtin.zeroCells te.zero.cells (cap-src.length)) E)) /\
  β' id ver=some (some (w.heap.size,cap))/\BLe β β':=by
 have⟨z1,z2⟩:=Y5 (P:=P) (M:=M) (β:=β) hzc;have hzs:te.zero.cells.size=z:=by have:=z1.length;simp at this;omega
 have hvl:vals.length=src.length*z:=by rw[hrep.length,XV hsz]
 refine Xes I hv false id E' z src cap _ E w.drew ⟨rfl,rfl,rfl,rfl⟩ ?_ hsz hcap hl hb ?_ ?_
 .simp only[List.append_toArray,Uh,Array.size_append,List.size_toArray,Yi,hzs,hvl,←Uu];simp_all
 .intro x hx;simp at hx;rcases hx with hx|hx
  .simp_all
  exact Y6 z2 _ x hx
 have:(([]:List Value).toArray++vals.toArray++Builtin.zeroCells te.zero.cells (cap-src.length)).toList.take src.flatten.length=vals:=by have h1:src.flatten.length=vals.length:=hrep.length.symm;simp[h1]
 rw[this];exact hrep
def XhW(I:UP P C s U M β w)(hv:¬U ver){E z:Nat}{te:I8}(hE:Xo P E=some te)(hz:te.size=z){zc:List D}(hzc:Jm te=some zc)(hzl:zc.length=z){src:List (List D)}{vals:List Value}(hsz:∀e∈src,e.length=z)(hrep:RepL P M Yu src.flatten vals)(hone:∀v∈vals,v.oneCell'=true){run:Value->Result Value}(R:Of P w E te src.length vals run){sid:Nat}{c0 c:Prop}{d d':D}{u:Up}(h:Xdn P s sid ver E z te.bytes c0 src d=some (c,d',u))(hc:c){y:Value}(hr:Rep P M β d y):
 VOK P C s u U ver M β (run y) d':=by
 have hvl:vals.length=src.length*z:=by rw[hrep.length,XV hsz]
 have⟨z1,z2⟩:=Y5 (P:=P) (M:=M) (β:=β) hzc;have hzs:te.zero.cells.size=z:=by have:=z1.length;simp at this;omega
 unfold Xdn at h;split at h
 ·
  obtain⟨rfl,rfl,rfl⟩:=h;have⟨_,hl,hb⟩:=hc;obtain⟨a,rfl⟩:=hr;rcases Ua src.length with h0|h0
  .have hsrc:src=[]:=WJ h0;subst hsrc;have hvals:vals=[]:=WJ (by simpa using hvl);refine⟨M,Zf β sid ver none,w,_,R.none a 0 0 ab hvals,I.setNil sid ver E z (YV (I.fresh hv sid)) (XJ ..) Y4,?_,MLe.refl _,YV (I.fresh hv sid)⟩;exact .inl ⟨XJ ..,ab⟩
  have hg:=R.grow a 0 0 [] aa (Xcb _ _ _ _) (by simpa using hb) (by simpa using hl);simp only[Uy]at hg;have hcap:=grownCap_ge w src.length 0 E;have⟨β',I',hβ,hB⟩:=XhV (E:=E) I hv hzc hzl hsz hrep hone (E':=E) (by rw[JE hE];exact hb) hl sid _ hcap;refine⟨M,β',_,_,hg,I',?_,MLe.refl _,hB⟩;exact .inr ⟨_,_,0,_,hβ,rfl,hcap,ab,.inl ab⟩
 .rename_i id v z' off len;split at h
  .rename_i v' E' z'' es fz hs;split at h
   .rename_i hcond;have⟨rfl,rfl,rfl,hbE⟩:=hcond;have⟨x0,hx0,hob⟩:=I.obs id v _ hs;split at h
    ·
     rename_i hend;obtain⟨rfl,rfl,rfl⟩:=h;obtain⟨_,rfl,hl,hb⟩:=hc;simp only[Uy]at hend;subst hend;simp only[Rep]at hr;have hid:=I.fresh hv id;rcases hr with⟨hn,_,hlen,a,rfl⟩|⟨b,cb,o,cap,hb1,rfl,hcap,hcb,ho⟩
     .have hes:es=[]:=WJ hlen;subst hes;rw[hn]at hx0;obtain rfl:none=x0:=by simpa using hx0
      simp only[ObRep]at hob;obtain⟨_,_,rfl⟩:=hob;simp only[IE,Uy,Uh]at hl hb⊢;rcases Ua src.length with h0|h0
      .have hsrc:src=[]:=WJ h0;subst hsrc;have hvals:vals=[]:=WJ (by simpa using hvl);refine⟨M,Zf β id ver none,w,_,R.none a 0 0 ab hvals,I.setNil id ver E' z (YV hid) (XJ ..) Y4,?_,MLe.refl _,YV hid⟩;simp only[Rep];exact .inl ⟨XJ ..,ab⟩
      have hg:=R.grow a 0 0 [] aa (Xcb _ _ _ _) (by simpa using hb) (by simpa using hl);simp only[Uy]at hg;have hcap:=grownCap_ge w src.length 0 E;obtain⟨β',I',hβ,hB⟩:=XhV (E:=E) I hv hzc hzl hsz hrep hone (E':=E') (by rw[hbE];exact hb) hl id _ hcap;refine⟨M,β',_,_,hg,I',?_,MLe.refl _,hB⟩;simp only[Rep];exact .inr ⟨_,_,0,_,hβ,rfl,hcap,ab,.inl ab⟩
     rw[hb1]at hx0;obtain rfl:some (b,cb)=x0:=by simpa using hx0
     obtain⟨cs,T0,k1,k2,k3,k4,k5,k6,k7,k8,k9,k10⟩:=hob;have hcb':cap=cb:=aa;subst hcb';have hz':∀e∈es++src,e.length=z:=λe he=>by
      rcases WG.1 he with he|he
      .exact k3 e he
      exact hsz e he
     have hfl:es.flatten.length=es.length*z:=XV k3;have hBl:BLe β (Zf β id ver (some (b,cap))):=YV hid;have put:∀(cs':Array Value)(w':World),w'.heap[b]? = some (.cells cs' T0 (0,0))->cs'.size=cs.size->es.length+src.length<=cap->(∀x∈cs',x.oneCell'=true)->(∀o,o<fz*z->cs'[o]? = cs[o]?) ->
      (∀(i:Nat)(d:D),(es++src).flatten[i]? = some d->∃x,cs'[i]? = some x/\Rep P M Yu d x)->(∀k,k≠b->w'.heap[k]? = w.heap[k]?)->w'.os=w.os->w'.tape=w.tape->w'.output=w.output->w.heap.size<=w'.heap.size ->
      UP P C (upd s id (some (ver,.arr false E' z (es++src) fz))) (λx=>U x\/x=ver) M (Zf β id ver (some (b,cap))) w':=by
      intro cs' w' h1 h2 h3 h4 h5 h6 h7 h8 h9 h10 h11
      refine I.set id ver _ b cap (MLe.refl M) hBl h7 (λ_ _ _=>rfl) ?_ (XJ ..) ?_ ?_ (I.own id v (.arr false E' z es fz) b cap hs hb1:_\/(_/\false=true)) (λ_ _=>rfl) h8 h9 h10 h11 Y4
      .intro o x hx
       have ho:=k9 o
       rw[hx]at ho
       split at ho
       .rename_i hlt
        rw[cell_of_row w' b o cs' T0 (0,0) h1,h5 o hlt]
        exact⟨ho.symm,(I.mem b o x hx).2⟩
       .cases ho
      .refine⟨cs',T0,h1,by rw[h2];exact k2,hz',by simpa using h3,by simpa using hl,by rw[hbE];simpa using hb,ah,h4,λo=>?_,λi d hd=>?_⟩
       .rw[k9 o]
        split
        .rename_i hlt;exact(h5 o hlt).symm
        .rfl
       .obtain⟨x,hx,hr⟩:=h6 i d hd
        exact⟨x,hx,hr⟩
      .intro id' v' ob' cb' hne hs' hx'
       exact hne (I.inj id' v' ob' id v _ b cb' cap hs' hs hx' hb1)
     by_cases hroom:es.length+src.length<=cap
     .by_cases hvals:vals=[]
      .refine⟨M,Zf β id ver (some (b,cap)),w,_,R.none _ es.length cap hroom hvals,?_,?_,MLe.refl _,hBl⟩
       .refine put cs w k1 rfl hroom k8 (λ_ _=>rfl) (λi d hd=>?_) (λ_ _=>rfl) rfl rfl rfl (Un _);rw[Yx]at hd;split at hd
        .exact k10 i d hd
        have:src.flatten=[]:=WJ (by rw[XV hsz,←hvl,hvals];rfl);rw[this]at hd;simp at hd
       simp only[Rep];exact .inr ⟨b,cap,o,cap,XJ ..,rfl,hroom,ab,ho⟩
      have hcap0:cap≠0:=by rintro rfl;have:src.length=0:=aa;exact hvals (WJ (by rw[hvl,this];simp))
      have ho':o=0:=by rcases ho with h|h;simpa using h;exact absurd h hcap0
      subst ho';have hmul:(es.length+src.length)*z<=cap*z:=WZ _ hroom;rw[Uu]at hmul;have hrun:=R.room b 0 es.length cap cs T0 hroom k1 (by rw[hz,hvl];omega);rw[hz]at hrun;simp only[Uy]at hrun;refine⟨M,Zf β id ver (some (b,cap)),_,_,hrun,?_,?_,MLe.refl _,hBl⟩
      .refine put _ _ (setRow_heap w b cs _ T0 (0,0) k1) (by simp[hvl];omega) hroom ?_ ?_ ?_ (λk hk=>setRow_other w b k _ hk) rfl rfl rfl ab
       .intro x hx;simp only[List.mem_toArray,WG]at hx;rcases hx with(hx|hx)|hx
        .exact k8 x (by simpa using WW hx)
        .exact hone x hx
        exact k8 x (by simpa using WP hx)
       .intro i hi;have:fz*z<=es.length*z:=WZ _ k7;simp only[UW];rw[JF _ _ _ ah,Wq aa];simp
       intro i d hd;rw[Yx,hfl]at hd;simp only[UW];rw[JF _ _ _ ah];split at hd
       .rename_i hi;rw[Wq hi];obtain⟨x,hx,hr⟩:=k10 i d hd;exact⟨x,by simpa using hx,hr⟩
       rename_i hi;rw[Wn hi];obtain⟨x,hx,hr⟩:=hrep.get _ d hd;have hlt:i-es.length*z<vals.length:=by
        rcases Uq (i-es.length*z) vals.length with h|h
        .exact h
        rw[WY h]at hx;cases hx
       rw[Wq aa];exact⟨x,hx,hr⟩
      simp only[Rep];exact .inr ⟨b,cap,0,cap,XJ ..,rfl,hroom,ab,.inl ab⟩
     
     have hlt:cap<es.length+src.length:=aa;have holds:(Builtin.firstCells te.size es.length (.slice (some ⟨b,o,none⟩) es.length cap)).run P w.drew=.ok ((cs.toList.take (es.length*z)).toArray) w.drew:=by
      refine run_firstCells_some (P:=P) w.drew te.size es.length ⟨b,o,none⟩ es.length cap (cs.toList.take (es.length*z)) ?_ ?_
      .have:es.length*z<=cap*z:=WZ _ k4;simp[hz];omega
      intro j x hx;rw[Uk]at hx;split at hx
      .rename_i hj;have hcap0:cap≠0:=by rintro rfl;have:es.length=0:=aa;rw[this]at hj;simp at hj
       have ho':o=0:=by rcases ho with h|h;simpa using h;exact absurd h hcap0
       subst ho';rw[UR];show w.cell? ⟨b,0+j,none⟩=some x;rw[Uy,cell_of_row w b j cs T0 (0,0) k1];simpa using hx
      cases hx
     have hg:=R.grow (some ⟨b,o,none⟩) es.length cap (cs.toList.take (es.length*z)) hlt holds hb hl;have hcapn:=grownCap_ge w (es.length+src.length) cap E;generalize hN:grownCap w (es.length+src.length) cap E=N at hg hcapn;generalize hrow:((cs.toList.take (es.length*z)).toArray++vals.toArray++Builtin.zeroCells te.zero.cells (N-(es.length+src.length)))=row at hg;have hescs:es.length*z<=cs.size:=by rw[k2];exact WZ _ k4
     have hrowsize:row.size=N*z:=by rw[←hrow];simp only[Array.size_append,List.size_toArray,Wj,UV,Yi,hzs,hvl];have:min (es.length*z) cs.size=es.length*z:=aa;rw[this,←Uu,←Uu];congr 1;omega
     have hrowlist:row.toList=cs.toList.take (es.length*z)++(vals++(Builtin.zeroCells te.zero.cells (N-(es.length+src.length))).toList):=by rw[←hrow];simp
     have hrowget1:∀i,i<es.length*z->row[i]? = cs[i]?:=by intro i hi;rw[←UO,hrowlist,UT ah,Uk,Wq hi];simp
     have hrowget2:∀i,i<vals.length->row[es.length*z+i]? = vals[i]?:=by
      intro i hi;have h1:(cs.toList.take (es.length*z)).length=es.length*z:=by simp;omega
      rw[←UO,hrowlist,UZ aa,h1,Ix,UT hi]
     have hrowone:∀x∈row,x.oneCell'=true:=by
      intro x hx;have hx':x∈row.toList:=by simpa using hx
      rw[hrowlist]at hx';simp only[WG]at hx';rcases hx' with hx'|hx'|hx'
      .exact k8 x (by simpa using WW hx')
      .exact hone x hx'
      exact Y6 z2 _ x (by simpa using hx')
     have hMnew:∀i,M w.heap.size i=none:=by
      intro i;cases hx:M w.heap.size i with
      |none=>rfl
      |some x=>exact absurd (I.mem.lt hx) (U8 _)
     have hblt:b<w.heap.size:=by
      rcases Uq b w.heap.size with h'|h'
      .exact h'
      simp[Array.getElem?_eq_none h']at k1
     let M':Mem:=λk i=>if k=w.heap.size then(if i<fz*z then row[i]? else none)else M k i
     have hMle:MLe M M':=by
      intro k i x hx;show(if k=w.heap.size then _ else M k i)=some x;rw[Wn]
      .exact hx
      rintro rfl;rw[hMnew]at hx;cases hx
     have hBl':BLe β (Zf β id ver (some (w.heap.size,N))):=YV hid;have hheap:∀k,k≠w.heap.size->(w.drew.alloc (.cells row E)).heap[k]? = w.heap[k]?:=by intro k hk;show(w.heap.push _)[k]? = _;rw[Array.getElem?_push,Wn hk]
     have hnew:(w.drew.alloc (.cells row E)).heap[w.heap.size]? = some (.cells row E (0,0)):=by show(w.heap.push _)[w.heap.size]? = _;simp
     refine⟨M',Zf β id ver (some (w.heap.size,N)),_,_,hg,?_,?_,hMle,hBl'⟩
     .refine I.set id ver _ w.heap.size N hMle hBl' hheap (λk hk i=>Wn hk) ?_ (XJ ..) ?_ ?_ (.inl I.keep.size) ?_ rfl rfl rfl (by show w.heap.size<=(w.heap.push _).size;simp) Y4
      .intro i x hx;have hx':(if i<fz*z then row[i]? else none)=some x:=by have:=hx;simp only[M',if_true]at this;exact this
       split at hx'
       .rename_i hi;rw[cell_of_row _ _ i row E (0,0) hnew];refine⟨hx',hrowone x ?_⟩;exact Array.mem_of_getElem? hx'
       cases hx'
      .refine⟨row,E,hnew,hrowsize,hz',by simpa using hcapn,by simpa using hl,by rw[hbE];simpa using hb,ah,hrowone,λi=>?_,λi d hd=>?_⟩
       .simp only[M',if_true]
       rw[Yx,hfl]at hd;split at hd
       .rename_i hi;obtain⟨x,hx,hr⟩:=k10 i d hd;exact⟨x,by rw[hrowget1 i hi];exact hx,hr.mono hMle (BLe.refl _)⟩
       rename_i hi;obtain⟨x,hx,hr⟩:=hrep.get _ d hd;have hlt2:i-es.length*z<vals.length:=by
        rcases Uq (i-es.length*z) vals.length with h|h
        .exact h
        rw[WY h]at hx;cases hx
       have:=hrowget2 _ hlt2;have hi2:es.length*z+(i-es.length*z)=i:=aa;rw[hi2]at this;exact⟨x,by rw[this];exact hx,hr.mono hMle (BLe.refl _)⟩
      .intro id' v' ob' cb' _ hs' hx';obtain⟨yy,hy,hob'⟩:=I.obs id' v' ob' hs';rw[hx']at hy;obtain rfl:some (w.heap.size,cb')=yy:=by simpa using hy
       exact absurd hob'.lt (U8 _)
      intro hlt';exact absurd I.keep.size aa
     simp only[Rep];exact .inr ⟨w.heap.size,N,0,N,XJ ..,rfl,hcapn,ab,.inl ab⟩
    
    rename_i hend;simp only[Ws,Wx]at h;obtain⟨rfl,rfl,rfl⟩:=h;obtain⟨_,hfit,hfz⟩:=hc;simp only[Rep]at hr;rcases hr with⟨hn,rfl,rfl,a,rfl⟩|⟨b,cb,o,cap,hb1,rfl,hcap,hcb,ho⟩
    .rw[hn]at hx0;obtain rfl:none=x0:=by simpa using hx0
     simp only[ObRep]at hob;exact absurd (by rw[hob.2.1];rfl) hend
    rw[hb1]at hx0;obtain rfl:some (b,cb)=x0:=by simpa using hx0
    obtain⟨cs,T0,k1,k2,k3,k4,k5,k6,k7,k8,k9,k10⟩:=hob;have hcap0:cap≠0:=by rintro rfl;omega
    have ho':o=off*z:=by rcases ho with h|h;exact h;exact absurd h hcap0
    subst ho';have hroom:len+src.length<=cap:=aa;have hmul:(off+len+src.length)*z<=cb*z:=WZ _ aa;rw[Uu,Uu]at hmul;have hrun:=R.room b (off*z) len cap cs T0 hroom k1 (by rw[hz,hvl];omega);rw[hz]at hrun;have hpre:∀e∈es.take (off+len)++src++es.drop (off+len+src.length),e.length=z:=by
     intro e he;simp only[WG]at he;rcases he with(he|he)|he
     .exact k3 e (WW he)
     .exact hsz e he
     exact k3 e (WP he)
    have I':=I.write hs hb1 k1 (cs':=(cs.toList.take (off*z+len*z)++vals++cs.toList.drop (off*z+len*z+vals.length)).toArray) (es':=es.take (off+len)++src++es.drop (off+len+src.length))
     (by simp[hvl];omega) ah hpre
     (λx hx=>by
      simp only[List.mem_toArray,WG]at hx
      rcases hx with(hx|hx)|hx
      .exact k8 x (by simpa using WW hx)
      .exact hone x hx
      .exact k8 x (by simpa using WP hx))
     (λi hi=>by
      have h1:fz*z<=(off+len)*z:=WZ _ hfz
      rw[Uu]at h1
      simp only[UW]
      rw[JF _ _ _ ah,Wq aa]
      simp)
     (λi d hd=>by
      simp only[UW]
      rw[JF _ _ _ ah]
      have htl:(es.take (off+len)).length=off+len:=by simp;omega
      have ht:(es.take (off+len)).flatten.length=off*z+len*z:=by
       rw[XV (λe he=>k3 e (WW he)),htl,Uu]
      have hsrcl:src.flatten.length=vals.length:=hrep.length.symm
      rw[UA,Yx,ht,Yx,hsrcl]at hd
      split at hd
      .rename_i hi
       rw[Wq hi]
       have hd':es.flatten[i]? = some d:=by
        have hzp:0<z:=by
         rcases Ua z with h0|h0
         .subst h0;simp at hi
         .exact h0
        rw[YN (λe he=>k3 e (WW he))]at hd
        rw[YN k3]
        have hq:i / z<off+len:=(U3 hzp).2 (by rw[Uu];exact hi)
        rw[Wp,Uk,Wq hq]at hd
        rw[Wp];exact hd
       obtain⟨x,hx,hr⟩:=k10 i d hd'
       exact⟨x,by simpa using hx,hr⟩
      .rename_i hi
       rw[Wn hi]
       split at hd
       .rename_i hi2
        rw[Wq aa]
        obtain⟨x,hx,hr⟩:=hrep.get _ d hd
        exact⟨x,hx,hr⟩
       .rename_i hi2
        rw[Wn aa]
        have hd':es.flatten[i]? = some d:=by
         rcases Ua z with h0|hzp
         .subst h0
          rw[Xb5 _ (λe he=>k3 e (WP he))]at hd
          cases hd
         .rw[YN (λe he=>k3 e (WP he))]at hd
          rw[YN k3]
          have hN:i-(off*z+len*z)-vals.length=i-z*(off+len+src.length):=by rw[hvl,Nat.mul_comm z,Uu,Uu];omega
          have hge:(off+len+src.length)*z<=i:=by rw[Uu,Uu];omega
          rw[hN,Nat.sub_mul_div,Nat.sub_mul_mod (by rw[Nat.mul_comm];exact hge)]at hd
          rw[Wp,UF]at hd
          have hq:off+len+src.length<=i / z:=(Nat.le_div_iff_mul_le hzp).2 hge
          have:off+len+src.length+(i / z-(off+len+src.length))=i / z:=aa
          rw[this]at hd
          rw[Wp];exact hd
        obtain⟨x,hx,hr⟩:=k10 i d hd'
        exact⟨x,by simpa using hx,hr⟩)
    refine⟨M,β,_,_,hrun,(by rw[XiT];exact I'.mono λ_ h=>Or.inl h),?_,MLe.refl _,BLe.refl _⟩;simp only[Rep];exact .inr ⟨b,cb,off*z,cap,hb1,rfl,hroom,hcb,.inl rfl⟩
   cases h
  cases h
 simp_all
def UP.seg(I:UP P C s U M β w){id v E' z fz b cb p:Nat}{es src:List (List D)}{cs:Array Value}{T0:TypeId}{vals:List Value}(hs:s id=some (v,.arr false E' z es fz))(hb1:β id v=some (some (b,cb)))(k1:w.heap[b]? = some (.cells cs T0 (0,0)))(k2:cs.size=cb*z)(k3:∀e∈es,e.length=z)(k4:es.length<=cb)(k8:∀x∈cs,x.oneCell'=true)(k10:∀(i:Nat)(d:D),es.flatten[i]? = some d->∃x,cs[i]? = some x/\Rep P M Yu d x)(hsz:∀e∈src,e.length=z)(hvl:vals.length=src.length*z)(hrep:RepL P M Yu src.flatten vals)(hone:∀x∈vals,x.oneCell'=true)(hfit:p+src.length<=es.length)(hfz:fz<=p):
 UP P C (upd s id (some (v,.arr false E' z (es.take p++src++es.drop (p+src.length)) fz))) U M β (w.setRow b (cs.toList.take (p*z)++vals++cs.toList.drop (p*z+vals.length)).toArray):=by
 have hmul:(p+src.length)*z<=cb*z:=WZ _ aa;rw[Uu]at hmul;have hpre:∀e∈es.take (p)++src++es.drop (p+src.length),e.length=z:=by
  intro e he;simp only[WG]at he;rcases he with(he|he)|he
  .grind
  .simp_all
  grind
 exact I.write hs hb1 k1 (cs':=(cs.toList.take (p*z)++vals++cs.toList.drop (p*z+vals.length)).toArray) (es':=es.take (p)++src++es.drop (p+src.length))
  (by grind) (by grind) hpre
  (λx hx=>by
   grind)
  (λi hi=>by
   have h1:fz*z<=(p)*z:=WZ _ hfz
   grind)
  (λi d hd=>by
   simp only[UW]
   rw[JF _ _ _ (by simp_all)]
   have htl:(es.take (p)).length=p:=by simp;omega
   have ht:(es.take (p)).flatten.length=p*z:=by
    rw[XV (λe he=>k3 e (WW he)),htl]
   have hsrcl:src.flatten.length=vals.length:=hrep.length.symm
   rw[UA,Yx,ht,Yx,hsrcl]at hd
   split at hd
   .rename_i hi
    have hd':es.flatten[i]? = some d:=by
     have hzp:0<z:=by
      rcases Ua z with h0|h0
      .simp_all
      .omega
     rw[YN (λe he=>k3 e (WW he))]at hd
     rw[YN k3]
     have hq:i / z<p:=(U3 hzp).2 hi
     rw[Wp,Uk,Wq hq]at hd
     rw[Wp];exact hd
    have⟨x,hx,hr⟩:=k10 i d hd'
    exact⟨x,by simp_all,hr⟩
   .rename_i hi
    rw[Wn hi]
    split at hd
    .rw[Wq aa]
     have⟨x,hx,hr⟩:=hrep.get _ d hd
     exact⟨x,hx,hr⟩
    .rw[Wn aa]
     have hd':es.flatten[i]? = some d:=by
      rcases Ua z with h0|hzp
      .subst h0
       rw[Xb5 _ (λe he=>k3 e (WP he))]at hd
       grind
      .rw[YN (λe he=>k3 e (WP he))]at hd
       rw[YN k3]
       have hN:i-(p*z)-vals.length=i-z*(p+src.length):=by rw[hvl,Nat.mul_comm z,Uu];omega
       have hge:(p+src.length)*z<=i:=by rw[Uu];omega
       rw[hN,Nat.sub_mul_div,Nat.sub_mul_mod (by rw[Nat.mul_comm];exact hge)]at hd
       rw[Wp,UF]at hd
       have hq:p+src.length<=i / z:=(Nat.le_div_iff_mul_le hzp).2 hge
       simp_all
     have⟨x,hx,hr⟩:=k10 i d hd'
     exact⟨x,by simp_all,hr⟩)
end
variable {P:Program}
section
variable {C:Cx}{s:Heap}{U:Nat->Prop}{ver:Nat}{M:Mem}{β:Loc}{w:World}
def OpOK.val(I:UP P C s U M β w){r:Result Next}{d:D}{v:Value}(hr:r=.ok (.value v) w)(h:Rep P M β d v):OpOK P C s [] U ver M β r d:=
 ⟨M,β,w,v,.inl hr,I.mono λ_ hv=>.inl hv,h,MLe.refl _,BLe.refl _⟩
def Xet{T T2 E E2:TypeId}{te:I8}{o':TypeId}(hT:P.underlying T=some (.slice E))(hT2:P.underlying T2=some (.slice E2))(hE:Xo P E=some te){xb:Option Addr}{m xc:Nat}{vals:List Value}(hn:vals.length=m*te.size)(h0:xb=none->m=0)(hc:∀a,xb=some a->∀(j:Nat)(v:Value),vals[j]? = some v->w.cell? (a.add j)=some v)(h1:∀v∈vals,v.oneCell'=true):
 Of P w E te m vals (λy=>(Builtin.append_ #[T,T2] o' #[y,.slice xb m xc]).run P w):=by
 have hf:∀w':World,(∀a,w'.cell? a=w.cell? a)->(Builtin.firstCells te.size m (.slice xb m xc)).run P w'=.ok vals.toArray w':=by
  intro w' hw;cases xb with
  |none=>simp_all[Builtin.firstCells]
  |some a=>exact run_firstCells_some (P:=P) w' te.size m a m xc vals hn (λj v hj=>by simp_all)
 exact {
  room:=λb o sLen sCap cur T0 hr hg hfit=>Xj4 hT hT2 hE hr (hf w λ_=>rfl) hg hfit h1
  none:=λa sLen sCap hr hv=>Xj5 hT hT2 hE a hr (hf w λ_=>rfl) hv
  grow:=λbase sLen sCap olds hno hold hb hl=>Xj6 hT hT2 hE hno hold (hf w.drew λ_=>rfl) hb hl}
def Xfs{T T2 E:TypeId}{te:I8}{o':TypeId}{k k':IntKind}(hT:P.underlying T=some (.slice E))(hT2:P.underlying T2=some (.int k))(hE:Xo P E=some te){n:Int}(h0:0<=n)(hn1:n<=Xp)(hn2:n.toNat*te.bytes<=Xp){vals:List Value}(hnews:vals=(if n.toNat*te.size=0 then[]else(Builtin.zeroCells te.zero.cells n.toNat).toList))(h1:∀v∈vals,v.oneCell'=true)(hz:te.zero.cells.size=te.size):
 Of P w E te n.toNat vals (λy=>(Builtin.append_ #[T,T2] o' #[y,.int k' n]).run P w):=by
 refine {
  room:=λb o sLen sCap cur T0 hr hg hfit=>Xm7 hT hT2 hE h0 hn1 hn2 hnews hr hg hfit h1
  none:=λa sLen sCap hr hv=>?_
  grow:=λbase sLen sCap olds hno hold hb hl=>Xm8 hT hT2 hE h0 hn1 hn2 hnews hno hold hb hl}
 have hw:IntKind.i64.wrap n=n:=by rw[IntKind.wrap_i64];simp only[Xp]at hn1;omega
 have hneg:¬n<0:=aa;have⟨i,d,hi,hu,hz',hsz,hby,_⟩:=Yd hE;have hb48:¬(281474976710656<n*(i.bytes:Int)):=by
  have:((n.toNat*te.bytes:Nat):Int)=n*te.bytes:=by rw[Int.natCast_mul,Int.toNat_of_nonneg h0]
  rw[hby,←this];simp only[Xp]at hn2;omega
 have hz0:n.toNat*te.size=0:=by
  rcases Ua (n.toNat*te.size)with h|h
  .omega
  rw[Wn aa]at hnews;have:(Builtin.zeroCells te.zero.cells n.toNat).toList.length=n.toNat*te.size:=by rw[UV,Yi,hz]
  simp_all
 cases a<;>simp[Builtin.append_,run_underlying hT,run_underlying hT2,sizeOf,typeInfo,hi,hsz,asInt,asIntOf,hw,hneg,hb48,hr,hz0,storeCells]
def YO(n:Nat)(zc:List D)(z:Nat)(hz:zc.length=z):∀e∈List.replicate n zc,e.length=z:=by simp_all
def Vy{te:I8}{zc:List D}(hzc:Jm te=some zc)(n:Nat):RepL P M β (List.replicate n zc).flatten (Builtin.zeroCells te.zero.cells n).toList:=by
 have⟨z1,z2⟩:=Y5 (P:=P) (M:=M) (β:=β) hzc;have hl:te.zero.cells.size=zc.length:=by simpa using z1.length
 have hfl:=XV (YO n zc zc.length rfl);rw[WU]at hfl;refine RepL.of (by rw[hfl,UV,Yi,hl]) λi d x hd hx=>?_;have hi:i<n*zc.length:=by
  rcases Uq i (n*zc.length)with h|h
  .exact h
  rw[WY aa]at hd;cases hd
 have hzp:0<zc.length:=by
  rcases Ua zc.length with h|h
  .rw[h]at hi;simp at hi
  exact h
 have hq:i / zc.length<n:=(U3 hzp).2 hi;have hm:=Nat.mod_lt i hzp;rw[YN (YO n zc zc.length rfl),Wp,List.getElem?_replicate,Wq hq]at hd;have⟨y,hy,hr⟩:=z1.get _ d hd;have hx':x=y:=by rw[UO]at hx;simp only[Builtin.zeroCells,Array.getElem?_map,hl,Array.getElem?_range,hi,if_true]at hx;simp only[IF,Ws]at hx;rw[getElem!_pos _ _ (by rw[hl];exact hm)]at hx;rw[UO,Array.getElem?_eq_getElem (by rw[hl];exact hm)]at hy;rw[←hx];simpa using hy
 simp_all
def Xm9(I:UP P C s U M β w)(hv:¬U ver){T E z:Nat}{a b:Nat}{zz:Value}{te:I8}(hT:Xo P T=some ⟨a,b,zz,.slice E z⟩)(hE:Xo P E=some te){zc:List D}(hzc:Jm te=some zc)(hzl:zc.length=z)(hz:te.size=z){k k':IntKind}{n:Int}(h0:0<=n)(h1:n.toNat<=Xp)(h2:n.toNat*te.bytes<=Xp)(id:Nat):
 VOK P C s [(id,ver,.arr false E z (List.replicate n.toNat zc) 0)] U ver M β ((Instr.makeSlice T (.int k n) (.int k' n)).run P w) (.osl id ver z 0 n.toNat):=by
 have⟨i,d,hi,hu,hz',hsz,hby,_⟩:=Yd hE;have⟨z1,z2⟩:=Y5 (P:=P) (M:=M) (β:=β) hzc;have hl:te.zero.cells.size=z:=by have:=z1.length;simp at this;omega
 have hrun:=run_make (P:=P) w T E i te.zero (X4 hT).1 hi hz' k k' n n h0 (Int.le_refl _) (by
  have:((n.toNat*te.bytes:Nat):Int)=n*te.bytes:=by rw[Int.natCast_mul,Int.toNat_of_nonneg h0]
  rw[hby,Int.mul_comm,←this];simp only[Xp]at h2;omega) (by simp only[Xp]at h1;omega)
 have hcells:madeCells te.zero.cells (n.toNat*i.size)=Builtin.zeroCells te.zero.cells n.toNat:=by rw[hsz,hz,←hl];rfl
 rw[hcells]at hrun
 have⟨β',I',hβ,hB⟩:=Xes I hv false id E z (List.replicate n.toNat zc) n.toNat (Builtin.zeroCells te.zero.cells n.toNat) E w ⟨rfl,rfl,rfl,rfl⟩ (by rw[Yi,hl]) (YO _ _ _ hzl) ab (by simpa using h1) (by rw[JE hE];simpa using h2)
  (Y6 z2 _) (by
   rw[Uj]
   .exact Vy hzc n.toNat
   .rw[XV (YO _ _ _ hzl),UV,Yi,hl];simp)
 refine⟨M,β',_,_,hrun,I',?_,MLe.refl _,hB⟩;grind[Rep]
def Xdq(I:UP P C s U M β w)(hv:¬U ver){T E z n:Nat}{a b:Nat}{zz:Value}{te:I8}(hT:Xo P T=some ⟨a,b,zz,.slice E z⟩)(hE:Xo P E=some te){zc:List D}(hzc:Jm te=some zc)(hzl:zc.length=z)(hz:te.size=z)(hn1:n*z<=16777216)(hn2:n*te.bytes<=Xp)(hn3:n<=Xp){parts:List (Nat×D)}{vparts:Array (Nat×Value)}{es:List (List D)}(h:Xb1 z (List.replicate n zc) parts=some es)(h1:parts.map (·.1)=vparts.toList.map (·.1))(h2:RepL P M Yu (parts.map (·.2)) (vparts.toList.map (·.2)))(id:Nat):
 VOK P C s [(id,ver,.arr false E z es 0)] U ver M β ((Instr.buildSlice T n vparts).run P w) (.osl id ver z 0 n):=by
 have⟨z1,z2⟩:=Y5 (P:=P) (M:=M) (β:=β) hzc;have hl:te.zero.cells.size=z:=by have:=z1.length;simp at this;omega
 have⟨vs,k1,k2,k3,k4,k5⟩:=Xfp z parts vparts.toList _ (Builtin.zeroCells te.zero.cells n) es h (YO _ _ _ hzl) (Vy hzc n) h1 h2 (λx hx=>Y6 z2 n x hx);rw[WU]at k3;have hrun:(Instr.buildSlice T n vparts).run P w=.ok (.slice (some ⟨w.heap.size,0,none⟩) n n) (w.alloc (.cells vs E)):=by
  have hbig:¬(16777216<n*z):=aa;by_cases h0:n*z=0
  .have hk:Instr.fill (λi=>some (i*z,z)) #[] vparts.toList=some vs:=by
    have:Builtin.zeroCells te.zero.cells n=#[]:=by apply Array.eq_empty_of_size_eq_zero;rw[Yi,hl];exact h0
    rw[this]at k1;exact k1
   simp[Instr.buildSlice,run_underlying (X4 hT).1,YJ hE,hz,h0,hk,newRow,Array.range_zero']
  have hzer:((Array.range (n*z)).map λi=>te.zero.cells[i % te.zero.cells.size]!)=Builtin.zeroCells te.zero.cells n:=by rw[←hl];rfl
  simp only[Instr.buildSlice,Sem.run_bind,run_underlying (X4 hT).1,YJ hE,hz,hbig,h0,newRow,Kg hE,Result.andThen_ok,Sem.run_ite,gt_iff_lt,if_false,Sem.run_pure,hzer,k1,Nat.reducePow,run_newObj,World.alloc_eq]
 have hsz:vs.size=n*z:=by have:=k2.length;rw[XV k4,k3]at this;simpa using this
 have⟨β',I',hβ,hB⟩:=Xes I hv false id E z es n vs E w ⟨rfl,rfl,rfl,rfl⟩ hsz k4 aa aa (by rw[JE hE,k3];exact hn2) k5 (by
  rw[Uj]
  .exact k2
  .rw[XV k4,k3];simp[hsz])
 refine⟨M,β',_,_,hrun,I',?_,MLe.refl _,hB⟩;grind[Rep]
end
variable {P:Program}
section
variable {C:Cx}{s:Heap}{U:Nat->Prop}{ver:Nat}{M:Mem}{β:Loc}{w:World}
def JG{d:D}{n:Int}(h:ivD d=some n){y:Value}(hr:Rep P M β d y):∃k,y=.int k n/\wfV (.int k n):=by unfold ivD at h;grind[Rep]
def Xeu{t:Operand->D}{ρ:Operand->Value}(hρ:∀x,Rep P M β (t x) (ρ x))(l:List Operand):RepL P M β (l.map t) (l.map ρ):=by
 induction l with
 |nil=>rfl
 |cons x l ih=>grind[Ug,RepL]
def XdB{t:Operand->D}{ρ:Operand->Value}(hρ:∀x,Rep P M β (t x) (ρ x))(l:List (Nat×Operand)):
 (l.map λp=>(p.1,t p.2)).map (·.1)=(l.map λp=>(p.1,ρ p.2)).map (·.1)/\RepL P M β ((l.map λp=>(p.1,t p.2)).map (·.2)) ((l.map λp=>(p.1,ρ p.2)).map (·.2)):=by
 constructor
 .simp
 have:=Xeu hρ (l.map (·.2));simp_all[List.map_map,Function.comp_def]
def JH{t:Operand->D}{ρ:Operand->Value}(hρ:∀x,Rep P M β (t x) (ρ x)){o:Option Operand}{r:Option Int}(h:ivO t o=some r):∃ks:IntKind,(o.map ρ)=r.map (λn=>Value.int ks n):=by
 cases o with
 |none=>simp[ivO]at h;subst h;simp
 |some x=>simp only[ivO,Ue]at h;obtain⟨n,hn,rfl⟩:=h;have⟨k,hk,_⟩:=JG hn (hρ x);simp_all
def Xag(k:IntKind)(n:Int)(y:Nat)(code:BoundsCode)(h0:0<=n)(h1:n<=y):(Instr.sliceBound (.int k n) y code).run P w=.ok n.toNat w:=by simp[Instr.sliceBound,asIntOf,h0,h1]
def Ko(k1 k2:IntKind)(lo hi:Option Int)(len cap:Nat)(h0:0<=lo.getD 0)(h1:lo.getD 0<=hi.getD len)(h2:hi.getD len<=len)(h3:len<=cap):
 (Instr.sliceBounds true len cap (lo.map (Value.int k1)) (hi.map (Value.int k2)) none).run P w=.ok ((lo.getD 0).toNat,(hi.getD len).toNat,cap) w:=by
 cases lo<;>cases hi<;>simp only[Option.getD_none,U5]at h0 h1 h2⊢
 .rfl
 .rename_i b;have hb:=Xag (P:=P) (w:=w) k2 b cap .sliceAcap aa aa;simp[Instr.sliceBounds,hb]
 .rename_i a;have ha:=Xag (P:=P) (w:=w) k1 a len .sliceB aa aa;simp[Instr.sliceBounds,ha]
 rename_i a b;have hb:=Xag (P:=P) (w:=w) k2 b cap .sliceAcap aa aa;have ha:=Xag (P:=P) (w:=w) k1 a b.toNat .sliceB aa aa;simp[Instr.sliceBounds,hb,ha]
def JX(k1 k2 k3:IntKind)(lo hi mx:Option Int)(cap len:Nat)(h:mx=none\/hi≠none)(h1:lo.getD 0=0)(h2:hi.getD 0=0)(h3:mx.getD 0=0)(h4:(mx=none->cap=0)/\(hi=none->len=0)):
 (Instr.sliceBounds true len cap (lo.map (Value.int k1)) (hi.map (Value.int k2)) (mx.map (Value.int k3))).run P w=.ok (0,0,0) w:=by
 have hz:∀(k:IntKind)(y:Nat)(code:BoundsCode),(Instr.sliceBound (.int k 0) y code).run P w=.ok 0 w:=λk y code=>by rfl
 cases hi with
 |none=>
  have hm:mx=none:=by rcases h with h|h;exact h;exact absurd rfl h
  subst hm;have⟨hc,hl⟩:=h4;rw[hc rfl,hl rfl];cases lo with
  |none=>rfl
  |some l=>simp_all[U5,Instr.sliceBounds,hz]
 |some x=>
  subst h2;cases mx with
  |none=>
   rw[h4.1 rfl];cases lo with
   |none=>rfl
   |some l=>simp_all[U5,Instr.sliceBounds,hz]
  |some m=>
   subst h3;cases lo with
   |none=>rfl
   |some l=>simp_all[U5,Instr.sliceBounds,hz]
def XiU(I:UP P C s U M β w){T E sz:Nat}{a b:Nat}{zz:Value}(hT:Xo P T=some ⟨a,b,zz,.slice E sz⟩){te:I8}(hE:Xo P E=some te){lo hi mx:Option Int}{k1 k2 k3:IntKind}{d d':D}{c:Prop}(h:Xeq sz lo hi mx d=some (c,d'))(hc:c){y:Value}(hr:Rep P M β d y):
 VOK P C s [] U ver M β ((Instr.sliceAt T y (lo.map (Value.int k1)) (hi.map (Value.int k2)) (mx.map (Value.int k3))).run P w) d':=by
 have⟨hu,hsz⟩:=X4 hT;have hsize:(sizeOf E).run P w=.ok sz w:=by rw[YJ hE,hsz,Xb6 hE]
 have start:∀(base:Option Addr)(len cap:Nat),(Instr.sliceAt T (.slice base len cap) (lo.map (Value.int k1)) (hi.map (Value.int k2)) (mx.map (Value.int k3))).run P w =
  ((Instr.sliceBounds true len cap (lo.map (Value.int k1)) (hi.map (Value.int k2)) (mx.map (Value.int k3))).run P w).andThen λr w'=>
   ((sizeOf E).run P w').andThen λsize w''=>.ok (.slice (if r.2.2=r.1 then base else base.map (·.add (r.1*size))) (r.2.1-r.1) (r.2.2-r.1)) w'':=by
  intro base len cap
  simp[Instr.sliceAt,Instr.slice,run_underlying hu]
 unfold Xeq at h;split at h
 .have key:(mx=none\/hi≠none)/\(lo.getD 0=0/\hi.getD 0=0/\mx.getD 0=0)/\d'=.nsl:=by
   split at h
   .cases h
   rename_i hne;simp only[Ws,Wx]at h;obtain⟨rfl,rfl⟩:=h;refine⟨?_,hc,rfl⟩;cases mx with
   |none=>exact .inl rfl
   |some m=>exact .inr λh=>hne m rfl h
  obtain⟨h1,⟨h2,h3,h4⟩,rfl⟩:=key;obtain⟨a',rfl⟩:=hr;refine .same I (v:=.slice a' 0 0) ?_ (by simp[Rep]);rw[start,JX k1 k2 k3 lo hi mx 0 0 h1 h2 h3 h4 ⟨λ_=>rfl,λ_=>rfl⟩];simp[hsize]
 .rename_i E' z es;split at h
  .rename_i hzz;subst hzz;obtain⟨q1,q2,q3,a',cap,rfl,hcap,hr⟩:=hr;split at h
   .obtain⟨rfl,rfl⟩:=h;have⟨h0,h1,h2⟩:=hc;have hlen:((es.drop (lo.getD 0).toNat).take ((hi.getD es.length).toNat-(lo.getD 0).toNat)).length=(hi.getD es.length).toNat-(lo.getD 0).toNat:=by simp;omega
    refine .same I (v:=.slice (if cap=(lo.getD 0).toNat then a' else a'.map (·.add ((lo.getD 0).toNat*z))) ((hi.getD es.length).toNat-(lo.getD 0).toNat) (cap-(lo.getD 0).toNat)) ?_ ?_
    .rw[start,Option.map_none,Ko k1 k2 lo hi es.length cap h0 h1 h2 hcap];simp only[Result.andThen_ok,hsize]
    have hmul:((hi.getD es.length).toNat-(lo.getD 0).toNat)*P.bytesOf E'<=es.length*P.bytesOf E':=WZ _ aa;refine⟨λe he=>q1 e (WP (WW he)),aa,by rw[hlen];omega,_,_,by rw[hlen],aa,?_⟩;rcases Ua ((hi.getD es.length).toNat-(lo.getD 0).toNat)with hz0|hz0
    .left;exact WJ (by rw[hlen];exact hz0)
    right;rcases hr with rfl|⟨b,o,rfl,hr⟩
    .simp at hz0 h2;omega
    rw[Wn aa];refine⟨b,o+(lo.getD 0).toNat*z,by simp[UR],RepE.of (z:=z) (λe he=>q1 e (WP (WW he))) λi e he=>?_⟩;rw[J7]at he;split at he
    .have:=hr.get q1 _ e he;rw[Uu,←Nat.add_assoc]at this;exact this
    cases he
   .obtain⟨rfl,rfl⟩:=h;obtain⟨h1,rfl,rfl⟩:=hc;refine .same I (v:=.slice a' 0 0) ?_ (by simp[Rep]);rw[start,JX k1 k2 k3 lo (some 0) (some 0) cap es.length (.inr ab) h1 rfl rfl ⟨ab,ab⟩];simp[hsize]
   cases h
  cases h
 .rename_i id v z off len;split at h
  .rename_i hzz;subst hzz;split at h
   .obtain⟨rfl,rfl⟩:=h;obtain⟨h0,h1,h2⟩:=hc;simp only[Rep]at hr;rcases hr with⟨hn,rfl,rfl,a',rfl⟩|⟨b,cb,o,cap,hb1,rfl,hcap,hcb,ho⟩
    .refine .same I (v:=.slice a' 0 0) ?_ ?_
     .rw[start,Option.map_none,Ko k1 k2 lo hi 0 0 h0 h1 h2 (Un _)];have e1:(lo.getD 0).toNat=0:=aa;have e2:(hi.getD ((0:Nat):Int)).toNat=0:=aa;simp only[Result.andThen_ok,hsize,e1,e2];simp
     have e1:(lo.getD 0).toNat=0:=aa;have e2:(hi.getD ((0:Nat):Int)).toNat=0:=aa;simp only[Rep,e1,e2];exact .inl ⟨hn,ab⟩
    refine .same I (v:=.slice (some ⟨b,if cap=(lo.getD 0).toNat then o else o+(lo.getD 0).toNat*z,none⟩) ((hi.getD len).toNat-(lo.getD 0).toNat) (cap-(lo.getD 0).toNat)) ?_ ?_
    .rw[start,Option.map_none,Ko k1 k2 lo hi len cap h0 h1 h2 hcap];simp only[Result.andThen_ok,hsize];split
     .simp
     simp[UR]
    simp only[Rep];refine .inr ⟨b,cb,_,_,hb1,rfl,aa,aa,?_⟩;split
    .rename_i hcl;right;omega
    rename_i hcl;left;rcases ho with ho|ho
    .rw[ho,Uu]
    omega
   cases h
  cases h
 simp_all
def Xft{M:Mem}:∀{cs:List D}{b o:Nat},RepC P M cs b o->RepE P M (cs.map λx=>[x]) b o
 |[],_,_,_=>by simp[RepE]
 |d::cs,b,o,h=>by exact⟨⟨h.1,trivial⟩,Xft h.2⟩
def XiV(I:UP P C s U M β w){T E n sz:Nat}{a b:Nat}{zz:Value}(hT:Xo P T=some ⟨a,b,zz,.array n E sz⟩){te:I8}(hE:Xo P E=some te)(h1:te.size=1)(h0:0<n)(h2:n<=Xp)(h3:n*P.bytesOf E<=Xp){cs:List D}{y:Value}(hr:Rep P M β (.ipt n cs 0) y):
 VOK P C s [] U ver M β ((Instr.sliceAt T y none none none).run P w) (.isl E 1 (cs.map λx=>[x])):=by
 have hu:=(KF hT).1;have hsize:(sizeOf E).run P w=.ok 1 w:=by rw[YJ hE,h1]
 obtain⟨hlen,bb,o,rfl,hr⟩:=hr;refine .same I (v:=.slice (some ⟨bb,o,none⟩) n n) ?_ ?_
 .have hne:¬n=0:=aa;simp[Instr.sliceAt,run_underlying,hu,Instr.sureAddr,Instr.sliceBounds,hsize,hne,UR]
 refine⟨λe he=>?_,ah,by simp only[W4,hlen];exact h3,some ⟨bb,o,none⟩,n,by simp[hlen],ah,.inr ⟨bb,o,rfl,Xft hr⟩⟩;grind
end
variable {P:Program}
section
variable {C:Cx}{s:Heap}{U:Nat->Prop}{M:Mem}{β:Loc}{w:World}
def frz(s:Heap)(l:List Nat):Heap:=λi=>if i∈l then(s i).map Xdm else s i
def YW(s:Heap)(u v:Up):app s (u++v)=app (app s u) v:=by
 induction u generalizing s with
 |nil=>rfl
 |cons x u ih=>exact ih _
def J8(s0:Heap):∀(l:List Nat)(s:Heap)(i:Nat),(∀j,s j=s0 j\/s j=(s0 j).map Xdm)->app s (Xaf s0 l) i=if i∈l then(s0 i).map Xdm else s i
 |[],s,i,_=>by rfl
 |j::l,s,i,h=>by
  unfold Xaf;split
  .rename_i x hx;show app (upd s j (some (Xdm x))) (Xaf s0 l) i=_;rw[J8 s0 l _ i (λk=>by
    by_cases hk:k=j
    .subst hk;rw[YC];right;rw[hx];rfl
    simp_all[Yb,hk])]
   by_cases hi:i∈l
   .grind
   by_cases hij:i=j
   .subst hij;simp[hi,hx,YC]
   simp[hi,hij,Yb]
  rw[J8 s0 l s i h];grind
def J9(s:Heap)(l:List Nat):app s (Xaf s l)=frz s l:=by funext i;rw[J8 s l s i (λ_=>.inl rfl)];rfl
def Frz(s:Heap)(M:Mem)(β:Loc)(w:World)(l:List Nat):Prop:=
 ∀id∈l,∀v E z es fz b cb cs T,s id=some (v,.arr false E z es fz)->β id v=some (some (b,cb))->w.heap[b]? = some (.cells cs T (0,0))->∀o,o<es.length*z->M b o=cs[o]?
open Classical in
def UP.freeze(h:UP P C s U M β w)(l:List Nat):∃M',UP P C (frz s l) U M' β w/\MLe M M'/\Frz s M' β w l:=by
 let hit (b o:Nat):Prop:=∃id v E z es fz cb,id∈l/\s id=some (v,.arr false E z es fz)/\β id v=some (some (b,cb))/\o<es.length*z;let M':Mem:=λb o=>if hit b o then w.cell? ⟨b,o,none⟩else M b o
 have hcell:∀{id v E z es fz b cb},s id=some (v,.arr false E z es fz)->β id v=some (some (b,cb))->∃cs T,w.heap[b]? = some (.cells cs T (0,0))/\cs.size=cb*z/\es.length<=cb/\(∀x∈cs,x.oneCell'=true)/\(∀o,M b o=if o<fz*z then cs[o]? else none):=by
  intro id v E z es fz b cb hs hb;obtain⟨x,hx,hr⟩:=h.obs id v _ hs;rw[hb]at hx;obtain rfl:some (b,cb)=x:=by simp_all
  obtain⟨cs,T,k1,k2,k3,k4,k5,k6,k7,k8,k9,k10⟩:=hr;exact⟨cs,T,k1,k2,k4,k8,k9⟩
 have hMle:MLe M M':=by
  intro b o x hx;show(if hit b o then _ else M b o)=some x;split
  .exact(h.mem b o x hx).1
  omega
 have hval:∀{id v E z es fz b cb},id∈l->s id=some (v,.arr false E z es fz)->β id v=some (some (b,cb))->∀{cs T},w.heap[b]? = some (.cells cs T (0,0))->∀o,M' b o=if o<es.length*z then cs[o]? else none:=by
  intro id v E z es fz b cb hl hs hb cs T hcs o;obtain⟨cs',T',g1,g2,g3,g4,g5⟩:=hcell hs hb;rw[hcs]at g1;obtain⟨rfl,rfl⟩:cs=cs'/\T=T':=by simp_all
  show(if hit b o then _ else M b o)=_;by_cases ho:o<es.length*z
  .rw[Wq ⟨id,v,E,z,es,fz,cb,hl,hs,hb,ho⟩,Wq ho,cell_of_row w b o cs T (0,0) hcs]
  rw[Wn,Wn ho,g5 o,Wn]
  .have⟨x,hx,hr⟩:=h.obs id v _ hs;obtain rfl:some (b,cb)=x:=by simp_all
   have⟨_,_,_,_,_,_,_,_,k7,_⟩:=hr;have:fz*z<=es.length*z:=WZ _ k7;omega
  rintro⟨id',v',E',z',es',fz',cb',hl',hs',hb',ho'⟩;have hid:=h.inj id v _ id' v' _ b cb cb' hs hs' hb hb';grind
 have hoff:∀b,(∀id v E z es fz cb,id∈l->s id=some (v,.arr false E z es fz)->β id v≠some (some (b,cb)))->∀o,M' b o=M b o:=by intro b hb o;show(if hit b o then _ else M b o)=_;rw[Wn];rintro⟨id',v',E',z',es',fz',cb',hl',hs',hb',ho'⟩;exact hb id' v' E' z' es' fz' cb' hl' hs' hb'
 have hsv:∀id v ob,frz s l id=some (v,ob)->∃ob0,s id=some (v,ob0)/\ob.bx=ob0.bx/\(ob=ob0\/(id∈l/\∃E z es fz,ob0=.arr false E z es fz/\ob=.arr false E z es es.length)):=by
  intro id v ob hs;unfold frz at hs;split at hs
  .rename_i hl;simp only[Ue]at hs;have⟨⟨v0,o0⟩,h1,h2⟩:=hs;cases o0 with
   |raw o=>simp_all[Xdm]
   |mp es=>simp_all[Xdm]
   |arr bx E z es fz=>
    cases bx with
    |true=>simp_all[Xdm]
    |false=>obtain⟨rfl,rfl⟩:=h2;exact⟨_,h1,rfl,.inr ⟨hl,_,_,_,_,rfl,rfl⟩⟩
  simp_all
 refine⟨M',?_,hMle,λid hl v E z es fz b cb cs T hs hb hcs o ho=>by rw[hval hl hs hb hcs,Wq ho]⟩;constructor
 .intro b o x hx;have hx':(if hit b o then w.cell? ⟨b,o,none⟩else M b o)=some x:=hx;split at hx'
  .grind
  exact h.mem b o x hx'
 .exact h.used
 .intro id v ob hs;have⟨ob0,h1,_,h2⟩:=hsv id v ob hs;have⟨x,hx,hr⟩:=h.obs id v ob0 h1;refine⟨x,hx,?_⟩;rcases h2 with rfl|⟨hl,E,z,es,fz,rfl,rfl⟩
  .by_cases hf:id∈l/\∃E z es fz,ob=.arr false E z es fz
   .obtain⟨hl,E,z,es,fz,rfl⟩:=hf;cases x with
    |none=>assumption
    |some bc=>
     have⟨cs,T,k1,k2,k3,k4,k5,k6,k7,k8,k9,k10⟩:=hr;have hlen:fz=es.length:=by have:=hs;unfold frz at this;rw[Wq hl,h1]at this;simp[Xdm]at this;omega
     subst hlen;exact⟨cs,T,k1,k2,k3,k4,k5,k6,k7,k8,λo=>hval hl h1 hx k1 o,λi d hd=>by
      have⟨y,hy,hr⟩:=k10 i d hd
      exact⟨y,hy,hr.mono hMle (BLe.refl _)⟩⟩
   refine hr.mono hMle (BLe.refl _) (λ_ _ _=>rfl) ?_;rintro b cb rfl o;refine hoff b ?_ o;rintro id' v' E' z' es' fz' cb' hl' hs' hb';have hid:=h.inj id v _ id' v' _ b cb cb' h1 hs' hx hb';grind
  cases x with
  |none=>simp_all[ObRep]
  |some bc=>
   have⟨cs,T,k1,k2,k3,k4,k5,k6,k7,k8,k9,k10⟩:=hr;exact⟨cs,T,k1,k2,k3,k4,k5,k6,Un _,k8,λo=>hval hl h1 hx k1 o,λi d hd=>by
    have⟨y,hy,hr⟩:=k10 i d hd
    exact⟨y,hy,hr.mono hMle (BLe.refl _)⟩⟩
 .intro id v ob b cb hs hb;have⟨ob0,h1,h2,_⟩:=hsv id v ob hs;rw[h2];exact h.own id v ob0 b cb h1 hb
 .intro id v ob id' v' ob' b cb cb' hs hs' hb hb';have⟨ob0,h1,_⟩:=hsv id v ob hs;have⟨ob0',h1',_⟩:=hsv id' v' ob' hs';exact h.inj id v ob0 id' v' ob0' b cb cb' h1 h1' hb hb'
 .exact h.keep
 .intro b o hb;rw[hoff b ?_ o]
  .exact h.old b o hb
  intro id v E z es fz cb hl hs hbb;rcases h.own id v _ b cb hs hbb with h1|h1
  .omega
  simp_all[Ob.bx]
 .exact h.le.trans hMle
 exact h.glob
mutual
def snap_rep{M':Mem}(I:UP P C s U M β w)(hM:MLe M M'):∀{d d':D}{c:Prop}{l:List Nat},snap s d=some (c,d',l)->c->Frz s M' β w l->∀{y:Value},Rep P M β d y->Rep P M' Yu d' y
 |.osl id ver z off len,d',c,l,h,hc,hF,y,hr=>by
  unfold snap at h;split at h
  .rename_i v' E z' es fz hs;split at h
   .rename_i hv;have⟨rfl,rfl⟩:=hv;obtain⟨rfl,rfl,rfl⟩:=h;have hlen:((es.drop off).take len).length=len:=by simp;omega
    have⟨x,hx,hob⟩:=I.obs id ver _ hs;rcases hr with⟨hn,rfl,rfl,a,rfl⟩|⟨b,cb,o,cap,hb,rfl,hcap,hcb,ho⟩
    .exact⟨ab,by simp[Xp],by simp[Xp],a,0,ab,ab,.inl ab⟩
    rw[hb]at hx;obtain rfl:some (b,cb)=x:=by simpa using hx
    have⟨cs,T,k1,k2,k3,k4,k5,k6,k7,k8,k9,k10⟩:=hob;have hsub:∀e∈(es.drop off).take len,e.length=z:=λe he=>k3 e (WP (WW he));have hmul:len*P.bytesOf E<=es.length*P.bytesOf E:=WZ _ aa;refine⟨hsub,aa,by rw[hlen];omega,_,cap,by rw[hlen],by rw[hlen];exact hcap,?_⟩;rcases Ua len with h0|h0
    .left;exact WJ (by rw[hlen];exact h0)
    right;have ho':o=off*z:=by rcases ho with h|h;exact h;omega
    subst ho';refine⟨b,off*z,rfl,RepE.of (z:=z) hsub λi e he=>RepC.of λj d hd=>?_⟩;rw[J7]at he;split at he
    .have hj:j<z:=by
      have:=k3 e (Ui he);rcases Uq j z with h|h
      .exact h
      rw[WY aa]at hd;cases hd
     have⟨x,hx,hrx⟩:=k10 ((off+i)*z+j) d (by rw[Jn k3 _ _ hj,Wp,he];exact hd);have hlt:(off+i)*z+j<es.length*z:=by have:(off+i+1)*z<=es.length*z:=WZ _ aa;rw[Im]at this;omega
     have hm:=hF id ab ver E z es fz b cb cs T hs hb k1 _ hlt;refine⟨x,?_,hrx.mono hM (BLe.refl _)⟩;rw[←hx,←hm,Uu]
    cases he
   cases h
  simp_all
 |.agg cs,d',c,l,h,hc,hF,y,hr=>by
  unfold snap at h;split at h
  .rename_i c' ds l' hl;obtain⟨rfl,rfl,rfl⟩:=h;simp only[Rep]at hr⊢;obtain⟨vs,e,hr⟩:=hr;exact⟨vs,e,Z9 I hM hl hc hF hr⟩
  simp_all
 |.tup cs,d',c,l,h,hc,hF,y,hr=>by
  unfold snap at h;split at h
  .rename_i c' ds l' hl;simp only[Ws,Wx]at h;obtain⟨rfl,rfl,rfl⟩:=h;simp only[Rep]at hr⊢;obtain⟨vs,e,hr⟩:=hr;exact⟨vs,e,Z9 I hM hl hc hF hr⟩
  simp_all
 |.clo fn a b,d',c,l,h,hc,hF,y,hr=>by
  unfold snap at h;split at h
  .rename_i c1 a' l1 c2 b' l2 h1 h2;simp only[Ws,Wx]at h;obtain⟨rfl,rfl,rfl⟩:=h;simp only[Rep]at hr⊢;obtain⟨va,vb,e,hr1,hr2⟩:=hr;exact⟨va,vb,e,Z9 I hM h1 hc.1 (λi hi=>hF i (W0 _ hi)) hr1,Z9 I hM h2 hc.2 (λi hi=>hF i (Ub _ hi)) hr2⟩
  simp_all
 |.ifc t d,d',c,l,h,hc,hF,y,hr=>by
  unfold snap at h;split at h
  .rename_i c' e l' hl;simp only[Ws,Wx]at h;obtain⟨rfl,rfl,rfl⟩:=h;simp only[Rep]at hr⊢;obtain⟨x,e,hr⟩:=hr;exact⟨x,e,snap_rep I hM hl hc hF hr⟩
  simp_all
 |.any,d',c,l,h,hc,hF,y,hr=>by grind[snap,Ws,Wx,Rep]
 |.v x,d',c,l,h,hc,hF,y,hr=>by grind[snap,Ws,Wx,Rep]
 |.nsl,d',c,l,h,hc,hF,y,hr=>by grind[snap,Ws,Wx,Rep]
 |.isl E z es,d',c,l,h,hc,hF,y,hr=>by simp only[snap,Ws,Wx]at h;obtain⟨rfl,rfl,rfl⟩:=h;have:=hr.mono (β':=β) hM (BLe.refl _);assumption
 |.ipt z cs k,d',c,l,h,hc,hF,y,hr=>by simp only[snap,Ws,Wx]at h;obtain⟨rfl,rfl,rfl⟩:=h;have:=hr.mono (β':=β) hM (BLe.refl _);assumption
 |.ept ..,d',c,l,h,_,_,_,_=>by simp_all[snap]
 |.fsl ..,d',c,l,h,_,_,_,_=>by simp_all[snap]
 |.fmp ..,d',c,l,h,_,_,_,_=>by simp_all[snap]
 |.omp ..,d',c,l,h,_,_,_,_=>by simp_all[snap]
def Z9{M':Mem}(I:UP P C s U M β w)(hM:MLe M M'):∀{ds ds':List D}{c:Prop}{l:List Nat},Zx s ds=some (c,ds',l)->c->Frz s M' β w l->∀{ys:List Value},RepL P M β ds ys->RepL P M' Yu ds' ys
 |[],ds',c,l,h,hc,hF,ys,hr=>by simp_all[Zx,Ws,Wx,RepL]
 |d::ds,ds',c,l,h,hc,hF,ys,hr=>by
  unfold Zx at h;split at h
  .rename_i c1 e l1 c2 es l2 h1 h2;obtain⟨rfl,rfl,rfl⟩:=h;have⟨x,xs,e,hr1,hr2⟩:=hr;exact⟨x,xs,e,snap_rep I hM h1 hc.1 (λi hi=>hF i (W0 _ hi)) hr1,Z9 I hM h2 hc.2 (λi hi=>hF i (Ub _ hi)) hr2⟩
  simp_all
end
def XdC{M':Mem}(I:UP P C s U M β w)(hM:MLe M M'):∀{ps ps':List (Nat×D)}{c:Prop}{l:List Nat},J6 s ps=some (c,ps',l)->c->Frz s M' β w l->∀{ys:List Value},RepL P M β (ps.map (·.2)) ys ->
 RepL P M' Yu (ps'.map (·.2)) ys/\ps'.map (·.1)=ps.map (·.1)
 |[],ps',c,l,h,hc,hF,ys,hr=>by simp_all[J6,Ws,Wx,RepL]
 |(i,d)::ps,ps',c,l,h,hc,hF,ys,hr=>by
  unfold J6 at h;split at h
  .rename_i c1 e l1 c2 es l2 h1 h2;obtain⟨rfl,rfl,rfl⟩:=h;simp at hr⊢;have⟨x,xs,e,hr1,hr2⟩:=hr;have ih:=XdC I hM h2 hc.2 (λi hi=>hF i (Ub _ hi)) hr2;exact⟨⟨x,xs,e,snap_rep I hM h1 hc.1 (λi hi=>hF i (W0 _ hi)) hr1,ih.1⟩,by rw[ih.2]⟩
  simp_all
end
open Go.MapKept
variable {P:Program}
section
variable {C:Cx}{s:Heap}{U:Nat->Prop}{ver:Nat}{M:Mem}{β:Loc}{w:World}
def Ka{T:TypeId}{k:IntKind}{E:TypeId}(h:Xbh P T=some (k,E)):∃K,P.underlying T=some (.map K E)/\P.underlying K=some (.int k):=by unfold Xbh at h;grind
def Xbj(k:IntKind)(a b:Int):Instr.sameNow (.int k) (.int k a) (.int k b)=some (a==b):=by simp[Instr.sameNow]
def Xah{k:IntKind}(n:Int):∀(l:List MapEntry)(es:List (Int×D))(i:Nat),EntL P M k l es ->
 (Xdo es n=none/\Xb4 es n=es/\(∀d,Xb3 es n d=es++[(n,d)])/\Instr.findNow (.int k) (.int k n) l i=some none) \/
 ∃j e d,Xdo es n=some d/\Instr.findNow (.int k) (.int k n) l i=some (some (i+j,e.val))/\l[j]? = some e/\e.key=.int k n/\Rep P M Yu d e.val /\
  (∀e' d',e'.key=.int k n->Rep P M Yu d' e'.val->EntL P M k (l.set j e') (Xb3 es n d'))/\EntL P M k (l.eraseIdx j) (Xb4 es n)/\(∀d',(Xb3 es n d').length=es.length)/\(Xb4 es n).length<=es.length
 |[],es,i,h=>by subst h;exact .inl ⟨rfl,rfl,λ_=>rfl,rfl⟩
 |e::l,es,i,h=>by
  obtain⟨x,d,es',rfl,hk,hr,hl⟩:=h;by_cases hx:n=x
  .subst hx;refine .inr ⟨0,e,d,by simp[Xdo],?_,rfl,hk,hr,λe' d' h1 h2=>?_,?_,λd'=>by simp[Xb3],by simp[Xb4]⟩
   .simp[Instr.findNow,hk,Xbj]
   .simp only[Ic,Xb3,if_true,EntL];exact⟨n,d',es',rfl,h1,h2,hl⟩
   simp_all[Xb4]
  have hs:Instr.sameNow (.int k) (.int k n) e.key=some false:=by rw[hk,Xbj];simp[hx]
  rcases Xah n l es' (i+1) hl with⟨h1,h2,h3,h4⟩|⟨j,e',d',h1,h2,h3,h4,h5,h6,h7,h8,h9⟩
  .simp[Xdo,hx,h1,Xb4,h2,Xb3,h3,Instr.findNow,hs,h4]
  refine .inr ⟨j+1,e',d',by simp[Xdo,hx,h1],by simp[Instr.findNow,hs,h2];omega,ag,h4,h5,λe2 d2 g1 g2=>?_,?_,λd2=>by simp[Xb3,hx,h8],by simp[Xb4,hx,h9]⟩
  .simp only[List.set_cons_succ,Xb3,Wn hx,EntL];grind
  simp only[List.eraseIdx_cons_succ,Xb4,Wn hx,EntL];grind
def EntL.push{k:IntKind}{e':MapEntry}{n:Int}{d':D}(h1:e'.key=.int k n)(h2:Rep P M Yu d' e'.val):∀{l:List MapEntry}{es:List (Int×D)},EntL P M k l es->EntL P M k (l++[e']) (es++[(n,d')])
 |[],es,h=>by grind[EntL,Uh]
 |e::l,es,h=>by obtain⟨x,d,es',rfl,hk,hr,hl⟩:=h;exact⟨x,d,_,rfl,hk,hr,EntL.push h1 h2 hl⟩
def UP.setMap(I:UP P C s U M β w){id ver:Nat}{k:IntKind}{es es':List (Int×D)}(hs:s id=some (ver,.mp k es)){b cb:Nat}(hb:β id ver=some (some (b,cb))){ents ents':Array MapEntry}{clock clock':Nat}(hh:w.heap[b]? = some (.map ents clock))(hl:es'.length<=Xp)(he:EntL P M k ents'.toList es')(hp:(ents'.toList.map (·.born)).Pairwise (·<·))(hc:∀e∈ents'.toList,e.born<clock'):
 UP P C (upd s id (some (ver,.mp k es'))) U M β {w with heap:=w.heap.setIfInBounds b (.map ents' clock')}:=by
 have⟨x,hx,hr⟩:=I.obs id ver _ hs;obtain rfl:some (b,cb)=x:=by simp_all
 obtain⟨rfl,_,hM,_⟩:=hr;have⟨g1,g2⟩:=heap_set (o':=.map ents' clock') hh
 have:=I.set (M':=M) (β':=β) (w':={w with heap:=w.heap.setIfInBounds b (.map ents' clock')}) id ver (.mp k es') b 0 (MLe.refl M) (BLe.refl β) g2 (λ_ _ _=>rfl)
  (λo x hx=>by simp_all) hb ⟨rfl,hl,hM,ents',clock',g1,he,hp,hc⟩ (λid' v' ob' cb' hne hs' hx'=>hne (I.inj id' v' ob' id ver _ b cb' 0 hs' hs hx' hb))
  (I.own id ver (.mp k es) b 0 hs hb:_\/(_/\false=true)) (λ_ _=>rfl) rfl rfl rfl ab (λ_ _ _ e=>.inl e)
 exact this.mono λv hv=>by
  rcases hv with hv|rfl
  .omega
  exact I.used id _ _ hb
def XgR(I:UP P C s U M β w)(hv:¬U ver){dst:Option Tmp}{type:TypeId}{pos:String}{after:Array Edge}{guard:Option (Nat×Bool)}(ρ:Operand->Value)(t:Operand->D)(hρ:∀x,Rep P M β (t x) (ρ x)){c:Prop}{d:D}{u:Up}(T:TypeId)(r:Option Operand)(h:opF P dst ver t s (.makeMap T r)=some (c,d,u))(_hc:c):OpOK P C s u U ver M β ((execOp ρ ⟨dst,.makeMap T r,type,pos,after,guard⟩).run P w) d:=by
 unfold execOp;simp only[opF]at h;split at h
 .rename_i k E l hT hl;obtain⟨rfl,rfl,rfl⟩:=h;have⟨K,hT1,hT2⟩:=Ka hT;have hrun:(Instr.makeMap T (r.map ρ)).run P w=.ok (.map (some w.heap.size)) (w.alloc (.map #[] 0)):=by
   obtain⟨k1,e1⟩:=JH hρ hl;rw[e1];cases l with
   |none=>simp[Instr.makeMap]
   |some n=>simp[Instr.makeMap,run_underlying hT1,asInt,asIntOf]
  have hf:=I.fresh hv (Kw dst);have hB:BLe β (Zf β (Kw dst) ver (some (w.heap.size,0))):=YV hf;have hnone:∀o,M w.heap.size o=none:=by
   intro o;cases hx:M w.heap.size o with
   |none=>rfl
   |some x=>exact absurd (I.mem.lt hx) (U8 _)
  have⟨g1,g2⟩:=heap_alloc w (.map #[] 0)
  have I':=I.set (M':=M) (β':=Zf β (Kw dst) ver (some (w.heap.size,0))) (w':=w.alloc (.map #[] 0)) (Kw dst) ver (.mp k []) w.heap.size 0 (MLe.refl M) hB
   (λj hj=>by
    show(w.heap.push _)[j]? = _
    rw[Array.getElem?_push,Wn hj]) (λ_ _ _=>rfl) (λo x hx=>by rw[hnone o]at hx;cases hx) (XJ ..)
   ⟨rfl,ab,hnone,#[],0,g1,by simp[EntL],ab,ab⟩
   (λid' v' ob' cb' _ hs hx=>by
    have⟨y,hy,hr⟩:=I.obs id' v' ob' hs
    rw[hx]at hy
    obtain rfl:some (w.heap.size,cb')=y:=by simpa using hy
    exact absurd hr.lt (U8 _))
   (.inl I.keep.size) (λhlt=>absurd I.keep.size aa) rfl rfl rfl ab Y4
  exact VOK.op (sem:=Instr.makeMap T (r.map ρ)) ⟨M,_,_,_,hrun,I',by exact⟨_,_,XJ ..,rfl⟩,MLe.refl _,hB⟩
 simp_all
def Xev(n:Nat)(k:IntKind)(a:Int):Instr.sameBits n (.int k a) (.int k a)=true:=by simp[Instr.sameBits]
def Vz(k:IntKind)(n:Int):IsKey (.int k) (.int k n):=by rfl
def XhX(I:UP P C s U M β w){T:TypeId}{m key x:D}{vm vk vx:Value}{c:Prop}{d:D}{u:Up}(h:XgP P s T m key x=some (c,d,u))(hc:c)(hm:Rep P M β m vm)(hk:Rep P M β key vk)(hx:Rep P M β x vx):
 ∃M' w',(Instr.mapUpdate T vm vk vx).run P w=.ok () w'/\d=.v undef/\UP P C (app s u) U M' β w'/\MLe M M':=by
 unfold XgP at h;split at h
 .rename_i k E id v k' n hT;split at h
  .rename_i v' k2 es hs;split at h
   .rename_i cc dd l hsn;split at h
    .rename_i hcond;have⟨rfl,rfl,rfl,hl⟩:=hcond;obtain⟨rfl,rfl,rfl⟩:=h;have⟨hcc,hlen⟩:=hc;have⟨K,hT1,hT2⟩:=Ka hT;have⟨M',I',hM,hF⟩:=I.freeze l;have hr':=snap_rep I hM hsn hcc hF hx;have hs':frz s l id=some (v,.mp k es):=by unfold frz;rw[Wn hl];exact hs
     obtain⟨b,cb,hb,rfl⟩:=hm;obtain⟨rfl,hwk⟩:=hk;have⟨x0,hx0,hob⟩:=I'.obs id v _ hs';rw[hb]at hx0;obtain rfl:some (b,cb)=x0:=by simpa using hx0
     obtain⟨rfl,h1,h2,ents,clock,h3,h4,h5,h6⟩:=hob;have start:∀a,Instr.findNow (.int k) (.int k n) ents.toList 0=some a->(Instr.mapUpdate T (.map (some b)) (.int k n) vx).run P w =
      ((match a with
       |some (i,_)=>do
        let key ←Instr.keyThatStays (((ents[i]?).map (·.key)).getD (.int k n)) (.int k n)
        setObj b (.map (ents.modify i λe=>{e with key,val:=vx}) clock)
       |none=>setObj b (.map (ents.push {key:=.int k n,val:=vx,born:=clock}) (clock+1)):Sem Unit)).run P w:=by
      intro a ha
      unfold Instr.mapUpdate
      simp only[Sem.run_bind,run_underlying hT1,Result.andThen_ok,Go.MapKept.run_getObj_map h3,run_checkKey hT2 (Vz k n),run_findKey hT2 ha]
      cases a<;>rfl
     rcases Xah n ents.toList es 0 h4 with⟨g1,g2,g3,g4⟩|⟨j,e,d0,g1,g2,g3,g4,g5,g6,g7,g8,g9⟩
     .refine⟨M',{w with heap:=w.heap.setIfInBounds b (.map (ents.push {key:=.int k n,val:=vx,born:=clock}) (clock+1))},?_,rfl,?_,hM⟩
      .rw[start _ g4];exact Go.MapKept.run_setObj_map _ h3
      rw[YW,J9,g3 dd];refine I'.setMap hs' hb h3 ah (by simpa using EntL.push rfl (hr') h4) ?_ ?_
      .simp;rw[IN];refine⟨h5,ab,λa ha b hb=>?_⟩;simp at hb;subst hb;obtain⟨e,he,rfl⟩:=UX.1 ha;exact h6 e he
      intro e he;simp only[Array.toList_push,WG,UK]at he;rcases he with he|rfl
      .exact Nat.lt_succ_of_lt (h6 e he)
      exact Wz _
     have hj:j<ents.size:=by
      rcases Uq j ents.size with h'|h'
      .exact h'
      rw[WY (by exact h')]at g3;cases g3
     have hge:ents[j]? = some e:=by simpa using g3
     have hmod:(ents.modify j λe=>{e with key:=.int k n,val:=vx}).toList=ents.toList.set j {e with key:=.int k n,val:=vx}:=by
      refine List.ext_getElem? λi=>?_;rw[Array.toList_modify,List.getElem?_modify,In];split
      .rename_i hij;subst hij;rw[g3,Wq (by exact hj)];rfl
      cases ents.toList[i]?<;>rfl
     refine⟨M',{w with heap:=w.heap.setIfInBounds b (.map (ents.modify j λe=>{e with key:=.int k n,val:=vx}) clock)},?_,rfl,?_,hM⟩
     .rw[start _ g2];simp only[Uy,hge,IF,U5,g4,Instr.keyThatStays,Xev,if_true,Sem.run_bind,Sem.run_pure,Result.andThen_ok];exact Go.MapKept.run_setObj_map _ h3
     rw[YW,J9];have hborn:(ents.toList.set j {e with key:=.int k n,val:=vx}).map (·.born)=ents.toList.map (·.born):=by
      rw[List.map_set];refine List.ext_getElem? λi=>?_;rw[In];split
      .rename_i hij;subst hij;rw[Wq (by simpa using hj),List.getElem?_map,g3];rfl
      rfl
     refine I'.setMap hs' hb h3 (by rw[g8];exact h1) (by rw[hmod];exact g6 _ dd rfl hr') (by rw[hmod,hborn];exact h5) ?_;intro e' he';rw[hmod]at he';rcases Ux he' with he'|rfl
     .exact h6 e' he'
     exact h6 e (Ui g3)
    cases h
   cases h
  cases h
 simp_all
def Xew(I:UP P C s U M β w)(_hv:¬U ver){dst:Option Tmp}{type:TypeId}{pos:String}{after:Array Edge}{guard:Option (Nat×Bool)}(ρ:Operand->Value)(t:Operand->D)(hρ:∀x,Rep P M β (t x) (ρ x)){c:Prop}{d:D}{u:Up}(T:TypeId)(m key x:Operand)(h:opF P dst ver t s (.mapUpdate T m key x)=some (c,d,u))(hc:c):OpOK P C s u U ver M β ((execOp ρ ⟨dst,.mapUpdate T m key x,type,pos,after,guard⟩).run P w) d:=by unfold execOp;obtain⟨M',w',h1,rfl,h3,h4⟩:=XhX I h hc (hρ m) (hρ key) (hρ x);exact⟨M',β,w',undef,.inr ⟨by simp[h1],rfl⟩,h3.mono λ_ h=>.inl h,by simp[Rep,wfV,undef],h4,BLe.refl _⟩
def XiW(I:UP P C s U M β w)(_hv:¬U ver){dst:Option Tmp}{type:TypeId}{pos:String}{after:Array Edge}{guard:Option (Nat×Bool)}(ρ:Operand->Value)(t:Operand->D)(hρ:∀x,Rep P M β (t x) (ρ x)){c:Prop}{d:D}{u:Up}(T:TypeId)(m key x:Operand)(h:opF P dst ver t s (.insert T m key x)=some (c,d,u))(hc:c):OpOK P C s u U ver M β ((execOp ρ ⟨dst,.insert T m key x,type,pos,after,guard⟩).run P w) d:=by unfold execOp;obtain⟨M',w',h1,rfl,h3,h4⟩:=XhX I h hc (hρ m) (hρ key) (hρ x);exact⟨M',β,w',undef,.inr ⟨by simp[h1],rfl⟩,h3.mono λ_ h=>.inl h,by simp[Rep,wfV,undef],h4,BLe.refl _⟩
def XiX(I:UP P C s U M β w)(_hv:¬U ver){dst:Option Tmp}{type:TypeId}{pos:String}{after:Array Edge}{guard:Option (Nat×Bool)}(ρ:Operand->Value)(t:Operand->D)(hρ:∀x,Rep P M β (t x) (ρ x)){c:Prop}{d:D}{u:Up}(T:TypeId)(m key:Operand)(ok:Bool)(h:opF P dst ver t s (.lookup T m key ok)=some (c,d,u))(_hc:c):OpOK P C s u U ver M β ((execOp ρ ⟨dst,.lookup T m key ok,type,pos,after,guard⟩).run P w) d:=by
 unfold execOp;simp only;simp only[opF]at h;split at h
 .rename_i k E id v k' n hT hm hk;split at h
  .rename_i v' k2 es te hs hE;split at h
   .rename_i hcond;have⟨rfl,rfl,rfl⟩:=hcond;obtain⟨rfl,rfl,rfl⟩:=h;have⟨K,hT1,hT2⟩:=Ka hT;have hrm:=hρ m;have hrk:=hρ key;rw[hm]at hrm;rw[hk]at hrk;have⟨b,cb,hb,hme⟩:=hrm;have⟨x0,hx0,hob⟩:=I.obs id v _ hs;rw[hb]at hx0;obtain rfl:some (b,cb)=x0:=by simpa using hx0
    obtain⟨rfl,h1,h2,ents,clock,h3,h4,h5,h6⟩:=hob;rw[hme,hrk.1];have start:∀a,Instr.findNow (.int k) (.int k n) ents.toList 0=some a->(Instr.lookup T (.map (some b)) (.int k n) ok).run P w =
     .ok (if ok then .tuple #[(match a with|some (_,v)=>v|none=>te.zero),.bool a.isSome]else(match a with|some (_,v)=>v|none=>te.zero)) w:=by
     intro a ha
     unfold Instr.lookup
     simp only[Sem.run_bind,run_underlying hT1,Result.andThen_ok,Go.MapKept.run_getObj_map h3,Sem.run_pure,run_checkKey hT2 (Vz k n),run_findKey hT2 ha]
     cases a with
     |none=>simp[Kg hE]
     |some y=>simp
    rcases Xah n ents.toList es 0 h4 with⟨g1,g2,g3,g4⟩|⟨j,e,d0,g1,g2,g3,g4,g5,g6,g7,g8,g9⟩
    .refine VOK.op (.same I (start _ g4) ?_);rw[g1];cases ok with
     |true=>exact⟨_,rfl,_,_,rfl,Vx _,_,_,rfl,⟨rfl,trivial⟩,rfl⟩
     |false=>exact Vx _
    refine VOK.op (.same I (start _ g2) ?_);rw[g1];have hr:=g5.mono (MLe.refl M) (BLe.zero β);cases ok with
    |true=>exact⟨_,rfl,_,_,rfl,hr,_,_,rfl,⟨rfl,trivial⟩,rfl⟩
    |false=>exact hr
   cases h
  cases h
 simp_all
end
end Go.Sx
