import Derived.LoopNIn
import Derived.OrdersIn
import Derived.TacticsIn
import Derived.Scope
import Derived.Test.YtcclgbgphjofaaaGreatHA
set_option linter.all false
namespace Go.Sx
variable {P:Program}
section
variable {C:Cx}{s:Heap}{U:Nat->Prop}{ver:Nat}{M:Mem}{β:Loc}{w:World}
def XaT{fd:Field}(e:P.cellsOf fd.type≠0)(b o:Nat):(fieldPlace ⟨b,o,none⟩ fd).run P w=.ok ⟨b,o+fd.offset,none⟩ w:=by have:=Jt (P:=P) (t:=fd.type) rfl e w;simp[fieldPlace,this,e,If]
def Xa1{fields:Array Field}{f off sz ft:Nat}(h:(fields.toList.map λf=>(f.offset,P.cellsOf f.type,f.type))[f]? = some (off,sz,ft)):∃fd,fields[f]? = some fd/\fd.offset=off/\P.cellsOf fd.type=sz/\fd.type=ft:=by simp_all
def XhW(fields:Array Field)(e:∀fd∈fields.toList,((P.info? fd.type).map (·.size)).isSome=true)(w:World):
 (fields.mapM λf=>do pure (f.offset,←sizeOf f.type):Sem (Array (Nat×Nat))).run P w=.ok (fields.map λf=>(f.offset,P.cellsOf f.type)) w:=by
 rw[Array.mapM_eq_mapM_toList];have:∀l:List Field,(∀fd∈l,((P.info? fd.type).map (·.size)).isSome=true)->(l.mapM λf=>do pure (f.offset,←sizeOf f.type):Sem (List (Nat×Nat))).run P w=.ok (l.map λf=>(f.offset,P.cellsOf f.type)) w:=by
  intro l;induction l with
  |nil=>simp
  |cons f l o=>
   intro h;have p:=h f ab;have g:=o λfd q=>h fd (by simp[q]);cases j:P.info? f.type with
   |none=>simp[j]at p
   |some i=>
    have:(sizeOf f.type).run P w=.ok (P.cellsOf f.type) w:=by simp[sizeOf,typeInfo,j,Program.cellsOf]
    simp only[List.mapM_cons,Sem.run_bind,this,Result.andThen_ok,Sem.run_pure,g,UA]
 have h:=this fields.toList e;simp only[Sem.run_map,h,Result.andThen_ok];congr 1;grind
def Xol(I:Ij P C s U M β w)(_hv:¬U ver){dst:Option Tmp}{type:TypeId}{pos:String}{after:Array Edge}{guard:Option (Nat×Bool)}(ρ:Operand->Value)(t:Operand->D)(hρ:∀x,Rep P M β (t x) (ρ x)){c:Prop}{d:D}{u:Up}(x:Operand)(h:opF P dst ver t s (.move x)=some (c,d,u))(e:c):OpOK P C s u U ver M β ((execOp ρ ⟨dst,(.move x),type,pos,after,guard⟩).run P w) d:=by unfold execOp;obtain⟨rfl,rfl,rfl⟩:=h;exact .val I rfl (hρ x)
def Xj6(I:Ij P C s U M β w)(_hv:¬U ver){dst:Option Tmp}{type:TypeId}{pos:String}{after:Array Edge}{guard:Option (Nat×Bool)}(ρ:Operand->Value)(t:Operand->D)(hρ:∀x,Rep P M β (t x) (ρ x)){c:Prop}{d:D}{u:Up}(x:Operand)(h:opF P dst ver t s (.assign x)=some (c,d,u))(e:c):OpOK P C s u U ver M β ((execOp ρ ⟨dst,(.assign x),type,pos,after,guard⟩).run P w) d:=by unfold execOp;obtain⟨rfl,rfl,rfl⟩:=h;exact .val I rfl (hρ x)
def Xom(I:Ij P C s U M β w)(_hv:¬U ver){dst:Option Tmp}{type:TypeId}{pos:String}{after:Array Edge}{guard:Option (Nat×Bool)}(ρ:Operand->Value)(t:Operand->D)(hρ:∀x,Rep P M β (t x) (ρ x)){c:Prop}{d:D}{u:Up}(g:Operand)(a:Operand)(b:Operand)(h:opF P dst ver t s (.pick g a b)=some (c,d,u))(y:c):OpOK P C s u U ver M β ((execOp ρ ⟨dst,(.pick g a b),type,pos,after,guard⟩).run P w) d:=by
 unfold execOp;simp only[opF]at h;split at h
 .rename_i f l;obtain⟨rfl,rfl,rfl⟩:=h;have e:=hρ g;rw[l]at e;refine .val I (v:=if f then ρ a else ρ b) (by simp[e.1,asBool]) ?_;have j:=hρ a;have hb:=hρ b;unfold Xli;split
  .rename_i p q o r;rw[o]at j;rw[r]at hb;cases f
   .simp[Rep,hb.1,wfV]
   simp[Rep,j.1,wfV]
  cases f
  .exact hb
  exact j
 simp_all
def Xlp(I:Ij P C s U M β w)(l:¬U ver){dst:Option Tmp}{type:TypeId}{pos:String}{after:Array Edge}{guard:Option (Nat×Bool)}(ρ:Operand->Value)(t:Operand->D)(_hρ:∀x,Rep P M β (t x) (ρ x)){c:Prop}{d:D}{u:Up}(T:TypeId)(h:opF P dst ver t s (.alloc T)=some (c,d,u))(q:c):OpOK P C s u U ver M β ((execOp ρ ⟨dst,(.alloc T),type,pos,after,guard⟩).run P w) d:=by
 unfold execOp;simp only[opF]at h;split at h
 .rename_i ty j;split at h
  .rename_i r g;split at h
   .rename_i f;obtain⟨rfl,rfl,rfl⟩:=h;have⟨o,p⟩:=Zz (P:=P) (M:=M) (β:=β) g;have e:(Instr.alloc T true (.tuple #[])).run P w=((do pure (Value.pointer (some (←newVar T ty.zero))):Sem Value)).run P w:=by simp[Instr.alloc,Z6 j]
    exact VOK.op (sem:=Instr.alloc T true (.tuple #[])) (by rw[e];exact Xll I l j o p f.1 f.2 (K7 dst))
   cases h
  cases h
 simp_all
def XqU(I:Ij P C s U M β w)(g:¬U ver){dst:Option Tmp}{type:TypeId}{pos:String}{after:Array Edge}{guard:Option (Nat×Bool)}(ρ:Operand->Value)(t:Operand->D)(hρ:∀x,Rep P M β (t x) (ρ x)){c:Prop}{d:D}{u:Up}(T:TypeId)(x:Operand)(h:opF P dst ver t s (.box T x)=some (c,d,u))(j:c):OpOK P C s u U ver M β ((execOp ρ ⟨dst,(.box T x),type,pos,after,guard⟩).run P w) d:=by
 unfold execOp;simp only[opF]at h;split at h
 .rename_i ty q l e;split at h
  .rename_i f;obtain⟨rfl,rfl,rfl⟩:=h;have⟨o,p⟩:=Ji e (hρ x);exact VOK.op (Xll I g l o p j f (K7 dst))
  cases h
 simp_all
def Xlq(I:Ij P C s U M β w)(_hv:¬U ver){dst:Option Tmp}{type:TypeId}{pos:String}{after:Array Edge}{guard:Option (Nat×Bool)}(ρ:Operand->Value)(t:Operand->D)(hρ:∀x,Rep P M β (t x) (ρ x)){c:Prop}{d:D}{u:Up}(T:TypeId)(parts:Array (Nat×Operand))(h:opF P dst ver t s (.build T parts)=some (c,d,u))(V:c):OpOK P C s u U ver M β ((execOp ρ ⟨dst,(.build T parts),type,pos,after,guard⟩).run P w) d:=by
 unfold execOp;simp only[opF]at h;split at h
 .rename_i ty p;have⟨W,O⟩:=Xez hρ parts.toList;split at h
  .rename_i z Y g A;simp only[Uv,Wy]at h;obtain⟨r,B,rfl,rfl,rfl⟩:=h;have⟨E,R⟩:=Zz (P:=P) (M:=M) (β:=β) g;have⟨G,H,J,k0⟩:=ty;subst A;obtain⟨fields,K,rfl,l⟩:=Vn p;have⟨o,k1,k2⟩:=Xdc _ (λi=>(fields.map λf=>(f.offset,P.cellsOf f.type))[i]?) (λi x q=>by
    simp only[Uv,IQ,Ix]at q
    obtain⟨y,⟨fd,S,rfl⟩,rfl⟩:=q
    simp[S]) _ (parts.map λx=>(x.1,ρ x.2)).toList z J.cells r B E ab (by simpa using O)
   refine .val I (v:=.agg o) ?_ ?_
   .simp only[Instr.build,Sem.run_bind,Z6 p,Result.andThen_ok,run_underlying K,XhW fields l,k1,Sem.run_pure]
   exact⟨o.toList,ab,k2⟩
  .rename_i z n e sz g A;split at h
   .rename_i Z Q;simp only[Uv,Wy]at h;obtain⟨r,B,rfl,rfl,rfl⟩:=h;have⟨E,R⟩:=Zz (P:=P) (M:=M) (β:=β) g;have⟨G,H,J,k0⟩:=ty;subst A;have⟨K,L⟩:=Jh p;have j:∀w:World,(sizeOf e).run P w=.ok sz w:=λw=>by rw[YP Q,L,XaZ Q]
    have⟨o,k1,k2⟩:=Xdc _ (λi=>some (i*sz,sz)) (λi x q=>q) _ (parts.map λx=>(x.1,ρ x.2)).toList z J.cells r B E ab (by simpa using O);refine .val I (v:=.agg o) ?_ ?_
    .simp only[Instr.build,Sem.run_bind,Z6 p,Result.andThen_ok,run_underlying K,j,k1,Sem.run_pure]
    exact⟨o.toList,ab,k2⟩
   cases h
  cases h
 simp_all
def Xep(I:Ij P C s U M β w)(p:¬U ver){dst:Option Tmp}{type:TypeId}{pos:String}{after:Array Edge}{guard:Option (Nat×Bool)}(ρ:Operand->Value)(t:Operand->D)(hρ:∀x,Rep P M β (t x) (ρ x)){c:Prop}{d:D}{u:Up}(T:TypeId)(n:Nat)(parts:Array (Nat×Operand))(h:opF P dst ver t s (.buildSlice T n parts)=some (c,d,u))(q:c):OpOK P C s u U ver M β ((execOp ρ ⟨dst,(.buildSlice T n parts),type,pos,after,guard⟩).run P w) d:=by
 unfold execOp;simp only[opF]at h;split at h
 .rename_i a b Y E z r;split at h
  .rename_i Z y;split at h
   .rename_i zc f;split at h
    .rename_i e;have⟨A,B,G,H,J⟩:=e;split at h
     .rename_i cc ps l g;simp only[Uv,Wy]at h;obtain⟨es,j,rfl,rfl,rfl⟩:=h;have⟨K,L⟩:=Xez hρ parts.toList;have⟨M',I',o,O⟩:=I.freeze l;have⟨Q,R⟩:=XeA I o g q O L;have S:ps.map (·.1)=(parts.map λx=>(x.1,ρ x.2)).toList.map (·.1):=by rw[R,K,Array.toList_map]
      have V:RepL P M' YH (ps.map (·.2)) ((parts.map λx=>(x.1,ρ x.2)).toList.map (·.2)):=by rw[Array.toList_map];exact Q
      have⟨M2,β2,w2,W,g1,g2,g3,g4,g5⟩:=VOK.op (Xen I' p r y f A B G H J j S V (K7 dst));refine⟨M2,β2,w2,W,g1,?_,g3,o.trans g4,g5⟩;rw[Zo,VU];exact g2
     cases h
    cases h
   cases h
  cases h
 simp_all
def Xon(I:Ij P C s U M β w)(_hv:¬U ver){dst:Option Tmp}{type:TypeId}{pos:String}{after:Array Edge}{guard:Option (Nat×Bool)}(ρ:Operand->Value)(t:Operand->D)(hρ:∀x,Rep P M β (t x) (ρ x)){c:Prop}{d:D}{u:Up}(T:TypeId)(a:Operand)(h:opF P dst ver t s (.load T a)=some (c,d,u))(f:c):OpOK P C s u U ver M β ((execOp ρ ⟨dst,(.load T a),type,pos,after,guard⟩).run P w) d:=by
 unfold execOp;simp only[opF]at h;split at h
 .rename_i ty l p o z g j;split at h
  .rename_i e;obtain⟨rfl,rfl,rfl⟩:=h;exact VOK.op (Xof I g j f e.1 e.2 (hρ a))
  cases h
 simp_all
def Xlr(I:Ij P C s U M β w)(_hv:¬U ver){dst:Option Tmp}{type:TypeId}{pos:String}{after:Array Edge}{guard:Option (Nat×Bool)}(ρ:Operand->Value)(t:Operand->D)(hρ:∀x,Rep P M β (t x) (ρ x)){c:Prop}{d:D}{u:Up}(T:TypeId)(a:Operand)(x:Operand)(h:opF P dst ver t s (.store T a x)=some (c,d,u))(g:c):OpOK P C s u U ver M β ((execOp ρ ⟨dst,(.store T a x),type,pos,after,guard⟩).run P w) d:=by
 unfold execOp;simp only[opF]at h;split at h
 .rename_i ty id v z i Y K O;have hp:=hρ a;rw[O]at hp;split at h
  .rename_i Q E R L fz j;split at h
   .rename_i S o;split at h
    .rename_i e;have⟨rfl,rfl,f⟩:=e;obtain⟨rfl,rfl,rfl⟩:=h;exact Xgm I K j hp o (hρ x) g.1 g.2.1 g.2.2 f
    cases h
   cases h
  .rename_i Q E R L fz j;split at h
   .rename_i c1 Z l p;split at h
    .rename_i S o;split at h
     .rename_i e;have⟨rfl,rfl,f,q⟩:=e;obtain⟨rfl,rfl,rfl⟩:=h;have⟨r,y,A,B⟩:=g;have⟨M',I',G,V⟩:=I.freeze l;have H:=snap_rep I G p r V (hρ x);have J:frz s l id=some (v,.arr false E z L fz):=by unfold frz;rw[Wg q];exact j
      have⟨M2,β2,w2,W,g1,g2,g3,g4,g5⟩:=Xgm (ver:=ver) I' K J (hp.mono G (BLe.refl _)) o H y A B f;refine⟨M2,β2,w2,W,g1,?_,g3,G.trans g4,g5⟩;rw[Zo,VU];exact g2
     cases h
    cases h
   cases h
  cases h
 simp_all
def Xgr(I:Ij P C s U M β w)(_hv:¬U ver){dst:Option Tmp}{type:TypeId}{pos:String}{after:Array Edge}{guard:Option (Nat×Bool)}(ρ:Operand->Value)(t:Operand->D)(hρ:∀x,Rep P M β (t x) (ρ x)){c:Prop}{d:D}{u:Up}(x:Operand)(h:opF P dst ver t s (.nilCheck x)=some (c,d,u))(p:c):OpOK P C s u U ver M β ((execOp ρ ⟨dst,(.nilCheck x),type,pos,after,guard⟩).run P w) d:=by
 unfold execOp;simp only;simp only[opF]at h;split at h
 .rename_i id v z i l g;obtain⟨rfl,rfl,rfl⟩:=h;have e:=hρ x;rw[g]at e;have f:=e;have⟨b,q,_,j⟩:=f;refine .val I (v:=ρ x) ?_ e;rw[j];rfl
 .rename_i z r l g;obtain⟨rfl,rfl,rfl⟩:=h;have e:=hρ x;rw[g]at e;have f:=e;have⟨_,b,o,j,_⟩:=f;refine .val I (v:=ρ x) ?_ e;rw[j];rfl
 simp_all
def Xj7(I:Ij P C s U M β w){op:BinOp}{T:TypeId}{x:D}{ρ:Operand->Value}{e:Operand}{c:Prop}{d:D}(h:Xfn P op T x=some (c,d))(r:c){vx:Value}(t:Rep P M β x vx){u:Operand}(g:Xc5 e=true)(K:∀v,e=.const v->ρ e=v):VOK P C s [] U ver M β ((do eqGuard op T u e vx (ρ e);binOp op T vx (ρ e):Sem Value).run P w) d:=by
 have j:∃l c,ρ e=.slice none l c:=by
  cases e with
  |const v=>
   simp only[Xc5]at g;unfold XhS at g;split at g
   .cases g
   .cases g
   .rename_i l c;exact⟨l,c,K _ rfl⟩
   cases g
  |_=>simp[Xc5]at g
 have⟨y,A,j⟩:=j;rw[j];have key:∀(a:Option Addr) (l p:Nat) {B G:Nat} {H:Value} {E z:Nat},Xt P T=some ⟨B,G,H,.slice E z⟩->(Op.equal T (.slice a l p) (.slice none y A)).run P w=.ok a.isNone w:=by intro a l p B G H E z f;unfold Op.equal Op.maxDepth Op.equalIn;cases a<;>simp[run_underlying (X9 f).1]
 have q:∀(op:BinOp) (a:Option Addr) (l p:Nat),(eqGuard op T u e (.slice a l p) (.slice none y A)).run P w=.ok () w:=by intro op a l p;unfold eqGuard;cases op<;>simp
 unfold Xfn at h;split at h
 .obtain⟨_,_,_,a,cap,rfl,_,J⟩:=t;split at h
  .rename_i f;obtain⟨rfl,rfl⟩:=h;obtain⟨b,o,rfl,_⟩:=J.resolve_left r;refine .same I (v:=.bool false) ?_ (ZK _);simp[q,binOp,key _ _ _ f]
  .rename_i f;obtain⟨rfl,rfl⟩:=h;obtain⟨b,o,rfl,_⟩:=J.resolve_left r;refine .same I (v:=.bool true) ?_ (ZK _);simp[q,binOp,key _ _ _ f]
  cases h
 .rename_i a l p;obtain⟨rfl,_⟩:=t;split at h
  .rename_i f;obtain⟨rfl,rfl⟩:=h;refine .same I (v:=.bool a.isNone) ?_ (ZK _);simp[q,binOp,key _ _ _ f]
  .rename_i f;simp only[Wq,Wy]at h;obtain⟨rfl,rfl⟩:=h;refine .same I (v:=.bool (!a.isNone)) ?_ (ZK _);simp[q,binOp,key _ _ _ f]
  cases h
 simp_all
def Xls(I:Ij P C s U M β w)(_hv:¬U ver){dst:Option Tmp}{type:TypeId}{pos:String}{after:Array Edge}{guard:Option (Nat×Bool)}(ρ:Operand->Value)(t:Operand->D)(hρ:∀x,Rep P M β (t x) (ρ x)){c:Prop}{d:D}{u:Up}(op:BinOp)(T:TypeId)(x:Operand)(y:Operand)(e:TypeId)(g:∀v,y=.const v->ρ y=v)(h:opF P dst ver t s (.binOp op T x y e)=some (c,d,u))(f:c):OpOK P C s u U ver M β ((execOp ρ ⟨dst,(.binOp op T x y e),type,pos,after,guard⟩).run P w) d:=by
 unfold execOp;simp only[opF,Uv,Wy]at h;obtain⟨⟨l,o⟩,hb,rfl,rfl,rfl⟩:=h;split at hb
 .rename_i j;exact VOK.op (Xj7 I hb f (hρ x) j g)
 exact VOK.op (Xoe I hb f (hρ x) (hρ y) x y)
def Xoo(I:Ij P C s U M β w)(_hv:¬U ver){dst:Option Tmp}{type:TypeId}{pos:String}{after:Array Edge}{guard:Option (Nat×Bool)}(ρ:Operand->Value)(t:Operand->D)(hρ:∀x,Rep P M β (t x) (ρ x)){c:Prop}{d:D}{u:Up}(op:UnOp)(T:TypeId)(x:Operand)(h:opF P dst ver t s (.unOp op T x)=some (c,d,u))(g:c):OpOK P C s u U ver M β ((execOp ρ ⟨dst,(.unOp op T x),type,pos,after,guard⟩).run P w) d:=by
 unfold execOp;simp only;simp only[opF]at h;have e:=hρ x;split at h
 .rename_i b f;obtain⟨rfl,rfl,rfl⟩:=h;rw[f]at e;refine .val I (v:=.bool (!b)) ?_ (ZK _);rw[e.1];simp[Op.unary]
 .rename_i k n f;obtain⟨rfl,rfl,rfl⟩:=h;rw[f]at e;refine .val I (v:=.int k (k.wrap (0-n))) ?_ (ZS _ _ (Kn _ _));rw[e.1];simp[Op.unary,Op.intArith]
 simp_all
def XhX(I:Ij P C s U M β w)(_hv:¬U ver){dst:Option Tmp}{type:TypeId}{pos:String}{after:Array Edge}{guard:Option (Nat×Bool)}(ρ:Operand->Value)(t:Operand->D)(hρ:∀x,Rep P M β (t x) (ρ x)){c:Prop}{d:D}{u:Up}(S:TypeId)(T:TypeId)(x:Operand)(h:opF P dst ver t s (.convert S T x)=some (c,d,u))(o:c):OpOK P C s u U ver M β ((execOp ρ ⟨dst,(.convert S T x),type,pos,after,guard⟩).run P w) d:=by
 unfold execOp;simp only;simp only[opF]at h;split at h
 .rename_i tS a b p k q n f g j;obtain⟨rfl,rfl,rfl⟩:=h;have e:=hρ x;rw[j]at e;have⟨i,r,_,l,_⟩:=Yj f;refine .val I (v:=.int k (k.wrap n)) ?_ (ZS _ _ (Kn _ _));rw[e.1];simp[convert,run_underlying l,run_underlying (XiV g),Conv.intToInt]
 simp_all
def Xgs(I:Ij P C s U M β w)(_hv:¬U ver){dst:Option Tmp}{type:TypeId}{pos:String}{after:Array Edge}{guard:Option (Nat×Bool)}(ρ:Operand->Value)(t:Operand->D)(hρ:∀x,Rep P M β (t x) (ρ x)){c:Prop}{d:D}{u:Up}(fn:Fn)(first:Array Operand)(captured:Array Operand)(h:opF P dst ver t s (.makeFunc fn first captured)=some (c,d,u))(f:c):OpOK P C s u U ver M β ((execOp ρ ⟨dst,(.makeFunc fn first captured),type,pos,after,guard⟩).run P w) d:=by
 unfold execOp;obtain⟨rfl,rfl,rfl⟩:=h;refine .val I (v:=.func fn (first.map ρ) (captured.map ρ)) (by simp[Instr.makeFunc]) ?_;refine⟨first.toList.map ρ,captured.toList.map ρ,?_,Xfs hρ _,Xfs hρ _⟩;have e:∀l:Array Operand,l.map ρ=⟨l.toList.map ρ⟩:=λl=>by apply Array.ext';simp
 simp_all
def Xfv(I:Ij P C s U M β w)(o:¬U ver){dst:Option Tmp}{type:TypeId}{pos:String}{after:Array Edge}{guard:Option (Nat×Bool)}(ρ:Operand->Value)(t:Operand->D)(hρ:∀x,Rep P M β (t x) (ρ x)){c:Prop}{d:D}{u:Up}(T:TypeId)(l:Operand)(f:Operand)(h:opF P dst ver t s (.makeSlice T l f)=some (c,d,u))(p:c):OpOK P C s u U ver M β ((execOp ρ ⟨dst,(.makeSlice T l f),type,pos,after,guard⟩).run P w) d:=by
 unfold execOp;simp only;simp only[opF]at h;split at h
 .rename_i a b K E z n m q r y;split at h
  .rename_i L A;split at h
   .rename_i O g;split at h
    .rename_i e;obtain⟨rfl,rfl,rfl⟩:=h;have⟨B,rfl,G,H⟩:=p;have⟨k,J,_⟩:=Vq r (hρ l);have⟨Q,j,_⟩:=Vq y (hρ f);rw[J,j];exact VOK.op (Xoi I o q A g e.1 e.2 B G H (K7 dst))
    cases h
   cases h
  cases h
 simp_all
def Xlt(I:Ij P C s U M β w)(_hv:¬U ver){dst:Option Tmp}{type:TypeId}{pos:String}{after:Array Edge}{guard:Option (Nat×Bool)}(ρ:Operand->Value)(t:Operand->D)(hρ:∀x,Rep P M β (t x) (ρ x)){c:Prop}{d:D}{u:Up}(T:TypeId)(x:Operand)(lo:Option Operand)(y:Option Operand)(mx:Option Operand)(h:opF P dst ver t s (.slice T x lo y mx)=some (c,d,u))(B:c):OpOK P C s u U ver M β ((execOp ρ ⟨dst,(.slice T x lo y mx),type,pos,after,guard⟩).run P w) d:=by
 unfold execOp;simp only[opF]at h;split at h
 .rename_i a b G E sz l W m g j e o;split at h
  .rename_i H p;simp only[Uv,Wy]at h;obtain⟨⟨Y,Z⟩,J,rfl,rfl,rfl⟩:=h;have⟨k1,q⟩:=Vr hρ j;have⟨k2,r⟩:=Vr hρ e;have⟨K,e3⟩:=Vr hρ o;simp only[q,r,e3];exact VOK.op (Xj2 I g p J B (hρ x))
  cases h
 .rename_i a b G n E L g j e o;split at h
  .rename_i H z cs p O;split at h
   .rename_i f;have⟨Q,rfl,R,S,V⟩:=f;obtain⟨rfl,rfl,rfl⟩:=h;have⟨k1,q⟩:=Vr hρ j;have⟨k2,r⟩:=Vr hρ e;have⟨K,e3⟩:=Vr hρ o;simp only[q,r,e3];have A:=hρ x;rw[O]at A;exact VOK.op (Xj3 I g p Q R S V A)
   cases h
  cases h
 simp_all
def Xfw(I:Ij P C s U M β w)(_hv:¬U ver){dst:Option Tmp}{type:TypeId}{pos:String}{after:Array Edge}{guard:Option (Nat×Bool)}(ρ:Operand->Value)(t:Operand->D)(hρ:∀x,Rep P M β (t x) (ρ x)){c:Prop}{d:D}{u:Up}(T:TypeId)(x:Operand)(f:Nat)(h:opF P dst ver t s (.fieldAddr T x f)=some (c,d,u))(L:c):OpOK P C s u U ver M β ((execOp ρ ⟨dst,(.fieldAddr T x f),type,pos,after,guard⟩).run P w) d:=by
 unfold execOp;simp only;simp only[opF]at h;have l:=hρ x;split at h
 .rename_i a b E G id v z i j p q;split at h
  .rename_i off sz H r;split at h
   .cases h
   rename_i e;obtain⟨rfl,rfl,rfl⟩:=h;rw[q]at l;have⟨g,J,hb,y⟩:=l;obtain⟨fields,A,rfl,_⟩:=Vn p;have⟨fd,g1,g2,g3,g4⟩:=Xa1 r;have hp:=XaT (P:=P) (w:=w) (fd:=fd) (by rw[g3];exact e) g (i*z+j);refine .val I (v:=.pointer (some ⟨g,i*z+j+off,none⟩)) ?_ ?_
   .rw[y];simp[Instr.fieldAt,run_underlying A,g1,Instr.sureAddr,hp,g2]
   exact⟨g,J,hb,by rw[Oj]⟩
  cases h
 .rename_i a b E G z O j p q;split at h
  .rename_i off sz H r;split at h
   .cases h
   rename_i e;obtain⟨rfl,rfl,rfl⟩:=h;rw[q]at l;obtain⟨K,g,o,y,B⟩:=l;obtain⟨fields,A,rfl,_⟩:=Vn p;obtain⟨fd,g1,g2,g3,g4⟩:=Xa1 r;have hp:=XaT (P:=P) (w:=w) (fd:=fd) (by rw[g3];exact e) g (o+j);refine .val I (v:=.pointer (some ⟨g,o+j+off,none⟩)) ?_ ?_
   .rw[y];simp[Instr.fieldAt,run_underlying A,g1,Instr.sureAddr,hp,g2]
   simp only[Rep];exact⟨K,g,o,by rw[Oj],B⟩
  cases h
 simp_all
def Xlu(I:Ij P C s U M β w)(_hv:¬U ver){dst:Option Tmp}{type:TypeId}{pos:String}{after:Array Edge}{guard:Option (Nat×Bool)}(ρ:Operand->Value)(t:Operand->D)(hρ:∀x,Rep P M β (t x) (ρ x)){c:Prop}{d:D}{u:Up}(T:TypeId)(x:Operand)(f:Nat)(h:opF P dst ver t s (.field T x f)=some (c,d,u))(E:c):OpOK P C s u U ver M β ((execOp ρ ⟨dst,(.field T x f),type,pos,after,guard⟩).run P w) d:=by
 unfold execOp;simp only;simp only[opF]at h;have y:=hρ x;split at h
 .rename_i a b Q R l G H;split at h
  .rename_i off sz S J;split at h
   .rename_i ty g;split at h
    .rename_i o;obtain⟨rfl,rfl,rfl⟩:=h;have⟨z,p⟩:=E;rw[H]at y;have⟨A,K,j⟩:=y;obtain⟨fields,B,rfl,_⟩:=Vn G;have⟨fd,g1,g2,g3,g4⟩:=Xa1 J;subst g4;rw[K];cases e:ty.isAgg with
     |true=>
      refine .val I (v:=.agg ((A.toArray).extract off (off+sz))) ?_ ?_
      .simp[Instr.field,run_underlying B,g1,part,asAgg,Jg g,e,YP g,o,g2]
      refine⟨(A.drop off).take sz,?_,(j.drop off).take sz⟩;congr 1;simp[List.extract_eq_take_drop]
     |false=>
      have L:sz=1:=by rcases p with h|h;(rw[e]at h;cases h);exact h
      subst L;have⟨O,q,r⟩:=j.get off (l[off]'aa) ab;refine .val I (v:=O) ?_ ?_
      .simp[Instr.field,run_underlying B,g1,part,asAgg,Jg g,e,g2,q]
      simp only[Js,UU,if_false];have:((l.drop off).take 1).headD .any=l[off]'aa:=by rw[List.take_one];simp[List.head?_drop,show off<l.length by omega]
      rw[this];exact r
    cases h
   cases h
  cases h
 simp_all
def Xfx(I:Ij P C s U M β w)(_hv:¬U ver){dst:Option Tmp}{type:TypeId}{pos:String}{after:Array Edge}{guard:Option (Nat×Bool)}(ρ:Operand->Value)(t:Operand->D)(hρ:∀x,Rep P M β (t x) (ρ x)){c:Prop}{d:D}{u:Up}(T:TypeId)(x:Operand)(ix:Operand)(h:opF P dst ver t s (.indexAddr T x ix)=some (c,d,u))(q:c):OpOK P C s u U ver M β ((execOp ρ ⟨dst,(.indexAddr T x ix),type,pos,after,guard⟩).run P w) d:=by
 unfold execOp;simp only;simp only[opF]at h;have f:=hρ x;split at h
 .rename_i a b V E sz E' z S i r y A;split at h
  .rename_i B;have⟨rfl,g⟩:=B;obtain⟨rfl,rfl,rfl⟩:=h;have⟨k,G,_⟩:=Vq A (hρ ix);have⟨H,l⟩:=X9 r;rw[y]at f;have⟨q1,q2,q3,base,cap,J,Q,f⟩:=f;have K:i.toNat<S.length:=aa;rcases f with rfl|⟨p,o,rfl,f⟩
   .simp at K
   have e:∀{n:Nat},sz=n->n≠0->(sizeOf E).run P w=.ok n w:=λ{n} h1 h2=>Jt (l.symm.trans h1) h2 w;have L:=f.get q1 i.toNat S[i.toNat] (by simp[K]);have W:S.getD i.toNat []=S[i.toNat]:=by rw[We,Wb K];rfl
   rcases Ux sz with R|R
   .exact absurd R g
   refine .val I (v:=.pointer (some ⟨p,o+i.toNat*sz,none⟩)) ?_ ?_
   .rw[J,G];simp[Instr.indexAt,run_underlying H,asIntOf,q.1,q.2,e rfl aa,If]
   rw[W];exact⟨q1 _ (Wt _),p,o+i.toNat*sz,ab,L⟩
  cases h
 .rename_i a b V E sz id v z off len i r y A;split at h
  .rename_i B;have⟨rfl,g⟩:=B;obtain⟨rfl,rfl,rfl⟩:=h;obtain⟨k,G,_⟩:=Vq A (hρ ix);obtain⟨H,l⟩:=X9 r;rw[y]at f;simp only[Rep]at f;rcases f with⟨_,_,rfl,_,_⟩|⟨p,Y,o,cap,O,J,Q,hcb,ho⟩
   .omega
   have Z:o=off*sz:=by rcases ho with h|h;exact h;omega
   subst Z;refine .val I (v:=.pointer (some ⟨p,off*sz+i.toNat*sz,none⟩)) ?_ ?_
   .rw[J,G];have e:=Jt l.symm g w;simp[Instr.indexAt,run_underlying H,asIntOf,q.1,q.2,e,If]
   simp only[Rep];exact⟨p,Y,O,by rw[UN];simp⟩
  cases h
 .rename_i a b V n E sz z cs cc i r y A;split at h
  .cases h
  rename_i g;simp only[Wq,Wy]at h;obtain⟨rfl,rfl,rfl⟩:=h;obtain⟨k,G,_⟩:=Vq A (hρ ix);obtain⟨H,l⟩:=Jh r;have e:=Jt l.symm g w;rw[y]at f;simp only[Rep]at f;obtain⟨hz,p,o,J,L⟩:=f;refine .val I (v:=.pointer (some ⟨p,o+cc+i.toNat*sz,none⟩)) ?_ ?_
  .rw[J,G];simp[Instr.indexAt,run_underlying H,asIntOf,Instr.sureAddr,q.1,q.2,e,If]
  simp only[Rep];exact⟨hz,p,o,by rw[Oj],L⟩
 .rename_i a b V n E sz id v z j cc i r y A;split at h
  .cases h
  rename_i g;simp only[Wq,Wy]at h;obtain⟨rfl,rfl,rfl⟩:=h;obtain⟨k,G,_⟩:=Vq A (hρ ix);obtain⟨H,l⟩:=Jh r;have e:=Jt l.symm g w;rw[y]at f;simp only[Rep]at f;obtain⟨p,Y,O,J⟩:=f;refine .val I (v:=.pointer (some ⟨p,j*z+cc+i.toNat*sz,none⟩)) ?_ ?_
  .rw[J,G];simp[Instr.indexAt,run_underlying H,asIntOf,Instr.sureAddr,q.1,q.2,e,If]
  simp only[Rep];exact⟨p,Y,O,by rw[Oj]⟩
 simp_all
def Xlv(I:Ij P C s U M β w)(_hv:¬U ver){dst:Option Tmp}{type:TypeId}{pos:String}{after:Array Edge}{guard:Option (Nat×Bool)}(ρ:Operand->Value)(t:Operand->D)(hρ:∀x,Rep P M β (t x) (ρ x)){c:Prop}{d:D}{u:Up}(T:TypeId)(x:Operand)(ix:Operand)(h:opF P dst ver t s (.index T x ix)=some (c,d,u))(H:c):OpOK P C s u U ver M β ((execOp ρ ⟨dst,(.index T x ix),type,pos,after,guard⟩).run P w) d:=by
 unfold execOp;simp only;simp only[opF]at h;have z:=hρ x;split at h
 .rename_i a b W n e sz o i J K L;split at h
  .rename_i ty g;split at h
   .rename_i j;obtain⟨rfl,rfl,rfl⟩:=h;have⟨A,B,E,p⟩:=H;have⟨k,O,_⟩:=Vq L (hρ ix);have⟨G,Q⟩:=Jh J;rw[K]at z;have⟨q,R,l⟩:=z;rw[R,O];cases f:ty.isAgg with
    |true=>
     refine .val I (v:=.agg ((q.toArray).extract (i.toNat*sz) (i.toNat*sz+sz))) ?_ ?_
     .simp[Instr.index,run_underlying G,asIntOf,A,B,part,asAgg,Jg g,f,YP g,j]
     refine⟨(q.drop (i.toNat*sz)).take sz,?_,(l.drop (i.toNat*sz)).take sz⟩;congr 1;simp[List.extract_eq_take_drop]
    |false=>
     have S:sz=1:=by rcases p with h|h;(rw[f]at h;cases h);exact h
     subst S;have⟨x0,r,y⟩:=l.get (i.toNat*1) (o[i.toNat*1]'aa) ab;refine .val I (v:=x0) ?_ ?_
     .simp[Instr.index,run_underlying G,asIntOf,A,B,part,asAgg,Jg g,f,YP g,j];have:q[i.toNat]? = some x0:=by rw[←r,Nat.mul_one]
      simp[this]
     simp only[Js,UU,if_false];have:((o.drop (i.toNat*1)).take 1).headD .any=o[i.toNat*1]'aa:=by rw[List.take_one];have V:i.toNat<o.length:=aa;simp[List.head?_drop,V]
     rw[this];exact y
   cases h
  cases h
 simp_all
def XhY(I:Ij P C s U M β w)(_hv:¬U ver){dst:Option Tmp}{type:TypeId}{pos:String}{after:Array Edge}{guard:Option (Nat×Bool)}(ρ:Operand->Value)(t:Operand->D)(hρ:∀x,Rep P M β (t x) (ρ x)){c:Prop}{d:D}{u:Up}(x:Operand)(i:Nat)(h:opF P dst ver t s (.extract x i)=some (c,d,u))(r:c):OpOK P C s u U ver M β ((execOp ρ ⟨dst,(.extract x i),type,pos,after,guard⟩).run P w) d:=by
 unfold execOp;simp only;simp only[opF]at h;have j:=hρ x;split at h
 .rename_i o p;split at h
  .rename_i l;obtain⟨rfl,rfl,rfl⟩:=h;rw[p]at j;have⟨y,q,e⟩:=j;have⟨v,f,g⟩:=e.get i o[i] (by simp[l]);refine .val I (v:=v) ?_ ?_
   .rw[q];simp[Instr.extract,f]
   rw[We,Wb l];exact g
  cases h
 simp_all
def Xbk{t:Operand->D}{ρ:Operand->Value}(hρ:∀x,Rep P M β (t x) (ρ x)){args:Array Operand}{d:D}(h:args.toList.map t=[d]):∃v,args.map ρ=#[v]/\Rep P M β d v:=by
 have⟨l⟩:=args;match l,h with
 |[x],h=>grind
def VW{t:Operand->D}{ρ:Operand->Value}(hρ:∀x,Rep P M β (t x) (ρ x)){args:Array Operand}{d e:D}(h:args.toList.map t=[d,e]):∃v u,args.map ρ=#[v,u]/\Rep P M β d v/\Rep P M β e u:=by
 have⟨l⟩:=args;match l,h with
 |[x,y],h=>grind
def XbU{types:Array TypeId}{T:TypeId}(h:types.toList=[T]):types=#[T]:=by grind
def Xj8{types:Array TypeId}{T T2:TypeId}(h:types.toList=[T,T2]):types=#[T,T2]:=by grind
def Xaq{n:Nat}(h:n<=Xw):wfV (.int .i64 n):=by simp only[wfV,IntKind.min,IntKind.max,IntKind.signed,IntKind.bits,if_true];grind[Xw]
def XqV(I:Ij P C s U M β w){dst:Option Tmp}{type:TypeId}{pos:String}{after:Array Edge}{guard:Option (Nat×Bool)}(ρ:Operand->Value)(t:Operand->D)(hρ:∀x,Rep P M β (t x) (ρ x)){c:Prop}{d:D}{u:Up}(args:Array Operand)(types:Array TypeId)(h:opF P dst ver t s (.call ⟨.builtin .len,args,types⟩)=some (c,d,u))(L:c):OpOK P C s u U ver M β ((execOp ρ ⟨dst,.call ⟨.builtin .len,args,types⟩,type,pos,after,guard⟩).run P w) d:=by
 simp only[opF]at h;split at h
 .rename_i d0 T O ht;have⟨v,Q,g⟩:=Xbk hρ O;have p:=XbU ht;subst p;have start:∀r:Int,(Builtin.len_ #[T] type #[v]).run P w=.ok (.int .i64 r) w->(execOp ρ ⟨dst,.call ⟨.builtin .len,args,#[T]⟩,type,pos,after,guard⟩).run P w=.ok (.value (.int .i64 r)) w:=by intro r j;simp[execOp,resolve,invoke,builtin,Q,j]
  split at h
  .rename_i a b q E sz e;obtain⟨rfl,rfl,rfl⟩:=h;obtain⟨H,rfl⟩:=g;exact .val I (v:=.int .i64 0) (start 0 (by simp[Builtin.len_,run_underlying (X9 e).1,goInt])) (ZS _ _ (Xaq (n:=0) ae))
  .rename_i a b q E sz E' z o e;obtain⟨rfl,rfl,rfl⟩:=h;obtain⟨_,J,_,H,cap,rfl,_⟩:=g;exact .val I (v:=.int .i64 o.length) (start _ (by simp[Builtin.len_,run_underlying (X9 e).1,goInt])) (ZS _ _ (Xaq J))
  .rename_i a b q E sz id R z off len e;obtain⟨rfl,rfl,rfl⟩:=h;have y:∃a cap,v=.slice a len cap:=by
    simp only[Rep]at g;rcases g with⟨_,_,rfl,a,rfl⟩|⟨_,_,_,cap,_,rfl,_⟩
    .exact⟨_,_,rfl⟩
    exact⟨_,_,rfl⟩
   obtain⟨H,cap,rfl⟩:=y;exact .val I (v:=.int .i64 len) (start _ (by simp[Builtin.len_,run_underlying (X9 e).1,goInt])) (ZS _ _ (Xaq L))
  .rename_i a b q n E sz e;split at h
   .rename_i S;simp only[Wq,Wy]at h;obtain⟨rfl,rfl,rfl⟩:=h;exact .val I (v:=.int .i64 n) (start _ (by simp[Builtin.len_,run_underlying (Jh e).1,goInt])) (ZS _ _ (Xaq S))
   cases h
  .rename_i id V _;split at h
   .rename_i k E R k2 o e W;split at h
    .rename_i f;obtain⟨rfl,rfl⟩:=f;simp only[Wq,Wy]at h;obtain⟨rfl,rfl,rfl⟩:=h;obtain⟨K,A,Y⟩:=ZL e;simp only[Rep]at g;obtain⟨b,Z,hb,rfl⟩:=g;obtain⟨x0,l,B⟩:=I.obs id V _ W;rw[hb]at l;obtain rfl:some (b,Z)=x0:=by simpa using l
     obtain⟨rfl,h1,J,ents,clock,h3,h4,h5,h6⟩:=B;have hl:=h4.length;have G:ents.size=o.length:=by simpa using hl
     exact .val I (v:=.int .i64 o.length) (start _ (by simp[Builtin.len_,run_underlying A,goInt,Go.MapKept.run_getObj_map h3,G])) (ZS _ _ (Xaq h1))
    cases h
   cases h
  cases h
 simp_all
def Xj9(I:Ij P C s U M β w){dst:Option Tmp}{type:TypeId}{pos:String}{after:Array Edge}{guard:Option (Nat×Bool)}(ρ:Operand->Value)(t:Operand->D)(hρ:∀x,Rep P M β (t x) (ρ x)){c:Prop}{d:D}{u:Up}(args:Array Operand)(types:Array TypeId)(h:opF P dst ver t s (.call ⟨.builtin .delete,args,types⟩)=some (c,d,u))(_hc:c):OpOK P C s u U ver M β ((execOp ρ ⟨dst,.call ⟨.builtin .delete,args,types⟩,type,pos,after,guard⟩).run P w) d:=by
 simp only[opF]at h;split at h
 .rename_i id v k' n T O o ht;have⟨v1,v2,A,B,G⟩:=VW hρ o;have⟨tl⟩:=types;subst ht;split at h
  .rename_i k E v' k2 V W H;split at h
   .rename_i g;have⟨rfl,rfl,rfl⟩:=g;obtain⟨rfl,rfl,rfl⟩:=h;have⟨K,q,f⟩:=ZL W;obtain⟨b,Y,hb,rfl⟩:=B;obtain⟨rfl,_⟩:=G;have⟨x0,r,J⟩:=I.obs id v _ H;rw[hb]at r;obtain rfl:some (b,Y)=x0:=by simpa using r
    obtain⟨rfl,Z,h2,ents,clock,p,Q,R,S⟩:=J;have start:∀a,Instr.findNow (.int k) (.int k n) ents.toList 0=some a->(Builtin.delete_ ⟨T::O⟩ type #[.map (some b),.int k n]).run P w =
     .ok (.tuple #[]) {w with heap:=w.heap.setIfInBounds b (.map (match a with|some (i,_)=>ents.eraseIdxIfInBounds i|none=>ents) clock)}:=by
     intro a o
     unfold Builtin.delete_
     cases a with
     |none=>simp[run_underlying q,Go.MapKept.run_getObj_map p,Go.MapKept.run_checkKey f (Jk k n),Go.MapKept.run_findKey f o,Go.MapKept.run_setObj_map _ p]
     |some y=>simp[run_underlying q,Go.MapKept.run_getObj_map p,Go.MapKept.run_checkKey f (Jk k n),Go.MapKept.run_findKey f o,Go.MapKept.run_setObj_map _ p]
    have start2:∀a,Instr.findNow (.int k) (.int k n) ents.toList 0=some a->(execOp ρ ⟨dst,.call ⟨.builtin .delete,args,⟨T::O⟩⟩,type,pos,after,guard⟩).run P w =
     .ok (.value (.tuple #[])) {w with heap:=w.heap.setIfInBounds b (.map (match a with|some (i,_)=>ents.eraseIdxIfInBounds i|none=>ents) clock)}:=by
     intro a o
     simp[execOp,resolve,invoke,builtin,A,start a o]
    rcases Xbj n ents.toList V 0 Q with⟨g1,g2,g3,g4⟩|⟨j,e,d0,g1,g2,g3,g4,g5,g6,g7,g8,g9⟩
    .refine⟨M,β,_,.tuple #[],.inl (start2 _ g4),?_,by simp[Rep,RepL],MLe.refl _,BLe.refl _⟩;rw[g2];exact(I.setMap H hb p Z Q R S).mono λ_ h=>.inl h
    have l:(ents.eraseIdxIfInBounds (0+j)).toList=ents.toList.eraseIdx j:=by
     have hj:j<ents.size:=by
      rcases UM j ents.size with L|L
      .exact L
      rw[W3 (by exact L)]at g3;cases g3
     rw[Ue];simp[Array.eraseIdxIfInBounds,hj]
    refine⟨M,β,_,.tuple #[],.inl (start2 _ g2),?_,by simp[Rep,RepL],MLe.refl _,BLe.refl _⟩;refine(I.setMap H hb p aa (by rw[l];exact g7) ?_ ?_).mono λ_ h=>.inl h
    .rw[l];exact R.sublist ((List.eraseIdx_sublist _ _).map _)
    intro e' z;rw[l]at z;exact S e' (List.mem_of_mem_eraseIdx z)
   cases h
  cases h
 simp_all
def XqW(I:Ij P C s U M β w){dst:Option Tmp}{type:TypeId}{pos:String}{after:Array Edge}{guard:Option (Nat×Bool)}(ρ:Operand->Value)(t:Operand->D)(hρ:∀x,Rep P M β (t x) (ρ x)){c:Prop}{d:D}{u:Up}(args:Array Operand)(types:Array TypeId)(h:opF P dst ver t s (.call ⟨.builtin .cap,args,types⟩)=some (c,d,u))(_hc:c):OpOK P C s u U ver M β ((execOp ρ ⟨dst,.call ⟨.builtin .cap,args,types⟩,type,pos,after,guard⟩).run P w) d:=by
 simp only[opF]at h;split at h
 .rename_i o T f ht;have⟨v,g,j⟩:=Xbk hρ f;have e:=XbU ht;subst e;split at h
  .rename_i a b p E sz l;obtain⟨rfl,rfl,rfl⟩:=h;obtain⟨q,rfl⟩:=j;exact .val I (v:=.int .i64 0) (by simp[execOp,resolve,invoke,builtin,g,Builtin.cap_,run_underlying (X9 l).1,goInt]) (ZS _ _ (Xaq (n:=0) ae))
  cases h
 simp_all
def XqX(I:Ij P C s U M β w){dst:Option Tmp}{type:TypeId}{pos:String}{after:Array Edge}{guard:Option (Nat×Bool)}(ρ:Operand->Value)(t:Operand->D)(hρ:∀x,Rep P M β (t x) (ρ x)){c:Prop}{d:D}{u:Up}(args:Array Operand)(types:Array TypeId)(h:opF P dst ver t s (.call ⟨.builtin .min,args,types⟩)=some (c,d,u))(_hc:c):OpOK P C s u U ver M β ((execOp ρ ⟨dst,.call ⟨.builtin .min,args,types⟩,type,pos,after,guard⟩).run P w) d:=by
 simp only[opF]at h;split at h
 .rename_i j a k b g;split at h
  .rename_i l;subst l;have⟨p,q,o,e,f⟩:=VW hρ g;obtain⟨rfl,rfl,rfl⟩:=h;obtain⟨rfl,w1⟩:=e;obtain⟨rfl,w2⟩:=f;refine .val I (v:=.int j (if b<a then b else a)) (by simp[execOp,resolve,invoke,builtin,o,Builtin.min_,Builtin.min2]) (ZS _ _ ?_);split<;>assumption
  cases h
 simp_all
def XqY(I:Ij P C s U M β w){dst:Option Tmp}{type:TypeId}{pos:String}{after:Array Edge}{guard:Option (Nat×Bool)}(ρ:Operand->Value)(t:Operand->D)(hρ:∀x,Rep P M β (t x) (ρ x)){c:Prop}{d:D}{u:Up}(args:Array Operand)(types:Array TypeId)(h:opF P dst ver t s (.call ⟨.builtin .max,args,types⟩)=some (c,d,u))(_hc:c):OpOK P C s u U ver M β ((execOp ρ ⟨dst,.call ⟨.builtin .max,args,types⟩,type,pos,after,guard⟩).run P w) d:=by
 simp only[opF]at h;split at h
 .rename_i j a k b g;split at h
  .rename_i l;subst l;have⟨p,q,o,e,f⟩:=VW hρ g;obtain⟨rfl,rfl,rfl⟩:=h;obtain⟨rfl,w1⟩:=e;obtain⟨rfl,w2⟩:=f;refine .val I (v:=.int j (if a<b then b else a)) (by simp[execOp,resolve,invoke,builtin,o,Builtin.max_,Builtin.max2]) (ZS _ _ ?_);split<;>assumption
  cases h
 simp_all
def Xka(I:Ij P C s U M β w)(G:¬U ver){dst:Option Tmp}{type:TypeId}{pos:String}{after:Array Edge}{guard:Option (Nat×Bool)}(ρ:Operand->Value)(t:Operand->D)(hρ:∀x,Rep P M β (t x) (ρ x)){c:Prop}{d:D}{u:Up}(args:Array Operand)(types:Array TypeId)(h:opF P dst ver t s (.call ⟨.builtin .append,args,types⟩)=some (c,d,u))(f:c):OpOK P C s u U ver M β ((execOp ρ ⟨dst,.call ⟨.builtin .append,args,types⟩,type,pos,after,guard⟩).run P w) d:=by
 simp only[opF]at h;split at h
 .rename_i d0 x0 T T2 ha ht;have⟨J,K,L,y,A⟩:=VW hρ ha;have O:=Xj8 ht;subst O;have start:∀{d u},VOK P C s u U ver M β ((Builtin.append_ #[T,T2] type #[J,K]).run P w) d->OpOK P C s u U ver M β ((execOp ρ ⟨dst,.call ⟨.builtin .append,args,#[T,T2]⟩,type,pos,after,guard⟩).run P w) d:=by
   intro d u hk;have:=VOK.op (sem:=Builtin.append_ #[T,T2] type #[J,K]) hk;have e:(execOp ρ ⟨dst,.call ⟨.builtin .append,args,#[T,T2]⟩,type,pos,after,guard⟩).run P w=((do pure (Next.value (←Builtin.append_ #[T,T2] type #[J,K])):Sem Next)).run P w:=by simp[execOp,resolve,invoke,builtin,L]
   rw[e];exact this
  split at h
  .rename_i a b zz E z Z;split at h
   .rename_i j H;split at h
    .rename_i zc g;split at h
     .rename_i o;have⟨Q,p⟩:=o;have⟨z1,z2⟩:=Zz (P:=P) (M:=M) (β:=β) g;have B:j.zero.cells.size=j.size:=by have:=z1.length;simp at this;omega
      split at h
      .rename_i a2 b2 S E2 sz2 q;split at h
       .rename_i c0 src V;have r:c0:=by
         unfold Xek at h;split at h
         .simp at h;rw[←h.1]at f;exact f.1
         .split at h
          .split at h
           .split at h
            .simp at h;rw[←h.1]at f;exact f.1
            simp at h;rw[←h.1]at f;exact f.1
           cases h
          cases h
         cases h
        obtain⟨base,cap,vals,rfl,e1,e2,e3,e4,e5,e6⟩:=Xgn I V r A;have R:=Xfr (w:=w) (o':=type) (X9 Z).1 (X9 q).1 H (xb:=base) (m:=src.length) (xc:=cap) (vals:=vals) (by rw[Q];exact e2) e3 e4 e6;exact start (Xi0 I G H Q g p e1 e5 e6 R h f y)
       cases h
      .rename_i a2 b2 S k2 q;split at h
       .rename_i n hn;have r:(0<=n/\n<=Xw/\n.toNat*j.bytes<=Xw):=by
         unfold Xek at h;split at h
         .simp only[Wq,Wy]at h;rw[←h.1]at f;exact f.1
         .split at h
          .split at h
           .split at h
            .simp only[Wq,Wy]at h;rw[←h.1]at f;exact f.1
            simp only[Wq,Wy]at h;rw[←h.1]at f;exact f.1
           cases h
          cases h
         cases h
        have⟨g0,g1,g2⟩:=r;have⟨k',W,_⟩:=Vq hn A;subst W;have Y:(if n.toNat*j.size=0 then([]:List Value)else(Builtin.zeroCells j.zero.cells n.toNat).toList)=(Builtin.zeroCells j.zero.cells n.toNat).toList:=by
         split
         .rename_i h0;refine(WZ ?_).symm;rw[Is,Yq,B];exact h0
         rfl
        have l:∀v∈(Builtin.zeroCells j.zero.cells n.toNat).toList,v.oneCell'=true:=λv G=>ZA z2 n.toNat v (by simpa using G);have R:=Xgo (w:=w) (o':=type) (k':=k') (X9 Z).1 (XiV q) H g0 g1 g2 (vals:=(Builtin.zeroCells j.zero.cells n.toNat).toList) Y.symm l B;exact start (Xi0 I G H Q g p (Zg _ _ _ p) (Xao g n.toNat) l (by rw[WO];exact R) h f y)
       cases h
      cases h
     cases h
    cases h
   cases h
  cases h
 simp_all
def Xlw(I:Ij P C s U M β w){dst:Option Tmp}{type:TypeId}{pos:String}{after:Array Edge}{guard:Option (Nat×Bool)}(ρ:Operand->Value)(t:Operand->D)(hρ:∀x,Rep P M β (t x) (ρ x)){c:Prop}{d:D}{u:Up}(args:Array Operand)(types:Array TypeId)(h:opF P dst ver t s (.call ⟨.builtin .clear,args,types⟩)=some (c,d,u))(hc:c):OpOK P C s u U ver M β ((execOp ρ ⟨dst,.call ⟨.builtin .clear,args,types⟩,type,pos,after,guard⟩).run P w) d:=by
 simp only[opF]at h;split at h
 .rename_i id v z off len T V ht;have⟨W,q,j⟩:=Xbk hρ V;have Y:=XbU ht;subst Y;split at h
  .rename_i a b zz E sz Z;split at h
   .rename_i O hE;split at h
    .rename_i Q v' E' z' A fz B y;split at h
     .rename_i f;have⟨rfl,rfl,rfl,hz,hzl⟩:=f;obtain⟨rfl,rfl,rfl⟩:=h;have⟨G,hfz⟩:=hc;have⟨hu,hcz⟩:=X9 Z;have start:∀{w'},(Builtin.clear_ #[T] type #[W]).run P w=.ok (.tuple #[]) w'->(execOp ρ ⟨dst,.call ⟨.builtin .clear,args,#[T]⟩,type,pos,after,guard⟩).run P w=.ok (.value (.tuple #[])) w':=by intro w' hk;simp[execOp,resolve,invoke,builtin,q,hk]
      have same:len=0->upd s id (some (v,.arr false E' z (A.take off++List.replicate len Q++A.drop (off+len)) fz))=s:=by
       rintro rfl;funext i;unfold upd;split
       .rename_i e;subst e;rw[y];simp
       rfl
      have nil:∀{a cap},len=0->W=.slice a 0 cap->OpOK P C s [(id,v,.arr false E' z (A.take off++List.replicate len Q++A.drop (off+len)) fz)] U ver M β ((execOp ρ ⟨dst,.call ⟨.builtin .clear,args,#[T]⟩,type,pos,after,guard⟩).run P w) (.tup []):=by
       intro a cap R h1;subst h1;refine⟨M,β,w,.tuple #[],.inl (start ?_),?_,by simp[Rep,RepL],MLe.refl _,BLe.refl _⟩
       .unfold Builtin.clear_;cases a<;>simp[run_underlying hu]
       rw[Xj1,same R];exact I.mono λ_ h=>.inl h
      have⟨x0,g,r⟩:=I.obs id v _ y;rcases j with⟨hn,h1,h2,a,rfl⟩|⟨bb,S,o,cap,H,rfl,hcap,hcb,ho⟩
      .exact nil h2 rfl
      rw[H]at g;obtain rfl:some (bb,S)=x0:=by simpa using g
      have⟨cs,T0,k1,k2,k3,k4,k5,k6,k7,k8,k9,k10⟩:=r;by_cases R:len=0
      .subst R;exact nil rfl rfl
      have ho':o=off*z:=by rcases ho with h|h;exact h;omega
      subst ho';have⟨z1,z2⟩:=Zz (P:=P) (M:=M) (β:=YH) B;have hzs:O.zero.cells.size=z:=by have:=z1.length;simp at this;omega
      have J:(Builtin.zeroCells O.zero.cells len).toList.length=(List.replicate len Q).length*z:=by rw[Is,Yq,WO,hzs]
      have l:∀x∈(Builtin.zeroCells O.zero.cells len).toList,x.oneCell'=true:=λx hx=>ZA z2 len x (by simpa using hx);have L:(off+len)*z<=S*z:=Ui _ aa;rw[UN]at L;have hst:=run_storeCells_at P bb (off*z) T0 (Builtin.zeroCells O.zero.cells len).toList 0 cs w k1 (by rw[J,WO];omega) l;have I':=I.seg (p:=off) (src:=List.replicate len Q) y H k1 k2 k3 k4 k8 (by exact k10) (λe he=>by rw[(IW.1 he).2];exact hzl) J (Xao B len) l (by rw[WO];exact G) hfz;rw[WO]at I';refine⟨M,β,_,.tuple #[],.inl (start ?_),(by rw[Xj1];exact I'.mono λ_ h=>.inl h),by simp[Rep,RepL],MLe.refl _,BLe.refl _⟩;unfold Builtin.clear_;cases len with
      |zero=>exact absurd rfl R
      |succ len=>simp[run_underlying hu,Z6 hE,hst]
     cases h
    cases h
   cases h
  cases h
 .rename_i id v T ts V ht;have⟨W,q,j⟩:=Xbk hρ V;have⟨tl⟩:=types;subst ht;split at h
  .rename_i k E v' k2 A Z y;split at h
   .rename_i f;have⟨rfl,rfl⟩:=f;simp only[Wq,Wy]at h;obtain⟨rfl,rfl,rfl⟩:=h;obtain⟨K,hT1,hT2⟩:=ZL Z;simp only[Rep]at j;obtain⟨b,S,hb,rfl⟩:=j;obtain⟨x0,g,r⟩:=I.obs id v _ y;rw[hb]at g;obtain rfl:some (b,S)=x0:=by simpa using g
    obtain⟨rfl,h1,h2,ents,clock,h3,h4,h5,h6⟩:=r;have start:(execOp ρ ⟨dst,.call ⟨.builtin .clear,args,⟨T::ts⟩⟩,type,pos,after,guard⟩).run P w=.ok (.value (.tuple #[])) {w with heap:=w.heap.setIfInBounds b (.map #[] clock)}:=by
     have:(Builtin.clear_ ⟨T::ts⟩ type #[.map (some b)]).run P w=.ok (.tuple #[]) {w with heap:=w.heap.setIfInBounds b (.map #[] clock)}:=by unfold Builtin.clear_;simp[run_underlying hT1,Go.MapKept.run_getObj_map h3,Go.MapKept.run_setObj_map _ h3]
     simp[execOp,resolve,invoke,builtin,q,this]
    refine⟨M,β,_,.tuple #[],.inl start,?_,by simp[Rep,RepL],MLe.refl _,BLe.refl _⟩;exact(I.setMap (es':=[]) (ents':=#[]) y hb h3 (UY _) rfl ab ab).mono λ_ h=>.inl h
   cases h
  cases h
 simp_all
def Xop(I:Ij P C s U M β w){dst:Option Tmp}{type:TypeId}{pos:String}{after:Array Edge}{guard:Option (Nat×Bool)}(ρ:Operand->Value)(t:Operand->D)(hρ:∀x,Rep P M β (t x) (ρ x)){c:Prop}{d:D}{u:Up}(args:Array Operand)(types:Array TypeId)(h:opF P dst ver t s (.call ⟨.builtin .copy,args,types⟩)=some (c,d,u))(hc:c):OpOK P C s u U ver M β ((execOp ρ ⟨dst,.call ⟨.builtin .copy,args,types⟩,type,pos,after,guard⟩).run P w) d:=by
 simp only[opF]at h;split at h
 .rename_i id v z off len x T L ha ht;have⟨v1,v2,O,Q,R⟩:=VW hρ ha;have⟨types⟩:=types;subst ht;split at h
  .rename_i a b zz E sz hT;split at h
   .rename_i te v' E' z' H fz c0 src hE J S;split at h
    .rename_i l;have⟨rfl,rfl,rfl,hz⟩:=l;obtain⟨rfl,rfl,rfl⟩:=h;have⟨V,q,r,W⟩:=hc;have⟨hu,hcz⟩:=X9 hT;obtain⟨base,cap2,vals,rfl,e1,y,e3,e4,e5,e6⟩:=Xgn I S V R;have Y:(Builtin.firstCells te.size src.length (.slice base src.length cap2)).run P w=.ok vals.toArray w:=by
      cases base with
      |none=>have hm:=e3 rfl;have:vals=[]:=WZ (by rw[y,hm,Nat.zero_mul]);subst this;simp[Builtin.firstCells]
      |some a=>exact run_firstCells_some (P:=P) w te.size src.length a src.length cap2 vals (by rw[hz];exact y) (λj v hj=>e4 a rfl j v hj)
     have start:∀{w' Z},(Builtin.copy_ ⟨T::L⟩ type #[v1,.slice base src.length cap2]).run P w=.ok Z w'->(execOp ρ ⟨dst,.call ⟨.builtin .copy,args,⟨T::L⟩⟩,type,pos,after,guard⟩).run P w=.ok (.value Z) w':=by intro w' Z hk;simp[execOp,resolve,invoke,builtin,O,hk]
     have hl47:src.length<=140737488355328:=by
      have:=(I.obs id v _ J)
      obtain⟨x0,_,f⟩:=this;cases x0 with
      |none=>obtain⟨_,h2,_⟩:=f;subst h2;simp at r;omega
      |some bc=>obtain⟨_,_,_,_,_,_,h5,_⟩:=f;simp only[Xw]at h5;omega
     have g:Rep P M β (.v (.int .i64 (src.length:Int))) (goInt src.length):=ZS _ _ ⟨by show(-9223372036854775808:Int)<=_;omega,by show _<=(9223372036854775807:Int);omega⟩;have hn:Nat.min src.length len=src.length:=Nat.min_eq_left q;have nil:∀{a cap},src=[]->v1=.slice a len cap->OpOK P C s [(id,v,.arr false E' z (H.take off++src++H.drop (off+src.length)) fz)] U ver M β ((execOp ρ ⟨dst,.call ⟨.builtin .copy,args,⟨T::L⟩⟩,type,pos,after,guard⟩).run P w) (.v (.int .i64 (src.length:Int))):=by
      intro a cap K h1;subst h1;have hv0:vals=[]:=WZ (by rw[y,K];simp);have same:upd s id (some (v,.arr false E' z (H.take off++src++H.drop (off+src.length)) fz))=s:=by
       funext i;unfold upd;split
       .rename_i e;subst e;rw[J,K];simp
       rfl
      refine⟨M,β,w,goInt src.length,.inl (start ?_),?_,g,MLe.refl _,BLe.refl _⟩
      .unfold Builtin.copy_;rw[hv0]at Y;cases a<;>simp[run_underlying hu,Builtin.lenOf,hn,YP hE,Y,storeCells]
      rw[Xj1,same];exact I.mono λ_ h=>.inl h
     have⟨x0,A,f⟩:=I.obs id v _ J;rcases Q with⟨hn0,h1,h2,a,rfl⟩|⟨bb,cb,o,cap,B,rfl,hcap,hcb,ho⟩
     .subst h2;exact nil (WZ aa) rfl
     rw[B]at A;obtain rfl:some (bb,cb)=x0:=by simpa using A
     have⟨cs,T0,k1,k2,k3,k4,k5,k6,k7,k8,k9,k10⟩:=f;by_cases K:src.length=0
     .exact nil (WZ K) rfl
     have ho':o=off*z:=by rcases ho with h|h;exact h;omega
     subst ho';have G:(off+src.length)*z<=cb*z:=Ui _ aa;rw[UN]at G;have hst:=run_storeCells_at P bb (off*z) T0 vals 0 cs w k1 (by rw[y];omega) e6;have I':=I.seg (p:=off) (src:=src) J B k1 k2 k3 k4 k8 (by exact k10) e1 y e5 e6 aa W;refine⟨M,β,_,goInt src.length,.inl (start ?_),(by rw[Xj1];exact I'.mono λ_ h=>.inl h),g,MLe.refl _,BLe.refl _⟩;unfold Builtin.copy_;simp[run_underlying hu,Builtin.lenOf,hn,YP hE,Y,hst]
    cases h
   cases h
  cases h
 simp_all
def Vs{t:TypeId}{ty:OL}(h:Xt P t=some ty)(f:¬ty.isIface=true):∃d,P.underlying t=some d/\∀m,d≠.interface m:=by have⟨i,d,_,g,_,_,_,j⟩:=Yj h;refine⟨d,g,λm e=>f ?_⟩;subst e;unfold OL.isIface;rw[←j];rfl
def XbV(I:Ij P C s U M β w)(_hv:¬U ver){dst:Option Tmp}{type:TypeId}{pos:String}{after:Array Edge}{guard:Option (Nat×Bool)}(ρ:Operand->Value)(t:Operand->D)(hρ:∀x,Rep P M β (t x) (ρ x)){c:Prop}{d:D}{u:Up}(T:TypeId)(x:Operand)(h:opF P dst ver t s (.makeInterface T x)=some (c,d,u))(o:c):OpOK P C s u U ver M β ((execOp ρ ⟨dst,(.makeInterface T x),type,pos,after,guard⟩).run P w) d:=by
 unfold execOp;simp only[opF]at h;split at h
 .rename_i ty f;split at h
  .cases h
  rename_i g;obtain⟨rfl,rfl,rfl⟩:=h;have⟨j,l,e⟩:=Vs f g;refine .val I (v:=.iface T (ρ x)) ?_ ?_
  .cases j<;>first|exact absurd rfl (e _)|simp[Instr.makeInterface,run_underlying l]
  exact⟨_,rfl,hρ x⟩
 simp_all
def Xeq(I:Ij P C s U M β w)(_hv:¬U ver){dst:Option Tmp}{type:TypeId}{pos:String}{after:Array Edge}{guard:Option (Nat×Bool)}(ρ:Operand->Value)(t:Operand->D)(hρ:∀x,Rep P M β (t x) (ρ x)){c:Prop}{d:D}{u:Up}(x:Operand)(xT A:TypeId)(ok:Bool)(h:opF P dst ver t s (.typeAssert x xT A ok)=some (c,d,u))(E:c):OpOK P C s u U ver M β ((execOp ρ ⟨dst,(.typeAssert x xT A ok),type,pos,after,guard⟩).run P w) d:=by
 unfold execOp;simp only;simp only[opF]at h;have j:=hρ x;split at h
 .rename_i p T G g q;rw[q]at j;split at h
  .cases h
  rename_i r;have⟨l,o,f⟩:=Vs g r;have⟨y,z,B⟩:=j;split at h
  .rename_i e;obtain⟨rfl,rfl,rfl⟩:=h;refine .val I (v:=.tuple #[y,.bool true]) ?_ ?_
   .rw[z];cases l<;>first|exact absurd rfl (f _)|simp[Instr.typeAssert,run_underlying o,e]
   exact⟨_,rfl,_,_,rfl,B,_,_,rfl,⟨rfl,trivial⟩,rfl⟩
  rename_i e;obtain⟨rfl,rfl,rfl⟩:=h;refine .val I (v:=.tuple #[p.zero,.bool false]) ?_ ?_
  .rw[z];cases l<;>first|exact absurd rfl (f _)|simp[Instr.typeAssert,run_underlying o,e,Z6 g]
  exact⟨_,rfl,_,_,rfl,Vo _,_,_,rfl,⟨rfl,trivial⟩,rfl⟩
 .rename_i p g q;rw[q]at j;split at h
  .cases h
  rename_i r;have⟨l,o,f⟩:=Vs g r;simp only[Wq,Wy]at h;obtain⟨rfl,rfl,rfl⟩:=h;refine .val I (v:=.tuple #[p.zero,.bool false]) ?_ ?_
  .rw[j.1];cases l<;>first|exact absurd rfl (f _)|simp[Instr.typeAssert,run_underlying o,Z6 g]
  simp only[Rep,RepL];exact⟨_,rfl,_,_,rfl,Vo _,_,_,rfl,⟨rfl,trivial⟩,rfl⟩
 simp_all
def Xlx(I:Ij P C s U M β w)(p:¬U ver)(o:Oper)(ρ:Operand->Value)(t:Operand->D)(hρ:∀x,Rep P M β (t x) (ρ x))(q:∀v,ρ (.const v)=v){c:Prop}{d:D}{u:Up}(h:opF P o.dst ver t s o.op=some (c,d,u))(j:c):OpOK P C s u U ver M β ((execOp ρ o).run P w) d:=by
 have⟨dst,op,type,pos,after,guard⟩:=o;cases op with
 |move x=>exact Xol I p ρ t hρ x h j
 |assign x=>exact Xj6 I p ρ t hρ x h j
 |pick g a b=>exact Xom I p ρ t hρ g a b h j
 |alloc T=>exact Xlp I p ρ t hρ T h j
 |box T x=>exact XqU I p ρ t hρ T x h j
 |build T parts=>exact Xlq I p ρ t hρ T parts h j
 |buildSlice T n parts=>exact Xep I p ρ t hρ T n parts h j
 |load T a=>exact Xon I p ρ t hρ T a h j
 |store T a x=>exact Xlr I p ρ t hρ T a x h j
 |nilCheck x=>exact Xgr I p ρ t hρ x h j
 |binOp op T x y z=>exact Xls I p ρ t hρ op T x y z (λv e=>by simp_all) h j
 |unOp op T x=>exact Xoo I p ρ t hρ op T x h j
 |convert S T x=>exact XhX I p ρ t hρ S T x h j
 |makeFunc fn first captured=>exact Xgs I p ρ t hρ fn first captured h j
 |makeSlice T l B=>exact Xfv I p ρ t hρ T l B h j
 |slice T x lo E mx=>exact Xlt I p ρ t hρ T x lo E mx h j
 |fieldAddr T x f=>exact Xfw I p ρ t hρ T x f h j
 |field T x f=>exact Xlu I p ρ t hρ T x f h j
 |indexAddr T x ix=>exact Xfx I p ρ t hρ T x ix h j
 |index T x ix=>exact Xlv I p ρ t hρ T x ix h j
 |makeMap T r=>exact XhV I p ρ t hρ T r h j
 |mapUpdate T m k x=>exact Xfu I p ρ t hρ T m k x h j
 |insert T m k x=>exact Xj4 I p ρ t hρ T m k x h j
 |lookup T m k ok=>exact Xj5 I p ρ t hρ T m k ok h j
 |mapEntry T m k=>exact Xgq I p ρ t hρ T m k h j
 |entryStore T m e x=>exact Xeo I p ρ t hρ T m e x h j
 |extract x i=>exact XhY I p ρ t hρ x i h j
 |makeInterface T x=>exact XbV I p ρ t hρ T x h j
 |typeAssert x xT A ok=>exact Xeq I p ρ t hρ x xT A ok h j
 |call cl=>
  have⟨callee,args,types⟩:=cl;cases callee with
  |value f=>simp_all[opF]
  |invoke r m=>simp_all[opF]
  |builtin b=>
   cases b with
   |len=>exact XqV I ρ t hρ args types h j
   |delete=>exact Xj9 I ρ t hρ args types h j
   |clear=>exact Xlw I ρ t hρ args types h j
   |copy=>exact Xop I ρ t hρ args types h j
   |cap=>exact XqW I ρ t hρ args types h j
   |min=>exact XqX I ρ t hρ args types h j
   |max=>exact XqY I ρ t hρ args types h j
   |append=>exact Xka I p ρ t hρ args types h j
   |_=>simp[opF]at h
 |_=>simp[opF]at h
end
variable {P:Program}
structure St where
 t:Nat->D
 s:Heap
 n:Nat
 k:Nat
def Rel(P:Program)(C:Cx)(st:St)(a:Act)(w:World):Prop:=
 a.defers=C.df/\a.tmps.size=st.n/\∃M β,BLe C.b0 β/\(∀x,Rep P M β (st.t x) (a.tmps.getD x undef))/\Ij P C st.s (·<st.k) M β w
def Xde{C:Cx}{s:Heap}{U:Nat->Prop}{M:Mem}{β:Loc}{w:World}(I:Ij P C s U M β w){t:Nat->D}{a:Act}(h:∀x,Rep P M β (t x) (a.tmps.getD x undef))(x:Operand):
 Rep P M β (ev t C.G x) (a.eval x):=by
 cases x with
 |tmp i=>exact h i
 |const v=>exact Vo v
 |global g=>
  simp only[ev,Act.eval];split
  .rename_i j e;simp only[Rep];exact⟨trivial,g,0,rfl,RepC.mono I.le (I.glob g j e)⟩
  simp[Rep]
 |func f=>simp[ev,Act.eval,Rep,RepL]
def LB:Nat:=1000000
def KW(lb:List (Nat×Nat)):Loc:=λid v=>if v=0/\LB<=id then(lb[id-LB]?).map some else none
def Ju(ls:List Ob):Heap:=λid=>if LB<=id then(ls[id-LB]?).map (λo=>(0,o))else none
mutual
def FrRep(P:Program)(M:Mem)(w:World)(B:Nat):D->Value->List (Option (Nat×Nat))->Prop
 |.fsl E z f,y,l=>(l=[none]/\f=[]/\∃a,y=.slice a 0 0) \/
  ∃b h o,l=[some (b,h)]/\B<=b/\y=.slice (some ⟨b,o,none⟩) f.length h/\(o=0\/h=0)/\ObRep P M YH w (some (b,h)) (.arr false E z f 0)
 |.fmp k j e,y,l=>∃b,l=[some (b,0)]/\B<=b/\y=.map (some b)/\j.length=e.length/\ObRep P M YH w (some (b,0)) (.mp k (j.zip e))
 |.agg g,y,l=>∃e,y=.agg ⟨e⟩/\FrRepL P M w B g e l
 |.tup g,y,l=>∃e,y=.tuple ⟨e⟩/\FrRepL P M w B g e l
 |.ifc t d,y,l=>∃x,y=.iface t x/\FrRep P M w B d x l
 |.clo fn a b,y,l=>∃p q,y=.func fn ⟨p⟩ ⟨q⟩/\∃r u,l=r++u/\FrRepL P M w B a p r/\FrRepL P M w B b q u
 |.any,_,l=>l=[]
 |.v x,y,l=>l=[]/\Rep P M YH (.v x) y
 |.nsl,y,l=>l=[]/\Rep P M YH .nsl y
 |.isl E z f,y,l=>l=[]/\Rep P M YH (.isl E z f) y
 |.ipt z g c,y,l=>l=[]/\Rep P M YH (.ipt z g c) y
 |_,_,_=>False
def FrRepL(P:Program)(M:Mem)(w:World)(B:Nat):List D->List Value->List (Option (Nat×Nat))->Prop
 |[],e,l=>e=[]/\l=[]
 |d::j,e,l=>∃x f g h,e=x::f/\l=g++h/\FrRep P M w B d x g/\FrRepL P M w B j f h
end
def X1(l:List (Option (Nat×Nat))):List Nat:=l.filterMap (·.map (·.1))
def Xoq(P:Program)(M:Mem)(w:World)(lb:List (Nat×Nat))(R:D->List Ob->Prop)(e:Ending)(w':World):Prop:=
 ∃v r ls M' l,e=.returned v/\R r ls/\Kp w (lb.map (·.1)) w'/\MemOK M' w'/\(∀b o,b<w.heap.size->M' b o=M b o)/\ls.length=lb.length /\
  (∀(k:Nat)ob x,ls[k]? = some ob->lb[k]? = some x->ObRep P M' YH w' (some x) ob/\ob.bx=true)/\FrRep P M' w' w.heap.size r v l/\(X1 l).Nodup
def ZD(P:Program)(G:Nat->Option (List D))(f:FuncId)(args:List D)(lent:List Ob)(R:D->List Ob->Prop):Prop:=
 (∃fn,P.funcs[f]? = some fn/\fn.body.isNone=false/\(fn.name== "runtime.NumGoroutine")=false) /\
 ∀M w e lb,MemOK M w->(∀g h,G g=some h->RepC P M h g 0)->lb.length=lent.length->(lb.map (·.1)).Nodup ->
  (∀(k:Nat)ob x,lent[k]? = some ob->lb[k]? = some x->ObRep P M YH w (some x) ob/\ob.bx=true)->RepL P M (KW lb) args e->Calls P f ⟨e⟩ w (Xoq P M w lb R)
mutual
def imp(ver:Nat):Nat->D->D×Nat×Up
 |n,.fsl E z f=>(.osl n ver z 0 f.length,n+1,[(n,ver,.arr false E z f 0)])
 |n,.fmp k g h=>(.omp n ver,n+1,[(n,ver,.mp k (g.zip h))])
 |n,.agg e=>let r:=VN ver n e;(.agg r.1,r.2.1,r.2.2)
 |n,.tup e=>let r:=VN ver n e;(.tup r.1,r.2.1,r.2.2)
 |n,.ifc t d=>let r:=imp ver n d;(.ifc t r.1,r.2.1,r.2.2)
 |n,.clo fn a b=>let r:=VN ver n a;let q:=VN ver r.2.1 b;(.clo fn r.1 q.1,q.2.1,r.2.2++q.2.2)
 |n,d=>(d,n,[])
def VN(ver:Nat):Nat->List D->List D×Nat×Up
 |n,[]=>([],n,[])
 |n,d::e=>let r:=imp ver n d;let q:=VN ver r.2.1 e;(r.1::q.1,q.2.1,r.2.2++q.2.2)
end
section
variable {C:Cx}{U:Nat->Prop}{M:Mem}{w:World}{ver:Nat}
def XhZ(s:Heap)(β:Loc)(l:List Nat):Prop:=∀b∈l,∀id v ob e,s id=some (v,ob)->β id v≠some (some (b,e))
structure OY(P:Program)(C:Cx)(s:Heap)(U:Nat->Prop)(M:Mem)(β:Loc)(w:World)(ver n n':Nat)(u:Up)(l:List (Option (Nat×Nat)))(β':Loc):Prop where
 inv:Ij P C (app s u) (λv=>U v\/v=ver) M β' w
 le:BLe β β'
 next:n<=n'
 high:∀i,n'<=i->β' i ver=none
 free:∀l',XhZ s β l'->(∀b∈l',b∉X1 l)->XhZ (app s u) β' l'
def OY.nil{s:Heap}{β:Loc}(I:Ij P C s U M β w){n:Nat}(e:∀i,n<=i->β i ver=none):OY P C s U M β w ver n n [] [] β:=
 ⟨I.mono λ_ h=>.inl h,BLe.refl _,Uu _,e,λ_ h _=>h⟩
def ObRep.row{b e:Nat}{ob:Ob}(h:ObRep P M YH w (some (b,e)) ob)(hb:ob.bx=false)(β:Loc):ObRep P M β w (some (b,e)) ob:=by
 cases ob with
 |mp kk f=>exact h
 |raw o=>exact h
 |arr bx E z f fz=>have:bx=false:=hb;subst this;exact h
def Ya(e l2:List (Option (Nat×Nat))):X1 (e++l2)=X1 e++X1 l2:=by simp[X1]
mutual
def imp_ok{B:Nat}(Z:C.w0.heap.size<=B):∀(d:D) (y:Value) (l:List (Option (Nat×Nat))) (n:Nat) {s:Heap} {U:Nat->Prop} {β:Loc},Ij P C s U M β w->(∀i,n<=i->β i ver=none)->FrRep P M w B d y l->(X1 l).Nodup->XhZ s β (X1 l) ->
 ∃β',OY P C s U M β w ver n (imp ver n d).2.1 (imp ver n d).2.2 l β'/\Rep P M β' (imp ver n d).1 y
 |.fsl E z es,y,l,n,s,U,β,I,p,f,e,r=>by
  simp only[imp];have G:β n ver=none:=p n (Uu _);rcases f with⟨rfl,rfl,a,rfl⟩|⟨b,S,o,rfl,hb,rfl,ho,O⟩
  .refine⟨ZJ β n ver none,⟨I.setNil n ver E z (Zn G) (XP ..) Zy,Zn G,aa,λi h=>?_,λl' h _=>?_⟩,?_⟩
   .unfold ZJ;grind
   .intro b hb id v ob S K j;by_cases L:id=n
    .subst L;have A:some (ver,Ob.arr false E z [] 0)=some (v,ob):=by rw[←K];show _=upd s id _ id;rw[YO]
     simp_all[XP]
    have A:s id=some (v,ob):=by rw[←K];show _=upd s n _ id;rw[Yi _ _ _ _ L]
    have u:β id v=some (some (b,S)):=by unfold ZJ at j;rw[Wg (λh=>L h.1)]at j;exact j
    exact h b hb id v ob S A u
   exact .inl ⟨XP ..,ab⟩
  have H:∀q Q J g,q≠n->s q=some (Q,J)->β q Q≠some (some (b,g)):=λq Q J g _ K=>r b (by simp[X1]) q Q J g K;have hob':=O;have⟨cs,T,k1,k2,k3,k4,k5,k6,k7,k8,k9,k10⟩:=hob';have I':=I.set (M':=M) (β':=ZJ β n ver (some (b,S))) (w':=w) n ver (.arr false E z es 0) b S (MLe.refl _) (Zn G) (λ_ _=>rfl) (λ_ _ _=>rfl) (λo x j=>I.mem b o x j) (XP ..) (O.row rfl _) H (.inl aa) (λ_ _=>rfl) rfl rfl rfl (Uu _) Zy;refine⟨ZJ β n ver (some (b,S)),⟨I',Zn G,aa,λi h=>?_,λl' h hl=>?_⟩,?_⟩
  .unfold ZJ;grind
  .intro b' V id v ob g K j;by_cases L:id=n
   .subst L;have A:some (ver,Ob.arr false E z es 0)=some (v,ob):=by rw[←K];show _=upd s id _ id;rw[YO]
    grind[XP,X1]
   have A:s id=some (v,ob):=by rw[←K];show _=upd s n _ id;rw[Yi _ _ _ _ L]
   have u:β id v=some (some (b',g)):=by unfold ZJ at j;rw[Wg (λh=>L h.1)]at j;exact j
   exact h b' V id v ob g A u
  exact .inr ⟨b,S,o,S,XP ..,rfl,k4,ab,aa⟩
 |.fmp k ks W,y,l,n,s,U,β,I,p,f,e,r=>by
  simp only[imp];have G:β n ver=none:=p n (Uu _);obtain⟨b,rfl,hb,rfl,hlen,O⟩:=f;have H:∀q Q J g,q≠n->s q=some (Q,J)->β q Q≠some (some (b,g)):=λq Q J g _ K=>r b (by simp[X1]) q Q J g K;have I':=I.set (M':=M) (β':=ZJ β n ver (some (b,0))) (w':=w) n ver (.mp k (ks.zip W)) b 0 (MLe.refl _) (Zn G) (λ_ _=>rfl) (λ_ _ _=>rfl) (λo x j=>I.mem b o x j) (XP ..) (O.row rfl _) H (.inl aa) (λ_ _=>rfl) rfl rfl rfl (Uu _) Zy;refine⟨ZJ β n ver (some (b,0)),⟨I',Zn G,aa,λi h=>?_,λl' h hl=>?_⟩,?_⟩
  .unfold ZJ;grind
  .intro b' V id v ob g K j;by_cases L:id=n
   .subst L;have A:some (ver,Ob.mp k (ks.zip W))=some (v,ob):=by rw[←K];show _=upd s id _ id;rw[YO]
    grind[XP,X1]
   have A:s id=some (v,ob):=by rw[←K];show _=upd s n _ id;rw[Yi _ _ _ _ L]
   have u:β id v=some (some (b',g)):=by unfold ZJ at j;rw[Wg (λh=>L h.1)]at j;exact j
   exact h b' V id v ob g A u
  exact⟨b,0,XP ..,rfl⟩
 |.agg cs,y,l,n,s,U,β,I,p,f,e,r=>by obtain⟨W,rfl,f⟩:=f;have⟨β',R,h2⟩:=Xbl Z cs W l n I p f e r;grind[imp,Rep]
 |.tup cs,y,l,n,s,U,β,I,p,f,e,r=>by obtain⟨W,rfl,f⟩:=f;have⟨β',R,h2⟩:=Xbl Z cs W l n I p f e r;grind[imp,Rep]
 |.ifc t d,y,l,n,s,U,β,I,p,f,e,r=>by obtain⟨x,rfl,f⟩:=f;have⟨β',R,h2⟩:=imp_ok Z d x l n I p f e r;grind[imp,Rep]
 |.clo fn a b,y,l,n,s,U,β,I,p,f,e,r=>by
  obtain⟨va,vb,rfl,l1,l2,rfl,hr1,hr2⟩:=f;rw[Ya,U6]at e;rw[Ya]at r;have⟨β1,R,h2⟩:=Xbl Z a va l1 n I p hr1 e.1 (λx j=>r x (WX _ j));have hf2:XhZ (app s (VN ver n a).2.2) β1 (X1 l2):=R.free _ (λx j=>r x (Uy _ j)) (λx j u=>e.2.2 x u x j rfl);have⟨β2,Y,h4⟩:=Xbl Z b vb l2 (VN ver n a).2.1 R.inv R.high hr2 e.2.1 hf2;refine⟨β2,⟨?_,R.le.trans Y.le,Ii R.next Y.next,Y.high,λl' hl' hb=>?_⟩,?_⟩
  .simp only[imp];rw[Zo];exact Y.inv.mono λv hv=>by simp_all
  .simp only[imp];rw[Zo];refine Y.free _ (R.free _ hl' λx j u=>hb x j ?_) λx j u=>hb x j ?_
   .rw[Ya];exact WX _ u
   simp_all[Ya]
  exact⟨va,vb,rfl,h2.mono (MLe.refl _) Y.le,h4⟩
 |.any,y,l,n,s,U,β,I,p,f,e,r=>by subst f;exact⟨β,.nil I p,by simp[imp,Rep]⟩
 |.v x,y,l,n,s,U,β,I,p,f,e,r=>by obtain⟨rfl,f⟩:=f;exact⟨β,.nil I p,f.mono (MLe.refl _) (BLe.zero _)⟩
 |.nsl,y,l,n,s,U,β,I,p,f,e,r=>by obtain⟨rfl,f⟩:=f;exact⟨β,.nil I p,f.mono (MLe.refl _) (BLe.zero _)⟩
 |.isl E z es,y,l,n,s,U,β,I,p,f,e,r=>by obtain⟨rfl,f⟩:=f;exact⟨β,.nil I p,f.mono (MLe.refl _) (BLe.zero _)⟩
 |.ipt z cs c,y,l,n,s,U,β,I,p,f,e,r=>by obtain⟨rfl,f⟩:=f;exact⟨β,.nil I p,f.mono (MLe.refl _) (BLe.zero _)⟩
 |.osl ..,y,l,n,s,U,β,I,p,f,e,r=>by simp_all[FrRep]
 |.ept ..,y,l,n,s,U,β,I,p,f,e,r=>by simp_all[FrRep]
 |.omp ..,y,l,n,s,U,β,I,p,f,e,r=>by simp_all[FrRep]
def Xbl{B:Nat}(E:C.w0.heap.size<=B):∀(h:List D) (p:List Value) (l:List (Option (Nat×Nat))) (n:Nat) {s:Heap} {U:Nat->Prop} {β:Loc},Ij P C s U M β w->(∀i,n<=i->β i ver=none)->FrRepL P M w B h p l->(X1 l).Nodup->XhZ s β (X1 l) ->
 ∃β',OY P C s U M β w ver n (VN ver n h).2.1 (VN ver n h).2.2 l β'/\RepL P M β' (VN ver n h).1 p
 |[],p,l,n,s,U,β,I,r,t,e,q=>by obtain⟨rfl,rfl⟩:=t;exact⟨β,.nil I r,by rfl⟩
 |d::h,p,l,n,s,U,β,I,r,t,e,q=>by
  obtain⟨x,G,J,H,rfl,rfl,u,y⟩:=t;rw[Ya,U6]at e;rw[Ya]at q;have⟨β1,j,K⟩:=imp_ok E d x J n I r u e.1 (λx f=>q x (WX _ f));have z:XhZ (app s (imp ver n d).2.2) β1 (X1 H):=j.free _ (λx f=>q x (Uy _ f)) (λx f g=>e.2.2 x g x f rfl);have⟨β2,o,L⟩:=Xbl E h G H (imp ver n d).2.1 j.inv j.high y e.2.1 z;refine⟨β2,⟨?_,j.le.trans o.le,Ii j.next o.next,o.high,λO A hb=>?_⟩,?_⟩
  .simp only[VN];rw[Zo];exact o.inv.mono λv Q=>by simp_all
  .simp only[VN];rw[Zo];refine o.free _ (j.free _ A λx f g=>hb x f ?_) λx f g=>hb x f ?_
   .rw[Ya];exact WX _ g
   simp_all[Ya]
  exact⟨x,G,rfl,K.mono (MLe.refl _) o.le,L⟩
end
end
variable {P:Program}
def pos:List Nat->Nat->Option Nat
 |[],_=>none
 |x::l,i=>if x=i then some 0 else(pos l i).map (·+1)
def Xi2:∀{l:List Nat} {i j:Nat},pos l i=some j->l[j]? = some i
 |[],i,j,h=>by simp_all[pos]
 |x::l,i,j,h=>by
  unfold pos at h;split at h
  .grind
  simp at h;obtain⟨k,e,rfl⟩:=h;simpa using Xi2 e
def Xgt:∀{l:List Nat} {i:Nat},pos l i=none->i∉l
 |[],i,_=>by simp
 |x::l,i,h=>by
  unfold pos at h;split at h
  .grind
  rename_i f;simp at h;simp;exact⟨λe=>f e.symm,Xgt h⟩
mutual
def lend(s:Heap):List Nat->D->Option (Prop×D×List Nat×List Nat)
 |ls,.ept id ver z i c=>match s id with
  |some (g,.arr true _ q [_] _)=>if ver=g/\z=q/\i=0 then
   match pos ls id with
   |some j=>some (True,.ept (LB+j) 0 z 0 c,ls,[])
   |none=>some (True,.ept (LB+ls.length) 0 z 0 c,ls++[id],[])
   else none
  |_=>none
 |ls,.agg o=>match ZZ s ls o with
  |some (c,p,f,l)=>some (c,.agg p,f,l)
  |none=>none
 |ls,.tup o=>match ZZ s ls o with
  |some (c,p,f,l)=>some (c,.tup p,f,l)
  |none=>none
 |ls,.clo fn a b=>match ZZ s ls a with
  |some (c,r,f,l)=>match ZZ s f b with
   |some (u,x,h,y)=>some (c/\u,.clo fn r x,h,l++y)
   |none=>none
  |none=>none
 |ls,.ifc t d=>match lend s ls d with
  |some (c,e,f,l)=>some (c,.ifc t e,f,l)
  |none=>none
 |ls,d=>match snap s d with
  |some (c,e,l)=>some (c,e,ls,l)
  |none=>none
def ZZ(s:Heap):List Nat->List D->Option (Prop×List D×List Nat×List Nat)
 |ls,[]=>some (True,[],ls,[])
 |ls,d::h=>match lend s ls d with
  |some (c,e,g,l)=>match ZZ s g h with
   |some (j,o,f,p)=>some (c/\j,e::o,f,l++p)
   |none=>none
  |none=>none
end
mutual
def lend_prefix{s:Heap}:∀{d f:D} {ls e:List Nat} {c:Prop} {l:List Nat},lend s ls d=some (c,f,e,l)->ls <+:e
 |.ept id ver z i k,f,ls,e,c,l,h=>by unfold lend at h;grind
 |.agg j,f,ls,e,c,l,h=>by
  unfold lend at h;split at h
  .rename_i g;obtain⟨_,_,rfl,_⟩:=h;exact Zp g
  simp_all
 |.tup j,f,ls,e,c,l,h=>by
  unfold lend at h;split at h
  .rename_i g;obtain⟨_,_,rfl,_⟩:=h;exact Zp g
  simp_all
 |.clo fn a b,f,ls,e,c,l,h=>by
  unfold lend at h;split at h
  .rename_i o;split at h
   .rename_i p;obtain⟨_,_,rfl,_⟩:=h;exact(Zp o).trans (Zp p)
   cases h
  simp_all
 |.ifc t d,f,ls,e,c,l,h=>by
  unfold lend at h;split at h
  .rename_i g;obtain⟨_,_,rfl,_⟩:=h;exact lend_prefix g
  simp_all
 |.osl id ver z off len,f,ls,e,c,l,h=>by unfold lend at h;grind
 |.any,f,ls,e,c,l,h=>by unfold lend at h;grind
 |.v x,f,ls,e,c,l,h=>by unfold lend at h;grind
 |.nsl,f,ls,e,c,l,h=>by unfold lend at h;grind
 |.isl E z q,f,ls,e,c,l,h=>by unfold lend at h;grind
 |.ipt z j k,f,ls,e,c,l,h=>by unfold lend at h;grind
 |.fsl E z q,f,ls,e,c,l,h=>by unfold lend at h;grind
 |.fmp k r u,f,ls,e,c,l,h=>by unfold lend at h;grind
 |.omp id ver,f,ls,e,c,l,h=>by unfold lend at h;grind
def Zp{s:Heap}:∀{g f:List D} {ls e:List Nat} {c:Prop} {l:List Nat},ZZ s ls g=some (c,f,e,l)->ls <+:e
 |[],f,ls,e,c,l,h=>by simp_all[ZZ,Wq,Wy]
 |d::g,f,ls,e,c,l,h=>by
  unfold ZZ at h;split at h
  .rename_i j;split at h
   .rename_i o;obtain⟨_,_,rfl,_⟩:=h;exact(lend_prefix j).trans (Zp o)
   cases h
  simp_all
end
def Xdf(s:Heap)(ls:List Nat):Prop:=ls.Nodup/\∀id∈ls,∃v E z e fz,s id=some (v,.arr true E z [e] fz)
mutual
def lend_boxes{s:Heap}:∀{d f:D} {ls e:List Nat} {c:Prop} {l:List Nat},lend s ls d=some (c,f,e,l)->Xdf s ls->Xdf s e
 |.ept id ver z i k,f,ls,e,c,l,h=>by
  intro hb;unfold lend at h;split at h
  .rename_i q;split at h
   .split at h
    .obtain⟨_,_,rfl,_⟩:=h;exact hb
    rename_i hp;obtain⟨_,_,rfl,_⟩:=h;refine⟨U6.2 ⟨hb.1,ab,λx g y o=>?_⟩,λx g=>?_⟩
    .simp at o;subst o;rintro rfl;exact Xgt hp g
    simp at g;rcases g with g|rfl
    .exact hb.2 x g
    exact⟨_,_,_,_,_,q⟩
   cases h
  simp_all
 |.agg p,f,ls,e,c,l,h=>by
  unfold lend at h;split at h
  .rename_i j;obtain⟨_,_,rfl,_⟩:=h;exact Zk j
  simp_all
 |.tup p,f,ls,e,c,l,h=>by
  unfold lend at h;split at h
  .rename_i j;simp only[Wq,Wy]at h;obtain⟨_,_,rfl,_⟩:=h;exact Zk j
  simp_all
 |.clo fn a b,f,ls,e,c,l,h=>by
  unfold lend at h;split at h
  .rename_i r;split at h
   .rename_i u;simp only[Wq,Wy]at h;obtain⟨_,_,rfl,_⟩:=h;exactλhb=>Zk u (Zk r hb)
   cases h
  simp_all
 |.ifc t d,f,ls,e,c,l,h=>by
  unfold lend at h;split at h
  .rename_i j;simp only[Wq,Wy]at h;obtain⟨_,_,rfl,_⟩:=h;exact lend_boxes j
  simp_all
 |.osl id ver z off len,f,ls,e,c,l,h=>by unfold lend at h;grind
 |.any,f,ls,e,c,l,h=>by unfold lend at h;grind
 |.v x,f,ls,e,c,l,h=>by unfold lend at h;grind
 |.nsl,f,ls,e,c,l,h=>by unfold lend at h;grind
 |.isl E z A,f,ls,e,c,l,h=>by unfold lend at h;grind
 |.ipt z p k,f,ls,e,c,l,h=>by unfold lend at h;grind
 |.fsl E z A,f,ls,e,c,l,h=>by unfold lend at h;grind
 |.fmp k B G,f,ls,e,c,l,h=>by unfold lend at h;grind
 |.omp id ver,f,ls,e,c,l,h=>by unfold lend at h;grind
def Zk{s:Heap}:∀{g f:List D} {ls e:List Nat} {c:Prop} {l:List Nat},ZZ s ls g=some (c,f,e,l)->Xdf s ls->Xdf s e
 |[],f,ls,e,c,l,h=>by simp_all[ZZ,Wq,Wy]
 |d::g,f,ls,e,c,l,h=>by
  unfold ZZ at h;split at h
  .rename_i j;split at h
   .rename_i o;obtain⟨_,_,rfl,_⟩:=h;exactλhb=>Zk o (lend_boxes j hb)
   cases h
  simp_all
end
section
variable {C:Cx}{s:Heap}{U:Nat->Prop}{M M':Mem}{β:Loc}{w:World}
def Xfy(s:Heap)(β:Loc)(ls:List Nat)(lb:List (Nat×Nat)):Prop:=
 ∀(j:Nat)id,ls[j]? = some id->∃v E z e fz x,s id=some (v,.arr true E z [e] fz)/\lb[j]? = some x/\β id v=some (some x)
mutual
def lend_rep(I:Ij P C s U M β w)(u:MLe M M'){lsF:List Nat}{lbF:List (Nat×Nat)}(J:Xfy s β lsF lbF):∀{d r:D} {ls g:List Nat} {c:Prop} {l:List Nat},lend s ls d=some (c,r,g,l)->c->Frz s M' β w l->g <+:lsF ->
 ∀{y:Value},Rep P M β d y->Rep P M' (KW lbF) r y
 |.ept id ver z i k,r,ls,g,c,l,h,o,p,hp,y,f=>by
  have key:∀j,lsF[j]? = some id->i=0->(∃E K fz,s id=some (ver,.arr true E z [K] fz))->Rep P M' (KW lbF) (.ept (LB+j) 0 z 0 k) y:=by
   rintro j T rfl ⟨E,K,fz,R⟩;obtain⟨v',E',z',cs',fz',x,O,hx,hb⟩:=J j id T;rw[R]at O;obtain⟨rfl,_⟩:ver=v'/\_:=by simpa using O
   simp only[Rep]at f⊢;obtain⟨b,Y,Q,rfl⟩:=f;rw[hb]at Q;obtain rfl:x=(b,Y):=by simpa using Q
   exact⟨b,Y,by simp[KW,hx],rfl⟩
  unfold lend at h;split at h
  .rename_i Z E z' K fz R;split at h
   .rename_i G;have⟨rfl,rfl,L⟩:=G;split at h
    .rename_i j T;obtain⟨rfl,rfl,rfl,rfl⟩:=h;refine key j ?_ L ⟨_,_,_,R⟩;have:=Xi2 T;obtain⟨t,rfl⟩:=hp;rw[WU]
     .exact this
     rcases UM j ls.length with h|h
     .exact h
     rw[W3 h]at this;cases this
    obtain⟨rfl,rfl,rfl,rfl⟩:=h;refine key ls.length ?_ L ⟨_,_,_,R⟩;obtain⟨t,rfl⟩:=hp;simp
   cases h
  simp_all
 |.agg K,r,ls,g,c,l,h,o,p,hp,y,f=>by
  unfold lend at h;split at h
  .rename_i A ds H B q;obtain⟨rfl,rfl,rfl,rfl⟩:=h;simp only[Rep]at f⊢;obtain⟨S,e,f⟩:=f;exact⟨S,e,Jl I u J q o p hp f⟩
  simp_all
 |.tup K,r,ls,g,c,l,h,o,p,hp,y,f=>by
  unfold lend at h;split at h
  .rename_i A ds H B q;simp only[Wq,Wy]at h;obtain⟨rfl,rfl,rfl,rfl⟩:=h;simp only[Rep]at f⊢;obtain⟨S,e,f⟩:=f;exact⟨S,e,Jl I u J q o p hp f⟩
  simp_all
 |.clo fn a b,r,ls,g,c,l,h,o,p,hp,y,f=>by
  unfold lend at h;split at h
  .rename_i c1 a' ls1 l1 h1;split at h
   .rename_i c2 b' H l2 h2;simp only[Wq,Wy]at h;obtain⟨rfl,rfl,rfl,rfl⟩:=h;simp only[Rep]at f⊢;obtain⟨va,vb,e,V,W⟩:=f;exact⟨va,vb,e,Jl I u J h1 o.1 (λi L=>p i (WX _ L)) ((Zp h2).trans hp) V,Jl I u J h2 o.2 (λi L=>p i (Uy _ L)) hp W⟩
   cases h
  simp_all
 |.ifc t d,r,ls,g,c,l,h,o,p,hp,y,f=>by
  unfold lend at h;split at h
  .rename_i A e H B q;simp only[Wq,Wy]at h;obtain⟨rfl,rfl,rfl,rfl⟩:=h;simp only[Rep]at f⊢;obtain⟨x,e,f⟩:=f;exact⟨x,e,lend_rep I u J q o p hp f⟩
  simp_all
 |.osl id ver z off len,r,ls,g,c,l,h,o,p,hp,y,f=>by
  unfold lend at h;split at h
  .rename_i A e B q;simp only[Wq,Wy]at h;obtain⟨rfl,rfl,rfl,rfl⟩:=h;exact(snap_rep I u q o p f).mono (MLe.refl _) (BLe.zero _)
  simp_all
 |.any,r,ls,g,c,l,h,o,p,hp,y,f=>by
  unfold lend at h;split at h
  .rename_i A e B q;simp only[Wq,Wy]at h;obtain⟨rfl,rfl,rfl,rfl⟩:=h;exact(snap_rep I u q o p f).mono (MLe.refl _) (BLe.zero _)
  simp_all
 |.v x,r,ls,g,c,l,h,o,p,hp,y,f=>by
  unfold lend at h;split at h
  .rename_i A e B q;simp only[Wq,Wy]at h;obtain⟨rfl,rfl,rfl,rfl⟩:=h;exact(snap_rep I u q o p f).mono (MLe.refl _) (BLe.zero _)
  simp_all
 |.nsl,r,ls,g,c,l,h,o,p,hp,y,f=>by
  unfold lend at h;split at h
  .rename_i A e B q;simp only[Wq,Wy]at h;obtain⟨rfl,rfl,rfl,rfl⟩:=h;exact(snap_rep I u q o p f).mono (MLe.refl _) (BLe.zero _)
  simp_all
 |.isl E z es,r,ls,g,c,l,h,o,p,hp,y,f=>by
  unfold lend at h;split at h
  .rename_i A e B q;simp only[Wq,Wy]at h;obtain⟨rfl,rfl,rfl,rfl⟩:=h;exact(snap_rep I u q o p f).mono (MLe.refl _) (BLe.zero _)
  simp_all
 |.ipt z K k,r,ls,g,c,l,h,o,p,hp,y,f=>by
  unfold lend at h;split at h
  .rename_i A e B q;simp only[Wq,Wy]at h;obtain⟨rfl,rfl,rfl,rfl⟩:=h;exact(snap_rep I u q o p f).mono (MLe.refl _) (BLe.zero _)
  simp_all
 |.fsl E z es,r,ls,g,c,l,h,o,p,hp,y,f=>by simp_all[Rep]
 |.fmp k ks S,r,ls,g,c,l,h,o,p,hp,y,f=>by simp_all[Rep]
 |.omp id ver,r,ls,g,c,l,h,o,p,hp,y,f=>by simp_all[lend,snap]
def Jl(I:Ij P C s U M β w)(y:MLe M M'){lsF:List Nat}{lbF:List (Nat×Nat)}(z:Xfy s β lsF lbF):∀{o f:List D} {ls g:List Nat} {c:Prop} {l:List Nat},ZZ s ls o=some (c,f,g,l)->c->Frz s M' β w l->g <+:lsF ->
 ∀{j:List Value},RepL P M β o j->RepL P M' (KW lbF) f j
 |[],f,ls,g,c,l,h,p,q,hp,j,A=>by simp_all[ZZ,Wq,Wy,RepL]
 |d::o,f,ls,g,c,l,h,p,q,hp,j,A=>by
  unfold ZZ at h;split at h
  .rename_i c1 e E K G;split at h
   .rename_i L O H Q B;obtain⟨rfl,rfl,rfl,rfl⟩:=h;have⟨x,J,e,r,t⟩:=A;exact⟨x,J,e,lend_rep I y z G p.1 (λi u=>q i (WX _ u)) ((Zp B).trans hp) r,Jl I y z B p.2 (λi u=>q i (Uy _ u)) hp t⟩
   cases h
  simp_all
end
end
variable {P:Program}
def Jv(s:Heap):List Nat->Option (Prop×List Ob×List Nat)
 |[]=>some (True,[],[])
 |id::ids=>match s id with
  |some (_,.arr true E z [e] fz)=>match Jr s e,Jv s ids with
   |some (c,f,l),some (g,obs,h)=>some (c/\g,.arr true E z [f] fz::obs,l++h)
   |_,_=>none
  |_=>none
def Z7(s:Heap):List Nat->List Ob->Up
 |id::ids,o::os=>match s id with
  |some (v,_)=>(id,v,o)::Z7 s ids os
  |none=>Z7 s ids os
 |_,_=>[]
section
variable {C:Cx}{s:Heap}{U:Nat->Prop}{M M':Mem}{β:Loc}{w w':World}
def XbW{K:List Nat}(I:Ij P C s U M β w)(hM:MLe M M')(I':Ij P C (frz s K) U M' β w)(t:Frz s M' β w K):∀{ids:List Nat} {c:Prop} {obs:List Ob} {l:List Nat} {lb:List (Nat×Nat)},Jv s ids=some (c,obs,l)->c->(∀x∈l,x∈K)->Xfy s β ids lb->lb.length=ids.length ->
 obs.length=ids.length/\∀(k:Nat)ob x,obs[k]? = some ob->lb[k]? = some x->ObRep P M' YH w (some x) ob/\ob.bx=true
 |[],c,obs,l,lb,h,O,Q,R,f=>by simp_all[Jv,Wq,Wy]
 |id::ids,c,obs,l,lb,h,O,Q,R,f=>by
  unfold Jv at h;split at h
  .rename_i v E z p fz L;split at h
   .rename_i c1 ds l1 c2 obs2 l2 h1 h2;obtain⟨rfl,rfl,rfl⟩:=h;match lb,f with
    |x0::lb,f=>
     have S:Xfy s β ids lb:=λj i hj=>by simpa using R (j+1) i (by simpa using hj)
     have⟨g1,g2⟩:=XbW I hM I' t h2 O.2 (λx g=>Q x (Uy _ g)) S (by simpa using f);refine⟨by simp[g1],λk ob x V g=>?_⟩;cases k with
     |succ k=>exact g2 k ob x (by exact V) (by exact g)
     |zero=>
      simp at V g;subst V;subst g;refine⟨?_,rfl⟩;have⟨v',E',z',cs',fz',x,A,B,hb⟩:=R 0 id ab;simp at B;subst B;rw[L]at A;obtain⟨rfl,_⟩:v=v'/\_:=by simpa using A
      have W:frz s K id=some (v,.arr true E z [p] fz):=by
       unfold frz;split
       .rw[L];rfl
       exact L
      have⟨x1,D,Y⟩:=I'.obs id v _ W;rw[hb]at D;obtain rfl:x0=x1:=by simpa using D
      have⟨b,cb⟩:=x0;have⟨y,T,k1,k2,k3,k4,k5,k6,k7,k8,k9,k10⟩:=Y;have⟨x2,G,H⟩:=I.obs id v _ L;rw[hb]at G;obtain rfl:some (b,cb)=x2:=by simpa using G
      have⟨y2,T2,j1,j2,j3,j4,j5,j6,j7,j8,j9,Z⟩:=H;rw[k1]at j1;have⟨rfl,rfl⟩:y=y2/\T=T2:=by simpa using j1
      have o:RepL P M β p (y.toList.take p.length):=by
       have hle:p.length<=y.size:=by have:=k3 p ab;have:z<=cb*z:=Nat.le_mul_of_pos_left _ (by simp at k4;omega);omega
       refine RepL.of ah λi d x hd g=>?_;obtain⟨u,r,q⟩:=Z i d (by simpa using hd);rw[Ua]at g;split at g
       .rw[Ix,r]at g;obtain rfl:u=x:=by simpa using g
        exact q
       cases g
      have J:=Jj I hM h1 O.1 (λi hi=>t i (Q i (WX _ hi))) o;have hdl:ds.length=p.length:=by rw[←J.length,o.length]
      refine⟨y,T,k1,k2,?_,by exact k4,by exact k5,by exact k6,by exact k7,k8,k9,λi d hd=>?_⟩
      .intro e he;simp at he;subst he;rw[hdl];exact k3 p ab
      have hd':ds[i]? = some d:=by simpa using hd
      have⟨u,r,q⟩:=J.get i d hd';rw[Ua]at r;split at r
      .exact⟨u,by simpa using r,q⟩
      cases r
   cases h
  simp_all
def Xdg(f:Heap):∀(ids:List Nat) (obs:List Ob) (s:Heap) (i:Nat),ids.Nodup->(∀id∈ids,∃v o,f id=some (v,o))->obs.length=ids.length ->
 (i∉ids->app s (Z7 f ids obs) i=s i)/\∀(j:Nat)o,ids[j]? = some i->obs[j]? = some o->∀v o',f i=some (v,o')->app s (Z7 f ids obs) i=some (v,o)
 |[],obs,s,i,_,_,_=>by simp[Z7,app]
 |id::ids,o::obs,s,i,g,e,h=>by
  have⟨v,u,l⟩:=e id ab;simp at g;have p:app s (Z7 f (id::ids) (o::obs))=app (upd s id (some (v,o))) (Z7 f ids obs):=by simp only[Z7,l];rfl
  have⟨g1,g2⟩:=Xdg f ids obs (upd s id (some (v,o))) i g.2 (λx y=>e x (by grind)) (by simp_all);rw[p];refine⟨λq=>?_,λj o' z A B r t=>?_⟩
  .simp_all[Us,not_or,g1,q,Yi]
  cases j with
  |zero=>simp_all[l,g1,g,YO]
  |succ j=>grind
def Ij.called(I:Ij P C s U M β w){ids:List Nat}{lb:List (Nat×Nat)}(hB:Xdf s ids)(R:Xfy s β ids lb)(hlb:lb.length=ids.length)(hK:Kp w (lb.map (·.1)) w')(hmem:MemOK M' w')(l:∀b o,b<w.heap.size->M' b o=M b o){obs:List Ob}(S:obs.length=ids.length)(H:∀(k:Nat)ob x,obs[k]? = some ob->lb[k]? = some x->ObRep P M' YH w' (some x) ob/\ob.bx=true):
 Ij P C (app s (Z7 s ids obs)) U M' β w'/\MLe M M':=by
 have p:MLe M M':=λb o x g=>by rw[l b o (I.mem.lt g)];omega
 have J:∀id∈ids,∃v o,s id=some (v,o):=λid f=>by have⟨v,E,z,T,fz,h⟩:=hB.2 id f;simp_all
 have B:∀id v ob,app s (Z7 s ids obs) id=some (v,ob)->(id∉ids/\s id=some (v,ob))\/∃(j:Nat) (x:Nat×Nat) (q:Ob),ids[j]? = some id/\lb[j]? = some x/\obs[j]? = some ob/\s id=some (v,q)/\q.bx=true/\β id v=some (some x):=by
  intro id v ob h;obtain⟨g1,g2⟩:=Xdg s ids obs s id hB.1 J S;by_cases f:id∈ids
  .right;obtain⟨j,D,rfl⟩:=Wv f;have⟨A,E,z,T,fz,x,e,g,hb⟩:=R j _ (Wb D);have K:obs[j]? = some (obs[j]'aa):=Wb aa;have:=g2 j _ ab K A _ e;have⟨rfl,rfl⟩:A=v/\obs[j]'aa=ob:=by simp_all
   exact⟨j,x,_,Wb D,g,K,e,rfl,hb⟩
  simp_all
 have L:∀id v ob b r,id∉ids->s id=some (v,ob)->β id v=some (some (b,r))->b∉lb.map (·.1):=by
  intro id v ob b r f e hb O;rw[WG]at O;obtain⟨x,g,rfl⟩:=O;obtain⟨j,D,rfl⟩:=Wv g;obtain⟨A,E,z,T,fz,x',t,u,y⟩:=R j (ids[j]'aa) ab;have:lb[j]=x':=by rw[Wb D]at u;simpa using u
  have Q:=I.inj id v ob (ids[j]'aa) A _ _ r x'.2 e t (by rw[hb]) (by simp_all);exact f (Q▸Wt _)
 refine⟨?_,p⟩;constructor
 .omega
 .exact I.used
 .intro id v ob e;rcases B id v ob e with⟨f,e⟩|⟨j,x,q,D,g,K,e,_,hb⟩
  .have⟨x,g,V⟩:=I.obs id v ob e;refine⟨x,g,V.mono p (BLe.refl _) ?_ ?_⟩
   .rintro b r rfl;exact hK.block b V.lt (L id v ob b r f e g)
   rintro b r rfl o;exact l b o V.lt
  have⟨g1,g2⟩:=H j ob x K g;exact⟨some x,hb,g1.mono (MLe.refl _) (BLe.zero _) (λ_ _ _=>rfl) (λ_ _ _ _=>rfl)⟩
 .intro id v ob b r e hb;rcases B id v ob e with⟨f,e⟩|⟨j,x,q,D,g,K,e,hbx,y⟩
  .exact I.own id v ob b r e hb
  rcases I.own id v q b r e hb with h|h
  .exact .inl h
  grind
 .intro id v ob G A W b r Y e t hb y;have Z:∃o,s id=some (v,o):=by rcases B id v ob e with⟨_,e⟩|⟨_,_,o,_,_,_,e,_⟩<;>exact⟨_,e⟩
  have h2:∃o,s G=some (A,o):=by rcases B G A W t with⟨_,e⟩|⟨_,_,o,_,_,_,e,_⟩<;>exact⟨_,e⟩
  have⟨o1,Z⟩:=Z;have⟨o2,h2⟩:=h2;exact I.inj id v o1 G A o2 b r Y Z h2 hb y
 .refine⟨hK.os.trans I.keep.os,hK.tape.trans I.keep.tape,hK.output.trans I.keep.output,Ii I.keep.size hK.size,λk hk hl=>?_⟩;rw[←I.keep.block k hk hl];refine hK.block k (Nat.lt_of_lt_of_le hk I.keep.size) λO=>?_;rw[WG]at O;obtain⟨x,g,rfl⟩:=O;obtain⟨j,D,rfl⟩:=Wv g;have⟨A,E,z,T,fz,x',t,u,y⟩:=R j (ids[j]'aa) ab;have hx2:lb[j]=x':=by rw[Wb D]at u;simpa using u
  rcases I.own _ A _ lb[j].1 x'.2 t (by rw[y,hx2])with h|h
  .omega
  simp_all
 .intro b o hb;rw[l b o (Nat.lt_of_lt_of_le hb I.keep.size)];exact I.old b o hb
 .exact I.le.trans p
 exact I.glob
end
variable {P:Program}
mutual
def fits:D->D->Prop
 |.nsl,.isl _ _ j=>j=[]
 |.agg f,.agg g=>Ki f g
 |.tup f,.tup g=>Ki f g
 |.clo fn a b,.clo h l o=>fn=h/\Ki a l/\Ki b o
 |.ifc t d,.ifc p q=>t=p/\fits d q
 |d,e=>d=e
def Ki:List D->List D->Prop
 |[],[]=>True
 |d::f,e::g=>fits d e/\Ki f g
 |_,_=>False
end
mutual
def fits_rep{M:Mem}{β:Loc}:∀{d e:D} {y:Value},fits d e->Rep P M β d y->Rep P M β e y
 |.nsl,e,y,h,g=>by
  cases e<;>simp only[fits,reduceCtorEq]at h<;>try (first|exact g|(exact h.elim))
  grind[Rep,Xw]
 |.agg q,e,y,h,g=>by cases e<;>simp only[fits,reduceCtorEq]at h;have⟨j,e,g⟩:=g;exact⟨j,e,Jm h g⟩
 |.tup q,e,y,h,g=>by cases e<;>simp only[fits,reduceCtorEq]at h;have⟨j,e,g⟩:=g;exact⟨j,e,Jm h g⟩
 |.clo fn a b,e,y,h,g=>by cases e<;>simp only[fits,reduceCtorEq]at h;have⟨rfl,l,r⟩:=h;have⟨u,z,e,o,p⟩:=g;exact⟨u,z,e,Jm l o,Jm r p⟩
 |.ifc t d,e,y,h,g=>by cases e<;>simp only[fits,reduceCtorEq]at h;have⟨rfl,l⟩:=h;have⟨x,e,g⟩:=g;exact⟨x,e,fits_rep l g⟩
 |.any,e,y,h,g=>by simp_all[fits]
 |.v x,e,y,h,g=>by simp_all[fits]
 |.isl a b c,e,y,h,g=>by simp_all[fits]
 |.osl a b c d f,e,y,h,g=>by simp_all[fits]
 |.ept a b c d f,e,y,h,g=>by simp_all[fits]
 |.ipt a b c,e,y,h,g=>by simp_all[fits]
 |.fsl a b c,e,y,h,g=>by simp_all[Rep]
 |.fmp a b c,e,y,h,g=>by simp_all[Rep]
 |.omp a b,e,y,h,g=>by simp_all[fits]
def Jm{M:Mem}{β:Loc}:∀{j f:List D} {g:List Value},Ki j f->RepL P M β j g->RepL P M β f g
 |[],f,g,h,l=>by grind[Ki]
 |d::j,f,g,h,l=>by cases f<;>simp only[Ki]at h;have⟨x,o,e,p,q⟩:=l;exact⟨x,o,e,fits_rep h.1 p,Jm h.2 q⟩
end
mutual
def scal:D->Bool
 |.any=>true
 |.v _=>true
 |.agg e=>JY e
 |.tup e=>JY e
 |_=>false
def JY:List D->Bool
 |[]=>true
 |d::e=>scal d&&JY e
end
mutual
def scal_rep{M M':Mem}{w:World}{B:Nat}(β:Loc)(ver n:Nat):∀{d:D} {y:Value} {l:List (Option (Nat×Nat))},scal d=true->FrRep P M w B d y l->l=[]/\Rep P M' β d y/\imp ver n d=(d,n,[])
 |.any,y,l,_,f=>by simp_all[FrRep,Rep,imp]
 |.v x,y,l,_,f=>by simp_all[FrRep,Rep,imp]
 |.agg j,y,l,g,f=>by have⟨o,e,f⟩:=f;have⟨p,q,h⟩:=XbX (M':=M') β ver n g f;simp_all[Rep,imp,h]
 |.tup j,y,l,g,f=>by have⟨o,e,f⟩:=f;have⟨p,q,h⟩:=XbX (M':=M') β ver n g f;simp_all[Rep,imp,h]
 |.nsl,y,l,g,f=>by simp_all[scal]
 |.isl ..,y,l,g,f=>by simp_all[scal]
 |.osl ..,y,l,g,f=>by simp_all[scal]
 |.ept ..,y,l,g,f=>by simp_all[scal]
 |.ipt ..,y,l,g,f=>by simp_all[scal]
 |.clo ..,y,l,g,f=>by simp_all[scal]
 |.ifc ..,y,l,g,f=>by simp_all[scal]
 |.fsl ..,y,l,g,f=>by simp_all[scal]
 |.fmp ..,y,l,g,f=>by simp_all[scal]
 |.omp ..,y,l,g,f=>by simp_all[scal]
def XbX{M M':Mem}{w:World}{B:Nat}(β:Loc)(ver n:Nat):∀{f:List D} {g:List Value} {l:List (Option (Nat×Nat))},JY f=true->FrRepL P M w B f g l->l=[]/\RepL P M' β f g/\VN ver n f=(f,n,[])
 |[],g,l,_,h=>by simp_all[FrRepL,RepL,h,VN]
 |d::f,g,l,j,h=>by simp only[JY,Wr]at j;obtain⟨x,t,u,y,e,rfl,o,p⟩:=h;obtain⟨rfl,z,q⟩:=scal_rep (M':=M') β ver n j.1 o;obtain⟨rfl,A,r⟩:=XbX (M':=M') β ver n j.2 p;exact⟨rfl,by grind[RepL],by simp[VN,q,r,Ia]⟩
end
mutual
def FrRep.ge{M:Mem}{w:World}{B:Nat}:∀{d:D} {y:Value} {l:List (Option (Nat×Nat))},FrRep P M w B d y l->∀b∈X1 l,B<=b
 |.fsl E z p,y,l,e=>by
  rcases e with⟨rfl,_⟩|⟨b,q,o,rfl,hb,_⟩
  .simp[X1]
  simp[X1,hb]
 |.fmp k r f,y,l,e=>by obtain⟨b,rfl,hb,_⟩:=e;simp[X1,hb]
 |.agg g,y,l,e=>by have⟨f,_,e⟩:=e;exact FrRepL.ge e
 |.tup g,y,l,e=>by have⟨f,_,e⟩:=e;exact FrRepL.ge e
 |.ifc t d,y,l,e=>by have⟨f,_,e⟩:=e;exact FrRep.ge e
 |.clo fn a b,y,l,e=>by
  obtain⟨u,x,_,A,G,rfl,h,j⟩:=e;intro b hb;rw[Ya,Ws]at hb;rcases hb with hb|hb
  .exact FrRepL.ge h b hb
  exact FrRepL.ge j b hb
 |.any,y,l,e=>by simp_all[FrRep,X1]
 |.v _,y,l,e=>by simp_all[FrRep,e,X1]
 |.nsl,y,l,e=>by simp_all[FrRep,e,X1]
 |.isl ..,y,l,e=>by simp_all[FrRep,e,X1]
 |.ipt ..,y,l,e=>by simp_all[FrRep,e,X1]
 |.osl ..,y,l,e=>by simp_all[FrRep]
 |.ept ..,y,l,e=>by simp_all[FrRep]
 |.omp ..,y,l,e=>by simp_all[FrRep]
def FrRepL.ge{M:Mem}{w:World}{B:Nat}:∀{g:List D} {e:List Value} {l:List (Option (Nat×Nat))},FrRepL P M w B g e l->∀b∈X1 l,B<=b
 |[],e,l,f=>by simp_all[FrRepL,f,X1]
 |d::g,e,l,f=>by
  obtain⟨x,o,p,q,_,rfl,h,j⟩:=f;intro b hb;rw[Ya,Ws]at hb;rcases hb with hb|hb
  .exact FrRep.ge h b hb
  exact FrRepL.ge j b hb
end
def Zu(s:Heap)(args:List D):Option (Prop×List D×List Nat×List Ob×List Nat):=
 match ZZ s [] args with
 |some (c,as,ids,e)=>match Jv s ids with
  |some (f,obs,g)=>some (c/\f,as,ids,obs,e++g)
  |none=>none
 |none=>none
def VY:Ob->Bool
 |.arr true _ _ e 0=>e.all JY
 |_=>false
mutual
def scalR{M M':Mem}{β β':Loc}:∀{d:D} {y:Value},scal d=true->Rep P M β d y->Rep P M' β' d y
 |.any,y,_,_=>by simp[Rep]
 |.v x,y,_,h=>by assumption
 |.agg j,y,f,h=>by have⟨g,e,h⟩:=h;exact⟨g,e,Xh0 f h⟩
 |.tup j,y,f,h=>by have⟨g,e,h⟩:=h;exact⟨g,e,Xh0 f h⟩
 |.nsl,_,f,_=>by assumption
 |.isl ..,_,f,_=>by simp_all[scal]
 |.osl ..,_,f,_=>by simp_all[scal]
 |.ept ..,_,f,_=>by simp_all[scal]
 |.ipt ..,_,f,_=>by simp_all[scal]
 |.clo ..,_,f,_=>by simp_all[scal]
 |.ifc ..,_,f,_=>by simp_all[scal]
 |.fsl ..,_,f,_=>by assumption
 |.fmp ..,_,f,_=>by assumption
 |.omp ..,_,f,_=>by simp_all[scal]
def Xh0{M M':Mem}{β β':Loc}:∀{f:List D} {g:List Value},JY f=true->RepL P M β f g->RepL P M' β' f g
 |[],g,_,h=>by assumption
 |d::f,g,j,h=>by simp only[JY,Wr]at j;have⟨x,l,e,o,p⟩:=h;exact⟨x,l,e,scalR j.1 o,Xh0 j.2 p⟩
end
def XeB:∀{f:List D},JY f=true->∀d∈f,scal d=true
 |[],_,d,h=>by grind
 |e::f,g,d,h=>by
  simp only[JY,Wr]at g;rcases Us.1 h with rfl|h
  .simp_all
  exact XeB g.2 d h
def Xkb{M M':Mem}{w:World}{x:Nat×Nat}:∀{ob:Ob},VY ob=true->(∀b o y,M b o=some y->M' b o=some y)->ObRep P M' YH w (some x) ob->ObRep P M YH w (some x) ob
 |.mp ..,f,_,_=>by simp_all[VY]
 |.raw _,f,_,_=>by simp_all[VY]
 |.arr false ..,f,_,_=>by simp_all[VY]
 |.arr true E z l (n+1),f,_,_=>by simp_all[VY]
 |.arr true E z l 0,f,p,h=>by
  have⟨b,L⟩:=x;simp only[VY,WP]at f;have⟨q,T,k1,k2,r,t,u,A,B,D,G,g⟩:=h;refine⟨q,T,k1,k2,r,t,u,A,B,D,λo=>?_,λi d hd=>?_⟩
  .have H:=G o;rw[Wg aa]at H⊢;cases O:M b o with
   |none=>rfl
   |some y=>simp_all
  have⟨y,I,J⟩:=g i d hd;have⟨e,K,j⟩:=List.mem_flatten.1 (WW hd);exact⟨y,I,scalR (XeB (f e K) d j) J⟩
def Jn(s:Heap)(ids fz:List Nat)(r:D)(ls:List Ob)(ver n:Nat):D×Heap:=
 let e:=if scal r&&ls.all VY then s else frz s fz
 let f:=app e (Z7 s ids ls)
 let q:=imp ver n r
 (q.1,app f q.2.2)
section
variable {C:Cx}{s:Heap}{U:Nat->Prop}{M:Mem}{β:Loc}{w:World}{ver:Nat}
def XbY(s:Heap)(fz:List Nat):∀(ids:List Nat) (obs:List Ob),(∀id∈ids,∃v o,s id=some (v,o))->Z7 (frz s fz) ids obs=Z7 s ids obs
 |[],_,_=>rfl
 |id::ids,[],_=>rfl
 |id::ids,o::obs,h=>by
  have⟨v,j,e⟩:=h id ab;have l:=XbY s fz ids obs λx p=>h x (by simp[p]);have g:∃o',frz s fz id=some (v,o'):=by
   unfold frz;split
   .rw[e];cases j with
    |mp _=>exact⟨_,rfl⟩
    |raw _=>exact⟨_,rfl⟩
    |arr bx E z q f=>cases bx<;>exact⟨_,rfl⟩
   exact⟨_,e⟩
  have⟨o',g⟩:=g;simp[Z7,g,e,l]
def Xi3(I:Ij P C s U M β w)(hv:¬U ver){f:FuncId}{args eargs:List D}{vs:List Value}(hr:RepL P M β args vs){c:Prop}{as:List D}{ids:List Nat}{obs:List Ob}{fz:List Nat}(h:Zu s args=some (c,as,ids,obs,fz))(hc:c)(hfit:Ki as eargs){R:D->List Ob->Prop}(hA:ZD P C.G f eargs obs R)(n:Nat):
 Calls P f ⟨vs⟩ w λe w'=>∃v r ls M' β',e=.returned v/\R r ls/\Ij P C (Jn s ids fz r ls ver n).2 (λx=>U x\/x=ver) M' β' w'/\Rep P M' β' (Jn s ids fz r ls ver n).1 v/\MLe M M'/\BLe β β':=by
 unfold Zu at h;split at h
 .rename_i c1 as' ids' Z hl;split at h
  .rename_i c2 obs' l2 ho;simp only[Wq,Wy]at h;have⟨rfl,rfl,rfl,rfl,rfl⟩:=h;have⟨M1,I1,L,hF⟩:=I.freeze (Z++l2);have hboxes:Xdf s ids':=Zk hl ⟨ab,ab⟩;have hlb:∃lb:List (Nat×Nat),lb.length=ids'.length/\Xfy s β ids' lb:=by
    have:∀l:List Nat,(∀id∈l,∃v E z A fz,s id=some (v,.arr true E z [A] fz))->∃lb:List (Nat×Nat),lb.length=l.length/\Xfy s β l lb:=by
     intro l;induction l with
     |nil=>intro _;exact⟨[],rfl,λj id h=>by simp at h⟩
     |cons id l ih=>
      intro q;obtain⟨lb,H,h2⟩:=ih λx u=>q x (by simp[u]);obtain⟨v,E,z,A,fz,y⟩:=q id ab;obtain⟨x,u,hob⟩:=I.obs id v _ y;cases x with
      |none=>simp[ObRep]at hob
      |some x=>
       refine⟨x::lb,by simp[H],λj i S=>?_⟩;cases j with
       |zero=>simp at S;subst S;exact⟨v,E,z,A,fz,x,y,ab,u⟩
       |succ j=>simpa using h2 j i (by simpa using S)
    exact this ids' hboxes.2
   have⟨lb,t,hL⟩:=hlb;have hargs:=Jm hfit (Jl I L hL hl hc.1 (λi hi=>hF i (WX _ hi)) (List.prefix_refl _) hr);have⟨g1,g2⟩:=XbW I L I1 hF ho hc.2 (λx u=>Uy _ u) hL t;have hnd:(lb.map (·.1)).Nodup:=by
    rw[IX,Uf];intro i j hi0 hj0 hij he;simp only[UK]at hi0 hj0;have hii:i<lb.length:=aa;have S:j<lb.length:=aa;simp only[Ov]at he;obtain⟨v,E,z,A,fz,x,y,u,hb⟩:=hL i (ids'[i]'aa) ab;obtain⟨v',E',z',cs',fz',x',hs',hx',hb'⟩:=hL j (ids'[j]'aa) ab;have e1:lb[i]=x:=by simpa [hii]using u
    have e2:lb[j]=x':=by simpa [S]using hx'
    have p:=I.inj _ v _ _ v' _ x.1 x.2 x'.2 y hs' hb (by rw[hb',←e2,←e1,he]);have:=(Uf.1 (IX.1 hboxes.1)) i j aa aa hij;exact this p
   refine(hA.2 M1 w vs lb I1.mem (λg A hg=>RepC.mono I1.le (I1.glob g A hg)) (by rw[t,g1]) hnd g2 hargs).mono ?_;rintro e w' ⟨v,r,ls,M',l,rfl,hR,hK,T,V,hls,W,hfr,hndl⟩;refine⟨v,r,ls,?_⟩;have J:ls.length=ids'.length:=by rw[hls,t]
   have q:∀id∈ids',∃v o,s id=some (v,o):=λid p=>by have⟨v,E,z,A,fz,h⟩:=hboxes.2 id p;exact⟨_,_,h⟩
   have K:∀b o x,M b o=some x->M' b o=some x:=λb o x u=>by rw[V b o (I.mem.lt u)];exact L _ _ _ u
   unfold Jn;by_cases O:(scal r&&ls.all VY)=true
   .simp only[O,if_true];simp only[Wr]at O;have⟨hsc1,hso⟩:=O;have⟨rfl,hrv,Y⟩:=scal_rep (M':=M) β ver n hsc1 hfr;have⟨I2,_⟩:=I.called (ids:=ids') (lb:=lb) (M':=M) (w':=w') (obs:=ls) hboxes hL t hK (λb o x u=>T b o x (K b o x u)) (λ_ _ _=>rfl) J (λk ob x H h2=>by
     obtain⟨g3,g4⟩:=W k ob x H h2
     exact⟨Xkb (WP.1 hso ob (WW H)) K g3,g4⟩)
    refine⟨M,β,trivial,hR,?_,?_,MLe.refl _,BLe.refl _⟩
    .rw[Y];exact I2.mono λ_ h=>.inl h
    rw[Y];exact hrv
   simp only[O,UU,if_false];have Q:Xdf (frz s (Z++l2)) ids':=⟨hboxes.1,λid p=>by
    obtain⟨v,E,z,A,fz,y⟩:=hboxes.2 id p
    refine⟨v,E,z,A,fz,?_⟩
    unfold frz
    split
    .rw[y];rfl
    .exact y⟩
   have hL1:Xfy (frz s (Z++l2)) β ids' lb:=λj id S=>by
    obtain⟨v,E,z,A,fz,x,y,u,hb⟩:=hL j id S;refine⟨v,E,z,A,fz,x,?_,u,hb⟩;unfold frz;split
    .rw[y];rfl
    exact y
   have⟨I2,hM2⟩:=I1.called Q hL1 t hK T V J W;rw[XbY s _ ids' ls q]at I2;have hfree:XhZ (app (frz s (Z++l2)) (Z7 s ids' ls)) β (X1 l):=by
    intro b hb id v' ob cb y u;have hge:=FrRep.ge hfr b hb;have H:∃o,frz s (Z++l2) id=some (v',o):=by
     obtain⟨q1,q2⟩:=Xdg (frz s (Z++l2)) ids' ls (frz s (Z++l2)) id Q.1 (λi hi=>by
      obtain⟨v,E,z,A,fz,h⟩:=Q.2 i hi
      exact⟨_,_,h⟩) J
     rw[XbY s _ ids' ls q]at q1 q2;by_cases p:id∈ids'
     .obtain⟨j,S,rfl⟩:=Wv p;obtain⟨v2,E,z,A,fz,h⟩:=Q.2 _ p;have:=q2 j (ls[j]'aa) ab ab v2 _ h;rw[this]at y;obtain⟨rfl,_⟩:v2=v'/\_:=by simpa using y
      exact⟨_,h⟩
     rw[q1 p]at y;exact⟨_,y⟩
    obtain⟨o,H⟩:=H;obtain⟨x,hx1,hob⟩:=I1.obs id v' o H;rw[u]at hx1;obtain rfl:some (b,cb)=x:=by simpa using hx1
    have:=hob.lt;omega
   have⟨β',H,h2⟩:=imp_ok (C:=C) (ver:=ver) (B:=w.heap.size) I.keep.size r v l n I2 (λi _=>I2.fresh hv i) hfr hndl hfree;exact⟨M',β',trivial,hR,H.inv,h2,L.trans hM2,H.le⟩
  cases h
 simp_all
def Xor(I:Ij P C s U M β w){f:FuncId}{eargs:List D}{A:List Value}{M1:Mem}(t:MLe M M1)(B:MemOK M1 w)(p:RepL P M1 YH eargs A){R:D->List Ob->Prop}(Q:ZD P C.G f eargs [] R)(E:∀r ls,R r ls->scal r=true):
 Calls P f ⟨A⟩ w λe w'=>∃v r ls,e=.returned v/\R r ls/\Ij P C s U M β w'/\Rep P M β r v:=by
 refine(Q.2 M1 w A [] B (λg S T=>RepC.mono (I.le.trans t) (I.glob g S T)) rfl ab (λk ob x h=>ab) (p.mono (MLe.refl _) (BLe.zero _))).mono ?_;rintro e w' ⟨v,r,ls,M',l,rfl,K,hK,u,y,V,L,H,O⟩;have q:∀b o x,M b o=some x->M' b o=some x:=λb o x z=>by rw[y b o (I.mem.lt z)];exact t _ _ _ z
 have⟨rfl,J,_⟩:=scal_rep (M':=M) β 0 0 (E r ls K) H;have⟨I2,_⟩:=I.called (ids:=[]) (lb:=[]) (M':=M) (w':=w') (obs:=[]) ⟨ab,ab⟩ (λj id h=>by grind) rfl hK (λb o x z=>u b o x (q b o x z)) (λ_ _ _=>rfl) rfl (λk ob x h=>ab);exact⟨v,r,ls,rfl,K,I2,J⟩
end
variable {P:Program}
def HLe(s e:Heap):Prop:=∀i x,s i=some x->e i=some x
section
variable {s s':Heap}
mutual
def snap_le(g:HLe s s'):∀{d:D}{r},snap s d=some r->snap s' d=some r
 |.osl id ver z off len,r,h=>by
  unfold snap at h⊢;split at h
  .rename_i j E u x f e;rw[g _ _ e];exact h
  simp_all
 |.agg o,r,h=>by
  unfold snap at h⊢;split at h
  .rename_i c p l e;rw[JZ g e];exact h
  simp_all
 |.tup o,r,h=>by
  unfold snap at h⊢;split at h
  .rename_i c p l e;rw[JZ g e];exact h
  simp_all
 |.clo fn a b,r,h=>by
  unfold snap at h⊢;split at h
  .rename_i e q;rw[JZ g e,JZ g q];exact h
  simp_all
 |.ifc t d,r,h=>by
  unfold snap at h⊢;split at h
  .rename_i e;rw[snap_le g e];exact h
  simp_all
 |.any,r,h=>by assumption
 |.v _,r,h=>by assumption
 |.nsl,r,h=>by assumption
 |.isl ..,r,h=>by assumption
 |.ipt ..,r,h=>by assumption
 |.ept ..,r,h=>by assumption
 |.fsl ..,r,h=>by assumption
 |.fmp ..,r,h=>by assumption
 |.omp ..,r,h=>by assumption
def JZ(f:HLe s s'):∀{e:List D}{r},Jr s e=some r->Jr s' e=some r
 |[],r,h=>by assumption
 |d::e,r,h=>by
  unfold Jr at h⊢;split at h
  .rename_i g j;rw[snap_le f g,JZ f j];exact h
  simp_all
end
def Xgu(f:HLe s s'):∀{e:List (Nat×D)}{r},VR s e=some r->VR s' e=some r
 |[],r,h=>by assumption
 |(i,d)::e,r,h=>by
  unfold VR at h⊢;split at h
  .rename_i g j;rw[snap_le f g,Xgu f j];exact h
  simp_all
def Has(s:Heap)(l:List Nat):Prop:=∀i∈l,∃x,s i=some x
def Xbm(e:HLe s s'):∀{l:List Nat},Has s l->Xbh s' l=Xbh s l
 |[],_=>rfl
 |i::l,h=>by have⟨x,f⟩:=h i ab;have g:=Xbm e (l:=l) (λj o=>h j (WC _ o));simp only[Xbh,f,e _ _ f,g]
mutual
def snap_has:∀{d:D}{c e l},snap s d=some (c,e,l)->Has s l
 |.osl id ver z off len,c,e,l,h=>by
  unfold snap at h;split at h
  .rename_i g;split at h
   .obtain⟨_,_,rfl⟩:=h;intro i f;simp at f;subst f;exact⟨_,g⟩
   cases h
  simp_all
 |.agg j,c,e,l,h=>by
  unfold snap at h;split at h
  .rename_i g;obtain⟨_,_,rfl⟩:=h;exact Jo g
  simp_all
 |.tup j,c,e,l,h=>by
  unfold snap at h;split at h
  .rename_i g;obtain⟨_,_,rfl⟩:=h;exact Jo g
  simp_all
 |.clo fn a b,c,e,l,h=>by
  unfold snap at h;split at h
  .rename_i g o;simp only[Wq,Wy]at h;obtain⟨_,_,rfl⟩:=h;intro i f;rcases Ws.1 f with f|f
   .exact Jo g i f
   exact Jo o i f
  simp_all
 |.ifc t d,c,e,l,h=>by
  unfold snap at h;split at h
  .rename_i g;simp only[Wq,Wy]at h;obtain⟨_,_,rfl⟩:=h;exact snap_has g
  simp_all
 |.any,c,e,l,h=>by simp[snap]at h;obtain⟨_,_,rfl⟩:=h;intro i f;simp_all
 |.v _,c,e,l,h=>by simp[snap]at h;obtain⟨_,_,rfl⟩:=h;intro i f;simp_all
 |.nsl,c,e,l,h=>by simp[snap]at h;obtain⟨_,_,rfl⟩:=h;intro i f;simp_all
 |.isl ..,c,e,l,h=>by simp[snap]at h;obtain⟨_,_,rfl⟩:=h;intro i f;simp_all
 |.ipt ..,c,e,l,h=>by simp[snap]at h;obtain⟨_,_,rfl⟩:=h;intro i f;simp_all
 |.ept ..,c,e,l,h=>by simp_all[snap]
 |.fsl ..,c,e,l,h=>by simp_all[snap]
 |.fmp ..,c,e,l,h=>by simp_all[snap]
 |.omp ..,c,e,l,h=>by simp_all[snap]
def Jo:∀{g:List D}{c f l},Jr s g=some (c,f,l)->Has s l
 |[],c,f,l,h=>by obtain⟨_,_,rfl⟩:=h;intro i e;simp_all
 |d::g,c,f,l,h=>by
  unfold Jr at h;split at h
  .rename_i j o;obtain⟨_,_,rfl⟩:=h;intro i e;rcases Ws.1 e with e|e
   .exact snap_has j i e
   exact Jo o i e
  simp_all
end
def XeC:∀{g:List (Nat×D)}{c f l},VR s g=some (c,f,l)->Has s l
 |[],c,f,l,h=>by obtain⟨_,_,rfl⟩:=h;intro i e;simp_all
 |(j,d)::g,c,f,l,h=>by
  unfold VR at h;split at h
  .rename_i o p;obtain⟨_,_,rfl⟩:=h;intro i e;rcases Ws.1 e with e|e
   .exact snap_has o i e
   exact XeC p i e
  simp_all
def Xos(e:HLe s s'){d:D}{r}(h:Xfl s d=some r):Xfl s' d=some r:=by
 unfold Xfl at h⊢;split at h
 .exact h
 .split at h
  .rename_i f;rw[e _ _ f];exact h
  cases h
 omega
def Xgv(e:HLe s s'){z:Nat}{d:D}{r}(h:elems s z d=some r):elems s' z d=some r:=by
 unfold elems at h⊢;split at h
 .exact h
 .exact h
 .exact h
 .split at h
  .rename_i f;rw[e _ _ f];exact h
  cases h
 omega
def Xi4(e:HLe s s'){a b E z n:Nat}{c:Prop}{src:List (List D)}{d:D}{r}(h:Xek P s a b E z n c src d=some r):Xek P s' a b E z n c src d=some r:=by
 unfold Xek at h⊢;split at h
 .exact h
 .split at h
  .rename_i f;rw[e _ _ f];exact h
  cases h
 omega
def Xi5(e:HLe s s'){T:TypeId}{m key x:D}{r}(h:XhT P s T m key x=some r):XhT P s' T m key x=some r:=by
 unfold XhT at h⊢;split at h
 .split at h
  .rename_i g;rw[e _ _ g];split at h
   .rename_i f;rw[snap_le e f];simp only;rw[Xbm e (snap_has f)];exact h
   cases h
  cases h
 omega
def Xkc(f:HLe s s'){sz:Nat}{lo e mx:Option Int}{d:D}{r}(h:XaY s sz lo e mx d=some r):XaY s' sz lo e mx d=some r:=by
 unfold XaY at h⊢;split at h
 .split at h
  .split at h
   .rename_i g;simp only[f _ _ g];exact h
   cases h
  grind
 grind
def XqZ(f:HLe s s'){dst:Option Nat}{ver:Nat}{t:Operand->D}{op:Op}{r}(h:opF P dst ver t s op=some r):opF P dst ver t s' op=some r:=by
 cases op with
 |load T a=>
  simp only[opF]at h⊢;split at h
  .rename_i o p;rw[o,Xos f p];exact h
  simp_all
 |store T a x=>
  simp only[opF]at h⊢;split at h
  .split at h
   .rename_i l;rw[f _ _ l];exact h
   .rename_i l;rw[f _ _ l];split at h
    .rename_i g;simp only[snap_le f g];rw[Xbm f (snap_has g)];exact h
    cases h
   cases h
  omega
 |buildSlice T n parts=>
  simp only[opF]at h⊢;split at h
  .split at h
   .split at h
    .split at h
     .rename_i g;rw[Wj g];split at h
      .rename_i j;simp only[Xgu f j];rw[Xbm f (XeC j)];exact h
      cases h
     cases h
    cases h
   cases h
  omega
 |mapUpdate T m key x=>exact Xi5 f h
 |insert T m key x=>exact Xi5 f h
 |lookup T m key ok=>
  simp only[opF]at h⊢;split at h
  .split at h
   .rename_i g j;simp only[f _ _ g,j];exact h
   .rename_i g j;simp only[f _ _ g,j];exact h
   cases h
  cases h
 |mapEntry T m key=>
  simp only[opF]at h⊢;split at h
  .rename_i o p l;try simp only[o,p,l]
   split at h
   .rename_i g j;simp only[f _ _ g,j];exact h
   cases h
  cases h
 |entryStore T m e x=>
  simp only[opF]at h⊢;split at h
  .rename_i o p l;try simp only[o,p,l]
   split at h
   .rename_i g;simp only[f _ _ g];exact h
   cases h
  omega
 |call c=>
  have⟨callee,args,types⟩:=c;cases callee with
  |builtin b=>
   cases b<;>first|exact h|skip
   case len=>
    simp only[opF]at h⊢
    split at h
    .split at h
     .exact h
     .exact h
     .exact h
     .exact h
     .split at h
      .rename_i g j
       simp only[g,f _ _ j];exact h
      .cases h
     .cases h
    .cases h
   case clear=>
    simp only[opF]at h⊢
    split at h
    .split at h
     .split at h
      .split at h
       .rename_i j q
        simp only[j,f _ _ q];exact h
       .cases h
      .cases h
     .cases h
    .split at h
     .rename_i g j
      simp only[g,f _ _ j];exact h
     .cases h
    .cases h
   case copy=>
    simp only[opF]at h⊢
    split at h
    .split at h
     .split at h
      .rename_i g j q
       simp only[g,f _ _ j,Xgv f q];exact h
      .cases h
     .cases h
    .cases h
   case delete=>
    simp only[opF]at h⊢
    split at h
    .split at h
     .rename_i g j
      simp only[g,f _ _ j];exact h
     .cases h
    .cases h
   simp only[opF]at h⊢;split at h
   .split at h
    .split at h
     .split at h
      .split at h
       .rename_i q;rw[Wj q];split at h
        .split at h
         .rename_i u;simp only[Xgv f u];exact Xi4 f h
         cases h
        .split at h
         .exact Xi4 f h
         cases h
        cases h
       cases h
      cases h
     cases h
    cases h
   omega
  |_=>exact h
 |slice T x lo y mx=>
  simp only[opF]at h⊢;split at h
  .split at h
   .simp only[Uv]at h⊢;obtain⟨a,h,e⟩:=h;exact⟨a,Xkc f h,e⟩
   cases h
  .exact h
  cases h
 |_=>exact h
end
variable {P:Program}
inductive It where
 |code (c:Code)
 |ops (full:Array Oper) (rest:List Oper)
 |blk (id:Nat)
 |stop (Q:St->Prop)
abbrev AW:=Act->World->Prop
def Xh1{F:Fence}{n:Nat}{c:Code}{Q:Exit->AW}{a:Act}{w:World}(h:c.wpIn F n P (Exit.noGoto Q) a w):(Code.scope c).wpIn F n P Q a w:=by
 intro b k g q hb r;have j:(lone (b.atR a (.code (.scope c)::k)) g w).fenced P F:=fenced_calm hb r rfl;have o:step P (lone (b.atR a (.code (.scope c)::k)) g w)=.next (lone (b.atR a (.code c::.inScope c::k)) g w):=step_lone_go (by rfl)
 have⟨e,a₁,w₁,p,f⟩:=h b (.inScope c::k) g q hb r;have u:step P (lone (b.atR a₁ (.inScope c::k)) g w₁)=.next (lone (b.atR a₁ k) g w₁):=step_lone_go (by rfl)
 cases e with
 |normal=>exact⟨.normal,a₁,w₁,p,.head j o (StepsIn.trans f (.one (fenced_calm hb r rfl) u))⟩
 |exit id=>exact⟨.exit id,a₁,w₁,p,λx y=>.head j o (f.1 x ag),λt y=>let ⟨k1,e,s⟩:=f.2 t ag;⟨k1,e,.head j o s⟩⟩
 |goto l=>exact p.elim
 |ret=>exact⟨_,a₁,w₁,p,.of_steps (.one j o) f⟩
 |panic ch=>exact⟨_,a₁,w₁,p,.of_steps (.one j o) f⟩
 |outgrown=>exact⟨_,a₁,w₁,p,.of_steps (.one j o) f⟩
def XcC{F:Fence}{g:Nat}{c:Code}{Q:Exit->AW}{a:Act}{w:World}(I:Nat->AW)(n:Nat)(j:I n a w)(rd:∀n a w,I n a w->c.wpIn F g P (Exit.then (λa w=>∃k,k<n/\I k a w) Q) a w):(Code.loop c).wpIn F g P Q a w:=by
 refine wpIn_loop (λa w=>∃n,I n a w) (λa w=>leastOf λn=>I n a w) ⟨n,j⟩ λa w l=>wpIn_mono (rd _ a w (leastOf_spec l).1) λe p w' h=>?_;cases e with
 |normal=>have⟨k,o,f⟩:=h;exact And.intro ⟨k,f⟩ (Nat.lt_of_le_of_lt ((leastOf_spec ⟨k,f⟩).2 k f) o)
 |_=>exact h
@[reducible] def fz(r:Option Nat):Fence:={Fence.wide with round:=r}
def Xdh{r:Option Nat}{n:Nat}{f:FuncId}{args:Array Value}{w:World}{R:Ending->World->Prop}(h:Calls P f args w R):CallsIn (fz r) n P f args w R:=(callsIn_wide (n:=n)).2 h
def Xqx{r:Option Nat}{n:Nat}{o:Oper}{a:Act}{w:World}{K:AW}{Q:Exit->AW}(hd:∀c,o.op≠.defer c)(h:o.wp P a w K Q):o.wpIn (fz r) n P a w K Q:=by
 refine⟨λ_ _=>trivial,?_⟩;rw[Oper.semAt_eq _ _ _ hd];unfold Oper.wp at h;revert h;generalize (execOp a.eval o).run P w=x;intro h;unfold Oper.upon at h;split at h
 .exact h
 .exact h
 .exact h
 .exact⟨λe=>(by cases e),Xdh h⟩
 .exact⟨λe=>(by cases e),λc f _=>let ⟨v,w',r,s⟩:=h c f;⟨v,w',r,stepsIn_wide.2 s⟩⟩
 .exact h
 simp_all
def VZ(R:AW)(f:Option Nat->AW):Exit->AW
 |.normal=>f none
 |.exit id=>f (some id)
 |.ret=>R
 |_=>λ_ _=>False
def sem(P:Program)(C:Cx)(R:AW):List It->Option Nat->AW
 |[],none=>R
 |[],some _=>λ_ _=>False
 |.stop Q::_,none=>λa w=>∃st,Rel P C st a w/\Q st
 |.stop _::k,some i=>sem P C R k (some i)
 |.blk _::k,none=>sem P C R k none
 |.blk j::k,some i=>if i=j then sem P C R k none else sem P C R k (some i)
 |.code c::k,none=>c.wpIn (fz C.rd) 0 P (VZ R (sem P C R k))
 |.code _::k,some i=>sem P C R k (some i)
 |.ops full rest::k,none=>wpListIn (fz C.rd) 0 P full (VZ R (sem P C R k)) rest
 |.ops _ _::k,some i=>sem P C R k (some i)
def KX(P:Program)(C:Cx)(Q:St->Prop):AW:=λa w=>∃st,Rel P C st a w/\Q st
class Tag{α:Type}(x:α):Type
instance{α:Type}(x:α):Tag x:=⟨⟩
abbrev Prf{α:Type}(_:α):Prop:=True
def LoopG(P:Program)(C:Cx)(R:St->Prop)(c:Code)(k:List It)(st:St)[Tag (C,R,c,k,st)](_:Prf c):Prop:=
 ∀a w,Rel P C st a w->(Code.loop c).wpIn (fz C.rd) 0 P (VZ (KX P C R) (sem P C (KX P C R) k)) a w
def DrawnG(P:Program)(C:Cx)(R:St->Prop)(id:Nat)(ops:Array Oper)(k:List It)(st:St)[Tag (C,R,ops,k,st)](_:Prf ops):Prop:=
 ∀a w,Rel P C st a w->(Code.region id ops true).wpIn (fz C.rd) 0 P (VZ (KX P C R) (sem P C (KX P C R) k)) a w
def CallG(P:Program)(G:Nat->Option (List D))(f:FuncId)(args:List D)(obs:List Ob)(K:D->List Ob->Prop)[Tag (G,K)](_:Prf args):Prop:=
 ∃eargs R,Ki args eargs/\ZD P G f eargs obs R/\∀r ls,R r ls->K r ls
def V0(b:Bool)(x y:Prop):Prop:=(b=true->x)/\(b=false->y)
def XaO(st:St)(x:Nat)(d:D):St:={st with t:=upd st.t x d}
def nx(st:St)(dst:Option Nat)(d:D)(u:Up)(n k:Nat):St:=
 ⟨match dst with|some x=>upd st.t x d|none=>st.t,app st.s u,n,k⟩
def XX(dst:Option Nat)(n:Nat):Option Nat:=match dst with
 |some x=>if x<n then some x else none
 |none=>none
def callee(t:Operand->D)(c:Call):Option (FuncId×List D):=match c.callee with
 |.value f=>match t f with
  |.clo (.func g) first caps=>some (g,first++(c.args.toList.map t++caps))
  |_=>none
 |_=>none
def XcG(t:Operand->D)(c:Call):Option (Nat×List D):=match c.callee with
 |.value f=>match t f with
  |.clo (.yield l) [] []=>some (l,c.args.toList.map t)
  |_=>none
 |_=>none
def KD:Op->Option Call
 |.call c=>match c.callee with
  |.value _=>some c
  |_=>none
 |_=>none
def aft(s:Heap)(ids fz:List Nat)(r:D)(ls:List Ob)(ver n:Nat):D×Up:=
 if scal r&&ls.all VY then(r,Z7 s ids ls)else((imp ver n r).1,Xbh s fz++(Z7 s ids ls++(imp ver n r).2.2))
def Xq0(x:D×Up)(dst:Option Nat)(n k:Nat)(f:Option Nat->D->Up->Nat->Nat->Prop)[Tag f](_:Prf x):Prop:=f dst x.1 x.2 n k
def Xcn(x:Option (Prop×D×Up))(dst:Option Nat)(n k:Nat)(f:Option Nat->D->Up->Nat->Nat->Prop)[Tag f](_:Prf x):Prop:=match (generalizing:=false) x with
 |some (c,d,u)=>c/\f dst d u n k
 |none=>False
def Xh2(P:Program)(G:Nat->Option (List D))(f:FuncId)(x:Option (Prop×List D×List Nat×List Ob×List Nat))(K:List Nat->List Nat->D->List Ob->Prop)[Tag (G,K)](_:Prf x):Prop:=match (generalizing:=false) x with
 |some (e,as,ids,obs,fz)=>e/\CallG P G f as obs (K ids fz) trivial
 |none=>False
def nxS(st:St)(dst:Option Nat)(d:D)(s:Heap)(n k:Nat):St:=
 ⟨match dst with|some x=>upd st.t x d|none=>st.t,s,n,k⟩
def Xgw(n:Nat)(dst:Option Nat):Option Nat:=match dst with
 |some d=>some (n+d)
 |none=>none
def CallX(P:Program)(C:Cx)(f:FuncId)(args:List D)(dst:Option Nat)(st:St)(K:St->Prop)[Tag (C,dst,st,K)](_:Prf args):Prop:=
 (∃fn,P.funcs[f]? = some fn/\fn.body.isNone=false/\(fn.name== "runtime.NumGoroutine")=false) /\
 ∀M β w g,BLe C.b0 β->Ij P C st.s (·<st.k) M β w->RepL P M β args g->Calls P f ⟨g⟩ w λe w'=>∃v d s' h M' β',e=.returned v/\Ij P C s' (·<h) M' β' w'/\Rep P M' β' d v/\MLe M M'/\BLe β β'/\K (nxS st (XX dst st.n) d s' st.n h)
def YieldX(P:Program)(C:Cx)(l:Nat)(args:List D)(dst:Option Nat)(st:St)(K:St->Prop)[Tag (C,dst,st,K)](_:Prf args):Prop:=
 ∀M β w g,BLe C.b0 β->Ij P C st.s (·<st.k) M β w->RepL P M β args g->∃f tmps assign body,(Instr.yield l ⟨g⟩).run P w=.ok (.round l f tmps assign body) w /\
  RoundIn (fz C.rd) 0 P l f tmps assign body w λe w'=>∃v d s' h M' β',e=.returned v/\Ij P C s' (·<h) M' β' w'/\Rep P M' β' d v/\MLe M M'/\BLe β β'/\K (nxS st (XX dst st.n) d s' st.n h)
def Xfz(P:Program)(C:Cx)(x:Option (Nat×List D))(dst:Option Nat)(st:St)(K:St->Prop)[Tag (C,dst,st,K)](_:Prf x):Prop:=match (generalizing:=false) x with
 |some (l,args)=>YieldX P C l args dst st K trivial
 |none=>False
def Xdi(P:Program)(C:Cx)(x:Option (FuncId×List D))(c:Call)(dst:Option Nat)(st:St)(K:St->Prop)[Tag (C,c,dst,st,K)](_:Prf x):Prop:=match (generalizing:=false) x with
 |some (f,args)=>CallX P C f args dst st K trivial
 |none=>Xfz P C (XcG (ev st.t C.G) c) dst st K trivial
def XeD(P:Program)(C:Cx)(x:Option Call)(o:Oper)(st:St)(K:St->Prop)[Tag (C,o,st,K)](_:Prf x):Prop:=
 match (generalizing:=false) x with
 |some c=>Xdi P C (callee (ev st.t C.G) c) c o.dst st K trivial
 |none=>Xcn (opF P (Xgw C.off o.dst) st.k (ev st.t C.G) st.s o.op) (XX o.dst st.n) st.n (st.k+1) (λdst d u n k=>K (nx st dst d u n k)) trivial
def XbZ(P:Program)(C:Cx)(o:Oper)(st:St)(K:St->Prop):Prop:=XeD P C (KD o.op) o st K trivial
def Xgx(dst:Option Nat)(n k:Nat)(f:Option Nat->Nat->Nat->Prop)[Tag f](_:Prf dst):Prop:=f dst n k
def Kq(d:D)(r:Nat)(want:Bool)(st:St)(x y:St->Prop)[Tag (st,x,y)](_:Prf d):Prop:=match (generalizing:=false) d with
 |.v (.bool b)=>V0 b (if want then x st else y st) (if want then y st else x st)
 |.v (.tuple _)=>y st
 |_=>False
def XfA(r:Option Nat)(want:Bool)(st:St)(x y:St->Prop)[Tag (st,x,y)](_:Prf r):Prop:=match (generalizing:=false) r with
 |some r=>Kq (st.t r) r want st x y trivial
 |none=>False
def Xb0(full:Array Oper)(o:Oper)(st:St)(x y:St->Prop):Prop:=
 match o.guard with
 |none=>x st
 |some (g,want)=>XfA ((full[g]?).bind (·.dst)) want st x y trivial
def Xco(d:D)(c:Operand)(st:St)(x y:St->Prop)[Tag (c,st,x,y)](_:Prf d):Prop:=match (generalizing:=false) d with
 |.v (.bool b)=>V0 b (x st) (y st)
 |_=>False
def Xcp:Nat->List It->Option (List It)
 |_,[]=>none
 |id,.blk j::k=>if id=j then some k else Xcp id k
 |id,_::k=>Xcp id k
def Xi6(x:Option (List It))(f:List It->Prop)[Tag f](_:Prf x):Prop:=match (generalizing:=false) x with
 |some k=>f k
 |none=>False
def run(P:Program)(C:Cx)(R:St->Prop):Nat->List It->St->Prop
 |0,_,_=>False
 |_+1,[],st=>R st
 |_+1,.stop Q::_,st=>Q st
 |n+1,.blk _::k,st=>run P C R n k st
 |n+1,.ops _ []::k,st=>run P C R n k st
 | n+1,.ops full (o::rest)::k,st=>Xb0 full o st
     (λst=>XbZ P C o st (run P C R n (.ops full rest::k)))
     (λst=>Xgx (XX o.dst st.n) st.n (st.k+1) (λdst m j=>run P C R n (.ops full rest::k) (nx st dst (.v undef) [] m j)) trivial)
 |n+1,.code .skip::k,st=>run P C R n k st
 |n+1,.code (.seq x y)::k,st=>run P C R n (.code x::.code y::k) st
 |n+1,.code (.cond c x y)::k,st=>Xco (ev st.t C.G c) c st (run P C R n (.code x::k)) (run P C R n (.code y::k)) trivial
 |n+1,.code (.block id c)::k,st=>run P C R n (.code c::.blk id::k) st
 |n+1,.code (.scope c)::k,st=>run P C R n (.code c::k) st
 |n+1,.code (.label _)::k,st=>run P C R n k st
 |n+1,.code (.exit id)::k,st=>Xi6 (Xcp id k) (λe=>run P C R n e st) trivial
 |_+1,.code .ret::_,st=>R st
 |_+1,.code (.loop c)::k,st=>LoopG P C R c k st trivial
 |n+1,.code (.region _ ops false)::k,st=>run P C R n (.ops ops ops.toList::k) st
 |_+1,.code (.region id ops true)::k,st=>DrawnG P C R id ops k st trivial
 |_+1,.code _::_,_=>False
def V1{C:Cx}{R:AW}{id:Nat}:∀{k f:List It} {a:Act} {w:World},Xcp id k=some f->sem P C R f none a w->sem P C R k (some id) a w
 |[],f,a,w,h,_=>by simp_all[Xcp]
 |.blk j::k,f,a,w,h,g=>by
  unfold Xcp at h;unfold sem;split at h
  .simp_all
  rename_i e;rw[Wg e];exact V1 h g
 |.code c::k,f,a,w,h,g=>by unfold sem;exact V1 h g
 |.ops _ _::k,f,a,w,h,g=>by unfold sem;exact V1 h g
 |.stop _::k,f,a,w,h,g=>by unfold sem;exact V1 h g
def OH{C:Cx}{st:St}{a:Act}{w':World}{s':Heap}{o:Nat}{M':Mem}{β':Loc}{M:Mem}{β:Loc}{d:D}{v:Value}{dst:Option Nat}(g:a.defers=C.df)(r:a.tmps.size=st.n)(h:BLe C.b0 β)(j:∀x,Rep P M β (st.t x) (a.tmps.getD x undef))(l:MLe M M')(f:BLe β β')(I:Ij P C s' (·<o) M' β' w')(u:Rep P M' β' d v):Rel P C (nxS st (XX dst st.n) d s' st.n o) (a.put dst v) w':=by
 cases dst with
 |none=>exact⟨g,r,M',β',h.trans f,λx=>(j x).mono l f,I⟩
 |some x=>
  by_cases p:x<st.n
  .simp only[XX,Wj p];refine⟨g,by simp_all[nxS,Act.put],M',β',h.trans f,λi=>?_,I⟩;simp only[nxS,upd,Act.put];by_cases q:i=x
   .simp_all
   rw[Wg q];have e:(a.tmps.setIfInBounds x v).getD i undef=a.tmps.getD i undef:=by simp[Ne.symm q]
   rw[e];exact(j i).mono l f
  simp only[XX,Wg p];refine⟨g,by simp_all[nxS,Act.put],M',β',h.trans f,λi=>?_,I⟩;have e:a.put (some x) v=a:=by simp only[Act.put];rw[Array.setIfInBounds_eq_of_size_le aa]
  rw[e];exact(j i).mono l f
def Rel.put{C:Cx}{st:St}{a:Act}{w':World}{u:Up}{e:Nat}{M':Mem}{β':Loc}{M:Mem}{β:Loc}{d:D}{v:Value}{dst:Option Nat}(f:a.defers=C.df)(g:a.tmps.size=st.n)(h:BLe C.b0 β)(j:∀x,Rep P M β (st.t x) (a.tmps.getD x undef))(l:MLe M M')(o:BLe β β')(I:Ij P C (app st.s u) (·<e) M' β' w')(p:Rep P M' β' d v):Rel P C (nx st (XX dst st.n) d u st.n e) (a.put dst v) w':=OH f g h j l o I p
def Xb1:wfV undef:=by simp[undef,wfV]
def Xgy{g:FuncId}{e f h:List Value}{w:World}:(Deferred.ofValue (.func (.func g) ⟨e⟩ ⟨f⟩) ⟨h⟩).run P w=.ok {target:=.fn (.func g) ⟨f⟩,args:=⟨e++h⟩} w:=by simp[Deferred.ofValue,pure,Sem.run]
def RepL.map{M:Mem}{β:Loc}{t:Operand->D}{ρ:Operand->Value}(h:∀x,Rep P M β (t x) (ρ x)):∀l:List Operand,RepL P M β (l.map t) (l.map ρ)
 |[]=>by rfl
 |x::l=>by exact⟨_,_,rfl,h x,RepL.map h l⟩
def Xar{ρ:Operand->Value}{o:Oper}{c:Call}(f:o.op=.call c){x:Operand}(q:c.callee=.value x){g:FuncId}{l p:List Value}(r:ρ x=.func (.func g) ⟨l⟩ ⟨p⟩){fn:Func}(t:P.funcs[g]? = some fn)(hb:fn.body.isNone=false)(u:(fn.name== "runtime.NumGoroutine")=false)(w:World):
 (execOp ρ o).run P w=.ok (.enter g ⟨l++(c.args.toList.map ρ++p)⟩) w:=by
 unfold execOp;simp only[f,resolve,q,r];have e:c.args.map ρ=⟨c.args.toList.map ρ⟩:=by rw[←Array.toList_inj];simp
 have h:¬fn.name = "runtime.NumGoroutine":=by simpa using u
 have j:¬fn.body=none:=by intro y;rw[y]at hb;simp at hb
 simp[go_sem,Xgy,invoke,callFunc,t,j,h]
def Xh3{ρ:Operand->Value}{o:Oper}{c:Call}(f:o.op=.call c){x:Operand}(g:c.callee=.value x){l:Nat}(h:ρ x=.func (.yield l) #[] #[]){w:World}{n:Next}(j:(Instr.yield l ⟨c.args.toList.map ρ⟩).run P w=.ok n w):(execOp ρ o).run P w=.ok n w:=by
 unfold execOp;simp only[f,resolve,g,h];have e:c.args.map ρ=⟨c.args.toList.map ρ⟩:=by rw[←Array.toList_inj];simp
 rw[e];simp[go_sem,Deferred.ofValue,pure,invoke,j]
section
variable {C:Cx}{st:St}{a:Act}{w:World}
mutual
def scal_imp{ver n:Nat}:∀{d:D},scal d=true->imp ver n d=(d,n,[])
 |.any,_=>by rfl
 |.v x,_=>by rfl
 |.agg e,h=>by simp_all[scal,imp,Xb2,h]
 |.tup e,h=>by simp_all[scal,imp,Xb2,h]
 |.nsl,h=>by rfl
 |.isl ..,h=>by rfl
 |.osl ..,h=>by rfl
 |.ept ..,h=>by rfl
 |.ipt ..,h=>by rfl
 |.clo ..,h=>by simp_all[scal]
 |.ifc ..,h=>by simp_all[scal]
 |.fsl ..,h=>by simp_all[scal]
 |.fmp ..,h=>by simp_all[scal]
 |.omp ..,h=>by rfl
def Xb2{ver n:Nat}:∀{e:List D},JY e=true->VN ver n e=(e,n,[])
 |[],_=>by rfl
 |d::e,h=>by simp_all[JY,Wr,VN,scal_imp,h,Xb2,Ia]
end
def Xly(s:Heap)(ids fz:List Nat)(r:D)(ls:List Ob)(ver n:Nat)(e:∀id∈ids,∃v o,s id=some (v,o)):(aft s ids fz r ls ver n).1=(Jn s ids fz r ls ver n).1/\app s (aft s ids fz r ls ver n).2=(Jn s ids fz r ls ver n).2:=by
 unfold aft Jn;by_cases h:(scal r&&ls.all VY)=true
 .simp only[h,if_true];simp at h;rw[scal_imp h.1];exact⟨rfl,rfl⟩
 simp[h,UU,if_false,Zo,VU]
def Xgz{ρ:Operand->Value}{o:Oper}{x:Option Nat}:execOp ρ {o with dst:=x}=execOp ρ o:=by rfl
def CallX.c{K:St->Prop}{f:FuncId}{args:List D}{dst:Option Nat}(h:Xh2 P C.G f (Zu st.s args) (λids fz r ls=>
 Xq0 (aft st.s ids fz r ls st.k (64*(C.off+dst.getD 0))) (XX dst st.n) st.n (st.k+1) (λdst d u n k=>K (nx st dst d u n k)) trivial) trivial)(t:Prf args):CallX P C f args dst st K t:=by
 unfold Xh2 at h;split at h
 .rename_i Z as ids obs fz g;have⟨q,eargs,R,l,H,x⟩:=h;have⟨⟨fn,J,y,L⟩,_⟩:=id H;refine⟨⟨fn,J,y,L⟩,λM β w vs h0 I j=>?_⟩;have p:∀id∈ids,∃v o,st.s id=some (v,o):=by
   unfold Zu at g;split at g
   .rename_i O;split at g
    .simp only[Wq,Wy]at g;obtain⟨_,_,rfl,_,_⟩:=g;intro id A;obtain⟨v,E,z,cs,fz,Q⟩:=(Zk O ⟨ab,ab⟩).2 id A;exact⟨_,_,Q⟩
    cases g
   cases g
  refine(Xi3 I (ver:=st.k) aa j g q l H (64*(C.off+dst.getD 0))).mono ?_;rintro e w' ⟨v,r,ls,M',β',rfl,S,I',B,T,V⟩;have⟨W,Y⟩:=Xly st.s ids fz r ls st.k (64*(C.off+dst.getD 0)) p;rw[←W]at B;rw[←Y]at I';exact⟨v,_,_,st.k+1,M',β',rfl,I'.mono λv B=>aa,B,T,V,x r ls S⟩
 simp_all
def Xkd{o:Oper}{K:St->Prop}{K':AW}{Q:Exit->AW}(hr:Rel P C st a w)(h:XbZ P C o st K)(hK:∀st a w,Rel P C st a w->K st->K' a w):o.wpIn (fz C.rd) 0 P a w K' Q:=by
 have B:∀c,o.op≠.defer c:=by intro c e;unfold XbZ XeD at h;rw[e]at h;simp[KD,opF,Xcn]at h
 have⟨R,S,M,β,H,O,I⟩:=hr;have r:=Xde I O;unfold XbZ XeD at h;split at h
 .rename_i c Y;have z:o.op=.call c:=by
   unfold KD at Y;split at Y
   .grind
   grind
  unfold Xdi at h;split at h
  .rename_i f args j;have⟨⟨fn,hf,T,hn⟩,hX⟩:=h;unfold callee at j;split at j
   .rename_i x V;split at j
    .rename_i g first caps y
     obtain⟨rfl,rfl⟩:=j;have q:=r x;rw[y]at q;have⟨Z,vb,q,ha,hb⟩:=q;refine Xqx B ?_;unfold Oper.wp;rw[Xar z V q hf T hn w];have D:RepL P M β (first++(c.args.toList.map (ev st.t C.G)++caps)) (Z++(c.args.toList.map a.eval++vb)):=
      ha.append ((RepL.map r _).append hb)
     refine(hX M β w _ H I D).mono ?_;rintro e w' ⟨v,d,s',k',M',β',rfl,I',E,J,L,W⟩;exact hK _ _ _ (OH R S H O J L I' E) W
    cases j
   simp_all
  unfold Xfz at h;split at h;rotate_left
  .exact h.elim
  rename_i l args j;unfold XcG at j;split at j
  .rename_i x V;split at j
   .rename_i l' y;obtain⟨rfl,rfl⟩:=j;have q:=r x;rw[y]at q;obtain⟨Z,vb,q,rfl,rfl⟩:=q;obtain⟨f,tmps,assign,body,hy,hR⟩:=h M β w _ H I (RepL.map r _);refine⟨λ_ _=>trivial,?_⟩;rw[Oper.semAt_eq _ _ _ B,Xh3 z V q hy,Oper.uponIn_round];refine⟨λe=>(by cases e),hR.mono ?_⟩;rintro e w' ⟨v,d,s',k',M',β',rfl,I',E,J,L,W⟩;exact hK _ _ _ (OH R S H O J L I' E) W
   cases j
  simp_all
 refine Xqx B ?_;unfold Xcn at h;split at h
 .rename_i c d u z;have:=Xlx I (ver:=st.k) aa {o with dst:=Xgw C.off o.dst} a.eval (ev st.t C.G) r (λ_=>rfl) z h.1;obtain⟨M',β',w',v,p,I',E,J,L⟩:=this;rw[Xgz]at p;have A:Rel P C (nx st (XX o.dst st.n) d u st.n (st.k+1)) (a.put o.dst v) w':=Rel.put R S H O J L (I'.mono λv E=>by show v<st.k+1;omega) E;unfold Oper.wp;rcases p with p|⟨p,rfl⟩
  .rw[p];exact hK _ _ _ A h.2
  rw[p];exact hK _ _ _ A h.2
 simp_all
def Rel.bump(e:Rel P C st a w)(dst:Option Nat):Rel P C (nx st (XX dst st.n) (.v undef) [] st.n (st.k+1)) (a.put dst undef) w:=by have⟨f,g,M,β,h,j,I⟩:=e;exact Rel.put (u:=[]) f g h j (MLe.refl _) (BLe.refl _) (I.mono λv l=>aa) (by simp[Rep,Xb1])
def Rel.bool(e:Rel P C st a w){r:Nat}{b:Bool}(hb:st.t r=.v (.bool b)):a.tmps.getD r undef=.bool b:=by have⟨g,h,M,β,j,f,I⟩:=e;have:=f r;simp_all[hb,Rep]
def Rel.tuple(e:Rel P C st a w){r:Nat}{vs:Array Value}(hb:st.t r=.v (.tuple vs)):a.tmps.getD r undef=.tuple vs:=by have⟨g,h,M,β,j,f,I⟩:=e;have:=f r;simp_all[hb,Rep]
def Xke{full:Array Oper}{o:Oper}{x y:St->Prop}(t:Rel P C st a w)(h:Xb0 full o st x y):
 (Region.wanted o (yielded full a.tmps)=true->x st)/\(Region.wanted o (yielded full a.tmps)=false->y st):=by
 unfold Xb0 at h;split at h
 .rename_i p;have hw:Region.wanted o (yielded full a.tmps)=true:=by unfold Region.wanted;rw[p]
  simp_all
 rename_i g want p;unfold XfA at h;split at h
 .rename_i r j;unfold Kq at h;split at h
  .rename_i b hb;have f:=t.bool hb;have q:yielded full a.tmps g=some b:=by
    unfold yielded;rw[j];simp only[Iy];by_cases l:r<a.tmps.size
    .have:a.tmps[r]? = some (.bool b):=by simp[l]at f;simp[l,f]
     rw[this]
    simp[l,undef]at f
   have hw:Region.wanted o (yielded full a.tmps)=(some b==some want):=by unfold Region.wanted;rw[p];simp only;rw[q]
   rw[hw];have⟨ht,u⟩:=h;cases b
   .cases want<;>simpa using u
   cases want<;>simpa using ht
  .rename_i z hb;have f:=t.tuple hb;have q:yielded full a.tmps g=none:=by
    unfold yielded;rw[j];simp only[Iy];by_cases l:r<a.tmps.size
    .have:a.tmps[r]? = some (.tuple z):=by simp[l]at f;simp[l,f]
     rw[this]
    have:a.tmps[r]? = none:=by simp;omega
    rw[this]
   have hw:Region.wanted o (yielded full a.tmps)=false:=by unfold Region.wanted;rw[p];simp only;rw[q];rfl
   rw[hw];exact⟨λe=>(by cases e),λ_=>h⟩
  exact h.elim
 simp_all
def YJ{R:St->Prop}:∀(n:Nat) (k:List It) {st:St} {a:Act} {w:World},Rel P C st a w->run P C R n k st->sem P C (KX P C R) k none a w
 |0,k,st,a,w,_,h=>by unfold run at h;simp_all
 |n+1,[],st,a,w,f,h=>by exact⟨st,f,h⟩
 |n+1,.stop Q::k,st,a,w,f,h=>by exact⟨st,f,h⟩
 |n+1,.blk _::k,st,a,w,f,h=>by exact YJ n k f h
 |n+1,.ops full []::k,st,a,w,f,h=>by exact YJ n k f h
 |n+1,.ops full (o::rest)::k,st,a,w,f,h=>by
  have⟨r,t⟩:=Xke f h;refine wpListIn_step λK hK=>?_;split
  .rename_i hw;exact Xkd f (r hw) λu D w2 p j=>hK _ _ (YJ n (.ops full rest::k) p j)
  exact⟨λ_ _=>trivial,hK _ _ (YJ n (.ops full rest::k) (f.bump o.dst) (t (by simp_all)))⟩
 |n+1,.code .skip::k,st,a,w,f,h=>by exact wpIn_skip (YJ n k f h)
 |n+1,.code (.seq x y)::k,st,a,w,f,h=>by refine wpIn_seq ?_;refine wpIn_mono (YJ n (.code x::.code y::k) f h) ?_;intro e q w' g;cases e<;>exact g
 |n+1,.code (.cond c x y)::k,st,a,w,f,h=>by
  unfold run Xco at h;split at h
  .rename_i b hb;have j:a.eval c=.bool b:=by obtain⟨E,j,M,β,G,z,I⟩:=f;have:=Xde I z c;rw[hb]at this;simp only[Rep]at this;exact this.1
   refine wpIn_cond_split j (λe=>?_) (λe=>?_)
   .exact YJ n (.code x::k) f (h.1 e)
   exact YJ n (.code y::k) f (h.2 e)
  simp_all
 |n+1,.code (.block id c)::k,st,a,w,f,h=>by
  refine wpIn_block ?_;refine wpIn_mono (YJ n (.code c::.blk id::k) f h) ?_;intro e q w' g;cases e with
  |exit i=>
   simp only[Exit.inBlock];have g:sem P C (KX P C R) (.blk id::k) (some i) q w':=g;unfold sem at g;split at g<;>rename_i e
   .rw[Wj e];exact g
   rw[Wg e];exact g
  |_=>exact g
 |n+1,.code (.scope c)::k,st,a,w,f,h=>by refine Xh1 (wpIn_mono (YJ n (.code c::k) f h) ?_);intro e q w' g;cases e<;>exact g
 |n+1,.code (.label l)::k,st,a,w,f,h=>by exact wpIn_label (YJ n k f h)
 |n+1,.code (.exit id)::k,st,a,w,f,h=>by
  unfold run Xi6 at h;split at h
  .rename_i A B;exact wpIn_exit (V1 B (YJ n A f h))
  simp_all
 |n+1,.code .ret::k,st,a,w,f,h=>by exact wpIn_ret ⟨st,f,h⟩
 |n+1,.code (.loop c)::k,st,a,w,f,h=>by exact h a w f
 |n+1,.code (.region id ops false)::k,st,a,w,f,h=>by exact wpIn_region_list (YJ n (.ops ops ops.toList::k) f h)
 |n+1,.code (.region id ops true)::k,st,a,w,f,h=>by exact h a w f
 |n+1,.code (.rangeFunc ..)::k,st,a,w,f,h=>by unfold run at h;simp_all
 |n+1,.code (.goto ..)::k,st,a,w,f,h=>by unfold run at h;simp_all
 |n+1,.code (.refuse ..)::k,st,a,w,f,h=>by unfold run at h;simp_all
def LoopG.of{R:St->Prop}{c:Code}{k:List It}(I:Nat->St->Prop)(m n:Nat)(q:I n st)(round:∀n st,I n st->run P C R m (.code c::.stop (λf=>∃g,g<n/\I g f)::k) st)(t':Prf c):LoopG P C R c k st t':=by
 intro a w h;refine XcC (λn a w=>∃st,Rel P C st a w/\I n st) n ⟨st,h,q⟩ ?_;rintro n a w ⟨st,h,t⟩;refine wpIn_mono (YJ m _ h (round n st t)) ?_;intro e x w' p;cases e with
 |normal=>have⟨f,j,g,u,o⟩:=p;exact⟨g,u,f,j,o⟩
 |_=>exact p
def LoopU(P:Program)(C:Cx)(R:St->Prop)(c:Code)(k:List It)(n:Nat)(st:St)[Tag (C,R,c,k,st)](_:Prf c):Prop:=
 ∀a w,Rel P C st a w->Code.roundsIn (fz C.rd) 0 P c (VZ (KX P C R) (sem P C (KX P C R) k)) n a w
def LoopU.s{R:St->Prop}{c:Code}{k:List It}{st:St}{n:Nat}(m:Nat)(h:run P C R m (.code c::.stop (λf=>LoopU P C R c k n f trivial)::k) st)(t':Prf c):LoopU P C R c k (n+1) st t':=by
 intro a w l;refine wpIn_mono (YJ m _ l h) ?_;intro e o w' j;cases e with
 |normal=>have⟨f,g,p⟩:=j;exact p o w' g
 |_=>exact j
end
variable {P:Program}
mutual
def shut(s:Heap)(fr:List Nat):D->Option (Prop×D×List Nat×List Nat)
 |.osl id ver z off len=>match s id with
  |some (f,.arr false E o g fz)=>if ver=f/\z=o then
   (if id∈fr then some (off=0/\fz=0/\len<=g.length,.fsl E z (g.take len),[],[id])
    else some (off+len<=g.length,.isl E z ((g.drop off).take len),[id],[]))else none
  |_=>none
 |.omp id ver=>match s id with
  |some (f,.mp k g)=>if ver=f/\id∈fr then some (True,.fmp k (g.map (·.1)) (g.map (·.2)),[],[id])else none
  |_=>none
 |.agg h=>match Xcq s fr h with
  |some (c,j,l,m)=>some (c,.agg j,l,m)
  |none=>none
 |.tup h=>match Xcq s fr h with
  |some (c,j,l,m)=>some (c,.tup j,l,m)
  |none=>none
 |.clo fn a b=>match Xcq s fr a,Xcq s fr b with
  |some (c,p,l,m),some (q,r,u,y)=>some (c/\q,.clo fn p r,l++u,m++y)
  |_,_=>none
 |.ifc t d=>match shut s fr d with
  |some (c,e,l,m)=>some (c,.ifc t e,l,m)
  |none=>none
 |.any=>some (True,.any,[],[])
 |.v x=>some (True,.v x,[],[])
 |.nsl=>some (True,.nsl,[],[])
 |.isl E z g=>some (True,.isl E z g,[],[])
 |.ipt z h c=>some (True,.ipt z h c,[],[])
 |_=>none
def Xcq(s:Heap)(fr:List Nat):List D->Option (Prop×List D×List Nat×List Nat)
 |[]=>some (True,[],[],[])
 |d::f=>match shut s fr d,Xcq s fr f with
  |some (c,e,l,m),some (g,h,j,o)=>some (c/\g,e::h,l++j,m++o)
  |_,_=>none
end
def Blk(β:Loc)(s:Heap)(m:List Nat)(e:List (Option (Nat×Nat))):Prop:=
 ∃f:List (Nat×Nat×Option (Nat×Nat)),f.map (·.1)=m/\f.map (·.2.2)=e/\∀x∈f,β x.1 x.2.1=some x.2.2/\∃ob,s x.1=some (x.2.1,ob)
section
variable {C:Cx}{s:Heap}{U:Nat->Prop}{M M':Mem}{β:Loc}{w:World}
def Blk.nil:Blk β s [] []:=⟨[],rfl,rfl,ab⟩
def Blk.append{m e:List Nat}{b j:List (Option (Nat×Nat))}(h:Blk β s m b)(k:Blk β s e j):Blk β s (m++e) (b++j):=by have⟨f,l,o,p⟩:=h;have⟨g,k1,k2,q⟩:=k;refine⟨f++g,by simp[l,k1],by simp[o,k2],λx r=>?_⟩;grind
def O0{x:Option (Nat×Nat)}{E z:Nat}{f:List (List D)}(h:ObRep P M β w x (.arr false E z f 0))(n:Nat):ObRep P M β w x (.arr false E z (f.take n) 0):=by
 cases x with
 |none=>simp_all[ObRep]
 |some G=>
  have⟨j,T,o,p,q,H,I,r,J,t,u,g⟩:=h;have y:(f.take n).length<=f.length:=by simp;omega
  refine⟨j,T,o,p,λe A=>q e (Uc A),aa,aa,Ii (Ui _ y) r,aa,t,u,λi d hd=>g i d ?_⟩;have⟨l,B⟩:=List.take_prefix n f;grind
mutual
def shut_rep{T:List Nat}(I:Ij P C s U M β w)(L:MLe M M')(I':Ij P C (frz s T) U M' β w)(V:Frz s M' β w T){fr:List Nat}(q:∀i∈fr,i∉T):
 ∀{d r:D} {c:Prop} {l m:List Nat},shut s fr d=some (c,r,l,m)->c->(∀i∈l,i∈T)->∀{y:Value},Rep P M β d y->∃B,FrRep P M' w C.w0.heap.size r y B/\Blk β s m B
 |.osl id ver z off len,r,c,l,m,h,g,j,y,f=>by
  unfold shut at h;split at h
  .rename_i W E z' G fz H;split at h
   .rename_i e;have⟨rfl,rfl⟩:=e;split at h
    .rename_i O;obtain⟨rfl,rfl,rfl,rfl⟩:=h;obtain⟨rfl,rfl,hle⟩:=g;have Q:frz s T id=some (ver,.arr false E z G 0):=by unfold frz;rw[Wg (q id O)];exact H
     have⟨x,u,A⟩:=I'.obs id ver _ Q;have A:=O0 A len;rcases f with⟨p,_,J,a,rfl⟩|⟨b,K,o,cap,p,rfl,J,h3,h4⟩
     .rw[p]at u;refine⟨[none],?_,[(id,ver,none)],rfl,rfl,?_⟩
      .simp only[FrRep];exact .inl ⟨trivial,WZ ah,a,rfl⟩
      intro x u;simp at u;subst u;exact⟨p,_,H⟩
     rw[p]at u;obtain rfl:some (b,K)=x:=by simpa using u
     refine⟨[some (b,K)],?_,[(id,ver,some (b,K))],rfl,rfl,?_⟩
     .refine .inr ⟨b,K,o,rfl,?_,?_,?_,?_⟩
      .rcases I.own id ver _ b K H p with h|h
       .exact h
       simp[Ob.bx]at h
      .rw[show cap=K by omega,Wx,Nat.min_eq_left hle]
      .rcases h4 with h|h
       .left;simpa using h
       omega
      exact A
     intro x u;simp at u;subst u;exact⟨p,_,H⟩
    obtain⟨rfl,rfl,rfl,rfl⟩:=h;have:=snap_rep (d:=.osl id ver z off len) (d':=.isl E z ((G.drop off).take len)) (c:=off+len<=G.length) (l:=[id]) I L (by simp[snap,H]) g (λi Y=>V i (j i Y)) f;exact⟨[],by simp only[FrRep];exact⟨trivial,this⟩,Blk.nil⟩
   cases h
  simp_all
 |.agg cs,r,c,l,m,h,g,j,y,f=>by
  unfold shut at h;split at h
  .rename_i R;obtain⟨rfl,rfl,rfl,rfl⟩:=h;simp only[Rep]at f;obtain⟨vs,rfl,f⟩:=f;obtain⟨B,p,J⟩:=J4 I L I' V q R g j f;exact⟨B,by simp only[FrRep];exact⟨vs,rfl,p⟩,J⟩
  simp_all
 |.tup cs,r,c,l,m,h,g,j,y,f=>by
  unfold shut at h;split at h
  .rename_i R;simp only[Wq,Wy]at h;obtain⟨rfl,rfl,rfl,rfl⟩:=h;simp only[Rep]at f;obtain⟨vs,rfl,f⟩:=f;obtain⟨B,p,J⟩:=J4 I L I' V q R g j f;exact⟨B,by simp only[FrRep];exact⟨vs,rfl,p⟩,J⟩
  simp_all
 |.clo fn a b,r,c,l,m,h,g,j,y,f=>by
  unfold shut at h;split at h
  .rename_i R hf;simp only[Wq,Wy]at h;obtain⟨rfl,rfl,rfl,rfl⟩:=h;simp only[Rep]at f;obtain⟨va,vb,rfl,hr1,hr2⟩:=f;obtain⟨B,p,J⟩:=J4 I L I' V q R g.1 (λi Y=>j i (WX _ Y)) hr1;obtain⟨Z,h3,h4⟩:=J4 I L I' V q hf g.2 (λi Y=>j i (Uy _ Y)) hr2;exact⟨B++Z,by simp only[FrRep];exact⟨va,vb,rfl,B,Z,rfl,p,h3⟩,J.append h4⟩
  simp_all
 |.ifc t d,r,c,l,m,h,g,j,y,f=>by
  unfold shut at h;split at h
  .rename_i R;simp only[Wq,Wy]at h;obtain⟨rfl,rfl,rfl,rfl⟩:=h;simp only[Rep]at f;obtain⟨x,rfl,f⟩:=f;obtain⟨B,p,J⟩:=shut_rep I L I' V q R g j f;exact⟨B,by simp only[FrRep];exact⟨x,rfl,p⟩,J⟩
  simp_all
 |.any,r,c,l,m,h,g,j,y,f=>by simp only[shut,Wq,Wy]at h;obtain⟨rfl,rfl,rfl,rfl⟩:=h;exact⟨[],by rfl,Blk.nil⟩
 |.v x,r,c,l,m,h,g,j,y,f=>by simp only[shut,Wq,Wy]at h;obtain⟨rfl,rfl,rfl,rfl⟩:=h;exact⟨[],by simp_all[FrRep,Rep],Blk.nil⟩
 |.nsl,r,c,l,m,h,g,j,y,f=>by simp only[shut,Wq,Wy]at h;obtain⟨rfl,rfl,rfl,rfl⟩:=h;exact⟨[],by simp_all[FrRep,Rep],Blk.nil⟩
 |.isl E z G,r,c,l,m,h,g,j,y,f=>by simp only[shut,Wq,Wy]at h;obtain⟨rfl,rfl,rfl,rfl⟩:=h;have:=f.mono L (BLe.refl _);exact⟨[],by simp_all[FrRep,Rep],Blk.nil⟩
 |.ipt z cs k,r,c,l,m,h,g,j,y,f=>by simp only[shut,Wq,Wy]at h;obtain⟨rfl,rfl,rfl,rfl⟩:=h;have:=f.mono L (BLe.refl _);exact⟨[],by simp_all[FrRep,Rep],Blk.nil⟩
 |.ept ..,r,c,l,m,h,g,j,y,f=>by simp_all[shut]
 |.fsl ..,r,c,l,m,h,g,j,y,f=>by simp_all[shut]
 |.fmp ..,r,c,l,m,h,g,j,y,f=>by simp_all[shut]
 |.omp id ver,r,c,l,m,h,g,j,y,f=>by
  unfold shut at h;split at h
  .rename_i W k G H;split at h
   .rename_i S;obtain⟨rfl,O⟩:=S;simp only[Wq,Wy]at h;obtain⟨rfl,rfl,rfl,rfl⟩:=h;have Q:frz s T id=some (ver,.mp k G):=by unfold frz;rw[Wg (q id O)];exact H
    obtain⟨x,u,A⟩:=I'.obs id ver _ Q;simp only[Rep]at f;obtain⟨b,K,p,rfl⟩:=f;rw[p]at u;obtain rfl:some (b,K)=x:=by simpa using u
    obtain rfl:K=0:=A.1;refine⟨[some (b,0)],?_,[(id,ver,some (b,0))],rfl,rfl,?_⟩
    .simp only[FrRep];refine⟨b,rfl,?_,rfl,ab,?_⟩
     .rcases I.own id ver _ b 0 H p with h|h
      .exact h
      simp[Ob.bx]at h
     rw[show(G.map (·.1)).zip (G.map (·.2))=G by rw[List.zip_map'];simp];exact A
    intro x u;simp at u;subst u;exact⟨p,_,H⟩
   cases h
  simp_all
def J4{j:List Nat}(I:Ij P C s U M β w)(A:MLe M M')(I':Ij P C (frz s j) U M' β w)(B:Frz s M' β w j){fr:List Nat}(e:∀i∈fr,i∉j):
 ∀{q rs:List D} {c:Prop} {l m:List Nat},Xcq s fr q=some (c,rs,l,m)->c->(∀i∈l,i∈j)->∀{o:List Value},RepL P M β q o->∃f,FrRepL P M' w C.w0.heap.size rs o f/\Blk β s m f
 |[],rs,c,l,m,h,r,t,o,p=>by obtain⟨rfl,rfl,rfl,rfl⟩:=h;simp only[RepL]at p;exact⟨[],by simp[FrRepL,p],Blk.nil⟩
 |d::q,rs,c,l,m,h,r,t,o,p=>by
  unfold Xcq at h;split at h
  .rename_i E G;obtain⟨rfl,rfl,rfl,rfl⟩:=h;obtain⟨x,H,rfl,u,y⟩:=p;have⟨f,J,K⟩:=shut_rep I A I' B e E r.1 (λi z=>t i (WX _ z)) u;have⟨g,L,O⟩:=J4 I A I' B e G r.2 (λi z=>t i (Uy _ z)) y;exact⟨f++g,by exact⟨x,H,f,g,rfl,rfl,J,L⟩,K.append O⟩
  simp_all
end
def Blk.nodup(I:Ij P C s U M β w){m:List Nat}{z:List (Option (Nat×Nat))}(h:Blk β s m z)(A:m.Nodup):(X1 z).Nodup:=by
 obtain⟨f,rfl,rfl,l⟩:=h;induction f with
 |nil=>assumption
 |cons x f p=>
  simp at A;have p:=p A.2 λy q=>l y (WC _ q);have⟨i,v,o⟩:=x;cases o with
  |none=>assumption
  |some D=>
   have⟨b,r⟩:=D;have e:X1 (((i,v,some (b,r))::f).map (·.2.2))=b::X1 (f.map (·.2.2)):=by simp[X1]
   rw[e,List.nodup_cons];refine⟨λhb=>?_,p⟩;simp only[X1,List.mem_filterMap,WG]at hb;obtain⟨o',⟨y,q,rfl⟩,hb⟩:=hb;have⟨j,B,o'⟩:=y;simp only[Uv]at hb;obtain⟨⟨t,g⟩,rfl,rfl⟩:=hb;have⟨E,ob,G⟩:=l (i,v,some (t,r)) ab;have⟨H,u,J⟩:=l (j,B,some (t,g)) (WC _ q);have:=I.inj i v ob j B u t r g G J E H;simp_all
mutual
def fitsR:D->D->Prop
 |.nsl,.isl _ _ f=>f=[]
 |.nsl,.fsl _ _ f=>f=[]
 |.agg g,.agg h=>Vt g h
 |.tup g,.tup h=>Vt g h
 |.ifc t d,.ifc j e=>t=j/\fitsR d e
 |d,e=>d=e
def Vt:List D->List D->Prop
 |[],[]=>True
 |d::f,e::g=>fitsR d e/\Vt f g
 |_,_=>False
end
def RetG(r:D)(obs:List Ob)(R':D->List Ob->Prop):Prop:=∃e,fitsR r e/\R' e obs
mutual
def fitsR_refl:∀d:D,fitsR d d
 |.agg e=>by exact V2 e
 |.tup e=>by exact V2 e
 |.ifc t d=>by simp only[fitsR];exact⟨trivial,fitsR_refl d⟩
 |.nsl=>by rfl
 |.any=>by rfl
 |.v _=>by rfl
 |.isl ..=>by rfl
 |.osl ..=>by rfl
 |.ept ..=>by rfl
 |.ipt ..=>by rfl
 |.clo ..=>by rfl
 |.fsl ..=>by rfl
 |.fmp ..=>by rfl
 |.omp ..=>by rfl
def V2:∀e:List D,Vt e e
 |[]=>by simp[Vt]
 |d::e=>by exact⟨fitsR_refl d,V2 e⟩
end
def RetG.same{r:D}{obs:List Ob}{R':D->List Ob->Prop}(h:R' r obs):RetG r obs R':=⟨r,fitsR_refl r,h⟩
mutual
def fitsR_rep{M:Mem}{w:World}{B:Nat}:∀{d e:D} {y:Value} {l:List (Option (Nat×Nat))},fitsR d e->FrRep P M w B d y l->∃g,FrRep P M w B e y g/\X1 g=X1 l
 |.nsl,e,y,l,h,f=>by
  cases e with
  |isl E z p=>grind[fitsR,FrRep,Rep,Xw]
  |fsl E z p=>subst h;obtain⟨rfl,a,rfl⟩:=f;refine⟨[none],?_,rfl⟩;simp[FrRep]
  |nsl=>grind
  |_=>simp[fitsR]at h
 |.agg q,e,y,l,h,f=>by
  cases e with
  |agg r=>simp only[FrRep]at f⊢;obtain⟨u,rfl,f⟩:=f;have⟨g,j,o⟩:=Xa2 h f;grind
  |_=>simp[fitsR]at h
 |.tup q,e,y,l,h,f=>by
  cases e with
  |tup r=>simp only[FrRep]at f⊢;obtain⟨u,rfl,f⟩:=f;have⟨g,j,o⟩:=Xa2 h f;grind
  |_=>simp[fitsR]at h
 |.ifc t d,e,y,l,h,f=>by
  cases e with
  |ifc A e=>have⟨rfl,h⟩:=h;simp only[FrRep]at f⊢;obtain⟨x,rfl,f⟩:=f;have⟨g,j,o⟩:=fitsR_rep h f;grind
  |_=>simp[fitsR]at h
 |.any,e,y,l,h,f=>by grind[fitsR]
 |.v x,e,y,l,h,f=>by grind[fitsR]
 |.isl a b c,e,y,l,h,f=>by grind[fitsR]
 |.ipt a b c,e,y,l,h,f=>by grind[fitsR]
 |.fsl a b c,e,y,l,h,f=>by grind[fitsR]
 |.fmp a b c,e,y,l,h,f=>by grind[fitsR]
 |.clo a b c,e,y,l,h,f=>by grind[fitsR]
 |.osl ..,e,y,l,h,f=>by simp_all[FrRep]
 |.ept ..,e,y,l,h,f=>by simp_all[FrRep]
 |.omp ..,e,y,l,h,f=>by simp_all[FrRep]
def Xa2{M:Mem}{w:World}{B:Nat}:∀{j f:List D} {g:List Value} {l:List (Option (Nat×Nat))},Vt j f->FrRepL P M w B j g l->∃q,FrRepL P M w B f g q/\X1 q=X1 l
 |[],f,g,l,h,r=>by grind[Vt]
 |d::j,f,g,l,h,r=>by
  cases f with
  |nil=>simp_all[Vt]
  |cons e f=>obtain⟨x,z,A,E,rfl,rfl,t,u⟩:=r;have⟨o,k1,k2⟩:=fitsR_rep h.1 t;have⟨p,G,y⟩:=Xa2 h.2 u;exact⟨o++p,by grind[FrRepL],by simp[Ya,k2,y]⟩
end
def Xbn:Nat->Nat->List Nat
 |_,0=>[]
 |k,n+1=>(LB+k)::Xbn (k+1) n
def Xas:∀(n k j:Nat),j<n->(Xbn k n)[j]? = some (LB+(k+j))
 |0,_,_,h=>by omega
 |n+1,k,0,_=>by rfl
 |n+1,k,j+1,h=>by simp only[Xbn,Iz];rw[Xas n (k+1) j aa];grind
def K8:∀(n k:Nat),(Xbn k n).length=n
 |0,_=>rfl
 |n+1,k=>by simp[Xbn,K8 n (k+1)]
def Xot(s:Heap):List Nat->Prop
 |[]=>True
 |i::l=>(s i).map (·.1)=some 0/\Xot s l
def XgA{s:Heap}:∀{l:List Nat} {j i:Nat},Xot s l->l[j]? = some i->(s i).map (·.1)=some 0
 |[],j,i,_,h=>by grind
 |x::l,0,i,e,h=>by simp at h;subst h;exact e.1
 |x::l,j+1,i,e,h=>XgA e.2 (by simpa using h)
def Xlz(st:St)(P:Program):ResultVar->Option (Prop×D)
 |.tmp t=>some (True,st.t t)
 |.cell a T=>match Xt P T,Xfl st.s (st.t a)with
  |some ty,some (c,e,o,z)=>if o+ty.size<=z/\(ty.isAgg=true\/ty.size=1)then some (c,Js ty.isAgg ((e.drop o).take ty.size))else none
  |_,_=>none
def XgB(st:St)(P:Program):List ResultVar->Option (Prop×List D)
 |[]=>some (True,[])
 |x::l=>match Xlz st P x,XgB st P l with
  |some (c,d),some (e,f)=>some (c/\e,d::f)
  |_,_=>none
def Xh4:List D->D
 |[d]=>d
 |e=>.tup e
def XaP(P:Program)(results:List ResultVar)(fr:List Nat)(g:Nat)(R':D->List Ob->Prop)(st:St):Prop:=
 match XgB st P results with
 |some (c,h)=>match shut st.s fr (Xh4 h),Jv st.s (Xbn 0 g)with
  |some (c1,r,e,j),some (l,obs,f)=>c/\c1/\l/\Xot st.s (Xbn 0 g)/\j.Nodup/\(∀i∈fr,i∉e++f)/\RetG r obs R'
  |_,_=>False
 |none=>False
end
variable {P:Program}
section
variable {C:Cx}{s:Heap}{U:Nat->Prop}{M:Mem}{β:Loc}{w:World}
def Xdj(tmps:Array Value):ResultVar->Sem Value
 |.tmp t=>pure (tmps.getD t undef)
 |.cell a t=>do loadVar t (←asAddr (tmps.getD a undef))
def Xou{st:St}(I:Ij P C st.s U M β w){tmps:Array Value}(l:∀x,Rep P M β (st.t x) (tmps.getD x undef)){x:ResultVar}{c:Prop}{d:D}(h:Xlz st P x=some (c,d))(p:c):
 ∃v,(Xdj tmps x).run P w=.ok v w/\Rep P M β d v:=by
 cases x with
 |tmp t=>obtain⟨rfl,rfl⟩:=h;exact⟨_,rfl,l t⟩
 |cell a T=>
  simp only[Xlz]at h;split at h
  .rename_i q r;split at h
   .rename_i e;obtain⟨rfl,rfl⟩:=h;have⟨b,u,y,g,f⟩:=XiW I r p (l a);obtain⟨v,z,j⟩:=Xda q w M β b u _ _ _ g e.1 f (λo=>by rcases e.2 with h|h;(rw[h]at o;cases o);exact h);refine⟨v,?_,j⟩;unfold Xdj;simp only;rw[y];simp[asAddr,z]
   cases h
  simp_all
def Xi7{st:St}{f:ResultVar->Sem Value}(o:∀x c d,Xlz st P x=some (c,d)->c->∃v,(f x).run P w=.ok v w/\Rep P M β d v):∀{l:List ResultVar} {c:Prop} {e:List D},XgB st P l=some (c,e)->c ->
 ∃g,(l.mapM f).run P w=.ok g w/\RepL P M β e g
 |[],c,e,h,j=>by simp_all[XgB,Wq,Wy,RepL]
 |x::l,c,e,h,j=>by
  unfold XgB at h;split at h
  .rename_i p q;obtain⟨rfl,rfl⟩:=h;have⟨v,r,t⟩:=o _ _ _ p j.1;have⟨g,u,y⟩:=Xi7 o q j.2;refine⟨v::g,?_,by exact⟨_,_,rfl,t,y⟩⟩;simp only[List.mapM_cons,Sem.run_bind,Result.andThen_ok,Sem.run_pure,u,r]
  simp_all
def Xa3{st:St}(I:Ij P C st.s U M β w){tmps:Array Value}(q:∀x,Rep P M β (st.t x) (tmps.getD x undef)){fn:Func}{l:List ResultVar}(r:fn.results=⟨l⟩){c:Prop}{ds:List D}(h:XgB st P l=some (c,ds))(p:c):
 ∃v,(results fn tmps).run P w=.ok v w/\Rep P M β (Xh4 ds) v:=by
 have⟨g,u,j⟩:=Xi7 (f:=Xdj tmps) (λx c d y p=>Xou I q y p) h p;have z:(fn.results.mapM (Xdj tmps)).run P w=.ok g.toArray w:=by rw[r,Array.mapM_eq_mapM_toList];simp only[Sem.run_map,u,Result.andThen_ok]
 have e:(results fn tmps).run P w=.ok (if h:g.toArray.size=1 then g.toArray[0]else .tuple g.toArray) w:=by show((fn.results.mapM (Xdj tmps)) >>= λg=>pure (if h:g.size=1 then g[0]else .tuple g):Sem Value).run P w=_;simp only[Sem.run_bind,z,Result.andThen_ok,Sem.run_pure]
 refine⟨_,e,?_⟩;have o:=j.length;match ds,g,j,o with
 |[d],[v],j,_=>simp_all[RepL,Xh4]
 |[],[],j,_=>simp[Xh4,Rep,RepL]
 |d::B::ds,v::A::g,j,_=>
  have:¬(v::A::g).toArray.size=1:=by simp
  simp_all[dif_neg,this,Xh4,Rep]
def XeE{s:Heap}:∀{ids:List Nat}{r},Jv s ids=some r->∀id∈ids,∃v E z f fz,s id=some (v,.arr true E z [f] fz)
 |[],r,h,id,e=>by simp_all
 |i::ids,r,h,id,e=>by
  unfold Jv at h;split at h
  .rename_i v E z f fz g;split at h
   .rename_i l j;rcases Us.1 e with rfl|e
    .exact⟨_,_,_,_,_,g⟩
    exact XeE j id e
   cases h
  simp_all
def st0(args:List D)(lent:List Ob)(n:Nat):St:=⟨λi=>(args[i]?).getD (.v undef),Ju lent,n,1⟩
def XeF{G:Nat->Option (List D)}{lb:List (Nat×Nat)}{lent:List Ob}(W:MemOK M w)(hG:∀g T,G g=some T->RepC P M T g 0)(E:lb.length=lent.length)(J:(lb.map (·.1)).Nodup)(H:∀(k:Nat)ob x,lent[k]? = some ob->lb[k]? = some x->ObRep P M YH w (some x) ob/\ob.bx=true):Ij P ⟨G,M,w,lb.map (·.1),KW lb,M,0,none,[]⟩ (Ju lent) (·<1) M (KW lb) w:=by
 have hsplit:∀id v ob,Ju lent id=some (v,ob)->LB<=id/\v=0/\lent[id-LB]? = some ob:=by
  intro id v ob h;unfold Ju at h;split at h
  .rename_i q;simp only[Uv,Wy]at h;obtain⟨o,t,rfl,rfl⟩:=h;exact⟨q,rfl,t⟩
  cases h
 have f:∀id v x,KW lb id v=some x->v=0/\LB<=id/\∃y,lb[id-LB]? = some y/\x=some y:=by
  intro id v x h;unfold KW at h;split at h
  .rename_i q;simp only[Uv]at h;obtain⟨o,t,rfl⟩:=h;exact⟨q.1,q.2,o,t,rfl⟩
  cases h
 constructor
 .exact W
 .intro id v x h;obtain⟨rfl,_⟩:=f id v x h;exact Nat.zero_lt_one
 .intro id v ob h;obtain⟨t,rfl,I⟩:=hsplit id v ob h;have p:id-LB<lb.length:=by
   rw[E];rcases UM (id-LB) lent.length with l|l
   .exact l
   simp[W3 l]at I
  refine⟨some lb[id-LB],?_,?_⟩
  .unfold KW;rw[Wj ⟨rfl,t⟩];simp[p]
  obtain⟨g1,_⟩:=H _ ob lb[id-LB] I (Wb p);exact g1.mono (MLe.refl _) (BLe.zero _) (λ_ _ _=>rfl) (λ_ _ _ _=>rfl)
 .intro id v ob b Y h hb;have⟨t,rfl,I⟩:=hsplit id v ob h;have⟨_,_,y,A,e⟩:=f _ _ _ hb;simp at e;subst e;exact .inr ⟨WG.2 ⟨_,WW A,rfl⟩,(H _ ob _ I A).2⟩
 .intro id v ob r Z K b Y cb' h l hb L;have⟨t,rfl,I⟩:=hsplit id v ob h;have⟨O,rfl,h2'⟩:=hsplit r Z K l;have⟨_,_,y,A,e⟩:=f _ _ _ hb;have⟨_,_,y',z,B⟩:=f _ _ _ L;simp at e B;subst e;subst B;have hn:=Uf.1 (IX.1 J);have p:id-LB<lb.length:=by
   rcases UM (id-LB) lb.length with l|l
   .exact l
   simp[W3 l]at A
  have u:r-LB<lb.length:=by
   rcases UM (r-LB) lb.length with l|l
   .exact l
   simp[W3 l]at z
  have key:∀i j,i<j->∀(Q:i<lb.length) (R:j<lb.length),∀c V,lb[i]? = some (b,c)->lb[j]? = some (b,V)->False:=by intro i j S Q R c V e B;rw[Wb Q]at e;rw[Wb R]at B;simp only[Wq]at e B;exact hn i j (by simpa using Q) (by simpa using R) S (by simp[e,B])
  rcases IR (id-LB) (r-LB)with h|h|h
  .exact(key _ _ h p u _ _ A z).elim
  .rw[←Nat.sub_add_cancel t,←Nat.sub_add_cancel O,h]
  exact(key _ _ h u p _ _ z A).elim
 .exact Kp.refl _ _
 .intro b o _;rfl
 .exact MLe.refl _
 omega
def Xat{C:Cx}{fn:Func}{args:List D}{e:List Value}{nt k:Nat}{s:Heap}{M:Mem}{β:Loc}(hd:C.df=[])(hb:BLe C.b0 β)(g:RepL P M β args e)(o:fn.ntmps=nt)(h:args.length<=nt)(I:Ij P C s (·<k) M β w):
 Rel P C ⟨λi=>(args[i]?).getD (.v undef),s,nt,k⟩ {tmps:=(⟨e⟩:Array Value)++Array.replicate (fn.ntmps-(⟨e⟩:Array Value).size) undef,defers:=[]} w:=by
 have p:=g.length;refine⟨hd.symm,by simp_all,M,β,hb,λi=>?_,I⟩;show Rep P M β ((args[i]?).getD (.v undef)) (((⟨e⟩:Array Value)++Array.replicate (fn.ntmps-(⟨e⟩:Array Value).size) undef).getD i undef);rcases UM i args.length with l|l
 .have⟨x,j,q⟩:=g.get i args[i] (Wb l);have:((⟨e⟩:Array Value)++Array.replicate (fn.ntmps-(⟨e⟩:Array Value).size) undef).getD i undef=x:=by have f:i<e.length:=aa;rw[Wb f]at j;simp only[Wq]at j;simp[Array.getElem?_append,f,j]
  simp_all
 have:((⟨e⟩:Array Value)++Array.replicate (fn.ntmps-(⟨e⟩:Array Value).size) undef).getD i undef=undef:=by have f:¬i<e.length:=aa;simp only[Array.getD_eq_getD_getElem?,Array.getElem?_append];simp only[List.size_toArray,f,if_false];rw[Array.getElem?_replicate];split<;>rfl
 simp_all[this,Rep,Xb1]
def Xdk{C:Cx}{fn:Func}{rs:List ResultVar}{fr:List Nat}{lent:List Ob}{lb:List (Nat×Nat)}{R':D->List Ob->Prop}(K:C.lb=lb.map (·.1))(L:BLe (KW lb) C.b0)(f:lb.length=lent.length)(O:fn.results=⟨rs⟩):
 ∀a w',KX P C (XaP P rs fr lent.length R') a w'->∃v,(results fn a.tmps).run P w'=.ok v w'/\Xoq P C.M0 C.w0 lb R' (.returned v) w':=by
 rintro a w' ⟨st,⟨h1,h2,M',β,h0,h3,I⟩,e⟩;unfold XaP at e;split at e
 .rename_i c ds q;split at e
  .rename_i c1 r Q fh c2 obs R S t;have⟨hc,T,V,u,W,y,Y⟩:=e;have⟨v,hv,Z⟩:=Xa3 I h3 O q hc;have⟨M2,I2,A,hF⟩:=I.freeze (Q++R);have⟨bl,hfr,hbl⟩:=shut_rep I A I2 hF y S T (λi hi=>WX _ hi) Z;have hL:Xfy st.s β (Xbn 0 lent.length) lb:=by
    intro j id B;have h:j<lent.length:=by
     rcases UM j lent.length with h'|h'
     .exact h'
     rw[W3 (by rw[K8];exact h')]at B;cases B
    rw[Xas _ _ _ h]at B;simp only[Wq,Ue]at B;subst B;have l:=XgA u (Xas lent.length 0 j h);rw[Ue]at l;simp only[Uv]at l;obtain⟨⟨v',ob⟩,hs,rfl⟩:=l;have hβ:β (LB+j) 0=some (some (lb[j]'aa)):=by refine h0 _ _ _ (L _ _ _ ?_);show KW lb (LB+j) 0=_;unfold KW;rw[Wj ⟨rfl,Nat.le_add_right _ _⟩];have:LB+j-LB=j:=Nat.add_sub_cancel_left ..;rw[this];rw[Wb aa];rfl
    have G:∃E z H fz,ob=.arr true E z [H] fz:=by have g:=XeE t _ (WW (Xas lent.length 0 j h));rw[Ue]at g;obtain⟨v,E,z,H,fz,p⟩:=g;rw[hs]at p;simp only[Wq,Wy]at p;exact⟨E,z,H,fz,p.2⟩
    obtain⟨E,z,H,fz,rfl⟩:=G;exact⟨0,E,z,H,fz,lb[j]'aa,hs,Wb aa,hβ⟩
   have⟨g1,g2⟩:=XbW I A I2 hF t V (λx hx=>Uy _ hx) hL (by rw[K8,f]);have⟨r',hrr,Y⟩:=Y;have⟨bl',J,hbb⟩:=fitsR_rep hrr hfr;refine⟨v,hv,v,r',obs,M2,bl',rfl,Y,K▸I.keep,I2.mem,λb o hb=>?_,?_,g2,J,hbb▸hbl.nodup I W⟩
   .exact I2.old b o hb
   rw[g1,K8,f]
  exact e.elim
 simp_all
def Xer{G:Nat->Option (List D)}{f:FuncId}{fn:Func}{body:Code}{rs:List ResultVar}{args:List D}{lent:List Ob}{R':D->List Ob->Prop}(fr:List Nat)(nt:Nat)(z:P.funcs[f]? = some fn)(hb:fn.body=some body)(A:(fn.name== "runtime.NumGoroutine")=false)(q:fn.results=⟨rs⟩)(r:fn.ntmps=nt)(j:args.length<=nt)(h:∀(C:Cx)x,C.G=G->C.lb.length=lent.length->WfL P args->∀a w,Rel P (C.sub 0 x) (st0 args lent nt) a w->sem P (C.sub 0 x) (KX P (C.sub 0 x) (XaP P rs fr lent.length R')) [.code body] none a w):ZD P G f args lent R':=by
 refine⟨⟨fn,z,by grind,A⟩,λM w I lb B E g t u l=>?_⟩;refine calls_of_wp z hb ?_;have I0:=XeF (G:=G) B E g t u;have o:Rel P ⟨G,M,w,lb.map (·.1),KW lb,M,0,none,[]⟩ (st0 args lent nt) _ w:=Xat rfl (BLe.refl _) l r j I0;have p:=h ⟨G,M,w,lb.map (·.1),KW lb,M,0,none,[]⟩ (M,KW lb) rfl (by simp_all) l.wf _ _ o;refine wp_mono ((wpIn_wide (n:=0)).1 p) ?_;have fin:∀a w',KX P ⟨G,M,w,lb.map (·.1),KW lb,M,0,none,[]⟩ (XaP P rs fr lent.length R') a w'->a.defers=[]/\∃v,(results fn a.tmps).run P w'=.ok v w'/\Xoq P M w lb R' (.returned v) w':=λa w' h=>⟨by have⟨st,H,_⟩:=h;exact H.1,Xdk rfl (BLe.refl _) g q a w' h⟩
 intro e a w' y;cases e with
 |normal=>exact fin a w' y
 |ret=>exact fin a w' y
 |exit id=>assumption
 |_=>exact y.elim
def JN{G:Nat->Option (List D)}{f:FuncId}{fn:Func}{body:Code}{rs:List ResultVar}{args:List D}{lent:List Ob}{R':D->List Ob->Prop}(m:Nat)(fr:List Nat)(nt:Nat)(o:P.funcs[f]? = some fn)(hb:fn.body=some body)(p:(fn.name== "runtime.NumGoroutine")=false)(g:fn.results=⟨rs⟩)(j:fn.ntmps=nt)(e:args.length<=nt)(h:∀(C:Cx)x,C.G=G->WfL P args->run P (C.sub 0 x) (XaP P rs fr lent.length R') m [.code body] (st0 args lent nt)):ZD P G f args lent R':=
 Xer fr nt o hb p g j e λC x q _ l a w r=>YJ m _ r (h C x q l)
def stI(args:List D)(s:Heap)(n k:Nat):St:=⟨λi=>(args[i]?).getD (.v undef),s,n,k⟩
def Xov(P:Program)(rs:List ResultVar)(K:D->Heap->Nat->Prop)(st:St):Prop:=match XgB st P rs with
 |some (c,e)=>c/\K (Xh4 e) st.s st.k
 |none=>False
def kOf(dst:Option Nat)(st:St)(K:St->Prop):D->Heap->Nat->Prop:=λd s k=>K (nxS st (XX dst st.n) d s st.n k)
def CallX.inl{C:Cx}{f:FuncId}{args:List D}{dst:Option Nat}{st:St}{K:St->Prop}(off:Nat){fn:Func}{rs:List ResultVar}{nt:Nat}(m:Nat)(o:(P.funcs[f]?,fn.body,fn.name== "runtime.NumGoroutine",fn.results,fn.ntmps,args.length.ble nt)=(some fn,some (fn.body.get!),false,⟨rs⟩,nt,true))(h:∀x,run P (C.sub off x) (Xov P rs (kOf dst st K)) m [.code (fn.body.get!)] (stI args st.s nt st.k))(t:Prf args):CallX P C f args dst st K t:=by
 injection o with G o;injection o with hb o;injection o with J o;injection o with u o;injection o with y j;have j:=Ol j;refine⟨⟨fn,G,by grind,J⟩,λM β w V W I z=>?_⟩;refine calls_of_wp G hb ?_;have I0:Ij P (C.sub off (M,β)) st.s (·<st.k) M β w:=⟨I.mem,I.used,I.obs,I.own,I.inj,I.keep,I.old,MLe.refl _,λg L O=>RepC.mono I.le (I.glob g L O)⟩
 have p:Rel P (C.sub off (M,β)) (stI args st.s nt st.k) _ w:=Xat rfl (BLe.refl _) z y j I0;have q:=YJ m _ p (h (M,β));refine wp_mono ((wpIn_wide (n:=0)).1 q) ?_;have fin:∀a w',KX P (C.sub off (M,β)) (Xov P rs (kOf dst st K)) a w'->a.defers=[]/\∃v,(results fn a.tmps).run P w'=.ok v w' /\
  (λe w'=>∃v d s' H M' β',e=Ending.returned v/\Ij P C s' (·<H) M' β' w'/\Rep P M' β' d v/\MLe M M'/\BLe β β'/\K (nxS st (XX dst st.n) d s' st.n H)) (.returned v) w':=by
  rintro a w' ⟨Q,⟨R,Y,M',β',A,S,I'⟩,l⟩
  refine⟨R,?_⟩
  unfold Xov at l
  split at l
  .rename_i c Z r
   have⟨v,T,B⟩:=Xa3 I' S u r l.1
   exact⟨v,T,v,_,_,_,M',β',rfl,⟨I'.mem,I'.used,I'.obs,I'.own,I'.inj,I'.keep,I'.old,I.le.trans I'.le,I.glob⟩,B,I'.le,A,l.2⟩
  .grind
 intro e a w' E;cases e with
 |normal=>exact fin a w' E
 |ret=>exact fin a w' E
 |exit id=>assumption
 |_=>exact E.elim
def XfB{G:Nat->Option (List D)}{f:FuncId}{E z:Nat}{args:List D}{lent:List Ob}{R':D->List Ob->Prop}(h:∀a cap,ZD P G f (.v (.slice a 0 cap)::args) lent R'):ZD P G f (.isl E z []::args) lent R':=by refine⟨(h none 0).1,λM w r lb e g j l o p=>?_⟩;obtain⟨x,t,rfl,⟨_,_,_,a,cap,rfl,_⟩,q⟩:=p;refine(h a cap).2 M w _ lb e g j l o ?_;exact⟨_,_,rfl,⟨rfl,trivial⟩,q⟩
end
variable {P:Program}{C:Cx}{R:St->Prop}
section
variable {n:Nat}{k:List It}{st:St}
def Xow:run P C R (n+1) [] st=R st:=propext Iff.rfl
def XlA{Q:St->Prop}:run P C R (n+1) (.stop Q::k) st=Q st:=propext Iff.rfl
def Xox{i:Nat}:run P C R (n+1) (.blk i::k) st=run P C R n k st:=propext Iff.rfl
def XlB{full:Array Oper}:run P C R (n+1) (.ops full []::k) st=run P C R n k st:=propext Iff.rfl
def Xq1{full:Array Oper}{o:Oper}{rest:List Oper}:run P C R (n+1) (.ops full (o::rest)::k) st=Xb0 full o st
 (λst=>XbZ P C o st (run P C R n (.ops full rest::k)))
 (λst=>Xgx (XX o.dst st.n) st.n (st.k+1) (λdst m j=>run P C R n (.ops full rest::k) (nx st dst (.v undef) [] m j)) trivial):=propext Iff.rfl
def XlC:run P C R (n+1) (.code .skip::k) st=run P C R n k st:=propext Iff.rfl
def Xoy{x y:Code}:run P C R (n+1) (.code (.seq x y)::k) st=run P C R n (.code x::.code y::k) st:=propext Iff.rfl
def XlD{c:Operand}{x y:Code}:run P C R (n+1) (.code (.cond c x y)::k) st=Xco (ev st.t C.G c) c st (run P C R n (.code x::k)) (run P C R n (.code y::k)) trivial:=propext Iff.rfl
def Xkf{i:Nat}{c:Code}:run P C R (n+1) (.code (.block i c)::k) st=run P C R n (.code c::.blk i::k) st:=propext Iff.rfl
def Xkg{c:Code}:run P C R (n+1) (.code (.scope c)::k) st=run P C R n (.code c::k) st:=propext Iff.rfl
def Xkh{i:Nat}:run P C R (n+1) (.code (.label i)::k) st=run P C R n k st:=propext Iff.rfl
def XlE{i:Nat}:run P C R (n+1) (.code (.exit i)::k) st=Xi6 (Xcp i k) (λe=>run P C R n e st) trivial:=propext Iff.rfl
def Xoz:run P C R (n+1) (.code .ret::k) st=R st:=propext Iff.rfl
def XlF{c:Code}:run P C R (n+1) (.code (.loop c)::k) st=LoopG P C R c k st trivial:=propext Iff.rfl
def Xh5{i:Nat}{ops:List Oper}:run P C R (n+1) (.code (.region i ⟨ops⟩ false)::k) st=run P C R n (.ops ⟨ops⟩ ops::k) st:=propext Iff.rfl
def Xki{i:Nat}{ops:Array Oper}:run P C R (n+1) (.code (.region i ops true)::k) st=DrawnG P C R i ops k st trivial:=propext Iff.rfl
variable {full:Array Oper}{dst:Option Nat}{op:Op}{ty:Nat}{pos:String}{af:Array Edge}{x y:St->Prop}{K:St->Prop}
def XgC:Xb0 full ⟨dst,op,ty,pos,af,none⟩ st x y=x st:=propext Iff.rfl
def XgD{g:Nat}{want:Bool}:Xb0 full ⟨dst,op,ty,pos,af,some (g,want)⟩ st x y=XfA ((full[g]?).bind (·.dst)) want st x y trivial:=propext Iff.rfl
def XgE{r:Nat}{want:Bool}{e:Prf (some r)}:XfA (some r) want st x y e=Kq (st.t r) r want st x y trivial:=propext Iff.rfl
def Xkj{r:Nat}{e:Prf (D.v (.bool true))}:Kq (.v (.bool true)) r true st x y e=x st:=by simp[Kq,V0]
def Xkk{r:Nat}{e:Prf (D.v (.bool true))}:Kq (.v (.bool true)) r false st x y e=y st:=by simp[Kq,V0]
def Xkl{r:Nat}{e:Prf (D.v (.bool false))}:Kq (.v (.bool false)) r true st x y e=y st:=by simp[Kq,V0]
def Xkm{r:Nat}{e:Prf (D.v (.bool false))}:Kq (.v (.bool false)) r false st x y e=x st:=by simp[Kq,V0]
def XlG{r:Nat}{want:Bool}{e:Array Value}{f:Prf (D.v (.tuple e))}:Kq (.v (.tuple e)) r want st x y f=y st:=rfl
def XoA{c:Operand}{e:Prf (D.v (.bool true))}:Xco (.v (.bool true)) c st x y e=x st:=by simp[Xco,V0]
def XoB{c:Operand}{e:Prf (D.v (.bool false))}:Xco (.v (.bool false)) c st x y e=y st:=by simp[Xco,V0]
def Xh6{f:List It->Prop}{e:Prf (some k)}:Xi6 (some k) f e=f k:=propext Iff.rfl
def XlH{m j:Nat}{f:Option Nat->Nat->Nat->Prop}{e:Prf dst}:Xgx dst m j f e=f dst m j:=propext Iff.rfl
def Xkn{o:Oper}:XbZ P C o st K=XeD P C (KD o.op) o st K trivial:=propext Iff.rfl
def Xh7{o:Oper}{e:Prf (none:Option Call)}:XeD P C none o st K e=Xcn (opF P (Xgw C.off o.dst) st.k (ev st.t C.G) st.s o.op) (XX o.dst st.n) st.n (st.k+1) (λdst d u n k=>K (nx st dst d u n k)) trivial:=propext Iff.rfl
def Xh8{o:Oper}{c:Call}{e:Prf (some c)}:XeD P C (some c) o st K e=Xdi P C (callee (ev st.t C.G) c) c o.dst st K trivial:=propext Iff.rfl
def XgF{f:Nat}{args:List D}{c:Call}{dst:Option Nat}{e:Prf (some (f,args))}:Xdi P C (some (f,args)) c dst st K e=CallX P C f args dst st K trivial:=propext Iff.rfl
def XgG{c:Call}{dst:Option Nat}{e:Prf (none:Option (Nat×List D))}:Xdi P C none c dst st K e=Xfz P C (XcG (ev st.t C.G) c) dst st K trivial:=propext Iff.rfl
def XgH{l:Nat}{args:List D}{dst:Option Nat}{e:Prf (some (l,args))}:Xfz P C (some (l,args)) dst st K e=YieldX P C l args dst st K trivial:=propext Iff.rfl
def Xh9{c:Prop}{d:D}{u:Up}{m j:Nat}{f:Option Nat->D->Up->Nat->Nat->Prop}{e:Prf (some (c,d,u))}:Xcn (some (c,d,u)) dst m j f e=(c/\f dst d u m j):=propext Iff.rfl
def XgI{G:Nat->Option (List D)}{f:Nat}{e:Prop}{as:List D}{ids:List Nat}{obs:List Ob}{fz:List Nat}{K:List Nat->List Nat->D->List Ob->Prop}{g:Prf (some (e,as,ids,obs,fz))}:Xh2 P G f (some (e,as,ids,obs,fz)) K g=(e/\CallG P G f as obs (K ids fz) trivial):=propext Iff.rfl
def XoC{d:D}{u:Up}{m j:Nat}{f:Option Nat->D->Up->Nat->Nat->Prop}{e:Prf (d,u)}:Xq0 (d,u) dst m j f e=f dst d u m j:=propext Iff.rfl
variable {d:D}{u:Up}{m j i x:Nat}
def XtC:(nx st dst d u m j).n=m:=rfl
def XtD:(nx st dst d u m j).k=j:=rfl
def XtE{i x:Nat}:(nx st (some x) d u m j).t i=if i=x then d else st.t i:=rfl
def Xsf{i:Nat}:(nx st none d u m j).t i=st.t i:=rfl
def Xsg:(nx st dst d [] m j).s=st.s:=rfl
def XtF{e:Nat×Nat×Ob}:(nx st dst d (e::u) m j).s=app st.s (e::u):=rfl
def Xsh{s:Heap}:(nxS st dst d s m j).n=m:=rfl
def Xsi{s:Heap}:(nxS st dst d s m j).k=j:=rfl
def Xsj{s:Heap}{i x:Nat}:(nxS st (some x) d s m j).t i=if i=x then d else st.t i:=rfl
def Xq2{s:Heap}{i:Nat}:(nxS st none d s m j).t i=st.t i:=rfl
def Xsk{s:Heap}:(nxS st dst d s m j).s=s:=rfl
def Xsl{args:List D}{s:Heap}{n k i:Nat}:(stI args s n k).t i=(args[i]?).getD (.v undef):=rfl
def Xsm{args:List D}{s:Heap}{n k:Nat}:(stI args s n k).s=s:=rfl
def Xsn{args:List D}{s:Heap}{n k:Nat}:(stI args s n k).n=n:=rfl
def Xso{args:List D}{s:Heap}{n k:Nat}:(stI args s n k).k=k:=rfl
def Xq3{s:Heap}{k:Nat}:kOf dst st K d s k=K (nxS st (XX dst st.n) d s st.n k):=rfl
def XoD{C:Cx}{n:Nat}{x:Mem×Loc}:(C.sub n x).off=n:=rfl
def Xsp{C:Cx}{n:Nat}{x:Mem×Loc}:(C.sub n x).G=C.G:=rfl
def Xsq{args:List D}{lent:List Ob}{n i:Nat}:(st0 args lent n).t i=(args[i]?).getD (.v undef):=rfl
def Xsr{args:List D}{lent:List Ob}{n:Nat}:(st0 args lent n).s=Ju lent:=rfl
def Xss{args:List D}{lent:List Ob}{n:Nat}:(st0 args lent n).n=n:=rfl
def Xst{args:List D}{lent:List Ob}{n:Nat}:(st0 args lent n).k=1:=rfl
def XoE{s:Heap}:app s []=s:=rfl
def XlI{s:Heap}{i v:Nat}{o:Ob}:app s ((i,v,o)::u)=app (upd s i (some (v,o))) u:=rfl
def Xq4{s:Heap}{i j:Nat}{x:Option (Nat×Ob)}:upd s i x j=if j=i then x else s j:=rfl
def Xko{i:Nat}:Ju [] i=none:=by simp[Ju]
def Jw{ls:List Ob}{j:Nat}:Ju ls (LB+j)=(ls[j]?).map (λo=>(0,o)):=by unfold Ju;simp
def Xq5:IntKind.min .i8 = -128:=ae
def Xq6:IntKind.max .i8=127:=ae
def XoF:IntKind.min .i16 = -32768:=ae
def XoG:IntKind.max .i16=32767:=ae
def XoH:IntKind.min .i32 = -2147483648:=ae
def XoI:IntKind.max .i32=2147483647:=ae
def XoJ:IntKind.min .i64 = -9223372036854775808:=ae
def XoK:IntKind.max .i64=9223372036854775807:=ae
def Xq7:IntKind.min .u8=0:=ae
def Xq8:IntKind.max .u8=255:=ae
def XoL:IntKind.min .u16=0:=ae
def XoM:IntKind.max .u16=65535:=ae
def XoN:IntKind.min .u32=0:=ae
def XoO:IntKind.max .u32=4294967295:=ae
def XoP:IntKind.min .u64=0:=ae
def XoQ:IntKind.max .u64=18446744073709551615:=ae
def ZB{r:Nat}{d:D}(h:st.t r=d):XaO st r d=st:=by
 unfold XaO;have:upd st.t r d=st.t:=by
  funext j;unfold upd;split
  .simp_all
  rfl
 rw[this]
def XA{b:Bool}{r:Nat}{x y:St->Prop}(f:st.t r=.v (.bool b))(g:b=true->x (XaO st r (.v (.bool true))))(h:b=false->y (XaO st r (.v (.bool false))))(t':Prf (D.v (.bool b))):Xco (.v (.bool b)) (.tmp r) st x y t':=
 ⟨λe=>by simp_all[ZB,f],λe=>by simp_all[ZB,f]⟩
def Xj{b:Bool}{r:Nat}{x y:St->Prop}(f:st.t r=.v (.bool b))(g:b=true->x (XaO st r (.v (.bool true))))(h:b=false->y (XaO st r (.v (.bool false))))(t':Prf (D.v (.bool b))):Kq (.v (.bool b)) r true st x y t':=
 ⟨λe=>by simp_all[ZB,f],λe=>by simp_all[ZB,f]⟩
def Xk{b:Bool}{r:Nat}{x y:St->Prop}(f:st.t r=.v (.bool b))(g:b=true->y (XaO st r (.v (.bool true))))(h:b=false->x (XaO st r (.v (.bool false))))(t':Prf (D.v (.bool b))):Kq (.v (.bool b)) r false st x y t':=
 ⟨λe=>by simp_all[ZB,f],λe=>by simp_all[ZB,f]⟩
def Xq9{r i:Nat}{d:D}:(XaO st r d).t i=if i=r then d else st.t i:=rfl
def Xra{r:Nat}{d:D}:(XaO st r d).s=st.s:=rfl
def Xrb{r:Nat}{d:D}:(XaO st r d).n=st.n:=rfl
def Xrc{r:Nat}{d:D}:(XaO st r d).k=st.k:=rfl
def CallG.of{G:Nat->Option (List D)}{f:FuncId}{args eargs:List D}{obs:List Ob}{R K:D->List Ob->Prop}(h:ZD P G f eargs obs R)(e:Ki args eargs)(hK:∀r ls,R r ls->K r ls)(t':Prf args):CallG P G f args obs K t':=
 ⟨eargs,R,e,h,hK⟩
end
variable {P:Program}
structure En where
 i:Nat
 o:Oper
 anc:List Nat
 ws:List Nat
 ms:List Nat
 mi:List Nat
def KA(ms:List Nat)(t:Nat->D):Nat->D:=λx=>if ms.contains x then .any else t x
def ZM(mi:List Nat)(s:Heap):Heap:=λx=>if mi.contains x then none else s x
inductive Kd where
 |det (c:Prop) (d:D) (u:Up)
 |call (c:Prop) (f:FuncId) (as:List D) (ids:List Nat) (obs:List Ob) (fz:List Nat)
 |ro (f:FuncId) (args:List D)
def kd1(x:Option (Prop×D×Up)):Option Kd:=match x with
 |some (c,d,u)=>some (.det c d u)
 |none=>none
def kd2(f:FuncId)(args:List D)(x:Option (Prop×List D×List Nat×List Ob×List Nat)):Option Kd:=match x with
 |some (e,as,ids,obs,fz)=>some (.call e f as ids obs fz)
 |none=>some (.ro f args)
def kd3(_:Nat->Option (List D))(s:Heap)(x:Option (FuncId×List D)):Option Kd:=match x with
 |some (f,args)=>kd2 f args (Zu s args)
 |none=>none
def RoA(P:Program)(C:Cx)(s:Heap)(args eargs:List D):Prop:=∀s' U M β w e,HLe s s'->Ij P C s' U M β w->RepL P M β args e->∃M1,MLe M M1/\MemOK M1 w/\RepL P M1 YH eargs e
def kdO(P:Program)(C:Cx)(ver:Nat)(o:Oper)(t:Nat->D)(s:Heap):Option Kd:=match KD o.op with
 |some c=>kd3 C.G s (callee (ev t C.G) c)
 |none=>kd1 (opF P (Xgw C.off o.dst) ver (ev t C.G) s o.op)
def kdG(d:D)(_:Nat)(want:Bool)(x:Option Kd):Option Kd:=match d with
 |.v (.bool b)=>bif b==want then x else some (.det True (.v undef) [])
 |.v (.tuple _)=>some (.det True (.v undef) [])
 |_=>none
def kdE(P:Program)(C:Cx)(full:Array Oper)(ver:Nat)(o:Oper)(t:Nat->D)(s:Heap):Option Kd:=match o.guard with
 |none=>kdO P C ver o t s
 |some (g,want)=>match (full[g]?).bind (·.dst)with
  |some r=>kdG (t r) r want (kdO P C ver o t s)
  |none=>none
def K4(u:Up)(ws:List Nat):Prop:=∀x∈u,x.1∈ws
def doK(P:Program)(C:Cx)(e:En)(ver:Nat)(s:Heap)(x:Option Kd)(F:D->Up->Prop):Prop:=match x with
 |none=>False
 |some (.det c d u)=>c/\K4 u e.ws/\F d u
 |some (.call c f as ids obs fz)=>c/\∃eargs R,Ki as eargs/\ZD P C.G f eargs obs R/\(∃r ls,R r ls)/\∀r ls,R r ls ->
  K4 (aft s ids fz r ls ver (64*(C.off+e.o.dst.getD 0))).2 e.ws/\F (aft s ids fz r ls ver (64*(C.off+e.o.dst.getD 0))).1 (aft s ids fz r ls ver (64*(C.off+e.o.dst.getD 0))).2
 |some (.ro f args)=>∃eargs R,RoA P C s args eargs/\ZD P C.G f eargs [] R/\(∃r ls,R r ls)/\∀r ls,R r ls->scal r=true/\F r []
def J5(P:Program)(C:Cx)(full:Array Oper)(k0:Nat)(e:En)(st:St)(F:St->Prop):Prop:=
 doK P C e (k0+e.i) (ZM e.mi st.s) (kdE P C full (k0+e.i) e.o (KA e.ms st.t) (ZM e.mi st.s)) λd u=>F (nx st (XX e.o.dst st.n) d u st.n st.k)
def dr(P:Program)(C:Cx)(full:Array Oper)(k0:Nat):List En->St->(St->Prop)->Prop
 |[],st,K=>K st
 |e::f,st,K=>J5 P C full k0 e st λst=>dr P C full k0 f st K
def Xbo(o:Oper):Bool:=(KD o.op).isSome
def inB(x:Option Nat)(l:List Nat):Bool:=match x with
 |some x=>l.contains x
 |none=>true
def Xdl(e j:En):Bool:=
 (e.o.dst != j.o.dst||e.o.dst.isNone)&&inB e.o.dst j.ms&&inB j.o.dst e.ms&&e.ws.all (λx=>j.mi.contains x)&&j.ws.all (λx=>e.mi.contains x)&&e.ws.all (λx=>!j.ws.contains x)&&!(Xbo e.o&&Xbo j.o)
section
variable {C:Cx}{full:Array Oper}{k0:Nat}{st:St}
def XlJ{e:En}{ver:Nat}{s:Heap}{x:Option Kd}{F F':D->Up->Prop}(h:∀d u,F d u->F' d u)(hd:doK P C e ver s x F):doK P C e ver s x F':=by
 unfold doK at hd⊢;split at hd
 .omega
 .simp_all
 .have⟨q,eargs,R,l,o,p,f⟩:=hd;exact⟨q,eargs,R,l,o,p,λr ls g=>⟨(f r ls g).1,h _ _ (f r ls g).2⟩⟩
 have⟨eargs,R,l,o,p,f⟩:=hd;exact⟨eargs,R,l,o,p,λr ls g=>⟨(f r ls g).1,h _ _ (f r ls g).2⟩⟩
def Xia{e:En}{F F':St->Prop}(h:∀st,F st->F' st)(hd:J5 P C full k0 e st F):J5 P C full k0 e st F':=
 XlJ (λ_ _ f=>h _ f) hd
def XlK{ms:List Nat}{dst:Option Nat}{n m k:Nat}{d:D}{u:Up}(h:inB dst ms=true):KA ms (nx st (XX dst n) d u m k).t=KA ms st.t:=by
 funext x;unfold KA;split
 .rfl
 rename_i f;cases dst with
 |none=>rfl
 |some y=>
  simp only[XX];split
  .simp only[nx,upd];split
   .rename_i e;subst e;exact absurd h f
   rfl
  rfl
def J6{s:Heap}{i:Nat}:∀{u:Up},(∀x∈u,x.1≠i)->app s u i=s i:=by
 intro u;induction u generalizing s with
 |nil=>intro _;rfl
 |cons x u e=>intro h;have⟨j,v,o⟩:=x;show app (upd s j _) u i=s i;rw[e λy f=>h y (WC _ f),Yi _ _ _ _ (Ne.symm (h (j,v,o) ab))]
def XlL{mi ws:List Nat}{dst:Option Nat}{m k:Nat}{d:D}{u:Up}(f:K4 u ws)(h:∀x∈ws,mi.contains x=true):ZM mi (nx st dst d u m k).s=ZM mi st.s:=by
 funext x;unfold ZM;split
 .rfl
 rename_i g;exact J6 λy l e=>g (e▸h _ (f y l))
def XeG{s s':Heap}{i:Nat}:∀{u:Up},s i=s' i->app s u i=app s' u i:=by
 intro u;induction u generalizing s s' with
 |nil=>intro h;exact h
 |cons x u e=>intro h;have⟨j,v,o⟩:=x;refine e ?_;unfold upd;simp_all
def XlM{s:Heap}{u f:Up}(h:∀x∈u,∀y∈f,x.1≠y.1):app (app s u) f=app (app s f) u:=by
 funext i;by_cases o:∃x∈u,x.1=i
 .obtain⟨x,g,rfl⟩:=o;rw[J6 λy l e=>h x g y l e.symm];exact XeG (J6 λy l e=>h x g y l e.symm).symm
 have p:∀x∈u,x.1≠i:=λx g e=>o ⟨x,g,e⟩;rw[J6 (s:=app s f) p];exact XeG (J6 p)
def Xbp{e j:Option Nat}{n k:Nat}{d d':D}{u f:Up}(q:e≠j\/e=none)(h:∀x∈u,∀y∈f,x.1≠y.1):
 nx (nx st (XX e n) d u n k) (XX j n) d' f n k=nx (nx st (XX j n) d' f n k) (XX e n) d u n k:=by
 have ht:(nx (nx st (XX e n) d u n k) (XX j n) d' f n k).t=(nx (nx st (XX j n) d' f n k) (XX e n) d u n k).t:=by
  funext x;cases e with
  |none=>rfl
  |some a=>
   cases j with
   |none=>rfl
   |some b=>simp only[XX];split<;>split<;>simp only[nx,upd];grind
 have r:(nx (nx st (XX e n) d u n k) (XX j n) d' f n k).s=(nx (nx st (XX j n) d' f n k) (XX e n) d u n k).s:=XlM h;have:∀(a b:St),a.t=b.t->a.s=b.s->a.n=b.n->a.k=b.k->a=b:=by rintro⟨_,_,_,_⟩ ⟨_,_,_,_⟩ g l o p;simp only at g l o p;subst g;subst l;subst o;subst p;rfl
 exact this _ _ ht r rfl rfl
def Kd.isDet:Kd->Bool
 |.det _ _ _=>true
 |_=>false
def J7{ver:Nat}{o:Oper}{t:Nat->D}{s:Heap}{x:Kd}(h:kdE P C full ver o t s=some x)(e:x.isDet=false):Xbo o=true:=by
 have key:kdO P C ver o t s=some x->Xbo o=true:=by
  intro h;unfold kdO at h;unfold Xbo;split at h
  .simp_all
  unfold kd1 at h;split at h
  .simp at h;subst h;cases e
  simp_all
 unfold kdE at h;split at h
 .simp_all
 split at h
 .unfold kdG at h;split at h
  .rename_i b _;cases hb:(b==_)with
   |true=>rw[hb]at h;exact key h
   |false=>rw[hb]at h;simp at h;subst h;cases e
  .simp at h;subst h;cases e
  cases h
 simp_all
def Xib{e j:En}{F:St->Prop}(W:Xdl e j=true)(h:J5 P C full k0 e st λst=>J5 P C full k0 j st F):J5 P C full k0 j st λst=>J5 P C full k0 e st F:=by
 unfold Xdl at W;simp only[Wr,Il,bne_iff_ne,ne_eq,Option.isNone_iff_eq_none,WP,UE]at W;have⟨⟨⟨⟨⟨⟨z,hem⟩,hjm⟩,hew⟩,hjw⟩,hdis⟩,hcc⟩:=W;have l:∀{u u':Up},K4 u e.ws->K4 u' j.ws->∀x∈u,∀y∈u',x.1≠y.1:=by
  intro u u' p g x hx y hy e';have J:=hdis x.1 (p x hx);have I:=g y hy;rw[←e']at I;have:j.ws.contains x.1=true:=by simpa using I
  rw[J]at this;cases this
 have vj:∀{d u},K4 u e.ws->KA j.ms (nx st (XX e.o.dst st.n) d u st.n st.k).t=KA j.ms st.t/\ZM j.mi (nx st (XX e.o.dst st.n) d u st.n st.k).s=ZM j.mi st.s:=
  λp=>⟨XlK hem,XlL p hew⟩
 have ve:∀{d u},K4 u j.ws->KA e.ms (nx st (XX j.o.dst st.n) d u st.n st.k).t=KA e.ms st.t/\ZM e.mi (nx st (XX j.o.dst st.n) d u st.n st.k).s=ZM e.mi st.s:=
  λp=>⟨XlK hjm,XlL p hjw⟩
 unfold J5 at h⊢;generalize A:kdE P C full (k0+e.i) e.o (KA e.ms st.t) (ZM e.mi st.s)=ke at h;generalize q:kdE P C full (k0+j.i) j.o (KA j.ms st.t) (ZM j.mi st.s)=L;cases ke with
 |none=>exact h.elim
 |some ke=>
  cases ke with
  |det c d u=>
   have⟨hc,p,h⟩:=h;have⟨O,Q⟩:=vj (d:=d) p;dsimp only at h;rw[O,Q,q]at h;cases L with
   |none=>assumption
   |some L=>
    cases L with
    |det c' d' u'=>
     have⟨Y,g,h⟩:=h;refine⟨Y,g,?_⟩;have⟨S,T⟩:=ve (d:=d') g;try dsimp only
     rw[S,T,A];refine⟨hc,p,?_⟩;have:=Xbp (st:=st) (e:=e.o.dst) (j:=j.o.dst) (n:=st.n) (k:=st.k) (d:=d) (d':=d') z (l p g);exact(congrArg F this).mp h
    |call c' f as ids obs fz=>
     have⟨Y,eargs,R,J,I,h3,G⟩:=h;refine⟨Y,eargs,R,J,I,h3,λr ls V=>?_⟩;have⟨g,h⟩:=G r ls V;refine⟨g,?_⟩;have⟨S,T⟩:=ve (d:=(aft (ZM j.mi st.s) ids fz r ls (k0+j.i) (64*(C.off+j.o.dst.getD 0))).1) g;try dsimp only
     rw[S,T,A];refine⟨hc,p,?_⟩;have:=Xbp (st:=st) (e:=e.o.dst) (j:=j.o.dst) (n:=st.n) (k:=st.k) (d:=d) (d':=(aft (ZM j.mi st.s) ids fz r ls (k0+j.i) (64*(C.off+j.o.dst.getD 0))).1) z (l p g);exact(congrArg F this).mp h
    |ro f' args'=>
     have⟨eargs,R,J,I,h3,G⟩:=h;refine⟨eargs,R,J,I,h3,λr ls V=>⟨(G r ls V).1,?_⟩⟩;have h:=(G r ls V).2;have g:K4 [] j.ws:=λx hx=>by grind
     have⟨S,T⟩:=ve (d:=r) g;try dsimp only
     rw[S,T,A];refine⟨hc,p,?_⟩;have:=Xbp (st:=st) (e:=e.o.dst) (j:=j.o.dst) (n:=st.n) (k:=st.k) (d:=d) (d':=r) z (l p g);exact(congrArg F this).mp h
  |ro f args=>
   have hce:=J7 A rfl;have⟨eargs,R,J,I,⟨Z,B,H⟩,G⟩:=h;have p:K4 [] e.ws:=λx hx=>by grind
   obtain⟨_,E⟩:=G Z B H;obtain⟨O,Q⟩:=vj (d:=Z) p;dsimp only at E;rw[O,Q,q]at E;cases L with
   |none=>assumption
   |some L=>
    cases L with
    |call c' f' as' ids' obs' fz'=>have hcj:=J7 q rfl;simp_all
    |ro f' args'=>have hcj:=J7 q rfl;simp_all
    |det c' d' u'=>
     refine⟨E.1,E.2.1,?_⟩;obtain⟨S,T⟩:=ve (d:=d') E.2.1;try dsimp only
     rw[S,T,A];refine⟨eargs,R,J,I,⟨Z,B,H⟩,λr ls V=>⟨(G r ls V).1,?_⟩⟩;have h:=(G r ls V).2;obtain⟨O,Q⟩:=vj (d:=r) p;dsimp only at h;rw[O,Q,q]at h;have:=Xbp (st:=st) (e:=e.o.dst) (j:=j.o.dst) (n:=st.n) (k:=st.k) (d:=r) (d':=d') z (l p E.2.1);exact(congrArg F this).mp h.2.2
  |call c f as ids obs fz=>
   have hce:=J7 A rfl;obtain⟨hc,eargs,R,J,I,⟨Z,B,H⟩,G⟩:=h;obtain⟨hu0,E⟩:=G Z B H;obtain⟨O,Q⟩:=vj (d:=(aft (ZM e.mi st.s) ids fz Z B (k0+e.i) (64*(C.off+e.o.dst.getD 0))).1) hu0;dsimp only at E;rw[O,Q,q]at E;cases L with
   |none=>assumption
   |some L=>
    cases L with
    |call c' f' as' ids' obs' fz'=>have hcj:=J7 q rfl;simp_all
    |ro f' args'=>have hcj:=J7 q rfl;simp_all
    |det c' d' u'=>
     refine⟨E.1,E.2.1,?_⟩;obtain⟨S,T⟩:=ve (d:=d') E.2.1;try dsimp only
     rw[S,T,A];refine⟨hc,eargs,R,J,I,⟨Z,B,H⟩,λr ls V=>?_⟩;obtain⟨p,h⟩:=G r ls V;obtain⟨O,Q⟩:=vj (d:=(aft (ZM e.mi st.s) ids fz r ls (k0+e.i) (64*(C.off+e.o.dst.getD 0))).1) p;dsimp only at h;rw[O,Q,q]at h;refine⟨p,?_⟩;have:=Xbp (st:=st) (e:=e.o.dst) (j:=j.o.dst) (n:=st.n) (k:=st.k) (d:=(aft (ZM e.mi st.s) ids fz r ls (k0+e.i) (64*(C.off+e.o.dst.getD 0))).1) (d':=d') z (l p E.2.1);exact(congrArg F this).mp h.2.2
def Xcr{K:St->Prop}{j:En}{l:List En}:∀{f:List En} {st:St},(∀e∈f,Xdl e j=true)->dr P C full k0 (f++j::l) st K->J5 P C full k0 j st λst=>dr P C full k0 (f++l) st K
 |[],st,_,h=>h
 |e::f,st,g,h=>by
  have p:J5 P C full k0 e st λst=>J5 P C full k0 j st λst=>dr P C full k0 (f++l) st K:=
   Xia (λst o=>Xcr (λx q=>g x (WC _ q)) o) h
  exact Xib (g e ab) p
end
variable {P:Program}
section
variable {s s':Heap}
mutual
def lend_le(f:HLe s s'):∀{d:D} {ls:List Nat}{r},lend s ls d=some r->lend s' ls d=some r
 |.ept id ver z i c,ls,r,h=>by
  unfold lend at h⊢;split at h
  .rename_i e;rw[f _ _ e];exact h
  simp_all
 |.agg g,ls,r,h=>by
  unfold lend at h⊢;split at h
  .rename_i e;rw[J8 f e];exact h
  simp_all
 |.tup g,ls,r,h=>by
  unfold lend at h⊢;split at h
  .rename_i e;rw[J8 f e];exact h
  simp_all
 |.ifc t d,ls,r,h=>by
  unfold lend at h⊢;split at h
  .rename_i e;rw[lend_le f e];exact h
  simp_all
 |.clo fn a b,ls,r,h=>by
  unfold lend at h⊢;split at h
  .rename_i e;rw[J8 f e];split at h
   .rename_i l;rw[J8 f l];exact h
   cases h
  simp_all
 |.osl id ver z off len,ls,r,h=>by
  unfold lend at h⊢;split at h
  .rename_i e;rw[snap_le f e];exact h
  simp_all
 |.any,ls,r,h=>by assumption
 |.v _,ls,r,h=>by assumption
 |.nsl,ls,r,h=>by assumption
 |.isl ..,ls,r,h=>by assumption
 |.ipt ..,ls,r,h=>by assumption
 |.fsl ..,ls,r,h=>by assumption
 |.fmp ..,ls,r,h=>by assumption
 |.omp ..,ls,r,h=>by assumption
def J8(f:HLe s s'):∀{e:List D} {ls:List Nat}{r},ZZ s ls e=some r->ZZ s' ls e=some r
 |[],ls,r,h=>by assumption
 |d::e,ls,r,h=>by
  unfold ZZ at h⊢;split at h
  .rename_i g;rw[lend_le f g];simp only;split at h
   .rename_i l;rw[J8 f l];exact h
   cases h
  simp_all
end
def XcH{l f:List Nat}(h:Has s l)(g:Has s f):Has s (l++f):=λi e=>by
 rcases Ws.1 e with e|e
 .exact h i e
 exact g i e
mutual
def lend_has:∀{d:D} {ls:List Nat}{r},lend s ls d=some r->Has s r.2.2.2
 |.ept id ver z i c,ls,r,h=>by
  unfold lend at h;split at h
  .split at h
   .split at h<;>simp only[Wq]at h<;>subst h<;>intro i f<;>simp at f
   cases h
  simp_all
 |.agg g,ls,r,h=>by
  unfold lend at h;split at h
  .rename_i e;simp at h;subst h;exact Jp e
  simp_all
 |.tup g,ls,r,h=>by
  unfold lend at h;split at h
  .rename_i e;simp at h;subst h;exact Jp e
  simp_all
 |.ifc t d,ls,r,h=>by
  unfold lend at h;split at h
  .rename_i e;simp at h;subst h;have:=lend_has e;exact this
  simp_all
 |.clo fn a b,ls,r,h=>by
  unfold lend at h;split at h
  .rename_i e;split at h
   .rename_i l;simp at h;subst h;exact XcH (Jp e) (Jp l)
   cases h
  simp_all
 |.osl id ver z off len,ls,r,h=>by
  unfold lend at h;split at h
  .rename_i e;simp at h;subst h;exact snap_has e
  simp_all
 |.any,ls,r,h=>by
  unfold lend at h;split at h
  .rename_i e;simp at h;subst h;exact snap_has e
  simp_all
 |.v _,ls,r,h=>by
  unfold lend at h;split at h
  .rename_i e;simp at h;subst h;exact snap_has e
  simp_all
 |.nsl,ls,r,h=>by
  unfold lend at h;split at h
  .rename_i e;simp at h;subst h;exact snap_has e
  simp_all
 |.isl ..,ls,r,h=>by
  unfold lend at h;split at h
  .rename_i e;simp at h;subst h;exact snap_has e
  simp_all
 |.ipt ..,ls,r,h=>by
  unfold lend at h;split at h
  .rename_i e;simp at h;subst h;exact snap_has e
  simp_all
 |.fsl ..,ls,r,h=>by simp_all[lend,snap]
 |.fmp ..,ls,r,h=>by simp_all[lend,snap]
 |.omp ..,ls,r,h=>by simp_all[lend,snap]
def Jp:∀{e:List D} {ls:List Nat}{r},ZZ s ls e=some r->Has s r.2.2.2
 |[],ls,r,h=>by simp only[ZZ,Wq]at h;subst h;intro i l;simp_all
 |d::e,ls,r,h=>by
  unfold ZZ at h;split at h
  .rename_i f;split at h
   .rename_i g;simp at h;subst h;exact XcH (lend_has f) (Jp g)
   cases h
  simp_all
end
def XgJ(e:HLe s s'):∀{ids:List Nat}{r},Jv s ids=some r->Jv s' ids=some r
 |[],r,h=>by assumption
 |id::ids,r,h=>by
  unfold Jv at h⊢;split at h
  .rename_i f;rw[e _ _ f];simp only;split at h
   .rename_i g l;rw[JZ e g,XgJ e l];exact h
   cases h
  simp_all
def XeH:∀{ids:List Nat}{r},Jv s ids=some r->Has s r.2.2
 |[],r,h=>by simp only[Jv,Wq]at h;subst h;intro i g;simp_all
 |id::ids,r,h=>by
  unfold Jv at h;split at h
  .split at h
   .rename_i e f;simp at h;subst h;exact XcH (Jo e) (XeH f)
   cases h
  simp_all
def XgK(e:HLe s s'){args:List D}{r}(h:Zu s args=some r):Zu s' args=some r:=by
 unfold Zu at h⊢;split at h
 .rename_i f;rw[J8 e f];simp only;split at h
  .rename_i g;rw[XgJ e g];exact h
  cases h
 simp_all
def XfC{args:List D}{g:Prop}{as:List D}{ids:List Nat}{obs:List Ob}{fz:List Nat}(h:Zu s args=some (g,as,ids,obs,fz)):Has s ids/\Has s fz:=by
 unfold Zu at h;split at h
 .rename_i f;split at h
  .rename_i l;obtain⟨_,_,rfl,_,rfl⟩:=h;refine⟨λid e=>?_,XcH (Jp f) (XeH l)⟩;have⟨v,E,z,p,fz,o⟩:=(Zk f ⟨ab,ab⟩).2 id e;exact⟨_,o⟩
  cases h
 simp_all
def XgL(e:HLe s s'):∀{ids:List Nat} {obs:List Ob},Has s ids->Z7 s' ids obs=Z7 s ids obs
 |[],obs,_=>by rfl
 |id::ids,[],_=>rfl
 |id::ids,o::obs,h=>by have⟨x,f⟩:=h id ab;have g:=XgL e (ids:=ids) (obs:=obs) λi l=>h i (WC _ l);simp only[Z7,f,e _ _ f,g]
def Xrd(e:HLe s s'){ids fz:List Nat}(f:Has s ids)(g:Has s fz)(r:D)(ls:List Ob)(ver n:Nat):aft s' ids fz r ls ver n=aft s ids fz r ls ver n:=by unfold aft;rw[Xbm e g,XgL e f]
def XoR(mi:List Nat)(s:Heap):HLe (ZM mi s) s:=by intro i x h;unfold ZM at h;simp_all
end
def RelD(P:Program)(C:Cx)(U:Nat->Prop)(st:St)(a:Act)(w:World):Prop:=
 a.defers=C.df/\a.tmps.size=st.n/\∃M β,BLe C.b0 β/\(∀x,Rep P M β (st.t x) (a.tmps.getD x undef))/\Ij P C st.s U M β w
section
variable {C:Cx}{st:St}{a:Act}{w:World}{U:Nat->Prop}
def RelD.put{w':World}{u:Up}{U':Nat->Prop}{M':Mem}{β':Loc}{M:Mem}{β:Loc}{d:D}{v:Value}{dst:Option Nat}{r:Nat}(g:a.defers=C.df)(z:a.tmps.size=st.n)(h:BLe C.b0 β)(l:∀x,Rep P M β (st.t x) (a.tmps.getD x undef))(o:MLe M M')(f:BLe β β')(I:Ij P C (app st.s u) U' M' β' w')(A:Rep P M' β' d v):RelD P C U' (nx st (XX dst st.n) d u st.n r) (a.put dst v) w':=by
 cases dst with
 |none=>exact⟨g,z,M',β',h.trans f,λx=>(l x).mono o f,I⟩
 |some x=>
  by_cases p:x<st.n
  .simp only[XX,Wj p];refine⟨g,by simp_all[nx,Act.put],M',β',h.trans f,λi=>?_,I⟩;simp only[nx,upd,Act.put];by_cases q:i=x
   .simp_all
   rw[Wg q];have e:(a.tmps.setIfInBounds x v).getD i undef=a.tmps.getD i undef:=by simp[Ne.symm q]
   rw[e];exact(l i).mono o f
  simp only[XX,Wg p];refine⟨g,by simp_all[nx,Act.put],M',β',h.trans f,λi=>?_,I⟩;have e:a.put (some x) v=a:=by simp only[Act.put];rw[Array.setIfInBounds_eq_of_size_le aa]
  rw[e];exact(l i).mono o f
def RelD.drew(h:RelD P C U st a w)(k:Nat):RelD P C U st a {w with drawn:=k}:=by
 have⟨e,f,M,β,g,l,I⟩:=h;refine⟨e,f,M,β,g,l,?_⟩;constructor
 .exact I.mem
 .exact I.used
 .intro id v ob o;have⟨x,p,q⟩:=I.obs id v ob o;exact⟨x,p,q.mono (MLe.refl _) (BLe.refl _) (λ_ _ _=>rfl) (λ_ _ _ _=>rfl)⟩
 .exact I.own
 .exact I.inj
 .exact⟨I.keep.os,I.keep.tape,I.keep.output,I.keep.size,I.keep.block⟩
 .exact I.old
 .exact I.le
 exact I.glob
def XlN{full:Array Oper}{k0:Nat}{e:En}{F:St->Prop}{K:AW}{Q:Exit->AW}(hr:RelD P C U st a w)(hv:¬U (k0+e.i))(h:J5 P C full k0 e st F)(hK:∀Y a' w',RelD P C (λx=>U x\/x=k0+e.i) Y a' w'->F Y->K a' w'):if Region.wanted e.o (yielded full a.tmps)=true then e.o.wp P a w K Q else K (a.put e.o.dst undef) w:=by
 have⟨h1,h2,M,β,h0,h3,I⟩:=hr;have V:∀x,Rep P M β (KA e.ms st.t x) (a.tmps.getD x undef):=λx=>by unfold KA;grind[Rep]
 have B:=Xde I V;have E:=XoR e.mi st.s;have H:F (nx st (XX e.o.dst st.n) (.v undef) [] st.n st.k)->K (a.put e.o.dst undef) w:=λhF=>
  hK _ _ _ (RelD.put (u:=[]) h1 h2 h0 h3 (MLe.refl _) (BLe.refl _) (I.mono λ_ h=>.inl h) (by simp[Rep,Xb1])) hF
 have hrun:doK P C e (k0+e.i) (ZM e.mi st.s) (kdO P C (k0+e.i) e.o (KA e.ms st.t) (ZM e.mi st.s)) (λd u=>F (nx st (XX e.o.dst st.n) d u st.n st.k))->e.o.wp P a w K Q:=by
  intro h;unfold kdO at h;split at h
  .rename_i c hc;have L:e.o.op=.call c:=by
    unfold KD at hc;split at hc
    .grind
    grind
   unfold kd3 at h;split at h
   .rename_i f args l;unfold kd2 at h;split at h
    .rename_i cc as ids obs fz Z;have⟨hcc,eargs,R,hfit,hA,_,O⟩:=h;unfold callee at l;split at l
     .rename_i x hx;split at l
      .rename_i g first caps J
       obtain⟨rfl,rfl⟩:=l;have q:=B x;rw[J]at q;have⟨va,vb,q,ha,hb⟩:=q;have⟨⟨fn,hf,W,hn⟩,_⟩:=id hA;unfold Oper.wp;rw[Xar L hx q hf W hn w];have p:RepL P M β (first++(c.args.toList.map (ev (KA e.ms st.t) C.G)++caps)) (va++(c.args.toList.map a.eval++vb)):=
        ha.append ((RepL.map B _).append hb)
       have⟨hh1,hh2⟩:=XfC Z;have hca':=XgK E Z;refine(Xi3 I (ver:=k0+e.i) hv p hca' hcc hfit hA (64*(C.off+e.o.dst.getD 0))).mono ?_;rintro e' w' ⟨v,r,ls,M',β',rfl,hR,I',A,hM,hB⟩;have hbox:∀id∈ids,∃v o,st.s id=some (v,o):=λid hid=>by obtain⟨x,hx⟩:=hh1 id hid;exact⟨x.1,x.2,E _ _ hx⟩
       have⟨e1,e2⟩:=Xly st.s ids fz r ls (k0+e.i) (64*(C.off+e.o.dst.getD 0)) hbox;rw[←e1]at A;rw[←e2]at I';have ea:=Xrd E hh1 hh2 r ls (k0+e.i) (64*(C.off+e.o.dst.getD 0));rw[ea]at A I';exact hK _ _ _ (RelD.put h1 h2 h0 h3 hM hB I' A) (O r ls hR).2
      cases l
     simp_all
    have⟨eargs,R,hro,hA,_,O⟩:=h;unfold callee at l;split at l
    .rename_i x hx;split at l
     .rename_i g first caps J
      simp only[Wq,Wy]at l;obtain⟨rfl,rfl⟩:=l;have q:=B x;rw[J]at q;simp only[Rep]at q;obtain⟨va,vb,q,ha,hb⟩:=q;obtain⟨⟨fn,hf,W,hn⟩,_⟩:=id hA;unfold Oper.wp;rw[Xar L hx q hf W hn w];rw[Oper.upon_enter];have p:RepL P M β (first++(c.args.toList.map (ev (KA e.ms st.t) C.G)++caps)) (va++(c.args.toList.map a.eval++vb)):=
       ha.append ((RepL.map B _).append hb)
      obtain⟨M1,hM1,hm1,p⟩:=hro st.s U M β w _ E I p;refine(Xor I hM1 hm1 p hA (λr ls h=>(O r ls h).1)).mono ?_;rintro e' w' ⟨v,r,ls,rfl,hR,I',A⟩;exact hK _ _ _ (RelD.put (u:=[]) h1 h2 h0 h3 (MLe.refl _) (BLe.refl _) (I'.mono λ_ h=>.inl h) A) (O r ls hR).2
     cases l
    simp_all
   exact h.elim
  unfold kd1 at h;split at h
  .rename_i c d u L;obtain⟨hc,_,hF⟩:=h;have:=Xlx I (ver:=k0+e.i) hv {e.o with dst:=Xgw C.off e.o.dst} a.eval (ev (KA e.ms st.t) C.G) B (λ_=>rfl) (XqZ E L) hc;obtain⟨M',β',w',v,z,I',A,hM,hB⟩:=this;rw[Xgz]at z;have S:RelD P C (λx=>U x\/x=k0+e.i) (nx st (XX e.o.dst st.n) d u st.n st.k) (a.put e.o.dst v) w':=RelD.put h1 h2 h0 h3 hM hB I' A;unfold Oper.wp;rcases z with z|⟨z,rfl⟩
   .rw[z];exact hK _ _ _ S hF
   rw[z];exact hK _ _ _ S hF
  exact h.elim
 unfold J5 kdE at h;split at h
 .rename_i hg;have hw:Region.wanted e.o (yielded full a.tmps)=true:=by unfold Region.wanted;rw[hg]
  simp_all
 rename_i g want hg;split at h
 .rename_i r T;unfold kdG at h;split at h
  .rename_i b hb;have hval:a.tmps.getD r undef=.bool b:=by have:=V r;rw[hb]at this;simp only[Rep]at this;exact this.1
   have hy:yielded full a.tmps g=some b:=by
    unfold yielded;rw[T];simp only[Iy];by_cases hs:r<a.tmps.size
    .simp_all
    simp_all[hs,undef]
   have hw:Region.wanted e.o (yielded full a.tmps)=(b==want):=by unfold Region.wanted;rw[hg];simp only;rw[hy];rfl
   rw[hw];cases hbw:(b==want)with
   |true=>simp_all
   |false=>rw[hbw]at h;rw[Wg ab];exact H h.2.2
  .rename_i vs hb;have hval:a.tmps.getD r undef=.tuple vs:=by have:=V r;rw[hb]at this;simp only[Rep]at this;exact this.1
   have hy:yielded full a.tmps g=none:=by
    unfold yielded;rw[T];simp only[Iy];by_cases hs:r<a.tmps.size
    .simp_all
    simp_all
   have hw:Region.wanted e.o (yielded full a.tmps)=false:=by unfold Region.wanted;rw[hg];simp only;rw[hy];rfl
   rw[hw,Wg ab];exact H h.2.2
  exact h.elim
 exact h.elim
end
variable {P:Program}
def Xi8(e:En):Bool:=e.o.after.toList.all λd=>!Region.binds .any d||d.on<e.i
def XoS(f:List En)(e:En):Bool:=e.anc.all λx=>e.o.after.toList.any λd=>Region.binds .any d&&(d.on==x||((f[d.on]?).map (·.anc.contains x)).getD false)
def Xqy(f:List En)(j:En):Bool:=f.all λe=>!(e.i<j.i)||j.anc.contains e.i||Xdl e j
def XfD(e:List En):Bool:=e.all Xi8&&e.all (XoS e)&&e.all (Xqy e)
def JO(m:Nat)(f:List En)(listed:Array Bool):List En:=f.filter λe=>decide (e.i<m)&&!listed.getD e.i true
def XfE(m:Nat)(f:List En):Bool:=decide (m<=f.length)&&f.all λe=>decide (e.i<m)||(List.range m).all λy=>e.anc.contains y
section
variable {C:Cx}{ops:Array Oper}{k0:Nat}{es:List En}{Q:Exit->AW}{K:St->Prop}
def UD(k0:Nat)(listed:Array Bool):Nat->Prop:=λv=>v<k0\/∃i,listed.getD i false=true/\v=k0+i
def XlO(g:es.map (·.o)=ops.toList)(p:es.map (·.i)=List.range es.length){j:Nat}{o:Oper}(h:ops[j]? = some o):∃e,e∈es/\es[j]? = some e/\e.i=j/\e.o=o:=by
 have f:(es.map (·.o))[j]? = some o:=by rw[g];simpa using h
 simp at f;obtain⟨e,l,rfl⟩:=f;have q:(es.map (·.i))[j]? = some e.i:=by simp[l]
 grind
def Xdm(h:es.map (·.i)=List.range es.length){e:En}(f:e∈es):e.i<es.length/\es[e.i]? = some e:=by
 obtain⟨j,g,rfl⟩:=Wv f;have l:(es.map (·.i))[j]? = some es[j].i:=by simp[g]
 grind
def Xkp(e:es.map (·.i)=List.range es.length):es.Pairwise λa b=>a.i<b.i:=by have:=List.pairwise_lt_range (n:=es.length);grind
def Xdn(H:es.map (·.i)=List.range es.length)(h:∀e∈es,XoS es e=true){listed:Array Bool}(p:∀e∈es,listed.getD e.i false=true->∀x∈e.anc,listed.getD x false=true){e:En}(I:e∈es)(l:∀d∈e.o.after,Region.binds .any d=true->listed.getD d.on false=true):∀x∈e.anc,listed.getD x false=true:=by
 intro x J;have q:=h e I;unfold XoS at q;simp only[WP]at q;have B:=q x J;simp only[Io,Wr,Il,beq_iff_eq]at B;have⟨d,hd,hb,f⟩:=B;have E:listed.getD d.on false=true:=l d (by simpa using hd) hb;rcases f with rfl|f
 .exact E
 cases g:es[d.on]? with
 |none=>rw[g]at f;simp at f
 |some z=>
  rw[g]at f;have L:=WW g;have r:z.i=d.on:=by
   have t:d.on<es.length:=by
    rcases UM d.on es.length with A|A
    .exact A
    rw[W3 A]at g;cases g
   have G:(es.map (·.i))[d.on]? = some z.i:=by simp[g]
   rw[H,List.getElem?_range t]at G;simpa using G.symm
  exact p z L (by rw[r];exact E) x (by simpa using f)
def Xre(ho:es.map (·.o)=ops.toList)(hi:es.map (·.i)=List.range es.length)(hc:XfD es=true){m r:Nat}(p:XfE m es=true)(hQ:∀(listed:Array Bool)st a w,listed.size=es.length->(∀x,listed.getD x false=decide (x<m))->RelD P C (λv=>v<k0+m) st a w->K st->wpAny P .any ops Q r listed a w):
 ∀(fuel:Nat) (listed:Array Bool) (a:Act) (w:World) (st:St),(JO m es listed).length=fuel->listed.size=es.length->(∀x,m<=x->listed.getD x false=false)->RelD P C (UD k0 listed) st a w ->
  (∀e∈es,listed.getD e.i false=true->∀x∈e.anc,listed.getD x false=true)->dr P C ops k0 (JO m es listed) st K->wpAny P .any ops Q (r+fuel) listed a w:=by
 unfold XfD at hc;simp at hc;have⟨⟨hedge,hanc⟩,hpair⟩:=hc;have A:=Xkp hi;unfold XfE at p;simp only[Wr,decide_eq_true_eq,WP,Il,List.mem_range,Ub]at p;have⟨hml,p⟩:=p;have getD_flip:∀(listed:Array Bool) (x:Nat),x<listed.size->(listed.getD x true=listed.getD x false):=by intro listed x g;simp[g]
 have es_i:∀j(h:j<es.length),es[j].i=j:=by
  intro j h;have q:(es.map (·.i))[j]? = some es[j].i:=by simp[h]
  rw[hi,List.getElem?_range h]at q;simpa using q.symm
 have done:∀{listed:Array Bool},listed.size=es.length->JO m es listed=[]->∀x,x<m->listed.getD x false=true:=by
  intro listed hs hn x g;cases B:listed.getD x false with
  |true=>rfl
  |false=>have:es[x]'aa∈JO m es listed:=W6.2 ⟨Wt _,by rw[es_i,getD_flip _ _ aa,B];simpa using g⟩;rw[hn]at this;cases this
 intro fuel;induction fuel with
 |zero=>
  intro listed a w st f E W hr hcl hd;have G:JO m es listed=[]:=WZ f;rw[G]at hd;have hd1:=done E G;refine hQ listed st a w E (λx=>?_) ?_ hd
  .by_cases h:x<m
   .rw[hd1 x h,Wi h]
   rw[W x aa,Wh h]
  have⟨t,q,M,β,h0,h3,I⟩:=hr;refine⟨t,q,M,β,h0,h3,I.mono λv B=>?_⟩;rcases B with B|⟨i,Y,rfl⟩
  .exact Nat.lt_of_lt_of_le B (Nat.le_add_right _ _)
  rcases UM i m with h|h
  .exact Nat.add_lt_add_left h _
  rw[W i h]at Y;cases Y
 |succ fuel ih=>
  intro listed a w st f E W hr hcl hd;refine⟨λG=>?_,λj hj=>?_⟩
  ·
   cases H:JO m es listed with
   |nil=>simp_all
   |cons e l=>
    have J:e∈JO m es listed:=by rw[H];simp
    have⟨he,z⟩:=W6.1 J;simp only[Wr,decide_eq_true_eq]at z;have L:(JO m es listed).Pairwise λa b=>a.i<b.i:=A.filter _;rw[H,IL]at L;have⟨hlt,O⟩:=Xdm hi he;have hoe:ops[e.i]? = some e.o:=by
     have:(es.map (·.o))[e.i]? = some e.o:=by simp[O]
     rw[ho]at this;simpa using this
    have:e.i∈Region.ready .any ops listed:=by
     refine mem_ready.2 ⟨by simpa using z.2,e.o,hoe,λd hd hb=>?_⟩;have t:=hedge e he;unfold Xi8 at t;simp only[WP]at t;have q:=t d (by simpa using hd);simp only[hb,Wl,U1,decide_eq_true_eq]at q;cases B:listed.getD d.on false with
     |true=>rfl
     |false=>
      have e1:=es_i d.on aa;have S:es[d.on]'aa∈JO m es listed:=by refine W6.2 ⟨Wt _,?_⟩;rw[e1,getD_flip _ _ aa,B];simp;omega
      rw[H]at S;rcases Us.1 S with h|h
      .rw[h]at e1;omega
      have:=L.1 _ h;omega
    simp_all
  have⟨z,o,hoj,hall⟩:=mem_ready.1 hj;obtain⟨e,he,O,hei,rfl⟩:=XlO ho hi hoj;have hal:=Xdn hi hanc hcl he hall;have hjm:j<m:=by
   rcases UM j m with h|h
   .exact h
   exfalso;have hno:JO m es listed=[]:=by
    refine List.filter_eq_nil_iff.2 λx g=>?_;have Z:=(Xdm hi g).1;by_cases hxm:x.i<m
    .have:=hal x.i ((p e he).resolve_left aa x.i hxm);rw[getD_flip _ _ aa,this];simp
    simp[hxm]
   rw[hno]at f;cases f
  have J:e∈JO m es listed:=W6.2 ⟨he,by rw[hei,z];simpa using hjm⟩;have⟨l1,l2,hsplit⟩:=List.append_of_mem J;have L:(JO m es listed).Pairwise λa b=>a.i<b.i:=A.filter _;rw[hsplit]at L;have⟨hs1,hs2,hs3⟩:=Oq.1 L;rw[IL]at hs2;have T:j<listed.size:=aa;have hap:∀x∈l1,Xdl x e=true:=by
   intro x g;have Z:x∈JO m es listed:=by rw[hsplit];exact WX _ g
   obtain⟨hxe,hxun⟩:=W6.1 Z;have hlt:x.i<e.i:=hs3 x g e ab;have t:=hpair e he;unfold Xqy at t;simp only[WP]at t;have q:=t x hxe;simp only[hlt,decide_true,Wl,U1,Il]at q;rcases q with q|q
   .have Z:=hal x.i (by simpa using q);have:x.i<listed.size:=by rw[E];exact(Xdm hi hxe).1
    rw[getD_flip _ _ this,Z]at hxun;simp at hxun
   exact q
  rw[hsplit]at hd;have hst:=Xcr hap hd;have V:JO m es (listed.setIfInBounds j true)=l1++l2:=by
   have t:JO m es (listed.setIfInBounds j true)=(JO m es listed).filter λx=>x.i != j:=by
    unfold JO;rw[List.filter_filter];refine List.filter_congr λx g=>?_;by_cases hxj:x.i=j
    .rw[hxj];simp[T]
    rw[getD_set_ne true (Ne.symm hxj)];simp[hxj]
   rw[t,hsplit,Oe,Ow];have q:(e.i != j)=false:=by simp[hei]
   rw[q];have h3:l1.filter (λx=>x.i != j)=l1:=IF.2 λx g=>by have:=hs3 x g e ab;simp;omega
   have h4:l2.filter (λx=>x.i != j)=l2:=IF.2 λx g=>by have:=hs2.1 x g;simp;omega
   rw[h3,h4];simp
  have hnotU:¬UD k0 listed (k0+e.i):=by
   rintro(h|⟨i,Y,h⟩)
   .omega
   have:i=j:=aa;subst this;rw[getD_flip _ _ T,Y]at z;cases z
  have hone:=XlN (Q:=Q) (K:=wpAny P .any ops Q (r+fuel) (listed.setIfInBounds j true)) hr hnotU hst λst' a' w' hr' hF=>by
   refine ih (listed.setIfInBounds j true) a' w' st' ?_ (by simpa using E) (λx g=>by rw[getD_set_ne false aa];exact W x g) ?_ ?_ (by rw[V];exact hF)
   .rw[V];rw[hsplit]at f;simp at f⊢;omega
   .have⟨t,q,M,β,h0,h3,I⟩:=hr';refine⟨t,q,M,β,h0,h3,I.mono λv B=>?_⟩;rcases B with(B|⟨i,Y,rfl⟩)|rfl
    .exact .inl B
    .exact .inr ⟨i,getD_set_true Y,rfl⟩
    exact .inr ⟨j,by simp[T],by rw[hei]⟩
   intro y hy Y x g;by_cases hyj:y.i=j
   .have hye:y=e:=by have t:=(Xdm hi hy).2;rw[hyj,O]at t;simpa using t.symm
    subst hye;exact getD_set_true (hal x g)
   rw[getD_set_ne false (Ne.symm hyj)]at Y;exact getD_set_true (hcl y hy Y x g)
  unfold wpOp;grind
def Xi9(P:Program)(C:Cx)(x:Option (FuncId×List D))(dst:Option Nat)(st:St)(K:St->Prop)[Tag (C,dst,st,K)](_:Prf x):Prop:=match (generalizing:=false) x with
 |some (f,args)=>CallX P C f args dst st K trivial
 |none=>False
def XlP(P:Program)(C:Cx)(x:Option Call)(dst:Option Nat)(st:St)(K:St->Prop)[Tag (C,dst,st,K)](_:Prf x):Prop:=match (generalizing:=false) x with
 |some c=>Xi9 P C (callee (ev st.t C.G) c) dst st K trivial
 |none=>False
def XoT{st:St}{a:Act}{w:World}{o:Oper}{F:St->Prop}{K:AW}(L:Rel P C st a w)(h:XlP P C (KD o.op) o.dst st F trivial)(hK:∀st a w,Rel P C st a w->F st->K a w):o.wp P a w K Q:=by
 have⟨O,S,M,β,E,H,I⟩:=L;have r:=Xde I H;unfold XlP at h;split at h
 .rename_i c J;have A:o.op=.call c:=by
   unfold KD at J;split at J
   .grind
   grind
  unfold Xi9 at h;split at h
  .rename_i f args l;have⟨⟨fn,T,B,V⟩,W⟩:=h;unfold callee at l;split at l
   .rename_i x Y;split at l
    .rename_i g first caps z
     obtain⟨rfl,rfl⟩:=l;have p:=r x;rw[z]at p;have⟨Z,vb,p,ha,hb⟩:=p;unfold Oper.wp;rw[Xar A Y p T B V w];have q:RepL P M β (first++(c.args.toList.map (ev st.t C.G)++caps)) (Z++(c.args.toList.map a.eval++vb)):=
      ha.append ((RepL.map r _).append hb)
     refine(W M β w _ E I q).mono ?_;rintro e w' ⟨v,d,s',k',M',β',rfl,I',hv,hM,hB,hk⟩;exact hK _ _ _ (OH O S E H hM hB I' hv) hk
    cases l
   simp_all
  exact h.elim
 exact h.elim
def Xja(f:es.map (·.i)=List.range es.length):XfE es.length es=true:=by unfold XfE;simp only[Wr,decide_eq_true_eq,WP,Il];exact⟨Uu _,λe g=>.inl (Xdm f g).1⟩
def XeI{l:List Oper}{listed:Array Bool}(t:listed.size=l.length)(h:∀x,listed.getD x false=decide (x<l.length)):Region.ready .any ⟨l⟩ listed=[]:=by
 refine List.eq_nil_iff_forall_not_mem.2 λj q=>?_;have⟨e,o,f,_⟩:=mem_ready.1 q;have r:j<l.length:=by
  rcases UM j l.length with g|g
  .exact g
  simp[g]at f
 have:=h j;have p:j<listed.size:=aa;simp[p,r]at this e;rw[this]at e;cases e
def DrawnG.of{R:St->Prop}{id:Nat}{k:List It}{st:St}{l:List Oper}(S:P.follows .mixedOrders=true)(es:List En)(n:Nat)(L:es.map (·.o)=l)(E:es.map (·.i)=List.range es.length)(T:XfD es=true)(h:dr P C ⟨l⟩ st.k es st λf=>run P C R n k ⟨f.t,f.s,f.n,st.k+es.length⟩)(t:Prf (⟨l⟩:Array Oper))(q:C.rd=none:=by rfl):DrawnG P C R id ⟨l⟩ k st t:=by
 intro a w V;rw[show fz C.rd=Fence.wide by rw[q];rfl];refine wpIn_wide.2 (wp_region_any S ?_);have g:es.length=l.length:=by rw[←L];simp
 have q:RelD P C (UD st.k (Array.replicate (⟨l⟩:Array Oper).size false)) st a {w with drawn:=w.drawn+1}:=by refine RelD.drew ?_ _;obtain⟨G,H,M,β,A,J,I⟩:=V;exact⟨G,H,M,β,A,J,I.mono λv W=>.inl W⟩
 have A:∀x,(Array.replicate (⟨l⟩:Array Oper).size false).getD x false=false:=λx=>by simp only[Array.getD_eq_getD_getElem?,Array.getElem?_replicate];split<;>rfl
 have p:JO es.length es (Array.replicate (⟨l⟩:Array Oper).size false)=es:=by unfold JO;refine IF.2 λe O=>?_;have:=(Xdm E O).1;simp[g▸this,this]
 have:=Xre (r:=0) (Q:=VZ (KX P C R) (sem P C (KX P C R) k)) (es:=es) (k0:=st.k) L E T (Xja E) ?_ _ _ a _ st (by rw[p]) (by simp[g]) (λx _=>A x) q (λe O B=>by rw[A]at B;cases B) (by rw[p];exact h)
 .rw[Ue,g]at this;exact this
 rintro listed f Y w' Z B ⟨G,H,M,β,A,J,I⟩ hK;exact⟨XeI aa (g▸B),YJ n k (st:=⟨f.t,f.s,f.n,st.k+es.length⟩) ⟨G,H,M,β,A,J,I⟩ hK⟩
def Xkq{m:Nat}{q:En->Bool}(e:∀x∈es.take m,q x=true)(f:∀x∈es.drop m,q x=false):es.filter q=es.take m:=by
 have:es.filter q=(es.take m++es.drop m).filter q:=by rw[Ig]
 rw[this,Oe,IF.2 e,List.filter_eq_nil_iff.2 (λx g=>by simp[f x g]),Ia]
def Xkr{m:Nat}{q:En->Bool}(e:∀x∈es.take m,q x=false)(f:∀x∈es.drop m,q x=true):es.filter q=es.drop m:=by
 have:es.filter q=(es.take m++es.drop m).filter q:=by rw[Ig]
 rw[this,Oe,IF.2 f,List.filter_eq_nil_iff.2 (λx g=>by simp[e x g]),Um]
def Xrf(es:List En):Bool:=es.all λe=>e.anc.all λx=>decide (x<e.i)
def OX{R:St->Prop}{id:Nat}{k:List It}{st:St}{l:List Oper}(hm:P.follows .mixedOrders=true)(es:List En)(n m:Nat)(o:Oper)(ho:es.map (·.o)=l)(V:es.map (·.i)=List.range es.length)(A:(XfD es&&(Xrf es&&(XfE m es&&XfE (m+1) es)))=true)(J:l[m]? = some o)(hgd:o.guard=none)(h:dr P C ⟨l⟩ st.k (es.take m) st λf=>XlP P C (KD o.op) o.dst ⟨f.t,f.s,f.n,st.k+m⟩ (λp=>dr P C ⟨l⟩ p.k (es.drop (m+1)) p λf=>run P C R n k ⟨f.t,f.s,f.n,p.k+es.length⟩) trivial)(t:Prf (⟨l⟩:Array Oper))(W:C.rd=none:=by rfl):DrawnG P C R id ⟨l⟩ k st t:=by
 intro a w hr;rw[show fz C.rd=Fence.wide by rw[W];rfl];refine wpIn_wide.2 (wp_region_any hm ?_);simp only[Wr]at A;obtain⟨A,B,hc1,Y⟩:=A;have z:es.length=l.length:=by rw[←ho];simp
 have hml:m<l.length:=by
  rcases UM m l.length with h'|h'
  .exact h'
  simp[h']at J
 have W:RelD P C (UD st.k (Array.replicate (⟨l⟩:Array Oper).size false)) st a {w with drawn:=w.drawn+1}:=by refine RelD.drew ?_ _;obtain⟨Z,L,M,β,h0,h3,I⟩:=hr;exact⟨Z,L,M,β,h0,h3,I.mono λv hv=>.inl hv⟩
 have h0:∀x,(Array.replicate (⟨l⟩:Array Oper).size false).getD x false=false:=λx=>by simp only[Array.getD_eq_getD_getElem?,Array.getElem?_replicate];split<;>rfl
 have es_i:∀j(h:j<es.length),es[j].i=j:=by
  intro j h;have L:(es.map (·.i))[j]? = some es[j].i:=by simp[h]
  rw[V,List.getElem?_range h]at L;simpa using L.symm
 have tk:∀{j},∀x∈es.take j,x.i<j/\x.i<es.length:=λ{j} x g=>by obtain⟨i,hi',rfl⟩:=List.mem_take_iff_getElem.1 g;rw[es_i];omega
 have dp:∀{j},∀x∈es.drop j,j<=x.i/\x.i<es.length:=λ{j} x g=>by obtain⟨i,hi',rfl⟩:=List.mem_drop_iff_getElem.1 g;rw[es_i];omega
 have O:JO m es (Array.replicate (⟨l⟩:Array Oper).size false)=es.take m:=
  Xkq (λx g=>by have:=tk x g;simp[this,←z]) (λx g=>by have:=dp x g;simp;intro h;omega)
 have S:∀e∈es,XoS es e=true/\Xi8 e=true:=by have A:=A;unfold XfD at A;simp at A;exactλe E=>⟨A.1.2 e E,A.1.1 e E⟩
 have getD_flip:∀(listed:Array Bool) (x:Nat),x<listed.size->(listed.getD x true=listed.getD x false):=by intro listed x g;simp[g]
 have T:∀{listed:Array Bool} {j:Nat},(∀x,listed.getD x false=decide (x<j))->∀e∈es,listed.getD e.i false=true->∀x∈e.anc,listed.getD x false=true:=λ{listed j} hd e E h x g=>by unfold Xrf at B;simp only[WP,decide_eq_true_eq]at B;rw[hd,decide_eq_true_eq]at h⊢;have:=B e E x g;omega
 have hA:=Xre (r:=l.length-m) (Q:=VZ (KX P C R) (sem P C (KX P C R) k)) (es:=es) (ops:=⟨l⟩) (k0:=st.k) ho V A hc1 ?_ _ _ a _ st (by rw[O]) (by simp[z]) (λx _=>h0 x) W (λe E J=>by rw[h0]at J;cases J) (by rw[O];exact h)
 .rw[Wx,Nat.min_eq_left aa,Nat.sub_add_cancel aa]at hA;exact hA
 rintro listed f a' w' hs hd ⟨g1,g2,M,β,g0,g3,I⟩ hK;obtain⟨r',hr'⟩:∃r',l.length-m=r'+1:=⟨l.length-m-1,aa⟩
 rw[hr'];have hem:=es_i m aa;have hun:listed.getD m true=false:=by have:=hd m;have G:m<listed.size:=aa;simp[G]at this⊢;exact this
 have hoe:es[m]'aa∈es:=Wt _;have hgo:(es[m]'aa).o=o:=by
  have:(es.map (·.o))[m]? = some (es[m]'aa).o:=by simp[z,hml]
  rw[ho,J]at this;exact(WT this).symm
 have hrm:m∈Region.ready .any ⟨l⟩ listed:=by refine mem_ready.2 ⟨hun,o,by simpa using J,λd hdd hb=>?_⟩;have Z:=(S _ hoe).2;unfold Xi8 at Z;simp only[WP,hgo]at Z;have L:=Z d (by simpa using hdd);simp only[hb,Wl,U1,decide_eq_true_eq,hem]at L;rw[hd,Wi L]
 refine⟨λhn=>(by rw[hn]at hrm;cases hrm),λj hj=>?_⟩;have⟨hju,oj,hoj,hjall⟩:=mem_ready.1 hj;obtain⟨e,E,hget,hei,rfl⟩:=XlO (ops:=⟨l⟩) ho V hoj;have hjl:=(Xdm V E).1;have hjm:j=m:=by
  have hd':listed.getD j false=false:=by have G:j<listed.size:=aa;simp[G]at hju⊢;exact hju
  rw[hd,UR]at hd';rcases UM m j with h'|h'
  .exfalso;unfold XfE at Y;simp only[Wr,decide_eq_true_eq,WP,Il,List.mem_range,Ub]at Y;have:=Xdn V (λe E=>(S e E).1) (T hd) E hjall m ((Y.2 e E).resolve_left aa m aa);rw[hd]at this;simp at this
  omega
 subst hjm;unfold wpOp;have e2:(⟨l⟩:Array Oper)[j]? = some o:=by simpa using J
 rw[e2];have hw:Region.wanted o (yielded (⟨l⟩:Array Oper) a'.tmps)=true:=by unfold Region.wanted;rw[hgd]
 simp only[hw,if_true];refine .inl (XoT (st:=⟨f.t,f.s,f.n,st.k+j⟩) ⟨g1,g2,M,β,g0,g3,I⟩ hK λp a2 w2 ⟨f1,f2,M2,β2,f0,f3,I2⟩ hF=>?_);have hd2:∀x,(listed.setIfInBounds j true).getD x false=decide (x<j+1):=λx=>by
  by_cases g:x=j
  .subst g;rw[Wi aa];have G:x<listed.size:=aa;simp[G]
  rw[getD_set_ne false (Ne.symm g),hd];congr 1;exact propext ⟨λh=>aa,λh=>aa⟩
 have H:JO es.length es (listed.setIfInBounds j true)=es.drop (j+1):=by
  have q:∀x:Nat,x<es.length->(listed.setIfInBounds j true).getD x true=decide (x<j+1):=λx g=>by rw[←hd2];exact getD_flip _ _ ah
  exact Xkr (λx g=>by have:=tk x g;rw[q _ this.2];simp;omega) (λx g=>by have:=dp x g;rw[q _ this.2];simp;omega)
 have hB:=Xre (r:=0) (Q:=VZ (KX P C R) (sem P C (KX P C R) k)) (es:=es) (ops:=⟨l⟩) (k0:=p.k) ho V A (Xja V) ?_ _ (listed.setIfInBounds j true) a2 w2 p (by rw[H]) (by simpa using hs) (λx g=>by rw[hd2,Wh];omega) ⟨f1,f2,M2,β2,f0,f3,I2.mono λv hv=>.inl hv⟩ (T hd2) (by rw[H];exact hF)
 .rw[WR,show 0+(es.length-(j+1))=r' by omega]at hB;exact hB
 rintro listed f a' w' hs J ⟨Z,L,M,β,h0,h3,I⟩ hK;exact⟨XeI aa (z▸J),YJ n k (st:=⟨f.t,f.s,f.n,p.k+es.length⟩) ⟨Z,L,M,β,h0,h3,I⟩ hK⟩
end
variable {P:Program}
def Xsu:Nat->List Oper->List (List Nat×List Nat×List Nat×List Nat)->List En
 |i,o::l,(a,w,m,k)::x=>⟨i,o,a,w,m,k⟩::Xsu (i+1) l x
 |_,_,_=>[]
def CallD(P:Program)(G:Nat->Option (List D))(f:FuncId)(args:List D)(obs:List Ob)(K:D->List Ob->Prop)[Tag (G,K)](_:Prf args):Prop:=
 ∃eargs R,Ki args eargs/\ZD P G f eargs obs R/\(∃r ls,R r ls)/\∀r ls,R r ls->K r ls
def doT(P:Program)(C:Cx)(e:En)(ver:Nat)(s:Heap)(x:Option Kd)(st:St)(F:St->Prop)[Tag (C,e,s,st,F)](_:Prf x):Prop:=
 doK P C e ver s x λd u=>F (nx st (XX e.o.dst st.n) d u st.n st.k)
def Xqz(P:Program)(C:Cx)(s:Heap)(f:FuncId)(args:List D)(K:D->Prop)[Tag (C,s,K)](_:Prf args):Prop:=
 ∃eargs R,RoA P C s args eargs/\ZD P C.G f eargs [] R/\(∃r ls,R r ls)/\∀r ls,R r ls->scal r=true/\K r
section
variable {C:Cx}{full:Array Oper}{k0:Nat}{st:St}{K F:St->Prop}{e:En}{es:List En}{ver:Nat}{s:Heap}
def Xrg:dr P C full k0 [] st K=K st:=propext Iff.rfl
def XoU:dr P C full k0 (e::es) st K=doT P C e (k0+e.i) (ZM e.mi st.s) (kdE P C full (k0+e.i) e.o (KA e.ms st.t) (ZM e.mi st.s)) st (λst=>dr P C full k0 es st K) trivial:=propext Iff.rfl
def XoV{c:Prop}{d:D}{u:Up}{f:Prf (some (Kd.det c d u))}:doT P C e ver s (some (.det c d u)) st F f=(c/\K4 u e.ws/\Xgx (XX e.o.dst st.n) st.n st.k (λdst n k=>F (nx st dst d u n k)) trivial):=propext Iff.rfl
def XlQ{c:Prop}{f:FuncId}{as:List D}{ids:List Nat}{obs:List Ob}{fz:List Nat}{g:Prf (some (Kd.call c f as ids obs fz))}:doT P C e ver s (some (.call c f as ids obs fz)) st F g=(c/\CallD P C.G f as obs (λr ls=>
 Xq0 (aft s ids fz r ls ver (64*(C.off+e.o.dst.getD 0))) (XX e.o.dst st.n) st.n st.k (λdst d u n k=>K4 u e.ws/\F (nx st dst d u n k)) trivial) trivial):=propext Iff.rfl
def Xrh{f:FuncId}{args:List D}{g:Prf (some (Kd.ro f args))}:doT P C e ver s (some (.ro f args)) st F g=Xqz P C s f args (λr=>Xgx (XX e.o.dst st.n) st.n st.k (λdst n k=>F (nx st dst r [] n k)) trivial) trivial:=propext Iff.rfl
def Xri{r:Nat}{x:Option Kd}:kdG (.v (.bool true)) r true x=x:=rfl
def Xrj{r:Nat}{x:Option Kd}:kdG (.v (.bool false)) r false x=x:=rfl
def Xrk{r:Nat}{x:Option Kd}:kdG (.v (.bool true)) r false x=some (.det True (.v undef) []):=rfl
def Xrl{r:Nat}{x:Option Kd}:kdG (.v (.bool false)) r true x=some (.det True (.v undef) []):=rfl
def Xsv{r:Nat}{want:Bool}{x:Option Kd}{f:Array Value}:kdG (.v (.tuple f)) r want x=some (.det True (.v undef) []):=rfl
def XlR{dst:Option Nat}{op:Op}{ty:Nat}{pos:String}{af:Array Edge}{t:Nat->D}:kdE P C full ver ⟨dst,op,ty,pos,af,none⟩ t s=kdO P C ver ⟨dst,op,ty,pos,af,none⟩ t s:=rfl
def kdF(r:Option Nat)(t:Nat->D)(want:Bool)(x:Option Kd):Option Kd:=match r with
 |some r=>kdG (t r) r want x
 |none=>none
def XlS{r:Nat}{t:Nat->D}{want:Bool}{x:Option Kd}:kdF (some r) t want x=kdG (t r) r want x:=rfl
def XlT{dst:Option Nat}{op:Op}{ty:Nat}{pos:String}{af:Array Edge}{t:Nat->D}{g:Nat}{want:Bool}:kdE P C full ver ⟨dst,op,ty,pos,af,some (g,want)⟩ t s=kdF ((full[g]?).bind (·.dst)) t want (kdO P C ver ⟨dst,op,ty,pos,af,some (g,want)⟩ t s):=by rfl
def kdI(P:Program)(C:Cx)(x:Option Call)(ver:Nat)(o:Oper)(t:Nat->D)(s:Heap):Option Kd:=match x with
 |some c=>kd3 C.G s (callee (ev t C.G) c)
 |none=>kd1 (opF P (Xgw C.off o.dst) ver (ev t C.G) s o.op)
def Xrm{o:Oper}{t:Nat->D}:kdO P C ver o t s=kdI P C (KD o.op) ver o t s:=by rfl
def XlU{o:Oper}{t:Nat->D}:kdI P C none ver o t s=kd1 (opF P (Xgw C.off o.dst) ver (ev t C.G) s o.op):=rfl
def XlV{o:Oper}{t:Nat->D}{c:Call}:kdI P C (some c) ver o t s=kd3 C.G s (callee (ev t C.G) c):=rfl
def XlW{c:Prop}{d:D}{u:Up}:kd1 (some (c,d,u))=some (.det c d u):=rfl
def XlX{f:Nat}{args:List D}{g:Prop}{as:List D}{ids:List Nat}{obs:List Ob}{fz:List Nat}:kd2 f args (some (g,as,ids,obs,fz))=some (.call g f as ids obs fz):=rfl
def XlY{f:Nat}{args:List D}:kd2 f args none=some (.ro f args):=rfl
def XlZ{G:Nat->Option (List D)}{f:Nat}{args:List D}:kd3 G s (some (f,args))=kd2 f args (Zu s args):=rfl
def Xks{ws:List Nat}:K4 [] ws=True:=by simp[K4]
def Xic{i v:Nat}{o:Ob}{u:Up}{ws:List Nat}:K4 ((i,v,o)::u) ws=(i∈ws/\K4 u ws):=by simp[K4]
def Xl0{ms:List Nat}{t:Nat->D}{x:Nat}:KA ms t x=if ms.contains x then .any else t x:=rfl
def Xl1{ms:List Nat}{x:Nat}:ZM ms s x=if ms.contains x then none else s x:=rfl
def XF{b:Bool}{r:Nat}{x:Option Kd}(f:st.t r=.v (.bool b))(g:b=true->doT P C e ver s x (XaO st r (.v (.bool true))) F trivial)(h:b=false->doT P C e ver s (some (.det True (.v undef) [])) (XaO st r (.v (.bool false))) F trivial)(t':Prf (kdG (.v (.bool b)) r true x)):doT P C e ver s (kdG (.v (.bool b)) r true x) st F t':=by
 cases b
 .have:=h rfl;rw[ZB f]at this;exact this
 have:=g rfl;rw[ZB f]at this;exact this
def XG{b:Bool}{r:Nat}{x:Option Kd}(f:st.t r=.v (.bool b))(g:b=true->doT P C e ver s (some (.det True (.v undef) [])) (XaO st r (.v (.bool true))) F trivial)(h:b=false->doT P C e ver s x (XaO st r (.v (.bool false))) F trivial)(t':Prf (kdG (.v (.bool b)) r false x)):doT P C e ver s (kdG (.v (.bool b)) r false x) st F t':=by
 cases b
 .have:=h rfl;rw[ZB f]at this;exact this
 have:=g rfl;rw[ZB f]at this;exact this
def CallD.of{G:Nat->Option (List D)}{f:FuncId}{args eargs:List D}{obs:List Ob}{R K:D->List Ob->Prop}(h:ZD P G f eargs obs R)(o:Ki args eargs)(g:∃r ls,R r ls)(hK:∀r ls,R r ls->K r ls)(t':Prf args):CallD P G f args obs K t':=
 ⟨eargs,R,o,h,g,hK⟩
def Xkt{c:Call}{dst:Option Nat}{f:Prf (some c)}:XlP P C (some c) dst st K f=Xi9 P C (callee (ev st.t C.G) c) dst st K trivial:=propext Iff.rfl
def Xid{f:Nat}{args:List D}{dst:Option Nat}{g:Prf (some (f,args))}:Xi9 P C (some (f,args)) dst st K g=CallX P C f args dst st K trivial:=propext Iff.rfl
end
def XoW{ls:List Ob}:Ju ls 1000000=(ls[0]?).map (λo=>(0,o)):=Jw (j:=0)
def XoX{ls:List Ob}:Ju ls 1000001=(ls[1]?).map (λo=>(0,o)):=Jw (j:=1)
def XoY{ls:List Ob}:Ju ls 1000002=(ls[2]?).map (λo=>(0,o)):=Jw (j:=2)
def XoZ{ls:List Ob}:Ju ls 1000003=(ls[3]?).map (λo=>(0,o)):=Jw (j:=3)
def Xo0{ls:List Ob}:Ju ls 1000004=(ls[4]?).map (λo=>(0,o)):=Jw (j:=4)
def Xo1{ls:List Ob}:Ju ls 1000005=(ls[5]?).map (λo=>(0,o)):=Jw (j:=5)
attribute [go_sem] LB XoW XoX XoY XoZ Xo0 Xo1
attribute [go_sem ↓] Xrg XoU XlR XlT Xrm
attribute [go_sem] Xkt Xid XoV XlQ Xrh XlY Xri Xrj Xrk Xrl Xsv XlS XlU XlV XlW XlX XlZ Xks Xic Xl0 Xl1 Xsu List.contains_cons List.contains_nil Bool.or_false Bool.or_true U1 I7
attribute [go_sem ↓] Xow XlA Xox XlB Xq1 XlC Xoy XlD Xkf XlE Xkg Xkh Xoz XlF Xh5 Xki XgC XgD Xkn
attribute [go_sem] XgE Xkj Xkk Xkl Xkm XlG XoA XoB Xh6 XlH Xh7 Xh8 Xh9 XgF XgG XgH XcG XgI Xsh Xsi Xsj Xq2 Xsk Xsl Xsm Xsn Xso Xq3 XoD Xsp Xov Xgw XoC XtC XtD XtE Xsf Xsg XtF Xsq Xsr Xss Xst XoE XlI Xq4 Xko Jw Xq9 Xra Xrb Xrc
attribute [go_sem] Xc5 XhS Xfn Xel Xc6 Xc7 XhT Option.isSome_some Option.isSome_none Option.isNone_some Option.isNone_none
attribute [go_sem] undef KD callee opF ev ofV Xlh okV XX Xcp Xli ivD ivO Xfl JU elems Js Xc3 Xc4 KC D.cells D.one Value.oneCell' OL.isAgg OL.isIface K7 Xek XaX XaY snap Jr VR Xbh Xej Zu ZZ lend Jv pos Z7 aft scal JY VY imp VN XaP XgB Xlz Xh4 shut Xcq Xbn Xot Yl Xfm Xw
attribute [go_sem] Uq Ib UA U9 List.getElem?_cons_zero Iz List.getElem?_nil Ie Option.getD_none Iy Im Oi Iw true_and and_true ne_eq false_implies Uu Ue UK Wu WO Ww IS Wc Wa Wl WY if_true if_false ite_true ite_false UU List.isEmpty_nil List.isEmpty_cons OA Bool.and_false WI Uh Ia Um IA List.getD_cons_zero List.getD_cons_succ WL List.drop_succ_cons List.take_succ_cons Ot List.head?_cons List.headD_cons U7 List.all_nil Od List.set_cons_succ Us List.not_mem_nil or_false or_true false_or not_false_eq_true not_true_eq_false List.nodup_nil List.nodup_cons implies_true forall_const decide_true decide_false and_self Xq5 Xq6 XoF XoG XoH XoI XoJ XoK Xq7 Xq8 XoL XoM XoN XoO XoP XoQ List.replicate_succ List.replicate_zero
variable {P:Program}
def Xo2(n:Int):IntKind.wrap .i64 n=wI n:=rfl
def Xo3(n:Int):IntKind.wrap .u64 n=wU n:=rfl
def Xo4(n:Int):IntKind.wrap .u32 n=wW n:=rfl
section
variable {k k':IntKind}{a b:Int}{T:Nat}{p q:Bool}{xs ys:List D}
def Xl2:Zb P .add T (.v (.int k a)) (.v (.int k b))=some (True,.v (.int k (k.wrap (a+b)))):=by simp[Zb,VM]
def Xl3:Zb P .sub T (.v (.int k a)) (.v (.int k b))=some (True,.v (.int k (k.wrap (a-b)))):=by simp[Zb,VM]
def Xl4:Zb P .mul T (.v (.int k a)) (.v (.int k b))=some (True,.v (.int k (k.wrap (a*b)))):=by simp[Zb,VM]
def Xl5:Zb P .quo T (.v (.int k a)) (.v (.int k b))=some (b≠0,.v (.int k (k.wrap (a.tdiv b)))):=by simp[Zb,VM]
def Xl6:Zb P .rem T (.v (.int k a)) (.v (.int k b))=some (b≠0,.v (.int k (a.tmod b))):=by simp[Zb,VM]
def Xl7:Zb P .and T (.v (.int k a)) (.v (.int k b))=some (True,.v (.int k (ZI k a b))):=by simp[Zb,VM,ZI]
def Xo5:Zb P .or T (.v (.int k a)) (.v (.int k b))=some (True,.v (.int k (bOr k a b))):=by simp[Zb,VM,bOr]
def Xl8:Zb P .xor T (.v (.int k a)) (.v (.int k b))=some (True,.v (.int k (XqS k a b))):=by simp[Zb,VM,XqS]
def XgM:Zb P .andNot T (.v (.int k a)) (.v (.int k b))=some (True,.v (.int k (XiU k a b))):=by simp[Zb,VM,XiU]
def Xl9:Zb P .eql T (.v (.int k a)) (.v (.int k b))=some (True,.v (.bool (a==b))):=by simp[Zb,VM]
def Xma:Zb P .neq T (.v (.int k a)) (.v (.int k b))=some (True,.v (.bool (a != b))):=by simp[Zb,VM]
def Xmb:Zb P .lss T (.v (.int k a)) (.v (.int k b))=some (True,.v (.bool (a<b))):=by simp[Zb,VM]
def Xmc:Zb P .leq T (.v (.int k a)) (.v (.int k b))=some (True,.v (.bool (a<=b))):=by simp[Zb,VM]
def Xmd:Zb P .gtr T (.v (.int k a)) (.v (.int k b))=some (True,.v (.bool (a>b))):=by simp[Zb,VM]
def Xme:Zb P .geq T (.v (.int k a)) (.v (.int k b))=some (True,.v (.bool (a>=b))):=by simp[Zb,VM]
def Xmf:Zb P .shl T (.v (.int k a)) (.v (.int k' b))=some (0<=b,.v (.int k (JT k a b))):=by rfl
def Xmg:Zb P .shr T (.v (.int k a)) (.v (.int k' b))=some (0<=b,.v (.int k (Y5 k a b))):=by rfl
def isB:Option OL->Option (Prop×D)->Option (Prop×D)
 |some ⟨_,_,_,.bool⟩,x=>x
 |_,_=>none
def Xsw{x y:Nat}{z:Value}{r:Option (Prop×D)}:isB (some ⟨x,y,z,.bool⟩) r=r:=rfl
def Xmh:Zb P .eql T (.v (.bool p)) (.v (.bool q))=isB (Xt P T) (some (True,.v (.bool (p==q)))):=by simp only[Zb];unfold isB;grind
def Xmi:Zb P .neq T (.v (.bool p)) (.v (.bool q))=isB (Xt P T) (some (True,.v (.bool (!(p==q))))):=by simp only[Zb];unfold isB;grind
def eqA(neg:Bool):Option (List (Option IntKind))->List D->List D->Option (Prop×D)
 |some f,xs,ys=>(Yl f xs ys).map λb=>(True,.v (.bool (bif neg then !b else b)))
 |none,_,_=>none
def Xmj{neg:Bool}{f:List (Option IntKind)}:eqA neg (some f) xs ys=(Yl f xs ys).map λb=>(True,.v (.bool (bif neg then !b else b))):=rfl
def Xmk:Zb P .eql T (.agg xs) (.agg ys)=eqA false (YM P T) xs ys:=by
 simp only[Zb];cases YM P T with
 |none=>rfl
 |some f=>simp only[eqA];cases Yl f xs ys<;>rfl
def Xml:Zb P .neq T (.agg xs) (.agg ys)=eqA true (YM P T) xs ys:=by
 simp only[Zb];cases YM P T with
 |none=>rfl
 |some f=>simp only[eqA];cases Yl f xs ys<;>rfl
end
def Xku{c:Prop}[Decidable c]{x y:Option (Prop×D×Up)}{dst:Option Nat}{m j:Nat}{f:Option Nat->D->Up->Nat->Nat->Prop}{g:Prf (if c then x else y)}:Xcn (if c then x else y) dst m j f g=(if c then Xcn x dst m j f trivial else Xcn y dst m j f trivial):=by grind
def Xo6{c:Prop}[Decidable c]{x y:Option (Prop×D×Up)}:kd1 (if c then x else y)=(if c then kd1 x else kd1 y):=by grind
def Xo7{C:Cx}{e:En}{ver:Nat}{s:Heap}{c:Prop}[Decidable c]{x y:Option Kd}{st:St}{F:St->Prop}{f:Prf (if c then x else y)}:doT P C e ver s (if c then x else y) st F f=(if c then doT P C e ver s x st F trivial else doT P C e ver s y st F trivial):=by grind
def Xmm{α β:Type}{c:Prop}[Decidable c]{f:α->β}{x y:Option α}:Option.map f (if c then x else y)=if c then Option.map f x else Option.map f y:=by split<;>rfl
def XqA{c a b:Prop}[Decidable c](f:c->a)(g:¬c->b):if c then a else b:=by simp_all
def Eqs(e:D)(ls:List Ob)(d:D)(os:List Ob):Prop:=d=e/\os=ls
def Xrn{e:D}{ls:List Ob}:∃d os,Eqs e ls d os:=⟨_,_,rfl,rfl⟩
def XB{a b:Prop}(h:a)(f:b):a/\b:=⟨h,f⟩
def Xmn{α:Type}{l:List α}{n:Nat}(h:l.length<=n):l.take n=l:=Ur h
def Xro{C:Cx}{R:St->Prop}{c:Code}{k:List It}{st:St}{α β:Type}{o:Option α}{f:α->Option β}{r:β}{I:(α->Prop)->Nat->St->Prop}(t:bnd o f=some r)(m n:Nat)(z:∀g,o=some g->f g=some r->I (λy=>f y=some r) n st)(round:∀n st,I (λy=>f y=some r) n st->run P C R m (.code c::.stop (λh=>∃l,l<n/\I (λy=>f y=some r) l h)::k) st)(t':Prf c):LoopG P C R c k st t':=
 Xew t λg A B=>LoopG.of (I (λy=>f y=some r)) m n (z g A B) round t'
def XfF{α:Type}{x:α}{l:List α}{n:Nat}:List.take (1+n) (x::l)=x::List.take n l:=by grind
def CallG.ofE{G:Nat->Option (List D)}{f:FuncId}{args eargs:List D}{obs ls:List Ob}{e:D}{K:D->List Ob->Prop}(h:ZD P G f eargs obs (Eqs e ls))(g:Ki args eargs)(hK:K e ls)(t':Prf args):CallG P G f args obs K t':=
 CallG.of h g (λ_ _ ⟨l,o⟩=>l▸o▸hK) t'
def CallD.ofE{G:Nat->Option (List D)}{f:FuncId}{args eargs:List D}{obs ls:List Ob}{e:D}{K:D->List Ob->Prop}(h:ZD P G f eargs obs (Eqs e ls))(g:Ki args eargs)(hK:K e ls)(t':Prf args):CallD P G f args obs K t':=
 CallD.of h g Xrn (λ_ _ ⟨l,o⟩=>l▸o▸hK) t'
def X4{d e:D}{obs ls:List Ob}(h:fitsR d e/\obs=ls):RetG d obs (Eqs e ls):=⟨_,h.1,rfl,h.2⟩
def Xrp{a c:Nat}{b d:Ob}:(some (a,b)=some (c,d))=(a=c/\b=d):=by simp
def Xsx{a b:D}{l m:List D}:(a::l=b::m)=(a=b/\l=m):=by simp
def Xrq{a b:List D}{l m:List (List D)}:(a::l=b::m)=(a=b/\l=m):=by simp
def Xrr{a b:Ob}{l m:List Ob}:(a::l=b::m)=(a=b/\l=m):=by simp
attribute [go_sem] fits Ki fitsR Vt Xsx Xrq Xrr Xrp D.osl.injEq D.ept.injEq Ob.arr.injEq exists_eq_left' exists_eq_left exists_eq exists_eq' exists_and_left exists_const or_self true_or or_true false_or or_false false_and and_false eq_self
attribute [go_sem] Xmm Xku Xo6 Xo7 XfF Nat.sub_zero Xmn Xo2 Xo3 Xo4 Xl2 Xl3 Xl4 Xl5 Xl6 Xl7 Xo5 Xl8 XgM Xl9 Xma Xmb Xmc Xmd Xme Xmf Xmg Xmh Xmi Xsw Xmj Xmk Xml UV List.map_set List.map_take List.map_drop List.map_replicate
end Go.Sx
