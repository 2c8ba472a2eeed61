import Derived.LoopNIn
import Derived.OrdersIn
import Derived.TacticsIn
import Derived.Scope
import Derived.Test.YtgbmffljpneflaaGreatDoorBA
set_option linter.all false
namespace Go.Sx
variable {P:Program}
section
variable {C:Cx}{s:Heap}{U:Nat->Prop}{ver:Nat}{M:Mem}{β:Loc}{w:World}
def Xar{fd:Field}(e:P.cellsOf fd.type≠0)(b o:Nat):(fieldPlace ⟨b,o,none⟩ fd).run P w=.ok ⟨b,o+fd.offset,none⟩ w:=by have:=Jj (P:=P) (t:=fd.type) rfl e w;simp[fieldPlace,this,e,UV]
def XaE{fields:Array Field}{f off sz ft:Nat}(h:(fields.toList.map λf=>(f.offset,P.cellsOf f.type,f.type))[f]? = some (off,sz,ft)):∃e,fields[f]? = some e/\e.offset=off/\P.cellsOf e.type=sz/\e.type=ft:=by simp_all
def XhM(fields:Array Field)(e:∀g∈fields.toList,((P.info? g.type).map (·.size)).isSome=true)(w:World):
 (fields.mapM λf=>do pure (f.offset,←sizeOf f.type):Sem (Array (Nat×Nat))).run P w=.ok (fields.map λf=>(f.offset,P.cellsOf f.type)) w:=by
 rw[Array.mapM_eq_mapM_toList];have:∀l:List Field,(∀g∈l,((P.info? g.type).map (·.size)).isSome=true)->(l.mapM λf=>do pure (f.offset,←sizeOf f.type):Sem (List (Nat×Nat))).run P w=.ok (l.map λf=>(f.offset,P.cellsOf f.type)) w:=by
  intro l;induction l with
  |nil=>simp
  |cons f l o=>
   intro h;have p:=h f ab;have j:=o λg q=>h g (by simp[q]);cases k:P.info? f.type with
   |none=>simp[k]at p
   |some i=>
    have:(sizeOf f.type).run P w=.ok (P.cellsOf f.type) w:=by simp[sizeOf,typeInfo,k,Program.cellsOf]
    simp only[List.mapM_cons,Sem.run_bind,this,Result.andThen_ok,Sem.run_pure,j,Ub]
 have h:=this fields.toList e;simp only[Sem.run_map,h,Result.andThen_ok];congr 1;grind
def Xon(I:UY P C s U M β w)(_hv:¬U ver){dst:Option Tmp}{type:TypeId}{pos:String}{after:Array Edge}{guard:Option (Nat×Bool)}(ρ:Operand->Value)(t:Operand->D)(hρ:∀x,Rep P M β (t x) (ρ x)){c:Prop}{d:D}{u:Up}(x:Operand)(h:opF P dst ver t s (.move x)=some (c,d,u))(e:c):OpOK P C s u U ver M β ((execOp ρ ⟨dst,(.move x),type,pos,after,guard⟩).run P w) d:=by unfold execOp;obtain⟨rfl,rfl,rfl⟩:=h;exact .val I rfl (hρ x)
def XjX(I:UY P C s U M β w)(_hv:¬U ver){dst:Option Tmp}{type:TypeId}{pos:String}{after:Array Edge}{guard:Option (Nat×Bool)}(ρ:Operand->Value)(t:Operand->D)(hρ:∀x,Rep P M β (t x) (ρ x)){c:Prop}{d:D}{u:Up}(x:Operand)(h:opF P dst ver t s (.assign x)=some (c,d,u))(e:c):OpOK P C s u U ver M β ((execOp ρ ⟨dst,(.assign x),type,pos,after,guard⟩).run P w) d:=by unfold execOp;obtain⟨rfl,rfl,rfl⟩:=h;exact .val I rfl (hρ x)
def Xoo(I:UY P C s U M β w)(_hv:¬U ver){dst:Option Tmp}{type:TypeId}{pos:String}{after:Array Edge}{guard:Option (Nat×Bool)}(ρ:Operand->Value)(t:Operand->D)(hρ:∀x,Rep P M β (t x) (ρ x)){c:Prop}{d:D}{u:Up}(g:Operand)(a:Operand)(b:Operand)(h:opF P dst ver t s (.pick g a b)=some (c,d,u))(r:c):OpOK P C s u U ver M β ((execOp ρ ⟨dst,(.pick g a b),type,pos,after,guard⟩).run P w) d:=by
 unfold execOp;simp only[opF]at h;split at h
 .rename_i f k;obtain⟨rfl,rfl,rfl⟩:=h;have e:=hρ g;rw[k]at e;refine .val I (v:=if f then ρ a else ρ b) (by simp[e.1,asBool]) ?_;have j:=hρ a;have hb:=hρ b;unfold Xk3;split
  .rename_i p q l o;rw[l]at j;rw[o]at hb;cases f
   .simp[Rep,hb.1,wfV]
   simp[Rep,j.1,wfV]
  cases f
  .exact hb
  exact j
 simp_all
def Xk8(I:UY P C s U M β w)(k:¬U ver){dst:Option Tmp}{type:TypeId}{pos:String}{after:Array Edge}{guard:Option (Nat×Bool)}(ρ:Operand->Value)(t:Operand->D)(_hρ:∀x,Rep P M β (t x) (ρ x)){c:Prop}{d:D}{u:Up}(T:TypeId)(h:opF P dst ver t s (.alloc T)=some (c,d,u))(p:c):OpOK P C s u U ver M β ((execOp ρ ⟨dst,(.alloc T),type,pos,after,guard⟩).run P w) d:=by
 unfold execOp;simp only[opF]at h;split at h
 .rename_i ty j;split at h
  .rename_i q g;split at h
   .rename_i f;obtain⟨rfl,rfl,rfl⟩:=h;have⟨l,o⟩:=Zn (P:=P) (M:=M) (β:=β) g;have e:(Instr.alloc T true (.tuple #[])).run P w=((do pure (Value.pointer (some (←newVar T ty.zero))):Sem Value)).run P w:=by simp[Instr.alloc,KC j]
    exact VOK.op (sem:=Instr.alloc T true (.tuple #[])) (by rw[e];exact Xk4 I k j l o f.1 f.2 (KV dst))
   cases h
  cases h
 simp_all
def Xqz(I:UY P C s U M β w)(g:¬U ver){dst:Option Tmp}{type:TypeId}{pos:String}{after:Array Edge}{guard:Option (Nat×Bool)}(ρ:Operand->Value)(t:Operand->D)(hρ:∀x,Rep P M β (t x) (ρ x)){c:Prop}{d:D}{u:Up}(T:TypeId)(x:Operand)(h:opF P dst ver t s (.box T x)=some (c,d,u))(j:c):OpOK P C s u U ver M β ((execOp ρ ⟨dst,(.box T x),type,pos,after,guard⟩).run P w) d:=by
 unfold execOp;simp only[opF]at h;split at h
 .rename_i ty p k e;split at h
  .rename_i f;obtain⟨rfl,rfl,rfl⟩:=h;have⟨l,o⟩:=K8 e (hρ x);exact VOK.op (Xk4 I g k l o j f (KV dst))
  cases h
 simp_all
def Xk9(I:UY P C s U M β w)(_hv:¬U ver){dst:Option Tmp}{type:TypeId}{pos:String}{after:Array Edge}{guard:Option (Nat×Bool)}(ρ:Operand->Value)(t:Operand->D)(hρ:∀x,Rep P M β (t x) (ρ x)){c:Prop}{d:D}{u:Up}(T:TypeId)(parts:Array (Nat×Operand))(h:opF P dst ver t s (.build T parts)=some (c,d,u))(S:c):OpOK P C s u U ver M β ((execOp ρ ⟨dst,(.build T parts),type,pos,after,guard⟩).run P w) d:=by
 unfold execOp;simp only[opF]at h;split at h
 .rename_i ty o;have⟨V,L⟩:=Xef hρ parts.toList;split at h
  .rename_i q W g z;simp only[Ui,Wy]at h;obtain⟨r,A,rfl,rfl,rfl⟩:=h;have⟨B,O⟩:=Zn (P:=P) (M:=M) (β:=β) g;have⟨E,G,H,k0⟩:=ty;subst z;obtain⟨fields,J,rfl,k⟩:=Kt o;have⟨l,k1,k2⟩:=XcS _ (λi=>(fields.map λf=>(f.offset,P.cellsOf f.type))[i]?) (λi x p=>by
    simp only[Ui,I6,UW]at p
    obtain⟨y,⟨Y,R,rfl⟩,rfl⟩:=p
    simp[R]) _ (parts.map λx=>(x.1,ρ x.2)).toList q H.cells r A B ab (by simpa using L)
   refine .val I (v:=.agg l) ?_ ?_
   .simp only[Instr.build,Sem.run_bind,KC o,Result.andThen_ok,run_underlying J,XhM fields k,k1,Sem.run_pure]
   exact⟨l.toList,ab,k2⟩
  .rename_i q n e sz g z;split at h
   .rename_i Z N;simp only[Ui,Wy]at h;obtain⟨r,A,rfl,rfl,rfl⟩:=h;have⟨B,O⟩:=Zn (P:=P) (M:=M) (β:=β) g;have⟨E,G,H,k0⟩:=ty;subst z;have⟨J,K⟩:=K7 o;have j:∀w:World,(sizeOf e).run P w=.ok sz w:=λw=>by rw[YP N,K,XaC N]
    have⟨l,k1,k2⟩:=XcS _ (λi=>some (i*sz,sz)) (λi x p=>p) _ (parts.map λx=>(x.1,ρ x.2)).toList q H.cells r A B ab (by simpa using L);refine .val I (v:=.agg l) ?_ ?_
    .simp only[Instr.build,Sem.run_bind,KC o,Result.andThen_ok,run_underlying J,j,k1,Sem.run_pure]
    exact⟨l.toList,ab,k2⟩
   cases h
  cases h
 simp_all
def Xd7(I:UY P C s U M β w)(p:¬U ver){dst:Option Tmp}{type:TypeId}{pos:String}{after:Array Edge}{guard:Option (Nat×Bool)}(ρ:Operand->Value)(t:Operand->D)(hρ:∀x,Rep P M β (t x) (ρ x)){c:Prop}{d:D}{u:Up}(T:TypeId)(n:Nat)(parts:Array (Nat×Operand))(h:opF P dst ver t s (.buildSlice T n parts)=some (c,d,u))(q:c):OpOK P C s u U ver M β ((execOp ρ ⟨dst,(.buildSlice T n parts),type,pos,after,guard⟩).run P w) d:=by
 unfold execOp;simp only[opF]at h;split at h
 .rename_i a b zz E z r;split at h
  .rename_i W v;split at h
   .rename_i Y f;split at h
    .rename_i e;have⟨y,A,B,G,H⟩:=e;split at h
     .rename_i Z k l g;simp only[Ui,Wy]at h;obtain⟨es,j,rfl,rfl,rfl⟩:=h;have⟨J,K⟩:=Xef hρ parts.toList;have⟨M',I',o,L⟩:=I.freeze l;have⟨N,O⟩:=Xeg I o g q L K;have R:k.map (·.1)=(parts.map λx=>(x.1,ρ x.2)).toList.map (·.1):=by rw[O,J,Array.toList_map]
      have S:RepL P M' Yx (k.map (·.2)) ((parts.map λx=>(x.1,ρ x.2)).toList.map (·.2)):=by rw[Array.toList_map];exact N
      have⟨M2,β2,w2,V,g1,g2,g3,g4,g5⟩:=VOK.op (Xd6 I' p r v f y A B G H j R S (KV dst));refine⟨M2,β2,w2,V,g1,?_,g3,o.trans g4,g5⟩;rw[Ze,VC];exact g2
     cases h
    cases h
   cases h
  cases h
 simp_all
def Xop(I:UY P C s U M β w)(_hv:¬U ver){dst:Option Tmp}{type:TypeId}{pos:String}{after:Array Edge}{guard:Option (Nat×Bool)}(ρ:Operand->Value)(t:Operand->D)(hρ:∀x,Rep P M β (t x) (ρ x)){c:Prop}{d:D}{u:Up}(T:TypeId)(a:Operand)(h:opF P dst ver t s (.load T a)=some (c,d,u))(f:c):OpOK P C s u U ver M β ((execOp ρ ⟨dst,(.load T a),type,pos,after,guard⟩).run P w) d:=by
 unfold execOp;simp only[opF]at h;split at h
 .rename_i ty k l o z g j;split at h
  .rename_i e;obtain⟨rfl,rfl,rfl⟩:=h;exact VOK.op (Xoj I g j f e.1 e.2 (hρ a))
  cases h
 simp_all
def Xla(I:UY P C s U M β w)(_hv:¬U ver){dst:Option Tmp}{type:TypeId}{pos:String}{after:Array Edge}{guard:Option (Nat×Bool)}(ρ:Operand->Value)(t:Operand->D)(hρ:∀x,Rep P M β (t x) (ρ x)){c:Prop}{d:D}{u:Up}(T:TypeId)(a:Operand)(x:Operand)(h:opF P dst ver t s (.store T a x)=some (c,d,u))(g:c):OpOK P C s u U ver M β ((execOp ρ ⟨dst,(.store T a x),type,pos,after,guard⟩).run P w) d:=by
 unfold execOp;simp only[opF]at h;split at h
 .rename_i ty id v z i W J L;have hp:=hρ a;rw[L]at hp;split at h
  .rename_i N E O K fz j;split at h
   .rename_i R k;split at h
    .rename_i e;have⟨rfl,rfl,f⟩:=e;obtain⟨rfl,rfl,rfl⟩:=h;exact Xf8 I J j hp k (hρ x) g.1 g.2.1 g.2.2 f
    cases h
   cases h
  .rename_i N E O K fz j;split at h
   .rename_i Y Z l o;split at h
    .rename_i R k;split at h
     .rename_i e;have⟨rfl,rfl,f,p⟩:=e;obtain⟨rfl,rfl,rfl⟩:=h;have⟨q,r,y,A⟩:=g;have⟨M',I',B,S⟩:=I.freeze l;have G:=snap_rep I B o q S (hρ x);have H:frz s l id=some (v,.arr false E z K fz):=by unfold frz;rw[Wk p];exact j
      have⟨M2,β2,w2,V,g1,g2,g3,g4,g5⟩:=Xf8 (ver:=ver) I' J H (hp.mono B (BLe.refl _)) k G r y A f;refine⟨M2,β2,w2,V,g1,?_,g3,B.trans g4,g5⟩;rw[Ze,VC];exact g2
     cases h
    cases h
   cases h
  cases h
 simp_all
def Xgc(I:UY P C s U M β w)(_hv:¬U ver){dst:Option Tmp}{type:TypeId}{pos:String}{after:Array Edge}{guard:Option (Nat×Bool)}(ρ:Operand->Value)(t:Operand->D)(hρ:∀x,Rep P M β (t x) (ρ x)){c:Prop}{d:D}{u:Up}(x:Operand)(h:opF P dst ver t s (.nilCheck x)=some (c,d,u))(l:c):OpOK P C s u U ver M β ((execOp ρ ⟨dst,(.nilCheck x),type,pos,after,guard⟩).run P w) d:=by
 unfold execOp;simp only;simp only[opF]at h;split at h
 .rename_i id v z i k g;obtain⟨rfl,rfl,rfl⟩:=h;have e:=hρ x;rw[g]at e;have f:=e;have⟨b,p,_,j⟩:=f;refine .val I (v:=ρ x) ?_ e;rw[j];rfl
 .rename_i z q k g;obtain⟨rfl,rfl,rfl⟩:=h;have e:=hρ x;rw[g]at e;have f:=e;have⟨_,b,o,j,_⟩:=f;refine .val I (v:=ρ x) ?_ e;rw[j];rfl
 simp_all
def XjY(I:UY P C s U M β w){op:BinOp}{T:TypeId}{x:D}{ρ:Operand->Value}{e:Operand}{c:Prop}{d:D}(h:Xe5 P op T x=some (c,d))(r:c){q:Value}(u:Rep P M β x q){y:Operand}(g:XcN e=true)(L:∀v,e=.const v->ρ e=v):VOK P C s [] U ver M β ((do eqGuard op T y e q (ρ e);binOp op T q (ρ e):Sem Value).run P w) d:=by
 have j:∃l c,ρ e=.slice none l c:=by
  cases e with
  |const v=>
   simp only[XcN]at g;unfold XhI at g;split at g
   .cases g
   .cases g
   .rename_i l c;exact⟨l,c,L _ rfl⟩
   cases g
  |_=>simp[XcN]at g
 have⟨A,B,j⟩:=j;rw[j];have key:∀(a:Option Addr) (l k:Nat) {G H:Nat} {J:Value} {E z:Nat},Xu P T=some ⟨G,H,J,.slice E z⟩->(Op.equal T (.slice a l k) (.slice none A B)).run P w=.ok a.isNone w:=by intro a l k G H J E z f;unfold Op.equal Op.maxDepth Op.equalIn;cases a<;>simp[run_underlying (X4 f).1]
 have p:∀(op:BinOp) (a:Option Addr) (l k:Nat),(eqGuard op T y e (.slice a l k) (.slice none A B)).run P w=.ok () w:=by intro op a l k;unfold eqGuard;cases op<;>simp
 unfold Xe5 at h;split at h
 .obtain⟨_,_,_,a,cap,rfl,_,K⟩:=u;split at h
  .rename_i f;obtain⟨rfl,rfl⟩:=h;obtain⟨b,o,rfl,_⟩:=K.resolve_left r;refine .same I (v:=.bool false) ?_ (Zy _);simp[p,binOp,key _ _ _ f]
  .rename_i f;obtain⟨rfl,rfl⟩:=h;obtain⟨b,o,rfl,_⟩:=K.resolve_left r;refine .same I (v:=.bool true) ?_ (Zy _);simp[p,binOp,key _ _ _ f]
  cases h
 .rename_i a l k;obtain⟨rfl,_⟩:=u;split at h
  .rename_i f;obtain⟨rfl,rfl⟩:=h;refine .same I (v:=.bool a.isNone) ?_ (Zy _);simp[p,binOp,key _ _ _ f]
  .rename_i f;simp only[Wt,Wy]at h;obtain⟨rfl,rfl⟩:=h;refine .same I (v:=.bool (!a.isNone)) ?_ (Zy _);simp[p,binOp,key _ _ _ f]
  cases h
 simp_all
def Xlb(I:UY P C s U M β w)(_hv:¬U ver){dst:Option Tmp}{type:TypeId}{pos:String}{after:Array Edge}{guard:Option (Nat×Bool)}(ρ:Operand->Value)(t:Operand->D)(hρ:∀x,Rep P M β (t x) (ρ x)){c:Prop}{d:D}{u:Up}(op:BinOp)(T:TypeId)(x:Operand)(y:Operand)(e:TypeId)(g:∀v,y=.const v->ρ y=v)(h:opF P dst ver t s (.binOp op T x y e)=some (c,d,u))(f:c):OpOK P C s u U ver M β ((execOp ρ ⟨dst,(.binOp op T x y e),type,pos,after,guard⟩).run P w) d:=by
 unfold execOp;simp only[opF,Ui,Wy]at h;obtain⟨⟨k,l⟩,hb,rfl,rfl,rfl⟩:=h;split at hb
 .rename_i j;exact VOK.op (XjY I hb f (hρ x) j g)
 exact VOK.op (Xoi I hb f (hρ x) (hρ y) x y)
def Xoq(I:UY P C s U M β w)(_hv:¬U ver){dst:Option Tmp}{type:TypeId}{pos:String}{after:Array Edge}{guard:Option (Nat×Bool)}(ρ:Operand->Value)(t:Operand->D)(hρ:∀x,Rep P M β (t x) (ρ x)){c:Prop}{d:D}{u:Up}(op:UnOp)(T:TypeId)(x:Operand)(h:opF P dst ver t s (.unOp op T x)=some (c,d,u))(g:c):OpOK P C s u U ver M β ((execOp ρ ⟨dst,(.unOp op T x),type,pos,after,guard⟩).run P w) d:=by
 unfold execOp;simp only;simp only[opF]at h;have e:=hρ x;split at h
 .rename_i b f;obtain⟨rfl,rfl,rfl⟩:=h;rw[f]at e;refine .val I (v:=.bool (!b)) ?_ (Zy _);rw[e.1];simp[Op.unary]
 .rename_i k n f;obtain⟨rfl,rfl,rfl⟩:=h;rw[f]at e;refine .val I (v:=.int k (k.wrap (0-n))) ?_ (Y1 _ _ (Ka _ _));rw[e.1];simp[Op.unary,Op.intArith]
 simp_all
def XhN(I:UY P C s U M β w)(_hv:¬U ver){dst:Option Tmp}{type:TypeId}{pos:String}{after:Array Edge}{guard:Option (Nat×Bool)}(ρ:Operand->Value)(t:Operand->D)(hρ:∀x,Rep P M β (t x) (ρ x)){c:Prop}{d:D}{u:Up}(S:TypeId)(T:TypeId)(x:Operand)(h:opF P dst ver t s (.convert S T x)=some (c,d,u))(o:c):OpOK P C s u U ver M β ((execOp ρ ⟨dst,(.convert S T x),type,pos,after,guard⟩).run P w) d:=by
 unfold execOp;simp only;simp only[opF]at h;split at h
 .rename_i tS a b zz k p n f g j;obtain⟨rfl,rfl,rfl⟩:=h;have e:=hρ x;rw[j]at e;have⟨i,q,_,l,_⟩:=Yh f;refine .val I (v:=.int k (k.wrap n)) ?_ (Y1 _ _ (Ka _ _));rw[e.1];simp[convert,run_underlying l,run_underlying (Xa1 g),Conv.intToInt]
 simp_all
def Xgd(I:UY P C s U M β w)(_hv:¬U ver){dst:Option Tmp}{type:TypeId}{pos:String}{after:Array Edge}{guard:Option (Nat×Bool)}(ρ:Operand->Value)(t:Operand->D)(hρ:∀x,Rep P M β (t x) (ρ x)){c:Prop}{d:D}{u:Up}(fn:Fn)(first:Array Operand)(captured:Array Operand)(h:opF P dst ver t s (.makeFunc fn first captured)=some (c,d,u))(f:c):OpOK P C s u U ver M β ((execOp ρ ⟨dst,(.makeFunc fn first captured),type,pos,after,guard⟩).run P w) d:=by
 unfold execOp;obtain⟨rfl,rfl,rfl⟩:=h;refine .val I (v:=.func fn (first.map ρ) (captured.map ρ)) (by simp[Instr.makeFunc]) ?_;refine⟨first.toList.map ρ,captured.toList.map ρ,?_,Xe9 hρ _,Xe9 hρ _⟩;have e:∀l:Array Operand,l.map ρ=⟨l.toList.map ρ⟩:=λl=>by apply Array.ext';simp
 simp_all
def Xfc(I:UY P C s U M β w)(o:¬U ver){dst:Option Tmp}{type:TypeId}{pos:String}{after:Array Edge}{guard:Option (Nat×Bool)}(ρ:Operand->Value)(t:Operand->D)(hρ:∀x,Rep P M β (t x) (ρ x)){c:Prop}{d:D}{u:Up}(T:TypeId)(l:Operand)(f:Operand)(h:opF P dst ver t s (.makeSlice T l f)=some (c,d,u))(p:c):OpOK P C s u U ver M β ((execOp ρ ⟨dst,(.makeSlice T l f),type,pos,after,guard⟩).run P w) d:=by
 unfold execOp;simp only;simp only[opF]at h;split at h
 .rename_i a b zz E z n m q r v;split at h
  .rename_i J y;split at h
   .rename_i K g;split at h
    .rename_i e;obtain⟨rfl,rfl,rfl⟩:=h;have⟨A,rfl,B,G⟩:=p;have⟨k,H,_⟩:=Vd r (hρ l);have⟨L,j,_⟩:=Vd v (hρ f);rw[H,j];exact VOK.op (Xom I o q y g e.1 e.2 A B G (KV dst))
    cases h
   cases h
  cases h
 simp_all
def Xlc(I:UY P C s U M β w)(_hv:¬U ver){dst:Option Tmp}{type:TypeId}{pos:String}{after:Array Edge}{guard:Option (Nat×Bool)}(ρ:Operand->Value)(t:Operand->D)(hρ:∀x,Rep P M β (t x) (ρ x)){c:Prop}{d:D}{u:Up}(T:TypeId)(x:Operand)(r:Option Operand)(v:Option Operand)(y:Option Operand)(h:opF P dst ver t s (.slice T x r v y)=some (c,d,u))(B:c):OpOK P C s u U ver M β ((execOp ρ ⟨dst,(.slice T x r v y),type,pos,after,guard⟩).run P w) d:=by
 unfold execOp;simp only[opF]at h;split at h
 .rename_i a b zz E sz l V m g j e k;split at h
  .rename_i G o;simp only[Ui,Wy]at h;obtain⟨⟨W,Y⟩,H,rfl,rfl,rfl⟩:=h;have⟨k1,p⟩:=Ve hρ j;have⟨k2,q⟩:=Ve hρ e;have⟨J,e3⟩:=Ve hρ k;simp only[p,q,e3];exact VOK.op (XjT I g o H B (hρ x))
  cases h
 .rename_i a b zz n E K g j e k;split at h
  .rename_i G z Z o L;split at h
   .rename_i f;have⟨N,rfl,O,R,S⟩:=f;obtain⟨rfl,rfl,rfl⟩:=h;have⟨k1,p⟩:=Ve hρ j;have⟨k2,q⟩:=Ve hρ e;have⟨J,e3⟩:=Ve hρ k;simp only[p,q,e3];have A:=hρ x;rw[L]at A;exact VOK.op (XjU I g o N O R S A)
   cases h
  cases h
 simp_all
def Xfd(I:UY P C s U M β w)(_hv:¬U ver){dst:Option Tmp}{type:TypeId}{pos:String}{after:Array Edge}{guard:Option (Nat×Bool)}(ρ:Operand->Value)(t:Operand->D)(hρ:∀x,Rep P M β (t x) (ρ x)){c:Prop}{d:D}{u:Up}(T:TypeId)(x:Operand)(f:Nat)(h:opF P dst ver t s (.fieldAddr T x f)=some (c,d,u))(J:c):OpOK P C s u U ver M β ((execOp ρ ⟨dst,(.fieldAddr T x f),type,pos,after,guard⟩).run P w) d:=by
 unfold execOp;simp only;simp only[opF]at h;have k:=hρ x;split at h
 .rename_i a b zz B id v z i j l p;split at h
  .rename_i off sz E q;split at h
   .cases h
   rename_i e;obtain⟨rfl,rfl,rfl⟩:=h;rw[p]at k;have⟨g,G,hb,r⟩:=k;obtain⟨fields,y,rfl,_⟩:=Kt l;have⟨fd,g1,g2,g3,g4⟩:=XaE q;have hp:=Xar (P:=P) (w:=w) (fd:=fd) (by rw[g3];exact e) g (i*z+j);refine .val I (v:=.pointer (some ⟨g,i*z+j+off,none⟩)) ?_ ?_
   .rw[r];simp[Instr.fieldAt,run_underlying y,g1,Instr.sureAddr,hp,g2]
   exact⟨g,G,hb,by rw[Nat.add_assoc]⟩
  cases h
 .rename_i a b zz B z K j l p;split at h
  .rename_i off sz E q;split at h
   .cases h
   rename_i e;obtain⟨rfl,rfl,rfl⟩:=h;rw[p]at k;obtain⟨H,g,o,r,A⟩:=k;obtain⟨fields,y,rfl,_⟩:=Kt l;obtain⟨fd,g1,g2,g3,g4⟩:=XaE q;have hp:=Xar (P:=P) (w:=w) (fd:=fd) (by rw[g3];exact e) g (o+j);refine .val I (v:=.pointer (some ⟨g,o+j+off,none⟩)) ?_ ?_
   .rw[r];simp[Instr.fieldAt,run_underlying y,g1,Instr.sureAddr,hp,g2]
   simp only[Rep];exact⟨H,g,o,by rw[Nat.add_assoc],A⟩
  cases h
 simp_all
def Xld(I:UY P C s U M β w)(_hv:¬U ver){dst:Option Tmp}{type:TypeId}{pos:String}{after:Array Edge}{guard:Option (Nat×Bool)}(ρ:Operand->Value)(t:Operand->D)(hρ:∀x,Rep P M β (t x) (ρ x)){c:Prop}{d:D}{u:Up}(T:TypeId)(x:Operand)(f:Nat)(h:opF P dst ver t s (.field T x f)=some (c,d,u))(B:c):OpOK P C s u U ver M β ((execOp ρ ⟨dst,(.field T x f),type,pos,after,guard⟩).run P w) d:=by
 unfold execOp;simp only;simp only[opF]at h;have r:=hρ x;split at h
 .rename_i a b zz N k E G;split at h
  .rename_i off sz O H;split at h
   .rename_i ty g;split at h
    .rename_i l;obtain⟨rfl,rfl,rfl⟩:=h;have⟨y,o⟩:=B;rw[G]at r;have⟨z,J,j⟩:=r;obtain⟨fields,A,rfl,_⟩:=Kt E;have⟨R,g1,g2,g3,g4⟩:=XaE H;subst g4;rw[J];cases e:ty.isAgg with
     |true=>
      refine .val I (v:=.agg ((z.toArray).extract off (off+sz))) ?_ ?_
      .simp[Instr.field,run_underlying A,g1,part,asAgg,K6 g,e,YP g,l,g2]
      refine⟨(z.drop off).take sz,?_,(j.drop off).take sz⟩;congr 1;simp[List.extract_eq_take_drop]
     |false=>
      have K:sz=1:=by rcases o with h|h;(rw[e]at h;cases h);exact h
      subst K;have⟨L,p,q⟩:=j.get off (k[off]'aa) ab;refine .val I (v:=L) ?_ ?_
      .simp[Instr.field,run_underlying A,g1,part,asAgg,K6 g,e,g2,p]
      simp only[Ji,U9,if_false];have:((k.drop off).take 1).headD .any=k[off]'aa:=by rw[List.take_one];simp[List.head?_drop,show off<k.length by omega]
      rw[this];exact q
    cases h
   cases h
  cases h
 simp_all
def Xfe(I:UY P C s U M β w)(_hv:¬U ver){dst:Option Tmp}{type:TypeId}{pos:String}{after:Array Edge}{guard:Option (Nat×Bool)}(ρ:Operand->Value)(t:Operand->D)(hρ:∀x,Rep P M β (t x) (ρ x)){c:Prop}{d:D}{u:Up}(T:TypeId)(x:Operand)(ix:Operand)(h:opF P dst ver t s (.indexAddr T x ix)=some (c,d,u))(q:c):OpOK P C s u U ver M β ((execOp ρ ⟨dst,(.indexAddr T x ix),type,pos,after,guard⟩).run P w) d:=by
 unfold execOp;simp only;simp only[opF]at h;have f:=hρ x;split at h
 .rename_i a b zz E sz E' z S i r y A;split at h
  .rename_i B;have⟨rfl,g⟩:=B;obtain⟨rfl,rfl,rfl⟩:=h;have⟨k,G,_⟩:=Vd A (hρ ix);have⟨H,l⟩:=X4 r;rw[y]at f;have⟨q1,q2,q3,base,cap,J,O,f⟩:=f;have K:i.toNat<S.length:=aa;rcases f with rfl|⟨p,o,rfl,f⟩
   .simp at K
   have e:∀{n:Nat},sz=n->n≠0->(sizeOf E).run P w=.ok n w:=λ{n} h1 h2=>Jj (l.symm.trans h1) h2 w;have L:=f.get q1 i.toNat S[i.toNat] (by simp[K]);have V:S.getD i.toNat []=S[i.toNat]:=by rw[Wr,Wc K];rfl
   rcases Uf sz with R|R
   .exact absurd R g
   refine .val I (v:=.pointer (some ⟨p,o+i.toNat*sz,none⟩)) ?_ ?_
   .rw[J,G];simp[Instr.indexAt,run_underlying H,asIntOf,q.1,q.2,e rfl aa,UV]
   rw[V];exact⟨q1 _ (WL _),p,o+i.toNat*sz,ab,L⟩
  cases h
 .rename_i a b zz E sz id v z off len i r y A;split at h
  .rename_i B;have⟨rfl,g⟩:=B;obtain⟨rfl,rfl,rfl⟩:=h;obtain⟨k,G,_⟩:=Vd A (hρ ix);obtain⟨H,l⟩:=X4 r;rw[y]at f;simp only[Rep]at f;rcases f with⟨_,_,rfl,_,_⟩|⟨p,W,o,cap,N,J,O,hcb,ho⟩
   .omega
   have Y:o=off*sz:=by rcases ho with h|h;exact h;omega
   subst Y;refine .val I (v:=.pointer (some ⟨p,off*sz+i.toNat*sz,none⟩)) ?_ ?_
   .rw[J,G];have e:=Jj l.symm g w;simp[Instr.indexAt,run_underlying H,asIntOf,q.1,q.2,e,UV]
   simp only[Rep];exact⟨p,W,N,by rw[Us];simp⟩
  cases h
 .rename_i a b zz n E sz z cs Z i r y A;split at h
  .cases h
  rename_i g;simp only[Wt,Wy]at h;obtain⟨rfl,rfl,rfl⟩:=h;obtain⟨k,G,_⟩:=Vd A (hρ ix);obtain⟨H,l⟩:=K7 r;have e:=Jj l.symm g w;rw[y]at f;simp only[Rep]at f;obtain⟨hz,p,o,J,L⟩:=f;refine .val I (v:=.pointer (some ⟨p,o+Z+i.toNat*sz,none⟩)) ?_ ?_
  .rw[J,G];simp[Instr.indexAt,run_underlying H,asIntOf,Instr.sureAddr,q.1,q.2,e,UV]
  simp only[Rep];exact⟨hz,p,o,by rw[Nat.add_assoc],L⟩
 .rename_i a b zz n E sz id v z j Z i r y A;split at h
  .cases h
  rename_i g;simp only[Wt,Wy]at h;obtain⟨rfl,rfl,rfl⟩:=h;obtain⟨k,G,_⟩:=Vd A (hρ ix);obtain⟨H,l⟩:=K7 r;have e:=Jj l.symm g w;rw[y]at f;simp only[Rep]at f;obtain⟨p,W,N,J⟩:=f;refine .val I (v:=.pointer (some ⟨p,j*z+Z+i.toNat*sz,none⟩)) ?_ ?_
  .rw[J,G];simp[Instr.indexAt,run_underlying H,asIntOf,Instr.sureAddr,q.1,q.2,e,UV]
  simp only[Rep];exact⟨p,W,N,by rw[Nat.add_assoc]⟩
 simp_all
def Xle(I:UY P C s U M β w)(_hv:¬U ver){dst:Option Tmp}{type:TypeId}{pos:String}{after:Array Edge}{guard:Option (Nat×Bool)}(ρ:Operand->Value)(t:Operand->D)(hρ:∀x,Rep P M β (t x) (ρ x)){c:Prop}{d:D}{u:Up}(T:TypeId)(x:Operand)(ix:Operand)(h:opF P dst ver t s (.index T x ix)=some (c,d,u))(H:c):OpOK P C s u U ver M β ((execOp ρ ⟨dst,(.index T x ix),type,pos,after,guard⟩).run P w) d:=by
 unfold execOp;simp only;simp only[opF]at h;have z:=hρ x;split at h
 .rename_i a b zz n e sz o i J K L;split at h
  .rename_i ty g;split at h
   .rename_i j;obtain⟨rfl,rfl,rfl⟩:=h;have⟨A,B,E,p⟩:=H;have⟨k,N,_⟩:=Vd L (hρ ix);have⟨G,O⟩:=K7 J;rw[K]at z;have⟨q,R,l⟩:=z;rw[R,N];cases f:ty.isAgg with
    |true=>
     refine .val I (v:=.agg ((q.toArray).extract (i.toNat*sz) (i.toNat*sz+sz))) ?_ ?_
     .simp[Instr.index,run_underlying G,asIntOf,A,B,part,asAgg,K6 g,f,YP g,j]
     refine⟨(q.drop (i.toNat*sz)).take sz,?_,(l.drop (i.toNat*sz)).take sz⟩;congr 1;simp[List.extract_eq_take_drop]
    |false=>
     have S:sz=1:=by rcases p with h|h;(rw[f]at h;cases h);exact h
     subst S;have⟨x0,r,y⟩:=l.get (i.toNat*1) (o[i.toNat*1]'aa) ab;refine .val I (v:=x0) ?_ ?_
     .simp[Instr.index,run_underlying G,asIntOf,A,B,part,asAgg,K6 g,f,YP g,j];have:q[i.toNat]? = some x0:=by rw[←r,Nat.mul_one]
      simp[this]
     simp only[Ji,U9,if_false];have:((o.drop (i.toNat*1)).take 1).headD .any=o[i.toNat*1]'aa:=by rw[List.take_one];have V:i.toNat<o.length:=aa;simp[List.head?_drop,V]
     rw[this];exact y
   cases h
  cases h
 simp_all
def XhO(I:UY P C s U M β w)(_hv:¬U ver){dst:Option Tmp}{type:TypeId}{pos:String}{after:Array Edge}{guard:Option (Nat×Bool)}(ρ:Operand->Value)(t:Operand->D)(hρ:∀x,Rep P M β (t x) (ρ x)){c:Prop}{d:D}{u:Up}(x:Operand)(i:Nat)(h:opF P dst ver t s (.extract x i)=some (c,d,u))(q:c):OpOK P C s u U ver M β ((execOp ρ ⟨dst,(.extract x i),type,pos,after,guard⟩).run P w) d:=by
 unfold execOp;simp only;simp only[opF]at h;have j:=hρ x;split at h
 .rename_i l o;split at h
  .rename_i k;obtain⟨rfl,rfl,rfl⟩:=h;rw[o]at j;have⟨r,p,e⟩:=j;have⟨v,f,g⟩:=e.get i l[i] (by simp[k]);refine .val I (v:=v) ?_ ?_
   .rw[p];simp[Instr.extract,f]
   rw[Wr,Wc k];exact g
  cases h
 simp_all
def Xa4{t:Operand->D}{ρ:Operand->Value}(hρ:∀x,Rep P M β (t x) (ρ x)){args:Array Operand}{d:D}(h:args.toList.map t=[d]):∃v,args.map ρ=#[v]/\Rep P M β d v:=by
 have⟨l⟩:=args;match l,h with
 |[x],h=>grind
def VD{t:Operand->D}{ρ:Operand->Value}(hρ:∀x,Rep P M β (t x) (ρ x)){args:Array Operand}{d e:D}(h:args.toList.map t=[d,e]):∃v u,args.map ρ=#[v,u]/\Rep P M β d v/\Rep P M β e u:=by
 have⟨l⟩:=args;match l,h with
 |[x,y],h=>grind
def XbB{types:Array TypeId}{T:TypeId}(h:types.toList=[T]):types=#[T]:=by grind
def XjZ{types:Array TypeId}{T T2:TypeId}(h:types.toList=[T,T2]):types=#[T,T2]:=by grind
def Vf{n:Nat}(h:n<=Xy):wfV (.int .i64 n):=by simp only[wfV,IntKind.min,IntKind.max,IntKind.signed,IntKind.bits,if_true];grind[Xy]
def XqA(I:UY P C s U M β w){dst:Option Tmp}{type:TypeId}{pos:String}{after:Array Edge}{guard:Option (Nat×Bool)}(ρ:Operand->Value)(t:Operand->D)(hρ:∀x,Rep P M β (t x) (ρ x)){c:Prop}{d:D}{u:Up}(args:Array Operand)(types:Array TypeId)(h:opF P dst ver t s (.call ⟨.builtin .len,args,types⟩)=some (c,d,u))(J:c):OpOK P C s u U ver M β ((execOp ρ ⟨dst,.call ⟨.builtin .len,args,types⟩,type,pos,after,guard⟩).run P w) d:=by
 simp only[opF]at h;split at h
 .rename_i d0 T L ht;have⟨v,N,g⟩:=Xa4 hρ L;have p:=XbB ht;subst p;have start:∀r:Int,(Builtin.len_ #[T] type #[v]).run P w=.ok (.int .i64 r) w->(execOp ρ ⟨dst,.call ⟨.builtin .len,args,#[T]⟩,type,pos,after,guard⟩).run P w=.ok (.value (.int .i64 r)) w:=by intro r j;simp[execOp,resolve,invoke,builtin,N,j]
  split at h
  .rename_i a b zz E sz e;obtain⟨rfl,rfl,rfl⟩:=h;obtain⟨G,rfl⟩:=g;exact .val I (v:=.int .i64 0) (start 0 (by simp[Builtin.len_,run_underlying (X4 e).1,goInt])) (Y1 _ _ (Vf (n:=0) ae))
  .rename_i a b zz E sz E' z o e;obtain⟨rfl,rfl,rfl⟩:=h;obtain⟨_,H,_,G,cap,rfl,_⟩:=g;exact .val I (v:=.int .i64 o.length) (start _ (by simp[Builtin.len_,run_underlying (X4 e).1,goInt])) (Y1 _ _ (Vf H))
  .rename_i a b zz E sz id O z off len e;obtain⟨rfl,rfl,rfl⟩:=h;have q:∃a cap,v=.slice a len cap:=by
    simp only[Rep]at g;rcases g with⟨_,_,rfl,a,rfl⟩|⟨_,_,_,cap,_,rfl,_⟩
    .exact⟨_,_,rfl⟩
    exact⟨_,_,rfl⟩
   obtain⟨G,cap,rfl⟩:=q;exact .val I (v:=.int .i64 len) (start _ (by simp[Builtin.len_,run_underlying (X4 e).1,goInt])) (Y1 _ _ (Vf J))
  .rename_i a b zz n E sz e;split at h
   .rename_i R;simp only[Wt,Wy]at h;obtain⟨rfl,rfl,rfl⟩:=h;exact .val I (v:=.int .i64 n) (start _ (by simp[Builtin.len_,run_underlying (K7 e).1,goInt])) (Y1 _ _ (Vf R))
   cases h
  .rename_i id S _;split at h
   .rename_i k E O k2 o e V;split at h
    .rename_i f;obtain⟨rfl,rfl⟩:=f;simp only[Wt,Wy]at h;obtain⟨rfl,rfl,rfl⟩:=h;obtain⟨K,y,W⟩:=Kv e;simp only[Rep]at g;obtain⟨b,Y,hb,rfl⟩:=g;obtain⟨x0,l,A⟩:=I.obs id S _ V;rw[hb]at l;obtain rfl:some (b,Y)=x0:=by simpa using l
     obtain⟨rfl,Z,H,ents,clock,h3,h4,h5,h6⟩:=A;have hl:=h4.length;have B:ents.size=o.length:=by simpa using hl
     exact .val I (v:=.int .i64 o.length) (start _ (by simp[Builtin.len_,run_underlying y,goInt,Go.MapKept.run_getObj_map h3,B])) (Y1 _ _ (Vf Z))
    cases h
   cases h
  cases h
 simp_all
def Xj0(I:UY P C s U M β w){dst:Option Tmp}{type:TypeId}{pos:String}{after:Array Edge}{guard:Option (Nat×Bool)}(ρ:Operand->Value)(t:Operand->D)(hρ:∀x,Rep P M β (t x) (ρ x)){c:Prop}{d:D}{u:Up}(args:Array Operand)(types:Array TypeId)(h:opF P dst ver t s (.call ⟨.builtin .delete,args,types⟩)=some (c,d,u))(_hc:c):OpOK P C s u U ver M β ((execOp ρ ⟨dst,.call ⟨.builtin .delete,args,types⟩,type,pos,after,guard⟩).run P w) d:=by
 simp only[opF]at h;split at h
 .rename_i id v k' n T N o ht;have⟨v1,v2,A,B,G⟩:=VD hρ o;have⟨tl⟩:=types;subst ht;split at h
  .rename_i k E v' k2 V W H;split at h
   .rename_i g;have⟨rfl,rfl,rfl⟩:=g;obtain⟨rfl,rfl,rfl⟩:=h;have⟨K,q,f⟩:=Kv W;obtain⟨b,Y,hb,rfl⟩:=B;obtain⟨rfl,_⟩:=G;have⟨x0,r,J⟩:=I.obs id v _ H;rw[hb]at r;obtain rfl:some (b,Y)=x0:=by simpa using r
    obtain⟨rfl,Z,h2,ents,clock,p,O,R,S⟩:=J;have start:∀a,Instr.findNow (.int k) (.int k n) ents.toList 0=some a->(Builtin.delete_ ⟨T::N⟩ type #[.map (some b),.int k n]).run P w =
     .ok (.tuple #[]) {w with heap:=w.heap.setIfInBounds b (.map (match a with|some (i,_)=>ents.eraseIdxIfInBounds i|none=>ents) clock)}:=by
     intro a o
     unfold Builtin.delete_
     cases a with
     |none=>simp[run_underlying q,Go.MapKept.run_getObj_map p,Go.MapKept.run_checkKey f (V6 k n),Go.MapKept.run_findKey f o,Go.MapKept.run_setObj_map _ p]
     |some y=>simp[run_underlying q,Go.MapKept.run_getObj_map p,Go.MapKept.run_checkKey f (V6 k n),Go.MapKept.run_findKey f o,Go.MapKept.run_setObj_map _ p]
    have start2:∀a,Instr.findNow (.int k) (.int k n) ents.toList 0=some a->(execOp ρ ⟨dst,.call ⟨.builtin .delete,args,⟨T::N⟩⟩,type,pos,after,guard⟩).run P w =
     .ok (.value (.tuple #[])) {w with heap:=w.heap.setIfInBounds b (.map (match a with|some (i,_)=>ents.eraseIdxIfInBounds i|none=>ents) clock)}:=by
     intro a o
     simp[execOp,resolve,invoke,builtin,A,start a o]
    rcases Xa3 n ents.toList V 0 O with⟨g1,g2,g3,g4⟩|⟨j,e,d0,g1,g2,g3,g4,g5,g6,g7,g8,g9⟩
    .refine⟨M,β,_,.tuple #[],.inl (start2 _ g4),?_,by simp[Rep,RepL],MLe.refl _,BLe.refl _⟩;rw[g2];exact(I.setMap H hb p Z O R S).mono λ_ h=>.inl h
    have l:(ents.eraseIdxIfInBounds (0+j)).toList=ents.toList.eraseIdx j:=by
     have hj:j<ents.size:=by
      rcases Ur j ents.size with L|L
      .exact L
      rw[W3 (by exact L)]at g3;cases g3
     rw[UG];simp[Array.eraseIdxIfInBounds,hj]
    refine⟨M,β,_,.tuple #[],.inl (start2 _ g2),?_,by simp[Rep,RepL],MLe.refl _,BLe.refl _⟩;refine(I.setMap H hb p aa (by rw[l];exact g7) ?_ ?_).mono λ_ h=>.inl h
    .rw[l];exact R.sublist ((List.eraseIdx_sublist _ _).map _)
    intro e' z;rw[l]at z;exact S e' (List.mem_of_mem_eraseIdx z)
   cases h
  cases h
 simp_all
def XqB(I:UY P C s U M β w){dst:Option Tmp}{type:TypeId}{pos:String}{after:Array Edge}{guard:Option (Nat×Bool)}(ρ:Operand->Value)(t:Operand->D)(hρ:∀x,Rep P M β (t x) (ρ x)){c:Prop}{d:D}{u:Up}(args:Array Operand)(types:Array TypeId)(h:opF P dst ver t s (.call ⟨.builtin .cap,args,types⟩)=some (c,d,u))(_hc:c):OpOK P C s u U ver M β ((execOp ρ ⟨dst,.call ⟨.builtin .cap,args,types⟩,type,pos,after,guard⟩).run P w) d:=by
 simp only[opF]at h;split at h
 .rename_i l T f ht;have⟨v,g,j⟩:=Xa4 hρ f;have e:=XbB ht;subst e;split at h
  .rename_i a b zz E sz k;obtain⟨rfl,rfl,rfl⟩:=h;obtain⟨o,rfl⟩:=j;exact .val I (v:=.int .i64 0) (by simp[execOp,resolve,invoke,builtin,g,Builtin.cap_,run_underlying (X4 k).1,goInt]) (Y1 _ _ (Vf (n:=0) ae))
  cases h
 simp_all
def XqC(I:UY P C s U M β w){dst:Option Tmp}{type:TypeId}{pos:String}{after:Array Edge}{guard:Option (Nat×Bool)}(ρ:Operand->Value)(t:Operand->D)(hρ:∀x,Rep P M β (t x) (ρ x)){c:Prop}{d:D}{u:Up}(args:Array Operand)(types:Array TypeId)(h:opF P dst ver t s (.call ⟨.builtin .min,args,types⟩)=some (c,d,u))(_hc:c):OpOK P C s u U ver M β ((execOp ρ ⟨dst,.call ⟨.builtin .min,args,types⟩,type,pos,after,guard⟩).run P w) d:=by
 simp only[opF]at h;split at h
 .rename_i j a k b g;split at h
  .rename_i l;subst l;have⟨p,q,o,e,f⟩:=VD hρ g;obtain⟨rfl,rfl,rfl⟩:=h;obtain⟨rfl,w1⟩:=e;obtain⟨rfl,w2⟩:=f;refine .val I (v:=.int j (if b<a then b else a)) (by simp[execOp,resolve,invoke,builtin,o,Builtin.min_,Builtin.min2]) (Y1 _ _ ?_);split<;>assumption
  cases h
 simp_all
def XqD(I:UY P C s U M β w){dst:Option Tmp}{type:TypeId}{pos:String}{after:Array Edge}{guard:Option (Nat×Bool)}(ρ:Operand->Value)(t:Operand->D)(hρ:∀x,Rep P M β (t x) (ρ x)){c:Prop}{d:D}{u:Up}(args:Array Operand)(types:Array TypeId)(h:opF P dst ver t s (.call ⟨.builtin .max,args,types⟩)=some (c,d,u))(_hc:c):OpOK P C s u U ver M β ((execOp ρ ⟨dst,.call ⟨.builtin .max,args,types⟩,type,pos,after,guard⟩).run P w) d:=by
 simp only[opF]at h;split at h
 .rename_i j a k b g;split at h
  .rename_i l;subst l;have⟨p,q,o,e,f⟩:=VD hρ g;obtain⟨rfl,rfl,rfl⟩:=h;obtain⟨rfl,w1⟩:=e;obtain⟨rfl,w2⟩:=f;refine .val I (v:=.int j (if a<b then b else a)) (by simp[execOp,resolve,invoke,builtin,o,Builtin.max_,Builtin.max2]) (Y1 _ _ ?_);split<;>assumption
  cases h
 simp_all
def Xj1(I:UY P C s U M β w)(B:¬U ver){dst:Option Tmp}{type:TypeId}{pos:String}{after:Array Edge}{guard:Option (Nat×Bool)}(ρ:Operand->Value)(t:Operand->D)(hρ:∀x,Rep P M β (t x) (ρ x)){c:Prop}{d:D}{u:Up}(args:Array Operand)(types:Array TypeId)(h:opF P dst ver t s (.call ⟨.builtin .append,args,types⟩)=some (c,d,u))(f:c):OpOK P C s u U ver M β ((execOp ρ ⟨dst,.call ⟨.builtin .append,args,types⟩,type,pos,after,guard⟩).run P w) d:=by
 simp only[opF]at h;split at h
 .rename_i d0 x0 T T2 ha ht;have⟨H,J,K,r,y⟩:=VD hρ ha;have L:=XjZ ht;subst L;have start:∀{d u},VOK P C s u U ver M β ((Builtin.append_ #[T,T2] type #[H,J]).run P w) d->OpOK P C s u U ver M β ((execOp ρ ⟨dst,.call ⟨.builtin .append,args,#[T,T2]⟩,type,pos,after,guard⟩).run P w) d:=by
   intro d u hk;have:=VOK.op (sem:=Builtin.append_ #[T,T2] type #[H,J]) hk;have e:(execOp ρ ⟨dst,.call ⟨.builtin .append,args,#[T,T2]⟩,type,pos,after,guard⟩).run P w=((do pure (Next.value (←Builtin.append_ #[T,T2] type #[H,J])):Sem Next)).run P w:=by simp[execOp,resolve,invoke,builtin,K]
   rw[e];exact this
  split at h
  .rename_i a b zz E z Y;split at h
   .rename_i j G;split at h
    .rename_i zc g;split at h
     .rename_i l;have⟨N,o⟩:=l;have⟨z1,z2⟩:=Zn (P:=P) (M:=M) (β:=β) g;have A:j.zero.cells.size=j.size:=by have:=z1.length;simp at this;omega
      split at h
      .rename_i a2 b2 O E2 sz2 p;split at h
       .rename_i c0 src S;have q:c0:=by
         unfold Xd3 at h;split at h
         .simp at h;rw[←h.1]at f;exact f.1
         .split at h
          .split at h
           .split at h
            .simp at h;rw[←h.1]at f;exact f.1
            simp at h;rw[←h.1]at f;exact f.1
           cases h
          cases h
         cases h
        obtain⟨base,cap,vals,rfl,e1,e2,e3,e4,e5,Z⟩:=Xf9 I S q y;have R:=Xe8 (w:=w) (o':=type) (X4 Y).1 (X4 p).1 G (xb:=base) (m:=src.length) (xc:=cap) (vals:=vals) (by rw[N];exact e2) e3 e4 Z;exact start (XiS I B G N g o e1 e5 Z R h f r)
       cases h
      .rename_i a2 b2 O k2 p;split at h
       .rename_i n hn;have q:(0<=n/\n<=Xy/\n.toNat*j.bytes<=Xy):=by
         unfold Xd3 at h;split at h
         .simp only[Wt,Wy]at h;rw[←h.1]at f;exact f.1
         .split at h
          .split at h
           .split at h
            .simp only[Wt,Wy]at h;rw[←h.1]at f;exact f.1
            simp only[Wt,Wy]at h;rw[←h.1]at f;exact f.1
           cases h
          cases h
         cases h
        have⟨g0,g1,g2⟩:=q;have⟨k',V,_⟩:=Vd hn y;subst V;have W:(if n.toNat*j.size=0 then([]:List Value)else(Builtin.zeroCells j.zero.cells n.toNat).toList)=(Builtin.zeroCells j.zero.cells n.toNat).toList:=by
         split
         .rename_i h0;refine(WN ?_).symm;rw[U7,Ys,A];exact h0
         rfl
        have k:∀v∈(Builtin.zeroCells j.zero.cells n.toNat).toList,v.oneCell'=true:=λv B=>Zo z2 n.toNat v (by simpa using B);have R:=Xga (w:=w) (o':=type) (k':=k') (X4 Y).1 (Xa1 p) G g0 g1 g2 (vals:=(Builtin.zeroCells j.zero.cells n.toNat).toList) W.symm k A;exact start (XiS I B G N g o (Y6 _ _ _ o) (V4 g n.toNat) k (by rw[WV];exact R) h f r)
       cases h
      cases h
     cases h
    cases h
   cases h
  cases h
 simp_all
def Xlf(I:UY P C s U M β w){dst:Option Tmp}{type:TypeId}{pos:String}{after:Array Edge}{guard:Option (Nat×Bool)}(ρ:Operand->Value)(t:Operand->D)(hρ:∀x,Rep P M β (t x) (ρ x)){c:Prop}{d:D}{u:Up}(args:Array Operand)(types:Array TypeId)(h:opF P dst ver t s (.call ⟨.builtin .clear,args,types⟩)=some (c,d,u))(hc:c):OpOK P C s u U ver M β ((execOp ρ ⟨dst,.call ⟨.builtin .clear,args,types⟩,type,pos,after,guard⟩).run P w) d:=by
 simp only[opF]at h;split at h
 .rename_i id v z off len T V ht;have⟨W,q,j⟩:=Xa4 hρ V;have Y:=XbB ht;subst Y;split at h
  .rename_i a b zz E sz Z;split at h
   .rename_i N hE;split at h
    .rename_i O v' E' z' A fz B y;split at h
     .rename_i f;have⟨rfl,rfl,rfl,hz,hzl⟩:=f;obtain⟨rfl,rfl,rfl⟩:=h;have⟨G,hfz⟩:=hc;have⟨hu,hcz⟩:=X4 Z;have start:∀{w'},(Builtin.clear_ #[T] type #[W]).run P w=.ok (.tuple #[]) w'->(execOp ρ ⟨dst,.call ⟨.builtin .clear,args,#[T]⟩,type,pos,after,guard⟩).run P w=.ok (.value (.tuple #[])) w':=by intro w' hk;simp[execOp,resolve,invoke,builtin,q,hk]
      have same:len=0->upd s id (some (v,.arr false E' z (A.take off++List.replicate len O++A.drop (off+len)) fz))=s:=by
       rintro rfl;funext i;unfold upd;split
       .rename_i e;subst e;rw[y];simp
       rfl
      have nil:∀{a cap},len=0->W=.slice a 0 cap->OpOK P C s [(id,v,.arr false E' z (A.take off++List.replicate len O++A.drop (off+len)) fz)] U ver M β ((execOp ρ ⟨dst,.call ⟨.builtin .clear,args,#[T]⟩,type,pos,after,guard⟩).run P w) (.tup []):=by
       intro a cap R h1;subst h1;refine⟨M,β,w,.tuple #[],.inl (start ?_),?_,by simp[Rep,RepL],MLe.refl _,BLe.refl _⟩
       .unfold Builtin.clear_;cases a<;>simp[run_underlying hu]
       rw[XjS,same R];exact I.mono λ_ h=>.inl h
      have⟨x0,g,r⟩:=I.obs id v _ y;rcases j with⟨hn,h1,h2,a,rfl⟩|⟨bb,S,o,cap,H,rfl,hcap,hcb,ho⟩
      .exact nil h2 rfl
      rw[H]at g;obtain rfl:some (bb,S)=x0:=by simpa using g
      have⟨cs,T0,k1,k2,k3,k4,k5,k6,k7,k8,k9,k10⟩:=r;by_cases R:len=0
      .subst R;exact nil rfl rfl
      have ho':o=off*z:=by rcases ho with h|h;exact h;omega
      subst ho';have⟨z1,z2⟩:=Zn (P:=P) (M:=M) (β:=Yx) B;have hzs:N.zero.cells.size=z:=by have:=z1.length;simp at this;omega
      have J:(Builtin.zeroCells N.zero.cells len).toList.length=(List.replicate len O).length*z:=by rw[U7,Ys,WV,hzs]
      have l:∀x∈(Builtin.zeroCells N.zero.cells len).toList,x.oneCell'=true:=λx hx=>Zo z2 len x (by simpa using hx);have L:(off+len)*z<=S*z:=W5 _ aa;rw[Us]at L;have hst:=run_storeCells_at P bb (off*z) T0 (Builtin.zeroCells N.zero.cells len).toList 0 cs w k1 (by rw[J,WV];omega) l;have I':=I.seg (p:=off) (src:=List.replicate len O) y H k1 k2 k3 k4 k8 (by exact k10) (λe he=>by rw[(List.mem_replicate.1 he).2];exact hzl) J (V4 B len) l (by rw[WV];exact G) hfz;rw[WV]at I';refine⟨M,β,_,.tuple #[],.inl (start ?_),(by rw[XjS];exact I'.mono λ_ h=>.inl h),by simp[Rep,RepL],MLe.refl _,BLe.refl _⟩;unfold Builtin.clear_;cases len with
      |zero=>exact absurd rfl R
      |succ len=>simp[run_underlying hu,KC hE,hst]
     cases h
    cases h
   cases h
  cases h
 .rename_i id v T ts V ht;have⟨W,q,j⟩:=Xa4 hρ V;have⟨tl⟩:=types;subst ht;split at h
  .rename_i k E v' k2 A Z y;split at h
   .rename_i f;have⟨rfl,rfl⟩:=f;simp only[Wt,Wy]at h;obtain⟨rfl,rfl,rfl⟩:=h;obtain⟨K,hT1,hT2⟩:=Kv Z;simp only[Rep]at j;obtain⟨b,S,hb,rfl⟩:=j;obtain⟨x0,g,r⟩:=I.obs id v _ y;rw[hb]at g;obtain rfl:some (b,S)=x0:=by simpa using g
    obtain⟨rfl,h1,h2,ents,clock,h3,h4,h5,h6⟩:=r;have start:(execOp ρ ⟨dst,.call ⟨.builtin .clear,args,⟨T::ts⟩⟩,type,pos,after,guard⟩).run P w=.ok (.value (.tuple #[])) {w with heap:=w.heap.setIfInBounds b (.map #[] clock)}:=by
     have:(Builtin.clear_ ⟨T::ts⟩ type #[.map (some b)]).run P w=.ok (.tuple #[]) {w with heap:=w.heap.setIfInBounds b (.map #[] clock)}:=by unfold Builtin.clear_;simp[run_underlying hT1,Go.MapKept.run_getObj_map h3,Go.MapKept.run_setObj_map _ h3]
     simp[execOp,resolve,invoke,builtin,q,this]
    refine⟨M,β,_,.tuple #[],.inl start,?_,by simp[Rep,RepL],MLe.refl _,BLe.refl _⟩;exact(I.setMap (es':=[]) (ents':=#[]) y hb h3 (UP _) rfl ab ab).mono λ_ h=>.inl h
   cases h
  cases h
 simp_all
def Xor(I:UY P C s U M β w){dst:Option Tmp}{type:TypeId}{pos:String}{after:Array Edge}{guard:Option (Nat×Bool)}(ρ:Operand->Value)(t:Operand->D)(hρ:∀x,Rep P M β (t x) (ρ x)){c:Prop}{d:D}{u:Up}(args:Array Operand)(types:Array TypeId)(h:opF P dst ver t s (.call ⟨.builtin .copy,args,types⟩)=some (c,d,u))(hc:c):OpOK P C s u U ver M β ((execOp ρ ⟨dst,.call ⟨.builtin .copy,args,types⟩,type,pos,after,guard⟩).run P w) d:=by
 simp only[opF]at h;split at h
 .rename_i id v z off len x T K ha ht;have⟨v1,v2,L,N,O⟩:=VD hρ ha;have⟨types⟩:=types;subst ht;split at h
  .rename_i a b zz E sz hT;split at h
   .rename_i te v' E' z' G fz c0 src hE H R;split at h
    .rename_i k;have⟨rfl,rfl,rfl,hz⟩:=k;obtain⟨rfl,rfl,rfl⟩:=h;have⟨S,l,q,V⟩:=hc;have⟨hu,hcz⟩:=X4 hT;obtain⟨base,cap2,vals,rfl,e1,r,e3,e4,e5,e6⟩:=Xf9 I R S O;have W:(Builtin.firstCells te.size src.length (.slice base src.length cap2)).run P w=.ok vals.toArray w:=by
      cases base with
      |none=>have hm:=e3 rfl;have:vals=[]:=WN (by rw[r,hm,Nat.zero_mul]);subst this;simp[Builtin.firstCells]
      |some a=>exact run_firstCells_some (P:=P) w te.size src.length a src.length cap2 vals (by rw[hz];exact r) (λj v hj=>e4 a rfl j v hj)
     have start:∀{w' Y},(Builtin.copy_ ⟨T::K⟩ type #[v1,.slice base src.length cap2]).run P w=.ok Y w'->(execOp ρ ⟨dst,.call ⟨.builtin .copy,args,⟨T::K⟩⟩,type,pos,after,guard⟩).run P w=.ok (.value Y) w':=by intro w' Y hk;simp[execOp,resolve,invoke,builtin,L,hk]
     have hl47:src.length<=140737488355328:=by
      have:=(I.obs id v _ H)
      obtain⟨x0,_,f⟩:=this;cases x0 with
      |none=>obtain⟨_,Z,_⟩:=f;subst Z;simp at q;omega
      |some bc=>obtain⟨_,_,_,_,_,_,h5,_⟩:=f;simp only[Xy]at h5;omega
     have g:Rep P M β (.v (.int .i64 (src.length:Int))) (goInt src.length):=Y1 _ _ ⟨by show(-9223372036854775808:Int)<=_;omega,by show _<=(9223372036854775807:Int);omega⟩;have hn:Nat.min src.length len=src.length:=Ol l;have nil:∀{a cap},src=[]->v1=.slice a len cap->OpOK P C s [(id,v,.arr false E' z (G.take off++src++G.drop (off+src.length)) fz)] U ver M β ((execOp ρ ⟨dst,.call ⟨.builtin .copy,args,⟨T::K⟩⟩,type,pos,after,guard⟩).run P w) (.v (.int .i64 (src.length:Int))):=by
      intro a cap J h1;subst h1;have hv0:vals=[]:=WN (by rw[r,J];simp);have same:upd s id (some (v,.arr false E' z (G.take off++src++G.drop (off+src.length)) fz))=s:=by
       funext i;unfold upd;split
       .rename_i e;subst e;rw[H,J];simp
       rfl
      refine⟨M,β,w,goInt src.length,.inl (start ?_),?_,g,MLe.refl _,BLe.refl _⟩
      .unfold Builtin.copy_;rw[hv0]at W;cases a<;>simp[run_underlying hu,Builtin.lenOf,hn,YP hE,W,storeCells]
      rw[XjS,same];exact I.mono λ_ h=>.inl h
     have⟨x0,y,f⟩:=I.obs id v _ H;rcases N with⟨hn0,h1,Z,a,rfl⟩|⟨bb,cb,o,cap,A,rfl,hcap,hcb,ho⟩
     .subst Z;exact nil (WN aa) rfl
     rw[A]at y;obtain rfl:some (bb,cb)=x0:=by simpa using y
     have⟨cs,T0,k1,k2,k3,k4,k5,k6,k7,k8,k9,k10⟩:=f;by_cases J:src.length=0
     .exact nil (WN J) rfl
     have ho':o=off*z:=by rcases ho with h|h;exact h;omega
     subst ho';have B:(off+src.length)*z<=cb*z:=W5 _ aa;rw[Us]at B;have hst:=run_storeCells_at P bb (off*z) T0 vals 0 cs w k1 (by rw[r];omega) e6;have I':=I.seg (p:=off) (src:=src) H A k1 k2 k3 k4 k8 (by exact k10) e1 r e5 e6 aa V;refine⟨M,β,_,goInt src.length,.inl (start ?_),(by rw[XjS];exact I'.mono λ_ h=>.inl h),g,MLe.refl _,BLe.refl _⟩;unfold Builtin.copy_;simp[run_underlying hu,Builtin.lenOf,hn,YP hE,W,hst]
    cases h
   cases h
  cases h
 simp_all
def Vg{t:TypeId}{ty:Ow}(h:Xu P t=some ty)(f:¬ty.isIface=true):∃d,P.underlying t=some d/\∀m,d≠.interface m:=by have⟨i,d,_,g,_,_,_,j⟩:=Yh h;refine⟨d,g,λm e=>f ?_⟩;subst e;unfold Ow.isIface;rw[←j];rfl
def XbC(I:UY P C s U M β w)(_hv:¬U ver){dst:Option Tmp}{type:TypeId}{pos:String}{after:Array Edge}{guard:Option (Nat×Bool)}(ρ:Operand->Value)(t:Operand->D)(hρ:∀x,Rep P M β (t x) (ρ x)){c:Prop}{d:D}{u:Up}(T:TypeId)(x:Operand)(h:opF P dst ver t s (.makeInterface T x)=some (c,d,u))(l:c):OpOK P C s u U ver M β ((execOp ρ ⟨dst,(.makeInterface T x),type,pos,after,guard⟩).run P w) d:=by
 unfold execOp;simp only[opF]at h;split at h
 .rename_i ty f;split at h
  .cases h
  rename_i g;obtain⟨rfl,rfl,rfl⟩:=h;have⟨j,k,e⟩:=Vg f g;refine .val I (v:=.iface T (ρ x)) ?_ ?_
  .cases j<;>first|exact absurd rfl (e _)|simp[Instr.makeInterface,run_underlying k]
  exact⟨_,rfl,hρ x⟩
 simp_all
def Xd8(I:UY P C s U M β w)(_hv:¬U ver){dst:Option Tmp}{type:TypeId}{pos:String}{after:Array Edge}{guard:Option (Nat×Bool)}(ρ:Operand->Value)(t:Operand->D)(hρ:∀x,Rep P M β (t x) (ρ x)){c:Prop}{d:D}{u:Up}(x:Operand)(xT A:TypeId)(ok:Bool)(h:opF P dst ver t s (.typeAssert x xT A ok)=some (c,d,u))(B:c):OpOK P C s u U ver M β ((execOp ρ ⟨dst,(.typeAssert x xT A ok),type,pos,after,guard⟩).run P w) d:=by
 unfold execOp;simp only;simp only[opF]at h;have j:=hρ x;split at h
 .rename_i o T E g p;rw[p]at j;split at h
  .cases h
  rename_i q;have⟨k,l,f⟩:=Vg g q;have⟨y,r,z⟩:=j;split at h
  .rename_i e;obtain⟨rfl,rfl,rfl⟩:=h;refine .val I (v:=.tuple #[y,.bool true]) ?_ ?_
   .rw[r];cases k<;>first|exact absurd rfl (f _)|simp[Instr.typeAssert,run_underlying l,e]
   exact⟨_,rfl,_,_,rfl,z,_,_,rfl,⟨rfl,trivial⟩,rfl⟩
  rename_i e;obtain⟨rfl,rfl,rfl⟩:=h;refine .val I (v:=.tuple #[o.zero,.bool false]) ?_ ?_
  .rw[r];cases k<;>first|exact absurd rfl (f _)|simp[Instr.typeAssert,run_underlying l,e,KC g]
  exact⟨_,rfl,_,_,rfl,V3 _,_,_,rfl,⟨rfl,trivial⟩,rfl⟩
 .rename_i o g p;rw[p]at j;split at h
  .cases h
  rename_i q;have⟨k,l,f⟩:=Vg g q;simp only[Wt,Wy]at h;obtain⟨rfl,rfl,rfl⟩:=h;refine .val I (v:=.tuple #[o.zero,.bool false]) ?_ ?_
  .rw[j.1];cases k<;>first|exact absurd rfl (f _)|simp[Instr.typeAssert,run_underlying l,KC g]
  simp only[Rep,RepL];exact⟨_,rfl,_,_,rfl,V3 _,_,_,rfl,⟨rfl,trivial⟩,rfl⟩
 simp_all
def Xlg(I:UY P C s U M β w)(p:¬U ver)(o:Oper)(ρ:Operand->Value)(t:Operand->D)(hρ:∀x,Rep P M β (t x) (ρ x))(q:∀v,ρ (.const v)=v){c:Prop}{d:D}{u:Up}(h:opF P o.dst ver t s o.op=some (c,d,u))(j:c):OpOK P C s u U ver M β ((execOp ρ o).run P w) d:=by
 have⟨dst,op,type,pos,after,guard⟩:=o;cases op with
 |move x=>exact Xon I p ρ t hρ x h j
 |assign x=>exact XjX I p ρ t hρ x h j
 |pick g a b=>exact Xoo I p ρ t hρ g a b h j
 |alloc T=>exact Xk8 I p ρ t hρ T h j
 |box T x=>exact Xqz I p ρ t hρ T x h j
 |build T parts=>exact Xk9 I p ρ t hρ T parts h j
 |buildSlice T n parts=>exact Xd7 I p ρ t hρ T n parts h j
 |load T a=>exact Xop I p ρ t hρ T a h j
 |store T a x=>exact Xla I p ρ t hρ T a x h j
 |nilCheck x=>exact Xgc I p ρ t hρ x h j
 |binOp op T x y z=>exact Xlb I p ρ t hρ op T x y z (λv e=>by simp_all) h j
 |unOp op T x=>exact Xoq I p ρ t hρ op T x h j
 |convert S T x=>exact XhN I p ρ t hρ S T x h j
 |makeFunc fn first captured=>exact Xgd I p ρ t hρ fn first captured h j
 |makeSlice T l B=>exact Xfc I p ρ t hρ T l B h j
 |slice T x E G H=>exact Xlc I p ρ t hρ T x E G H h j
 |fieldAddr T x f=>exact Xfd I p ρ t hρ T x f h j
 |field T x f=>exact Xld I p ρ t hρ T x f h j
 |indexAddr T x ix=>exact Xfe I p ρ t hρ T x ix h j
 |index T x ix=>exact Xle I p ρ t hρ T x ix h j
 |makeMap T r=>exact XhL I p ρ t hρ T r h j
 |mapUpdate T m k x=>exact Xfb I p ρ t hρ T m k x h j
 |insert T m k x=>exact XjV I p ρ t hρ T m k x h j
 |lookup T m k ok=>exact XjW I p ρ t hρ T m k ok h j
 |extract x i=>exact XhO I p ρ t hρ x i h j
 |makeInterface T x=>exact XbC I p ρ t hρ T x h j
 |typeAssert x xT A ok=>exact Xd8 I p ρ t hρ x xT A ok h j
 |call J=>
  have⟨callee,args,types⟩:=J;cases callee with
  |value f=>simp_all[opF]
  |invoke r m=>simp_all[opF]
  |builtin b=>
   cases b with
   |len=>exact XqA I ρ t hρ args types h j
   |delete=>exact Xj0 I ρ t hρ args types h j
   |clear=>exact Xlf I ρ t hρ args types h j
   |copy=>exact Xor I ρ t hρ args types h j
   |cap=>exact XqB I ρ t hρ args types h j
   |min=>exact XqC I ρ t hρ args types h j
   |max=>exact XqD I ρ t hρ args types h j
   |append=>exact Xj1 I p ρ t hρ args types h j
   |_=>simp[opF]at h
 |_=>simp[opF]at h
end
variable {P:Program}
structure St where
 t:Nat->D
 s:Heap
 n:Nat
 k:Nat
def Rel(P:Program)(C:Cx)(st:St)(a:Act)(w:World):Prop:=
 a.defers=C.df/\a.tmps.size=st.n/\∃M β,BLe C.b0 β/\(∀x,Rep P M β (st.t x) (a.tmps.getD x undef))/\UY P C st.s (·<st.k) M β w
def XcU{C:Cx}{s:Heap}{U:Nat->Prop}{M:Mem}{β:Loc}{w:World}(I:UY P C s U M β w){t:Nat->D}{a:Act}(h:∀x,Rep P M β (t x) (a.tmps.getD x undef))(x:Operand):
 Rep P M β (ev t C.G x) (a.eval x):=by
 cases x with
 |tmp i=>exact h i
 |const v=>exact V3 v
 |global g=>
  simp only[ev,Act.eval];split
  .rename_i j e;simp only[Rep];exact⟨trivial,g,0,rfl,RepC.mono I.le (I.glob g j e)⟩
  simp[Rep]
 |func f=>simp[ev,Act.eval,Rep,RepL]
def LB:Nat:=1000000
def Kl(lb:List (Nat×Nat)):Loc:=λid v=>if v=0/\LB<=id then(lb[id-LB]?).map some else none
def Jk(e:List Ob):Heap:=λid=>if LB<=id then(e[id-LB]?).map (λo=>(0,o))else none
mutual
def FrRep(P:Program)(M:Mem)(w:World)(B:Nat):D->Value->List (Option (Nat×Nat))->Prop
 |.fsl E z f,y,l=>(l=[none]/\f=[]/\∃a,y=.slice a 0 0) \/
  ∃b h o,l=[some (b,h)]/\B<=b/\y=.slice (some ⟨b,o,none⟩) f.length h/\(o=0\/h=0)/\ObRep P M Yx w (some (b,h)) (.arr false E z f 0)
 |.fmp k j e,y,l=>∃b,l=[some (b,0)]/\B<=b/\y=.map (some b)/\j.length=e.length/\ObRep P M Yx w (some (b,0)) (.mp k (j.zip e))
 |.agg g,y,l=>∃e,y=.agg ⟨e⟩/\FrRepL P M w B g e l
 |.tup g,y,l=>∃e,y=.tuple ⟨e⟩/\FrRepL P M w B g e l
 |.ifc t d,y,l=>∃x,y=.iface t x/\FrRep P M w B d x l
 |.clo fn a b,y,l=>∃p q,y=.func fn ⟨p⟩ ⟨q⟩/\∃r u,l=r++u/\FrRepL P M w B a p r/\FrRepL P M w B b q u
 |.any,_,l=>l=[]
 |.v x,y,l=>l=[]/\Rep P M Yx (.v x) y
 |.nsl,y,l=>l=[]/\Rep P M Yx .nsl y
 |.isl E z f,y,l=>l=[]/\Rep P M Yx (.isl E z f) y
 |.ipt z g c,y,l=>l=[]/\Rep P M Yx (.ipt z g c) y
 |_,_,_=>False
def FrRepL(P:Program)(M:Mem)(w:World)(B:Nat):List D->List Value->List (Option (Nat×Nat))->Prop
 |[],e,l=>e=[]/\l=[]
 |d::j,e,l=>∃x f g h,e=x::f/\l=g++h/\FrRep P M w B d x g/\FrRepL P M w B j f h
end
def X0(l:List (Option (Nat×Nat))):List Nat:=l.filterMap (·.map (·.1))
def Xos(P:Program)(M:Mem)(w:World)(lb:List (Nat×Nat))(R:D->List Ob->Prop)(e:Ending)(f:World):Prop:=
 ∃v r g M' l,e=.returned v/\R r g/\Kp w (lb.map (·.1)) f/\MemOK M' f/\(∀b o,b<w.heap.size->M' b o=M b o)/\g.length=lb.length /\
  (∀(k:Nat)ob x,g[k]? = some ob->lb[k]? = some x->ObRep P M' Yx f (some x) ob/\ob.bx=true)/\FrRep P M' f w.heap.size r v l/\(X0 l).Nodup
def YS(P:Program)(G:Nat->Option (List D))(f:FuncId)(args:List D)(lent:List Ob)(R:D->List Ob->Prop):Prop:=
 (∃fn,P.funcs[f]? = some fn/\fn.body.isNone=false/\(fn.name== "runtime.NumGoroutine")=false) /\
 ∀M w e lb,MemOK M w->(∀g h,G g=some h->RepC P M h g 0)->lb.length=lent.length->(lb.map (·.1)).Nodup ->
  (∀(k:Nat)ob x,lent[k]? = some ob->lb[k]? = some x->ObRep P M Yx w (some x) ob/\ob.bx=true)->RepL P M (Kl lb) args e->Calls P f ⟨e⟩ w (Xos P M w lb R)
mutual
def imp(ver:Nat):Nat->D->D×Nat×Up
 |n,.fsl E z f=>(.osl n ver z 0 f.length,n+1,[(n,ver,.arr false E z f 0)])
 |n,.fmp k g h=>(.omp n ver,n+1,[(n,ver,.mp k (g.zip h))])
 |n,.agg e=>let r:=Vw ver n e;(.agg r.1,r.2.1,r.2.2)
 |n,.tup e=>let r:=Vw ver n e;(.tup r.1,r.2.1,r.2.2)
 |n,.ifc t d=>let r:=imp ver n d;(.ifc t r.1,r.2.1,r.2.2)
 |n,.clo fn a b=>let r:=Vw ver n a;let q:=Vw ver r.2.1 b;(.clo fn r.1 q.1,q.2.1,r.2.2++q.2.2)
 |n,d=>(d,n,[])
def Vw(ver:Nat):Nat->List D->List D×Nat×Up
 |n,[]=>([],n,[])
 |n,d::e=>let r:=imp ver n d;let q:=Vw ver r.2.1 e;(r.1::q.1,q.2.1,r.2.2++q.2.2)
end
section
variable {C:Cx}{U:Nat->Prop}{M:Mem}{w:World}{ver:Nat}
def XhP(s:Heap)(β:Loc)(l:List Nat):Prop:=∀b∈l,∀id v ob e,s id=some (v,ob)->β id v≠some (some (b,e))
structure OG(P:Program)(C:Cx)(s:Heap)(U:Nat->Prop)(M:Mem)(β:Loc)(w:World)(ver n n':Nat)(u:Up)(l:List (Option (Nat×Nat)))(β':Loc):Prop where
 inv:UY P C (app s u) (λv=>U v\/v=ver) M β' w
 le:BLe β β'
 next:n<=n'
 high:∀i,n'<=i->β' i ver=none
 free:∀l',XhP s β l'->(∀b∈l',b∉X0 l)->XhP (app s u) β' l'
def OG.nil{s:Heap}{β:Loc}(I:UY P C s U M β w){n:Nat}(e:∀i,n<=i->β i ver=none):OG P C s U M β w ver n n [] [] β:=
 ⟨I.mono λ_ h=>.inl h,BLe.refl _,Uj _,e,λ_ h _=>h⟩
def ObRep.row{b e:Nat}{ob:Ob}(h:ObRep P M Yx w (some (b,e)) ob)(hb:ob.bx=false)(β:Loc):ObRep P M β w (some (b,e)) ob:=by
 cases ob with
 |mp kk f=>exact h
 |raw o=>exact h
 |arr bx E z f fz=>have:bx=false:=hb;subst this;exact h
def X7(e l2:List (Option (Nat×Nat))):X0 (e++l2)=X0 e++X0 l2:=by simp[X0]
mutual
def imp_ok{B:Nat}(Z:C.w0.heap.size<=B):∀(d:D) (y:Value) (l:List (Option (Nat×Nat))) (n:Nat) {s:Heap} {U:Nat->Prop} {β:Loc},UY P C s U M β w->(∀i,n<=i->β i ver=none)->FrRep P M w B d y l->(X0 l).Nodup->XhP s β (X0 l) ->
 ∃β',OG P C s U M β w ver n (imp ver n d).2.1 (imp ver n d).2.2 l β'/\Rep P M β' (imp ver n d).1 y
 |.fsl E z es,y,l,n,s,U,β,I,p,f,e,r=>by
  simp only[imp];have G:β n ver=none:=p n (Uj _);rcases f with⟨rfl,rfl,a,rfl⟩|⟨b,S,o,rfl,hb,rfl,ho,N⟩
  .refine⟨Zx β n ver none,⟨I.setNil n ver E z (Zd G) (XM ..) Zm,Zd G,aa,λi h=>?_,λl' h _=>?_⟩,?_⟩
   .unfold Zx;grind
   .intro b hb id v ob S K j;by_cases L:id=n
    .subst L;have A:some (ver,Ob.arr false E z [] 0)=some (v,ob):=by rw[←K];show _=upd s id _ id;rw[YO]
     simp_all[XM]
    have A:s id=some (v,ob):=by rw[←K];show _=upd s n _ id;rw[Yf _ _ _ _ L]
    have u:β id v=some (some (b,S)):=by unfold Zx at j;rw[Wk (λh=>L h.1)]at j;exact j
    exact h b hb id v ob S A u
   exact .inl ⟨XM ..,ab⟩
  have H:∀q O J g,q≠n->s q=some (O,J)->β q O≠some (some (b,g)):=λq O J g _ K=>r b (by simp[X0]) q O J g K;have hob':=N;have⟨cs,T,k1,k2,k3,k4,k5,k6,k7,k8,k9,k10⟩:=hob';have I':=I.set (M':=M) (β':=Zx β n ver (some (b,S))) (w':=w) n ver (.arr false E z es 0) b S (MLe.refl _) (Zd G) (λ_ _=>rfl) (λ_ _ _=>rfl) (λo x j=>I.mem b o x j) (XM ..) (N.row rfl _) H (.inl aa) (λ_ _=>rfl) rfl rfl rfl (Uj _) Zm;refine⟨Zx β n ver (some (b,S)),⟨I',Zd G,aa,λi h=>?_,λl' h hl=>?_⟩,?_⟩
  .unfold Zx;grind
  .intro b' V id v ob g K j;by_cases L:id=n
   .subst L;have A:some (ver,Ob.arr false E z es 0)=some (v,ob):=by rw[←K];show _=upd s id _ id;rw[YO]
    grind[XM,X0]
   have A:s id=some (v,ob):=by rw[←K];show _=upd s n _ id;rw[Yf _ _ _ _ L]
   have u:β id v=some (some (b',g)):=by unfold Zx at j;rw[Wk (λh=>L h.1)]at j;exact j
   exact h b' V id v ob g A u
  exact .inr ⟨b,S,o,S,XM ..,rfl,k4,ab,aa⟩
 |.fmp k ks W,y,l,n,s,U,β,I,p,f,e,r=>by
  simp only[imp];have G:β n ver=none:=p n (Uj _);obtain⟨b,rfl,hb,rfl,hlen,N⟩:=f;have H:∀q O J g,q≠n->s q=some (O,J)->β q O≠some (some (b,g)):=λq O J g _ K=>r b (by simp[X0]) q O J g K;have I':=I.set (M':=M) (β':=Zx β n ver (some (b,0))) (w':=w) n ver (.mp k (ks.zip W)) b 0 (MLe.refl _) (Zd G) (λ_ _=>rfl) (λ_ _ _=>rfl) (λo x j=>I.mem b o x j) (XM ..) (N.row rfl _) H (.inl aa) (λ_ _=>rfl) rfl rfl rfl (Uj _) Zm;refine⟨Zx β n ver (some (b,0)),⟨I',Zd G,aa,λi h=>?_,λl' h hl=>?_⟩,?_⟩
  .unfold Zx;grind
  .intro b' V id v ob g K j;by_cases L:id=n
   .subst L;have A:some (ver,Ob.mp k (ks.zip W))=some (v,ob):=by rw[←K];show _=upd s id _ id;rw[YO]
    grind[XM,X0]
   have A:s id=some (v,ob):=by rw[←K];show _=upd s n _ id;rw[Yf _ _ _ _ L]
   have u:β id v=some (some (b',g)):=by unfold Zx at j;rw[Wk (λh=>L h.1)]at j;exact j
   exact h b' V id v ob g A u
  exact⟨b,0,XM ..,rfl⟩
 |.agg cs,y,l,n,s,U,β,I,p,f,e,r=>by obtain⟨W,rfl,f⟩:=f;have⟨β',R,h2⟩:=Xa5 Z cs W l n I p f e r;grind[imp,Rep]
 |.tup cs,y,l,n,s,U,β,I,p,f,e,r=>by obtain⟨W,rfl,f⟩:=f;have⟨β',R,h2⟩:=Xa5 Z cs W l n I p f e r;grind[imp,Rep]
 |.ifc t d,y,l,n,s,U,β,I,p,f,e,r=>by obtain⟨x,rfl,f⟩:=f;have⟨β',R,h2⟩:=imp_ok Z d x l n I p f e r;grind[imp,Rep]
 |.clo fn a b,y,l,n,s,U,β,I,p,f,e,r=>by
  obtain⟨va,vb,rfl,l1,l2,rfl,hr1,hr2⟩:=f;rw[X7,ID]at e;rw[X7]at r;have⟨β1,R,h2⟩:=Xa5 Z a va l1 n I p hr1 e.1 (λx j=>r x (W6 _ j));have hf2:XhP (app s (Vw ver n a).2.2) β1 (X0 l2):=R.free _ (λx j=>r x (Ug _ j)) (λx j u=>e.2.2 x u x j rfl);have⟨β2,Y,h4⟩:=Xa5 Z b vb l2 (Vw ver n a).2.1 R.inv R.high hr2 e.2.1 hf2;refine⟨β2,⟨?_,R.le.trans Y.le,Uq R.next Y.next,Y.high,λl' hl' hb=>?_⟩,?_⟩
  .simp only[imp];rw[Ze];exact Y.inv.mono λv hv=>by simp_all
  .simp only[imp];rw[Ze];refine Y.free _ (R.free _ hl' λx j u=>hb x j ?_) λx j u=>hb x j ?_
   .rw[X7];exact W6 _ u
   simp_all[X7]
  exact⟨va,vb,rfl,h2.mono (MLe.refl _) Y.le,h4⟩
 |.any,y,l,n,s,U,β,I,p,f,e,r=>by subst f;exact⟨β,.nil I p,by simp[imp,Rep]⟩
 |.v x,y,l,n,s,U,β,I,p,f,e,r=>by obtain⟨rfl,f⟩:=f;exact⟨β,.nil I p,f.mono (MLe.refl _) (BLe.zero _)⟩
 |.nsl,y,l,n,s,U,β,I,p,f,e,r=>by obtain⟨rfl,f⟩:=f;exact⟨β,.nil I p,f.mono (MLe.refl _) (BLe.zero _)⟩
 |.isl E z es,y,l,n,s,U,β,I,p,f,e,r=>by obtain⟨rfl,f⟩:=f;exact⟨β,.nil I p,f.mono (MLe.refl _) (BLe.zero _)⟩
 |.ipt z cs c,y,l,n,s,U,β,I,p,f,e,r=>by obtain⟨rfl,f⟩:=f;exact⟨β,.nil I p,f.mono (MLe.refl _) (BLe.zero _)⟩
 |.osl ..,y,l,n,s,U,β,I,p,f,e,r=>by simp_all[FrRep]
 |.ept ..,y,l,n,s,U,β,I,p,f,e,r=>by simp_all[FrRep]
 |.omp ..,y,l,n,s,U,β,I,p,f,e,r=>by simp_all[FrRep]
def Xa5{B:Nat}(E:C.w0.heap.size<=B):∀(h:List D) (o:List Value) (l:List (Option (Nat×Nat))) (n:Nat) {s:Heap} {U:Nat->Prop} {β:Loc},UY P C s U M β w->(∀i,n<=i->β i ver=none)->FrRepL P M w B h o l->(X0 l).Nodup->XhP s β (X0 l) ->
 ∃β',OG P C s U M β w ver n (Vw ver n h).2.1 (Vw ver n h).2.2 l β'/\RepL P M β' (Vw ver n h).1 o
 |[],o,l,n,s,U,β,I,q,r,e,p=>by obtain⟨rfl,rfl⟩:=r;exact⟨β,.nil I q,by rfl⟩
 |d::h,o,l,n,s,U,β,I,q,r,e,p=>by
  obtain⟨x,G,J,H,rfl,rfl,u,y⟩:=r;rw[X7,ID]at e;rw[X7]at p;have⟨β1,j,K⟩:=imp_ok E d x J n I q u e.1 (λx f=>p x (W6 _ f));have z:XhP (app s (imp ver n d).2.2) β1 (X0 H):=j.free _ (λx f=>p x (Ug _ f)) (λx f g=>e.2.2 x g x f rfl);have⟨β2,k,L⟩:=Xa5 E h G H (imp ver n d).2.1 j.inv j.high y e.2.1 z;refine⟨β2,⟨?_,j.le.trans k.le,Uq j.next k.next,k.high,λN A hb=>?_⟩,?_⟩
  .simp only[Vw];rw[Ze];exact k.inv.mono λv O=>by simp_all
  .simp only[Vw];rw[Ze];refine k.free _ (j.free _ A λx f g=>hb x f ?_) λx f g=>hb x f ?_
   .rw[X7];exact W6 _ g
   simp_all[X7]
  exact⟨x,G,rfl,K.mono (MLe.refl _) k.le,L⟩
end
end
variable {P:Program}
def pos:List Nat->Nat->Option Nat
 |[],_=>none
 |x::l,i=>if x=i then some 0 else(pos l i).map (·+1)
def XiU:∀{l:List Nat} {i j:Nat},pos l i=some j->l[j]? = some i
 |[],i,j,h=>by simp_all[pos]
 |x::l,i,j,h=>by
  unfold pos at h;split at h
  .grind
  simp at h;obtain⟨k,e,rfl⟩:=h;simpa using XiU e
def Xge:∀{l:List Nat} {i:Nat},pos l i=none->i∉l
 |[],i,_=>by simp
 |x::l,i,h=>by
  unfold pos at h;split at h
  .grind
  rename_i f;simp at h;simp;exact⟨λe=>f e.symm,Xge h⟩
mutual
def lend(s:Heap):List Nat->D->Option (Prop×D×List Nat×List Nat)
 |g,.ept id ver z i c=>match s id with
  |some (h,.arr true _ q [_] _)=>if ver=h/\z=q/\i=0 then
   match pos g id with
   |some j=>some (True,.ept (LB+j) 0 z 0 c,g,[])
   |none=>some (True,.ept (LB+g.length) 0 z 0 c,g++[id],[])
   else none
  |_=>none
 |g,.agg o=>match ZK s g o with
  |some (c,p,f,l)=>some (c,.agg p,f,l)
  |none=>none
 |g,.tup o=>match ZK s g o with
  |some (c,p,f,l)=>some (c,.tup p,f,l)
  |none=>none
 |g,.clo fn a b=>match ZK s g a with
  |some (c,r,f,l)=>match ZK s f b with
   |some (u,v,k,y)=>some (c/\u,.clo fn r v,k,l++y)
   |none=>none
  |none=>none
 |g,.ifc t d=>match lend s g d with
  |some (c,e,f,l)=>some (c,.ifc t e,f,l)
  |none=>none
 |g,d=>match snap s d with
  |some (c,e,l)=>some (c,e,g,l)
  |none=>none
def ZK(s:Heap):List Nat->List D->Option (Prop×List D×List Nat×List Nat)
 |g,[]=>some (True,[],g,[])
 |g,d::j=>match lend s g d with
  |some (c,e,h,l)=>match ZK s h j with
   |some (k,o,f,p)=>some (c/\k,e::o,f,l++p)
   |none=>none
  |none=>none
end
mutual
def lend_prefix{s:Heap}:∀{d g:D} {f e:List Nat} {c:Prop} {l:List Nat},lend s f d=some (c,g,e,l)->f <+:e
 |.ept id ver z i k,g,f,e,c,l,h=>by unfold lend at h;grind
 |.agg o,g,f,e,c,l,h=>by
  unfold lend at h;split at h
  .rename_i j;obtain⟨_,_,rfl,_⟩:=h;exact Zf j
  simp_all
 |.tup o,g,f,e,c,l,h=>by
  unfold lend at h;split at h
  .rename_i j;obtain⟨_,_,rfl,_⟩:=h;exact Zf j
  simp_all
 |.clo fn a b,g,f,e,c,l,h=>by
  unfold lend at h;split at h
  .rename_i p;split at h
   .rename_i q;obtain⟨_,_,rfl,_⟩:=h;exact(Zf p).trans (Zf q)
   cases h
  simp_all
 |.ifc t d,g,f,e,c,l,h=>by
  unfold lend at h;split at h
  .rename_i j;obtain⟨_,_,rfl,_⟩:=h;exact lend_prefix j
  simp_all
 |.osl id ver z off len,g,f,e,c,l,h=>by unfold lend at h;grind
 |.any,g,f,e,c,l,h=>by unfold lend at h;grind
 |.v x,g,f,e,c,l,h=>by unfold lend at h;grind
 |.nsl,g,f,e,c,l,h=>by unfold lend at h;grind
 |.isl E z r,g,f,e,c,l,h=>by unfold lend at h;grind
 |.ipt z o k,g,f,e,c,l,h=>by unfold lend at h;grind
 |.fsl E z r,g,f,e,c,l,h=>by unfold lend at h;grind
 |.fmp k u y,g,f,e,c,l,h=>by unfold lend at h;grind
 |.omp id ver,g,f,e,c,l,h=>by unfold lend at h;grind
def Zf{s:Heap}:∀{j f:List D} {g e:List Nat} {c:Prop} {l:List Nat},ZK s g j=some (c,f,e,l)->g <+:e
 |[],f,g,e,c,l,h=>by simp_all[ZK,Wt,Wy]
 |d::j,f,g,e,c,l,h=>by
  unfold ZK at h;split at h
  .rename_i k;split at h
   .rename_i o;obtain⟨_,_,rfl,_⟩:=h;exact(lend_prefix k).trans (Zf o)
   cases h
  simp_all
end
def XcV(s:Heap)(e:List Nat):Prop:=e.Nodup/\∀id∈e,∃v E z f fz,s id=some (v,.arr true E z [f] fz)
mutual
def lend_boxes{s:Heap}:∀{d g:D} {f e:List Nat} {c:Prop} {l:List Nat},lend s f d=some (c,g,e,l)->XcV s f->XcV s e
 |.ept id ver z i k,g,f,e,c,l,h=>by
  intro hb;unfold lend at h;split at h
  .rename_i r;split at h
   .split at h
    .obtain⟨_,_,rfl,_⟩:=h;exact hb
    rename_i hp;obtain⟨_,_,rfl,_⟩:=h;refine⟨ID.2 ⟨hb.1,ab,λx j y p=>?_⟩,λx j=>?_⟩
    .simp at p;subst p;rintro rfl;exact Xge hp j
    simp at j;rcases j with j|rfl
    .exact hb.2 x j
    exact⟨_,_,_,_,_,r⟩
   cases h
  simp_all
 |.agg q,g,f,e,c,l,h=>by
  unfold lend at h;split at h
  .rename_i o;obtain⟨_,_,rfl,_⟩:=h;exact Zb o
  simp_all
 |.tup q,g,f,e,c,l,h=>by
  unfold lend at h;split at h
  .rename_i o;simp only[Wt,Wy]at h;obtain⟨_,_,rfl,_⟩:=h;exact Zb o
  simp_all
 |.clo fn a b,g,f,e,c,l,h=>by
  unfold lend at h;split at h
  .rename_i u;split at h
   .rename_i A;simp only[Wt,Wy]at h;obtain⟨_,_,rfl,_⟩:=h;exactλhb=>Zb A (Zb u hb)
   cases h
  simp_all
 |.ifc t d,g,f,e,c,l,h=>by
  unfold lend at h;split at h
  .rename_i o;simp only[Wt,Wy]at h;obtain⟨_,_,rfl,_⟩:=h;exact lend_boxes o
  simp_all
 |.osl id ver z off len,g,f,e,c,l,h=>by unfold lend at h;grind
 |.any,g,f,e,c,l,h=>by unfold lend at h;grind
 |.v x,g,f,e,c,l,h=>by unfold lend at h;grind
 |.nsl,g,f,e,c,l,h=>by unfold lend at h;grind
 |.isl E z B,g,f,e,c,l,h=>by unfold lend at h;grind
 |.ipt z q k,g,f,e,c,l,h=>by unfold lend at h;grind
 |.fsl E z B,g,f,e,c,l,h=>by unfold lend at h;grind
 |.fmp k G H,g,f,e,c,l,h=>by unfold lend at h;grind
 |.omp id ver,g,f,e,c,l,h=>by unfold lend at h;grind
def Zb{s:Heap}:∀{j f:List D} {g e:List Nat} {c:Prop} {l:List Nat},ZK s g j=some (c,f,e,l)->XcV s g->XcV s e
 |[],f,g,e,c,l,h=>by simp_all[ZK,Wt,Wy]
 |d::j,f,g,e,c,l,h=>by
  unfold ZK at h;split at h
  .rename_i k;split at h
   .rename_i o;obtain⟨_,_,rfl,_⟩:=h;exactλhb=>Zb o (lend_boxes k hb)
   cases h
  simp_all
end
section
variable {C:Cx}{s:Heap}{U:Nat->Prop}{M M':Mem}{β:Loc}{w:World}
def Xff(s:Heap)(β:Loc)(e:List Nat)(lb:List (Nat×Nat)):Prop:=
 ∀(j:Nat)id,e[j]? = some id->∃v E z f fz x,s id=some (v,.arr true E z [f] fz)/\lb[j]? = some x/\β id v=some (some x)
mutual
def lend_rep(I:UY P C s U M β w)(A:MLe M M'){lsF:List Nat}{lbF:List (Nat×Nat)}(K:Xff s β lsF lbF):∀{d u:D} {q g:List Nat} {c:Prop} {l:List Nat},lend s q d=some (c,u,g,l)->c->Frz s M' β w l->g <+:lsF ->
 ∀{y:Value},Rep P M β d y->Rep P M' (Kl lbF) u y
 |.ept id ver z i k,u,q,g,c,l,h,o,p,hp,y,f=>by
  have key:∀j,lsF[j]? = some id->i=0->(∃E L fz,s id=some (ver,.arr true E z [L] fz))->Rep P M' (Kl lbF) (.ept (LB+j) 0 z 0 k) y:=by
   rintro j V rfl ⟨E,L,fz,S⟩;obtain⟨v',E',z',cs',fz',x,O,hx,hb⟩:=K j id V;rw[S]at O;obtain⟨rfl,_⟩:ver=v'/\_:=by simpa using O
   simp only[Rep]at f⊢;obtain⟨b,Z,R,rfl⟩:=f;rw[hb]at R;obtain rfl:x=(b,Z):=by simpa using R
   exact⟨b,Z,by simp[Kl,hx],rfl⟩
  unfold lend at h;split at h
  .rename_i ver' E z' L fz S;split at h
   .rename_i H;have⟨rfl,rfl,N⟩:=H;split at h
    .rename_i j V;obtain⟨rfl,rfl,rfl,rfl⟩:=h;refine key j ?_ N ⟨_,_,_,S⟩;have:=XiU V;obtain⟨t,rfl⟩:=hp;rw[U6]
     .exact this
     rcases Ur j q.length with h|h
     .exact h
     rw[W3 h]at this;cases this
    obtain⟨rfl,rfl,rfl,rfl⟩:=h;refine key q.length ?_ N ⟨_,_,_,S⟩;obtain⟨t,rfl⟩:=hp;simp
   cases h
  simp_all
 |.agg L,u,q,g,c,l,h,o,p,hp,y,f=>by
  unfold lend at h;split at h
  .rename_i B ds J G r;obtain⟨rfl,rfl,rfl,rfl⟩:=h;simp only[Rep]at f⊢;obtain⟨T,e,f⟩:=f;exact⟨T,e,K9 I A K r o p hp f⟩
  simp_all
 |.tup L,u,q,g,c,l,h,o,p,hp,y,f=>by
  unfold lend at h;split at h
  .rename_i B ds J G r;simp only[Wt,Wy]at h;obtain⟨rfl,rfl,rfl,rfl⟩:=h;simp only[Rep]at f⊢;obtain⟨T,e,f⟩:=f;exact⟨T,e,K9 I A K r o p hp f⟩
  simp_all
 |.clo fn a b,u,q,g,c,l,h,o,p,hp,y,f=>by
  unfold lend at h;split at h
  .rename_i c1 a' ls1 l1 h1;split at h
   .rename_i c2 b' J l2 h2;simp only[Wt,Wy]at h;obtain⟨rfl,rfl,rfl,rfl⟩:=h;simp only[Rep]at f⊢;obtain⟨va,vb,e,W,Y⟩:=f;exact⟨va,vb,e,K9 I A K h1 o.1 (λi N=>p i (W6 _ N)) ((Zf h2).trans hp) W,K9 I A K h2 o.2 (λi N=>p i (Ug _ N)) hp Y⟩
   cases h
  simp_all
 |.ifc t d,u,q,g,c,l,h,o,p,hp,y,f=>by
  unfold lend at h;split at h
  .rename_i B e J G r;simp only[Wt,Wy]at h;obtain⟨rfl,rfl,rfl,rfl⟩:=h;simp only[Rep]at f⊢;obtain⟨x,e,f⟩:=f;exact⟨x,e,lend_rep I A K r o p hp f⟩
  simp_all
 |.osl id ver z off len,u,q,g,c,l,h,o,p,hp,y,f=>by
  unfold lend at h;split at h
  .rename_i B e G r;simp only[Wt,Wy]at h;obtain⟨rfl,rfl,rfl,rfl⟩:=h;exact(snap_rep I A r o p f).mono (MLe.refl _) (BLe.zero _)
  simp_all
 |.any,u,q,g,c,l,h,o,p,hp,y,f=>by
  unfold lend at h;split at h
  .rename_i B e G r;simp only[Wt,Wy]at h;obtain⟨rfl,rfl,rfl,rfl⟩:=h;exact(snap_rep I A r o p f).mono (MLe.refl _) (BLe.zero _)
  simp_all
 |.v x,u,q,g,c,l,h,o,p,hp,y,f=>by
  unfold lend at h;split at h
  .rename_i B e G r;simp only[Wt,Wy]at h;obtain⟨rfl,rfl,rfl,rfl⟩:=h;exact(snap_rep I A r o p f).mono (MLe.refl _) (BLe.zero _)
  simp_all
 |.nsl,u,q,g,c,l,h,o,p,hp,y,f=>by
  unfold lend at h;split at h
  .rename_i B e G r;simp only[Wt,Wy]at h;obtain⟨rfl,rfl,rfl,rfl⟩:=h;exact(snap_rep I A r o p f).mono (MLe.refl _) (BLe.zero _)
  simp_all
 |.isl E z es,u,q,g,c,l,h,o,p,hp,y,f=>by
  unfold lend at h;split at h
  .rename_i B e G r;simp only[Wt,Wy]at h;obtain⟨rfl,rfl,rfl,rfl⟩:=h;exact(snap_rep I A r o p f).mono (MLe.refl _) (BLe.zero _)
  simp_all
 |.ipt z L k,u,q,g,c,l,h,o,p,hp,y,f=>by
  unfold lend at h;split at h
  .rename_i B e G r;simp only[Wt,Wy]at h;obtain⟨rfl,rfl,rfl,rfl⟩:=h;exact(snap_rep I A r o p f).mono (MLe.refl _) (BLe.zero _)
  simp_all
 |.fsl E z es,u,q,g,c,l,h,o,p,hp,y,f=>by simp_all[Rep]
 |.fmp k ks T,u,q,g,c,l,h,o,p,hp,y,f=>by simp_all[Rep]
 |.omp id ver,u,q,g,c,l,h,o,p,hp,y,f=>by simp_all[lend,snap]
def K9(I:UY P C s U M β w)(y:MLe M M'){lsF:List Nat}{lbF:List (Nat×Nat)}(z:Xff s β lsF lbF):∀{k f:List D} {o g:List Nat} {c:Prop} {l:List Nat},ZK s o k=some (c,f,g,l)->c->Frz s M' β w l->g <+:lsF ->
 ∀{j:List Value},RepL P M β k j->RepL P M' (Kl lbF) f j
 |[],f,o,g,c,l,h,p,q,hp,j,A=>by simp_all[ZK,Wt,Wy,RepL]
 |d::k,f,o,g,c,l,h,p,q,hp,j,A=>by
  unfold ZK at h;split at h
  .rename_i K e E L G;split at h
   .rename_i N O H R B;obtain⟨rfl,rfl,rfl,rfl⟩:=h;have⟨x,J,e,r,u⟩:=A;exact⟨x,J,e,lend_rep I y z G p.1 (λi v=>q i (W6 _ v)) ((Zf B).trans hp) r,K9 I y z B p.2 (λi v=>q i (Ug _ v)) hp u⟩
   cases h
  simp_all
end
end
variable {P:Program}
def Jl(s:Heap):List Nat->Option (Prop×List Ob×List Nat)
 |[]=>some (True,[],[])
 |id::ids=>match s id with
  |some (_,.arr true E z [e] fz)=>match ZO s e,Jl s ids with
   |some (c,f,l),some (g,obs,h)=>some (c/\g,.arr true E z [f] fz::obs,l++h)
   |_,_=>none
  |_=>none
def ZP(s:Heap):List Nat->List Ob->Up
 |id::ids,o::os=>match s id with
  |some (v,_)=>(id,v,o)::ZP s ids os
  |none=>ZP s ids os
 |_,_=>[]
section
variable {C:Cx}{s:Heap}{U:Nat->Prop}{M M':Mem}{β:Loc}{w w':World}
def XbD{L:List Nat}(I:UY P C s U M β w)(hM:MLe M M')(I':UY P C (frz s L) U M' β w)(A:Frz s M' β w L):∀{ids:List Nat} {c:Prop} {obs:List Ob} {l:List Nat} {lb:List (Nat×Nat)},Jl s ids=some (c,obs,l)->c->(∀x∈l,x∈L)->Xff s β ids lb->lb.length=ids.length ->
 obs.length=ids.length/\∀(k:Nat)ob x,obs[k]? = some ob->lb[k]? = some x->ObRep P M' Yx w (some x) ob/\ob.bx=true
 |[],c,obs,l,lb,h,O,R,S,f=>by simp_all[Jl,Wt,Wy]
 |id::ids,c,obs,l,lb,h,O,R,S,f=>by
  unfold Jl at h;split at h
  .rename_i v E z p fz N;split at h
   .rename_i c1 ds l1 c2 obs2 l2 h1 h2;obtain⟨rfl,rfl,rfl⟩:=h;match lb,f with
    |x0::lb,f=>
     have V:Xff s β ids lb:=λj i hj=>by simpa using S (j+1) i (by simpa using hj)
     have⟨g1,g2⟩:=XbD I hM I' A h2 O.2 (λx g=>R x (Ug _ g)) V (by simpa using f);refine⟨by simp[g1],λk ob x W g=>?_⟩;cases k with
     |succ k=>exact g2 k ob x (by exact W) (by exact g)
     |zero=>
      simp at W g;subst W;subst g;refine⟨?_,rfl⟩;have⟨v',E',z',cs',fz',x,B,D,hb⟩:=S 0 id ab;simp at D;subst D;rw[N]at B;obtain⟨rfl,_⟩:v=v'/\_:=by simpa using B
      have Y:frz s L id=some (v,.arr true E z [p] fz):=by
       unfold frz;split
       .rw[N];rfl
       exact N
      have⟨x1,G,Z⟩:=I'.obs id v _ Y;rw[hb]at G;obtain rfl:x0=x1:=by simpa using G
      have⟨b,cb⟩:=x0;have⟨y,T,k1,k2,k3,k4,k5,k6,k7,k8,k9,k10⟩:=Z;have⟨x2,H,J⟩:=I.obs id v _ N;rw[hb]at H;obtain rfl:some (b,cb)=x2:=by simpa using H
      have⟨y2,T2,j1,j2,j3,j4,j5,j6,j7,j8,j9,j10⟩:=J;rw[k1]at j1;have⟨rfl,rfl⟩:y=y2/\T=T2:=by simpa using j1
      have o:RepL P M β p (y.toList.take p.length):=by
       have hle:p.length<=y.size:=by have:=k3 p ab;have:z<=cb*z:=Nat.le_mul_of_pos_left _ (by simp at k4;omega);omega
       refine RepL.of ah λi d x hd g=>?_;obtain⟨u,r,q⟩:=j10 i d (by simpa using hd);rw[Un]at g;split at g
       .rw[UW,r]at g;obtain rfl:u=x:=by simpa using g
        exact q
       cases g
      have K:=Ku I hM h1 O.1 (λi hi=>A i (R i (W6 _ hi))) o;have hdl:ds.length=p.length:=by rw[←K.length,o.length]
      refine⟨y,T,k1,k2,?_,by exact k4,by exact k5,by exact k6,by exact k7,k8,k9,λi d hd=>?_⟩
      .intro e he;simp at he;subst he;rw[hdl];exact k3 p ab
      have hd':ds[i]? = some d:=by simpa using hd
      have⟨u,r,q⟩:=K.get i d hd';rw[Un]at r;split at r
      .exact⟨u,by simpa using r,q⟩
      cases r
   cases h
  simp_all
def XcW(f:Heap):∀(ids:List Nat) (obs:List Ob) (s:Heap) (i:Nat),ids.Nodup->(∀id∈ids,∃v o,f id=some (v,o))->obs.length=ids.length ->
 (i∉ids->app s (ZP f ids obs) i=s i)/\∀(j:Nat)o,ids[j]? = some i->obs[j]? = some o->∀v o',f i=some (v,o')->app s (ZP f ids obs) i=some (v,o)
 |[],obs,s,i,_,_,_=>by simp[ZP,app]
 |id::ids,o::obs,s,i,g,e,h=>by
  have⟨v,u,k⟩:=e id ab;simp at g;have l:app s (ZP f (id::ids) (o::obs))=app (upd s id (some (v,o))) (ZP f ids obs):=by simp only[ZP,k];rfl
  have⟨g1,g2⟩:=XcW f ids obs (upd s id (some (v,o))) i g.2 (λx y=>e x (by grind)) (by simp_all);rw[l];refine⟨λp=>?_,λj o' z A B q r=>?_⟩
  .simp_all[UT,not_or,g1,p,Yf]
  cases j with
  |zero=>simp_all[k,g1,g,YO]
  |succ j=>grind
def UY.called(I:UY P C s U M β w){ids:List Nat}{lb:List (Nat×Nat)}(hB:XcV s ids)(S:Xff s β ids lb)(hlb:lb.length=ids.length)(hK:Kp w (lb.map (·.1)) w')(hmem:MemOK M' w')(l:∀b o,b<w.heap.size->M' b o=M b o){obs:List Ob}(T:obs.length=ids.length)(J:∀(k:Nat)ob x,obs[k]? = some ob->lb[k]? = some x->ObRep P M' Yx w' (some x) ob/\ob.bx=true):
 UY P C (app s (ZP s ids obs)) U M' β w'/\MLe M M':=by
 have p:MLe M M':=λb o x g=>by rw[l b o (I.mem.lt g)];omega
 have K:∀id∈ids,∃v o,s id=some (v,o):=λid f=>by have⟨v,E,z,V,fz,h⟩:=hB.2 id f;simp_all
 have D:∀id v ob,app s (ZP s ids obs) id=some (v,ob)->(id∉ids/\s id=some (v,ob))\/∃(j:Nat) (x:Nat×Nat) (q:Ob),ids[j]? = some id/\lb[j]? = some x/\obs[j]? = some ob/\s id=some (v,q)/\q.bx=true/\β id v=some (some x):=by
  intro id v ob h;obtain⟨g1,g2⟩:=XcW s ids obs s id hB.1 K T;by_cases f:id∈ids
  .right;obtain⟨j,G,rfl⟩:=WM f;have⟨B,E,z,V,fz,x,e,g,hb⟩:=S j _ (Wc G);have L:obs[j]? = some (obs[j]'aa):=Wc aa;have:=g2 j _ ab L B _ e;have⟨rfl,rfl⟩:B=v/\obs[j]'aa=ob:=by simp_all
   exact⟨j,x,_,Wc G,g,L,e,rfl,hb⟩
  simp_all
 have N:∀id v ob b r,id∉ids->s id=some (v,ob)->β id v=some (some (b,r))->b∉lb.map (·.1):=by
  intro id v ob b r f e hb O;rw[UM]at O;obtain⟨x,g,rfl⟩:=O;obtain⟨j,G,rfl⟩:=WM g;obtain⟨B,E,z,V,fz,x',u,y,A⟩:=S j (ids[j]'aa) ab;have:lb[j]=x':=by rw[Wc G]at y;simpa using y
  have R:=I.inj id v ob (ids[j]'aa) B _ _ r x'.2 e u (by rw[hb]) (by simp_all);exact f (R▸WL _)
 refine⟨?_,p⟩;constructor
 .omega
 .exact I.used
 .intro id v ob e;rcases D id v ob e with⟨f,e⟩|⟨j,x,q,G,g,L,e,_,hb⟩
  .have⟨x,g,W⟩:=I.obs id v ob e;refine⟨x,g,W.mono p (BLe.refl _) ?_ ?_⟩
   .rintro b r rfl;exact hK.block b W.lt (N id v ob b r f e g)
   rintro b r rfl o;exact l b o W.lt
  have⟨g1,g2⟩:=J j ob x L g;exact⟨some x,hb,g1.mono (MLe.refl _) (BLe.zero _) (λ_ _ _=>rfl) (λ_ _ _ _=>rfl)⟩
 .intro id v ob b r e hb;rcases D id v ob e with⟨f,e⟩|⟨j,x,q,G,g,L,e,hbx,A⟩
  .exact I.own id v ob b r e hb
  rcases I.own id v q b r e hb with h|h
  .exact .inl h
  grind
 .intro id v ob H B Y b r Z e u hb A;have h1:∃o,s id=some (v,o):=by rcases D id v ob e with⟨_,e⟩|⟨_,_,o,_,_,_,e,_⟩<;>exact⟨_,e⟩
  have h2:∃o,s H=some (B,o):=by rcases D H B Y u with⟨_,e⟩|⟨_,_,o,_,_,_,e,_⟩<;>exact⟨_,e⟩
  have⟨o1,h1⟩:=h1;have⟨o2,h2⟩:=h2;exact I.inj id v o1 H B o2 b r Z h1 h2 hb A
 .refine⟨hK.os.trans I.keep.os,hK.tape.trans I.keep.tape,hK.output.trans I.keep.output,Uq I.keep.size hK.size,λk hk hl=>?_⟩;rw[←I.keep.block k hk hl];refine hK.block k (Iq hk I.keep.size) λO=>?_;rw[UM]at O;obtain⟨x,g,rfl⟩:=O;obtain⟨j,G,rfl⟩:=WM g;have⟨B,E,z,V,fz,x',u,y,A⟩:=S j (ids[j]'aa) ab;have hx2:lb[j]=x':=by rw[Wc G]at y;simpa using y
  rcases I.own _ B _ lb[j].1 x'.2 u (by rw[A,hx2])with h|h
  .omega
  simp_all
 .intro b o hb;rw[l b o (Iq hb I.keep.size)];exact I.old b o hb
 .exact I.le.trans p
 exact I.glob
end
variable {P:Program}
mutual
def fits:D->D->Prop
 |.nsl,.isl _ _ j=>j=[]
 |.agg f,.agg g=>Z1 f g
 |.tup f,.tup g=>Z1 f g
 |.clo fn a b,.clo h k l=>fn=h/\Z1 a k/\Z1 b l
 |.ifc t d,.ifc o p=>t=o/\fits d p
 |d,e=>d=e
def Z1:List D->List D->Prop
 |[],[]=>True
 |d::f,e::g=>fits d e/\Z1 f g
 |_,_=>False
end
mutual
def fits_rep{M:Mem}{β:Loc}:∀{d e:D} {y:Value},fits d e->Rep P M β d y->Rep P M β e y
 |.nsl,e,y,h,g=>by
  cases e<;>simp only[fits,reduceCtorEq]at h<;>try (first|exact g|(exact h.elim))
  grind[Rep,Xy]
 |.agg p,e,y,h,g=>by cases e<;>simp only[fits,reduceCtorEq]at h;have⟨j,e,g⟩:=g;exact⟨j,e,Ja h g⟩
 |.tup p,e,y,h,g=>by cases e<;>simp only[fits,reduceCtorEq]at h;have⟨j,e,g⟩:=g;exact⟨j,e,Ja h g⟩
 |.clo fn a b,e,y,h,g=>by cases e<;>simp only[fits,reduceCtorEq]at h;have⟨rfl,k,q⟩:=h;have⟨r,u,e,l,o⟩:=g;exact⟨r,u,e,Ja k l,Ja q o⟩
 |.ifc t d,e,y,h,g=>by cases e<;>simp only[fits,reduceCtorEq]at h;have⟨rfl,k⟩:=h;have⟨x,e,g⟩:=g;exact⟨x,e,fits_rep k g⟩
 |.any,e,y,h,g=>by simp_all[fits]
 |.v x,e,y,h,g=>by simp_all[fits]
 |.isl a b c,e,y,h,g=>by simp_all[fits]
 |.osl a b c d f,e,y,h,g=>by simp_all[fits]
 |.ept a b c d f,e,y,h,g=>by simp_all[fits]
 |.ipt a b c,e,y,h,g=>by simp_all[fits]
 |.fsl a b c,e,y,h,g=>by simp_all[Rep]
 |.fmp a b c,e,y,h,g=>by simp_all[Rep]
 |.omp a b,e,y,h,g=>by simp_all[fits]
def Ja{M:Mem}{β:Loc}:∀{j f:List D} {g:List Value},Z1 j f->RepL P M β j g->RepL P M β f g
 |[],f,g,h,k=>by grind[Z1]
 |d::j,f,g,h,k=>by cases f<;>simp only[Z1]at h;have⟨x,l,e,o,p⟩:=k;exact⟨x,l,e,fits_rep h.1 o,Ja h.2 p⟩
end
mutual
def scal:D->Bool
 |.any=>true
 |.v _=>true
 |.agg e=>JV e
 |.tup e=>JV e
 |_=>false
def JV:List D->Bool
 |[]=>true
 |d::e=>scal d&&JV e
end
mutual
def scal_rep{M M':Mem}{w:World}{B:Nat}(β:Loc)(ver n:Nat):∀{d:D} {y:Value} {l:List (Option (Nat×Nat))},scal d=true->FrRep P M w B d y l->l=[]/\Rep P M' β d y/\imp ver n d=(d,n,[])
 |.any,y,l,_,f=>by simp_all[FrRep,Rep,imp]
 |.v x,y,l,_,f=>by simp_all[FrRep,Rep,imp]
 |.agg j,y,l,g,f=>by have⟨k,e,f⟩:=f;have⟨o,p,h⟩:=XbE (M':=M') β ver n g f;simp_all[Rep,imp,h]
 |.tup j,y,l,g,f=>by have⟨k,e,f⟩:=f;have⟨o,p,h⟩:=XbE (M':=M') β ver n g f;simp_all[Rep,imp,h]
 |.nsl,y,l,g,f=>by simp_all[scal]
 |.isl ..,y,l,g,f=>by simp_all[scal]
 |.osl ..,y,l,g,f=>by simp_all[scal]
 |.ept ..,y,l,g,f=>by simp_all[scal]
 |.ipt ..,y,l,g,f=>by simp_all[scal]
 |.clo ..,y,l,g,f=>by simp_all[scal]
 |.ifc ..,y,l,g,f=>by simp_all[scal]
 |.fsl ..,y,l,g,f=>by simp_all[scal]
 |.fmp ..,y,l,g,f=>by simp_all[scal]
 |.omp ..,y,l,g,f=>by simp_all[scal]
def XbE{M M':Mem}{w:World}{B:Nat}(β:Loc)(ver n:Nat):∀{f:List D} {g:List Value} {l:List (Option (Nat×Nat))},JV f=true->FrRepL P M w B f g l->l=[]/\RepL P M' β f g/\Vw ver n f=(f,n,[])
 |[],g,l,_,h=>by simp_all[FrRepL,RepL,h,Vw]
 |d::f,g,l,j,h=>by simp only[JV,W9]at j;obtain⟨x,r,u,v,e,rfl,k,o⟩:=h;obtain⟨rfl,y,p⟩:=scal_rep (M':=M') β ver n j.1 k;obtain⟨rfl,z,q⟩:=XbE (M':=M') β ver n j.2 o;exact⟨rfl,by grind[RepL],by simp[Vw,p,q,If]⟩
end
mutual
def FrRep.ge{M:Mem}{w:World}{B:Nat}:∀{d:D} {y:Value} {l:List (Option (Nat×Nat))},FrRep P M w B d y l->∀b∈X0 l,B<=b
 |.fsl E z p,y,l,e=>by
  rcases e with⟨rfl,_⟩|⟨b,q,o,rfl,hb,_⟩
  .simp[X0]
  simp[X0,hb]
 |.fmp k r f,y,l,e=>by obtain⟨b,rfl,hb,_⟩:=e;simp[X0,hb]
 |.agg g,y,l,e=>by have⟨f,_,e⟩:=e;exact FrRepL.ge e
 |.tup g,y,l,e=>by have⟨f,_,e⟩:=e;exact FrRepL.ge e
 |.ifc t d,y,l,e=>by have⟨f,_,e⟩:=e;exact FrRep.ge e
 |.clo fn a b,y,l,e=>by
  obtain⟨u,A,_,G,H,rfl,h,j⟩:=e;intro b hb;rw[X7,WH]at hb;rcases hb with hb|hb
  .exact FrRepL.ge h b hb
  exact FrRepL.ge j b hb
 |.any,y,l,e=>by simp_all[FrRep,X0]
 |.v _,y,l,e=>by simp_all[FrRep,e,X0]
 |.nsl,y,l,e=>by simp_all[FrRep,e,X0]
 |.isl ..,y,l,e=>by simp_all[FrRep,e,X0]
 |.ipt ..,y,l,e=>by simp_all[FrRep,e,X0]
 |.osl ..,y,l,e=>by simp_all[FrRep]
 |.ept ..,y,l,e=>by simp_all[FrRep]
 |.omp ..,y,l,e=>by simp_all[FrRep]
def FrRepL.ge{M:Mem}{w:World}{B:Nat}:∀{g:List D} {e:List Value} {l:List (Option (Nat×Nat))},FrRepL P M w B g e l->∀b∈X0 l,B<=b
 |[],e,l,f=>by simp_all[FrRepL,f,X0]
 |d::g,e,l,f=>by
  obtain⟨x,k,o,p,_,rfl,h,j⟩:=f;intro b hb;rw[X7,WH]at hb;rcases hb with hb|hb
  .exact FrRep.ge h b hb
  exact FrRepL.ge j b hb
end
def Zi(s:Heap)(args:List D):Option (Prop×List D×List Nat×List Ob×List Nat):=
 match ZK s [] args with
 |some (c,as,ids,e)=>match Jl s ids with
  |some (f,obs,g)=>some (c/\f,as,ids,obs,e++g)
  |none=>none
 |none=>none
def VE:Ob->Bool
 |.arr true _ _ e 0=>e.all JV
 |_=>false
mutual
def scalR{M M':Mem}{β β':Loc}:∀{d:D} {y:Value},scal d=true->Rep P M β d y->Rep P M' β' d y
 |.any,y,_,_=>by simp[Rep]
 |.v x,y,_,h=>by assumption
 |.agg j,y,f,h=>by have⟨g,e,h⟩:=h;exact⟨g,e,XhQ f h⟩
 |.tup j,y,f,h=>by have⟨g,e,h⟩:=h;exact⟨g,e,XhQ f h⟩
 |.nsl,_,f,_=>by assumption
 |.isl ..,_,f,_=>by simp_all[scal]
 |.osl ..,_,f,_=>by simp_all[scal]
 |.ept ..,_,f,_=>by simp_all[scal]
 |.ipt ..,_,f,_=>by simp_all[scal]
 |.clo ..,_,f,_=>by simp_all[scal]
 |.ifc ..,_,f,_=>by simp_all[scal]
 |.fsl ..,_,f,_=>by assumption
 |.fmp ..,_,f,_=>by assumption
 |.omp ..,_,f,_=>by simp_all[scal]
def XhQ{M M':Mem}{β β':Loc}:∀{f:List D} {g:List Value},JV f=true->RepL P M β f g->RepL P M' β' f g
 |[],g,_,h=>by assumption
 |d::f,g,j,h=>by simp only[JV,W9]at j;have⟨x,k,e,l,o⟩:=h;exact⟨x,k,e,scalR j.1 l,XhQ j.2 o⟩
end
def Xeh:∀{f:List D},JV f=true->∀d∈f,scal d=true
 |[],_,d,h=>by grind
 |e::f,g,d,h=>by
  simp only[JV,W9]at g;rcases UT.1 h with rfl|h
  .simp_all
  exact Xeh g.2 d h
def Xj2{M M':Mem}{w:World}{x:Nat×Nat}:∀{ob:Ob},VE ob=true->(∀b o y,M b o=some y->M' b o=some y)->ObRep P M' Yx w (some x) ob->ObRep P M Yx w (some x) ob
 |.mp ..,f,_,_=>by simp_all[VE]
 |.raw _,f,_,_=>by simp_all[VE]
 |.arr false ..,f,_,_=>by simp_all[VE]
 |.arr true E z k (n+1),f,_,_=>by simp_all[VE]
 |.arr true E z k 0,f,l,h=>by
  have⟨b,K⟩:=x;simp only[VE,Ud]at f;have⟨p,T,k1,k2,q,r,u,v,A,B,D,g⟩:=h;refine⟨p,T,k1,k2,q,r,u,v,A,B,λo=>?_,λi d hd=>?_⟩
  .have G:=D o;rw[Wk aa]at G⊢;cases L:M b o with
   |none=>rfl
   |some y=>simp_all
  have⟨y,H,I⟩:=g i d hd;have⟨e,J,j⟩:=List.mem_flatten.1 (Ue hd);exact⟨y,H,scalR (Xeh (f e J) d j) I⟩
def Jb(s:Heap)(ids fz:List Nat)(r:D)(e:List Ob)(ver n:Nat):D×Heap:=
 let f:=if scal r&&e.all VE then s else frz s fz
 let g:=app f (ZP s ids e)
 let q:=imp ver n r
 (q.1,app g q.2.2)
section
variable {C:Cx}{s:Heap}{U:Nat->Prop}{M:Mem}{β:Loc}{w:World}{ver:Nat}
def XbF(s:Heap)(fz:List Nat):∀(ids:List Nat) (obs:List Ob),(∀id∈ids,∃v o,s id=some (v,o))->ZP (frz s fz) ids obs=ZP s ids obs
 |[],_,_=>rfl
 |id::ids,[],_=>rfl
 |id::ids,o::obs,h=>by
  have⟨v,j,e⟩:=h id ab;have k:=XbF s fz ids obs λx l=>h x (by simp[l]);have g:∃o',frz s fz id=some (v,o'):=by
   unfold frz;split
   .rw[e];cases j with
    |mp _=>exact⟨_,rfl⟩
    |raw _=>exact⟨_,rfl⟩
    |arr bx E z p f=>cases bx<;>exact⟨_,rfl⟩
   exact⟨_,e⟩
  have⟨o',g⟩:=g;simp[ZP,g,e,k]
def XiV(I:UY P C s U M β w)(hv:¬U ver){f:FuncId}{args eargs:List D}{vs:List Value}(hr:RepL P M β args vs){c:Prop}{as:List D}{ids:List Nat}{obs:List Ob}{fz:List Nat}(h:Zi s args=some (c,as,ids,obs,fz))(hc:c)(hfit:Z1 as eargs){R:D->List Ob->Prop}(hA:YS P C.G f eargs obs R)(n:Nat):
 Calls P f ⟨vs⟩ w λe w'=>∃v r H M' β',e=.returned v/\R r H/\UY P C (Jb s ids fz r H ver n).2 (λx=>U x\/x=ver) M' β' w'/\Rep P M' β' (Jb s ids fz r H ver n).1 v/\MLe M M'/\BLe β β':=by
 unfold Zi at h;split at h
 .rename_i c1 as' ids' l1 hl;split at h
  .rename_i c2 obs' l2 ho;simp only[Wt,Wy]at h;have⟨rfl,rfl,rfl,rfl,rfl⟩:=h;have⟨M1,I1,O,hF⟩:=I.freeze (l1++l2);have hboxes:XcV s ids':=Zb hl ⟨ab,ab⟩;have hlb:∃lb:List (Nat×Nat),lb.length=ids'.length/\Xff s β ids' lb:=by
    have:∀l:List Nat,(∀id∈l,∃v E z J fz,s id=some (v,.arr true E z [J] fz))->∃lb:List (Nat×Nat),lb.length=l.length/\Xff s β l lb:=by
     intro l;induction l with
     |nil=>intro _;exact⟨[],rfl,λj id h=>by simp at h⟩
     |cons id l ih=>
      intro q;obtain⟨lb,K,h2⟩:=ih λx y=>q x (by simp[y]);obtain⟨v,E,z,J,fz,A⟩:=q id ab;obtain⟨x,y,hob⟩:=I.obs id v _ A;cases x with
      |none=>simp[ObRep]at hob
      |some x=>
       refine⟨x::lb,by simp[K],λj i V=>?_⟩;cases j with
       |zero=>simp at V;subst V;exact⟨v,E,z,J,fz,x,A,ab,y⟩
       |succ j=>simpa using h2 j i (by simpa using V)
    exact this ids' hboxes.2
   have⟨lb,u,hL⟩:=hlb;have hargs:=Ja hfit (K9 I O hL hl hc.1 (λi hi=>hF i (W6 _ hi)) (List.prefix_refl _) hr);have⟨g1,g2⟩:=XbD I O I1 hF ho hc.2 (λx y=>Ug _ y) hL u;have hnd:(lb.map (·.1)).Nodup:=by
    rw[Ir,UL];intro i j hi0 hj0 hij he;simp only[W4]at hi0 hj0;have hii:i<lb.length:=aa;have V:j<lb.length:=aa;simp only[Oe]at he;obtain⟨v,E,z,J,fz,x,A,y,hb⟩:=hL i (ids'[i]'aa) ab;obtain⟨v',E',z',cs',fz',x',hs',hx',hb'⟩:=hL j (ids'[j]'aa) ab;have e1:lb[i]=x:=by simpa [hii]using y
    have e2:lb[j]=x':=by simpa [V]using hx'
    have p:=I.inj _ v _ _ v' _ x.1 x.2 x'.2 A hs' hb (by rw[hb',←e2,←e1,he]);have:=(UL.1 (Ir.1 hboxes.1)) i j aa aa hij;exact this p
   refine(hA.2 M1 w vs lb I1.mem (λg J hg=>RepC.mono I1.le (I1.glob g J hg)) (by rw[u,g1]) hnd g2 hargs).mono ?_;rintro e w' ⟨v,r,H,M',l,rfl,hR,hK,W,Y,hls,Z,hfr,hndl⟩;refine⟨v,r,H,?_⟩;have L:H.length=ids'.length:=by rw[hls,u]
   have q:∀id∈ids',∃v o,s id=some (v,o):=λid p=>by have⟨v,E,z,J,fz,h⟩:=hboxes.2 id p;exact⟨_,_,h⟩
   have N:∀b o x,M b o=some x->M' b o=some x:=λb o x y=>by rw[Y b o (I.mem.lt y)];exact O _ _ _ y
   unfold Jb;by_cases S:(scal r&&H.all VE)=true
   .simp only[S,if_true];simp only[W9]at S;have⟨hsc1,hso⟩:=S;have⟨rfl,hrv,himp⟩:=scal_rep (M':=M) β ver n hsc1 hfr;have⟨I2,_⟩:=I.called (ids:=ids') (lb:=lb) (M':=M) (w':=w') (obs:=H) hboxes hL u hK (λb o x y=>W b o x (N b o x y)) (λ_ _ _=>rfl) L (λk ob x K h2=>by
     obtain⟨g3,g4⟩:=Z k ob x K h2
     exact⟨Xj2 (Ud.1 hso ob (Ue K)) N g3,g4⟩)
    refine⟨M,β,trivial,hR,?_,?_,MLe.refl _,BLe.refl _⟩
    .rw[himp];exact I2.mono λ_ h=>.inl h
    rw[himp];exact hrv
   simp only[S,U9,if_false];have T:XcV (frz s (l1++l2)) ids':=⟨hboxes.1,λid p=>by
    obtain⟨v,E,z,J,fz,A⟩:=hboxes.2 id p
    refine⟨v,E,z,J,fz,?_⟩
    unfold frz
    split
    .rw[A];rfl
    .exact A⟩
   have hL1:Xff (frz s (l1++l2)) β ids' lb:=λj id V=>by
    obtain⟨v,E,z,J,fz,x,A,y,hb⟩:=hL j id V;refine⟨v,E,z,J,fz,x,?_,y,hb⟩;unfold frz;split
    .rw[A];rfl
    exact A
   have⟨I2,hM2⟩:=I1.called T hL1 u hK W Y L Z;rw[XbF s _ ids' H q]at I2;have hfree:XhP (app (frz s (l1++l2)) (ZP s ids' H)) β (X0 l):=by
    intro b hb id v' ob cb A y;have hge:=FrRep.ge hfr b hb;have K:∃o,frz s (l1++l2) id=some (v',o):=by
     obtain⟨q1,q2⟩:=XcW (frz s (l1++l2)) ids' H (frz s (l1++l2)) id T.1 (λi hi=>by
      obtain⟨v,E,z,J,fz,h⟩:=T.2 i hi
      exact⟨_,_,h⟩) L
     rw[XbF s _ ids' H q]at q1 q2;by_cases p:id∈ids'
     .obtain⟨j,V,rfl⟩:=WM p;obtain⟨v2,E,z,J,fz,h⟩:=T.2 _ p;have:=q2 j (H[j]'aa) ab ab v2 _ h;rw[this]at A;obtain⟨rfl,_⟩:v2=v'/\_:=by simpa using A
      exact⟨_,h⟩
     rw[q1 p]at A;exact⟨_,A⟩
    obtain⟨o,K⟩:=K;obtain⟨x,hx1,hob⟩:=I1.obs id v' o K;rw[y]at hx1;obtain rfl:some (b,cb)=x:=by simpa using hx1
    have:=hob.lt;omega
   have⟨β',K,h2⟩:=imp_ok (C:=C) (ver:=ver) (B:=w.heap.size) I.keep.size r v l n I2 (λi _=>I2.fresh hv i) hfr hndl hfree;exact⟨M',β',trivial,hR,K.inv,h2,O.trans hM2,K.le⟩
  cases h
 simp_all
def Xot(I:UY P C s U M β w){f:FuncId}{eargs:List D}{E:List Value}{M1:Mem}(y:MLe M M1)(H:MemOK M1 w)(p:RepL P M1 Yx eargs E){R:D->List Ob->Prop}(T:YS P C.G f eargs [] R)(J:∀r u,R r u->scal r=true):
 Calls P f ⟨E⟩ w λe w'=>∃v r u,e=.returned v/\R r u/\UY P C s U M β w'/\Rep P M β r v:=by
 refine(T.2 M1 w E [] H (λg V W=>RepC.mono (I.le.trans y) (I.glob g V W)) rfl ab (λk ob x h=>ab) (p.mono (MLe.refl _) (BLe.zero _))).mono ?_;rintro e w' ⟨v,r,u,M',l,rfl,N,hK,z,A,Y,O,K,S⟩;have q:∀b o x,M b o=some x->M' b o=some x:=λb o x B=>by rw[A b o (I.mem.lt B)];exact y _ _ _ B
 have⟨rfl,L,_⟩:=scal_rep (M':=M) β 0 0 (J r u N) K;have⟨I2,_⟩:=I.called (ids:=[]) (lb:=[]) (M':=M) (w':=w') (obs:=[]) ⟨ab,ab⟩ (λj id h=>by grind) rfl hK (λb o x B=>z b o x (q b o x B)) (λ_ _ _=>rfl) rfl (λk ob x h=>ab);exact⟨v,r,u,rfl,N,I2,L⟩
end
variable {P:Program}
def HLe(s e:Heap):Prop:=∀i x,s i=some x->e i=some x
section
variable {s s':Heap}
mutual
def snap_le(g:HLe s s'):∀{d:D}{r},snap s d=some r->snap s' d=some r
 |.osl id ver z off len,r,h=>by
  unfold snap at h⊢;split at h
  .rename_i j E q u f e;rw[g _ _ e];exact h
  simp_all
 |.agg k,r,h=>by
  unfold snap at h⊢;split at h
  .rename_i c o l e;rw[Jm g e];exact h
  simp_all
 |.tup k,r,h=>by
  unfold snap at h⊢;split at h
  .rename_i c o l e;rw[Jm g e];exact h
  simp_all
 |.clo fn a b,r,h=>by
  unfold snap at h⊢;split at h
  .rename_i e p;rw[Jm g e,Jm g p];exact h
  simp_all
 |.ifc t d,r,h=>by
  unfold snap at h⊢;split at h
  .rename_i e;rw[snap_le g e];exact h
  simp_all
 |.any,r,h=>by assumption
 |.v _,r,h=>by assumption
 |.nsl,r,h=>by assumption
 |.isl ..,r,h=>by assumption
 |.ipt ..,r,h=>by assumption
 |.ept ..,r,h=>by assumption
 |.fsl ..,r,h=>by assumption
 |.fmp ..,r,h=>by assumption
 |.omp ..,r,h=>by assumption
def Jm(f:HLe s s'):∀{e:List D}{r},ZO s e=some r->ZO s' e=some r
 |[],r,h=>by assumption
 |d::e,r,h=>by
  unfold ZO at h⊢;split at h
  .rename_i g j;rw[snap_le f g,Jm f j];exact h
  simp_all
end
def Xgf(f:HLe s s'):∀{e:List (Nat×D)}{r},Vz s e=some r->Vz s' e=some r
 |[],r,h=>by assumption
 |(i,d)::e,r,h=>by
  unfold Vz at h⊢;split at h
  .rename_i g j;rw[snap_le f g,Xgf f j];exact h
  simp_all
def Has(s:Heap)(l:List Nat):Prop:=∀i∈l,∃x,s i=some x
def Xa6(e:HLe s s'):∀{l:List Nat},Has s l->XaY s' l=XaY s l
 |[],_=>rfl
 |i::l,h=>by have⟨x,f⟩:=h i ab;have g:=Xa6 e (l:=l) (λj k=>h j (Ul _ k));simp only[XaY,f,e _ _ f,g]
mutual
def snap_has:∀{d:D}{c e l},snap s d=some (c,e,l)->Has s l
 |.osl id ver z off len,c,e,l,h=>by
  unfold snap at h;split at h
  .rename_i g;split at h
   .obtain⟨_,_,rfl⟩:=h;intro i f;simp at f;subst f;exact⟨_,g⟩
   cases h
  simp_all
 |.agg j,c,e,l,h=>by
  unfold snap at h;split at h
  .rename_i g;obtain⟨_,_,rfl⟩:=h;exact Jc g
  simp_all
 |.tup j,c,e,l,h=>by
  unfold snap at h;split at h
  .rename_i g;obtain⟨_,_,rfl⟩:=h;exact Jc g
  simp_all
 |.clo fn a b,c,e,l,h=>by
  unfold snap at h;split at h
  .rename_i g k;simp only[Wt,Wy]at h;obtain⟨_,_,rfl⟩:=h;intro i f;rcases WH.1 f with f|f
   .exact Jc g i f
   exact Jc k i f
  simp_all
 |.ifc t d,c,e,l,h=>by
  unfold snap at h;split at h
  .rename_i g;simp only[Wt,Wy]at h;obtain⟨_,_,rfl⟩:=h;exact snap_has g
  simp_all
 |.any,c,e,l,h=>by simp[snap]at h;obtain⟨_,_,rfl⟩:=h;intro i f;simp_all
 |.v _,c,e,l,h=>by simp[snap]at h;obtain⟨_,_,rfl⟩:=h;intro i f;simp_all
 |.nsl,c,e,l,h=>by simp[snap]at h;obtain⟨_,_,rfl⟩:=h;intro i f;simp_all
 |.isl ..,c,e,l,h=>by simp[snap]at h;obtain⟨_,_,rfl⟩:=h;intro i f;simp_all
 |.ipt ..,c,e,l,h=>by simp[snap]at h;obtain⟨_,_,rfl⟩:=h;intro i f;simp_all
 |.ept ..,c,e,l,h=>by simp_all[snap]
 |.fsl ..,c,e,l,h=>by simp_all[snap]
 |.fmp ..,c,e,l,h=>by simp_all[snap]
 |.omp ..,c,e,l,h=>by simp_all[snap]
def Jc:∀{g:List D}{c f l},ZO s g=some (c,f,l)->Has s l
 |[],c,f,l,h=>by obtain⟨_,_,rfl⟩:=h;intro i e;simp_all
 |d::g,c,f,l,h=>by
  unfold ZO at h;split at h
  .rename_i j k;obtain⟨_,_,rfl⟩:=h;intro i e;rcases WH.1 e with e|e
   .exact snap_has j i e
   exact Jc k i e
  simp_all
end
def Xei:∀{g:List (Nat×D)}{c f l},Vz s g=some (c,f,l)->Has s l
 |[],c,f,l,h=>by obtain⟨_,_,rfl⟩:=h;intro i e;simp_all
 |(j,d)::g,c,f,l,h=>by
  unfold Vz at h;split at h
  .rename_i k o;obtain⟨_,_,rfl⟩:=h;intro i e;rcases WH.1 e with e|e
   .exact snap_has k i e
   exact Xei o i e
  simp_all
def Xou(e:HLe s s'){d:D}{r}(h:Xe3 s d=some r):Xe3 s' d=some r:=by
 unfold Xe3 at h⊢;split at h
 .exact h
 .split at h
  .rename_i f;rw[e _ _ f];exact h
  cases h
 omega
def Xgg(e:HLe s s'){z:Nat}{d:D}{r}(h:elems s z d=some r):elems s' z d=some r:=by
 unfold elems at h⊢;split at h
 .exact h
 .exact h
 .exact h
 .split at h
  .rename_i f;rw[e _ _ f];exact h
  cases h
 omega
def XiW(e:HLe s s'){a b E z n:Nat}{c:Prop}{src:List (List D)}{d:D}{r}(h:Xd3 P s a b E z n c src d=some r):Xd3 P s' a b E z n c src d=some r:=by
 unfold Xd3 at h⊢;split at h
 .exact h
 .split at h
  .rename_i f;rw[e _ _ f];exact h
  cases h
 omega
def XiX(e:HLe s s'){T:TypeId}{m key x:D}{r}(h:XhJ P s T m key x=some r):XhJ P s' T m key x=some r:=by
 unfold XhJ at h⊢;split at h
 .split at h
  .rename_i g;rw[e _ _ g];split at h
   .rename_i f;rw[snap_le e f];simp only;rw[Xa6 e (snap_has f)];exact h
   cases h
  cases h
 omega
def Xj3(j:HLe s s'){sz:Nat}{e f g:Option Int}{d:D}{r}(h:XaB s sz e f g d=some r):XaB s' sz e f g d=some r:=by
 unfold XaB at h⊢;split at h
 .split at h
  .split at h
   .rename_i k;simp only[j _ _ k];exact h
   cases h
  grind
 grind
def XqE(f:HLe s s'){dst:Option Nat}{ver:Nat}{t:Operand->D}{op:Op}{r}(h:opF P dst ver t s op=some r):opF P dst ver t s' op=some r:=by
 cases op with
 |load T a=>
  simp only[opF]at h⊢;split at h
  .rename_i o p;rw[o,Xou f p];exact h
  simp_all
 |store T a x=>
  simp only[opF]at h⊢;split at h
  .split at h
   .rename_i l;rw[f _ _ l];exact h
   .rename_i l;rw[f _ _ l];split at h
    .rename_i g;simp only[snap_le f g];rw[Xa6 f (snap_has g)];exact h
    cases h
   cases h
  omega
 |buildSlice T n parts=>
  simp only[opF]at h⊢;split at h
  .split at h
   .split at h
    .split at h
     .rename_i g;rw[Wq g];split at h
      .rename_i j;simp only[Xgf f j];rw[Xa6 f (Xei j)];exact h
      cases h
     cases h
    cases h
   cases h
  omega
 |mapUpdate T m key x=>exact XiX f h
 |insert T m key x=>exact XiX f h
 |lookup T m key ok=>
  simp only[opF]at h⊢;split at h
  .split at h
   .rename_i g j;simp only[f _ _ g,j];exact h
   cases h
  omega
 |call c=>
  have⟨callee,args,types⟩:=c;cases callee with
  |builtin b=>
   cases b<;>first|exact h|skip
   case len=>
    simp only[opF]at h⊢
    split at h
    .split at h
     .exact h
     .exact h
     .exact h
     .exact h
     .split at h
      .rename_i g j
       simp only[g,f _ _ j];exact h
      .cases h
     .cases h
    .cases h
   case clear=>
    simp only[opF]at h⊢
    split at h
    .split at h
     .split at h
      .split at h
       .rename_i j k
        simp only[j,f _ _ k];exact h
       .cases h
      .cases h
     .cases h
    .split at h
     .rename_i g j
      simp only[g,f _ _ j];exact h
     .cases h
    .cases h
   case copy=>
    simp only[opF]at h⊢
    split at h
    .split at h
     .split at h
      .rename_i g j k
       simp only[g,f _ _ j,Xgg f k];exact h
      .cases h
     .cases h
    .cases h
   case delete=>
    simp only[opF]at h⊢
    split at h
    .split at h
     .rename_i g j
      simp only[g,f _ _ j];exact h
     .cases h
    .cases h
   simp only[opF]at h⊢;split at h
   .split at h
    .split at h
     .split at h
      .split at h
       .rename_i k;rw[Wq k];split at h
        .split at h
         .rename_i q;simp only[Xgg f q];exact XiW f h
         cases h
        .split at h
         .exact XiW f h
         cases h
        cases h
       cases h
      cases h
     cases h
    cases h
   omega
  |_=>exact h
 |slice T x u v y=>
  simp only[opF]at h⊢;split at h
  .split at h
   .simp only[Ui]at h⊢;obtain⟨a,h,e⟩:=h;exact⟨a,Xj3 f h,e⟩
   cases h
  .exact h
  cases h
 |_=>exact h
end
variable {P:Program}
inductive It where
 |code (c:Code)
 |ops (full:Array Oper) (rest:List Oper)
 |blk (id:Nat)
 |stop (Q:St->Prop)
abbrev AW:=Act->World->Prop
def XhR{F:Fence}{n:Nat}{c:Code}{Q:Exit->AW}{a:Act}{w:World}(h:c.wpIn F n P (Exit.noGoto Q) a w):(Code.scope c).wpIn F n P Q a w:=by
 intro b k g q hb r;have j:(lone (b.atR a (.code (.scope c)::k)) g w).fenced P F:=fenced_calm hb r rfl;have o:step P (lone (b.atR a (.code (.scope c)::k)) g w)=.next (lone (b.atR a (.code c::.inScope c::k)) g w):=step_lone_go (by rfl)
 have⟨e,a₁,w₁,p,f⟩:=h b (.inScope c::k) g q hb r;have v:step P (lone (b.atR a₁ (.inScope c::k)) g w₁)=.next (lone (b.atR a₁ k) g w₁):=step_lone_go (by rfl)
 cases e with
 |normal=>exact⟨.normal,a₁,w₁,p,.head j o (StepsIn.trans f (.one (fenced_calm hb r rfl) v))⟩
 |exit id=>exact⟨.exit id,a₁,w₁,p,λy z=>.head j o (f.1 y ag),λu z=>let ⟨k1,e,s⟩:=f.2 u ag;⟨k1,e,.head j o s⟩⟩
 |goto l=>exact p.elim
 |ret=>exact⟨_,a₁,w₁,p,.of_steps (.one j o) f⟩
 |panic A=>exact⟨_,a₁,w₁,p,.of_steps (.one j o) f⟩
 |outgrown=>exact⟨_,a₁,w₁,p,.of_steps (.one j o) f⟩
def Vt{F:Fence}{g:Nat}{c:Code}{Q:Exit->AW}{a:Act}{w:World}(I:Nat->AW)(n:Nat)(j:I n a w)(rd:∀n a w,I n a w->c.wpIn F g P (Exit.then (λa w=>∃k,k<n/\I k a w) Q) a w):(Code.loop c).wpIn F g P Q a w:=by
 refine wpIn_loop (λa w=>∃n,I n a w) (λa w=>leastOf λn=>I n a w) ⟨n,j⟩ λa w l=>wpIn_mono (rd _ a w (leastOf_spec l).1) λe p w' h=>?_;cases e with
 |normal=>have⟨k,o,f⟩:=h;exact And.intro ⟨k,f⟩ (Nat.lt_of_le_of_lt ((leastOf_spec ⟨k,f⟩).2 k f) o)
 |_=>exact h
@[reducible] def fz(r:Option Nat):Fence:={Fence.wide with round:=r}
def XcX{r:Option Nat}{n:Nat}{f:FuncId}{args:Array Value}{w:World}{R:Ending->World->Prop}(h:Calls P f args w R):CallsIn (fz r) n P f args w R:=(callsIn_wide (n:=n)).2 h
def Xlh{r:Option Nat}{n:Nat}{o:Oper}{a:Act}{w:World}{K:AW}{Q:Exit->AW}(hd:∀c,o.op≠.defer c)(h:o.wp P a w K Q):o.wpIn (fz r) n P a w K Q:=by
 refine⟨λ_ _=>trivial,?_⟩;rw[Oper.semAt_eq _ _ _ hd];unfold Oper.wp at h;revert h;generalize (execOp a.eval o).run P w=x;intro h;unfold Oper.upon at h;split at h
 .exact h
 .exact h
 .exact h
 .exact⟨λe=>(by cases e),XcX h⟩
 .exact⟨λe=>(by cases e),λc f _=>let ⟨v,w',r,s⟩:=h c f;⟨v,w',r,stepsIn_wide.2 s⟩⟩
 .exact h
 simp_all
def VF(R:AW)(f:Option Nat->AW):Exit->AW
 |.normal=>f none
 |.exit id=>f (some id)
 |.ret=>R
 |_=>λ_ _=>False
def sem(P:Program)(C:Cx)(R:AW):List It->Option Nat->AW
 |[],none=>R
 |[],some _=>λ_ _=>False
 |.stop Q::_,none=>λa w=>∃st,Rel P C st a w/\Q st
 |.stop _::k,some i=>sem P C R k (some i)
 |.blk _::k,none=>sem P C R k none
 |.blk j::k,some i=>if i=j then sem P C R k none else sem P C R k (some i)
 |.code c::k,none=>c.wpIn (fz C.rd) 0 P (VF R (sem P C R k))
 |.code _::k,some i=>sem P C R k (some i)
 |.ops full rest::k,none=>wpListIn (fz C.rd) 0 P full (VF R (sem P C R k)) rest
 |.ops _ _::k,some i=>sem P C R k (some i)
def Z8(P:Program)(C:Cx)(Q:St->Prop):AW:=λa w=>∃st,Rel P C st a w/\Q st
class Tag{α:Type}(x:α):Type
instance{α:Type}(x:α):Tag x:=⟨⟩
abbrev Prf{α:Type}(_:α):Prop:=True
def LoopG(P:Program)(C:Cx)(R:St->Prop)(c:Code)(k:List It)(st:St)[Tag (C,R,c,k,st)](_:Prf c):Prop:=
 ∀a w,Rel P C st a w->(Code.loop c).wpIn (fz C.rd) 0 P (VF (Z8 P C R) (sem P C (Z8 P C R) k)) a w
def DrawnG(P:Program)(C:Cx)(R:St->Prop)(id:Nat)(ops:Array Oper)(k:List It)(st:St)[Tag (C,R,ops,k,st)](_:Prf ops):Prop:=
 ∀a w,Rel P C st a w->(Code.region id ops true).wpIn (fz C.rd) 0 P (VF (Z8 P C R) (sem P C (Z8 P C R) k)) a w
def CallG(P:Program)(G:Nat->Option (List D))(f:FuncId)(args:List D)(obs:List Ob)(K:D->List Ob->Prop)[Tag (G,K)](_:Prf args):Prop:=
 ∃eargs R,Z1 args eargs/\YS P G f eargs obs R/\∀r e,R r e->K r e
def VG(b:Bool)(x y:Prop):Prop:=(b=true->x)/\(b=false->y)
def Xan(st:St)(x:Nat)(d:D):St:={st with t:=upd st.t x d}
def nx(st:St)(dst:Option Nat)(d:D)(u:Up)(n k:Nat):St:=
 ⟨match dst with|some x=>upd st.t x d|none=>st.t,app st.s u,n,k⟩
def XR(dst:Option Nat)(n:Nat):Option Nat:=match dst with
 |some x=>if x<n then some x else none
 |none=>none
def callee(t:Operand->D)(c:Call):Option (FuncId×List D):=match c.callee with
 |.value f=>match t f with
  |.clo (.func g) first caps=>some (g,first++(c.args.toList.map t++caps))
  |_=>none
 |_=>none
def Xcq(t:Operand->D)(c:Call):Option (Nat×List D):=match c.callee with
 |.value f=>match t f with
  |.clo (.yield l) [] []=>some (l,c.args.toList.map t)
  |_=>none
 |_=>none
def Vh:Op->Option Call
 |.call c=>match c.callee with
  |.value _=>some c
  |_=>none
 |_=>none
def aft(s:Heap)(ids fz:List Nat)(r:D)(e:List Ob)(ver n:Nat):D×Up:=
 if scal r&&e.all VE then(r,ZP s ids e)else((imp ver n r).1,XaY s fz++(ZP s ids e++(imp ver n r).2.2))
def XqF(x:D×Up)(dst:Option Nat)(n k:Nat)(f:Option Nat->D->Up->Nat->Nat->Prop)[Tag f](_:Prf x):Prop:=f dst x.1 x.2 n k
def Xb8(x:Option (Prop×D×Up))(dst:Option Nat)(n k:Nat)(f:Option Nat->D->Up->Nat->Nat->Prop)[Tag f](_:Prf x):Prop:=match (generalizing:=false) x with
 |some (c,d,u)=>c/\f dst d u n k
 |none=>False
def XhS(P:Program)(G:Nat->Option (List D))(f:FuncId)(x:Option (Prop×List D×List Nat×List Ob×List Nat))(K:List Nat->List Nat->D->List Ob->Prop)[Tag (G,K)](_:Prf x):Prop:=match (generalizing:=false) x with
 |some (e,as,ids,obs,fz)=>e/\CallG P G f as obs (K ids fz) trivial
 |none=>False
def nxS(st:St)(dst:Option Nat)(d:D)(s:Heap)(n k:Nat):St:=
 ⟨match dst with|some x=>upd st.t x d|none=>st.t,s,n,k⟩
def Xgh(n:Nat)(dst:Option Nat):Option Nat:=match dst with
 |some d=>some (n+d)
 |none=>none
def CallX(P:Program)(C:Cx)(f:FuncId)(args:List D)(dst:Option Nat)(st:St)(K:St->Prop)[Tag (C,dst,st,K)](_:Prf args):Prop:=
 (∃fn,P.funcs[f]? = some fn/\fn.body.isNone=false/\(fn.name== "runtime.NumGoroutine")=false) /\
 ∀M β w g,BLe C.b0 β->UY P C st.s (·<st.k) M β w->RepL P M β args g->Calls P f ⟨g⟩ w λe w'=>∃v d s' h M' β',e=.returned v/\UY P C s' (·<h) M' β' w'/\Rep P M' β' d v/\MLe M M'/\BLe β β'/\K (nxS st (XR dst st.n) d s' st.n h)
def YieldX(P:Program)(C:Cx)(l:Nat)(args:List D)(dst:Option Nat)(st:St)(K:St->Prop)[Tag (C,dst,st,K)](_:Prf args):Prop:=
 ∀M β w g,BLe C.b0 β->UY P C st.s (·<st.k) M β w->RepL P M β args g->∃f tmps assign body,(Instr.yield l ⟨g⟩).run P w=.ok (.round l f tmps assign body) w /\
  RoundIn (fz C.rd) 0 P l f tmps assign body w λe w'=>∃v d s' h M' β',e=.returned v/\UY P C s' (·<h) M' β' w'/\Rep P M' β' d v/\MLe M M'/\BLe β β'/\K (nxS st (XR dst st.n) d s' st.n h)
def Xfg(P:Program)(C:Cx)(x:Option (Nat×List D))(dst:Option Nat)(st:St)(K:St->Prop)[Tag (C,dst,st,K)](_:Prf x):Prop:=match (generalizing:=false) x with
 |some (l,args)=>YieldX P C l args dst st K trivial
 |none=>False
def XcY(P:Program)(C:Cx)(x:Option (FuncId×List D))(c:Call)(dst:Option Nat)(st:St)(K:St->Prop)[Tag (C,c,dst,st,K)](_:Prf x):Prop:=match (generalizing:=false) x with
 |some (f,args)=>CallX P C f args dst st K trivial
 |none=>Xfg P C (Xcq (ev st.t C.G) c) dst st K trivial
def Xej(P:Program)(C:Cx)(x:Option Call)(o:Oper)(st:St)(K:St->Prop)[Tag (C,o,st,K)](_:Prf x):Prop:=
 match (generalizing:=false) x with
 |some c=>XcY P C (callee (ev st.t C.G) c) c o.dst st K trivial
 |none=>Xb8 (opF P (Xgh C.off o.dst) st.k (ev st.t C.G) st.s o.op) (XR o.dst st.n) st.n (st.k+1) (λdst d u n k=>K (nx st dst d u n k)) trivial
def XaF(P:Program)(C:Cx)(o:Oper)(st:St)(K:St->Prop):Prop:=Xej P C (Vh o.op) o st K trivial
def Xgi(dst:Option Nat)(n k:Nat)(f:Option Nat->Nat->Nat->Prop)[Tag f](_:Prf dst):Prop:=f dst n k
def Kc(d:D)(r:Nat)(want:Bool)(st:St)(x y:St->Prop)[Tag (st,x,y)](_:Prf d):Prop:=match (generalizing:=false) d with
 |.v (.bool b)=>VG b (if want then x st else y st) (if want then y st else x st)
 |.v (.tuple _)=>y st
 |_=>False
def Xfh(r:Option Nat)(want:Bool)(st:St)(x y:St->Prop)[Tag (st,x,y)](_:Prf r):Prop:=match (generalizing:=false) r with
 |some r=>Kc (st.t r) r want st x y trivial
 |none=>False
def XbG(full:Array Oper)(o:Oper)(st:St)(x y:St->Prop):Prop:=
 match o.guard with
 |none=>x st
 |some (g,want)=>Xfh ((full[g]?).bind (·.dst)) want st x y trivial
def Xb9(d:D)(c:Operand)(st:St)(x y:St->Prop)[Tag (c,st,x,y)](_:Prf d):Prop:=match (generalizing:=false) d with
 |.v (.bool b)=>VG b (x st) (y st)
 |_=>False
def Xca:Nat->List It->Option (List It)
 |_,[]=>none
 |id,.blk j::k=>if id=j then some k else Xca id k
 |id,_::k=>Xca id k
def XiY(x:Option (List It))(f:List It->Prop)[Tag f](_:Prf x):Prop:=match (generalizing:=false) x with
 |some k=>f k
 |none=>False
def run(P:Program)(C:Cx)(R:St->Prop):Nat->List It->St->Prop
 |0,_,_=>False
 |_+1,[],st=>R st
 |_+1,.stop Q::_,st=>Q st
 |n+1,.blk _::k,st=>run P C R n k st
 |n+1,.ops _ []::k,st=>run P C R n k st
 | n+1,.ops full (o::rest)::k,st=>XbG full o st
     (λst=>XaF P C o st (run P C R n (.ops full rest::k)))
     (λst=>Xgi (XR o.dst st.n) st.n (st.k+1) (λdst m j=>run P C R n (.ops full rest::k) (nx st dst (.v undef) [] m j)) trivial)
 |n+1,.code .skip::k,st=>run P C R n k st
 |n+1,.code (.seq x y)::k,st=>run P C R n (.code x::.code y::k) st
 |n+1,.code (.cond c x y)::k,st=>Xb9 (ev st.t C.G c) c st (run P C R n (.code x::k)) (run P C R n (.code y::k)) trivial
 |n+1,.code (.block id c)::k,st=>run P C R n (.code c::.blk id::k) st
 |n+1,.code (.scope c)::k,st=>run P C R n (.code c::k) st
 |n+1,.code (.label _)::k,st=>run P C R n k st
 |n+1,.code (.exit id)::k,st=>XiY (Xca id k) (λe=>run P C R n e st) trivial
 |_+1,.code .ret::_,st=>R st
 |_+1,.code (.loop c)::k,st=>LoopG P C R c k st trivial
 |n+1,.code (.region _ ops false)::k,st=>run P C R n (.ops ops ops.toList::k) st
 |_+1,.code (.region id ops true)::k,st=>DrawnG P C R id ops k st trivial
 |_+1,.code _::_,_=>False
def VH{C:Cx}{R:AW}{id:Nat}:∀{k f:List It} {a:Act} {w:World},Xca id k=some f->sem P C R f none a w->sem P C R k (some id) a w
 |[],f,a,w,h,_=>by simp_all[Xca]
 |.blk j::k,f,a,w,h,g=>by
  unfold Xca at h;unfold sem;split at h
  .simp_all
  rename_i e;rw[Wk e];exact VH h g
 |.code c::k,f,a,w,h,g=>by unfold sem;exact VH h g
 |.ops _ _::k,f,a,w,h,g=>by unfold sem;exact VH h g
 |.stop _::k,f,a,w,h,g=>by unfold sem;exact VH h g
def Ox{C:Cx}{st:St}{a:Act}{w':World}{s':Heap}{l:Nat}{M':Mem}{β':Loc}{M:Mem}{β:Loc}{d:D}{v:Value}{dst:Option Nat}(g:a.defers=C.df)(q:a.tmps.size=st.n)(h:BLe C.b0 β)(j:∀x,Rep P M β (st.t x) (a.tmps.getD x undef))(k:MLe M M')(f:BLe β β')(I:UY P C s' (·<l) M' β' w')(r:Rep P M' β' d v):Rel P C (nxS st (XR dst st.n) d s' st.n l) (a.put dst v) w':=by
 cases dst with
 |none=>exact⟨g,q,M',β',h.trans f,λx=>(j x).mono k f,I⟩
 |some x=>
  by_cases o:x<st.n
  .simp only[XR,Wq o];refine⟨g,by simp_all[nxS,Act.put],M',β',h.trans f,λi=>?_,I⟩;simp only[nxS,upd,Act.put];by_cases p:i=x
   .simp_all
   rw[Wk p];have e:(a.tmps.setIfInBounds x v).getD i undef=a.tmps.getD i undef:=by simp[Ne.symm p]
   rw[e];exact(j i).mono k f
  simp only[XR,Wk o];refine⟨g,by simp_all[nxS,Act.put],M',β',h.trans f,λi=>?_,I⟩;have e:a.put (some x) v=a:=by simp only[Act.put];rw[Array.setIfInBounds_eq_of_size_le aa]
  rw[e];exact(j i).mono k f
def Rel.put{C:Cx}{st:St}{a:Act}{w':World}{u:Up}{e:Nat}{M':Mem}{β':Loc}{M:Mem}{β:Loc}{d:D}{v:Value}{dst:Option Nat}(f:a.defers=C.df)(g:a.tmps.size=st.n)(h:BLe C.b0 β)(j:∀x,Rep P M β (st.t x) (a.tmps.getD x undef))(k:MLe M M')(l:BLe β β')(I:UY P C (app st.s u) (·<e) M' β' w')(o:Rep P M' β' d v):Rel P C (nx st (XR dst st.n) d u st.n e) (a.put dst v) w':=Ox f g h j k l I o
def XbH:wfV undef:=by simp[undef,wfV]
def Xcb{g:FuncId}{va vb vs:List Value}{w:World}:(Deferred.ofValue (.func (.func g) ⟨va⟩ ⟨vb⟩) ⟨vs⟩).run P w=.ok {target:=.fn (.func g) ⟨vb⟩,args:=⟨va++vs⟩} w:=by simp[Deferred.ofValue,pure,Sem.run]
def RepL.map{M:Mem}{β:Loc}{t:Operand->D}{ρ:Operand->Value}(h:∀x,Rep P M β (t x) (ρ x)):∀l:List Operand,RepL P M β (l.map t) (l.map ρ)
 |[]=>by rfl
 |x::l=>by exact⟨_,_,rfl,h x,RepL.map h l⟩
def V7{ρ:Operand->Value}{o:Oper}{c:Call}(f:o.op=.call c){x:Operand}(k:c.callee=.value x){g:FuncId}{va vb:List Value}(l:ρ x=.func (.func g) ⟨va⟩ ⟨vb⟩){fn:Func}(p:P.funcs[g]? = some fn)(hb:fn.body.isNone=false)(q:(fn.name== "runtime.NumGoroutine")=false)(w:World):
 (execOp ρ o).run P w=.ok (.enter g ⟨va++(c.args.toList.map ρ++vb)⟩) w:=by
 unfold execOp;simp only[f,resolve,k,l];have e:c.args.map ρ=⟨c.args.toList.map ρ⟩:=by rw[←Array.toList_inj];simp
 have h:¬fn.name = "runtime.NumGoroutine":=by simpa using q
 have j:¬fn.body=none:=by intro r;rw[r]at hb;simp at hb
 simp[go_sem,Xcb,invoke,callFunc,p,j,h]
def XhT{ρ:Operand->Value}{o:Oper}{c:Call}(f:o.op=.call c){x:Operand}(g:c.callee=.value x){l:Nat}(h:ρ x=.func (.yield l) #[] #[]){w:World}{n:Next}(j:(Instr.yield l ⟨c.args.toList.map ρ⟩).run P w=.ok n w):(execOp ρ o).run P w=.ok n w:=by
 unfold execOp;simp only[f,resolve,g,h];have e:c.args.map ρ=⟨c.args.toList.map ρ⟩:=by rw[←Array.toList_inj];simp
 rw[e];simp[go_sem,Deferred.ofValue,pure,invoke,j]
section
variable {C:Cx}{st:St}{a:Act}{w:World}
mutual
def scal_imp{ver n:Nat}:∀{d:D},scal d=true->imp ver n d=(d,n,[])
 |.any,_=>by rfl
 |.v x,_=>by rfl
 |.agg e,h=>by simp_all[scal,imp,XbI,h]
 |.tup e,h=>by simp_all[scal,imp,XbI,h]
 |.nsl,h=>by rfl
 |.isl ..,h=>by rfl
 |.osl ..,h=>by rfl
 |.ept ..,h=>by rfl
 |.ipt ..,h=>by rfl
 |.clo ..,h=>by simp_all[scal]
 |.ifc ..,h=>by simp_all[scal]
 |.fsl ..,h=>by simp_all[scal]
 |.fmp ..,h=>by simp_all[scal]
 |.omp ..,h=>by rfl
def XbI{ver n:Nat}:∀{e:List D},JV e=true->Vw ver n e=(e,n,[])
 |[],_=>by rfl
 |d::e,h=>by simp_all[JV,W9,Vw,scal_imp,h,XbI,If]
end
def Xli(s:Heap)(ids fz:List Nat)(r:D)(e:List Ob)(ver n:Nat)(f:∀id∈ids,∃v o,s id=some (v,o)):(aft s ids fz r e ver n).1=(Jb s ids fz r e ver n).1/\app s (aft s ids fz r e ver n).2=(Jb s ids fz r e ver n).2:=by
 unfold aft Jb;by_cases h:(scal r&&e.all VE)=true
 .simp only[h,if_true];simp at h;rw[scal_imp h.1];exact⟨rfl,rfl⟩
 simp[h,U9,if_false,Ze,VC]
def Xgj{ρ:Operand->Value}{o:Oper}{x:Option Nat}:execOp ρ {o with dst:=x}=execOp ρ o:=by rfl
def CallX.c{K:St->Prop}{f:FuncId}{args:List D}{dst:Option Nat}(h:XhS P C.G f (Zi st.s args) (λids fz r q=>
 XqF (aft st.s ids fz r q st.k (64*(C.off+dst.getD 0))) (XR dst st.n) st.n (st.k+1) (λdst d u n k=>K (nx st dst d u n k)) trivial) trivial)(t:Prf args):CallX P C f args dst st K t:=by
 unfold XhS at h;split at h
 .rename_i cc as ids obs fz g;have⟨y,eargs,R,l,L,A⟩:=h;have⟨⟨fn,N,B,O⟩,_⟩:=id L;refine⟨⟨fn,N,B,O⟩,λM β w vs h0 I j=>?_⟩;have p:∀id∈ids,∃v o,st.s id=some (v,o):=by
   unfold Zi at g;split at g
   .rename_i S;split at g
    .simp only[Wt,Wy]at g;obtain⟨_,_,rfl,_,_⟩:=g;intro id H;obtain⟨v,E,z,cs,fz,T⟩:=(Zb S ⟨ab,ab⟩).2 id H;exact⟨_,_,T⟩
    cases g
   cases g
  refine(XiV I (ver:=st.k) aa j g y l L (64*(C.off+dst.getD 0))).mono ?_;rintro e w' ⟨v,r,q,M',β',rfl,V,I',J,W,Y⟩;have⟨Z,e2⟩:=Xli st.s ids fz r q st.k (64*(C.off+dst.getD 0)) p;rw[←Z]at J;rw[←e2]at I';exact⟨v,_,_,st.k+1,M',β',rfl,I'.mono λv J=>aa,J,W,Y,A r q V⟩
 simp_all
def Xek{o:Oper}{K:St->Prop}{K':AW}{Q:Exit->AW}(hr:Rel P C st a w)(h:XaF P C o st K)(hK:∀st a w,Rel P C st a w->K st->K' a w):o.wpIn (fz C.rd) 0 P a w K' Q:=by
 have B:∀c,o.op≠.defer c:=by intro c e;unfold XaF Xej at h;rw[e]at h;simp[Vh,opF,Xb8]at h
 have⟨O,R,M,β,H,N,I⟩:=hr;have r:=XcU I N;unfold XaF Xej at h;split at h
 .rename_i c W;have z:o.op=.call c:=by
   unfold Vh at W;split at W
   .grind
   grind
  unfold XcY at h;split at h
  .rename_i f args j;have⟨⟨fn,hf,S,hn⟩,hX⟩:=h;unfold callee at j;split at j
   .rename_i x T;split at j
    .rename_i g first caps y
     obtain⟨rfl,rfl⟩:=j;have q:=r x;rw[y]at q;have⟨Y,Z,q,ha,hb⟩:=q;refine Xlh B ?_;unfold Oper.wp;rw[V7 z T q hf S hn w];have D:RepL P M β (first++(c.args.toList.map (ev st.t C.G)++caps)) (Y++(c.args.toList.map a.eval++Z)):=
      ha.append ((RepL.map r _).append hb)
     refine(hX M β w _ H I D).mono ?_;rintro e w' ⟨v,d,s',k',M',β',rfl,I',E,J,L,V⟩;exact hK _ _ _ (Ox O R H N J L I' E) V
    cases j
   simp_all
  unfold Xfg at h;split at h;rotate_left
  .exact h.elim
  rename_i l args j;unfold Xcq at j;split at j
  .rename_i x T;split at j
   .rename_i l' y;obtain⟨rfl,rfl⟩:=j;have q:=r x;rw[y]at q;obtain⟨Y,Z,q,rfl,rfl⟩:=q;obtain⟨f,tmps,assign,body,hy,hR⟩:=h M β w _ H I (RepL.map r _);refine⟨λ_ _=>trivial,?_⟩;rw[Oper.semAt_eq _ _ _ B,XhT z T q hy,Oper.uponIn_round];refine⟨λe=>(by cases e),hR.mono ?_⟩;rintro e w' ⟨v,d,s',k',M',β',rfl,I',E,J,L,V⟩;exact hK _ _ _ (Ox O R H N J L I' E) V
   cases j
  simp_all
 refine Xlh B ?_;unfold Xb8 at h;split at h
 .rename_i c d u z;have:=Xlg I (ver:=st.k) aa {o with dst:=Xgh C.off o.dst} a.eval (ev st.t C.G) r (λ_=>rfl) z h.1;obtain⟨M',β',w',v,p,I',E,J,L⟩:=this;rw[Xgj]at p;have A:Rel P C (nx st (XR o.dst st.n) d u st.n (st.k+1)) (a.put o.dst v) w':=Rel.put O R H N J L (I'.mono λv E=>by show v<st.k+1;omega) E;unfold Oper.wp;rcases p with p|⟨p,rfl⟩
  .rw[p];exact hK _ _ _ A h.2
  rw[p];exact hK _ _ _ A h.2
 simp_all
def Rel.bump(e:Rel P C st a w)(dst:Option Nat):Rel P C (nx st (XR dst st.n) (.v undef) [] st.n (st.k+1)) (a.put dst undef) w:=by have⟨f,g,M,β,h,j,I⟩:=e;exact Rel.put (u:=[]) f g h j (MLe.refl _) (BLe.refl _) (I.mono λv l=>aa) (by simp[Rep,XbH])
def Rel.bool(e:Rel P C st a w){r:Nat}{b:Bool}(hb:st.t r=.v (.bool b)):a.tmps.getD r undef=.bool b:=by have⟨g,h,M,β,j,f,I⟩:=e;have:=f r;simp_all[hb,Rep]
def Rel.tuple(e:Rel P C st a w){r:Nat}{vs:Array Value}(hb:st.t r=.v (.tuple vs)):a.tmps.getD r undef=.tuple vs:=by have⟨g,h,M,β,j,f,I⟩:=e;have:=f r;simp_all[hb,Rep]
def Xj4{full:Array Oper}{o:Oper}{x y:St->Prop}(q:Rel P C st a w)(h:XbG full o st x y):
 (Region.wanted o (yielded full a.tmps)=true->x st)/\(Region.wanted o (yielded full a.tmps)=false->y st):=by
 unfold XbG at h;split at h
 .rename_i l;have hw:Region.wanted o (yielded full a.tmps)=true:=by unfold Region.wanted;rw[l]
  simp_all
 rename_i g want l;unfold Xfh at h;split at h
 .rename_i r j;unfold Kc at h;split at h
  .rename_i b hb;have f:=q.bool hb;have p:yielded full a.tmps g=some b:=by
    unfold yielded;rw[j];simp only[Of];by_cases k:r<a.tmps.size
    .have:a.tmps[r]? = some (.bool b):=by simp[k]at f;simp[k,f]
     rw[this]
    simp[k,undef]at f
   have hw:Region.wanted o (yielded full a.tmps)=(some b==some want):=by unfold Region.wanted;rw[l];simp only;rw[p]
   rw[hw];have⟨ht,u⟩:=h;cases b
   .cases want<;>simpa using u
   cases want<;>simpa using ht
  .rename_i v hb;have f:=q.tuple hb;have p:yielded full a.tmps g=none:=by
    unfold yielded;rw[j];simp only[Of];by_cases k:r<a.tmps.size
    .have:a.tmps[r]? = some (.tuple v):=by simp[k]at f;simp[k,f]
     rw[this]
    have:a.tmps[r]? = none:=by simp;omega
    rw[this]
   have hw:Region.wanted o (yielded full a.tmps)=false:=by unfold Region.wanted;rw[l];simp only;rw[p];rfl
   rw[hw];exact⟨λe=>(by cases e),λ_=>h⟩
  exact h.elim
 simp_all
def Ym{R:St->Prop}:∀(n:Nat) (k:List It) {st:St} {a:Act} {w:World},Rel P C st a w->run P C R n k st->sem P C (Z8 P C R) k none a w
 |0,k,st,a,w,_,h=>by unfold run at h;simp_all
 |n+1,[],st,a,w,f,h=>by exact⟨st,f,h⟩
 |n+1,.stop Q::k,st,a,w,f,h=>by exact⟨st,f,h⟩
 |n+1,.blk _::k,st,a,w,f,h=>by exact Ym n k f h
 |n+1,.ops full []::k,st,a,w,f,h=>by exact Ym n k f h
 |n+1,.ops full (o::rest)::k,st,a,w,f,h=>by
  have⟨r,u⟩:=Xj4 f h;refine wpListIn_step λK hK=>?_;split
  .rename_i hw;exact Xek f (r hw) λv D w2 p j=>hK _ _ (Ym n (.ops full rest::k) p j)
  exact⟨λ_ _=>trivial,hK _ _ (Ym n (.ops full rest::k) (f.bump o.dst) (u (by simp_all)))⟩
 |n+1,.code .skip::k,st,a,w,f,h=>by exact wpIn_skip (Ym n k f h)
 |n+1,.code (.seq x y)::k,st,a,w,f,h=>by refine wpIn_seq ?_;refine wpIn_mono (Ym n (.code x::.code y::k) f h) ?_;intro e q w' g;cases e<;>exact g
 |n+1,.code (.cond c x y)::k,st,a,w,f,h=>by
  unfold run Xb9 at h;split at h
  .rename_i b hb;have j:a.eval c=.bool b:=by obtain⟨E,j,M,β,G,z,I⟩:=f;have:=XcU I z c;rw[hb]at this;simp only[Rep]at this;exact this.1
   refine wpIn_cond_split j (λe=>?_) (λe=>?_)
   .exact Ym n (.code x::k) f (h.1 e)
   exact Ym n (.code y::k) f (h.2 e)
  simp_all
 |n+1,.code (.block id c)::k,st,a,w,f,h=>by
  refine wpIn_block ?_;refine wpIn_mono (Ym n (.code c::.blk id::k) f h) ?_;intro e q w' g;cases e with
  |exit i=>
   simp only[Exit.inBlock];have g:sem P C (Z8 P C R) (.blk id::k) (some i) q w':=g;unfold sem at g;split at g<;>rename_i e
   .rw[Wq e];exact g
   rw[Wk e];exact g
  |_=>exact g
 |n+1,.code (.scope c)::k,st,a,w,f,h=>by refine XhR (wpIn_mono (Ym n (.code c::k) f h) ?_);intro e q w' g;cases e<;>exact g
 |n+1,.code (.label l)::k,st,a,w,f,h=>by exact wpIn_label (Ym n k f h)
 |n+1,.code (.exit id)::k,st,a,w,f,h=>by
  unfold run XiY at h;split at h
  .rename_i A B;exact wpIn_exit (VH B (Ym n A f h))
  simp_all
 |n+1,.code .ret::k,st,a,w,f,h=>by exact wpIn_ret ⟨st,f,h⟩
 |n+1,.code (.loop c)::k,st,a,w,f,h=>by exact h a w f
 |n+1,.code (.region id ops false)::k,st,a,w,f,h=>by exact wpIn_region_list (Ym n (.ops ops ops.toList::k) f h)
 |n+1,.code (.region id ops true)::k,st,a,w,f,h=>by exact h a w f
 |n+1,.code (.rangeFunc ..)::k,st,a,w,f,h=>by unfold run at h;simp_all
 |n+1,.code (.goto ..)::k,st,a,w,f,h=>by unfold run at h;simp_all
 |n+1,.code (.refuse ..)::k,st,a,w,f,h=>by unfold run at h;simp_all
def LoopG.of{R:St->Prop}{c:Code}{k:List It}(I:Nat->St->Prop)(m n:Nat)(q:I n st)(round:∀n st,I n st->run P C R m (.code c::.stop (λf=>∃g,g<n/\I g f)::k) st)(t':Prf c):LoopG P C R c k st t':=by
 intro a w h;refine Vt (λn a w=>∃st,Rel P C st a w/\I n st) n ⟨st,h,q⟩ ?_;rintro n a w ⟨st,h,u⟩;refine wpIn_mono (Ym m _ h (round n st u)) ?_;intro e A w' p;cases e with
 |normal=>have⟨f,j,g,y,o⟩:=p;exact⟨g,y,f,j,o⟩
 |_=>exact p
def LoopU(P:Program)(C:Cx)(R:St->Prop)(c:Code)(k:List It)(n:Nat)(st:St)[Tag (C,R,c,k,st)](_:Prf c):Prop:=
 ∀a w,Rel P C st a w->Code.roundsIn (fz C.rd) 0 P c (VF (Z8 P C R) (sem P C (Z8 P C R) k)) n a w
def OH{R:St->Prop}{c:Code}{k:List It}{st:St}(n:Nat)(h:LoopU P C R c k n st trivial)(t':Prf c):LoopG P C R c k st t':=
 λa w e=>wpIn_loop_rounds n (h a w e)
def LoopU.s{R:St->Prop}{c:Code}{k:List It}{st:St}{n:Nat}(m:Nat)(h:run P C R m (.code c::.stop (λf=>LoopU P C R c k n f trivial)::k) st)(t':Prf c):LoopU P C R c k (n+1) st t':=by
 intro a w l;refine wpIn_mono (Ym m _ l h) ?_;intro e o w' j;cases e with
 |normal=>have⟨f,g,p⟩:=j;exact p o w' g
 |_=>exact j
end
variable {P:Program}
mutual
def shut(s:Heap)(h:List Nat):D->Option (Prop×D×List Nat×List Nat)
 |.osl id ver z off len=>match s id with
  |some (f,.arr false E p g fz)=>if ver=f/\z=p then
   (if id∈h then some (off=0/\fz=0/\len<=g.length,.fsl E z (g.take len),[],[id])
    else some (off+len<=g.length,.isl E z ((g.drop off).take len),[id],[]))else none
  |_=>none
 |.omp id ver=>match s id with
  |some (f,.mp k g)=>if ver=f/\id∈h then some (True,.fmp k (g.map (·.1)) (g.map (·.2)),[],[id])else none
  |_=>none
 |.agg j=>match Xcc s h j with
  |some (c,o,l,m)=>some (c,.agg o,l,m)
  |none=>none
 |.tup j=>match Xcc s h j with
  |some (c,o,l,m)=>some (c,.tup o,l,m)
  |none=>none
 |.clo fn a b=>match Xcc s h a,Xcc s h b with
  |some (c,q,l,m),some (r,u,y,A)=>some (c/\r,.clo fn q u,l++y,m++A)
  |_,_=>none
 |.ifc t d=>match shut s h d with
  |some (c,e,l,m)=>some (c,.ifc t e,l,m)
  |none=>none
 |.any=>some (True,.any,[],[])
 |.v x=>some (True,.v x,[],[])
 |.nsl=>some (True,.nsl,[],[])
 |.isl E z g=>some (True,.isl E z g,[],[])
 |.ipt z j c=>some (True,.ipt z j c,[],[])
 |_=>none
def Xcc(s:Heap)(f:List Nat):List D->Option (Prop×List D×List Nat×List Nat)
 |[]=>some (True,[],[],[])
 |d::g=>match shut s f d,Xcc s f g with
  |some (c,e,l,m),some (h,j,k,o)=>some (c/\h,e::j,l++k,m++o)
  |_,_=>none
end
def Blk(β:Loc)(s:Heap)(m:List Nat)(e:List (Option (Nat×Nat))):Prop:=
 ∃f:List (Nat×Nat×Option (Nat×Nat)),f.map (·.1)=m/\f.map (·.2.2)=e/\∀x∈f,β x.1 x.2.1=some x.2.2/\∃ob,s x.1=some (x.2.1,ob)
section
variable {C:Cx}{s:Heap}{U:Nat->Prop}{M M':Mem}{β:Loc}{w:World}
def Blk.nil:Blk β s [] []:=⟨[],rfl,rfl,ab⟩
def Blk.append{m e:List Nat}{b j:List (Option (Nat×Nat))}(h:Blk β s m b)(k:Blk β s e j):Blk β s (m++e) (b++j):=by have⟨f,l,o,p⟩:=h;have⟨g,k1,k2,q⟩:=k;refine⟨f++g,by simp[l,k1],by simp[o,k2],λx r=>?_⟩;grind
def OJ{x:Option (Nat×Nat)}{E z:Nat}{f:List (List D)}(h:ObRep P M β w x (.arr false E z f 0))(n:Nat):ObRep P M β w x (.arr false E z (f.take n) 0):=by
 cases x with
 |none=>simp_all[ObRep]
 |some B=>
  have⟨j,T,k,o,p,G,H,q,I,r,u,g⟩:=h;have v:(f.take n).length<=f.length:=by simp;omega
  refine⟨j,T,k,o,λe y=>p e (WY y),aa,aa,Uq (W5 _ v) q,aa,r,u,λi d hd=>g i d ?_⟩;have⟨l,A⟩:=List.take_prefix n f;grind
mutual
def shut_rep{T:List Nat}(I:UY P C s U M β w)(L:MLe M M')(I':UY P C (frz s T) U M' β w)(V:Frz s M' β w T){fr:List Nat}(q:∀i∈fr,i∉T):
 ∀{d r:D} {c:Prop} {l m:List Nat},shut s fr d=some (c,r,l,m)->c->(∀i∈l,i∈T)->∀{y:Value},Rep P M β d y->∃B,FrRep P M' w C.w0.heap.size r y B/\Blk β s m B
 |.osl id ver z off len,r,c,l,m,h,g,j,y,f=>by
  unfold shut at h;split at h
  .rename_i W E z' G fz H;split at h
   .rename_i e;have⟨rfl,rfl⟩:=e;split at h
    .rename_i N;obtain⟨rfl,rfl,rfl,rfl⟩:=h;obtain⟨rfl,rfl,hle⟩:=g;have O:frz s T id=some (ver,.arr false E z G 0):=by unfold frz;rw[Wk (q id N)];exact H
     have⟨x,u,A⟩:=I'.obs id ver _ O;have A:=OJ A len;rcases f with⟨p,_,J,a,rfl⟩|⟨b,K,o,cap,p,rfl,J,h3,h4⟩
     .rw[p]at u;refine⟨[none],?_,[(id,ver,none)],rfl,rfl,?_⟩
      .simp only[FrRep];exact .inl ⟨trivial,WN ah,a,rfl⟩
      intro x u;simp at u;subst u;exact⟨p,_,H⟩
     rw[p]at u;obtain rfl:some (b,K)=x:=by simpa using u
     refine⟨[some (b,K)],?_,[(id,ver,some (b,K))],rfl,rfl,?_⟩
     .refine .inr ⟨b,K,o,rfl,?_,?_,?_,?_⟩
      .rcases I.own id ver _ b K H p with h|h
       .exact h
       simp[Ob.bx]at h
      .rw[show cap=K by omega,Wl,Ol hle]
      .rcases h4 with h|h
       .left;simpa using h
       omega
      exact A
     intro x u;simp at u;subst u;exact⟨p,_,H⟩
    obtain⟨rfl,rfl,rfl,rfl⟩:=h;have:=snap_rep (d:=.osl id ver z off len) (d':=.isl E z ((G.drop off).take len)) (c:=off+len<=G.length) (l:=[id]) I L (by simp[snap,H]) g (λi Y=>V i (j i Y)) f;exact⟨[],by simp only[FrRep];exact⟨trivial,this⟩,Blk.nil⟩
   cases h
  simp_all
 |.agg cs,r,c,l,m,h,g,j,y,f=>by
  unfold shut at h;split at h
  .rename_i R;obtain⟨rfl,rfl,rfl,rfl⟩:=h;simp only[Rep]at f;obtain⟨vs,rfl,f⟩:=f;obtain⟨B,p,J⟩:=JW I L I' V q R g j f;exact⟨B,by simp only[FrRep];exact⟨vs,rfl,p⟩,J⟩
  simp_all
 |.tup cs,r,c,l,m,h,g,j,y,f=>by
  unfold shut at h;split at h
  .rename_i R;simp only[Wt,Wy]at h;obtain⟨rfl,rfl,rfl,rfl⟩:=h;simp only[Rep]at f;obtain⟨vs,rfl,f⟩:=f;obtain⟨B,p,J⟩:=JW I L I' V q R g j f;exact⟨B,by simp only[FrRep];exact⟨vs,rfl,p⟩,J⟩
  simp_all
 |.clo fn a b,r,c,l,m,h,g,j,y,f=>by
  unfold shut at h;split at h
  .rename_i R hf;simp only[Wt,Wy]at h;obtain⟨rfl,rfl,rfl,rfl⟩:=h;simp only[Rep]at f;obtain⟨va,vb,rfl,hr1,hr2⟩:=f;obtain⟨B,p,J⟩:=JW I L I' V q R g.1 (λi Y=>j i (W6 _ Y)) hr1;obtain⟨Z,h3,h4⟩:=JW I L I' V q hf g.2 (λi Y=>j i (Ug _ Y)) hr2;exact⟨B++Z,by simp only[FrRep];exact⟨va,vb,rfl,B,Z,rfl,p,h3⟩,J.append h4⟩
  simp_all
 |.ifc t d,r,c,l,m,h,g,j,y,f=>by
  unfold shut at h;split at h
  .rename_i R;simp only[Wt,Wy]at h;obtain⟨rfl,rfl,rfl,rfl⟩:=h;simp only[Rep]at f;obtain⟨x,rfl,f⟩:=f;obtain⟨B,p,J⟩:=shut_rep I L I' V q R g j f;exact⟨B,by simp only[FrRep];exact⟨x,rfl,p⟩,J⟩
  simp_all
 |.any,r,c,l,m,h,g,j,y,f=>by simp only[shut,Wt,Wy]at h;obtain⟨rfl,rfl,rfl,rfl⟩:=h;exact⟨[],by rfl,Blk.nil⟩
 |.v x,r,c,l,m,h,g,j,y,f=>by simp only[shut,Wt,Wy]at h;obtain⟨rfl,rfl,rfl,rfl⟩:=h;exact⟨[],by simp_all[FrRep,Rep],Blk.nil⟩
 |.nsl,r,c,l,m,h,g,j,y,f=>by simp only[shut,Wt,Wy]at h;obtain⟨rfl,rfl,rfl,rfl⟩:=h;exact⟨[],by simp_all[FrRep,Rep],Blk.nil⟩
 |.isl E z G,r,c,l,m,h,g,j,y,f=>by simp only[shut,Wt,Wy]at h;obtain⟨rfl,rfl,rfl,rfl⟩:=h;have:=f.mono L (BLe.refl _);exact⟨[],by simp_all[FrRep,Rep],Blk.nil⟩
 |.ipt z cs k,r,c,l,m,h,g,j,y,f=>by simp only[shut,Wt,Wy]at h;obtain⟨rfl,rfl,rfl,rfl⟩:=h;have:=f.mono L (BLe.refl _);exact⟨[],by simp_all[FrRep,Rep],Blk.nil⟩
 |.ept ..,r,c,l,m,h,g,j,y,f=>by simp_all[shut]
 |.fsl ..,r,c,l,m,h,g,j,y,f=>by simp_all[shut]
 |.fmp ..,r,c,l,m,h,g,j,y,f=>by simp_all[shut]
 |.omp id ver,r,c,l,m,h,g,j,y,f=>by
  unfold shut at h;split at h
  .rename_i W k G H;split at h
   .rename_i S;obtain⟨rfl,N⟩:=S;simp only[Wt,Wy]at h;obtain⟨rfl,rfl,rfl,rfl⟩:=h;have O:frz s T id=some (ver,.mp k G):=by unfold frz;rw[Wk (q id N)];exact H
    obtain⟨x,u,A⟩:=I'.obs id ver _ O;simp only[Rep]at f;obtain⟨b,K,p,rfl⟩:=f;rw[p]at u;obtain rfl:some (b,K)=x:=by simpa using u
    obtain rfl:K=0:=A.1;refine⟨[some (b,0)],?_,[(id,ver,some (b,0))],rfl,rfl,?_⟩
    .simp only[FrRep];refine⟨b,rfl,?_,rfl,ab,?_⟩
     .rcases I.own id ver _ b 0 H p with h|h
      .exact h
      simp[Ob.bx]at h
     rw[show(G.map (·.1)).zip (G.map (·.2))=G by rw[List.zip_map'];simp];exact A
    intro x u;simp at u;subst u;exact⟨p,_,H⟩
   cases h
  simp_all
def JW{j:List Nat}(I:UY P C s U M β w)(z:MLe M M')(I':UY P C (frz s j) U M' β w)(A:Frz s M' β w j){B:List Nat}(e:∀i∈B,i∉j):
 ∀{p rs:List D} {c:Prop} {l m:List Nat},Xcc s B p=some (c,rs,l,m)->c->(∀i∈l,i∈j)->∀{k:List Value},RepL P M β p k->∃f,FrRepL P M' w C.w0.heap.size rs k f/\Blk β s m f
 |[],rs,c,l,m,h,q,r,k,o=>by obtain⟨rfl,rfl,rfl,rfl⟩:=h;simp only[RepL]at o;exact⟨[],by simp[FrRepL,o],Blk.nil⟩
 |d::p,rs,c,l,m,h,q,r,k,o=>by
  unfold Xcc at h;split at h
  .rename_i E G;obtain⟨rfl,rfl,rfl,rfl⟩:=h;obtain⟨x,H,rfl,u,v⟩:=o;have⟨f,J,K⟩:=shut_rep I z I' A e E q.1 (λi y=>r i (W6 _ y)) u;have⟨g,L,N⟩:=JW I z I' A e G q.2 (λi y=>r i (Ug _ y)) v;exact⟨f++g,by exact⟨x,H,f,g,rfl,rfl,J,L⟩,K.append N⟩
  simp_all
end
def Blk.nodup(I:UY P C s U M β w){m:List Nat}{z:List (Option (Nat×Nat))}(h:Blk β s m z)(A:m.Nodup):(X0 z).Nodup:=by
 obtain⟨f,rfl,rfl,k⟩:=h;induction f with
 |nil=>assumption
 |cons x f l=>
  simp at A;have l:=l A.2 λy p=>k y (Ul _ p);have⟨i,v,o⟩:=x;cases o with
  |none=>assumption
  |some D=>
   have⟨b,q⟩:=D;have e:X0 (((i,v,some (b,q))::f).map (·.2.2))=b::X0 (f.map (·.2.2)):=by simp[X0]
   rw[e,List.nodup_cons];refine⟨λhb=>?_,l⟩;simp only[X0,List.mem_filterMap,UM]at hb;obtain⟨o',⟨y,p,rfl⟩,hb⟩:=hb;have⟨j,B,o'⟩:=y;simp only[Ui]at hb;obtain⟨⟨r,g⟩,rfl,rfl⟩:=hb;have⟨E,ob,G⟩:=k (i,v,some (r,q)) ab;have⟨H,u,J⟩:=k (j,B,some (r,g)) (Ul _ p);have:=I.inj i v ob j B u r q g G J E H;simp_all
mutual
def fitsR:D->D->Prop
 |.nsl,.isl _ _ f=>f=[]
 |.nsl,.fsl _ _ f=>f=[]
 |.agg g,.agg h=>Vi g h
 |.tup g,.tup h=>Vi g h
 |.ifc t d,.ifc j e=>t=j/\fitsR d e
 |d,e=>d=e
def Vi:List D->List D->Prop
 |[],[]=>True
 |d::f,e::g=>fitsR d e/\Vi f g
 |_,_=>False
end
def RetG(r:D)(obs:List Ob)(R':D->List Ob->Prop):Prop:=∃e,fitsR r e/\R' e obs
mutual
def fitsR_refl:∀d:D,fitsR d d
 |.agg e=>by exact VJ e
 |.tup e=>by exact VJ e
 |.ifc t d=>by simp only[fitsR];exact⟨trivial,fitsR_refl d⟩
 |.nsl=>by rfl
 |.any=>by rfl
 |.v _=>by rfl
 |.isl ..=>by rfl
 |.osl ..=>by rfl
 |.ept ..=>by rfl
 |.ipt ..=>by rfl
 |.clo ..=>by rfl
 |.fsl ..=>by rfl
 |.fmp ..=>by rfl
 |.omp ..=>by rfl
def VJ:∀e:List D,Vi e e
 |[]=>by simp[Vi]
 |d::e=>by exact⟨fitsR_refl d,VJ e⟩
end
def RetG.same{r:D}{obs:List Ob}{R':D->List Ob->Prop}(h:R' r obs):RetG r obs R':=⟨r,fitsR_refl r,h⟩
mutual
def fitsR_rep{M:Mem}{w:World}{B:Nat}:∀{d e:D} {y:Value} {l:List (Option (Nat×Nat))},fitsR d e->FrRep P M w B d y l->∃g,FrRep P M w B e y g/\X0 g=X0 l
 |.nsl,e,y,l,h,f=>by
  cases e with
  |isl E z o=>grind[fitsR,FrRep,Rep,Xy]
  |fsl E z o=>subst h;obtain⟨rfl,a,rfl⟩:=f;refine⟨[none],?_,rfl⟩;simp[FrRep]
  |nsl=>grind
  |_=>simp[fitsR]at h
 |.agg p,e,y,l,h,f=>by
  cases e with
  |agg q=>simp only[FrRep]at f⊢;obtain⟨r,rfl,f⟩:=f;have⟨g,j,k⟩:=XaG h f;grind
  |_=>simp[fitsR]at h
 |.tup p,e,y,l,h,f=>by
  cases e with
  |tup q=>simp only[FrRep]at f⊢;obtain⟨r,rfl,f⟩:=f;have⟨g,j,k⟩:=XaG h f;grind
  |_=>simp[fitsR]at h
 |.ifc t d,e,y,l,h,f=>by
  cases e with
  |ifc u e=>have⟨rfl,h⟩:=h;simp only[FrRep]at f⊢;obtain⟨x,rfl,f⟩:=f;have⟨g,j,k⟩:=fitsR_rep h f;grind
  |_=>simp[fitsR]at h
 |.any,e,y,l,h,f=>by grind[fitsR]
 |.v x,e,y,l,h,f=>by grind[fitsR]
 |.isl a b c,e,y,l,h,f=>by grind[fitsR]
 |.ipt a b c,e,y,l,h,f=>by grind[fitsR]
 |.fsl a b c,e,y,l,h,f=>by grind[fitsR]
 |.fmp a b c,e,y,l,h,f=>by grind[fitsR]
 |.clo a b c,e,y,l,h,f=>by grind[fitsR]
 |.osl ..,e,y,l,h,f=>by simp_all[FrRep]
 |.ept ..,e,y,l,h,f=>by simp_all[FrRep]
 |.omp ..,e,y,l,h,f=>by simp_all[FrRep]
def XaG{M:Mem}{w:World}{B:Nat}:∀{j f:List D} {g:List Value} {l:List (Option (Nat×Nat))},Vi j f->FrRepL P M w B j g l->∃p,FrRepL P M w B f g p/\X0 p=X0 l
 |[],f,g,l,h,q=>by grind[Vi]
 |d::j,f,g,l,h,q=>by
  cases f with
  |nil=>simp_all[Vi]
  |cons e f=>obtain⟨x,y,z,A,rfl,rfl,r,u⟩:=q;have⟨k,k1,k2⟩:=fitsR_rep h.1 r;have⟨o,E,v⟩:=XaG h.2 u;exact⟨k++o,by grind[FrRepL],by simp[X7,k2,v]⟩
end
def Xa7:Nat->Nat->List Nat
 |_,0=>[]
 |k,n+1=>(LB+k)::Xa7 (k+1) n
def V8:∀(n k j:Nat),j<n->(Xa7 k n)[j]? = some (LB+(k+j))
 |0,_,_,h=>by omega
 |n+1,k,0,_=>by rfl
 |n+1,k,j+1,h=>by simp only[Xa7,List.getElem?_cons_succ];rw[V8 n (k+1) j aa];grind
def KW:∀(n k:Nat),(Xa7 k n).length=n
 |0,_=>rfl
 |n+1,k=>by simp[Xa7,KW n (k+1)]
def Xov(s:Heap):List Nat->Prop
 |[]=>True
 |i::l=>(s i).map (·.1)=some 0/\Xov s l
def Xgk{s:Heap}:∀{l:List Nat} {j i:Nat},Xov s l->l[j]? = some i->(s i).map (·.1)=some 0
 |[],j,i,_,h=>by grind
 |x::l,0,i,e,h=>by simp at h;subst h;exact e.1
 |x::l,j+1,i,e,h=>Xgk e.2 (by simpa using h)
def Xlj(st:St)(P:Program):ResultVar->Option (Prop×D)
 |.tmp t=>some (True,st.t t)
 |.cell a T=>match Xu P T,Xe3 st.s (st.t a)with
  |some ty,some (c,e,o,z)=>if o+ty.size<=z/\(ty.isAgg=true\/ty.size=1)then some (c,Ji ty.isAgg ((e.drop o).take ty.size))else none
  |_,_=>none
def Xgl(st:St)(P:Program):List ResultVar->Option (Prop×List D)
 |[]=>some (True,[])
 |x::l=>match Xlj st P x,Xgl st P l with
  |some (c,d),some (e,f)=>some (c/\e,d::f)
  |_,_=>none
def XhU:List D->D
 |[d]=>d
 |e=>.tup e
def JM(P:Program)(results:List ResultVar)(g:List Nat)(h:Nat)(R':D->List Ob->Prop)(st:St):Prop:=
 match Xgl st P results with
 |some (c,j)=>match shut st.s g (XhU j),Jl st.s (Xa7 0 h)with
  |some (k,r,e,l),some (o,obs,f)=>c/\k/\o/\Xov st.s (Xa7 0 h)/\l.Nodup/\(∀i∈g,i∉e++f)/\RetG r obs R'
  |_,_=>False
 |none=>False
end
variable {P:Program}
section
variable {C:Cx}{s:Heap}{U:Nat->Prop}{M:Mem}{β:Loc}{w:World}
def XcZ(tmps:Array Value):ResultVar->Sem Value
 |.tmp t=>pure (tmps.getD t undef)
 |.cell a t=>do loadVar t (←asAddr (tmps.getD a undef))
def Xow{st:St}(I:UY P C st.s U M β w){tmps:Array Value}(k:∀x,Rep P M β (st.t x) (tmps.getD x undef)){x:ResultVar}{c:Prop}{d:D}(h:Xlj st P x=some (c,d))(o:c):
 ∃v,(XcZ tmps x).run P w=.ok v w/\Rep P M β d v:=by
 cases x with
 |tmp t=>obtain⟨rfl,rfl⟩:=h;exact⟨_,rfl,k t⟩
 |cell a T=>
  simp only[Xlj]at h;split at h
  .rename_i p q;split at h
   .rename_i e;obtain⟨rfl,rfl⟩:=h;have⟨b,r,u,g,f⟩:=XiO I q o (k a);obtain⟨v,y,j⟩:=XcQ p w M β b r _ _ _ g e.1 f (λl=>by rcases e.2 with h|h;(rw[h]at l;cases l);exact h);refine⟨v,?_,j⟩;unfold XcZ;simp only;rw[u];simp[asAddr,y]
   cases h
  simp_all
def XiZ{st:St}{f:ResultVar->Sem Value}(k:∀x c d,Xlj st P x=some (c,d)->c->∃v,(f x).run P w=.ok v w/\Rep P M β d v):∀{l:List ResultVar} {c:Prop} {e:List D},Xgl st P l=some (c,e)->c ->
 ∃g,(l.mapM f).run P w=.ok g w/\RepL P M β e g
 |[],c,e,h,j=>by simp_all[Xgl,Wt,Wy,RepL]
 |x::l,c,e,h,j=>by
  unfold Xgl at h;split at h
  .rename_i o p;obtain⟨rfl,rfl⟩:=h;have⟨v,q,r⟩:=k _ _ _ o j.1;have⟨g,u,y⟩:=XiZ k p j.2;refine⟨v::g,?_,by exact⟨_,_,rfl,r,y⟩⟩;simp only[List.mapM_cons,Sem.run_bind,Result.andThen_ok,Sem.run_pure,u,q]
  simp_all
def Vj{st:St}(I:UY P C st.s U M β w){tmps:Array Value}(p:∀x,Rep P M β (st.t x) (tmps.getD x undef)){fn:Func}{l:List ResultVar}(q:fn.results=⟨l⟩){c:Prop}{ds:List D}(h:Xgl st P l=some (c,ds))(o:c):
 ∃v,(results fn tmps).run P w=.ok v w/\Rep P M β (XhU ds) v:=by
 have⟨g,r,j⟩:=XiZ (f:=XcZ tmps) (λx c d u o=>Xow I p u o) h o;have y:(fn.results.mapM (XcZ tmps)).run P w=.ok g.toArray w:=by rw[q,Array.mapM_eq_mapM_toList];simp only[Sem.run_map,r,Result.andThen_ok]
 have e:(results fn tmps).run P w=.ok (if h:g.toArray.size=1 then g.toArray[0]else .tuple g.toArray) w:=by show((fn.results.mapM (XcZ tmps)) >>= λg=>pure (if h:g.size=1 then g[0]else .tuple g):Sem Value).run P w=_;simp only[Sem.run_bind,y,Result.andThen_ok,Sem.run_pure]
 refine⟨_,e,?_⟩;have k:=j.length;match ds,g,j,k with
 |[d],[v],j,_=>simp_all[RepL,XhU]
 |[],[],j,_=>simp[XhU,Rep,RepL]
 |d::A::ds,v::z::g,j,_=>
  have:¬(v::z::g).toArray.size=1:=by simp
  simp_all[dif_neg,this,XhU,Rep]
def Xel{s:Heap}:∀{ids:List Nat}{r},Jl s ids=some r->∀id∈ids,∃v E z f fz,s id=some (v,.arr true E z [f] fz)
 |[],r,h,id,e=>by simp_all
 |i::ids,r,h,id,e=>by
  unfold Jl at h;split at h
  .rename_i v E z f fz g;split at h
   .rename_i k j;rcases UT.1 e with rfl|e
    .exact⟨_,_,_,_,_,g⟩
    exact Xel j id e
   cases h
  simp_all
def st0(args:List D)(lent:List Ob)(n:Nat):St:=⟨λi=>(args[i]?).getD (.v undef),Jk lent,n,1⟩
def XbJ{G:Nat->Option (List D)}{lb:List (Nat×Nat)}{lent:List Ob}(Y:MemOK M w)(hG:∀g V,G g=some V->RepC P M V g 0)(H:lb.length=lent.length)(K:(lb.map (·.1)).Nodup)(I:∀(k:Nat)ob x,lent[k]? = some ob->lb[k]? = some x->ObRep P M Yx w (some x) ob/\ob.bx=true):UY P ⟨G,M,w,lb.map (·.1),Kl lb,M,0,none,[]⟩ (Jk lent) (·<1) M (Kl lb) w:=by
 have hsplit:∀id v ob,Jk lent id=some (v,ob)->LB<=id/\v=0/\lent[id-LB]? = some ob:=by
  intro id v ob h;unfold Jk at h;split at h
  .rename_i q;simp only[Ui,Wy]at h;obtain⟨o,u,rfl,rfl⟩:=h;exact⟨q,rfl,u⟩
  cases h
 have f:∀id v x,Kl lb id v=some x->v=0/\LB<=id/\∃y,lb[id-LB]? = some y/\x=some y:=by
  intro id v x h;unfold Kl at h;split at h
  .rename_i q;simp only[Ui]at h;obtain⟨o,u,rfl⟩:=h;exact⟨q.1,q.2,o,u,rfl⟩
  cases h
 constructor
 .exact Y
 .intro id v x h;obtain⟨rfl,_⟩:=f id v x h;exact Nat.zero_lt_one
 .intro id v ob h;obtain⟨u,rfl,J⟩:=hsplit id v ob h;have p:id-LB<lb.length:=by
   rw[H];rcases Ur (id-LB) lent.length with l|l
   .exact l
   simp[W3 l]at J
  refine⟨some lb[id-LB],?_,?_⟩
  .unfold Kl;rw[Wq ⟨rfl,u⟩];simp[p]
  obtain⟨g1,_⟩:=I _ ob lb[id-LB] J (Wc p);exact g1.mono (MLe.refl _) (BLe.zero _) (λ_ _ _=>rfl) (λ_ _ _ _=>rfl)
 .intro id v ob b Z h hb;have⟨u,rfl,J⟩:=hsplit id v ob h;have⟨_,_,y,B,e⟩:=f _ _ _ hb;simp at e;subst e;exact .inr ⟨UM.2 ⟨_,Ue B,rfl⟩,(I _ ob _ J B).2⟩
 .intro id v ob r v' L b Z cb' h l hb N;have⟨u,rfl,J⟩:=hsplit id v ob h;have⟨O,rfl,h2'⟩:=hsplit r v' L l;have⟨_,_,y,B,e⟩:=f _ _ _ hb;have⟨_,_,y',A,E⟩:=f _ _ _ N;simp at e E;subst e;subst E;have hn:=UL.1 (Ir.1 K);have p:id-LB<lb.length:=by
   rcases Ur (id-LB) lb.length with l|l
   .exact l
   simp[W3 l]at B
  have z:r-LB<lb.length:=by
   rcases Ur (r-LB) lb.length with l|l
   .exact l
   simp[W3 l]at A
  have key:∀i j,i<j->∀(R:i<lb.length) (S:j<lb.length),∀c W,lb[i]? = some (b,c)->lb[j]? = some (b,W)->False:=by intro i j T R S c W e E;rw[Wc R]at e;rw[Wc S]at E;simp only[Wt]at e E;exact hn i j (by simpa using R) (by simpa using S) T (by simp[e,E])
  rcases Nat.lt_trichotomy (id-LB) (r-LB)with h|h|h
  .exact(key _ _ h p z _ _ B A).elim
  .rw[←Nat.sub_add_cancel u,←Nat.sub_add_cancel O,h]
  exact(key _ _ h z p _ _ A B).elim
 .exact Kp.refl _ _
 .intro b o _;rfl
 .exact MLe.refl _
 omega
def Jd{C:Cx}{fn:Func}{args:List D}{e:List Value}{nt k:Nat}{s:Heap}{M:Mem}{β:Loc}(hd:C.df=[])(hb:BLe C.b0 β)(g:RepL P M β args e)(o:fn.ntmps=nt)(h:args.length<=nt)(I:UY P C s (·<k) M β w):
 Rel P C ⟨λi=>(args[i]?).getD (.v undef),s,nt,k⟩ {tmps:=(⟨e⟩:Array Value)++Array.replicate (fn.ntmps-(⟨e⟩:Array Value).size) undef,defers:=[]} w:=by
 have p:=g.length;refine⟨hd.symm,by simp_all,M,β,hb,λi=>?_,I⟩;show Rep P M β ((args[i]?).getD (.v undef)) (((⟨e⟩:Array Value)++Array.replicate (fn.ntmps-(⟨e⟩:Array Value).size) undef).getD i undef);rcases Ur i args.length with l|l
 .have⟨x,j,q⟩:=g.get i args[i] (Wc l);have:((⟨e⟩:Array Value)++Array.replicate (fn.ntmps-(⟨e⟩:Array Value).size) undef).getD i undef=x:=by have f:i<e.length:=aa;rw[Wc f]at j;simp only[Wt]at j;simp[Array.getElem?_append,f,j]
  simp_all
 have:((⟨e⟩:Array Value)++Array.replicate (fn.ntmps-(⟨e⟩:Array Value).size) undef).getD i undef=undef:=by have f:¬i<e.length:=aa;simp only[Array.getD_eq_getD_getElem?,Array.getElem?_append];simp only[List.size_toArray,f,if_false];rw[Array.getElem?_replicate];split<;>rfl
 simp_all[this,Rep,XbH]
def Xa8{C:Cx}{fn:Func}{rs:List ResultVar}{fr:List Nat}{lent:List Ob}{lb:List (Nat×Nat)}{R':D->List Ob->Prop}(K:C.lb=lb.map (·.1))(L:BLe (Kl lb) C.b0)(f:lb.length=lent.length)(N:fn.results=⟨rs⟩):
 ∀a w',Z8 P C (JM P rs fr lent.length R') a w'->∃v,(results fn a.tmps).run P w'=.ok v w'/\Xos P C.M0 C.w0 lb R' (.returned v) w':=by
 rintro a w' ⟨st,⟨h1,h2,M',β,h0,h3,I⟩,e⟩;unfold JM at e;split at e
 .rename_i c ds p;split at e
  .rename_i c1 r O fh c2 obs R S q;have⟨hc,T,V,u,W,y,Y⟩:=e;have⟨v,hv,Z⟩:=Vj I h3 N p hc;have⟨M2,I2,A,hF⟩:=I.freeze (O++R);have⟨bl,hfr,hbl⟩:=shut_rep I A I2 hF y S T (λi hi=>W6 _ hi) Z;have hL:Xff st.s β (Xa7 0 lent.length) lb:=by
    intro j id B;have h:j<lent.length:=by
     rcases Ur j lent.length with h'|h'
     .exact h'
     rw[W3 (by rw[KW];exact h')]at B;cases B
    rw[V8 _ _ _ h]at B;simp only[Wt,UG]at B;subst B;have k:=Xgk u (V8 lent.length 0 j h);rw[UG]at k;simp only[Ui]at k;obtain⟨⟨v',ob⟩,hs,rfl⟩:=k;have hβ:β (LB+j) 0=some (some (lb[j]'aa)):=by refine h0 _ _ _ (L _ _ _ ?_);show Kl lb (LB+j) 0=_;unfold Kl;rw[Wq ⟨rfl,Nat.le_add_right _ _⟩];have:LB+j-LB=j:=IN ..;rw[this];rw[Wc aa];rfl
    have G:∃E z H fz,ob=.arr true E z [H] fz:=by have g:=Xel q _ (Ue (V8 lent.length 0 j h));rw[UG]at g;obtain⟨v,E,z,H,fz,l⟩:=g;rw[hs]at l;simp only[Wt,Wy]at l;exact⟨E,z,H,fz,l.2⟩
    obtain⟨E,z,H,fz,rfl⟩:=G;exact⟨0,E,z,H,fz,lb[j]'aa,hs,Wc aa,hβ⟩
   have⟨g1,g2⟩:=XbD I A I2 hF q V (λx hx=>Ug _ hx) hL (by rw[KW,f]);have⟨r',hrr,Y⟩:=Y;have⟨bl',J,hbb⟩:=fitsR_rep hrr hfr;refine⟨v,hv,v,r',obs,M2,bl',rfl,Y,K▸I.keep,I2.mem,λb o hb=>?_,?_,g2,J,hbb▸hbl.nodup I W⟩
   .exact I2.old b o hb
   rw[g1,KW,f]
  exact e.elim
 simp_all
def Xas{G:Nat->Option (List D)}{f:FuncId}{fn:Func}{body:Code}{rs:List ResultVar}{args:List D}{lent:List Ob}{R':D->List Ob->Prop}(z:List Nat)(nt:Nat)(A:P.funcs[f]? = some fn)(hb:fn.body=some body)(B:(fn.name== "runtime.NumGoroutine")=false)(p:fn.results=⟨rs⟩)(q:fn.ntmps=nt)(j:args.length<=nt)(h:∀(C:Cx)x,C.G=G->C.lb.length=lent.length->WfL P args->∀a w,Rel P (C.sub 0 x) (st0 args lent nt) a w->sem P (C.sub 0 x) (Z8 P (C.sub 0 x) (JM P rs z lent.length R')) [.code body] none a w):YS P G f args lent R':=by
 refine⟨⟨fn,A,by grind,B⟩,λM w J lb E H g r u k=>?_⟩;refine calls_of_wp A hb ?_;have I0:=XbJ (G:=G) E H g r u;have l:Rel P ⟨G,M,w,lb.map (·.1),Kl lb,M,0,none,[]⟩ (st0 args lent nt) _ w:=Jd rfl (BLe.refl _) k q j I0;have o:=h ⟨G,M,w,lb.map (·.1),Kl lb,M,0,none,[]⟩ (M,Kl lb) rfl (by simp_all) k.wf _ _ l;refine wp_mono ((wpIn_wide (n:=0)).1 o) ?_;have fin:∀a w',Z8 P ⟨G,M,w,lb.map (·.1),Kl lb,M,0,none,[]⟩ (JM P rs z lent.length R') a w'->a.defers=[]/\∃v,(results fn a.tmps).run P w'=.ok v w'/\Xos P M w lb R' (.returned v) w':=λa w' h=>⟨by have⟨st,I,_⟩:=h;exact I.1,Xa8 rfl (BLe.refl _) g p a w' h⟩
 intro e a w' y;cases e with
 |normal=>exact fin a w' y
 |ret=>exact fin a w' y
 |exit id=>assumption
 |_=>exact y.elim
def Yq{G:Nat->Option (List D)}{f:FuncId}{fn:Func}{body:Code}{rs:List ResultVar}{args:List D}{lent:List Ob}{R':D->List Ob->Prop}(m:Nat)(l:List Nat)(nt:Nat)(o:P.funcs[f]? = some fn)(hb:fn.body=some body)(p:(fn.name== "runtime.NumGoroutine")=false)(g:fn.results=⟨rs⟩)(j:fn.ntmps=nt)(e:args.length<=nt)(h:∀(C:Cx)x,C.G=G->WfL P args->run P (C.sub 0 x) (JM P rs l lent.length R') m [.code body] (st0 args lent nt)):YS P G f args lent R':=
 Xas l nt o hb p g j e λC x q _ k a w r=>Ym m _ r (h C x q k)
def stI(args:List D)(s:Heap)(n k:Nat):St:=⟨λi=>(args[i]?).getD (.v undef),s,n,k⟩
def Xgm(P:Program)(rs:List ResultVar)(K:D->Heap->Nat->Prop)(st:St):Prop:=match Xgl st P rs with
 |some (c,e)=>c/\K (XhU e) st.s st.k
 |none=>False
def kOf(dst:Option Nat)(st:St)(K:St->Prop):D->Heap->Nat->Prop:=λd s k=>K (nxS st (XR dst st.n) d s st.n k)
def CallX.inl{C:Cx}{f:FuncId}{args:List D}{dst:Option Nat}{st:St}{K:St->Prop}(off:Nat){fn:Func}{rs:List ResultVar}{nt:Nat}(m:Nat)(o:(P.funcs[f]?,fn.body,fn.name== "runtime.NumGoroutine",fn.results,fn.ntmps,args.length.ble nt)=(some fn,some (fn.body.get!),false,⟨rs⟩,nt,true))(h:∀x,run P (C.sub off x) (Xgm P rs (kOf dst st K)) m [.code (fn.body.get!)] (stI args st.s nt st.k))(t:Prf args):CallX P C f args dst st K t:=by
 injection o with G o;injection o with hb o;injection o with J o;injection o with u o;injection o with y j;have j:=IZ j;refine⟨⟨fn,G,by grind,J⟩,λM β w V W I z=>?_⟩;refine calls_of_wp G hb ?_;have I0:UY P (C.sub off (M,β)) st.s (·<st.k) M β w:=⟨I.mem,I.used,I.obs,I.own,I.inj,I.keep,I.old,MLe.refl _,λg L N=>RepC.mono I.le (I.glob g L N)⟩
 have p:Rel P (C.sub off (M,β)) (stI args st.s nt st.k) _ w:=Jd rfl (BLe.refl _) z y j I0;have q:=Ym m _ p (h (M,β));refine wp_mono ((wpIn_wide (n:=0)).1 q) ?_;have fin:∀a w',Z8 P (C.sub off (M,β)) (Xgm P rs (kOf dst st K)) a w'->a.defers=[]/\∃v,(results fn a.tmps).run P w'=.ok v w' /\
  (λe w'=>∃v d s' H M' β',e=Ending.returned v/\UY P C s' (·<H) M' β' w'/\Rep P M' β' d v/\MLe M M'/\BLe β β'/\K (nxS st (XR dst st.n) d s' st.n H)) (.returned v) w':=by
  rintro a w' ⟨O,⟨R,Y,M',β',A,S,I'⟩,l⟩
  refine⟨R,?_⟩
  unfold Xgm at l
  split at l
  .rename_i c Z r
   have⟨v,T,B⟩:=Vj I' S u r l.1
   exact⟨v,T,v,_,_,_,M',β',rfl,⟨I'.mem,I'.used,I'.obs,I'.own,I'.inj,I'.keep,I'.old,I.le.trans I'.le,I.glob⟩,B,I'.le,A,l.2⟩
  .grind
 intro e a w' E;cases e with
 |normal=>exact fin a w' E
 |ret=>exact fin a w' E
 |exit id=>assumption
 |_=>exact E.elim
def Zg{G:Nat->Option (List D)}{f:FuncId}{E z:Nat}{args:List D}{lent:List Ob}{R':D->List Ob->Prop}(h:∀a cap,YS P G f (.v (.slice a 0 cap)::args) lent R'):YS P G f (.isl E z []::args) lent R':=by refine⟨(h none 0).1,λM w q lb e g j k l o=>?_⟩;obtain⟨x,r,rfl,⟨_,_,_,a,cap,rfl,_⟩,p⟩:=o;refine(h a cap).2 M w _ lb e g j k l ?_;exact⟨_,_,rfl,⟨rfl,trivial⟩,p⟩
end
variable {P:Program}{C:Cx}{R:St->Prop}
section
variable {n:Nat}{k:List It}{st:St}
def Xox:run P C R (n+1) [] st=R st:=propext Iff.rfl
def Xlk{Q:St->Prop}:run P C R (n+1) (.stop Q::k) st=Q st:=propext Iff.rfl
def Xoy{i:Nat}:run P C R (n+1) (.blk i::k) st=run P C R n k st:=propext Iff.rfl
def Xll{full:Array Oper}:run P C R (n+1) (.ops full []::k) st=run P C R n k st:=propext Iff.rfl
def XqG{full:Array Oper}{o:Oper}{rest:List Oper}:run P C R (n+1) (.ops full (o::rest)::k) st=XbG full o st
 (λst=>XaF P C o st (run P C R n (.ops full rest::k)))
 (λst=>Xgi (XR o.dst st.n) st.n (st.k+1) (λdst m j=>run P C R n (.ops full rest::k) (nx st dst (.v undef) [] m j)) trivial):=propext Iff.rfl
def Xlm:run P C R (n+1) (.code .skip::k) st=run P C R n k st:=propext Iff.rfl
def Xoz{x y:Code}:run P C R (n+1) (.code (.seq x y)::k) st=run P C R n (.code x::.code y::k) st:=propext Iff.rfl
def Xln{c:Operand}{x y:Code}:run P C R (n+1) (.code (.cond c x y)::k) st=Xb9 (ev st.t C.G c) c st (run P C R n (.code x::k)) (run P C R n (.code y::k)) trivial:=propext Iff.rfl
def Xj5{i:Nat}{c:Code}:run P C R (n+1) (.code (.block i c)::k) st=run P C R n (.code c::.blk i::k) st:=propext Iff.rfl
def Xj6{c:Code}:run P C R (n+1) (.code (.scope c)::k) st=run P C R n (.code c::k) st:=propext Iff.rfl
def Xj7{i:Nat}:run P C R (n+1) (.code (.label i)::k) st=run P C R n k st:=propext Iff.rfl
def Xlo{i:Nat}:run P C R (n+1) (.code (.exit i)::k) st=XiY (Xca i k) (λe=>run P C R n e st) trivial:=propext Iff.rfl
def XoA:run P C R (n+1) (.code .ret::k) st=R st:=propext Iff.rfl
def Xlp{c:Code}:run P C R (n+1) (.code (.loop c)::k) st=LoopG P C R c k st trivial:=propext Iff.rfl
def XhV{i:Nat}{ops:List Oper}:run P C R (n+1) (.code (.region i ⟨ops⟩ false)::k) st=run P C R n (.ops ⟨ops⟩ ops::k) st:=propext Iff.rfl
def Xj8{i:Nat}{ops:Array Oper}:run P C R (n+1) (.code (.region i ops true)::k) st=DrawnG P C R i ops k st trivial:=propext Iff.rfl
variable {full:Array Oper}{dst:Option Nat}{op:Op}{ty:Nat}{pos:String}{af:Array Edge}{x y:St->Prop}{K:St->Prop}
def Xgn:XbG full ⟨dst,op,ty,pos,af,none⟩ st x y=x st:=propext Iff.rfl
def Xgo{g:Nat}{want:Bool}:XbG full ⟨dst,op,ty,pos,af,some (g,want)⟩ st x y=Xfh ((full[g]?).bind (·.dst)) want st x y trivial:=propext Iff.rfl
def Xgp{r:Nat}{want:Bool}{e:Prf (some r)}:Xfh (some r) want st x y e=Kc (st.t r) r want st x y trivial:=propext Iff.rfl
def Xj9{r:Nat}{e:Prf (D.v (.bool true))}:Kc (.v (.bool true)) r true st x y e=x st:=by simp[Kc,VG]
def Xka{r:Nat}{e:Prf (D.v (.bool true))}:Kc (.v (.bool true)) r false st x y e=y st:=by simp[Kc,VG]
def Xkb{r:Nat}{e:Prf (D.v (.bool false))}:Kc (.v (.bool false)) r true st x y e=y st:=by simp[Kc,VG]
def Xkc{r:Nat}{e:Prf (D.v (.bool false))}:Kc (.v (.bool false)) r false st x y e=x st:=by simp[Kc,VG]
def Xlq{r:Nat}{want:Bool}{e:Array Value}{f:Prf (D.v (.tuple e))}:Kc (.v (.tuple e)) r want st x y f=y st:=rfl
def XoB{c:Operand}{e:Prf (D.v (.bool true))}:Xb9 (.v (.bool true)) c st x y e=x st:=by simp[Xb9,VG]
def XoC{c:Operand}{e:Prf (D.v (.bool false))}:Xb9 (.v (.bool false)) c st x y e=y st:=by simp[Xb9,VG]
def XhW{f:List It->Prop}{e:Prf (some k)}:XiY (some k) f e=f k:=propext Iff.rfl
def Xlr{m j:Nat}{f:Option Nat->Nat->Nat->Prop}{e:Prf dst}:Xgi dst m j f e=f dst m j:=propext Iff.rfl
def Xkd{o:Oper}:XaF P C o st K=Xej P C (Vh o.op) o st K trivial:=propext Iff.rfl
def XhX{o:Oper}{e:Prf (none:Option Call)}:Xej P C none o st K e=Xb8 (opF P (Xgh C.off o.dst) st.k (ev st.t C.G) st.s o.op) (XR o.dst st.n) st.n (st.k+1) (λdst d u n k=>K (nx st dst d u n k)) trivial:=propext Iff.rfl
def XhY{o:Oper}{c:Call}{e:Prf (some c)}:Xej P C (some c) o st K e=XcY P C (callee (ev st.t C.G) c) c o.dst st K trivial:=propext Iff.rfl
def Xgq{f:Nat}{args:List D}{c:Call}{dst:Option Nat}{e:Prf (some (f,args))}:XcY P C (some (f,args)) c dst st K e=CallX P C f args dst st K trivial:=propext Iff.rfl
def Xgr{c:Call}{dst:Option Nat}{e:Prf (none:Option (Nat×List D))}:XcY P C none c dst st K e=Xfg P C (Xcq (ev st.t C.G) c) dst st K trivial:=propext Iff.rfl
def Xgs{l:Nat}{args:List D}{dst:Option Nat}{e:Prf (some (l,args))}:Xfg P C (some (l,args)) dst st K e=YieldX P C l args dst st K trivial:=propext Iff.rfl
def XhZ{c:Prop}{d:D}{u:Up}{m j:Nat}{f:Option Nat->D->Up->Nat->Nat->Prop}{e:Prf (some (c,d,u))}:Xb8 (some (c,d,u)) dst m j f e=(c/\f dst d u m j):=propext Iff.rfl
def Xgt{G:Nat->Option (List D)}{f:Nat}{e:Prop}{as:List D}{ids:List Nat}{obs:List Ob}{fz:List Nat}{K:List Nat->List Nat->D->List Ob->Prop}{g:Prf (some (e,as,ids,obs,fz))}:XhS P G f (some (e,as,ids,obs,fz)) K g=(e/\CallG P G f as obs (K ids fz) trivial):=propext Iff.rfl
def XoD{d:D}{u:Up}{m j:Nat}{f:Option Nat->D->Up->Nat->Nat->Prop}{e:Prf (d,u)}:XqF (d,u) dst m j f e=f dst d u m j:=propext Iff.rfl
variable {d:D}{u:Up}{m j i x:Nat}
def Xun:(nx st dst d u m j).n=m:=rfl
def Xuo:(nx st dst d u m j).k=j:=rfl
def Xup{i x:Nat}:(nx st (some x) d u m j).t i=if i=x then d else st.t i:=rfl
def Xr6{i:Nat}:(nx st none d u m j).t i=st.t i:=rfl
def Xr7:(nx st dst d [] m j).s=st.s:=rfl
def Xuq{e:Nat×Nat×Ob}:(nx st dst d (e::u) m j).s=app st.s (e::u):=rfl
def Xr8{s:Heap}:(nxS st dst d s m j).n=m:=rfl
def Xr9{s:Heap}:(nxS st dst d s m j).k=j:=rfl
def Xsa{s:Heap}{i x:Nat}:(nxS st (some x) d s m j).t i=if i=x then d else st.t i:=rfl
def XqH{s:Heap}{i:Nat}:(nxS st none d s m j).t i=st.t i:=rfl
def Xsb{s:Heap}:(nxS st dst d s m j).s=s:=rfl
def Xsc{args:List D}{s:Heap}{n k i:Nat}:(stI args s n k).t i=(args[i]?).getD (.v undef):=rfl
def Xsd{args:List D}{s:Heap}{n k:Nat}:(stI args s n k).s=s:=rfl
def Xse{args:List D}{s:Heap}{n k:Nat}:(stI args s n k).n=n:=rfl
def Xsf{args:List D}{s:Heap}{n k:Nat}:(stI args s n k).k=k:=rfl
def XqI{s:Heap}{k:Nat}:kOf dst st K d s k=K (nxS st (XR dst st.n) d s st.n k):=rfl
def XoE{C:Cx}{n:Nat}{x:Mem×Loc}:(C.sub n x).off=n:=rfl
def Xsg{C:Cx}{n:Nat}{x:Mem×Loc}:(C.sub n x).G=C.G:=rfl
def Xsh{args:List D}{lent:List Ob}{n i:Nat}:(st0 args lent n).t i=(args[i]?).getD (.v undef):=rfl
def Xsi{args:List D}{lent:List Ob}{n:Nat}:(st0 args lent n).s=Jk lent:=rfl
def Xsj{args:List D}{lent:List Ob}{n:Nat}:(st0 args lent n).n=n:=rfl
def Xsk{args:List D}{lent:List Ob}{n:Nat}:(st0 args lent n).k=1:=rfl
def ZE{s:Heap}:app s []=s:=rfl
def Y7{s:Heap}{i v:Nat}{o:Ob}:app s ((i,v,o)::u)=app (upd s i (some (v,o))) u:=rfl
def Kw{s:Heap}{i j:Nat}{x:Option (Nat×Ob)}:upd s i x j=if j=i then x else s j:=rfl
def Xke{i:Nat}:Jk [] i=none:=by simp[Jk]
def Jn{e:List Ob}{j:Nat}:Jk e (LB+j)=(e[j]?).map (λo=>(0,o)):=by unfold Jk;simp
def XqJ:IntKind.min .i8 = -128:=ae
def XqK:IntKind.max .i8=127:=ae
def XoF:IntKind.min .i16 = -32768:=ae
def XoG:IntKind.max .i16=32767:=ae
def XoH:IntKind.min .i32 = -2147483648:=ae
def XoI:IntKind.max .i32=2147483647:=ae
def XoJ:IntKind.min .i64 = -9223372036854775808:=ae
def XoK:IntKind.max .i64=9223372036854775807:=ae
def XqL:IntKind.min .u8=0:=ae
def XqM:IntKind.max .u8=255:=ae
def XoL:IntKind.min .u16=0:=ae
def XoM:IntKind.max .u16=65535:=ae
def XoN:IntKind.min .u32=0:=ae
def XoO:IntKind.max .u32=4294967295:=ae
def Xi0:IntKind.min .u64=0:=ae
def Xi1:IntKind.max .u64=18446744073709551615:=ae
def Zp{r:Nat}{d:D}(h:st.t r=d):Xan st r d=st:=by
 unfold Xan;have:upd st.t r d=st.t:=by
  funext j;unfold upd;split
  .simp_all
  rfl
 rw[this]
def Xs{b:Bool}{r:Nat}{x y:St->Prop}(f:st.t r=.v (.bool b))(g:b=true->x (Xan st r (.v (.bool true))))(h:b=false->y (Xan st r (.v (.bool false))))(t':Prf (D.v (.bool b))):Xb9 (.v (.bool b)) (.tmp r) st x y t':=
 ⟨λe=>by simp_all[Zp,f],λe=>by simp_all[Zp,f]⟩
def Xh{b:Bool}{r:Nat}{x y:St->Prop}(f:st.t r=.v (.bool b))(g:b=true->x (Xan st r (.v (.bool true))))(h:b=false->y (Xan st r (.v (.bool false))))(t':Prf (D.v (.bool b))):Kc (.v (.bool b)) r true st x y t':=
 ⟨λe=>by simp_all[Zp,f],λe=>by simp_all[Zp,f]⟩
def Xi{b:Bool}{r:Nat}{x y:St->Prop}(f:st.t r=.v (.bool b))(g:b=true->y (Xan st r (.v (.bool true))))(h:b=false->x (Xan st r (.v (.bool false))))(t':Prf (D.v (.bool b))):Kc (.v (.bool b)) r false st x y t':=
 ⟨λe=>by simp_all[Zp,f],λe=>by simp_all[Zp,f]⟩
def XqN{r i:Nat}{d:D}:(Xan st r d).t i=if i=r then d else st.t i:=rfl
def XqO{r:Nat}{d:D}:(Xan st r d).s=st.s:=rfl
def XqP{r:Nat}{d:D}:(Xan st r d).n=st.n:=rfl
def XqQ{r:Nat}{d:D}:(Xan st r d).k=st.k:=rfl
def CallG.of{G:Nat->Option (List D)}{f:FuncId}{args eargs:List D}{obs:List Ob}{R K:D->List Ob->Prop}(h:YS P G f eargs obs R)(g:Z1 args eargs)(hK:∀r e,R r e->K r e)(t':Prf args):CallG P G f args obs K t':=
 ⟨eargs,R,g,h,hK⟩
end
variable {P:Program}
structure En where
 i:Nat
 o:Oper
 anc:List Nat
 ws:List Nat
 ms:List Nat
 mi:List Nat
def Km(ms:List Nat)(t:Nat->D):Nat->D:=λx=>if ms.contains x then .any else t x
def Zz(mi:List Nat)(s:Heap):Heap:=λx=>if mi.contains x then none else s x
inductive Kd where
 |det (c:Prop) (d:D) (u:Up)
 |call (c:Prop) (f:FuncId) (as:List D) (ids:List Nat) (obs:List Ob) (fz:List Nat)
 |ro (f:FuncId) (args:List D)
def kd1(x:Option (Prop×D×Up)):Option Kd:=match x with
 |some (c,d,u)=>some (.det c d u)
 |none=>none
def kd2(f:FuncId)(args:List D)(x:Option (Prop×List D×List Nat×List Ob×List Nat)):Option Kd:=match x with
 |some (e,as,ids,obs,fz)=>some (.call e f as ids obs fz)
 |none=>some (.ro f args)
def roK(f:Nat):Nat:=1000000000+f
def Xfi(G:Nat->Option (List D))(f:Nat){α:Type}(x:Option α):Option α:=if(G (roK f)).isSome then none else x
def Xkf{G:Nat->Option (List D)}{f:Nat}{α:Type}{x:Option α}{y:α}(h:Xfi G f x=some y):x=some y:=by unfold Xfi at h;simp_all
def kd3(G:Nat->Option (List D))(s:Heap)(x:Option (FuncId×List D)):Option Kd:=match x with
 |some (f,args)=>kd2 f args (Xfi G f (Zi s args))
 |none=>none
def RoA(P:Program)(C:Cx)(s:Heap)(args eargs:List D):Prop:=∀s' U M β w e,HLe s s'->UY P C s' U M β w->RepL P M β args e->∃M1,MLe M M1/\MemOK M1 w/\RepL P M1 Yx eargs e
def kdO(P:Program)(C:Cx)(ver:Nat)(o:Oper)(t:Nat->D)(s:Heap):Option Kd:=match Vh o.op with
 |some c=>kd3 C.G s (callee (ev t C.G) c)
 |none=>kd1 (opF P (Xgh C.off o.dst) ver (ev t C.G) s o.op)
def kdG(d:D)(_:Nat)(want:Bool)(x:Option Kd):Option Kd:=match d with
 |.v (.bool b)=>bif b==want then x else some (.det True (.v undef) [])
 |.v (.tuple _)=>some (.det True (.v undef) [])
 |_=>none
def kdE(P:Program)(C:Cx)(full:Array Oper)(ver:Nat)(o:Oper)(t:Nat->D)(s:Heap):Option Kd:=match o.guard with
 |none=>kdO P C ver o t s
 |some (g,want)=>match (full[g]?).bind (·.dst)with
  |some r=>kdG (t r) r want (kdO P C ver o t s)
  |none=>none
def KT(u:Up)(ws:List Nat):Prop:=∀x∈u,x.1∈ws
def doK(P:Program)(C:Cx)(e:En)(ver:Nat)(s:Heap)(x:Option Kd)(F:D->Up->Prop):Prop:=match x with
 |none=>False
 |some (.det c d u)=>c/\KT u e.ws/\F d u
 |some (.call c f as ids obs fz)=>c/\∃eargs R,Z1 as eargs/\YS P C.G f eargs obs R/\(∃r g,R r g)/\∀r g,R r g ->
  KT (aft s ids fz r g ver (64*(C.off+e.o.dst.getD 0))).2 e.ws/\F (aft s ids fz r g ver (64*(C.off+e.o.dst.getD 0))).1 (aft s ids fz r g ver (64*(C.off+e.o.dst.getD 0))).2
 |some (.ro f args)=>∃eargs R,RoA P C s args eargs/\YS P C.G f eargs [] R/\(∃r g,R r g)/\∀r g,R r g->scal r=true/\F r []
def JX(P:Program)(C:Cx)(full:Array Oper)(k0:Nat)(e:En)(st:St)(F:St->Prop):Prop:=
 doK P C e (k0+e.i) (Zz e.mi st.s) (kdE P C full (k0+e.i) e.o (Km e.ms st.t) (Zz e.mi st.s)) λd u=>F (nx st (XR e.o.dst st.n) d u st.n st.k)
def dr(P:Program)(C:Cx)(full:Array Oper)(k0:Nat):List En->St->(St->Prop)->Prop
 |[],st,K=>K st
 |e::f,st,K=>JX P C full k0 e st λst=>dr P C full k0 f st K
def Xa9(o:Oper):Bool:=(Vh o.op).isSome
def inB(x:Option Nat)(l:List Nat):Bool:=match x with
 |some x=>l.contains x
 |none=>true
def Xc0(e j:En):Bool:=
 (e.o.dst != j.o.dst||e.o.dst.isNone)&&inB e.o.dst j.ms&&inB j.o.dst e.ms&&e.ws.all (λx=>j.mi.contains x)&&j.ws.all (λx=>e.mi.contains x)&&e.ws.all (λx=>!j.ws.contains x)&&!(Xa9 e.o&&Xa9 j.o)
section
variable {C:Cx}{full:Array Oper}{k0:Nat}{st:St}
def Xls{e:En}{ver:Nat}{s:Heap}{x:Option Kd}{F F':D->Up->Prop}(h:∀d u,F d u->F' d u)(hd:doK P C e ver s x F):doK P C e ver s x F':=by
 unfold doK at hd⊢;split at hd
 .omega
 .simp_all
 .have⟨v,eargs,R,o,p,q,f⟩:=hd;exact⟨v,eargs,R,o,p,q,λr g l=>⟨(f r g l).1,h _ _ (f r g l).2⟩⟩
 have⟨eargs,R,o,p,q,f⟩:=hd;exact⟨eargs,R,o,p,q,λr g l=>⟨(f r g l).1,h _ _ (f r g l).2⟩⟩
def Xh0{e:En}{F F':St->Prop}(h:∀st,F st->F' st)(hd:JX P C full k0 e st F):JX P C full k0 e st F':=
 Xls (λ_ _ f=>h _ f) hd
def Xlt{ms:List Nat}{dst:Option Nat}{n m k:Nat}{d:D}{u:Up}(h:inB dst ms=true):Km ms (nx st (XR dst n) d u m k).t=Km ms st.t:=by
 funext x;unfold Km;split
 .rfl
 rename_i f;cases dst with
 |none=>rfl
 |some y=>
  simp only[XR];split
  .simp only[nx,upd];split
   .rename_i e;subst e;exact absurd h f
   rfl
  rfl
def JY{s:Heap}{i:Nat}:∀{u:Up},(∀x∈u,x.1≠i)->app s u i=s i:=by
 intro u;induction u generalizing s with
 |nil=>intro _;rfl
 |cons x u e=>intro h;have⟨j,v,o⟩:=x;show app (upd s j _) u i=s i;rw[e λy f=>h y (Ul _ f),Yf _ _ _ _ (Ne.symm (h (j,v,o) ab))]
def Xlu{mi ws:List Nat}{dst:Option Nat}{m k:Nat}{d:D}{u:Up}(f:KT u ws)(h:∀x∈ws,mi.contains x=true):Zz mi (nx st dst d u m k).s=Zz mi st.s:=by
 funext x;unfold Zz;split
 .rfl
 rename_i g;exact JY λy l e=>g (e▸h _ (f y l))
def Xem{s s':Heap}{i:Nat}:∀{u:Up},s i=s' i->app s u i=app s' u i:=by
 intro u;induction u generalizing s s' with
 |nil=>intro h;exact h
 |cons x u e=>intro h;have⟨j,v,o⟩:=x;refine e ?_;unfold upd;simp_all
def Xlv{s:Heap}{u f:Up}(h:∀x∈u,∀y∈f,x.1≠y.1):app (app s u) f=app (app s f) u:=by
 funext i;by_cases o:∃x∈u,x.1=i
 .obtain⟨x,g,rfl⟩:=o;rw[JY λy l e=>h x g y l e.symm];exact Xem (JY λy l e=>h x g y l e.symm).symm
 have p:∀x∈u,x.1≠i:=λx g e=>o ⟨x,g,e⟩;rw[JY (s:=app s f) p];exact Xem (JY p)
def Xba{e j:Option Nat}{n k:Nat}{d d':D}{u f:Up}(q:e≠j\/e=none)(h:∀x∈u,∀y∈f,x.1≠y.1):
 nx (nx st (XR e n) d u n k) (XR j n) d' f n k=nx (nx st (XR j n) d' f n k) (XR e n) d u n k:=by
 have ht:(nx (nx st (XR e n) d u n k) (XR j n) d' f n k).t=(nx (nx st (XR j n) d' f n k) (XR e n) d u n k).t:=by
  funext x;cases e with
  |none=>rfl
  |some a=>
   cases j with
   |none=>rfl
   |some b=>simp only[XR];split<;>split<;>simp only[nx,upd];grind
 have r:(nx (nx st (XR e n) d u n k) (XR j n) d' f n k).s=(nx (nx st (XR j n) d' f n k) (XR e n) d u n k).s:=Xlv h;have:∀(a b:St),a.t=b.t->a.s=b.s->a.n=b.n->a.k=b.k->a=b:=by rintro⟨_,_,_,_⟩ ⟨_,_,_,_⟩ g l o p;simp only at g l o p;subst g;subst l;subst o;subst p;rfl
 exact this _ _ ht r rfl rfl
def Kd.isDet:Kd->Bool
 |.det _ _ _=>true
 |_=>false
def JZ{ver:Nat}{o:Oper}{t:Nat->D}{s:Heap}{x:Kd}(h:kdE P C full ver o t s=some x)(e:x.isDet=false):Xa9 o=true:=by
 have key:kdO P C ver o t s=some x->Xa9 o=true:=by
  intro h;unfold kdO at h;unfold Xa9;split at h
  .simp_all
  unfold kd1 at h;split at h
  .simp at h;subst h;cases e
  simp_all
 unfold kdE at h;split at h
 .simp_all
 split at h
 .unfold kdG at h;split at h
  .rename_i b _;cases hb:(b==_)with
   |true=>rw[hb]at h;exact key h
   |false=>rw[hb]at h;simp at h;subst h;cases e
  .simp at h;subst h;cases e
  cases h
 simp_all
def Xh1{e j:En}{F:St->Prop}(W:Xc0 e j=true)(h:JX P C full k0 e st λst=>JX P C full k0 j st F):JX P C full k0 j st λst=>JX P C full k0 e st F:=by
 unfold Xc0 at W;simp only[W9,Ix,bne_iff_ne,ne_eq,Option.isNone_iff_eq_none,Ud,I7]at W;have⟨⟨⟨⟨⟨⟨v,hem⟩,hjm⟩,hew⟩,hjw⟩,hdis⟩,hcc⟩:=W;have l:∀{u u':Up},KT u e.ws->KT u' j.ws->∀x∈u,∀y∈u',x.1≠y.1:=by
  intro u u' p g x hx y hy e';have J:=hdis x.1 (p x hx);have I:=g y hy;rw[←e']at I;have:j.ws.contains x.1=true:=by simpa using I
  rw[J]at this;cases this
 have vj:∀{d u},KT u e.ws->Km j.ms (nx st (XR e.o.dst st.n) d u st.n st.k).t=Km j.ms st.t/\Zz j.mi (nx st (XR e.o.dst st.n) d u st.n st.k).s=Zz j.mi st.s:=
  λp=>⟨Xlt hem,Xlu p hew⟩
 have ve:∀{d u},KT u j.ws->Km e.ms (nx st (XR j.o.dst st.n) d u st.n st.k).t=Km e.ms st.t/\Zz e.mi (nx st (XR j.o.dst st.n) d u st.n st.k).s=Zz e.mi st.s:=
  λp=>⟨Xlt hjm,Xlu p hjw⟩
 unfold JX at h⊢;generalize z:kdE P C full (k0+e.i) e.o (Km e.ms st.t) (Zz e.mi st.s)=ke at h;generalize q:kdE P C full (k0+j.i) j.o (Km j.ms st.t) (Zz j.mi st.s)=L;cases ke with
 |none=>exact h.elim
 |some ke=>
  cases ke with
  |det c d u=>
   have⟨hc,p,h⟩:=h;have⟨N,O⟩:=vj (d:=d) p;dsimp only at h;rw[N,O,q]at h;cases L with
   |none=>assumption
   |some L=>
    cases L with
    |det c' d' u'=>
     have⟨Y,g,h⟩:=h;refine⟨Y,g,?_⟩;have⟨S,T⟩:=ve (d:=d') g;try dsimp only
     rw[S,T,z];refine⟨hc,p,?_⟩;have:=Xba (st:=st) (e:=e.o.dst) (j:=j.o.dst) (n:=st.n) (k:=st.k) (d:=d) (d':=d') v (l p g);exact(congrArg F this).mp h
    |call c' f as ids obs fz=>
     have⟨Y,eargs,R,J,I,h3,G⟩:=h;refine⟨Y,eargs,R,J,I,h3,λr A V=>?_⟩;have⟨g,h⟩:=G r A V;refine⟨g,?_⟩;have⟨S,T⟩:=ve (d:=(aft (Zz j.mi st.s) ids fz r A (k0+j.i) (64*(C.off+j.o.dst.getD 0))).1) g;try dsimp only
     rw[S,T,z];refine⟨hc,p,?_⟩;have:=Xba (st:=st) (e:=e.o.dst) (j:=j.o.dst) (n:=st.n) (k:=st.k) (d:=d) (d':=(aft (Zz j.mi st.s) ids fz r A (k0+j.i) (64*(C.off+j.o.dst.getD 0))).1) v (l p g);exact(congrArg F this).mp h
    |ro f' args'=>
     have⟨eargs,R,J,I,h3,G⟩:=h;refine⟨eargs,R,J,I,h3,λr A V=>⟨(G r A V).1,?_⟩⟩;have h:=(G r A V).2;have g:KT [] j.ws:=λx hx=>by grind
     have⟨S,T⟩:=ve (d:=r) g;try dsimp only
     rw[S,T,z];refine⟨hc,p,?_⟩;have:=Xba (st:=st) (e:=e.o.dst) (j:=j.o.dst) (n:=st.n) (k:=st.k) (d:=d) (d':=r) v (l p g);exact(congrArg F this).mp h
  |ro f args=>
   have hce:=JZ z rfl;have⟨eargs,R,J,I,⟨Z,B,H⟩,G⟩:=h;have p:KT [] e.ws:=λx hx=>by grind
   obtain⟨_,E⟩:=G Z B H;obtain⟨N,O⟩:=vj (d:=Z) p;dsimp only at E;rw[N,O,q]at E;cases L with
   |none=>assumption
   |some L=>
    cases L with
    |call c' f' as' ids' obs' fz'=>have hcj:=JZ q rfl;simp_all
    |ro f' args'=>have hcj:=JZ q rfl;simp_all
    |det c' d' u'=>
     refine⟨E.1,E.2.1,?_⟩;obtain⟨S,T⟩:=ve (d:=d') E.2.1;try dsimp only
     rw[S,T,z];refine⟨eargs,R,J,I,⟨Z,B,H⟩,λr A V=>⟨(G r A V).1,?_⟩⟩;have h:=(G r A V).2;obtain⟨N,O⟩:=vj (d:=r) p;dsimp only at h;rw[N,O,q]at h;have:=Xba (st:=st) (e:=e.o.dst) (j:=j.o.dst) (n:=st.n) (k:=st.k) (d:=r) (d':=d') v (l p E.2.1);exact(congrArg F this).mp h.2.2
  |call c f as ids obs fz=>
   have hce:=JZ z rfl;obtain⟨hc,eargs,R,J,I,⟨Z,B,H⟩,G⟩:=h;obtain⟨hu0,E⟩:=G Z B H;obtain⟨N,O⟩:=vj (d:=(aft (Zz e.mi st.s) ids fz Z B (k0+e.i) (64*(C.off+e.o.dst.getD 0))).1) hu0;dsimp only at E;rw[N,O,q]at E;cases L with
   |none=>assumption
   |some L=>
    cases L with
    |call c' f' as' ids' obs' fz'=>have hcj:=JZ q rfl;simp_all
    |ro f' args'=>have hcj:=JZ q rfl;simp_all
    |det c' d' u'=>
     refine⟨E.1,E.2.1,?_⟩;obtain⟨S,T⟩:=ve (d:=d') E.2.1;try dsimp only
     rw[S,T,z];refine⟨hc,eargs,R,J,I,⟨Z,B,H⟩,λr A V=>?_⟩;obtain⟨p,h⟩:=G r A V;obtain⟨N,O⟩:=vj (d:=(aft (Zz e.mi st.s) ids fz r A (k0+e.i) (64*(C.off+e.o.dst.getD 0))).1) p;dsimp only at h;rw[N,O,q]at h;refine⟨p,?_⟩;have:=Xba (st:=st) (e:=e.o.dst) (j:=j.o.dst) (n:=st.n) (k:=st.k) (d:=(aft (Zz e.mi st.s) ids fz r A (k0+e.i) (64*(C.off+e.o.dst.getD 0))).1) (d':=d') v (l p E.2.1);exact(congrArg F this).mp h.2.2
def Xcd{K:St->Prop}{j:En}{l:List En}:∀{f:List En} {st:St},(∀e∈f,Xc0 e j=true)->dr P C full k0 (f++j::l) st K->JX P C full k0 j st λst=>dr P C full k0 (f++l) st K
 |[],st,_,h=>h
 |e::f,st,g,h=>by
  have p:JX P C full k0 e st λst=>JX P C full k0 j st λst=>dr P C full k0 (f++l) st K:=
   Xh0 (λst o=>Xcd (λx q=>g x (Ul _ q)) o) h
  exact Xh1 (g e ab) p
end
variable {P:Program}
section
variable {s s':Heap}
mutual
def lend_le(g:HLe s s'):∀{d:D} {e:List Nat}{r},lend s e d=some r->lend s' e d=some r
 |.ept id ver z i c,e,r,h=>by
  unfold lend at h⊢;split at h
  .rename_i f;rw[g _ _ f];exact h
  simp_all
 |.agg l,e,r,h=>by
  unfold lend at h⊢;split at h
  .rename_i f;rw[J0 g f];exact h
  simp_all
 |.tup l,e,r,h=>by
  unfold lend at h⊢;split at h
  .rename_i f;rw[J0 g f];exact h
  simp_all
 |.ifc t d,e,r,h=>by
  unfold lend at h⊢;split at h
  .rename_i f;rw[lend_le g f];exact h
  simp_all
 |.clo fn a b,e,r,h=>by
  unfold lend at h⊢;split at h
  .rename_i f;rw[J0 g f];split at h
   .rename_i o;rw[J0 g o];exact h
   cases h
  simp_all
 |.osl id ver z off len,e,r,h=>by
  unfold lend at h⊢;split at h
  .rename_i f;rw[snap_le g f];exact h
  simp_all
 |.any,e,r,h=>by assumption
 |.v _,e,r,h=>by assumption
 |.nsl,e,r,h=>by assumption
 |.isl ..,e,r,h=>by assumption
 |.ipt ..,e,r,h=>by assumption
 |.fsl ..,e,r,h=>by assumption
 |.fmp ..,e,r,h=>by assumption
 |.omp ..,e,r,h=>by assumption
def J0(g:HLe s s'):∀{f:List D} {e:List Nat}{r},ZK s e f=some r->ZK s' e f=some r
 |[],e,r,h=>by assumption
 |d::f,e,r,h=>by
  unfold ZK at h⊢;split at h
  .rename_i l;rw[lend_le g l];simp only;split at h
   .rename_i o;rw[J0 g o];exact h
   cases h
  simp_all
end
def Xcr{l f:List Nat}(h:Has s l)(g:Has s f):Has s (l++f):=λi e=>by
 rcases WH.1 e with e|e
 .exact h i e
 exact g i e
mutual
def lend_has:∀{d:D} {f:List Nat}{r},lend s f d=some r->Has s r.2.2.2
 |.ept id ver z i c,f,r,h=>by
  unfold lend at h;split at h
  .split at h
   .split at h<;>simp only[Wt]at h<;>subst h<;>intro i g<;>simp at g
   cases h
  simp_all
 |.agg l,f,r,h=>by
  unfold lend at h;split at h
  .rename_i e;simp at h;subst h;exact Je e
  simp_all
 |.tup l,f,r,h=>by
  unfold lend at h;split at h
  .rename_i e;simp at h;subst h;exact Je e
  simp_all
 |.ifc t d,f,r,h=>by
  unfold lend at h;split at h
  .rename_i e;simp at h;subst h;have:=lend_has e;exact this
  simp_all
 |.clo fn a b,f,r,h=>by
  unfold lend at h;split at h
  .rename_i e;split at h
   .rename_i o;simp at h;subst h;exact Xcr (Je e) (Je o)
   cases h
  simp_all
 |.osl id ver z off len,f,r,h=>by
  unfold lend at h;split at h
  .rename_i e;simp at h;subst h;exact snap_has e
  simp_all
 |.any,f,r,h=>by
  unfold lend at h;split at h
  .rename_i e;simp at h;subst h;exact snap_has e
  simp_all
 |.v _,f,r,h=>by
  unfold lend at h;split at h
  .rename_i e;simp at h;subst h;exact snap_has e
  simp_all
 |.nsl,f,r,h=>by
  unfold lend at h;split at h
  .rename_i e;simp at h;subst h;exact snap_has e
  simp_all
 |.isl ..,f,r,h=>by
  unfold lend at h;split at h
  .rename_i e;simp at h;subst h;exact snap_has e
  simp_all
 |.ipt ..,f,r,h=>by
  unfold lend at h;split at h
  .rename_i e;simp at h;subst h;exact snap_has e
  simp_all
 |.fsl ..,f,r,h=>by simp_all[lend,snap]
 |.fmp ..,f,r,h=>by simp_all[lend,snap]
 |.omp ..,f,r,h=>by simp_all[lend,snap]
def Je:∀{f:List D} {e:List Nat}{r},ZK s e f=some r->Has s r.2.2.2
 |[],e,r,h=>by simp only[ZK,Wt]at h;subst h;intro i o;simp_all
 |d::f,e,r,h=>by
  unfold ZK at h;split at h
  .rename_i g;split at h
   .rename_i l;simp at h;subst h;exact Xcr (lend_has g) (Je l)
   cases h
  simp_all
end
def Xgu(e:HLe s s'):∀{ids:List Nat}{r},Jl s ids=some r->Jl s' ids=some r
 |[],r,h=>by assumption
 |id::ids,r,h=>by
  unfold Jl at h⊢;split at h
  .rename_i f;rw[e _ _ f];simp only;split at h
   .rename_i g l;rw[Jm e g,Xgu e l];exact h
   cases h
  simp_all
def Xen:∀{ids:List Nat}{r},Jl s ids=some r->Has s r.2.2
 |[],r,h=>by simp only[Jl,Wt]at h;subst h;intro i g;simp_all
 |id::ids,r,h=>by
  unfold Jl at h;split at h
  .split at h
   .rename_i e f;simp at h;subst h;exact Xcr (Jc e) (Xen f)
   cases h
  simp_all
def Xgv(e:HLe s s'){args:List D}{r}(h:Zi s args=some r):Zi s' args=some r:=by
 unfold Zi at h⊢;split at h
 .rename_i f;rw[J0 e f];simp only;split at h
  .rename_i g;rw[Xgu e g];exact h
  cases h
 simp_all
def Xfj{args:List D}{g:Prop}{as:List D}{ids:List Nat}{obs:List Ob}{fz:List Nat}(h:Zi s args=some (g,as,ids,obs,fz)):Has s ids/\Has s fz:=by
 unfold Zi at h;split at h
 .rename_i f;split at h
  .rename_i l;obtain⟨_,_,rfl,_,rfl⟩:=h;refine⟨λid e=>?_,Xcr (Je f) (Xen l)⟩;have⟨v,E,z,p,fz,o⟩:=(Zb f ⟨ab,ab⟩).2 id e;exact⟨_,o⟩
  cases h
 simp_all
def Xgw(e:HLe s s'):∀{ids:List Nat} {obs:List Ob},Has s ids->ZP s' ids obs=ZP s ids obs
 |[],obs,_=>by rfl
 |id::ids,[],_=>rfl
 |id::ids,o::obs,h=>by have⟨x,f⟩:=h id ab;have g:=Xgw e (ids:=ids) (obs:=obs) λi l=>h i (Ul _ l);simp only[ZP,f,e _ _ f,g]
def XqR(e:HLe s s'){ids fz:List Nat}(g:Has s ids)(h:Has s fz)(r:D)(f:List Ob)(ver n:Nat):aft s' ids fz r f ver n=aft s ids fz r f ver n:=by unfold aft;rw[Xa6 e h,Xgw e g]
def XoP(mi:List Nat)(s:Heap):HLe (Zz mi s) s:=by intro i x h;unfold Zz at h;simp_all
end
def RelD(P:Program)(C:Cx)(U:Nat->Prop)(st:St)(a:Act)(w:World):Prop:=
 a.defers=C.df/\a.tmps.size=st.n/\∃M β,BLe C.b0 β/\(∀x,Rep P M β (st.t x) (a.tmps.getD x undef))/\UY P C st.s U M β w
section
variable {C:Cx}{st:St}{a:Act}{w:World}{U:Nat->Prop}
def RelD.put{w':World}{u:Up}{U':Nat->Prop}{M':Mem}{β':Loc}{M:Mem}{β:Loc}{d:D}{v:Value}{dst:Option Nat}{r:Nat}(g:a.defers=C.df)(z:a.tmps.size=st.n)(h:BLe C.b0 β)(l:∀x,Rep P M β (st.t x) (a.tmps.getD x undef))(o:MLe M M')(f:BLe β β')(I:UY P C (app st.s u) U' M' β' w')(A:Rep P M' β' d v):RelD P C U' (nx st (XR dst st.n) d u st.n r) (a.put dst v) w':=by
 cases dst with
 |none=>exact⟨g,z,M',β',h.trans f,λx=>(l x).mono o f,I⟩
 |some x=>
  by_cases p:x<st.n
  .simp only[XR,Wq p];refine⟨g,by simp_all[nx,Act.put],M',β',h.trans f,λi=>?_,I⟩;simp only[nx,upd,Act.put];by_cases q:i=x
   .simp_all
   rw[Wk q];have e:(a.tmps.setIfInBounds x v).getD i undef=a.tmps.getD i undef:=by simp[Ne.symm q]
   rw[e];exact(l i).mono o f
  simp only[XR,Wk p];refine⟨g,by simp_all[nx,Act.put],M',β',h.trans f,λi=>?_,I⟩;have e:a.put (some x) v=a:=by simp only[Act.put];rw[Array.setIfInBounds_eq_of_size_le aa]
  rw[e];exact(l i).mono o f
def RelD.drew(h:RelD P C U st a w)(k:Nat):RelD P C U st a {w with drawn:=k}:=by
 have⟨e,f,M,β,g,l,I⟩:=h;refine⟨e,f,M,β,g,l,?_⟩;constructor
 .exact I.mem
 .exact I.used
 .intro id v ob o;have⟨x,p,q⟩:=I.obs id v ob o;exact⟨x,p,q.mono (MLe.refl _) (BLe.refl _) (λ_ _ _=>rfl) (λ_ _ _ _=>rfl)⟩
 .exact I.own
 .exact I.inj
 .exact⟨I.keep.os,I.keep.tape,I.keep.output,I.keep.size,I.keep.block⟩
 .exact I.old
 .exact I.le
 exact I.glob
def Xlw{full:Array Oper}{k0:Nat}{e:En}{F:St->Prop}{K:AW}{Q:Exit->AW}(hr:RelD P C U st a w)(hv:¬U (k0+e.i))(h:JX P C full k0 e st F)(hK:∀Y a' w',RelD P C (λx=>U x\/x=k0+e.i) Y a' w'->F Y->K a' w'):if Region.wanted e.o (yielded full a.tmps)=true then e.o.wp P a w K Q else K (a.put e.o.dst undef) w:=by
 have⟨h1,h2,M,β,h0,h3,I⟩:=hr;have T:∀x,Rep P M β (Km e.ms st.t x) (a.tmps.getD x undef):=λx=>by unfold Km;grind[Rep]
 have B:=XcU I T;have E:=XoP e.mi st.s;have H:F (nx st (XR e.o.dst st.n) (.v undef) [] st.n st.k)->K (a.put e.o.dst undef) w:=λhF=>
  hK _ _ _ (RelD.put (u:=[]) h1 h2 h0 h3 (MLe.refl _) (BLe.refl _) (I.mono λ_ h=>.inl h) (by simp[Rep,XbH])) hF
 have hrun:doK P C e (k0+e.i) (Zz e.mi st.s) (kdO P C (k0+e.i) e.o (Km e.ms st.t) (Zz e.mi st.s)) (λd u=>F (nx st (XR e.o.dst st.n) d u st.n st.k))->e.o.wp P a w K Q:=by
  intro h;unfold kdO at h;split at h
  .rename_i c hc;have L:e.o.op=.call c:=by
    unfold Vh at hc;split at hc
    .grind
    grind
   unfold kd3 at h;split at h
   .rename_i f args l;unfold kd2 at h;split at h
    .rename_i cc as ids obs fz hca;replace hca:=Xkf hca;have⟨hcc,eargs,R,Z,hA,_,N⟩:=h;unfold callee at l;split at l
     .rename_i x hx;split at l
      .rename_i g first caps J
       obtain⟨rfl,rfl⟩:=l;have q:=B x;rw[J]at q;have⟨va,vb,q,ha,hb⟩:=q;have⟨⟨fn,hf,V,hn⟩,_⟩:=id hA;unfold Oper.wp;rw[V7 L hx q hf V hn w];have p:RepL P M β (first++(c.args.toList.map (ev (Km e.ms st.t) C.G)++caps)) (va++(c.args.toList.map a.eval++vb)):=
        ha.append ((RepL.map B _).append hb)
       have⟨hh1,hh2⟩:=Xfj hca;have hca':=Xgv E hca;refine(XiV I (ver:=k0+e.i) hv p hca' hcc Z hA (64*(C.off+e.o.dst.getD 0))).mono ?_;rintro e' w' ⟨v,r,W,M',β',rfl,hR,I',A,hM,hB⟩;have hbox:∀id∈ids,∃v o,st.s id=some (v,o):=λid hid=>by obtain⟨x,hx⟩:=hh1 id hid;exact⟨x.1,x.2,E _ _ hx⟩
       have⟨e1,e2⟩:=Xli st.s ids fz r W (k0+e.i) (64*(C.off+e.o.dst.getD 0)) hbox;rw[←e1]at A;rw[←e2]at I';have ea:=XqR E hh1 hh2 r W (k0+e.i) (64*(C.off+e.o.dst.getD 0));rw[ea]at A I';exact hK _ _ _ (RelD.put h1 h2 h0 h3 hM hB I' A) (N r W hR).2
      cases l
     simp_all
    have⟨eargs,R,hro,hA,_,N⟩:=h;unfold callee at l;split at l
    .rename_i x hx;split at l
     .rename_i g first caps J
      simp only[Wt,Wy]at l;obtain⟨rfl,rfl⟩:=l;have q:=B x;rw[J]at q;simp only[Rep]at q;obtain⟨va,vb,q,ha,hb⟩:=q;obtain⟨⟨fn,hf,V,hn⟩,_⟩:=id hA;unfold Oper.wp;rw[V7 L hx q hf V hn w];rw[Oper.upon_enter];have p:RepL P M β (first++(c.args.toList.map (ev (Km e.ms st.t) C.G)++caps)) (va++(c.args.toList.map a.eval++vb)):=
       ha.append ((RepL.map B _).append hb)
      obtain⟨M1,hM1,hm1,p⟩:=hro st.s U M β w _ E I p;refine(Xot I hM1 hm1 p hA (λr W h=>(N r W h).1)).mono ?_;rintro e' w' ⟨v,r,W,rfl,hR,I',A⟩;exact hK _ _ _ (RelD.put (u:=[]) h1 h2 h0 h3 (MLe.refl _) (BLe.refl _) (I'.mono λ_ h=>.inl h) A) (N r W hR).2
     cases l
    simp_all
   exact h.elim
  unfold kd1 at h;split at h
  .rename_i c d u L;obtain⟨hc,_,hF⟩:=h;have:=Xlg I (ver:=k0+e.i) hv {e.o with dst:=Xgh C.off e.o.dst} a.eval (ev (Km e.ms st.t) C.G) B (λ_=>rfl) (XqE E L) hc;obtain⟨M',β',w',v,z,I',A,hM,hB⟩:=this;rw[Xgj]at z;have O:RelD P C (λx=>U x\/x=k0+e.i) (nx st (XR e.o.dst st.n) d u st.n st.k) (a.put e.o.dst v) w':=RelD.put h1 h2 h0 h3 hM hB I' A;unfold Oper.wp;rcases z with z|⟨z,rfl⟩
   .rw[z];exact hK _ _ _ O hF
   rw[z];exact hK _ _ _ O hF
  exact h.elim
 unfold JX kdE at h;split at h
 .rename_i hg;have hw:Region.wanted e.o (yielded full a.tmps)=true:=by unfold Region.wanted;rw[hg]
  simp_all
 rename_i g want hg;split at h
 .rename_i r S;unfold kdG at h;split at h
  .rename_i b hb;have hval:a.tmps.getD r undef=.bool b:=by have:=T r;rw[hb]at this;simp only[Rep]at this;exact this.1
   have hy:yielded full a.tmps g=some b:=by
    unfold yielded;rw[S];simp only[Of];by_cases hs:r<a.tmps.size
    .simp_all
    simp_all[hs,undef]
   have hw:Region.wanted e.o (yielded full a.tmps)=(b==want):=by unfold Region.wanted;rw[hg];simp only;rw[hy];rfl
   rw[hw];cases hbw:(b==want)with
   |true=>simp_all
   |false=>rw[hbw]at h;rw[Wk ab];exact H h.2.2
  .rename_i vs hb;have hval:a.tmps.getD r undef=.tuple vs:=by have:=T r;rw[hb]at this;simp only[Rep]at this;exact this.1
   have hy:yielded full a.tmps g=none:=by
    unfold yielded;rw[S];simp only[Of];by_cases hs:r<a.tmps.size
    .simp_all
    simp_all
   have hw:Region.wanted e.o (yielded full a.tmps)=false:=by unfold Region.wanted;rw[hg];simp only;rw[hy];rfl
   rw[hw,Wk ab];exact H h.2.2
  exact h.elim
 exact h.elim
end
variable {P:Program}
def Xqc(e:En):Bool:=e.o.after.toList.all λd=>!Region.binds .any d||d.on<e.i
def XqS(f:List En)(e:En):Bool:=e.anc.all λx=>e.o.after.toList.any λd=>Region.binds .any d&&(d.on==x||((f[d.on]?).map (·.anc.contains x)).getD false)
def Xqd(f:List En)(j:En):Bool:=f.all λe=>!(e.i<j.i)||j.anc.contains e.i||Xc0 e j
def Xlx(e:List En):Bool:=e.all Xqc&&e.all (XqS e)&&e.all (Xqd e)
def VK(f:List En)(listed:Array Bool):List En:=f.filter λe=>!listed.getD e.i true
section
variable {C:Cx}{ops:Array Oper}{k0:Nat}{es:List En}{Q:Exit->AW}{K:St->Prop}
def UD(k0:Nat)(listed:Array Bool):Nat->Prop:=λv=>v<k0\/∃i,listed.getD i false=true/\v=k0+i
def Xly(g:es.map (·.o)=ops.toList)(p:es.map (·.i)=List.range es.length){j:Nat}{o:Oper}(h:ops[j]? = some o):∃e,e∈es/\es[j]? = some e/\e.i=j/\e.o=o:=by
 have f:(es.map (·.o))[j]? = some o:=by rw[g];simpa using h
 simp at f;obtain⟨e,l,rfl⟩:=f;have q:(es.map (·.i))[j]? = some e.i:=by simp[l]
 grind
def Xgx(h:es.map (·.i)=List.range es.length){e:En}(f:e∈es):e.i<es.length/\es[e.i]? = some e:=by
 obtain⟨j,g,rfl⟩:=WM f;have l:(es.map (·.i))[j]? = some es[j].i:=by simp[g]
 grind
def Xkg(e:es.map (·.i)=List.range es.length):es.Pairwise λa b=>a.i<b.i:=by have:=List.pairwise_lt_range (n:=es.length);grind
def Xur(ho:es.map (·.o)=ops.toList)(hi:es.map (·.i)=List.range es.length)(hc:Xlx es=true)(hQ:∀st a w,RelD P C (λv=>v<k0+es.length) st a w->K st->Q .normal a w):
 ∀(fuel:Nat) (listed:Array Bool) (a:Act) (w:World) (st:St),(VK es listed).length=fuel->listed.size=es.length->RelD P C (UD k0 listed) st a w ->
  (∀e∈es,listed.getD e.i false=true->∀x∈e.anc,listed.getD x false=true)->dr P C ops k0 (VK es listed) st K->wpAny P .any ops Q fuel listed a w:=by
 unfold Xlx at hc;simp at hc;have⟨⟨hedge,hanc⟩,hpair⟩:=hc;have J:=Xkg hi;have getD_flip:∀(listed:Array Bool) (x:Nat),x<listed.size->(listed.getD x true=listed.getD x false):=by intro listed x H;simp[H]
 intro fuel;induction fuel with
 |zero=>
  intro listed a w st p hsz hr hcl hd;have hnil:VK es listed=[]:=WN p;refine⟨?_,?_⟩
  .cases hrd:Region.ready .any ops listed with
   |nil=>rfl
   |cons j js=>
    have hj:j∈Region.ready .any ops listed:=by rw[hrd];simp
    have⟨q,o,hoj,_⟩:=mem_ready.1 hj;have⟨e,he,_,L,_⟩:=Xly ho hi hoj;have:e∈VK es listed:=UB.2 ⟨he,by rw[L,q];rfl⟩;simp_all
  rw[hnil]at hd;refine hQ st a w ?_ hd;have⟨A,g,M,β,h0,B,I⟩:=hr;refine⟨A,g,M,β,h0,B,I.mono λv hv=>?_⟩;rcases hv with hv|⟨i,E,rfl⟩
  .exact Iq hv (Nat.le_add_right _ _)
  grind
 |succ fuel ih=>
  intro listed a w st p hsz hr hcl hd;refine⟨λhnil=>?_,λj hj=>?_⟩
  ·
   cases N:VK es listed with
   |nil=>simp_all
   |cons e l=>
    have O:e∈VK es listed:=by rw[N];simp
    have⟨he,q⟩:=UB.1 O;have S:(VK es listed).Pairwise λa b=>a.i<b.i:=J.filter _;rw[N,IS]at S;have⟨hlt,T⟩:=Xgx hi he;have hoe:ops[e.i]? = some e.o:=by
     have:(es.map (·.o))[e.i]? = some e.o:=by simp[T]
     rw[ho]at this;simpa using this
    have:e.i∈Region.ready .any ops listed:=by
     refine mem_ready.2 ⟨by simpa using q,e.o,hoe,λd hd hb=>?_⟩;have A:=hedge e he;unfold Xqc at A;simp only[Ud]at A;have g:=A d (by simpa using hd);simp only[hb,Wi,Ii,decide_eq_true_eq]at g;have r:d.on<es.length:=aa;cases hv:listed.getD d.on false with
     |true=>rfl
     |false=>
      have V:es[d.on]∈VK es listed:=by
       refine UB.2 ⟨WL _,?_⟩;have e1:es[d.on].i=d.on:=by
        have g:(es.map (·.i))[d.on]? = some es[d.on].i:=by simp[r]
        rw[hi,List.getElem?_range r]at g;simpa using g.symm
       rw[e1,getD_flip _ _ aa,hv];rfl
      have e1:es[d.on].i=d.on:=by
       have g:(es.map (·.i))[d.on]? = some es[d.on].i:=by simp[r]
       rw[hi,List.getElem?_range r]at g;simpa using g.symm
      rw[N]at V;rcases UT.1 V with h|h
      .rw[h]at e1;omega
      have:=S.1 _ h;omega
    simp_all
  have⟨q,o,hoj,hall⟩:=mem_ready.1 hj;obtain⟨e,he,T,L,rfl⟩:=Xly ho hi hoj;have O:e∈VK es listed:=UB.2 ⟨he,by rw[L,q];rfl⟩;have⟨l1,l2,hsplit⟩:=List.append_of_mem O;have S:(VK es listed).Pairwise λa b=>a.i<b.i:=J.filter _;rw[hsplit]at S;have⟨hs1,hs2,hs3⟩:=I8.1 S;rw[IS]at hs2;have W:j<listed.size:=by
   rcases Ur j listed.size with Y|Y
   .exact Y
   simp[Array.getElem?_eq_none Y]at q
  have hap:∀x∈l1,Xc0 x e=true:=by
   intro x H;have hxl:x∈VK es listed:=by rw[hsplit];exact W6 _ H
   obtain⟨hxe,hxun⟩:=UB.1 hxl;have hlt:x.i<e.i:=hs3 x H e ab;have A:=hpair e he;unfold Xqd at A;simp only[Ud]at A;have g:=A x hxe;simp only[hlt,decide_true,Wi,Ii,Ix]at g;rcases g with g|g
   .have B:=hanc e he;unfold XqS at B;simp only[Ud]at B;have h4:=B x.i (by simpa using g);simp only[List.any_eq_true,W9,Ix,beq_iff_eq]at h4;have⟨d,hd,hb,f⟩:=h4;have E:listed.getD d.on false=true:=hall d (by simpa using hd) hb;have hxl:listed.getD x.i false=true:=by
     rcases f with f|f
     .rw[←f];exact E
     cases G:es[d.on]? with
     |none=>rw[G]at f;simp at f
     |some y=>
      rw[G]at f;have hy:=Ue G;have hyi:y.i=d.on:=by
       have r:d.on<es.length:=by
        rcases Ur d.on es.length with Y|Y
        .exact Y
        rw[W3 Y]at G;cases G
       have g:(es.map (·.i))[d.on]? = some y.i:=by simp[G]
       rw[hi,List.getElem?_range r]at g;simpa using g.symm
      exact hcl y hy (by rw[hyi];exact E) x.i (by simpa using f)
    have:x.i<listed.size:=by rw[hsz];exact(Xgx hi hxe).1
    rw[getD_flip _ _ this,hxl]at hxun;cases hxun
   exact g
  rw[hsplit]at hd;have hst:=Xcd hap hd;have Z:VK es (listed.setIfInBounds j true)=l1++l2:=by
   have A:VK es (listed.setIfInBounds j true)=(VK es listed).filter λx=>x.i != j:=by
    unfold VK;rw[List.filter_filter];refine List.filter_congr λx H=>?_;by_cases hxj:x.i=j
    .rw[hxj];simp[W]
    rw[getD_set_ne true (Ne.symm hxj)];simp[hxj]
   rw[A,hsplit,List.filter_append,List.filter_cons];have g:(e.i != j)=false:=by simp[L]
   rw[g];have B:l1.filter (λx=>x.i != j)=l1:=Ie.2 λx H=>by have:=hs3 x H e ab;simp;omega
   have h4:l2.filter (λx=>x.i != j)=l2:=Ie.2 λx H=>by have:=hs2.1 x H;simp;omega
   rw[B,h4];simp
  have hnotU:¬UD k0 listed (k0+e.i):=by
   rintro(h|⟨i,E,h⟩)
   .omega
   have:i=j:=aa;subst this;rw[getD_flip _ _ W,E]at q;cases q
  have hone:=Xlw (Q:=Q) (K:=wpAny P .any ops Q fuel (listed.setIfInBounds j true)) hr hnotU hst λst' a' w' hr' hF=>by
   refine ih (listed.setIfInBounds j true) a' w' st' ?_ (by simpa using hsz) ?_ ?_ (by rw[Z];exact hF)
   .rw[Z];rw[hsplit]at p;simp at p⊢;omega
   .have⟨A,g,M,β,h0,B,I⟩:=hr';refine⟨A,g,M,β,h0,B,I.mono λv hv=>?_⟩;rcases hv with(hv|⟨i,E,rfl⟩)|rfl
    .exact .inl hv
    .exact .inr ⟨i,getD_set_true E,rfl⟩
    exact .inr ⟨j,by simp[W],by rw[L]⟩
   intro y hy E x H;by_cases hyj:y.i=j
   .have hye:y=e:=by have A:=(Xgx hi hy).2;rw[hyj,T]at A;simpa using A.symm
    subst hye;refine getD_set_true ?_;have B:=hanc y hy;unfold XqS at B;simp only[Ud]at B;have h4:=B x H;simp only[List.any_eq_true,W9,Ix,beq_iff_eq]at h4;have⟨d,hd,hb,f⟩:=h4;have E:listed.getD d.on false=true:=hall d (by simpa using hd) hb;rcases f with rfl|f
    .exact E
    cases G:es[d.on]? with
    |none=>rw[G]at f;simp at f
    |some z=>
     rw[G]at f;have hz:=Ue G;have hzi:z.i=d.on:=by
      have r:d.on<es.length:=by
       rcases Ur d.on es.length with Y|Y
       .exact Y
       rw[W3 Y]at G;cases G
      have g:(es.map (·.i))[d.on]? = some z.i:=by simp[G]
      rw[hi,List.getElem?_range r]at g;simpa using g.symm
     exact hcl z hz (by rw[hzi];exact E) x (by simpa using f)
   have e1:(listed.setIfInBounds j true).getD y.i false=listed.getD y.i false:=by simp[Array.getElem?_setIfInBounds_ne (Ne.symm hyj)]
   rw[e1]at E;exact getD_set_true (hcl y hy E x H)
  unfold wpOp;grind
def DrawnG.of{R:St->Prop}{id:Nat}{k:List It}{st:St}{l:List Oper}(N:P.follows .mixedOrders=true)(es:List En)(n:Nat)(L:es.map (·.o)=l)(A:es.map (·.i)=List.range es.length)(O:Xlx es=true)(h:dr P C ⟨l⟩ st.k es st λf=>run P C R n k ⟨f.t,f.s,f.n,st.k+es.length⟩)(t:Prf (⟨l⟩:Array Oper))(g:C.rd=none:=by rfl):DrawnG P C R id ⟨l⟩ k st t:=by
 intro a w S;rw[show fz C.rd=Fence.wide by rw[g];rfl];refine wpIn_wide.2 (wp_region_any N ?_);have p:es.length=l.length:=by rw[←L];simp
 have g:RelD P C (UD st.k (Array.replicate (⟨l⟩:Array Oper).size false)) st a {w with drawn:=w.drawn+1}:=by refine RelD.drew ?_ _;obtain⟨B,E,M,β,G,H,I⟩:=S;exact⟨B,E,M,β,G,H,I.mono λv T=>.inl T⟩
 have q:VK es (Array.replicate (⟨l⟩:Array Oper).size false)=es:=by unfold VK;refine Ie.2 λe J=>?_;have:=(Xgx A J).1;simp[Array.getElem?_replicate,p▸this]
 refine Xur (es:=es) (k0:=st.k) L A O ?_ _ _ a _ st (by simp_all) (by simp_all) g (λe J V=>?_) (by rw[q];exact h)
 .rintro f W w' ⟨B,E,M,β,G,H,I⟩ hK;exact Ym n k (st:=⟨f.t,f.s,f.n,st.k+es.length⟩) ⟨B,E,M,β,G,H,I⟩ hK
 have:=(Xgx A J).1;simp_all
end
variable {P:Program}
def Xsl:Nat->List Oper->List (List Nat×List Nat×List Nat×List Nat)->List En
 |i,o::l,(a,w,m,k)::x=>⟨i,o,a,w,m,k⟩::Xsl (i+1) l x
 |_,_,_=>[]
def CallD(P:Program)(G:Nat->Option (List D))(f:FuncId)(args:List D)(obs:List Ob)(K:D->List Ob->Prop)[Tag (G,K)](_:Prf args):Prop:=
 ∃eargs R,Z1 args eargs/\YS P G f eargs obs R/\(∃r e,R r e)/\∀r e,R r e->K r e
def doT(P:Program)(C:Cx)(e:En)(ver:Nat)(s:Heap)(x:Option Kd)(st:St)(F:St->Prop)[Tag (C,e,s,st,F)](_:Prf x):Prop:=
 doK P C e ver s x λd u=>F (nx st (XR e.o.dst st.n) d u st.n st.k)
def Xqe(P:Program)(C:Cx)(s:Heap)(f:FuncId)(args:List D)(K:D->Prop)[Tag (C,s,K)](_:Prf args):Prop:=
 ∃eargs R,RoA P C s args eargs/\YS P C.G f eargs [] R/\(∃r e,R r e)/\∀r e,R r e->scal r=true/\K r
section
variable {C:Cx}{full:Array Oper}{k0:Nat}{st:St}{K F:St->Prop}{e:En}{es:List En}{ver:Nat}{s:Heap}
def XqT:dr P C full k0 [] st K=K st:=propext Iff.rfl
def XoQ:dr P C full k0 (e::es) st K=doT P C e (k0+e.i) (Zz e.mi st.s) (kdE P C full (k0+e.i) e.o (Km e.ms st.t) (Zz e.mi st.s)) st (λst=>dr P C full k0 es st K) trivial:=propext Iff.rfl
def XoR{c:Prop}{d:D}{u:Up}{f:Prf (some (Kd.det c d u))}:doT P C e ver s (some (.det c d u)) st F f=(c/\KT u e.ws/\Xgi (XR e.o.dst st.n) st.n st.k (λdst n k=>F (nx st dst d u n k)) trivial):=propext Iff.rfl
def Xlz{c:Prop}{f:FuncId}{as:List D}{ids:List Nat}{obs:List Ob}{fz:List Nat}{g:Prf (some (Kd.call c f as ids obs fz))}:doT P C e ver s (some (.call c f as ids obs fz)) st F g=(c/\CallD P C.G f as obs (λr h=>
 XqF (aft s ids fz r h ver (64*(C.off+e.o.dst.getD 0))) (XR e.o.dst st.n) st.n st.k (λdst d u n k=>KT u e.ws/\F (nx st dst d u n k)) trivial) trivial):=propext Iff.rfl
def XqU{f:FuncId}{args:List D}{g:Prf (some (Kd.ro f args))}:doT P C e ver s (some (.ro f args)) st F g=Xqe P C s f args (λr=>Xgi (XR e.o.dst st.n) st.n st.k (λdst n k=>F (nx st dst r [] n k)) trivial) trivial:=propext Iff.rfl
def XqV{r:Nat}{x:Option Kd}:kdG (.v (.bool true)) r true x=x:=rfl
def XqW{r:Nat}{x:Option Kd}:kdG (.v (.bool false)) r false x=x:=rfl
def XqX{r:Nat}{x:Option Kd}:kdG (.v (.bool true)) r false x=some (.det True (.v undef) []):=rfl
def XqY{r:Nat}{x:Option Kd}:kdG (.v (.bool false)) r true x=some (.det True (.v undef) []):=rfl
def Xsm{r:Nat}{want:Bool}{x:Option Kd}{f:Array Value}:kdG (.v (.tuple f)) r want x=some (.det True (.v undef) []):=rfl
def XlA{dst:Option Nat}{op:Op}{ty:Nat}{pos:String}{af:Array Edge}{t:Nat->D}:kdE P C full ver ⟨dst,op,ty,pos,af,none⟩ t s=kdO P C ver ⟨dst,op,ty,pos,af,none⟩ t s:=rfl
def kdF(r:Option Nat)(t:Nat->D)(want:Bool)(x:Option Kd):Option Kd:=match r with
 |some r=>kdG (t r) r want x
 |none=>none
def XlB{r:Nat}{t:Nat->D}{want:Bool}{x:Option Kd}:kdF (some r) t want x=kdG (t r) r want x:=rfl
def XlC{dst:Option Nat}{op:Op}{ty:Nat}{pos:String}{af:Array Edge}{t:Nat->D}{g:Nat}{want:Bool}:kdE P C full ver ⟨dst,op,ty,pos,af,some (g,want)⟩ t s=kdF ((full[g]?).bind (·.dst)) t want (kdO P C ver ⟨dst,op,ty,pos,af,some (g,want)⟩ t s):=by rfl
def kdI(P:Program)(C:Cx)(x:Option Call)(ver:Nat)(o:Oper)(t:Nat->D)(s:Heap):Option Kd:=match x with
 |some c=>kd3 C.G s (callee (ev t C.G) c)
 |none=>kd1 (opF P (Xgh C.off o.dst) ver (ev t C.G) s o.op)
def XqZ{o:Oper}{t:Nat->D}:kdO P C ver o t s=kdI P C (Vh o.op) ver o t s:=by rfl
def XlD{o:Oper}{t:Nat->D}:kdI P C none ver o t s=kd1 (opF P (Xgh C.off o.dst) ver (ev t C.G) s o.op):=rfl
def XlE{o:Oper}{t:Nat->D}{c:Call}:kdI P C (some c) ver o t s=kd3 C.G s (callee (ev t C.G) c):=rfl
def XlF{c:Prop}{d:D}{u:Up}:kd1 (some (c,d,u))=some (.det c d u):=rfl
def XlG{f:Nat}{args:List D}{g:Prop}{as:List D}{ids:List Nat}{obs:List Ob}{fz:List Nat}:kd2 f args (some (g,as,ids,obs,fz))=some (.call g f as ids obs fz):=rfl
def XlH{f:Nat}{args:List D}:kd2 f args none=some (.ro f args):=rfl
def XlI{G:Nat->Option (List D)}{f:Nat}{args:List D}:kd3 G s (some (f,args))=kd2 f args (Xfi G f (Zi s args)):=rfl
def Xq0{G:Nat->Option (List D)}{f:Nat}{α:Type}{x:Option α}(h:G (roK f)=none):Xfi G f x=x:=by unfold Xfi;simp_all
def Xq1{G:Nat->Option (List D)}{f:Nat}{α:Type}{x:Option α}{y:List D}(h:G (roK f)=some y):Xfi G f x=none:=by unfold Xfi;simp_all
def Xkh{ws:List Nat}:KT [] ws=True:=by simp[KT]
def Xh2{i v:Nat}{o:Ob}{u:Up}{ws:List Nat}:KT ((i,v,o)::u) ws=(i∈ws/\KT u ws):=by simp[KT]
def XlJ{ms:List Nat}{t:Nat->D}{x:Nat}:Km ms t x=if ms.contains x then .any else t x:=rfl
def XlK{ms:List Nat}{x:Nat}:Zz ms s x=if ms.contains x then none else s x:=rfl
def Xq{b:Bool}{r:Nat}{x:Option Kd}(f:st.t r=.v (.bool b))(g:b=true->doT P C e ver s x (Xan st r (.v (.bool true))) F trivial)(h:b=false->doT P C e ver s (some (.det True (.v undef) [])) (Xan st r (.v (.bool false))) F trivial)(t':Prf (kdG (.v (.bool b)) r true x)):doT P C e ver s (kdG (.v (.bool b)) r true x) st F t':=by
 cases b
 .have:=h rfl;rw[Zp f]at this;exact this
 have:=g rfl;rw[Zp f]at this;exact this
def Xr{b:Bool}{r:Nat}{x:Option Kd}(f:st.t r=.v (.bool b))(g:b=true->doT P C e ver s (some (.det True (.v undef) [])) (Xan st r (.v (.bool true))) F trivial)(h:b=false->doT P C e ver s x (Xan st r (.v (.bool false))) F trivial)(t':Prf (kdG (.v (.bool b)) r false x)):doT P C e ver s (kdG (.v (.bool b)) r false x) st F t':=by
 cases b
 .have:=h rfl;rw[Zp f]at this;exact this
 have:=g rfl;rw[Zp f]at this;exact this
def CallD.of{G:Nat->Option (List D)}{f:FuncId}{args eargs:List D}{obs:List Ob}{R K:D->List Ob->Prop}(h:YS P G f eargs obs R)(p:Z1 args eargs)(o:∃r g,R r g)(hK:∀r g,R r g->K r g)(t':Prf args):CallD P G f args obs K t':=
 ⟨eargs,R,p,h,o,hK⟩
end
def XoS{f:List Ob}:Jk f 1000000=(f[0]?).map (λo=>(0,o)):=Jn (j:=0)
def XoT{f:List Ob}:Jk f 1000001=(f[1]?).map (λo=>(0,o)):=Jn (j:=1)
def XoU{f:List Ob}:Jk f 1000002=(f[2]?).map (λo=>(0,o)):=Jn (j:=2)
def XoV{f:List Ob}:Jk f 1000003=(f[3]?).map (λo=>(0,o)):=Jn (j:=3)
def XoW{f:List Ob}:Jk f 1000004=(f[4]?).map (λo=>(0,o)):=Jn (j:=4)
def XoX{f:List Ob}:Jk f 1000005=(f[5]?).map (λo=>(0,o)):=Jn (j:=5)
attribute [go_sem] LB XoS XoT XoU XoV XoW XoX
attribute [go_sem ↓] XqT XoQ XlA XlC XqZ
attribute [go_sem] XoR Xlz XqU XlH XqV XqW XqX XqY Xsm XlB XlD XlE XlF XlG XlI Xkh Xh2 XlJ XlK Xsl List.contains_cons List.contains_nil Bool.or_false Bool.or_true Ii Bool.true_or
attribute [go_sem ↓] Xox Xlk Xoy Xll XqG Xlm Xoz Xln Xj5 Xlo Xj6 Xj7 XoA Xlp XhV Xj8 Xgn Xgo Xkd
attribute [go_sem] Xgp Xj9 Xka Xkb Xkc Xlq XoB XoC XhW Xlr XhX XhY XhZ Xgq Xgr Xgs Xcq Xgt Xr8 Xr9 Xsa XqH Xsb Xsc Xsd Xse Xsf XqI XoE Xsg Xgm Xgh XoD Xun Xuo Xup Xr6 Xr7 Xuq Xsh Xsi Xsj Xsk ZE Y7 Kw Xke Jn XqN XqO XqP XqQ
attribute [go_sem] XcN XhI Xe5 Xd4 Xa0 Xam XhJ Option.isSome_some Option.isSome_none Option.isNone_some Option.isNone_none
attribute [go_sem] undef Vh callee opF ev ofV Xk2 okV XR Xca Xk3 ivD ivO Xe3 JS elems Ji XcL XcM Ks D.cells D.one Value.oneCell' Ow.isAgg Ow.isIface KV Xd3 XaA XaB snap ZO Vz XaY Xd2 Zi ZK lend Jl pos ZP aft scal JV VE imp Vw JM Xgl Xlj XhU shut Xcc Xa7 Xov Yk Xe4 Xy
attribute [go_sem] Um Ig Ub Uy List.getElem?_cons_zero List.getElem?_cons_succ List.getElem?_nil U5 Option.getD_none Of U4 IX U8 true_and and_true ne_eq false_implies Uj UG W4 WR WV WO UX Wb Wa Wi W7 if_true if_false ite_true ite_false U9 List.isEmpty_nil List.isEmpty_cons Bool.and_true Bool.and_false W8 Uw If Uk IO List.getD_cons_zero List.getD_cons_succ W0 List.drop_succ_cons List.take_succ_cons List.take_zero List.head?_cons List.headD_cons List.all_cons List.all_nil Ip List.set_cons_succ UT List.not_mem_nil or_false or_true false_or not_false_eq_true not_true_eq_false On List.nodup_cons implies_true forall_const decide_true decide_false and_self XqJ XqK XoF XoG XoH XoI XoJ XoK XqL XqM XoL XoM XoN XoO Xi0 Xi1 List.replicate_succ List.replicate_zero
variable {P:Program}
def XoY(n:Int):IntKind.wrap .i64 n=wI n:=rfl
def XoZ(n:Int):IntKind.wrap .u64 n=wU n:=rfl
def Xo0(n:Int):IntKind.wrap .u32 n=wW n:=rfl
section
variable {k k':IntKind}{a b:Int}{T:Nat}{p q:Bool}{xs ys:List D}
def XlL:YX P .add T (.v (.int k a)) (.v (.int k b))=some (True,.v (.int k (k.wrap (a+b)))):=by simp[YX,Vv]
def XlM:YX P .sub T (.v (.int k a)) (.v (.int k b))=some (True,.v (.int k (k.wrap (a-b)))):=by simp[YX,Vv]
def XlN:YX P .mul T (.v (.int k a)) (.v (.int k b))=some (True,.v (.int k (k.wrap (a*b)))):=by simp[YX,Vv]
def XlO:YX P .quo T (.v (.int k a)) (.v (.int k b))=some (b≠0,.v (.int k (k.wrap (a.tdiv b)))):=by simp[YX,Vv]
def XlP:YX P .rem T (.v (.int k a)) (.v (.int k b))=some (b≠0,.v (.int k (a.tmod b))):=by simp[YX,Vv]
def XlQ:YX P .and T (.v (.int k a)) (.v (.int k b))=some (True,.v (.int k (Y4 k a b))):=by simp[YX,Vv,Y4]
def Xo1:YX P .or T (.v (.int k a)) (.v (.int k b))=some (True,.v (.int k (bOr k a b))):=by simp[YX,Vv,bOr]
def XlR:YX P .xor T (.v (.int k a)) (.v (.int k b))=some (True,.v (.int k (Xod k a b))):=by simp[YX,Vv,Xod]
def Xgy:YX P .andNot T (.v (.int k a)) (.v (.int k b))=some (True,.v (.int k (XaW k a b))):=by simp[YX,Vv,XaW]
def XlS:YX P .eql T (.v (.int k a)) (.v (.int k b))=some (True,.v (.bool (a==b))):=by simp[YX,Vv]
def XlT:YX P .neq T (.v (.int k a)) (.v (.int k b))=some (True,.v (.bool (a != b))):=by simp[YX,Vv]
def XlU:YX P .lss T (.v (.int k a)) (.v (.int k b))=some (True,.v (.bool (a<b))):=by simp[YX,Vv]
def XlV:YX P .leq T (.v (.int k a)) (.v (.int k b))=some (True,.v (.bool (a<=b))):=by simp[YX,Vv]
def XlW:YX P .gtr T (.v (.int k a)) (.v (.int k b))=some (True,.v (.bool (a>b))):=by simp[YX,Vv]
def XlX:YX P .geq T (.v (.int k a)) (.v (.int k b))=some (True,.v (.bool (a>=b))):=by simp[YX,Vv]
def XlY:YX P .shl T (.v (.int k a)) (.v (.int k' b))=some (0<=b,.v (.int k (ZN k a b))):=by rfl
def XlZ:YX P .shr T (.v (.int k a)) (.v (.int k' b))=some (0<=b,.v (.int k (YD k a b))):=by rfl
def isB:Option Ow->Option (Prop×D)->Option (Prop×D)
 |some ⟨_,_,_,.bool⟩,x=>x
 |_,_=>none
def Xsn{x y:Nat}{z:Value}{r:Option (Prop×D)}:isB (some ⟨x,y,z,.bool⟩) r=r:=rfl
def Xl0:YX P .eql T (.v (.bool p)) (.v (.bool q))=isB (Xu P T) (some (True,.v (.bool (p==q)))):=by simp only[YX];unfold isB;grind
def Xl1:YX P .neq T (.v (.bool p)) (.v (.bool q))=isB (Xu P T) (some (True,.v (.bool (!(p==q))))):=by simp only[YX];unfold isB;grind
def eqA(neg:Bool):Option (List (Option IntKind))->List D->List D->Option (Prop×D)
 |some f,xs,ys=>(Yk f xs ys).map λb=>(True,.v (.bool (bif neg then !b else b)))
 |none,_,_=>none
def Xl2{neg:Bool}{f:List (Option IntKind)}:eqA neg (some f) xs ys=(Yk f xs ys).map λb=>(True,.v (.bool (bif neg then !b else b))):=rfl
def Xl3:YX P .eql T (.agg xs) (.agg ys)=eqA false (Yg P T) xs ys:=by
 simp only[YX];cases Yg P T with
 |none=>rfl
 |some f=>simp only[eqA];cases Yk f xs ys<;>rfl
def Xl4:YX P .neq T (.agg xs) (.agg ys)=eqA true (Yg P T) xs ys:=by
 simp only[YX];cases Yg P T with
 |none=>rfl
 |some f=>simp only[eqA];cases Yk f xs ys<;>rfl
end
def Xki{c:Prop}[Decidable c]{x y:Option (Prop×D×Up)}{dst:Option Nat}{m j:Nat}{f:Option Nat->D->Up->Nat->Nat->Prop}{g:Prf (if c then x else y)}:Xb8 (if c then x else y) dst m j f g=(if c then Xb8 x dst m j f trivial else Xb8 y dst m j f trivial):=by grind
def Xo2{c:Prop}[Decidable c]{x y:Option (Prop×D×Up)}:kd1 (if c then x else y)=(if c then kd1 x else kd1 y):=by grind
def Xo3{C:Cx}{e:En}{ver:Nat}{s:Heap}{c:Prop}[Decidable c]{x y:Option Kd}{st:St}{F:St->Prop}{f:Prf (if c then x else y)}:doT P C e ver s (if c then x else y) st F f=(if c then doT P C e ver s x st F trivial else doT P C e ver s y st F trivial):=by grind
def Xl5{α β:Type}{c:Prop}[Decidable c]{f:α->β}{x y:Option α}:Option.map f (if c then x else y)=if c then Option.map f x else Option.map f y:=by split<;>rfl
def Xl6{c a b:Prop}[Decidable c](f:c->a)(g:¬c->b):if c then a else b:=by simp_all
def Eqs(e:D)(f:List Ob)(d:D)(os:List Ob):Prop:=d=e/\os=f
def Xq2{e:D}{f:List Ob}:∃d os,Eqs e f d os:=⟨_,_,rfl,rfl⟩
def Xt{a b:Prop}(h:a)(f:b):a/\b:=⟨h,f⟩
def Xl7{α:Type}{l:List α}{n:Nat}(h:l.length<=n):l.take n=l:=Uu h
def Xl8{C:Cx}{R:St->Prop}{c:Code}{k:List It}{st:St}{α β:Type}{o:Option α}{f:α->Option β}{r:β}{I:(α->Prop)->Nat->St->Prop}(v:bnd o f=some r)(m n:Nat)(z:∀g,o=some g->f g=some r->I (λy=>f y=some r) n st)(round:∀n st,I (λy=>f y=some r) n st->run P C R m (.code c::.stop (λh=>∃l,l<n/\I (λy=>f y=some r) l h)::k) st)(t':Prf c):LoopG P C R c k st t':=
 Xaq v λg A B=>LoopG.of (I (λy=>f y=some r)) m n (z g A B) round t'
def Xfk{α:Type}{x:α}{l:List α}{n:Nat}:List.take (1+n) (x::l)=x::List.take n l:=by grind
def CallG.ofE{G:Nat->Option (List D)}{f:FuncId}{args eargs:List D}{obs g:List Ob}{e:D}{K:D->List Ob->Prop}(h:YS P G f eargs obs (Eqs e g))(l:Z1 args eargs)(hK:K e g)(t':Prf args):CallG P G f args obs K t':=
 CallG.of h l (λ_ _ ⟨o,r⟩=>o▸r▸hK) t'
def CallD.ofE{G:Nat->Option (List D)}{f:FuncId}{args eargs:List D}{obs g:List Ob}{e:D}{K:D->List Ob->Prop}(h:YS P G f eargs obs (Eqs e g))(l:Z1 args eargs)(hK:K e g)(t':Prf args):CallD P G f args obs K t':=
 CallD.of h l Xq2 (λ_ _ ⟨o,r⟩=>o▸r▸hK) t'
def XK{d e:D}{obs f:List Ob}(h:fitsR d e/\obs=f):RetG d obs (Eqs e f):=⟨_,h.1,rfl,h.2⟩
def Xq3{a c:Nat}{b d:Ob}:(some (a,b)=some (c,d))=(a=c/\b=d):=by simp
def Xso{a b:D}{l m:List D}:(a::l=b::m)=(a=b/\l=m):=by simp
def Xq4{a b:List D}{l m:List (List D)}:(a::l=b::m)=(a=b/\l=m):=by simp
def Xq5{a b:Ob}{l m:List Ob}:(a::l=b::m)=(a=b/\l=m):=by simp
attribute [go_sem] fits Z1 fitsR Vi Xso Xq4 Xq5 Xq3 D.osl.injEq D.ept.injEq Ob.arr.injEq exists_eq_left' exists_eq_left exists_eq exists_eq' exists_and_left exists_const or_self true_or or_true false_or or_false false_and and_false eq_self
attribute [go_sem] Xl5 Xki Xo2 Xo3 Xfk Nat.sub_zero Xl7 XoY XoZ Xo0 XlL XlM XlN XlO XlP XlQ Xo1 XlR Xgy XlS XlT XlU XlV XlW XlX XlY XlZ Xl0 Xl1 Xsn Xl2 Xl3 Xl4 List.map_append List.map_set List.map_take List.map_drop List.map_replicate
end Go.Sx
