import Derived.LoopNIn
import Derived.OrdersIn
import Derived.TacticsIn
import Derived.Scope
import Derived.Test.YtokkmapiallffaaGreatMA
set_option linter.all false
namespace Go.Sx
variable {P:Program}
section
variable {C:Cx}{s:Heap}{U:Nat->Prop}{ver:Nat}{M:Mem}{β:Loc}{w:World}
def XaY{fd:Field}(e:P.cellsOf fd.type≠0)(b o:Nat):(fieldPlace ⟨b,o,none⟩ fd).run P w=.ok ⟨b,o+fd.offset,none⟩ w:=by have:=Jj (P:=P) (t:=fd.type) rfl e w;simp[fieldPlace,this,e,U2]
def Xa6{fields:Array Field}{f off sz ft:Nat}(h:(fields.toList.map λf=>(f.offset,P.cellsOf f.type,f.type))[f]? = some (off,sz,ft)):∃fd,fields[f]? = some fd/\fd.offset=off/\P.cellsOf fd.type=sz/\fd.type=ft:=by simp_all
def Xi5(fields:Array Field)(e:∀fd∈fields.toList,((P.info? fd.type).map (·.size)).isSome=true)(w:World):
 (fields.mapM λf=>do pure (f.offset,←sizeOf f.type):Sem (Array (Nat×Nat))).run P w=.ok (fields.map λf=>(f.offset,P.cellsOf f.type)) w:=by
 rw[Array.mapM_eq_mapM_toList];have:∀l:List Field,(∀fd∈l,((P.info? fd.type).map (·.size)).isSome=true)->(l.mapM λf=>do pure (f.offset,←sizeOf f.type):Sem (List (Nat×Nat))).run P w=.ok (l.map λf=>(f.offset,P.cellsOf f.type)) w:=by
  intro l;induction l with
  |nil=>simp
  |cons f l k=>
   intro h;have p:=h f ac;have g:=k λfd q=>h fd (by simp[q]);cases j:P.info? f.type with
   |none=>simp[j]at p
   |some i=>
    have:(sizeOf f.type).run P w=.ok (P.cellsOf f.type) w:=by simp[sizeOf,typeInfo,j,Program.cellsOf]
    simp only[List.mapM_cons,Sem.run_bind,this,Result.andThen_ok,Sem.run_pure,g,UA]
 have h:=this fields.toList e;simp only[Sem.run_map,h,Result.andThen_ok];congr 1;grind
def XpN(I:U6 P C s U M β w)(_hv:¬U ver){dst:Option Tmp}{type:TypeId}{pos:String}{after:Array Edge}{guard:Option (Nat×Bool)}(ρ:Operand->Value)(t:Operand->D)(hρ:∀x,Rep P M β (t x) (ρ x)){c:Prop}{d:D}{u:Up}(x:Operand)(h:opF P dst ver t s (.move x)=some (c,d,u))(e:c):OpOK P C s u U ver M β ((execOp ρ ⟨dst,(.move x),type,pos,after,guard⟩).run P w) d:=by unfold execOp;obtain⟨rfl,rfl,rfl⟩:=h;exact .val I rfl (hρ x)
def Xlw(I:U6 P C s U M β w)(_hv:¬U ver){dst:Option Tmp}{type:TypeId}{pos:String}{after:Array Edge}{guard:Option (Nat×Bool)}(ρ:Operand->Value)(t:Operand->D)(hρ:∀x,Rep P M β (t x) (ρ x)){c:Prop}{d:D}{u:Up}(x:Operand)(h:opF P dst ver t s (.assign x)=some (c,d,u))(e:c):OpOK P C s u U ver M β ((execOp ρ ⟨dst,(.assign x),type,pos,after,guard⟩).run P w) d:=by unfold execOp;obtain⟨rfl,rfl,rfl⟩:=h;exact .val I rfl (hρ x)
def XpO(I:U6 P C s U M β w)(_hv:¬U ver){dst:Option Tmp}{type:TypeId}{pos:String}{after:Array Edge}{guard:Option (Nat×Bool)}(ρ:Operand->Value)(t:Operand->D)(hρ:∀x,Rep P M β (t x) (ρ x)){c:Prop}{d:D}{u:Up}(g:Operand)(a:Operand)(b:Operand)(h:opF P dst ver t s (.pick g a b)=some (c,d,u))(z:c):OpOK P C s u U ver M β ((execOp ρ ⟨dst,(.pick g a b),type,pos,after,guard⟩).run P w) d:=by
 unfold execOp;simp only[opF]at h;split at h
 .rename_i f k;obtain⟨rfl,rfl,rfl⟩:=h;have e:=hρ g;rw[k]at e;refine .val I (v:=if f then ρ a else ρ b) (by simp[e.1,asBool]) ?_;have j:=hρ a;have hb:=hρ b;unfold XmH;split
  .rename_i p q r y;rw[r]at j;rw[y]at hb;cases f
   .simp[Rep,hb.1,wfV]
   simp[Rep,j.1,wfV]
  cases f
  .exact hb
  exact j
 simp_all
def XmN(I:U6 P C s U M β w)(k:¬U ver){dst:Option Tmp}{type:TypeId}{pos:String}{after:Array Edge}{guard:Option (Nat×Bool)}(ρ:Operand->Value)(t:Operand->D)(_hρ:∀x,Rep P M β (t x) (ρ x)){c:Prop}{d:D}{u:Up}(T:TypeId)(h:opF P dst ver t s (.alloc T)=some (c,d,u))(r:c):OpOK P C s u U ver M β ((execOp ρ ⟨dst,(.alloc T),type,pos,after,guard⟩).run P w) d:=by
 unfold execOp;simp only[opF]at h;split at h
 .rename_i ty j;split at h
  .rename_i v g;split at h
   .rename_i f;obtain⟨rfl,rfl,rfl⟩:=h;have⟨p,q⟩:=Zm (P:=P) (M:=M) (β:=β) g;have e:(Instr.alloc T true (.tuple #[])).run P w=((do pure (Value.pointer (some (←newVar T ty.zero))):Sem Value)).run P w:=by simp[Instr.alloc,KG j]
    exact VOK.op (sem:=Instr.alloc T true (.tuple #[])) (by rw[e];exact XmJ I k j p q f.1 f.2 (KW dst))
   cases h
  cases h
 simp_all
def Xr8(I:U6 P C s U M β w)(g:¬U ver){dst:Option Tmp}{type:TypeId}{pos:String}{after:Array Edge}{guard:Option (Nat×Bool)}(ρ:Operand->Value)(t:Operand->D)(hρ:∀x,Rep P M β (t x) (ρ x)){c:Prop}{d:D}{u:Up}(T:TypeId)(x:Operand)(h:opF P dst ver t s (.box T x)=some (c,d,u))(j:c):OpOK P C s u U ver M β ((execOp ρ ⟨dst,(.box T x),type,pos,after,guard⟩).run P w) d:=by
 unfold execOp;simp only[opF]at h;split at h
 .rename_i ty r k e;split at h
  .rename_i f;obtain⟨rfl,rfl,rfl⟩:=h;have⟨p,q⟩:=K5 e (hρ x);exact VOK.op (XmJ I g k p q j f (KW dst))
  cases h
 simp_all
def XmO(I:U6 P C s U M β w)(_hv:¬U ver){dst:Option Tmp}{type:TypeId}{pos:String}{after:Array Edge}{guard:Option (Nat×Bool)}(ρ:Operand->Value)(t:Operand->D)(hρ:∀x,Rep P M β (t x) (ρ x)){c:Prop}{d:D}{u:Up}(T:TypeId)(parts:Array (Nat×Operand))(h:opF P dst ver t s (.build T parts)=some (c,d,u))(W:c):OpOK P C s u U ver M β ((execOp ρ ⟨dst,(.build T parts),type,pos,after,guard⟩).run P w) d:=by
 unfold execOp;simp only[opF]at h;split at h
 .rename_i ty q;have⟨Y,O⟩:=Xe8 hρ parts.toList;split at h
  .rename_i A Z g B;simp only[Uo,Wy]at h;obtain⟨r,E,rfl,rfl,rfl⟩:=h;have⟨G,S⟩:=Zm (P:=P) (M:=M) (β:=β) g;have⟨H,J,K,k0⟩:=ty;subst B;obtain⟨fields,L,rfl,k⟩:=Vl q;have⟨p,k1,k2⟩:=Xdq _ (λi=>(fields.map λf=>(f.offset,P.cellsOf f.type))[i]?) (λi x z=>by
    simp only[Uo,UW,U3]at z
    obtain⟨y,⟨fd,V,rfl⟩,rfl⟩:=z
    simp[V]) _ (parts.map λx=>(x.1,ρ x.2)).toList A K.cells r E G ac (by simpa using O)
   refine .val I (v:=.agg p) ?_ ?_
   .simp only[Instr.build,Sem.run_bind,KG q,Result.andThen_ok,run_underlying L,Xi5 fields k,k1,Sem.run_pure]
   exact⟨p.toList,ac,k2⟩
  .rename_i A n e sz g B;split at h
   .rename_i te R;simp only[Uo,Wy]at h;obtain⟨r,E,rfl,rfl,rfl⟩:=h;have⟨G,S⟩:=Zm (P:=P) (M:=M) (β:=β) g;have⟨H,J,K,k0⟩:=ty;subst B;have⟨L,N⟩:=K4 q;have j:∀w:World,(sizeOf e).run P w=.ok sz w:=λw=>by rw[YB R,N,Xa4 R]
    have⟨p,k1,k2⟩:=Xdq _ (λi=>some (i*sz,sz)) (λi x z=>z) _ (parts.map λx=>(x.1,ρ x.2)).toList A K.cells r E G ac (by simpa using O);refine .val I (v:=.agg p) ?_ ?_
    .simp only[Instr.build,Sem.run_bind,KG q,Result.andThen_ok,run_underlying L,j,k1,Sem.run_pure]
    exact⟨p.toList,ac,k2⟩
   cases h
  cases h
 simp_all
def XeY(I:U6 P C s U M β w)(p:¬U ver){dst:Option Tmp}{type:TypeId}{pos:String}{after:Array Edge}{guard:Option (Nat×Bool)}(ρ:Operand->Value)(t:Operand->D)(hρ:∀x,Rep P M β (t x) (ρ x)){c:Prop}{d:D}{u:Up}(T:TypeId)(n:Nat)(parts:Array (Nat×Operand))(h:opF P dst ver t s (.buildSlice T n parts)=some (c,d,u))(q:c):OpOK P C s u U ver M β ((execOp ρ ⟨dst,(.buildSlice T n parts),type,pos,after,guard⟩).run P w) d:=by
 unfold execOp;simp only[opF]at h;split at h
 .rename_i a b zz E z r;split at h
  .rename_i W v;split at h
   .rename_i Y f;split at h
    .rename_i e;have⟨y,A,B,G,H⟩:=e;split at h
     .rename_i Z ps l g;simp only[Uo,Wy]at h;obtain⟨es,j,rfl,rfl,rfl⟩:=h;have⟨J,K⟩:=Xe8 hρ parts.toList;have⟨M',I',k,L⟩:=I.freeze l;have⟨N,O⟩:=Xe9 I k g q L K;have R:ps.map (·.1)=(parts.map λx=>(x.1,ρ x.2)).toList.map (·.1):=by rw[O,J,Array.toList_map]
      have S:RepL P M' Yx (ps.map (·.2)) ((parts.map λx=>(x.1,ρ x.2)).toList.map (·.2)):=by rw[Array.toList_map];exact N
      have⟨M2,β2,w2,V,g1,g2,g3,g4,g5⟩:=VOK.op (XeX I' p r v f y A B G H j R S (KW dst));refine⟨M2,β2,w2,V,g1,?_,g3,k.trans g4,g5⟩;rw[Zc,VS];exact g2
     cases h
    cases h
   cases h
  cases h
 simp_all
def XpP(I:U6 P C s U M β w)(_hv:¬U ver){dst:Option Tmp}{type:TypeId}{pos:String}{after:Array Edge}{guard:Option (Nat×Bool)}(ρ:Operand->Value)(t:Operand->D)(hρ:∀x,Rep P M β (t x) (ρ x)){c:Prop}{d:D}{u:Up}(T:TypeId)(a:Operand)(h:opF P dst ver t s (.load T a)=some (c,d,u))(f:c):OpOK P C s u U ver M β ((execOp ρ ⟨dst,(.load T a),type,pos,after,guard⟩).run P w) d:=by
 unfold execOp;simp only[opF]at h;split at h
 .rename_i ty k p o z g j;split at h
  .rename_i e;obtain⟨rfl,rfl,rfl⟩:=h;exact VOK.op (XpJ I g j f e.1 e.2 (hρ a))
  cases h
 simp_all
def XmP(I:U6 P C s U M β w)(_hv:¬U ver){dst:Option Tmp}{type:TypeId}{pos:String}{after:Array Edge}{guard:Option (Nat×Bool)}(ρ:Operand->Value)(t:Operand->D)(hρ:∀x,Rep P M β (t x) (ρ x)){c:Prop}{d:D}{u:Up}(T:TypeId)(a:Operand)(x:Operand)(h:opF P dst ver t s (.store T a x)=some (c,d,u))(g:c):OpOK P C s u U ver M β ((execOp ρ ⟨dst,(.store T a x),type,pos,after,guard⟩).run P w) d:=by
 unfold execOp;simp only[opF]at h;split at h
 .rename_i ty id v z i Y K N;have hp:=hρ a;rw[N]at hp;split at h
  .rename_i O E R L fz j;split at h
   .rename_i S k;split at h
    .rename_i e;have⟨rfl,rfl,f⟩:=e;obtain⟨rfl,rfl,rfl⟩:=h;exact Xhi I K j hp k (hρ x) g.1 g.2.1 g.2.2 f
    cases h
   cases h
  .rename_i O E R L fz j;split at h
   .rename_i c1 Z l p;split at h
    .rename_i S k;split at h
     .rename_i e;have⟨rfl,rfl,f,q⟩:=e;obtain⟨rfl,rfl,rfl⟩:=h;have⟨r,y,A,B⟩:=g;have⟨M',I',G,V⟩:=I.freeze l;have H:=snap_rep I G p r V (hρ x);have J:frz s l id=some (v,.arr false E z L fz):=by unfold frz;rw[Wj q];exact j
      have⟨M2,β2,w2,W,g1,g2,g3,g4,g5⟩:=Xhi (ver:=ver) I' K J (hp.mono G (BLe.refl _)) k H y A B f;refine⟨M2,β2,w2,W,g1,?_,g3,G.trans g4,g5⟩;rw[Zc,VS];exact g2
     cases h
    cases h
   cases h
  cases h
 simp_all
def Xhm(I:U6 P C s U M β w)(_hv:¬U ver){dst:Option Tmp}{type:TypeId}{pos:String}{after:Array Edge}{guard:Option (Nat×Bool)}(ρ:Operand->Value)(t:Operand->D)(hρ:∀x,Rep P M β (t x) (ρ x)){c:Prop}{d:D}{u:Up}(x:Operand)(h:opF P dst ver t s (.nilCheck x)=some (c,d,u))(p:c):OpOK P C s u U ver M β ((execOp ρ ⟨dst,(.nilCheck x),type,pos,after,guard⟩).run P w) d:=by
 unfold execOp;simp only;simp only[opF]at h;split at h
 .rename_i id v z i k g;obtain⟨rfl,rfl,rfl⟩:=h;have e:=hρ x;rw[g]at e;have f:=e;have⟨b,q,_,j⟩:=f;refine .val I (v:=ρ x) ?_ e;rw[j];rfl
 .rename_i z r k g;obtain⟨rfl,rfl,rfl⟩:=h;have e:=hρ x;rw[g]at e;have f:=e;have⟨_,b,o,j,_⟩:=f;refine .val I (v:=ρ x) ?_ e;rw[j];rfl
 simp_all
def Xlx(I:U6 P C s U M β w){op:BinOp}{T:TypeId}{x:D}{ρ:Operand->Value}{e:Operand}{c:Prop}{d:D}(h:XfY P op T x=some (c,d))(p:c){vx:Value}(q:Rep P M β x vx){r:Operand}(g:Xdj e=true)(H:∀v,e=.const v->ρ e=v):VOK P C s [] U ver M β ((do eqGuard op T r e vx (ρ e);binOp op T vx (ρ e):Sem Value).run P w) d:=by
 have j:∃l c,ρ e=.slice none l c:=by
  cases e with
  |const v=>
   simp only[Xdj]at g;unfold Xi1 at g;split at g
   .cases g
   .cases g
   .rename_i l c;exact⟨l,c,H _ rfl⟩
   cases g
  |_=>simp[Xdj]at g
 have⟨u,cy,j⟩:=j;rw[j];have key:∀(a:Option Addr) (l cp:Nat) {y A:Nat} {B:Value} {E z:Nat},Xq P T=some ⟨y,A,B,.slice E z⟩->(Op.equal T (.slice a l cp) (.slice none u cy)).run P w=.ok a.isNone w:=by intro a l cp y A B E z f;unfold Op.equal Op.maxDepth Op.equalIn;cases a<;>simp[run_underlying (XY f).1]
 have k:∀(op:BinOp) (a:Option Addr) (l cp:Nat),(eqGuard op T r e (.slice a l cp) (.slice none u cy)).run P w=.ok () w:=by intro op a l cp;unfold eqGuard;cases op<;>simp
 unfold XfY at h;split at h
 .obtain⟨_,_,_,a,cap,rfl,_,G⟩:=q;split at h
  .rename_i f;obtain⟨rfl,rfl⟩:=h;obtain⟨b,o,rfl,_⟩:=G.resolve_left p;refine .same I (v:=.bool false) ?_ (Zx _);simp[k,binOp,key _ _ _ f]
  .rename_i f;obtain⟨rfl,rfl⟩:=h;obtain⟨b,o,rfl,_⟩:=G.resolve_left p;refine .same I (v:=.bool true) ?_ (Zx _);simp[k,binOp,key _ _ _ f]
  cases h
 .rename_i a l cp;obtain⟨rfl,_⟩:=q;split at h
  .rename_i f;obtain⟨rfl,rfl⟩:=h;refine .same I (v:=.bool a.isNone) ?_ (Zx _);simp[k,binOp,key _ _ _ f]
  .rename_i f;simp only[Wp,Wy]at h;obtain⟨rfl,rfl⟩:=h;refine .same I (v:=.bool (!a.isNone)) ?_ (Zx _);simp[k,binOp,key _ _ _ f]
  cases h
 simp_all
def XmQ(I:U6 P C s U M β w)(_hv:¬U ver){dst:Option Tmp}{type:TypeId}{pos:String}{after:Array Edge}{guard:Option (Nat×Bool)}(ρ:Operand->Value)(t:Operand->D)(hρ:∀x,Rep P M β (t x) (ρ x)){c:Prop}{d:D}{u:Up}(op:BinOp)(T:TypeId)(x:Operand)(y:Operand)(e:TypeId)(g:∀v,y=.const v->ρ y=v)(h:opF P dst ver t s (.binOp op T x y e)=some (c,d,u))(f:c):OpOK P C s u U ver M β ((execOp ρ ⟨dst,(.binOp op T x y e),type,pos,after,guard⟩).run P w) d:=by
 unfold execOp;simp only[opF,Uo,Wy]at h;obtain⟨⟨k,p⟩,hb,rfl,rfl,rfl⟩:=h;split at hb
 .rename_i j;exact VOK.op (Xlx I hb f (hρ x) j g)
 exact VOK.op (XpI I hb f (hρ x) (hρ y) x y)
def XpQ(I:U6 P C s U M β w)(_hv:¬U ver){dst:Option Tmp}{type:TypeId}{pos:String}{after:Array Edge}{guard:Option (Nat×Bool)}(ρ:Operand->Value)(t:Operand->D)(hρ:∀x,Rep P M β (t x) (ρ x)){c:Prop}{d:D}{u:Up}(op:UnOp)(T:TypeId)(x:Operand)(h:opF P dst ver t s (.unOp op T x)=some (c,d,u))(g:c):OpOK P C s u U ver M β ((execOp ρ ⟨dst,(.unOp op T x),type,pos,after,guard⟩).run P w) d:=by
 unfold execOp;simp only;simp only[opF]at h;have e:=hρ x;split at h
 .rename_i b f;obtain⟨rfl,rfl,rfl⟩:=h;rw[f]at e;refine .val I (v:=.bool (!b)) ?_ (Zx _);rw[e.1];simp[Op.unary]
 .rename_i k n f;obtain⟨rfl,rfl,rfl⟩:=h;rw[f]at e;refine .val I (v:=.int k (k.wrap (0-n))) ?_ (ZG _ _ (Z9 _ _));rw[e.1];simp[Op.unary,Op.intArith]
 simp_all
def Xi6(I:U6 P C s U M β w)(_hv:¬U ver){dst:Option Tmp}{type:TypeId}{pos:String}{after:Array Edge}{guard:Option (Nat×Bool)}(ρ:Operand->Value)(t:Operand->D)(hρ:∀x,Rep P M β (t x) (ρ x)){c:Prop}{d:D}{u:Up}(S:TypeId)(T:TypeId)(x:Operand)(h:opF P dst ver t s (.convert S T x)=some (c,d,u))(q:c):OpOK P C s u U ver M β ((execOp ρ ⟨dst,(.convert S T x),type,pos,after,guard⟩).run P w) d:=by
 unfold execOp;simp only;simp only[opF]at h;split at h
 .rename_i tS a b zz k r n f g j;obtain⟨rfl,rfl,rfl⟩:=h;have e:=hρ x;rw[j]at e;have⟨i,y,_,p,_⟩:=Ya f;refine .val I (v:=.int k (k.wrap n)) ?_ (ZG _ _ (Z9 _ _));rw[e.1];simp[convert,run_underlying p,run_underlying (XfZ g),Conv.intToInt]
 simp_all
def Xhn(I:U6 P C s U M β w)(_hv:¬U ver){dst:Option Tmp}{type:TypeId}{pos:String}{after:Array Edge}{guard:Option (Nat×Bool)}(ρ:Operand->Value)(t:Operand->D)(hρ:∀x,Rep P M β (t x) (ρ x)){c:Prop}{d:D}{u:Up}(fn:Fn)(first:Array Operand)(captured:Array Operand)(h:opF P dst ver t s (.makeFunc fn first captured)=some (c,d,u))(f:c):OpOK P C s u U ver M β ((execOp ρ ⟨dst,(.makeFunc fn first captured),type,pos,after,guard⟩).run P w) d:=by
 unfold execOp;obtain⟨rfl,rfl,rfl⟩:=h;refine .val I (v:=.func fn (first.map ρ) (captured.map ρ)) (by simp[Instr.makeFunc]) ?_;refine⟨first.toList.map ρ,captured.toList.map ρ,?_,Xf3 hρ _,Xf3 hρ _⟩;have e:∀l:Array Operand,l.map ρ=⟨l.toList.map ρ⟩:=λl=>by apply Array.ext';simp
 simp_all
def Xf6(I:U6 P C s U M β w)(p:¬U ver){dst:Option Tmp}{type:TypeId}{pos:String}{after:Array Edge}{guard:Option (Nat×Bool)}(ρ:Operand->Value)(t:Operand->D)(hρ:∀x,Rep P M β (t x) (ρ x)){c:Prop}{d:D}{u:Up}(T:TypeId)(l:Operand)(f:Operand)(h:opF P dst ver t s (.makeSlice T l f)=some (c,d,u))(q:c):OpOK P C s u U ver M β ((execOp ρ ⟨dst,(.makeSlice T l f),type,pos,after,guard⟩).run P w) d:=by
 unfold execOp;simp only;simp only[opF]at h;split at h
 .rename_i a b zz E z n m r v y;split at h
  .rename_i K A;split at h
   .rename_i L g;split at h
    .rename_i e;obtain⟨rfl,rfl,rfl⟩:=h;have⟨B,rfl,G,H⟩:=q;have⟨k,J,_⟩:=Vn v (hρ l);have⟨N,j,_⟩:=Vn y (hρ f);rw[J,j];exact VOK.op (XpM I p r A g e.1 e.2 B G H (KW dst))
    cases h
   cases h
  cases h
 simp_all
def XmR(I:U6 P C s U M β w)(_hv:¬U ver){dst:Option Tmp}{type:TypeId}{pos:String}{after:Array Edge}{guard:Option (Nat×Bool)}(ρ:Operand->Value)(t:Operand->D)(hρ:∀x,Rep P M β (t x) (ρ x)){c:Prop}{d:D}{u:Up}(T:TypeId)(x:Operand)(v:Option Operand)(y:Option Operand)(mx:Option Operand)(h:opF P dst ver t s (.slice T x v y mx)=some (c,d,u))(B:c):OpOK P C s u U ver M β ((execOp ρ ⟨dst,(.slice T x v y mx),type,pos,after,guard⟩).run P w) d:=by
 unfold execOp;simp only[opF]at h;split at h
 .rename_i a b zz E sz l V m g j e k;split at h
  .rename_i G p;simp only[Uo,Wy]at h;obtain⟨⟨W,Y⟩,H,rfl,rfl,rfl⟩:=h;have⟨k1,q⟩:=Vo hρ j;have⟨k2,r⟩:=Vo hρ e;have⟨J,e3⟩:=Vo hρ k;simp only[q,r,e3];exact VOK.op (Xls I g p H B (hρ x))
  cases h
 .rename_i a b zz n E K g j e k;split at h
  .rename_i G z Z p L;split at h
   .rename_i f;have⟨N,rfl,O,R,S⟩:=f;obtain⟨rfl,rfl,rfl⟩:=h;have⟨k1,q⟩:=Vo hρ j;have⟨k2,r⟩:=Vo hρ e;have⟨J,e3⟩:=Vo hρ k;simp only[q,r,e3];have A:=hρ x;rw[L]at A;exact VOK.op (Xlt I g p N O R S A)
   cases h
  cases h
 simp_all
def Xf7(I:U6 P C s U M β w)(_hv:¬U ver){dst:Option Tmp}{type:TypeId}{pos:String}{after:Array Edge}{guard:Option (Nat×Bool)}(ρ:Operand->Value)(t:Operand->D)(hρ:∀x,Rep P M β (t x) (ρ x)){c:Prop}{d:D}{u:Up}(T:TypeId)(x:Operand)(f:Nat)(h:opF P dst ver t s (.fieldAddr T x f)=some (c,d,u))(K:c):OpOK P C s u U ver M β ((execOp ρ ⟨dst,(.fieldAddr T x f),type,pos,after,guard⟩).run P w) d:=by
 unfold execOp;simp only;simp only[opF]at h;have k:=hρ x;split at h
 .rename_i a b zz E id v z i j p q;split at h
  .rename_i off sz G r;split at h
   .cases h
   rename_i e;obtain⟨rfl,rfl,rfl⟩:=h;rw[q]at k;have⟨g,H,hb,y⟩:=k;obtain⟨fields,A,rfl,_⟩:=Vl p;have⟨fd,g1,g2,g3,g4⟩:=Xa6 r;have hp:=XaY (P:=P) (w:=w) (fd:=fd) (by rw[g3];exact e) g (i*z+j);refine .val I (v:=.pointer (some ⟨g,i*z+j+off,none⟩)) ?_ ?_
   .rw[y];simp[Instr.fieldAt,run_underlying A,g1,Instr.sureAddr,hp,g2]
   exact⟨g,H,hb,by rw[Nat.add_assoc]⟩
  cases h
 .rename_i a b zz E z L j p q;split at h
  .rename_i off sz G r;split at h
   .cases h
   rename_i e;obtain⟨rfl,rfl,rfl⟩:=h;rw[q]at k;obtain⟨J,g,o,y,B⟩:=k;obtain⟨fields,A,rfl,_⟩:=Vl p;obtain⟨fd,g1,g2,g3,g4⟩:=Xa6 r;have hp:=XaY (P:=P) (w:=w) (fd:=fd) (by rw[g3];exact e) g (o+j);refine .val I (v:=.pointer (some ⟨g,o+j+off,none⟩)) ?_ ?_
   .rw[y];simp[Instr.fieldAt,run_underlying A,g1,Instr.sureAddr,hp,g2]
   simp only[Rep];exact⟨J,g,o,by rw[Nat.add_assoc],B⟩
  cases h
 simp_all
def XmS(I:U6 P C s U M β w)(_hv:¬U ver){dst:Option Tmp}{type:TypeId}{pos:String}{after:Array Edge}{guard:Option (Nat×Bool)}(ρ:Operand->Value)(t:Operand->D)(hρ:∀x,Rep P M β (t x) (ρ x)){c:Prop}{d:D}{u:Up}(T:TypeId)(x:Operand)(f:Nat)(h:opF P dst ver t s (.field T x f)=some (c,d,u))(G:c):OpOK P C s u U ver M β ((execOp ρ ⟨dst,(.field T x f),type,pos,after,guard⟩).run P w) d:=by
 unfold execOp;simp only;simp only[opF]at h;have z:=hρ x;split at h
 .rename_i a b zz R k H J;split at h
  .rename_i off sz S K;split at h
   .rename_i ty g;split at h
    .rename_i p;obtain⟨rfl,rfl,rfl⟩:=h;have⟨A,q⟩:=G;rw[J]at z;have⟨B,L,j⟩:=z;obtain⟨fields,E,rfl,_⟩:=Vl H;have⟨fd,g1,g2,g3,g4⟩:=Xa6 K;subst g4;rw[L];cases e:ty.isAgg with
     |true=>
      refine .val I (v:=.agg ((B.toArray).extract off (off+sz))) ?_ ?_
      .simp[Instr.field,run_underlying E,g1,part,asAgg,K3 g,e,YB g,p,g2]
      refine⟨(B.drop off).take sz,?_,(j.drop off).take sz⟩;congr 1;simp[List.extract_eq_take_drop]
     |false=>
      have N:sz=1:=by rcases q with h|h;(rw[e]at h;cases h);exact h
      subst N;have⟨O,r,y⟩:=j.get off (k[off]'ab) ac;refine .val I (v:=O) ?_ ?_
      .simp[Instr.field,run_underlying E,g1,part,asAgg,K3 g,e,g2,r]
      simp only[Ji,Iu,if_false];have:((k.drop off).take 1).headD .any=k[off]'ab:=by rw[List.take_one];simp[List.head?_drop,show off<k.length by omega]
      rw[this];exact y
    cases h
   cases h
  cases h
 simp_all
def Xf8(I:U6 P C s U M β w)(_hv:¬U ver){dst:Option Tmp}{type:TypeId}{pos:String}{after:Array Edge}{guard:Option (Nat×Bool)}(ρ:Operand->Value)(t:Operand->D)(hρ:∀x,Rep P M β (t x) (ρ x)){c:Prop}{d:D}{u:Up}(T:TypeId)(x:Operand)(ix:Operand)(h:opF P dst ver t s (.indexAddr T x ix)=some (c,d,u))(r:c):OpOK P C s u U ver M β ((execOp ρ ⟨dst,(.indexAddr T x ix),type,pos,after,guard⟩).run P w) d:=by
 unfold execOp;simp only;simp only[opF]at h;have f:=hρ x;split at h
 .rename_i a b zz E sz E' z V i y A B;split at h
  .rename_i G;have⟨rfl,g⟩:=G;obtain⟨rfl,rfl,rfl⟩:=h;have⟨k,H,_⟩:=Vn B (hρ ix);have⟨J,p⟩:=XY y;rw[A]at f;have⟨q1,q2,q3,base,cap,K,R,f⟩:=f;have L:i.toNat<V.length:=ab;rcases f with rfl|⟨q,o,rfl,f⟩
   .simp at L
   have e:∀{n:Nat},sz=n->n≠0->(sizeOf E).run P w=.ok n w:=λ{n} h1 h2=>Jj (p.symm.trans h1) h2 w;have N:=f.get q1 i.toNat V[i.toNat] (by simp[L]);have W:V.getD i.toNat []=V[i.toNat]:=by rw[Wk,Wb L];rfl
   rcases Um sz with S|S
   .exact absurd S g
   refine .val I (v:=.pointer (some ⟨q,o+i.toNat*sz,none⟩)) ?_ ?_
   .rw[K,H];simp[Instr.indexAt,run_underlying J,asIntOf,r.1,r.2,e rfl ab,U2]
   rw[W];exact⟨q1 _ (Ww _),q,o+i.toNat*sz,ac,N⟩
  cases h
 .rename_i a b zz E sz id v z off len i y A B;split at h
  .rename_i G;have⟨rfl,g⟩:=G;obtain⟨rfl,rfl,rfl⟩:=h;obtain⟨k,H,_⟩:=Vn B (hρ ix);obtain⟨J,p⟩:=XY y;rw[A]at f;simp only[Rep]at f;rcases f with⟨_,_,rfl,_,_⟩|⟨q,Y,o,cap,O,K,R,hcb,ho⟩
   .omega
   have Z:o=off*sz:=by rcases ho with h|h;exact h;omega
   subst Z;refine .val I (v:=.pointer (some ⟨q,off*sz+i.toNat*sz,none⟩)) ?_ ?_
   .rw[K,H];have e:=Jj p.symm g w;simp[Instr.indexAt,run_underlying J,asIntOf,r.1,r.2,e,U2]
   simp only[Rep];exact⟨q,Y,O,by rw[Uz];simp⟩
  cases h
 .rename_i a b zz n E sz z cs cc i y A B;split at h
  .cases h
  rename_i g;simp only[Wp,Wy]at h;obtain⟨rfl,rfl,rfl⟩:=h;obtain⟨k,H,_⟩:=Vn B (hρ ix);obtain⟨J,p⟩:=K4 y;have e:=Jj p.symm g w;rw[A]at f;simp only[Rep]at f;obtain⟨hz,q,o,K,N⟩:=f;refine .val I (v:=.pointer (some ⟨q,o+cc+i.toNat*sz,none⟩)) ?_ ?_
  .rw[K,H];simp[Instr.indexAt,run_underlying J,asIntOf,Instr.sureAddr,r.1,r.2,e,U2]
  simp only[Rep];exact⟨hz,q,o,by rw[Nat.add_assoc],N⟩
 .rename_i a b zz n E sz id v z j cc i y A B;split at h
  .cases h
  rename_i g;simp only[Wp,Wy]at h;obtain⟨rfl,rfl,rfl⟩:=h;obtain⟨k,H,_⟩:=Vn B (hρ ix);obtain⟨J,p⟩:=K4 y;have e:=Jj p.symm g w;rw[A]at f;simp only[Rep]at f;obtain⟨q,Y,O,K⟩:=f;refine .val I (v:=.pointer (some ⟨q,j*z+cc+i.toNat*sz,none⟩)) ?_ ?_
  .rw[K,H];simp[Instr.indexAt,run_underlying J,asIntOf,Instr.sureAddr,r.1,r.2,e,U2]
  simp only[Rep];exact⟨q,Y,O,by rw[Nat.add_assoc]⟩
 simp_all
def XmT(I:U6 P C s U M β w)(_hv:¬U ver){dst:Option Tmp}{type:TypeId}{pos:String}{after:Array Edge}{guard:Option (Nat×Bool)}(ρ:Operand->Value)(t:Operand->D)(hρ:∀x,Rep P M β (t x) (ρ x)){c:Prop}{d:D}{u:Up}(T:TypeId)(x:Operand)(ix:Operand)(h:opF P dst ver t s (.index T x ix)=some (c,d,u))(K:c):OpOK P C s u U ver M β ((execOp ρ ⟨dst,(.index T x ix),type,pos,after,guard⟩).run P w) d:=by
 unfold execOp;simp only;simp only[opF]at h;have B:=hρ x;split at h
 .rename_i a b zz n e sz q i L N O;split at h
  .rename_i ty g;split at h
   .rename_i j;obtain⟨rfl,rfl,rfl⟩:=h;have⟨E,G,H,r⟩:=K;have⟨k,R,_⟩:=Vn O (hρ ix);have⟨J,S⟩:=K4 L;rw[N]at B;have⟨y,V,p⟩:=B;rw[V,R];cases f:ty.isAgg with
    |true=>
     refine .val I (v:=.agg ((y.toArray).extract (i.toNat*sz) (i.toNat*sz+sz))) ?_ ?_
     .simp[Instr.index,run_underlying J,asIntOf,E,G,part,asAgg,K3 g,f,YB g,j]
     refine⟨(y.drop (i.toNat*sz)).take sz,?_,(p.drop (i.toNat*sz)).take sz⟩;congr 1;simp[List.extract_eq_take_drop]
    |false=>
     have W:sz=1:=by rcases r with h|h;(rw[f]at h;cases h);exact h
     subst W;have⟨x0,z,A⟩:=p.get (i.toNat*1) (q[i.toNat*1]'ab) ac;refine .val I (v:=x0) ?_ ?_
     .simp[Instr.index,run_underlying J,asIntOf,E,G,part,asAgg,K3 g,f,YB g,j];have:y[i.toNat]? = some x0:=by rw[←z,Nat.mul_one]
      simp[this]
     simp only[Ji,Iu,if_false];have:((q.drop (i.toNat*1)).take 1).headD .any=q[i.toNat*1]'ab:=by rw[List.take_one];have Y:i.toNat<q.length:=ab;simp[List.head?_drop,Y]
     rw[this];exact A
   cases h
  cases h
 simp_all
def Xi7(I:U6 P C s U M β w)(_hv:¬U ver){dst:Option Tmp}{type:TypeId}{pos:String}{after:Array Edge}{guard:Option (Nat×Bool)}(ρ:Operand->Value)(t:Operand->D)(hρ:∀x,Rep P M β (t x) (ρ x)){c:Prop}{d:D}{u:Up}(x:Operand)(i:Nat)(h:opF P dst ver t s (.extract x i)=some (c,d,u))(y:c):OpOK P C s u U ver M β ((execOp ρ ⟨dst,(.extract x i),type,pos,after,guard⟩).run P w) d:=by
 unfold execOp;simp only;simp only[opF]at h;have j:=hρ x;split at h
 .rename_i p q;split at h
  .rename_i k;obtain⟨rfl,rfl,rfl⟩:=h;rw[q]at j;have⟨z,r,e⟩:=j;have⟨v,f,g⟩:=e.get i p[i] (by simp[k]);refine .val I (v:=v) ?_ ?_
   .rw[r];simp[Instr.extract,f]
   rw[Wk,Wb k];exact g
  cases h
 simp_all
def Xbr{t:Operand->D}{ρ:Operand->Value}(hρ:∀x,Rep P M β (t x) (ρ x)){args:Array Operand}{d:D}(h:args.toList.map t=[d]):∃v,args.map ρ=#[v]/\Rep P M β d v:=by
 have⟨l⟩:=args;match l,h with
 |[x],h=>grind
def VT{t:Operand->D}{ρ:Operand->Value}(hρ:∀x,Rep P M β (t x) (ρ x)){args:Array Operand}{d e:D}(h:args.toList.map t=[d,e]):∃v u,args.map ρ=#[v,u]/\Rep P M β d v/\Rep P M β e u:=by
 have⟨l⟩:=args;match l,h with
 |[x,y],h=>grind
def XbX{types:Array TypeId}{T:TypeId}(h:types.toList=[T]):types=#[T]:=by grind
def Xly{types:Array TypeId}{T T2:TypeId}(h:types.toList=[T,T2]):types=#[T,T2]:=by grind
def XaB{n:Nat}(h:n<=Xv):wfV (.int .i64 n):=by simp only[wfV,IntKind.min,IntKind.max,IntKind.signed,IntKind.bits,if_true];grind[Xv]
def Xr9(I:U6 P C s U M β w){dst:Option Tmp}{type:TypeId}{pos:String}{after:Array Edge}{guard:Option (Nat×Bool)}(ρ:Operand->Value)(t:Operand->D)(hρ:∀x,Rep P M β (t x) (ρ x)){c:Prop}{d:D}{u:Up}(args:Array Operand)(types:Array TypeId)(h:opF P dst ver t s (.call ⟨.builtin .len,args,types⟩)=some (c,d,u))(N:c):OpOK P C s u U ver M β ((execOp ρ ⟨dst,.call ⟨.builtin .len,args,types⟩,type,pos,after,guard⟩).run P w) d:=by
 simp only[opF]at h;split at h
 .rename_i d0 T O ht;have⟨v,R,g⟩:=Xbr hρ O;have y:=XbX ht;subst y;have start:∀r:Int,(Builtin.len_ #[T] type #[v]).run P w=.ok (.int .i64 r) w->(execOp ρ ⟨dst,.call ⟨.builtin .len,args,#[T]⟩,type,pos,after,guard⟩).run P w=.ok (.value (.int .i64 r)) w:=by intro r j;simp[execOp,resolve,invoke,builtin,R,j]
  split at h
  .rename_i a b zz E sz e;obtain⟨rfl,rfl,rfl⟩:=h;obtain⟨J,rfl⟩:=g;exact .val I (v:=.int .i64 0) (start 0 (by simp[Builtin.len_,run_underlying (XY e).1,goInt])) (ZG _ _ (XaB (n:=0) ag))
  .rename_i a b zz E sz E' z q e;obtain⟨rfl,rfl,rfl⟩:=h;obtain⟨_,L,_,J,cap,rfl,_⟩:=g;exact .val I (v:=.int .i64 q.length) (start _ (by simp[Builtin.len_,run_underlying (XY e).1,goInt])) (ZG _ _ (XaB L))
  .rename_i a b zz E sz id S z off len e;obtain⟨rfl,rfl,rfl⟩:=h;have A:∃a cap,v=.slice a len cap:=by
    simp only[Rep]at g;rcases g with⟨_,_,rfl,a,rfl⟩|⟨_,_,_,cap,_,rfl,_⟩
    .exact⟨_,_,rfl⟩
    exact⟨_,_,rfl⟩
   obtain⟨J,cap,rfl⟩:=A;exact .val I (v:=.int .i64 len) (start _ (by simp[Builtin.len_,run_underlying (XY e).1,goInt])) (ZG _ _ (XaB N))
  .rename_i a b zz n E sz e;split at h
   .rename_i V;simp only[Wp,Wy]at h;obtain⟨rfl,rfl,rfl⟩:=h;exact .val I (v:=.int .i64 n) (start _ (by simp[Builtin.len_,run_underlying (K4 e).1,goInt])) (ZG _ _ (XaB V))
   cases h
  .rename_i id W _;split at h
   .rename_i k E S k2 q e Y;split at h
    .rename_i f;obtain⟨rfl,rfl⟩:=f;simp only[Wp,Wy]at h;obtain⟨rfl,rfl,rfl⟩:=h;obtain⟨K,B,Z⟩:=Ku e;simp only[Rep]at g;obtain⟨b,cb,hb,rfl⟩:=g;obtain⟨x0,p,G⟩:=I.obs id W _ Y;rw[hb]at p;obtain rfl:some (b,cb)=x0:=by simpa using p
     obtain⟨rfl,h1,L,ents,clock,h3,h4,h5,h6⟩:=G;have hl:=h4.length;have H:ents.size=q.length:=by simpa using hl
     exact .val I (v:=.int .i64 q.length) (start _ (by simp[Builtin.len_,run_underlying B,goInt,Go.MapKept.run_getObj_map h3,H])) (ZG _ _ (XaB h1))
    cases h
   cases h
  cases h
 simp_all
def Xlz(I:U6 P C s U M β w){dst:Option Tmp}{type:TypeId}{pos:String}{after:Array Edge}{guard:Option (Nat×Bool)}(ρ:Operand->Value)(t:Operand->D)(hρ:∀x,Rep P M β (t x) (ρ x)){c:Prop}{d:D}{u:Up}(args:Array Operand)(types:Array TypeId)(h:opF P dst ver t s (.call ⟨.builtin .delete,args,types⟩)=some (c,d,u))(_hc:c):OpOK P C s u U ver M β ((execOp ρ ⟨dst,.call ⟨.builtin .delete,args,types⟩,type,pos,after,guard⟩).run P w) d:=by
 simp only[opF]at h;split at h
 .rename_i id v k' n T R q ht;have⟨v1,v2,G,H,J⟩:=VT hρ q;have⟨tl⟩:=types;subst ht;split at h
  .rename_i k E v' k2 Y Z L;split at h
   .rename_i g;have⟨rfl,rfl,rfl⟩:=g;obtain⟨rfl,rfl,rfl⟩:=h;have⟨K,z,f⟩:=Ku Z;obtain⟨b,cb,hb,rfl⟩:=H;obtain⟨rfl,_⟩:=J;have⟨x0,A,N⟩:=I.obs id v _ L;rw[hb]at A;obtain rfl:some (b,cb)=x0:=by simpa using A
    obtain⟨rfl,h1,h2,ents,clock,r,S,V,W⟩:=N;have start:∀a,Instr.findNow (.int k) (.int k n) ents.toList 0=some a->(Builtin.delete_ ⟨T::R⟩ type #[.map (some b),.int k n]).run P w =
     .ok (.tuple #[]) {w with heap:=w.heap.setIfInBounds b (.map (match a with|some (i,_)=>ents.eraseIdxIfInBounds i|none=>ents) clock)}:=by
     intro a q
     unfold Builtin.delete_
     cases a with
     |none=>simp[run_underlying z,Go.MapKept.run_getObj_map r,Go.MapKept.run_checkKey f (XaA k n),Go.MapKept.run_findKey f q,Go.MapKept.run_setObj_map _ r]
     |some y=>simp[run_underlying z,Go.MapKept.run_getObj_map r,Go.MapKept.run_checkKey f (XaA k n),Go.MapKept.run_findKey f q,Go.MapKept.run_setObj_map _ r]
    have start2:∀a,Instr.findNow (.int k) (.int k n) ents.toList 0=some a->(execOp ρ ⟨dst,.call ⟨.builtin .delete,args,⟨T::R⟩⟩,type,pos,after,guard⟩).run P w =
     .ok (.value (.tuple #[])) {w with heap:=w.heap.setIfInBounds b (.map (match a with|some (i,_)=>ents.eraseIdxIfInBounds i|none=>ents) clock)}:=by
     intro a q
     simp[execOp,resolve,invoke,builtin,G,start a q]
    rcases Xbq n ents.toList Y 0 S with⟨g1,g2,g3,g4⟩|⟨j,e,d0,g1,g2,g3,g4,g5,g6,g7,g8,g9⟩
    .refine⟨M,β,_,.tuple #[],.inl (start2 _ g4),?_,by simp[Rep,RepL],MLe.refl _,BLe.refl _⟩;rw[g2];exact(I.setMap L hb r h1 S V W).mono λ_ h=>.inl h
    have p:(ents.eraseIdxIfInBounds (0+j)).toList=ents.toList.eraseIdx j:=by
     have hj:j<ents.size:=by
      rcases Ux j ents.size with O|O
      .exact O
      rw[WO (by exact O)]at g3;cases g3
     rw[UE];simp[Array.eraseIdxIfInBounds,hj]
    refine⟨M,β,_,.tuple #[],.inl (start2 _ g2),?_,by simp[Rep,RepL],MLe.refl _,BLe.refl _⟩;refine(I.setMap L hb r ab (by rw[p];exact g7) ?_ ?_).mono λ_ h=>.inl h
    .rw[p];exact V.sublist ((List.eraseIdx_sublist _ _).map _)
    intro e' B;rw[p]at B;exact W e' (List.mem_of_mem_eraseIdx B)
   cases h
  cases h
 simp_all
def Xsa(I:U6 P C s U M β w){dst:Option Tmp}{type:TypeId}{pos:String}{after:Array Edge}{guard:Option (Nat×Bool)}(ρ:Operand->Value)(t:Operand->D)(hρ:∀x,Rep P M β (t x) (ρ x)){c:Prop}{d:D}{u:Up}(args:Array Operand)(types:Array TypeId)(h:opF P dst ver t s (.call ⟨.builtin .cap,args,types⟩)=some (c,d,u))(_hc:c):OpOK P C s u U ver M β ((execOp ρ ⟨dst,.call ⟨.builtin .cap,args,types⟩,type,pos,after,guard⟩).run P w) d:=by
 simp only[opF]at h;split at h
 .rename_i p T f ht;have⟨v,g,j⟩:=Xbr hρ f;have e:=XbX ht;subst e;split at h
  .rename_i a b zz E sz k;obtain⟨rfl,rfl,rfl⟩:=h;obtain⟨q,rfl⟩:=j;exact .val I (v:=.int .i64 0) (by simp[execOp,resolve,invoke,builtin,g,Builtin.cap_,run_underlying (XY k).1,goInt]) (ZG _ _ (XaB (n:=0) ag))
  cases h
 simp_all
def Xsb(I:U6 P C s U M β w){dst:Option Tmp}{type:TypeId}{pos:String}{after:Array Edge}{guard:Option (Nat×Bool)}(ρ:Operand->Value)(t:Operand->D)(hρ:∀x,Rep P M β (t x) (ρ x)){c:Prop}{d:D}{u:Up}(args:Array Operand)(types:Array TypeId)(h:opF P dst ver t s (.call ⟨.builtin .min,args,types⟩)=some (c,d,u))(_hc:c):OpOK P C s u U ver M β ((execOp ρ ⟨dst,.call ⟨.builtin .min,args,types⟩,type,pos,after,guard⟩).run P w) d:=by
 simp only[opF]at h;split at h
 .rename_i j a k b g;split at h
  .rename_i p;subst p;have⟨r,y,q,e,f⟩:=VT hρ g;obtain⟨rfl,rfl,rfl⟩:=h;obtain⟨rfl,w1⟩:=e;obtain⟨rfl,w2⟩:=f;refine .val I (v:=.int j (if b<a then b else a)) (by simp[execOp,resolve,invoke,builtin,q,Builtin.min_,Builtin.min2]) (ZG _ _ ?_);split<;>assumption
  cases h
 simp_all
def Xsc(I:U6 P C s U M β w){dst:Option Tmp}{type:TypeId}{pos:String}{after:Array Edge}{guard:Option (Nat×Bool)}(ρ:Operand->Value)(t:Operand->D)(hρ:∀x,Rep P M β (t x) (ρ x)){c:Prop}{d:D}{u:Up}(args:Array Operand)(types:Array TypeId)(h:opF P dst ver t s (.call ⟨.builtin .max,args,types⟩)=some (c,d,u))(_hc:c):OpOK P C s u U ver M β ((execOp ρ ⟨dst,.call ⟨.builtin .max,args,types⟩,type,pos,after,guard⟩).run P w) d:=by
 simp only[opF]at h;split at h
 .rename_i j a k b g;split at h
  .rename_i p;subst p;have⟨r,y,q,e,f⟩:=VT hρ g;obtain⟨rfl,rfl,rfl⟩:=h;obtain⟨rfl,w1⟩:=e;obtain⟨rfl,w2⟩:=f;refine .val I (v:=.int j (if a<b then b else a)) (by simp[execOp,resolve,invoke,builtin,q,Builtin.max_,Builtin.max2]) (ZG _ _ ?_);split<;>assumption
  cases h
 simp_all
def XlA(I:U6 P C s U M β w)(H:¬U ver){dst:Option Tmp}{type:TypeId}{pos:String}{after:Array Edge}{guard:Option (Nat×Bool)}(ρ:Operand->Value)(t:Operand->D)(hρ:∀x,Rep P M β (t x) (ρ x)){c:Prop}{d:D}{u:Up}(args:Array Operand)(types:Array TypeId)(h:opF P dst ver t s (.call ⟨.builtin .append,args,types⟩)=some (c,d,u))(f:c):OpOK P C s u U ver M β ((execOp ρ ⟨dst,.call ⟨.builtin .append,args,types⟩,type,pos,after,guard⟩).run P w) d:=by
 simp only[opF]at h;split at h
 .rename_i d0 x0 T T2 ha ht;have⟨K,L,N,A,B⟩:=VT hρ ha;have O:=Xly ht;subst O;have start:∀{d u},VOK P C s u U ver M β ((Builtin.append_ #[T,T2] type #[K,L]).run P w) d->OpOK P C s u U ver M β ((execOp ρ ⟨dst,.call ⟨.builtin .append,args,#[T,T2]⟩,type,pos,after,guard⟩).run P w) d:=by
   intro d u hk;have:=VOK.op (sem:=Builtin.append_ #[T,T2] type #[K,L]) hk;have e:(execOp ρ ⟨dst,.call ⟨.builtin .append,args,#[T,T2]⟩,type,pos,after,guard⟩).run P w=((do pure (Next.value (←Builtin.append_ #[T,T2] type #[K,L])):Sem Next)).run P w:=by simp[execOp,resolve,invoke,builtin,N]
   rw[e];exact this
  split at h
  .rename_i a b zz E z hT;split at h
   .rename_i j J;split at h
    .rename_i zc g;split at h
     .rename_i p;have⟨S,q⟩:=p;have⟨z1,z2⟩:=Zm (P:=P) (M:=M) (β:=β) g;have G:j.zero.cells.size=j.size:=by have:=z1.length;simp at this;omega
      split at h
      .rename_i a2 b2 V E2 sz2 r;split at h
       .rename_i c0 src W;have y:c0:=by
         unfold XeU at h;split at h
         .simp at h;rw[←h.1]at f;exact f.1
         .split at h
          .split at h
           .split at h
            .simp at h;rw[←h.1]at f;exact f.1
            simp at h;rw[←h.1]at f;exact f.1
           cases h
          cases h
         cases h
        obtain⟨base,cap,vals,rfl,e1,e2,e3,e4,e5,e6⟩:=Xhj I W y B;have R:=Xf2 (w:=w) (o':=type) (XY hT).1 (XY r).1 J (xb:=base) (m:=src.length) (xc:=cap) (vals:=vals) (by rw[S];exact e2) e3 e4 e6;exact start (Xj8 I H J S g q e1 e5 e6 R h f A)
       cases h
      .rename_i a2 b2 V k2 r;split at h
       .rename_i n hn;have y:(0<=n/\n<=Xv/\n.toNat*j.bytes<=Xv):=by
         unfold XeU at h;split at h
         .simp only[Wp,Wy]at h;rw[←h.1]at f;exact f.1
         .split at h
          .split at h
           .split at h
            .simp only[Wp,Wy]at h;rw[←h.1]at f;exact f.1
            simp only[Wp,Wy]at h;rw[←h.1]at f;exact f.1
           cases h
          cases h
         cases h
        have⟨g0,g1,g2⟩:=y;have⟨k',Y,_⟩:=Vn hn B;subst Y;have Z:(if n.toNat*j.size=0 then([]:List Value)else(Builtin.zeroCells j.zero.cells n.toNat).toList)=(Builtin.zeroCells j.zero.cells n.toNat).toList:=by
         split
         .rename_i h0;refine(WG ?_).symm;rw[Ib,Yg,G];exact h0
         rfl
        have k:∀v∈(Builtin.zeroCells j.zero.cells n.toNat).toList,v.oneCell'=true:=λv H=>Zn z2 n.toNat v (by simpa using H);have R:=Xhk (w:=w) (o':=type) (k':=k') (XY hT).1 (XfZ r) J g0 g1 g2 (vals:=(Builtin.zeroCells j.zero.cells n.toNat).toList) Z.symm k G;exact start (Xj8 I H J S g q (Y0 _ _ _ q) (Xay g n.toNat) k (by rw[Ua];exact R) h f A)
       cases h
      cases h
     cases h
    cases h
   cases h
  cases h
 simp_all
def XmU(I:U6 P C s U M β w){dst:Option Tmp}{type:TypeId}{pos:String}{after:Array Edge}{guard:Option (Nat×Bool)}(ρ:Operand->Value)(t:Operand->D)(hρ:∀x,Rep P M β (t x) (ρ x)){c:Prop}{d:D}{u:Up}(args:Array Operand)(types:Array TypeId)(h:opF P dst ver t s (.call ⟨.builtin .clear,args,types⟩)=some (c,d,u))(hc:c):OpOK P C s u U ver M β ((execOp ρ ⟨dst,.call ⟨.builtin .clear,args,types⟩,type,pos,after,guard⟩).run P w) d:=by
 simp only[opF]at h;split at h
 .rename_i id v z off len T W ht;have⟨Y,r,j⟩:=Xbr hρ W;have Z:=XbX ht;subst Z;split at h
  .rename_i a b zz E sz hT;split at h
   .rename_i O hE;split at h
    .rename_i R v' E' z' B fz G A;split at h
     .rename_i f;have⟨rfl,rfl,rfl,hz,hzl⟩:=f;obtain⟨rfl,rfl,rfl⟩:=h;have⟨H,hfz⟩:=hc;have⟨hu,hcz⟩:=XY hT;have start:∀{w'},(Builtin.clear_ #[T] type #[Y]).run P w=.ok (.tuple #[]) w'->(execOp ρ ⟨dst,.call ⟨.builtin .clear,args,#[T]⟩,type,pos,after,guard⟩).run P w=.ok (.value (.tuple #[])) w':=by intro w' hk;simp[execOp,resolve,invoke,builtin,r,hk]
      have same:len=0->upd s id (some (v,.arr false E' z (B.take off++List.replicate len R++B.drop (off+len)) fz))=s:=by
       rintro rfl;funext i;unfold upd;split
       .rename_i e;subst e;rw[A];simp
       rfl
      have nil:∀{a cap},len=0->Y=.slice a 0 cap->OpOK P C s [(id,v,.arr false E' z (B.take off++List.replicate len R++B.drop (off+len)) fz)] U ver M β ((execOp ρ ⟨dst,.call ⟨.builtin .clear,args,#[T]⟩,type,pos,after,guard⟩).run P w) (.tup []):=by
       intro a cap S h1;subst h1;refine⟨M,β,w,.tuple #[],.inl (start ?_),?_,by simp[Rep,RepL],MLe.refl _,BLe.refl _⟩
       .unfold Builtin.clear_;cases a<;>simp[run_underlying hu]
       rw[Xlr,same S];exact I.mono λ_ h=>.inl h
      have⟨x0,g,y⟩:=I.obs id v _ A;rcases j with⟨hn,h1,h2,a,rfl⟩|⟨bb,V,o,cap,J,rfl,hcap,hcb,ho⟩
      .exact nil h2 rfl
      rw[J]at g;obtain rfl:some (bb,V)=x0:=by simpa using g
      have⟨cs,T0,k1,k2,k3,k4,k5,k6,k7,k8,k9,k10⟩:=y;by_cases S:len=0
      .subst S;exact nil rfl rfl
      have ho':o=off*z:=by rcases ho with h|h;exact h;omega
      subst ho';have⟨z1,z2⟩:=Zm (P:=P) (M:=M) (β:=Yx) G;have hzs:O.zero.cells.size=z:=by have:=z1.length;simp at this;omega
      have L:(Builtin.zeroCells O.zero.cells len).toList.length=(List.replicate len R).length*z:=by rw[Ib,Yg,Ua,hzs]
      have q:∀x∈(Builtin.zeroCells O.zero.cells len).toList,x.oneCell'=true:=λx hx=>Zn z2 len x (by simpa using hx);have N:(off+len)*z<=V*z:=Ub _ ab;rw[Uz]at N;have hst:=run_storeCells_at P bb (off*z) T0 (Builtin.zeroCells O.zero.cells len).toList 0 cs w k1 (by rw[L,Ua];omega) q;have I':=I.seg (p:=off) (src:=List.replicate len R) A J k1 k2 k3 k4 k8 (by exact k10) (λe he=>by rw[(IL.1 he).2];exact hzl) L (Xay G len) q (by rw[Ua];exact H) hfz;rw[Ua]at I';refine⟨M,β,_,.tuple #[],.inl (start ?_),(by rw[Xlr];exact I'.mono λ_ h=>.inl h),by simp[Rep,RepL],MLe.refl _,BLe.refl _⟩;unfold Builtin.clear_;cases len with
      |zero=>exact absurd rfl S
      |succ len=>simp[run_underlying hu,KG hE,hst]
     cases h
    cases h
   cases h
  cases h
 .rename_i id v T ts W ht;have⟨Y,r,j⟩:=Xbr hρ W;have⟨tl⟩:=types;subst ht;split at h
  .rename_i k E v' k2 B hT A;split at h
   .rename_i f;have⟨rfl,rfl⟩:=f;simp only[Wp,Wy]at h;obtain⟨rfl,rfl,rfl⟩:=h;obtain⟨K,hT1,hT2⟩:=Ku hT;simp only[Rep]at j;obtain⟨b,V,hb,rfl⟩:=j;obtain⟨x0,g,y⟩:=I.obs id v _ A;rw[hb]at g;obtain rfl:some (b,V)=x0:=by simpa using g
    obtain⟨rfl,h1,h2,ents,clock,h3,h4,h5,h6⟩:=y;have start:(execOp ρ ⟨dst,.call ⟨.builtin .clear,args,⟨T::ts⟩⟩,type,pos,after,guard⟩).run P w=.ok (.value (.tuple #[])) {w with heap:=w.heap.setIfInBounds b (.map #[] clock)}:=by
     have:(Builtin.clear_ ⟨T::ts⟩ type #[.map (some b)]).run P w=.ok (.tuple #[]) {w with heap:=w.heap.setIfInBounds b (.map #[] clock)}:=by unfold Builtin.clear_;simp[run_underlying hT1,Go.MapKept.run_getObj_map h3,Go.MapKept.run_setObj_map _ h3]
     simp[execOp,resolve,invoke,builtin,r,this]
    refine⟨M,β,_,.tuple #[],.inl start,?_,by simp[Rep,RepL],MLe.refl _,BLe.refl _⟩;exact(I.setMap (es':=[]) (ents':=#[]) A hb h3 (IV _) rfl ac ac).mono λ_ h=>.inl h
   cases h
  cases h
 simp_all
def XpR(I:U6 P C s U M β w){dst:Option Tmp}{type:TypeId}{pos:String}{after:Array Edge}{guard:Option (Nat×Bool)}(ρ:Operand->Value)(t:Operand->D)(hρ:∀x,Rep P M β (t x) (ρ x)){c:Prop}{d:D}{u:Up}(args:Array Operand)(types:Array TypeId)(h:opF P dst ver t s (.call ⟨.builtin .copy,args,types⟩)=some (c,d,u))(hc:c):OpOK P C s u U ver M β ((execOp ρ ⟨dst,.call ⟨.builtin .copy,args,types⟩,type,pos,after,guard⟩).run P w) d:=by
 simp only[opF]at h;split at h
 .rename_i id v z off len x T L ha ht;have⟨v1,v2,N,O,R⟩:=VT hρ ha;have⟨types⟩:=types;subst ht;split at h
  .rename_i a b zz E sz hT;split at h
   .rename_i te v' E' z' H fz c0 src hE J S;split at h
    .rename_i k;have⟨rfl,rfl,rfl,hz⟩:=k;obtain⟨rfl,rfl,rfl⟩:=h;have⟨V,q,r,W⟩:=hc;have⟨hu,hcz⟩:=XY hT;obtain⟨base,cap2,vals,rfl,e1,y,e3,e4,e5,e6⟩:=Xhj I S V R;have Y:(Builtin.firstCells te.size src.length (.slice base src.length cap2)).run P w=.ok vals.toArray w:=by
      cases base with
      |none=>have hm:=e3 rfl;have:vals=[]:=WG (by rw[y,hm,Nat.zero_mul]);subst this;simp[Builtin.firstCells]
      |some a=>exact run_firstCells_some (P:=P) w te.size src.length a src.length cap2 vals (by rw[hz];exact y) (λj v hj=>e4 a rfl j v hj)
     have start:∀{w' Z},(Builtin.copy_ ⟨T::L⟩ type #[v1,.slice base src.length cap2]).run P w=.ok Z w'->(execOp ρ ⟨dst,.call ⟨.builtin .copy,args,⟨T::L⟩⟩,type,pos,after,guard⟩).run P w=.ok (.value Z) w':=by intro w' Z hk;simp[execOp,resolve,invoke,builtin,N,hk]
     have hl47:src.length<=140737488355328:=by
      have:=(I.obs id v _ J)
      obtain⟨x0,_,f⟩:=this;cases x0 with
      |none=>obtain⟨_,h2,_⟩:=f;subst h2;simp at r;omega
      |some bc=>obtain⟨_,_,_,_,_,_,h5,_⟩:=f;simp only[Xv]at h5;omega
     have g:Rep P M β (.v (.int .i64 (src.length:Int))) (goInt src.length):=ZG _ _ ⟨by show(-9223372036854775808:Int)<=_;omega,by show _<=(9223372036854775807:Int);omega⟩;have hn:Nat.min src.length len=src.length:=Of q;have nil:∀{a cap},src=[]->v1=.slice a len cap->OpOK P C s [(id,v,.arr false E' z (H.take off++src++H.drop (off+src.length)) fz)] U ver M β ((execOp ρ ⟨dst,.call ⟨.builtin .copy,args,⟨T::L⟩⟩,type,pos,after,guard⟩).run P w) (.v (.int .i64 (src.length:Int))):=by
      intro a cap K h1;subst h1;have hv0:vals=[]:=WG (by rw[y,K];simp);have same:upd s id (some (v,.arr false E' z (H.take off++src++H.drop (off+src.length)) fz))=s:=by
       funext i;unfold upd;split
       .rename_i e;subst e;rw[J,K];simp
       rfl
      refine⟨M,β,w,goInt src.length,.inl (start ?_),?_,g,MLe.refl _,BLe.refl _⟩
      .unfold Builtin.copy_;rw[hv0]at Y;cases a<;>simp[run_underlying hu,Builtin.lenOf,hn,YB hE,Y,storeCells]
      rw[Xlr,same];exact I.mono λ_ h=>.inl h
     have⟨x0,A,f⟩:=I.obs id v _ J;rcases O with⟨hn0,h1,h2,a,rfl⟩|⟨bb,cb,o,cap,B,rfl,hcap,hcb,ho⟩
     .subst h2;exact nil (WG ab) rfl
     rw[B]at A;obtain rfl:some (bb,cb)=x0:=by simpa using A
     have⟨cs,T0,k1,k2,k3,k4,k5,k6,k7,k8,k9,k10⟩:=f;by_cases K:src.length=0
     .exact nil (WG K) rfl
     have ho':o=off*z:=by rcases ho with h|h;exact h;omega
     subst ho';have G:(off+src.length)*z<=cb*z:=Ub _ ab;rw[Uz]at G;have hst:=run_storeCells_at P bb (off*z) T0 vals 0 cs w k1 (by rw[y];omega) e6;have I':=I.seg (p:=off) (src:=src) J B k1 k2 k3 k4 k8 (by exact k10) e1 y e5 e6 ab W;refine⟨M,β,_,goInt src.length,.inl (start ?_),(by rw[Xlr];exact I'.mono λ_ h=>.inl h),g,MLe.refl _,BLe.refl _⟩;unfold Builtin.copy_;simp[run_underlying hu,Builtin.lenOf,hn,YB hE,Y,hst]
    cases h
   cases h
  cases h
 simp_all
def Vp{t:TypeId}{ty:OL}(h:Xq P t=some ty)(f:¬ty.isIface=true):∃d,P.underlying t=some d/\∀m,d≠.interface m:=by have⟨i,d,_,g,_,_,_,j⟩:=Ya h;refine⟨d,g,λm e=>f ?_⟩;subst e;unfold OL.isIface;rw[←j];rfl
def XbY(I:U6 P C s U M β w)(_hv:¬U ver){dst:Option Tmp}{type:TypeId}{pos:String}{after:Array Edge}{guard:Option (Nat×Bool)}(ρ:Operand->Value)(t:Operand->D)(hρ:∀x,Rep P M β (t x) (ρ x)){c:Prop}{d:D}{u:Up}(T:TypeId)(x:Operand)(h:opF P dst ver t s (.makeInterface T x)=some (c,d,u))(p:c):OpOK P C s u U ver M β ((execOp ρ ⟨dst,(.makeInterface T x),type,pos,after,guard⟩).run P w) d:=by
 unfold execOp;simp only[opF]at h;split at h
 .rename_i ty f;split at h
  .cases h
  rename_i g;obtain⟨rfl,rfl,rfl⟩:=h;have⟨j,k,e⟩:=Vp f g;refine .val I (v:=.iface T (ρ x)) ?_ ?_
  .cases j<;>first|exact absurd rfl (e _)|simp[Instr.makeInterface,run_underlying k]
  exact⟨_,rfl,hρ x⟩
 simp_all
def XeZ(I:U6 P C s U M β w)(_hv:¬U ver){dst:Option Tmp}{type:TypeId}{pos:String}{after:Array Edge}{guard:Option (Nat×Bool)}(ρ:Operand->Value)(t:Operand->D)(hρ:∀x,Rep P M β (t x) (ρ x)){c:Prop}{d:D}{u:Up}(x:Operand)(xT A:TypeId)(ok:Bool)(h:opF P dst ver t s (.typeAssert x xT A ok)=some (c,d,u))(G:c):OpOK P C s u U ver M β ((execOp ρ ⟨dst,(.typeAssert x xT A ok),type,pos,after,guard⟩).run P w) d:=by
 unfold execOp;simp only;simp only[opF]at h;have j:=hρ x;split at h
 .rename_i q T H g r;rw[r]at j;split at h
  .cases h
  rename_i z;have⟨k,p,f⟩:=Vp g z;have⟨y,B,E⟩:=j;split at h
  .rename_i e;obtain⟨rfl,rfl,rfl⟩:=h;refine .val I (v:=.tuple #[y,.bool true]) ?_ ?_
   .rw[B];cases k<;>first|exact absurd rfl (f _)|simp[Instr.typeAssert,run_underlying p,e]
   exact⟨_,rfl,_,_,rfl,E,_,_,rfl,⟨rfl,trivial⟩,rfl⟩
  rename_i e;obtain⟨rfl,rfl,rfl⟩:=h;refine .val I (v:=.tuple #[q.zero,.bool false]) ?_ ?_
  .rw[B];cases k<;>first|exact absurd rfl (f _)|simp[Instr.typeAssert,run_underlying p,e,KG g]
  exact⟨_,rfl,_,_,rfl,Xax _,_,_,rfl,⟨rfl,trivial⟩,rfl⟩
 .rename_i q g r;rw[r]at j;split at h
  .cases h
  rename_i z;have⟨k,p,f⟩:=Vp g z;simp only[Wp,Wy]at h;obtain⟨rfl,rfl,rfl⟩:=h;refine .val I (v:=.tuple #[q.zero,.bool false]) ?_ ?_
  .rw[j.1];cases k<;>first|exact absurd rfl (f _)|simp[Instr.typeAssert,run_underlying p,KG g]
  simp only[Rep,RepL];exact⟨_,rfl,_,_,rfl,Xax _,_,_,rfl,⟨rfl,trivial⟩,rfl⟩
 simp_all
def XmV(I:U6 P C s U M β w)(p:¬U ver)(o:Oper)(ρ:Operand->Value)(t:Operand->D)(hρ:∀x,Rep P M β (t x) (ρ x))(q:∀v,ρ (.const v)=v){c:Prop}{d:D}{u:Up}(h:opF P o.dst ver t s o.op=some (c,d,u))(j:c):OpOK P C s u U ver M β ((execOp ρ o).run P w) d:=by
 have⟨dst,op,type,pos,after,guard⟩:=o;cases op with
 |move x=>exact XpN I p ρ t hρ x h j
 |assign x=>exact Xlw I p ρ t hρ x h j
 |pick g a b=>exact XpO I p ρ t hρ g a b h j
 |alloc T=>exact XmN I p ρ t hρ T h j
 |box T x=>exact Xr8 I p ρ t hρ T x h j
 |build T parts=>exact XmO I p ρ t hρ T parts h j
 |buildSlice T n parts=>exact XeY I p ρ t hρ T n parts h j
 |load T a=>exact XpP I p ρ t hρ T a h j
 |store T a x=>exact XmP I p ρ t hρ T a x h j
 |nilCheck x=>exact Xhm I p ρ t hρ x h j
 |binOp op T x y z=>exact XmQ I p ρ t hρ op T x y z (λv e=>by simp_all) h j
 |unOp op T x=>exact XpQ I p ρ t hρ op T x h j
 |convert S T x=>exact Xi6 I p ρ t hρ S T x h j
 |makeFunc fn first captured=>exact Xhn I p ρ t hρ fn first captured h j
 |makeSlice T l B=>exact Xf6 I p ρ t hρ T l B h j
 |slice T x E G mx=>exact XmR I p ρ t hρ T x E G mx h j
 |fieldAddr T x f=>exact Xf7 I p ρ t hρ T x f h j
 |field T x f=>exact XmS I p ρ t hρ T x f h j
 |indexAddr T x ix=>exact Xf8 I p ρ t hρ T x ix h j
 |index T x ix=>exact XmT I p ρ t hρ T x ix h j
 |makeMap T r=>exact Xi4 I p ρ t hρ T r h j
 |mapUpdate T m k x=>exact Xf5 I p ρ t hρ T m k x h j
 |insert T m k x=>exact Xlu I p ρ t hρ T m k x h j
 |lookup T m k ok=>exact Xlv I p ρ t hρ T m k ok h j
 |extract x i=>exact Xi7 I p ρ t hρ x i h j
 |makeInterface T x=>exact XbY I p ρ t hρ T x h j
 |typeAssert x xT A ok=>exact XeZ I p ρ t hρ x xT A ok h j
 |call cl=>
  have⟨callee,args,types⟩:=cl;cases callee with
  |value f=>simp_all[opF]
  |invoke r m=>simp_all[opF]
  |builtin b=>
   cases b with
   |len=>exact Xr9 I ρ t hρ args types h j
   |delete=>exact Xlz I ρ t hρ args types h j
   |clear=>exact XmU I ρ t hρ args types h j
   |copy=>exact XpR I ρ t hρ args types h j
   |cap=>exact Xsa I ρ t hρ args types h j
   |min=>exact Xsb I ρ t hρ args types h j
   |max=>exact Xsc I ρ t hρ args types h j
   |append=>exact XlA I p ρ t hρ args types h j
   |_=>simp[opF]at h
 |_=>simp[opF]at h
end
variable {P:Program}
structure St where
 t:Nat->D
 s:Heap
 n:Nat
 k:Nat
def Rel(P:Program)(C:Cx)(st:St)(a:Act)(w:World):Prop:=
 a.defers=C.df/\a.tmps.size=st.n/\∃M β,BLe C.b0 β/\(∀x,Rep P M β (st.t x) (a.tmps.getD x undef))/\U6 P C st.s (·<st.k) M β w
def XbZ{C:Cx}{s:Heap}{U:Nat->Prop}{M:Mem}{β:Loc}{w:World}(I:U6 P C s U M β w){t:Nat->D}{a:Act}(h:∀x,Rep P M β (t x) (a.tmps.getD x undef))(x:Operand):
 Rep P M β (ev t C.G x) (a.eval x):=by
 cases x with
 |tmp i=>exact h i
 |const v=>exact Xax v
 |global g=>
  simp only[ev,Act.eval];split
  .rename_i j e;simp only[Rep];exact⟨trivial,g,0,rfl,RepC.mono I.le (I.glob g j e)⟩
  simp[Rep]
 |func f=>simp[ev,Act.eval,Rep,RepL]
def LB:Nat:=1000000
def Kj(lb:List (Nat×Nat)):Loc:=λid v=>if v=0/\LB<=id then(lb[id-LB]?).map some else none
def Jk(ls:List Ob):Heap:=λid=>if LB<=id then(ls[id-LB]?).map (λo=>(0,o))else none
mutual
def FrRep(P:Program)(M:Mem)(w:World)(B:Nat):D->Value->List (Option (Nat×Nat))->Prop
 |.fsl E z f,y,l=>(l=[none]/\f=[]/\∃a,y=.slice a 0 0) \/
  ∃b h o,l=[some (b,h)]/\B<=b/\y=.slice (some ⟨b,o,none⟩) f.length h/\(o=0\/h=0)/\ObRep P M Yx w (some (b,h)) (.arr false E z f 0)
 |.fmp k j e,y,l=>∃b,l=[some (b,0)]/\B<=b/\y=.map (some b)/\j.length=e.length/\ObRep P M Yx w (some (b,0)) (.mp k (j.zip e))
 |.agg g,y,l=>∃e,y=.agg ⟨e⟩/\FrRepL P M w B g e l
 |.tup g,y,l=>∃e,y=.tuple ⟨e⟩/\FrRepL P M w B g e l
 |.ifc t d,y,l=>∃x,y=.iface t x/\FrRep P M w B d x l
 |.clo fn a b,y,l=>∃p vb,y=.func fn ⟨p⟩ ⟨vb⟩/\∃q r,l=q++r/\FrRepL P M w B a p q/\FrRepL P M w B b vb r
 |.any,_,l=>l=[]
 |.v x,y,l=>l=[]/\Rep P M Yx (.v x) y
 |.nsl,y,l=>l=[]/\Rep P M Yx .nsl y
 |.isl E z f,y,l=>l=[]/\Rep P M Yx (.isl E z f) y
 |.ipt z g c,y,l=>l=[]/\Rep P M Yx (.ipt z g c) y
 |_,_,_=>False
def FrRepL(P:Program)(M:Mem)(w:World)(B:Nat):List D->List Value->List (Option (Nat×Nat))->Prop
 |[],e,l=>e=[]/\l=[]
 |d::j,e,l=>∃x f g h,e=x::f/\l=g++h/\FrRep P M w B d x g/\FrRepL P M w B j f h
end
def XQ(l:List (Option (Nat×Nat))):List Nat:=l.filterMap (·.map (·.1))
def XpS(P:Program)(M:Mem)(w:World)(lb:List (Nat×Nat))(R:D->List Ob->Prop)(e:Ending)(w':World):Prop:=
 ∃v r ls M' l,e=.returned v/\R r ls/\Kp w (lb.map (·.1)) w'/\MemOK M' w'/\(∀b o,b<w.heap.size->M' b o=M b o)/\ls.length=lb.length /\
  (∀(k:Nat)ob x,ls[k]? = some ob->lb[k]? = some x->ObRep P M' Yx w' (some x) ob/\ob.bx=true)/\FrRep P M' w' w.heap.size r v l/\(XQ l).Nodup
def YV(P:Program)(G:Nat->Option (List D))(f:FuncId)(args:List D)(lent:List Ob)(R:D->List Ob->Prop):Prop:=
 (∃fn,P.funcs[f]? = some fn/\fn.body.isNone=false/\(fn.name== "runtime.NumGoroutine")=false) /\
 ∀M w e lb,MemOK M w->(∀g h,G g=some h->RepC P M h g 0)->lb.length=lent.length->(lb.map (·.1)).Nodup ->
  (∀(k:Nat)ob x,lent[k]? = some ob->lb[k]? = some x->ObRep P M Yx w (some x) ob/\ob.bx=true)->RepL P M (Kj lb) args e->Calls P f ⟨e⟩ w (XpS P M w lb R)
mutual
def imp(ver:Nat):Nat->D->D×Nat×Up
 |n,.fsl E z f=>(.osl n ver z 0 f.length,n+1,[(n,ver,.arr false E z f 0)])
 |n,.fmp k g h=>(.omp n ver,n+1,[(n,ver,.mp k (g.zip h))])
 |n,.agg e=>let r:=VL ver n e;(.agg r.1,r.2.1,r.2.2)
 |n,.tup e=>let r:=VL ver n e;(.tup r.1,r.2.1,r.2.2)
 |n,.ifc t d=>let r:=imp ver n d;(.ifc t r.1,r.2.1,r.2.2)
 |n,.clo fn a b=>let r:=VL ver n a;let q:=VL ver r.2.1 b;(.clo fn r.1 q.1,q.2.1,r.2.2++q.2.2)
 |n,d=>(d,n,[])
def VL(ver:Nat):Nat->List D->List D×Nat×Up
 |n,[]=>([],n,[])
 |n,d::e=>let r:=imp ver n d;let q:=VL ver r.2.1 e;(r.1::q.1,q.2.1,r.2.2++q.2.2)
end
section
variable {C:Cx}{U:Nat->Prop}{M:Mem}{w:World}{ver:Nat}
def Xi8(s:Heap)(β:Loc)(l:List Nat):Prop:=∀b∈l,∀id v ob e,s id=some (v,ob)->β id v≠some (some (b,e))
structure O0(P:Program)(C:Cx)(s:Heap)(U:Nat->Prop)(M:Mem)(β:Loc)(w:World)(ver n n':Nat)(u:Up)(l:List (Option (Nat×Nat)))(β':Loc):Prop where
 inv:U6 P C (app s u) (λv=>U v\/v=ver) M β' w
 le:BLe β β'
 next:n<=n'
 high:∀i,n'<=i->β' i ver=none
 free:∀l',Xi8 s β l'->(∀b∈l',b∉XQ l)->Xi8 (app s u) β' l'
def O0.nil{s:Heap}{β:Loc}(I:U6 P C s U M β w){n:Nat}(e:∀i,n<=i->β i ver=none):O0 P C s U M β w ver n n [] [] β:=
 ⟨I.mono λ_ h=>.inl h,BLe.refl _,Uh _,e,λ_ h _=>h⟩
def ObRep.row{b e:Nat}{ob:Ob}(h:ObRep P M Yx w (some (b,e)) ob)(hb:ob.bx=false)(β:Loc):ObRep P M β w (some (b,e)) ob:=by
 cases ob with
 |mp kk f=>exact h
 |raw o=>exact h
 |arr bx E z f fz=>have:bx=false:=hb;subst this;exact h
def X1(e l2:List (Option (Nat×Nat))):XQ (e++l2)=XQ e++XQ l2:=by simp[XQ]
mutual
def imp_ok{B:Nat}(Z:C.w0.heap.size<=B):∀(d:D) (y:Value) (l:List (Option (Nat×Nat))) (n:Nat) {s:Heap} {U:Nat->Prop} {β:Loc},U6 P C s U M β w->(∀i,n<=i->β i ver=none)->FrRep P M w B d y l->(XQ l).Nodup->Xi8 s β (XQ l) ->
 ∃β',O0 P C s U M β w ver n (imp ver n d).2.1 (imp ver n d).2.2 l β'/\Rep P M β' (imp ver n d).1 y
 |.fsl E z es,y,l,n,s,U,β,I,p,f,e,r=>by
  simp only[imp];have G:β n ver=none:=p n (Uh _);rcases f with⟨rfl,rfl,a,rfl⟩|⟨b,S,o,rfl,hb,rfl,ho,N⟩
  .refine⟨Zw β n ver none,⟨I.setNil n ver E z (Zb G) (XF ..) Zl,Zb G,ab,λi h=>?_,λl' h _=>?_⟩,?_⟩
   .unfold Zw;grind
   .intro b hb id v ob S K j;by_cases L:id=n
    .subst L;have A:some (ver,Ob.arr false E z [] 0)=some (v,ob):=by rw[←K];show _=upd s id _ id;rw[YA]
     simp_all[XF]
    have A:s id=some (v,ob):=by rw[←K];show _=upd s n _ id;rw[X9 _ _ _ _ L]
    have u:β id v=some (some (b,S)):=by unfold Zw at j;rw[Wj (λh=>L h.1)]at j;exact j
    exact h b hb id v ob S A u
   exact .inl ⟨XF ..,ac⟩
  have H:∀q O J g,q≠n->s q=some (O,J)->β q O≠some (some (b,g)):=λq O J g _ K=>r b (by simp[XQ]) q O J g K;have hob':=N;have⟨cs,T,k1,k2,k3,k4,k5,k6,k7,k8,k9,k10⟩:=hob';have I':=I.set (M':=M) (β':=Zw β n ver (some (b,S))) (w':=w) n ver (.arr false E z es 0) b S (MLe.refl _) (Zb G) (λ_ _=>rfl) (λ_ _ _=>rfl) (λo x j=>I.mem b o x j) (XF ..) (N.row rfl _) H (.inl ab) (λ_ _=>rfl) rfl rfl rfl (Uh _) Zl;refine⟨Zw β n ver (some (b,S)),⟨I',Zb G,ab,λi h=>?_,λl' h hl=>?_⟩,?_⟩
  .unfold Zw;grind
  .intro b' V id v ob g K j;by_cases L:id=n
   .subst L;have A:some (ver,Ob.arr false E z es 0)=some (v,ob):=by rw[←K];show _=upd s id _ id;rw[YA]
    grind[XF,XQ]
   have A:s id=some (v,ob):=by rw[←K];show _=upd s n _ id;rw[X9 _ _ _ _ L]
   have u:β id v=some (some (b',g)):=by unfold Zw at j;rw[Wj (λh=>L h.1)]at j;exact j
   exact h b' V id v ob g A u
  exact .inr ⟨b,S,o,S,XF ..,rfl,k4,ac,ab⟩
 |.fmp k ks W,y,l,n,s,U,β,I,p,f,e,r=>by
  simp only[imp];have G:β n ver=none:=p n (Uh _);obtain⟨b,rfl,hb,rfl,hlen,N⟩:=f;have H:∀q O J g,q≠n->s q=some (O,J)->β q O≠some (some (b,g)):=λq O J g _ K=>r b (by simp[XQ]) q O J g K;have I':=I.set (M':=M) (β':=Zw β n ver (some (b,0))) (w':=w) n ver (.mp k (ks.zip W)) b 0 (MLe.refl _) (Zb G) (λ_ _=>rfl) (λ_ _ _=>rfl) (λo x j=>I.mem b o x j) (XF ..) (N.row rfl _) H (.inl ab) (λ_ _=>rfl) rfl rfl rfl (Uh _) Zl;refine⟨Zw β n ver (some (b,0)),⟨I',Zb G,ab,λi h=>?_,λl' h hl=>?_⟩,?_⟩
  .unfold Zw;grind
  .intro b' V id v ob g K j;by_cases L:id=n
   .subst L;have A:some (ver,Ob.mp k (ks.zip W))=some (v,ob):=by rw[←K];show _=upd s id _ id;rw[YA]
    grind[XF,XQ]
   have A:s id=some (v,ob):=by rw[←K];show _=upd s n _ id;rw[X9 _ _ _ _ L]
   have u:β id v=some (some (b',g)):=by unfold Zw at j;rw[Wj (λh=>L h.1)]at j;exact j
   exact h b' V id v ob g A u
  exact⟨b,0,XF ..,rfl⟩
 |.agg cs,y,l,n,s,U,β,I,p,f,e,r=>by obtain⟨W,rfl,f⟩:=f;have⟨β',R,h2⟩:=Xbs Z cs W l n I p f e r;grind[imp,Rep]
 |.tup cs,y,l,n,s,U,β,I,p,f,e,r=>by obtain⟨W,rfl,f⟩:=f;have⟨β',R,h2⟩:=Xbs Z cs W l n I p f e r;grind[imp,Rep]
 |.ifc t d,y,l,n,s,U,β,I,p,f,e,r=>by obtain⟨x,rfl,f⟩:=f;have⟨β',R,h2⟩:=imp_ok Z d x l n I p f e r;grind[imp,Rep]
 |.clo fn a b,y,l,n,s,U,β,I,p,f,e,r=>by
  obtain⟨va,vb,rfl,l1,l2,rfl,hr1,hr2⟩:=f;rw[X1,US]at e;rw[X1]at r;have⟨β1,R,h2⟩:=Xbs Z a va l1 n I p hr1 e.1 (λx j=>r x (WW _ j));have hf2:Xi8 (app s (VL ver n a).2.2) β1 (XQ l2):=R.free _ (λx j=>r x (Ui _ j)) (λx j u=>e.2.2 x u x j rfl);have⟨β2,Y,h4⟩:=Xbs Z b vb l2 (VL ver n a).2.1 R.inv R.high hr2 e.2.1 hf2;refine⟨β2,⟨?_,R.le.trans Y.le,UK R.next Y.next,Y.high,λl' hl' hb=>?_⟩,?_⟩
  .simp only[imp];rw[Zc];exact Y.inv.mono λv hv=>by simp_all
  .simp only[imp];rw[Zc];refine Y.free _ (R.free _ hl' λx j u=>hb x j ?_) λx j u=>hb x j ?_
   .rw[X1];exact WW _ u
   simp_all[X1]
  exact⟨va,vb,rfl,h2.mono (MLe.refl _) Y.le,h4⟩
 |.any,y,l,n,s,U,β,I,p,f,e,r=>by subst f;exact⟨β,.nil I p,by simp[imp,Rep]⟩
 |.v x,y,l,n,s,U,β,I,p,f,e,r=>by obtain⟨rfl,f⟩:=f;exact⟨β,.nil I p,f.mono (MLe.refl _) (BLe.zero _)⟩
 |.nsl,y,l,n,s,U,β,I,p,f,e,r=>by obtain⟨rfl,f⟩:=f;exact⟨β,.nil I p,f.mono (MLe.refl _) (BLe.zero _)⟩
 |.isl E z es,y,l,n,s,U,β,I,p,f,e,r=>by obtain⟨rfl,f⟩:=f;exact⟨β,.nil I p,f.mono (MLe.refl _) (BLe.zero _)⟩
 |.ipt z cs c,y,l,n,s,U,β,I,p,f,e,r=>by obtain⟨rfl,f⟩:=f;exact⟨β,.nil I p,f.mono (MLe.refl _) (BLe.zero _)⟩
 |.osl ..,y,l,n,s,U,β,I,p,f,e,r=>by simp_all[FrRep]
 |.ept ..,y,l,n,s,U,β,I,p,f,e,r=>by simp_all[FrRep]
 |.omp ..,y,l,n,s,U,β,I,p,f,e,r=>by simp_all[FrRep]
def Xbs{B:Nat}(G:C.w0.heap.size<=B):∀(h:List D) (p:List Value) (l:List (Option (Nat×Nat))) (n:Nat) {s:Heap} {U:Nat->Prop} {β:Loc},U6 P C s U M β w->(∀i,n<=i->β i ver=none)->FrRepL P M w B h p l->(XQ l).Nodup->Xi8 s β (XQ l) ->
 ∃β',O0 P C s U M β w ver n (VL ver n h).2.1 (VL ver n h).2.2 l β'/\RepL P M β' (VL ver n h).1 p
 |[],p,l,n,s,U,β,I,r,u,e,q=>by obtain⟨rfl,rfl⟩:=u;exact⟨β,.nil I r,by rfl⟩
 |d::h,p,l,n,s,U,β,I,r,u,e,q=>by
  obtain⟨x,H,K,J,rfl,rfl,y,z⟩:=u;rw[X1,US]at e;rw[X1]at q;have⟨β1,j,L⟩:=imp_ok G d x K n I r y e.1 (λx f=>q x (WW _ f));have A:Xi8 (app s (imp ver n d).2.2) β1 (XQ J):=j.free _ (λx f=>q x (Ui _ f)) (λx f g=>e.2.2 x g x f rfl);have⟨β2,k,N⟩:=Xbs G h H J (imp ver n d).2.1 j.inv j.high z e.2.1 A;refine⟨β2,⟨?_,j.le.trans k.le,UK j.next k.next,k.high,λO E hb=>?_⟩,?_⟩
  .simp only[VL];rw[Zc];exact k.inv.mono λv R=>by simp_all
  .simp only[VL];rw[Zc];refine k.free _ (j.free _ E λx f g=>hb x f ?_) λx f g=>hb x f ?_
   .rw[X1];exact WW _ g
   simp_all[X1]
  exact⟨x,H,rfl,L.mono (MLe.refl _) k.le,N⟩
end
end
variable {P:Program}
def pos:List Nat->Nat->Option Nat
 |[],_=>none
 |x::l,i=>if x=i then some 0 else(pos l i).map (·+1)
def Xka:∀{l:List Nat} {i j:Nat},pos l i=some j->l[j]? = some i
 |[],i,j,h=>by simp_all[pos]
 |x::l,i,j,h=>by
  unfold pos at h;split at h
  .grind
  simp at h;obtain⟨k,e,rfl⟩:=h;simpa using Xka e
def Xho:∀{l:List Nat} {i:Nat},pos l i=none->i∉l
 |[],i,_=>by simp
 |x::l,i,h=>by
  unfold pos at h;split at h
  .grind
  rename_i f;simp at h;simp;exact⟨λe=>f e.symm,Xho h⟩
mutual
def lend(s:Heap):List Nat->D->Option (Prop×D×List Nat×List Nat)
 |ls,.ept id ver z i c=>match s id with
  |some (g,.arr true _ q [_] _)=>if ver=g/\z=q/\i=0 then
   match pos ls id with
   |some j=>some (True,.ept (LB+j) 0 z 0 c,ls,[])
   |none=>some (True,.ept (LB+ls.length) 0 z 0 c,ls++[id],[])
   else none
  |_=>none
 |ls,.agg k=>match ZM s ls k with
  |some (c,p,f,l)=>some (c,.agg p,f,l)
  |none=>none
 |ls,.tup k=>match ZM s ls k with
  |some (c,p,f,l)=>some (c,.tup p,f,l)
  |none=>none
 |ls,.clo fn a b=>match ZM s ls a with
  |some (c,r,f,l)=>match ZM s f b with
   |some (u,v,h,x)=>some (c/\u,.clo fn r v,h,l++x)
   |none=>none
  |none=>none
 |ls,.ifc t d=>match lend s ls d with
  |some (c,e,f,l)=>some (c,.ifc t e,f,l)
  |none=>none
 |ls,d=>match snap s d with
  |some (c,e,l)=>some (c,e,ls,l)
  |none=>none
def ZM(s:Heap):List Nat->List D->Option (Prop×List D×List Nat×List Nat)
 |ls,[]=>some (True,[],ls,[])
 |ls,d::h=>match lend s ls d with
  |some (c,e,g,l)=>match ZM s g h with
   |some (j,k,f,p)=>some (c/\j,e::k,f,l++p)
   |none=>none
  |none=>none
end
mutual
def lend_prefix{s:Heap}:∀{d f:D} {ls e:List Nat} {c:Prop} {l:List Nat},lend s ls d=some (c,f,e,l)->ls <+:e
 |.ept id ver z i k,f,ls,e,c,l,h=>by unfold lend at h;grind
 |.agg j,f,ls,e,c,l,h=>by
  unfold lend at h;split at h
  .rename_i g;obtain⟨_,_,rfl,_⟩:=h;exact Zd g
  simp_all
 |.tup j,f,ls,e,c,l,h=>by
  unfold lend at h;split at h
  .rename_i g;obtain⟨_,_,rfl,_⟩:=h;exact Zd g
  simp_all
 |.clo fn a b,f,ls,e,c,l,h=>by
  unfold lend at h;split at h
  .rename_i p;split at h
   .rename_i q;obtain⟨_,_,rfl,_⟩:=h;exact(Zd p).trans (Zd q)
   cases h
  simp_all
 |.ifc t d,f,ls,e,c,l,h=>by
  unfold lend at h;split at h
  .rename_i g;obtain⟨_,_,rfl,_⟩:=h;exact lend_prefix g
  simp_all
 |.osl id ver z off len,f,ls,e,c,l,h=>by unfold lend at h;grind
 |.any,f,ls,e,c,l,h=>by unfold lend at h;grind
 |.v x,f,ls,e,c,l,h=>by unfold lend at h;grind
 |.nsl,f,ls,e,c,l,h=>by unfold lend at h;grind
 |.isl E z r,f,ls,e,c,l,h=>by unfold lend at h;grind
 |.ipt z j k,f,ls,e,c,l,h=>by unfold lend at h;grind
 |.fsl E z r,f,ls,e,c,l,h=>by unfold lend at h;grind
 |.fmp k u y,f,ls,e,c,l,h=>by unfold lend at h;grind
 |.omp id ver,f,ls,e,c,l,h=>by unfold lend at h;grind
def Zd{s:Heap}:∀{g f:List D} {ls e:List Nat} {c:Prop} {l:List Nat},ZM s ls g=some (c,f,e,l)->ls <+:e
 |[],f,ls,e,c,l,h=>by simp_all[ZM,Wp,Wy]
 |d::g,f,ls,e,c,l,h=>by
  unfold ZM at h;split at h
  .rename_i j;split at h
   .rename_i k;obtain⟨_,_,rfl,_⟩:=h;exact(lend_prefix j).trans (Zd k)
   cases h
  simp_all
end
def Xds(s:Heap)(ls:List Nat):Prop:=ls.Nodup/\∀id∈ls,∃v E z e fz,s id=some (v,.arr true E z [e] fz)
mutual
def lend_boxes{s:Heap}:∀{d f:D} {ls e:List Nat} {c:Prop} {l:List Nat},lend s ls d=some (c,f,e,l)->Xds s ls->Xds s e
 |.ept id ver z i k,f,ls,e,c,l,h=>by
  intro hb;unfold lend at h;split at h
  .rename_i r;split at h
   .split at h
    .obtain⟨_,_,rfl,_⟩:=h;exact hb
    rename_i hp;obtain⟨_,_,rfl,_⟩:=h;refine⟨US.2 ⟨hb.1,ac,λx g y p=>?_⟩,λx g=>?_⟩
    .simp at p;subst p;rintro rfl;exact Xho hp g
    simp at g;rcases g with g|rfl
    .exact hb.2 x g
    exact⟨_,_,_,_,_,r⟩
   cases h
  simp_all
 |.agg q,f,ls,e,c,l,h=>by
  unfold lend at h;split at h
  .rename_i j;obtain⟨_,_,rfl,_⟩:=h;exact Y9 j
  simp_all
 |.tup q,f,ls,e,c,l,h=>by
  unfold lend at h;split at h
  .rename_i j;simp only[Wp,Wy]at h;obtain⟨_,_,rfl,_⟩:=h;exact Y9 j
  simp_all
 |.clo fn a b,f,ls,e,c,l,h=>by
  unfold lend at h;split at h
  .rename_i u;split at h
   .rename_i A;simp only[Wp,Wy]at h;obtain⟨_,_,rfl,_⟩:=h;exactλhb=>Y9 A (Y9 u hb)
   cases h
  simp_all
 |.ifc t d,f,ls,e,c,l,h=>by
  unfold lend at h;split at h
  .rename_i j;simp only[Wp,Wy]at h;obtain⟨_,_,rfl,_⟩:=h;exact lend_boxes j
  simp_all
 |.osl id ver z off len,f,ls,e,c,l,h=>by unfold lend at h;grind
 |.any,f,ls,e,c,l,h=>by unfold lend at h;grind
 |.v x,f,ls,e,c,l,h=>by unfold lend at h;grind
 |.nsl,f,ls,e,c,l,h=>by unfold lend at h;grind
 |.isl E z B,f,ls,e,c,l,h=>by unfold lend at h;grind
 |.ipt z q k,f,ls,e,c,l,h=>by unfold lend at h;grind
 |.fsl E z B,f,ls,e,c,l,h=>by unfold lend at h;grind
 |.fmp k G H,f,ls,e,c,l,h=>by unfold lend at h;grind
 |.omp id ver,f,ls,e,c,l,h=>by unfold lend at h;grind
def Y9{s:Heap}:∀{g f:List D} {ls e:List Nat} {c:Prop} {l:List Nat},ZM s ls g=some (c,f,e,l)->Xds s ls->Xds s e
 |[],f,ls,e,c,l,h=>by simp_all[ZM,Wp,Wy]
 |d::g,f,ls,e,c,l,h=>by
  unfold ZM at h;split at h
  .rename_i j;split at h
   .rename_i k;obtain⟨_,_,rfl,_⟩:=h;exactλhb=>Y9 k (lend_boxes j hb)
   cases h
  simp_all
end
section
variable {C:Cx}{s:Heap}{U:Nat->Prop}{M M':Mem}{β:Loc}{w:World}
def Xf9(s:Heap)(β:Loc)(ls:List Nat)(lb:List (Nat×Nat)):Prop:=
 ∀(j:Nat)id,ls[j]? = some id->∃v E z e fz x,s id=some (v,.arr true E z [e] fz)/\lb[j]? = some x/\β id v=some (some x)
mutual
def lend_rep(I:U6 P C s U M β w)(A:MLe M M'){lsF:List Nat}{lbF:List (Nat×Nat)}(K:Xf9 s β lsF lbF):∀{d u:D} {ls g:List Nat} {c:Prop} {l:List Nat},lend s ls d=some (c,u,g,l)->c->Frz s M' β w l->g <+:lsF ->
 ∀{y:Value},Rep P M β d y->Rep P M' (Kj lbF) u y
 |.ept id ver z i k,u,ls,g,c,l,h,p,q,hp,y,f=>by
  have key:∀j,lsF[j]? = some id->i=0->(∃E L fz,s id=some (ver,.arr true E z [L] fz))->Rep P M' (Kj lbF) (.ept (LB+j) 0 z 0 k) y:=by
   rintro j V rfl ⟨E,L,fz,S⟩;obtain⟨v',E',z',cs',fz',x,O,hx,hb⟩:=K j id V;rw[S]at O;obtain⟨rfl,_⟩:ver=v'/\_:=by simpa using O
   simp only[Rep]at f⊢;obtain⟨b,Z,R,rfl⟩:=f;rw[hb]at R;obtain rfl:x=(b,Z):=by simpa using R
   exact⟨b,Z,by simp[Kj,hx],rfl⟩
  unfold lend at h;split at h
  .rename_i ver' E z' L fz S;split at h
   .rename_i H;have⟨rfl,rfl,N⟩:=H;split at h
    .rename_i j V;obtain⟨rfl,rfl,rfl,rfl⟩:=h;refine key j ?_ N ⟨_,_,_,S⟩;have:=Xka V;obtain⟨t,rfl⟩:=hp;rw[Uk]
     .exact this
     rcases Ux j ls.length with h|h
     .exact h
     rw[WO h]at this;cases this
    obtain⟨rfl,rfl,rfl,rfl⟩:=h;refine key ls.length ?_ N ⟨_,_,_,S⟩;obtain⟨t,rfl⟩:=hp;simp
   cases h
  simp_all
 |.agg L,u,ls,g,c,l,h,p,q,hp,y,f=>by
  unfold lend at h;split at h
  .rename_i B ds J G r;obtain⟨rfl,rfl,rfl,rfl⟩:=h;simp only[Rep]at f⊢;obtain⟨T,e,f⟩:=f;exact⟨T,e,K6 I A K r p q hp f⟩
  simp_all
 |.tup L,u,ls,g,c,l,h,p,q,hp,y,f=>by
  unfold lend at h;split at h
  .rename_i B ds J G r;simp only[Wp,Wy]at h;obtain⟨rfl,rfl,rfl,rfl⟩:=h;simp only[Rep]at f⊢;obtain⟨T,e,f⟩:=f;exact⟨T,e,K6 I A K r p q hp f⟩
  simp_all
 |.clo fn a b,u,ls,g,c,l,h,p,q,hp,y,f=>by
  unfold lend at h;split at h
  .rename_i c1 a' ls1 l1 h1;split at h
   .rename_i c2 b' J l2 h2;simp only[Wp,Wy]at h;obtain⟨rfl,rfl,rfl,rfl⟩:=h;simp only[Rep]at f⊢;obtain⟨va,vb,e,W,Y⟩:=f;exact⟨va,vb,e,K6 I A K h1 p.1 (λi N=>q i (WW _ N)) ((Zd h2).trans hp) W,K6 I A K h2 p.2 (λi N=>q i (Ui _ N)) hp Y⟩
   cases h
  simp_all
 |.ifc t d,u,ls,g,c,l,h,p,q,hp,y,f=>by
  unfold lend at h;split at h
  .rename_i B e J G r;simp only[Wp,Wy]at h;obtain⟨rfl,rfl,rfl,rfl⟩:=h;simp only[Rep]at f⊢;obtain⟨x,e,f⟩:=f;exact⟨x,e,lend_rep I A K r p q hp f⟩
  simp_all
 |.osl id ver z off len,u,ls,g,c,l,h,p,q,hp,y,f=>by
  unfold lend at h;split at h
  .rename_i B e G r;simp only[Wp,Wy]at h;obtain⟨rfl,rfl,rfl,rfl⟩:=h;exact(snap_rep I A r p q f).mono (MLe.refl _) (BLe.zero _)
  simp_all
 |.any,u,ls,g,c,l,h,p,q,hp,y,f=>by
  unfold lend at h;split at h
  .rename_i B e G r;simp only[Wp,Wy]at h;obtain⟨rfl,rfl,rfl,rfl⟩:=h;exact(snap_rep I A r p q f).mono (MLe.refl _) (BLe.zero _)
  simp_all
 |.v x,u,ls,g,c,l,h,p,q,hp,y,f=>by
  unfold lend at h;split at h
  .rename_i B e G r;simp only[Wp,Wy]at h;obtain⟨rfl,rfl,rfl,rfl⟩:=h;exact(snap_rep I A r p q f).mono (MLe.refl _) (BLe.zero _)
  simp_all
 |.nsl,u,ls,g,c,l,h,p,q,hp,y,f=>by
  unfold lend at h;split at h
  .rename_i B e G r;simp only[Wp,Wy]at h;obtain⟨rfl,rfl,rfl,rfl⟩:=h;exact(snap_rep I A r p q f).mono (MLe.refl _) (BLe.zero _)
  simp_all
 |.isl E z es,u,ls,g,c,l,h,p,q,hp,y,f=>by
  unfold lend at h;split at h
  .rename_i B e G r;simp only[Wp,Wy]at h;obtain⟨rfl,rfl,rfl,rfl⟩:=h;exact(snap_rep I A r p q f).mono (MLe.refl _) (BLe.zero _)
  simp_all
 |.ipt z L k,u,ls,g,c,l,h,p,q,hp,y,f=>by
  unfold lend at h;split at h
  .rename_i B e G r;simp only[Wp,Wy]at h;obtain⟨rfl,rfl,rfl,rfl⟩:=h;exact(snap_rep I A r p q f).mono (MLe.refl _) (BLe.zero _)
  simp_all
 |.fsl E z es,u,ls,g,c,l,h,p,q,hp,y,f=>by simp_all[Rep]
 |.fmp k ks T,u,ls,g,c,l,h,p,q,hp,y,f=>by simp_all[Rep]
 |.omp id ver,u,ls,g,c,l,h,p,q,hp,y,f=>by simp_all[lend,snap]
def K6(I:U6 P C s U M β w)(y:MLe M M'){lsF:List Nat}{lbF:List (Nat×Nat)}(z:Xf9 s β lsF lbF):∀{k f:List D} {ls g:List Nat} {c:Prop} {l:List Nat},ZM s ls k=some (c,f,g,l)->c->Frz s M' β w l->g <+:lsF ->
 ∀{j:List Value},RepL P M β k j->RepL P M' (Kj lbF) f j
 |[],f,ls,g,c,l,h,p,q,hp,j,A=>by simp_all[ZM,Wp,Wy,RepL]
 |d::k,f,ls,g,c,l,h,p,q,hp,j,A=>by
  unfold ZM at h;split at h
  .rename_i c1 e E K G;split at h
   .rename_i L N H O B;obtain⟨rfl,rfl,rfl,rfl⟩:=h;have⟨x,J,e,r,u⟩:=A;exact⟨x,J,e,lend_rep I y z G p.1 (λi v=>q i (WW _ v)) ((Zd B).trans hp) r,K6 I y z B p.2 (λi v=>q i (Ui _ v)) hp u⟩
   cases h
  simp_all
end
end
variable {P:Program}
def Jl(s:Heap):List Nat->Option (Prop×List Ob×List Nat)
 |[]=>some (True,[],[])
 |id::ids=>match s id with
  |some (_,.arr true E z [e] fz)=>match ZQ s e,Jl s ids with
   |some (c,f,l),some (g,obs,h)=>some (c/\g,.arr true E z [f] fz::obs,l++h)
   |_,_=>none
  |_=>none
def ZR(s:Heap):List Nat->List Ob->Up
 |id::ids,o::os=>match s id with
  |some (v,_)=>(id,v,o)::ZR s ids os
  |none=>ZR s ids os
 |_,_=>[]
section
variable {C:Cx}{s:Heap}{U:Nat->Prop}{M M':Mem}{β:Loc}{w w':World}
def Xb0{N:List Nat}(I:U6 P C s U M β w)(hM:MLe M M')(I':U6 P C (frz s N) U M' β w)(B:Frz s M' β w N):∀{ids:List Nat} {c:Prop} {obs:List Ob} {l:List Nat} {lb:List (Nat×Nat)},Jl s ids=some (c,obs,l)->c->(∀x∈l,x∈N)->Xf9 s β ids lb->lb.length=ids.length ->
 obs.length=ids.length/\∀(k:Nat)ob x,obs[k]? = some ob->lb[k]? = some x->ObRep P M' Yx w (some x) ob/\ob.bx=true
 |[],c,obs,l,lb,h,R,S,V,f=>by simp_all[Jl,Wp,Wy]
 |id::ids,c,obs,l,lb,h,R,S,V,f=>by
  unfold Jl at h;split at h
  .rename_i v E z q fz O;split at h
   .rename_i c1 ds l1 c2 obs2 l2 h1 h2;obtain⟨rfl,rfl,rfl⟩:=h;match lb,f with
    |x0::lb,f=>
     have W:Xf9 s β ids lb:=λj i hj=>by simpa using V (j+1) i (by simpa using hj)
     have⟨g1,g2⟩:=Xb0 I hM I' B h2 R.2 (λx g=>S x (Ui _ g)) W (by simpa using f);refine⟨by simp[g1],λk ob x Y g=>?_⟩;cases k with
     |succ k=>exact g2 k ob x (by exact Y) (by exact g)
     |zero=>
      simp at Y g;subst Y;subst g;refine⟨?_,rfl⟩;have⟨v',E',z',cs',fz',x,D,G,hb⟩:=V 0 id ac;simp at G;subst G;rw[O]at D;obtain⟨rfl,_⟩:v=v'/\_:=by simpa using D
      have Z:frz s N id=some (v,.arr true E z [q] fz):=by
       unfold frz;split
       .rw[O];rfl
       exact O
      have⟨x1,H,hob⟩:=I'.obs id v _ Z;rw[hb]at H;obtain rfl:x0=x1:=by simpa using H
      have⟨b,cb⟩:=x0;have⟨y,T,k1,k2,k3,k4,k5,k6,k7,k8,k9,k10⟩:=hob;have⟨x2,J,K⟩:=I.obs id v _ O;rw[hb]at J;obtain rfl:some (b,cb)=x2:=by simpa using J
      have⟨y2,T2,j1,j2,j3,j4,j5,j6,j7,j8,j9,j10⟩:=K;rw[k1]at j1;have⟨rfl,rfl⟩:y=y2/\T=T2:=by simpa using j1
      have p:RepL P M β q (y.toList.take q.length):=by
       have hle:q.length<=y.size:=by have:=k3 q ac;have:z<=cb*z:=Nat.le_mul_of_pos_left _ (by simp at k4;omega);omega
       refine RepL.of ai λi d x hd g=>?_;obtain⟨u,A,r⟩:=j10 i d (by simpa using hd);rw[Us]at g;split at g
       .rw[U3,A]at g;obtain rfl:u=x:=by simpa using g
        exact r
       cases g
      have L:=Kt I hM h1 R.1 (λi hi=>B i (S i (WW _ hi))) p;have hdl:ds.length=q.length:=by rw[←L.length,p.length]
      refine⟨y,T,k1,k2,?_,by exact k4,by exact k5,by exact k6,by exact k7,k8,k9,λi d hd=>?_⟩
      .intro e he;simp at he;subst he;rw[hdl];exact k3 q ac
      have hd':ds[i]? = some d:=by simpa using hd
      have⟨u,A,r⟩:=L.get i d hd';rw[Us]at A;split at A
      .exact⟨u,by simpa using A,r⟩
      cases A
   cases h
  simp_all
def Xdt(f:Heap):∀(ids:List Nat) (obs:List Ob) (s:Heap) (i:Nat),ids.Nodup->(∀id∈ids,∃v o,f id=some (v,o))->obs.length=ids.length ->
 (i∉ids->app s (ZR f ids obs) i=s i)/\∀(j:Nat)o,ids[j]? = some i->obs[j]? = some o->∀v o',f i=some (v,o')->app s (ZR f ids obs) i=some (v,o)
 |[],obs,s,i,_,_,_=>by simp[ZR,app]
 |id::ids,o::obs,s,i,g,e,h=>by
  have⟨v,y,k⟩:=e id ac;simp at g;have p:app s (ZR f (id::ids) (o::obs))=app (upd s id (some (v,o))) (ZR f ids obs):=by simp only[ZR,k];rfl
  have⟨g1,g2⟩:=Xdt f ids obs (upd s id (some (v,o))) i g.2 (λx z=>e x (by grind)) (by simp_all);rw[p];refine⟨λq=>?_,λj o' A B D r u=>?_⟩
  .simp_all[Ig,not_or,g1,q,X9]
  cases j with
  |zero=>simp_all[k,g1,g,YA]
  |succ j=>grind
def U6.called(I:U6 P C s U M β w){ids:List Nat}{lb:List (Nat×Nat)}(hB:Xds s ids)(T:Xf9 s β ids lb)(hlb:lb.length=ids.length)(hK:Kp w (lb.map (·.1)) w')(hmem:MemOK M' w')(p:∀b o,b<w.heap.size->M' b o=M b o){obs:List Ob}(V:obs.length=ids.length)(K:∀(k:Nat)ob x,obs[k]? = some ob->lb[k]? = some x->ObRep P M' Yx w' (some x) ob/\ob.bx=true):
 U6 P C (app s (ZR s ids obs)) U M' β w'/\MLe M M':=by
 have q:MLe M M':=λb o x g=>by rw[p b o (I.mem.lt g)];omega
 have L:∀id∈ids,∃v o,s id=some (v,o):=λid f=>by have⟨v,E,z,W,fz,h⟩:=hB.2 id f;simp_all
 have G:∀id v ob,app s (ZR s ids obs) id=some (v,ob)->(id∉ids/\s id=some (v,ob))\/∃(j:Nat) (x:Nat×Nat) (r:Ob),ids[j]? = some id/\lb[j]? = some x/\obs[j]? = some ob/\s id=some (v,r)/\r.bx=true/\β id v=some (some x):=by
  intro id v ob h;obtain⟨g1,g2⟩:=Xdt s ids obs s id hB.1 L V;by_cases f:id∈ids
  .right;obtain⟨j,H,rfl⟩:=Wt f;have⟨D,E,z,W,fz,x,e,g,hb⟩:=T j _ (Wb H);have N:obs[j]? = some (obs[j]'ab):=Wb ab;have:=g2 j _ ac N D _ e;have⟨rfl,rfl⟩:D=v/\obs[j]'ab=ob:=by simp_all
   exact⟨j,x,_,Wb H,g,N,e,rfl,hb⟩
  simp_all
 have O:∀id v ob b u,id∉ids->s id=some (v,ob)->β id v=some (some (b,u))->b∉lb.map (·.1):=by
  intro id v ob b u f e hb R;rw[WI]at R;obtain⟨x,g,rfl⟩:=R;obtain⟨j,H,rfl⟩:=Wt g;obtain⟨D,E,z,W,fz,x',y,A,B⟩:=T j (ids[j]'ab) ac;have:lb[j]=x':=by rw[Wb H]at A;simpa using A
  have S:=I.inj id v ob (ids[j]'ab) D _ _ u x'.2 e y (by rw[hb]) (by simp_all);exact f (S▸Ww _)
 refine⟨?_,q⟩;constructor
 .omega
 .exact I.used
 .intro id v ob e;rcases G id v ob e with⟨f,e⟩|⟨j,x,r,H,g,N,e,_,hb⟩
  .have⟨x,g,Y⟩:=I.obs id v ob e;refine⟨x,g,Y.mono q (BLe.refl _) ?_ ?_⟩
   .rintro b u rfl;exact hK.block b Y.lt (O id v ob b u f e g)
   rintro b u rfl o;exact p b o Y.lt
  have⟨g1,g2⟩:=K j ob x N g;exact⟨some x,hb,g1.mono (MLe.refl _) (BLe.zero _) (λ_ _ _=>rfl) (λ_ _ _ _=>rfl)⟩
 .intro id v ob b u e hb;rcases G id v ob e with⟨f,e⟩|⟨j,x,r,H,g,N,e,hbx,B⟩
  .exact I.own id v ob b u e hb
  rcases I.own id v r b u e hb with h|h
  .exact .inl h
  grind
 .intro id v ob J D Z b u cb' e y hb B;have h1:∃o,s id=some (v,o):=by rcases G id v ob e with⟨_,e⟩|⟨_,_,o,_,_,_,e,_⟩<;>exact⟨_,e⟩
  have h2:∃o,s J=some (D,o):=by rcases G J D Z y with⟨_,e⟩|⟨_,_,o,_,_,_,e,_⟩<;>exact⟨_,e⟩
  have⟨o1,h1⟩:=h1;have⟨o2,h2⟩:=h2;exact I.inj id v o1 J D o2 b u cb' h1 h2 hb B
 .refine⟨hK.os.trans I.keep.os,hK.tape.trans I.keep.tape,hK.output.trans I.keep.output,UK I.keep.size hK.size,λk hk hl=>?_⟩;rw[←I.keep.block k hk hl];refine hK.block k (Oa hk I.keep.size) λR=>?_;rw[WI]at R;obtain⟨x,g,rfl⟩:=R;obtain⟨j,H,rfl⟩:=Wt g;have⟨D,E,z,W,fz,x',y,A,B⟩:=T j (ids[j]'ab) ac;have hx2:lb[j]=x':=by rw[Wb H]at A;simpa using A
  rcases I.own _ D _ lb[j].1 x'.2 y (by rw[B,hx2])with h|h
  .omega
  simp_all
 .intro b o hb;rw[p b o (Oa hb I.keep.size)];exact I.old b o hb
 .exact I.le.trans q
 exact I.glob
end
variable {P:Program}
mutual
def fits:D->D->Prop
 |.nsl,.isl _ _ j=>j=[]
 |.agg f,.agg g=>Z3 f g
 |.tup f,.tup g=>Z3 f g
 |.clo fn a b,.clo h k p=>fn=h/\Z3 a k/\Z3 b p
 |.ifc t d,.ifc q r=>t=q/\fits d r
 |d,e=>d=e
def Z3:List D->List D->Prop
 |[],[]=>True
 |d::f,e::g=>fits d e/\Z3 f g
 |_,_=>False
end
mutual
def fits_rep{M:Mem}{β:Loc}:∀{d e:D} {y:Value},fits d e->Rep P M β d y->Rep P M β e y
 |.nsl,e,y,h,g=>by
  cases e<;>simp only[fits,reduceCtorEq]at h<;>try (first|exact g|(exact h.elim))
  grind[Rep,Xv]
 |.agg r,e,y,h,g=>by cases e<;>simp only[fits,reduceCtorEq]at h;have⟨j,e,g⟩:=g;exact⟨j,e,K7 h g⟩
 |.tup r,e,y,h,g=>by cases e<;>simp only[fits,reduceCtorEq]at h;have⟨j,e,g⟩:=g;exact⟨j,e,K7 h g⟩
 |.clo fn a b,e,y,h,g=>by cases e<;>simp only[fits,reduceCtorEq]at h;have⟨rfl,k,u⟩:=h;have⟨z,vb,e,p,q⟩:=g;exact⟨z,vb,e,K7 k p,K7 u q⟩
 |.ifc t d,e,y,h,g=>by cases e<;>simp only[fits,reduceCtorEq]at h;have⟨rfl,k⟩:=h;have⟨x,e,g⟩:=g;exact⟨x,e,fits_rep k g⟩
 |.any,e,y,h,g=>by simp_all[fits]
 |.v x,e,y,h,g=>by simp_all[fits]
 |.isl a b c,e,y,h,g=>by simp_all[fits]
 |.osl a b c d f,e,y,h,g=>by simp_all[fits]
 |.ept a b c d f,e,y,h,g=>by simp_all[fits]
 |.ipt a b c,e,y,h,g=>by simp_all[fits]
 |.fsl a b c,e,y,h,g=>by simp_all[Rep]
 |.fmp a b c,e,y,h,g=>by simp_all[Rep]
 |.omp a b,e,y,h,g=>by simp_all[fits]
def K7{M:Mem}{β:Loc}:∀{j f:List D} {g:List Value},Z3 j f->RepL P M β j g->RepL P M β f g
 |[],f,g,h,k=>by grind[Z3]
 |d::j,f,g,h,k=>by cases f<;>simp only[Z3]at h;have⟨x,p,e,q,r⟩:=k;exact⟨x,p,e,fits_rep h.1 q,K7 h.2 r⟩
end
mutual
def scal:D->Bool
 |.any=>true
 |.v _=>true
 |.agg e=>JW e
 |.tup e=>JW e
 |_=>false
def JW:List D->Bool
 |[]=>true
 |d::e=>scal d&&JW e
end
mutual
def scal_rep{M M':Mem}{w:World}{B:Nat}(β:Loc)(ver n:Nat):∀{d:D} {y:Value} {l:List (Option (Nat×Nat))},scal d=true->FrRep P M w B d y l->l=[]/\Rep P M' β d y/\imp ver n d=(d,n,[])
 |.any,y,l,_,f=>by simp_all[FrRep,Rep,imp]
 |.v x,y,l,_,f=>by simp_all[FrRep,Rep,imp]
 |.agg j,y,l,g,f=>by have⟨k,e,f⟩:=f;have⟨p,q,h⟩:=Xb1 (M':=M') β ver n g f;simp_all[Rep,imp,h]
 |.tup j,y,l,g,f=>by have⟨k,e,f⟩:=f;have⟨p,q,h⟩:=Xb1 (M':=M') β ver n g f;simp_all[Rep,imp,h]
 |.nsl,y,l,g,f=>by simp_all[scal]
 |.isl ..,y,l,g,f=>by simp_all[scal]
 |.osl ..,y,l,g,f=>by simp_all[scal]
 |.ept ..,y,l,g,f=>by simp_all[scal]
 |.ipt ..,y,l,g,f=>by simp_all[scal]
 |.clo ..,y,l,g,f=>by simp_all[scal]
 |.ifc ..,y,l,g,f=>by simp_all[scal]
 |.fsl ..,y,l,g,f=>by simp_all[scal]
 |.fmp ..,y,l,g,f=>by simp_all[scal]
 |.omp ..,y,l,g,f=>by simp_all[scal]
def Xb1{M M':Mem}{w:World}{B:Nat}(β:Loc)(ver n:Nat):∀{f:List D} {g:List Value} {l:List (Option (Nat×Nat))},JW f=true->FrRepL P M w B f g l->l=[]/\RepL P M' β f g/\VL ver n f=(f,n,[])
 |[],g,l,_,h=>by simp_all[FrRepL,RepL,h,VL]
 |d::f,g,l,j,h=>by simp only[JW,WH]at j;obtain⟨x,u,v,y,e,rfl,k,p⟩:=h;obtain⟨rfl,z,q⟩:=scal_rep (M':=M') β ver n j.1 k;obtain⟨rfl,A,r⟩:=Xb1 (M':=M') β ver n j.2 p;exact⟨rfl,by grind[RepL],by simp[VL,q,r,Ih]⟩
end
mutual
def FrRep.ge{M:Mem}{w:World}{B:Nat}:∀{d:D} {y:Value} {l:List (Option (Nat×Nat))},FrRep P M w B d y l->∀b∈XQ l,B<=b
 |.fsl E z p,y,l,e=>by
  rcases e with⟨rfl,_⟩|⟨b,q,o,rfl,hb,_⟩
  .simp[XQ]
  simp[XQ,hb]
 |.fmp k r f,y,l,e=>by obtain⟨b,rfl,hb,_⟩:=e;simp[XQ,hb]
 |.agg g,y,l,e=>by have⟨f,_,e⟩:=e;exact FrRepL.ge e
 |.tup g,y,l,e=>by have⟨f,_,e⟩:=e;exact FrRepL.ge e
 |.ifc t d,y,l,e=>by have⟨f,_,e⟩:=e;exact FrRep.ge e
 |.clo fn a b,y,l,e=>by
  obtain⟨u,vb,_,x,A,rfl,h,j⟩:=e;intro b hb;rw[X1,Wr]at hb;rcases hb with hb|hb
  .exact FrRepL.ge h b hb
  exact FrRepL.ge j b hb
 |.any,y,l,e=>by simp_all[FrRep,XQ]
 |.v _,y,l,e=>by simp_all[FrRep,e,XQ]
 |.nsl,y,l,e=>by simp_all[FrRep,e,XQ]
 |.isl ..,y,l,e=>by simp_all[FrRep,e,XQ]
 |.ipt ..,y,l,e=>by simp_all[FrRep,e,XQ]
 |.osl ..,y,l,e=>by simp_all[FrRep]
 |.ept ..,y,l,e=>by simp_all[FrRep]
 |.omp ..,y,l,e=>by simp_all[FrRep]
def FrRepL.ge{M:Mem}{w:World}{B:Nat}:∀{g:List D} {e:List Value} {l:List (Option (Nat×Nat))},FrRepL P M w B g e l->∀b∈XQ l,B<=b
 |[],e,l,f=>by simp_all[FrRepL,f,XQ]
 |d::g,e,l,f=>by
  obtain⟨x,k,p,q,_,rfl,h,j⟩:=f;intro b hb;rw[X1,Wr]at hb;rcases hb with hb|hb
  .exact FrRep.ge h b hb
  exact FrRepL.ge j b hb
end
def Zh(s:Heap)(args:List D):Option (Prop×List D×List Nat×List Ob×List Nat):=
 match ZM s [] args with
 |some (c,as,ids,e)=>match Jl s ids with
  |some (f,obs,g)=>some (c/\f,as,ids,obs,e++g)
  |none=>none
 |none=>none
def VU:Ob->Bool
 |.arr true _ _ e 0=>e.all JW
 |_=>false
mutual
def scalR{M M':Mem}{β β':Loc}:∀{d:D} {y:Value},scal d=true->Rep P M β d y->Rep P M' β' d y
 |.any,y,_,_=>by simp[Rep]
 |.v x,y,_,h=>by assumption
 |.agg j,y,f,h=>by have⟨g,e,h⟩:=h;exact⟨g,e,Xi9 f h⟩
 |.tup j,y,f,h=>by have⟨g,e,h⟩:=h;exact⟨g,e,Xi9 f h⟩
 |.nsl,_,f,_=>by assumption
 |.isl ..,_,f,_=>by simp_all[scal]
 |.osl ..,_,f,_=>by simp_all[scal]
 |.ept ..,_,f,_=>by simp_all[scal]
 |.ipt ..,_,f,_=>by simp_all[scal]
 |.clo ..,_,f,_=>by simp_all[scal]
 |.ifc ..,_,f,_=>by simp_all[scal]
 |.fsl ..,_,f,_=>by assumption
 |.fmp ..,_,f,_=>by assumption
 |.omp ..,_,f,_=>by simp_all[scal]
def Xi9{M M':Mem}{β β':Loc}:∀{f:List D} {g:List Value},JW f=true->RepL P M β f g->RepL P M' β' f g
 |[],g,_,h=>by assumption
 |d::f,g,j,h=>by simp only[JW,WH]at j;have⟨x,k,e,p,q⟩:=h;exact⟨x,k,e,scalR j.1 p,Xi9 j.2 q⟩
end
def Xfa:∀{f:List D},JW f=true->∀d∈f,scal d=true
 |[],_,d,h=>by grind
 |e::f,g,d,h=>by
  simp only[JW,WH]at g;rcases Ig.1 h with rfl|h
  .simp_all
  exact Xfa g.2 d h
def XlB{M M':Mem}{w:World}{x:Nat×Nat}:∀{ob:Ob},VU ob=true->(∀b o y,M b o=some y->M' b o=some y)->ObRep P M' Yx w (some x) ob->ObRep P M Yx w (some x) ob
 |.mp ..,f,_,_=>by simp_all[VU]
 |.raw _,f,_,_=>by simp_all[VU]
 |.arr false ..,f,_,_=>by simp_all[VU]
 |.arr true E z k (n+1),f,_,_=>by simp_all[VU]
 |.arr true E z k 0,f,p,h=>by
  have⟨b,L⟩:=x;simp only[VU,W0]at f;have⟨q,T,k1,k2,r,u,v,A,B,D,G,g⟩:=h;refine⟨q,T,k1,k2,r,u,v,A,B,D,λo=>?_,λi d hd=>?_⟩
  .have H:=G o;rw[Wj ab]at H⊢;cases N:M b o with
   |none=>rfl
   |some y=>simp_all
  have⟨y,I,J⟩:=g i d hd;have⟨e,K,j⟩:=List.mem_flatten.1 (W3 hd);exact⟨y,I,scalR (Xfa (f e K) d j) J⟩
def K8(s:Heap)(ids fz:List Nat)(r:D)(ls:List Ob)(ver n:Nat):D×Heap:=
 let e:=if scal r&&ls.all VU then s else frz s fz
 let f:=app e (ZR s ids ls)
 let q:=imp ver n r
 (q.1,app f q.2.2)
section
variable {C:Cx}{s:Heap}{U:Nat->Prop}{M:Mem}{β:Loc}{w:World}{ver:Nat}
def Xb2(s:Heap)(fz:List Nat):∀(ids:List Nat) (obs:List Ob),(∀id∈ids,∃v o,s id=some (v,o))->ZR (frz s fz) ids obs=ZR s ids obs
 |[],_,_=>rfl
 |id::ids,[],_=>rfl
 |id::ids,o::obs,h=>by
  have⟨v,j,e⟩:=h id ac;have k:=Xb2 s fz ids obs λx p=>h x (by simp[p]);have g:∃o',frz s fz id=some (v,o'):=by
   unfold frz;split
   .rw[e];cases j with
    |mp _=>exact⟨_,rfl⟩
    |raw _=>exact⟨_,rfl⟩
    |arr bx E z q f=>cases bx<;>exact⟨_,rfl⟩
   exact⟨_,e⟩
  have⟨o',g⟩:=g;simp[ZR,g,e,k]
def Xkb(I:U6 P C s U M β w)(hv:¬U ver){f:FuncId}{args eargs:List D}{vs:List Value}(hr:RepL P M β args vs){c:Prop}{as:List D}{ids:List Nat}{obs:List Ob}{fz:List Nat}(h:Zh s args=some (c,as,ids,obs,fz))(hc:c)(hfit:Z3 as eargs){R:D->List Ob->Prop}(hA:YV P C.G f eargs obs R)(n:Nat):
 Calls P f ⟨vs⟩ w λe w'=>∃v r ls M' β',e=.returned v/\R r ls/\U6 P C (K8 s ids fz r ls ver n).2 (λx=>U x\/x=ver) M' β' w'/\Rep P M' β' (K8 s ids fz r ls ver n).1 v/\MLe M M'/\BLe β β':=by
 unfold Zh at h;split at h
 .rename_i c1 as' ids' l1 hl;split at h
  .rename_i c2 obs' l2 ho;simp only[Wp,Wy]at h;have⟨rfl,rfl,rfl,rfl,rfl⟩:=h;have⟨M1,I1,N,hF⟩:=I.freeze (l1++l2);have hboxes:Xds s ids':=Y9 hl ⟨ac,ac⟩;have hlb:∃lb:List (Nat×Nat),lb.length=ids'.length/\Xf9 s β ids' lb:=by
    have:∀l:List Nat,(∀id∈l,∃v E z H fz,s id=some (v,.arr true E z [H] fz))->∃lb:List (Nat×Nat),lb.length=l.length/\Xf9 s β l lb:=by
     intro l;induction l with
     |nil=>intro _;exact⟨[],rfl,λj id h=>by simp at h⟩
     |cons id l ih=>
      intro q;obtain⟨lb,J,h2⟩:=ih λx y=>q x (by simp[y]);obtain⟨v,E,z,H,fz,A⟩:=q id ac;obtain⟨x,y,hob⟩:=I.obs id v _ A;cases x with
      |none=>simp[ObRep]at hob
      |some x=>
       refine⟨x::lb,by simp[J],λj i T=>?_⟩;cases j with
       |zero=>simp at T;subst T;exact⟨v,E,z,H,fz,x,A,ac,y⟩
       |succ j=>simpa using h2 j i (by simpa using T)
    exact this ids' hboxes.2
   have⟨lb,u,hL⟩:=hlb;have hargs:=K7 hfit (K6 I N hL hl hc.1 (λi hi=>hF i (WW _ hi)) (List.prefix_refl _) hr);have⟨g1,g2⟩:=Xb0 I N I1 hF ho hc.2 (λx y=>Ui _ y) hL u;have hnd:(lb.map (·.1)).Nodup:=by
    rw[List.nodup_iff_pairwise_ne,W7];intro i j hi0 hj0 hij he;simp only[Uf]at hi0 hj0;have hii:i<lb.length:=ab;have T:j<lb.length:=ab;simp only[List.getElem_map]at he;obtain⟨v,E,z,H,fz,x,A,y,hb⟩:=hL i (ids'[i]'ab) ac;obtain⟨v',E',z',cs',fz',x',hs',hx',hb'⟩:=hL j (ids'[j]'ab) ac;have e1:lb[i]=x:=by simpa [hii]using y
    have e2:lb[j]=x':=by simpa [T]using hx'
    have p:=I.inj _ v _ _ v' _ x.1 x.2 x'.2 A hs' hb (by rw[hb',←e2,←e1,he]);have:=(W7.1 (List.nodup_iff_pairwise_ne.1 hboxes.1)) i j ab ab hij;exact this p
   refine(hA.2 M1 w vs lb I1.mem (λg H hg=>RepC.mono I1.le (I1.glob g H hg)) (by rw[u,g1]) hnd g2 hargs).mono ?_;rintro e w' ⟨v,r,ls,M',l,rfl,hR,hK,V,W,hls,Y,hfr,hndl⟩;refine⟨v,r,ls,?_⟩;have K:ls.length=ids'.length:=by rw[hls,u]
   have q:∀id∈ids',∃v o,s id=some (v,o):=λid p=>by have⟨v,E,z,H,fz,h⟩:=hboxes.2 id p;exact⟨_,_,h⟩
   have L:∀b o x,M b o=some x->M' b o=some x:=λb o x y=>by rw[W b o (I.mem.lt y)];exact N _ _ _ y
   unfold K8;by_cases O:(scal r&&ls.all VU)=true
   .simp only[O,if_true];simp only[WH]at O;have⟨hsc1,hso⟩:=O;have⟨rfl,hrv,Z⟩:=scal_rep (M':=M) β ver n hsc1 hfr;have⟨I2,_⟩:=I.called (ids:=ids') (lb:=lb) (M':=M) (w':=w') (obs:=ls) hboxes hL u hK (λb o x y=>V b o x (L b o x y)) (λ_ _ _=>rfl) K (λk ob x J h2=>by
     obtain⟨g3,g4⟩:=Y k ob x J h2
     exact⟨XlB (W0.1 hso ob (W3 J)) L g3,g4⟩)
    refine⟨M,β,trivial,hR,?_,?_,MLe.refl _,BLe.refl _⟩
    .rw[Z];exact I2.mono λ_ h=>.inl h
    rw[Z];exact hrv
   simp only[O,Iu,if_false];have S:Xds (frz s (l1++l2)) ids':=⟨hboxes.1,λid p=>by
    obtain⟨v,E,z,H,fz,A⟩:=hboxes.2 id p
    refine⟨v,E,z,H,fz,?_⟩
    unfold frz
    split
    .rw[A];rfl
    .exact A⟩
   have hL1:Xf9 (frz s (l1++l2)) β ids' lb:=λj id T=>by
    obtain⟨v,E,z,H,fz,x,A,y,hb⟩:=hL j id T;refine⟨v,E,z,H,fz,x,?_,y,hb⟩;unfold frz;split
    .rw[A];rfl
    exact A
   have⟨I2,hM2⟩:=I1.called S hL1 u hK V W K Y;rw[Xb2 s _ ids' ls q]at I2;have hfree:Xi8 (app (frz s (l1++l2)) (ZR s ids' ls)) β (XQ l):=by
    intro b hb id v' ob cb A y;have hge:=FrRep.ge hfr b hb;have J:∃o,frz s (l1++l2) id=some (v',o):=by
     obtain⟨q1,q2⟩:=Xdt (frz s (l1++l2)) ids' ls (frz s (l1++l2)) id S.1 (λi hi=>by
      obtain⟨v,E,z,H,fz,h⟩:=S.2 i hi
      exact⟨_,_,h⟩) K
     rw[Xb2 s _ ids' ls q]at q1 q2;by_cases p:id∈ids'
     .obtain⟨j,T,rfl⟩:=Wt p;obtain⟨v2,E,z,H,fz,h⟩:=S.2 _ p;have:=q2 j (ls[j]'ab) ac ac v2 _ h;rw[this]at A;obtain⟨rfl,_⟩:v2=v'/\_:=by simpa using A
      exact⟨_,h⟩
     rw[q1 p]at A;exact⟨_,A⟩
    obtain⟨o,J⟩:=J;obtain⟨x,hx1,hob⟩:=I1.obs id v' o J;rw[y]at hx1;obtain rfl:some (b,cb)=x:=by simpa using hx1
    have:=hob.lt;omega
   have⟨β',J,h2⟩:=imp_ok (C:=C) (ver:=ver) (B:=w.heap.size) I.keep.size r v l n I2 (λi _=>I2.fresh hv i) hfr hndl hfree;exact⟨M',β',trivial,hR,J.inv,h2,N.trans hM2,J.le⟩
  cases h
 simp_all
def XpT(I:U6 P C s U M β w){f:FuncId}{eargs:List D}{B:List Value}{M1:Mem}(u:MLe M M1)(E:MemOK M1 w)(p:RepL P M1 Yx eargs B){R:D->List Ob->Prop}(S:YV P C.G f eargs [] R)(H:∀r ls,R r ls->scal r=true):
 Calls P f ⟨B⟩ w λe w'=>∃v r ls,e=.returned v/\R r ls/\U6 P C s U M β w'/\Rep P M β r v:=by
 refine(S.2 M1 w B [] E (λg T V=>RepC.mono (I.le.trans u) (I.glob g T V)) rfl ac (λk ob x h=>ac) (p.mono (MLe.refl _) (BLe.zero _))).mono ?_;rintro e w' ⟨v,r,ls,M',l,rfl,L,hK,y,z,W,N,J,O⟩;have q:∀b o x,M b o=some x->M' b o=some x:=λb o x A=>by rw[z b o (I.mem.lt A)];exact u _ _ _ A
 have⟨rfl,K,_⟩:=scal_rep (M':=M) β 0 0 (H r ls L) J;have⟨I2,_⟩:=I.called (ids:=[]) (lb:=[]) (M':=M) (w':=w') (obs:=[]) ⟨ac,ac⟩ (λj id h=>by grind) rfl hK (λb o x A=>y b o x (q b o x A)) (λ_ _ _=>rfl) rfl (λk ob x h=>ac);exact⟨v,r,ls,rfl,L,I2,K⟩
end
variable {P:Program}
def HLe(s e:Heap):Prop:=∀i x,s i=some x->e i=some x
section
variable {s s':Heap}
mutual
def snap_le(g:HLe s s'):∀{d:D}{r},snap s d=some r->snap s' d=some r
 |.osl id ver z off len,r,h=>by
  unfold snap at h⊢;split at h
  .rename_i j E u x f e;rw[g _ _ e];exact h
  simp_all
 |.agg k,r,h=>by
  unfold snap at h⊢;split at h
  .rename_i c p l e;rw[Jm g e];exact h
  simp_all
 |.tup k,r,h=>by
  unfold snap at h⊢;split at h
  .rename_i c p l e;rw[Jm g e];exact h
  simp_all
 |.clo fn a b,r,h=>by
  unfold snap at h⊢;split at h
  .rename_i e q;rw[Jm g e,Jm g q];exact h
  simp_all
 |.ifc t d,r,h=>by
  unfold snap at h⊢;split at h
  .rename_i e;rw[snap_le g e];exact h
  simp_all
 |.any,r,h=>by assumption
 |.v _,r,h=>by assumption
 |.nsl,r,h=>by assumption
 |.isl ..,r,h=>by assumption
 |.ipt ..,r,h=>by assumption
 |.ept ..,r,h=>by assumption
 |.fsl ..,r,h=>by assumption
 |.fmp ..,r,h=>by assumption
 |.omp ..,r,h=>by assumption
def Jm(f:HLe s s'):∀{e:List D}{r},ZQ s e=some r->ZQ s' e=some r
 |[],r,h=>by assumption
 |d::e,r,h=>by
  unfold ZQ at h⊢;split at h
  .rename_i g j;rw[snap_le f g,Jm f j];exact h
  simp_all
end
def Xhp(f:HLe s s'):∀{e:List (Nat×D)}{r},VP s e=some r->VP s' e=some r
 |[],r,h=>by assumption
 |(i,d)::e,r,h=>by
  unfold VP at h⊢;split at h
  .rename_i g j;rw[snap_le f g,Xhp f j];exact h
  simp_all
def Has(s:Heap)(l:List Nat):Prop:=∀i∈l,∃x,s i=some x
def Xbt(e:HLe s s'):∀{l:List Nat},Has s l->Xbo s' l=Xbo s l
 |[],_=>rfl
 |i::l,h=>by have⟨x,f⟩:=h i ac;have g:=Xbt e (l:=l) (λj k=>h j (WQ _ k));simp only[Xbo,f,e _ _ f,g]
mutual
def snap_has:∀{d:D}{c e l},snap s d=some (c,e,l)->Has s l
 |.osl id ver z off len,c,e,l,h=>by
  unfold snap at h;split at h
  .rename_i g;split at h
   .obtain⟨_,_,rfl⟩:=h;intro i f;simp at f;subst f;exact⟨_,g⟩
   cases h
  simp_all
 |.agg j,c,e,l,h=>by
  unfold snap at h;split at h
  .rename_i g;obtain⟨_,_,rfl⟩:=h;exact K9 g
  simp_all
 |.tup j,c,e,l,h=>by
  unfold snap at h;split at h
  .rename_i g;obtain⟨_,_,rfl⟩:=h;exact K9 g
  simp_all
 |.clo fn a b,c,e,l,h=>by
  unfold snap at h;split at h
  .rename_i g k;simp only[Wp,Wy]at h;obtain⟨_,_,rfl⟩:=h;intro i f;rcases Wr.1 f with f|f
   .exact K9 g i f
   exact K9 k i f
  simp_all
 |.ifc t d,c,e,l,h=>by
  unfold snap at h;split at h
  .rename_i g;simp only[Wp,Wy]at h;obtain⟨_,_,rfl⟩:=h;exact snap_has g
  simp_all
 |.any,c,e,l,h=>by simp[snap]at h;obtain⟨_,_,rfl⟩:=h;intro i f;simp_all
 |.v _,c,e,l,h=>by simp[snap]at h;obtain⟨_,_,rfl⟩:=h;intro i f;simp_all
 |.nsl,c,e,l,h=>by simp[snap]at h;obtain⟨_,_,rfl⟩:=h;intro i f;simp_all
 |.isl ..,c,e,l,h=>by simp[snap]at h;obtain⟨_,_,rfl⟩:=h;intro i f;simp_all
 |.ipt ..,c,e,l,h=>by simp[snap]at h;obtain⟨_,_,rfl⟩:=h;intro i f;simp_all
 |.ept ..,c,e,l,h=>by simp_all[snap]
 |.fsl ..,c,e,l,h=>by simp_all[snap]
 |.fmp ..,c,e,l,h=>by simp_all[snap]
 |.omp ..,c,e,l,h=>by simp_all[snap]
def K9:∀{g:List D}{c f l},ZQ s g=some (c,f,l)->Has s l
 |[],c,f,l,h=>by obtain⟨_,_,rfl⟩:=h;intro i e;simp_all
 |d::g,c,f,l,h=>by
  unfold ZQ at h;split at h
  .rename_i j k;obtain⟨_,_,rfl⟩:=h;intro i e;rcases Wr.1 e with e|e
   .exact snap_has j i e
   exact K9 k i e
  simp_all
end
def Xfb:∀{g:List (Nat×D)}{c f l},VP s g=some (c,f,l)->Has s l
 |[],c,f,l,h=>by obtain⟨_,_,rfl⟩:=h;intro i e;simp_all
 |(j,d)::g,c,f,l,h=>by
  unfold VP at h;split at h
  .rename_i k p;obtain⟨_,_,rfl⟩:=h;intro i e;rcases Wr.1 e with e|e
   .exact snap_has k i e
   exact Xfb p i e
  simp_all
def XpU(e:HLe s s'){d:D}{r}(h:XfW s d=some r):XfW s' d=some r:=by
 unfold XfW at h⊢;split at h
 .exact h
 .split at h
  .rename_i f;rw[e _ _ f];exact h
  cases h
 omega
def Xhq(e:HLe s s'){z:Nat}{d:D}{r}(h:elems s z d=some r):elems s' z d=some r:=by
 unfold elems at h⊢;split at h
 .exact h
 .exact h
 .exact h
 .split at h
  .rename_i f;rw[e _ _ f];exact h
  cases h
 omega
def Xkc(e:HLe s s'){a b E z n:Nat}{c:Prop}{src:List (List D)}{d:D}{r}(h:XeU P s a b E z n c src d=some r):XeU P s' a b E z n c src d=some r:=by
 unfold XeU at h⊢;split at h
 .exact h
 .split at h
  .rename_i f;rw[e _ _ f];exact h
  cases h
 omega
def Xkd(e:HLe s s'){T:TypeId}{m key x:D}{r}(h:Xi2 P s T m key x=some r):Xi2 P s' T m key x=some r:=by
 unfold Xi2 at h⊢;split at h
 .split at h
  .rename_i g;rw[e _ _ g];split at h
   .rename_i f;rw[snap_le e f];simp only;rw[Xbt e (snap_has f)];exact h
   cases h
  cases h
 omega
def XlC(g:HLe s s'){sz:Nat}{e f mx:Option Int}{d:D}{r}(h:Xa3 s sz e f mx d=some r):Xa3 s' sz e f mx d=some r:=by
 unfold Xa3 at h⊢;split at h
 .split at h
  .split at h
   .rename_i j;simp only[g _ _ j];exact h
   cases h
  grind
 grind
def Xsd(f:HLe s s'){dst:Option Nat}{ver:Nat}{t:Operand->D}{op:Op}{r}(h:opF P dst ver t s op=some r):opF P dst ver t s' op=some r:=by
 cases op with
 |load T a=>
  simp only[opF]at h⊢;split at h
  .rename_i q u;rw[q,XpU f u];exact h
  simp_all
 |store T a x=>
  simp only[opF]at h⊢;split at h
  .split at h
   .rename_i p;rw[f _ _ p];exact h
   .rename_i p;rw[f _ _ p];split at h
    .rename_i g;simp only[snap_le f g];rw[Xbt f (snap_has g)];exact h
    cases h
   cases h
  omega
 |buildSlice T n parts=>
  simp only[opF]at h⊢;split at h
  .split at h
   .split at h
    .split at h
     .rename_i g;rw[Wm g];split at h
      .rename_i j;simp only[Xhp f j];rw[Xbt f (Xfb j)];exact h
      cases h
     cases h
    cases h
   cases h
  omega
 |mapUpdate T m key x=>exact Xkd f h
 |insert T m key x=>exact Xkd f h
 |lookup T m key ok=>
  simp only[opF]at h⊢;split at h
  .split at h
   .rename_i g j;simp only[f _ _ g,j];exact h
   cases h
  omega
 |call c=>
  have⟨callee,args,types⟩:=c;cases callee with
  |builtin b=>
   cases b<;>first|exact h|skip
   case len=>
    simp only[opF]at h⊢
    split at h
    .split at h
     .exact h
     .exact h
     .exact h
     .exact h
     .split at h
      .rename_i g j
       simp only[g,f _ _ j];exact h
      .cases h
     .cases h
    .cases h
   case clear=>
    simp only[opF]at h⊢
    split at h
    .split at h
     .split at h
      .split at h
       .rename_i j k
        simp only[j,f _ _ k];exact h
       .cases h
      .cases h
     .cases h
    .split at h
     .rename_i g j
      simp only[g,f _ _ j];exact h
     .cases h
    .cases h
   case copy=>
    simp only[opF]at h⊢
    split at h
    .split at h
     .split at h
      .rename_i g j k
       simp only[g,f _ _ j,Xhq f k];exact h
      .cases h
     .cases h
    .cases h
   case delete=>
    simp only[opF]at h⊢
    split at h
    .split at h
     .rename_i g j
      simp only[g,f _ _ j];exact h
     .cases h
    .cases h
   simp only[opF]at h⊢;split at h
   .split at h
    .split at h
     .split at h
      .split at h
       .rename_i k;rw[Wm k];split at h
        .split at h
         .rename_i v;simp only[Xhq f v];exact Xkc f h
         cases h
        .split at h
         .exact Xkc f h
         cases h
        cases h
       cases h
      cases h
     cases h
    cases h
   omega
  |_=>exact h
 |slice T x y z mx=>
  simp only[opF]at h⊢;split at h
  .split at h
   .simp only[Uo]at h⊢;obtain⟨a,h,e⟩:=h;exact⟨a,XlC f h,e⟩
   cases h
  .exact h
  cases h
 |_=>exact h
end
variable {P:Program}
inductive It where
 |code (c:Code)
 |ops (full:Array Oper) (rest:List Oper)
 |blk (id:Nat)
 |stop (Q:St->Prop)
abbrev AW:=Act->World->Prop
def Xja{F:Fence}{n:Nat}{c:Code}{Q:Exit->AW}{a:Act}{w:World}(h:c.wpIn F n P (Exit.noGoto Q) a w):(Code.scope c).wpIn F n P Q a w:=by
 intro b k g r hb u;have j:(lone (b.atR a (.code (.scope c)::k)) g w).fenced P F:=fenced_calm hb u rfl;have p:step P (lone (b.atR a (.code (.scope c)::k)) g w)=.next (lone (b.atR a (.code c::.inScope c::k)) g w):=step_lone_go (by rfl)
 have⟨e,a₁,w₁,q,f⟩:=h b (.inScope c::k) g r hb u;have x:step P (lone (b.atR a₁ (.inScope c::k)) g w₁)=.next (lone (b.atR a₁ k) g w₁):=step_lone_go (by rfl)
 cases e with
 |normal=>exact⟨.normal,a₁,w₁,q,.head j p (StepsIn.trans f (.one (fenced_calm hb u rfl) x))⟩
 |exit id=>exact⟨.exit id,a₁,w₁,q,λy z=>.head j p (f.1 y ah),λv z=>let ⟨k1,e,s⟩:=f.2 v ah;⟨k1,e,.head j p s⟩⟩
 |goto l=>exact q.elim
 |ret=>exact⟨_,a₁,w₁,q,.of_steps (.one j p) f⟩
 |panic ch=>exact⟨_,a₁,w₁,q,.of_steps (.one j p) f⟩
 |outgrown=>exact⟨_,a₁,w₁,q,.of_steps (.one j p) f⟩
def XcN{F:Fence}{g:Nat}{c:Code}{Q:Exit->AW}{a:Act}{w:World}(I:Nat->AW)(n:Nat)(j:I n a w)(rd:∀n a w,I n a w->c.wpIn F g P (Exit.then (λa w=>∃k,k<n/\I k a w) Q) a w):(Code.loop c).wpIn F g P Q a w:=by
 refine wpIn_loop (λa w=>∃n,I n a w) (λa w=>leastOf λn=>I n a w) ⟨n,j⟩ λa w p=>wpIn_mono (rd _ a w (leastOf_spec p).1) λe r w' h=>?_;cases e with
 |normal=>have⟨k,q,f⟩:=h;exact And.intro ⟨k,f⟩ (Nat.lt_of_le_of_lt ((leastOf_spec ⟨k,f⟩).2 k f) q)
 |_=>exact h
@[reducible] def fz(r:Option Nat):Fence:={Fence.wide with round:=r}
def Xdu{r:Option Nat}{n:Nat}{f:FuncId}{args:Array Value}{w:World}{R:Ending->World->Prop}(h:Calls P f args w R):CallsIn (fz r) n P f args w R:=(callsIn_wide (n:=n)).2 h
def XmW{r:Option Nat}{n:Nat}{o:Oper}{a:Act}{w:World}{K:AW}{Q:Exit->AW}(hd:∀c,o.op≠.defer c)(h:o.wp P a w K Q):o.wpIn (fz r) n P a w K Q:=by
 refine⟨λ_ _=>trivial,?_⟩;rw[Oper.semAt_eq _ _ _ hd];unfold Oper.wp at h;revert h;generalize (execOp a.eval o).run P w=x;intro h;unfold Oper.upon at h;split at h
 .exact h
 .exact h
 .exact h
 .exact⟨λe=>(by cases e),Xdu h⟩
 .exact⟨λe=>(by cases e),λc f _=>let ⟨v,w',r,s⟩:=h c f;⟨v,w',r,stepsIn_wide.2 s⟩⟩
 .exact h
 simp_all
def Jy(R:AW)(f:Option Nat->AW):Exit->AW
 |.normal=>f none
 |.exit id=>f (some id)
 |.ret=>R
 |_=>λ_ _=>False
def sem(P:Program)(C:Cx)(R:AW):List It->Option Nat->AW
 |[],none=>R
 |[],some _=>λ_ _=>False
 |.stop Q::_,none=>λa w=>∃st,Rel P C st a w/\Q st
 |.stop _::k,some i=>sem P C R k (some i)
 |.blk _::k,none=>sem P C R k none
 |.blk j::k,some i=>if i=j then sem P C R k none else sem P C R k (some i)
 |.code c::k,none=>c.wpIn (fz C.rd) 0 P (Jy R (sem P C R k))
 |.code _::k,some i=>sem P C R k (some i)
 |.ops full rest::k,none=>wpListIn (fz C.rd) 0 P full (Jy R (sem P C R k)) rest
 |.ops _ _::k,some i=>sem P C R k (some i)
def Zv(P:Program)(C:Cx)(Q:St->Prop):AW:=λa w=>∃st,Rel P C st a w/\Q st
class Tag{α:Type}(x:α):Type
instance{α:Type}(x:α):Tag x:=⟨⟩
abbrev Prf{α:Type}(_:α):Prop:=True
def LoopG(P:Program)(C:Cx)(R:St->Prop)(c:Code)(k:List It)(st:St)[Tag (C,R,c,k,st)](_:Prf c):Prop:=
 ∀a w,Rel P C st a w->(Code.loop c).wpIn (fz C.rd) 0 P (Jy (Zv P C R) (sem P C (Zv P C R) k)) a w
def DrawnG(P:Program)(C:Cx)(R:St->Prop)(id:Nat)(ops:Array Oper)(k:List It)(st:St)[Tag (C,R,ops,k,st)](_:Prf ops):Prop:=
 ∀a w,Rel P C st a w->(Code.region id ops true).wpIn (fz C.rd) 0 P (Jy (Zv P C R) (sem P C (Zv P C R) k)) a w
def CallG(P:Program)(G:Nat->Option (List D))(f:FuncId)(args:List D)(obs:List Ob)(K:D->List Ob->Prop)[Tag (G,K)](_:Prf args):Prop:=
 ∃eargs R,Z3 args eargs/\YV P G f eargs obs R/\∀r ls,R r ls->K r ls
def VV(b:Bool)(x y:Prop):Prop:=(b=true->x)/\(b=false->y)
def XaV(st:St)(x:Nat)(d:D):St:={st with t:=upd st.t x d}
def nx(st:St)(dst:Option Nat)(d:D)(u:Up)(n k:Nat):St:=
 ⟨match dst with|some x=>upd st.t x d|none=>st.t,app st.s u,n,k⟩
def XH(dst:Option Nat)(n:Nat):Option Nat:=match dst with
 |some x=>if x<n then some x else none
 |none=>none
def callee(t:Operand->D)(c:Call):Option (FuncId×List D):=match c.callee with
 |.value f=>match t f with
  |.clo (.func g) first caps=>some (g,first++(c.args.toList.map t++caps))
  |_=>none
 |_=>none
def XcU(t:Operand->D)(c:Call):Option (Nat×List D):=match c.callee with
 |.value f=>match t f with
  |.clo (.yield l) [] []=>some (l,c.args.toList.map t)
  |_=>none
 |_=>none
def ZP:Op->Option Call
 |.call c=>match c.callee with
  |.value _=>some c
  |_=>none
 |_=>none
def aft(s:Heap)(ids fz:List Nat)(r:D)(ls:List Ob)(ver n:Nat):D×Up:=
 if scal r&&ls.all VU then(r,ZR s ids ls)else((imp ver n r).1,Xbo s fz++(ZR s ids ls++(imp ver n r).2.2))
def Xse(x:D×Up)(dst:Option Nat)(n k:Nat)(f:Option Nat->D->Up->Nat->Nat->Prop)[Tag f](_:Prf x):Prop:=f dst x.1 x.2 n k
def Xcx(x:Option (Prop×D×Up))(dst:Option Nat)(n k:Nat)(f:Option Nat->D->Up->Nat->Nat->Prop)[Tag f](_:Prf x):Prop:=match (generalizing:=false) x with
 |some (c,d,u)=>c/\f dst d u n k
 |none=>False
def Xjb(P:Program)(G:Nat->Option (List D))(f:FuncId)(x:Option (Prop×List D×List Nat×List Ob×List Nat))(K:List Nat->List Nat->D->List Ob->Prop)[Tag (G,K)](_:Prf x):Prop:=match (generalizing:=false) x with
 |some (e,as,ids,obs,fz)=>e/\CallG P G f as obs (K ids fz) trivial
 |none=>False
def nxS(st:St)(dst:Option Nat)(d:D)(s:Heap)(n k:Nat):St:=
 ⟨match dst with|some x=>upd st.t x d|none=>st.t,s,n,k⟩
def Xhr(n:Nat)(dst:Option Nat):Option Nat:=match dst with
 |some d=>some (n+d)
 |none=>none
def CallX(P:Program)(C:Cx)(f:FuncId)(args:List D)(dst:Option Nat)(st:St)(K:St->Prop)[Tag (C,dst,st,K)](_:Prf args):Prop:=
 (∃fn,P.funcs[f]? = some fn/\fn.body.isNone=false/\(fn.name== "runtime.NumGoroutine")=false) /\
 ∀M β w g,BLe C.b0 β->U6 P C st.s (·<st.k) M β w->RepL P M β args g->Calls P f ⟨g⟩ w λe w'=>∃v d s' h M' β',e=.returned v/\U6 P C s' (·<h) M' β' w'/\Rep P M' β' d v/\MLe M M'/\BLe β β'/\K (nxS st (XH dst st.n) d s' st.n h)
def YieldX(P:Program)(C:Cx)(l:Nat)(args:List D)(dst:Option Nat)(st:St)(K:St->Prop)[Tag (C,dst,st,K)](_:Prf args):Prop:=
 ∀M β w g,BLe C.b0 β->U6 P C st.s (·<st.k) M β w->RepL P M β args g->∃f tmps assign body,(Instr.yield l ⟨g⟩).run P w=.ok (.round l f tmps assign body) w /\
  RoundIn (fz C.rd) 0 P l f tmps assign body w λe w'=>∃v d s' h M' β',e=.returned v/\U6 P C s' (·<h) M' β' w'/\Rep P M' β' d v/\MLe M M'/\BLe β β'/\K (nxS st (XH dst st.n) d s' st.n h)
def Xga(P:Program)(C:Cx)(x:Option (Nat×List D))(dst:Option Nat)(st:St)(K:St->Prop)[Tag (C,dst,st,K)](_:Prf x):Prop:=match (generalizing:=false) x with
 |some (l,args)=>YieldX P C l args dst st K trivial
 |none=>False
def Xdv(P:Program)(C:Cx)(x:Option (FuncId×List D))(c:Call)(dst:Option Nat)(st:St)(K:St->Prop)[Tag (C,c,dst,st,K)](_:Prf x):Prop:=match (generalizing:=false) x with
 |some (f,args)=>CallX P C f args dst st K trivial
 |none=>Xga P C (XcU (ev st.t C.G) c) dst st K trivial
def Xfc(P:Program)(C:Cx)(x:Option Call)(o:Oper)(st:St)(K:St->Prop)[Tag (C,o,st,K)](_:Prf x):Prop:=
 match (generalizing:=false) x with
 |some c=>Xdv P C (callee (ev st.t C.G) c) c o.dst st K trivial
 |none=>Xcx (opF P (Xhr C.off o.dst) st.k (ev st.t C.G) st.s o.op) (XH o.dst st.n) st.n (st.k+1) (λdst d u n k=>K (nx st dst d u n k)) trivial
def Xa7(P:Program)(C:Cx)(o:Oper)(st:St)(K:St->Prop):Prop:=Xfc P C (ZP o.op) o st K trivial
def Xhs(dst:Option Nat)(n k:Nat)(f:Option Nat->Nat->Nat->Prop)[Tag f](_:Prf dst):Prop:=f dst n k
def Kb(d:D)(r:Nat)(want:Bool)(st:St)(x y:St->Prop)[Tag (st,x,y)](_:Prf d):Prop:=match (generalizing:=false) d with
 |.v (.bool b)=>VV b (if want then x st else y st) (if want then y st else x st)
 |.v (.tuple _)=>y st
 |_=>False
def Xgb(r:Option Nat)(want:Bool)(st:St)(x y:St->Prop)[Tag (st,x,y)](_:Prf r):Prop:=match (generalizing:=false) r with
 |some r=>Kb (st.t r) r want st x y trivial
 |none=>False
def Xb3(full:Array Oper)(o:Oper)(st:St)(x y:St->Prop):Prop:=
 match o.guard with
 |none=>x st
 |some (g,want)=>Xgb ((full[g]?).bind (·.dst)) want st x y trivial
def Xcy(d:D)(c:Operand)(st:St)(x y:St->Prop)[Tag (c,st,x,y)](_:Prf d):Prop:=match (generalizing:=false) d with
 |.v (.bool b)=>VV b (x st) (y st)
 |_=>False
def Xcz:Nat->List It->Option (List It)
 |_,[]=>none
 |id,.blk j::k=>if id=j then some k else Xcz id k
 |id,_::k=>Xcz id k
def Xke(x:Option (List It))(f:List It->Prop)[Tag f](_:Prf x):Prop:=match (generalizing:=false) x with
 |some k=>f k
 |none=>False
def run(P:Program)(C:Cx)(R:St->Prop):Nat->List It->St->Prop
 |0,_,_=>False
 |_+1,[],st=>R st
 |_+1,.stop Q::_,st=>Q st
 |n+1,.blk _::k,st=>run P C R n k st
 |n+1,.ops _ []::k,st=>run P C R n k st
 | n+1,.ops full (o::rest)::k,st=>Xb3 full o st
     (λst=>Xa7 P C o st (run P C R n (.ops full rest::k)))
     (λst=>Xhs (XH o.dst st.n) st.n (st.k+1) (λdst m j=>run P C R n (.ops full rest::k) (nx st dst (.v undef) [] m j)) trivial)
 |n+1,.code .skip::k,st=>run P C R n k st
 |n+1,.code (.seq x y)::k,st=>run P C R n (.code x::.code y::k) st
 |n+1,.code (.cond c x y)::k,st=>Xcy (ev st.t C.G c) c st (run P C R n (.code x::k)) (run P C R n (.code y::k)) trivial
 |n+1,.code (.block id c)::k,st=>run P C R n (.code c::.blk id::k) st
 |n+1,.code (.scope c)::k,st=>run P C R n (.code c::k) st
 |n+1,.code (.label _)::k,st=>run P C R n k st
 |n+1,.code (.exit id)::k,st=>Xke (Xcz id k) (λe=>run P C R n e st) trivial
 |_+1,.code .ret::_,st=>R st
 |_+1,.code (.loop c)::k,st=>LoopG P C R c k st trivial
 |n+1,.code (.region _ ops false)::k,st=>run P C R n (.ops ops ops.toList::k) st
 |_+1,.code (.region id ops true)::k,st=>DrawnG P C R id ops k st trivial
 |_+1,.code _::_,_=>False
def VW{C:Cx}{R:AW}{id:Nat}:∀{k f:List It} {a:Act} {w:World},Xcz id k=some f->sem P C R f none a w->sem P C R k (some id) a w
 |[],f,a,w,h,_=>by simp_all[Xcz]
 |.blk j::k,f,a,w,h,g=>by
  unfold Xcz at h;unfold sem;split at h
  .simp_all
  rename_i e;rw[Wj e];exact VW h g
 |.code c::k,f,a,w,h,g=>by unfold sem;exact VW h g
 |.ops _ _::k,f,a,w,h,g=>by unfold sem;exact VW h g
 |.stop _::k,f,a,w,h,g=>by unfold sem;exact VW h g
def OG{C:Cx}{st:St}{a:Act}{w':World}{s':Heap}{p:Nat}{M':Mem}{β':Loc}{M:Mem}{β:Loc}{d:D}{v:Value}{dst:Option Nat}(g:a.defers=C.df)(u:a.tmps.size=st.n)(h:BLe C.b0 β)(j:∀x,Rep P M β (st.t x) (a.tmps.getD x undef))(k:MLe M M')(f:BLe β β')(I:U6 P C s' (·<p) M' β' w')(y:Rep P M' β' d v):Rel P C (nxS st (XH dst st.n) d s' st.n p) (a.put dst v) w':=by
 cases dst with
 |none=>exact⟨g,u,M',β',h.trans f,λx=>(j x).mono k f,I⟩
 |some x=>
  by_cases q:x<st.n
  .simp only[XH,Wm q];refine⟨g,by simp_all[nxS,Act.put],M',β',h.trans f,λi=>?_,I⟩;simp only[nxS,upd,Act.put];by_cases r:i=x
   .simp_all
   rw[Wj r];have e:(a.tmps.setIfInBounds x v).getD i undef=a.tmps.getD i undef:=by simp[Ne.symm r]
   rw[e];exact(j i).mono k f
  simp only[XH,Wj q];refine⟨g,by simp_all[nxS,Act.put],M',β',h.trans f,λi=>?_,I⟩;have e:a.put (some x) v=a:=by simp only[Act.put];rw[Array.setIfInBounds_eq_of_size_le ab]
  rw[e];exact(j i).mono k f
def Rel.put{C:Cx}{st:St}{a:Act}{w':World}{u:Up}{e:Nat}{M':Mem}{β':Loc}{M:Mem}{β:Loc}{d:D}{v:Value}{dst:Option Nat}(f:a.defers=C.df)(g:a.tmps.size=st.n)(h:BLe C.b0 β)(j:∀x,Rep P M β (st.t x) (a.tmps.getD x undef))(k:MLe M M')(p:BLe β β')(I:U6 P C (app st.s u) (·<e) M' β' w')(q:Rep P M' β' d v):Rel P C (nx st (XH dst st.n) d u st.n e) (a.put dst v) w':=OG f g h j k p I q
def Xb4:wfV undef:=by simp[undef,wfV]
def XcA{g:FuncId}{va vb vs:List Value}{w:World}:(Deferred.ofValue (.func (.func g) ⟨va⟩ ⟨vb⟩) ⟨vs⟩).run P w=.ok {target:=.fn (.func g) ⟨vb⟩,args:=⟨va++vs⟩} w:=by simp[Deferred.ofValue,pure,Sem.run]
def RepL.map{M:Mem}{β:Loc}{t:Operand->D}{ρ:Operand->Value}(h:∀x,Rep P M β (t x) (ρ x)):∀l:List Operand,RepL P M β (l.map t) (l.map ρ)
 |[]=>by rfl
 |x::l=>by exact⟨_,_,rfl,h x,RepL.map h l⟩
def JY{ρ:Operand->Value}{o:Oper}{c:Call}(f:o.op=.call c){x:Operand}(k:c.callee=.value x){g:FuncId}{va vb:List Value}(p:ρ x=.func (.func g) ⟨va⟩ ⟨vb⟩){fn:Func}(q:P.funcs[g]? = some fn)(hb:fn.body.isNone=false)(r:(fn.name== "runtime.NumGoroutine")=false)(w:World):
 (execOp ρ o).run P w=.ok (.enter g ⟨va++(c.args.toList.map ρ++vb)⟩) w:=by
 unfold execOp;simp only[f,resolve,k,p];have e:c.args.map ρ=⟨c.args.toList.map ρ⟩:=by rw[←Array.toList_inj];simp
 have h:¬fn.name = "runtime.NumGoroutine":=by simpa using r
 have j:¬fn.body=none:=by intro u;rw[u]at hb;simp at hb
 simp[go_sem,XcA,invoke,callFunc,q,j,h]
def Xjc{ρ:Operand->Value}{o:Oper}{c:Call}(f:o.op=.call c){x:Operand}(g:c.callee=.value x){l:Nat}(h:ρ x=.func (.yield l) #[] #[]){w:World}{n:Next}(j:(Instr.yield l ⟨c.args.toList.map ρ⟩).run P w=.ok n w):(execOp ρ o).run P w=.ok n w:=by
 unfold execOp;simp only[f,resolve,g,h];have e:c.args.map ρ=⟨c.args.toList.map ρ⟩:=by rw[←Array.toList_inj];simp
 rw[e];simp[go_sem,Deferred.ofValue,pure,invoke,j]
section
variable {C:Cx}{st:St}{a:Act}{w:World}
mutual
def scal_imp{ver n:Nat}:∀{d:D},scal d=true->imp ver n d=(d,n,[])
 |.any,_=>by rfl
 |.v x,_=>by rfl
 |.agg e,h=>by simp_all[scal,imp,Xb5,h]
 |.tup e,h=>by simp_all[scal,imp,Xb5,h]
 |.nsl,h=>by rfl
 |.isl ..,h=>by rfl
 |.osl ..,h=>by rfl
 |.ept ..,h=>by rfl
 |.ipt ..,h=>by rfl
 |.clo ..,h=>by simp_all[scal]
 |.ifc ..,h=>by simp_all[scal]
 |.fsl ..,h=>by simp_all[scal]
 |.fmp ..,h=>by simp_all[scal]
 |.omp ..,h=>by rfl
def Xb5{ver n:Nat}:∀{e:List D},JW e=true->VL ver n e=(e,n,[])
 |[],_=>by rfl
 |d::e,h=>by simp_all[JW,WH,VL,scal_imp,h,Xb5,Ih]
end
def XmX(s:Heap)(ids fz:List Nat)(r:D)(ls:List Ob)(ver n:Nat)(e:∀id∈ids,∃v o,s id=some (v,o)):(aft s ids fz r ls ver n).1=(K8 s ids fz r ls ver n).1/\app s (aft s ids fz r ls ver n).2=(K8 s ids fz r ls ver n).2:=by
 unfold aft K8;by_cases h:(scal r&&ls.all VU)=true
 .simp only[h,if_true];simp at h;rw[scal_imp h.1];exact⟨rfl,rfl⟩
 simp[h,Iu,if_false,Zc,VS]
def Xht{ρ:Operand->Value}{o:Oper}{x:Option Nat}:execOp ρ {o with dst:=x}=execOp ρ o:=by rfl
def CallX.c{K:St->Prop}{f:FuncId}{args:List D}{dst:Option Nat}(h:Xjb P C.G f (Zh st.s args) (λids fz r ls=>
 Xse (aft st.s ids fz r ls st.k (64*(C.off+dst.getD 0))) (XH dst st.n) st.n (st.k+1) (λdst d u n k=>K (nx st dst d u n k)) trivial) trivial)(t:Prf args):CallX P C f args dst st K t:=by
 unfold Xjb at h;split at h
 .rename_i cc as ids obs fz g;have⟨x,eargs,R,p,J,y⟩:=h;have⟨⟨fn,L,A,N⟩,_⟩:=id J;refine⟨⟨fn,L,A,N⟩,λM β w vs h0 I j=>?_⟩;have q:∀id∈ids,∃v o,st.s id=some (v,o):=by
   unfold Zh at g;split at g
   .rename_i O;split at g
    .simp only[Wp,Wy]at g;obtain⟨_,_,rfl,_,_⟩:=g;intro id B;obtain⟨v,E,z,cs,fz,S⟩:=(Y9 O ⟨ac,ac⟩).2 id B;exact⟨_,_,S⟩
    cases g
   cases g
  refine(Xkb I (ver:=st.k) ab j g x p J (64*(C.off+dst.getD 0))).mono ?_;rintro e w' ⟨v,r,ls,M',β',rfl,T,I',H,V,W⟩;have⟨Y,Z⟩:=XmX st.s ids fz r ls st.k (64*(C.off+dst.getD 0)) q;rw[←Y]at H;rw[←Z]at I';exact⟨v,_,_,st.k+1,M',β',rfl,I'.mono λv H=>ab,H,V,W,y r ls T⟩
 simp_all
def Xfd{o:Oper}{K:St->Prop}{K':AW}{Q:Exit->AW}(Z:Rel P C st a w)(h:Xa7 P C o st K)(hK:∀st a w,Rel P C st a w->K st->K' a w):o.wpIn (fz C.rd) 0 P a w K' Q:=by
 have B:∀c,o.op≠.defer c:=by intro c e;unfold Xa7 Xfc at h;rw[e]at h;simp[ZP,opF,Xcx]at h
 have⟨O,R,M,β,H,N,I⟩:=Z;have r:=XbZ I N;unfold Xa7 Xfc at h;split at h
 .rename_i c W;have z:o.op=.call c:=by
   unfold ZP at W;split at W
   .grind
   grind
  unfold Xdv at h;split at h
  .rename_i f args j;have⟨⟨fn,hf,S,hn⟩,hX⟩:=h;unfold callee at j;split at j
   .rename_i x T;split at j
    .rename_i g first caps y
     obtain⟨rfl,rfl⟩:=j;have q:=r x;rw[y]at q;have⟨Y,vb,q,ha,hb⟩:=q;refine XmW B ?_;unfold Oper.wp;rw[JY z T q hf S hn w];have D:RepL P M β (first++(c.args.toList.map (ev st.t C.G)++caps)) (Y++(c.args.toList.map a.eval++vb)):=
      ha.append ((RepL.map r _).append hb)
     refine(hX M β w _ H I D).mono ?_;rintro e w' ⟨v,d,s',k',M',β',rfl,I',E,J,L,V⟩;exact hK _ _ _ (OG O R H N J L I' E) V
    cases j
   simp_all
  unfold Xga at h;split at h;rotate_left
  .exact h.elim
  rename_i l args j;unfold XcU at j;split at j
  .rename_i x T;split at j
   .rename_i l' y;obtain⟨rfl,rfl⟩:=j;have q:=r x;rw[y]at q;obtain⟨Y,vb,q,rfl,rfl⟩:=q;obtain⟨f,tmps,assign,body,hy,hR⟩:=h M β w _ H I (RepL.map r _);refine⟨λ_ _=>trivial,?_⟩;rw[Oper.semAt_eq _ _ _ B,Xjc z T q hy,Oper.uponIn_round];refine⟨λe=>(by cases e),hR.mono ?_⟩;rintro e w' ⟨v,d,s',k',M',β',rfl,I',E,J,L,V⟩;exact hK _ _ _ (OG O R H N J L I' E) V
   cases j
  simp_all
 refine XmW B ?_;unfold Xcx at h;split at h
 .rename_i c d u z;have:=XmV I (ver:=st.k) ab {o with dst:=Xhr C.off o.dst} a.eval (ev st.t C.G) r (λ_=>rfl) z h.1;obtain⟨M',β',w',v,p,I',E,J,L⟩:=this;rw[Xht]at p;have A:Rel P C (nx st (XH o.dst st.n) d u st.n (st.k+1)) (a.put o.dst v) w':=Rel.put O R H N J L (I'.mono λv E=>by show v<st.k+1;omega) E;unfold Oper.wp;rcases p with p|⟨p,rfl⟩
  .rw[p];exact hK _ _ _ A h.2
  rw[p];exact hK _ _ _ A h.2
 simp_all
def Rel.bump(e:Rel P C st a w)(dst:Option Nat):Rel P C (nx st (XH dst st.n) (.v undef) [] st.n (st.k+1)) (a.put dst undef) w:=by have⟨f,g,M,β,h,j,I⟩:=e;exact Rel.put (u:=[]) f g h j (MLe.refl _) (BLe.refl _) (I.mono λv p=>ab) (by simp[Rep,Xb4])
def Rel.bool(e:Rel P C st a w){r:Nat}{b:Bool}(hb:st.t r=.v (.bool b)):a.tmps.getD r undef=.bool b:=by have⟨g,h,M,β,j,f,I⟩:=e;have:=f r;simp_all[hb,Rep]
def Rel.tuple(e:Rel P C st a w){r:Nat}{vs:Array Value}(hb:st.t r=.v (.tuple vs)):a.tmps.getD r undef=.tuple vs:=by have⟨g,h,M,β,j,f,I⟩:=e;have:=f r;simp_all[hb,Rep]
def XlD{full:Array Oper}{o:Oper}{x y:St->Prop}(u:Rel P C st a w)(h:Xb3 full o st x y):
 (Region.wanted o (yielded full a.tmps)=true->x st)/\(Region.wanted o (yielded full a.tmps)=false->y st):=by
 unfold Xb3 at h;split at h
 .rename_i p;have hw:Region.wanted o (yielded full a.tmps)=true:=by unfold Region.wanted;rw[p]
  simp_all
 rename_i g want p;unfold Xgb at h;split at h
 .rename_i r j;unfold Kb at h;split at h
  .rename_i b hb;have f:=u.bool hb;have q:yielded full a.tmps g=some b:=by
    unfold yielded;rw[j];simp only[Oo];by_cases k:r<a.tmps.size
    .have:a.tmps[r]? = some (.bool b):=by simp[k]at f;simp[k,f]
     rw[this]
    simp[k,undef]at f
   have hw:Region.wanted o (yielded full a.tmps)=(some b==some want):=by unfold Region.wanted;rw[p];simp only;rw[q]
   rw[hw];have⟨ht,v⟩:=h;cases b
   .cases want<;>simpa using v
   cases want<;>simpa using ht
  .rename_i z hb;have f:=u.tuple hb;have q:yielded full a.tmps g=none:=by
    unfold yielded;rw[j];simp only[Oo];by_cases k:r<a.tmps.size
    .have:a.tmps[r]? = some (.tuple z):=by simp[k]at f;simp[k,f]
     rw[this]
    have:a.tmps[r]? = none:=by simp;omega
    rw[this]
   have hw:Region.wanted o (yielded full a.tmps)=false:=by unfold Region.wanted;rw[p];simp only;rw[q];rfl
   rw[hw];exact⟨λe=>(by cases e),λ_=>h⟩
  exact h.elim
 simp_all
def Yh{R:St->Prop}:∀(n:Nat) (k:List It) {st:St} {a:Act} {w:World},Rel P C st a w->run P C R n k st->sem P C (Zv P C R) k none a w
 |0,k,st,a,w,_,h=>by unfold run at h;simp_all
 |n+1,[],st,a,w,f,h=>by exact⟨st,f,h⟩
 |n+1,.stop Q::k,st,a,w,f,h=>by exact⟨st,f,h⟩
 |n+1,.blk _::k,st,a,w,f,h=>by exact Yh n k f h
 |n+1,.ops full []::k,st,a,w,f,h=>by exact Yh n k f h
 |n+1,.ops full (o::rest)::k,st,a,w,f,h=>by
  have⟨r,u⟩:=XlD f h;refine wpListIn_step λK hK=>?_;split
  .rename_i hw;exact Xfd f (r hw) λv D w2 p j=>hK _ _ (Yh n (.ops full rest::k) p j)
  exact⟨λ_ _=>trivial,hK _ _ (Yh n (.ops full rest::k) (f.bump o.dst) (u (by simp_all)))⟩
 |n+1,.code .skip::k,st,a,w,f,h=>by exact wpIn_skip (Yh n k f h)
 |n+1,.code (.seq x y)::k,st,a,w,f,h=>by refine wpIn_seq ?_;refine wpIn_mono (Yh n (.code x::.code y::k) f h) ?_;intro e q w' g;cases e<;>exact g
 |n+1,.code (.cond c x y)::k,st,a,w,f,h=>by
  unfold run Xcy at h;split at h
  .rename_i b hb;have j:a.eval c=.bool b:=by obtain⟨E,j,M,β,G,z,I⟩:=f;have:=XbZ I z c;rw[hb]at this;simp only[Rep]at this;exact this.1
   refine wpIn_cond_split j (λe=>?_) (λe=>?_)
   .exact Yh n (.code x::k) f (h.1 e)
   exact Yh n (.code y::k) f (h.2 e)
  simp_all
 |n+1,.code (.block id c)::k,st,a,w,f,h=>by
  refine wpIn_block ?_;refine wpIn_mono (Yh n (.code c::.blk id::k) f h) ?_;intro e q w' g;cases e with
  |exit i=>
   simp only[Exit.inBlock];have g:sem P C (Zv P C R) (.blk id::k) (some i) q w':=g;unfold sem at g;split at g<;>rename_i e
   .rw[Wm e];exact g
   rw[Wj e];exact g
  |_=>exact g
 |n+1,.code (.scope c)::k,st,a,w,f,h=>by refine Xja (wpIn_mono (Yh n (.code c::k) f h) ?_);intro e q w' g;cases e<;>exact g
 |n+1,.code (.label l)::k,st,a,w,f,h=>by exact wpIn_label (Yh n k f h)
 |n+1,.code (.exit id)::k,st,a,w,f,h=>by
  unfold run Xke at h;split at h
  .rename_i A B;exact wpIn_exit (VW B (Yh n A f h))
  simp_all
 |n+1,.code .ret::k,st,a,w,f,h=>by exact wpIn_ret ⟨st,f,h⟩
 |n+1,.code (.loop c)::k,st,a,w,f,h=>by exact h a w f
 |n+1,.code (.region id ops false)::k,st,a,w,f,h=>by exact wpIn_region_list (Yh n (.ops ops ops.toList::k) f h)
 |n+1,.code (.region id ops true)::k,st,a,w,f,h=>by exact h a w f
 |n+1,.code (.rangeFunc ..)::k,st,a,w,f,h=>by unfold run at h;simp_all
 |n+1,.code (.goto ..)::k,st,a,w,f,h=>by unfold run at h;simp_all
 |n+1,.code (.refuse ..)::k,st,a,w,f,h=>by unfold run at h;simp_all
def LoopG.of{R:St->Prop}{c:Code}{k:List It}(I:Nat->St->Prop)(m n:Nat)(u:I n st)(round:∀n st,I n st->run P C R m (.code c::.stop (λf=>∃g,g<n/\I g f)::k) st)(t':Prf c):LoopG P C R c k st t':=by
 intro a w h;refine XcN (λn a w=>∃st,Rel P C st a w/\I n st) n ⟨st,h,u⟩ ?_;rintro n a w ⟨st,h,x⟩;refine wpIn_mono (Yh m _ h (round n st x)) ?_;intro e A w' q;cases e with
 |normal=>have⟨f,j,g,y,p⟩:=q;exact⟨g,y,f,j,p⟩
 |_=>exact q
def LoopU(P:Program)(C:Cx)(R:St->Prop)(c:Code)(k:List It)(n:Nat)(st:St)[Tag (C,R,c,k,st)](_:Prf c):Prop:=
 ∀a w,Rel P C st a w->Code.roundsIn (fz C.rd) 0 P c (Jy (Zv P C R) (sem P C (Zv P C R) k)) n a w
def LoopU.s{R:St->Prop}{c:Code}{k:List It}{st:St}{n:Nat}(m:Nat)(h:run P C R m (.code c::.stop (λf=>LoopU P C R c k n f trivial)::k) st)(t':Prf c):LoopU P C R c k (n+1) st t':=by
 intro a w p;refine wpIn_mono (Yh m _ p h) ?_;intro e q w' j;cases e with
 |normal=>have⟨f,g,r⟩:=j;exact r q w' g
 |_=>exact j
end
variable {P:Program}
mutual
def shut(s:Heap)(fr:List Nat):D->Option (Prop×D×List Nat×List Nat)
 |.osl id ver z off len=>match s id with
  |some (f,.arr false E p g fz)=>if ver=f/\z=p then
   (if id∈fr then some (off=0/\fz=0/\len<=g.length,.fsl E z (g.take len),[],[id])
    else some (off+len<=g.length,.isl E z ((g.drop off).take len),[id],[]))else none
  |_=>none
 |.omp id ver=>match s id with
  |some (f,.mp k g)=>if ver=f/\id∈fr then some (True,.fmp k (g.map (·.1)) (g.map (·.2)),[],[id])else none
  |_=>none
 |.agg h=>match XcB s fr h with
  |some (c,j,l,m)=>some (c,.agg j,l,m)
  |none=>none
 |.tup h=>match XcB s fr h with
  |some (c,j,l,m)=>some (c,.tup j,l,m)
  |none=>none
 |.clo fn a b=>match XcB s fr a,XcB s fr b with
  |some (c,q,l,m),some (r,u,y,A)=>some (c/\r,.clo fn q u,l++y,m++A)
  |_,_=>none
 |.ifc t d=>match shut s fr d with
  |some (c,e,l,m)=>some (c,.ifc t e,l,m)
  |none=>none
 |.any=>some (True,.any,[],[])
 |.v x=>some (True,.v x,[],[])
 |.nsl=>some (True,.nsl,[],[])
 |.isl E z g=>some (True,.isl E z g,[],[])
 |.ipt z h c=>some (True,.ipt z h c,[],[])
 |_=>none
def XcB(s:Heap)(fr:List Nat):List D->Option (Prop×List D×List Nat×List Nat)
 |[]=>some (True,[],[],[])
 |d::f=>match shut s fr d,XcB s fr f with
  |some (c,e,l,m),some (g,h,j,k)=>some (c/\g,e::h,l++j,m++k)
  |_,_=>none
end
def Blk(β:Loc)(s:Heap)(m:List Nat)(e:List (Option (Nat×Nat))):Prop:=
 ∃f:List (Nat×Nat×Option (Nat×Nat)),f.map (·.1)=m/\f.map (·.2.2)=e/\∀x∈f,β x.1 x.2.1=some x.2.2/\∃ob,s x.1=some (x.2.1,ob)
section
variable {C:Cx}{s:Heap}{U:Nat->Prop}{M M':Mem}{β:Loc}{w:World}
def Blk.nil:Blk β s [] []:=⟨[],rfl,rfl,ac⟩
def Blk.append{m e:List Nat}{b j:List (Option (Nat×Nat))}(h:Blk β s m b)(k:Blk β s e j):Blk β s (m++e) (b++j):=by have⟨f,p,q,r⟩:=h;have⟨g,k1,k2,u⟩:=k;refine⟨f++g,by simp[p,k1],by simp[q,k2],λx v=>?_⟩;grind
def O4{x:Option (Nat×Nat)}{E z:Nat}{f:List (List D)}(h:ObRep P M β w x (.arr false E z f 0))(n:Nat):ObRep P M β w x (.arr false E z (f.take n) 0):=by
 cases x with
 |none=>simp_all[ObRep]
 |some G=>
  have⟨j,T,k,p,q,H,I,r,J,u,v,g⟩:=h;have y:(f.take n).length<=f.length:=by simp;omega
  refine⟨j,T,k,p,λe A=>q e (WR A),ab,ab,UK (Ub _ y) r,ab,u,v,λi d hd=>g i d ?_⟩;have⟨l,B⟩:=List.take_prefix n f;grind
mutual
def shut_rep{T:List Nat}(I:U6 P C s U M β w)(L:MLe M M')(I':U6 P C (frz s T) U M' β w)(V:Frz s M' β w T){fr:List Nat}(q:∀i∈fr,i∉T):
 ∀{d r:D} {c:Prop} {l m:List Nat},shut s fr d=some (c,r,l,m)->c->(∀i∈l,i∈T)->∀{y:Value},Rep P M β d y->∃B,FrRep P M' w C.w0.heap.size r y B/\Blk β s m B
 |.osl id ver z off len,r,c,l,m,h,g,j,y,f=>by
  unfold shut at h;split at h
  .rename_i W E z' G fz H;split at h
   .rename_i e;have⟨rfl,rfl⟩:=e;split at h
    .rename_i N;obtain⟨rfl,rfl,rfl,rfl⟩:=h;obtain⟨rfl,rfl,hle⟩:=g;have O:frz s T id=some (ver,.arr false E z G 0):=by unfold frz;rw[Wj (q id N)];exact H
     have⟨x,u,A⟩:=I'.obs id ver _ O;have A:=O4 A len;rcases f with⟨p,_,J,a,rfl⟩|⟨b,K,o,cap,p,rfl,J,h3,h4⟩
     .rw[p]at u;refine⟨[none],?_,[(id,ver,none)],rfl,rfl,?_⟩
      .simp only[FrRep];exact .inl ⟨trivial,WG ai,a,rfl⟩
      intro x u;simp at u;subst u;exact⟨p,_,H⟩
     rw[p]at u;obtain rfl:some (b,K)=x:=by simpa using u
     refine⟨[some (b,K)],?_,[(id,ver,some (b,K))],rfl,rfl,?_⟩
     .refine .inr ⟨b,K,o,rfl,?_,?_,?_,?_⟩
      .rcases I.own id ver _ b K H p with h|h
       .exact h
       simp[Ob.bx]at h
      .rw[show cap=K by omega,Wu,Of hle]
      .rcases h4 with h|h
       .left;simpa using h
       omega
      exact A
     intro x u;simp at u;subst u;exact⟨p,_,H⟩
    obtain⟨rfl,rfl,rfl,rfl⟩:=h;have:=snap_rep (d:=.osl id ver z off len) (d':=.isl E z ((G.drop off).take len)) (c:=off+len<=G.length) (l:=[id]) I L (by simp[snap,H]) g (λi Y=>V i (j i Y)) f;exact⟨[],by simp only[FrRep];exact⟨trivial,this⟩,Blk.nil⟩
   cases h
  simp_all
 |.agg cs,r,c,l,m,h,g,j,y,f=>by
  unfold shut at h;split at h
  .rename_i R;obtain⟨rfl,rfl,rfl,rfl⟩:=h;simp only[Rep]at f;obtain⟨vs,rfl,f⟩:=f;obtain⟨B,p,J⟩:=JZ I L I' V q R g j f;exact⟨B,by simp only[FrRep];exact⟨vs,rfl,p⟩,J⟩
  simp_all
 |.tup cs,r,c,l,m,h,g,j,y,f=>by
  unfold shut at h;split at h
  .rename_i R;simp only[Wp,Wy]at h;obtain⟨rfl,rfl,rfl,rfl⟩:=h;simp only[Rep]at f;obtain⟨vs,rfl,f⟩:=f;obtain⟨B,p,J⟩:=JZ I L I' V q R g j f;exact⟨B,by simp only[FrRep];exact⟨vs,rfl,p⟩,J⟩
  simp_all
 |.clo fn a b,r,c,l,m,h,g,j,y,f=>by
  unfold shut at h;split at h
  .rename_i R hf;simp only[Wp,Wy]at h;obtain⟨rfl,rfl,rfl,rfl⟩:=h;simp only[Rep]at f;obtain⟨va,vb,rfl,hr1,hr2⟩:=f;obtain⟨B,p,J⟩:=JZ I L I' V q R g.1 (λi Y=>j i (WW _ Y)) hr1;obtain⟨Z,h3,h4⟩:=JZ I L I' V q hf g.2 (λi Y=>j i (Ui _ Y)) hr2;exact⟨B++Z,by simp only[FrRep];exact⟨va,vb,rfl,B,Z,rfl,p,h3⟩,J.append h4⟩
  simp_all
 |.ifc t d,r,c,l,m,h,g,j,y,f=>by
  unfold shut at h;split at h
  .rename_i R;simp only[Wp,Wy]at h;obtain⟨rfl,rfl,rfl,rfl⟩:=h;simp only[Rep]at f;obtain⟨x,rfl,f⟩:=f;obtain⟨B,p,J⟩:=shut_rep I L I' V q R g j f;exact⟨B,by simp only[FrRep];exact⟨x,rfl,p⟩,J⟩
  simp_all
 |.any,r,c,l,m,h,g,j,y,f=>by simp only[shut,Wp,Wy]at h;obtain⟨rfl,rfl,rfl,rfl⟩:=h;exact⟨[],by rfl,Blk.nil⟩
 |.v x,r,c,l,m,h,g,j,y,f=>by simp only[shut,Wp,Wy]at h;obtain⟨rfl,rfl,rfl,rfl⟩:=h;exact⟨[],by simp_all[FrRep,Rep],Blk.nil⟩
 |.nsl,r,c,l,m,h,g,j,y,f=>by simp only[shut,Wp,Wy]at h;obtain⟨rfl,rfl,rfl,rfl⟩:=h;exact⟨[],by simp_all[FrRep,Rep],Blk.nil⟩
 |.isl E z G,r,c,l,m,h,g,j,y,f=>by simp only[shut,Wp,Wy]at h;obtain⟨rfl,rfl,rfl,rfl⟩:=h;have:=f.mono L (BLe.refl _);exact⟨[],by simp_all[FrRep,Rep],Blk.nil⟩
 |.ipt z cs k,r,c,l,m,h,g,j,y,f=>by simp only[shut,Wp,Wy]at h;obtain⟨rfl,rfl,rfl,rfl⟩:=h;have:=f.mono L (BLe.refl _);exact⟨[],by simp_all[FrRep,Rep],Blk.nil⟩
 |.ept ..,r,c,l,m,h,g,j,y,f=>by simp_all[shut]
 |.fsl ..,r,c,l,m,h,g,j,y,f=>by simp_all[shut]
 |.fmp ..,r,c,l,m,h,g,j,y,f=>by simp_all[shut]
 |.omp id ver,r,c,l,m,h,g,j,y,f=>by
  unfold shut at h;split at h
  .rename_i W k G H;split at h
   .rename_i S;obtain⟨rfl,N⟩:=S;simp only[Wp,Wy]at h;obtain⟨rfl,rfl,rfl,rfl⟩:=h;have O:frz s T id=some (ver,.mp k G):=by unfold frz;rw[Wj (q id N)];exact H
    obtain⟨x,u,A⟩:=I'.obs id ver _ O;simp only[Rep]at f;obtain⟨b,K,p,rfl⟩:=f;rw[p]at u;obtain rfl:some (b,K)=x:=by simpa using u
    obtain rfl:K=0:=A.1;refine⟨[some (b,0)],?_,[(id,ver,some (b,0))],rfl,rfl,?_⟩
    .simp only[FrRep];refine⟨b,rfl,?_,rfl,ac,?_⟩
     .rcases I.own id ver _ b 0 H p with h|h
      .exact h
      simp[Ob.bx]at h
     rw[show(G.map (·.1)).zip (G.map (·.2))=G by rw[List.zip_map'];simp];exact A
    intro x u;simp at u;subst u;exact⟨p,_,H⟩
   cases h
  simp_all
def JZ{j:List Nat}(I:U6 P C s U M β w)(A:MLe M M')(I':U6 P C (frz s j) U M' β w)(B:Frz s M' β w j){fr:List Nat}(e:∀i∈fr,i∉j):
 ∀{q rs:List D} {c:Prop} {l m:List Nat},XcB s fr q=some (c,rs,l,m)->c->(∀i∈l,i∈j)->∀{k:List Value},RepL P M β q k->∃f,FrRepL P M' w C.w0.heap.size rs k f/\Blk β s m f
 |[],rs,c,l,m,h,r,u,k,p=>by obtain⟨rfl,rfl,rfl,rfl⟩:=h;simp only[RepL]at p;exact⟨[],by simp[FrRepL,p],Blk.nil⟩
 |d::q,rs,c,l,m,h,r,u,k,p=>by
  unfold XcB at h;split at h
  .rename_i E G;obtain⟨rfl,rfl,rfl,rfl⟩:=h;obtain⟨x,H,rfl,v,y⟩:=p;have⟨f,J,K⟩:=shut_rep I A I' B e E r.1 (λi z=>u i (WW _ z)) v;have⟨g,L,N⟩:=JZ I A I' B e G r.2 (λi z=>u i (Ui _ z)) y;exact⟨f++g,by exact⟨x,H,f,g,rfl,rfl,J,L⟩,K.append N⟩
  simp_all
end
def Blk.nodup(I:U6 P C s U M β w){m:List Nat}{A:List (Option (Nat×Nat))}(h:Blk β s m A)(B:m.Nodup):(XQ A).Nodup:=by
 obtain⟨f,rfl,rfl,k⟩:=h;induction f with
 |nil=>assumption
 |cons x f p=>
  simp at B;have p:=p B.2 λy q=>k y (WQ _ q);have⟨i,v,o⟩:=x;cases o with
  |none=>assumption
  |some E=>
   have⟨b,r⟩:=E;have e:XQ (((i,v,some (b,r))::f).map (·.2.2))=b::XQ (f.map (·.2.2)):=by simp[XQ]
   rw[e,Ow];refine⟨λhb=>?_,p⟩;simp only[XQ,List.mem_filterMap,WI]at hb;obtain⟨o',⟨y,q,rfl⟩,hb⟩:=hb;have⟨j,D,o'⟩:=y;simp only[Uo]at hb;obtain⟨⟨u,g⟩,rfl,rfl⟩:=hb;have⟨G,ob,H⟩:=k (i,v,some (u,r)) ac;have⟨J,z,K⟩:=k (j,D,some (u,g)) (WQ _ q);have:=I.inj i v ob j D z u r g H K G J;simp_all
mutual
def fitsR:D->D->Prop
 |.nsl,.isl _ _ f=>f=[]
 |.nsl,.fsl _ _ f=>f=[]
 |.agg g,.agg h=>Vq g h
 |.tup g,.tup h=>Vq g h
 |.ifc t d,.ifc j e=>t=j/\fitsR d e
 |d,e=>d=e
def Vq:List D->List D->Prop
 |[],[]=>True
 |d::f,e::g=>fitsR d e/\Vq f g
 |_,_=>False
end
def RetG(r:D)(obs:List Ob)(R':D->List Ob->Prop):Prop:=∃e,fitsR r e/\R' e obs
mutual
def fitsR_refl:∀d:D,fitsR d d
 |.agg e=>by exact VY e
 |.tup e=>by exact VY e
 |.ifc t d=>by simp only[fitsR];exact⟨trivial,fitsR_refl d⟩
 |.nsl=>by rfl
 |.any=>by rfl
 |.v _=>by rfl
 |.isl ..=>by rfl
 |.osl ..=>by rfl
 |.ept ..=>by rfl
 |.ipt ..=>by rfl
 |.clo ..=>by rfl
 |.fsl ..=>by rfl
 |.fmp ..=>by rfl
 |.omp ..=>by rfl
def VY:∀e:List D,Vq e e
 |[]=>by simp[Vq]
 |d::e=>by exact⟨fitsR_refl d,VY e⟩
end
def RetG.same{r:D}{obs:List Ob}{R':D->List Ob->Prop}(h:R' r obs):RetG r obs R':=⟨r,fitsR_refl r,h⟩
mutual
def fitsR_rep{M:Mem}{w:World}{B:Nat}:∀{d e:D} {y:Value} {l:List (Option (Nat×Nat))},fitsR d e->FrRep P M w B d y l->∃g,FrRep P M w B e y g/\XQ g=XQ l
 |.nsl,e,y,l,h,f=>by
  cases e with
  |isl E z p=>grind[fitsR,FrRep,Rep,Xv]
  |fsl E z p=>subst h;obtain⟨rfl,a,rfl⟩:=f;refine⟨[none],?_,rfl⟩;simp[FrRep]
  |nsl=>grind
  |_=>simp[fitsR]at h
 |.agg q,e,y,l,h,f=>by
  cases e with
  |agg r=>simp only[FrRep]at f⊢;obtain⟨u,rfl,f⟩:=f;have⟨g,j,k⟩:=Xa8 h f;grind
  |_=>simp[fitsR]at h
 |.tup q,e,y,l,h,f=>by
  cases e with
  |tup r=>simp only[FrRep]at f⊢;obtain⟨u,rfl,f⟩:=f;have⟨g,j,k⟩:=Xa8 h f;grind
  |_=>simp[fitsR]at h
 |.ifc t d,e,y,l,h,f=>by
  cases e with
  |ifc A e=>have⟨rfl,h⟩:=h;simp only[FrRep]at f⊢;obtain⟨x,rfl,f⟩:=f;have⟨g,j,k⟩:=fitsR_rep h f;grind
  |_=>simp[fitsR]at h
 |.any,e,y,l,h,f=>by grind[fitsR]
 |.v x,e,y,l,h,f=>by grind[fitsR]
 |.isl a b c,e,y,l,h,f=>by grind[fitsR]
 |.ipt a b c,e,y,l,h,f=>by grind[fitsR]
 |.fsl a b c,e,y,l,h,f=>by grind[fitsR]
 |.fmp a b c,e,y,l,h,f=>by grind[fitsR]
 |.clo a b c,e,y,l,h,f=>by grind[fitsR]
 |.osl ..,e,y,l,h,f=>by simp_all[FrRep]
 |.ept ..,e,y,l,h,f=>by simp_all[FrRep]
 |.omp ..,e,y,l,h,f=>by simp_all[FrRep]
def Xa8{M:Mem}{w:World}{B:Nat}:∀{j f:List D} {g:List Value} {l:List (Option (Nat×Nat))},Vq j f->FrRepL P M w B j g l->∃q,FrRepL P M w B f g q/\XQ q=XQ l
 |[],f,g,l,h,r=>by grind[Vq]
 |d::j,f,g,l,h,r=>by
  cases f with
  |nil=>simp_all[Vq]
  |cons e f=>obtain⟨x,z,A,E,rfl,rfl,u,v⟩:=r;have⟨k,k1,k2⟩:=fitsR_rep h.1 u;have⟨p,G,y⟩:=Xa8 h.2 v;exact⟨k++p,by grind[FrRepL],by simp[X1,k2,y]⟩
end
def Xbu:Nat->Nat->List Nat
 |_,0=>[]
 |k,n+1=>(LB+k)::Xbu (k+1) n
def XaC:∀(n k j:Nat),j<n->(Xbu k n)[j]? = some (LB+(k+j))
 |0,_,_,h=>by omega
 |n+1,k,0,_=>by rfl
 |n+1,k,j+1,h=>by simp only[Xbu,Ij];rw[XaC n (k+1) j ab];grind
def KX:∀(n k:Nat),(Xbu k n).length=n
 |0,_=>rfl
 |n+1,k=>by simp[Xbu,KX n (k+1)]
def XpV(s:Heap):List Nat->Prop
 |[]=>True
 |i::l=>(s i).map (·.1)=some 0/\XpV s l
def Xhu{s:Heap}:∀{l:List Nat} {j i:Nat},XpV s l->l[j]? = some i->(s i).map (·.1)=some 0
 |[],j,i,_,h=>by grind
 |x::l,0,i,e,h=>by simp at h;subst h;exact e.1
 |x::l,j+1,i,e,h=>Xhu e.2 (by simpa using h)
def XmY(st:St)(P:Program):ResultVar->Option (Prop×D)
 |.tmp t=>some (True,st.t t)
 |.cell a T=>match Xq P T,XfW st.s (st.t a)with
  |some ty,some (c,e,o,z)=>if o+ty.size<=z/\(ty.isAgg=true\/ty.size=1)then some (c,Ji ty.isAgg ((e.drop o).take ty.size))else none
  |_,_=>none
def Xhv(st:St)(P:Program):List ResultVar->Option (Prop×List D)
 |[]=>some (True,[])
 |x::l=>match XmY st P x,Xhv st P l with
  |some (c,d),some (e,f)=>some (c/\e,d::f)
  |_,_=>none
def Xjd:List D->D
 |[d]=>d
 |e=>.tup e
def J4(P:Program)(results:List ResultVar)(fr:List Nat)(g:Nat)(R':D->List Ob->Prop)(st:St):Prop:=
 match Xhv st P results with
 |some (c,h)=>match shut st.s fr (Xjd h),Jl st.s (Xbu 0 g)with
  |some (c1,r,e,j),some (k,obs,f)=>c/\c1/\k/\XpV st.s (Xbu 0 g)/\j.Nodup/\(∀i∈fr,i∉e++f)/\RetG r obs R'
  |_,_=>False
 |none=>False
end
variable {P:Program}
section
variable {C:Cx}{s:Heap}{U:Nat->Prop}{M:Mem}{β:Loc}{w:World}
def Xdw(tmps:Array Value):ResultVar->Sem Value
 |.tmp t=>pure (tmps.getD t undef)
 |.cell a t=>do loadVar t (←asAddr (tmps.getD a undef))
def XpW{st:St}(I:U6 P C st.s U M β w){tmps:Array Value}(k:∀x,Rep P M β (st.t x) (tmps.getD x undef)){x:ResultVar}{c:Prop}{d:D}(h:XmY st P x=some (c,d))(q:c):
 ∃v,(Xdw tmps x).run P w=.ok v w/\Rep P M β d v:=by
 cases x with
 |tmp t=>obtain⟨rfl,rfl⟩:=h;exact⟨_,rfl,k t⟩
 |cell a T=>
  simp only[XmY]at h;split at h
  .rename_i r u;split at h
   .rename_i e;obtain⟨rfl,rfl⟩:=h;have⟨b,y,z,g,f⟩:=Xj4 I u q (k a);obtain⟨v,A,j⟩:=Xdo r w M β b y _ _ _ g e.1 f (λp=>by rcases e.2 with h|h;(rw[h]at p;cases p);exact h);refine⟨v,?_,j⟩;unfold Xdw;simp only;rw[z];simp[asAddr,A]
   cases h
  simp_all
def Xkf{st:St}{f:ResultVar->Sem Value}(k:∀x c d,XmY st P x=some (c,d)->c->∃v,(f x).run P w=.ok v w/\Rep P M β d v):∀{l:List ResultVar} {c:Prop} {e:List D},Xhv st P l=some (c,e)->c ->
 ∃g,(l.mapM f).run P w=.ok g w/\RepL P M β e g
 |[],c,e,h,j=>by simp_all[Xhv,Wp,Wy,RepL]
 |x::l,c,e,h,j=>by
  unfold Xhv at h;split at h
  .rename_i p q;obtain⟨rfl,rfl⟩:=h;have⟨v,r,u⟩:=k _ _ _ p j.1;have⟨g,y,z⟩:=Xkf k q j.2;refine⟨v::g,?_,by exact⟨_,_,rfl,u,z⟩⟩;simp only[List.mapM_cons,Sem.run_bind,Result.andThen_ok,Sem.run_pure,y,r]
  simp_all
def Vr{st:St}(I:U6 P C st.s U M β w){tmps:Array Value}(q:∀x,Rep P M β (st.t x) (tmps.getD x undef)){fn:Func}{l:List ResultVar}(r:fn.results=⟨l⟩){c:Prop}{ds:List D}(h:Xhv st P l=some (c,ds))(p:c):
 ∃v,(results fn tmps).run P w=.ok v w/\Rep P M β (Xjd ds) v:=by
 have⟨g,u,j⟩:=Xkf (f:=Xdw tmps) (λx c d y p=>XpW I q y p) h p;have z:(fn.results.mapM (Xdw tmps)).run P w=.ok g.toArray w:=by rw[r,Array.mapM_eq_mapM_toList];simp only[Sem.run_map,u,Result.andThen_ok]
 have e:(results fn tmps).run P w=.ok (if h:g.toArray.size=1 then g.toArray[0]else .tuple g.toArray) w:=by show((fn.results.mapM (Xdw tmps)) >>= λg=>pure (if h:g.size=1 then g[0]else .tuple g):Sem Value).run P w=_;simp only[Sem.run_bind,z,Result.andThen_ok,Sem.run_pure]
 refine⟨_,e,?_⟩;have k:=j.length;match ds,g,j,k with
 |[d],[v],j,_=>simp_all[RepL,Xjd]
 |[],[],j,_=>simp[Xjd,Rep,RepL]
 |d::B::ds,v::A::g,j,_=>
  have:¬(v::A::g).toArray.size=1:=by simp
  simp_all[dif_neg,this,Xjd,Rep]
def Xfe{s:Heap}:∀{ids:List Nat}{r},Jl s ids=some r->∀id∈ids,∃v E z f fz,s id=some (v,.arr true E z [f] fz)
 |[],r,h,id,e=>by simp_all
 |i::ids,r,h,id,e=>by
  unfold Jl at h;split at h
  .rename_i v E z f fz g;split at h
   .rename_i k j;rcases Ig.1 e with rfl|e
    .exact⟨_,_,_,_,_,g⟩
    exact Xfe j id e
   cases h
  simp_all
def st0(args:List D)(lent:List Ob)(n:Nat):St:=⟨λi=>(args[i]?).getD (.v undef),Jk lent,n,1⟩
def Xb6{G:Nat->Option (List D)}{lb:List (Nat×Nat)}{lent:List Ob}(Z:MemOK M w)(hG:∀g W,G g=some W->RepC P M W g 0)(I:lb.length=lent.length)(L:(lb.map (·.1)).Nodup)(J:∀(k:Nat)ob x,lent[k]? = some ob->lb[k]? = some x->ObRep P M Yx w (some x) ob/\ob.bx=true):U6 P ⟨G,M,w,lb.map (·.1),Kj lb,M,0,none,[]⟩ (Jk lent) (·<1) M (Kj lb) w:=by
 have hsplit:∀id v ob,Jk lent id=some (v,ob)->LB<=id/\v=0/\lent[id-LB]? = some ob:=by
  intro id v ob h;unfold Jk at h;split at h
  .rename_i r;simp only[Uo,Wy]at h;obtain⟨o,z,rfl,rfl⟩:=h;exact⟨r,rfl,z⟩
  cases h
 have f:∀id v x,Kj lb id v=some x->v=0/\LB<=id/\∃y,lb[id-LB]? = some y/\x=some y:=by
  intro id v x h;unfold Kj at h;split at h
  .rename_i r;simp only[Uo]at h;obtain⟨o,z,rfl⟩:=h;exact⟨r.1,r.2,o,z,rfl⟩
  cases h
 constructor
 .exact Z
 .intro id v x h;obtain⟨rfl,_⟩:=f id v x h;exact Nat.zero_lt_one
 .intro id v ob h;obtain⟨z,rfl,K⟩:=hsplit id v ob h;have q:id-LB<lb.length:=by
   rw[I];rcases Ux (id-LB) lent.length with p|p
   .exact p
   simp[WO p]at K
  refine⟨some lb[id-LB],?_,?_⟩
  .unfold Kj;rw[Wm ⟨rfl,z⟩];simp[q]
  obtain⟨g1,_⟩:=J _ ob lb[id-LB] K (Wb q);exact g1.mono (MLe.refl _) (BLe.zero _) (λ_ _ _=>rfl) (λ_ _ _ _=>rfl)
 .intro id v ob b cb h hb;have⟨z,rfl,K⟩:=hsplit id v ob h;have⟨_,_,y,E,e⟩:=f _ _ _ hb;simp at e;subst e;exact .inr ⟨WI.2 ⟨_,W3 E,rfl⟩,(J _ ob _ K E).2⟩
 .intro id v ob u v' N b cb cb' h p hb O;have⟨z,rfl,K⟩:=hsplit id v ob h;have⟨R,rfl,h2'⟩:=hsplit u v' N p;have⟨_,_,y,E,e⟩:=f _ _ _ hb;have⟨_,_,y',B,H⟩:=f _ _ _ O;simp at e H;subst e;subst H;have hn:=W7.1 (List.nodup_iff_pairwise_ne.1 L);have q:id-LB<lb.length:=by
   rcases Ux (id-LB) lb.length with p|p
   .exact p
   simp[WO p]at E
  have A:u-LB<lb.length:=by
   rcases Ux (u-LB) lb.length with p|p
   .exact p
   simp[WO p]at B
  have key:∀i j,i<j->∀(S:i<lb.length) (T:j<lb.length),∀c Y,lb[i]? = some (b,c)->lb[j]? = some (b,Y)->False:=by intro i j V S T c Y e H;rw[Wb S]at e;rw[Wb T]at H;simp only[Wp]at e H;exact hn i j (by simpa using S) (by simpa using T) V (by simp[e,H])
  rcases Nat.lt_trichotomy (id-LB) (u-LB)with h|h|h
  .exact(key _ _ h q A _ _ E B).elim
  .rw[←Nat.sub_add_cancel z,←Nat.sub_add_cancel R,h]
  exact(key _ _ h A q _ _ B E).elim
 .exact Kp.refl _ _
 .intro b o _;rfl
 .exact MLe.refl _
 omega
def Ja{C:Cx}{fn:Func}{args:List D}{e:List Value}{nt k:Nat}{s:Heap}{M:Mem}{β:Loc}(hd:C.df=[])(hb:BLe C.b0 β)(g:RepL P M β args e)(q:fn.ntmps=nt)(h:args.length<=nt)(I:U6 P C s (·<k) M β w):
 Rel P C ⟨λi=>(args[i]?).getD (.v undef),s,nt,k⟩ {tmps:=(⟨e⟩:Array Value)++Array.replicate (fn.ntmps-(⟨e⟩:Array Value).size) undef,defers:=[]} w:=by
 have r:=g.length;refine⟨hd.symm,by simp_all,M,β,hb,λi=>?_,I⟩;show Rep P M β ((args[i]?).getD (.v undef)) (((⟨e⟩:Array Value)++Array.replicate (fn.ntmps-(⟨e⟩:Array Value).size) undef).getD i undef);rcases Ux i args.length with p|p
 .have⟨x,j,u⟩:=g.get i args[i] (Wb p);have:((⟨e⟩:Array Value)++Array.replicate (fn.ntmps-(⟨e⟩:Array Value).size) undef).getD i undef=x:=by have f:i<e.length:=ab;rw[Wb f]at j;simp only[Wp]at j;simp[Array.getElem?_append,f,j]
  simp_all
 have:((⟨e⟩:Array Value)++Array.replicate (fn.ntmps-(⟨e⟩:Array Value).size) undef).getD i undef=undef:=by have f:¬i<e.length:=ab;simp only[Array.getD_eq_getD_getElem?,Array.getElem?_append];simp only[List.size_toArray,f,if_false];rw[Array.getElem?_replicate];split<;>rfl
 simp_all[this,Rep,Xb4]
def Xbv{C:Cx}{fn:Func}{rs:List ResultVar}{fr:List Nat}{lent:List Ob}{lb:List (Nat×Nat)}{R':D->List Ob->Prop}(L:C.lb=lb.map (·.1))(N:BLe (Kj lb) C.b0)(f:lb.length=lent.length)(O:fn.results=⟨rs⟩):
 ∀a w',Zv P C (J4 P rs fr lent.length R') a w'->∃v,(results fn a.tmps).run P w'=.ok v w'/\XpS P C.M0 C.w0 lb R' (.returned v) w':=by
 rintro a w' ⟨st,⟨h1,h2,M',β,h0,h3,I⟩,e⟩;unfold J4 at e;split at e
 .rename_i c ds q;split at e
  .rename_i c1 r R fh c2 obs S T u;have⟨hc,V,W,y,Y,A,Z⟩:=e;have⟨v,hv,hrv⟩:=Vr I h3 O q hc;have⟨M2,I2,B,hF⟩:=I.freeze (R++S);have⟨bl,hfr,hbl⟩:=shut_rep I B I2 hF A T V (λi hi=>WW _ hi) hrv;have hL:Xf9 st.s β (Xbu 0 lent.length) lb:=by
    intro j id G;have h:j<lent.length:=by
     rcases Ux j lent.length with h'|h'
     .exact h'
     rw[WO (by rw[KX];exact h')]at G;cases G
    rw[XaC _ _ _ h]at G;simp only[Wp,UE]at G;subst G;have k:=Xhu y (XaC lent.length 0 j h);rw[UE]at k;simp only[Uo]at k;obtain⟨⟨v',ob⟩,hs,rfl⟩:=k;have hβ:β (LB+j) 0=some (some (lb[j]'ab)):=by refine h0 _ _ _ (N _ _ _ ?_);show Kj lb (LB+j) 0=_;unfold Kj;rw[Wm ⟨rfl,Nat.le_add_right _ _⟩];have:LB+j-LB=j:=I8 ..;rw[this];rw[Wb ab];rfl
    have H:∃E z J fz,ob=.arr true E z [J] fz:=by have g:=Xfe u _ (W3 (XaC lent.length 0 j h));rw[UE]at g;obtain⟨v,E,z,J,fz,p⟩:=g;rw[hs]at p;simp only[Wp,Wy]at p;exact⟨E,z,J,fz,p.2⟩
    obtain⟨E,z,J,fz,rfl⟩:=H;exact⟨0,E,z,J,fz,lb[j]'ab,hs,Wb ab,hβ⟩
   have⟨g1,g2⟩:=Xb0 I B I2 hF u W (λx hx=>Ui _ hx) hL (by rw[KX,f]);have⟨r',hrr,Z⟩:=Z;have⟨bl',K,hbb⟩:=fitsR_rep hrr hfr;refine⟨v,hv,v,r',obs,M2,bl',rfl,Z,L▸I.keep,I2.mem,λb o hb=>?_,?_,g2,K,hbb▸hbl.nodup I Y⟩
   .exact I2.old b o hb
   rw[g1,KX,f]
  exact e.elim
 simp_all
def Xe0{G:Nat->Option (List D)}{f:FuncId}{fn:Func}{body:Code}{rs:List ResultVar}{args:List D}{lent:List Ob}{R':D->List Ob->Prop}(fr:List Nat)(nt:Nat)(B:P.funcs[f]? = some fn)(hb:fn.body=some body)(E:(fn.name== "runtime.NumGoroutine")=false)(r:fn.results=⟨rs⟩)(u:fn.ntmps=nt)(j:args.length<=nt)(h:∀(C:Cx)x,C.G=G->C.lb.length=lent.length->WfL P args->∀a w,Rel P (C.sub 0 x) (st0 args lent nt) a w->sem P (C.sub 0 x) (Zv P (C.sub 0 x) (J4 P rs fr lent.length R')) [.code body] none a w):YV P G f args lent R':=by
 refine⟨⟨fn,B,by grind,E⟩,λM w K lb H I g y z k=>?_⟩;refine calls_of_wp B hb ?_;have I0:=Xb6 (G:=G) H I g y z;have p:Rel P ⟨G,M,w,lb.map (·.1),Kj lb,M,0,none,[]⟩ (st0 args lent nt) _ w:=Ja rfl (BLe.refl _) k u j I0;have q:=h ⟨G,M,w,lb.map (·.1),Kj lb,M,0,none,[]⟩ (M,Kj lb) rfl (by simp_all) k.wf _ _ p;refine wp_mono ((wpIn_wide (n:=0)).1 q) ?_;have fin:∀a w',Zv P ⟨G,M,w,lb.map (·.1),Kj lb,M,0,none,[]⟩ (J4 P rs fr lent.length R') a w'->a.defers=[]/\∃v,(results fn a.tmps).run P w'=.ok v w'/\XpS P M w lb R' (.returned v) w':=λa w' h=>⟨by have⟨st,J,_⟩:=h;exact J.1,Xbv rfl (BLe.refl _) g r a w' h⟩
 intro e a w' A;cases e with
 |normal=>exact fin a w' A
 |ret=>exact fin a w' A
 |exit id=>assumption
 |_=>exact A.elim
def Yq{G:Nat->Option (List D)}{f:FuncId}{fn:Func}{body:Code}{rs:List ResultVar}{args:List D}{lent:List Ob}{R':D->List Ob->Prop}(m:Nat)(fr:List Nat)(nt:Nat)(p:P.funcs[f]? = some fn)(hb:fn.body=some body)(q:(fn.name== "runtime.NumGoroutine")=false)(g:fn.results=⟨rs⟩)(j:fn.ntmps=nt)(e:args.length<=nt)(h:∀(C:Cx)x,C.G=G->WfL P args->run P (C.sub 0 x) (J4 P rs fr lent.length R') m [.code body] (st0 args lent nt)):YV P G f args lent R':=
 Xe0 fr nt p hb q g j e λC x r _ k a w u=>Yh m _ u (h C x r k)
def stI(args:List D)(s:Heap)(n k:Nat):St:=⟨λi=>(args[i]?).getD (.v undef),s,n,k⟩
def Xgc(P:Program)(rs:List ResultVar)(K:D->Heap->Nat->Prop)(st:St):Prop:=match Xhv st P rs with
 |some (c,e)=>c/\K (Xjd e) st.s st.k
 |none=>False
def kOf(dst:Option Nat)(st:St)(K:St->Prop):D->Heap->Nat->Prop:=λd s k=>K (nxS st (XH dst st.n) d s st.n k)
def CallX.inl{C:Cx}{f:FuncId}{args:List D}{dst:Option Nat}{st:St}{K:St->Prop}(off:Nat){fn:Func}{rs:List ResultVar}{nt:Nat}(m:Nat)(q:(P.funcs[f]?,fn.body,fn.name== "runtime.NumGoroutine",fn.results,fn.ntmps,args.length.ble nt)=(some fn,some (fn.body.get!),false,⟨rs⟩,nt,true))(h:∀x,run P (C.sub off x) (Xgc P rs (kOf dst st K)) m [.code (fn.body.get!)] (stI args st.s nt st.k))(t:Prf args):CallX P C f args dst st K t:=by
 injection q with J q;injection q with hb q;injection q with N q;injection q with z q;injection q with A j;have j:=Nat.le_of_ble_eq_true j;refine⟨⟨fn,J,by grind,N⟩,λM β w Y Z I B=>?_⟩;refine calls_of_wp J hb ?_;have I0:U6 P (C.sub off (M,β)) st.s (·<st.k) M β w:=⟨I.mem,I.used,I.obs,I.own,I.inj,I.keep,I.old,MLe.refl _,λg O R=>RepC.mono I.le (I.glob g O R)⟩
 have r:Rel P (C.sub off (M,β)) (stI args st.s nt st.k) _ w:=Ja rfl (BLe.refl _) B A j I0;have u:=Yh m _ r (h (M,β));refine wp_mono ((wpIn_wide (n:=0)).1 u) ?_;have fin:∀a w',Zv P (C.sub off (M,β)) (Xgc P rs (kOf dst st K)) a w'->a.defers=[]/\∃v,(results fn a.tmps).run P w'=.ok v w' /\
  (λe w'=>∃v d s' L M' β',e=Ending.returned v/\U6 P C s' (·<L) M' β' w'/\Rep P M' β' d v/\MLe M M'/\BLe β β'/\K (nxS st (XH dst st.n) d s' st.n L)) (.returned v) w':=by
  rintro a w' ⟨S,⟨T,h2,M',β',E,V,I'⟩,p⟩
  refine⟨T,?_⟩
  unfold Xgc at p
  split at p
  .rename_i c ds y
   have⟨v,W,G⟩:=Vr I' V z y p.1
   exact⟨v,W,v,_,_,_,M',β',rfl,⟨I'.mem,I'.used,I'.obs,I'.own,I'.inj,I'.keep,I'.old,I.le.trans I'.le,I.glob⟩,G,I'.le,E,p.2⟩
  .grind
 intro e a w' H;cases e with
 |normal=>exact fin a w' H
 |ret=>exact fin a w' H
 |exit id=>assumption
 |_=>exact H.elim
def Ze{G:Nat->Option (List D)}{f:FuncId}{E z:Nat}{args:List D}{lent:List Ob}{R':D->List Ob->Prop}(h:∀a cap,YV P G f (.v (.slice a 0 cap)::args) lent R'):YV P G f (.isl E z []::args) lent R':=by refine⟨(h none 0).1,λM w u lb e g j k p q=>?_⟩;obtain⟨x,y,rfl,⟨_,_,_,a,cap,rfl,_⟩,r⟩:=q;refine(h a cap).2 M w _ lb e g j k p ?_;exact⟨_,_,rfl,⟨rfl,trivial⟩,r⟩
end
variable {P:Program}{C:Cx}{R:St->Prop}
section
variable {n:Nat}{k:List It}{st:St}
def XpX:run P C R (n+1) [] st=R st:=propext Iff.rfl
def XmZ{Q:St->Prop}:run P C R (n+1) (.stop Q::k) st=Q st:=propext Iff.rfl
def XpY{i:Nat}:run P C R (n+1) (.blk i::k) st=run P C R n k st:=propext Iff.rfl
def Xm0{full:Array Oper}:run P C R (n+1) (.ops full []::k) st=run P C R n k st:=propext Iff.rfl
def Xsf{full:Array Oper}{o:Oper}{rest:List Oper}:run P C R (n+1) (.ops full (o::rest)::k) st=Xb3 full o st
 (λst=>Xa7 P C o st (run P C R n (.ops full rest::k)))
 (λst=>Xhs (XH o.dst st.n) st.n (st.k+1) (λdst m j=>run P C R n (.ops full rest::k) (nx st dst (.v undef) [] m j)) trivial):=propext Iff.rfl
def Xm1:run P C R (n+1) (.code .skip::k) st=run P C R n k st:=propext Iff.rfl
def XpZ{x y:Code}:run P C R (n+1) (.code (.seq x y)::k) st=run P C R n (.code x::.code y::k) st:=propext Iff.rfl
def Xm2{c:Operand}{x y:Code}:run P C R (n+1) (.code (.cond c x y)::k) st=Xcy (ev st.t C.G c) c st (run P C R n (.code x::k)) (run P C R n (.code y::k)) trivial:=propext Iff.rfl
def XlE{i:Nat}{c:Code}:run P C R (n+1) (.code (.block i c)::k) st=run P C R n (.code c::.blk i::k) st:=propext Iff.rfl
def XlF{c:Code}:run P C R (n+1) (.code (.scope c)::k) st=run P C R n (.code c::k) st:=propext Iff.rfl
def XlG{i:Nat}:run P C R (n+1) (.code (.label i)::k) st=run P C R n k st:=propext Iff.rfl
def Xm3{i:Nat}:run P C R (n+1) (.code (.exit i)::k) st=Xke (Xcz i k) (λe=>run P C R n e st) trivial:=propext Iff.rfl
def Xp0:run P C R (n+1) (.code .ret::k) st=R st:=propext Iff.rfl
def Xm4{c:Code}:run P C R (n+1) (.code (.loop c)::k) st=LoopG P C R c k st trivial:=propext Iff.rfl
def Xje{i:Nat}{ops:List Oper}:run P C R (n+1) (.code (.region i ⟨ops⟩ false)::k) st=run P C R n (.ops ⟨ops⟩ ops::k) st:=propext Iff.rfl
def XlH{i:Nat}{ops:Array Oper}:run P C R (n+1) (.code (.region i ops true)::k) st=DrawnG P C R i ops k st trivial:=propext Iff.rfl
variable {full:Array Oper}{dst:Option Nat}{op:Op}{ty:Nat}{pos:String}{af:Array Edge}{x y:St->Prop}{K:St->Prop}
def Xhw:Xb3 full ⟨dst,op,ty,pos,af,none⟩ st x y=x st:=propext Iff.rfl
def Xhx{g:Nat}{want:Bool}:Xb3 full ⟨dst,op,ty,pos,af,some (g,want)⟩ st x y=Xgb ((full[g]?).bind (·.dst)) want st x y trivial:=propext Iff.rfl
def Xhy{r:Nat}{want:Bool}{e:Prf (some r)}:Xgb (some r) want st x y e=Kb (st.t r) r want st x y trivial:=propext Iff.rfl
def XlI{r:Nat}{e:Prf (D.v (.bool true))}:Kb (.v (.bool true)) r true st x y e=x st:=by simp[Kb,VV]
def XlJ{r:Nat}{e:Prf (D.v (.bool true))}:Kb (.v (.bool true)) r false st x y e=y st:=by simp[Kb,VV]
def XlK{r:Nat}{e:Prf (D.v (.bool false))}:Kb (.v (.bool false)) r true st x y e=y st:=by simp[Kb,VV]
def XlL{r:Nat}{e:Prf (D.v (.bool false))}:Kb (.v (.bool false)) r false st x y e=x st:=by simp[Kb,VV]
def Xm5{r:Nat}{want:Bool}{e:Array Value}{f:Prf (D.v (.tuple e))}:Kb (.v (.tuple e)) r want st x y f=y st:=rfl
def Xp1{c:Operand}{e:Prf (D.v (.bool true))}:Xcy (.v (.bool true)) c st x y e=x st:=by simp[Xcy,VV]
def Xp2{c:Operand}{e:Prf (D.v (.bool false))}:Xcy (.v (.bool false)) c st x y e=y st:=by simp[Xcy,VV]
def Xjf{f:List It->Prop}{e:Prf (some k)}:Xke (some k) f e=f k:=propext Iff.rfl
def Xm6{m j:Nat}{f:Option Nat->Nat->Nat->Prop}{e:Prf dst}:Xhs dst m j f e=f dst m j:=propext Iff.rfl
def XlM{o:Oper}:Xa7 P C o st K=Xfc P C (ZP o.op) o st K trivial:=propext Iff.rfl
def Xjg{o:Oper}{e:Prf (none:Option Call)}:Xfc P C none o st K e=Xcx (opF P (Xhr C.off o.dst) st.k (ev st.t C.G) st.s o.op) (XH o.dst st.n) st.n (st.k+1) (λdst d u n k=>K (nx st dst d u n k)) trivial:=propext Iff.rfl
def Xjh{o:Oper}{c:Call}{e:Prf (some c)}:Xfc P C (some c) o st K e=Xdv P C (callee (ev st.t C.G) c) c o.dst st K trivial:=propext Iff.rfl
def Xhz{f:Nat}{args:List D}{c:Call}{dst:Option Nat}{e:Prf (some (f,args))}:Xdv P C (some (f,args)) c dst st K e=CallX P C f args dst st K trivial:=propext Iff.rfl
def XhA{c:Call}{dst:Option Nat}{e:Prf (none:Option (Nat×List D))}:Xdv P C none c dst st K e=Xga P C (XcU (ev st.t C.G) c) dst st K trivial:=propext Iff.rfl
def XhB{l:Nat}{args:List D}{dst:Option Nat}{e:Prf (some (l,args))}:Xga P C (some (l,args)) dst st K e=YieldX P C l args dst st K trivial:=propext Iff.rfl
def Xji{c:Prop}{d:D}{u:Up}{m j:Nat}{f:Option Nat->D->Up->Nat->Nat->Prop}{e:Prf (some (c,d,u))}:Xcx (some (c,d,u)) dst m j f e=(c/\f dst d u m j):=propext Iff.rfl
def XhC{G:Nat->Option (List D)}{f:Nat}{e:Prop}{as:List D}{ids:List Nat}{obs:List Ob}{fz:List Nat}{K:List Nat->List Nat->D->List Ob->Prop}{g:Prf (some (e,as,ids,obs,fz))}:Xjb P G f (some (e,as,ids,obs,fz)) K g=(e/\CallG P G f as obs (K ids fz) trivial):=propext Iff.rfl
def Xp3{d:D}{u:Up}{m j:Nat}{f:Option Nat->D->Up->Nat->Nat->Prop}{e:Prf (d,u)}:Xse (d,u) dst m j f e=f dst d u m j:=propext Iff.rfl
variable {d:D}{u:Up}{m j i x:Nat}
def Xvi:(nx st dst d u m j).n=m:=rfl
def Xvj:(nx st dst d u m j).k=j:=rfl
def Xvk{i x:Nat}:(nx st (some x) d u m j).t i=if i=x then d else st.t i:=rfl
def Xtx{i:Nat}:(nx st none d u m j).t i=st.t i:=rfl
def Xty:(nx st dst d [] m j).s=st.s:=rfl
def Xvl{e:Nat×Nat×Ob}:(nx st dst d (e::u) m j).s=app st.s (e::u):=rfl
def Xtz{s:Heap}:(nxS st dst d s m j).n=m:=rfl
def XtA{s:Heap}:(nxS st dst d s m j).k=j:=rfl
def XtB{s:Heap}{i x:Nat}:(nxS st (some x) d s m j).t i=if i=x then d else st.t i:=rfl
def Xsg{s:Heap}{i:Nat}:(nxS st none d s m j).t i=st.t i:=rfl
def XtC{s:Heap}:(nxS st dst d s m j).s=s:=rfl
def XtD{args:List D}{s:Heap}{n k i:Nat}:(stI args s n k).t i=(args[i]?).getD (.v undef):=rfl
def XtE{args:List D}{s:Heap}{n k:Nat}:(stI args s n k).s=s:=rfl
def XtF{args:List D}{s:Heap}{n k:Nat}:(stI args s n k).n=n:=rfl
def XtG{args:List D}{s:Heap}{n k:Nat}:(stI args s n k).k=k:=rfl
def Xsh{s:Heap}{k:Nat}:kOf dst st K d s k=K (nxS st (XH dst st.n) d s st.n k):=rfl
def Xp4{C:Cx}{n:Nat}{x:Mem×Loc}:(C.sub n x).off=n:=rfl
def XtH{C:Cx}{n:Nat}{x:Mem×Loc}:(C.sub n x).G=C.G:=rfl
def XtI{args:List D}{lent:List Ob}{n i:Nat}:(st0 args lent n).t i=(args[i]?).getD (.v undef):=rfl
def XtJ{args:List D}{lent:List Ob}{n:Nat}:(st0 args lent n).s=Jk lent:=rfl
def XtK{args:List D}{lent:List Ob}{n:Nat}:(st0 args lent n).n=n:=rfl
def XtL{args:List D}{lent:List Ob}{n:Nat}:(st0 args lent n).k=1:=rfl
def Xgd{s:Heap}:app s []=s:=rfl
def Xdx{s:Heap}{i v:Nat}{o:Ob}:app s ((i,v,o)::u)=app (upd s i (some (v,o))) u:=rfl
def Xjj{s:Heap}{i j:Nat}{x:Option (Nat×Ob)}:upd s i x j=if j=i then x else s j:=rfl
def XlN{i:Nat}:Jk [] i=none:=by simp[Jk]
def Jn{ls:List Ob}{j:Nat}:Jk ls (LB+j)=(ls[j]?).map (λo=>(0,o)):=by unfold Jk;simp
def Xsi:IntKind.min .i8 = -128:=ag
def Xsj:IntKind.max .i8=127:=ag
def Xp5:IntKind.min .i16 = -32768:=ag
def Xp6:IntKind.max .i16=32767:=ag
def Xp7:IntKind.min .i32 = -2147483648:=ag
def Xp8:IntKind.max .i32=2147483647:=ag
def Xp9:IntKind.min .i64 = -9223372036854775808:=ag
def Xqa:IntKind.max .i64=9223372036854775807:=ag
def Xsk:IntKind.min .u8=0:=ag
def Xsl:IntKind.max .u8=255:=ag
def Xqb:IntKind.min .u16=0:=ag
def Xqc:IntKind.max .u16=65535:=ag
def Xqd:IntKind.min .u32=0:=ag
def Xqe:IntKind.max .u32=4294967295:=ag
def Xqf:IntKind.min .u64=0:=ag
def Xqg:IntKind.max .u64=18446744073709551615:=ag
def Zo{r:Nat}{d:D}(h:st.t r=d):XaV st r d=st:=by
 unfold XaV;have:upd st.t r d=st.t:=by
  funext j;unfold upd;split
  .simp_all
  rfl
 rw[this]
def YM{b:Bool}{r:Nat}{x y:St->Prop}(f:st.t r=.v (.bool b))(g:b=true->x (XaV st r (.v (.bool true))))(h:b=false->y (XaV st r (.v (.bool false))))(t':Prf (D.v (.bool b))):Xcy (.v (.bool b)) (.tmp r) st x y t':=
 ⟨λe=>by simp_all[Zo,f],λe=>by simp_all[Zo,f]⟩
def XU{b:Bool}{r:Nat}{x y:St->Prop}(f:st.t r=.v (.bool b))(g:b=true->x (XaV st r (.v (.bool true))))(h:b=false->y (XaV st r (.v (.bool false))))(t':Prf (D.v (.bool b))):Kb (.v (.bool b)) r true st x y t':=
 ⟨λe=>by simp_all[Zo,f],λe=>by simp_all[Zo,f]⟩
def XV{b:Bool}{r:Nat}{x y:St->Prop}(f:st.t r=.v (.bool b))(g:b=true->y (XaV st r (.v (.bool true))))(h:b=false->x (XaV st r (.v (.bool false))))(t':Prf (D.v (.bool b))):Kb (.v (.bool b)) r false st x y t':=
 ⟨λe=>by simp_all[Zo,f],λe=>by simp_all[Zo,f]⟩
def Xsm{r i:Nat}{d:D}:(XaV st r d).t i=if i=r then d else st.t i:=rfl
def Xsn{r:Nat}{d:D}:(XaV st r d).s=st.s:=rfl
def Xso{r:Nat}{d:D}:(XaV st r d).n=st.n:=rfl
def Xsp{r:Nat}{d:D}:(XaV st r d).k=st.k:=rfl
def CallG.of{G:Nat->Option (List D)}{f:FuncId}{args eargs:List D}{obs:List Ob}{R K:D->List Ob->Prop}(h:YV P G f eargs obs R)(e:Z3 args eargs)(hK:∀r ls,R r ls->K r ls)(t':Prf args):CallG P G f args obs K t':=
 ⟨eargs,R,e,h,hK⟩
end
variable {P:Program}
structure En where
 i:Nat
 o:Oper
 anc:List Nat
 ws:List Nat
 ms:List Nat
 mi:List Nat
def Zy(ms:List Nat)(t:Nat->D):Nat->D:=λx=>if ms.contains x then .any else t x
def YX(mi:List Nat)(s:Heap):Heap:=λx=>if mi.contains x then none else s x
inductive Kd where
 |det (c:Prop) (d:D) (u:Up)
 |call (c:Prop) (f:FuncId) (as:List D) (ids:List Nat) (obs:List Ob) (fz:List Nat)
 |ro (f:FuncId) (args:List D)
def kd1(x:Option (Prop×D×Up)):Option Kd:=match x with
 |some (c,d,u)=>some (.det c d u)
 |none=>none
def kd2(f:FuncId)(args:List D)(x:Option (Prop×List D×List Nat×List Ob×List Nat)):Option Kd:=match x with
 |some (e,as,ids,obs,fz)=>some (.call e f as ids obs fz)
 |none=>some (.ro f args)
def roK(f:Nat):Nat:=1000000000+f
def Xge(G:Nat->Option (List D))(f:Nat){α:Type}(x:Option α):Option α:=if(G (roK f)).isSome then none else x
def XlO{G:Nat->Option (List D)}{f:Nat}{α:Type}{x:Option α}{y:α}(h:Xge G f x=some y):x=some y:=by unfold Xge at h;simp_all
def kd3(G:Nat->Option (List D))(s:Heap)(x:Option (FuncId×List D)):Option Kd:=match x with
 |some (f,args)=>kd2 f args (Xge G f (Zh s args))
 |none=>none
def RoA(P:Program)(C:Cx)(s:Heap)(args eargs:List D):Prop:=∀s' U M β w e,HLe s s'->U6 P C s' U M β w->RepL P M β args e->∃M1,MLe M M1/\MemOK M1 w/\RepL P M1 Yx eargs e
def kdO(P:Program)(C:Cx)(ver:Nat)(o:Oper)(t:Nat->D)(s:Heap):Option Kd:=match ZP o.op with
 |some c=>kd3 C.G s (callee (ev t C.G) c)
 |none=>kd1 (opF P (Xhr C.off o.dst) ver (ev t C.G) s o.op)
def kdG(d:D)(_:Nat)(want:Bool)(x:Option Kd):Option Kd:=match d with
 |.v (.bool b)=>bif b==want then x else some (.det True (.v undef) [])
 |.v (.tuple _)=>some (.det True (.v undef) [])
 |_=>none
def kdE(P:Program)(C:Cx)(full:Array Oper)(ver:Nat)(o:Oper)(t:Nat->D)(s:Heap):Option Kd:=match o.guard with
 |none=>kdO P C ver o t s
 |some (g,want)=>match (full[g]?).bind (·.dst)with
  |some r=>kdG (t r) r want (kdO P C ver o t s)
  |none=>none
def KT(u:Up)(ws:List Nat):Prop:=∀x∈u,x.1∈ws
def doK(P:Program)(C:Cx)(e:En)(ver:Nat)(s:Heap)(x:Option Kd)(F:D->Up->Prop):Prop:=match x with
 |none=>False
 |some (.det c d u)=>c/\KT u e.ws/\F d u
 |some (.call c f as ids obs fz)=>c/\∃eargs R,Z3 as eargs/\YV P C.G f eargs obs R/\(∃r ls,R r ls)/\∀r ls,R r ls ->
  KT (aft s ids fz r ls ver (64*(C.off+e.o.dst.getD 0))).2 e.ws/\F (aft s ids fz r ls ver (64*(C.off+e.o.dst.getD 0))).1 (aft s ids fz r ls ver (64*(C.off+e.o.dst.getD 0))).2
 |some (.ro f args)=>∃eargs R,RoA P C s args eargs/\YV P C.G f eargs [] R/\(∃r ls,R r ls)/\∀r ls,R r ls->scal r=true/\F r []
def KU(P:Program)(C:Cx)(full:Array Oper)(k0:Nat)(e:En)(st:St)(F:St->Prop):Prop:=
 doK P C e (k0+e.i) (YX e.mi st.s) (kdE P C full (k0+e.i) e.o (Zy e.ms st.t) (YX e.mi st.s)) λd u=>F (nx st (XH e.o.dst st.n) d u st.n st.k)
def dr(P:Program)(C:Cx)(full:Array Oper)(k0:Nat):List En->St->(St->Prop)->Prop
 |[],st,K=>K st
 |e::f,st,K=>KU P C full k0 e st λst=>dr P C full k0 f st K
def Xbw(o:Oper):Bool:=(ZP o.op).isSome
def inB(x:Option Nat)(l:List Nat):Bool:=match x with
 |some x=>l.contains x
 |none=>true
def Xdy(e j:En):Bool:=
 (e.o.dst != j.o.dst||e.o.dst.isNone)&&inB e.o.dst j.ms&&inB j.o.dst e.ms&&e.ws.all (λx=>j.mi.contains x)&&j.ws.all (λx=>e.mi.contains x)&&e.ws.all (λx=>!j.ws.contains x)&&!(Xbw e.o&&Xbw j.o)
section
variable {C:Cx}{full:Array Oper}{k0:Nat}{st:St}
def Xm7{e:En}{ver:Nat}{s:Heap}{x:Option Kd}{F F':D->Up->Prop}(h:∀d u,F d u->F' d u)(hd:doK P C e ver s x F):doK P C e ver s x F':=by
 unfold doK at hd⊢;split at hd
 .omega
 .simp_all
 .have⟨z,eargs,R,p,q,v,f⟩:=hd;exact⟨z,eargs,R,p,q,v,λr ls g=>⟨(f r ls g).1,h _ _ (f r ls g).2⟩⟩
 have⟨eargs,R,p,q,v,f⟩:=hd;exact⟨eargs,R,p,q,v,λr ls g=>⟨(f r ls g).1,h _ _ (f r ls g).2⟩⟩
def Xa9{e:En}{F F':St->Prop}(h:∀st,F st->F' st)(hd:KU P C full k0 e st F):KU P C full k0 e st F':=
 Xm7 (λ_ _ f=>h _ f) hd
def Xm8{ms:List Nat}{dst:Option Nat}{n m k:Nat}{d:D}{u:Up}(h:inB dst ms=true):Zy ms (nx st (XH dst n) d u m k).t=Zy ms st.t:=by
 funext x;unfold Zy;split
 .rfl
 rename_i f;cases dst with
 |none=>rfl
 |some y=>
  simp only[XH];split
  .simp only[nx,upd];split
   .rename_i e;subst e;exact absurd h f
   rfl
  rfl
def J5{s:Heap}{i:Nat}:∀{u:Up},(∀x∈u,x.1≠i)->app s u i=s i:=by
 intro u;induction u generalizing s with
 |nil=>intro _;rfl
 |cons x u e=>intro h;have⟨j,v,o⟩:=x;show app (upd s j _) u i=s i;rw[e λy f=>h y (WQ _ f),X9 _ _ _ _ (Ne.symm (h (j,v,o) ac))]
def Xm9{mi ws:List Nat}{dst:Option Nat}{m k:Nat}{d:D}{u:Up}(f:KT u ws)(h:∀x∈ws,mi.contains x=true):YX mi (nx st dst d u m k).s=YX mi st.s:=by
 funext x;unfold YX;split
 .rfl
 rename_i g;exact J5 λy p e=>g (e▸h _ (f y p))
def Xff{s s':Heap}{i:Nat}:∀{u:Up},s i=s' i->app s u i=app s' u i:=by
 intro u;induction u generalizing s s' with
 |nil=>intro h;exact h
 |cons x u e=>intro h;have⟨j,v,o⟩:=x;refine e ?_;unfold upd;simp_all
def Xna{s:Heap}{u f:Up}(h:∀x∈u,∀y∈f,x.1≠y.1):app (app s u) f=app (app s f) u:=by
 funext i;by_cases q:∃x∈u,x.1=i
 .obtain⟨x,g,rfl⟩:=q;rw[J5 λy p e=>h x g y p e.symm];exact Xff (J5 λy p e=>h x g y p e.symm).symm
 have r:∀x∈u,x.1≠i:=λx g e=>q ⟨x,g,e⟩;rw[J5 (s:=app s f) r];exact Xff (J5 r)
def Xbx{e j:Option Nat}{n k:Nat}{d d':D}{u f:Up}(v:e≠j\/e=none)(h:∀x∈u,∀y∈f,x.1≠y.1):
 nx (nx st (XH e n) d u n k) (XH j n) d' f n k=nx (nx st (XH j n) d' f n k) (XH e n) d u n k:=by
 have ht:(nx (nx st (XH e n) d u n k) (XH j n) d' f n k).t=(nx (nx st (XH j n) d' f n k) (XH e n) d u n k).t:=by
  funext x;cases e with
  |none=>rfl
  |some a=>
   cases j with
   |none=>rfl
   |some b=>simp only[XH];split<;>split<;>simp only[nx,upd];grind
 have z:(nx (nx st (XH e n) d u n k) (XH j n) d' f n k).s=(nx (nx st (XH j n) d' f n k) (XH e n) d u n k).s:=Xna h;have:∀(a b:St),a.t=b.t->a.s=b.s->a.n=b.n->a.k=b.k->a=b:=by rintro⟨_,_,_,_⟩ ⟨_,_,_,_⟩ g p q r;simp only at g p q r;subst g;subst p;subst q;subst r;rfl
 exact this _ _ ht z rfl rfl
def Kd.isDet:Kd->Bool
 |.det _ _ _=>true
 |_=>false
def J6{ver:Nat}{o:Oper}{t:Nat->D}{s:Heap}{x:Kd}(h:kdE P C full ver o t s=some x)(e:x.isDet=false):Xbw o=true:=by
 have key:kdO P C ver o t s=some x->Xbw o=true:=by
  intro h;unfold kdO at h;unfold Xbw;split at h
  .simp_all
  unfold kd1 at h;split at h
  .simp at h;subst h;cases e
  simp_all
 unfold kdE at h;split at h
 .simp_all
 split at h
 .unfold kdG at h;split at h
  .rename_i b _;cases hb:(b==_)with
   |true=>rw[hb]at h;exact key h
   |false=>rw[hb]at h;simp at h;subst h;cases e
  .simp at h;subst h;cases e
  cases h
 simp_all
def Xjk{e j:En}{F:St->Prop}(W:Xdy e j=true)(h:KU P C full k0 e st λst=>KU P C full k0 j st F):KU P C full k0 j st λst=>KU P C full k0 e st F:=by
 unfold Xdy at W;simp only[WH,Iq,bne_iff_ne,ne_eq,Option.isNone_iff_eq_none,W0,Ic]at W;have⟨⟨⟨⟨⟨⟨z,hem⟩,hjm⟩,hew⟩,hjw⟩,hdis⟩,hcc⟩:=W;have p:∀{u u':Up},KT u e.ws->KT u' j.ws->∀x∈u,∀y∈u',x.1≠y.1:=by
  intro u u' q g x hx y hy e';have J:=hdis x.1 (q x hx);have I:=g y hy;rw[←e']at I;have:j.ws.contains x.1=true:=by simpa using I
  rw[J]at this;cases this
 have vj:∀{d u},KT u e.ws->Zy j.ms (nx st (XH e.o.dst st.n) d u st.n st.k).t=Zy j.ms st.t/\YX j.mi (nx st (XH e.o.dst st.n) d u st.n st.k).s=YX j.mi st.s:=
  λq=>⟨Xm8 hem,Xm9 q hew⟩
 have ve:∀{d u},KT u j.ws->Zy e.ms (nx st (XH j.o.dst st.n) d u st.n st.k).t=Zy e.ms st.t/\YX e.mi (nx st (XH j.o.dst st.n) d u st.n st.k).s=YX e.mi st.s:=
  λq=>⟨Xm8 hjm,Xm9 q hjw⟩
 unfold KU at h⊢;generalize A:kdE P C full (k0+e.i) e.o (Zy e.ms st.t) (YX e.mi st.s)=ke at h;generalize v:kdE P C full (k0+j.i) j.o (Zy j.ms st.t) (YX j.mi st.s)=L;cases ke with
 |none=>exact h.elim
 |some ke=>
  cases ke with
  |det c d u=>
   have⟨hc,q,h⟩:=h;have⟨N,O⟩:=vj (d:=d) q;dsimp only at h;rw[N,O,v]at h;cases L with
   |none=>assumption
   |some L=>
    cases L with
    |det c' d' u'=>
     have⟨Y,g,h⟩:=h;refine⟨Y,g,?_⟩;have⟨S,T⟩:=ve (d:=d') g;try dsimp only
     rw[S,T,A];refine⟨hc,q,?_⟩;have:=Xbx (st:=st) (e:=e.o.dst) (j:=j.o.dst) (n:=st.n) (k:=st.k) (d:=d) (d':=d') z (p q g);exact(congrArg F this).mp h
    |call c' f as ids obs fz=>
     have⟨Y,eargs,R,J,I,h3,G⟩:=h;refine⟨Y,eargs,R,J,I,h3,λr ls V=>?_⟩;have⟨g,h⟩:=G r ls V;refine⟨g,?_⟩;have⟨S,T⟩:=ve (d:=(aft (YX j.mi st.s) ids fz r ls (k0+j.i) (64*(C.off+j.o.dst.getD 0))).1) g;try dsimp only
     rw[S,T,A];refine⟨hc,q,?_⟩;have:=Xbx (st:=st) (e:=e.o.dst) (j:=j.o.dst) (n:=st.n) (k:=st.k) (d:=d) (d':=(aft (YX j.mi st.s) ids fz r ls (k0+j.i) (64*(C.off+j.o.dst.getD 0))).1) z (p q g);exact(congrArg F this).mp h
    |ro f' args'=>
     have⟨eargs,R,J,I,h3,G⟩:=h;refine⟨eargs,R,J,I,h3,λr ls V=>⟨(G r ls V).1,?_⟩⟩;have h:=(G r ls V).2;have g:KT [] j.ws:=λx hx=>by grind
     have⟨S,T⟩:=ve (d:=r) g;try dsimp only
     rw[S,T,A];refine⟨hc,q,?_⟩;have:=Xbx (st:=st) (e:=e.o.dst) (j:=j.o.dst) (n:=st.n) (k:=st.k) (d:=d) (d':=r) z (p q g);exact(congrArg F this).mp h
  |ro f args=>
   have hce:=J6 A rfl;have⟨eargs,R,J,I,⟨Z,B,H⟩,G⟩:=h;have q:KT [] e.ws:=λx hx=>by grind
   obtain⟨_,E⟩:=G Z B H;obtain⟨N,O⟩:=vj (d:=Z) q;dsimp only at E;rw[N,O,v]at E;cases L with
   |none=>assumption
   |some L=>
    cases L with
    |call c' f' as' ids' obs' fz'=>have hcj:=J6 v rfl;simp_all
    |ro f' args'=>have hcj:=J6 v rfl;simp_all
    |det c' d' u'=>
     refine⟨E.1,E.2.1,?_⟩;obtain⟨S,T⟩:=ve (d:=d') E.2.1;try dsimp only
     rw[S,T,A];refine⟨eargs,R,J,I,⟨Z,B,H⟩,λr ls V=>⟨(G r ls V).1,?_⟩⟩;have h:=(G r ls V).2;obtain⟨N,O⟩:=vj (d:=r) q;dsimp only at h;rw[N,O,v]at h;have:=Xbx (st:=st) (e:=e.o.dst) (j:=j.o.dst) (n:=st.n) (k:=st.k) (d:=r) (d':=d') z (p q E.2.1);exact(congrArg F this).mp h.2.2
  |call c f as ids obs fz=>
   have hce:=J6 A rfl;obtain⟨hc,eargs,R,J,I,⟨Z,B,H⟩,G⟩:=h;obtain⟨hu0,E⟩:=G Z B H;obtain⟨N,O⟩:=vj (d:=(aft (YX e.mi st.s) ids fz Z B (k0+e.i) (64*(C.off+e.o.dst.getD 0))).1) hu0;dsimp only at E;rw[N,O,v]at E;cases L with
   |none=>assumption
   |some L=>
    cases L with
    |call c' f' as' ids' obs' fz'=>have hcj:=J6 v rfl;simp_all
    |ro f' args'=>have hcj:=J6 v rfl;simp_all
    |det c' d' u'=>
     refine⟨E.1,E.2.1,?_⟩;obtain⟨S,T⟩:=ve (d:=d') E.2.1;try dsimp only
     rw[S,T,A];refine⟨hc,eargs,R,J,I,⟨Z,B,H⟩,λr ls V=>?_⟩;obtain⟨q,h⟩:=G r ls V;obtain⟨N,O⟩:=vj (d:=(aft (YX e.mi st.s) ids fz r ls (k0+e.i) (64*(C.off+e.o.dst.getD 0))).1) q;dsimp only at h;rw[N,O,v]at h;refine⟨q,?_⟩;have:=Xbx (st:=st) (e:=e.o.dst) (j:=j.o.dst) (n:=st.n) (k:=st.k) (d:=(aft (YX e.mi st.s) ids fz r ls (k0+e.i) (64*(C.off+e.o.dst.getD 0))).1) (d':=d') z (p q E.2.1);exact(congrArg F this).mp h.2.2
def XcC{K:St->Prop}{j:En}{p:List En}:∀{f:List En} {st:St},(∀e∈f,Xdy e j=true)->dr P C full k0 (f++j::p) st K->KU P C full k0 j st λst=>dr P C full k0 (f++p) st K
 |[],st,_,h=>h
 |e::f,st,g,h=>by
  have r:KU P C full k0 e st λst=>KU P C full k0 j st λst=>dr P C full k0 (f++p) st K:=
   Xa9 (λst q=>XcC (λx v=>g x (WQ _ v)) q) h
  exact Xjk (g e ac) r
end
variable {P:Program}
section
variable {s s':Heap}
mutual
def lend_le(f:HLe s s'):∀{d:D} {ls:List Nat}{r},lend s ls d=some r->lend s' ls d=some r
 |.ept id ver z i c,ls,r,h=>by
  unfold lend at h⊢;split at h
  .rename_i e;rw[f _ _ e];exact h
  simp_all
 |.agg g,ls,r,h=>by
  unfold lend at h⊢;split at h
  .rename_i e;rw[J7 f e];exact h
  simp_all
 |.tup g,ls,r,h=>by
  unfold lend at h⊢;split at h
  .rename_i e;rw[J7 f e];exact h
  simp_all
 |.ifc t d,ls,r,h=>by
  unfold lend at h⊢;split at h
  .rename_i e;rw[lend_le f e];exact h
  simp_all
 |.clo fn a b,ls,r,h=>by
  unfold lend at h⊢;split at h
  .rename_i e;rw[J7 f e];split at h
   .rename_i p;rw[J7 f p];exact h
   cases h
  simp_all
 |.osl id ver z off len,ls,r,h=>by
  unfold lend at h⊢;split at h
  .rename_i e;rw[snap_le f e];exact h
  simp_all
 |.any,ls,r,h=>by assumption
 |.v _,ls,r,h=>by assumption
 |.nsl,ls,r,h=>by assumption
 |.isl ..,ls,r,h=>by assumption
 |.ipt ..,ls,r,h=>by assumption
 |.fsl ..,ls,r,h=>by assumption
 |.fmp ..,ls,r,h=>by assumption
 |.omp ..,ls,r,h=>by assumption
def J7(f:HLe s s'):∀{e:List D} {ls:List Nat}{r},ZM s ls e=some r->ZM s' ls e=some r
 |[],ls,r,h=>by assumption
 |d::e,ls,r,h=>by
  unfold ZM at h⊢;split at h
  .rename_i g;rw[lend_le f g];simp only;split at h
   .rename_i p;rw[J7 f p];exact h
   cases h
  simp_all
end
def XcV{l f:List Nat}(h:Has s l)(g:Has s f):Has s (l++f):=λi e=>by
 rcases Wr.1 e with e|e
 .exact h i e
 exact g i e
mutual
def lend_has:∀{d:D} {ls:List Nat}{r},lend s ls d=some r->Has s r.2.2.2
 |.ept id ver z i c,ls,r,h=>by
  unfold lend at h;split at h
  .split at h
   .split at h<;>simp only[Wp]at h<;>subst h<;>intro i f<;>simp at f
   cases h
  simp_all
 |.agg g,ls,r,h=>by
  unfold lend at h;split at h
  .rename_i e;simp at h;subst h;exact Jb e
  simp_all
 |.tup g,ls,r,h=>by
  unfold lend at h;split at h
  .rename_i e;simp at h;subst h;exact Jb e
  simp_all
 |.ifc t d,ls,r,h=>by
  unfold lend at h;split at h
  .rename_i e;simp at h;subst h;have:=lend_has e;exact this
  simp_all
 |.clo fn a b,ls,r,h=>by
  unfold lend at h;split at h
  .rename_i e;split at h
   .rename_i p;simp at h;subst h;exact XcV (Jb e) (Jb p)
   cases h
  simp_all
 |.osl id ver z off len,ls,r,h=>by
  unfold lend at h;split at h
  .rename_i e;simp at h;subst h;exact snap_has e
  simp_all
 |.any,ls,r,h=>by
  unfold lend at h;split at h
  .rename_i e;simp at h;subst h;exact snap_has e
  simp_all
 |.v _,ls,r,h=>by
  unfold lend at h;split at h
  .rename_i e;simp at h;subst h;exact snap_has e
  simp_all
 |.nsl,ls,r,h=>by
  unfold lend at h;split at h
  .rename_i e;simp at h;subst h;exact snap_has e
  simp_all
 |.isl ..,ls,r,h=>by
  unfold lend at h;split at h
  .rename_i e;simp at h;subst h;exact snap_has e
  simp_all
 |.ipt ..,ls,r,h=>by
  unfold lend at h;split at h
  .rename_i e;simp at h;subst h;exact snap_has e
  simp_all
 |.fsl ..,ls,r,h=>by simp_all[lend,snap]
 |.fmp ..,ls,r,h=>by simp_all[lend,snap]
 |.omp ..,ls,r,h=>by simp_all[lend,snap]
def Jb:∀{e:List D} {ls:List Nat}{r},ZM s ls e=some r->Has s r.2.2.2
 |[],ls,r,h=>by simp only[ZM,Wp]at h;subst h;intro i p;simp_all
 |d::e,ls,r,h=>by
  unfold ZM at h;split at h
  .rename_i f;split at h
   .rename_i g;simp at h;subst h;exact XcV (lend_has f) (Jb g)
   cases h
  simp_all
end
def XhD(e:HLe s s'):∀{ids:List Nat}{r},Jl s ids=some r->Jl s' ids=some r
 |[],r,h=>by assumption
 |id::ids,r,h=>by
  unfold Jl at h⊢;split at h
  .rename_i f;rw[e _ _ f];simp only;split at h
   .rename_i g p;rw[Jm e g,XhD e p];exact h
   cases h
  simp_all
def Xfg:∀{ids:List Nat}{r},Jl s ids=some r->Has s r.2.2
 |[],r,h=>by simp only[Jl,Wp]at h;subst h;intro i g;simp_all
 |id::ids,r,h=>by
  unfold Jl at h;split at h
  .split at h
   .rename_i e f;simp at h;subst h;exact XcV (K9 e) (Xfg f)
   cases h
  simp_all
def XhE(e:HLe s s'){args:List D}{r}(h:Zh s args=some r):Zh s' args=some r:=by
 unfold Zh at h⊢;split at h
 .rename_i f;rw[J7 e f];simp only;split at h
  .rename_i g;rw[XhD e g];exact h
  cases h
 simp_all
def Xgf{args:List D}{g:Prop}{as:List D}{ids:List Nat}{obs:List Ob}{fz:List Nat}(h:Zh s args=some (g,as,ids,obs,fz)):Has s ids/\Has s fz:=by
 unfold Zh at h;split at h
 .rename_i f;split at h
  .rename_i p;obtain⟨_,_,rfl,_,rfl⟩:=h;refine⟨λid e=>?_,XcV (Jb f) (Xfg p)⟩;have⟨v,E,z,r,fz,q⟩:=(Y9 f ⟨ac,ac⟩).2 id e;exact⟨_,q⟩
  cases h
 simp_all
def XhF(e:HLe s s'):∀{ids:List Nat} {obs:List Ob},Has s ids->ZR s' ids obs=ZR s ids obs
 |[],obs,_=>by rfl
 |id::ids,[],_=>rfl
 |id::ids,o::obs,h=>by have⟨x,f⟩:=h id ac;have g:=XhF e (ids:=ids) (obs:=obs) λi p=>h i (WQ _ p);simp only[ZR,f,e _ _ f,g]
def Xsq(e:HLe s s'){ids fz:List Nat}(f:Has s ids)(g:Has s fz)(r:D)(ls:List Ob)(ver n:Nat):aft s' ids fz r ls ver n=aft s ids fz r ls ver n:=by unfold aft;rw[Xbt e g,XhF e f]
def Xqh(mi:List Nat)(s:Heap):HLe (YX mi s) s:=by intro i x h;unfold YX at h;simp_all
end
def RelD(P:Program)(C:Cx)(U:Nat->Prop)(st:St)(a:Act)(w:World):Prop:=
 a.defers=C.df/\a.tmps.size=st.n/\∃M β,BLe C.b0 β/\(∀x,Rep P M β (st.t x) (a.tmps.getD x undef))/\U6 P C st.s U M β w
section
variable {C:Cx}{st:St}{a:Act}{w:World}{U:Nat->Prop}
def RelD.put{w':World}{u:Up}{U':Nat->Prop}{M':Mem}{β':Loc}{M:Mem}{β:Loc}{d:D}{v:Value}{dst:Option Nat}{A:Nat}(g:a.defers=C.df)(B:a.tmps.size=st.n)(h:BLe C.b0 β)(p:∀x,Rep P M β (st.t x) (a.tmps.getD x undef))(q:MLe M M')(f:BLe β β')(I:U6 P C (app st.s u) U' M' β' w')(E:Rep P M' β' d v):RelD P C U' (nx st (XH dst st.n) d u st.n A) (a.put dst v) w':=by
 cases dst with
 |none=>exact⟨g,B,M',β',h.trans f,λx=>(p x).mono q f,I⟩
 |some x=>
  by_cases r:x<st.n
  .simp only[XH,Wm r];refine⟨g,by simp_all[nx,Act.put],M',β',h.trans f,λi=>?_,I⟩;simp only[nx,upd,Act.put];by_cases z:i=x
   .simp_all
   rw[Wj z];have e:(a.tmps.setIfInBounds x v).getD i undef=a.tmps.getD i undef:=by simp[Ne.symm z]
   rw[e];exact(p i).mono q f
  simp only[XH,Wj r];refine⟨g,by simp_all[nx,Act.put],M',β',h.trans f,λi=>?_,I⟩;have e:a.put (some x) v=a:=by simp only[Act.put];rw[Array.setIfInBounds_eq_of_size_le ab]
  rw[e];exact(p i).mono q f
def RelD.drew(h:RelD P C U st a w)(k:Nat):RelD P C U st a {w with drawn:=k}:=by
 have⟨e,f,M,β,g,p,I⟩:=h;refine⟨e,f,M,β,g,p,?_⟩;constructor
 .exact I.mem
 .exact I.used
 .intro id v ob q;have⟨x,r,z⟩:=I.obs id v ob q;exact⟨x,r,z.mono (MLe.refl _) (BLe.refl _) (λ_ _ _=>rfl) (λ_ _ _ _=>rfl)⟩
 .exact I.own
 .exact I.inj
 .exact⟨I.keep.os,I.keep.tape,I.keep.output,I.keep.size,I.keep.block⟩
 .exact I.old
 .exact I.le
 exact I.glob
def Xnb{full:Array Oper}{k0:Nat}{e:En}{F:St->Prop}{K:AW}{Q:Exit->AW}(hr:RelD P C U st a w)(hv:¬U (k0+e.i))(h:KU P C full k0 e st F)(hK:∀Y a' w',RelD P C (λx=>U x\/x=k0+e.i) Y a' w'->F Y->K a' w'):if Region.wanted e.o (yielded full a.tmps)=true then e.o.wp P a w K Q else K (a.put e.o.dst undef) w:=by
 have⟨h1,h2,M,β,h0,h3,I⟩:=hr;have V:∀x,Rep P M β (Zy e.ms st.t x) (a.tmps.getD x undef):=λx=>by unfold Zy;grind[Rep]
 have E:=XbZ I V;have H:=Xqh e.mi st.s;have J:F (nx st (XH e.o.dst st.n) (.v undef) [] st.n st.k)->K (a.put e.o.dst undef) w:=λhF=>
  hK _ _ _ (RelD.put (u:=[]) h1 h2 h0 h3 (MLe.refl _) (BLe.refl _) (I.mono λ_ h=>.inl h) (by simp[Rep,Xb4])) hF
 have hrun:doK P C e (k0+e.i) (YX e.mi st.s) (kdO P C (k0+e.i) e.o (Zy e.ms st.t) (YX e.mi st.s)) (λd u=>F (nx st (XH e.o.dst st.n) d u st.n st.k))->e.o.wp P a w K Q:=by
  intro h;unfold kdO at h;split at h
  .rename_i c hc;have N:e.o.op=.call c:=by
    unfold ZP at hc;split at hc
    .grind
    grind
   unfold kd3 at h;split at h
   .rename_i f args p;unfold kd2 at h;split at h
    .rename_i cc as ids obs fz hca;replace hca:=XlO hca;have⟨hcc,eargs,R,Z,hA,_,O⟩:=h;unfold callee at p;split at p
     .rename_i x hx;split at p
      .rename_i g first caps L
       obtain⟨rfl,rfl⟩:=p;have z:=E x;rw[L]at z;have⟨va,vb,z,ha,hb⟩:=z;have⟨⟨fn,hf,W,hn⟩,_⟩:=id hA;unfold Oper.wp;rw[JY N hx z hf W hn w];have q:RepL P M β (first++(c.args.toList.map (ev (Zy e.ms st.t) C.G)++caps)) (va++(c.args.toList.map a.eval++vb)):=
        ha.append ((RepL.map E _).append hb)
       have⟨hh1,hh2⟩:=Xgf hca;have hca':=XhE H hca;refine(Xkb I (ver:=k0+e.i) hv q hca' hcc Z hA (64*(C.off+e.o.dst.getD 0))).mono ?_;rintro e' w' ⟨v,r,ls,M',β',rfl,hR,I',B,hM,hB⟩;have hbox:∀id∈ids,∃v o,st.s id=some (v,o):=λid hid=>by obtain⟨x,hx⟩:=hh1 id hid;exact⟨x.1,x.2,H _ _ hx⟩
       have⟨e1,e2⟩:=XmX st.s ids fz r ls (k0+e.i) (64*(C.off+e.o.dst.getD 0)) hbox;rw[←e1]at B;rw[←e2]at I';have ea:=Xsq H hh1 hh2 r ls (k0+e.i) (64*(C.off+e.o.dst.getD 0));rw[ea]at B I';exact hK _ _ _ (RelD.put h1 h2 h0 h3 hM hB I' B) (O r ls hR).2
      cases p
     simp_all
    have⟨eargs,R,hro,hA,_,O⟩:=h;unfold callee at p;split at p
    .rename_i x hx;split at p
     .rename_i g first caps L
      simp only[Wp,Wy]at p;obtain⟨rfl,rfl⟩:=p;have z:=E x;rw[L]at z;simp only[Rep]at z;obtain⟨va,vb,z,ha,hb⟩:=z;obtain⟨⟨fn,hf,W,hn⟩,_⟩:=id hA;unfold Oper.wp;rw[JY N hx z hf W hn w];rw[Oper.upon_enter];have q:RepL P M β (first++(c.args.toList.map (ev (Zy e.ms st.t) C.G)++caps)) (va++(c.args.toList.map a.eval++vb)):=
       ha.append ((RepL.map E _).append hb)
      obtain⟨M1,hM1,hm1,q⟩:=hro st.s U M β w _ H I q;refine(XpT I hM1 hm1 q hA (λr ls h=>(O r ls h).1)).mono ?_;rintro e' w' ⟨v,r,ls,rfl,hR,I',B⟩;exact hK _ _ _ (RelD.put (u:=[]) h1 h2 h0 h3 (MLe.refl _) (BLe.refl _) (I'.mono λ_ h=>.inl h) B) (O r ls hR).2
     cases p
    simp_all
   exact h.elim
  unfold kd1 at h;split at h
  .rename_i c d u N;obtain⟨hc,_,hF⟩:=h;have:=XmV I (ver:=k0+e.i) hv {e.o with dst:=Xhr C.off e.o.dst} a.eval (ev (Zy e.ms st.t) C.G) E (λ_=>rfl) (Xsd H N) hc;obtain⟨M',β',w',v,A,I',B,hM,hB⟩:=this;rw[Xht]at A;have S:RelD P C (λx=>U x\/x=k0+e.i) (nx st (XH e.o.dst st.n) d u st.n st.k) (a.put e.o.dst v) w':=RelD.put h1 h2 h0 h3 hM hB I' B;unfold Oper.wp;rcases A with A|⟨A,rfl⟩
   .rw[A];exact hK _ _ _ S hF
   rw[A];exact hK _ _ _ S hF
  exact h.elim
 unfold KU kdE at h;split at h
 .rename_i hg;have hw:Region.wanted e.o (yielded full a.tmps)=true:=by unfold Region.wanted;rw[hg]
  simp_all
 rename_i g want hg;split at h
 .rename_i r T;unfold kdG at h;split at h
  .rename_i b hb;have hval:a.tmps.getD r undef=.bool b:=by have:=V r;rw[hb]at this;simp only[Rep]at this;exact this.1
   have hy:yielded full a.tmps g=some b:=by
    unfold yielded;rw[T];simp only[Oo];by_cases hs:r<a.tmps.size
    .simp_all
    simp_all[hs,undef]
   have hw:Region.wanted e.o (yielded full a.tmps)=(b==want):=by unfold Region.wanted;rw[hg];simp only;rw[hy];rfl
   rw[hw];cases hbw:(b==want)with
   |true=>simp_all
   |false=>rw[hbw]at h;rw[Wj ac];exact J h.2.2
  .rename_i vs hb;have hval:a.tmps.getD r undef=.tuple vs:=by have:=V r;rw[hb]at this;simp only[Rep]at this;exact this.1
   have hy:yielded full a.tmps g=none:=by
    unfold yielded;rw[T];simp only[Oo];by_cases hs:r<a.tmps.size
    .simp_all
    simp_all
   have hw:Region.wanted e.o (yielded full a.tmps)=false:=by unfold Region.wanted;rw[hg];simp only;rw[hy];rfl
   rw[hw,Wj ac];exact J h.2.2
  exact h.elim
 exact h.elim
end
variable {P:Program}
def Xkg(e:En):Bool:=e.o.after.toList.all λd=>!Region.binds .any d||d.on<e.i
def Xqi(f:List En)(e:En):Bool:=e.anc.all λx=>e.o.after.toList.any λd=>Region.binds .any d&&(d.on==x||((f[d.on]?).map (·.anc.contains x)).getD false)
def XrK(f:List En)(j:En):Bool:=f.all λe=>!(e.i<j.i)||j.anc.contains e.i||Xdy e j
def Xjl(e:List En):Bool:=e.all Xkg&&e.all (Xqi e)&&e.all (XrK e)
def JL(m:Nat)(f:List En)(listed:Array Bool):List En:=f.filter λe=>decide (e.i<m)&&!listed.getD e.i true
def Xdz(m:Nat)(f:List En):Bool:=decide (m<=f.length)&&f.all λe=>decide (e.i<m)||(List.range m).all λy=>e.anc.contains y
section
variable {C:Cx}{ops:Array Oper}{k0:Nat}{es:List En}{Q:Exit->AW}{K:St->Prop}
def UD(k0:Nat)(listed:Array Bool):Nat->Prop:=λv=>v<k0\/∃i,listed.getD i false=true/\v=k0+i
def Xnc(g:es.map (·.o)=ops.toList)(q:es.map (·.i)=List.range es.length){j:Nat}{o:Oper}(h:ops[j]? = some o):∃e,e∈es/\es[j]? = some e/\e.i=j/\e.o=o:=by
 have f:(es.map (·.o))[j]? = some o:=by rw[g];simpa using h
 simp at f;obtain⟨e,p,rfl⟩:=f;have r:(es.map (·.i))[j]? = some e.i:=by simp[p]
 grind
def XdA(h:es.map (·.i)=List.range es.length){e:En}(f:e∈es):e.i<es.length/\es[e.i]? = some e:=by
 obtain⟨j,g,rfl⟩:=Wt f;have p:(es.map (·.i))[j]? = some es[j].i:=by simp[g]
 grind
def XlP(e:es.map (·.i)=List.range es.length):es.Pairwise λa b=>a.i<b.i:=by have:=List.pairwise_lt_range (n:=es.length);grind
def XdB(I:es.map (·.i)=List.range es.length)(h:∀e∈es,Xqi es e=true){listed:Array Bool}(q:∀e∈es,listed.getD e.i false=true->∀x∈e.anc,listed.getD x false=true){e:En}(J:e∈es)(p:∀d∈e.o.after,Region.binds .any d=true->listed.getD d.on false=true):∀x∈e.anc,listed.getD x false=true:=by
 intro x L;have r:=h e J;unfold Xqi at r;simp only[W0]at r;have E:=r x L;simp only[Oq,WH,Iq,beq_iff_eq]at E;have⟨d,hd,hb,f⟩:=E;have G:listed.getD d.on false=true:=p d (by simpa using hd) hb;rcases f with rfl|f
 .exact G
 cases g:es[d.on]? with
 |none=>rw[g]at f;simp at f
 |some z=>
  rw[g]at f;have N:=W3 g;have v:z.i=d.on:=by
   have A:d.on<es.length:=by
    rcases Ux d.on es.length with B|B
    .exact B
    rw[WO B]at g;cases g
   have H:(es.map (·.i))[d.on]? = some z.i:=by simp[g]
   rw[I,List.getElem?_range A]at H;simpa using H.symm
  exact q z N (by rw[v];exact G) x (by simpa using f)
def Xsr(ho:es.map (·.o)=ops.toList)(hi:es.map (·.i)=List.range es.length)(hc:Xjl es=true){m r:Nat}(p:Xdz m es=true)(hQ:∀(listed:Array Bool)st a w,listed.size=es.length->(∀x,listed.getD x false=decide (x<m))->RelD P C (λv=>v<k0+m) st a w->K st->wpAny P .any ops Q r listed a w):
 ∀(fuel:Nat) (listed:Array Bool) (a:Act) (w:World) (st:St),(JL m es listed).length=fuel->listed.size=es.length->(∀x,m<=x->listed.getD x false=false)->RelD P C (UD k0 listed) st a w ->
  (∀e∈es,listed.getD e.i false=true->∀x∈e.anc,listed.getD x false=true)->dr P C ops k0 (JL m es listed) st K->wpAny P .any ops Q (r+fuel) listed a w:=by
 unfold Xjl at hc;simp at hc;have⟨⟨hedge,hanc⟩,hpair⟩:=hc;have B:=XlP hi;unfold Xdz at p;simp only[WH,decide_eq_true_eq,W0,Iq,List.mem_range,UN]at p;have⟨hml,p⟩:=p;have getD_flip:∀(listed:Array Bool) (x:Nat),x<listed.size->(listed.getD x true=listed.getD x false):=by intro listed x g;simp[g]
 have es_i:∀j(h:j<es.length),es[j].i=j:=by
  intro j h;have q:(es.map (·.i))[j]? = some es[j].i:=by simp[h]
  rw[hi,List.getElem?_range h]at q;simpa using q.symm
 have done:∀{listed:Array Bool},listed.size=es.length->JL m es listed=[]->∀x,x<m->listed.getD x false=true:=by
  intro listed hs hn x g;cases E:listed.getD x false with
  |true=>rfl
  |false=>have:es[x]'ab∈JL m es listed:=WV.2 ⟨Ww _,by rw[es_i,getD_flip _ _ ab,E];simpa using g⟩;rw[hn]at this;cases this
 intro fuel;induction fuel with
 |zero=>
  intro listed a w st f G W hr hcl hd;have H:JL m es listed=[]:=WG f;rw[H]at hd;have hd1:=done G H;refine hQ listed st a w G (λx=>?_) ?_ hd
  .by_cases h:x<m
   .rw[hd1 x h,We h]
   rw[W x ab,Wg h]
  have⟨z,q,M,β,h0,h3,I⟩:=hr;refine⟨z,q,M,β,h0,h3,I.mono λv E=>?_⟩;rcases E with E|⟨i,Y,rfl⟩
  .exact Oa E (Nat.le_add_right _ _)
  rcases Ux i m with h|h
  .exact Nat.add_lt_add_left h _
  rw[W i h]at Y;cases Y
 |succ fuel ih=>
  intro listed a w st f G W hr hcl hd;refine⟨λH=>?_,λj hj=>?_⟩
  ·
   cases J:JL m es listed with
   |nil=>simp_all
   |cons e l=>
    have L:e∈JL m es listed:=by rw[J];simp
    have⟨he,A⟩:=WV.1 L;simp only[WH,decide_eq_true_eq]at A;have N:(JL m es listed).Pairwise λa b=>a.i<b.i:=B.filter _;rw[J,U7]at N;have⟨hlt,O⟩:=XdA hi he;have hoe:ops[e.i]? = some e.o:=by
     have:(es.map (·.o))[e.i]? = some e.o:=by simp[O]
     rw[ho]at this;simpa using this
    have:e.i∈Region.ready .any ops listed:=by
     refine mem_ready.2 ⟨by simpa using A.2,e.o,hoe,λd hd hb=>?_⟩;have z:=hedge e he;unfold Xkg at z;simp only[W0]at z;have q:=z d (by simpa using hd);simp only[hb,Wh,Iz,decide_eq_true_eq]at q;cases E:listed.getD d.on false with
     |true=>rfl
     |false=>
      have e1:=es_i d.on ab;have S:es[d.on]'ab∈JL m es listed:=by refine WV.2 ⟨Ww _,?_⟩;rw[e1,getD_flip _ _ ab,E];simp;omega
      rw[J]at S;rcases Ig.1 S with h|h
      .rw[h]at e1;omega
      have:=N.1 _ h;omega
    simp_all
  have⟨A,o,hoj,hall⟩:=mem_ready.1 hj;obtain⟨e,he,O,hei,rfl⟩:=Xnc ho hi hoj;have hal:=XdB hi hanc hcl he hall;have hjm:j<m:=by
   rcases Ux j m with h|h
   .exact h
   exfalso;have hno:JL m es listed=[]:=by
    refine List.filter_eq_nil_iff.2 λx g=>?_;have Z:=(XdA hi g).1;by_cases hxm:x.i<m
    .have:=hal x.i ((p e he).resolve_left ab x.i hxm);rw[getD_flip _ _ ab,this];simp
    simp[hxm]
   rw[hno]at f;cases f
  have L:e∈JL m es listed:=WV.2 ⟨he,by rw[hei,A];simpa using hjm⟩;have⟨l1,l2,hsplit⟩:=List.append_of_mem L;have N:(JL m es listed).Pairwise λa b=>a.i<b.i:=B.filter _;rw[hsplit]at N;have⟨hs1,hs2,hs3⟩:=Ol.1 N;rw[U7]at hs2;have T:j<listed.size:=ab;have hap:∀x∈l1,Xdy x e=true:=by
   intro x g;have Z:x∈JL m es listed:=by rw[hsplit];exact WW _ g
   obtain⟨hxe,hxun⟩:=WV.1 Z;have hlt:x.i<e.i:=hs3 x g e ac;have z:=hpair e he;unfold XrK at z;simp only[W0]at z;have q:=z x hxe;simp only[hlt,decide_true,Wh,Iz,Iq]at q;rcases q with q|q
   .have Z:=hal x.i (by simpa using q);have:x.i<listed.size:=by rw[G];exact(XdA hi hxe).1
    rw[getD_flip _ _ this,Z]at hxun;simp at hxun
   exact q
  rw[hsplit]at hd;have hst:=XcC hap hd;have V:JL m es (listed.setIfInBounds j true)=l1++l2:=by
   have z:JL m es (listed.setIfInBounds j true)=(JL m es listed).filter λx=>x.i != j:=by
    unfold JL;rw[List.filter_filter];refine List.filter_congr λx g=>?_;by_cases hxj:x.i=j
    .rw[hxj];simp[T]
    rw[getD_set_ne true (Ne.symm hxj)];simp[hxj]
   rw[z,hsplit,IM,List.filter_cons];have q:(e.i != j)=false:=by simp[hei]
   rw[q];have h3:l1.filter (λx=>x.i != j)=l1:=Ip.2 λx g=>by have:=hs3 x g e ac;simp;omega
   have h4:l2.filter (λx=>x.i != j)=l2:=Ip.2 λx g=>by have:=hs2.1 x g;simp;omega
   rw[h3,h4];simp
  have hnotU:¬UD k0 listed (k0+e.i):=by
   rintro(h|⟨i,Y,h⟩)
   .omega
   have:i=j:=ab;subst this;rw[getD_flip _ _ T,Y]at A;cases A
  have hone:=Xnb (Q:=Q) (K:=wpAny P .any ops Q (r+fuel) (listed.setIfInBounds j true)) hr hnotU hst λst' a' w' hr' hF=>by
   refine ih (listed.setIfInBounds j true) a' w' st' ?_ (by simpa using G) (λx g=>by rw[getD_set_ne false ab];exact W x g) ?_ ?_ (by rw[V];exact hF)
   .rw[V];rw[hsplit]at f;simp at f⊢;omega
   .have⟨z,q,M,β,h0,h3,I⟩:=hr';refine⟨z,q,M,β,h0,h3,I.mono λv E=>?_⟩;rcases E with(E|⟨i,Y,rfl⟩)|rfl
    .exact .inl E
    .exact .inr ⟨i,getD_set_true Y,rfl⟩
    exact .inr ⟨j,by simp[T],by rw[hei]⟩
   intro y hy Y x g;by_cases hyj:y.i=j
   .have hye:y=e:=by have z:=(XdA hi hy).2;rw[hyj,O]at z;simpa using z.symm
    subst hye;exact getD_set_true (hal x g)
   rw[getD_set_ne false (Ne.symm hyj)]at Y;exact getD_set_true (hcl y hy Y x g)
  unfold wpOp;grind
def XhG(P:Program)(C:Cx)(x:Option (FuncId×List D))(dst:Option Nat)(st:St)(K:St->Prop)[Tag (C,dst,st,K)](_:Prf x):Prop:=match (generalizing:=false) x with
 |some (f,args)=>CallX P C f args dst st K trivial
 |none=>False
def Xgg(P:Program)(C:Cx)(x:Option Call)(dst:Option Nat)(st:St)(K:St->Prop)[Tag (C,dst,st,K)](_:Prf x):Prop:=match (generalizing:=false) x with
 |some c=>XhG P C (callee (ev st.t C.G) c) dst st K trivial
 |none=>False
def Xqj{st:St}{a:Act}{w:World}{o:Oper}{F:St->Prop}{K:AW}(N:Rel P C st a w)(h:Xgg P C (ZP o.op) o.dst st F trivial)(hK:∀st a w,Rel P C st a w->F st->K a w):o.wp P a w K Q:=by
 have⟨O,S,M,β,H,J,I⟩:=N;have z:=XbZ I J;unfold Xgg at h;split at h
 .rename_i c L;have B:o.op=.call c:=by
   unfold ZP at L;split at L
   .grind
   grind
  unfold XhG at h;split at h
  .rename_i f args p;have⟨⟨fn,T,E,V⟩,W⟩:=h;unfold callee at p;split at p
   .rename_i x Y;split at p
    .rename_i g first caps A
     obtain⟨rfl,rfl⟩:=p;have q:=z x;rw[A]at q;have⟨Z,vb,q,ha,hb⟩:=q;unfold Oper.wp;rw[JY B Y q T E V w];have r:RepL P M β (first++(c.args.toList.map (ev st.t C.G)++caps)) (Z++(c.args.toList.map a.eval++vb)):=
      ha.append ((RepL.map z _).append hb)
     refine(W M β w _ H I r).mono ?_;rintro e w' ⟨v,d,s',k',M',β',rfl,I',hv,hM,hB,hk⟩;exact hK _ _ _ (OG O S H J hM hB I' hv) hk
    cases p
   simp_all
  exact h.elim
 exact h.elim
def Xkh(f:es.map (·.i)=List.range es.length):Xdz es.length es=true:=by unfold Xdz;simp only[WH,decide_eq_true_eq,W0,Iq];exact⟨Uh _,λe g=>.inl (XdA f g).1⟩
def Xfh{l:List Oper}{listed:Array Bool}(v:listed.size=l.length)(h:∀x,listed.getD x false=decide (x<l.length)):Region.ready .any ⟨l⟩ listed=[]:=by
 refine List.eq_nil_iff_forall_not_mem.2 λj q=>?_;have⟨e,o,f,_⟩:=mem_ready.1 q;have r:j<l.length:=by
  rcases Ux j l.length with g|g
  .exact g
  simp[g]at f
 have:=h j;have p:j<listed.size:=ab;simp[p,r]at this e;rw[this]at e;cases e
def DrawnG.of{R:St->Prop}{id:Nat}{k:List It}{st:St}{l:List Oper}(N:P.follows .mixedOrders=true)(es:List En)(n:Nat)(J:es.map (·.o)=l)(B:es.map (·.i)=List.range es.length)(O:Xjl es=true)(h:dr P C ⟨l⟩ st.k es st λf=>run P C R n k ⟨f.t,f.s,f.n,st.k+es.length⟩)(t:Prf (⟨l⟩:Array Oper))(hrd:C.rd=none:=by rfl):DrawnG P C R id ⟨l⟩ k st t:=by
 intro a w S;rw[show fz C.rd=Fence.wide by rw[hrd];rfl];refine wpIn_wide.2 (wp_region_any N ?_);have g:es.length=l.length:=by rw[←J];simp
 have hrd:RelD P C (UD st.k (Array.replicate (⟨l⟩:Array Oper).size false)) st a {w with drawn:=w.drawn+1}:=by refine RelD.drew ?_ _;obtain⟨E,G,M,β,q,H,I⟩:=S;exact⟨E,G,M,β,q,H,I.mono λv T=>.inl T⟩
 have q:∀x,(Array.replicate (⟨l⟩:Array Oper).size false).getD x false=false:=λx=>by simp only[Array.getD_eq_getD_getElem?,Array.getElem?_replicate];split<;>rfl
 have p:JL es.length es (Array.replicate (⟨l⟩:Array Oper).size false)=es:=by unfold JL;refine Ip.2 λe L=>?_;have:=(XdA B L).1;simp[g▸this,this]
 have:=Xsr (r:=0) (Q:=Jy (Zv P C R) (sem P C (Zv P C R) k)) (es:=es) (k0:=st.k) J B O (Xkh B) ?_ _ _ a _ st (by rw[p]) (by simp[g]) (λx _=>q x) hrd (λe L A=>by rw[q]at A;cases A) (by rw[p];exact h)
 .rw[UE,g]at this;exact this
 rintro listed f V w' W A ⟨E,G,M,β,q,H,I⟩ hK;exact⟨Xfh ab (g▸A),Yh n k (st:=⟨f.t,f.s,f.n,st.k+es.length⟩) ⟨E,G,M,β,q,H,I⟩ hK⟩
def XlQ{m:Nat}{q:En->Bool}(e:∀x∈es.take m,q x=true)(f:∀x∈es.drop m,q x=false):es.filter q=es.take m:=by
 have:es.filter q=(es.take m++es.drop m).filter q:=by rw[If]
 rw[this,IM,Ip.2 e,List.filter_eq_nil_iff.2 (λx g=>by simp[f x g]),Ih]
def XlR{m:Nat}{q:En->Bool}(e:∀x∈es.take m,q x=false)(f:∀x∈es.drop m,q x=true):es.filter q=es.drop m:=by
 have:es.filter q=(es.take m++es.drop m).filter q:=by rw[If]
 rw[this,IM,Ip.2 f,List.filter_eq_nil_iff.2 (λx g=>by simp[e x g]),W8]
def Xqk(es:List En):Bool:=es.all λe=>e.anc.all λx=>decide (x<e.i)
def OY{R:St->Prop}{id:Nat}{k:List It}{st:St}{l:List Oper}(hm:P.follows .mixedOrders=true)(es:List En)(n m:Nat)(o:Oper)(ho:es.map (·.o)=l)(T:es.map (·.i)=List.range es.length)(A:(Xjl es&&(Xqk es&&(Xdz m es&&Xdz (m+1) es)))=true)(J:l[m]? = some o)(hgd:o.guard=none)(h:dr P C ⟨l⟩ st.k (es.take m) st λf=>Xgg P C (ZP o.op) o.dst ⟨f.t,f.s,f.n,st.k+m⟩ (λp=>dr P C ⟨l⟩ p.k (es.drop (m+1)) p λf=>run P C R n k ⟨f.t,f.s,f.n,p.k+es.length⟩) trivial)(t:Prf (⟨l⟩:Array Oper))(hrd:C.rd=none:=by rfl):DrawnG P C R id ⟨l⟩ k st t:=by
 intro a w hr;rw[show fz C.rd=Fence.wide by rw[hrd];rfl];refine wpIn_wide.2 (wp_region_any hm ?_);simp only[WH]at A;obtain⟨A,B,hc1,V⟩:=A;have z:es.length=l.length:=by rw[←ho];simp
 have hml:m<l.length:=by
  rcases Ux m l.length with h'|h'
  .exact h'
  simp[h']at J
 have hrd:RelD P C (UD st.k (Array.replicate (⟨l⟩:Array Oper).size false)) st a {w with drawn:=w.drawn+1}:=by refine RelD.drew ?_ _;obtain⟨W,L,M,β,h0,h3,I⟩:=hr;exact⟨W,L,M,β,h0,h3,I.mono λv hv=>.inl hv⟩
 have h0:∀x,(Array.replicate (⟨l⟩:Array Oper).size false).getD x false=false:=λx=>by simp only[Array.getD_eq_getD_getElem?,Array.getElem?_replicate];split<;>rfl
 have es_i:∀j(h:j<es.length),es[j].i=j:=by
  intro j h;have L:(es.map (·.i))[j]? = some es[j].i:=by simp[h]
  rw[T,List.getElem?_range h]at L;simpa using L.symm
 have tk:∀{j},∀x∈es.take j,x.i<j/\x.i<es.length:=λ{j} x g=>by obtain⟨i,hi',rfl⟩:=List.mem_take_iff_getElem.1 g;rw[es_i];omega
 have dp:∀{j},∀x∈es.drop j,j<=x.i/\x.i<es.length:=λ{j} x g=>by obtain⟨i,hi',rfl⟩:=List.mem_drop_iff_getElem.1 g;rw[es_i];omega
 have N:JL m es (Array.replicate (⟨l⟩:Array Oper).size false)=es.take m:=
  XlQ (λx g=>by have:=tk x g;simp[this,←z]) (λx g=>by have:=dp x g;simp;intro h;omega)
 have O:∀e∈es,Xqi es e=true/\Xkg e=true:=by have A:=A;unfold Xjl at A;simp at A;exactλe E=>⟨A.1.2 e E,A.1.1 e E⟩
 have getD_flip:∀(listed:Array Bool) (x:Nat),x<listed.size->(listed.getD x true=listed.getD x false):=by intro listed x g;simp[g]
 have S:∀{listed:Array Bool} {j:Nat},(∀x,listed.getD x false=decide (x<j))->∀e∈es,listed.getD e.i false=true->∀x∈e.anc,listed.getD x false=true:=λ{listed j} hd e E h x g=>by unfold Xqk at B;simp only[W0,decide_eq_true_eq]at B;rw[hd,decide_eq_true_eq]at h⊢;have:=B e E x g;omega
 have hA:=Xsr (r:=l.length-m) (Q:=Jy (Zv P C R) (sem P C (Zv P C R) k)) (es:=es) (ops:=⟨l⟩) (k0:=st.k) ho T A hc1 ?_ _ _ a _ st (by rw[N]) (by simp[z]) (λx _=>h0 x) hrd (λe E J=>by rw[h0]at J;cases J) (by rw[N];exact h)
 .rw[Wu,Of ab,Nat.sub_add_cancel ab]at hA;exact hA
 rintro listed f a' w' hs hd ⟨g1,g2,M,β,g0,g3,I⟩ hK;obtain⟨r',hr'⟩:∃r',l.length-m=r'+1:=⟨l.length-m-1,ab⟩
 rw[hr'];have hem:=es_i m ab;have hun:listed.getD m true=false:=by have:=hd m;have G:m<listed.size:=ab;simp[G]at this⊢;exact this
 have hoe:es[m]'ab∈es:=Ww _;have hgo:(es[m]'ab).o=o:=by
  have:(es.map (·.o))[m]? = some (es[m]'ab).o:=by simp[z,hml]
  rw[ho,J]at this;exact(Wz this).symm
 have hrm:m∈Region.ready .any ⟨l⟩ listed:=by refine mem_ready.2 ⟨hun,o,by simpa using J,λd hdd hb=>?_⟩;have W:=(O _ hoe).2;unfold Xkg at W;simp only[W0,hgo]at W;have L:=W d (by simpa using hdd);simp only[hb,Wh,Iz,decide_eq_true_eq,hem]at L;rw[hd,We L]
 refine⟨λhn=>(by rw[hn]at hrm;cases hrm),λj hj=>?_⟩;have⟨hju,oj,hoj,Y⟩:=mem_ready.1 hj;obtain⟨e,E,hget,hei,rfl⟩:=Xnc (ops:=⟨l⟩) ho T hoj;have hjl:=(XdA T E).1;have hjm:j=m:=by
  have hd':listed.getD j false=false:=by have G:j<listed.size:=ab;simp[G]at hju⊢;exact hju
  rw[hd,IB]at hd';rcases Ux m j with h'|h'
  .exfalso;unfold Xdz at V;simp only[WH,decide_eq_true_eq,W0,Iq,List.mem_range,UN]at V;have:=XdB T (λe E=>(O e E).1) (S hd) E Y m ((V.2 e E).resolve_left ab m ab);rw[hd]at this;simp at this
  omega
 subst hjm;unfold wpOp;have e2:(⟨l⟩:Array Oper)[j]? = some o:=by simpa using J
 rw[e2];have hw:Region.wanted o (yielded (⟨l⟩:Array Oper) a'.tmps)=true:=by unfold Region.wanted;rw[hgd]
 simp only[hw,if_true];refine .inl (Xqj (st:=⟨f.t,f.s,f.n,st.k+j⟩) ⟨g1,g2,M,β,g0,g3,I⟩ hK λp a2 w2 ⟨f1,f2,M2,β2,f0,f3,I2⟩ hF=>?_);have Z:∀x,(listed.setIfInBounds j true).getD x false=decide (x<j+1):=λx=>by
  by_cases g:x=j
  .subst g;rw[We ab];have G:x<listed.size:=ab;simp[G]
  rw[getD_set_ne false (Ne.symm g),hd];congr 1;exact propext ⟨λh=>ab,λh=>ab⟩
 have H:JL es.length es (listed.setIfInBounds j true)=es.drop (j+1):=by
  have q:∀x:Nat,x<es.length->(listed.setIfInBounds j true).getD x true=decide (x<j+1):=λx g=>by rw[←Z];exact getD_flip _ _ ai
  exact XlR (λx g=>by have:=tk x g;rw[q _ this.2];simp;omega) (λx g=>by have:=dp x g;rw[q _ this.2];simp;omega)
 have hB:=Xsr (r:=0) (Q:=Jy (Zv P C R) (sem P C (Zv P C R) k)) (es:=es) (ops:=⟨l⟩) (k0:=p.k) ho T A (Xkh T) ?_ _ (listed.setIfInBounds j true) a2 w2 p (by rw[H]) (by simpa using hs) (λx g=>by rw[Z,Wg];omega) ⟨f1,f2,M2,β2,f0,f3,I2.mono λv hv=>.inl hv⟩ (S Z) (by rw[H];exact hF)
 .rw[WC,show 0+(es.length-(j+1))=r' by omega]at hB;exact hB
 rintro listed f a' w' hs J ⟨W,L,M,β,h0,h3,I⟩ hK;exact⟨Xfh ab (z▸J),Yh n k (st:=⟨f.t,f.s,f.n,p.k+es.length⟩) ⟨W,L,M,β,h0,h3,I⟩ hK⟩
end
variable {P:Program}
def XtM:Nat->List Oper->List (List Nat×List Nat×List Nat×List Nat)->List En
 |i,o::l,(a,w,m,k)::x=>⟨i,o,a,w,m,k⟩::XtM (i+1) l x
 |_,_,_=>[]
def CallD(P:Program)(G:Nat->Option (List D))(f:FuncId)(args:List D)(obs:List Ob)(K:D->List Ob->Prop)[Tag (G,K)](_:Prf args):Prop:=
 ∃eargs R,Z3 args eargs/\YV P G f eargs obs R/\(∃r ls,R r ls)/\∀r ls,R r ls->K r ls
def doT(P:Program)(C:Cx)(e:En)(ver:Nat)(s:Heap)(x:Option Kd)(st:St)(F:St->Prop)[Tag (C,e,s,st,F)](_:Prf x):Prop:=
 doK P C e ver s x λd u=>F (nx st (XH e.o.dst st.n) d u st.n st.k)
def XrL(P:Program)(C:Cx)(s:Heap)(f:FuncId)(args:List D)(K:D->Prop)[Tag (C,s,K)](_:Prf args):Prop:=
 ∃eargs R,RoA P C s args eargs/\YV P C.G f eargs [] R/\(∃r ls,R r ls)/\∀r ls,R r ls->scal r=true/\K r
section
variable {C:Cx}{full:Array Oper}{k0:Nat}{st:St}{K F:St->Prop}{e:En}{es:List En}{ver:Nat}{s:Heap}
def Xss:dr P C full k0 [] st K=K st:=propext Iff.rfl
def Xql:dr P C full k0 (e::es) st K=doT P C e (k0+e.i) (YX e.mi st.s) (kdE P C full (k0+e.i) e.o (Zy e.ms st.t) (YX e.mi st.s)) st (λst=>dr P C full k0 es st K) trivial:=propext Iff.rfl
def Xqm{c:Prop}{d:D}{u:Up}{f:Prf (some (Kd.det c d u))}:doT P C e ver s (some (.det c d u)) st F f=(c/\KT u e.ws/\Xhs (XH e.o.dst st.n) st.n st.k (λdst n k=>F (nx st dst d u n k)) trivial):=propext Iff.rfl
def Xnd{c:Prop}{f:FuncId}{as:List D}{ids:List Nat}{obs:List Ob}{fz:List Nat}{g:Prf (some (Kd.call c f as ids obs fz))}:doT P C e ver s (some (.call c f as ids obs fz)) st F g=(c/\CallD P C.G f as obs (λr ls=>
 Xse (aft s ids fz r ls ver (64*(C.off+e.o.dst.getD 0))) (XH e.o.dst st.n) st.n st.k (λdst d u n k=>KT u e.ws/\F (nx st dst d u n k)) trivial) trivial):=propext Iff.rfl
def Xst{f:FuncId}{args:List D}{g:Prf (some (Kd.ro f args))}:doT P C e ver s (some (.ro f args)) st F g=XrL P C s f args (λr=>Xhs (XH e.o.dst st.n) st.n st.k (λdst n k=>F (nx st dst r [] n k)) trivial) trivial:=propext Iff.rfl
def Xsu{r:Nat}{x:Option Kd}:kdG (.v (.bool true)) r true x=x:=rfl
def Xsv{r:Nat}{x:Option Kd}:kdG (.v (.bool false)) r false x=x:=rfl
def Xsw{r:Nat}{x:Option Kd}:kdG (.v (.bool true)) r false x=some (.det True (.v undef) []):=rfl
def Xsx{r:Nat}{x:Option Kd}:kdG (.v (.bool false)) r true x=some (.det True (.v undef) []):=rfl
def XtN{r:Nat}{want:Bool}{x:Option Kd}{f:Array Value}:kdG (.v (.tuple f)) r want x=some (.det True (.v undef) []):=rfl
def Xne{dst:Option Nat}{op:Op}{ty:Nat}{pos:String}{af:Array Edge}{t:Nat->D}:kdE P C full ver ⟨dst,op,ty,pos,af,none⟩ t s=kdO P C ver ⟨dst,op,ty,pos,af,none⟩ t s:=rfl
def kdF(r:Option Nat)(t:Nat->D)(want:Bool)(x:Option Kd):Option Kd:=match r with
 |some r=>kdG (t r) r want x
 |none=>none
def Xnf{r:Nat}{t:Nat->D}{want:Bool}{x:Option Kd}:kdF (some r) t want x=kdG (t r) r want x:=rfl
def Xng{dst:Option Nat}{op:Op}{ty:Nat}{pos:String}{af:Array Edge}{t:Nat->D}{g:Nat}{want:Bool}:kdE P C full ver ⟨dst,op,ty,pos,af,some (g,want)⟩ t s=kdF ((full[g]?).bind (·.dst)) t want (kdO P C ver ⟨dst,op,ty,pos,af,some (g,want)⟩ t s):=by rfl
def kdI(P:Program)(C:Cx)(x:Option Call)(ver:Nat)(o:Oper)(t:Nat->D)(s:Heap):Option Kd:=match x with
 |some c=>kd3 C.G s (callee (ev t C.G) c)
 |none=>kd1 (opF P (Xhr C.off o.dst) ver (ev t C.G) s o.op)
def Xsy{o:Oper}{t:Nat->D}:kdO P C ver o t s=kdI P C (ZP o.op) ver o t s:=by rfl
def Xnh{o:Oper}{t:Nat->D}:kdI P C none ver o t s=kd1 (opF P (Xhr C.off o.dst) ver (ev t C.G) s o.op):=rfl
def Xni{o:Oper}{t:Nat->D}{c:Call}:kdI P C (some c) ver o t s=kd3 C.G s (callee (ev t C.G) c):=rfl
def Xnj{c:Prop}{d:D}{u:Up}:kd1 (some (c,d,u))=some (.det c d u):=rfl
def Xnk{f:Nat}{args:List D}{g:Prop}{as:List D}{ids:List Nat}{obs:List Ob}{fz:List Nat}:kd2 f args (some (g,as,ids,obs,fz))=some (.call g f as ids obs fz):=rfl
def Xnl{f:Nat}{args:List D}:kd2 f args none=some (.ro f args):=rfl
def Xnm{G:Nat->Option (List D)}{f:Nat}{args:List D}:kd3 G s (some (f,args))=kd2 f args (Xge G f (Zh s args)):=rfl
def Xsz{G:Nat->Option (List D)}{f:Nat}{α:Type}{x:Option α}(h:G (roK f)=none):Xge G f x=x:=by unfold Xge;simp_all
def XsA{G:Nat->Option (List D)}{f:Nat}{α:Type}{x:Option α}{y:List D}(h:G (roK f)=some y):Xge G f x=none:=by unfold Xge;simp_all
def XlS{ws:List Nat}:KT [] ws=True:=by simp[KT]
def Xjm{i v:Nat}{o:Ob}{u:Up}{ws:List Nat}:KT ((i,v,o)::u) ws=(i∈ws/\KT u ws):=by simp[KT]
def Xnn{ms:List Nat}{t:Nat->D}{x:Nat}:Zy ms t x=if ms.contains x then .any else t x:=rfl
def Xno{ms:List Nat}{x:Nat}:YX ms s x=if ms.contains x then none else s x:=rfl
def Y1{b:Bool}{r:Nat}{x:Option Kd}(f:st.t r=.v (.bool b))(g:b=true->doT P C e ver s x (XaV st r (.v (.bool true))) F trivial)(h:b=false->doT P C e ver s (some (.det True (.v undef) [])) (XaV st r (.v (.bool false))) F trivial)(t':Prf (kdG (.v (.bool b)) r true x)):doT P C e ver s (kdG (.v (.bool b)) r true x) st F t':=by
 cases b
 .have:=h rfl;rw[Zo f]at this;exact this
 have:=g rfl;rw[Zo f]at this;exact this
def Y2{b:Bool}{r:Nat}{x:Option Kd}(f:st.t r=.v (.bool b))(g:b=true->doT P C e ver s (some (.det True (.v undef) [])) (XaV st r (.v (.bool true))) F trivial)(h:b=false->doT P C e ver s x (XaV st r (.v (.bool false))) F trivial)(t':Prf (kdG (.v (.bool b)) r false x)):doT P C e ver s (kdG (.v (.bool b)) r false x) st F t':=by
 cases b
 .have:=h rfl;rw[Zo f]at this;exact this
 have:=g rfl;rw[Zo f]at this;exact this
def CallD.of{G:Nat->Option (List D)}{f:FuncId}{args eargs:List D}{obs:List Ob}{R K:D->List Ob->Prop}(h:YV P G f eargs obs R)(p:Z3 args eargs)(g:∃r ls,R r ls)(hK:∀r ls,R r ls->K r ls)(t':Prf args):CallD P G f args obs K t':=
 ⟨eargs,R,p,h,g,hK⟩
def XlT{c:Call}{dst:Option Nat}{f:Prf (some c)}:Xgg P C (some c) dst st K f=XhG P C (callee (ev st.t C.G) c) dst st K trivial:=propext Iff.rfl
def Xjn{f:Nat}{args:List D}{dst:Option Nat}{g:Prf (some (f,args))}:XhG P C (some (f,args)) dst st K g=CallX P C f args dst st K trivial:=propext Iff.rfl
end
def Xqn{ls:List Ob}:Jk ls 1000000=(ls[0]?).map (λo=>(0,o)):=Jn (j:=0)
def Xqo{ls:List Ob}:Jk ls 1000001=(ls[1]?).map (λo=>(0,o)):=Jn (j:=1)
def Xqp{ls:List Ob}:Jk ls 1000002=(ls[2]?).map (λo=>(0,o)):=Jn (j:=2)
def Xqq{ls:List Ob}:Jk ls 1000003=(ls[3]?).map (λo=>(0,o)):=Jn (j:=3)
def Xqr{ls:List Ob}:Jk ls 1000004=(ls[4]?).map (λo=>(0,o)):=Jn (j:=4)
def Xqs{ls:List Ob}:Jk ls 1000005=(ls[5]?).map (λo=>(0,o)):=Jn (j:=5)
attribute [go_sem] LB Xqn Xqo Xqp Xqq Xqr Xqs
attribute [go_sem ↓] Xss Xql Xne Xng Xsy
attribute [go_sem] XlT Xjn Xqm Xnd Xst Xnl Xsu Xsv Xsw Xsx XtN Xnf Xnh Xni Xnj Xnk Xnm XlS Xjm Xnn Xno XtM List.contains_cons List.contains_nil Bool.or_false Bool.or_true Iz Bool.true_or
variable {P:Program}
def Xki:Operand->Option Nat
 |.tmp x=>some x
 |_=>none
def rdO(full:Array Oper)(o:Oper):List Nat:=o.op.operands.toList.filterMap Xki++match o.guard with
 |some (g,_)=>((full[g]?).bind (·.dst)).toList
 |none=>[]
def mkS:Nat->List Oper->List (Nat×List Nat×List Nat)->List En
 |_,[],_=>[]
 |i,o::l,[]=>⟨i,o,[],[],[],[]⟩::mkS (i+1) l []
 |i,o::l,(j,w,k)::x=>if i=j then⟨i,o,[],w,[],k⟩::mkS (i+1) l x else⟨i,o,[],[],[],[]⟩::mkS (i+1) l ((j,w,k)::x)
def bits(n m:Nat):List Nat:=(List.range n).filter λi=>m / 2 ^ i % 2==1
def Xba:List Oper->List Nat->List Nat
 |[],acc=>acc
 |o::l,acc=>Xba l (acc++[o.after.toList.foldl (λm d=>bif Region.binds .any d then m |||2 ^ d.on |||acc.getD d.on 0 else m) 0])
def unO(A:List Nat)(i j:Nat):Bool:=i != j&&(A.getD i 0 / 2 ^ j % 2==0&&A.getD j 0 / 2 ^ i % 2==0)
def mkF(l:List Oper)(A:List Nat)(aux:List (Nat×List Nat×List Nat)):List En:=(mkS 0 l aux).map λe=>{e with anc:=bits l.length (A.getD e.i 0),ms:=(List.range l.length).filterMap λj=>bif unO A e.i j then(l[j]?).bind (·.dst)else none}
def rdB(full:Array Oper)(e:En):Bool:=(rdO full e.o).all λx=>!e.ms.contains x
def Xgh(l:List Oper)(A:List Nat)(aux:List (Nat×List Nat×List Nat)):Bool:=Xjl (mkF l A aux)&&(mkF l A aux).all (rdB ⟨l⟩)
def Xkj:∀{l:List Oper} {i:Nat} {aux:List (Nat×List Nat×List Nat)},(mkS i l aux).map (·.o)=l
 |[],_,_=>by simp[mkS]
 |o::l,i,[]=>by simp[mkS,Xkj (l:=l)]
 |o::l,i,(j,w,k)::x=>by unfold mkS;split<;>simp[Xkj (l:=l)]
def Xnp:∀{l:List Oper} {i:Nat} {aux:List (Nat×List Nat×List Nat)},(mkS i l aux).map (·.i)=List.range' i l.length
 |[],_,_=>by simp[mkS]
 |o::l,i,[]=>by simp[mkS,Xnp (l:=l),List.range'_succ]
 |o::l,i,(j,w,k)::x=>by unfold mkS;split<;>simp[Xnp (l:=l),List.range'_succ]
def Xqt{l:List Oper}{i:Nat}{aux:List (Nat×List Nat×List Nat)}:(mkS i l aux).length=l.length:=by have:=congrArg List.length (Xkj (l:=l) (i:=i) (aux:=aux));simpa using this
def Xjo:∀{l:List Oper} {i:Nat} {aux:List (Nat×List Nat×List Nat)},∀e∈mkS i l aux,e.anc=[]/\e.ms=[]
 |[],_,_=>by simp[mkS]
 |o::l,i,[]=>by simpa [mkS]using Xjo (l:=l)
 |o::l,i,(j,w,k)::x=>by unfold mkS;split<;>simpa using Xjo (l:=l)
def XsB{C:Cx}{t f:Nat->D}{x:Operand}(h:∀y,Xki x=some y->t y=f y):ev t C.G x=ev f C.G x:=by cases x<;>simp_all[ev,Xki]
def Xqu{dst:Option Nat}{ver:Nat}{s:Heap}{t t':Operand->D}{op:Op}(h:∀x∈op.operands,t x=t' x):opF P dst ver t s op=opF P dst ver t' s op:=by
 have v:∀ps:Array (Nat×Operand),(∀x∈ps.toList.map (·.2),t x=t' x)->ps.toList.map (λp=>(p.1,t p.2))=ps.toList.map (λp=>(p.1,t' p.2)):=λps h=>U1 λp hp=>by rw[h p.2 (WI.2 ⟨p,hp,rfl⟩)]
 have q:∀r:Option Operand,(∀x,r=some x->t x=t' x)->ivO t r=ivO t' r:=λr h=>by cases r<;>simp_all[ivO]
 cases op with
 |build T ps=>simp only[opF,v ps (by simpa [Op.operands]using h)]
 |buildSlice T n ps=>simp only[opF,v ps (by simpa [Op.operands]using h)]
 |makeMap T r=>simp only[opF,q r (by simpa [Op.operands]using h)]
 |slice T x l z m=>simp only[Op.operands,Array.mem_append,Array.mem_singleton,Option.mem_toArray]at h;simp only[opF,q l (λx g=>h x (.inl (.inl (.inr g)))),q z (λx g=>h x (.inl (.inr g))),q m (λx g=>h x (.inr g)),h x (.inl (.inl (.inl rfl)))]
 |call c=>
  have⟨f,⟨args⟩,types⟩:=c;cases f with
  |value f=>rfl
  |invoke r m=>rfl
  |builtin b=>have A:args.map t=args.map t':=U1 λx g=>h x (by simpa [Op.operands,Call.operands]using g);cases b<;>first|rfl|simp only[opF,A]
 |_=>simp_all[opF,Op.operands]
section
variable {C:Cx}{full:Array Oper}{k0:Nat}{st:St}{K F:St->Prop}{t t':Nat->D}{s:Heap}{ver:Nat}{o:Oper}
def Xqv(h:∀x∈o.op.operands.toList.filterMap Xki,t x=t' x):kdO P C ver o t s=kdO P C ver o t' s:=by
 have g:∀x∈o.op.operands,ev t C.G x=ev t' C.G x:=λx q=>XsB λy v=>h y (List.mem_filterMap.2 ⟨x,by simpa using q,v⟩);unfold kdO;cases p:ZP o.op with
 |none=>simp only[Xqu g]
 |some c=>
  have e:o.op=.call c/\∃f,c.callee=.value f:=by
   unfold ZP at p;split at p
   .split at p
    .rename_i z _ _ A;simp at p;subst p;exact⟨z,_,A⟩
    cases p
   cases p
  obtain⟨e,f,r⟩:=e;rw[e]at g;simp only[Op.operands,Call.operands,r]at g;have B:c.args.toList.map (ev t C.G)=c.args.toList.map (ev t' C.G):=U1 λx q=>g x (by simp at q⊢;exact .inr q);have E:=g f ac;simp only[callee,r,E,B]
def Xqw(h:∀x∈rdO full o,t x=t' x):kdE P C full ver o t s=kdE P C full ver o t' s:=by
 have f:kdO P C ver o t s=kdO P C ver o t' s:=Xqv λx p=>h x (WW _ p);unfold kdE;rw[f];split
 .rfl
 rename_i g want q;split
 .rename_i r v;rw[h r (Ui _ (by rw[q];simp[v]))]
 rfl
def Xjp{e:En}{anc ms:List Nat}(g:e.ms=[])(f:rdB full {e with anc:=anc,ms:=ms}=true)(h:KU P C full k0 e st F):KU P C full k0 {e with anc:=anc,ms:=ms} st F:=by
 unfold KU at h⊢;have:kdE P C full (k0+e.i) e.o (Zy ms st.t) (YX e.mi st.s)=kdE P C full (k0+e.i) e.o (Zy e.ms st.t) (YX e.mi st.s):=Xqw λx p=>by unfold rdB at f;simp only[W0,Ic]at f;have:=f x p;unfold Zy;rw[g,this];simp
 show doK P C _ (k0+e.i) (YX e.mi st.s) (kdE P C full (k0+e.i) e.o (Zy ms st.t) (YX e.mi st.s)) _;rw[this];revert h;generalize kdE P C full (k0+e.i) e.o (Zy e.ms st.t) (YX e.mi st.s)=x;intro h;cases x with
 |none=>exact h
 |some x=>cases x<;>exact h
def XcW{f g:En->List Nat}:∀{es:List En} {st:St},(∀e∈es,e.ms=[]/\rdB full {e with anc:=f e,ms:=g e}=true)->dr P C full k0 es st K->dr P C full k0 (es.map λe=>{e with anc:=f e,ms:=g e}) st K
 |[],st,_,h=>h
 |e::es,st,p,h=>Xjp (p e ac).1 (p e ac).2 (Xa9 (λst h=>XcW (λe h=>p e (WQ _ h)) h) h)
def Xkk{K':St->Prop}(hK:∀st,K st->K' st):∀{es:List En} {st:St},dr P C full k0 es st K->dr P C full k0 es st K'
 |[],st,h=>hK _ h
 |e::es,st,h=>Xa9 (λst h=>Xkk hK h) h
def XlU{x:Option Call}{dst:Option Nat}{K':St->Prop}(hK:∀st,K st->K' st)(h:Xgg P C x dst st K trivial):Xgg P C x dst st K' trivial:=by
 cases x with
 |none=>exact h
 |some c=>
  unfold Xgg XhG at h⊢;simp only at h⊢;revert h;generalize callee (ev st.t C.G) c=x;intro h;cases x with
  |none=>exact h
  |some x=>exact⟨h.1,λM β w f g I p=>(h.2 M β w f g I p).mono λe w' ⟨v,d,s',q,M',β',r,z,A,B,E,H⟩=>⟨v,d,s',q,M',β',r,z,A,B,E,hK _ H⟩⟩
variable {R:St->Prop}{id:Nat}{k:List It}{l:List Oper}{aux:List (Nat×List Nat×List Nat)}
def Xkl{A:List Nat}(f:Xgh l A aux=true):Xjl (mkF l A aux)=true/\(mkF l A aux).map (·.o)=l/\(mkF l A aux).map (·.i)=List.range (mkF l A aux).length/\(mkF l A aux).length=l.length/\∀e∈mkS 0 l aux,e.ms=[]/\rdB ⟨l⟩ {e with anc:=bits l.length (A.getD e.i 0),ms:=(List.range l.length).filterMap λj=>bif unO A e.i j then(l[j]?).bind (·.dst)else none}=true:=by
 unfold Xgh at f;rw[WH,W0]at f;have g:(mkF l A aux).length=l.length:=by unfold mkF;rw[Uf,Xqt]
 refine⟨f.1,?_,?_,g,λe h=>⟨(Xjo e h).2,f.2 _ (WI.2 ⟨e,h,rfl⟩)⟩⟩
 .unfold mkF;rw[Iy];exact Xkj
 rw[g,List.range_eq_range'];unfold mkF;rw[Iy];exact Xnp
def DrawnG.auto(n:Nat)(g:P.follows .mixedOrders=true)(p:Xgh l (Xba l []) aux=true)(h:dr P C ⟨l⟩ st.k (mkS 0 l aux) st λf=>run P C R n k ⟨f.t,f.s,f.n,st.k+l.length⟩)(t:Prf (⟨l⟩:Array Oper))(hrd:C.rd=none:=by rfl):DrawnG P C R id ⟨l⟩ k st t:=by have⟨q,r,v,z,A⟩:=Xkl p;exact DrawnG.of g _ n r v q (by rw[z];exact XcW A h) t hrd
def OU(n m:Nat)(o:Oper)(A:P.follows .mixedOrders=true)(p:(Xgh l (Xba l []) aux&&(Xqk (mkF l (Xba l []) aux)&&(Xdz m (mkF l (Xba l []) aux)&&Xdz (m+1) (mkF l (Xba l []) aux))))=true)(B:l[m]? = some o)(q:o.guard=none)(h:dr P C ⟨l⟩ st.k ((mkS 0 l aux).take m) st λf=>Xgg P C (ZP o.op) o.dst ⟨f.t,f.s,f.n,st.k+m⟩ (λg=>dr P C ⟨l⟩ g.k ((mkS 0 l aux).drop (m+1)) g λf=>run P C R n k ⟨f.t,f.s,f.n,g.k+l.length⟩) trivial)(t:Prf (⟨l⟩:Array Oper))(hrd:C.rd=none:=by rfl):DrawnG P C R id ⟨l⟩ k st t:=by rw[WH]at p;have⟨E,G,H,v,z⟩:=Xkl p.1;refine OY A (mkF l (Xba l []) aux) n m o G H (by rw[E,p.2];rfl) B q ?_ t hrd;unfold mkF at v⊢;rw[v,←List.map_take];refine XcW (λe r=>z e (WR r)) (Xkk (λf h=>?_) h);refine XlU (λg h=>?_) h;rw[←List.map_drop];exact XcW (λe r=>z e (WS r)) h
end
attribute [go_sem] mkS
attribute [go_sem ↓] XpX XmZ XpY Xm0 Xsf Xm1 XpZ Xm2 XlE Xm3 XlF XlG Xp0 Xm4 Xje XlH Xhw Xhx XlM
attribute [go_sem] Xhy XlI XlJ XlK XlL Xm5 Xp1 Xp2 Xjf Xm6 Xjg Xjh Xji Xhz XhA XhB XcU XhC Xtz XtA XtB Xsg XtC XtD XtE XtF XtG Xsh Xp4 XtH Xgc Xhr Xp3 Xvi Xvj Xvk Xtx Xty Xvl XtI XtJ XtK XtL Xgd Xdx Xjj XlN Jn Xsm Xsn Xso Xsp
attribute [go_sem] Xdj Xi1 XfY XeV Xdk Xdl Xi2 Option.isSome_some Option.isSome_none Option.isNone_some Option.isNone_none
attribute [go_sem] undef ZP callee opF ev ofV XmG okV XH Xcz XmH ivD ivO XfW JT elems Ji Xdh Xdi Ks D.cells D.one Value.oneCell' OL.isAgg OL.isIface KW XeU Xa2 Xa3 snap ZQ VP Xbo XeT Zh ZM lend Jl pos ZR aft scal JW VU imp VL J4 Xhv XmY Xjd shut XcB Xbu XpV Yd XfX Xv
attribute [go_sem] Ul IT UA In List.getElem?_cons_zero Ij List.getElem?_nil Ii Option.getD_none Oo U8 Oe Ie true_and and_true ne_eq false_implies Uh UE Uf WK Ua WL Int.toNat_natCast Wc Wa Wh Ug if_true if_false ite_true ite_false Iu List.isEmpty_nil List.isEmpty_cons Bool.and_true Bool.and_false Ue UJ Ih W8 Ot List.getD_cons_zero List.getD_cons_succ WX List.drop_succ_cons List.take_succ_cons Oy List.head?_cons List.headD_cons Og List.all_nil IK List.set_cons_succ Ig List.not_mem_nil or_false or_true false_or not_false_eq_true not_true_eq_false List.nodup_nil Ow implies_true forall_const decide_true decide_false and_self Xsi Xsj Xp5 Xp6 Xp7 Xp8 Xp9 Xqa Xsk Xsl Xqb Xqc Xqd Xqe Xqf Xqg List.replicate_succ List.replicate_zero
variable {P:Program}
def Xqx(n:Int):IntKind.wrap .i64 n=wI n:=rfl
def Xqy(n:Int):IntKind.wrap .u64 n=wU n:=rfl
def Xqz(n:Int):IntKind.wrap .u32 n=wW n:=rfl
section
variable {k k':IntKind}{a b:Int}{T:Nat}{p q:Bool}{xs ys:List D}
def Xnq:YU P .add T (.v (.int k a)) (.v (.int k b))=some (True,.v (.int k (k.wrap (a+b)))):=by simp[YU,VK]
def Xnr:YU P .sub T (.v (.int k a)) (.v (.int k b))=some (True,.v (.int k (k.wrap (a-b)))):=by simp[YU,VK]
def Xns:YU P .mul T (.v (.int k a)) (.v (.int k b))=some (True,.v (.int k (k.wrap (a*b)))):=by simp[YU,VK]
def Xnt:YU P .quo T (.v (.int k a)) (.v (.int k b))=some (b≠0,.v (.int k (k.wrap (a.tdiv b)))):=by simp[YU,VK]
def Xnu:YU P .rem T (.v (.int k a)) (.v (.int k b))=some (b≠0,.v (.int k (a.tmod b))):=by simp[YU,VK]
def Xnv:YU P .and T (.v (.int k a)) (.v (.int k b))=some (True,.v (.int k (Zq k a b))):=by simp[YU,VK,Zq]
def XqA:YU P .or T (.v (.int k a)) (.v (.int k b))=some (True,.v (.int k (bOr k a b))):=by simp[YU,VK,bOr]
def Xnw:YU P .xor T (.v (.int k a)) (.v (.int k b))=some (True,.v (.int k (Xr7 k a b))):=by simp[YU,VK,Xr7]
def XhH:YU P .andNot T (.v (.int k a)) (.v (.int k b))=some (True,.v (.int k (XcT k a b))):=by simp[YU,VK,XcT]
def Xnx:YU P .eql T (.v (.int k a)) (.v (.int k b))=some (True,.v (.bool (a==b))):=by simp[YU,VK]
def Xny:YU P .neq T (.v (.int k a)) (.v (.int k b))=some (True,.v (.bool (a != b))):=by simp[YU,VK]
def Xnz:YU P .lss T (.v (.int k a)) (.v (.int k b))=some (True,.v (.bool (a<b))):=by simp[YU,VK]
def XnA:YU P .leq T (.v (.int k a)) (.v (.int k b))=some (True,.v (.bool (a<=b))):=by simp[YU,VK]
def XnB:YU P .gtr T (.v (.int k a)) (.v (.int k b))=some (True,.v (.bool (a>b))):=by simp[YU,VK]
def XnC:YU P .geq T (.v (.int k a)) (.v (.int k b))=some (True,.v (.bool (a>=b))):=by simp[YU,VK]
def XnD:YU P .shl T (.v (.int k a)) (.v (.int k' b))=some (0<=b,.v (.int k (ZY k a b))):=by rfl
def XnE:YU P .shr T (.v (.int k a)) (.v (.int k' b))=some (0<=b,.v (.int k (Yz k a b))):=by rfl
def isB:Option OL->Option (Prop×D)->Option (Prop×D)
 |some ⟨_,_,_,.bool⟩,x=>x
 |_,_=>none
def XtO{x y:Nat}{z:Value}{r:Option (Prop×D)}:isB (some ⟨x,y,z,.bool⟩) r=r:=rfl
def XnF:YU P .eql T (.v (.bool p)) (.v (.bool q))=isB (Xq P T) (some (True,.v (.bool (p==q)))):=by simp only[YU];unfold isB;grind
def XnG:YU P .neq T (.v (.bool p)) (.v (.bool q))=isB (Xq P T) (some (True,.v (.bool (!(p==q))))):=by simp only[YU];unfold isB;grind
def eqA(neg:Bool):Option (List (Option IntKind))->List D->List D->Option (Prop×D)
 |some f,xs,ys=>(Yd f xs ys).map λb=>(True,.v (.bool (bif neg then !b else b)))
 |none,_,_=>none
def XnH{neg:Bool}{f:List (Option IntKind)}:eqA neg (some f) xs ys=(Yd f xs ys).map λb=>(True,.v (.bool (bif neg then !b else b))):=rfl
def XnI:YU P .eql T (.agg xs) (.agg ys)=eqA false (YH P T) xs ys:=by
 simp only[YU];cases YH P T with
 |none=>rfl
 |some f=>simp only[eqA];cases Yd f xs ys<;>rfl
def XnJ:YU P .neq T (.agg xs) (.agg ys)=eqA true (YH P T) xs ys:=by
 simp only[YU];cases YH P T with
 |none=>rfl
 |some f=>simp only[eqA];cases Yd f xs ys<;>rfl
end
def XlV{c:Prop}[Decidable c]{x y:Option (Prop×D×Up)}{dst:Option Nat}{m j:Nat}{f:Option Nat->D->Up->Nat->Nat->Prop}{t':Prf (if c then x else y)}:Xcx (if c then x else y) dst m j f t'=(if c then Xcx x dst m j f trivial else Xcx y dst m j f trivial):=by grind
def XqB{c:Prop}[Decidable c]{x y:Option (Prop×D×Up)}:kd1 (if c then x else y)=(if c then kd1 x else kd1 y):=by grind
def XqC{C:Cx}{e:En}{ver:Nat}{s:Heap}{c:Prop}[Decidable c]{x y:Option Kd}{st:St}{F:St->Prop}{t':Prf (if c then x else y)}:doT P C e ver s (if c then x else y) st F t'=(if c then doT P C e ver s x st F trivial else doT P C e ver s y st F trivial):=by grind
def XnK{α β:Type}{c:Prop}[Decidable c]{f:α->β}{x y:Option α}:Option.map f (if c then x else y)=if c then Option.map f x else Option.map f y:=by split<;>rfl
def XtP{c a b:Prop}[Decidable c](f:c->a)(g:¬c->b):if c then a else b:=by simp_all
def Eqs(e:D)(ls:List Ob)(d:D)(os:List Ob):Prop:=d=e/\os=ls
def XsC{e:D}{ls:List Ob}:∃d os,Eqs e ls d os:=⟨_,_,rfl,rfl⟩
def YN{a b:Prop}(h:a)(f:b):a/\b:=⟨h,f⟩
def XnL{α:Type}{l:List α}{n:Nat}(h:l.length<=n):l.take n=l:=Uy h
def XnM{C:Cx}{R:St->Prop}{c:Code}{k:List It}{st:St}{α β:Type}{o:Option α}{f:α->Option β}{r:β}{I:(α->Prop)->Nat->St->Prop}(z:bnd o f=some r)(m n:Nat)(A:∀g,o=some g->f g=some r->I (λy=>f y=some r) n st)(round:∀n st,I (λy=>f y=some r) n st->run P C R m (.code c::.stop (λh=>∃v,v<n/\I (λy=>f y=some r) v h)::k) st)(t':Prf c):LoopG P C R c k st t':=
 Xbm z λg B E=>LoopG.of (I (λy=>f y=some r)) m n (A g B E) round t'
def Xgi{α:Type}{x:α}{l:List α}{n:Nat}:List.take (1+n) (x::l)=x::List.take n l:=by grind
def CallG.ofE{G:Nat->Option (List D)}{f:FuncId}{args eargs:List D}{obs ls:List Ob}{e:D}{K:D->List Ob->Prop}(h:YV P G f eargs obs (Eqs e ls))(g:Z3 args eargs)(hK:K e ls)(t':Prf args):CallG P G f args obs K t':=
 CallG.of h g (λ_ _ ⟨r,v⟩=>r▸v▸hK) t'
def CallD.ofE{G:Nat->Option (List D)}{f:FuncId}{args eargs:List D}{obs ls:List Ob}{e:D}{K:D->List Ob->Prop}(h:YV P G f eargs obs (Eqs e ls))(g:Z3 args eargs)(hK:K e ls)(t':Prf args):CallD P G f args obs K t':=
 CallD.of h g XsC (λ_ _ ⟨r,v⟩=>r▸v▸hK) t'
def ZS{d e:D}{obs ls:List Ob}(h:fitsR d e/\obs=ls):RetG d obs (Eqs e ls):=⟨_,h.1,rfl,h.2⟩
def XsD{a c:Nat}{b d:Ob}:(some (a,b)=some (c,d))=(a=c/\b=d):=by simp
def XtQ{a b:D}{l m:List D}:(a::l=b::m)=(a=b/\l=m):=by simp
def XsE{a b:List D}{l m:List (List D)}:(a::l=b::m)=(a=b/\l=m):=by simp
def XsF{a b:Ob}{l m:List Ob}:(a::l=b::m)=(a=b/\l=m):=by simp
attribute [go_sem] fits Z3 fitsR Vq XtQ XsE XsF XsD D.osl.injEq D.ept.injEq Ob.arr.injEq exists_eq_left' exists_eq_left exists_eq exists_eq' exists_and_left exists_const or_self true_or or_true false_or or_false false_and and_false eq_self
attribute [go_sem] XnK XlV XqB XqC Xgi Nat.sub_zero XnL Xqx Xqy Xqz Xnq Xnr Xns Xnt Xnu Xnv XqA Xnw XhH Xnx Xny Xnz XnA XnB XnC XnD XnE XnF XnG XtO XnH XnI XnJ UG List.map_set List.map_take List.map_drop List.map_replicate
end Go.Sx
