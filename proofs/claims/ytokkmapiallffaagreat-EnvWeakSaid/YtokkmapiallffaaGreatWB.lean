import Derived.LoopNIn
import Derived.OrdersIn
import Derived.TacticsIn
import Derived.Scope
import Derived.Test.YtokkmapiallffaaGreatWA
set_option linter.all false
namespace Go.Sx
variable {P:Program}
section
variable {C:Cx}{s:Heap}{U:Nat->Prop}{ver:Nat}{M:Mem}{β:Loc}{w:World}
def XaE{fd:Field}(e:P.cellsOf fd.type≠0)(b o:Nat):(fieldPlace ⟨b,o,none⟩ fd).run P w=.ok ⟨b,o+fd.offset,none⟩ w:=by have:=Jn (P:=P) (t:=fd.type) rfl e w;simp[fieldPlace,this,e,UY]
def XaM{fields:Array Field}{f off sz ft:Nat}(h:(fields.toList.map λf=>(f.offset,P.cellsOf f.type,f.type))[f]? = some (off,sz,ft)):∃fd,fields[f]? = some fd/\fd.offset=off/\P.cellsOf fd.type=sz/\fd.type=ft:=by simp_all
def Xh5(fields:Array Field)(e:∀fd∈fields.toList,((P.info? fd.type).map (·.size)).isSome=true)(w:World):
 (fields.mapM λf=>do pure (f.offset,←sizeOf f.type):Sem (Array (Nat×Nat))).run P w=.ok (fields.map λf=>(f.offset,P.cellsOf f.type)) w:=by
 rw[Array.mapM_eq_mapM_toList];have:∀l:List Field,(∀fd∈l,((P.info? fd.type).map (·.size)).isSome=true)->(l.mapM λf=>do pure (f.offset,←sizeOf f.type):Sem (List (Nat×Nat))).run P w=.ok (l.map λf=>(f.offset,P.cellsOf f.type)) w:=by
  intro l;induction l with
  |nil=>simp
  |cons f l k=>
   intro h;have o:=h f ac;have g:=k λfd p=>h fd (by simp[p]);cases j:P.info? f.type with
   |none=>simp[j]at o
   |some i=>
    have:(sizeOf f.type).run P w=.ok (P.cellsOf f.type) w:=by simp[sizeOf,typeInfo,j,Program.cellsOf]
    simp only[List.mapM_cons,Sem.run_bind,this,Result.andThen_ok,Sem.run_pure,g,UH]
 have h:=this fields.toList e;simp only[Sem.run_map,h,Result.andThen_ok];congr 1;grind
def XoQ(I:U2 P C s U M β w)(_hv:¬U ver){dst:Option Tmp}{type:TypeId}{pos:String}{after:Array Edge}{guard:Option (Nat×Bool)}(ρ:Operand->Value)(t:Operand->D)(hρ:∀x,Rep P M β (t x) (ρ x)){c:Prop}{d:D}{u:Up}(x:Operand)(h:opF P dst ver t s (.move x)=some (c,d,u))(e:c):OpOK P C s u U ver M β ((execOp ρ ⟨dst,(.move x),type,pos,after,guard⟩).run P w) d:=by unfold execOp;obtain⟨rfl,rfl,rfl⟩:=h;exact .val I rfl (hρ x)
def Xks(I:U2 P C s U M β w)(_hv:¬U ver){dst:Option Tmp}{type:TypeId}{pos:String}{after:Array Edge}{guard:Option (Nat×Bool)}(ρ:Operand->Value)(t:Operand->D)(hρ:∀x,Rep P M β (t x) (ρ x)){c:Prop}{d:D}{u:Up}(x:Operand)(h:opF P dst ver t s (.assign x)=some (c,d,u))(e:c):OpOK P C s u U ver M β ((execOp ρ ⟨dst,(.assign x),type,pos,after,guard⟩).run P w) d:=by unfold execOp;obtain⟨rfl,rfl,rfl⟩:=h;exact .val I rfl (hρ x)
def XoR(I:U2 P C s U M β w)(_hv:¬U ver){dst:Option Tmp}{type:TypeId}{pos:String}{after:Array Edge}{guard:Option (Nat×Bool)}(ρ:Operand->Value)(t:Operand->D)(hρ:∀x,Rep P M β (t x) (ρ x)){c:Prop}{d:D}{u:Up}(g:Operand)(a:Operand)(b:Operand)(h:opF P dst ver t s (.pick g a b)=some (c,d,u))(y:c):OpOK P C s u U ver M β ((execOp ρ ⟨dst,(.pick g a b),type,pos,after,guard⟩).run P w) d:=by
 unfold execOp;simp only[opF]at h;split at h
 .rename_i f k;obtain⟨rfl,rfl,rfl⟩:=h;have e:=hρ g;rw[k]at e;refine .val I (v:=if f then ρ a else ρ b) (by simp[e.1,asBool]) ?_;have j:=hρ a;have hb:=hρ b;unfold XlC;split
  .rename_i p q o r;rw[o]at j;rw[r]at hb;cases f
   .simp[Rep,hb.1,wfV]
   simp[Rep,j.1,wfV]
  cases f
  .exact hb
  exact j
 simp_all
def XlI(I:U2 P C s U M β w)(k:¬U ver){dst:Option Tmp}{type:TypeId}{pos:String}{after:Array Edge}{guard:Option (Nat×Bool)}(ρ:Operand->Value)(t:Operand->D)(_hρ:∀x,Rep P M β (t x) (ρ x)){c:Prop}{d:D}{u:Up}(T:TypeId)(h:opF P dst ver t s (.alloc T)=some (c,d,u))(q:c):OpOK P C s u U ver M β ((execOp ρ ⟨dst,(.alloc T),type,pos,after,guard⟩).run P w) d:=by
 unfold execOp;simp only[opF]at h;split at h
 .rename_i ty j;split at h
  .rename_i r g;split at h
   .rename_i f;obtain⟨rfl,rfl,rfl⟩:=h;have⟨o,p⟩:=Zq (P:=P) (M:=M) (β:=β) g;have e:(Instr.alloc T true (.tuple #[])).run P w=((do pure (Value.pointer (some (←newVar T ty.zero))):Sem Value)).run P w:=by simp[Instr.alloc,KH j]
    exact VOK.op (sem:=Instr.alloc T true (.tuple #[])) (by rw[e];exact XlE I k j o p f.1 f.2 (KY dst))
   cases h
  cases h
 simp_all
def Xq9(I:U2 P C s U M β w)(g:¬U ver){dst:Option Tmp}{type:TypeId}{pos:String}{after:Array Edge}{guard:Option (Nat×Bool)}(ρ:Operand->Value)(t:Operand->D)(hρ:∀x,Rep P M β (t x) (ρ x)){c:Prop}{d:D}{u:Up}(T:TypeId)(x:Operand)(h:opF P dst ver t s (.box T x)=some (c,d,u))(j:c):OpOK P C s u U ver M β ((execOp ρ ⟨dst,(.box T x),type,pos,after,guard⟩).run P w) d:=by
 unfold execOp;simp only[opF]at h;split at h
 .rename_i ty q k e;split at h
  .rename_i f;obtain⟨rfl,rfl,rfl⟩:=h;have⟨o,p⟩:=K8 e (hρ x);exact VOK.op (XlE I g k o p j f (KY dst))
  cases h
 simp_all
def XlJ(I:U2 P C s U M β w)(_hv:¬U ver){dst:Option Tmp}{type:TypeId}{pos:String}{after:Array Edge}{guard:Option (Nat×Bool)}(ρ:Operand->Value)(t:Operand->D)(hρ:∀x,Rep P M β (t x) (ρ x)){c:Prop}{d:D}{u:Up}(T:TypeId)(parts:Array (Nat×Operand))(h:opF P dst ver t s (.build T parts)=some (c,d,u))(V:c):OpOK P C s u U ver M β ((execOp ρ ⟨dst,(.build T parts),type,pos,after,guard⟩).run P w) d:=by
 unfold execOp;simp only[opF]at h;split at h
 .rename_i ty p;have⟨W,N⟩:=Xev hρ parts.toList;split at h
  .rename_i z Y g A;simp only[Uq,Ww]at h;obtain⟨r,B,rfl,rfl,rfl⟩:=h;have⟨E,R⟩:=Zq (P:=P) (M:=M) (β:=β) g;have⟨G,H,J,k0⟩:=ty;subst A;obtain⟨fields,K,rfl,k⟩:=Vj p;have⟨o,k1,k2⟩:=Xc2 _ (λi=>(fields.map λf=>(f.offset,P.cellsOf f.type))[i]?) (λi x q=>by
    simp only[Uq,Ii,UZ]at q
    obtain⟨y,⟨fd,S,rfl⟩,rfl⟩:=q
    simp[S]) _ (parts.map λx=>(x.1,ρ x.2)).toList z J.cells r B E ac (by simpa using N)
   refine .val I (v:=.agg o) ?_ ?_
   .simp only[Instr.build,Sem.run_bind,KH p,Result.andThen_ok,run_underlying K,Xh5 fields k,k1,Sem.run_pure]
   exact⟨o.toList,ac,k2⟩
  .rename_i z n e sz g A;split at h
   .rename_i Z O;simp only[Uq,Ww]at h;obtain⟨r,B,rfl,rfl,rfl⟩:=h;have⟨E,R⟩:=Zq (P:=P) (M:=M) (β:=β) g;have⟨G,H,J,k0⟩:=ty;subst A;have⟨K,L⟩:=K7 p;have j:∀w:World,(sizeOf e).run P w=.ok sz w:=λw=>by rw[YN O,L,XaK O]
    have⟨o,k1,k2⟩:=Xc2 _ (λi=>some (i*sz,sz)) (λi x q=>q) _ (parts.map λx=>(x.1,ρ x.2)).toList z J.cells r B E ac (by simpa using N);refine .val I (v:=.agg o) ?_ ?_
    .simp only[Instr.build,Sem.run_bind,KH p,Result.andThen_ok,run_underlying K,j,k1,Sem.run_pure]
    exact⟨o.toList,ac,k2⟩
   cases h
  cases h
 simp_all
def Xel(I:U2 P C s U M β w)(o:¬U ver){dst:Option Tmp}{type:TypeId}{pos:String}{after:Array Edge}{guard:Option (Nat×Bool)}(ρ:Operand->Value)(t:Operand->D)(hρ:∀x,Rep P M β (t x) (ρ x)){c:Prop}{d:D}{u:Up}(T:TypeId)(n:Nat)(parts:Array (Nat×Operand))(h:opF P dst ver t s (.buildSlice T n parts)=some (c,d,u))(p:c):OpOK P C s u U ver M β ((execOp ρ ⟨dst,(.buildSlice T n parts),type,pos,after,guard⟩).run P w) d:=by
 unfold execOp;simp only[opF]at h;split at h
 .rename_i a b V E z q;split at h
  .rename_i W r;split at h
   .rename_i Y f;split at h
    .rename_i e;have⟨v,y,A,B,G⟩:=e;split at h
     .rename_i Z ps l g;simp only[Uq,Ww]at h;obtain⟨es,j,rfl,rfl,rfl⟩:=h;have⟨H,J⟩:=Xev hρ parts.toList;have⟨M',I',k,K⟩:=I.freeze l;have⟨L,N⟩:=Xew I k g p K J;have O:ps.map (·.1)=(parts.map λx=>(x.1,ρ x.2)).toList.map (·.1):=by rw[N,H,Array.toList_map]
      have R:RepL P M' YK (ps.map (·.2)) ((parts.map λx=>(x.1,ρ x.2)).toList.map (·.2)):=by rw[Array.toList_map];exact L
      have⟨M2,β2,w2,S,g1,g2,g3,g4,g5⟩:=VOK.op (Xek I' o q r f v y A B G j O R (KY dst));refine⟨M2,β2,w2,S,g1,?_,g3,k.trans g4,g5⟩;rw[Zg,VP];exact g2
     cases h
    cases h
   cases h
  cases h
 simp_all
def XoS(I:U2 P C s U M β w)(_hv:¬U ver){dst:Option Tmp}{type:TypeId}{pos:String}{after:Array Edge}{guard:Option (Nat×Bool)}(ρ:Operand->Value)(t:Operand->D)(hρ:∀x,Rep P M β (t x) (ρ x)){c:Prop}{d:D}{u:Up}(T:TypeId)(a:Operand)(h:opF P dst ver t s (.load T a)=some (c,d,u))(f:c):OpOK P C s u U ver M β ((execOp ρ ⟨dst,(.load T a),type,pos,after,guard⟩).run P w) d:=by
 unfold execOp;simp only[opF]at h;split at h
 .rename_i ty k p o z g j;split at h
  .rename_i e;obtain⟨rfl,rfl,rfl⟩:=h;exact VOK.op (XoM I g j f e.1 e.2 (hρ a))
  cases h
 simp_all
def XlK(I:U2 P C s U M β w)(_hv:¬U ver){dst:Option Tmp}{type:TypeId}{pos:String}{after:Array Edge}{guard:Option (Nat×Bool)}(ρ:Operand->Value)(t:Operand->D)(hρ:∀x,Rep P M β (t x) (ρ x)){c:Prop}{d:D}{u:Up}(T:TypeId)(a:Operand)(x:Operand)(h:opF P dst ver t s (.store T a x)=some (c,d,u))(g:c):OpOK P C s u U ver M β ((execOp ρ ⟨dst,(.store T a x),type,pos,after,guard⟩).run P w) d:=by
 unfold execOp;simp only[opF]at h;split at h
 .rename_i ty id v z i W J L;have hp:=hρ a;rw[L]at hp;split at h
  .rename_i N E O K fz j;split at h
   .rename_i R k;split at h
    .rename_i e;have⟨rfl,rfl,f⟩:=e;obtain⟨rfl,rfl,rfl⟩:=h;exact Xgr I J j hp k (hρ x) g.1 g.2.1 g.2.2 f
    cases h
   cases h
  .rename_i N E O K fz j;split at h
   .rename_i c1 Y l o;split at h
    .rename_i R k;split at h
     .rename_i e;have⟨rfl,rfl,f,p⟩:=e;obtain⟨rfl,rfl,rfl⟩:=h;have⟨q,r,y,A⟩:=g;have⟨M',I',B,S⟩:=I.freeze l;have G:=snap_rep I B o q S (hρ x);have H:frz s l id=some (v,.arr false E z K fz):=by unfold frz;rw[Wk p];exact j
      have⟨M2,β2,w2,V,g1,g2,g3,g4,g5⟩:=Xgr (ver:=ver) I' J H (hp.mono B (BLe.refl _)) k G r y A f;refine⟨M2,β2,w2,V,g1,?_,g3,B.trans g4,g5⟩;rw[Zg,VP];exact g2
     cases h
    cases h
   cases h
  cases h
 simp_all
def Xgv(I:U2 P C s U M β w)(_hv:¬U ver){dst:Option Tmp}{type:TypeId}{pos:String}{after:Array Edge}{guard:Option (Nat×Bool)}(ρ:Operand->Value)(t:Operand->D)(hρ:∀x,Rep P M β (t x) (ρ x)){c:Prop}{d:D}{u:Up}(x:Operand)(h:opF P dst ver t s (.nilCheck x)=some (c,d,u))(p:c):OpOK P C s u U ver M β ((execOp ρ ⟨dst,(.nilCheck x),type,pos,after,guard⟩).run P w) d:=by
 unfold execOp;simp only;simp only[opF]at h;split at h
 .rename_i id v z i k g;obtain⟨rfl,rfl,rfl⟩:=h;have e:=hρ x;rw[g]at e;have f:=e;have⟨b,q,_,j⟩:=f;refine .val I (v:=ρ x) ?_ e;rw[j];rfl
 .rename_i z r k g;obtain⟨rfl,rfl,rfl⟩:=h;have e:=hρ x;rw[g]at e;have f:=e;have⟨_,b,o,j,_⟩:=f;refine .val I (v:=ρ x) ?_ e;rw[j];rfl
 simp_all
def Xkt(I:U2 P C s U M β w){op:BinOp}{T:TypeId}{x:D}{ρ:Operand->Value}{e:Operand}{c:Prop}{d:D}(h:Xfe P op T x=some (c,d))(p:c){vx:Value}(q:Rep P M β x vx){r:Operand}(g:XcV e=true)(H:∀v,e=.const v->ρ e=v):VOK P C s [] U ver M β ((do eqGuard op T r e vx (ρ e);binOp op T vx (ρ e):Sem Value).run P w) d:=by
 have j:∃l c,ρ e=.slice none l c:=by
  cases e with
  |const v=>
   simp only[XcV]at g;unfold Xh1 at g;split at g
   .cases g
   .cases g
   .rename_i l c;exact⟨l,c,H _ rfl⟩
   cases g
  |_=>simp[XcV]at g
 have⟨u,cy,j⟩:=j;rw[j];have key:∀(a:Option Addr) (l cp:Nat) {y A:Nat} {B:Value} {E z:Nat},Xr P T=some ⟨y,A,B,.slice E z⟩->(Op.equal T (.slice a l cp) (.slice none u cy)).run P w=.ok a.isNone w:=by intro a l cp y A B E z f;unfold Op.equal Op.maxDepth Op.equalIn;cases a<;>simp[run_underlying (Ya f).1]
 have k:∀(op:BinOp) (a:Option Addr) (l cp:Nat),(eqGuard op T r e (.slice a l cp) (.slice none u cy)).run P w=.ok () w:=by intro op a l cp;unfold eqGuard;cases op<;>simp
 unfold Xfe at h;split at h
 .obtain⟨_,_,_,a,cap,rfl,_,G⟩:=q;split at h
  .rename_i f;obtain⟨rfl,rfl⟩:=h;obtain⟨b,o,rfl,_⟩:=G.resolve_left p;refine .same I (v:=.bool false) ?_ (ZA _);simp[k,binOp,key _ _ _ f]
  .rename_i f;obtain⟨rfl,rfl⟩:=h;obtain⟨b,o,rfl,_⟩:=G.resolve_left p;refine .same I (v:=.bool true) ?_ (ZA _);simp[k,binOp,key _ _ _ f]
  cases h
 .rename_i a l cp;obtain⟨rfl,_⟩:=q;split at h
  .rename_i f;obtain⟨rfl,rfl⟩:=h;refine .same I (v:=.bool a.isNone) ?_ (ZA _);simp[k,binOp,key _ _ _ f]
  .rename_i f;simp only[Wq,Ww]at h;obtain⟨rfl,rfl⟩:=h;refine .same I (v:=.bool (!a.isNone)) ?_ (ZA _);simp[k,binOp,key _ _ _ f]
  cases h
 simp_all
def XlL(I:U2 P C s U M β w)(_hv:¬U ver){dst:Option Tmp}{type:TypeId}{pos:String}{after:Array Edge}{guard:Option (Nat×Bool)}(ρ:Operand->Value)(t:Operand->D)(hρ:∀x,Rep P M β (t x) (ρ x)){c:Prop}{d:D}{u:Up}(op:BinOp)(T:TypeId)(x:Operand)(y:Operand)(e:TypeId)(g:∀v,y=.const v->ρ y=v)(h:opF P dst ver t s (.binOp op T x y e)=some (c,d,u))(f:c):OpOK P C s u U ver M β ((execOp ρ ⟨dst,(.binOp op T x y e),type,pos,after,guard⟩).run P w) d:=by
 unfold execOp;simp only[opF,Uq,Ww]at h;obtain⟨⟨k,o⟩,hb,rfl,rfl,rfl⟩:=h;split at hb
 .rename_i j;exact VOK.op (Xkt I hb f (hρ x) j g)
 exact VOK.op (XoL I hb f (hρ x) (hρ y) x y)
def XoT(I:U2 P C s U M β w)(_hv:¬U ver){dst:Option Tmp}{type:TypeId}{pos:String}{after:Array Edge}{guard:Option (Nat×Bool)}(ρ:Operand->Value)(t:Operand->D)(hρ:∀x,Rep P M β (t x) (ρ x)){c:Prop}{d:D}{u:Up}(op:UnOp)(T:TypeId)(x:Operand)(h:opF P dst ver t s (.unOp op T x)=some (c,d,u))(g:c):OpOK P C s u U ver M β ((execOp ρ ⟨dst,(.unOp op T x),type,pos,after,guard⟩).run P w) d:=by
 unfold execOp;simp only;simp only[opF]at h;have e:=hρ x;split at h
 .rename_i b f;obtain⟨rfl,rfl,rfl⟩:=h;rw[f]at e;refine .val I (v:=.bool (!b)) ?_ (ZA _);rw[e.1];simp[Op.unary]
 .rename_i k n f;obtain⟨rfl,rfl,rfl⟩:=h;rw[f]at e;refine .val I (v:=.int k (k.wrap (0-n))) ?_ (ZK _ _ (Z8 _ _));rw[e.1];simp[Op.unary,Op.intArith]
 simp_all
def Xh6(I:U2 P C s U M β w)(_hv:¬U ver){dst:Option Tmp}{type:TypeId}{pos:String}{after:Array Edge}{guard:Option (Nat×Bool)}(ρ:Operand->Value)(t:Operand->D)(hρ:∀x,Rep P M β (t x) (ρ x)){c:Prop}{d:D}{u:Up}(S:TypeId)(T:TypeId)(x:Operand)(h:opF P dst ver t s (.convert S T x)=some (c,d,u))(p:c):OpOK P C s u U ver M β ((execOp ρ ⟨dst,(.convert S T x),type,pos,after,guard⟩).run P w) d:=by
 unfold execOp;simp only;simp only[opF]at h;split at h
 .rename_i tS a b q k r n f g j;obtain⟨rfl,rfl,rfl⟩:=h;have e:=hρ x;rw[j]at e;have⟨i,y,_,o,_⟩:=Yl f;refine .val I (v:=.int k (k.wrap n)) ?_ (ZK _ _ (Z8 _ _));rw[e.1];simp[convert,run_underlying o,run_underlying (Xff g),Conv.intToInt]
 simp_all
def Xgw(I:U2 P C s U M β w)(_hv:¬U ver){dst:Option Tmp}{type:TypeId}{pos:String}{after:Array Edge}{guard:Option (Nat×Bool)}(ρ:Operand->Value)(t:Operand->D)(hρ:∀x,Rep P M β (t x) (ρ x)){c:Prop}{d:D}{u:Up}(fn:Fn)(first:Array Operand)(captured:Array Operand)(h:opF P dst ver t s (.makeFunc fn first captured)=some (c,d,u))(f:c):OpOK P C s u U ver M β ((execOp ρ ⟨dst,(.makeFunc fn first captured),type,pos,after,guard⟩).run P w) d:=by
 unfold execOp;obtain⟨rfl,rfl,rfl⟩:=h;refine .val I (v:=.func fn (first.map ρ) (captured.map ρ)) (by simp[Instr.makeFunc]) ?_;refine⟨first.toList.map ρ,captured.toList.map ρ,?_,Xfj hρ _,Xfj hρ _⟩;have e:∀l:Array Operand,l.map ρ=⟨l.toList.map ρ⟩:=λl=>by apply Array.ext';simp
 simp_all
def Xfm(I:U2 P C s U M β w)(o:¬U ver){dst:Option Tmp}{type:TypeId}{pos:String}{after:Array Edge}{guard:Option (Nat×Bool)}(ρ:Operand->Value)(t:Operand->D)(hρ:∀x,Rep P M β (t x) (ρ x)){c:Prop}{d:D}{u:Up}(T:TypeId)(l:Operand)(f:Operand)(h:opF P dst ver t s (.makeSlice T l f)=some (c,d,u))(p:c):OpOK P C s u U ver M β ((execOp ρ ⟨dst,(.makeSlice T l f),type,pos,after,guard⟩).run P w) d:=by
 unfold execOp;simp only;simp only[opF]at h;split at h
 .rename_i a b J E z n m q r v;split at h
  .rename_i K y;split at h
   .rename_i L g;split at h
    .rename_i e;obtain⟨rfl,rfl,rfl⟩:=h;have⟨A,rfl,B,G⟩:=p;have⟨k,H,_⟩:=Vl r (hρ l);have⟨N,j,_⟩:=Vl v (hρ f);rw[H,j];exact VOK.op (XoP I o q y g e.1 e.2 A B G (KY dst))
    cases h
   cases h
  cases h
 simp_all
def XlM(I:U2 P C s U M β w)(_hv:¬U ver){dst:Option Tmp}{type:TypeId}{pos:String}{after:Array Edge}{guard:Option (Nat×Bool)}(ρ:Operand->Value)(t:Operand->D)(hρ:∀x,Rep P M β (t x) (ρ x)){c:Prop}{d:D}{u:Up}(T:TypeId)(x:Operand)(r:Option Operand)(v:Option Operand)(mx:Option Operand)(h:opF P dst ver t s (.slice T x r v mx)=some (c,d,u))(A:c):OpOK P C s u U ver M β ((execOp ρ ⟨dst,(.slice T x r v mx),type,pos,after,guard⟩).run P w) d:=by
 unfold execOp;simp only[opF]at h;split at h
 .rename_i a b B E sz l V m g j e k;split at h
  .rename_i G o;simp only[Uq,Ww]at h;obtain⟨⟨W,Y⟩,H,rfl,rfl,rfl⟩:=h;have⟨k1,p⟩:=Vm hρ j;have⟨k2,q⟩:=Vm hρ e;have⟨J,e3⟩:=Vm hρ k;simp only[p,q,e3];exact VOK.op (Xko I g o H A (hρ x))
  cases h
 .rename_i a b B n E K g j e k;split at h
  .rename_i G z Z o L;split at h
   .rename_i f;have⟨N,rfl,O,R,S⟩:=f;obtain⟨rfl,rfl,rfl⟩:=h;have⟨k1,p⟩:=Vm hρ j;have⟨k2,q⟩:=Vm hρ e;have⟨J,e3⟩:=Vm hρ k;simp only[p,q,e3];have y:=hρ x;rw[L]at y;exact VOK.op (Xkp I g o N O R S y)
   cases h
  cases h
 simp_all
def Xfn(I:U2 P C s U M β w)(_hv:¬U ver){dst:Option Tmp}{type:TypeId}{pos:String}{after:Array Edge}{guard:Option (Nat×Bool)}(ρ:Operand->Value)(t:Operand->D)(hρ:∀x,Rep P M β (t x) (ρ x)){c:Prop}{d:D}{u:Up}(T:TypeId)(x:Operand)(f:Nat)(h:opF P dst ver t s (.fieldAddr T x f)=some (c,d,u))(L:c):OpOK P C s u U ver M β ((execOp ρ ⟨dst,(.fieldAddr T x f),type,pos,after,guard⟩).run P w) d:=by
 unfold execOp;simp only;simp only[opF]at h;have k:=hρ x;split at h
 .rename_i a b E G id v z i j p q;split at h
  .rename_i off sz H r;split at h
   .cases h
   rename_i e;obtain⟨rfl,rfl,rfl⟩:=h;rw[q]at k;have⟨g,J,hb,y⟩:=k;obtain⟨fields,A,rfl,_⟩:=Vj p;have⟨fd,g1,g2,g3,g4⟩:=XaM r;have hp:=XaE (P:=P) (w:=w) (fd:=fd) (by rw[g3];exact e) g (i*z+j);refine .val I (v:=.pointer (some ⟨g,i*z+j+off,none⟩)) ?_ ?_
   .rw[y];simp[Instr.fieldAt,run_underlying A,g1,Instr.sureAddr,hp,g2]
   exact⟨g,J,hb,by rw[Nat.add_assoc]⟩
  cases h
 .rename_i a b E G z N j p q;split at h
  .rename_i off sz H r;split at h
   .cases h
   rename_i e;obtain⟨rfl,rfl,rfl⟩:=h;rw[q]at k;obtain⟨K,g,o,y,B⟩:=k;obtain⟨fields,A,rfl,_⟩:=Vj p;obtain⟨fd,g1,g2,g3,g4⟩:=XaM r;have hp:=XaE (P:=P) (w:=w) (fd:=fd) (by rw[g3];exact e) g (o+j);refine .val I (v:=.pointer (some ⟨g,o+j+off,none⟩)) ?_ ?_
   .rw[y];simp[Instr.fieldAt,run_underlying A,g1,Instr.sureAddr,hp,g2]
   simp only[Rep];exact⟨K,g,o,by rw[Nat.add_assoc],B⟩
  cases h
 simp_all
def XlN(I:U2 P C s U M β w)(_hv:¬U ver){dst:Option Tmp}{type:TypeId}{pos:String}{after:Array Edge}{guard:Option (Nat×Bool)}(ρ:Operand->Value)(t:Operand->D)(hρ:∀x,Rep P M β (t x) (ρ x)){c:Prop}{d:D}{u:Up}(T:TypeId)(x:Operand)(f:Nat)(h:opF P dst ver t s (.field T x f)=some (c,d,u))(E:c):OpOK P C s u U ver M β ((execOp ρ ⟨dst,(.field T x f),type,pos,after,guard⟩).run P w) d:=by
 unfold execOp;simp only;simp only[opF]at h;have y:=hρ x;split at h
 .rename_i a b O R k G H;split at h
  .rename_i off sz S J;split at h
   .rename_i ty g;split at h
    .rename_i o;obtain⟨rfl,rfl,rfl⟩:=h;have⟨z,p⟩:=E;rw[H]at y;have⟨A,K,j⟩:=y;obtain⟨fields,B,rfl,_⟩:=Vj G;have⟨fd,g1,g2,g3,g4⟩:=XaM J;subst g4;rw[K];cases e:ty.isAgg with
     |true=>
      refine .val I (v:=.agg ((A.toArray).extract off (off+sz))) ?_ ?_
      .simp[Instr.field,run_underlying B,g1,part,asAgg,K6 g,e,YN g,o,g2]
      refine⟨(A.drop off).take sz,?_,(j.drop off).take sz⟩;congr 1;simp[List.extract_eq_take_drop]
     |false=>
      have L:sz=1:=by rcases p with h|h;(rw[e]at h;cases h);exact h
      subst L;have⟨N,q,r⟩:=j.get off (k[off]'ab) ac;refine .val I (v:=N) ?_ ?_
      .simp[Instr.field,run_underlying B,g1,part,asAgg,K6 g,e,g2,q]
      simp only[Jm,Iq,if_false];have:((k.drop off).take 1).headD .any=k[off]'ab:=by rw[List.take_one];simp[List.head?_drop,show off<k.length by omega]
      rw[this];exact r
    cases h
   cases h
  cases h
 simp_all
def Xfo(I:U2 P C s U M β w)(_hv:¬U ver){dst:Option Tmp}{type:TypeId}{pos:String}{after:Array Edge}{guard:Option (Nat×Bool)}(ρ:Operand->Value)(t:Operand->D)(hρ:∀x,Rep P M β (t x) (ρ x)){c:Prop}{d:D}{u:Up}(T:TypeId)(x:Operand)(ix:Operand)(h:opF P dst ver t s (.indexAddr T x ix)=some (c,d,u))(r:c):OpOK P C s u U ver M β ((execOp ρ ⟨dst,(.indexAddr T x ix),type,pos,after,guard⟩).run P w) d:=by
 unfold execOp;simp only;simp only[opF]at h;have f:=hρ x;split at h
 .rename_i a b W E sz E' z V i y A B;split at h
  .rename_i G;have⟨rfl,g⟩:=G;obtain⟨rfl,rfl,rfl⟩:=h;have⟨k,H,_⟩:=Vl B (hρ ix);have⟨J,p⟩:=Ya y;rw[A]at f;have⟨q1,q2,q3,base,cap,K,R,f⟩:=f;have L:i.toNat<V.length:=ab;rcases f with rfl|⟨q,o,rfl,f⟩
   .simp at L
   have e:∀{n:Nat},sz=n->n≠0->(sizeOf E).run P w=.ok n w:=λ{n} h1 h2=>Jn (p.symm.trans h1) h2 w;have N:=f.get q1 i.toNat V[i.toNat] (by simp[L]);have Y:V.getD i.toNat []=V[i.toNat]:=by rw[Wj,Wb L];rfl
   rcases Uo sz with S|S
   .exact absurd S g
   refine .val I (v:=.pointer (some ⟨q,o+i.toNat*sz,none⟩)) ?_ ?_
   .rw[K,H];simp[Instr.indexAt,run_underlying J,asIntOf,r.1,r.2,e rfl ab,UY]
   rw[Y];exact⟨q1 _ (Wy _),q,o+i.toNat*sz,ac,N⟩
  cases h
 .rename_i a b W E sz id v z off len i y A B;split at h
  .rename_i G;have⟨rfl,g⟩:=G;obtain⟨rfl,rfl,rfl⟩:=h;obtain⟨k,H,_⟩:=Vl B (hρ ix);obtain⟨J,p⟩:=Ya y;rw[A]at f;simp only[Rep]at f;rcases f with⟨_,_,rfl,_,_⟩|⟨q,Z,o,cap,O,K,R,hcb,ho⟩
   .omega
   have ho':o=off*sz:=by rcases ho with h|h;exact h;omega
   subst ho';refine .val I (v:=.pointer (some ⟨q,off*sz+i.toNat*sz,none⟩)) ?_ ?_
   .rw[K,H];have e:=Jn p.symm g w;simp[Instr.indexAt,run_underlying J,asIntOf,r.1,r.2,e,UY]
   simp only[Rep];exact⟨q,Z,O,by rw[UB];simp⟩
  cases h
 .rename_i a b W n E sz z cs cc i y A B;split at h
  .cases h
  rename_i g;simp only[Wq,Ww]at h;obtain⟨rfl,rfl,rfl⟩:=h;obtain⟨k,H,_⟩:=Vl B (hρ ix);obtain⟨J,p⟩:=K7 y;have e:=Jn p.symm g w;rw[A]at f;simp only[Rep]at f;obtain⟨hz,q,o,K,N⟩:=f;refine .val I (v:=.pointer (some ⟨q,o+cc+i.toNat*sz,none⟩)) ?_ ?_
  .rw[K,H];simp[Instr.indexAt,run_underlying J,asIntOf,Instr.sureAddr,r.1,r.2,e,UY]
  simp only[Rep];exact⟨hz,q,o,by rw[Nat.add_assoc],N⟩
 .rename_i a b W n E sz id v z j cc i y A B;split at h
  .cases h
  rename_i g;simp only[Wq,Ww]at h;obtain⟨rfl,rfl,rfl⟩:=h;obtain⟨k,H,_⟩:=Vl B (hρ ix);obtain⟨J,p⟩:=K7 y;have e:=Jn p.symm g w;rw[A]at f;simp only[Rep]at f;obtain⟨q,Z,O,K⟩:=f;refine .val I (v:=.pointer (some ⟨q,j*z+cc+i.toNat*sz,none⟩)) ?_ ?_
  .rw[K,H];simp[Instr.indexAt,run_underlying J,asIntOf,Instr.sureAddr,r.1,r.2,e,UY]
  simp only[Rep];exact⟨q,Z,O,by rw[Nat.add_assoc]⟩
 simp_all
def XlO(I:U2 P C s U M β w)(_hv:¬U ver){dst:Option Tmp}{type:TypeId}{pos:String}{after:Array Edge}{guard:Option (Nat×Bool)}(ρ:Operand->Value)(t:Operand->D)(hρ:∀x,Rep P M β (t x) (ρ x)){c:Prop}{d:D}{u:Up}(T:TypeId)(x:Operand)(ix:Operand)(h:opF P dst ver t s (.index T x ix)=some (c,d,u))(J:c):OpOK P C s u U ver M β ((execOp ρ ⟨dst,(.index T x ix),type,pos,after,guard⟩).run P w) d:=by
 unfold execOp;simp only;simp only[opF]at h;have A:=hρ x;split at h
 .rename_i a b Y n e sz p i K L N;split at h
  .rename_i ty g;split at h
   .rename_i j;obtain⟨rfl,rfl,rfl⟩:=h;have⟨B,E,G,q⟩:=J;have⟨k,O,_⟩:=Vl N (hρ ix);have⟨H,R⟩:=K7 K;rw[L]at A;have⟨r,S,o⟩:=A;rw[S,O];cases f:ty.isAgg with
    |true=>
     refine .val I (v:=.agg ((r.toArray).extract (i.toNat*sz) (i.toNat*sz+sz))) ?_ ?_
     .simp[Instr.index,run_underlying H,asIntOf,B,E,part,asAgg,K6 g,f,YN g,j]
     refine⟨(r.drop (i.toNat*sz)).take sz,?_,(o.drop (i.toNat*sz)).take sz⟩;congr 1;simp[List.extract_eq_take_drop]
    |false=>
     have V:sz=1:=by rcases q with h|h;(rw[f]at h;cases h);exact h
     subst V;have⟨x0,y,z⟩:=o.get (i.toNat*1) (p[i.toNat*1]'ab) ac;refine .val I (v:=x0) ?_ ?_
     .simp[Instr.index,run_underlying H,asIntOf,B,E,part,asAgg,K6 g,f,YN g,j];have:r[i.toNat]? = some x0:=by rw[←y,Nat.mul_one]
      simp[this]
     simp only[Jm,Iq,if_false];have:((p.drop (i.toNat*1)).take 1).headD .any=p[i.toNat*1]'ab:=by rw[List.take_one];have W:i.toNat<p.length:=ab;simp[List.head?_drop,W]
     rw[this];exact z
   cases h
  cases h
 simp_all
def Xh7(I:U2 P C s U M β w)(_hv:¬U ver){dst:Option Tmp}{type:TypeId}{pos:String}{after:Array Edge}{guard:Option (Nat×Bool)}(ρ:Operand->Value)(t:Operand->D)(hρ:∀x,Rep P M β (t x) (ρ x)){c:Prop}{d:D}{u:Up}(x:Operand)(i:Nat)(h:opF P dst ver t s (.extract x i)=some (c,d,u))(r:c):OpOK P C s u U ver M β ((execOp ρ ⟨dst,(.extract x i),type,pos,after,guard⟩).run P w) d:=by
 unfold execOp;simp only;simp only[opF]at h;have j:=hρ x;split at h
 .rename_i o p;split at h
  .rename_i k;obtain⟨rfl,rfl,rfl⟩:=h;rw[p]at j;have⟨y,q,e⟩:=j;have⟨v,f,g⟩:=e.get i o[i] (by simp[k]);refine .val I (v:=v) ?_ ?_
   .rw[q];simp[Instr.extract,f]
   rw[Wj,Wb k];exact g
  cases h
 simp_all
def Xa7{t:Operand->D}{ρ:Operand->Value}(hρ:∀x,Rep P M β (t x) (ρ x)){args:Array Operand}{d:D}(h:args.toList.map t=[d]):∃v,args.map ρ=#[v]/\Rep P M β d v:=by
 have⟨l⟩:=args;match l,h with
 |[x],h=>grind
def VQ{t:Operand->D}{ρ:Operand->Value}(hρ:∀x,Rep P M β (t x) (ρ x)){args:Array Operand}{d e:D}(h:args.toList.map t=[d,e]):∃v u,args.map ρ=#[v,u]/\Rep P M β d v/\Rep P M β e u:=by
 have⟨l⟩:=args;match l,h with
 |[x,y],h=>grind
def XbD{types:Array TypeId}{T:TypeId}(h:types.toList=[T]):types=#[T]:=by grind
def Xku{types:Array TypeId}{T T2:TypeId}(h:types.toList=[T,T2]):types=#[T,T2]:=by grind
def Xah{n:Nat}(h:n<=XC):wfV (.int .i64 n):=by simp only[wfV,IntKind.min,IntKind.max,IntKind.signed,IntKind.bits,if_true];grind[XC]
def Xra(I:U2 P C s U M β w){dst:Option Tmp}{type:TypeId}{pos:String}{after:Array Edge}{guard:Option (Nat×Bool)}(ρ:Operand->Value)(t:Operand->D)(hρ:∀x,Rep P M β (t x) (ρ x)){c:Prop}{d:D}{u:Up}(args:Array Operand)(types:Array TypeId)(h:opF P dst ver t s (.call ⟨.builtin .len,args,types⟩)=some (c,d,u))(N:c):OpOK P C s u U ver M β ((execOp ρ ⟨dst,.call ⟨.builtin .len,args,types⟩,type,pos,after,guard⟩).run P w) d:=by
 simp only[opF]at h;split at h
 .rename_i d0 T O ht;have⟨v,R,g⟩:=Xa7 hρ O;have q:=XbD ht;subst q;have start:∀r:Int,(Builtin.len_ #[T] type #[v]).run P w=.ok (.int .i64 r) w->(execOp ρ ⟨dst,.call ⟨.builtin .len,args,#[T]⟩,type,pos,after,guard⟩).run P w=.ok (.value (.int .i64 r)) w:=by intro r j;simp[execOp,resolve,invoke,builtin,R,j]
  split at h
  .rename_i a b y E sz e;obtain⟨rfl,rfl,rfl⟩:=h;obtain⟨J,rfl⟩:=g;exact .val I (v:=.int .i64 0) (start 0 (by simp[Builtin.len_,run_underlying (Ya e).1,goInt])) (ZK _ _ (Xah (n:=0) ag))
  .rename_i a b y E sz E' z p e;obtain⟨rfl,rfl,rfl⟩:=h;obtain⟨_,L,_,J,cap,rfl,_⟩:=g;exact .val I (v:=.int .i64 p.length) (start _ (by simp[Builtin.len_,run_underlying (Ya e).1,goInt])) (ZK _ _ (Xah L))
  .rename_i a b y E sz id S z off len e;obtain⟨rfl,rfl,rfl⟩:=h;have A:∃a cap,v=.slice a len cap:=by
    simp only[Rep]at g;rcases g with⟨_,_,rfl,a,rfl⟩|⟨_,_,_,cap,_,rfl,_⟩
    .exact⟨_,_,rfl⟩
    exact⟨_,_,rfl⟩
   obtain⟨J,cap,rfl⟩:=A;exact .val I (v:=.int .i64 len) (start _ (by simp[Builtin.len_,run_underlying (Ya e).1,goInt])) (ZK _ _ (Xah N))
  .rename_i a b y n E sz e;split at h
   .rename_i V;simp only[Wq,Ww]at h;obtain⟨rfl,rfl,rfl⟩:=h;exact .val I (v:=.int .i64 n) (start _ (by simp[Builtin.len_,run_underlying (K7 e).1,goInt])) (ZK _ _ (Xah V))
   cases h
  .rename_i id W _;split at h
   .rename_i k E S k2 p e Y;split at h
    .rename_i f;obtain⟨rfl,rfl⟩:=f;simp only[Wq,Ww]at h;obtain⟨rfl,rfl,rfl⟩:=h;obtain⟨K,B,Z⟩:=Kt e;simp only[Rep]at g;obtain⟨b,cb,hb,rfl⟩:=g;obtain⟨x0,o,G⟩:=I.obs id W _ Y;rw[hb]at o;obtain rfl:some (b,cb)=x0:=by simpa using o
     obtain⟨rfl,h1,L,ents,clock,h3,h4,h5,h6⟩:=G;have hl:=h4.length;have H:ents.size=p.length:=by simpa using hl
     exact .val I (v:=.int .i64 p.length) (start _ (by simp[Builtin.len_,run_underlying B,goInt,Go.MapKept.run_getObj_map h3,H])) (ZK _ _ (Xah h1))
    cases h
   cases h
  cases h
 simp_all
def Xkv(I:U2 P C s U M β w){dst:Option Tmp}{type:TypeId}{pos:String}{after:Array Edge}{guard:Option (Nat×Bool)}(ρ:Operand->Value)(t:Operand->D)(hρ:∀x,Rep P M β (t x) (ρ x)){c:Prop}{d:D}{u:Up}(args:Array Operand)(types:Array TypeId)(h:opF P dst ver t s (.call ⟨.builtin .delete,args,types⟩)=some (c,d,u))(_hc:c):OpOK P C s u U ver M β ((execOp ρ ⟨dst,.call ⟨.builtin .delete,args,types⟩,type,pos,after,guard⟩).run P w) d:=by
 simp only[opF]at h;split at h
 .rename_i id v k' n T O p ht;have⟨v1,v2,B,G,H⟩:=VQ hρ p;have⟨tl⟩:=types;subst ht;split at h
  .rename_i k E v' k2 W Y J;split at h
   .rename_i g;have⟨rfl,rfl,rfl⟩:=g;obtain⟨rfl,rfl,rfl⟩:=h;have⟨K,r,f⟩:=Kt Y;obtain⟨b,Z,hb,rfl⟩:=G;obtain⟨rfl,_⟩:=H;have⟨x0,z,L⟩:=I.obs id v _ J;rw[hb]at z;obtain rfl:some (b,Z)=x0:=by simpa using z
    obtain⟨rfl,h1,h2,ents,clock,q,R,S,V⟩:=L;have start:∀a,Instr.findNow (.int k) (.int k n) ents.toList 0=some a->(Builtin.delete_ ⟨T::O⟩ type #[.map (some b),.int k n]).run P w =
     .ok (.tuple #[]) {w with heap:=w.heap.setIfInBounds b (.map (match a with|some (i,_)=>ents.eraseIdxIfInBounds i|none=>ents) clock)}:=by
     intro a p
     unfold Builtin.delete_
     cases a with
     |none=>simp[run_underlying r,Go.MapKept.run_getObj_map q,Go.MapKept.run_checkKey f (Xag k n),Go.MapKept.run_findKey f p,Go.MapKept.run_setObj_map _ q]
     |some y=>simp[run_underlying r,Go.MapKept.run_getObj_map q,Go.MapKept.run_checkKey f (Xag k n),Go.MapKept.run_findKey f p,Go.MapKept.run_setObj_map _ q]
    have start2:∀a,Instr.findNow (.int k) (.int k n) ents.toList 0=some a->(execOp ρ ⟨dst,.call ⟨.builtin .delete,args,⟨T::O⟩⟩,type,pos,after,guard⟩).run P w =
     .ok (.value (.tuple #[])) {w with heap:=w.heap.setIfInBounds b (.map (match a with|some (i,_)=>ents.eraseIdxIfInBounds i|none=>ents) clock)}:=by
     intro a p
     simp[execOp,resolve,invoke,builtin,B,start a p]
    rcases Xa6 n ents.toList W 0 R with⟨g1,g2,g3,g4⟩|⟨j,e,d0,g1,g2,g3,g4,g5,g6,g7,g8,g9⟩
    .refine⟨M,β,_,.tuple #[],.inl (start2 _ g4),?_,by simp[Rep,RepL],MLe.refl _,BLe.refl _⟩;rw[g2];exact(I.setMap J hb q h1 R S V).mono λ_ h=>.inl h
    have o:(ents.eraseIdxIfInBounds (0+j)).toList=ents.toList.eraseIdx j:=by
     have hj:j<ents.size:=by
      rcases UA j ents.size with N|N
      .exact N
      rw[WP (by exact N)]at g3;cases g3
     rw[UG];simp[Array.eraseIdxIfInBounds,hj]
    refine⟨M,β,_,.tuple #[],.inl (start2 _ g2),?_,by simp[Rep,RepL],MLe.refl _,BLe.refl _⟩;refine(I.setMap J hb q ab (by rw[o];exact g7) ?_ ?_).mono λ_ h=>.inl h
    .rw[o];exact S.sublist ((List.eraseIdx_sublist _ _).map _)
    intro e' A;rw[o]at A;exact V e' (List.mem_of_mem_eraseIdx A)
   cases h
  cases h
 simp_all
def Xrb(I:U2 P C s U M β w){dst:Option Tmp}{type:TypeId}{pos:String}{after:Array Edge}{guard:Option (Nat×Bool)}(ρ:Operand->Value)(t:Operand->D)(hρ:∀x,Rep P M β (t x) (ρ x)){c:Prop}{d:D}{u:Up}(args:Array Operand)(types:Array TypeId)(h:opF P dst ver t s (.call ⟨.builtin .cap,args,types⟩)=some (c,d,u))(_hc:c):OpOK P C s u U ver M β ((execOp ρ ⟨dst,.call ⟨.builtin .cap,args,types⟩,type,pos,after,guard⟩).run P w) d:=by
 simp only[opF]at h;split at h
 .rename_i o T f ht;have⟨v,g,j⟩:=Xa7 hρ f;have e:=XbD ht;subst e;split at h
  .rename_i a b p E sz k;obtain⟨rfl,rfl,rfl⟩:=h;obtain⟨q,rfl⟩:=j;exact .val I (v:=.int .i64 0) (by simp[execOp,resolve,invoke,builtin,g,Builtin.cap_,run_underlying (Ya k).1,goInt]) (ZK _ _ (Xah (n:=0) ag))
  cases h
 simp_all
def Xrc(I:U2 P C s U M β w){dst:Option Tmp}{type:TypeId}{pos:String}{after:Array Edge}{guard:Option (Nat×Bool)}(ρ:Operand->Value)(t:Operand->D)(hρ:∀x,Rep P M β (t x) (ρ x)){c:Prop}{d:D}{u:Up}(args:Array Operand)(types:Array TypeId)(h:opF P dst ver t s (.call ⟨.builtin .min,args,types⟩)=some (c,d,u))(_hc:c):OpOK P C s u U ver M β ((execOp ρ ⟨dst,.call ⟨.builtin .min,args,types⟩,type,pos,after,guard⟩).run P w) d:=by
 simp only[opF]at h;split at h
 .rename_i j a k b g;split at h
  .rename_i o;subst o;have⟨q,r,p,e,f⟩:=VQ hρ g;obtain⟨rfl,rfl,rfl⟩:=h;obtain⟨rfl,w1⟩:=e;obtain⟨rfl,w2⟩:=f;refine .val I (v:=.int j (if b<a then b else a)) (by simp[execOp,resolve,invoke,builtin,p,Builtin.min_,Builtin.min2]) (ZK _ _ ?_);split<;>assumption
  cases h
 simp_all
def Xrd(I:U2 P C s U M β w){dst:Option Tmp}{type:TypeId}{pos:String}{after:Array Edge}{guard:Option (Nat×Bool)}(ρ:Operand->Value)(t:Operand->D)(hρ:∀x,Rep P M β (t x) (ρ x)){c:Prop}{d:D}{u:Up}(args:Array Operand)(types:Array TypeId)(h:opF P dst ver t s (.call ⟨.builtin .max,args,types⟩)=some (c,d,u))(_hc:c):OpOK P C s u U ver M β ((execOp ρ ⟨dst,.call ⟨.builtin .max,args,types⟩,type,pos,after,guard⟩).run P w) d:=by
 simp only[opF]at h;split at h
 .rename_i j a k b g;split at h
  .rename_i o;subst o;have⟨q,r,p,e,f⟩:=VQ hρ g;obtain⟨rfl,rfl,rfl⟩:=h;obtain⟨rfl,w1⟩:=e;obtain⟨rfl,w2⟩:=f;refine .val I (v:=.int j (if a<b then b else a)) (by simp[execOp,resolve,invoke,builtin,p,Builtin.max_,Builtin.max2]) (ZK _ _ ?_);split<;>assumption
  cases h
 simp_all
def Xkw(I:U2 P C s U M β w)(G:¬U ver){dst:Option Tmp}{type:TypeId}{pos:String}{after:Array Edge}{guard:Option (Nat×Bool)}(ρ:Operand->Value)(t:Operand->D)(hρ:∀x,Rep P M β (t x) (ρ x)){c:Prop}{d:D}{u:Up}(args:Array Operand)(types:Array TypeId)(h:opF P dst ver t s (.call ⟨.builtin .append,args,types⟩)=some (c,d,u))(f:c):OpOK P C s u U ver M β ((execOp ρ ⟨dst,.call ⟨.builtin .append,args,types⟩,type,pos,after,guard⟩).run P w) d:=by
 simp only[opF]at h;split at h
 .rename_i d0 x0 T T2 ha ht;have⟨J,K,L,y,A⟩:=VQ hρ ha;have N:=Xku ht;subst N;have start:∀{d u},VOK P C s u U ver M β ((Builtin.append_ #[T,T2] type #[J,K]).run P w) d->OpOK P C s u U ver M β ((execOp ρ ⟨dst,.call ⟨.builtin .append,args,#[T,T2]⟩,type,pos,after,guard⟩).run P w) d:=by
   intro d u hk;have:=VOK.op (sem:=Builtin.append_ #[T,T2] type #[J,K]) hk;have e:(execOp ρ ⟨dst,.call ⟨.builtin .append,args,#[T,T2]⟩,type,pos,after,guard⟩).run P w=((do pure (Next.value (←Builtin.append_ #[T,T2] type #[J,K])):Sem Next)).run P w:=by simp[execOp,resolve,invoke,builtin,L]
   rw[e];exact this
  split at h
  .rename_i a b zz E z Z;split at h
   .rename_i j H;split at h
    .rename_i zc g;split at h
     .rename_i o;have⟨O,p⟩:=o;have⟨z1,z2⟩:=Zq (P:=P) (M:=M) (β:=β) g;have B:j.zero.cells.size=j.size:=by have:=z1.length;simp at this;omega
      split at h
      .rename_i a2 b2 S E2 sz2 q;split at h
       .rename_i c0 src V;have r:c0:=by
         unfold Xeh at h;split at h
         .simp at h;rw[←h.1]at f;exact f.1
         .split at h
          .split at h
           .split at h
            .simp at h;rw[←h.1]at f;exact f.1
            simp at h;rw[←h.1]at f;exact f.1
           cases h
          cases h
         cases h
        obtain⟨base,cap,vals,rfl,e1,e2,e3,e4,e5,e6⟩:=Xgs I V r A;have R:=Xfi (w:=w) (o':=type) (Ya Z).1 (Ya q).1 H (xb:=base) (m:=src.length) (xc:=cap) (vals:=vals) (by rw[O];exact e2) e3 e4 e6;exact start (Xi7 I G H O g p e1 e5 e6 R h f y)
       cases h
      .rename_i a2 b2 S k2 q;split at h
       .rename_i n hn;have r:(0<=n/\n<=XC/\n.toNat*j.bytes<=XC):=by
         unfold Xeh at h;split at h
         .simp only[Wq,Ww]at h;rw[←h.1]at f;exact f.1
         .split at h
          .split at h
           .split at h
            .simp only[Wq,Ww]at h;rw[←h.1]at f;exact f.1
            simp only[Wq,Ww]at h;rw[←h.1]at f;exact f.1
           cases h
          cases h
         cases h
        have⟨g0,g1,g2⟩:=r;have⟨k',W,_⟩:=Vl hn A;subst W;have Y:(if n.toNat*j.size=0 then([]:List Value)else(Builtin.zeroCells j.zero.cells n.toNat).toList)=(Builtin.zeroCells j.zero.cells n.toNat).toList:=by
         split
         .rename_i h0;refine(WK ?_).symm;rw[U6,Ys,B];exact h0
         rfl
        have k:∀v∈(Builtin.zeroCells j.zero.cells n.toNat).toList,v.oneCell'=true:=λv G=>Zr z2 n.toNat v (by simpa using G);have R:=Xgt (w:=w) (o':=type) (k':=k') (Ya Z).1 (Xff q) H g0 g1 g2 (vals:=(Builtin.zeroCells j.zero.cells n.toNat).toList) Y.symm k B;exact start (Xi7 I G H O g p (Y6 _ _ _ p) (Xae g n.toNat) k (by rw[W6];exact R) h f y)
       cases h
      cases h
     cases h
    cases h
   cases h
  cases h
 simp_all
def XlP(I:U2 P C s U M β w){dst:Option Tmp}{type:TypeId}{pos:String}{after:Array Edge}{guard:Option (Nat×Bool)}(ρ:Operand->Value)(t:Operand->D)(hρ:∀x,Rep P M β (t x) (ρ x)){c:Prop}{d:D}{u:Up}(args:Array Operand)(types:Array TypeId)(h:opF P dst ver t s (.call ⟨.builtin .clear,args,types⟩)=some (c,d,u))(hc:c):OpOK P C s u U ver M β ((execOp ρ ⟨dst,.call ⟨.builtin .clear,args,types⟩,type,pos,after,guard⟩).run P w) d:=by
 simp only[opF]at h;split at h
 .rename_i id v z off len T W ht;have⟨Y,r,j⟩:=Xa7 hρ W;have Z:=XbD ht;subst Z;split at h
  .rename_i a b zz E sz hT;split at h
   .rename_i O hE;split at h
    .rename_i R v' E' z' B fz G A;split at h
     .rename_i f;have⟨rfl,rfl,rfl,hz,hzl⟩:=f;obtain⟨rfl,rfl,rfl⟩:=h;have⟨H,hfz⟩:=hc;have⟨hu,hcz⟩:=Ya hT;have start:∀{w'},(Builtin.clear_ #[T] type #[Y]).run P w=.ok (.tuple #[]) w'->(execOp ρ ⟨dst,.call ⟨.builtin .clear,args,#[T]⟩,type,pos,after,guard⟩).run P w=.ok (.value (.tuple #[])) w':=by intro w' hk;simp[execOp,resolve,invoke,builtin,r,hk]
      have same:len=0->upd s id (some (v,.arr false E' z (B.take off++List.replicate len R++B.drop (off+len)) fz))=s:=by
       rintro rfl;funext i;unfold upd;split
       .rename_i e;subst e;rw[A];simp
       rfl
      have nil:∀{a cap},len=0->Y=.slice a 0 cap->OpOK P C s [(id,v,.arr false E' z (B.take off++List.replicate len R++B.drop (off+len)) fz)] U ver M β ((execOp ρ ⟨dst,.call ⟨.builtin .clear,args,#[T]⟩,type,pos,after,guard⟩).run P w) (.tup []):=by
       intro a cap S h1;subst h1;refine⟨M,β,w,.tuple #[],.inl (start ?_),?_,by simp[Rep,RepL],MLe.refl _,BLe.refl _⟩
       .unfold Builtin.clear_;cases a<;>simp[run_underlying hu]
       rw[Xkn,same S];exact I.mono λ_ h=>.inl h
      have⟨x0,g,y⟩:=I.obs id v _ A;rcases j with⟨hn,h1,h2,a,rfl⟩|⟨bb,V,o,cap,J,rfl,hcap,hcb,ho⟩
      .exact nil h2 rfl
      rw[J]at g;obtain rfl:some (bb,V)=x0:=by simpa using g
      have⟨cs,T0,k1,k2,k3,k4,k5,k6,k7,k8,k9,k10⟩:=y;by_cases S:len=0
      .subst S;exact nil rfl rfl
      have ho':o=off*z:=by rcases ho with h|h;exact h;omega
      subst ho';have⟨z1,z2⟩:=Zq (P:=P) (M:=M) (β:=YK) G;have hzs:O.zero.cells.size=z:=by have:=z1.length;simp at this;omega
      have L:(Builtin.zeroCells O.zero.cells len).toList.length=(List.replicate len R).length*z:=by rw[U6,Ys,W6,hzs]
      have q:∀x∈(Builtin.zeroCells O.zero.cells len).toList,x.oneCell'=true:=λx hx=>Zr z2 len x (by simpa using hx);have N:(off+len)*z<=V*z:=W9 _ ab;rw[UB]at N;have hst:=run_storeCells_at P bb (off*z) T0 (Builtin.zeroCells O.zero.cells len).toList 0 cs w k1 (by rw[L,W6];omega) q;have I':=I.seg (p:=off) (src:=List.replicate len R) A J k1 k2 k3 k4 k8 (by exact k10) (λe he=>by rw[(IG.1 he).2];exact hzl) L (Xae G len) q (by rw[W6];exact H) hfz;rw[W6]at I';refine⟨M,β,_,.tuple #[],.inl (start ?_),(by rw[Xkn];exact I'.mono λ_ h=>.inl h),by simp[Rep,RepL],MLe.refl _,BLe.refl _⟩;unfold Builtin.clear_;cases len with
      |zero=>exact absurd rfl S
      |succ len=>simp[run_underlying hu,KH hE,hst]
     cases h
    cases h
   cases h
  cases h
 .rename_i id v T ts W ht;have⟨Y,r,j⟩:=Xa7 hρ W;have⟨tl⟩:=types;subst ht;split at h
  .rename_i k E v' k2 B hT A;split at h
   .rename_i f;have⟨rfl,rfl⟩:=f;simp only[Wq,Ww]at h;obtain⟨rfl,rfl,rfl⟩:=h;obtain⟨K,hT1,hT2⟩:=Kt hT;simp only[Rep]at j;obtain⟨b,V,hb,rfl⟩:=j;obtain⟨x0,g,y⟩:=I.obs id v _ A;rw[hb]at g;obtain rfl:some (b,V)=x0:=by simpa using g
    obtain⟨rfl,h1,h2,ents,clock,h3,h4,h5,h6⟩:=y;have start:(execOp ρ ⟨dst,.call ⟨.builtin .clear,args,⟨T::ts⟩⟩,type,pos,after,guard⟩).run P w=.ok (.value (.tuple #[])) {w with heap:=w.heap.setIfInBounds b (.map #[] clock)}:=by
     have:(Builtin.clear_ ⟨T::ts⟩ type #[.map (some b)]).run P w=.ok (.tuple #[]) {w with heap:=w.heap.setIfInBounds b (.map #[] clock)}:=by unfold Builtin.clear_;simp[run_underlying hT1,Go.MapKept.run_getObj_map h3,Go.MapKept.run_setObj_map _ h3]
     simp[execOp,resolve,invoke,builtin,r,this]
    refine⟨M,β,_,.tuple #[],.inl start,?_,by simp[Rep,RepL],MLe.refl _,BLe.refl _⟩;exact(I.setMap (es':=[]) (ents':=#[]) A hb h3 (IO _) rfl ac ac).mono λ_ h=>.inl h
   cases h
  cases h
 simp_all
def XoU(I:U2 P C s U M β w){dst:Option Tmp}{type:TypeId}{pos:String}{after:Array Edge}{guard:Option (Nat×Bool)}(ρ:Operand->Value)(t:Operand->D)(hρ:∀x,Rep P M β (t x) (ρ x)){c:Prop}{d:D}{u:Up}(args:Array Operand)(types:Array TypeId)(h:opF P dst ver t s (.call ⟨.builtin .copy,args,types⟩)=some (c,d,u))(hc:c):OpOK P C s u U ver M β ((execOp ρ ⟨dst,.call ⟨.builtin .copy,args,types⟩,type,pos,after,guard⟩).run P w) d:=by
 simp only[opF]at h;split at h
 .rename_i id v z off len x T L ha ht;have⟨v1,v2,N,O,R⟩:=VQ hρ ha;have⟨types⟩:=types;subst ht;split at h
  .rename_i a b zz E sz hT;split at h
   .rename_i te v' E' z' H fz c0 src hE J S;split at h
    .rename_i k;have⟨rfl,rfl,rfl,hz⟩:=k;obtain⟨rfl,rfl,rfl⟩:=h;have⟨V,q,r,W⟩:=hc;have⟨hu,hcz⟩:=Ya hT;obtain⟨base,cap2,vals,rfl,e1,y,e3,e4,e5,e6⟩:=Xgs I S V R;have Y:(Builtin.firstCells te.size src.length (.slice base src.length cap2)).run P w=.ok vals.toArray w:=by
      cases base with
      |none=>have hm:=e3 rfl;have:vals=[]:=WK (by rw[y,hm,Nat.zero_mul]);subst this;simp[Builtin.firstCells]
      |some a=>exact run_firstCells_some (P:=P) w te.size src.length a src.length cap2 vals (by rw[hz];exact y) (λj v hj=>e4 a rfl j v hj)
     have start:∀{w' Z},(Builtin.copy_ ⟨T::L⟩ type #[v1,.slice base src.length cap2]).run P w=.ok Z w'->(execOp ρ ⟨dst,.call ⟨.builtin .copy,args,⟨T::L⟩⟩,type,pos,after,guard⟩).run P w=.ok (.value Z) w':=by intro w' Z hk;simp[execOp,resolve,invoke,builtin,N,hk]
     have hl47:src.length<=140737488355328:=by
      have:=(I.obs id v _ J)
      obtain⟨x0,_,f⟩:=this;cases x0 with
      |none=>obtain⟨_,h2,_⟩:=f;subst h2;simp at r;omega
      |some bc=>obtain⟨_,_,_,_,_,_,h5,_⟩:=f;simp only[XC]at h5;omega
     have g:Rep P M β (.v (.int .i64 (src.length:Int))) (goInt src.length):=ZK _ _ ⟨by show(-9223372036854775808:Int)<=_;omega,by show _<=(9223372036854775807:Int);omega⟩;have hn:Nat.min src.length len=src.length:=I4 q;have nil:∀{a cap},src=[]->v1=.slice a len cap->OpOK P C s [(id,v,.arr false E' z (H.take off++src++H.drop (off+src.length)) fz)] U ver M β ((execOp ρ ⟨dst,.call ⟨.builtin .copy,args,⟨T::L⟩⟩,type,pos,after,guard⟩).run P w) (.v (.int .i64 (src.length:Int))):=by
      intro a cap K h1;subst h1;have hv0:vals=[]:=WK (by rw[y,K];simp);have same:upd s id (some (v,.arr false E' z (H.take off++src++H.drop (off+src.length)) fz))=s:=by
       funext i;unfold upd;split
       .rename_i e;subst e;rw[J,K];simp
       rfl
      refine⟨M,β,w,goInt src.length,.inl (start ?_),?_,g,MLe.refl _,BLe.refl _⟩
      .unfold Builtin.copy_;rw[hv0]at Y;cases a<;>simp[run_underlying hu,Builtin.lenOf,hn,YN hE,Y,storeCells]
      rw[Xkn,same];exact I.mono λ_ h=>.inl h
     have⟨x0,A,f⟩:=I.obs id v _ J;rcases O with⟨hn0,h1,h2,a,rfl⟩|⟨bb,cb,o,cap,B,rfl,hcap,hcb,ho⟩
     .subst h2;exact nil (WK ab) rfl
     rw[B]at A;obtain rfl:some (bb,cb)=x0:=by simpa using A
     have⟨cs,T0,k1,k2,k3,k4,k5,k6,k7,k8,k9,k10⟩:=f;by_cases K:src.length=0
     .exact nil (WK K) rfl
     have ho':o=off*z:=by rcases ho with h|h;exact h;omega
     subst ho';have G:(off+src.length)*z<=cb*z:=W9 _ ab;rw[UB]at G;have hst:=run_storeCells_at P bb (off*z) T0 vals 0 cs w k1 (by rw[y];omega) e6;have I':=I.seg (p:=off) (src:=src) J B k1 k2 k3 k4 k8 (by exact k10) e1 y e5 e6 ab W;refine⟨M,β,_,goInt src.length,.inl (start ?_),(by rw[Xkn];exact I'.mono λ_ h=>.inl h),g,MLe.refl _,BLe.refl _⟩;unfold Builtin.copy_;simp[run_underlying hu,Builtin.lenOf,hn,YN hE,Y,hst]
    cases h
   cases h
  cases h
 simp_all
def Vn{t:TypeId}{ty:OD}(h:Xr P t=some ty)(f:¬ty.isIface=true):∃d,P.underlying t=some d/\∀m,d≠.interface m:=by have⟨i,d,_,g,_,_,_,j⟩:=Yl h;refine⟨d,g,λm e=>f ?_⟩;subst e;unfold OD.isIface;rw[←j];rfl
def XbE(I:U2 P C s U M β w)(_hv:¬U ver){dst:Option Tmp}{type:TypeId}{pos:String}{after:Array Edge}{guard:Option (Nat×Bool)}(ρ:Operand->Value)(t:Operand->D)(hρ:∀x,Rep P M β (t x) (ρ x)){c:Prop}{d:D}{u:Up}(T:TypeId)(x:Operand)(h:opF P dst ver t s (.makeInterface T x)=some (c,d,u))(o:c):OpOK P C s u U ver M β ((execOp ρ ⟨dst,(.makeInterface T x),type,pos,after,guard⟩).run P w) d:=by
 unfold execOp;simp only[opF]at h;split at h
 .rename_i ty f;split at h
  .cases h
  rename_i g;obtain⟨rfl,rfl,rfl⟩:=h;have⟨j,k,e⟩:=Vn f g;refine .val I (v:=.iface T (ρ x)) ?_ ?_
  .cases j<;>first|exact absurd rfl (e _)|simp[Instr.makeInterface,run_underlying k]
  exact⟨_,rfl,hρ x⟩
 simp_all
def Xem(I:U2 P C s U M β w)(_hv:¬U ver){dst:Option Tmp}{type:TypeId}{pos:String}{after:Array Edge}{guard:Option (Nat×Bool)}(ρ:Operand->Value)(t:Operand->D)(hρ:∀x,Rep P M β (t x) (ρ x)){c:Prop}{d:D}{u:Up}(x:Operand)(xT A:TypeId)(ok:Bool)(h:opF P dst ver t s (.typeAssert x xT A ok)=some (c,d,u))(E:c):OpOK P C s u U ver M β ((execOp ρ ⟨dst,(.typeAssert x xT A ok),type,pos,after,guard⟩).run P w) d:=by
 unfold execOp;simp only;simp only[opF]at h;have j:=hρ x;split at h
 .rename_i p T G g q;rw[q]at j;split at h
  .cases h
  rename_i r;have⟨k,o,f⟩:=Vn g r;have⟨y,z,B⟩:=j;split at h
  .rename_i e;obtain⟨rfl,rfl,rfl⟩:=h;refine .val I (v:=.tuple #[y,.bool true]) ?_ ?_
   .rw[z];cases k<;>first|exact absurd rfl (f _)|simp[Instr.typeAssert,run_underlying o,e]
   exact⟨_,rfl,_,_,rfl,B,_,_,rfl,⟨rfl,trivial⟩,rfl⟩
  rename_i e;obtain⟨rfl,rfl,rfl⟩:=h;refine .val I (v:=.tuple #[p.zero,.bool false]) ?_ ?_
  .rw[z];cases k<;>first|exact absurd rfl (f _)|simp[Instr.typeAssert,run_underlying o,e,KH g]
  exact⟨_,rfl,_,_,rfl,Xad _,_,_,rfl,⟨rfl,trivial⟩,rfl⟩
 .rename_i p g q;rw[q]at j;split at h
  .cases h
  rename_i r;have⟨k,o,f⟩:=Vn g r;simp only[Wq,Ww]at h;obtain⟨rfl,rfl,rfl⟩:=h;refine .val I (v:=.tuple #[p.zero,.bool false]) ?_ ?_
  .rw[j.1];cases k<;>first|exact absurd rfl (f _)|simp[Instr.typeAssert,run_underlying o,KH g]
  simp only[Rep,RepL];exact⟨_,rfl,_,_,rfl,Xad _,_,_,rfl,⟨rfl,trivial⟩,rfl⟩
 simp_all
def XlQ(I:U2 P C s U M β w)(p:¬U ver)(o:Oper)(ρ:Operand->Value)(t:Operand->D)(hρ:∀x,Rep P M β (t x) (ρ x))(q:∀v,ρ (.const v)=v){c:Prop}{d:D}{u:Up}(h:opF P o.dst ver t s o.op=some (c,d,u))(j:c):OpOK P C s u U ver M β ((execOp ρ o).run P w) d:=by
 have⟨dst,op,type,pos,after,guard⟩:=o;cases op with
 |move x=>exact XoQ I p ρ t hρ x h j
 |assign x=>exact Xks I p ρ t hρ x h j
 |pick g a b=>exact XoR I p ρ t hρ g a b h j
 |alloc T=>exact XlI I p ρ t hρ T h j
 |box T x=>exact Xq9 I p ρ t hρ T x h j
 |build T parts=>exact XlJ I p ρ t hρ T parts h j
 |buildSlice T n parts=>exact Xel I p ρ t hρ T n parts h j
 |load T a=>exact XoS I p ρ t hρ T a h j
 |store T a x=>exact XlK I p ρ t hρ T a x h j
 |nilCheck x=>exact Xgv I p ρ t hρ x h j
 |binOp op T x y z=>exact XlL I p ρ t hρ op T x y z (λv e=>by simp_all) h j
 |unOp op T x=>exact XoT I p ρ t hρ op T x h j
 |convert S T x=>exact Xh6 I p ρ t hρ S T x h j
 |makeFunc fn first captured=>exact Xgw I p ρ t hρ fn first captured h j
 |makeSlice T l B=>exact Xfm I p ρ t hρ T l B h j
 |slice T x E G mx=>exact XlM I p ρ t hρ T x E G mx h j
 |fieldAddr T x f=>exact Xfn I p ρ t hρ T x f h j
 |field T x f=>exact XlN I p ρ t hρ T x f h j
 |indexAddr T x ix=>exact Xfo I p ρ t hρ T x ix h j
 |index T x ix=>exact XlO I p ρ t hρ T x ix h j
 |makeMap T r=>exact Xh4 I p ρ t hρ T r h j
 |mapUpdate T m k x=>exact Xfl I p ρ t hρ T m k x h j
 |insert T m k x=>exact Xkq I p ρ t hρ T m k x h j
 |lookup T m k ok=>exact Xkr I p ρ t hρ T m k ok h j
 |extract x i=>exact Xh7 I p ρ t hρ x i h j
 |makeInterface T x=>exact XbE I p ρ t hρ T x h j
 |typeAssert x xT A ok=>exact Xem I p ρ t hρ x xT A ok h j
 |call cl=>
  have⟨callee,args,types⟩:=cl;cases callee with
  |value f=>simp_all[opF]
  |invoke r m=>simp_all[opF]
  |builtin b=>
   cases b with
   |len=>exact Xra I ρ t hρ args types h j
   |delete=>exact Xkv I ρ t hρ args types h j
   |clear=>exact XlP I ρ t hρ args types h j
   |copy=>exact XoU I ρ t hρ args types h j
   |cap=>exact Xrb I ρ t hρ args types h j
   |min=>exact Xrc I ρ t hρ args types h j
   |max=>exact Xrd I ρ t hρ args types h j
   |append=>exact Xkw I p ρ t hρ args types h j
   |_=>simp[opF]at h
 |_=>simp[opF]at h
end
variable {P:Program}
structure St where
 t:Nat->D
 s:Heap
 n:Nat
 k:Nat
def Rel(P:Program)(C:Cx)(st:St)(a:Act)(w:World):Prop:=
 a.defers=C.df/\a.tmps.size=st.n/\∃M β,BLe C.b0 β/\(∀x,Rep P M β (st.t x) (a.tmps.getD x undef))/\U2 P C st.s (·<st.k) M β w
def XbF{C:Cx}{s:Heap}{U:Nat->Prop}{M:Mem}{β:Loc}{w:World}(I:U2 P C s U M β w){t:Nat->D}{a:Act}(h:∀x,Rep P M β (t x) (a.tmps.getD x undef))(x:Operand):
 Rep P M β (ev t C.G x) (a.eval x):=by
 cases x with
 |tmp i=>exact h i
 |const v=>exact Xad v
 |global g=>
  simp only[ev,Act.eval];split
  .rename_i j e;simp only[Rep];exact⟨trivial,g,0,rfl,RepC.mono I.le (I.glob g j e)⟩
  simp[Rep]
 |func f=>simp[ev,Act.eval,Rep,RepL]
def LB:Nat:=1000000
def Kk(lb:List (Nat×Nat)):Loc:=λid v=>if v=0/\LB<=id then(lb[id-LB]?).map some else none
def Jo(ls:List Ob):Heap:=λid=>if LB<=id then(ls[id-LB]?).map (λo=>(0,o))else none
mutual
def FrRep(P:Program)(M:Mem)(w:World)(B:Nat):D->Value->List (Option (Nat×Nat))->Prop
 |.fsl E z f,y,l=>(l=[none]/\f=[]/\∃a,y=.slice a 0 0) \/
  ∃b h o,l=[some (b,h)]/\B<=b/\y=.slice (some ⟨b,o,none⟩) f.length h/\(o=0\/h=0)/\ObRep P M YK w (some (b,h)) (.arr false E z f 0)
 |.fmp k j e,y,l=>∃b,l=[some (b,0)]/\B<=b/\y=.map (some b)/\j.length=e.length/\ObRep P M YK w (some (b,0)) (.mp k (j.zip e))
 |.agg g,y,l=>∃e,y=.agg ⟨e⟩/\FrRepL P M w B g e l
 |.tup g,y,l=>∃e,y=.tuple ⟨e⟩/\FrRepL P M w B g e l
 |.ifc t d,y,l=>∃x,y=.iface t x/\FrRep P M w B d x l
 |.clo fn a b,y,l=>∃p q,y=.func fn ⟨p⟩ ⟨q⟩/\∃r u,l=r++u/\FrRepL P M w B a p r/\FrRepL P M w B b q u
 |.any,_,l=>l=[]
 |.v x,y,l=>l=[]/\Rep P M YK (.v x) y
 |.nsl,y,l=>l=[]/\Rep P M YK .nsl y
 |.isl E z f,y,l=>l=[]/\Rep P M YK (.isl E z f) y
 |.ipt z g c,y,l=>l=[]/\Rep P M YK (.ipt z g c) y
 |_,_,_=>False
def FrRepL(P:Program)(M:Mem)(w:World)(B:Nat):List D->List Value->List (Option (Nat×Nat))->Prop
 |[],e,l=>e=[]/\l=[]
 |d::j,e,l=>∃x f g h,e=x::f/\l=g++h/\FrRep P M w B d x g/\FrRepL P M w B j f h
end
def X3(l:List (Option (Nat×Nat))):List Nat:=l.filterMap (·.map (·.1))
def XoV(P:Program)(M:Mem)(w:World)(lb:List (Nat×Nat))(R:D->List Ob->Prop)(e:Ending)(w':World):Prop:=
 ∃v r ls M' l,e=.returned v/\R r ls/\Kp w (lb.map (·.1)) w'/\MemOK M' w'/\(∀b o,b<w.heap.size->M' b o=M b o)/\ls.length=lb.length /\
  (∀(k:Nat)ob x,ls[k]? = some ob->lb[k]? = some x->ObRep P M' YK w' (some x) ob/\ob.bx=true)/\FrRep P M' w' w.heap.size r v l/\(X3 l).Nodup
def YZ(P:Program)(G:Nat->Option (List D))(f:FuncId)(args:List D)(lent:List Ob)(R:D->List Ob->Prop):Prop:=
 (∃fn,P.funcs[f]? = some fn/\fn.body.isNone=false/\(fn.name== "runtime.NumGoroutine")=false) /\
 ∀M w e lb,MemOK M w->(∀g h,G g=some h->RepC P M h g 0)->lb.length=lent.length->(lb.map (·.1)).Nodup ->
  (∀(k:Nat)ob x,lent[k]? = some ob->lb[k]? = some x->ObRep P M YK w (some x) ob/\ob.bx=true)->RepL P M (Kk lb) args e->Calls P f ⟨e⟩ w (XoV P M w lb R)
mutual
def imp(ver:Nat):Nat->D->D×Nat×Up
 |n,.fsl E z f=>(.osl n ver z 0 f.length,n+1,[(n,ver,.arr false E z f 0)])
 |n,.fmp k g h=>(.omp n ver,n+1,[(n,ver,.mp k (g.zip h))])
 |n,.agg e=>let r:=VK ver n e;(.agg r.1,r.2.1,r.2.2)
 |n,.tup e=>let r:=VK ver n e;(.tup r.1,r.2.1,r.2.2)
 |n,.ifc t d=>let r:=imp ver n d;(.ifc t r.1,r.2.1,r.2.2)
 |n,.clo fn a b=>let r:=VK ver n a;let q:=VK ver r.2.1 b;(.clo fn r.1 q.1,q.2.1,r.2.2++q.2.2)
 |n,d=>(d,n,[])
def VK(ver:Nat):Nat->List D->List D×Nat×Up
 |n,[]=>([],n,[])
 |n,d::e=>let r:=imp ver n d;let q:=VK ver r.2.1 e;(r.1::q.1,q.2.1,r.2.2++q.2.2)
end
section
variable {C:Cx}{U:Nat->Prop}{M:Mem}{w:World}{ver:Nat}
def Xh8(s:Heap)(β:Loc)(l:List Nat):Prop:=∀b∈l,∀id v ob e,s id=some (v,ob)->β id v≠some (some (b,e))
structure OU(P:Program)(C:Cx)(s:Heap)(U:Nat->Prop)(M:Mem)(β:Loc)(w:World)(ver n n':Nat)(u:Up)(l:List (Option (Nat×Nat)))(β':Loc):Prop where
 inv:U2 P C (app s u) (λv=>U v\/v=ver) M β' w
 le:BLe β β'
 next:n<=n'
 high:∀i,n'<=i->β' i ver=none
 free:∀l',Xh8 s β l'->(∀b∈l',b∉X3 l)->Xh8 (app s u) β' l'
def OU.nil{s:Heap}{β:Loc}(I:U2 P C s U M β w){n:Nat}(e:∀i,n<=i->β i ver=none):OU P C s U M β w ver n n [] [] β:=
 ⟨I.mono λ_ h=>.inl h,BLe.refl _,Un _,e,λ_ h _=>h⟩
def ObRep.row{b e:Nat}{ob:Ob}(h:ObRep P M YK w (some (b,e)) ob)(hb:ob.bx=false)(β:Loc):ObRep P M β w (some (b,e)) ob:=by
 cases ob with
 |mp kk f=>exact h
 |raw o=>exact h
 |arr bx E z f fz=>have:bx=false:=hb;subst this;exact h
def Yd(e l2:List (Option (Nat×Nat))):X3 (e++l2)=X3 e++X3 l2:=by simp[X3]
mutual
def imp_ok{B:Nat}(Z:C.w0.heap.size<=B):∀(d:D) (y:Value) (l:List (Option (Nat×Nat))) (n:Nat) {s:Heap} {U:Nat->Prop} {β:Loc},U2 P C s U M β w->(∀i,n<=i->β i ver=none)->FrRep P M w B d y l->(X3 l).Nodup->Xh8 s β (X3 l) ->
 ∃β',OU P C s U M β w ver n (imp ver n d).2.1 (imp ver n d).2.2 l β'/\Rep P M β' (imp ver n d).1 y
 |.fsl E z es,y,l,n,s,U,β,I,p,f,e,r=>by
  simp only[imp];have G:β n ver=none:=p n (Un _);rcases f with⟨rfl,rfl,a,rfl⟩|⟨b,S,o,rfl,hb,rfl,ho,N⟩
  .refine⟨Zz β n ver none,⟨I.setNil n ver E z (Zf G) (XP ..) Zp,Zf G,ab,λi h=>?_,λl' h _=>?_⟩,?_⟩
   .unfold Zz;grind
   .intro b hb id v ob S K j;by_cases L:id=n
    .subst L;have A:some (ver,Ob.arr false E z [] 0)=some (v,ob):=by rw[←K];show _=upd s id _ id;rw[YM]
     simp_all[XP]
    have A:s id=some (v,ob):=by rw[←K];show _=upd s n _ id;rw[Yk _ _ _ _ L]
    have u:β id v=some (some (b,S)):=by unfold Zz at j;rw[Wk (λh=>L h.1)]at j;exact j
    exact h b hb id v ob S A u
   exact .inl ⟨XP ..,ac⟩
  have H:∀q O J g,q≠n->s q=some (O,J)->β q O≠some (some (b,g)):=λq O J g _ K=>r b (by simp[X3]) q O J g K;have hob':=N;have⟨cs,T,k1,k2,k3,k4,k5,k6,k7,k8,k9,k10⟩:=hob';have I':=I.set (M':=M) (β':=Zz β n ver (some (b,S))) (w':=w) n ver (.arr false E z es 0) b S (MLe.refl _) (Zf G) (λ_ _=>rfl) (λ_ _ _=>rfl) (λo x j=>I.mem b o x j) (XP ..) (N.row rfl _) H (.inl ab) (λ_ _=>rfl) rfl rfl rfl (Un _) Zp;refine⟨Zz β n ver (some (b,S)),⟨I',Zf G,ab,λi h=>?_,λl' h hl=>?_⟩,?_⟩
  .unfold Zz;grind
  .intro b' V id v ob g K j;by_cases L:id=n
   .subst L;have A:some (ver,Ob.arr false E z es 0)=some (v,ob):=by rw[←K];show _=upd s id _ id;rw[YM]
    grind[XP,X3]
   have A:s id=some (v,ob):=by rw[←K];show _=upd s n _ id;rw[Yk _ _ _ _ L]
   have u:β id v=some (some (b',g)):=by unfold Zz at j;rw[Wk (λh=>L h.1)]at j;exact j
   exact h b' V id v ob g A u
  exact .inr ⟨b,S,o,S,XP ..,rfl,k4,ac,ab⟩
 |.fmp k ks W,y,l,n,s,U,β,I,p,f,e,r=>by
  simp only[imp];have G:β n ver=none:=p n (Un _);obtain⟨b,rfl,hb,rfl,hlen,N⟩:=f;have H:∀q O J g,q≠n->s q=some (O,J)->β q O≠some (some (b,g)):=λq O J g _ K=>r b (by simp[X3]) q O J g K;have I':=I.set (M':=M) (β':=Zz β n ver (some (b,0))) (w':=w) n ver (.mp k (ks.zip W)) b 0 (MLe.refl _) (Zf G) (λ_ _=>rfl) (λ_ _ _=>rfl) (λo x j=>I.mem b o x j) (XP ..) (N.row rfl _) H (.inl ab) (λ_ _=>rfl) rfl rfl rfl (Un _) Zp;refine⟨Zz β n ver (some (b,0)),⟨I',Zf G,ab,λi h=>?_,λl' h hl=>?_⟩,?_⟩
  .unfold Zz;grind
  .intro b' V id v ob g K j;by_cases L:id=n
   .subst L;have A:some (ver,Ob.mp k (ks.zip W))=some (v,ob):=by rw[←K];show _=upd s id _ id;rw[YM]
    grind[XP,X3]
   have A:s id=some (v,ob):=by rw[←K];show _=upd s n _ id;rw[Yk _ _ _ _ L]
   have u:β id v=some (some (b',g)):=by unfold Zz at j;rw[Wk (λh=>L h.1)]at j;exact j
   exact h b' V id v ob g A u
  exact⟨b,0,XP ..,rfl⟩
 |.agg cs,y,l,n,s,U,β,I,p,f,e,r=>by obtain⟨W,rfl,f⟩:=f;have⟨β',R,h2⟩:=Xa8 Z cs W l n I p f e r;grind[imp,Rep]
 |.tup cs,y,l,n,s,U,β,I,p,f,e,r=>by obtain⟨W,rfl,f⟩:=f;have⟨β',R,h2⟩:=Xa8 Z cs W l n I p f e r;grind[imp,Rep]
 |.ifc t d,y,l,n,s,U,β,I,p,f,e,r=>by obtain⟨x,rfl,f⟩:=f;have⟨β',R,h2⟩:=imp_ok Z d x l n I p f e r;grind[imp,Rep]
 |.clo fn a b,y,l,n,s,U,β,I,p,f,e,r=>by
  obtain⟨va,vb,rfl,l1,l2,rfl,hr1,hr2⟩:=f;rw[Yd,UR]at e;rw[Yd]at r;have⟨β1,R,h2⟩:=Xa8 Z a va l1 n I p hr1 e.1 (λx j=>r x (WW _ j));have hf2:Xh8 (app s (VK ver n a).2.2) β1 (X3 l2):=R.free _ (λx j=>r x (Uj _ j)) (λx j u=>e.2.2 x u x j rfl);have⟨β2,Y,h4⟩:=Xa8 Z b vb l2 (VK ver n a).2.1 R.inv R.high hr2 e.2.1 hf2;refine⟨β2,⟨?_,R.le.trans Y.le,UK R.next Y.next,Y.high,λl' hl' hb=>?_⟩,?_⟩
  .simp only[imp];rw[Zg];exact Y.inv.mono λv hv=>by simp_all
  .simp only[imp];rw[Zg];refine Y.free _ (R.free _ hl' λx j u=>hb x j ?_) λx j u=>hb x j ?_
   .rw[Yd];exact WW _ u
   simp_all[Yd]
  exact⟨va,vb,rfl,h2.mono (MLe.refl _) Y.le,h4⟩
 |.any,y,l,n,s,U,β,I,p,f,e,r=>by subst f;exact⟨β,.nil I p,by simp[imp,Rep]⟩
 |.v x,y,l,n,s,U,β,I,p,f,e,r=>by obtain⟨rfl,f⟩:=f;exact⟨β,.nil I p,f.mono (MLe.refl _) (BLe.zero _)⟩
 |.nsl,y,l,n,s,U,β,I,p,f,e,r=>by obtain⟨rfl,f⟩:=f;exact⟨β,.nil I p,f.mono (MLe.refl _) (BLe.zero _)⟩
 |.isl E z es,y,l,n,s,U,β,I,p,f,e,r=>by obtain⟨rfl,f⟩:=f;exact⟨β,.nil I p,f.mono (MLe.refl _) (BLe.zero _)⟩
 |.ipt z cs c,y,l,n,s,U,β,I,p,f,e,r=>by obtain⟨rfl,f⟩:=f;exact⟨β,.nil I p,f.mono (MLe.refl _) (BLe.zero _)⟩
 |.osl ..,y,l,n,s,U,β,I,p,f,e,r=>by simp_all[FrRep]
 |.ept ..,y,l,n,s,U,β,I,p,f,e,r=>by simp_all[FrRep]
 |.omp ..,y,l,n,s,U,β,I,p,f,e,r=>by simp_all[FrRep]
def Xa8{B:Nat}(E:C.w0.heap.size<=B):∀(h:List D) (o:List Value) (l:List (Option (Nat×Nat))) (n:Nat) {s:Heap} {U:Nat->Prop} {β:Loc},U2 P C s U M β w->(∀i,n<=i->β i ver=none)->FrRepL P M w B h o l->(X3 l).Nodup->Xh8 s β (X3 l) ->
 ∃β',OU P C s U M β w ver n (VK ver n h).2.1 (VK ver n h).2.2 l β'/\RepL P M β' (VK ver n h).1 o
 |[],o,l,n,s,U,β,I,q,r,e,p=>by obtain⟨rfl,rfl⟩:=r;exact⟨β,.nil I q,by rfl⟩
 |d::h,o,l,n,s,U,β,I,q,r,e,p=>by
  obtain⟨x,G,J,H,rfl,rfl,u,y⟩:=r;rw[Yd,UR]at e;rw[Yd]at p;have⟨β1,j,K⟩:=imp_ok E d x J n I q u e.1 (λx f=>p x (WW _ f));have z:Xh8 (app s (imp ver n d).2.2) β1 (X3 H):=j.free _ (λx f=>p x (Uj _ f)) (λx f g=>e.2.2 x g x f rfl);have⟨β2,k,L⟩:=Xa8 E h G H (imp ver n d).2.1 j.inv j.high y e.2.1 z;refine⟨β2,⟨?_,j.le.trans k.le,UK j.next k.next,k.high,λN A hb=>?_⟩,?_⟩
  .simp only[VK];rw[Zg];exact k.inv.mono λv O=>by simp_all
  .simp only[VK];rw[Zg];refine k.free _ (j.free _ A λx f g=>hb x f ?_) λx f g=>hb x f ?_
   .rw[Yd];exact WW _ g
   simp_all[Yd]
  exact⟨x,G,rfl,K.mono (MLe.refl _) k.le,L⟩
end
end
variable {P:Program}
def pos:List Nat->Nat->Option Nat
 |[],_=>none
 |x::l,i=>if x=i then some 0 else(pos l i).map (·+1)
def Xi9:∀{l:List Nat} {i j:Nat},pos l i=some j->l[j]? = some i
 |[],i,j,h=>by simp_all[pos]
 |x::l,i,j,h=>by
  unfold pos at h;split at h
  .grind
  simp at h;obtain⟨k,e,rfl⟩:=h;simpa using Xi9 e
def Xgx:∀{l:List Nat} {i:Nat},pos l i=none->i∉l
 |[],i,_=>by simp
 |x::l,i,h=>by
  unfold pos at h;split at h
  .grind
  rename_i f;simp at h;simp;exact⟨λe=>f e.symm,Xgx h⟩
mutual
def lend(s:Heap):List Nat->D->Option (Prop×D×List Nat×List Nat)
 |ls,.ept id ver z i c=>match s id with
  |some (g,.arr true _ p [_] _)=>if ver=g/\z=p/\i=0 then
   match pos ls id with
   |some j=>some (True,.ept (LB+j) 0 z 0 c,ls,[])
   |none=>some (True,.ept (LB+ls.length) 0 z 0 c,ls++[id],[])
   else none
  |_=>none
 |ls,.agg k=>match ZP s ls k with
  |some (c,o,f,l)=>some (c,.agg o,f,l)
  |none=>none
 |ls,.tup k=>match ZP s ls k with
  |some (c,o,f,l)=>some (c,.tup o,f,l)
  |none=>none
 |ls,.clo fn a b=>match ZP s ls a with
  |some (c,q,f,l)=>match ZP s f b with
   |some (r,u,h,v)=>some (c/\r,.clo fn q u,h,l++v)
   |none=>none
  |none=>none
 |ls,.ifc t d=>match lend s ls d with
  |some (c,e,f,l)=>some (c,.ifc t e,f,l)
  |none=>none
 |ls,d=>match snap s d with
  |some (c,e,l)=>some (c,e,ls,l)
  |none=>none
def ZP(s:Heap):List Nat->List D->Option (Prop×List D×List Nat×List Nat)
 |ls,[]=>some (True,[],ls,[])
 |ls,d::h=>match lend s ls d with
  |some (c,e,g,l)=>match ZP s g h with
   |some (j,k,f,o)=>some (c/\j,e::k,f,l++o)
   |none=>none
  |none=>none
end
mutual
def lend_prefix{s:Heap}:∀{d f:D} {ls e:List Nat} {c:Prop} {l:List Nat},lend s ls d=some (c,f,e,l)->ls <+:e
 |.ept id ver z i k,f,ls,e,c,l,h=>by unfold lend at h;grind
 |.agg j,f,ls,e,c,l,h=>by
  unfold lend at h;split at h
  .rename_i g;obtain⟨_,_,rfl,_⟩:=h;exact Zh g
  simp_all
 |.tup j,f,ls,e,c,l,h=>by
  unfold lend at h;split at h
  .rename_i g;obtain⟨_,_,rfl,_⟩:=h;exact Zh g
  simp_all
 |.clo fn a b,f,ls,e,c,l,h=>by
  unfold lend at h;split at h
  .rename_i o;split at h
   .rename_i p;obtain⟨_,_,rfl,_⟩:=h;exact(Zh o).trans (Zh p)
   cases h
  simp_all
 |.ifc t d,f,ls,e,c,l,h=>by
  unfold lend at h;split at h
  .rename_i g;obtain⟨_,_,rfl,_⟩:=h;exact lend_prefix g
  simp_all
 |.osl id ver z off len,f,ls,e,c,l,h=>by unfold lend at h;grind
 |.any,f,ls,e,c,l,h=>by unfold lend at h;grind
 |.v x,f,ls,e,c,l,h=>by unfold lend at h;grind
 |.nsl,f,ls,e,c,l,h=>by unfold lend at h;grind
 |.isl E z q,f,ls,e,c,l,h=>by unfold lend at h;grind
 |.ipt z j k,f,ls,e,c,l,h=>by unfold lend at h;grind
 |.fsl E z q,f,ls,e,c,l,h=>by unfold lend at h;grind
 |.fmp k r u,f,ls,e,c,l,h=>by unfold lend at h;grind
 |.omp id ver,f,ls,e,c,l,h=>by unfold lend at h;grind
def Zh{s:Heap}:∀{g f:List D} {ls e:List Nat} {c:Prop} {l:List Nat},ZP s ls g=some (c,f,e,l)->ls <+:e
 |[],f,ls,e,c,l,h=>by simp_all[ZP,Wq,Ww]
 |d::g,f,ls,e,c,l,h=>by
  unfold ZP at h;split at h
  .rename_i j;split at h
   .rename_i k;obtain⟨_,_,rfl,_⟩:=h;exact(lend_prefix j).trans (Zh k)
   cases h
  simp_all
end
def Xc4(s:Heap)(ls:List Nat):Prop:=ls.Nodup/\∀id∈ls,∃v E z e fz,s id=some (v,.arr true E z [e] fz)
mutual
def lend_boxes{s:Heap}:∀{d f:D} {ls e:List Nat} {c:Prop} {l:List Nat},lend s ls d=some (c,f,e,l)->Xc4 s ls->Xc4 s e
 |.ept id ver z i k,f,ls,e,c,l,h=>by
  intro hb;unfold lend at h;split at h
  .rename_i q;split at h
   .split at h
    .obtain⟨_,_,rfl,_⟩:=h;exact hb
    rename_i hp;obtain⟨_,_,rfl,_⟩:=h;refine⟨UR.2 ⟨hb.1,ac,λx g y o=>?_⟩,λx g=>?_⟩
    .simp at o;subst o;rintro rfl;exact Xgx hp g
    simp at g;rcases g with g|rfl
    .exact hb.2 x g
    exact⟨_,_,_,_,_,q⟩
   cases h
  simp_all
 |.agg p,f,ls,e,c,l,h=>by
  unfold lend at h;split at h
  .rename_i j;obtain⟨_,_,rfl,_⟩:=h;exact Zd j
  simp_all
 |.tup p,f,ls,e,c,l,h=>by
  unfold lend at h;split at h
  .rename_i j;simp only[Wq,Ww]at h;obtain⟨_,_,rfl,_⟩:=h;exact Zd j
  simp_all
 |.clo fn a b,f,ls,e,c,l,h=>by
  unfold lend at h;split at h
  .rename_i r;split at h
   .rename_i u;simp only[Wq,Ww]at h;obtain⟨_,_,rfl,_⟩:=h;exactλhb=>Zd u (Zd r hb)
   cases h
  simp_all
 |.ifc t d,f,ls,e,c,l,h=>by
  unfold lend at h;split at h
  .rename_i j;simp only[Wq,Ww]at h;obtain⟨_,_,rfl,_⟩:=h;exact lend_boxes j
  simp_all
 |.osl id ver z off len,f,ls,e,c,l,h=>by unfold lend at h;grind
 |.any,f,ls,e,c,l,h=>by unfold lend at h;grind
 |.v x,f,ls,e,c,l,h=>by unfold lend at h;grind
 |.nsl,f,ls,e,c,l,h=>by unfold lend at h;grind
 |.isl E z A,f,ls,e,c,l,h=>by unfold lend at h;grind
 |.ipt z p k,f,ls,e,c,l,h=>by unfold lend at h;grind
 |.fsl E z A,f,ls,e,c,l,h=>by unfold lend at h;grind
 |.fmp k B G,f,ls,e,c,l,h=>by unfold lend at h;grind
 |.omp id ver,f,ls,e,c,l,h=>by unfold lend at h;grind
def Zd{s:Heap}:∀{g f:List D} {ls e:List Nat} {c:Prop} {l:List Nat},ZP s ls g=some (c,f,e,l)->Xc4 s ls->Xc4 s e
 |[],f,ls,e,c,l,h=>by simp_all[ZP,Wq,Ww]
 |d::g,f,ls,e,c,l,h=>by
  unfold ZP at h;split at h
  .rename_i j;split at h
   .rename_i k;obtain⟨_,_,rfl,_⟩:=h;exactλhb=>Zd k (lend_boxes j hb)
   cases h
  simp_all
end
section
variable {C:Cx}{s:Heap}{U:Nat->Prop}{M M':Mem}{β:Loc}{w:World}
def Xfp(s:Heap)(β:Loc)(ls:List Nat)(lb:List (Nat×Nat)):Prop:=
 ∀(j:Nat)id,ls[j]? = some id->∃v E z e fz x,s id=some (v,.arr true E z [e] fz)/\lb[j]? = some x/\β id v=some (some x)
mutual
def lend_rep(I:U2 P C s U M β w)(u:MLe M M'){lsF:List Nat}{lbF:List (Nat×Nat)}(J:Xfp s β lsF lbF):∀{d r:D} {ls g:List Nat} {c:Prop} {l:List Nat},lend s ls d=some (c,r,g,l)->c->Frz s M' β w l->g <+:lsF ->
 ∀{y:Value},Rep P M β d y->Rep P M' (Kk lbF) r y
 |.ept id ver z i k,r,ls,g,c,l,h,o,p,hp,y,f=>by
  have key:∀j,lsF[j]? = some id->i=0->(∃E K fz,s id=some (ver,.arr true E z [K] fz))->Rep P M' (Kk lbF) (.ept (LB+j) 0 z 0 k) y:=by
   rintro j T rfl ⟨E,K,fz,R⟩;obtain⟨v',E',z',cs',fz',x,N,hx,hb⟩:=J j id T;rw[R]at N;obtain⟨rfl,_⟩:ver=v'/\_:=by simpa using N
   simp only[Rep]at f⊢;obtain⟨b,Y,O,rfl⟩:=f;rw[hb]at O;obtain rfl:x=(b,Y):=by simpa using O
   exact⟨b,Y,by simp[Kk,hx],rfl⟩
  unfold lend at h;split at h
  .rename_i Z E z' K fz R;split at h
   .rename_i G;have⟨rfl,rfl,L⟩:=G;split at h
    .rename_i j T;obtain⟨rfl,rfl,rfl,rfl⟩:=h;refine key j ?_ L ⟨_,_,_,R⟩;have:=Xi9 T;obtain⟨t,rfl⟩:=hp;rw[Uk]
     .exact this
     rcases UA j ls.length with h|h
     .exact h
     rw[WP h]at this;cases this
    obtain⟨rfl,rfl,rfl,rfl⟩:=h;refine key ls.length ?_ L ⟨_,_,_,R⟩;obtain⟨t,rfl⟩:=hp;simp
   cases h
  simp_all
 |.agg K,r,ls,g,c,l,h,o,p,hp,y,f=>by
  unfold lend at h;split at h
  .rename_i A ds H B q;obtain⟨rfl,rfl,rfl,rfl⟩:=h;simp only[Rep]at f⊢;obtain⟨S,e,f⟩:=f;exact⟨S,e,K9 I u J q o p hp f⟩
  simp_all
 |.tup K,r,ls,g,c,l,h,o,p,hp,y,f=>by
  unfold lend at h;split at h
  .rename_i A ds H B q;simp only[Wq,Ww]at h;obtain⟨rfl,rfl,rfl,rfl⟩:=h;simp only[Rep]at f⊢;obtain⟨S,e,f⟩:=f;exact⟨S,e,K9 I u J q o p hp f⟩
  simp_all
 |.clo fn a b,r,ls,g,c,l,h,o,p,hp,y,f=>by
  unfold lend at h;split at h
  .rename_i c1 a' ls1 l1 h1;split at h
   .rename_i c2 b' H l2 h2;simp only[Wq,Ww]at h;obtain⟨rfl,rfl,rfl,rfl⟩:=h;simp only[Rep]at f⊢;obtain⟨va,vb,e,V,W⟩:=f;exact⟨va,vb,e,K9 I u J h1 o.1 (λi L=>p i (WW _ L)) ((Zh h2).trans hp) V,K9 I u J h2 o.2 (λi L=>p i (Uj _ L)) hp W⟩
   cases h
  simp_all
 |.ifc t d,r,ls,g,c,l,h,o,p,hp,y,f=>by
  unfold lend at h;split at h
  .rename_i A e H B q;simp only[Wq,Ww]at h;obtain⟨rfl,rfl,rfl,rfl⟩:=h;simp only[Rep]at f⊢;obtain⟨x,e,f⟩:=f;exact⟨x,e,lend_rep I u J q o p hp f⟩
  simp_all
 |.osl id ver z off len,r,ls,g,c,l,h,o,p,hp,y,f=>by
  unfold lend at h;split at h
  .rename_i A e B q;simp only[Wq,Ww]at h;obtain⟨rfl,rfl,rfl,rfl⟩:=h;exact(snap_rep I u q o p f).mono (MLe.refl _) (BLe.zero _)
  simp_all
 |.any,r,ls,g,c,l,h,o,p,hp,y,f=>by
  unfold lend at h;split at h
  .rename_i A e B q;simp only[Wq,Ww]at h;obtain⟨rfl,rfl,rfl,rfl⟩:=h;exact(snap_rep I u q o p f).mono (MLe.refl _) (BLe.zero _)
  simp_all
 |.v x,r,ls,g,c,l,h,o,p,hp,y,f=>by
  unfold lend at h;split at h
  .rename_i A e B q;simp only[Wq,Ww]at h;obtain⟨rfl,rfl,rfl,rfl⟩:=h;exact(snap_rep I u q o p f).mono (MLe.refl _) (BLe.zero _)
  simp_all
 |.nsl,r,ls,g,c,l,h,o,p,hp,y,f=>by
  unfold lend at h;split at h
  .rename_i A e B q;simp only[Wq,Ww]at h;obtain⟨rfl,rfl,rfl,rfl⟩:=h;exact(snap_rep I u q o p f).mono (MLe.refl _) (BLe.zero _)
  simp_all
 |.isl E z es,r,ls,g,c,l,h,o,p,hp,y,f=>by
  unfold lend at h;split at h
  .rename_i A e B q;simp only[Wq,Ww]at h;obtain⟨rfl,rfl,rfl,rfl⟩:=h;exact(snap_rep I u q o p f).mono (MLe.refl _) (BLe.zero _)
  simp_all
 |.ipt z K k,r,ls,g,c,l,h,o,p,hp,y,f=>by
  unfold lend at h;split at h
  .rename_i A e B q;simp only[Wq,Ww]at h;obtain⟨rfl,rfl,rfl,rfl⟩:=h;exact(snap_rep I u q o p f).mono (MLe.refl _) (BLe.zero _)
  simp_all
 |.fsl E z es,r,ls,g,c,l,h,o,p,hp,y,f=>by simp_all[Rep]
 |.fmp k ks S,r,ls,g,c,l,h,o,p,hp,y,f=>by simp_all[Rep]
 |.omp id ver,r,ls,g,c,l,h,o,p,hp,y,f=>by simp_all[lend,snap]
def K9(I:U2 P C s U M β w)(v:MLe M M'){lsF:List Nat}{lbF:List (Nat×Nat)}(y:Xfp s β lsF lbF):∀{k f:List D} {ls g:List Nat} {c:Prop} {l:List Nat},ZP s ls k=some (c,f,g,l)->c->Frz s M' β w l->g <+:lsF ->
 ∀{j:List Value},RepL P M β k j->RepL P M' (Kk lbF) f j
 |[],f,ls,g,c,l,h,o,p,hp,j,z=>by simp_all[ZP,Wq,Ww,RepL]
 |d::k,f,ls,g,c,l,h,o,p,hp,j,z=>by
  unfold ZP at h;split at h
  .rename_i c1 e B J E;split at h
   .rename_i K L G N A;obtain⟨rfl,rfl,rfl,rfl⟩:=h;have⟨x,H,e,q,r⟩:=z;exact⟨x,H,e,lend_rep I v y E o.1 (λi u=>p i (WW _ u)) ((Zh A).trans hp) q,K9 I v y A o.2 (λi u=>p i (Uj _ u)) hp r⟩
   cases h
  simp_all
end
end
variable {P:Program}
def Jp(s:Heap):List Nat->Option (Prop×List Ob×List Nat)
 |[]=>some (True,[],[])
 |id::ids=>match s id with
  |some (_,.arr true E z [e] fz)=>match ZS s e,Jp s ids with
   |some (c,f,l),some (g,obs,h)=>some (c/\g,.arr true E z [f] fz::obs,l++h)
   |_,_=>none
  |_=>none
def ZT(s:Heap):List Nat->List Ob->Up
 |id::ids,o::os=>match s id with
  |some (v,_)=>(id,v,o)::ZT s ids os
  |none=>ZT s ids os
 |_,_=>[]
section
variable {C:Cx}{s:Heap}{U:Nat->Prop}{M M':Mem}{β:Loc}{w w':World}
def XbG{L:List Nat}(I:U2 P C s U M β w)(hM:MLe M M')(I':U2 P C (frz s L) U M' β w)(A:Frz s M' β w L):∀{ids:List Nat} {c:Prop} {obs:List Ob} {l:List Nat} {lb:List (Nat×Nat)},Jp s ids=some (c,obs,l)->c->(∀x∈l,x∈L)->Xfp s β ids lb->lb.length=ids.length ->
 obs.length=ids.length/\∀(k:Nat)ob x,obs[k]? = some ob->lb[k]? = some x->ObRep P M' YK w (some x) ob/\ob.bx=true
 |[],c,obs,l,lb,h,O,R,S,f=>by simp_all[Jp,Wq,Ww]
 |id::ids,c,obs,l,lb,h,O,R,S,f=>by
  unfold Jp at h;split at h
  .rename_i v E z p fz N;split at h
   .rename_i c1 ds l1 c2 obs2 l2 h1 h2;obtain⟨rfl,rfl,rfl⟩:=h;match lb,f with
    |x0::lb,f=>
     have V:Xfp s β ids lb:=λj i hj=>by simpa using S (j+1) i (by simpa using hj)
     have⟨g1,g2⟩:=XbG I hM I' A h2 O.2 (λx g=>R x (Uj _ g)) V (by simpa using f);refine⟨by simp[g1],λk ob x W g=>?_⟩;cases k with
     |succ k=>exact g2 k ob x (by exact W) (by exact g)
     |zero=>
      simp at W g;subst W;subst g;refine⟨?_,rfl⟩;have⟨v',E',z',cs',fz',x,B,D,hb⟩:=S 0 id ac;simp at D;subst D;rw[N]at B;obtain⟨rfl,_⟩:v=v'/\_:=by simpa using B
      have Y:frz s L id=some (v,.arr true E z [p] fz):=by
       unfold frz;split
       .rw[N];rfl
       exact N
      have⟨x1,G,Z⟩:=I'.obs id v _ Y;rw[hb]at G;obtain rfl:x0=x1:=by simpa using G
      have⟨b,cb⟩:=x0;have⟨y,T,k1,k2,k3,k4,k5,k6,k7,k8,k9,k10⟩:=Z;have⟨x2,H,J⟩:=I.obs id v _ N;rw[hb]at H;obtain rfl:some (b,cb)=x2:=by simpa using H
      have⟨y2,T2,j1,j2,j3,j4,j5,j6,j7,j8,j9,j10⟩:=J;rw[k1]at j1;have⟨rfl,rfl⟩:y=y2/\T=T2:=by simpa using j1
      have o:RepL P M β p (y.toList.take p.length):=by
       have hle:p.length<=y.size:=by have:=k3 p ac;have:z<=cb*z:=Nat.le_mul_of_pos_left _ (by simp at k4;omega);omega
       refine RepL.of ai λi d x hd g=>?_;obtain⟨u,r,q⟩:=j10 i d (by simpa using hd);rw[Ut]at g;split at g
       .rw[UZ,r]at g;obtain rfl:u=x:=by simpa using g
        exact q
       cases g
      have K:=Ks I hM h1 O.1 (λi hi=>A i (R i (WW _ hi))) o;have hdl:ds.length=p.length:=by rw[←K.length,o.length]
      refine⟨y,T,k1,k2,?_,by exact k4,by exact k5,by exact k6,by exact k7,k8,k9,λi d hd=>?_⟩
      .intro e he;simp at he;subst he;rw[hdl];exact k3 p ac
      have hd':ds[i]? = some d:=by simpa using hd
      have⟨u,r,q⟩:=K.get i d hd';rw[Ut]at r;split at r
      .exact⟨u,by simpa using r,q⟩
      cases r
   cases h
  simp_all
def Xc5(f:Heap):∀(ids:List Nat) (obs:List Ob) (s:Heap) (i:Nat),ids.Nodup->(∀id∈ids,∃v o,f id=some (v,o))->obs.length=ids.length ->
 (i∉ids->app s (ZT f ids obs) i=s i)/\∀(j:Nat)o,ids[j]? = some i->obs[j]? = some o->∀v o',f i=some (v,o')->app s (ZT f ids obs) i=some (v,o)
 |[],obs,s,i,_,_,_=>by simp[ZT,app]
 |id::ids,o::obs,s,i,g,e,h=>by
  have⟨v,y,k⟩:=e id ac;simp at g;have p:app s (ZT f (id::ids) (o::obs))=app (upd s id (some (v,o))) (ZT f ids obs):=by simp only[ZT,k];rfl
  have⟨g1,g2⟩:=Xc5 f ids obs (upd s id (some (v,o))) i g.2 (λx z=>e x (by grind)) (by simp_all);rw[p];refine⟨λq=>?_,λj o' A B D r u=>?_⟩
  .simp_all[Ia,not_or,g1,q,Yk]
  cases j with
  |zero=>simp_all[k,g1,g,YM]
  |succ j=>grind
def U2.called(I:U2 P C s U M β w){ids:List Nat}{lb:List (Nat×Nat)}(hB:Xc4 s ids)(T:Xfp s β ids lb)(hlb:lb.length=ids.length)(hK:Kp w (lb.map (·.1)) w')(hmem:MemOK M' w')(p:∀b o,b<w.heap.size->M' b o=M b o){obs:List Ob}(V:obs.length=ids.length)(K:∀(k:Nat)ob x,obs[k]? = some ob->lb[k]? = some x->ObRep P M' YK w' (some x) ob/\ob.bx=true):
 U2 P C (app s (ZT s ids obs)) U M' β w'/\MLe M M':=by
 have q:MLe M M':=λb o x g=>by rw[p b o (I.mem.lt g)];omega
 have L:∀id∈ids,∃v o,s id=some (v,o):=λid f=>by have⟨v,E,z,W,fz,h⟩:=hB.2 id f;simp_all
 have G:∀id v ob,app s (ZT s ids obs) id=some (v,ob)->(id∉ids/\s id=some (v,ob))\/∃(j:Nat) (x:Nat×Nat) (r:Ob),ids[j]? = some id/\lb[j]? = some x/\obs[j]? = some ob/\s id=some (v,r)/\r.bx=true/\β id v=some (some x):=by
  intro id v ob h;obtain⟨g1,g2⟩:=Xc5 s ids obs s id hB.1 L V;by_cases f:id∈ids
  .right;obtain⟨j,H,rfl⟩:=WA f;have⟨D,E,z,W,fz,x,e,g,hb⟩:=T j _ (Wb H);have N:obs[j]? = some (obs[j]'ab):=Wb ab;have:=g2 j _ ac N D _ e;have⟨rfl,rfl⟩:D=v/\obs[j]'ab=ob:=by simp_all
   exact⟨j,x,_,Wb H,g,N,e,rfl,hb⟩
  simp_all
 have O:∀id v ob b u,id∉ids->s id=some (v,ob)->β id v=some (some (b,u))->b∉lb.map (·.1):=by
  intro id v ob b u f e hb R;rw[WO]at R;obtain⟨x,g,rfl⟩:=R;obtain⟨j,H,rfl⟩:=WA g;obtain⟨D,E,z,W,fz,x',y,A,B⟩:=T j (ids[j]'ab) ac;have:lb[j]=x':=by rw[Wb H]at A;simpa using A
  have S:=I.inj id v ob (ids[j]'ab) D _ _ u x'.2 e y (by rw[hb]) (by simp_all);exact f (S▸Wy _)
 refine⟨?_,q⟩;constructor
 .omega
 .exact I.used
 .intro id v ob e;rcases G id v ob e with⟨f,e⟩|⟨j,x,r,H,g,N,e,_,hb⟩
  .have⟨x,g,Y⟩:=I.obs id v ob e;refine⟨x,g,Y.mono q (BLe.refl _) ?_ ?_⟩
   .rintro b u rfl;exact hK.block b Y.lt (O id v ob b u f e g)
   rintro b u rfl o;exact p b o Y.lt
  have⟨g1,g2⟩:=K j ob x N g;exact⟨some x,hb,g1.mono (MLe.refl _) (BLe.zero _) (λ_ _ _=>rfl) (λ_ _ _ _=>rfl)⟩
 .intro id v ob b u e hb;rcases G id v ob e with⟨f,e⟩|⟨j,x,r,H,g,N,e,hbx,B⟩
  .exact I.own id v ob b u e hb
  rcases I.own id v r b u e hb with h|h
  .exact .inl h
  grind
 .intro id v ob J D Z b u cb' e y hb B;have h1:∃o,s id=some (v,o):=by rcases G id v ob e with⟨_,e⟩|⟨_,_,o,_,_,_,e,_⟩<;>exact⟨_,e⟩
  have h2:∃o,s J=some (D,o):=by rcases G J D Z y with⟨_,e⟩|⟨_,_,o,_,_,_,e,_⟩<;>exact⟨_,e⟩
  have⟨o1,h1⟩:=h1;have⟨o2,h2⟩:=h2;exact I.inj id v o1 J D o2 b u cb' h1 h2 hb B
 .refine⟨hK.os.trans I.keep.os,hK.tape.trans I.keep.tape,hK.output.trans I.keep.output,UK I.keep.size hK.size,λk hk hl=>?_⟩;rw[←I.keep.block k hk hl];refine hK.block k (IX hk I.keep.size) λR=>?_;rw[WO]at R;obtain⟨x,g,rfl⟩:=R;obtain⟨j,H,rfl⟩:=WA g;have⟨D,E,z,W,fz,x',y,A,B⟩:=T j (ids[j]'ab) ac;have hx2:lb[j]=x':=by rw[Wb H]at A;simpa using A
  rcases I.own _ D _ lb[j].1 x'.2 y (by rw[B,hx2])with h|h
  .omega
  simp_all
 .intro b o hb;rw[p b o (IX hb I.keep.size)];exact I.old b o hb
 .exact I.le.trans q
 exact I.glob
end
variable {P:Program}
mutual
def fits:D->D->Prop
 |.nsl,.isl _ _ j=>j=[]
 |.agg f,.agg g=>Z4 f g
 |.tup f,.tup g=>Z4 f g
 |.clo fn a b,.clo h k o=>fn=h/\Z4 a k/\Z4 b o
 |.ifc t d,.ifc p q=>t=p/\fits d q
 |d,e=>d=e
def Z4:List D->List D->Prop
 |[],[]=>True
 |d::f,e::g=>fits d e/\Z4 f g
 |_,_=>False
end
mutual
def fits_rep{M:Mem}{β:Loc}:∀{d e:D} {y:Value},fits d e->Rep P M β d y->Rep P M β e y
 |.nsl,e,y,h,g=>by
  cases e<;>simp only[fits,reduceCtorEq]at h<;>try (first|exact g|(exact h.elim))
  grind[Rep,XC]
 |.agg q,e,y,h,g=>by cases e<;>simp only[fits,reduceCtorEq]at h;have⟨j,e,g⟩:=g;exact⟨j,e,Ja h g⟩
 |.tup q,e,y,h,g=>by cases e<;>simp only[fits,reduceCtorEq]at h;have⟨j,e,g⟩:=g;exact⟨j,e,Ja h g⟩
 |.clo fn a b,e,y,h,g=>by cases e<;>simp only[fits,reduceCtorEq]at h;have⟨rfl,k,r⟩:=h;have⟨u,z,e,o,p⟩:=g;exact⟨u,z,e,Ja k o,Ja r p⟩
 |.ifc t d,e,y,h,g=>by cases e<;>simp only[fits,reduceCtorEq]at h;have⟨rfl,k⟩:=h;have⟨x,e,g⟩:=g;exact⟨x,e,fits_rep k g⟩
 |.any,e,y,h,g=>by simp_all[fits]
 |.v x,e,y,h,g=>by simp_all[fits]
 |.isl a b c,e,y,h,g=>by simp_all[fits]
 |.osl a b c d f,e,y,h,g=>by simp_all[fits]
 |.ept a b c d f,e,y,h,g=>by simp_all[fits]
 |.ipt a b c,e,y,h,g=>by simp_all[fits]
 |.fsl a b c,e,y,h,g=>by simp_all[Rep]
 |.fmp a b c,e,y,h,g=>by simp_all[Rep]
 |.omp a b,e,y,h,g=>by simp_all[fits]
def Ja{M:Mem}{β:Loc}:∀{j f:List D} {g:List Value},Z4 j f->RepL P M β j g->RepL P M β f g
 |[],f,g,h,k=>by grind[Z4]
 |d::j,f,g,h,k=>by cases f<;>simp only[Z4]at h;have⟨x,o,e,p,q⟩:=k;exact⟨x,o,e,fits_rep h.1 p,Ja h.2 q⟩
end
mutual
def scal:D->Bool
 |.any=>true
 |.v _=>true
 |.agg e=>JY e
 |.tup e=>JY e
 |_=>false
def JY:List D->Bool
 |[]=>true
 |d::e=>scal d&&JY e
end
mutual
def scal_rep{M M':Mem}{w:World}{B:Nat}(β:Loc)(ver n:Nat):∀{d:D} {y:Value} {l:List (Option (Nat×Nat))},scal d=true->FrRep P M w B d y l->l=[]/\Rep P M' β d y/\imp ver n d=(d,n,[])
 |.any,y,l,_,f=>by simp_all[FrRep,Rep,imp]
 |.v x,y,l,_,f=>by simp_all[FrRep,Rep,imp]
 |.agg j,y,l,g,f=>by have⟨k,e,f⟩:=f;have⟨o,p,h⟩:=XbH (M':=M') β ver n g f;simp_all[Rep,imp,h]
 |.tup j,y,l,g,f=>by have⟨k,e,f⟩:=f;have⟨o,p,h⟩:=XbH (M':=M') β ver n g f;simp_all[Rep,imp,h]
 |.nsl,y,l,g,f=>by simp_all[scal]
 |.isl ..,y,l,g,f=>by simp_all[scal]
 |.osl ..,y,l,g,f=>by simp_all[scal]
 |.ept ..,y,l,g,f=>by simp_all[scal]
 |.ipt ..,y,l,g,f=>by simp_all[scal]
 |.clo ..,y,l,g,f=>by simp_all[scal]
 |.ifc ..,y,l,g,f=>by simp_all[scal]
 |.fsl ..,y,l,g,f=>by simp_all[scal]
 |.fmp ..,y,l,g,f=>by simp_all[scal]
 |.omp ..,y,l,g,f=>by simp_all[scal]
def XbH{M M':Mem}{w:World}{B:Nat}(β:Loc)(ver n:Nat):∀{f:List D} {g:List Value} {l:List (Option (Nat×Nat))},JY f=true->FrRepL P M w B f g l->l=[]/\RepL P M' β f g/\VK ver n f=(f,n,[])
 |[],g,l,_,h=>by simp_all[FrRepL,RepL,h,VK]
 |d::f,g,l,j,h=>by simp only[JY,WI]at j;obtain⟨x,r,u,v,e,rfl,k,o⟩:=h;obtain⟨rfl,y,p⟩:=scal_rep (M':=M') β ver n j.1 k;obtain⟨rfl,z,q⟩:=XbH (M':=M') β ver n j.2 o;exact⟨rfl,by grind[RepL],by simp[VK,p,q,Ib]⟩
end
mutual
def FrRep.ge{M:Mem}{w:World}{B:Nat}:∀{d:D} {y:Value} {l:List (Option (Nat×Nat))},FrRep P M w B d y l->∀b∈X3 l,B<=b
 |.fsl E z p,y,l,e=>by
  rcases e with⟨rfl,_⟩|⟨b,q,o,rfl,hb,_⟩
  .simp[X3]
  simp[X3,hb]
 |.fmp k r f,y,l,e=>by obtain⟨b,rfl,hb,_⟩:=e;simp[X3,hb]
 |.agg g,y,l,e=>by have⟨f,_,e⟩:=e;exact FrRepL.ge e
 |.tup g,y,l,e=>by have⟨f,_,e⟩:=e;exact FrRepL.ge e
 |.ifc t d,y,l,e=>by have⟨f,_,e⟩:=e;exact FrRep.ge e
 |.clo fn a b,y,l,e=>by
  obtain⟨u,x,_,A,G,rfl,h,j⟩:=e;intro b hb;rw[Yd,Wt]at hb;rcases hb with hb|hb
  .exact FrRepL.ge h b hb
  exact FrRepL.ge j b hb
 |.any,y,l,e=>by simp_all[FrRep,X3]
 |.v _,y,l,e=>by simp_all[FrRep,e,X3]
 |.nsl,y,l,e=>by simp_all[FrRep,e,X3]
 |.isl ..,y,l,e=>by simp_all[FrRep,e,X3]
 |.ipt ..,y,l,e=>by simp_all[FrRep,e,X3]
 |.osl ..,y,l,e=>by simp_all[FrRep]
 |.ept ..,y,l,e=>by simp_all[FrRep]
 |.omp ..,y,l,e=>by simp_all[FrRep]
def FrRepL.ge{M:Mem}{w:World}{B:Nat}:∀{g:List D} {e:List Value} {l:List (Option (Nat×Nat))},FrRepL P M w B g e l->∀b∈X3 l,B<=b
 |[],e,l,f=>by simp_all[FrRepL,f,X3]
 |d::g,e,l,f=>by
  obtain⟨x,k,o,p,_,rfl,h,j⟩:=f;intro b hb;rw[Yd,Wt]at hb;rcases hb with hb|hb
  .exact FrRep.ge h b hb
  exact FrRepL.ge j b hb
end
def Zl(s:Heap)(args:List D):Option (Prop×List D×List Nat×List Ob×List Nat):=
 match ZP s [] args with
 |some (c,as,ids,e)=>match Jp s ids with
  |some (f,obs,g)=>some (c/\f,as,ids,obs,e++g)
  |none=>none
 |none=>none
def VR:Ob->Bool
 |.arr true _ _ e 0=>e.all JY
 |_=>false
mutual
def scalR{M M':Mem}{β β':Loc}:∀{d:D} {y:Value},scal d=true->Rep P M β d y->Rep P M' β' d y
 |.any,y,_,_=>by simp[Rep]
 |.v x,y,_,h=>by assumption
 |.agg j,y,f,h=>by have⟨g,e,h⟩:=h;exact⟨g,e,Xh9 f h⟩
 |.tup j,y,f,h=>by have⟨g,e,h⟩:=h;exact⟨g,e,Xh9 f h⟩
 |.nsl,_,f,_=>by assumption
 |.isl ..,_,f,_=>by simp_all[scal]
 |.osl ..,_,f,_=>by simp_all[scal]
 |.ept ..,_,f,_=>by simp_all[scal]
 |.ipt ..,_,f,_=>by simp_all[scal]
 |.clo ..,_,f,_=>by simp_all[scal]
 |.ifc ..,_,f,_=>by simp_all[scal]
 |.fsl ..,_,f,_=>by assumption
 |.fmp ..,_,f,_=>by assumption
 |.omp ..,_,f,_=>by simp_all[scal]
def Xh9{M M':Mem}{β β':Loc}:∀{f:List D} {g:List Value},JY f=true->RepL P M β f g->RepL P M' β' f g
 |[],g,_,h=>by assumption
 |d::f,g,j,h=>by simp only[JY,WI]at j;have⟨x,k,e,o,p⟩:=h;exact⟨x,k,e,scalR j.1 o,Xh9 j.2 p⟩
end
def Xex:∀{f:List D},JY f=true->∀d∈f,scal d=true
 |[],_,d,h=>by grind
 |e::f,g,d,h=>by
  simp only[JY,WI]at g;rcases Ia.1 h with rfl|h
  .simp_all
  exact Xex g.2 d h
def Xkx{M M':Mem}{w:World}{x:Nat×Nat}:∀{ob:Ob},VR ob=true->(∀b o y,M b o=some y->M' b o=some y)->ObRep P M' YK w (some x) ob->ObRep P M YK w (some x) ob
 |.mp ..,f,_,_=>by simp_all[VR]
 |.raw _,f,_,_=>by simp_all[VR]
 |.arr false ..,f,_,_=>by simp_all[VR]
 |.arr true E z k (n+1),f,_,_=>by simp_all[VR]
 |.arr true E z k 0,f,p,h=>by
  have⟨b,L⟩:=x;simp only[VR,W0]at f;have⟨q,T,k1,k2,r,u,v,A,B,D,G,g⟩:=h;refine⟨q,T,k1,k2,r,u,v,A,B,D,λo=>?_,λi d hd=>?_⟩
  .have H:=G o;rw[Wk ab]at H⊢;cases N:M b o with
   |none=>rfl
   |some y=>simp_all
  have⟨y,I,J⟩:=g i d hd;have⟨e,K,j⟩:=List.mem_flatten.1 (W7 hd);exact⟨y,I,scalR (Xex (f e K) d j) J⟩
def Jb(s:Heap)(ids fz:List Nat)(r:D)(ls:List Ob)(ver n:Nat):D×Heap:=
 let e:=if scal r&&ls.all VR then s else frz s fz
 let f:=app e (ZT s ids ls)
 let q:=imp ver n r
 (q.1,app f q.2.2)
section
variable {C:Cx}{s:Heap}{U:Nat->Prop}{M:Mem}{β:Loc}{w:World}{ver:Nat}
def XbI(s:Heap)(fz:List Nat):∀(ids:List Nat) (obs:List Ob),(∀id∈ids,∃v o,s id=some (v,o))->ZT (frz s fz) ids obs=ZT s ids obs
 |[],_,_=>rfl
 |id::ids,[],_=>rfl
 |id::ids,o::obs,h=>by
  have⟨v,j,e⟩:=h id ac;have k:=XbI s fz ids obs λx p=>h x (by simp[p]);have g:∃o',frz s fz id=some (v,o'):=by
   unfold frz;split
   .rw[e];cases j with
    |mp _=>exact⟨_,rfl⟩
    |raw _=>exact⟨_,rfl⟩
    |arr bx E z q f=>cases bx<;>exact⟨_,rfl⟩
   exact⟨_,e⟩
  have⟨o',g⟩:=g;simp[ZT,g,e,k]
def Xja(I:U2 P C s U M β w)(hv:¬U ver){f:FuncId}{args eargs:List D}{vs:List Value}(hr:RepL P M β args vs){c:Prop}{as:List D}{ids:List Nat}{obs:List Ob}{fz:List Nat}(h:Zl s args=some (c,as,ids,obs,fz))(hc:c)(hfit:Z4 as eargs){R:D->List Ob->Prop}(hA:YZ P C.G f eargs obs R)(n:Nat):
 Calls P f ⟨vs⟩ w λe w'=>∃v r ls M' β',e=.returned v/\R r ls/\U2 P C (Jb s ids fz r ls ver n).2 (λx=>U x\/x=ver) M' β' w'/\Rep P M' β' (Jb s ids fz r ls ver n).1 v/\MLe M M'/\BLe β β':=by
 unfold Zl at h;split at h
 .rename_i c1 as' ids' l1 hl;split at h
  .rename_i c2 obs' l2 ho;simp only[Wq,Ww]at h;have⟨rfl,rfl,rfl,rfl,rfl⟩:=h;have⟨M1,I1,N,hF⟩:=I.freeze (l1++l2);have hboxes:Xc4 s ids':=Zd hl ⟨ac,ac⟩;have hlb:∃lb:List (Nat×Nat),lb.length=ids'.length/\Xfp s β ids' lb:=by
    have:∀l:List Nat,(∀id∈l,∃v E z H fz,s id=some (v,.arr true E z [H] fz))->∃lb:List (Nat×Nat),lb.length=l.length/\Xfp s β l lb:=by
     intro l;induction l with
     |nil=>intro _;exact⟨[],rfl,λj id h=>by simp at h⟩
     |cons id l ih=>
      intro q;obtain⟨lb,J,h2⟩:=ih λx y=>q x (by simp[y]);obtain⟨v,E,z,H,fz,A⟩:=q id ac;obtain⟨x,y,hob⟩:=I.obs id v _ A;cases x with
      |none=>simp[ObRep]at hob
      |some x=>
       refine⟨x::lb,by simp[J],λj i T=>?_⟩;cases j with
       |zero=>simp at T;subst T;exact⟨v,E,z,H,fz,x,A,ac,y⟩
       |succ j=>simpa using h2 j i (by simpa using T)
    exact this ids' hboxes.2
   have⟨lb,u,hL⟩:=hlb;have hargs:=Ja hfit (K9 I N hL hl hc.1 (λi hi=>hF i (WW _ hi)) (List.prefix_refl _) hr);have⟨g1,g2⟩:=XbG I N I1 hF ho hc.2 (λx y=>Uj _ y) hL u;have hnd:(lb.map (·.1)).Nodup:=by
    rw[List.nodup_iff_pairwise_ne,Ul];intro i j hi0 hj0 hij he;simp only[Ug]at hi0 hj0;have hii:i<lb.length:=ab;have T:j<lb.length:=ab;simp only[List.getElem_map]at he;obtain⟨v,E,z,H,fz,x,A,y,hb⟩:=hL i (ids'[i]'ab) ac;obtain⟨v',E',z',cs',fz',x',hs',hx',hb'⟩:=hL j (ids'[j]'ab) ac;have e1:lb[i]=x:=by simpa [hii]using y
    have e2:lb[j]=x':=by simpa [T]using hx'
    have p:=I.inj _ v _ _ v' _ x.1 x.2 x'.2 A hs' hb (by rw[hb',←e2,←e1,he]);have:=(Ul.1 (List.nodup_iff_pairwise_ne.1 hboxes.1)) i j ab ab hij;exact this p
   refine(hA.2 M1 w vs lb I1.mem (λg H hg=>RepC.mono I1.le (I1.glob g H hg)) (by rw[u,g1]) hnd g2 hargs).mono ?_;rintro e w' ⟨v,r,ls,M',l,rfl,hR,hK,V,W,hls,Y,hfr,hndl⟩;refine⟨v,r,ls,?_⟩;have K:ls.length=ids'.length:=by rw[hls,u]
   have q:∀id∈ids',∃v o,s id=some (v,o):=λid p=>by have⟨v,E,z,H,fz,h⟩:=hboxes.2 id p;exact⟨_,_,h⟩
   have L:∀b o x,M b o=some x->M' b o=some x:=λb o x y=>by rw[W b o (I.mem.lt y)];exact N _ _ _ y
   unfold Jb;by_cases O:(scal r&&ls.all VR)=true
   .simp only[O,if_true];simp only[WI]at O;have⟨hsc1,hso⟩:=O;have⟨rfl,hrv,Z⟩:=scal_rep (M':=M) β ver n hsc1 hfr;have⟨I2,_⟩:=I.called (ids:=ids') (lb:=lb) (M':=M) (w':=w') (obs:=ls) hboxes hL u hK (λb o x y=>V b o x (L b o x y)) (λ_ _ _=>rfl) K (λk ob x J h2=>by
     obtain⟨g3,g4⟩:=Y k ob x J h2
     exact⟨Xkx (W0.1 hso ob (W7 J)) L g3,g4⟩)
    refine⟨M,β,trivial,hR,?_,?_,MLe.refl _,BLe.refl _⟩
    .rw[Z];exact I2.mono λ_ h=>.inl h
    rw[Z];exact hrv
   simp only[O,Iq,if_false];have S:Xc4 (frz s (l1++l2)) ids':=⟨hboxes.1,λid p=>by
    obtain⟨v,E,z,H,fz,A⟩:=hboxes.2 id p
    refine⟨v,E,z,H,fz,?_⟩
    unfold frz
    split
    .rw[A];rfl
    .exact A⟩
   have hL1:Xfp (frz s (l1++l2)) β ids' lb:=λj id T=>by
    obtain⟨v,E,z,H,fz,x,A,y,hb⟩:=hL j id T;refine⟨v,E,z,H,fz,x,?_,y,hb⟩;unfold frz;split
    .rw[A];rfl
    exact A
   have⟨I2,hM2⟩:=I1.called S hL1 u hK V W K Y;rw[XbI s _ ids' ls q]at I2;have hfree:Xh8 (app (frz s (l1++l2)) (ZT s ids' ls)) β (X3 l):=by
    intro b hb id v' ob cb A y;have hge:=FrRep.ge hfr b hb;have J:∃o,frz s (l1++l2) id=some (v',o):=by
     obtain⟨q1,q2⟩:=Xc5 (frz s (l1++l2)) ids' ls (frz s (l1++l2)) id S.1 (λi hi=>by
      obtain⟨v,E,z,H,fz,h⟩:=S.2 i hi
      exact⟨_,_,h⟩) K
     rw[XbI s _ ids' ls q]at q1 q2;by_cases p:id∈ids'
     .obtain⟨j,T,rfl⟩:=WA p;obtain⟨v2,E,z,H,fz,h⟩:=S.2 _ p;have:=q2 j (ls[j]'ab) ac ac v2 _ h;rw[this]at A;obtain⟨rfl,_⟩:v2=v'/\_:=by simpa using A
      exact⟨_,h⟩
     rw[q1 p]at A;exact⟨_,A⟩
    obtain⟨o,J⟩:=J;obtain⟨x,hx1,hob⟩:=I1.obs id v' o J;rw[y]at hx1;obtain rfl:some (b,cb)=x:=by simpa using hx1
    have:=hob.lt;omega
   have⟨β',J,h2⟩:=imp_ok (C:=C) (ver:=ver) (B:=w.heap.size) I.keep.size r v l n I2 (λi _=>I2.fresh hv i) hfr hndl hfree;exact⟨M',β',trivial,hR,J.inv,h2,N.trans hM2,J.le⟩
  cases h
 simp_all
def XoW(I:U2 P C s U M β w){f:FuncId}{eargs:List D}{B:List Value}{M1:Mem}(u:MLe M M1)(E:MemOK M1 w)(p:RepL P M1 YK eargs B){R:D->List Ob->Prop}(S:YZ P C.G f eargs [] R)(H:∀r ls,R r ls->scal r=true):
 Calls P f ⟨B⟩ w λe w'=>∃v r ls,e=.returned v/\R r ls/\U2 P C s U M β w'/\Rep P M β r v:=by
 refine(S.2 M1 w B [] E (λg T V=>RepC.mono (I.le.trans u) (I.glob g T V)) rfl ac (λk ob x h=>ac) (p.mono (MLe.refl _) (BLe.zero _))).mono ?_;rintro e w' ⟨v,r,ls,M',l,rfl,L,hK,y,z,W,N,J,O⟩;have q:∀b o x,M b o=some x->M' b o=some x:=λb o x A=>by rw[z b o (I.mem.lt A)];exact u _ _ _ A
 have⟨rfl,K,_⟩:=scal_rep (M':=M) β 0 0 (H r ls L) J;have⟨I2,_⟩:=I.called (ids:=[]) (lb:=[]) (M':=M) (w':=w') (obs:=[]) ⟨ac,ac⟩ (λj id h=>by grind) rfl hK (λb o x A=>y b o x (q b o x A)) (λ_ _ _=>rfl) rfl (λk ob x h=>ac);exact⟨v,r,ls,rfl,L,I2,K⟩
end
variable {P:Program}
def HLe(s e:Heap):Prop:=∀i x,s i=some x->e i=some x
section
variable {s s':Heap}
mutual
def snap_le(g:HLe s s'):∀{d:D}{r},snap s d=some r->snap s' d=some r
 |.osl id ver z off len,r,h=>by
  unfold snap at h⊢;split at h
  .rename_i j E q u f e;rw[g _ _ e];exact h
  simp_all
 |.agg k,r,h=>by
  unfold snap at h⊢;split at h
  .rename_i c o l e;rw[Jq g e];exact h
  simp_all
 |.tup k,r,h=>by
  unfold snap at h⊢;split at h
  .rename_i c o l e;rw[Jq g e];exact h
  simp_all
 |.clo fn a b,r,h=>by
  unfold snap at h⊢;split at h
  .rename_i e p;rw[Jq g e,Jq g p];exact h
  simp_all
 |.ifc t d,r,h=>by
  unfold snap at h⊢;split at h
  .rename_i e;rw[snap_le g e];exact h
  simp_all
 |.any,r,h=>by assumption
 |.v _,r,h=>by assumption
 |.nsl,r,h=>by assumption
 |.isl ..,r,h=>by assumption
 |.ipt ..,r,h=>by assumption
 |.ept ..,r,h=>by assumption
 |.fsl ..,r,h=>by assumption
 |.fmp ..,r,h=>by assumption
 |.omp ..,r,h=>by assumption
def Jq(f:HLe s s'):∀{e:List D}{r},ZS s e=some r->ZS s' e=some r
 |[],r,h=>by assumption
 |d::e,r,h=>by
  unfold ZS at h⊢;split at h
  .rename_i g j;rw[snap_le f g,Jq f j];exact h
  simp_all
end
def Xgy(f:HLe s s'):∀{e:List (Nat×D)}{r},VM s e=some r->VM s' e=some r
 |[],r,h=>by assumption
 |(i,d)::e,r,h=>by
  unfold VM at h⊢;split at h
  .rename_i g j;rw[snap_le f g,Xgy f j];exact h
  simp_all
def Has(s:Heap)(l:List Nat):Prop:=∀i∈l,∃x,s i=some x
def Xa9(e:HLe s s'):∀{l:List Nat},Has s l->Xa4 s' l=Xa4 s l
 |[],_=>rfl
 |i::l,h=>by have⟨x,f⟩:=h i ac;have g:=Xa9 e (l:=l) (λj k=>h j (WU _ k));simp only[Xa4,f,e _ _ f,g]
mutual
def snap_has:∀{d:D}{c e l},snap s d=some (c,e,l)->Has s l
 |.osl id ver z off len,c,e,l,h=>by
  unfold snap at h;split at h
  .rename_i g;split at h
   .obtain⟨_,_,rfl⟩:=h;intro i f;simp at f;subst f;exact⟨_,g⟩
   cases h
  simp_all
 |.agg j,c,e,l,h=>by
  unfold snap at h;split at h
  .rename_i g;obtain⟨_,_,rfl⟩:=h;exact Jd g
  simp_all
 |.tup j,c,e,l,h=>by
  unfold snap at h;split at h
  .rename_i g;obtain⟨_,_,rfl⟩:=h;exact Jd g
  simp_all
 |.clo fn a b,c,e,l,h=>by
  unfold snap at h;split at h
  .rename_i g k;simp only[Wq,Ww]at h;obtain⟨_,_,rfl⟩:=h;intro i f;rcases Wt.1 f with f|f
   .exact Jd g i f
   exact Jd k i f
  simp_all
 |.ifc t d,c,e,l,h=>by
  unfold snap at h;split at h
  .rename_i g;simp only[Wq,Ww]at h;obtain⟨_,_,rfl⟩:=h;exact snap_has g
  simp_all
 |.any,c,e,l,h=>by simp[snap]at h;obtain⟨_,_,rfl⟩:=h;intro i f;simp_all
 |.v _,c,e,l,h=>by simp[snap]at h;obtain⟨_,_,rfl⟩:=h;intro i f;simp_all
 |.nsl,c,e,l,h=>by simp[snap]at h;obtain⟨_,_,rfl⟩:=h;intro i f;simp_all
 |.isl ..,c,e,l,h=>by simp[snap]at h;obtain⟨_,_,rfl⟩:=h;intro i f;simp_all
 |.ipt ..,c,e,l,h=>by simp[snap]at h;obtain⟨_,_,rfl⟩:=h;intro i f;simp_all
 |.ept ..,c,e,l,h=>by simp_all[snap]
 |.fsl ..,c,e,l,h=>by simp_all[snap]
 |.fmp ..,c,e,l,h=>by simp_all[snap]
 |.omp ..,c,e,l,h=>by simp_all[snap]
def Jd:∀{g:List D}{c f l},ZS s g=some (c,f,l)->Has s l
 |[],c,f,l,h=>by obtain⟨_,_,rfl⟩:=h;intro i e;simp_all
 |d::g,c,f,l,h=>by
  unfold ZS at h;split at h
  .rename_i j k;obtain⟨_,_,rfl⟩:=h;intro i e;rcases Wt.1 e with e|e
   .exact snap_has j i e
   exact Jd k i e
  simp_all
end
def Xey:∀{g:List (Nat×D)}{c f l},VM s g=some (c,f,l)->Has s l
 |[],c,f,l,h=>by obtain⟨_,_,rfl⟩:=h;intro i e;simp_all
 |(j,d)::g,c,f,l,h=>by
  unfold VM at h;split at h
  .rename_i k o;obtain⟨_,_,rfl⟩:=h;intro i e;rcases Wt.1 e with e|e
   .exact snap_has k i e
   exact Xey o i e
  simp_all
def XoX(e:HLe s s'){d:D}{r}(h:Xfc s d=some r):Xfc s' d=some r:=by
 unfold Xfc at h⊢;split at h
 .exact h
 .split at h
  .rename_i f;rw[e _ _ f];exact h
  cases h
 omega
def Xgz(e:HLe s s'){z:Nat}{d:D}{r}(h:elems s z d=some r):elems s' z d=some r:=by
 unfold elems at h⊢;split at h
 .exact h
 .exact h
 .exact h
 .split at h
  .rename_i f;rw[e _ _ f];exact h
  cases h
 omega
def Xjb(e:HLe s s'){a b E z n:Nat}{c:Prop}{src:List (List D)}{d:D}{r}(h:Xeh P s a b E z n c src d=some r):Xeh P s' a b E z n c src d=some r:=by
 unfold Xeh at h⊢;split at h
 .exact h
 .split at h
  .rename_i f;rw[e _ _ f];exact h
  cases h
 omega
def Xjc(e:HLe s s'){T:TypeId}{m key x:D}{r}(h:Xh2 P s T m key x=some r):Xh2 P s' T m key x=some r:=by
 unfold Xh2 at h⊢;split at h
 .split at h
  .rename_i g;rw[e _ _ g];split at h
   .rename_i f;rw[snap_le e f];simp only;rw[Xa9 e (snap_has f)];exact h
   cases h
  cases h
 omega
def Xky(g:HLe s s'){sz:Nat}{e f mx:Option Int}{d:D}{r}(h:XaJ s sz e f mx d=some r):XaJ s' sz e f mx d=some r:=by
 unfold XaJ at h⊢;split at h
 .split at h
  .split at h
   .rename_i j;simp only[g _ _ j];exact h
   cases h
  grind
 grind
def Xre(f:HLe s s'){dst:Option Nat}{ver:Nat}{t:Operand->D}{op:Op}{r}(h:opF P dst ver t s op=some r):opF P dst ver t s' op=some r:=by
 cases op with
 |load T a=>
  simp only[opF]at h⊢;split at h
  .rename_i p q;rw[p,XoX f q];exact h
  simp_all
 |store T a x=>
  simp only[opF]at h⊢;split at h
  .split at h
   .rename_i o;rw[f _ _ o];exact h
   .rename_i o;rw[f _ _ o];split at h
    .rename_i g;simp only[snap_le f g];rw[Xa9 f (snap_has g)];exact h
    cases h
   cases h
  omega
 |buildSlice T n parts=>
  simp only[opF]at h⊢;split at h
  .split at h
   .split at h
    .split at h
     .rename_i g;rw[Wn g];split at h
      .rename_i j;simp only[Xgy f j];rw[Xa9 f (Xey j)];exact h
      cases h
     cases h
    cases h
   cases h
  omega
 |mapUpdate T m key x=>exact Xjc f h
 |insert T m key x=>exact Xjc f h
 |lookup T m key ok=>
  simp only[opF]at h⊢;split at h
  .split at h
   .rename_i g j;simp only[f _ _ g,j];exact h
   cases h
  omega
 |call c=>
  have⟨callee,args,types⟩:=c;cases callee with
  |builtin b=>
   cases b<;>first|exact h|skip
   case len=>
    simp only[opF]at h⊢
    split at h
    .split at h
     .exact h
     .exact h
     .exact h
     .exact h
     .split at h
      .rename_i g j
       simp only[g,f _ _ j];exact h
      .cases h
     .cases h
    .cases h
   case clear=>
    simp only[opF]at h⊢
    split at h
    .split at h
     .split at h
      .split at h
       .rename_i j k
        simp only[j,f _ _ k];exact h
       .cases h
      .cases h
     .cases h
    .split at h
     .rename_i g j
      simp only[g,f _ _ j];exact h
     .cases h
    .cases h
   case copy=>
    simp only[opF]at h⊢
    split at h
    .split at h
     .split at h
      .rename_i g j k
       simp only[g,f _ _ j,Xgz f k];exact h
      .cases h
     .cases h
    .cases h
   case delete=>
    simp only[opF]at h⊢
    split at h
    .split at h
     .rename_i g j
      simp only[g,f _ _ j];exact h
     .cases h
    .cases h
   simp only[opF]at h⊢;split at h
   .split at h
    .split at h
     .split at h
      .split at h
       .rename_i k;rw[Wn k];split at h
        .split at h
         .rename_i u;simp only[Xgz f u];exact Xjb f h
         cases h
        .split at h
         .exact Xjb f h
         cases h
        cases h
       cases h
      cases h
     cases h
    cases h
   omega
  |_=>exact h
 |slice T x v y mx=>
  simp only[opF]at h⊢;split at h
  .split at h
   .simp only[Uq]at h⊢;obtain⟨a,h,e⟩:=h;exact⟨a,Xky f h,e⟩
   cases h
  .exact h
  cases h
 |_=>exact h
end
variable {P:Program}
inductive It where
 |code (c:Code)
 |ops (full:Array Oper) (rest:List Oper)
 |blk (id:Nat)
 |stop (Q:St->Prop)
abbrev AW:=Act->World->Prop
def Xia{F:Fence}{n:Nat}{c:Code}{Q:Exit->AW}{a:Act}{w:World}(h:c.wpIn F n P (Exit.noGoto Q) a w):(Code.scope c).wpIn F n P Q a w:=by
 intro b k g q hb r;have j:(lone (b.atR a (.code (.scope c)::k)) g w).fenced P F:=fenced_calm hb r rfl;have o:step P (lone (b.atR a (.code (.scope c)::k)) g w)=.next (lone (b.atR a (.code c::.inScope c::k)) g w):=step_lone_go (by rfl)
 have⟨e,a₁,w₁,p,f⟩:=h b (.inScope c::k) g q hb r;have v:step P (lone (b.atR a₁ (.inScope c::k)) g w₁)=.next (lone (b.atR a₁ k) g w₁):=step_lone_go (by rfl)
 cases e with
 |normal=>exact⟨.normal,a₁,w₁,p,.head j o (StepsIn.trans f (.one (fenced_calm hb r rfl) v))⟩
 |exit id=>exact⟨.exit id,a₁,w₁,p,λx y=>.head j o (f.1 x ah),λu y=>let ⟨k1,e,s⟩:=f.2 u ah;⟨k1,e,.head j o s⟩⟩
 |goto l=>exact p.elim
 |ret=>exact⟨_,a₁,w₁,p,.of_steps (.one j o) f⟩
 |panic ch=>exact⟨_,a₁,w₁,p,.of_steps (.one j o) f⟩
 |outgrown=>exact⟨_,a₁,w₁,p,.of_steps (.one j o) f⟩
def Xcr{F:Fence}{g:Nat}{c:Code}{Q:Exit->AW}{a:Act}{w:World}(I:Nat->AW)(n:Nat)(j:I n a w)(rd:∀n a w,I n a w->c.wpIn F g P (Exit.then (λa w=>∃k,k<n/\I k a w) Q) a w):(Code.loop c).wpIn F g P Q a w:=by
 refine wpIn_loop (λa w=>∃n,I n a w) (λa w=>leastOf λn=>I n a w) ⟨n,j⟩ λa w o=>wpIn_mono (rd _ a w (leastOf_spec o).1) λe q w' h=>?_;cases e with
 |normal=>have⟨k,p,f⟩:=h;exact And.intro ⟨k,f⟩ (Nat.lt_of_le_of_lt ((leastOf_spec ⟨k,f⟩).2 k f) p)
 |_=>exact h
@[reducible] def fz(r:Option Nat):Fence:={Fence.wide with round:=r}
def Xc6{r:Option Nat}{n:Nat}{f:FuncId}{args:Array Value}{w:World}{R:Ending->World->Prop}(h:Calls P f args w R):CallsIn (fz r) n P f args w R:=(callsIn_wide (n:=n)).2 h
def XlR{r:Option Nat}{n:Nat}{o:Oper}{a:Act}{w:World}{K:AW}{Q:Exit->AW}(hd:∀c,o.op≠.defer c)(h:o.wp P a w K Q):o.wpIn (fz r) n P a w K Q:=by
 refine⟨λ_ _=>trivial,?_⟩;rw[Oper.semAt_eq _ _ _ hd];unfold Oper.wp at h;revert h;generalize (execOp a.eval o).run P w=x;intro h;unfold Oper.upon at h;split at h
 .exact h
 .exact h
 .exact h
 .exact⟨λe=>(by cases e),Xc6 h⟩
 .exact⟨λe=>(by cases e),λc f _=>let ⟨v,w',r,s⟩:=h c f;⟨v,w',r,stepsIn_wide.2 s⟩⟩
 .exact h
 simp_all
def JB(R:AW)(f:Option Nat->AW):Exit->AW
 |.normal=>f none
 |.exit id=>f (some id)
 |.ret=>R
 |_=>λ_ _=>False
def sem(P:Program)(C:Cx)(R:AW):List It->Option Nat->AW
 |[],none=>R
 |[],some _=>λ_ _=>False
 |.stop Q::_,none=>λa w=>∃st,Rel P C st a w/\Q st
 |.stop _::k,some i=>sem P C R k (some i)
 |.blk _::k,none=>sem P C R k none
 |.blk j::k,some i=>if i=j then sem P C R k none else sem P C R k (some i)
 |.code c::k,none=>c.wpIn (fz C.rd) 0 P (JB R (sem P C R k))
 |.code _::k,some i=>sem P C R k (some i)
 |.ops full rest::k,none=>wpListIn (fz C.rd) 0 P full (JB R (sem P C R k)) rest
 |.ops _ _::k,some i=>sem P C R k (some i)
def Zy(P:Program)(C:Cx)(Q:St->Prop):AW:=λa w=>∃st,Rel P C st a w/\Q st
class Tag{α:Type}(x:α):Type
instance{α:Type}(x:α):Tag x:=⟨⟩
abbrev Prf{α:Type}(_:α):Prop:=True
def LoopG(P:Program)(C:Cx)(R:St->Prop)(c:Code)(k:List It)(st:St)[Tag (C,R,c,k,st)](_:Prf c):Prop:=
 ∀a w,Rel P C st a w->(Code.loop c).wpIn (fz C.rd) 0 P (JB (Zy P C R) (sem P C (Zy P C R) k)) a w
def DrawnG(P:Program)(C:Cx)(R:St->Prop)(id:Nat)(ops:Array Oper)(k:List It)(st:St)[Tag (C,R,ops,k,st)](_:Prf ops):Prop:=
 ∀a w,Rel P C st a w->(Code.region id ops true).wpIn (fz C.rd) 0 P (JB (Zy P C R) (sem P C (Zy P C R) k)) a w
def CallG(P:Program)(G:Nat->Option (List D))(f:FuncId)(args:List D)(obs:List Ob)(K:D->List Ob->Prop)[Tag (G,K)](_:Prf args):Prop:=
 ∃eargs R,Z4 args eargs/\YZ P G f eargs obs R/\∀r ls,R r ls->K r ls
def VS(b:Bool)(x y:Prop):Prop:=(b=true->x)/\(b=false->y)
def XaC(st:St)(x:Nat)(d:D):St:={st with t:=upd st.t x d}
def nx(st:St)(dst:Option Nat)(d:D)(u:Up)(n k:Nat):St:=
 ⟨match dst with|some x=>upd st.t x d|none=>st.t,app st.s u,n,k⟩
def XS(dst:Option Nat)(n:Nat):Option Nat:=match dst with
 |some x=>if x<n then some x else none
 |none=>none
def callee(t:Operand->D)(c:Call):Option (FuncId×List D):=match c.callee with
 |.value f=>match t f with
  |.clo (.func g) first caps=>some (g,first++(c.args.toList.map t++caps))
  |_=>none
 |_=>none
def Xcx(t:Operand->D)(c:Call):Option (Nat×List D):=match c.callee with
 |.value f=>match t f with
  |.clo (.yield l) [] []=>some (l,c.args.toList.map t)
  |_=>none
 |_=>none
def ZR:Op->Option Call
 |.call c=>match c.callee with
  |.value _=>some c
  |_=>none
 |_=>none
def aft(s:Heap)(ids fz:List Nat)(r:D)(ls:List Ob)(ver n:Nat):D×Up:=
 if scal r&&ls.all VR then(r,ZT s ids ls)else((imp ver n r).1,Xa4 s fz++(ZT s ids ls++(imp ver n r).2.2))
def Xrf(x:D×Up)(dst:Option Nat)(n k:Nat)(f:Option Nat->D->Up->Nat->Nat->Prop)[Tag f](_:Prf x):Prop:=f dst x.1 x.2 n k
def Xca(x:Option (Prop×D×Up))(dst:Option Nat)(n k:Nat)(f:Option Nat->D->Up->Nat->Nat->Prop)[Tag f](_:Prf x):Prop:=match (generalizing:=false) x with
 |some (c,d,u)=>c/\f dst d u n k
 |none=>False
def Xib(P:Program)(G:Nat->Option (List D))(f:FuncId)(x:Option (Prop×List D×List Nat×List Ob×List Nat))(K:List Nat->List Nat->D->List Ob->Prop)[Tag (G,K)](_:Prf x):Prop:=match (generalizing:=false) x with
 |some (e,as,ids,obs,fz)=>e/\CallG P G f as obs (K ids fz) trivial
 |none=>False
def nxS(st:St)(dst:Option Nat)(d:D)(s:Heap)(n k:Nat):St:=
 ⟨match dst with|some x=>upd st.t x d|none=>st.t,s,n,k⟩
def XgA(n:Nat)(dst:Option Nat):Option Nat:=match dst with
 |some d=>some (n+d)
 |none=>none
def CallX(P:Program)(C:Cx)(f:FuncId)(args:List D)(dst:Option Nat)(st:St)(K:St->Prop)[Tag (C,dst,st,K)](_:Prf args):Prop:=
 (∃fn,P.funcs[f]? = some fn/\fn.body.isNone=false/\(fn.name== "runtime.NumGoroutine")=false) /\
 ∀M β w g,BLe C.b0 β->U2 P C st.s (·<st.k) M β w->RepL P M β args g->Calls P f ⟨g⟩ w λe w'=>∃v d s' h M' β',e=.returned v/\U2 P C s' (·<h) M' β' w'/\Rep P M' β' d v/\MLe M M'/\BLe β β'/\K (nxS st (XS dst st.n) d s' st.n h)
def YieldX(P:Program)(C:Cx)(l:Nat)(args:List D)(dst:Option Nat)(st:St)(K:St->Prop)[Tag (C,dst,st,K)](_:Prf args):Prop:=
 ∀M β w g,BLe C.b0 β->U2 P C st.s (·<st.k) M β w->RepL P M β args g->∃f tmps assign body,(Instr.yield l ⟨g⟩).run P w=.ok (.round l f tmps assign body) w /\
  RoundIn (fz C.rd) 0 P l f tmps assign body w λe w'=>∃v d s' h M' β',e=.returned v/\U2 P C s' (·<h) M' β' w'/\Rep P M' β' d v/\MLe M M'/\BLe β β'/\K (nxS st (XS dst st.n) d s' st.n h)
def Xfq(P:Program)(C:Cx)(x:Option (Nat×List D))(dst:Option Nat)(st:St)(K:St->Prop)[Tag (C,dst,st,K)](_:Prf x):Prop:=match (generalizing:=false) x with
 |some (l,args)=>YieldX P C l args dst st K trivial
 |none=>False
def Xc7(P:Program)(C:Cx)(x:Option (FuncId×List D))(c:Call)(dst:Option Nat)(st:St)(K:St->Prop)[Tag (C,c,dst,st,K)](_:Prf x):Prop:=match (generalizing:=false) x with
 |some (f,args)=>CallX P C f args dst st K trivial
 |none=>Xfq P C (Xcx (ev st.t C.G) c) dst st K trivial
def Xez(P:Program)(C:Cx)(x:Option Call)(o:Oper)(st:St)(K:St->Prop)[Tag (C,o,st,K)](_:Prf x):Prop:=
 match (generalizing:=false) x with
 |some c=>Xc7 P C (callee (ev st.t C.G) c) c o.dst st K trivial
 |none=>Xca (opF P (XgA C.off o.dst) st.k (ev st.t C.G) st.s o.op) (XS o.dst st.n) st.n (st.k+1) (λdst d u n k=>K (nx st dst d u n k)) trivial
def XaN(P:Program)(C:Cx)(o:Oper)(st:St)(K:St->Prop):Prop:=Xez P C (ZR o.op) o st K trivial
def XgB(dst:Option Nat)(n k:Nat)(f:Option Nat->Nat->Nat->Prop)[Tag f](_:Prf dst):Prop:=f dst n k
def Ka(d:D)(r:Nat)(want:Bool)(st:St)(x y:St->Prop)[Tag (st,x,y)](_:Prf d):Prop:=match (generalizing:=false) d with
 |.v (.bool b)=>VS b (if want then x st else y st) (if want then y st else x st)
 |.v (.tuple _)=>y st
 |_=>False
def Xfr(r:Option Nat)(want:Bool)(st:St)(x y:St->Prop)[Tag (st,x,y)](_:Prf r):Prop:=match (generalizing:=false) r with
 |some r=>Ka (st.t r) r want st x y trivial
 |none=>False
def XbJ(full:Array Oper)(o:Oper)(st:St)(x y:St->Prop):Prop:=
 match o.guard with
 |none=>x st
 |some (g,want)=>Xfr ((full[g]?).bind (·.dst)) want st x y trivial
def Xcb(d:D)(c:Operand)(st:St)(x y:St->Prop)[Tag (c,st,x,y)](_:Prf d):Prop:=match (generalizing:=false) d with
 |.v (.bool b)=>VS b (x st) (y st)
 |_=>False
def Xcc:Nat->List It->Option (List It)
 |_,[]=>none
 |id,.blk j::k=>if id=j then some k else Xcc id k
 |id,_::k=>Xcc id k
def Xjd(x:Option (List It))(f:List It->Prop)[Tag f](_:Prf x):Prop:=match (generalizing:=false) x with
 |some k=>f k
 |none=>False
def run(P:Program)(C:Cx)(R:St->Prop):Nat->List It->St->Prop
 |0,_,_=>False
 |_+1,[],st=>R st
 |_+1,.stop Q::_,st=>Q st
 |n+1,.blk _::k,st=>run P C R n k st
 |n+1,.ops _ []::k,st=>run P C R n k st
 | n+1,.ops full (o::rest)::k,st=>XbJ full o st
     (λst=>XaN P C o st (run P C R n (.ops full rest::k)))
     (λst=>XgB (XS o.dst st.n) st.n (st.k+1) (λdst m j=>run P C R n (.ops full rest::k) (nx st dst (.v undef) [] m j)) trivial)
 |n+1,.code .skip::k,st=>run P C R n k st
 |n+1,.code (.seq x y)::k,st=>run P C R n (.code x::.code y::k) st
 |n+1,.code (.cond c x y)::k,st=>Xcb (ev st.t C.G c) c st (run P C R n (.code x::k)) (run P C R n (.code y::k)) trivial
 |n+1,.code (.block id c)::k,st=>run P C R n (.code c::.blk id::k) st
 |n+1,.code (.scope c)::k,st=>run P C R n (.code c::k) st
 |n+1,.code (.label _)::k,st=>run P C R n k st
 |n+1,.code (.exit id)::k,st=>Xjd (Xcc id k) (λe=>run P C R n e st) trivial
 |_+1,.code .ret::_,st=>R st
 |_+1,.code (.loop c)::k,st=>LoopG P C R c k st trivial
 |n+1,.code (.region _ ops false)::k,st=>run P C R n (.ops ops ops.toList::k) st
 |_+1,.code (.region id ops true)::k,st=>DrawnG P C R id ops k st trivial
 |_+1,.code _::_,_=>False
def VT{C:Cx}{R:AW}{id:Nat}:∀{k f:List It} {a:Act} {w:World},Xcc id k=some f->sem P C R f none a w->sem P C R k (some id) a w
 |[],f,a,w,h,_=>by simp_all[Xcc]
 |.blk j::k,f,a,w,h,g=>by
  unfold Xcc at h;unfold sem;split at h
  .simp_all
  rename_i e;rw[Wk e];exact VT h g
 |.code c::k,f,a,w,h,g=>by unfold sem;exact VT h g
 |.ops _ _::k,f,a,w,h,g=>by unfold sem;exact VT h g
 |.stop _::k,f,a,w,h,g=>by unfold sem;exact VT h g
def OB{C:Cx}{st:St}{a:Act}{w':World}{s':Heap}{o:Nat}{M':Mem}{β':Loc}{M:Mem}{β:Loc}{d:D}{v:Value}{dst:Option Nat}(g:a.defers=C.df)(r:a.tmps.size=st.n)(h:BLe C.b0 β)(j:∀x,Rep P M β (st.t x) (a.tmps.getD x undef))(k:MLe M M')(f:BLe β β')(I:U2 P C s' (·<o) M' β' w')(u:Rep P M' β' d v):Rel P C (nxS st (XS dst st.n) d s' st.n o) (a.put dst v) w':=by
 cases dst with
 |none=>exact⟨g,r,M',β',h.trans f,λx=>(j x).mono k f,I⟩
 |some x=>
  by_cases p:x<st.n
  .simp only[XS,Wn p];refine⟨g,by simp_all[nxS,Act.put],M',β',h.trans f,λi=>?_,I⟩;simp only[nxS,upd,Act.put];by_cases q:i=x
   .simp_all
   rw[Wk q];have e:(a.tmps.setIfInBounds x v).getD i undef=a.tmps.getD i undef:=by simp[Ne.symm q]
   rw[e];exact(j i).mono k f
  simp only[XS,Wk p];refine⟨g,by simp_all[nxS,Act.put],M',β',h.trans f,λi=>?_,I⟩;have e:a.put (some x) v=a:=by simp only[Act.put];rw[Array.setIfInBounds_eq_of_size_le ab]
  rw[e];exact(j i).mono k f
def Rel.put{C:Cx}{st:St}{a:Act}{w':World}{u:Up}{e:Nat}{M':Mem}{β':Loc}{M:Mem}{β:Loc}{d:D}{v:Value}{dst:Option Nat}(f:a.defers=C.df)(g:a.tmps.size=st.n)(h:BLe C.b0 β)(j:∀x,Rep P M β (st.t x) (a.tmps.getD x undef))(k:MLe M M')(o:BLe β β')(I:U2 P C (app st.s u) (·<e) M' β' w')(p:Rep P M' β' d v):Rel P C (nx st (XS dst st.n) d u st.n e) (a.put dst v) w':=OB f g h j k o I p
def XbK:wfV undef:=by simp[undef,wfV]
def Xcd{g:FuncId}{va vb vs:List Value}{w:World}:(Deferred.ofValue (.func (.func g) ⟨va⟩ ⟨vb⟩) ⟨vs⟩).run P w=.ok {target:=.fn (.func g) ⟨vb⟩,args:=⟨va++vs⟩} w:=by simp[Deferred.ofValue,pure,Sem.run]
def RepL.map{M:Mem}{β:Loc}{t:Operand->D}{ρ:Operand->Value}(h:∀x,Rep P M β (t x) (ρ x)):∀l:List Operand,RepL P M β (l.map t) (l.map ρ)
 |[]=>by rfl
 |x::l=>by exact⟨_,_,rfl,h x,RepL.map h l⟩
def JZ{ρ:Operand->Value}{o:Oper}{c:Call}(f:o.op=.call c){x:Operand}(k:c.callee=.value x){g:FuncId}{va vb:List Value}(p:ρ x=.func (.func g) ⟨va⟩ ⟨vb⟩){fn:Func}(q:P.funcs[g]? = some fn)(hb:fn.body.isNone=false)(r:(fn.name== "runtime.NumGoroutine")=false)(w:World):
 (execOp ρ o).run P w=.ok (.enter g ⟨va++(c.args.toList.map ρ++vb)⟩) w:=by
 unfold execOp;simp only[f,resolve,k,p];have e:c.args.map ρ=⟨c.args.toList.map ρ⟩:=by rw[←Array.toList_inj];simp
 have h:¬fn.name = "runtime.NumGoroutine":=by simpa using r
 have j:¬fn.body=none:=by intro u;rw[u]at hb;simp at hb
 simp[go_sem,Xcd,invoke,callFunc,q,j,h]
def Xic{ρ:Operand->Value}{o:Oper}{c:Call}(f:o.op=.call c){x:Operand}(g:c.callee=.value x){l:Nat}(h:ρ x=.func (.yield l) #[] #[]){w:World}{n:Next}(j:(Instr.yield l ⟨c.args.toList.map ρ⟩).run P w=.ok n w):(execOp ρ o).run P w=.ok n w:=by
 unfold execOp;simp only[f,resolve,g,h];have e:c.args.map ρ=⟨c.args.toList.map ρ⟩:=by rw[←Array.toList_inj];simp
 rw[e];simp[go_sem,Deferred.ofValue,pure,invoke,j]
section
variable {C:Cx}{st:St}{a:Act}{w:World}
mutual
def scal_imp{ver n:Nat}:∀{d:D},scal d=true->imp ver n d=(d,n,[])
 |.any,_=>by rfl
 |.v x,_=>by rfl
 |.agg e,h=>by simp_all[scal,imp,XbL,h]
 |.tup e,h=>by simp_all[scal,imp,XbL,h]
 |.nsl,h=>by rfl
 |.isl ..,h=>by rfl
 |.osl ..,h=>by rfl
 |.ept ..,h=>by rfl
 |.ipt ..,h=>by rfl
 |.clo ..,h=>by simp_all[scal]
 |.ifc ..,h=>by simp_all[scal]
 |.fsl ..,h=>by simp_all[scal]
 |.fmp ..,h=>by simp_all[scal]
 |.omp ..,h=>by rfl
def XbL{ver n:Nat}:∀{e:List D},JY e=true->VK ver n e=(e,n,[])
 |[],_=>by rfl
 |d::e,h=>by simp_all[JY,WI,VK,scal_imp,h,XbL,Ib]
end
def XlS(s:Heap)(ids fz:List Nat)(r:D)(ls:List Ob)(ver n:Nat)(e:∀id∈ids,∃v o,s id=some (v,o)):(aft s ids fz r ls ver n).1=(Jb s ids fz r ls ver n).1/\app s (aft s ids fz r ls ver n).2=(Jb s ids fz r ls ver n).2:=by
 unfold aft Jb;by_cases h:(scal r&&ls.all VR)=true
 .simp only[h,if_true];simp at h;rw[scal_imp h.1];exact⟨rfl,rfl⟩
 simp[h,Iq,if_false,Zg,VP]
def XgC{ρ:Operand->Value}{o:Oper}{x:Option Nat}:execOp ρ {o with dst:=x}=execOp ρ o:=by rfl
def CallX.c{K:St->Prop}{f:FuncId}{args:List D}{dst:Option Nat}(h:Xib P C.G f (Zl st.s args) (λids fz r ls=>
 Xrf (aft st.s ids fz r ls st.k (64*(C.off+dst.getD 0))) (XS dst st.n) st.n (st.k+1) (λdst d u n k=>K (nx st dst d u n k)) trivial) trivial)(t:Prf args):CallX P C f args dst st K t:=by
 unfold Xib at h;split at h
 .rename_i cc as ids obs fz g;have⟨x,eargs,R,p,J,y⟩:=h;have⟨⟨fn,L,A,N⟩,_⟩:=id J;refine⟨⟨fn,L,A,N⟩,λM β w vs h0 I j=>?_⟩;have q:∀id∈ids,∃v o,st.s id=some (v,o):=by
   unfold Zl at g;split at g
   .rename_i O;split at g
    .simp only[Wq,Ww]at g;obtain⟨_,_,rfl,_,_⟩:=g;intro id B;obtain⟨v,E,z,cs,fz,S⟩:=(Zd O ⟨ac,ac⟩).2 id B;exact⟨_,_,S⟩
    cases g
   cases g
  refine(Xja I (ver:=st.k) ab j g x p J (64*(C.off+dst.getD 0))).mono ?_;rintro e w' ⟨v,r,ls,M',β',rfl,T,I',H,V,W⟩;have⟨Y,Z⟩:=XlS st.s ids fz r ls st.k (64*(C.off+dst.getD 0)) q;rw[←Y]at H;rw[←Z]at I';exact⟨v,_,_,st.k+1,M',β',rfl,I'.mono λv H=>ab,H,V,W,y r ls T⟩
 simp_all
def XeA{o:Oper}{K:St->Prop}{K':AW}{Q:Exit->AW}(hr:Rel P C st a w)(h:XaN P C o st K)(hK:∀st a w,Rel P C st a w->K st->K' a w):o.wpIn (fz C.rd) 0 P a w K' Q:=by
 have B:∀c,o.op≠.defer c:=by intro c e;unfold XaN Xez at h;rw[e]at h;simp[ZR,opF,Xca]at h
 have⟨O,R,M,β,H,N,I⟩:=hr;have r:=XbF I N;unfold XaN Xez at h;split at h
 .rename_i c W;have z:o.op=.call c:=by
   unfold ZR at W;split at W
   .grind
   grind
  unfold Xc7 at h;split at h
  .rename_i f args j;have⟨⟨fn,hf,S,hn⟩,hX⟩:=h;unfold callee at j;split at j
   .rename_i x T;split at j
    .rename_i g first caps y
     obtain⟨rfl,rfl⟩:=j;have q:=r x;rw[y]at q;have⟨Y,Z,q,ha,hb⟩:=q;refine XlR B ?_;unfold Oper.wp;rw[JZ z T q hf S hn w];have D:RepL P M β (first++(c.args.toList.map (ev st.t C.G)++caps)) (Y++(c.args.toList.map a.eval++Z)):=
      ha.append ((RepL.map r _).append hb)
     refine(hX M β w _ H I D).mono ?_;rintro e w' ⟨v,d,s',k',M',β',rfl,I',E,J,L,V⟩;exact hK _ _ _ (OB O R H N J L I' E) V
    cases j
   simp_all
  unfold Xfq at h;split at h;rotate_left
  .exact h.elim
  rename_i l args j;unfold Xcx at j;split at j
  .rename_i x T;split at j
   .rename_i l' y;obtain⟨rfl,rfl⟩:=j;have q:=r x;rw[y]at q;obtain⟨Y,Z,q,rfl,rfl⟩:=q;obtain⟨f,tmps,assign,body,hy,hR⟩:=h M β w _ H I (RepL.map r _);refine⟨λ_ _=>trivial,?_⟩;rw[Oper.semAt_eq _ _ _ B,Xic z T q hy,Oper.uponIn_round];refine⟨λe=>(by cases e),hR.mono ?_⟩;rintro e w' ⟨v,d,s',k',M',β',rfl,I',E,J,L,V⟩;exact hK _ _ _ (OB O R H N J L I' E) V
   cases j
  simp_all
 refine XlR B ?_;unfold Xca at h;split at h
 .rename_i c d u z;have:=XlQ I (ver:=st.k) ab {o with dst:=XgA C.off o.dst} a.eval (ev st.t C.G) r (λ_=>rfl) z h.1;obtain⟨M',β',w',v,p,I',E,J,L⟩:=this;rw[XgC]at p;have A:Rel P C (nx st (XS o.dst st.n) d u st.n (st.k+1)) (a.put o.dst v) w':=Rel.put O R H N J L (I'.mono λv E=>by show v<st.k+1;omega) E;unfold Oper.wp;rcases p with p|⟨p,rfl⟩
  .rw[p];exact hK _ _ _ A h.2
  rw[p];exact hK _ _ _ A h.2
 simp_all
def Rel.bump(e:Rel P C st a w)(dst:Option Nat):Rel P C (nx st (XS dst st.n) (.v undef) [] st.n (st.k+1)) (a.put dst undef) w:=by have⟨f,g,M,β,h,j,I⟩:=e;exact Rel.put (u:=[]) f g h j (MLe.refl _) (BLe.refl _) (I.mono λv o=>ab) (by simp[Rep,XbK])
def Rel.bool(e:Rel P C st a w){r:Nat}{b:Bool}(hb:st.t r=.v (.bool b)):a.tmps.getD r undef=.bool b:=by have⟨g,h,M,β,j,f,I⟩:=e;have:=f r;simp_all[hb,Rep]
def Rel.tuple(e:Rel P C st a w){r:Nat}{vs:Array Value}(hb:st.t r=.v (.tuple vs)):a.tmps.getD r undef=.tuple vs:=by have⟨g,h,M,β,j,f,I⟩:=e;have:=f r;simp_all[hb,Rep]
def Xkz{full:Array Oper}{o:Oper}{x y:St->Prop}(u:Rel P C st a w)(h:XbJ full o st x y):
 (Region.wanted o (yielded full a.tmps)=true->x st)/\(Region.wanted o (yielded full a.tmps)=false->y st):=by
 unfold XbJ at h;split at h
 .rename_i p;have hw:Region.wanted o (yielded full a.tmps)=true:=by unfold Region.wanted;rw[p]
  simp_all
 rename_i g want p;unfold Xfr at h;split at h
 .rename_i r j;unfold Ka at h;split at h
  .rename_i b hb;have f:=u.bool hb;have q:yielded full a.tmps g=some b:=by
    unfold yielded;rw[j];simp only[Oh];by_cases k:r<a.tmps.size
    .have:a.tmps[r]? = some (.bool b):=by simp[k]at f;simp[k,f]
     rw[this]
    simp[k,undef]at f
   have hw:Region.wanted o (yielded full a.tmps)=(some b==some want):=by unfold Region.wanted;rw[p];simp only;rw[q]
   rw[hw];have⟨ht,v⟩:=h;cases b
   .cases want<;>simpa using v
   cases want<;>simpa using ht
  .rename_i z hb;have f:=u.tuple hb;have q:yielded full a.tmps g=none:=by
    unfold yielded;rw[j];simp only[Oh];by_cases k:r<a.tmps.size
    .have:a.tmps[r]? = some (.tuple z):=by simp[k]at f;simp[k,f]
     rw[this]
    have:a.tmps[r]? = none:=by simp;omega
    rw[this]
   have hw:Region.wanted o (yielded full a.tmps)=false:=by unfold Region.wanted;rw[p];simp only;rw[q];rfl
   rw[hw];exact⟨λe=>(by cases e),λ_=>h⟩
  exact h.elim
 simp_all
def Yt{R:St->Prop}:∀(n:Nat) (k:List It) {st:St} {a:Act} {w:World},Rel P C st a w->run P C R n k st->sem P C (Zy P C R) k none a w
 |0,k,st,a,w,_,h=>by unfold run at h;simp_all
 |n+1,[],st,a,w,f,h=>by exact⟨st,f,h⟩
 |n+1,.stop Q::k,st,a,w,f,h=>by exact⟨st,f,h⟩
 |n+1,.blk _::k,st,a,w,f,h=>by exact Yt n k f h
 |n+1,.ops full []::k,st,a,w,f,h=>by exact Yt n k f h
 |n+1,.ops full (o::rest)::k,st,a,w,f,h=>by
  have⟨r,u⟩:=Xkz f h;refine wpListIn_step λK hK=>?_;split
  .rename_i hw;exact XeA f (r hw) λv D w2 p j=>hK _ _ (Yt n (.ops full rest::k) p j)
  exact⟨λ_ _=>trivial,hK _ _ (Yt n (.ops full rest::k) (f.bump o.dst) (u (by simp_all)))⟩
 |n+1,.code .skip::k,st,a,w,f,h=>by exact wpIn_skip (Yt n k f h)
 |n+1,.code (.seq x y)::k,st,a,w,f,h=>by refine wpIn_seq ?_;refine wpIn_mono (Yt n (.code x::.code y::k) f h) ?_;intro e q w' g;cases e<;>exact g
 |n+1,.code (.cond c x y)::k,st,a,w,f,h=>by
  unfold run Xcb at h;split at h
  .rename_i b hb;have j:a.eval c=.bool b:=by obtain⟨E,j,M,β,G,z,I⟩:=f;have:=XbF I z c;rw[hb]at this;simp only[Rep]at this;exact this.1
   refine wpIn_cond_split j (λe=>?_) (λe=>?_)
   .exact Yt n (.code x::k) f (h.1 e)
   exact Yt n (.code y::k) f (h.2 e)
  simp_all
 |n+1,.code (.block id c)::k,st,a,w,f,h=>by
  refine wpIn_block ?_;refine wpIn_mono (Yt n (.code c::.blk id::k) f h) ?_;intro e q w' g;cases e with
  |exit i=>
   simp only[Exit.inBlock];have g:sem P C (Zy P C R) (.blk id::k) (some i) q w':=g;unfold sem at g;split at g<;>rename_i e
   .rw[Wn e];exact g
   rw[Wk e];exact g
  |_=>exact g
 |n+1,.code (.scope c)::k,st,a,w,f,h=>by refine Xia (wpIn_mono (Yt n (.code c::k) f h) ?_);intro e q w' g;cases e<;>exact g
 |n+1,.code (.label l)::k,st,a,w,f,h=>by exact wpIn_label (Yt n k f h)
 |n+1,.code (.exit id)::k,st,a,w,f,h=>by
  unfold run Xjd at h;split at h
  .rename_i A B;exact wpIn_exit (VT B (Yt n A f h))
  simp_all
 |n+1,.code .ret::k,st,a,w,f,h=>by exact wpIn_ret ⟨st,f,h⟩
 |n+1,.code (.loop c)::k,st,a,w,f,h=>by exact h a w f
 |n+1,.code (.region id ops false)::k,st,a,w,f,h=>by exact wpIn_region_list (Yt n (.ops ops ops.toList::k) f h)
 |n+1,.code (.region id ops true)::k,st,a,w,f,h=>by exact h a w f
 |n+1,.code (.rangeFunc ..)::k,st,a,w,f,h=>by unfold run at h;simp_all
 |n+1,.code (.goto ..)::k,st,a,w,f,h=>by unfold run at h;simp_all
 |n+1,.code (.refuse ..)::k,st,a,w,f,h=>by unfold run at h;simp_all
def LoopG.of{R:St->Prop}{c:Code}{k:List It}(I:Nat->St->Prop)(m n:Nat)(q:I n st)(round:∀n st,I n st->run P C R m (.code c::.stop (λf=>∃g,g<n/\I g f)::k) st)(t':Prf c):LoopG P C R c k st t':=by
 intro a w h;refine Xcr (λn a w=>∃st,Rel P C st a w/\I n st) n ⟨st,h,q⟩ ?_;rintro n a w ⟨st,h,u⟩;refine wpIn_mono (Yt m _ h (round n st u)) ?_;intro e y w' p;cases e with
 |normal=>have⟨f,j,g,x,o⟩:=p;exact⟨g,x,f,j,o⟩
 |_=>exact p
def LoopU(P:Program)(C:Cx)(R:St->Prop)(c:Code)(k:List It)(n:Nat)(st:St)[Tag (C,R,c,k,st)](_:Prf c):Prop:=
 ∀a w,Rel P C st a w->Code.roundsIn (fz C.rd) 0 P c (JB (Zy P C R) (sem P C (Zy P C R) k)) n a w
def LoopU.s{R:St->Prop}{c:Code}{k:List It}{st:St}{n:Nat}(m:Nat)(h:run P C R m (.code c::.stop (λf=>LoopU P C R c k n f trivial)::k) st)(t':Prf c):LoopU P C R c k (n+1) st t':=by
 intro a w o;refine wpIn_mono (Yt m _ o h) ?_;intro e p w' j;cases e with
 |normal=>have⟨f,g,q⟩:=j;exact q p w' g
 |_=>exact j
end
variable {P:Program}
mutual
def shut(s:Heap)(fr:List Nat):D->Option (Prop×D×List Nat×List Nat)
 |.osl id ver z off len=>match s id with
  |some (f,.arr false E o g fz)=>if ver=f/\z=o then
   (if id∈fr then some (off=0/\fz=0/\len<=g.length,.fsl E z (g.take len),[],[id])
    else some (off+len<=g.length,.isl E z ((g.drop off).take len),[id],[]))else none
  |_=>none
 |.omp id ver=>match s id with
  |some (f,.mp k g)=>if ver=f/\id∈fr then some (True,.fmp k (g.map (·.1)) (g.map (·.2)),[],[id])else none
  |_=>none
 |.agg h=>match Xce s fr h with
  |some (c,j,l,m)=>some (c,.agg j,l,m)
  |none=>none
 |.tup h=>match Xce s fr h with
  |some (c,j,l,m)=>some (c,.tup j,l,m)
  |none=>none
 |.clo fn a b=>match Xce s fr a,Xce s fr b with
  |some (c,p,l,m),some (q,r,u,y)=>some (c/\q,.clo fn p r,l++u,m++y)
  |_,_=>none
 |.ifc t d=>match shut s fr d with
  |some (c,e,l,m)=>some (c,.ifc t e,l,m)
  |none=>none
 |.any=>some (True,.any,[],[])
 |.v x=>some (True,.v x,[],[])
 |.nsl=>some (True,.nsl,[],[])
 |.isl E z g=>some (True,.isl E z g,[],[])
 |.ipt z h c=>some (True,.ipt z h c,[],[])
 |_=>none
def Xce(s:Heap)(fr:List Nat):List D->Option (Prop×List D×List Nat×List Nat)
 |[]=>some (True,[],[],[])
 |d::f=>match shut s fr d,Xce s fr f with
  |some (c,e,l,m),some (g,h,j,k)=>some (c/\g,e::h,l++j,m++k)
  |_,_=>none
end
def Blk(β:Loc)(s:Heap)(m:List Nat)(e:List (Option (Nat×Nat))):Prop:=
 ∃f:List (Nat×Nat×Option (Nat×Nat)),f.map (·.1)=m/\f.map (·.2.2)=e/\∀x∈f,β x.1 x.2.1=some x.2.2/\∃ob,s x.1=some (x.2.1,ob)
section
variable {C:Cx}{s:Heap}{U:Nat->Prop}{M M':Mem}{β:Loc}{w:World}
def Blk.nil:Blk β s [] []:=⟨[],rfl,rfl,ac⟩
def Blk.append{m e:List Nat}{b j:List (Option (Nat×Nat))}(h:Blk β s m b)(k:Blk β s e j):Blk β s (m++e) (b++j):=by have⟨f,o,p,q⟩:=h;have⟨g,k1,k2,r⟩:=k;refine⟨f++g,by simp[o,k1],by simp[p,k2],λx u=>?_⟩;grind
def OX{x:Option (Nat×Nat)}{E z:Nat}{f:List (List D)}(h:ObRep P M β w x (.arr false E z f 0))(n:Nat):ObRep P M β w x (.arr false E z (f.take n) 0):=by
 cases x with
 |none=>simp_all[ObRep]
 |some B=>
  have⟨j,T,k,o,p,G,H,q,I,r,u,g⟩:=h;have v:(f.take n).length<=f.length:=by simp;omega
  refine⟨j,T,k,o,λe y=>p e (WS y),ab,ab,UK (W9 _ v) q,ab,r,u,λi d hd=>g i d ?_⟩;have⟨l,A⟩:=List.take_prefix n f;grind
mutual
def shut_rep{T:List Nat}(I:U2 P C s U M β w)(L:MLe M M')(I':U2 P C (frz s T) U M' β w)(V:Frz s M' β w T){fr:List Nat}(q:∀i∈fr,i∉T):
 ∀{d r:D} {c:Prop} {l m:List Nat},shut s fr d=some (c,r,l,m)->c->(∀i∈l,i∈T)->∀{y:Value},Rep P M β d y->∃B,FrRep P M' w C.w0.heap.size r y B/\Blk β s m B
 |.osl id ver z off len,r,c,l,m,h,g,j,y,f=>by
  unfold shut at h;split at h
  .rename_i W E z' G fz H;split at h
   .rename_i e;have⟨rfl,rfl⟩:=e;split at h
    .rename_i N;obtain⟨rfl,rfl,rfl,rfl⟩:=h;obtain⟨rfl,rfl,hle⟩:=g;have O:frz s T id=some (ver,.arr false E z G 0):=by unfold frz;rw[Wk (q id N)];exact H
     have⟨x,u,A⟩:=I'.obs id ver _ O;have A:=OX A len;rcases f with⟨p,_,J,a,rfl⟩|⟨b,K,o,cap,p,rfl,J,h3,h4⟩
     .rw[p]at u;refine⟨[none],?_,[(id,ver,none)],rfl,rfl,?_⟩
      .simp only[FrRep];exact .inl ⟨trivial,WK ai,a,rfl⟩
      intro x u;simp at u;subst u;exact⟨p,_,H⟩
     rw[p]at u;obtain rfl:some (b,K)=x:=by simpa using u
     refine⟨[some (b,K)],?_,[(id,ver,some (b,K))],rfl,rfl,?_⟩
     .refine .inr ⟨b,K,o,rfl,?_,?_,?_,?_⟩
      .rcases I.own id ver _ b K H p with h|h
       .exact h
       simp[Ob.bx]at h
      .rw[show cap=K by omega,Wl,I4 hle]
      .rcases h4 with h|h
       .left;simpa using h
       omega
      exact A
     intro x u;simp at u;subst u;exact⟨p,_,H⟩
    obtain⟨rfl,rfl,rfl,rfl⟩:=h;have:=snap_rep (d:=.osl id ver z off len) (d':=.isl E z ((G.drop off).take len)) (c:=off+len<=G.length) (l:=[id]) I L (by simp[snap,H]) g (λi Y=>V i (j i Y)) f;exact⟨[],by simp only[FrRep];exact⟨trivial,this⟩,Blk.nil⟩
   cases h
  simp_all
 |.agg cs,r,c,l,m,h,g,j,y,f=>by
  unfold shut at h;split at h
  .rename_i R;obtain⟨rfl,rfl,rfl,rfl⟩:=h;simp only[Rep]at f;obtain⟨vs,rfl,f⟩:=f;obtain⟨B,p,J⟩:=J4 I L I' V q R g j f;exact⟨B,by simp only[FrRep];exact⟨vs,rfl,p⟩,J⟩
  simp_all
 |.tup cs,r,c,l,m,h,g,j,y,f=>by
  unfold shut at h;split at h
  .rename_i R;simp only[Wq,Ww]at h;obtain⟨rfl,rfl,rfl,rfl⟩:=h;simp only[Rep]at f;obtain⟨vs,rfl,f⟩:=f;obtain⟨B,p,J⟩:=J4 I L I' V q R g j f;exact⟨B,by simp only[FrRep];exact⟨vs,rfl,p⟩,J⟩
  simp_all
 |.clo fn a b,r,c,l,m,h,g,j,y,f=>by
  unfold shut at h;split at h
  .rename_i R hf;simp only[Wq,Ww]at h;obtain⟨rfl,rfl,rfl,rfl⟩:=h;simp only[Rep]at f;obtain⟨va,vb,rfl,hr1,hr2⟩:=f;obtain⟨B,p,J⟩:=J4 I L I' V q R g.1 (λi Y=>j i (WW _ Y)) hr1;obtain⟨Z,h3,h4⟩:=J4 I L I' V q hf g.2 (λi Y=>j i (Uj _ Y)) hr2;exact⟨B++Z,by simp only[FrRep];exact⟨va,vb,rfl,B,Z,rfl,p,h3⟩,J.append h4⟩
  simp_all
 |.ifc t d,r,c,l,m,h,g,j,y,f=>by
  unfold shut at h;split at h
  .rename_i R;simp only[Wq,Ww]at h;obtain⟨rfl,rfl,rfl,rfl⟩:=h;simp only[Rep]at f;obtain⟨x,rfl,f⟩:=f;obtain⟨B,p,J⟩:=shut_rep I L I' V q R g j f;exact⟨B,by simp only[FrRep];exact⟨x,rfl,p⟩,J⟩
  simp_all
 |.any,r,c,l,m,h,g,j,y,f=>by simp only[shut,Wq,Ww]at h;obtain⟨rfl,rfl,rfl,rfl⟩:=h;exact⟨[],by rfl,Blk.nil⟩
 |.v x,r,c,l,m,h,g,j,y,f=>by simp only[shut,Wq,Ww]at h;obtain⟨rfl,rfl,rfl,rfl⟩:=h;exact⟨[],by simp_all[FrRep,Rep],Blk.nil⟩
 |.nsl,r,c,l,m,h,g,j,y,f=>by simp only[shut,Wq,Ww]at h;obtain⟨rfl,rfl,rfl,rfl⟩:=h;exact⟨[],by simp_all[FrRep,Rep],Blk.nil⟩
 |.isl E z G,r,c,l,m,h,g,j,y,f=>by simp only[shut,Wq,Ww]at h;obtain⟨rfl,rfl,rfl,rfl⟩:=h;have:=f.mono L (BLe.refl _);exact⟨[],by simp_all[FrRep,Rep],Blk.nil⟩
 |.ipt z cs k,r,c,l,m,h,g,j,y,f=>by simp only[shut,Wq,Ww]at h;obtain⟨rfl,rfl,rfl,rfl⟩:=h;have:=f.mono L (BLe.refl _);exact⟨[],by simp_all[FrRep,Rep],Blk.nil⟩
 |.ept ..,r,c,l,m,h,g,j,y,f=>by simp_all[shut]
 |.fsl ..,r,c,l,m,h,g,j,y,f=>by simp_all[shut]
 |.fmp ..,r,c,l,m,h,g,j,y,f=>by simp_all[shut]
 |.omp id ver,r,c,l,m,h,g,j,y,f=>by
  unfold shut at h;split at h
  .rename_i W k G H;split at h
   .rename_i S;obtain⟨rfl,N⟩:=S;simp only[Wq,Ww]at h;obtain⟨rfl,rfl,rfl,rfl⟩:=h;have O:frz s T id=some (ver,.mp k G):=by unfold frz;rw[Wk (q id N)];exact H
    obtain⟨x,u,A⟩:=I'.obs id ver _ O;simp only[Rep]at f;obtain⟨b,K,p,rfl⟩:=f;rw[p]at u;obtain rfl:some (b,K)=x:=by simpa using u
    obtain rfl:K=0:=A.1;refine⟨[some (b,0)],?_,[(id,ver,some (b,0))],rfl,rfl,?_⟩
    .simp only[FrRep];refine⟨b,rfl,?_,rfl,ac,?_⟩
     .rcases I.own id ver _ b 0 H p with h|h
      .exact h
      simp[Ob.bx]at h
     rw[show(G.map (·.1)).zip (G.map (·.2))=G by rw[List.zip_map'];simp];exact A
    intro x u;simp at u;subst u;exact⟨p,_,H⟩
   cases h
  simp_all
def J4{j:List Nat}(I:U2 P C s U M β w)(z:MLe M M')(I':U2 P C (frz s j) U M' β w)(A:Frz s M' β w j){fr:List Nat}(e:∀i∈fr,i∉j):
 ∀{p rs:List D} {c:Prop} {l m:List Nat},Xce s fr p=some (c,rs,l,m)->c->(∀i∈l,i∈j)->∀{k:List Value},RepL P M β p k->∃f,FrRepL P M' w C.w0.heap.size rs k f/\Blk β s m f
 |[],rs,c,l,m,h,q,r,k,o=>by obtain⟨rfl,rfl,rfl,rfl⟩:=h;simp only[RepL]at o;exact⟨[],by simp[FrRepL,o],Blk.nil⟩
 |d::p,rs,c,l,m,h,q,r,k,o=>by
  unfold Xce at h;split at h
  .rename_i B E;obtain⟨rfl,rfl,rfl,rfl⟩:=h;obtain⟨x,G,rfl,u,v⟩:=o;have⟨f,H,J⟩:=shut_rep I z I' A e B q.1 (λi y=>r i (WW _ y)) u;have⟨g,K,L⟩:=J4 I z I' A e E q.2 (λi y=>r i (Uj _ y)) v;exact⟨f++g,by exact⟨x,G,f,g,rfl,rfl,H,K⟩,J.append L⟩
  simp_all
end
def Blk.nodup(I:U2 P C s U M β w){m:List Nat}{A:List (Option (Nat×Nat))}(h:Blk β s m A)(B:m.Nodup):(X3 A).Nodup:=by
 obtain⟨f,rfl,rfl,k⟩:=h;induction f with
 |nil=>assumption
 |cons x f p=>
  simp at B;have p:=p B.2 λy q=>k y (WU _ q);have⟨i,v,o⟩:=x;cases o with
  |none=>assumption
  |some E=>
   have⟨b,r⟩:=E;have e:X3 (((i,v,some (b,r))::f).map (·.2.2))=b::X3 (f.map (·.2.2)):=by simp[X3]
   rw[e,On];refine⟨λhb=>?_,p⟩;simp only[X3,List.mem_filterMap,WO]at hb;obtain⟨o',⟨y,q,rfl⟩,hb⟩:=hb;have⟨j,D,o'⟩:=y;simp only[Uq]at hb;obtain⟨⟨u,g⟩,rfl,rfl⟩:=hb;have⟨G,ob,H⟩:=k (i,v,some (u,r)) ac;have⟨J,z,K⟩:=k (j,D,some (u,g)) (WU _ q);have:=I.inj i v ob j D z u r g H K G J;simp_all
mutual
def fitsR:D->D->Prop
 |.nsl,.isl _ _ f=>f=[]
 |.nsl,.fsl _ _ f=>f=[]
 |.agg g,.agg h=>Vo g h
 |.tup g,.tup h=>Vo g h
 |.ifc t d,.ifc j e=>t=j/\fitsR d e
 |d,e=>d=e
def Vo:List D->List D->Prop
 |[],[]=>True
 |d::f,e::g=>fitsR d e/\Vo f g
 |_,_=>False
end
def RetG(r:D)(obs:List Ob)(R':D->List Ob->Prop):Prop:=∃e,fitsR r e/\R' e obs
mutual
def fitsR_refl:∀d:D,fitsR d d
 |.agg e=>by exact VU e
 |.tup e=>by exact VU e
 |.ifc t d=>by simp only[fitsR];exact⟨trivial,fitsR_refl d⟩
 |.nsl=>by rfl
 |.any=>by rfl
 |.v _=>by rfl
 |.isl ..=>by rfl
 |.osl ..=>by rfl
 |.ept ..=>by rfl
 |.ipt ..=>by rfl
 |.clo ..=>by rfl
 |.fsl ..=>by rfl
 |.fmp ..=>by rfl
 |.omp ..=>by rfl
def VU:∀e:List D,Vo e e
 |[]=>by simp[Vo]
 |d::e=>by exact⟨fitsR_refl d,VU e⟩
end
def RetG.same{r:D}{obs:List Ob}{R':D->List Ob->Prop}(h:R' r obs):RetG r obs R':=⟨r,fitsR_refl r,h⟩
mutual
def fitsR_rep{M:Mem}{w:World}{B:Nat}:∀{d e:D} {y:Value} {l:List (Option (Nat×Nat))},fitsR d e->FrRep P M w B d y l->∃g,FrRep P M w B e y g/\X3 g=X3 l
 |.nsl,e,y,l,h,f=>by
  cases e with
  |isl E z o=>grind[fitsR,FrRep,Rep,XC]
  |fsl E z o=>subst h;obtain⟨rfl,a,rfl⟩:=f;refine⟨[none],?_,rfl⟩;simp[FrRep]
  |nsl=>grind
  |_=>simp[fitsR]at h
 |.agg p,e,y,l,h,f=>by
  cases e with
  |agg q=>simp only[FrRep]at f⊢;obtain⟨r,rfl,f⟩:=f;have⟨g,j,k⟩:=XaO h f;grind
  |_=>simp[fitsR]at h
 |.tup p,e,y,l,h,f=>by
  cases e with
  |tup q=>simp only[FrRep]at f⊢;obtain⟨r,rfl,f⟩:=f;have⟨g,j,k⟩:=XaO h f;grind
  |_=>simp[fitsR]at h
 |.ifc t d,e,y,l,h,f=>by
  cases e with
  |ifc u e=>have⟨rfl,h⟩:=h;simp only[FrRep]at f⊢;obtain⟨x,rfl,f⟩:=f;have⟨g,j,k⟩:=fitsR_rep h f;grind
  |_=>simp[fitsR]at h
 |.any,e,y,l,h,f=>by grind[fitsR]
 |.v x,e,y,l,h,f=>by grind[fitsR]
 |.isl a b c,e,y,l,h,f=>by grind[fitsR]
 |.ipt a b c,e,y,l,h,f=>by grind[fitsR]
 |.fsl a b c,e,y,l,h,f=>by grind[fitsR]
 |.fmp a b c,e,y,l,h,f=>by grind[fitsR]
 |.clo a b c,e,y,l,h,f=>by grind[fitsR]
 |.osl ..,e,y,l,h,f=>by simp_all[FrRep]
 |.ept ..,e,y,l,h,f=>by simp_all[FrRep]
 |.omp ..,e,y,l,h,f=>by simp_all[FrRep]
def XaO{M:Mem}{w:World}{B:Nat}:∀{j f:List D} {g:List Value} {l:List (Option (Nat×Nat))},Vo j f->FrRepL P M w B j g l->∃p,FrRepL P M w B f g p/\X3 p=X3 l
 |[],f,g,l,h,q=>by grind[Vo]
 |d::j,f,g,l,h,q=>by
  cases f with
  |nil=>simp_all[Vo]
  |cons e f=>obtain⟨x,y,z,A,rfl,rfl,r,u⟩:=q;have⟨k,k1,k2⟩:=fitsR_rep h.1 r;have⟨o,E,v⟩:=XaO h.2 u;exact⟨k++o,by grind[FrRepL],by simp[Yd,k2,v]⟩
end
def Xba:Nat->Nat->List Nat
 |_,0=>[]
 |k,n+1=>(LB+k)::Xba (k+1) n
def Xai:∀(n k j:Nat),j<n->(Xba k n)[j]? = some (LB+(k+j))
 |0,_,_,h=>by omega
 |n+1,k,0,_=>by rfl
 |n+1,k,j+1,h=>by simp only[Xba,Ig];rw[Xai n (k+1) j ab];grind
def KZ:∀(n k:Nat),(Xba k n).length=n
 |0,_=>rfl
 |n+1,k=>by simp[Xba,KZ n (k+1)]
def XoY(s:Heap):List Nat->Prop
 |[]=>True
 |i::l=>(s i).map (·.1)=some 0/\XoY s l
def XgD{s:Heap}:∀{l:List Nat} {j i:Nat},XoY s l->l[j]? = some i->(s i).map (·.1)=some 0
 |[],j,i,_,h=>by grind
 |x::l,0,i,e,h=>by simp at h;subst h;exact e.1
 |x::l,j+1,i,e,h=>XgD e.2 (by simpa using h)
def XlT(st:St)(P:Program):ResultVar->Option (Prop×D)
 |.tmp t=>some (True,st.t t)
 |.cell a T=>match Xr P T,Xfc st.s (st.t a)with
  |some ty,some (c,e,o,z)=>if o+ty.size<=z/\(ty.isAgg=true\/ty.size=1)then some (c,Jm ty.isAgg ((e.drop o).take ty.size))else none
  |_,_=>none
def XgE(st:St)(P:Program):List ResultVar->Option (Prop×List D)
 |[]=>some (True,[])
 |x::l=>match XlT st P x,XgE st P l with
  |some (c,d),some (e,f)=>some (c/\e,d::f)
  |_,_=>none
def Xid:List D->D
 |[d]=>d
 |e=>.tup e
def JM(P:Program)(results:List ResultVar)(fr:List Nat)(g:Nat)(R':D->List Ob->Prop)(st:St):Prop:=
 match XgE st P results with
 |some (c,h)=>match shut st.s fr (Xid h),Jp st.s (Xba 0 g)with
  |some (c1,r,e,j),some (k,obs,f)=>c/\c1/\k/\XoY st.s (Xba 0 g)/\j.Nodup/\(∀i∈fr,i∉e++f)/\RetG r obs R'
  |_,_=>False
 |none=>False
end
variable {P:Program}
section
variable {C:Cx}{s:Heap}{U:Nat->Prop}{M:Mem}{β:Loc}{w:World}
def Xc8(tmps:Array Value):ResultVar->Sem Value
 |.tmp t=>pure (tmps.getD t undef)
 |.cell a t=>do loadVar t (←asAddr (tmps.getD a undef))
def XoZ{st:St}(I:U2 P C st.s U M β w){tmps:Array Value}(k:∀x,Rep P M β (st.t x) (tmps.getD x undef)){x:ResultVar}{c:Prop}{d:D}(h:XlT st P x=some (c,d))(p:c):
 ∃v,(Xc8 tmps x).run P w=.ok v w/\Rep P M β d v:=by
 cases x with
 |tmp t=>obtain⟨rfl,rfl⟩:=h;exact⟨_,rfl,k t⟩
 |cell a T=>
  simp only[XlT]at h;split at h
  .rename_i q r;split at h
   .rename_i e;obtain⟨rfl,rfl⟩:=h;have⟨b,u,y,g,f⟩:=Xi3 I r p (k a);obtain⟨v,z,j⟩:=Xc0 q w M β b u _ _ _ g e.1 f (λo=>by rcases e.2 with h|h;(rw[h]at o;cases o);exact h);refine⟨v,?_,j⟩;unfold Xc8;simp only;rw[y];simp[asAddr,z]
   cases h
  simp_all
def Xje{st:St}{f:ResultVar->Sem Value}(k:∀x c d,XlT st P x=some (c,d)->c->∃v,(f x).run P w=.ok v w/\Rep P M β d v):∀{l:List ResultVar} {c:Prop} {e:List D},XgE st P l=some (c,e)->c ->
 ∃g,(l.mapM f).run P w=.ok g w/\RepL P M β e g
 |[],c,e,h,j=>by simp_all[XgE,Wq,Ww,RepL]
 |x::l,c,e,h,j=>by
  unfold XgE at h;split at h
  .rename_i o p;obtain⟨rfl,rfl⟩:=h;have⟨v,q,r⟩:=k _ _ _ o j.1;have⟨g,u,y⟩:=Xje k p j.2;refine⟨v::g,?_,by exact⟨_,_,rfl,r,y⟩⟩;simp only[List.mapM_cons,Sem.run_bind,Result.andThen_ok,Sem.run_pure,u,q]
  simp_all
def Vp{st:St}(I:U2 P C st.s U M β w){tmps:Array Value}(p:∀x,Rep P M β (st.t x) (tmps.getD x undef)){fn:Func}{l:List ResultVar}(q:fn.results=⟨l⟩){c:Prop}{ds:List D}(h:XgE st P l=some (c,ds))(o:c):
 ∃v,(results fn tmps).run P w=.ok v w/\Rep P M β (Xid ds) v:=by
 have⟨g,r,j⟩:=Xje (f:=Xc8 tmps) (λx c d u o=>XoZ I p u o) h o;have y:(fn.results.mapM (Xc8 tmps)).run P w=.ok g.toArray w:=by rw[q,Array.mapM_eq_mapM_toList];simp only[Sem.run_map,r,Result.andThen_ok]
 have e:(results fn tmps).run P w=.ok (if h:g.toArray.size=1 then g.toArray[0]else .tuple g.toArray) w:=by show((fn.results.mapM (Xc8 tmps)) >>= λg=>pure (if h:g.size=1 then g[0]else .tuple g):Sem Value).run P w=_;simp only[Sem.run_bind,y,Result.andThen_ok,Sem.run_pure]
 refine⟨_,e,?_⟩;have k:=j.length;match ds,g,j,k with
 |[d],[v],j,_=>simp_all[RepL,Xid]
 |[],[],j,_=>simp[Xid,Rep,RepL]
 |d::A::ds,v::z::g,j,_=>
  have:¬(v::z::g).toArray.size=1:=by simp
  simp_all[dif_neg,this,Xid,Rep]
def XeB{s:Heap}:∀{ids:List Nat}{r},Jp s ids=some r->∀id∈ids,∃v E z f fz,s id=some (v,.arr true E z [f] fz)
 |[],r,h,id,e=>by simp_all
 |i::ids,r,h,id,e=>by
  unfold Jp at h;split at h
  .rename_i v E z f fz g;split at h
   .rename_i k j;rcases Ia.1 e with rfl|e
    .exact⟨_,_,_,_,_,g⟩
    exact XeB j id e
   cases h
  simp_all
def st0(args:List D)(lent:List Ob)(n:Nat):St:=⟨λi=>(args[i]?).getD (.v undef),Jo lent,n,1⟩
def XbM{G:Nat->Option (List D)}{lb:List (Nat×Nat)}{lent:List Ob}(Z:MemOK M w)(hG:∀g W,G g=some W->RepC P M W g 0)(I:lb.length=lent.length)(L:(lb.map (·.1)).Nodup)(J:∀(k:Nat)ob x,lent[k]? = some ob->lb[k]? = some x->ObRep P M YK w (some x) ob/\ob.bx=true):U2 P ⟨G,M,w,lb.map (·.1),Kk lb,M,0,none,[]⟩ (Jo lent) (·<1) M (Kk lb) w:=by
 have hsplit:∀id v ob,Jo lent id=some (v,ob)->LB<=id/\v=0/\lent[id-LB]? = some ob:=by
  intro id v ob h;unfold Jo at h;split at h
  .rename_i r;simp only[Uq,Ww]at h;obtain⟨o,z,rfl,rfl⟩:=h;exact⟨r,rfl,z⟩
  cases h
 have f:∀id v x,Kk lb id v=some x->v=0/\LB<=id/\∃y,lb[id-LB]? = some y/\x=some y:=by
  intro id v x h;unfold Kk at h;split at h
  .rename_i r;simp only[Uq]at h;obtain⟨o,z,rfl⟩:=h;exact⟨r.1,r.2,o,z,rfl⟩
  cases h
 constructor
 .exact Z
 .intro id v x h;obtain⟨rfl,_⟩:=f id v x h;exact Nat.zero_lt_one
 .intro id v ob h;obtain⟨z,rfl,K⟩:=hsplit id v ob h;have q:id-LB<lb.length:=by
   rw[I];rcases UA (id-LB) lent.length with p|p
   .exact p
   simp[WP p]at K
  refine⟨some lb[id-LB],?_,?_⟩
  .unfold Kk;rw[Wn ⟨rfl,z⟩];simp[q]
  obtain⟨g1,_⟩:=J _ ob lb[id-LB] K (Wb q);exact g1.mono (MLe.refl _) (BLe.zero _) (λ_ _ _=>rfl) (λ_ _ _ _=>rfl)
 .intro id v ob b cb h hb;have⟨z,rfl,K⟩:=hsplit id v ob h;have⟨_,_,y,E,e⟩:=f _ _ _ hb;simp at e;subst e;exact .inr ⟨WO.2 ⟨_,W7 E,rfl⟩,(J _ ob _ K E).2⟩
 .intro id v ob u v' N b cb cb' h p hb O;have⟨z,rfl,K⟩:=hsplit id v ob h;have⟨R,rfl,h2'⟩:=hsplit u v' N p;have⟨_,_,y,E,e⟩:=f _ _ _ hb;have⟨_,_,y',B,H⟩:=f _ _ _ O;simp at e H;subst e;subst H;have hn:=Ul.1 (List.nodup_iff_pairwise_ne.1 L);have q:id-LB<lb.length:=by
   rcases UA (id-LB) lb.length with p|p
   .exact p
   simp[WP p]at E
  have A:u-LB<lb.length:=by
   rcases UA (u-LB) lb.length with p|p
   .exact p
   simp[WP p]at B
  have key:∀i j,i<j->∀(S:i<lb.length) (T:j<lb.length),∀c Y,lb[i]? = some (b,c)->lb[j]? = some (b,Y)->False:=by intro i j V S T c Y e H;rw[Wb S]at e;rw[Wb T]at H;simp only[Wq]at e H;exact hn i j (by simpa using S) (by simpa using T) V (by simp[e,H])
  rcases Nat.lt_trichotomy (id-LB) (u-LB)with h|h|h
  .exact(key _ _ h q A _ _ E B).elim
  .rw[←Nat.sub_add_cancel z,←Nat.sub_add_cancel R,h]
  exact(key _ _ h A q _ _ B E).elim
 .exact Kp.refl _ _
 .intro b o _;rfl
 .exact MLe.refl _
 omega
def Je{C:Cx}{fn:Func}{args:List D}{e:List Value}{nt k:Nat}{s:Heap}{M:Mem}{β:Loc}(hd:C.df=[])(hb:BLe C.b0 β)(g:RepL P M β args e)(p:fn.ntmps=nt)(h:args.length<=nt)(I:U2 P C s (·<k) M β w):
 Rel P C ⟨λi=>(args[i]?).getD (.v undef),s,nt,k⟩ {tmps:=(⟨e⟩:Array Value)++Array.replicate (fn.ntmps-(⟨e⟩:Array Value).size) undef,defers:=[]} w:=by
 have q:=g.length;refine⟨hd.symm,by simp_all,M,β,hb,λi=>?_,I⟩;show Rep P M β ((args[i]?).getD (.v undef)) (((⟨e⟩:Array Value)++Array.replicate (fn.ntmps-(⟨e⟩:Array Value).size) undef).getD i undef);rcases UA i args.length with o|o
 .have⟨x,j,r⟩:=g.get i args[i] (Wb o);have:((⟨e⟩:Array Value)++Array.replicate (fn.ntmps-(⟨e⟩:Array Value).size) undef).getD i undef=x:=by have f:i<e.length:=ab;rw[Wb f]at j;simp only[Wq]at j;simp[Array.getElem?_append,f,j]
  simp_all
 have:((⟨e⟩:Array Value)++Array.replicate (fn.ntmps-(⟨e⟩:Array Value).size) undef).getD i undef=undef:=by have f:¬i<e.length:=ab;simp only[Array.getD_eq_getD_getElem?,Array.getElem?_append];simp only[List.size_toArray,f,if_false];rw[Array.getElem?_replicate];split<;>rfl
 simp_all[this,Rep,XbK]
def Xbb{C:Cx}{fn:Func}{rs:List ResultVar}{fr:List Nat}{lent:List Ob}{lb:List (Nat×Nat)}{R':D->List Ob->Prop}(L:C.lb=lb.map (·.1))(N:BLe (Kk lb) C.b0)(f:lb.length=lent.length)(O:fn.results=⟨rs⟩):
 ∀a w',Zy P C (JM P rs fr lent.length R') a w'->∃v,(results fn a.tmps).run P w'=.ok v w'/\XoV P C.M0 C.w0 lb R' (.returned v) w':=by
 rintro a w' ⟨st,⟨h1,h2,M',β,h0,h3,I⟩,e⟩;unfold JM at e;split at e
 .rename_i c ds q;split at e
  .rename_i c1 r R fh c2 obs S T u;have⟨hc,V,W,y,Y,A,Z⟩:=e;have⟨v,hv,hrv⟩:=Vp I h3 O q hc;have⟨M2,I2,B,hF⟩:=I.freeze (R++S);have⟨bl,hfr,hbl⟩:=shut_rep I B I2 hF A T V (λi hi=>WW _ hi) hrv;have hL:Xfp st.s β (Xba 0 lent.length) lb:=by
    intro j id G;have h:j<lent.length:=by
     rcases UA j lent.length with h'|h'
     .exact h'
     rw[WP (by rw[KZ];exact h')]at G;cases G
    rw[Xai _ _ _ h]at G;simp only[Wq,UG]at G;subst G;have k:=XgD y (Xai lent.length 0 j h);rw[UG]at k;simp only[Uq]at k;obtain⟨⟨v',ob⟩,hs,rfl⟩:=k;have hβ:β (LB+j) 0=some (some (lb[j]'ab)):=by refine h0 _ _ _ (N _ _ _ ?_);show Kk lb (LB+j) 0=_;unfold Kk;rw[Wn ⟨rfl,Nat.le_add_right _ _⟩];have:LB+j-LB=j:=IV ..;rw[this];rw[Wb ab];rfl
    have H:∃E z J fz,ob=.arr true E z [J] fz:=by have g:=XeB u _ (W7 (Xai lent.length 0 j h));rw[UG]at g;obtain⟨v,E,z,J,fz,p⟩:=g;rw[hs]at p;simp only[Wq,Ww]at p;exact⟨E,z,J,fz,p.2⟩
    obtain⟨E,z,J,fz,rfl⟩:=H;exact⟨0,E,z,J,fz,lb[j]'ab,hs,Wb ab,hβ⟩
   have⟨g1,g2⟩:=XbG I B I2 hF u W (λx hx=>Uj _ hx) hL (by rw[KZ,f]);have⟨r',hrr,Z⟩:=Z;have⟨bl',K,hbb⟩:=fitsR_rep hrr hfr;refine⟨v,hv,v,r',obs,M2,bl',rfl,Z,L▸I.keep,I2.mem,λb o hb=>?_,?_,g2,K,hbb▸hbl.nodup I Y⟩
   .exact I2.old b o hb
   rw[g1,KZ,f]
  exact e.elim
 simp_all
def Xen{G:Nat->Option (List D)}{f:FuncId}{fn:Func}{body:Code}{rs:List ResultVar}{args:List D}{lent:List Ob}{R':D->List Ob->Prop}(fr:List Nat)(nt:Nat)(A:P.funcs[f]? = some fn)(hb:fn.body=some body)(B:(fn.name== "runtime.NumGoroutine")=false)(q:fn.results=⟨rs⟩)(r:fn.ntmps=nt)(j:args.length<=nt)(h:∀(C:Cx)x,C.G=G->C.lb.length=lent.length->WfL P args->∀a w,Rel P (C.sub 0 x) (st0 args lent nt) a w->sem P (C.sub 0 x) (Zy P (C.sub 0 x) (JM P rs fr lent.length R')) [.code body] none a w):YZ P G f args lent R':=by
 refine⟨⟨fn,A,by grind,B⟩,λM w J lb E H g u y k=>?_⟩;refine calls_of_wp A hb ?_;have I0:=XbM (G:=G) E H g u y;have o:Rel P ⟨G,M,w,lb.map (·.1),Kk lb,M,0,none,[]⟩ (st0 args lent nt) _ w:=Je rfl (BLe.refl _) k r j I0;have p:=h ⟨G,M,w,lb.map (·.1),Kk lb,M,0,none,[]⟩ (M,Kk lb) rfl (by simp_all) k.wf _ _ o;refine wp_mono ((wpIn_wide (n:=0)).1 p) ?_;have fin:∀a w',Zy P ⟨G,M,w,lb.map (·.1),Kk lb,M,0,none,[]⟩ (JM P rs fr lent.length R') a w'->a.defers=[]/\∃v,(results fn a.tmps).run P w'=.ok v w'/\XoV P M w lb R' (.returned v) w':=λa w' h=>⟨by have⟨st,I,_⟩:=h;exact I.1,Xbb rfl (BLe.refl _) g q a w' h⟩
 intro e a w' z;cases e with
 |normal=>exact fin a w' z
 |ret=>exact fin a w' z
 |exit id=>assumption
 |_=>exact z.elim
def Yq{G:Nat->Option (List D)}{f:FuncId}{fn:Func}{body:Code}{rs:List ResultVar}{args:List D}{lent:List Ob}{R':D->List Ob->Prop}(m:Nat)(fr:List Nat)(nt:Nat)(o:P.funcs[f]? = some fn)(hb:fn.body=some body)(p:(fn.name== "runtime.NumGoroutine")=false)(g:fn.results=⟨rs⟩)(j:fn.ntmps=nt)(e:args.length<=nt)(h:∀(C:Cx)x,C.G=G->WfL P args->run P (C.sub 0 x) (JM P rs fr lent.length R') m [.code body] (st0 args lent nt)):YZ P G f args lent R':=
 Xen fr nt o hb p g j e λC x q _ k a w r=>Yt m _ r (h C x q k)
def stI(args:List D)(s:Heap)(n k:Nat):St:=⟨λi=>(args[i]?).getD (.v undef),s,n,k⟩
def XgF(P:Program)(rs:List ResultVar)(K:D->Heap->Nat->Prop)(st:St):Prop:=match XgE st P rs with
 |some (c,e)=>c/\K (Xid e) st.s st.k
 |none=>False
def kOf(dst:Option Nat)(st:St)(K:St->Prop):D->Heap->Nat->Prop:=λd s k=>K (nxS st (XS dst st.n) d s st.n k)
def CallX.inl{C:Cx}{f:FuncId}{args:List D}{dst:Option Nat}{st:St}{K:St->Prop}(off:Nat){fn:Func}{rs:List ResultVar}{nt:Nat}(m:Nat)(p:(P.funcs[f]?,fn.body,fn.name== "runtime.NumGoroutine",fn.results,fn.ntmps,args.length.ble nt)=(some fn,some (fn.body.get!),false,⟨rs⟩,nt,true))(h:∀x,run P (C.sub off x) (XgF P rs (kOf dst st K)) m [.code (fn.body.get!)] (stI args st.s nt st.k))(t:Prf args):CallX P C f args dst st K t:=by
 injection p with H p;injection p with hb p;injection p with L p;injection p with y p;injection p with z j;have j:=I6 j;refine⟨⟨fn,H,by grind,L⟩,λM β w W Y I A=>?_⟩;refine calls_of_wp H hb ?_;have I0:U2 P (C.sub off (M,β)) st.s (·<st.k) M β w:=⟨I.mem,I.used,I.obs,I.own,I.inj,I.keep,I.old,MLe.refl _,λg N O=>RepC.mono I.le (I.glob g N O)⟩
 have q:Rel P (C.sub off (M,β)) (stI args st.s nt st.k) _ w:=Je rfl (BLe.refl _) A z j I0;have r:=Yt m _ q (h (M,β));refine wp_mono ((wpIn_wide (n:=0)).1 r) ?_;have fin:∀a w',Zy P (C.sub off (M,β)) (XgF P rs (kOf dst st K)) a w'->a.defers=[]/\∃v,(results fn a.tmps).run P w'=.ok v w' /\
  (λe w'=>∃v d s' J M' β',e=Ending.returned v/\U2 P C s' (·<J) M' β' w'/\Rep P M' β' d v/\MLe M M'/\BLe β β'/\K (nxS st (XS dst st.n) d s' st.n J)) (.returned v) w':=by
  rintro a w' ⟨R,⟨S,Z,M',β',B,T,I'⟩,o⟩
  refine⟨S,?_⟩
  unfold XgF at o
  split at o
  .rename_i c ds u
   have⟨v,V,E⟩:=Vp I' T y u o.1
   exact⟨v,V,v,_,_,_,M',β',rfl,⟨I'.mem,I'.used,I'.obs,I'.own,I'.inj,I'.keep,I'.old,I.le.trans I'.le,I.glob⟩,E,I'.le,B,o.2⟩
  .grind
 intro e a w' G;cases e with
 |normal=>exact fin a w' G
 |ret=>exact fin a w' G
 |exit id=>assumption
 |_=>exact G.elim
def Zi{G:Nat->Option (List D)}{f:FuncId}{E z:Nat}{args:List D}{lent:List Ob}{R':D->List Ob->Prop}(h:∀a cap,YZ P G f (.v (.slice a 0 cap)::args) lent R'):YZ P G f (.isl E z []::args) lent R':=by refine⟨(h none 0).1,λM w r lb e g j k o p=>?_⟩;obtain⟨x,u,rfl,⟨_,_,_,a,cap,rfl,_⟩,q⟩:=p;refine(h a cap).2 M w _ lb e g j k o ?_;exact⟨_,_,rfl,⟨rfl,trivial⟩,q⟩
end
variable {P:Program}{C:Cx}{R:St->Prop}
section
variable {n:Nat}{k:List It}{st:St}
def Xo0:run P C R (n+1) [] st=R st:=propext Iff.rfl
def XlU{Q:St->Prop}:run P C R (n+1) (.stop Q::k) st=Q st:=propext Iff.rfl
def Xo1{i:Nat}:run P C R (n+1) (.blk i::k) st=run P C R n k st:=propext Iff.rfl
def XlV{full:Array Oper}:run P C R (n+1) (.ops full []::k) st=run P C R n k st:=propext Iff.rfl
def Xrg{full:Array Oper}{o:Oper}{rest:List Oper}:run P C R (n+1) (.ops full (o::rest)::k) st=XbJ full o st
 (λst=>XaN P C o st (run P C R n (.ops full rest::k)))
 (λst=>XgB (XS o.dst st.n) st.n (st.k+1) (λdst m j=>run P C R n (.ops full rest::k) (nx st dst (.v undef) [] m j)) trivial):=propext Iff.rfl
def XlW:run P C R (n+1) (.code .skip::k) st=run P C R n k st:=propext Iff.rfl
def Xo2{x y:Code}:run P C R (n+1) (.code (.seq x y)::k) st=run P C R n (.code x::.code y::k) st:=propext Iff.rfl
def XlX{c:Operand}{x y:Code}:run P C R (n+1) (.code (.cond c x y)::k) st=Xcb (ev st.t C.G c) c st (run P C R n (.code x::k)) (run P C R n (.code y::k)) trivial:=propext Iff.rfl
def XkA{i:Nat}{c:Code}:run P C R (n+1) (.code (.block i c)::k) st=run P C R n (.code c::.blk i::k) st:=propext Iff.rfl
def XkB{c:Code}:run P C R (n+1) (.code (.scope c)::k) st=run P C R n (.code c::k) st:=propext Iff.rfl
def XkC{i:Nat}:run P C R (n+1) (.code (.label i)::k) st=run P C R n k st:=propext Iff.rfl
def XlY{i:Nat}:run P C R (n+1) (.code (.exit i)::k) st=Xjd (Xcc i k) (λe=>run P C R n e st) trivial:=propext Iff.rfl
def Xo3:run P C R (n+1) (.code .ret::k) st=R st:=propext Iff.rfl
def XlZ{c:Code}:run P C R (n+1) (.code (.loop c)::k) st=LoopG P C R c k st trivial:=propext Iff.rfl
def Xie{i:Nat}{ops:List Oper}:run P C R (n+1) (.code (.region i ⟨ops⟩ false)::k) st=run P C R n (.ops ⟨ops⟩ ops::k) st:=propext Iff.rfl
def XkD{i:Nat}{ops:Array Oper}:run P C R (n+1) (.code (.region i ops true)::k) st=DrawnG P C R i ops k st trivial:=propext Iff.rfl
variable {full:Array Oper}{dst:Option Nat}{op:Op}{ty:Nat}{pos:String}{af:Array Edge}{x y:St->Prop}{K:St->Prop}
def XgG:XbJ full ⟨dst,op,ty,pos,af,none⟩ st x y=x st:=propext Iff.rfl
def XgH{g:Nat}{want:Bool}:XbJ full ⟨dst,op,ty,pos,af,some (g,want)⟩ st x y=Xfr ((full[g]?).bind (·.dst)) want st x y trivial:=propext Iff.rfl
def XgI{r:Nat}{want:Bool}{e:Prf (some r)}:Xfr (some r) want st x y e=Ka (st.t r) r want st x y trivial:=propext Iff.rfl
def XkE{r:Nat}{e:Prf (D.v (.bool true))}:Ka (.v (.bool true)) r true st x y e=x st:=by simp[Ka,VS]
def XkF{r:Nat}{e:Prf (D.v (.bool true))}:Ka (.v (.bool true)) r false st x y e=y st:=by simp[Ka,VS]
def XkG{r:Nat}{e:Prf (D.v (.bool false))}:Ka (.v (.bool false)) r true st x y e=y st:=by simp[Ka,VS]
def XkH{r:Nat}{e:Prf (D.v (.bool false))}:Ka (.v (.bool false)) r false st x y e=x st:=by simp[Ka,VS]
def Xl0{r:Nat}{want:Bool}{e:Array Value}{f:Prf (D.v (.tuple e))}:Ka (.v (.tuple e)) r want st x y f=y st:=rfl
def Xo4{c:Operand}{e:Prf (D.v (.bool true))}:Xcb (.v (.bool true)) c st x y e=x st:=by simp[Xcb,VS]
def Xo5{c:Operand}{e:Prf (D.v (.bool false))}:Xcb (.v (.bool false)) c st x y e=y st:=by simp[Xcb,VS]
def Xif{f:List It->Prop}{e:Prf (some k)}:Xjd (some k) f e=f k:=propext Iff.rfl
def Xl1{m j:Nat}{f:Option Nat->Nat->Nat->Prop}{e:Prf dst}:XgB dst m j f e=f dst m j:=propext Iff.rfl
def XkI{o:Oper}:XaN P C o st K=Xez P C (ZR o.op) o st K trivial:=propext Iff.rfl
def Xig{o:Oper}{e:Prf (none:Option Call)}:Xez P C none o st K e=Xca (opF P (XgA C.off o.dst) st.k (ev st.t C.G) st.s o.op) (XS o.dst st.n) st.n (st.k+1) (λdst d u n k=>K (nx st dst d u n k)) trivial:=propext Iff.rfl
def Xih{o:Oper}{c:Call}{e:Prf (some c)}:Xez P C (some c) o st K e=Xc7 P C (callee (ev st.t C.G) c) c o.dst st K trivial:=propext Iff.rfl
def XgJ{f:Nat}{args:List D}{c:Call}{dst:Option Nat}{e:Prf (some (f,args))}:Xc7 P C (some (f,args)) c dst st K e=CallX P C f args dst st K trivial:=propext Iff.rfl
def XgK{c:Call}{dst:Option Nat}{e:Prf (none:Option (Nat×List D))}:Xc7 P C none c dst st K e=Xfq P C (Xcx (ev st.t C.G) c) dst st K trivial:=propext Iff.rfl
def XgL{l:Nat}{args:List D}{dst:Option Nat}{e:Prf (some (l,args))}:Xfq P C (some (l,args)) dst st K e=YieldX P C l args dst st K trivial:=propext Iff.rfl
def Xii{c:Prop}{d:D}{u:Up}{m j:Nat}{f:Option Nat->D->Up->Nat->Nat->Prop}{e:Prf (some (c,d,u))}:Xca (some (c,d,u)) dst m j f e=(c/\f dst d u m j):=propext Iff.rfl
def XgM{G:Nat->Option (List D)}{f:Nat}{e:Prop}{as:List D}{ids:List Nat}{obs:List Ob}{fz:List Nat}{K:List Nat->List Nat->D->List Ob->Prop}{g:Prf (some (e,as,ids,obs,fz))}:Xib P G f (some (e,as,ids,obs,fz)) K g=(e/\CallG P G f as obs (K ids fz) trivial):=propext Iff.rfl
def Xo6{d:D}{u:Up}{m j:Nat}{f:Option Nat->D->Up->Nat->Nat->Prop}{e:Prf (d,u)}:Xrf (d,u) dst m j f e=f dst d u m j:=propext Iff.rfl
variable {d:D}{u:Up}{m j i x:Nat}
def Xt4:(nx st dst d u m j).n=m:=rfl
def Xt5:(nx st dst d u m j).k=j:=rfl
def Xt6{i x:Nat}:(nx st (some x) d u m j).t i=if i=x then d else st.t i:=rfl
def Xst{i:Nat}:(nx st none d u m j).t i=st.t i:=rfl
def Xsu:(nx st dst d [] m j).s=st.s:=rfl
def Xt7{e:Nat×Nat×Ob}:(nx st dst d (e::u) m j).s=app st.s (e::u):=rfl
def Xsv{s:Heap}:(nxS st dst d s m j).n=m:=rfl
def Xsw{s:Heap}:(nxS st dst d s m j).k=j:=rfl
def Xsx{s:Heap}{i x:Nat}:(nxS st (some x) d s m j).t i=if i=x then d else st.t i:=rfl
def Xrh{s:Heap}{i:Nat}:(nxS st none d s m j).t i=st.t i:=rfl
def Xsy{s:Heap}:(nxS st dst d s m j).s=s:=rfl
def Xsz{args:List D}{s:Heap}{n k i:Nat}:(stI args s n k).t i=(args[i]?).getD (.v undef):=rfl
def XsA{args:List D}{s:Heap}{n k:Nat}:(stI args s n k).s=s:=rfl
def XsB{args:List D}{s:Heap}{n k:Nat}:(stI args s n k).n=n:=rfl
def XsC{args:List D}{s:Heap}{n k:Nat}:(stI args s n k).k=k:=rfl
def Xri{s:Heap}{k:Nat}:kOf dst st K d s k=K (nxS st (XS dst st.n) d s st.n k):=rfl
def Xo7{C:Cx}{n:Nat}{x:Mem×Loc}:(C.sub n x).off=n:=rfl
def XsD{C:Cx}{n:Nat}{x:Mem×Loc}:(C.sub n x).G=C.G:=rfl
def XsE{args:List D}{lent:List Ob}{n i:Nat}:(st0 args lent n).t i=(args[i]?).getD (.v undef):=rfl
def XsF{args:List D}{lent:List Ob}{n:Nat}:(st0 args lent n).s=Jo lent:=rfl
def XsG{args:List D}{lent:List Ob}{n:Nat}:(st0 args lent n).n=n:=rfl
def XsH{args:List D}{lent:List Ob}{n:Nat}:(st0 args lent n).k=1:=rfl
def ZL{s:Heap}:app s []=s:=rfl
def Y7{s:Heap}{i v:Nat}{o:Ob}:app s ((i,v,o)::u)=app (upd s i (some (v,o))) u:=rfl
def Ku{s:Heap}{i j:Nat}{x:Option (Nat×Ob)}:upd s i x j=if j=i then x else s j:=rfl
def XkJ{i:Nat}:Jo [] i=none:=by simp[Jo]
def Jr{ls:List Ob}{j:Nat}:Jo ls (LB+j)=(ls[j]?).map (λo=>(0,o)):=by unfold Jo;simp
def Xrj:IntKind.min .i8 = -128:=ag
def Xrk:IntKind.max .i8=127:=ag
def Xo8:IntKind.min .i16 = -32768:=ag
def Xo9:IntKind.max .i16=32767:=ag
def Xpa:IntKind.min .i32 = -2147483648:=ag
def Xpb:IntKind.max .i32=2147483647:=ag
def Xpc:IntKind.min .i64 = -9223372036854775808:=ag
def Xpd:IntKind.max .i64=9223372036854775807:=ag
def Xrl:IntKind.min .u8=0:=ag
def Xrm:IntKind.max .u8=255:=ag
def Xpe:IntKind.min .u16=0:=ag
def Xpf:IntKind.max .u16=65535:=ag
def Xpg:IntKind.min .u32=0:=ag
def Xph:IntKind.max .u32=4294967295:=ag
def Xpi:IntKind.min .u64=0:=ag
def Xpj:IntKind.max .u64=18446744073709551615:=ag
def Zs{r:Nat}{d:D}(h:st.t r=d):XaC st r d=st:=by
 unfold XaC;have:upd st.t r d=st.t:=by
  funext j;unfold upd;split
  .simp_all
  rfl
 rw[this]
def Xw{b:Bool}{r:Nat}{x y:St->Prop}(f:st.t r=.v (.bool b))(g:b=true->x (XaC st r (.v (.bool true))))(h:b=false->y (XaC st r (.v (.bool false))))(t':Prf (D.v (.bool b))):Xcb (.v (.bool b)) (.tmp r) st x y t':=
 ⟨λe=>by simp_all[Zs,f],λe=>by simp_all[Zs,f]⟩
def Xi{b:Bool}{r:Nat}{x y:St->Prop}(f:st.t r=.v (.bool b))(g:b=true->x (XaC st r (.v (.bool true))))(h:b=false->y (XaC st r (.v (.bool false))))(t':Prf (D.v (.bool b))):Ka (.v (.bool b)) r true st x y t':=
 ⟨λe=>by simp_all[Zs,f],λe=>by simp_all[Zs,f]⟩
def Xj{b:Bool}{r:Nat}{x y:St->Prop}(f:st.t r=.v (.bool b))(g:b=true->y (XaC st r (.v (.bool true))))(h:b=false->x (XaC st r (.v (.bool false))))(t':Prf (D.v (.bool b))):Ka (.v (.bool b)) r false st x y t':=
 ⟨λe=>by simp_all[Zs,f],λe=>by simp_all[Zs,f]⟩
def Xrn{r i:Nat}{d:D}:(XaC st r d).t i=if i=r then d else st.t i:=rfl
def Xro{r:Nat}{d:D}:(XaC st r d).s=st.s:=rfl
def Xrp{r:Nat}{d:D}:(XaC st r d).n=st.n:=rfl
def Xrq{r:Nat}{d:D}:(XaC st r d).k=st.k:=rfl
def CallG.of{G:Nat->Option (List D)}{f:FuncId}{args eargs:List D}{obs:List Ob}{R K:D->List Ob->Prop}(h:YZ P G f eargs obs R)(e:Z4 args eargs)(hK:∀r ls,R r ls->K r ls)(t':Prf args):CallG P G f args obs K t':=
 ⟨eargs,R,e,h,hK⟩
end
variable {P:Program}
structure En where
 i:Nat
 o:Oper
 anc:List Nat
 ws:List Nat
 ms:List Nat
 mi:List Nat
def ZB(ms:List Nat)(t:Nat->D):Nat->D:=λx=>if ms.contains x then .any else t x
def Y3(mi:List Nat)(s:Heap):Heap:=λx=>if mi.contains x then none else s x
inductive Kd where
 |det (c:Prop) (d:D) (u:Up)
 |call (c:Prop) (f:FuncId) (as:List D) (ids:List Nat) (obs:List Ob) (fz:List Nat)
 |ro (f:FuncId) (args:List D)
def kd1(x:Option (Prop×D×Up)):Option Kd:=match x with
 |some (c,d,u)=>some (.det c d u)
 |none=>none
def kd2(f:FuncId)(args:List D)(x:Option (Prop×List D×List Nat×List Ob×List Nat)):Option Kd:=match x with
 |some (e,as,ids,obs,fz)=>some (.call e f as ids obs fz)
 |none=>some (.ro f args)
def roK(f:Nat):Nat:=1000000000+f
def Xfs(G:Nat->Option (List D))(f:Nat){α:Type}(x:Option α):Option α:=if(G (roK f)).isSome then none else x
def XkK{G:Nat->Option (List D)}{f:Nat}{α:Type}{x:Option α}{y:α}(h:Xfs G f x=some y):x=some y:=by unfold Xfs at h;simp_all
def kd3(G:Nat->Option (List D))(s:Heap)(x:Option (FuncId×List D)):Option Kd:=match x with
 |some (f,args)=>kd2 f args (Xfs G f (Zl s args))
 |none=>none
def RoA(P:Program)(C:Cx)(s:Heap)(args eargs:List D):Prop:=∀s' U M β w e,HLe s s'->U2 P C s' U M β w->RepL P M β args e->∃M1,MLe M M1/\MemOK M1 w/\RepL P M1 YK eargs e
def kdO(P:Program)(C:Cx)(ver:Nat)(o:Oper)(t:Nat->D)(s:Heap):Option Kd:=match ZR o.op with
 |some c=>kd3 C.G s (callee (ev t C.G) c)
 |none=>kd1 (opF P (XgA C.off o.dst) ver (ev t C.G) s o.op)
def kdG(d:D)(_:Nat)(want:Bool)(x:Option Kd):Option Kd:=match d with
 |.v (.bool b)=>bif b==want then x else some (.det True (.v undef) [])
 |.v (.tuple _)=>some (.det True (.v undef) [])
 |_=>none
def kdE(P:Program)(C:Cx)(full:Array Oper)(ver:Nat)(o:Oper)(t:Nat->D)(s:Heap):Option Kd:=match o.guard with
 |none=>kdO P C ver o t s
 |some (g,want)=>match (full[g]?).bind (·.dst)with
  |some r=>kdG (t r) r want (kdO P C ver o t s)
  |none=>none
def KV(u:Up)(ws:List Nat):Prop:=∀x∈u,x.1∈ws
def doK(P:Program)(C:Cx)(e:En)(ver:Nat)(s:Heap)(x:Option Kd)(F:D->Up->Prop):Prop:=match x with
 |none=>False
 |some (.det c d u)=>c/\KV u e.ws/\F d u
 |some (.call c f as ids obs fz)=>c/\∃eargs R,Z4 as eargs/\YZ P C.G f eargs obs R/\(∃r ls,R r ls)/\∀r ls,R r ls ->
  KV (aft s ids fz r ls ver (64*(C.off+e.o.dst.getD 0))).2 e.ws/\F (aft s ids fz r ls ver (64*(C.off+e.o.dst.getD 0))).1 (aft s ids fz r ls ver (64*(C.off+e.o.dst.getD 0))).2
 |some (.ro f args)=>∃eargs R,RoA P C s args eargs/\YZ P C.G f eargs [] R/\(∃r ls,R r ls)/\∀r ls,R r ls->scal r=true/\F r []
def KW(P:Program)(C:Cx)(full:Array Oper)(k0:Nat)(e:En)(st:St)(F:St->Prop):Prop:=
 doK P C e (k0+e.i) (Y3 e.mi st.s) (kdE P C full (k0+e.i) e.o (ZB e.ms st.t) (Y3 e.mi st.s)) λd u=>F (nx st (XS e.o.dst st.n) d u st.n st.k)
def dr(P:Program)(C:Cx)(full:Array Oper)(k0:Nat):List En->St->(St->Prop)->Prop
 |[],st,K=>K st
 |e::f,st,K=>KW P C full k0 e st λst=>dr P C full k0 f st K
def Xbc(o:Oper):Bool:=(ZR o.op).isSome
def inB(x:Option Nat)(l:List Nat):Bool:=match x with
 |some x=>l.contains x
 |none=>true
def Xc9(e j:En):Bool:=
 (e.o.dst != j.o.dst||e.o.dst.isNone)&&inB e.o.dst j.ms&&inB j.o.dst e.ms&&e.ws.all (λx=>j.mi.contains x)&&j.ws.all (λx=>e.mi.contains x)&&e.ws.all (λx=>!j.ws.contains x)&&!(Xbc e.o&&Xbc j.o)
section
variable {C:Cx}{full:Array Oper}{k0:Nat}{st:St}
def Xl2{e:En}{ver:Nat}{s:Heap}{x:Option Kd}{F F':D->Up->Prop}(h:∀d u,F d u->F' d u)(hd:doK P C e ver s x F):doK P C e ver s x F':=by
 unfold doK at hd⊢;split at hd
 .omega
 .simp_all
 .have⟨v,eargs,R,o,p,q,f⟩:=hd;exact⟨v,eargs,R,o,p,q,λr ls g=>⟨(f r ls g).1,h _ _ (f r ls g).2⟩⟩
 have⟨eargs,R,o,p,q,f⟩:=hd;exact⟨eargs,R,o,p,q,λr ls g=>⟨(f r ls g).1,h _ _ (f r ls g).2⟩⟩
def XaP{e:En}{F F':St->Prop}(h:∀st,F st->F' st)(hd:KW P C full k0 e st F):KW P C full k0 e st F':=
 Xl2 (λ_ _ f=>h _ f) hd
def Xl3{ms:List Nat}{dst:Option Nat}{n m k:Nat}{d:D}{u:Up}(h:inB dst ms=true):ZB ms (nx st (XS dst n) d u m k).t=ZB ms st.t:=by
 funext x;unfold ZB;split
 .rfl
 rename_i f;cases dst with
 |none=>rfl
 |some y=>
  simp only[XS];split
  .simp only[nx,upd];split
   .rename_i e;subst e;exact absurd h f
   rfl
  rfl
def J5{s:Heap}{i:Nat}:∀{u:Up},(∀x∈u,x.1≠i)->app s u i=s i:=by
 intro u;induction u generalizing s with
 |nil=>intro _;rfl
 |cons x u e=>intro h;have⟨j,v,o⟩:=x;show app (upd s j _) u i=s i;rw[e λy f=>h y (WU _ f),Yk _ _ _ _ (Ne.symm (h (j,v,o) ac))]
def Xl4{mi ws:List Nat}{dst:Option Nat}{m k:Nat}{d:D}{u:Up}(f:KV u ws)(h:∀x∈ws,mi.contains x=true):Y3 mi (nx st dst d u m k).s=Y3 mi st.s:=by
 funext x;unfold Y3;split
 .rfl
 rename_i g;exact J5 λy o e=>g (e▸h _ (f y o))
def XeC{s s':Heap}{i:Nat}:∀{u:Up},s i=s' i->app s u i=app s' u i:=by
 intro u;induction u generalizing s s' with
 |nil=>intro h;exact h
 |cons x u e=>intro h;have⟨j,v,o⟩:=x;refine e ?_;unfold upd;simp_all
def Xl5{s:Heap}{u f:Up}(h:∀x∈u,∀y∈f,x.1≠y.1):app (app s u) f=app (app s f) u:=by
 funext i;by_cases p:∃x∈u,x.1=i
 .obtain⟨x,g,rfl⟩:=p;rw[J5 λy o e=>h x g y o e.symm];exact XeC (J5 λy o e=>h x g y o e.symm).symm
 have q:∀x∈u,x.1≠i:=λx g e=>p ⟨x,g,e⟩;rw[J5 (s:=app s f) q];exact XeC (J5 q)
def Xbd{e j:Option Nat}{n k:Nat}{d d':D}{u f:Up}(r:e≠j\/e=none)(h:∀x∈u,∀y∈f,x.1≠y.1):
 nx (nx st (XS e n) d u n k) (XS j n) d' f n k=nx (nx st (XS j n) d' f n k) (XS e n) d u n k:=by
 have ht:(nx (nx st (XS e n) d u n k) (XS j n) d' f n k).t=(nx (nx st (XS j n) d' f n k) (XS e n) d u n k).t:=by
  funext x;cases e with
  |none=>rfl
  |some a=>
   cases j with
   |none=>rfl
   |some b=>simp only[XS];split<;>split<;>simp only[nx,upd];grind
 have v:(nx (nx st (XS e n) d u n k) (XS j n) d' f n k).s=(nx (nx st (XS j n) d' f n k) (XS e n) d u n k).s:=Xl5 h;have:∀(a b:St),a.t=b.t->a.s=b.s->a.n=b.n->a.k=b.k->a=b:=by rintro⟨_,_,_,_⟩ ⟨_,_,_,_⟩ g o p q;simp only at g o p q;subst g;subst o;subst p;subst q;rfl
 exact this _ _ ht v rfl rfl
def Kd.isDet:Kd->Bool
 |.det _ _ _=>true
 |_=>false
def J6{ver:Nat}{o:Oper}{t:Nat->D}{s:Heap}{x:Kd}(h:kdE P C full ver o t s=some x)(e:x.isDet=false):Xbc o=true:=by
 have key:kdO P C ver o t s=some x->Xbc o=true:=by
  intro h;unfold kdO at h;unfold Xbc;split at h
  .simp_all
  unfold kd1 at h;split at h
  .simp at h;subst h;cases e
  simp_all
 unfold kdE at h;split at h
 .simp_all
 split at h
 .unfold kdG at h;split at h
  .rename_i b _;cases hb:(b==_)with
   |true=>rw[hb]at h;exact key h
   |false=>rw[hb]at h;simp at h;subst h;cases e
  .simp at h;subst h;cases e
  cases h
 simp_all
def Xij{e j:En}{F:St->Prop}(W:Xc9 e j=true)(h:KW P C full k0 e st λst=>KW P C full k0 j st F):KW P C full k0 j st λst=>KW P C full k0 e st F:=by
 unfold Xc9 at W;simp only[WI,Im,bne_iff_ne,ne_eq,Option.isNone_iff_eq_none,W0,U7]at W;have⟨⟨⟨⟨⟨⟨z,hem⟩,hjm⟩,hew⟩,hjw⟩,hdis⟩,hcc⟩:=W;have p:∀{u u':Up},KV u e.ws->KV u' j.ws->∀x∈u,∀y∈u',x.1≠y.1:=by
  intro u u' q g x hx y hy e';have J:=hdis x.1 (q x hx);have I:=g y hy;rw[←e']at I;have:j.ws.contains x.1=true:=by simpa using I
  rw[J]at this;cases this
 have vj:∀{d u},KV u e.ws->ZB j.ms (nx st (XS e.o.dst st.n) d u st.n st.k).t=ZB j.ms st.t/\Y3 j.mi (nx st (XS e.o.dst st.n) d u st.n st.k).s=Y3 j.mi st.s:=
  λq=>⟨Xl3 hem,Xl4 q hew⟩
 have ve:∀{d u},KV u j.ws->ZB e.ms (nx st (XS j.o.dst st.n) d u st.n st.k).t=ZB e.ms st.t/\Y3 e.mi (nx st (XS j.o.dst st.n) d u st.n st.k).s=Y3 e.mi st.s:=
  λq=>⟨Xl3 hjm,Xl4 q hjw⟩
 unfold KW at h⊢;generalize A:kdE P C full (k0+e.i) e.o (ZB e.ms st.t) (Y3 e.mi st.s)=ke at h;generalize v:kdE P C full (k0+j.i) j.o (ZB j.ms st.t) (Y3 j.mi st.s)=L;cases ke with
 |none=>exact h.elim
 |some ke=>
  cases ke with
  |det c d u=>
   have⟨hc,q,h⟩:=h;have⟨N,O⟩:=vj (d:=d) q;dsimp only at h;rw[N,O,v]at h;cases L with
   |none=>assumption
   |some L=>
    cases L with
    |det c' d' u'=>
     have⟨Y,g,h⟩:=h;refine⟨Y,g,?_⟩;have⟨S,T⟩:=ve (d:=d') g;try dsimp only
     rw[S,T,A];refine⟨hc,q,?_⟩;have:=Xbd (st:=st) (e:=e.o.dst) (j:=j.o.dst) (n:=st.n) (k:=st.k) (d:=d) (d':=d') z (p q g);exact(congrArg F this).mp h
    |call c' f as ids obs fz=>
     have⟨Y,eargs,R,J,I,h3,G⟩:=h;refine⟨Y,eargs,R,J,I,h3,λr ls V=>?_⟩;have⟨g,h⟩:=G r ls V;refine⟨g,?_⟩;have⟨S,T⟩:=ve (d:=(aft (Y3 j.mi st.s) ids fz r ls (k0+j.i) (64*(C.off+j.o.dst.getD 0))).1) g;try dsimp only
     rw[S,T,A];refine⟨hc,q,?_⟩;have:=Xbd (st:=st) (e:=e.o.dst) (j:=j.o.dst) (n:=st.n) (k:=st.k) (d:=d) (d':=(aft (Y3 j.mi st.s) ids fz r ls (k0+j.i) (64*(C.off+j.o.dst.getD 0))).1) z (p q g);exact(congrArg F this).mp h
    |ro f' args'=>
     have⟨eargs,R,J,I,h3,G⟩:=h;refine⟨eargs,R,J,I,h3,λr ls V=>⟨(G r ls V).1,?_⟩⟩;have h:=(G r ls V).2;have g:KV [] j.ws:=λx hx=>by grind
     have⟨S,T⟩:=ve (d:=r) g;try dsimp only
     rw[S,T,A];refine⟨hc,q,?_⟩;have:=Xbd (st:=st) (e:=e.o.dst) (j:=j.o.dst) (n:=st.n) (k:=st.k) (d:=d) (d':=r) z (p q g);exact(congrArg F this).mp h
  |ro f args=>
   have hce:=J6 A rfl;have⟨eargs,R,J,I,⟨Z,B,H⟩,G⟩:=h;have q:KV [] e.ws:=λx hx=>by grind
   obtain⟨_,E⟩:=G Z B H;obtain⟨N,O⟩:=vj (d:=Z) q;dsimp only at E;rw[N,O,v]at E;cases L with
   |none=>assumption
   |some L=>
    cases L with
    |call c' f' as' ids' obs' fz'=>have hcj:=J6 v rfl;simp_all
    |ro f' args'=>have hcj:=J6 v rfl;simp_all
    |det c' d' u'=>
     refine⟨E.1,E.2.1,?_⟩;obtain⟨S,T⟩:=ve (d:=d') E.2.1;try dsimp only
     rw[S,T,A];refine⟨eargs,R,J,I,⟨Z,B,H⟩,λr ls V=>⟨(G r ls V).1,?_⟩⟩;have h:=(G r ls V).2;obtain⟨N,O⟩:=vj (d:=r) q;dsimp only at h;rw[N,O,v]at h;have:=Xbd (st:=st) (e:=e.o.dst) (j:=j.o.dst) (n:=st.n) (k:=st.k) (d:=r) (d':=d') z (p q E.2.1);exact(congrArg F this).mp h.2.2
  |call c f as ids obs fz=>
   have hce:=J6 A rfl;obtain⟨hc,eargs,R,J,I,⟨Z,B,H⟩,G⟩:=h;obtain⟨hu0,E⟩:=G Z B H;obtain⟨N,O⟩:=vj (d:=(aft (Y3 e.mi st.s) ids fz Z B (k0+e.i) (64*(C.off+e.o.dst.getD 0))).1) hu0;dsimp only at E;rw[N,O,v]at E;cases L with
   |none=>assumption
   |some L=>
    cases L with
    |call c' f' as' ids' obs' fz'=>have hcj:=J6 v rfl;simp_all
    |ro f' args'=>have hcj:=J6 v rfl;simp_all
    |det c' d' u'=>
     refine⟨E.1,E.2.1,?_⟩;obtain⟨S,T⟩:=ve (d:=d') E.2.1;try dsimp only
     rw[S,T,A];refine⟨hc,eargs,R,J,I,⟨Z,B,H⟩,λr ls V=>?_⟩;obtain⟨q,h⟩:=G r ls V;obtain⟨N,O⟩:=vj (d:=(aft (Y3 e.mi st.s) ids fz r ls (k0+e.i) (64*(C.off+e.o.dst.getD 0))).1) q;dsimp only at h;rw[N,O,v]at h;refine⟨q,?_⟩;have:=Xbd (st:=st) (e:=e.o.dst) (j:=j.o.dst) (n:=st.n) (k:=st.k) (d:=(aft (Y3 e.mi st.s) ids fz r ls (k0+e.i) (64*(C.off+e.o.dst.getD 0))).1) (d':=d') z (p q E.2.1);exact(congrArg F this).mp h.2.2
def Xcf{K:St->Prop}{j:En}{o:List En}:∀{f:List En} {st:St},(∀e∈f,Xc9 e j=true)->dr P C full k0 (f++j::o) st K->KW P C full k0 j st λst=>dr P C full k0 (f++o) st K
 |[],st,_,h=>h
 |e::f,st,g,h=>by
  have q:KW P C full k0 e st λst=>KW P C full k0 j st λst=>dr P C full k0 (f++o) st K:=
   XaP (λst p=>Xcf (λx r=>g x (WU _ r)) p) h
  exact Xij (g e ac) q
end
variable {P:Program}
section
variable {s s':Heap}
mutual
def lend_le(f:HLe s s'):∀{d:D} {ls:List Nat}{r},lend s ls d=some r->lend s' ls d=some r
 |.ept id ver z i c,ls,r,h=>by
  unfold lend at h⊢;split at h
  .rename_i e;rw[f _ _ e];exact h
  simp_all
 |.agg g,ls,r,h=>by
  unfold lend at h⊢;split at h
  .rename_i e;rw[J7 f e];exact h
  simp_all
 |.tup g,ls,r,h=>by
  unfold lend at h⊢;split at h
  .rename_i e;rw[J7 f e];exact h
  simp_all
 |.ifc t d,ls,r,h=>by
  unfold lend at h⊢;split at h
  .rename_i e;rw[lend_le f e];exact h
  simp_all
 |.clo fn a b,ls,r,h=>by
  unfold lend at h⊢;split at h
  .rename_i e;rw[J7 f e];split at h
   .rename_i o;rw[J7 f o];exact h
   cases h
  simp_all
 |.osl id ver z off len,ls,r,h=>by
  unfold lend at h⊢;split at h
  .rename_i e;rw[snap_le f e];exact h
  simp_all
 |.any,ls,r,h=>by assumption
 |.v _,ls,r,h=>by assumption
 |.nsl,ls,r,h=>by assumption
 |.isl ..,ls,r,h=>by assumption
 |.ipt ..,ls,r,h=>by assumption
 |.fsl ..,ls,r,h=>by assumption
 |.fmp ..,ls,r,h=>by assumption
 |.omp ..,ls,r,h=>by assumption
def J7(f:HLe s s'):∀{e:List D} {ls:List Nat}{r},ZP s ls e=some r->ZP s' ls e=some r
 |[],ls,r,h=>by assumption
 |d::e,ls,r,h=>by
  unfold ZP at h⊢;split at h
  .rename_i g;rw[lend_le f g];simp only;split at h
   .rename_i o;rw[J7 f o];exact h
   cases h
  simp_all
end
def Xcy{l f:List Nat}(h:Has s l)(g:Has s f):Has s (l++f):=λi e=>by
 rcases Wt.1 e with e|e
 .exact h i e
 exact g i e
mutual
def lend_has:∀{d:D} {ls:List Nat}{r},lend s ls d=some r->Has s r.2.2.2
 |.ept id ver z i c,ls,r,h=>by
  unfold lend at h;split at h
  .split at h
   .split at h<;>simp only[Wq]at h<;>subst h<;>intro i f<;>simp at f
   cases h
  simp_all
 |.agg g,ls,r,h=>by
  unfold lend at h;split at h
  .rename_i e;simp at h;subst h;exact Jf e
  simp_all
 |.tup g,ls,r,h=>by
  unfold lend at h;split at h
  .rename_i e;simp at h;subst h;exact Jf e
  simp_all
 |.ifc t d,ls,r,h=>by
  unfold lend at h;split at h
  .rename_i e;simp at h;subst h;have:=lend_has e;exact this
  simp_all
 |.clo fn a b,ls,r,h=>by
  unfold lend at h;split at h
  .rename_i e;split at h
   .rename_i o;simp at h;subst h;exact Xcy (Jf e) (Jf o)
   cases h
  simp_all
 |.osl id ver z off len,ls,r,h=>by
  unfold lend at h;split at h
  .rename_i e;simp at h;subst h;exact snap_has e
  simp_all
 |.any,ls,r,h=>by
  unfold lend at h;split at h
  .rename_i e;simp at h;subst h;exact snap_has e
  simp_all
 |.v _,ls,r,h=>by
  unfold lend at h;split at h
  .rename_i e;simp at h;subst h;exact snap_has e
  simp_all
 |.nsl,ls,r,h=>by
  unfold lend at h;split at h
  .rename_i e;simp at h;subst h;exact snap_has e
  simp_all
 |.isl ..,ls,r,h=>by
  unfold lend at h;split at h
  .rename_i e;simp at h;subst h;exact snap_has e
  simp_all
 |.ipt ..,ls,r,h=>by
  unfold lend at h;split at h
  .rename_i e;simp at h;subst h;exact snap_has e
  simp_all
 |.fsl ..,ls,r,h=>by simp_all[lend,snap]
 |.fmp ..,ls,r,h=>by simp_all[lend,snap]
 |.omp ..,ls,r,h=>by simp_all[lend,snap]
def Jf:∀{e:List D} {ls:List Nat}{r},ZP s ls e=some r->Has s r.2.2.2
 |[],ls,r,h=>by simp only[ZP,Wq]at h;subst h;intro i o;simp_all
 |d::e,ls,r,h=>by
  unfold ZP at h;split at h
  .rename_i f;split at h
   .rename_i g;simp at h;subst h;exact Xcy (lend_has f) (Jf g)
   cases h
  simp_all
end
def XgN(e:HLe s s'):∀{ids:List Nat}{r},Jp s ids=some r->Jp s' ids=some r
 |[],r,h=>by assumption
 |id::ids,r,h=>by
  unfold Jp at h⊢;split at h
  .rename_i f;rw[e _ _ f];simp only;split at h
   .rename_i g o;rw[Jq e g,XgN e o];exact h
   cases h
  simp_all
def XeD:∀{ids:List Nat}{r},Jp s ids=some r->Has s r.2.2
 |[],r,h=>by simp only[Jp,Wq]at h;subst h;intro i g;simp_all
 |id::ids,r,h=>by
  unfold Jp at h;split at h
  .split at h
   .rename_i e f;simp at h;subst h;exact Xcy (Jd e) (XeD f)
   cases h
  simp_all
def XgO(e:HLe s s'){args:List D}{r}(h:Zl s args=some r):Zl s' args=some r:=by
 unfold Zl at h⊢;split at h
 .rename_i f;rw[J7 e f];simp only;split at h
  .rename_i g;rw[XgN e g];exact h
  cases h
 simp_all
def Xft{args:List D}{g:Prop}{as:List D}{ids:List Nat}{obs:List Ob}{fz:List Nat}(h:Zl s args=some (g,as,ids,obs,fz)):Has s ids/\Has s fz:=by
 unfold Zl at h;split at h
 .rename_i f;split at h
  .rename_i o;obtain⟨_,_,rfl,_,rfl⟩:=h;refine⟨λid e=>?_,Xcy (Jf f) (XeD o)⟩;have⟨v,E,z,q,fz,p⟩:=(Zd f ⟨ac,ac⟩).2 id e;exact⟨_,p⟩
  cases h
 simp_all
def XgP(e:HLe s s'):∀{ids:List Nat} {obs:List Ob},Has s ids->ZT s' ids obs=ZT s ids obs
 |[],obs,_=>by rfl
 |id::ids,[],_=>rfl
 |id::ids,o::obs,h=>by have⟨x,f⟩:=h id ac;have g:=XgP e (ids:=ids) (obs:=obs) λi p=>h i (WU _ p);simp only[ZT,f,e _ _ f,g]
def Xrr(e:HLe s s'){ids fz:List Nat}(f:Has s ids)(g:Has s fz)(r:D)(ls:List Ob)(ver n:Nat):aft s' ids fz r ls ver n=aft s ids fz r ls ver n:=by unfold aft;rw[Xa9 e g,XgP e f]
def Xpk(mi:List Nat)(s:Heap):HLe (Y3 mi s) s:=by intro i x h;unfold Y3 at h;simp_all
end
def RelD(P:Program)(C:Cx)(U:Nat->Prop)(st:St)(a:Act)(w:World):Prop:=
 a.defers=C.df/\a.tmps.size=st.n/\∃M β,BLe C.b0 β/\(∀x,Rep P M β (st.t x) (a.tmps.getD x undef))/\U2 P C st.s U M β w
section
variable {C:Cx}{st:St}{a:Act}{w:World}{U:Nat->Prop}
def RelD.put{w':World}{u:Up}{U':Nat->Prop}{M':Mem}{β':Loc}{M:Mem}{β:Loc}{d:D}{v:Value}{dst:Option Nat}{z:Nat}(g:a.defers=C.df)(A:a.tmps.size=st.n)(h:BLe C.b0 β)(o:∀x,Rep P M β (st.t x) (a.tmps.getD x undef))(p:MLe M M')(f:BLe β β')(I:U2 P C (app st.s u) U' M' β' w')(B:Rep P M' β' d v):RelD P C U' (nx st (XS dst st.n) d u st.n z) (a.put dst v) w':=by
 cases dst with
 |none=>exact⟨g,A,M',β',h.trans f,λx=>(o x).mono p f,I⟩
 |some x=>
  by_cases q:x<st.n
  .simp only[XS,Wn q];refine⟨g,by simp_all[nx,Act.put],M',β',h.trans f,λi=>?_,I⟩;simp only[nx,upd,Act.put];by_cases r:i=x
   .simp_all
   rw[Wk r];have e:(a.tmps.setIfInBounds x v).getD i undef=a.tmps.getD i undef:=by simp[Ne.symm r]
   rw[e];exact(o i).mono p f
  simp only[XS,Wk q];refine⟨g,by simp_all[nx,Act.put],M',β',h.trans f,λi=>?_,I⟩;have e:a.put (some x) v=a:=by simp only[Act.put];rw[Array.setIfInBounds_eq_of_size_le ab]
  rw[e];exact(o i).mono p f
def RelD.drew(h:RelD P C U st a w)(k:Nat):RelD P C U st a {w with drawn:=k}:=by
 have⟨e,f,M,β,g,o,I⟩:=h;refine⟨e,f,M,β,g,o,?_⟩;constructor
 .exact I.mem
 .exact I.used
 .intro id v ob p;have⟨x,q,r⟩:=I.obs id v ob p;exact⟨x,q,r.mono (MLe.refl _) (BLe.refl _) (λ_ _ _=>rfl) (λ_ _ _ _=>rfl)⟩
 .exact I.own
 .exact I.inj
 .exact⟨I.keep.os,I.keep.tape,I.keep.output,I.keep.size,I.keep.block⟩
 .exact I.old
 .exact I.le
 exact I.glob
def Xl6{full:Array Oper}{k0:Nat}{e:En}{F:St->Prop}{K:AW}{Q:Exit->AW}(hr:RelD P C U st a w)(hv:¬U (k0+e.i))(h:KW P C full k0 e st F)(hK:∀Y a' w',RelD P C (λx=>U x\/x=k0+e.i) Y a' w'->F Y->K a' w'):if Region.wanted e.o (yielded full a.tmps)=true then e.o.wp P a w K Q else K (a.put e.o.dst undef) w:=by
 have⟨h1,h2,M,β,h0,h3,I⟩:=hr;have V:∀x,Rep P M β (ZB e.ms st.t x) (a.tmps.getD x undef):=λx=>by unfold ZB;grind[Rep]
 have E:=XbF I V;have H:=Xpk e.mi st.s;have J:F (nx st (XS e.o.dst st.n) (.v undef) [] st.n st.k)->K (a.put e.o.dst undef) w:=λhF=>
  hK _ _ _ (RelD.put (u:=[]) h1 h2 h0 h3 (MLe.refl _) (BLe.refl _) (I.mono λ_ h=>.inl h) (by simp[Rep,XbK])) hF
 have hrun:doK P C e (k0+e.i) (Y3 e.mi st.s) (kdO P C (k0+e.i) e.o (ZB e.ms st.t) (Y3 e.mi st.s)) (λd u=>F (nx st (XS e.o.dst st.n) d u st.n st.k))->e.o.wp P a w K Q:=by
  intro h;unfold kdO at h;split at h
  .rename_i c hc;have N:e.o.op=.call c:=by
    unfold ZR at hc;split at hc
    .grind
    grind
   unfold kd3 at h;split at h
   .rename_i f args p;unfold kd2 at h;split at h
    .rename_i cc as ids obs fz hca;replace hca:=XkK hca;have⟨hcc,eargs,R,Z,hA,_,O⟩:=h;unfold callee at p;split at p
     .rename_i x hx;split at p
      .rename_i g first caps L
       obtain⟨rfl,rfl⟩:=p;have z:=E x;rw[L]at z;have⟨va,vb,z,ha,hb⟩:=z;have⟨⟨fn,hf,W,hn⟩,_⟩:=id hA;unfold Oper.wp;rw[JZ N hx z hf W hn w];have q:RepL P M β (first++(c.args.toList.map (ev (ZB e.ms st.t) C.G)++caps)) (va++(c.args.toList.map a.eval++vb)):=
        ha.append ((RepL.map E _).append hb)
       have⟨hh1,hh2⟩:=Xft hca;have hca':=XgO H hca;refine(Xja I (ver:=k0+e.i) hv q hca' hcc Z hA (64*(C.off+e.o.dst.getD 0))).mono ?_;rintro e' w' ⟨v,r,ls,M',β',rfl,hR,I',B,hM,hB⟩;have hbox:∀id∈ids,∃v o,st.s id=some (v,o):=λid hid=>by obtain⟨x,hx⟩:=hh1 id hid;exact⟨x.1,x.2,H _ _ hx⟩
       have⟨e1,e2⟩:=XlS st.s ids fz r ls (k0+e.i) (64*(C.off+e.o.dst.getD 0)) hbox;rw[←e1]at B;rw[←e2]at I';have ea:=Xrr H hh1 hh2 r ls (k0+e.i) (64*(C.off+e.o.dst.getD 0));rw[ea]at B I';exact hK _ _ _ (RelD.put h1 h2 h0 h3 hM hB I' B) (O r ls hR).2
      cases p
     simp_all
    have⟨eargs,R,hro,hA,_,O⟩:=h;unfold callee at p;split at p
    .rename_i x hx;split at p
     .rename_i g first caps L
      simp only[Wq,Ww]at p;obtain⟨rfl,rfl⟩:=p;have z:=E x;rw[L]at z;simp only[Rep]at z;obtain⟨va,vb,z,ha,hb⟩:=z;obtain⟨⟨fn,hf,W,hn⟩,_⟩:=id hA;unfold Oper.wp;rw[JZ N hx z hf W hn w];rw[Oper.upon_enter];have q:RepL P M β (first++(c.args.toList.map (ev (ZB e.ms st.t) C.G)++caps)) (va++(c.args.toList.map a.eval++vb)):=
       ha.append ((RepL.map E _).append hb)
      obtain⟨M1,hM1,hm1,q⟩:=hro st.s U M β w _ H I q;refine(XoW I hM1 hm1 q hA (λr ls h=>(O r ls h).1)).mono ?_;rintro e' w' ⟨v,r,ls,rfl,hR,I',B⟩;exact hK _ _ _ (RelD.put (u:=[]) h1 h2 h0 h3 (MLe.refl _) (BLe.refl _) (I'.mono λ_ h=>.inl h) B) (O r ls hR).2
     cases p
    simp_all
   exact h.elim
  unfold kd1 at h;split at h
  .rename_i c d u N;obtain⟨hc,_,hF⟩:=h;have:=XlQ I (ver:=k0+e.i) hv {e.o with dst:=XgA C.off e.o.dst} a.eval (ev (ZB e.ms st.t) C.G) E (λ_=>rfl) (Xre H N) hc;obtain⟨M',β',w',v,A,I',B,hM,hB⟩:=this;rw[XgC]at A;have S:RelD P C (λx=>U x\/x=k0+e.i) (nx st (XS e.o.dst st.n) d u st.n st.k) (a.put e.o.dst v) w':=RelD.put h1 h2 h0 h3 hM hB I' B;unfold Oper.wp;rcases A with A|⟨A,rfl⟩
   .rw[A];exact hK _ _ _ S hF
   rw[A];exact hK _ _ _ S hF
  exact h.elim
 unfold KW kdE at h;split at h
 .rename_i hg;have hw:Region.wanted e.o (yielded full a.tmps)=true:=by unfold Region.wanted;rw[hg]
  simp_all
 rename_i g want hg;split at h
 .rename_i r T;unfold kdG at h;split at h
  .rename_i b hb;have hval:a.tmps.getD r undef=.bool b:=by have:=V r;rw[hb]at this;simp only[Rep]at this;exact this.1
   have hy:yielded full a.tmps g=some b:=by
    unfold yielded;rw[T];simp only[Oh];by_cases hs:r<a.tmps.size
    .simp_all
    simp_all[hs,undef]
   have hw:Region.wanted e.o (yielded full a.tmps)=(b==want):=by unfold Region.wanted;rw[hg];simp only;rw[hy];rfl
   rw[hw];cases hbw:(b==want)with
   |true=>simp_all
   |false=>rw[hbw]at h;rw[Wk ac];exact J h.2.2
  .rename_i vs hb;have hval:a.tmps.getD r undef=.tuple vs:=by have:=V r;rw[hb]at this;simp only[Rep]at this;exact this.1
   have hy:yielded full a.tmps g=none:=by
    unfold yielded;rw[T];simp only[Oh];by_cases hs:r<a.tmps.size
    .simp_all
    simp_all
   have hw:Region.wanted e.o (yielded full a.tmps)=false:=by unfold Region.wanted;rw[hg];simp only;rw[hy];rfl
   rw[hw,Wk ac];exact J h.2.2
  exact h.elim
 exact h.elim
end
variable {P:Program}
def Xjf(e:En):Bool:=e.o.after.toList.all λd=>!Region.binds .any d||d.on<e.i
def Xpl(f:List En)(e:En):Bool:=e.anc.all λx=>e.o.after.toList.any λd=>Region.binds .any d&&(d.on==x||((f[d.on]?).map (·.anc.contains x)).getD false)
def XqM(f:List En)(j:En):Bool:=f.all λe=>!(e.i<j.i)||j.anc.contains e.i||Xc9 e j
def Xik(e:List En):Bool:=e.all Xjf&&e.all (Xpl e)&&e.all (XqM e)
def JN(m:Nat)(f:List En)(listed:Array Bool):List En:=f.filter λe=>decide (e.i<m)&&!listed.getD e.i true
def Xda(m:Nat)(f:List En):Bool:=decide (m<=f.length)&&f.all λe=>decide (e.i<m)||(List.range m).all λy=>e.anc.contains y
section
variable {C:Cx}{ops:Array Oper}{k0:Nat}{es:List En}{Q:Exit->AW}{K:St->Prop}
def UD(k0:Nat)(listed:Array Bool):Nat->Prop:=λv=>v<k0\/∃i,listed.getD i false=true/\v=k0+i
def Xl7(g:es.map (·.o)=ops.toList)(q:es.map (·.i)=List.range es.length){j:Nat}{o:Oper}(h:ops[j]? = some o):∃e,e∈es/\es[j]? = some e/\e.i=j/\e.o=o:=by
 have f:(es.map (·.o))[j]? = some o:=by rw[g];simpa using h
 simp at f;obtain⟨e,p,rfl⟩:=f;have r:(es.map (·.i))[j]? = some e.i:=by simp[p]
 grind
def Xdb(h:es.map (·.i)=List.range es.length){e:En}(f:e∈es):e.i<es.length/\es[e.i]? = some e:=by
 obtain⟨j,g,rfl⟩:=WA f;have o:(es.map (·.i))[j]? = some es[j].i:=by simp[g]
 grind
def XkL(e:es.map (·.i)=List.range es.length):es.Pairwise λa b=>a.i<b.i:=by have:=List.pairwise_lt_range (n:=es.length);grind
def Xdc(I:es.map (·.i)=List.range es.length)(h:∀e∈es,Xpl es e=true){listed:Array Bool}(q:∀e∈es,listed.getD e.i false=true->∀x∈e.anc,listed.getD x false=true){e:En}(J:e∈es)(p:∀d∈e.o.after,Region.binds .any d=true->listed.getD d.on false=true):∀x∈e.anc,listed.getD x false=true:=by
 intro x L;have r:=h e J;unfold Xpl at r;simp only[W0]at r;have E:=r x L;simp only[Oi,WI,Im,beq_iff_eq]at E;have⟨d,hd,hb,f⟩:=E;have G:listed.getD d.on false=true:=p d (by simpa using hd) hb;rcases f with rfl|f
 .exact G
 cases g:es[d.on]? with
 |none=>rw[g]at f;simp at f
 |some z=>
  rw[g]at f;have N:=W7 g;have v:z.i=d.on:=by
   have A:d.on<es.length:=by
    rcases UA d.on es.length with B|B
    .exact B
    rw[WP B]at g;cases g
   have H:(es.map (·.i))[d.on]? = some z.i:=by simp[g]
   rw[I,List.getElem?_range A]at H;simpa using H.symm
  exact q z N (by rw[v];exact G) x (by simpa using f)
def Xrs(ho:es.map (·.o)=ops.toList)(hi:es.map (·.i)=List.range es.length)(hc:Xik es=true){m r:Nat}(p:Xda m es=true)(hQ:∀(listed:Array Bool)st a w,listed.size=es.length->(∀x,listed.getD x false=decide (x<m))->RelD P C (λv=>v<k0+m) st a w->K st->wpAny P .any ops Q r listed a w):
 ∀(fuel:Nat) (listed:Array Bool) (a:Act) (w:World) (st:St),(JN m es listed).length=fuel->listed.size=es.length->(∀x,m<=x->listed.getD x false=false)->RelD P C (UD k0 listed) st a w ->
  (∀e∈es,listed.getD e.i false=true->∀x∈e.anc,listed.getD x false=true)->dr P C ops k0 (JN m es listed) st K->wpAny P .any ops Q (r+fuel) listed a w:=by
 unfold Xik at hc;simp at hc;have⟨⟨hedge,hanc⟩,hpair⟩:=hc;have B:=XkL hi;unfold Xda at p;simp only[WI,decide_eq_true_eq,W0,Im,List.mem_range,UF]at p;have⟨hml,p⟩:=p;have getD_flip:∀(listed:Array Bool) (x:Nat),x<listed.size->(listed.getD x true=listed.getD x false):=by intro listed x g;simp[g]
 have es_i:∀j(h:j<es.length),es[j].i=j:=by
  intro j h;have q:(es.map (·.i))[j]? = some es[j].i:=by simp[h]
  rw[hi,List.getElem?_range h]at q;simpa using q.symm
 have done:∀{listed:Array Bool},listed.size=es.length->JN m es listed=[]->∀x,x<m->listed.getD x false=true:=by
  intro listed hs hn x g;cases E:listed.getD x false with
  |true=>rfl
  |false=>have:es[x]'ab∈JN m es listed:=WY.2 ⟨Wy _,by rw[es_i,getD_flip _ _ ab,E];simpa using g⟩;rw[hn]at this;cases this
 intro fuel;induction fuel with
 |zero=>
  intro listed a w st f G W hr hcl hd;have H:JN m es listed=[]:=WK f;rw[H]at hd;have hd1:=done G H;refine hQ listed st a w G (λx=>?_) ?_ hd
  .by_cases h:x<m
   .rw[hd1 x h,Wg h]
   rw[W x ab,We h]
  have⟨z,q,M,β,h0,h3,I⟩:=hr;refine⟨z,q,M,β,h0,h3,I.mono λv E=>?_⟩;rcases E with E|⟨i,Y,rfl⟩
  .exact IX E (Nat.le_add_right _ _)
  rcases UA i m with h|h
  .exact Nat.add_lt_add_left h _
  rw[W i h]at Y;cases Y
 |succ fuel ih=>
  intro listed a w st f G W hr hcl hd;refine⟨λH=>?_,λj hj=>?_⟩
  ·
   cases J:JN m es listed with
   |nil=>simp_all
   |cons e l=>
    have L:e∈JN m es listed:=by rw[J];simp
    have⟨he,A⟩:=WY.1 L;simp only[WI,decide_eq_true_eq]at A;have N:(JN m es listed).Pairwise λa b=>a.i<b.i:=B.filter _;rw[J,U3]at N;have⟨hlt,O⟩:=Xdb hi he;have hoe:ops[e.i]? = some e.o:=by
     have:(es.map (·.o))[e.i]? = some e.o:=by simp[O]
     rw[ho]at this;simpa using this
    have:e.i∈Region.ready .any ops listed:=by
     refine mem_ready.2 ⟨by simpa using A.2,e.o,hoe,λd hd hb=>?_⟩;have z:=hedge e he;unfold Xjf at z;simp only[W0]at z;have q:=z d (by simpa using hd);simp only[hb,Wi,Is,decide_eq_true_eq]at q;cases E:listed.getD d.on false with
     |true=>rfl
     |false=>
      have e1:=es_i d.on ab;have S:es[d.on]'ab∈JN m es listed:=by refine WY.2 ⟨Wy _,?_⟩;rw[e1,getD_flip _ _ ab,E];simp;omega
      rw[J]at S;rcases Ia.1 S with h|h
      .rw[h]at e1;omega
      have:=N.1 _ h;omega
    simp_all
  have⟨A,o,hoj,hall⟩:=mem_ready.1 hj;obtain⟨e,he,O,hei,rfl⟩:=Xl7 ho hi hoj;have hal:=Xdc hi hanc hcl he hall;have hjm:j<m:=by
   rcases UA j m with h|h
   .exact h
   exfalso;have hno:JN m es listed=[]:=by
    refine List.filter_eq_nil_iff.2 λx g=>?_;have Z:=(Xdb hi g).1;by_cases hxm:x.i<m
    .have:=hal x.i ((p e he).resolve_left ab x.i hxm);rw[getD_flip _ _ ab,this];simp
    simp[hxm]
   rw[hno]at f;cases f
  have L:e∈JN m es listed:=WY.2 ⟨he,by rw[hei,A];simpa using hjm⟩;have⟨l1,l2,hsplit⟩:=List.append_of_mem L;have N:(JN m es listed).Pairwise λa b=>a.i<b.i:=B.filter _;rw[hsplit]at N;have⟨hs1,hs2,hs3⟩:=Oc.1 N;rw[U3]at hs2;have T:j<listed.size:=ab;have hap:∀x∈l1,Xc9 x e=true:=by
   intro x g;have Z:x∈JN m es listed:=by rw[hsplit];exact WW _ g
   obtain⟨hxe,hxun⟩:=WY.1 Z;have hlt:x.i<e.i:=hs3 x g e ac;have z:=hpair e he;unfold XqM at z;simp only[W0]at z;have q:=z x hxe;simp only[hlt,decide_true,Wi,Is,Im]at q;rcases q with q|q
   .have Z:=hal x.i (by simpa using q);have:x.i<listed.size:=by rw[G];exact(Xdb hi hxe).1
    rw[getD_flip _ _ this,Z]at hxun;simp at hxun
   exact q
  rw[hsplit]at hd;have hst:=Xcf hap hd;have V:JN m es (listed.setIfInBounds j true)=l1++l2:=by
   have z:JN m es (listed.setIfInBounds j true)=(JN m es listed).filter λx=>x.i != j:=by
    unfold JN;rw[List.filter_filter];refine List.filter_congr λx g=>?_;by_cases hxj:x.i=j
    .rw[hxj];simp[T]
    rw[getD_set_ne true (Ne.symm hxj)];simp[hxj]
   rw[z,hsplit,IH,List.filter_cons];have q:(e.i != j)=false:=by simp[hei]
   rw[q];have h3:l1.filter (λx=>x.i != j)=l1:=Il.2 λx g=>by have:=hs3 x g e ac;simp;omega
   have h4:l2.filter (λx=>x.i != j)=l2:=Il.2 λx g=>by have:=hs2.1 x g;simp;omega
   rw[h3,h4];simp
  have hnotU:¬UD k0 listed (k0+e.i):=by
   rintro(h|⟨i,Y,h⟩)
   .omega
   have:i=j:=ab;subst this;rw[getD_flip _ _ T,Y]at A;cases A
  have hone:=Xl6 (Q:=Q) (K:=wpAny P .any ops Q (r+fuel) (listed.setIfInBounds j true)) hr hnotU hst λst' a' w' hr' hF=>by
   refine ih (listed.setIfInBounds j true) a' w' st' ?_ (by simpa using G) (λx g=>by rw[getD_set_ne false ab];exact W x g) ?_ ?_ (by rw[V];exact hF)
   .rw[V];rw[hsplit]at f;simp at f⊢;omega
   .have⟨z,q,M,β,h0,h3,I⟩:=hr';refine⟨z,q,M,β,h0,h3,I.mono λv E=>?_⟩;rcases E with(E|⟨i,Y,rfl⟩)|rfl
    .exact .inl E
    .exact .inr ⟨i,getD_set_true Y,rfl⟩
    exact .inr ⟨j,by simp[T],by rw[hei]⟩
   intro y hy Y x g;by_cases hyj:y.i=j
   .have hye:y=e:=by have z:=(Xdb hi hy).2;rw[hyj,O]at z;simpa using z.symm
    subst hye;exact getD_set_true (hal x g)
   rw[getD_set_ne false (Ne.symm hyj)]at Y;exact getD_set_true (hcl y hy Y x g)
  unfold wpOp;grind
def XgQ(P:Program)(C:Cx)(x:Option (FuncId×List D))(dst:Option Nat)(st:St)(K:St->Prop)[Tag (C,dst,st,K)](_:Prf x):Prop:=match (generalizing:=false) x with
 |some (f,args)=>CallX P C f args dst st K trivial
 |none=>False
def Xfu(P:Program)(C:Cx)(x:Option Call)(dst:Option Nat)(st:St)(K:St->Prop)[Tag (C,dst,st,K)](_:Prf x):Prop:=match (generalizing:=false) x with
 |some c=>XgQ P C (callee (ev st.t C.G) c) dst st K trivial
 |none=>False
def Xpm{st:St}{a:Act}{w:World}{o:Oper}{F:St->Prop}{K:AW}(N:Rel P C st a w)(h:Xfu P C (ZR o.op) o.dst st F trivial)(hK:∀st a w,Rel P C st a w->F st->K a w):o.wp P a w K Q:=by
 have⟨O,S,M,β,H,J,I⟩:=N;have z:=XbF I J;unfold Xfu at h;split at h
 .rename_i c L;have B:o.op=.call c:=by
   unfold ZR at L;split at L
   .grind
   grind
  unfold XgQ at h;split at h
  .rename_i f args p;have⟨⟨fn,T,E,V⟩,W⟩:=h;unfold callee at p;split at p
   .rename_i x Y;split at p
    .rename_i g first caps A
     obtain⟨rfl,rfl⟩:=p;have q:=z x;rw[A]at q;have⟨Z,vb,q,ha,hb⟩:=q;unfold Oper.wp;rw[JZ B Y q T E V w];have r:RepL P M β (first++(c.args.toList.map (ev st.t C.G)++caps)) (Z++(c.args.toList.map a.eval++vb)):=
      ha.append ((RepL.map z _).append hb)
     refine(W M β w _ H I r).mono ?_;rintro e w' ⟨v,d,s',k',M',β',rfl,I',hv,hM,hB,hk⟩;exact hK _ _ _ (OB O S H J hM hB I' hv) hk
    cases p
   simp_all
  exact h.elim
 exact h.elim
def Xjg(f:es.map (·.i)=List.range es.length):Xda es.length es=true:=by unfold Xda;simp only[WI,decide_eq_true_eq,W0,Im];exact⟨Un _,λe g=>.inl (Xdb f g).1⟩
def XeE{l:List Oper}{listed:Array Bool}(v:listed.size=l.length)(h:∀x,listed.getD x false=decide (x<l.length)):Region.ready .any ⟨l⟩ listed=[]:=by
 refine List.eq_nil_iff_forall_not_mem.2 λj q=>?_;have⟨e,o,f,_⟩:=mem_ready.1 q;have r:j<l.length:=by
  rcases UA j l.length with g|g
  .exact g
  simp[g]at f
 have:=h j;have p:j<listed.size:=ab;simp[p,r]at this e;rw[this]at e;cases e
def DrawnG.of{R:St->Prop}{id:Nat}{k:List It}{st:St}{l:List Oper}(N:P.follows .mixedOrders=true)(es:List En)(n:Nat)(J:es.map (·.o)=l)(B:es.map (·.i)=List.range es.length)(O:Xik es=true)(h:dr P C ⟨l⟩ st.k es st λf=>run P C R n k ⟨f.t,f.s,f.n,st.k+es.length⟩)(t:Prf (⟨l⟩:Array Oper))(hrd:C.rd=none:=by rfl):DrawnG P C R id ⟨l⟩ k st t:=by
 intro a w S;rw[show fz C.rd=Fence.wide by rw[hrd];rfl];refine wpIn_wide.2 (wp_region_any N ?_);have g:es.length=l.length:=by rw[←J];simp
 have hrd:RelD P C (UD st.k (Array.replicate (⟨l⟩:Array Oper).size false)) st a {w with drawn:=w.drawn+1}:=by refine RelD.drew ?_ _;obtain⟨E,G,M,β,q,H,I⟩:=S;exact⟨E,G,M,β,q,H,I.mono λv T=>.inl T⟩
 have q:∀x,(Array.replicate (⟨l⟩:Array Oper).size false).getD x false=false:=λx=>by simp only[Array.getD_eq_getD_getElem?,Array.getElem?_replicate];split<;>rfl
 have p:JN es.length es (Array.replicate (⟨l⟩:Array Oper).size false)=es:=by unfold JN;refine Il.2 λe L=>?_;have:=(Xdb B L).1;simp[g▸this,this]
 have:=Xrs (r:=0) (Q:=JB (Zy P C R) (sem P C (Zy P C R) k)) (es:=es) (k0:=st.k) J B O (Xjg B) ?_ _ _ a _ st (by rw[p]) (by simp[g]) (λx _=>q x) hrd (λe L A=>by rw[q]at A;cases A) (by rw[p];exact h)
 .rw[UG,g]at this;exact this
 rintro listed f V w' W A ⟨E,G,M,β,q,H,I⟩ hK;exact⟨XeE ab (g▸A),Yt n k (st:=⟨f.t,f.s,f.n,st.k+es.length⟩) ⟨E,G,M,β,q,H,I⟩ hK⟩
def XkM{m:Nat}{q:En->Bool}(e:∀x∈es.take m,q x=true)(f:∀x∈es.drop m,q x=false):es.filter q=es.take m:=by
 have:es.filter q=(es.take m++es.drop m).filter q:=by rw[U9]
 rw[this,IH,Il.2 e,List.filter_eq_nil_iff.2 (λx g=>by simp[f x g]),Ib]
def XkN{m:Nat}{q:En->Bool}(e:∀x∈es.take m,q x=false)(f:∀x∈es.drop m,q x=true):es.filter q=es.drop m:=by
 have:es.filter q=(es.take m++es.drop m).filter q:=by rw[U9]
 rw[this,IH,Il.2 f,List.filter_eq_nil_iff.2 (λx g=>by simp[e x g]),Ue]
def Xpn(es:List En):Bool:=es.all λe=>e.anc.all λx=>decide (x<e.i)
def OS{R:St->Prop}{id:Nat}{k:List It}{st:St}{l:List Oper}(hm:P.follows .mixedOrders=true)(es:List En)(n m:Nat)(o:Oper)(ho:es.map (·.o)=l)(T:es.map (·.i)=List.range es.length)(A:(Xik es&&(Xpn es&&(Xda m es&&Xda (m+1) es)))=true)(J:l[m]? = some o)(hgd:o.guard=none)(h:dr P C ⟨l⟩ st.k (es.take m) st λf=>Xfu P C (ZR o.op) o.dst ⟨f.t,f.s,f.n,st.k+m⟩ (λp=>dr P C ⟨l⟩ p.k (es.drop (m+1)) p λf=>run P C R n k ⟨f.t,f.s,f.n,p.k+es.length⟩) trivial)(t:Prf (⟨l⟩:Array Oper))(hrd:C.rd=none:=by rfl):DrawnG P C R id ⟨l⟩ k st t:=by
 intro a w hr;rw[show fz C.rd=Fence.wide by rw[hrd];rfl];refine wpIn_wide.2 (wp_region_any hm ?_);simp only[WI]at A;obtain⟨A,B,hc1,V⟩:=A;have z:es.length=l.length:=by rw[←ho];simp
 have hml:m<l.length:=by
  rcases UA m l.length with h'|h'
  .exact h'
  simp[h']at J
 have hrd:RelD P C (UD st.k (Array.replicate (⟨l⟩:Array Oper).size false)) st a {w with drawn:=w.drawn+1}:=by refine RelD.drew ?_ _;obtain⟨W,L,M,β,h0,h3,I⟩:=hr;exact⟨W,L,M,β,h0,h3,I.mono λv hv=>.inl hv⟩
 have h0:∀x,(Array.replicate (⟨l⟩:Array Oper).size false).getD x false=false:=λx=>by simp only[Array.getD_eq_getD_getElem?,Array.getElem?_replicate];split<;>rfl
 have es_i:∀j(h:j<es.length),es[j].i=j:=by
  intro j h;have L:(es.map (·.i))[j]? = some es[j].i:=by simp[h]
  rw[T,List.getElem?_range h]at L;simpa using L.symm
 have tk:∀{j},∀x∈es.take j,x.i<j/\x.i<es.length:=λ{j} x g=>by obtain⟨i,hi',rfl⟩:=List.mem_take_iff_getElem.1 g;rw[es_i];omega
 have dp:∀{j},∀x∈es.drop j,j<=x.i/\x.i<es.length:=λ{j} x g=>by obtain⟨i,hi',rfl⟩:=List.mem_drop_iff_getElem.1 g;rw[es_i];omega
 have N:JN m es (Array.replicate (⟨l⟩:Array Oper).size false)=es.take m:=
  XkM (λx g=>by have:=tk x g;simp[this,←z]) (λx g=>by have:=dp x g;simp;intro h;omega)
 have O:∀e∈es,Xpl es e=true/\Xjf e=true:=by have A:=A;unfold Xik at A;simp at A;exactλe E=>⟨A.1.2 e E,A.1.1 e E⟩
 have getD_flip:∀(listed:Array Bool) (x:Nat),x<listed.size->(listed.getD x true=listed.getD x false):=by intro listed x g;simp[g]
 have S:∀{listed:Array Bool} {j:Nat},(∀x,listed.getD x false=decide (x<j))->∀e∈es,listed.getD e.i false=true->∀x∈e.anc,listed.getD x false=true:=λ{listed j} hd e E h x g=>by unfold Xpn at B;simp only[W0,decide_eq_true_eq]at B;rw[hd,decide_eq_true_eq]at h⊢;have:=B e E x g;omega
 have hA:=Xrs (r:=l.length-m) (Q:=JB (Zy P C R) (sem P C (Zy P C R) k)) (es:=es) (ops:=⟨l⟩) (k0:=st.k) ho T A hc1 ?_ _ _ a _ st (by rw[N]) (by simp[z]) (λx _=>h0 x) hrd (λe E J=>by rw[h0]at J;cases J) (by rw[N];exact h)
 .rw[Wl,I4 ab,Nat.sub_add_cancel ab]at hA;exact hA
 rintro listed f a' w' hs hd ⟨g1,g2,M,β,g0,g3,I⟩ hK;obtain⟨r',hr'⟩:∃r',l.length-m=r'+1:=⟨l.length-m-1,ab⟩
 rw[hr'];have hem:=es_i m ab;have hun:listed.getD m true=false:=by have:=hd m;have G:m<listed.size:=ab;simp[G]at this⊢;exact this
 have hoe:es[m]'ab∈es:=Wy _;have hgo:(es[m]'ab).o=o:=by
  have:(es.map (·.o))[m]? = some (es[m]'ab).o:=by simp[z,hml]
  rw[ho,J]at this;exact(WE this).symm
 have hrm:m∈Region.ready .any ⟨l⟩ listed:=by refine mem_ready.2 ⟨hun,o,by simpa using J,λd hdd hb=>?_⟩;have W:=(O _ hoe).2;unfold Xjf at W;simp only[W0,hgo]at W;have L:=W d (by simpa using hdd);simp only[hb,Wi,Is,decide_eq_true_eq,hem]at L;rw[hd,Wg L]
 refine⟨λhn=>(by rw[hn]at hrm;cases hrm),λj hj=>?_⟩;have⟨hju,oj,hoj,Y⟩:=mem_ready.1 hj;obtain⟨e,E,hget,hei,rfl⟩:=Xl7 (ops:=⟨l⟩) ho T hoj;have hjl:=(Xdb T E).1;have hjm:j=m:=by
  have hd':listed.getD j false=false:=by have G:j<listed.size:=ab;simp[G]at hju⊢;exact hju
  rw[hd,Ix]at hd';rcases UA m j with h'|h'
  .exfalso;unfold Xda at V;simp only[WI,decide_eq_true_eq,W0,Im,List.mem_range,UF]at V;have:=Xdc T (λe E=>(O e E).1) (S hd) E Y m ((V.2 e E).resolve_left ab m ab);rw[hd]at this;simp at this
  omega
 subst hjm;unfold wpOp;have e2:(⟨l⟩:Array Oper)[j]? = some o:=by simpa using J
 rw[e2];have hw:Region.wanted o (yielded (⟨l⟩:Array Oper) a'.tmps)=true:=by unfold Region.wanted;rw[hgd]
 simp only[hw,if_true];refine .inl (Xpm (st:=⟨f.t,f.s,f.n,st.k+j⟩) ⟨g1,g2,M,β,g0,g3,I⟩ hK λp a2 w2 ⟨f1,f2,M2,β2,f0,f3,I2⟩ hF=>?_);have Z:∀x,(listed.setIfInBounds j true).getD x false=decide (x<j+1):=λx=>by
  by_cases g:x=j
  .subst g;rw[Wg ab];have G:x<listed.size:=ab;simp[G]
  rw[getD_set_ne false (Ne.symm g),hd];congr 1;exact propext ⟨λh=>ab,λh=>ab⟩
 have H:JN es.length es (listed.setIfInBounds j true)=es.drop (j+1):=by
  have q:∀x:Nat,x<es.length->(listed.setIfInBounds j true).getD x true=decide (x<j+1):=λx g=>by rw[←Z];exact getD_flip _ _ ai
  exact XkN (λx g=>by have:=tk x g;rw[q _ this.2];simp;omega) (λx g=>by have:=dp x g;rw[q _ this.2];simp;omega)
 have hB:=Xrs (r:=0) (Q:=JB (Zy P C R) (sem P C (Zy P C R) k)) (es:=es) (ops:=⟨l⟩) (k0:=p.k) ho T A (Xjg T) ?_ _ (listed.setIfInBounds j true) a2 w2 p (by rw[H]) (by simpa using hs) (λx g=>by rw[Z,We];omega) ⟨f1,f2,M2,β2,f0,f3,I2.mono λv hv=>.inl hv⟩ (S Z) (by rw[H];exact hF)
 .rw[Wo,show 0+(es.length-(j+1))=r' by omega]at hB;exact hB
 rintro listed f a' w' hs J ⟨W,L,M,β,h0,h3,I⟩ hK;exact⟨XeE ab (z▸J),Yt n k (st:=⟨f.t,f.s,f.n,p.k+es.length⟩) ⟨W,L,M,β,h0,h3,I⟩ hK⟩
end
variable {P:Program}
def XsI:Nat->List Oper->List (List Nat×List Nat×List Nat×List Nat)->List En
 |i,o::l,(a,w,m,k)::x=>⟨i,o,a,w,m,k⟩::XsI (i+1) l x
 |_,_,_=>[]
def CallD(P:Program)(G:Nat->Option (List D))(f:FuncId)(args:List D)(obs:List Ob)(K:D->List Ob->Prop)[Tag (G,K)](_:Prf args):Prop:=
 ∃eargs R,Z4 args eargs/\YZ P G f eargs obs R/\(∃r ls,R r ls)/\∀r ls,R r ls->K r ls
def doT(P:Program)(C:Cx)(e:En)(ver:Nat)(s:Heap)(x:Option Kd)(st:St)(F:St->Prop)[Tag (C,e,s,st,F)](_:Prf x):Prop:=
 doK P C e ver s x λd u=>F (nx st (XS e.o.dst st.n) d u st.n st.k)
def XqN(P:Program)(C:Cx)(s:Heap)(f:FuncId)(args:List D)(K:D->Prop)[Tag (C,s,K)](_:Prf args):Prop:=
 ∃eargs R,RoA P C s args eargs/\YZ P C.G f eargs [] R/\(∃r ls,R r ls)/\∀r ls,R r ls->scal r=true/\K r
section
variable {C:Cx}{full:Array Oper}{k0:Nat}{st:St}{K F:St->Prop}{e:En}{es:List En}{ver:Nat}{s:Heap}
def Xrt:dr P C full k0 [] st K=K st:=propext Iff.rfl
def Xpo:dr P C full k0 (e::es) st K=doT P C e (k0+e.i) (Y3 e.mi st.s) (kdE P C full (k0+e.i) e.o (ZB e.ms st.t) (Y3 e.mi st.s)) st (λst=>dr P C full k0 es st K) trivial:=propext Iff.rfl
def Xpp{c:Prop}{d:D}{u:Up}{f:Prf (some (Kd.det c d u))}:doT P C e ver s (some (.det c d u)) st F f=(c/\KV u e.ws/\XgB (XS e.o.dst st.n) st.n st.k (λdst n k=>F (nx st dst d u n k)) trivial):=propext Iff.rfl
def Xl8{c:Prop}{f:FuncId}{as:List D}{ids:List Nat}{obs:List Ob}{fz:List Nat}{g:Prf (some (Kd.call c f as ids obs fz))}:doT P C e ver s (some (.call c f as ids obs fz)) st F g=(c/\CallD P C.G f as obs (λr ls=>
 Xrf (aft s ids fz r ls ver (64*(C.off+e.o.dst.getD 0))) (XS e.o.dst st.n) st.n st.k (λdst d u n k=>KV u e.ws/\F (nx st dst d u n k)) trivial) trivial):=propext Iff.rfl
def Xru{f:FuncId}{args:List D}{g:Prf (some (Kd.ro f args))}:doT P C e ver s (some (.ro f args)) st F g=XqN P C s f args (λr=>XgB (XS e.o.dst st.n) st.n st.k (λdst n k=>F (nx st dst r [] n k)) trivial) trivial:=propext Iff.rfl
def Xrv{r:Nat}{x:Option Kd}:kdG (.v (.bool true)) r true x=x:=rfl
def Xrw{r:Nat}{x:Option Kd}:kdG (.v (.bool false)) r false x=x:=rfl
def Xrx{r:Nat}{x:Option Kd}:kdG (.v (.bool true)) r false x=some (.det True (.v undef) []):=rfl
def Xry{r:Nat}{x:Option Kd}:kdG (.v (.bool false)) r true x=some (.det True (.v undef) []):=rfl
def XsJ{r:Nat}{want:Bool}{x:Option Kd}{f:Array Value}:kdG (.v (.tuple f)) r want x=some (.det True (.v undef) []):=rfl
def Xl9{dst:Option Nat}{op:Op}{ty:Nat}{pos:String}{af:Array Edge}{t:Nat->D}:kdE P C full ver ⟨dst,op,ty,pos,af,none⟩ t s=kdO P C ver ⟨dst,op,ty,pos,af,none⟩ t s:=rfl
def kdF(r:Option Nat)(t:Nat->D)(want:Bool)(x:Option Kd):Option Kd:=match r with
 |some r=>kdG (t r) r want x
 |none=>none
def Xma{r:Nat}{t:Nat->D}{want:Bool}{x:Option Kd}:kdF (some r) t want x=kdG (t r) r want x:=rfl
def Xmb{dst:Option Nat}{op:Op}{ty:Nat}{pos:String}{af:Array Edge}{t:Nat->D}{g:Nat}{want:Bool}:kdE P C full ver ⟨dst,op,ty,pos,af,some (g,want)⟩ t s=kdF ((full[g]?).bind (·.dst)) t want (kdO P C ver ⟨dst,op,ty,pos,af,some (g,want)⟩ t s):=by rfl
def kdI(P:Program)(C:Cx)(x:Option Call)(ver:Nat)(o:Oper)(t:Nat->D)(s:Heap):Option Kd:=match x with
 |some c=>kd3 C.G s (callee (ev t C.G) c)
 |none=>kd1 (opF P (XgA C.off o.dst) ver (ev t C.G) s o.op)
def Xrz{o:Oper}{t:Nat->D}:kdO P C ver o t s=kdI P C (ZR o.op) ver o t s:=by rfl
def Xmc{o:Oper}{t:Nat->D}:kdI P C none ver o t s=kd1 (opF P (XgA C.off o.dst) ver (ev t C.G) s o.op):=rfl
def Xmd{o:Oper}{t:Nat->D}{c:Call}:kdI P C (some c) ver o t s=kd3 C.G s (callee (ev t C.G) c):=rfl
def Xme{c:Prop}{d:D}{u:Up}:kd1 (some (c,d,u))=some (.det c d u):=rfl
def Xmf{f:Nat}{args:List D}{g:Prop}{as:List D}{ids:List Nat}{obs:List Ob}{fz:List Nat}:kd2 f args (some (g,as,ids,obs,fz))=some (.call g f as ids obs fz):=rfl
def Xmg{f:Nat}{args:List D}:kd2 f args none=some (.ro f args):=rfl
def Xmh{G:Nat->Option (List D)}{f:Nat}{args:List D}:kd3 G s (some (f,args))=kd2 f args (Xfs G f (Zl s args)):=rfl
def XrA{G:Nat->Option (List D)}{f:Nat}{α:Type}{x:Option α}(h:G (roK f)=none):Xfs G f x=x:=by unfold Xfs;simp_all
def XrB{G:Nat->Option (List D)}{f:Nat}{α:Type}{x:Option α}{y:List D}(h:G (roK f)=some y):Xfs G f x=none:=by unfold Xfs;simp_all
def XkO{ws:List Nat}:KV [] ws=True:=by simp[KV]
def Xil{i v:Nat}{o:Ob}{u:Up}{ws:List Nat}:KV ((i,v,o)::u) ws=(i∈ws/\KV u ws):=by simp[KV]
def Xmi{ms:List Nat}{t:Nat->D}{x:Nat}:ZB ms t x=if ms.contains x then .any else t x:=rfl
def Xmj{ms:List Nat}{x:Nat}:Y3 ms s x=if ms.contains x then none else s x:=rfl
def Xs{b:Bool}{r:Nat}{x:Option Kd}(f:st.t r=.v (.bool b))(g:b=true->doT P C e ver s x (XaC st r (.v (.bool true))) F trivial)(h:b=false->doT P C e ver s (some (.det True (.v undef) [])) (XaC st r (.v (.bool false))) F trivial)(t':Prf (kdG (.v (.bool b)) r true x)):doT P C e ver s (kdG (.v (.bool b)) r true x) st F t':=by
 cases b
 .have:=h rfl;rw[Zs f]at this;exact this
 have:=g rfl;rw[Zs f]at this;exact this
def Xt{b:Bool}{r:Nat}{x:Option Kd}(f:st.t r=.v (.bool b))(g:b=true->doT P C e ver s (some (.det True (.v undef) [])) (XaC st r (.v (.bool true))) F trivial)(h:b=false->doT P C e ver s x (XaC st r (.v (.bool false))) F trivial)(t':Prf (kdG (.v (.bool b)) r false x)):doT P C e ver s (kdG (.v (.bool b)) r false x) st F t':=by
 cases b
 .have:=h rfl;rw[Zs f]at this;exact this
 have:=g rfl;rw[Zs f]at this;exact this
def CallD.of{G:Nat->Option (List D)}{f:FuncId}{args eargs:List D}{obs:List Ob}{R K:D->List Ob->Prop}(h:YZ P G f eargs obs R)(o:Z4 args eargs)(g:∃r ls,R r ls)(hK:∀r ls,R r ls->K r ls)(t':Prf args):CallD P G f args obs K t':=
 ⟨eargs,R,o,h,g,hK⟩
def XkP{c:Call}{dst:Option Nat}{f:Prf (some c)}:Xfu P C (some c) dst st K f=XgQ P C (callee (ev st.t C.G) c) dst st K trivial:=propext Iff.rfl
def Xim{f:Nat}{args:List D}{dst:Option Nat}{g:Prf (some (f,args))}:XgQ P C (some (f,args)) dst st K g=CallX P C f args dst st K trivial:=propext Iff.rfl
end
def Xpq{ls:List Ob}:Jo ls 1000000=(ls[0]?).map (λo=>(0,o)):=Jr (j:=0)
def Xpr{ls:List Ob}:Jo ls 1000001=(ls[1]?).map (λo=>(0,o)):=Jr (j:=1)
def Xps{ls:List Ob}:Jo ls 1000002=(ls[2]?).map (λo=>(0,o)):=Jr (j:=2)
def Xpt{ls:List Ob}:Jo ls 1000003=(ls[3]?).map (λo=>(0,o)):=Jr (j:=3)
def Xpu{ls:List Ob}:Jo ls 1000004=(ls[4]?).map (λo=>(0,o)):=Jr (j:=4)
def Xpv{ls:List Ob}:Jo ls 1000005=(ls[5]?).map (λo=>(0,o)):=Jr (j:=5)
attribute [go_sem] LB Xpq Xpr Xps Xpt Xpu Xpv
attribute [go_sem ↓] Xrt Xpo Xl9 Xmb Xrz
attribute [go_sem] XkP Xim Xpp Xl8 Xru Xmg Xrv Xrw Xrx Xry XsJ Xma Xmc Xmd Xme Xmf Xmh XkO Xil Xmi Xmj XsI List.contains_cons List.contains_nil Bool.or_false Bool.or_true Is Bool.true_or
variable {P:Program}
def Xjh:Operand->Option Nat
 |.tmp x=>some x
 |_=>none
def rdO(full:Array Oper)(o:Oper):List Nat:=o.op.operands.toList.filterMap Xjh++match o.guard with
 |some (g,_)=>((full[g]?).bind (·.dst)).toList
 |none=>[]
def mkS:Nat->List Oper->List (Nat×List Nat×List Nat)->List En
 |_,[],_=>[]
 |i,o::l,[]=>⟨i,o,[],[],[],[]⟩::mkS (i+1) l []
 |i,o::l,(j,w,k)::x=>if i=j then⟨i,o,[],w,[],k⟩::mkS (i+1) l x else⟨i,o,[],[],[],[]⟩::mkS (i+1) l ((j,w,k)::x)
def bits(n m:Nat):List Nat:=(List.range n).filter λi=>m / 2 ^ i % 2==1
def XaQ:List Oper->List Nat->List Nat
 |[],acc=>acc
 |o::l,acc=>XaQ l (acc++[o.after.toList.foldl (λm d=>bif Region.binds .any d then m |||2 ^ d.on |||acc.getD d.on 0 else m) 0])
def unO(A:List Nat)(i j:Nat):Bool:=i != j&&(A.getD i 0 / 2 ^ j % 2==0&&A.getD j 0 / 2 ^ i % 2==0)
def mkF(l:List Oper)(A:List Nat)(aux:List (Nat×List Nat×List Nat)):List En:=(mkS 0 l aux).map λe=>{e with anc:=bits l.length (A.getD e.i 0),ms:=(List.range l.length).filterMap λj=>bif unO A e.i j then(l[j]?).bind (·.dst)else none}
def rdB(full:Array Oper)(e:En):Bool:=(rdO full e.o).all λx=>!e.ms.contains x
def Xfv(l:List Oper)(A:List Nat)(aux:List (Nat×List Nat×List Nat)):Bool:=Xik (mkF l A aux)&&(mkF l A aux).all (rdB ⟨l⟩)
def Xji:∀{l:List Oper} {i:Nat} {aux:List (Nat×List Nat×List Nat)},(mkS i l aux).map (·.o)=l
 |[],_,_=>by simp[mkS]
 |o::l,i,[]=>by simp[mkS,Xji (l:=l)]
 |o::l,i,(j,w,k)::x=>by unfold mkS;split<;>simp[Xji (l:=l)]
def Xmk:∀{l:List Oper} {i:Nat} {aux:List (Nat×List Nat×List Nat)},(mkS i l aux).map (·.i)=List.range' i l.length
 |[],_,_=>by simp[mkS]
 |o::l,i,[]=>by simp[mkS,Xmk (l:=l),List.range'_succ]
 |o::l,i,(j,w,k)::x=>by unfold mkS;split<;>simp[Xmk (l:=l),List.range'_succ]
def Xpw{l:List Oper}{i:Nat}{aux:List (Nat×List Nat×List Nat)}:(mkS i l aux).length=l.length:=by have:=congrArg List.length (Xji (l:=l) (i:=i) (aux:=aux));simpa using this
def Xin:∀{l:List Oper} {i:Nat} {aux:List (Nat×List Nat×List Nat)},∀e∈mkS i l aux,e.anc=[]/\e.ms=[]
 |[],_,_=>by simp[mkS]
 |o::l,i,[]=>by simpa [mkS]using Xin (l:=l)
 |o::l,i,(j,w,k)::x=>by unfold mkS;split<;>simpa using Xin (l:=l)
def XrC{C:Cx}{t f:Nat->D}{x:Operand}(h:∀y,Xjh x=some y->t y=f y):ev t C.G x=ev f C.G x:=by cases x<;>simp_all[ev,Xjh]
def Xpx{dst:Option Nat}{ver:Nat}{s:Heap}{t t':Operand->D}{op:Op}(h:∀x∈op.operands,t x=t' x):opF P dst ver t s op=opF P dst ver t' s op:=by
 have q:∀ps:Array (Nat×Operand),(∀x∈ps.toList.map (·.2),t x=t' x)->ps.toList.map (λp=>(p.1,t p.2))=ps.toList.map (λp=>(p.1,t' p.2)):=λps h=>List.map_congr_left λp hp=>by rw[h p.2 (WO.2 ⟨p,hp,rfl⟩)]
 have o:∀r:Option Operand,(∀x,r=some x->t x=t' x)->ivO t r=ivO t' r:=λr h=>by cases r<;>simp_all[ivO]
 cases op with
 |build T ps=>simp only[opF,q ps (by simpa [Op.operands]using h)]
 |buildSlice T n ps=>simp only[opF,q ps (by simpa [Op.operands]using h)]
 |makeMap T r=>simp only[opF,o r (by simpa [Op.operands]using h)]
 |slice T x l v m=>simp only[Op.operands,Array.mem_append,Array.mem_singleton,Option.mem_toArray]at h;simp only[opF,o l (λx g=>h x (.inl (.inl (.inr g)))),o v (λx g=>h x (.inl (.inr g))),o m (λx g=>h x (.inr g)),h x (.inl (.inl (.inl rfl)))]
 |call c=>
  have⟨f,⟨args⟩,types⟩:=c;cases f with
  |value f=>rfl
  |invoke r m=>rfl
  |builtin b=>have z:args.map t=args.map t':=List.map_congr_left λx g=>h x (by simpa [Op.operands,Call.operands]using g);cases b<;>first|rfl|simp only[opF,z]
 |_=>simp_all[opF,Op.operands]
section
variable {C:Cx}{full:Array Oper}{k0:Nat}{st:St}{K F:St->Prop}{t t':Nat->D}{s:Heap}{ver:Nat}{o:Oper}
def Xpy(h:∀x∈o.op.operands.toList.filterMap Xjh,t x=t' x):kdO P C ver o t s=kdO P C ver o t' s:=by
 have g:∀x∈o.op.operands,ev t C.G x=ev t' C.G x:=λx q=>XrC λy v=>h y (List.mem_filterMap.2 ⟨x,by simpa using q,v⟩);unfold kdO;cases p:ZR o.op with
 |none=>simp only[Xpx g]
 |some c=>
  have e:o.op=.call c/\∃f,c.callee=.value f:=by
   unfold ZR at p;split at p
   .split at p
    .rename_i z _ _ A;simp at p;subst p;exact⟨z,_,A⟩
    cases p
   cases p
  obtain⟨e,f,r⟩:=e;rw[e]at g;simp only[Op.operands,Call.operands,r]at g;have B:c.args.toList.map (ev t C.G)=c.args.toList.map (ev t' C.G):=List.map_congr_left λx q=>g x (by simp at q⊢;exact .inr q);have E:=g f ac;simp only[callee,r,E,B]
def Xpz(h:∀x∈rdO full o,t x=t' x):kdE P C full ver o t s=kdE P C full ver o t' s:=by
 have f:kdO P C ver o t s=kdO P C ver o t' s:=Xpy λx p=>h x (WW _ p);unfold kdE;rw[f];split
 .rfl
 rename_i g want q;split
 .rename_i r v;rw[h r (Uj _ (by rw[q];simp[v]))]
 rfl
def Xio{e:En}{anc ms:List Nat}(g:e.ms=[])(f:rdB full {e with anc:=anc,ms:=ms}=true)(h:KW P C full k0 e st F):KW P C full k0 {e with anc:=anc,ms:=ms} st F:=by
 unfold KW at h⊢;have:kdE P C full (k0+e.i) e.o (ZB ms st.t) (Y3 e.mi st.s)=kdE P C full (k0+e.i) e.o (ZB e.ms st.t) (Y3 e.mi st.s):=Xpz λx p=>by unfold rdB at f;simp only[W0,U7]at f;have:=f x p;unfold ZB;rw[g,this];simp
 show doK P C _ (k0+e.i) (Y3 e.mi st.s) (kdE P C full (k0+e.i) e.o (ZB ms st.t) (Y3 e.mi st.s)) _;rw[this];revert h;generalize kdE P C full (k0+e.i) e.o (ZB e.ms st.t) (Y3 e.mi st.s)=x;intro h;cases x with
 |none=>exact h
 |some x=>cases x<;>exact h
def Xcz{f g:En->List Nat}:∀{es:List En} {st:St},(∀e∈es,e.ms=[]/\rdB full {e with anc:=f e,ms:=g e}=true)->dr P C full k0 es st K->dr P C full k0 (es.map λe=>{e with anc:=f e,ms:=g e}) st K
 |[],st,_,h=>h
 |e::es,st,p,h=>Xio (p e ac).1 (p e ac).2 (XaP (λst h=>Xcz (λe h=>p e (WU _ h)) h) h)
def Xjj{K':St->Prop}(hK:∀st,K st->K' st):∀{es:List En} {st:St},dr P C full k0 es st K->dr P C full k0 es st K'
 |[],st,h=>hK _ h
 |e::es,st,h=>XaP (λst h=>Xjj hK h) h
def XkQ{x:Option Call}{dst:Option Nat}{K':St->Prop}(hK:∀st,K st->K' st)(h:Xfu P C x dst st K trivial):Xfu P C x dst st K' trivial:=by
 cases x with
 |none=>exact h
 |some c=>
  unfold Xfu XgQ at h⊢;simp only at h⊢;revert h;generalize callee (ev st.t C.G) c=x;intro h;cases x with
  |none=>exact h
  |some x=>exact⟨h.1,λM β w f g I p=>(h.2 M β w f g I p).mono λe w' ⟨v,d,s',q,M',β',r,z,A,B,E,H⟩=>⟨v,d,s',q,M',β',r,z,A,B,E,hK _ H⟩⟩
variable {R:St->Prop}{id:Nat}{k:List It}{l:List Oper}{aux:List (Nat×List Nat×List Nat)}
def Xjk{A:List Nat}(f:Xfv l A aux=true):Xik (mkF l A aux)=true/\(mkF l A aux).map (·.o)=l/\(mkF l A aux).map (·.i)=List.range (mkF l A aux).length/\(mkF l A aux).length=l.length/\∀e∈mkS 0 l aux,e.ms=[]/\rdB ⟨l⟩ {e with anc:=bits l.length (A.getD e.i 0),ms:=(List.range l.length).filterMap λj=>bif unO A e.i j then(l[j]?).bind (·.dst)else none}=true:=by
 unfold Xfv at f;rw[WI,W0]at f;have g:(mkF l A aux).length=l.length:=by unfold mkF;rw[Ug,Xpw]
 refine⟨f.1,?_,?_,g,λe h=>⟨(Xin e h).2,f.2 _ (WO.2 ⟨e,h,rfl⟩)⟩⟩
 .unfold mkF;rw[Og];exact Xji
 rw[g,List.range_eq_range'];unfold mkF;rw[Og];exact Xmk
def DrawnG.auto(n:Nat)(g:P.follows .mixedOrders=true)(p:Xfv l (XaQ l []) aux=true)(h:dr P C ⟨l⟩ st.k (mkS 0 l aux) st λf=>run P C R n k ⟨f.t,f.s,f.n,st.k+l.length⟩)(t:Prf (⟨l⟩:Array Oper))(hrd:C.rd=none:=by rfl):DrawnG P C R id ⟨l⟩ k st t:=by have⟨q,r,v,z,A⟩:=Xjk p;exact DrawnG.of g _ n r v q (by rw[z];exact Xcz A h) t hrd
def OO(n m:Nat)(o:Oper)(A:P.follows .mixedOrders=true)(p:(Xfv l (XaQ l []) aux&&(Xpn (mkF l (XaQ l []) aux)&&(Xda m (mkF l (XaQ l []) aux)&&Xda (m+1) (mkF l (XaQ l []) aux))))=true)(B:l[m]? = some o)(q:o.guard=none)(h:dr P C ⟨l⟩ st.k ((mkS 0 l aux).take m) st λf=>Xfu P C (ZR o.op) o.dst ⟨f.t,f.s,f.n,st.k+m⟩ (λg=>dr P C ⟨l⟩ g.k ((mkS 0 l aux).drop (m+1)) g λf=>run P C R n k ⟨f.t,f.s,f.n,g.k+l.length⟩) trivial)(t:Prf (⟨l⟩:Array Oper))(hrd:C.rd=none:=by rfl):DrawnG P C R id ⟨l⟩ k st t:=by rw[WI]at p;have⟨E,G,H,v,z⟩:=Xjk p.1;refine OS A (mkF l (XaQ l []) aux) n m o G H (by rw[E,p.2];rfl) B q ?_ t hrd;unfold mkF at v⊢;rw[v,←List.map_take];refine Xcz (λe r=>z e (WS r)) (Xjj (λf h=>?_) h);refine XkQ (λg h=>?_) h;rw[←List.map_drop];exact Xcz (λe r=>z e (WT r)) h
end
attribute [go_sem] mkS
attribute [go_sem ↓] Xo0 XlU Xo1 XlV Xrg XlW Xo2 XlX XkA XlY XkB XkC Xo3 XlZ Xie XkD XgG XgH XkI
attribute [go_sem] XgI XkE XkF XkG XkH Xl0 Xo4 Xo5 Xif Xl1 Xig Xih Xii XgJ XgK XgL Xcx XgM Xsv Xsw Xsx Xrh Xsy Xsz XsA XsB XsC Xri Xo7 XsD XgF XgA Xo6 Xt4 Xt5 Xt6 Xst Xsu Xt7 XsE XsF XsG XsH ZL Y7 Ku XkJ Jr Xrn Xro Xrp Xrq
attribute [go_sem] XcV Xh1 Xfe Xei XcW XcX Xh2 Option.isSome_some Option.isSome_none Option.isNone_some Option.isNone_none
attribute [go_sem] undef ZR callee opF ev ofV XlB okV XS Xcc XlC ivD ivO Xfc JU elems Jm XcT XcU Kr D.cells D.one Value.oneCell' OD.isAgg OD.isIface KY Xeh XaI XaJ snap ZS VM Xa4 Xeg Zl ZP lend Jp pos ZT aft scal JY VR imp VK JM XgE XlT Xid shut Xce Xba XoY Yo Xfd XC
attribute [go_sem] Uu IL UH Ij List.getElem?_cons_zero Ig List.getElem?_nil If Option.getD_none Oh Ic IZ U8 true_and and_true ne_eq false_implies Un UG Ug WM W6 WL Int.toNat_natCast Wc Wa Wi Ui if_true if_false ite_true ite_false Iq List.isEmpty_nil List.isEmpty_cons Bool.and_true Bool.and_false Uc UJ Ib Ue List.cons_append List.getD_cons_zero List.getD_cons_succ W3 List.drop_succ_cons List.take_succ_cons Oq List.head?_cons List.headD_cons I5 List.all_nil IF List.set_cons_succ Ia List.not_mem_nil or_false or_true false_or not_false_eq_true not_true_eq_false List.nodup_nil On implies_true forall_const decide_true decide_false and_self Xrj Xrk Xo8 Xo9 Xpa Xpb Xpc Xpd Xrl Xrm Xpe Xpf Xpg Xph Xpi Xpj List.replicate_succ List.replicate_zero
variable {P:Program}
def XpA(n:Int):IntKind.wrap .i64 n=wI n:=rfl
def XpB(n:Int):IntKind.wrap .u64 n=wU n:=rfl
def XpC(n:Int):IntKind.wrap .u32 n=wW n:=rfl
section
variable {k k':IntKind}{a b:Int}{T:Nat}{p q:Bool}{xs ys:List D}
def Xml:YY P .add T (.v (.int k a)) (.v (.int k b))=some (True,.v (.int k (k.wrap (a+b)))):=by simp[YY,VJ]
def Xmm:YY P .sub T (.v (.int k a)) (.v (.int k b))=some (True,.v (.int k (k.wrap (a-b)))):=by simp[YY,VJ]
def Xmn:YY P .mul T (.v (.int k a)) (.v (.int k b))=some (True,.v (.int k (k.wrap (a*b)))):=by simp[YY,VJ]
def Xmo:YY P .quo T (.v (.int k a)) (.v (.int k b))=some (b≠0,.v (.int k (k.wrap (a.tdiv b)))):=by simp[YY,VJ]
def Xmp:YY P .rem T (.v (.int k a)) (.v (.int k b))=some (b≠0,.v (.int k (a.tmod b))):=by simp[YY,VJ]
def Xmq:YY P .and T (.v (.int k a)) (.v (.int k b))=some (True,.v (.int k (Zu k a b))):=by simp[YY,VJ,Zu]
def XpD:YY P .or T (.v (.int k a)) (.v (.int k b))=some (True,.v (.int k (bOr k a b))):=by simp[YY,VJ,bOr]
def Xmr:YY P .xor T (.v (.int k a)) (.v (.int k b))=some (True,.v (.int k (Xq8 k a b))):=by simp[YY,VJ,Xq8]
def XgR:YY P .andNot T (.v (.int k a)) (.v (.int k b))=some (True,.v (.int k (Xcw k a b))):=by simp[YY,VJ,Xcw]
def Xms:YY P .eql T (.v (.int k a)) (.v (.int k b))=some (True,.v (.bool (a==b))):=by simp[YY,VJ]
def Xmt:YY P .neq T (.v (.int k a)) (.v (.int k b))=some (True,.v (.bool (a != b))):=by simp[YY,VJ]
def Xmu:YY P .lss T (.v (.int k a)) (.v (.int k b))=some (True,.v (.bool (a<b))):=by simp[YY,VJ]
def Xmv:YY P .leq T (.v (.int k a)) (.v (.int k b))=some (True,.v (.bool (a<=b))):=by simp[YY,VJ]
def Xmw:YY P .gtr T (.v (.int k a)) (.v (.int k b))=some (True,.v (.bool (a>b))):=by simp[YY,VJ]
def Xmx:YY P .geq T (.v (.int k a)) (.v (.int k b))=some (True,.v (.bool (a>=b))):=by simp[YY,VJ]
def Xmy:YY P .shl T (.v (.int k a)) (.v (.int k' b))=some (0<=b,.v (.int k (Kj k a b))):=by rfl
def Xmz:YY P .shr T (.v (.int k a)) (.v (.int k' b))=some (0<=b,.v (.int k (YL k a b))):=by rfl
def isB:Option OD->Option (Prop×D)->Option (Prop×D)
 |some ⟨_,_,_,.bool⟩,x=>x
 |_,_=>none
def XsK{x y:Nat}{z:Value}{r:Option (Prop×D)}:isB (some ⟨x,y,z,.bool⟩) r=r:=rfl
def XmA:YY P .eql T (.v (.bool p)) (.v (.bool q))=isB (Xr P T) (some (True,.v (.bool (p==q)))):=by simp only[YY];unfold isB;grind
def XmB:YY P .neq T (.v (.bool p)) (.v (.bool q))=isB (Xr P T) (some (True,.v (.bool (!(p==q))))):=by simp only[YY];unfold isB;grind
def eqA(neg:Bool):Option (List (Option IntKind))->List D->List D->Option (Prop×D)
 |some f,xs,ys=>(Yo f xs ys).map λb=>(True,.v (.bool (bif neg then !b else b)))
 |none,_,_=>none
def XmC{neg:Bool}{f:List (Option IntKind)}:eqA neg (some f) xs ys=(Yo f xs ys).map λb=>(True,.v (.bool (bif neg then !b else b))):=rfl
def XmD:YY P .eql T (.agg xs) (.agg ys)=eqA false (YR P T) xs ys:=by
 simp only[YY];cases YR P T with
 |none=>rfl
 |some f=>simp only[eqA];cases Yo f xs ys<;>rfl
def XmE:YY P .neq T (.agg xs) (.agg ys)=eqA true (YR P T) xs ys:=by
 simp only[YY];cases YR P T with
 |none=>rfl
 |some f=>simp only[eqA];cases Yo f xs ys<;>rfl
end
def XkR{c:Prop}[Decidable c]{x y:Option (Prop×D×Up)}{dst:Option Nat}{m j:Nat}{f:Option Nat->D->Up->Nat->Nat->Prop}{t':Prf (if c then x else y)}:Xca (if c then x else y) dst m j f t'=(if c then Xca x dst m j f trivial else Xca y dst m j f trivial):=by grind
def XpE{c:Prop}[Decidable c]{x y:Option (Prop×D×Up)}:kd1 (if c then x else y)=(if c then kd1 x else kd1 y):=by grind
def XpF{C:Cx}{e:En}{ver:Nat}{s:Heap}{c:Prop}[Decidable c]{x y:Option Kd}{st:St}{F:St->Prop}{t':Prf (if c then x else y)}:doT P C e ver s (if c then x else y) st F t'=(if c then doT P C e ver s x st F trivial else doT P C e ver s y st F trivial):=by grind
def XmF{α β:Type}{c:Prop}[Decidable c]{f:α->β}{x y:Option α}:Option.map f (if c then x else y)=if c then Option.map f x else Option.map f y:=by split<;>rfl
def XqO{c a b:Prop}[Decidable c](f:c->a)(g:¬c->b):if c then a else b:=by simp_all
def Eqs(e:D)(ls:List Ob)(d:D)(os:List Ob):Prop:=d=e/\os=ls
def XrD{e:D}{ls:List Ob}:∃d os,Eqs e ls d os:=⟨_,_,rfl,rfl⟩
def Xx{a b:Prop}(h:a)(f:b):a/\b:=⟨h,f⟩
def XmG{α:Type}{l:List α}{n:Nat}(h:l.length<=n):l.take n=l:=Uf h
def XmH{C:Cx}{R:St->Prop}{c:Code}{k:List It}{st:St}{α β:Type}{o:Option α}{f:α->Option β}{r:β}{I:(α->Prop)->Nat->St->Prop}(z:bnd o f=some r)(m n:Nat)(A:∀g,o=some g->f g=some r->I (λy=>f y=some r) n st)(round:∀n st,I (λy=>f y=some r) n st->run P C R m (.code c::.stop (λh=>∃v,v<n/\I (λy=>f y=some r) v h)::k) st)(t':Prf c):LoopG P C R c k st t':=
 Xa3 z λg B E=>LoopG.of (I (λy=>f y=some r)) m n (A g B E) round t'
def Xfw{α:Type}{x:α}{l:List α}{n:Nat}:List.take (1+n) (x::l)=x::List.take n l:=by grind
def CallG.ofE{G:Nat->Option (List D)}{f:FuncId}{args eargs:List D}{obs ls:List Ob}{e:D}{K:D->List Ob->Prop}(h:YZ P G f eargs obs (Eqs e ls))(g:Z4 args eargs)(hK:K e ls)(t':Prf args):CallG P G f args obs K t':=
 CallG.of h g (λ_ _ ⟨r,v⟩=>r▸v▸hK) t'
def CallD.ofE{G:Nat->Option (List D)}{f:FuncId}{args eargs:List D}{obs ls:List Ob}{e:D}{K:D->List Ob->Prop}(h:YZ P G f eargs obs (Eqs e ls))(g:Z4 args eargs)(hK:K e ls)(t':Prf args):CallD P G f args obs K t':=
 CallD.of h g XrD (λ_ _ ⟨r,v⟩=>r▸v▸hK) t'
def XT{d e:D}{obs ls:List Ob}(h:fitsR d e/\obs=ls):RetG d obs (Eqs e ls):=⟨_,h.1,rfl,h.2⟩
def XrE{a c:Nat}{b d:Ob}:(some (a,b)=some (c,d))=(a=c/\b=d):=by simp
def XsL{a b:D}{l m:List D}:(a::l=b::m)=(a=b/\l=m):=by simp
def XrF{a b:List D}{l m:List (List D)}:(a::l=b::m)=(a=b/\l=m):=by simp
def XrG{a b:Ob}{l m:List Ob}:(a::l=b::m)=(a=b/\l=m):=by simp
attribute [go_sem] fits Z4 fitsR Vo XsL XrF XrG XrE D.osl.injEq D.ept.injEq Ob.arr.injEq exists_eq_left' exists_eq_left exists_eq exists_eq' exists_and_left exists_const or_self true_or or_true false_or or_false false_and and_false eq_self
attribute [go_sem] XmF XkR XpE XpF Xfw Nat.sub_zero XmG XpA XpB XpC Xml Xmm Xmn Xmo Xmp Xmq XpD Xmr XgR Xms Xmt Xmu Xmv Xmw Xmx Xmy Xmz XmA XmB XsK XmC XmD XmE UO List.map_set List.map_take List.map_drop List.map_replicate
end Go.Sx
