import Derived.Test.YtokkmapiallffaaGreatDoorKD
set_option linter.all false
namespace Go.Sx
def X0(v:Int):U3×Int:=
 if v=0 then(⟨0,0,0⟩,5)else if 1<=v % 4/\1<=v / 262144/\v / 262144<=4294967295 then(⟨v % 4,v / 4 % 65536,v / 262144⟩,0)else(⟨0,0,0⟩,6)
def XdU{N:Nat}{v:Int}(g:tU v):QcF N v=some (X0 v):=by
 have⟨f,j⟩:=g;rw[QcF,X0];by_cases k:v=0
 .simp_all
 rw[show(v==0)=false by simp_all,Wa,Wj k];have o:Y6 .u64 v 3=v % 4:=Yu v 2 ab f j;have p:Yy .u64 v 2=v / 4:=YA v 2 ab f;have q:Y6 .u64 (v / 4) 65535=v / 4 % 65536:=Yu (v / 4) 16 ab ab ab;have r:Yy .u64 v 18=v / 262144:=YA v 18 ab f;rw[p,o,q,r,Xe (n:=v % 4) ab ab,Xe (n:=v / 4 % 65536) ab ab,Xe (n:=v / 262144) ab ab,Qcb,Qhc];have s:∀x:Int,Ke .u64 x 2=wU (x*4):=λ_=>rfl;have u:∀x:Int,Ke .u64 x 18=wU (x*262144):=λ_=>rfl;rw[Wg (show v / 4 % 65536>=0 by omega),Wg (show v / 4 % 65536<=65535 by omega),Wg (show v % 4<=3 by omega)];simp only[Wc];by_cases g1:v % 4>=1
 .rw[Wg g1,Wc];by_cases g2:v / 262144>=1
  .rw[Wg g2,Wc,Xa];by_cases g3:v / 262144<=4294967295
   .rw[Wg g3,Wi,Wa,Xa,Wm ⟨g1,g2,g3⟩];have e:wU (wU (wU (v % 4)+Ke .u64 (wU (v / 4 % 65536)) 2)+Ke .u64 (wU (v / 262144)) 18)=v:=by rw[s,u,Xt (n:=v % 4) ab ab,Xt (n:=v / 4 % 65536) ab ab,Xt (n:=v / 262144) ab ab,Xt (n:=v / 4 % 65536*4) ab ab,Xt (n:=v / 262144*262144) ab ab,Xt (n:=v % 4+v / 4 % 65536*4) ab ab,Xt ab ab];omega
    simp_all
   rw[We g3,Ub,Wc,Xa,Wj (λh=>g3 h.2.2)];rfl
  rw[We g2,Wa,Xa,Ub,Wc,Xa,Wj (λh=>g2 h.2.1)];rfl
 rw[We g1,Wa,Xa,Ub,Wc,Xa,Wj (λh=>g1 h.1)];rfl
def Z2(w:WO)(v:Int):Int×Int:=
 if v=0 then(0,0)else if(X0 v).2≠0 then(0,(X0 v).2)else
 if(X0 v).1.Tag=1 then X9 w.l (X0 v).1.Index (X0 v).1.J else
 if(X0 v).1.Tag=2 then X6 w.g.e (X0 v).1.Index (X0 v).1.J else X6 w.v.e (X0 v).1.Index (X0 v).1.J
def XG(w:WO)(a:Int):Int×Int:=if(Z2 w a).2=0/\(Z2 w a).1=0 then(0,5)else Z2 w a
structure WF(w:WO):Prop where
 conf:XU w.c=true
 loc:Ym w.l=true
 glo:Yh w.g.e=true
 wea:Yh w.v.e=true
 m64:w.m.length<=64
 thing:∀x∈w.T,XC x.H=true/\x.H.k≠0/\(x.D.length:Int)=x.H.n/\∀r∈Xfh x,r<=w.T.length
 mark:Xgh w.T.length w.m=true
 roots:∀r∈w.R,r<=w.T.length
 rloc:∀r∈XA w.l.S,r<=w.T.length
 rglo:∀r∈Xr w.g.e,r<=w.T.length
 rwea:∀r∈Xr w.v.e,r<=w.T.length
def Jr{n:Nat}{l:List Int}:ZU n l=true↔∀r∈l,r<=n:=by unfold ZU;simp
def Jb{w:WO}(h:YI w=true):WF w:=by unfold YI at h;simp only[WH,Ic,Ix]at h;have⟨j,k,o,p,v,q,y,r,s,e,f,g⟩:=h;refine⟨j,k,o,p,ab,λx u=>?_,r,Jr.1 s,Jr.1 e,Jr.1 f,Jr.1 g⟩;have:=(WV.1 q) x u;unfold XdS at this;simp at this;exact⟨this.1,this.2.1,this.2.2.1,Jr.1 this.2.2.2⟩
def WF.mk_{w:WO}(h:WF w){k:Nat}{m:IC}(e:w.m[k]? = some m):1<=m.I/\m.I<=w.T.length/\1<=m.M/\m.M<=1000:=by have:=(Y8 w.m () 0).1 h.mark k m e;unfold Xkp at this;simp_all
def XlM{l:List UH}{p:UH}(hp:p∈l)(e:p.V=true):p.a∈XA l:=by unfold XA;grind
def XlN{l:List W6}{p:W6}(hp:p∈l)(e:p.V=true):p.a∈Xr l:=by unfold Xr;grind
def Xjf(a:Wq)(i g:Int):(X9 a i g).2=0\/(X9 a i g).1=0:=by
 unfold X9;split
 .exact .inr rfl
 split
 .exact .inr rfl
 split
 .exact .inr rfl
 split
 .exact .inr rfl
 split
 .exact .inr rfl
 split
 .exact .inr rfl
 split
 .exact .inl rfl
 omega
def Xjg(l:List W6)(i g:Int):(X6 l i g).2=0\/(X6 l i g).1=0:=by unfold X6;grind
def XqG{w:WO}(h:WF w)(v:Int):(Z2 w v).1<=w.T.length:=by
 have g:∀i g,(X9 w.l i g).1<=w.T.length:=by
  intro i g;by_cases f:(X9 w.l i g).2=0
  .have⟨_,_,p,hp,_,j,e⟩:=XaD f;rw[e];exact h.rloc _ (XlM (W5 hp) j)
  have:=(Xjf w.l i g).resolve_left f;omega
 have t:∀(t:WD),(∀r∈Xr t.e,r<=w.T.length)->∀i g,(X6 t.e i g).1<=w.T.length:=by
  intro t ht i g;by_cases f:(X6 t.e i g).2=0
  .have⟨_,_,p,hp,_,j,e⟩:=J9 f;rw[e];exact ht _ (XlN (W5 hp) j)
  have:=(Xjg t.e i g).resolve_left f;omega
 unfold Z2;split
 .simp
 split
 .simp
 split
 .simp_all
 split
 .exact t _ h.rglo _ _
 exact t _ h.rwea _ _
section
variable {N:Nat}{w:WO}{k:Nat}
def JJ(hw:WB k w)(hN:1000000<N)(h:YI w=true){v:Int}(j:tU v):QaH N w v=some (Z2 w v):=by
 rw[QaH,XcX hw hN,Xa,h,Wi,Wa,Z2];by_cases e:v=0
 .rw[Wm e,e];rfl
 rw[Wj e,show(v==0)=false by simpa using e,Wa,XdU j,Xa];by_cases o:(X0 v).2=0
 .rw[o,show((0:Int) != 0)=false from rfl,Wa,Wj ac];by_cases f:(X0 v).1.Tag=1
  .rw[Wm f,f,show((1:Int)==1)=true from rfl,Wc,XaC hw.loc hN,Xa]
  rw[Wj f,show((X0 v).1.Tag==1)=false by simpa using f,Wa];by_cases g:(X0 v).1.Tag=2
  .rw[Wm g,g,show((2:Int)==2)=true from rfl,Wc,KY hw.glo hN,Xa]
  rw[Wj g,show((X0 v).1.Tag==2)=false by simpa using g,Wa,KY hw.wea hN,Xa]
 grind
def XbD(hw:WB k w)(hN:1000000<N)(e:YI w=true){v:Int}(f:tU v):Qes N w v=some (XG w v):=by rw[Qes,JJ hw hN e f,Xa,XG];grind
end
def zTh:UY:=⟨⟨0,0,0⟩,[]⟩
def thg(w:WO)(id:Int):UY:=w.T.getD (id-1).toNat zTh
def JK(a:Wq)(id:Int):Int:=if id=0 then 0 else(ZY a id).2.2.2
def okW(op a b:Int):Prop:=a<=2147483647/\(op=1->b<=4294967295)
instance(op a b:Int):Decidable (okW op a b):=by unfold okW;infer_instance
def hdW(op a b:Int):Wy:=⟨op,a,if op=1 then b else 0⟩
def XcC(c:WP)(d:Wy):Bool:=XC d&&(d.k != 0&&Xx c (XB d) != -1)
def XbE(w:WO)(op a b:Int)(failed:Bool):Int:=
 if w.m.length>0 then 15 else if¬okW op a b then 1 else if XcC w.c (hdW op a b)=false then 1 else
 if JK w.l 1≠0 then JK w.l 1 else if failed then 3 else 0
def XdV(op:Int):Bool:=op==8||op==9
def XcY(w:WO)(op a b c:Int):Int:=
 if(XG w a).2≠0 then(XG w a).2 else if b>=(thg w (XG w a).1).H.n then 2 else
 if Kg (thg w (XG w a).1).H b≠XdV op then 4 else
 if op=8 then JK w.l ((thg w (XG w a).1).D.getD b.toNat 0)else if op=9 then(Z2 w c).2 else 0
def XdW(w:WO)(op a:Int):Int:=
 if a=0 then 5 else if(Z2 w a).2≠0 then(Z2 w a).2 else
 if(X0 a).1.Tag≠(if op=16 then 3 else if op=14 then 2 else 1)then 4 else 0
def Xjh(w:WO)(op a:Int):Int:=
 if(XG w a).2≠0 then(XG w a).2 else(Zx (if op=15 then w.v else w.g) (XG w a).1).2.2.2
def Xgj(w:WO)(op a:Int):Int:=
 if op=17 then(if a>64 then 1 else(KA w.l a).2)else
 if(Z2 w a).2≠0 then(Z2 w a).2 else if(Zo w.l).2≠0 then(Zo w.l).2 else JK (Zo w.l).1 (Z2 w a).1
def XhN(l:List IC)(i:Int):IC:=l.getD i.toNat ⟨0,0,0⟩
def Xkr(w:WO)(op a:Int)(failed:Bool):Int:=
 if(XG w a).2≠0 then(XG w a).2 else
 if op=20 then(if ZK w.m (XG w a).1<0 then 12 else 0)else
 if 0<=ZK w.m (XG w a).1/\(XhN w.m (ZK w.m (XG w a).1)).M=1000 then 18 else
 if ZK w.m (XG w a).1<0/\w.m.length=64 then 18 else if failed then 18 else 0
def XdX(w:WO)(op a b:Int):Int:=
 if op=4\/op=5 then(XG w a).2 else if(Z2 w a).2≠0 then(Z2 w a).2 else
 if op=10 then(Z2 w b).2 else JK w.l (Z2 w a).1
def XnU(w:WO)(op a b c:Int)(failed:Bool):Int:=
 if YI w=false then 19 else
 if op=1\/op=2\/op=3 then XbE w op a b failed else
 if op=6\/op=7\/op=8\/op=9 then XcY w op a b c else
 if op=12\/op=14\/op=16 then XdW w op a else
 if op=13\/op=15 then Xjh w op a else
 if op=17\/op=18 then Xgj w op a else
 if op=19\/op=20 then Xkr w op a failed else
 if op=4\/op=5\/op=10\/op=11 then XdX w op a b else 1
def Xj{a b:Int}(h:¬a=b):(a==b)=false:=by simp_all
def Xp{a b:Int}(h:a=b):(a==b)=true:=by simp_all
def Z1{a b:Int}(h:a=b):(a != b)=false:=by simp_all
def Xk{a b:Int}(h:¬a=b):(a != b)=true:=by simp_all
section
variable {N:Nat}{w:WO}{k:Nat}
def XqH(hw:WB k w)(f:YI w=true)(tw:XM w){v:Int}(e:tU v):tU (Z2 w v).1:=by have:=QiT (N:=1000001) tw e;exact this _ (JJ (N:=1000001) hw ab f e)
def Xfi(hw:WB k w)(e:YI w=true)(tw:XM w){v:Int}(f:tU v)(h:(XG w v).2=0):1<=(XG w v).1/\(XG w v).1<=w.T.length/\XG w v=Z2 w v:=by
 have g:=XqH hw e tw f;have j:=XqG (Jb e) v;unfold XG at h⊢;by_cases o:(Z2 w v).2=0/\(Z2 w v).1=0
 .simp_all
 unfold tU at g;grind
def Jz(hw:WB k w){id:Int}(g:1<=id)(h:id<=w.T.length):Xd w.T (wU (id-1))=some (thg w id)/\thg w id∈w.T:=by
 have j:=hw.kk;have ht:=hw.things;have e:=Wb (show(id-1).toNat<w.T.length by omega);have f:thg w id=w.T[(id-1).toNat]'ab:=by unfold thg;rw[Wk,e];rfl
 rw[Xt ab ab,X1 ab ab,f];simp
def Vv(e:LBp w.l)(hN:1000000<N)(id:Int):Qc5 N w.l id=some (JK w.l id):=by
 rw[Qc5,JK];by_cases h:id=0
 .rw[Wm h,h];rfl
 simp[Wj,h,Xj,Wa,XaB,e,hN,Xa]
def XhO{a:Wq}(e:LBp a)(hN:1000000<N)(id:Int):Qc5 N a id=some (JK a id):=Vv (w:=⟨⟨0,0⟩,[],a,zT,zT,[],[]⟩) e hN id
def XdY(op:Int){a b:Int}(ta:tU a)(tb:tU b):∃d,QcD N op a b=some (d,decide (okW op a b))/\(okW op a b->d=hdW op a b):=by
 unfold tU at ta tb;have f:a<=2147483647->wI (Y6 .u64 a 2147483647)=a:=λh=>by have:Y6 .u64 a 2147483647=a % 2147483648:=Yu a 31 ab ta.1 ta.2;rw[this,Xe ab ab];omega
 rw[QcD];by_cases g:op=1
 .rw[Xp g,Wc];by_cases j:a<=2147483647
  .rw[Wg j,Wc];refine⟨⟨op,wI (Y6 .u64 a 2147483647),wW b⟩,?_,λh=>?_⟩
   .exact congrArg (λx=>some (_,x)) (decide_eq_decide.2 ⟨λh=>⟨j,λ_=>h⟩,λh=>h.2 g⟩)
   rw[f j,XrF ab (by have:=h.2 g;omega),hdW,Wm g]
  rw[We j,Wa];refine⟨⟨op,wI (Y6 .u64 a 2147483647),wW b⟩,?_,λh=>absurd h.1 j⟩;rw[We (show¬okW op a b fromλh=>j h.1)]
 rw[Xj g,Wa];refine⟨⟨op,wI (Y6 .u64 a 2147483647),0⟩,?_,λh=>?_⟩
 .exact congrArg (λx=>some (_,x)) (decide_eq_decide.2 ⟨λh=>⟨h,λe=>absurd e g⟩,λh=>h.1⟩)
 rw[f h.1,hdW,Wj g]
def Xks(hN:10<=N)(c:WP)(d:Wy):Qdd N c d=some (XcC c d):=by rw[Qdd,ZD,Xa,XcC,XQ,Xa,KX hN,Xa];grind
def Xji(hw:WB k w)(hN:1000000<N)(op:Int){a b:Int}(ta:tU a)(tb:tU b)(f:Bool):QfI N w op a b f=some (XbE w op a b f):=by
 have⟨d,hd,g⟩:=XdY (N:=N) op ta tb;rw[QfI,XbE];by_cases j:w.m.length>0
 .rw[Wg (show(w.m.length:Int)>0 by omega),Wc,Wm j]
 rw[We (show¬(w.m.length:Int)>0 by omega),Wa,Wj j,hd,Xa];by_cases h:okW op a b
 .rw[Wg h,Wi,Wa,Wj (by simpa using h),Xks ab,Xa,g h];cases o:XcC w.c (hdW op a b)
  .rfl
  rw[Wi,Wa,Wj ac,Vv hw.loc hN,Xa];by_cases e:JK w.l 1=0
  .rw[Z1 e,Wa,Wj (by simpa using e)];cases f<;>rfl
  rw[Xk e,Wc,Wm e]
 simp_all
def XlO(hw:WB k w)(hN:1000000<N)(e:YI w=true)(tw:XM w)(op:Int){a b c:Int}(ta:tU a)(tb:tU b)(tc:tU c):Qf9 N w op a b c=some (XcY w op a b c):=by
 rw[Qf9,XbD hw hN e ta,Xa,XcY];by_cases g:(XG w a).2=0;rotate_left
 .grind
 have⟨q,r,_⟩:=Xfi hw e tw ta g;have⟨g1,g2⟩:=Jz hw q r;have⟨s,B,E,G⟩:=(Jb e).thing _ g2;have vb:=XD s;unfold tU at tb;rw[Z1 g,Wa,Wj ab,g1,Xa,Xt (n:=(thg w (XG w a).1).H.n) ab ab];by_cases h:b>=(thg w (XG w a).1).H.n
 .simp_all
 rw[We h,Wa,Wj h,Xe (n:=b) ab ab];have key:∀x:Bool,x=XdV op->(bnd (Qby N (thg w (XG w a).1).H b) λu=>
  bif (!(u==x))then some 4
  else bif (op==8)then(bnd (Xd (thg w (XG w a).1).D b) λv=>
   bnd (Qc5 N w.l v) λy=>
   some y)
  else bif (op==9)then(bnd (QaH N w c) λz=>
   some z.2)
  else some (XG w a).2)=some (if Kg (thg w (XG w a).1).H b≠XdV op then 4 else
 if op=8 then JK w.l ((thg w (XG w a).1).D.getD b.toNat 0)else if op=9 then(Z2 w c).2 else 0):=by
  intro x A
  subst A
  rw[KV,Xa]
  by_cases j:Kg (thg w (XG w a).1).H b=XdV op
  .rw[show(Kg (thg w (XG w a).1).H b==XdV op)=true by simpa using j,Wi,Wa,Wj (by simpa using j)]
   by_cases f:op=8
   .rw[Xp f,Wc,Wm f,X1 ab ab,Xa,Vv hw.loc hN,Xa,Wk,Wb ab];rfl
   rw[Xj f,Wa,Wj f]
   by_cases o:op=9
   .rw[Xp o,Wc,Wm o,JJ hw hN e tc,Xa]
   grind
  .grind
 rw[Xv];cases p:(op==8)
 .have:=key (op==9) (by unfold XdV;rw[p,Iu]);grind
 have:=key true (by unfold XdV;rw[p,Bool.true_or]);simp_all
def Xjj(hw:WB k w)(hN:1000000<N)(g:YI w=true)(op:Int){a:Int}(ta:tU a):QfJ N w op a=some (XdW w op a):=by
 rw[QfJ,XdW];by_cases e:a=0
 .rw[Xp e,Wc,Wm e]
 rw[Xj e,Wa,Wj e,JJ hw hN g ta,Xa];by_cases f:(Z2 w a).2=0;rotate_left
 .rw[Xk f,Wc,Wm f]
 rw[Z1 f,Wa,Wj (by simpa using f),XdU ta,Xa,Xv];grind
def XnV(hw:WB k w)(hN:1000000<N)(g:YI w=true)(op:Int){a:Int}(ta:tU a):Qgw N w op a=some (Xjh w op a):=by
 rw[Qgw,XbD hw hN g ta,Xa,Xjh];by_cases e:(XG w a).2=0;rotate_left
 .rw[Xk e,Wc,Wm e]
 rw[Z1 e,Wa,Wj (by simpa using e),Xv];by_cases f:op=15
 .rw[Wm f,Xp f,Wc];show bnd (QcV N w.v (XG w a).1) _=_;rw[Jy hw.wea hN,Xa]
 simp[Wj,f,Xj,Wa,Jy,hw.glo,hN,Xa]
def XlP(hw:WB k w)(hN:1000000<N)(g:YI w=true)(op:Int){a:Int}(ta:tU a):Qga N w op a=some (Xgj w op a):=by
 rw[Qga,Xgj];by_cases e:op=17
 .rw[Xp e,Wc,Wm e];by_cases f:a>64
  .simp_all
  unfold tU at ta;rw[We f,Wa,Wj f,Xe (n:=a) ab ab,XbA hw.loc hN,Xa]
 rw[Xj e,Wa,Wj e,JJ hw hN g ta,Xa];by_cases f:(Z2 w a).2=0;rotate_left
 .grind
 rw[Z1 f,Wa,Wj ab,XcW hw.loc hN,Xa];by_cases h:(Zo w.l).2=0;rotate_left
 .grind
 rw[Z1 h,Wa,Wj ab,XhO (Xgg hw.loc) hN,Xa]
def Xb9{l:List IC}{id:Int}(h:0<=ZK l id):ZK l id<l.length/\Xd l (ZK l id)=some (XhN l (ZK l id))/\(XhN l (ZK l id)).I=id:=by
 unfold ZK at h⊢;cases e:l.findIdx? (λm=>m.I==id)with
 |none=>simp_all
 |some j=>have f:=UJ.1 e;have⟨g,hp,_⟩:=f;simp_all[Xf,XhN,Wk,Int.toNat_natCast,Wb,g]
def XlQ(hw:WB k w)(hN:1000000<N)(p:YI w=true)(op:Int){a:Int}(ta:tU a)(f:Bool):QgV N w op a f=some (Xkr w op a f):=by
 have r:=hw.marks;rw[QgV,XbD hw hN p ta,Xa,Xkr];by_cases g:(XG w a).2=0;rotate_left
 .rw[Xk g,Wc,Wm g]
 rw[Z1 g,Wa,Wj (by simpa using g),Xgi ab hN,Xa];by_cases j:op=20
 .rw[Xp j,Wc,Wm j];by_cases e:ZK w.m (XG w a).1<0
  .rw[Wg e,Wc,Wm e]
  rw[We e,Wa,Wj e]
 rw[Xj j,Wa,Wj j];by_cases e:0<=ZK w.m (XG w a).1
 .have⟨s,q,u⟩:=Xb9 e;rw[Wg (show ZK w.m (XG w a).1>=0 from e),Wc,q,Xa,We (show¬ZK w.m (XG w a).1<0 by omega),Wa];rw[Wj (show¬(ZK w.m (XG w a).1<0/\w.m.length=64) by omega)];by_cases o:(XhN w.m (ZK w.m (XG w a).1)).M=1000
  .rw[Xp o,Wc,Wm ⟨e,o⟩]
  rw[Xj o,Wa,Wj (λh=>o h.2)];cases f<;>rfl
 grind
def XnW(hw:WB k w)(hN:1000000<N)(g:YI w=true)(op:Int){a b:Int}(ta:tU a)(tb:tU b):Qgx N w op a b=some (XdX w op a b):=by
 rw[Qgx,XdX,Xv,XbD hw hN g ta,Xa];by_cases h:op=4
 .rw[Xp h,Wc,Wm (.inl h)]
 rw[Xj h,Wa];by_cases j:op=5
 .rw[Xp j,Wc,Wm (.inr j)]
 rw[Xj j,Wa,Wj ab,JJ hw hN g ta,Xa];by_cases f:(Z2 w a).2=0;rotate_left
 .rw[Xk f,Wc,Wm f]
 rw[Z1 f,Wa,Wj (by simpa using f)];by_cases e:op=10
 .rw[Xp e,Wc,Wm e,JJ hw hN g tb,Xa]
 simp[Xj,e,Wa,Wj,Vv,hw.loc,hN,Xa]
end
def XrJ{β:Type}(K:Bool->β)(c1 e:Bool):(jn K λj=>bif c1 then j true else j e)=K (c1||e):=by grind[Xv]
def b2(op a b:Int):(op==a||op==b)=decide (op=a\/op=b):=by grind
def bd(op a:Int)(p:Prop)[Decidable p]:(op==a||decide p)=decide (op=a\/p):=by grind
def XrK{β:Type}{p:Prop}[Decidable p](x y:β):(bif decide p then x else y)=if p then x else y:=by simp
def XqI{β:Type}(o:Option β):(bnd o λy=>some y)=o:=by
 cases o
 .exact Kq _
 exact Xa _ _
def XqJ{β:Type}{p:Prop}[Decidable p](x y:β):(if p then some x else some y)=some (if p then x else y):=by grind
section
variable {N:Nat}{w:WO}{k:Nat}
def XsF(hw:WB k w)(hN:1000000<N)(tw:XM w)(op:Int){a b c:Int}(ta:tU a)(tb:tU b)(tc:tU c)(f:Bool):QfK N w op a b c f=some (XnU w op a b c f):=by
 rw[QfK,XcX hw hN,Xa,XnU];cases e:YI w
 .rfl
 rw[Wi,Wa,Wj ac];simp only[XrJ,XqI,Xji hw hN op ta tb f,XlO hw hN e tw op ta tb tc,Xjj hw hN e op ta,XnV hw hN e op ta,XlP hw hN e op ta,XlQ hw hN e op ta f,XnW hw hN e op ta tb,b2,bd,XrK,XqJ]
end
def Xca(d:Wy):∀(k:Nat) (l:List Int),∀r∈V4 d k l,r∈l
 |k,[],r,h=>by assumption
 |k,f::e,r,h=>by
  unfold V4 at h;split at h
  .rcases Ig.1 h with h|h
   .simp_all
   exact WT _ (Xca d (k+1) e r h)
  exact WT _ (Xca d (k+1) e r h)
def zWo:WO:=⟨⟨0,0⟩,[],zL,zT,zT,[],[]⟩
def XnX{k:Nat}(e:k<=900):WB k zWo:=⟨e,by simp[zWo],λx f=>by simp_all[zWo],ZR,by simp[zWo,zT],by simp[zWo,zT],by simp[zWo],by simp[zWo]⟩
section
variable {N:Nat}{w:WO}{k:Nat}
def XdZ(q:w.m.length<=1000):∀(n:Nat) (i:Int) (v:List Int),0<=i->i<=w.m.length->(w.m.length-i).toNat<n->v.length<=100000+i->(∀x∈v,0<=x/\x<=w.T.length)->(∀m∈w.m,0<=m.I/\m.I<=w.T.length)->Ok (QeV N w n i v) λr=>r.length<=v.length+(w.m.length-i)/\∀x∈r,0<=x/\x<=w.T.length
 |0,i,v,_,_,s,_,_,_=>by omega
 |n+1,i,v,u,z,s,A,o,e=>by
  refine Wn (λf=>?_) λf=>Wd ⟨ab,o⟩;have f:i<w.m.length:=Ww f;rw[Xe (n:=i+1) ab ab];refine Ok.get u f λp hp=>Ue ab ?_;have g:=Yr hp;refine(XdZ q n (i+1) _ ab ab ab ai (λx j=>?_) e).mono λr y=>⟨?_,y.2⟩
  .rcases Wr.1 j with h|h
   .exact o x h
   rw[Uc.1 h];exact e p g
  grind
def Xjk(hN:NB N)(hw:WB k w)(o:YI w=true)(tw:XM w):Ok (QgU N w) λr=>r.length<=10000/\∀x∈r,0<=x/\x<=w.T.length:=by
 have f:=hN;unfold NB at f;have z:=hw.roots;have q:=hw.marks;have wf:=Jb o;have⟨A,s,u,B,D,v⟩:=tw;have E:=XhM wf.loc;have G:=XbC wf.glo;refine Ue ab ?_;rw[YR hw.loc ab,Xa,wf.loc,Wc];refine Ue ab ?_;rw[XV hw.glo ab,Xa,wf.glo,Wc];refine Ue ab (WJ (XdZ q N 0 _ ab ab ab ai (λx j=>?_) λm g=>?_) λr _ h=>Wd ⟨?_,h.2⟩)
 .simp only[Wr]at j;rcases j with(h|h)|h
  .exact⟨(v x h).1,wf.roots x h⟩
  .refine⟨?_,wf.rloc x h⟩;obtain⟨p,hp,rfl⟩:=WI.1 h;exact(s p (WY.1 hp).1).1
  refine⟨?_,wf.rglo x h⟩;obtain⟨p,hp,rfl⟩:=WI.1 h;exact(u p (WY.1 hp).1).1
 .have⟨i,y,e⟩:=Wv g;have:=wf.mk_ (k:=i) (m:=m) (by rw[Wb y,e]);omega
 grind
def XbF(hN:NB N)(hw:WB k w)(g:YI w=true)(tw:XM w)(M:Nat)(o:M<=2000000):∀(n:Nat) (i:Int) (v:List Bool) (q:List Int),0<=i->i<=q.length->(M-i).toNat<n->v.length=w.T.length->(∀x∈q,0<=x/\x<=w.T.length)->q.length+1000*v.countP (λb=>!b)<=M->Ok (QcR N w n i v q) λr=>r.length=w.T.length
 |0,i,v,q,_,_,V,_,_,_=>by omega
 |n+1,i,v,q,j,hi,V,s,u,L=>by
  have y:=hN;unfold NB at y;have hk:=hw.kk;have ht:=hw.things;refine Ue ab (Wn (λf=>?_) λ_=>Wd s);have f:i<q.length:=Ww f;rw[Xe (n:=i+1) ab ab];refine Ok.get j f λp hp=>?_;have same:∀z,Xd q i=some z->z=p:=λz h=>Wz (h.symm.trans hp);have W:=u p (Yr hp);refine Wn (λ_=>XbF hN hw g tw M o n (i+1) v q ab ab ab s u L) λO=>?_;have O:¬p=0:=by simpa using O
  refine Ok.get j f λR A=>?_;obtain rfl:=same R A;rw[Xt (n:=R-1) ab ab];refine Ok.get ab ab λb hb=>Wn (λ_=>XbF hN hw g tw M o n (i+1) v q ab ab ab s u L) λB=>?_;refine Ok.get j f λS E=>?_;obtain rfl:=same S E;rw[Xt (n:=S-1) ab ab];refine Ok.get ab ab λ_ _=>Ok.get j f λe G=>?_;obtain rfl:=same e G;have⟨g1,g2⟩:=Jz hw (id:=e) ab ab;have hf:=hw.fields _ g2;have⟨v1,v2,v3,Y⟩:=(Jb g).thing _ g2;have I:=Xb8 (thg w e).H 0 (thg w e).D;have I:(Xfh (thg w e)).length<=1000:=by unfold Xfh;omega
  rw[g1,Xa,XhL ab ab,Xa];have J:(e-1).toNat<v.length:=ab;have K:v[(e-1).toNat]=false:=by rw[X1 ab ab]at hb;rw[Wz hb];exact B
  have hcount:(v.set (e-1).toNat true).countP (λb=>!b)+1<=v.countP (λb=>!b):=by have U:0<v.countP (λb=>!b):=List.countP_pos_iff.2 ⟨v[(e-1).toNat],Wt _,by simp_all⟩;rw[List.countP_set J,K];simp;omega
  refine Ue ab (XbF hN hw g tw M o n (i+1) _ _ ab (by rw[WK];omega) ab (by simp_all) (λx Z=>?_) (by rw[WK];omega));rcases Wr.1 Z with h|h
  .simp_all
  refine⟨?_,Y x h⟩;exact((tw.1 _ g2).2 x (Xca _ _ _ x h)).1
def Xjl(hN:NB N)(hw:WB k w)(e:YI w=true)(tw:XM w):Ok (QfH N w) λr=>r.length=w.T.length:=by have f:=hN;unfold NB at f;have j:=hw.kk;have ht:=hw.things;rw[QfH,XcX hw ab,Xa,e,Wi,Wa];refine Ue ab (WJ (Xjk hN hw e tw) λy _ g=>WJ (XbF hN hw e tw 1100000 ab N 0 _ y ab ab ab (by rw[W9];omega) g.2 ?_) λr _ h=>Wd h);grind[W9]
def Xgk(y:List Bool)(h:y.length=w.T.length)(hw:WB k w):∀(n:Nat) (i:Int) (v:List Int),0<=i->i<=v.length->(v.length-i).toNat<n->v.length<=1000->(∀x∈v,0<=x/\x<=w.T.length)->Ok (Qbp N w y n i v) λr=>r.length=v.length
 |0,i,v,_,_,s,_,_=>by omega
 |n+1,i,v,f,B,s,j,o=>by
  have D:=hw.kk;have ht:=hw.things;refine Ue ab (Wn (λe=>?_) λ_=>Wd rfl);have e:i<v.length:=Ww e;rw[Xe (n:=i+1) ab ab];have next:=Xgk y h hw n (i+1) v ab ab ab j o
  refine Ok.get f e λp hp=>Wn (λq=>Ok.get f e λp2 g=>?_) λ_=>next
  obtain rfl:p=p2:=Wz (hp.symm.trans g);have u:=o p (Yr hp);have q:¬p=0:=by simpa using q
  rw[Xt (n:=p-1) ab ab];refine Ok.get ab ab λ_ _=>Wn (λ_=>Ok.get f e λ_ _=>?_) λ_=>next
  refine(Xgk y h hw n (i+1) _ ab (by rw[WL];omega) (by rw[WL];omega) (by rw[WL];exact j) λx z=>?_).mono λr A=>by rw[A,WL]
  grind
def V5(hN:NB N)(hw:WB k w)(tw:XM w):Ok (Qdm N w) λr=>WB k r.1:=by
 have f:=hN;unfold NB at f;rw[Qdm,XcX hw ab,Xa];refine Wn (λ_=>Wd (XnX hw.kk)) λe=>?_;have e:YI w=true:=by simpa using e
 have wf:=Jb e;have j:=XbC wf.wea;refine WJ (Xjl hN hw e tw) λy _ h=>?_;rw[XV hw.wea ab,Xa,wf.wea,Wc];refine WJ (Xgk y h hw N 0 _ ab ab ab ab λx g=>⟨?_,wf.rwea x g⟩) λz _ o=>WJ (Xff hw.wea ab ab) λt _ ht=>Wd ⟨hw.kk,hw.things,hw.fields,hw.loc,hw.gloK,UL ht hw.weaK,hw.marksK,hw.rootsK⟩;obtain⟨p,hp,rfl⟩:=WI.1 g;exact(tw.2.2.2.1 p (WY.1 hp).1).1
end
def Sk{β κ:Type}{P:β->Prop}{k:κ->Option β}{f:(κ->Option β)->Option β}(Q:κ->Prop)(h:∀x,Q x->Ok (k x) P)(g:∀j:κ->Option β,(∀x,Q x->Ok (j x) P)->Ok (f j) P):Ok (Sx.jn k f) P:=by simp_all[Xv]
section
variable {N:Nat}{w:WO}{k:Nat}
def XaH(hw:WB k w)(hN:1000000<N)(id:Int):Ok (Qc6 N w id) λr=>WB k r.1:=by refine Ut (Wd hw) ?_;rw[XaB hw.loc hN,Xa];exact Uw (YL _) λy _=>Wd ⟨hw.kk,hw.things,hw.fields,Xkh hw.loc id,hw.gloK,hw.weaK,hw.marksK,hw.rootsK⟩
def Xkt(hw:WB k w){id i v:Int}(e:1<=id)(f:id<=w.T.length)(g:0<=i)(o:i<(thg w id).D.length):Ok (Qfu N w id i v) λr=>WB k r:=by
 have p:=hw.kk;have ht:=hw.things;have⟨g1,g2⟩:=Jz hw e f;have q:=hw.fields _ g2;rw[Qfu,Xb ab,g1,Xa,Xb ab];refine Ok.get g ab λ_ _=>?_;rw[Xa];refine Wd ⟨hw.kk,?_,λx j=>?_,hw.loc,hw.gloK,hw.weaK,hw.marksK,hw.rootsK⟩
 .simp_all
 rcases W0 j with h|h
 .exact hw.fields x h
 simp_all
def XhP(hw:WB k w)(hN:1000000<N)(op id:Int):Ok (QeL N w op id) λr=>WB k r.1:=by
 refine Is (Ut ?_ ?_)
 .rw[Jy hw.wea hN,Xa];exact Uw (YL _) λy _=>Wd ⟨hw.kk,hw.things,hw.fields,hw.loc,hw.gloK,XhD hw.weaK id,hw.marksK,hw.rootsK⟩
 rw[Jy hw.glo hN,Xa];exact Uw (YL _) λy _=>Wd ⟨hw.kk,hw.things,hw.fields,hw.loc,XhD hw.gloK id,hw.weaK,hw.marksK,hw.rootsK⟩
def Xjm(hw:WB k w)(hN:1000000<N)(v:Int):Ok (Qfk N w v) λr=>WB k r:=by
 refine Uw (Xb7 _) λy _=>Ut ?_ (Ut ?_ ?_)
 .rw[Xgf hw.loc hN,Xa];exact Wd ⟨hw.kk,hw.things,hw.fields,Xki hw.loc _ _,hw.gloK,hw.weaK,hw.marksK,hw.rootsK⟩
 .rw[XaE hw.glo hN,Xa];exact Wd ⟨hw.kk,hw.things,hw.fields,hw.loc,XhE hw.gloK _ _,hw.weaK,hw.marksK,hw.rootsK⟩
 rw[XaE hw.wea hN,Xa];exact Wd ⟨hw.kk,hw.things,hw.fields,hw.loc,hw.gloK,XhE hw.weaK _ _,hw.marksK,hw.rootsK⟩
def XnY(hw:WB k w)(hN:1000000<N)(o:w.m.length<=64)(op id b:Int)(j:op=20->0<=ZK w.m id):Ok (Qfz N w op id b) λr=>WB k r.1:=by
 have setM:∀l:List IC,l.length<=100+k->WB k ⟨w.c,w.T,w.l,w.g,w.v,l,w.R⟩:=λl p=>⟨hw.kk,hw.things,hw.fields,hw.loc,hw.gloK,hw.weaK,p,hw.rootsK⟩
 rw[Qfz,QgW,Xgi ab hN,Xa,Xa];refine Ue ab (Wn (λh=>?_) λ_=>Wn (λh=>?_) λh=>Ue ab (Wd (setM _ (by grind))))
 .have h:=j (by simp_all);have⟨f,_,_⟩:=Xb9 h;refine Ok.get h f λ_ _=>Ok.get h f λ_ _=>Ok.get h (by simp_all) λ_ _=>Wn (λ_=>?_) λ_=>Wd (setM _ (by grind));have e:=Xe (n:=ZK w.m id+1) ab ab;refine Ue ab (Ue ab (Ue ab (Wd (setM _ ?_))));simp;omega
 have h:0<=ZK w.m id:=Ww h;have⟨f,_,_⟩:=Xb9 h;exact Ok.get h f λ_ _=>Ok.get h f λ_ _=>Ok.get h (by simp_all) λ_ _=>Wd (setM _ (by grind))
def WB.up(hw:WB k w)(e:k+1<=900):WB (k+1) w:=⟨e,by have:=hw.things;omega,hw.fields,hw.loc,by have:=hw.gloK;omega,by have:=hw.weaK;omega,by have:=hw.marksK;omega,by have:=hw.rootsK;omega⟩
def XhQ(hN:NB N)(hw:WB k w)(V:k+1<=900)(tw:XM w)(op:Int){a b c:Int}(ta:tU a)(tb:tU b)(tc:tU c)(ft:OB):Ok (QfA N w op a b c ft) λr=>WB (k+1) r.1:=by
 have Z:=hN;unfold NB at Z;have j:1000000<N:=ab;have zero:WB (k+1) zWo:=XnX V;rw[QfA,XsF hw j tw op ta tb tc,Xa];refine Wn (λ_=>Wd zero) λf=>?_;have f:XnU w op a b c ft.Failed=0:=by simpa using f
 have B:YI w=true:=by
  cases h:YI w
  .unfold XnU at f;rw[h]at f;cases f
  rfl
 have wf:=Jb B;unfold XnU at f;rw[B,Wj ac]at f;have thing:(XG w a).2=0->1<=(Z2 w a).1/\(Z2 w a).1<=w.T.length/\XG w a=Z2 w a:=λh=>by obtain⟨E,G,Y⟩:=Xfi hw B tw ta h;rw[Y]at E G;exact⟨E,G,Y⟩
 refine Sk (λx=>¬(op<=3\/op=17)->x=(Z2 w a).1) (λz hx3=>?_) λj1 s=>?_;rotate_left
 .refine Wn (λhg=>Wn (λI=>?_) λI=>s _ λh=>absurd (Or.inr (by simpa using I)) h) λhg=>s _ λh=>absurd (Or.inl (by have:=WM hg;omega)) h;rw[JJ hw j B ta,Xa];exact s _ λ_=>rfl
 simp only[XrJ];refine Wn (λJ=>?_) λJ=>?_
 ·
  have J:op=1\/op=2\/op=3:=by simpa using J
  rw[Wm J]at f;obtain⟨d,hd,hd2⟩:=XdY (N:=N) op ta tb;have A:okW op a b/\XcC w.c (hdW op a b)=true:=by
   unfold XbE at f;split at f
   .cases f
   split at f
   .cases f
   rename_i _ h2;split at f
   .cases f
   rename_i h3;exact⟨Classical.not_not.1 h2,by simpa using h3⟩
  have hdd:=hd2 A.1;have hvd:XC d=true:=by have:=A.2;unfold XcC at this;rw[WH]at this;rw[hdd];exact this.1
  have hb:=XD hvd;have main:∀w':WO,WB k w'->Ok (α:=WO×Int×Int) (bnd (QcD N op a b) λu=>
   grd (w'.T.length*48<=140737488355328) <|
   grd (0<=u.1.n/\u.1.n.toNat*8<=140737488355328) <|
   grd ((w'.T.length+1)*48<=140737488355328) <|
   grd ((w'.T.length+1)<=140737488355328) <|
   bnd (Qc6 N (WO.mk (WP.mk w'.c.W w'.c.p) (w'.T++[(UY.mk u.1 (List.replicate u.1.n.toNat 0))]) (Wq.mk w'.l.S w'.l.x w'.l.i) (WD.mk w'.g.e) (WD.mk w'.v.e) w'.m w'.R) (wU (((w'.T.length+1):Nat):Int))) λK=>
   some (K.1,K.2,0)) λr=>WB (k+1) r.1:=by
   intro w' q
   have ht:=q.things
   rw[hd,Xa]
   refine Ue ab (Ue (by constructor<;>simp only<;>omega) (Ue ab (Ue ab (Uw (XaH (k:=k+1) (w:=⟨w'.c,w'.T++[⟨d,List.replicate d.n.toNat 0⟩],w'.l,w'.g,w'.v,w'.m,w'.R⟩) ⟨V,?_,λx hx=>?_,q.loc,IV q.gloK,IV q.weaK,IV q.marksK,IV q.rootsK⟩ j _) λy o=>Wd o))))
   .show(w'.T++[_]).length<=_;rw[WK];simp;omega
   .rcases Wr.1 hx with h|h
    .exact q.fields x h
    .rw[Uc.1 h];show(List.replicate _ _).length<=_;rw[W9];omega
  refine Is (Wn (λ_=>WJ (V5 hN hw tw) λy _ o=>?_) λ_=>?_)
  .exact main y.1 o
  exact main w hw
 have hn1:¬(op=1\/op=2\/op=3):=by simpa using J
 rw[Wj hn1]at f;have L:∀v e:Int,Ok (α:=WO×Int×Int) (some (w,v,e)) λr=>WB (k+1) r.1:=λv e=>Wd (hw.up V);have up:∀{w':WO},WB k w'->WB (k+1) w':=λh=>WB.up h V;have pl:(op=4\/op=5\/op=10\/op=11)->XdX w op a b=0:=λh=>by rw[Wj ab,Wj ab,Wj ab,Wj ab,Wj ab,Wm h]at f;exact f
 have len:(op=4\/op=5)->1<=z/\z<=w.T.length:=λh=>by have s:=pl ab;unfold XdX at s;rw[Wm h]at s;have:=thing s;rw[hx3 ab];exact⟨this.1,this.2.1⟩
 have fld:(op=6\/op=7\/op=8\/op=9)->(1<=z/\z<=w.T.length)/\b<(thg w z).D.length/\wI b=b:=λh=>by
  rw[Wm h]at f;unfold XcY at f;by_cases s:(XG w a).2=0;rotate_left
  .rw[Wm s]at f;exact absurd f s
  rw[Wj (by simpa using s)]at f;obtain⟨E,G,Y⟩:=thing s;have e:z=(Z2 w a).1:=hx3 ab;rw[Y,←e]at f;rw[←e]at E G;obtain⟨g1,g2⟩:=Jz hw E G;obtain⟨v1,v2,v3,v4⟩:=wf.thing _ g2;have vb:=XD v1;by_cases h2:b>=(thg w z).H.n
  .rw[Wm h2]at f;cases f
  have:=tb.1;exact⟨⟨E,G⟩,ab,Xe ab ab⟩
 refine Wn (λh4=>?_) λn4=>Wn (λh5=>?_) λn5=>Wn (λh6=>?_) λn6=>Wn (λh7=>?_) λn7=>Wn (λh8=>?_) λn8=>Wn (λh9=>?_) λn9=>Wn (λh10=>?_) λn10=>Wn (λh11=>?_) λn11=>?_
 .have h4:op=4:=by simpa using h4
  have:=len (.inl h4);rw[(Jz hw this.1 this.2).1,Xa];exact L _ _
 .have h5:op=5:=by simpa using h5
  have:=len (.inr h5);rw[(Jz hw this.1 this.2).1,Xa];exact L _ _
 .have h6:op=6:=by simpa using h6
  obtain⟨f1,f2,M⟩:=fld ab;rw[(Jz hw f1.1 f1.2).1,Xa];exact Ok.get tb.1 f2 λ_ _=>L _ _
 .have h7:op=7:=by simpa using h7
  obtain⟨f1,f2,M⟩:=fld ab;rw[M];exact Uw (Xkt hw f1.1 f1.2 tb.1 f2) λy o=>Wd (up o)
 .have h8:op=8:=by simpa using h8
  obtain⟨f1,f2,M⟩:=fld ab;rw[(Jz hw f1.1 f1.2).1,Xa];exact Ok.get tb.1 f2 λ_ _=>Uw (XaH hw j _) λy o=>Wd (up o)
 .have h9:op=9:=by simpa using h9
  obtain⟨f1,f2,M⟩:=fld ab;rw[JJ hw j B tc,Xa,M];exact Uw (Xkt hw f1.1 f1.2 tb.1 f2) λy o=>Wd (up o)
 .rw[JJ hw j B tb,Xa];exact Ut (L _ _) (L _ _)
 .exact Uw (XaH hw j _) λy o=>Wd (up o)
 have n6:¬op=6:=by simpa using n6
 have n7:¬op=7:=by simpa using n7
 have n8:¬op=8:=by simpa using n8
 have n9:¬op=9:=by simpa using n9
 refine Wn (λ_=>Uw (XhP hw j _ _) λy o=>Wd (up o)) λnl=>?_;have nl:¬(op=13\/op=15):=by simpa using nl
 refine Wn (λ_=>Uw (Xjm hw j _) λy o=>Wd (up o)) λnr=>?_;have nr:¬(op=12\/op=14\/op=16):=by simpa using nr
 refine Wn (λ_=>?_) λO=>Wn (λ_=>?_) λU=>?_
 .rw[XbA hw.loc j,Xa];exact Wd (up ⟨hw.kk,hw.things,hw.fields,XhA hw.loc _,hw.gloK,hw.weaK,hw.marksK,hw.rootsK⟩)
 .rw[XcW hw.loc j,Xa];exact Uw (XaH (w:=⟨w.c,w.T,(Zo w.l).1,w.g,w.v,w.m,w.R⟩) ⟨hw.kk,hw.things,hw.fields,Xgg hw.loc,hw.gloK,hw.weaK,hw.marksK,hw.rootsK⟩ j _) λy o=>Wd (up o)
 have O:¬op=17:=by simpa using O
 have U:¬op=18:=by simpa using U
 rw[Wj ab,Wj ab,Wj ab,Wj ab]at f;refine Uw (XnY hw j wf.m64 op z _ λh20=>?_) λy o=>Wd (up o);unfold Xkr at f;grind
end
def Xku{α:Type}{l:List α}{F:Nat->Int->Option (Ex Int Unit)}{p:α->Bool}(g:l.length<=1000000)(e:∀(n k:Nat) (x:α),l[k]? = some x->F (n+1) (k:Int)=bif p x then some (.ret (k:Int))else F n ((k+1:Nat):Int))(f:∀n:Nat,F (n+1) (l.length:Int)=some (.nxt ())):∀(n k:Nat),k<=l.length->l.length-k<n->F n (k:Int)=some (match (l.drop k).findIdx? p with|some j=>.ret ((k+j:Nat):Int)|none=>.nxt ())
 |0,k,_,o=>by omega
 |n+1,k,q,o=>by
  by_cases h:k<l.length
  .rw[e n k _ (Wb h),Wl h,List.findIdx?_cons];cases hp:p l[k]
   .rw[Wa,Xku g e f n (k+1) ab ab,Wj ac];cases (l.drop (k+1)).findIdx? p with
    |none=>rfl
    |some j=>simp only[UZ];rw[show k+1+j=k+(j+1) by omega]
   simp
  grind
def YS{α:Type}(p:α->Bool)(l:List α):Int:=match l.findIdx? p with|some j=>(j:Int)|none=>-1
def JL{α:Type}{l:List α}{F:Nat->Int->Option (Ex Int Unit)}{p:α->Bool}{N:Nat}(o:l.length<=1000000)(hN:1000000<N)(f:∀(n k:Nat) (x:α),l[k]? = some x->F (n+1) (k:Int)=bif p x then some (.ret (k:Int))else F n ((k+1:Nat):Int))(g:∀n:Nat,F (n+1) (l.length:Int)=some (.nxt ())):(bnd (F N 0) λe=>exK e (λr=>some r) λ_=>some (-1))=some (YS p l):=by
 have h:=Xku o f g N 0 ab ab;rw[show((0:Nat):Int)=0 from rfl,WX]at h;rw[h,Xa,YS];cases l.findIdx? p with
 |none=>simp[Xl]
 |some j=>simp[Xq,UE]
def Ku{α:Type}(p:α->Bool)(l:List α):decide (YS p l>=0)=l.any p:=by unfold YS;grind
section
variable {N:Nat}
def XqK(e:W6):QfL N e=some (!Jp e):=by rw[QfL];unfold Jp;grind
def Xgl{α:Type}(p:α->Bool)(l:List α):(!l.any λx=>!p x)=l.all p:=by grind
def V6{t:WD}(f:TB t)(hN:1000000<N):QdI N t=some (Yh t.e):=by
 unfold TB at f;rw[QdI,QaI,QaS];rw[JL (p:=λe=>!Jp e) f hN (λn k x e=>by
  have g:=Xu e
  rw[Qan,Xi g,Wc,Xf,e,Xa,XqK,Xa,Xg ab]) (λn=>by rw[Qan,Xw,Wa])]
 rw[Xa,Xa,Ku,Xgl,Yh,show decide ((t.e.length:Int)<=64)=decide (t.e.length<=64)from decide_eq_decide.2 ab];grind
def Xcb{t:WD}(f:t.e.length<=1000000):∀(n k:Nat) (v:List Int),k<=t.e.length->t.e.length-k<n->v.length<=k ->
 Qd1 N t n (k:Int) v=some (v++Xr (t.e.drop k))
 |0,k,v,_,g,_=>by omega
 |n+1,k,v,o,g,j=>by
  rw[Qd1];by_cases h:k<t.e.length
  .rw[Xi h,Wc,Xf,Wb h,Xa,Xg ab,Wl h,Xr];cases p:t.e[k].V
   .rw[Wa,Xcb f n (k+1) v ab ab ab,UC (by simp_all)];rfl
   rw[Wc,Xb ab,Xcb f n (k+1) _ ab ab (by simp_all),Uq ab];simp[Xr]
  obtain rfl:k=t.e.length:=ab;simp[Xr]
def Jd{t:WD}(f:TB t)(hN:1000000<N):QdJ N t=some (bif Yh t.e then Xr t.e else[]):=by
 rw[QdJ,V6 f hN,Xa];cases g:Yh t.e
 .rfl
 have h:=Xcb (N:=N) (t:=t) f N 0 [] ab (by unfold TB at f;omega) ac;rw[show((0:Nat):Int)=0 from rfl,WX,W8]at h;simp[Wi,Wa,h,Xa]
def XlR(x:Int):QfM N x=some (!(!decide (x<0)&&!decide (x>4095))):=by rw[QfM,show decide (x>=4096)=decide (x>4095)from decide_eq_decide.2 ab];cases decide (x<0)<;>cases decide (x>4095)<;>rfl
def Xfj{a:Wq}:∀(n:Nat) (s i:Int),Qa2 N ⟨a⟩ n s i=Qat N a n s i
 |0,s,i=>by rfl
 |n+1,s,i=>by rw[Qa2,Qat];have e:∀s i,Qa2 N ⟨a⟩ n s i=Qat N a n s i:=Xfj n;simp_all
def Xd0{a:Wq}:∀(n:Nat) (s i:Int),Qba N ⟨a⟩ n s i=Qay N a n s i
 |0,s,i=>by rfl
 |n+1,s,i=>by rw[Qba,Qay];have e:∀s i,Qba N ⟨a⟩ n s i=Qay N a n s i:=Xd0 n;grind
def XlS{a:Wq}(g:LBp a)(e:neB a.S.length a.x=true){k:Nat}{p:UX}(hp:a.x[k]? = some p):QdQ N ⟨a⟩ (k:Int)=some ((a.S.drop p.O.toNat).take ((toL a k).toNat-p.O.toNat)):=by
 have j:=KG e hp;have s:=Xu hp;have o:=g.2.1;have q:(IN.mk a).l.S.length=a.S.length:=rfl;rw[QdQ,Xg ab,toL];by_cases h:k+1<a.x.length
 .have f:=Wb h;have r:=KG e f;have:=j.2.2.2.2.2 _ f;rw[Xi h,Wc,Xf,hp,Xa,Xf,f,Xa,Xb ab]
 rw[show decide (((k+1:Nat):Int)<(a.x.length:Int))=false from We ab,Wa,Xf,hp,Xa,Xb ab,WN ab];simp[Uy,WA]
def Xd1(l:List UH)(e:l.length<=1000000):∀(n k c:Nat),k<=l.length->l.length-k<n->c<=k->QbO N l n (c:Int) (k:Int)=some (((c+(l.drop k).countP (·.V):Nat):Int))
 |0,k,c,_,f,_=>by omega
 |n+1,k,c,g,f,j=>by
  rw[QbO];by_cases h:k<l.length
  .rw[Xi h,Wc,Xf,Wb h,Xa,Xg ab,Xg ab,Wl h,U9];cases o:l[k].V
   .rw[Wa,Xd1 l e n (k+1) c ab ab ab];simp
   rw[Wc,Xd1 l e n (k+1) (c+1) ab ab ab];simp;omega
  grind
def XnZ{a:Wq}(g:LBp a)(hN:1000000<N)(f:neB a.S.length a.x=true){k:Nat}{p:UX}(hp:a.x[k]? = some p):Qeb N ⟨a⟩ (k:Int)=some ((YQ a.S p.O.toNat (toL a k).toNat:Nat):Int):=by
 have j:=g.1;rw[Qeb,XlS g f hp,Xa];have e:((a.S.drop p.O.toNat).take ((toL a k).toNat-p.O.toNat)).length<=1000000:=by rw[Ws,WA];omega
 have h:=Xd1 (N:=N) _ e N 0 0 ab ab ab;rw[show((0:Nat):Int)=0 from rfl,WX,UE]at h;rw[h,Xa];rfl
def XbG{a:Wq}(j:LBp a)(hN:1000000<N):Qet N a=some (Ym a):=by
 have g:=j;have⟨u,v,hl3⟩:=j;rw[Qet,Qbw,QbV];rw[JL (p:=λx=>!(!decide (x<0)&&!decide (x>4095))) hl3 hN (λn k x e=>by
  have f:=Xu e
  rw[QaE,Xi f,Wc,Xf,e,Xa,XlR,Xa,Xg ab]) (λn=>by rw[QaE,Xw,Wa])]
 have y:=J7 (l:=a.S) (F:=λn s i=>Qay N a n s i) (q:=stQ a.i) (nxp:=λ_ p=>p.J) (I:=λs=>0<=s) (λn s k p o e=>by
  have f:=Xu e
  rw[Qay,Xi f,Wc,Xf,e,Xa,Xg ab]
  unfold stQ
  cases g1:decide (p.J<=s)
  .cases g2:decide (p.J>(a.i.length:Int))
   .have g1:=WM g1
    have g2:=WM g2
    rw[Wa,Wa,Xe ab ab,X1 ab ab,Xa]
    have ge:a.i[(p.J-1).toNat]'ab=a.i.getD (p.J-1).toNat 0:=by
     rw[Wk,Wb ab];rfl
    rw[ge]
    cases (a.i.getD (p.J-1).toNat 0 != (k:Int))<;>cases (p.V==(p.a != 0))<;>rfl
   .rfl
  .rfl) (λn s=>by rw[Qay,Xw,Wa]) (λs k p o e r=>by
   unfold stQ at r
   simp at r
   omega) N 0 0 ab ab ab
 have z:=J7 (l:=a.x) (F:=λn s i=>Qat N a n s i) (q:=neQ a.S.length) (nxp:=λ_ p=>p.O) (I:=λ_=>True) (λn s k p o e=>by
  have f:=Xu e
  rw[Qat,Xi f,Wc,Xf,e,Xa,Xg ab]
  unfold neQ
  cases ((k:Int)==0)<;>cases (p.O != 0)<;>cases p.B0<;>cases decide (p.O<s)<;>cases decide (p.O>(a.S.length:Int))<;>cases decide (p.C0<0)<;>cases decide (p.C0>64)<;>rfl) (λn s=>by rw[Qat,Xw,Wa]) (λ_ _ _ _ _ _=>trivial) N 0 0 trivial ab ab
 have A:Qay N a N 0 0=some (bif stB a.i a.S then .nxt ()else .ret false):=y;have e3:Qat N a N 0 0=some (bif neB a.S.length a.x then .nxt ()else .ret false):=z;have B:Qdr N ⟨a⟩=some (!decide ((a.x.length:Int)>64)&&((!((a.x.length:Int)==0)||!decide ((a.S.length:Int)>0))&&neB a.S.length a.x)):=by rw[Qdr,Xv,Xfj,e3,Xa];cases neB a.S.length a.x<;>cases decide ((a.x.length:Int)>64)<;>cases ((a.x.length:Int)==0)<;>cases decide ((a.S.length:Int)>0)<;>simp only[Wc,Wa,Xq,Xl]<;>rfl
 have D:Qde N ⟨a⟩=some (stB a.i a.S):=by rw[Qde,Xd0,A,Xa];cases stB a.i a.S<;>simp only[Wc,Wa,Xq,Xl]
 rw[Xa,Xa,Ku,B,Xa,D,Xa,Ym,XnP];have E:(a.i.any λx=>!(!decide (x<0)&&!decide (x>4095))) = !(a.i.all λp=>!decide (p<0)&&!decide (p>4095)):=by rw[←Xgl,Bool.not_not]
 rw[E];cases decide ((a.i.length:Int)>4096);rotate_left
 .rfl
 cases (a.i.all λp=>!decide (p<0)&&!decide (p>4095))
 .cases decide ((a.x.length:Int)>64)<;>cases (!((a.x.length:Int)==0)||!decide ((a.S.length:Int)>0))<;>rfl
 cases decide ((a.x.length:Int)>64);rotate_left
 .rfl
 cases (!((a.x.length:Int)==0)||!decide ((a.S.length:Int)>0))
 .rfl
 cases h:neB a.S.length a.x
 .cases stB a.i a.S<;>rfl
 cases stB a.i a.S
 .rfl
 simp;have G:=Jx (l:=a.x) (F:=QdB N a) (q:=Xhy a ()) (λn k p e=>by
  have f:=Xu e
  rw[QdB,Xi f,Wc,Xf,e,Xa,XnZ g hN h e,Xa,Xg ab]
  unfold Xhy
  cases decide (((YQ a.S p.O.toNat (toL a k).toNat:Nat):Int)>p.C0)<;>rfl) (λn=>by rw[QdB,Xw,Wa]) (n:=N) ab
 rw[G,Xa];show exK (bif Xb6 a then Ex.nxt ()else Ex.ret false) _ _=_;cases Xb6 a
 .rw[Wa,Xq]
 simp[Wc,Xl]
def Xcc{a:Wq}(e:a.S.length<=1000000):∀(n k:Nat) (v:List Int),k<=a.S.length->a.S.length-k<n->v.length<=k ->
 Qd2 N a n (k:Int) v=some (v++XA (a.S.drop k))
 |0,k,v,_,f,_=>by omega
 |n+1,k,v,j,f,g=>by
  rw[Qd2];by_cases h:k<a.S.length
  .rw[Xi h,Wc,Xf,Wb h,Xa,Xg ab,Wl h,XA];cases o:a.S[k].V
   .rw[Wa,Xcc e n (k+1) v ab ab ab,UC (by simp_all)];rfl
   rw[Wc,Xb ab,Xcc e n (k+1) _ ab ab (by simp_all),Uq ab];simp[XA]
  obtain rfl:k=a.S.length:=ab;simp[XA]
def Xcd{a:Wq}(e:LBp a)(hN:1000000<N):QfB N a=some (bif Ym a then XA a.S else[]):=by
 rw[QfB,XbG e hN,Xa];cases f:Ym a
 .rfl
 have h:=Xcc (N:=N) (a:=a) e.1 N 0 [] ab (by have:=e.1;omega) ac;rw[show((0:Nat):Int)=0 from rfl,WX,W8]at h;simp[Wi,Wa,h,Xa]
end
def Je(N:Nat)(c:WP):Qb1 N c=some (XU c):=by exact Zg N c
def Xn0(N:Nat)(c:WP):QeZ N c=some (smC c):=by exact Xhn N c
def Xn1(N:Nat)(c:WP)(w:Int):Qe0 N c w=some (Xx c w):=by
 simp only[Qe0,Je,Xn0,Xa,Xx,smC];cases j:XU c with
 |false=>simp
 |true=>
  have h:=Xh.1 j;simp only[Wi,Wa,if_true,UM];rw[Xe (n:=4*c.W) ab ab];by_cases f:w<1
  .rw[Wm f,Wj (show¬(True/\1<=w)fromλh=>ab)]
  rw[Wj f,Wm (show True/\1<=w from⟨trivial,ab⟩)];by_cases g:w>4*c.W
  .rw[Wm g];simp only[Wj (show¬w<=c.W / 4 by omega),Wj (show¬c.W>=w by omega),Wj (show¬2*c.W>=w by omega),Wj (show¬3*c.W>=w by omega),Wj (show¬4*c.W>=w by omega)]
  rw[Wj g];by_cases e:w<=c.W / 4
  .rw[Wm e,Wm e]
  rw[Wj e,Wj e,Xb ab,Xe (n:=w+c.W) ab ab,Xe (n:=w+c.W-1) ab ab,UW ab];have key:∀k:Int,k*c.W<=w+c.W-1->w+c.W-1<(k+1)*c.W->(w+c.W-1) / c.W=k:=by intro k a b;have o:=Int.ediv_lt_of_lt_mul (show 0<c.W by omega) b;have p:=Int.le_ediv_of_mul_le (show 0<c.W by omega) a;omega
  split
  .rw[key 1 ab ab];rfl
  split
  .rw[key 2 ab ab];rfl
  split
  .rw[key 3 ab ab];rfl
  split
  .rw[key 4 ab ab];rfl
  omega
def Xjn(N:Nat)(c:WP)(a:Int)(j:a<=18446744073709551615):Qcn N c a=Qca N c a:=by
 rw[KR];simp only[Qcn,Je,Xa,UM];cases e:XU c with
 |false=>simp
 |true=>
  have h:=Xh.1 e;have o:=XE e (i:=0) ab ab;simp only[Wi,Wa];rw[Wj (show¬(true=false) by simp),Int.mul_comm c.W c.p];rw[Xe (n:=c.p*c.W) ab ab,Xt (n:=c.p*c.W) ab ab];by_cases f:a<4096
  .grind
  rw[Wj f,Xt (n:=a-4096) ab ab];by_cases q:a>=4096+c.p*c.W
  .grind
  rw[Wj ab,Wm ab,Xb ab,Xb ab];rw[Xe (n:=a-4096) ab ab,UW ab,IL ab];have hd:0<=(a-4096) / c.W:=Int.ediv_nonneg ab ab;have g:(a-4096) / c.W<=a-4096:=Int.ediv_le_self _ ab;rw[Xe ab ab]
def Xd2(N:Nat)(c:WP)(p o:Int):Qdg N c p o=Qbx N c p o:=by
 rw[Z7];simp only[Qdg,Je,Xa,UM];cases h:XU c with
 |false=>simp
 |true=>
  simp only[Wi,Wa];rw[Wj (show¬(true=false) by simp)];by_cases e:p<0
  .rw[Wm e,Wj ab]
  rw[Wj e];by_cases f:p>=c.p
  .rw[Wm f,Wj ab]
  rw[Wj f];by_cases g:o<0
  .rw[Wm g,Wj ab]
  rw[Wj g];by_cases j:o>=c.W
  .rw[Wm j,Wj ab]
  have q:=XE h (i:=p) ab ab;rw[Xe (n:=p*c.W) ab ab,Xe (n:=p*c.W+o) ab ab,Xt (n:=p*c.W+o) ab ab,Xt ab ab];unfold Xc;grind
def Ka(sp:Int)(p:Wp):Bool:=p.k==3&&p.s==sp
def V7(ps:List Wp)(sp:Int)(i:Nat):Nat:=((ps.drop i).takeWhile (Ka sp)).length
def XhR(N:Nat)(ps:List Wp)(sp:Int)(j:ps.length<=1000000):∀(n c i:Nat),i<=ps.length->c<=i->ps.length-i<n->Qdv N ps sp n (c:Int) (i:Int)=some (((c+V7 ps sp i:Nat):Int))
 |0,c,i,_,_,h=>by omega
 |n+1,c,i,h,o,p=>by
  rw[Qdv];by_cases e:i<ps.length
  .rw[Wg ab,Wc,Xf,Wb e,Xa,Xa];have hd:ps.drop i=ps[i]::ps.drop (i+1):=Wl e;unfold V7;rw[hd,List.takeWhile_cons];cases f:(ps[i].k==3)with
   |false=>simp[Ka,f]
   |true=>
    cases g:(ps[i].s==sp)with
    |false=>simp[Ka,f,g]
    |true=>rw[Wc,show Ka sp ps[i]=true by simp[Ka,f,g],Wm rfl];rw[Xg ab,Xg ab,XhR N ps sp j n (c+1) (i+1) ab ab ab];unfold V7;grind
  have:ps.drop i=[]:=WZ ab;rw[We ab,Wa];simp[V7,this]
def Xn2{N:Nat}(ps:List Wp)(sp:Int)(e:ps.length<=1000000)(hN:1000000<N)(i:Nat)(f:i<ps.length):Qe3 N ps (i:Int) sp=some ((V7 ps sp (i+1):Nat):Int):=by rw[Qe3,Xg ab,show(0:Int)=((0:Nat):Int)from rfl,XhR N ps sp e N 0 (i+1) ab ab ab,Xa,UE]
def XbH{α:Type}(q:α->Bool):∀(l:List α) (k:Nat),k<=(l.takeWhile q).length↔k<=l.length/\(l.take k).all q=true
 |[],k=>by simp
 |a::l,0=>by simp
 |a::l,k+1=>by
  rw[List.takeWhile_cons];cases h:q a with
  |false=>grind
  |true=>simp[h];exact XbH q l k |>.trans ac
def Ya(sp:Int)(p:Wp):Bool:=Ka sp p&&(p.u==0&&p.P==0)
def Xkv(N:Nat)(o:List Wp)(f:Int)(g:Wp)(q p:Int)(l:List Wp)(v:l.length<=1000000)(hd:((o.drop (wI (f+1)).toNat).take ((wI (f+p)).toNat-(wI (f+1)).toNat))=l)(r:min ((wI (f+p)).toNat-(wI (f+1)).toNat) (o.length-(wI (f+1)).toNat)=l.length):
 ∀(n k:Nat),k<=l.length->l.length-k<n->Qfl N o f g q p n (k:Int)=some (if(l.drop k).all (Ya g.s)=true then .nxt ()else .ret 0)
 |0,k,_,h=>by omega
 |n+1,k,h,x=>by
  rw[Qfl,hd,r];by_cases j:k<l.length
  .rw[Wg ab,Wc,Xf,Wb j,Xa,Qff,Xa,Wl j,Oc];have e:((l[k].k==3)&&((l[k].s==g.s)&&((l[k].u==0)&&(l[k].P==0))))=Ya g.s l[k]:=by unfold Ya Ka;rw[Bool.and_assoc]
   rw[e];cases y:Ya g.s l[k]with
   |false=>simp
   |true=>rw[Wi,Wa,Xg ab,Xkv N o f g q p l v hd r n (k+1) ab ab,Uf]
  grind
def X7(c:WP)(ps:List Wp)(i:Nat)(p:Wp):Nat:=
 if p.k=0 then(if p.s=0/\p.u=0/\p.P=0 then 1 else 0)
 else if(p.s=0\/p.s=1)/\0<=p.P/\p.P<=2147483647 then
  (if p.k=1 then(if 0<=p.u/\p.u<=c.W then 1 else 0)
   else if p.k=2 then(if 1<=Xx c p.u/\(Xx c p.u).toNat<=ps.length-i/\((ps.drop (i+1)).take ((Xx c p.u).toNat-1)).all (Ya p.s)=true then(Xx c p.u).toNat else 0)
   else 0)
 else 0
def Kv(N:Nat)(p:Wp):Qb6 N p=some (decide (p.s=0\/p.s=1)):=by rw[Qb6];grind
def XaI(N:Nat)(p:Wp):Qdi N p=some (decide (0<=p.P/\p.P<=2147483647)):=by grind[Qdi]
def Kb{N:Nat}{c:WP}{ps:List Wp}(D:ps.length<=100000)(hN:1000000<N){i:Nat}(z:i<ps.length):QgL N c ps (i:Int)=some ((X7 c ps i ps[i]:Nat):Int):=by
 rw[QgL,Xf,Wb z,Xa,Xv];generalize hp:ps[i]=p;unfold X7;by_cases k0:p.k<0
 .grind
 rw[We k0,Wa];by_cases A:p.k>=3
 .grind
 rw[We A,Wa];by_cases r:p.k=0
 .rw[show(p.k==0)=true by simpa using r,Wc,Wm r,Qf4,Xa];grind
 rw[show(p.k==0)=false by simp_all,Wa,Wj r];by_cases e:(p.s=0\/p.s=1);case neg=>
  rw[Wj (λh=>e h.1)]
  by_cases j:p.k=1
  .rw[show(p.k==1)=true by simp_all,Wc,QdC,Kv,Xa,We e,Wa,Xa];rfl
  .have v:p.k=2:=ab
   rw[show(p.k==1)=false by simp_all,Wa,show(p.k==2)=true by simp_all,Wc,QdD,Kv,Xa,We e,Wa,Xa];rfl
 by_cases g:0<=p.P/\p.P<=2147483647;case neg=>
  rw[Wj (λh=>g h.2)]
  by_cases j:p.k=1
  .rw[show(p.k==1)=true by simp_all,Wc,QdC,Kv,Xa,Wg e,Wc,XaI,Xa,We g,Wa,Xa];rfl
  .have v:p.k=2:=ab
   rw[show(p.k==1)=false by simp_all,Wa,show(p.k==2)=true by simp_all,Wc,QdD,Kv,Xa,Wg e,Wc,XaI,Xa,We g,Wa,Xa];rfl
 rw[Wm ⟨e,g⟩];by_cases j:p.k=1
 .rw[show(p.k==1)=true by simpa using j,Wc,QdC,Kv,Xa,Wg e,Wc,XaI,Xa,Wg g,Wc,Wm j];by_cases x:0<=p.u
  .by_cases y:p.u<=c.W
   .simp[x,y,Xa]
   simp[x,y,Xa]
  simp[x,Xa]
 have v:p.k=2:=ab;rw[show(p.k==1)=false by simp_all,Wa,show(p.k==2)=true by simp_all,Wc,QdD,Kv,Xa,Wg e,Wc,XaI,Xa,Wg g,Wc,Wj j,Wm v];simp only[Xn1,Xa];by_cases o:Xx c p.u>=1;case neg=>grind
 rw[Wg o,Wi,Wa,show((2:Int) != 2)=false from rfl,Wa,Xe (n:=(ps.length:Int)-i) ab ab];by_cases q:Xx c p.u>(ps.length:Int)-i
 .grind
 rw[We q,Wa];have w1:wI ((i:Int)+1)=((i+1:Nat):Int):=Xg ab;have w2:wI ((i:Int)+Xx c p.u)=(i:Int)+Xx c p.u:=Xe ab ab;rw[Xb ab];have B:(wI ((i:Int)+1)).toNat=i+1:=by rw[w1];omega
 have E:(wI ((i:Int)+Xx c p.u)).toNat-(wI ((i:Int)+1)).toNat=(Xx c p.u).toNat-1:=by rw[B,w2];omega
 rw[show(0:Int)=((0:Nat):Int)from rfl,Xkv N ps (i:Int) p 2 (Xx c p.u) ((ps.drop (i+1)).take ((Xx c p.u).toNat-1)) (by grind) (by simp_all) (by simp_all) N 0 ab (by grind),Xa,WX];by_cases f:((ps.drop (i+1)).take ((Xx c p.u).toNat-1)).all (Ya p.s)=true
 .rw[Wm f,Xl,Wm ⟨o,ab,f⟩];grind
 rw[Wj f,Xq,Wj (λh=>f h.2.2)];rfl
def XR{p:Prop}[Decidable p](h:¬p):decide p=false:=We h
def Xfk{N:Nat}{h:Wh}(y:h.p.length<=100000){sp:Int}(o:sp=0\/sp=1):∀(k n i:Nat),i+k<=h.p.length->((h.p.drop i).take k).all (Ka sp)=true ->
 QaB N h (n+k) (k:Int) (i:Int)=if((h.p.drop i).take k).all (Ya sp)=true then QaB N h n 0 ((i+k:Nat):Int)else some (.ret false)
 |0,n,i,q,f=>by simp
 |k+1,n,i,q,f=>by
  have g:i<h.p.length:=ab;have hd:(h.p.drop i).take (k+1)=h.p[i]::(h.p.drop (i+1)).take k:=by rw[Wl g,List.take_succ_cons]
  rw[hd,Oc,WH]at f;rw[hd,Oc,show n+(k+1)=(n+k)+1 from rfl,QaB,Wg ab,Wc,Xf,Wb g,Xa];have B:=Xfk (N:=N) y o k n (i+1) ab f.2;generalize h.p[i]=p at *;have z:p.k=3/\p.s=sp:=by have:=f.1;simp only[Ka,WH,beq_iff_eq]at this;exact this
  have⟨e,A⟩:=z;have r:(p.k==3)=true:=by simpa using e
  rw[r,Wg (show(((k+1:Nat):Int)>0) by omega),show(!(true==true))=false from rfl,Wa,XR (show¬p.s<0 by omega),Wa,XR (show¬p.s>1 by omega),Wa,Xf6,Xa];by_cases hp:p.P=0;case neg=>
   have j:Ya sp p=false:=by simp[Ya,hp]
   rw[j,UK,Wj ac]
   by_cases v:0<=p.P/\p.P<=2147483647
   .rw[Wg v,Wi,Wa]
    simp only[Xv,show(p.k==0)=false by rw[e];rfl,show(p.k==1)=false by rw[e];rfl,show(p.k==2)=false by rw[e];rfl,r,Wa,Wc,show(p.P != 0)=true by simpa using hp,Bool.cond_self]
   grind
  simp only[Xv,show(p.k==0)=false by simp_all,show(p.k==1)=false by simp_all,show(p.k==2)=false by simp_all,r,Wa,Wc,show(p.P != 0)=false by simp_all];by_cases x:p.u=0
  .have j:Ya sp p=true:=by unfold Ya;rw[f.1];simp[x,hp]
   rw[show(p.u != 0)=false by simpa using x,Wa,j,Uf,Xe (n:=((k+1:Nat):Int)-1) ab ab,Xg ab];grind
  have j:Ya sp p=false:=by simp[Ya,x]
  grind
def Xn3{α:Type}{p q:α->Bool}(h:∀x,q x=true->p x=true):∀{l:List α},l.all q=true->l.all p=true:=by simp_all
def XlT{N:Nat}{h:Wh}(hc:XU h.c=true)(V:h.p.length<=100000)(hN:1000000<N){i:Nat}(L:i<h.p.length)(n:Nat)(hn:10<=n):
 QaB N h n 0 (i:Int)=if X7 h.c h.p i h.p[i]=0 then some (.ret false)else QaB N h (n-X7 h.c h.p i h.p[i]) 0 ((i+X7 h.c h.p i h.p[i]:Nat):Int):=by
 obtain⟨n,rfl⟩:∃m,n=m+1:=⟨n-1,ab⟩
 rw[QaB,Wg (show(i:Int)<(h.p.length:Int) by omega),Wc,Xf,Wb L,Xa];generalize h.p[i]=p;have M:(if(0:Int)<wI (0-1)then wI (0-1)else 0)=0:=by rw[Xe ab ab];rfl
 have ge:wI ((i:Int)+1)=((i+1:Nat):Int):=Xg ab;generalize f:X7 h.c h.p i p=s;unfold X7 at f;have no:s=0->(if s=0 then some (.ret false)else QaB N h (n+1-s) 0 ((i+s:Nat):Int))=some (.ret false):=λe=>Wm e;rw[We (show¬(0:Int)>0 by omega)];by_cases O:p.k=3
 .rw[show(p.k==3)=true by simpa using O,show(!(true==false))=true from rfl,Wc];rw[Wj (show¬p.k=0 by omega),Wj (show¬p.k=1 by omega),Wj (show¬p.k=2 by omega),ite_self]at f;exact(no f.symm).symm
 have v:(p.k==3)=false:=by simpa using O
 rw[v,show(!(false==false))=false from rfl,Wa];by_cases o:p.s=0\/p.s=1;case neg=>
  have z:s=0:=by
   rw[←f,Wj (c:=(p.s=0\/p.s=1)/\_) (λg=>o g.1)]
   split
   .rw[Wj (λg=>o (.inl g.1))]
   .rfl
  rw[no z]
  by_cases R:p.s<0
  .rw[Wg R,Wc]
  .rw[XR R,Wa,Wg (show p.s>1 by omega),Wc]
 rw[XR (show¬p.s<0 by omega),Wa,XR (show¬p.s>1 by omega),Wa,Xf6,Xa];by_cases j:0<=p.P/\p.P<=2147483647;case neg=>
  have z:s=0:=by
   rw[←f,Wj (c:=(p.s=0\/p.s=1)/\_) (λg=>j g.2)]
   split
   .rw[Wj (λg=>j ab)]
   .rfl
  rw[no z,XR j,Ub,Wc]
 rw[Wm (c:=(p.s=0\/p.s=1)/\_) ⟨o,j⟩]at f;rw[Wg j,Wi,Wa];by_cases r:p.k=0
 .have E:(p.k==1)=false:=by rw[r];rfl
  have y:(p.k==2)=false:=by rw[r];rfl
  rw[Wm r]at f;simp only[Xv,show(p.k==0)=true by simpa using r,E,y,v,Wc,Wa,Uf];by_cases G:p.s=0/\p.u=0/\p.P=0
  .rw[Wm G]at f;subst f;obtain⟨Y,Z,z3⟩:=G;rw[Wj (show¬(1:Nat)=0 by omega)];simp only[Y,Z,z3,show((0:Int)==0)=true from rfl,Bool.and_self,Wi,Wa,M,ge,IM]
  rw[Wj G]at f;rw[no f.symm,show((p.s==0)&&((p.u==0)&&(p.P==0)))=false by
   rw[Bool.eq_false_iff];intro g;simp only[WH,beq_iff_eq]at g;exact G ⟨g.1,g.2.1,g.2.2⟩]
  rfl
 have I:(p.k==0)=false:=by simpa using r
 rw[Wj r]at f;by_cases A:p.k=1
 .have y:(p.k==2)=false:=by rw[A];rfl
  rw[Wm A]at f;simp only[Xv,show(p.k==1)=true by simpa using A,I,y,v,Wc,Wa];by_cases S:p.u<0
  .rw[Wj ab]at f;rw[Wg S,Wc,no f.symm]
  rw[XR S,Wa];by_cases T:p.u>h.c.W
  .rw[Wj ab]at f;rw[Wg T,Wc,no f.symm]
  rw[Wm ab]at f;subst f;rw[XR T,Wa,Wj (show¬(1:Nat)=0 by omega),M,ge,IM]
 have E:(p.k==1)=false:=by simpa using A
 rw[Wj A]at f;by_cases H:p.k=2;case neg=>
  have y:(p.k==2)=false:=by simpa using H
  rw[Wj H]at f
  simp only[Xv,I,E,y,v,Wa]
  rw[no f.symm]
 rw[Wm H]at f;simp only[Xv,show(p.k==2)=true by simpa using H,I,E,v,Wc,Wa,KX (show 10<=N by omega),Xa];by_cases B:Xx h.c p.u<1
 .rw[Wj (λg=>ab)]at f;rw[Wg B,Wc,no f.symm]
 have hr:=Xbx h.c p.u;rw[XR B,Wa,Xn2 h.p p.s ab hN i L,Xa,Xe (n:=Xx h.c p.u-1) ab ab];obtain⟨k,U⟩:∃k:Nat,Xx h.c p.u=((k+1:Nat):Int):=⟨(Xx h.c p.u).toNat-1,ab⟩
 have J:(Xx h.c p.u).toNat=k+1:=ab;have tw:=XbH (Ka p.s) (h.p.drop (i+1)) k;rw[J,IM,U]at f;rw[U];by_cases ht:((V7 h.p p.s (i+1):Nat):Int)<((k+1:Nat):Int)-1
 .have D:¬k<=((h.p.drop (i+1)).takeWhile (Ka p.s)).length:=by unfold V7 at ht;omega
  rw[Wj (λg=>D (tw.2 ⟨by rw[WA];omega,Xn3 (λx K=>by unfold Ya at K;rw[WH]at K;exact K.1) g.2.2⟩))]at f;rw[Wg ht,Wc,no f.symm]
 have q:=tw.1 (by unfold V7 at ht;omega);rw[WA]at q;have e:(if(0:Int)<((k+1:Nat):Int)-1 then((k+1:Nat):Int)-1 else 0)=(k:Int):=by split<;>omega
 rw[e,ge];obtain⟨m,rfl⟩:∃m,n=m+k:=⟨n-k,ab⟩
 rw[Xfk V o k m (i+1) ab q.2];grind
def XbI{c:WP}{ps:List Wp}{i:Nat}(e:i<ps.length){p:Wp}:X7 c ps i p<=ps.length-i/\X7 c ps i p<=4:=by have f:=Xbx c p.u;unfold X7;grind
def Xd3{N:Nat}{h:Wh}(o:XU h.c=true)(g:h.p.length<=100000)(hN:1000000<N):∀(m i n e:Nat),i<=h.p.length->h.p.length-i<=m->h.p.length-i<n->h.p.length-i+10<=e->Qae N h n (i:Int)=QaB N h e 0 (i:Int)
 |m,i,0,e,_,_,q,_=>by omega
 |m,i,n+1,e,u,v,q,x=>by
  by_cases f:i<h.p.length
  .rw[Qae,Wg ab,Wc,Kb g hN f,Xa,XlT o g hN f e ab];have y:=XbI (c:=h.c) f (p:=h.p[i]);generalize X7 h.c h.p i h.p[i]=s at *;by_cases r:s=0
   .simp_all
   rw[Wj r,show((s:Int)==0)=false by simp_all,Wa,Xe ab ab,show(i:Int)+(s:Int)=((i+s:Nat):Int) by omega];obtain⟨j,rfl⟩:∃j,m=j+1:=⟨m-1,ab⟩
   exact Xd3 o g hN j (i+s) n (e-s) ab ab ab ab
  rw[Qae,We ab,Wa];obtain⟨k,rfl⟩:∃k,e=k+1:=⟨e-1,ab⟩
  rw[QaB,We ab,Wa]
def Yx{N:Nat}{h:Wh}(f:h.p.length<=100000)(hN:1000000<N):Qb2 N h=Qaa N h:=by
 rw[Qb2,Qaa,Je,Zg];simp only[Xa,Xv];cases g:XU h.c with
 |false=>rfl
 |true=>
 have e:=Xd3 g f hN h.p.length 0 N N ab ab ab ab;grind
section
variable {N:Nat}
def XqL{m:Int}(f:0<=m)(o:2*m+1<=18446744073709551615):bOr .u64 (m*2) 1=m*2+1:=by
 obtain⟨n,rfl⟩:=UP f;have hb:IntKind.u64.bits=64:=rfl;show IntKind.u64.wrap ((BitVec.ofInt IntKind.u64.bits ((n:Int)*2) |||BitVec.ofInt IntKind.u64.bits 1).toNat:Int)=_;rw[hb];have g:BitVec.ofInt 64 ((n:Int)*2)=BitVec.ofNat 64 (n*2):=by rw[show(n:Int)*2=((n*2:Nat):Int) by omega];exact BitVec.ofInt_natCast 64 (n*2)
 have h:BitVec.ofInt 64 (1:Int)=BitVec.ofNat 64 1:=ag;have j:n*2 % 2 ^ 64=n*2:=On ab;have e:=Nat.shiftLeft_add_eq_or_of_lt (i:=1) (b:=1) ag n;rw[Nat.shiftLeft_eq,Nat.pow_one]at e;rw[g,h,BitVec.toNat_or,IK,IK,j,show 1 % 2 ^ 64=1 from rfl,←e];show wU _=_;rw[Xt ab ab];omega
def Xkw{a:Int}(f:0<=a)(g:a<=64):∀(n k:Nat),(k:Int)<=a->(a-k).toNat<n->Qfm N a n ((2:Int) ^ k-1) (k:Int)=some ((2:Int) ^ a.toNat-1)
 |0,k,_,j=>by omega
 |n+1,k,q,j=>by
  rw[Qfm];have e:(if 64<(if a<0 then 0 else a)then 64 else(if a<0 then 0 else a))=a:=by rw[Wj (show¬a<0 by omega),Wj ab]
  rw[e];by_cases h:(k:Int)<a
  .have hp:(1:Int)<=2 ^ k:=Int.pow_pos (n:=(2:Int)) (m:=k) ag;have r:(2:Int) ^ k<=2 ^ 63:=by have:2 ^ k<=2 ^ 63:=Oh ab ab;exact_mod_cast this
   have o:Ke .u64 ((2:Int) ^ k-1) 1=wU (((2:Int) ^ k-1)*2):=rfl;rw[Wg h,Wc,o,Xt ab ab,XqL ab ab,Xg ab];have p:((2:Int) ^ k-1)*2+1=2 ^ (k+1)-1:=by rw[Int.pow_succ];omega
   rw[p];exact Xkw f g n (k+1) ab ab
  grind
def ZF{a:Int}(e:0<=a)(f:a<=64)(hN:1000<N):Qa9 N a=some ((2:Int) ^ a.toNat-1):=by have:=Xkw (N:=N) e f N 0 ab ab;rw[Qa9];rw[show((2:Int) ^ 0-1)=0 from rfl,show((0:Nat):Int)=0 from rfl]at this;rw[this,Xa]
def Vw(hN:1000<N)(d:Wy):Qdf N d=some (XC d):=by
 rw[Qdf,XC];by_cases e:d.k<0
 .rw[Wg e,Wc,We ab,UK]
 rw[We e,Wa];by_cases f:d.k>3
 .rw[Wg f,Wc,We ab,UK]
 rw[We f,Wa];by_cases g:d.n<0
 .rw[Wg g,Wc,We ab,UK]
 rw[We g,Wa];by_cases h:d.n>255
 .rw[Wg h,Wc,We (p:=0<=d.k/\d.k<=3/\0<=d.n/\d.n<=255) ab,UK]
 rw[We h,Wa,Wg (p:=0<=d.k/\d.k<=3/\0<=d.n/\d.n<=255) ab,Uf];by_cases j:d.k=1
 .rw[Wm j,Xp j,Wc,Xv];by_cases o:d.n<=32
  .rw[Wg o,Wc,ZF ab ab hN,Xa,Uf,Xcv];exact congrArg some (decide_eq_decide.2 ab)
  rw[We o,Wa,UK]
 grind
def ZG(hN:1000<N)(d:Wy):Qbr N d=some (XB d):=by
 rw[Qbr,Vw hN,Xa,XB];cases h:XC d with
 |false=>rfl
 |true=>have:=XD h;rw[Wi,Wa,Xe (n:=d.n+1) ab ab];rfl
def Xn4(hN:1000<N)(d:Wy)(i:Int):Qfn N d i=some (Kg d i):=by
 rw[Qfn,Vw hN,Xa,Kg];cases h:XC d with
 |false=>rfl
 |true=>
  have hb:=XD h;rw[Wi,Wa,Uf];by_cases f:i<0
  .rw[Wg f,Wc,We ab,UK]
  rw[We f,Wa];by_cases g:i>=d.n
  .rw[Wg g,Wc,We ab,UK]
  rw[We g,Wa,Wg (p:=0<=i/\i<d.n) ab,Uf,Xt (n:=i) ab ab];by_cases e:d.k=2
  .rw[Xp e,Wc,Wg e,Bool.true_or]
  rw[Xj e,Wa,We e,Iu];by_cases j:d.k=1
  .rw[Xp j,Wc,Wg j,Uf,Xb ab]
  grind
def XbJ(hN:1000<N)(d:Wy)(f:XC d=true):∀(n:Nat) (i:Int) (v:List Int),0<=i->i<=d.n+1->(d.n+1-i).toNat<n->v.length+(d.n+1-i).toNat<=1000->Qcd N d (d.n+1) n i v=some (v++X4 d (d.n-i).toNat i)
 |0,i,v,_,_,g,_=>by omega
 |n+1,i,v,o,q,g,r=>by
  have hb:=XD f;rw[Qcd];by_cases h:i<d.n+1
  .rw[Wg h,Wc,Xn4 hN,Xa,Xe (n:=i+1) ab ab];by_cases s:i<d.n
   .obtain⟨k,j⟩:∃k,(d.n-i).toNat=k+1:=⟨(d.n-i).toNat-1,ab⟩
    have e:(d.n-(i+1)).toNat=k:=ab;rw[j,X4];cases hp:Kg d i
    .rw[Wa,XbJ hN d f n (i+1) v ab ab ab ab,e];simp
    rw[Wc,Xb ab,XbJ hN d f n (i+1) _ ab ab ab (by grind),e];simp
   have hp:Kg d i=false:=by unfold Kg;rw[We (p:=0<=i/\i<d.n) ab];simp
   rw[hp,Wa,XbJ hN d f n (i+1) v ab ab ab ab,show(d.n-i).toNat=0 by omega,show(d.n-(i+1)).toNat=0 by omega];rfl
  rw[We h,Wa,show(d.n-i).toNat=0 by omega];simp[X4]
def Xfl(hN:1000<N)(d:Wy)(e:XC d=true):QdU N d=some (XJ d):=by
 have hb:=XD e;have f:XB d=d.n+1:=by unfold XB;rw[e];rfl
 rw[QdU,ZG hN,Xa,f,XbJ hN d e N 0 [] ab ab ab (by grind),Xa,XJ,e];simp
def Xgm{l:List Int}(f:l.length<=1000000)(hN:1000000<N):Qai N l 0=some (!l.all λp=>!(p==0)):=by
 rw[Qai,QbU];rw[JL (p:=λx:Int=>(0==x)) f hN (λn j x e=>by
  have g:=Xu e
  rw[QaA,Xi g,Wc,Xf,e,Xa,Xg ab]) (λn=>by rw[QaA,Xw,Wa])]
 rw[Xa,Ku,←Xgl,Bool.not_not];grind
def Xba:List (List Int)->Nat
 |[]=>0
 |l::ls=>l.length+Xba ls
def Xfm(ls:List (List Int))(e:ls.length<=1000):∀(n k s:Nat),k<=ls.length->ls.length-k<n->s+Xba (ls.drop k)<=10000000->QaV N ls n (s:Int) (k:Int)=some (((s+Xba (ls.drop k):Nat):Int))
 |0,k,s,_,f,_=>by omega
 |n+1,k,s,j,f,g=>by
  rw[QaV];by_cases h:k<ls.length
  .rw[Wl h,Xba]at g⊢;rw[Xi h,Wc,Xf,Wb h,Xa,Xe (n:=(s:Int)+((ls[k].length:Nat):Int)) ab ab,We ab,Wa,Xg ab];have:=Xfm ls e n (k+1) (s+ls[k].length) ab ab ab;grind
  obtain rfl:k=ls.length:=ab;rw[Xw,Wa,WZ (Uh _)];rfl
def Xfn(ls:List (List Int))(e:ls.length<=1000):∀(n k:Nat) (v:List Int),k<=ls.length->ls.length-k<n->v.length+Xba (ls.drop k)<=10000000->QaW N ls n (k:Int) v=some (v++(ls.drop k).flatten)
 |0,k,v,_,f,_=>by omega
 |n+1,k,v,j,f,g=>by
  rw[QaW];by_cases h:k<ls.length
  .rw[Wl h,Xba]at g;rw[Wl h,Xi h,Wc,Xf,Wb h,Xa,Xb ab,Xg ab,Xfn ls e n (k+1) _ ab ab (by rw[WK];omega),List.flatten_cons,W4]
  grind
def Xce(ls:List (List Int))(f:ls.length<=1000)(p:Xba ls<=10000000)(hN:1000000<N):QaR N ls=some ls.flatten:=by
 have g:=Xfm (N:=N) ls f N 0 0 ab ab (by rw[WX];omega);have j:=Xfn (N:=N) ls f N 0 [] ab ab (by rw[WX];simp;omega);rw[show((0:Nat):Int)=0 from rfl,UE]at g;rw[show((0:Nat):Int)=0 from rfl,W8]at j;have o:Qbs N ((Xba ls:Nat):Int)=some []:=by
  rw[Qbs,We ab,Wa,Xe (n:=(0:Int)) ab ab,Int.sub_zero];have e:=Xe (n:=((Xba ls:Nat):Int)) ab ab;by_cases h:(wI ((Xba ls:Nat):Int))>0
  .rw[Wg h,Wc,Xb ⟨rfl,rfl⟩,Xb ab,Xb ab,Xb ab,Ou]
  rw[We h,Wa]
 simp[QaR,g,Xa,o,j]
end
section
variable {N:Nat}
def XcZ{w:Int}(hw:tU w):Xb2 w=⟨w / 4 % 4,w / 16 % 4096,w / 65536 % 4294967296⟩:=by have⟨e,f⟩:=hw;unfold Xb2;rw[show Yy .u64 w 2=w / 4 from YA w 2 ab e,show Yy .u64 w 4=w / 16 from YA w 4 ab e,show Yy .u64 w 16=w / 65536 from YA w 16 ab e];rw[show Y6 .u64 (w / 4) 3=w / 4 % 4 from Yu (w / 4) 2 ab ab ab,show Y6 .u64 (w / 16) 4095=w / 16 % 4096 from Yu (w / 16) 12 ab ab ab];rw[Xe ab ab,Xe ab ab,Xny]
def Xn5{w:Int}(hw:tU w):okH w=(XC (Xb2 w)&&(decide (w / 281474976710656=0)&&decide (w % 4=1))):=by
 have⟨f,g⟩:=hw;unfold okH;cases h:XC (Xb2 w)with
 |false=>rfl
 |true=>
  have hb:=XD h;rw[XcZ ⟨f,g⟩]at hb;have e:Zw (Xb2 w)=1+4*(w / 4 % 4)+16*(w / 16 % 4096)+w / 65536 % 4294967296*65536:=by rw[XcZ ⟨f,g⟩];unfold Zw;have s:∀x:Int,Ke .u64 x 16=wU (x*65536):=λ_=>rfl;simp only[s];simp only[Xcv];omega
  grind
def XtX:Xd [(2:Int),2,12,32] 0=some 2:=by unfold Xd;rfl
def XtY:Xd [(2:Int),2,12,32] 1=some 2:=by unfold Xd;rfl
def XtZ:Xd [(2:Int),2,12,32] 2=some 12:=by unfold Xd;rfl
def Xt0:Xd [(2:Int),2,12,32] 3=some 32:=by unfold Xd;rfl
def Xjo(hN:1000000<N){v:Int}(f:0<=v)(q:v<=18446744073709551615):Qc7 N v [2,2,12,32]=some (if v / 281474976710656=0 then([v % 4,v / 4 % 4,v / 16 % 4096,v / 65536 % 4294967296],0)else([],2)):=by
 obtain⟨m,rfl⟩:∃m,N=m+5:=⟨N-5,ab⟩
 have e:([(2:Int),2,12,32].length:Nat)=4:=rfl;have g:wI (0+1)=1:=Xe ab ab;have h:wI (1+1)=2:=Xe ab ab;have j:wI (2+1)=3:=Xe ab ab;have o:wI (3+1)=4:=Xe ab ab;have r:wI (64-2)=62:=Xe ab ab;have s:wI (62-2)=60:=Xe ab ab;have u:wI (60-12)=48:=Xe ab ab;have x:wI (48-32)=16:=Xe ab ab;have y:Qau (m+5) v [2,2,12,32] (m+5) 64 0=some (.nxt ()):=by rw[Qau,e,XtX];simp only[Xa,g,r];rw[Qau,e,XtY];simp only[Xa,h,s];rw[Qau,e,XtZ];simp only[Xa,j,u];rw[Qau,e,Xt0];simp only[Xa,o,x];rw[Qau,e];rfl
 have p:Qa9 (m+5) 2=some 3:=ZF ab ab ab;have z:Qa9 (m+5) 12=some 4095:=ZF ab ab ab;have A:Qa9 (m+5) 32=some 4294967295:=ZF ab ab ab;have B:Yy .u64 v 2=v / 4:=YA v 2 ab f;have D:Yy .u64 (v / 4) 2=v / 4 / 4:=YA (v / 4) 2 ab ab;have s3:Yy .u64 (v / 4 / 4) 12=v / 4 / 4 / 4096:=YA (v / 4 / 4) 12 ab ab;have s4:Yy .u64 (v / 4 / 4 / 4096) 32=v / 4 / 4 / 4096 / 4294967296:=YA (v / 4 / 4 / 4096) 32 ab ab;have E:Y6 .u64 v 3=v % 4:=Yu v 2 ab f q;have G:Y6 .u64 (v / 4) 3=v / 4 % 4:=Yu (v / 4) 2 ab ab ab;have H:Y6 .u64 (v / 4 / 4) 4095=v / 4 / 4 % 4096:=Yu (v / 4 / 4) 12 ab ab ab;have I:Y6 .u64 (v / 4 / 4 / 4096) 4294967295=v / 4 / 4 / 4096 % 4294967296:=Yu (v / 4 / 4 / 4096) 32 ab ab ab;have J:Qav (m+5) [2,2,12,32] (m+5) v 0 []=some (v / 4 / 4 / 4096 / 4294967296,[v % 4,v / 4 % 4,v / 4 / 4 % 4096,v / 4 / 4 / 4096 % 4294967296]):=by rw[Qav,e,XtX];rw[Wg ab,Wc,Xa,p,Xa,Xb ac,Xb ab,B,E,g];rw[Qav,e,XtY];rw[Wg ab,Wc,Xa,p,Xa,Xb ac,Xb ab,D,G,h];rw[Qav,e,XtZ];rw[Wg ab,Wc,Xa,z,Xa,Xb ac,Xb ab,s3,H,j];rw[Qav,e,Xt0];rw[Wg ab,Wc,Xa,A,Xa,Xb ac,Xb ab,s4,I,o];rw[Qav,e];rw[We ab,Wa];rfl
 rw[Qc7,y,Xa,Xl,J,Xa];grind
def Xd4(hN:1000000<N){w:Int}(hw:tU w):Qd3 N w=some (Zd w,okH w):=by
 have⟨e,f⟩:=hw;rw[Qd3,Xjo hN e f,Xa];unfold Zd;rw[Xn5 ⟨e,f⟩];by_cases h:w / 281474976710656=0
 .have j:Xd [w % 4,w / 4 % 4,w / 16 % 4096,w / 65536 % 4294967296] 0=some (w % 4):=by unfold Xd;rfl
  have g1:Xd [w % 4,w / 4 % 4,w / 16 % 4096,w / 65536 % 4294967296] 1=some (w / 4 % 4):=by unfold Xd;rfl
  have g2:Xd [w % 4,w / 4 % 4,w / 16 % 4096,w / 65536 % 4294967296] 2=some (w / 16 % 4096):=by unfold Xd;rfl
  have g3:Xd [w % 4,w / 4 % 4,w / 16 % 4096,w / 65536 % 4294967296] 3=some (w / 65536 % 4294967296):=by unfold Xd;rfl
  rw[Wm h];simp only[j,g1,g2,g3,Xa,show((0:Int) != 0)=false from rfl,Wa,Xe (n:=w / 4 % 4) ab ab,Xe (n:=w / 16 % 4096) ab ab,XrF (n:=w / 65536 % 4294967296) ab ab];rw[Vw ab,Xa,←XcZ ⟨e,f⟩,Wg h,Uf];by_cases g:w % 4=1
  .rw[g,show((1:Int) != 1)=false from rfl,Wa,Wg rfl,Bool.and_true];cases XC (Xb2 w)<;>rfl
  rw[show(w % 4 != 1)=true by simpa using g,Wc,We g,Bool.and_false];rfl
 simp_all
def Xcf{ws:List Int}(f:ws.length<=1000000){a:Int}(g:a<=18446744073709551615)(n:Int):Qe8 N ws a n=QdF N ws a n:=by
 rw[Qe8,QdF];by_cases e:a<4096
 .rw[Wg e,Wc,Wc]
 rw[XR e,Wa,Wa,Xt (n:=a-4096) ab ab,Xt (n:=(ws.length:Int)) ab ab,Xt (n:=4096+(ws.length:Int)) ab ab];grind
def XhS{ws:List Int}(e:ws.length<=1000000){a:Int}(f:a<=18446744073709551615):Qgo N ws a=Qbj N ws a:=by simp[Qgo,Qbj,Qhd,QfS,Xcf,e,f]
def Xn6{ws:List Int}(e:ws.length<=1000000){a:Int}(f:a<=18446744073709551615)(n:Int):QgX N ws a n=Qc8 N ws a n:=by
 rw[QgX,Qc8,Xcf e f];by_cases g:n<0
 .simp_all
 rw[XR g,Wa,Wa];congr 1;funext y;cases y.2 with
 |false=>rfl
 |true=>simp only[Wi,Wa,Qac,Xa];unfold grd;grind
structure HT(h:Wh):Prop where
 hb:HB h
 tw:XS h
def HT.word{h:Wh}(t:HT h){i w:Int}(e:Xd h.w i=some w):tU w:=by have:=t.tw;exact this w (Yr e)
def Xcg(hN:NB N){h:Wh}(ht:HT h){a:Int}(v:tU a):Qeu N h a=Qao N h a:=by
 have f:1000000<N:=by unfold NB at hN;omega
 have hb:=ht.hb;unfold HB at hb;rw[Qeu,Qao,Yx ab f];have⟨b,eb,j⟩:=YK (N:=N) ab (h:=h) ab ab;rw[eb,Xa,Xa];cases b with
 |false=>rfl
 |true=>
 have hp:=j rfl;rw[Wi,Wa,Wa,Xjn _ _ _ v.2,KR,Wj (by simp[hp.conf])];by_cases g:4096<=a/\a<4096+h.c.p*h.c.W;case neg=>simp[Wj,g,Xa]
 rw[Wm g,Xa,Xa];have po:=Xf5 hp.conf g.1 g.2;have y:=hp.pages;generalize (a-4096) / h.c.W=pn at *;generalize (a-4096) % h.c.W=e at *;have o:=hp.pgs pn ab ab;have q:=o.small;rw[Xn ab ab,Xa,Xa];generalize pg h.p pn=p at q⊢;rw[QgD,XhS ab v.2];have A:=Xh.1 hp.conf;have B:=XE hp.conf (i:=0) ab ab;have r:∃w,Qbj N h.w a=some (w,0)/\tU w:=by rw[Qbj,QfS,QdF,XR (show¬a<4096 by omega),Wa,Xt (n:=(h.w.length:Int)) ab ab,Xt (n:=4096+(h.w.length:Int)) ab ab,XR (show¬a>4096+(h.w.length:Int) by have:=hp.words;omega),Wa,Xt (n:=a-4096) ab ab,Xe (n:=a-4096) ab ab,Xe ab ab,Xa];rw[Wg (show 1<=(h.w.length:Int)-(a-4096) by have:=hp.words;omega),Wi,Wa,Xa];simp only[show((0:Int) != 0)=false from rfl,Wa];have x:=X1 (l:=h.w) (i:=a-4096) ab (by have:=hp.words;omega);exact⟨_,by rw[x,Xa],ht.word x⟩
 have⟨w,r,tw⟩:=r;rw[r,Xa,Xa,Xa,Xd4 f tw,ZE,Xa,Xa];simp only[ZG (show 1000<N by omega),XQ,Xa,Xv];have D:=Xe7 w;generalize Zd w=d at *;generalize XB d=s at *;cases okH w with
 |false=>simp
 |true=>
  by_cases k1:p.k=1
  .have k2:(p.k==2)=false:=by rw[k1];rfl
   simp only[show(p.k != 1)=false by simpa using k1,show(p.k==1)=true by simpa using k1,k2,Wc,Wa];by_cases u:e>=p.u
   .rw[Wg u,Wc,Wc];rfl
   rw[XR u,Wa,Wa];by_cases z:wI (e+s)>p.u
   .rw[Wg z,Wc];rw[Xe (n:=e+s) ab ab]at z;have:¬s<=wI (p.u-e):=by rw[Xe ab ab];omega
    rw[XR this];rfl
   rw[XR z,Wa];rw[Xe (n:=e+s) ab ab]at z;rw[Xe (n:=p.u-e) ab ab,Wg ab];rfl
  grind
end
section
variable {N:Nat}
def fnd(h:Wh)(a:Int):UU:=⟨a,hdA h.w a⟩
def XhT(l:List UU)(f:l.length<=1000000):∀(n k:Nat) (v:List Int),k<=l.length->l.length-k<n->v.length=k->Qdj N l n (k:Int) v=some (v++(l.drop k).map (·.addr))
 |0,k,v,_,h,_=>by omega
 |n+1,k,v,j,o,g=>by
  rw[Qdj];by_cases e:k<l.length
  .rw[Wg ab,Wc,Xf,Wb e,Xa,Xb ab,Xg ab,XhT l f n (k+1) _ ab ab (by simp[g]),Wl e,W4,UA];rfl
  grind
def Xd5(l:List UU)(e:l.length<=1000000)(hN:1000000<N):Qcm N l=some (l.map (·.addr)):=by rw[Qcm,show(0:Int)=((0:Nat):Int)from rfl,XhT l e N 0 [] ab ab rfl,Xa];simp
def XqM(h:Wh)(l:List Int):(l.map (fnd h)).map (·.addr)=l:=by rw[IU];exact List.map_id'' (λ_=>rfl) l
def Xvv(h:Wh):Ex (List Int×Int) (List Int)->List UU×Int
 |.ret r=>([],19)
 |.nxt l=>(l.map (fnd h),0)
def Xfo(hN:NB N){h:Wh}(ht:HT h)(hp:Uv h){i:Int}(A:0<=i)(E:i<h.p.length)(g:(pg h.p i).k=1\/(pg h.p i).k=2):∀(n:Nat) (o:Int) (l:List Int),0<=o->(66-o).toNat<n->(l.length:Int)<=o->((pg h.p i).k=1->o<=64)->((pg h.p i).k=2->o=0) ->
 ∃e,Qah N h i (pg h.p i) n o l=some e/\Qb3 N h i (pg h.p i) n o (l.map (fnd h))=some (Xvv h e)/\(∀r,e=.ret r->r=([],19))
 |0,o,l,G,H,I,k1,k2=>by omega
 |n+1,o,l,G,H,I,k1,k2=>by
  have J:1000000<N:=by unfold NB at hN;omega
  have U:=Xh.1 hp.conf;have K:=hp.pages;have L:=(hp.pgs i A E).small;rw[Qah,Qb3];by_cases j:o<(pg h.p i).u;case neg=>rw[XR j,Wa,Wa];exact⟨_,rfl,rfl,λr e=>by grind⟩
  have q:o<h.c.W:=by
   rcases g with g|g
   .omega
   omega
  rw[Wg j,Wc,Wc,Xd2,Z7,hp.conf,Xa,Xa,Wj ac,Wm ab];have M:=XE hp.conf (i:=i) A ab;have O:tU (Xc h.c i o):=by unfold Xc;exact⟨ab,ab⟩
  rw[show((0:Int)==0)=true from rfl,Wc,Xcg hN ht O];have⟨y,R,S⟩:=Xcw hN ht.hb (Xc h.c i o);rw[R,Xa,Xa];by_cases B:y.2=0;case neg=>
   rw[show(y.2 != 0)=true by simp_all,show(y.2==0)=false by simp_all,Wc,Wa]
   exact⟨_,rfl,rfl,λr e=>by simp_all⟩
  have⟨_,_,s,D⟩:=S B;have v:=Xy h.w (Xc h.c i o);have f:=Yd hp.conf (p:=i) G q;rw[show(y.2 != 0)=false by simp_all,show(y.2==0)=true by simp_all,Wc,Wa,D,Xb ab];rw[ZG ab,Xa,v.1,Xb (by grind)];rw[show UU.mk (Xc h.c i o) (hdA h.w (Xc h.c i o))=fnd h (Xc h.c i o)from rfl];have T:l.map (fnd h)++[fnd h (Xc h.c i o)]=(l++[Xc h.c i o]).map (fnd h):=by simp
  rw[T];rcases g with g|g
  .rw[show((pg h.p i).k==2)=false by simp_all,Wa,XQ,Xa,v.1];have x:=s.small;rw[f.1,f.2]at x;rw[Xe (n:=o+szA h.w (Xc h.c i o)) ab ab];exact Xfo hN ht hp A E (.inl g) n _ _ ab ab (by grind) (λ_=>ab) (λk=>ab)
  rw[show((pg h.p i).k==2)=true by simp_all,Wc];have z:=s.large;rw[f.1,f.2]at z;refine⟨_,rfl,?_,λr e=>by grind⟩;rw[Xe (n:=o+szA h.w (Xc h.c i o)) ab ab];obtain⟨m,rfl⟩:∃m,n=m+1:=⟨n-1,ab⟩
  rw[Qb3,XR ab,Wa];rfl
def Xo{h:Wh}(hN:NB N)(hb:HB h)(ep:Qaa N h=some true):Uv h:=by have⟨b,eb,e⟩:=YK (N:=N) (by unfold NB at hN;omega) hb.1 hb.2;simp_all
def Jf(hN:NB N){h:Wh}(hb:HB h):∃b,Qaa N h=some b:=by have⟨b,eb,_⟩:=YK (N:=N) (by unfold NB at hN;omega) hb.1 hb.2;simp_all
def Xd6(hN:NB N){h:Wh}(ht:HT h)(ep:Qaa N h=some true){i:Int}(f:0<=i)(g:i<h.p.length):∃r,Qaf N h i=some r/\QfU N h i=some (r.1.map (fnd h),r.2)/\(r.2≠0->r=([],19)):=by
 have hb:=ht.hb;have hp:=Xo hN hb ep;rw[Qaf,QfU,ep,Xa,Xn f g,Xa,Xa,Wi,Wa,XR (show¬i<0 by omega),Wa,XR (show¬i>=_ by omega),Wa];have o:=(hp.pgs i f g).kind;have main:((pg h.p i).k=1\/(pg h.p i).k=2)->∃r,(bnd (Qah N h i (pg h.p i) N 0 []) λe=>exK e (λr=>some r) λq=>some (q,0))=some r/\Qb3 N h i (pg h.p i) N 0 []=some (r.1.map (fnd h),r.2)/\(r.2≠0->r=([],19)):=by
  intro s;obtain⟨e,u,j,e3⟩:=Xfo hN ht hp f g s N 0 [] ab (by unfold NB at hN;omega) ac (λ_=>ab) (λ_=>rfl);rw[u,Xa];rw[Il]at j;rw[j];cases e with
  |ret r=>rw[e3 r rfl];rw[Xq];exact⟨_,rfl,rfl,λ_=>rfl⟩
  |nxt l=>rw[Xl];exact⟨_,rfl,rfl,λh=>absurd rfl h⟩
 by_cases k1:(pg h.p i).k=1
 .simp_all
 by_cases k2:(pg h.p i).k=2
 .simp_all
 rw[show((pg h.p i).k != 1)=true by simpa using k1,show((pg h.p i).k != 2)=true by simpa using k2];refine⟨([],0),?_,rfl,λh=>absurd rfl h⟩;grind
def QmH(hN:NB N){h:Wh}(hb:HB h)(i:Int){r:List Int×Int}(e:Qaf N h i=some r):r.1.length<=64:=by have:=(QkU hN hb i).get_eq e;omega
def Xd7(hN:NB N){h:Wh}(ht:HT h)(i:Int):Qe1 N h i=Qaf N h i:=by
 have hb:=ht.hb;rw[Qe1,Yx (by have:=hb.2;omega) (by unfold NB at hN;omega)];have⟨b,eb⟩:=Jf (N:=N) hN hb;rw[eb,Xa];cases b with
 |false=>simp[Qaf,eb,Xa]
 |true=>
 by_cases e:i<0
 .rw[Qaf,eb,Xa,Wg e];rfl
 by_cases f:i>=h.p.length
 .rw[Qaf,eb,Xa,XR e,Wg f];rfl
 have⟨r,g,j,e3⟩:=Xd6 hN ht eb (i:=i) ab ab;rw[Wi,Wa,XR e,Wa,XR f,Wa,j,Xa,g];have o:=QmH hN hb i g;by_cases z:r.2=0
 .rw[show(r.2 != 0)=false by simpa using z,Wa,Xd5 _ (by rw[Ug];omega) (by unfold NB at hN;omega),Xa,XqM];congr 1;exact Prod.ext rfl z.symm
 simp_all
def Xkx(hN:NB N){h:Wh}(ht:HT h)(ep:Qaa N h=some true):∀(n k:Nat) (l:List Int),k<=h.p.length->h.p.length-k<n->l.length<=64*k ->
 ∃e,QaJ N h n (k:Int) l=some e/\QfW N h n (k:Int) (l.map (fnd h))=some (match e with|.ret r=>.ret (r.1.map (fnd h),r.2)|.nxt l=>.nxt (l.map (fnd h)))/\(∀r,e=.ret r->r=([],19))/\(∀f,e=.nxt f->f.length<=64*h.p.length)
 |0,k,l,_,h,_=>by omega
 |n+1,k,l,s,u,v=>by
  have hb:=ht.hb;have j:=hb.2;rw[QaJ,QfW];by_cases o:k<h.p.length;case neg=>rw[We (show¬(k:Int)<_ by omega),Wa,Wa];refine⟨_,rfl,rfl,?_,?_⟩<;>intro r e<;>cases e;omega
  rw[Wg (show(k:Int)<_ by omega),Wc,Wc];have⟨r,g,q,e3⟩:=Xd6 hN ht ep (i:=(k:Int)) ab ab;rw[g,q,Xa,Xa];have x:=QmH hN hb (k:Int) g;by_cases z:r.2=0
  .rw[show(r.2 != 0)=false by simpa using z,Wa,Wa,Xb ab,Xb ai,Xg ab,←UI];exact Xkx hN ht ep n (k+1) _ ab ab (by rw[WK];omega)
  simp_all
def XqN(hN:NB N){h:Wh}(ht:HT h):∃r,QbB N h=some r/\Qht N h=some (r.1.map (fnd h),r.2)/\(r.2≠0->r.1=[])/\r.1.length<=6400000:=by
 have hb:=ht.hb;have g:=hb.2;rw[QbB,Qht,Yx ab (by unfold NB at hN;omega)];have⟨b,eb⟩:=Jf (N:=N) hN hb;rw[eb,Xa,Xa];cases b with
 |false=>simp
 |true=>
 rw[Wi,Wa,Wa];have⟨e,j,f,e3,e4⟩:=Xkx hN ht eb N 0 [] ab (by unfold NB at hN;omega) ac;rw[Il]at f;rw[show(0:Int)=((0:Nat):Int)from rfl,j,f,Xa,Xa];cases e with
 |ret r=>rw[Xq];rw[Xq,e3 r rfl];simp
 |nxt l=>rw[Xl];grind[Xl]
end
section
variable {N:Nat}
def YY(f:UU):Bool:=!(f.hd.k==0)
def Ye(h:Wh)(l:List Int):List Int:=l.filter λa=>YY (fnd h a)
def Xjp(e:List UU)(r:e.length<=1000000):∀(n i j:Nat) (v:List UU),i<=j->j<=e.length->e.length-j<n->v.length=e.length->v.drop j=e.drop j ->
 ∃(f:Nat) (g:List UU),Qcv N n (i:Int) (j:Int) v=some ((f:Int),g)/\g.length=e.length/\f<=e.length/\g.take f=v.take i++(e.drop j).filter YY
 |0,i,j,v,_,_,h,_,_=>by omega
 |n+1,i,j,v,s,z,A,u,hd=>by
  rw[Qcv,Xb ab];by_cases o:j<e.length;case neg=>
   grind
  have p:v[j]'ab=e[j]:=by have a:=Wl (l:=v) (i:=j) ab;have b:=Wl (l:=e) (i:=j) ab;rw[hd,b]at a;exact(IX a).1.symm
  have q:v.drop (j+1)=e.drop (j+1):=by have a:=Wl (l:=v) (i:=j) ab;have b:=Wl (l:=e) (i:=j) ab;rw[hd,b]at a;exact(IX a).2.symm
  rw[Wg ab,Wc,Xf,Wb ab,Xa,Qew,Xa,p,Wl o];cases B:(e[j].hd.k==0)with
  |true=>rw[Wi,Wa,Xg ab,UC (by unfold YY;simp_all)];exact Xjp e r n i (j+1) v ab ab ab u q
  |false=>rw[Ub,Wc,Xf,Wb ab,Xa,Xg ab,Xg ab,Uq (by unfold YY;simp_all)];have⟨f,g,x,y,e3,e4⟩:=Xjp e r n (i+1) (j+1) (v.set i e[j]) ab ab ab (by simp_all) (by rw[UV ab];omega);refine⟨f,g,x,y,e3,?_⟩;rw[e4,List.take_succ,List.getElem?_set_self ab,IZ (Uh _)];simp
def XqO(l:List UU)(g:l.length<=1000000)(hN:1000000<N):Qas N l=some (YS (λf=>f.hd.k==0) l):=by
 exact JL (p:=λf:UU=>f.hd.k==0) g hN (λn k x e=>by
  have h:=Xu e
  rw[Qak,Xi h,Wc,Xf,e,Xa,Qew,Xa,Xg ab]) (λn=>by rw[Qak,Xw,Wa])
def XlU(l:List UU)(o:l.length<=1000000)(hN:1000000<N):(bnd (Qas N l) λp=>
 bif (p==(-1))then(bnd (Qcm N l) λq=>
  some (q,(0:Int)))
 else bnd (Qcv N N p (wI (p+1)) l) λe=>
 grd (0<=e.1/\e.1<=(e.2.length:Int)/\(e.2.length:Int)<=(e.2.length:Int)) <|
 grd (0<=e.1/\e.1<=(((((min e.1.toNat e.2.length)+(e.2.length-e.1.toNat))+(e.2.length-(e.1.toNat+(e.2.length-e.1.toNat)))):Nat):Int)) <|
 bnd (Qcm N ((((e.2.take e.1.toNat)++(List.replicate (e.2.length-e.1.toNat) (UU.mk 0 (Wy.mk 0 0 0))))++(e.2.drop (e.1.toNat+(e.2.length-e.1.toNat)))).take e.1.toNat)) λr=>
 some (r,0))=some ((l.filter YY).map (·.addr),0):=by
 rw[XqO l o hN,Xa];unfold YS;cases s:l.findIdx? (λf=>f.hd.k==0)with
 |none=>
  have g:l.filter YY=l:=by rw[IP]at s;rw[In];intro x u;unfold YY;rw[s x u];rfl
  rw[show((-1:Int)==-1)=true from rfl,Wc,Xd5 l o hN,Xa,g]
 |some j=>
  have⟨v,hp,hb⟩:=UJ.1 s;rw[show((j:Int)==-1)=false by simp,Wa,Xg ab];have⟨i',h,y,D,e3,e4⟩:=Xjp (N:=N) l o N j (j+1) l ab ab ab rfl rfl;rw[y,Xa];dsimp only;rw[Xb ab,Xb ab,show((i':Int)).toNat=i' from rfl];have et:(((h.take i')++(List.replicate (h.length-i') (UU.mk 0 (Wy.mk 0 0 0))))++(h.drop (i'+(h.length-i')))).take i'=h.take i':=by rw[W4,List.take_append_of_le_length (by grind),List.take_take,UF]
  have z:l.filter YY=l.take j++(l.drop (j+1)).filter YY:=by
   conv=>lhs;rw[←If j l,IJ,Wl v,UC (by unfold YY;simp_all)]
   congr 1;rw[In];intro x u;obtain⟨k,A,rfl⟩:=Wv u;rw[Ws]at A;rw[Iy];have:=hb k ab;unfold YY;simpa using this
  rw[et,e4,←z];have B:(l.filter YY).length<=l.length:=List.length_filter_le _ _;rw[Xd5 _ ab hN,Xa]
def XaJ{h:Wh}(y:List Int×Int)(j:y.1.length<=1000000)(e:∀a∈y.1,Qao N h a=some (hdA h.w a,0)):∀(n k:Nat) (v:List Int),k<=y.1.length->y.1.length-k<n->v.length<=k ->
 Qa7 N h y n (k:Int) v=some (v++Ye h (y.1.drop k))
 |0,k,v,_,o,_=>by omega
 |n+1,k,v,g,o,p=>by
  rw[Qa7];by_cases f:k<y.1.length
  .rw[Wg ab,Wc,Xf,Wb f,Xa,e _ (Wt f),Xa,Xg ab,Wl f,Ye];by_cases g:(hdA h.w y.1[k]).k=0
   .rw[show((hdA h.w y.1[k]).k != 0)=false by simp_all,Wa,XaJ y j e n (k+1) v ab ab ab,UC (by simp[YY,fnd,g])];rfl
   rw[show((hdA h.w y.1[k]).k != 0)=true by simp_all,Wc,Xa,Xb ab,XaJ y j e n (k+1) _ ab ab (by simp_all),Uq (by simp[YY,fnd,g])];simp[Ye]
  rw[We ab,Wa,WZ ab];simp[Ye]
def JA(hN:NB N){h:Wh}(ht:HT h):QdR N h=Qal N h:=by
 have e:1000000<N:=by unfold NB at hN;omega
 have⟨r,f,o,e3,_⟩:=XqN hN ht;have⟨g,hp,_⟩:=(J5 hN ht.hb).get_eq f;have j:=g.len;rw[QdR,Qal,f,o,Xa,Xa];rw[show(0:Int)=((0:Nat):Int)from rfl,XaJ r ab g.obj.ev N 0 [] ab ab ac,Xa,WX,W8];by_cases z:r.2=0
 .rw[show(r.2 != ((0:Nat):Int))=false by simp_all,Wa];have:=XlU (N:=N) (r.1.map (fnd h)) (by grind) e;rw[show((0:Nat):Int)=0 from rfl,this,z];congr 2;rw[List.filter_map,IU];exact List.map_id'' (λ_=>rfl) _
 rw[show(r.2 != ((0:Nat):Int))=true by simp_all,Wc,e3 z];rfl
end
section
variable {N:Nat}
def exM{α β γ:Type}(f:α->γ):Ex α β->Ex γ β
 |.ret a=>.ret (f a)
 |.nxt b=>.nxt b
def IF.tu{h:Wh}(hp:Uv h){a:Int}(e:IF h a):tU a:=by have:=e.rng;have:=XE hp.conf (i:=0) ab (by have:=Xh.1 hp.conf;omega);exact⟨ab,ab⟩
def Xfp(hN:NB N){h:Wh}(ht:HT h)(hp:Uv h){i:Int}(r:0<=i)(s:i<h.p.length)(l:List Int)(u:l.length<=4096)(f:∀a∈l,IF h a)(g:∀a∈l,Qao N h a=some (hdA h.w a,0)):∀(n k:Nat),k<=l.length->l.length-k<n ->
 ∃e,QaU N h i l n (k:Int)=some e/\Qco N h i l n (k:Int)=some (exM (λa=>(a,true)) e)/\∀a,e=.ret a->a∈l
 |0,k,_,v=>by omega
 |n+1,k,x,v=>by
  rw[QaU,Qco];by_cases j:k<l.length;case neg=>rw[We ab,Wa,Wa];exact⟨_,rfl,rfl,λa e=>by grind⟩
  have o:=Wt j;have q:1000<N:=by unfold NB at hN;omega
  have nx:=Xfp hN ht hp r s l u f g n (k+1) ab ab;simp only[Wg (show(k:Int)<(l.length:Int) by omega),Wc,Xf,Wb j,Xa,Xcg hN ht ((f _ o).tu hp),g _ o,ZG q,XQ,Xn0,Xhn,Xn r s,Xg (show k<=140737488355328 by omega)];cases ((pg h.p i).k==1)<;>cases ((pg h.p i).k==2)<;>cases (decide (XB (hdA h.w l[k])<=smC h.c))<;>cases ((hdA h.w l[k]).k==0);all_goals simp only[Wc,Wa,Wi,Ub]
  all_goals first
   |exact nx
   |exact⟨_,rfl,rfl,λa e=>by cases e;exact o⟩
def XlV(hN:NB N){h:Wh}(ht:HT h)(hp:Uv h){i:Int}(j:0<=i)(o:i<h.p.length)(l:List Int)(q:l.length<=4096)(f:∀a∈l,IF h a)(g:∀a∈l,Qao N h a=some (hdA h.w a,0)):
 ∃a,Qel N h i l=some a/\∃b,QfV N h i l=some (b,a != 0):=by
 have⟨e,r,s,e3⟩:=Xfp hN ht hp j o l q f g N 0 ab (by unfold NB at hN;omega);rw[Qel,QfV,show(0:Int)=((0:Nat):Int)from rfl,r,s,Xa,Xa];cases e with
 |ret a=>have:=(f a (e3 a rfl)).rng;simp only[exM,Xq];exact⟨a,rfl,a,by rw[show(a != ((0:Nat):Int))=true by grind]⟩
 |nxt u=>simp[exM,Xl]
def XhU{h:Wh}(e:(pg h.p 0).k≠3)(f:h.p.length<=100000):∀(n i:Nat),i<h.p.length->i<n->QeN N h n (i:Int)=QcM N h n (i:Int)
 |0,i,_,g=>by omega
 |n+1,i,o,g=>by
  rw[QeN,QcM,Xn ab ab,Xa,Xa];cases i with
  |zero=>grind
  |succ j=>rw[Wg ab,Wc,Xe ab ab,show((j+1:Nat):Int)-1=(j:Int) by omega,XhU e f n j ab ab]
def Xn7(hN:NB N){h:Wh}(hb:HB h)(hp:Uv h){i:Int}(e:0<=i)(f:i<h.p.length):QgY N h i=QeU N h i:=by
 obtain⟨k,rfl⟩:∃k:Nat,i=(k:Int):=⟨i.toNat,ab⟩
 have:=hb.2;rw[QgY,QeU,XhU hp.first this N k ab (by unfold NB at hN;omega)]
def Kh(h:Wh)(a:Int):Int:=if(hdA h.w a).k=0 then 1 else szA h.w a
def XlW(h:Wh)(i:Int)(l:List Int)(k:Int):Bool:=l.any λa=>decide (a-Xc h.c i 0<=k/\k<a-Xc h.c i 0+Kh h a)
def Xky(h:Wh)(hp:Uv h)(i:Int)(z:0<=i)(B:i<h.p.length)(l:List Int)(k:Nat)(a:Int)(A:l[k]? = some a)(x:Int)(D:x<=256)(E:4096<=a/\a<=8192):∀(n:Nat) (w:Int) (u:List Bool),0<=w->(x-w).toNat<n->u.length<=1000 ->
 ∃e,QbR N h i l (k:Int) x n w u=some e/\e.length=u.length/\∀j,j<u.length->e.getD j false=(u.getD j false||decide (a-Xc h.c i 0+w<=j/\(j:Int)<a-Xc h.c i 0+x))
 |0,w,u,_,G,_=>by omega
 |n+1,w,u,hw,G,K=>by
  have H:=hp.pages;have L:=Xh.1 hp.conf;have M:=XE hp.conf (i:=i) z ab;rw[QbR];by_cases f:w<x;case neg=>
   rw[XR f,Wa]
   exact⟨u,rfl,rfl,λj g=>by rw[XR (show¬_ by omega),Bool.or_false]⟩
  have O:Xc h.c i 0=4096+i*h.c.W:=by unfold Xc;omega
  rw[Wg f,Wc,Xf,A,Xa];rw[Xe (n:=a) ab ab,Xe (n:=a-4096) ab ab,Xe (n:=a-4096+w) ab ab,Xe (n:=i*h.c.W) ab ab,Xe (n:=a-4096+w-i*h.c.W) ab ab,Xe (n:=w+1) ab ab];generalize R:a-4096+w-i*h.c.W=q;have step:∀v:List Bool,v.length=u.length->(∀j,j<u.length->v.getD j false=(u.getD j false||decide ((j:Int)=q)))->∃e,QbR N h i l (k:Int) x n (w+1) v=some e/\e.length=u.length/\∀j,j<u.length->e.getD j false=(u.getD j false||decide (a-Xc h.c i 0+w<=j/\(j:Int)<a-Xc h.c i 0+x)):=by intro v o r;obtain⟨e,I,J,e3⟩:=Xky h hp i z B l k a A x D E n (w+1) v ab ab ab;refine⟨e,I,J.trans o,λj g=>?_⟩;rw[e3 j ab,r j g,Bool.or_assoc];congr 1;rw[←Bool.decide_or];exact decide_eq_decide.2 ab
  by_cases s:q>=0;case neg=>
   rw[XR s,Wa]
   exact step u rfl λj g=>by rw[XR (show¬(j:Int)=q by omega),Bool.or_false]
  rw[Wg s,Wc,Xb ab];by_cases y:q<u.length;case neg=>
   rw[XR y,Wa]
   exact step u rfl λj g=>by rw[XR (show¬(j:Int)=q by omega),Bool.or_false]
  rw[Wg y,Wc,X1 s y,Xa];refine step _ (by rw[WL]) λj g=>?_;rw[Wk,U5];grind
end
section
variable {N:Nat}
def XlX(h:Wh)(i k a:Int):Bool:=decide (a-Xc h.c i 0<=k/\k<a-Xc h.c i 0+Kh h a)
def Xgn(h:Wh)(i:Int)(l:List Int)(k:Int):XlW h i l k=l.any (XlX h i k):=rfl
def Xgo(h:Wh)(a:Int):1<=Kh h a/\Kh h a<=256:=by have:=Xy h.w a;unfold Kh;omega
def Xkz(hN:NB N){h:Wh}(hp:Uv h)(i:Int)(x:0<=i)(y:i<h.p.length)(l:List Int)(B:l.length<=4096)(o:∀a∈l,IF h a)(r:∀a∈l,Qao N h a=some (hdA h.w a,0)):∀(n k:Nat) (u:List Bool),k<=l.length->l.length-k<n->u.length<=1000 ->
 ∃s,Qdk N h i l n (k:Int) u=some s/\s.length=u.length/\∀j:Nat,j<u.length->s.getD j false=(u.getD j false||(l.drop k).any (XlX h i (j:Int)))
 |0,k,u,_,D,_=>by omega
 |n+1,k,u,K,D,E=>by
  have L:=Xh.1 hp.conf;have M:=XE hp.conf (i:=0) ab ab;have G:1000000<N:=by unfold NB at hN;omega
  rw[Qdk];by_cases f:k<l.length;case neg=>
   rw[We ab,Wa,WZ ab]
   exact⟨u,rfl,rfl,λj z=>ac⟩
  have g:=Wt f;have O:=(o _ g).rng;have H:=Xgo h l[k];have v:=Xy h.w l[k];have e:∀kk:Int->Option (List Bool),(jn kk λA=>bif ((hdA h.w l[k]).k==0)then A 1 else A (XB (hdA h.w l[k])))=kk (Kh h l[k]):=by
   intro kk;rw[Xv];unfold Kh;rw[v.1];by_cases q:(hdA h.w l[k]).k=0
   .rw[Wm q,show((hdA h.w l[k]).k==0)=true by simpa using q,Wc]
   rw[Wj q,show((hdA h.w l[k]).k==0)=false by simpa using q,Wa]
  rw[Wg ab,Wc,Xf,Wb f,Xa,r _ g,Xa,XQ,Xa];rw[e];have⟨I,f1,f2,J⟩:=Xky (N:=N) h hp i x y l k l[k] (Wb f) (Kh h l[k]) H.2 ab N 0 u ab ab E;rw[f1,Xa,Xg ab];have⟨s,g1,g2,g3⟩:=Xkz hN hp i x y l B o r n (k+1) I ab ab ab;refine⟨s,g1,g2.trans f2,λj z=>?_⟩;rw[g3 j ab,J j z,Bool.or_assoc,Wl f,List.any_cons];unfold XlX;simp
def XkA(hN:NB N){h:Wh}(hp:Uv h)(i:Int)(o:0<=i)(q:i<h.p.length)(l:List Int)(r:l.length<=4096)(e:∀a∈l,IF h a)(f:∀a∈l,Qao N h a=some (hdA h.w a,0)):
 ∃u,QgS N h i l=some u/\u.length=h.c.W.toNat/\∀j:Nat,j<u.length->u.getD j false=XlW h i l (j:Int):=by have v:=Xh.1 hp.conf;rw[QgS,Xb ab,show(0:Int)=((0:Nat):Int)from rfl];have⟨u,s,g,e3⟩:=Xkz hN hp i o q l r e f N 0 (List.replicate h.c.W.toNat false) ab (by unfold NB at hN;omega) (by grind);rw[s,Xa];rw[W9]at g e3;refine⟨u,rfl,g,λj x=>?_⟩;rw[e3 j ab,WX,Xgn,show(List.replicate h.c.W.toNat false).getD j false=false by simp_all,Iu]
def wdP(h:Wh)(i:Int)(k:Nat):Int:=wd h.w (Xc h.c i 0+k)
def XqP(hN:NB N){h:Wh}(hb:HB h)(hp:Uv h){i:Int}(e:0<=i)(j:i<h.p.length){k:Nat}(o:(k:Int)<h.c.W):Qfv N h i (k:Int)=some (wdP h i k):=by
 have f:=hp.pages;have q:=XE hp.conf (i:=i) e ab;rw[Qfv,QgT,Z7,hp.conf,Wj ac,Wm ab,Xa,Yg (by unfold BIG;have:=hb.1;omega),Xa,Xa];have g:Xc h.c i (k:Int)=Xc h.c i 0+k:=by unfold Xc;omega
 have hw:=hp.words;rw[g,Wm (by unfold inW Xc;omega)];rfl
def Xgp(hN:NB N){h:Wh}(hb:HB h)(hp:Uv h){i:Int}(g:0<=i)(q:i<h.p.length)(u:List Bool)(r:u.length=h.c.W.toNat):∀(n k:Nat),k<=u.length->u.length-k<n ->
 ∃e,QcN N h i u n (k:Int)=some e/\((∃j,k<=j/\j<u.length/\u.getD j false=false/\wdP h i j≠0)->∃a,e=.ret a/\a≠0)/\((¬∃j,k<=j/\j<u.length/\u.getD j false=false/\wdP h i j≠0)->e=.nxt ())
 |0,k,_,s=>by omega
 |n+1,k,B,s=>by
  have v:=hp.pages;have D:=XE hp.conf (i:=i) g ab;rw[QcN];by_cases f:k<u.length;case neg=>
   grind
  rw[Wg ab,Wc,Xf,Wb f,Xa,XqP hN hb hp g q ab,Xa,Xg ab];have E:u.getD k false=u[k]:=by rw[Wk,Wb f];rfl
  have skip:(u[k]=true\/wdP h i k=0)->∃e,QcN N h i u n ((k+1:Nat):Int)=some e/\((∃j,k<=j/\j<u.length/\u.getD j false=false/\wdP h i j≠0)->∃a,e=.ret a/\a≠0)/\((¬∃j,k<=j/\j<u.length/\u.getD j false=false/\wdP h i j≠0)->e=.nxt ()):=by
   intro G;obtain⟨e,x,y,e3⟩:=Xgp hN hb hp g q u r n (k+1) ab ab;refine⟨e,x,λ⟨j,a,b,c,d⟩=>y ⟨j,?_,b,c,d⟩,λo=>e3 λ⟨j,a,b⟩=>o ⟨j,ab,b⟩⟩;by_cases z:j=k
   .simp_all
   omega
  cases H:u[k]with
  |true=>simp_all
  |false=>
   by_cases A:wdP h i k=0
   .simp_all
   rw[show(wdP h i k != 0)=true by simp_all,Wc,QfG,Xa];refine⟨_,rfl,λ_=>⟨_,rfl,?_⟩,λo=>absurd ⟨k,ab,f,by simp_all,A⟩ o⟩;rw[Xe (n:=i*h.c.W) ab ab,Xe (n:=4096+i*h.c.W) ab ab,Xe ab ab,Xt ab ab];omega
end
section
variable {N:Nat}
def KM(L x:Int):Int:=if L<(if x<0 then 0 else x)then L else(if x<0 then 0 else x)
def Xgq{v:List Int}{lo hi:Nat}(e:lo<=hi)(f:hi<=v.length):(((v.take lo)++(List.replicate (hi-lo) 0))++(v.drop (lo+(hi-lo)))).length=v.length:=by grind
def XkB{v:List Int}{e f:Nat}(g:e<=f)(h:f<=v.length)(j:Nat):(((v.take e)++(List.replicate (f-e) 0))++(v.drop (e+(f-e)))).getD j 0=if e<=j/\j<f then 0 else v.getD j 0:=by grind
def XhV(hN:NB N){h:Wh}(ht:HT h)(hp:Uv h)(i:Int)(z:0<=i)(E:i<h.p.length)(f:List Int×Int)(G:f.1.length<=4096)(o:∀a∈f.1,IF h a)(s:∀a∈f.1,Qao N h a=some (hdA h.w a,0)):∀(n k:Nat) (v:List Int),k<=f.1.length->f.1.length-k<n->v.length<=1000 ->
 ∃u,Qd4 N h (Xc h.c i 0,0) f n (k:Int) v=some u/\u.length=v.length/\∀j:Nat,j<v.length->u.getD j 0=if(f.1.drop k).any (XlX h i (j:Int))=true then 0 else v.getD j 0
 |0,k,v,_,H,_=>by omega
 |n+1,k,v,S,H,I=>by
  have J:=Xh.1 hp.conf;have K:=hp.pages;have T:=XE hp.conf (i:=i) z ab;have L:1000000<N:=by unfold NB at hN;omega
  rw[Qd4];by_cases r:k<f.1.length;case neg=>
   rw[We ab,Wa,WZ ab]
   exact⟨v,rfl,rfl,λj B=>ac⟩
  have g:=Wt r;have U:=(o _ g).rng;have V:=Xgo h f.1[k];have y:=Xy h.w f.1[k];have e:∀kk:Int->Option (List Int),(jn kk λD=>bif ((hdA h.w f.1[k]).k != 0)then(bnd (some (XB (hdA h.w f.1[k]))) λM=>D M)else D 1)=kk (Kh h f.1[k]):=by
   intro kk;rw[Xv];unfold Kh;rw[y.1];by_cases q:(hdA h.w f.1[k]).k=0
   .rw[Wm q,show((hdA h.w f.1[k]).k != 0)=false by simpa using q,Wa]
   rw[Wj q,show((hdA h.w f.1[k]).k != 0)=true by simpa using q,Wc,Xa]
  rw[Wg (show(k:Int)<(f.1.length:Int) by omega),Wc,Xf,Wb r,Xa,Xcg hN ht ((o _ g).tu hp),s _ g,Xa,ZG ab];rw[e];have Y:Xc h.c i 0=4096+i*h.c.W:=by unfold Xc;omega
  have w0:wI f.1[k]=f.1[k]:=Xe ab ab;have w1:wI (Xc h.c i 0)=Xc h.c i 0:=Xe ab ab;have w2:wI (f.1[k]-Xc h.c i 0)=f.1[k]-Xc h.c i 0:=Xe ab ab;have O:wI (f.1[k]-Xc h.c i 0+Kh h f.1[k])=f.1[k]-Xc h.c i 0+Kh h f.1[k]:=Xe ab ab;simp only[w0,w1,w2,O,Xg (show k<=140737488355328 by omega)];rw[Xb ab,Xb ab];have cl:∀x:Int,(if(v.length:Int)<(if x<0 then 0 else x)then(v.length:Int)else(if x<0 then 0 else x))=KM v.length x:=λ_=>rfl;have c1:∀x:Int,0<=KM v.length x/\KM v.length x<=v.length:=by intro x;unfold KM;split<;>split<;>omega
  generalize R:f.1[k]-Xc h.c i 0=A at *;have Z:=c1 A;have a2:=c1 (A+Kh h f.1[k]);have a3:KM v.length A<=KM v.length (A+Kh h f.1[k]):=by
   unfold KM;repeat' split
   all_goals omega
  rw[Xb ab];obtain⟨u,g1,g2,g3⟩:=XhV hN ht hp i z E f G o s n (k+1) _ ab ab (by rw[Xgq (v:=v) (lo:=(KM v.length A).toNat) (hi:=(KM v.length (A+Kh h f.1[k])).toNat) ab ab];exact I);refine⟨u,g1,by rw[g2,Xgq ab ab],λj B=>?_⟩;rw[g3 j (by rw[Xgq ab ab];exact B),XkB ab ab,Wl r,List.any_cons];have ec:XlX h i (j:Int) f.1[k]=decide ((KM v.length A).toNat<=j/\j<(KM v.length (A+Kh h f.1[k])).toNat):=by
   unfold XlX;rw[R];refine decide_eq_decide.2 ?_;unfold KM;repeat' split
   all_goals omega
  grind
def XqQ(l:List Int)(f:l.length<=1000000)(hN:1000000<N):Qbl N l=some (YS (λx=>x != 0) l):=by
 exact JL (p:=λx:Int=>x != 0) f hN (λn k x e=>by
  have g:=Xu e
  rw[Qaw,Xi g,Wc,Xf,e,Xa,QgZ,Xa,Xg ab]) (λn=>by rw[Qaw,Xw,Wa])
def Xn8(hN:NB N){h:Wh}(ht:HT h)(ep:Qaa N h=some true){i:Int}(q:0<=i)(s:i<h.p.length):
 ∃a,Qed N h i=some a/\∃b,Qgp N h i=some (b,a != 0):=by
 have G:1000000<N:=by unfold NB at hN;omega
 have hb:=ht.hb;have hp:=Xo hN hb ep;have V:=Xh.1 hp.conf;have Y:=hp.pages;have hm:=XE hp.conf (i:=i) q ab;have ad:Xc h.c i 0=4096+i*h.c.W:=by unfold Xc;omega
 have hw:=hp.words;have⟨pw,H⟩:∃pw:Nat,h.c.W=(pw:Int):=⟨h.c.W.toNat,ab⟩
 have y:Yt h.w (Xc h.c i 0) pw:=by unfold Yt;omega
 have erd:Qc8 N h.w (Xc h.c i 0) h.c.W=some ((h.w.drop (ix (Xc h.c i 0))).take pw,0):=by rw[H,XcS (by unfold BIG;omega) N _ pw ab,Wm y]
 have eadr:Qbx N h.c i 0=some (Xc h.c i 0,0):=by rw[Z7,hp.conf,Wj ac,Wm ab]
 have I:Xc h.c i 0<=18446744073709551615:=ab;have⟨hd,Z,J,K⟩:=Xf8 N (h:=h) hp.first N i q s hb.2 ab;have z:QeU N h i=some hd:=by rw[QeU,Z,Xa]
 have⟨r,S,hr,T⟩:=QfE hN hb hp hd J K;have⟨⟨A,B,_⟩,_,_⟩:=hr;have⟨u,eu,L,M⟩:=XkA hN hp i q s r.1 ab A B;have⟨e,e1,U,e3⟩:=Xgp hN hb hp q s u L N 0 ab ab;rw[Qed,z,Xa,S,Xa,eu,Xa,show(0:Int)=((0:Nat):Int)from rfl,e1,Xa];rw[Qgp,Xd2,eadr,Xa,Xn6 ab I];rw[erd,Xa,Xn7 hN hb hp q s,z,Xa,Xd7 hN ht,S,Xa];have hvl:((h.w.drop (ix (Xc h.c i 0))).take pw).length=pw:=by rw[Ws,WA];unfold ix;unfold Yt at y;omega
 have⟨v,g1,g2,g3⟩:=XhV hN ht hp i q s r ab A B N 0 ((h.w.drop (ix (Xc h.c i 0))).take pw) ab ab ab;have O:Qd4 N h (Xc h.c i 0,0) r N 0 ((h.w.drop (ix (Xc h.c i 0))).take pw)=some v:=g1;have hul:u.length=pw:=by clear U e3;omega
 rw[O,Xa,XqQ v ab G,Xa];have D:decide (YS (λx=>x != 0) v>=0)=v.any (λx=>x != 0):=Ku _ v;rw[D];have f:∀j,j<pw->((h.w.drop (ix (Xc h.c i 0))).take pw).getD j 0=wdP h i j:=by intro j E;unfold wdP wd ix;rw[Wk,Ur,Wm E,UN,Wk];congr 2;omega
 have iff1:v.any (λx=>x != 0)=true↔∃j,0<=j/\j<u.length/\u.getD j false=false/\wdP h i j≠0:=by
  rw[Om];constructor
  .rintro⟨x,hx,hx0⟩;obtain⟨j,E,rfl⟩:=Wv hx;have g:j<pw:=ab;have:=g3 j ab;rw[Wk,Wb E,Ii,f j g,WX,←Xgn]at this;grind
  rintro⟨j,_,E,hc,hz⟩;have g:j<v.length:=ab;refine⟨v[j],Wt g,?_⟩;have:=g3 j ab;rw[Wk,Wb g,Ii,f j ab,WX,←Xgn,←M j E,hc,Wj ac]at this;grind
 by_cases o:∃j,0<=j/\j<u.length/\u.getD j false=false/\wdP h i j≠0
 .obtain⟨a,rfl,ha⟩:=U o;rw[Xq,iff1.2 o];simp_all
 have R:=e3 o;subst R;rw[Xl,show v.any (λx=>x != 0)=false by rw[←I5];exactλhh=>o (iff1.1 hh)];simp
end
def Vx{α β:Type}{L:Nat}{F:Nat->Int->Option (Ex α β)}{p:Nat->Prop}{Q:α->Prop}{u:β}(f:∀n k,k<L->p k->∃a,F (n+1) (k:Int)=some (.ret a)/\Q a)(o:∀n k,k<L->¬p k->F (n+1) (k:Int)=F n ((k+1:Nat):Int))(g:∀n,F (n+1) (L:Int)=some (.nxt u)):∀(n k:Nat),k<=L->L-k<n ->
 ∃e,F n (k:Int)=some e/\((∃j,k<=j/\j<L/\p j)->∃a,e=.ret a/\Q a)/\((¬∃j,k<=j/\j<L/\p j)->e=.nxt u)
 |0,k,_,r=>by omega
 |n+1,k,y,r=>by
  by_cases h:k<L;case neg=>
   grind
  by_cases hp:p k
  .have⟨a,e,s⟩:=f n k h hp;exact⟨_,e,λ_=>⟨a,rfl,s⟩,λq=>absurd ⟨k,Uh _,h,hp⟩ q⟩
  have⟨e,v,x,e3⟩:=Vx f o g n (k+1) ab ab;refine⟨e,(o n k h hp).trans v,λ⟨j,a,b,c⟩=>x ⟨j,?_,b,c⟩,λq=>e3 λ⟨j,a,b⟩=>q ⟨j,ab,b⟩⟩;grind
section
variable {N:Nat}
def Xn9(l:List Int)(x:Int)(o:l.length<=1000000)(g:l.Pairwise (·<·)):∀(n e hi:Nat),e<=hi->hi<=l.length->hi-e<n->(∀i(h:i<l.length),i<e->l[i]<x)->(∀i(h:i<l.length),hi<=i->x<=l[i]) ->
 ∃k:Nat,Qaq N l x n (e:Int) (hi:Int)=some (k:Int)/\k<=l.length/\(∀i(h:i<l.length),i<k->l[i]<x)/\(∀i(h:i<l.length),k<=i->x<=l[i])
 |0,e,hi,_,_,q,_,_=>by omega
 |n+1,e,hi,A,r,q,s,hb=>by
  rw[Qaq];by_cases u:e<hi;case neg=>
   grind
  have f:wI (Yy .u64 (wU (wI ((e:Int)+hi))) 1)=(((e+hi) / 2:Nat):Int):=by rw[Xe (n:=(e:Int)+hi) ab ab,Xt ab ab,show Yy .u64 ((e:Int)+hi) 1=((e:Int)+hi) / 2 from YA _ 1 ab ab,Xe ab ab];omega
  have v:(e+hi) / 2<l.length:=ab;have y:e<=(e+hi) / 2/\(e+hi) / 2<hi:=ab;generalize (e+hi) / 2=m at *;rw[Wg ab,Wc,f,Xf,Wb v,Xa,Qf5,QeB,Xa,show(l[m] != l[m])=false by simp,Wa,Xa];have z:=W7.1 g;by_cases p:l[m]<x
  .rw[Wg p,Wc,Xg ab];refine Xn9 l x o g n (m+1) hi ab r ab (λi h j=>?_) hb;grind
  rw[We p,Wa];refine Xn9 l x o g n e m ab ab ab s (λi h j=>?_);grind
def Xoa(l:List Int)(x:Int)(v:l.length<=1000000)(hN:1000000<N)(r:l.Pairwise (·<·)):∃k:Int,Qaz N l x=some (k,l.contains x):=by
 have⟨k,e,z,s,y⟩:=Xn9 (N:=N) l x v r N 0 l.length ab ab ab (λi h g=>ab) (λi h g=>ab);rw[Qaz,show(0:Int)=((0:Nat):Int)from rfl,e,Xa];by_cases f:k<l.length
 .rw[Wg ab,Wc,Xf,Wb f,Xa];by_cases u:l[k]=x
  .refine⟨k,?_⟩;grind
  refine⟨k,?_⟩;rw[show(l[k]==x)=false by simpa using u,Wa,Xa,Qds,Xa,show(l[k] != l[k])=false by simp,Wa];have:l.contains x=false:=by
   rw[←I5,UG];intro j;obtain⟨i,g,rfl⟩:=Wv j;have o:=W7.1 r;by_cases p:i<k
   .have:=s i g p;omega
   have a:=y k f (Uh _);by_cases q:i=k
   .subst q;exact u rfl
   have:=o k i f g ab;omega
  grind
 refine⟨k,?_⟩;have:l.contains x=false:=by rw[←I5,UG];intro j;obtain⟨i,g,rfl⟩:=Wv j;have:=s i g ab;omega
 grind
def OP.asc{h:Wh}{l:List Int}(o:OP N h l):l.Pairwise (·<·):=
 o.pw.imp λ{a b} e=>by have:=(Xy h.w a).2;omega
def XaX{d:Wy}:∀{k:Nat} {i x:Int},i<=x->x<i+k->Kg d x=true->x∈X4 d k i
 |0,i,x,e,f,_=>by omega
 |k+1,i,x,e,f,g=>by
  simp only[X4,Wr];by_cases h:x=i
  .simp_all
  right;exact XaX ab ab g
def Vc{d:Wy}(e:XC d=true){x:Int}:x∈XJ d↔0<=x/\x<d.n/\Kg d x=true:=by
 unfold XJ;rw[Wm e];constructor
 .intro h;have:=KW h;grind
 intro h;exact XaX ab ab h.2.2
end
section
variable {N:Nat}
def XsG(h:Wh)(l:List Int)(a i:Int):Prop:=wd h.w (a+1+i)≠0/\l.contains (wd h.w (a+1+i))=false
def XaS(h:Wh)(l:List Int)(a:Int):Prop:=∃i,i∈XJ (hdA h.w a)/\XsG h l a i
def ZH(h:Wh)(a:Int):XC (hdA h.w a)=true:=ZX _
def XqR{h:Wh}(hp:Uv h){a:Int}(e:IF h a){i:Int}(f:0<=i)(g:i<(hdA h.w a).n):4096<=a+1+i/\a+1+i<4096+h.w.length/\a+1+i<=8192/\(hdA h.w a).n<=255:=by have:=Ky hp e;have:=e.rng;have:=Xy h.w a;have j:=Xh.1 hp.conf;have:=XE hp.conf (i:=0) ab ab;have:=hp.words;unfold szA at *;omega
def Xt1(hN:NB N){h:Wh}(ht:HT h)(hp:Uv h)(f:List Int×Int)(M:f.1.length<=1000000)(O:f.1.Pairwise (·<·))(s:Int){a:Int}(I:IF h a):
 ∃e,QaP N h f s a (XJ (hdA h.w a)) N 0=some e/\(XaS h f.1 a->∃b,e=.ret b/\b≠0)/\(¬XaS h f.1 a->e=.nxt ()):=by
 have y:1000000<N:=by unfold NB at hN;omega
 have hb:=ht.hb;have z:=ZH h a;have A:=XD z;have R:(XJ (hdA h.w a)).length<=255:=by unfold XJ;rw[Wm z];have:=Vr (d:=hdA h.w a) (k:=(hdA h.w a).n.toNat) (i:=0);omega
 have v:∀k(g:k<(XJ (hdA h.w a)).length),0<=(XJ (hdA h.w a))[k]/\(XJ (hdA h.w a))[k]<(hdA h.w a).n:=λk g=>by have:=(Vc z).1 (Wt g);omega
 generalize B:XJ (hdA h.w a)=ps at *;have Y:=I.rng;have step:∀n k(g:k<ps.length),QaP N h f s a ps (n+1) (k:Int)=bif (wd h.w (a+1+ps[k]) != 0)then(bif (!f.1.contains (wd h.w (a+1+ps[k])))then some (.ret (a+1+ps[k]))else QaP N h f s a ps n ((k+1:Nat):Int))else QaP N h f s a ps n ((k+1:Nat):Int):=by
  intro n k g;have J:=v k g;have Z:=XqR hp I J.1 J.2;have S:(h.w.length:Int)<=100000:=by have:=hb.1;omega
  have w1:wU (wU (a+1)+wU ps[k])=a+1+ps[k]:=by rw[Xt (n:=a+1) ab ab,Xt (n:=ps[k]) ab ab,Xt ab ab]
  rw[QaP,Wg ab,Wc,Xf,Wb g,Xa,w1,XhS ab ab,Yg (by unfold BIG;omega),Wm (by unfold inW;omega),Xa];dsimp only;obtain⟨q,eq⟩:=Xoa (N:=N) f.1 (h.w.getD (ix (a+1+ps[k])) 0) M y O;rw[eq,Xa,Xg ab];rfl
 have key:=Vx (L:=ps.length) (F:=QaP N h f s a ps) (p:=λk=>∃g:k<ps.length,XsG h f.1 a ps[k]) (Q:=λb=>b≠0) (u:=())
  (λn k g x=>by
   obtain⟨T,D,E⟩:=x
   refine⟨a+1+ps[k],?_,?_⟩
   .rw[step n k g,show(wd h.w (a+1+ps[k]) != 0)=true by simpa using D,Wc,E];rfl
   grind)
  (λn k g G=>by
   rw[step n k g]
   by_cases D:wd h.w (a+1+ps[k])=0
   .simp_all
   .rw[show(wd h.w (a+1+ps[k]) != 0)=true by simp_all,Wc]
    cases E:f.1.contains (wd h.w (a+1+ps[k]))with
    |true=>rfl
    |false=>exact absurd ⟨g,D,E⟩ G)
  (λn=>by rw[QaP,We ab,Wa]) N 0 ab ab
 have⟨e,U,V,e3⟩:=key;refine⟨e,U,λo=>?_,λo=>?_⟩
 .have⟨i,K,r⟩:=o;rw[B]at K;obtain⟨j,H,rfl⟩:=Wv K;exact V ⟨j,IS _,H,H,r⟩
 refine e3 λ⟨j,_,H,W,r⟩=>o ⟨ps[j],?_,r⟩;simp_all
def XrL(hN:NB N){h:Wh}(ht:HT h)(hp:Uv h)(f:List Int×Int)(s:f.1.length<=1000000)(u:f.1.Pairwise (·<·))(g:∀a∈f.1,IF h a)(o:∀a∈f.1,Qao N h a=some (hdA h.w a,0)):∀(n k:Nat),k<=f.1.length->f.1.length-k<n ->
 ∃r,Qct N h f n (k:Int)=some r/\((∃a∈f.1.drop k,XaS h f.1 a)->r≠0)/\((¬∃a∈f.1.drop k,XaS h f.1 a)->r=0)
 |0,k,_,v=>by omega
 |n+1,k,z,v=>by
  have x:1000000<N:=by unfold NB at hN;omega
  rw[Qct];by_cases j:k<f.1.length;case neg=>
   grind
  have p:=Wt j;rw[Wg ab,Wc,Xf,Wb j,Xa,Xcg hN ht ((g _ p).tu hp),o _ p,Xa,Xfl ab _ (ZH h _),Xa];have⟨e,y,A,e3⟩:=Xt1 hN ht hp f s u (k:Int) (g _ p);rw[y,Xa,Wl j];by_cases q:XaS h f.1 f.1[k]
  .grind[Xq]
  have:=e3 q;subst this;rw[Xl,Xg ab];have⟨r,B,D,r3⟩:=XrL hN ht hp f s u g o n (k+1) ab ab;grind
def Xch(hN:NB N){h:Wh}(hb:HB h)(ep:Qaa N h=some true){a:Int}(f:IF h a)(e:Qao N h a=some (hdA h.w a,0))(g:(hdA h.w a).k≠0):QbK N h a=some (hdA h.w a,0):=by have:=f.rng;rw[QbK,ep,Xa,Wi,Wa,show(a==0)=false by simp;omega,Wa,e,Xa];grind
def Xci(hN:NB N){h:Wh}(hb:HB h)(ep:Qaa N h=some true){a:Int}(f:IF h a)(g:Qao N h a=some (hdA h.w a,0))(p:(hdA h.w a).k≠0):∃l,Qc9 N h a=some (l,0)/\(l.length:Int)=(hdA h.w a).n/\∀(j:Nat) (q:j<l.length),l[j]=wd h.w (a+1+j):=by
 have hp:=Xo hN hb ep;have r:=XD (ZH h a);have s:=f.rng;have e:=Ky hp f;have u:=XE hp.conf (i:=0) ab (by have:=Xh.1 hp.conf;omega);have hw:=hp.words;unfold szA at e;have⟨m,o⟩:∃m:Nat,(hdA h.w a).n=(m:Int):=⟨(hdA h.w a).n.toNat,ab⟩
 rw[Qc9,Xch hN hb ep f g p,Xa];rw[show((0:Int) != 0)=false from rfl,Wa,Xt (n:=a+1) ab ab,o,XcS (by unfold BIG;omega) N _ m ab,Wm (by unfold Yt;omega),Xa];refine⟨_,rfl,?_,λj q=>?_⟩
 .rw[Ws,WA];unfold ix;omega
 rw[Iy,IW];unfold wd;rw[Wk,show ix (a+1+(j:Int))=ix (a+1)+j by unfold ix;omega,Wb (by grind)];rfl
end
section
variable {N:Nat}
def Xt2(hN:NB N){h:Wh}(hb:HB h)(hp:Uv h)(g o:List Int×Int)(U:g.1.length<=1000000)(q:Int){a:Int}(y:Xd g.1 q=some a)(V:IF h a)(W:(o.1.length:Int)=(hdA h.w a).n)(J:∀(j:Nat) (K:j<o.1.length),o.1[j]=wd h.w (a+1+j)):
 ∃e,Qax N h g o q (hdA h.w a,0) N 0=some e/\(XaS h g.1 a->∃f,e=.ret f/\f.Fault≠0)/\(¬XaS h g.1 a->e=.nxt ()):=by
 have M:1000000<N:=by unfold NB at hN;omega
 have z:=ZH h a;have A:=XD z;have step:∀n k(r:k<o.1.length),Qax N h g o q (hdA h.w a,0) (n+1) (k:Int)=bif Kg (hdA h.w a) (k:Int)then(bif (wd h.w (a+1+k) != 0)then(bif (!g.1.contains (wd h.w (a+1+k)))then(bnd (Qca N h.c (wU ((wU (a+1))+(wU (k:Int))))) λB=>some (.ret (Un.mk 6 B.1 (wU ((wU (a+1))+(wU (k:Int)))))))else Qax N h g o q (hdA h.w a,0) n ((k+1:Nat):Int))else Qax N h g o q (hdA h.w a,0) n ((k+1:Nat):Int))else Qax N h g o q (hdA h.w a,0) n ((k+1:Nat):Int):=by intro n k r;rw[Qax,Xb ab,Wg ab,Wc,KV,Xa,Xf,Wb r,J k r,Xg ab];simp only[Xa,XY (wd h.w (a+1+(k:Int))) (show g.1.length<=1000000000 by omega) (show g.1.length<N by omega),y]
 have key:=Vx (L:=o.1.length) (F:=Qax N h g o q (hdA h.w a,0)) (p:=λk=>Kg (hdA h.w a) (k:Int)=true/\XsG h g.1 a (k:Int)) (Q:=λf=>f.Fault≠0) (u:=())
  (λn k r x=>by
   obtain⟨D,E,G⟩:=x
   rw[step n k r,D,Wc,show(wd h.w (a+1+(k:Int)) != 0)=true by simpa using E,Wc,G,Ub,Wc,KR,Xa]
   simp)
  (λn k r H=>by
   rw[step n k r]
   cases D:Kg (hdA h.w a) (k:Int)with
   |false=>rfl
   |true=>
   rw[Wc]
   by_cases E:wd h.w (a+1+(k:Int))=0
   .simp_all
   .rw[show(wd h.w (a+1+(k:Int)) != 0)=true by simp_all,Wc]
    cases G:g.1.contains (wd h.w (a+1+(k:Int)))with
    |true=>rfl
    |false=>exact absurd ⟨D,E,G⟩ H)
  (λn=>by rw[Qax,Xb ab,We ab,Wa]) N 0 ab ab
 have⟨e,O,R,e3⟩:=key;refine⟨e,O,λs=>?_,λs=>?_⟩
 .have⟨i,S,v⟩:=s;have T:=(Vc z).1 S;obtain⟨j,rfl⟩:∃j:Nat,i=(j:Int):=⟨i.toNat,ab⟩
  exact R ⟨j,IS _,ab,T.2.2,v⟩
 exact e3 λ⟨j,_,K,I,v⟩=>s ⟨(j:Int),(Vc z).2 ⟨ab,ab,I⟩,v⟩
def Xob(hN:NB N){h:Wh}(hb:HB h)(ep:Qaa N h=some true)(g:List Int×Int)(v:g.1.length<=1000000)(j:∀a∈g.1,IF h a)(o:∀a∈g.1,Qao N h a=some (hdA h.w a,0))(p:∀a∈g.1,(hdA h.w a).k≠0):∀(n k:Nat),k<=g.1.length->g.1.length-k<n ->
 ∃e,Qbv N h g n (k:Int)=some e/\((∃a∈g.1.drop k,XaS h g.1 a)->∃f,e=.ret f/\f.Fault≠0)/\((¬∃a∈g.1.drop k,XaS h g.1 a)->e=.nxt ())
 |0,k,_,y=>by omega
 |n+1,k,B,y=>by
  have hp:=Xo hN hb ep;rw[Qbv];by_cases q:k<g.1.length;case neg=>
   grind
  have s:=Wt q;have x:Xd g.1 (k:Int)=some g.1[k]:=by rw[Xf,Wb q]
  have⟨l,f1,f2,z⟩:=Xci hN hb ep (j _ s) (o _ s) (p _ s);rw[Wg ab,Wc,x,Xa,Xch hN hb ep (j _ s) (o _ s) (p _ s),Xa,Xa,f1,Xa];have⟨e,A,D,e3⟩:=Xt2 hN hb hp g (l,0) v (k:Int) x (j _ s) f2 z;rw[A,Xa,Wl q];by_cases u:XaS h g.1 g.1[k]
  .grind[Xq]
  have:=e3 u;subst this;rw[Xl,Xg ab];have⟨r,E,G,r3⟩:=Xob hN hb ep g v j o p n (k+1) ab ab;grind
def K0(hN:NB N){h:Wh}(hb:HB h):∃y,Qal N h=some y/\y.1.length<=4096/\y.1.Pairwise (·<·)/\(∀a∈y.1,IF h a)/\(∀a∈y.1,Qao N h a=some (hdA h.w a,0))/\(∀a∈y.1,(hdA h.w a).k≠0):=by have⟨y,e,f,_,_⟩:=Ks hN hb;refine⟨y,e,f.len,f.obj.asc,f.obj.at_,f.obj.ev,?_⟩;have⟨r,o,g,_,_⟩:=J5 hN hb;have j:=g.len;rw[Qal,o,Xa,show(0:Int)=((0:Nat):Int)from rfl,XaJ r ab g.obj.ev N 0 [] ab (by unfold NB at hN;omega) ac,Xa,WX,W8]at e;cases e;intro a p;have:=(WY.1 p).2;simp_all[YY,fnd]
def zF:Un:=⟨0,0,0⟩
def XqS(P:Prop)(o:Option Un):Prop:=∃f,o=some f/\(P->f.Fault≠0)/\(¬P->f=zF)
def XhW(hN:NB N){h:Wh}(ht:HT h)(ep:Qaa N h=some true){y:List Int×Int}(x:Qal N h=some y):XqS (∃a∈y.1,XaS h y.1 a) (Qfo N h)/\XqS (∃a∈y.1,XaS h y.1 a) (Qdw N h):=by
 have hb:=ht.hb;have hp:=Xo hN hb ep;have⟨I,s,J,E,u,v,z⟩:=K0 hN hb;rw[x]at s;cases s;have B:y.1.length<N:=by unfold NB at hN;omega
 constructor
 .have⟨r,A,D,e3⟩:=XrL hN ht hp y ab E u v N 0 ab ab;rw[Qfo,JA hN ht,x,Xa];have j:Qct N h y N 0=some r:=A;rw[j,Xa];by_cases g:∃a∈y.1,XaS h y.1 a
  .rw[show(r==0)=false by simp_all,Wa];have:∃q,Qcn N h.c r=some q:=by
    rw[Qcn,Je,Xa];cases G:XU h.c with
    |false=>simp
    |true=>
     have:=Xh.1 G;rw[Wi,Wa];cases decide (r<4096)
     .rw[Wa];cases decide (wU (r-4096)>=wU (wI (h.c.W*h.c.p)))
      .rw[Wa,Xb ab,Xb ab];exact⟨_,rfl⟩
      exact⟨_,rfl⟩
     simp
   have⟨q,eq⟩:=this;rw[eq,Xa];exact⟨_,rfl,λ_=>ac,λo=>absurd g o⟩
  rw[e3 g];exact⟨_,rfl,λo=>absurd o g,λ_=>rfl⟩
 have⟨e,A,D,e3⟩:=Xob hN hb ep y ab u v z N 0 ab ab;rw[Qdw,x,Xa];have j:Qbv N h y N 0=some e:=A;rw[j,Xa];by_cases g:∃a∈y.1,XaS h y.1 a
 .obtain⟨f,rfl,H⟩:=D g;rw[Xq];exact⟨_,rfl,λ_=>H,λo=>absurd g o⟩
 rw[e3 g,Xl];exact⟨_,rfl,λo=>absurd o g,λ_=>rfl⟩
end
section
variable {N:Nat}
def Xgr(hN:NB N){h:Wh}(ht:HT h)(ep:Qaa N h=some true){i:Nat}(S:i<h.p.length):
 ∃f,Qee N h (i:Int)=some f/\((f.Fault≠0/\∀n,∃u,Qa5 N h (n+1) (i:Int)=some (.ret u)/\u.Fault≠0)\/(f.Fault=0/\∀n,Qa5 N h (n+1) (i:Int)=Qa5 N h n ((i+1:Nat):Int))):=by
 have hb:=ht.hb;have hp:=Xo hN hb ep;have I:h.p.length<=100000:=hb.2;have v:Xd h.p (i:Int)=some (pg h.p (i:Int)):=Xn ab ab;have g:∀n,Qa5 N h (n+1) (i:Int)=jn (λ(_:Unit)=>
  bnd (Qe1 N h (i:Int)) λz=>
  bif (z.2 != 0)then some (.ret (Un.mk 3 (i:Int) 0))
  else bnd (QfV N h (i:Int) z.1) λA=>
  bif A.2 then some (.ret (Un.mk 5 (i:Int) A.1))
  else bnd (Qgp N h (i:Int)) λB=>
  bif B.2 then some (.ret (Un.mk 4 (i:Int) B.1))
  else Qa5 N h n ((i+1:Nat):Int)) λD=>
  bif ((pg h.p (i:Int)).k != 0)then(bif ((pg h.p (i:Int)).s != h.s)then some (.ret (Un.mk 2 (i:Int) 0))
   else D ())
  else D ():=by
  intro n
  rw[Qa5,Wg ab,Wc,v,Xa,Xg ab]
 simp only[g,Xv];rw[Qee,Xv,v];simp only[Xa];by_cases e:(pg h.p (i:Int)).k≠0/\(pg h.p (i:Int)).s≠h.s
 .rw[show((pg h.p (i:Int)).k != 0)=true by simpa using e.1,show((pg h.p (i:Int)).s != h.s)=true by simpa using e.2];exact⟨_,rfl,.inl ⟨by show(2:Int)≠0;omega,λn=>⟨_,rfl,by show(2:Int)≠0;omega⟩⟩⟩
 have J:∀{α:Type} (x y:α),(bif ((pg h.p (i:Int)).k != 0)then(bif ((pg h.p (i:Int)).s != h.s)then x else y)else y)=y:=by
  intro α x y;by_cases k0:(pg h.p (i:Int)).k=0
  .rw[show((pg h.p (i:Int)).k != 0)=false by simpa using k0,Wa]
  have:(pg h.p (i:Int)).s=h.s:=Classical.byContradiction λK=>e ⟨k0,K⟩;rw[show((pg h.p (i:Int)).s != h.s)=false by simpa using this,Wa,Bool.cond_self]
 simp only[J];have⟨r,L,M,E⟩:=QfE hN hb hp (i:Int) ab ab;simp only[Xd7 hN ht,L,Xa];by_cases G:r.2=0;case neg=>
  rw[show(r.2 != 0)=true by simpa using G]
  exact⟨_,rfl,.inl ⟨by show(3:Int)≠0;omega,λn=>⟨_,rfl,by show(3:Int)≠0;omega⟩⟩⟩
 rw[show(r.2 != 0)=false by simpa using G];have⟨⟨j,o,_⟩,_,_⟩:=M;have⟨a,O,b,eb⟩:=XlV hN ht hp (i:=(i:Int)) ab ab r.1 ab j o;simp only[O,eb,Xa];by_cases H:a=0;case neg=>
  rw[show(a != 0)=true by simpa using H]
  exact⟨_,rfl,.inl ⟨by show(5:Int)≠0;omega,λn=>⟨_,rfl,by show(5:Int)≠0;omega⟩⟩⟩
 rw[show(a != 0)=false by simpa using H];have⟨d,R,T,q⟩:=Xn8 hN ht ep (i:=(i:Int)) ab ab;simp only[R,q,Xa];by_cases hd:d=0;case neg=>
  rw[show(d != 0)=true by simpa using hd]
  exact⟨_,rfl,.inl ⟨by show(4:Int)≠0;omega,λn=>⟨_,rfl,by show(4:Int)≠0;omega⟩⟩⟩
 simp_all
def Xoc(hN:NB N){h:Wh}(ht:HT h)(ep:Qaa N h=some true):∃P:Prop,XqS P (Qgy N h)/\∃e,Qbc N h N 0=some e/\(P->∃f,e=.ret f/\f.Fault≠0)/\(¬P->e=.nxt ()):=by
 have hb:=ht.hb;have D:h.p.length<=100000:=hb.2;have z:h.p.length<N:=by unfold NB at hN;omega
 let p:Nat->Prop:=λk=>∃f,Qee N h (k:Int)=some f/\f.Fault≠0;refine⟨∃j,0<=j/\j<h.p.length/\p j,?_,?_⟩
 .have key:=Vx (L:=h.p.length) (F:=Qa5 N h) (p:=p) (Q:=λ f=>f.Fault≠0) (u:=())
   (λn k q g=>by
    obtain⟨f,A,v⟩:=g
    obtain⟨f2,o,r⟩:=Xgr hN ht ep q
    simp_all)
   (λn k q s=>by
    obtain⟨f2,o,r⟩:=Xgr hN ht ep q
    grind)
   (λn=>by rw[Qa5,We ab,Wa]) N 0 ab ab
  have⟨e,E,H,e3⟩:=key;have x:Qa5 N h N 0=some e:=E;unfold XqS;rw[Qgy,x,Xa];by_cases B:∃j,0<=j/\j<h.p.length/\p j
  .grind[Xq]
  rw[e3 B,Xl];exact⟨_,rfl,λy=>absurd y B,λ_=>rfl⟩
 have key:=Vx (L:=h.p.length) (F:=Qbc N h) (p:=p) (Q:=λ f=>f.Fault≠0) (u:=())
  (λn k q g=>by
   have⟨f,A,v⟩:=g
   rw[Qbc,Wg ab,Wc,A,Xa,show(f.Fault != 0)=true by simpa using v]
   exact⟨f,rfl,v⟩)
  (λn k q s=>by
   have⟨f2,o,r⟩:=Xgr hN ht ep q
   have G:f2.Fault=0:=Classical.byContradiction λy=>s ⟨f2,o,y⟩
   rw[Qbc,Wg ab,Wc,o,Xa,show(f2.Fault != 0)=false by simpa using G,Wa,Xg ab])
  (λn=>by rw[Qbc,We ab,Wa]) N 0 ab ab
 omega
def Xgs{f:Un}(e:f.Fault≠0):((f.Fault==0)&&((f.Page==0)&&(f.Addr==0)))=false:=by simp_all
def Xd8(hN:NB N){h:Wh}(ht:HT h):QfC N h=Qbk N h:=by
 have hb:=ht.hb;have s:h.p.length<=100000:=hb.2;rw[QfC,Qbk,Qhe,Qe4,Yx s (by unfold NB at hN;omega)];have⟨b,eb⟩:=Jf (N:=N) hN hb;simp only[eb,Xa];cases b with
 |false=>rfl
 |true=>
 rw[Wi,Wa,Wa];have⟨P,⟨f,D,u,v⟩,e,E,G,e3⟩:=Xoc hN ht eb;have⟨y,H,_⟩:=K0 hN hb;have⟨⟨g,eg,x,z⟩,⟨I,A,j,o⟩⟩:=XhW hN ht eb H;simp only[D,E,Xa];by_cases r:P
 .obtain⟨L,rfl,B⟩:=G r;simp only[Xq,Xgs (u r),Ub,Wc,Xa,Xgs B]
 rw[e3 r,v r];simp only[Xl,eg,A,Xa,zF,show((0:Int)==0)=true from rfl,Bool.and_self,Wi,Wa];by_cases q:∃a∈y.1,XaS h y.1 a
 .simp only[Xgs (x q),Ub,Wc,Xa,show(I.Fault != 0)=true by simpa using j q,Xgs (j q)]
 rw[z q,o q];simp only[zF,show((0:Int)==0)=true from rfl,show((0:Int) != 0)=false from rfl,Bool.and_self,Wi,Wa];have J:∀(n:Nat) (c i:Int),Qcp N h n c i=Qa3 N h n c i:=by
  intro n;induction n with
  |zero=>intro c i;rw[Qcp,Qa3]
  |succ n K=>
   intro c i;rw[Qcp,Qa3];simp only[K];cases M:Xd h.p i with
   |none=>simp only[Kq]
   |some p=>simp only[Xa]
 grind
def Xfq(hN:NB N){h:Wh}(ht:HT h){l:List Int}(A:l.length<=1000000):QdS N h l=QbD N h l:=by
 have g:1000000<N:=by unfold NB at hN;omega
 have hb:=ht.hb;rw[QdS,QbD,Xd8 hN ht];have⟨b,eb,_⟩:=Kz hN hb;rw[eb,Xa,Xa];cases b with
 |false=>rfl
 |true=>
 have⟨y,B,O,D,_⟩:=K0 hN hb;rw[Wi,Wa,Wa,JA hN ht,B,Xa,Xa];have r:∀x:Int,QeD N x y.1=some (x != 0&&!y.1.contains x):=by intro x;obtain⟨k,E⟩:=Xoa (N:=N) y.1 x ab g D;rw[QeD,E,Xa];cases (x != 0)<;>rfl
 rw[QaZ,Qa8];rw[JL (p:=λx:Int=>x != 0&&!y.1.contains x) A g (λn k x e=>by
  have f:=Xu e
  rw[Qar,Xi f,Wc,Xf,e,Xa,r,Xa,Xg ab]) (λn=>by rw[Qar,Xw,Wa])]
 rw[Xa,Xa,Ku]
 have key:=Vx (L:=l.length) (F:=QaC N l y) (p:=λk=>∃f:k<l.length,(l[k] != 0&&!y.1.contains l[k])=true) (Q:=λb=>b=false) (u:=())
  (λn k f o=>by
   obtain⟨G,q⟩:=o
   simp only[WH]at q
   refine⟨false,?_,rfl⟩
   rw[QaC,Wg ab,Wc,Xf,Wb f,Xa,q.1,Wc,Xa,XY _ ab ab,Xa,q.2,Wc])
  (λn k f H=>by
   rw[QaC,Wg ab,Wc,Xf,Wb f,Xa,Xa,XY _ ab ab,Xa,Xg ab]
   grind)
  (λn=>by rw[QaC,We ab,Wa]) N 0 ab ab
 have⟨e,I,J,e3⟩:=key;have s:QaC N l y N 0=some e:=I;rw[s,Xa];cases K:l.any (λx=>x != 0&&!y.1.contains x)with
 |true=>have⟨x,M,q⟩:=Om.1 K;obtain⟨j,z,rfl⟩:=Wv M;obtain⟨b,rfl,v⟩:=J ⟨j,IS _,z,z,q⟩;simp[Xq,v]
 |false=>simp_all[List.any_eq_false,Xl]
def Zz(hN:NB N){h:Wh}(ht:HT h){l:List Int}(M:l.length<=10000000 / 4)(eg:Qbk N h=some true){y:List Int×Int}(A:Qal N h=some y):QbD N h l=some (l.all λx=>x==0||y.1.contains x):=by
 have hb:=ht.hb;have⟨O,g,R,S,_⟩:=K0 hN hb;rw[A]at g;cases g;have B:l.length<N:=by unfold NB at hN;omega
 have D:1000000<N:=by unfold NB at hN;omega
 rw[QbD,eg,Xa,Wi,Wa,A,Xa]
 have key:=Vx (L:=l.length) (F:=QaC N l y) (p:=λk=>∃q:k<l.length,(l[k]==0||y.1.contains l[k])=false) (Q:=λb=>b=false) (u:=())
  (λn k q o=>by
   obtain⟨E,f⟩:=o
   simp only[Bool.or_eq_false_iff]at f
   refine⟨false,?_,rfl⟩
   rw[QaC,Wg ab,Wc,Xf,Wb q,Xa,show(l[k] != 0)=true by simp_all,Wc,Xa,XY _ ab ab,Xa,f.2];rfl)
  (λn k q G=>by
   rw[QaC,Wg ab,Wc,Xf,Wb q,Xa,Xa,XY _ ab ab,Xa,Xg ab]
   grind)
  (λn=>by rw[QaC,We ab,Wa]) N 0 ab ab
 have⟨e,H,I,e3⟩:=key;have s:QaC N l y N 0=some e:=H;rw[s,Xa];cases v:l.all (λx=>x==0||y.1.contains x)with
 |false=>have⟨x,J,f⟩:=List.all_eq_false.1 v;obtain⟨j,r,rfl⟩:=Wv J;obtain⟨b,rfl,z⟩:=I ⟨j,IS _,r,r,by simp_all⟩;rw[Xq,z]
 |true=>
  have:=e3 λ⟨j,_,r,K,f⟩=>by rw[WV]at v;rw[v _ (Wt r)]at f;cases f
  simp_all[Xl]
end
section
variable {N:Nat}
def Xgt(l:List UB)(r:Int)(f:l.length<=1000000)(hN:1000000<N):QgG N l r=some (YS (λp=>p.a==r) l):=by
 exact JL (p:=λp:UB=>p.a==r) f hN (λn k x e=>by
  have g:=Xu e
  rw[Qe5,Xi g,Wc,Xf,e,Xa,Xg ab]) (λn=>by rw[Qe5,Xw,Wa])
def Xod(l:List UB)(r:Int)(f:l.length<=1000000)(hN:1000000<N):QfN N l r=some (YS (λp=>p.a==r) l):=by
 rw[QfN,Qa6];rw[JL (p:=λp:UB=>p.a==r) f hN (λn k x e=>by
  have g:=Xu e
  rw[Qap,Xi g,Wc,Xf,e,Xa,Qfg,Xa,Xg ab]) (λn=>by rw[Qap,Xw,Wa]),Xa]
def Xbb(hN:NB N){h:Wh}(ht:HT h)(hp:Uv h)(pins:List UB)(g:pins.length<=1000000)(y:List Int×Int)(G:y.1.length<=4096)(D:y.1.Pairwise (·<·))(o:∀a∈y.1,IF h a):∀(n k:Nat) (v:List Int),k<=pins.length->pins.length-k<n->v.length=h.p.length ->
 ∃e,Qbd N h pins y n (k:Int) v=some e/\Qce N pins h y n (k:Int) v=some (match e with|.ret _=>.ret ([],false)|.nxt v=>.nxt v)/\(∀b,e=.ret b->b=false)/\(∀f,e=.nxt f->f.length=h.p.length/\∀p∈pins.drop k,y.1.contains p.a=true)
 |0,k,v,_,H,_=>by omega
 |n+1,k,v,R,H,I=>by
  have j:1000000<N:=by unfold NB at hN;omega
  rw[Qbd,Qce];by_cases r:k<pins.length;case neg=>
   rw[We ab,Wa,Wa]
   grind
  have⟨q,eq⟩:=Xoa (N:=N) y.1 pins[k].a ab j D;have J:Xd pins (k:Int)=some pins[k]:=by rw[Xf,Wb r]
  simp only[Wg (show(k:Int)<(pins.length:Int) by omega),Wc,J,Xa,XY pins[k].a (show y.1.length<=1000000000 by omega) (show y.1.length<N by omega),eq,Xgt pins pins[k].a g j,Xod pins pins[k].a g j];cases u:y.1.contains pins[k].a with
  |false=>simp
  |true=>
  have x:=o _ (by rw[UG]at u;exact u);have z:=x.tu hp;have⟨K,A,L⟩:=KZ (N:=N) hp x;have O:Qca N h.c pins[k].a=some (pgi h.c pins[k].a,pgo h.c pins[k].a,0):=by rw[KR,Wj (by rw[hp.conf];simp),Wm x.rng];rfl
  have⟨c,B⟩:∃c,Xd v (pgi h.c pins[k].a)=some c:=⟨_,X1 A ab⟩
  simp only[Wi,Wa,K,Xjn N h.c pins[k].a z.2,O,Xa,B,Xg (show k<=140737488355328 by omega)];have⟨e,n1,n2,S,E⟩:=Xbb hN ht hp pins g y G D o n (k+1) (v.set (pgi h.c pins[k].a).toNat (wI (c+pins[k].M))) ab ab (by rw[WL];exact I);have T:∀f,e=.nxt f->f.length=h.p.length/\∀p∈pins.drop k,y.1.contains p.a=true:=λf s=>⟨(E f s).1,λp hp=>by
   rw[Wl r]at hp
   rcases Ig.1 hp with rfl|hp
   .exact u
   .exact(E f s).2 p hp⟩
  grind
def XlY(hN:NB N){h:Wh}(ht:HT h){pins:List UB}(f:pins.length<=1000000):Qhj N h pins=Qch N h pins:=by
 have r:1000000<N:=by unfold NB at hN;omega
 have hb:=ht.hb;have s:h.p.length<=100000:=hb.2;rw[Qhj,Qch,Xd8 hN ht];have⟨b,eb,g⟩:=Kz hN hb;rw[eb,Xa,Xa];cases b with
 |false=>rfl
 |true=>
 cases decide ((pins.length:Int)>64)with
 |true=>rfl
 |false=>
 have hp:Uv h:=(g rfl).prop;have⟨y,u,x,z,j,_⟩:=K0 hN hb;rw[Wa,Wa,Qf6,JA hN ht,u,Xa,Xa];rw[Xb ab];have⟨e,A,B,e3,e4⟩:=Xbb hN ht hp pins f y x z j N 0 (List.replicate (h.p.length:Int).toNat 0) ab ab ac;have o:Qbd N h pins y N 0 (List.replicate (h.p.length:Int).toNat 0)=some e:=A;have q:Qce N pins h y N 0 (List.replicate (h.p.length:Int).toNat 0)=_:=B;rw[Xb ab,o,q,Xa,Xa];cases e with
 |ret b=>rw[e3 b rfl,Xq,Xq,Xa];rfl
 |nxt v=>
  rw[Xl,Xl,Xa];have E:∀(n:Nat) (i:Int),QeC N h (v,true) n i=QbC N h v n i:=by
   intro n;induction n with
   |zero=>intro i;rw[QeC,QbC]
   |succ n D=>intro i;rw[QeC,QbC];simp only[D]
  simp_all
def Xd9(hN:NB N){h:Wh}(ht:HT h){pins:List UB}(j:pins.length<=1000000)(f:Qch N h pins=some true):Qbk N h=some true/\pins.length<=64/\∀y,Qal N h=some y->∀p∈pins,y.1.contains p.a=true:=by
 have hb:=ht.hb;have u:h.p.length<=100000:=hb.2;rw[Qch]at f;have⟨b,eb,o⟩:=Kz hN hb;rw[eb,Xa]at f;cases b with
 |false=>grind
 |true=>
 refine⟨eb,?_,λy s p x=>?_⟩
 .grind
 have hp:Uv h:=(o rfl).prop;have⟨D,g,z,A,q,_⟩:=K0 hN hb;rw[s]at g;cases g;cases hd:decide ((pins.length:Int)>64)with
 |true=>simp_all
 |false=>
 rw[hd,Wa,s,Xa,Xb ab]at f;have⟨e,B,E,e3,e4⟩:=Xbb hN ht hp pins j y z A q N 0 (List.replicate (h.p.length:Int).toNat 0) ab (by unfold NB at hN;omega) ac;have r:Qbd N h pins y N 0 (List.replicate (h.p.length:Int).toNat 0)=some e:=B;rw[r,Xa]at f;cases e with
 |ret b=>rw[e3 b rfl,Xq]at f;grind
 |nxt v=>simp_all
def Xbc{x:Uj}(hp:x.P.length<=1000000):∀(n k:Nat) (v:List Int),k<=x.P.length->x.P.length-k<n->v.length<=10000000+k ->
 QeM N x n (k:Int) v=some (v++(x.P.drop k).map (·.a))/\QbH N x n (k:Int) v=some (v++(x.P.drop k).map (·.a))
 |0,k,v,_,f,_=>by omega
 |n+1,k,v,g,f,h=>by
  rw[QeM,QbH];by_cases e:k<x.P.length
  .rw[Wg ab,Wc,Wc,Xf,Wb e,Xa,Xa,Xb ab,Xb ab,Xg ab];have⟨a,b⟩:=Xbc hp n (k+1) (v++[x.P[k].a]) ab ab (by rw[WK];simp;omega);rw[a,b,Wl e,W4,UA];exact⟨rfl,rfl⟩
  grind
def Zh(x:Uj):List Int:=((x.R++(bif Ym x.l then XA x.l.S else[]))++(bif Yh x.g.e then Xr x.g.e else[]))++x.P.map (·.a)
def Xoe{x:Uj}(f:EB x):(Zh x).length<=104160+x.P.length:=by have h:=YM f.loc;have j:=XZ x.g.e;have o:=f.roots;unfold Zh;grind
def Js(hN:NB N){x:Uj}(f:EB x):Qb9 N x=some (Zh x):=by
 have o:=YM f.loc;have p:=XZ x.g.e;have j:=f.pins;have q:=f.roots;have h:1000000<N:=by unfold NB at hN;omega
 rw[Qb9,Xb ab,YR f.loc h,Xa,Xb ab,XV f.glo h,Xa,Xb ab];have:=(Xbc (N:=N) j N 0 ((x.R++(bif Ym x.l then XA x.l.S else[]))++(bif Yh x.g.e then Xr x.g.e else[])) ab ab (by grind)).2;rw[show(0:Int)=((0:Nat):Int)from rfl,this,Xa,WX];rfl
def Xea(hN:NB N){x:Uj}(h:EB x):Qgn N x=some (Zh x):=by
 have o:=YM h.loc;have p:=XZ x.g.e;have j:=h.pins;have q:=h.roots;have f:1000000<N:=by unfold NB at hN;omega
 rw[Qgn,Xcd h.loc f,Xa,Jd h.glo f,Xa,Qhm];have:=(Xbc (N:=N) j N 0 [] ab ab ac).1;rw[show(0:Int)=((0:Nat):Int)from rfl,this,Xa,Xa,WX,W8,Qgm,Xce _ ac (by simp only[Xba,Ug];omega) f,Xa,Xa];unfold Zh;simp
structure ET(x:Uj):Prop where
 eb:EB x
 tw:XS x.h
def ET.ht{x:Uj}(t:ET x):HT x.h:=⟨t.eb.heap,t.tw⟩
end
section
variable {N:Nat}
def Xof(l:List Int):(!l.all λp=>!(p==0))=l.contains 0:=by grind
def Xc0(hN:NB N){x:Uj}(ht:ET x):Qdp N x=QbI N x:=by
 have f:1000000<N:=by unfold NB at hN;omega
 have h:=ht.eb;have r:=YM h.loc;have s:=XZ x.g.e;have u:=XZ x.v.e;have j:=h.pins;have E:=h.roots;rw[Qdp,QbI,XlY hN ht.ht j];have⟨b,eb,_⟩:=Va hN h.heap j;rw[eb,Xa,Xa];cases b with
 |false=>rfl
 |true=>
 have⟨eg,o,z⟩:=Xd9 hN ht.ht j eb;simp only[Wi,Wa,XbG h.loc f,Ze h.loc f,V6 h.glo f,YP h.glo f,V6 h.wea f,YP h.wea f,Jd h.glo f,XV h.glo f,Jd h.wea f,XV h.wea f,YR h.loc f,Xa,Xea hN h];cases el:Ym x.l with
 |false=>rfl
 |true=>
 cases et:Yh x.g.e with
 |false=>rfl
 |true=>
 cases A:Yh x.v.e with
 |false=>rfl
 |true=>
 have B:Zh x=((x.R++XA x.l.S)++Xr x.g.e)++x.P.map (·.a):=by unfold Zh;rw[el,et];rfl
 have p:=Xoe h;rw[el,Wc]at r;rw[et,Wc]at s;rw[A,Wc]at u;simp;rw[Xgm ab f,Xa,Xof,XY 0 ab ab,Xa];cases (Xr x.g.e).contains 0 with
 |true=>rfl
 |false=>
 rw[Wa,Wa,Xb ab,Xb ab,Xb ab,Xb ab];rw[Qgm,Xce _ ac (by simp only[Xba];omega) f,Xa,Xa];have⟨y,q,G,_⟩:=K0 hN h.heap;have D:[Zh x,Xr x.v.e].flatten=Zh x++Xr x.v.e:=by simp
 rw[D,Xfq hN ht.ht (by rw[WK];omega),Zz hN ht.ht (by rw[WK];omega) eg q,Zz hN ht.ht ai eg q,Xa,Xa,B];grind
end
section
variable {N:Nat}
def XlZ(N:Nat)(ps:List Wp):Qgq N ps=Qc1 N ps:=by
 have h:∀(n:Nat) (c i:Int),Qdq N ps n c i=QbG N ps n c i:=by
  intro n;induction n with
  |zero=>simp[Qdq,QbG]
  |succ n e=>simp[Qdq,QbG,e]
 rw[Qgq,Qc1,h]
def XhX(N:Nat)(ps:List Wp)(g:ps.length<=100000):∀(n k:Nat) (v:List OA),k<=ps.length->v.length<=k->QcI N ps n (k:Int) v=Qbz N ps n (k:Int) v
 |0,k,v,_,_=>by rfl
 |n+1,k,v,o,p=>by
  rw[QcI,Qbz];by_cases e:k<ps.length;case neg=>grind
  rw[Wg (show(k:Int)<(ps.length:Int) by omega),Wc,Wc,Xf,Wb e,Xa,Xa,Xb ab,Xg ab];have f:∀v':List OA,v'.length<=k+1->QcI N ps n ((k+1:Nat):Int) v'=Qbz N ps n ((k+1:Nat):Int) v':=λv' h=>XhX N ps g n (k+1) v' ab h;rw[f v ab,f (v++[OA.mk (k:Int) 1]) (by simp_all)];have j:∀(i:Nat) (x:OA),QcI N ps n ((k+1:Nat):Int) (v.set i x)=Qbz N ps n ((k+1:Nat):Int) (v.set i x):=λi x=>f _ (by grind);simp only[j];cases (ps[k].k != 0)with
  |true=>rfl
  |false=>
   rw[Wa,Wa,Xb (show v.length<=140737488355328 by omega)];rw[show decide (wI ((v.length:Int)-1)>=0)=decide ((v.length:Int)>0) by
    rw[Xe ab ab];grind]
def Xl0(hN:1000000<N){ps:List Wp}(g:ps.length<=100000)(k:Int):QdK N ps k=Qbo N ps k:=by
 have h:Qhk N ps=Qgj N ps:=by rw[Qhk,Qgj,show(0:Int)=((0:Nat):Int)from rfl,XhX N ps g N 0 [] ab ac]
 rw[QdK,Qbo,h];have⟨rs,ers,o,_⟩:=Xj6 (N:=N) (ps:=ps) ab ab;rw[ers,Xa,Xa];by_cases q:k<1
 .rw[Wg q,Wc];have:∀(n j:Nat),j<=rs.length->rs.length-j<n->QbF N k rs n (j:Int)=some (.nxt ()):=by
   intro n;induction n with
   |zero=>omega
   |succ n e=>
    intro j s u;rw[QbF];by_cases r:j<rs.length
    .rw[Wg ab,Wc,XR (show¬k>=1 by omega),Wa,Xg ab];exact e (j+1) ab ab
    grind
  have f:=this N 0 ab ab;rw[show((0:Nat):Int)=0 from rfl]at f;rw[f,Xa,Xl]
 have:∀(n:Nat) (j:Int),Qd5 N k rs n j=QbF N k rs n j:=by
  intro n;induction n with
  |zero=>intro j;rw[Qd5,QbF]
  |succ n e=>
   intro j;rw[Qd5,QbF,Wg (show k>=1 by omega),Wc];simp only[e];cases Xd rs j with
   |none=>simp only[Kq]
   |some p=>simp only[Xa]
 grind
end
section
variable {N:Nat}
def X2(p:Wp):Bool:=p.k != 0
def Xeb(N:Nat)(ps:List Wp)(f:ps.length<=1000000):∀(n c k:Nat),k<=ps.length->c<=k->ps.length-k<n->QbG N ps n (c:Int) (k:Int)=some (((c+(ps.drop k).countP X2:Nat):Int))
 |0,c,k,_,_,h=>by omega
 |n+1,c,k,g,j,o=>by
  rw[QbG];by_cases e:k<ps.length
  .rw[Wg ab,Wc,Xf,Wb e,Xa,Xg ab,Xg ab,Wl e,U9];cases hb:(ps[k].k != 0)with
   |true=>rw[Wc,Xeb N ps f n (c+1) (k+1) ab ab ab,Wm (show X2 ps[k]=true from hb)];congr 1;omega
   |false=>rw[Wa,Xeb N ps f n c (k+1) ab ab ab,Wj (show¬X2 ps[k]=true by unfold X2;rw[hb];simp)];rfl
  grind
def XhY(hN:1000000<N){ps:List Wp}(e:ps.length<=100000):Qc1 N ps=some ((ps.countP X2:Nat):Int):=by rw[Qc1,show(0:Int)=((0:Nat):Int)from rfl,Xeb N ps ab N 0 0 ab ab ab,Xa,WX,UE]
def Ki(ps l:List Wp)(i:Nat):List Wp:=(ps.take i++l)++ps.drop (i+l.length)
def Vd{ps l:List Wp}{i:Nat}(h:i+l.length<=ps.length):(Ki ps l i).length=ps.length:=by unfold Ki;grind
def Xgu(j i k:Nat)(f r:Wp)(ps:List Wp)(e:ps.length<=100000)(g:i+k<=ps.length):∀(n m:Nat),m<=k->k-m<n ->
 QdZ N (i:Int) (k:Int) f r n (m:Int) (Ki ps (List.replicate m r) i)=some (if((ps.drop (i+m)).take (k-m)).any X2=true then .ret ([],20)else .nxt (Ki ps (List.replicate k r) i))
 |0,m,_,h=>by omega
 |n+1,m,s,u=>by
  rw[QdZ];by_cases o:m<k;case neg=>
   obtain rfl:m=k:=ab
   simp
  have p:(Ki ps (List.replicate m r) i)[i+m]? = some (ps[i+m]'ab):=by unfold Ki;rw[Ud (by grind),UN];simp only[WK,Ws,W9];rw[show i+m+(i+m-(min i ps.length+m))=i+m by omega];exact Wb ab
  have q:(Ki ps (List.replicate m r) i).set (i+m) r=Ki ps (List.replicate (m+1) r) i:=by unfold Ki;rw[IO _ _ (by grind)];simp only[WK,Ws,W9];rw[show i+m-(min i ps.length+m)=0 by omega,Wl (show i+m<ps.length by omega),IH,List.replicate_succ',←W4 (ps.take i),W4 (ps.take i++List.replicate m r)];rfl
  have hw:wI ((i:Int)+(m:Int))=((i+m:Nat):Int):=by rw[Xe ab ab];omega
  rw[Wg ab,Wc,hw,Xf,p,Xa,Xa,Xg ab,show(((i+m:Nat):Int)).toNat=i+m from rfl,q];have hd:(ps.drop (i+m)).take (k-m)=ps[i+m]'ab::(ps.drop (i+(m+1))).take (k-(m+1)):=by rw[Wl (show i+m<ps.length by omega),show k-m=(k-(m+1))+1 by omega,List.take_succ_cons];rfl
  rw[hd,List.any_cons];cases hb:((ps[i+m]'ab).k != 0)with
  |true=>rw[Wc,show X2 (ps[i+m]'ab)=true from hb,Bool.true_or,Wm rfl]
  |false=>rw[Wa,show X2 (ps[i+m]'ab)=false from hb,Iu];exact Xgu j i k f r ps e g n (m+1) ab ab
def Xl1{α:Type}(p:α->Bool)(l:List α):decide (((l.countP p:Nat):Int)>0)=l.any p:=by
 cases h:l.any p with
 |true=>simp_all
 |false=>simp_all
def Xog(hN:1000000<N){ps:List Wp}(h:ps.length<=100000)(i:Int)(f r:Wp)(k:Nat)(u:1<=k)(q:k<=1000):QgM N ps i (f::List.replicate (k-1) r)=QdH N ps i (k:Int) f r:=by
 have e:(f::List.replicate (k-1) r).length=k:=by simp;omega
 rw[QgM,QdH,e];by_cases v:i<0
 .simp_all
 obtain⟨j,rfl⟩:∃j:Nat,i=(j:Int):=⟨i.toNat,ab⟩
 by_cases g:j+k<=ps.length;case neg=>
  by_cases p:(j:Int)>=(ps.length:Int)
  .rw[Wg p,Wc,Xe (n:=(ps.length:Int)-(k:Int)) ab ab,Wg (show(j:Int)>(ps.length:Int)-(k:Int) by omega),Wc]
  .rw[XR p,Wa,Xe (n:=(ps.length:Int)-(k:Int)) ab ab,Xe (n:=(ps.length:Int)-(j:Int)) ab ab,Wg (show(j:Int)>(ps.length:Int)-(k:Int) by omega),Wc,Wg (show(k:Int)>(ps.length:Int)-(j:Int) by omega),Wc]
 rw[Xe (n:=(ps.length:Int)-(k:Int)) ab ab,Xe (n:=(ps.length:Int)-(j:Int)) ab ab,XR (show¬(j:Int)>(ps.length:Int)-(k:Int) by omega),Wa,XR (show¬(j:Int)>=(ps.length:Int) by omega),Wa,XR (show¬(k:Int)>(ps.length:Int)-(j:Int) by omega),Wa];have hw:wI ((j:Int)+(k:Int))=((j+k:Nat):Int):=by rw[Xe ab ab];omega
 rw[hw,Xb ab,Xb ab,show(((j+k:Nat):Int)).toNat=j+k from rfl,show(j:Int).toNat=j from rfl,show j+k-j=k by omega,XlZ,XhY hN (by grind),Xa,Xl1];have ht:=Xgu (N:=N) 0 j k f r ps h g N 0 ab ab;have o:Ki ps (List.replicate 0 r) j=ps:=by unfold Ki;simp
 rw[o,IT,Nat.sub_zero,show((0:Nat):Int)=0 from rfl]at ht;rw[ht,Xa];cases ((ps.drop j).take k).any X2 with
 |true=>rw[Wc,Wm rfl,Xq]
 |false=>
  rw[Wa,Wj ac,Xl,Qad,Xa,Xb ab,Xb ab];have s:(Ki ps (List.replicate k r) j).length=ps.length:=Vd (by simp_all);rw[Xf,Wb ab,Xa];unfold Ki;obtain⟨m,rfl⟩:∃m,k=m+1:=⟨k-1,ab⟩
  rw[W9,IM,List.replicate_succ,List.set_append_left _ _ (by grind),IO _ _ (by grind)];simp only[Ws];rw[show j-min j ps.length=0 by omega,IH]
end
section
variable {N:Nat}
def Xl2{α:Type}(sp:Int)(x y:α):(bif (!decide (sp=0\/sp=1))then x else y)=(bif (decide (sp<0))then x else bif (decide (sp>1))then x else y):=by grind
def Xl3(hN:1000000<N){ps:List Wp}(e:ps.length<=100000)(i sp:Int):Qek N ps i sp=QbX N ps i sp:=by rw[Qek,QbX,Kv,Xa,Xl2];have:=Xog hN e i (Wp.mk 1 sp 0 0) (Wp.mk 0 0 0 0) 1 ab ab;simp_all
def Xjq{v:Int}{k:Nat}(u:k<=63)(h:0<=v)(g:v<2 ^ k):XcM .u64 v (2 ^ k-1)=0:=by
 obtain⟨n,rfl⟩:=UP h;have j:n<2 ^ k:=by
  have e:(2:Int) ^ k=((2 ^ k:Nat):Int):=by simp
  rw[e]at g;omega
 have hb:IntKind.u64.bits=64:=rfl;show IntKind.u64.wrap ((BitVec.ofInt IntKind.u64.bits n &&& ~~~ BitVec.ofInt IntKind.u64.bits (2 ^ k-1)).toNat:Int)=_;rw[hb];have f:(2:Int) ^ k-1=((2 ^ k-1:Nat):Int):=by
  have g:=Nat.one_le_two_pow (n:=k);have e:(2:Int) ^ k=((2 ^ k:Nat):Int):=by simp
  rw[e];omega
 have o:BitVec.ofInt 64 (n:Int)=BitVec.ofNat 64 n:=by simp
 have p:BitVec.ofInt 64 ((2 ^ k-1:Nat):Int)=BitVec.ofNat 64 (2 ^ k-1):=by simp
 rw[f,o,p];have q:BitVec.ofNat 64 n &&& ~~~ BitVec.ofNat 64 (2 ^ k-1)=0#64:=by
  apply BitVec.eq_of_getLsbD_eq;intro i r;simp only[BitVec.getLsbD_and,BitVec.getLsbD_not,BitVec.getLsbD_ofNat,r,decide_true,Uf,BitVec.getLsbD_zero];by_cases s:i<k
  .simp_all
  rw[Nat.testBit_lt_two_pow (I7 j (Oh ab ab))];simp
 rw[q];rfl
def Xc1{a b:Int}{s:Nat}(q:s<=63)(f:0<=a)(h:a<2 ^ s)(g:0<=b)(hb:b*2 ^ s+a<=18446744073709551615):bOr .u64 a (b*2 ^ s)=a+b*2 ^ s:=by
 obtain⟨n,rfl⟩:=UP f;obtain⟨m,rfl⟩:=UP g;have j:(2:Int) ^ s=((2 ^ s:Nat):Int):=by simp
 rw[j]at h hb⊢;have r:(m:Int)*((2 ^ s:Nat):Int)=((m*2 ^ s:Nat):Int):=by simp
 have e:IntKind.u64.bits=64:=rfl;show IntKind.u64.wrap ((BitVec.ofInt IntKind.u64.bits n |||BitVec.ofInt IntKind.u64.bits ((m*2 ^ s:Nat):Int)).toNat:Int)=_;rw[e];have o:BitVec.ofInt 64 (n:Int)=BitVec.ofNat 64 n:=by simp
 have p:BitVec.ofInt 64 ((m*2 ^ s:Nat):Int)=BitVec.ofNat 64 (m*2 ^ s):=by rw[BitVec.ofInt_natCast]
 rw[o,p,BitVec.toNat_or,IK,IK,On (show n<2 ^ 64 by omega),On (show m*2 ^ s<2 ^ 64 by omega)];have:=Nat.shiftLeft_add_eq_or_of_lt (show n<2 ^ s by omega) m;rw[Nat.shiftLeft_eq]at this;rw[Nat.or_comm,←this];show wU _=_;rw[Xt ab ab];omega
end
section
variable {N:Nat}
def Xcj(hN:1000<N){w v:Int}(f:0<=w)(h:w<=63)(g:0<=v)(e:v<2 ^ w.toNat):QdT N v w=some true:=by rw[QdT,ZF f ab hN,Xa,Xjq ab g e];rfl
def Xoh(hN:1000000<N){k l m:Int}(k0:0<=k)(k1:k<4)(g:0<=l)(R:l<4096)(h:0<=m)(S:m<4294967296):
 Qgc N [(Ik.mk 2 1),(Ik.mk 2 k),(Ik.mk 12 l),(Ik.mk 32 m)]=some (1+k*4+l*16+m*65536,0):=by
 obtain⟨n,rfl⟩:∃n,N=n+5:=⟨N-5,ab⟩
 generalize f:[(Ik.mk 2 1),(Ik.mk 2 k),(Ik.mk 12 l),(Ik.mk 32 m)]=L;have e:L.length=4:=by rw[←f];rfl
 have j:Xd L 0=some (Ik.mk 2 1):=by rw[←f];unfold Xd;rfl
 have g1:Xd L 1=some (Ik.mk 2 k):=by rw[←f];unfold Xd;rfl
 have g2:Xd L 2=some (Ik.mk 12 l):=by rw[←f];unfold Xd;rfl
 have g3:Xd L 3=some (Ik.mk 32 m):=by rw[←f];unfold Xd;rfl
 have o:wI (0+1)=1:=Xe ab ab;have p:wI (1+1)=2:=Xe ab ab;have q:wI (2+1)=3:=Xe ab ab;have r:wI (3+1)=4:=Xe ab ab;have s:wI (64-2)=62:=Xe ab ab;have u:wI (62-2)=60:=Xe ab ab;have v:wI (60-12)=48:=Xe ab ab;have x:wI (48-32)=16:=Xe ab ab;have k2:wI (0+2)=2:=Xe ab ab;have y:wI (2+2)=4:=Xe ab ab;have z:wI (4+12)=16:=Xe ab ab;have A:wI (16+32)=48:=Xe ab ab;have B:Qbm (n+5) L (n+5) 64 0=some (.nxt ()):=by rw[Qbm,e,j];simp only[Xa,o,s];rw[Qbm,e,g1];simp only[Xa,p,u];rw[Qbm,e,g2];simp only[Xa,q,v];rw[Qbm,e,g3];simp only[Xa,r,x];rw[Qbm,e];rfl
 have f0:QdT (n+5) 1 2=some true:=Xcj ab ab ab ab ag;have f1:QdT (n+5) k 2=some true:=Xcj ab ab ab k0 (by show k<4;omega);have f2:QdT (n+5) l 12=some true:=Xcj ab ab ab g (by show l<4096;omega);have D:QdT (n+5) m 32=some true:=Xcj ab ab ab h (by show m<4294967296;omega);have E:Ke .u64 1 0=1:=by decide +kernel
 have G:Ke .u64 k 2=k*2 ^ 2:=by show wU (k*4)=k*4;exact Xt ab ab
 have H:Ke .u64 l 4=l*2 ^ 4:=by show wU (l*16)=l*16;exact Xt ab ab
 have s3:Ke .u64 m 16=m*2 ^ 16:=by show wU (m*65536)=m*65536;exact Xt ab ab
 have I:bOr .u64 0 1=1:=by decide +kernel
 have J:bOr .u64 1 (k*2 ^ 2)=1+k*2 ^ 2:=Xc1 ab ab ag k0 ab;have K:bOr .u64 (1+k*2 ^ 2) (l*2 ^ 4)=1+k*2 ^ 2+l*2 ^ 4:=Xc1 ab ab ab g ab;have M:bOr .u64 (1+k*2 ^ 2+l*2 ^ 4) (m*2 ^ 16)=1+k*2 ^ 2+l*2 ^ 4+m*2 ^ 16:=Xc1 ab ab ab h ab;have O:Qbn (n+5) L (n+5) 0 0 0=some (.nxt (1+k*2 ^ 2+l*2 ^ 4+m*2 ^ 16)):=by rw[Qbn,e,j];simp only[Xa,f0,o,k2,E,I];rw[Wg ab,Wc,Wi,Wa,Xb ab];rw[Qbn,e,g1];simp only[Xa,f1,p,y,G,J];rw[Wg ab,Wc,Wi,Wa,Xb ab];rw[Qbn,e,g2];simp only[Xa,f2,q,z,H,K];rw[Wg ab,Wc,Wi,Wa,Xb ab];rw[Qbn,e,g3];simp only[Xa,D,r,A,s3,M];rw[Wg ab,Wc,Wi,Wa,Xb ab];rw[Qbn,e];rw[We ab,Wa]
 simp[Qgc,B,Xa,Xl,O]
def Xjr{d:Wy}(e:tW d.Map)(h:XC d=true):0<=d.Map/\d.Map<4294967296:=by have⟨a,b⟩:=e;omega
def XqT(hN:1000000<N){d:Wy}(f:tW d.Map):QfP N d=Qcy N d:=by
 rw[QfP,Vw ab,KU,Xa];cases e:XC d with
 |false=>rfl
 |true=>have hb:=XD e;have g:=Xjr f e;rw[Wi,Wa,Wm rfl,Xt (n:=d.k) ab ab,Xt (n:=d.n) ab ab,Xt (n:=d.Map) ab ab,Xoh hN ab ab ab ab ab ab,Xa];congr 2;unfold Zw;have s:∀x:Int,Ke .u64 x 16=wU (x*65536):=λ_=>rfl;simp only[s,Xcv];omega
def Xl4(hN:NB N){ws l:List Int}(hw:ws.length<=100000)(h:l.length<=1000){a:Int}(g:a<=18446744073709551615):Qgz N ws a l=Qci N ws a l:=by
 rw[Qgz,Xcf ab g,ZQ (by unfold BIG;omega) (by unfold BIG;omega) (by unfold NB at hN;omega),XcR (by unfold BIG;omega) N a _ ab,Xa];by_cases e:4096<=a/\a<=4096+(ws.length:Int);case neg=>
  rw[Wj e,Wj (by unfold Yt;omega)];rfl
 rw[Wm e];by_cases f:a+(l.length:Int)<=4096+(ws.length:Int);case neg=>rw[We f,Ub,Wc,Wj (by unfold Yt;omega)]
 rw[Wg f,Wi,Wa,Wm (by unfold Yt;omega),Qac,Xa,Xb ab,Xb ab];rfl
def Xvw{n:Nat}(e:Int):(List.replicate (n+1) (0:Int)).set 0 e=[e]++List.replicate n (0:Int):=by rfl
def Xoi(hN:NB N){h:Wh}(hb:HB h){a:Int}(j:a<=18446744073709551615){d:Wy}(o:tW d.Map):QfX N h a d=QbN N h a d:=by
 have e:1000000<N:=by unfold NB at hN;omega
 rw[QfX,QbN,XqT e o,KU,Xa,Xa,Yx hb.2 e];have⟨b,eb⟩:=Jf (N:=N) hN hb;cases g:XC d with
 |false=>rw[Wj ac,eb,Xa,Xa];simp
 |true=>
  have p:=XD g;rw[Wm rfl,eb,Xa,Xa];cases b with
  |false=>rfl
  |true=>
  have q:XB d=d.n+1:=by unfold XB;rw[Wm g]
  have⟨n,u⟩:∃n:Nat,d.n=(n:Int):=⟨d.n.toNat,ab⟩
  have ht:(d.n+1).toNat=n+1:=ab;have f:d.n.toNat=n:=ab;rw[Wi,Wa,Wa,ZG ab,Xa,q,Xb ab,ht,f,Xb ab,Xb ab];have r:Xd (List.replicate (n+1) (0:Int)) 0=some 0:=by unfold Xd;simp
  rw[r,Xa,Xvw,Xl4 hN hb.1 (by grind) j];have⟨w,s⟩:∃w,Qci N h.w a ([Zw d]++List.replicate n (0:Int))=some w:=⟨_,ZQ (by unfold BIG;have:=hb.1;omega) (by unfold BIG;grind) (by grind) a⟩
  rw[s,Xa,Xa,Qgr];cases (w.2 != 0)with
  |true=>simp[Wc,Xa]
  |false=>simp[Wa,Qad,Xa]
end
section
variable {N:Nat}
def XqU{α:Type}(q:α->Bool)(l:List α)(j:Nat)(x:α)(h:∀y,l[j]? = some y->q y=q x):(l.set j x).all q=l.all q:=by
 by_cases e:j<l.length
 .have f:l=l.take j++l[j]::l.drop (j+1):=by rw[List.getElem_cons_drop,If]
  grind
 rw[List.set_eq_of_length_le ab]
def XeP{α:Type}(l:List α)(i k j:Nat)(x:α):((l.set j x).drop i).take k=if i<=j then((l.drop i).take k).set (j-i) x else(l.drop i).take k:=by
 by_cases h:i<=j
 .rw[Wm h,List.drop_set,Wj ab,List.take_set]
 rw[Wj h,List.drop_set,Wm ab]
def Xoj{c:WP}{ps:List Wp}{j:Nat}(h:j<ps.length){x:Wp}(o:∀sp,Ya sp x=Ya sp ps[j])(q:X7 c ps j x=X7 c ps j ps[j])(i:Nat)(r:i<ps.length):
 X7 c (ps.set j x) i ((ps.set j x)[i]'(by simp_all))=X7 c ps i ps[i]:=by
 have f:∀sp k,(((ps.set j x).drop (i+1)).take k).all (Ya sp)=((ps.drop (i+1)).take k).all (Ya sp):=by
  intro sp k;rw[XeP];split
  .refine XqU _ _ _ _ λy g=>?_;rw[Ur]at g;split at g
   .rw[UN,show i+1+(j-(i+1))=j by omega,Wb h]at g;cases g;exact(o sp).symm
   cases g
  rfl
 have e:∀p,X7 c (ps.set j x) i p=X7 c ps i p:=by intro p;unfold X7;simp only[WL,f]
 grind
def XcD{h:Wh}(o:h.p.length<=100000)(hN:1000000<N)(e:List Wp)(f:e.length=h.p.length)(j:∀i(q:i<h.p.length),X7 h.c e i (e[i]'ab)=X7 h.c h.p i h.p[i])(ws:List Int)(b:Int):∀(n i:Nat),i<=h.p.length->Qae N ⟨h.c,ws,e,h.s,b⟩ n (i:Int)=Qae N h n (i:Int)
 |0,i,_=>by rfl
 |n+1,i,q=>by
  rw[Qae,Qae];dsimp only;rw[f];by_cases g:i<h.p.length;case neg=>grind
  rw[Wg (show(i:Int)<_ by omega),Wc,Wc,Kb ab hN ab,Kb o hN g,j i g,Xa,Xa];have r:=XbI (c:=h.c) g (p:=h.p[i]);generalize X7 h.c h.p i h.p[i]=s at *;by_cases u:s=0
  .simp_all
  rw[show((s:Int)==0)=false by simp_all,Wa,Wa,Xe ab ab,show(i:Int)+(s:Int)=((i+s:Nat):Int) by omega];exact XcD o hN e f j ws b n (i+s) ab
structure O2(h:Wh):Prop where
 conf:XU h.c=true
 words:(h.w.length:Int)=h.c.p*h.c.W
 pages:(h.p.length:Int)=h.c.p
 space:0<=h.s/\h.s<=1
 bump:h.b = -1\/(0<=h.b/\h.b<h.p.length/\(pg h.p h.b).k=1)
def Uv.pre{h:Wh}(hp:Uv h):O2 h:=⟨hp.conf,hp.words,hp.pages,hp.space,hp.bump⟩
def Kw{h:Wh}(hp:O2 h):Qb2 N h=bnd (Qae N h N 0) λe=>exK e (λr=>some r) λ_=>some true:=by
 have q:=Xh.1 hp.conf;have u:=XE hp.conf (i:=0) ab ab;have hw:=hp.words;have f:=hp.pages;have g:((h.w.length:Int) != wI (h.c.W*h.c.p))=false:=by rw[Int.mul_comm,Xe ab ab];simpa using hw
 have j:((h.p.length:Int) != h.c.p)=false:=by simpa using f
 have e3:∀{α:Type} (x y z:α),(bif h.s != 0 then(bif h.s != 1 then x else y)else y)=y:=by
  intro α x y z;by_cases v:h.s=0
  .simp_all
  have A:h.s=1:=by have:=hp.space;omega
  simp_all
 rw[Qb2];simp only[Xv,Je,Xa,hp.conf,Wi,Wa,g,j];rw[e3 _ _ (some true)];rcases hp.bump with hb|⟨b0,o,b2⟩
 .simp_all
 rw[show(h.b != -1)=true by grind,Wc,XR (show¬h.b<0 by omega),Wa,XR (show¬h.b>=(h.p.length:Int) by omega),Wa,Xn b0 o,Xa,b2];rfl
def V8{h:Wh}(hN:NB N)(hb:HB h)(ep:Qaa N h=some true){e:List Wp}(f:e.length=h.p.length)(o:∀i(q:i<h.p.length),X7 h.c e i (e[i]'ab)=X7 h.c h.p i h.p[i]){ws:List Int}(hw:ws.length=h.w.length){b:Int}(g:b = -1\/(0<=b/\b<e.length/\(pg e b).k=1)):Qaa N ⟨h.c,ws,e,h.s,b⟩=some true:=by
 have j:1000000<N:=by unfold NB at hN;omega
 have hp:=Xo hN hb ep;rw[←Yx (by rw[f];exact hb.2) j,Kw (h:=⟨h.c,ws,e,h.s,b⟩) ⟨hp.conf,by rw[hw];exact hp.words,by rw[f];exact hp.pages,hp.space,g⟩];have:=XcD hb.2 j e f o ws b N 0 ab;rw[show((0:Nat):Int)=0 from rfl]at this;rw[this,←Kw hp.pre,Yx hb.2 j,ep]
end
section
variable {N:Nat}
def XkC(hN:1000000<N){ps:List Wp}(h:ps.length<=100000){i:Int}(f r:Wp)(k:Nat)(y:1<=k)(q:k<=1000)(s:RunOK ps i (k:Int)):QdH N ps i (k:Int) f r=some (Ki ps (f::List.replicate (k-1) r) i.toNat,0):=by
 have⟨z,_,A,u⟩:=s;obtain⟨j,rfl⟩:∃j:Nat,i=(j:Int):=⟨i.toNat,ab⟩
 have g:((ps.drop j).take k).any X2=false:=by
  rw[List.any_eq_false];intro p hp hb;obtain⟨m,v,rfl⟩:=Wv hp;rw[Ws,WA]at v;rw[Iy,IW]at hb;have:=u (m:Int) ab ab;have e:pg ps ((j:Int)+(m:Int))=ps[j+m]'ab:=by unfold pg;rw[show((j:Int)+(m:Int)).toNat=j+m by omega,Wk,Wb ab];rfl
  rw[e]at this;unfold X2 at hb;rw[this]at hb;cases hb
 have ht:=Xgu (N:=N) 0 j k f r ps h ab N 0 ab ab;have o:Ki ps (List.replicate 0 r) j=ps:=by unfold Ki;simp
 rw[o,IT,Nat.sub_zero,show((0:Nat):Int)=0 from rfl,g,Wj ac]at ht;rw[QdH,XR (show¬(j:Int)<0 by omega),Wa,XR (show¬(j:Int)>=(ps.length:Int) by omega),Wa,Xe (n:=(ps.length:Int)-(j:Int)) ab ab,XR (show¬(k:Int)>(ps.length:Int)-(j:Int) by omega),Wa,Xb ab,ht,Xa,Xl];have x:(Ki ps (List.replicate k r) j).length=ps.length:=Vd (by grind);rw[Xf,Wb ab,Xa,show(j:Int).toNat=j from rfl];unfold Ki;obtain⟨m,rfl⟩:∃m,k=m+1:=⟨k-1,ab⟩
 rw[W9,IM,Ul,W9,List.replicate_succ,List.set_append_left _ _ (by grind),IO _ _ (by grind)];simp only[Ws];rw[show j-min j ps.length=0 by omega,IH]
end
section
variable {N:Nat}
def Xfr{c:WP}{ps:List Wp}{j:Nat}{p:Wp}(e:p.k=1)(f:0<=p.s/\p.s<=1)(hp:0<=p.P/\p.P<=2147483647)(g:0<=p.u/\p.u<=c.W):X7 c ps j p=1:=by unfold X7;grind
def Xjs{c:WP}{ps:List Wp}{j:Nat}:X7 c ps j Y3=1:=rfl
def XbK{ps:List Wp}{j:Nat}(e:j<ps.length):pg ps (j:Int)=ps[j]:=by unfold pg;simp_all
def XhZ(hN:NB N){h:Wh}(hb:HB h)(ep:Qaa N h=some true){j:Nat}(f:j<h.p.length){x:Wp}(r:x.k=1)(v:0<=x.s/\x.s<=1)(o:0<=x.P/\x.P<=2147483647)(y:0<=x.u/\x.u<=h.c.W)(g:h.p[j].k=0\/h.p[j].k=1){b:Int}(q:b=(j:Int)):Qaa N ⟨h.c,h.w,h.p.set j x,h.s,b⟩=some true:=by
 have hp:=Xo hN hb ep;have e:=hp.pgs (j:Int) ab ab;have z:X7 h.c h.p j h.p[j]=1:=by
  rcases g with g|g
  .have:=e.free (by simp_all[XbK,f]);rw[XbK f]at this;rw[this];rfl
  have a:=e.space;have b:=e.pins;have c:=e.small (by simp_all[XbK,f]);rw[XbK f]at a b c;exact Xfr g a b c
 have B:∀(p:Wp) (sp:Int),p.k=0\/p.k=1->Ya sp p=false:=by intro p sp h;unfold Ya Ka;rw[show(p.k==3)=false by grind];rfl
 refine V8 hN hb ep ac (λi A=>Xoj f (λsp=>by simp_all) ?_ i A) rfl (.inr ⟨ab,by simp_all,?_⟩)
 .rw[z];exact Xfr r v o y
 unfold pg;simp_all
def Xh0(N:Nat)(h:Wh)(n u first:Int):Option (Nat×Int):=
 if 0<=h.b/\u<=Xb3 h.c/\(pg h.p h.b).s=h.s/\(pg h.p h.b).u+n<=h.c.W then some (h.b.toNat,(pg h.p h.b).u)
 else if 0<=first/\u<Xb3 h.c then some (first.toNat,0)else none
def Kc(h:Wh)(n:Int)(j:Nat)(at_:Int):Wh:=⟨h.c,h.w,h.p.set j ⟨1,h.s,at_+n,(pg h.p (j:Int)).P⟩,h.s,(j:Int)⟩
def Xl5(hN:NB N){h:Wh}(hb:HB h)(hp:Uv h){n u f:Int}(Y:0<=n/\n<=300)(I:Qc1 N h.p=some u)(G:Qbo N h.p 1=some f):
 Qep N h n=some (match Xh0 N h n u f with|some (j,a)=>(Kc h n j a,Xc h.c (j:Int) a,true)|none=>(zHp,0,false)):=by
 have v:1000000<N:=by unfold NB at hN;omega
 have x:=hb.2;have hpages:=hp.pages;have J:=Xh.1 hp.conf;have fresh:(bif decide (f<0)then some (zHp,(0:Int),false)else bif decide (u>=Xb3 h.c)then some (zHp,0,false)else bnd (QbX N h.p f h.s) λr=>bnd (Xd r.1 f) λy=>bnd (Xd r.1 f) λz=>bnd (Xd r.1 f) λo=>some ((Wh.mk h.c h.w (r.1.set f.toNat (Wp.mk o.k o.s (wI (z.u+n)) o.P)) h.s f),(wU (wI ((wI (4096+(wI (f*h.c.W))))+y.u))),true))=some (match (if 0<=f/\u<Xb3 h.c then some (f.toNat,(0:Int))else none)with|some (j,a)=>(Kc h n j a,Xc h.c (j:Int) a,true)|none=>(zHp,0,false)):=by
  by_cases K:f<0
  .grind
  by_cases L:u>=Xb3 h.c
  .grind
  rw[XR K,Wa,XR L,Wa,Wm ab]
  have g:RunOK h.p f 1:=by
   rcases(KF (N:=N) (ps:=h.p) 1 ab ab).get_eq G with A|A
   .omega
   .omega
  obtain⟨j,rfl⟩:∃j:Nat,f=(j:Int):=⟨f.toNat,ab⟩
  have H:j<h.p.length:=by have:=g.2.2.1;omega
  have M:=hp.space
  have O:=XE hp.conf (i:=(j:Int)) ab ab
  have et:=XkC v x (Wp.mk 1 h.s 0 0) (Wp.mk 0 0 0 0) 1 ab ab g
  have B:QdH N h.p (j:Int) 1 (Wp.mk 1 h.s 0 0) (Wp.mk 0 0 0 0)=_:=et
  have q:Ki h.p (Wp.mk 1 h.s 0 0::List.replicate (1-1) (Wp.mk 0 0 0 0)) j=h.p.set j (Wp.mk 1 h.s 0 0):=by
   unfold Ki
   rw[List.set_eq_take_append_cons_drop,Wm H];simp
  rw[QbX,XR (show¬h.s<0 by omega),Wa,XR (show¬h.s>1 by omega),Wa,B,show(j:Int).toNat=j from rfl,q,Xa,Xa]
  have R:Xd (h.p.set j (Wp.mk 1 h.s 0 0)) (j:Int)=some (Wp.mk 1 h.s 0 0):=by
   rw[Xf,List.getElem?_set_self H]
  dsimp only
  have S:(pg h.p (j:Int)).P=0:=by
   have:=(hp.pgs (j:Int) ab ab).free (by have:=g.2.2.2 0 ab ab;assumption)
   rw[this];rfl
  simp only[R,Xa]
  unfold Kc Xc
  rw[List.set_set,S,Xe (n:=0+n) ab ab,Xe (n:=(j:Int)*h.c.W) ab ab,Xe (n:=4096+(j:Int)*h.c.W) ab ab,Xe (n:=4096+(j:Int)*h.c.W+0) ab ab,Xt ab ab]
 rw[Qep,Xb ab,Xf4,Xa,I,Xa,Xv,G];simp only[Xa];unfold Xh0;by_cases b0:h.b<0
 .grind
 have e:0<=h.b/\h.b<h.p.length/\(pg h.p h.b).k=1:=by
  rcases hp.bump with A|A
  .omega
  omega
 have D:=hp.pgs h.b e.1 e.2.1;have T:=D.small e.2.2;have O:=XE hp.conf (i:=h.b) ab ab;rw[XR b0,Wa,Xn e.1 e.2.1];simp only[Xa];rw[Xe (n:=(pg h.p h.b).u+n) ab ab];by_cases U:(pg h.p h.b).s=h.s;case neg=>grind
 rw[show((pg h.p h.b).s != h.s)=false by simp_all,Wa];by_cases b2:(pg h.p h.b).u+n>h.c.W
 .grind
 by_cases V:u>Xb3 h.c
 .grind
 rw[XR b2,Wa,XR V,Wa,Wm (c:=0<=h.b/\u<=Xb3 h.c/\_) ab];dsimp only;unfold Kc Xc;have E:(h.b.toNat:Int)=h.b:=ab;rw[E,e.2.2,U,Xe (n:=h.b*h.c.W) ab ab,Xe (n:=4096+h.b*h.c.W) ab ab,Xe (n:=4096+h.b*h.c.W+(pg h.p h.b).u) ab ab,Xt ab ab]
end
section
variable {N:Nat}
def XsH(hN:NB N){h:Wh}(hb:HB h)(ep:Qaa N h=some true){n u f:Int}(G:1<=n/\n<=h.c.W)(E:Qbo N h.p 1=some f){j:Nat}{a:Int}(g:Xh0 N h n u f=some (j,a)):j<h.p.length/\0<=a/\a+n<=h.c.W/\Qaa N (Kc h n j a)=some true:=by
 have hp:=Xo hN hb ep;have H:=hb.2;have z:=hp.space;unfold Xh0 at g;split at g
 .cases g;have e:0<=h.b/\h.b<h.p.length/\(pg h.p h.b).k=1:=by
   rcases hp.bump with A|A
   .omega
   exact A
  have o:=hp.pgs h.b e.1 e.2.1;have B:=o.small e.2.2;have r:(h.b.toNat:Int)=h.b:=ab;have v:h.b.toNat<h.p.length:=ab;refine⟨v,B.1,ab,?_⟩;unfold Kc;rw[r];refine XhZ (x:=⟨1,h.s,(pg h.p h.b).u+n,(pg h.p h.b).P⟩) hN hb ep v rfl z o.pins (by show 0<=(pg h.p h.b).u+n/\_;exact⟨ab,by show(pg h.p h.b).u+n<=_;omega⟩) (.inr ?_) r.symm;rw[←XbK v,r];omega
 split at g
 .cases g;have q:RunOK h.p f 1:=by
   rcases(KF (N:=N) (ps:=h.p) 1 ab (by unfold NB at hN;omega)).get_eq E with A|A
   .omega
   exact A
  have I:=q.2.2.1;have y:(f.toNat:Int)=f:=ab;have v:f.toNat<h.p.length:=ab;have D:(pg h.p f).k=0:=by have:=q.2.2.2 0 ab ab;simpa using this
  refine⟨v,ab,ab,?_⟩;unfold Kc;have o:=hp.pgs f ab ab;rw[y];refine XhZ (x:=⟨1,h.s,0+n,(pg h.p f).P⟩) hN hb ep v rfl z o.pins (by show 0<=0+n/\_;exact⟨ab,by show 0+n<=_;omega⟩) (.inl ?_) y.symm;rw[←XbK v,y];exact D
 simp_all
end
section
variable {N:Nat}
def Xok(hN:1000000<N)(c:WP)(d:Wy):Qdd N c d=some (XC d&&(d.k != 0&&Xx c (XB d) != -1)):=by rw[Qdd,ZD,Xa,XQ];simp only[Xa,KX (show 10<=N by omega)];grind
def Xol{h:Wh}(hb:HB h)(n:Int)(j:Nat)(a:Int):HB (Kc h n j a):=⟨hb.1,by show(h.p.set j _).length<=_;rw[WL];exact hb.2⟩
end
section
variable {N:Nat}
def Xh1{ps l:List Wp}{j:Nat}(h:j+l.length<=ps.length)(i:Nat):(Ki ps l j)[i]? = if i<j then ps[i]? else if i<j+l.length then l[i-j]? else ps[i]?:=by unfold Ki;grind
def Xl6{α:Type}(q:α->Bool){l e:List α}(f:l.length=e.length)(h:(∀i:Nat,l[i]? = e[i]?)\/∃(i:Nat) (x y:α),l[i]? = some x/\e[i]? = some y/\q x=false/\q y=false):l.all q=e.all q:=by
 rcases h with h|⟨i,x,y,g,j,o,p⟩
 .rw[List.ext_getElem? h]
 grind
def Xom{c:WP}{ps:List Wp}{i:Nat}{p:Wp}{s:Nat}(h:X7 c ps i p=s)(e:2<=s):((ps.drop (i+1)).take (s-1)).all (Ya p.s)=true/\s<=ps.length-i:=by unfold X7 at h;grind
def Xon{c:WP}{ps e:List Wp}(f:e.length=ps.length){i:Nat}(hd:∀m sp,((e.drop (i+1)).take m).all (Ya sp)=((ps.drop (i+1)).take m).all (Ya sp))(p:Wp):X7 c e i p=X7 c ps i p:=by unfold X7;simp_all
def Xec{h:Wh}(e:h.p.length<=100000)(hN:1000000<N):∀(k n j:Nat),j+k<=h.p.length->(∀m,m<k->∀(g:j+m<h.p.length),h.p[j+m]=Y3)->Qae N h (n+k) (j:Int)=Qae N h n ((j+k:Nat):Int)
 |0,n,j,_,_=>rfl
 |k+1,n,j,q,f=>by rw[show n+(k+1)=(n+k)+1 from rfl,Qae,Wg ab,Wc,Kb e hN (show j<h.p.length by omega),Xa];have:=f 0 ab ab;simp at this;rw[this,Xjs,show((((1:Nat)):Int)==0)=false from rfl,Wa,show((1:Nat):Int)=1 from rfl,Xg ab,Xec e hN k n (j+1) ab (λm g o=>by have:=f (m+1) ab ab;simpa only[show j+(m+1)=j+1+m by omega]using this)];grind
def Xjt(hN:NB N){h:Wh}(hb:HB h)(ep:Qaa N h=some true){j k:Nat}(hk:1<=k)(hr:RunOK h.p (j:Int) (k:Int)){w:Int}(hw:Xx h.c w=(k:Int)):Qaa N ⟨h.c,h.w,Ki h.p (Wp.mk 2 h.s w 0::List.replicate (k-1) (Wp.mk 3 h.s 0 0)) j,h.s,h.b⟩=some true:=by
 have o:1000000<N:=by unfold NB at hN;omega
 have hp:=Xo hN hb ep;have I:=hb.2;have hsp:=hp.space;have⟨_,_,hfit,z⟩:=hr;generalize H:(Wp.mk 2 h.s w 0::List.replicate (k-1) (Wp.mk 3 h.s 0 0))=L;have J:L.length=k:=by rw[←H];simp;omega
 have B:j+L.length<=h.p.length:=ab;have r:(Ki h.p L j).length=h.p.length:=Vd B;have K:∀m,m<k->∀(M:j+m<h.p.length),h.p[j+m]=Y3:=by intro m M v;have:=(hp.pgs ((j:Int)+m) ab ab).free (z m ab ab);rw[show(j:Int)+(m:Int)=((j+m:Nat):Int) by omega,XbK v]at this;exact this
 generalize hq:Ki h.p L j=e at *;have g:∀i,e[i]? = if i<j then h.p[i]? else if i<j+k then L[i-j]? else h.p[i]?:=by intro i;rw[←hq,Xh1 B,J]
 have x:∀i(hi:i<h.p.length),(i<j\/j+k<=i)->e[i]'ab=h.p[i]:=by
  intro i hi u;have a:=g i;rw[Wb ab,Wb hi]at a;rcases u with u|u
  .simp_all
  grind
 have D:∀i,(i<j\/j+k<=i)->∀m sp,((e.drop (i+1)).take m).all (Ya sp)=((h.p.drop (i+1)).take m).all (Ya sp):=by
  intro i u m sp;refine Xl6 _ (by simp_all) ?_;by_cases hcov:i<j/\j<i+1+m
  .right;refine⟨j-(i+1),Wp.mk 2 h.s w 0,Y3,?_,?_,rfl,rfl⟩
   .rw[Ur,Wm ab,UN,show i+1+(j-(i+1))=j by omega,g,Wj ab,Wm ab,U6,←H];rfl
   grind
  grind
 have main:∀(m i n f:Nat),h.p.length-i<=m->i<=h.p.length->(i<=j\/j+k<=i)->h.p.length-i+200<n->h.p.length-i+200<f->Qae N ⟨h.c,h.w,e,h.s,h.b⟩ n (i:Int)=Qae N h f (i:Int):=by
  intro m;induction m with
  |zero=>
   intro i n f h1 h2 h3 h4 h5;obtain⟨n,rfl⟩:∃q,n=q+1:=⟨n-1,ab⟩
   obtain⟨f,rfl⟩:∃q,f=q+1:=⟨f-1,ab⟩
   rw[Qae,Qae];grind
  |succ m ih=>
   intro i n f h1 h2 h3 h4 h5;by_cases v:i<h.p.length;case neg=>
    grind
   by_cases O:i=j
   .subst O;obtain⟨n,rfl⟩:∃q,n=q+1:=⟨n-1,ab⟩
    obtain⟨f,rfl⟩:∃q,f=q+k:=⟨f-k,ab⟩
    rw[Xec I o k f i ab K,Qae];dsimp only;have hx:e[i]'ab=Wp.mk 2 h.s w 0:=by have a:=g i;rw[Wb ab,Wj ab,Wm ab,U6,←H]at a;exact Wz a
    have R:((e.drop (i+1)).take (k-1)).all (Ya h.s)=true:=by
     rw[WV];intro y hy;obtain⟨q,S,rfl⟩:=Wv hy;rw[Ws,WA]at S;have a:=g (i+1+q);have T:L[i+1+q-i]? = some (Wp.mk 3 h.s 0 0):=by rw[←H,show i+1+q-i=q+1 by omega,Ij,Iw,Wm ab]
     rw[Wb ab,Wj ab,Wm ab,T]at a;rw[Iy,IW,Wz a];simp[Ya,Ka]
    have U:X7 h.c e i (e[i]'ab)=k:=by rw[hx];unfold X7;have V:(Xx h.c w).toNat=k:=ab;rw[Wj (show¬(2:Int)=0 by omega),Wm (by grind),Wj (show¬(2:Int)=1 by omega),Wm rfl];dsimp only;rw[V,Wm ⟨ab,ab,R⟩]
    rw[Wg ab,Wc,Kb ab o ab,U,Xa,show((k:Int)==0)=false by grind,Wa,Xe ab ab,show(i:Int)+(k:Int)=((i+k:Nat):Int) by omega];exact ih (i+k) n f ab ab (.inr ab) ab ab
   have u:i<j\/j+k<=i:=ab;obtain⟨n,rfl⟩:∃q,n=q+1:=⟨n-1,ab⟩
   obtain⟨f,rfl⟩:∃q,f=q+1:=⟨f-1,ab⟩
   rw[Qae,Qae];dsimp only;rw[r,Wg ab,Wc,Wc,Kb ab o ab,Kb I o v,x i v u,Xon r (D i u),Xa,Xa];have E:=Xom (c:=h.c) (ps:=h.p) (i:=i) (p:=h.p[i]) rfl;generalize X7 h.c h.p i h.p[i]=s at *;by_cases h0:s=0
   .simp_all
   rw[show((s:Int)==0)=false by simpa using h0,Wa,Wa,Xe ab ab,show(i:Int)+(s:Int)=((i+s:Nat):Int) by omega];refine ih (i+s) n f ab ab ?_ ab ab;rcases u with u|u
   .left;by_cases W:2<=s
    .have⟨ha,_⟩:=E W;by_cases Y:i+s<=j
     .exact Y
     rw[WV]at ha;have M:Y3∈(h.p.drop (i+1)).take (s-1):=by refine W5 (i:=j-(i+1)) ?_;rw[Ur,Wm ab,UN,show i+1+(j-(i+1))=j by omega,Wb ab];have:=K 0 ab ab;simp only[IT]at this;rw[this]
     have:=ha _ M;cases this
    omega
   omega
 have A:h.b = -1\/(0<=h.b/\h.b<e.length/\(pg e h.b).k=1):=by
  rcases hp.bump with hh|⟨b0,b1,b2⟩
  .omega
  have⟨q,Z⟩:∃q:Nat,h.b=(q:Int):=⟨h.b.toNat,ab⟩
  rw[Z]at b1 b2⊢;have G:q<h.p.length:=ab;rw[XbK G]at b2;by_cases hin:q<j\/j+k<=q
  .rw[XbK ab,x q G hin];omega
  have:=K (q-j) ab ab;simp only[show j+(q-j)=q by omega]at this;rw[this]at b2;cases b2
 rw[←Yx (by simp_all) o,Kw (h:=⟨h.c,h.w,e,h.s,h.b⟩) ⟨hp.conf,hp.words,by rw[r];exact hp.pages,hp.space,A⟩];have:=main h.p.length 0 N N ab ab (.inl ab) ab ab;rw[show((0:Nat):Int)=0 from rfl]at this;rw[this,←Kw hp.pre,Yx I o,ep]
end
section
variable {N:Nat}
def Xbd(h:Wh)(n:Int)(j k:Nat):Wh:=⟨h.c,h.w,Ki h.p (Wp.mk 2 h.s n 0::List.replicate (k-1) (Wp.mk 3 h.s 0 0)) j,h.s,h.b⟩
def Xoo(hN:1000000<N){h:Wh}(e:h.p.length<=100000)(hp:Uv h){n:Int}{j k:Nat}(f:1<=k)(g:k<=4)(hw:Xx h.c n=(k:Int))(o:RunOK h.p (j:Int) (k:Int)):Qe6 N h.c h.p (j:Int) h.s n=some ((Xbd h n j k).p,0):=by have q:=hp.space;rw[Qe6,KX ab,Xa,hw,XR (show¬(k:Int)<1 by omega),Wa,XR (show¬h.s<0 by omega),Wa,XR (show¬h.s>1 by omega),Wa,XkC hN e _ _ k f ab o,Xa];rfl
def Xop{h:Wh}(hb:HB h)(n:Int){j k:Nat}(e:1<=k)(f:j+k<=h.p.length):HB (Xbd h n j k):=⟨hb.1,by
 show(Ki h.p _ j).length<=_
 rw[Vd (by simp_all)];exact hb.2⟩
end
def GR{β:Type}(N:Nat)(c:WP)(sp n:Int)(ps:List Wp)(tk:List Int)(g:Int->Int->Int->List Wp->List Int->Option β):Option β:=
 grd (tk.length<=140737488355328) <|
 jn (λ(_:Unit)=>
  bnd (QdK N ps 1) λe=>
  bif (decide (e<0))then g 0 0 3 ps tk
  else bnd (Qek N ps e (wI (1-sp))) λh=>
  bif (h.2 != 0)then none
  else grd ((tk.length+1)*8<=140737488355328) <|
  g e 0 0 h.1 (tk++[e])) λf=>
 bif (decide ((tk.length:Int)>0))then(bnd (Xd tk (wI ((tk.length:Int)-1))) λp=>
  bif (decide (p>=0))then(bnd (Xd tk (wI ((tk.length:Int)-1))) λq=>
   grd (ps.length<=140737488355328) <|
   bif (decide (q<(ps.length:Int)))then(bnd (Xd tk (wI ((tk.length:Int)-1))) λj=>
    bnd (Xd ps j) λo=>
    bif (decide (n<=(wI (c.W-o.u))))then g j o.u 0 ps tk
    else f ())
   else f ())
  else f ())
 else f ()
def FT{β:Type}(N:Nat)(c:WP)(cp:Int)(ws:List Int)(ps:List Wp)(q:List Int)(f h:Int)(o:Int->Int->Int->List Int->List Wp->List Int->Option β)(i u:Int):Option β:=
 bnd (Qdg N c i u) λg=>
 bif (g.2 != 0)then o 0 g.2 cp ws ps q
 else grd ((h.toNat-f.toNat)<=140737488355328) <|
 bnd (Qcn N c g.1) λe=>
 bif (e.2.2 != 0)then(bnd (Qb4 N g.1) λv=>
  o 0 19 cp ws ps q)
 else grd (ws.length<=140737488355328) <|
 bif (decide ((((h.toNat-f.toNat):Nat):Int)>(wI ((ws.length:Int)-(wI ((wI (e.1*c.W))+e.2.1))))))then(bnd (Qb4 N g.1) λx=>
  o 0 19 cp ws ps q)
 else grd (0<=(wI ((wI (e.1*c.W))+e.2.1))/\(wI ((wI (e.1*c.W))+e.2.1))<=(wI ((wI ((wI (e.1*c.W))+e.2.1))+(((h.toNat-f.toNat):Nat):Int)))/\(wI ((wI ((wI (e.1*c.W))+e.2.1))+(((h.toNat-f.toNat):Nat):Int)))<=(ws.length:Int)) <|
 bnd (Qb4 N g.1) λp=>
 bif (p.2 != 0)then o 0 19 cp ws ps q
 else grd ((h.toNat-f.toNat)<=((wI ((wI ((wI (e.1*c.W))+e.2.1))+(((h.toNat-f.toNat):Nat):Int))).toNat-(wI ((wI (e.1*c.W))+e.2.1)).toNat)) <|
 bnd (KI (((ws.take (wI ((wI (e.1*c.W))+e.2.1)).toNat)++((ws.drop f.toNat).take (h.toNat-f.toNat)))++(ws.drop ((wI ((wI (e.1*c.W))+e.2.1)).toNat+(h.toNat-f.toNat)))) (f.toNat) (h.toNat-f.toNat) 0) λy=>
 bnd (Xd ps i) λr=>
 grd ((h.toNat-f.toNat)<=140737488355328) <|
 bnd (Xd ps i) λj=>
 grd ((q.length+1)*8<=140737488355328) <|
 o g.1 0 (wI (cp+1)) ((((ws.take (wI ((wI (e.1*c.W))+e.2.1)).toNat)++((ws.drop f.toNat).take (h.toNat-f.toNat)))++(ws.drop ((wI ((wI (e.1*c.W))+e.2.1)).toNat+(h.toNat-f.toNat)))).set f.toNat p.1) (ps.set i.toNat (Wp.mk j.k j.s (wI (r.u+(((h.toNat-f.toNat):Nat):Int))) j.P)) (q++[g.1])
section
variable {N:Nat}
def V9(l:List Int)(x:Int)(f:l.length<=1000000)(hN:1000000<N):Qai N l x=some (l.contains x):=by
 rw[Qai,QbU];rw[JL (p:=λy:Int=>(x==y)) f hN (λn j y e=>by
  have g:=Xu e
  rw[QaA,Xi g,Wc,Xf,e,Xa,Xg ab]) (λn=>by rw[QaA,Xw,Wa])]
 rw[Xa,Ku,List.contains_eq_any_beq]
def Xl7(l:List Int)(x:Int)(f:l.length<=1000000)(hN:1000000<N):Qbb N l x=some (l.contains x):=by
 rw[Qbb,Qej];rw[JL (p:=λy:Int=>(x==y)) f hN (λn j y e=>by
  have g:=Xu e
  rw[QbL,Xi g,Wc,Xf,e,Xa,Xg ab]) (λn=>by rw[QbL,Xw,Wa])]
 rw[Xa,Ku,List.contains_eq_any_beq]
def Xfs(w:Wu)(i:Int)(g:w.t.length<=1000000)(hN:1000000<N):Qgv N w i=some (w.t.contains i):=by
 have h:∀(n k:Nat),k<=w.t.length->w.t.length-k<n->QcU N w i n (k:Int)=some (bif (w.t.drop k).contains i then .ret true else .nxt ()):=by
  intro n;induction n with
  |zero=>omega
  |succ n f=>
   intro k j o;by_cases h:k<w.t.length
   .rw[QcU,Xi h,Wc,Xf,Wb h,Xa,Xg ab,Wl h,List.contains_cons];by_cases e:w.t[k]=i
    .rw[Xp e,Wc,Xp e.symm,Bool.true_or,Wc]
    rw[Xj e,Wa,Xj (λh=>e h.symm),Iu];exact f (k+1) ab ab
   obtain rfl:k=w.t.length:=ab;rw[QcU,Xw,Wa,WZ (Uh _)];rfl
 have h:=h N 0 ab ab;rw[show((0:Nat):Int)=0 from rfl,WX]at h;rw[Qgv,h,Xa];cases w.t.contains i
 .rw[Wa,Xl]
 simp[Wc,Xq]
def Xed(hN:1000000<N){v:Int}(r:tU v):QeO N v=QcA N v:=by
 obtain⟨m,rfl⟩:∃m,N=m+5:=⟨N-5,ab⟩
 have⟨f,s⟩:=r;have j:wI (0+1)=1:=Xe ab ab;have o:wI (1+1)=2:=Xe ab ab;have u:wI (64-2)=62:=Xe ab ab;have x:wI (62-32)=30:=Xe ab ab;have e:([(2:Int),32].length:Nat)=2:=rfl;have p:Xd [(2:Int),32] 0=some 2:=by unfold Xd;rfl
 have g1:Xd [(2:Int),32] 1=some 32:=by unfold Xd;rfl
 have y:Qau (m+5) v [2,32] (m+5) 64 0=some (.nxt ()):=by rw[Qau,e,p];simp only[Xa,j,u];rw[Qau,e,g1];simp only[Xa,o,x];rw[Qau,e];rfl
 have z:Qa9 (m+5) 2=some 3:=ZF ab ab ab;have A:Qa9 (m+5) 32=some 4294967295:=ZF ab ab ab;have q:Yy .u64 v 2=v / 4:=YA v 2 ab f;have B:Yy .u64 (v / 4) 32=v / 4 / 4294967296:=YA (v / 4) 32 ab ab;have D:Y6 .u64 v 3=v % 4:=Yu v 2 ab f s;have E:Y6 .u64 (v / 4) 4294967295=v / 4 % 4294967296:=Yu (v / 4) 32 ab ab ab;have G:Qav (m+5) [2,32] (m+5) v 0 []=some (v / 4 / 4294967296,[v % 4,v / 4 % 4294967296]):=by rw[Qav,e,p];rw[Wg ab,Wc,Xa,z,Xa,Xb ac,Xb ab,q,D,j];rw[Qav,e,g1];rw[Wg ab,Wc,Xa,A,Xa,Xb ac,Xb ab,B,E,o];rw[Qav,e];rw[We ab,Wa];rfl
 rw[QeO,Qc7,y,Xa,Xl,G,Xa,QcA,q,IL f];by_cases h:v / 4 / 4294967296=0
 .rw[h];by_cases g:v % 4=2
  .rw[g];have:v / 4 % 4294967296=v / 4:=ab;rw[this,We ab];rw[show((0:Int) != 0)=false from rfl,Wa,Xa];rw[show Xd [(2:Int),v / 4] 0=some 2 by unfold Xd;rfl,Xa,show Xd [(2:Int),v / 4] 1=some (v / 4) by unfold Xd;rfl,Xa];rfl
  rw[Xk g,Wc];rw[show((0:Int) != 0)=false from rfl,Wa,Xa];show bnd (Xd [v % 4,v / 4 % 4294967296] 0) _=_;rw[show Xd [v % 4,v / 4 % 4294967296] 0=some (v % 4) by unfold Xd;rfl,Xa,Xk g,Wc]
 rw[Xk h,Wc,Xa];grind
def Xh2(hN:1000000<N){a:Int}(g:0<=a)(A:a<4294967296):Qb4 N a=QcP N a:=by
 rw[Qb4,ZF ab ab ab,Xa,QcP,We (by show¬a>4294967295;omega),We ab,Wa,Wa];obtain⟨n,rfl⟩:∃n,N=n+5:=⟨N-5,ab⟩
 generalize f:[(Ik.mk 2 2),(Ik.mk 32 a)]=L;have e:L.length=2:=by rw[←f];rfl
 have h:Xd L 0=some (Ik.mk 2 2):=by rw[←f];unfold Xd;rfl
 have g1:Xd L 1=some (Ik.mk 32 a):=by rw[←f];unfold Xd;rfl
 have j:wI (0+1)=1:=Xe ab ab;have o:wI (1+1)=2:=Xe ab ab;have p:wI (64-2)=62:=Xe ab ab;have q:wI (62-32)=30:=Xe ab ab;have k2:wI (0+2)=2:=Xe ab ab;have r:wI (2+32)=34:=Xe ab ab;have s:Qbm (n+5) L (n+5) 64 0=some (.nxt ()):=by rw[Qbm,e,h];simp only[Xa,j,p];rw[Qbm,e,g1];simp only[Xa,o,q];rw[Qbm,e];rfl
 have f0:QdT (n+5) 2 2=some true:=Xcj ab ab ab ab ag;have f1:QdT (n+5) a 32=some true:=Xcj ab ab ab g (by show a<4294967296;omega);have u:Ke .u64 2 0=2:=by decide +kernel
 have v:Ke .u64 a 2=a*2 ^ 2:=by show wU (a*4)=a*4;exact Xt ab ab
 have x:bOr .u64 0 2=2:=by decide +kernel
 have y:bOr .u64 2 (a*2 ^ 2)=2+a*2 ^ 2:=Xc1 ab ab ag g ab;have z:Qbn (n+5) L (n+5) 0 0 0=some (.nxt (2+a*2 ^ 2)):=by rw[Qbn,e,h];simp only[Xa,f0,j,k2,u,x];rw[Wg ab,Wc,Wi,Wa,Xb ab];rw[Qbn,e,g1];simp only[Xa,f1,o,r,v,y];rw[Wg ab,Wc,Wi,Wa,Xb ab];rw[Qbn,e];rw[We ab,Wa]
 rw[Qgc,s,Xa,Xl,z,Xa,Xl,Xa,Xt (n:=4*a) ab ab,Xt ab ab];grind
end
section
variable {N:Nat}{h0:Wh}{l:List Int}
structure Sm(h0:Wh)(w:Wu)(n j u:Int)(ps:List Wp):Prop where
 rng:0<=j/\j<ps.length
 len:ps.length=w.h.p.length
 fit:0<=u/\u+n<=h0.c.W
 used:(pg ps j).u=u
 sp:∀i,0<=i->pg ps i=pg w.h.p i\/(pg ps i).s=1-h0.s
def XsI(hN:NB N)(hb:HB h0)(hp:Uv h0){w:Wu}(E:CI h0 l w){n:Int}(hn:1<=n)(hn2:n<=h0.c.W){β:Type}(A:Int->Int->Int->List Wp->List Int->Option β):
 (∃r,QcB N w n=some r/\r.2.2=false/\GR N h0.c h0.s n w.h.p w.t A=A 0 0 3 w.h.p w.t) \/
 ∃j u ps tk,Sm h0 w n j u ps/\QcB N w n=some (⟨⟨w.h.c,w.h.w,ps.set j.toNat ⟨(pg ps j).k,(pg ps j).s,wI ((pg ps j).u+n),(pg ps j).P⟩,w.h.s,w.h.b⟩,w.o,tk,w.q,w.d,w.r⟩,Xc h0.c j u,true) /\
  GR N h0.c h0.s n w.h.p w.t A=A j u 0 ps tk:=by
 have R:=hN;unfold NB at R;have hpl:=E.plen;have hv:=Xh.1 hp.conf;have htl:=E.tl hb;have hpp:=hp.pages;have hsp:=hp.space;have S:=E.spc;have U:∀j u:Int,0<=j->j<w.h.p.length->0<=u->u+n<=h0.c.W->wU (wI (wI (4096+wI (j*w.h.c.W))+u))=Xc h0.c j u:=by intro j u h1 h2 h3 h4;have hm:=XE hp.conf (i:=j) h1 ab;rw[E.conf,Xe (n:=j*h0.c.W) ab ab,Xe (n:=4096+j*h0.c.W) ab ab,Xe ab ab,Xt ab ab];rfl
 rw[QcB,GR];rw[Xb ab,Xb ab,Xv,Xv];have new:(∃r,(bnd (Qbo N w.h.p 1) λv=>
  bif (decide (v<0))then some ((Wu.mk zHp [] [] [] 0 (WS.mk 0 0 0 0 0 0)),0,false)
  else bnd (QbX N w.h.p v (wI (1-w.h.s))) λB=>
  grd (w.t.length*8<=140737488355328) <|
  grd ((w.t.length+1)*8<=140737488355328) <|
  bnd (Xd B.1 v) λG=>
  bnd (Xd B.1 v) λH=>
  bnd (Xd B.1 v) λx=>
  some ((Wu.mk (Wh.mk w.h.c w.h.w (B.1.set v.toNat (Wp.mk x.k x.s (wI (H.u+n)) x.P)) w.h.s w.h.b) w.o (w.t++[v]) w.q w.d w.r),(wU (wI ((wI (4096+(wI (v*w.h.c.W))))+G.u))),true))=some r/\r.2.2=false /\
   (bnd (QdK N w.h.p 1) λf=>
    bif (decide (f<0))then A 0 0 3 w.h.p w.t
    else bnd (Qek N w.h.p f (wI (1-h0.s))) λz=>
    bif (z.2 != 0)then none
    else grd ((w.t.length+1)*8<=140737488355328) <|
    A f 0 0 z.1 (w.t++[f]))=A 0 0 3 w.h.p w.t) \/
  ∃j u ps tk,Sm h0 w n j u ps/\(bnd (Qbo N w.h.p 1) λv=>
  bif (decide (v<0))then some ((Wu.mk zHp [] [] [] 0 (WS.mk 0 0 0 0 0 0)),0,false)
  else bnd (QbX N w.h.p v (wI (1-w.h.s))) λB=>
  grd (w.t.length*8<=140737488355328) <|
  grd ((w.t.length+1)*8<=140737488355328) <|
  bnd (Xd B.1 v) λG=>
  bnd (Xd B.1 v) λH=>
  bnd (Xd B.1 v) λx=>
  some ((Wu.mk (Wh.mk w.h.c w.h.w (B.1.set v.toNat (Wp.mk x.k x.s (wI (H.u+n)) x.P)) w.h.s w.h.b) w.o (w.t++[v]) w.q w.d w.r),(wU (wI ((wI (4096+(wI (v*w.h.c.W))))+G.u))),true))=some (⟨⟨w.h.c,w.h.w,ps.set j.toNat ⟨(pg ps j).k,(pg ps j).s,wI ((pg ps j).u+n),(pg ps j).P⟩,w.h.s,w.h.b⟩,w.o,tk,w.q,w.d,w.r⟩,Xc h0.c j u,true) /\
   (bnd (QdK N w.h.p 1) λf=>
    bif (decide (f<0))then A 0 0 3 w.h.p w.t
    else bnd (Qek N w.h.p f (wI (1-h0.s))) λz=>
    bif (z.2 != 0)then none
    else grd ((w.t.length+1)*8<=140737488355328) <|
    A f 0 0 z.1 (w.t++[f]))=A j u 0 ps tk:=by
  obtain⟨j,ej,hj⟩:=KF (N:=N) (ps:=w.h.p) 1 ab ab
  rw[Xl0 ab ab,ej,Xa,Xa]
  rcases hj with rfl|hr
  .exact .inl ⟨_,rfl,rfl,rfl⟩
  .refine .inr ?_
   obtain⟨y,ey,V⟩:=XdD (N:=N) (ps:=w.h.p) j (1-h0.s) ab ab
   have I:=V.2.2 hr ab ab
   have⟨L,q1,q2,Y⟩:=V.1 I
   have J:j<y.1.length:=ab
   have g:pg y.1 j=⟨1,1-h0.s,0,0⟩:=by rw[Y j L,Wm rfl]
   rw[Xe (n:=1-h0.s) ab ab,Xl3 ab ab,S,Xe (n:=1-h0.s) ab ab,ey,Xa,Xa,We ab,Wa,Wa,Xb ab,Xb ab,Xn L J,Xa,Xa,Xa,I,Xb ab]
   refine⟨j,0,y.1,w.t++[j],⟨⟨L,J⟩,ab,⟨ab,ab⟩,by rw[g],λi K=>?_⟩,?_,rfl⟩
   .by_cases e:i=j
    .subst e;rw[g];exact .inr rfl
    .rw[Y i K,Wj e,Wj ab];exact .inl rfl
   .rw[show(pg y.1 j).u=0 by rw[g],U j 0 L ab ab ab]
 by_cases ht:0<(w.t.length:Int)
 .rw[Wg ab,Wc,Wc,Xe (n:=(w.t.length:Int)-1) ab ab];have K:=X1 (l:=w.t) (i:=(w.t.length:Int)-1) ab ab;generalize w.t[((w.t.length:Int)-1).toNat]'ab=j at K;have⟨M,O,t2,Z,t4⟩:=E.tk j (Yr K);rw[K,Xa,Xa,Xa,Xa,Xa,Xn M O,Xa,Xa,Xa,Xa,Xa,Wg (p:=j>=0) M,Wc,Xb ab,Wg (p:=j<_) O,Wc,E.conf];have T:=Xe (n:=(pg w.h.p j).u+n) ab ab;have e2:=Xe (n:=h0.c.W-(pg w.h.p j).u) ab ab;by_cases D:(pg w.h.p j).u+n<=h0.c.W
  .rw[T,e2,Wg (p:=(pg w.h.p j).u+n<=h0.c.W) D,Wg (p:=n<=h0.c.W-(pg w.h.p j).u) ab,Wc,Wc];refine .inr ⟨j,(pg w.h.p j).u,w.h.p,w.t,⟨⟨M,O⟩,rfl,⟨Z,D⟩,rfl,λi _=>.inl rfl⟩,?_,rfl⟩;have:=U j (pg w.h.p j).u M O Z D;rw[E.conf]at this;rw[this,T]
  rw[T,e2,We (p:=(pg w.h.p j).u+n<=h0.c.W) D,We (p:=n<=h0.c.W-(pg w.h.p j).u) ab,Wa,Wa];rw[E.conf]at new;exact new
 grind
def XsJ(hN:NB N)(hb:HB h0)(hp:Uv h0){w:Wu}(v:CI h0 l w){n:Int}(B:1<=n)(x:n<=h0.c.W):
 (∃r,QcB N w n=some r/\r.2.2=false/\Qcu N w n=some (0,0,3,w.h.p,w.t)) \/
 ∃j u ps tk,Sm h0 w n j u ps/\QcB N w n=some (⟨⟨w.h.c,w.h.w,ps.set j.toNat ⟨(pg ps j).k,(pg ps j).s,wI ((pg ps j).u+n),(pg ps j).P⟩,w.h.s,w.h.b⟩,w.o,tk,w.q,w.d,w.r⟩,Xc h0.c j u,true) /\
  Qcu N w n=some (j,u,0,ps,tk):=by
 have h:=XsI hN hb hp v B x λy z A f g=>some (y,z,A,f,g);have e:Qcu N w n=GR N h0.c h0.s n w.h.p w.t λy z A f g=>some (y,z,A,f,g):=by rw[←v.conf,←v.spc,Qcu,Xv];rfl
 simp_all
end
section
variable {N:Nat}
def ZA{ps:List Wp}{i:Nat}(h:i<ps.length):pg ps (i:Int)=ps[i]:=by unfold pg;simp_all
def XsK{ps e:List Wp}(f:e.length=ps.length)(h:∀i,0<=i->pg e i=pg ps i):e=ps:=by refine IG f λi g j=>?_;rw[←ZA g,←ZA j];simp_all
def XsL{ps:List Wp}(q:Wp->Bool){i k:Nat}(h:i+1+k<=ps.length):((ps.drop (i+1)).take k).all q=true↔∀m:Int,1<=m->m<=k->q (pg ps (i+m))=true:=by
 rw[WV];constructor
 .intro f m o p;have e:pg ps (i+m)=((ps.drop (i+1)).take k)[m.toNat-1]'(by rw[Ws,WA];omega):=by rw[Iy,IW,←ZA];congr 1;omega
  grind
 intro f x g;obtain⟨m,j,rfl⟩:=Wv g;rw[Ws,WA]at j;rw[Iy,IW,←ZA];have:=f (m+1) ab ab;grind
structure O6(c:WP)(ps:List Wp)(i:Int):Prop where
 sp:0<=(pg ps i).s/\(pg ps i).s<=1
 pn:0<=(pg ps i).P/\(pg ps i).P<=2147483647
 k0:(pg ps i).k=0->pg ps i=Y3
 k1:(pg ps i).k=1->0<=(pg ps i).u/\(pg ps i).u<=c.W
 k2:(pg ps i).k=2->1<=Xx c (pg ps i).u/\i+Xx c (pg ps i).u<=ps.length/\∀m,1<=m->m<Xx c (pg ps i).u->(pg ps (i+m)).k=3/\(pg ps (i+m)).s=(pg ps i).s/\(pg ps (i+m)).u=0/\(pg ps (i+m)).P=0
 kd:(pg ps i).k=0\/(pg ps i).k=1\/(pg ps i).k=2
def Xft{s:Int}{p:Wp}:Ya s p=true↔p.k=3/\p.s=s/\p.u=0/\p.P=0:=by unfold Ya Ka;grind
def XbL{c:WP}{ps:List Wp}{i:Nat}(z:i<ps.length):(X7 c ps i ps[i]≠0↔O6 c ps i)/\(O6 c ps i->X7 c ps i ps[i]=if ps[i].k=2 then(Xx c ps[i].u).toNat else 1):=by
 have e:=ZA z;generalize hp:ps[i]=p at *;have tl:∀(h:i+Xx c p.u<=ps.length) (g:1<=Xx c p.u),((ps.drop (i+1)).take ((Xx c p.u).toNat-1)).all (Ya p.s)=true↔∀m,1<=m->m<Xx c p.u->(pg ps (i+m)).k=3/\(pg ps (i+m)).s=p.s/\(pg ps (i+m)).u=0/\(pg ps (i+m)).P=0:=λh g=>by rw[XsL _ ab];exact⟨λq m a b=>Xft.1 (q m a ab),λq m a b=>Xft.2 (q m a ab)⟩
 unfold X7;constructor
 .constructor
  .intro h;by_cases h0:p.k=0
   .rw[Wm h0]at h;by_cases g:p.s=0/\p.u=0/\p.P=0
    .obtain⟨a,b,d⟩:=g;refine⟨?_,?_,?_,?_,?_,?_⟩<;>rw[e]
     .omega
     .omega
     .intro _;obtain⟨k,s,u,q⟩:=p;simp_all[Y3]
     .intro h;omega
     .intro h;omega
     exact .inl h0
    rw[Wj g]at h;exact absurd rfl h
   rw[Wj h0]at h;by_cases g:(p.s=0\/p.s=1)/\0<=p.P/\p.P<=2147483647;rotate_left
   .rw[Wj g]at h;exact absurd rfl h
   rw[Wm g]at h;by_cases v:p.k=1
   .rw[Wm v]at h;by_cases j:0<=p.u/\p.u<=c.W
    .refine⟨?_,?_,?_,?_,?_,?_⟩<;>rw[e]
     .omega
     .omega
     .intro h;omega
     .exactλ_=>j
     .intro h;omega
     exact .inr (.inl v)
    rw[Wj j]at h;exact absurd rfl h
   rw[Wj v]at h;by_cases j:p.k=2;rotate_left
   .rw[Wj j]at h;exact absurd rfl h
   by_cases x:1<=Xx c p.u/\(Xx c p.u).toNat<=ps.length-i/\((ps.drop (i+1)).take ((Xx c p.u).toNat-1)).all (Ya p.s)=true
   .refine⟨?_,?_,?_,?_,?_,?_⟩<;>rw[e]
    .omega
    .omega
    .omega
    .omega
    .exactλ_=>⟨x.1,ab,(tl ab x.1).1 x.2.2⟩
    exact .inr (.inr j)
   simp_all
  intro b;have f:=b.kd;have y:=b.sp;have o:=b.pn;have b0:=b.k0;have r:=b.k1;have b2:=b.k2;rw[e]at f y o b0 r b2;rcases f with f|f|f
  .rw[Wm f,b0 f,Wm ⟨rfl,rfl,rfl⟩];omega
  .rw[Wj ab,Wm ⟨ab,o⟩,Wm f,Wm (r f)];omega
  grind
 intro b;have f:=b.kd;have y:=b.sp;have o:=b.pn;have b0:=b.k0;have r:=b.k1;have b2:=b.k2;rw[e]at f y o b0 r b2;rcases f with f|f|f
 .rw[Wm f,b0 f,Wm ⟨rfl,rfl,rfl⟩];rfl
 .rw[Wj ab,Wm ⟨ab,o⟩,Wm f,Wm (r f),Wj ab]
 grind
structure OO(c:WP)(ps:List Wp):Prop where
 hd:∀i:Int,0<=i->i<ps.length->(pg ps i).k≠3->O6 c ps i
 tl:∀i:Int,0<=i->i<ps.length->(pg ps i).k=3->∃k:Int,0<=k/\k<i/\O6 c ps k/\(pg ps k).k=2/\i<k+Xx c (pg ps k).u
def Xh3{h:Wh}(o:h.p.length<=100000)(hN:1000000<N):∀(n i:Nat),i<=h.p.length->Qae N h n (i:Int)=some (.nxt ())->∀j:Nat,i<=j->j<h.p.length->∃k s:Nat,i<=k/\k<=j/\j<k+s/\∃r:k<h.p.length,X7 h.c h.p k h.p[k]=s
 |0,i,_,e,_,_,_=>by simp_all[Qae]
 |n+1,i,u,e,j,v,q=>by
  have g:i<h.p.length:=ab;rw[Qae,Wg (show(i:Int)<_ by omega),Wc,Kb o hN g,Xa]at e;have x:=XbI (c:=h.c) g (p:=h.p[i]);generalize y:X7 h.c h.p i h.p[i]=s at *;by_cases h0:s=0
  .simp_all
  rw[show((s:Int)==0)=false by simp_all,Wa,Xe ab ab,show(i:Int)+(s:Int)=((i+s:Nat):Int) by omega]at e;by_cases z:j<i+s
  .grind
  have⟨k,t,a,b,d,f⟩:=Xh3 o hN n (i+s) ab e j ab q;grind
def Xh4{h:Wh}:∀(n:Nat) (i:Int) {b:Bool},Qae N h n i=some (.ret b)->b=false
 |0,i,b,e=>by simp_all[Qae]
 |n+1,i,b,e=>by
  rw[Qae]at e;cases g:decide (i<(h.p.length:Int))with
  |false=>simp_all
  |true=>
   rw[g,Wc]at e;cases f:QgL N h.c h.p i with
   |none=>simp_all[f,Kq]
   |some y=>
    rw[f,Xa]at e;cases j:y==0 with
    |true=>simp_all
    |false=>rw[j,Wa]at e;exact Xh4 n _ e
def Vy(hN:NB N){h:Wh}(hb:HB h)(ep:Qaa N h=some true):OO h.c h.p:=by
 have o:1000000<N:=by unfold NB at hN;omega
 have hp:=Xo hN hb ep;have e:=ep;rw[←Yx hb.2 o,Kw hp.pre]at e;have A:Qae N h N 0=some (.nxt ()):=by
  cases q:Qae N h N 0 with
  |none=>simp_all[q,Kq]
  |some x=>
   rw[q,Xa]at e;cases x with
   |ret a=>rw[Xq]at e;cases e;exact absurd (Xh4 N 0 q) ac
   |nxt u=>rfl
 have y:=Xh3 hb.2 o N 0 ab A;refine⟨λi h0 q z=>?_,λi h0 q z=>?_⟩
 .obtain⟨j,rfl⟩:∃j:Nat,i=(j:Int):=⟨i.toNat,ab⟩
  have⟨k,s,_,B,D,g,E⟩:=y j ab ab;have r:=XbL (c:=h.c) g;have hb:=r.1.1 ab;by_cases v:j=k
  .simp_all
  have:=r.2 hb;by_cases f:h.p[k].k=2
  .rw[Wm f]at this;have:=(hb.k2 (by rw[ZA g];exact f)).2.2 ((j:Int)-k) ab (by rw[ZA g];omega);rw[show(k:Int)+((j:Int)-k)=j by omega]at this;exact absurd this.1 z
  grind
 obtain⟨j,rfl⟩:∃j:Nat,i=(j:Int):=⟨i.toNat,ab⟩
 have⟨k,s,_,B,D,g,E⟩:=y j ab ab;have r:=XbL (c:=h.c) g;have hb:=r.1.1 ab;have G:=r.2 hb;have H:=hb.kd;have v:j≠k:=by rintro rfl;omega
 by_cases f:h.p[k].k=2
 .rw[Wm f]at G;exact⟨k,ab,ab,hb,by rw[ZA g];exact f,by rw[ZA g];omega⟩
 grind
def SpanS(c:WP)(ps e:List Wp):Prop:=e.length=ps.length/\∀i(f:i<ps.length)(g:i<e.length),X7 c e i e[i]=X7 c ps i ps[i]
def SpanS.refl(c:WP)(ps:List Wp):SpanS c ps ps:=⟨rfl,λ_ _ _=>rfl⟩
def SpanS.trans{c:WP}{a b d:List Wp}(e:SpanS c a b)(f:SpanS c b d):SpanS c a d:=⟨f.1.trans e.1,λi g h=>(f.2 i (by rw[e.1];omega) h).trans (e.2 i g (by rw[e.1];omega))⟩
def XbM{c:WP}{ps qs:List Wp}(hN:OO c ps)(o:qs.length=ps.length)(h:∀i:Int,0<=i->i<ps.length->((pg ps i).k<=1/\(pg qs i).k=1/\(0<=(pg qs i).s/\(pg qs i).s<=1)/\(0<=(pg qs i).P/\(pg qs i).P<=2147483647)/\0<=(pg qs i).u/\(pg qs i).u<=c.W) \/
  ((pg qs i).k=(pg ps i).k/\(pg qs i).u=(pg ps i).u/\(pg qs i).P=(pg ps i).P/\((pg qs i).s=(pg ps i).s\/2<=(pg ps i).k/\0<=(pg qs i).s/\(pg qs i).s<=1)))(ht:∀i m:Int,0<=i->(pg ps i).k=2->1<=m->m<Xx c (pg ps i).u->i+m<ps.length->(pg qs (i+m)).s=(pg qs i).s):SpanS c ps qs:=by
 refine⟨o,λi p q=>?_⟩;have x:=ZA p;have y:=ZA q;have z:=XbL (c:=c) p;have A:=XbL (c:=c) q;by_cases B:(pg ps i).k=3
 .have n1:¬O6 c ps i:=λb=>by have:=b.kd;omega
  have n2:¬O6 c qs i:=λb=>by have:=b.kd;have:=h i ab ab;omega
  simp_all
 have b:=hN.hd i ab ab B;have hb:=b.kd;have b0:=b.k0;have I:=b.k1;have b2:=b.k2;have J:=b.sp;have bp:=b.pn;have e:=h i ab ab;have D:O6 c qs i:=by
  refine⟨ab,ab,λj=>?_,λj=>?_,λj=>?_,ab⟩
  .rcases e with g|⟨g1,g2,g3,g4⟩
   .omega
   have:=b0 ab;rw[this]at g1 g2 g3 g4;have g4:(pg qs i).s=0:=by rcases g4 with g|g;exact g;exact absurd g.1 ag
   have E:pg qs i=⟨(pg qs i).k,(pg qs i).s,(pg qs i).u,(pg qs i).P⟩:=rfl;rw[E,g1,g2,g3,g4];rfl
  .omega
  rcases e with g|⟨g1,g2,g3,g4⟩
  .omega
  have f:(pg ps i).k=2:=ab;have⟨c1,G,H⟩:=b2 f;rw[g2,o];refine⟨c1,G,λm r v=>?_⟩;have⟨K,L,M,O⟩:=H m r v;have R:=h (i+m) ab ab;refine⟨ab,ht i m ab f r v ab,ab,ab⟩
 rw[z.2 b,A.2 D];rw[x]at e hb;rw[y]at e;by_cases j:ps[i].k=2
 .simp_all
 rw[Wj j,Wj ab]
def SpanS.proper(hN:NB N){h:Wh}(hb:HB h)(ep:Qaa N h=some true){f:List Wp}(g:SpanS h.c h.p f){ws:List Int}(hw:ws.length=h.w.length){b:Int}(e:b = -1\/(0<=b/\b<f.length/\(pg f b).k=1)):Qaa N ⟨h.c,ws,f,h.s,b⟩=some true:=
 V8 hN hb ep g.1 (λi j=>g.2 i j (by rw[g.1];omega)) hw e
end
section
variable {N:Nat}{h0:Wh}{l:List Int}
def Xc2{α:Type}{l:List α}{o n:Nat}{i:Int}(f:0<=i)(g:i<n)(e:o+i.toNat<l.length):KI l o n i=some (l[o+i.toNat]'e):=by unfold KI;simp_all
def XkD{c:WP}(f:XU c=true){a:Int}(g:4096<=a/\a<4096+c.p*c.W):Qcn N c a=some (pgi c a,pgo c a,0)/\wI (wI (pgi c a*c.W)+pgo c a)=a-4096:=by
 have⟨e,h,j,o,q⟩:=XL f g;have r:=XE f (i:=pgi c a) h j;refine⟨?_,?_⟩
 .rw[Xjn _ _ _ ab,KR,f,Wj ac,Wm g];rfl
 rw[Xe (n:=pgi c a*c.W) ab ab,Xe ab ab];unfold Xc at e;omega
def Xvx{c c':WP}(e:c=c')(f:XU c=true)(hN:1000000<N){cp X n i u:Int}{ws q:List Int}{ps:List Wp}{β:Type}(j:Int->Int->Int->List Int->List Wp->List Int->Option β)(hw:(ws.length:Int)=c.p*c.W)(r:0<=X)(B:1<=n)(D:X+n<=ws.length)(g:0<=i)(o:i<c.p)(v:0<=u)(E:u+n<=c.W)(x:(ps.length:Int)=c.p)(G:q.length<=100000):
 FT N c' cp ws ps q X (X+n) j i u=j (Xc c i u) 0 (wI (cp+1)) ((ovr ws ((ws.drop X.toNat).take n.toNat) (ix (Xc c i u))).set X.toNat (wU (wU (4*Xc c i u)+2))) (ps.set i.toNat ⟨(pg ps i).k,(pg ps i).s,wI ((pg ps i).u+n),(pg ps i).P⟩) (q++[Xc c i u]):=by
 subst e;have H:=XE f (i:=i) g o;have I:Xc c i u=4096+i*c.W+u:=rfl;have y:4096<=Xc c i u/\Xc c i u<4096+c.p*c.W:=ab;have⟨z,A⟩:=XkD (N:=N) f y;have eL:((X+n).toNat-X.toNat)=n.toNat:=ab;have eN:(n.toNat:Int)=n:=ab;have h:ovr ws ((ws.drop X.toNat).take n.toNat) (ix (Xc c i u))=(ws.take (Xc c i u-4096).toNat++(ws.drop X.toNat).take n.toNat)++ws.drop ((Xc c i u-4096).toNat+n.toNat):=by unfold ovr ix;rw[Ws,WA,Oa ab]
 rw[FT,Xd2,Z7,f,Wj ac,Wm ⟨g,o,v,ab⟩,Xa];rw[show((0:Int) != 0)=false from rfl,Wa,eL,eN,Xb ab,z,Xa];rw[show((0:Int) != 0)=false from rfl,Wa,Xb ab];rw[A,Xe (n:=(ws.length:Int)-(Xc c i u-4096)) ab ab,We (p:=n>_) ab,Wa];rw[Xe (n:=Xc c i u-4096+n) ab ab,Xb ab,Xh2 hN ab ab,Vs,Wj ab,Xa];rw[show((0:Int) != 0)=false from rfl,Wa,Xb ab,←h,Xc2 ab ab (by grind),Xa,Xn g ab,Xa,Xb ab,Xa,Xb ab]
def Xt3(w:Wu)(a:Int)(lp:Nat->Int->List Wp->Option (List Wp))(h0:∀i ps,lp 0 i ps=none)(g:∀n i ps,lp (n+1) i ps=(grd (ps.length<=140737488355328) <|
 bif (decide (i<(ps.length:Int)))then(bnd (Xd ps i) λf=>
  bif (f.k==3)then(bnd (Xd ps i) λe=>
   lp n (wI (i+1)) (ps.set i.toNat (Wp.mk e.k (wI (1-w.h.s)) e.u e.P)))
  else some ps)
 else some ps)):∀(n:Nat) (i:Int) (ps:List Wp),lp n i ps=QaK N w a n i ps
 |0,i,ps=>by rw[h0,QaK]
 |n+1,i,ps=>by rw[g,QaK];have:=Xt3 w a lp h0 g n;simp_all
def Prm(w:Wu)(i:Int):Prop:=(0<=i/\i<w.h.p.length)/\(pg w.h.p i).k=1/\(pg w.h.p i).s≠w.h.s/\i∉w.t
def XqV(hN:NB N){w:Wu}{i:Int}(A:w.t.length<=100000)(hp:w.h.p.length<=100000)(z:0<=w.h.s/\w.h.s<=1)(g:∀i,0<=i->(pg w.h.p i).k=1->0<=(pg w.h.p i).s/\(pg w.h.p i).s<=1){β:Type}:
 ∃b,(b=true↔Prm w i)/\QbW N w i=some b/\∀K:Bool->Option β,(jn K λj=>bif (decide (i<0))then j false
  else grd (w.h.p.length<=140737488355328) <|
  bif (decide (i>=(w.h.p.length:Int)))then j false
  else bnd (Xd w.h.p i) λf=>
  jn (λ(o:Bool)=>
   j o) λq=>
  bif (f.k==1)then(bif (f.s==(wI (1-w.h.s)))then(bnd (Qbb N w.t i) λr=>
      q (!r))
   else q false)
  else q false)=K b:=by
 have u:=hN;unfold NB at u;rw[QbW];by_cases v:i<0
 .exact⟨false,⟨λh=>(by grind),λh=>by have:=h.1;omega⟩,by simp_all,λK=>by rw[Xv,Wg v,Wc]⟩
 by_cases y:i>=(w.h.p.length:Int)
 .exact⟨false,⟨λh=>(by grind),λh=>by have:=h.1;omega⟩,by simp_all,λK=>by rw[Xv,We v,Wa,Xb ab,Wg y,Wc]⟩
 rw[We v,Wa,We y,Wa,Xn ab ab,Xa];by_cases e:(pg w.h.p i).k=1
 .have:=g i ab e;rw[Xp e,Wc];by_cases x:(pg w.h.p i).s=w.h.s
  .exact⟨false,⟨λh=>(by grind),λh=>absurd x h.2.2.1⟩,by simp_all,λK=>by rw[Xv,Wa,Xb ab,Wa,Xa,Xv,Xp e,Wc,Xe (n:=1-w.h.s) ab ab,Xj ab,Wa]⟩
  exact⟨!w.t.contains i,⟨λh=>⟨ab,e,x,by simp_all⟩,λh=>by simpa using h.2.2.2⟩,by rw[Xk x,Wc,Xfs _ _ ab ab,Xa],λK=>by rw[Xv,Wa,Xb ab,Wa,Xa,Xv,Xp e,Wc,Xe (n:=1-w.h.s) ab ab,Xp ab,Wc,Xl7 _ _ ab ab,Xa]⟩
 exact⟨false,⟨λh=>(by grind),λh=>absurd h.2.1 e⟩,by grind,λK=>by rw[Xv,Wa,Xb ab,Wa,Xa,Xv,Xj e,Wa]⟩
def Xgv(hN:NB N){w:Wu}{i:Int}(g:w.t.length<=100000)(hp:w.h.p.length<=100000)(e:0<=w.h.s/\w.h.s<=1)(f:∀i,0<=i->(pg w.h.p i).k=1->0<=(pg w.h.p i).s/\(pg w.h.p i).s<=1):
 ∃b,(b=true↔Prm w i)/\QbW N w i=some b/\QcX N w i=some b:=by have⟨b,j,o,q⟩:=XqV (β:=Bool) (i:=i) hN g hp e f;exact⟨b,j,o,q some⟩
end
end Go.Sx
