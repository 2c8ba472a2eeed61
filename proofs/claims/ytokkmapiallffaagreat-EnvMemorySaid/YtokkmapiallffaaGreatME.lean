import Derived.Test.YtokkmapiallffaaGreatMD
set_option linter.all false
namespace Go.Sx
def Yf(v:Int):Ix×Int:=
 if v=0 then(⟨0,0,0⟩,5)else if 1<=v % 4/\1<=v / 262144/\v / 262144<=4294967295 then(⟨v % 4,v / 4 % 65536,v / 262144⟩,0)else(⟨0,0,0⟩,6)
def XgD{N:Nat}{v:Int}(g:tU v):QcH N v=some (Yf v):=by
 have⟨f,j⟩:=g;rw[QcH,Yf];by_cases k:v=0
 .simp_all
 rw[show(v==0)=false by simp_all,Wa,Wj k];have p:Zq .u64 v 3=v % 4:=Y4 v 2 ab f j;have q:Yz .u64 v 2=v / 4:=Y3 v 2 ab f;have r:Zq .u64 (v / 4) 65535=v / 4 % 65536:=Y4 (v / 4) 16 ab ab ab;have s:Yz .u64 v 18=v / 262144:=Y3 v 18 ab f;rw[q,p,r,s,Xe (n:=v % 4) ab ab,Xe (n:=v / 4 % 65536) ab ab,Xe (n:=v / 262144) ab ab,Qca,Qhc];have u:∀x:Int,ZY .u64 x 2=wU (x*4):=λ_=>rfl;have w:∀x:Int,ZY .u64 x 18=wU (x*262144):=λ_=>rfl;rw[We (show v / 4 % 65536>=0 by omega),We (show v / 4 % 65536<=65535 by omega),We (show v % 4<=3 by omega)];simp only[Wc];by_cases g1:v % 4>=1
 .rw[We g1,Wc];by_cases g2:v / 262144>=1
  .rw[We g2,Wc,Xa];by_cases g3:v / 262144<=4294967295
   .rw[We g3,Wh,Wa,Xa,Wm ⟨g1,g2,g3⟩];have e:wU (wU (wU (v % 4)+ZY .u64 (wU (v / 4 % 65536)) 2)+ZY .u64 (wU (v / 262144)) 18)=v:=by rw[u,w,Xw (n:=v % 4) ab ab,Xw (n:=v / 4 % 65536) ab ab,Xw (n:=v / 262144) ab ab,Xw (n:=v / 4 % 65536*4) ab ab,Xw (n:=v / 262144*262144) ab ab,Xw (n:=v % 4+v / 4 % 65536*4) ab ab,Xw ab ab];omega
    simp_all
   rw[Wg g3,Ug,Wc,Xa,Wj (λh=>g3 h.2.2)];rfl
  rw[Wg g2,Wa,Xa,Ug,Wc,Xa,Wj (λh=>g2 h.2.1)];rfl
 rw[Wg g1,Wa,Xa,Ug,Wc,Xa,Wj (λh=>g1 h.1)];rfl
def Z7(w:WP)(v:Int):Int×Int:=
 if v=0 then(0,0)else if(Yf v).2≠0 then(0,(Yf v).2)else
 if(Yf v).1.Tag=1 then Yp w.l (Yf v).1.Index (Yf v).1.J else
 if(Yf v).1.Tag=2 then Yo w.g.e (Yf v).1.Index (Yf v).1.J else Yo w.v.e (Yf v).1.Index (Yf v).1.J
def XG(w:WP)(a:Int):Int×Int:=if(Z7 w a).2=0/\(Z7 w a).1=0 then(0,5)else Z7 w a
structure WF(w:WP):Prop where
 conf:XR w.c=true
 loc:Yl w.l=true
 glo:Yk w.g.e=true
 wea:Yk w.v.e=true
 m64:w.m.length<=64
 thing:∀x∈w.T,Xx x.H=true/\x.H.k≠0/\(x.D.length:Int)=x.H.n/\∀r∈Xfv x,r<=w.T.length
 mark:XgB w.T.length w.m=true
 roots:∀r∈w.R,r<=w.T.length
 rloc:∀r∈XD w.l.S,r<=w.T.length
 rglo:∀r∈Xu w.g.e,r<=w.T.length
 rwea:∀r∈Xu w.v.e,r<=w.T.length
def Jr{n:Nat}{l:List Int}:ZW n l=true↔∀r∈l,r<=n:=by unfold ZW;simp
def Jd{w:WP}(h:YG w=true):WF w:=by unfold YG at h;simp only[WH,Ic,IB]at h;have⟨j,k,p,q,y,r,z,s,u,e,f,g⟩:=h;refine⟨j,k,p,q,ab,λx v=>?_,s,Jr.1 u,Jr.1 e,Jr.1 f,Jr.1 g⟩;have:=(W0.1 r) x v;unfold XdX at this;simp at this;exact⟨this.1,this.2.1,this.2.2.1,Jr.1 this.2.2.2⟩
def WF.mk_{w:WP}(h:WF w){k:Nat}{m:IF}(e:w.m[k]? = some m):1<=m.I/\m.I<=w.T.length/\1<=m.M/\m.M<=1000:=by have:=(Za w.m () 0).1 h.mark k m e;unfold XkI at this;simp_all
def Xl8{l:List UF}{p:UF}(hp:p∈l)(e:p.V=true):p.a∈XD l:=by unfold XD;grind
def Xl9{l:List W6}{p:W6}(hp:p∈l)(e:p.V=true):p.a∈Xu l:=by unfold Xu;grind
def XjB(a:Wq)(i g:Int):(Yp a i g).2=0\/(Yp a i g).1=0:=by
 unfold Yp;split
 .exact .inr rfl
 split
 .exact .inr rfl
 split
 .exact .inr rfl
 split
 .exact .inr rfl
 split
 .exact .inr rfl
 split
 .exact .inr rfl
 split
 .exact .inl rfl
 omega
def XjC(l:List W6)(i g:Int):(Yo l i g).2=0\/(Yo l i g).1=0:=by unfold Yo;grind
def XqP{w:WP}(h:WF w)(v:Int):(Z7 w v).1<=w.T.length:=by
 have g:∀i g,(Yp w.l i g).1<=w.T.length:=by
  intro i g;by_cases f:(Yp w.l i g).2=0
  .have⟨_,_,p,hp,_,j,e⟩:=XaG f;rw[e];exact h.rloc _ (Xl8 (W3 hp) j)
  have:=(XjB w.l i g).resolve_left f;omega
 have t:∀(t:WD),(∀r∈Xu t.e,r<=w.T.length)->∀i g,(Yo t.e i g).1<=w.T.length:=by
  intro t ht i g;by_cases f:(Yo t.e i g).2=0
  .have⟨_,_,p,hp,_,j,e⟩:=Vd f;rw[e];exact ht _ (Xl9 (W3 hp) j)
  have:=(XjC t.e i g).resolve_left f;omega
 unfold Z7;split
 .simp
 split
 .simp
 split
 .simp_all
 split
 .exact t _ h.rglo _ _
 exact t _ h.rwea _ _
section
variable {N:Nat}{w:WP}{k:Nat}
def JN(hw:WB k w)(hN:1000000<N)(h:YG w=true){v:Int}(j:tU v):QaI N w v=some (Z7 w v):=by
 rw[QaI,Xc5 hw hN,Xa,h,Wh,Wa,Z7];by_cases e:v=0
 .rw[Wm e,e];rfl
 rw[Wj e,show(v==0)=false by simpa using e,Wa,XgD j,Xa];by_cases p:(Yf v).2=0
 .rw[p,show((0:Int) != 0)=false from rfl,Wa,Wj ac];by_cases f:(Yf v).1.Tag=1
  .rw[Wm f,f,show((1:Int)==1)=true from rfl,Wc,Xc3 hw.loc hN,Xa]
  rw[Wj f,show((Yf v).1.Tag==1)=false by simpa using f,Wa];by_cases g:(Yf v).1.Tag=2
  .rw[Wm g,g,show((2:Int)==2)=true from rfl,Wc,Vx hw.glo hN,Xa]
  rw[Wj g,show((Yf v).1.Tag==2)=false by simpa using g,Wa,Vx hw.wea hN,Xa]
 grind
def XbG(hw:WB k w)(hN:1000000<N)(e:YG w=true){v:Int}(f:tU v):Qet N w v=some (XG w v):=by rw[Qet,JN hw hN e f,Xa,XG];grind
end
def zTh:UZ:=⟨⟨0,0,0⟩,[]⟩
def thg(w:WP)(id:Int):UZ:=w.T.getD (id-1).toNat zTh
def JO(a:Wq)(id:Int):Int:=if id=0 then 0 else(Z1 a id).2.2.2
def okW(op a b:Int):Prop:=a<=2147483647/\(op=1->b<=4294967295)
instance(op a b:Int):Decidable (okW op a b):=by unfold okW;infer_instance
def hdW(op a b:Int):Ws:=⟨op,a,if op=1 then b else 0⟩
def XcJ(c:WN)(d:Ws):Bool:=Xx d&&(d.k != 0&&Xn c (Xj d) != -1)
def XbH(w:WP)(op a b:Int)(failed:Bool):Int:=
 if w.m.length>0 then 15 else if¬okW op a b then 1 else if XcJ w.c (hdW op a b)=false then 1 else
 if JO w.l 1≠0 then JO w.l 1 else if failed then 3 else 0
def XdZ(op:Int):Bool:=op==8||op==9
def Xc6(w:WP)(op a b c:Int):Int:=
 if(XG w a).2≠0 then(XG w a).2 else if b>=(thg w (XG w a).1).H.n then 2 else
 if Kk (thg w (XG w a).1).H b≠XdZ op then 4 else
 if op=8 then JO w.l ((thg w (XG w a).1).D.getD b.toNat 0)else if op=9 then(Z7 w c).2 else 0
def Xd0(w:WP)(op a:Int):Int:=
 if a=0 then 5 else if(Z7 w a).2≠0 then(Z7 w a).2 else
 if(Yf a).1.Tag≠(if op=16 then 3 else if op=14 then 2 else 1)then 4 else 0
def XjD(w:WP)(op a:Int):Int:=
 if(XG w a).2≠0 then(XG w a).2 else(ZC (if op=15 then w.v else w.g) (XG w a).1).2.2.2
def XgE(w:WP)(op a:Int):Int:=
 if op=17 then(if a>64 then 1 else(KF w.l a).2)else
 if(Z7 w a).2≠0 then(Z7 w a).2 else if(Zs w.l).2≠0 then(Zs w.l).2 else JO (Zs w.l).1 (Z7 w a).1
def Xia(l:List IF)(i:Int):IF:=l.getD i.toNat ⟨0,0,0⟩
def XkK(w:WP)(op a:Int)(failed:Bool):Int:=
 if(XG w a).2≠0 then(XG w a).2 else
 if op=20 then(if ZN w.m (XG w a).1<0 then 12 else 0)else
 if 0<=ZN w.m (XG w a).1/\(Xia w.m (ZN w.m (XG w a).1)).M=1000 then 18 else
 if ZN w.m (XG w a).1<0/\w.m.length=64 then 18 else if failed then 18 else 0
def Xd1(w:WP)(op a b:Int):Int:=
 if op=4\/op=5 then(XG w a).2 else if(Z7 w a).2≠0 then(Z7 w a).2 else
 if op=10 then(Z7 w b).2 else JO w.l (Z7 w a).1
def Xoc(w:WP)(op a b c:Int)(failed:Bool):Int:=
 if YG w=false then 19 else
 if op=1\/op=2\/op=3 then XbH w op a b failed else
 if op=6\/op=7\/op=8\/op=9 then Xc6 w op a b c else
 if op=12\/op=14\/op=16 then Xd0 w op a else
 if op=13\/op=15 then XjD w op a else
 if op=17\/op=18 then XgE w op a else
 if op=19\/op=20 then XkK w op a failed else
 if op=4\/op=5\/op=10\/op=11 then Xd1 w op a b else 1
def Xk{a b:Int}(h:¬a=b):(a==b)=false:=by simp_all
def Xr{a b:Int}(h:a=b):(a==b)=true:=by simp_all
def Z5{a b:Int}(h:a=b):(a != b)=false:=by simp_all
def Xl{a b:Int}(h:¬a=b):(a != b)=true:=by simp_all
section
variable {N:Nat}{w:WP}{k:Nat}
def XqQ(hw:WB k w)(f:YG w=true)(tw:XP w){v:Int}(e:tU v):tU (Z7 w v).1:=by have:=QiN (N:=1000001) tw e;exact this _ (JN (N:=1000001) hw ab f e)
def Xfw(hw:WB k w)(e:YG w=true)(tw:XP w){v:Int}(f:tU v)(h:(XG w v).2=0):1<=(XG w v).1/\(XG w v).1<=w.T.length/\XG w v=Z7 w v:=by
 have g:=XqQ hw e tw f;have j:=XqP (Jd e) v;unfold XG at h⊢;by_cases p:(Z7 w v).2=0/\(Z7 w v).1=0
 .simp_all
 unfold tU at g;grind
def JB(hw:WB k w){id:Int}(g:1<=id)(h:id<=w.T.length):Xd w.T (wU (id-1))=some (thg w id)/\thg w id∈w.T:=by
 have j:=hw.kk;have ht:=hw.things;have e:=Wb (show(id-1).toNat<w.T.length by omega);have f:thg w id=w.T[(id-1).toNat]'ab:=by unfold thg;rw[Wk,e];rfl
 rw[Xw ab ab,X6 ab ab,f];simp
def Vz(e:LBp w.l)(hN:1000000<N)(id:Int):Qc9 N w.l id=some (JO w.l id):=by
 rw[Qc9,JO];by_cases h:id=0
 .rw[Wm h,h];rfl
 simp[Wj,h,Xk,Wa,XaF,e,hN,Xa]
def Xib{a:Wq}(e:LBp a)(hN:1000000<N)(id:Int):Qc9 N a id=some (JO a id):=Vz (w:=⟨⟨0,0⟩,[],a,zT,zT,[],[]⟩) e hN id
def Xd2(op:Int){a b:Int}(ta:tU a)(tb:tU b):∃d,QcE N op a b=some (d,decide (okW op a b))/\(okW op a b->d=hdW op a b):=by
 unfold tU at ta tb;have f:a<=2147483647->wI (Zq .u64 a 2147483647)=a:=λh=>by have:Zq .u64 a 2147483647=a % 2147483648:=Y4 a 31 ab ta.1 ta.2;rw[this,Xe ab ab];omega
 rw[QcE];by_cases g:op=1
 .rw[Xr g,Wc];by_cases j:a<=2147483647
  .rw[We j,Wc];refine⟨⟨op,wI (Zq .u64 a 2147483647),wW b⟩,?_,λh=>?_⟩
   .exact congrArg (λx=>some (_,x)) (decide_eq_decide.2 ⟨λh=>⟨j,λ_=>h⟩,λh=>h.2 g⟩)
   rw[f j,XrN ab (by have:=h.2 g;omega),hdW,Wm g]
  rw[Wg j,Wa];refine⟨⟨op,wI (Zq .u64 a 2147483647),wW b⟩,?_,λh=>absurd h.1 j⟩;rw[Wg (show¬okW op a b fromλh=>j h.1)]
 rw[Xk g,Wa];refine⟨⟨op,wI (Zq .u64 a 2147483647),0⟩,?_,λh=>?_⟩
 .exact congrArg (λx=>some (_,x)) (decide_eq_decide.2 ⟨λh=>⟨h,λe=>absurd e g⟩,λh=>h.1⟩)
 rw[f h.1,hdW,Wj g]
def XkL(hN:10<=N)(c:WN)(d:Ws):Qcl N c d=some (XcJ c d):=by rw[Qcl,Zp,Xa,XcJ,XI,Xa,Zg hN,Xa];grind
def XjE(hw:WB k w)(hN:1000000<N)(op:Int){a b:Int}(ta:tU a)(tb:tU b)(f:Bool):QfP N w op a b f=some (XbH w op a b f):=by
 have⟨d,hd,g⟩:=Xd2 (N:=N) op ta tb;rw[QfP,XbH];by_cases j:w.m.length>0
 .rw[We (show(w.m.length:Int)>0 by omega),Wc,Wm j]
 rw[Wg (show¬(w.m.length:Int)>0 by omega),Wa,Wj j,hd,Xa];by_cases h:okW op a b
 .rw[We h,Wh,Wa,Wj (by simpa using h),XkL ab,Xa,g h];cases p:XcJ w.c (hdW op a b)
  .rfl
  rw[Wh,Wa,Wj ac,Vz hw.loc hN,Xa];by_cases e:JO w.l 1=0
  .rw[Z5 e,Wa,Wj (by simpa using e)];cases f<;>rfl
  rw[Xl e,Wc,Wm e]
 simp_all
def Xma(hw:WB k w)(hN:1000000<N)(e:YG w=true)(tw:XP w)(op:Int){a b c:Int}(ta:tU a)(tb:tU b)(tc:tU c):Qgd N w op a b c=some (Xc6 w op a b c):=by
 rw[Qgd,XbG hw hN e ta,Xa,Xc6];by_cases g:(XG w a).2=0;rotate_left
 .grind
 have⟨r,s,_⟩:=Xfw hw e tw ta g;have⟨g1,g2⟩:=JB hw r s;have⟨u,E,G,I⟩:=(Jd e).thing _ g2;have vb:=XB u;unfold tU at tb;rw[Z5 g,Wa,Wj ab,g1,Xa,Xw (n:=(thg w (XG w a).1).H.n) ab ab];by_cases h:b>=(thg w (XG w a).1).H.n
 .simp_all
 rw[Wg h,Wa,Wj h,Xe (n:=b) ab ab];have key:∀x:Bool,x=XdZ op->(bnd (Qby N (thg w (XG w a).1).H b) λv=>
  bif (!(v==x))then some 4
  else bif (op==8)then(bnd (Xd (thg w (XG w a).1).D b) λy=>
   bnd (Qc9 N w.l y) λz=>
   some z)
  else bif (op==9)then(bnd (QaI N w c) λA=>
   some A.2)
  else some (XG w a).2)=some (if Kk (thg w (XG w a).1).H b≠XdZ op then 4 else
 if op=8 then JO w.l ((thg w (XG w a).1).D.getD b.toNat 0)else if op=9 then(Z7 w c).2 else 0):=by
  intro x B
  subst B
  rw[KY,Xa]
  by_cases j:Kk (thg w (XG w a).1).H b=XdZ op
  .rw[show(Kk (thg w (XG w a).1).H b==XdZ op)=true by simpa using j,Wh,Wa,Wj (by simpa using j)]
   by_cases f:op=8
   .rw[Xr f,Wc,Wm f,X6 ab ab,Xa,Vz hw.loc hN,Xa,Wk,Wb ab];rfl
   rw[Xk f,Wa,Wj f]
   by_cases p:op=9
   .rw[Xr p,Wc,Wm p,JN hw hN e tc,Xa]
   grind
  .grind
 rw[Xt];cases q:(op==8)
 .have:=key (op==9) (by unfold XdZ;rw[q,Iz]);grind
 have:=key true (by unfold XdZ;rw[q,Bool.true_or]);simp_all
def XjF(hw:WB k w)(hN:1000000<N)(g:YG w=true)(op:Int){a:Int}(ta:tU a):QfQ N w op a=some (Xd0 w op a):=by
 rw[QfQ,Xd0];by_cases e:a=0
 .rw[Xr e,Wc,Wm e]
 rw[Xk e,Wa,Wj e,JN hw hN g ta,Xa];by_cases f:(Z7 w a).2=0;rotate_left
 .rw[Xl f,Wc,Wm f]
 rw[Z5 f,Wa,Wj (by simpa using f),XgD ta,Xa,Xt];grind
def Xod(hw:WB k w)(hN:1000000<N)(g:YG w=true)(op:Int){a:Int}(ta:tU a):QgB N w op a=some (XjD w op a):=by
 rw[QgB,XbG hw hN g ta,Xa,XjD];by_cases e:(XG w a).2=0;rotate_left
 .rw[Xl e,Wc,Wm e]
 rw[Z5 e,Wa,Wj (by simpa using e),Xt];by_cases f:op=15
 .rw[Wm f,Xr f,Wc];show bnd (QcZ N w.v (XG w a).1) _=_;rw[JA hw.wea hN,Xa]
 simp[Wj,f,Xk,Wa,JA,hw.glo,hN,Xa]
def Xmb(hw:WB k w)(hN:1000000<N)(g:YG w=true)(op:Int){a:Int}(ta:tU a):Qge N w op a=some (XgE w op a):=by
 rw[Qge,XgE];by_cases e:op=17
 .rw[Xr e,Wc,Wm e];by_cases f:a>64
  .simp_all
  unfold tU at ta;rw[Wg f,Wa,Wj f,Xe (n:=a) ab ab,XbD hw.loc hN,Xa]
 rw[Xk e,Wa,Wj e,JN hw hN g ta,Xa];by_cases f:(Z7 w a).2=0;rotate_left
 .grind
 rw[Z5 f,Wa,Wj ab,Xc4 hw.loc hN,Xa];by_cases h:(Zs w.l).2=0;rotate_left
 .grind
 rw[Z5 h,Wa,Wj ab,Xib (Xgy hw.loc) hN,Xa]
def Xcf{l:List IF}{id:Int}(h:0<=ZN l id):ZN l id<l.length/\Xd l (ZN l id)=some (Xia l (ZN l id))/\(Xia l (ZN l id)).I=id:=by
 unfold ZN at h⊢;cases e:l.findIdx? (λm=>m.I==id)with
 |none=>simp_all
 |some j=>have f:=UI.1 e;have⟨g,hp,_⟩:=f;simp_all[Xf,Xia,Wk,Int.toNat_natCast,Wb,g]
def Xmc(hw:WB k w)(hN:1000000<N)(q:YG w=true)(op:Int){a:Int}(ta:tU a)(f:Bool):QgY N w op a f=some (XkK w op a f):=by
 have s:=hw.marks;rw[QgY,XbG hw hN q ta,Xa,XkK];by_cases g:(XG w a).2=0;rotate_left
 .rw[Xl g,Wc,Wm g]
 rw[Z5 g,Wa,Wj (by simpa using g),XgC ab hN,Xa];by_cases j:op=20
 .rw[Xr j,Wc,Wm j];by_cases e:ZN w.m (XG w a).1<0
  .rw[We e,Wc,Wm e]
  rw[Wg e,Wa,Wj e]
 rw[Xk j,Wa,Wj j];by_cases e:0<=ZN w.m (XG w a).1
 .have⟨u,r,v⟩:=Xcf e;rw[We (show ZN w.m (XG w a).1>=0 from e),Wc,r,Xa,Wg (show¬ZN w.m (XG w a).1<0 by omega),Wa];rw[Wj (show¬(ZN w.m (XG w a).1<0/\w.m.length=64) by omega)];by_cases p:(Xia w.m (ZN w.m (XG w a).1)).M=1000
  .rw[Xr p,Wc,Wm ⟨e,p⟩]
  rw[Xk p,Wa,Wj (λh=>p h.2)];cases f<;>rfl
 grind
def Xoe(hw:WB k w)(hN:1000000<N)(g:YG w=true)(op:Int){a b:Int}(ta:tU a)(tb:tU b):QgC N w op a b=some (Xd1 w op a b):=by
 rw[QgC,Xd1,Xt,XbG hw hN g ta,Xa];by_cases h:op=4
 .rw[Xr h,Wc,Wm (.inl h)]
 rw[Xk h,Wa];by_cases j:op=5
 .rw[Xr j,Wc,Wm (.inr j)]
 rw[Xk j,Wa,Wj ab,JN hw hN g ta,Xa];by_cases f:(Z7 w a).2=0;rotate_left
 .rw[Xl f,Wc,Wm f]
 rw[Z5 f,Wa,Wj (by simpa using f)];by_cases e:op=10
 .rw[Xr e,Wc,Wm e,JN hw hN g tb,Xa]
 simp[Xk,e,Wa,Wj,Vz,hw.loc,hN,Xa]
end
def XrR{β:Type}(K:Bool->β)(c1 e:Bool):(jn K λj=>bif c1 then j true else j e)=K (c1||e):=by grind[Xt]
def b2(op a b:Int):(op==a||op==b)=decide (op=a\/op=b):=by grind
def bd(op a:Int)(p:Prop)[Decidable p]:(op==a||decide p)=decide (op=a\/p):=by grind
def Xt1{β:Type}{p:Prop}[Decidable p](x y:β):(bif decide p then x else y)=if p then x else y:=by simp
def XqR{β:Type}(o:Option β):(bnd o λy=>some y)=o:=by
 cases o
 .exact Kc _
 exact Xa _ _
def XqS{β:Type}{p:Prop}[Decidable p](x y:β):(if p then some x else some y)=some (if p then x else y):=by grind
section
variable {N:Nat}{w:WP}{k:Nat}
def XsM(hw:WB k w)(hN:1000000<N)(tw:XP w)(op:Int){a b c:Int}(ta:tU a)(tb:tU b)(tc:tU c)(f:Bool):QfR N w op a b c f=some (Xoc w op a b c f):=by
 rw[QfR,Xc5 hw hN,Xa,Xoc];cases e:YG w
 .rfl
 rw[Wh,Wa,Wj ac];simp only[XrR,XqR,XjE hw hN op ta tb f,Xma hw hN e tw op ta tb tc,XjF hw hN e op ta,Xod hw hN e op ta,Xmb hw hN e op ta,Xmc hw hN e op ta f,Xoe hw hN e op ta tb,b2,bd,Xt1,XqS]
end
def Xcg(d:Ws):∀(k:Nat) (l:List Int),∀r∈V6 d k l,r∈l
 |k,[],r,h=>by assumption
 |k,f::e,r,h=>by
  unfold V6 at h;split at h
  .rcases Ig.1 h with h|h
   .simp_all
   exact WQ _ (Xcg d (k+1) e r h)
  exact WQ _ (Xcg d (k+1) e r h)
def zWo:WP:=⟨⟨0,0⟩,[],zL,zT,zT,[],[]⟩
def Xof{k:Nat}(e:k<=900):WB k zWo:=⟨e,by simp[zWo],λx f=>by simp_all[zWo],ZT,by simp[zWo,zT],by simp[zWo,zT],by simp[zWo],by simp[zWo]⟩
section
variable {N:Nat}{w:WP}{k:Nat}
def Xd3(s:w.m.length<=1000):∀(n:Nat) (i:Int) (v:List Int),0<=i->i<=w.m.length->(w.m.length-i).toNat<n->v.length<=100000+i->(∀x∈v,0<=x/\x<=w.T.length)->(∀m∈w.m,0<=m.I/\m.I<=w.T.length)->Ok (QeY N w n i v) λr=>r.length<=v.length+(w.m.length-i)/\∀x∈r,0<=x/\x<=w.T.length
 |0,i,v,_,_,u,_,_,_=>by omega
 |n+1,i,v,y,A,u,B,q,e=>by
  refine Wn (λf=>?_) λf=>Wd ⟨ab,q⟩;have f:i<w.m.length:=Wx f;rw[Xe (n:=i+1) ab ab];refine Ok.get y f λp hp=>Uc ab ?_;have g:=Ys hp;refine(Xd3 s n (i+1) _ ab ab ab ai (λx j=>?_) e).mono λr z=>⟨?_,z.2⟩
  .rcases Wr.1 j with h|h
   .exact q x h
   rw[W9.1 h];exact e p g
  grind
def XjG(hN:NB N)(hw:WB k w)(q:YG w=true)(tw:XP w):Ok (QgX N w) λr=>r.length<=10000/\∀x∈r,0<=x/\x<=w.T.length:=by
 have f:=hN;unfold NB at f;have A:=hw.roots;have s:=hw.marks;have wf:=Jd q;have⟨B,u,v,D,E,y⟩:=tw;have G:=Xh9 wf.loc;have H:=XbF wf.glo;refine Uc ab ?_;rw[YR hw.loc ab,Xa,wf.loc,Wc];refine Uc ab ?_;rw[XW hw.glo ab,Xa,wf.glo,Wc];refine Uc ab (WJ (Xd3 s N 0 _ ab ab ab ai (λx j=>?_) λm g=>?_) λr _ h=>Wd ⟨?_,h.2⟩)
 .simp only[Wr]at j;rcases j with(h|h)|h
  .exact⟨(y x h).1,wf.roots x h⟩
  .refine⟨?_,wf.rloc x h⟩;obtain⟨p,hp,rfl⟩:=WI.1 h;exact(u p (WV.1 hp).1).1
  refine⟨?_,wf.rglo x h⟩;obtain⟨p,hp,rfl⟩:=WI.1 h;exact(v p (WV.1 hp).1).1
 .have⟨i,z,e⟩:=Wt g;have:=wf.mk_ (k:=i) (m:=m) (by rw[Wb z,e]);omega
 grind
def XbI(hN:NB N)(hw:WB k w)(g:YG w=true)(tw:XP w)(M:Nat)(s:M<=2000000):∀(n:Nat) (i:Int) (v:List Bool) (q:List Int),0<=i->i<=q.length->(M-i).toNat<n->v.length=w.T.length->(∀x∈q,0<=x/\x<=w.T.length)->q.length+1000*v.countP (λb=>!b)<=M->Ok (QcU N w n i v q) λr=>r.length=w.T.length
 |0,i,v,q,_,_,W,_,_,_=>by omega
 |n+1,i,v,q,j,hi,W,u,y,O=>by
  have z:=hN;unfold NB at z;have hk:=hw.kk;have ht:=hw.things;refine Uc ab (Wn (λf=>?_) λ_=>Wd u);have f:i<q.length:=Wx f;rw[Xe (n:=i+1) ab ab];refine Ok.get j f λp hp=>?_;have same:∀A,Xd q i=some A->A=p:=λA h=>Wz (h.symm.trans hp);have Y:=y p (Ys hp);refine Wn (λ_=>XbI hN hw g tw M s n (i+1) v q ab ab ab u y O) λR=>?_;have R:¬p=0:=by simpa using R
  refine Ok.get j f λS B=>?_;obtain rfl:=same S B;rw[Xw (n:=S-1) ab ab];refine Ok.get ab ab λb hb=>Wn (λ_=>XbI hN hw g tw M s n (i+1) v q ab ab ab u y O) λE=>?_;refine Ok.get j f λU G=>?_;obtain rfl:=same U G;rw[Xw (n:=U-1) ab ab];refine Ok.get ab ab λ_ _=>Ok.get j f λe I=>?_;obtain rfl:=same e I;have⟨g1,g2⟩:=JB hw (id:=e) ab ab;have hf:=hw.fields _ g2;have⟨v1,v2,v3,Z⟩:=(Jd g).thing _ g2;have J:=Xce (thg w e).H 0 (thg w e).D;have J:(Xfv (thg w e)).length<=1000:=by unfold Xfv;omega
  rw[g1,Xa,Xh8 ab ab,Xa];have K:(e-1).toNat<v.length:=ab;have L:v[(e-1).toNat]=false:=by rw[X6 ab ab]at hb;rw[Wz hb];exact E
  have hcount:(v.set (e-1).toNat true).countP (λb=>!b)+1<=v.countP (λb=>!b):=by have V:0<v.countP (λb=>!b):=List.countP_pos_iff.2 ⟨v[(e-1).toNat],Ww _,by simp_all⟩;rw[List.countP_set K,L];simp;omega
  refine Uc ab (XbI hN hw g tw M s n (i+1) _ _ ab (by rw[WK];omega) ab (by simp_all) (λx hx=>?_) (by rw[WK];omega));rcases Wr.1 hx with h|h
  .simp_all
  refine⟨?_,Z x h⟩;exact((tw.1 _ g2).2 x (Xcg _ _ _ x h)).1
def XjH(hN:NB N)(hw:WB k w)(e:YG w=true)(tw:XP w):Ok (QfO N w) λr=>r.length=w.T.length:=by have f:=hN;unfold NB at f;have j:=hw.kk;have ht:=hw.things;rw[QfO,Xc5 hw ab,Xa,e,Wh,Wa];refine Uc ab (WJ (XjG hN hw e tw) λy _ g=>WJ (XbI hN hw e tw 1100000 ab N 0 _ y ab ab ab (by rw[Ua];omega) g.2 ?_) λr _ h=>Wd h);grind[Ua]
def XgF(y:List Bool)(h:y.length=w.T.length)(hw:WB k w):∀(n:Nat) (i:Int) (v:List Int),0<=i->i<=v.length->(v.length-i).toNat<n->v.length<=1000->(∀x∈v,0<=x/\x<=w.T.length)->Ok (Qbq N w y n i v) λr=>r.length=v.length
 |0,i,v,_,_,u,_,_=>by omega
 |n+1,i,v,f,D,u,j,q=>by
  have E:=hw.kk;have ht:=hw.things;refine Uc ab (Wn (λe=>?_) λ_=>Wd rfl);have e:i<v.length:=Wx e;rw[Xe (n:=i+1) ab ab];have next:=XgF y h hw n (i+1) v ab ab ab j q
  refine Ok.get f e λp hp=>Wn (λs=>Ok.get f e λp2 g=>?_) λ_=>next
  obtain rfl:p=p2:=Wz (hp.symm.trans g);have z:=q p (Ys hp);have s:¬p=0:=by simpa using s
  rw[Xw (n:=p-1) ab ab];refine Ok.get ab ab λ_ _=>Wn (λ_=>Ok.get f e λ_ _=>?_) λ_=>next
  refine(XgF y h hw n (i+1) _ ab (by rw[WL];omega) (by rw[WL];omega) (by rw[WL];exact j) λx A=>?_).mono λr B=>by rw[B,WL]
  grind
def V7(hN:NB N)(hw:WB k w)(tw:XP w):Ok (Qdq N w) λr=>WB k r.1:=by
 have f:=hN;unfold NB at f;rw[Qdq,Xc5 hw ab,Xa];refine Wn (λ_=>Wd (Xof hw.kk)) λe=>?_;have e:YG w=true:=by simpa using e
 have wf:=Jd e;have j:=XbF wf.wea;refine WJ (XjH hN hw e tw) λy _ h=>?_;rw[XW hw.wea ab,Xa,wf.wea,Wc];refine WJ (XgF y h hw N 0 _ ab ab ab ab λx g=>⟨?_,wf.rwea x g⟩) λz _ q=>WJ (Xfs hw.wea ab ab) λt _ ht=>Wd ⟨hw.kk,hw.things,hw.fields,hw.loc,hw.gloK,UK ht hw.weaK,hw.marksK,hw.rootsK⟩;obtain⟨p,hp,rfl⟩:=WI.1 g;exact(tw.2.2.2.1 p (WV.1 hp).1).1
end
def Sm{β κ:Type}{P:β->Prop}{k:κ->Option β}{f:(κ->Option β)->Option β}(Q:κ->Prop)(h:∀x,Q x->Ok (k x) P)(g:∀j:κ->Option β,(∀x,Q x->Ok (j x) P)->Ok (f j) P):Ok (Sx.jn k f) P:=by simp_all[Xt]
section
variable {N:Nat}{w:WP}{k:Nat}
def XaK(hw:WB k w)(hN:1000000<N)(id:Int):Ok (Qda N w id) λr=>WB k r.1:=by refine Uw (Wd hw) ?_;rw[XaF hw.loc hN,Xa];exact Ur (YJ _) λy _=>Wd ⟨hw.kk,hw.things,hw.fields,XkC hw.loc id,hw.gloK,hw.weaK,hw.marksK,hw.rootsK⟩
def XkM(hw:WB k w){id i v:Int}(e:1<=id)(f:id<=w.T.length)(g:0<=i)(p:i<(thg w id).D.length):Ok (QfA N w id i v) λr=>WB k r:=by
 have q:=hw.kk;have ht:=hw.things;have⟨g1,g2⟩:=JB hw e f;have s:=hw.fields _ g2;rw[QfA,Xb ab,g1,Xa,Xb ab];refine Ok.get g ab λ_ _=>?_;rw[Xa];refine Wd ⟨hw.kk,?_,λx j=>?_,hw.loc,hw.gloK,hw.weaK,hw.marksK,hw.rootsK⟩
 .simp_all
 rcases WZ j with h|h
 .exact hw.fields x h
 simp_all
def Xic(hw:WB k w)(hN:1000000<N)(op id:Int):Ok (QeO N w op id) λr=>WB k r.1:=by
 refine Ir (Uw ?_ ?_)
 .rw[JA hw.wea hN,Xa];exact Ur (YJ _) λy _=>Wd ⟨hw.kk,hw.things,hw.fields,hw.loc,hw.gloK,Xh0 hw.weaK id,hw.marksK,hw.rootsK⟩
 rw[JA hw.glo hN,Xa];exact Ur (YJ _) λy _=>Wd ⟨hw.kk,hw.things,hw.fields,hw.loc,Xh0 hw.gloK id,hw.weaK,hw.marksK,hw.rootsK⟩
def XjI(hw:WB k w)(hN:1000000<N)(v:Int):Ok (Qfq N w v) λr=>WB k r:=by
 refine Ur (Xcd _) λy _=>Uw ?_ (Uw ?_ ?_)
 .rw[Xgx hw.loc hN,Xa];exact Wd ⟨hw.kk,hw.things,hw.fields,XkD hw.loc _ _,hw.gloK,hw.weaK,hw.marksK,hw.rootsK⟩
 .rw[XaH hw.glo hN,Xa];exact Wd ⟨hw.kk,hw.things,hw.fields,hw.loc,Xh1 hw.gloK _ _,hw.weaK,hw.marksK,hw.rootsK⟩
 rw[XaH hw.wea hN,Xa];exact Wd ⟨hw.kk,hw.things,hw.fields,hw.loc,hw.gloK,Xh1 hw.weaK _ _,hw.marksK,hw.rootsK⟩
def Xog(hw:WB k w)(hN:1000000<N)(p:w.m.length<=64)(op id b:Int)(j:op=20->0<=ZN w.m id):Ok (QfG N w op id b) λr=>WB k r.1:=by
 have setM:∀l:List IF,l.length<=100+k->WB k ⟨w.c,w.T,w.l,w.g,w.v,l,w.R⟩:=λl q=>⟨hw.kk,hw.things,hw.fields,hw.loc,hw.gloK,hw.weaK,q,hw.rootsK⟩
 rw[QfG,QgZ,XgC ab hN,Xa,Xa];refine Uc ab (Wn (λh=>?_) λ_=>Wn (λh=>?_) λh=>Uc ab (Wd (setM _ (by grind))))
 .have h:=j (by simp_all);have⟨f,_,_⟩:=Xcf h;refine Ok.get h f λ_ _=>Ok.get h f λ_ _=>Ok.get h (by simp_all) λ_ _=>Wn (λ_=>?_) λ_=>Wd (setM _ (by grind));have e:=Xe (n:=ZN w.m id+1) ab ab;refine Uc ab (Uc ab (Uc ab (Wd (setM _ ?_))));simp;omega
 have h:0<=ZN w.m id:=Wx h;have⟨f,_,_⟩:=Xcf h;exact Ok.get h f λ_ _=>Ok.get h f λ_ _=>Ok.get h (by simp_all) λ_ _=>Wd (setM _ (by grind))
def WB.up(hw:WB k w)(e:k+1<=900):WB (k+1) w:=⟨e,by have:=hw.things;omega,hw.fields,hw.loc,by have:=hw.gloK;omega,by have:=hw.weaK;omega,by have:=hw.marksK;omega,by have:=hw.rootsK;omega⟩
def Xid(hN:NB N)(hw:WB k w)(Y:k+1<=900)(tw:XP w)(op:Int){a b c:Int}(ta:tU a)(tb:tU b)(tc:tU c)(ft:OE):Ok (QfH N w op a b c ft) λr=>WB (k+1) r.1:=by
 have hN':=hN;unfold NB at hN';have j:1000000<N:=ab;have zero:WB (k+1) zWo:=Xof Y;rw[QfH,XsM hw j tw op ta tb tc,Xa];refine Wn (λ_=>Wd zero) λf=>?_;have f:Xoc w op a b c ft.Failed=0:=by simpa using f
 have E:YG w=true:=by
  cases h:YG w
  .unfold Xoc at f;rw[h]at f;cases f
  rfl
 have wf:=Jd E;unfold Xoc at f;rw[E,Wj ac]at f;have thing:(XG w a).2=0->1<=(Z7 w a).1/\(Z7 w a).1<=w.T.length/\XG w a=Z7 w a:=λh=>by obtain⟨G,I,Z⟩:=Xfw hw E tw ta h;rw[Z]at G I;exact⟨G,I,Z⟩
 refine Sm (λx=>¬(op<=3\/op=17)->x=(Z7 w a).1) (λA hx3=>?_) λj1 u=>?_;rotate_left
 .refine Wn (λhg=>Wn (λJ=>?_) λJ=>u _ λh=>absurd (Or.inr (by simpa using J)) h) λhg=>u _ λh=>absurd (Or.inl (by have:=WM hg;omega)) h;rw[JN hw j E ta,Xa];exact u _ λ_=>rfl
 simp only[XrR];refine Wn (λK=>?_) λK=>?_
 ·
  have K:op=1\/op=2\/op=3:=by simpa using K
  rw[Wm K]at f;obtain⟨d,hd,hd2⟩:=Xd2 (N:=N) op ta tb;have B:okW op a b/\XcJ w.c (hdW op a b)=true:=by
   unfold XbH at f;split at f
   .cases f
   split at f
   .cases f
   rename_i _ h2;split at f
   .cases f
   rename_i h3;exact⟨Classical.not_not.1 h2,by simpa using h3⟩
  have hdd:=hd2 B.1;have hvd:Xx d=true:=by have:=B.2;unfold XcJ at this;rw[WH]at this;rw[hdd];exact this.1
  have hb:=XB hvd;have main:∀w':WP,WB k w'->Ok (α:=WP×Int×Int) (bnd (QcE N op a b) λz=>
   grd (w'.T.length*48<=140737488355328) <|
   grd (0<=z.1.n/\z.1.n.toNat*8<=140737488355328) <|
   grd ((w'.T.length+1)*48<=140737488355328) <|
   grd ((w'.T.length+1)<=140737488355328) <|
   bnd (Qda N (WP.mk (WN.mk w'.c.W w'.c.p) (w'.T++[(UZ.mk z.1 (List.replicate z.1.n.toNat 0))]) (Wq.mk w'.l.S w'.l.x w'.l.i) (WD.mk w'.g.e) (WD.mk w'.v.e) w'.m w'.R) (wU (((w'.T.length+1):Nat):Int))) λL=>
   some (L.1,L.2,0)) λr=>WB (k+1) r.1:=by
   intro w' s
   have ht:=s.things
   rw[hd,Xa]
   refine Uc ab (Uc (by constructor<;>simp only<;>omega) (Uc ab (Uc ab (Ur (XaK (k:=k+1) (w:=⟨w'.c,w'.T++[⟨d,List.replicate d.n.toNat 0⟩],w'.l,w'.g,w'.v,w'.m,w'.R⟩) ⟨Y,?_,λx hx=>?_,s.loc,IY s.gloK,IY s.weaK,IY s.marksK,IY s.rootsK⟩ j _) λy q=>Wd q))))
   .show(w'.T++[_]).length<=_;rw[WK];simp;omega
   .rcases Wr.1 hx with h|h
    .exact s.fields x h
    .rw[W9.1 h];show(List.replicate _ _).length<=_;rw[Ua];omega
  refine Ir (Wn (λ_=>WJ (V7 hN hw tw) λy _ q=>?_) λ_=>?_)
  .exact main y.1 q
  exact main w hw
 have hn1:¬(op=1\/op=2\/op=3):=by simpa using K
 rw[Wj hn1]at f;have M:∀v e:Int,Ok (α:=WP×Int×Int) (some (w,v,e)) λr=>WB (k+1) r.1:=λv e=>Wd (hw.up Y);have up:∀{w':WP},WB k w'->WB (k+1) w':=λh=>WB.up h Y;have pl:(op=4\/op=5\/op=10\/op=11)->Xd1 w op a b=0:=λh=>by rw[Wj ab,Wj ab,Wj ab,Wj ab,Wj ab,Wm h]at f;exact f
 have len:(op=4\/op=5)->1<=A/\A<=w.T.length:=λh=>by have u:=pl ab;unfold Xd1 at u;rw[Wm h]at u;have:=thing u;rw[hx3 ab];exact⟨this.1,this.2.1⟩
 have fld:(op=6\/op=7\/op=8\/op=9)->(1<=A/\A<=w.T.length)/\b<(thg w A).D.length/\wI b=b:=λh=>by
  rw[Wm h]at f;unfold Xc6 at f;by_cases u:(XG w a).2=0;rotate_left
  .rw[Wm u]at f;exact absurd f u
  rw[Wj (by simpa using u)]at f;obtain⟨G,I,Z⟩:=thing u;have e:A=(Z7 w a).1:=hx3 ab;rw[Z,←e]at f;rw[←e]at G I;obtain⟨g1,g2⟩:=JB hw G I;obtain⟨v1,v2,v3,v4⟩:=wf.thing _ g2;have vb:=XB v1;by_cases h2:b>=(thg w A).H.n
  .rw[Wm h2]at f;cases f
  have:=tb.1;exact⟨⟨G,I⟩,ab,Xe ab ab⟩
 refine Wn (λh4=>?_) λn4=>Wn (λh5=>?_) λn5=>Wn (λh6=>?_) λn6=>Wn (λh7=>?_) λn7=>Wn (λh8=>?_) λn8=>Wn (λh9=>?_) λn9=>Wn (λh10=>?_) λn10=>Wn (λh11=>?_) λn11=>?_
 .have h4:op=4:=by simpa using h4
  have:=len (.inl h4);rw[(JB hw this.1 this.2).1,Xa];exact M _ _
 .have h5:op=5:=by simpa using h5
  have:=len (.inr h5);rw[(JB hw this.1 this.2).1,Xa];exact M _ _
 .have h6:op=6:=by simpa using h6
  obtain⟨f1,f2,O⟩:=fld ab;rw[(JB hw f1.1 f1.2).1,Xa];exact Ok.get tb.1 f2 λ_ _=>M _ _
 .have h7:op=7:=by simpa using h7
  obtain⟨f1,f2,O⟩:=fld ab;rw[O];exact Ur (XkM hw f1.1 f1.2 tb.1 f2) λy q=>Wd (up q)
 .have h8:op=8:=by simpa using h8
  obtain⟨f1,f2,O⟩:=fld ab;rw[(JB hw f1.1 f1.2).1,Xa];exact Ok.get tb.1 f2 λ_ _=>Ur (XaK hw j _) λy q=>Wd (up q)
 .have h9:op=9:=by simpa using h9
  obtain⟨f1,f2,O⟩:=fld ab;rw[JN hw j E tc,Xa,O];exact Ur (XkM hw f1.1 f1.2 tb.1 f2) λy q=>Wd (up q)
 .rw[JN hw j E tb,Xa];exact Uw (M _ _) (M _ _)
 .exact Ur (XaK hw j _) λy q=>Wd (up q)
 have n6:¬op=6:=by simpa using n6
 have n7:¬op=7:=by simpa using n7
 have n8:¬op=8:=by simpa using n8
 have n9:¬op=9:=by simpa using n9
 refine Wn (λ_=>Ur (Xic hw j _ _) λy q=>Wd (up q)) λnl=>?_;have nl:¬(op=13\/op=15):=by simpa using nl
 refine Wn (λ_=>Ur (XjI hw j _) λy q=>Wd (up q)) λnr=>?_;have nr:¬(op=12\/op=14\/op=16):=by simpa using nr
 refine Wn (λ_=>?_) λU=>Wn (λ_=>?_) λV=>?_
 .rw[XbD hw.loc j,Xa];exact Wd (up ⟨hw.kk,hw.things,hw.fields,XhX hw.loc _,hw.gloK,hw.weaK,hw.marksK,hw.rootsK⟩)
 .rw[Xc4 hw.loc j,Xa];exact Ur (XaK (w:=⟨w.c,w.T,(Zs w.l).1,w.g,w.v,w.m,w.R⟩) ⟨hw.kk,hw.things,hw.fields,Xgy hw.loc,hw.gloK,hw.weaK,hw.marksK,hw.rootsK⟩ j _) λy q=>Wd (up q)
 have U:¬op=17:=by simpa using U
 have V:¬op=18:=by simpa using V
 rw[Wj ab,Wj ab,Wj ab,Wj ab]at f;refine Ur (Xog hw j wf.m64 op A _ λh20=>?_) λy q=>Wd (up q);unfold XkK at f;grind
end
def XkN{α:Type}{l:List α}{F:Nat->Int->Option (Ex Int Unit)}{p:α->Bool}(g:l.length<=1000000)(e:∀(n k:Nat) (x:α),l[k]? = some x->F (n+1) (k:Int)=bif p x then some (.ret (k:Int))else F n ((k+1:Nat):Int))(f:∀n:Nat,F (n+1) (l.length:Int)=some (.nxt ())):∀(n k:Nat),k<=l.length->l.length-k<n->F n (k:Int)=some (match (l.drop k).findIdx? p with|some j=>.ret ((k+j:Nat):Int)|none=>.nxt ())
 |0,k,_,q=>by omega
 |n+1,k,r,q=>by
  by_cases h:k<l.length
  .rw[e n k _ (Wb h),Wl h,List.findIdx?_cons];cases hp:p l[k]
   .rw[Wa,XkN g e f n (k+1) ab ab,Wj ac];cases (l.drop (k+1)).findIdx? p with
    |none=>rfl
    |some j=>simp only[U8];rw[show k+1+j=k+(j+1) by omega]
   simp
  grind
def YS{α:Type}(p:α->Bool)(l:List α):Int:=match l.findIdx? p with|some j=>(j:Int)|none=>-1
def JP{α:Type}{l:List α}{F:Nat->Int->Option (Ex Int Unit)}{p:α->Bool}{N:Nat}(q:l.length<=1000000)(hN:1000000<N)(f:∀(n k:Nat) (x:α),l[k]? = some x->F (n+1) (k:Int)=bif p x then some (.ret (k:Int))else F n ((k+1:Nat):Int))(g:∀n:Nat,F (n+1) (l.length:Int)=some (.nxt ())):(bnd (F N 0) λe=>exK e (λr=>some r) λ_=>some (-1))=some (YS p l):=by
 have h:=XkN q f g N 0 ab ab;rw[show((0:Nat):Int)=0 from rfl,WX]at h;rw[h,Xa,YS];cases l.findIdx? p with
 |none=>simp[Xm]
 |some j=>simp[Xs,UE]
def Ky{α:Type}(p:α->Bool)(l:List α):decide (YS p l>=0)=l.any p:=by unfold YS;grind
section
variable {N:Nat}
def XqT(e:W6):QfS N e=some (!Jp e):=by rw[QfS];unfold Jp;grind
def XgG{α:Type}(p:α->Bool)(l:List α):(!l.any λx=>!p x)=l.all p:=by grind
def XbJ{t:WD}(f:TB t)(hN:1000000<N):Qeu N t=some (Yk t.e):=by
 unfold TB at f;rw[Qeu,QaJ,QaQ];rw[JP (p:=λe=>!Jp e) f hN (λn k x e=>by
  have g:=Xy e
  rw[Qan,Xi g,Wc,Xf,e,Xa,XqT,Xa,Xg ab]) (λn=>by rw[Qan,Xz,Wa])]
 rw[Xa,Xa,Ky,XgG,Yk,show decide ((t.e.length:Int)<=64)=decide (t.e.length<=64)from decide_eq_decide.2 ab];grind
def Xch{t:WD}(f:t.e.length<=1000000):∀(n k:Nat) (v:List Int),k<=t.e.length->t.e.length-k<n->v.length<=k ->
 Qd4 N t n (k:Int) v=some (v++Xu (t.e.drop k))
 |0,k,v,_,g,_=>by omega
 |n+1,k,v,p,g,j=>by
  rw[Qd4];by_cases h:k<t.e.length
  .rw[Xi h,Wc,Xf,Wb h,Xa,Xg ab,Wl h,Xu];cases q:t.e[k].V
   .rw[Wa,Xch f n (k+1) v ab ab ab,UC (by simp_all)];rfl
   rw[Wc,Xb ab,Xch f n (k+1) _ ab ab (by simp_all),Uq ab];simp[Xu]
  obtain rfl:k=t.e.length:=ab;simp[Xu]
def Je{t:WD}(f:TB t)(hN:1000000<N):QdL N t=some (bif Yk t.e then Xu t.e else[]):=by
 rw[QdL,XbJ f hN,Xa];cases g:Yk t.e
 .rfl
 have h:=Xch (N:=N) (t:=t) f N 0 [] ab (by unfold TB at f;omega) ac;rw[show((0:Nat):Int)=0 from rfl,WX,W8]at h;simp[Wh,Wa,h,Xa]
def Xmd(x:Int):QfT N x=some (!(!decide (x<0)&&!decide (x>4095))):=by rw[QfT,show decide (x>=4096)=decide (x>4095)from decide_eq_decide.2 ab];cases decide (x<0)<;>cases decide (x>4095)<;>rfl
def Xfx{a:Wq}:∀(n:Nat) (s i:Int),Qa3 N ⟨a⟩ n s i=Qat N a n s i
 |0,s,i=>by rfl
 |n+1,s,i=>by rw[Qa3,Qat];have e:∀s i,Qa3 N ⟨a⟩ n s i=Qat N a n s i:=Xfx n;simp_all
def Xd4{a:Wq}:∀(n:Nat) (s i:Int),Qbb N ⟨a⟩ n s i=Qaw N a n s i
 |0,s,i=>by rfl
 |n+1,s,i=>by rw[Qbb,Qaw];have e:∀s i,Qbb N ⟨a⟩ n s i=Qaw N a n s i:=Xd4 n;grind
def Xme{a:Wq}(g:LBp a)(e:neB a.S.length a.x=true){k:Nat}{p:UX}(hp:a.x[k]? = some p):QdT N ⟨a⟩ (k:Int)=some ((a.S.drop p.O.toNat).take ((toL a k).toNat-p.O.toNat)):=by
 have j:=KK e hp;have u:=Xy hp;have q:=g.2.1;have r:(IQ.mk a).l.S.length=a.S.length:=rfl;rw[QdT,Xg ab,toL];by_cases h:k+1<a.x.length
 .have f:=Wb h;have s:=KK e f;have:=j.2.2.2.2.2 _ f;rw[Xi h,Wc,Xf,hp,Xa,Xf,f,Xa,Xb ab]
 rw[show decide (((k+1:Nat):Int)<(a.x.length:Int))=false from Wg ab,Wa,Xf,hp,Xa,Xb ab,WO ab];simp[Uy,WC]
def Xd5(l:List UF)(e:l.length<=1000000):∀(n k c:Nat),k<=l.length->l.length-k<n->c<=k->QbP N l n (c:Int) (k:Int)=some (((c+(l.drop k).countP (·.V):Nat):Int))
 |0,k,c,_,f,_=>by omega
 |n+1,k,c,g,f,j=>by
  rw[QbP];by_cases h:k<l.length
  .rw[Xi h,Wc,Xf,Wb h,Xa,Xg ab,Xg ab,Wl h,U9];cases p:l[k].V
   .rw[Wa,Xd5 l e n (k+1) c ab ab ab];simp
   rw[Wc,Xd5 l e n (k+1) (c+1) ab ab ab];simp;omega
  grind
def Xoh{a:Wq}(g:LBp a)(hN:1000000<N)(f:neB a.S.length a.x=true){k:Nat}{p:UX}(hp:a.x[k]? = some p):Qee N ⟨a⟩ (k:Int)=some ((YQ a.S p.O.toNat (toL a k).toNat:Nat):Int):=by
 have j:=g.1;rw[Qee,Xme g f hp,Xa];have e:((a.S.drop p.O.toNat).take ((toL a k).toNat-p.O.toNat)).length<=1000000:=by rw[Wu,WC];omega
 have h:=Xd5 (N:=N) _ e N 0 0 ab ab ab;rw[show((0:Nat):Int)=0 from rfl,WX,UE]at h;rw[h,Xa];rfl
def Xd6{a:Wq}(j:LBp a)(hN:1000000<N):Qfa N a=some (Yl a):=by
 have g:=j;have⟨v,y,hl3⟩:=j;rw[Qfa,Qbw,QbW];rw[JP (p:=λx=>!(!decide (x<0)&&!decide (x>4095))) hl3 hN (λn k x e=>by
  have f:=Xy e
  rw[QaG,Xi f,Wc,Xf,e,Xa,Xmd,Xa,Xg ab]) (λn=>by rw[QaG,Xz,Wa])]
 have z:=Vb (l:=a.S) (F:=λn s i=>Qaw N a n s i) (q:=stQ a.i) (nxp:=λ_ p=>p.J) (I:=λs=>0<=s) (λn s k p r e=>by
  have f:=Xy e
  rw[Qaw,Xi f,Wc,Xf,e,Xa,Xg ab]
  unfold stQ
  cases g1:decide (p.J<=s)
  .cases g2:decide (p.J>(a.i.length:Int))
   .have g1:=WM g1
    have g2:=WM g2
    rw[Wa,Wa,Xe ab ab,X6 ab ab,Xa]
    have ge:a.i[(p.J-1).toNat]'ab=a.i.getD (p.J-1).toNat 0:=by
     rw[Wk,Wb ab];rfl
    rw[ge]
    cases (a.i.getD (p.J-1).toNat 0 != (k:Int))<;>cases (p.V==(p.a != 0))<;>rfl
   .rfl
  .rfl) (λn s=>by rw[Qaw,Xz,Wa]) (λs k p r e u=>by
   unfold stQ at u
   simp at u
   omega) N 0 0 ab ab ab
 have A:=Vb (l:=a.x) (F:=λn s i=>Qat N a n s i) (q:=neQ a.S.length) (nxp:=λ_ p=>p.O) (I:=λ_=>True) (λn s k p r e=>by
  have f:=Xy e
  rw[Qat,Xi f,Wc,Xf,e,Xa,Xg ab]
  unfold neQ
  cases ((k:Int)==0)<;>cases (p.O != 0)<;>cases p.B0<;>cases decide (p.O<s)<;>cases decide (p.O>(a.S.length:Int))<;>cases decide (p.C0<0)<;>cases decide (p.C0>64)<;>rfl) (λn s=>by rw[Qat,Xz,Wa]) (λ_ _ _ _ _ _=>trivial) N 0 0 trivial ab ab
 have B:Qaw N a N 0 0=some (bif stB a.i a.S then .nxt ()else .ret false):=z;have e3:Qat N a N 0 0=some (bif neB a.S.length a.x then .nxt ()else .ret false):=A;have D:Qdu N ⟨a⟩=some (!decide ((a.x.length:Int)>64)&&((!((a.x.length:Int)==0)||!decide ((a.S.length:Int)>0))&&neB a.S.length a.x)):=by rw[Qdu,Xt,Xfx,e3,Xa];cases neB a.S.length a.x<;>cases decide ((a.x.length:Int)>64)<;>cases ((a.x.length:Int)==0)<;>cases decide ((a.S.length:Int)>0)<;>simp only[Wc,Wa,Xs,Xm]<;>rfl
 have E:Qdh N ⟨a⟩=some (stB a.i a.S):=by rw[Qdh,Xd4,B,Xa];cases stB a.i a.S<;>simp only[Wc,Wa,Xs,Xm]
 rw[Xa,Xa,Ky,D,Xa,E,Xa,Yl,Xn7];have G:(a.i.any λx=>!(!decide (x<0)&&!decide (x>4095))) = !(a.i.all λp=>!decide (p<0)&&!decide (p>4095)):=by rw[←XgG,Bool.not_not]
 rw[G];cases decide ((a.i.length:Int)>4096);rotate_left
 .rfl
 cases (a.i.all λp=>!decide (p<0)&&!decide (p>4095))
 .cases decide ((a.x.length:Int)>64)<;>cases (!((a.x.length:Int)==0)||!decide ((a.S.length:Int)>0))<;>rfl
 cases decide ((a.x.length:Int)>64);rotate_left
 .rfl
 cases (!((a.x.length:Int)==0)||!decide ((a.S.length:Int)>0))
 .rfl
 cases h:neB a.S.length a.x
 .cases stB a.i a.S<;>rfl
 cases stB a.i a.S
 .rfl
 simp;have H:=Jz (l:=a.x) (F:=QdD N a) (q:=XhV a ()) (λn k p e=>by
  have f:=Xy e
  rw[QdD,Xi f,Wc,Xf,e,Xa,Xoh g hN h e,Xa,Xg ab]
  unfold XhV
  cases decide (((YQ a.S p.O.toNat (toL a k).toNat:Nat):Int)>p.C0)<;>rfl) (λn=>by rw[QdD,Xz,Wa]) (n:=N) ab
 rw[H,Xa];show exK (bif Xcc a then Ex.nxt ()else Ex.ret false) _ _=_;cases Xcc a
 .rw[Wa,Xs]
 simp[Wc,Xm]
def Xci{a:Wq}(e:a.S.length<=1000000):∀(n k:Nat) (v:List Int),k<=a.S.length->a.S.length-k<n->v.length<=k ->
 Qd5 N a n (k:Int) v=some (v++XD (a.S.drop k))
 |0,k,v,_,f,_=>by omega
 |n+1,k,v,j,f,g=>by
  rw[Qd5];by_cases h:k<a.S.length
  .rw[Xi h,Wc,Xf,Wb h,Xa,Xg ab,Wl h,XD];cases p:a.S[k].V
   .rw[Wa,Xci e n (k+1) v ab ab ab,UC (by simp_all)];rfl
   rw[Wc,Xb ab,Xci e n (k+1) _ ab ab (by simp_all),Uq ab];simp[XD]
  obtain rfl:k=a.S.length:=ab;simp[XD]
def Xcj{a:Wq}(e:LBp a)(hN:1000000<N):QfI N a=some (bif Yl a then XD a.S else[]):=by
 rw[QfI,Xd6 e hN,Xa];cases f:Yl a
 .rfl
 have h:=Xci (N:=N) (a:=a) e.1 N 0 [] ab (by have:=e.1;omega) ac;rw[show((0:Nat):Int)=0 from rfl,WX,W8]at h;simp[Wh,Wa,h,Xa]
end
def Jf(N:Nat)(c:WN):Qb1 N c=some (XR c):=by exact Zi N c
def Xoi(N:Nat)(c:WN):Qe2 N c=some (smC c):=by exact Xfl N c
def V8(N:Nat)(c:WN)(w:Int):Qe3 N c w=some (Xn c w):=by
 simp only[Qe3,Jf,Xoi,Xa,Xn,smC];cases j:XR c with
 |false=>simp
 |true=>
  have h:=Xh.1 j;simp only[Wh,Wa,if_true,UL];rw[Xe (n:=4*c.W) ab ab];by_cases f:w<1
  .rw[Wm f,Wj (show¬(True/\1<=w)fromλh=>ab)]
  rw[Wj f,Wm (show True/\1<=w from⟨trivial,ab⟩)];by_cases g:w>4*c.W
  .rw[Wm g];simp only[Wj (show¬w<=c.W / 4 by omega),Wj (show¬c.W>=w by omega),Wj (show¬2*c.W>=w by omega),Wj (show¬3*c.W>=w by omega),Wj (show¬4*c.W>=w by omega)]
  rw[Wj g];by_cases e:w<=c.W / 4
  .rw[Wm e,Wm e]
  rw[Wj e,Wj e,Xb ab,Xe (n:=w+c.W) ab ab,Xe (n:=w+c.W-1) ab ab,UV ab];have key:∀k:Int,k*c.W<=w+c.W-1->w+c.W-1<(k+1)*c.W->(w+c.W-1) / c.W=k:=by intro k a b;have p:=Int.ediv_lt_of_lt_mul (show 0<c.W by omega) b;have q:=Int.le_ediv_of_mul_le (show 0<c.W by omega) a;omega
  split
  .rw[key 1 ab ab];rfl
  split
  .rw[key 2 ab ab];rfl
  split
  .rw[key 3 ab ab];rfl
  split
  .rw[key 4 ab ab];rfl
  omega
def XjJ(N:Nat)(c:WN)(a:Int)(j:a<=18446744073709551615):Qco N c a=Qb9 N c a:=by
 rw[KV];simp only[Qco,Jf,Xa,UL];cases e:XR c with
 |false=>simp
 |true=>
  have h:=Xh.1 e;have q:=XE e (i:=0) ab ab;simp only[Wh,Wa];rw[Wj (show¬(true=false) by simp),Int.mul_comm c.W c.p];rw[Xe (n:=c.p*c.W) ab ab,Xw (n:=c.p*c.W) ab ab];by_cases f:a<4096
  .grind
  rw[Wj f,Xw (n:=a-4096) ab ab];by_cases r:a>=4096+c.p*c.W
  .grind
  rw[Wj ab,Wm ab,Xb ab,Xb ab];rw[Xe (n:=a-4096) ab ab,UV ab,IO ab];have hd:0<=(a-4096) / c.W:=Int.ediv_nonneg ab ab;have g:(a-4096) / c.W<=a-4096:=Int.ediv_le_self _ ab;rw[Xe ab ab]
def V9(N:Nat)(c:WN)(p o:Int):Qdj N c p o=Qbx N c p o:=by
 rw[ZJ];simp only[Qdj,Jf,Xa,UL];cases h:XR c with
 |false=>simp
 |true=>
  simp only[Wh,Wa];rw[Wj (show¬(true=false) by simp)];by_cases e:p<0
  .rw[Wm e,Wj ab]
  rw[Wj e];by_cases f:p>=c.p
  .rw[Wm f,Wj ab]
  rw[Wj f];by_cases g:o<0
  .rw[Wm g,Wj ab]
  rw[Wj g];by_cases j:o>=c.W
  .rw[Wm j,Wj ab]
  have q:=XE h (i:=p) ab ab;rw[Xe (n:=p*c.W) ab ab,Xe (n:=p*c.W+o) ab ab,Xw (n:=p*c.W+o) ab ab,Xw ab ab];unfold Xc;grind
def Kh(sp:Int)(p:Wo):Bool:=p.k==3&&p.s==sp
def Xaa(ps:List Wo)(sp:Int)(i:Nat):Nat:=((ps.drop i).takeWhile (Kh sp)).length
def Xie(N:Nat)(ps:List Wo)(sp:Int)(j:ps.length<=1000000):∀(n c i:Nat),i<=ps.length->c<=i->ps.length-i<n->Qdx N ps sp n (c:Int) (i:Int)=some (((c+Xaa ps sp i:Nat):Int))
 |0,c,i,_,_,h=>by omega
 |n+1,c,i,h,p,q=>by
  rw[Qdx];by_cases e:i<ps.length
  .rw[We ab,Wc,Xf,Wb e,Xa,Xa];have hd:ps.drop i=ps[i]::ps.drop (i+1):=Wl e;unfold Xaa;rw[hd,List.takeWhile_cons];cases f:(ps[i].k==3)with
   |false=>simp[Kh,f]
   |true=>
    cases g:(ps[i].s==sp)with
    |false=>simp[Kh,f,g]
    |true=>rw[Wc,show Kh sp ps[i]=true by simp[Kh,f,g],Wm rfl];rw[Xg ab,Xg ab,Xie N ps sp j n (c+1) (i+1) ab ab ab];unfold Xaa;grind
  have:ps.drop i=[]:=WY ab;rw[Wg ab,Wa];simp[Xaa,this]
def Xoj{N:Nat}(ps:List Wo)(sp:Int)(e:ps.length<=1000000)(hN:1000000<N)(i:Nat)(f:i<ps.length):Qe7 N ps (i:Int) sp=some ((Xaa ps sp (i+1):Nat):Int):=by rw[Qe7,Xg ab,show(0:Int)=((0:Nat):Int)from rfl,Xie N ps sp e N 0 (i+1) ab ab ab,Xa,UE]
def XbK{α:Type}(q:α->Bool):∀(l:List α) (k:Nat),k<=(l.takeWhile q).length↔k<=l.length/\(l.take k).all q=true
 |[],k=>by simp
 |a::l,0=>by simp
 |a::l,k+1=>by
  rw[List.takeWhile_cons];cases h:q a with
  |false=>grind
  |true=>simp[h];exact XbK q l k |>.trans ac
def X7(sp:Int)(p:Wo):Bool:=Kh sp p&&(p.u==0&&p.P==0)
def XkO(N:Nat)(p:List Wo)(f:Int)(g:Wo)(r q:Int)(l:List Wo)(x:l.length<=1000000)(hd:((p.drop (wI (f+1)).toNat).take ((wI (f+q)).toNat-(wI (f+1)).toNat))=l)(v:min ((wI (f+q)).toNat-(wI (f+1)).toNat) (p.length-(wI (f+1)).toNat)=l.length):
 ∀(n k:Nat),k<=l.length->l.length-k<n->Qfr N p f g r q n (k:Int)=some (if(l.drop k).all (X7 g.s)=true then .nxt ()else .ret 0)
 |0,k,_,h=>by omega
 |n+1,k,h,y=>by
  rw[Qfr,hd,v];by_cases j:k<l.length
  .rw[We ab,Wc,Xf,Wb j,Xa,Qfl,Xa,Wl j,Og];have e:((l[k].k==3)&&((l[k].s==g.s)&&((l[k].u==0)&&(l[k].P==0))))=X7 g.s l[k]:=by unfold X7 Kh;rw[Bool.and_assoc]
   rw[e];cases z:X7 g.s l[k]with
   |false=>simp
   |true=>rw[Wh,Wa,Xg ab,XkO N p f g r q l x hd v n (k+1) ab ab,Ue]
  grind
def X4(c:WN)(ps:List Wo)(i:Nat)(p:Wo):Nat:=
 if p.k=0 then(if p.s=0/\p.u=0/\p.P=0 then 1 else 0)
 else if(p.s=0\/p.s=1)/\0<=p.P/\p.P<=2147483647 then
  (if p.k=1 then(if 0<=p.u/\p.u<=c.W then 1 else 0)
   else if p.k=2 then(if 1<=Xn c p.u/\(Xn c p.u).toNat<=ps.length-i/\((ps.drop (i+1)).take ((Xn c p.u).toNat-1)).all (X7 p.s)=true then(Xn c p.u).toNat else 0)
   else 0)
 else 0
def Z6(N:Nat)(p:Wo):Qb6 N p=some (decide (p.s=0\/p.s=1)):=by rw[Qb6];grind
def XaL(N:Nat)(p:Wo):Qdm N p=some (decide (0<=p.P/\p.P<=2147483647)):=by grind[Qdm]
def Ki{N:Nat}{c:WN}{ps:List Wo}(E:ps.length<=100000)(hN:1000000<N){i:Nat}(A:i<ps.length):QgP N c ps (i:Int)=some ((X4 c ps i ps[i]:Nat):Int):=by
 rw[QgP,Xf,Wb A,Xa,Xt];generalize hp:ps[i]=p;unfold X4;by_cases k0:p.k<0
 .grind
 rw[Wg k0,Wa];by_cases B:p.k>=3
 .grind
 rw[Wg B,Wa];by_cases v:p.k=0
 .rw[show(p.k==0)=true by simpa using v,Wc,Wm v,Qf8,Xa];grind
 rw[show(p.k==0)=false by simp_all,Wa,Wj v];by_cases e:(p.s=0\/p.s=1);case neg=>
  rw[Wj (λh=>e h.1)]
  by_cases j:p.k=1
  .rw[show(p.k==1)=true by simp_all,Wc,QdE,Z6,Xa,Wg e,Wa,Xa];rfl
  .have x:p.k=2:=ab
   rw[show(p.k==1)=false by simp_all,Wa,show(p.k==2)=true by simp_all,Wc,QdF,Z6,Xa,Wg e,Wa,Xa];rfl
 by_cases g:0<=p.P/\p.P<=2147483647;case neg=>
  rw[Wj (λh=>g h.2)]
  by_cases j:p.k=1
  .rw[show(p.k==1)=true by simp_all,Wc,QdE,Z6,Xa,We e,Wc,XaL,Xa,Wg g,Wa,Xa];rfl
  .have x:p.k=2:=ab
   rw[show(p.k==1)=false by simp_all,Wa,show(p.k==2)=true by simp_all,Wc,QdF,Z6,Xa,We e,Wc,XaL,Xa,Wg g,Wa,Xa];rfl
 rw[Wm ⟨e,g⟩];by_cases j:p.k=1
 .rw[show(p.k==1)=true by simpa using j,Wc,QdE,Z6,Xa,We e,Wc,XaL,Xa,We g,Wc,Wm j];by_cases y:0<=p.u
  .by_cases z:p.u<=c.W
   .simp[y,z,Xa]
   simp[y,z,Xa]
  simp[y,Xa]
 have x:p.k=2:=ab;rw[show(p.k==1)=false by simp_all,Wa,show(p.k==2)=true by simp_all,Wc,QdF,Z6,Xa,We e,Wc,XaL,Xa,We g,Wc,Wj j,Wm x];simp only[V8,Xa];by_cases q:Xn c p.u>=1;case neg=>grind
 rw[We q,Wh,Wa,show((2:Int) != 2)=false from rfl,Wa,Xe (n:=(ps.length:Int)-i) ab ab];by_cases r:Xn c p.u>(ps.length:Int)-i
 .grind
 rw[Wg r,Wa];have w1:wI ((i:Int)+1)=((i+1:Nat):Int):=Xg ab;have w2:wI ((i:Int)+Xn c p.u)=(i:Int)+Xn c p.u:=Xe ab ab;rw[Xb ab];have D:(wI ((i:Int)+1)).toNat=i+1:=by rw[w1];omega
 have G:(wI ((i:Int)+Xn c p.u)).toNat-(wI ((i:Int)+1)).toNat=(Xn c p.u).toNat-1:=by rw[D,w2];omega
 rw[show(0:Int)=((0:Nat):Int)from rfl,XkO N ps (i:Int) p 2 (Xn c p.u) ((ps.drop (i+1)).take ((Xn c p.u).toNat-1)) (by grind) (by simp_all) (by simp_all) N 0 ab (by grind),Xa,WX];by_cases f:((ps.drop (i+1)).take ((Xn c p.u).toNat-1)).all (X7 p.s)=true
 .rw[Wm f,Xm,Wm ⟨q,ab,f⟩];grind
 rw[Wj f,Xs,Wj (λh=>f h.2.2)];rfl
def XJ{p:Prop}[Decidable p](h:¬p):decide p=false:=Wg h
def Xfy{N:Nat}{h:Wi}(z:h.p.length<=100000){sp:Int}(q:sp=0\/sp=1):∀(k n i:Nat),i+k<=h.p.length->((h.p.drop i).take k).all (Kh sp)=true ->
 QaB N h (n+k) (k:Int) (i:Int)=if((h.p.drop i).take k).all (X7 sp)=true then QaB N h n 0 ((i+k:Nat):Int)else some (.ret false)
 |0,n,i,r,f=>by simp
 |k+1,n,i,r,f=>by
  have g:i<h.p.length:=ab;have hd:(h.p.drop i).take (k+1)=h.p[i]::(h.p.drop (i+1)).take k:=by rw[Wl g,List.take_succ_cons]
  rw[hd,Og,WH]at f;rw[hd,Og,show n+(k+1)=(n+k)+1 from rfl,QaB,We ab,Wc,Xf,Wb g,Xa];have D:=Xfy (N:=N) z q k n (i+1) ab f.2;generalize h.p[i]=p at *;have A:p.k=3/\p.s=sp:=by have:=f.1;simp only[Kh,WH,beq_iff_eq]at this;exact this
  have⟨e,B⟩:=A;have v:(p.k==3)=true:=by simpa using e
  rw[v,We (show(((k+1:Nat):Int)>0) by omega),show(!(true==true))=false from rfl,Wa,XJ (show¬p.s<0 by omega),Wa,XJ (show¬p.s>1 by omega),Wa,Xgn,Xa];by_cases hp:p.P=0;case neg=>
   have j:X7 sp p=false:=by simp[X7,hp]
   rw[j,UJ,Wj ac]
   by_cases x:0<=p.P/\p.P<=2147483647
   .rw[We x,Wh,Wa]
    simp only[Xt,show(p.k==0)=false by rw[e];rfl,show(p.k==1)=false by rw[e];rfl,show(p.k==2)=false by rw[e];rfl,v,Wa,Wc,show(p.P != 0)=true by simpa using hp,Bool.cond_self]
   grind
  simp only[Xt,show(p.k==0)=false by simp_all,show(p.k==1)=false by simp_all,show(p.k==2)=false by simp_all,v,Wa,Wc,show(p.P != 0)=false by simp_all];by_cases y:p.u=0
  .have j:X7 sp p=true:=by unfold X7;rw[f.1];simp[y,hp]
   rw[show(p.u != 0)=false by simpa using y,Wa,j,Ue,Xe (n:=((k+1:Nat):Int)-1) ab ab,Xg ab];grind
  have j:X7 sp p=false:=by simp[X7,y]
  grind
def Xok{α:Type}{p q:α->Bool}(h:∀x,q x=true->p x=true):∀{l:List α},l.all q=true->l.all p=true:=by simp_all
def Xmf{N:Nat}{h:Wi}(hc:XR h.c=true)(Y:h.p.length<=100000)(hN:1000000<N){i:Nat}(M:i<h.p.length)(n:Nat)(hn:10<=n):
 QaB N h n 0 (i:Int)=if X4 h.c h.p i h.p[i]=0 then some (.ret false)else QaB N h (n-X4 h.c h.p i h.p[i]) 0 ((i+X4 h.c h.p i h.p[i]:Nat):Int):=by
 obtain⟨n,rfl⟩:∃m,n=m+1:=⟨n-1,ab⟩
 rw[QaB,We (show(i:Int)<(h.p.length:Int) by omega),Wc,Xf,Wb M,Xa];generalize h.p[i]=p;have O:(if(0:Int)<wI (0-1)then wI (0-1)else 0)=0:=by rw[Xe ab ab];rfl
 have ge:wI ((i:Int)+1)=((i+1:Nat):Int):=Xg ab;generalize f:X4 h.c h.p i p=s;unfold X4 at f;have no:s=0->(if s=0 then some (.ret false)else QaB N h (n+1-s) 0 ((i+s:Nat):Int))=some (.ret false):=λe=>Wm e;rw[Wg (show¬(0:Int)>0 by omega)];by_cases R:p.k=3
 .rw[show(p.k==3)=true by simpa using R,show(!(true==false))=true from rfl,Wc];rw[Wj (show¬p.k=0 by omega),Wj (show¬p.k=1 by omega),Wj (show¬p.k=2 by omega),ite_self]at f;exact(no f.symm).symm
 have y:(p.k==3)=false:=by simpa using R
 rw[y,show(!(false==false))=false from rfl,Wa];by_cases q:p.s=0\/p.s=1;case neg=>
  have z:s=0:=by
   rw[←f,Wj (c:=(p.s=0\/p.s=1)/\_) (λg=>q g.1)]
   split
   .rw[Wj (λg=>q (.inl g.1))]
   .rfl
  rw[no z]
  by_cases S:p.s<0
  .rw[We S,Wc]
  .rw[XJ S,Wa,We (show p.s>1 by omega),Wc]
 rw[XJ (show¬p.s<0 by omega),Wa,XJ (show¬p.s>1 by omega),Wa,Xgn,Xa];by_cases j:0<=p.P/\p.P<=2147483647;case neg=>
  have z:s=0:=by
   rw[←f,Wj (c:=(p.s=0\/p.s=1)/\_) (λg=>j g.2)]
   split
   .rw[Wj (λg=>j ab)]
   .rfl
  rw[no z,XJ j,Ug,Wc]
 rw[Wm (c:=(p.s=0\/p.s=1)/\_) ⟨q,j⟩]at f;rw[We j,Wh,Wa];by_cases v:p.k=0
 .have G:(p.k==1)=false:=by rw[v];rfl
  have A:(p.k==2)=false:=by rw[v];rfl
  rw[Wm v]at f;simp only[Xt,show(p.k==0)=true by simpa using v,G,A,y,Wc,Wa,Ue];by_cases H:p.s=0/\p.u=0/\p.P=0
  .rw[Wm H]at f;subst f;obtain⟨Z,z2,z3⟩:=H;rw[Wj (show¬(1:Nat)=0 by omega)];simp only[Z,z2,z3,show((0:Int)==0)=true from rfl,Bool.and_self,Wh,Wa,O,ge,IP]
  rw[Wj H]at f;rw[no f.symm,show((p.s==0)&&((p.u==0)&&(p.P==0)))=false by
   rw[Bool.eq_false_iff];intro g;simp only[WH,beq_iff_eq]at g;exact H ⟨g.1,g.2.1,g.2.2⟩]
  rfl
 have J:(p.k==0)=false:=by simpa using v
 rw[Wj v]at f;by_cases B:p.k=1
 .have A:(p.k==2)=false:=by rw[B];rfl
  rw[Wm B]at f;simp only[Xt,show(p.k==1)=true by simpa using B,J,A,y,Wc,Wa];by_cases T:p.u<0
  .rw[Wj ab]at f;rw[We T,Wc,no f.symm]
  rw[XJ T,Wa];by_cases U:p.u>h.c.W
  .rw[Wj ab]at f;rw[We U,Wc,no f.symm]
  rw[Wm ab]at f;subst f;rw[XJ U,Wa,Wj (show¬(1:Nat)=0 by omega),O,ge,IP]
 have G:(p.k==1)=false:=by simpa using B
 rw[Wj B]at f;by_cases I:p.k=2;case neg=>
  have A:(p.k==2)=false:=by simpa using I
  rw[Wj I]at f
  simp only[Xt,J,G,A,y,Wa]
  rw[no f.symm]
 rw[Wm I]at f;simp only[Xt,show(p.k==2)=true by simpa using I,J,G,y,Wc,Wa,Zg (show 10<=N by omega),Xa];by_cases D:Xn h.c p.u<1
 .rw[Wj (λg=>ab)]at f;rw[We D,Wc,no f.symm]
 have hr:=KC h.c p.u;rw[XJ D,Wa,Xoj h.p p.s ab hN i M,Xa,Xe (n:=Xn h.c p.u-1) ab ab];obtain⟨k,V⟩:∃k:Nat,Xn h.c p.u=((k+1:Nat):Int):=⟨(Xn h.c p.u).toNat-1,ab⟩
 have K:(Xn h.c p.u).toNat=k+1:=ab;have tw:=XbK (Kh p.s) (h.p.drop (i+1)) k;rw[K,IP,V]at f;rw[V];by_cases ht:((Xaa h.p p.s (i+1):Nat):Int)<((k+1:Nat):Int)-1
 .have E:¬k<=((h.p.drop (i+1)).takeWhile (Kh p.s)).length:=by unfold Xaa at ht;omega
  rw[Wj (λg=>E (tw.2 ⟨by rw[WC];omega,Xok (λx L=>by unfold X7 at L;rw[WH]at L;exact L.1) g.2.2⟩))]at f;rw[We ht,Wc,no f.symm]
 have r:=tw.1 (by unfold Xaa at ht;omega);rw[WC]at r;have e:(if(0:Int)<((k+1:Nat):Int)-1 then((k+1:Nat):Int)-1 else 0)=(k:Int):=by split<;>omega
 rw[e,ge];obtain⟨m,rfl⟩:∃m,n=m+k:=⟨n-k,ab⟩
 rw[Xfy Y q k m (i+1) ab r.2];grind
def XbL{c:WN}{ps:List Wo}{i:Nat}(e:i<ps.length){p:Wo}:X4 c ps i p<=ps.length-i/\X4 c ps i p<=4:=by have f:=KC c p.u;unfold X4;grind
def Xd7{N:Nat}{h:Wi}(q:XR h.c=true)(g:h.p.length<=100000)(hN:1000000<N):∀(m i n e:Nat),i<=h.p.length->h.p.length-i<=m->h.p.length-i<n->h.p.length-i+10<=e->Qae N h n (i:Int)=QaB N h e 0 (i:Int)
 |m,i,0,e,_,_,r,_=>by omega
 |m,i,n+1,e,v,x,r,y=>by
  by_cases f:i<h.p.length
  .rw[Qae,We ab,Wc,Ki g hN f,Xa,Xmf q g hN f e ab];have z:=XbL (c:=h.c) f (p:=h.p[i]);generalize X4 h.c h.p i h.p[i]=s at *;by_cases u:s=0
   .simp_all
   rw[Wj u,show((s:Int)==0)=false by simp_all,Wa,Xe ab ab,show(i:Int)+(s:Int)=((i+s:Nat):Int) by omega];obtain⟨j,rfl⟩:∃j,m=j+1:=⟨m-1,ab⟩
   exact Xd7 q g hN j (i+s) n (e-s) ab ab ab ab
  rw[Qae,Wg ab,Wa];obtain⟨k,rfl⟩:∃k,e=k+1:=⟨e-1,ab⟩
  rw[QaB,Wg ab,Wa]
def X8{N:Nat}{h:Wi}(f:h.p.length<=100000)(hN:1000000<N):Qb2 N h=Qaa N h:=by
 rw[Qb2,Qaa,Jf,Zi];simp only[Xa,Xt];cases g:XR h.c with
 |false=>rfl
 |true=>
 have e:=Xd7 g f hN h.p.length 0 N N ab ab ab ab;grind
section
variable {N:Nat}
def XqU{m:Int}(f:0<=m)(p:2*m+1<=18446744073709551615):bOr .u64 (m*2) 1=m*2+1:=by
 obtain⟨n,rfl⟩:=UQ f;have hb:IntKind.u64.bits=64:=rfl;show IntKind.u64.wrap ((BitVec.ofInt IntKind.u64.bits ((n:Int)*2) |||BitVec.ofInt IntKind.u64.bits 1).toNat:Int)=_;rw[hb];have g:BitVec.ofInt 64 ((n:Int)*2)=BitVec.ofNat 64 (n*2):=by rw[show(n:Int)*2=((n*2:Nat):Int) by omega];exact BitVec.ofInt_natCast 64 (n*2)
 have h:BitVec.ofInt 64 (1:Int)=BitVec.ofNat 64 1:=ag;have j:n*2 % 2 ^ 64=n*2:=Ou ab;have e:=Nat.shiftLeft_add_eq_or_of_lt (i:=1) (b:=1) ag n;rw[Nat.shiftLeft_eq,Nat.pow_one]at e;rw[g,h,BitVec.toNat_or,IN,IN,j,show 1 % 2 ^ 64=1 from rfl,←e];show wU _=_;rw[Xw ab ab];omega
def XkP{a:Int}(f:0<=a)(g:a<=64):∀(n k:Nat),(k:Int)<=a->(a-k).toNat<n->Qfs N a n ((2:Int) ^ k-1) (k:Int)=some ((2:Int) ^ a.toNat-1)
 |0,k,_,j=>by omega
 |n+1,k,r,j=>by
  rw[Qfs];have e:(if 64<(if a<0 then 0 else a)then 64 else(if a<0 then 0 else a))=a:=by rw[Wj (show¬a<0 by omega),Wj ab]
  rw[e];by_cases h:(k:Int)<a
  .have hp:(1:Int)<=2 ^ k:=Int.pow_pos (n:=(2:Int)) (m:=k) ag;have s:(2:Int) ^ k<=2 ^ 63:=by have:2 ^ k<=2 ^ 63:=IX ab ab;exact_mod_cast this
   have p:ZY .u64 ((2:Int) ^ k-1) 1=wU (((2:Int) ^ k-1)*2):=rfl;rw[We h,Wc,p,Xw ab ab,XqU ab ab,Xg ab];have q:((2:Int) ^ k-1)*2+1=2 ^ (k+1)-1:=by rw[Int.pow_succ];omega
   rw[q];exact XkP f g n (k+1) ab ab
  grind
def JC{a:Int}(e:0<=a)(f:a<=64)(hN:1000<N):Qc1 N a=some ((2:Int) ^ a.toNat-1):=by have:=XkP (N:=N) e f N 0 ab ab;rw[Qc1];rw[show((2:Int) ^ 0-1)=0 from rfl,show((0:Nat):Int)=0 from rfl]at this;rw[this,Xa]
def Js(hN:1000<N)(d:Ws):Qdi N d=some (Xx d):=by
 rw[Qdi,Xx];by_cases e:d.k<0
 .rw[We e,Wc,Wg ab,UJ]
 rw[Wg e,Wa];by_cases f:d.k>3
 .rw[We f,Wc,Wg ab,UJ]
 rw[Wg f,Wa];by_cases g:d.n<0
 .rw[We g,Wc,Wg ab,UJ]
 rw[Wg g,Wa];by_cases h:d.n>255
 .rw[We h,Wc,Wg (p:=0<=d.k/\d.k<=3/\0<=d.n/\d.n<=255) ab,UJ]
 rw[Wg h,Wa,We (p:=0<=d.k/\d.k<=3/\0<=d.n/\d.n<=255) ab,Ue];by_cases j:d.k=1
 .rw[Wm j,Xr j,Wc,Xt];by_cases q:d.n<=32
  .rw[We q,Wc,JC ab ab hN,Xa,Ue,XcD];exact congrArg some (decide_eq_decide.2 ab)
  rw[Wg q,Wa,UJ]
 grind
def YL(hN:1000<N)(d:Ws):Qbs N d=some (Xj d):=by
 rw[Qbs,Js hN,Xa,Xj];cases h:Xx d with
 |false=>rfl
 |true=>have:=XB h;rw[Wh,Wa,Xe (n:=d.n+1) ab ab];rfl
def Xol(hN:1000<N)(d:Ws)(i:Int):Qft N d i=some (Kk d i):=by
 rw[Qft,Js hN,Xa,Kk];cases h:Xx d with
 |false=>rfl
 |true=>
  have hb:=XB h;rw[Wh,Wa,Ue];by_cases f:i<0
  .rw[We f,Wc,Wg ab,UJ]
  rw[Wg f,Wa];by_cases g:i>=d.n
  .rw[We g,Wc,Wg ab,UJ]
  rw[Wg g,Wa,We (p:=0<=i/\i<d.n) ab,Ue,Xw (n:=i) ab ab];by_cases e:d.k=2
  .rw[Xr e,Wc,We e,Bool.true_or]
  rw[Xk e,Wa,Wg e,Iz];by_cases j:d.k=1
  .rw[Xr j,Wc,We j,Ue,Xb ab]
  grind
def XbM(hN:1000<N)(d:Ws)(f:Xx d=true):∀(n:Nat) (i:Int) (v:List Int),0<=i->i<=d.n+1->(d.n+1-i).toNat<n->v.length+(d.n+1-i).toNat<=1000->Qcc N d (d.n+1) n i v=some (v++X2 d (d.n-i).toNat i)
 |0,i,v,_,_,g,_=>by omega
 |n+1,i,v,q,r,g,s=>by
  have hb:=XB f;rw[Qcc];by_cases h:i<d.n+1
  .rw[We h,Wc,Xol hN,Xa,Xe (n:=i+1) ab ab];by_cases u:i<d.n
   .obtain⟨k,j⟩:∃k,(d.n-i).toNat=k+1:=⟨(d.n-i).toNat-1,ab⟩
    have e:(d.n-(i+1)).toNat=k:=ab;rw[j,X2];cases hp:Kk d i
    .rw[Wa,XbM hN d f n (i+1) v ab ab ab ab,e];simp
    rw[Wc,Xb ab,XbM hN d f n (i+1) _ ab ab ab (by grind),e];simp
   have hp:Kk d i=false:=by unfold Kk;rw[Wg (p:=0<=i/\i<d.n) ab];simp
   rw[hp,Wa,XbM hN d f n (i+1) v ab ab ab ab,show(d.n-i).toNat=0 by omega,show(d.n-(i+1)).toNat=0 by omega];rfl
  rw[Wg h,Wa,show(d.n-i).toNat=0 by omega];simp[X2]
def Xfz(hN:1000<N)(d:Ws)(e:Xx d=true):QdX N d=some (XL d):=by
 have hb:=XB e;have f:Xj d=d.n+1:=by unfold Xj;rw[e];rfl
 rw[QdX,YL hN,Xa,f,XbM hN d e N 0 [] ab ab ab (by grind),Xa,XL,e];simp
def XgH{l:List Int}(f:l.length<=1000000)(hN:1000000<N):Qaj N l 0=some (!l.all λp=>!(p==0)):=by
 rw[Qaj,QbV];rw[JP (p:=λx:Int=>(0==x)) f hN (λn j x e=>by
  have g:=Xy e
  rw[Qay,Xi g,Wc,Xf,e,Xa,Xg ab]) (λn=>by rw[Qay,Xz,Wa])]
 rw[Xa,Ky,←XgG,Bool.not_not];grind
def Xbd:List (List Int)->Nat
 |[]=>0
 |l::ls=>l.length+Xbd ls
def XfA(ls:List (List Int))(e:ls.length<=1000):∀(n k s:Nat),k<=ls.length->ls.length-k<n->s+Xbd (ls.drop k)<=10000000->QaT N ls n (s:Int) (k:Int)=some (((s+Xbd (ls.drop k):Nat):Int))
 |0,k,s,_,f,_=>by omega
 |n+1,k,s,j,f,g=>by
  rw[QaT];by_cases h:k<ls.length
  .rw[Wl h,Xbd]at g⊢;rw[Xi h,Wc,Xf,Wb h,Xa,Xe (n:=(s:Int)+((ls[k].length:Nat):Int)) ab ab,Wg ab,Wa,Xg ab];have:=XfA ls e n (k+1) (s+ls[k].length) ab ab ab;grind
  obtain rfl:k=ls.length:=ab;rw[Xz,Wa,WY (Uh _)];rfl
def XfB(ls:List (List Int))(e:ls.length<=1000):∀(n k:Nat) (v:List Int),k<=ls.length->ls.length-k<n->v.length+Xbd (ls.drop k)<=10000000->QaU N ls n (k:Int) v=some (v++(ls.drop k).flatten)
 |0,k,v,_,f,_=>by omega
 |n+1,k,v,j,f,g=>by
  rw[QaU];by_cases h:k<ls.length
  .rw[Wl h,Xbd]at g;rw[Wl h,Xi h,Wc,Xf,Wb h,Xa,Xb ab,Xg ab,XfB ls e n (k+1) _ ab ab (by rw[WK];omega),List.flatten_cons,W5]
  grind
def Xck(ls:List (List Int))(f:ls.length<=1000)(q:Xbd ls<=10000000)(hN:1000000<N):QaP N ls=some ls.flatten:=by
 have g:=XfA (N:=N) ls f N 0 0 ab ab (by rw[WX];omega);have j:=XfB (N:=N) ls f N 0 [] ab ab (by rw[WX];simp;omega);rw[show((0:Nat):Int)=0 from rfl,UE]at g;rw[show((0:Nat):Int)=0 from rfl,W8]at j;have p:Qbt N ((Xbd ls:Nat):Int)=some []:=by
  rw[Qbt,Wg ab,Wa,Xe (n:=(0:Int)) ab ab,Int.sub_zero];have e:=Xe (n:=((Xbd ls:Nat):Int)) ab ab;by_cases h:(wI ((Xbd ls:Nat):Int))>0
  .rw[We h,Wc,Xb ⟨rfl,rfl⟩,Xb ab,Xb ab,Xb ab,Oy]
  rw[Wg h,Wa]
 simp[QaP,g,Xa,p,j]
end
section
variable {N:Nat}
def Xc7{w:Int}(hw:tU w):Xb7 w=⟨w / 4 % 4,w / 16 % 4096,w / 65536 % 4294967296⟩:=by have⟨e,f⟩:=hw;unfold Xb7;rw[show Yz .u64 w 2=w / 4 from Y3 w 2 ab e,show Yz .u64 w 4=w / 16 from Y3 w 4 ab e,show Yz .u64 w 16=w / 65536 from Y3 w 16 ab e];rw[show Zq .u64 (w / 4) 3=w / 4 % 4 from Y4 (w / 4) 2 ab ab ab,show Zq .u64 (w / 16) 4095=w / 16 % 4096 from Y4 (w / 16) 12 ab ab ab];rw[Xe ab ab,Xe ab ab,Xko]
def Xom{w:Int}(hw:tU w):okH w=(Xx (Xb7 w)&&(decide (w / 281474976710656=0)&&decide (w % 4=1))):=by
 have⟨f,g⟩:=hw;unfold okH;cases h:Xx (Xb7 w)with
 |false=>rfl
 |true=>
  have hb:=XB h;rw[Xc7 ⟨f,g⟩]at hb;have e:ZB (Xb7 w)=1+4*(w / 4 % 4)+16*(w / 16 % 4096)+w / 65536 % 4294967296*65536:=by rw[Xc7 ⟨f,g⟩];unfold ZB;have s:∀x:Int,ZY .u64 x 16=wU (x*65536):=λ_=>rfl;simp only[s];simp only[XcD];omega
  grind
def Xt2:Xd [(2:Int),2,12,32] 0=some 2:=by unfold Xd;rfl
def Xt3:Xd [(2:Int),2,12,32] 1=some 2:=by unfold Xd;rfl
def Xt4:Xd [(2:Int),2,12,32] 2=some 12:=by unfold Xd;rfl
def Xt5:Xd [(2:Int),2,12,32] 3=some 32:=by unfold Xd;rfl
def XjK(hN:1000000<N){v:Int}(f:0<=v)(r:v<=18446744073709551615):Qfb N v [2,2,12,32]=some (if v / 281474976710656=0 then([v % 4,v / 4 % 4,v / 16 % 4096,v / 65536 % 4294967296],0)else([],2)):=by
 obtain⟨m,rfl⟩:∃m,N=m+5:=⟨N-5,ab⟩
 have e:([(2:Int),2,12,32].length:Nat)=4:=rfl;have g:wI (0+1)=1:=Xe ab ab;have h:wI (1+1)=2:=Xe ab ab;have j:wI (2+1)=3:=Xe ab ab;have p:wI (3+1)=4:=Xe ab ab;have s:wI (64-2)=62:=Xe ab ab;have u:wI (62-2)=60:=Xe ab ab;have x:wI (60-12)=48:=Xe ab ab;have y:wI (48-32)=16:=Xe ab ab;have z:QaV (m+5) v [2,2,12,32] (m+5) 64 0=some (.nxt ()):=by rw[QaV,e,Xt2];simp only[Xa,g,s];rw[QaV,e,Xt3];simp only[Xa,h,u];rw[QaV,e,Xt4];simp only[Xa,j,x];rw[QaV,e,Xt5];simp only[Xa,p,y];rw[QaV,e];rfl
 have q:Qc1 (m+5) 2=some 3:=JC ab ab ab;have A:Qc1 (m+5) 12=some 4095:=JC ab ab ab;have B:Qc1 (m+5) 32=some 4294967295:=JC ab ab ab;have D:Yz .u64 v 2=v / 4:=Y3 v 2 ab f;have E:Yz .u64 (v / 4) 2=v / 4 / 4:=Y3 (v / 4) 2 ab ab;have s3:Yz .u64 (v / 4 / 4) 12=v / 4 / 4 / 4096:=Y3 (v / 4 / 4) 12 ab ab;have s4:Yz .u64 (v / 4 / 4 / 4096) 32=v / 4 / 4 / 4096 / 4294967296:=Y3 (v / 4 / 4 / 4096) 32 ab ab;have G:Zq .u64 v 3=v % 4:=Y4 v 2 ab f r;have H:Zq .u64 (v / 4) 3=v / 4 % 4:=Y4 (v / 4) 2 ab ab ab;have I:Zq .u64 (v / 4 / 4) 4095=v / 4 / 4 % 4096:=Y4 (v / 4 / 4) 12 ab ab ab;have J:Zq .u64 (v / 4 / 4 / 4096) 4294967295=v / 4 / 4 / 4096 % 4294967296:=Y4 (v / 4 / 4 / 4096) 32 ab ab ab;have K:QaW (m+5) [2,2,12,32] (m+5) v 0 []=some (v / 4 / 4 / 4096 / 4294967296,[v % 4,v / 4 % 4,v / 4 / 4 % 4096,v / 4 / 4 / 4096 % 4294967296]):=by rw[QaW,e,Xt2];rw[We ab,Wc,Xa,q,Xa,Xb ac,Xb ab,D,G,g];rw[QaW,e,Xt3];rw[We ab,Wc,Xa,q,Xa,Xb ac,Xb ab,E,H,h];rw[QaW,e,Xt4];rw[We ab,Wc,Xa,A,Xa,Xb ac,Xb ab,s3,I,j];rw[QaW,e,Xt5];rw[We ab,Wc,Xa,B,Xa,Xb ac,Xb ab,s4,J,p];rw[QaW,e];rw[Wg ab,Wa];rfl
 rw[Qfb,z,Xa,Xm,K,Xa];grind
def Xd8(hN:1000000<N){w:Int}(hw:tU w):Qd6 N w=some (Zf w,okH w):=by
 have⟨e,f⟩:=hw;rw[Qd6,XjK hN e f,Xa];unfold Zf;rw[Xom ⟨e,f⟩];by_cases h:w / 281474976710656=0
 .have j:Xd [w % 4,w / 4 % 4,w / 16 % 4096,w / 65536 % 4294967296] 0=some (w % 4):=by unfold Xd;rfl
  have g1:Xd [w % 4,w / 4 % 4,w / 16 % 4096,w / 65536 % 4294967296] 1=some (w / 4 % 4):=by unfold Xd;rfl
  have g2:Xd [w % 4,w / 4 % 4,w / 16 % 4096,w / 65536 % 4294967296] 2=some (w / 16 % 4096):=by unfold Xd;rfl
  have g3:Xd [w % 4,w / 4 % 4,w / 16 % 4096,w / 65536 % 4294967296] 3=some (w / 65536 % 4294967296):=by unfold Xd;rfl
  rw[Wm h];simp only[j,g1,g2,g3,Xa,show((0:Int) != 0)=false from rfl,Wa,Xe (n:=w / 4 % 4) ab ab,Xe (n:=w / 16 % 4096) ab ab,XrN (n:=w / 65536 % 4294967296) ab ab];rw[Js ab,Xa,←Xc7 ⟨e,f⟩,We h,Ue];by_cases g:w % 4=1
  .rw[g,show((1:Int) != 1)=false from rfl,Wa,We rfl,Bool.and_true];cases Xx (Xb7 w)<;>rfl
  rw[show(w % 4 != 1)=true by simpa using g,Wc,Wg g,Bool.and_false];rfl
 simp_all
def Xcl{ws:List Int}(f:ws.length<=1000000){a:Int}(g:a<=18446744073709551615)(n:Int):Qfc N ws a n=QdI N ws a n:=by
 rw[Qfc,QdI];by_cases e:a<4096
 .rw[We e,Wc,Wc]
 rw[XJ e,Wa,Wa,Xw (n:=a-4096) ab ab,Xw (n:=(ws.length:Int)) ab ab,Xw (n:=4096+(ws.length:Int)) ab ab];grind
def Xif{ws:List Int}(e:ws.length<=1000000){a:Int}(f:a<=18446744073709551615):Qgr N ws a=Qbk N ws a:=by simp[Qgr,Qbk,Qhd,QfY,Xcl,e,f]
def Xon{ws:List Int}(e:ws.length<=1000000){a:Int}(f:a<=18446744073709551615)(n:Int):Qg0 N ws a n=Qdb N ws a n:=by
 rw[Qg0,Qdb,Xcl e f];by_cases g:n<0
 .simp_all
 rw[XJ g,Wa,Wa];congr 1;funext y;cases y.2 with
 |false=>rfl
 |true=>simp only[Wh,Wa,Qad,Xa];unfold grd;grind
structure HT(h:Wi):Prop where
 hb:HB h
 tw:XS h
def HT.word{h:Wi}(t:HT h){i w:Int}(e:Xd h.w i=some w):tU w:=by have:=t.tw;exact this w (Ys e)
def Xcm(hN:NB N){h:Wi}(ht:HT h){a:Int}(x:tU a):Qev N h a=Qao N h a:=by
 have f:1000000<N:=by unfold NB at hN;omega
 have hb:=ht.hb;unfold HB at hb;rw[Qev,Qao,X8 ab f];have⟨b,eb,j⟩:=YI (N:=N) ab (h:=h) ab ab;rw[eb,Xa,Xa];cases b with
 |false=>rfl
 |true=>
 have hp:=j rfl;rw[Wh,Wa,Wa,XjJ _ _ _ x.2,KV,Wj (by simp[hp.conf])];by_cases g:4096<=a/\a<4096+h.c.p*h.c.W;case neg=>simp[Wj,g,Xa]
 rw[Wm g,Xa,Xa];have po:=Xgm hp.conf g.1 g.2;have A:=hp.pages;generalize (a-4096) / h.c.W=pn at *;generalize (a-4096) % h.c.W=e at *;have q:=hp.pgs pn ab ab;have r:=q.small;rw[Xo ab ab,Xa,Xa];generalize pg h.p pn=p at r⊢;rw[QgJ,Xif ab x.2];have B:=Xh.1 hp.conf;have D:=XE hp.conf (i:=0) ab ab;have v:∃w,Qbk N h.w a=some (w,0)/\tU w:=by rw[Qbk,QfY,QdI,XJ (show¬a<4096 by omega),Wa,Xw (n:=(h.w.length:Int)) ab ab,Xw (n:=4096+(h.w.length:Int)) ab ab,XJ (show¬a>4096+(h.w.length:Int) by have:=hp.words;omega),Wa,Xw (n:=a-4096) ab ab,Xe (n:=a-4096) ab ab,Xe ab ab,Xa];rw[We (show 1<=(h.w.length:Int)-(a-4096) by have:=hp.words;omega),Wh,Wa,Xa];simp only[show((0:Int) != 0)=false from rfl,Wa];have y:=X6 (l:=h.w) (i:=a-4096) ab (by have:=hp.words;omega);exact⟨_,by rw[y,Xa],ht.word y⟩
 have⟨w,v,tw⟩:=v;rw[v,Xa,Xa,Xa,Xd8 f tw,ZI,Xa,Xa];simp only[YL (show 1000<N by omega),XI,Xa,Xt];have E:=Xfk w;generalize Zf w=d at *;generalize Xj d=s at *;cases okH w with
 |false=>simp
 |true=>
  by_cases k1:p.k=1
  .have k2:(p.k==2)=false:=by rw[k1];rfl
   simp only[show(p.k != 1)=false by simpa using k1,show(p.k==1)=true by simpa using k1,k2,Wc,Wa];by_cases u:e>=p.u
   .rw[We u,Wc,Wc];rfl
   rw[XJ u,Wa,Wa];by_cases z:wI (e+s)>p.u
   .rw[We z,Wc];rw[Xe (n:=e+s) ab ab]at z;have:¬s<=wI (p.u-e):=by rw[Xe ab ab];omega
    rw[XJ this];rfl
   rw[XJ z,Wa];rw[Xe (n:=e+s) ab ab]at z;rw[Xe (n:=p.u-e) ab ab,We ab];rfl
  grind
end
section
variable {N:Nat}
def fnd(h:Wi)(a:Int):UT:=⟨a,hdA h.w a⟩
def Xig(l:List UT)(f:l.length<=1000000):∀(n k:Nat) (v:List Int),k<=l.length->l.length-k<n->v.length=k->Qdn N l n (k:Int) v=some (v++(l.drop k).map (·.addr))
 |0,k,v,_,h,_=>by omega
 |n+1,k,v,j,p,g=>by
  rw[Qdn];by_cases e:k<l.length
  .rw[We ab,Wc,Xf,Wb e,Xa,Xb ab,Xg ab,Xig l f n (k+1) _ ab ab (by simp[g]),Wl e,W5,UA];rfl
  grind
def Xd9(l:List UT)(e:l.length<=1000000)(hN:1000000<N):Qcn N l=some (l.map (·.addr)):=by rw[Qcn,show(0:Int)=((0:Nat):Int)from rfl,Xig l e N 0 [] ab ab rfl,Xa];simp
def XqV(h:Wi)(l:List Int):(l.map (fnd h)).map (·.addr)=l:=by rw[Iy];exact List.map_id'' (λ_=>rfl) l
def Xvv(h:Wi):Ex (List Int×Int) (List Int)->List UT×Int
 |.ret r=>([],19)
 |.nxt l=>(l.map (fnd h),0)
def XfC(hN:NB N){h:Wi}(ht:HT h)(hp:Uu h){i:Int}(A:0<=i)(E:i<h.p.length)(g:(pg h.p i).k=1\/(pg h.p i).k=2):∀(n:Nat) (o:Int) (l:List Int),0<=o->(66-o).toNat<n->(l.length:Int)<=o->((pg h.p i).k=1->o<=64)->((pg h.p i).k=2->o=0) ->
 ∃e,Qai N h i (pg h.p i) n o l=some e/\Qb3 N h i (pg h.p i) n o (l.map (fnd h))=some (Xvv h e)/\(∀r,e=.ret r->r=([],19))
 |0,o,l,G,H,I,k1,k2=>by omega
 |n+1,o,l,G,H,I,k1,k2=>by
  have J:1000000<N:=by unfold NB at hN;omega
  have U:=Xh.1 hp.conf;have K:=hp.pages;have L:=(hp.pgs i A E).small;rw[Qai,Qb3];by_cases j:o<(pg h.p i).u;case neg=>rw[XJ j,Wa,Wa];exact⟨_,rfl,rfl,λr e=>by grind⟩
  have q:o<h.c.W:=by
   rcases g with g|g
   .omega
   omega
  rw[We j,Wc,Wc,V9,ZJ,hp.conf,Xa,Xa,Wj ac,Wm ab];have M:=XE hp.conf (i:=i) A ab;have O:tU (Xc h.c i o):=by unfold Xc;exact⟨ab,ab⟩
  rw[show((0:Int)==0)=true from rfl,Wc,Xcm hN ht O];have⟨y,R,S⟩:=XcE hN ht.hb (Xc h.c i o);rw[R,Xa,Xa];by_cases B:y.2=0;case neg=>
   rw[show(y.2 != 0)=true by simp_all,show(y.2==0)=false by simp_all,Wc,Wa]
   exact⟨_,rfl,rfl,λr e=>by simp_all⟩
  have⟨_,_,s,D⟩:=S B;have v:=XA h.w (Xc h.c i o);have f:=Yb hp.conf (p:=i) G q;rw[show(y.2 != 0)=false by simp_all,show(y.2==0)=true by simp_all,Wc,Wa,D,Xb ab];rw[YL ab,Xa,v.1,Xb (by grind)];rw[show UT.mk (Xc h.c i o) (hdA h.w (Xc h.c i o))=fnd h (Xc h.c i o)from rfl];have T:l.map (fnd h)++[fnd h (Xc h.c i o)]=(l++[Xc h.c i o]).map (fnd h):=by simp
  rw[T];rcases g with g|g
  .rw[show((pg h.p i).k==2)=false by simp_all,Wa,XI,Xa,v.1];have x:=s.small;rw[f.1,f.2]at x;rw[Xe (n:=o+szA h.w (Xc h.c i o)) ab ab];exact XfC hN ht hp A E (.inl g) n _ _ ab ab (by grind) (λ_=>ab) (λk=>ab)
  rw[show((pg h.p i).k==2)=true by simp_all,Wc];have z:=s.large;rw[f.1,f.2]at z;refine⟨_,rfl,?_,λr e=>by grind⟩;rw[Xe (n:=o+szA h.w (Xc h.c i o)) ab ab];obtain⟨m,rfl⟩:∃m,n=m+1:=⟨n-1,ab⟩
  rw[Qb3,XJ ab,Wa];rfl
def Xp{h:Wi}(hN:NB N)(hb:HB h)(ep:Qaa N h=some true):Uu h:=by have⟨b,eb,e⟩:=YI (N:=N) (by unfold NB at hN;omega) hb.1 hb.2;simp_all
def ZK(hN:NB N){h:Wi}(hb:HB h):∃b,Qaa N h=some b:=by have⟨b,eb,_⟩:=YI (N:=N) (by unfold NB at hN;omega) hb.1 hb.2;simp_all
def Xea(hN:NB N){h:Wi}(ht:HT h)(ep:Qaa N h=some true){i:Int}(f:0<=i)(g:i<h.p.length):∃r,Qag N h i=some r/\Qf0 N h i=some (r.1.map (fnd h),r.2)/\(r.2≠0->r=([],19)):=by
 have hb:=ht.hb;have hp:=Xp hN hb ep;rw[Qag,Qf0,ep,Xa,Xo f g,Xa,Xa,Wh,Wa,XJ (show¬i<0 by omega),Wa,XJ (show¬i>=_ by omega),Wa];have q:=(hp.pgs i f g).kind;have main:((pg h.p i).k=1\/(pg h.p i).k=2)->∃r,(bnd (Qai N h i (pg h.p i) N 0 []) λe=>exK e (λr=>some r) λs=>some (s,0))=some r/\Qb3 N h i (pg h.p i) N 0 []=some (r.1.map (fnd h),r.2)/\(r.2≠0->r=([],19)):=by
  intro u;obtain⟨e,v,j,e3⟩:=XfC hN ht hp f g u N 0 [] ab (by unfold NB at hN;omega) ac (λ_=>ab) (λ_=>rfl);rw[v,Xa];rw[In]at j;rw[j];cases e with
  |ret r=>rw[e3 r rfl];rw[Xs];exact⟨_,rfl,rfl,λ_=>rfl⟩
  |nxt l=>rw[Xm];exact⟨_,rfl,rfl,λh=>absurd rfl h⟩
 by_cases k1:(pg h.p i).k=1
 .simp_all
 by_cases k2:(pg h.p i).k=2
 .simp_all
 rw[show((pg h.p i).k != 1)=true by simpa using k1,show((pg h.p i).k != 2)=true by simpa using k2];refine⟨([],0),?_,rfl,λh=>absurd rfl h⟩;grind
def Qmw(hN:NB N){h:Wi}(hb:HB h)(i:Int){r:List Int×Int}(e:Qag N h i=some r):r.1.length<=64:=by have:=(QkM hN hb i).get_eq e;omega
def Xeb(hN:NB N){h:Wi}(ht:HT h)(i:Int):Qe4 N h i=Qag N h i:=by
 have hb:=ht.hb;rw[Qe4,X8 (by have:=hb.2;omega) (by unfold NB at hN;omega)];have⟨b,eb⟩:=ZK (N:=N) hN hb;rw[eb,Xa];cases b with
 |false=>simp[Qag,eb,Xa]
 |true=>
 by_cases e:i<0
 .rw[Qag,eb,Xa,We e];rfl
 by_cases f:i>=h.p.length
 .rw[Qag,eb,Xa,XJ e,We f];rfl
 have⟨r,g,j,e3⟩:=Xea hN ht eb (i:=i) ab ab;rw[Wh,Wa,XJ e,Wa,XJ f,Wa,j,Xa,g];have q:=Qmw hN hb i g;by_cases z:r.2=0
 .rw[show(r.2 != 0)=false by simpa using z,Wa,Xd9 _ (by rw[Uf];omega) (by unfold NB at hN;omega),Xa,XqV];congr 1;exact Prod.ext rfl z.symm
 simp_all
def XkQ(hN:NB N){h:Wi}(ht:HT h)(ep:Qaa N h=some true):∀(n k:Nat) (l:List Int),k<=h.p.length->h.p.length-k<n->l.length<=64*k ->
 ∃e,QaK N h n (k:Int) l=some e/\Qf2 N h n (k:Int) (l.map (fnd h))=some (match e with|.ret r=>.ret (r.1.map (fnd h),r.2)|.nxt l=>.nxt (l.map (fnd h)))/\(∀r,e=.ret r->r=([],19))/\(∀f,e=.nxt f->f.length<=64*h.p.length)
 |0,k,l,_,h,_=>by omega
 |n+1,k,l,u,v,x=>by
  have hb:=ht.hb;have j:=hb.2;rw[QaK,Qf2];by_cases q:k<h.p.length;case neg=>rw[Wg (show¬(k:Int)<_ by omega),Wa,Wa];refine⟨_,rfl,rfl,?_,?_⟩<;>intro r e<;>cases e;omega
  rw[We (show(k:Int)<_ by omega),Wc,Wc];have⟨r,g,s,e3⟩:=Xea hN ht ep (i:=(k:Int)) ab ab;rw[g,s,Xa,Xa];have y:=Qmw hN hb (k:Int) g;by_cases z:r.2=0
  .rw[show(r.2 != 0)=false by simpa using z,Wa,Wa,Xb ab,Xb ai,Xg ab,←UG];exact XkQ hN ht ep n (k+1) _ ab ab (by rw[WK];omega)
  simp_all
def XqW(hN:NB N){h:Wi}(ht:HT h):∃r,QbA N h=some r/\Qhq N h=some (r.1.map (fnd h),r.2)/\(r.2≠0->r.1=[])/\r.1.length<=6400000:=by
 have hb:=ht.hb;have g:=hb.2;rw[QbA,Qhq,X8 ab (by unfold NB at hN;omega)];have⟨b,eb⟩:=ZK (N:=N) hN hb;rw[eb,Xa,Xa];cases b with
 |false=>simp
 |true=>
 rw[Wh,Wa,Wa];have⟨e,j,f,e3,e4⟩:=XkQ hN ht eb N 0 [] ab (by unfold NB at hN;omega) ac;rw[In]at f;rw[show(0:Int)=((0:Nat):Int)from rfl,j,f,Xa,Xa];cases e with
 |ret r=>rw[Xs];rw[Xs,e3 r rfl];simp
 |nxt l=>rw[Xm];grind[Xm]
end
section
variable {N:Nat}
def YY(f:UT):Bool:=!(f.hd.k==0)
def Yc(h:Wi)(l:List Int):List Int:=l.filter λa=>YY (fnd h a)
def XjL(e:List UT)(s:e.length<=1000000):∀(n i j:Nat) (v:List UT),i<=j->j<=e.length->e.length-j<n->v.length=e.length->v.drop j=e.drop j ->
 ∃(f:Nat) (g:List UT),Qcv N n (i:Int) (j:Int) v=some ((f:Int),g)/\g.length=e.length/\f<=e.length/\g.take f=v.take i++(e.drop j).filter YY
 |0,i,j,v,_,_,h,_,_=>by omega
 |n+1,i,j,v,u,A,B,x,hd=>by
  rw[Qcv,Xb ab];by_cases p:j<e.length;case neg=>
   grind
  have q:v[j]'ab=e[j]:=by have a:=Wl (l:=v) (i:=j) ab;have b:=Wl (l:=e) (i:=j) ab;rw[hd,b]at a;exact(I4 a).1.symm
  have r:v.drop (j+1)=e.drop (j+1):=by have a:=Wl (l:=v) (i:=j) ab;have b:=Wl (l:=e) (i:=j) ab;rw[hd,b]at a;exact(I4 a).2.symm
  rw[We ab,Wc,Xf,Wb ab,Xa,Qey,Xa,q,Wl p];cases D:(e[j].hd.k==0)with
  |true=>rw[Wh,Wa,Xg ab,UC (by unfold YY;simp_all)];exact XjL e s n i (j+1) v ab ab ab x r
  |false=>rw[Ug,Wc,Xf,Wb ab,Xa,Xg ab,Xg ab,Uq (by unfold YY;simp_all)];have⟨f,g,y,z,e3,e4⟩:=XjL e s n (i+1) (j+1) (v.set i e[j]) ab ab ab (by simp_all) (by rw[UU ab];omega);refine⟨f,g,y,z,e3,?_⟩;rw[e4,List.take_succ,Od ab,I5 (Uh _)];simp
def XqX(l:List UT)(g:l.length<=1000000)(hN:1000000<N):Qas N l=some (YS (λf=>f.hd.k==0) l):=by
 exact JP (p:=λf:UT=>f.hd.k==0) g hN (λn k x e=>by
  have h:=Xy e
  rw[Qak,Xi h,Wc,Xf,e,Xa,Qey,Xa,Xg ab]) (λn=>by rw[Qak,Xz,Wa])
def Xmg(l:List UT)(p:l.length<=1000000)(hN:1000000<N):(bnd (Qas N l) λq=>
 bif (q==(-1))then(bnd (Qcn N l) λr=>
  some (r,(0:Int)))
 else bnd (Qcv N N q (wI (q+1)) l) λe=>
 grd (0<=e.1/\e.1<=(e.2.length:Int)/\(e.2.length:Int)<=(e.2.length:Int)) <|
 grd (0<=e.1/\e.1<=(((((min e.1.toNat e.2.length)+(e.2.length-e.1.toNat))+(e.2.length-(e.1.toNat+(e.2.length-e.1.toNat)))):Nat):Int)) <|
 bnd (Qcn N ((((e.2.take e.1.toNat)++(List.replicate (e.2.length-e.1.toNat) (UT.mk 0 (Ws.mk 0 0 0))))++(e.2.drop (e.1.toNat+(e.2.length-e.1.toNat)))).take e.1.toNat)) λs=>
 some (s,0))=some ((l.filter YY).map (·.addr),0):=by
 rw[XqX l p hN,Xa];unfold YS;cases u:l.findIdx? (λf=>f.hd.k==0)with
 |none=>
  have g:l.filter YY=l:=by rw[IS]at u;rw[Ip];intro x v;unfold YY;rw[u x v];rfl
  rw[show((-1:Int)==-1)=true from rfl,Wc,Xd9 l p hN,Xa,g]
 |some j=>
  have⟨y,hp,hb⟩:=UI.1 u;rw[show((j:Int)==-1)=false by simp,Wa,Xg ab];have⟨i',h,z,E,e3,e4⟩:=XjL (N:=N) l p N j (j+1) l ab ab ab rfl rfl;rw[z,Xa];dsimp only;rw[Xb ab,Xb ab,show((i':Int)).toNat=i' from rfl];have et:(((h.take i')++(List.replicate (h.length-i') (UT.mk 0 (Ws.mk 0 0 0))))++(h.drop (i'+(h.length-i')))).take i'=h.take i':=by rw[W5,List.take_append_of_le_length (by grind),List.take_take,UM]
  have A:l.filter YY=l.take j++(l.drop (j+1)).filter YY:=by
   conv=>lhs;rw[←If j l,IM,Wl y,UC (by unfold YY;simp_all)]
   congr 1;rw[Ip];intro x v;obtain⟨k,B,rfl⟩:=Wt v;rw[Wu]at B;rw[IC];have:=hb k ab;unfold YY;simpa using this
  rw[et,e4,←A];have D:(l.filter YY).length<=l.length:=List.length_filter_le _ _;rw[Xd9 _ ab hN,Xa]
def XaM{h:Wi}(y:List Int×Int)(j:y.1.length<=1000000)(e:∀a∈y.1,Qao N h a=some (hdA h.w a,0)):∀(n k:Nat) (v:List Int),k<=y.1.length->y.1.length-k<n->v.length<=k ->
 Qa8 N h y n (k:Int) v=some (v++Yc h (y.1.drop k))
 |0,k,v,_,p,_=>by omega
 |n+1,k,v,g,p,q=>by
  rw[Qa8];by_cases f:k<y.1.length
  .rw[We ab,Wc,Xf,Wb f,Xa,e _ (Ww f),Xa,Xg ab,Wl f,Yc];by_cases g:(hdA h.w y.1[k]).k=0
   .rw[show((hdA h.w y.1[k]).k != 0)=false by simp_all,Wa,XaM y j e n (k+1) v ab ab ab,UC (by simp[YY,fnd,g])];rfl
   rw[show((hdA h.w y.1[k]).k != 0)=true by simp_all,Wc,Xa,Xb ab,XaM y j e n (k+1) _ ab ab (by simp_all),Uq (by simp[YY,fnd,g])];simp[Yc]
  rw[Wg ab,Wa,WY ab];simp[Yc]
def JD(hN:NB N){h:Wi}(ht:HT h):QdU N h=Qal N h:=by
 have e:1000000<N:=by unfold NB at hN;omega
 have⟨r,f,p,e3,_⟩:=XqW hN ht;have⟨g,hp,_⟩:=(J9 hN ht.hb).get_eq f;have j:=g.len;rw[QdU,Qal,f,p,Xa,Xa];rw[show(0:Int)=((0:Nat):Int)from rfl,XaM r ab g.obj.ev N 0 [] ab ab ac,Xa,WX,W8];by_cases z:r.2=0
 .rw[show(r.2 != ((0:Nat):Int))=false by simp_all,Wa];have:=Xmg (N:=N) (r.1.map (fnd h)) (by grind) e;rw[show((0:Nat):Int)=0 from rfl,this,z];congr 2;rw[List.filter_map,Iy];exact List.map_id'' (λ_=>rfl) _
 rw[show(r.2 != ((0:Nat):Int))=true by simp_all,Wc,e3 z];rfl
end
section
variable {N:Nat}
def exM{α β γ:Type}(f:α->γ):Ex α β->Ex γ β
 |.ret a=>.ret (f a)
 |.nxt b=>.nxt b
def II.tu{h:Wi}(hp:Uu h){a:Int}(e:II h a):tU a:=by have:=e.rng;have:=XE hp.conf (i:=0) ab (by have:=Xh.1 hp.conf;omega);exact⟨ab,ab⟩
def XfD(hN:NB N){h:Wi}(ht:HT h)(hp:Uu h){i:Int}(s:0<=i)(u:i<h.p.length)(l:List Int)(v:l.length<=4096)(f:∀a∈l,II h a)(g:∀a∈l,Qao N h a=some (hdA h.w a,0)):∀(n k:Nat),k<=l.length->l.length-k<n ->
 ∃e,QaS N h i l n (k:Int)=some e/\Qcp N h i l n (k:Int)=some (exM (λa=>(a,true)) e)/\∀a,e=.ret a->a∈l
 |0,k,_,x=>by omega
 |n+1,k,y,x=>by
  rw[QaS,Qcp];by_cases j:k<l.length;case neg=>rw[Wg ab,Wa,Wa];exact⟨_,rfl,rfl,λa e=>by grind⟩
  have q:=Ww j;have r:1000<N:=by unfold NB at hN;omega
  have nx:=XfD hN ht hp s u l v f g n (k+1) ab ab;simp only[We (show(k:Int)<(l.length:Int) by omega),Wc,Xf,Wb j,Xa,Xcm hN ht ((f _ q).tu hp),g _ q,YL r,XI,Xoi,Xfl,Xo s u,Xg (show k<=140737488355328 by omega)];cases ((pg h.p i).k==1)<;>cases ((pg h.p i).k==2)<;>cases (decide (Xj (hdA h.w l[k])<=smC h.c))<;>cases ((hdA h.w l[k]).k==0);all_goals simp only[Wc,Wa,Wh,Ug]
  all_goals first
   |exact nx
   |exact⟨_,rfl,rfl,λa e=>by cases e;exact q⟩
def Xmh(hN:NB N){h:Wi}(ht:HT h)(hp:Uu h){i:Int}(j:0<=i)(q:i<h.p.length)(l:List Int)(r:l.length<=4096)(f:∀a∈l,II h a)(g:∀a∈l,Qao N h a=some (hdA h.w a,0)):
 ∃a,Qen N h i l=some a/\∃b,Qf1 N h i l=some (b,a != 0):=by
 have⟨e,s,v,e3⟩:=XfD hN ht hp j q l r f g N 0 ab (by unfold NB at hN;omega);rw[Qen,Qf1,show(0:Int)=((0:Nat):Int)from rfl,s,v,Xa,Xa];cases e with
 |ret a=>have:=(f a (e3 a rfl)).rng;simp only[exM,Xs];exact⟨a,rfl,a,by rw[show(a != ((0:Nat):Int))=true by grind]⟩
 |nxt u=>simp[exM,Xm]
def Xih{h:Wi}(e:(pg h.p 0).k≠3)(f:h.p.length<=100000):∀(n i:Nat),i<h.p.length->i<n->QeQ N h n (i:Int)=QcO N h n (i:Int)
 |0,i,_,g=>by omega
 |n+1,i,q,g=>by
  rw[QeQ,QcO,Xo ab ab,Xa,Xa];cases i with
  |zero=>grind
  |succ j=>rw[We ab,Wc,Xe ab ab,show((j+1:Nat):Int)-1=(j:Int) by omega,Xih e f n j ab ab]
def Xoo(hN:NB N){h:Wi}(hb:HB h)(hp:Uu h){i:Int}(e:0<=i)(f:i<h.p.length):Qg1 N h i=QeX N h i:=by
 obtain⟨k,rfl⟩:∃k:Nat,i=(k:Int):=⟨i.toNat,ab⟩
 have:=hb.2;rw[Qg1,QeX,Xih hp.first this N k ab (by unfold NB at hN;omega)]
def Kl(h:Wi)(a:Int):Int:=if(hdA h.w a).k=0 then 1 else szA h.w a
def Xmi(h:Wi)(i:Int)(l:List Int)(k:Int):Bool:=l.any λa=>decide (a-Xc h.c i 0<=k/\k<a-Xc h.c i 0+Kl h a)
def XkR(h:Wi)(hp:Uu h)(i:Int)(A:0<=i)(D:i<h.p.length)(l:List Int)(k:Nat)(a:Int)(B:l[k]? = some a)(x:Int)(E:x<=256)(G:4096<=a/\a<=8192):∀(n:Nat) (w:Int) (u:List Bool),0<=w->(x-w).toNat<n->u.length<=1000 ->
 ∃e,QbS N h i l (k:Int) x n w u=some e/\e.length=u.length/\∀j,j<u.length->e.getD j false=(u.getD j false||decide (a-Xc h.c i 0+w<=j/\(j:Int)<a-Xc h.c i 0+x))
 |0,w,u,_,H,_=>by omega
 |n+1,w,u,hw,H,L=>by
  have I:=hp.pages;have M:=Xh.1 hp.conf;have O:=XE hp.conf (i:=i) A ab;rw[QbS];by_cases f:w<x;case neg=>
   rw[XJ f,Wa]
   exact⟨u,rfl,rfl,λj g=>by rw[XJ (show¬_ by omega),Bool.or_false]⟩
  have R:Xc h.c i 0=4096+i*h.c.W:=by unfold Xc;omega
  rw[We f,Wc,Xf,B,Xa];rw[Xe (n:=a) ab ab,Xe (n:=a-4096) ab ab,Xe (n:=a-4096+w) ab ab,Xe (n:=i*h.c.W) ab ab,Xe (n:=a-4096+w-i*h.c.W) ab ab,Xe (n:=w+1) ab ab];generalize S:a-4096+w-i*h.c.W=q;have step:∀v:List Bool,v.length=u.length->(∀j,j<u.length->v.getD j false=(u.getD j false||decide ((j:Int)=q)))->∃e,QbS N h i l (k:Int) x n (w+1) v=some e/\e.length=u.length/\∀j,j<u.length->e.getD j false=(u.getD j false||decide (a-Xc h.c i 0+w<=j/\(j:Int)<a-Xc h.c i 0+x)):=by intro v r s;obtain⟨e,J,K,e3⟩:=XkR h hp i A D l k a B x E G n (w+1) v ab ab ab;refine⟨e,J,K.trans r,λj g=>?_⟩;rw[e3 j ab,s j g,Bool.or_assoc];congr 1;rw[←Bool.decide_or];exact decide_eq_decide.2 ab
  by_cases y:q>=0;case neg=>
   rw[XJ y,Wa]
   exact step u rfl λj g=>by rw[XJ (show¬(j:Int)=q by omega),Bool.or_false]
  rw[We y,Wc,Xb ab];by_cases z:q<u.length;case neg=>
   rw[XJ z,Wa]
   exact step u rfl λj g=>by rw[XJ (show¬(j:Int)=q by omega),Bool.or_false]
  rw[We z,Wc,X6 y z,Xa];refine step _ (by rw[WL]) λj g=>?_;rw[Wk,U4];grind
end
section
variable {N:Nat}
def Xmj(h:Wi)(i k a:Int):Bool:=decide (a-Xc h.c i 0<=k/\k<a-Xc h.c i 0+Kl h a)
def XgI(h:Wi)(i:Int)(l:List Int)(k:Int):Xmi h i l k=l.any (Xmj h i k):=rfl
def XgJ(h:Wi)(a:Int):1<=Kl h a/\Kl h a<=256:=by have:=XA h.w a;unfold Kl;omega
def XkS(hN:NB N){h:Wi}(hp:Uu h)(i:Int)(y:0<=i)(z:i<h.p.length)(l:List Int)(D:l.length<=4096)(r:∀a∈l,II h a)(s:∀a∈l,Qao N h a=some (hdA h.w a,0)):∀(n k:Nat) (u:List Bool),k<=l.length->l.length-k<n->u.length<=1000 ->
 ∃v,Qdo N h i l n (k:Int) u=some v/\v.length=u.length/\∀j:Nat,j<u.length->v.getD j false=(u.getD j false||(l.drop k).any (Xmj h i (j:Int)))
 |0,k,u,_,E,_=>by omega
 |n+1,k,u,L,E,G=>by
  have M:=Xh.1 hp.conf;have O:=XE hp.conf (i:=0) ab ab;have H:1000000<N:=by unfold NB at hN;omega
  rw[Qdo];by_cases f:k<l.length;case neg=>
   rw[Wg ab,Wa,WY ab]
   exact⟨u,rfl,rfl,λj A=>ac⟩
  have g:=Ww f;have R:=(r _ g).rng;have I:=XgJ h l[k];have x:=XA h.w l[k];have e:∀kk:Int->Option (List Bool),(jn kk λB=>bif ((hdA h.w l[k]).k==0)then B 1 else B (Xj (hdA h.w l[k])))=kk (Kl h l[k]):=by
   intro kk;rw[Xt];unfold Kl;rw[x.1];by_cases q:(hdA h.w l[k]).k=0
   .rw[Wm q,show((hdA h.w l[k]).k==0)=true by simpa using q,Wc]
   rw[Wj q,show((hdA h.w l[k]).k==0)=false by simpa using q,Wa]
  rw[We ab,Wc,Xf,Wb f,Xa,s _ g,Xa,XI,Xa];rw[e];have⟨J,f1,f2,K⟩:=XkR (N:=N) h hp i y z l k l[k] (Wb f) (Kl h l[k]) I.2 ab N 0 u ab ab G;rw[f1,Xa,Xg ab];have⟨v,g1,g2,g3⟩:=XkS hN hp i y z l D r s n (k+1) J ab ab ab;refine⟨v,g1,g2.trans f2,λj A=>?_⟩;rw[g3 j ab,K j A,Bool.or_assoc,Wl f,List.any_cons];unfold Xmj;simp
def XkT(hN:NB N){h:Wi}(hp:Uu h)(i:Int)(q:0<=i)(r:i<h.p.length)(l:List Int)(s:l.length<=4096)(e:∀a∈l,II h a)(f:∀a∈l,Qao N h a=some (hdA h.w a,0)):
 ∃u,QgV N h i l=some u/\u.length=h.c.W.toNat/\∀j:Nat,j<u.length->u.getD j false=Xmi h i l (j:Int):=by have x:=Xh.1 hp.conf;rw[QgV,Xb ab,show(0:Int)=((0:Nat):Int)from rfl];have⟨u,v,g,e3⟩:=XkS hN hp i q r l s e f N 0 (List.replicate h.c.W.toNat false) ab (by unfold NB at hN;omega) (by grind);rw[v,Xa];rw[Ua]at g e3;refine⟨u,rfl,g,λj y=>?_⟩;rw[e3 j ab,WX,XgI,show(List.replicate h.c.W.toNat false).getD j false=false by simp_all,Iz]
def wdP(h:Wi)(i:Int)(k:Nat):Int:=wd h.w (Xc h.c i 0+k)
def XqY(hN:NB N){h:Wi}(hb:HB h)(hp:Uu h){i:Int}(e:0<=i)(j:i<h.p.length){k:Nat}(q:(k:Int)<h.c.W):QfC N h i (k:Int)=some (wdP h i k):=by
 have f:=hp.pages;have r:=XE hp.conf (i:=i) e ab;rw[QfC,QgW,ZJ,hp.conf,Wj ac,Wm ab,Xa,Ye (by unfold BIG;have:=hb.1;omega),Xa,Xa];have g:Xc h.c i (k:Int)=Xc h.c i 0+k:=by unfold Xc;omega
 have hw:=hp.words;rw[g,Wm (by unfold inW Xc;omega)];rfl
def XgK(hN:NB N){h:Wi}(hb:HB h)(hp:Uu h){i:Int}(g:0<=i)(r:i<h.p.length)(u:List Bool)(s:u.length=h.c.W.toNat):∀(n k:Nat),k<=u.length->u.length-k<n ->
 ∃e,QcP N h i u n (k:Int)=some e/\((∃j,k<=j/\j<u.length/\u.getD j false=false/\wdP h i j≠0)->∃a,e=.ret a/\a≠0)/\((¬∃j,k<=j/\j<u.length/\u.getD j false=false/\wdP h i j≠0)->e=.nxt ())
 |0,k,_,v=>by omega
 |n+1,k,D,v=>by
  have x:=hp.pages;have E:=XE hp.conf (i:=i) g ab;rw[QcP];by_cases f:k<u.length;case neg=>
   grind
  rw[We ab,Wc,Xf,Wb f,Xa,XqY hN hb hp g r ab,Xa,Xg ab];have G:u.getD k false=u[k]:=by rw[Wk,Wb f];rfl
  have skip:(u[k]=true\/wdP h i k=0)->∃e,QcP N h i u n ((k+1:Nat):Int)=some e/\((∃j,k<=j/\j<u.length/\u.getD j false=false/\wdP h i j≠0)->∃a,e=.ret a/\a≠0)/\((¬∃j,k<=j/\j<u.length/\u.getD j false=false/\wdP h i j≠0)->e=.nxt ()):=by
   intro H;obtain⟨e,y,z,e3⟩:=XgK hN hb hp g r u s n (k+1) ab ab;refine⟨e,y,λ⟨j,a,b,c,d⟩=>z ⟨j,?_,b,c,d⟩,λq=>e3 λ⟨j,a,b⟩=>q ⟨j,ab,b⟩⟩;by_cases A:j=k
   .simp_all
   omega
  cases I:u[k]with
  |true=>simp_all
  |false=>
   by_cases B:wdP h i k=0
   .simp_all
   rw[show(wdP h i k != 0)=true by simp_all,Wc,QfN,Xa];refine⟨_,rfl,λ_=>⟨_,rfl,?_⟩,λq=>absurd ⟨k,ab,f,by simp_all,B⟩ q⟩;rw[Xe (n:=i*h.c.W) ab ab,Xe (n:=4096+i*h.c.W) ab ab,Xe ab ab,Xw ab ab];omega
end
section
variable {N:Nat}
def KR(L x:Int):Int:=if L<(if x<0 then 0 else x)then L else(if x<0 then 0 else x)
def XgL{v:List Int}{lo hi:Nat}(e:lo<=hi)(f:hi<=v.length):(((v.take lo)++(List.replicate (hi-lo) 0))++(v.drop (lo+(hi-lo)))).length=v.length:=by grind
def XkU{v:List Int}{e f:Nat}(g:e<=f)(h:f<=v.length)(j:Nat):(((v.take e)++(List.replicate (f-e) 0))++(v.drop (e+(f-e)))).getD j 0=if e<=j/\j<f then 0 else v.getD j 0:=by grind
def Xii(hN:NB N){h:Wi}(ht:HT h)(hp:Uu h)(i:Int)(B:0<=i)(G:i<h.p.length)(f:List Int×Int)(H:f.1.length<=4096)(r:∀a∈f.1,II h a)(u:∀a∈f.1,Qao N h a=some (hdA h.w a,0)):∀(n k:Nat) (v:List Int),k<=f.1.length->f.1.length-k<n->v.length<=1000 ->
 ∃y,Qd7 N h (Xc h.c i 0,0) f n (k:Int) v=some y/\y.length=v.length/\∀j:Nat,j<v.length->y.getD j 0=if(f.1.drop k).any (Xmj h i (j:Int))=true then 0 else v.getD j 0
 |0,k,v,_,I,_=>by omega
 |n+1,k,v,T,I,J=>by
  have K:=Xh.1 hp.conf;have L:=hp.pages;have U:=XE hp.conf (i:=i) B ab;have M:1000000<N:=by unfold NB at hN;omega
  rw[Qd7];by_cases s:k<f.1.length;case neg=>
   rw[Wg ab,Wa,WY ab]
   exact⟨v,rfl,rfl,λj D=>ac⟩
  have g:=Ww s;have V:=(r _ g).rng;have Y:=XgJ h f.1[k];have z:=XA h.w f.1[k];have e:∀kk:Int->Option (List Int),(jn kk λE=>bif ((hdA h.w f.1[k]).k != 0)then(bnd (some (Xj (hdA h.w f.1[k]))) λO=>E O)else E 1)=kk (Kl h f.1[k]):=by
   intro kk;rw[Xt];unfold Kl;rw[z.1];by_cases q:(hdA h.w f.1[k]).k=0
   .rw[Wm q,show((hdA h.w f.1[k]).k != 0)=false by simpa using q,Wa]
   rw[Wj q,show((hdA h.w f.1[k]).k != 0)=true by simpa using q,Wc,Xa]
  rw[We (show(k:Int)<(f.1.length:Int) by omega),Wc,Xf,Wb s,Xa,Xcm hN ht ((r _ g).tu hp),u _ g,Xa,YL ab];rw[e];have Z:Xc h.c i 0=4096+i*h.c.W:=by unfold Xc;omega
  have w0:wI f.1[k]=f.1[k]:=Xe ab ab;have w1:wI (Xc h.c i 0)=Xc h.c i 0:=Xe ab ab;have w2:wI (f.1[k]-Xc h.c i 0)=f.1[k]-Xc h.c i 0:=Xe ab ab;have R:wI (f.1[k]-Xc h.c i 0+Kl h f.1[k])=f.1[k]-Xc h.c i 0+Kl h f.1[k]:=Xe ab ab;simp only[w0,w1,w2,R,Xg (show k<=140737488355328 by omega)];rw[Xb ab,Xb ab];have cl:∀x:Int,(if(v.length:Int)<(if x<0 then 0 else x)then(v.length:Int)else(if x<0 then 0 else x))=KR v.length x:=λ_=>rfl;have c1:∀x:Int,0<=KR v.length x/\KR v.length x<=v.length:=by intro x;unfold KR;split<;>split<;>omega
  generalize S:f.1[k]-Xc h.c i 0=A at *;have a1:=c1 A;have a2:=c1 (A+Kl h f.1[k]);have a3:KR v.length A<=KR v.length (A+Kl h f.1[k]):=by
   unfold KR;repeat' split
   all_goals omega
  rw[Xb ab];obtain⟨y,g1,g2,g3⟩:=Xii hN ht hp i B G f H r u n (k+1) _ ab ab (by rw[XgL (v:=v) (lo:=(KR v.length A).toNat) (hi:=(KR v.length (A+Kl h f.1[k])).toNat) ab ab];exact J);refine⟨y,g1,by rw[g2,XgL ab ab],λj D=>?_⟩;rw[g3 j (by rw[XgL ab ab];exact D),XkU ab ab,Wl s,List.any_cons];have ec:Xmj h i (j:Int) f.1[k]=decide ((KR v.length A).toNat<=j/\j<(KR v.length (A+Kl h f.1[k])).toNat):=by
   unfold Xmj;rw[S];refine decide_eq_decide.2 ?_;unfold KR;repeat' split
   all_goals omega
  grind
def XqZ(l:List Int)(f:l.length<=1000000)(hN:1000000<N):Qbn N l=some (YS (λx=>x != 0) l):=by
 exact JP (p:=λx:Int=>x != 0) f hN (λn k x e=>by
  have g:=Xy e
  rw[Qau,Xi g,Wc,Xf,e,Xa,Qg2,Xa,Xg ab]) (λn=>by rw[Qau,Xz,Wa])
def Xop(hN:NB N){h:Wi}(ht:HT h)(ep:Qaa N h=some true){i:Int}(s:0<=i)(y:i<h.p.length):
 ∃a,Qeg N h i=some a/\∃b,Qgs N h i=some (b,a != 0):=by
 have H:1000000<N:=by unfold NB at hN;omega
 have hb:=ht.hb;have hp:=Xp hN hb ep;have Y:=Xh.1 hp.conf;have Z:=hp.pages;have hm:=XE hp.conf (i:=i) s ab;have ad:Xc h.c i 0=4096+i*h.c.W:=by unfold Xc;omega
 have hw:=hp.words;have⟨pw,I⟩:∃pw:Nat,h.c.W=(pw:Int):=⟨h.c.W.toNat,ab⟩
 have z:Ym h.w (Xc h.c i 0) pw:=by unfold Ym;omega
 have erd:Qdb N h.w (Xc h.c i 0) h.c.W=some ((h.w.drop (ix (Xc h.c i 0))).take pw,0):=by rw[I,XcZ (by unfold BIG;omega) N _ pw ab,Wm z]
 have eadr:Qbx N h.c i 0=some (Xc h.c i 0,0):=by rw[ZJ,hp.conf,Wj ac,Wm ab]
 have J:Xc h.c i 0<=18446744073709551615:=ab;have⟨hd,eh,K,L⟩:=Xgq N (h:=h) hp.first N i s y hb.2 ab;have A:QeX N h i=some hd:=by rw[QeX,eh,Xa]
 have⟨r,T,hr,U⟩:=QfL hN hb hp hd K L;have⟨⟨B,D,_⟩,_,_⟩:=hr;have⟨u,eu,M,O⟩:=XkT hN hp i s y r.1 ab B D;have⟨e,e1,V,e3⟩:=XgK hN hb hp s y u M N 0 ab ab;rw[Qeg,A,Xa,T,Xa,eu,Xa,show(0:Int)=((0:Nat):Int)from rfl,e1,Xa];rw[Qgs,V9,eadr,Xa,Xon ab J];rw[erd,Xa,Xoo hN hb hp s y,A,Xa,Xeb hN ht,T,Xa];have hvl:((h.w.drop (ix (Xc h.c i 0))).take pw).length=pw:=by rw[Wu,WC];unfold ix;unfold Ym at z;omega
 have⟨v,g1,g2,g3⟩:=Xii hN ht hp i s y r ab B D N 0 ((h.w.drop (ix (Xc h.c i 0))).take pw) ab ab ab;have R:Qd7 N h (Xc h.c i 0,0) r N 0 ((h.w.drop (ix (Xc h.c i 0))).take pw)=some v:=g1;have hul:u.length=pw:=by clear V e3;omega
 rw[R,Xa,XqZ v ab H,Xa];have E:decide (YS (λx=>x != 0) v>=0)=v.any (λx=>x != 0):=Ky _ v;rw[E];have f:∀j,j<pw->((h.w.drop (ix (Xc h.c i 0))).take pw).getD j 0=wdP h i j:=by intro j G;unfold wdP wd ix;rw[Wk,Us,Wm G,UO,Wk];congr 2;omega
 have iff1:v.any (λx=>x != 0)=true↔∃j,0<=j/\j<u.length/\u.getD j false=false/\wdP h i j≠0:=by
  rw[Oq];constructor
  .rintro⟨x,hx,hx0⟩;obtain⟨j,G,rfl⟩:=Wt hx;have g:j<pw:=ab;have:=g3 j ab;rw[Wk,Wb G,Ii,f j g,WX,←XgI]at this;grind
  rintro⟨j,_,G,hc,hz⟩;have g:j<v.length:=ab;refine⟨v[j],Ww g,?_⟩;have:=g3 j ab;rw[Wk,Wb g,Ii,f j ab,WX,←XgI,←O j G,hc,Wj ac]at this;grind
 by_cases q:∃j,0<=j/\j<u.length/\u.getD j false=false/\wdP h i j≠0
 .obtain⟨a,rfl,ha⟩:=V q;rw[Xs,iff1.2 q];simp_all
 have S:=e3 q;subst S;rw[Xm,show v.any (λx=>x != 0)=false by rw[←I7];exactλhh=>q (iff1.1 hh)];simp
end
def VA{α β:Type}{L:Nat}{F:Nat->Int->Option (Ex α β)}{p:Nat->Prop}{Q:α->Prop}{u:β}(f:∀n k,k<L->p k->∃a,F (n+1) (k:Int)=some (.ret a)/\Q a)(q:∀n k,k<L->¬p k->F (n+1) (k:Int)=F n ((k+1:Nat):Int))(g:∀n,F (n+1) (L:Int)=some (.nxt u)):∀(n k:Nat),k<=L->L-k<n ->
 ∃e,F n (k:Int)=some e/\((∃j,k<=j/\j<L/\p j)->∃a,e=.ret a/\Q a)/\((¬∃j,k<=j/\j<L/\p j)->e=.nxt u)
 |0,k,_,s=>by omega
 |n+1,k,z,s=>by
  by_cases h:k<L;case neg=>
   grind
  by_cases hp:p k
  .have⟨a,e,v⟩:=f n k h hp;exact⟨_,e,λ_=>⟨a,rfl,v⟩,λr=>absurd ⟨k,Uh _,h,hp⟩ r⟩
  have⟨e,x,y,e3⟩:=VA f q g n (k+1) ab ab;refine⟨e,(q n k h hp).trans x,λ⟨j,a,b,c⟩=>y ⟨j,?_,b,c⟩,λr=>e3 λ⟨j,a,b⟩=>r ⟨j,ab,b⟩⟩;grind
section
variable {N:Nat}
def Xoq(l:List Int)(x:Int)(p:l.length<=1000000)(g:l.Pairwise (·<·)):∀(n e hi:Nat),e<=hi->hi<=l.length->hi-e<n->(∀i(h:i<l.length),i<e->l[i]<x)->(∀i(h:i<l.length),hi<=i->x<=l[i]) ->
 ∃k:Nat,Qaq N l x n (e:Int) (hi:Int)=some (k:Int)/\k<=l.length/\(∀i(h:i<l.length),i<k->l[i]<x)/\(∀i(h:i<l.length),k<=i->x<=l[i])
 |0,e,hi,_,_,r,_,_=>by omega
 |n+1,e,hi,B,s,r,u,hb=>by
  rw[Qaq];by_cases v:e<hi;case neg=>
   grind
  have f:wI (Yz .u64 (wU (wI ((e:Int)+hi))) 1)=(((e+hi) / 2:Nat):Int):=by rw[Xe (n:=(e:Int)+hi) ab ab,Xw ab ab,show Yz .u64 ((e:Int)+hi) 1=((e:Int)+hi) / 2 from Y3 _ 1 ab ab,Xe ab ab];omega
  have y:(e+hi) / 2<l.length:=ab;have z:e<=(e+hi) / 2/\(e+hi) / 2<hi:=ab;generalize (e+hi) / 2=m at *;rw[We ab,Wc,f,Xf,Wb y,Xa,Qf9,QeE,Xa,show(l[m] != l[m])=false by simp,Wa,Xa];have A:=W7.1 g;by_cases q:l[m]<x
  .rw[We q,Wc,Xg ab];refine Xoq l x p g n (m+1) hi ab s ab (λi h j=>?_) hb;grind
  rw[Wg q,Wa];refine Xoq l x p g n e m ab ab ab u (λi h j=>?_);grind
def Xor(l:List Int)(x:Int)(y:l.length<=1000000)(hN:1000000<N)(s:l.Pairwise (·<·)):∃k:Int,Qax N l x=some (k,l.contains x):=by
 have⟨k,e,A,u,z⟩:=Xoq (N:=N) l x y s N 0 l.length ab ab ab (λi h g=>ab) (λi h g=>ab);rw[Qax,show(0:Int)=((0:Nat):Int)from rfl,e,Xa];by_cases f:k<l.length
 .rw[We ab,Wc,Xf,Wb f,Xa];by_cases v:l[k]=x
  .refine⟨k,?_⟩;grind
  refine⟨k,?_⟩;rw[show(l[k]==x)=false by simpa using v,Wa,Xa,Qdv,Xa,show(l[k] != l[k])=false by simp,Wa];have:l.contains x=false:=by
   rw[←I7,UN];intro j;obtain⟨i,g,rfl⟩:=Wt j;have p:=W7.1 s;by_cases q:i<k
   .have:=u i g q;omega
   have a:=z k f (Uh _);by_cases r:i=k
   .subst r;exact v rfl
   have:=p k i f g ab;omega
  grind
 refine⟨k,?_⟩;have:l.contains x=false:=by rw[←I7,UN];intro j;obtain⟨i,g,rfl⟩:=Wt j;have:=u i g ab;omega
 grind
def OT.asc{h:Wi}{l:List Int}(o:OT N h l):l.Pairwise (·<·):=
 o.pw.imp λ{a b} e=>by have:=(XA h.w a).2;omega
def Xa1{d:Ws}:∀{k:Nat} {i x:Int},i<=x->x<i+k->Kk d x=true->x∈X2 d k i
 |0,i,x,e,f,_=>by omega
 |k+1,i,x,e,f,g=>by
  simp only[X2,Wr];by_cases h:x=i
  .simp_all
  right;exact Xa1 ab ab g
def Vg{d:Ws}(e:Xx d=true){x:Int}:x∈XL d↔0<=x/\x<d.n/\Kk d x=true:=by
 unfold XL;rw[Wm e];constructor
 .intro h;have:=KZ h;grind
 intro h;exact Xa1 ab ab h.2.2
end
section
variable {N:Nat}
def XsN(h:Wi)(l:List Int)(a i:Int):Prop:=wd h.w (a+1+i)≠0/\l.contains (wd h.w (a+1+i))=false
def XaW(h:Wi)(l:List Int)(a:Int):Prop:=∃i,i∈XL (hdA h.w a)/\XsN h l a i
def ZL(h:Wi)(a:Int):Xx (hdA h.w a)=true:=Z0 _
def Xq0{h:Wi}(hp:Uu h){a:Int}(e:II h a){i:Int}(f:0<=i)(g:i<(hdA h.w a).n):4096<=a+1+i/\a+1+i<4096+h.w.length/\a+1+i<=8192/\(hdA h.w a).n<=255:=by have:=KD hp e;have:=e.rng;have:=XA h.w a;have j:=Xh.1 hp.conf;have:=XE hp.conf (i:=0) ab ab;have:=hp.words;unfold szA at *;omega
def Xt6(hN:NB N){h:Wi}(ht:HT h)(hp:Uu h)(f:List Int×Int)(O:f.1.length<=1000000)(R:f.1.Pairwise (·<·))(v:Int){a:Int}(J:II h a):
 ∃e,QaO N h f v a (XL (hdA h.w a)) N 0=some e/\(XaW h f.1 a->∃b,e=.ret b/\b≠0)/\(¬XaW h f.1 a->e=.nxt ()):=by
 have z:1000000<N:=by unfold NB at hN;omega
 have hb:=ht.hb;have A:=ZL h a;have B:=XB A;have S:(XL (hdA h.w a)).length<=255:=by unfold XL;rw[Wm A];have:=Vu (d:=hdA h.w a) (k:=(hdA h.w a).n.toNat) (i:=0);omega
 have x:∀k(g:k<(XL (hdA h.w a)).length),0<=(XL (hdA h.w a))[k]/\(XL (hdA h.w a))[k]<(hdA h.w a).n:=λk g=>by have:=(Vg A).1 (Ww g);omega
 generalize D:XL (hdA h.w a)=ps at *;have Z:=J.rng;have step:∀n k(g:k<ps.length),QaO N h f v a ps (n+1) (k:Int)=bif (wd h.w (a+1+ps[k]) != 0)then(bif (!f.1.contains (wd h.w (a+1+ps[k])))then some (.ret (a+1+ps[k]))else QaO N h f v a ps n ((k+1:Nat):Int))else QaO N h f v a ps n ((k+1:Nat):Int):=by
  intro n k g;have K:=x k g;have hf:=Xq0 hp J K.1 K.2;have T:(h.w.length:Int)<=100000:=by have:=hb.1;omega
  have w1:wU (wU (a+1)+wU ps[k])=a+1+ps[k]:=by rw[Xw (n:=a+1) ab ab,Xw (n:=ps[k]) ab ab,Xw ab ab]
  rw[QaO,We ab,Wc,Xf,Wb g,Xa,w1,Xif ab ab,Ye (by unfold BIG;omega),Wm (by unfold inW;omega),Xa];dsimp only;obtain⟨q,eq⟩:=Xor (N:=N) f.1 (h.w.getD (ix (a+1+ps[k])) 0) O z R;rw[eq,Xa,Xg ab];rfl
 have key:=VA (L:=ps.length) (F:=QaO N h f v a ps) (p:=λk=>∃g:k<ps.length,XsN h f.1 a ps[k]) (Q:=λb=>b≠0) (u:=())
  (λn k g y=>by
   obtain⟨U,E,G⟩:=y
   refine⟨a+1+ps[k],?_,?_⟩
   .rw[step n k g,show(wd h.w (a+1+ps[k]) != 0)=true by simpa using E,Wc,G];rfl
   grind)
  (λn k g H=>by
   rw[step n k g]
   by_cases E:wd h.w (a+1+ps[k])=0
   .simp_all
   .rw[show(wd h.w (a+1+ps[k]) != 0)=true by simp_all,Wc]
    cases G:f.1.contains (wd h.w (a+1+ps[k]))with
    |true=>rfl
    |false=>exact absurd ⟨g,E,G⟩ H)
  (λn=>by rw[QaO,Wg ab,Wa]) N 0 ab ab
 have⟨e,V,W,e3⟩:=key;refine⟨e,V,λr=>?_,λr=>?_⟩
 .have⟨i,M,s⟩:=r;rw[D]at M;obtain⟨j,I,rfl⟩:=Wt M;exact W ⟨j,IV _,I,I,s⟩
 refine e3 λ⟨j,_,I,Y,s⟩=>r ⟨ps[j],?_,s⟩;simp_all
def XrS(hN:NB N){h:Wi}(ht:HT h)(hp:Uu h)(f:List Int×Int)(u:f.1.length<=1000000)(v:f.1.Pairwise (·<·))(g:∀a∈f.1,II h a)(p:∀a∈f.1,Qao N h a=some (hdA h.w a,0)):∀(n k:Nat),k<=f.1.length->f.1.length-k<n ->
 ∃r,Qct N h f n (k:Int)=some r/\((∃a∈f.1.drop k,XaW h f.1 a)->r≠0)/\((¬∃a∈f.1.drop k,XaW h f.1 a)->r=0)
 |0,k,_,x=>by omega
 |n+1,k,A,x=>by
  have y:1000000<N:=by unfold NB at hN;omega
  rw[Qct];by_cases j:k<f.1.length;case neg=>
   grind
  have q:=Ww j;rw[We ab,Wc,Xf,Wb j,Xa,Xcm hN ht ((g _ q).tu hp),p _ q,Xa,Xfz ab _ (ZL h _),Xa];have⟨e,z,B,e3⟩:=Xt6 hN ht hp f u v (k:Int) (g _ q);rw[z,Xa,Wl j];by_cases s:XaW h f.1 f.1[k]
  .grind[Xs]
  have:=e3 s;subst this;rw[Xm,Xg ab];have⟨r,D,E,r3⟩:=XrS hN ht hp f u v g p n (k+1) ab ab;grind
def Xcn(hN:NB N){h:Wi}(hb:HB h)(ep:Qaa N h=some true){a:Int}(f:II h a)(e:Qao N h a=some (hdA h.w a,0))(g:(hdA h.w a).k≠0):QbM N h a=some (hdA h.w a,0):=by have:=f.rng;rw[QbM,ep,Xa,Wh,Wa,show(a==0)=false by simp;omega,Wa,e,Xa];grind
def Xco(hN:NB N){h:Wi}(hb:HB h)(ep:Qaa N h=some true){a:Int}(f:II h a)(g:Qao N h a=some (hdA h.w a,0))(q:(hdA h.w a).k≠0):∃l,Qdc N h a=some (l,0)/\(l.length:Int)=(hdA h.w a).n/\∀(j:Nat) (r:j<l.length),l[j]=wd h.w (a+1+j):=by
 have hp:=Xp hN hb ep;have s:=XB (ZL h a);have u:=f.rng;have e:=KD hp f;have v:=XE hp.conf (i:=0) ab (by have:=Xh.1 hp.conf;omega);have hw:=hp.words;unfold szA at e;have⟨m,p⟩:∃m:Nat,(hdA h.w a).n=(m:Int):=⟨(hdA h.w a).n.toNat,ab⟩
 rw[Qdc,Xcn hN hb ep f g q,Xa];rw[show((0:Int) != 0)=false from rfl,Wa,Xw (n:=a+1) ab ab,p,XcZ (by unfold BIG;omega) N _ m ab,Wm (by unfold Ym;omega),Xa];refine⟨_,rfl,?_,λj r=>?_⟩
 .rw[Wu,WC];unfold ix;omega
 rw[IC,IZ];unfold wd;rw[Wk,show ix (a+1+(j:Int))=ix (a+1)+j by unfold ix;omega,Wb (by grind)];rfl
end
section
variable {N:Nat}
def Xt7(hN:NB N){h:Wi}(hb:HB h)(hp:Uu h)(g q:List Int×Int)(V:g.1.length<=1000000)(r:Int){a:Int}(z:Xd g.1 r=some a)(W:II h a)(Y:(q.1.length:Int)=(hdA h.w a).n)(K:∀(j:Nat) (M:j<q.1.length),q.1[j]=wd h.w (a+1+j)):
 ∃e,Qav N h g q r (hdA h.w a,0) N 0=some e/\(XaW h g.1 a->∃f,e=.ret f/\f.Fault≠0)/\(¬XaW h g.1 a->e=.nxt ()):=by
 have O:1000000<N:=by unfold NB at hN;omega
 have A:=ZL h a;have B:=XB A;have step:∀n k(s:k<q.1.length),Qav N h g q r (hdA h.w a,0) (n+1) (k:Int)=bif Kk (hdA h.w a) (k:Int)then(bif (wd h.w (a+1+k) != 0)then(bif (!g.1.contains (wd h.w (a+1+k)))then(bnd (Qb9 N h.c (wU ((wU (a+1))+(wU (k:Int))))) λD=>some (.ret (Un.mk 6 D.1 (wU ((wU (a+1))+(wU (k:Int)))))))else Qav N h g q r (hdA h.w a,0) n ((k+1:Nat):Int))else Qav N h g q r (hdA h.w a,0) n ((k+1:Nat):Int))else Qav N h g q r (hdA h.w a,0) n ((k+1:Nat):Int):=by intro n k s;rw[Qav,Xb ab,We ab,Wc,KY,Xa,Xf,Wb s,K k s,Xg ab];simp only[Xa,X0 (wd h.w (a+1+(k:Int))) (show g.1.length<=1000000000 by omega) (show g.1.length<N by omega),z]
 have key:=VA (L:=q.1.length) (F:=Qav N h g q r (hdA h.w a,0)) (p:=λk=>Kk (hdA h.w a) (k:Int)=true/\XsN h g.1 a (k:Int)) (Q:=λf=>f.Fault≠0) (u:=())
  (λn k s y=>by
   obtain⟨E,G,H⟩:=y
   rw[step n k s,E,Wc,show(wd h.w (a+1+(k:Int)) != 0)=true by simpa using G,Wc,H,Ug,Wc,KV,Xa]
   simp)
  (λn k s I=>by
   rw[step n k s]
   cases E:Kk (hdA h.w a) (k:Int)with
   |false=>rfl
   |true=>
   rw[Wc]
   by_cases G:wd h.w (a+1+(k:Int))=0
   .simp_all
   .rw[show(wd h.w (a+1+(k:Int)) != 0)=true by simp_all,Wc]
    cases H:g.1.contains (wd h.w (a+1+(k:Int)))with
    |true=>rfl
    |false=>exact absurd ⟨E,G,H⟩ I)
  (λn=>by rw[Qav,Xb ab,Wg ab,Wa]) N 0 ab ab
 have⟨e,R,S,e3⟩:=key;refine⟨e,R,λv=>?_,λv=>?_⟩
 .have⟨i,T,x⟩:=v;have U:=(Vg A).1 T;obtain⟨j,rfl⟩:∃j:Nat,i=(j:Int):=⟨i.toNat,ab⟩
  exact S ⟨j,IV _,ab,U.2.2,x⟩
 exact e3 λ⟨j,_,M,J,x⟩=>v ⟨(j:Int),(Vg A).2 ⟨ab,ab,J⟩,x⟩
def Xos(hN:NB N){h:Wi}(hb:HB h)(ep:Qaa N h=some true)(g:List Int×Int)(x:g.1.length<=1000000)(j:∀a∈g.1,II h a)(p:∀a∈g.1,Qao N h a=some (hdA h.w a,0))(q:∀a∈g.1,(hdA h.w a).k≠0):∀(n k:Nat),k<=g.1.length->g.1.length-k<n ->
 ∃e,Qbv N h g n (k:Int)=some e/\((∃a∈g.1.drop k,XaW h g.1 a)->∃f,e=.ret f/\f.Fault≠0)/\((¬∃a∈g.1.drop k,XaW h g.1 a)->e=.nxt ())
 |0,k,_,z=>by omega
 |n+1,k,D,z=>by
  have hp:=Xp hN hb ep;rw[Qbv];by_cases s:k<g.1.length;case neg=>
   grind
  have u:=Ww s;have y:Xd g.1 (k:Int)=some g.1[k]:=by rw[Xf,Wb s]
  have⟨l,f1,f2,A⟩:=Xco hN hb ep (j _ u) (p _ u) (q _ u);rw[We ab,Wc,y,Xa,Xcn hN hb ep (j _ u) (p _ u) (q _ u),Xa,Xa,f1,Xa];have⟨e,B,E,e3⟩:=Xt7 hN hb hp g (l,0) x (k:Int) y (j _ u) f2 A;rw[B,Xa,Wl s];by_cases v:XaW h g.1 g.1[k]
  .grind[Xs]
  have:=e3 v;subst this;rw[Xm,Xg ab];have⟨r,G,H,r3⟩:=Xos hN hb ep g x j p q n (k+1) ab ab;grind
def K1(hN:NB N){h:Wi}(hb:HB h):∃y,Qal N h=some y/\y.1.length<=4096/\y.1.Pairwise (·<·)/\(∀a∈y.1,II h a)/\(∀a∈y.1,Qao N h a=some (hdA h.w a,0))/\(∀a∈y.1,(hdA h.w a).k≠0):=by have⟨y,e,f,_,_⟩:=Kw hN hb;refine⟨y,e,f.len,f.obj.asc,f.obj.at_,f.obj.ev,?_⟩;have⟨r,p,g,_,_⟩:=J9 hN hb;have j:=g.len;rw[Qal,p,Xa,show(0:Int)=((0:Nat):Int)from rfl,XaM r ab g.obj.ev N 0 [] ab (by unfold NB at hN;omega) ac,Xa,WX,W8]at e;cases e;intro a q;have:=(WV.1 q).2;simp_all[YY,fnd]
def zF:Un:=⟨0,0,0⟩
def Xq1(P:Prop)(o:Option Un):Prop:=∃f,o=some f/\(P->f.Fault≠0)/\(¬P->f=zF)
def Xij(hN:NB N){h:Wi}(ht:HT h)(ep:Qaa N h=some true){y:List Int×Int}(z:Qal N h=some y):Xq1 (∃a∈y.1,XaW h y.1 a) (Qfu N h)/\Xq1 (∃a∈y.1,XaW h y.1 a) (Qdy N h):=by
 have hb:=ht.hb;have hp:=Xp hN hb ep;have⟨J,u,K,G,v,x,A⟩:=K1 hN hb;rw[z]at u;cases u;have D:y.1.length<N:=by unfold NB at hN;omega
 constructor
 .have⟨r,B,E,e3⟩:=XrS hN ht hp y ab G v x N 0 ab ab;rw[Qfu,JD hN ht,z,Xa];have j:Qct N h y N 0=some r:=B;rw[j,Xa];by_cases g:∃a∈y.1,XaW h y.1 a
  .rw[show(r==0)=false by simp_all,Wa];have:∃q,Qco N h.c r=some q:=by
    rw[Qco,Jf,Xa];cases H:XR h.c with
    |false=>simp
    |true=>
     have:=Xh.1 H;rw[Wh,Wa];cases decide (r<4096)
     .rw[Wa];cases decide (wU (r-4096)>=wU (wI (h.c.W*h.c.p)))
      .rw[Wa,Xb ab,Xb ab];exact⟨_,rfl⟩
      exact⟨_,rfl⟩
     simp
   have⟨q,eq⟩:=this;rw[eq,Xa];exact⟨_,rfl,λ_=>ac,λs=>absurd g s⟩
  rw[e3 g];exact⟨_,rfl,λs=>absurd s g,λ_=>rfl⟩
 have⟨e,B,E,e3⟩:=Xos hN hb ep y ab v x A N 0 ab ab;rw[Qdy,z,Xa];have j:Qbv N h y N 0=some e:=B;rw[j,Xa];by_cases g:∃a∈y.1,XaW h y.1 a
 .obtain⟨f,rfl,I⟩:=E g;rw[Xs];exact⟨_,rfl,λ_=>I,λs=>absurd g s⟩
 rw[e3 g,Xm];exact⟨_,rfl,λs=>absurd s g,λ_=>rfl⟩
end
section
variable {N:Nat}
def XgM(hN:NB N){h:Wi}(ht:HT h)(ep:Qaa N h=some true){i:Nat}(T:i<h.p.length):
 ∃f,Qeh N h (i:Int)=some f/\((f.Fault≠0/\∀n,∃v,Qa6 N h (n+1) (i:Int)=some (.ret v)/\v.Fault≠0)\/(f.Fault=0/\∀n,Qa6 N h (n+1) (i:Int)=Qa6 N h n ((i+1:Nat):Int))):=by
 have hb:=ht.hb;have hp:=Xp hN hb ep;have J:h.p.length<=100000:=hb.2;have z:Xd h.p (i:Int)=some (pg h.p (i:Int)):=Xo ab ab;have g:∀n,Qa6 N h (n+1) (i:Int)=jn (λ(_:Unit)=>
  bnd (Qe4 N h (i:Int)) λA=>
  bif (A.2 != 0)then some (.ret (Un.mk 3 (i:Int) 0))
  else bnd (Qf1 N h (i:Int) A.1) λB=>
  bif B.2 then some (.ret (Un.mk 5 (i:Int) B.1))
  else bnd (Qgs N h (i:Int)) λD=>
  bif D.2 then some (.ret (Un.mk 4 (i:Int) D.1))
  else Qa6 N h n ((i+1:Nat):Int)) λE=>
  bif ((pg h.p (i:Int)).k != 0)then(bif ((pg h.p (i:Int)).s != h.s)then some (.ret (Un.mk 2 (i:Int) 0))
   else E ())
  else E ():=by
  intro n
  rw[Qa6,We ab,Wc,z,Xa,Xg ab]
 simp only[g,Xt];rw[Qeh,Xt,z];simp only[Xa];by_cases e:(pg h.p (i:Int)).k≠0/\(pg h.p (i:Int)).s≠h.s
 .rw[show((pg h.p (i:Int)).k != 0)=true by simpa using e.1,show((pg h.p (i:Int)).s != h.s)=true by simpa using e.2];exact⟨_,rfl,.inl ⟨by show(2:Int)≠0;omega,λn=>⟨_,rfl,by show(2:Int)≠0;omega⟩⟩⟩
 have K:∀{α:Type} (x y:α),(bif ((pg h.p (i:Int)).k != 0)then(bif ((pg h.p (i:Int)).s != h.s)then x else y)else y)=y:=by
  intro α x y;by_cases k0:(pg h.p (i:Int)).k=0
  .rw[show((pg h.p (i:Int)).k != 0)=false by simpa using k0,Wa]
  have:(pg h.p (i:Int)).s=h.s:=Classical.byContradiction λL=>e ⟨k0,L⟩;rw[show((pg h.p (i:Int)).s != h.s)=false by simpa using this,Wa,Bool.cond_self]
 simp only[K];have⟨r,M,O,G⟩:=QfL hN hb hp (i:Int) ab ab;simp only[Xeb hN ht,M,Xa];by_cases H:r.2=0;case neg=>
  rw[show(r.2 != 0)=true by simpa using H]
  exact⟨_,rfl,.inl ⟨by show(3:Int)≠0;omega,λn=>⟨_,rfl,by show(3:Int)≠0;omega⟩⟩⟩
 rw[show(r.2 != 0)=false by simpa using H];have⟨⟨j,q,_⟩,_,_⟩:=O;have⟨a,R,b,eb⟩:=Xmh hN ht hp (i:=(i:Int)) ab ab r.1 ab j q;simp only[R,eb,Xa];by_cases I:a=0;case neg=>
  rw[show(a != 0)=true by simpa using I]
  exact⟨_,rfl,.inl ⟨by show(5:Int)≠0;omega,λn=>⟨_,rfl,by show(5:Int)≠0;omega⟩⟩⟩
 rw[show(a != 0)=false by simpa using I];have⟨d,S,U,u⟩:=Xop hN ht ep (i:=(i:Int)) ab ab;simp only[S,u,Xa];by_cases hd:d=0;case neg=>
  rw[show(d != 0)=true by simpa using hd]
  exact⟨_,rfl,.inl ⟨by show(4:Int)≠0;omega,λn=>⟨_,rfl,by show(4:Int)≠0;omega⟩⟩⟩
 simp_all
def Xot(hN:NB N){h:Wi}(ht:HT h)(ep:Qaa N h=some true):∃P:Prop,Xq1 P (QgD N h)/\∃e,Qbd N h N 0=some e/\(P->∃f,e=.ret f/\f.Fault≠0)/\(¬P->e=.nxt ()):=by
 have hb:=ht.hb;have E:h.p.length<=100000:=hb.2;have A:h.p.length<N:=by unfold NB at hN;omega
 let p:Nat->Prop:=λk=>∃f,Qeh N h (k:Int)=some f/\f.Fault≠0;refine⟨∃j,0<=j/\j<h.p.length/\p j,?_,?_⟩
 .have key:=VA (L:=h.p.length) (F:=Qa6 N h) (p:=p) (Q:=λ f=>f.Fault≠0) (u:=())
   (λn k r g=>by
    obtain⟨f,B,x⟩:=g
    obtain⟨f2,q,s⟩:=XgM hN ht ep r
    simp_all)
   (λn k r v=>by
    obtain⟨f2,q,s⟩:=XgM hN ht ep r
    grind)
   (λn=>by rw[Qa6,Wg ab,Wa]) N 0 ab ab
  have⟨e,G,I,e3⟩:=key;have y:Qa6 N h N 0=some e:=G;unfold Xq1;rw[QgD,y,Xa];by_cases D:∃j,0<=j/\j<h.p.length/\p j
  .grind[Xs]
  rw[e3 D,Xm];exact⟨_,rfl,λz=>absurd z D,λ_=>rfl⟩
 have key:=VA (L:=h.p.length) (F:=Qbd N h) (p:=p) (Q:=λ f=>f.Fault≠0) (u:=())
  (λn k r g=>by
   have⟨f,B,x⟩:=g
   rw[Qbd,We ab,Wc,B,Xa,show(f.Fault != 0)=true by simpa using x]
   exact⟨f,rfl,x⟩)
  (λn k r v=>by
   have⟨f2,q,s⟩:=XgM hN ht ep r
   have H:f2.Fault=0:=Classical.byContradiction λz=>v ⟨f2,q,z⟩
   rw[Qbd,We ab,Wc,q,Xa,show(f2.Fault != 0)=false by simpa using H,Wa,Xg ab])
  (λn=>by rw[Qbd,Wg ab,Wa]) N 0 ab ab
 omega
def XgN{f:Un}(e:f.Fault≠0):((f.Fault==0)&&((f.Page==0)&&(f.Addr==0)))=false:=by simp_all
def Xec(hN:NB N){h:Wi}(ht:HT h):QfJ N h=Qbl N h:=by
 have hb:=ht.hb;have u:h.p.length<=100000:=hb.2;rw[QfJ,Qbl,Qhe,Qe8,X8 u (by unfold NB at hN;omega)];have⟨b,eb⟩:=ZK (N:=N) hN hb;simp only[eb,Xa];cases b with
 |false=>rfl
 |true=>
 rw[Wh,Wa,Wa];have⟨P,⟨f,E,v,x⟩,e,G,H,e3⟩:=Xot hN ht eb;have⟨y,I,_⟩:=K1 hN hb;have⟨⟨g,eg,z,A⟩,⟨J,B,j,q⟩⟩:=Xij hN ht eb I;simp only[E,G,Xa];by_cases s:P
 .obtain⟨M,rfl,D⟩:=H s;simp only[Xs,XgN (v s),Ug,Wc,Xa,XgN D]
 rw[e3 s,x s];simp only[Xm,eg,B,Xa,zF,show((0:Int)==0)=true from rfl,Bool.and_self,Wh,Wa];by_cases r:∃a∈y.1,XaW h y.1 a
 .simp only[XgN (z r),Ug,Wc,Xa,show(J.Fault != 0)=true by simpa using j r,XgN (j r)]
 rw[A r,q r];simp only[zF,show((0:Int)==0)=true from rfl,show((0:Int) != 0)=false from rfl,Bool.and_self,Wh,Wa];have K:∀(n:Nat) (c i:Int),Qcq N h n c i=Qa4 N h n c i:=by
  intro n;induction n with
  |zero=>intro c i;rw[Qcq,Qa4]
  |succ n L=>
   intro c i;rw[Qcq,Qa4];simp only[L];cases O:Xd h.p i with
   |none=>simp only[Kc]
   |some p=>simp only[Xa]
 grind
def XfE(hN:NB N){h:Wi}(ht:HT h){l:List Int}(B:l.length<=1000000):QdV N h l=QbC N h l:=by
 have g:1000000<N:=by unfold NB at hN;omega
 have hb:=ht.hb;rw[QdV,QbC,Xec hN ht];have⟨b,eb,_⟩:=KE hN hb;rw[eb,Xa,Xa];cases b with
 |false=>rfl
 |true=>
 have⟨y,D,R,E,_⟩:=K1 hN hb;rw[Wh,Wa,Wa,JD hN ht,D,Xa,Xa];have s:∀x:Int,QeG N x y.1=some (x != 0&&!y.1.contains x):=by intro x;obtain⟨k,G⟩:=Xor (N:=N) y.1 x ab g E;rw[QeG,G,Xa];cases (x != 0)<;>rfl
 rw[Qa0,Qa9];rw[JP (p:=λx:Int=>x != 0&&!y.1.contains x) B g (λn k x e=>by
  have f:=Xy e
  rw[Qar,Xi f,Wc,Xf,e,Xa,s,Xa,Xg ab]) (λn=>by rw[Qar,Xz,Wa])]
 rw[Xa,Xa,Ky]
 have key:=VA (L:=l.length) (F:=QaC N l y) (p:=λk=>∃f:k<l.length,(l[k] != 0&&!y.1.contains l[k])=true) (Q:=λb=>b=false) (u:=())
  (λn k f q=>by
   obtain⟨H,r⟩:=q
   simp only[WH]at r
   refine⟨false,?_,rfl⟩
   rw[QaC,We ab,Wc,Xf,Wb f,Xa,r.1,Wc,Xa,X0 _ ab ab,Xa,r.2,Wc])
  (λn k f I=>by
   rw[QaC,We ab,Wc,Xf,Wb f,Xa,Xa,X0 _ ab ab,Xa,Xg ab]
   grind)
  (λn=>by rw[QaC,Wg ab,Wa]) N 0 ab ab
 have⟨e,J,K,e3⟩:=key;have v:QaC N l y N 0=some e:=J;rw[v,Xa];cases M:l.any (λx=>x != 0&&!y.1.contains x)with
 |true=>have⟨x,O,r⟩:=Oq.1 M;obtain⟨j,A,rfl⟩:=Wt O;obtain⟨b,rfl,z⟩:=K ⟨j,IV _,A,A,r⟩;simp[Xs,z]
 |false=>simp_all[List.any_eq_false,Xm]
def ZE(hN:NB N){h:Wi}(ht:HT h){l:List Int}(O:l.length<=10000000 / 4)(eg:Qbl N h=some true){y:List Int×Int}(B:Qal N h=some y):QbC N h l=some (l.all λx=>x==0||y.1.contains x):=by
 have hb:=ht.hb;have⟨R,g,S,T,_⟩:=K1 hN hb;rw[B]at g;cases g;have D:l.length<N:=by unfold NB at hN;omega
 have E:1000000<N:=by unfold NB at hN;omega
 rw[QbC,eg,Xa,Wh,Wa,B,Xa]
 have key:=VA (L:=l.length) (F:=QaC N l y) (p:=λk=>∃r:k<l.length,(l[k]==0||y.1.contains l[k])=false) (Q:=λb=>b=false) (u:=())
  (λn k r q=>by
   obtain⟨G,f⟩:=q
   simp only[Bool.or_eq_false_iff]at f
   refine⟨false,?_,rfl⟩
   rw[QaC,We ab,Wc,Xf,Wb r,Xa,show(l[k] != 0)=true by simp_all,Wc,Xa,X0 _ ab ab,Xa,f.2];rfl)
  (λn k r H=>by
   rw[QaC,We ab,Wc,Xf,Wb r,Xa,Xa,X0 _ ab ab,Xa,Xg ab]
   grind)
  (λn=>by rw[QaC,Wg ab,Wa]) N 0 ab ab
 have⟨e,I,J,e3⟩:=key;have v:QaC N l y N 0=some e:=I;rw[v,Xa];cases z:l.all (λx=>x==0||y.1.contains x)with
 |false=>have⟨x,K,f⟩:=List.all_eq_false.1 z;obtain⟨j,s,rfl⟩:=Wt K;obtain⟨b,rfl,A⟩:=J ⟨j,IV _,s,s,by simp_all⟩;rw[Xs,A]
 |true=>
  have:=e3 λ⟨j,_,s,M,f⟩=>by rw[W0]at z;rw[z _ (Ww s)]at f;cases f
  simp_all[Xm]
end
section
variable {N:Nat}
def XgO(l:List UB)(r:Int)(f:l.length<=1000000)(hN:1000000<N):QgK N l r=some (YS (λp=>p.a==r) l):=by
 exact JP (p:=λp:UB=>p.a==r) f hN (λn k x e=>by
  have g:=Xy e
  rw[Qe9,Xi g,Wc,Xf,e,Xa,Xg ab]) (λn=>by rw[Qe9,Xz,Wa])
def Xou(l:List UB)(r:Int)(f:l.length<=1000000)(hN:1000000<N):QfU N l r=some (YS (λp=>p.a==r) l):=by
 rw[QfU,Qa7];rw[JP (p:=λp:UB=>p.a==r) f hN (λn k x e=>by
  have g:=Xy e
  rw[Qap,Xi g,Wc,Xf,e,Xa,Qfm,Xa,Xg ab]) (λn=>by rw[Qap,Xz,Wa]),Xa]
def Xbe(hN:NB N){h:Wi}(ht:HT h)(hp:Uu h)(pins:List UB)(g:pins.length<=1000000)(y:List Int×Int)(H:y.1.length<=4096)(E:y.1.Pairwise (·<·))(r:∀a∈y.1,II h a):∀(n k:Nat) (v:List Int),k<=pins.length->pins.length-k<n->v.length=h.p.length ->
 ∃e,Qbe N h pins y n (k:Int) v=some e/\Qcd N pins h y n (k:Int) v=some (match e with|.ret _=>.ret ([],false)|.nxt v=>.nxt v)/\(∀b,e=.ret b->b=false)/\(∀f,e=.nxt f->f.length=h.p.length/\∀p∈pins.drop k,y.1.contains p.a=true)
 |0,k,v,_,I,_=>by omega
 |n+1,k,v,S,I,J=>by
  have j:1000000<N:=by unfold NB at hN;omega
  rw[Qbe,Qcd];by_cases s:k<pins.length;case neg=>
   rw[Wg ab,Wa,Wa]
   grind
  have⟨q,eq⟩:=Xor (N:=N) y.1 pins[k].a ab j E;have K:Xd pins (k:Int)=some pins[k]:=by rw[Xf,Wb s]
  simp only[We (show(k:Int)<(pins.length:Int) by omega),Wc,K,Xa,X0 pins[k].a (show y.1.length<=1000000000 by omega) (show y.1.length<N by omega),eq,XgO pins pins[k].a g j,Xou pins pins[k].a g j];cases x:y.1.contains pins[k].a with
  |false=>simp
  |true=>
  have z:=r _ (by rw[UN]at x;exact x);have A:=z.tu hp;have⟨L,B,O⟩:=K0 (N:=N) hp z;have R:Qb9 N h.c pins[k].a=some (pgi h.c pins[k].a,pgo h.c pins[k].a,0):=by rw[KV,Wj (by rw[hp.conf];simp),Wm z.rng];rfl
  have⟨c,D⟩:∃c,Xd v (pgi h.c pins[k].a)=some c:=⟨_,X6 B ab⟩
  simp only[Wh,Wa,L,XjJ N h.c pins[k].a A.2,R,Xa,D,Xg (show k<=140737488355328 by omega)];have⟨e,n1,n2,T,G⟩:=Xbe hN ht hp pins g y H E r n (k+1) (v.set (pgi h.c pins[k].a).toNat (wI (c+pins[k].M))) ab ab (by rw[WL];exact J);have U:∀f,e=.nxt f->f.length=h.p.length/\∀p∈pins.drop k,y.1.contains p.a=true:=λf u=>⟨(G f u).1,λp hp=>by
   rw[Wl s]at hp
   rcases Ig.1 hp with rfl|hp
   .exact x
   .exact(G f u).2 p hp⟩
  grind
def Xmk(hN:NB N){h:Wi}(ht:HT h){pins:List UB}(f:pins.length<=1000000):Qhh N h pins=Qcg N h pins:=by
 have s:1000000<N:=by unfold NB at hN;omega
 have hb:=ht.hb;have u:h.p.length<=100000:=hb.2;rw[Qhh,Qcg,Xec hN ht];have⟨b,eb,g⟩:=KE hN hb;rw[eb,Xa,Xa];cases b with
 |false=>rfl
 |true=>
 cases decide ((pins.length:Int)>64)with
 |true=>rfl
 |false=>
 have hp:Uu h:=(g rfl).prop;have⟨y,x,z,A,j,_⟩:=K1 hN hb;rw[Wa,Wa,Qga,JD hN ht,x,Xa,Xa];rw[Xb ab];have⟨e,B,D,e3,e4⟩:=Xbe hN ht hp pins f y z A j N 0 (List.replicate (h.p.length:Int).toNat 0) ab ab ac;have q:Qbe N h pins y N 0 (List.replicate (h.p.length:Int).toNat 0)=some e:=B;have r:Qcd N pins h y N 0 (List.replicate (h.p.length:Int).toNat 0)=_:=D;rw[Xb ab,q,r,Xa,Xa];cases e with
 |ret b=>rw[e3 b rfl,Xs,Xs,Xa];rfl
 |nxt v=>
  rw[Xm,Xm,Xa];have G:∀(n:Nat) (i:Int),QeF N h (v,true) n i=QbB N h v n i:=by
   intro n;induction n with
   |zero=>intro i;rw[QeF,QbB]
   |succ n E=>intro i;rw[QeF,QbB];simp only[E]
  simp_all
def Xed(hN:NB N){h:Wi}(ht:HT h){pins:List UB}(j:pins.length<=1000000)(f:Qcg N h pins=some true):Qbl N h=some true/\pins.length<=64/\∀y,Qal N h=some y->∀p∈pins,y.1.contains p.a=true:=by
 have hb:=ht.hb;have x:h.p.length<=100000:=hb.2;rw[Qcg]at f;have⟨b,eb,q⟩:=KE hN hb;rw[eb,Xa]at f;cases b with
 |false=>grind
 |true=>
 refine⟨eb,?_,λy u p z=>?_⟩
 .grind
 have hp:Uu h:=(q rfl).prop;have⟨E,g,A,B,r,_⟩:=K1 hN hb;rw[u]at g;cases g;cases hd:decide ((pins.length:Int)>64)with
 |true=>simp_all
 |false=>
 rw[hd,Wa,u,Xa,Xb ab]at f;have⟨e,D,G,e3,e4⟩:=Xbe hN ht hp pins j y A B r N 0 (List.replicate (h.p.length:Int).toNat 0) ab (by unfold NB at hN;omega) ac;have s:Qbe N h pins y N 0 (List.replicate (h.p.length:Int).toNat 0)=some e:=D;rw[s,Xa]at f;cases e with
 |ret b=>rw[e3 b rfl,Xs]at f;grind
 |nxt v=>simp_all
def Xbf{x:Uj}(hp:x.P.length<=1000000):∀(n k:Nat) (v:List Int),k<=x.P.length->x.P.length-k<n->v.length<=10000000+k ->
 QeP N x n (k:Int) v=some (v++(x.P.drop k).map (·.a))/\QbH N x n (k:Int) v=some (v++(x.P.drop k).map (·.a))
 |0,k,v,_,f,_=>by omega
 |n+1,k,v,g,f,h=>by
  rw[QeP,QbH];by_cases e:k<x.P.length
  .rw[We ab,Wc,Wc,Xf,Wb e,Xa,Xa,Xb ab,Xb ab,Xg ab];have⟨a,b⟩:=Xbf hp n (k+1) (v++[x.P[k].a]) ab ab (by rw[WK];simp;omega);rw[a,b,Wl e,W5,UA];exact⟨rfl,rfl⟩
  grind
def YE(x:Uj):List Int:=((x.R++(bif Yl x.l then XD x.l.S else[]))++(bif Yk x.g.e then Xu x.g.e else[]))++x.P.map (·.a)
def Xov{x:Uj}(f:EB x):(YE x).length<=104160+x.P.length:=by have h:=YK f.loc;have j:=XZ x.g.e;have p:=f.roots;unfold YE;grind
def VB(hN:NB N){x:Uj}(f:EB x):Qcy N x=some (YE x):=by
 have p:=YK f.loc;have q:=XZ x.g.e;have j:=f.pins;have r:=f.roots;have h:1000000<N:=by unfold NB at hN;omega
 rw[Qcy,Xb ab,YR f.loc h,Xa,Xb ab,XW f.glo h,Xa,Xb ab];have:=(Xbf (N:=N) j N 0 ((x.R++(bif Yl x.l then XD x.l.S else[]))++(bif Yk x.g.e then Xu x.g.e else[])) ab ab (by grind)).2;rw[show(0:Int)=((0:Nat):Int)from rfl,this,Xa,WX];rfl
def Xee(hN:NB N){x:Uj}(h:EB x):Qgq N x=some (YE x):=by
 have p:=YK h.loc;have q:=XZ x.g.e;have j:=h.pins;have r:=h.roots;have f:1000000<N:=by unfold NB at hN;omega
 rw[Qgq,Xcj h.loc f,Xa,Je h.glo f,Xa,Qhj];have:=(Xbf (N:=N) j N 0 [] ab ab ac).1;rw[show(0:Int)=((0:Nat):Int)from rfl,this,Xa,Xa,WX,W8,Qgp,Xck _ ac (by simp only[Xbd,Uf];omega) f,Xa,Xa];unfold YE;simp
structure ET(x:Uj):Prop where
 eb:EB x
 tw:XS x.h
def ET.ht{x:Uj}(t:ET x):HT x.h:=⟨t.eb.heap,t.tw⟩
end
section
variable {N:Nat}
def Xow(l:List Int):(!l.all λp=>!(p==0))=l.contains 0:=by grind
def XgP(hN:NB N){x:Uj}(ht:ET x):QfB N x=QbI N x:=by
 have f:1000000<N:=by unfold NB at hN;omega
 have h:=ht.eb;have s:=YK h.loc;have u:=XZ x.g.e;have z:=XZ x.v.e;have j:=h.pins;have G:=h.roots;rw[QfB,QbI,Xmk hN ht.ht j];have⟨b,eb,_⟩:=Ve hN h.heap j;rw[eb,Xa,Xa];cases b with
 |false=>rfl
 |true=>
 have⟨eg,p,A⟩:=Xed hN ht.ht j eb;simp only[Wh,Wa,Xd6 h.loc f,Zu h.loc f,XbJ h.glo f,YP h.glo f,XbJ h.wea f,YP h.wea f,Je h.glo f,XW h.glo f,Je h.wea f,XW h.wea f,YR h.loc f,Xa,Xee hN h];cases el:Yl x.l with
 |false=>rfl
 |true=>
 cases et:Yk x.g.e with
 |false=>rfl
 |true=>
 cases B:Yk x.v.e with
 |false=>rfl
 |true=>
 have D:YE x=((x.R++XD x.l.S)++Xu x.g.e)++x.P.map (·.a):=by unfold YE;rw[el,et];rfl
 have q:=Xov h;rw[el,Wc]at s;rw[et,Wc]at u;rw[B,Wc]at z;simp;rw[XgH ab f,Xa,Xow,X0 0 ab ab,Xa];cases (Xu x.g.e).contains 0 with
 |true=>rfl
 |false=>
 rw[Wa,Wa,Xb ab,Xb ab,Xb ab,Xb ab];rw[Qgp,Xck _ ac (by simp only[Xbd];omega) f,Xa,Xa];have⟨y,r,H,_⟩:=K1 hN h.heap;have E:[YE x,Xu x.v.e].flatten=YE x++Xu x.v.e:=by simp
 rw[E,XfE hN ht.ht (by rw[WK];omega),ZE hN ht.ht (by rw[WK];omega) eg r,ZE hN ht.ht ai eg r,Xa,Xa,D];grind
end
section
variable {N:Nat}
def XkV(N:Nat)(c:WN):Qhk N c=some (Ke c):=by exact Xb8 N c
def Xcp(N:Nat)(ps:List Wo):Qgt N ps=QcF N ps:=by
 have h:∀(n:Nat) (c i:Int),Qdt N ps n c i=QbF N ps n c i:=by
  intro n;induction n with
  |zero=>simp[Qdt,QbF]
  |succ n e=>simp[Qdt,QbF,e]
 rw[Qgt,QcF,h]
def Xik(N:Nat)(ps:List Wo)(g:ps.length<=100000):∀(n k:Nat) (v:List OD),k<=ps.length->v.length<=k->QcK N ps n (k:Int) v=Qbz N ps n (k:Int) v
 |0,k,v,_,_=>by rfl
 |n+1,k,v,p,q=>by
  rw[QcK,Qbz];by_cases e:k<ps.length;case neg=>grind
  rw[We (show(k:Int)<(ps.length:Int) by omega),Wc,Wc,Xf,Wb e,Xa,Xa,Xb ab,Xg ab];have f:∀v':List OD,v'.length<=k+1->QcK N ps n ((k+1:Nat):Int) v'=Qbz N ps n ((k+1:Nat):Int) v':=λv' h=>Xik N ps g n (k+1) v' ab h;rw[f v ab,f (v++[OD.mk (k:Int) 1]) (by simp_all)];have j:∀(i:Nat) (x:OD),QcK N ps n ((k+1:Nat):Int) (v.set i x)=Qbz N ps n ((k+1:Nat):Int) (v.set i x):=λi x=>f _ (by grind);simp only[j];cases (ps[k].k != 0)with
  |true=>rfl
  |false=>
   rw[Wa,Wa,Xb (show v.length<=140737488355328 by omega)];rw[show decide (wI ((v.length:Int)-1)>=0)=decide ((v.length:Int)>0) by
    rw[Xe ab ab];grind]
def Xcq(hN:1000000<N){ps:List Wo}(g:ps.length<=100000)(k:Int):QdN N ps k=Qba N ps k:=by
 have h:Qhi N ps=Qgm N ps:=by rw[Qhi,Qgm,show(0:Int)=((0:Nat):Int)from rfl,Xik N ps g N 0 [] ab ac]
 rw[QdN,Qba,h];have⟨rs,ers,q,_⟩:=Xks (N:=N) (ps:=ps) ab ab;rw[ers,Xa,Xa];by_cases r:k<1
 .rw[We r,Wc];have:∀(n j:Nat),j<=rs.length->rs.length-j<n->QbE N k rs n (j:Int)=some (.nxt ()):=by
   intro n;induction n with
   |zero=>omega
   |succ n e=>
    intro j u v;rw[QbE];by_cases s:j<rs.length
    .rw[We ab,Wc,XJ (show¬k>=1 by omega),Wa,Xg ab];exact e (j+1) ab ab
    grind
  have f:=this N 0 ab ab;rw[show((0:Nat):Int)=0 from rfl]at f;rw[f,Xa,Xm]
 have:∀(n:Nat) (j:Int),Qd8 N k rs n j=QbE N k rs n j:=by
  intro n;induction n with
  |zero=>intro j;rw[Qd8,QbE]
  |succ n e=>
   intro j;rw[Qd8,QbE,We (show k>=1 by omega),Wc];simp only[e];cases Xd rs j with
   |none=>simp only[Kc]
   |some p=>simp only[Xa]
 grind
def XbN(hN:1000000<N)(c:WN)(d:Ws):Qgx N c d=Qcl N c d:=by
 rw[Qgx,Qcl,Js ab,Zp,YL ab,XI];simp only[Xa,V8,Zg (show 10<=N by omega)];have e:=KC c (Xj d);rw[show decide (Xn c (Xj d)>=0)=(Xn c (Xj d) != -1) by
  grind]
end
section
variable {N:Nat}
def XO(p:Wo):Bool:=p.k != 0
def Xef(N:Nat)(ps:List Wo)(f:ps.length<=1000000):∀(n c k:Nat),k<=ps.length->c<=k->ps.length-k<n->QbF N ps n (c:Int) (k:Int)=some (((c+(ps.drop k).countP XO:Nat):Int))
 |0,c,k,_,_,h=>by omega
 |n+1,c,k,g,j,p=>by
  rw[QbF];by_cases e:k<ps.length
  .rw[We ab,Wc,Xf,Wb e,Xa,Xg ab,Xg ab,Wl e,U9];cases hb:(ps[k].k != 0)with
   |true=>rw[Wc,Xef N ps f n (c+1) (k+1) ab ab ab,Wm (show XO ps[k]=true from hb)];congr 1;omega
   |false=>rw[Wa,Xef N ps f n c (k+1) ab ab ab,Wj (show¬XO ps[k]=true by unfold XO;rw[hb];simp)];rfl
  grind
def Xeg(hN:1000000<N){ps:List Wo}(e:ps.length<=100000):QcF N ps=some ((ps.countP XO:Nat):Int):=by rw[QcF,show(0:Int)=((0:Nat):Int)from rfl,Xef N ps ab N 0 0 ab ab ab,Xa,WX,UE]
def Z8(ps l:List Wo)(i:Nat):List Wo:=(ps.take i++l)++ps.drop (i+l.length)
def Vh{ps l:List Wo}{i:Nat}(h:i+l.length<=ps.length):(Z8 ps l i).length=ps.length:=by unfold Z8;grind
def XgQ(j i k:Nat)(f r:Wo)(ps:List Wo)(e:ps.length<=100000)(g:i+k<=ps.length):∀(n m:Nat),m<=k->k-m<n ->
 Qd2 N (i:Int) (k:Int) f r n (m:Int) (Z8 ps (List.replicate m r) i)=some (if((ps.drop (i+m)).take (k-m)).any XO=true then .ret ([],20)else .nxt (Z8 ps (List.replicate k r) i))
 |0,m,_,h=>by omega
 |n+1,m,u,v=>by
  rw[Qd2];by_cases p:m<k;case neg=>
   obtain rfl:m=k:=ab
   simp
  have q:(Z8 ps (List.replicate m r) i)[i+m]? = some (ps[i+m]'ab):=by unfold Z8;rw[Ud (by grind),UO];simp only[WK,Wu,Ua];rw[show i+m+(i+m-(min i ps.length+m))=i+m by omega];exact Wb ab
  have s:(Z8 ps (List.replicate m r) i).set (i+m) r=Z8 ps (List.replicate (m+1) r) i:=by unfold Z8;rw[IR _ _ (by grind)];simp only[WK,Wu,Ua];rw[show i+m-(min i ps.length+m)=0 by omega,Wl (show i+m<ps.length by omega),IK,List.replicate_succ',←W5 (ps.take i),W5 (ps.take i++List.replicate m r)];rfl
  have hw:wI ((i:Int)+(m:Int))=((i+m:Nat):Int):=by rw[Xe ab ab];omega
  rw[We ab,Wc,hw,Xf,q,Xa,Xa,Xg ab,show(((i+m:Nat):Int)).toNat=i+m from rfl,s];have hd:(ps.drop (i+m)).take (k-m)=ps[i+m]'ab::(ps.drop (i+(m+1))).take (k-(m+1)):=by rw[Wl (show i+m<ps.length by omega),show k-m=(k-(m+1))+1 by omega,List.take_succ_cons];rfl
  rw[hd,List.any_cons];cases hb:((ps[i+m]'ab).k != 0)with
  |true=>rw[Wc,show XO (ps[i+m]'ab)=true from hb,Bool.true_or,Wm rfl]
  |false=>rw[Wa,show XO (ps[i+m]'ab)=false from hb,Iz];exact XgQ j i k f r ps e g n (m+1) ab ab
def Xml{α:Type}(p:α->Bool)(l:List α):decide (((l.countP p:Nat):Int)>0)=l.any p:=by
 cases h:l.any p with
 |true=>simp_all
 |false=>simp_all
def Xil(hN:1000000<N){ps:List Wo}(h:ps.length<=100000)(i:Int)(f r:Wo)(k:Nat)(v:1<=k)(s:k<=1000):QgQ N ps i (f::List.replicate (k-1) r)=Qdd N ps i (k:Int) f r:=by
 have e:(f::List.replicate (k-1) r).length=k:=by simp;omega
 rw[QgQ,Qdd,e];by_cases x:i<0
 .simp_all
 obtain⟨j,rfl⟩:∃j:Nat,i=(j:Int):=⟨i.toNat,ab⟩
 by_cases g:j+k<=ps.length;case neg=>
  by_cases q:(j:Int)>=(ps.length:Int)
  .rw[We q,Wc,Xe (n:=(ps.length:Int)-(k:Int)) ab ab,We (show(j:Int)>(ps.length:Int)-(k:Int) by omega),Wc]
  .rw[XJ q,Wa,Xe (n:=(ps.length:Int)-(k:Int)) ab ab,Xe (n:=(ps.length:Int)-(j:Int)) ab ab,We (show(j:Int)>(ps.length:Int)-(k:Int) by omega),Wc,We (show(k:Int)>(ps.length:Int)-(j:Int) by omega),Wc]
 rw[Xe (n:=(ps.length:Int)-(k:Int)) ab ab,Xe (n:=(ps.length:Int)-(j:Int)) ab ab,XJ (show¬(j:Int)>(ps.length:Int)-(k:Int) by omega),Wa,XJ (show¬(j:Int)>=(ps.length:Int) by omega),Wa,XJ (show¬(k:Int)>(ps.length:Int)-(j:Int) by omega),Wa];have hw:wI ((j:Int)+(k:Int))=((j+k:Nat):Int):=by rw[Xe ab ab];omega
 rw[hw,Xb ab,Xb ab,show(((j+k:Nat):Int)).toNat=j+k from rfl,show(j:Int).toNat=j from rfl,show j+k-j=k by omega,Xcp,Xeg hN (by grind),Xa,Xml];have ht:=XgQ (N:=N) 0 j k f r ps h g N 0 ab ab;have p:Z8 ps (List.replicate 0 r) j=ps:=by unfold Z8;simp
 rw[p,IW,Nat.sub_zero,show((0:Nat):Int)=0 from rfl]at ht;rw[ht,Xa];cases ((ps.drop j).take k).any XO with
 |true=>rw[Wc,Wm rfl,Xs]
 |false=>
  rw[Wa,Wj ac,Xm,Qac,Xa,Xb ab,Xb ab];have u:(Z8 ps (List.replicate k r) j).length=ps.length:=Vh (by simp_all);rw[Xf,Wb ab,Xa];unfold Z8;obtain⟨m,rfl⟩:∃m,k=m+1:=⟨k-1,ab⟩
  rw[Ua,IP,List.replicate_succ,List.set_append_left _ _ (by grind),IR _ _ (by grind)];simp only[Wu];rw[show j-min j ps.length=0 by omega,IK]
end
section
variable {N:Nat}
def XfF{α:Type}(sp:Int)(x y:α):(bif (!decide (sp=0\/sp=1))then x else y)=(bif (decide (sp<0))then x else bif (decide (sp>1))then x else y):=by grind
def XfG(hN:1000000<N){ps:List Wo}(e:ps.length<=100000)(i sp:Int):QdM N ps i sp=QbJ N ps i sp:=by rw[QdM,QbJ,Z6,Xa,XfF];have:=Xil hN e i (Wo.mk 1 sp 0 0) (Wo.mk 0 0 0 0) 1 ab ab;simp_all
def XfH(N:Nat)(ps:List Wo)(i sp y:Int)(k:Nat)(e:y=(k:Int))(g:k<=1000)(f:Wo):∀(n m:Nat),m<=k-1->1<=k->k-m<n->QeS N ps i sp y n (f::List.replicate m (Wo.mk 3 sp 0 0))=some (f::List.replicate (k-1) (Wo.mk 3 sp 0 0))
 |0,m,_,_,h=>by omega
 |n+1,m,r,j,s=>by
  have p:(f::List.replicate m (Wo.mk 3 sp 0 0)).length=m+1:=by simp
  rw[QeS,p,Xb ab];by_cases q:m+1<k
  .rw[We ab,Wc,Xb ab,Ot,←List.replicate_succ'];exact XfH N ps i sp y k e g f n (m+1) ab j ab
  grind
def Xmm(hN:1000000<N){ps:List Wo}(e:ps.length<=100000)(c:WN)(i sp w:Int):Qg4 N c ps i sp w=QdK N c ps i sp w:=by
 rw[Qg4,QdK,V8,Zg ab,Xa,Xa];by_cases h:Xn c w<1
 .simp_all
 have j:=KC c w;have⟨k,f⟩:∃k:Nat,Xn c w=(k:Int):=⟨(Xn c w).toNat,ab⟩
 rw[XJ h,Wa,Wa,Z6,Xa,XfF];have g:=XfH N ps i sp (Xn c w) k f ab (Wo.mk 2 sp w 0) N 0 ab ab ab;rw[show [(Wo.mk 2 sp w 0)]=Wo.mk 2 sp w 0::List.replicate 0 (Wo.mk 3 sp 0 0)from rfl,g,Xa,Xil hN e i _ _ k ab ab,f]
def XjM{v:Int}{k:Nat}(x:k<=63)(h:0<=v)(g:v<2 ^ k):XcT .u64 v (2 ^ k-1)=0:=by
 obtain⟨n,rfl⟩:=UQ h;have j:n<2 ^ k:=by
  have e:(2:Int) ^ k=((2 ^ k:Nat):Int):=by simp
  rw[e]at g;omega
 have hb:IntKind.u64.bits=64:=rfl;show IntKind.u64.wrap ((BitVec.ofInt IntKind.u64.bits n &&& ~~~ BitVec.ofInt IntKind.u64.bits (2 ^ k-1)).toNat:Int)=_;rw[hb];have f:(2:Int) ^ k-1=((2 ^ k-1:Nat):Int):=by
  have g:=Nat.one_le_two_pow (n:=k);have e:(2:Int) ^ k=((2 ^ k:Nat):Int):=by simp
  rw[e];omega
 have p:BitVec.ofInt 64 (n:Int)=BitVec.ofNat 64 n:=by simp
 have q:BitVec.ofInt 64 ((2 ^ k-1:Nat):Int)=BitVec.ofNat 64 (2 ^ k-1):=by simp
 rw[f,p,q];have r:BitVec.ofNat 64 n &&& ~~~ BitVec.ofNat 64 (2 ^ k-1)=0#64:=by
  apply BitVec.eq_of_getLsbD_eq;intro i s;simp only[BitVec.getLsbD_and,BitVec.getLsbD_not,BitVec.getLsbD_ofNat,s,decide_true,Ue,BitVec.getLsbD_zero];by_cases u:i<k
  .simp_all
  rw[Nat.testBit_lt_two_pow (Oa j (IX ab ab))];simp
 rw[r];rfl
def Xc8{a b:Int}{s:Nat}(r:s<=63)(f:0<=a)(h:a<2 ^ s)(g:0<=b)(hb:b*2 ^ s+a<=18446744073709551615):bOr .u64 a (b*2 ^ s)=a+b*2 ^ s:=by
 obtain⟨n,rfl⟩:=UQ f;obtain⟨m,rfl⟩:=UQ g;have j:(2:Int) ^ s=((2 ^ s:Nat):Int):=by simp
 rw[j]at h hb⊢;have u:(m:Int)*((2 ^ s:Nat):Int)=((m*2 ^ s:Nat):Int):=by simp
 have e:IntKind.u64.bits=64:=rfl;show IntKind.u64.wrap ((BitVec.ofInt IntKind.u64.bits n |||BitVec.ofInt IntKind.u64.bits ((m*2 ^ s:Nat):Int)).toNat:Int)=_;rw[e];have p:BitVec.ofInt 64 (n:Int)=BitVec.ofNat 64 n:=by simp
 have q:BitVec.ofInt 64 ((m*2 ^ s:Nat):Int)=BitVec.ofNat 64 (m*2 ^ s):=by rw[BitVec.ofInt_natCast]
 rw[p,q,BitVec.toNat_or,IN,IN,Ou (show n<2 ^ 64 by omega),Ou (show m*2 ^ s<2 ^ 64 by omega)];have:=Nat.shiftLeft_add_eq_or_of_lt (show n<2 ^ s by omega) m;rw[Nat.shiftLeft_eq]at this;rw[Nat.or_comm,←this];show wU _=_;rw[Xw ab ab];omega
end
section
variable {N:Nat}
def Xcr(hN:1000<N){w v:Int}(f:0<=w)(h:w<=63)(g:0<=v)(e:v<2 ^ w.toNat):QdW N v w=some true:=by rw[QdW,JC f ab hN,Xa,XjM ab g e];rfl
def Xox(hN:1000000<N){k l m:Int}(k0:0<=k)(k1:k<4)(g:0<=l)(S:l<4096)(h:0<=m)(T:m<4294967296):
 Qgg N [(Ik.mk 2 1),(Ik.mk 2 k),(Ik.mk 12 l),(Ik.mk 32 m)]=some (1+k*4+l*16+m*65536,0):=by
 obtain⟨n,rfl⟩:∃n,N=n+5:=⟨N-5,ab⟩
 generalize f:[(Ik.mk 2 1),(Ik.mk 2 k),(Ik.mk 12 l),(Ik.mk 32 m)]=L;have e:L.length=4:=by rw[←f];rfl
 have j:Xd L 0=some (Ik.mk 2 1):=by rw[←f];unfold Xd;rfl
 have g1:Xd L 1=some (Ik.mk 2 k):=by rw[←f];unfold Xd;rfl
 have g2:Xd L 2=some (Ik.mk 12 l):=by rw[←f];unfold Xd;rfl
 have g3:Xd L 3=some (Ik.mk 32 m):=by rw[←f];unfold Xd;rfl
 have p:wI (0+1)=1:=Xe ab ab;have q:wI (1+1)=2:=Xe ab ab;have r:wI (2+1)=3:=Xe ab ab;have s:wI (3+1)=4:=Xe ab ab;have u:wI (64-2)=62:=Xe ab ab;have v:wI (62-2)=60:=Xe ab ab;have x:wI (60-12)=48:=Xe ab ab;have y:wI (48-32)=16:=Xe ab ab;have k2:wI (0+2)=2:=Xe ab ab;have z:wI (2+2)=4:=Xe ab ab;have A:wI (4+12)=16:=Xe ab ab;have B:wI (16+32)=48:=Xe ab ab;have D:Qbo (n+5) L (n+5) 64 0=some (.nxt ()):=by rw[Qbo,e,j];simp only[Xa,p,u];rw[Qbo,e,g1];simp only[Xa,q,v];rw[Qbo,e,g2];simp only[Xa,r,x];rw[Qbo,e,g3];simp only[Xa,s,y];rw[Qbo,e];rfl
 have f0:QdW (n+5) 1 2=some true:=Xcr ab ab ab ab ag;have f1:QdW (n+5) k 2=some true:=Xcr ab ab ab k0 (by show k<4;omega);have f2:QdW (n+5) l 12=some true:=Xcr ab ab ab g (by show l<4096;omega);have E:QdW (n+5) m 32=some true:=Xcr ab ab ab h (by show m<4294967296;omega);have G:ZY .u64 1 0=1:=by decide +kernel
 have H:ZY .u64 k 2=k*2 ^ 2:=by show wU (k*4)=k*4;exact Xw ab ab
 have I:ZY .u64 l 4=l*2 ^ 4:=by show wU (l*16)=l*16;exact Xw ab ab
 have s3:ZY .u64 m 16=m*2 ^ 16:=by show wU (m*65536)=m*65536;exact Xw ab ab
 have J:bOr .u64 0 1=1:=by decide +kernel
 have K:bOr .u64 1 (k*2 ^ 2)=1+k*2 ^ 2:=Xc8 ab ab ag k0 ab;have M:bOr .u64 (1+k*2 ^ 2) (l*2 ^ 4)=1+k*2 ^ 2+l*2 ^ 4:=Xc8 ab ab ab g ab;have O:bOr .u64 (1+k*2 ^ 2+l*2 ^ 4) (m*2 ^ 16)=1+k*2 ^ 2+l*2 ^ 4+m*2 ^ 16:=Xc8 ab ab ab h ab;have R:Qbp (n+5) L (n+5) 0 0 0=some (.nxt (1+k*2 ^ 2+l*2 ^ 4+m*2 ^ 16)):=by rw[Qbp,e,j];simp only[Xa,f0,p,k2,G,J];rw[We ab,Wc,Wh,Wa,Xb ab];rw[Qbp,e,g1];simp only[Xa,f1,q,z,H,K];rw[We ab,Wc,Wh,Wa,Xb ab];rw[Qbp,e,g2];simp only[Xa,f2,r,A,I,M];rw[We ab,Wc,Wh,Wa,Xb ab];rw[Qbp,e,g3];simp only[Xa,E,s,B,s3,O];rw[We ab,Wc,Wh,Wa,Xb ab];rw[Qbp,e];rw[Wg ab,Wa]
 simp[Qgg,D,Xa,Xm,R]
def XjN{d:Ws}(e:tW d.Map)(h:Xx d=true):0<=d.Map/\d.Map<4294967296:=by have⟨a,b⟩:=e;omega
def Xq2(hN:1000000<N){d:Ws}(f:tW d.Map):QfW N d=Qcz N d:=by
 rw[QfW,Js ab,KB,Xa];cases e:Xx d with
 |false=>rfl
 |true=>have hb:=XB e;have g:=XjN f e;rw[Wh,Wa,Wm rfl,Xw (n:=d.k) ab ab,Xw (n:=d.n) ab ab,Xw (n:=d.Map) ab ab,Xox hN ab ab ab ab ab ab,Xa];congr 2;unfold ZB;have s:∀x:Int,ZY .u64 x 16=wU (x*65536):=λ_=>rfl;simp only[s,XcD];omega
def Xmn(hN:NB N){ws l:List Int}(hw:ws.length<=100000)(h:l.length<=1000){a:Int}(g:a<=18446744073709551615):QgE N ws a l=Qch N ws a l:=by
 rw[QgE,Xcl ab g,ZA (by unfold BIG;omega) (by unfold BIG;omega) (by unfold NB at hN;omega),XcY (by unfold BIG;omega) N a _ ab,Xa];by_cases e:4096<=a/\a<=4096+(ws.length:Int);case neg=>
  rw[Wj e,Wj (by unfold Ym;omega)];rfl
 rw[Wm e];by_cases f:a+(l.length:Int)<=4096+(ws.length:Int);case neg=>rw[Wg f,Ug,Wc,Wj (by unfold Ym;omega)]
 rw[We f,Wh,Wa,Wm (by unfold Ym;omega),Qad,Xa,Xb ab,Xb ab];rfl
def Xvw{n:Nat}(e:Int):(List.replicate (n+1) (0:Int)).set 0 e=[e]++List.replicate n (0:Int):=by rfl
def Xeh(hN:NB N){h:Wi}(hb:HB h){a:Int}(j:a<=18446744073709551615){d:Ws}(p:tW d.Map):Qff N h a d=Qa1 N h a d:=by
 have e:1000000<N:=by unfold NB at hN;omega
 rw[Qff,Qa1,Xq2 e p,KB,Xa,Xa,X8 hb.2 e];have⟨b,eb⟩:=ZK (N:=N) hN hb;cases g:Xx d with
 |false=>rw[Wj ac,eb,Xa,Xa];simp
 |true=>
  have q:=XB g;rw[Wm rfl,eb,Xa,Xa];cases b with
  |false=>rfl
  |true=>
  have r:Xj d=d.n+1:=by unfold Xj;rw[Wm g]
  have⟨n,v⟩:∃n:Nat,d.n=(n:Int):=⟨d.n.toNat,ab⟩
  have ht:(d.n+1).toNat=n+1:=ab;have f:d.n.toNat=n:=ab;rw[Wh,Wa,Wa,YL ab,Xa,r,Xb ab,ht,f,Xb ab,Xb ab];have s:Xd (List.replicate (n+1) (0:Int)) 0=some 0:=by unfold Xd;simp
  rw[s,Xa,Xvw,Xmn hN hb.1 (by grind) j];have⟨w,u⟩:∃w,Qch N h.w a ([ZB d]++List.replicate n (0:Int))=some w:=⟨_,ZA (by unfold BIG;have:=hb.1;omega) (by unfold BIG;grind) (by grind) a⟩
  rw[u,Xa,Xa,Qgu];cases (w.2 != 0)with
  |true=>simp[Wc,Xa]
  |false=>simp[Wa,Qac,Xa]
end
section
variable {N:Nat}
def Xq3{α:Type}(q:α->Bool)(l:List α)(j:Nat)(x:α)(h:∀y,l[j]? = some y->q y=q x):(l.set j x).all q=l.all q:=by
 by_cases e:j<l.length
 .have f:l=l.take j++l[j]::l.drop (j+1):=by rw[List.getElem_cons_drop,If]
  grind
 rw[List.set_eq_of_length_le ab]
def Xe3{α:Type}(l:List α)(i k j:Nat)(x:α):((l.set j x).drop i).take k=if i<=j then((l.drop i).take k).set (j-i) x else(l.drop i).take k:=by
 by_cases h:i<=j
 .rw[Wm h,List.drop_set,Wj ab,List.take_set]
 rw[Wj h,List.drop_set,Wm ab]
def Xoy{c:WN}{ps:List Wo}{j:Nat}(h:j<ps.length){x:Wo}(q:∀sp,X7 sp x=X7 sp ps[j])(r:X4 c ps j x=X4 c ps j ps[j])(i:Nat)(s:i<ps.length):
 X4 c (ps.set j x) i ((ps.set j x)[i]'(by simp_all))=X4 c ps i ps[i]:=by
 have f:∀sp k,(((ps.set j x).drop (i+1)).take k).all (X7 sp)=((ps.drop (i+1)).take k).all (X7 sp):=by
  intro sp k;rw[Xe3];split
  .refine Xq3 _ _ _ _ λy g=>?_;rw[Us]at g;split at g
   .rw[UO,show i+1+(j-(i+1))=j by omega,Wb h]at g;cases g;exact(q sp).symm
   cases g
  rfl
 have e:∀p,X4 c (ps.set j x) i p=X4 c ps i p:=by intro p;unfold X4;simp only[WL,f]
 grind
def XcK{h:Wi}(q:h.p.length<=100000)(hN:1000000<N)(e:List Wo)(f:e.length=h.p.length)(j:∀i(r:i<h.p.length),X4 h.c e i (e[i]'ab)=X4 h.c h.p i h.p[i])(ws:List Int)(b:Int):∀(n i:Nat),i<=h.p.length->Qae N ⟨h.c,ws,e,h.s,b⟩ n (i:Int)=Qae N h n (i:Int)
 |0,i,_=>by rfl
 |n+1,i,r=>by
  rw[Qae,Qae];dsimp only;rw[f];by_cases g:i<h.p.length;case neg=>grind
  rw[We (show(i:Int)<_ by omega),Wc,Wc,Ki ab hN ab,Ki q hN g,j i g,Xa,Xa];have u:=XbL (c:=h.c) g (p:=h.p[i]);generalize X4 h.c h.p i h.p[i]=s at *;by_cases v:s=0
  .simp_all
  rw[show((s:Int)==0)=false by simp_all,Wa,Wa,Xe ab ab,show(i:Int)+(s:Int)=((i+s:Nat):Int) by omega];exact XcK q hN e f j ws b n (i+s) ab
structure O6(h:Wi):Prop where
 conf:XR h.c=true
 words:(h.w.length:Int)=h.c.p*h.c.W
 pages:(h.p.length:Int)=h.c.p
 space:0<=h.s/\h.s<=1
 bump:h.b = -1\/(0<=h.b/\h.b<h.p.length/\(pg h.p h.b).k=1)
def Uu.pre{h:Wi}(hp:Uu h):O6 h:=⟨hp.conf,hp.words,hp.pages,hp.space,hp.bump⟩
def Kz{h:Wi}(hp:O6 h):Qb2 N h=bnd (Qae N h N 0) λe=>exK e (λr=>some r) λ_=>some true:=by
 have u:=Xh.1 hp.conf;have v:=XE hp.conf (i:=0) ab ab;have hw:=hp.words;have f:=hp.pages;have g:((h.w.length:Int) != wI (h.c.W*h.c.p))=false:=by rw[Int.mul_comm,Xe ab ab];simpa using hw
 have j:((h.p.length:Int) != h.c.p)=false:=by simpa using f
 have e3:∀{α:Type} (x y z:α),(bif h.s != 0 then(bif h.s != 1 then x else y)else y)=y:=by
  intro α x y z;by_cases A:h.s=0
  .simp_all
  have B:h.s=1:=by have:=hp.space;omega
  simp_all
 rw[Qb2];simp only[Xt,Jf,Xa,hp.conf,Wh,Wa,g,j];rw[e3 _ _ (some true)];rcases hp.bump with hb|⟨b0,q,b2⟩
 .simp_all
 rw[show(h.b != -1)=true by grind,Wc,XJ (show¬h.b<0 by omega),Wa,XJ (show¬h.b>=(h.p.length:Int) by omega),Wa,Xo b0 q,Xa,b2];rfl
def Xab{h:Wi}(hN:NB N)(hb:HB h)(ep:Qaa N h=some true){e:List Wo}(f:e.length=h.p.length)(q:∀i(r:i<h.p.length),X4 h.c e i (e[i]'ab)=X4 h.c h.p i h.p[i]){ws:List Int}(hw:ws.length=h.w.length){b:Int}(g:b = -1\/(0<=b/\b<e.length/\(pg e b).k=1)):Qaa N ⟨h.c,ws,e,h.s,b⟩=some true:=by
 have j:1000000<N:=by unfold NB at hN;omega
 have hp:=Xp hN hb ep;rw[←X8 (by rw[f];exact hb.2) j,Kz (h:=⟨h.c,ws,e,h.s,b⟩) ⟨hp.conf,by rw[hw];exact hp.words,by rw[f];exact hp.pages,hp.space,g⟩];have:=XcK hb.2 j e f q ws b N 0 ab;rw[show((0:Nat):Int)=0 from rfl]at this;rw[this,←Kz hp.pre,X8 hb.2 j,ep]
end
section
variable {N:Nat}
def XfI(hN:NB N){h:Wi}(hb:HB h)(ep:Qaa N h=some true){d:Ws}(f:Xx d=true){a:Int}(g:Ym h.w a (d.n.toNat+1)):∃j,Qa1 N h a d=some (j,0):=by
 have p:=XB f;have⟨n,q⟩:∃n:Nat,d.n=(n:Int):=⟨d.n.toNat,ab⟩
 have e:d.n.toNat=n:=ab;rw[e]at g;rw[Qa1,KB,Wm f,ep,Xa,Xa,Wh,Wa];rw[show((0:Int) != 0)=false from rfl,Wa,Xb ab,e,Xb ab,ZA (by unfold BIG;have:=hb.1;omega) (by unfold BIG;simp;omega) (by simp;unfold NB at hN;omega),Wm (by simpa using g),Xa];simp
def XgR(hN:1000000<N){ps:List Wo}(h:ps.length<=100000){i:Int}(f r:Wo)(k:Nat)(z:1<=k)(s:k<=1000)(u:RunOK ps i (k:Int)):Qdd N ps i (k:Int) f r=some (Z8 ps (f::List.replicate (k-1) r) i.toNat,0):=by
 have⟨A,_,B,v⟩:=u;obtain⟨j,rfl⟩:∃j:Nat,i=(j:Int):=⟨i.toNat,ab⟩
 have g:((ps.drop j).take k).any XO=false:=by
  rw[List.any_eq_false];intro p hp hb;obtain⟨m,x,rfl⟩:=Wt hp;rw[Wu,WC]at x;rw[IC,IZ]at hb;have:=v (m:Int) ab ab;have e:pg ps ((j:Int)+(m:Int))=ps[j+m]'ab:=by unfold pg;rw[show((j:Int)+(m:Int)).toNat=j+m by omega,Wk,Wb ab];rfl
  rw[e]at this;unfold XO at hb;rw[this]at hb;cases hb
 have ht:=XgQ (N:=N) 0 j k f r ps h ab N 0 ab ab;have q:Z8 ps (List.replicate 0 r) j=ps:=by unfold Z8;simp
 rw[q,IW,Nat.sub_zero,show((0:Nat):Int)=0 from rfl,g,Wj ac]at ht;rw[Qdd,XJ (show¬(j:Int)<0 by omega),Wa,XJ (show¬(j:Int)>=(ps.length:Int) by omega),Wa,Xe (n:=(ps.length:Int)-(j:Int)) ab ab,XJ (show¬(k:Int)>(ps.length:Int)-(j:Int) by omega),Wa,Xb ab,ht,Xa,Xm];have y:(Z8 ps (List.replicate k r) j).length=ps.length:=Vh (by grind);rw[Xf,Wb ab,Xa,show(j:Int).toNat=j from rfl];unfold Z8;obtain⟨m,rfl⟩:∃m,k=m+1:=⟨k-1,ab⟩
 rw[Ua,IP,Ul,Ua,List.replicate_succ,List.set_append_left _ _ (by grind),IR _ _ (by grind)];simp only[Wu];rw[show j-min j ps.length=0 by omega,IK]
end
section
variable {N:Nat}
def XfJ{c:WN}{ps:List Wo}{j:Nat}{p:Wo}(e:p.k=1)(f:0<=p.s/\p.s<=1)(hp:0<=p.P/\p.P<=2147483647)(g:0<=p.u/\p.u<=c.W):X4 c ps j p=1:=by unfold X4;grind
def XjO{c:WN}{ps:List Wo}{j:Nat}:X4 c ps j Y5=1:=rfl
def XbO{ps:List Wo}{j:Nat}(e:j<ps.length):pg ps (j:Int)=ps[j]:=by unfold pg;simp_all
def Xim(hN:NB N){h:Wi}(hb:HB h)(ep:Qaa N h=some true){j:Nat}(f:j<h.p.length){x:Wo}(v:x.k=1)(y:0<=x.s/\x.s<=1)(q:0<=x.P/\x.P<=2147483647)(z:0<=x.u/\x.u<=h.c.W)(g:h.p[j].k=0\/h.p[j].k=1){b:Int}(r:b=(j:Int)):Qaa N ⟨h.c,h.w,h.p.set j x,h.s,b⟩=some true:=by
 have hp:=Xp hN hb ep;have e:=hp.pgs (j:Int) ab ab;have A:X4 h.c h.p j h.p[j]=1:=by
  rcases g with g|g
  .have:=e.free (by simp_all[XbO,f]);rw[XbO f]at this;rw[this];rfl
  have a:=e.space;have b:=e.pins;have c:=e.small (by simp_all[XbO,f]);rw[XbO f]at a b c;exact XfJ g a b c
 have D:∀(p:Wo) (sp:Int),p.k=0\/p.k=1->X7 sp p=false:=by intro p sp h;unfold X7 Kh;rw[show(p.k==3)=false by grind];rfl
 refine Xab hN hb ep ac (λi B=>Xoy f (λsp=>by simp_all) ?_ i B) rfl (.inr ⟨ab,by simp_all,?_⟩)
 .rw[A];exact XfJ v y q z
 unfold pg;simp_all
def XbP(N:Nat)(h:Wi)(n u first:Int):Option (Nat×Int):=
 if 0<=h.b/\u<=Ke h.c/\(pg h.p h.b).s=h.s/\(pg h.p h.b).u+n<=h.c.W then some (h.b.toNat,(pg h.p h.b).u)
 else if 0<=first/\u<Ke h.c then some (first.toNat,0)else none
def YF(h:Wi)(n:Int)(j:Nat)(at_:Int):Wi:=⟨h.c,h.w,h.p.set j ⟨1,h.s,at_+n,(pg h.p (j:Int)).P⟩,h.s,(j:Int)⟩
def XaN(hN:NB N){h:Wi}(hb:HB h)(hp:Uu h){n u f:Int}(Z:0<=n/\n<=300)(J:QcF N h.p=some u)(H:Qba N h.p 1=some f):
 Qer N h n=some (match XbP N h n u f with|some (j,a)=>(YF h n j a,Xc h.c (j:Int) a,true)|none=>(zHp,0,false)):=by
 have x:1000000<N:=by unfold NB at hN;omega
 have y:=hb.2;have hpages:=hp.pages;have K:=Xh.1 hp.conf;have fresh:(bif decide (f<0)then some (zHp,(0:Int),false)else bif decide (u>=Ke h.c)then some (zHp,0,false)else bnd (QbJ N h.p f h.s) λv=>bnd (Xd v.1 f) λz=>bnd (Xd v.1 f) λA=>bnd (Xd v.1 f) λq=>some ((Wi.mk h.c h.w (v.1.set f.toNat (Wo.mk q.k q.s (wI (A.u+n)) q.P)) h.s f),(wU (wI ((wI (4096+(wI (f*h.c.W))))+z.u))),true))=some (match (if 0<=f/\u<Ke h.c then some (f.toNat,(0:Int))else none)with|some (j,a)=>(YF h n j a,Xc h.c (j:Int) a,true)|none=>(zHp,0,false)):=by
  by_cases L:f<0
  .grind
  by_cases M:u>=Ke h.c
  .grind
  rw[XJ L,Wa,XJ M,Wa,Wm ab]
  have g:RunOK h.p f 1:=by
   rcases(Zj (N:=N) (ps:=h.p) 1 ab ab).get_eq H with B|B
   .omega
   .omega
  obtain⟨j,rfl⟩:∃j:Nat,f=(j:Int):=⟨f.toNat,ab⟩
  have I:j<h.p.length:=by have:=g.2.2.1;omega
  have O:=hp.space
  have R:=XE hp.conf (i:=(j:Int)) ab ab
  have et:=XgR x y (Wo.mk 1 h.s 0 0) (Wo.mk 0 0 0 0) 1 ab ab g
  have D:Qdd N h.p (j:Int) 1 (Wo.mk 1 h.s 0 0) (Wo.mk 0 0 0 0)=_:=et
  have r:Z8 h.p (Wo.mk 1 h.s 0 0::List.replicate (1-1) (Wo.mk 0 0 0 0)) j=h.p.set j (Wo.mk 1 h.s 0 0):=by
   unfold Z8
   rw[Il,Wm I];simp
  rw[QbJ,XJ (show¬h.s<0 by omega),Wa,XJ (show¬h.s>1 by omega),Wa,D,show(j:Int).toNat=j from rfl,r,Xa,Xa]
  have S:Xd (h.p.set j (Wo.mk 1 h.s 0 0)) (j:Int)=some (Wo.mk 1 h.s 0 0):=by
   rw[Xf,Od I]
  dsimp only
  have T:(pg h.p (j:Int)).P=0:=by
   have:=(hp.pgs (j:Int) ab ab).free (by have:=g.2.2.2 0 ab ab;assumption)
   rw[this];rfl
  simp only[S,Xa]
  unfold YF Xc
  rw[List.set_set,T,Xe (n:=0+n) ab ab,Xe (n:=(j:Int)*h.c.W) ab ab,Xe (n:=4096+(j:Int)*h.c.W) ab ab,Xe (n:=4096+(j:Int)*h.c.W+0) ab ab,Xw ab ab]
 rw[Qer,Xb ab,Xb8,Xa,J,Xa,Xt,H];simp only[Xa];unfold XbP;by_cases b0:h.b<0
 .grind
 have e:0<=h.b/\h.b<h.p.length/\(pg h.p h.b).k=1:=by
  rcases hp.bump with B|B
  .omega
  omega
 have E:=hp.pgs h.b e.1 e.2.1;have U:=E.small e.2.2;have R:=XE hp.conf (i:=h.b) ab ab;rw[XJ b0,Wa,Xo e.1 e.2.1];simp only[Xa];rw[Xe (n:=(pg h.p h.b).u+n) ab ab];by_cases V:(pg h.p h.b).s=h.s;case neg=>grind
 rw[show((pg h.p h.b).s != h.s)=false by simp_all,Wa];by_cases b2:(pg h.p h.b).u+n>h.c.W
 .grind
 by_cases Y:u>Ke h.c
 .grind
 rw[XJ b2,Wa,XJ Y,Wa,Wm (c:=0<=h.b/\u<=Ke h.c/\_) ab];dsimp only;unfold YF Xc;have G:(h.b.toNat:Int)=h.b:=ab;rw[G,e.2.2,V,Xe (n:=h.b*h.c.W) ab ab,Xe (n:=4096+h.b*h.c.W) ab ab,Xe (n:=4096+h.b*h.c.W+(pg h.p h.b).u) ab ab,Xw ab ab]
end
section
variable {N:Nat}
def Xin(hN:NB N){h:Wi}(hb:HB h)(hp:Uu h){n u f:Int}(V:0<=n/\n<=300)(H:Xn h.c n=0)(I:QcF N h.p=some u)(E:Qba N h.p 1=some f):
 QeB N h n=some (match XbP N h n u f with|some (j,a)=>(YF h n j a,⟨(j:Int),a⟩,0)|none=>(zHp,⟨0,0⟩,3)):=by
 have r:1000000<N:=by unfold NB at hN;omega
 have v:=hb.2;have J:=Xh.1 hp.conf;have fresh:(bif decide (f>=0)then(bif decide (u<Ke h.c)then(bnd (QdM N h.p f h.s) λq=>bif (q.2 != 0)then some (zHp,(I9.mk 0 0),q.2)else bnd (Xd q.1 f) λx=>some ((Wi.mk h.c h.w (q.1.set f.toNat (Wo.mk x.k x.s n x.P)) h.s f),(I9.mk f 0),0))else some (zHp,(I9.mk 0 0),3))else some (zHp,(I9.mk 0 0),3))=some (match (if 0<=f/\u<Ke h.c then some (f.toNat,(0:Int))else none)with|some (j,a)=>(YF h n j a,I9.mk (j:Int) a,(0:Int))|none=>(zHp,I9.mk 0 0,3)):=by
  by_cases K:f>=0
  case neg=>grind
  by_cases L:u<Ke h.c
  case neg=>grind
  rw[We K,Wc,We L,Wc,Wm ab]
  have g:RunOK h.p f 1:=by
   rcases(Zj (N:=N) (ps:=h.p) 1 ab ab).get_eq E with z|z
   .omega
   .omega
  obtain⟨j,rfl⟩:∃j:Nat,f=(j:Int):=⟨f.toNat,ab⟩
  have G:j<h.p.length:=by have:=g.2.2.1;omega
  have M:=hp.space
  have et:=XgR r v (Wo.mk 1 h.s 0 0) (Wo.mk 0 0 0 0) 1 ab ab g
  have A:Qdd N h.p (j:Int) 1 (Wo.mk 1 h.s 0 0) (Wo.mk 0 0 0 0)=_:=et
  have y:Z8 h.p (Wo.mk 1 h.s 0 0::List.replicate (1-1) (Wo.mk 0 0 0 0)) j=h.p.set j (Wo.mk 1 h.s 0 0):=by
   unfold Z8
   rw[Il,Wm G];simp
  rw[XfG r v,QbJ,XJ (show¬h.s<0 by omega),Wa,XJ (show¬h.s>1 by omega),Wa,A,show(j:Int).toNat=j from rfl,y,Xa,Xa]
  have O:Xd (h.p.set j (Wo.mk 1 h.s 0 0)) (j:Int)=some (Wo.mk 1 h.s 0 0):=by
   rw[Xf,Od G]
  dsimp only
  have R:(pg h.p (j:Int)).P=0:=by
   have:=(hp.pgs (j:Int) ab ab).free (by have:=g.2.2.2 0 ab ab;assumption)
   rw[this];rfl
  rw[show((0:Int) != 0)=false from rfl,Wa,O,Xa]
  unfold YF
  rw[List.set_set,R,Int.zero_add]
 rw[QeB,Xcp,I,Xa,XkV,Xa,V8,H,Xa,XJ (show¬(0:Int)>0 by omega),Wa,Xcq r v,E];simp only[Xa,Xt];unfold XbP;by_cases b0:h.b>=0;case neg=>grind
 have e:0<=h.b/\h.b<h.p.length/\(pg h.p h.b).k=1:=by
  rcases hp.bump with z|z
  .omega
  omega
 have B:=hp.pgs h.b e.1 e.2.1;have S:=B.small e.2.2;rw[We b0,Wc];by_cases T:u<=Ke h.c;case neg=>grind
 rw[We T,Wc,Xo e.1 e.2.1,Xa];by_cases U:(pg h.p h.b).s=h.s;case neg=>grind
 rw[show((pg h.p h.b).s==h.s)=true by simp_all,Wc,Xe (n:=h.c.W-(pg h.p h.b).u) ab ab];by_cases b2:n<=h.c.W-(pg h.p h.b).u;case neg=>grind
 rw[We b2,Wc,Wm (c:=0<=h.b/\u<=Ke h.c/\_) ab,Qac,Xa,Xo e.1 e.2.1,Xa,Xa];dsimp only;unfold YF;have D:(h.b.toNat:Int)=h.b:=ab;rw[D,e.2.2,U,Xe (n:=(pg h.p h.b).u+n) ab ab]
def Xoz(hN:NB N){h:Wi}(hb:HB h)(ep:Qaa N h=some true){n u f:Int}(H:1<=n/\n<=h.c.W)(G:Qba N h.p 1=some f){j:Nat}{a:Int}(g:XbP N h n u f=some (j,a)):j<h.p.length/\0<=a/\a+n<=h.c.W/\Qaa N (YF h n j a)=some true:=by
 have hp:=Xp hN hb ep;have I:=hb.2;have A:=hp.space;unfold XbP at g;split at g
 .cases g;have e:0<=h.b/\h.b<h.p.length/\(pg h.p h.b).k=1:=by
   rcases hp.bump with B|B
   .omega
   exact B
  have q:=hp.pgs h.b e.1 e.2.1;have D:=q.small e.2.2;have v:(h.b.toNat:Int)=h.b:=ab;have y:h.b.toNat<h.p.length:=ab;refine⟨y,D.1,ab,?_⟩;unfold YF;rw[v];refine Xim (x:=⟨1,h.s,(pg h.p h.b).u+n,(pg h.p h.b).P⟩) hN hb ep y rfl A q.pins (by show 0<=(pg h.p h.b).u+n/\_;exact⟨ab,by show(pg h.p h.b).u+n<=_;omega⟩) (.inr ?_) v.symm;rw[←XbO y,v];omega
 split at g
 .cases g;have r:RunOK h.p f 1:=by
   rcases(Zj (N:=N) (ps:=h.p) 1 ab (by unfold NB at hN;omega)).get_eq G with B|B
   .omega
   exact B
  have J:=r.2.2.1;have z:(f.toNat:Int)=f:=ab;have y:f.toNat<h.p.length:=ab;have E:(pg h.p f).k=0:=by have:=r.2.2.2 0 ab ab;simpa using this
  refine⟨y,ab,ab,?_⟩;unfold YF;have q:=hp.pgs f ab ab;rw[z];refine Xim (x:=⟨1,h.s,0+n,(pg h.p f).P⟩) hN hb ep y rfl A q.pins (by show 0<=0+n/\_;exact⟨ab,by show 0+n<=_;omega⟩) (.inl ?_) z.symm;rw[←XbO y,z];exact E
 simp_all
end
section
variable {N:Nat}
def Xac(hN:1000000<N)(c:WN)(d:Ws):Qcl N c d=some (Xx d&&(d.k != 0&&Xn c (Xj d) != -1)):=by rw[Qcl,Zp,Xa,XI];simp only[Xa,Zg (show 10<=N by omega)];grind
def Xei{h:Wi}(hb:HB h)(n:Int)(j:Nat)(a:Int):HB (YF h n j a):=⟨hb.1,by show(h.p.set j _).length<=_;rw[WL];exact hb.2⟩
def XjP(hN:NB N){h:Wi}(hb:HB h){d:Ws}(z:tW d.Map)(g:Xn h.c (Xj d)=0):Qew N h d=Qbm N h d:=by
 have e:1000000<N:=by unfold NB at hN;omega
 have A:=hb.2;rw[Qew,Qbm,X8 A e,XbN e];have⟨b,eb⟩:=ZK (N:=N) hN hb;rw[eb,Xa,Xa];cases b with
 |false=>rfl
 |true=>
 rw[Wh,Wa,Wa,Xac e,Xa,Xa];cases q:Xx d with
 |false=>rfl
 |true=>
 cases B:(d.k != 0)with
 |false=>rfl
 |true=>
 have hp:=Xp hN hb eb;have D:=XB q;have L:Xj d=d.n+1:=by unfold Xj;rw[Wm q]
 have E:1<=Xj d/\Xj d<=h.c.W:=by
  have x:1<=Xj d:=ab;refine⟨x,?_⟩;unfold Xn at g;rw[Wm ⟨hp.conf,x⟩]at g;by_cases G:Xj d<=h.c.W / 4
  .omega
  omega
 have⟨u,y,_⟩:=J8 (N:=N) (ps:=h.p) ab ab;have⟨f,r,_⟩:=Zj (N:=N) (ps:=h.p) 1 ab ab;simp only[show((0:Int) != -1)=true from rfl,Bool.and_self,Wh,Wa,YL (show 1000<N by omega),XI,Xa,Zg (show 10<=N by omega),g,XaN hN hb hp (n:=Xj d) ⟨ab,ab⟩ y r,Xin hN hb hp (n:=Xj d) ⟨ab,ab⟩ g y r,Xt,show decide ((0:Int)>0)=false from rfl];cases s:XbP N h (Xj d) u f with
 |none=>rfl
 |some H=>
  have⟨j,a⟩:=H;have⟨M,O,R,I⟩:=Xoz hN hb eb E r s;have J:=hp.pages;have S:=XE hp.conf (i:=(j:Int)) ab ab;have hw:=hp.words;dsimp only;have v:Ym (YF h (Xj d) j a).w (Xc h.c (j:Int) a) (d.n.toNat+1):=by
   unfold Ym Xc;show _/\_<=4096+(h.w.length:Int);constructor
   .omega
   omega
  have⟨T,K⟩:=XfI hN (Xei hb _ j a) I q v;rw[show((0:Int) != 0)=false from rfl,Wa,V9,ZJ,Wj (by simp[hp.conf]),Wm ab,Xa];rw[show((0:Int) != 0)=false from rfl,Wa,Xeh hN (Xei hb _ j a) (by unfold Xc;omega) z,K,Xa];rw[show((0:Int) != 0)=false from rfl,Wa,Wh,Wa];rw[Xa]
end
section
variable {N:Nat}
def Xio{ps l:List Wo}{j:Nat}(h:j+l.length<=ps.length)(i:Nat):(Z8 ps l j)[i]? = if i<j then ps[i]? else if i<j+l.length then l[i-j]? else ps[i]?:=by unfold Z8;grind
def Xmo{α:Type}(q:α->Bool){l e:List α}(f:l.length=e.length)(h:(∀i:Nat,l[i]? = e[i]?)\/∃(i:Nat) (x y:α),l[i]? = some x/\e[i]? = some y/\q x=false/\q y=false):l.all q=e.all q:=by
 rcases h with h|⟨i,x,y,g,j,p,r⟩
 .rw[List.ext_getElem? h]
 grind
def XoA{c:WN}{ps:List Wo}{i:Nat}{p:Wo}{s:Nat}(h:X4 c ps i p=s)(e:2<=s):((ps.drop (i+1)).take (s-1)).all (X7 p.s)=true/\s<=ps.length-i:=by unfold X4 at h;grind
def XoB{c:WN}{ps e:List Wo}(f:e.length=ps.length){i:Nat}(hd:∀m sp,((e.drop (i+1)).take m).all (X7 sp)=((ps.drop (i+1)).take m).all (X7 sp))(p:Wo):X4 c e i p=X4 c ps i p:=by unfold X4;simp_all
def Xej{h:Wi}(e:h.p.length<=100000)(hN:1000000<N):∀(k n j:Nat),j+k<=h.p.length->(∀m,m<k->∀(g:j+m<h.p.length),h.p[j+m]=Y5)->Qae N h (n+k) (j:Int)=Qae N h n ((j+k:Nat):Int)
 |0,n,j,_,_=>rfl
 |k+1,n,j,r,f=>by rw[show n+(k+1)=(n+k)+1 from rfl,Qae,We ab,Wc,Ki e hN (show j<h.p.length by omega),Xa];have:=f 0 ab ab;simp at this;rw[this,XjO,show((((1:Nat)):Int)==0)=false from rfl,Wa,show((1:Nat):Int)=1 from rfl,Xg ab,Xej e hN k n (j+1) ab (λm g q=>by have:=f (m+1) ab ab;simpa only[show j+(m+1)=j+1+m by omega]using this)];grind
def Xek(hN:NB N){h:Wi}(hb:HB h)(ep:Qaa N h=some true){j k:Nat}(hk:1<=k)(hr:RunOK h.p (j:Int) (k:Int)){w:Int}(hw:Xn h.c w=(k:Int)):Qaa N ⟨h.c,h.w,Z8 h.p (Wo.mk 2 h.s w 0::List.replicate (k-1) (Wo.mk 3 h.s 0 0)) j,h.s,h.b⟩=some true:=by
 have r:1000000<N:=by unfold NB at hN;omega
 have hp:=Xp hN hb ep;have J:=hb.2;have hsp:=hp.space;have⟨_,_,hfit,A⟩:=hr;generalize I:(Wo.mk 2 h.s w 0::List.replicate (k-1) (Wo.mk 3 h.s 0 0))=L;have K:L.length=k:=by rw[←I];simp;omega
 have D:j+L.length<=h.p.length:=ab;have u:(Z8 h.p L j).length=h.p.length:=Vh D;have M:∀m,m<k->∀(O:j+m<h.p.length),h.p[j+m]=Y5:=by intro m O x;have:=(hp.pgs ((j:Int)+m) ab ab).free (A m ab ab);rw[show(j:Int)+(m:Int)=((j+m:Nat):Int) by omega,XbO x]at this;exact this
 generalize hq:Z8 h.p L j=e at *;have g:∀i,e[i]? = if i<j then h.p[i]? else if i<j+k then L[i-j]? else h.p[i]?:=by intro i;rw[←hq,Xio D,K]
 have z:∀i(hi:i<h.p.length),(i<j\/j+k<=i)->e[i]'ab=h.p[i]:=by
  intro i hi v;have a:=g i;rw[Wb ab,Wb hi]at a;rcases v with v|v
  .simp_all
  grind
 have E:∀i,(i<j\/j+k<=i)->∀m sp,((e.drop (i+1)).take m).all (X7 sp)=((h.p.drop (i+1)).take m).all (X7 sp):=by
  intro i v m sp;refine Xmo _ (by simp_all) ?_;by_cases hcov:i<j/\j<i+1+m
  .right;refine⟨j-(i+1),Wo.mk 2 h.s w 0,Y5,?_,?_,rfl,rfl⟩
   .rw[Us,Wm ab,UO,show i+1+(j-(i+1))=j by omega,g,Wj ab,Wm ab,U5,←I];rfl
   grind
  grind
 have main:∀(m i n f:Nat),h.p.length-i<=m->i<=h.p.length->(i<=j\/j+k<=i)->h.p.length-i+200<n->h.p.length-i+200<f->Qae N ⟨h.c,h.w,e,h.s,h.b⟩ n (i:Int)=Qae N h f (i:Int):=by
  intro m;induction m with
  |zero=>
   intro i n f h1 h2 h3 h4 h5;obtain⟨n,rfl⟩:∃q,n=q+1:=⟨n-1,ab⟩
   obtain⟨f,rfl⟩:∃q,f=q+1:=⟨f-1,ab⟩
   rw[Qae,Qae];grind
  |succ m ih=>
   intro i n f h1 h2 h3 h4 h5;by_cases x:i<h.p.length;case neg=>
    grind
   by_cases R:i=j
   .subst R;obtain⟨n,rfl⟩:∃q,n=q+1:=⟨n-1,ab⟩
    obtain⟨f,rfl⟩:∃q,f=q+k:=⟨f-k,ab⟩
    rw[Xej J r k f i ab M,Qae];dsimp only;have hx:e[i]'ab=Wo.mk 2 h.s w 0:=by have a:=g i;rw[Wb ab,Wj ab,Wm ab,U5,←I]at a;exact Wz a
    have S:((e.drop (i+1)).take (k-1)).all (X7 h.s)=true:=by
     rw[W0];intro y hy;obtain⟨q,T,rfl⟩:=Wt hy;rw[Wu,WC]at T;have a:=g (i+1+q);have U:L[i+1+q-i]? = some (Wo.mk 3 h.s 0 0):=by rw[←I,show i+1+q-i=q+1 by omega,Ij,IA,Wm ab]
     rw[Wb ab,Wj ab,Wm ab,U]at a;rw[IC,IZ,Wz a];simp[X7,Kh]
    have V:X4 h.c e i (e[i]'ab)=k:=by rw[hx];unfold X4;have W:(Xn h.c w).toNat=k:=ab;rw[Wj (show¬(2:Int)=0 by omega),Wm (by grind),Wj (show¬(2:Int)=1 by omega),Wm rfl];dsimp only;rw[W,Wm ⟨ab,ab,S⟩]
    rw[We ab,Wc,Ki ab r ab,V,Xa,show((k:Int)==0)=false by grind,Wa,Xe ab ab,show(i:Int)+(k:Int)=((i+k:Nat):Int) by omega];exact ih (i+k) n f ab ab (.inr ab) ab ab
   have v:i<j\/j+k<=i:=ab;obtain⟨n,rfl⟩:∃q,n=q+1:=⟨n-1,ab⟩
   obtain⟨f,rfl⟩:∃q,f=q+1:=⟨f-1,ab⟩
   rw[Qae,Qae];dsimp only;rw[u,We ab,Wc,Wc,Ki ab r ab,Ki J r x,z i x v,XoB u (E i v),Xa,Xa];have G:=XoA (c:=h.c) (ps:=h.p) (i:=i) (p:=h.p[i]) rfl;generalize X4 h.c h.p i h.p[i]=s at *;by_cases h0:s=0
   .simp_all
   rw[show((s:Int)==0)=false by simpa using h0,Wa,Wa,Xe ab ab,show(i:Int)+(s:Int)=((i+s:Nat):Int) by omega];refine ih (i+s) n f ab ab ?_ ab ab;rcases v with v|v
   .left;by_cases Y:2<=s
    .have⟨ha,_⟩:=G Y;by_cases Z:i+s<=j
     .exact Z
     rw[W0]at ha;have O:Y5∈(h.p.drop (i+1)).take (s-1):=by refine W3 (i:=j-(i+1)) ?_;rw[Us,Wm ab,UO,show i+1+(j-(i+1))=j by omega,Wb ab];have:=M 0 ab ab;simp only[IW]at this;rw[this]
     have:=ha _ O;cases this
    omega
   omega
 have B:h.b = -1\/(0<=h.b/\h.b<e.length/\(pg e h.b).k=1):=by
  rcases hp.bump with hh|⟨b0,b1,b2⟩
  .omega
  have⟨q,hq2⟩:∃q:Nat,h.b=(q:Int):=⟨h.b.toNat,ab⟩
  rw[hq2]at b1 b2⊢;have H:q<h.p.length:=ab;rw[XbO H]at b2;by_cases hin:q<j\/j+k<=q
  .rw[XbO ab,z q H hin];omega
  have:=M (q-j) ab ab;simp only[show j+(q-j)=q by omega]at this;rw[this]at b2;cases b2
 rw[←X8 (by simp_all) r,Kz (h:=⟨h.c,h.w,e,h.s,h.b⟩) ⟨hp.conf,hp.words,by rw[u];exact hp.pages,hp.space,B⟩];have:=main h.p.length 0 N N ab ab (.inl ab) ab ab;rw[show((0:Nat):Int)=0 from rfl]at this;rw[this,←Kz hp.pre,X8 J r,ep]
end
section
variable {N:Nat}
def JQ(h:Wi)(n:Int)(j k:Nat):Wi:=⟨h.c,h.w,Z8 h.p (Wo.mk 2 h.s n 0::List.replicate (k-1) (Wo.mk 3 h.s 0 0)) j,h.s,h.b⟩
def Xip(hN:1000000<N){h:Wi}(e:h.p.length<=100000)(hp:Uu h){n:Int}{j k:Nat}(f:1<=k)(g:k<=4)(hw:Xn h.c n=(k:Int))(q:RunOK h.p (j:Int) (k:Int)):QdK N h.c h.p (j:Int) h.s n=some ((JQ h n j k).p,0):=by have r:=hp.space;rw[QdK,Zg ab,Xa,hw,XJ (show¬(k:Int)<1 by omega),Wa,XJ (show¬h.s<0 by omega),Wa,XJ (show¬h.s>1 by omega),Wa,XgR hN e _ _ k f ab q,Xa];rfl
def Xiq{h:Wi}(hb:HB h)(n:Int){j k:Nat}(e:1<=k)(f:j+k<=h.p.length):HB (JQ h n j k):=⟨hb.1,by
 show(Z8 h.p _ j).length<=_
 rw[Vh (by simp_all)];exact hb.2⟩
def XjQ(hN:NB N){h:Wi}(hb:HB h){d:Ws}(T:tW d.Map)(A:0<Xn h.c (Xj d)):Qew N h d=Qbm N h d:=by
 have e:1000000<N:=by unfold NB at hN;omega
 have z:=hb.2;rw[Qew,Qbm,X8 z e,XbN e];have⟨b,eb⟩:=ZK (N:=N) hN hb;rw[eb,Xa,Xa];cases b with
 |false=>rfl
 |true=>
 rw[Wh,Wa,Wa,Xac e,Xa,Xa];cases B:Xx d with
 |false=>rfl
 |true=>
 cases U:(d.k != 0)with
 |false=>rfl
 |true=>
 have hp:=Xp hN hb eb;have V:=Xh.1 hp.conf;have Y:=XB B;have hpages:=hp.pages;have hs:Xj d=d.n+1:=by unfold Xj;rw[Wm B]
 have D:=KC h.c (Xj d);have⟨k,r⟩:∃k:Nat,Xn h.c (Xj d)=(k:Int):=⟨(Xn h.c (Xj d)).toNat,ab⟩
 have q:=Xgo hp.conf (w:=Xj d) ab;rw[r]at q A D⊢;have⟨u,I,hu⟩:=J8 (N:=N) (ps:=h.p) ab ab;have⟨f1,E,_⟩:=Zj (N:=N) (ps:=h.p) 1 ab ab;have⟨f,J,Z⟩:=Zj (N:=N) (ps:=h.p) (k:Int) ab ab;have K:0<=Ke h.c/\Ke h.c<=16:=by unfold Ke;rw[Wm hp.conf];omega
 have e1:((k:Int) != -1)=true:=by simp
 simp only[e1,Bool.and_self,Wh,Wa,YL (show 1000<N by omega),XI,Xa,Zg (show 10<=N by omega),r,XaN hN hb hp (n:=Xj d) ⟨ab,ab⟩ I E,Xt,We (show(k:Int)>0 by omega),Wc];rw[Qes,J,Xa,QeB,Xcp,I,Xa,XkV,Xa,V8,r,Xa,We (show(k:Int)>0 by omega),Wc,Xcq e z,J,Xa,Xt];by_cases L:f>=0;case neg=>
  rw[Wg L,Wa,Xa,We (show f<0 by omega),Wc,Xa];rfl
 rw[We L,Wc,XJ (show¬f<0 by omega),Wa,Xb8];simp only[Xa];rw[Xe (n:=Ke h.c-(k:Int)) ab ab,Xe (n:=u+(k:Int)) ab ab];by_cases M:u<=Ke h.c-(k:Int);case neg=>
  rw[Wg M,Wa,Xa,We (show u+(k:Int)>Ke h.c by omega),Wc,Xa];rfl
 rw[We M,Wc,XJ (show¬u+(k:Int)>Ke h.c by omega),Wa,Xmm e z];have g:RunOK h.p f (k:Int):=by
  rcases Z with O|O
  .omega
  exact O
 obtain⟨j,rfl⟩:∃j:Nat,f=(j:Int):=⟨f.toNat,ab⟩
 have R:=g.2.2.1;rw[Xip e z hp ab ab r g];simp only[Xa];have G:=Xek hN hb eb ab g r;have v:=Xiq hb (Xj d) (j:=j) (k:=k) ab ab;have hm:=XE hp.conf (i:=(j:Int)) ab ab;have hw:=hp.words;have x:((j:Int)+(k:Int))*h.c.W<=h.c.p*h.c.W:=WU ab ab;rw[UY]at x;have H:Ym (JQ h (Xj d) j k).w (Xc h.c (j:Int) 0) (d.n.toNat+1):=by
  unfold Ym Xc;show _/\_<=4096+(h.w.length:Int);constructor
  .omega
  have:(((d.n.toNat+1:Nat)):Int)=Xj d:=ab;rw[this];omega
 have⟨y,S⟩:=XfI hN v G B H;have ea:wU (wI (4096+wI ((j:Int)*h.c.W)))=Xc h.c (j:Int) 0:=by unfold Xc;rw[Xe (n:=(j:Int)*h.c.W) ab ab,Xe (n:=4096+(j:Int)*h.c.W) ab ab,Xw ab ab];omega
 rw[show((0:Int) != 0)=false from rfl,Wa,V9,ZJ,Wj (by rw[hp.conf];simp),Wm ab,Xa];rw[show((0:Int) != 0)=false from rfl,Wa,ea,Wh,Wa];have e3:Qff N (Wi.mk h.c h.w (JQ h (Xj d) j k).p h.s h.b) (Xc h.c (j:Int) 0) d=some (y,0):=(Xeh hN v (by unfold Xc;omega) T).trans S;have e4:Qa1 N (Wi.mk h.c h.w (JQ h (Xj d) j k).p h.s h.b) (Xc h.c (j:Int) 0) d=some (y,0):=S;simp[e3,e4,Xa]
def XkW(hN:NB N){h:Wi}(hb:HB h){d:Ws}(f:tW d.Map):Qew N h d=Qbm N h d:=by
 have g:=KC h.c (Xj d);by_cases j:Xn h.c (Xj d)=0
 .exact XjP hN hb f j
 by_cases p:0<Xn h.c (Xj d)
 .exact XjQ hN hb f p
 have e:1000000<N:=by unfold NB at hN;omega
 have q:Xn h.c (Xj d) = -1:=ab;rw[Qew,Qbm,X8 hb.2 e,XbN e,Xac e,q];have⟨b,eb⟩:=ZK (N:=N) hN hb;simp[eb,Xa]
end
def GR{β:Type}(N:Nat)(c:WN)(sp n:Int)(ps:List Wo)(tk:List Int)(g:Int->Int->Int->List Wo->List Int->Option β):Option β:=
 grd (tk.length<=140737488355328) <|
 jn (λ(_:Unit)=>
  bnd (QdN N ps 1) λe=>
  bif (decide (e<0))then g 0 0 3 ps tk
  else bnd (QdM N ps e (wI (1-sp))) λh=>
  bif (h.2 != 0)then none
  else grd ((tk.length+1)*8<=140737488355328) <|
  g e 0 0 h.1 (tk++[e])) λf=>
 bif (decide ((tk.length:Int)>0))then(bnd (Xd tk (wI ((tk.length:Int)-1))) λq=>
  bif (decide (q>=0))then(bnd (Xd tk (wI ((tk.length:Int)-1))) λr=>
   grd (ps.length<=140737488355328) <|
   bif (decide (r<(ps.length:Int)))then(bnd (Xd tk (wI ((tk.length:Int)-1))) λj=>
    bnd (Xd ps j) λp=>
    bif (decide (n<=(wI (c.W-p.u))))then g j p.u 0 ps tk
    else f ())
   else f ())
  else f ())
 else f ()
def FT{β:Type}(N:Nat)(c:WN)(cp:Int)(ws:List Int)(ps:List Wo)(q:List Int)(f h:Int)(p:Int->Int->Int->List Int->List Wo->List Int->Option β)(i u:Int):Option β:=
 bnd (Qdj N c i u) λg=>
 bif (g.2 != 0)then p 0 g.2 cp ws ps q
 else grd ((h.toNat-f.toNat)<=140737488355328) <|
 bnd (Qco N c g.1) λe=>
 bif (e.2.2 != 0)then(bnd (Qb4 N g.1) λx=>
  p 0 19 cp ws ps q)
 else grd (ws.length<=140737488355328) <|
 bif (decide ((((h.toNat-f.toNat):Nat):Int)>(wI ((ws.length:Int)-(wI ((wI (e.1*c.W))+e.2.1))))))then(bnd (Qb4 N g.1) λy=>
  p 0 19 cp ws ps q)
 else grd (0<=(wI ((wI (e.1*c.W))+e.2.1))/\(wI ((wI (e.1*c.W))+e.2.1))<=(wI ((wI ((wI (e.1*c.W))+e.2.1))+(((h.toNat-f.toNat):Nat):Int)))/\(wI ((wI ((wI (e.1*c.W))+e.2.1))+(((h.toNat-f.toNat):Nat):Int)))<=(ws.length:Int)) <|
 bnd (Qb4 N g.1) λr=>
 bif (r.2 != 0)then p 0 19 cp ws ps q
 else grd ((h.toNat-f.toNat)<=((wI ((wI ((wI (e.1*c.W))+e.2.1))+(((h.toNat-f.toNat):Nat):Int))).toNat-(wI ((wI (e.1*c.W))+e.2.1)).toNat)) <|
 bnd (KM (((ws.take (wI ((wI (e.1*c.W))+e.2.1)).toNat)++((ws.drop f.toNat).take (h.toNat-f.toNat)))++(ws.drop ((wI ((wI (e.1*c.W))+e.2.1)).toNat+(h.toNat-f.toNat)))) (f.toNat) (h.toNat-f.toNat) 0) λz=>
 bnd (Xd ps i) λv=>
 grd ((h.toNat-f.toNat)<=140737488355328) <|
 bnd (Xd ps i) λj=>
 grd ((q.length+1)*8<=140737488355328) <|
 p g.1 0 (wI (cp+1)) ((((ws.take (wI ((wI (e.1*c.W))+e.2.1)).toNat)++((ws.drop f.toNat).take (h.toNat-f.toNat)))++(ws.drop ((wI ((wI (e.1*c.W))+e.2.1)).toNat+(h.toNat-f.toNat)))).set f.toNat r.1) (ps.set i.toNat (Wo.mk j.k j.s (wI (v.u+(((h.toNat-f.toNat):Nat):Int))) j.P)) (q++[g.1])
section
variable {N:Nat}
def Xad(l:List Int)(x:Int)(f:l.length<=1000000)(hN:1000000<N):Qaj N l x=some (l.contains x):=by
 rw[Qaj,QbV];rw[JP (p:=λy:Int=>(x==y)) f hN (λn j y e=>by
  have g:=Xy e
  rw[Qay,Xi g,Wc,Xf,e,Xa,Xg ab]) (λn=>by rw[Qay,Xz,Wa])]
 rw[Xa,Ky,List.contains_eq_any_beq]
def Xmp(l:List Int)(x:Int)(f:l.length<=1000000)(hN:1000000<N):Qbc N l x=some (l.contains x):=by
 rw[Qbc,Qem];rw[JP (p:=λy:Int=>(x==y)) f hN (λn j y e=>by
  have g:=Xy e
  rw[QbN,Xi g,Wc,Xf,e,Xa,Xg ab]) (λn=>by rw[QbN,Xz,Wa])]
 rw[Xa,Ky,List.contains_eq_any_beq]
def XfK(w:Wv)(i:Int)(g:w.t.length<=1000000)(hN:1000000<N):QgA N w i=some (w.t.contains i):=by
 have h:∀(n k:Nat),k<=w.t.length->w.t.length-k<n->QcY N w i n (k:Int)=some (bif (w.t.drop k).contains i then .ret true else .nxt ()):=by
  intro n;induction n with
  |zero=>omega
  |succ n f=>
   intro k j p;by_cases h:k<w.t.length
   .rw[QcY,Xi h,Wc,Xf,Wb h,Xa,Xg ab,Wl h,List.contains_cons];by_cases e:w.t[k]=i
    .rw[Xr e,Wc,Xr e.symm,Bool.true_or,Wc]
    rw[Xk e,Wa,Xk (λh=>e h.symm),Iz];exact f (k+1) ab ab
   obtain rfl:k=w.t.length:=ab;rw[QcY,Xz,Wa,WY (Uh _)];rfl
 have h:=h N 0 ab ab;rw[show((0:Nat):Int)=0 from rfl,WX]at h;rw[QgA,h,Xa];cases w.t.contains i
 .rw[Wa,Xm]
 simp[Wc,Xs]
def Xel(hN:1000000<N){v:Int}(s:tU v):QeR N v=QcB N v:=by
 obtain⟨m,rfl⟩:∃m,N=m+5:=⟨N-5,ab⟩
 have⟨f,u⟩:=s;have j:wI (0+1)=1:=Xe ab ab;have p:wI (1+1)=2:=Xe ab ab;have x:wI (64-2)=62:=Xe ab ab;have y:wI (62-32)=30:=Xe ab ab;have e:([(2:Int),32].length:Nat)=2:=rfl;have q:Xd [(2:Int),32] 0=some 2:=by unfold Xd;rfl
 have g1:Xd [(2:Int),32] 1=some 32:=by unfold Xd;rfl
 have z:QaV (m+5) v [2,32] (m+5) 64 0=some (.nxt ()):=by rw[QaV,e,q];simp only[Xa,j,x];rw[QaV,e,g1];simp only[Xa,p,y];rw[QaV,e];rfl
 have A:Qc1 (m+5) 2=some 3:=JC ab ab ab;have B:Qc1 (m+5) 32=some 4294967295:=JC ab ab ab;have r:Yz .u64 v 2=v / 4:=Y3 v 2 ab f;have D:Yz .u64 (v / 4) 32=v / 4 / 4294967296:=Y3 (v / 4) 32 ab ab;have E:Zq .u64 v 3=v % 4:=Y4 v 2 ab f u;have G:Zq .u64 (v / 4) 4294967295=v / 4 % 4294967296:=Y4 (v / 4) 32 ab ab ab;have H:QaW (m+5) [2,32] (m+5) v 0 []=some (v / 4 / 4294967296,[v % 4,v / 4 % 4294967296]):=by rw[QaW,e,q];rw[We ab,Wc,Xa,A,Xa,Xb ac,Xb ab,r,E,j];rw[QaW,e,g1];rw[We ab,Wc,Xa,B,Xa,Xb ac,Xb ab,D,G,p];rw[QaW,e];rw[Wg ab,Wa];rfl
 rw[QeR,Qfb,z,Xa,Xm,H,Xa,QcB,r,IO f];by_cases h:v / 4 / 4294967296=0
 .rw[h];by_cases g:v % 4=2
  .rw[g];have:v / 4 % 4294967296=v / 4:=ab;rw[this,Wg ab];rw[show((0:Int) != 0)=false from rfl,Wa,Xa];rw[show Xd [(2:Int),v / 4] 0=some 2 by unfold Xd;rfl,Xa,show Xd [(2:Int),v / 4] 1=some (v / 4) by unfold Xd;rfl,Xa];rfl
  rw[Xl g,Wc];rw[show((0:Int) != 0)=false from rfl,Wa,Xa];show bnd (Xd [v % 4,v / 4 % 4294967296] 0) _=_;rw[show Xd [v % 4,v / 4 % 4294967296] 0=some (v % 4) by unfold Xd;rfl,Xa,Xl g,Wc]
 rw[Xl h,Wc,Xa];grind
def Xir(hN:1000000<N){a:Int}(g:0<=a)(B:a<4294967296):Qb4 N a=QcR N a:=by
 rw[Qb4,JC ab ab ab,Xa,QcR,Wg (by show¬a>4294967295;omega),Wg ab,Wa,Wa];obtain⟨n,rfl⟩:∃n,N=n+5:=⟨N-5,ab⟩
 generalize f:[(Ik.mk 2 2),(Ik.mk 32 a)]=L;have e:L.length=2:=by rw[←f];rfl
 have h:Xd L 0=some (Ik.mk 2 2):=by rw[←f];unfold Xd;rfl
 have g1:Xd L 1=some (Ik.mk 32 a):=by rw[←f];unfold Xd;rfl
 have j:wI (0+1)=1:=Xe ab ab;have p:wI (1+1)=2:=Xe ab ab;have q:wI (64-2)=62:=Xe ab ab;have r:wI (62-32)=30:=Xe ab ab;have k2:wI (0+2)=2:=Xe ab ab;have s:wI (2+32)=34:=Xe ab ab;have u:Qbo (n+5) L (n+5) 64 0=some (.nxt ()):=by rw[Qbo,e,h];simp only[Xa,j,q];rw[Qbo,e,g1];simp only[Xa,p,r];rw[Qbo,e];rfl
 have f0:QdW (n+5) 2 2=some true:=Xcr ab ab ab ab ag;have f1:QdW (n+5) a 32=some true:=Xcr ab ab ab g (by show a<4294967296;omega);have v:ZY .u64 2 0=2:=by decide +kernel
 have x:ZY .u64 a 2=a*2 ^ 2:=by show wU (a*4)=a*4;exact Xw ab ab
 have y:bOr .u64 0 2=2:=by decide +kernel
 have z:bOr .u64 2 (a*2 ^ 2)=2+a*2 ^ 2:=Xc8 ab ab ag g ab;have A:Qbp (n+5) L (n+5) 0 0 0=some (.nxt (2+a*2 ^ 2)):=by rw[Qbp,e,h];simp only[Xa,f0,j,k2,v,y];rw[We ab,Wc,Wh,Wa,Xb ab];rw[Qbp,e,g1];simp only[Xa,f1,p,s,x,z];rw[We ab,Wc,Wh,Wa,Xb ab];rw[Qbp,e];rw[Wg ab,Wa]
 rw[Qgg,u,Xa,Xm,A,Xa,Xm,Xa,Xw (n:=4*a) ab ab,Xw ab ab];grind
end
section
variable {N:Nat}{h0:Wi}{l:List Int}
structure So(h0:Wi)(w:Wv)(n j u:Int)(ps:List Wo):Prop where
 rng:0<=j/\j<ps.length
 len:ps.length=w.h.p.length
 fit:0<=u/\u+n<=h0.c.W
 used:(pg ps j).u=u
 sp:∀i,0<=i->pg ps i=pg w.h.p i\/(pg ps i).s=1-h0.s
def XsO(hN:NB N)(hb:HB h0)(hp:Uu h0){w:Wv}(E:CI h0 l w){n:Int}(hn:1<=n)(hn2:n<=h0.c.W){β:Type}(A:Int->Int->Int->List Wo->List Int->Option β):
 (∃r,QcC N w n=some r/\r.2.2=false/\GR N h0.c h0.s n w.h.p w.t A=A 0 0 3 w.h.p w.t) \/
 ∃j u ps tk,So h0 w n j u ps/\QcC N w n=some (⟨⟨w.h.c,w.h.w,ps.set j.toNat ⟨(pg ps j).k,(pg ps j).s,wI ((pg ps j).u+n),(pg ps j).P⟩,w.h.s,w.h.b⟩,w.o,tk,w.q,w.d,w.r⟩,Xc h0.c j u,true) /\
  GR N h0.c h0.s n w.h.p w.t A=A j u 0 ps tk:=by
 have R:=hN;unfold NB at R;have hpl:=E.plen;have hv:=Xh.1 hp.conf;have htl:=E.tl hb;have hpp:=hp.pages;have hsp:=hp.space;have S:=E.spc;have U:∀j u:Int,0<=j->j<w.h.p.length->0<=u->u+n<=h0.c.W->wU (wI (wI (4096+wI (j*w.h.c.W))+u))=Xc h0.c j u:=by intro j u h1 h2 h3 h4;have hm:=XE hp.conf (i:=j) h1 ab;rw[E.conf,Xe (n:=j*h0.c.W) ab ab,Xe (n:=4096+j*h0.c.W) ab ab,Xe ab ab,Xw ab ab];rfl
 rw[QcC,GR];rw[Xb ab,Xb ab,Xt,Xt];have new:(∃r,(bnd (Qba N w.h.p 1) λv=>
  bif (decide (v<0))then some ((Wv.mk zHp [] [] [] 0 (WT.mk 0 0 0 0 0 0)),0,false)
  else bnd (QbJ N w.h.p v (wI (1-w.h.s))) λB=>
  grd (w.t.length*8<=140737488355328) <|
  grd ((w.t.length+1)*8<=140737488355328) <|
  bnd (Xd B.1 v) λG=>
  bnd (Xd B.1 v) λH=>
  bnd (Xd B.1 v) λx=>
  some ((Wv.mk (Wi.mk w.h.c w.h.w (B.1.set v.toNat (Wo.mk x.k x.s (wI (H.u+n)) x.P)) w.h.s w.h.b) w.o (w.t++[v]) w.q w.d w.r),(wU (wI ((wI (4096+(wI (v*w.h.c.W))))+G.u))),true))=some r/\r.2.2=false /\
   (bnd (QdN N w.h.p 1) λf=>
    bif (decide (f<0))then A 0 0 3 w.h.p w.t
    else bnd (QdM N w.h.p f (wI (1-h0.s))) λz=>
    bif (z.2 != 0)then none
    else grd ((w.t.length+1)*8<=140737488355328) <|
    A f 0 0 z.1 (w.t++[f]))=A 0 0 3 w.h.p w.t) \/
  ∃j u ps tk,So h0 w n j u ps/\(bnd (Qba N w.h.p 1) λv=>
  bif (decide (v<0))then some ((Wv.mk zHp [] [] [] 0 (WT.mk 0 0 0 0 0 0)),0,false)
  else bnd (QbJ N w.h.p v (wI (1-w.h.s))) λB=>
  grd (w.t.length*8<=140737488355328) <|
  grd ((w.t.length+1)*8<=140737488355328) <|
  bnd (Xd B.1 v) λG=>
  bnd (Xd B.1 v) λH=>
  bnd (Xd B.1 v) λx=>
  some ((Wv.mk (Wi.mk w.h.c w.h.w (B.1.set v.toNat (Wo.mk x.k x.s (wI (H.u+n)) x.P)) w.h.s w.h.b) w.o (w.t++[v]) w.q w.d w.r),(wU (wI ((wI (4096+(wI (v*w.h.c.W))))+G.u))),true))=some (⟨⟨w.h.c,w.h.w,ps.set j.toNat ⟨(pg ps j).k,(pg ps j).s,wI ((pg ps j).u+n),(pg ps j).P⟩,w.h.s,w.h.b⟩,w.o,tk,w.q,w.d,w.r⟩,Xc h0.c j u,true) /\
   (bnd (QdN N w.h.p 1) λf=>
    bif (decide (f<0))then A 0 0 3 w.h.p w.t
    else bnd (QdM N w.h.p f (wI (1-h0.s))) λz=>
    bif (z.2 != 0)then none
    else grd ((w.t.length+1)*8<=140737488355328) <|
    A f 0 0 z.1 (w.t++[f]))=A j u 0 ps tk:=by
  obtain⟨j,ej,hj⟩:=Zj (N:=N) (ps:=w.h.p) 1 ab ab
  rw[Xcq ab ab,ej,Xa,Xa]
  rcases hj with rfl|hr
  .exact .inl ⟨_,rfl,rfl,rfl⟩
  .refine .inr ?_
   obtain⟨y,ey,V⟩:=XdI (N:=N) (ps:=w.h.p) j (1-h0.s) ab ab
   have I:=V.2.2 hr ab ab
   have⟨L,q1,q2,Y⟩:=V.1 I
   have J:j<y.1.length:=ab
   have g:pg y.1 j=⟨1,1-h0.s,0,0⟩:=by rw[Y j L,Wm rfl]
   rw[Xe (n:=1-h0.s) ab ab,XfG ab ab,S,Xe (n:=1-h0.s) ab ab,ey,Xa,Xa,Wg ab,Wa,Wa,Xb ab,Xb ab,Xo L J,Xa,Xa,Xa,I,Xb ab]
   refine⟨j,0,y.1,w.t++[j],⟨⟨L,J⟩,ab,⟨ab,ab⟩,by rw[g],λi K=>?_⟩,?_,rfl⟩
   .by_cases e:i=j
    .subst e;rw[g];exact .inr rfl
    .rw[Y i K,Wj e,Wj ab];exact .inl rfl
   .rw[show(pg y.1 j).u=0 by rw[g],U j 0 L ab ab ab]
 by_cases ht:0<(w.t.length:Int)
 .rw[We ab,Wc,Wc,Xe (n:=(w.t.length:Int)-1) ab ab];have K:=X6 (l:=w.t) (i:=(w.t.length:Int)-1) ab ab;generalize w.t[((w.t.length:Int)-1).toNat]'ab=j at K;have⟨M,O,t2,Z,t4⟩:=E.tk j (Ys K);rw[K,Xa,Xa,Xa,Xa,Xa,Xo M O,Xa,Xa,Xa,Xa,Xa,We (p:=j>=0) M,Wc,Xb ab,We (p:=j<_) O,Wc,E.conf];have T:=Xe (n:=(pg w.h.p j).u+n) ab ab;have e2:=Xe (n:=h0.c.W-(pg w.h.p j).u) ab ab;by_cases D:(pg w.h.p j).u+n<=h0.c.W
  .rw[T,e2,We (p:=(pg w.h.p j).u+n<=h0.c.W) D,We (p:=n<=h0.c.W-(pg w.h.p j).u) ab,Wc,Wc];refine .inr ⟨j,(pg w.h.p j).u,w.h.p,w.t,⟨⟨M,O⟩,rfl,⟨Z,D⟩,rfl,λi _=>.inl rfl⟩,?_,rfl⟩;have:=U j (pg w.h.p j).u M O Z D;rw[E.conf]at this;rw[this,T]
  rw[T,e2,Wg (p:=(pg w.h.p j).u+n<=h0.c.W) D,Wg (p:=n<=h0.c.W-(pg w.h.p j).u) ab,Wa,Wa];rw[E.conf]at new;exact new
 grind
def XsP(hN:NB N)(hb:HB h0)(hp:Uu h0){w:Wv}(v:CI h0 l w){n:Int}(B:1<=n)(x:n<=h0.c.W):
 (∃r,QcC N w n=some r/\r.2.2=false/\Qcu N w n=some (0,0,3,w.h.p,w.t)) \/
 ∃j u ps tk,So h0 w n j u ps/\QcC N w n=some (⟨⟨w.h.c,w.h.w,ps.set j.toNat ⟨(pg ps j).k,(pg ps j).s,wI ((pg ps j).u+n),(pg ps j).P⟩,w.h.s,w.h.b⟩,w.o,tk,w.q,w.d,w.r⟩,Xc h0.c j u,true) /\
  Qcu N w n=some (j,u,0,ps,tk):=by
 have h:=XsO hN hb hp v B x λy z A f g=>some (y,z,A,f,g);have e:Qcu N w n=GR N h0.c h0.s n w.h.p w.t λy z A f g=>some (y,z,A,f,g):=by rw[←v.conf,←v.spc,Qcu,Xt];rfl
 simp_all
end
section
variable {N:Nat}
def Zt{ps:List Wo}{i:Nat}(h:i<ps.length):pg ps (i:Int)=ps[i]:=by unfold pg;simp_all
def XsQ{ps e:List Wo}(f:e.length=ps.length)(h:∀i,0<=i->pg e i=pg ps i):e=ps:=by refine IJ f λi g j=>?_;rw[←Zt g,←Zt j];simp_all
def XsR{ps:List Wo}(q:Wo->Bool){i k:Nat}(h:i+1+k<=ps.length):((ps.drop (i+1)).take k).all q=true↔∀m:Int,1<=m->m<=k->q (pg ps (i+m))=true:=by
 rw[W0];constructor
 .intro f m p r;have e:pg ps (i+m)=((ps.drop (i+1)).take k)[m.toNat-1]'(by rw[Wu,WC];omega):=by rw[IC,IZ,←Zt];congr 1;omega
  grind
 intro f x g;obtain⟨m,j,rfl⟩:=Wt g;rw[Wu,WC]at j;rw[IC,IZ,←Zt];have:=f (m+1) ab ab;grind
structure O8(c:WN)(ps:List Wo)(i:Int):Prop where
 sp:0<=(pg ps i).s/\(pg ps i).s<=1
 pn:0<=(pg ps i).P/\(pg ps i).P<=2147483647
 k0:(pg ps i).k=0->pg ps i=Y5
 k1:(pg ps i).k=1->0<=(pg ps i).u/\(pg ps i).u<=c.W
 k2:(pg ps i).k=2->1<=Xn c (pg ps i).u/\i+Xn c (pg ps i).u<=ps.length/\∀m,1<=m->m<Xn c (pg ps i).u->(pg ps (i+m)).k=3/\(pg ps (i+m)).s=(pg ps i).s/\(pg ps (i+m)).u=0/\(pg ps (i+m)).P=0
 kd:(pg ps i).k=0\/(pg ps i).k=1\/(pg ps i).k=2
def XfL{s:Int}{p:Wo}:X7 s p=true↔p.k=3/\p.s=s/\p.u=0/\p.P=0:=by unfold X7 Kh;grind
def XbQ{c:WN}{ps:List Wo}{i:Nat}(A:i<ps.length):(X4 c ps i ps[i]≠0↔O8 c ps i)/\(O8 c ps i->X4 c ps i ps[i]=if ps[i].k=2 then(Xn c ps[i].u).toNat else 1):=by
 have e:=Zt A;generalize hp:ps[i]=p at *;have tl:∀(h:i+Xn c p.u<=ps.length) (g:1<=Xn c p.u),((ps.drop (i+1)).take ((Xn c p.u).toNat-1)).all (X7 p.s)=true↔∀m,1<=m->m<Xn c p.u->(pg ps (i+m)).k=3/\(pg ps (i+m)).s=p.s/\(pg ps (i+m)).u=0/\(pg ps (i+m)).P=0:=λh g=>by rw[XsR _ ab];exact⟨λq m a b=>XfL.1 (q m a ab),λq m a b=>XfL.2 (q m a ab)⟩
 unfold X4;constructor
 .constructor
  .intro h;by_cases h0:p.k=0
   .rw[Wm h0]at h;by_cases g:p.s=0/\p.u=0/\p.P=0
    .obtain⟨a,b,d⟩:=g;refine⟨?_,?_,?_,?_,?_,?_⟩<;>rw[e]
     .omega
     .omega
     .intro _;obtain⟨k,s,u,q⟩:=p;simp_all[Y5]
     .intro h;omega
     .intro h;omega
     exact .inl h0
    rw[Wj g]at h;exact absurd rfl h
   rw[Wj h0]at h;by_cases g:(p.s=0\/p.s=1)/\0<=p.P/\p.P<=2147483647;rotate_left
   .rw[Wj g]at h;exact absurd rfl h
   rw[Wm g]at h;by_cases x:p.k=1
   .rw[Wm x]at h;by_cases j:0<=p.u/\p.u<=c.W
    .refine⟨?_,?_,?_,?_,?_,?_⟩<;>rw[e]
     .omega
     .omega
     .intro h;omega
     .exactλ_=>j
     .intro h;omega
     exact .inr (.inl x)
    rw[Wj j]at h;exact absurd rfl h
   rw[Wj x]at h;by_cases j:p.k=2;rotate_left
   .rw[Wj j]at h;exact absurd rfl h
   by_cases y:1<=Xn c p.u/\(Xn c p.u).toNat<=ps.length-i/\((ps.drop (i+1)).take ((Xn c p.u).toNat-1)).all (X7 p.s)=true
   .refine⟨?_,?_,?_,?_,?_,?_⟩<;>rw[e]
    .omega
    .omega
    .omega
    .omega
    .exactλ_=>⟨y.1,ab,(tl ab y.1).1 y.2.2⟩
    exact .inr (.inr j)
   simp_all
  intro b;have f:=b.kd;have z:=b.sp;have r:=b.pn;have b0:=b.k0;have v:=b.k1;have b2:=b.k2;rw[e]at f z r b0 v b2;rcases f with f|f|f
  .rw[Wm f,b0 f,Wm ⟨rfl,rfl,rfl⟩];omega
  .rw[Wj ab,Wm ⟨ab,r⟩,Wm f,Wm (v f)];omega
  grind
 intro b;have f:=b.kd;have z:=b.sp;have r:=b.pn;have b0:=b.k0;have v:=b.k1;have b2:=b.k2;rw[e]at f z r b0 v b2;rcases f with f|f|f
 .rw[Wm f,b0 f,Wm ⟨rfl,rfl,rfl⟩];rfl
 .rw[Wj ab,Wm ⟨ab,r⟩,Wm f,Wm (v f),Wj ab]
 grind
structure OS(c:WN)(ps:List Wo):Prop where
 hd:∀i:Int,0<=i->i<ps.length->(pg ps i).k≠3->O8 c ps i
 tl:∀i:Int,0<=i->i<ps.length->(pg ps i).k=3->∃k:Int,0<=k/\k<i/\O8 c ps k/\(pg ps k).k=2/\i<k+Xn c (pg ps k).u
def Xis{h:Wi}(q:h.p.length<=100000)(hN:1000000<N):∀(n i:Nat),i<=h.p.length->Qae N h n (i:Int)=some (.nxt ())->∀j:Nat,i<=j->j<h.p.length->∃k s:Nat,i<=k/\k<=j/\j<k+s/\∃u:k<h.p.length,X4 h.c h.p k h.p[k]=s
 |0,i,_,e,_,_,_=>by simp_all[Qae]
 |n+1,i,v,e,j,x,r=>by
  have g:i<h.p.length:=ab;rw[Qae,We (show(i:Int)<_ by omega),Wc,Ki q hN g,Xa]at e;have y:=XbL (c:=h.c) g (p:=h.p[i]);generalize z:X4 h.c h.p i h.p[i]=s at *;by_cases h0:s=0
  .simp_all
  rw[show((s:Int)==0)=false by simp_all,Wa,Xe ab ab,show(i:Int)+(s:Int)=((i+s:Nat):Int) by omega]at e;by_cases A:j<i+s
  .grind
  have⟨k,t,a,b,d,f⟩:=Xis q hN n (i+s) ab e j ab r;grind
def Xit{h:Wi}:∀(n:Nat) (i:Int) {b:Bool},Qae N h n i=some (.ret b)->b=false
 |0,i,b,e=>by simp_all[Qae]
 |n+1,i,b,e=>by
  rw[Qae]at e;cases g:decide (i<(h.p.length:Int))with
  |false=>simp_all
  |true=>
   rw[g,Wc]at e;cases f:QgP N h.c h.p i with
   |none=>simp_all[f,Kc]
   |some y=>
    rw[f,Xa]at e;cases j:y==0 with
    |true=>simp_all
    |false=>rw[j,Wa]at e;exact Xit n _ e
def VC(hN:NB N){h:Wi}(hb:HB h)(ep:Qaa N h=some true):OS h.c h.p:=by
 have q:1000000<N:=by unfold NB at hN;omega
 have hp:=Xp hN hb ep;have e:=ep;rw[←X8 hb.2 q,Kz hp.pre]at e;have B:Qae N h N 0=some (.nxt ()):=by
  cases r:Qae N h N 0 with
  |none=>simp_all[r,Kc]
  |some x=>
   rw[r,Xa]at e;cases x with
   |ret a=>rw[Xs]at e;cases e;exact absurd (Xit N 0 r) ac
   |nxt u=>rfl
 have z:=Xis hb.2 q N 0 ab B;refine⟨λi h0 r A=>?_,λi h0 r A=>?_⟩
 .obtain⟨j,rfl⟩:∃j:Nat,i=(j:Int):=⟨i.toNat,ab⟩
  have⟨k,s,_,D,E,g,G⟩:=z j ab ab;have v:=XbQ (c:=h.c) g;have hb:=v.1.1 ab;by_cases y:j=k
  .simp_all
  have:=v.2 hb;by_cases f:h.p[k].k=2
  .rw[Wm f]at this;have:=(hb.k2 (by rw[Zt g];exact f)).2.2 ((j:Int)-k) ab (by rw[Zt g];omega);rw[show(k:Int)+((j:Int)-k)=j by omega]at this;exact absurd this.1 A
  grind
 obtain⟨j,rfl⟩:∃j:Nat,i=(j:Int):=⟨i.toNat,ab⟩
 have⟨k,s,_,D,E,g,G⟩:=z j ab ab;have v:=XbQ (c:=h.c) g;have hb:=v.1.1 ab;have H:=v.2 hb;have I:=hb.kd;have y:j≠k:=by rintro rfl;omega
 by_cases f:h.p[k].k=2
 .rw[Wm f]at H;exact⟨k,ab,ab,hb,by rw[Zt g];exact f,by rw[Zt g];omega⟩
 grind
def SpanS(c:WN)(ps e:List Wo):Prop:=e.length=ps.length/\∀i(f:i<ps.length)(g:i<e.length),X4 c e i e[i]=X4 c ps i ps[i]
def SpanS.refl(c:WN)(ps:List Wo):SpanS c ps ps:=⟨rfl,λ_ _ _=>rfl⟩
def SpanS.trans{c:WN}{a b d:List Wo}(e:SpanS c a b)(f:SpanS c b d):SpanS c a d:=⟨f.1.trans e.1,λi g h=>(f.2 i (by rw[e.1];omega) h).trans (e.2 i g (by rw[e.1];omega))⟩
def XbR{c:WN}{ps qs:List Wo}(hN:OS c ps)(p:qs.length=ps.length)(h:∀i:Int,0<=i->i<ps.length->((pg ps i).k<=1/\(pg qs i).k=1/\(0<=(pg qs i).s/\(pg qs i).s<=1)/\(0<=(pg qs i).P/\(pg qs i).P<=2147483647)/\0<=(pg qs i).u/\(pg qs i).u<=c.W) \/
  ((pg qs i).k=(pg ps i).k/\(pg qs i).u=(pg ps i).u/\(pg qs i).P=(pg ps i).P/\((pg qs i).s=(pg ps i).s\/2<=(pg ps i).k/\0<=(pg qs i).s/\(pg qs i).s<=1)))(ht:∀i m:Int,0<=i->(pg ps i).k=2->1<=m->m<Xn c (pg ps i).u->i+m<ps.length->(pg qs (i+m)).s=(pg qs i).s):SpanS c ps qs:=by
 refine⟨p,λi q r=>?_⟩;have y:=Zt q;have z:=Zt r;have A:=XbQ (c:=c) q;have B:=XbQ (c:=c) r;by_cases D:(pg ps i).k=3
 .have n1:¬O8 c ps i:=λb=>by have:=b.kd;omega
  have n2:¬O8 c qs i:=λb=>by have:=b.kd;have:=h i ab ab;omega
  simp_all
 have b:=hN.hd i ab ab D;have hb:=b.kd;have b0:=b.k0;have J:=b.k1;have b2:=b.k2;have K:=b.sp;have bp:=b.pn;have e:=h i ab ab;have E:O8 c qs i:=by
  refine⟨ab,ab,λj=>?_,λj=>?_,λj=>?_,ab⟩
  .rcases e with g|⟨g1,g2,g3,g4⟩
   .omega
   have:=b0 ab;rw[this]at g1 g2 g3 g4;have g4:(pg qs i).s=0:=by rcases g4 with g|g;exact g;exact absurd g.1 ag
   have G:pg qs i=⟨(pg qs i).k,(pg qs i).s,(pg qs i).u,(pg qs i).P⟩:=rfl;rw[G,g1,g2,g3,g4];rfl
  .omega
  rcases e with g|⟨g1,g2,g3,g4⟩
  .omega
  have f:(pg ps i).k=2:=ab;have⟨c1,H,I⟩:=b2 f;rw[g2,p];refine⟨c1,H,λm v x=>?_⟩;have⟨L,M,O,R⟩:=I m v x;have S:=h (i+m) ab ab;refine⟨ab,ht i m ab f v x ab,ab,ab⟩
 rw[A.2 b,B.2 E];rw[y]at e hb;rw[z]at e;by_cases j:ps[i].k=2
 .simp_all
 rw[Wj j,Wj ab]
def SpanS.proper(hN:NB N){h:Wi}(hb:HB h)(ep:Qaa N h=some true){f:List Wo}(g:SpanS h.c h.p f){ws:List Int}(hw:ws.length=h.w.length){b:Int}(e:b = -1\/(0<=b/\b<f.length/\(pg f b).k=1)):Qaa N ⟨h.c,ws,f,h.s,b⟩=some true:=
 Xab hN hb ep g.1 (λi j=>g.2 i j (by rw[g.1];omega)) hw e
end
section
variable {N:Nat}{h0:Wi}{l:List Int}
def Xc9{α:Type}{l:List α}{o n:Nat}{i:Int}(f:0<=i)(g:i<n)(e:o+i.toNat<l.length):KM l o n i=some (l[o+i.toNat]'e):=by unfold KM;simp_all
def XkX{c:WN}(f:XR c=true){a:Int}(g:4096<=a/\a<4096+c.p*c.W):Qco N c a=some (pgi c a,pgo c a,0)/\wI (wI (pgi c a*c.W)+pgo c a)=a-4096:=by
 have⟨e,h,j,q,r⟩:=XN f g;have s:=XE f (i:=pgi c a) h j;refine⟨?_,?_⟩
 .rw[XjJ _ _ _ ab,KV,f,Wj ac,Wm g];rfl
 rw[Xe (n:=pgi c a*c.W) ab ab,Xe ab ab];unfold Xc at e;omega
def Xvx{c c':WN}(e:c=c')(f:XR c=true)(hN:1000000<N){cp X n i u:Int}{ws q:List Int}{ps:List Wo}{β:Type}(j:Int->Int->Int->List Int->List Wo->List Int->Option β)(hw:(ws.length:Int)=c.p*c.W)(v:0<=X)(D:1<=n)(E:X+n<=ws.length)(g:0<=i)(r:i<c.p)(x:0<=u)(G:u+n<=c.W)(y:(ps.length:Int)=c.p)(H:q.length<=100000):
 FT N c' cp ws ps q X (X+n) j i u=j (Xc c i u) 0 (wI (cp+1)) ((ovr ws ((ws.drop X.toNat).take n.toNat) (ix (Xc c i u))).set X.toNat (wU (wU (4*Xc c i u)+2))) (ps.set i.toNat ⟨(pg ps i).k,(pg ps i).s,wI ((pg ps i).u+n),(pg ps i).P⟩) (q++[Xc c i u]):=by
 subst e;have I:=XE f (i:=i) g r;have J:Xc c i u=4096+i*c.W+u:=rfl;have z:4096<=Xc c i u/\Xc c i u<4096+c.p*c.W:=ab;have⟨A,B⟩:=XkX (N:=N) f z;have eL:((X+n).toNat-X.toNat)=n.toNat:=ab;have eN:(n.toNat:Int)=n:=ab;have h:ovr ws ((ws.drop X.toNat).take n.toNat) (ix (Xc c i u))=(ws.take (Xc c i u-4096).toNat++(ws.drop X.toNat).take n.toNat)++ws.drop ((Xc c i u-4096).toNat+n.toNat):=by unfold ovr ix;rw[Wu,WC,Of ab]
 rw[FT,V9,ZJ,f,Wj ac,Wm ⟨g,r,x,ab⟩,Xa];rw[show((0:Int) != 0)=false from rfl,Wa,eL,eN,Xb ab,A,Xa];rw[show((0:Int) != 0)=false from rfl,Wa,Xb ab];rw[B,Xe (n:=(ws.length:Int)-(Xc c i u-4096)) ab ab,Wg (p:=n>_) ab,Wa];rw[Xe (n:=Xc c i u-4096+n) ab ab,Xb ab,Xir hN ab ab,Vv,Wj ab,Xa];rw[show((0:Int) != 0)=false from rfl,Wa,Xb ab,←h,Xc9 ab ab (by grind),Xa,Xo g ab,Xa,Xb ab,Xa,Xb ab]
def Xt8(w:Wv)(a:Int)(lp:Nat->Int->List Wo->Option (List Wo))(h0:∀i ps,lp 0 i ps=none)(g:∀n i ps,lp (n+1) i ps=(grd (ps.length<=140737488355328) <|
 bif (decide (i<(ps.length:Int)))then(bnd (Xd ps i) λf=>
  bif (f.k==3)then(bnd (Xd ps i) λe=>
   lp n (wI (i+1)) (ps.set i.toNat (Wo.mk e.k (wI (1-w.h.s)) e.u e.P)))
  else some ps)
 else some ps)):∀(n:Nat) (i:Int) (ps:List Wo),lp n i ps=QaL N w a n i ps
 |0,i,ps=>by rw[h0,QaL]
 |n+1,i,ps=>by rw[g,QaL];have:=Xt8 w a lp h0 g n;simp_all
def Prm(w:Wv)(i:Int):Prop:=(0<=i/\i<w.h.p.length)/\(pg w.h.p i).k=1/\(pg w.h.p i).s≠w.h.s/\i∉w.t
def Xq4(hN:NB N){w:Wv}{i:Int}(B:w.t.length<=100000)(hp:w.h.p.length<=100000)(A:0<=w.h.s/\w.h.s<=1)(g:∀i,0<=i->(pg w.h.p i).k=1->0<=(pg w.h.p i).s/\(pg w.h.p i).s<=1){β:Type}:
 ∃b,(b=true↔Prm w i)/\QbX N w i=some b/\∀K:Bool->Option β,(jn K λj=>bif (decide (i<0))then j false
  else grd (w.h.p.length<=140737488355328) <|
  bif (decide (i>=(w.h.p.length:Int)))then j false
  else bnd (Xd w.h.p i) λf=>
  jn (λ(q:Bool)=>
   j q) λr=>
  bif (f.k==1)then(bif (f.s==(wI (1-w.h.s)))then(bnd (Qbc N w.t i) λu=>
      r (!u))
   else r false)
  else r false)=K b:=by
 have v:=hN;unfold NB at v;rw[QbX];by_cases x:i<0
 .exact⟨false,⟨λh=>(by grind),λh=>by have:=h.1;omega⟩,by simp_all,λK=>by rw[Xt,We x,Wc]⟩
 by_cases z:i>=(w.h.p.length:Int)
 .exact⟨false,⟨λh=>(by grind),λh=>by have:=h.1;omega⟩,by simp_all,λK=>by rw[Xt,Wg x,Wa,Xb ab,We z,Wc]⟩
 rw[Wg x,Wa,Wg z,Wa,Xo ab ab,Xa];by_cases e:(pg w.h.p i).k=1
 .have:=g i ab e;rw[Xr e,Wc];by_cases y:(pg w.h.p i).s=w.h.s
  .exact⟨false,⟨λh=>(by grind),λh=>absurd y h.2.2.1⟩,by simp_all,λK=>by rw[Xt,Wa,Xb ab,Wa,Xa,Xt,Xr e,Wc,Xe (n:=1-w.h.s) ab ab,Xk ab,Wa]⟩
  exact⟨!w.t.contains i,⟨λh=>⟨ab,e,y,by simp_all⟩,λh=>by simpa using h.2.2.2⟩,by rw[Xl y,Wc,XfK _ _ ab ab,Xa],λK=>by rw[Xt,Wa,Xb ab,Wa,Xa,Xt,Xr e,Wc,Xe (n:=1-w.h.s) ab ab,Xr ab,Wc,Xmp _ _ ab ab,Xa]⟩
 exact⟨false,⟨λh=>(by grind),λh=>absurd h.2.1 e⟩,by grind,λK=>by rw[Xt,Wa,Xb ab,Wa,Xa,Xt,Xk e,Wa]⟩
def XgS(hN:NB N){w:Wv}{i:Int}(g:w.t.length<=100000)(hp:w.h.p.length<=100000)(e:0<=w.h.s/\w.h.s<=1)(f:∀i,0<=i->(pg w.h.p i).k=1->0<=(pg w.h.p i).s/\(pg w.h.p i).s<=1):
 ∃b,(b=true↔Prm w i)/\QbX N w i=some b/\Qc2 N w i=some b:=by have⟨b,j,q,r⟩:=Xq4 (β:=Bool) (i:=i) hN g hp e f;exact⟨b,j,q,r some⟩
end
end Go.Sx
