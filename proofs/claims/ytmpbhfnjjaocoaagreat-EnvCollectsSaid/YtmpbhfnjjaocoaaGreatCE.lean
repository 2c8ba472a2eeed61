import Derived.Test.YtmpbhfnjjaocoaaGreatCD
set_option linter.all false
namespace Go.Sx
def IS{β κ:Type}{P:β->Prop}{k:κ->Option β}{f:(κ->Option β)->Option β}(h:∀x,Ok (k x) P)(g:∀j:κ->Option β,(∀x,Ok (j x) P)->Ok (f j) P):Ok (Sx.jn k f) P:=by simp_all[XE]
def W6{β:Type}{P:β->Prop}{b:Bool}{x y:Option β}(h1:Ok x P)(h2:Ok y P):Ok (bif b then x else y) P:=by grind
def W7{α β:Type}{P:β->Prop}{o:Option α}{Q:α->Prop}{f:α->Option β}(h:Ok o Q)(k:∀y,Q y->Ok (f y) P):Ok (Sx.bnd o f) P:=WH h λy _ hq=>k y hq
def Ok.t{α:Type}{o:Option α}{P:α->Prop}(h:Ok o P):Ok o λ_=>True:=h.mono λ_ _=>trivial
section
variable {N:Nat}{x:Ub}
abbrev EP(r:Ub×Int×Int):Prop:=EB r.1
def Xi5(e:Int):Ok (Qaf N e) EP:=by exact We Xcu
def XB(e:Int):Ok (bnd (Qaf N e) λy=>some (y.1,y.2.1,y.2.2)) EP:=W7 (Xi5 e) λy hy=>We hy
def Xlb(a b c:Int):Ok (Qcv N a b c) λ_=>True:=by exact W6 (W6 (We trivial) (We trivial)) (We trivial)
def VA(hN:NB N)(hx:EB x)(a:Int):Ok (Qcw N x a) EP:=by have hN':=hN;unfold NB at hN';refine W6 (We hx) ?_;rw[Xap hx.loc aa,Xa];exact W6 (XB _) (W7 (Zn _) λy _=>We ⟨hx.heap,XhW hx.loc a,hx.glo,hx.wea,hx.pins,hx.roots⟩)
def XgV(hN:NB N)(hx:EB x)(a b c:Int):Ok (QdC N x a b c) EP:=by have hN':=hN;unfold NB at hN';refine W6 (XB _) (W7 (Xlb _ _ _) λy _=>U7 (W6 (XB _) (W7 (Xh1 hN _ _) λz _=>W6 (XB _) ?_)));rw[Xap hx.loc aa,Xa];exact W6 (XB _) (W7 (XdJ hN hx _) λy7 h7=>W6 (XB _) (W7 (VA hN h7 _) λy9 h9=>We h9))
def VB(hN:NB N)(hx:EB x)(a:Int):Ok (Qdy N x a) λ_=>True:=by exact W7 (Zh hN hx a) λy _=>W6 (W6 (We trivial) (We trivial)) (We trivial)
def XdK(hN:NB N)(hx:EB x)(a b:Int)(c:Bool):Ok (Qel N x a b c) λ_=>True:=by refine W7 (VB hN hx a) λy _=>W6 (We trivial) (W7 (VY hN hx.heap _) λz _=>W6 (We trivial) ?_);rw[Vw,Xa];exact W6 (We trivial) (We trivial)
def Xi6(hN:NB N)(hx:EB x)(a b c d:Int):Ok (Qem N x a b c d) EP:=by
 have sf:∀i j v:Int,Ok (α:=Ub×Int×Int) (bnd (QbN N x.h i j v) λy12=>some ((Ub.mk y12.1 x.l x.g x.v x.P x.R),0,0)) EP:=λi j v=>
  W7 (XfD hN hx.heap i j v) λy hy=>We ⟨hy,hx.loc,hx.glo,hx.wea,hx.pins,hx.roots⟩
 refine U7 (W6 (W7 (XdK hN hx _ _ _) λy _=>?_) (W7 (XdK hN hx _ _ _) λy _=>?_))<;>
 exact W6 (XB _) (W7 (Xch hN hx.heap _ _) λz _=>W6 (We hx) (W6 (W7 (VA hN hx _) λy8 h8=>We h8) (U7 (W6 (W7 (Zh hN hx _) λy9 _=>W6 (XB _) (sf _ _ _)) (sf _ _ _)))))
def Xi7(hN:NB N)(hx:EB x)(a b c:Int):Ok (Qen N x a b c) EP:=by refine IS (λb1=>W6 (W7 (VB hN hx _) λy _=>W6 (XB _) (W7 (VY hN hx.heap _) λz _=>W6 (We hx) (We hx))) (W6 (W7 (Zh hN hx _) λy _=>W6 (XB _) (W7 (Zh hN hx _) λz _=>W6 (XB _) (W6 (We hx) (We hx)))) (W7 (Zh hN hx _) λy _=>W6 (XB _) (W7 (VA hN hx _) λz hz=>We hz)))) λj hj=>W6 (hj _) (hj _)
def XfW(hN:NB N)(hx:EB x)(a b:Int):Ok (Qdc N x a b) EP:=by
 have hN':=hN;unfold NB at hN';refine W7 (VB hN hx _) λy _=>W6 (XB _) (U7 (W6 ?_ ?_))
 .show Ok (bnd (QcS N ⟨x.v.e⟩ y.1) _) EP;rw[K7 (t:=⟨x.v.e⟩) hx.wea aa,Xa];have h:=XhZ (t:=⟨x.v.e⟩) hx.wea y.1;exact W6 (XB _) (U7 (W6 (W7 (Zn _) λz _=>We ⟨hx.heap,hx.loc,hx.glo,h,hx.pins,hx.roots⟩) (W7 (Zn _) λz _=>We ⟨hx.heap,hx.loc,h,hx.wea,hx.pins,hx.roots⟩)))
 show Ok (bnd (QcS N ⟨x.g.e⟩ y.1) _) EP;rw[K7 (t:=⟨x.g.e⟩) hx.glo aa,Xa];have h:=XhZ (t:=⟨x.g.e⟩) hx.glo y.1;exact W6 (XB _) (U7 (W6 (W7 (Zn _) λz _=>We ⟨hx.heap,hx.loc,hx.glo,h,hx.pins,hx.roots⟩) (W7 (Zn _) λz _=>We ⟨hx.heap,hx.loc,h,hx.wea,hx.pins,hx.roots⟩)))
def XgW(hN:NB N)(hx:EB x)(a b:Int):Ok (QdF N x a b) EP:=by
 have hN':=hN;unfold NB at hN';refine W6 (XB _) (W7 (Zh hN hx _) λy _=>W6 (XB _) (W7 (XaQ _) λz _=>IS (λ_=>W6 ?_ (W6 ?_ ?_)) λj2 h2=>IS (λ_=>XB _) λj1 h1=>?_))
 .rw[Xez hx.loc aa,Xa];exact We ⟨hx.heap,XhX hx.loc _ _,hx.glo,hx.wea,hx.pins,hx.roots⟩
 .rw[Vz hx.glo aa,Xa];exact We ⟨hx.heap,hx.loc,Xh0 hx.glo _ _,hx.wea,hx.pins,hx.roots⟩
 .rw[Vz hx.wea aa,Xa];exact We ⟨hx.heap,hx.loc,hx.glo,Xh0 hx.wea _ _,hx.pins,hx.roots⟩
 grind
def XgX(hN:NB N)(hx:EB x)(a b:Int):Ok (QdG N x a b) EP:=by
 have hN':=hN;unfold NB at hN';refine W6 (W6 (XB _) ?_) (W7 (Zh hN hx _) λy _=>W6 (XB _) ?_)
 .rw[Xaq hx.loc aa,Xa];exact W6 (XB _) (We ⟨hx.heap,XfO hx.loc _,hx.glo,hx.wea,hx.pins,hx.roots⟩)
 rw[XbC hx.loc aa,Xa];exact W6 (XB _) (W7 (VA hN (x:=⟨x.h,(ZS x.l).1,x.g,x.v,x.P,x.R⟩) ⟨hx.heap,XbD hx.loc,hx.glo,hx.wea,hx.pins,hx.roots⟩ _) λz hz=>We hz)
def Xlc(hN:NB N)(hx:EB x)(a b:Int):Ok (QfA N x a b) EP:=by refine W7 (VB hN hx _) λy _=>W6 (XB _) (W6 (W7 (XgU hN hx.heap hx.pins _) λz hz=>W6 (XB _) (We ⟨hz.1,hx.loc,hx.glo,hx.wea,hz.2,hx.roots⟩)) (W7 (Xi4 hN hx.heap hx.pins _) λz hz=>W6 (XB _) (We ⟨hz.1,hx.loc,hx.glo,hx.wea,hz.2,hx.roots⟩)))
def Xld(hN:NB N)(hx:EB x)(op a b c:Int):Ok (QeT N x op a b c) EP:=by
 have thr:∀{o:Option (Ub×Int×Int)},Ok o EP->Ok (bnd o λy=>some (y.1,y.2.1,y.2.2)) EP:=λh=>W7 h λy hy=>We hy;refine W7 (Z7 hN hx) λb1 _=>W6 (XB _) ?_;refine IS (λx1=>W6 (thr (XgV hN hx _ _ _)) ?_) λj2 h2=>?_
 .refine IS (λx1=>W6 (thr (Xi6 hN hx _ _ _ _)) ?_) λj h=>?_
  .refine IS (λx1=>W6 (thr (Xi7 hN hx _ _ _)) ?_) λj h=>?_
   .refine IS (λx1=>W6 (thr (XfW hN hx _ _)) ?_) λj h=>?_
    .refine IS (λx1=>W6 (thr (XgW hN hx _ _)) ?_) λj h=>?_
     .refine IS (λx1=>W6 (thr (XgX hN hx _ _)) ?_) λj h=>?_
      .refine IS (λx1=>W6 (thr (Xlc hN hx _ _)) (XB _)) λj h=>W6 (h _) (h _)
      exact W6 (h _) (h _)
     exact W6 (h _) (IS (λx1=>h _) λj h=>W6 (h _) (h _))
    grind
   exact W6 (h _) (IS (λx1=>h _) λj h=>W6 (h _) (IS (λx1=>h _) λj h=>W6 (h _) (h _)))
  exact W6 (h _) (IS (λx1=>h _) λj h=>W6 (h _) (IS (λx1=>h _) λj h=>W6 (h _) (h _)))
 exact W6 (h2 _) (IS (λx1=>h2 _) λj h=>W6 (h _) (h _))
end
structure WB(k:Nat)(w:WV):Prop where
 kk:k<=900
 things:w.T.length<=k
 fields:∀x∈w.T,x.D.length<=1000
 loc:LBp w.l
 gloK:w.g.e.length<=1000+k
 weaK:w.v.e.length<=1000+k
 marksK:w.m.length<=100+k
 rootsK:w.R.length<=100+k
def WB.glo{k:Nat}{w:WV}(h:WB k w):TB w.g:=by have:=h.kk;have:=h.gloK;unfold TB;omega
def WB.wea{k:Nat}{w:WV}(h:WB k w):TB w.v:=by have:=h.kk;have:=h.weaK;unfold TB;omega
def WB.marks{k:Nat}{w:WV}(h:WB k w):w.m.length<=1000:=by have:=h.kk;have:=h.marksK;omega
def WB.roots{k:Nat}{w:WV}(h:WB k w):w.R.length<=1000:=by have:=h.kk;have:=h.rootsK;omega
def Vk(d:WD):Nat->List Int->List Int
 |_,[]=>[]
 |k,f::fs=>if Jd d k then f::Vk d (k+1) fs else Vk d (k+1) fs
def XdL(x:Ia):List Int:=Vk x.H 0 x.D
def XaR(d:WD):∀(k:Nat)(l:List Int),(Vk d k l).length<=l.length
 |k,[]=>by simp[Vk]
 |k,f::fs=>by have:=XaR d (k+1) fs;unfold Vk;grind
def Zz(n:Nat)(l:List Int):Bool:=l.all λp=>!decide (p>(n:Int))
def Zq(l:List Il)(id:Int):Int:=match l.findIdx? (λm=>m.I==id)with|some k=>(k:Int)|none=>-1
def Xcx(n:Nat)(x:Ia):Bool:=XG x.H&&(!(x.H.k==0)&&(!((x.D.length:Int) != x.H.n)&&Zz n (XdL x)))
def Xh3(n:Nat)(l:List Il)(_:Unit)(i:Nat)(m:Il):Bool:=!decide (m.I<1)&&(!decide (m.I>(n:Int))&&(!(Zq l m.I != (i:Int))&&(!decide (m.M<1)&&!decide (m.M>1000))))
def XeB(n:Nat)(l:List Il):Bool:=Zm (Xh3 n l) (λs _=>s) () 0 l
def YF(w:WV):Bool:=X5 w.c&&(Y1 w.l&&(YX w.g.e&&(YX w.v.e&&(!decide ((w.m.length:Int)>64)&&(w.T.all (Xcx w.T.length)&&(((XR w.g.e).all λp=>!(p==0))&&(XeB w.T.length w.m&&(Zz w.T.length w.R&&(Zz w.T.length (X8 w.l.S)&&(Zz w.T.length (XR w.g.e)&&Zz w.T.length (XR w.v.e)))))))))))
section
variable {N:Nat}{w:WV}
def Jw(ht:w.T.length<=1000){l:List Int}(hl:l.length<=1000000)(hN:1000000<N):Qc2 N w l=some (Zz w.T.length l):=by
 have h:=K4 (l:=l) (F:=Qc1 N w l) (q:=λ_ p=>!decide (p>(w.T.length:Int))) (λn k p e=>by
  have hk:=XA e
  rw[Qc1,Xk hk,Wc,Xe,e,Xa,Xf aa,Xx aa aa]
  cases decide (p>(w.T.length:Int))<;>rfl) (λn=>by rw[Qc1,Xw,Wa]) (n:=N) aa
 rw[ZI]at h;rw[Qc2,h,Xa,Zz];cases l.all λp=>!decide (p>(w.T.length:Int))
 .rw[Wa,Xy]
 simp[Wc,Xm]
def Xcy{x:Ia}(hl:x.D.length<=1000000):∀(n k:Nat)(v:List Int),k<=x.D.length->x.D.length-k<n->v.length<=k->QdS N x n (k:Int) v=some (v++Vk x.H k (x.D.drop k))
 |0,k,v,_,hn,_=>by omega
 |n+1,k,v,hk,hn,hlv=>by
  rw[QdS];by_cases h:k<x.D.length
  .rw[Xk h,Wc,Vw,Xa,Xf aa,Wq h,Vk];cases hp:Jd x.H (k:Int)
   .rw[Wa,Wn ab,Xcy hl n (k+1) v aa aa aa]
   rw[Wc,Wp rfl,Xe,Wb h,Xa,Xc aa,Xcy hl n (k+1) _ aa aa (by simp_all)];simp
  obtain rfl:k=x.D.length:=aa;simp[Vk]
def XfX{x:Ia}(hl:x.D.length<=1000000)(hN:1000000<N):Qgm N x=some (XdL x):=by have h:=Xcy (N:=N) (x:=x) hl N 0 [] aa aa ab;rw[show((0:Nat):Int)=0 from rfl,WX,Ug]at h;rw[Qgm,h,Xa];rfl
def Xh4(id:Int)(hl:w.m.length<=1000000):∀(n k:Nat),k<=w.m.length->w.m.length-k<n->QeE N w id n (k:Int)=some (match (w.m.drop k).findIdx? (λm=>m.I==id)with|some j=>.ret ((k+j:Nat):Int)|none=>.nxt ())
 |0,k,_,hn=>by omega
 |n+1,k,hk,hn=>by
  rw[QeE];by_cases h:k<w.m.length
  .rw[Xk h,Wc,Xe,Wb h,Xa,Xf aa,Wq h,List.findIdx?_cons];cases hm:(w.m[k].I==id)
   .rw[Wa,Xh4 id hl n (k+1) aa aa,Wn ab];cases (w.m.drop (k+1)).findIdx? (λm=>m.I==id)with
    |none=>rfl
    |some j=>simp only[IE];rw[show k+1+j=k+(j+1) by omega]
   simp
  grind
def XeC(hl:w.m.length<=1000000)(hN:1000000<N)(id:Int):Qfz N w id=some (Zq w.m id):=by
 have h:=Xh4 (N:=N) id hl N 0 aa aa;rw[show((0:Nat):Int)=0 from rfl,WX]at h;rw[Qfz,h,Xa,Zq];cases w.m.findIdx? (λm=>m.I==id)with
 |none=>simp[Xm]
 |some j=>simp[Xy,Ux]
def XfY{a:Ww}(h:Y1 a=true):(X8 a.S).length<=4096:=by have hf:=Zf.1 h;have:=hf.slots;have:=hf.iss;have:=XaO a.S;omega
def Xar{l:List W8}(h:YX l=true):(XR l).length<=64:=by have:=Vg h;have:=Vy l;omega
def XbF{k:Nat}(hw:WB k w)(hN:1000000<N):Qei N w=some (YF w):=by
 have hk:=hw.kk;have ht:=hw.things;have hm:=hw.marks;have hr:=hw.roots;rw[Qei,Y0,Xa,YF];cases X5 w.c
 .rfl
 rw[Ws,Wa,Zy hw.loc hN,Xa,W3];cases hv1:Y1 w.l
 .rfl
 rw[Ws,Wa,Y9 hw.glo hN,Xa,W3];cases hv2:YX w.g.e
 .rfl
 rw[Ws,Wa,Y9 hw.wea hN,Xa,W3];cases hv3:YX w.v.e
 .rfl
 rw[Ws,Wa,W3];cases decide ((w.m.length:Int)>64);rotate_left
 .rfl
 rw[Wa,Ui,W3];have h1:=K4 (l:=w.T) (F:=Qdj N w) (q:=λ_=>Xcx w.T.length) (λn k p e=>by
  have hk:=XA e
  have hpf:=hw.fields p (Uh e)
  have hrl:=XaR p.H 0 p.D
  rw[Qdj,Xk hk,Wc,Xe,e,Xa,Zl,Xa,XfX aa hN,Xa,Jw aa (by unfold XdL;omega) hN,Xa,Xf aa]
  unfold Xcx
  grind) (λn=>by rw[Qdj,Xw,Wa]) (n:=N) aa
 rw[ZI]at h1;rw[h1,Xa];cases w.T.all (Xcx w.T.length)
 .simp[Wa,Xy]
 rw[Wc,Xm,Yi hw.glo hN,Xa,hv2,Wc,W3];have g64:=Xar hv2;have h2:=K4 (l:=XR w.g.e) (F:=Qdk N w (XR w.g.e)) (q:=λ_ p=>!(p==0)) (λn k p e=>by
  have hk:=XA e
  rw[Qdk,Xc aa,Xk hk,Wc,Xe,e,Xa,Xf aa]
  simp) (λn=>by rw[Qdk,Xc aa,Xw,Wa]) (n:=N) aa
 rw[ZI]at h2;rw[h2,Xa];cases (XR w.g.e).all λp=>!(p==0)
 .simp[Wa,Xy]
 rw[Wc,Xm,W3];have h3:=K4 (l:=w.m) (F:=Qdl N w (XR w.g.e)) (q:=Xh3 w.T.length w.m ()) (λn k p e=>by
  have hk:=XA e
  rw[Qdl,Xk hk,Wc,Xe,e,Xa,XeC aa hN,Xa,Xf aa,Xx aa aa]
  unfold Xh3
  grind) (λn=>by rw[Qdl,Xw,Wa]) (n:=N) aa
 rw[h3,Xa];show exK (bif XeB w.T.length w.m then Ex.nxt ()else Ex.ret false) _ _=_;cases XeB w.T.length w.m
 .simp[Wa,Xy]
 rw[Wc,Xm,Jw aa aa hN,Xa,W3];cases Zz w.T.length w.R
 .rfl
 have s1:=XfY hv1;rw[Wc,Zg hw.loc hN,Xa,hv1,Wc,Jw aa aa hN,Xa,W3];cases Zz w.T.length (X8 w.l.S)
 .rfl
 rw[Wc,Jw aa aa hN,Xa,W3];cases Zz w.T.length (XR w.g.e)
 .rfl
 have s3:=Xar hv3;rw[Wc,Yi hw.wea hN,Xa,hv3,Wc,Jw aa aa hN,Xa,W3]
end
def JY(v:Int):Iz×Int:=
 if v=0 then(⟨0,0,0⟩,5)else if 1<=v % 4/\1<=v / 262144/\v / 262144<=4294967295 then(⟨v % 4,v / 4 % 65536,v / 262144⟩,0)else(⟨0,0,0⟩,6)
def Xle{N:Nat}{v:Int}(hv:tU v):Qcx N v=some (JY v):=by
 have⟨h0,h1⟩:=hv;rw[Qcx,JY];by_cases hz:v=0
 .simp_all
 rw[show(v==0)=false by simp_all,Wa,Wn hz];have a1:Y8 .u64 v 3=v % 4:=YP v 2 aa h0 h1;have a2:Yz .u64 v 2=v / 4:=YO v 2 aa h0;have a3:Y8 .u64 (v / 4) 65535=v / 4 % 65536:=YP (v / 4) 16 aa aa aa;have a4:Yz .u64 v 18=v / 262144:=YO v 18 aa h0;rw[a2,a1,a3,a4,Xd (n:=v % 4) aa aa,Xd (n:=v / 4 % 65536) aa aa,Xd (n:=v / 262144) aa aa,QbZ,Qht];have s1:∀x:Int,ZW .u64 x 2=wU (x*4):=λ_=>rfl;have s2:∀x:Int,ZW .u64 x 18=wU (x*262144):=λ_=>rfl;rw[Wg (show v / 4 % 65536>=0 by omega),Wg (show v / 4 % 65536<=65535 by omega),Wg (show v % 4<=3 by omega)];simp only[Wc];by_cases g1:v % 4>=1
 .rw[Wg g1,Wc];by_cases g2:v / 262144>=1
  .rw[Wg g2,Wc,Xa];by_cases g3:v / 262144<=4294967295
   .rw[Wg g3,Ws,Wa,Xa,Wp ⟨g1,g2,g3⟩];have e:wU (wU (wU (v % 4)+ZW .u64 (wU (v / 4 % 65536)) 2)+ZW .u64 (wU (v / 262144)) 18)=v:=by rw[s1,s2,Xx (n:=v % 4) aa aa,Xx (n:=v / 4 % 65536) aa aa,Xx (n:=v / 262144) aa aa,Xx (n:=v / 4 % 65536*4) aa aa,Xx (n:=v / 262144*262144) aa aa,Xx (n:=v % 4+v / 4 % 65536*4) aa aa,Xx aa aa];omega
    simp_all
   rw[Wh g3,Ui,Wc,Xa,Wn (λh=>g3 h.2.2)];rfl
  rw[Wh g2,Wa,Xa,Ui,Wc,Xa,Wn (λh=>g2 h.2.1)];rfl
 rw[Wh g1,Wa,Xa,Ui,Wc,Xa,Wn (λh=>g1 h.1)];rfl
def ZM(w:WV)(v:Int):Int×Int:=
 if v=0 then(0,0)else if(JY v).2≠0 then(0,(JY v).2)else
 if(JY v).1.Tag=1 then ZG w.l (JY v).1.Index (JY v).1.J else
 if(JY v).1.Tag=2 then Zr w.g.e (JY v).1.Index (JY v).1.J else Zr w.v.e (JY v).1.Index (JY v).1.J
def XK(w:WV)(a:Int):Int×Int:=if(ZM w a).2=0/\(ZM w a).1=0 then(0,5)else ZM w a
structure WF(w:WV):Prop where
 conf:X5 w.c=true
 loc:Y1 w.l=true
 glo:YX w.g.e=true
 wea:YX w.v.e=true
 m64:w.m.length<=64
 thing:∀x∈w.T,XG x.H=true/\x.H.k≠0/\(x.D.length:Int)=x.H.n/\∀r∈XdL x,r<=w.T.length
 mark:XeB w.T.length w.m=true
 roots:∀r∈w.R,r<=w.T.length
 rloc:∀r∈X8 w.l.S,r<=w.T.length
 rglo:∀r∈XR w.g.e,r<=w.T.length
 rwea:∀r∈XR w.v.e,r<=w.T.length
def KX{n:Nat}{l:List Int}:Zz n l=true↔∀r∈l,r<=n:=by unfold Zz;simp
def KK{w:WV}(h:YF w=true):WF w:=by unfold YF at h;simp only[W5,IK,Iw]at h;have⟨h1,h2,h3,h4,h5,h6,h7,h8,h9,h10,h11,h12⟩:=h;refine⟨h1,h2,h3,h4,aa,λx hx=>?_,h8,KX.1 h9,KX.1 h10,KX.1 h11,KX.1 h12⟩;have:=(Ud.1 h6) x hx;unfold Xcx at this;simp at this;exact⟨this.1,this.2.1,this.2.2.1,KX.1 this.2.2.2⟩
def WF.mk_{w:WV}(h:WF w){k:Nat}{m:Il}(hm:w.m[k]? = some m):1<=m.I/\m.I<=w.T.length/\1<=m.M/\m.M<=1000:=by have:=(K5 w.m () 0).1 h.mark k m hm;unfold Xh3 at this;simp_all
def Xi8{l:List UK}{p:UK}(hp:p∈l)(hL:p.V=true):p.a∈X8 l:=by unfold X8;grind
def Xi9{l:List W8}{p:W8}(hp:p∈l)(hL:p.V=true):p.a∈XR l:=by unfold XR;grind
def XgY(a:Ww)(i g:Int):(ZG a i g).2=0\/(ZG a i g).1=0:=by
 unfold ZG;split
 .exact .inr rfl
 split
 .exact .inr rfl
 split
 .exact .inr rfl
 split
 .exact .inr rfl
 split
 .exact .inr rfl
 split
 .exact .inr rfl
 split
 .exact .inl rfl
 omega
def XgZ(l:List W8)(i g:Int):(Zr l i g).2=0\/(Zr l i g).1=0:=by unfold Zr;grind
def XnR{w:WV}(h:WF w)(v:Int):(ZM w v).1<=w.T.length:=by
 have g:∀i g,(ZG w.l i g).1<=w.T.length:=by
  intro i g;by_cases he:(ZG w.l i g).2=0
  .have⟨_,_,p,hp,_,hL,e⟩:=XdG he;rw[e];exact h.rloc _ (Xi8 (Uh hp) hL)
  have:=(XgY w.l i g).resolve_left he;omega
 have t:∀(t:WE),(∀r∈XR t.e,r<=w.T.length)->∀i g,(Zr t.e i g).1<=w.T.length:=by
  intro t ht i g;by_cases he:(Zr t.e i g).2=0
  .have⟨_,_,p,hp,_,hL,e⟩:=XdH he;rw[e];exact ht _ (Xi9 (Uh hp) hL)
  have:=(XgZ t.e i g).resolve_left he;omega
 unfold ZM;split
 .simp
 split
 .simp
 split
 .simp_all
 split
 .exact t _ h.rglo _ _
 exact t _ h.rwea _ _
section
variable {N:Nat}{w:WV}{k:Nat}
def Je(hw:WB k w)(hN:1000000<N)(hv:YF w=true){v:Int}(tv:tU v):QaG N w v=some (ZM w v):=by
 rw[QaG,XbF hw hN,Xa,hv,Ws,Wa,ZM];by_cases hz:v=0
 .rw[Wp hz,hz];rfl
 rw[Wn hz,show(v==0)=false by simpa using hz,Wa,Xle tv,Xa];by_cases he:(JY v).2=0
 .rw[he,show((0:Int) != 0)=false from rfl,Wa,Wn ab];by_cases h1:(JY v).1.Tag=1
  .rw[Wp h1,h1,show((1:Int)==1)=true from rfl,Wc,Xey hw.loc hN,Xa]
  rw[Wn h1,show((JY v).1.Tag==1)=false by simpa using h1,Wa];by_cases h2:(JY v).1.Tag=2
  .rw[Wp h2,h2,show((2:Int)==2)=true from rfl,Wc,Xao hw.glo hN,Xa]
  rw[Wn h2,show((JY v).1.Tag==2)=false by simpa using h2,Wa,Xao hw.wea hN,Xa]
 grind
def Xas(hw:WB k w)(hN:1000000<N)(hv:YF w=true){v:Int}(tv:tU v):Qeo N w v=some (XK w v):=by rw[Qeo,Je hw hN hv tv,Xa,XK];grind
end
def zTh:Ia:=⟨⟨0,0,0⟩,[]⟩
def thg(w:WV)(id:Int):Ia:=w.T.getD (id-1).toNat zTh
def Jf(a:Ww)(id:Int):Int:=if id=0 then 0 else(V1 a id).2.2.2
def okW(op a b:Int):Prop:=a<=2147483647/\(op=1->b<=4294967295)
instance(op a b:Int):Decidable (okW op a b):=by unfold okW;infer_instance
def hdW(op a b:Int):WD:=⟨op,a,if op=1 then b else 0⟩
def XdM(c:WU)(d:WD):Bool:=XG d&&(d.k != 0&&XF c (X0 d) != -1)
def Xat(w:WV)(op a b:Int)(failed:Bool):Int:=
 if w.m.length>0 then 15 else if¬okW op a b then 1 else if XdM w.c (hdW op a b)=false then 1 else
 if Jf w.l 1≠0 then Jf w.l 1 else if failed then 3 else 0
def Xcz(op:Int):Bool:=op==8||op==9
def XbG(w:WV)(op a b c:Int):Int:=
 if(XK w a).2≠0 then(XK w a).2 else if b>=(thg w (XK w a).1).H.n then 2 else
 if Jd (thg w (XK w a).1).H b≠Xcz op then 4 else
 if op=8 then Jf w.l ((thg w (XK w a).1).D.getD b.toNat 0)else if op=9 then(ZM w c).2 else 0
def XcA(w:WV)(op a:Int):Int:=
 if a=0 then 5 else if(ZM w a).2≠0 then(ZM w a).2 else
 if(JY a).1.Tag≠(if op=16 then 3 else if op=14 then 2 else 1)then 4 else 0
def Xg0(w:WV)(op a:Int):Int:=
 if(XK w a).2≠0 then(XK w a).2 else(Vi (if op=15 then w.v else w.g) (XK w a).1).2.2.2
def XeD(w:WV)(op a:Int):Int:=
 if op=17 then(if a>64 then 1 else(JL w.l a).2)else
 if(ZM w a).2≠0 then(ZM w a).2 else if(ZS w.l).2≠0 then(ZS w.l).2 else Jf (ZS w.l).1 (ZM w a).1
def XfZ(l:List Il)(i:Int):Il:=l.getD i.toNat ⟨0,0,0⟩
def Xh5(w:WV)(op a:Int)(failed:Bool):Int:=
 if(XK w a).2≠0 then(XK w a).2 else
 if op=20 then(if Zq w.m (XK w a).1<0 then 12 else 0)else
 if 0<=Zq w.m (XK w a).1/\(XfZ w.m (Zq w.m (XK w a).1)).M=1000 then 18 else
 if Zq w.m (XK w a).1<0/\w.m.length=64 then 18 else if failed then 18 else 0
def XcB(w:WV)(op a b:Int):Int:=
 if op=4\/op=5 then(XK w a).2 else if(ZM w a).2≠0 then(ZM w a).2 else
 if op=10 then(ZM w b).2 else Jf w.l (ZM w a).1
def Xlf(w:WV)(op a b c:Int)(failed:Bool):Int:=
 if YF w=false then 19 else
 if op=1\/op=2\/op=3 then Xat w op a b failed else
 if op=6\/op=7\/op=8\/op=9 then XbG w op a b c else
 if op=12\/op=14\/op=16 then XcA w op a else
 if op=13\/op=15 then Xg0 w op a else
 if op=17\/op=18 then XeD w op a else
 if op=19\/op=20 then Xh5 w op a failed else
 if op=4\/op=5\/op=10\/op=11 then XcB w op a b else 1
def XD{a b:Int}(h:¬a=b):(a==b)=false:=by simp_all
def XL{a b:Int}(h:a=b):(a==b)=true:=by simp_all
def ZJ{a b:Int}(h:a=b):(a != b)=false:=by simp_all
def X6{a b:Int}(h:¬a=b):(a != b)=true:=by simp_all
section
variable {N:Nat}{w:WV}{k:Nat}
def XnS(hw:WB k w)(hv:YF w=true)(tw:XW w){v:Int}(tv:tU v):tU (ZM w v).1:=by have:=QfG (N:=1000001) tw tv;exact this _ (Je (N:=1000001) hw aa hv tv)
def XdN(hw:WB k w)(hv:YF w=true)(tw:XW w){v:Int}(tv:tU v)(h:(XK w v).2=0):1<=(XK w v).1/\(XK w v).1<=w.T.length/\XK w v=ZM w v:=by
 have h1:=XnS hw hv tw tv;have h2:=XnR (KK hv) v;unfold XK at h⊢;by_cases hc:(ZM w v).2=0/\(ZM w v).1=0
 .simp_all
 rw[Wn hc]at h⊢;unfold tU at h1;grind
def K9(hw:WB k w){id:Int}(h1:1<=id)(h2:id<=w.T.length):Xb w.T (wU (id-1))=some (thg w id)/\thg w id∈w.T:=by
 have hk:=hw.kk;have ht:=hw.things;have e:=Wb (show(id-1).toNat<w.T.length by omega);have e2:thg w id=w.T[(id-1).toNat]'aa:=by unfold thg;rw[Wo,e];rfl
 rw[Xx aa aa,Yg aa aa,e2];simp
def JN(hl:LBp w.l)(hN:1000000<N)(id:Int):QcY N w.l id=some (Jf w.l id):=by
 rw[QcY,Jf];by_cases h:id=0
 .rw[Wp h,h];rfl
 simp[Wn,h,XD,Wa,Xap,hl,hN,Xa]
def Xf0{a:Ww}(hl:LBp a)(hN:1000000<N)(id:Int):QcY N a id=some (Jf a id):=JN (w:=⟨⟨0,0⟩,[],a,zT,zT,[],[]⟩) hl hN id
def Xf1(op:Int){a b:Int}(ta:tU a)(tb:tU b):∃d,Qcv N op a b=some (d,decide (okW op a b))/\(okW op a b->d=hdW op a b):=by
 unfold tU at ta tb;have hmask:a<=2147483647->wI (Y8 .u64 a 2147483647)=a:=λh=>by have:Y8 .u64 a 2147483647=a % 2147483648:=YP a 31 aa ta.1 ta.2;rw[this,Xd aa aa];omega
 rw[Qcv];by_cases h1:op=1
 .rw[XL h1,Wc];by_cases h2:a<=2147483647
  .rw[Wg h2,Wc];refine⟨⟨op,wI (Y8 .u64 a 2147483647),wW b⟩,?_,λh=>?_⟩
   .exact congrArg (λx=>some (_,x)) (decide_eq_decide.2 ⟨λh=>⟨h2,λ_=>h⟩,λh=>h.2 h1⟩)
   rw[hmask h2,XoZ aa (by have:=h.2 h1;omega),hdW,Wp h1]
  rw[Wh h2,Wa];refine⟨⟨op,wI (Y8 .u64 a 2147483647),wW b⟩,?_,λh=>absurd h.1 h2⟩;rw[Wh (show¬okW op a b fromλh=>h2 h.1)]
 rw[XD h1,Wa];refine⟨⟨op,wI (Y8 .u64 a 2147483647),0⟩,?_,λh=>?_⟩
 .exact congrArg (λx=>some (_,x)) (decide_eq_decide.2 ⟨λh=>⟨h,λe=>absurd e h1⟩,λh=>h.1⟩)
 rw[hmask h.1,hdW,Wn h1]
def XnT(hN:10<=N)(c:WU)(d:WD):Qc3 N c d=some (XdM c d):=by rw[Qc3,Zl,Xa,XdM,Yh,Xa,Kz hN,Xa];grind
def Xg1(hw:WB k w)(hN:1000000<N)(op:Int){a b:Int}(ta:tU a)(tb:tU b)(f:Bool):QfK N w op a b f=some (Xat w op a b f):=by
 have⟨d,hd,hd2⟩:=Xf1 (N:=N) op ta tb;rw[QfK,Xat];by_cases h0:w.m.length>0
 .rw[Wg (show(w.m.length:Int)>0 by omega),Wc,Wp h0]
 rw[Wh (show¬(w.m.length:Int)>0 by omega),Wa,Wn h0,hd,Xa];by_cases h1:okW op a b
 .rw[Wg h1,Ws,Wa,Wn (by simpa using h1),XnT aa,Xa,hd2 h1];cases hA:XdM w.c (hdW op a b)
  .rfl
  rw[Ws,Wa,Wn ab,JN hw.loc hN,Xa];by_cases hL:Jf w.l 1=0
  .rw[ZJ hL,Wa,Wn (by simpa using hL)];cases f<;>rfl
  rw[X6 hL,Wc,Wp hL]
 simp_all
def Xja(hw:WB k w)(hN:1000000<N)(hv:YF w=true)(tw:XW w)(op:Int){a b c:Int}(ta:tU a)(tb:tU b)(tc:tU c):Qf9 N w op a b c=some (XbG w op a b c):=by
 rw[Qf9,Xas hw hN hv ta,Xa,XbG];by_cases he:(XK w a).2=0;rotate_left
 .grind
 have⟨i1,i2,_⟩:=XdN hw hv tw ta he;have⟨g1,g2⟩:=K9 hw i1 i2;have⟨v1,v2,v3,v4⟩:=(KK hv).thing _ g2;have vb:=XP v1;unfold tU at tb;rw[ZJ he,Wa,Wn aa,g1,Xa,Xx (n:=(thg w (XK w a).1).H.n) aa aa];by_cases h1:b>=(thg w (XK w a).1).H.n
 .simp_all
 rw[Wh h1,Wa,Wn h1,Xd (n:=b) aa aa];have key:∀x:Bool,x=Xcz op->(bnd (Qb6 N (thg w (XK w a).1).H b) λy4=>
  bif (!(y4==x))then some 4
  else bif (op==8)then(bnd (Xb (thg w (XK w a).1).D b) λp5=>
   bnd (QcY N w.l p5) λy6=>
   some y6)
  else bif (op==9)then(bnd (QaG N w c) λy7=>
   some y7.2)
  else some (XK w a).2)=some (if Jd (thg w (XK w a).1).H b≠Xcz op then 4 else
 if op=8 then Jf w.l ((thg w (XK w a).1).D.getD b.toNat 0)else if op=9 then(ZM w c).2 else 0):=by
  intro x hx
  subst hx
  rw[Vw,Xa]
  by_cases h2:Jd (thg w (XK w a).1).H b=Xcz op
  .rw[show(Jd (thg w (XK w a).1).H b==Xcz op)=true by simpa using h2,Ws,Wa,Wn (by simpa using h2)]
   by_cases h3:op=8
   .rw[XL h3,Wc,Wp h3,Yg aa aa,Xa,JN hw.loc hN,Xa,Wo,Wb aa];rfl
   rw[XD h3,Wa,Wn h3]
   by_cases h4:op=9
   .rw[XL h4,Wc,Wp h4,Je hw hN hv tc,Xa]
   grind
  .grind
 rw[XE];cases h8:(op==8)
 .have:=key (op==9) (by unfold Xcz;rw[h8,U9]);grind
 have:=key true (by unfold Xcz;rw[h8,Bool.true_or]);simp_all
def Xg2(hw:WB k w)(hN:1000000<N)(hv:YF w=true)(op:Int){a:Int}(ta:tU a):QfL N w op a=some (XcA w op a):=by
 rw[QfL,XcA];by_cases h0:a=0
 .rw[XL h0,Wc,Wp h0]
 rw[XD h0,Wa,Wn h0,Je hw hN hv ta,Xa];by_cases h1:(ZM w a).2=0;rotate_left
 .rw[X6 h1,Wc,Wp h1]
 rw[ZJ h1,Wa,Wn (by simpa using h1),Xle ta,Xa,XE];grind
def Xlg(hw:WB k w)(hN:1000000<N)(hv:YF w=true)(op:Int){a:Int}(ta:tU a):QgE N w op a=some (Xg0 w op a):=by
 rw[QgE,Xas hw hN hv ta,Xa,Xg0];by_cases h1:(XK w a).2=0;rotate_left
 .rw[X6 h1,Wc,Wp h1]
 rw[ZJ h1,Wa,Wn (by simpa using h1),XE];by_cases h2:op=15
 .rw[Wp h2,XL h2,Wc];show bnd (QcS N w.v (XK w a).1) _=_;rw[K7 hw.wea hN,Xa]
 simp[Wn,h2,XD,Wa,K7,hw.glo,hN,Xa]
def Xjb(hw:WB k w)(hN:1000000<N)(hv:YF w=true)(op:Int){a:Int}(ta:tU a):Qga N w op a=some (XeD w op a):=by
 rw[Qga,XeD];by_cases h0:op=17
 .rw[XL h0,Wc,Wp h0];by_cases h1:a>64
  .simp_all
  unfold tU at ta;rw[Wh h1,Wa,Wn h1,Xd (n:=a) aa aa,Xaq hw.loc hN,Xa]
 rw[XD h0,Wa,Wn h0,Je hw hN hv ta,Xa];by_cases h1:(ZM w a).2=0;rotate_left
 .grind
 rw[ZJ h1,Wa,Wn aa,XbC hw.loc hN,Xa];by_cases h2:(ZS w.l).2=0;rotate_left
 .grind
 rw[ZJ h2,Wa,Wn aa,Xf0 (XbD hw.loc) hN,Xa]
def XaS{l:List Il}{id:Int}(h:0<=Zq l id):Zq l id<l.length/\Xb l (Zq l id)=some (XfZ l (Zq l id))/\(XfZ l (Zq l id)).I=id:=by
 unfold Zq at h⊢;cases e:l.findIdx? (λm=>m.I==id)with
 |none=>simp_all
 |some j=>have h2:=List.findIdx?_eq_some_iff_getElem.1 e;have⟨hj,hp,_⟩:=h2;simp_all[Xe,XfZ,Wo,Int.toNat_natCast,Wb,hj]
def Xjc(hw:WB k w)(hN:1000000<N)(hv:YF w=true)(op:Int){a:Int}(ta:tU a)(f:Bool):Qg3 N w op a f=some (Xh5 w op a f):=by
 have hm:=hw.marks;rw[Qg3,Xas hw hN hv ta,Xa,Xh5];by_cases h1:(XK w a).2=0;rotate_left
 .rw[X6 h1,Wc,Wp h1]
 rw[ZJ h1,Wa,Wn (by simpa using h1),XeC aa hN,Xa];by_cases h2:op=20
 .rw[XL h2,Wc,Wp h2];by_cases h3:Zq w.m (XK w a).1<0
  .rw[Wg h3,Wc,Wp h3]
  rw[Wh h3,Wa,Wn h3]
 rw[XD h2,Wa,Wn h2];by_cases h3:0<=Zq w.m (XK w a).1
 .have⟨m1,m2,m3⟩:=XaS h3;rw[Wg (show Zq w.m (XK w a).1>=0 from h3),Wc,m2,Xa,Wh (show¬Zq w.m (XK w a).1<0 by omega),Wa];rw[Wn (show¬(Zq w.m (XK w a).1<0/\w.m.length=64) by omega)];by_cases h4:(XfZ w.m (Zq w.m (XK w a).1)).M=1000
  .rw[XL h4,Wc,Wp ⟨h3,h4⟩]
  rw[XD h4,Wa,Wn (λh=>h4 h.2)];cases f<;>rfl
 grind
def Xlh(hw:WB k w)(hN:1000000<N)(hv:YF w=true)(op:Int){a b:Int}(ta:tU a)(tb:tU b):QgF N w op a b=some (XcB w op a b):=by
 rw[QgF,XcB,XE,Xas hw hN hv ta,Xa];by_cases h4:op=4
 .rw[XL h4,Wc,Wp (.inl h4)]
 rw[XD h4,Wa];by_cases h5:op=5
 .rw[XL h5,Wc,Wp (.inr h5)]
 rw[XD h5,Wa,Wn aa,Je hw hN hv ta,Xa];by_cases h1:(ZM w a).2=0;rotate_left
 .rw[X6 h1,Wc,Wp h1]
 rw[ZJ h1,Wa,Wn (by simpa using h1)];by_cases h10:op=10
 .rw[XL h10,Wc,Wp h10,Je hw hN hv tb,Xa]
 simp[XD,h10,Wa,Wn,JN,hw.loc,hN,Xa]
end
def Xo3{β:Type}(K:Bool->β)(c1 c2:Bool):(jn K λj=>bif c1 then j true else j c2)=K (c1||c2):=by grind[XE]
def b2(op a b:Int):(op==a||op==b)=decide (op=a\/op=b):=by grind
def bd(op a:Int)(p:Prop)[Decidable p]:(op==a||decide p)=decide (op=a\/p):=by grind
def Xrk{β:Type}{p:Prop}[Decidable p](x y:β):(bif decide p then x else y)=if p then x else y:=by simp
def XnU{β:Type}(o:Option β):(bnd o λy=>some y)=o:=by
 cases o
 .exact Kq _
 exact Xa _ _
def XnV{β:Type}{p:Prop}[Decidable p](x y:β):(if p then some x else some y)=some (if p then x else y):=by grind
section
variable {N:Nat}{w:WV}{k:Nat}
def XpU(hw:WB k w)(hN:1000000<N)(tw:XW w)(op:Int){a b c:Int}(ta:tU a)(tb:tU b)(tc:tU c)(f:Bool):QfM N w op a b c f=some (Xlf w op a b c f):=by
 rw[QfM,XbF hw hN,Xa,Xlf];cases hv:YF w
 .rfl
 rw[Ws,Wa,Wn ab];simp only[Xo3,XnU,Xg1 hw hN op ta tb f,Xja hw hN hv tw op ta tb tc,Xg2 hw hN hv op ta,Xlg hw hN hv op ta,Xjb hw hN hv op ta,Xjc hw hN hv op ta f,Xlh hw hN hv op ta tb,b2,bd,Xrk,XnV]
end
def XaT(d:WD):∀(k:Nat)(l:List Int),∀r∈Vk d k l,r∈l
 |k,[],r,h=>by assumption
 |k,f::fs,r,h=>by
  unfold Vk at h;split at h
  .rcases UY.1 h with h|h
   .simp_all
   exact Ul _ (XaT d (k+1) fs r h)
  exact Ul _ (XaT d (k+1) fs r h)
def zWo:WV:=⟨⟨0,0⟩,[],zL,zT,zT,[],[]⟩
def Xli{k:Nat}(hk:k<=900):WB k zWo:=⟨hk,by simp[zWo],λx hx=>by simp_all[zWo],Zw,by simp[zWo,zT],by simp[zWo,zT],by simp[zWo],by simp[zWo]⟩
section
variable {N:Nat}{w:WV}{k:Nat}
def XcC(hm:w.m.length<=1000):∀(n:Nat)(i:Int)(v:List Int),0<=i->i<=w.m.length->(w.m.length-i).toNat<n->v.length<=100000+i->(∀x∈v,0<=x/\x<=w.T.length)->(∀m∈w.m,0<=m.I/\m.I<=w.T.length)->Ok (QeP N w n i v) λr=>r.length<=v.length+(w.m.length-i)/\∀x∈r,0<=x/\x<=w.T.length
 |0,i,v,_,_,hn,_,_,_=>by omega
 |n+1,i,v,h0,hi,hn,hv,hx,hmm=>by
  refine Wm (λhc=>?_) λhc=>We ⟨aa,hx⟩;have hc:i<w.m.length:=Wu hc;rw[Xd (n:=i+1) aa aa];refine Ok.get h0 hc λp hp=>WT aa ?_;have hpm:=Yx hp;refine(XcC hm n (i+1) _ aa aa aa ah (λx hx'=>?_) hmm).mono λr hr=>⟨?_,hr.2⟩
  .rcases WG.1 hx' with h|h
   .exact hx x h
   rw[UJ.1 h];exact hmm p hpm
  grind
def Xg3(hN:NB N)(hw:WB k w)(hv:YF w=true)(tw:XW w):Ok (Qg2 N w) λr=>r.length<=10000/\∀x∈r,0<=x/\x<=w.T.length:=by
 have hN':=hN;unfold NB at hN';have hr:=hw.roots;have hm:=hw.marks;have wf:=KK hv;have⟨t1,t2,t3,t4,t5,t6⟩:=tw;have l1:=XfY wf.loc;have l2:=Xar wf.glo;refine WT aa ?_;rw[Zg hw.loc aa,Xa,wf.loc,Wc];refine WT aa ?_;rw[Yi hw.glo aa,Xa,wf.glo,Wc];refine WT aa (WH (XcC hm N 0 _ aa aa aa ah (λx hx=>?_) λm hmm=>?_) λr _ h=>We ⟨?_,h.2⟩)
 .simp only[WG]at hx;rcases hx with(h|h)|h
  .exact⟨(t6 x h).1,wf.roots x h⟩
  .refine⟨?_,wf.rloc x h⟩;obtain⟨p,hp,rfl⟩:=UW.1 h;exact(t2 p (UR.1 hp).1).1
  refine⟨?_,wf.rglo x h⟩;obtain⟨p,hp,rfl⟩:=UW.1 h;exact(t3 p (UR.1 hp).1).1
 .have⟨i,hi,e⟩:=WM hmm;have:=wf.mk_ (k:=i) (m:=m) (by rw[Wb hi,e]);omega
 grind
def Xau(hN:NB N)(hw:WB k w)(hv:YF w=true)(tw:XW w)(M:Nat)(hM:M<=2000000):∀(n:Nat)(i:Int)(v:List Bool)(q:List Int),0<=i->i<=q.length->(M-i).toNat<n->v.length=w.T.length->(∀x∈q,0<=x/\x<=w.T.length)->q.length+1000*v.countP (λb=>!b)<=M->Ok (QcI N w n i v q) λr=>r.length=w.T.length
 |0,i,v,q,_,_,hn,_,_,_=>by omega
 |n+1,i,v,q,h0,hi,hn,hl,hq,hm=>by
  have hN':=hN;unfold NB at hN';have hk:=hw.kk;have ht:=hw.things;refine WT aa (Wm (λhc=>?_) λ_=>We hl);have hc:i<q.length:=Wu hc;rw[Xd (n:=i+1) aa aa];refine Ok.get h0 hc λp hp=>?_;have same:∀p',Xb q i=some p'->p'=p:=λp' h=>WK (h.symm.trans hp);have hpq:=hq p (Yx hp);refine Wm (λ_=>Xau hN hw hv tw M hM n (i+1) v q aa aa aa hl hq hm) λhz=>?_;have hz:¬p=0:=by simpa using hz
  refine Ok.get h0 hc λp2 hp2=>?_;obtain rfl:=same p2 hp2;rw[Xx (n:=p2-1) aa aa];refine Ok.get aa aa λb hb=>Wm (λ_=>Xau hN hw hv tw M hM n (i+1) v q aa aa aa hl hq hm) λhbf=>?_;refine Ok.get h0 hc λp3 hp3=>?_;obtain rfl:=same p3 hp3;rw[Xx (n:=p3-1) aa aa];refine Ok.get aa aa λ_ _=>Ok.get h0 hc λp4 hp4=>?_;obtain rfl:=same p4 hp4;have⟨g1,g2⟩:=K9 hw (id:=p4) aa aa;have hf:=hw.fields _ g2;have⟨v1,v2,v3,v4⟩:=(KK hv).thing _ g2;have hrl:=XaR (thg w p4).H 0 (thg w p4).D;have hrl:(XdL (thg w p4)).length<=1000:=by unfold XdL;omega
  rw[g1,Xa,XfX aa aa,Xa];have hlt:(p4-1).toNat<v.length:=aa;have hbv:v[(p4-1).toNat]=false:=by rw[Yg aa aa]at hb;rw[WK hb];exact hbf
  have hcount:(v.set (p4-1).toNat true).countP (λb=>!b)+1<=v.countP (λb=>!b):=by have hpos:0<v.countP (λb=>!b):=List.countP_pos_iff.2 ⟨v[(p4-1).toNat],WN _,by simp_all⟩;rw[List.countP_set hlt,hbv];simp;omega
  refine WT aa (Xau hN hw hv tw M hM n (i+1) _ _ aa (by rw[WQ];omega) aa (by simp_all) (λx hx=>?_) (by rw[WQ];omega));rcases WG.1 hx with h|h
  .simp_all
  refine⟨?_,v4 x h⟩;exact((tw.1 _ g2).2 x (XaT _ _ _ x h)).1
def Xg4(hN:NB N)(hw:WB k w)(hv:YF w=true)(tw:XW w):Ok (QfJ N w) λr=>r.length=w.T.length:=by have hN':=hN;unfold NB at hN';have hk:=hw.kk;have ht:=hw.things;rw[QfJ,XbF hw aa,Xa,hv,Ws,Wa];refine WT aa (WH (Xg3 hN hw hv tw) λy _ hy=>WH (Xau hN hw hv tw 1100000 aa N 0 _ y aa aa aa (by rw[WS];omega) hy.2 ?_) λr _ hr=>We hr);grind[WS]
def XeE(y:List Bool)(hy:y.length=w.T.length)(hw:WB k w):∀(n:Nat)(i:Int)(v:List Int),0<=i->i<=v.length->(v.length-i).toNat<n->v.length<=1000->(∀x∈v,0<=x/\x<=w.T.length)->Ok (Qa4 N w y n i v) λr=>r.length=v.length
 |0,i,v,_,_,hn,_,_=>by omega
 |n+1,i,v,h0,hi,hn,hl,hx=>by
  have hk:=hw.kk;have ht:=hw.things;refine WT aa (Wm (λhc=>?_) λ_=>We rfl);have hc:i<v.length:=Wu hc;rw[Xd (n:=i+1) aa aa];have next:=XeE y hy hw n (i+1) v aa aa aa hl hx
  refine Ok.get h0 hc λp hp=>Wm (λhz=>Ok.get h0 hc λp2 hp2=>?_) λ_=>next
  obtain rfl:p=p2:=WK (hp.symm.trans hp2);have hpq:=hx p (Yx hp);have hz:¬p=0:=by simpa using hz
  rw[Xx (n:=p-1) aa aa];refine Ok.get aa aa λ_ _=>Wm (λ_=>Ok.get h0 hc λ_ _=>?_) λ_=>next
  refine(XeE y hy hw n (i+1) _ aa (by rw[WR];omega) (by rw[WR];omega) (by rw[WR];exact hl) λx hx'=>?_).mono λr hr=>by rw[hr,WR]
  grind
def Xbi(hN:NB N)(hw:WB k w)(tw:XW w):Ok (Qdb N w) λr=>WB k r.1:=by
 have hN':=hN;unfold NB at hN';rw[Qdb,XbF hw aa,Xa];refine Wm (λ_=>We (Xli hw.kk)) λhv=>?_;have hv:YF w=true:=by simpa using hv
 have wf:=KK hv;have l3:=Xar wf.wea;refine WH (Xg4 hN hw hv tw) λy _ hy=>?_;rw[Yi hw.wea aa,Xa,wf.wea,Wc];refine WH (XeE y hy hw N 0 _ aa aa aa aa λx hx=>⟨?_,wf.rwea x hx⟩) λz _ hz=>WH (XdI hw.wea aa aa) λt _ ht=>We ⟨hw.kk,hw.things,hw.fields,hw.loc,hw.gloK,Um ht hw.weaK,hw.marksK,hw.rootsK⟩;obtain⟨p,hp,rfl⟩:=UW.1 hx;exact(tw.2.2.2.1 p (UR.1 hp).1).1
end
def Oy{β κ:Type}{P:β->Prop}{k:κ->Option β}{f:(κ->Option β)->Option β}(Q:κ->Prop)(h:∀x,Q x->Ok (k x) P)(g:∀j:κ->Option β,(∀x,Q x->Ok (j x) P)->Ok (f j) P):Ok (Sx.jn k f) P:=by simp_all[XE]
section
variable {N:Nat}{w:WV}{k:Nat}
def VC(hw:WB k w)(hN:1000000<N)(id:Int):Ok (QcZ N w id) λr=>WB k r.1:=by refine W6 (We hw) ?_;rw[Xap hw.loc hN,Xa];exact W7 (Zn _) λy _=>We ⟨hw.kk,hw.things,hw.fields,XhW hw.loc id,hw.gloK,hw.weaK,hw.marksK,hw.rootsK⟩
def Xh6(hw:WB k w){id i v:Int}(h1:1<=id)(h2:id<=w.T.length)(i0:0<=i)(i1:i<(thg w id).D.length):Ok (Qfr N w id i v) λr=>WB k r:=by
 have hk:=hw.kk;have ht:=hw.things;have⟨g1,g2⟩:=K9 hw h1 h2;have hf:=hw.fields _ g2;rw[Qfr,Xc aa,g1,Xa,Xc aa];refine Ok.get i0 aa λ_ _=>?_;rw[Xa];refine We ⟨hw.kk,?_,λx hx=>?_,hw.loc,hw.gloK,hw.weaK,hw.marksK,hw.rootsK⟩
 .simp_all
 rcases Uw hx with h|h
 .exact hw.fields x h
 simp_all
def Xf2(hw:WB k w)(hN:1000000<N)(op id:Int):Ok (QeG N w op id) λr=>WB k r.1:=by
 refine U7 (W6 ?_ ?_)
 .rw[K7 hw.wea hN,Xa];exact W7 (Zn _) λy _=>We ⟨hw.kk,hw.things,hw.fields,hw.loc,hw.gloK,Xcr hw.weaK id,hw.marksK,hw.rootsK⟩
 rw[K7 hw.glo hN,Xa];exact W7 (Zn _) λy _=>We ⟨hw.kk,hw.things,hw.fields,hw.loc,Xcr hw.gloK id,hw.weaK,hw.marksK,hw.rootsK⟩
def Xg5(hw:WB k w)(hN:1000000<N)(v:Int):Ok (Qfk N w v) λr=>WB k r:=by
 refine W7 (XaQ _) λy _=>W6 ?_ (W6 ?_ ?_)
 .rw[Xez hw.loc hN,Xa];exact We ⟨hw.kk,hw.things,hw.fields,XhX hw.loc _ _,hw.gloK,hw.weaK,hw.marksK,hw.rootsK⟩
 .rw[Vz hw.glo hN,Xa];exact We ⟨hw.kk,hw.things,hw.fields,hw.loc,XfQ hw.gloK _ _,hw.weaK,hw.marksK,hw.rootsK⟩
 rw[Vz hw.wea hN,Xa];exact We ⟨hw.kk,hw.things,hw.fields,hw.loc,hw.gloK,XfQ hw.weaK _ _,hw.marksK,hw.rootsK⟩
def Xlj(hw:WB k w)(hN:1000000<N)(h64:w.m.length<=64)(op id b:Int)(h20:op=20->0<=Zq w.m id):Ok (QfB N w op id b) λr=>WB k r.1:=by
 have setM:∀l:List Il,l.length<=100+k->WB k ⟨w.c,w.T,w.l,w.g,w.v,l,w.R⟩:=λl hl=>⟨hw.kk,hw.things,hw.fields,hw.loc,hw.gloK,hw.weaK,hl,hw.rootsK⟩
 rw[QfB,Qg4,XeC aa hN,Xa,Xa];refine WT aa (Wm (λh=>?_) λ_=>Wm (λh=>?_) λh=>WT aa (We (setM _ (by grind))))
 .have h:=h20 (by simp_all);have⟨m1,_,_⟩:=XaS h;refine Ok.get h m1 λ_ _=>Ok.get h m1 λ_ _=>Ok.get h (by simp_all) λ_ _=>Wm (λ_=>?_) λ_=>We (setM _ (by grind));have e:=Xd (n:=Zq w.m id+1) aa aa;refine WT aa (WT aa (WT aa (We (setM _ ?_))));simp;omega
 have h:0<=Zq w.m id:=Wu h;have⟨m1,_,_⟩:=XaS h;exact Ok.get h m1 λ_ _=>Ok.get h m1 λ_ _=>Ok.get h (by simp_all) λ_ _=>We (setM _ (by grind))
def WB.up(hw:WB k w)(hk:k+1<=900):WB (k+1) w:=⟨hk,by have:=hw.things;omega,hw.fields,hw.loc,by have:=hw.gloK;omega,by have:=hw.weaK;omega,by have:=hw.marksK;omega,by have:=hw.rootsK;omega⟩
def Xlk(hN:NB N)(hw:WB k w)(hk:k+1<=900)(tw:XW w)(op:Int){a b c:Int}(ta:tU a)(tb:tU b)(tc:tU c)(ft:I6):Ok (QfC N w op a b c ft) λr=>WB (k+1) r.1:=by
 have hN':=hN;unfold NB at hN';have hN1:1000000<N:=aa;have zero:WB (k+1) zWo:=Xli hk;rw[QfC,XpU hw hN1 tw op ta tb tc,Xa];refine Wm (λ_=>We zero) λhz=>?_;have hz:Xlf w op a b c ft.Failed=0:=by simpa using hz
 have hv:YF w=true:=by
  cases h:YF w
  .unfold Xlf at hz;rw[h]at hz;cases hz
  rfl
 have wf:=KK hv;unfold Xlf at hz;rw[hv,Wn ab]at hz;have thing:(XK w a).2=0->1<=(ZM w a).1/\(ZM w a).1<=w.T.length/\XK w a=ZM w a:=λh=>by obtain⟨t1,t2,t3⟩:=XdN hw hv tw ta h;rw[t3]at t1 t2;exact⟨t1,t2,t3⟩
 refine Oy (λx=>¬(op<=3\/op=17)->x=(ZM w a).1) (λx3 hx3=>?_) λj1 h1=>?_;rotate_left
 .refine Wm (λhg=>Wm (λh17=>?_) λh17=>h1 _ λh=>absurd (Or.inr (by simpa using h17)) h) λhg=>h1 _ λh=>absurd (Or.inl (by have:=WO hg;omega)) h;rw[Je hw hN1 hv ta,Xa];exact h1 _ λ_=>rfl
 simp only[Xo3];refine Wm (λhc=>?_) λhc=>?_
 ·
  have hc:op=1\/op=2\/op=3:=by simpa using hc
  rw[Wp hc]at hz;obtain⟨d,hd,hd2⟩:=Xf1 (N:=N) op ta tb;have hfac:okW op a b/\XdM w.c (hdW op a b)=true:=by
   unfold Xat at hz;split at hz
   .cases hz
   split at hz
   .cases hz
   rename_i _ h2;split at hz
   .cases hz
   rename_i h3;exact⟨Classical.not_not.1 h2,by simpa using h3⟩
  have hdd:=hd2 hfac.1;have hvd:XG d=true:=by have:=hfac.2;unfold XdM at this;rw[W5]at this;rw[hdd];exact this.1
  have hb:=XP hvd;have main:∀w':WV,WB k w'->Ok (α:=WV×Int×Int) (bnd (Qcv N op a b) λy17=>
   grd (w'.T.length*48<=140737488355328) <|
   grd (0<=y17.1.n/\y17.1.n.toNat*8<=140737488355328) <|
   grd ((w'.T.length+1)*48<=140737488355328) <|
   grd ((w'.T.length+1)<=140737488355328) <|
   bnd (QcZ N (WV.mk (WU.mk w'.c.W w'.c.p) (w'.T++[(Ia.mk y17.1 (List.replicate y17.1.n.toNat 0))]) (Ww.mk w'.l.S w'.l.x w'.l.i) (WE.mk w'.g.e) (WE.mk w'.v.e) w'.m w'.R) (wU (((w'.T.length+1):Nat):Int))) λy18=>
   some (y18.1,y18.2,0)) λr=>WB (k+1) r.1:=by
   intro w' hw'
   have ht:=hw'.things
   rw[hd,Xa]
   refine WT aa (WT (by constructor<;>simp only<;>omega) (WT aa (WT aa (W7 (VC (k:=k+1) (w:=⟨w'.c,w'.T++[⟨d,List.replicate d.n.toNat 0⟩],w'.l,w'.g,w'.v,w'.m,w'.R⟩) ⟨hk,?_,λx hx=>?_,hw'.loc,Ip hw'.gloK,Ip hw'.weaK,Ip hw'.marksK,Ip hw'.rootsK⟩ hN1 _) λy hy=>We hy))))
   .show(w'.T++[_]).length<=_;rw[WQ];simp;omega
   .rcases WG.1 hx with h|h
    .exact hw'.fields x h
    .rw[UJ.1 h];show(List.replicate _ _).length<=_;rw[WS];omega
  refine U7 (Wm (λ_=>WH (Xbi hN hw tw) λy _ hy=>?_) λ_=>?_)
  .exact main y.1 hy
  exact main w hw
 have hn1:¬(op=1\/op=2\/op=3):=by simpa using hc
 rw[Wn hn1]at hz;have sw:∀v e:Int,Ok (α:=WV×Int×Int) (some (w,v,e)) λr=>WB (k+1) r.1:=λv e=>We (hw.up hk);have up:∀{w':WV},WB k w'->WB (k+1) w':=λh=>WB.up h hk;have pl:(op=4\/op=5\/op=10\/op=11)->XcB w op a b=0:=λh=>by rw[Wn aa,Wn aa,Wn aa,Wn aa,Wn aa,Wp h]at hz;exact hz
 have len:(op=4\/op=5)->1<=x3/\x3<=w.T.length:=λh=>by have h1:=pl aa;unfold XcB at h1;rw[Wp h]at h1;have:=thing h1;rw[hx3 aa];exact⟨this.1,this.2.1⟩
 have fld:(op=6\/op=7\/op=8\/op=9)->(1<=x3/\x3<=w.T.length)/\b<(thg w x3).D.length/\wI b=b:=λh=>by
  rw[Wp h]at hz;unfold XbG at hz;by_cases h1:(XK w a).2=0;rotate_left
  .rw[Wp h1]at hz;exact absurd hz h1
  rw[Wn (by simpa using h1)]at hz;obtain⟨t1,t2,t3⟩:=thing h1;have e:x3=(ZM w a).1:=hx3 aa;rw[t3,←e]at hz;rw[←e]at t1 t2;obtain⟨g1,g2⟩:=K9 hw t1 t2;obtain⟨v1,v2,v3,v4⟩:=wf.thing _ g2;have vb:=XP v1;by_cases h2:b>=(thg w x3).H.n
  .rw[Wp h2]at hz;cases hz
  have:=tb.1;exact⟨⟨t1,t2⟩,aa,Xd aa aa⟩
 refine Wm (λh4=>?_) λn4=>Wm (λh5=>?_) λn5=>Wm (λh6=>?_) λn6=>Wm (λh7=>?_) λn7=>Wm (λh8=>?_) λn8=>Wm (λh9=>?_) λn9=>Wm (λh10=>?_) λn10=>Wm (λh11=>?_) λn11=>?_
 .have h4:op=4:=by simpa using h4
  have:=len (.inl h4);rw[(K9 hw this.1 this.2).1,Xa];exact sw _ _
 .have h5:op=5:=by simpa using h5
  have:=len (.inr h5);rw[(K9 hw this.1 this.2).1,Xa];exact sw _ _
 .have h6:op=6:=by simpa using h6
  obtain⟨f1,f2,f3⟩:=fld aa;rw[(K9 hw f1.1 f1.2).1,Xa];exact Ok.get tb.1 f2 λ_ _=>sw _ _
 .have h7:op=7:=by simpa using h7
  obtain⟨f1,f2,f3⟩:=fld aa;rw[f3];exact W7 (Xh6 hw f1.1 f1.2 tb.1 f2) λy hy=>We (up hy)
 .have h8:op=8:=by simpa using h8
  obtain⟨f1,f2,f3⟩:=fld aa;rw[(K9 hw f1.1 f1.2).1,Xa];exact Ok.get tb.1 f2 λ_ _=>W7 (VC hw hN1 _) λy hy=>We (up hy)
 .have h9:op=9:=by simpa using h9
  obtain⟨f1,f2,f3⟩:=fld aa;rw[Je hw hN1 hv tc,Xa,f3];exact W7 (Xh6 hw f1.1 f1.2 tb.1 f2) λy hy=>We (up hy)
 .rw[Je hw hN1 hv tb,Xa];exact W6 (sw _ _) (sw _ _)
 .exact W7 (VC hw hN1 _) λy hy=>We (up hy)
 have n6:¬op=6:=by simpa using n6
 have n7:¬op=7:=by simpa using n7
 have n8:¬op=8:=by simpa using n8
 have n9:¬op=9:=by simpa using n9
 refine Wm (λ_=>W7 (Xf2 hw hN1 _ _) λy hy=>We (up hy)) λnl=>?_;have nl:¬(op=13\/op=15):=by simpa using nl
 refine Wm (λ_=>W7 (Xg5 hw hN1 _) λy hy=>We (up hy)) λnr=>?_;have nr:¬(op=12\/op=14\/op=16):=by simpa using nr
 refine Wm (λ_=>?_) λn17=>Wm (λ_=>?_) λn18=>?_
 .rw[Xaq hw.loc hN1,Xa];exact We (up ⟨hw.kk,hw.things,hw.fields,XfO hw.loc _,hw.gloK,hw.weaK,hw.marksK,hw.rootsK⟩)
 .rw[XbC hw.loc hN1,Xa];exact W7 (VC (w:=⟨w.c,w.T,(ZS w.l).1,w.g,w.v,w.m,w.R⟩) ⟨hw.kk,hw.things,hw.fields,XbD hw.loc,hw.gloK,hw.weaK,hw.marksK,hw.rootsK⟩ hN1 _) λy hy=>We (up hy)
 have n17:¬op=17:=by simpa using n17
 have n18:¬op=18:=by simpa using n18
 rw[Wn aa,Wn aa,Wn aa,Wn aa]at hz;refine W7 (Xlj hw hN1 wf.m64 op x3 _ λh20=>?_) λy hy=>We (up hy);unfold Xh5 at hz;grind
end
def Xh7{α:Type}{l:List α}{F:Nat->Int->Option (Ex Int Unit)}{p:α->Bool}(hl:l.length<=1000000)(hstep:∀(n k:Nat)(x:α),l[k]? = some x->F (n+1) (k:Int)=bif p x then some (.ret (k:Int))else F n ((k+1:Nat):Int))(hstop:∀n:Nat,F (n+1) (l.length:Int)=some (.nxt ())):∀(n k:Nat),k<=l.length->l.length-k<n->F n (k:Int)=some (match (l.drop k).findIdx? p with|some j=>.ret ((k+j:Nat):Int)|none=>.nxt ())
 |0,k,_,hn=>by omega
 |n+1,k,hk,hn=>by
  by_cases h:k<l.length
  .rw[hstep n k _ (Wb h),Wq h,List.findIdx?_cons];cases hp:p l[k]
   .rw[Wa,Xh7 hl hstep hstop n (k+1) aa aa,Wn ab];cases (l.drop (k+1)).findIdx? p with
    |none=>rfl
    |some j=>simp only[IE];rw[show k+1+j=k+(j+1) by omega]
   simp
  grind
def VP{α:Type}(p:α->Bool)(l:List α):Int:=match l.findIdx? p with|some j=>(j:Int)|none=>-1
def Jg{α:Type}{l:List α}{F:Nat->Int->Option (Ex Int Unit)}{p:α->Bool}{N:Nat}(hl:l.length<=1000000)(hN:1000000<N)(hstep:∀(n k:Nat)(x:α),l[k]? = some x->F (n+1) (k:Int)=bif p x then some (.ret (k:Int))else F n ((k+1:Nat):Int))(hstop:∀n:Nat,F (n+1) (l.length:Int)=some (.nxt ())):(bnd (F N 0) λe=>exK e (λr=>some r) λ_=>some (-1))=some (VP p l):=by
 have h:=Xh7 hl hstep hstop N 0 aa aa;rw[show((0:Nat):Int)=0 from rfl,WX]at h;rw[h,Xa,VP];cases l.findIdx? p with
 |none=>simp[Xm]
 |some j=>simp[Xy,Ux]
def Z8{α:Type}(p:α->Bool)(l:List α):decide (VP p l>=0)=l.any p:=by unfold VP;grind
section
variable {N:Nat}
def XnW(e:W8):QfN N e=some (!Xbh e):=by rw[QfN];unfold Xbh;grind
def XeF{α:Type}(p:α->Bool)(l:List α):(!l.any λx=>!p x)=l.all p:=by grind
def Xav{t:WE}(hl:TB t)(hN:1000000<N):Qep N t=some (YX t.e):=by
 unfold TB at hl;rw[Qep,QaC,QaK];rw[Jg (p:=λe=>!Xbh e) hl hN (λn k x e=>by
  have hk:=XA e
  rw[Qak,Xk hk,Wc,Xe,e,Xa,XnW,Xa,Xf aa]) (λn=>by rw[Qak,Xw,Wa])]
 rw[Xa,Xa,Z8,XeF,YX,show decide ((t.e.length:Int)<=64)=decide (t.e.length<=64)from decide_eq_decide.2 aa];grind
def XaU{t:WE}(hl:t.e.length<=1000000):∀(n k:Nat)(v:List Int),k<=t.e.length->t.e.length-k<n->v.length<=k ->
 QdU N t n (k:Int) v=some (v++XR (t.e.drop k))
 |0,k,v,_,hn,_=>by omega
 |n+1,k,v,hk,hn,hlv=>by
  rw[QdU];by_cases h:k<t.e.length
  .rw[Xk h,Wc,Xe,Wb h,Xa,Xf aa,Wq h,XR];cases hL:t.e[k].V
   .rw[Wa,XaU hl n (k+1) v aa aa aa,UP (by simp_all)];rfl
   rw[Wc,Xc aa,XaU hl n (k+1) _ aa aa (by simp_all),Uv aa];simp[XR]
  obtain rfl:k=t.e.length:=aa;simp[XR]
def KM{t:WE}(hl:TB t)(hN:1000000<N):Qdz N t=some (bif YX t.e then XR t.e else[]):=by
 rw[Qdz,Xav hl hN,Xa];cases hv:YX t.e
 .rfl
 have h:=XaU (N:=N) (t:=t) hl N 0 [] aa (by unfold TB at hl;omega) ab;rw[show((0:Nat):Int)=0 from rfl,WX,Ug]at h;simp[Ws,Wa,h,Xa]
def Xjd(x:Int):QfO N x=some (!(!decide (x<0)&&!decide (x>4095))):=by rw[QfO,show decide (x>=4096)=decide (x>4095)from decide_eq_decide.2 aa];cases decide (x<0)<;>cases decide (x>4095)<;>rfl
def XdO{a:Ww}:∀(n:Nat)(s i:Int),QaX N ⟨a⟩ n s i=Qan N a n s i
 |0,s,i=>by rfl
 |n+1,s,i=>by rw[QaX,Qan];have e:∀s i,QaX N ⟨a⟩ n s i=Qan N a n s i:=XdO n;simp_all
def XcD{a:Ww}:∀(n:Nat)(s i:Int),Qa6 N ⟨a⟩ n s i=Qao N a n s i
 |0,s,i=>by rfl
 |n+1,s,i=>by rw[Qa6,Qao];have e:∀s i,Qa6 N ⟨a⟩ n s i=Qao N a n s i:=XcD n;grind
def Xje{a:Ww}(hl:LBp a)(hne:neB a.S.length a.x=true){k:Nat}{p:UT}(hp:a.x[k]? = some p):QdI N ⟨a⟩ (k:Int)=some ((a.S.drop p.O.toNat).take ((toL a k).toNat-p.O.toNat)):=by
 have hf:=Vh hne hp;have hk:=XA hp;have hl2:=hl.2.1;have hle:(IU.mk a).l.S.length=a.S.length:=rfl;rw[QdI,Xf aa,toL];by_cases h:k+1<a.x.length
 .have e2:=Wb h;have hf2:=Vh hne e2;have:=hf.2.2.2.2.2 _ e2;rw[Xk h,Wc,Xe,hp,Xa,Xe,e2,Xa,Xc aa]
 rw[show decide (((k+1:Nat):Int)<(a.x.length:Int))=false from Wh aa,Wa,Xe,hp,Xa,Xc aa,WY aa];simp[Uj,Wk]
def XcE(l:List UK)(hl:l.length<=1000000):∀(n k c:Nat),k<=l.length->l.length-k<n->c<=k->QbC N l n (c:Int) (k:Int)=some (((c+(l.drop k).countP (·.V):Nat):Int))
 |0,k,c,_,hn,_=>by omega
 |n+1,k,c,hk,hn,hc=>by
  rw[QbC];by_cases h:k<l.length
  .rw[Xk h,Wc,Xe,Wb h,Xa,Xf aa,Xf aa,Wq h,List.countP_cons];cases hL:l[k].V
   .rw[Wa,XcE l hl n (k+1) c aa aa aa];simp
   rw[Wc,XcE l hl n (k+1) (c+1) aa aa aa];simp;omega
  grind
def Xll{a:Ww}(hl:LBp a)(hN:1000000<N)(hne:neB a.S.length a.x=true){k:Nat}{p:UT}(hp:a.x[k]? = some p):Qea N ⟨a⟩ (k:Int)=some ((K6 a.S p.O.toNat (toL a k).toNat:Nat):Int):=by
 have hl1:=hl.1;rw[Qea,Xje hl hne hp,Xa];have hlen:((a.S.drop p.O.toNat).take ((toL a k).toNat-p.O.toNat)).length<=1000000:=by rw[Wj,Wk];omega
 have h:=XcE (N:=N) _ hlen N 0 0 aa aa aa;rw[show((0:Nat):Int)=0 from rfl,WX,Ux]at h;rw[h,Xa];rfl
def XcF{a:Ww}(hl:LBp a)(hN:1000000<N):Qe4 N a=some (Y1 a):=by
 have hl':=hl;have⟨hl1,hl2,hl3⟩:=hl;rw[Qe4,Qbn,QbH];rw[Jg (p:=λx=>!(!decide (x<0)&&!decide (x>4095))) hl3 hN (λn k x e=>by
  have hk:=XA e
  rw[QaB,Xk hk,Wc,Xe,e,Xa,Xjd,Xa,Xf aa]) (λn=>by rw[QaB,Xw,Wa])]
 have h2:=Ju (l:=a.S) (F:=λn s i=>Qao N a n s i) (q:=stQ a.i) (nxp:=λ_ p=>p.J) (I:=λs=>0<=s) (λn s k p hs e=>by
  have hk:=XA e
  show Qao N a (n+1) s (k:Int)=_
  rw[Qao,Xk hk,Wc,Xe,e,Xa,Xf aa]
  unfold stQ
  cases g1:decide (p.J<=s)
  .cases g2:decide (p.J>(a.i.length:Int))
   .have g1:=WO g1
    have g2:=WO g2
    rw[Wa,Wa,Xd aa aa,Yg aa aa,Xa]
    have ge:a.i[(p.J-1).toNat]'aa=a.i.getD (p.J-1).toNat 0:=by
     rw[Wo,Wb aa];rfl
    rw[ge]
    cases (a.i.getD (p.J-1).toNat 0 != (k:Int))<;>cases (p.V==(p.a != 0))<;>rfl
   .rfl
  .rfl) (λn s=>by show Qao N a (n+1) s _=_;rw[Qao,Xw,Wa]) (λs k p hs e hq=>by
   unfold stQ at hq
   simp only[W5,IK,Iw]at hq
   have:=hq.1
   omega) N 0 0 aa aa aa
 have h3:=Ju (l:=a.x) (F:=λn s i=>Qan N a n s i) (q:=neQ a.S.length) (nxp:=λ_ p=>p.O) (I:=λ_=>True) (λn s k p hs e=>by
  have hk:=XA e
  show Qan N a (n+1) s (k:Int)=_
  rw[Qan,Xk hk,Wc,Xe,e,Xa,Xf aa]
  unfold neQ
  cases ((k:Int)==0)<;>cases (p.O != 0)<;>cases p.B0<;>cases decide (p.O<s)<;>cases decide (p.O>(a.S.length:Int))<;>cases decide (p.C0<0)<;>cases decide (p.C0>64)<;>rfl) (λn s=>by show Qan N a (n+1) s _=_;rw[Qan,Xw,Wa]) (λ_ _ _ _ _ _=>trivial) N 0 0 trivial aa aa
 have e2:Qao N a N 0 0=some (bif stB a.i a.S then .nxt ()else .ret false):=h2;have e3:Qan N a N 0 0=some (bif neB a.S.length a.x then .nxt ()else .ret false):=h3;have en:Qde N ⟨a⟩=some (!decide ((a.x.length:Int)>64)&&((!((a.x.length:Int)==0)||!decide ((a.S.length:Int)>0))&&neB a.S.length a.x)):=by rw[Qde,XE,XdO,e3,Xa];cases neB a.S.length a.x<;>cases decide ((a.x.length:Int)>64)<;>cases ((a.x.length:Int)==0)<;>cases decide ((a.S.length:Int)>0)<;>simp only[Wc,Wa,Xy,Xm]<;>rfl
 have es:Qc4 N ⟨a⟩=some (stB a.i a.S):=by rw[Qc4,XcD,e2,Xa];cases stB a.i a.S<;>simp only[Wc,Wa,Xy,Xm]
 rw[Xa,Xa,Z8,en,Xa,es,Xa,Y1,XnQ];have ea:(a.i.any λx=>!(!decide (x<0)&&!decide (x>4095))) = !(a.i.all λp=>!decide (p<0)&&!decide (p>4095)):=by rw[←XeF,Bool.not_not]
 rw[ea];cases decide ((a.i.length:Int)>4096);rotate_left
 .rfl
 cases (a.i.all λp=>!decide (p<0)&&!decide (p>4095))
 .cases decide ((a.x.length:Int)>64)<;>cases (!((a.x.length:Int)==0)||!decide ((a.S.length:Int)>0))<;>rfl
 cases decide ((a.x.length:Int)>64);rotate_left
 .rfl
 cases (!((a.x.length:Int)==0)||!decide ((a.S.length:Int)>0))
 .rfl
 cases hne:neB a.S.length a.x
 .cases stB a.i a.S<;>rfl
 cases stB a.i a.S
 .rfl
 simp;have h4:=K4 (l:=a.x) (F:=Qdn N a) (q:=Xk8 a ()) (λn k p e=>by
  have hk:=XA e
  rw[Qdn,Xk hk,Wc,Xe,e,Xa,Xll hl' hN hne e,Xa,Xf aa]
  unfold Xk8
  cases decide (((K6 a.S p.O.toNat (toL a k).toNat:Nat):Int)>p.C0)<;>rfl) (λn=>by rw[Qdn,Xw,Wa]) (n:=N) aa
 rw[h4,Xa];show exK (bif XgT a then Ex.nxt ()else Ex.ret false) _ _=_;cases XgT a
 .rw[Wa,Xy]
 simp[Wc,Xm]
def XaV{a:Ww}(hl:a.S.length<=1000000):∀(n k:Nat)(v:List Int),k<=a.S.length->a.S.length-k<n->v.length<=k ->
 QdV N a n (k:Int) v=some (v++X8 (a.S.drop k))
 |0,k,v,_,hn,_=>by omega
 |n+1,k,v,hk,hn,hlv=>by
  rw[QdV];by_cases h:k<a.S.length
  .rw[Xk h,Wc,Xe,Wb h,Xa,Xf aa,Wq h,X8];cases hL:a.S[k].V
   .rw[Wa,XaV hl n (k+1) v aa aa aa,UP (by simp_all)];rfl
   rw[Wc,Xc aa,XaV hl n (k+1) _ aa aa (by simp_all),Uv aa];simp[X8]
  obtain rfl:k=a.S.length:=aa;simp[X8]
def XaW{a:Ww}(hl:LBp a)(hN:1000000<N):QfD N a=some (bif Y1 a then X8 a.S else[]):=by
 rw[QfD,XcF hl hN,Xa];cases hv:Y1 a
 .rfl
 have h:=XaV (N:=N) (a:=a) hl.1 N 0 [] aa (by have:=hl.1;omega) ab;rw[show((0:Nat):Int)=0 from rfl,WX,Ug]at h;simp[Ws,Wa,h,Xa]
end
def KN(N:Nat)(c:WU):QbP N c=some (X5 c):=by exact Y0 N c
def Xlm(N:Nat)(c:WU):QeU N c=some (smC c):=by exact XhJ N c
def Xln(N:Nat)(c:WU)(w:Int):QeV N c w=some (XF c w):=by
 simp only[QeV,KN,Xlm,Xa,XF,smC];cases hc:X5 c with
 |false=>simp
 |true=>
  have h:=Xl.1 hc;simp only[Ws,Wa,if_true,Uu];rw[Xd (n:=4*c.W) aa aa];by_cases h1:w<1
  .rw[Wp h1,Wn (show¬(True/\1<=w)fromλh=>aa)]
  rw[Wn h1,Wp (show True/\1<=w from⟨trivial,aa⟩)];by_cases h2:w>4*c.W
  .rw[Wp h2];simp only[Wn (show¬w<=c.W / 4 by omega),Wn (show¬c.W>=w by omega),Wn (show¬2*c.W>=w by omega),Wn (show¬3*c.W>=w by omega),Wn (show¬4*c.W>=w by omega)]
  rw[Wn h2];by_cases h3:w<=c.W / 4
  .rw[Wp h3,Wp h3]
  rw[Wn h3,Wn h3,Xc aa,Xd (n:=w+c.W) aa aa,Xd (n:=w+c.W-1) aa aa,U0 aa];have key:∀k:Int,k*c.W<=w+c.W-1->w+c.W-1<(k+1)*c.W->(w+c.W-1) / c.W=k:=by intro k a b;have b1:=Int.ediv_lt_of_lt_mul (show 0<c.W by omega) b;have a1:=Int.le_ediv_of_mul_le (show 0<c.W by omega) a;omega
  split
  .rw[key 1 aa aa];rfl
  split
  .rw[key 2 aa aa];rfl
  split
  .rw[key 3 aa aa];rfl
  split
  .rw[key 4 aa aa];rfl
  omega
def Xg6(N:Nat)(c:WU)(a:Int)(ha:a<=18446744073709551615):Qcd N c a=QcH N c a:=by
 rw[Js];simp only[Qcd,KN,Xa,Uu];cases hc:X5 c with
 |false=>simp
 |true=>
  have h:=Xl.1 hc;have hm:=XZ hc (i:=0) aa aa;simp only[Ws,Wa];rw[Wn (show¬(true=false) by simp),Int.mul_comm c.W c.p];rw[Xd (n:=c.p*c.W) aa aa,Xx (n:=c.p*c.W) aa aa];by_cases h1:a<4096
  .grind
  rw[Wn h1,Xx (n:=a-4096) aa aa];by_cases h2:a>=4096+c.p*c.W
  .grind
  rw[Wn aa,Wp aa,Xc aa,Xc aa];rw[Xd (n:=a-4096) aa aa,U0 aa,If aa];have hd:0<=(a-4096) / c.W:=Int.ediv_nonneg aa aa;have hd2:(a-4096) / c.W<=a-4096:=Int.ediv_le_self _ aa;rw[Xd aa aa]
def XcG(N:Nat)(c:WU)(p o:Int):Qc6 N c p o=Qbq N c p o:=by
 rw[JK];simp only[Qc6,KN,Xa,Uu];cases hc:X5 c with
 |false=>simp
 |true=>
  simp only[Ws,Wa];rw[Wn (show¬(true=false) by simp)];by_cases h1:p<0
  .rw[Wp h1,Wn aa]
  rw[Wn h1];by_cases h2:p>=c.p
  .rw[Wp h2,Wn aa]
  rw[Wn h2];by_cases h3:o<0
  .rw[Wp h3,Wn aa]
  rw[Wn h3];by_cases h4:o>=c.W
  .rw[Wp h4,Wn aa]
  have hm:=XZ hc (i:=p) aa aa;rw[Xd (n:=p*c.W) aa aa,Xd (n:=p*c.W+o) aa aa,Xx (n:=p*c.W+o) aa aa,Xx aa aa];unfold Xg;grind
def ZT(sp:Int)(p:Wt):Bool:=p.k==3&&p.s==sp
def Vl(ps:List Wt)(sp:Int)(i:Nat):Nat:=((ps.drop i).takeWhile (ZT sp)).length
def Xf3(N:Nat)(ps:List Wt)(sp:Int)(hl:ps.length<=1000000):∀(n c i:Nat),i<=ps.length->c<=i->ps.length-i<n->Qdi N ps sp n (c:Int) (i:Int)=some (((c+Vl ps sp i:Nat):Int))
 |0,c,i,_,_,h=>by omega
 |n+1,c,i,h,hc,hn=>by
  rw[Qdi];by_cases hlt:i<ps.length
  .rw[Wg aa,Wc,Xe,Wb hlt,Xa,Xa];have hd:ps.drop i=ps[i]::ps.drop (i+1):=Wq hlt;unfold Vl;rw[hd,List.takeWhile_cons];cases h1:(ps[i].k==3)with
   |false=>simp[ZT,h1]
   |true=>
    cases h2:(ps[i].s==sp)with
    |false=>simp[ZT,h1,h2]
    |true=>rw[Wc,show ZT sp ps[i]=true by simp[ZT,h1,h2],Wp rfl];rw[Xf aa,Xf aa,Xf3 N ps sp hl n (c+1) (i+1) aa aa aa];unfold Vl;grind
  have:ps.drop i=[]:=UE aa;rw[Wh aa,Wa];simp[Vl,this]
def Xlo{N:Nat}(ps:List Wt)(sp:Int)(hl:ps.length<=1000000)(hN:1000000<N)(i:Nat)(hi:i<ps.length):QeZ N ps (i:Int) sp=some ((Vl ps sp (i+1):Nat):Int):=by rw[QeZ,Xf aa,show(0:Int)=((0:Nat):Int)from rfl,Xf3 N ps sp hl N 0 (i+1) aa aa aa,Xa,Ux]
def Xaw{α:Type}(q:α->Bool):∀(l:List α)(k:Nat),k<=(l.takeWhile q).length↔k<=l.length/\(l.take k).all q=true
 |[],k=>by simp
 |a::l,0=>by simp
 |a::l,k+1=>by
  rw[List.takeWhile_cons];cases h:q a with
  |false=>grind
  |true=>simp[h];exact Xaw q l k |>.trans ab
def Ya(sp:Int)(p:Wt):Bool:=ZT sp p&&(p.u==0&&p.P==0)
def Xh8(N:Nat)(a1:List Wt)(a2:Int)(p1:Wt)(x5 y6:Int)(l:List Wt)(hl:l.length<=1000000)(hd:((a1.drop (wI (a2+1)).toNat).take ((wI (a2+y6)).toNat-(wI (a2+1)).toNat))=l)(hm:min ((wI (a2+y6)).toNat-(wI (a2+1)).toNat) (a1.length-(wI (a2+1)).toNat)=l.length):
 ∀(n k:Nat),k<=l.length->l.length-k<n->Qfl N a1 a2 p1 x5 y6 n (k:Int)=some (if(l.drop k).all (Ya p1.s)=true then .nxt ()else .ret 0)
 |0,k,_,h=>by omega
 |n+1,k,h,hn=>by
  rw[Qfl,hd,hm];by_cases hlt:k<l.length
  .rw[Wg aa,Wc,Xe,Wb hlt,Xa,Qfc,Xa,Wq hlt,List.all_cons];have e:((l[k].k==3)&&((l[k].s==p1.s)&&((l[k].u==0)&&(l[k].P==0))))=Ya p1.s l[k]:=by unfold Ya ZT;rw[Bool.and_assoc]
   rw[e];cases hq:Ya p1.s l[k]with
   |false=>simp
   |true=>rw[Ws,Wa,Xf aa,Xh8 N a1 a2 p1 x5 y6 l hl hd hm n (k+1) aa aa,W3]
  grind
def X9(c:WU)(ps:List Wt)(i:Nat)(p:Wt):Nat:=
 if p.k=0 then(if p.s=0/\p.u=0/\p.P=0 then 1 else 0)
 else if(p.s=0\/p.s=1)/\0<=p.P/\p.P<=2147483647 then
  (if p.k=1 then(if 0<=p.u/\p.u<=c.W then 1 else 0)
   else if p.k=2 then(if 1<=XF c p.u/\(XF c p.u).toNat<=ps.length-i/\((ps.drop (i+1)).take ((XF c p.u).toNat-1)).all (Ya p.s)=true then(XF c p.u).toNat else 0)
   else 0)
 else 0
def Z9(N:Nat)(p:Wt):QbV N p=some (decide (p.s=0\/p.s=1)):=by rw[QbV];grind
def VD(N:Nat)(p:Wt):Qc8 N p=some (decide (0<=p.P/\p.P<=2147483647)):=by grind[Qc8]
def Kh{N:Nat}{c:WU}{ps:List Wt}(hl:ps.length<=100000)(hN:1000000<N){i:Nat}(hi:i<ps.length):QgU N c ps (i:Int)=some ((X9 c ps i ps[i]:Nat):Int):=by
 rw[QgU,Xe,Wb hi,Xa,XE];generalize hp:ps[i]=p;unfold X9;by_cases k0:p.k<0
 .grind
 rw[Wh k0,Wa];by_cases k3:p.k>=3
 .grind
 rw[Wh k3,Wa];by_cases e0:p.k=0
 .rw[show(p.k==0)=true by simpa using e0,Wc,Wp e0,Qf2,Xa];grind
 rw[show(p.k==0)=false by simp_all,Wa,Wn e0];by_cases hsp:(p.s=0\/p.s=1);case neg=>
  rw[Wn (λhh=>hsp hh.1)]
  by_cases e1:p.k=1
  .rw[show(p.k==1)=true by simp_all,Wc,Qdo,Z9,Xa,Wh hsp,Wa,Xa];rfl
  .have e2:p.k=2:=aa
   rw[show(p.k==1)=false by simp_all,Wa,show(p.k==2)=true by simp_all,Wc,Qdp,Z9,Xa,Wh hsp,Wa,Xa];rfl
 by_cases hpn:0<=p.P/\p.P<=2147483647;case neg=>
  rw[Wn (λhh=>hpn hh.2)]
  by_cases e1:p.k=1
  .rw[show(p.k==1)=true by simp_all,Wc,Qdo,Z9,Xa,Wg hsp,Wc,VD,Xa,Wh hpn,Wa,Xa];rfl
  .have e2:p.k=2:=aa
   rw[show(p.k==1)=false by simp_all,Wa,show(p.k==2)=true by simp_all,Wc,Qdp,Z9,Xa,Wg hsp,Wc,VD,Xa,Wh hpn,Wa,Xa];rfl
 rw[Wp ⟨hsp,hpn⟩];by_cases e1:p.k=1
 .rw[show(p.k==1)=true by simpa using e1,Wc,Qdo,Z9,Xa,Wg hsp,Wc,VD,Xa,Wg hpn,Wc,Wp e1];by_cases u0:0<=p.u
  .by_cases u1:p.u<=c.W
   .simp[u0,u1,Xa]
   simp[u0,u1,Xa]
  simp[u0,Xa]
 have e2:p.k=2:=aa;rw[show(p.k==1)=false by simp_all,Wa,show(p.k==2)=true by simp_all,Wc,Qdp,Z9,Xa,Wg hsp,Wc,VD,Xa,Wg hpn,Wc,Wn e1,Wp e2];simp only[Xln,Xa];by_cases hn1:XF c p.u>=1;case neg=>grind
 rw[Wg hn1,Ws,Wa,show((2:Int) != 2)=false from rfl,Wa,Xd (n:=(ps.length:Int)-i) aa aa];by_cases hfit:XF c p.u>(ps.length:Int)-i
 .grind
 rw[Wh hfit,Wa];have w1:wI ((i:Int)+1)=((i+1:Nat):Int):=Xf aa;have w2:wI ((i:Int)+XF c p.u)=(i:Int)+XF c p.u:=Xd aa aa;rw[Xc aa];have t1:(wI ((i:Int)+1)).toNat=i+1:=by rw[w1];omega
 have t2:(wI ((i:Int)+XF c p.u)).toNat-(wI ((i:Int)+1)).toNat=(XF c p.u).toNat-1:=by rw[t1,w2];omega
 rw[show(0:Int)=((0:Nat):Int)from rfl,Xh8 N ps (i:Int) p 2 (XF c p.u) ((ps.drop (i+1)).take ((XF c p.u).toNat-1)) (by grind) (by simp_all) (by simp_all) N 0 aa (by grind),Xa,WX];by_cases hall:((ps.drop (i+1)).take ((XF c p.u).toNat-1)).all (Ya p.s)=true
 .rw[Wp hall,Xm,Wp ⟨hn1,aa,hall⟩];grind
 rw[Wn hall,Xy,Wn (λhh=>hall hh.2.2)];rfl
def XX{p:Prop}[Decidable p](h:¬p):decide p=false:=Wh h
def XdP{N:Nat}{h:Wl}(hl:h.p.length<=100000){sp:Int}(hsp:sp=0\/sp=1):∀(k n i:Nat),i+k<=h.p.length->((h.p.drop i).take k).all (ZT sp)=true ->
 Qaz N h (n+k) (k:Int) (i:Int)=if((h.p.drop i).take k).all (Ya sp)=true then Qaz N h n 0 ((i+k:Nat):Int)else some (.ret false)
 |0,n,i,hik,ha=>by simp
 |k+1,n,i,hik,ha=>by
  have hlt:i<h.p.length:=aa;have hd:(h.p.drop i).take (k+1)=h.p[i]::(h.p.drop (i+1)).take k:=by rw[Wq hlt,List.take_succ_cons]
  rw[hd,List.all_cons,W5]at ha;rw[hd,List.all_cons,show n+(k+1)=(n+k)+1 from rfl,Qaz,Wg aa,Wc,Xe,Wb hlt,Xa];have ih:=XdP (N:=N) hl hsp k n (i+1) aa ha.2;generalize h.p[i]=p at *;have hk:p.k=3/\p.s=sp:=by have:=ha.1;simp only[ZT,W5,beq_iff_eq]at this;exact this
  have⟨hk3,hks⟩:=hk;have q3:(p.k==3)=true:=by simpa using hk3
  rw[q3,Wg (show(((k+1:Nat):Int)>0) by omega),show(!(true==true))=false from rfl,Wa,XX (show¬p.s<0 by omega),Wa,XX (show¬p.s>1 by omega),Wa,Xer,Xa];by_cases hp:p.P=0;case neg=>
   have hc:Ya sp p=false:=by simp[Ya,hp]
   rw[hc,Ur,Wn ab]
   by_cases hp2:0<=p.P/\p.P<=2147483647
   .rw[Wg hp2,Ws,Wa]
    simp only[XE,show(p.k==0)=false by rw[hk3];rfl,show(p.k==1)=false by rw[hk3];rfl,show(p.k==2)=false by rw[hk3];rfl,q3,Wa,Wc,show(p.P != 0)=true by simpa using hp,Bool.cond_self]
   grind
  simp only[XE,show(p.k==0)=false by simp_all,show(p.k==1)=false by simp_all,show(p.k==2)=false by simp_all,q3,Wa,Wc,show(p.P != 0)=false by simp_all];by_cases hu:p.u=0
  .have hc:Ya sp p=true:=by unfold Ya;rw[ha.1];simp[hu,hp]
   rw[show(p.u != 0)=false by simpa using hu,Wa,hc,W3,Xd (n:=((k+1:Nat):Int)-1) aa aa,Xf aa];grind
  have hc:Ya sp p=false:=by simp[Ya,hu]
  grind
def Xlp{α:Type}{p q:α->Bool}(h:∀x,q x=true->p x=true):∀{l:List α},l.all q=true->l.all p=true:=by simp_all
def Xjf{N:Nat}{h:Wl}(hc:X5 h.c=true)(hl:h.p.length<=100000)(hN:1000000<N){i:Nat}(hi:i<h.p.length)(n:Nat)(hn:10<=n):
 Qaz N h n 0 (i:Int)=if X9 h.c h.p i h.p[i]=0 then some (.ret false)else Qaz N h (n-X9 h.c h.p i h.p[i]) 0 ((i+X9 h.c h.p i h.p[i]:Nat):Int):=by
 obtain⟨n,rfl⟩:∃m,n=m+1:=⟨n-1,aa⟩
 rw[Qaz,Wg (show(i:Int)<(h.p.length:Int) by omega),Wc,Xe,Wb hi,Xa];generalize h.p[i]=p;have go:(if(0:Int)<wI (0-1)then wI (0-1)else 0)=0:=by rw[Xd aa aa];rfl
 have ge:wI ((i:Int)+1)=((i+1:Nat):Int):=Xf aa;generalize hs:X9 h.c h.p i p=s;unfold X9 at hs;have no:s=0->(if s=0 then some (.ret false)else Qaz N h (n+1-s) 0 ((i+s:Nat):Int))=some (.ret false):=λe=>Wp e;rw[Wh (show¬(0:Int)>0 by omega)];by_cases k3:p.k=3
 .rw[show(p.k==3)=true by simpa using k3,show(!(true==false))=true from rfl,Wc];rw[Wn (show¬p.k=0 by omega),Wn (show¬p.k=1 by omega),Wn (show¬p.k=2 by omega),ite_self]at hs;exact(no hs.symm).symm
 have q3:(p.k==3)=false:=by simpa using k3
 rw[q3,show(!(false==false))=false from rfl,Wa];by_cases hsp:p.s=0\/p.s=1;case neg=>
  have z:s=0:=by
   rw[←hs,Wn (c:=(p.s=0\/p.s=1)/\_) (λhh=>hsp hh.1)]
   split
   .rw[Wn (λhh=>hsp (.inl hh.1))]
   .rfl
  rw[no z]
  by_cases h0:p.s<0
  .rw[Wg h0,Wc]
  .rw[XX h0,Wa,Wg (show p.s>1 by omega),Wc]
 rw[XX (show¬p.s<0 by omega),Wa,XX (show¬p.s>1 by omega),Wa,Xer,Xa];by_cases hpn:0<=p.P/\p.P<=2147483647;case neg=>
  have z:s=0:=by
   rw[←hs,Wn (c:=(p.s=0\/p.s=1)/\_) (λhh=>hpn hh.2)]
   split
   .rw[Wn (λhh=>hpn aa)]
   .rfl
  rw[no z,XX hpn,Ui,Wc]
 rw[Wp (c:=(p.s=0\/p.s=1)/\_) ⟨hsp,hpn⟩]at hs;rw[Wg hpn,Ws,Wa];by_cases e0:p.k=0
 .have q1:(p.k==1)=false:=by rw[e0];rfl
  have q2:(p.k==2)=false:=by rw[e0];rfl
  rw[Wp e0]at hs;simp only[XE,show(p.k==0)=true by simpa using e0,q1,q2,q3,Wc,Wa,W3];by_cases hz:p.s=0/\p.u=0/\p.P=0
  .rw[Wp hz]at hs;subst hs;obtain⟨z1,z2,z3⟩:=hz;rw[Wn (show¬(1:Nat)=0 by omega)];simp only[z1,z2,z3,show((0:Int)==0)=true from rfl,IF,Ws,Wa,go,ge,Ig]
  rw[Wn hz]at hs;rw[no hs.symm,show((p.s==0)&&((p.u==0)&&(p.P==0)))=false by
   rw[Bool.eq_false_iff];intro hh;simp only[W5,beq_iff_eq]at hh;exact hz ⟨hh.1,hh.2.1,hh.2.2⟩]
  rfl
 have q0:(p.k==0)=false:=by simpa using e0
 rw[Wn e0]at hs;by_cases e1:p.k=1
 .have q2:(p.k==2)=false:=by rw[e1];rfl
  rw[Wp e1]at hs;simp only[XE,show(p.k==1)=true by simpa using e1,q0,q2,q3,Wc,Wa];by_cases u0:p.u<0
  .rw[Wn aa]at hs;rw[Wg u0,Wc,no hs.symm]
  rw[XX u0,Wa];by_cases u1:p.u>h.c.W
  .rw[Wn aa]at hs;rw[Wg u1,Wc,no hs.symm]
  rw[Wp aa]at hs;subst hs;rw[XX u1,Wa,Wn (show¬(1:Nat)=0 by omega),go,ge,Ig]
 have q1:(p.k==1)=false:=by simpa using e1
 rw[Wn e1]at hs;by_cases e2:p.k=2;case neg=>
  have q2:(p.k==2)=false:=by simpa using e2
  rw[Wn e2]at hs
  simp only[XE,q0,q1,q2,q3,Wa]
  rw[no hs.symm]
 rw[Wp e2]at hs;simp only[XE,show(p.k==2)=true by simpa using e2,q0,q1,q3,Wc,Wa,Kz (show 10<=N by omega),Xa];by_cases hn1:XF h.c p.u<1
 .rw[Wn (λhh=>aa)]at hs;rw[Wg hn1,Wc,no hs.symm]
 have hr:=Xak h.c p.u;rw[XX hn1,Wa,Xlo h.p p.s aa hN i hi,Xa,Xd (n:=XF h.c p.u-1) aa aa];obtain⟨k,hk⟩:∃k:Nat,XF h.c p.u=((k+1:Nat):Int):=⟨(XF h.c p.u).toNat-1,aa⟩
 have hk1:(XF h.c p.u).toNat=k+1:=aa;have tw:=Xaw (ZT p.s) (h.p.drop (i+1)) k;rw[hk1,Ig,hk]at hs;rw[hk];by_cases ht:((Vl h.p p.s (i+1):Nat):Int)<((k+1:Nat):Int)-1
 .have hnot:¬k<=((h.p.drop (i+1)).takeWhile (ZT p.s)).length:=by unfold Vl at ht;omega
  rw[Wn (λhh=>hnot (tw.2 ⟨by rw[Wk];omega,Xlp (λx hx=>by unfold Ya at hx;rw[W5]at hx;exact hx.1) hh.2.2⟩))]at hs;rw[Wg ht,Wc,no hs.symm]
 have hyes:=tw.1 (by unfold Vl at ht;omega);rw[Wk]at hyes;have e:(if(0:Int)<((k+1:Nat):Int)-1 then((k+1:Nat):Int)-1 else 0)=(k:Int):=by split<;>omega
 rw[e,ge];obtain⟨m,rfl⟩:∃m,n=m+k:=⟨n-k,aa⟩
 rw[XdP hl hsp k m (i+1) aa hyes.2];grind
def XcH{c:WU}{ps:List Wt}{i:Nat}(hi:i<ps.length){p:Wt}:X9 c ps i p<=ps.length-i/\X9 c ps i p<=4:=by have hr:=Xak c p.u;unfold X9;grind
def XcI{N:Nat}{h:Wl}(hc:X5 h.c=true)(hl:h.p.length<=100000)(hN:1000000<N):∀(m i n n':Nat),i<=h.p.length->h.p.length-i<=m->h.p.length-i<n->h.p.length-i+10<=n'->Qae N h n (i:Int)=Qaz N h n' 0 (i:Int)
 |m,i,0,n',_,_,h1,_=>by omega
 |m,i,n+1,n',hi,hm,h1,h2=>by
  by_cases hlt:i<h.p.length
  .rw[Qae,Wg aa,Wc,Kh hl hN hlt,Xa,Xjf hc hl hN hlt n' aa];have hs:=XcH (c:=h.c) hlt (p:=h.p[i]);generalize X9 h.c h.p i h.p[i]=s at *;by_cases h0:s=0
   .simp_all
   rw[Wn h0,show((s:Int)==0)=false by simp_all,Wa,Xd aa aa,show(i:Int)+(s:Int)=((i+s:Nat):Int) by omega];obtain⟨m',rfl⟩:∃m',m=m'+1:=⟨m-1,aa⟩
   exact XcI hc hl hN m' (i+s) n (n'-s) aa aa aa aa
  rw[Qae,Wh aa,Wa];obtain⟨k,rfl⟩:∃k,n'=k+1:=⟨n'-1,aa⟩
  rw[Qaz,Wh aa,Wa]
def YC{N:Nat}{h:Wl}(hl:h.p.length<=100000)(hN:1000000<N):QbQ N h=Qab N h:=by
 rw[QbQ,Qab,KN,Y0];simp only[Xa,XE];cases hc:X5 h.c with
 |false=>rfl
 |true=>
 have e:=XcI hc hl hN h.p.length 0 N N aa aa aa aa;grind
section
variable {N:Nat}
def XnX{m:Int}(h0:0<=m)(h1:2*m+1<=18446744073709551615):bOr .u64 (m*2) 1=m*2+1:=by
 obtain⟨n,rfl⟩:=UB h0;have hb:IntKind.u64.bits=64:=rfl;show IntKind.u64.wrap ((BitVec.ofInt IntKind.u64.bits ((n:Int)*2) |||BitVec.ofInt IntKind.u64.bits 1).toNat:Int)=_;rw[hb];have e1:BitVec.ofInt 64 ((n:Int)*2)=BitVec.ofNat 64 (n*2):=by rw[show(n:Int)*2=((n*2:Nat):Int) by omega];exact BitVec.ofInt_natCast 64 (n*2)
 have e2:BitVec.ofInt 64 (1:Int)=BitVec.ofNat 64 1:=ae;have hn:n*2 % 2 ^ 64=n*2:=IR aa;have h3:=Nat.shiftLeft_add_eq_or_of_lt (i:=1) (b:=1) ae n;rw[Nat.shiftLeft_eq,Nat.pow_one]at h3;rw[e1,e2,BitVec.toNat_or,Ie,Ie,hn,show 1 % 2 ^ 64=1 from rfl,←h3];show wU _=_;rw[Xx aa aa];omega
def Xh9{a:Int}(h0:0<=a)(h1:a<=64):∀(n k:Nat),(k:Int)<=a->(a-k).toNat<n->Qfm N a n ((2:Int) ^ k-1) (k:Int)=some ((2:Int) ^ a.toNat-1)
 |0,k,_,hn=>by omega
 |n+1,k,hk,hn=>by
  rw[Qfm];have e:(if 64<(if a<0 then 0 else a)then 64 else(if a<0 then 0 else a))=a:=by rw[Wn (show¬a<0 by omega),Wn aa]
  rw[e];by_cases h:(k:Int)<a
  .have hp:(1:Int)<=2 ^ k:=Int.pow_pos (n:=(2:Int)) (m:=k) ae;have hq:(2:Int) ^ k<=2 ^ 63:=by have:2 ^ k<=2 ^ 63:=IM aa aa;exact_mod_cast this
   have s1:ZW .u64 ((2:Int) ^ k-1) 1=wU (((2:Int) ^ k-1)*2):=rfl;rw[Wg h,Wc,s1,Xx aa aa,XnX aa aa,Xf aa];have e2:((2:Int) ^ k-1)*2+1=2 ^ (k+1)-1:=by rw[Int.pow_succ];omega
   rw[e2];exact Xh9 h0 h1 n (k+1) aa aa
  grind
def Ja{a:Int}(h0:0<=a)(h1:a<=64)(hN:1000<N):QcT N a=some ((2:Int) ^ a.toNat-1):=by have:=Xh9 (N:=N) h0 h1 N 0 aa aa;rw[QcT];rw[show((2:Int) ^ 0-1)=0 from rfl,show((0:Nat):Int)=0 from rfl]at this;rw[this,Xa]
def JO(hN:1000<N)(d:WD):Qc5 N d=some (XG d):=by
 rw[Qc5,XG];by_cases h1:d.k<0
 .rw[Wg h1,Wc,Wh aa,Ur]
 rw[Wh h1,Wa];by_cases h2:d.k>3
 .rw[Wg h2,Wc,Wh aa,Ur]
 rw[Wh h2,Wa];by_cases h3:d.n<0
 .rw[Wg h3,Wc,Wh aa,Ur]
 rw[Wh h3,Wa];by_cases h4:d.n>255
 .rw[Wg h4,Wc,Wh (p:=0<=d.k/\d.k<=3/\0<=d.n/\d.n<=255) aa,Ur]
 rw[Wh h4,Wa,Wg (p:=0<=d.k/\d.k<=3/\0<=d.n/\d.n<=255) aa,W3];by_cases h5:d.k=1
 .rw[Wp h5,XL h5,Wc,XE];by_cases h6:d.n<=32
  .rw[Wg h6,Wc,Ja aa aa hN,Xa,W3,Xb7];exact congrArg some (decide_eq_decide.2 aa)
  rw[Wh h6,Wa,Ur]
 grind
def Zo(hN:1000<N)(d:WD):Qbi N d=some (X0 d):=by
 rw[Qbi,JO hN,Xa,X0];cases h:XG d with
 |false=>rfl
 |true=>have:=XP h;rw[Ws,Wa,Xd (n:=d.n+1) aa aa];rfl
def Xlq(hN:1000<N)(d:WD)(i:Int):Qfn N d i=some (Jd d i):=by
 rw[Qfn,JO hN,Xa,Jd];cases h:XG d with
 |false=>rfl
 |true=>
  have hb:=XP h;rw[Ws,Wa,W3];by_cases h1:i<0
  .rw[Wg h1,Wc,Wh aa,Ur]
  rw[Wh h1,Wa];by_cases h2:i>=d.n
  .rw[Wg h2,Wc,Wh aa,Ur]
  rw[Wh h2,Wa,Wg (p:=0<=i/\i<d.n) aa,W3,Xx (n:=i) aa aa];by_cases h3:d.k=2
  .rw[XL h3,Wc,Wg h3,Bool.true_or]
  rw[XD h3,Wa,Wh h3,U9];by_cases h4:d.k=1
  .rw[XL h4,Wc,Wg h4,W3,Xc aa]
  grind
def Xax(hN:1000<N)(d:WD)(hv:XG d=true):∀(n:Nat)(i:Int)(v:List Int),0<=i->i<=d.n+1->(d.n+1-i).toNat<n->v.length+(d.n+1-i).toNat<=1000->Qb1 N d (d.n+1) n i v=some (v++Yy d (d.n-i).toNat i)
 |0,i,v,_,_,hn,_=>by omega
 |n+1,i,v,h0,h1,hn,hl=>by
  have hb:=XP hv;rw[Qb1];by_cases h:i<d.n+1
  .rw[Wg h,Wc,Xlq hN,Xa,Xd (n:=i+1) aa aa];by_cases h2:i<d.n
   .obtain⟨k,hk⟩:∃k,(d.n-i).toNat=k+1:=⟨(d.n-i).toNat-1,aa⟩
    have hk2:(d.n-(i+1)).toNat=k:=aa;rw[hk,Yy];cases hp:Jd d i
    .rw[Wa,Xax hN d hv n (i+1) v aa aa aa aa,hk2];simp
    rw[Wc,Xc aa,Xax hN d hv n (i+1) _ aa aa aa (by grind),hk2];simp
   have hp:Jd d i=false:=by unfold Jd;rw[Wh (p:=0<=i/\i<d.n) aa];simp
   rw[hp,Wa,Xax hN d hv n (i+1) v aa aa aa aa,show(d.n-i).toNat=0 by omega,show(d.n-(i+1)).toNat=0 by omega];rfl
  rw[Wh h,Wa,show(d.n-i).toNat=0 by omega];simp[Yy]
def XdQ(hN:1000<N)(d:WD)(hv:XG d=true):QdM N d=some (Ze d):=by
 have hb:=XP hv;have hs:X0 d=d.n+1:=by unfold X0;rw[hv];rfl
 rw[QdM,Zo hN,Xa,hs,Xax hN d hv N 0 [] aa aa aa (by grind),Xa,Ze,hv];simp
def XeG{l:List Int}(hl:l.length<=1000000)(hN:1000000<N):Qah N l 0=some (!l.all λp=>!(p==0)):=by
 rw[Qah,QbG];rw[Jg (p:=λx:Int=>(0==x)) hl hN (λn j x e=>by
  have hk:=XA e
  rw[Qax,Xk hk,Wc,Xe,e,Xa,Xf aa]) (λn=>by rw[Qax,Xw,Wa])]
 rw[Xa,Z8,←XeF,Bool.not_not];grind
def V2:List (List Int)->Nat
 |[]=>0
 |l::ls=>l.length+V2 ls
def XdR(ls:List (List Int))(hl:ls.length<=1000):∀(n k s:Nat),k<=ls.length->ls.length-k<n->s+V2 (ls.drop k)<=10000000->QaN N ls n (s:Int) (k:Int)=some (((s+V2 (ls.drop k):Nat):Int))
 |0,k,s,_,hn,_=>by omega
 |n+1,k,s,hk,hn,hs=>by
  rw[QaN];by_cases h:k<ls.length
  .rw[Wq h,V2]at hs⊢;rw[Xk h,Wc,Xe,Wb h,Xa,Xd (n:=(s:Int)+((ls[k].length:Nat):Int)) aa aa,Wh aa,Wa,Xf aa];have:=XdR ls hl n (k+1) (s+ls[k].length) aa aa aa;grind
  obtain rfl:k=ls.length:=aa;rw[Xw,Wa,UE (Un _)];rfl
def XdS(ls:List (List Int))(hl:ls.length<=1000):∀(n k:Nat)(v:List Int),k<=ls.length->ls.length-k<n->v.length+V2 (ls.drop k)<=10000000->QaO N ls n (k:Int) v=some (v++(ls.drop k).flatten)
 |0,k,v,_,hn,_=>by omega
 |n+1,k,v,hk,hn,hs=>by
  rw[QaO];by_cases h:k<ls.length
  .rw[Wq h,V2]at hs;rw[Wq h,Xk h,Wc,Xe,Wb h,Xa,Xc aa,Xf aa,XdS ls hl n (k+1) _ aa aa (by rw[WQ];omega),List.flatten_cons,UA]
  grind
def XaX(ls:List (List Int))(hl:ls.length<=1000)(hs:V2 ls<=10000000)(hN:1000000<N):QaJ N ls=some ls.flatten:=by
 have h1:=XdR (N:=N) ls hl N 0 0 aa aa (by rw[WX];omega);have h2:=XdS (N:=N) ls hl N 0 [] aa aa (by rw[WX];simp;omega);rw[show((0:Nat):Int)=0 from rfl,Ux]at h1;rw[show((0:Nat):Int)=0 from rfl,Ug]at h2;have hg:Qbj N ((V2 ls:Nat):Int)=some []:=by
  rw[Qbj,Wh aa,Wa,Xd (n:=(0:Int)) aa aa,Int.sub_zero];have e:=Xd (n:=((V2 ls:Nat):Int)) aa aa;by_cases h:(wI ((V2 ls:Nat):Int))>0
  .rw[Wg h,Wc,Xc ⟨rfl,rfl⟩,Xc aa,Xc aa,Xc aa,List.take_zero]
  rw[Wh h,Wa]
 simp[QaJ,h1,Xa,hg,h2]
end
section
variable {N:Nat}
def XeH{w:Int}(hw:tU w):Xbo w=⟨w / 4 % 4,w / 16 % 4096,w / 65536 % 4294967296⟩:=by have⟨h0,h1⟩:=hw;unfold Xbo;rw[show Yz .u64 w 2=w / 4 from YO w 2 aa h0,show Yz .u64 w 4=w / 16 from YO w 4 aa h0,show Yz .u64 w 16=w / 65536 from YO w 16 aa h0];rw[show Y8 .u64 (w / 4) 3=w / 4 % 4 from YP (w / 4) 2 aa aa aa,show Y8 .u64 (w / 16) 4095=w / 16 % 4096 from YP (w / 16) 12 aa aa aa];rw[Xd aa aa,Xd aa aa,XkP]
def Xlr{w:Int}(hw:tU w):okH w=(XG (Xbo w)&&(decide (w / 281474976710656=0)&&decide (w % 4=1))):=by
 have⟨h0,h1⟩:=hw;unfold okH;cases hv:XG (Xbo w)with
 |false=>rfl
 |true=>
  have hb:=XP hv;rw[XeH ⟨h0,h1⟩]at hb;have e:JX (Xbo w)=1+4*(w / 4 % 4)+16*(w / 16 % 4096)+w / 65536 % 4294967296*65536:=by rw[XeH ⟨h0,h1⟩];unfold JX;have s:∀x:Int,ZW .u64 x 16=wU (x*65536):=λ_=>rfl;simp only[s];simp only[Xb7];omega
  grind
def Xrl:Xb [(2:Int),2,12,32] 0=some 2:=by unfold Xb;rfl
def Xrm:Xb [(2:Int),2,12,32] 1=some 2:=by unfold Xb;rfl
def Xrn:Xb [(2:Int),2,12,32] 2=some 12:=by unfold Xb;rfl
def Xro:Xb [(2:Int),2,12,32] 3=some 32:=by unfold Xb;rfl
def Xg7(hN:1000000<N){v:Int}(h0:0<=v)(h1:v<=18446744073709551615):Qe5 N v [2,2,12,32]=some (if v / 281474976710656=0 then([v % 4,v / 4 % 4,v / 16 % 4096,v / 65536 % 4294967296],0)else([],2)):=by
 obtain⟨m,rfl⟩:∃m,N=m+5:=⟨N-5,aa⟩
 have l3:([(2:Int),2,12,32].length:Nat)=4:=rfl;have i1:wI (0+1)=1:=Xd aa aa;have i2:wI (1+1)=2:=Xd aa aa;have i3:wI (2+1)=3:=Xd aa aa;have i4:wI (3+1)=4:=Xd aa aa;have j1:wI (64-2)=62:=Xd aa aa;have j2:wI (62-2)=60:=Xd aa aa;have j3:wI (60-12)=48:=Xd aa aa;have j4:wI (48-32)=16:=Xd aa aa;have e1:QaP (m+5) v [2,2,12,32] (m+5) 64 0=some (.nxt ()):=by rw[QaP,l3,Xrl];simp only[Xa,i1,j1];rw[QaP,l3,Xrm];simp only[Xa,i2,j2];rw[QaP,l3,Xrn];simp only[Xa,i3,j3];rw[QaP,l3,Xro];simp only[Xa,i4,j4];rw[QaP,l3];rfl
 have o1:QcT (m+5) 2=some 3:=Ja aa aa aa;have o2:QcT (m+5) 12=some 4095:=Ja aa aa aa;have o3:QcT (m+5) 32=some 4294967295:=Ja aa aa aa;have s1:Yz .u64 v 2=v / 4:=YO v 2 aa h0;have s2:Yz .u64 (v / 4) 2=v / 4 / 4:=YO (v / 4) 2 aa aa;have s3:Yz .u64 (v / 4 / 4) 12=v / 4 / 4 / 4096:=YO (v / 4 / 4) 12 aa aa;have s4:Yz .u64 (v / 4 / 4 / 4096) 32=v / 4 / 4 / 4096 / 4294967296:=YO (v / 4 / 4 / 4096) 32 aa aa;have a1:Y8 .u64 v 3=v % 4:=YP v 2 aa h0 h1;have a2:Y8 .u64 (v / 4) 3=v / 4 % 4:=YP (v / 4) 2 aa aa aa;have a3:Y8 .u64 (v / 4 / 4) 4095=v / 4 / 4 % 4096:=YP (v / 4 / 4) 12 aa aa aa;have a4:Y8 .u64 (v / 4 / 4 / 4096) 4294967295=v / 4 / 4 / 4096 % 4294967296:=YP (v / 4 / 4 / 4096) 32 aa aa aa;have e2:QaQ (m+5) [2,2,12,32] (m+5) v 0 []=some (v / 4 / 4 / 4096 / 4294967296,[v % 4,v / 4 % 4,v / 4 / 4 % 4096,v / 4 / 4 / 4096 % 4294967296]):=by rw[QaQ,l3,Xrl];rw[Wg aa,Wc,Xa,o1,Xa,Xc ab,Xc aa,s1,a1,i1];rw[QaQ,l3,Xrm];rw[Wg aa,Wc,Xa,o1,Xa,Xc ab,Xc aa,s2,a2,i2];rw[QaQ,l3,Xrn];rw[Wg aa,Wc,Xa,o2,Xa,Xc ab,Xc aa,s3,a3,i3];rw[QaQ,l3,Xro];rw[Wg aa,Wc,Xa,o3,Xa,Xc ab,Xc aa,s4,a4,i4];rw[QaQ,l3];rw[Wh aa,Wa];rfl
 rw[Qe5,e1,Xa,Xm,e2,Xa];grind
def XcJ(hN:1000000<N){w:Int}(hw:tU w):QdW N w=some (ZC w,okH w):=by
 have⟨h0,h1⟩:=hw;rw[QdW,Xg7 hN h0 h1,Xa];unfold ZC;rw[Xlr ⟨h0,h1⟩];by_cases h:w / 281474976710656=0
 .have g0:Xb [w % 4,w / 4 % 4,w / 16 % 4096,w / 65536 % 4294967296] 0=some (w % 4):=by unfold Xb;rfl
  have g1:Xb [w % 4,w / 4 % 4,w / 16 % 4096,w / 65536 % 4294967296] 1=some (w / 4 % 4):=by unfold Xb;rfl
  have g2:Xb [w % 4,w / 4 % 4,w / 16 % 4096,w / 65536 % 4294967296] 2=some (w / 16 % 4096):=by unfold Xb;rfl
  have g3:Xb [w % 4,w / 4 % 4,w / 16 % 4096,w / 65536 % 4294967296] 3=some (w / 65536 % 4294967296):=by unfold Xb;rfl
  rw[Wp h];simp only[g0,g1,g2,g3,Xa,show((0:Int) != 0)=false from rfl,Wa,Xd (n:=w / 4 % 4) aa aa,Xd (n:=w / 16 % 4096) aa aa,XoZ (n:=w / 65536 % 4294967296) aa aa];rw[JO aa,Xa,←XeH ⟨h0,h1⟩,Wg h,W3];by_cases hm:w % 4=1
  .rw[hm,show((1:Int) != 1)=false from rfl,Wa,Wg rfl,Bool.and_true];cases XG (Xbo w)<;>rfl
  rw[show(w % 4 != 1)=true by simpa using hm,Wc,Wh hm,Bool.and_false];rfl
 simp_all
def XaY{ws:List Int}(hl:ws.length<=1000000){a:Int}(ha:a<=18446744073709551615)(n:Int):Qe6 N ws a n=Qdr N ws a n:=by
 rw[Qe6,Qdr];by_cases h1:a<4096
 .rw[Wg h1,Wc,Wc]
 rw[XX h1,Wa,Wa,Xx (n:=a-4096) aa aa,Xx (n:=(ws.length:Int)) aa aa,Xx (n:=4096+(ws.length:Int)) aa aa];grind
def Xf4{ws:List Int}(hl:ws.length<=1000000){a:Int}(ha:a<=18446744073709551615):Qgq N ws a=Qbb N ws a:=by simp[Qgq,Qbb,Qhu,QfT,XaY,hl,ha]
def Xls{ws:List Int}(hl:ws.length<=1000000){a:Int}(ha:a<=18446744073709551615)(n:Int):Qg5 N ws a n=Qc0 N ws a n:=by
 rw[Qg5,Qc0,XaY hl ha];by_cases h0:n<0
 .simp_all
 rw[XX h0,Wa,Wa];congr 1;funext y;cases y.2 with
 |false=>rfl
 |true=>simp only[Ws,Wa,Qac,Xa];unfold grd;grind
structure HT(h:Wl):Prop where
 hb:HB h
 tw:XO h
def HT.word{h:Wl}(t:HT h){i:Int}{w:Int}(e:Xb h.w i=some w):tU w:=by have:=t.tw;exact this w (Yx e)
def XaZ(hN:NB N){h:Wl}(ht:HT h){a:Int}(ha:tU a):Qeq N h a=Qam N h a:=by
 have hN':1000000<N:=by unfold NB at hN;omega
 have hb:=ht.hb;unfold HB at hb;rw[Qeq,Qam,YC aa hN'];have⟨b,eb,hb2⟩:=YA (N:=N) aa (h:=h) aa aa;rw[eb,Xa,Xa];cases b with
 |false=>rfl
 |true=>
 have hp:=hb2 rfl;rw[Ws,Wa,Wa,Xg6 _ _ _ ha.2,Js,Wn (by simp[hp.conf])];by_cases hr:4096<=a/\a<4096+h.c.p*h.c.W;case neg=>simp[Wn,hr,Xa]
 rw[Wp hr,Xa,Xa];have po:=Xeq hp.conf hr.1 hr.2;have hpl:=hp.pages;generalize (a-4096) / h.c.W=pn at *;generalize (a-4096) % h.c.W=po' at *;have hpg:=hp.pgs pn aa aa;have hsm:=hpg.small;rw[XH aa aa,Xa,Xa];generalize pg h.p pn=p at hsm⊢;rw[QgL,Xf4 aa ha.2];have hcv:=Xl.1 hp.conf;have hmm:=XZ hp.conf (i:=0) aa aa;have ew:∃w,Qbb N h.w a=some (w,0)/\tU w:=by rw[Qbb,QfT,Qdr,XX (show¬a<4096 by omega),Wa,Xx (n:=(h.w.length:Int)) aa aa,Xx (n:=4096+(h.w.length:Int)) aa aa,XX (show¬a>4096+(h.w.length:Int) by have:=hp.words;omega),Wa,Xx (n:=a-4096) aa aa,Xd (n:=a-4096) aa aa,Xd aa aa,Xa];rw[Wg (show 1<=(h.w.length:Int)-(a-4096) by have:=hp.words;omega),Ws,Wa,Xa];simp only[show((0:Int) != 0)=false from rfl,Wa];have hg:=Yg (l:=h.w) (i:=a-4096) aa (by have:=hp.words;omega);exact⟨_,by rw[hg,Xa],ht.word hg⟩
 have⟨w,ew,tw⟩:=ew;rw[ew,Xa,Xa,Xa,XcJ hN' tw,Ky,Xa,Xa];simp only[Zo (show 1000<N by omega),Yh,Xa,XE];have hs:=Xdw w;generalize ZC w=d at *;generalize X0 d=s at *;cases okH w with
 |false=>simp
 |true=>
  by_cases k1:p.k=1
  .have k2:(p.k==2)=false:=by rw[k1];rfl
   simp only[show(p.k != 1)=false by simpa using k1,show(p.k==1)=true by simpa using k1,k2,Wc,Wa];by_cases u:po'>=p.u
   .rw[Wg u,Wc,Wc];rfl
   rw[XX u,Wa,Wa];by_cases z:wI (po'+s)>p.u
   .rw[Wg z,Wc];rw[Xd (n:=po'+s) aa aa]at z;have:¬s<=wI (p.u-po'):=by rw[Xd aa aa];omega
    rw[XX this];rfl
   rw[XX z,Wa];rw[Xd (n:=po'+s) aa aa]at z;rw[Xd (n:=p.u-po') aa aa,Wg aa];rfl
  grind
end
section
variable {N:Nat}
def fnd(h:Wl)(a:Int):UI:=⟨a,hdA h.w a⟩
def Xf5(l:List UI)(hl:l.length<=1000000):∀(n k:Nat)(v:List Int),k<=l.length->l.length-k<n->v.length=k->Qc9 N l n (k:Int) v=some (v++(l.drop k).map (·.addr))
 |0,k,v,_,h,_=>by omega
 |n+1,k,v,hk,hn,hv=>by
  rw[Qc9];by_cases hlt:k<l.length
  .rw[Wg aa,Wc,Xe,Wb hlt,Xa,Xc aa,Xf aa,Xf5 l hl n (k+1) _ aa aa (by simp[hv]),Wq hlt,UA,Uf];rfl
  grind
def XcK(l:List UI)(hl:l.length<=1000000)(hN:1000000<N):Qcc N l=some (l.map (·.addr)):=by rw[Qcc,show(0:Int)=((0:Nat):Int)from rfl,Xf5 l hl N 0 [] aa aa rfl,Xa];simp
def XnY(h:Wl)(l:List Int):(l.map (fnd h)).map (·.addr)=l:=by rw[List.map_map];exact List.map_id'' (λ_=>rfl) l
def Xs2(h:Wl):Ex (List Int×Int) (List Int)->List UI×Int
 |.ret r=>([],19)
 |.nxt l=>(l.map (fnd h),0)
def XdT(hN:NB N){h:Wl}(ht:HT h)(hp:Ut h){i:Int}(h0:0<=i)(h1:i<h.p.length)(hk:(pg h.p i).k=1\/(pg h.p i).k=2):∀(n:Nat)(o:Int)(l:List Int),0<=o->(66-o).toNat<n->(l.length:Int)<=o->((pg h.p i).k=1->o<=64)->((pg h.p i).k=2->o=0) ->
 ∃e,Qas N h i (pg h.p i) n o l=some e/\QbR N h i (pg h.p i) n o (l.map (fnd h))=some (Xs2 h e)/\(∀r,e=.ret r->r=([],19))
 |0,o,l,ho,hn,hl,k1,k2=>by omega
 |n+1,o,l,ho,hn,hl,k1,k2=>by
  have hN':1000000<N:=by unfold NB at hN;omega
  have hv:=Xl.1 hp.conf;have hpl:=hp.pages;have hsm:=(hp.pgs i h0 h1).small;rw[Qas,QbR];by_cases hlt:o<(pg h.p i).u;case neg=>rw[XX hlt,Wa,Wa];exact⟨_,rfl,rfl,λr e=>by grind⟩
  have hopw:o<h.c.W:=by
   rcases hk with hk|hk
   .omega
   omega
  rw[Wg hlt,Wc,Wc,XcG,JK,hp.conf,Xa,Xa,Wn ab,Wp aa];have hpw:=XZ hp.conf (i:=i) h0 aa;have ha:tU (Xg h.c i o):=by unfold Xg;exact⟨aa,aa⟩
  rw[show((0:Int)==0)=true from rfl,Wc,XaZ hN ht ha];have⟨y,ey,hy⟩:=Xdy hN ht.hb (Xg h.c i o);rw[ey,Xa,Xa];by_cases hy0:y.2=0;case neg=>
   rw[show(y.2 != 0)=true by simp_all,show(y.2==0)=false by simp_all,Wc,Wa]
   exact⟨_,rfl,rfl,λr e=>by simp_all⟩
  have⟨_,_,hat,hhd⟩:=hy hy0;have hsz:=YR h.w (Xg h.c i o);have hpi:=XfE hp.conf (p:=i) ho hopw;rw[show(y.2 != 0)=false by simp_all,show(y.2==0)=true by simp_all,Wc,Wa,hhd,Xc aa];rw[Zo aa,Xa,hsz.1,Xc (by grind)];rw[show UI.mk (Xg h.c i o) (hdA h.w (Xg h.c i o))=fnd h (Xg h.c i o)from rfl];have em:l.map (fnd h)++[fnd h (Xg h.c i o)]=(l++[Xg h.c i o]).map (fnd h):=by simp
  rw[em];rcases hk with hk|hk
  .rw[show((pg h.p i).k==2)=false by simp_all,Wa,Yh,Xa,hsz.1];have hat1:=hat.small;rw[hpi.1,hpi.2]at hat1;rw[Xd (n:=o+szA h.w (Xg h.c i o)) aa aa];exact XdT hN ht hp h0 h1 (.inl hk) n _ _ aa aa (by grind) (λ_=>aa) (λk=>aa)
  rw[show((pg h.p i).k==2)=true by simp_all,Wc];have hat2:=hat.large;rw[hpi.1,hpi.2]at hat2;refine⟨_,rfl,?_,λr e=>by grind⟩;rw[Xd (n:=o+szA h.w (Xg h.c i o)) aa aa];obtain⟨m,rfl⟩:∃m,n=m+1:=⟨n-1,aa⟩
  rw[QbR,XX aa,Wa];rfl
def Yn{h:Wl}(hN:NB N)(hb:HB h)(ep:Qab N h=some true):Ut h:=by have⟨b,eb,hb2⟩:=YA (N:=N) (by unfold NB at hN;omega) hb.1 hb.2;simp_all
def Ka(hN:NB N){h:Wl}(hb:HB h):∃b,Qab N h=some b:=by have⟨b,eb,_⟩:=YA (N:=N) (by unfold NB at hN;omega) hb.1 hb.2;simp_all
def XcL(hN:NB N){h:Wl}(ht:HT h)(ep:Qab N h=some true){i:Int}(h0:0<=i)(h1:i<h.p.length):∃r,Qal N h i=some r/\QfV N h i=some (r.1.map (fnd h),r.2)/\(r.2≠0->r=([],19)):=by
 have hb:=ht.hb;have hp:=Yn hN hb ep;rw[Qal,QfV,ep,Xa,XH h0 h1,Xa,Xa,Ws,Wa,XX (show¬i<0 by omega),Wa,XX (show¬i>=_ by omega),Wa];have hkk:=(hp.pgs i h0 h1).kind;have main:((pg h.p i).k=1\/(pg h.p i).k=2)->∃r,(bnd (Qas N h i (pg h.p i) N 0 []) λe=>exK e (λr=>some r) λy8=>some (y8,0))=some r/\QbR N h i (pg h.p i) N 0 []=some (r.1.map (fnd h),r.2)/\(r.2≠0->r=([],19)):=by
  intro hk;obtain⟨e,e1,e2,e3⟩:=XdT hN ht hp h0 h1 hk N 0 [] aa (by unfold NB at hN;omega) ab (λ_=>aa) (λ_=>rfl);rw[e1,Xa];rw[Uy]at e2;rw[e2];cases e with
  |ret r=>rw[e3 r rfl];rw[Xy];exact⟨_,rfl,rfl,λ_=>rfl⟩
  |nxt l=>rw[Xm];exact⟨_,rfl,rfl,λh=>absurd rfl h⟩
 by_cases k1:(pg h.p i).k=1
 .simp_all
 by_cases k2:(pg h.p i).k=2
 .simp_all
 rw[show((pg h.p i).k != 1)=true by simpa using k1,show((pg h.p i).k != 2)=true by simpa using k2];refine⟨([],0),?_,rfl,λh=>absurd rfl h⟩;grind
def Qn8(hN:NB N){h:Wl}(hb:HB h)(i:Int){r:List Int×Int}(e:Qal N h i=some r):r.1.length<=64:=by have:=(QpL hN hb i).get_eq e;omega
def XcM(hN:NB N){h:Wl}(ht:HT h)(i:Int):QeW N h i=Qal N h i:=by
 have hb:=ht.hb;rw[QeW,YC (by have:=hb.2;omega) (by unfold NB at hN;omega)];have⟨b,eb⟩:=Ka (N:=N) hN hb;rw[eb,Xa];cases b with
 |false=>simp[Qal,eb,Xa]
 |true=>
 by_cases h0:i<0
 .rw[Qal,eb,Xa,Wg h0];rfl
 by_cases h1:i>=h.p.length
 .rw[Qal,eb,Xa,XX h0,Wg h1];rfl
 have⟨r,e1,e2,e3⟩:=XcL hN ht eb (i:=i) aa aa;rw[Ws,Wa,XX h0,Wa,XX h1,Wa,e2,Xa,e1];have hl:=Qn8 hN hb i e1;by_cases z:r.2=0
 .rw[show(r.2 != 0)=false by simpa using z,Wa,XcK _ (by rw[W4];omega) (by unfold NB at hN;omega),Xa,XnY];congr 1;exact Prod.ext rfl z.symm
 simp_all
def Xia(hN:NB N){h:Wl}(ht:HT h)(ep:Qab N h=some true):∀(n k:Nat)(l:List Int),k<=h.p.length->h.p.length-k<n->l.length<=64*k ->
 ∃e,QaM N h n (k:Int) l=some e/\QfX N h n (k:Int) (l.map (fnd h))=some (match e with|.ret r=>.ret (r.1.map (fnd h),r.2)|.nxt l=>.nxt (l.map (fnd h)))/\(∀r,e=.ret r->r=([],19))/\(∀l',e=.nxt l'->l'.length<=64*h.p.length)
 |0,k,l,_,h,_=>by omega
 |n+1,k,l,hk,hn,hl=>by
  have hb:=ht.hb;have hb2:=hb.2;rw[QaM,QfX];by_cases hlt:k<h.p.length;case neg=>rw[Wh (show¬(k:Int)<_ by omega),Wa,Wa];refine⟨_,rfl,rfl,?_,?_⟩<;>intro r e<;>cases e;omega
  rw[Wg (show(k:Int)<_ by omega),Wc,Wc];have⟨r,e1,e2,e3⟩:=XcL hN ht ep (i:=(k:Int)) aa aa;rw[e1,e2,Xa,Xa];have hr:=Qn8 hN hb (k:Int) e1;by_cases z:r.2=0
  .rw[show(r.2 != 0)=false by simpa using z,Wa,Wa,Xc aa,Xc ah,Xf aa,←List.map_append];exact Xia hN ht ep n (k+1) _ aa aa (by rw[WQ];omega)
  simp_all
def XnZ(hN:NB N){h:Wl}(ht:HT h):∃r,Qcp N h=some r/\QhQ N h=some (r.1.map (fnd h),r.2)/\(r.2≠0->r.1=[])/\r.1.length<=6400000:=by
 have hb:=ht.hb;have hb2:=hb.2;rw[Qcp,QhQ,YC aa (by unfold NB at hN;omega)];have⟨b,eb⟩:=Ka (N:=N) hN hb;rw[eb,Xa,Xa];cases b with
 |false=>simp
 |true=>
 rw[Ws,Wa,Wa];have⟨e,e1,e2,e3,e4⟩:=Xia hN ht eb N 0 [] aa (by unfold NB at hN;omega) ab;rw[Uy]at e2;rw[show(0:Int)=((0:Nat):Int)from rfl,e1,e2,Xa,Xa];cases e with
 |ret r=>rw[Xy];rw[Xy,e3 r rfl];simp
 |nxt l=>rw[Xm];grind[Xm]
end
section
variable {N:Nat}
def Za(f:UI):Bool:=!(f.hd.k==0)
def Jx(h:Wl)(l:List Int):List Int:=l.filter λa=>Za (fnd h a)
def Xg8(l0:List UI)(hl:l0.length<=1000000):∀(n i j:Nat)(v:List UI),i<=j->j<=l0.length->l0.length-j<n->v.length=l0.length->v.drop j=l0.drop j ->
 ∃(i':Nat) (v':List UI),Qcj N n (i:Int) (j:Int) v=some ((i':Int),v')/\v'.length=l0.length/\i'<=l0.length/\v'.take i'=v.take i++(l0.drop j).filter Za
 |0,i,j,v,_,_,h,_,_=>by omega
 |n+1,i,j,v,hij,hj,hn,hv,hd=>by
  rw[Qcj,Xc aa];by_cases hlt:j<l0.length;case neg=>
   grind
  have hjv:v[j]'aa=l0[j]:=by have a:=Wq (l:=v) (i:=j) aa;have b:=Wq (l:=l0) (i:=j) aa;rw[hd,b]at a;exact(IT a).1.symm
  have hd1:v.drop (j+1)=l0.drop (j+1):=by have a:=Wq (l:=v) (i:=j) aa;have b:=Wq (l:=l0) (i:=j) aa;rw[hd,b]at a;exact(IT a).2.symm
  rw[Wg aa,Wc,Xe,Wb aa,Xa,Qes,Xa,hjv,Wq hlt];cases hk:(l0[j].hd.k==0)with
  |true=>rw[Ws,Wa,Xf aa,UP (by unfold Za;simp_all)];exact Xg8 l0 hl n i (j+1) v aa aa aa hv hd1
  |false=>rw[Ui,Wc,Xe,Wb aa,Xa,Xf aa,Xf aa,Uv (by unfold Za;simp_all)];have⟨i',v',e1,e2,e3,e4⟩:=Xg8 l0 hl n (i+1) (j+1) (v.set i l0[j]) aa aa aa (by simp_all) (by rw[Is aa];omega);refine⟨i',v',e1,e2,e3,?_⟩;rw[e4,List.take_succ,List.getElem?_set_self aa,List.take_set_of_le (Un _)];simp
def Xn0(l:List UI)(hl:l.length<=1000000)(hN:1000000<N):Qat N l=some (VP (λf=>f.hd.k==0) l):=by
 exact Jg (p:=λf:UI=>f.hd.k==0) hl hN (λn k x e=>by
  have hk:=XA e
  rw[Qai,Xk hk,Wc,Xe,e,Xa,Qes,Xa,Xf aa]) (λn=>by rw[Qai,Xw,Wa])
def Xjg(l:List UI)(hl:l.length<=1000000)(hN:1000000<N):(bnd (Qat N l) λy2=>
 bif (y2==(-1))then(bnd (Qcc N l) λy11=>
  some (y11,(0:Int)))
 else bnd (Qcj N N y2 (wI (y2+1)) l) λy9=>
 grd (0<=y9.1/\y9.1<=(y9.2.length:Int)/\(y9.2.length:Int)<=(y9.2.length:Int)) <|
 grd (0<=y9.1/\y9.1<=(((((min y9.1.toNat y9.2.length)+(y9.2.length-y9.1.toNat))+(y9.2.length-(y9.1.toNat+(y9.2.length-y9.1.toNat)))):Nat):Int)) <|
 bnd (Qcc N ((((y9.2.take y9.1.toNat)++(List.replicate (y9.2.length-y9.1.toNat) (UI.mk 0 (WD.mk 0 0 0))))++(y9.2.drop (y9.1.toNat+(y9.2.length-y9.1.toNat)))).take y9.1.toNat)) λy12=>
 some (y12,0))=some ((l.filter Za).map (·.addr),0):=by
 rw[Xn0 l hl hN,Xa];unfold VP;cases hf:l.findIdx? (λf=>f.hd.k==0)with
 |none=>
  have hall:l.filter Za=l:=by rw[List.findIdx?_eq_none_iff]at hf;rw[Ir];intro x hx;unfold Za;rw[hf x hx];rfl
  rw[show((-1:Int)==-1)=true from rfl,Wc,XcK l hl hN,Xa,hall]
 |some j=>
  have⟨hj,hp,hb⟩:=List.findIdx?_eq_some_iff_getElem.1 hf;rw[show((j:Int)==-1)=false by simp,Wa,Xf aa];have⟨i',v',e1,e2,e3,e4⟩:=Xg8 (N:=N) l hl N j (j+1) l aa aa aa rfl rfl;rw[e1,Xa];dsimp only;rw[Xc aa,Xc aa,show((i':Int)).toNat=i' from rfl];have et:(((v'.take i')++(List.replicate (v'.length-i') (UI.mk 0 (WD.mk 0 0 0))))++(v'.drop (i'+(v'.length-i')))).take i'=v'.take i':=by rw[UA,List.take_append_of_le_length (by grind),List.take_take,Wz]
  have ef:l.filter Za=l.take j++(l.drop (j+1)).filter Za:=by
   conv=>lhs;rw[←List.take_append_drop j l,List.filter_append,Wq hj,UP (by unfold Za;simp_all)]
   congr 1;rw[Ir];intro x hx;obtain⟨k,hk,rfl⟩:=WM hx;rw[Wj]at hk;rw[U6];have:=hb k aa;unfold Za;simpa using this
  rw[et,e4,←ef];have hle:(l.filter Za).length<=l.length:=List.length_filter_le _ _;rw[XcK _ aa hN,Xa]
def Xay{h:Wl}(y:List Int×Int)(hy:y.1.length<=1000000)(hev:∀a∈y.1,Qam N h a=some (hdA h.w a,0)):∀(n k:Nat)(v:List Int),k<=y.1.length->y.1.length-k<n->v.length<=k ->
 QaS N h y n (k:Int) v=some (v++Jx h (y.1.drop k))
 |0,k,v,_,hn,_=>by omega
 |n+1,k,v,hk,hn,hv=>by
  rw[QaS];by_cases hlt:k<y.1.length
  .rw[Wg aa,Wc,Xe,Wb hlt,Xa,hev _ (WN hlt),Xa,Xf aa,Wq hlt,Jx];by_cases hk:(hdA h.w y.1[k]).k=0
   .rw[show((hdA h.w y.1[k]).k != 0)=false by simp_all,Wa,Xay y hy hev n (k+1) v aa aa aa,UP (by simp[Za,fnd,hk])];rfl
   rw[show((hdA h.w y.1[k]).k != 0)=true by simp_all,Wc,Xa,Xc aa,Xay y hy hev n (k+1) _ aa aa (by simp_all),Uv (by simp[Za,fnd,hk])];simp[Jx]
  rw[Wh aa,Wa,UE aa];simp[Jx]
def Jb(hN:NB N){h:Wl}(ht:HT h):QdJ N h=Qay N h:=by
 have hN':1000000<N:=by unfold NB at hN;omega
 have⟨r,e1,e2,e3,_⟩:=XnZ hN ht;have⟨hs,hp,_⟩:=(Vx hN ht.hb).get_eq e1;have hlen:=hs.len;rw[QdJ,Qay,e1,e2,Xa,Xa];rw[show(0:Int)=((0:Nat):Int)from rfl,Xay r aa hs.obj.ev N 0 [] aa aa ab,Xa,WX,Ug];by_cases z:r.2=0
 .rw[show(r.2 != ((0:Nat):Int))=false by simp_all,Wa];have:=Xjg (N:=N) (r.1.map (fnd h)) (by grind) hN';rw[show((0:Nat):Int)=0 from rfl,this,z];congr 2;rw[List.filter_map,List.map_map];exact List.map_id'' (λ_=>rfl) _
 rw[show(r.2 != ((0:Nat):Int))=true by simp_all,Wc,e3 z];rfl
end
section
variable {N:Nat}
def exM{α β γ:Type}(f:α->γ):Ex α β->Ex γ β
 |.ret a=>.ret (f a)
 |.nxt b=>.nxt b
def IG.tu{h:Wl}(hp:Ut h){a:Int}(ha:IG h a):tU a:=by have:=ha.rng;have:=XZ hp.conf (i:=0) aa (by have:=Xl.1 hp.conf;omega);exact⟨aa,aa⟩
def XdU(hN:NB N){h:Wl}(ht:HT h)(hp:Ut h){i:Int}(h0:0<=i)(h1:i<h.p.length)(l:List Int)(hl:l.length<=4096)(hat:∀a∈l,IG h a)(hev:∀a∈l,Qam N h a=some (hdA h.w a,0)):∀(n k:Nat),k<=l.length->l.length-k<n ->
 ∃e,Qbv N h i l n (k:Int)=some e/\Qce N h i l n (k:Int)=some (exM (λa=>(a,true)) e)/\∀a,e=.ret a->a∈l
 |0,k,_,hn=>by omega
 |n+1,k,hk,hn=>by
  rw[Qbv,Qce];by_cases hlt:k<l.length;case neg=>rw[Wh aa,Wa,Wa];exact⟨_,rfl,rfl,λa e=>by grind⟩
  have hm:=WN hlt;have hne:1000<N:=by unfold NB at hN;omega
  have nx:=XdU hN ht hp h0 h1 l hl hat hev n (k+1) aa aa;simp only[Wg (show(k:Int)<(l.length:Int) by omega),Wc,Xe,Wb hlt,Xa,XaZ hN ht ((hat _ hm).tu hp),hev _ hm,Zo hne,Yh,Xlm,XhJ,XH h0 h1,Xf (show k<=140737488355328 by omega)];cases ((pg h.p i).k==1)<;>cases ((pg h.p i).k==2)<;>cases (decide (X0 (hdA h.w l[k])<=smC h.c))<;>cases ((hdA h.w l[k]).k==0);all_goals simp only[Wc,Wa,Ws,Ui]
  all_goals first
   |exact nx
   |exact⟨_,rfl,rfl,λa e=>by cases e;exact hm⟩
def Xjh(hN:NB N){h:Wl}(ht:HT h)(hp:Ut h){i:Int}(h0:0<=i)(h1:i<h.p.length)(l:List Int)(hl:l.length<=4096)(hat:∀a∈l,IG h a)(hev:∀a∈l,Qam N h a=some (hdA h.w a,0)):
 ∃a,Qe0 N h i l=some a/\∃b,QfW N h i l=some (b,a != 0):=by
 have⟨e,e1,e2,e3⟩:=XdU hN ht hp h0 h1 l hl hat hev N 0 aa (by unfold NB at hN;omega);rw[Qe0,QfW,show(0:Int)=((0:Nat):Int)from rfl,e1,e2,Xa,Xa];cases e with
 |ret a=>have:=(hat a (e3 a rfl)).rng;simp only[exM,Xy];exact⟨a,rfl,a,by rw[show(a != ((0:Nat):Int))=true by grind]⟩
 |nxt u=>simp[exM,Xm]
def Xf6{h:Wl}(hf:(pg h.p 0).k≠3)(hl:h.p.length<=100000):∀(n i:Nat),i<h.p.length->i<n->QeI N h n (i:Int)=QdQ N h n (i:Int)
 |0,i,_,hn=>by omega
 |n+1,i,hi,hn=>by
  rw[QeI,QdQ,XH aa aa,Xa,Xa];cases i with
  |zero=>grind
  |succ j=>rw[Wg aa,Wc,Xd aa aa,show((j+1:Nat):Int)-1=(j:Int) by omega,Xf6 hf hl n j aa aa]
def Xlt(hN:NB N){h:Wl}(hb:HB h)(hp:Ut h){i:Int}(h0:0<=i)(h1:i<h.p.length):Qg6 N h i=Qfs N h i:=by
 obtain⟨k,rfl⟩:∃k:Nat,i=(k:Int):=⟨i.toNat,aa⟩
 have:=hb.2;rw[Qg6,Qfs,Xf6 hp.first this N k aa (by unfold NB at hN;omega)]
def VJ(h:Wl)(a:Int):Int:=if(hdA h.w a).k=0 then 1 else szA h.w a
def Xrp(h:Wl)(i:Int)(l:List Int)(k:Int):Bool:=l.any λa=>decide (a-Xg h.c i 0<=k/\k<a-Xg h.c i 0+VJ h a)
def Xib(h:Wl)(hp:Ut h)(i:Int)(h0:0<=i)(h1:i<h.p.length)(l:List Int)(k:Nat)(a:Int)(hk:l[k]? = some a)(x:Int)(hx:x<=256)(ha:4096<=a/\a<=8192):∀(n:Nat)(w:Int)(u:List Bool),0<=w->(x-w).toNat<n->u.length<=1000 ->
 ∃u',QbD N h i l (k:Int) x n w u=some u'/\u'.length=u.length/\∀j,j<u.length->u'.getD j false=(u.getD j false||decide (a-Xg h.c i 0+w<=j/\(j:Int)<a-Xg h.c i 0+x))
 |0,w,u,_,hn,_=>by omega
 |n+1,w,u,hw,hn,hu=>by
  have hpl:=hp.pages;have hv:=Xl.1 hp.conf;have hm:=XZ hp.conf (i:=i) h0 aa;rw[QbD];by_cases hlt:w<x;case neg=>
   rw[XX hlt,Wa]
   exact⟨u,rfl,rfl,λj hj=>by rw[XX (show¬_ by omega),Bool.or_false]⟩
  have ad:Xg h.c i 0=4096+i*h.c.W:=by unfold Xg;omega
  rw[Wg hlt,Wc,Xe,hk,Xa];rw[Xd (n:=a) aa aa,Xd (n:=a-4096) aa aa,Xd (n:=a-4096+w) aa aa,Xd (n:=i*h.c.W) aa aa,Xd (n:=a-4096+w-i*h.c.W) aa aa,Xd (n:=w+1) aa aa];generalize hq:a-4096+w-i*h.c.W=q;have step:∀v:List Bool,v.length=u.length->(∀j,j<u.length->v.getD j false=(u.getD j false||decide ((j:Int)=q)))->∃u',QbD N h i l (k:Int) x n (w+1) v=some u'/\u'.length=u.length/\∀j,j<u.length->u'.getD j false=(u.getD j false||decide (a-Xg h.c i 0+w<=j/\(j:Int)<a-Xg h.c i 0+x)):=by intro v hv1 hv2;obtain⟨u',e1,e2,e3⟩:=Xib h hp i h0 h1 l k a hk x hx ha n (w+1) v aa aa aa;refine⟨u',e1,e2.trans hv1,λj hj=>?_⟩;rw[e3 j aa,hv2 j hj,Bool.or_assoc];congr 1;rw[←Bool.decide_or];exact decide_eq_decide.2 aa
  by_cases q0:q>=0;case neg=>
   rw[XX q0,Wa]
   exact step u rfl λj hj=>by rw[XX (show¬(j:Int)=q by omega),Bool.or_false]
  rw[Wg q0,Wc,Xc aa];by_cases q1:q<u.length;case neg=>
   rw[XX q1,Wa]
   exact step u rfl λj hj=>by rw[XX (show¬(j:Int)=q by omega),Bool.or_false]
  rw[Wg q1,Wc,Yg q0 q1,Xa];refine step _ (by rw[WR]) λj hj=>?_;rw[Wo,In];grind
end
section
variable {N:Nat}
def Xji(h:Wl)(i:Int)(k:Int)(a:Int):Bool:=decide (a-Xg h.c i 0<=k/\k<a-Xg h.c i 0+VJ h a)
def XeI(h:Wl)(i:Int)(l:List Int)(k:Int):Xrp h i l k=l.any (Xji h i k):=rfl
def Xlu(h:Wl)(a:Int):1<=VJ h a/\VJ h a<=256:=by have:=YR h.w a;unfold VJ;omega
def Xic(hN:NB N){h:Wl}(hp:Ut h)(i:Int)(h0:0<=i)(h1:i<h.p.length)(l:List Int)(hl:l.length<=4096)(hat:∀a∈l,IG h a)(hev:∀a∈l,Qam N h a=some (hdA h.w a,0)):∀(n k:Nat)(u:List Bool),k<=l.length->l.length-k<n->u.length<=1000 ->
 ∃u',Qda N h i l n (k:Int) u=some u'/\u'.length=u.length/\∀j:Nat,j<u.length->u'.getD j false=(u.getD j false||(l.drop k).any (Xji h i (j:Int)))
 |0,k,u,_,hn,_=>by omega
 |n+1,k,u,hk,hn,hu=>by
  have hv:=Xl.1 hp.conf;have hm:=XZ hp.conf (i:=0) aa aa;have hN':1000000<N:=by unfold NB at hN;omega
  rw[Qda];by_cases hlt:k<l.length;case neg=>
   rw[Wh aa,Wa,UE aa]
   exact⟨u,rfl,rfl,λj hj=>ab⟩
  have hmem:=WN hlt;have hr:=(hat _ hmem).rng;have hx:=Xlu h l[k];have hsz:=YR h.w l[k];have e:∀kk:Int->Option (List Bool),(jn kk λj1=>bif ((hdA h.w l[k]).k==0)then j1 1 else j1 (X0 (hdA h.w l[k])))=kk (VJ h l[k]):=by
   intro kk;rw[XE];unfold VJ;rw[hsz.1];by_cases q:(hdA h.w l[k]).k=0
   .rw[Wp q,show((hdA h.w l[k]).k==0)=true by simpa using q,Wc]
   rw[Wn q,show((hdA h.w l[k]).k==0)=false by simpa using q,Wa]
  rw[Wg aa,Wc,Xe,Wb hlt,Xa,hev _ hmem,Xa,Yh,Xa];rw[e];have⟨u1,f1,f2,f3⟩:=Xib (N:=N) h hp i h0 h1 l k l[k] (Wb hlt) (VJ h l[k]) hx.2 aa N 0 u aa aa hu;rw[f1,Xa,Xf aa];have⟨u',g1,g2,g3⟩:=Xic hN hp i h0 h1 l hl hat hev n (k+1) u1 aa aa aa;refine⟨u',g1,g2.trans f2,λj hj=>?_⟩;rw[g3 j aa,f3 j hj,Bool.or_assoc,Wq hlt,List.any_cons];unfold Xji;simp
def Xn1(hN:NB N){h:Wl}(hp:Ut h)(i:Int)(h0:0<=i)(h1:i<h.p.length)(l:List Int)(hl:l.length<=4096)(hat:∀a∈l,IG h a)(hev:∀a∈l,Qam N h a=some (hdA h.w a,0)):
 ∃u,Qg0 N h i l=some u/\u.length=h.c.W.toNat/\∀j:Nat,j<u.length->u.getD j false=Xrp h i l (j:Int):=by have hv:=Xl.1 hp.conf;rw[Qg0,Xc aa,show(0:Int)=((0:Nat):Int)from rfl];have⟨u,e1,e2,e3⟩:=Xic hN hp i h0 h1 l hl hat hev N 0 (List.replicate h.c.W.toNat false) aa (by unfold NB at hN;omega) (by grind);rw[e1,Xa];rw[WS]at e2 e3;refine⟨u,rfl,e2,λj hj=>?_⟩;rw[e3 j aa,WX,XeI,show(List.replicate h.c.W.toNat false).getD j false=false by simp_all,U9]
def wdP(h:Wl)(i:Int)(k:Nat):Int:=wd h.w (Xg h.c i 0+k)
def Xn2(hN:NB N){h:Wl}(hb:HB h)(hp:Ut h){i:Int}(h0:0<=i)(h1:i<h.p.length){k:Nat}(hk:(k:Int)<h.c.W):Qft N h i (k:Int)=some (wdP h i k):=by
 have hpl:=hp.pages;have hm:=XZ hp.conf (i:=i) h0 aa;rw[Qft,Qg1,JK,hp.conf,Wn ab,Wp aa,Xa,YI (by unfold BIG;have:=hb.1;omega),Xa,Xa];have ea:Xg h.c i (k:Int)=Xg h.c i 0+k:=by unfold Xg;omega
 have hw:=hp.words;rw[ea,Wp (by unfold inW Xg;omega)];rfl
def Xid(hN:NB N){h:Wl}(hb:HB h)(hp:Ut h){i:Int}(h0:0<=i)(h1:i<h.p.length)(u:List Bool)(hu:u.length=h.c.W.toNat):∀(n k:Nat),k<=u.length->u.length-k<n ->
 ∃e,QcE N h i u n (k:Int)=some e/\((∃j,k<=j/\j<u.length/\u.getD j false=false/\wdP h i j≠0)->∃a,e=.ret a/\a≠0)/\((¬∃j,k<=j/\j<u.length/\u.getD j false=false/\wdP h i j≠0)->e=.nxt ())
 |0,k,_,hn=>by omega
 |n+1,k,hk,hn=>by
  have hpl:=hp.pages;have hm:=XZ hp.conf (i:=i) h0 aa;rw[QcE];by_cases hlt:k<u.length;case neg=>
   grind
  rw[Wg aa,Wc,Xe,Wb hlt,Xa,Xn2 hN hb hp h0 h1 aa,Xa,Xf aa];have hg:u.getD k false=u[k]:=by rw[Wo,Wb hlt];rfl
  have skip:(u[k]=true\/wdP h i k=0)->∃e,QcE N h i u n ((k+1:Nat):Int)=some e/\((∃j,k<=j/\j<u.length/\u.getD j false=false/\wdP h i j≠0)->∃a,e=.ret a/\a≠0)/\((¬∃j,k<=j/\j<u.length/\u.getD j false=false/\wdP h i j≠0)->e=.nxt ()):=by
   intro hs;obtain⟨e,e1,e2,e3⟩:=Xid hN hb hp h0 h1 u hu n (k+1) aa aa;refine⟨e,e1,λ⟨j,a,b,c,d⟩=>e2 ⟨j,?_,b,c,d⟩,λhh=>e3 λ⟨j,a,b⟩=>hh ⟨j,aa,b⟩⟩;by_cases hjk:j=k
   .simp_all
   omega
  cases hc:u[k]with
  |true=>simp_all
  |false=>
   by_cases hz:wdP h i k=0
   .simp_all
   rw[show(wdP h i k != 0)=true by simp_all,Wc,QfI,Xa];refine⟨_,rfl,λ_=>⟨_,rfl,?_⟩,λhh=>absurd ⟨k,aa,hlt,by simp_all,hz⟩ hh⟩;rw[Xd (n:=i*h.c.W) aa aa,Xd (n:=4096+i*h.c.W) aa aa,Xd aa aa,Xx aa aa];omega
end
section
variable {N:Nat}
def Ks(L x:Int):Int:=if L<(if x<0 then 0 else x)then L else(if x<0 then 0 else x)
def XeJ{v:List Int}{lo hi:Nat}(h1:lo<=hi)(h2:hi<=v.length):(((v.take lo)++(List.replicate (hi-lo) 0))++(v.drop (lo+(hi-lo)))).length=v.length:=by grind
def Xie{v:List Int}{lo hi:Nat}(h1:lo<=hi)(h2:hi<=v.length)(j:Nat):(((v.take lo)++(List.replicate (hi-lo) 0))++(v.drop (lo+(hi-lo)))).getD j 0=if lo<=j/\j<hi then 0 else v.getD j 0:=by grind
def Xf7(hN:NB N){h:Wl}(ht:HT h)(hp:Ut h)(i:Int)(h0:0<=i)(h1:i<h.p.length)(y4:List Int×Int)(hl:y4.1.length<=4096)(hat:∀a∈y4.1,IG h a)(hev:∀a∈y4.1,Qam N h a=some (hdA h.w a,0)):∀(n k:Nat)(v:List Int),k<=y4.1.length->y4.1.length-k<n->v.length<=1000 ->
 ∃v',QdX N h (Xg h.c i 0,0) y4 n (k:Int) v=some v'/\v'.length=v.length/\∀j:Nat,j<v.length->v'.getD j 0=if(y4.1.drop k).any (Xji h i (j:Int))=true then 0 else v.getD j 0
 |0,k,v,_,hn,_=>by omega
 |n+1,k,v,hk,hn,hv=>by
  have hcv:=Xl.1 hp.conf;have hpl:=hp.pages;have hm:=XZ hp.conf (i:=i) h0 aa;have hN':1000000<N:=by unfold NB at hN;omega
  rw[QdX];by_cases hlt:k<y4.1.length;case neg=>
   rw[Wh aa,Wa,UE aa]
   exact⟨v,rfl,rfl,λj hj=>ab⟩
  have hmem:=WN hlt;have hr:=(hat _ hmem).rng;have hx:=Xlu h y4.1[k];have hsz:=YR h.w y4.1[k];have e:∀kk:Int->Option (List Int),(jn kk λj1=>bif ((hdA h.w y4.1[k]).k != 0)then(bnd (some (X0 (hdA h.w y4.1[k]))) λy9=>j1 y9)else j1 1)=kk (VJ h y4.1[k]):=by
   intro kk;rw[XE];unfold VJ;rw[hsz.1];by_cases q:(hdA h.w y4.1[k]).k=0
   .rw[Wp q,show((hdA h.w y4.1[k]).k != 0)=false by simpa using q,Wa]
   rw[Wn q,show((hdA h.w y4.1[k]).k != 0)=true by simpa using q,Wc,Xa]
  rw[Wg (show(k:Int)<(y4.1.length:Int) by omega),Wc,Xe,Wb hlt,Xa,XaZ hN ht ((hat _ hmem).tu hp),hev _ hmem,Xa,Zo aa];rw[e];have ad:Xg h.c i 0=4096+i*h.c.W:=by unfold Xg;omega
  have w0:wI y4.1[k]=y4.1[k]:=Xd aa aa;have w1:wI (Xg h.c i 0)=Xg h.c i 0:=Xd aa aa;have w2:wI (y4.1[k]-Xg h.c i 0)=y4.1[k]-Xg h.c i 0:=Xd aa aa;have w3:wI (y4.1[k]-Xg h.c i 0+VJ h y4.1[k])=y4.1[k]-Xg h.c i 0+VJ h y4.1[k]:=Xd aa aa;simp only[w0,w1,w2,w3,Xf (show k<=140737488355328 by omega)];rw[Xc aa,Xc aa];have cl:∀x:Int,(if(v.length:Int)<(if x<0 then 0 else x)then(v.length:Int)else(if x<0 then 0 else x))=Ks v.length x:=λ_=>rfl;have c1:∀x:Int,0<=Ks v.length x/\Ks v.length x<=v.length:=by intro x;unfold Ks;split<;>split<;>omega
  generalize hA:y4.1[k]-Xg h.c i 0=A at *;have a1:=c1 A;have a2:=c1 (A+VJ h y4.1[k]);have a3:Ks v.length A<=Ks v.length (A+VJ h y4.1[k]):=by
   unfold Ks;repeat' split
   all_goals omega
  rw[Xc aa];obtain⟨v',g1,g2,g3⟩:=Xf7 hN ht hp i h0 h1 y4 hl hat hev n (k+1) _ aa aa (by rw[XeJ (v:=v) (lo:=(Ks v.length A).toNat) (hi:=(Ks v.length (A+VJ h y4.1[k])).toNat) aa aa];exact hv);refine⟨v',g1,by rw[g2,XeJ aa aa],λj hj=>?_⟩;rw[g3 j (by rw[XeJ aa aa];exact hj),Xie aa aa,Wq hlt,List.any_cons];have ec:Xji h i (j:Int) y4.1[k]=decide ((Ks v.length A).toNat<=j/\j<(Ks v.length (A+VJ h y4.1[k])).toNat):=by
   unfold Xji;rw[hA];refine decide_eq_decide.2 ?_;unfold Ks;repeat' split
   all_goals omega
  grind
def Xn3(l:List Int)(hl:l.length<=1000000)(hN:1000000<N):Qbe N l=some (VP (λx=>x != 0) l):=by
 exact Jg (p:=λx:Int=>x != 0) hl hN (λn k x e=>by
  have hk:=XA e
  rw[Qau,Xk hk,Wc,Xe,e,Xa,Qg7,Xa,Xf aa]) (λn=>by rw[Qau,Xw,Wa])
def Xlv(hN:NB N){h:Wl}(ht:HT h)(ep:Qab N h=some true){i:Int}(h0:0<=i)(h1:i<h.p.length):
 ∃a,Qfu N h i=some a/\∃b,Qgr N h i=some (b,a != 0):=by
 have hN':1000000<N:=by unfold NB at hN;omega
 have hb:=ht.hb;have hp:=Yn hN hb ep;have hcv:=Xl.1 hp.conf;have hpl:=hp.pages;have hm:=XZ hp.conf (i:=i) h0 aa;have ad:Xg h.c i 0=4096+i*h.c.W:=by unfold Xg;omega
 have hw:=hp.words;have⟨pw,hpw⟩:∃pw:Nat,h.c.W=(pw:Int):=⟨h.c.W.toNat,aa⟩
 have hin:Yp h.w (Xg h.c i 0) pw:=by unfold Yp;omega
 have erd:Qc0 N h.w (Xg h.c i 0) h.c.W=some ((h.w.drop (ix (Xg h.c i 0))).take pw,0):=by rw[hpw,Xbx (by unfold BIG;omega) N _ pw aa,Wp hin]
 have eadr:Qbq N h.c i 0=some (Xg h.c i 0,0):=by rw[JK,hp.conf,Wn ab,Wp aa]
 have hau:Xg h.c i 0<=18446744073709551615:=aa;have⟨hd,eh,hh0,hh1⟩:=Xeu N (h:=h) hp.first N i h0 h1 hb.2 aa;have eh':Qfs N h i=some hd:=by rw[Qfs,eh,Xa]
 have⟨r,er,hr,hlen⟩:=Qhr hN hb hp hd hh0 hh1;have⟨⟨hat,hev,_⟩,_,_⟩:=hr;have⟨u,eu,hu1,hu2⟩:=Xn1 hN hp i h0 h1 r.1 aa hat hev;have⟨e,e1,e2,e3⟩:=Xid hN hb hp h0 h1 u hu1 N 0 aa aa;rw[Qfu,eh',Xa,er,Xa,eu,Xa,show(0:Int)=((0:Nat):Int)from rfl,e1,Xa];rw[Qgr,XcG,eadr,Xa,Xls aa hau];rw[erd,Xa,Xlt hN hb hp h0 h1,eh',Xa,XcM hN ht,er,Xa];have hvl:((h.w.drop (ix (Xg h.c i 0))).take pw).length=pw:=by rw[Wj,Wk];unfold ix;unfold Yp at hin;omega
 have⟨v,g1,g2,g3⟩:=Xf7 hN ht hp i h0 h1 r aa hat hev N 0 ((h.w.drop (ix (Xg h.c i 0))).take pw) aa aa aa;have g1':QdX N h (Xg h.c i 0,0) r N 0 ((h.w.drop (ix (Xg h.c i 0))).take pw)=some v:=g1;have hul:u.length=pw:=by clear e2 e3;omega
 rw[g1',Xa,Xn3 v aa hN',Xa];have hany:decide (VP (λx=>x != 0) v>=0)=v.any (λx=>x != 0):=Z8 _ v;rw[hany];have hword:∀j,j<pw->((h.w.drop (ix (Xg h.c i 0))).take pw).getD j 0=wdP h i j:=by intro j hj;unfold wdP wd ix;rw[Wo,Uk,Wp hj,UF,Wo];congr 2;omega
 have iff1:v.any (λx=>x != 0)=true↔∃j,0<=j/\j<u.length/\u.getD j false=false/\wdP h i j≠0:=by
  rw[List.any_eq_true];constructor
  .rintro⟨x,hx,hx0⟩;obtain⟨j,hj,rfl⟩:=WM hx;have hj':j<pw:=aa;have:=g3 j aa;rw[Wo,Wb hj,U5,hword j hj',WX,←XeI]at this;grind
  rintro⟨j,_,hj,hc,hz⟩;have hj':j<v.length:=aa;refine⟨v[j],WN hj',?_⟩;have:=g3 j aa;rw[Wo,Wb hj',U5,hword j aa,WX,←XeI,←hu2 j hj,hc,Wn ab]at this;grind
 by_cases hex:∃j,0<=j/\j<u.length/\u.getD j false=false/\wdP h i j≠0
 .obtain⟨a,rfl,ha⟩:=e2 hex;rw[Xy,iff1.2 hex];simp_all
 have hne:=e3 hex;subst hne;rw[Xm,show v.any (λx=>x != 0)=false by rw[←IP];exactλhh=>hex (iff1.1 hh)];simp
end
def Jc{α β:Type}{L:Nat}{F:Nat->Int->Option (Ex α β)}{p:Nat->Prop}{Q:α->Prop}{u:β}(hbad:∀n k,k<L->p k->∃a,F (n+1) (k:Int)=some (.ret a)/\Q a)(hok:∀n k,k<L->¬p k->F (n+1) (k:Int)=F n ((k+1:Nat):Int))(hstop:∀n,F (n+1) (L:Int)=some (.nxt u)):∀(n k:Nat),k<=L->L-k<n ->
 ∃e,F n (k:Int)=some e/\((∃j,k<=j/\j<L/\p j)->∃a,e=.ret a/\Q a)/\((¬∃j,k<=j/\j<L/\p j)->e=.nxt u)
 |0,k,_,hn=>by omega
 |n+1,k,hk,hn=>by
  by_cases hlt:k<L;case neg=>
   grind
  by_cases hp:p k
  .have⟨a,e,hq⟩:=hbad n k hlt hp;exact⟨_,e,λ_=>⟨a,rfl,hq⟩,λhh=>absurd ⟨k,Un _,hlt,hp⟩ hh⟩
  have⟨e,e1,e2,e3⟩:=Jc hbad hok hstop n (k+1) aa aa;refine⟨e,(hok n k hlt hp).trans e1,λ⟨j,a,b,c⟩=>e2 ⟨j,?_,b,c⟩,λhh=>e3 λ⟨j,a,b⟩=>hh ⟨j,aa,b⟩⟩;grind
section
variable {N:Nat}
def Xlw(l:List Int)(x:Int)(hl:l.length<=1000000)(hs:l.Pairwise (·<·)):∀(n lo hi:Nat),lo<=hi->hi<=l.length->hi-lo<n->(∀i(h:i<l.length),i<lo->l[i]<x)->(∀i(h:i<l.length),hi<=i->x<=l[i]) ->
 ∃k:Nat,Qaq N l x n (lo:Int) (hi:Int)=some (k:Int)/\k<=l.length/\(∀i(h:i<l.length),i<k->l[i]<x)/\(∀i(h:i<l.length),k<=i->x<=l[i])
 |0,lo,hi,_,_,hn,_,_=>by omega
 |n+1,lo,hi,h1,h2,hn,ha,hb=>by
  rw[Qaq];by_cases hlt:lo<hi;case neg=>
   grind
  have hmid:wI (Yz .u64 (wU (wI ((lo:Int)+hi))) 1)=(((lo+hi) / 2:Nat):Int):=by rw[Xd (n:=(lo:Int)+hi) aa aa,Xx aa aa,show Yz .u64 ((lo:Int)+hi) 1=((lo:Int)+hi) / 2 from YO _ 1 aa aa,Xd aa aa];omega
  have hm:(lo+hi) / 2<l.length:=aa;have hlm:lo<=(lo+hi) / 2/\(lo+hi) / 2<hi:=aa;generalize (lo+hi) / 2=m at *;rw[Wg aa,Wc,hmid,Xe,Wb hm,Xa,Qf3,Qew,Xa,show(l[m] != l[m])=false by simp,Wa,Xa];have hpw:=UH.1 hs;by_cases hc:l[m]<x
  .rw[Wg hc,Wc,Xf aa];refine Xlw l x hl hs n (m+1) hi aa h2 aa (λi h hi'=>?_) hb;grind
  rw[Wh hc,Wa];refine Xlw l x hl hs n lo m aa aa aa ha (λi h hi'=>?_);grind
def Xlx(l:List Int)(x:Int)(hl:l.length<=1000000)(hN:1000000<N)(hs:l.Pairwise (·<·)):∃k:Int,Qaw N l x=some (k,l.contains x):=by
 have⟨k,e,hk,h1,h2⟩:=Xlw (N:=N) l x hl hs N 0 l.length aa aa aa (λi h hi=>aa) (λi h hi=>aa);rw[Qaw,show(0:Int)=((0:Nat):Int)from rfl,e,Xa];by_cases hlt:k<l.length
 .rw[Wg aa,Wc,Xe,Wb hlt,Xa];by_cases hx:l[k]=x
  .refine⟨k,?_⟩;grind
  refine⟨k,?_⟩;rw[show(l[k]==x)=false by simpa using hx,Wa,Xa,Qdf,Xa,show(l[k] != l[k])=false by simp,Wa];have:l.contains x=false:=by
   rw[←IP,II];intro hm;obtain⟨i,hi,rfl⟩:=WM hm;have hpw:=UH.1 hs;by_cases hik:i<k
   .have:=h1 i hi hik;omega
   have a:=h2 k hlt (Un _);by_cases heq:i=k
   .subst heq;exact hx rfl
   have:=hpw k i hlt hi aa;omega
  grind
 refine⟨k,?_⟩;have:l.contains x=false:=by rw[←IP,II];intro hm;obtain⟨i,hi,rfl⟩:=WM hm;have:=h1 i hi aa;omega
 grind
def Oe.asc{h:Wl}{l:List Int}(o:Oe N h l):l.Pairwise (·<·):=
 o.pw.imp λ{a b} hab=>by have:=(YR h.w a).2;omega
def VQ{d:WD}:∀{k:Nat}{i x:Int},i<=x->x<i+k->Jd d x=true->x∈Yy d k i
 |0,i,x,h1,h2,_=>by omega
 |k+1,i,x,h1,h2,h3=>by
  simp only[Yy,WG];by_cases hx:x=i
  .simp_all
  right;exact VQ aa aa h3
def Xa0{d:WD}(hv:XG d=true){x:Int}:x∈Ze d↔0<=x/\x<d.n/\Jd d x=true:=by
 unfold Ze;rw[Wp hv];constructor
 .intro h;have:=JI h;grind
 intro h;exact VQ aa aa h.2.2
end
section
variable {N:Nat}
def XpV(h:Wl)(l:List Int)(a i:Int):Prop:=wd h.w (a+1+i)≠0/\l.contains (wd h.w (a+1+i))=false
def V3(h:Wl)(l:List Int)(a:Int):Prop:=∃i,i∈Ze (hdA h.w a)/\XpV h l a i
def VE(h:Wl)(a:Int):XG (hdA h.w a)=true:=ZD _
def Xn4{h:Wl}(hp:Ut h){a:Int}(ha:IG h a){i:Int}(h0:0<=i)(h1:i<(hdA h.w a).n):4096<=a+1+i/\a+1+i<4096+h.w.length/\a+1+i<=8192/\(hdA h.w a).n<=255:=by have:=K3 hp ha;have:=ha.rng;have:=YR h.w a;have hv:=Xl.1 hp.conf;have:=XZ hp.conf (i:=0) aa aa;have:=hp.words;unfold szA at *;omega
def Xrq(hN:NB N){h:Wl}(ht:HT h)(hp:Ut h)(y1:List Int×Int)(hl:y1.1.length<=1000000)(hs:y1.1.Pairwise (·<·))(v2:Int){a:Int}(ha:IG h a):
 ∃e,QaH N h y1 v2 a (Ze (hdA h.w a)) N 0=some e/\(V3 h y1.1 a->∃b,e=.ret b/\b≠0)/\(¬V3 h y1.1 a->e=.nxt ()):=by
 have hN':1000000<N:=by unfold NB at hN;omega
 have hb:=ht.hb;have hv:=VE h a;have hb255:=XP hv;have hpl:(Ze (hdA h.w a)).length<=255:=by unfold Ze;rw[Wp hv];have:=JJ (d:=hdA h.w a) (k:=(hdA h.w a).n.toNat) (i:=0);omega
 have hmem:∀k(hk:k<(Ze (hdA h.w a)).length),0<=(Ze (hdA h.w a))[k]/\(Ze (hdA h.w a))[k]<(hdA h.w a).n:=λk hk=>by have:=(Xa0 hv).1 (WN hk);omega
 generalize hps:Ze (hdA h.w a)=ps at *;have hr:=ha.rng;have step:∀n k(hk:k<ps.length),QaH N h y1 v2 a ps (n+1) (k:Int)=bif (wd h.w (a+1+ps[k]) != 0)then(bif (!y1.1.contains (wd h.w (a+1+ps[k])))then some (.ret (a+1+ps[k]))else QaH N h y1 v2 a ps n ((k+1:Nat):Int))else QaH N h y1 v2 a ps n ((k+1:Nat):Int):=by
  intro n k hk;have hm:=hmem k hk;have hf:=Xn4 hp ha hm.1 hm.2;have hw8:(h.w.length:Int)<=100000:=by have:=hb.1;omega
  have w1:wU (wU (a+1)+wU ps[k])=a+1+ps[k]:=by rw[Xx (n:=a+1) aa aa,Xx (n:=ps[k]) aa aa,Xx aa aa]
  rw[QaH,Wg aa,Wc,Xe,Wb hk,Xa,w1,Xf4 aa aa,YI (by unfold BIG;omega),Wp (by unfold inW;omega),Xa];dsimp only;obtain⟨q,eq⟩:=Xlx (N:=N) y1.1 (h.w.getD (ix (a+1+ps[k])) 0) hl hN' hs;rw[eq,Xa,Xf aa];rfl
 have key:=Jc (L:=ps.length) (F:=QaH N h y1 v2 a ps) (p:=λk=>∃hk:k<ps.length,XpV h y1.1 a ps[k]) (Q:=λb=>b≠0) (u:=())
  (λn k hk hbad=>by
   obtain⟨hk',h1,h2⟩:=hbad
   refine⟨a+1+ps[k],?_,?_⟩
   .rw[step n k hk,show(wd h.w (a+1+ps[k]) != 0)=true by simpa using h1,Wc,h2];rfl
   grind)
  (λn k hk hnb=>by
   rw[step n k hk]
   by_cases h1:wd h.w (a+1+ps[k])=0
   .simp_all
   .rw[show(wd h.w (a+1+ps[k]) != 0)=true by simp_all,Wc]
    cases h2:y1.1.contains (wd h.w (a+1+ps[k]))with
    |true=>rfl
    |false=>exact absurd ⟨hk,h1,h2⟩ hnb)
  (λn=>by rw[QaH,Wh aa,Wa]) N 0 aa aa
 have⟨e,e1,e2,e3⟩:=key;refine⟨e,e1,λhbo=>?_,λhbo=>?_⟩
 .have⟨i,hi,hbp⟩:=hbo;rw[hps]at hi;obtain⟨j,hj,rfl⟩:=WM hi;exact e2 ⟨j,UM _,hj,hj,hbp⟩
 refine e3 λ⟨j,_,hj,hj',hbp⟩=>hbo ⟨ps[j],?_,hbp⟩;simp_all
def Xo4(hN:NB N){h:Wl}(ht:HT h)(hp:Ut h)(y1:List Int×Int)(hl:y1.1.length<=1000000)(hs:y1.1.Pairwise (·<·))(hat:∀a∈y1.1,IG h a)(hev:∀a∈y1.1,Qam N h a=some (hdA h.w a,0)):∀(n k:Nat),k<=y1.1.length->y1.1.length-k<n ->
 ∃r,Qch N h y1 n (k:Int)=some r/\((∃a∈y1.1.drop k,V3 h y1.1 a)->r≠0)/\((¬∃a∈y1.1.drop k,V3 h y1.1 a)->r=0)
 |0,k,_,hn=>by omega
 |n+1,k,hk,hn=>by
  have hN':1000000<N:=by unfold NB at hN;omega
  rw[Qch];by_cases hlt:k<y1.1.length;case neg=>
   grind
  have hm:=WN hlt;rw[Wg aa,Wc,Xe,Wb hlt,Xa,XaZ hN ht ((hat _ hm).tu hp),hev _ hm,Xa,XdQ aa _ (VE h _),Xa];have⟨e,e1,e2,e3⟩:=Xrq hN ht hp y1 hl hs (k:Int) (hat _ hm);rw[e1,Xa,Wq hlt];by_cases hbo:V3 h y1.1 y1.1[k]
  .grind[Xy]
  have:=e3 hbo;subst this;rw[Xm,Xf aa];have⟨r,r1,r2,r3⟩:=Xo4 hN ht hp y1 hl hs hat hev n (k+1) aa aa;grind
def Xly(hN:NB N){h:Wl}(hb:HB h)(ep:Qab N h=some true){a:Int}(ha:IG h a)(hev:Qam N h a=some (hdA h.w a,0))(hk:(hdA h.w a).k≠0):QbY N h a=some (hdA h.w a,0):=by have:=ha.rng;rw[QbY,ep,Xa,Ws,Wa,show(a==0)=false by simp;omega,Wa,hev,Xa];grind
def Xjj(hN:NB N){h:Wl}(hb:HB h)(ep:Qab N h=some true){a:Int}(ha:IG h a)(hev:Qam N h a=some (hdA h.w a,0))(hk:(hdA h.w a).k≠0):∃l,Qfh N h a=some (l,0)/\(l.length:Int)=(hdA h.w a).n/\∀(j:Nat)(hj:j<l.length),l[j]=wd h.w (a+1+j):=by
 have hp:=Yn hN hb ep;have hv:=XP (VE h a);have hr:=ha.rng;have hfit:=K3 hp ha;have hm:=XZ hp.conf (i:=0) aa (by have:=Xl.1 hp.conf;omega);have hw:=hp.words;unfold szA at hfit;have⟨m,hm'⟩:∃m:Nat,(hdA h.w a).n=(m:Int):=⟨(hdA h.w a).n.toNat,aa⟩
 rw[Qfh,Xly hN hb ep ha hev hk,Xa];rw[show((0:Int) != 0)=false from rfl,Wa,Xx (n:=a+1) aa aa,hm',Xbx (by unfold BIG;omega) N _ m aa,Wp (by unfold Yp;omega),Xa];refine⟨_,rfl,?_,λj hj=>?_⟩
 .rw[Wj,Wk];unfold ix;omega
 rw[U6,Iq];unfold wd;rw[Wo,show ix (a+1+(j:Int))=ix (a+1)+j by unfold ix;omega,Wb (by grind)];rfl
end
section
variable {N:Nat}
def Xrr(hN:NB N){h:Wl}(hb:HB h)(hp:Ut h)(y1 y6:List Int×Int)(hl:y1.1.length<=1000000)(v2:Int){a:Int}(hv2:Xb y1.1 v2=some a)(ha:IG h a)(hy:(y6.1.length:Int)=(hdA h.w a).n)(hf:∀(j:Nat)(hj:j<y6.1.length),y6.1[j]=wd h.w (a+1+j)):
 ∃e,Qav N h y1 y6 v2 (hdA h.w a,0) N 0=some e/\(V3 h y1.1 a->∃f,e=.ret f/\f.Fault≠0)/\(¬V3 h y1.1 a->e=.nxt ()):=by
 have hN':1000000<N:=by unfold NB at hN;omega
 have hv:=VE h a;have hb255:=XP hv;have step:∀n k(hk:k<y6.1.length),Qav N h y1 y6 v2 (hdA h.w a,0) (n+1) (k:Int)=bif Jd (hdA h.w a) (k:Int)then(bif (wd h.w (a+1+k) != 0)then(bif (!y1.1.contains (wd h.w (a+1+k)))then(bnd (QcH N h.c (wU ((wU (a+1))+(wU (k:Int))))) λy13=>some (.ret (Uc.mk 6 y13.1 (wU ((wU (a+1))+(wU (k:Int)))))))else Qav N h y1 y6 v2 (hdA h.w a,0) n ((k+1:Nat):Int))else Qav N h y1 y6 v2 (hdA h.w a,0) n ((k+1:Nat):Int))else Qav N h y1 y6 v2 (hdA h.w a,0) n ((k+1:Nat):Int):=by intro n k hk;rw[Qav,Wg aa,Wc,Vw,Xa,Xe,Wb hk,hf k hk,Xf aa];simp only[Xa,YE (wd h.w (a+1+(k:Int))) (show y1.1.length<=1000000000 by omega) (show y1.1.length<N by omega),hv2]
 have key:=Jc (L:=y6.1.length) (F:=Qav N h y1 y6 v2 (hdA h.w a,0)) (p:=λk=>Jd (hdA h.w a) (k:Int)=true/\XpV h y1.1 a (k:Int)) (Q:=λf=>f.Fault≠0) (u:=())
  (λn k hk hbad=>by
   obtain⟨h0,h1,h2⟩:=hbad
   rw[step n k hk,h0,Wc,show(wd h.w (a+1+(k:Int)) != 0)=true by simpa using h1,Wc,h2,Ui,Wc,Js,Xa]
   simp)
  (λn k hk hnb=>by
   rw[step n k hk]
   cases h0:Jd (hdA h.w a) (k:Int)with
   |false=>rfl
   |true=>
   rw[Wc]
   by_cases h1:wd h.w (a+1+(k:Int))=0
   .simp_all
   .rw[show(wd h.w (a+1+(k:Int)) != 0)=true by simp_all,Wc]
    cases h2:y1.1.contains (wd h.w (a+1+(k:Int)))with
    |true=>rfl
    |false=>exact absurd ⟨h0,h1,h2⟩ hnb)
  (λn=>by rw[Qav,Wh aa,Wa]) N 0 aa aa
 have⟨e,e1,e2,e3⟩:=key;refine⟨e,e1,λhbo=>?_,λhbo=>?_⟩
 .have⟨i,hi,hbp⟩:=hbo;have hm:=(Xa0 hv).1 hi;obtain⟨j,rfl⟩:∃j:Nat,i=(j:Int):=⟨i.toNat,aa⟩
  exact e2 ⟨j,UM _,aa,hm.2.2,hbp⟩
 exact e3 λ⟨j,_,hj,hpj,hbp⟩=>hbo ⟨(j:Int),(Xa0 hv).2 ⟨aa,aa,hpj⟩,hbp⟩
def Xo5(hN:NB N){h:Wl}(hb:HB h)(ep:Qab N h=some true)(y1:List Int×Int)(hl:y1.1.length<=1000000)(hat:∀a∈y1.1,IG h a)(hev:∀a∈y1.1,Qam N h a=some (hdA h.w a,0))(hkd:∀a∈y1.1,(hdA h.w a).k≠0):∀(n k:Nat),k<=y1.1.length->y1.1.length-k<n ->
 ∃e,QbT N h y1 n (k:Int)=some e/\((∃a∈y1.1.drop k,V3 h y1.1 a)->∃f,e=.ret f/\f.Fault≠0)/\((¬∃a∈y1.1.drop k,V3 h y1.1 a)->e=.nxt ())
 |0,k,_,hn=>by omega
 |n+1,k,hk,hn=>by
  have hp:=Yn hN hb ep;rw[QbT];by_cases hlt:k<y1.1.length;case neg=>
   grind
  have hm:=WN hlt;have hg:Xb y1.1 (k:Int)=some y1.1[k]:=by rw[Xe,Wb hlt]
  have⟨l,f1,f2,f3⟩:=Xjj hN hb ep (hat _ hm) (hev _ hm) (hkd _ hm);rw[Wg aa,Wc,hg,Xa,Xly hN hb ep (hat _ hm) (hev _ hm) (hkd _ hm),Xa,Xa,f1,Xa];have⟨e,e1,e2,e3⟩:=Xrr hN hb hp y1 (l,0) hl (k:Int) hg (hat _ hm) f2 f3;rw[e1,Xa,Wq hlt];by_cases hbo:V3 h y1.1 y1.1[k]
  .grind[Xy]
  have:=e3 hbo;subst this;rw[Xm,Xf aa];have⟨r,r1,r2,r3⟩:=Xo5 hN hb ep y1 hl hat hev hkd n (k+1) aa aa;grind
def JP(hN:NB N){h:Wl}(hb:HB h):∃y,Qay N h=some y/\y.1.length<=4096/\y.1.Pairwise (·<·)/\(∀a∈y.1,IG h a)/\(∀a∈y.1,Qam N h a=some (hdA h.w a,0))/\(∀a∈y.1,(hdA h.w a).k≠0):=by have⟨y,e,hs,_,_⟩:=ZF hN hb;refine⟨y,e,hs.len,hs.obj.asc,hs.obj.at_,hs.obj.ev,?_⟩;have⟨r,er,hr,_,_⟩:=Vx hN hb;have hlen:=hr.len;rw[Qay,er,Xa,show(0:Int)=((0:Nat):Int)from rfl,Xay r aa hr.obj.ev N 0 [] aa (by unfold NB at hN;omega) ab,Xa,WX,Ug]at e;cases e;intro a ha;have:=(UR.1 ha).2;simp_all[Za,fnd]
def zF:Uc:=⟨0,0,0⟩
def Xn5(P:Prop)(o:Option Uc):Prop:=∃f,o=some f/\(P->f.Fault≠0)/\(¬P->f=zF)
def Xf8(hN:NB N){h:Wl}(ht:HT h)(ep:Qab N h=some true){y:List Int×Int}(ey:Qay N h=some y):Xn5 (∃a∈y.1,V3 h y.1 a) (Qfo N h)/\Xn5 (∃a∈y.1,V3 h y.1 a) (Qer N h):=by
 have hb:=ht.hb;have hp:=Yn hN hb ep;have⟨y',ey',hl,hs,hat,hev,hkd⟩:=JP hN hb;rw[ey]at ey';cases ey';have hbig:y.1.length<N:=by unfold NB at hN;omega
 constructor
 .have⟨r,e1,e2,e3⟩:=Xo4 hN ht hp y aa hs hat hev N 0 aa aa;rw[Qfo,Jb hN ht,ey,Xa];have e1':Qch N h y N 0=some r:=e1;rw[e1',Xa];by_cases hbo:∃a∈y.1,V3 h y.1 a
  .rw[show(r==0)=false by simp_all,Wa];have:∃q,Qcd N h.c r=some q:=by
    rw[Qcd,KN,Xa];cases hc:X5 h.c with
    |false=>simp
    |true=>
     have:=Xl.1 hc;rw[Ws,Wa];cases decide (r<4096)
     .rw[Wa];cases decide (wU (r-4096)>=wU (wI (h.c.W*h.c.p)))
      .rw[Wa,Xc aa,Xc aa];exact⟨_,rfl⟩
      exact⟨_,rfl⟩
     simp
   have⟨q,eq⟩:=this;rw[eq,Xa];exact⟨_,rfl,λ_=>ab,λhh=>absurd hbo hh⟩
  rw[e3 hbo];exact⟨_,rfl,λhh=>absurd hh hbo,λ_=>rfl⟩
 have⟨e,e1,e2,e3⟩:=Xo5 hN hb ep y aa hat hev hkd N 0 aa aa;rw[Qer,ey,Xa];have e1':QbT N h y N 0=some e:=e1;rw[e1',Xa];by_cases hbo:∃a∈y.1,V3 h y.1 a
 .obtain⟨f,rfl,hf⟩:=e2 hbo;rw[Xy];exact⟨_,rfl,λ_=>hf,λhh=>absurd hbo hh⟩
 rw[e3 hbo,Xm];exact⟨_,rfl,λhh=>absurd hh hbo,λ_=>rfl⟩
end
section
variable {N:Nat}
def XeK(hN:NB N){h:Wl}(ht:HT h)(ep:Qab N h=some true){i:Nat}(h1:i<h.p.length):
 ∃f,Qfv N h (i:Int)=some f/\((f.Fault≠0/\∀n,∃f',QaY N h (n+1) (i:Int)=some (.ret f')/\f'.Fault≠0)\/(f.Fault=0/\∀n,QaY N h (n+1) (i:Int)=QaY N h n ((i+1:Nat):Int))):=by
 have hb:=ht.hb;have hp:=Yn hN hb ep;have hpl:h.p.length<=100000:=hb.2;have hg:Xb h.p (i:Int)=some (pg h.p (i:Int)):=XH aa aa;have hst:∀n,QaY N h (n+1) (i:Int)=jn (λ(_:Unit)=>
  bnd (QeW N h (i:Int)) λy3=>
  bif (y3.2 != 0)then some (.ret (Uc.mk 3 (i:Int) 0))
  else bnd (QfW N h (i:Int) y3.1) λy4=>
  bif y4.2 then some (.ret (Uc.mk 5 (i:Int) y4.1))
  else bnd (Qgr N h (i:Int)) λy5=>
  bif y5.2 then some (.ret (Uc.mk 4 (i:Int) y5.1))
  else QaY N h n ((i+1:Nat):Int)) λj1=>
  bif ((pg h.p (i:Int)).k != 0)then(bif ((pg h.p (i:Int)).s != h.s)then some (.ret (Uc.mk 2 (i:Int) 0))
   else j1 ())
  else j1 ():=by
  intro n
  rw[QaY,Wg aa,Wc,hg,Xa,Xf aa]
 simp only[hst,XE];rw[Qfv,XE,hg];simp only[Xa];by_cases hsp:(pg h.p (i:Int)).k≠0/\(pg h.p (i:Int)).s≠h.s
 .rw[show((pg h.p (i:Int)).k != 0)=true by simpa using hsp.1,show((pg h.p (i:Int)).s != h.s)=true by simpa using hsp.2];exact⟨_,rfl,.inl ⟨by show(2:Int)≠0;omega,λn=>⟨_,rfl,by show(2:Int)≠0;omega⟩⟩⟩
 have e1:∀{α:Type}(x y:α),(bif ((pg h.p (i:Int)).k != 0)then(bif ((pg h.p (i:Int)).s != h.s)then x else y)else y)=y:=by
  intro α x y;by_cases k0:(pg h.p (i:Int)).k=0
  .rw[show((pg h.p (i:Int)).k != 0)=false by simpa using k0,Wa]
  have:(pg h.p (i:Int)).s=h.s:=Classical.byContradiction λhh=>hsp ⟨k0,hh⟩;rw[show((pg h.p (i:Int)).s != h.s)=false by simpa using this,Wa,Bool.cond_self]
 simp only[e1];have⟨r,er,hr,hlen⟩:=Qhr hN hb hp (i:Int) aa aa;simp only[XcM hN ht,er,Xa];by_cases hz:r.2=0;case neg=>
  rw[show(r.2 != 0)=true by simpa using hz]
  exact⟨_,rfl,.inl ⟨by show(3:Int)≠0;omega,λn=>⟨_,rfl,by show(3:Int)≠0;omega⟩⟩⟩
 rw[show(r.2 != 0)=false by simpa using hz];have⟨⟨hat,hev,_⟩,_,_⟩:=hr;have⟨a,ea,b,eb⟩:=Xjh hN ht hp (i:=(i:Int)) aa aa r.1 aa hat hev;simp only[ea,eb,Xa];by_cases ha:a=0;case neg=>
  rw[show(a != 0)=true by simpa using ha]
  exact⟨_,rfl,.inl ⟨by show(5:Int)≠0;omega,λn=>⟨_,rfl,by show(5:Int)≠0;omega⟩⟩⟩
 rw[show(a != 0)=false by simpa using ha];have⟨d,ed,d',ed'⟩:=Xlv hN ht ep (i:=(i:Int)) aa aa;simp only[ed,ed',Xa];by_cases hd:d=0;case neg=>
  rw[show(d != 0)=true by simpa using hd]
  exact⟨_,rfl,.inl ⟨by show(4:Int)≠0;omega,λn=>⟨_,rfl,by show(4:Int)≠0;omega⟩⟩⟩
 simp_all
def Xlz(hN:NB N){h:Wl}(ht:HT h)(ep:Qab N h=some true):∃P:Prop,Xn5 P (QgG N h)/\∃e,QbI N h N 0=some e/\(P->∃f,e=.ret f/\f.Fault≠0)/\(¬P->e=.nxt ()):=by
 have hb:=ht.hb;have hpl:h.p.length<=100000:=hb.2;have hbig:h.p.length<N:=by unfold NB at hN;omega
 let p:Nat->Prop:=λk=>∃f,Qfv N h (k:Int)=some f/\f.Fault≠0;refine⟨∃j,0<=j/\j<h.p.length/\p j,?_,?_⟩
 .have key:=Jc (L:=h.p.length) (F:=QaY N h) (p:=p) (Q:=λ f=>f.Fault≠0) (u:=())
   (λn k hk hbad=>by
    obtain⟨f,ef,hf⟩:=hbad
    obtain⟨f2,ef2,hor⟩:=XeK hN ht ep hk
    simp_all)
   (λn k hk hnb=>by
    obtain⟨f2,ef2,hor⟩:=XeK hN ht ep hk
    grind)
   (λn=>by rw[QaY,Wh aa,Wa]) N 0 aa aa
  have⟨e,e1,e2,e3⟩:=key;have e1':QaY N h N 0=some e:=e1;unfold Xn5;rw[QgG,e1',Xa];by_cases hP:∃j,0<=j/\j<h.p.length/\p j
  .grind[Xy]
  rw[e3 hP,Xm];exact⟨_,rfl,λhh=>absurd hh hP,λ_=>rfl⟩
 have key:=Jc (L:=h.p.length) (F:=QbI N h) (p:=p) (Q:=λ f=>f.Fault≠0) (u:=())
  (λn k hk hbad=>by
   have⟨f,ef,hf⟩:=hbad
   rw[QbI,Wg aa,Wc,ef,Xa,show(f.Fault != 0)=true by simpa using hf]
   exact⟨f,rfl,hf⟩)
  (λn k hk hnb=>by
   have⟨f2,ef2,hor⟩:=XeK hN ht ep hk
   have hz:f2.Fault=0:=Classical.byContradiction λhh=>hnb ⟨f2,ef2,hh⟩
   rw[QbI,Wg aa,Wc,ef2,Xa,show(f2.Fault != 0)=false by simpa using hz,Wa,Xf aa])
  (λn=>by rw[QbI,Wh aa,Wa]) N 0 aa aa
 omega
def XeL{f:Uc}(hf:f.Fault≠0):((f.Fault==0)&&((f.Page==0)&&(f.Addr==0)))=false:=by simp_all
def XcN(hN:NB N){h:Wl}(ht:HT h):QfE N h=Qbl N h:=by
 have hb:=ht.hb;have hpl:h.p.length<=100000:=hb.2;rw[QfE,Qbl,Qhv,QgC,YC hpl (by unfold NB at hN;omega)];have⟨b,eb⟩:=Ka (N:=N) hN hb;simp only[eb,Xa];cases b with
 |false=>rfl
 |true=>
 rw[Ws,Wa,Wa];have⟨P,⟨f,ef,hf1,hf2⟩,e,e1,e2,e3⟩:=Xlz hN ht eb;have⟨y,ey,_⟩:=JP hN hb;have⟨⟨g,eg,hg1,hg2⟩,⟨g',eg',hg1',hg2'⟩⟩:=Xf8 hN ht eb ey;simp only[ef,e1,Xa];by_cases hP:P
 .obtain⟨f',rfl,hf'⟩:=e2 hP;simp only[Xy,XeL (hf1 hP),Ui,Wc,Xa,XeL hf']
 rw[e3 hP,hf2 hP];simp only[Xm,eg,eg',Xa,zF,show((0:Int)==0)=true from rfl,IF,Ws,Wa];by_cases hQ:∃a∈y.1,V3 h y.1 a
 .simp only[XeL (hg1 hQ),Ui,Wc,Xa,show(g'.Fault != 0)=true by simpa using hg1' hQ,XeL (hg1' hQ)]
 rw[hg2 hQ,hg2' hQ];simp only[zF,show((0:Int)==0)=true from rfl,show((0:Int) != 0)=false from rfl,IF,Ws,Wa];have hl2:∀(n:Nat)(c i:Int),Qcf N h n c i=QbJ N h n c i:=by
  intro n;induction n with
  |zero=>intro c i;rw[Qcf,QbJ]
  |succ n ih=>
   intro c i;rw[Qcf,QbJ];simp only[ih];cases hg:Xb h.p i with
   |none=>simp only[Kq]
   |some p=>simp only[Xa]
 grind
def XdV(hN:NB N){h:Wl}(ht:HT h){l:List Int}(hl:l.length<=1000000):QdK N h l=Qbc N h l:=by
 have hN':1000000<N:=by unfold NB at hN;omega
 have hb:=ht.hb;rw[QdK,Qbc,XcN hN ht];have⟨b,eb,_⟩:=Kc hN hb;rw[eb,Xa,Xa];cases b with
 |false=>rfl
 |true=>
 have⟨y,ey,hy,hs,_⟩:=JP hN hb;rw[Ws,Wa,Wa,Jb hN ht,ey,Xa,Xa];have hr1:∀x:Int,Qey N x y.1=some (x != 0&&!y.1.contains x):=by intro x;obtain⟨k,ek⟩:=Xlx (N:=N) y.1 x aa hN' hs;rw[Qey,ek,Xa];cases (x != 0)<;>rfl
 rw[QaV,Qa5];rw[Jg (p:=λx:Int=>x != 0&&!y.1.contains x) hl hN' (λn k x e=>by
  have hk:=XA e
  rw[Qar,Xk hk,Wc,Xe,e,Xa,hr1,Xa,Xf aa]) (λn=>by rw[Qar,Xw,Wa])]
 rw[Xa,Xa,Z8]
 have key:=Jc (L:=l.length) (F:=QaA N l y) (p:=λk=>∃hk:k<l.length,(l[k] != 0&&!y.1.contains l[k])=true) (Q:=λb=>b=false) (u:=())
  (λn k hk hbad=>by
   obtain⟨hk',hq⟩:=hbad
   simp only[W5]at hq
   refine⟨false,?_,rfl⟩
   rw[QaA,Wg aa,Wc,Xe,Wb hk,Xa,hq.1,Wc,Xa,YE _ aa aa,Xa,hq.2,Wc])
  (λn k hk hnb=>by
   rw[QaA,Wg aa,Wc,Xe,Wb hk,Xa,Xa,YE _ aa aa,Xa,Xf aa]
   grind)
  (λn=>by rw[QaA,Wh aa,Wa]) N 0 aa aa
 have⟨e,e1,e2,e3⟩:=key;have e1':QaA N l y N 0=some e:=e1;rw[e1',Xa];cases hA:l.any (λx=>x != 0&&!y.1.contains x)with
 |true=>have⟨x,hx,hq⟩:=List.any_eq_true.1 hA;obtain⟨j,hj,rfl⟩:=WM hx;obtain⟨b,rfl,hbf⟩:=e2 ⟨j,UM _,hj,hj,hq⟩;simp[Xy,hbf]
 |false=>simp_all[List.any_eq_false,Xm]
def ZK(hN:NB N){h:Wl}(ht:HT h){l:List Int}(hl:l.length<=10000000 / 4)(eg:Qbl N h=some true){y:List Int×Int}(ey:Qay N h=some y):Qbc N h l=some (l.all λx=>x==0||y.1.contains x):=by
 have hb:=ht.hb;have⟨y',ey',hy,hs,_⟩:=JP hN hb;rw[ey]at ey';cases ey';have hbig:l.length<N:=by unfold NB at hN;omega
 have hN':1000000<N:=by unfold NB at hN;omega
 rw[Qbc,eg,Xa,Ws,Wa,ey,Xa]
 have key:=Jc (L:=l.length) (F:=QaA N l y) (p:=λk=>∃hk:k<l.length,(l[k]==0||y.1.contains l[k])=false) (Q:=λb=>b=false) (u:=())
  (λn k hk hbad=>by
   obtain⟨hk',hq⟩:=hbad
   simp only[Bool.or_eq_false_iff]at hq
   refine⟨false,?_,rfl⟩
   rw[QaA,Wg aa,Wc,Xe,Wb hk,Xa,show(l[k] != 0)=true by simp_all,Wc,Xa,YE _ aa aa,Xa,hq.2];rfl)
  (λn k hk hnb=>by
   rw[QaA,Wg aa,Wc,Xe,Wb hk,Xa,Xa,YE _ aa aa,Xa,Xf aa]
   grind)
  (λn=>by rw[QaA,Wh aa,Wa]) N 0 aa aa
 have⟨e,e1,e2,e3⟩:=key;have e1':QaA N l y N 0=some e:=e1;rw[e1',Xa];cases hA:l.all (λx=>x==0||y.1.contains x)with
 |false=>have⟨x,hx,hq⟩:=List.all_eq_false.1 hA;obtain⟨j,hj,rfl⟩:=WM hx;obtain⟨b,rfl,hbf⟩:=e2 ⟨j,UM _,hj,hj,by simp_all⟩;rw[Xy,hbf]
 |true=>
  have:=e3 λ⟨j,_,hj,hj',hq⟩=>by rw[Ud]at hA;rw[hA _ (WN hj)]at hq;cases hq
  simp_all[Xm]
end
section
variable {N:Nat}
def XpW(l:List UG)(r:Int)(hl:l.length<=1000000)(hN:1000000<N):QgO N l r=some (VP (λp=>p.a==r) l):=by
 exact Jg (p:=λp:UG=>p.a==r) hl hN (λn k x e=>by
  have hk:=XA e
  rw[Qe1,Xk hk,Wc,Xe,e,Xa,Xf aa]) (λn=>by rw[Qe1,Xw,Wa])
def XlA(l:List UG)(r:Int)(hl:l.length<=1000000)(hN:1000000<N):QfP N l r=some (VP (λp=>p.a==r) l):=by
 rw[QfP,Qa2];rw[Jg (p:=λp:UG=>p.a==r) hl hN (λn k x e=>by
  have hk:=XA e
  rw[Qap,Xk hk,Wc,Xe,e,Xa,Qfd,Xa,Xf aa]) (λn=>by rw[Qap,Xw,Wa]),Xa]
def V4(hN:NB N){h:Wl}(ht:HT h)(hp:Ut h)(pins:List UG)(hpn:pins.length<=1000000)(y:List Int×Int)(hy:y.1.length<=4096)(hs:y.1.Pairwise (·<·))(hat:∀a∈y.1,IG h a):∀(n k:Nat)(v:List Int),k<=pins.length->pins.length-k<n->v.length=h.p.length ->
 ∃e,Qb9 N h pins y n (k:Int) v=some e/\Qb2 N pins h y n (k:Int) v=some (match e with|.ret _=>.ret ([],false)|.nxt v=>.nxt v)/\(∀b,e=.ret b->b=false)/\(∀v',e=.nxt v'->v'.length=h.p.length/\∀p∈pins.drop k,y.1.contains p.a=true)
 |0,k,v,_,hn,_=>by omega
 |n+1,k,v,hk,hn,hv=>by
  have hN':1000000<N:=by unfold NB at hN;omega
  rw[Qb9,Qb2];by_cases hlt:k<pins.length;case neg=>
   rw[Wh aa,Wa,Wa]
   grind
  have⟨q,eq⟩:=Xlx (N:=N) y.1 pins[k].a aa hN' hs;have hg:Xb pins (k:Int)=some pins[k]:=by rw[Xe,Wb hlt]
  simp only[Wg (show(k:Int)<(pins.length:Int) by omega),Wc,hg,Xa,YE pins[k].a (show y.1.length<=1000000000 by omega) (show y.1.length<N by omega),eq,XpW pins pins[k].a hpn hN',XlA pins pins[k].a hpn hN'];cases hc:y.1.contains pins[k].a with
  |false=>simp
  |true=>
  have ha:=hat _ (by rw[II]at hc;exact hc);have hta:=ha.tu hp;have⟨eh,eh1,eh2⟩:=XbE (N:=N) hp ha;have eo:QcH N h.c pins[k].a=some (pgi h.c pins[k].a,pgo h.c pins[k].a,0):=by rw[Js,Wn (by rw[hp.conf];simp),Wp ha.rng];rfl
  have⟨c,hvc⟩:∃c,Xb v (pgi h.c pins[k].a)=some c:=⟨_,Yg eh1 aa⟩
  simp only[Ws,Wa,eh,Xg6 N h.c pins[k].a hta.2,eo,Xa,hvc,Xf (show k<=140737488355328 by omega)];have⟨e,n1,n2,n3,n4⟩:=V4 hN ht hp pins hpn y hy hs hat n (k+1) (v.set (pgi h.c pins[k].a).toNat (wI (c+pins[k].M))) aa aa (by rw[WR];exact hv);have n5:∀v',e=.nxt v'->v'.length=h.p.length/\∀p∈pins.drop k,y.1.contains p.a=true:=λv' hv'=>⟨(n4 v' hv').1,λp hp=>by
   rw[Wq hlt]at hp
   rcases UY.1 hp with rfl|hp
   .exact hc
   .exact(n4 v' hv').2 p hp⟩
  grind
def Xjk(hN:NB N){h:Wl}(ht:HT h){pins:List UG}(hpn:pins.length<=1000000):QhA N h pins=Qcq N h pins:=by
 have hN':1000000<N:=by unfold NB at hN;omega
 have hb:=ht.hb;have hpl:h.p.length<=100000:=hb.2;rw[QhA,Qcq,XcN hN ht];have⟨b,eb,hgd⟩:=Kc hN hb;rw[eb,Xa,Xa];cases b with
 |false=>rfl
 |true=>
 cases decide ((pins.length:Int)>64)with
 |true=>rfl
 |false=>
 have hp:Ut h:=(hgd rfl).prop;have⟨y,ey,hy,hs,hat,_⟩:=JP hN hb;rw[Wa,Wa,Qf4,Jb hN ht,ey,Xa,Xa];rw[Xc aa];have⟨e,e1,e2,e3,e4⟩:=V4 hN ht hp pins hpn y hy hs hat N 0 (List.replicate (h.p.length:Int).toNat 0) aa aa ab;have e1':Qb9 N h pins y N 0 (List.replicate (h.p.length:Int).toNat 0)=some e:=e1;have e2':Qb2 N pins h y N 0 (List.replicate (h.p.length:Int).toNat 0)=_:=e2;rw[Xc aa,e1',e2',Xa,Xa];cases e with
 |ret b=>rw[e3 b rfl,Xy,Xy,Xa];rfl
 |nxt v=>
  rw[Xm,Xm,Xa];have hl:∀(n:Nat)(i:Int),Qex N h (v,true) n i=QcP N h v n i:=by
   intro n;induction n with
   |zero=>intro i;rw[Qex,QcP]
   |succ n ih=>intro i;rw[Qex,QcP];simp only[ih]
  simp_all
def XcO(hN:NB N){h:Wl}(ht:HT h){pins:List UG}(hpn:pins.length<=1000000)(em:Qcq N h pins=some true):Qbl N h=some true/\pins.length<=64/\∀y,Qay N h=some y->∀p∈pins,y.1.contains p.a=true:=by
 have hb:=ht.hb;have hpl:h.p.length<=100000:=hb.2;rw[Qcq]at em;have⟨b,eb,hgd⟩:=Kc hN hb;rw[eb,Xa]at em;cases b with
 |false=>grind
 |true=>
 refine⟨eb,?_,λy ey p hpm=>?_⟩
 .grind
 have hp:Ut h:=(hgd rfl).prop;have⟨y',ey',hy,hs,hat,_⟩:=JP hN hb;rw[ey]at ey';cases ey';cases hd:decide ((pins.length:Int)>64)with
 |true=>simp_all
 |false=>
 rw[hd,Wa,ey,Xa,Xc aa]at em;have⟨e,e1,e2,e3,e4⟩:=V4 hN ht hp pins hpn y hy hs hat N 0 (List.replicate (h.p.length:Int).toNat 0) aa (by unfold NB at hN;omega) ab;have e1':Qb9 N h pins y N 0 (List.replicate (h.p.length:Int).toNat 0)=some e:=e1;rw[e1',Xa]at em;cases e with
 |ret b=>rw[e3 b rfl,Xy]at em;grind
 |nxt v=>simp_all
def V5{x:Ub}(hp:x.P.length<=1000000):∀(n k:Nat)(v:List Int),k<=x.P.length->x.P.length-k<n->v.length<=10000000+k ->
 QeH N x n (k:Int) v=some (v++(x.P.drop k).map (·.a))/\Qbd N x n (k:Int) v=some (v++(x.P.drop k).map (·.a))
 |0,k,v,_,hn,_=>by omega
 |n+1,k,v,hk,hn,hv=>by
  rw[QeH,Qbd];by_cases hlt:k<x.P.length
  .rw[Wg aa,Wc,Wc,Xe,Wb hlt,Xa,Xa,Xc aa,Xc aa,Xf aa];have⟨a,b⟩:=V5 hp n (k+1) (v++[x.P[k].a]) aa aa (by rw[WQ];simp;omega);rw[a,b,Wq hlt,UA,Uf];exact⟨rfl,rfl⟩
  grind
def JQ(x:Ub):List Int:=((x.R++(bif Y1 x.l then X8 x.l.S else[]))++(bif YX x.g.e then XR x.g.e else[]))++x.P.map (·.a)
def XlB{x:Ub}(hx:EB x):(JQ x).length<=104160+x.P.length:=by have h1:=Y7 hx.loc;have h2:=Yj x.g.e;have h4:=hx.roots;unfold JQ;grind
def Xg9(hN:NB N){x:Ub}(hx:EB x):QdB N x=some (JQ x):=by
 have h1:=Y7 hx.loc;have h2:=Yj x.g.e;have h3:=hx.pins;have h4:=hx.roots;have hN':1000000<N:=by unfold NB at hN;omega
 rw[QdB,Xc aa,Zg hx.loc hN',Xa,Xc aa,Yi hx.glo hN',Xa,Xc aa];have:=(V5 (N:=N) h3 N 0 ((x.R++(bif Y1 x.l then X8 x.l.S else[]))++(bif YX x.g.e then XR x.g.e else[])) aa aa (by grind)).2;rw[show(0:Int)=((0:Nat):Int)from rfl,this,Xa,WX];rfl
def XcP(hN:NB N){x:Ub}(hx:EB x):Qgp N x=some (JQ x):=by
 have h1:=Y7 hx.loc;have h2:=Yj x.g.e;have h3:=hx.pins;have h4:=hx.roots;have hN':1000000<N:=by unfold NB at hN;omega
 rw[Qgp,XaW hx.loc hN',Xa,KM hx.glo hN',Xa,QhJ];have:=(V5 (N:=N) h3 N 0 [] aa aa ab).1;rw[show(0:Int)=((0:Nat):Int)from rfl,this,Xa,Xa,WX,Ug,Qgo,XaX _ ab (by simp only[V2,W4];omega) hN',Xa,Xa];unfold JQ;simp
structure ET(x:Ub):Prop where
 eb:EB x
 tw:XO x.h
def ET.ht{x:Ub}(t:ET x):HT x.h:=⟨t.eb.heap,t.tw⟩
end
section
variable {N:Nat}
def XlC(l:List Int):(!l.all λp=>!(p==0))=l.contains 0:=by grind
def Xn6(hN:NB N){x:Ub}(ht:ET x):Qgc N x=Qcr N x:=by
 have hN':1000000<N:=by unfold NB at hN;omega
 have hx:=ht.eb;have h1:=Y7 hx.loc;have h2:=Yj x.g.e;have h5:=Yj x.v.e;have h3:=hx.pins;have h4:=hx.roots;rw[Qgc,Qcr,Xjk hN ht.ht h3];have⟨b,eb,_⟩:=Jv hN hx.heap h3;rw[eb,Xa,Xa];cases b with
 |false=>rfl
 |true=>
 have⟨eg,hp64,hpn⟩:=XcO hN ht.ht h3 eb;simp only[Ws,Wa,XcF hx.loc hN',Zy hx.loc hN',Xav hx.glo hN',Y9 hx.glo hN',Xav hx.wea hN',Y9 hx.wea hN',KM hx.glo hN',Yi hx.glo hN',KM hx.wea hN',Yi hx.wea hN',Zg hx.loc hN',Xa,XcP hN hx];cases el:Y1 x.l with
 |false=>rfl
 |true=>
 cases et:YX x.g.e with
 |false=>rfl
 |true=>
 cases ew:YX x.v.e with
 |false=>rfl
 |true=>
 have hl:JQ x=((x.R++X8 x.l.S)++XR x.g.e)++x.P.map (·.a):=by unfold JQ;rw[el,et];rfl
 have hlen:=XlB hx;rw[el,Wc]at h1;rw[et,Wc]at h2;rw[ew,Wc]at h5;simp;rw[XeG aa hN',Xa,XlC,YE 0 aa aa,Xa];cases (XR x.g.e).contains 0 with
 |true=>rfl
 |false=>
 rw[Wa,Wa,Xc aa,Xc aa,Xc aa,Xc aa];rw[Qgo,XaX _ ab (by simp only[V2];omega) hN',Xa,Xa];have⟨y,ey,hy,_⟩:=JP hN hx.heap;have e1:[JQ x,XR x.v.e].flatten=JQ x++XR x.v.e:=by simp
 rw[e1,XdV hN ht.ht (by rw[WQ];omega),ZK hN ht.ht (by rw[WQ];omega) eg ey,ZK hN ht.ht ah eg ey,Xa,Xa,hl];grind
end
section
variable {N:Nat}
def Xjl(N:Nat)(ps:List Wt):Qgs N ps=QcX N ps:=by
 have h:∀(n:Nat)(c i:Int),Qdd N ps n c i=Qbx N ps n c i:=by
  intro n;induction n with
  |zero=>simp[Qdd,Qbx]
  |succ n ih=>simp[Qdd,Qbx,ih]
 rw[Qgs,QcX,h]
def Xf9(N:Nat)(ps:List Wt)(hl:ps.length<=100000):∀(n k:Nat)(v:List IX),k<=ps.length->v.length<=k->QcA N ps n (k:Int) v=Qbr N ps n (k:Int) v
 |0,k,v,_,_=>by rfl
 |n+1,k,v,hk,hv=>by
  rw[QcA,Qbr];by_cases hlt:k<ps.length;case neg=>grind
  rw[Wg (show(k:Int)<(ps.length:Int) by omega),Wc,Wc,Xe,Wb hlt,Xa,Xa,Xc aa,Xf aa];have e1:∀v':List IX,v'.length<=k+1->QcA N ps n ((k+1:Nat):Int) v'=Qbr N ps n ((k+1:Nat):Int) v':=λv' h=>Xf9 N ps hl n (k+1) v' aa h;rw[e1 v aa,e1 (v++[IX.mk (k:Int) 1]) (by simp_all)];have e2:∀(i:Nat)(x:IX),QcA N ps n ((k+1:Nat):Int) (v.set i x)=Qbr N ps n ((k+1:Nat):Int) (v.set i x):=λi x=>e1 _ (by grind);simp only[e2];cases (ps[k].k != 0)with
  |true=>rfl
  |false=>
   rw[Wa,Wa,Xc (show v.length<=140737488355328 by omega)];rw[show decide (wI ((v.length:Int)-1)>=0)=decide ((v.length:Int)>0) by
    rw[Xd aa aa];grind]
def Xjm(hN:1000000<N){ps:List Wt}(hl:ps.length<=100000)(k:Int):QdA N ps k=Qby N ps k:=by
 have er:QhB N ps=Qgl N ps:=by rw[QhB,Qgl,show(0:Int)=((0:Nat):Int)from rfl,Xf9 N ps hl N 0 [] aa ab]
 rw[QdA,Qby,er];have⟨rs,ers,hrs,_⟩:=XhK (N:=N) (ps:=ps) aa aa;rw[ers,Xa,Xa];by_cases hk:k<1
 .rw[Wg hk,Wc];have:∀(n j:Nat),j<=rs.length->rs.length-j<n->Qbw N k rs n (j:Int)=some (.nxt ()):=by
   intro n;induction n with
   |zero=>omega
   |succ n ih=>
    intro j hj hn;rw[Qbw];by_cases hlt:j<rs.length
    .rw[Wg aa,Wc,XX (show¬k>=1 by omega),Wa,Xf aa];exact ih (j+1) aa aa
    grind
  have h0:=this N 0 aa aa;rw[show((0:Nat):Int)=0 from rfl]at h0;rw[h0,Xa,Xm]
 have:∀(n:Nat)(j:Int),QdY N k rs n j=Qbw N k rs n j:=by
  intro n;induction n with
  |zero=>intro j;rw[QdY,Qbw]
  |succ n ih=>
   intro j;rw[QdY,Qbw,Wg (show k>=1 by omega),Wc];simp only[ih];cases Xb rs j with
   |none=>simp only[Kq]
   |some p=>simp only[Xa]
 grind
end
section
variable {N:Nat}
def Vm(p:Wt):Bool:=p.k != 0
def XcQ(N:Nat)(ps:List Wt)(hl:ps.length<=1000000):∀(n c k:Nat),k<=ps.length->c<=k->ps.length-k<n->Qbx N ps n (c:Int) (k:Int)=some (((c+(ps.drop k).countP Vm:Nat):Int))
 |0,c,k,_,_,h=>by omega
 |n+1,c,k,hk,hc,hn=>by
  rw[Qbx];by_cases hlt:k<ps.length
  .rw[Wg aa,Wc,Xe,Wb hlt,Xa,Xf aa,Xf aa,Wq hlt,List.countP_cons];cases hb:(ps[k].k != 0)with
   |true=>rw[Wc,XcQ N ps hl n (c+1) (k+1) aa aa aa,Wp (show Vm ps[k]=true from hb)];congr 1;omega
   |false=>rw[Wa,XcQ N ps hl n c (k+1) aa aa aa,Wn (show¬Vm ps[k]=true by unfold Vm;rw[hb];simp)];rfl
  grind
def XlD(hN:1000000<N){ps:List Wt}(hl:ps.length<=100000):QcX N ps=some ((ps.countP Vm:Nat):Int):=by rw[QcX,show(0:Int)=((0:Nat):Int)from rfl,XcQ N ps aa N 0 0 aa aa aa,Xa,WX,Ux]
def Kb(ps l:List Wt)(i:Nat):List Wt:=(ps.take i++l)++ps.drop (i+l.length)
def Vn{ps l:List Wt}{i:Nat}(h:i+l.length<=ps.length):(Kb ps l i).length=ps.length:=by unfold Kb;grind
def XeM(hl:Nat)(i k:Nat)(f r:Wt)(ps:List Wt)(hps:ps.length<=100000)(hik:i+k<=ps.length):∀(n m:Nat),m<=k->k-m<n ->
 QdR N (i:Int) (k:Int) f r n (m:Int) (Kb ps (List.replicate m r) i)=some (if((ps.drop (i+m)).take (k-m)).any Vm=true then .ret ([],20)else .nxt (Kb ps (List.replicate k r) i))
 |0,m,_,h=>by omega
 |n+1,m,hm,hn=>by
  rw[QdR];by_cases hlt:m<k;case neg=>
   obtain rfl:m=k:=aa
   simp
  have hg:(Kb ps (List.replicate m r) i)[i+m]? = some (ps[i+m]'aa):=by unfold Kb;rw[UZ (by grind),UF];simp only[WQ,Wj,WS];rw[show i+m+(i+m-(min i ps.length+m))=i+m by omega];exact Wb aa
  have hs:(Kb ps (List.replicate m r) i).set (i+m) r=Kb ps (List.replicate (m+1) r) i:=by unfold Kb;rw[IJ _ _ (by grind)];simp only[WQ,Wj,WS];rw[show i+m-(min i ps.length+m)=0 by omega,Wq (show i+m<ps.length by omega),Ic,List.replicate_succ',←UA (ps.take i),UA (ps.take i++List.replicate m r)];rfl
  have hw:wI ((i:Int)+(m:Int))=((i+m:Nat):Int):=by rw[Xd aa aa];omega
  rw[Wg aa,Wc,hw,Xe,hg,Xa,Xa,Xf aa,show(((i+m:Nat):Int)).toNat=i+m from rfl,hs];have hd:(ps.drop (i+m)).take (k-m)=ps[i+m]'aa::(ps.drop (i+(m+1))).take (k-(m+1)):=by rw[Wq (show i+m<ps.length by omega),show k-m=(k-(m+1))+1 by omega,List.take_succ_cons];rfl
  rw[hd,List.any_cons];cases hb:((ps[i+m]'aa).k != 0)with
  |true=>rw[Wc,show Vm (ps[i+m]'aa)=true from hb,Bool.true_or,Wp rfl]
  |false=>rw[Wa,show Vm (ps[i+m]'aa)=false from hb,U9];exact XeM hl i k f r ps hps hik n (m+1) aa aa
def Xjn{α:Type}(p:α->Bool)(l:List α):decide (((l.countP p:Nat):Int)>0)=l.any p:=by
 cases h:l.any p with
 |true=>simp_all
 |false=>simp_all
def XlE(hN:1000000<N){ps:List Wt}(hps:ps.length<=100000)(i:Int)(f r:Wt)(k:Nat)(hk:1<=k)(hk2:k<=1000):QgV N ps i (f::List.replicate (k-1) r)=Qdt N ps i (k:Int) f r:=by
 have hlen:(f::List.replicate (k-1) r).length=k:=by simp;omega
 rw[QgV,Qdt,hlen];by_cases h0:i<0
 .simp_all
 obtain⟨j,rfl⟩:∃j:Nat,i=(j:Int):=⟨i.toNat,aa⟩
 by_cases hfit:j+k<=ps.length;case neg=>
  by_cases h1:(j:Int)>=(ps.length:Int)
  .rw[Wg h1,Wc,Xd (n:=(ps.length:Int)-(k:Int)) aa aa,Wg (show(j:Int)>(ps.length:Int)-(k:Int) by omega),Wc]
  .rw[XX h1,Wa,Xd (n:=(ps.length:Int)-(k:Int)) aa aa,Xd (n:=(ps.length:Int)-(j:Int)) aa aa,Wg (show(j:Int)>(ps.length:Int)-(k:Int) by omega),Wc,Wg (show(k:Int)>(ps.length:Int)-(j:Int) by omega),Wc]
 rw[Xd (n:=(ps.length:Int)-(k:Int)) aa aa,Xd (n:=(ps.length:Int)-(j:Int)) aa aa,XX (show¬(j:Int)>(ps.length:Int)-(k:Int) by omega),Wa,XX (show¬(j:Int)>=(ps.length:Int) by omega),Wa,XX (show¬(k:Int)>(ps.length:Int)-(j:Int) by omega),Wa];have hw:wI ((j:Int)+(k:Int))=((j+k:Nat):Int):=by rw[Xd aa aa];omega
 rw[hw,Xc aa,Xc aa,show(((j+k:Nat):Int)).toNat=j+k from rfl,show(j:Int).toNat=j from rfl,show j+k-j=k by omega,Xjl,XlD hN (by grind),Xa,Xjn];have ht:=XeM (N:=N) 0 j k f r ps hps hfit N 0 aa aa;have hp0:Kb ps (List.replicate 0 r) j=ps:=by unfold Kb;simp
 rw[hp0,IA,Nat.sub_zero,show((0:Nat):Int)=0 from rfl]at ht;rw[ht,Xa];cases ((ps.drop j).take k).any Vm with
 |true=>rw[Wc,Wp rfl,Xy]
 |false=>
  rw[Wa,Wn ab,Xm,Qad,Xa,Xc aa,Xc aa];have hl2:(Kb ps (List.replicate k r) j).length=ps.length:=Vn (by simp_all);rw[Xe,Wb aa,Xa];unfold Kb;obtain⟨m,rfl⟩:∃m,k=m+1:=⟨k-1,aa⟩
  rw[WS,Ig,List.replicate_succ,List.set_append_left _ _ (by grind),IJ _ _ (by grind)];simp only[Wj];rw[show j-min j ps.length=0 by omega,Ic]
end
section
variable {N:Nat}
def Xjo{α:Type}(sp:Int)(x y:α):(bif (!decide (sp=0\/sp=1))then x else y)=(bif (decide (sp<0))then x else bif (decide (sp>1))then x else y):=by grind
def Xjp(hN:1000000<N){ps:List Wt}(hps:ps.length<=100000)(i sp:Int):Qeg N ps i sp=QbK N ps i sp:=by rw[Qeg,QbK,Z9,Xa,Xjo];have:=XlE hN hps i (Wt.mk 1 sp 0 0) (Wt.mk 0 0 0 0) 1 aa aa;simp_all
def Xha{v:Int}{k:Nat}(hk:k<=63)(h0:0<=v)(h1:v<2 ^ k):Xbr .u64 v (2 ^ k-1)=0:=by
 obtain⟨n,rfl⟩:=UB h0;have hn:n<2 ^ k:=by
  have h2:(2:Int) ^ k=((2 ^ k:Nat):Int):=by simp
  rw[h2]at h1;omega
 have hb:IntKind.u64.bits=64:=rfl;show IntKind.u64.wrap ((BitVec.ofInt IntKind.u64.bits n &&& ~~~ BitVec.ofInt IntKind.u64.bits (2 ^ k-1)).toNat:Int)=_;rw[hb];have hk2:(2:Int) ^ k-1=((2 ^ k-1:Nat):Int):=by
  have h1:=Nat.one_le_two_pow (n:=k);have h2:(2:Int) ^ k=((2 ^ k:Nat):Int):=by simp
  rw[h2];omega
 have e1:BitVec.ofInt 64 (n:Int)=BitVec.ofNat 64 n:=by simp
 have e2:BitVec.ofInt 64 ((2 ^ k-1:Nat):Int)=BitVec.ofNat 64 (2 ^ k-1):=by simp
 rw[hk2,e1,e2];have hz:BitVec.ofNat 64 n &&& ~~~ BitVec.ofNat 64 (2 ^ k-1)=0#64:=by
  apply BitVec.eq_of_getLsbD_eq;intro i hi;simp only[BitVec.getLsbD_and,BitVec.getLsbD_not,BitVec.getLsbD_ofNat,hi,decide_true,W3,BitVec.getLsbD_zero];by_cases hik:i<k
  .simp_all
  rw[Nat.testBit_lt_two_pow (IB hn (IM aa aa))];simp
 rw[hz];rfl
def XbH{a b:Int}{s:Nat}(hs:s<=63)(ha0:0<=a)(ha:a<2 ^ s)(hb0:0<=b)(hb:b*2 ^ s+a<=18446744073709551615):bOr .u64 a (b*2 ^ s)=a+b*2 ^ s:=by
 obtain⟨n,rfl⟩:=UB ha0;obtain⟨m,rfl⟩:=UB hb0;have h2:(2:Int) ^ s=((2 ^ s:Nat):Int):=by simp
 rw[h2]at ha hb⊢;have hm:(m:Int)*((2 ^ s:Nat):Int)=((m*2 ^ s:Nat):Int):=by simp
 have hb64:IntKind.u64.bits=64:=rfl;show IntKind.u64.wrap ((BitVec.ofInt IntKind.u64.bits n |||BitVec.ofInt IntKind.u64.bits ((m*2 ^ s:Nat):Int)).toNat:Int)=_;rw[hb64];have e1:BitVec.ofInt 64 (n:Int)=BitVec.ofNat 64 n:=by simp
 have e2:BitVec.ofInt 64 ((m*2 ^ s:Nat):Int)=BitVec.ofNat 64 (m*2 ^ s):=by rw[BitVec.ofInt_natCast]
 rw[e1,e2,BitVec.toNat_or,Ie,Ie,IR (show n<2 ^ 64 by omega),IR (show m*2 ^ s<2 ^ 64 by omega)];have:=Nat.shiftLeft_add_eq_or_of_lt (show n<2 ^ s by omega) m;rw[Nat.shiftLeft_eq]at this;rw[Nat.or_comm,←this];show wU _=_;rw[Xx aa aa];omega
end
section
variable {N:Nat}
def Xa1(hN:1000<N){w v:Int}(h0:0<=w)(h1:w<=63)(hv:0<=v)(hv2:v<2 ^ w.toNat):QdL N v w=some true:=by rw[QdL,Ja h0 aa hN,Xa,Xha aa hv hv2];rfl
def XlF(hN:1000000<N){k l m:Int}(k0:0<=k)(k1:k<4)(l0:0<=l)(l1:l<4096)(m0:0<=m)(m1:m<4294967296):
 Qgd N [(U2.mk 2 1),(U2.mk 2 k),(U2.mk 12 l),(U2.mk 32 m)]=some (1+k*4+l*16+m*65536,0):=by
 obtain⟨n,rfl⟩:∃n,N=n+5:=⟨N-5,aa⟩
 generalize hL:[(U2.mk 2 1),(U2.mk 2 k),(U2.mk 12 l),(U2.mk 32 m)]=L;have l3:L.length=4:=by rw[←hL];rfl
 have g0:Xb L 0=some (U2.mk 2 1):=by rw[←hL];unfold Xb;rfl
 have g1:Xb L 1=some (U2.mk 2 k):=by rw[←hL];unfold Xb;rfl
 have g2:Xb L 2=some (U2.mk 12 l):=by rw[←hL];unfold Xb;rfl
 have g3:Xb L 3=some (U2.mk 32 m):=by rw[←hL];unfold Xb;rfl
 have i1:wI (0+1)=1:=Xd aa aa;have i2:wI (1+1)=2:=Xd aa aa;have i3:wI (2+1)=3:=Xd aa aa;have i4:wI (3+1)=4:=Xd aa aa;have j1:wI (64-2)=62:=Xd aa aa;have j2:wI (62-2)=60:=Xd aa aa;have j3:wI (60-12)=48:=Xd aa aa;have j4:wI (48-32)=16:=Xd aa aa;have k2:wI (0+2)=2:=Xd aa aa;have k3:wI (2+2)=4:=Xd aa aa;have k4:wI (4+12)=16:=Xd aa aa;have k5:wI (16+32)=48:=Xd aa aa;have e1:Qbf (n+5) L (n+5) 64 0=some (.nxt ()):=by rw[Qbf,l3,g0];simp only[Xa,i1,j1];rw[Qbf,l3,g1];simp only[Xa,i2,j2];rw[Qbf,l3,g2];simp only[Xa,i3,j3];rw[Qbf,l3,g3];simp only[Xa,i4,j4];rw[Qbf,l3];rfl
 have f0:QdL (n+5) 1 2=some true:=Xa1 aa aa aa aa ae;have f1:QdL (n+5) k 2=some true:=Xa1 aa aa aa k0 (by show k<4;omega);have f2:QdL (n+5) l 12=some true:=Xa1 aa aa aa l0 (by show l<4096;omega);have f3:QdL (n+5) m 32=some true:=Xa1 aa aa aa m0 (by show m<4294967296;omega);have s0:ZW .u64 1 0=1:=by decide +kernel
 have s1:ZW .u64 k 2=k*2 ^ 2:=by show wU (k*4)=k*4;exact Xx aa aa
 have s2:ZW .u64 l 4=l*2 ^ 4:=by show wU (l*16)=l*16;exact Xx aa aa
 have s3:ZW .u64 m 16=m*2 ^ 16:=by show wU (m*65536)=m*65536;exact Xx aa aa
 have o0:bOr .u64 0 1=1:=by decide +kernel
 have o1:bOr .u64 1 (k*2 ^ 2)=1+k*2 ^ 2:=XbH aa aa ae k0 aa;have o2:bOr .u64 (1+k*2 ^ 2) (l*2 ^ 4)=1+k*2 ^ 2+l*2 ^ 4:=XbH aa aa aa l0 aa;have o3:bOr .u64 (1+k*2 ^ 2+l*2 ^ 4) (m*2 ^ 16)=1+k*2 ^ 2+l*2 ^ 4+m*2 ^ 16:=XbH aa aa aa m0 aa;have e2:Qbg (n+5) L (n+5) 0 0 0=some (.nxt (1+k*2 ^ 2+l*2 ^ 4+m*2 ^ 16)):=by rw[Qbg,l3,g0];simp only[Xa,f0,i1,k2,s0,o0];rw[Wg aa,Wc,Ws,Wa,Xc aa];rw[Qbg,l3,g1];simp only[Xa,f1,i2,k3,s1,o1];rw[Wg aa,Wc,Ws,Wa,Xc aa];rw[Qbg,l3,g2];simp only[Xa,f2,i3,k4,s2,o2];rw[Wg aa,Wc,Ws,Wa,Xc aa];rw[Qbg,l3,g3];simp only[Xa,f3,i4,k5,s3,o3];rw[Wg aa,Wc,Ws,Wa,Xc aa];rw[Qbg,l3];rw[Wh aa,Wa]
 simp[Qgd,e1,Xa,Xm,e2]
def Xhb{d:WD}(tm:tW d.Map)(h:XG d=true):0<=d.Map/\d.Map<4294967296:=by have⟨a,b⟩:=tm;omega
def Xn7(hN:1000000<N){d:WD}(tm:tW d.Map):QfR N d=Qcn N d:=by
 rw[QfR,JO aa,Kx,Xa];cases hv:XG d with
 |false=>rfl
 |true=>have hb:=XP hv;have hm:=Xhb tm hv;rw[Ws,Wa,Wp rfl,Xx (n:=d.k) aa aa,Xx (n:=d.n) aa aa,Xx (n:=d.Map) aa aa,XlF hN aa aa aa aa aa aa,Xa];congr 2;unfold JX;have s:∀x:Int,ZW .u64 x 16=wU (x*65536):=λ_=>rfl;simp only[s,Xb7];omega
def Xjq(hN:NB N){ws l:List Int}(hw:ws.length<=100000)(hl:l.length<=1000){a:Int}(ha:a<=18446744073709551615):QgH N ws a l=Qb7 N ws a l:=by
 rw[QgH,XaY aa ha,Zv (by unfold BIG;omega) (by unfold BIG;omega) (by unfold NB at hN;omega),Xbw (by unfold BIG;omega) N a _ aa,Xa];by_cases h1:4096<=a/\a<=4096+(ws.length:Int);case neg=>
  rw[Wn h1,Wn (by unfold Yp;omega)];rfl
 rw[Wp h1];by_cases h2:a+(l.length:Int)<=4096+(ws.length:Int);case neg=>rw[Wh h2,Ui,Wc,Wn (by unfold Yp;omega)]
 rw[Wg h2,Ws,Wa,Wp (by unfold Yp;omega),Qac,Xa,Xc aa,Xc aa];rfl
def Xs3{n:Nat}(e:Int):(List.replicate (n+1) (0:Int)).set 0 e=[e]++List.replicate n (0:Int):=by rfl
def XlG(hN:NB N){h:Wl}(hb:HB h){a:Int}(ha:a<=18446744073709551615){d:WD}(tm:tW d.Map):QfY N h a d=Qbm N h a d:=by
 have hN':1000000<N:=by unfold NB at hN;omega
 rw[QfY,Qbm,Xn7 hN' tm,Kx,Xa,Xa,YC hb.2 hN'];have⟨b,eb⟩:=Ka (N:=N) hN hb;cases hv:XG d with
 |false=>rw[Wn ab,eb,Xa,Xa];simp
 |true=>
  have hb':=XP hv;rw[Wp rfl,eb,Xa,Xa];cases b with
  |false=>rfl
  |true=>
  have hs:X0 d=d.n+1:=by unfold X0;rw[Wp hv]
  have⟨n,hn⟩:∃n:Nat,d.n=(n:Int):=⟨d.n.toNat,aa⟩
  have ht:(d.n+1).toNat=n+1:=aa;have ht2:d.n.toNat=n:=aa;rw[Ws,Wa,Wa,Zo aa,Xa,hs,Xc aa,ht,ht2,Xc aa,Xc aa];have hg:Xb (List.replicate (n+1) (0:Int)) 0=some 0:=by unfold Xb;simp
  rw[hg,Xa,Xs3,Xjq hN hb.1 (by grind) ha];have⟨w,ew⟩:∃w,Qb7 N h.w a ([JX d]++List.replicate n (0:Int))=some w:=⟨_,Zv (by unfold BIG;have:=hb.1;omega) (by unfold BIG;grind) (by grind) a⟩
  rw[ew,Xa,Xa,Qgt];cases (w.2 != 0)with
  |true=>simp[Wc,Xa]
  |false=>simp[Wa,Qad,Xa]
end
section
variable {N:Nat}
def Xn8{α:Type}(q:α->Bool)(l:List α)(j:Nat)(x:α)(h:∀y,l[j]? = some y->q y=q x):(l.set j x).all q=l.all q:=by
 by_cases hj:j<l.length
 .have e2:l=l.take j++l[j]::l.drop (j+1):=by rw[List.getElem_cons_drop,List.take_append_drop]
  grind
 rw[List.set_eq_of_length_le aa]
def Xdh{α:Type}(l:List α)(i k j:Nat)(x:α):((l.set j x).drop i).take k=if i<=j then((l.drop i).take k).set (j-i) x else(l.drop i).take k:=by
 by_cases h:i<=j
 .rw[Wp h,List.drop_set,Wn aa,List.take_set]
 rw[Wn h,List.drop_set,Wp aa]
def XlH{c:WU}{ps:List Wt}{j:Nat}(hj:j<ps.length){x:Wt}(hx:∀sp,Ya sp x=Ya sp ps[j])(hs:X9 c ps j x=X9 c ps j ps[j])(i:Nat)(hi:i<ps.length):
 X9 c (ps.set j x) i ((ps.set j x)[i]'(by simp_all))=X9 c ps i ps[i]:=by
 have hall:∀sp k,(((ps.set j x).drop (i+1)).take k).all (Ya sp)=((ps.drop (i+1)).take k).all (Ya sp):=by
  intro sp k;rw[Xdh];split
  .refine Xn8 _ _ _ _ λy hy=>?_;rw[Uk]at hy;split at hy
   .rw[UF,show i+1+(j-(i+1))=j by omega,Wb hj]at hy;cases hy;exact(hx sp).symm
   cases hy
  rfl
 have e:∀p,X9 c (ps.set j x) i p=X9 c ps i p:=by intro p;unfold X9;simp only[WR,hall]
 grind
def Xbj{h:Wl}(hl:h.p.length<=100000)(hN:1000000<N)(ps':List Wt)(hlen:ps'.length=h.p.length)(hsp:∀i(hi:i<h.p.length),X9 h.c ps' i (ps'[i]'aa)=X9 h.c h.p i h.p[i])(ws:List Int)(b:Int):∀(n i:Nat),i<=h.p.length->Qae N ⟨h.c,ws,ps',h.s,b⟩ n (i:Int)=Qae N h n (i:Int)
 |0,i,_=>by rfl
 |n+1,i,hi=>by
  rw[Qae,Qae];dsimp only;rw[hlen];by_cases hlt:i<h.p.length;case neg=>grind
  rw[Wg (show(i:Int)<_ by omega),Wc,Wc,Kh aa hN aa,Kh hl hN hlt,hsp i hlt,Xa,Xa];have hs:=XcH (c:=h.c) hlt (p:=h.p[i]);generalize X9 h.c h.p i h.p[i]=s at *;by_cases h0:s=0
  .simp_all
  rw[show((s:Int)==0)=false by simp_all,Wa,Wa,Xd aa aa,show(i:Int)+(s:Int)=((i+s:Nat):Int) by omega];exact Xbj hl hN ps' hlen hsp ws b n (i+s) aa
structure Ox(h:Wl):Prop where
 conf:X5 h.c=true
 words:(h.w.length:Int)=h.c.p*h.c.W
 pages:(h.p.length:Int)=h.c.p
 space:0<=h.s/\h.s<=1
 bump:h.b = -1\/(0<=h.b/\h.b<h.p.length/\(pg h.p h.b).k=1)
def Ut.pre{h:Wl}(hp:Ut h):Ox h:=⟨hp.conf,hp.words,hp.pages,hp.space,hp.bump⟩
def KY{h:Wl}(hp:Ox h):QbQ N h=bnd (Qae N h N 0) λe=>exK e (λr=>some r) λ_=>some true:=by
 have hv:=Xl.1 hp.conf;have hm:=XZ hp.conf (i:=0) aa aa;have hw:=hp.words;have hpg:=hp.pages;have e1:((h.w.length:Int) != wI (h.c.W*h.c.p))=false:=by rw[Int.mul_comm,Xd aa aa];simpa using hw
 have e2:((h.p.length:Int) != h.c.p)=false:=by simpa using hpg
 have e3:∀{α:Type}(x y z:α),(bif h.s != 0 then(bif h.s != 1 then x else y)else y)=y:=by
  intro α x y z;by_cases s0:h.s=0
  .simp_all
  have s1:h.s=1:=by have:=hp.space;omega
  simp_all
 rw[QbQ];simp only[XE,KN,Xa,hp.conf,Ws,Wa,e1,e2];rw[e3 _ _ (some true)];rcases hp.bump with hb|⟨b0,b1,b2⟩
 .simp_all
 rw[show(h.b != -1)=true by grind,Wc,XX (show¬h.b<0 by omega),Wa,XX (show¬h.b>=(h.p.length:Int) by omega),Wa,XH b0 b1,Xa,b2];rfl
def Xbk{h:Wl}(hN:NB N)(hb:HB h)(ep:Qab N h=some true){ps':List Wt}(hlen:ps'.length=h.p.length)(hsp:∀i(hi:i<h.p.length),X9 h.c ps' i (ps'[i]'aa)=X9 h.c h.p i h.p[i]){ws:List Int}(hw:ws.length=h.w.length){b:Int}(hbump:b = -1\/(0<=b/\b<ps'.length/\(pg ps' b).k=1)):Qab N ⟨h.c,ws,ps',h.s,b⟩=some true:=by
 have hN':1000000<N:=by unfold NB at hN;omega
 have hp:=Yn hN hb ep;rw[←YC (by rw[hlen];exact hb.2) hN',KY (h:=⟨h.c,ws,ps',h.s,b⟩) ⟨hp.conf,by rw[hw];exact hp.words,by rw[hlen];exact hp.pages,hp.space,hbump⟩];have:=Xbj hb.2 hN' ps' hlen hsp ws b N 0 aa;rw[show((0:Nat):Int)=0 from rfl]at this;rw[this,←KY hp.pre,YC hb.2 hN',ep]
end
section
variable {N:Nat}
def Xjr(hN:NB N){h:Wl}(hb:HB h)(ep:Qab N h=some true){d:WD}(hv:XG d=true){a:Int}(ha:Yp h.w a (d.n.toNat+1)):∃h2,Qbm N h a d=some (h2,0):=by
 have hb':=XP hv;have⟨n,hn⟩:∃n:Nat,d.n=(n:Int):=⟨d.n.toNat,aa⟩
 have ht2:d.n.toNat=n:=aa;rw[ht2]at ha;rw[Qbm,Kx,Wp hv,ep,Xa,Xa,Ws,Wa];rw[show((0:Int) != 0)=false from rfl,Wa,Xc aa,ht2,Xc aa,Zv (by unfold BIG;have:=hb.1;omega) (by unfold BIG;simp;omega) (by simp;unfold NB at hN;omega),Wp (by simpa using ha),Xa];simp
def Xif(hN:1000000<N){ps:List Wt}(hps:ps.length<=100000){i:Int}(f r:Wt)(k:Nat)(hk:1<=k)(hk2:k<=1000)(hr:RunOK ps i (k:Int)):Qdt N ps i (k:Int) f r=some (Kb ps (f::List.replicate (k-1) r) i.toNat,0):=by
 have⟨h0,_,h2,h3⟩:=hr;obtain⟨j,rfl⟩:∃j:Nat,i=(j:Int):=⟨i.toNat,aa⟩
 have hfree:((ps.drop j).take k).any Vm=false:=by
  rw[List.any_eq_false];intro p hp hb;obtain⟨m,hm,rfl⟩:=WM hp;rw[Wj,Wk]at hm;rw[U6,Iq]at hb;have:=h3 (m:Int) aa aa;have e:pg ps ((j:Int)+(m:Int))=ps[j+m]'aa:=by unfold pg;rw[show((j:Int)+(m:Int)).toNat=j+m by omega,Wo,Wb aa];rfl
  rw[e]at this;unfold Vm at hb;rw[this]at hb;cases hb
 have ht:=XeM (N:=N) 0 j k f r ps hps aa N 0 aa aa;have hp0:Kb ps (List.replicate 0 r) j=ps:=by unfold Kb;simp
 rw[hp0,IA,Nat.sub_zero,show((0:Nat):Int)=0 from rfl,hfree,Wn ab]at ht;rw[Qdt,XX (show¬(j:Int)<0 by omega),Wa,XX (show¬(j:Int)>=(ps.length:Int) by omega),Wa,Xd (n:=(ps.length:Int)-(j:Int)) aa aa,XX (show¬(k:Int)>(ps.length:Int)-(j:Int) by omega),Wa,Xc aa,ht,Xa,Xm];have hl2:(Kb ps (List.replicate k r) j).length=ps.length:=Vn (by grind);rw[Xe,Wb aa,Xa,show(j:Int).toNat=j from rfl];unfold Kb;obtain⟨m,rfl⟩:∃m,k=m+1:=⟨k-1,aa⟩
 rw[WS,Ig,Uo,WS,List.replicate_succ,List.set_append_left _ _ (by grind),IJ _ _ (by grind)];simp only[Wj];rw[show j-min j ps.length=0 by omega,Ic]
end
section
variable {N:Nat}
def XdW{c:WU}{ps:List Wt}{j:Nat}{p:Wt}(hk:p.k=1)(hs:0<=p.s/\p.s<=1)(hp:0<=p.P/\p.P<=2147483647)(hu:0<=p.u/\p.u<=c.W):X9 c ps j p=1:=by unfold X9;grind
def Xhc{c:WU}{ps:List Wt}{j:Nat}:X9 c ps j KW=1:=rfl
def Xaz{ps:List Wt}{j:Nat}(hj:j<ps.length):pg ps (j:Int)=ps[j]:=by unfold pg;simp_all
def Xga(hN:NB N){h:Wl}(hb:HB h)(ep:Qab N h=some true){j:Nat}(hj:j<h.p.length){x:Wt}(hk:x.k=1)(hs:0<=x.s/\x.s<=1)(hpn:0<=x.P/\x.P<=2147483647)(hu:0<=x.u/\x.u<=h.c.W)(ho:h.p[j].k=0\/h.p[j].k=1){b:Int}(hbump:b=(j:Int)):Qab N ⟨h.c,h.w,h.p.set j x,h.s,b⟩=some true:=by
 have hp:=Yn hN hb ep;have hpg:=hp.pgs (j:Int) aa aa;have e1:X9 h.c h.p j h.p[j]=1:=by
  rcases ho with ho|ho
  .have:=hpg.free (by simp_all[Xaz,hj]);rw[Xaz hj]at this;rw[this];rfl
  have a:=hpg.space;have b:=hpg.pins;have c:=hpg.small (by simp_all[Xaz,hj]);rw[Xaz hj]at a b c;exact XdW ho a b c
 have nc:∀(p:Wt)(sp:Int),p.k=0\/p.k=1->Ya sp p=false:=by intro p sp h;unfold Ya ZT;rw[show(p.k==3)=false by grind];rfl
 refine Xbk hN hb ep ab (λi hi=>XlH hj (λsp=>by simp_all) ?_ i hi) rfl (.inr ⟨aa,by simp_all,?_⟩)
 .rw[e1];exact XdW hk hs hpn hu
 unfold pg;simp_all
def XlI(N:Nat)(h:Wl)(n u:Int)(first:Int):Option (Nat×Int):=
 if 0<=h.b/\u<=Xcd h.c/\(pg h.p h.b).s=h.s/\(pg h.p h.b).u+n<=h.c.W then some (h.b.toNat,(pg h.p h.b).u)
 else if 0<=first/\u<Xcd h.c then some (first.toNat,0)else none
def XaA(h:Wl)(n:Int)(j:Nat)(at_:Int):Wl:=⟨h.c,h.w,h.p.set j ⟨1,h.s,at_+n,(pg h.p (j:Int)).P⟩,h.s,(j:Int)⟩
def Xjs(hN:NB N){h:Wl}(hb:HB h)(hp:Ut h){n u f:Int}(hn:0<=n/\n<=300)(eu:QcX N h.p=some u)(ef:Qby N h.p 1=some f):
 Qej N h n=some (match XlI N h n u f with|some (j,a)=>(XaA h n j a,Xg h.c (j:Int) a,true)|none=>(zHp,0,false)):=by
 have hN':1000000<N:=by unfold NB at hN;omega
 have hpl:=hb.2;have hpages:=hp.pages;have hcv:=Xl.1 hp.conf;have fresh:(bif decide (f<0)then some (zHp,(0:Int),false)else bif decide (u>=Xcd h.c)then some (zHp,0,false)else bnd (QbK N h.p f h.s) λy6=>bnd (Xb y6.1 f) λp11=>bnd (Xb y6.1 f) λp12=>bnd (Xb y6.1 f) λp13=>some ((Wl.mk h.c h.w (y6.1.set f.toNat (Wt.mk p13.k p13.s (wI (p12.u+n)) p13.P)) h.s f),(wU (wI ((wI (4096+(wI (f*h.c.W))))+p11.u))),true))=some (match (if 0<=f/\u<Xcd h.c then some (f.toNat,(0:Int))else none)with|some (j,a)=>(XaA h n j a,Xg h.c (j:Int) a,true)|none=>(zHp,0,false)):=by
  by_cases h1:f<0
  .grind
  by_cases h2:u>=Xcd h.c
  .grind
  rw[XX h1,Wa,XX h2,Wa,Wp aa]
  have hrun:RunOK h.p f 1:=by
   rcases(Kg (N:=N) (ps:=h.p) 1 aa aa).get_eq ef with hh|hh
   .omega
   .omega
  obtain⟨j,rfl⟩:∃j:Nat,f=(j:Int):=⟨f.toNat,aa⟩
  have hj:j<h.p.length:=by have:=hrun.2.2.1;omega
  have hsp:=hp.space
  have hm:=XZ hp.conf (i:=(j:Int)) aa aa
  have et:=Xif hN' hpl (Wt.mk 1 h.s 0 0) (Wt.mk 0 0 0 0) 1 aa aa hrun
  have et':Qdt N h.p (j:Int) 1 (Wt.mk 1 h.s 0 0) (Wt.mk 0 0 0 0)=_:=et
  have hput:Kb h.p (Wt.mk 1 h.s 0 0::List.replicate (1-1) (Wt.mk 0 0 0 0)) j=h.p.set j (Wt.mk 1 h.s 0 0):=by
   unfold Kb
   rw[List.set_eq_take_append_cons_drop,Wp hj];simp
  rw[QbK,XX (show¬h.s<0 by omega),Wa,XX (show¬h.s>1 by omega),Wa,et',show(j:Int).toNat=j from rfl,hput,Xa,Xa]
  have hg:Xb (h.p.set j (Wt.mk 1 h.s 0 0)) (j:Int)=some (Wt.mk 1 h.s 0 0):=by
   rw[Xe,List.getElem?_set_self hj]
  dsimp only
  have hz:(pg h.p (j:Int)).P=0:=by
   have:=(hp.pgs (j:Int) aa aa).free (by have:=hrun.2.2.2 0 aa aa;assumption)
   rw[this];rfl
  simp only[hg,Xa]
  unfold XaA Xg
  rw[List.set_set,hz,Xd (n:=0+n) aa aa,Xd (n:=(j:Int)*h.c.W) aa aa,Xd (n:=4096+(j:Int)*h.c.W) aa aa,Xd (n:=4096+(j:Int)*h.c.W+0) aa aa,Xx aa aa]
 rw[Qej,Xc aa,Xep,Xa,eu,Xa,XE,ef];simp only[Xa];unfold XlI;by_cases b0:h.b<0
 .grind
 have hbump:0<=h.b/\h.b<h.p.length/\(pg h.p h.b).k=1:=by
  rcases hp.bump with hh|hh
  .omega
  omega
 have hpg:=hp.pgs h.b hbump.1 hbump.2.1;have hus:=hpg.small hbump.2.2;have hm:=XZ hp.conf (i:=h.b) aa aa;rw[XX b0,Wa,XH hbump.1 hbump.2.1];simp only[Xa];rw[Xd (n:=(pg h.p h.b).u+n) aa aa];by_cases b1:(pg h.p h.b).s=h.s;case neg=>grind
 rw[show((pg h.p h.b).s != h.s)=false by simp_all,Wa];by_cases b2:(pg h.p h.b).u+n>h.c.W
 .grind
 by_cases b3:u>Xcd h.c
 .grind
 rw[XX b2,Wa,XX b3,Wa,Wp (c:=0<=h.b/\u<=Xcd h.c/\_) aa];dsimp only;unfold XaA Xg;have hbn:(h.b.toNat:Int)=h.b:=aa;rw[hbn,hbump.2.2,b1,Xd (n:=h.b*h.c.W) aa aa,Xd (n:=4096+h.b*h.c.W) aa aa,Xd (n:=4096+h.b*h.c.W+(pg h.p h.b).u) aa aa,Xx aa aa]
end
section
variable {N:Nat}
def XpX(hN:NB N){h:Wl}(hb:HB h)(ep:Qab N h=some true){n u f:Int}(hn:1<=n/\n<=h.c.W)(ef:Qby N h.p 1=some f){j:Nat}{a:Int}(hpl:XlI N h n u f=some (j,a)):j<h.p.length/\0<=a/\a+n<=h.c.W/\Qab N (XaA h n j a)=some true:=by
 have hp:=Yn hN hb ep;have hl:=hb.2;have hsp:=hp.space;unfold XlI at hpl;split at hpl
 .cases hpl;have hbump:0<=h.b/\h.b<h.p.length/\(pg h.p h.b).k=1:=by
   rcases hp.bump with hh|hh
   .omega
   exact hh
  have hpg:=hp.pgs h.b hbump.1 hbump.2.1;have hus:=hpg.small hbump.2.2;have hbn:(h.b.toNat:Int)=h.b:=aa;have hj:h.b.toNat<h.p.length:=aa;refine⟨hj,hus.1,aa,?_⟩;unfold XaA;rw[hbn];refine Xga (x:=⟨1,h.s,(pg h.p h.b).u+n,(pg h.p h.b).P⟩) hN hb ep hj rfl hsp hpg.pins (by show 0<=(pg h.p h.b).u+n/\_;exact⟨aa,by show(pg h.p h.b).u+n<=_;omega⟩) (.inr ?_) hbn.symm;rw[←Xaz hj,hbn];omega
 split at hpl
 .cases hpl;have hrun:RunOK h.p f 1:=by
   rcases(Kg (N:=N) (ps:=h.p) 1 aa (by unfold NB at hN;omega)).get_eq ef with hh|hh
   .omega
   exact hh
  have h3:=hrun.2.2.1;have hfn:(f.toNat:Int)=f:=aa;have hj:f.toNat<h.p.length:=aa;have hk0:(pg h.p f).k=0:=by have:=hrun.2.2.2 0 aa aa;simpa using this
  refine⟨hj,aa,aa,?_⟩;unfold XaA;have hpg:=hp.pgs f aa aa;rw[hfn];refine Xga (x:=⟨1,h.s,0+n,(pg h.p f).P⟩) hN hb ep hj rfl hsp hpg.pins (by show 0<=0+n/\_;exact⟨aa,by show 0+n<=_;omega⟩) (.inl ?_) hfn.symm;rw[←Xaz hj,hfn];exact hk0
 simp_all
end
section
variable {N:Nat}
def XlJ(hN:1000000<N)(c:WU)(d:WD):Qc3 N c d=some (XG d&&(d.k != 0&&XF c (X0 d) != -1)):=by rw[Qc3,Zl,Xa,Yh];simp only[Xa,Kz (show 10<=N by omega)];grind
def XlK{h:Wl}(hb:HB h)(n:Int)(j:Nat)(a:Int):HB (XaA h n j a):=⟨hb.1,by show(h.p.set j _).length<=_;rw[WR];exact hb.2⟩
end
section
variable {N:Nat}
def XlL{ps l:List Wt}{j:Nat}(h:j+l.length<=ps.length)(i:Nat):(Kb ps l j)[i]? = if i<j then ps[i]? else if i<j+l.length then l[i-j]? else ps[i]?:=by unfold Kb;grind
def Xjt{α:Type}(q:α->Bool){l l':List α}(hlen:l.length=l'.length)(h:(∀i:Nat,l[i]? = l'[i]?)\/∃(i:Nat) (x y:α),l[i]? = some x/\l'[i]? = some y/\q x=false/\q y=false):l.all q=l'.all q:=by
 rcases h with h|⟨i,x,y,h1,h2,h3,h4⟩
 .rw[List.ext_getElem? h]
 grind
def XlM{c:WU}{ps:List Wt}{i:Nat}{p:Wt}{s:Nat}(h:X9 c ps i p=s)(h2:2<=s):((ps.drop (i+1)).take (s-1)).all (Ya p.s)=true/\s<=ps.length-i:=by unfold X9 at h;grind
def XlN{c:WU}{ps ps':List Wt}(hlen:ps'.length=ps.length){i:Nat}(hd:∀m sp,((ps'.drop (i+1)).take m).all (Ya sp)=((ps.drop (i+1)).take m).all (Ya sp))(p:Wt):X9 c ps' i p=X9 c ps i p:=by unfold X9;simp_all
def XcR{h:Wl}(hl:h.p.length<=100000)(hN:1000000<N):∀(k n j:Nat),j+k<=h.p.length->(∀m,m<k->∀(hm:j+m<h.p.length),h.p[j+m]=KW)->Qae N h (n+k) (j:Int)=Qae N h n ((j+k:Nat):Int)
 |0,n,j,_,_=>rfl
 |k+1,n,j,hj,hz=>by rw[show n+(k+1)=(n+k)+1 from rfl,Qae,Wg aa,Wc,Kh hl hN (show j<h.p.length by omega),Xa];have:=hz 0 aa aa;simp at this;rw[this,Xhc,show((((1:Nat)):Int)==0)=false from rfl,Wa,show((1:Nat):Int)=1 from rfl,Xf aa,XcR hl hN k n (j+1) aa (λm hm hlt=>by have:=hz (m+1) aa aa;simpa only[show j+(m+1)=j+1+m by omega]using this)];grind
def Xhd(hN:NB N){h:Wl}(hb:HB h)(ep:Qab N h=some true){j k:Nat}(hk:1<=k)(hr:RunOK h.p (j:Int) (k:Int)){w:Int}(hw:XF h.c w=(k:Int)):Qab N ⟨h.c,h.w,Kb h.p (Wt.mk 2 h.s w 0::List.replicate (k-1) (Wt.mk 3 h.s 0 0)) j,h.s,h.b⟩=some true:=by
 have hN':1000000<N:=by unfold NB at hN;omega
 have hp:=Yn hN hb ep;have hl:=hb.2;have hsp:=hp.space;have⟨_,_,hfit,hfree⟩:=hr;generalize hL:(Wt.mk 2 h.s w 0::List.replicate (k-1) (Wt.mk 3 h.s 0 0))=L;have hLl:L.length=k:=by rw[←hL];simp;omega
 have hjk:j+L.length<=h.p.length:=aa;have hlen:(Kb h.p L j).length=h.p.length:=Vn hjk;have hz:∀m,m<k->∀(hm:j+m<h.p.length),h.p[j+m]=KW:=by intro m hm hlt;have:=(hp.pgs ((j:Int)+m) aa aa).free (hfree m aa aa);rw[show(j:Int)+(m:Int)=((j+m:Nat):Int) by omega,Xaz hlt]at this;exact this
 generalize hq:Kb h.p L j=ps' at *;have hget:∀i,ps'[i]? = if i<j then h.p[i]? else if i<j+k then L[i-j]? else h.p[i]?:=by intro i;rw[←hq,XlL hjk,hLl]
 have hout:∀i(hi:i<h.p.length),(i<j\/j+k<=i)->ps'[i]'aa=h.p[i]:=by
  intro i hi ho;have a:=hget i;rw[Wb aa,Wb hi]at a;rcases ho with ho|ho
  .simp_all
  grind
 have hall:∀i,(i<j\/j+k<=i)->∀m sp,((ps'.drop (i+1)).take m).all (Ya sp)=((h.p.drop (i+1)).take m).all (Ya sp):=by
  intro i ho m sp;refine Xjt _ (by simp_all) ?_;by_cases hcov:i<j/\j<i+1+m
  .right;refine⟨j-(i+1),Wt.mk 2 h.s w 0,KW,?_,?_,rfl,rfl⟩
   .rw[Uk,Wp aa,UF,show i+1+(j-(i+1))=j by omega,hget,Wn aa,Wp aa,IW,←hL];rfl
   grind
  grind
 have main:∀(m i n n':Nat),h.p.length-i<=m->i<=h.p.length->(i<=j\/j+k<=i)->h.p.length-i+200<n->h.p.length-i+200<n'->Qae N ⟨h.c,h.w,ps',h.s,h.b⟩ n (i:Int)=Qae N h n' (i:Int):=by
  intro m;induction m with
  |zero=>
   intro i n n' h1 h2 h3 h4 h5;obtain⟨n,rfl⟩:∃q,n=q+1:=⟨n-1,aa⟩
   obtain⟨n',rfl⟩:∃q,n'=q+1:=⟨n'-1,aa⟩
   rw[Qae,Qae];grind
  |succ m ih=>
   intro i n n' h1 h2 h3 h4 h5;by_cases hlt:i<h.p.length;case neg=>
    grind
   by_cases hij:i=j
   .subst hij;obtain⟨n,rfl⟩:∃q,n=q+1:=⟨n-1,aa⟩
    obtain⟨n',rfl⟩:∃q,n'=q+k:=⟨n'-k,aa⟩
    rw[XcR hl hN' k n' i aa hz,Qae];dsimp only;have hx:ps'[i]'aa=Wt.mk 2 h.s w 0:=by have a:=hget i;rw[Wb aa,Wn aa,Wp aa,IW,←hL]at a;exact WK a
    have htl:((ps'.drop (i+1)).take (k-1)).all (Ya h.s)=true:=by
     rw[Ud];intro y hy;obtain⟨q,hq',rfl⟩:=WM hy;rw[Wj,Wk]at hq';have a:=hget (i+1+q);have hLq:L[i+1+q-i]? = some (Wt.mk 3 h.s 0 0):=by rw[←hL,show i+1+q-i=q+1 by omega,List.getElem?_cons_succ,List.getElem?_replicate,Wp aa]
     rw[Wb aa,Wn aa,Wp aa,hLq]at a;rw[U6,Iq,WK a];simp[Ya,ZT]
    have hsn:X9 h.c ps' i (ps'[i]'aa)=k:=by rw[hx];unfold X9;have hk2:(XF h.c w).toNat=k:=aa;rw[Wn (show¬(2:Int)=0 by omega),Wp (by grind),Wn (show¬(2:Int)=1 by omega),Wp rfl];dsimp only;rw[hk2,Wp ⟨aa,aa,htl⟩]
    rw[Wg aa,Wc,Kh aa hN' aa,hsn,Xa,show((k:Int)==0)=false by grind,Wa,Xd aa aa,show(i:Int)+(k:Int)=((i+k:Nat):Int) by omega];exact ih (i+k) n n' aa aa (.inr aa) aa aa
   have ho:i<j\/j+k<=i:=aa;obtain⟨n,rfl⟩:∃q,n=q+1:=⟨n-1,aa⟩
   obtain⟨n',rfl⟩:∃q,n'=q+1:=⟨n'-1,aa⟩
   rw[Qae,Qae];dsimp only;rw[hlen,Wg aa,Wc,Wc,Kh aa hN' aa,Kh hl hN' hlt,hout i hlt ho,XlN hlen (hall i ho),Xa,Xa];have hbig:=XlM (c:=h.c) (ps:=h.p) (i:=i) (p:=h.p[i]) rfl;generalize X9 h.c h.p i h.p[i]=s at *;by_cases h0:s=0
   .simp_all
   rw[show((s:Int)==0)=false by simpa using h0,Wa,Wa,Xd aa aa,show(i:Int)+(s:Int)=((i+s:Nat):Int) by omega];refine ih (i+s) n n' aa aa ?_ aa aa;rcases ho with ho|ho
   .left;by_cases hs2:2<=s
    .have⟨ha,_⟩:=hbig hs2;by_cases hle:i+s<=j
     .exact hle
     rw[Ud]at ha;have hm:KW∈(h.p.drop (i+1)).take (s-1):=by refine Uh (i:=j-(i+1)) ?_;rw[Uk,Wp aa,UF,show i+1+(j-(i+1))=j by omega,Wb aa];have:=hz 0 aa aa;simp only[IA]at this;rw[this]
     have:=ha _ hm;cases this
    omega
   omega
 have hbump:h.b = -1\/(0<=h.b/\h.b<ps'.length/\(pg ps' h.b).k=1):=by
  rcases hp.bump with hh|⟨b0,b1,b2⟩
  .omega
  have⟨q,hq2⟩:∃q:Nat,h.b=(q:Int):=⟨h.b.toNat,aa⟩
  rw[hq2]at b1 b2⊢;have hqi:q<h.p.length:=aa;rw[Xaz hqi]at b2;by_cases hin:q<j\/j+k<=q
  .rw[Xaz aa,hout q hqi hin];omega
  have:=hz (q-j) aa aa;simp only[show j+(q-j)=q by omega]at this;rw[this]at b2;cases b2
 rw[←YC (by simp_all) hN',KY (h:=⟨h.c,h.w,ps',h.s,h.b⟩) ⟨hp.conf,hp.words,by rw[hlen];exact hp.pages,hp.space,hbump⟩];have:=main h.p.length 0 N N aa aa (.inl aa) aa aa;rw[show((0:Nat):Int)=0 from rfl]at this;rw[this,←KY hp.pre,YC hl hN',ep]
end
section
variable {N:Nat}
def Xhe(h:Wl)(n:Int)(j k:Nat):Wl:=⟨h.c,h.w,Kb h.p (Wt.mk 2 h.s n 0::List.replicate (k-1) (Wt.mk 3 h.s 0 0)) j,h.s,h.b⟩
def XlO(hN:1000000<N){h:Wl}(hl:h.p.length<=100000)(hp:Ut h){n:Int}{j k:Nat}(hk:1<=k)(hk4:k<=4)(hw:XF h.c n=(k:Int))(hr:RunOK h.p (j:Int) (k:Int)):Qe2 N h.c h.p (j:Int) h.s n=some ((Xhe h n j k).p,0):=by have hsp:=hp.space;rw[Qe2,Kz aa,Xa,hw,XX (show¬(k:Int)<1 by omega),Wa,XX (show¬h.s<0 by omega),Wa,XX (show¬h.s>1 by omega),Wa,Xif hN hl _ _ k hk aa hr,Xa];rfl
def XlP{h:Wl}(hb:HB h)(n:Int){j k:Nat}(hk:1<=k)(hj:j+k<=h.p.length):HB (Xhe h n j k):=⟨hb.1,by
 show(Kb h.p _ j).length<=_
 rw[Vn (by simp_all)];exact hb.2⟩
end
def GR{β:Type}(N:Nat)(c:WU)(sp n:Int)(ps:List Wt)(tk:List Int)(j4:Int->Int->Int->List Wt->List Int->Option β):Option β:=
 grd (tk.length<=140737488355328) <|
 jn (λ(_:Unit)=>
  bnd (QdA N ps 1) λy5=>
  bif (decide (y5<0))then j4 0 0 3 ps tk
  else bnd (Qeg N ps y5 (wI (1-sp))) λy6=>
  bif (y6.2 != 0)then none
  else grd ((tk.length+1)*8<=140737488355328) <|
  j4 y5 0 0 y6.1 (tk++[y5])) λj1=>
 bif (decide ((tk.length:Int)>0))then(bnd (Xb tk (wI ((tk.length:Int)-1))) λp1=>
  bif (decide (p1>=0))then(bnd (Xb tk (wI ((tk.length:Int)-1))) λp2=>
   grd (ps.length<=140737488355328) <|
   bif (decide (p2<(ps.length:Int)))then(bnd (Xb tk (wI ((tk.length:Int)-1))) λp3=>
    bnd (Xb ps p3) λp4=>
    bif (decide (n<=(wI (c.W-p4.u))))then j4 p3 p4.u 0 ps tk
    else j1 ())
   else j1 ())
  else j1 ())
 else j1 ()
def FT{β:Type}(N:Nat)(c:WU)(cp:Int)(ws:List Int)(ps:List Wt)(q:List Int)(xo xe:Int)(j1:Int->Int->Int->List Int->List Wt->List Int->Option β)(i u:Int):Option β:=
 bnd (Qc6 N c i u) λy24=>
 bif (y24.2 != 0)then j1 0 y24.2 cp ws ps q
 else grd ((xe.toNat-xo.toNat)<=140737488355328) <|
 bnd (Qcd N c y24.1) λy25=>
 bif (y25.2.2 != 0)then(bnd (QbS N y24.1) λy28=>
  j1 0 19 cp ws ps q)
 else grd (ws.length<=140737488355328) <|
 bif (decide ((((xe.toNat-xo.toNat):Nat):Int)>(wI ((ws.length:Int)-(wI ((wI (y25.1*c.W))+y25.2.1))))))then(bnd (QbS N y24.1) λy29=>
  j1 0 19 cp ws ps q)
 else grd (0<=(wI ((wI (y25.1*c.W))+y25.2.1))/\(wI ((wI (y25.1*c.W))+y25.2.1))<=(wI ((wI ((wI (y25.1*c.W))+y25.2.1))+(((xe.toNat-xo.toNat):Nat):Int)))/\(wI ((wI ((wI (y25.1*c.W))+y25.2.1))+(((xe.toNat-xo.toNat):Nat):Int)))<=(ws.length:Int)) <|
 bnd (QbS N y24.1) λy30=>
 bif (y30.2 != 0)then j1 0 19 cp ws ps q
 else grd ((xe.toNat-xo.toNat)<=((wI ((wI ((wI (y25.1*c.W))+y25.2.1))+(((xe.toNat-xo.toNat):Nat):Int))).toNat-(wI ((wI (y25.1*c.W))+y25.2.1)).toNat)) <|
 bnd (Kl (((ws.take (wI ((wI (y25.1*c.W))+y25.2.1)).toNat)++((ws.drop xo.toNat).take (xe.toNat-xo.toNat)))++(ws.drop ((wI ((wI (y25.1*c.W))+y25.2.1)).toNat+(xe.toNat-xo.toNat)))) (xo.toNat) (xe.toNat-xo.toNat) 0) λp31=>
 bnd (Xb ps i) λp32=>
 grd ((xe.toNat-xo.toNat)<=140737488355328) <|
 bnd (Xb ps i) λp33=>
 grd ((q.length+1)*8<=140737488355328) <|
 j1 y24.1 0 (wI (cp+1)) ((((ws.take (wI ((wI (y25.1*c.W))+y25.2.1)).toNat)++((ws.drop xo.toNat).take (xe.toNat-xo.toNat)))++(ws.drop ((wI ((wI (y25.1*c.W))+y25.2.1)).toNat+(xe.toNat-xo.toNat)))).set xo.toNat y30.1) (ps.set i.toNat (Wt.mk p33.k p33.s (wI (p32.u+(((xe.toNat-xo.toNat):Nat):Int))) p33.P)) (q++[y24.1])
section
variable {N:Nat}
def Vo(l:List Int)(x:Int)(hl:l.length<=1000000)(hN:1000000<N):Qah N l x=some (l.contains x):=by
 rw[Qah,QbG];rw[Jg (p:=λy:Int=>(x==y)) hl hN (λn j y e=>by
  have hk:=XA e
  rw[Qax,Xk hk,Wc,Xe,e,Xa,Xf aa]) (λn=>by rw[Qax,Xw,Wa])]
 rw[Xa,Z8,List.contains_eq_any_beq]
def Xju(l:List Int)(x:Int)(hl:l.length<=1000000)(hN:1000000<N):Qa7 N l x=some (l.contains x):=by
 rw[Qa7,Qef];rw[Jg (p:=λy:Int=>(x==y)) hl hN (λn j y e=>by
  have hk:=XA e
  rw[QbA,Xk hk,Wc,Xe,e,Xa,Xf aa]) (λn=>by rw[QbA,Xw,Wa])]
 rw[Xa,Z8,List.contains_eq_any_beq]
def Xjv(w:WC)(i:Int)(hl:w.t.length<=1000000)(hN:1000000<N):QgD N w i=some (w.t.contains i):=by
 have h:∀(n k:Nat),k<=w.t.length->w.t.length-k<n->QcQ N w i n (k:Int)=some (bif (w.t.drop k).contains i then .ret true else .nxt ()):=by
  intro n;induction n with
  |zero=>omega
  |succ n ih=>
   intro k hk hn;by_cases h:k<w.t.length
   .rw[QcQ,Xk h,Wc,Xe,Wb h,Xa,Xf aa,Wq h,List.contains_cons];by_cases e:w.t[k]=i
    .rw[XL e,Wc,XL e.symm,Bool.true_or,Wc]
    rw[XD e,Wa,XD (λh=>e h.symm),U9];exact ih (k+1) aa aa
   obtain rfl:k=w.t.length:=aa;rw[QcQ,Xw,Wa,UE (Un _)];rfl
 have h:=h N 0 aa aa;rw[show((0:Nat):Int)=0 from rfl,WX]at h;rw[QgD,h,Xa];cases w.t.contains i
 .rw[Wa,Xm]
 simp[Wc,Xy]
def XcS(hN:1000000<N){v:Int}(hv:tU v):QeJ N v=Qcs N v:=by
 obtain⟨m,rfl⟩:∃m,N=m+5:=⟨N-5,aa⟩
 have⟨h0,h1⟩:=hv;have i1:wI (0+1)=1:=Xd aa aa;have i2:wI (1+1)=2:=Xd aa aa;have j1:wI (64-2)=62:=Xd aa aa;have j2:wI (62-32)=30:=Xd aa aa;have l2:([(2:Int),32].length:Nat)=2:=rfl;have g0:Xb [(2:Int),32] 0=some 2:=by unfold Xb;rfl
 have g1:Xb [(2:Int),32] 1=some 32:=by unfold Xb;rfl
 have e1:QaP (m+5) v [2,32] (m+5) 64 0=some (.nxt ()):=by rw[QaP,l2,g0];simp only[Xa,i1,j1];rw[QaP,l2,g1];simp only[Xa,i2,j2];rw[QaP,l2];rfl
 have o1:QcT (m+5) 2=some 3:=Ja aa aa aa;have o3:QcT (m+5) 32=some 4294967295:=Ja aa aa aa;have s1:Yz .u64 v 2=v / 4:=YO v 2 aa h0;have s2:Yz .u64 (v / 4) 32=v / 4 / 4294967296:=YO (v / 4) 32 aa aa;have a1:Y8 .u64 v 3=v % 4:=YP v 2 aa h0 h1;have a2:Y8 .u64 (v / 4) 4294967295=v / 4 % 4294967296:=YP (v / 4) 32 aa aa aa;have e2:QaQ (m+5) [2,32] (m+5) v 0 []=some (v / 4 / 4294967296,[v % 4,v / 4 % 4294967296]):=by rw[QaQ,l2,g0];rw[Wg aa,Wc,Xa,o1,Xa,Xc ab,Xc aa,s1,a1,i1];rw[QaQ,l2,g1];rw[Wg aa,Wc,Xa,o3,Xa,Xc ab,Xc aa,s2,a2,i2];rw[QaQ,l2];rw[Wh aa,Wa];rfl
 rw[QeJ,Qe5,e1,Xa,Xm,e2,Xa,Qcs,s1,If h0];by_cases h:v / 4 / 4294967296=0
 .rw[h];by_cases h2:v % 4=2
  .rw[h2];have:v / 4 % 4294967296=v / 4:=aa;rw[this,Wh aa];rw[show((0:Int) != 0)=false from rfl,Wa,Xa];rw[show Xb [(2:Int),v / 4] 0=some 2 by unfold Xb;rfl,Xa,show Xb [(2:Int),v / 4] 1=some (v / 4) by unfold Xb;rfl,Xa];rfl
  rw[X6 h2,Wc];rw[show((0:Int) != 0)=false from rfl,Wa,Xa];show bnd (Xb [v % 4,v / 4 % 4294967296] 0) _=_;rw[show Xb [v % 4,v / 4 % 4294967296] 0=some (v % 4) by unfold Xb;rfl,Xa,X6 h2,Wc]
 rw[X6 h,Wc,Xa];grind
def Xgb(hN:1000000<N){a:Int}(a0:0<=a)(a1:a<4294967296):QbS N a=QcF N a:=by
 rw[QbS,Ja aa aa aa,Xa,QcF,Wh (by show¬a>4294967295;omega),Wh aa,Wa,Wa];obtain⟨n,rfl⟩:∃n,N=n+5:=⟨N-5,aa⟩
 generalize hL:[(U2.mk 2 2),(U2.mk 32 a)]=L;have l3:L.length=2:=by rw[←hL];rfl
 have g0:Xb L 0=some (U2.mk 2 2):=by rw[←hL];unfold Xb;rfl
 have g1:Xb L 1=some (U2.mk 32 a):=by rw[←hL];unfold Xb;rfl
 have i1:wI (0+1)=1:=Xd aa aa;have i2:wI (1+1)=2:=Xd aa aa;have j1:wI (64-2)=62:=Xd aa aa;have j2:wI (62-32)=30:=Xd aa aa;have k2:wI (0+2)=2:=Xd aa aa;have k3:wI (2+32)=34:=Xd aa aa;have e1:Qbf (n+5) L (n+5) 64 0=some (.nxt ()):=by rw[Qbf,l3,g0];simp only[Xa,i1,j1];rw[Qbf,l3,g1];simp only[Xa,i2,j2];rw[Qbf,l3];rfl
 have f0:QdL (n+5) 2 2=some true:=Xa1 aa aa aa aa ae;have f1:QdL (n+5) a 32=some true:=Xa1 aa aa aa a0 (by show a<4294967296;omega);have s0:ZW .u64 2 0=2:=by decide +kernel
 have s1:ZW .u64 a 2=a*2 ^ 2:=by show wU (a*4)=a*4;exact Xx aa aa
 have o0:bOr .u64 0 2=2:=by decide +kernel
 have o1:bOr .u64 2 (a*2 ^ 2)=2+a*2 ^ 2:=XbH aa aa ae a0 aa;have e2:Qbg (n+5) L (n+5) 0 0 0=some (.nxt (2+a*2 ^ 2)):=by rw[Qbg,l3,g0];simp only[Xa,f0,i1,k2,s0,o0];rw[Wg aa,Wc,Ws,Wa,Xc aa];rw[Qbg,l3,g1];simp only[Xa,f1,i2,k3,s1,o1];rw[Wg aa,Wc,Ws,Wa,Xc aa];rw[Qbg,l3];rw[Wh aa,Wa]
 rw[Qgd,e1,Xa,Xm,e2,Xa,Xm,Xa,Xx (n:=4*a) aa aa,Xx aa aa];grind
end
section
variable {N:Nat}{h0:Wl}{l:List Int}
structure OA(h0:Wl)(w:WC)(n j u:Int)(ps:List Wt):Prop where
 rng:0<=j/\j<ps.length
 len:ps.length=w.h.p.length
 fit:0<=u/\u+n<=h0.c.W
 used:(pg ps j).u=u
 sp:∀i,0<=i->pg ps i=pg w.h.p i\/(pg ps i).s=1-h0.s
def XpY(hN:NB N)(hb:HB h0)(hp:Ut h0){w:WC}(hc:CI h0 l w){n:Int}(hn:1<=n)(hn2:n<=h0.c.W){β:Type}(j4:Int->Int->Int->List Wt->List Int->Option β):
 (∃r,Qct N w n=some r/\r.2.2=false/\GR N h0.c h0.s n w.h.p w.t j4=j4 0 0 3 w.h.p w.t) \/
 ∃j u ps tk,OA h0 w n j u ps/\Qct N w n=some (⟨⟨w.h.c,w.h.w,ps.set j.toNat ⟨(pg ps j).k,(pg ps j).s,wI ((pg ps j).u+n),(pg ps j).P⟩,w.h.s,w.h.b⟩,w.o,tk,w.q,w.d,w.r⟩,Xg h0.c j u,true) /\
  GR N h0.c h0.s n w.h.p w.t j4=j4 j u 0 ps tk:=by
 have hN':=hN;unfold NB at hN';have hpl:=hc.plen;have hv:=Xl.1 hp.conf;have htl:=hc.tl hb;have hpp:=hp.pages;have hsp:=hp.space;have hws:=hc.spc;have ad:∀j u:Int,0<=j->j<w.h.p.length->0<=u->u+n<=h0.c.W->wU (wI (wI (4096+wI (j*w.h.c.W))+u))=Xg h0.c j u:=by intro j u h1 h2 h3 h4;have hm:=XZ hp.conf (i:=j) h1 aa;rw[hc.conf,Xd (n:=j*h0.c.W) aa aa,Xd (n:=4096+j*h0.c.W) aa aa,Xd aa aa,Xx aa aa];rfl
 rw[Qct,GR];rw[Xc aa,Xc aa,XE,XE];have new:(∃r,(bnd (Qby N w.h.p 1) λy4=>
  bif (decide (y4<0))then some ((WC.mk zHp [] [] [] 0 (WL.mk 0 0 0 0 0 0)),0,false)
  else bnd (QbK N w.h.p y4 (wI (1-w.h.s))) λy5=>
  grd (w.t.length*8<=140737488355328) <|
  grd ((w.t.length+1)*8<=140737488355328) <|
  bnd (Xb y5.1 y4) λp13=>
  bnd (Xb y5.1 y4) λp14=>
  bnd (Xb y5.1 y4) λp15=>
  some ((WC.mk (Wl.mk w.h.c w.h.w (y5.1.set y4.toNat (Wt.mk p15.k p15.s (wI (p14.u+n)) p15.P)) w.h.s w.h.b) w.o (w.t++[y4]) w.q w.d w.r),(wU (wI ((wI (4096+(wI (y4*w.h.c.W))))+p13.u))),true))=some r/\r.2.2=false /\
   (bnd (QdA N w.h.p 1) λy44=>
    bif (decide (y44<0))then j4 0 0 3 w.h.p w.t
    else bnd (Qeg N w.h.p y44 (wI (1-h0.s))) λy45=>
    bif (y45.2 != 0)then none
    else grd ((w.t.length+1)*8<=140737488355328) <|
    j4 y44 0 0 y45.1 (w.t++[y44]))=j4 0 0 3 w.h.p w.t) \/
  ∃j u ps tk,OA h0 w n j u ps/\(bnd (Qby N w.h.p 1) λy4=>
  bif (decide (y4<0))then some ((WC.mk zHp [] [] [] 0 (WL.mk 0 0 0 0 0 0)),0,false)
  else bnd (QbK N w.h.p y4 (wI (1-w.h.s))) λy5=>
  grd (w.t.length*8<=140737488355328) <|
  grd ((w.t.length+1)*8<=140737488355328) <|
  bnd (Xb y5.1 y4) λp13=>
  bnd (Xb y5.1 y4) λp14=>
  bnd (Xb y5.1 y4) λp15=>
  some ((WC.mk (Wl.mk w.h.c w.h.w (y5.1.set y4.toNat (Wt.mk p15.k p15.s (wI (p14.u+n)) p15.P)) w.h.s w.h.b) w.o (w.t++[y4]) w.q w.d w.r),(wU (wI ((wI (4096+(wI (y4*w.h.c.W))))+p13.u))),true))=some (⟨⟨w.h.c,w.h.w,ps.set j.toNat ⟨(pg ps j).k,(pg ps j).s,wI ((pg ps j).u+n),(pg ps j).P⟩,w.h.s,w.h.b⟩,w.o,tk,w.q,w.d,w.r⟩,Xg h0.c j u,true) /\
   (bnd (QdA N w.h.p 1) λy44=>
    bif (decide (y44<0))then j4 0 0 3 w.h.p w.t
    else bnd (Qeg N w.h.p y44 (wI (1-h0.s))) λy45=>
    bif (y45.2 != 0)then none
    else grd ((w.t.length+1)*8<=140737488355328) <|
    j4 y44 0 0 y45.1 (w.t++[y44]))=j4 j u 0 ps tk:=by
  obtain⟨j,ej,hj⟩:=Kg (N:=N) (ps:=w.h.p) 1 aa aa
  rw[Xjm aa aa,ej,Xa,Xa]
  rcases hj with rfl|hr
  .exact .inl ⟨_,rfl,rfl,rfl⟩
  .refine .inr ?_
   obtain⟨y,ey,hy⟩:=Xcg (N:=N) (ps:=w.h.p) j (1-h0.s) aa aa
   have hy0:=hy.2.2 hr aa aa
   have⟨q0,q1,q2,q3⟩:=hy.1 hy0
   have hjl:j<y.1.length:=aa
   have g:pg y.1 j=⟨1,1-h0.s,0,0⟩:=by rw[q3 j q0,Wp rfl]
   rw[Xd (n:=1-h0.s) aa aa,Xjp aa aa,hws,Xd (n:=1-h0.s) aa aa,ey,Xa,Xa,Wh aa,Wa,Wa,Xc aa,Xc aa,XH q0 hjl,Xa,Xa,Xa,hy0,Xc aa]
   refine⟨j,0,y.1,w.t++[j],⟨⟨q0,hjl⟩,aa,⟨aa,aa⟩,by rw[g],λi hi=>?_⟩,?_,rfl⟩
   .by_cases e:i=j
    .subst e;rw[g];exact .inr rfl
    .rw[q3 i hi,Wn e,Wn aa];exact .inl rfl
   .rw[show(pg y.1 j).u=0 by rw[g],ad j 0 q0 aa aa aa]
 by_cases ht:0<(w.t.length:Int)
 .rw[Wg aa,Wc,Wc,Xd (n:=(w.t.length:Int)-1) aa aa];have hi:=Yg (l:=w.t) (i:=(w.t.length:Int)-1) aa aa;generalize w.t[((w.t.length:Int)-1).toNat]'aa=j at hi;have⟨t0,t1,t2,t3,t4⟩:=hc.tk j (Yx hi);rw[hi,Xa,Xa,Xa,Xa,Xa,XH t0 t1,Xa,Xa,Xa,Xa,Xa,Wg (p:=j>=0) t0,Wc,Xc aa,Wg (p:=j<_) t1,Wc,hc.conf];have e1:=Xd (n:=(pg w.h.p j).u+n) aa aa;have e2:=Xd (n:=h0.c.W-(pg w.h.p j).u) aa aa;by_cases hle:(pg w.h.p j).u+n<=h0.c.W
  .rw[e1,e2,Wg (p:=(pg w.h.p j).u+n<=h0.c.W) hle,Wg (p:=n<=h0.c.W-(pg w.h.p j).u) aa,Wc,Wc];refine .inr ⟨j,(pg w.h.p j).u,w.h.p,w.t,⟨⟨t0,t1⟩,rfl,⟨t3,hle⟩,rfl,λi _=>.inl rfl⟩,?_,rfl⟩;have:=ad j (pg w.h.p j).u t0 t1 t3 hle;rw[hc.conf]at this;rw[this,e1]
  rw[e1,e2,Wh (p:=(pg w.h.p j).u+n<=h0.c.W) hle,Wh (p:=n<=h0.c.W-(pg w.h.p j).u) aa,Wa,Wa];rw[hc.conf]at new;exact new
 grind
def XpZ(hN:NB N)(hb:HB h0)(hp:Ut h0){w:WC}(hc:CI h0 l w){n:Int}(hn:1<=n)(hn2:n<=h0.c.W):
 (∃r,Qct N w n=some r/\r.2.2=false/\Qci N w n=some (0,0,3,w.h.p,w.t)) \/
 ∃j u ps tk,OA h0 w n j u ps/\Qct N w n=some (⟨⟨w.h.c,w.h.w,ps.set j.toNat ⟨(pg ps j).k,(pg ps j).s,wI ((pg ps j).u+n),(pg ps j).P⟩,w.h.s,w.h.b⟩,w.o,tk,w.q,w.d,w.r⟩,Xg h0.c j u,true) /\
  Qci N w n=some (j,u,0,ps,tk):=by
 have h:=XpY hN hb hp hc hn hn2 λx7 x8 x9 x10 x11=>some (x7,x8,x9,x10,x11);have e:Qci N w n=GR N h0.c h0.s n w.h.p w.t λx7 x8 x9 x10 x11=>some (x7,x8,x9,x10,x11):=by rw[←hc.conf,←hc.spc,Qci,XE];rfl
 simp_all
end
section
variable {N:Nat}
def KZ{ps:List Wt}{i:Nat}(h:i<ps.length):pg ps (i:Int)=ps[i]:=by unfold pg;simp_all
def Xp0{ps qs:List Wt}(hl:qs.length=ps.length)(h:∀i,0<=i->pg qs i=pg ps i):qs=ps:=by refine List.ext_getElem hl λi h1 h2=>?_;rw[←KZ h1,←KZ h2];simp_all
def Xp1{ps:List Wt}(q:Wt->Bool){i k:Nat}(h:i+1+k<=ps.length):((ps.drop (i+1)).take k).all q=true↔∀m:Int,1<=m->m<=k->q (pg ps (i+m))=true:=by
 rw[Ud];constructor
 .intro hq m h1 h2;have e:pg ps (i+m)=((ps.drop (i+1)).take k)[m.toNat-1]'(by rw[Wj,Wk];omega):=by rw[U6,Iq,←KZ];congr 1;omega
  grind
 intro hq x hx;obtain⟨m,hm,rfl⟩:=WM hx;rw[Wj,Wk]at hm;rw[U6,Iq,←KZ];have:=hq (m+1) aa aa;grind
structure Ou(c:WU)(ps:List Wt)(i:Int):Prop where
 sp:0<=(pg ps i).s/\(pg ps i).s<=1
 pn:0<=(pg ps i).P/\(pg ps i).P<=2147483647
 k0:(pg ps i).k=0->pg ps i=KW
 k1:(pg ps i).k=1->0<=(pg ps i).u/\(pg ps i).u<=c.W
 k2:(pg ps i).k=2->1<=XF c (pg ps i).u/\i+XF c (pg ps i).u<=ps.length/\∀m,1<=m->m<XF c (pg ps i).u->(pg ps (i+m)).k=3/\(pg ps (i+m)).s=(pg ps i).s/\(pg ps (i+m)).u=0/\(pg ps (i+m)).P=0
 kd:(pg ps i).k=0\/(pg ps i).k=1\/(pg ps i).k=2
def XdX{s:Int}{p:Wt}:Ya s p=true↔p.k=3/\p.s=s/\p.u=0/\p.P=0:=by unfold Ya ZT;grind
def XbI{c:WU}{ps:List Wt}{i:Nat}(hi:i<ps.length):(X9 c ps i ps[i]≠0↔Ou c ps i)/\(Ou c ps i->X9 c ps i ps[i]=if ps[i].k=2 then(XF c ps[i].u).toNat else 1):=by
 have e:=KZ hi;generalize hp:ps[i]=p at *;have tl:∀(h:i+XF c p.u<=ps.length)(h1:1<=XF c p.u),((ps.drop (i+1)).take ((XF c p.u).toNat-1)).all (Ya p.s)=true↔∀m,1<=m->m<XF c p.u->(pg ps (i+m)).k=3/\(pg ps (i+m)).s=p.s/\(pg ps (i+m)).u=0/\(pg ps (i+m)).P=0:=λh h1=>by rw[Xp1 _ aa];exact⟨λq m a b=>XdX.1 (q m a aa),λq m a b=>XdX.2 (q m a aa)⟩
 unfold X9;constructor
 .constructor
  .intro h;by_cases h0:p.k=0
   .rw[Wp h0]at h;by_cases h1:p.s=0/\p.u=0/\p.P=0
    .obtain⟨a,b,d⟩:=h1;refine⟨?_,?_,?_,?_,?_,?_⟩<;>rw[e]
     .omega
     .omega
     .intro _;obtain⟨k,s,u,q⟩:=p;simp_all[KW]
     .intro h;omega
     .intro h;omega
     exact .inl h0
    rw[Wn h1]at h;exact absurd rfl h
   rw[Wn h0]at h;by_cases h1:(p.s=0\/p.s=1)/\0<=p.P/\p.P<=2147483647;rotate_left
   .rw[Wn h1]at h;exact absurd rfl h
   rw[Wp h1]at h;by_cases h2:p.k=1
   .rw[Wp h2]at h;by_cases h3:0<=p.u/\p.u<=c.W
    .refine⟨?_,?_,?_,?_,?_,?_⟩<;>rw[e]
     .omega
     .omega
     .intro h;omega
     .exactλ_=>h3
     .intro h;omega
     exact .inr (.inl h2)
    rw[Wn h3]at h;exact absurd rfl h
   rw[Wn h2]at h;by_cases h3:p.k=2;rotate_left
   .rw[Wn h3]at h;exact absurd rfl h
   by_cases h4:1<=XF c p.u/\(XF c p.u).toNat<=ps.length-i/\((ps.drop (i+1)).take ((XF c p.u).toNat-1)).all (Ya p.s)=true
   .refine⟨?_,?_,?_,?_,?_,?_⟩<;>rw[e]
    .omega
    .omega
    .omega
    .omega
    .exactλ_=>⟨h4.1,aa,(tl aa h4.1).1 h4.2.2⟩
    exact .inr (.inr h3)
   simp_all
  intro b;have hk:=b.kd;have hs:=b.sp;have hn:=b.pn;have b0:=b.k0;have b1:=b.k1;have b2:=b.k2;rw[e]at hk hs hn b0 b1 b2;rcases hk with hk|hk|hk
  .rw[Wp hk,b0 hk,Wp ⟨rfl,rfl,rfl⟩];omega
  .rw[Wn aa,Wp ⟨aa,hn⟩,Wp hk,Wp (b1 hk)];omega
  grind
 intro b;have hk:=b.kd;have hs:=b.sp;have hn:=b.pn;have b0:=b.k0;have b1:=b.k1;have b2:=b.k2;rw[e]at hk hs hn b0 b1 b2;rcases hk with hk|hk|hk
 .rw[Wp hk,b0 hk,Wp ⟨rfl,rfl,rfl⟩];rfl
 .rw[Wn aa,Wp ⟨aa,hn⟩,Wp hk,Wp (b1 hk),Wn aa]
 grind
structure Om(c:WU)(ps:List Wt):Prop where
 hd:∀i:Int,0<=i->i<ps.length->(pg ps i).k≠3->Ou c ps i
 tl:∀i:Int,0<=i->i<ps.length->(pg ps i).k=3->∃k:Int,0<=k/\k<i/\Ou c ps k/\(pg ps k).k=2/\i<k+XF c (pg ps k).u
def Xgc{h:Wl}(hl:h.p.length<=100000)(hN:1000000<N):∀(n i:Nat),i<=h.p.length->Qae N h n (i:Int)=some (.nxt ())->∀j:Nat,i<=j->j<h.p.length->∃k s:Nat,i<=k/\k<=j/\j<k+s/\∃hk:k<h.p.length,X9 h.c h.p k h.p[k]=s
 |0,i,_,e,_,_,_=>by simp_all[Qae]
 |n+1,i,hi,e,j,h1,h2=>by
  have hlt:i<h.p.length:=aa;rw[Qae,Wg (show(i:Int)<_ by omega),Wc,Kh hl hN hlt,Xa]at e;have hs:=XcH (c:=h.c) hlt (p:=h.p[i]);generalize es:X9 h.c h.p i h.p[i]=s at *;by_cases h0:s=0
  .simp_all
  rw[show((s:Int)==0)=false by simp_all,Wa,Xd aa aa,show(i:Int)+(s:Int)=((i+s:Nat):Int) by omega]at e;by_cases hj:j<i+s
  .grind
  have⟨k,t,a,b,d,f⟩:=Xgc hl hN n (i+s) aa e j aa h2;grind
def Xgd{h:Wl}:∀(n:Nat)(i:Int){b:Bool},Qae N h n i=some (.ret b)->b=false
 |0,i,b,e=>by simp_all[Qae]
 |n+1,i,b,e=>by
  rw[Qae]at e;cases h1:decide (i<(h.p.length:Int))with
  |false=>simp_all
  |true=>
   rw[h1,Wc]at e;cases h2:QgU N h.c h.p i with
   |none=>simp_all[h2,Kq]
   |some y=>
    rw[h2,Xa]at e;cases h3:y==0 with
    |true=>simp_all
    |false=>rw[h3,Wa]at e;exact Xgd n _ e
def XlQ(hN:NB N){h:Wl}(hb:HB h)(ep:Qab N h=some true):Om h.c h.p:=by
 have hN':1000000<N:=by unfold NB at hN;omega
 have hp:=Yn hN hb ep;have e:=ep;rw[←YC hb.2 hN',KY hp.pre]at e;have e1:Qae N h N 0=some (.nxt ()):=by
  cases h1:Qae N h N 0 with
  |none=>simp_all[h1,Kq]
  |some x=>
   rw[h1,Xa]at e;cases x with
   |ret a=>rw[Xy]at e;cases e;exact absurd (Xgd N 0 h1) ab
   |nxt u=>rfl
 have cv:=Xgc hb.2 hN' N 0 aa e1;refine⟨λi h0 h1 hk=>?_,λi h0 h1 hk=>?_⟩
 .obtain⟨j,rfl⟩:∃j:Nat,i=(j:Int):=⟨i.toNat,aa⟩
  have⟨k,s,_,h2,h3,h4,es⟩:=cv j aa aa;have hs:=XbI (c:=h.c) h4;have hb:=hs.1.1 aa;by_cases hjk:j=k
  .simp_all
  have:=hs.2 hb;by_cases h2k:h.p[k].k=2
  .rw[Wp h2k]at this;have:=(hb.k2 (by rw[KZ h4];exact h2k)).2.2 ((j:Int)-k) aa (by rw[KZ h4];omega);rw[show(k:Int)+((j:Int)-k)=j by omega]at this;exact absurd this.1 hk
  grind
 obtain⟨j,rfl⟩:∃j:Nat,i=(j:Int):=⟨i.toNat,aa⟩
 have⟨k,s,_,h2,h3,h4,es⟩:=cv j aa aa;have hs:=XbI (c:=h.c) h4;have hb:=hs.1.1 aa;have h5:=hs.2 hb;have hkd:=hb.kd;have hjk:j≠k:=by rintro rfl;omega
 by_cases h2k:h.p[k].k=2
 .rw[Wp h2k]at h5;exact⟨k,aa,aa,hb,by rw[KZ h4];exact h2k,by rw[KZ h4];omega⟩
 grind
def SpanS(c:WU)(ps qs:List Wt):Prop:=qs.length=ps.length/\∀i(hi:i<ps.length)(hj:i<qs.length),X9 c qs i qs[i]=X9 c ps i ps[i]
def SpanS.refl(c:WU)(ps:List Wt):SpanS c ps ps:=⟨rfl,λ_ _ _=>rfl⟩
def SpanS.trans{c:WU}{a b d:List Wt}(h1:SpanS c a b)(h2:SpanS c b d):SpanS c a d:=⟨h2.1.trans h1.1,λi hi hj=>(h2.2 i (by rw[h1.1];omega) hj).trans (h1.2 i hi (by rw[h1.1];omega))⟩
def XcT{c:WU}{ps qs:List Wt}(hN:Om c ps)(hl:qs.length=ps.length)(h:∀i:Int,0<=i->i<ps.length->((pg ps i).k<=1/\(pg qs i).k=1/\(0<=(pg qs i).s/\(pg qs i).s<=1)/\(0<=(pg qs i).P/\(pg qs i).P<=2147483647)/\0<=(pg qs i).u/\(pg qs i).u<=c.W) \/
  ((pg qs i).k=(pg ps i).k/\(pg qs i).u=(pg ps i).u/\(pg qs i).P=(pg ps i).P/\((pg qs i).s=(pg ps i).s\/2<=(pg ps i).k/\0<=(pg qs i).s/\(pg qs i).s<=1)))(ht:∀i m:Int,0<=i->(pg ps i).k=2->1<=m->m<XF c (pg ps i).u->i+m<ps.length->(pg qs (i+m)).s=(pg qs i).s):SpanS c ps qs:=by
 refine⟨hl,λi hi hj=>?_⟩;have e1:=KZ hi;have e2:=KZ hj;have s1:=XbI (c:=c) hi;have s2:=XbI (c:=c) hj;by_cases h3:(pg ps i).k=3
 .have n1:¬Ou c ps i:=λb=>by have:=b.kd;omega
  have n2:¬Ou c qs i:=λb=>by have:=b.kd;have:=h i aa aa;omega
  simp_all
 have b:=hN.hd i aa aa h3;have hb:=b.kd;have b0:=b.k0;have b1:=b.k1;have b2:=b.k2;have bs:=b.sp;have bp:=b.pn;have hi':=h i aa aa;have bq:Ou c qs i:=by
  refine⟨aa,aa,λhk=>?_,λhk=>?_,λhk=>?_,aa⟩
  .rcases hi' with g|⟨g1,g2,g3,g4⟩
   .omega
   have:=b0 aa;rw[this]at g1 g2 g3 g4;have g4:(pg qs i).s=0:=by rcases g4 with g|g;exact g;exact absurd g.1 ae
   have hx:pg qs i=⟨(pg qs i).k,(pg qs i).s,(pg qs i).u,(pg qs i).P⟩:=rfl;rw[hx,g1,g2,g3,g4];rfl
  .omega
  rcases hi' with g|⟨g1,g2,g3,g4⟩
  .omega
  have hk2:(pg ps i).k=2:=aa;have⟨c1,c2,c3⟩:=b2 hk2;rw[g2,hl];refine⟨c1,c2,λm m1 m2=>?_⟩;have⟨d1,d2,d3,d4⟩:=c3 m m1 m2;have hm:=h (i+m) aa aa;refine⟨aa,ht i m aa hk2 m1 m2 aa,aa,aa⟩
 rw[s1.2 b,s2.2 bq];rw[e1]at hi' hb;rw[e2]at hi';by_cases hk:ps[i].k=2
 .simp_all
 rw[Wn hk,Wn aa]
def SpanS.proper(hN:NB N){h:Wl}(hb:HB h)(ep:Qab N h=some true){qs:List Wt}(hs:SpanS h.c h.p qs){ws:List Int}(hw:ws.length=h.w.length){b:Int}(hbump:b = -1\/(0<=b/\b<qs.length/\(pg qs b).k=1)):Qab N ⟨h.c,ws,qs,h.s,b⟩=some true:=
 Xbk hN hb ep hs.1 (λi hi=>hs.2 i hi (by rw[hs.1];omega)) hw hbump
end
section
variable {N:Nat}{h0:Wl}{l:List Int}
def XbJ{α:Type}{l:List α}{o n:Nat}{i:Int}(h1:0<=i)(h2:i<n)(h3:o+i.toNat<l.length):Kl l o n i=some (l[o+i.toNat]'h3):=by unfold Kl;simp_all
def Xig{c:WU}(hv:X5 c=true){a:Int}(hr:4096<=a/\a<4096+c.p*c.W):Qcd N c a=some (pgi c a,pgo c a,0)/\wI (wI (pgi c a*c.W)+pgo c a)=a-4096:=by
 have⟨e,q0,q1,q2,q3⟩:=Kr hv hr;have hm:=XZ hv (i:=pgi c a) q0 q1;refine⟨?_,?_⟩
 .rw[Xg6 _ _ _ aa,Js,hv,Wn ab,Wp hr];rfl
 rw[Xd (n:=pgi c a*c.W) aa aa,Xd aa aa];unfold Xg at e;omega
def Xs4{c c':WU}(hcc:c=c')(hv:X5 c=true)(hN:1000000<N){cp X n i u:Int}{ws q:List Int}{ps:List Wt}{β:Type}(j6:Int->Int->Int->List Int->List Wt->List Int->Option β)(hw:(ws.length:Int)=c.p*c.W)(hx0:0<=X)(hn:1<=n)(hx:X+n<=ws.length)(i0:0<=i)(i1:i<c.p)(u0:0<=u)(u1:u+n<=c.W)(hps:(ps.length:Int)=c.p)(hq:q.length<=100000):
 FT N c' cp ws ps q X (X+n) j6 i u=j6 (Xg c i u) 0 (wI (cp+1)) ((ovr ws ((ws.drop X.toNat).take n.toNat) (ix (Xg c i u))).set X.toNat (wU (wU (4*Xg c i u)+2))) (ps.set i.toNat ⟨(pg ps i).k,(pg ps i).s,wI ((pg ps i).u+n),(pg ps i).P⟩) (q++[Xg c i u]):=by
 subst hcc;have hm:=XZ hv (i:=i) i0 i1;have ea:Xg c i u=4096+i*c.W+u:=rfl;have hr:4096<=Xg c i u/\Xg c i u<4096+c.p*c.W:=aa;have⟨o1,o2⟩:=Xig (N:=N) hv hr;have eL:((X+n).toNat-X.toNat)=n.toNat:=aa;have eN:(n.toNat:Int)=n:=aa;have hl0:ovr ws ((ws.drop X.toNat).take n.toNat) (ix (Xg c i u))=(ws.take (Xg c i u-4096).toNat++(ws.drop X.toNat).take n.toNat)++ws.drop ((Xg c i u-4096).toNat+n.toNat):=by unfold ovr ix;rw[Wj,Wk,Nat.min_eq_left aa]
 rw[FT,XcG,JK,hv,Wn ab,Wp ⟨i0,i1,u0,aa⟩,Xa];rw[show((0:Int) != 0)=false from rfl,Wa,eL,eN,Xc aa,o1,Xa];rw[show((0:Int) != 0)=false from rfl,Wa,Xc aa];rw[o2,Xd (n:=(ws.length:Int)-(Xg c i u-4096)) aa aa,Wh (p:=n>_) aa,Wa];rw[Xd (n:=Xg c i u-4096+n) aa aa,Xc aa,Xgb hN aa aa,VX,Wn aa,Xa];rw[show((0:Int) != 0)=false from rfl,Wa,Xc aa,←hl0,XbJ aa aa (by grind),Xa,XH i0 aa,Xa,Xc aa,Xa,Xc aa]
def Xrs(w:WC)(a:Int)(lp:Nat->Int->List Wt->Option (List Wt))(h0:∀i ps,lp 0 i ps=none)(hs:∀n i ps,lp (n+1) i ps=(grd (ps.length<=140737488355328) <|
 bif (decide (i<(ps.length:Int)))then(bnd (Xb ps i) λp12=>
  bif (p12.k==3)then(bnd (Xb ps i) λp13=>
   lp n (wI (i+1)) (ps.set i.toNat (Wt.mk p13.k (wI (1-w.h.s)) p13.u p13.P)))
  else some ps)
 else some ps)):∀(n:Nat)(i:Int)(ps:List Wt),lp n i ps=QaD N w a n i ps
 |0,i,ps=>by rw[h0,QaD]
 |n+1,i,ps=>by rw[hs,QaD];have:=Xrs w a lp h0 hs n;simp_all
def Prm(w:WC)(i:Int):Prop:=(0<=i/\i<w.h.p.length)/\(pg w.h.p i).k=1/\(pg w.h.p i).s≠w.h.s/\i∉w.t
def Xn9(hN:NB N){w:WC}{i:Int}(hl:w.t.length<=100000)(hp:w.h.p.length<=100000)(hs0:0<=w.h.s/\w.h.s<=1)(hsp:∀i,0<=i->(pg w.h.p i).k=1->0<=(pg w.h.p i).s/\(pg w.h.p i).s<=1){β:Type}:
 ∃b,(b=true↔Prm w i)/\QcR N w i=some b/\∀K:Bool->Option β,(jn K λj2=>bif (decide (i<0))then j2 false
  else grd (w.h.p.length<=140737488355328) <|
  bif (decide (i>=(w.h.p.length:Int)))then j2 false
  else bnd (Xb w.h.p i) λp23=>
  jn (λ(x25:Bool)=>
   j2 x25) λj1=>
  bif (p23.k==1)then(bif (p23.s==(wI (1-w.h.s)))then(bnd (Qa7 N w.t i) λy24=>
      j1 (!y24))
   else j1 false)
  else j1 false)=K b:=by
 have hN':=hN;unfold NB at hN';rw[QcR];by_cases h1:i<0
 .exact⟨false,⟨λh=>(by grind),λh=>by have:=h.1;omega⟩,by simp_all,λK=>by rw[XE,Wg h1,Wc]⟩
 by_cases h2:i>=(w.h.p.length:Int)
 .exact⟨false,⟨λh=>(by grind),λh=>by have:=h.1;omega⟩,by simp_all,λK=>by rw[XE,Wh h1,Wa,Xc aa,Wg h2,Wc]⟩
 rw[Wh h1,Wa,Wh h2,Wa,XH aa aa,Xa];by_cases h3:(pg w.h.p i).k=1
 .have:=hsp i aa h3;rw[XL h3,Wc];by_cases h4:(pg w.h.p i).s=w.h.s
  .exact⟨false,⟨λh=>(by grind),λh=>absurd h4 h.2.2.1⟩,by simp_all,λK=>by rw[XE,Wa,Xc aa,Wa,Xa,XE,XL h3,Wc,Xd (n:=1-w.h.s) aa aa,XD aa,Wa]⟩
  exact⟨!w.t.contains i,⟨λh=>⟨aa,h3,h4,by simp_all⟩,λh=>by simpa using h.2.2.2⟩,by rw[X6 h4,Wc,Xjv _ _ aa aa,Xa],λK=>by rw[XE,Wa,Xc aa,Wa,Xa,XE,XL h3,Wc,Xd (n:=1-w.h.s) aa aa,XL aa,Wc,Xju _ _ aa aa,Xa]⟩
 exact⟨false,⟨λh=>(by grind),λh=>absurd h.2.1 h3⟩,by grind,λK=>by rw[XE,Wa,Xc aa,Wa,Xa,XE,XD h3,Wa]⟩
def XeN(hN:NB N){w:WC}{i:Int}(hl:w.t.length<=100000)(hp:w.h.p.length<=100000)(hs0:0<=w.h.s/\w.h.s<=1)(hsp:∀i,0<=i->(pg w.h.p i).k=1->0<=(pg w.h.p i).s/\(pg w.h.p i).s<=1):
 ∃b,(b=true↔Prm w i)/\QcR N w i=some b/\QcU N w i=some b:=by have⟨b,h3,h1,h2⟩:=Xn9 (β:=Bool) (i:=i) hN hl hp hs0 hsp;exact⟨b,h3,h1,h2 some⟩
end
end Go.Sx
