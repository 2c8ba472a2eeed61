import Derived.Test.YtcclgbgphjofaaaGreatHA
set_option linter.all false
namespace Go.Sx
structure Uj where
 W:Int
 p:Int
structure WJ where
 k:Int
 s:Int
 u:Int
 P:Int
structure Wp where
 c:Uj
 w:List Int
 p:List WJ
 s:Int
 b:Int
structure UW where
 J:Int
 a:Int
 V:Bool
structure U2 where
 O:Int
 C0:Int
 B0:Bool
structure WD where
 S:List UW
 x:List U2
 i:List Int
structure Ul where
 G:Int
 a:Int
 V:Bool
structure W4 where
 e:List Ul
structure UQ where
 a:Int
 M:Int
structure Uw where
 h:Wp
 l:WD
 g:W4
 v:W4
 P:List UQ
 R:List Int
structure WH where
 k:Int
 n:Int
 Map:Int
structure UO where
 H:WH
 D:List Int
structure U5 where
 I:Int
 M:Int
 B0:Int
structure WE where
 c:Uj
 T:List UO
 l:WD
 g:W4
 v:W4
 m:List U5
 R:List Int
structure IV where
 N:Uw
 z:WE
 w:List Int
structure WS where
 Addr:Int
 I:Int
structure IT where
 L:List Int
 at_:Int
structure OG where
 Op:Int
 A:Int
 B:Int
 C:Int
structure UI where
 j:Int
 K:Int
 F:Int
 E:Int
 f:Int
 y:Int
structure OD where
 Failed:Bool
 Collected:Bool
 B0:Int
structure OB where
 l:WD
structure W8 where
 h:Wp
 o:List Int
 t:List Int
 q:List Int
 d:Int
 r:UI
structure IZ where
 Tag:Int
 Index:Int
 J:Int
structure Ut where
 Fault:Int
 Page:Int
 Addr:Int
structure U8 where
 addr:Int
 hd:WH
structure OP where
 O:Int
 Len:Int
@[simp] abbrev zWd:WE:=WE.mk (Uj.mk 0 0) [] (WD.mk [] [] []) (W4.mk []) (W4.mk []) [] []
@[simp] abbrev zHp:Wp:=Wp.mk (Uj.mk 0 0) [] [] 0 0
def Qaf(N:Nat)(e:IT)(f:Int):Option (Int×IT):=bif (decide (f<1))then some (0,e)else jn (λ(h:Int)=>grd (f≠0) <| grd (f≠0) <| some (((wI ((h.tmod f)+f)).tmod f),(IT.mk e.L (wI (e.at_+1))))) λg=>bif (decide (e.at_<(e.L.length:Int)))then(bnd (Xd e.L e.at_) λj=>g j)else g (wI ((wI (e.at_*7))+3))
def Qe4(N:Nat)(g:IT):Option (Uj×IT):=bnd (Qaf N g 4) λe=>bnd (Xd [16,16,20,32] e.1) λh=>bnd (Qaf N e.2 5) λf=>bnd (Xd [8,12,16,20,24] f.1) λj=>some ((Uj.mk h j),f.2)
def QaA(N:Nat)(e:Uj):Option Bool:=bif (decide (e.W>=16))then(bif (decide (e.W<=64))then(bif ((e.W.tmod 4)==0)then(bif (decide (e.p>=8))then some (decide (e.p<=64))else some false)else some false)else some false)else some false
def QfS(N:Nat)(e:Uj):Option (Wp×Int):=bnd (QaA N e) λf=>bif (!f)then some (zHp,1)else grd (0<=(wI (e.p*e.W))/\(wI (e.p*e.W)).toNat*8<=140737488355328) <| grd (0<=e.p/\e.p.toNat*32<=140737488355328) <| some ((Wp.mk e (List.replicate (wI (e.p*e.W)).toNat (0:Int)) (List.replicate e.p.toNat (WJ.mk 0 0 0 0)) 0 (-1)),0)
def QeD(N:Nat)(f:Uj):Option (Uw×Int):=bnd (QfS N f) λe=>some ((Uw.mk e.1 (WD.mk [] [] []) (W4.mk []) (W4.mk []) [] []),e.2)
def QeE(N:Nat)(e:Uj):Option (WE×Int):=bnd (QaA N e) λf=>bif (!f)then some (zWd,1)else some ((WE.mk e [] (WD.mk [] [] []) (W4.mk []) (W4.mk []) [] []),0)
def Qbl(N:Nat)(p:IT):Option (IV×IT):=bnd (Qe4 N p) λj=>bnd (QeD N j.1) λf=>bnd (QeE N j.1) λe=>bnd (Qaf N j.2 40) λo=>some ((IV.mk (Uw.mk f.1.h (WD.mk f.1.l.S [(U2.mk 0 (wI (4+o.1)) true)] f.1.l.i) f.1.g f.1.v f.1.P f.1.R) (WE.mk e.1.c e.1.T (WD.mk e.1.l.S [(U2.mk 0 (wI (4+o.1)) true)] e.1.l.i) e.1.g e.1.v e.1.m e.1.R) [0]),o.2)
def Qf5(N:Nat)(e:IT):Option Bool:=some (decide (e.at_>=(e.L.length:Int)))
def QdU(N:Nat)(f:WD)(g:Int):Nat->Int->Int->Option Int
 |0,_,_=>none
 |n+1,h,e=>
  bif (decide (e<g))then(bnd (Xd f.S e) λj=>
   bif j.V then QdU N f g n (wI (h+1)) (wI (e+1))
   else QdU N f g n h (wI (e+1)))
  else some h
def Qf6(N:Nat)(e:WD)(f g:Int):Option Int:=bnd (QdU N e g N 0 f) λh=>some h
def Qhg(N:Nat)(e:WD)(f:Int):Option Int:=bif (decide ((wI (f+1))<(e.x.length:Int)))then(bnd (Xd e.x (wI (f+1))) λg=>some g.O)else some (e.S.length:Int)
def Qdl(N:Nat)(e:WD):Nat->Int->Option (Ex Bool Unit)
 |0,_=>none
 |n+1,f=>
  bif (decide (f<(e.i.length:Int)))then(bnd (Xd e.i f) λg=>
   bif (decide (g<0))then some (.ret false)
   else bnd (Xd e.i f) λh=>
   bif (decide (h>4095))then some (.ret false)
   else Qdl N e n (wI (f+1)))
  else some (.nxt ())
def Qan(N:Nat)(f:WD):Nat->Int->Int->Option (Ex Bool Unit)
 |0,_,_=>none
 |n+1,h,g=>
  bif (decide (g<(f.S.length:Int)))then(bnd (Xd f.S g) λe=>
   bif (decide (e.J<=h))then some (.ret false)
   else bif (decide (e.J>(f.i.length:Int)))then some (.ret false)
   else bnd (Xd f.i (wI (e.J-1))) λj=>
   bif (j != g)then some (.ret false)
   else bif (!(e.V==(e.a != 0)))then some (.ret false)
   else Qan N f n e.J (wI (g+1)))
  else some (.nxt ())
def Qam(N:Nat)(g:WD):Nat->Int->Int->Option (Ex Bool Unit)
 |0,_,_=>none
 |n+1,h,f=>
  bif (decide (f<(g.x.length:Int)))then(bnd (Xd g.x f) λe=>
   bif (f==0)then(bif (e.O != 0)then some (.ret false)
    else bif (!e.B0)then some (.ret false)
    else bif (decide (e.O<h))then some (.ret false)
    else bif (decide (e.O>(g.S.length:Int)))then some (.ret false)
    else bif (decide (e.C0<0))then some (.ret false)
    else bif (decide (e.C0>64))then some (.ret false)
    else Qam N g n e.O (wI (f+1)))
   else bif (decide (e.O<h))then some (.ret false)
   else bif (decide (e.O>(g.S.length:Int)))then some (.ret false)
   else bif (decide (e.C0<0))then some (.ret false)
   else bif (decide (e.C0>64))then some (.ret false)
   else Qam N g n e.O (wI (f+1)))
  else some (.nxt ())
def QcK(N:Nat)(f:WD):Nat->Int->Option (Ex Bool Unit)
 |0,_=>none
 |n+1,e=>
  bif (decide (e<(f.x.length:Int)))then(bnd (Xd f.x e) λg=>
   bnd (Qhg N f e) λh=>
   bnd (Qf6 N f g.O h) λj=>
   bnd (Xd f.x e) λl=>
   bif (decide (j>l.C0))then some (.ret false)
   else QcK N f n (wI (e+1)))
  else some (.nxt ())
def Qb9(N:Nat)(f:WD):Option Bool:=jn (λ(_:Unit)=>bnd (Qdl N f N 0) λe=>exK e (λr=>some r) λl=>bnd (Qan N f N 0 0) λe=>exK e (λr=>some r) λo=>bnd (Qam N f N 0 0) λe=>exK e (λr=>some r) λh=>bnd (QcK N f N 0) λe=>exK e (λr=>some r) λj=>some true) λg=>bif (decide ((f.i.length:Int)>4096))then some false else bif (decide ((f.x.length:Int)>64))then some false else bif ((f.x.length:Int)==0)then(bif (decide ((f.S.length:Int)>0))then some false else g ())else g ()
def Qbw(N:Nat)(e:WD):Nat->Int->(List Int)->Option (List Int)
 |0,_,_=>none
 |n+1,f,g=>
  bif (decide (f<(e.S.length:Int)))then(bnd (Qb9 N e) λh=>
   bif h then(bnd (Xd e.S f) λj=>
    bif j.V then(bnd (Xd e.S f) λl=>
     grd ((g.length+1)*8<=140737488355328) <|
     Qbw N e n (wI (f+1)) (g++[l.a]))
    else Qbw N e n (wI (f+1)) g)
   else some g)
  else some g
def Qcy(N:Nat)(e:WD):Option (List Int):=bnd (Qbw N e N 0 []) λf=>some f
def QcL(N:Nat)(f:W4):Nat->Int->Option (Ex Bool Unit)
 |0,_=>none
 |n+1,g=>
  bif (decide (g<(f.e.length:Int)))then(bnd (Xd f.e g) λh=>
   bif (decide (h.G<1))then some (.ret false)
   else bif (decide (h.G>4294967295))then some (.ret false)
   else bif (!h.V)then(bif (h.a != 0)then some (.ret false)
    else QcL N f n (wI (g+1)))
   else QcL N f n (wI (g+1)))
  else some (.nxt ())
def Qca(N:Nat)(f:W4):Option Bool:=bnd (QcL N f N 0) λe=>exK e (λr=>some r) λg=>some (decide ((f.e.length:Int)<=64))
def Qbx(N:Nat)(f:W4):Nat->Int->(List Int)->Option (List Int)
 |0,_,_=>none
 |n+1,g,h=>
  bif (decide (g<(f.e.length:Int)))then(bnd (Qca N f) λj=>
   bif j then(bnd (Xd f.e g) λl=>
    bif l.V then(bnd (Xd f.e g) λo=>
     grd ((h.length+1)*8<=140737488355328) <|
     Qbx N f n (wI (g+1)) (h++[o.a]))
    else Qbx N f n (wI (g+1)) h)
   else some h)
  else some h
def Qbr(N:Nat)(e:W4):Option (List Int):=bnd (Qbx N e N 0 []) λf=>some f
def Qbm(N:Nat)(e:Uw):Nat->Int->(List Int)->Option (List Int)
 |0,_,_=>none
 |n+1,f,g=>
  bif (decide (f<(e.P.length:Int)))then(bnd (Xd e.P f) λh=>
   grd ((g.length+1)*8<=140737488355328) <|
   Qbm N e n (wI (f+1)) (g++[h.a]))
  else some g
def QcW(N:Nat)(e:Uw):Option (List Int):=grd (e.R.length*8<=140737488355328) <| bnd (Qcy N e.l) λf=>grd ((e.R.length+f.length)*8<=140737488355328) <| bnd (Qbr N e.g) λh=>grd (((e.R.length+f.length)+h.length)*8<=140737488355328) <| bnd (Qbm N e N 0 ((e.R++f)++h)) λj=>some j
def Qe5(N:Nat)(e:List Int)(g:Int):Nat->Int->Option (Ex Bool Unit)
 |0,_=>none
 |n+1,f=>
  bif (decide (f<(e.length:Int)))then(bnd (Xd e f) λh=>
   bif (h==g)then some (.ret true)
   else Qe5 N e g n (wI (f+1)))
  else some (.nxt ())
def Qba(N:Nat)(f:List Int)(g:Int):Option Bool:=bnd (Qe5 N f g N 0) λe=>exK e (λr=>some r) λh=>some false
def QgF(N:Nat)(e:Int):Option Bool:=bif (decide (e>=0))then some (decide (e<=2147483647))else some false
def Qb3(N:Nat)(e:Uj):Option Int:=bnd (QaA N e) λf=>bif (!f)then some 0 else some (wI (e.W.tdiv 4))
def Qcz(N:Nat)(f:Uj)(g:Int):Nat->Int->Option (Ex Int Unit)
 |0,_=>none
 |n+1,e=>
  bif (decide (e<=4))then(bif (decide ((wI (e*f.W))>=g))then some (.ret e)
   else Qcz N f g n (wI (e+1)))
  else some (.nxt ())
def QeF(N:Nat)(f:Uj)(g:Int):Option Int:=bnd (QaA N f) λh=>bif (!h)then some (-1)else bif (decide (g<1))then some (-1)else bnd (Qb3 N f) λj=>bif (decide (g<=j))then some 0 else bnd (Qcz N f g N 1) λe=>exK e (λr=>some r) λl=>some (-1)
def Qdm(N:Nat)(e:List WJ)(h:Int):Nat->Int->Int->Option Int
 |0,_,_=>none
 |n+1,f,g=>
  bif (decide (g<(e.length:Int)))then(bnd (Xd e g) λj=>
   bif (j.k==3)then(bnd (Xd e g) λl=>
    bif (l.s==h)then Qdm N e h n (wI (f+1)) (wI (g+1))
    else some f)
   else some f)
  else some f
def QeR(N:Nat)(e:List WJ)(f g:Int):Option Int:=bnd (Qdm N e g N 0 (wI (f+1))) λh=>some h
def QaB(N:Nat)(f:Wp):Nat->Int->Int->Option (Ex Bool Unit)
 |0,_,_=>none
 |n+1,h,j=>
  bif (decide (j<(f.p.length:Int)))then(bnd (Xd f.p j) λe=>
   bif (!((e.k==3)==(decide (h>0))))then some (.ret false)
   else bif (decide (e.s<0))then some (.ret false)
   else bif (decide (e.s>1))then some (.ret false)
   else bnd (QgF N e.P) λw=>
   bif (!w)then some (.ret false)
   else jn (λ(g:Int)=>
    QaB N f n (if 0<(wI (g-1))then(wI (g-1))else 0) (wI (j+1))) λq=>
   bif (e.k==0)then(bif (!((e.k==0)&&((e.s==0)&&((e.u==0)&&(e.P==0)))))then some (.ret false)
    else q h)
   else jn (λ(l:Int)=>
    q l) λr=>
   bif (e.k==1)then(bif (decide (e.u<0))then some (.ret false)
    else bif (decide (e.u>f.c.W))then some (.ret false)
    else r h)
   else jn (λ(x:Int)=>
    r x) λt=>
   bif (e.k==2)then(bnd (QeF N f.c e.u) λo=>
    bif (decide (o<1))then some (.ret false)
    else bnd (QeR N f.p j e.s) λy=>
    bif (decide (y<(wI (o-1))))then some (.ret false)
    else t o)
   else bif (e.k==3)then(bif (e.u != 0)then some (.ret false)
    else bif (e.P != 0)then some (.ret false)
    else t h)
   else some (.ret false))
  else some (.nxt ())
def Qab(N:Nat)(f:Wp):Option Bool:=bnd (QaA N f.c) λh=>bif (!h)then some false else bif ((f.w.length:Int) != (wI (f.c.p*f.c.W)))then some false else bif ((f.p.length:Int) != f.c.p)then some false else bif (decide (f.s<0))then some false else bif (decide (f.s>1))then some false else jn (λ(_:Unit)=>bnd (QaB N f N 0 0) λe=>exK e (λr=>some r) λj=>some true) λg=>bif (f.b != (-1))then(bif (decide (f.b<0))then some false else bif (decide (f.b>=(f.p.length:Int)))then some false else bnd (Xd f.p f.b) λl=>bif (l.k != 1)then some false else g ())else g ()
def QcI(N:Nat)(e:Uj)(f:Int):Option (Int×Int×Int):=bnd (QaA N e) λg=>bif (!g)then some (0,0,1)else bif (decide (f<4096))then some (0,0,2)else bif (decide (f>=(wU (wI (4096+(wI (e.p*e.W)))))))then some (0,0,2)else grd (e.W≠0) <| grd (e.W≠0) <| some ((wI ((wI (wU (f-4096))).tdiv e.W)),((wI (wU (f-4096))).tmod e.W),0)
def QdA(N:Nat)(f:List Int)(e g:Int):Option (Int×Bool):=bif (decide (e<4096))then some (0,false)else bif (decide (e>(wU (4096+(wU (f.length:Int))))))then some (0,false)else some ((wI (wU (e-4096))),(decide (g<=(wI ((f.length:Int)-(wI (wU (e-4096))))))))
def Qfz(N:Nat)(f:List Int)(g:Int):Option (Int×Int):=bnd (QdA N f g 1) λe=>bif (!e.2)then some (0,2)else some (e.1,0)
def Qbn(N:Nat)(f:List Int)(g:Int):Option (Int×Int):=bnd (Qfz N f g) λe=>bif (e.2 != 0)then some (0,e.2)else bnd (Xd f e.1) λh=>some (h,0)
def QcP(N:Nat)(e:WH):Option Bool:=bif (decide (e.k<0))then some false else bif (decide (e.k>3))then some false else bif (decide (e.n<0))then some false else bif (decide (e.n>255))then some false else bif (e.k != 1)then some (e.Map==0)else bif (decide (e.n<=32))then(grd (0<=(wU e.n)) <| some (decide ((wU e.Map)<(JT .u64 1 (wU e.n)))))else some false
def QcX(N:Nat)(e:WH):Option (Int×Int):=bnd (QcP N e) λf=>bif (!f)then some (0,1)else some ((wU ((wU ((wU (1+(wU (4*(wU e.k)))))+(wU (16*(wU e.n)))))+(JT .u64 (wU e.Map) 16))),0)
def Qcr(N:Nat)(e:Int):Option (WH×Bool):=bnd (QcX N (WH.mk (wI (ZI .u64 (Y5 .u64 e 2) 3)) (wI (ZI .u64 (Y5 .u64 e 4) 4095)) (wW (Y5 .u64 e 16)))) λf=>bif (f.2 != 0)then some ((WH.mk 0 0 0),false)else bif (f.1 != e)then some ((WH.mk 0 0 0),false)else some ((WH.mk (wI (ZI .u64 (Y5 .u64 e 2) 3)) (wI (ZI .u64 (Y5 .u64 e 4) 4095)) (wW (Y5 .u64 e 16))),true)
def QcA(N:Nat)(e:WH):Option Int:=bnd (QcP N e) λf=>bif (!f)then some 0 else some (wI (e.n+1))
def Qax(N:Nat)(h:Wp)(l:Int):Option (WH×Int):=bnd (Qab N h) λq=>bif (!q)then some ((WH.mk 0 0 0),1)else bnd (QcI N h.c l) λf=>bif (f.2.2 != 0)then some ((WH.mk 0 0 0),2)else bnd (Xd h.p f.1) λe=>bnd (Qbn N h.w l) λr=>bnd (Qcr N r.1) λg=>jn (λ(_:Unit)=>bnd (QcA N g.1) λj=>bif (e.k==1)then(bif (decide ((wI (f.2.1+j))>e.u))then some ((WH.mk 0 0 0),19)else bif (e.k==2)then(bif (f.2.1 != 0)then some ((WH.mk 0 0 0),19)else bif (j != e.u)then some ((WH.mk 0 0 0),19)else some (g.1,0))else some (g.1,0))else bif (e.k==2)then(bif (f.2.1 != 0)then some ((WH.mk 0 0 0),19)else bif (j != e.u)then some ((WH.mk 0 0 0),19)else some (g.1,0))else some (g.1,0)) λo=>bif (e.k != 1)then(bif (e.k != 2)then some ((WH.mk 0 0 0),19)else bif (decide (f.2.1>=e.u))then some ((WH.mk 0 0 0),19)else bif (!g.2)then some ((WH.mk 0 0 0),19)else o ())else bif (decide (f.2.1>=e.u))then some ((WH.mk 0 0 0),19)else bif (!g.2)then some ((WH.mk 0 0 0),19)else o ()
def Qcb(N:Nat)(e:Uj)(f g:Int):Option (Int×Int):=bnd (QaA N e) λh=>bif (!h)then some (0,1)else bif (decide (f<0))then some (0,2)else bif (decide (f>=e.p))then some (0,2)else bif (decide (g<0))then some (0,2)else bif (decide (g>=e.W))then some (0,2)else some ((wU (wI ((wI (4096+(wI (f*e.W))))+g))),0)
def Qau(N:Nat)(f:Wp)(l:Int)(g:WJ):Nat->Int->(List Int)->Option (Ex (List Int×Int) (List Int))
 |0,_,_=>none
 |n+1,h,e=>
  bif (decide (h<g.u))then(bnd (Qcb N f.c l h) λj=>
   bnd (Qax N f j.1) λo=>
   bif (o.2 != 0)then some (.ret ([],19))
   else grd ((e.length+1)*8<=140737488355328) <|
   bif (g.k==2)then some (.nxt (e++[j.1]))
   else bnd (QcA N o.1) λp=>
   Qau N f l g n (wI (h+p)) (e++[j.1]))
  else some (.nxt e)
def Qal(N:Nat)(f:Wp)(g:Int):Option (List Int×Int):=bnd (Qab N f) λj=>bif (!j)then some ([],1)else bif (decide (g<0))then some ([],2)else bif (decide (g>=(f.p.length:Int)))then some ([],2)else bnd (Xd f.p g) λh=>bif (h.k==0)then some ([],0)else bif (h.k==3)then some ([],0)else bnd (Qau N f g h N 0 []) λe=>exK e (λr=>some r) λl=>some (l,0)
def QaP(N:Nat)(f:Wp):Nat->Int->(List Int)->Option (Ex (List Int×Int) (List Int))
 |0,_,_=>none
 |n+1,g,h=>
  bif (decide (g<(f.p.length:Int)))then(bnd (Qal N f g) λe=>
   bif (e.2 != 0)then some (.ret ([],e.2))
   else grd ((h.length+e.1.length)*8<=140737488355328) <|
   QaP N f n (wI (g+1)) (h++e.1))
  else some (.nxt h)
def Qb4(N:Nat)(f:Wp):Option (List Int×Int):=bnd (Qab N f) λg=>bif (!g)then some ([],1)else bnd (QaP N f N 0 []) λe=>exK e (λr=>some r) λh=>some (h,0)
def QaT(N:Nat)(h:Wp)(e:List Int×Int):Nat->Int->(List Int)->Option (List Int)
 |0,_,_=>none
 |n+1,f,g=>
  bif (decide (f<(e.1.length:Int)))then(bnd (Xd e.1 f) λj=>
   bnd (Qax N h j) λl=>
   bif (l.1.k != 0)then(bnd (Xd e.1 f) λo=>
    grd ((g.length+1)*8<=140737488355328) <|
    QaT N h e n (wI (f+1)) (g++[o]))
   else QaT N h e n (wI (f+1)) g)
  else some g
def Qaj(N:Nat)(e:Wp):Option (List Int×Int):=bnd (Qb4 N e) λf=>bnd (QaT N e f N 0 []) λg=>some (g,f.2)
def QaQ(N:Nat)(e:Wp)(h:Int)(f:List Int):Nat->Int->Option (Ex Int Unit)
 |0,_=>none
 |n+1,g=>
  bif (decide (g<(f.length:Int)))then(bnd (Xd f g) λq=>
   bnd (Qax N e q) λj=>
   bnd (QcA N j.1) λr=>
   bnd (Qb3 N e.c) λs=>
   bnd (Xd e.p h) λt=>
   bif (t.k==1)then(bif (!(decide (r<=s)))then(bnd (Xd f g) λu=>
       some (.ret u))
    else bnd (Xd e.p h) λw=>
    bif (w.k==2)then(bif (j.1.k==0)then(bnd (Xd f g) λl=>
        some (.ret l))
     else QaQ N e h f n (wI (g+1)))
    else QaQ N e h f n (wI (g+1)))
   else bnd (Xd e.p h) λx=>
   bif (x.k==2)then(bif (j.1.k==0)then(bnd (Xd f g) λo=>
       some (.ret o))
    else QaQ N e h f n (wI (g+1)))
   else QaQ N e h f n (wI (g+1)))
  else some (.nxt ())
def Qea(N:Nat)(f:Wp)(g:Int)(h:List Int):Option Int:=bnd (QaQ N f g h N 0) λe=>exK e (λr=>some r) λj=>some 0
def QcB(N:Nat)(f:Wp):Nat->Int->Option Int
 |0,_=>none
 |n+1,e=>
  bnd (Xd f.p e) λg=>
  bif (g.k==3)then QcB N f n (wI (e-1))
  else some e
def QeG(N:Nat)(e:Wp)(f:Int):Option Int:=bnd (QcB N e N f) λg=>some g
def QbJ(N:Nat)(f:Wp)(g:Int)(j:List Int)(l o:Int):Nat->Int->(List Bool)->Option (List Bool)
 |0,_,_=>none
 |n+1,e,h=>
  bif (decide (e<o))then(bnd (Xd j l) λp=>
   bif (decide ((wI ((wI ((wI ((wI p)-4096))+e))-(wI (g*f.c.W))))>=0))then(grd (h.length<=140737488355328) <|
    bif (decide ((wI ((wI ((wI ((wI p)-4096))+e))-(wI (g*f.c.W))))<(h.length:Int)))then(bnd (Xd h (wI ((wI ((wI ((wI p)-4096))+e))-(wI (g*f.c.W))))) λq=>
     QbJ N f g j l o n (wI (e+1)) (h.set (wI ((wI ((wI ((wI p)-4096))+e))-(wI (g*f.c.W)))).toNat true))
    else QbJ N f g j l o n (wI (e+1)) h)
   else QbJ N f g j l o n (wI (e+1)) h)
  else some h
def Qdb(N:Nat)(g:Wp)(j:Int)(e:List Int):Nat->Int->(List Bool)->Option (List Bool)
 |0,_,_=>none
 |n+1,f,l=>
  bif (decide (f<(e.length:Int)))then(bnd (Xd e f) λq=>
   bnd (Qax N g q) λo=>
   bnd (QcA N o.1) λr=>
   jn (λ(s:Int)=>
    bnd (QbJ N g j e f s N 0 l) λh=>
    Qdb N g j e n (wI (f+1)) h) λp=>
   bif (o.1.k==0)then p 1
   else p r)
  else some l
def QgG(N:Nat)(e:Wp)(g:Int)(h:List Int):Option (List Bool):=grd (0<=e.c.W/\e.c.W.toNat<=140737488355328) <| bnd (Qdb N e g h N 0 (List.replicate e.c.W.toNat false)) λf=>some f
def QgH(N:Nat)(e:Wp)(f g:Int):Option Int:=bnd (Qcb N e.c f g) λh=>bnd (Qbn N e.w h.1) λj=>some j.1
def Qfi(N:Nat)(e:Wp)(f g:Int):Option Int:=bnd (QgH N e f g) λh=>some h
def Qfq(N:Nat)(e:Wp)(f g:Int):Option Int:=some (wU (wI ((wI (4096+(wI (f*e.c.W))))+g)))
def QcC(N:Nat)(f:Wp)(g:Int)(h:List Bool):Nat->Int->Option (Ex Int Unit)
 |0,_=>none
 |n+1,e=>
  bif (decide (e<(h.length:Int)))then(bnd (Xd h e) λj=>
   bif (!j)then(bnd (Qfi N f g e) λl=>
    bif (l != 0)then(bnd (Qfq N f g e) λo=>
     some (.ret o))
    else QcC N f g h n (wI (e+1)))
   else QcC N f g h n (wI (e+1)))
  else some (.nxt ())
def Qd4(N:Nat)(f:Wp)(g:Int):Option Int:=bnd (QeG N f g) λh=>bnd (Qal N f h) λj=>bnd (QgG N f g j.1) λl=>bnd (QcC N f g l N 0) λe=>exK e (λr=>some r) λo=>some 0
def Qd5(N:Nat)(f:Wp)(e:Int):Option Ut:=jn (λ(_:Unit)=>bnd (Qal N f e) λg=>bif (g.2 != 0)then some (Ut.mk 3 e 0)else bnd (Qea N f e g.1) λh=>bif (h != 0)then some (Ut.mk 5 e h)else bnd (Qd4 N f e) λj=>bif (j != 0)then some (Ut.mk 4 e j)else some (Ut.mk 0 0 0)) λl=>bnd (Xd f.p e) λo=>bif (o.k != 0)then(bnd (Xd f.p e) λq=>bif (q.s != f.s)then some (Ut.mk 2 e 0)else l ())else l ()
def Qb0(N:Nat)(f:Wp)(g:Int):Option (WH×Int):=bnd (Qab N f) λh=>bif (!h)then some ((WH.mk 0 0 0),1)else bif (g==0)then some ((WH.mk 0 0 0),5)else bnd (Qax N f g) λe=>bif (e.2==0)then(bif (e.1.k==0)then some ((WH.mk 0 0 0),4)else some (e.1,e.2))else some (e.1,e.2)
def QcY(N:Nat)(g:List Int)(h f:Int):Option (List Int×Int):=bif (decide (f<0))then some ([],1)else bnd (QdA N g h f) λe=>bif (!e.2)then some ([],2)else grd (0<=e.1/\e.1<=(wI (e.1+f))/\(wI (e.1+f))<=(g.length:Int)) <| grd ((min ((wI (e.1+f)).toNat-e.1.toNat) (g.length-e.1.toNat))*8<=140737488355328) <| some (((g.drop e.1.toNat).take ((wI (e.1+f)).toNat-e.1.toNat)),0)
def QcZ(N:Nat)(f:Wp)(g:Int):Option (List Int×Int):=bnd (Qb0 N f g) λe=>bif (e.2 != 0)then some ([],e.2)else bnd (QcY N f.w (wU (g+1)) e.1.n) λh=>some (h.1,h.2)
def QbK(N:Nat)(e:WH)(f:Int):Option Bool:=bnd (QcP N e) λg=>bif (!g)then some false else bif (decide (f<0))then some false else bif (decide (f>=e.n))then some false else bif (e.k==2)then some true else bif (e.k==1)then(grd (0<=(wU f)) <| some ((ZI .u32 (Y5 .u32 e.Map (wU f)) 1)==1))else some false
def Qaw(N:Nat)(j:Wp)(g f:List Int×Int)(l:Int)(o:WH×Int):Nat->Int->Option (Ex Ut Unit)
 |0,_=>none
 |n+1,e=>
  bif (decide (e<(f.1.length:Int)))then(bnd (QbK N o.1 e) λs=>
   bif s then(bnd (Xd f.1 e) λt=>
    bif (t != 0)then(bnd (Xd f.1 e) λp=>
     bnd (Qba N g.1 p) λq=>
     bif (!q)then(bnd (Xd g.1 l) λh=>
      bnd (QcI N j.c (wU ((wU (h+1))+(wU e)))) λr=>
      some (.ret (Ut.mk 6 r.1 (wU ((wU (h+1))+(wU e))))))
     else Qaw N j g f l o n (wI (e+1)))
    else Qaw N j g f l o n (wI (e+1)))
   else Qaw N j g f l o n (wI (e+1)))
  else some (.nxt ())
def Qbs(N:Nat)(h:Wp)(f:List Int×Int):Nat->Int->Option (Ex Ut Unit)
 |0,_=>none
 |n+1,g=>
  bif (decide (g<(f.1.length:Int)))then(bnd (Xd f.1 g) λj=>
   bnd (Qb0 N h j) λl=>
   bnd (Xd f.1 g) λo=>
   bnd (QcZ N h o) λp=>
   bnd (Qaw N h f p g l N 0) λe=>exK e (λr=>some (.ret r)) λq=>
   Qbs N h f n (wI (g+1)))
  else some (.nxt ())
def Qdn(N:Nat)(f:Wp):Option Ut:=bnd (Qaj N f) λg=>bnd (Qbs N f g N 0) λe=>exK e (λr=>some r) λh=>some (Ut.mk 0 0 0)
def Qbj(N:Nat)(e:Wp):Nat->Int->Option (Ex Ut Unit)
 |0,_=>none
 |n+1,f=>
  bif (decide (f<(e.p.length:Int)))then(bnd (Qd5 N e f) λg=>
   bif (g.Fault != 0)then some (.ret g)
   else Qbj N e n (wI (f+1)))
  else some (.nxt ())
def Qa1(N:Nat)(e:Wp):Nat->Int->Int->Option Int
 |0,_,_=>none
 |n+1,g,f=>
  bif (decide (f<(e.p.length:Int)))then(bnd (Xd e.p f) λh=>
   bif (h.k==1)then(bnd (Xd e.p f) λj=>
    bif (decide (j.P>0))then Qa1 N e n (wI (g+1)) (wI (f+1))
    else Qa1 N e n g (wI (f+1)))
   else Qa1 N e n g (wI (f+1)))
  else some g
def QfA(N:Nat)(f:Wp):Option Ut:=bnd (Qab N f) λj=>bif (!j)then some (Ut.mk 1 0 0)else bnd (Qbj N f N 0) λe=>exK e (λr=>some r) λl=>bnd (Qdn N f) λh=>bif (h.Fault != 0)then some h else bnd (Qa1 N f N 0 0) λg=>bif (decide (g>(wI (f.c.p.tdiv 4))))then some (Ut.mk 7 0 0)else some (Ut.mk 0 0 0)
def Qb2(N:Nat)(f:Wp):Option Bool:=bnd (QfA N f) λe=>some ((e.Fault==0)&&((e.Page==0)&&(e.Addr==0)))
def QeS(N:Nat)(f:List UQ)(g:Int):Nat->Int->Option (Ex Int Unit)
 |0,_=>none
 |n+1,e=>
  bif (decide (e<(f.length:Int)))then(bnd (Xd f e) λh=>
   bif (h.a==g)then some (.ret e)
   else QeS N f g n (wI (e+1)))
  else some (.nxt ())
def QfT(N:Nat)(f:List UQ)(g:Int):Option Int:=bnd (QeS N f g N 0) λe=>exK e (λr=>some r) λh=>some (-1)
def Qfj(N:Nat)(e:Wp)(f:Int):Option Int:=bnd (QcI N e.c f) λg=>some g.1
def Qbk(N:Nat)(q:Wp)(e:List UQ)(r:List Int×Int):Nat->Int->(List Int)->Option (Ex Bool (List Int))
 |0,_,_=>none
 |n+1,f,h=>
  bif (decide (f<(e.length:Int)))then(bnd (Xd e f) λs=>
   bnd (Qba N r.1 s.a) λt=>
   bif (!t)then some (.ret false)
   else bnd (Xd e f) λu=>
   bnd (QfT N e u.a) λw=>
   bif (w != f)then some (.ret false)
   else bnd (Xd e f) λx=>
   bif (decide (x.M<1))then some (.ret false)
   else bnd (Xd e f) λj=>
   bif (decide (j.M>1000))then some (.ret false)
   else bnd (Xd e f) λl=>
   bnd (Qfj N q l.a) λg=>
   bnd (Xd h g) λo=>
   bnd (Xd e f) λp=>
   bnd (Xd h g) λy=>
   Qbk N q e r n (wI (f+1)) (h.set g.toNat (wI (o+p.M))))
  else some (.nxt h)
def QbC(N:Nat)(g:Wp)(f:List Int):Nat->Int->Option (Ex Bool Unit)
 |0,_=>none
 |n+1,e=>
  bif (decide (e<(g.p.length:Int)))then(bnd (Xd g.p e) λh=>
   bnd (Xd f e) λj=>
   bif (h.P != j)then some (.ret false)
   else QbC N g f n (wI (e+1)))
  else some (.nxt ())
def Qcc(N:Nat)(f:Wp)(h:List UQ):Option Bool:=bnd (Qb2 N f) λj=>bif (!j)then some false else bif (decide ((h.length:Int)>64))then some false else bnd (Qaj N f) λl=>grd (0<=(f.p.length:Int)/\(f.p.length:Int).toNat*8<=140737488355328) <| bnd (Qbk N f h l N 0 (List.replicate (f.p.length:Int).toNat (0:Int))) λe=>exK e (λr=>some r) λg=>bnd (QbC N f g N 0) λe=>exK e (λr=>some r) λo=>some true
def QaC(N:Nat)(e:List Int)(g:List Int×Int):Nat->Int->Option (Ex Bool Unit)
 |0,_=>none
 |n+1,f=>
  bif (decide (f<(e.length:Int)))then(bnd (Xd e f) λh=>
   bif (h != 0)then(bnd (Xd e f) λj=>
    bnd (Qba N g.1 j) λl=>
    bif (!l)then some (.ret false)
    else QaC N e g n (wI (f+1)))
   else QaC N e g n (wI (f+1)))
  else some (.nxt ())
def Qb5(N:Nat)(f:Wp)(g:List Int):Option Bool:=bnd (Qb2 N f) λh=>bif (!h)then some false else bnd (Qaj N f) λj=>bnd (QaC N g j N 0) λe=>exK e (λr=>some r) λl=>some true
def Qcd(N:Nat)(e:Uw):Option Bool:=bnd (Qcc N e.h e.P) λp=>bif (!p)then some false else bnd (Qb9 N e.l) λq=>bif (!q)then some false else bnd (Qca N e.g) λr=>bif (!r)then some false else bnd (Qca N e.v) λs=>bif (!s)then some false else bnd (Qbr N e.g) λf=>bnd (Qba N f 0) λt=>bif t then some false else grd (e.R.length*8<=140737488355328) <| bnd (Qcy N e.l) λj=>grd ((e.R.length+j.length)*8<=140737488355328) <| grd (((e.R.length+j.length)+f.length)*8<=140737488355328) <| bnd (Qbr N e.v) λo=>grd ((((e.R.length+j.length)+f.length)+o.length)*8<=140737488355328) <| bnd (Qb5 N e.h (((e.R++j)++f)++o)) λu=>some u
def Qch(N:Nat)(g:Wp)(h:List Int×Int):Nat->Int->(List WJ)->Option (List WJ)
 |0,_,_=>none
 |n+1,f,e=>
  grd (e.length<=140737488355328) <|
  bif (decide (f<(e.length:Int)))then(bnd (Xd e f) λl=>
   bif (l.k==1)then(bif (decide (l.P>0))then(bnd (Xd e f) λj=>
       Qch N g h n (wI (f+1)) (e.set f.toNat (WJ.mk j.k (wI (1-g.s)) j.u j.P)))
    else Qch N g h n (wI (f+1)) e)
   else Qch N g h n (wI (f+1)) e)
  else some e
def Qeb(N:Nat)(e:Wp):Option (W8×Int):=bnd (Qab N e) λg=>bif (!g)then some ((W8.mk zHp [] [] [] 0 (UI.mk 0 0 0 0 0 0)),1)else bnd (Qb2 N e) λh=>bif (!h)then some ((W8.mk zHp [] [] [] 0 (UI.mk 0 0 0 0 0 0)),19)else bnd (Qaj N e) λf=>grd (e.p.length*32<=140737488355328) <| bnd (Qch N e f N 0 e.p) λj=>some ((W8.mk (Wp.mk e.c e.w j e.s e.b) f.1 [] [] 0 (UI.mk 0 0 0 0 0 0)),0)
def QdJ(N:Nat)(e:Int):Option (Int×Bool):=bif ((e.tmod 4) != 2)then some (0,false)else bif (decide ((Y5 .u64 e 2)>=4294967296))then some (0,false)else some ((Y5 .u64 e 2),true)
def QcM(N:Nat)(e:W8)(g:Int):Nat->Int->Option (Ex Bool Unit)
 |0,_=>none
 |n+1,f=>
  bif (decide (f<(e.t.length:Int)))then(bnd (Xd e.t f) λh=>
   bif (h==g)then some (.ret true)
   else QcM N e g n (wI (f+1)))
  else some (.nxt ())
def Qgn(N:Nat)(f:W8)(g:Int):Option Bool:=bnd (QcM N f g N 0) λe=>exK e (λr=>some r) λh=>some false
def Qdo(N:Nat)(e:W8)(f:Int):Option Bool:=bif (decide (f<0))then some false else bif (decide (f>=(e.h.p.length:Int)))then some false else bnd (Xd e.h.p f) λg=>bif (g.k==1)then(bif (g.s != e.h.s)then(bnd (Qgn N e f) λj=>some (!j))else some false)else some false
def QbP(N:Nat)(f:List Int)(g:Int×Bool):Nat->Int->(List Int)->Option (List Int)
 |0,_,_=>none
 |n+1,e,h=>
  bif (decide (e<(f.length:Int)))then(bnd (Xd f e) λj=>
   bnd (Xd h (wI (g.1+e))) λl=>
   QbP N f g n (wI (e+1)) (h.set (wI (g.1+e)).toNat j))
  else some h
def QcQ(N:Nat)(e:List Int)(h:Int)(f:List Int):Option (List Int×Int):=bnd (QdA N e h (f.length:Int)) λg=>bif (!g.2)then some ([],2)else grd (e.length*8<=140737488355328) <| bnd (QbP N f g N 0 e) λj=>some (j,0)
def QdB(N:Nat)(f:List Int)(g h:Int):Option (List Int×Int):=bnd (QcQ N f g [h]) λe=>some (e.1,e.2)
def QdC(N:Nat)(e:W8)(g:Int):Option W8:=grd (e.q.length*8<=140737488355328) <| grd ((e.q.length+1)*8<=140737488355328) <| some (W8.mk e.h e.o e.t (e.q++[g]) e.d (UI.mk e.r.j (wI (e.r.K+1)) e.r.F e.r.E e.r.f e.r.y))
def Qdc(N:Nat)(g:List WJ):Nat->Int->(List OP)->Option (List OP)
 |0,_,_=>none
 |n+1,f,e=>
  bif (decide (f<(g.length:Int)))then(bnd (Xd g f) λj=>
   bif (j.k != 0)then Qdc N g n (wI (f+1)) e
   else grd (e.length<=140737488355328) <|
   jn (λ(_:Unit)=>
    grd ((e.length+1)*16<=140737488355328) <|
    Qdc N g n (wI (f+1)) (e++[(OP.mk f 1)])) λh=>
   bif (decide ((e.length:Int)>0))then(bnd (Xd e (wI ((e.length:Int)-1))) λl=>
    bnd (Xd e (wI ((e.length:Int)-1))) λo=>
    bif ((wI (l.O+o.Len))==f)then(bnd (Xd e (wI ((e.length:Int)-1))) λp=>
     bnd (Xd e (wI ((e.length:Int)-1))) λq=>
     Qdc N g n (wI (f+1)) (e.set (wI ((e.length:Int)-1)).toNat (OP.mk q.O (wI (p.Len+1)))))
    else h ())
   else h ())
  else some e
def Qhc(N:Nat)(e:List WJ):Option (List OP):=bnd (Qdc N e N 0 []) λf=>some f
def Qej(N:Nat)(g:Int)(e:List OP):Nat->Int->Option (Ex Int Unit)
 |0,_=>none
 |n+1,f=>
  bif (decide (f<(e.length:Int)))then(bif (decide (g>=1))then(bnd (Xd e f) λh=>
      bif (decide (h.Len>=g))then(bnd (Xd e f) λj=>
       some (.ret j.O))
      else Qej N g e n (wI (f+1)))
   else Qej N g e n (wI (f+1)))
  else some (.nxt ())
def QcR(N:Nat)(f:List WJ)(g:Int):Option Int:=bnd (Qhc N f) λh=>bnd (Qej N g h N 0) λe=>exK e (λr=>some r) λj=>some (-1)
def QdV(N:Nat)(f h:Int)(l j:WJ):Nat->Int->(List WJ)->Option (Ex (List WJ×Int) (List WJ))
 |0,_,_=>none
 |n+1,e,g=>
  bif (decide (e<h))then(bnd (Xd g (wI (f+e))) λo=>
   bif (o.k != 0)then some (.ret ([],20))
   else bnd (Xd g (wI (f+e))) λp=>
   QdV N f h l j n (wI (e+1)) (g.set (wI (f+e)).toNat j))
  else some (.nxt g)
def QeH(N:Nat)(g:List WJ)(f h:Int)(j o:WJ):Option (List WJ×Int):=bif (decide (f<0))then some ([],2)else bif (decide (f>=(g.length:Int)))then some ([],2)else bif (decide (h>(wI ((g.length:Int)-f))))then some ([],2)else grd (g.length*32<=140737488355328) <| bnd (QdV N f h j o N 0 g) λe=>exK e (λr=>some r) λl=>bnd (Xd l f) λp=>some ((l.set f.toNat j),0)
def QdD(N:Nat)(g:List WJ)(h e:Int):Option (List WJ×Int):=bif (decide (e<0))then some ([],1)else bif (decide (e>1))then some ([],1)else bnd (QeH N g h 1 (WJ.mk 1 e 0 0) (WJ.mk 0 0 0 0)) λf=>some (f.1,f.2)
def QfB(N:Nat)(e:W8)(y:Int):Option (W8×Int×Bool):=grd (e.h.p.length*32<=140737488355328) <| jn (λ(_:Unit)=>bnd (QcR N e.h.p 1) λf=>bif (decide (f<0))then some ((W8.mk zHp [] [] [] 0 (UI.mk 0 0 0 0 0 0)),0,false)else bnd (QdD N e.h.p f (wI (1-e.h.s))) λx=>grd (e.t.length*8<=140737488355328) <| grd ((e.t.length+1)*8<=140737488355328) <| bnd (Xd x.1 f) λz=>bnd (Xd x.1 f) λA=>bnd (Xd x.1 f) λg=>some ((W8.mk (Wp.mk e.h.c e.h.w (x.1.set f.toNat (WJ.mk g.k g.s (wI (A.u+y)) g.P)) e.h.s e.h.b) e.o (e.t++[f]) e.q e.d e.r),(wU (wI ((wI (4096+(wI (f*e.h.c.W))))+z.u))),true)) λE=>bif (decide ((e.t.length:Int)>0))then(bnd (Xd e.t (wI ((e.t.length:Int)-1))) λG=>bnd (Xd e.h.p G) λH=>bif (decide ((wI (H.u+y))<=e.h.c.W))then(bnd (Xd e.t (wI ((e.t.length:Int)-1))) λl=>bnd (Xd e.h.p l) λB=>bnd (Xd e.h.p l) λD=>bnd (Xd e.h.p l) λj=>some ((W8.mk (Wp.mk e.h.c e.h.w (e.h.p.set l.toNat (WJ.mk j.k j.s (wI (D.u+y)) j.P)) e.h.s e.h.b) e.o e.t e.q e.d e.r),(wU (wI ((wI (4096+(wI (l*e.h.c.W))))+B.u))),true))else E ())else E ()
def Qfk(N:Nat)(f:List Int)(h j l:Int):Option (List Int×Int):=bnd (QcY N f j l) λe=>bif (e.2 != 0)then some ([],e.2)else bnd (QcQ N f h e.1) λg=>some (g.1,g.2)
def QdW(N:Nat)(e:Int):Option (Int×Int):=bif (decide (e>=4294967296))then some (0,1)else some ((wU ((wU (4*e))+2)),0)
def QbG(N:Nat)(l:W8)(o:Int):Nat->Int->(List WJ)->Option (List WJ)
 |0,_,_=>none
 |n+1,f,e=>
  grd (e.length<=140737488355328) <|
  bif (decide (f<(e.length:Int)))then(bnd (Xd e f) λj=>
   bif (j.k==3)then(bnd (Xd e f) λg=>
    QbG N l o n (wI (f+1)) (e.set f.toNat (WJ.mk g.k (wI (1-l.h.s)) g.u g.P)))
   else some e)
  else some e
def Qce(N:Nat)(g:W8)(l:Int):Option (W8×Int×Int):=bif (l==0)then some (g,l,0)else bnd (Qba N g.q l) λO=>bif O then some (g,l,0)else bnd (Qba N g.o l) λQ=>bif (!Q)then some ((W8.mk zHp [] [] [] 0 (UI.mk 0 0 0 0 0 0)),0,19)else bnd (Qbn N g.h.w l) λL=>bnd (QdJ N L.1) λM=>bif M.2 then some (g,M.1,0)else bnd (QcI N g.h.c l) λx=>bif (x.2.2 != 0)then some ((W8.mk zHp [] [] [] 0 (UI.mk 0 0 0 0 0 0)),0,19)else bif (decide (x.1>=(g.h.p.length:Int)))then some ((W8.mk zHp [] [] [] 0 (UI.mk 0 0 0 0 0 0)),0,19)else bnd (Qdo N g x.1) λR=>bif R then(bnd (QdC N g l) λS=>some (S,l,0))else bnd (Xd g.h.p x.1) λT=>bif (T.k==2)then(grd (g.h.p.length*32<=140737488355328) <| bnd (Xd g.h.p x.1) λA=>bnd (QbG N g l N (wI (x.1+1)) (g.h.p.set x.1.toNat (WJ.mk A.k (wI (1-g.h.s)) A.u A.P))) λB=>bnd (QdC N (W8.mk (Wp.mk g.h.c g.h.w B g.h.s g.h.b) g.o g.t g.q g.d g.r) l) λD=>some (D,l,0))else bnd (Qcr N L.1) λG=>bnd (QcA N G.1) λz=>bnd (QfB N g z) λe=>bif (!e.2.2)then some ((W8.mk zHp [] [] [] 0 (UI.mk 0 0 0 0 0 0)),0,3)else bnd (Qfk N e.1.h.w e.2.1 l z) λH=>bnd (QdW N e.2.1) λI=>bnd (QdB N H.1 l I.1) λJ=>grd (e.1.q.length*8<=140737488355328) <| grd ((e.1.q.length+1)*8<=140737488355328) <| some ((W8.mk (Wp.mk e.1.h.c J.1 e.1.h.p e.1.h.s e.1.h.b) e.1.o e.1.t (e.1.q++[e.2.1]) e.1.d (UI.mk (wI (e.1.r.j+1)) e.1.r.K e.1.r.F e.1.r.E e.1.r.f e.1.r.y)),e.2.1,0)
def QbD(N:Nat)(H:List Int):Nat->Int->Int->Int->(List Int)->(List WJ)->Int->Int->(List Int)->(List Int)->(List Int)->Int->Int->Int->Int->Int->Int->Int->(List Int)->Option (Ex (W8×List Int×Int) (Int×Int×List Int×List WJ×Int×Int×List Int×List Int×List Int×Int×Int×Int×Int×Int×Int×Int×List Int))
 |0,_,_,_,_,_,_,_,_,_,_,_,_,_,_,_,_,_,_=>none
 |n+1,I,L,M,O,Q,R,S,T,U,l,u,x,z,A,B,D,G,g=>
  bif (decide (I<(H.length:Int)))then(bnd (Xd H I) λJ=>
   bnd (Qce N (W8.mk (Wp.mk (Uj.mk L M) O Q R S) T U l u (UI.mk x z A B D G)) J) λe=>
   bif (e.2.2 != 0)then some (.ret ((W8.mk zHp [] [] [] 0 (UI.mk 0 0 0 0 0 0)),[],e.2.2))
   else grd ((g.length+1)*8<=140737488355328) <|
   QbD N H n (wI (I+1)) e.1.h.c.W e.1.h.c.p e.1.h.w e.1.h.p e.1.h.s e.1.h.b e.1.o e.1.t e.1.q e.1.d e.1.r.j e.1.r.K e.1.r.F e.1.r.E e.1.r.f e.1.r.y (g++[e.2.1]))
  else some (.nxt (L,M,O,Q,R,S,T,U,l,u,x,z,A,B,D,G,g))
def QeT(N:Nat)(l:W8)(u:List Int):Option (W8×List Int×Int):=bnd (QbD N u N 0 l.h.c.W l.h.c.p l.h.w l.h.p l.h.s l.h.b l.o l.t l.q l.d l.r.j l.r.K l.r.F l.r.E l.r.f l.r.y []) λe=>exK e (λr=>some r) λg=>some ((W8.mk (Wp.mk (Uj.mk g.1 g.2.1) g.2.2.1 g.2.2.2.1 g.2.2.2.2.1 g.2.2.2.2.2.1) g.2.2.2.2.2.2.1 g.2.2.2.2.2.2.2.1 g.2.2.2.2.2.2.2.2.1 g.2.2.2.2.2.2.2.2.2.1 (UI.mk g.2.2.2.2.2.2.2.2.2.2.1 g.2.2.2.2.2.2.2.2.2.2.2.1 g.2.2.2.2.2.2.2.2.2.2.2.2.1 g.2.2.2.2.2.2.2.2.2.2.2.2.2.1 g.2.2.2.2.2.2.2.2.2.2.2.2.2.2.1 g.2.2.2.2.2.2.2.2.2.2.2.2.2.2.2.1)),g.2.2.2.2.2.2.2.2.2.2.2.2.2.2.2.2,0)
def Qec(N:Nat)(e:W8)(f:Int):Option WH:=bnd (Qbn N e.h.w f) λg=>bnd (Qcr N g.1) λj=>some j.1
def Qb1(N:Nat)(e:WH):Nat->Int->(List Int)->Option (List Int)
 |0,_,_=>none
 |n+1,f,g=>
  bif (decide (f<e.n))then(bnd (QcP N e) λh=>
   bif h then(bnd (QbK N e f) λj=>
    bif j then(grd ((g.length+1)*8<=140737488355328) <|
     Qb1 N e n (wI (f+1)) (g++[f]))
    else Qb1 N e n (wI (f+1)) g)
   else some g)
  else some g
def Qe6(N:Nat)(e:WH):Option (List Int):=bnd (Qb1 N e N 0 []) λf=>some f
def QbL(N:Nat)(L:Int)(M:List Int):Nat->Int->Int->Int->(List Int)->(List WJ)->Int->Int->(List Int)->(List Int)->(List Int)->Int->Int->Int->Int->Int->Int->Int->Option (Ex (W8×Bool×Int) (Int×Int×List Int×List WJ×Int×Int×List Int×List Int×List Int×Int×Int×Int×Int×Int×Int×Int))
 |0,_,_,_,_,_,_,_,_,_,_,_,_,_,_,_,_,_=>none
 |n+1,O,T,U,Q,V,Y,g,l,u,x,z,A,B,D,G,H,I=>
  bif (decide (O<(M.length:Int)))then(bnd (Xd M O) λJ=>
   bnd (Qbn N Q (wU ((wU (L+1))+(wU J)))) λR=>
   bnd (Qce N (W8.mk (Wp.mk (Uj.mk T U) Q V Y g) l u x z (UI.mk A B D G H I)) R.1) λe=>
   bif (e.2.2 != 0)then some (.ret ((W8.mk zHp [] [] [] 0 (UI.mk 0 0 0 0 0 0)),false,e.2.2))
   else bnd (QdB N e.1.h.w (wU ((wU (L+1))+(wU J))) e.2.1) λS=>
   QbL N L M n (wI (O+1)) e.1.h.c.W e.1.h.c.p S.1 e.1.h.p e.1.h.s e.1.h.b e.1.o e.1.t e.1.q e.1.d e.1.r.j e.1.r.K e.1.r.F e.1.r.E e.1.r.f e.1.r.y)
  else some (.nxt (T,U,Q,V,Y,g,l,u,x,z,A,B,D,G,H,I))
def QeI(N:Nat)(l:W8):Option (W8×Bool×Int):=bif (decide (l.d>=(l.q.length:Int)))then some (l,false,0)else bnd (Xd l.q l.d) λu=>bnd (Qec N l u) λz=>bnd (Qe6 N z) λx=>bnd (QbL N u x N 0 l.h.c.W l.h.c.p l.h.w l.h.p l.h.s l.h.b l.o l.t l.q l.d l.r.j l.r.K l.r.F l.r.E l.r.f l.r.y) λe=>exK e (λr=>some r) λg=>some ((W8.mk (Wp.mk (Uj.mk g.1 g.2.1) g.2.2.1 g.2.2.2.1 g.2.2.2.2.1 g.2.2.2.2.2.1) g.2.2.2.2.2.2.1 g.2.2.2.2.2.2.2.1 g.2.2.2.2.2.2.2.2.1 (wI (g.2.2.2.2.2.2.2.2.2.1+1)) (UI.mk g.2.2.2.2.2.2.2.2.2.2.1 g.2.2.2.2.2.2.2.2.2.2.2.1 g.2.2.2.2.2.2.2.2.2.2.2.2.1 g.2.2.2.2.2.2.2.2.2.2.2.2.2.1 g.2.2.2.2.2.2.2.2.2.2.2.2.2.2.1 (wI ((wI (g.2.2.2.2.2.2.2.2.2.2.2.2.2.2.2+1))+(x.length:Int))))),true,0)
def Qcs(N:Nat):Nat->Int->Int->(List Int)->(List WJ)->Int->Int->(List Int)->(List Int)->(List Int)->Int->Int->Int->Int->Int->Int->Int->Option (W8×Int)
 |0,_,_,_,_,_,_,_,_,_,_,_,_,_,_,_,_=>none
 |n+1,D,G,H,I,J,L,M,O,Q,g,l,u,x,z,A,B=>
  bnd (QeI N (W8.mk (Wp.mk (Uj.mk D G) H I J L) M O Q g (UI.mk l u x z A B))) λe=>
  bif (e.2.2 != 0)then some ((W8.mk zHp [] [] [] 0 (UI.mk 0 0 0 0 0 0)),e.2.2)
  else bif (!e.2.1)then some (e.1,0)
  else Qcs N n e.1.h.c.W e.1.h.c.p e.1.h.w e.1.h.p e.1.h.s e.1.h.b e.1.o e.1.t e.1.q e.1.d e.1.r.j e.1.r.K e.1.r.F e.1.r.E e.1.r.f e.1.r.y
def QfU(N:Nat)(e:W8):Option (W8×Int):=bnd (Qcs N N e.h.c.W e.h.c.p e.h.w e.h.p e.h.s e.h.b e.o e.t e.q e.d e.r.j e.r.K e.r.F e.r.E e.r.f e.r.y) λr=>some r
def QdE(N:Nat)(f:W8)(e:Int):Option Int:=bnd (Qba N f.q e) λg=>bif g then some e else bnd (Qbn N f.h.w e) λj=>bnd (QdJ N j.1) λl=>some l.1
def Qby(N:Nat)(e:W8)(l:List WJ)(o:WJ)(g p:Int):Nat->Int->(List Int)->Option (List Int)
 |0,_,_=>none
 |n+1,f,j=>
  bif (decide (f<e.h.c.W))then(bnd (Xd j (wI ((wI (g*e.h.c.W))+f))) λq=>
   Qby N e l o g p n (wI (f+1)) (j.set (wI ((wI (g*e.h.c.W))+f)).toNat 0))
  else some j
def Qa4(N:Nat)(g:W8):Nat->Int->Int->(List Int)->(List WJ)->Option (Int×List Int×List WJ)
 |0,_,_,_,_=>none
 |n+1,f,j,l,e=>
  grd (e.length<=140737488355328) <|
  bif (decide (f<(e.length:Int)))then(bnd (Xd e f) λo=>
   bif (o.k==0)then Qa4 N g n (wI (f+1)) j l e
   else bif (o.s != g.h.s)then Qa4 N g n (wI (f+1)) j l e
   else bnd (Xd e f) λq=>
   bnd (Qby N g e o f j N 0 l) λp=>
   Qa4 N g n (wI (f+1)) (wI (j+1)) p (e.set f.toNat (WJ.mk 0 0 0 0)))
  else some (j,l,e)
def Qfl(N:Nat)(e:W8):Option W8:=grd (e.h.p.length*32<=140737488355328) <| grd (e.h.w.length*8<=140737488355328) <| bnd (Qa4 N e N 0 e.r.E e.h.w e.h.p) λg=>some (W8.mk (Wp.mk e.h.c g.2.1 g.2.2 e.h.s e.h.b) e.o e.t e.q e.d (UI.mk e.r.j e.r.K e.r.F g.1 e.r.f e.r.y))
def QaJ(N:Nat)(e:W8):Nat->Int->(List Int)->Int->Option (List Int×Int)
 |0,_,_,_=>none
 |n+1,l,u,w=>
  bif (decide (l<(e.o.length:Int)))then(bnd (Xd e.o l) λB=>
   bnd (QcI N e.h.c B) λD=>
   bnd (Qdo N (W8.mk (Wp.mk e.h.c u e.h.p e.h.s e.h.b) e.o e.t e.q e.d (UI.mk e.r.j e.r.K w e.r.E e.r.f e.r.y)) D.1) λG=>
   bif (!G)then QaJ N e n (wI (l+1)) u w
   else bnd (Xd e.o l) λH=>
   bnd (Qba N e.q H) λI=>
   bif I then QaJ N e n (wI (l+1)) u w
   else bnd (Xd e.o l) λJ=>
   bnd (Qec N (W8.mk (Wp.mk e.h.c u e.h.p e.h.s e.h.b) e.o e.t e.q e.d (UI.mk e.r.j e.r.K w e.r.E e.r.f e.r.y)) J) λg=>
   bnd (QcX N (WH.mk 0 g.n 0)) λx=>
   bnd (Xd e.o l) λz=>
   grd (0<=g.n/\g.n.toNat*8<=140737488355328) <|
   grd ((1+g.n.toNat)*8<=140737488355328) <|
   bnd (QcQ N u z ([x.1]++(List.replicate g.n.toNat (0:Int)))) λA=>
   QaJ N e n (wI (l+1)) A.1 (wI (w+1)))
  else some (u,w)
def Qfm(N:Nat)(e:W8):Option W8:=bnd (QaJ N e N 0 e.h.w e.r.F) λg=>some (W8.mk (Wp.mk e.h.c g.1 e.h.p e.h.s e.h.b) e.o e.t e.q e.d (UI.mk e.r.j e.r.K g.2 e.r.E e.r.f e.r.y))
def QaU(N:Nat)(l:List Int)(G:W8×List Int×Int)(e:W8×Int):Nat->Int->Int->(List Int)->Option (Int×List Int)
 |0,_,_,_=>none
 |n+1,p,f,s=>
  bif (decide (p<(l.length:Int)))then(bnd (Xd l p) λu=>
   jn (λ(w x:Int)=>
    grd ((s.length+1)*8<=140737488355328) <|
    QaU N l G e n (wI (p+1)) x (s++[w])) λB=>
   bif (u != 0)then(bnd (Xd l p) λz=>
    bnd (QdE N (W8.mk e.1.h e.1.o e.1.t e.1.q e.1.d (UI.mk e.1.r.j e.1.r.K e.1.r.F e.1.r.E f e.1.r.y)) z) λg=>
    jn (λ(A:Int)=>
     B g A) λD=>
    bif (g==0)then D (wI (f+1))
    else D f)
   else B 0 f)
  else some (f,s)
def Qdd(N:Nat)(x:Wp)(D G:List Int):Option (Wp×List Int×List Int×UI×Int):=bnd (Qab N x) λJ=>bif (!J)then some (zHp,[],[],(UI.mk 0 0 0 0 0 0),1)else jn (λ(_:Unit)=>some (zHp,[],[],(UI.mk 0 0 0 0 0 0),19)) λH=>bnd (Qb5 N x D) λL=>bif (!L)then H ()else bnd (Qb5 N x G) λM=>bif (!M)then H ()else bnd (Qeb N x) λO=>bnd (QeT N O.1 D) λl=>bif (l.2.2 != 0)then some (zHp,[],[],(UI.mk 0 0 0 0 0 0),l.2.2)else bnd (QfU N l.1) λg=>bif (g.2 != 0)then some (zHp,[],[],(UI.mk 0 0 0 0 0 0),g.2)else bnd (QaU N G l g N 0 g.1.r.f []) λu=>bnd (Qfm N (W8.mk g.1.h g.1.o g.1.t g.1.q g.1.d (UI.mk g.1.r.j g.1.r.K g.1.r.F g.1.r.E u.1 g.1.r.y))) λz=>bnd (Qfl N z) λe=>jn (λ(A:Int)=>some ((Wp.mk e.h.c e.h.w e.h.p (wI (1-e.h.s)) A),l.2.1,u.2,e.r,0)) λI=>bif (decide ((e.t.length:Int)>0))then(bnd (Xd e.t (wI ((e.t.length:Int)-1))) λB=>I B)else I (-1)
def Qbz(N:Nat)(j:WD)(g:List Int):Nat->Int->Int->(List UW)->Option (Ex (WD×Int) (List UW))
 |0,_,_,_=>none
 |n+1,h,f,e=>
  grd (e.length<=140737488355328) <|
  bif (decide (f<(e.length:Int)))then(bnd (Xd e f) λo=>
   bif (!o.V)then Qbz N j g n h (wI (f+1)) e
   else bnd (Xd g h) λp=>
   bif (p==0)then some (.ret ((WD.mk [] [] []),1))
   else bnd (Xd g h) λq=>
   bnd (Xd e f) λl=>
   Qbz N j g n (wI (h+1)) (wI (f+1)) (e.set f.toNat (UW.mk l.J q l.V)))
  else some (.nxt e)
def Qd6(N:Nat)(f:WD)(h:List Int):Option (WD×Int):=bnd (Qb9 N f) λj=>bif (!j)then some ((WD.mk [] [] []),1)else bnd (Qcy N f) λl=>bif ((h.length:Int) != (l.length:Int))then some ((WD.mk [] [] []),1)else grd (f.S.length*24<=140737488355328) <| bnd (Qbz N f h N 0 0 f.S) λe=>exK e (λr=>some r) λg=>some ((WD.mk g f.x f.i),0)
def QbA(N:Nat)(g:List Int):Nat->Int->Int->(List Ul)->Option (List Ul)
 |0,_,_,_=>none
 |n+1,h,f,e=>
  grd (e.length<=140737488355328) <|
  bif (decide (f<(e.length:Int)))then(bnd (Xd e f) λl=>
   bif l.V then(bnd (Xd g h) λo=>
    bnd (Xd e f) λj=>
    QbA N g n (wI (h+1)) (wI (f+1)) (e.set f.toNat (Ul.mk j.G o j.V)))
   else QbA N g n h (wI (f+1)) e)
  else some e
def QcD(N:Nat)(f:W4)(g:List Int):Option (W4×Int):=bnd (Qca N f) λj=>bif (!j)then some ((W4.mk []),1)else bnd (Qbr N f) λh=>grd (h.length<=140737488355328) <| bif ((g.length:Int) != (h.length:Int))then some ((W4.mk []),1)else grd (f.e.length*24<=140737488355328) <| bnd (QbA N g N 0 0 f.e) λl=>some ((W4.mk l),0)
def Qa6(N:Nat)(g:Uw)(l:Wp×List Int×List Int×UI×Int)(o p:List Int)(q:WD×Int)(r s:W4×Int):Nat->Int->(List UQ)->Option (List UQ)
 |0,_,_=>none
 |n+1,e,f=>
  bif (decide (e<(g.P.length:Int)))then(bnd (Xd l.2.1 (wI ((wI ((wI ((g.R.length:Int)+(o.length:Int)))+(p.length:Int)))+e))) λh=>
   bnd (Xd g.P e) λj=>
   grd ((f.length+1)*16<=140737488355328) <|
   Qa6 N g l o p q r s n (wI (e+1)) (f++[(UQ.mk h j.M)]))
  else some f
def Qcf(N:Nat)(e:Uw):Option (Uw×UI×Int):=bnd (Qcd N e) λt=>bif (!t)then some ((Uw.mk zHp (WD.mk [] [] []) (W4.mk []) (W4.mk []) [] []),(UI.mk 0 0 0 0 0 0),19)else bnd (QcW N e) λu=>bnd (Qbr N e.v) λw=>bnd (Qdd N e.h u w) λf=>bif (f.2.2.2.2 != 0)then some ((Uw.mk zHp (WD.mk [] [] []) (W4.mk []) (W4.mk []) [] []),(UI.mk 0 0 0 0 0 0),f.2.2.2.2)else bnd (Qcy N e.l) λj=>bnd (Qbr N e.g) λo=>grd (o.length<=140737488355328) <| grd (0<=0/\0<=(e.R.length:Int)/\(e.R.length:Int)<=(f.2.1.length:Int)) <| grd ((min ((e.R.length:Int).toNat) f.2.1.length)*8<=140737488355328) <| grd (0<=(e.R.length:Int)/\(e.R.length:Int)<=(wI ((e.R.length:Int)+(j.length:Int)))/\(wI ((e.R.length:Int)+(j.length:Int)))<=(f.2.1.length:Int)) <| bnd (Qd6 N e.l ((f.2.1.drop (e.R.length:Int).toNat).take ((wI ((e.R.length:Int)+(j.length:Int))).toNat-(e.R.length:Int).toNat))) λq=>grd (0<=(wI ((e.R.length:Int)+(j.length:Int)))/\(wI ((e.R.length:Int)+(j.length:Int)))<=(wI ((wI ((e.R.length:Int)+(j.length:Int)))+(o.length:Int)))/\(wI ((wI ((e.R.length:Int)+(j.length:Int)))+(o.length:Int)))<=(f.2.1.length:Int)) <| bnd (QcD N e.g ((f.2.1.drop (wI ((e.R.length:Int)+(j.length:Int))).toNat).take ((wI ((wI ((e.R.length:Int)+(j.length:Int)))+(o.length:Int))).toNat-(wI ((e.R.length:Int)+(j.length:Int))).toNat))) λr=>bnd (QcD N e.v f.2.2.1) λs=>bnd (Qa6 N e f j o q r s N 0 []) λp=>some ((Uw.mk f.1 q.1 r.1 s.1 p (f.2.1.take (e.R.length:Int).toNat)),f.2.2.2.1,0)
def Qc0(N:Nat)(g:WE)(e:List Int):Nat->Int->Option (Ex Bool Unit)
 |0,_=>none
 |n+1,f=>
  bif (decide (f<(e.length:Int)))then(bnd (Xd e f) λh=>
   bif (decide (h>(wU (g.T.length:Int))))then some (.ret false)
   else Qc0 N g e n (wI (f+1)))
  else some (.nxt ())
def Qc1(N:Nat)(f:WE)(g:List Int):Option Bool:=bnd (Qc0 N f g N 0) λe=>exK e (λr=>some r) λh=>some true
def QdX(N:Nat)(e:UO):Nat->Int->(List Int)->Option (List Int)
 |0,_,_=>none
 |n+1,f,g=>
  bif (decide (f<(e.D.length:Int)))then(bnd (QbK N e.H f) λh=>
   bif h then(bnd (Xd e.D f) λj=>
    grd ((g.length+1)*8<=140737488355328) <|
    QdX N e n (wI (f+1)) (g++[j]))
   else QdX N e n (wI (f+1)) g)
  else some g
def Qf7(N:Nat)(e:UO):Option (List Int):=bnd (QdX N e N 0 []) λf=>some f
def Qex(N:Nat)(f:WE)(g:Int):Nat->Int->Option (Ex Int Unit)
 |0,_=>none
 |n+1,e=>
  bif (decide (e<(f.m.length:Int)))then(bnd (Xd f.m e) λh=>
   bif (h.I==g)then some (.ret e)
   else Qex N f g n (wI (e+1)))
  else some (.nxt ())
def Qfn(N:Nat)(f:WE)(g:Int):Option Int:=bnd (Qex N f g N 0) λe=>exK e (λr=>some r) λh=>some (-1)
def Qdp(N:Nat)(f:WE):Nat->Int->Option (Ex Bool Unit)
 |0,_=>none
 |n+1,g=>
  bif (decide (g<(f.T.length:Int)))then(bnd (Xd f.T g) λe=>
   bnd (QcP N e.H) λh=>
   bif (!h)then some (.ret false)
   else bif (e.H.k==0)then some (.ret false)
   else bif ((e.D.length:Int) != e.H.n)then some (.ret false)
   else bnd (Qf7 N e) λj=>
   bnd (Qc1 N f j) λl=>
   bif (!l)then some (.ret false)
   else Qdp N f n (wI (g+1)))
  else some (.nxt ())
def Qdq(N:Nat)(h:WE)(e:List Int):Nat->Int->Option (Ex Bool Unit)
 |0,_=>none
 |n+1,f=>
  grd (e.length<=140737488355328) <|
  bif (decide (f<(e.length:Int)))then(bnd (Xd e f) λg=>
   bif (g==0)then some (.ret false)
   else Qdq N h e n (wI (f+1)))
  else some (.nxt ())
def Qdr(N:Nat)(g:WE)(h:List Int):Nat->Int->Option (Ex Bool Unit)
 |0,_=>none
 |n+1,f=>
  bif (decide (f<(g.m.length:Int)))then(bnd (Xd g.m f) λe=>
   bif (decide (e.I<1))then some (.ret false)
   else bif (decide (e.I>(wU (g.T.length:Int))))then some (.ret false)
   else bnd (Qfn N g e.I) λj=>
   bif (j != f)then some (.ret false)
   else bif (decide (e.M<1))then some (.ret false)
   else bif (decide (e.M>1000))then some (.ret false)
   else Qdr N g h n (wI (f+1)))
  else some (.nxt ())
def Qed(N:Nat)(f:WE):Option Bool:=bnd (QaA N f.c) λu=>bif (!u)then some false else bnd (Qb9 N f.l) λw=>bif (!w)then some false else bnd (Qca N f.g) λx=>bif (!x)then some false else bnd (Qca N f.v) λy=>bif (!y)then some false else bif (decide ((f.m.length:Int)>64))then some false else bnd (Qdp N f N 0) λe=>exK e (λr=>some r) λz=>bnd (Qbr N f.g) λh=>bnd (Qdq N f h N 0) λe=>exK e (λr=>some r) λA=>bnd (Qdr N f h N 0) λe=>exK e (λr=>some r) λB=>bnd (Qc1 N f f.R) λj=>bif j then(bnd (Qcy N f.l) λo=>bnd (Qc1 N f o) λp=>bif p then(bnd (Qc1 N f h) λq=>bif q then(bnd (Qbr N f.v) λs=>bnd (Qc1 N f s) λt=>some t)else some false)else some false)else some false
def Qc2(N:Nat)(e:WE):Nat->Int->(List Int)->Option (List Int)
 |0,_,_=>none
 |n+1,f,g=>
  bif (decide (f<(e.m.length:Int)))then(bnd (Xd e.m f) λh=>
   grd ((g.length+1)*8<=140737488355328) <|
   Qc2 N e n (wI (f+1)) (g++[h.I]))
  else some g
def Qe7(N:Nat)(e:WE):Option (List Int):=grd (e.R.length*8<=140737488355328) <| bnd (Qcy N e.l) λf=>grd ((e.R.length+f.length)*8<=140737488355328) <| bnd (Qbr N e.g) λh=>grd (((e.R.length+f.length)+h.length)*8<=140737488355328) <| bnd (Qc2 N e N 0 ((e.R++f)++h)) λj=>some j
def Qa7(N:Nat)(j:WE):Nat->Int->(List Bool)->(List Int)->Option (List Bool)
 |0,_,_,_=>none
 |n+1,f,g,e=>
  grd (e.length<=140737488355328) <|
  bif (decide (f<(e.length:Int)))then(bnd (Xd e f) λq=>
   bif (q==0)then Qa7 N j n (wI (f+1)) g e
   else bnd (Xd e f) λr=>
   bnd (Xd g (wU (r-1))) λs=>
   bif s then Qa7 N j n (wI (f+1)) g e
   else bnd (Xd e f) λp=>
   bnd (Xd g (wU (p-1))) λt=>
   bnd (Xd e f) λl=>
   bnd (Xd j.T (wU (l-1))) λo=>
   bnd (Qf7 N o) λh=>
   grd ((e.length+h.length)*8<=140737488355328) <|
   Qa7 N j n (wI (f+1)) (g.set (wU (p-1)).toNat true) (e++h))
  else some g
def QdY(N:Nat)(e:WE):Option (List Bool):=bnd (Qed N e) λg=>bif (!g)then some []else grd (0<=(e.T.length:Int)/\(e.T.length:Int).toNat<=140737488355328) <| bnd (Qe7 N e) λh=>bnd (Qa7 N e N 0 (List.replicate (e.T.length:Int).toNat false) h) λf=>some f
def QaH(N:Nat)(h:WE)(g:List Bool):Nat->Int->(List Int)->Option (List Int)
 |0,_,_=>none
 |n+1,f,e=>
  grd (e.length<=140737488355328) <|
  bif (decide (f<(e.length:Int)))then(bnd (Xd e f) λj=>
   bif (j != 0)then(bnd (Xd e f) λl=>
    bnd (Xd g (wU (l-1))) λo=>
    bif (!o)then(bnd (Xd e f) λp=>
     QaH N h g n (wI (f+1)) (e.set f.toNat 0))
    else QaH N h g n (wI (f+1)) e)
   else QaH N h g n (wI (f+1)) e)
  else some e
def QbB(N:Nat)(e:WE):Option (WE×Int):=bnd (Qed N e) λj=>bif (!j)then some (zWd,19)else bnd (QdY N e) λo=>bnd (Qbr N e.v) λp=>bnd (QaH N e o N 0 p) λf=>bnd (QcD N e.v f) λh=>some ((WE.mk e.c e.T e.l e.g h.1 e.m e.R),0)
def Qaa(N:Nat)(e:Int):Option (Uw×Int×Int):=some ((Uw.mk zHp (WD.mk [] [] []) (W4.mk []) (W4.mk []) [] []),0,e)
def Qcg(N:Nat)(f e g:Int):Option (WH×Bool):=bif (f==1)then(bif (decide (e<=2147483647))then some ((WH.mk f (wI (ZI .u64 e 2147483647)) (wW g)),(decide (g<=4294967295)))else some ((WH.mk f (wI (ZI .u64 e 2147483647)) (wW g)),false))else some ((WH.mk f (wI (ZI .u64 e 2147483647)) 0),(decide (e<=2147483647)))
def Qc3(N:Nat)(f:Uj)(e:WH):Option Bool:=bnd (QcP N e) λg=>bif g then(bif (e.k != 0)then(bnd (QcA N e) λh=>bnd (QeF N f h) λj=>some (j != (-1)))else some false)else some false
def Qee(N:Nat)(e:WD)(f:Int):Option (WD×Int×Int×Int):=bnd (Qb9 N e) λg=>bif (!g)then some ((WD.mk [] [] []),0,0,1)else bif (f==0)then some ((WD.mk [] [] []),0,0,1)else bif ((e.x.length:Int)==0)then some ((WD.mk [] [] []),0,0,9)else bnd (Xd e.x (wI ((e.x.length:Int)-1))) λh=>bnd (Qf6 N e h.O (e.S.length:Int)) λj=>bnd (Xd e.x (wI ((e.x.length:Int)-1))) λl=>bif (decide (j>=l.C0))then some ((WD.mk [] [] []),0,0,10)else bif ((e.i.length:Int)==4096)then some ((WD.mk [] [] []),0,0,18)else grd (e.i.length*8<=140737488355328) <| grd ((e.i.length+1)*8<=140737488355328) <| grd (e.S.length*24<=140737488355328) <| grd ((e.S.length+1)*24<=140737488355328) <| some ((WD.mk (e.S++[(UW.mk (wI ((e.i.length:Int)+1)) f true)]) e.x (e.i++[(e.S.length:Int)])),(e.S.length:Int),(wI ((e.i.length:Int)+1)),0)
def QfC(N:Nat)(e:Uj):Option Int:=bnd (QaA N e) λf=>bif (!f)then some 0 else some (wI (e.p.tdiv 4))
def Qek(N:Nat)(e:List WJ):Nat->Int->Int->Option Int
 |0,_,_=>none
 |n+1,g,f=>
  bif (decide (f<(e.length:Int)))then(bnd (Xd e f) λh=>
   bif (h.k != 0)then Qek N e n (wI (g+1)) (wI (f+1))
   else Qek N e n g (wI (f+1)))
  else some g
def QfD(N:Nat)(e:List WJ):Option Int:=bnd (Qek N e N 0 0) λf=>some f
def Qef(N:Nat)(e:Wp)(o:Int):Option (Wp×Int×Bool):=grd (e.p.length*32<=140737488355328) <| bnd (QfC N e.c) λy=>bnd (QfD N e.p) λz=>jn (λ(_:Unit)=>bnd (QcR N e.p 1) λf=>bif (decide (f<0))then some (zHp,0,false)else bif (decide (z>=y))then some (zHp,0,false)else bnd (QdD N e.p f e.s) λj=>bnd (Xd j.1 f) λq=>bnd (Xd j.1 f) λr=>bnd (Xd j.1 f) λg=>some ((Wp.mk e.c e.w (j.1.set f.toNat (WJ.mk g.k g.s (wI (r.u+o)) g.P)) e.s f),(wU (wI ((wI (4096+(wI (f*e.c.W))))+q.u))),true)) λl=>bif (decide (e.b<0))then l ()else bnd (Xd e.p e.b) λA=>bif (A.s != e.s)then l ()else bnd (Xd e.p e.b) λB=>bif (decide ((wI (B.u+o))>e.c.W))then l ()else bif (decide (z>y))then l ()else bnd (Xd e.p e.b) λt=>bnd (Xd e.p e.b) λx=>bnd (Xd e.p e.b) λh=>some ((Wp.mk e.c e.w (e.p.set e.b.toNat (WJ.mk h.k h.s (wI (x.u+o)) h.P)) e.s e.b),(wU (wI ((wI (4096+(wI (e.b*e.c.W))))+t.u))),true)
def QeU(N:Nat)(j:Uj)(l:List WJ)(o e f:Int):Option (List WJ×Int):=bnd (QeF N j f) λg=>bif (decide (g<1))then some ([],1)else bif (decide (e<0))then some ([],1)else bif (decide (e>1))then some ([],1)else bnd (QeH N l o g (WJ.mk 2 e f 0) (WJ.mk 3 e 0 0)) λh=>some (h.1,h.2)
def QeV(N:Nat)(e:Wp)(h g:Int):Option (Wp×Int×Bool):=bnd (QcR N e.p g) λf=>bif (decide (f<0))then some (zHp,0,false)else bnd (QfD N e.p) λj=>bnd (QfC N e.c) λl=>bif (decide ((wI (j+g))>l))then some (zHp,0,false)else bnd (QeU N e.c e.p f e.s h) λo=>some ((Wp.mk e.c e.w o.1 e.s e.b),(wU (wI (4096+(wI (f*e.c.W))))),true)
def QcE(N:Nat)(e:Wp)(j:Int)(f:WH):Option (Wp×Int):=bnd (QcX N f) λh=>bnd (Qab N e) λl=>bif (!l)then some (zHp,1)else bif (h.2 != 0)then some (zHp,1)else grd (0<=f.n/\f.n.toNat*8<=140737488355328) <| grd ((1+f.n.toNat)*8<=140737488355328) <| bnd (QcQ N e.w j ([h.1]++(List.replicate f.n.toNat (0:Int)))) λg=>bif (g.2 != 0)then some (zHp,g.2)else some ((Wp.mk e.c g.1 e.p e.s e.b),0)
def QeJ(N:Nat)(g:Wp)(h:WH):Option (Wp×Int×Int):=bnd (Qab N g) λA=>bif (!A)then some (zHp,0,1)else bnd (Qc3 N g.c h) λB=>bif (!B)then some (zHp,0,1)else bnd (QcA N h) λj=>bnd (QeF N g.c j) λx=>bnd (Qef N g j) λe=>jn (λ(y:Int) (D:Bool) (E l:Int) (o:List Int) (q:List WJ) (r t:Int)=>bif (!D)then some (zHp,0,3)else bnd (QcE N (Wp.mk (Uj.mk E l) o q r t) y h) λu=>some (u.1,y,0)) λz=>bif (decide (x>0))then(bnd (QeV N g j x) λf=>z f.2.1 f.2.2 f.1.c.W f.1.c.p f.1.w f.1.p f.1.s f.1.b)else z e.2.1 e.2.2 e.1.c.W e.1.c.p e.1.w e.1.p e.1.s e.1.b
def Qeg(N:Nat)(f:Uw)(K:WH):Option (Uw×Int×Int):=bnd (Qcd N f) λO=>bif (!O)then some ((Uw.mk zHp (WD.mk [] [] []) (W4.mk []) (W4.mk []) [] []),0,19)else bnd (QeJ N f.h K) λo=>jn (λ(Q L Y Z:Int) (x9:List Int) (T:List WJ) (U V:Int) (r:List UW) (t:List U2) (u:List Int) (y z:List Ul) (A:List UQ) (B:List Int) (D E:Int) (G:List Int) (H:List WJ) (I J:Int)=>bif (L != 0)then some ((Uw.mk zHp (WD.mk [] [] []) (W4.mk []) (W4.mk []) [] []),0,L)else some ((Uw.mk (Wp.mk (Uj.mk D E) G H I J) (WD.mk r t u) (W4.mk y) (W4.mk z) A B),Q,0)) λM=>bif (o.2.2==3)then(bnd (Qcf N f) λj=>bif (j.2.2 != 0)then some ((Uw.mk zHp (WD.mk [] [] []) (W4.mk []) (W4.mk []) [] []),0,j.2.2)else bnd (QeJ N j.1.h K) λq=>M q.2.1 q.2.2 j.1.h.c.W j.1.h.c.p j.1.h.w j.1.h.p j.1.h.s j.1.h.b j.1.l.S j.1.l.x j.1.l.i j.1.g.e j.1.v.e j.1.P j.1.R q.1.c.W q.1.c.p q.1.w q.1.p q.1.s q.1.b)else M o.2.1 o.2.2 f.h.c.W f.h.c.p f.h.w f.h.p f.h.s f.h.b f.l.S f.l.x f.l.i f.g.e f.v.e f.P f.R o.1.c.W o.1.c.p o.1.w o.1.p o.1.s o.1.b
def QgY(N:Nat)(e:IZ):Option Bool:=bif (decide (e.Tag>=1))then(bif (decide (e.Tag<=3))then(bif (decide (e.Index>=0))then(bif (decide (e.Index<=65535))then(bif (decide (e.J>=1))then some (decide (e.J<=4294967295))else some false)else some false)else some false)else some false)else some false
def Qb6(N:Nat)(e:IZ):Option (Int×Int):=bnd (QgY N e) λf=>bif (!f)then some (0,1)else some ((wU ((wU ((wU e.Tag)+(JT .u64 (wU e.Index) 2)))+(JT .u64 (wU e.J) 18))),0)
def Qct(N:Nat)(e:Uw)(o:Int):Option (Uw×Int×Int):=bif (o==0)then some (e,0,0)else bnd (Qee N e.l o) λf=>bif (f.2.2.2 != 0)then(bnd (Qaa N f.2.2.2) λj=>some (j.1,j.2.1,j.2.2))else bnd (Qb6 N (IZ.mk 1 f.2.1 f.2.2.1)) λp=>some ((Uw.mk e.h f.1 e.g e.v e.P e.R),p.1,0)
def QdK(N:Nat)(e:Uw)(u w x:Int):Option (Uw×Int×Int):=bif (decide ((e.P.length:Int)>0))then(bnd (Qaa N 15) λg=>some (g.1,g.2.1,g.2.2))else bnd (Qcg N u w x) λj=>jn (λ(_:Unit)=>bnd (Qaa N 1) λo=>some (o.1,o.2.1,o.2.2)) λs=>bif (!j.2)then s ()else bnd (Qc3 N e.h.c j.1) λy=>bif (!y)then s ()else bnd (Qee N e.l 1) λt=>bif (t.2.2.2 != 0)then(bnd (Qaa N t.2.2.2) λp=>some (p.1,p.2.1,p.2.2))else bnd (Qeg N e j.1) λf=>bif (f.2.2 != 0)then(bnd (Qaa N f.2.2) λq=>some (q.1,q.2.1,q.2.2))else bnd (Qct N f.1 f.2.1) λr=>some (r.1,r.2.1,r.2.2)
def Qcu(N:Nat)(e:Int):Option (IZ×Int):=bif (e==0)then some ((IZ.mk 0 0 0),5)else bnd (Qb6 N (IZ.mk (wI (ZI .u64 e 3)) (wI (ZI .u64 (Y5 .u64 e 2) 65535)) (wI (Y5 .u64 e 18)))) λf=>bif (f.2 != 0)then some ((IZ.mk 0 0 0),6)else bif (f.1 != e)then some ((IZ.mk 0 0 0),6)else some ((IZ.mk (wI (ZI .u64 e 3)) (wI (ZI .u64 (Y5 .u64 e 2) 65535)) (wI (Y5 .u64 e 18))),0)
def QeK(N:Nat)(e:WD)(f g:Int):Option (Int×Int):=bnd (Qb9 N e) λh=>bif (!h)then some (0,1)else bif (decide (g<1))then some (0,6)else bif (decide (g>(e.i.length:Int)))then some (0,6)else bnd (Xd e.i (wI (g-1))) λj=>bif (j != f)then some (0,6)else bif (decide (f>=(e.S.length:Int)))then some (0,7)else bnd (Xd e.S f) λl=>bif (l.J != g)then some (0,7)else bnd (Xd e.S f) λo=>bif (!o.V)then some (0,8)else bnd (Xd e.S f) λp=>some (p.a,0)
def QdL(N:Nat)(f:W4)(g h:Int):Option (Int×Int):=bnd (Qca N f) λj=>bif (!j)then some (0,1)else bif (decide (g<0))then some (0,6)else bif (decide (g>=(f.e.length:Int)))then some (0,6)else bif (decide (h<1))then some (0,6)else bnd (Xd f.e g) λl=>bif (decide (h>l.G))then some (0,6)else bnd (Xd f.e g) λo=>bif (decide (h<o.G))then some (0,8)else bnd (Xd f.e g) λp=>bif (!p.V)then some (0,8)else bnd (Xd f.e g) λq=>some (q.a,0)
def QaF(N:Nat)(f:Uw)(h:Int):Option (Int×Int):=bnd (Qcd N f) λq=>bif (!q)then some (0,19)else bif (h==0)then some (0,0)else bnd (Qcu N h) λe=>bif (e.2 != 0)then some (0,e.2)else bif (e.1.Tag==1)then(bnd (QeK N f.l e.1.Index e.1.J) λj=>some (j.1,j.2))else bif (e.1.Tag==2)then(bnd (QdL N f.g e.1.Index e.1.J) λo=>some (o.1,o.2))else bnd (QdL N f.v e.1.Index e.1.J) λp=>some (p.1,p.2)
def QbQ(N:Nat)(f:Uw)(g:Int):Option (Int×Int):=bnd (QaF N f g) λe=>bif (e.2==0)then(bif (e.1==0)then some (0,5)else some (e.1,e.2))else some (e.1,e.2)
def QcS(N:Nat)(g:Uw)(l f:Int)(o:Bool):Option (Int×Int×Int):=bnd (QbQ N g l) λe=>bif (e.2 != 0)then some (0,0,e.2)else bnd (Qb0 N g.h e.1) λj=>bif (decide (f>=(wU j.1.n)))then some (0,0,2)else bnd (QbK N j.1 (wI f)) λp=>bif (!(p==o))then some (0,0,4)else some (e.1,(wI f),0)
def QcT(N:Nat)(g:Wp)(h e:Int):Option (Int×Int):=bnd (Qb0 N g h) λf=>bif (f.2 != 0)then some (0,f.2)else bif (decide (e<0))then some (0,2)else bif (decide (e>=f.1.n))then some (0,2)else bnd (Qbn N g.w (wU ((wU (h+1))+(wU e)))) λj=>some (j.1,j.2)
def Qci(N:Nat)(e:Wp)(f g j:Int):Option (Wp×Int):=bnd (QcT N e f g) λh=>bif (h.2 != 0)then some (zHp,h.2)else bnd (QdB N e.w (wU ((wU (f+1))+(wU g))) j) λl=>some ((Wp.mk e.c l.1 e.p e.s e.b),0)
def QcU(N:Nat)(e:Uw)(j w x y:Int):Option (Uw×Int×Int):=jn (λ(z A B:Int)=>bif (B != 0)then(bnd (Qaa N B) λo=>some (o.1,o.2.1,o.2.2))else bnd (QcT N e.h z A) λD=>bif (j==6)then some (e,D.1,0)else bif (j==8)then(bnd (Qct N e D.1) λp=>some (p.1,p.2.1,p.2.2))else jn (λ(q:Int)=>bnd (Qci N e.h z A q) λr=>some ((Uw.mk r.1 e.l e.g e.v e.P e.R),0,0)) λE=>bif (j==9)then(bnd (QaF N e y) λs=>bif (s.2 != 0)then(bnd (Qaa N s.2) λf=>some (f.1,f.2.1,f.2.2))else E s.1)else E y) λG=>bif (j==8)then(bnd (QcS N e w x true) λt=>G t.1 t.2.1 t.2.2)else bnd (QcS N e w x (j==9)) λu=>G u.1 u.2.1 u.2.2
def Qcv(N:Nat)(e:Uw)(j l y:Int):Option (Uw×Int×Int):=jn (λ(z:Bool)=>bif z then(bnd (QbQ N e l) λo=>bif (o.2 != 0)then(bnd (Qaa N o.2) λp=>some (p.1,p.2.1,p.2.2))else bnd (Qb0 N e.h o.1) λw=>bif (j==4)then some (e,(wU w.1.n),0)else some (e,(wU w.1.k),0))else bif (j==10)then(bnd (QaF N e l) λq=>bif (q.2 != 0)then(bnd (Qaa N q.2) λr=>some (r.1,r.2.1,r.2.2))else bnd (QaF N e y) λs=>bif (s.2 != 0)then(bnd (Qaa N s.2) λt=>some (t.1,t.2.1,t.2.2))else bif (q.1==s.1)then some (e,1,0)else some (e,0,0))else bnd (QaF N e l) λu=>bif (u.2 != 0)then(bnd (Qaa N u.2) λf=>some (f.1,f.2.1,f.2.2))else bnd (Qct N e u.1) λg=>some (g.1,g.2.1,g.2.2)) λx=>bif (j==4)then x true else x (j==5)
def QbM(N:Nat)(g:W4)(h:Int):Nat->Int->Option (Ex (W4×Int×Int×Int) Unit)
 |0,_=>none
 |n+1,f=>
  grd (g.e.length<=140737488355328) <|
  bif (decide (f<(g.e.length:Int)))then(bnd (Xd g.e f) λl=>
   bif (!l.V)then(bnd (Xd g.e f) λo=>
    bif (decide (o.G<4294967295))then(bnd (Xd g.e f) λj=>
     bnd (Xd g.e f) λq=>
     bnd (Xd (g.e.set f.toNat (Ul.mk (wI (j.G+1)) h true)) f) λp=>
     some (.ret ((W4.mk (g.e.set f.toNat (Ul.mk (wI (j.G+1)) h true))),f,p.G,0)))
    else QbM N g h n (wI (f+1)))
   else QbM N g h n (wI (f+1)))
  else some (.nxt ())
def QcN(N:Nat)(f:W4)(g:Int):Option (W4×Int×Int×Int):=bnd (Qca N f) λh=>bif (!h)then some ((W4.mk []),0,0,1)else grd (f.e.length*24<=140737488355328) <| bnd (QbM N f g N 0) λe=>exK e (λr=>some r) λj=>grd (f.e.length<=140737488355328) <| bif ((f.e.length:Int)==64)then some ((W4.mk []),0,0,18)else grd ((f.e.length+1)*24<=140737488355328) <| grd (f.e.length<=140737488355328) <| some ((W4.mk (f.e++[(Ul.mk 1 g true)])),(f.e.length:Int),1,0)
def Qde(N:Nat)(f:Uw)(r u:Int):Option (Uw×Int×Int):=bnd (QbQ N f u) λo=>bif (o.2 != 0)then(bnd (Qaa N o.2) λp=>some (p.1,p.2.1,p.2.2))else jn (λ(w:Int) (x:List Ul)=>bnd (QcN N (W4.mk x) o.1) λj=>bif (j.2.2.2 != 0)then(bnd (Qaa N j.2.2.2) λq=>some (q.1,q.2.1,q.2.2))else jn (λ(y z:List Ul)=>bnd (Qb6 N (IZ.mk w j.2.1 j.2.2.1)) λA=>some ((Uw.mk f.h f.l (W4.mk y) (W4.mk z) f.P f.R),A.1,0)) λs=>bif (r==15)then s f.g.e j.1.e else s j.1.e f.v.e) λt=>bif (r==15)then t 3 f.v.e else t 2 f.g.e
def QdM(N:Nat)(e:WD)(f g:Int):Option (WD×Int):=bnd (QeK N e f g) λh=>bif (h.2 != 0)then some ((WD.mk [] [] []),h.2)else grd (e.S.length*24<=140737488355328) <| bnd (Xd e.S f) λj=>some ((WD.mk (e.S.set f.toNat (UW.mk g 0 false)) e.x e.i),0)
def Qgy(N:Nat)(f:W4)(g:Int)(h:Ul):Option W4:=grd (f.e.length*24<=140737488355328) <| bnd (Xd f.e g) λj=>some (W4.mk (f.e.set g.toNat h))
def Qcw(N:Nat)(e:W4)(f g:Int):Option (W4×Int):=bnd (QdL N e f g) λh=>bif (h.2 != 0)then some ((W4.mk []),h.2)else bnd (Qgy N e f (Ul.mk g 0 false)) λj=>some (j,0)
def Qc4(N:Nat)(e:Uw)(j q:Int):Option (Uw×Int×Int):=bif (q==0)then(bnd (Qaa N 5) λr=>some (r.1,r.2.1,r.2.2))else bnd (QaF N e q) λu=>bif (u.2 != 0)then(bnd (Qaa N u.2) λs=>some (s.1,s.2.1,s.2.2))else bnd (Qcu N q) λf=>jn (λ(_:Unit)=>bif (j==12)then(bnd (QdM N e.l f.1.Index f.1.J) λw=>some ((Uw.mk e.h w.1 e.g e.v e.P e.R),0,0))else bif (j==14)then(bnd (Qcw N e.g f.1.Index f.1.J) λx=>some ((Uw.mk e.h e.l x.1 e.v e.P e.R),0,0))else bnd (Qcw N e.v f.1.Index f.1.J) λy=>some ((Uw.mk e.h e.l e.g y.1 e.P e.R),0,0)) λo=>jn (λ(_:Unit)=>bnd (Qaa N 4) λt=>some (t.1,t.2.1,t.2.2)) λp=>bif (j==12)then(bif (f.1.Tag != 1)then p ()else bif (j==14)then(bif (f.1.Tag != 2)then p ()else bif (j==16)then(bif (f.1.Tag != 3)then p ()else o ())else o ())else bif (j==16)then(bif (f.1.Tag != 3)then p ()else o ())else o ())else bif (j==14)then(bif (f.1.Tag != 2)then p ()else bif (j==16)then(bif (f.1.Tag != 3)then p ()else o ())else o ())else bif (j==16)then(bif (f.1.Tag != 3)then p ()else o ())else o ()
def Qf8(N:Nat)(e:WD)(f:Int)(g:Bool):Option (WD×Int):=bnd (Qb9 N e) λj=>bif (!j)then some ((WD.mk [] [] []),1)else bif (decide (f<0))then some ((WD.mk [] [] []),1)else bif (decide (f>64))then some ((WD.mk [] [] []),1)else jn (λ(_:Unit)=>bif ((e.x.length:Int)==64)then some ((WD.mk [] [] []),17)else grd (e.x.length*24<=140737488355328) <| grd ((e.x.length+1)*24<=140737488355328) <| some ((WD.mk e.S (e.x++[(U2.mk (e.S.length:Int) f g)]) e.i),0)) λh=>bif (!g)then(bif ((e.x.length:Int)==0)then some ((WD.mk [] [] []),9)else h ())else h ()
def Qd7(N:Nat)(f:WD)(g:Int):Option (WD×Int):=bnd (Qf8 N f g false) λe=>some (e.1,e.2)
def Qgz(N:Nat)(e:WD)(f:Int):Option WD:=bnd (Xd e.x f) λg=>grd (0<=0/\0<=g.O/\g.O<=(e.S.length:Int)) <| grd ((min g.O.toNat e.S.length)*24<=140737488355328) <| grd (0<=0/\0<=f/\f<=(e.x.length:Int)) <| grd ((min f.toNat e.x.length)*24<=140737488355328) <| some (WD.mk (e.S.take g.O.toNat) (e.x.take f.toNat) e.i)
def QeL(N:Nat)(e:WD):Option (WD×Int):=bnd (Qb9 N e) λf=>bif (!f)then some ((WD.mk [] [] []),1)else bif ((e.x.length:Int)==0)then some ((WD.mk [] [] []),9)else bnd (Xd e.x (wI ((e.x.length:Int)-1))) λg=>bif g.B0 then some ((WD.mk [] [] []),9)else bnd (Qgz N e (wI ((e.x.length:Int)-1))) λh=>some (h,0)
def QdN(N:Nat)(e:Uw)(w f:Int):Option (Uw×Int×Int):=bif (w==17)then(bif (decide (f>64))then(bnd (Qaa N 1) λj=>some (j.1,j.2.1,j.2.2))else bnd (Qd7 N e.l (wI f)) λo=>bif (o.2 != 0)then(bnd (Qaa N o.2) λp=>some (p.1,p.2.1,p.2.2))else some ((Uw.mk e.h o.1 e.g e.v e.P e.R),0,0))else bnd (QaF N e f) λq=>bif (q.2 != 0)then(bnd (Qaa N q.2) λr=>some (r.1,r.2.1,r.2.2))else bnd (QeL N e.l) λs=>bif (s.2 != 0)then(bnd (Qaa N s.2) λt=>some (t.1,t.2.1,t.2.2))else bnd (Qct N (Uw.mk e.h s.1 e.g e.v e.P e.R) q.1) λu=>some (u.1,u.2.1,u.2.2)
def QbR(N:Nat)(e:Wp)(h j:Int):Option Wp:=grd (e.p.length*32<=140737488355328) <| bnd (Qfj N e h) λf=>bnd (Xd e.p f) λl=>bnd (Xd e.p f) λg=>some (Wp.mk e.c e.w (e.p.set f.toNat (WJ.mk g.k g.s g.u (wI (l.P+j)))) e.s e.b)
def Qdf(N:Nat)(l:Wp)(f:List UQ)(j:Int):Option (Wp×List UQ×Int):=bnd (Qcc N l f) λo=>bif (!o)then some (zHp,[],19)else bif (j==0)then some (zHp,[],5)else bnd (QfT N f j) λe=>bif (decide (e<0))then some (zHp,[],12)else grd (f.length*16<=140737488355328) <| bnd (Xd f e) λg=>bnd (Xd f e) λh=>bnd (Xd (f.set e.toNat (UQ.mk h.a (wI (g.M-1)))) e) λp=>bif (p.M==0)then(grd (0<=0/\0<=e/\e<=(f.length:Int)) <| grd (0<=(wI (e+1))/\(wI (e+1))<=(f.length:Int)/\(f.length:Int)<=(f.length:Int)) <| grd (e.toNat≠f.length/\(e.toNat+(f.length-(wI (e+1)).toNat))<=f.length) <| bnd (QbR N l j (-1)) λq=>some (q,(((((f.set e.toNat (UQ.mk h.a (wI (g.M-1)))).take e.toNat)++(((f.set e.toNat (UQ.mk h.a (wI (g.M-1)))).drop (wI (e+1)).toNat).take (f.length-(wI (e+1)).toNat)))++((f.set e.toNat (UQ.mk h.a (wI (g.M-1)))).drop (e.toNat+(f.length-(wI (e+1)).toNat)))).take (e.toNat+(f.length-(wI (e+1)).toNat))),0))else bnd (QbR N l j (-1)) λr=>some (r,(f.set e.toNat (UQ.mk h.a (wI (g.M-1)))),0)
def Qds(N:Nat)(e:Wp)(f:Int):Option Bool:=bnd (Qaj N e) λg=>bnd (Qba N g.1 f) λh=>some h
def Qbo(N:Nat)(e:Wp)(h:Int):Nat->Int->Int->Option Int
 |0,_,_=>none
 |n+1,g,f=>
  bif (decide (f<(e.p.length:Int)))then(bnd (Xd e.p f) λj=>
   bif (j.k==1)then(bnd (Xd e.p f) λl=>
    bif (decide (l.P>0))then Qbo N e h n (wI (g+1)) (wI (f+1))
    else Qbo N e h n g (wI (f+1)))
   else Qbo N e h n g (wI (f+1)))
  else some g
def QcF(N:Nat)(e:Wp)(f:Int):Option Bool:=bnd (Qb2 N e) λh=>bif (!h)then some false else bnd (Qds N e f) λj=>bif (!j)then some false else bnd (Qbo N e f N 0 0) λl=>bnd (Qfj N e f) λo=>bnd (Xd e.p o) λg=>bif (g.k==1)then(bif (g.P==0)then some (decide (l>=(wI (e.c.p.tdiv 4))))else some false)else some false
def Qfh(N:Nat)(h:Wp)(e:List UQ)(f:Int):Option (Wp×List UQ×Int×Int):=bnd (Qcc N h e) λr=>bif (!r)then some (zHp,[],0,19)else bif (f==0)then some (zHp,[],0,5)else bnd (Qds N h f) λs=>bif (!s)then some (zHp,[],0,1)else bnd (QfT N e f) λg=>jn (λ(_:Unit)=>grd (e.length*16<=140737488355328) <| jn (λ(l:List UQ)=>bnd (QbR N h f 1) λo=>some (o,l,(wU (f+1)),0)) λq=>bif (decide (g>=0))then(bnd (Xd e g) λt=>bnd (Xd e g) λp=>q (e.set g.toNat (UQ.mk p.a (wI (t.M+1)))))else grd ((e.length+1)*16<=140737488355328) <| q (e++[(UQ.mk f 1)])) λj=>bif (decide (g>=0))then(bnd (Xd e g) λu=>bif (u.M==1000)then some (zHp,[],0,18)else bif (decide (g<0))then(bif ((e.length:Int)==64)then some (zHp,[],0,18)else bnd (QcF N h f) λw=>bif w then some (zHp,[],0,18)else j ())else bnd (QcF N h f) λx=>bif x then some (zHp,[],0,18)else j ())else bif (decide (g<0))then(bif ((e.length:Int)==64)then some (zHp,[],0,18)else bnd (QcF N h f) λy=>bif y then some (zHp,[],0,18)else j ())else bnd (QcF N h f) λz=>bif z then some (zHp,[],0,18)else j ()
def QeM(N:Nat)(e:Uw)(s t:Int):Option (Uw×Int×Int):=bnd (QbQ N e t) λj=>bif (j.2 != 0)then(bnd (Qaa N j.2) λp=>some (p.1,p.2.1,p.2.2))else bif (s==20)then(bnd (Qdf N e.h e.P j.1) λo=>bif (o.2.2 != 0)then(bnd (Qaa N o.2.2) λq=>some (q.1,q.2.1,q.2.2))else some ((Uw.mk o.1 e.l e.g e.v o.2.1 e.R),0,0))else bnd (Qfh N e.h e.P j.1) λf=>bif (f.2.2.2 != 0)then(bnd (Qaa N f.2.2.2) λr=>some (r.1,r.2.1,r.2.2))else some ((Uw.mk f.1 e.l e.g e.v f.2.1 e.R),f.2.2.1,0)
def Qad(N:Nat)(f:Uw)(e g w V:Int):Option (Uw×Int×Int):=bnd (Qcd N f) λW=>bif (!W)then(bnd (Qaa N 19) λx=>some (x.1,x.2.1,x.2.2))else jn (λ(Y:Bool)=>bif Y then(bnd (QdK N f e g w) λy=>some (y.1,y.2.1,y.2.2))else jn (λ(Z:Bool)=>bif Z then(bnd (QcU N f e g w V) λz=>some (z.1,z.2.1,z.2.2))else jn (λ(A:Bool)=>bif A then(bnd (Qcv N f e g w) λh=>some (h.1,h.2.1,h.2.2))else jn (λ(B:Bool)=>bif B then(bnd (Qde N f e g) λj=>some (j.1,j.2.1,j.2.2))else jn (λ(D:Bool)=>bif D then(bnd (Qc4 N f e g) λl=>some (l.1,l.2.1,l.2.2))else jn (λ(E:Bool)=>bif E then(bnd (QdN N f e g) λo=>some (o.1,o.2.1,o.2.2))else jn (λ(G:Bool)=>bif G then(bnd (QeM N f e g) λp=>some (p.1,p.2.1,p.2.2))else bnd (Qaa N 1) λq=>some (q.1,q.2.1,q.2.2)) λr=>bif (e==19)then r true else r (e==20)) λs=>bif (e==17)then s true else s (e==18)) λt=>bif (e==12)then t true else jn (λ(H:Bool)=>t H) λu=>bif (e==14)then u true else u (e==16)) λK=>bif (e==13)then K true else K (e==15)) λL=>bif (e==4)then L true else jn (λ(I:Bool)=>L I) λM=>bif (e==5)then M true else jn (λ(J:Bool)=>M J) λO=>bif (e==10)then O true else O (e==11)) λQ=>bif (e==6)then Q true else jn (λ(x7:Bool)=>Q x7) λR=>bif (e==7)then R true else jn (λ(x6:Bool)=>R x6) λS=>bif (e==8)then S true else S (e==9)) λT=>bif (e==1)then T true else jn (λ(x3:Bool)=>T x3) λU=>bif (e==2)then U true else U (e==3)
def Qdg(N:Nat)(p q:Uw)(l r e:Int):Option OD:=jn (λ(f:Bool)=>jn (λ(g:Bool)=>bif (l==19)then(bif (e==0)then some (OD.mk f g r)else some (OD.mk f g 0))else some (OD.mk f g 0)) λo=>bif (e==0)then o (p.h.s != q.h.s)else o false) λj=>bif (e==3)then j true else bif (e==18)then j (l==19)else j false
def QcV(N:Nat)(f:WD)(e:Int):Option Int:=bif (e==0)then some 0 else bnd (Qee N f e) λg=>some g.2.2.2
def Qfr(N:Nat)(e:WE)(h j o:Int)(p:Bool):Option Int:=bif (decide ((e.m.length:Int)>0))then some 15 else bnd (Qcg N h j o) λf=>bif (!f.2)then some 1 else bnd (Qc3 N e.c f.1) λq=>bif (!q)then some 1 else bnd (QcV N e.l 1) λg=>bif (g != 0)then some g else bif p then some 3 else some 0
def Qaz(N:Nat)(f:WE)(h:Int):Option (Int×Int):=bnd (Qed N f) λq=>bif (!q)then some (0,19)else bif (h==0)then some (0,0)else bnd (Qcu N h) λe=>bif (e.2 != 0)then some (0,e.2)else bif (e.1.Tag==1)then(bnd (QeK N f.l e.1.Index e.1.J) λj=>some (j.1,j.2))else bif (e.1.Tag==2)then(bnd (QdL N f.g e.1.Index e.1.J) λo=>some (o.1,o.2))else bnd (QdL N f.v e.1.Index e.1.J) λp=>some (p.1,p.2)
def Qeh(N:Nat)(f:WE)(g:Int):Option (Int×Int):=bnd (Qaz N f g) λe=>bif (e.2==0)then(bif (e.1==0)then some (0,5)else some (e.1,e.2))else some (e.1,e.2)
def QfV(N:Nat)(e:WE)(f p h q:Int):Option Int:=bnd (Qeh N e p) λg=>bif (g.2 != 0)then some g.2 else bnd (Xd e.T (wU (g.1-1))) λj=>bif (decide (h>=(wU j.H.n)))then some 2 else jn (λ(r:Bool)=>bnd (QbK N j.H (wI h)) λs=>bif (!(s==r))then some 4 else bif (f==8)then(bnd (Xd j.D h) λt=>bnd (QcV N e.l t) λu=>some u)else bif (f==9)then(bnd (Qaz N e q) λw=>some w.2)else some g.2) λo=>bif (f==8)then o true else o (f==9)
def Qfs(N:Nat)(l:WE)(f e:Int):Option Int:=bif (e==0)then some 5 else bnd (Qaz N l e) λg=>bif (g.2 != 0)then some g.2 else bnd (Qcu N e) λh=>jn (λ(o:Int)=>bif (f==16)then(bif (h.1.Tag != 3)then some 4 else some 0)else bif (h.1.Tag != o)then some 4 else some 0) λj=>bif (f==14)then j 2 else j 1
def Qgo(N:Nat)(f:WE)(l o:Int):Option Int:=bnd (Qeh N f o) λh=>bif (h.2 != 0)then some h.2 else jn (λ(p:List Ul)=>bnd (QcN N (W4.mk p) h.1) λq=>some q.2.2.2) λj=>bif (l==15)then j f.v.e else j f.g.e
def QfW(N:Nat)(e:WE)(j f:Int):Option Int:=bif (j==17)then(bif (decide (f>64))then some 1 else bnd (Qd7 N e.l (wI f)) λo=>some o.2)else bnd (Qaz N e f) λg=>bif (g.2 != 0)then some g.2 else bnd (QeL N e.l) λh=>bif (h.2 != 0)then some h.2 else bnd (QcV N h.1 g.1) λp=>some p
def QgI(N:Nat)(e:WE)(j l:Int)(g:Bool):Option Int:=bnd (Qeh N e l) λh=>bif (h.2 != 0)then some h.2 else bnd (Qfn N e h.1) λf=>bif (j==20)then(bif (decide (f<0))then some 12 else some 0)else bif (decide (f>=0))then(bnd (Xd e.m f) λo=>bif (o.M==1000)then some 18 else bif (decide (f<0))then(bif ((e.m.length:Int)==64)then some 18 else bif g then some 18 else some 0)else bif g then some 18 else some 0)else bif (decide (f<0))then(bif ((e.m.length:Int)==64)then some 18 else bif g then some 18 else some 0)else bif g then some 18 else some 0
def Qgp(N:Nat)(e:WE)(f h o:Int):Option Int:=jn (λ(_:Unit)=>bnd (Qeh N e h) λp=>some p.2) λj=>bif (f==4)then j ()else bif (f==5)then j ()else bnd (Qaz N e h) λg=>bif (g.2 != 0)then some g.2 else bif (f==10)then(bnd (Qaz N e o) λq=>some q.2)else bnd (QcV N e.l g.1) λr=>some r
def Qey(N:Nat)(f:WE)(e g p R:Int)(E:Bool):Option Int:=bnd (Qed N f) λS=>bif (!S)then some 19 else jn (λ(T:Bool)=>bif T then(bnd (Qfr N f e g p E) λU=>some U)else jn (λ(V:Bool)=>bif V then(bnd (QfV N f e g p R) λW=>some W)else jn (λ(q:Bool)=>bif q then(bnd (Qfs N f e g) λr=>some r)else jn (λ(s:Bool)=>bif s then(bnd (Qgo N f e g) λt=>some t)else jn (λ(u:Bool)=>bif u then(bnd (QfW N f e g) λw=>some w)else jn (λ(x:Bool)=>bif x then(bnd (QgI N f e g E) λy=>some y)else jn (λ(z:Bool)=>bif z then(bnd (Qgp N f e g p) λA=>some A)else some 1) λh=>bif (e==4)then h true else jn (λ(B:Bool)=>h B) λj=>bif (e==5)then j true else jn (λ(D:Bool)=>j D) λl=>bif (e==10)then l true else l (e==11)) λo=>bif (e==19)then o true else o (e==20)) λG=>bif (e==17)then G true else G (e==18)) λH=>bif (e==13)then H true else H (e==15)) λI=>bif (e==12)then I true else jn (λ(Y:Bool)=>I Y) λJ=>bif (e==14)then J true else J (e==16)) λK=>bif (e==6)then K true else jn (λ(Z:Bool)=>K Z) λL=>bif (e==7)then L true else jn (λ(x5:Bool)=>L x5) λM=>bif (e==8)then M true else M (e==9)) λO=>bif (e==1)then O true else jn (λ(x2:Bool)=>O x2) λQ=>bif (e==2)then Q true else Q (e==3)
def QbF(N:Nat)(e:WE)(h:Int):Option (WE×Int):=bif (h==0)then some (e,0)else bnd (Qee N e.l h) λf=>bnd (Qb6 N (IZ.mk 1 f.2.1 f.2.2.1)) λj=>some ((WE.mk e.c e.T f.1 e.g e.v e.m e.R),j.1)
def Qei(N:Nat)(e:WE)(h j o:Int):Option WE:=grd (e.T.length*48<=140737488355328) <| bnd (Xd e.T (wU (h-1))) λf=>grd (f.D.length*8<=140737488355328) <| bnd (Xd f.D j) λp=>bnd (Xd e.T (wU (h-1))) λq=>some (WE.mk e.c (e.T.set (wU (h-1)).toNat (UO.mk f.H (f.D.set j.toNat o))) e.l e.g e.v e.m e.R)
def Qdh(N:Nat)(f:WE)(q o:Int):Option (WE×Int):=jn (λ(r s:List Ul) (t u w:Int)=>bnd (Qb6 N (IZ.mk t u w)) λx=>some ((WE.mk f.c f.T f.l (W4.mk r) (W4.mk s) f.m f.R),x.1)) λp=>bif (q==15)then(bnd (QcN N f.v o) λh=>p f.g.e h.1.e 3 h.2.1 h.2.2.1)else bnd (QcN N f.g o) λj=>p j.1.e f.v.e 2 j.2.1 j.2.2.1
def Qc5(N:Nat)(e:WE)(h:Int):Option WE:=bnd (Qcu N h) λf=>bif (f.1.Tag==1)then(bnd (QdM N e.l f.1.Index f.1.J) λj=>some (WE.mk e.c e.T j.1 e.g e.v e.m e.R))else bif (f.1.Tag==2)then(bnd (Qcw N e.g f.1.Index f.1.J) λo=>some (WE.mk e.c e.T e.l o.1 e.v e.m e.R))else bnd (Qcw N e.v f.1.Index f.1.J) λp=>some (WE.mk e.c e.T e.l e.g p.1 e.m e.R)
def Qe8(N:Nat)(e:WE)(f:Int):Option Int:=bnd (Qfn N e f) λg=>some g
def Qd8(N:Nat)(e:WE)(s p q:Int):Option (WE×Int):=bnd (Qe8 N e p) λf=>grd (e.m.length*24<=140737488355328) <| bif (s==20)then(bnd (Xd e.m f) λj=>bnd (Xd e.m f) λh=>bnd (Xd (e.m.set f.toNat (U5.mk h.I (wI (j.M-1)) h.B0)) f) λt=>bif (t.M==0)then(grd (0<=0/\0<=f/\f<=(e.m.length:Int)) <| grd (0<=(wI (f+1))/\(wI (f+1))<=(e.m.length:Int)/\(e.m.length:Int)<=(e.m.length:Int)) <| grd (f.toNat≠e.m.length/\(f.toNat+(e.m.length-(wI (f+1)).toNat))<=e.m.length) <| some ((WE.mk e.c e.T e.l e.g e.v (((((e.m.set f.toNat (U5.mk h.I (wI (j.M-1)) h.B0)).take f.toNat)++(((e.m.set f.toNat (U5.mk h.I (wI (j.M-1)) h.B0)).drop (wI (f+1)).toNat).take (e.m.length-(wI (f+1)).toNat)))++((e.m.set f.toNat (U5.mk h.I (wI (j.M-1)) h.B0)).drop (f.toNat+(e.m.length-(wI (f+1)).toNat)))).take (f.toNat+(e.m.length-(wI (f+1)).toNat))) e.R),0))else some ((WE.mk e.c e.T e.l e.g e.v (e.m.set f.toNat (U5.mk h.I (wI (j.M-1)) h.B0)) e.R),0))else bif (decide (f>=0))then(bnd (Xd e.m f) λr=>bnd (Xd e.m f) λo=>bnd (Xd (e.m.set f.toNat (U5.mk o.I (wI (r.M+1)) o.B0)) f) λu=>some ((WE.mk e.c e.T e.l e.g e.v (e.m.set f.toNat (U5.mk o.I (wI (r.M+1)) o.B0)) e.R),u.B0))else grd ((e.m.length+1)*24<=140737488355328) <| some ((WE.mk e.c e.T e.l e.g e.v (e.m++[(U5.mk p 1 q)]) e.R),q)
def Qar(N:Nat)(f:WE)(h s r E:Int)(G:OD):Option (WE×Int×Int):=bnd (Qey N f h s r E G.Failed) λy1=>bif (y1 != 0)then some (zWd,0,y1)else jn (λ(j:Int)=>jn (λ(x5:Bool)=>bif x5 then(jn (λ(x7 x8:Int) (t:List UO) (I:List UW) (J:List U2) (K:List Int) (L M:List Ul) (O:List U5) (Q:List Int)=>bnd (Qcg N h s r) λq=>grd (t.length*48<=140737488355328) <| grd (0<=q.1.n/\q.1.n.toNat*8<=140737488355328) <| grd ((t.length+1)*48<=140737488355328) <| grd ((t.length+1)<=140737488355328) <| bnd (QbF N (WE.mk (Uj.mk x7 x8) (t++[(UO.mk q.1 (List.replicate q.1.n.toNat (0:Int)))]) (WD.mk I J K) (W4.mk L) (W4.mk M) O Q) (wU (((t.length+1):Nat):Int))) λu=>some (u.1,u.2,0)) λj4=>bif G.Collected then(bnd (QbB N f) λo=>j4 o.1.c.W o.1.c.p o.1.T o.1.l.S o.1.l.x o.1.l.i o.1.g.e o.1.v.e o.1.m o.1.R)else j4 f.c.W f.c.p f.T f.l.S f.l.x f.l.i f.g.e f.v.e f.m f.R)else bif (h==4)then(bnd (Xd f.T (wU (j-1))) λU=>some (f,(wU U.H.n),0))else bif (h==5)then(bnd (Xd f.T (wU (j-1))) λV=>some (f,(wU V.H.k),0))else bif (h==6)then(bnd (Xd f.T (wU (j-1))) λY=>bnd (Xd Y.D r) λZ=>some (f,Z,0))else bif (h==7)then(bnd (Qei N f j (wI r) E) λy23=>some (y23,0,0))else bif (h==8)then(bnd (Xd f.T (wU (j-1))) λp24=>bnd (Xd p24.D r) λp25=>bnd (QbF N f p25) λw=>some (w.1,w.2,0))else bif (h==9)then(bnd (Qaz N f E) λy27=>bnd (Qei N f j (wI r) y27.1) λy28=>some (y28,0,0))else bif (h==10)then(bnd (Qaz N f r) λy29=>bif (j==y29.1)then some (f,1,0)else some (f,0,0))else bif (h==11)then(bnd (QbF N f j) λy=>some (y.1,y.2,0))else jn (λ(x31:Bool)=>bif x31 then(bnd (Qdh N f h j) λz=>some (z.1,z.2,0))else jn (λ(x34:Bool)=>bif x34 then(bnd (Qc5 N f s) λy35=>some (y35,0,0))else bif (h==17)then(bnd (Qd7 N f.l (wI s)) λy36=>some ((WE.mk f.c f.T y36.1 f.g f.v f.m f.R),0,0))else bif (h==18)then(bnd (QeL N f.l) λy37=>bnd (QbF N (WE.mk f.c f.T y37.1 f.g f.v f.m f.R) j) λA=>some (A.1,A.2,0))else bnd (Qd8 N f h j G.B0) λB=>some (B.1,B.2,0)) λj7=>bif (h==12)then j7 true else jn (λ(x33:Bool)=>j7 x33) λj6=>bif (h==14)then j6 true else j6 (h==16)) λj5=>bif (h==13)then j5 true else j5 (h==15)) λj3=>bif (h==1)then j3 true else jn (λ(x4:Bool)=>j3 x4) λj2=>bif (h==2)then j2 true else j2 (h==3)) λj1=>bif (decide (h>3))then(bif (h != 17)then(bnd (Qaz N f s) λy2=>j1 y2.1)else j1 0)else j1 0
def QbN(N:Nat)(f:IV)(r:OG):Option (IV×Int×Int):=bif (r.Op==0)then(bnd (Qcf N f.N) λq=>jn (λ(x3 x4:Int) (x5:List Int) (x6:List WJ) (x7 x8:Int) (x9:List UW) (M:List U2) (O:List Int) (Q U:List Ul) (V:List UQ) (Y:List Int) (Z x17:Int) (x18:List UO) (x19:List UW) (x20:List U2) (x21:List Int) (x22 x23:List Ul) (x24:List U5) (x25:List Int)=>some ((IV.mk (Uw.mk (Wp.mk (Uj.mk x3 x4) x5 x6 x7 x8) (WD.mk x9 M O) (W4.mk Q) (W4.mk U) V Y) (WE.mk (Uj.mk Z x17) x18 (WD.mk x19 x20 x21) (W4.mk x22) (W4.mk x23) x24 x25) f.w),0,0)) λj1=>bif (q.2.2==0)then(bnd (QbB N f.z) λt=>j1 q.1.h.c.W q.1.h.c.p q.1.h.w q.1.h.p q.1.h.s q.1.h.b q.1.l.S q.1.l.x q.1.l.i q.1.g.e q.1.v.e q.1.P q.1.R t.1.c.W t.1.c.p t.1.T t.1.l.S t.1.l.x t.1.l.i t.1.g.e t.1.v.e t.1.m t.1.R)else j1 f.N.h.c.W f.N.h.c.p f.N.h.w f.N.h.p f.N.h.s f.N.h.b f.N.l.S f.N.l.x f.N.l.i f.N.g.e f.N.v.e f.N.P f.N.R f.z.c.W f.z.c.p f.z.T f.z.l.S f.z.l.x f.z.l.i f.z.g.e f.z.v.e f.z.m f.z.R)else bnd (Qad N f.N r.Op r.A r.B r.C) λj=>bnd (Qdg N f.N j.1 r.Op j.2.1 j.2.2) λy27=>bnd (Qar N f.z r.Op r.A r.B r.C y27) λo=>jn (λ(u y:Int) (D:List UO) (E:List UW) (G:List U2) (H:List Int) (I J:List Ul) (K:List U5) (L:List Int)=>bif (j.2.2==0)then(bif (j.2.1 != 0)then(grd (f.w.length*8<=140737488355328) <| grd ((f.w.length+1)*8<=140737488355328) <| some ((IV.mk j.1 (WE.mk (Uj.mk u y) D (WD.mk E G H) (W4.mk I) (W4.mk J) K L) (f.w++[j.2.1])),j.2.1,j.2.2))else some ((IV.mk j.1 (WE.mk (Uj.mk u y) D (WD.mk E G H) (W4.mk I) (W4.mk J) K L) f.w),j.2.1,j.2.2))else some ((IV.mk f.N (WE.mk (Uj.mk u y) D (WD.mk E G H) (W4.mk I) (W4.mk J) K L) f.w),j.2.1,j.2.2)) λj2=>bif (o.2.2==0)then j2 o.1.c.W o.1.c.p o.1.T o.1.l.S o.1.l.x o.1.l.i o.1.g.e o.1.v.e o.1.m o.1.R else j2 f.z.c.W f.z.c.p f.z.T f.z.l.S f.z.l.x f.z.l.i f.z.g.e f.z.v.e f.z.m f.z.R
def QbS(N:Nat)(f:IV)(t:IT):Option (Int×IT):=bnd (Qaf N t 14) λe=>bif (e.1==0)then(bnd (Qaf N e.2 8) λl=>bnd (Xd [0,1,262145,262146,524289,1125899906842624,4097,262149] l.1) λu=>some (u,l.2))else bif (e.1==1)then(bnd (Qaf N e.2 (f.w.length:Int)) λo=>bnd (Xd f.w o.1) λx=>bnd (Qaf N o.2 3) λp=>some ((wU (x+(wU p.1))),p.2))else jn (λ(y:Bool)=>bif y then(bnd (Qaf N e.2 (f.w.length:Int)) λq=>bnd (Xd f.w q.1) λh=>some (h,q.2))else bnd (Qaf N e.2 (if 6<(f.w.length:Int)then 6 else(f.w.length:Int))) λg=>bnd (Xd f.w (wI ((wI ((f.w.length:Int)-1))-g.1))) λj=>some (j,g.2)) λr=>bif (e.1==2)then r true else jn (λ(z:Bool)=>r z) λs=>bif (e.1==3)then s true else s (e.1==4)
def Qdt(N:Nat)(u:IV)(G:IT):Option (OG×IT):=bnd (Qaf N G 32) λo=>bnd (Xd [1,1,2,2,3,4,5,6,7,7,8,8,9,9,9,10,11,12,12,13,14,15,16,17,18,19,19,20,20,0,0,21] o.1) λe=>bif (e==1)then(bnd (Qaf N o.2 4) λw=>grd (0<=(wU w.1)) <| bnd (Qaf N w.2 (JT .i64 1 (wU w.1))) λz=>some ((OG.mk e (wU w.1) (wU z.1) 0),z.2))else jn (λ(H:Bool)=>bif H then(bnd (Qaf N o.2 4) λA=>bnd (Qaf N A.2 9) λx=>bif (x.1==0)then(bnd (Qaf N x.2 70) λB=>some ((OG.mk e (wU B.1) 0 0),B.2))else some ((OG.mk e (wU A.1) 0 0),x.2))else bif (e==17)then(bnd (Qaf N o.2 9) λD=>some ((OG.mk e (wU D.1) 0 0),D.2))else bnd (QbS N u o.2) λg=>bnd (Qaf N g.2 4) λp=>bnd (Qaf N p.2 1000) λh=>jn (λ(q:List Int) (r s:Int)=>bif (e==10)then(bnd (QbS N u (IT.mk q r)) λt=>some ((OG.mk e g.1 t.1 s),t.2))else some ((OG.mk e g.1 (wU p.1) s),(IT.mk q r))) λy=>bif (e==9)then(bnd (QbS N u h.2) λj=>y j.2.L j.2.at_ j.1)else bnd (Qaf N h.2 9) λf=>bif (f.1==0)then(bnd (QbS N u f.2) λl=>y l.2.L l.2.at_ l.1)else y f.2.L f.2.at_ (wU h.1)) λE=>bif (e==2)then E true else E (e==3)
def QfX(N:Nat)(a1:Int):Nat->Int->(List Int)->Int->Int->Int->(List Int)->(List WJ)->Int->Int->(List UW)->(List U2)->(List Int)->(List Ul)->(List Ul)->(List UQ)->(List Int)->Int->Int->(List UO)->(List UW)->(List U2)->(List Int)->(List Ul)->(List Ul)->(List U5)->(List Int)->(List Int)->Option (Int×Int×List Int×List WJ×Int×Int×List UW×List U2×List Int×List Ul×List Ul×List UQ×List Int×Int×Int×List UO×List UW×List U2×List Int×List Ul×List Ul×List U5×List Int×List Int)
 |0,_,_,_,_,_,_,_,_,_,_,_,_,_,_,_,_,_,_,_,_,_,_,_,_,_,_,_=>none
 |n+1,v2,v3,v4,V,Y,Z,v8,v9,j,o,q,r,t,u,y,A,B,D,E,G,H,I,J,K,M,O,Q=>
  bif (decide (v2<a1))then(bnd (Qf5 N (IT.mk v3 v4)) λy29=>
   bif (!y29)then(bnd (Qdt N (IV.mk (Uw.mk (Wp.mk (Uj.mk V Y) Z v8 v9 j) (WD.mk o q r) (W4.mk t) (W4.mk u) y A) (WE.mk (Uj.mk B D) E (WD.mk G H I) (W4.mk J) (W4.mk K) M O) Q) (IT.mk v3 v4)) λU=>
    bnd (QbN N (IV.mk (Uw.mk (Wp.mk (Uj.mk V Y) Z v8 v9 j) (WD.mk o q r) (W4.mk t) (W4.mk u) y A) (WE.mk (Uj.mk B D) E (WD.mk G H I) (W4.mk J) (W4.mk K) M O) Q) U.1) λf=>
    QfX N a1 n (wI (v2+1)) U.2.L U.2.at_ f.1.N.h.c.W f.1.N.h.c.p f.1.N.h.w f.1.N.h.p f.1.N.h.s f.1.N.h.b f.1.N.l.S f.1.N.l.x f.1.N.l.i f.1.N.g.e f.1.N.v.e f.1.N.P f.1.N.R f.1.z.c.W f.1.z.c.p f.1.z.T f.1.z.l.S f.1.z.l.x f.1.z.l.i f.1.z.g.e f.1.z.v.e f.1.z.m f.1.z.R f.1.w)
   else some (V,Y,Z,v8,v9,j,o,q,r,t,u,y,A,B,D,E,G,H,I,J,K,M,O,Q))
  else some (V,Y,Z,v8,v9,j,o,q,r,t,u,y,A,B,D,E,G,H,I,J,K,M,O,Q)
def Qg2(N:Nat)(o:List Int)(q:Int):Option IV:=bnd (Qbl N (IT.mk o 0)) λj=>bnd (QfX N q N 0 j.2.L j.2.at_ j.1.N.h.c.W j.1.N.h.c.p j.1.N.h.w j.1.N.h.p j.1.N.h.s j.1.N.h.b j.1.N.l.S j.1.N.l.x j.1.N.l.i j.1.N.g.e j.1.N.v.e j.1.N.P j.1.N.R j.1.z.c.W j.1.z.c.p j.1.z.T j.1.z.l.S j.1.z.l.x j.1.z.l.i j.1.z.g.e j.1.z.v.e j.1.z.m j.1.z.R j.1.w) λf=>some (IV.mk (Uw.mk (Wp.mk (Uj.mk f.1 f.2.1) f.2.2.1 f.2.2.2.1 f.2.2.2.2.1 f.2.2.2.2.2.1) (WD.mk f.2.2.2.2.2.2.1 f.2.2.2.2.2.2.2.1 f.2.2.2.2.2.2.2.2.1) (W4.mk f.2.2.2.2.2.2.2.2.2.1) (W4.mk f.2.2.2.2.2.2.2.2.2.2.1) f.2.2.2.2.2.2.2.2.2.2.2.1 f.2.2.2.2.2.2.2.2.2.2.2.2.1) (WE.mk (Uj.mk f.2.2.2.2.2.2.2.2.2.2.2.2.2.1 f.2.2.2.2.2.2.2.2.2.2.2.2.2.2.1) f.2.2.2.2.2.2.2.2.2.2.2.2.2.2.2.1 (WD.mk f.2.2.2.2.2.2.2.2.2.2.2.2.2.2.2.2.1 f.2.2.2.2.2.2.2.2.2.2.2.2.2.2.2.2.2.1 f.2.2.2.2.2.2.2.2.2.2.2.2.2.2.2.2.2.2.1) (W4.mk f.2.2.2.2.2.2.2.2.2.2.2.2.2.2.2.2.2.2.2.1) (W4.mk f.2.2.2.2.2.2.2.2.2.2.2.2.2.2.2.2.2.2.2.2.1) f.2.2.2.2.2.2.2.2.2.2.2.2.2.2.2.2.2.2.2.2.2.1 f.2.2.2.2.2.2.2.2.2.2.2.2.2.2.2.2.2.2.2.2.2.2.1) f.2.2.2.2.2.2.2.2.2.2.2.2.2.2.2.2.2.2.2.2.2.2.2)
def Qa2(N:Nat)(e:Uj):Option Bool:=bif (decide (e.W>=16))then(bif (decide (e.W<=64))then(bif ((e.W.tmod 4)==0)then(bif (decide (e.p>=8))then some (decide (e.p<=64))else some false)else some false)else some false)else some false
def QfK(N:Nat)(e:WJ)(f:Uj):Option Bool:=some ((e.k==0)&&((e.s==0)&&((e.u==0)&&(e.P==0))))
def Qc8(N:Nat)(e:WJ):Option Bool:=bif (e.s==0)then some true else some (e.s==1)
def Qc9(N:Nat)(e:WJ):Option Bool:=bif (decide (e.P>=0))then some (decide (e.P<=2147483647))else some false
def Qdu(N:Nat)(e:WJ)(f:Uj):Option Bool:=bnd (Qc8 N e) λg=>bif g then(bnd (Qc9 N e) λh=>bif h then(bif (decide (e.u>=0))then some (decide (e.u<=f.W))else some false)else some false)else some false
def Qc6(N:Nat)(e:Uj):Option Int:=bnd (Qa2 N e) λf=>bif (!f)then some 0 else some (wI (e.W.tdiv 4))
def QgA(N:Nat)(e:Uj)(f:Int):Option Int:=bnd (Qa2 N e) λg=>bif (!g)then some (-1)else bif (decide (f<1))then some (-1)else bif (decide (f>(wI (4*e.W))))then some (-1)else bnd (Qc6 N e) λh=>bif (decide (f<=h))then some 0 else grd (e.W≠0) <| some (wI ((wI ((wI (f+e.W))-1)).tdiv e.W))
def Qdv(N:Nat)(e:WJ)(f:Uj):Option Bool:=bnd (Qc8 N e) λg=>bif g then(bnd (Qc9 N e) λh=>bif h then(bnd (QgA N f e.u) λj=>some (decide (j>=1)))else some false)else some false
def Qe1(N:Nat)(e f:WJ):Option Bool:=some ((e.k==3)&&((e.s==f.s)&&((e.u==0)&&(e.P==0))))
def Qe9(N:Nat)(g:List WJ)(e:Int)(f:WJ)(l h:Int):Nat->Int->Option (Ex Int Unit)
 |0,_=>none
 |n+1,j=>
  bif (decide (j<(((min ((wI (e+h)).toNat-(wI (e+1)).toNat) (g.length-(wI (e+1)).toNat)):Nat):Int)))then(bnd (Xd ((g.drop (wI (e+1)).toNat).take ((wI (e+h)).toNat-(wI (e+1)).toNat)) j) λo=>
   bnd (Qe1 N o (WJ.mk l f.s f.u f.P)) λp=>
   bif (!p)then some (.ret 0)
   else Qe9 N g e f l h n (wI (j+1)))
  else some (.nxt ())
def QgB(N:Nat)(j:Uj)(l:List WJ)(g:Int):Option Int:=bnd (Xd l g) λf=>jn (λ(p:Int)=>bif (p != 2)then some 1 else bnd (QgA N j f.u) λh=>bif (decide (h>(wI ((l.length:Int)-g))))then some 0 else grd (0<=(wI (g+1))/\(wI (g+1))<=(wI (g+h))/\(wI (g+h))<=(l.length:Int)) <| bnd (Qe9 N l g f p h N 0) λe=>exK e (λr=>some r) λq=>some h) λo=>bif (decide (f.k<0))then some 0 else bif (decide (f.k>=3))then some 0 else bif (f.k==0)then(bnd (QfK N (WJ.mk 0 f.s f.u f.P) j) λt=>bif (!t)then some 0 else o 0)else bif (f.k==1)then(bnd (Qdu N (WJ.mk 1 f.s f.u f.P) j) λw=>bif (!w)then some 0 else o 1)else bif (f.k==2)then(bnd (Qdv N (WJ.mk 2 f.s f.u f.P) j) λx=>bif (!x)then some 0 else o 2)else none
def Qac(N:Nat)(e:Wp):Nat->Int->Option (Ex Bool Unit)
 |0,_=>none
 |n+1,f=>
  bif (decide (f<(e.p.length:Int)))then(bnd (QgB N e.c e.p f) λg=>
   bif (g==0)then some (.ret false)
   else Qac N e n (wI (f+g)))
  else some (.nxt ())
def Qcx(N:Nat)(f:Wp):Option Bool:=jn (λ(_:Unit)=>jn (λ(_:Unit)=>bnd (Qac N f N 0) λe=>exK e (λr=>some r) λo=>some true) λg=>bif (f.b != (-1))then(bif (decide (f.b<0))then some false else bif (decide (f.b>=(f.p.length:Int)))then some false else bnd (Xd f.p f.b) λj=>bif (j.k != 1)then some false else g ())else g ()) λh=>bnd (Qa2 N f.c) λl=>bif (!l)then some false else bif ((f.w.length:Int) != (wI (f.c.W*f.c.p)))then some false else bif ((f.p.length:Int) != f.c.p)then some false else bif (f.s != 0)then(bif (f.s != 1)then some false else h ())else h ()
def Qda(N:Nat)(e:List U8):Nat->Int->(List Int)->Option (List Int)
 |0,_,_=>none
 |n+1,f,g=>
  bif (decide (f<(e.length:Int)))then(bnd (Xd e f) λh=>
   grd ((g.length+1)*8<=140737488355328) <|
   Qda N e n (wI (f+1)) (g++[h.addr]))
  else some g
def Qcj(N:Nat)(e:List U8):Option (List Int):=bnd (Qda N e N 0 []) λf=>some f
def Qf9(N:Nat)(e:Uj)(f:Int):Option (Int×Int×Int):=bnd (Qa2 N e) λg=>bif (!g)then some (0,0,1)else bif (decide (f<4096))then some (0,0,2)else bif (decide ((wU (f-4096))>=(wU (wI (e.W*e.p)))))then some (0,0,2)else grd (e.W≠0) <| grd (e.W≠0) <| some ((wI ((wI (wU (f-4096))).tdiv e.W)),((wI (wU (f-4096))).tmod e.W),0)
def Qfa(N:Nat)(e:Int):Nat->Int->Int->Option Int
 |0,_,_=>none
 |n+1,f,g=>
  bif (decide (g<(if 64<(if e<0 then 0 else e)then 64 else(if e<0 then 0 else e))))then Qfa N e n (bOr .u64 (JT .u64 f 1) 1) (wI (g+1))
  else some f
def QeN(N:Nat)(e:Int):Option Int:=bnd (Qfa N e N 0 0) λf=>some f
def QdO(N:Nat)(e:WH):Option Bool:=bif (decide (e.k<0))then some false else bif (decide (e.k>3))then some false else bif (decide (e.n<0))then some false else bif (decide (e.n>255))then some false else bif (e.k==1)then(jn (λ(g:Bool)=>some g) λf=>bif (decide (e.n<=32))then(bnd (QeN N e.n) λh=>f (decide ((wU e.Map)<=h)))else f false)else some ((e.k==e.k)&&((e.n==e.n)&&(e.Map==0)))
def QdF(N:Nat)(e:WH):Option Int:=bnd (QdO N e) λf=>bif (!f)then some 0 else some (wI (e.n+1))
def QbT(N:Nat)(j:Int)(e:List Int):Nat->Int->Int->Option (Ex (List Int×Int) Unit)
 |0,_,_=>none
 |n+1,h,f=>
  bif (decide (f<(e.length:Int)))then(bnd (Xd e f) λg=>
   bif (decide (g<1))then some (.ret ([],1))
   else bif (decide (g>h))then some (.ret ([],1))
   else QbT N j e n (wI (h-g)) (wI (f+1)))
  else some (.nxt ())
def QbU(N:Nat)(e:List Int):Nat->Int->Int->(List Int)->Option (Int×List Int)
 |0,_,_,_=>none
 |n+1,f,g,h=>
  bif (decide (g<(e.length:Int)))then(bnd (Xd e g) λj=>
   bnd (QeN N j) λl=>
   grd ((h.length+1)*8<=140737488355328) <|
   grd (0<=j) <|
   QbU N e n (Y5 .u64 f j) (wI (g+1)) (h++[(ZI .u64 f l)]))
  else some (f,h)
def Qgq(N:Nat)(g:Int)(h:List Int):Option (List Int×Int):=bnd (QbT N g h N 64 0) λe=>exK e (λr=>some r) λj=>bnd (QbU N h N g 0 []) λf=>bif (f.1 != 0)then some ([],2)else some (f.2,0)
def Qft(N:Nat)(j:Int):Option (WH×Bool):=bnd (Qgq N j [2,2,12,32]) λe=>bif (e.2 != 0)then some ((WH.mk 0 0 0),false)else bnd (Xd e.1 0) λl=>bif (l != 1)then some ((WH.mk 0 0 0),false)else bnd (Xd e.1 1) λf=>bnd (Xd e.1 2) λg=>bnd (Xd e.1 3) λh=>bnd (QdO N (WH.mk (wI f) (wI g) (wW h))) λo=>bif (!o)then some ((WH.mk 0 0 0),false)else some ((WH.mk (wI f) (wI g) (wW h)),true)
def QfE(N:Nat)(f:List Int)(e g:Int):Option (Int×Bool):=bif (decide (e<4096))then some (0,false)else bif (decide ((wU (e-4096))>(wU (f.length:Int))))then some (0,false)else some ((wI (wU (e-4096))),(decide (g<=(wI ((f.length:Int)-(wI (wU (e-4096))))))))
def QgZ(N:Nat)(f:List Int)(g:Int):Option (Int×Int):=bnd (QfE N f g 1) λe=>bif (!e.2)then some (0,2)else some (e.1,0)
def Qga(N:Nat)(f:List Int)(g:Int):Option (Int×Int):=bnd (QgZ N f g) λe=>bif (e.2 != 0)then some (0,e.2)else bnd (Xd f e.1) λh=>some (h,0)
def Qgu(N:Nat)(e:Wp)(f:Int):Option Int:=bnd (Qga N e.w f) λg=>some g.1
def QeO(N:Nat)(g:Wp)(o:Int):Option (WH×Int):=bnd (Qcx N g) λw=>bif (!w)then some ((WH.mk 0 0 0),1)else bnd (Qf9 N g.c o) λe=>bif (e.2.2 != 0)then some ((WH.mk 0 0 0),e.2.2)else bnd (Xd g.p e.1) λf=>bnd (Qgu N g o) λx=>bnd (Qft N x) λh=>bnd (QdF N h.1) λq=>jn (λ(j:Bool)=>bif (!j)then some ((WH.mk 0 0 0),19)else some (h.1,0)) λl=>bif (!h.2)then l false else bif (decide (e.2.1>=f.u))then l false else jn (λ(y:Bool)=>l y) λr=>bif (f.k==1)then r (decide (q<=(wI (f.u-e.2.1))))else jn (λ(z:Bool)=>r z) λs=>bif (f.k==2)then(jn (λ(A:Bool)=>s A) λt=>bif (e.2.1==0)then t (q==f.u)else t false)else s false
def Qfb(N:Nat)(e:Uj)(f g:Int):Option (Int×Int):=bnd (Qa2 N e) λh=>bif (!h)then some (0,1)else bif (decide (f<0))then some (0,2)else bif (decide (f>=e.p))then some (0,2)else bif (decide (g<0))then some (0,2)else bif (decide (g>=e.W))then some (0,2)else some ((wU (4096+(wU (wI ((wI (f*e.W))+g))))),0)
def QbV(N:Nat)(e:Wp)(l:Int)(o:WJ):Nat->Int->List U8->Option (List U8×Int)
 |0,_,_=>none
 |n+1,f,g=>
  bif (decide (f<o.u))then(bnd (Qfb N e.c l f) λh=>
   bif (h.2==0)then(bnd (QeO N e h.1) λj=>
    bif (j.2==0)then(bnd (QdF N j.1) λp=>
     grd ((g.length+1)*32<=140737488355328) <|
     QbV N e l o n (wI (f+p)) (g++[U8.mk h.1 j.1]))
    else some ([],19))
   else some ([],19))
  else some (g,0)
def QfF(N:Nat)(f:Wp)(g:Int):Option (List U8×Int):=bnd (Xd f.p g) λe=>bif (e.k != 1)then(bif (e.k != 2)then some ([],0)else QbV N f g e N 0 [])else QbV N f g e N 0 []
def QfY(N:Nat)(e:Wp)(f:Int):Option (List Int×Int):=bnd (Qcx N e) λh=>bif (!h)then some ([],1)else bif (decide (f<0))then some ([],2)else bif (decide (f>=(e.p.length:Int)))then some ([],2)else bnd (QfF N e f) λg=>bif (g.2 != 0)then some ([],g.2)else bnd (Qcj N g.1) λj=>some (j,0)
def Qck(N:Nat)(e:Wp)(f:Int)(g:List Int):Nat->Int->Option (Ex (Int×Bool) Unit)
 |0,_=>none
 |n+1,h=>
  bif (decide (h<(g.length:Int)))then(bnd (Xd g h) λj=>
   bnd (QeO N e j) λl=>
   bnd (QdF N l.1) λo=>
   bnd (Qc6 N e.c) λq=>
   bnd (Xd e.p f) λr=>
   bif (r.k==1)then(bif (!(decide (o<=q)))then some (.ret (j,true))
    else bnd (Xd e.p f) λs=>
    bif (s.k==2)then(bif (l.1.k==0)then some (.ret (j,true))
     else Qck N e f g n (wI (h+1)))
    else Qck N e f g n (wI (h+1)))
   else bnd (Xd e.p f) λt=>
   bif (t.k==2)then(bif (l.1.k==0)then some (.ret (j,true))
    else Qck N e f g n (wI (h+1)))
   else Qck N e f g n (wI (h+1)))
  else some (.nxt ())
def QfG(N:Nat)(f:Wp)(g:Int)(h:List Int):Option (Int×Bool):=bnd (Qck N f g h N 0) λe=>exK e (λr=>some r) λj=>some (0,false)
def QcG(N:Nat)(e:List Int):Option (List Int):=some e
def Qgb(N:Nat)(g:List Int)(h f:Int):Option (List Int×Int):=bif (decide (f<0))then some ([],1)else bnd (QfE N g h f) λe=>bif (!e.2)then some ([],2)else grd (0<=e.1/\e.1<=(wI (e.1+f))/\(wI (e.1+f))<=(g.length:Int)) <| bnd (QcG N ((g.drop e.1.toNat).take ((wI (e.1+f)).toNat-e.1.toNat))) λj=>some (j,0)
def Qez(N:Nat)(f:Wp):Nat->Int->Option Int
 |0,_=>none
 |n+1,e=>
  bif (decide (e>0))then(bnd (Xd f.p e) λg=>
   bif (g.k==3)then Qez N f n (wI (e-1))
   else some e)
  else some e
def QgJ(N:Nat)(e:Wp)(f:Int):Option Int:=bnd (Qez N e N f) λg=>some g
def QgK(N:Nat)(e:Int):Option Bool:=some (e != 0)
def Qav(N:Nat)(f:List Int):Nat->Int->Option (Ex Int Unit)
 |0,_=>none
 |n+1,e=>
  bif (decide (e<(f.length:Int)))then(bnd (Xd f e) λg=>
   bnd (QgK N g) λh=>
   bif h then some (.ret e)
   else Qav N f n (wI (e+1)))
  else some (.nxt ())
def QaM(N:Nat)(f:List Int):Option Int:=bnd (Qav N f N 0) λe=>exK e (λr=>some r) λg=>some (-1)
def QdZ(N:Nat)(o:Wp)(e:Int×Int)(j:List Int×Int):Nat->Int->(List Int)->Option (List Int)
 |0,_,_=>none
 |n+1,l,h=>
  bif (decide (l<(j.1.length:Int)))then(bnd (Xd j.1 l) λf=>
   bnd (QeO N o f) λp=>
   jn (λ(g:Int)=>
    grd (h.length<=140737488355328) <|
    grd (h.length<=140737488355328) <|
    grd (0<=(if(h.length:Int)<(if(wI ((wI f)-(wI e.1)))<0 then 0 else(wI ((wI f)-(wI e.1))))then(h.length:Int)else(if(wI ((wI f)-(wI e.1)))<0 then 0 else(wI ((wI f)-(wI e.1)))))/\(if(h.length:Int)<(if(wI ((wI f)-(wI e.1)))<0 then 0 else(wI ((wI f)-(wI e.1))))then(h.length:Int)else(if(wI ((wI f)-(wI e.1)))<0 then 0 else(wI ((wI f)-(wI e.1)))))<=(if(h.length:Int)<(if(wI ((wI ((wI f)-(wI e.1)))+g))<0 then 0 else(wI ((wI ((wI f)-(wI e.1)))+g)))then(h.length:Int)else(if(wI ((wI ((wI f)-(wI e.1)))+g))<0 then 0 else(wI ((wI ((wI f)-(wI e.1)))+g))))/\(if(h.length:Int)<(if(wI ((wI ((wI f)-(wI e.1)))+g))<0 then 0 else(wI ((wI ((wI f)-(wI e.1)))+g)))then(h.length:Int)else(if(wI ((wI ((wI f)-(wI e.1)))+g))<0 then 0 else(wI ((wI ((wI f)-(wI e.1)))+g))))<=(h.length:Int)) <|
    QdZ N o e j n (wI (l+1)) (((h.take (if(h.length:Int)<(if(wI ((wI f)-(wI e.1)))<0 then 0 else(wI ((wI f)-(wI e.1))))then(h.length:Int)else(if(wI ((wI f)-(wI e.1)))<0 then 0 else(wI ((wI f)-(wI e.1))))).toNat)++(List.replicate ((if(h.length:Int)<(if(wI ((wI ((wI f)-(wI e.1)))+g))<0 then 0 else(wI ((wI ((wI f)-(wI e.1)))+g)))then(h.length:Int)else(if(wI ((wI ((wI f)-(wI e.1)))+g))<0 then 0 else(wI ((wI ((wI f)-(wI e.1)))+g)))).toNat-(if(h.length:Int)<(if(wI ((wI f)-(wI e.1)))<0 then 0 else(wI ((wI f)-(wI e.1))))then(h.length:Int)else(if(wI ((wI f)-(wI e.1)))<0 then 0 else(wI ((wI f)-(wI e.1))))).toNat) (0:Int)))++(h.drop ((if(h.length:Int)<(if(wI ((wI f)-(wI e.1)))<0 then 0 else(wI ((wI f)-(wI e.1))))then(h.length:Int)else(if(wI ((wI f)-(wI e.1)))<0 then 0 else(wI ((wI f)-(wI e.1))))).toNat+((if(h.length:Int)<(if(wI ((wI ((wI f)-(wI e.1)))+g))<0 then 0 else(wI ((wI ((wI f)-(wI e.1)))+g)))then(h.length:Int)else(if(wI ((wI ((wI f)-(wI e.1)))+g))<0 then 0 else(wI ((wI ((wI f)-(wI e.1)))+g)))).toNat-(if(h.length:Int)<(if(wI ((wI f)-(wI e.1)))<0 then 0 else(wI ((wI f)-(wI e.1))))then(h.length:Int)else(if(wI ((wI f)-(wI e.1)))<0 then 0 else(wI ((wI f)-(wI e.1))))).toNat))))) λq=>
   bif (p.1.k != 0)then(bnd (QdF N p.1) λr=>
    q r)
   else q 1)
  else some h
def Qgc(N:Nat)(f:Wp)(j:Int):Option (Int×Bool):=bnd (Qfb N f.c j 0) λg=>bnd (Qgb N f.w g.1 f.c.W) λl=>bnd (QgJ N f j) λo=>bnd (QfY N f o) λp=>bnd (QdZ N f g p N 0 l.1) λh=>bnd (QaM N h) λe=>some ((wU (g.1+(wU (if e<0 then 0 else e)))),(decide (e>=0)))
def Qa3(N:Nat)(f:Wp):Nat->Int->Option (Ex Ut Unit)
 |0,_=>none
 |n+1,e=>
  bif (decide (e<(f.p.length:Int)))then(bnd (Xd f.p e) λg=>
   jn (λ(_:Unit)=>
    bnd (QfY N f e) λh=>
    bif (h.2 != 0)then some (.ret (Ut.mk 3 e 0))
    else bnd (QfG N f e h.1) λj=>
    bif j.2 then some (.ret (Ut.mk 5 e j.1))
    else bnd (Qgc N f e) λl=>
    bif l.2 then some (.ret (Ut.mk 4 e l.1))
    else Qa3 N f n (wI (e+1))) λo=>
   bif (g.k != 0)then(bif (g.s != f.s)then some (.ret (Ut.mk 2 e 0))
    else o ())
   else o ())
  else some (.nxt ())
def Qgr(N:Nat)(f:Wp):Option Ut:=bnd (Qa3 N f N 0) λe=>exK e (λr=>some r) λg=>some (Ut.mk 0 0 0)
def QfH(N:Nat)(f:Wp):Nat->Int->(List U8)->Option (Ex (List U8×Int) (List U8))
 |0,_,_=>none
 |n+1,g,h=>
  bif (decide (g<(f.p.length:Int)))then(bnd (QfF N f g) λe=>
   bif (e.2 != 0)then some (.ret ([],e.2))
   else grd ((h.length+e.1.length)*32<=140737488355328) <|
   QfH N f n (wI (g+1)) (h++e.1))
  else some (.nxt h)
def Qhh(N:Nat)(f:Wp):Option (List U8×Int):=bnd (Qcx N f) λg=>bif (!g)then some ([],1)else bnd (QfH N f N 0 []) λe=>exK e (λr=>some r) λh=>some (h,0)
def Qel(N:Nat)(e:U8):Option Bool:=some (e.hd.k==0)
def Qag(N:Nat)(f:List U8):Nat->Int->Option (Ex Int Unit)
 |0,_=>none
 |n+1,e=>
  bif (decide (e<(f.length:Int)))then(bnd (Xd f e) λg=>
   bnd (Qel N g) λh=>
   bif h then some (.ret e)
   else Qag N f n (wI (e+1)))
  else some (.nxt ())
def Qah(N:Nat)(f:List U8):Option Int:=bnd (Qag N f N 0) λe=>exK e (λr=>some r) λg=>some (-1)
def Qcp(N:Nat):Nat->Int->Int->(List U8)->Option (Int×List U8)
 |0,_,_,_=>none
 |n+1,f,g,e=>
  grd (e.length<=140737488355328) <|
  bif (decide (g<(e.length:Int)))then(bnd (Xd e g) λh=>
   bnd (Qel N h) λj=>
   bif (!j)then(bnd (Xd e f) λl=>
    Qcp N n (wI (f+1)) (wI (g+1)) (e.set f.toNat h))
   else Qcp N n f (wI (g+1)) e)
  else some (f,e)
def Qep(N:Nat)(l:Wp):Option (List Int×Int):=bnd (Qhh N l) λf=>bif (f.2 != 0)then some ([],f.2)else bnd (Qah N f.1) λg=>bif (g==(-1))then(bnd (Qcj N f.1) λh=>some (h,0))else bnd (Qcp N N g (wI (g+1)) f.1) λe=>grd (0<=e.1/\e.1<=(e.2.length:Int)/\(e.2.length:Int)<=(e.2.length:Int)) <| grd (0<=e.1/\e.1<=(((((min e.1.toNat e.2.length)+(e.2.length-e.1.toNat))+(e.2.length-(e.1.toNat+(e.2.length-e.1.toNat)))):Nat):Int)) <| bnd (Qcj N ((((e.2.take e.1.toNat)++(List.replicate (e.2.length-e.1.toNat) (U8.mk 0 (WH.mk 0 0 0))))++(e.2.drop (e.1.toNat+(e.2.length-e.1.toNat)))).take e.1.toNat)) λj=>some (j,0)
def Qeq(N:Nat)(e:Int):Option Bool:=some (e != e)
def QfL(N:Nat)(e f:Int):Option Bool:=bnd (Qeq N e) λg=>bif g then(bnd (Qeq N f) λh=>bif (!h)then some true else some (decide (e<f)))else some (decide (e<f))
def Qdj(N:Nat)(e:Int):Option Bool:=some (e != e)
def Qap(N:Nat)(g:List Int)(h:Int):Nat->Int->Int->Option Int
 |0,_,_=>none
 |n+1,e,f=>
  bif (decide (e<f))then(bnd (Xd g (wI (Y5 .u64 (wU (wI (e+f))) 1))) λj=>
   bnd (QfL N j h) λl=>
   bif l then Qap N g h n (wI ((wI (Y5 .u64 (wU (wI (e+f))) 1))+1)) f
   else Qap N g h n e (wI (Y5 .u64 (wU (wI (e+f))) 1)))
  else some e
def Qay(N:Nat)(f:List Int)(g:Int):Option (Int×Bool):=bnd (Qap N f g N 0 (f.length:Int)) λe=>bif (decide (e<(f.length:Int)))then(bnd (Xd f e) λh=>bif (h==g)then some (e,true)else bnd (Xd f e) λj=>bnd (Qdj N j) λl=>bif l then(bnd (Qdj N g) λo=>some (e,o))else some (e,false))else some (e,false)
def Qem(N:Nat)(e:WH)(f:Int):Option Bool:=bnd (QdO N e) λg=>bif (!g)then some false else bif (decide (f<0))then some false else bif (decide (f>=e.n))then some false else bif (e.k==2)then some true else bif (e.k==1)then(grd (0<=f) <| some ((ZI .u32 (Y5 .u32 e.Map f) 1)==1))else some false
def Qb7(N:Nat)(g:WH)(h:Int):Nat->Int->(List Int)->Option (List Int)
 |0,_,_=>none
 |n+1,e,f=>
  bif (decide (e<h))then(bnd (Qem N g e) λj=>
   bif j then(grd ((f.length+1)*8<=140737488355328) <|
    Qb7 N g h n (wI (e+1)) (f++[e]))
   else Qb7 N g h n (wI (e+1)) f)
  else some f
def QdS(N:Nat)(e:WH):Option (List Int):=bnd (QdF N e) λf=>bnd (Qb7 N e f N 0 []) λg=>some g
def QaK(N:Nat)(h:Wp)(j:List Int×Int)(l e:Int)(f:List Int):Nat->Int->Option (Ex Int Unit)
 |0,_=>none
 |n+1,g=>
  bif (decide (g<(f.length:Int)))then(bnd (Xd f g) λo=>
   bnd (Qga N h.w (wU ((wU (e+1))+(wU o)))) λp=>
   bnd (Qay N j.1 p.1) λq=>
   bif (p.1 != 0)then(bif (!q.2)then some (.ret (wU ((wU (e+1))+(wU o))))
    else QaK N h j l e f n (wI (g+1)))
   else QaK N h j l e f n (wI (g+1)))
  else some (.nxt ())
def Qcn(N:Nat)(h:Wp)(f:List Int×Int):Nat->Int->Option Int
 |0,_=>none
 |n+1,g=>
  bif (decide (g<(f.1.length:Int)))then(bnd (Xd f.1 g) λl=>
   bnd (QeO N h l) λo=>
   bnd (QdS N o.1) λp=>
   bnd (QaK N h f g l p N 0) λe=>exK e (λj=>some j) λq=>
   Qcn N h f n (wI (g+1)))
  else some 0
def Qfc(N:Nat)(f:Wp):Option Ut:=bnd (Qep N f) λh=>bnd (Qcn N f h N 0) λe=>bif (e==0)then some (Ut.mk 0 0 0)else bnd (Qf9 N f.c e) λg=>some (Ut.mk 6 g.1 e)
def Qcl(N:Nat)(e:Wp):Nat->Int->Int->Option Int
 |0,_,_=>none
 |n+1,g,f=>
  bif (decide (f<(e.p.length:Int)))then(bnd (Xd e.p f) λh=>
   bif (h.k==1)then(bif (decide (h.P>0))then Qcl N e n (wI (g+1)) (wI (f+1))
    else Qcl N e n g (wI (f+1)))
   else Qcl N e n g (wI (f+1)))
  else some g
def Qg0(N:Nat)(e:Wp):Option Ut:=bnd (Qcx N e) λh=>bif (!h)then some (Ut.mk 1 0 0)else bnd (Qgr N e) λf=>bif (!((f.Fault==0)&&((f.Page==0)&&(f.Addr==0))))then some f else bnd (Qfc N e) λg=>bif (!((g.Fault==0)&&((g.Page==0)&&(g.Addr==0))))then some g else bnd (Qcl N e N 0 0) λj=>bif (decide (j>(wI (e.c.p.tdiv 4))))then some (Ut.mk 7 0 0)else some (Ut.mk 0 0 0)
def Qgd(N:Nat)(f:Wp):Option Bool:=bnd (Qg0 N f) λe=>some ((e.Fault==0)&&((e.Page==0)&&(e.Addr==0)))
def Qe2(N:Nat)(e:UQ)(f:Int):Option Bool:=some (e.a==f)
def Qao(N:Nat)(f:List UQ)(c0:Int):Nat->Int->Option (Ex Int Unit)
 |0,_=>none
 |n+1,e=>
  bif (decide (e<(f.length:Int)))then(bnd (Xd f e) λg=>
   bnd (Qe2 N g c0) λh=>
   bif h then some (.ret e)
   else Qao N f c0 n (wI (e+1)))
  else some (.nxt ())
def Qa5(N:Nat)(f:List UQ)(c0:Int):Option Int:=bnd (Qao N f c0 N 0) λe=>exK e (λr=>some r) λg=>some (-1)
def Qfu(N:Nat)(e:List UQ)(f:Int):Option Int:=bnd (Qa5 N e f) λg=>some g
def Qb8(N:Nat)(f:List UQ)(l:Wp)(o:List Int×Int):Nat->Int->(List Int)->Option (Ex (List Int×Bool) (List Int))
 |0,_,_=>none
 |n+1,g,h=>
  bif (decide (g<(f.length:Int)))then(bnd (Xd f g) λe=>
   bnd (Qay N o.1 e.a) λp=>
   bif (!p.2)then some (.ret ([],false))
   else bif (decide (e.M<1))then some (.ret ([],false))
   else bif (decide (e.M>1000))then some (.ret ([],false))
   else bnd (Qfu N f e.a) λq=>
   bif (q != g)then some (.ret ([],false))
   else bnd (Qf9 N l.c e.a) λj=>
   bnd (Xd h j.1) λr=>
   bnd (Xd h j.1) λs=>
   Qb8 N f l o n (wI (g+1)) (h.set j.1.toNat (wI (r+e.M))))
  else some (.nxt h)
def QfM(N:Nat)(h:List UQ)(f:Wp):Option (List Int×Bool):=bnd (Qep N f) λj=>grd (0<=(f.p.length:Int)/\(f.p.length:Int).toNat*8<=140737488355328) <| bnd (Qb8 N h f j N 0 (List.replicate (f.p.length:Int).toNat (0:Int))) λe=>exK e (λr=>some r) λg=>some (g,true)
def Qer(N:Nat)(f:Wp)(g:List Int×Bool):Nat->Int->Option (Ex Bool Unit)
 |0,_=>none
 |n+1,e=>
  bif (decide (e<(f.p.length:Int)))then(bnd (Xd f.p e) λh=>
   bnd (Xd g.1 e) λj=>
   bif (h.P != j)then some (.ret false)
   else Qer N f g n (wI (e+1)))
  else some (.nxt ())
def Qg3(N:Nat)(f:Wp)(g:List UQ):Option Bool:=bnd (Qgd N f) λj=>bif (!j)then some false else bif (decide ((g.length:Int)>64))then some false else bnd (QfM N g f) λh=>bif (!h.2)then some false else bnd (Qer N f h N 0) λe=>exK e (λr=>some r) λl=>some true
def Qa0(N:Nat)(f:OB):Nat->Int->Int->Option (Ex Bool Unit)
 |0,_,_=>none
 |n+1,h,g=>
  bif (decide (g<(f.l.x.length:Int)))then(bnd (Xd f.l.x g) λe=>
   bif (g==0)then(bif (e.O != 0)then some (.ret false)
    else bif (!e.B0)then some (.ret false)
    else bif (decide (e.O<h))then some (.ret false)
    else bif (decide (e.O>(f.l.S.length:Int)))then some (.ret false)
    else bif (decide (e.C0<0))then some (.ret false)
    else bif (decide (e.C0>64))then some (.ret false)
    else Qa0 N f n e.O (wI (g+1)))
   else bif (decide (e.O<h))then some (.ret false)
   else bif (decide (e.O>(f.l.S.length:Int)))then some (.ret false)
   else bif (decide (e.C0<0))then some (.ret false)
   else bif (decide (e.C0>64))then some (.ret false)
   else Qa0 N f n e.O (wI (g+1)))
  else some (.nxt ())
def Qdk(N:Nat)(f:OB):Option Bool:=jn (λ(_:Unit)=>bnd (Qa0 N f N 0 0) λe=>exK e (λr=>some r) λh=>some true) λg=>bif (decide ((f.l.x.length:Int)>64))then some false else bif ((f.l.x.length:Int)==0)then(bif (decide ((f.l.S.length:Int)>0))then some false else g ())else g ()
def Qbh(N:Nat)(f:OB):Nat->Int->Int->Option (Ex Bool Unit)
 |0,_,_=>none
 |n+1,h,g=>
  bif (decide (g<(f.l.S.length:Int)))then(bnd (Xd f.l.S g) λe=>
   bif (decide (e.J<=h))then some (.ret false)
   else bif (decide (e.J>(f.l.i.length:Int)))then some (.ret false)
   else bnd (Xd f.l.i (wI (e.J-1))) λj=>
   bif (j != g)then some (.ret false)
   else bif (e.V==(e.a==0))then some (.ret false)
   else Qbh N f n e.J (wI (g+1)))
  else some (.nxt ())
def Qc7(N:Nat)(f:OB):Option Bool:=bnd (Qbh N f N 0 0) λe=>exK e (λr=>some r) λg=>some true
def QdP(N:Nat)(e:OB)(f:Int):Option (List UW):=bif (decide ((wI (f+1))<(e.l.x.length:Int)))then(bnd (Xd e.l.x f) λg=>bnd (Xd e.l.x (wI (f+1))) λh=>grd (0<=g.O/\g.O<=h.O/\h.O<=(e.l.S.length:Int)) <| some ((e.l.S.drop g.O.toNat).take (h.O.toNat-g.O.toNat)))else bnd (Xd e.l.x f) λj=>grd (0<=j.O/\j.O<=(e.l.S.length:Int)/\(e.l.S.length:Int)<=(e.l.S.length:Int)) <| some (e.l.S.drop j.O.toNat)
def QbH(N:Nat)(e:List UW):Nat->Int->Int->Option Int
 |0,_,_=>none
 |n+1,g,f=>
  bif (decide (f<(e.length:Int)))then(bnd (Xd e f) λh=>
   bif h.V then QbH N e n (wI (g+1)) (wI (f+1))
   else QbH N e n g (wI (f+1)))
  else some g
def Qd3(N:Nat)(e:OB)(f:Int):Option Int:=bnd (QdP N e f) λg=>bnd (QbH N g N 0 0) λh=>some h
def Qfv(N:Nat)(e:Int):Option Bool:=bif (decide (e<0))then some true else some (decide (e>=4096))
def QaE(N:Nat)(f:List Int):Nat->Int->Option (Ex Int Unit)
 |0,_=>none
 |n+1,e=>
  bif (decide (e<(f.length:Int)))then(bnd (Xd f e) λg=>
   bnd (Qfv N g) λh=>
   bif h then some (.ret e)
   else QaE N f n (wI (e+1)))
  else some (.nxt ())
def QbO(N:Nat)(f:List Int):Option Int:=bnd (QaE N f N 0) λe=>exK e (λr=>some r) λg=>some (-1)
def Qbt(N:Nat)(e:List Int):Option Bool:=bnd (QbO N e) λf=>some (decide (f>=0))
def Qdw(N:Nat)(e:WD):Nat->Int->Option (Ex Bool Unit)
 |0,_=>none
 |n+1,f=>
  bif (decide (f<(e.x.length:Int)))then(bnd (Xd e.x f) λg=>
   bnd (Qd3 N (OB.mk e) f) λh=>
   bif (decide (h>g.C0))then some (.ret false)
   else Qdw N e n (wI (f+1)))
  else some (.nxt ())
def QeW(N:Nat)(f:WD):Option Bool:=bif (decide ((f.i.length:Int)>4096))then some false else bnd (Qbt N f.i) λg=>bif g then some false else bnd (Qdk N (OB.mk f)) λh=>bif (!h)then some false else bnd (Qc7 N (OB.mk f)) λj=>bif (!j)then some false else bnd (Qdw N f N 0) λe=>exK e (λr=>some r) λl=>some true
def Qfw(N:Nat)(e:Ul):Option Bool:=bif (decide (e.G<1))then some true else bif (decide (e.G>4294967295))then some true else bif (!e.V)then some (e.a != 0)else some false
def Qak(N:Nat)(f:List Ul):Nat->Int->Option (Ex Int Unit)
 |0,_=>none
 |n+1,e=>
  bif (decide (e<(f.length:Int)))then(bnd (Xd f e) λg=>
   bnd (Qfw N g) λh=>
   bif h then some (.ret e)
   else Qak N f n (wI (e+1)))
  else some (.nxt ())
def QaO(N:Nat)(f:List Ul):Option Int:=bnd (Qak N f N 0) λe=>exK e (λr=>some r) λg=>some (-1)
def QaG(N:Nat)(e:List Ul):Option Bool:=bnd (QaO N e) λf=>some (decide (f>=0))
def QdG(N:Nat)(f:W4):Option Bool:=bif (decide ((f.e.length:Int)<=64))then(bnd (QaG N f.e) λg=>some (!g))else some false
def QaX(N:Nat)(f:List Int)(g:Int):Nat->Int->Option (Ex Int Unit)
 |0,_=>none
 |n+1,e=>
  bif (decide (e<(f.length:Int)))then(bnd (Xd f e) λh=>
   bif (g==h)then some (.ret e)
   else QaX N f g n (wI (e+1)))
  else some (.nxt ())
def QcH(N:Nat)(f:List Int)(g:Int):Option Int:=bnd (QaX N f g N 0) λe=>exK e (λr=>some r) λh=>some (-1)
def QaY(N:Nat)(e:List Int)(f:Int):Option Bool:=bnd (QcH N e f) λg=>some (decide (g>=0))
def Qd0(N:Nat)(f:W4):Nat->Int->(List Int)->Option (List Int)
 |0,_,_=>none
 |n+1,g,h=>
  bif (decide (g<(f.e.length:Int)))then(bnd (Xd f.e g) λj=>
   bif j.V then(grd ((h.length+1)*8<=140737488355328) <|
    Qd0 N f n (wI (g+1)) (h++[j.a]))
   else Qd0 N f n (wI (g+1)) h)
  else some h
def QdH(N:Nat)(e:W4):Option (List Int):=bnd (QdG N e) λf=>bif (!f)then some []else bnd (Qd0 N e N 0 []) λg=>some g
def Qes(N:Nat)(e:Int)(f:List Int):Option Bool:=bnd (Qay N f e) λg=>bif (e != 0)then some (!g.2)else some false
def Qaq(N:Nat)(f c0:List Int):Nat->Int->Option (Ex Int Unit)
 |0,_=>none
 |n+1,e=>
  bif (decide (e<(f.length:Int)))then(bnd (Xd f e) λg=>
   bnd (Qes N g c0) λh=>
   bif h then some (.ret e)
   else Qaq N f c0 n (wI (e+1)))
  else some (.nxt ())
def Qa9(N:Nat)(f c0:List Int):Option Int:=bnd (Qaq N f c0 N 0) λe=>exK e (λr=>some r) λg=>some (-1)
def QaV(N:Nat)(e c0:List Int):Option Bool:=bnd (Qa9 N e c0) λf=>some (decide (f>=0))
def QfZ(N:Nat)(e:Wp)(f:List Int):Option Bool:=bnd (Qgd N e) λg=>bif (!g)then some false else bnd (Qep N e) λh=>bnd (QaV N f h.1) λj=>some (!j)
def Qbq(N:Nat)(e:Int):Option (List Int):=bif (decide (e<0))then none else bif (decide ((wI (e-(wI 0)))>0))then(grd (0=0/\0=0) <| grd (0<=(wI (e-(wI 0)))/\(wI (e-(wI 0))).toNat*8<=140737488355328) <| grd ((wI (e-(wI 0))).toNat*8<=140737488355328) <| grd (0<=0/\0<=0/\0<=(((wI (e-(wI 0))).toNat:Nat):Int)) <| some ((List.replicate (wI (e-(wI 0))).toNat (0:Int)).take 0))else some []
def QaR(N:Nat)(e:List (List Int)):Nat->Int->Int->Option Int
 |0,_,_=>none
 |n+1,f,g=>
  bif (decide (g<(e.length:Int)))then(bnd (Xd e g) λh=>
   bif (decide ((wI (f+(h.length:Int)))<0))then none
   else QaR N e n (wI (f+(h.length:Int))) (wI (g+1)))
  else some f
def QaS(N:Nat)(e:List (List Int)):Nat->Int->(List Int)->Option (List Int)
 |0,_,_=>none
 |n+1,f,g=>
  bif (decide (f<(e.length:Int)))then(bnd (Xd e f) λh=>
   grd ((g.length+h.length)*8<=140737488355328) <|
   QaS N e n (wI (f+1)) (g++h))
  else some g
def Qbb(N:Nat)(e:List (List Int)):Option (List Int):=bnd (QaR N e N 0 0) λf=>bnd (Qbq N f) λg=>bnd (QaS N e N 0 g) λh=>some h
def Qge(N:Nat)(e:List (List Int)):Option (List Int):=bnd (Qbb N e) λf=>some f
def Qd1(N:Nat)(e:WD):Nat->Int->(List Int)->Option (List Int)
 |0,_,_=>none
 |n+1,f,g=>
  bif (decide (f<(e.S.length:Int)))then(bnd (Xd e.S f) λh=>
   bif h.V then(grd ((g.length+1)*8<=140737488355328) <|
    Qd1 N e n (wI (f+1)) (g++[h.a]))
   else Qd1 N e n (wI (f+1)) g)
  else some g
def Qgf(N:Nat)(e:WD):Option (List Int):=bnd (QeW N e) λf=>bif (!f)then some []else bnd (Qd1 N e N 0 []) λg=>some g
def QeA(N:Nat)(e:Uw):Nat->Int->(List Int)->Option (List Int)
 |0,_,_=>none
 |n+1,f,g=>
  bif (decide (f<(e.P.length:Int)))then(bnd (Xd e.P f) λh=>
   grd ((g.length+1)*8<=140737488355328) <|
   QeA N e n (wI (f+1)) (g++[h.a]))
  else some g
def Qhd(N:Nat)(e:Uw):Option (List Int):=bnd (QeA N e N 0 []) λf=>some f
def QgL(N:Nat)(e:Uw):Option (List Int):=bnd (Qgf N e.l) λf=>bnd (QdH N e.g) λh=>bnd (Qhd N e) λj=>bnd (Qge N [e.R,f,h,j]) λo=>some o
def Qf0(N:Nat)(e:Uw):Option Bool:=bnd (Qg3 N e.h e.P) λj=>bif (!j)then some false else bnd (QeW N e.l) λo=>bif (!o)then some false else bnd (QdG N e.g) λp=>bif (!p)then some false else bnd (QdG N e.v) λq=>bif (!q)then some false else bnd (QdH N e.g) λr=>bnd (QaY N r 0) λs=>bif s then some false else bnd (QgL N e) λt=>bnd (QdH N e.v) λu=>bnd (Qge N [t,u]) λw=>bnd (QfZ N e.h w) λf=>some f
def QdT(N:Nat)(e:Int)(f:WE):Option Bool:=some (decide (e>(wU (f.T.length:Int))))
def Qas(N:Nat)(f:List Int)(c0:WE):Nat->Int->Option (Ex Int Unit)
 |0,_=>none
 |n+1,e=>
  bif (decide (e<(f.length:Int)))then(bnd (Xd f e) λg=>
   bnd (QdT N g c0) λh=>
   bif h then some (.ret e)
   else Qas N f c0 n (wI (e+1)))
  else some (.nxt ())
def Qbg(N:Nat)(f:List Int)(c0:WE):Option Int:=bnd (Qas N f c0 N 0) λe=>exK e (λr=>some r) λg=>some (-1)
def QaZ(N:Nat)(e:List Int)(c0:WE):Option Bool:=bnd (Qbg N e c0) λf=>some (decide (f>=0))
def Qco(N:Nat)(e:WE)(f:List Int):Option Bool:=bnd (QaZ N f e) λg=>some (!g)
def QdI(N:Nat)(e:Int)(f:WE)(g:UO):Option Bool:=bnd (Xd g.D e) λh=>bnd (Qco N f [h]) λj=>some (!j)
def QaD(N:Nat)(f:List Int)(c0:WE)(c1:UO):Nat->Int->Option (Ex Int Unit)
 |0,_=>none
 |n+1,e=>
  bif (decide (e<(f.length:Int)))then(bnd (Xd f e) λg=>
   bnd (QdI N g c0 c1) λh=>
   bif h then some (.ret e)
   else QaD N f c0 c1 n (wI (e+1)))
  else some (.nxt ())
def QbI(N:Nat)(f:List Int)(c0:WE)(c1:UO):Option Int:=bnd (QaD N f c0 c1 N 0) λe=>exK e (λr=>some r) λg=>some (-1)
def Qbp(N:Nat)(e:List Int)(c0:WE)(c1:UO):Option Bool:=bnd (QbI N e c0 c1) λf=>some (decide (f>=0))
def QdQ(N:Nat)(f:WE)(e:UO):Option Bool:=bnd (QdO N e.H) λg=>bif (!g)then some false else bif (e.H.k==0)then some false else bif ((e.D.length:Int) != e.H.n)then some false else bnd (QdS N e.H) λh=>bnd (Qbp N h f e) λj=>some (!j)
def Qd9(N:Nat)(e:U5)(f:Int):Option Bool:=some (e.I==f)
def Qai(N:Nat)(f:List U5)(c0:Int):Nat->Int->Option (Ex Int Unit)
 |0,_=>none
 |n+1,e=>
  bif (decide (e<(f.length:Int)))then(bnd (Xd f e) λg=>
   bnd (Qd9 N g c0) λh=>
   bif h then some (.ret e)
   else Qai N f c0 n (wI (e+1)))
  else some (.nxt ())
def QaL(N:Nat)(f:List U5)(c0:Int):Option Int:=bnd (Qai N f c0 N 0) λe=>exK e (λr=>some r) λg=>some (-1)
def Qet(N:Nat)(e:WE)(f:Int):Option Int:=bnd (QaL N e.m f) λg=>some g
def QbE(N:Nat)(e:WE):Nat->Int->Option (Ex Bool Unit)
 |0,_=>none
 |n+1,g=>
  bif (decide (g<(e.m.length:Int)))then(bnd (Xd e.m g) λf=>
   bif (f.I==0)then some (.ret false)
   else bnd (Qco N e [f.I]) λh=>
   bif (!h)then some (.ret false)
   else bif (decide (f.M<1))then some (.ret false)
   else bif (decide (f.M>1000))then some (.ret false)
   else bnd (Qet N e f.I) λj=>
   bif (j != g)then some (.ret false)
   else QbE N e n (wI (g+1)))
  else some (.nxt ())
def QdR(N:Nat)(f:WE):Option Bool:=bnd (QbE N f N 0) λe=>exK e (λr=>some r) λg=>some (decide ((f.m.length:Int)<=64))
def Qdx(N:Nat)(e:WE):Nat->Int->Option (Ex Bool Unit)
 |0,_=>none
 |n+1,f=>
  bif (decide (f<(e.T.length:Int)))then(bnd (Xd e.T f) λg=>
   bnd (QdQ N e g) λh=>
   bif (!h)then some (.ret false)
   else Qdx N e n (wI (f+1)))
  else some (.nxt ())
def QeX(N:Nat)(f:WE):Option Bool:=bnd (Qa2 N f.c) λt=>bif (!t)then some false else bnd (QeW N f.l) λu=>bif (!u)then some false else bnd (QdG N f.g) λw=>bif (!w)then some false else bnd (QdG N f.v) λx=>bif (!x)then some false else bnd (QdH N f.g) λy=>bnd (QaY N y 0) λz=>bif z then some false else bnd (Qdx N f N 0) λe=>exK e (λr=>some r) λA=>bnd (Qgf N f.l) λh=>bnd (QdH N f.g) λj=>bnd (QdH N f.v) λo=>bnd (Qbb N [f.R,h,j,o]) λp=>bnd (Qco N f p) λq=>bif q then(bnd (QdR N f) λs=>some s)else some false
def Qat(N:Nat)(f j:List U2):Nat->Int->Option (Ex Bool Unit)
 |0,_=>none
 |n+1,e=>
  bif (decide (e<(f.length:Int)))then(bnd (Xd f e) λg=>
   bnd (Xd j e) λh=>
   bif (!((g.O==h.O)&&((g.C0==h.C0)&&(g.B0==h.B0))))then some (.ret false)
   else Qat N f j n (wI (e+1)))
  else some (.nxt ())
def QaI(N:Nat)(f g:List U2):Option Bool:=bif ((f.length:Int) != (g.length:Int))then some false else bnd (Qat N f g N 0) λe=>exK e (λr=>some r) λh=>some true
def Qbi(N:Nat)(f g:List Int):Nat->Int->Option (Ex Bool Unit)
 |0,_=>none
 |n+1,e=>
  bif (decide (e<(f.length:Int)))then(bnd (Xd f e) λh=>
   bnd (Xd g e) λj=>
   bif (h != j)then some (.ret false)
   else Qbi N f g n (wI (e+1)))
  else some (.nxt ())
def Qcm(N:Nat)(f g:List Int):Option Bool:=bif ((f.length:Int) != (g.length:Int))then some false else bnd (Qbi N f g N 0) λe=>exK e (λr=>some r) λh=>some true
def QeP(N:Nat)(f:Wp)(g:Int):Option (WH×Int):=bnd (Qcx N f) λh=>bif (!h)then some ((WH.mk 0 0 0),1)else bif (g==0)then some ((WH.mk 0 0 0),5)else bnd (QeO N f g) λe=>bif (e.2 != 0)then some ((WH.mk 0 0 0),e.2)else bif (e.1.k==0)then some ((WH.mk 0 0 0),4)else some (e.1,0)
def Qgv(N:Nat)(g:Wp)(e:Int):Option (Int×Int×Int):=bnd (QeP N g e) λf=>bif (f.2 != 0)then some (0,0,f.2)else some ((wU (e+1)),(wU ((wU (e+1))+(wU f.1.n))),0)
def QeB(N:Nat)(f:Wp)(g:Int):Option (List Int×Int):=bnd (QeP N f g) λe=>bif (e.2 != 0)then some ([],e.2)else bnd (Qgb N f.w (wU (g+1)) e.1.n) λh=>some (h.1,h.2)
def QaW(N:Nat)(q:Uw)(w:WE):Nat->Int->(List (Int×Int))->(List (Int×Int))->(List WS)->Option (Ex (List WS×Bool) ((List (Int×Int))×(List (Int×Int))×List WS))
 |0,_,_,_,_=>none
 |n+1,l,g,h,j=>
  bif (decide (l<(q.R.length:Int)))then(bnd (Xd q.R l) λe=>
   bnd (Xd w.R l) λf=>
   jn (λ(r:Bool) (s t:List (Int×Int)) (u:List WS)=>
    bif (!r)then some (.ret ([],false))
    else QaW N q w n (wI (l+1)) s t u) λo=>
   bif (e==0)then o (e==f) g h j
   else bif (f==0)then o (e==f) g h j
   else grd (0<=((mG g e).getD 0)/\((mG g e).getD 0)<=18446744073709551615) <|
   grd (0<=((mG h f).getD 0)/\((mG h f).getD 0)<=18446744073709551615) <|
   jn (λ(_:Unit)=>
    jn (λ(y:Bool)=>
     o y g h j) λp=>
    bif (mG g e).isSome then (bif (mG h f).isSome then (bif (((mG g e).getD 0)==f) then p (((mG h f).getD 0)==e)
        else p false)
     else p false)
    else p false) λx=>
   bif (mG g e).isSome then x ()
   else bif (mG h f).isSome then x ()
   else grd ((mG g e).isSome=false) <|
   grd (g.length<140737488355328) <|
   grd ((mG h f).isSome=false) <|
   grd (h.length<140737488355328) <|
   grd ((j.length+1)*16<=140737488355328) <|
   o true (g++[(e,f)]) (h++[(f,e)]) (j++[(WS.mk e f)]))
  else some (.nxt (g,h,j))
def Qbc(N:Nat)(s:Uw)(w:WE):Nat->Int->(List (Int×Int))->(List (Int×Int))->(List WS)->Option (Ex ((List (Int×Int))×(List (Int×Int))×List WS) ((List (Int×Int))×(List (Int×Int))×List WS))
 |0,_,_,_,_=>none
 |n+1,o,f,g,j=>
  bif (decide (o<(s.l.S.length:Int)))then(bnd (Xd s.l.S o) λe=>
   bnd (Xd w.l.S o) λh=>
   bif (e.J != h.J)then some (.ret (f,g,j))
   else bif (!(e.V==h.V))then some (.ret (f,g,j))
   else bif e.V then(jn (λ(x:Bool) (p q:List (Int×Int)) (r:List WS)=>
    bif (!x)then some (.ret (p,q,r))
    else Qbc N s w n (wI (o+1)) p q r) λt=>
    bif (e.a==0)then t (e.a==h.a) f g j
    else bif (h.a==0)then t (e.a==h.a) f g j
    else grd (0<=((mG f e.a).getD 0)/\((mG f e.a).getD 0)<=18446744073709551615) <|
    grd (0<=((mG g h.a).getD 0)/\((mG g h.a).getD 0)<=18446744073709551615) <|
    jn (λ(_:Unit)=>
     jn (λ(y:Bool)=>
      t y f g j) λu=>
     bif (mG f e.a).isSome then (bif (mG g h.a).isSome then (bif (((mG f e.a).getD 0)==h.a) then u (((mG g h.a).getD 0)==e.a)
         else u false)
      else u false)
     else u false) λz=>
    bif (mG f e.a).isSome then z ()
    else bif (mG g h.a).isSome then z ()
    else grd ((mG f e.a).isSome=false) <|
    grd (f.length<140737488355328) <|
    grd ((mG g h.a).isSome=false) <|
    grd (g.length<140737488355328) <|
    grd ((j.length+1)*16<=140737488355328) <|
    t true (f++[(e.a,h.a)]) (g++[(h.a,e.a)]) (j++[(WS.mk e.a h.a)]))
   else Qbc N s w n (wI (o+1)) f g j)
  else some (.nxt (f,g,j))
def Qbd(N:Nat)(u:Uw)(x:WE):Nat->Int->(List (Int×Int))->(List (Int×Int))->(List WS)->Option (Ex ((List (Int×Int))×(List (Int×Int))×List WS) ((List (Int×Int))×(List (Int×Int))×List WS))
 |0,_,_,_,_=>none
 |n+1,p,h,j,o=>
  bif (decide (p<(u.g.e.length:Int)))then(bnd (Xd u.g.e p) λf=>
   bnd (Xd x.g.e p) λl=>
   bif (f.G != l.G)then some (.ret (h,j,o))
   else bif (!(f.V==l.V))then some (.ret (h,j,o))
   else bif f.V then(jn (λ(y:Bool) (r s:List (Int×Int)) (t:List WS)=>
    bif (!y)then some (.ret (r,s,t))
    else Qbd N u x n (wI (p+1)) r s t) λq=>
    bif (f.a==0)then q (f.a==l.a) h j o
    else bif (l.a==0)then q (f.a==l.a) h j o
    else grd (0<=((mG h f.a).getD 0)/\((mG h f.a).getD 0)<=18446744073709551615) <|
    grd (0<=((mG j l.a).getD 0)/\((mG j l.a).getD 0)<=18446744073709551615) <|
    jn (λ(_:Unit)=>
     jn (λ(z:Bool)=>
      q z h j o) λw=>
     bif (mG h f.a).isSome then (bif (mG j l.a).isSome then (bif (((mG h f.a).getD 0)==l.a) then w (((mG j l.a).getD 0)==f.a)
         else w false)
      else w false)
     else w false) λA=>
    bif (mG h f.a).isSome then A ()
    else bif (mG j l.a).isSome then A ()
    else grd ((mG h f.a).isSome=false) <|
    grd (h.length<140737488355328) <|
    grd ((mG j l.a).isSome=false) <|
    grd (j.length<140737488355328) <|
    grd ((o.length+1)*16<=140737488355328) <|
    q true (h++[(f.a,l.a)]) (j++[(l.a,f.a)]) (o++[(WS.mk f.a l.a)]))
   else Qbd N u x n (wI (p+1)) h j o)
  else some (.nxt (h,j,o))
def Qbe(N:Nat)(w:Uw)(x:WE):Nat->Int->(List (Int×Int))->(List (Int×Int))->(List WS)->Option (Ex ((List (Int×Int))×(List (Int×Int))×List WS) ((List (Int×Int))×(List (Int×Int))×List WS))
 |0,_,_,_,_=>none
 |n+1,o,g,h,l=>
  bif (decide (o<(w.v.e.length:Int)))then(bnd (Xd w.v.e o) λf=>
   bnd (Xd x.v.e o) λj=>
   bif (f.G != j.G)then some (.ret (g,h,l))
   else bif (!(f.V==j.V))then some (.ret (g,h,l))
   else bif f.V then(jn (λ(y:Bool) (r s:List (Int×Int)) (t:List WS)=>
    bif (!y)then some (.ret (r,s,t))
    else Qbe N w x n (wI (o+1)) r s t) λp=>
    bif (f.a==0)then p (f.a==j.a) g h l
    else bif (j.a==0)then p (f.a==j.a) g h l
    else grd (0<=((mG g f.a).getD 0)/\((mG g f.a).getD 0)<=18446744073709551615) <|
    grd (0<=((mG h j.a).getD 0)/\((mG h j.a).getD 0)<=18446744073709551615) <|
    jn (λ(_:Unit)=>
     jn (λ(z:Bool)=>
      p z g h l) λq=>
     bif (mG g f.a).isSome then (bif (mG h j.a).isSome then (bif (((mG g f.a).getD 0)==j.a) then q (((mG h j.a).getD 0)==f.a)
         else q false)
      else q false)
     else q false) λu=>
    bif (mG g f.a).isSome then u ()
    else bif (mG h j.a).isSome then u ()
    else grd ((mG g f.a).isSome=false) <|
    grd (g.length<140737488355328) <|
    grd ((mG h j.a).isSome=false) <|
    grd (h.length<140737488355328) <|
    grd ((l.length+1)*16<=140737488355328) <|
    p true (g++[(f.a,j.a)]) (h++[(j.a,f.a)]) (l++[(WS.mk f.a j.a)]))
   else Qbe N w x n (wI (o+1)) g h l)
  else some (.nxt (g,h,l))
def Qbu(N:Nat)(x:Uw)(A:WE):Nat->Int->(List (Int×Int))->(List (Int×Int))->(List WS)->Option (Ex ((List (Int×Int))×(List (Int×Int))×List WS) ((List (Int×Int))×(List (Int×Int))×List WS))
 |0,_,_,_,_=>none
 |n+1,o,e,f,l=>
  bif (decide (o<(x.P.length:Int)))then(bnd (Xd x.P o) λg=>
   bnd (Qgv N x.h g.a) λr=>
   bnd (Xd A.m o) λj=>
   bif (r.2.2 != 0)then some (.ret (e,f,l))
   else bif (g.M != j.M)then some (.ret (e,f,l))
   else bif (r.1 != j.B0)then some (.ret (e,f,l))
   else jn (λ(y:Bool) (s t:List (Int×Int)) (u:List WS)=>
    bif (!y)then some (.ret (s,t,u))
    else Qbu N x A n (wI (o+1)) s t u) λp=>
   bif (g.a==0)then p (g.a==j.I) e f l
   else bif (j.I==0)then p (g.a==j.I) e f l
   else grd (0<=((mG e g.a).getD 0)/\((mG e g.a).getD 0)<=18446744073709551615) <|
   grd (0<=((mG f j.I).getD 0)/\((mG f j.I).getD 0)<=18446744073709551615) <|
   jn (λ(_:Unit)=>
    jn (λ(z:Bool)=>
     p z e f l) λq=>
    bif (mG e g.a).isSome then (bif (mG f j.I).isSome then (bif (((mG e g.a).getD 0)==j.I) then q (((mG f j.I).getD 0)==g.a)
        else q false)
     else q false)
    else q false) λw=>
   bif (mG e g.a).isSome then w ()
   else bif (mG f j.I).isSome then w ()
   else grd ((mG e g.a).isSome=false) <|
   grd (e.length<140737488355328) <|
   grd ((mG f j.I).isSome=false) <|
   grd (f.length<140737488355328) <|
   grd ((l.length+1)*16<=140737488355328) <|
   p true (e++[(g.a,j.I)]) (f++[(j.I,g.a)]) (l++[(WS.mk g.a j.I)]))
  else some (.nxt (e,f,l))
def Qbf(N:Nat)(G:Uw)(H:WE)(w:WH×Int)(o:UO)(x:Int)(p:List Int×Int):Nat->Int->(List (Int×Int))->(List (Int×Int))->(List WS)->Option (Ex ((List (Int×Int))×(List (Int×Int))×List WS) ((List (Int×Int))×(List (Int×Int))×List WS))
 |0,_,_,_,_=>none
 |n+1,l,f,g,j=>
  bif (decide (l<(p.1.length:Int)))then(bnd (Xd p.1 l) λh=>
   bnd (Qem N w.1 l) λE=>
   bif E then(bnd (Xd o.D l) λe=>
    jn (λ(y:Bool) (s t:List (Int×Int)) (u:List WS)=>
     bif (!y)then some (.ret (s,t,u))
     else Qbf N G H w o x p n (wI (l+1)) s t u) λq=>
    bif (h==0)then q (h==e) f g j
    else bif (e==0)then q (h==e) f g j
    else grd (0<=((mG f h).getD 0)/\((mG f h).getD 0)<=18446744073709551615) <|
    grd (0<=((mG g e).getD 0)/\((mG g e).getD 0)<=18446744073709551615) <|
    jn (λ(_:Unit)=>
     jn (λ(z:Bool)=>
      q z f g j) λr=>
     bif (mG f h).isSome then (bif (mG g e).isSome then (bif (((mG f h).getD 0)==e) then r (((mG g e).getD 0)==h)
         else r false)
      else r false)
     else r false) λA=>
    bif (mG f h).isSome then A ()
    else bif (mG g e).isSome then A ()
    else grd ((mG f h).isSome=false) <|
    grd (f.length<140737488355328) <|
    grd ((mG g e).isSome=false) <|
    grd (g.length<140737488355328) <|
    grd ((j.length+1)*16<=140737488355328) <|
    q true (f++[(h,e)]) (g++[(e,h)]) (j++[(WS.mk h e)]))
   else bnd (Xd o.D l) λB=>
   bif (h != B)then some (.ret (f,g,j))
   else Qbf N G H w o x p n (wI (l+1)) f g j)
  else some (.nxt (f,g,j))
def Qbv(N:Nat)(A:Uw)(B:WE):Nat->Int->(List (Int×Int))->(List (Int×Int))->(List WS)->Option (Ex (List WS×Bool) ((List (Int×Int))×(List (Int×Int))×List WS))
 |0,_,_,_,_=>none
 |n+1,s,g,j,f=>
  grd (f.length<=140737488355328) <|
  bif (decide (s<(f.length:Int)))then(bnd (Xd f s) λt=>
   jn (λ(w:Bool) (x y:List (Int×Int)) (z:List WS)=>
    bif (!w)then some (.ret ([],false))
    else Qbv N A B n (wI (s+1)) x y z) λl=>
   bnd (QeP N A.h t.Addr) λo=>
   bnd (Xd B.T (wU (t.I-1))) λp=>
   bif (o.2 != 0)then l false g j f
   else bif (!((o.1.k==p.H.k)&&((o.1.n==p.H.n)&&(o.1.Map==p.H.Map))))then l false g j f
   else bnd (QeB N A.h t.Addr) λu=>
   bif (u.2 != 0)then l false g j f
   else bif ((u.1.length:Int) != (p.D.length:Int))then l false g j f
   else bnd (Qbf N A B o p s u N 0 g j f) λe=>exK e (λq=>l false q.1 q.2.1 q.2.2) λr=>
   l true r.1 r.2.1 r.2.2)
  else some (.nxt (g,j,f))
def Qdy(N:Nat)(j:Uw)(o:WE):Option (List WS×Bool):=bnd (Qf0 N j) λy1=>bif (!y1)then some ([],false)else bnd (QeX N o) λy2=>bif (!y2)then some ([],false)else bif (!((j.h.c.W==o.c.W)&&(j.h.c.p==o.c.p)))then some ([],false)else bif ((j.R.length:Int) != (o.R.length:Int))then some ([],false)else bnd (QaW N j o N 0 [] [] []) λe=>exK e (λr=>some r) λf=>jn (λ(V:Bool) (G H:List (Int×Int)) (I:List WS)=>bif (!V)then some ([],false)else jn (λ(Y:Bool) (J K:List (Int×Int)) (L:List WS)=>bif (!Y)then some ([],false)else jn (λ(Z:Bool) (M O:List (Int×Int)) (Q:List WS)=>bif (!Z)then some ([],false)else jn (λ(x82:Bool) (x83 x84:List (Int×Int)) (x85:List WS)=>bif (!x82)then some ([],false)else bnd (Qbv N j o N 0 x83 x84 x85) λe=>exK e (λr=>some r) λT=>some (T.2.2,true)) λq=>bif ((j.P.length:Int) != (o.m.length:Int))then q false M O Q else bnd (Qbu N j o N 0 M O Q) λe=>exK e (λs=>q false s.1 s.2.1 s.2.2) λt=>q true t.1 t.2.1 t.2.2) λu=>bif ((j.v.e.length:Int) != (o.v.e.length:Int))then u false J K L else bnd (Qbe N j o N 0 J K L) λe=>exK e (λw=>u false w.1 w.2.1 w.2.2) λy=>u true y.1 y.2.1 y.2.2) λz=>bif ((j.g.e.length:Int) != (o.g.e.length:Int))then z false G H I else bnd (Qbd N j o N 0 G H I) λe=>exK e (λA=>z false A.1 A.2.1 A.2.2) λB=>z true B.1 B.2.1 B.2.2) λU=>bnd (QaI N j.l.x o.l.x) λy15=>bif (!y15)then U false f.1 f.2.1 f.2.2 else bnd (Qcm N j.l.i o.l.i) λy16=>bif (!y16)then U false f.1 f.2.1 f.2.2 else bif ((j.l.S.length:Int) != (o.l.S.length:Int))then U false f.1 f.2.1 f.2.2 else bnd (Qbc N j o N 0 f.1 f.2.1 f.2.2) λe=>exK e (λD=>U false D.1 D.2.1 D.2.2) λE=>U true E.1 E.2.1 E.2.2
def QbW(N:Nat)(e:WE):Nat->Int->(List UO)->Option (List UO)
 |0,_,_=>none
 |n+1,f,g=>
  bif (decide (f<(e.T.length:Int)))then(bnd (Xd e.T f) λh=>
   bnd (Xd e.T f) λj=>
   grd ((g.length+1)*48<=140737488355328) <|
   QbW N e n (wI (f+1)) (g++[(UO.mk h.H j.D)]))
  else some g
def QbX(N:Nat)(e:WE)(j:List UO):Nat->Int->(List U5)->Option (List U5)
 |0,_,_=>none
 |n+1,f,g=>
  bif (decide (f<(e.m.length:Int)))then(bnd (Xd e.m f) λl=>
   bnd (Xd e.m f) λo=>
   bnd (Xd e.m f) λh=>
   grd ((g.length+1)*24<=140737488355328) <|
   QbX N e j n (wI (f+1)) (g++[(U5.mk l.I o.M h.B0)]))
  else some g
def Qcq(N:Nat)(e:WE):Option WE:=bnd (QbW N e N 0 []) λh=>bnd (QbX N e h N 0 []) λf=>some (WE.mk e.c h e.l e.g e.v f e.R)
def Qdi(N:Nat)(h:WH×Int)(f:List Int×Int):Nat->Int->(List Int)->Option (List Int)
 |0,_,_=>none
 |n+1,e,g=>
  bif (decide (e<(f.1.length:Int)))then(bnd (QbK N h.1 e) λj=>
   bif j then(bnd (Xd f.1 e) λl=>
    grd ((g.length+1)*8<=140737488355328) <|
    Qdi N h f n (wI (e+1)) (g++[l]))
   else Qdi N h f n (wI (e+1)) g)
  else some g
def QgM(N:Nat)(e:Wp)(f:Int):Option (List Int):=bnd (Qb0 N e f) λg=>bnd (QcZ N e f) λh=>bnd (Qdi N g h N 0 []) λj=>some j
def QbY(N:Nat)(j:Wp)(e:List Int)(h:List Int×Int):Nat->Int->(List Int)->Option (Ex Unit (List Int))
 |0,_,_=>none
 |n+1,f,g=>
  bif (decide (f<(e.length:Int)))then(bnd (Xd e f) λo=>
   bif (o==0)then QbY N j e h n (wI (f+1)) g
   else bnd (Xd e f) λp=>
   bnd (Qba N h.1 p) λq=>
   bif (!q)then some (.ret ())
   else bnd (Xd e f) λr=>
   bnd (Qba N g r) λs=>
   bif (!s)then(bnd (Xd e f) λl=>
    grd ((g.length+1)*8<=140737488355328) <|
    QbY N j e h n (wI (f+1)) (g++[l]))
   else QbY N j e h n (wI (f+1)) g)
  else some (.nxt g)
def QbZ(N:Nat)(l:Wp)(j:List Int×Int)(e:List Int)(h:Int):Nat->Int->(List Int)->Option (Ex Unit (List Int))
 |0,_,_=>none
 |n+1,f,g=>
  bif (decide (f<(e.length:Int)))then(bnd (Xd e f) λo=>
   bif (o==0)then QbZ N l j e h n (wI (f+1)) g
   else bnd (Xd e f) λp=>
   bnd (Qba N j.1 p) λq=>
   bif (!q)then some (.ret ())
   else bnd (Xd e f) λr=>
   bnd (Qba N g r) λs=>
   bif (!s)then(bnd (Xd e f) λt=>
    grd ((g.length+1)*8<=140737488355328) <|
    QbZ N l j e h n (wI (f+1)) (g++[t]))
   else QbZ N l j e h n (wI (f+1)) g)
  else some (.nxt g)
def Qdz(N:Nat)(j:Wp)(s:List Int×Int):Nat->Bool->Int->(List Int)->Option (Bool×List Int)
 |0,_,_,_=>none
 |n+1,h,g,f=>
  bif h then(grd (f.length<=140737488355328) <|
   bif (decide (g<(f.length:Int)))then(bnd (Xd f g) λl=>
    bnd (QgM N j l) λo=>
    jn (λ(p:Bool) (q:List Int)=>
     Qdz N j s n p (wI (g+1)) q) λt=>
    bnd (QbZ N j s o g N 0 f) λe=>exK e (λu=>t false []) λr=>
    t true r)
   else some (h,f))
  else some (h,f)
def Qgs(N:Nat)(g:Wp)(q:List Int):Option (List Int×Int):=bnd (Qab N g) λr=>bif (!r)then some ([],1)else bnd (Qaj N g) λh=>bif (h.2 != 0)then some ([],h.2)else jn (λ(j:Bool) (l:List Int)=>bnd (Qdz N g h N j 0 l) λf=>bif (!f.1)then some ([],19)else some (f.2,0)) λp=>bnd (QbY N g q h N 0 []) λe=>exK e (λs=>p false []) λo=>p true o
def Qg1(N:Nat):Option Bool:=bnd (Qg2 N [] 0) λe=>bnd (Qcq N e.z) λg=>bnd (Qdy N e.N g) λf=>bif f.2 then some ((f.1.length:Int)==0)else some false
def Qa8(N:Nat)(p:IV)(e:List WS×Bool):Nat->Int->(List Int)->(List Int)->Option (Ex Bool (List Int))
 |0,_,_,_=>none
 |n+1,f,g,h=>
  bif (decide (f<(e.1.length:Int)))then(bnd (Xd e.1 f) λq=>
   bnd (Qba N g q.Addr) λr=>
   bif r then some (.ret false)
   else bnd (Xd e.1 f) λs=>
   bnd (Qba N h s.I) λj=>
   bif j then some (.ret false)
   else bnd (Xd e.1 f) λl=>
   grd ((g.length+1)*8<=140737488355328) <|
   bnd (Xd e.1 f) λo=>
   grd ((h.length+1)*8<=140737488355328) <|
   Qa8 N p e n (wI (f+1)) (g++[l.Addr]) (h++[o.I]))
  else some (.nxt g)
def QaN(N:Nat)(g:List Int)(e:List Int×Int):Nat->Int->Option (Ex Bool Unit)
 |0,_=>none
 |n+1,f=>
  bif (decide (f<(e.1.length:Int)))then(bnd (Xd e.1 f) λh=>
   bnd (Qba N g h) λj=>
   bif (!j)then some (.ret false)
   else QaN N g e n (wI (f+1)))
  else some (.nxt ())
def QcO(N:Nat)(q:List Int):Option Bool:=bnd (Qg2 N q 100) λf=>bnd (Qcq N f.z) λs=>bnd (Qdy N f.N s) λp=>bif (!p.2)then some false else bnd (Qa8 N f p N 0 [] []) λe=>exK e (λr=>some r) λj=>bnd (QcW N f.N) λl=>bnd (Qgs N f.N.h l) λg=>bnd (QaN N j g N 0) λe=>exK e (λr=>some r) λt=>bnd (Qg1 N) λo=>bif o then some (g.2==0)else some false
end Go.Sx
