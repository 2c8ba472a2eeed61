import Derived.Test.YtokkmapiallffaaGreatDoorKA
set_option linter.all false
namespace Go.Sx
structure WP where
 W:Int
 p:Int
structure Wp where
 k:Int
 s:Int
 u:Int
 P:Int
structure Wh where
 c:WP
 w:List Int
 p:List Wp
 s:Int
 b:Int
structure UH where
 J:Int
 a:Int
 V:Bool
structure UX where
 O:Int
 C0:Int
 B0:Bool
structure Wq where
 S:List UH
 x:List UX
 i:List Int
structure W6 where
 G:Int
 a:Int
 V:Bool
structure WD where
 e:List W6
structure UB where
 a:Int
 M:Int
structure Uj where
 h:Wh
 l:Wq
 g:WD
 v:WD
 P:List UB
 R:List Int
structure Wy where
 k:Int
 n:Int
 Map:Int
structure UY where
 H:Wy
 D:List Int
structure IC where
 I:Int
 M:Int
 B0:Int
structure WO where
 c:WP
 T:List UY
 l:Wq
 g:WD
 v:WD
 m:List IC
 R:List Int
structure Io where
 N:Uj
 z:WO
 w:List Int
structure WS where
 j:Int
 K:Int
 F:Int
 E:Int
 f:Int
 y:Int
structure Od where
 R:List Int
 Nodes:List UY
structure IB where
 L:List Int
 at_:Int
structure Ow where
 Op:Int
 A:Int
 B:Int
 C:Int
structure U3 where
 Tag:Int
 Index:Int
 J:Int
structure OB where
 Failed:Bool
 Collected:Bool
 B0:Int
structure IN where
 l:Wq
structure Un where
 Fault:Int
 Page:Int
 Addr:Int
structure UU where
 addr:Int
 hd:Wy
structure Ox where
 page:Int
 offset:Int
structure Wu where
 h:Wh
 o:List Int
 t:List Int
 q:List Int
 d:Int
 r:WS
structure Ik where
 Width:Int
 Value:Int
structure OA where
 O:Int
 Len:Int
@[simp] abbrev zWd:WO:=WO.mk (WP.mk 0 0) [] (Wq.mk [] [] []) (WD.mk []) (WD.mk []) [] []
@[simp] abbrev zHp:Wh:=Wh.mk (WP.mk 0 0) [] [] 0 0
def Qaj(N:Nat)(e:IB)(f:Int):Option (Int×IB):=bif (decide (f<1))then some (0,e)else jn (λ(h:Int)=>grd (f≠0) <| grd (f≠0) <| some (((wI ((h.tmod f)+f)).tmod f),(IB.mk e.L (wI (e.at_+1))))) λg=>bif (decide (e.at_<(e.L.length:Int)))then(bnd (Xd e.L e.at_) λj=>g j)else g (wI ((wI (e.at_*7))+3))
def Qfh(N:Nat)(g:IB):Option (WP×IB):=bnd (Qaj N g 4) λe=>bnd (Xd [16,16,20,32] e.1) λh=>bnd (Qaj N e.2 5) λf=>bnd (Xd [8,12,16,20,24] f.1) λj=>some ((WP.mk h j),f.2)
def QaT(N:Nat)(e:WP):Option Bool:=bif (decide (e.W>=16))then(bif (decide (e.W<=64))then(bif ((e.W.tmod 4)==0)then(bif (decide (e.p>=8))then some (decide (e.p<=64))else some false)else some false)else some false)else some false
def Qf7(N:Nat)(e:WP):Option (Wh×Int):=bnd (QaT N e) λf=>bif (!f)then some (zHp,1)else grd (0<=(wI (e.p*e.W))/\(wI (e.p*e.W)).toNat*8<=140737488355328) <| grd (0<=e.p/\e.p.toNat*32<=140737488355328) <| some ((Wh.mk e (List.replicate (wI (e.p*e.W)).toNat (0:Int)) (List.replicate e.p.toNat (Wp.mk 0 0 0 0)) 0 (-1)),0)
def QeS(N:Nat)(f:WP):Option (Uj×Int):=bnd (Qf7 N f) λe=>some ((Uj.mk e.1 (Wq.mk [] [] []) (WD.mk []) (WD.mk []) [] []),e.2)
def Qf8(N:Nat)(e:WP):Option (WO×Int):=bnd (QaT N e) λf=>bif (!f)then some (zWd,1)else some ((WO.mk e [] (Wq.mk [] [] []) (WD.mk []) (WD.mk []) [] []),0)
def Qbi(N:Nat)(o:IB):Option (Io×IB):=bnd (Qfh N o) λj=>bnd (QeS N j.1) λf=>bnd (Qf8 N j.1) λe=>bnd (Qaj N j.2 40) λk=>some ((Io.mk (Uj.mk f.1.h (Wq.mk f.1.l.S [(UX.mk 0 (wI (4+k.1)) true)] f.1.l.i) f.1.g f.1.v f.1.P f.1.R) (WO.mk e.1.c e.1.T (Wq.mk e.1.l.S [(UX.mk 0 (wI (4+k.1)) true)] e.1.l.i) e.1.g e.1.v e.1.m e.1.R) [0]),k.2)
def Qgh(N:Nat)(e:IB):Option Bool:=some (decide (e.at_>=(e.L.length:Int)))
def QdY(N:Nat)(f:Wq)(g:Int):Nat->Int->Int->Option Int
 |0,_,_=>none
 |n+1,h,e=>
  bif (decide (e<g))then(bnd (Xd f.S e) λj=>
   bif j.V then QdY N f g n (wI (h+1)) (wI (e+1))
   else QdY N f g n h (wI (e+1)))
  else some h
def Qgi(N:Nat)(e:Wq)(f g:Int):Option Int:=bnd (QdY N e g N 0 f) λh=>some h
def Qhs(N:Nat)(e:Wq)(f:Int):Option Int:=bif (decide ((wI (f+1))<(e.x.length:Int)))then(bnd (Xd e.x (wI (f+1))) λg=>some g.O)else some (e.S.length:Int)
def Qdt(N:Nat)(e:Wq):Nat->Int->Option (Ex Bool Unit)
 |0,_=>none
 |n+1,f=>
  bif (decide (f<(e.i.length:Int)))then(bnd (Xd e.i f) λg=>
   bif (decide (g<0))then some (.ret false)
   else bnd (Xd e.i f) λh=>
   bif (decide (h>4095))then some (.ret false)
   else Qdt N e n (wI (f+1)))
  else some (.nxt ())
def Qay(N:Nat)(f:Wq):Nat->Int->Int->Option (Ex Bool Unit)
 |0,_,_=>none
 |n+1,g,v6=>
  bif (decide (v6<(f.S.length:Int)))then(bnd (Xd f.S v6) λe=>
   bif (decide (e.J<=g))then some (.ret false)
   else bif (decide (e.J>(f.i.length:Int)))then some (.ret false)
   else bnd (Xd f.i (wI (e.J-1))) λh=>
   bif (h != v6)then some (.ret false)
   else bif (!(e.V==(e.a != 0)))then some (.ret false)
   else Qay N f n e.J (wI (v6+1)))
  else some (.nxt ())
def Qat(N:Nat)(f:Wq):Nat->Int->Int->Option (Ex Bool Unit)
 |0,_,_=>none
 |n+1,v10,v11=>
  bif (decide (v11<(f.x.length:Int)))then(bnd (Xd f.x v11) λe=>
   bif (v11==0)then(bif (e.O != 0)then some (.ret false)
    else bif (!e.B0)then some (.ret false)
    else bif (decide (e.O<v10))then some (.ret false)
    else bif (decide (e.O>(f.S.length:Int)))then some (.ret false)
    else bif (decide (e.C0<0))then some (.ret false)
    else bif (decide (e.C0>64))then some (.ret false)
    else Qat N f n e.O (wI (v11+1)))
   else bif (decide (e.O<v10))then some (.ret false)
   else bif (decide (e.O>(f.S.length:Int)))then some (.ret false)
   else bif (decide (e.C0<0))then some (.ret false)
   else bif (decide (e.C0>64))then some (.ret false)
   else Qat N f n e.O (wI (v11+1)))
  else some (.nxt ())
def QcS(N:Nat)(f:Wq):Nat->Int->Option (Ex Bool Unit)
 |0,_=>none
 |n+1,e=>
  bif (decide (e<(f.x.length:Int)))then(bnd (Xd f.x e) λg=>
   bnd (Qhs N f e) λh=>
   bnd (Qgi N f g.O h) λj=>
   bnd (Xd f.x e) λk=>
   bif (decide (j>k.C0))then some (.ret false)
   else QcS N f n (wI (e+1)))
  else some (.nxt ())
def Qcf(N:Nat)(f:Wq):Option Bool:=jn (λ(_:Unit)=>bnd (Qdt N f N 0) λe=>exK e (λr=>some r) λk=>bnd (Qay N f N 0 0) λe=>exK e (λr=>some r) λo=>bnd (Qat N f N 0 0) λe=>exK e (λr=>some r) λh=>bnd (QcS N f N 0) λe=>exK e (λr=>some r) λj=>some true) λg=>bif (decide ((f.i.length:Int)>4096))then some false else bif (decide ((f.x.length:Int)>64))then some false else bif ((f.x.length:Int)==0)then(bif (decide ((f.S.length:Int)>0))then some false else g ())else g ()
def QbP(N:Nat)(e:Wq):Nat->Int->(List Int)->Option (List Int)
 |0,_,_=>none
 |n+1,f,g=>
  bif (decide (f<(e.S.length:Int)))then(bnd (Qcf N e) λh=>
   bif h then(bnd (Xd e.S f) λj=>
    bif j.V then(bnd (Xd e.S f) λk=>
     grd ((g.length+1)*8<=140737488355328) <|
     QbP N e n (wI (f+1)) (g++[k.a]))
    else QbP N e n (wI (f+1)) g)
   else some g)
  else some g
def QcJ(N:Nat)(e:Wq):Option (List Int):=bnd (QbP N e N 0 []) λf=>some f
def QcT(N:Nat)(f:WD):Nat->Int->Option (Ex Bool Unit)
 |0,_=>none
 |n+1,g=>
  bif (decide (g<(f.e.length:Int)))then(bnd (Xd f.e g) λh=>
   bif (decide (h.G<1))then some (.ret false)
   else bif (decide (h.G>4294967295))then some (.ret false)
   else bif (!h.V)then(bif (h.a != 0)then some (.ret false)
    else QcT N f n (wI (g+1)))
   else QcT N f n (wI (g+1)))
  else some (.nxt ())
def Qcg(N:Nat)(f:WD):Option Bool:=bnd (QcT N f N 0) λe=>exK e (λr=>some r) λg=>some (decide ((f.e.length:Int)<=64))
def QbQ(N:Nat)(f:WD):Nat->Int->(List Int)->Option (List Int)
 |0,_,_=>none
 |n+1,g,h=>
  bif (decide (g<(f.e.length:Int)))then(bnd (Qcg N f) λj=>
   bif j then(bnd (Xd f.e g) λk=>
    bif k.V then(bnd (Xd f.e g) λo=>
     grd ((h.length+1)*8<=140737488355328) <|
     QbQ N f n (wI (g+1)) (h++[o.a]))
    else QbQ N f n (wI (g+1)) h)
   else some h)
  else some h
def Qbu(N:Nat)(e:WD):Option (List Int):=bnd (QbQ N e N 0 []) λf=>some f
def QbH(N:Nat)(e:Uj):Nat->Int->(List Int)->Option (List Int)
 |0,_,_=>none
 |n+1,f,g=>
  bif (decide (f<(e.P.length:Int)))then(bnd (Xd e.P f) λh=>
   grd ((g.length+1)*8<=140737488355328) <|
   QbH N e n (wI (f+1)) (g++[h.a]))
  else some g
def Qb9(N:Nat)(e:Uj):Option (List Int):=grd (e.R.length*8<=140737488355328) <| bnd (QcJ N e.l) λf=>grd ((e.R.length+f.length)*8<=140737488355328) <| bnd (Qbu N e.g) λh=>grd (((e.R.length+f.length)+h.length)*8<=140737488355328) <| bnd (QbH N e N 0 ((e.R++f)++h)) λj=>some j
def Qfi(N:Nat)(e:List Int)(g:Int):Nat->Int->Option (Ex Bool Unit)
 |0,_=>none
 |n+1,f=>
  bif (decide (f<(e.length:Int)))then(bnd (Xd e f) λh=>
   bif (h==g)then some (.ret true)
   else Qfi N e g n (wI (f+1)))
  else some (.nxt ())
def Qbt(N:Nat)(f:List Int)(g:Int):Option Bool:=bnd (Qfi N f g N 0) λe=>exK e (λr=>some r) λh=>some false
def QgR(N:Nat)(e:Int):Option Bool:=bif (decide (e>=0))then some (decide (e<=2147483647))else some false
def Qdu(N:Nat)(e:WP):Option Int:=bnd (QaT N e) λf=>bif (!f)then some 0 else some (wI (e.W.tdiv 4))
def QcK(N:Nat)(f:WP)(g:Int):Nat->Int->Option (Ex Int Unit)
 |0,_=>none
 |n+1,e=>
  bif (decide (e<=4))then(bif (decide ((wI (e*f.W))>=g))then some (.ret e)
   else QcK N f g n (wI (e+1)))
  else some (.nxt ())
def QeT(N:Nat)(f:WP)(g:Int):Option Int:=bnd (QaT N f) λh=>bif (!h)then some (-1)else bif (decide (g<1))then some (-1)else bnd (Qdu N f) λj=>bif (decide (g<=j))then some 0 else bnd (QcK N f g N 1) λe=>exK e (λr=>some r) λk=>some (-1)
def Qdv(N:Nat)(e:List Wp)(h:Int):Nat->Int->Int->Option Int
 |0,_,_=>none
 |n+1,f,g=>
  bif (decide (g<(e.length:Int)))then(bnd (Xd e g) λj=>
   bif (j.k==3)then(bnd (Xd e g) λo=>
    bif (o.s==h)then Qdv N e h n (wI (f+1)) (wI (g+1))
    else some f)
   else some f)
  else some f
def Qe3(N:Nat)(e:List Wp)(f g:Int):Option Int:=bnd (Qdv N e g N 0 (wI (f+1))) λh=>some h
def QaB(N:Nat)(f:Wh):Nat->Int->Int->Option (Ex Bool Unit)
 |0,_,_=>none
 |n+1,h,j=>
  bif (decide (j<(f.p.length:Int)))then(bnd (Xd f.p j) λe=>
   bif (!((e.k==3)==(decide (h>0))))then some (.ret false)
   else bif (decide (e.s<0))then some (.ret false)
   else bif (decide (e.s>1))then some (.ret false)
   else bnd (QgR N e.P) λx=>
   bif (!x)then some (.ret false)
   else jn (λ(g:Int)=>
    QaB N f n (if 0<(wI (g-1))then(wI (g-1))else 0) (wI (j+1))) λr=>
   bif (e.k==0)then(bif (!((e.k==0)&&((e.s==0)&&((e.u==0)&&(e.P==0)))))then some (.ret false)
    else r h)
   else jn (λ(o:Int)=>
    r o) λv=>
   bif (e.k==1)then(bif (decide (e.u<0))then some (.ret false)
    else bif (decide (e.u>f.c.W))then some (.ret false)
    else v h)
   else jn (λ(y:Int)=>
    v y) λw=>
   bif (e.k==2)then(bnd (QeT N f.c e.u) λq=>
    bif (decide (q<1))then some (.ret false)
    else bnd (Qe3 N f.p j e.s) λz=>
    bif (decide (z<(wI (q-1))))then some (.ret false)
    else w q)
   else bif (e.k==3)then(bif (e.u != 0)then some (.ret false)
    else bif (e.P != 0)then some (.ret false)
    else w h)
   else some (.ret false))
  else some (.nxt ())
def Qaa(N:Nat)(f:Wh):Option Bool:=bnd (QaT N f.c) λh=>bif (!h)then some false else bif ((f.w.length:Int) != (wI (f.c.p*f.c.W)))then some false else bif ((f.p.length:Int) != f.c.p)then some false else bif (decide (f.s<0))then some false else bif (decide (f.s>1))then some false else jn (λ(_:Unit)=>bnd (QaB N f N 0 0) λe=>exK e (λr=>some r) λj=>some true) λg=>bif (f.b != (-1))then(bif (decide (f.b<0))then some false else bif (decide (f.b>=(f.p.length:Int)))then some false else bnd (Xd f.p f.b) λo=>bif (o.k != 1)then some false else g ())else g ()
def Qca(N:Nat)(e:WP)(f:Int):Option (Int×Int×Int):=bnd (QaT N e) λg=>bif (!g)then some (0,0,1)else bif (decide (f<4096))then some (0,0,2)else bif (decide (f>=(wU (wI (4096+(wI (e.p*e.W)))))))then some (0,0,2)else grd (e.W≠0) <| grd (e.W≠0) <| some ((wI ((wI (wU (f-4096))).tdiv e.W)),((wI (wU (f-4096))).tmod e.W),0)
def QdF(N:Nat)(f:List Int)(e g:Int):Option (Int×Bool):=bif (decide (e<4096))then some (0,false)else bif (decide (e>(wU (4096+(wU (f.length:Int))))))then some (0,false)else some ((wI (wU (e-4096))),(decide (g<=(wI ((f.length:Int)-(wI (wU (e-4096))))))))
def QfS(N:Nat)(f:List Int)(g:Int):Option (Int×Int):=bnd (QdF N f g 1) λe=>bif (!e.2)then some (0,2)else some (e.1,0)
def Qbj(N:Nat)(f:List Int)(g:Int):Option (Int×Int):=bnd (QfS N f g) λe=>bif (e.2 != 0)then some (0,e.2)else bnd (Xd f e.1) λh=>some (h,0)
def QcY(N:Nat)(e:Wy):Option Bool:=bif (decide (e.k<0))then some false else bif (decide (e.k>3))then some false else bif (decide (e.n<0))then some false else bif (decide (e.n>255))then some false else bif (e.k != 1)then some (e.Map==0)else bif (decide (e.n<=32))then(grd (0<=(wU e.n)) <| some (decide ((wU e.Map)<(Ke .u64 1 (wU e.n)))))else some false
def Qcy(N:Nat)(e:Wy):Option (Int×Int):=bnd (QcY N e) λf=>bif (!f)then some (0,1)else some ((wU ((wU ((wU (1+(wU (4*(wU e.k)))))+(wU (16*(wU e.n)))))+(Ke .u64 (wU e.Map) 16))),0)
def Qcz(N:Nat)(e:Int):Option (Wy×Bool):=bnd (Qcy N (Wy.mk (wI (Y6 .u64 (Yy .u64 e 2) 3)) (wI (Y6 .u64 (Yy .u64 e 4) 4095)) (wW (Yy .u64 e 16)))) λf=>bif (f.2 != 0)then some ((Wy.mk 0 0 0),false)else bif (f.1 != e)then some ((Wy.mk 0 0 0),false)else some ((Wy.mk (wI (Y6 .u64 (Yy .u64 e 2) 3)) (wI (Y6 .u64 (Yy .u64 e 4) 4095)) (wW (Yy .u64 e 16))),true)
def QcL(N:Nat)(e:Wy):Option Int:=bnd (QcY N e) λf=>bif (!f)then some 0 else some (wI (e.n+1))
def Qao(N:Nat)(h:Wh)(o:Int):Option (Wy×Int):=bnd (Qaa N h) λr=>bif (!r)then some ((Wy.mk 0 0 0),1)else bnd (Qca N h.c o) λf=>bif (f.2.2 != 0)then some ((Wy.mk 0 0 0),2)else bnd (Xd h.p f.1) λe=>bnd (Qbj N h.w o) λs=>bnd (Qcz N s.1) λg=>jn (λ(_:Unit)=>bnd (QcL N g.1) λj=>bif (e.k==1)then(bif (decide ((wI (f.2.1+j))>e.u))then some ((Wy.mk 0 0 0),19)else bif (e.k==2)then(bif (f.2.1 != 0)then some ((Wy.mk 0 0 0),19)else bif (j != e.u)then some ((Wy.mk 0 0 0),19)else some (g.1,0))else some (g.1,0))else bif (e.k==2)then(bif (f.2.1 != 0)then some ((Wy.mk 0 0 0),19)else bif (j != e.u)then some ((Wy.mk 0 0 0),19)else some (g.1,0))else some (g.1,0)) λq=>bif (e.k != 1)then(bif (e.k != 2)then some ((Wy.mk 0 0 0),19)else bif (decide (f.2.1>=e.u))then some ((Wy.mk 0 0 0),19)else bif (!g.2)then some ((Wy.mk 0 0 0),19)else q ())else bif (decide (f.2.1>=e.u))then some ((Wy.mk 0 0 0),19)else bif (!g.2)then some ((Wy.mk 0 0 0),19)else q ()
def Qbx(N:Nat)(e:WP)(f g:Int):Option (Int×Int):=bnd (QaT N e) λh=>bif (!h)then some (0,1)else bif (decide (f<0))then some (0,2)else bif (decide (f>=e.p))then some (0,2)else bif (decide (g<0))then some (0,2)else bif (decide (g>=e.W))then some (0,2)else some ((wU (wI ((wI (4096+(wI (f*e.W))))+g))),0)
def Qah(N:Nat)(f:Wh)(o:Int)(g:Wp):Nat->Int->(List Int)->Option (Ex (List Int×Int) (List Int))
 |0,_,_=>none
 |n+1,h,e=>
  bif (decide (h<g.u))then(bnd (Qbx N f.c o h) λj=>
   bnd (Qao N f j.1) λp=>
   bif (p.2 != 0)then some (.ret ([],19))
   else grd ((e.length+1)*8<=140737488355328) <|
   bif (g.k==2)then some (.nxt (e++[j.1]))
   else bnd (QcL N p.1) λq=>
   Qah N f o g n (wI (h+q)) (e++[j.1]))
  else some (.nxt e)
def Qaf(N:Nat)(f:Wh)(g:Int):Option (List Int×Int):=bnd (Qaa N f) λj=>bif (!j)then some ([],1)else bif (decide (g<0))then some ([],2)else bif (decide (g>=(f.p.length:Int)))then some ([],2)else bnd (Xd f.p g) λh=>bif (h.k==0)then some ([],0)else bif (h.k==3)then some ([],0)else bnd (Qah N f g h N 0 []) λe=>exK e (λr=>some r) λo=>some (o,0)
def QaJ(N:Nat)(f:Wh):Nat->Int->(List Int)->Option (Ex (List Int×Int) (List Int))
 |0,_,_=>none
 |n+1,g,h=>
  bif (decide (g<(f.p.length:Int)))then(bnd (Qaf N f g) λe=>
   bif (e.2 != 0)then some (.ret ([],e.2))
   else grd ((h.length+e.1.length)*8<=140737488355328) <|
   QaJ N f n (wI (g+1)) (h++e.1))
  else some (.nxt h)
def QbB(N:Nat)(f:Wh):Option (List Int×Int):=bnd (Qaa N f) λg=>bif (!g)then some ([],1)else bnd (QaJ N f N 0 []) λe=>exK e (λr=>some r) λh=>some (h,0)
def Qa7(N:Nat)(h:Wh)(e:List Int×Int):Nat->Int->(List Int)->Option (List Int)
 |0,_,_=>none
 |n+1,f,g=>
  bif (decide (f<(e.1.length:Int)))then(bnd (Xd e.1 f) λj=>
   bnd (Qao N h j) λo=>
   bif (o.1.k != 0)then(bnd (Xd e.1 f) λp=>
    grd ((g.length+1)*8<=140737488355328) <|
    Qa7 N h e n (wI (f+1)) (g++[p]))
   else Qa7 N h e n (wI (f+1)) g)
  else some g
def Qal(N:Nat)(e:Wh):Option (List Int×Int):=bnd (QbB N e) λf=>bnd (Qa7 N e f N 0 []) λg=>some (g,f.2)
def QaU(N:Nat)(e:Wh)(h:Int)(f:List Int):Nat->Int->Option (Ex Int Unit)
 |0,_=>none
 |n+1,g=>
  bif (decide (g<(f.length:Int)))then(bnd (Xd f g) λr=>
   bnd (Qao N e r) λj=>
   bnd (QcL N j.1) λs=>
   bnd (Qdu N e.c) λu=>
   bnd (Xd e.p h) λv=>
   bif (v.k==1)then(bif (!(decide (s<=u)))then(bnd (Xd f g) λw=>
       some (.ret w))
    else bnd (Xd e.p h) λx=>
    bif (x.k==2)then(bif (j.1.k==0)then(bnd (Xd f g) λo=>
        some (.ret o))
     else QaU N e h f n (wI (g+1)))
    else QaU N e h f n (wI (g+1)))
   else bnd (Xd e.p h) λy=>
   bif (y.k==2)then(bif (j.1.k==0)then(bnd (Xd f g) λq=>
       some (.ret q))
    else QaU N e h f n (wI (g+1)))
   else QaU N e h f n (wI (g+1)))
  else some (.nxt ())
def Qel(N:Nat)(f:Wh)(g:Int)(h:List Int):Option Int:=bnd (QaU N f g h N 0) λe=>exK e (λr=>some r) λj=>some 0
def QcM(N:Nat)(f:Wh):Nat->Int->Option Int
 |0,_=>none
 |n+1,e=>
  bnd (Xd f.p e) λg=>
  bif (g.k==3)then QcM N f n (wI (e-1))
  else some e
def QeU(N:Nat)(e:Wh)(f:Int):Option Int:=bnd (QcM N e N f) λg=>some g
def QbR(N:Nat)(e:Wh)(f:Int)(g:List Int)(h j:Int):Nat->Int->(List Bool)->Option (List Bool)
 |0,_,_=>none
 |n+1,v7,v8=>
  bif (decide (v7<j))then(bnd (Xd g h) λk=>
   bif (decide ((wI ((wI ((wI ((wI k)-4096))+v7))-(wI (f*e.c.W))))>=0))then(grd (v8.length<=140737488355328) <|
    bif (decide ((wI ((wI ((wI ((wI k)-4096))+v7))-(wI (f*e.c.W))))<(v8.length:Int)))then(bnd (Xd v8 (wI ((wI ((wI ((wI k)-4096))+v7))-(wI (f*e.c.W))))) λo=>
     QbR N e f g h j n (wI (v7+1)) (v8.set (wI ((wI ((wI ((wI k)-4096))+v7))-(wI (f*e.c.W)))).toNat true))
    else QbR N e f g h j n (wI (v7+1)) v8)
   else QbR N e f g h j n (wI (v7+1)) v8)
  else some v8
def Qdk(N:Nat)(g:Wh)(j:Int)(e:List Int):Nat->Int->(List Bool)->Option (List Bool)
 |0,_,_=>none
 |n+1,f,o=>
  bif (decide (f<(e.length:Int)))then(bnd (Xd e f) λr=>
   bnd (Qao N g r) λp=>
   bnd (QcL N p.1) λs=>
   jn (λ(u:Int)=>
    bnd (QbR N g j e f u N 0 o) λh=>
    Qdk N g j e n (wI (f+1)) h) λq=>
   bif (p.1.k==0)then q 1
   else q s)
  else some o
def QgS(N:Nat)(e:Wh)(g:Int)(h:List Int):Option (List Bool):=grd (0<=e.c.W/\e.c.W.toNat<=140737488355328) <| bnd (Qdk N e g h N 0 (List.replicate e.c.W.toNat false)) λf=>some f
def QgT(N:Nat)(e:Wh)(f g:Int):Option Int:=bnd (Qbx N e.c f g) λh=>bnd (Qbj N e.w h.1) λj=>some j.1
def Qfv(N:Nat)(e:Wh)(f g:Int):Option Int:=bnd (QgT N e f g) λh=>some h
def QfG(N:Nat)(e:Wh)(f g:Int):Option Int:=some (wU (wI ((wI (4096+(wI (f*e.c.W))))+g)))
def QcN(N:Nat)(f:Wh)(g:Int)(h:List Bool):Nat->Int->Option (Ex Int Unit)
 |0,_=>none
 |n+1,e=>
  bif (decide (e<(h.length:Int)))then(bnd (Xd h e) λj=>
   bif (!j)then(bnd (Qfv N f g e) λk=>
    bif (k != 0)then(bnd (QfG N f g e) λo=>
     some (.ret o))
    else QcN N f g h n (wI (e+1)))
   else QcN N f g h n (wI (e+1)))
  else some (.nxt ())
def Qed(N:Nat)(f:Wh)(g:Int):Option Int:=bnd (QeU N f g) λh=>bnd (Qaf N f h) λj=>bnd (QgS N f g j.1) λk=>bnd (QcN N f g k N 0) λe=>exK e (λr=>some r) λo=>some 0
def Qee(N:Nat)(f:Wh)(e:Int):Option Un:=jn (λ(_:Unit)=>bnd (Qaf N f e) λg=>bif (g.2 != 0)then some (Un.mk 3 e 0)else bnd (Qel N f e g.1) λh=>bif (h != 0)then some (Un.mk 5 e h)else bnd (Qed N f e) λj=>bif (j != 0)then some (Un.mk 4 e j)else some (Un.mk 0 0 0)) λo=>bnd (Xd f.p e) λq=>bif (q.k != 0)then(bnd (Xd f.p e) λr=>bif (r.s != f.s)then some (Un.mk 2 e 0)else o ())else o ()
def QbK(N:Nat)(f:Wh)(g:Int):Option (Wy×Int):=bnd (Qaa N f) λh=>bif (!h)then some ((Wy.mk 0 0 0),1)else bif (g==0)then some ((Wy.mk 0 0 0),5)else bnd (Qao N f g) λe=>bif (e.2==0)then(bif (e.1.k==0)then some ((Wy.mk 0 0 0),4)else some (e.1,e.2))else some (e.1,e.2)
def Qc8(N:Nat)(g:List Int)(h f:Int):Option (List Int×Int):=bif (decide (f<0))then some ([],1)else bnd (QdF N g h f) λe=>bif (!e.2)then some ([],2)else grd (0<=e.1/\e.1<=(wI (e.1+f))/\(wI (e.1+f))<=(g.length:Int)) <| grd ((min ((wI (e.1+f)).toNat-e.1.toNat) (g.length-e.1.toNat))*8<=140737488355328) <| some (((g.drop e.1.toNat).take ((wI (e.1+f)).toNat-e.1.toNat)),0)
def Qc9(N:Nat)(f:Wh)(g:Int):Option (List Int×Int):=bnd (QbK N f g) λe=>bif (e.2 != 0)then some ([],e.2)else bnd (Qc8 N f.w (wU (g+1)) e.1.n) λh=>some (h.1,h.2)
def Qby(N:Nat)(e:Wy)(f:Int):Option Bool:=bnd (QcY N e) λg=>bif (!g)then some false else bif (decide (f<0))then some false else bif (decide (f>=e.n))then some false else bif (e.k==2)then some true else bif (e.k==1)then(grd (0<=(wU f)) <| some ((Y6 .u32 (Yy .u32 e.Map (wU f)) 1)==1))else some false
def Qax(N:Nat)(h:Wh)(f e:List Int×Int)(j:Int)(k:Wy×Int):Nat->Int->Option (Ex Un Unit)
 |0,_=>none
 |n+1,v7=>
  grd (e.1.length<=140737488355328) <|
  bif (decide (v7<(e.1.length:Int)))then(bnd (Qby N k.1 v7) λr=>
   bif r then(bnd (Xd e.1 v7) λs=>
    bif (s != 0)then(bnd (Xd e.1 v7) λo=>
     bnd (Qbt N f.1 o) λp=>
     bif (!p)then(bnd (Xd f.1 j) λg=>
      bnd (Qca N h.c (wU ((wU (g+1))+(wU v7)))) λq=>
      some (.ret (Un.mk 6 q.1 (wU ((wU (g+1))+(wU v7))))))
     else Qax N h f e j k n (wI (v7+1)))
    else Qax N h f e j k n (wI (v7+1)))
   else Qax N h f e j k n (wI (v7+1)))
  else some (.nxt ())
def Qbv(N:Nat)(h:Wh)(f:List Int×Int):Nat->Int->Option (Ex Un Unit)
 |0,_=>none
 |n+1,g=>
  bif (decide (g<(f.1.length:Int)))then(bnd (Xd f.1 g) λj=>
   bnd (QbK N h j) λk=>
   bnd (Xd f.1 g) λo=>
   bnd (Qc9 N h o) λp=>
   bnd (Qax N h f p g k N 0) λe=>exK e (λr=>some (.ret r)) λq=>
   Qbv N h f n (wI (g+1)))
  else some (.nxt ())
def Qdw(N:Nat)(f:Wh):Option Un:=bnd (Qal N f) λg=>bnd (Qbv N f g N 0) λe=>exK e (λr=>some r) λh=>some (Un.mk 0 0 0)
def Qbc(N:Nat)(e:Wh):Nat->Int->Option (Ex Un Unit)
 |0,_=>none
 |n+1,f=>
  bif (decide (f<(e.p.length:Int)))then(bnd (Qee N e f) λg=>
   bif (g.Fault != 0)then some (.ret g)
   else Qbc N e n (wI (f+1)))
  else some (.nxt ())
def Qa3(N:Nat)(e:Wh):Nat->Int->Int->Option Int
 |0,_,_=>none
 |n+1,v6,v7=>
  bif (decide (v7<(e.p.length:Int)))then(bnd (Xd e.p v7) λf=>
   bif (f.k==1)then(bnd (Xd e.p v7) λg=>
    bif (decide (g.P>0))then Qa3 N e n (wI (v6+1)) (wI (v7+1))
    else Qa3 N e n v6 (wI (v7+1)))
   else Qa3 N e n v6 (wI (v7+1)))
  else some v6
def Qe4(N:Nat)(f:Wh):Option Un:=bnd (Qaa N f) λj=>bif (!j)then some (Un.mk 1 0 0)else bnd (Qbc N f N 0) λe=>exK e (λr=>some r) λk=>bnd (Qdw N f) λh=>bif (h.Fault != 0)then some h else bnd (Qa3 N f N 0 0) λg=>bif (decide (g>(wI (f.c.p.tdiv 4))))then some (Un.mk 7 0 0)else some (Un.mk 0 0 0)
def Qbk(N:Nat)(f:Wh):Option Bool:=bnd (Qe4 N f) λe=>some ((e.Fault==0)&&((e.Page==0)&&(e.Addr==0)))
def Qe5(N:Nat)(f:List UB)(g:Int):Nat->Int->Option (Ex Int Unit)
 |0,_=>none
 |n+1,e=>
  bif (decide (e<(f.length:Int)))then(bnd (Xd f e) λh=>
   bif (h.a==g)then some (.ret e)
   else Qe5 N f g n (wI (e+1)))
  else some (.nxt ())
def QgG(N:Nat)(f:List UB)(g:Int):Option Int:=bnd (Qe5 N f g N 0) λe=>exK e (λr=>some r) λh=>some (-1)
def Qfw(N:Nat)(e:Wh)(f:Int):Option Int:=bnd (Qca N e.c f) λg=>some g.1
def Qbd(N:Nat)(q:Wh)(e:List UB)(r:List Int×Int):Nat->Int->(List Int)->Option (Ex Bool (List Int))
 |0,_,_=>none
 |n+1,f,h=>
  bif (decide (f<(e.length:Int)))then(bnd (Xd e f) λs=>
   bnd (Qbt N r.1 s.a) λu=>
   bif (!u)then some (.ret false)
   else bnd (Xd e f) λv=>
   bnd (QgG N e v.a) λw=>
   bif (w != f)then some (.ret false)
   else bnd (Xd e f) λx=>
   bif (decide (x.M<1))then some (.ret false)
   else bnd (Xd e f) λj=>
   bif (decide (j.M>1000))then some (.ret false)
   else bnd (Xd e f) λk=>
   bnd (Qfw N q k.a) λg=>
   bnd (Xd h g) λo=>
   bnd (Xd e f) λp=>
   bnd (Xd h g) λy=>
   Qbd N q e r n (wI (f+1)) (h.set g.toNat (wI (o+p.M))))
  else some (.nxt h)
def QbC(N:Nat)(f:Wh)(e:List Int):Nat->Int->Option (Ex Bool Unit)
 |0,_=>none
 |n+1,v17=>
  bif (decide (v17<(f.p.length:Int)))then(bnd (Xd f.p v17) λg=>
   bnd (Xd e v17) λh=>
   bif (g.P != h)then some (.ret false)
   else QbC N f e n (wI (v17+1)))
  else some (.nxt ())
def Qch(N:Nat)(f:Wh)(h:List UB):Option Bool:=bnd (Qbk N f) λj=>bif (!j)then some false else bif (decide ((h.length:Int)>64))then some false else bnd (Qal N f) λk=>grd (0<=(f.p.length:Int)/\(f.p.length:Int).toNat*8<=140737488355328) <| bnd (Qbd N f h k N 0 (List.replicate (f.p.length:Int).toNat (0:Int))) λe=>exK e (λr=>some r) λg=>bnd (QbC N f g N 0) λe=>exK e (λr=>some r) λo=>some true
def QaC(N:Nat)(e:List Int)(g:List Int×Int):Nat->Int->Option (Ex Bool Unit)
 |0,_=>none
 |n+1,f=>
  bif (decide (f<(e.length:Int)))then(bnd (Xd e f) λh=>
   bif (h != 0)then(bnd (Xd e f) λj=>
    bnd (Qbt N g.1 j) λk=>
    bif (!k)then some (.ret false)
    else QaC N e g n (wI (f+1)))
   else QaC N e g n (wI (f+1)))
  else some (.nxt ())
def QbD(N:Nat)(f:Wh)(g:List Int):Option Bool:=bnd (Qbk N f) λh=>bif (!h)then some false else bnd (Qal N f) λj=>bnd (QaC N g j N 0) λe=>exK e (λr=>some r) λk=>some true
def QbI(N:Nat)(e:Uj):Option Bool:=bnd (Qch N e.h e.P) λo=>bif (!o)then some false else bnd (Qcf N e.l) λp=>bif (!p)then some false else bnd (Qcg N e.g) λq=>bif (!q)then some false else bnd (Qcg N e.v) λr=>bif (!r)then some false else bnd (Qbu N e.g) λf=>bnd (Qbt N f 0) λs=>bif s then some false else grd (e.R.length*8<=140737488355328) <| bnd (QcJ N e.l) λj=>grd ((e.R.length+j.length)*8<=140737488355328) <| grd (((e.R.length+j.length)+f.length)*8<=140737488355328) <| bnd (Qbu N e.v) λk=>grd ((((e.R.length+j.length)+f.length)+k.length)*8<=140737488355328) <| bnd (QbD N e.h (((e.R++j)++f)++k)) λu=>some u
def QbE(N:Nat)(g:Wh)(h:List Int×Int):Nat->Int->(List Wp)->Option (List Wp)
 |0,_,_=>none
 |n+1,f,e=>
  grd (e.length<=140737488355328) <|
  bif (decide (f<(e.length:Int)))then(bnd (Xd e f) λo=>
   bif (o.k==1)then(bif (decide (o.P>0))then(bnd (Xd e f) λj=>
       QbE N g h n (wI (f+1)) (e.set f.toNat (Wp.mk j.k (wI (1-g.s)) j.u j.P)))
    else QbE N g h n (wI (f+1)) e)
   else QbE N g h n (wI (f+1)) e)
  else some e
def QcZ(N:Nat)(e:Wh):Option (Wu×Int):=bnd (Qaa N e) λg=>bif (!g)then some ((Wu.mk zHp [] [] [] 0 (WS.mk 0 0 0 0 0 0)),1)else bnd (Qbk N e) λh=>bif (!h)then some ((Wu.mk zHp [] [] [] 0 (WS.mk 0 0 0 0 0 0)),19)else bnd (Qal N e) λf=>grd (e.p.length*32<=140737488355328) <| bnd (QbE N e f N 0 e.p) λj=>some ((Wu.mk (Wh.mk e.c e.w j e.s e.b) f.1 [] [] 0 (WS.mk 0 0 0 0 0 0)),0)
def QcA(N:Nat)(e:Int):Option (Int×Bool):=bif ((e.tmod 4) != 2)then some (0,false)else bif (decide ((Yy .u64 e 2)>=4294967296))then some (0,false)else some ((Yy .u64 e 2),true)
def QcU(N:Nat)(e:Wu)(g:Int):Nat->Int->Option (Ex Bool Unit)
 |0,_=>none
 |n+1,f=>
  bif (decide (f<(e.t.length:Int)))then(bnd (Xd e.t f) λh=>
   bif (h==g)then some (.ret true)
   else QcU N e g n (wI (f+1)))
  else some (.nxt ())
def Qgv(N:Nat)(f:Wu)(g:Int):Option Bool:=bnd (QcU N f g N 0) λe=>exK e (λr=>some r) λh=>some false
def QbW(N:Nat)(e:Wu)(f:Int):Option Bool:=bif (decide (f<0))then some false else bif (decide (f>=(e.h.p.length:Int)))then some false else bnd (Xd e.h.p f) λg=>bif (g.k==1)then(bif (g.s != e.h.s)then(bnd (Qgv N e f) λj=>some (!j))else some false)else some false
def Qck(N:Nat)(f:List Int)(g:Int×Bool):Nat->Int->(List Int)->Option (List Int)
 |0,_,_=>none
 |n+1,e,h=>
  bif (decide (e<(f.length:Int)))then(bnd (Xd f e) λj=>
   bnd (Xd h (wI (g.1+e))) λk=>
   Qck N f g n (wI (e+1)) (h.set (wI (g.1+e)).toNat j))
  else some h
def Qci(N:Nat)(e:List Int)(h:Int)(f:List Int):Option (List Int×Int):=bnd (QdF N e h (f.length:Int)) λg=>bif (!g.2)then some ([],2)else grd (e.length*8<=140737488355328) <| bnd (Qck N f g N 0 e) λj=>some (j,0)
def QdG(N:Nat)(f:List Int)(g h:Int):Option (List Int×Int):=bnd (Qci N f g [h]) λe=>some (e.1,e.2)
def QcO(N:Nat)(e:Wu)(g:Int):Option Wu:=grd (e.q.length*8<=140737488355328) <| grd ((e.q.length+1)*8<=140737488355328) <| some (Wu.mk e.h e.o e.t (e.q++[g]) e.d (WS.mk e.r.j (wI (e.r.K+1)) e.r.F e.r.E e.r.f e.r.y))
def Qbz(N:Nat)(g:List Wp):Nat->Int->(List OA)->Option (List OA)
 |0,_,_=>none
 |n+1,f,e=>
  bif (decide (f<(g.length:Int)))then(bnd (Xd g f) λj=>
   bif (j.k != 0)then Qbz N g n (wI (f+1)) e
   else grd (e.length<=140737488355328) <|
   jn (λ(_:Unit)=>
    grd ((e.length+1)*16<=140737488355328) <|
    Qbz N g n (wI (f+1)) (e++[(OA.mk f 1)])) λh=>
   bif (decide ((e.length:Int)>0))then(bnd (Xd e (wI ((e.length:Int)-1))) λo=>
    bnd (Xd e (wI ((e.length:Int)-1))) λp=>
    bif ((wI (o.O+p.Len))==f)then(bnd (Xd e (wI ((e.length:Int)-1))) λq=>
     bnd (Xd e (wI ((e.length:Int)-1))) λr=>
     Qbz N g n (wI (f+1)) (e.set (wI ((e.length:Int)-1)).toNat (OA.mk r.O (wI (q.Len+1)))))
    else h ())
   else h ())
  else some e
def Qgj(N:Nat)(e:List Wp):Option (List OA):=bnd (Qbz N e N 0 []) λf=>some f
def QbF(N:Nat)(g:Int)(e:List OA):Nat->Int->Option (Ex Int Unit)
 |0,_=>none
 |n+1,f=>
  bif (decide (f<(e.length:Int)))then(bif (decide (g>=1))then(bnd (Xd e f) λh=>
      bif (decide (h.Len>=g))then(bnd (Xd e f) λj=>
       some (.ret j.O))
      else QbF N g e n (wI (f+1)))
   else QbF N g e n (wI (f+1)))
  else some (.nxt ())
def Qbo(N:Nat)(f:List Wp)(g:Int):Option Int:=bnd (Qgj N f) λh=>bnd (QbF N g h N 0) λe=>exK e (λr=>some r) λj=>some (-1)
def QdZ(N:Nat)(f h:Int)(o j:Wp):Nat->Int->(List Wp)->Option (Ex (List Wp×Int) (List Wp))
 |0,_,_=>none
 |n+1,e,g=>
  bif (decide (e<h))then(bnd (Xd g (wI (f+e))) λp=>
   bif (p.k != 0)then some (.ret ([],20))
   else bnd (Xd g (wI (f+e))) λq=>
   QdZ N f h o j n (wI (e+1)) (g.set (wI (f+e)).toNat j))
  else some (.nxt g)
def QdH(N:Nat)(g:List Wp)(f h:Int)(j o:Wp):Option (List Wp×Int):=bif (decide (f<0))then some ([],2)else bif (decide (f>=(g.length:Int)))then some ([],2)else bif (decide (h>(wI ((g.length:Int)-f))))then some ([],2)else grd (g.length*32<=140737488355328) <| bnd (QdZ N f h j o N 0 g) λe=>exK e (λr=>some r) λk=>bnd (Xd k f) λp=>some ((k.set f.toNat j),0)
def QbX(N:Nat)(g:List Wp)(h e:Int):Option (List Wp×Int):=bif (decide (e<0))then some ([],1)else bif (decide (e>1))then some ([],1)else bnd (QdH N g h 1 (Wp.mk 1 e 0 0) (Wp.mk 0 0 0 0)) λf=>some (f.1,f.2)
def QcB(N:Nat)(e:Wu)(y:Int):Option (Wu×Int×Bool):=grd (e.h.p.length*32<=140737488355328) <| jn (λ(_:Unit)=>bnd (Qbo N e.h.p 1) λf=>bif (decide (f<0))then some ((Wu.mk zHp [] [] [] 0 (WS.mk 0 0 0 0 0 0)),0,false)else bnd (QbX N e.h.p f (wI (1-e.h.s))) λx=>grd (e.t.length*8<=140737488355328) <| grd ((e.t.length+1)*8<=140737488355328) <| bnd (Xd x.1 f) λz=>bnd (Xd x.1 f) λA=>bnd (Xd x.1 f) λg=>some ((Wu.mk (Wh.mk e.h.c e.h.w (x.1.set f.toNat (Wp.mk g.k g.s (wI (A.u+y)) g.P)) e.h.s e.h.b) e.o (e.t++[f]) e.q e.d e.r),(wU (wI ((wI (4096+(wI (f*e.h.c.W))))+z.u))),true)) λE=>bif (decide ((e.t.length:Int)>0))then(bnd (Xd e.t (wI ((e.t.length:Int)-1))) λG=>bnd (Xd e.h.p G) λH=>bif (decide ((wI (H.u+y))<=e.h.c.W))then(bnd (Xd e.t (wI ((e.t.length:Int)-1))) λv=>bnd (Xd e.h.p v) λB=>bnd (Xd e.h.p v) λD=>bnd (Xd e.h.p v) λj=>some ((Wu.mk (Wh.mk e.h.c e.h.w (e.h.p.set v.toNat (Wp.mk j.k j.s (wI (D.u+y)) j.P)) e.h.s e.h.b) e.o e.t e.q e.d e.r),(wU (wI ((wI (4096+(wI (v*e.h.c.W))))+B.u))),true))else E ())else E ()
def Qfx(N:Nat)(f:List Int)(h j k:Int):Option (List Int×Int):=bnd (Qc8 N f j k) λe=>bif (e.2 != 0)then some ([],e.2)else bnd (Qci N f h e.1) λg=>some (g.1,g.2)
def QcP(N:Nat)(e:Int):Option (Int×Int):=bif (decide (e>=4294967296))then some (0,1)else some ((wU ((wU (4*e))+2)),0)
def QaK(N:Nat)(g:Wu)(j:Int):Nat->Int->(List Wp)->Option (List Wp)
 |0,_,_=>none
 |n+1,v10,v11=>
  grd (v11.length<=140737488355328) <|
  bif (decide (v10<(v11.length:Int)))then(bnd (Xd v11 v10) λf=>
   bif (f.k==3)then(bnd (Xd v11 v10) λe=>
    QaK N g j n (wI (v10+1)) (v11.set v10.toNat (Wp.mk e.k (wI (1-g.h.s)) e.u e.P)))
   else some v11)
  else some v11
def QaF(N:Nat)(g:Wu)(v:Int):Option (Wu×Int×Int):=bif (v==0)then some (g,v,0)else bnd (Qbt N g.q v) λO=>bif O then some (g,v,0)else bnd (Qbt N g.o v) λR=>bif (!R)then some ((Wu.mk zHp [] [] [] 0 (WS.mk 0 0 0 0 0 0)),0,19)else bnd (Qbj N g.h.w v) λL=>bnd (QcA N L.1) λM=>bif M.2 then some (g,M.1,0)else bnd (Qca N g.h.c v) λx=>bif (x.2.2 != 0)then some ((Wu.mk zHp [] [] [] 0 (WS.mk 0 0 0 0 0 0)),0,19)else bif (decide (x.1>=(g.h.p.length:Int)))then some ((Wu.mk zHp [] [] [] 0 (WS.mk 0 0 0 0 0 0)),0,19)else bnd (QbW N g x.1) λS=>bif S then(bnd (QcO N g v) λT=>some (T,v,0))else bnd (Xd g.h.p x.1) λU=>bif (U.k==2)then(grd (g.h.p.length*32<=140737488355328) <| bnd (Xd g.h.p x.1) λA=>bnd (QaK N g v N (wI (x.1+1)) (g.h.p.set x.1.toNat (Wp.mk A.k (wI (1-g.h.s)) A.u A.P))) λB=>bnd (QcO N (Wu.mk (Wh.mk g.h.c g.h.w B g.h.s g.h.b) g.o g.t g.q g.d g.r) v) λD=>some (D,v,0))else bnd (Qcz N L.1) λG=>bnd (QcL N G.1) λz=>bnd (QcB N g z) λe=>bif (!e.2.2)then some ((Wu.mk zHp [] [] [] 0 (WS.mk 0 0 0 0 0 0)),0,3)else bnd (Qfx N e.1.h.w e.2.1 v z) λH=>bnd (QcP N e.2.1) λI=>bnd (QdG N H.1 v I.1) λJ=>grd (e.1.q.length*8<=140737488355328) <| grd ((e.1.q.length+1)*8<=140737488355328) <| some ((Wu.mk (Wh.mk e.1.h.c J.1 e.1.h.p e.1.h.s e.1.h.b) e.1.o e.1.t (e.1.q++[e.2.1]) e.1.d (WS.mk (wI (e.1.r.j+1)) e.1.r.K e.1.r.F e.1.r.E e.1.r.f e.1.r.y)),e.2.1,0)
def Qa4(N:Nat)(v:List Int):Nat->Int->Int->Int->(List Int)->(List Wp)->Int->Int->(List Int)->(List Int)->(List Int)->Int->Int->Int->Int->Int->Int->Int->(List Int)->Option (Ex (Wu×List Int×Int) (Int×Int×List Int×List Wp×Int×Int×List Int×List Int×List Int×Int×Int×Int×Int×Int×Int×Int×List Int))
 |0,_,_,_,_,_,_,_,_,_,_,_,_,_,_,_,_,_,_=>none
 |n+1,x,A,B,D,G,v6,v7,v8,v9,v10,v11,g,v13,k,v15,u,v17,v18=>
  bif (decide (x<(v.length:Int)))then(bnd (Xd v x) λz=>
   bnd (QaF N (Wu.mk (Wh.mk (WP.mk A B) D G v6 v7) v8 v9 v10 v11 (WS.mk g v13 k v15 u v17)) z) λe=>
   bif (e.2.2 != 0)then some (.ret ((Wu.mk zHp [] [] [] 0 (WS.mk 0 0 0 0 0 0)),[],e.2.2))
   else grd ((v18.length+1)*8<=140737488355328) <|
   Qa4 N v n (wI (x+1)) e.1.h.c.W e.1.h.c.p e.1.h.w e.1.h.p e.1.h.s e.1.h.b e.1.o e.1.t e.1.q e.1.d e.1.r.j e.1.r.K e.1.r.F e.1.r.E e.1.r.f e.1.r.y (v18++[e.2.1]))
  else some (.nxt (A,B,D,G,v6,v7,v8,v9,v10,v11,g,v13,k,v15,u,v17,v18))
def Qc0(N:Nat)(k:Wu)(u:List Int):Option (Wu×List Int×Int):=bnd (Qa4 N u N 0 k.h.c.W k.h.c.p k.h.w k.h.p k.h.s k.h.b k.o k.t k.q k.d k.r.j k.r.K k.r.F k.r.E k.r.f k.r.y []) λe=>exK e (λr=>some r) λg=>some ((Wu.mk (Wh.mk (WP.mk g.1 g.2.1) g.2.2.1 g.2.2.2.1 g.2.2.2.2.1 g.2.2.2.2.2.1) g.2.2.2.2.2.2.1 g.2.2.2.2.2.2.2.1 g.2.2.2.2.2.2.2.2.1 g.2.2.2.2.2.2.2.2.2.1 (WS.mk g.2.2.2.2.2.2.2.2.2.2.1 g.2.2.2.2.2.2.2.2.2.2.2.1 g.2.2.2.2.2.2.2.2.2.2.2.2.1 g.2.2.2.2.2.2.2.2.2.2.2.2.2.1 g.2.2.2.2.2.2.2.2.2.2.2.2.2.2.1 g.2.2.2.2.2.2.2.2.2.2.2.2.2.2.2.1)),g.2.2.2.2.2.2.2.2.2.2.2.2.2.2.2.2,0)
def Qdl(N:Nat)(e:Wu)(f:Int):Option Wy:=bnd (Qbj N e.h.w f) λg=>bnd (Qcz N g.1) λj=>some j.1
def Qb5(N:Nat)(e:Wy):Nat->Int->(List Int)->Option (List Int)
 |0,_,_=>none
 |n+1,f,g=>
  bif (decide (f<e.n))then(bnd (QcY N e) λh=>
   bif h then(bnd (Qby N e f) λj=>
    bif j then(grd ((g.length+1)*8<=140737488355328) <|
     Qb5 N e n (wI (f+1)) (g++[f]))
    else Qb5 N e n (wI (f+1)) g)
   else some g)
  else some g
def Qfj(N:Nat)(e:Wy):Option (List Int):=bnd (Qb5 N e N 0 []) λf=>some f
def Qbe(N:Nat)(x:Int)(z:List Int):Nat->Int->Int->Int->(List Int)->(List Wp)->Int->Int->(List Int)->(List Int)->(List Int)->Int->Int->Int->Int->Int->Int->Int->Option (Ex (Wu×Bool×Int) (Int×Int×List Int×List Wp×Int×Int×List Int×List Int×List Int×Int×Int×Int×Int×Int×Int×Int))
 |0,_,_,_,_,_,_,_,_,_,_,_,_,_,_,_,_,_=>none
 |n+1,A,G,v6,v7,v8,v9,v10,v11,g,v13,k,v15,u,v17,v18,v19,v20=>
  bif (decide (A<(z.length:Int)))then(bnd (Xd z A) λv=>
   bnd (Qbj N v7 (wU ((wU (x+1))+(wU v)))) λB=>
   bnd (QaF N (Wu.mk (Wh.mk (WP.mk G v6) v7 v8 v9 v10) v11 g v13 k (WS.mk v15 u v17 v18 v19 v20)) B.1) λe=>
   bif (e.2.2 != 0)then some (.ret ((Wu.mk zHp [] [] [] 0 (WS.mk 0 0 0 0 0 0)),false,e.2.2))
   else bnd (QdG N e.1.h.w (wU ((wU (x+1))+(wU v))) e.2.1) λD=>
   Qbe N x z n (wI (A+1)) e.1.h.c.W e.1.h.c.p D.1 e.1.h.p e.1.h.s e.1.h.b e.1.o e.1.t e.1.q e.1.d e.1.r.j e.1.r.K e.1.r.F e.1.r.E e.1.r.f e.1.r.y)
  else some (.nxt (G,v6,v7,v8,v9,v10,v11,g,v13,k,v15,u,v17,v18,v19,v20))
def Qef(N:Nat)(k:Wu):Option (Wu×Bool×Int):=bif (decide (k.d>=(k.q.length:Int)))then some (k,false,0)else bnd (Xd k.q k.d) λu=>bnd (Qdl N k u) λx=>bnd (Qfj N x) λv=>bnd (Qbe N u v N 0 k.h.c.W k.h.c.p k.h.w k.h.p k.h.s k.h.b k.o k.t k.q k.d k.r.j k.r.K k.r.F k.r.E k.r.f k.r.y) λe=>exK e (λr=>some r) λg=>some ((Wu.mk (Wh.mk (WP.mk g.1 g.2.1) g.2.2.1 g.2.2.2.1 g.2.2.2.2.1 g.2.2.2.2.2.1) g.2.2.2.2.2.2.1 g.2.2.2.2.2.2.2.1 g.2.2.2.2.2.2.2.2.1 (wI (g.2.2.2.2.2.2.2.2.2.1+1)) (WS.mk g.2.2.2.2.2.2.2.2.2.2.1 g.2.2.2.2.2.2.2.2.2.2.2.1 g.2.2.2.2.2.2.2.2.2.2.2.2.1 g.2.2.2.2.2.2.2.2.2.2.2.2.2.1 g.2.2.2.2.2.2.2.2.2.2.2.2.2.2.1 (wI ((wI (g.2.2.2.2.2.2.2.2.2.2.2.2.2.2.2+1))+(v.length:Int))))),true,0)
def QbS(N:Nat):Nat->Int->Int->(List Int)->(List Wp)->Int->Int->(List Int)->(List Int)->(List Int)->Int->Int->Int->Int->Int->Int->Int->Option (Wu×Int)
 |0,_,_,_,_,_,_,_,_,_,_,_,_,_,_,_,_=>none
 |n+1,v,x,z,A,B,v6,v7,v8,v9,v10,v11,g,v13,k,v15,u=>
  bnd (Qef N (Wu.mk (Wh.mk (WP.mk v x) z A B v6) v7 v8 v9 v10 (WS.mk v11 g v13 k v15 u))) λe=>
  bif (e.2.2 != 0)then some ((Wu.mk zHp [] [] [] 0 (WS.mk 0 0 0 0 0 0)),e.2.2)
  else bif (!e.2.1)then some (e.1,0)
  else QbS N n e.1.h.c.W e.1.h.c.p e.1.h.w e.1.h.p e.1.h.s e.1.h.b e.1.o e.1.t e.1.q e.1.d e.1.r.j e.1.r.K e.1.r.F e.1.r.E e.1.r.f e.1.r.y
def Qem(N:Nat)(e:Wu):Option (Wu×Int):=bnd (QbS N N e.h.c.W e.h.c.p e.h.w e.h.p e.h.s e.h.b e.o e.t e.q e.d e.r.j e.r.K e.r.F e.r.E e.r.f e.r.y) λr=>some r
def QcC(N:Nat)(f:Wu)(e:Int):Option Int:=bnd (Qbt N f.q e) λg=>bif g then some e else bnd (Qbj N f.h.w e) λj=>bnd (QcA N j.1) λk=>some k.1
def Qbf(N:Nat)(e:Wu)(g:List Wp)(j:Wp)(f k:Int):Nat->Int->(List Int)->Option (List Int)
 |0,_,_=>none
 |n+1,v7,v8=>
  bif (decide (v7<e.h.c.W))then(bnd (Xd v8 (wI ((wI (f*e.h.c.W))+v7))) λo=>
   Qbf N e g j f k n (wI (v7+1)) (v8.set (wI ((wI (f*e.h.c.W))+v7)).toNat 0))
  else some v8
def QaO(N:Nat)(g:Wu):Nat->Int->Int->(List Int)->(List Wp)->Option (Int×List Int×List Wp)
 |0,_,_,_,_=>none
 |n+1,f,j,o,e=>
  grd (e.length<=140737488355328) <|
  bif (decide (f<(e.length:Int)))then(bnd (Xd e f) λp=>
   bif (p.k==0)then QaO N g n (wI (f+1)) j o e
   else bif (p.s != g.h.s)then QaO N g n (wI (f+1)) j o e
   else bnd (Xd e f) λr=>
   bnd (Qbf N g e p f j N 0 o) λq=>
   QaO N g n (wI (f+1)) (wI (j+1)) q (e.set f.toNat (Wp.mk 0 0 0 0)))
  else some (j,o,e)
def Qeg(N:Nat)(e:Wu):Option Wu:=grd (e.h.p.length*32<=140737488355328) <| grd (e.h.w.length*8<=140737488355328) <| bnd (QaO N e N 0 e.r.E e.h.w e.h.p) λg=>some (Wu.mk (Wh.mk e.h.c g.2.1 g.2.2 e.h.s e.h.b) e.o e.t e.q e.d (WS.mk e.r.j e.r.K e.r.F g.1 e.r.f e.r.y))
def QaD(N:Nat)(e:Wu):Nat->Int->(List Int)->Int->Option (List Int×Int)
 |0,_,_,_=>none
 |n+1,k,u,v=>
  bif (decide (k<(e.o.length:Int)))then(bnd (Xd e.o k) λA=>
   bnd (Qca N e.h.c A) λB=>
   bnd (QbW N (Wu.mk (Wh.mk e.h.c u e.h.p e.h.s e.h.b) e.o e.t e.q e.d (WS.mk e.r.j e.r.K v e.r.E e.r.f e.r.y)) B.1) λD=>
   bif (!D)then QaD N e n (wI (k+1)) u v
   else bnd (Xd e.o k) λG=>
   bnd (Qbt N e.q G) λH=>
   bif H then QaD N e n (wI (k+1)) u v
   else bnd (Xd e.o k) λI=>
   bnd (Qdl N (Wu.mk (Wh.mk e.h.c u e.h.p e.h.s e.h.b) e.o e.t e.q e.d (WS.mk e.r.j e.r.K v e.r.E e.r.f e.r.y)) I) λg=>
   bnd (Qcy N (Wy.mk 0 g.n 0)) λw=>
   bnd (Xd e.o k) λx=>
   grd (0<=g.n/\g.n.toNat*8<=140737488355328) <|
   grd ((1+g.n.toNat)*8<=140737488355328) <|
   bnd (Qci N u x ([w.1]++(List.replicate g.n.toNat (0:Int)))) λz=>
   QaD N e n (wI (k+1)) z.1 (wI (v+1)))
  else some (u,v)
def Qeh(N:Nat)(e:Wu):Option Wu:=bnd (QaD N e N 0 e.h.w e.r.F) λg=>some (Wu.mk (Wh.mk e.h.c g.1 e.h.p e.h.s e.h.b) e.o e.t e.q e.d (WS.mk e.r.j e.r.K g.2 e.r.E e.r.f e.r.y))
def QaL(N:Nat)(g:List Int)(z:Wu×List Int×Int)(e:Wu×Int):Nat->Int->Int->(List Int)->Option (Int×List Int)
 |0,_,_,_=>none
 |n+1,v7,v8,v9=>
  bif (decide (v7<(g.length:Int)))then(bnd (Xd g v7) λk=>
   jn (λ(p s:Int)=>
    grd ((v9.length+1)*8<=140737488355328) <|
    QaL N g z e n (wI (v7+1)) s (v9++[p])) λw=>
   bif (k != 0)then(bnd (Xd g v7) λu=>
    bnd (QcC N (Wu.mk e.1.h e.1.o e.1.t e.1.q e.1.d (WS.mk e.1.r.j e.1.r.K e.1.r.F e.1.r.E v8 e.1.r.y)) u) λf=>
    jn (λ(v:Int)=>
     w f v) λx=>
    bif (f==0)then x (wI (v8+1))
    else x v8)
   else w 0 v8)
  else some (v8,v9)
def Qcj(N:Nat)(v:Wh)(B D:List Int):Option (Wh×List Int×List Int×WS×Int):=bnd (Qaa N v) λI=>bif (!I)then some (zHp,[],[],(WS.mk 0 0 0 0 0 0),1)else jn (λ(_:Unit)=>some (zHp,[],[],(WS.mk 0 0 0 0 0 0),19)) λG=>bnd (QbD N v B) λJ=>bif (!J)then G ()else bnd (QbD N v D) λL=>bif (!L)then G ()else bnd (QcZ N v) λM=>bnd (Qc0 N M.1 B) λk=>bif (k.2.2 != 0)then some (zHp,[],[],(WS.mk 0 0 0 0 0 0),k.2.2)else bnd (Qem N k.1) λg=>bif (g.2 != 0)then some (zHp,[],[],(WS.mk 0 0 0 0 0 0),g.2)else bnd (QaL N D k g N 0 g.1.r.f []) λu=>bnd (Qeh N (Wu.mk g.1.h g.1.o g.1.t g.1.q g.1.d (WS.mk g.1.r.j g.1.r.K g.1.r.F g.1.r.E u.1 g.1.r.y))) λx=>bnd (Qeg N x) λe=>jn (λ(z:Int)=>some ((Wh.mk e.h.c e.h.w e.h.p (wI (1-e.h.s)) z),k.2.1,u.2,e.r,0)) λH=>bif (decide ((e.t.length:Int)>0))then(bnd (Xd e.t (wI ((e.t.length:Int)-1))) λA=>H A)else H (-1)
def Qbg(N:Nat)(j:Wq)(g:List Int):Nat->Int->Int->(List UH)->Option (Ex (Wq×Int) (List UH))
 |0,_,_,_=>none
 |n+1,h,f,e=>
  grd (e.length<=140737488355328) <|
  bif (decide (f<(e.length:Int)))then(bnd (Xd e f) λo=>
   bif (!o.V)then Qbg N j g n h (wI (f+1)) e
   else bnd (Xd g h) λp=>
   bif (p==0)then some (.ret ((Wq.mk [] [] []),1))
   else bnd (Xd g h) λq=>
   bnd (Xd e f) λk=>
   Qbg N j g n (wI (h+1)) (wI (f+1)) (e.set f.toNat (UH.mk k.J q k.V)))
  else some (.nxt e)
def Qda(N:Nat)(f:Wq)(h:List Int):Option (Wq×Int):=bnd (Qcf N f) λj=>bif (!j)then some ((Wq.mk [] [] []),1)else bnd (QcJ N f) λk=>bif ((h.length:Int) != (k.length:Int))then some ((Wq.mk [] [] []),1)else grd (f.S.length*24<=140737488355328) <| bnd (Qbg N f h N 0 0 f.S) λe=>exK e (λr=>some r) λg=>some ((Wq.mk g f.x f.i),0)
def Qbh(N:Nat)(g:List Int):Nat->Int->Int->(List W6)->Option (List W6)
 |0,_,_,_=>none
 |n+1,h,f,e=>
  grd (e.length<=140737488355328) <|
  bif (decide (f<(e.length:Int)))then(bnd (Xd e f) λk=>
   bif k.V then(bnd (Xd g h) λo=>
    bnd (Xd e f) λj=>
    Qbh N g n (wI (h+1)) (wI (f+1)) (e.set f.toNat (W6.mk j.G o j.V)))
   else Qbh N g n h (wI (f+1)) e)
  else some e
def Qb8(N:Nat)(f:WD)(g:List Int):Option (WD×Int):=bnd (Qcg N f) λj=>bif (!j)then some ((WD.mk []),1)else bnd (Qbu N f) λh=>grd (h.length<=140737488355328) <| bif ((g.length:Int) != (h.length:Int))then some ((WD.mk []),1)else grd (f.e.length*24<=140737488355328) <| bnd (Qbh N g N 0 0 f.e) λk=>some ((WD.mk k),0)
def QaY(N:Nat)(e:Uj)(h:Wh×List Int×List Int×WS×Int)(j k:List Int)(o:Wq×Int)(p q:WD×Int):Nat->Int->(List UB)->Option (List UB)
 |0,_,_=>none
 |n+1,v10,v11=>
  bif (decide (v10<(e.P.length:Int)))then(bnd (Xd h.2.1 (wI ((wI ((wI ((e.R.length:Int)+(j.length:Int)))+(k.length:Int)))+v10))) λf=>
   bnd (Xd e.P v10) λg=>
   grd ((v11.length+1)*16<=140737488355328) <|
   QaY N e h j k o p q n (wI (v10+1)) (v11++[(UB.mk f g.M)]))
  else some v11
def QbA(N:Nat)(e:Uj):Option (Uj×WS×Int):=bnd (QbI N e) λs=>bif (!s)then some ((Uj.mk zHp (Wq.mk [] [] []) (WD.mk []) (WD.mk []) [] []),(WS.mk 0 0 0 0 0 0),19)else bnd (Qb9 N e) λu=>bnd (Qbu N e.v) λw=>bnd (Qcj N e.h u w) λf=>bif (f.2.2.2.2 != 0)then some ((Uj.mk zHp (Wq.mk [] [] []) (WD.mk []) (WD.mk []) [] []),(WS.mk 0 0 0 0 0 0),f.2.2.2.2)else bnd (QcJ N e.l) λj=>bnd (Qbu N e.g) λk=>grd (k.length<=140737488355328) <| grd (0<=0/\0<=(e.R.length:Int)/\(e.R.length:Int)<=(f.2.1.length:Int)) <| grd ((min ((e.R.length:Int).toNat) f.2.1.length)*8<=140737488355328) <| grd (0<=(e.R.length:Int)/\(e.R.length:Int)<=(wI ((e.R.length:Int)+(j.length:Int)))/\(wI ((e.R.length:Int)+(j.length:Int)))<=(f.2.1.length:Int)) <| bnd (Qda N e.l ((f.2.1.drop (e.R.length:Int).toNat).take ((wI ((e.R.length:Int)+(j.length:Int))).toNat-(e.R.length:Int).toNat))) λp=>grd (0<=(wI ((e.R.length:Int)+(j.length:Int)))/\(wI ((e.R.length:Int)+(j.length:Int)))<=(wI ((wI ((e.R.length:Int)+(j.length:Int)))+(k.length:Int)))/\(wI ((wI ((e.R.length:Int)+(j.length:Int)))+(k.length:Int)))<=(f.2.1.length:Int)) <| bnd (Qb8 N e.g ((f.2.1.drop (wI ((e.R.length:Int)+(j.length:Int))).toNat).take ((wI ((wI ((e.R.length:Int)+(j.length:Int)))+(k.length:Int))).toNat-(wI ((e.R.length:Int)+(j.length:Int))).toNat))) λq=>bnd (Qb8 N e.v f.2.2.1) λr=>bnd (QaY N e f j k p q r N 0 []) λo=>some ((Uj.mk f.1 p.1 q.1 r.1 o (f.2.1.take (e.R.length:Int).toNat)),f.2.2.2.1,0)
def Qdb(N:Nat)(g:WO)(e:List Int):Nat->Int->Option (Ex Bool Unit)
 |0,_=>none
 |n+1,f=>
  bif (decide (f<(e.length:Int)))then(bnd (Xd e f) λh=>
   bif (decide (h>(wU (g.T.length:Int))))then some (.ret false)
   else Qdb N g e n (wI (f+1)))
  else some (.nxt ())
def Qdc(N:Nat)(f:WO)(g:List Int):Option Bool:=bnd (Qdb N f g N 0) λe=>exK e (λr=>some r) λh=>some true
def Qd0(N:Nat)(e:UY):Nat->Int->(List Int)->Option (List Int)
 |0,_,_=>none
 |n+1,f,g=>
  bif (decide (f<(e.D.length:Int)))then(bnd (Qby N e.H f) λh=>
   bif h then(bnd (Xd e.D f) λj=>
    grd ((g.length+1)*8<=140737488355328) <|
    Qd0 N e n (wI (f+1)) (g++[j]))
   else Qd0 N e n (wI (f+1)) g)
  else some g
def Qgk(N:Nat)(e:UY):Option (List Int):=bnd (Qd0 N e N 0 []) λf=>some f
def QeJ(N:Nat)(f:WO)(g:Int):Nat->Int->Option (Ex Int Unit)
 |0,_=>none
 |n+1,e=>
  bif (decide (e<(f.m.length:Int)))then(bnd (Xd f.m e) λh=>
   bif (h.I==g)then some (.ret e)
   else QeJ N f g n (wI (e+1)))
  else some (.nxt ())
def Qfy(N:Nat)(f:WO)(g:Int):Option Int:=bnd (QeJ N f g N 0) λe=>exK e (λr=>some r) λh=>some (-1)
def Qdx(N:Nat)(f:WO):Nat->Int->Option (Ex Bool Unit)
 |0,_=>none
 |n+1,g=>
  bif (decide (g<(f.T.length:Int)))then(bnd (Xd f.T g) λe=>
   bnd (QcY N e.H) λh=>
   bif (!h)then some (.ret false)
   else bif (e.H.k==0)then some (.ret false)
   else bif ((e.D.length:Int) != e.H.n)then some (.ret false)
   else bnd (Qgk N e) λj=>
   bnd (Qdc N f j) λo=>
   bif (!o)then some (.ret false)
   else Qdx N f n (wI (g+1)))
  else some (.nxt ())
def Qdy(N:Nat)(h:WO)(e:List Int):Nat->Int->Option (Ex Bool Unit)
 |0,_=>none
 |n+1,f=>
  grd (e.length<=140737488355328) <|
  bif (decide (f<(e.length:Int)))then(bnd (Xd e f) λg=>
   bif (g==0)then some (.ret false)
   else Qdy N h e n (wI (f+1)))
  else some (.nxt ())
def Qdz(N:Nat)(f:WO)(g:List Int):Nat->Int->Option (Ex Bool Unit)
 |0,_=>none
 |n+1,v15=>
  bif (decide (v15<(f.m.length:Int)))then(bnd (Xd f.m v15) λe=>
   bif (decide (e.I<1))then some (.ret false)
   else bif (decide (e.I>(wU (f.T.length:Int))))then some (.ret false)
   else bnd (Qfy N f e.I) λh=>
   bif (h != v15)then some (.ret false)
   else bif (decide (e.M<1))then some (.ret false)
   else bif (decide (e.M>1000))then some (.ret false)
   else Qdz N f g n (wI (v15+1)))
  else some (.nxt ())
def Qen(N:Nat)(f:WO):Option Bool:=bnd (QaT N f.c) λu=>bif (!u)then some false else bnd (Qcf N f.l) λw=>bif (!w)then some false else bnd (Qcg N f.g) λx=>bif (!x)then some false else bnd (Qcg N f.v) λy=>bif (!y)then some false else bif (decide ((f.m.length:Int)>64))then some false else bnd (Qdx N f N 0) λe=>exK e (λr=>some r) λz=>bnd (Qbu N f.g) λh=>bnd (Qdy N f h N 0) λe=>exK e (λr=>some r) λA=>bnd (Qdz N f h N 0) λe=>exK e (λr=>some r) λB=>bnd (Qdc N f f.R) λj=>bif j then(bnd (QcJ N f.l) λk=>bnd (Qdc N f k) λo=>bif o then(bnd (Qdc N f h) λp=>bif p then(bnd (Qbu N f.v) λq=>bnd (Qdc N f q) λs=>some s)else some false)else some false)else some false
def QeV(N:Nat)(e:WO):Nat->Int->(List Int)->Option (List Int)
 |0,_,_=>none
 |n+1,f,g=>
  bif (decide (f<(e.m.length:Int)))then(bnd (Xd e.m f) λh=>
   grd ((g.length+1)*8<=140737488355328) <|
   QeV N e n (wI (f+1)) (g++[h.I]))
  else some g
def QgU(N:Nat)(e:WO):Option (List Int):=grd (e.R.length*8<=140737488355328) <| bnd (QcJ N e.l) λf=>grd ((e.R.length+f.length)*8<=140737488355328) <| bnd (Qbu N e.g) λh=>grd (((e.R.length+f.length)+h.length)*8<=140737488355328) <| bnd (QeV N e N 0 ((e.R++f)++h)) λj=>some j
def QcR(N:Nat)(j:WO):Nat->Int->(List Bool)->(List Int)->Option (List Bool)
 |0,_,_,_=>none
 |n+1,f,g,e=>
  grd (e.length<=140737488355328) <|
  bif (decide (f<(e.length:Int)))then(bnd (Xd e f) λq=>
   bif (q==0)then QcR N j n (wI (f+1)) g e
   else bnd (Xd e f) λr=>
   bnd (Xd g (wU (r-1))) λs=>
   bif s then QcR N j n (wI (f+1)) g e
   else bnd (Xd e f) λp=>
   bnd (Xd g (wU (p-1))) λu=>
   bnd (Xd e f) λk=>
   bnd (Xd j.T (wU (k-1))) λo=>
   bnd (Qgk N o) λh=>
   grd ((e.length+h.length)*8<=140737488355328) <|
   QcR N j n (wI (f+1)) (g.set (wU (p-1)).toNat true) (e++h))
  else some g
def QfH(N:Nat)(e:WO):Option (List Bool):=bnd (Qen N e) λg=>bif (!g)then some []else grd (0<=(e.T.length:Int)/\(e.T.length:Int).toNat<=140737488355328) <| bnd (QgU N e) λh=>bnd (QcR N e N 0 (List.replicate (e.T.length:Int).toNat false) h) λf=>some f
def Qbp(N:Nat)(h:WO)(g:List Bool):Nat->Int->(List Int)->Option (List Int)
 |0,_,_=>none
 |n+1,f,e=>
  grd (e.length<=140737488355328) <|
  bif (decide (f<(e.length:Int)))then(bnd (Xd e f) λj=>
   bif (j != 0)then(bnd (Xd e f) λk=>
    bnd (Xd g (wU (k-1))) λo=>
    bif (!o)then(bnd (Xd e f) λp=>
     Qbp N h g n (wI (f+1)) (e.set f.toNat 0))
    else Qbp N h g n (wI (f+1)) e)
   else Qbp N h g n (wI (f+1)) e)
  else some e
def Qdm(N:Nat)(e:WO):Option (WO×Int):=bnd (Qen N e) λj=>bif (!j)then some (zWd,19)else bnd (QfH N e) λk=>bnd (Qbu N e.v) λo=>bnd (Qbp N e k N 0 o) λf=>bnd (Qb8 N e.v f) λh=>some ((WO.mk e.c e.T e.l e.g h.1 e.m e.R),0)
def Qab(N:Nat)(e:Int):Option (Uj×Int×Int):=some ((Uj.mk zHp (Wq.mk [] [] []) (WD.mk []) (WD.mk []) [] []),0,e)
def QcD(N:Nat)(f e g:Int):Option (Wy×Bool):=bif (f==1)then(bif (decide (e<=2147483647))then some ((Wy.mk f (wI (Y6 .u64 e 2147483647)) (wW g)),(decide (g<=4294967295)))else some ((Wy.mk f (wI (Y6 .u64 e 2147483647)) (wW g)),false))else some ((Wy.mk f (wI (Y6 .u64 e 2147483647)) 0),(decide (e<=2147483647)))
def Qdd(N:Nat)(f:WP)(e:Wy):Option Bool:=bnd (QcY N e) λg=>bif g then(bif (e.k != 0)then(bnd (QcL N e) λh=>bnd (QeT N f h) λj=>some (j != (-1)))else some false)else some false
def Qeo(N:Nat)(e:Wq)(f:Int):Option (Wq×Int×Int×Int):=bnd (Qcf N e) λg=>bif (!g)then some ((Wq.mk [] [] []),0,0,1)else bif (f==0)then some ((Wq.mk [] [] []),0,0,1)else bif ((e.x.length:Int)==0)then some ((Wq.mk [] [] []),0,0,9)else bnd (Xd e.x (wI ((e.x.length:Int)-1))) λh=>bnd (Qgi N e h.O (e.S.length:Int)) λj=>bnd (Xd e.x (wI ((e.x.length:Int)-1))) λk=>bif (decide (j>=k.C0))then some ((Wq.mk [] [] []),0,0,10)else bif ((e.i.length:Int)==4096)then some ((Wq.mk [] [] []),0,0,18)else grd (e.i.length*8<=140737488355328) <| grd ((e.i.length+1)*8<=140737488355328) <| grd (e.S.length*24<=140737488355328) <| grd ((e.S.length+1)*24<=140737488355328) <| some ((Wq.mk (e.S++[(UH.mk (wI ((e.i.length:Int)+1)) f true)]) e.x (e.i++[(e.S.length:Int)])),(e.S.length:Int),(wI ((e.i.length:Int)+1)),0)
def QfT(N:Nat)(e:WP):Option Int:=bnd (QaT N e) λf=>bif (!f)then some 0 else some (wI (e.p.tdiv 4))
def QbG(N:Nat)(e:List Wp):Nat->Int->Int->Option Int
 |0,_,_=>none
 |n+1,g,f=>
  bif (decide (f<(e.length:Int)))then(bnd (Xd e f) λh=>
   bif (h.k != 0)then QbG N e n (wI (g+1)) (wI (f+1))
   else QbG N e n g (wI (f+1)))
  else some g
def Qc1(N:Nat)(e:List Wp):Option Int:=bnd (QbG N e N 0 0) λf=>some f
def Qep(N:Nat)(e:Wh)(q:Int):Option (Wh×Int×Bool):=grd (e.p.length*32<=140737488355328) <| bnd (QfT N e.c) λz=>bnd (Qc1 N e.p) λA=>jn (λ(_:Unit)=>bnd (Qbo N e.p 1) λf=>bif (decide (f<0))then some (zHp,0,false)else bif (decide (A>=z))then some (zHp,0,false)else bnd (QbX N e.p f e.s) λj=>bnd (Xd j.1 f) λr=>bnd (Xd j.1 f) λv=>bnd (Xd j.1 f) λg=>some ((Wh.mk e.c e.w (j.1.set f.toNat (Wp.mk g.k g.s (wI (v.u+q)) g.P)) e.s f),(wU (wI ((wI (4096+(wI (f*e.c.W))))+r.u))),true)) λo=>bif (decide (e.b<0))then o ()else bnd (Xd e.p e.b) λB=>bif (B.s != e.s)then o ()else bnd (Xd e.p e.b) λD=>bif (decide ((wI (D.u+q))>e.c.W))then o ()else bif (decide (A>z))then o ()else bnd (Xd e.p e.b) λx=>bnd (Xd e.p e.b) λy=>bnd (Xd e.p e.b) λh=>some ((Wh.mk e.c e.w (e.p.set e.b.toNat (Wp.mk h.k h.s (wI (y.u+q)) h.P)) e.s e.b),(wU (wI ((wI (4096+(wI (e.b*e.c.W))))+x.u))),true)
def Qe6(N:Nat)(j:WP)(k:List Wp)(o e f:Int):Option (List Wp×Int):=bnd (QeT N j f) λg=>bif (decide (g<1))then some ([],1)else bif (decide (e<0))then some ([],1)else bif (decide (e>1))then some ([],1)else bnd (QdH N k o g (Wp.mk 2 e f 0) (Wp.mk 3 e 0 0)) λh=>some (h.1,h.2)
def Qe7(N:Nat)(e:Wh)(h g:Int):Option (Wh×Int×Bool):=bnd (Qbo N e.p g) λf=>bif (decide (f<0))then some (zHp,0,false)else bnd (Qc1 N e.p) λj=>bnd (QfT N e.c) λk=>bif (decide ((wI (j+g))>k))then some (zHp,0,false)else bnd (Qe6 N e.c e.p f e.s h) λo=>some ((Wh.mk e.c e.w o.1 e.s e.b),(wU (wI (4096+(wI (f*e.c.W))))),true)
def QbN(N:Nat)(e:Wh)(j:Int)(f:Wy):Option (Wh×Int):=bnd (Qcy N f) λh=>bnd (Qaa N e) λk=>bif (!k)then some (zHp,1)else bif (h.2 != 0)then some (zHp,1)else grd (0<=f.n/\f.n.toNat*8<=140737488355328) <| grd ((1+f.n.toNat)*8<=140737488355328) <| bnd (Qci N e.w j ([h.1]++(List.replicate f.n.toNat (0:Int)))) λg=>bif (g.2 != 0)then some (zHp,g.2)else some ((Wh.mk e.c g.1 e.p e.s e.b),0)
def QeW(N:Nat)(g:Wh)(h:Wy):Option (Wh×Int×Int):=bnd (Qaa N g) λA=>bif (!A)then some (zHp,0,1)else bnd (Qdd N g.c h) λB=>bif (!B)then some (zHp,0,1)else bnd (QcL N h) λj=>bnd (QeT N g.c j) λx=>bnd (Qep N g j) λe=>jn (λ(y:Int) (D:Bool) (E k:Int) (o:List Int) (q:List Wp) (r u:Int)=>bif (!D)then some (zHp,0,3)else bnd (QbN N (Wh.mk (WP.mk E k) o q r u) y h) λv=>some (v.1,y,0)) λz=>bif (decide (x>0))then(bnd (Qe7 N g j x) λf=>z f.2.1 f.2.2 f.1.c.W f.1.c.p f.1.w f.1.p f.1.s f.1.b)else z e.2.1 e.2.2 e.1.c.W e.1.c.p e.1.w e.1.p e.1.s e.1.b
def Qeq(N:Nat)(f:Uj)(K:Wy):Option (Uj×Int×Int):=bnd (QbI N f) λO=>bif (!O)then some ((Uj.mk zHp (Wq.mk [] [] []) (WD.mk []) (WD.mk []) [] []),0,19)else bnd (QeW N f.h K) λk=>jn (λ(T L Z x8:Int) (x9:List Int) (U:List Wp) (V Y:Int) (q:List UH) (r:List UX) (u:List Int) (y z:List W6) (A:List UB) (B:List Int) (D E:Int) (G:List Int) (H:List Wp) (I J:Int)=>bif (L != 0)then some ((Uj.mk zHp (Wq.mk [] [] []) (WD.mk []) (WD.mk []) [] []),0,L)else some ((Uj.mk (Wh.mk (WP.mk D E) G H I J) (Wq.mk q r u) (WD.mk y) (WD.mk z) A B),T,0)) λM=>bif (k.2.2==3)then(bnd (QbA N f) λj=>bif (j.2.2 != 0)then some ((Uj.mk zHp (Wq.mk [] [] []) (WD.mk []) (WD.mk []) [] []),0,j.2.2)else bnd (QeW N j.1.h K) λo=>M o.2.1 o.2.2 j.1.h.c.W j.1.h.c.p j.1.h.w j.1.h.p j.1.h.s j.1.h.b j.1.l.S j.1.l.x j.1.l.i j.1.g.e j.1.v.e j.1.P j.1.R o.1.c.W o.1.c.p o.1.w o.1.p o.1.s o.1.b)else M k.2.1 k.2.2 f.h.c.W f.h.c.p f.h.w f.h.p f.h.s f.h.b f.l.S f.l.x f.l.i f.g.e f.v.e f.P f.R k.1.c.W k.1.c.p k.1.w k.1.p k.1.s k.1.b
def Qhc(N:Nat)(e:U3):Option Bool:=bif (decide (e.Tag>=1))then(bif (decide (e.Tag<=3))then(bif (decide (e.Index>=0))then(bif (decide (e.Index<=65535))then(bif (decide (e.J>=1))then some (decide (e.J<=4294967295))else some false)else some false)else some false)else some false)else some false
def Qcb(N:Nat)(e:U3):Option (Int×Int):=bnd (Qhc N e) λf=>bif (!f)then some (0,1)else some ((wU ((wU ((wU e.Tag)+(Ke .u64 (wU e.Index) 2)))+(Ke .u64 (wU e.J) 18))),0)
def QcE(N:Nat)(e:Uj)(k:Int):Option (Uj×Int×Int):=bif (k==0)then some (e,0,0)else bnd (Qeo N e.l k) λf=>bif (f.2.2.2 != 0)then(bnd (Qab N f.2.2.2) λj=>some (j.1,j.2.1,j.2.2))else bnd (Qcb N (U3.mk 1 f.2.1 f.2.2.1)) λo=>some ((Uj.mk e.h f.1 e.g e.v e.P e.R),o.1,0)
def QdL(N:Nat)(e:Uj)(u v w:Int):Option (Uj×Int×Int):=bif (decide ((e.P.length:Int)>0))then(bnd (Qab N 15) λg=>some (g.1,g.2.1,g.2.2))else bnd (QcD N u v w) λj=>jn (λ(_:Unit)=>bnd (Qab N 1) λk=>some (k.1,k.2.1,k.2.2)) λr=>bif (!j.2)then r ()else bnd (Qdd N e.h.c j.1) λx=>bif (!x)then r ()else bnd (Qeo N e.l 1) λs=>bif (s.2.2.2 != 0)then(bnd (Qab N s.2.2.2) λo=>some (o.1,o.2.1,o.2.2))else bnd (Qeq N e j.1) λf=>bif (f.2.2 != 0)then(bnd (Qab N f.2.2) λp=>some (p.1,p.2.1,p.2.2))else bnd (QcE N f.1 f.2.1) λq=>some (q.1,q.2.1,q.2.2)
def QcF(N:Nat)(e:Int):Option (U3×Int):=bif (e==0)then some ((U3.mk 0 0 0),5)else bnd (Qcb N (U3.mk (wI (Y6 .u64 e 3)) (wI (Y6 .u64 (Yy .u64 e 2) 65535)) (wI (Yy .u64 e 18)))) λf=>bif (f.2 != 0)then some ((U3.mk 0 0 0),6)else bif (f.1 != e)then some ((U3.mk 0 0 0),6)else some ((U3.mk (wI (Y6 .u64 e 3)) (wI (Y6 .u64 (Yy .u64 e 2) 65535)) (wI (Yy .u64 e 18))),0)
def Qer(N:Nat)(e:Wq)(f g:Int):Option (Int×Int):=bnd (Qcf N e) λh=>bif (!h)then some (0,1)else bif (decide (g<1))then some (0,6)else bif (decide (g>(e.i.length:Int)))then some (0,6)else bnd (Xd e.i (wI (g-1))) λj=>bif (j != f)then some (0,6)else bif (decide (f>=(e.S.length:Int)))then some (0,7)else bnd (Xd e.S f) λk=>bif (k.J != g)then some (0,7)else bnd (Xd e.S f) λo=>bif (!o.V)then some (0,8)else bnd (Xd e.S f) λp=>some (p.a,0)
def QdM(N:Nat)(f:WD)(g h:Int):Option (Int×Int):=bnd (Qcg N f) λj=>bif (!j)then some (0,1)else bif (decide (g<0))then some (0,6)else bif (decide (g>=(f.e.length:Int)))then some (0,6)else bif (decide (h<1))then some (0,6)else bnd (Xd f.e g) λk=>bif (decide (h>k.G))then some (0,6)else bnd (Xd f.e g) λo=>bif (decide (h<o.G))then some (0,8)else bnd (Xd f.e g) λp=>bif (!p.V)then some (0,8)else bnd (Xd f.e g) λq=>some (q.a,0)
def QaG(N:Nat)(f:Uj)(h:Int):Option (Int×Int):=bnd (QbI N f) λp=>bif (!p)then some (0,19)else bif (h==0)then some (0,0)else bnd (QcF N h) λe=>bif (e.2 != 0)then some (0,e.2)else bif (e.1.Tag==1)then(bnd (Qer N f.l e.1.Index e.1.J) λj=>some (j.1,j.2))else bif (e.1.Tag==2)then(bnd (QdM N f.g e.1.Index e.1.J) λk=>some (k.1,k.2))else bnd (QdM N f.v e.1.Index e.1.J) λo=>some (o.1,o.2)
def QbY(N:Nat)(f:Uj)(g:Int):Option (Int×Int):=bnd (QaG N f g) λe=>bif (e.2==0)then(bif (e.1==0)then some (0,5)else some (e.1,e.2))else some (e.1,e.2)
def Qc2(N:Nat)(g:Uj)(k f:Int)(o:Bool):Option (Int×Int×Int):=bnd (QbY N g k) λe=>bif (e.2 != 0)then some (0,0,e.2)else bnd (QbK N g.h e.1) λj=>bif (decide (f>=(wU j.1.n)))then some (0,0,2)else bnd (Qby N j.1 (wI f)) λp=>bif (!(p==o))then some (0,0,4)else some (e.1,(wI f),0)
def Qc3(N:Nat)(g:Wh)(h e:Int):Option (Int×Int):=bnd (QbK N g h) λf=>bif (f.2 != 0)then some (0,f.2)else bif (decide (e<0))then some (0,2)else bif (decide (e>=f.1.n))then some (0,2)else bnd (Qbj N g.w (wU ((wU (h+1))+(wU e)))) λj=>some (j.1,j.2)
def Qcl(N:Nat)(e:Wh)(f g j:Int):Option (Wh×Int):=bnd (Qc3 N e f g) λh=>bif (h.2 != 0)then some (zHp,h.2)else bnd (QdG N e.w (wU ((wU (f+1))+(wU g))) j) λk=>some ((Wh.mk e.c k.1 e.p e.s e.b),0)
def Qc4(N:Nat)(e:Uj)(j w x y:Int):Option (Uj×Int×Int):=jn (λ(z A B:Int)=>bif (B != 0)then(bnd (Qab N B) λk=>some (k.1,k.2.1,k.2.2))else bnd (Qc3 N e.h z A) λD=>bif (j==6)then some (e,D.1,0)else bif (j==8)then(bnd (QcE N e D.1) λo=>some (o.1,o.2.1,o.2.2))else jn (λ(p:Int)=>bnd (Qcl N e.h z A p) λq=>some ((Uj.mk q.1 e.l e.g e.v e.P e.R),0,0)) λE=>bif (j==9)then(bnd (QaG N e y) λr=>bif (r.2 != 0)then(bnd (Qab N r.2) λf=>some (f.1,f.2.1,f.2.2))else E r.1)else E y) λG=>bif (j==8)then(bnd (Qc2 N e w x true) λs=>G s.1 s.2.1 s.2.2)else bnd (Qc2 N e w x (j==9)) λu=>G u.1 u.2.1 u.2.2
def QcG(N:Nat)(e:Uj)(j o z:Int):Option (Uj×Int×Int):=jn (λ(A:Bool)=>bif A then(bnd (QbY N e o) λp=>bif (p.2 != 0)then(bnd (Qab N p.2) λq=>some (q.1,q.2.1,q.2.2))else bnd (QbK N e.h p.1) λx=>bif (j==4)then some (e,(wU x.1.n),0)else some (e,(wU x.1.k),0))else bif (j==10)then(bnd (QaG N e o) λr=>bif (r.2 != 0)then(bnd (Qab N r.2) λs=>some (s.1,s.2.1,s.2.2))else bnd (QaG N e z) λu=>bif (u.2 != 0)then(bnd (Qab N u.2) λv=>some (v.1,v.2.1,v.2.2))else bif (r.1==u.1)then some (e,1,0)else some (e,0,0))else bnd (QaG N e o) λw=>bif (w.2 != 0)then(bnd (Qab N w.2) λf=>some (f.1,f.2.1,f.2.2))else bnd (QcE N e w.1) λg=>some (g.1,g.2.1,g.2.2)) λy=>bif (j==4)then y true else y (j==5)
def Qcc(N:Nat)(g:WD)(h:Int):Nat->Int->Option (Ex (WD×Int×Int×Int) Unit)
 |0,_=>none
 |n+1,f=>
  grd (g.e.length<=140737488355328) <|
  bif (decide (f<(g.e.length:Int)))then(bnd (Xd g.e f) λk=>
   bif (!k.V)then(bnd (Xd g.e f) λo=>
    bif (decide (o.G<4294967295))then(bnd (Xd g.e f) λj=>
     bnd (Xd g.e f) λq=>
     bnd (Xd (g.e.set f.toNat (W6.mk (wI (j.G+1)) h true)) f) λp=>
     some (.ret ((WD.mk (g.e.set f.toNat (W6.mk (wI (j.G+1)) h true))),f,p.G,0)))
    else Qcc N g h n (wI (f+1)))
   else Qcc N g h n (wI (f+1)))
  else some (.nxt ())
def QcV(N:Nat)(f:WD)(g:Int):Option (WD×Int×Int×Int):=bnd (Qcg N f) λh=>bif (!h)then some ((WD.mk []),0,0,1)else grd (f.e.length*24<=140737488355328) <| bnd (Qcc N f g N 0) λe=>exK e (λr=>some r) λj=>grd (f.e.length<=140737488355328) <| bif ((f.e.length:Int)==64)then some ((WD.mk []),0,0,18)else grd ((f.e.length+1)*24<=140737488355328) <| grd (f.e.length<=140737488355328) <| some ((WD.mk (f.e++[(W6.mk 1 g true)])),(f.e.length:Int),1,0)
def Qdn(N:Nat)(f:Uj)(q u:Int):Option (Uj×Int×Int):=bnd (QbY N f u) λk=>bif (k.2 != 0)then(bnd (Qab N k.2) λo=>some (o.1,o.2.1,o.2.2))else jn (λ(w:Int) (x:List W6)=>bnd (QcV N (WD.mk x) k.1) λj=>bif (j.2.2.2 != 0)then(bnd (Qab N j.2.2.2) λp=>some (p.1,p.2.1,p.2.2))else jn (λ(y z:List W6)=>bnd (Qcb N (U3.mk w j.2.1 j.2.2.1)) λA=>some ((Uj.mk f.h f.l (WD.mk y) (WD.mk z) f.P f.R),A.1,0)) λr=>bif (q==15)then r f.g.e j.1.e else r j.1.e f.v.e) λs=>bif (q==15)then s 3 f.v.e else s 2 f.g.e
def QdN(N:Nat)(e:Wq)(f g:Int):Option (Wq×Int):=bnd (Qer N e f g) λh=>bif (h.2 != 0)then some ((Wq.mk [] [] []),h.2)else grd (e.S.length*24<=140737488355328) <| bnd (Xd e.S f) λj=>some ((Wq.mk (e.S.set f.toNat (UH.mk g 0 false)) e.x e.i),0)
def QgJ(N:Nat)(f:WD)(g:Int)(h:W6):Option WD:=grd (f.e.length*24<=140737488355328) <| bnd (Xd f.e g) λj=>some (WD.mk (f.e.set g.toNat h))
def QcH(N:Nat)(e:WD)(f g:Int):Option (WD×Int):=bnd (QdM N e f g) λh=>bif (h.2 != 0)then some ((WD.mk []),h.2)else bnd (QgJ N e f (W6.mk g 0 false)) λj=>some (j,0)
def QdO(N:Nat)(e:Uj)(j p:Int):Option (Uj×Int×Int):=bif (p==0)then(bnd (Qab N 5) λq=>some (q.1,q.2.1,q.2.2))else bnd (QaG N e p) λu=>bif (u.2 != 0)then(bnd (Qab N u.2) λr=>some (r.1,r.2.1,r.2.2))else bnd (QcF N p) λf=>jn (λ(_:Unit)=>bif (j==12)then(bnd (QdN N e.l f.1.Index f.1.J) λw=>some ((Uj.mk e.h w.1 e.g e.v e.P e.R),0,0))else bif (j==14)then(bnd (QcH N e.g f.1.Index f.1.J) λx=>some ((Uj.mk e.h e.l x.1 e.v e.P e.R),0,0))else bnd (QcH N e.v f.1.Index f.1.J) λy=>some ((Uj.mk e.h e.l e.g y.1 e.P e.R),0,0)) λk=>jn (λ(_:Unit)=>bnd (Qab N 4) λs=>some (s.1,s.2.1,s.2.2)) λo=>bif (j==12)then(bif (f.1.Tag != 1)then o ()else bif (j==14)then(bif (f.1.Tag != 2)then o ()else bif (j==16)then(bif (f.1.Tag != 3)then o ()else k ())else k ())else bif (j==16)then(bif (f.1.Tag != 3)then o ()else k ())else k ())else bif (j==14)then(bif (f.1.Tag != 2)then o ()else bif (j==16)then(bif (f.1.Tag != 3)then o ()else k ())else k ())else bif (j==16)then(bif (f.1.Tag != 3)then o ()else k ())else k ()
def Qgl(N:Nat)(e:Wq)(f:Int)(g:Bool):Option (Wq×Int):=bnd (Qcf N e) λj=>bif (!j)then some ((Wq.mk [] [] []),1)else bif (decide (f<0))then some ((Wq.mk [] [] []),1)else bif (decide (f>64))then some ((Wq.mk [] [] []),1)else jn (λ(_:Unit)=>bif ((e.x.length:Int)==64)then some ((Wq.mk [] [] []),17)else grd (e.x.length*24<=140737488355328) <| grd ((e.x.length+1)*24<=140737488355328) <| some ((Wq.mk e.S (e.x++[(UX.mk (e.S.length:Int) f g)]) e.i),0)) λh=>bif (!g)then(bif ((e.x.length:Int)==0)then some ((Wq.mk [] [] []),9)else h ())else h ()
def Qei(N:Nat)(f:Wq)(g:Int):Option (Wq×Int):=bnd (Qgl N f g false) λe=>some (e.1,e.2)
def QgK(N:Nat)(e:Wq)(f:Int):Option Wq:=bnd (Xd e.x f) λg=>grd (0<=0/\0<=g.O/\g.O<=(e.S.length:Int)) <| grd ((min g.O.toNat e.S.length)*24<=140737488355328) <| grd (0<=0/\0<=f/\f<=(e.x.length:Int)) <| grd ((min f.toNat e.x.length)*24<=140737488355328) <| some (Wq.mk (e.S.take g.O.toNat) (e.x.take f.toNat) e.i)
def QeX(N:Nat)(e:Wq):Option (Wq×Int):=bnd (Qcf N e) λf=>bif (!f)then some ((Wq.mk [] [] []),1)else bif ((e.x.length:Int)==0)then some ((Wq.mk [] [] []),9)else bnd (Xd e.x (wI ((e.x.length:Int)-1))) λg=>bif g.B0 then some ((Wq.mk [] [] []),9)else bnd (QgK N e (wI ((e.x.length:Int)-1))) λh=>some (h,0)
def QdP(N:Nat)(e:Uj)(w f:Int):Option (Uj×Int×Int):=bif (w==17)then(bif (decide (f>64))then(bnd (Qab N 1) λj=>some (j.1,j.2.1,j.2.2))else bnd (Qei N e.l (wI f)) λk=>bif (k.2 != 0)then(bnd (Qab N k.2) λo=>some (o.1,o.2.1,o.2.2))else some ((Uj.mk e.h k.1 e.g e.v e.P e.R),0,0))else bnd (QaG N e f) λp=>bif (p.2 != 0)then(bnd (Qab N p.2) λq=>some (q.1,q.2.1,q.2.2))else bnd (QeX N e.l) λr=>bif (r.2 != 0)then(bnd (Qab N r.2) λs=>some (s.1,s.2.1,s.2.2))else bnd (QcE N (Uj.mk e.h r.1 e.g e.v e.P e.R) p.1) λu=>some (u.1,u.2.1,u.2.2)
def QbZ(N:Nat)(e:Wh)(h j:Int):Option Wh:=grd (e.p.length*32<=140737488355328) <| bnd (Qfw N e h) λf=>bnd (Xd e.p f) λo=>bnd (Xd e.p f) λg=>some (Wh.mk e.c e.w (e.p.set f.toNat (Wp.mk g.k g.s g.u (wI (o.P+j)))) e.s e.b)
def Qdo(N:Nat)(k:Wh)(f:List UB)(j:Int):Option (Wh×List UB×Int):=bnd (Qch N k f) λo=>bif (!o)then some (zHp,[],19)else bif (j==0)then some (zHp,[],5)else bnd (QgG N f j) λe=>bif (decide (e<0))then some (zHp,[],12)else grd (f.length*16<=140737488355328) <| bnd (Xd f e) λg=>bnd (Xd f e) λh=>bnd (Xd (f.set e.toNat (UB.mk h.a (wI (g.M-1)))) e) λp=>bif (p.M==0)then(grd (0<=0/\0<=e/\e<=(f.length:Int)) <| grd (0<=(wI (e+1))/\(wI (e+1))<=(f.length:Int)/\(f.length:Int)<=(f.length:Int)) <| grd (e.toNat≠f.length/\(e.toNat+(f.length-(wI (e+1)).toNat))<=f.length) <| bnd (QbZ N k j (-1)) λq=>some (q,(((((f.set e.toNat (UB.mk h.a (wI (g.M-1)))).take e.toNat)++(((f.set e.toNat (UB.mk h.a (wI (g.M-1)))).drop (wI (e+1)).toNat).take (f.length-(wI (e+1)).toNat)))++((f.set e.toNat (UB.mk h.a (wI (g.M-1)))).drop (e.toNat+(f.length-(wI (e+1)).toNat)))).take (e.toNat+(f.length-(wI (e+1)).toNat))),0))else bnd (QbZ N k j (-1)) λr=>some (r,(f.set e.toNat (UB.mk h.a (wI (g.M-1)))),0)
def QdA(N:Nat)(e:Wh)(f:Int):Option Bool:=bnd (Qal N e) λg=>bnd (Qbt N g.1 f) λh=>some h
def Qbq(N:Nat)(e:Wh)(h:Int):Nat->Int->Int->Option Int
 |0,_,_=>none
 |n+1,g,f=>
  bif (decide (f<(e.p.length:Int)))then(bnd (Xd e.p f) λj=>
   bif (j.k==1)then(bnd (Xd e.p f) λo=>
    bif (decide (o.P>0))then Qbq N e h n (wI (g+1)) (wI (f+1))
    else Qbq N e h n g (wI (f+1)))
   else Qbq N e h n g (wI (f+1)))
  else some g
def QcQ(N:Nat)(e:Wh)(f:Int):Option Bool:=bnd (Qbk N e) λh=>bif (!h)then some false else bnd (QdA N e f) λj=>bif (!j)then some false else bnd (Qbq N e f N 0 0) λo=>bnd (Qfw N e f) λq=>bnd (Xd e.p q) λg=>bif (g.k==1)then(bif (g.P==0)then some (decide (o>=(wI (e.c.p.tdiv 4))))else some false)else some false
def Qft(N:Nat)(h:Wh)(e:List UB)(f:Int):Option (Wh×List UB×Int×Int):=bnd (Qch N h e) λr=>bif (!r)then some (zHp,[],0,19)else bif (f==0)then some (zHp,[],0,5)else bnd (QdA N h f) λs=>bif (!s)then some (zHp,[],0,1)else bnd (QgG N e f) λg=>jn (λ(_:Unit)=>grd (e.length*16<=140737488355328) <| jn (λ(k:List UB)=>bnd (QbZ N h f 1) λo=>some (o,k,(wU (f+1)),0)) λq=>bif (decide (g>=0))then(bnd (Xd e g) λu=>bnd (Xd e g) λp=>q (e.set g.toNat (UB.mk p.a (wI (u.M+1)))))else grd ((e.length+1)*16<=140737488355328) <| q (e++[(UB.mk f 1)])) λj=>bif (decide (g>=0))then(bnd (Xd e g) λv=>bif (v.M==1000)then some (zHp,[],0,18)else bif (decide (g<0))then(bif ((e.length:Int)==64)then some (zHp,[],0,18)else bnd (QcQ N h f) λw=>bif w then some (zHp,[],0,18)else j ())else bnd (QcQ N h f) λx=>bif x then some (zHp,[],0,18)else j ())else bif (decide (g<0))then(bif ((e.length:Int)==64)then some (zHp,[],0,18)else bnd (QcQ N h f) λy=>bif y then some (zHp,[],0,18)else j ())else bnd (QcQ N h f) λz=>bif z then some (zHp,[],0,18)else j ()
def QeY(N:Nat)(e:Uj)(r s:Int):Option (Uj×Int×Int):=bnd (QbY N e s) λj=>bif (j.2 != 0)then(bnd (Qab N j.2) λo=>some (o.1,o.2.1,o.2.2))else bif (r==20)then(bnd (Qdo N e.h e.P j.1) λk=>bif (k.2.2 != 0)then(bnd (Qab N k.2.2) λp=>some (p.1,p.2.1,p.2.2))else some ((Uj.mk k.1 e.l e.g e.v k.2.1 e.R),0,0))else bnd (Qft N e.h e.P j.1) λf=>bif (f.2.2.2 != 0)then(bnd (Qab N f.2.2.2) λq=>some (q.1,q.2.1,q.2.2))else some ((Uj.mk f.1 e.l e.g e.v f.2.1 e.R),f.2.2.1,0)
def Qag(N:Nat)(f:Uj)(e g w W:Int):Option (Uj×Int×Int):=bnd (QbI N f) λY=>bif (!Y)then(bnd (Qab N 19) λx=>some (x.1,x.2.1,x.2.2))else jn (λ(Z:Bool)=>bif Z then(bnd (QdL N f e g w) λy=>some (y.1,y.2.1,y.2.2))else jn (λ(x8:Bool)=>bif x8 then(bnd (Qc4 N f e g w W) λz=>some (z.1,z.2.1,z.2.2))else jn (λ(A:Bool)=>bif A then(bnd (QcG N f e g w) λh=>some (h.1,h.2.1,h.2.2))else jn (λ(B:Bool)=>bif B then(bnd (Qdn N f e g) λj=>some (j.1,j.2.1,j.2.2))else jn (λ(D:Bool)=>bif D then(bnd (QdO N f e g) λk=>some (k.1,k.2.1,k.2.2))else jn (λ(E:Bool)=>bif E then(bnd (QdP N f e g) λo=>some (o.1,o.2.1,o.2.2))else jn (λ(G:Bool)=>bif G then(bnd (QeY N f e g) λp=>some (p.1,p.2.1,p.2.2))else bnd (Qab N 1) λq=>some (q.1,q.2.1,q.2.2)) λr=>bif (e==19)then r true else r (e==20)) λs=>bif (e==17)then s true else s (e==18)) λu=>bif (e==12)then u true else jn (λ(H:Bool)=>u H) λv=>bif (e==14)then v true else v (e==16)) λK=>bif (e==13)then K true else K (e==15)) λL=>bif (e==4)then L true else jn (λ(I:Bool)=>L I) λM=>bif (e==5)then M true else jn (λ(J:Bool)=>M J) λO=>bif (e==10)then O true else O (e==11)) λR=>bif (e==6)then R true else jn (λ(x7:Bool)=>R x7) λS=>bif (e==7)then S true else jn (λ(x6:Bool)=>S x6) λT=>bif (e==8)then T true else T (e==9)) λU=>bif (e==1)then U true else jn (λ(x3:Bool)=>U x3) λV=>bif (e==2)then V true else V (e==3)
def QeK(N:Nat)(p q:Uj)(k r e:Int):Option OB:=jn (λ(f:Bool)=>jn (λ(g:Bool)=>bif (k==19)then(bif (e==0)then some (OB.mk f g r)else some (OB.mk f g 0))else some (OB.mk f g 0)) λo=>bif (e==0)then o (p.h.s != q.h.s)else o false) λj=>bif (e==3)then j true else bif (e==18)then j (k==19)else j false
def Qc5(N:Nat)(f:Wq)(e:Int):Option Int:=bif (e==0)then some 0 else bnd (Qeo N f e) λg=>some g.2.2.2
def QfI(N:Nat)(e:WO)(h j k:Int)(o:Bool):Option Int:=bif (decide ((e.m.length:Int)>0))then some 15 else bnd (QcD N h j k) λf=>bif (!f.2)then some 1 else bnd (Qdd N e.c f.1) λp=>bif (!p)then some 1 else bnd (Qc5 N e.l 1) λg=>bif (g != 0)then some g else bif o then some 3 else some 0
def QaH(N:Nat)(f:WO)(h:Int):Option (Int×Int):=bnd (Qen N f) λp=>bif (!p)then some (0,19)else bif (h==0)then some (0,0)else bnd (QcF N h) λe=>bif (e.2 != 0)then some (0,e.2)else bif (e.1.Tag==1)then(bnd (Qer N f.l e.1.Index e.1.J) λj=>some (j.1,j.2))else bif (e.1.Tag==2)then(bnd (QdM N f.g e.1.Index e.1.J) λk=>some (k.1,k.2))else bnd (QdM N f.v e.1.Index e.1.J) λo=>some (o.1,o.2)
def Qes(N:Nat)(f:WO)(g:Int):Option (Int×Int):=bnd (QaH N f g) λe=>bif (e.2==0)then(bif (e.1==0)then some (0,5)else some (e.1,e.2))else some (e.1,e.2)
def Qf9(N:Nat)(e:WO)(f o h p:Int):Option Int:=bnd (Qes N e o) λg=>bif (g.2 != 0)then some g.2 else bnd (Xd e.T (wU (g.1-1))) λj=>bif (decide (h>=(wU j.H.n)))then some 2 else jn (λ(q:Bool)=>bnd (Qby N j.H (wI h)) λr=>bif (!(r==q))then some 4 else bif (f==8)then(bnd (Xd j.D h) λs=>bnd (Qc5 N e.l s) λu=>some u)else bif (f==9)then(bnd (QaH N e p) λv=>some v.2)else some g.2) λk=>bif (f==8)then k true else k (f==9)
def QfJ(N:Nat)(k:WO)(f e:Int):Option Int:=bif (e==0)then some 5 else bnd (QaH N k e) λg=>bif (g.2 != 0)then some g.2 else bnd (QcF N e) λh=>jn (λ(o:Int)=>bif (f==16)then(bif (h.1.Tag != 3)then some 4 else some 0)else bif (h.1.Tag != o)then some 4 else some 0) λj=>bif (f==14)then j 2 else j 1
def Qgw(N:Nat)(f:WO)(k o:Int):Option Int:=bnd (Qes N f o) λh=>bif (h.2 != 0)then some h.2 else jn (λ(p:List W6)=>bnd (QcV N (WD.mk p) h.1) λq=>some q.2.2.2) λj=>bif (k==15)then j f.v.e else j f.g.e
def Qga(N:Nat)(e:WO)(j f:Int):Option Int:=bif (j==17)then(bif (decide (f>64))then some 1 else bnd (Qei N e.l (wI f)) λk=>some k.2)else bnd (QaH N e f) λg=>bif (g.2 != 0)then some g.2 else bnd (QeX N e.l) λh=>bif (h.2 != 0)then some h.2 else bnd (Qc5 N h.1 g.1) λo=>some o
def QgV(N:Nat)(e:WO)(j k:Int)(g:Bool):Option Int:=bnd (Qes N e k) λh=>bif (h.2 != 0)then some h.2 else bnd (Qfy N e h.1) λf=>bif (j==20)then(bif (decide (f<0))then some 12 else some 0)else bif (decide (f>=0))then(bnd (Xd e.m f) λo=>bif (o.M==1000)then some 18 else bif (decide (f<0))then(bif ((e.m.length:Int)==64)then some 18 else bif g then some 18 else some 0)else bif g then some 18 else some 0)else bif (decide (f<0))then(bif ((e.m.length:Int)==64)then some 18 else bif g then some 18 else some 0)else bif g then some 18 else some 0
def Qgx(N:Nat)(e:WO)(f h k:Int):Option Int:=jn (λ(_:Unit)=>bnd (Qes N e h) λo=>some o.2) λj=>bif (f==4)then j ()else bif (f==5)then j ()else bnd (QaH N e h) λg=>bif (g.2 != 0)then some g.2 else bif (f==10)then(bnd (QaH N e k) λp=>some p.2)else bnd (Qc5 N e.l g.1) λq=>some q
def QfK(N:Nat)(f:WO)(e g p S:Int)(E:Bool):Option Int:=bnd (Qen N f) λT=>bif (!T)then some 19 else jn (λ(U:Bool)=>bif U then(bnd (QfI N f e g p E) λV=>some V)else jn (λ(W:Bool)=>bif W then(bnd (Qf9 N f e g p S) λY=>some Y)else jn (λ(q:Bool)=>bif q then(bnd (QfJ N f e g) λr=>some r)else jn (λ(s:Bool)=>bif s then(bnd (Qgw N f e g) λu=>some u)else jn (λ(v:Bool)=>bif v then(bnd (Qga N f e g) λw=>some w)else jn (λ(x:Bool)=>bif x then(bnd (QgV N f e g E) λy=>some y)else jn (λ(z:Bool)=>bif z then(bnd (Qgx N f e g p) λA=>some A)else some 1) λh=>bif (e==4)then h true else jn (λ(B:Bool)=>h B) λj=>bif (e==5)then j true else jn (λ(D:Bool)=>j D) λk=>bif (e==10)then k true else k (e==11)) λo=>bif (e==19)then o true else o (e==20)) λG=>bif (e==17)then G true else G (e==18)) λH=>bif (e==13)then H true else H (e==15)) λI=>bif (e==12)then I true else jn (λ(Z:Bool)=>I Z) λJ=>bif (e==14)then J true else J (e==16)) λK=>bif (e==6)then K true else jn (λ(x6:Bool)=>K x6) λL=>bif (e==7)then L true else jn (λ(x5:Bool)=>L x5) λM=>bif (e==8)then M true else M (e==9)) λO=>bif (e==1)then O true else jn (λ(x2:Bool)=>O x2) λR=>bif (e==2)then R true else R (e==3)
def Qc6(N:Nat)(e:WO)(h:Int):Option (WO×Int):=bif (h==0)then some (e,0)else bnd (Qeo N e.l h) λf=>bnd (Qcb N (U3.mk 1 f.2.1 f.2.2.1)) λj=>some ((WO.mk e.c e.T f.1 e.g e.v e.m e.R),j.1)
def Qfu(N:Nat)(e:WO)(h j k:Int):Option WO:=grd (e.T.length*48<=140737488355328) <| bnd (Xd e.T (wU (h-1))) λf=>grd (f.D.length*8<=140737488355328) <| bnd (Xd f.D j) λo=>bnd (Xd e.T (wU (h-1))) λp=>some (WO.mk e.c (e.T.set (wU (h-1)).toNat (UY.mk f.H (f.D.set j.toNat k))) e.l e.g e.v e.m e.R)
def QeL(N:Nat)(f:WO)(p k:Int):Option (WO×Int):=jn (λ(q r:List W6) (s u w:Int)=>bnd (Qcb N (U3.mk s u w)) λx=>some ((WO.mk f.c f.T f.l (WD.mk q) (WD.mk r) f.m f.R),x.1)) λo=>bif (p==15)then(bnd (QcV N f.v k) λh=>o f.g.e h.1.e 3 h.2.1 h.2.2.1)else bnd (QcV N f.g k) λj=>o j.1.e f.v.e 2 j.2.1 j.2.2.1
def Qfk(N:Nat)(e:WO)(h:Int):Option WO:=bnd (QcF N h) λf=>bif (f.1.Tag==1)then(bnd (QdN N e.l f.1.Index f.1.J) λj=>some (WO.mk e.c e.T j.1 e.g e.v e.m e.R))else bif (f.1.Tag==2)then(bnd (QcH N e.g f.1.Index f.1.J) λk=>some (WO.mk e.c e.T e.l k.1 e.v e.m e.R))else bnd (QcH N e.v f.1.Index f.1.J) λo=>some (WO.mk e.c e.T e.l e.g o.1 e.m e.R)
def QgW(N:Nat)(e:WO)(f:Int):Option Int:=bnd (Qfy N e f) λg=>some g
def Qfz(N:Nat)(e:WO)(r o p:Int):Option (WO×Int):=bnd (QgW N e o) λf=>grd (e.m.length*24<=140737488355328) <| bif (r==20)then(bnd (Xd e.m f) λj=>bnd (Xd e.m f) λh=>bnd (Xd (e.m.set f.toNat (IC.mk h.I (wI (j.M-1)) h.B0)) f) λs=>bif (s.M==0)then(grd (0<=0/\0<=f/\f<=(e.m.length:Int)) <| grd (0<=(wI (f+1))/\(wI (f+1))<=(e.m.length:Int)/\(e.m.length:Int)<=(e.m.length:Int)) <| grd (f.toNat≠e.m.length/\(f.toNat+(e.m.length-(wI (f+1)).toNat))<=e.m.length) <| some ((WO.mk e.c e.T e.l e.g e.v (((((e.m.set f.toNat (IC.mk h.I (wI (j.M-1)) h.B0)).take f.toNat)++(((e.m.set f.toNat (IC.mk h.I (wI (j.M-1)) h.B0)).drop (wI (f+1)).toNat).take (e.m.length-(wI (f+1)).toNat)))++((e.m.set f.toNat (IC.mk h.I (wI (j.M-1)) h.B0)).drop (f.toNat+(e.m.length-(wI (f+1)).toNat)))).take (f.toNat+(e.m.length-(wI (f+1)).toNat))) e.R),0))else some ((WO.mk e.c e.T e.l e.g e.v (e.m.set f.toNat (IC.mk h.I (wI (j.M-1)) h.B0)) e.R),0))else bif (decide (f>=0))then(bnd (Xd e.m f) λq=>bnd (Xd e.m f) λk=>bnd (Xd (e.m.set f.toNat (IC.mk k.I (wI (q.M+1)) k.B0)) f) λu=>some ((WO.mk e.c e.T e.l e.g e.v (e.m.set f.toNat (IC.mk k.I (wI (q.M+1)) k.B0)) e.R),u.B0))else grd ((e.m.length+1)*24<=140737488355328) <| some ((WO.mk e.c e.T e.l e.g e.v (e.m++[(IC.mk o 1 p)]) e.R),p)
def QfA(N:Nat)(f:WO)(h s r G:Int)(I:OB):Option (WO×Int×Int):=bnd (QfK N f h s r G I.Failed) λy1=>bif (y1 != 0)then some (zWd,0,y1)else jn (λ(j:Int)=>jn (λ(x5:Bool)=>bif x5 then(jn (λ(x7 x8:Int) (u:List UY) (J:List UH) (K:List UX) (L:List Int) (M O:List W6) (U:List IC) (V:List Int)=>bnd (QcD N h s r) λq=>grd (u.length*48<=140737488355328) <| grd (0<=q.1.n/\q.1.n.toNat*8<=140737488355328) <| grd ((u.length+1)*48<=140737488355328) <| grd ((u.length+1)<=140737488355328) <| bnd (Qc6 N (WO.mk (WP.mk x7 x8) (u++[(UY.mk q.1 (List.replicate q.1.n.toNat (0:Int)))]) (Wq.mk J K L) (WD.mk M) (WD.mk O) U V) (wU (((u.length+1):Nat):Int))) λw=>some (w.1,w.2,0)) λj4=>bif I.Collected then(bnd (Qdm N f) λo=>j4 o.1.c.W o.1.c.p o.1.T o.1.l.S o.1.l.x o.1.l.i o.1.g.e o.1.v.e o.1.m o.1.R)else j4 f.c.W f.c.p f.T f.l.S f.l.x f.l.i f.g.e f.v.e f.m f.R)else bif (h==4)then(bnd (Xd f.T (wU (j-1))) λY=>some (f,(wU Y.H.n),0))else bif (h==5)then(bnd (Xd f.T (wU (j-1))) λZ=>some (f,(wU Z.H.k),0))else bif (h==6)then(bnd (Xd f.T (wU (j-1))) λp21=>bnd (Xd p21.D r) λp22=>some (f,p22,0))else bif (h==7)then(bnd (Qfu N f j (wI r) G) λy23=>some (y23,0,0))else bif (h==8)then(bnd (Xd f.T (wU (j-1))) λp24=>bnd (Xd p24.D r) λp25=>bnd (Qc6 N f p25) λy=>some (y.1,y.2,0))else bif (h==9)then(bnd (QaH N f G) λy27=>bnd (Qfu N f j (wI r) y27.1) λy28=>some (y28,0,0))else bif (h==10)then(bnd (QaH N f r) λy29=>bif (j==y29.1)then some (f,1,0)else some (f,0,0))else bif (h==11)then(bnd (Qc6 N f j) λz=>some (z.1,z.2,0))else jn (λ(x31:Bool)=>bif x31 then(bnd (QeL N f h j) λA=>some (A.1,A.2,0))else jn (λ(x34:Bool)=>bif x34 then(bnd (Qfk N f s) λy35=>some (y35,0,0))else bif (h==17)then(bnd (Qei N f.l (wI s)) λy36=>some ((WO.mk f.c f.T y36.1 f.g f.v f.m f.R),0,0))else bif (h==18)then(bnd (QeX N f.l) λy37=>bnd (Qc6 N (WO.mk f.c f.T y37.1 f.g f.v f.m f.R) j) λB=>some (B.1,B.2,0))else bnd (Qfz N f h j I.B0) λE=>some (E.1,E.2,0)) λj7=>bif (h==12)then j7 true else jn (λ(x33:Bool)=>j7 x33) λj6=>bif (h==14)then j6 true else j6 (h==16)) λj5=>bif (h==13)then j5 true else j5 (h==15)) λj3=>bif (h==1)then j3 true else jn (λ(x4:Bool)=>j3 x4) λj2=>bif (h==2)then j2 true else j2 (h==3)) λj1=>bif (decide (h>3))then(bif (h != 17)then(bnd (QaH N f s) λy2=>j1 y2.1)else j1 0)else j1 0
def QbT(N:Nat)(f:Io)(q:Ow):Option (Io×Int×Int):=bif (q.Op==0)then(bnd (QbA N f.N) λo=>jn (λ(x3 x4:Int) (x5:List Int) (x6:List Wp) (x7 x8:Int) (x9:List UH) (M:List UX) (O:List Int) (U V:List W6) (Y:List UB) (Z:List Int) (x16 x17:Int) (x18:List UY) (x19:List UH) (x20:List UX) (x21:List Int) (x22 x23:List W6) (x24:List IC) (x25:List Int)=>some ((Io.mk (Uj.mk (Wh.mk (WP.mk x3 x4) x5 x6 x7 x8) (Wq.mk x9 M O) (WD.mk U) (WD.mk V) Y Z) (WO.mk (WP.mk x16 x17) x18 (Wq.mk x19 x20 x21) (WD.mk x22) (WD.mk x23) x24 x25) f.w),0,0)) λj1=>bif (o.2.2==0)then(bnd (Qdm N f.z) λr=>j1 o.1.h.c.W o.1.h.c.p o.1.h.w o.1.h.p o.1.h.s o.1.h.b o.1.l.S o.1.l.x o.1.l.i o.1.g.e o.1.v.e o.1.P o.1.R r.1.c.W r.1.c.p r.1.T r.1.l.S r.1.l.x r.1.l.i r.1.g.e r.1.v.e r.1.m r.1.R)else j1 f.N.h.c.W f.N.h.c.p f.N.h.w f.N.h.p f.N.h.s f.N.h.b f.N.l.S f.N.l.x f.N.l.i f.N.g.e f.N.v.e f.N.P f.N.R f.z.c.W f.z.c.p f.z.T f.z.l.S f.z.l.x f.z.l.i f.z.g.e f.z.v.e f.z.m f.z.R)else bnd (Qag N f.N q.Op q.A q.B q.C) λj=>bnd (QeK N f.N j.1 q.Op j.2.1 j.2.2) λy27=>bnd (QfA N f.z q.Op q.A q.B q.C y27) λk=>jn (λ(u y:Int) (D:List UY) (E:List UH) (G:List UX) (H:List Int) (I J:List W6) (K:List IC) (L:List Int)=>bif (j.2.2==0)then(bif (j.2.1 != 0)then(grd (f.w.length*8<=140737488355328) <| grd ((f.w.length+1)*8<=140737488355328) <| some ((Io.mk j.1 (WO.mk (WP.mk u y) D (Wq.mk E G H) (WD.mk I) (WD.mk J) K L) (f.w++[j.2.1])),j.2.1,j.2.2))else some ((Io.mk j.1 (WO.mk (WP.mk u y) D (Wq.mk E G H) (WD.mk I) (WD.mk J) K L) f.w),j.2.1,j.2.2))else some ((Io.mk f.N (WO.mk (WP.mk u y) D (Wq.mk E G H) (WD.mk I) (WD.mk J) K L) f.w),j.2.1,j.2.2)) λj2=>bif (k.2.2==0)then j2 k.1.c.W k.1.c.p k.1.T k.1.l.S k.1.l.x k.1.l.i k.1.g.e k.1.v.e k.1.m k.1.R else j2 f.z.c.W f.z.c.p f.z.T f.z.l.S f.z.l.x f.z.l.i f.z.g.e f.z.v.e f.z.m f.z.R
def Qb0(N:Nat)(f:Io)(u:IB):Option (Int×IB):=bnd (Qaj N u 14) λe=>bif (e.1==0)then(bnd (Qaj N e.2 8) λk=>bnd (Xd [0,1,262145,262146,524289,1125899906842624,4097,262149] k.1) λv=>some (v,k.2))else bif (e.1==1)then(bnd (Qaj N e.2 (f.w.length:Int)) λo=>bnd (Xd f.w o.1) λx=>bnd (Qaj N o.2 3) λp=>some ((wU (x+(wU p.1))),p.2))else jn (λ(y:Bool)=>bif y then(bnd (Qaj N e.2 (f.w.length:Int)) λq=>bnd (Xd f.w q.1) λh=>some (h,q.2))else bnd (Qaj N e.2 (if 6<(f.w.length:Int)then 6 else(f.w.length:Int))) λg=>bnd (Xd f.w (wI ((wI ((f.w.length:Int)-1))-g.1))) λj=>some (j,g.2)) λr=>bif (e.1==2)then r true else jn (λ(z:Bool)=>r z) λs=>bif (e.1==3)then s true else s (e.1==4)
def QcW(N:Nat)(v:Io)(G:IB):Option (Ow×IB):=bnd (Qaj N G 32) λo=>bnd (Xd [1,1,2,2,3,4,5,6,7,7,8,8,9,9,9,10,11,12,12,13,14,15,16,17,18,19,19,20,20,0,0,21] o.1) λe=>bif (e==1)then(bnd (Qaj N o.2 4) λw=>grd (0<=(wU w.1)) <| bnd (Qaj N w.2 (Ke .i64 1 (wU w.1))) λz=>some ((Ow.mk e (wU w.1) (wU z.1) 0),z.2))else jn (λ(H:Bool)=>bif H then(bnd (Qaj N o.2 4) λA=>bnd (Qaj N A.2 9) λx=>bif (x.1==0)then(bnd (Qaj N x.2 70) λB=>some ((Ow.mk e (wU B.1) 0 0),B.2))else some ((Ow.mk e (wU A.1) 0 0),x.2))else bif (e==17)then(bnd (Qaj N o.2 9) λD=>some ((Ow.mk e (wU D.1) 0 0),D.2))else bnd (Qb0 N v o.2) λg=>bnd (Qaj N g.2 4) λp=>bnd (Qaj N p.2 1000) λh=>jn (λ(q:List Int) (r s:Int)=>bif (e==10)then(bnd (Qb0 N v (IB.mk q r)) λu=>some ((Ow.mk e g.1 u.1 s),u.2))else some ((Ow.mk e g.1 (wU p.1) s),(IB.mk q r))) λy=>bif (e==9)then(bnd (Qb0 N v h.2) λj=>y j.2.L j.2.at_ j.1)else bnd (Qaj N h.2 9) λf=>bif (f.1==0)then(bnd (Qb0 N v f.2) λk=>y k.2.L k.2.at_ k.1)else y f.2.L f.2.at_ (wU h.1)) λE=>bif (e==2)then E true else E (e==3)
def Qgb(N:Nat)(J:Int):Nat->Int->(List Int)->Int->Int->Int->(List Int)->(List Wp)->Int->Int->(List UH)->(List UX)->(List Int)->(List W6)->(List W6)->(List UB)->(List Int)->Int->Int->(List UY)->(List UH)->(List UX)->(List Int)->(List W6)->(List W6)->(List IC)->(List Int)->(List Int)->Option (Int×Int×List Int×List Wp×Int×Int×List UH×List UX×List Int×List W6×List W6×List UB×List Int×Int×Int×List UY×List UH×List UX×List Int×List W6×List W6×List IC×List Int×List Int)
 |0,_,_,_,_,_,_,_,_,_,_,_,_,_,_,_,_,_,_,_,_,_,_,_,_,_,_,_=>none
 |n+1,K,M,O,H,v6,v7,v8,v9,v10,v11,j,v13,k,v15,o,v17,v18,v19,v20,q,r,u,y,A,B,D,E=>
  bif (decide (K<J))then(bnd (Qgh N (IB.mk M O)) λI=>
   bif (!I)then(bnd (QcW N (Io.mk (Uj.mk (Wh.mk (WP.mk H v6) v7 v8 v9 v10) (Wq.mk v11 j v13) (WD.mk k) (WD.mk v15) o v17) (WO.mk (WP.mk v18 v19) v20 (Wq.mk q r u) (WD.mk y) (WD.mk A) B D) E) (IB.mk M O)) λG=>
    bnd (QbT N (Io.mk (Uj.mk (Wh.mk (WP.mk H v6) v7 v8 v9 v10) (Wq.mk v11 j v13) (WD.mk k) (WD.mk v15) o v17) (WO.mk (WP.mk v18 v19) v20 (Wq.mk q r u) (WD.mk y) (WD.mk A) B D) E) G.1) λf=>
    Qgb N J n (wI (K+1)) G.2.L G.2.at_ f.1.N.h.c.W f.1.N.h.c.p f.1.N.h.w f.1.N.h.p f.1.N.h.s f.1.N.h.b f.1.N.l.S f.1.N.l.x f.1.N.l.i f.1.N.g.e f.1.N.v.e f.1.N.P f.1.N.R f.1.z.c.W f.1.z.c.p f.1.z.T f.1.z.l.S f.1.z.l.x f.1.z.l.i f.1.z.g.e f.1.z.v.e f.1.z.m f.1.z.R f.1.w)
   else some (H,v6,v7,v8,v9,v10,v11,j,v13,k,v15,o,v17,v18,v19,v20,q,r,u,y,A,B,D,E))
  else some (H,v6,v7,v8,v9,v10,v11,j,v13,k,v15,o,v17,v18,v19,v20,q,r,u,y,A,B,D,E)
def Qhv(N:Nat)(k:List Int)(o:Int):Option Io:=bnd (Qbi N (IB.mk k 0)) λj=>bnd (Qgb N o N 0 j.2.L j.2.at_ j.1.N.h.c.W j.1.N.h.c.p j.1.N.h.w j.1.N.h.p j.1.N.h.s j.1.N.h.b j.1.N.l.S j.1.N.l.x j.1.N.l.i j.1.N.g.e j.1.N.v.e j.1.N.P j.1.N.R j.1.z.c.W j.1.z.c.p j.1.z.T j.1.z.l.S j.1.z.l.x j.1.z.l.i j.1.z.g.e j.1.z.v.e j.1.z.m j.1.z.R j.1.w) λf=>some (Io.mk (Uj.mk (Wh.mk (WP.mk f.1 f.2.1) f.2.2.1 f.2.2.2.1 f.2.2.2.2.1 f.2.2.2.2.2.1) (Wq.mk f.2.2.2.2.2.2.1 f.2.2.2.2.2.2.2.1 f.2.2.2.2.2.2.2.2.1) (WD.mk f.2.2.2.2.2.2.2.2.2.1) (WD.mk f.2.2.2.2.2.2.2.2.2.2.1) f.2.2.2.2.2.2.2.2.2.2.2.1 f.2.2.2.2.2.2.2.2.2.2.2.2.1) (WO.mk (WP.mk f.2.2.2.2.2.2.2.2.2.2.2.2.2.1 f.2.2.2.2.2.2.2.2.2.2.2.2.2.2.1) f.2.2.2.2.2.2.2.2.2.2.2.2.2.2.2.1 (Wq.mk f.2.2.2.2.2.2.2.2.2.2.2.2.2.2.2.2.1 f.2.2.2.2.2.2.2.2.2.2.2.2.2.2.2.2.2.1 f.2.2.2.2.2.2.2.2.2.2.2.2.2.2.2.2.2.2.1) (WD.mk f.2.2.2.2.2.2.2.2.2.2.2.2.2.2.2.2.2.2.2.1) (WD.mk f.2.2.2.2.2.2.2.2.2.2.2.2.2.2.2.2.2.2.2.2.1) f.2.2.2.2.2.2.2.2.2.2.2.2.2.2.2.2.2.2.2.2.2.1 f.2.2.2.2.2.2.2.2.2.2.2.2.2.2.2.2.2.2.2.2.2.2.1) f.2.2.2.2.2.2.2.2.2.2.2.2.2.2.2.2.2.2.2.2.2.2.2)
def QfL(N:Nat)(e:W6):Option Bool:=bif (decide (e.G<1))then some true else bif (decide (e.G>4294967295))then some true else bif (!e.V)then some (e.a != 0)else some false
def Qan(N:Nat)(f:List W6):Nat->Int->Option (Ex Int Unit)
 |0,_=>none
 |n+1,e=>
  bif (decide (e<(f.length:Int)))then(bnd (Xd f e) λg=>
   bnd (QfL N g) λh=>
   bif h then some (.ret e)
   else Qan N f n (wI (e+1)))
  else some (.nxt ())
def QaS(N:Nat)(f:List W6):Option Int:=bnd (Qan N f N 0) λe=>exK e (λr=>some r) λg=>some (-1)
def QaI(N:Nat)(e:List W6):Option Bool:=bnd (QaS N e) λf=>some (decide (f>=0))
def QdI(N:Nat)(f:WD):Option Bool:=bif (decide ((f.e.length:Int)<=64))then(bnd (QaI N f.e) λg=>some (!g))else some false
def Qd1(N:Nat)(f:WD):Nat->Int->(List Int)->Option (List Int)
 |0,_,_=>none
 |n+1,g,h=>
  bif (decide (g<(f.e.length:Int)))then(bnd (Xd f.e g) λj=>
   bif j.V then(grd ((h.length+1)*8<=140737488355328) <|
    Qd1 N f n (wI (g+1)) (h++[j.a]))
   else Qd1 N f n (wI (g+1)) h)
  else some h
def QdJ(N:Nat)(e:WD):Option (List Int):=bnd (QdI N e) λf=>bif (!f)then some []else bnd (Qd1 N e N 0 []) λg=>some g
def Qa2(N:Nat)(f:IN):Nat->Int->Int->Option (Ex Bool Unit)
 |0,_,_=>none
 |n+1,h,g=>
  bif (decide (g<(f.l.x.length:Int)))then(bnd (Xd f.l.x g) λe=>
   bif (g==0)then(bif (e.O != 0)then some (.ret false)
    else bif (!e.B0)then some (.ret false)
    else bif (decide (e.O<h))then some (.ret false)
    else bif (decide (e.O>(f.l.S.length:Int)))then some (.ret false)
    else bif (decide (e.C0<0))then some (.ret false)
    else bif (decide (e.C0>64))then some (.ret false)
    else Qa2 N f n e.O (wI (g+1)))
   else bif (decide (e.O<h))then some (.ret false)
   else bif (decide (e.O>(f.l.S.length:Int)))then some (.ret false)
   else bif (decide (e.C0<0))then some (.ret false)
   else bif (decide (e.C0>64))then some (.ret false)
   else Qa2 N f n e.O (wI (g+1)))
  else some (.nxt ())
def Qdr(N:Nat)(f:IN):Option Bool:=jn (λ(_:Unit)=>bnd (Qa2 N f N 0 0) λe=>exK e (λr=>some r) λh=>some true) λg=>bif (decide ((f.l.x.length:Int)>64))then some false else bif ((f.l.x.length:Int)==0)then(bif (decide ((f.l.S.length:Int)>0))then some false else g ())else g ()
def Qba(N:Nat)(f:IN):Nat->Int->Int->Option (Ex Bool Unit)
 |0,_,_=>none
 |n+1,h,g=>
  bif (decide (g<(f.l.S.length:Int)))then(bnd (Xd f.l.S g) λe=>
   bif (decide (e.J<=h))then some (.ret false)
   else bif (decide (e.J>(f.l.i.length:Int)))then some (.ret false)
   else bnd (Xd f.l.i (wI (e.J-1))) λj=>
   bif (j != g)then some (.ret false)
   else bif (e.V==(e.a==0))then some (.ret false)
   else Qba N f n e.J (wI (g+1)))
  else some (.nxt ())
def Qde(N:Nat)(f:IN):Option Bool:=bnd (Qba N f N 0 0) λe=>exK e (λr=>some r) λg=>some true
def QdQ(N:Nat)(e:IN)(f:Int):Option (List UH):=bif (decide ((wI (f+1))<(e.l.x.length:Int)))then(bnd (Xd e.l.x f) λg=>bnd (Xd e.l.x (wI (f+1))) λh=>grd (0<=g.O/\g.O<=h.O/\h.O<=(e.l.S.length:Int)) <| some ((e.l.S.drop g.O.toNat).take (h.O.toNat-g.O.toNat)))else bnd (Xd e.l.x f) λj=>grd (0<=j.O/\j.O<=(e.l.S.length:Int)/\(e.l.S.length:Int)<=(e.l.S.length:Int)) <| some (e.l.S.drop j.O.toNat)
def QbO(N:Nat)(e:List UH):Nat->Int->Int->Option Int
 |0,_,_=>none
 |n+1,g,f=>
  bif (decide (f<(e.length:Int)))then(bnd (Xd e f) λh=>
   bif h.V then QbO N e n (wI (g+1)) (wI (f+1))
   else QbO N e n g (wI (f+1)))
  else some g
def Qeb(N:Nat)(e:IN)(f:Int):Option Int:=bnd (QdQ N e f) λg=>bnd (QbO N g N 0 0) λh=>some h
def QfM(N:Nat)(e:Int):Option Bool:=bif (decide (e<0))then some true else some (decide (e>=4096))
def QaE(N:Nat)(f:List Int):Nat->Int->Option (Ex Int Unit)
 |0,_=>none
 |n+1,e=>
  bif (decide (e<(f.length:Int)))then(bnd (Xd f e) λg=>
   bnd (QfM N g) λh=>
   bif h then some (.ret e)
   else QaE N f n (wI (e+1)))
  else some (.nxt ())
def QbV(N:Nat)(f:List Int):Option Int:=bnd (QaE N f N 0) λe=>exK e (λr=>some r) λg=>some (-1)
def Qbw(N:Nat)(e:List Int):Option Bool:=bnd (QbV N e) λf=>some (decide (f>=0))
def QdB(N:Nat)(e:Wq):Nat->Int->Option (Ex Bool Unit)
 |0,_=>none
 |n+1,f=>
  bif (decide (f<(e.x.length:Int)))then(bnd (Xd e.x f) λg=>
   bnd (Qeb N (IN.mk e) f) λh=>
   bif (decide (h>g.C0))then some (.ret false)
   else QdB N e n (wI (f+1)))
  else some (.nxt ())
def Qet(N:Nat)(f:Wq):Option Bool:=bif (decide ((f.i.length:Int)>4096))then some false else bnd (Qbw N f.i) λg=>bif g then some false else bnd (Qdr N (IN.mk f)) λh=>bif (!h)then some false else bnd (Qde N (IN.mk f)) λj=>bif (!j)then some false else bnd (QdB N f N 0) λe=>exK e (λr=>some r) λk=>some true
def Qd2(N:Nat)(e:Wq):Nat->Int->(List Int)->Option (List Int)
 |0,_,_=>none
 |n+1,f,g=>
  bif (decide (f<(e.S.length:Int)))then(bnd (Xd e.S f) λh=>
   bif h.V then(grd ((g.length+1)*8<=140737488355328) <|
    Qd2 N e n (wI (f+1)) (g++[h.a]))
   else Qd2 N e n (wI (f+1)) g)
  else some g
def QfB(N:Nat)(e:Wq):Option (List Int):=bnd (Qet N e) λf=>bif (!f)then some []else bnd (Qd2 N e N 0 []) λg=>some g
def Qbs(N:Nat)(e:Int):Option (List Int):=bif (decide (e<0))then none else bif (decide ((wI (e-(wI 0)))>0))then(grd (0=0/\0=0) <| grd (0<=(wI (e-(wI 0)))/\(wI (e-(wI 0))).toNat*8<=140737488355328) <| grd ((wI (e-(wI 0))).toNat*8<=140737488355328) <| grd (0<=0/\0<=0/\0<=(((wI (e-(wI 0))).toNat:Nat):Int)) <| some ((List.replicate (wI (e-(wI 0))).toNat (0:Int)).take 0))else some []
def QaV(N:Nat)(e:List (List Int)):Nat->Int->Int->Option Int
 |0,_,_=>none
 |n+1,f,g=>
  bif (decide (g<(e.length:Int)))then(bnd (Xd e g) λh=>
   bif (decide ((wI (f+(h.length:Int)))<0))then none
   else QaV N e n (wI (f+(h.length:Int))) (wI (g+1)))
  else some f
def QaW(N:Nat)(e:List (List Int)):Nat->Int->(List Int)->Option (List Int)
 |0,_,_=>none
 |n+1,v6,v7=>
  bif (decide (v6<(e.length:Int)))then(bnd (Xd e v6) λf=>
   grd ((v7.length+f.length)*8<=140737488355328) <|
   QaW N e n (wI (v6+1)) (v7++f))
  else some v7
def QaR(N:Nat)(e:List (List Int)):Option (List Int):=bnd (QaV N e N 0 0) λf=>bnd (Qbs N f) λg=>bnd (QaW N e N 0 g) λh=>some h
def Qgm(N:Nat)(e:List (List Int)):Option (List Int):=bnd (QaR N e) λf=>some f
def QeM(N:Nat)(e:Uj):Nat->Int->(List Int)->Option (List Int)
 |0,_,_=>none
 |n+1,f,g=>
  bif (decide (f<(e.P.length:Int)))then(bnd (Xd e.P f) λh=>
   grd ((g.length+1)*8<=140737488355328) <|
   QeM N e n (wI (f+1)) (g++[h.a]))
  else some g
def Qhm(N:Nat)(e:Uj):Option (List Int):=bnd (QeM N e N 0 []) λf=>some f
def Qgn(N:Nat)(e:Uj):Option (List Int):=bnd (QfB N e.l) λf=>bnd (QdJ N e.g) λh=>bnd (Qhm N e) λj=>bnd (Qgm N [e.R,f,h,j]) λk=>some k
def Qb1(N:Nat)(e:WP):Option Bool:=bif (decide (e.W>=16))then(bif (decide (e.W<=64))then(bif ((e.W.tmod 4)==0)then(bif (decide (e.p>=8))then some (decide (e.p<=64))else some false)else some false)else some false)else some false
def QeZ(N:Nat)(e:WP):Option Int:=bnd (Qb1 N e) λf=>bif (!f)then some 0 else some (wI (e.W.tdiv 4))
def Qe0(N:Nat)(e:WP)(f:Int):Option Int:=bnd (Qb1 N e) λg=>bif (!g)then some (-1)else bif (decide (f<1))then some (-1)else bif (decide (f>(wI (4*e.W))))then some (-1)else bnd (QeZ N e) λh=>bif (decide (f<=h))then some 0 else grd (e.W≠0) <| some (wI ((wI ((wI (f+e.W))-1)).tdiv e.W))
def Qf4(N:Nat)(e:Wp)(f:WP):Option Bool:=some ((e.k==0)&&((e.s==0)&&((e.u==0)&&(e.P==0))))
def Qb6(N:Nat)(e:Wp):Option Bool:=bif (e.s==0)then some true else some (e.s==1)
def Qdi(N:Nat)(e:Wp):Option Bool:=bif (decide (e.P>=0))then some (decide (e.P<=2147483647))else some false
def QdC(N:Nat)(e:Wp)(f:WP):Option Bool:=bnd (Qb6 N e) λg=>bif g then(bnd (Qdi N e) λh=>bif h then(bif (decide (e.u>=0))then some (decide (e.u<=f.W))else some false)else some false)else some false
def QdD(N:Nat)(e:Wp)(f:WP):Option Bool:=bnd (Qb6 N e) λg=>bif g then(bnd (Qdi N e) λh=>bif h then(bnd (Qe0 N f e.u) λj=>some (decide (j>=1)))else some false)else some false
def Qff(N:Nat)(e f:Wp):Option Bool:=some ((e.k==3)&&((e.s==f.s)&&((e.u==0)&&(e.P==0))))
def Qfl(N:Nat)(g:List Wp)(e:Int)(f:Wp)(j h:Int):Nat->Int->Option (Ex Int Unit)
 |0,_=>none
 |n+1,v7=>
  bif (decide (v7<(((min ((wI (e+h)).toNat-(wI (e+1)).toNat) (g.length-(wI (e+1)).toNat)):Nat):Int)))then(bnd (Xd ((g.drop (wI (e+1)).toNat).take ((wI (e+h)).toNat-(wI (e+1)).toNat)) v7) λk=>
   bnd (Qff N k (Wp.mk j f.s f.u f.P)) λo=>
   bif (!o)then some (.ret 0)
   else Qfl N g e f j h n (wI (v7+1)))
  else some (.nxt ())
def QgL(N:Nat)(j:WP)(o:List Wp)(g:Int):Option Int:=bnd (Xd o g) λf=>jn (λ(q:Int)=>bif (q != 2)then some 1 else bnd (Qe0 N j f.u) λh=>bif (decide (h>(wI ((o.length:Int)-g))))then some 0 else grd (0<=(wI (g+1))/\(wI (g+1))<=(wI (g+h))/\(wI (g+h))<=(o.length:Int)) <| bnd (Qfl N o g f q h N 0) λe=>exK e (λr=>some r) λv=>some h) λp=>bif (decide (f.k<0))then some 0 else bif (decide (f.k>=3))then some 0 else bif (f.k==0)then(bnd (Qf4 N (Wp.mk 0 f.s f.u f.P) j) λw=>bif (!w)then some 0 else p 0)else bif (f.k==1)then(bnd (QdC N (Wp.mk 1 f.s f.u f.P) j) λx=>bif (!x)then some 0 else p 1)else bif (f.k==2)then(bnd (QdD N (Wp.mk 2 f.s f.u f.P) j) λy=>bif (!y)then some 0 else p 2)else none
def Qae(N:Nat)(e:Wh):Nat->Int->Option (Ex Bool Unit)
 |0,_=>none
 |n+1,f=>
  bif (decide (f<(e.p.length:Int)))then(bnd (QgL N e.c e.p f) λg=>
   bif (g==0)then some (.ret false)
   else Qae N e n (wI (f+g)))
  else some (.nxt ())
def Qb2(N:Nat)(f:Wh):Option Bool:=jn (λ(_:Unit)=>jn (λ(_:Unit)=>bnd (Qae N f N 0) λe=>exK e (λr=>some r) λq=>some true) λg=>bif (f.b != (-1))then(bif (decide (f.b<0))then some false else bif (decide (f.b>=(f.p.length:Int)))then some false else bnd (Xd f.p f.b) λj=>bif (j.k != 1)then some false else g ())else g ()) λh=>bnd (Qb1 N f.c) λo=>bif (!o)then some false else bif ((f.w.length:Int) != (wI (f.c.W*f.c.p)))then some false else bif ((f.p.length:Int) != f.c.p)then some false else bif (f.s != 0)then(bif (f.s != 1)then some false else h ())else h ()
def Qdj(N:Nat)(e:List UU):Nat->Int->(List Int)->Option (List Int)
 |0,_,_=>none
 |n+1,f,g=>
  bif (decide (f<(e.length:Int)))then(bnd (Xd e f) λh=>
   grd ((g.length+1)*8<=140737488355328) <|
   Qdj N e n (wI (f+1)) (g++[h.addr]))
  else some g
def Qcm(N:Nat)(e:List UU):Option (List Int):=bnd (Qdj N e N 0 []) λf=>some f
def Qfm(N:Nat)(e:Int):Nat->Int->Int->Option Int
 |0,_,_=>none
 |n+1,f,g=>
  bif (decide (g<(if 64<(if e<0 then 0 else e)then 64 else(if e<0 then 0 else e))))then Qfm N e n (bOr .u64 (Ke .u64 f 1) 1) (wI (g+1))
  else some f
def Qa9(N:Nat)(e:Int):Option Int:=bnd (Qfm N e N 0 0) λf=>some f
def Qdf(N:Nat)(e:Wy):Option Bool:=bif (decide (e.k<0))then some false else bif (decide (e.k>3))then some false else bif (decide (e.n<0))then some false else bif (decide (e.n>255))then some false else bif (e.k==1)then(jn (λ(g:Bool)=>some g) λf=>bif (decide (e.n<=32))then(bnd (Qa9 N e.n) λh=>f (decide ((wU e.Map)<=h)))else f false)else some ((e.k==e.k)&&((e.n==e.n)&&(e.Map==0)))
def Qbr(N:Nat)(e:Wy):Option Int:=bnd (Qdf N e) λf=>bif (!f)then some 0 else some (wI (e.n+1))
def Qcn(N:Nat)(e:WP)(f:Int):Option (Int×Int×Int):=bnd (Qb1 N e) λg=>bif (!g)then some (0,0,1)else bif (decide (f<4096))then some (0,0,2)else bif (decide ((wU (f-4096))>=(wU (wI (e.W*e.p)))))then some (0,0,2)else grd (e.W≠0) <| grd (e.W≠0) <| some ((wI ((wI (wU (f-4096))).tdiv e.W)),((wI (wU (f-4096))).tmod e.W),0)
def Qau(N:Nat)(j:Int)(e:List Int):Nat->Int->Int->Option (Ex (List Int×Int) Unit)
 |0,_,_=>none
 |n+1,h,f=>
  bif (decide (f<(e.length:Int)))then(bnd (Xd e f) λg=>
   bif (decide (g<1))then some (.ret ([],1))
   else bif (decide (g>h))then some (.ret ([],1))
   else Qau N j e n (wI (h-g)) (wI (f+1)))
  else some (.nxt ())
def Qav(N:Nat)(e:List Int):Nat->Int->Int->(List Int)->Option (Int×List Int)
 |0,_,_,_=>none
 |n+1,f,v6,v7=>
  bif (decide (v6<(e.length:Int)))then(bnd (Xd e v6) λg=>
   bnd (Qa9 N g) λh=>
   grd ((v7.length+1)*8<=140737488355328) <|
   grd (0<=g) <|
   Qav N e n (Yy .u64 f g) (wI (v6+1)) (v7++[(Y6 .u64 f h)]))
  else some (f,v7)
def Qc7(N:Nat)(g:Int)(h:List Int):Option (List Int×Int):=bnd (Qau N g h N 64 0) λe=>exK e (λr=>some r) λj=>bnd (Qav N h N g 0 []) λf=>bif (f.1 != 0)then some ([],2)else some (f.2,0)
def Qd3(N:Nat)(j:Int):Option (Wy×Bool):=bnd (Qc7 N j [2,2,12,32]) λe=>bif (e.2 != 0)then some ((Wy.mk 0 0 0),false)else bnd (Xd e.1 0) λk=>bif (k != 1)then some ((Wy.mk 0 0 0),false)else bnd (Xd e.1 1) λf=>bnd (Xd e.1 2) λg=>bnd (Xd e.1 3) λh=>bnd (Qdf N (Wy.mk (wI f) (wI g) (wW h))) λo=>bif (!o)then some ((Wy.mk 0 0 0),false)else some ((Wy.mk (wI f) (wI g) (wW h)),true)
def Qe8(N:Nat)(f:List Int)(e g:Int):Option (Int×Bool):=bif (decide (e<4096))then some (0,false)else bif (decide ((wU (e-4096))>(wU (f.length:Int))))then some (0,false)else some ((wI (wU (e-4096))),(decide (g<=(wI ((f.length:Int)-(wI (wU (e-4096))))))))
def Qhd(N:Nat)(f:List Int)(g:Int):Option (Int×Int):=bnd (Qe8 N f g 1) λe=>bif (!e.2)then some (0,2)else some (e.1,0)
def Qgo(N:Nat)(f:List Int)(g:Int):Option (Int×Int):=bnd (Qhd N f g) λe=>bif (e.2 != 0)then some (0,e.2)else bnd (Xd f e.1) λh=>some (h,0)
def QgD(N:Nat)(e:Wh)(f:Int):Option Int:=bnd (Qgo N e.w f) λg=>some g.1
def Qeu(N:Nat)(g:Wh)(q:Int):Option (Wy×Int):=bnd (Qb2 N g) λx=>bif (!x)then some ((Wy.mk 0 0 0),1)else bnd (Qcn N g.c q) λe=>bif (e.2.2 != 0)then some ((Wy.mk 0 0 0),e.2.2)else bnd (Xd g.p e.1) λf=>bnd (QgD N g q) λy=>bnd (Qd3 N y) λh=>bnd (Qbr N h.1) λr=>jn (λ(j:Bool)=>bif (!j)then some ((Wy.mk 0 0 0),19)else some (h.1,0)) λo=>bif (!h.2)then o false else bif (decide (e.2.1>=f.u))then o false else jn (λ(z:Bool)=>o z) λs=>bif (f.k==1)then s (decide (r<=(wI (f.u-e.2.1))))else jn (λ(A:Bool)=>s A) λv=>bif (f.k==2)then(jn (λ(B:Bool)=>v B) λw=>bif (e.2.1==0)then w (r==f.u)else w false)else v false
def Qdg(N:Nat)(e:WP)(f g:Int):Option (Int×Int):=bnd (Qb1 N e) λh=>bif (!h)then some (0,1)else bif (decide (f<0))then some (0,2)else bif (decide (f>=e.p))then some (0,2)else bif (decide (g<0))then some (0,2)else bif (decide (g>=e.W))then some (0,2)else some ((wU (4096+(wU (wI ((wI (f*e.W))+g))))),0)
def Qb3(N:Nat)(e:Wh)(k:Int)(o:Wp):Nat->Int->List UU->Option (List UU×Int)
 |0,_,_=>none
 |n+1,f,g=>
  bif (decide (f<o.u))then(bnd (Qdg N e.c k f) λh=>
   bif (h.2==0)then(bnd (Qeu N e h.1) λj=>
    bif (j.2==0)then(bnd (Qbr N j.1) λp=>
     grd ((g.length+1)*32<=140737488355328) <|
     Qb3 N e k o n (wI (f+p)) (g++[UU.mk h.1 j.1]))
    else some ([],19))
   else some ([],19))
  else some (g,0)
def QfU(N:Nat)(f:Wh)(g:Int):Option (List UU×Int):=bnd (Xd f.p g) λe=>bif (e.k != 1)then(bif (e.k != 2)then some ([],0)else Qb3 N f g e N 0 [])else Qb3 N f g e N 0 []
def Qe1(N:Nat)(e:Wh)(f:Int):Option (List Int×Int):=bnd (Qb2 N e) λh=>bif (!h)then some ([],1)else bif (decide (f<0))then some ([],2)else bif (decide (f>=(e.p.length:Int)))then some ([],2)else bnd (QfU N e f) λg=>bif (g.2 != 0)then some ([],g.2)else bnd (Qcm N g.1) λj=>some (j,0)
def Qco(N:Nat)(e:Wh)(f:Int)(g:List Int):Nat->Int->Option (Ex (Int×Bool) Unit)
 |0,_=>none
 |n+1,h=>
  bif (decide (h<(g.length:Int)))then(bnd (Xd g h) λj=>
   bnd (Qeu N e j) λo=>
   bnd (Qbr N o.1) λq=>
   bnd (QeZ N e.c) λr=>
   bnd (Xd e.p f) λs=>
   bif (s.k==1)then(bif (!(decide (q<=r)))then some (.ret (j,true))
    else bnd (Xd e.p f) λu=>
    bif (u.k==2)then(bif (o.1.k==0)then some (.ret (j,true))
     else Qco N e f g n (wI (h+1)))
    else Qco N e f g n (wI (h+1)))
   else bnd (Xd e.p f) λv=>
   bif (v.k==2)then(bif (o.1.k==0)then some (.ret (j,true))
    else Qco N e f g n (wI (h+1)))
   else Qco N e f g n (wI (h+1)))
  else some (.nxt ())
def QfV(N:Nat)(f:Wh)(g:Int)(h:List Int):Option (Int×Bool):=bnd (Qco N f g h N 0) λe=>exK e (λr=>some r) λj=>some (0,false)
def Qac(N:Nat)(e:List Int):Option (List Int):=some e
def QgX(N:Nat)(g:List Int)(h f:Int):Option (List Int×Int):=bif (decide (f<0))then some ([],1)else bnd (Qe8 N g h f) λe=>bif (!e.2)then some ([],2)else grd (0<=e.1/\e.1<=(wI (e.1+f))/\(wI (e.1+f))<=(g.length:Int)) <| bnd (Qac N ((g.drop e.1.toNat).take ((wI (e.1+f)).toNat-e.1.toNat))) λj=>some (j,0)
def QeN(N:Nat)(f:Wh):Nat->Int->Option Int
 |0,_=>none
 |n+1,e=>
  bif (decide (e>0))then(bnd (Xd f.p e) λg=>
   bif (g.k==3)then QeN N f n (wI (e-1))
   else some e)
  else some e
def QgY(N:Nat)(e:Wh)(f:Int):Option Int:=bnd (QeN N e N f) λg=>some g
def QgZ(N:Nat)(e:Int):Option Bool:=some (e != 0)
def Qaw(N:Nat)(f:List Int):Nat->Int->Option (Ex Int Unit)
 |0,_=>none
 |n+1,e=>
  bif (decide (e<(f.length:Int)))then(bnd (Xd f e) λg=>
   bnd (QgZ N g) λh=>
   bif h then some (.ret e)
   else Qaw N f n (wI (e+1)))
  else some (.nxt ())
def Qbl(N:Nat)(f:List Int):Option Int:=bnd (Qaw N f N 0) λe=>exK e (λr=>some r) λg=>some (-1)
def Qd4(N:Nat)(o:Wh)(e:Int×Int)(h:List Int×Int):Nat->Int->(List Int)->Option (List Int)
 |0,_,_=>none
 |n+1,j,v6=>
  bif (decide (j<(h.1.length:Int)))then(bnd (Xd h.1 j) λf=>
   bnd (Qeu N o f) λp=>
   jn (λ(g:Int)=>
    grd (v6.length<=140737488355328) <|
    grd (v6.length<=140737488355328) <|
    grd (0<=(if(v6.length:Int)<(if(wI ((wI f)-(wI e.1)))<0 then 0 else(wI ((wI f)-(wI e.1))))then(v6.length:Int)else(if(wI ((wI f)-(wI e.1)))<0 then 0 else(wI ((wI f)-(wI e.1)))))/\(if(v6.length:Int)<(if(wI ((wI f)-(wI e.1)))<0 then 0 else(wI ((wI f)-(wI e.1))))then(v6.length:Int)else(if(wI ((wI f)-(wI e.1)))<0 then 0 else(wI ((wI f)-(wI e.1)))))<=(if(v6.length:Int)<(if(wI ((wI ((wI f)-(wI e.1)))+g))<0 then 0 else(wI ((wI ((wI f)-(wI e.1)))+g)))then(v6.length:Int)else(if(wI ((wI ((wI f)-(wI e.1)))+g))<0 then 0 else(wI ((wI ((wI f)-(wI e.1)))+g))))/\(if(v6.length:Int)<(if(wI ((wI ((wI f)-(wI e.1)))+g))<0 then 0 else(wI ((wI ((wI f)-(wI e.1)))+g)))then(v6.length:Int)else(if(wI ((wI ((wI f)-(wI e.1)))+g))<0 then 0 else(wI ((wI ((wI f)-(wI e.1)))+g))))<=(v6.length:Int)) <|
    Qd4 N o e h n (wI (j+1)) (((v6.take (if(v6.length:Int)<(if(wI ((wI f)-(wI e.1)))<0 then 0 else(wI ((wI f)-(wI e.1))))then(v6.length:Int)else(if(wI ((wI f)-(wI e.1)))<0 then 0 else(wI ((wI f)-(wI e.1))))).toNat)++(List.replicate ((if(v6.length:Int)<(if(wI ((wI ((wI f)-(wI e.1)))+g))<0 then 0 else(wI ((wI ((wI f)-(wI e.1)))+g)))then(v6.length:Int)else(if(wI ((wI ((wI f)-(wI e.1)))+g))<0 then 0 else(wI ((wI ((wI f)-(wI e.1)))+g)))).toNat-(if(v6.length:Int)<(if(wI ((wI f)-(wI e.1)))<0 then 0 else(wI ((wI f)-(wI e.1))))then(v6.length:Int)else(if(wI ((wI f)-(wI e.1)))<0 then 0 else(wI ((wI f)-(wI e.1))))).toNat) (0:Int)))++(v6.drop ((if(v6.length:Int)<(if(wI ((wI f)-(wI e.1)))<0 then 0 else(wI ((wI f)-(wI e.1))))then(v6.length:Int)else(if(wI ((wI f)-(wI e.1)))<0 then 0 else(wI ((wI f)-(wI e.1))))).toNat+((if(v6.length:Int)<(if(wI ((wI ((wI f)-(wI e.1)))+g))<0 then 0 else(wI ((wI ((wI f)-(wI e.1)))+g)))then(v6.length:Int)else(if(wI ((wI ((wI f)-(wI e.1)))+g))<0 then 0 else(wI ((wI ((wI f)-(wI e.1)))+g)))).toNat-(if(v6.length:Int)<(if(wI ((wI f)-(wI e.1)))<0 then 0 else(wI ((wI f)-(wI e.1))))then(v6.length:Int)else(if(wI ((wI f)-(wI e.1)))<0 then 0 else(wI ((wI f)-(wI e.1))))).toNat))))) λq=>
   bif (p.1.k != 0)then(bnd (Qbr N p.1) λr=>
    q r)
   else q 1)
  else some v6
def Qgp(N:Nat)(f:Wh)(j:Int):Option (Int×Bool):=bnd (Qdg N f.c j 0) λg=>bnd (QgX N f.w g.1 f.c.W) λk=>bnd (QgY N f j) λo=>bnd (Qe1 N f o) λp=>bnd (Qd4 N f g p N 0 k.1) λh=>bnd (Qbl N h) λe=>some ((wU (g.1+(wU (if e<0 then 0 else e)))),(decide (e>=0)))
def Qa5(N:Nat)(f:Wh):Nat->Int->Option (Ex Un Unit)
 |0,_=>none
 |n+1,e=>
  bif (decide (e<(f.p.length:Int)))then(bnd (Xd f.p e) λg=>
   jn (λ(_:Unit)=>
    bnd (Qe1 N f e) λh=>
    bif (h.2 != 0)then some (.ret (Un.mk 3 e 0))
    else bnd (QfV N f e h.1) λj=>
    bif j.2 then some (.ret (Un.mk 5 e j.1))
    else bnd (Qgp N f e) λo=>
    bif o.2 then some (.ret (Un.mk 4 e o.1))
    else Qa5 N f n (wI (e+1))) λq=>
   bif (g.k != 0)then(bif (g.s != f.s)then some (.ret (Un.mk 2 e 0))
    else q ())
   else q ())
  else some (.nxt ())
def Qgy(N:Nat)(f:Wh):Option Un:=bnd (Qa5 N f N 0) λe=>exK e (λr=>some r) λg=>some (Un.mk 0 0 0)
def QfW(N:Nat)(f:Wh):Nat->Int->(List UU)->Option (Ex (List UU×Int) (List UU))
 |0,_,_=>none
 |n+1,g,h=>
  bif (decide (g<(f.p.length:Int)))then(bnd (QfU N f g) λe=>
   bif (e.2 != 0)then some (.ret ([],e.2))
   else grd ((h.length+e.1.length)*32<=140737488355328) <|
   QfW N f n (wI (g+1)) (h++e.1))
  else some (.nxt h)
def Qht(N:Nat)(f:Wh):Option (List UU×Int):=bnd (Qb2 N f) λg=>bif (!g)then some ([],1)else bnd (QfW N f N 0 []) λe=>exK e (λr=>some r) λh=>some (h,0)
def Qew(N:Nat)(e:UU):Option Bool:=some (e.hd.k==0)
def Qak(N:Nat)(f:List UU):Nat->Int->Option (Ex Int Unit)
 |0,_=>none
 |n+1,e=>
  bif (decide (e<(f.length:Int)))then(bnd (Xd f e) λg=>
   bnd (Qew N g) λh=>
   bif h then some (.ret e)
   else Qak N f n (wI (e+1)))
  else some (.nxt ())
def Qas(N:Nat)(f:List UU):Option Int:=bnd (Qak N f N 0) λe=>exK e (λr=>some r) λg=>some (-1)
def Qcv(N:Nat):Nat->Int->Int->(List UU)->Option (Int×List UU)
 |0,_,_,_=>none
 |n+1,f,g,e=>
  grd (e.length<=140737488355328) <|
  bif (decide (g<(e.length:Int)))then(bnd (Xd e g) λh=>
   bnd (Qew N h) λj=>
   bif (!j)then(bnd (Xd e f) λk=>
    Qcv N n (wI (f+1)) (wI (g+1)) (e.set f.toNat h))
   else Qcv N n f (wI (g+1)) e)
  else some (f,e)
def QdR(N:Nat)(k:Wh):Option (List Int×Int):=bnd (Qht N k) λf=>bif (f.2 != 0)then some ([],f.2)else bnd (Qas N f.1) λg=>bif (g==(-1))then(bnd (Qcm N f.1) λh=>some (h,0))else bnd (Qcv N N g (wI (g+1)) f.1) λe=>grd (0<=e.1/\e.1<=(e.2.length:Int)/\(e.2.length:Int)<=(e.2.length:Int)) <| grd (0<=e.1/\e.1<=(((((min e.1.toNat e.2.length)+(e.2.length-e.1.toNat))+(e.2.length-(e.1.toNat+(e.2.length-e.1.toNat)))):Nat):Int)) <| bnd (Qcm N ((((e.2.take e.1.toNat)++(List.replicate (e.2.length-e.1.toNat) (UU.mk 0 (Wy.mk 0 0 0))))++(e.2.drop (e.1.toNat+(e.2.length-e.1.toNat)))).take e.1.toNat)) λj=>some (j,0)
def QeB(N:Nat)(e:Int):Option Bool:=some (e != e)
def Qf5(N:Nat)(e f:Int):Option Bool:=bnd (QeB N e) λg=>bif g then(bnd (QeB N f) λh=>bif (!h)then some true else some (decide (e<f)))else some (decide (e<f))
def Qds(N:Nat)(e:Int):Option Bool:=some (e != e)
def Qaq(N:Nat)(g:List Int)(h:Int):Nat->Int->Int->Option Int
 |0,_,_=>none
 |n+1,e,f=>
  bif (decide (e<f))then(bnd (Xd g (wI (Yy .u64 (wU (wI (e+f))) 1))) λj=>
   bnd (Qf5 N j h) λk=>
   bif k then Qaq N g h n (wI ((wI (Yy .u64 (wU (wI (e+f))) 1))+1)) f
   else Qaq N g h n e (wI (Yy .u64 (wU (wI (e+f))) 1)))
  else some e
def Qaz(N:Nat)(f:List Int)(g:Int):Option (Int×Bool):=bnd (Qaq N f g N 0 (f.length:Int)) λe=>bif (decide (e<(f.length:Int)))then(bnd (Xd f e) λh=>bif (h==g)then some (e,true)else bnd (Xd f e) λj=>bnd (Qds N j) λk=>bif k then(bnd (Qds N g) λo=>some (e,o))else some (e,false))else some (e,false)
def Qfn(N:Nat)(e:Wy)(f:Int):Option Bool:=bnd (Qdf N e) λg=>bif (!g)then some false else bif (decide (f<0))then some false else bif (decide (f>=e.n))then some false else bif (e.k==2)then some true else bif (e.k==1)then(grd (0<=f) <| some ((Y6 .u32 (Yy .u32 e.Map f) 1)==1))else some false
def Qcd(N:Nat)(g:Wy)(h:Int):Nat->Int->(List Int)->Option (List Int)
 |0,_,_=>none
 |n+1,e,f=>
  bif (decide (e<h))then(bnd (Qfn N g e) λj=>
   bif j then(grd ((f.length+1)*8<=140737488355328) <|
    Qcd N g h n (wI (e+1)) (f++[e]))
   else Qcd N g h n (wI (e+1)) f)
  else some f
def QdU(N:Nat)(e:Wy):Option (List Int):=bnd (Qbr N e) λf=>bnd (Qcd N e f N 0 []) λg=>some g
def QaP(N:Nat)(g:Wh)(h:List Int×Int)(j e:Int)(f:List Int):Nat->Int->Option (Ex Int Unit)
 |0,_=>none
 |n+1,v6=>
  bif (decide (v6<(f.length:Int)))then(bnd (Xd f v6) λk=>
   bnd (Qgo N g.w (wU ((wU (e+1))+(wU k)))) λo=>
   bnd (Qaz N h.1 o.1) λp=>
   bif (o.1 != 0)then(bif (!p.2)then some (.ret (wU ((wU (e+1))+(wU k))))
    else QaP N g h j e f n (wI (v6+1)))
   else QaP N g h j e f n (wI (v6+1)))
  else some (.nxt ())
def Qct(N:Nat)(h:Wh)(f:List Int×Int):Nat->Int->Option Int
 |0,_=>none
 |n+1,g=>
  bif (decide (g<(f.1.length:Int)))then(bnd (Xd f.1 g) λk=>
   bnd (Qeu N h k) λo=>
   bnd (QdU N o.1) λp=>
   bnd (QaP N h f g k p N 0) λe=>exK e (λj=>some j) λq=>
   Qct N h f n (wI (g+1)))
  else some 0
def Qfo(N:Nat)(f:Wh):Option Un:=bnd (QdR N f) λh=>bnd (Qct N f h N 0) λe=>bif (e==0)then some (Un.mk 0 0 0)else bnd (Qcn N f.c e) λg=>some (Un.mk 6 g.1 e)
def Qcp(N:Nat)(e:Wh):Nat->Int->Int->Option Int
 |0,_,_=>none
 |n+1,g,f=>
  bif (decide (f<(e.p.length:Int)))then(bnd (Xd e.p f) λh=>
   bif (h.k==1)then(bif (decide (h.P>0))then Qcp N e n (wI (g+1)) (wI (f+1))
    else Qcp N e n g (wI (f+1)))
   else Qcp N e n g (wI (f+1)))
  else some g
def Qhe(N:Nat)(e:Wh):Option Un:=bnd (Qb2 N e) λh=>bif (!h)then some (Un.mk 1 0 0)else bnd (Qgy N e) λf=>bif (!((f.Fault==0)&&((f.Page==0)&&(f.Addr==0))))then some f else bnd (Qfo N e) λg=>bif (!((g.Fault==0)&&((g.Page==0)&&(g.Addr==0))))then some g else bnd (Qcp N e N 0 0) λj=>bif (decide (j>(wI (e.c.p.tdiv 4))))then some (Un.mk 7 0 0)else some (Un.mk 0 0 0)
def QfC(N:Nat)(f:Wh):Option Bool:=bnd (Qhe N f) λe=>some ((e.Fault==0)&&((e.Page==0)&&(e.Addr==0)))
def Qfg(N:Nat)(e:UB)(f:Int):Option Bool:=some (e.a==f)
def Qap(N:Nat)(f:List UB)(c0:Int):Nat->Int->Option (Ex Int Unit)
 |0,_=>none
 |n+1,e=>
  bif (decide (e<(f.length:Int)))then(bnd (Xd f e) λg=>
   bnd (Qfg N g c0) λh=>
   bif h then some (.ret e)
   else Qap N f c0 n (wI (e+1)))
  else some (.nxt ())
def Qa6(N:Nat)(f:List UB)(c0:Int):Option Int:=bnd (Qap N f c0 N 0) λe=>exK e (λr=>some r) λg=>some (-1)
def QfN(N:Nat)(e:List UB)(f:Int):Option Int:=bnd (Qa6 N e f) λg=>some g
def Qce(N:Nat)(f:List UB)(k:Wh)(o:List Int×Int):Nat->Int->(List Int)->Option (Ex (List Int×Bool) (List Int))
 |0,_,_=>none
 |n+1,g,h=>
  bif (decide (g<(f.length:Int)))then(bnd (Xd f g) λe=>
   bnd (Qaz N o.1 e.a) λp=>
   bif (!p.2)then some (.ret ([],false))
   else bif (decide (e.M<1))then some (.ret ([],false))
   else bif (decide (e.M>1000))then some (.ret ([],false))
   else bnd (QfN N f e.a) λq=>
   bif (q != g)then some (.ret ([],false))
   else bnd (Qcn N k.c e.a) λj=>
   bnd (Xd h j.1) λr=>
   bnd (Xd h j.1) λs=>
   Qce N f k o n (wI (g+1)) (h.set j.1.toNat (wI (r+e.M))))
  else some (.nxt h)
def Qf6(N:Nat)(h:List UB)(f:Wh):Option (List Int×Bool):=bnd (QdR N f) λj=>grd (0<=(f.p.length:Int)/\(f.p.length:Int).toNat*8<=140737488355328) <| bnd (Qce N h f j N 0 (List.replicate (f.p.length:Int).toNat (0:Int))) λe=>exK e (λr=>some r) λg=>some (g,true)
def QeC(N:Nat)(f:Wh)(g:List Int×Bool):Nat->Int->Option (Ex Bool Unit)
 |0,_=>none
 |n+1,e=>
  bif (decide (e<(f.p.length:Int)))then(bnd (Xd f.p e) λh=>
   bnd (Xd g.1 e) λj=>
   bif (h.P != j)then some (.ret false)
   else QeC N f g n (wI (e+1)))
  else some (.nxt ())
def Qhj(N:Nat)(f:Wh)(g:List UB):Option Bool:=bnd (QfC N f) λj=>bif (!j)then some false else bif (decide ((g.length:Int)>64))then some false else bnd (Qf6 N g f) λh=>bif (!h.2)then some false else bnd (QeC N f h N 0) λe=>exK e (λr=>some r) λk=>some true
def QaA(N:Nat)(f:List Int)(g:Int):Nat->Int->Option (Ex Int Unit)
 |0,_=>none
 |n+1,e=>
  bif (decide (e<(f.length:Int)))then(bnd (Xd f e) λh=>
   bif (g==h)then some (.ret e)
   else QaA N f g n (wI (e+1)))
  else some (.nxt ())
def QbU(N:Nat)(f:List Int)(g:Int):Option Int:=bnd (QaA N f g N 0) λe=>exK e (λr=>some r) λh=>some (-1)
def Qai(N:Nat)(e:List Int)(f:Int):Option Bool:=bnd (QbU N e f) λg=>some (decide (g>=0))
def QeD(N:Nat)(e:Int)(f:List Int):Option Bool:=bnd (Qaz N f e) λg=>bif (e != 0)then some (!g.2)else some false
def Qar(N:Nat)(f c0:List Int):Nat->Int->Option (Ex Int Unit)
 |0,_=>none
 |n+1,e=>
  bif (decide (e<(f.length:Int)))then(bnd (Xd f e) λg=>
   bnd (QeD N g c0) λh=>
   bif h then some (.ret e)
   else Qar N f c0 n (wI (e+1)))
  else some (.nxt ())
def Qa8(N:Nat)(f c0:List Int):Option Int:=bnd (Qar N f c0 N 0) λe=>exK e (λr=>some r) λg=>some (-1)
def QaZ(N:Nat)(e c0:List Int):Option Bool:=bnd (Qa8 N e c0) λf=>some (decide (f>=0))
def QdS(N:Nat)(e:Wh)(f:List Int):Option Bool:=bnd (QfC N e) λg=>bif (!g)then some false else bnd (QdR N e) λh=>bnd (QaZ N f h.1) λj=>some (!j)
def Qdp(N:Nat)(e:Uj):Option Bool:=bnd (Qhj N e.h e.P) λj=>bif (!j)then some false else bnd (Qet N e.l) λk=>bif (!k)then some false else bnd (QdI N e.g) λo=>bif (!o)then some false else bnd (QdI N e.v) λp=>bif (!p)then some false else bnd (QdJ N e.g) λq=>bnd (Qai N q 0) λr=>bif r then some false else bnd (Qgn N e) λs=>bnd (QdJ N e.v) λu=>bnd (Qgm N [s,u]) λw=>bnd (QdS N e.h w) λf=>some f
def Qad(N:Nat)(e:List Wp):Option (List Wp):=some e
def Qb7(N:Nat)(e:Wh)(g:List Int×Int)(h:List Int)(f:List Wp):Nat->Int->(List Wp)->Option (List Wp)
 |0,_,_=>none
 |n+1,v6,v7=>
  bif (decide (v6<(f.length:Int)))then(bnd (Xd v7 v6) λo=>
   bif (o.k==1)then(bif (decide (o.P>0))then(bnd (Xd v7 v6) λj=>
       Qb7 N e g h f n (wI (v6+1)) (v7.set v6.toNat (Wp.mk j.k (wI (1-e.s)) j.u j.P)))
    else Qb7 N e g h f n (wI (v6+1)) v7)
   else Qb7 N e g h f n (wI (v6+1)) v7)
  else some v7
def Qex(N:Nat)(e:Wh):Option (Wu×Int):=bnd (Qb2 N e) λk=>bif (!k)then some ((Wu.mk zHp [] [] [] 0 (WS.mk 0 0 0 0 0 0)),1)else bnd (QfC N e) λo=>bif (!o)then some ((Wu.mk zHp [] [] [] 0 (WS.mk 0 0 0 0 0 0)),19)else bnd (QdR N e) λf=>bif (f.2 != 0)then some ((Wu.mk zHp [] [] [] 0 (WS.mk 0 0 0 0 0 0)),f.2)else bnd (Qac N e.w) λj=>bnd (Qad N e.p) λg=>grd (g.length<=140737488355328) <| bnd (Qb7 N e f j g N 0 g) λh=>some ((Wu.mk (Wh.mk e.c j h e.s e.b) f.1 [] [] 0 (WS.mk 0 0 0 0 0 0)),0)
def QeO(N:Nat)(f:Int):Option (Int×Bool):=bnd (Qc7 N f [2,32]) λe=>bif (e.2 != 0)then some (0,false)else bnd (Xd e.1 0) λg=>bif (g != 2)then some (0,false)else bnd (Xd e.1 1) λh=>some (h,true)
def QbL(N:Nat)(f:List Int)(g:Int):Nat->Int->Option (Ex Int Unit)
 |0,_=>none
 |n+1,e=>
  bif (decide (e<(f.length:Int)))then(bnd (Xd f e) λh=>
   bif (g==h)then some (.ret e)
   else QbL N f g n (wI (e+1)))
  else some (.nxt ())
def Qej(N:Nat)(f:List Int)(g:Int):Option Int:=bnd (QbL N f g N 0) λe=>exK e (λr=>some r) λh=>some (-1)
def Qbb(N:Nat)(e:List Int)(f:Int):Option Bool:=bnd (Qej N e f) λg=>some (decide (g>=0))
def QcX(N:Nat)(e:Wu)(f:Int):Option Bool:=jn (λ(q:Bool)=>some q) λg=>bif (decide (f<0))then g false else grd (e.h.p.length<=140737488355328) <| bif (decide (f>=(e.h.p.length:Int)))then g false else bnd (Xd e.h.p f) λo=>jn (λ(r:Bool)=>g r) λj=>bif (o.k==1)then(bif (o.s==(wI (1-e.h.s)))then(bnd (Qbb N e.t f) λu=>j (!u))else j false)else j false
def Qdq(N:Nat)(e:List Wp):Nat->Int->Int->Option Int
 |0,_,_=>none
 |n+1,g,f=>
  bif (decide (f<(e.length:Int)))then(bnd (Xd e f) λh=>
   bif (h.k != 0)then Qdq N e n (wI (g+1)) (wI (f+1))
   else Qdq N e n g (wI (f+1)))
  else some g
def Qgq(N:Nat)(e:List Wp):Option Int:=bnd (Qdq N e N 0 0) λf=>some f
def QgM(N:Nat)(h:List Wp)(e:Int)(f:List Wp):Option (List Wp×Int):=bif (decide (e<0))then some ([],2)else bif (decide (e>(wI ((h.length:Int)-(f.length:Int)))))then some ([],2)else grd (0<=e/\e<=(wI (e+(f.length:Int)))/\(wI (e+(f.length:Int)))<=(h.length:Int)) <| bnd (Qgq N ((h.drop e.toNat).take ((wI (e+(f.length:Int))).toNat-e.toNat))) λj=>bif (decide (j>0))then some ([],20)else bnd (Qad N h) λg=>grd (0<=e/\e<=(g.length:Int)/\(g.length:Int)<=(g.length:Int)) <| grd (f.length<=(g.length-e.toNat)) <| some ((((g.take e.toNat)++f)++(g.drop (e.toNat+f.length))),0)
def Qek(N:Nat)(g:List Wp)(h e:Int):Option (List Wp×Int):=bnd (Qb6 N (Wp.mk 1 e 0 0)) λj=>bif (!j)then some ([],1)else bnd (QgM N g h [(Wp.mk 1 e 0 0)]) λf=>some (f.1,f.2)
def QcI(N:Nat)(g:List Wp):Nat->Int->(List OA)->Option (List OA)
 |0,_,_=>none
 |n+1,f,e=>
  bif (decide (f<(g.length:Int)))then(bnd (Xd g f) λj=>
   grd (e.length<=140737488355328) <|
   bif (j.k != 0)then QcI N g n (wI (f+1)) e
   else jn (λ(_:Unit)=>
    grd ((e.length+1)*16<=140737488355328) <|
    QcI N g n (wI (f+1)) (e++[(OA.mk f 1)])) λh=>
   bif (decide ((wI ((e.length:Int)-1))>=0))then(bnd (Xd e (wI ((e.length:Int)-1))) λo=>
    bnd (Xd e (wI ((e.length:Int)-1))) λp=>
    bif ((wI (o.O+p.Len))==f)then(bnd (Xd e (wI ((e.length:Int)-1))) λq=>
     bnd (Xd e (wI ((e.length:Int)-1))) λr=>
     QcI N g n (wI (f+1)) (e.set (wI ((e.length:Int)-1)).toNat (OA.mk r.O (wI (q.Len+1)))))
    else h ())
   else h ())
  else some e
def Qhk(N:Nat)(e:List Wp):Option (List OA):=bnd (QcI N e N 0 []) λf=>some f
def Qd5(N:Nat)(g:Int)(e:List OA):Nat->Int->Option (Ex Int Unit)
 |0,_=>none
 |n+1,f=>
  bif (decide (f<(e.length:Int)))then(bnd (Xd e f) λh=>
   bif (decide (h.Len>=g))then some (.ret h.O)
   else Qd5 N g e n (wI (f+1)))
  else some (.nxt ())
def QdK(N:Nat)(g:List Wp)(f:Int):Option Int:=bif (decide (f<1))then some (-1)else bnd (Qhk N g) λh=>bnd (Qd5 N f h N 0) λe=>exK e (λr=>some r) λj=>some (-1)
def Qcu(N:Nat)(e:Wu)(w:Int):Option (Int×Int×Int×List Wp×List Int):=jn (λ(x y z:Int) (j:List Wp) (k:List Int)=>some (x,y,z,j,k)) λo=>grd (e.t.length<=140737488355328) <| jn (λ(_:Unit)=>bnd (QdK N e.h.p 1) λf=>bif (decide (f<0))then o 0 0 3 e.h.p e.t else bnd (Qek N e.h.p f (wI (1-e.h.s))) λq=>bif (q.2 != 0)then none else grd ((e.t.length+1)*8<=140737488355328) <| o f 0 0 q.1 (e.t++[f])) λg=>bif (decide ((e.t.length:Int)>0))then(bnd (Xd e.t (wI ((e.t.length:Int)-1))) λA=>bif (decide (A>=0))then(bnd (Xd e.t (wI ((e.t.length:Int)-1))) λB=>grd (e.h.p.length<=140737488355328) <| bif (decide (B<(e.h.p.length:Int)))then(bnd (Xd e.t (wI ((e.t.length:Int)-1))) λr=>bnd (Xd e.h.p r) λv=>bif (decide (w<=(wI (e.h.c.W-v.u))))then o r v.u 0 e.h.p e.t else g ())else g ())else g ())else g ()
def QdT(N:Nat)(e f:Int):Option Bool:=bnd (Qa9 N f) λg=>some ((XcM .u64 e g)==0)
def Qbm(N:Nat)(e:List Ik):Nat->Int->Int->Option (Ex (Int×Int) Unit)
 |0,_,_=>none
 |n+1,h,f=>
  bif (decide (f<(e.length:Int)))then(bnd (Xd e f) λg=>
   bif (decide (g.Width<1))then some (.ret (0,1))
   else bif (decide (g.Width>h))then some (.ret (0,1))
   else Qbm N e n (wI (h-g.Width)) (wI (f+1)))
  else some (.nxt ())
def Qbn(N:Nat)(f:List Ik):Nat->Int->Int->Int->Option (Ex (Int×Int) Int)
 |0,_,_,_=>none
 |n+1,g,v6,v7=>
  bif (decide (v7<(f.length:Int)))then(bnd (Xd f v7) λe=>
   bnd (QdT N e.Value e.Width) λh=>
   bif (!h)then some (.ret (0,2))
   else grd (0<=v6) <|
   Qbn N f n (bOr .u64 g (Ke .u64 e.Value v6)) (wI (v6+e.Width)) (wI (v7+1)))
  else some (.nxt g)
def Qgc(N:Nat)(g:List Ik):Option (Int×Int):=bnd (Qbm N g N 64 0) λe=>exK e (λr=>some r) λh=>bnd (Qbn N g N 0 0 0) λe=>exK e (λr=>some r) λf=>some (f,0)
def Qb4(N:Nat)(e:Int):Option (Int×Int):=bnd (Qa9 N 32) λg=>bif (decide (e>g))then some (0,1)else bnd (Qgc N [(Ik.mk 2 2),(Ik.mk 32 e)]) λf=>some (f.1,f.2)
def QbM(N:Nat)(j:Wu)(o:Int):Nat->Int->(List Wp)->Option (List Wp)
 |0,_,_=>none
 |n+1,e,v13=>
  grd (v13.length<=140737488355328) <|
  bif (decide (e<(v13.length:Int)))then(bnd (Xd v13 e) λg=>
   bif (g.k==3)then(bnd (Xd v13 e) λf=>
    QbM N j o n (wI (e+1)) (v13.set e.toNat (Wp.mk f.k (wI (1-j.h.s)) f.u f.P)))
   else some v13)
  else some v13
def Qa1(N:Nat)(e:Wu)(G:Int):Option (Int×Int×Wu):=jn (λ(R S T U:Int) (V:List Int) (Y:List Wp) (Z x47:List Int)=>some (R,S,(Wu.mk (Wh.mk e.h.c V Y e.h.s e.h.b) e.o Z x47 e.d (WS.mk T U e.r.F e.r.E e.r.f e.r.y)))) λD=>bif (G==0)then D G 0 e.r.j e.r.K e.h.w e.h.p e.t e.q else bnd (Qai N e.q G) λy1=>bif y1 then D G 0 e.r.j e.r.K e.h.w e.h.p e.t e.q else bnd (Qai N e.o G) λy2=>bif (!y2)then D 0 19 e.r.j e.r.K e.h.w e.h.p e.t e.q else bnd (Qcn N e.h.c G) λA=>bif (A.2.2 != 0)then D 0 19 e.r.j e.r.K e.h.w e.h.p e.t e.q else grd (e.h.w.length<=140737488355328) <| bif (decide (1>(wI ((e.h.w.length:Int)-(wI ((wI (A.1*e.h.c.W))+A.2.1))))))then D 0 19 e.r.j e.r.K e.h.w e.h.p e.t e.q else grd (0<=(wI ((wI (A.1*e.h.c.W))+A.2.1))/\(wI ((wI (A.1*e.h.c.W))+A.2.1))<=(wI ((wI ((wI (A.1*e.h.c.W))+A.2.1))+1))/\(wI ((wI ((wI (A.1*e.h.c.W))+A.2.1))+1))<=(e.h.w.length:Int)) <| bnd (KI e.h.w ((wI ((wI (A.1*e.h.c.W))+A.2.1)).toNat) ((wI ((wI ((wI (A.1*e.h.c.W))+A.2.1))+1)).toNat-(wI ((wI (A.1*e.h.c.W))+A.2.1)).toNat) 0) λp6=>bnd (QeO N p6) λy7=>bif y7.2 then D y7.1 0 e.r.j e.r.K e.h.w e.h.p e.t e.q else bnd (Qcn N e.h.c G) λL=>grd (e.h.p.length<=140737488355328) <| bif (decide (L.1>=(e.h.p.length:Int)))then D 0 19 e.r.j e.r.K e.h.w e.h.p e.t e.q else bnd (QcX N e L.1) λy9=>bif y9 then(grd ((e.q.length+1)*8<=140737488355328) <| D G 0 e.r.j (wI (e.r.K+1)) e.h.w e.h.p e.t (e.q++[G]))else bnd (Xd e.h.p L.1) λp10=>bif (p10.k==2)then(bnd (Xd e.h.p L.1) λI=>bnd (QbM N e G N (wI (L.1+1)) (e.h.p.set L.1.toNat (Wp.mk I.k (wI (1-e.h.s)) I.u I.P))) λy16=>grd ((e.q.length+1)*8<=140737488355328) <| D G 0 e.r.j (wI (e.r.K+1)) e.h.w y16 e.t (e.q++[G]))else bnd (KI e.h.w ((wI ((wI (A.1*e.h.c.W))+A.2.1)).toNat) ((wI ((wI ((wI (A.1*e.h.c.W))+A.2.1))+1)).toNat-(wI ((wI (A.1*e.h.c.W))+A.2.1)).toNat) 0) λp17=>bnd (Qd3 N p17) λH=>bnd (Qbr N H.1) λx=>bnd (Qcn N e.h.c G) λg=>bif (g.2.2 != 0)then(bif (!H.2)then D 0 19 e.r.j e.r.K e.h.w e.h.p e.t e.q else D 0 19 e.r.j e.r.K e.h.w e.h.p e.t e.q)else grd (e.h.w.length<=140737488355328) <| bif (decide (x>(wI ((e.h.w.length:Int)-(wI ((wI (g.1*e.h.c.W))+g.2.1))))))then(bif (!H.2)then D 0 19 e.r.j e.r.K e.h.w e.h.p e.t e.q else D 0 19 e.r.j e.r.K e.h.w e.h.p e.t e.q)else grd (0<=(wI ((wI (g.1*e.h.c.W))+g.2.1))/\(wI ((wI (g.1*e.h.c.W))+g.2.1))<=(wI ((wI ((wI (g.1*e.h.c.W))+g.2.1))+x))/\(wI ((wI ((wI (g.1*e.h.c.W))+g.2.1))+x))<=(e.h.w.length:Int)) <| bif (!H.2)then D 0 19 e.r.j e.r.K e.h.w e.h.p e.t e.q else grd (((wI ((wI ((wI (g.1*e.h.c.W))+g.2.1))+x)).toNat-(wI ((wI (g.1*e.h.c.W))+g.2.1)).toNat)<=140737488355328) <| bnd (Qcu N e ((((wI ((wI ((wI (g.1*e.h.c.W))+g.2.1))+x)).toNat-(wI ((wI (g.1*e.h.c.W))+g.2.1)).toNat):Nat):Int)) λz=>bif (z.2.2.1 != 0)then D 0 z.2.2.1 e.r.j e.r.K e.h.w z.2.2.2.1 z.2.2.2.2 e.q else jn (λ(x34 x35 x36:Int) (x37:List Int) (x38:List Wp) (x39:List Int)=>D x34 x35 x36 e.r.K x37 x38 z.2.2.2.2 x39) λM=>bnd (Qdg N e.h.c z.1 z.2.1) λB=>bif (B.2 != 0)then M 0 B.2 e.r.j e.h.w z.2.2.2.1 e.q else grd (((wI ((wI ((wI (g.1*e.h.c.W))+g.2.1))+x)).toNat-(wI ((wI (g.1*e.h.c.W))+g.2.1)).toNat)<=140737488355328) <| bnd (Qcn N e.h.c B.1) λv=>bif (v.2.2 != 0)then(bnd (Qb4 N B.1) λy28=>M 0 19 e.r.j e.h.w z.2.2.2.1 e.q)else grd (e.h.w.length<=140737488355328) <| bif (decide (((((wI ((wI ((wI (g.1*e.h.c.W))+g.2.1))+x)).toNat-(wI ((wI (g.1*e.h.c.W))+g.2.1)).toNat):Nat):Int)>(wI ((e.h.w.length:Int)-(wI ((wI (v.1*e.h.c.W))+v.2.1))))))then(bnd (Qb4 N B.1) λy29=>M 0 19 e.r.j e.h.w z.2.2.2.1 e.q)else grd (0<=(wI ((wI (v.1*e.h.c.W))+v.2.1))/\(wI ((wI (v.1*e.h.c.W))+v.2.1))<=(wI ((wI ((wI (v.1*e.h.c.W))+v.2.1))+((((wI ((wI ((wI (g.1*e.h.c.W))+g.2.1))+x)).toNat-(wI ((wI (g.1*e.h.c.W))+g.2.1)).toNat):Nat):Int)))/\(wI ((wI ((wI (v.1*e.h.c.W))+v.2.1))+((((wI ((wI ((wI (g.1*e.h.c.W))+g.2.1))+x)).toNat-(wI ((wI (g.1*e.h.c.W))+g.2.1)).toNat):Nat):Int)))<=(e.h.w.length:Int)) <| bnd (Qb4 N B.1) λO=>bif (O.2 != 0)then M 0 19 e.r.j e.h.w z.2.2.2.1 e.q else grd (((wI ((wI ((wI (g.1*e.h.c.W))+g.2.1))+x)).toNat-(wI ((wI (g.1*e.h.c.W))+g.2.1)).toNat)<=((wI ((wI ((wI (v.1*e.h.c.W))+v.2.1))+((((wI ((wI ((wI (g.1*e.h.c.W))+g.2.1))+x)).toNat-(wI ((wI (g.1*e.h.c.W))+g.2.1)).toNat):Nat):Int))).toNat-(wI ((wI (v.1*e.h.c.W))+v.2.1)).toNat)) <| bnd (KI (((e.h.w.take (wI ((wI (v.1*e.h.c.W))+v.2.1)).toNat)++((e.h.w.drop (wI ((wI (g.1*e.h.c.W))+g.2.1)).toNat).take ((wI ((wI ((wI (g.1*e.h.c.W))+g.2.1))+x)).toNat-(wI ((wI (g.1*e.h.c.W))+g.2.1)).toNat)))++(e.h.w.drop ((wI ((wI (v.1*e.h.c.W))+v.2.1)).toNat+((wI ((wI ((wI (g.1*e.h.c.W))+g.2.1))+x)).toNat-(wI ((wI (g.1*e.h.c.W))+g.2.1)).toNat)))) ((wI ((wI (g.1*e.h.c.W))+g.2.1)).toNat) ((wI ((wI ((wI (g.1*e.h.c.W))+g.2.1))+x)).toNat-(wI ((wI (g.1*e.h.c.W))+g.2.1)).toNat) 0) λp31=>bnd (Xd z.2.2.2.1 z.1) λp32=>grd (((wI ((wI ((wI (g.1*e.h.c.W))+g.2.1))+x)).toNat-(wI ((wI (g.1*e.h.c.W))+g.2.1)).toNat)<=140737488355328) <| bnd (Xd z.2.2.2.1 z.1) λJ=>grd ((e.q.length+1)*8<=140737488355328) <| M B.1 0 (wI (e.r.j+1)) ((((e.h.w.take (wI ((wI (v.1*e.h.c.W))+v.2.1)).toNat)++((e.h.w.drop (wI ((wI (g.1*e.h.c.W))+g.2.1)).toNat).take ((wI ((wI ((wI (g.1*e.h.c.W))+g.2.1))+x)).toNat-(wI ((wI (g.1*e.h.c.W))+g.2.1)).toNat)))++(e.h.w.drop ((wI ((wI (v.1*e.h.c.W))+v.2.1)).toNat+((wI ((wI ((wI (g.1*e.h.c.W))+g.2.1))+x)).toNat-(wI ((wI (g.1*e.h.c.W))+g.2.1)).toNat)))).set (wI ((wI (g.1*e.h.c.W))+g.2.1)).toNat O.1) (z.2.2.2.1.set z.1.toNat (Wp.mk J.k J.s (wI (p32.u+((((wI ((wI ((wI (g.1*e.h.c.W))+g.2.1))+x)).toNat-(wI ((wI (g.1*e.h.c.W))+g.2.1)).toNat):Nat):Int))) J.P)) (e.q++[B.1])
def QaQ(N:Nat)(e:List Int):Option (List Int):=some e
def Qd6(N:Nat)(A:List Int):Nat->Int->Int->Int->Int->Int->Int->Int->Int->Int->Int->Int->Int->(List Int)->(List Wp)->(List Int)->(List Int)->(List Int)->(List Int)->Option (Ex (Wu×List Int×Int) (Int×Int×Int×Int×Int×Int×Int×Int×Int×Int×Int×List Int×List Wp×List Int×List Int×List Int×List Int))
 |0,_,_,_,_,_,_,_,_,_,_,_,_,_,_,_,_,_,_=>none
 |n+1,v6,v7,v8,v9,v10,v11,k,v13,u,v15,v,v17,v18,v19,v20,x,z,g=>
  bif (decide (v6<(A.length:Int)))then(bnd (Xd A v6) λB=>
   bnd (Qa1 N (Wu.mk (Wh.mk (WP.mk v7 v8) v18 v19 v9 v10) v20 x z v11 (WS.mk k v13 u v15 v v17)) B) λe=>
   bif (e.2.1 != 0)then some (.ret ((Wu.mk zHp [] [] [] 0 (WS.mk 0 0 0 0 0 0)),[],e.2.1))
   else grd ((g.length+1)*8<=140737488355328) <|
   Qd6 N A n (wI (v6+1)) e.2.2.h.c.W e.2.2.h.c.p e.2.2.h.s e.2.2.h.b e.2.2.d e.2.2.r.j e.2.2.r.K e.2.2.r.F e.2.2.r.E e.2.2.r.f e.2.2.r.y e.2.2.h.w e.2.2.h.p e.2.2.o e.2.2.t e.2.2.q (g++[e.1]))
  else some (.nxt (v7,v8,v9,v10,v11,k,v13,u,v15,v,v17,v18,v19,v20,x,z,g))
def QfD(N:Nat)(k:Wu)(u:List Int):Option (Wu×List Int×Int):=bnd (Qac N k.h.w) λv=>bnd (Qad N k.h.p) λx=>bnd (Qac N k.o) λz=>bnd (QaQ N k.t) λA=>bnd (Qac N k.q) λB=>bnd (Qd6 N u N 0 k.h.c.W k.h.c.p k.h.s k.h.b k.d k.r.j k.r.K k.r.F k.r.E k.r.f k.r.y v x z A B []) λe=>exK e (λr=>some r) λg=>some ((Wu.mk (Wh.mk (WP.mk g.1 g.2.1) g.2.2.2.2.2.2.2.2.2.2.2.1 g.2.2.2.2.2.2.2.2.2.2.2.2.1 g.2.2.1 g.2.2.2.1) g.2.2.2.2.2.2.2.2.2.2.2.2.2.1 g.2.2.2.2.2.2.2.2.2.2.2.2.2.2.1 g.2.2.2.2.2.2.2.2.2.2.2.2.2.2.2.1 g.2.2.2.2.1 (WS.mk g.2.2.2.2.2.1 g.2.2.2.2.2.2.1 g.2.2.2.2.2.2.2.1 g.2.2.2.2.2.2.2.2.1 g.2.2.2.2.2.2.2.2.2.1 g.2.2.2.2.2.2.2.2.2.2.1)),g.2.2.2.2.2.2.2.2.2.2.2.2.2.2.2.2,0)
def Qe9(N:Nat)(v6 k:Int)(g:Int×Int×Int)(u:List Int):Nat->Int->Int->Int->Int->Int->Int->Int->Int->Int->Int->Int->Int->(List Int)->(List Wp)->(List Int)->(List Int)->(List Int)->Option (Ex (Int×Int×Int×Int×Int×Int×Int×Int×Int×Int×Int×Int×List Int×List Wp×List Int×List Int×List Int) (Int×Int×Int×Int×Int×Int×Int×Int×Int×Int×Int×List Int×List Wp×List Int×List Int×List Int))
 |0,_,_,_,_,_,_,_,_,_,_,_,_,_,_,_,_,_=>none
 |n+1,v,z,A,B,D,G,H,I,J,L,M,O,v45,R,S,T,U=>
  bif (decide (v<(u.length:Int)))then(bnd (Xd u v) λx=>
   bnd (KI v45 ((wI ((wI (g.1*v6))+g.2.1)).toNat) ((wI ((wI ((wI (g.1*v6))+g.2.1))+k)).toNat-(wI ((wI (g.1*v6))+g.2.1)).toNat) (wI (1+x))) λV=>
   bnd (Qa1 N (Wu.mk (Wh.mk (WP.mk z A) v45 R B D) S T U G (WS.mk H I J L M O)) V) λe=>
   bif (e.2.1 != 0)then some (.ret (e.2.1,e.2.2.h.c.W,e.2.2.h.c.p,e.2.2.h.s,e.2.2.h.b,e.2.2.d,e.2.2.r.j,e.2.2.r.K,e.2.2.r.F,e.2.2.r.E,e.2.2.r.f,e.2.2.r.y,e.2.2.h.w,e.2.2.h.p,e.2.2.o,e.2.2.t,e.2.2.q))
   else bnd (KI e.2.2.h.w ((wI ((wI (g.1*v6))+g.2.1)).toNat) ((wI ((wI ((wI (g.1*v6))+g.2.1))+k)).toNat-(wI ((wI (g.1*v6))+g.2.1)).toNat) (wI (1+x))) λY=>
   Qe9 N v6 k g u n (wI (v+1)) e.2.2.h.c.W e.2.2.h.c.p e.2.2.h.s e.2.2.h.b e.2.2.d e.2.2.r.j e.2.2.r.K e.2.2.r.F e.2.2.r.E e.2.2.r.f e.2.2.r.y (e.2.2.h.w.set ((wI ((wI (g.1*v6))+g.2.1)).toNat+(wI (1+x)).toNat) e.1) e.2.2.h.p e.2.2.o e.2.2.t e.2.2.q)
  else some (.nxt (z,A,B,D,G,H,I,J,L,M,O,v45,R,S,T,U))
def Qfa(N:Nat):Nat->Int->Int->Int->Int->Int->Int->Int->Int->Int->Int->Int->(List Int)->(List Wp)->(List Int)->(List Int)->(List Int)->Option (Wu×Int)
 |0,_,_,_,_,_,_,_,_,_,_,_,_,_,_,_,_=>none
 |n+1,v6,v7,v8,v9,v10,v11,o,v13,p,v15,q,v17,v18,v19,v20,j=>
  jn (λ(T:Bool) (v w x y z A B D E G H I:Int) (J:List Int) (K:List Wp) (L M O:List Int)=>
   bif (v != 0)then some ((Wu.mk zHp [] [] [] 0 (WS.mk 0 0 0 0 0 0)),v)
   else bif (!T)then some ((Wu.mk (Wh.mk (WP.mk w x) J K y z) L M O A (WS.mk B D E G H I)),0)
   else Qfa N n w x y z A B D E G H I J K L M O) λr=>
  bif (decide (v10<0))then r false 0 v6 v7 v8 v9 v10 v11 o v13 p v15 q v17 v18 v19 v20 j
  else grd (j.length<=140737488355328) <|
  bif (decide (v10>=(j.length:Int)))then r false 0 v6 v7 v8 v9 v10 v11 o v13 p v15 q v17 v18 v19 v20 j
  else bnd (Xd j v10) λR=>
  bnd (Qcn N (WP.mk v6 v7) R) λf=>
  bif (f.2.2 != 0)then r false 19 v6 v7 v8 v9 v10 v11 o v13 p v15 q v17 v18 v19 v20 j
  else grd (v17.length<=140737488355328) <|
  bif (decide (1>(wI ((v17.length:Int)-(wI ((wI (f.1*v6))+f.2.1))))))then r false 19 v6 v7 v8 v9 v10 v11 o v13 p v15 q v17 v18 v19 v20 j
  else grd (0<=(wI ((wI (f.1*v6))+f.2.1))/\(wI ((wI (f.1*v6))+f.2.1))<=(wI ((wI ((wI (f.1*v6))+f.2.1))+1))/\(wI ((wI ((wI (f.1*v6))+f.2.1))+1))<=(v17.length:Int)) <|
  bnd (KI v17 ((wI ((wI (f.1*v6))+f.2.1)).toNat) ((wI ((wI ((wI (f.1*v6))+f.2.1))+1)).toNat-(wI ((wI (f.1*v6))+f.2.1)).toNat) 0) λU=>
  bnd (Qd3 N U) λs=>
  bnd (Qbr N s.1) λu=>
  bnd (Qcn N (WP.mk v6 v7) R) λk=>
  bif (k.2.2 != 0)then(bif (!s.2)then r false 19 v6 v7 v8 v9 v10 v11 o v13 p v15 q v17 v18 v19 v20 j
   else r false 19 v6 v7 v8 v9 v10 v11 o v13 p v15 q v17 v18 v19 v20 j)
  else grd (v17.length<=140737488355328) <|
  bif (decide (u>(wI ((v17.length:Int)-(wI ((wI (k.1*v6))+k.2.1))))))then(bif (!s.2)then r false 19 v6 v7 v8 v9 v10 v11 o v13 p v15 q v17 v18 v19 v20 j
   else r false 19 v6 v7 v8 v9 v10 v11 o v13 p v15 q v17 v18 v19 v20 j)
  else grd (0<=(wI ((wI (k.1*v6))+k.2.1))/\(wI ((wI (k.1*v6))+k.2.1))<=(wI ((wI ((wI (k.1*v6))+k.2.1))+u))/\(wI ((wI ((wI (k.1*v6))+k.2.1))+u))<=(v17.length:Int)) <|
  bif (!s.2)then r false 19 v6 v7 v8 v9 v10 v11 o v13 p v15 q v17 v18 v19 v20 j
  else bnd (QdU N s.1) λS=>
  bnd (Qe9 N v6 u k S N 0 v6 v7 v8 v9 v10 v11 o v13 p v15 q v17 v18 v19 v20 j) λe=>exK e (λg=>r false g.1 g.2.1 g.2.2.1 g.2.2.2.1 g.2.2.2.2.1 g.2.2.2.2.2.1 g.2.2.2.2.2.2.1 g.2.2.2.2.2.2.2.1 g.2.2.2.2.2.2.2.2.1 g.2.2.2.2.2.2.2.2.2.1 g.2.2.2.2.2.2.2.2.2.2.1 g.2.2.2.2.2.2.2.2.2.2.2.1 g.2.2.2.2.2.2.2.2.2.2.2.2.1 g.2.2.2.2.2.2.2.2.2.2.2.2.2.1 g.2.2.2.2.2.2.2.2.2.2.2.2.2.2.1 g.2.2.2.2.2.2.2.2.2.2.2.2.2.2.2.1 g.2.2.2.2.2.2.2.2.2.2.2.2.2.2.2.2) λh=>
  r true 0 h.1 h.2.1 h.2.2.1 h.2.2.2.1 (wI (h.2.2.2.2.1+1)) h.2.2.2.2.2.1 h.2.2.2.2.2.2.1 h.2.2.2.2.2.2.2.1 h.2.2.2.2.2.2.2.2.1 h.2.2.2.2.2.2.2.2.2.1 (wI (h.2.2.2.2.2.2.2.2.2.2.1+(wI (1+(S.length:Int))))) h.2.2.2.2.2.2.2.2.2.2.2.1 h.2.2.2.2.2.2.2.2.2.2.2.2.1 h.2.2.2.2.2.2.2.2.2.2.2.2.2.1 h.2.2.2.2.2.2.2.2.2.2.2.2.2.2.1 h.2.2.2.2.2.2.2.2.2.2.2.2.2.2.2
def Qgd(N:Nat)(e:Wu):Option (Wu×Int):=bnd (Qac N e.h.w) λg=>bnd (Qad N e.h.p) λk=>bnd (Qac N e.o) λu=>bnd (QaQ N e.t) λv=>bnd (Qac N e.q) λx=>bnd (Qfa N N e.h.c.W e.h.c.p e.h.s e.h.b e.d e.r.j e.r.K e.r.F e.r.E e.r.f e.r.y g k u v x) λr=>some r
def Qam(N:Nat)(e:Int):Option Unit:=bif (e != 0)then none else some ()
def QfO(N:Nat)(e:Wu)(f:Int):Option Int:=bnd (Qai N e.q f) λj=>bif j then some f else bnd (Qcn N e.h.c f) λg=>bnd (Qam N g.2.2) λp=>bnd (Xd e.h.w (wI ((wI (g.1*e.h.c.W))+g.2.1))) λk=>bnd (QeO N k) λo=>some o.1
def Qcx(N:Nat)(e:Wu)(g:List Int):Nat->Int->Int->(List Int)->Option (List Int×Int)
 |0,_,_,_=>none
 |n+1,k,f,p=>
  bif (decide (k<(g.length:Int)))then(bnd (Xd g k) λs=>
   jn (λ(x z:Int)=>
    grd ((p.length+1)*8<=140737488355328) <|
    Qcx N e g n (wI (k+1)) z (p++[x])) λu=>
   bif (s != 0)then(bnd (QfO N (Wu.mk e.h e.o e.t e.q e.d (WS.mk e.r.j e.r.K e.r.F e.r.E f e.r.y)) s) λv=>
    jn (λ(A:Int)=>
     u v A) λw=>
    bif (v==0)then w (wI (f+1))
    else w f)
   else u 0 f)
  else some (p,f)
def QdE(N:Nat)(e:Wu)(k:List Int):Option (List Int×Wu):=bnd (Qcx N e k N 0 e.r.f []) λg=>some (g.1,(Wu.mk e.h e.o e.t e.q e.d (WS.mk e.r.j e.r.K e.r.F e.r.E g.2 e.r.y)))
def Qec(N:Nat)(e:Wu)(f:Int):Option Bool:=jn (λ(q:Bool)=>some q) λg=>bif (decide (f<0))then g false else bif (decide (f>=(e.h.p.length:Int)))then g false else bnd (Xd e.h.p f) λo=>jn (λ(r:Bool)=>g r) λj=>bif (o.k==1)then(bif (o.s==(wI (1-e.h.s)))then(bnd (Qbb N e.t f) λu=>j (!u))else j false)else j false
def QfP(N:Nat)(e:Wy):Option (Int×Int):=bnd (Qdf N e) λg=>bif (!g)then some (0,1)else bnd (Qgc N [(Ik.mk 2 1),(Ik.mk 2 (wU e.k)),(Ik.mk 12 (wU e.n)),(Ik.mk 32 (wU e.Map))]) λf=>some (f.1,f.2)
def Qgz(N:Nat)(h:List Int)(j:Int)(g:List Int):Option (List Int×Int):=bnd (Qe8 N h j (g.length:Int)) λe=>bif (!e.2)then some ([],2)else bnd (Qac N h) λf=>grd (0<=e.1/\e.1<=(f.length:Int)/\(f.length:Int)<=(f.length:Int)) <| grd (g.length<=(f.length-e.1.toNat)) <| some ((((f.take e.1.toNat)++g)++(f.drop (e.1.toNat+g.length))),0)
def Qgr(N:Nat)(e:Wh)(g:List Int)(f:Int):Option (Wh×Int):=bif (f != 0)then some (zHp,f)else bnd (Qad N e.p) λh=>some ((Wh.mk e.c g h e.s e.b),0)
def QfX(N:Nat)(f:Wh)(o:Int)(g:Wy):Option (Wh×Int):=bnd (QfP N g) λh=>bif (h.2 != 0)then some (zHp,1)else bnd (Qb2 N f) λp=>bif (!p)then some (zHp,1)else bnd (Qbr N g) λe=>grd (0<=e/\e.toNat*8<=140737488355328) <| bnd (Xd (List.replicate e.toNat (0:Int)) 0) λq=>bnd (Qgz N f.w o ((List.replicate e.toNat (0:Int)).set 0 h.1)) λj=>bnd (Qgr N f j.1 j.2) λk=>some (k.1,k.2)
def Qhw(N:Nat)(g:Wh)(h e:Int):Option (Wh×Int):=bif (decide (e<1))then some (zHp,1)else bif (decide (e>256))then some (zHp,1)else bnd (QfX N g h (Wy.mk 0 (wI (e-1)) 0)) λf=>some (f.1,f.2)
def Qcw(N:Nat)(u:Wu)(f:List Int×Int)(v:Int):Nat->Int->Int->Int->(List Int)->(List Wp)->Int->Int->Int->Option (Int×Int×List Int×List Wp×Int×Int×Int)
 |0,_,_,_,_,_,_,_,_=>none
 |n+1,g,v13,h,v15,j,v17,v18,v19=>
  bif (decide (g<(f.1.length:Int)))then(bnd (Xd f.1 g) λo=>
   bnd (Qeu N (Wh.mk (WP.mk v13 h) v15 j v17 v18) o) λr=>
   bnd (Qam N r.2) λz=>
   bif (r.1.k==0)then Qcw N u f v n (wI (g+1)) v13 h v15 j v17 v18 v19
   else bnd (Qai N u.q o) λx=>
   bif x then Qcw N u f v n (wI (g+1)) v13 h v15 j v17 v18 v19
   else bnd (Qbr N r.1) λy=>
   bnd (Qhw N (Wh.mk (WP.mk v13 h) v15 j v17 v18) o y) λe=>
   bnd (Qam N e.2) λA=>
   Qcw N u f v n (wI (g+1)) e.1.c.W e.1.c.p e.1.w e.1.p e.1.s e.1.b (wI (v19+1)))
  else some (v13,h,v15,j,v17,v18,v19)
def Qdh(N:Nat)(g:Wu):Nat->Int->Int->Int->(List Int)->(List Wp)->Int->Int->Int->Option (Int×Int×List Int×List Wp×Int×Int×Int)
 |0,_,_,_,_,_,_,_,_=>none
 |n+1,k,s,u,v,w,v6,v7,v8=>
  bif (decide (k<(g.h.p.length:Int)))then(bnd (Qec N (Wu.mk (Wh.mk (WP.mk s u) v w v6 v7) g.o g.t g.q g.d (WS.mk g.r.j g.r.K v8 g.r.E g.r.f g.r.y)) k) λz=>
   bif (!z)then Qdh N g n (wI (k+1)) s u v w v6 v7 v8
   else bnd (Qe1 N (Wh.mk (WP.mk s u) v w v6 v7) k) λx=>
   bnd (Qam N x.2) λA=>
   bnd (Qcw N g x k N 0 s u v w v6 v7 v8) λe=>
   Qdh N g n (wI (k+1)) e.1 e.2.1 e.2.2.1 e.2.2.2.1 e.2.2.2.2.1 e.2.2.2.2.2.1 e.2.2.2.2.2.2)
  else some (s,u,v,w,v6,v7,v8)
def QeE(N:Nat)(e:Wu):Option Wu:=bnd (Qdh N e N 0 e.h.c.W e.h.c.p e.h.w e.h.p e.h.s e.h.b e.r.F) λg=>some (Wu.mk (Wh.mk (WP.mk g.1 g.2.1) g.2.2.1 g.2.2.2.1 g.2.2.2.2.1 g.2.2.2.2.2.1) e.o e.t e.q e.d (WS.mk e.r.j e.r.K g.2.2.2.2.2.2 e.r.E e.r.f e.r.y))
def QeF(N:Nat)(g:Wp):Nat->Int->(List Wp)->Option (List Wp)
 |0,_,_=>none
 |n+1,f,e=>
  bif (g.k==2)then(grd (e.length<=140737488355328) <|
   bif (decide (f<(e.length:Int)))then(bnd (Xd e f) λh=>
    bif (h.k==3)then(bnd (Xd e f) λj=>
     QeF N g n (wI (f+1)) (e.set f.toNat (Wp.mk 0 0 0 0)))
    else some e)
   else some e)
  else some e
def Qhx(N:Nat)(f:List Wp)(e:Int):Option (List Wp×Int):=bif (decide (e<0))then some ([],2)else bif (decide (e>=(f.length:Int)))then some ([],2)else bnd (Xd f e) λg=>jn (λ(_:Unit)=>bnd (Qad N f) λh=>bnd (Xd h e) λp=>bnd (QeF N g N (wI (e+1)) (h.set e.toNat (Wp.mk 0 0 0 0))) λo=>some (o,0)) λj=>bif (g.k != 1)then(bif (g.k != 2)then some ([],20)else j ())else j ()
def QbJ(N:Nat)(e:Wu):Nat->Int->(List Wp)->Int->(List Int)->Option (List Int×List Wp×Int)
 |0,_,_,_,_=>none
 |n+1,f,j,o,g=>
  bif (decide (f<(e.h.p.length:Int)))then(bnd (Xd e.h.p f) λq=>
   bif (q.k==0)then QbJ N e n (wI (f+1)) j o g
   else bif (q.s != e.h.s)then QbJ N e n (wI (f+1)) j o g
   else grd (0<=(wI (f*e.h.c.W))/\(wI (f*e.h.c.W))<=(wI ((wI (f+1))*e.h.c.W))/\(wI ((wI (f+1))*e.h.c.W))<=(g.length:Int)) <|
   bif (q.k != 3)then(bnd (Qhx N j f) λr=>
    bnd (Qam N r.2) λu=>
    QbJ N e n (wI (f+1)) r.1 (wI (o+1)) (((g.take (wI (f*e.h.c.W)).toNat)++(List.replicate ((wI ((wI (f+1))*e.h.c.W)).toNat-(wI (f*e.h.c.W)).toNat) (0:Int)))++(g.drop ((wI (f*e.h.c.W)).toNat+((wI ((wI (f+1))*e.h.c.W)).toNat-(wI (f*e.h.c.W)).toNat)))))
   else QbJ N e n (wI (f+1)) j (wI (o+1)) (((g.take (wI (f*e.h.c.W)).toNat)++(List.replicate ((wI ((wI (f+1))*e.h.c.W)).toNat-(wI (f*e.h.c.W)).toNat) (0:Int)))++(g.drop ((wI (f*e.h.c.W)).toNat+((wI ((wI (f+1))*e.h.c.W)).toNat-(wI (f*e.h.c.W)).toNat)))))
  else some (g,j,o)
def QeG(N:Nat)(e:Wu):Option Wu:=bnd (Qac N e.h.w) λk=>bnd (QbJ N e N 0 e.h.p e.r.E k) λg=>some (Wu.mk (Wh.mk e.h.c g.1 g.2.1 e.h.s e.h.b) e.o e.t e.q e.d (WS.mk e.r.j e.r.K e.r.F g.2.2 e.r.f e.r.y))
def QdV(N:Nat)(k:Wh)(o q:List Int):Option (Wh×List Int×List Int×WS×Int):=bnd (Qex N k) λu=>bif (u.2==0)then(bnd (QaR N [o,q]) λy=>bnd (QdS N k y) λz=>bif z then(bnd (QfD N u.1 o) λf=>bif (f.2.2==0)then(bnd (Qgd N f.1) λg=>bif (g.2==0)then(bnd (QdE N g.1 q) λv=>bnd (QeE N v.2) λA=>bnd (QeG N A) λe=>grd (e.t.length<=140737488355328) <| jn (λ(B:Int)=>some ((Wh.mk e.h.c e.h.w e.h.p (wI (1-e.h.s)) B),f.2.1,v.1,e.r,0)) λx=>bif (decide ((e.t.length:Int)>0))then(bnd (Xd e.t (wI ((e.t.length:Int)-1))) λj=>x j)else x (-1))else some (zHp,[],[],(WS.mk 0 0 0 0 0 0),g.2))else some (zHp,[],[],(WS.mk 0 0 0 0 0 0),f.2.2))else none)else none
def Qhf(N:Nat)(e:Wh):Option Wh:=bnd (Qac N e.w) λf=>bnd (Qad N e.p) λg=>some (Wh.mk e.c f g e.s e.b)
def QaX(N:Nat)(e:List UH):Option (List UH):=some e
def QaM(N:Nat)(e:List UX):Option (List UX):=some e
def QgE(N:Nat)(e:Wq):Option Wq:=bnd (QaX N e.S) λf=>bnd (QaM N e.x) λg=>bnd (QaQ N e.i) λh=>some (Wq.mk f g h)
def QaN(N:Nat)(e:List W6):Option (List W6):=some e
def Qge(N:Nat)(f:WD):Option WD:=bnd (QaN N f.e) λg=>some (WD.mk g)
def Qcq(N:Nat)(e:List UB):Option (List UB):=some e
def Qg0(N:Nat)(e:Uj):Option Uj:=bnd (Qhf N e.h) λf=>bnd (QgE N e.l) λj=>bnd (Qge N e.g) λk=>bnd (Qge N e.v) λo=>bnd (Qcq N e.P) λp=>bnd (Qac N e.R) λq=>some (Uj.mk f j k o p q)
def Qhg(N:Nat)(e:Wq):Option Wq:=bnd (QaX N e.S) λf=>bnd (QaM N e.x) λg=>bnd (QaQ N e.i) λh=>some (Wq.mk f g h)
def Qd7(N:Nat)(g:Wq):Nat->(List Int)->Int->(List UH)->Option (List UH)
 |0,_,_,_=>none
 |n+1,e,v6,v7=>
  bif (decide (v6<(g.S.length:Int)))then(bnd (Xd v7 v6) λh=>
   bif h.V then(bnd (Xd e 0) λj=>
    grd (0<=1/\1<=(e.length:Int)/\(e.length:Int)<=(e.length:Int)) <|
    bnd (Xd v7 v6) λf=>
    Qd7 N g n (e.drop 1) (wI (v6+1)) (v7.set v6.toNat (UH.mk f.J j f.V)))
   else Qd7 N g n e (wI (v6+1)) v7)
  else some v7
def Qg1(N:Nat)(f:Wq)(g:List Int):Option (Wq×Int):=bnd (Qet N f) λj=>bif (!j)then some ((Wq.mk [] [] []),1)else bnd (QfB N f) λk=>bif ((k.length:Int) != (g.length:Int))then some ((Wq.mk [] [] []),1)else bnd (Qai N g 0) λo=>bif o then some ((Wq.mk [] [] []),1)else bnd (Qhg N f) λe=>grd (e.S.length<=140737488355328) <| bnd (Qd7 N e N g 0 e.S) λh=>some ((Wq.mk h e.x e.i),0)
def Qhh(N:Nat)(f:WD):Option WD:=bnd (QaN N f.e) λg=>some (WD.mk g)
def Qd8(N:Nat)(h:WD):Nat->(List Int)->Int->(List W6)->Option (List W6)
 |0,_,_,_=>none
 |n+1,f,g,v6=>
  bif (decide (g<(h.e.length:Int)))then(bnd (Xd v6 g) λk=>
   bif k.V then(bnd (Xd f 0) λo=>
    grd (0<=1/\1<=(f.length:Int)/\(f.length:Int)<=(f.length:Int)) <|
    bnd (Xd v6 g) λj=>
    Qd8 N h n (f.drop 1) (wI (g+1)) (v6.set g.toNat (W6.mk j.G o j.V)))
   else Qd8 N h n f (wI (g+1)) v6)
  else some v6
def Qgs(N:Nat)(f:WD)(j:List Int):Option (WD×Int):=bnd (QdI N f) λk=>bif (!k)then some ((WD.mk []),1)else bnd (QdJ N f) λo=>bif ((o.length:Int) != (j.length:Int))then some ((WD.mk []),1)else bnd (Qhh N f) λg=>grd (g.e.length<=140737488355328) <| bnd (Qd8 N g N j 0 g.e) λh=>some ((WD.mk h),0)
def QdW(N:Nat)(e:Int)(f:List Int):Option (List Int×List Int):=grd (0<=0/\0<=e/\e<=(f.length:Int)) <| grd (0<=e/\e<=(f.length:Int)/\(f.length:Int)<=(f.length:Int)) <| some ((f.take e.toNat),(f.drop e.toNat))
def Qey(N:Nat)(o:Wh×List Int×List Int×WS×Int)(p:Uj)(q:List Int×List Int)(r:Wq×Int)(f:List Int×List Int)(g h:WD×Int):Nat->Int->(List UB)->Option (List UB)
 |0,_,_=>none
 |n+1,e,v15=>
  bif (decide (e<(f.2.length:Int)))then(bnd (Xd f.2 e) λj=>
   bnd (Xd v15 e) λk=>
   Qey N o p q r f g h n (wI (e+1)) (v15.set e.toNat (UB.mk j k.M)))
  else some v15
def Qfb(N:Nat)(e:Uj):Option (Uj×WS×Int):=bnd (Qdp N e) λx=>bif (!x)then some ((Uj.mk zHp (Wq.mk [] [] []) (WD.mk []) (WD.mk []) [] []),(WS.mk 0 0 0 0 0 0),19)else bnd (Qgn N e) λy=>bnd (QdJ N e.v) λz=>bnd (QdV N e.h y z) λf=>bif (f.2.2.2.2 != 0)then some ((Uj.mk zHp (Wq.mk [] [] []) (WD.mk []) (WD.mk []) [] []),(WS.mk 0 0 0 0 0 0),f.2.2.2.2)else bnd (Qg0 N e) λo=>bnd (QdW N (e.R.length:Int) f.2.1) λp=>grd (p.1.length<=o.R.length) <| bnd (QfB N e.l) λA=>bnd (QdW N (A.length:Int) p.2) λw=>bnd (Qg1 N e.l w.1) λr=>bnd (QdJ N e.g) λs=>bnd (QdW N (s.length:Int) w.2) λq=>bnd (Qgs N e.g q.1) λj=>bnd (Qgs N e.v f.2.2.1) λk=>bnd (Qey N f o p r q j k N 0 o.P) λu=>bif (!((r.2==0)&&((j.2==0)&&(k.2==0))))then some ((Uj.mk zHp (Wq.mk [] [] []) (WD.mk []) (WD.mk []) [] []),(WS.mk 0 0 0 0 0 0),19)else some ((Uj.mk f.1 r.1 j.1 k.1 u (((o.R.take 0)++p.1)++(o.R.drop p.1.length))),f.2.2.2.1,0)
def Qd9(N:Nat)(h:Wy×Int)(e:List Int×Int):Nat->Int->(List Int)->Option (List Int)
 |0,_,_=>none
 |n+1,f,g=>
  grd (e.1.length<=140737488355328) <|
  bif (decide (f<(e.1.length:Int)))then(bnd (Qby N h.1 f) λj=>
   bif j then(bnd (Xd e.1 f) λk=>
    grd ((g.length+1)*8<=140737488355328) <|
    Qd9 N h e n (wI (f+1)) (g++[k]))
   else Qd9 N h e n (wI (f+1)) g)
  else some g
def Qg2(N:Nat)(e:Wh)(f:Int):Option (List Int):=bnd (QbK N e f) λg=>bnd (Qc9 N e f) λh=>bnd (Qd9 N g h N 0 []) λj=>some j
def Qcr(N:Nat)(j:Wh)(e:List Int)(h:List Int×Int):Nat->Int->(List Int)->Option (Ex Unit (List Int))
 |0,_,_=>none
 |n+1,f,g=>
  bif (decide (f<(e.length:Int)))then(bnd (Xd e f) λo=>
   bif (o==0)then Qcr N j e h n (wI (f+1)) g
   else bnd (Xd e f) λp=>
   bnd (Qbt N h.1 p) λq=>
   bif (!q)then some (.ret ())
   else bnd (Xd e f) λr=>
   bnd (Qbt N g r) λs=>
   bif (!s)then(bnd (Xd e f) λk=>
    grd ((g.length+1)*8<=140737488355328) <|
    Qcr N j e h n (wI (f+1)) (g++[k]))
   else Qcr N j e h n (wI (f+1)) g)
  else some (.nxt g)
def Qcs(N:Nat)(j:Wh)(h:List Int×Int)(e:List Int)(g:Int):Nat->Int->(List Int)->Option (Ex Unit (List Int))
 |0,_,_=>none
 |n+1,v20,f=>
  bif (decide (v20<(e.length:Int)))then(bnd (Xd e v20) λk=>
   bif (k==0)then Qcs N j h e g n (wI (v20+1)) f
   else bnd (Xd e v20) λo=>
   bnd (Qbt N h.1 o) λp=>
   bif (!p)then some (.ret ())
   else bnd (Xd e v20) λq=>
   bnd (Qbt N f q) λr=>
   bif (!r)then(bnd (Xd e v20) λs=>
    grd ((f.length+1)*8<=140737488355328) <|
    Qcs N j h e g n (wI (v20+1)) (f++[s]))
   else Qcs N j h e g n (wI (v20+1)) f)
  else some (.nxt f)
def Qez(N:Nat)(g:Wh)(q:List Int×Int):Nat->Bool->Int->(List Int)->Option (Bool×List Int)
 |0,_,_,_=>none
 |n+1,v15,f,v17=>
  bif v15 then(grd (v17.length<=140737488355328) <|
   bif (decide (f<(v17.length:Int)))then(bnd (Xd v17 f) λh=>
    bnd (Qg2 N g h) λj=>
    jn (λ(k:Bool) (o:List Int)=>
     Qez N g q n k (wI (f+1)) o) λr=>
    bnd (Qcs N g q j f N 0 v17) λe=>exK e (λs=>r false []) λp=>
    r true p)
   else some (v15,v17))
  else some (v15,v17)
def QfY(N:Nat)(g:Wh)(q:List Int):Option (List Int×Int):=bnd (Qaa N g) λr=>bif (!r)then some ([],1)else bnd (Qal N g) λh=>bif (h.2 != 0)then some ([],h.2)else jn (λ(j:Bool) (k:List Int)=>bnd (Qez N g h N j 0 k) λf=>bif (!f.1)then some ([],19)else some (f.2,0)) λp=>bnd (Qcr N g q h N 0 []) λe=>exK e (λs=>p false []) λo=>p true o
def QdX(N:Nat)(f:List Int)(g:Int):Nat->Int->Option (Ex Int Unit)
 |0,_=>none
 |n+1,e=>
  bif (decide (e<(f.length:Int)))then(bnd (Xd f e) λh=>
   bif (h==g)then some (.ret (wI (e+1)))
   else QdX N f g n (wI (e+1)))
  else some (.nxt ())
def Qfp(N:Nat)(f:List Int)(g:Int):Option Int:=bnd (QdX N f g N 0) λe=>exK e (λr=>some r) λh=>some 0
def QfZ(N:Nat)(j:Wh)(e:List Int)(h:List Int×Int):Nat->Int->(List Int)->Option (List Int)
 |0,_,_=>none
 |n+1,f,g=>
  bif (decide (f<(e.length:Int)))then(bnd (Xd e f) λk=>
   bnd (Qfp N h.1 k) λo=>
   grd ((g.length+1)*8<=140737488355328) <|
   QfZ N j e h n (wI (f+1)) (g++[(wI (o-1))]))
  else some g
def Qev(N:Nat)(o:Wh)(g:List Int×Int)(p:List Int)(f:Wy×Int)(v7:Int)(v8:List UY):Nat->Int->(List Int)->Option (List Int)
 |0,_,_=>none
 |n+1,v13,e=>
  grd (e.length<=140737488355328) <|
  bif (decide (v13<(e.length:Int)))then(bnd (Qby N f.1 v13) λh=>
   bif h then(bnd (Xd e v13) λj=>
    bnd (Qfp N g.1 j) λk=>
    bnd (Xd e v13) λq=>
    Qev N o g p f v7 v8 n (wI (v13+1)) (e.set v13.toNat (wU k)))
   else Qev N o g p f v7 v8 n (wI (v13+1)) e)
  else some e
def Qf0(N:Nat)(g:Wh)(e:List Int×Int)(o:List Int):Nat->Int->(List UY)->Option (List UY)
 |0,_,_=>none
 |n+1,v7,v8=>
  bif (decide (v7<(e.1.length:Int)))then(bnd (Xd e.1 v7) λp=>
   bnd (QbK N g p) λf=>
   bnd (Xd e.1 v7) λh=>
   bnd (Qc9 N g h) λj=>
   bnd (Qev N g e o f v7 v8 N 0 j.1) λk=>
   grd ((v8.length+1)*48<=140737488355328) <|
   Qf0 N g e o n (wI (v7+1)) (v8++[(UY.mk f.1 k)]))
  else some v8
def Qg9(N:Nat)(f:Wh)(h:List Int):Option (Od×Int):=bnd (QfY N f h) λe=>bif (e.2 != 0)then some ((Od.mk [] []),e.2)else bnd (QfZ N f h e N 0 []) λj=>bnd (Qf0 N f e j N 0 []) λg=>some ((Od.mk j g),0)
def QeP(N:Nat)(f g:List Int):Nat->Int->Option (Ex Bool Unit)
 |0,_=>none
 |n+1,e=>
  bif (decide (e<(f.length:Int)))then(bnd (Xd f e) λh=>
   bnd (Xd g e) λj=>
   bif (h != j)then some (.ret false)
   else QeP N f g n (wI (e+1)))
  else some (.nxt ())
def Qg3(N:Nat)(f g:List Int):Option Bool:=bif ((f.length:Int) != (g.length:Int))then some false else bnd (QeP N f g N 0) λe=>exK e (λr=>some r) λh=>some true
def QeQ(N:Nat)(f g:Od):Nat->Int->Option (Ex Bool Unit)
 |0,_=>none
 |n+1,e=>
  bif (decide (e<(f.R.length:Int)))then(bnd (Xd f.R e) λh=>
   bnd (Xd g.R e) λj=>
   bif (h != j)then some (.ret false)
   else QeQ N f g n (wI (e+1)))
  else some (.nxt ())
def QeR(N:Nat)(f g:Od):Nat->Int->Option (Ex Bool Unit)
 |0,_=>none
 |n+1,e=>
  bif (decide (e<(f.Nodes.length:Int)))then(bnd (Xd f.Nodes e) λh=>
   bnd (Xd g.Nodes e) λj=>
   bif (!((h.H.k==j.H.k)&&((h.H.n==j.H.n)&&(h.H.Map==j.H.Map))))then some (.ret false)
   else bnd (Xd f.Nodes e) λp=>
   bnd (Xd g.Nodes e) λq=>
   bnd (Qg3 N p.D q.D) λo=>
   bif (!o)then some (.ret false)
   else QeR N f g n (wI (e+1)))
  else some (.nxt ())
def Qg4(N:Nat)(f g:Od):Option Bool:=bif ((f.R.length:Int) != (g.R.length:Int))then some false else bif ((f.Nodes.length:Int) != (g.Nodes.length:Int))then some false else bnd (QeQ N f g N 0) λe=>exK e (λr=>some r) λj=>bnd (QeR N f g N 0) λe=>exK e (λr=>some r) λh=>some true
def Qg5(N:Nat)(e:U3):Option Bool:=bif (decide (e.Tag<1))then some false else bif (decide (e.Tag>3))then some false else bif (decide (e.Index<0))then some false else bif (decide (e.J<1))then some false else bnd (Qa9 N 16) λf=>bif (decide ((wU e.Index)<=f))then(bnd (Qa9 N 32) λg=>some (decide ((wU e.J)<=g)))else some false
def QfQ(N:Nat)(f:Int):Option (U3×Int):=bif (f==0)then some ((U3.mk 0 0 0),5)else bnd (Qc7 N f [2,16,32]) λe=>bif (e.2 != 0)then some ((U3.mk 0 0 0),6)else bnd (Xd e.1 0) λg=>bnd (Xd e.1 1) λh=>bnd (Xd e.1 2) λj=>bnd (Qg5 N (U3.mk (wI g) (wI h) (wI j))) λk=>bif (!k)then some ((U3.mk 0 0 0),6)else some ((U3.mk (wI g) (wI h) (wI j)),0)
def Qhl(N:Nat)(e:Wq)(f g:Int):Option (Int×Int):=bnd (Qet N e) λh=>bif (!h)then some (0,1)else bif (decide (g<1))then some (0,6)else bif (decide (g>(e.i.length:Int)))then some (0,6)else bnd (Xd e.i (wI (g-1))) λj=>bif (j != f)then some (0,6)else bif (decide (f>=(e.S.length:Int)))then some (0,7)else bnd (Xd e.S f) λk=>bif (k.J != g)then some (0,7)else bnd (Xd e.S f) λo=>bif (!o.V)then some (0,8)else bnd (Xd e.S f) λp=>some (p.a,0)
def Qhi(N:Nat)(f:WD)(g h:Int):Option Int:=bnd (QdI N f) λj=>bif (!j)then some 1 else bif (decide (g<0))then some 6 else bif (decide (g>=(f.e.length:Int)))then some 6 else bif (decide (h<1))then some 6 else bnd (Xd f.e g) λk=>bif (decide (h>k.G))then some 6 else bnd (Xd f.e g) λo=>bif (decide (h<o.G))then some 8 else bnd (Xd f.e g) λp=>bif (!p.V)then some 8 else some 0
def QgN(N:Nat)(f:WD)(g j:Int):Option (Int×Int):=bnd (Qhi N f g j) λh=>bif (h != 0)then some (0,h)else bnd (Xd f.e g) λk=>some (k.a,0)
def Qf1(N:Nat)(f:Uj)(o:Int):Option (Int×Int):=bnd (Qdp N f) λp=>bif (!p)then some (0,19)else bnd (QfQ N o) λe=>bif (e.2==5)then some (0,0)else bif (e.2 != 0)then some (0,e.2)else bif (e.1.Tag==1)then(bnd (Qhl N f.l e.1.Index e.1.J) λh=>some (h.1,h.2))else bif (e.1.Tag==2)then(bnd (QgN N f.g e.1.Index e.1.J) λj=>some (j.1,j.2))else bnd (QgN N f.v e.1.Index e.1.J) λk=>some (k.1,k.2)
def QfR(N:Nat)(e:Wh)(f:List Int)(g:Int):Option Bool:=bnd (QfY N e f) λh=>bnd (Qbt N h.1 g) λj=>some j
def Qh2(N:Nat)(e:Int):Option (List Int×Int):=bif (decide (e<0))then some ([],1)else bif (decide (e>4096))then some ([],1)else grd (0<=e/\e.toNat*8<=140737488355328) <| some ((List.replicate e.toNat (0:Int)),0)
def QiJ(N:Nat)(e:WP):Option (Wh×Int):=bnd (Qb1 N e) λg=>bif (!g)then some (zHp,1)else bnd (Qh2 N (wI (e.W*e.p))) λf=>bif (f.2 != 0)then some (zHp,f.2)else grd (0<=e.p/\e.p.toNat*32<=140737488355328) <| some ((Wh.mk e f.1 (List.replicate e.p.toNat (Wp.mk 0 0 0 0)) 0 (-1)),0)
def QkS(N:Nat)(f:WP):Option (Uj×Int):=bnd (QiJ N f) λe=>bif (e.2 != 0)then some ((Uj.mk zHp (Wq.mk [] [] []) (WD.mk []) (WD.mk []) [] []),e.2)else some ((Uj.mk e.1 (Wq.mk [] [] []) (WD.mk []) (WD.mk []) [] []),0)
def Qhn(N:Nat)(f:WP)(e:Wy):Option Bool:=bnd (Qdf N e) λg=>bif g then(bif (e.k != 0)then(bnd (Qbr N e) λh=>bnd (Qe0 N f h) λj=>some (decide (j>=0)))else some false)else some false
def QgF(N:Nat)(h:List Wp)(j f g:Int):Nat->(List Wp)->Option (List Wp)
 |0,_=>none
 |n+1,e=>
  grd (e.length<=140737488355328) <|
  bif (decide ((e.length:Int)<g))then(grd ((e.length+1)*32<=140737488355328) <|
   QgF N h j f g n (e++[(Wp.mk 3 f 0 0)]))
  else some e
def QhF(N:Nat)(o:WP)(g:List Wp)(h e f:Int):Option (List Wp×Int):=bnd (Qe0 N o f) λj=>bif (decide (j<1))then some ([],1)else bnd (Qb6 N (Wp.mk 2 e f 0)) λp=>bif (!p)then some ([],1)else bnd (QgF N g h e j N [(Wp.mk 2 e f 0)]) λq=>bnd (QgM N g h q) λk=>some (k.1,k.2)
def QhG(N:Nat)(e:WP):Option Int:=bnd (Qb1 N e) λf=>bif (!f)then some 0 else some (wI (e.p.tdiv 4))
def Qha(N:Nat)(e:Wh)(o:Int):Option (Wh×Ox×Int):=bnd (Qgq N e.p) λq=>bnd (QhG N e.c) λr=>bnd (Qe0 N e.c o) λv=>bif (decide (v>0))then(bnd (QdK N e.p v) λx=>jn (λ(_:Unit)=>some (zHp,(Ox.mk 0 0),3)) λB=>bif (decide (x>=0))then(bif (decide (q<=(wI (r-v))))then(bnd (QhF N e.c e.p x e.s o) λD=>some ((Wh.mk e.c e.w D.1 e.s e.b),(Ox.mk x 0),D.2))else B ())else B ())else jn (λ(_:Unit)=>bnd (QdK N e.p 1) λj=>jn (λ(_:Unit)=>some (zHp,(Ox.mk 0 0),3)) λE=>bif (decide (j>=0))then(bif (decide (q<r))then(bnd (Qek N e.p j e.s) λf=>bif (f.2 != 0)then some (zHp,(Ox.mk 0 0),f.2)else bnd (Xd f.1 j) λg=>some ((Wh.mk e.c e.w (f.1.set j.toNat (Wp.mk g.k g.s o g.P)) e.s j),(Ox.mk j 0),0))else E ())else E ()) λy=>bif (decide (e.b>=0))then(bif (decide (q<=r))then(bnd (Xd e.p e.b) λz=>jn (λ(_:Unit)=>y ()) λG=>bif (z.s==e.s)then(bif (decide (o<=(wI (e.c.W-z.u))))then(bnd (Qad N e.p) λA=>bnd (Xd A e.b) λH=>bnd (Xd A e.b) λh=>some ((Wh.mk e.c e.w (A.set e.b.toNat (Wp.mk h.k h.s (wI (H.u+o)) h.P)) e.s e.b),(Ox.mk e.b z.u),0))else G ())else G ())else y ())else y ()
def Qhy(N:Nat)(f:Wh)(h:Wy):Option (Wh×Int×Int):=bnd (Qb2 N f) λk=>bif (!k)then some (zHp,0,1)else bnd (Qhn N f.c h) λo=>bif (!o)then some (zHp,0,1)else bnd (Qbr N h) λp=>bnd (Qha N f p) λe=>bif (e.2.2 != 0)then some (zHp,0,e.2.2)else bnd (Qdg N f.c e.2.1.page e.2.1.offset) λg=>bif (g.2 != 0)then some (zHp,0,g.2)else bnd (QfX N e.1 g.1 h) λj=>bif (j.2 != 0)then some (zHp,0,j.2)else some (j.1,g.1,0)
def Qh3(N:Nat)(f:Uj)(p:Wy):Option (Uj×Int×Int):=bnd (Qdp N f) λq=>bif (!q)then some ((Uj.mk zHp (Wq.mk [] [] []) (WD.mk []) (WD.mk []) [] []),0,19)else bnd (Qhn N f.h.c p) λr=>bif (!r)then some ((Uj.mk zHp (Wq.mk [] [] []) (WD.mk []) (WD.mk []) [] []),0,1)else bnd (Qg0 N f) λj=>bnd (Qhy N f.h p) λk=>bif (k.2.2==3)then(bnd (Qfb N f) λe=>bif (e.2.2 != 0)then some ((Uj.mk zHp (Wq.mk [] [] []) (WD.mk []) (WD.mk []) [] []),0,e.2.2)else bnd (Qhy N e.1.h p) λo=>bif (o.2.2 != 0)then some ((Uj.mk zHp (Wq.mk [] [] []) (WD.mk []) (WD.mk []) [] []),0,o.2.2)else some ((Uj.mk o.1 e.1.l e.1.g e.1.v e.1.P e.1.R),o.2.1,0))else bif (k.2.2 != 0)then some ((Uj.mk zHp (Wq.mk [] [] []) (WD.mk []) (WD.mk []) [] []),0,k.2.2)else some ((Uj.mk k.1 j.l j.g j.v j.P j.R),k.2.1,0)
def QgA(N:Nat):Option Bool:=bnd (QkS N (WP.mk 16 8)) λf=>bnd (Qh3 N f.1 (Wy.mk 3 3 0)) λe=>bif (f.2==0)then(bif (e.2.2==0)then(bif (e.2.1==4096)then(bnd (Qdp N e.1) λg=>some g)else some false)else some false)else some false
def Qa0(N:Nat)(f:Io)(j:Uj×WS×Int):Nat->Int->Option (Ex Bool Unit)
 |0,_=>none
 |n+1,v10=>
  bif (decide (v10<(f.w.length:Int)))then(bnd (Xd f.w v10) λk=>
   bnd (Qf1 N f.N k) λe=>
   bnd (Xd f.w v10) λo=>
   bnd (Qf1 N j.1 o) λg=>
   bif (e.2 != g.2)then some (.ret false)
   else bif (e.1 != 0)then(bif (g.1==0)then(bnd (Qb9 N f.N) λp=>
    bnd (QfR N f.N.h p e.1) λq=>
    bif q then some (.ret false)
    else bif (e.1==0)then(bif (g.1 != 0)then some (.ret false)
     else Qa0 N f j n (wI (v10+1)))
    else Qa0 N f j n (wI (v10+1)))
    else bif (e.1==0)then(bif (g.1 != 0)then some (.ret false)
     else Qa0 N f j n (wI (v10+1)))
    else Qa0 N f j n (wI (v10+1)))
   else bif (e.1==0)then(bif (g.1 != 0)then some (.ret false)
    else Qa0 N f j n (wI (v10+1)))
   else Qa0 N f j n (wI (v10+1)))
  else some (.nxt ())
def Qfq(N:Nat)(p:List Int):Option Bool:=bnd (Qhv N p 80) λf=>bnd (Qfb N f.N) λg=>bif (g.2.2 != 0)then some false else bnd (Qdp N f.N) λq=>bif (!q)then some false else bnd (Qdp N g.1) λs=>bif (!s)then some false else bnd (Qb9 N f.N) λu=>bnd (Qg9 N f.N.h u) λk=>bnd (Qb9 N g.1) λv=>bnd (Qg9 N g.1.h v) λo=>bif (k.2 != 0)then some false else bif (o.2 != 0)then some false else bnd (Qg4 N k.1 o.1) λw=>bif (!w)then some false else bnd (Qa0 N f g N 0) λe=>exK e (λr=>some r) λx=>bnd (QgA N) λj=>some j
end Go.Sx
