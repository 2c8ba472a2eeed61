import Derived.Test.YtokkmapiallffaaGreatMA
set_option linter.all false
namespace Go.Sx
structure WN where
 W:Int
 p:Int
structure Wo where
 k:Int
 s:Int
 u:Int
 P:Int
structure Wi where
 c:WN
 w:List Int
 p:List Wo
 s:Int
 b:Int
structure UF where
 J:Int
 a:Int
 V:Bool
structure UX where
 O:Int
 C0:Int
 B0:Bool
structure Wq where
 S:List UF
 x:List UX
 i:List Int
structure W6 where
 G:Int
 a:Int
 V:Bool
structure WD where
 e:List W6
structure UB where
 a:Int
 M:Int
structure Uj where
 h:Wi
 l:Wq
 g:WD
 v:WD
 P:List UB
 R:List Int
structure Ws where
 k:Int
 n:Int
 Map:Int
structure UZ where
 H:Ws
 D:List Int
structure IF where
 I:Int
 M:Int
 B0:Int
structure WP where
 c:WN
 T:List UZ
 l:Wq
 g:WD
 v:WD
 m:List IF
 R:List Int
structure Iw where
 N:Uj
 z:WP
 w:List Int
structure Im where
 L:List Int
 at_:Int
structure WT where
 j:Int
 K:Int
 F:Int
 E:Int
 f:Int
 y:Int
structure Oi where
 R:List Int
 Nodes:List UZ
structure OA where
 Op:Int
 A:Int
 B:Int
 C:Int
structure OE where
 Failed:Bool
 Collected:Bool
 B0:Int
structure I9 where
 page:Int
 offset:Int
structure IQ where
 l:Wq
structure Un where
 Fault:Int
 Page:Int
 Addr:Int
structure UT where
 addr:Int
 hd:Ws
structure Wv where
 h:Wi
 o:List Int
 t:List Int
 q:List Int
 d:Int
 r:WT
structure Ix where
 Tag:Int
 Index:Int
 J:Int
structure Ik where
 Width:Int
 Value:Int
structure OD where
 O:Int
 Len:Int
@[simp] abbrev zWd:WP:=WP.mk (WN.mk 0 0) [] (Wq.mk [] [] []) (WD.mk []) (WD.mk []) [] []
@[simp] abbrev zHp:Wi:=Wi.mk (WN.mk 0 0) [] [] 0 0
def Qaf(N:Nat)(e:Im)(f:Int):Option (Int×Im):=bif (decide (f<1))then some (0,e)else jn (λ(h:Int)=>grd (f≠0) <| grd (f≠0) <| some (((wI ((h.tmod f)+f)).tmod f),(Im.mk e.L (wI (e.at_+1))))) λg=>bif (decide (e.at_<(e.L.length:Int)))then(bnd (Xd e.L e.at_) λj=>g j)else g (wI ((wI (e.at_*7))+3))
def Qfn(N:Nat)(g:Im):Option (WN×Im):=bnd (Qaf N g 4) λe=>bnd (Xd [16,16,20,32] e.1) λh=>bnd (Qaf N e.2 5) λf=>bnd (Xd [8,12,16,20,24] f.1) λj=>some ((WN.mk h j),f.2)
def QaR(N:Nat)(e:WN):Option Bool:=bif (decide (e.W>=16))then(bif (decide (e.W<=64))then(bif ((e.W.tmod 4)==0)then(bif (decide (e.p>=8))then some (decide (e.p<=64))else some false)else some false)else some false)else some false
def Qgb(N:Nat)(e:WN):Option (Wi×Int):=bnd (QaR N e) λf=>bif (!f)then some (zHp,1)else grd (0<=(wI (e.p*e.W))/\(wI (e.p*e.W)).toNat*8<=140737488355328) <| grd (0<=e.p/\e.p.toNat*32<=140737488355328) <| some ((Wi.mk e (List.replicate (wI (e.p*e.W)).toNat (0:Int)) (List.replicate e.p.toNat (Wo.mk 0 0 0 0)) 0 (-1)),0)
def QeW(N:Nat)(f:WN):Option (Uj×Int):=bnd (Qgb N f) λe=>some ((Uj.mk e.1 (Wq.mk [] [] []) (WD.mk []) (WD.mk []) [] []),e.2)
def Qgc(N:Nat)(e:WN):Option (WP×Int):=bnd (QaR N e) λf=>bif (!f)then some (zWd,1)else some ((WP.mk e [] (Wq.mk [] [] []) (WD.mk []) (WD.mk []) [] []),0)
def Qbj(N:Nat)(p:Im):Option (Iw×Im):=bnd (Qfn N p) λj=>bnd (QeW N j.1) λf=>bnd (Qgc N j.1) λe=>bnd (Qaf N j.2 40) λk=>some ((Iw.mk (Uj.mk f.1.h (Wq.mk f.1.l.S [(UX.mk 0 (wI (4+k.1)) true)] f.1.l.i) f.1.g f.1.v f.1.P f.1.R) (WP.mk e.1.c e.1.T (Wq.mk e.1.l.S [(UX.mk 0 (wI (4+k.1)) true)] e.1.l.i) e.1.g e.1.v e.1.m e.1.R) [0]),k.2)
def Qgk(N:Nat)(e:Im):Option Bool:=some (decide (e.at_>=(e.L.length:Int)))
def QcW(N:Nat)(f:WD):Nat->Int->Option (Ex Bool Unit)
 |0,_=>none
 |n+1,g=>
  bif (decide (g<(f.e.length:Int)))then(bnd (Xd f.e g) λh=>
   bif (decide (h.G<1))then some (.ret false)
   else bif (decide (h.G>4294967295))then some (.ret false)
   else bif (!h.V)then(bif (h.a != 0)then some (.ret false)
    else QcW N f n (wI (g+1)))
   else QcW N f n (wI (g+1)))
  else some (.nxt ())
def Qce(N:Nat)(f:WD):Option Bool:=bnd (QcW N f N 0) λe=>exK e (λr=>some r) λg=>some (decide ((f.e.length:Int)<=64))
def QbQ(N:Nat)(f:WD):Nat->Int->(List Int)->Option (List Int)
 |0,_,_=>none
 |n+1,g,h=>
  bif (decide (g<(f.e.length:Int)))then(bnd (Qce N f) λj=>
   bif j then(bnd (Xd f.e g) λk=>
    bif k.V then(bnd (Xd f.e g) λp=>
     grd ((h.length+1)*8<=140737488355328) <|
     QbQ N f n (wI (g+1)) (h++[p.a]))
    else QbQ N f n (wI (g+1)) h)
   else some h)
  else some h
def Qbu(N:Nat)(e:WD):Option (List Int):=bnd (QbQ N e N 0 []) λf=>some f
def Qd1(N:Nat)(f:Wq)(g:Int):Nat->Int->Int->Option Int
 |0,_,_=>none
 |n+1,h,e=>
  bif (decide (e<g))then(bnd (Xd f.S e) λj=>
   bif j.V then Qd1 N f g n (wI (h+1)) (wI (e+1))
   else Qd1 N f g n h (wI (e+1)))
  else some h
def Qgl(N:Nat)(e:Wq)(f g:Int):Option Int:=bnd (Qd1 N e g N 0 f) λh=>some h
def Qhp(N:Nat)(e:Wq)(f:Int):Option Int:=bif (decide ((wI (f+1))<(e.x.length:Int)))then(bnd (Xd e.x (wI (f+1))) λg=>some g.O)else some (e.S.length:Int)
def Qdw(N:Nat)(e:Wq):Nat->Int->Option (Ex Bool Unit)
 |0,_=>none
 |n+1,f=>
  bif (decide (f<(e.i.length:Int)))then(bnd (Xd e.i f) λg=>
   bif (decide (g<0))then some (.ret false)
   else bnd (Xd e.i f) λh=>
   bif (decide (h>4095))then some (.ret false)
   else Qdw N e n (wI (f+1)))
  else some (.nxt ())
def Qaw(N:Nat)(f:Wq):Nat->Int->Int->Option (Ex Bool Unit)
 |0,_,_=>none
 |n+1,g,v6=>
  bif (decide (v6<(f.S.length:Int)))then(bnd (Xd f.S v6) λe=>
   bif (decide (e.J<=g))then some (.ret false)
   else bif (decide (e.J>(f.i.length:Int)))then some (.ret false)
   else bnd (Xd f.i (wI (e.J-1))) λh=>
   bif (h != v6)then some (.ret false)
   else bif (!(e.V==(e.a != 0)))then some (.ret false)
   else Qaw N f n e.J (wI (v6+1)))
  else some (.nxt ())
def Qat(N:Nat)(f:Wq):Nat->Int->Int->Option (Ex Bool Unit)
 |0,_,_=>none
 |n+1,v10,v11=>
  bif (decide (v11<(f.x.length:Int)))then(bnd (Xd f.x v11) λe=>
   bif (v11==0)then(bif (e.O != 0)then some (.ret false)
    else bif (!e.B0)then some (.ret false)
    else bif (decide (e.O<v10))then some (.ret false)
    else bif (decide (e.O>(f.S.length:Int)))then some (.ret false)
    else bif (decide (e.C0<0))then some (.ret false)
    else bif (decide (e.C0>64))then some (.ret false)
    else Qat N f n e.O (wI (v11+1)))
   else bif (decide (e.O<v10))then some (.ret false)
   else bif (decide (e.O>(f.S.length:Int)))then some (.ret false)
   else bif (decide (e.C0<0))then some (.ret false)
   else bif (decide (e.C0>64))then some (.ret false)
   else Qat N f n e.O (wI (v11+1)))
  else some (.nxt ())
def QcX(N:Nat)(f:Wq):Nat->Int->Option (Ex Bool Unit)
 |0,_=>none
 |n+1,e=>
  bif (decide (e<(f.x.length:Int)))then(bnd (Xd f.x e) λg=>
   bnd (Qhp N f e) λh=>
   bnd (Qgl N f g.O h) λj=>
   bnd (Xd f.x e) λk=>
   bif (decide (j>k.C0))then some (.ret false)
   else QcX N f n (wI (e+1)))
  else some (.nxt ())
def Qcf(N:Nat)(f:Wq):Option Bool:=jn (λ(_:Unit)=>bnd (Qdw N f N 0) λe=>exK e (λr=>some r) λk=>bnd (Qaw N f N 0 0) λe=>exK e (λr=>some r) λp=>bnd (Qat N f N 0 0) λe=>exK e (λr=>some r) λh=>bnd (QcX N f N 0) λe=>exK e (λr=>some r) λj=>some true) λg=>bif (decide ((f.i.length:Int)>4096))then some false else bif (decide ((f.x.length:Int)>64))then some false else bif ((f.x.length:Int)==0)then(bif (decide ((f.S.length:Int)>0))then some false else g ())else g ()
def QbR(N:Nat)(e:Wq):Nat->Int->(List Int)->Option (List Int)
 |0,_,_=>none
 |n+1,f,g=>
  bif (decide (f<(e.S.length:Int)))then(bnd (Qcf N e) λh=>
   bif h then(bnd (Xd e.S f) λj=>
    bif j.V then(bnd (Xd e.S f) λk=>
     grd ((g.length+1)*8<=140737488355328) <|
     QbR N e n (wI (f+1)) (g++[k.a]))
    else QbR N e n (wI (f+1)) g)
   else some g)
  else some g
def QcL(N:Nat)(e:Wq):Option (List Int):=bnd (QbR N e N 0 []) λf=>some f
def QbH(N:Nat)(e:Uj):Nat->Int->(List Int)->Option (List Int)
 |0,_,_=>none
 |n+1,f,g=>
  bif (decide (f<(e.P.length:Int)))then(bnd (Xd e.P f) λh=>
   grd ((g.length+1)*8<=140737488355328) <|
   QbH N e n (wI (f+1)) (g++[h.a]))
  else some g
def Qcy(N:Nat)(e:Uj):Option (List Int):=grd (e.R.length*8<=140737488355328) <| bnd (QcL N e.l) λf=>grd ((e.R.length+f.length)*8<=140737488355328) <| bnd (Qbu N e.g) λh=>grd (((e.R.length+f.length)+h.length)*8<=140737488355328) <| bnd (QbH N e N 0 ((e.R++f)++h)) λj=>some j
def Qfo(N:Nat)(e:List Int)(g:Int):Nat->Int->Option (Ex Bool Unit)
 |0,_=>none
 |n+1,f=>
  bif (decide (f<(e.length:Int)))then(bnd (Xd e f) λh=>
   bif (h==g)then some (.ret true)
   else Qfo N e g n (wI (f+1)))
  else some (.nxt ())
def QbL(N:Nat)(f:List Int)(g:Int):Option Bool:=bnd (Qfo N f g N 0) λe=>exK e (λr=>some r) λh=>some false
def QcT(N:Nat)(e:WN):Option Int:=bnd (QaR N e) λf=>bif (!f)then some 0 else some (wI (e.W.tdiv 4))
def QcM(N:Nat)(f:WN)(g:Int):Nat->Int->Option (Ex Int Unit)
 |0,_=>none
 |n+1,e=>
  bif (decide (e<=4))then(bif (decide ((wI (e*f.W))>=g))then some (.ret e)
   else QcM N f g n (wI (e+1)))
  else some (.nxt ())
def QdH(N:Nat)(f:WN)(g:Int):Option Int:=bnd (QaR N f) λh=>bif (!h)then some (-1)else bif (decide (g<1))then some (-1)else bnd (QcT N f) λj=>bif (decide (g<=j))then some 0 else bnd (QcM N f g N 1) λe=>exK e (λr=>some r) λk=>some (-1)
def QgU(N:Nat)(e:Int):Option Bool:=bif (decide (e>=0))then some (decide (e<=2147483647))else some false
def Qdx(N:Nat)(e:List Wo)(h:Int):Nat->Int->Int->Option Int
 |0,_,_=>none
 |n+1,f,g=>
  bif (decide (g<(e.length:Int)))then(bnd (Xd e g) λj=>
   bif (j.k==3)then(bnd (Xd e g) λp=>
    bif (p.s==h)then Qdx N e h n (wI (f+1)) (wI (g+1))
    else some f)
   else some f)
  else some f
def Qe7(N:Nat)(e:List Wo)(f g:Int):Option Int:=bnd (Qdx N e g N 0 (wI (f+1))) λh=>some h
def QaB(N:Nat)(f:Wi):Nat->Int->Int->Option (Ex Bool Unit)
 |0,_,_=>none
 |n+1,h,j=>
  bif (decide (j<(f.p.length:Int)))then(bnd (Xd f.p j) λe=>
   bif (!((e.k==3)==(decide (h>0))))then some (.ret false)
   else bif (decide (e.s<0))then some (.ret false)
   else bif (decide (e.s>1))then some (.ret false)
   else bnd (QgU N e.P) λy=>
   bif (!y)then some (.ret false)
   else jn (λ(g:Int)=>
    QaB N f n (if 0<(wI (g-1))then(wI (g-1))else 0) (wI (j+1))) λv=>
   bif (e.k==0)then(bif (!((e.k==0)&&((e.s==0)&&((e.u==0)&&(e.P==0)))))then some (.ret false)
    else v h)
   else jn (λ(q:Int)=>
    v q) λw=>
   bif (e.k==1)then(bif (decide (e.u<0))then some (.ret false)
    else bif (decide (e.u>f.c.W))then some (.ret false)
    else w h)
   else jn (λ(z:Int)=>
    w z) λx=>
   bif (e.k==2)then(bnd (QdH N f.c e.u) λr=>
    bif (decide (r<1))then some (.ret false)
    else bnd (Qe7 N f.p j e.s) λA=>
    bif (decide (A<(wI (r-1))))then some (.ret false)
    else x r)
   else bif (e.k==3)then(bif (e.u != 0)then some (.ret false)
    else bif (e.P != 0)then some (.ret false)
    else x h)
   else some (.ret false))
  else some (.nxt ())
def Qaa(N:Nat)(f:Wi):Option Bool:=bnd (QaR N f.c) λh=>bif (!h)then some false else bif ((f.w.length:Int) != (wI (f.c.p*f.c.W)))then some false else bif ((f.p.length:Int) != f.c.p)then some false else bif (decide (f.s<0))then some false else bif (decide (f.s>1))then some false else jn (λ(_:Unit)=>bnd (QaB N f N 0 0) λe=>exK e (λr=>some r) λj=>some true) λg=>bif (f.b != (-1))then(bif (decide (f.b<0))then some false else bif (decide (f.b>=(f.p.length:Int)))then some false else bnd (Xd f.p f.b) λq=>bif (q.k != 1)then some false else g ())else g ()
def Qb9(N:Nat)(e:WN)(f:Int):Option (Int×Int×Int):=bnd (QaR N e) λg=>bif (!g)then some (0,0,1)else bif (decide (f<4096))then some (0,0,2)else bif (decide (f>=(wU (wI (4096+(wI (e.p*e.W)))))))then some (0,0,2)else grd (e.W≠0) <| grd (e.W≠0) <| some ((wI ((wI (wU (f-4096))).tdiv e.W)),((wI (wU (f-4096))).tmod e.W),0)
def QdI(N:Nat)(f:List Int)(e g:Int):Option (Int×Bool):=bif (decide (e<4096))then some (0,false)else bif (decide (e>(wU (4096+(wU (f.length:Int))))))then some (0,false)else some ((wI (wU (e-4096))),(decide (g<=(wI ((f.length:Int)-(wI (wU (e-4096))))))))
def QfY(N:Nat)(f:List Int)(g:Int):Option (Int×Int):=bnd (QdI N f g 1) λe=>bif (!e.2)then some (0,2)else some (e.1,0)
def Qbk(N:Nat)(f:List Int)(g:Int):Option (Int×Int):=bnd (QfY N f g) λe=>bif (e.2 != 0)then some (0,e.2)else bnd (Xd f e.1) λh=>some (h,0)
def Qc3(N:Nat)(e:Ws):Option Bool:=bif (decide (e.k<0))then some false else bif (decide (e.k>3))then some false else bif (decide (e.n<0))then some false else bif (decide (e.n>255))then some false else bif (e.k != 1)then some (e.Map==0)else bif (decide (e.n<=32))then(grd (0<=(wU e.n)) <| some (decide ((wU e.Map)<(ZY .u64 1 (wU e.n)))))else some false
def Qcz(N:Nat)(e:Ws):Option (Int×Int):=bnd (Qc3 N e) λf=>bif (!f)then some (0,1)else some ((wU ((wU ((wU (1+(wU (4*(wU e.k)))))+(wU (16*(wU e.n)))))+(ZY .u64 (wU e.Map) 16))),0)
def QcA(N:Nat)(e:Int):Option (Ws×Bool):=bnd (Qcz N (Ws.mk (wI (Zq .u64 (Yz .u64 e 2) 3)) (wI (Zq .u64 (Yz .u64 e 4) 4095)) (wW (Yz .u64 e 16)))) λf=>bif (f.2 != 0)then some ((Ws.mk 0 0 0),false)else bif (f.1 != e)then some ((Ws.mk 0 0 0),false)else some ((Ws.mk (wI (Zq .u64 (Yz .u64 e 2) 3)) (wI (Zq .u64 (Yz .u64 e 4) 4095)) (wW (Yz .u64 e 16))),true)
def QcN(N:Nat)(e:Ws):Option Int:=bnd (Qc3 N e) λf=>bif (!f)then some 0 else some (wI (e.n+1))
def Qao(N:Nat)(h:Wi)(q:Int):Option (Ws×Int):=bnd (Qaa N h) λs=>bif (!s)then some ((Ws.mk 0 0 0),1)else bnd (Qb9 N h.c q) λf=>bif (f.2.2 != 0)then some ((Ws.mk 0 0 0),2)else bnd (Xd h.p f.1) λe=>bnd (Qbk N h.w q) λv=>bnd (QcA N v.1) λg=>jn (λ(_:Unit)=>bnd (QcN N g.1) λj=>bif (e.k==1)then(bif (decide ((wI (f.2.1+j))>e.u))then some ((Ws.mk 0 0 0),19)else bif (e.k==2)then(bif (f.2.1 != 0)then some ((Ws.mk 0 0 0),19)else bif (j != e.u)then some ((Ws.mk 0 0 0),19)else some (g.1,0))else some (g.1,0))else bif (e.k==2)then(bif (f.2.1 != 0)then some ((Ws.mk 0 0 0),19)else bif (j != e.u)then some ((Ws.mk 0 0 0),19)else some (g.1,0))else some (g.1,0)) λr=>bif (e.k != 1)then(bif (e.k != 2)then some ((Ws.mk 0 0 0),19)else bif (decide (f.2.1>=e.u))then some ((Ws.mk 0 0 0),19)else bif (!g.2)then some ((Ws.mk 0 0 0),19)else r ())else bif (decide (f.2.1>=e.u))then some ((Ws.mk 0 0 0),19)else bif (!g.2)then some ((Ws.mk 0 0 0),19)else r ()
def Qbx(N:Nat)(e:WN)(f g:Int):Option (Int×Int):=bnd (QaR N e) λh=>bif (!h)then some (0,1)else bif (decide (f<0))then some (0,2)else bif (decide (f>=e.p))then some (0,2)else bif (decide (g<0))then some (0,2)else bif (decide (g>=e.W))then some (0,2)else some ((wU (wI ((wI (4096+(wI (f*e.W))))+g))),0)
def Qai(N:Nat)(f:Wi)(p:Int)(g:Wo):Nat->Int->(List Int)->Option (Ex (List Int×Int) (List Int))
 |0,_,_=>none
 |n+1,h,e=>
  bif (decide (h<g.u))then(bnd (Qbx N f.c p h) λj=>
   bnd (Qao N f j.1) λq=>
   bif (q.2 != 0)then some (.ret ([],19))
   else grd ((e.length+1)*8<=140737488355328) <|
   bif (g.k==2)then some (.nxt (e++[j.1]))
   else bnd (QcN N q.1) λr=>
   Qai N f p g n (wI (h+r)) (e++[j.1]))
  else some (.nxt e)
def Qag(N:Nat)(f:Wi)(g:Int):Option (List Int×Int):=bnd (Qaa N f) λj=>bif (!j)then some ([],1)else bif (decide (g<0))then some ([],2)else bif (decide (g>=(f.p.length:Int)))then some ([],2)else bnd (Xd f.p g) λh=>bif (h.k==0)then some ([],0)else bif (h.k==3)then some ([],0)else bnd (Qai N f g h N 0 []) λe=>exK e (λr=>some r) λq=>some (q,0)
def QaK(N:Nat)(f:Wi):Nat->Int->(List Int)->Option (Ex (List Int×Int) (List Int))
 |0,_,_=>none
 |n+1,g,h=>
  bif (decide (g<(f.p.length:Int)))then(bnd (Qag N f g) λe=>
   bif (e.2 != 0)then some (.ret ([],e.2))
   else grd ((h.length+e.1.length)*8<=140737488355328) <|
   QaK N f n (wI (g+1)) (h++e.1))
  else some (.nxt h)
def QbA(N:Nat)(f:Wi):Option (List Int×Int):=bnd (Qaa N f) λg=>bif (!g)then some ([],1)else bnd (QaK N f N 0 []) λe=>exK e (λr=>some r) λh=>some (h,0)
def Qa8(N:Nat)(h:Wi)(e:List Int×Int):Nat->Int->(List Int)->Option (List Int)
 |0,_,_=>none
 |n+1,f,g=>
  bif (decide (f<(e.1.length:Int)))then(bnd (Xd e.1 f) λj=>
   bnd (Qao N h j) λp=>
   bif (p.1.k != 0)then(bnd (Xd e.1 f) λq=>
    grd ((g.length+1)*8<=140737488355328) <|
    Qa8 N h e n (wI (f+1)) (g++[q]))
   else Qa8 N h e n (wI (f+1)) g)
  else some g
def Qal(N:Nat)(e:Wi):Option (List Int×Int):=bnd (QbA N e) λf=>bnd (Qa8 N e f N 0 []) λg=>some (g,f.2)
def QaS(N:Nat)(e:Wi)(h:Int)(f:List Int):Nat->Int->Option (Ex Int Unit)
 |0,_=>none
 |n+1,g=>
  bif (decide (g<(f.length:Int)))then(bnd (Xd f g) λs=>
   bnd (Qao N e s) λj=>
   bnd (QcN N j.1) λu=>
   bnd (QcT N e.c) λv=>
   bnd (Xd e.p h) λw=>
   bif (w.k==1)then(bif (!(decide (u<=v)))then(bnd (Xd f g) λx=>
       some (.ret x))
    else bnd (Xd e.p h) λy=>
    bif (y.k==2)then(bif (j.1.k==0)then(bnd (Xd f g) λq=>
        some (.ret q))
     else QaS N e h f n (wI (g+1)))
    else QaS N e h f n (wI (g+1)))
   else bnd (Xd e.p h) λz=>
   bif (z.k==2)then(bif (j.1.k==0)then(bnd (Xd f g) λr=>
       some (.ret r))
    else QaS N e h f n (wI (g+1)))
   else QaS N e h f n (wI (g+1)))
  else some (.nxt ())
def Qen(N:Nat)(f:Wi)(g:Int)(h:List Int):Option Int:=bnd (QaS N f g h N 0) λe=>exK e (λr=>some r) λj=>some 0
def QcO(N:Nat)(f:Wi):Nat->Int->Option Int
 |0,_=>none
 |n+1,e=>
  bnd (Xd f.p e) λg=>
  bif (g.k==3)then QcO N f n (wI (e-1))
  else some e
def QeX(N:Nat)(e:Wi)(f:Int):Option Int:=bnd (QcO N e N f) λg=>some g
def QbS(N:Nat)(e:Wi)(f:Int)(g:List Int)(h j:Int):Nat->Int->(List Bool)->Option (List Bool)
 |0,_,_=>none
 |n+1,v7,v8=>
  bif (decide (v7<j))then(bnd (Xd g h) λk=>
   bif (decide ((wI ((wI ((wI ((wI k)-4096))+v7))-(wI (f*e.c.W))))>=0))then(grd (v8.length<=140737488355328) <|
    bif (decide ((wI ((wI ((wI ((wI k)-4096))+v7))-(wI (f*e.c.W))))<(v8.length:Int)))then(bnd (Xd v8 (wI ((wI ((wI ((wI k)-4096))+v7))-(wI (f*e.c.W))))) λp=>
     QbS N e f g h j n (wI (v7+1)) (v8.set (wI ((wI ((wI ((wI k)-4096))+v7))-(wI (f*e.c.W)))).toNat true))
    else QbS N e f g h j n (wI (v7+1)) v8)
   else QbS N e f g h j n (wI (v7+1)) v8)
  else some v8
def Qdo(N:Nat)(g:Wi)(j:Int)(e:List Int):Nat->Int->(List Bool)->Option (List Bool)
 |0,_,_=>none
 |n+1,f,p=>
  bif (decide (f<(e.length:Int)))then(bnd (Xd e f) λs=>
   bnd (Qao N g s) λq=>
   bnd (QcN N q.1) λu=>
   jn (λ(v:Int)=>
    bnd (QbS N g j e f v N 0 p) λh=>
    Qdo N g j e n (wI (f+1)) h) λr=>
   bif (q.1.k==0)then r 1
   else r u)
  else some p
def QgV(N:Nat)(e:Wi)(g:Int)(h:List Int):Option (List Bool):=grd (0<=e.c.W/\e.c.W.toNat<=140737488355328) <| bnd (Qdo N e g h N 0 (List.replicate e.c.W.toNat false)) λf=>some f
def QgW(N:Nat)(e:Wi)(f g:Int):Option Int:=bnd (Qbx N e.c f g) λh=>bnd (Qbk N e.w h.1) λj=>some j.1
def QfC(N:Nat)(e:Wi)(f g:Int):Option Int:=bnd (QgW N e f g) λh=>some h
def QfN(N:Nat)(e:Wi)(f g:Int):Option Int:=some (wU (wI ((wI (4096+(wI (f*e.c.W))))+g)))
def QcP(N:Nat)(f:Wi)(g:Int)(h:List Bool):Nat->Int->Option (Ex Int Unit)
 |0,_=>none
 |n+1,e=>
  bif (decide (e<(h.length:Int)))then(bnd (Xd h e) λj=>
   bif (!j)then(bnd (QfC N f g e) λk=>
    bif (k != 0)then(bnd (QfN N f g e) λp=>
     some (.ret p))
    else QcP N f g h n (wI (e+1)))
   else QcP N f g h n (wI (e+1)))
  else some (.nxt ())
def Qeg(N:Nat)(f:Wi)(g:Int):Option Int:=bnd (QeX N f g) λh=>bnd (Qag N f h) λj=>bnd (QgV N f g j.1) λk=>bnd (QcP N f g k N 0) λe=>exK e (λr=>some r) λp=>some 0
def Qeh(N:Nat)(f:Wi)(e:Int):Option Un:=jn (λ(_:Unit)=>bnd (Qag N f e) λg=>bif (g.2 != 0)then some (Un.mk 3 e 0)else bnd (Qen N f e g.1) λh=>bif (h != 0)then some (Un.mk 5 e h)else bnd (Qeg N f e) λj=>bif (j != 0)then some (Un.mk 4 e j)else some (Un.mk 0 0 0)) λq=>bnd (Xd f.p e) λr=>bif (r.k != 0)then(bnd (Xd f.p e) λu=>bif (u.s != f.s)then some (Un.mk 2 e 0)else q ())else q ()
def QbM(N:Nat)(f:Wi)(g:Int):Option (Ws×Int):=bnd (Qaa N f) λh=>bif (!h)then some ((Ws.mk 0 0 0),1)else bif (g==0)then some ((Ws.mk 0 0 0),5)else bnd (Qao N f g) λe=>bif (e.2==0)then(bif (e.1.k==0)then some ((Ws.mk 0 0 0),4)else some (e.1,e.2))else some (e.1,e.2)
def Qdb(N:Nat)(g:List Int)(h f:Int):Option (List Int×Int):=bif (decide (f<0))then some ([],1)else bnd (QdI N g h f) λe=>bif (!e.2)then some ([],2)else grd (0<=e.1/\e.1<=(wI (e.1+f))/\(wI (e.1+f))<=(g.length:Int)) <| grd ((min ((wI (e.1+f)).toNat-e.1.toNat) (g.length-e.1.toNat))*8<=140737488355328) <| some (((g.drop e.1.toNat).take ((wI (e.1+f)).toNat-e.1.toNat)),0)
def Qdc(N:Nat)(f:Wi)(g:Int):Option (List Int×Int):=bnd (QbM N f g) λe=>bif (e.2 != 0)then some ([],e.2)else bnd (Qdb N f.w (wU (g+1)) e.1.n) λh=>some (h.1,h.2)
def Qby(N:Nat)(e:Ws)(f:Int):Option Bool:=bnd (Qc3 N e) λg=>bif (!g)then some false else bif (decide (f<0))then some false else bif (decide (f>=e.n))then some false else bif (e.k==2)then some true else bif (e.k==1)then(grd (0<=(wU f)) <| some ((Zq .u32 (Yz .u32 e.Map (wU f)) 1)==1))else some false
def Qav(N:Nat)(h:Wi)(f e:List Int×Int)(j:Int)(k:Ws×Int):Nat->Int->Option (Ex Un Unit)
 |0,_=>none
 |n+1,v7=>
  grd (e.1.length<=140737488355328) <|
  bif (decide (v7<(e.1.length:Int)))then(bnd (Qby N k.1 v7) λs=>
   bif s then(bnd (Xd e.1 v7) λu=>
    bif (u != 0)then(bnd (Xd e.1 v7) λp=>
     bnd (QbL N f.1 p) λq=>
     bif (!q)then(bnd (Xd f.1 j) λg=>
      bnd (Qb9 N h.c (wU ((wU (g+1))+(wU v7)))) λr=>
      some (.ret (Un.mk 6 r.1 (wU ((wU (g+1))+(wU v7))))))
     else Qav N h f e j k n (wI (v7+1)))
    else Qav N h f e j k n (wI (v7+1)))
   else Qav N h f e j k n (wI (v7+1)))
  else some (.nxt ())
def Qbv(N:Nat)(h:Wi)(f:List Int×Int):Nat->Int->Option (Ex Un Unit)
 |0,_=>none
 |n+1,g=>
  bif (decide (g<(f.1.length:Int)))then(bnd (Xd f.1 g) λj=>
   bnd (QbM N h j) λk=>
   bnd (Xd f.1 g) λp=>
   bnd (Qdc N h p) λq=>
   bnd (Qav N h f q g k N 0) λe=>exK e (λr=>some (.ret r)) λs=>
   Qbv N h f n (wI (g+1)))
  else some (.nxt ())
def Qdy(N:Nat)(f:Wi):Option Un:=bnd (Qal N f) λg=>bnd (Qbv N f g N 0) λe=>exK e (λr=>some r) λh=>some (Un.mk 0 0 0)
def Qbd(N:Nat)(e:Wi):Nat->Int->Option (Ex Un Unit)
 |0,_=>none
 |n+1,f=>
  bif (decide (f<(e.p.length:Int)))then(bnd (Qeh N e f) λg=>
   bif (g.Fault != 0)then some (.ret g)
   else Qbd N e n (wI (f+1)))
  else some (.nxt ())
def Qa4(N:Nat)(e:Wi):Nat->Int->Int->Option Int
 |0,_,_=>none
 |n+1,v6,v7=>
  bif (decide (v7<(e.p.length:Int)))then(bnd (Xd e.p v7) λf=>
   bif (f.k==1)then(bnd (Xd e.p v7) λg=>
    bif (decide (g.P>0))then Qa4 N e n (wI (v6+1)) (wI (v7+1))
    else Qa4 N e n v6 (wI (v7+1)))
   else Qa4 N e n v6 (wI (v7+1)))
  else some v6
def Qe8(N:Nat)(f:Wi):Option Un:=bnd (Qaa N f) λj=>bif (!j)then some (Un.mk 1 0 0)else bnd (Qbd N f N 0) λe=>exK e (λr=>some r) λk=>bnd (Qdy N f) λh=>bif (h.Fault != 0)then some h else bnd (Qa4 N f N 0 0) λg=>bif (decide (g>(wI (f.c.p.tdiv 4))))then some (Un.mk 7 0 0)else some (Un.mk 0 0 0)
def Qbl(N:Nat)(f:Wi):Option Bool:=bnd (Qe8 N f) λe=>some ((e.Fault==0)&&((e.Page==0)&&(e.Addr==0)))
def Qe9(N:Nat)(f:List UB)(g:Int):Nat->Int->Option (Ex Int Unit)
 |0,_=>none
 |n+1,e=>
  bif (decide (e<(f.length:Int)))then(bnd (Xd f e) λh=>
   bif (h.a==g)then some (.ret e)
   else Qe9 N f g n (wI (e+1)))
  else some (.nxt ())
def QgK(N:Nat)(f:List UB)(g:Int):Option Int:=bnd (Qe9 N f g N 0) λe=>exK e (λr=>some r) λh=>some (-1)
def QfD(N:Nat)(e:Wi)(f:Int):Option Int:=bnd (Qb9 N e.c f) λg=>some g.1
def Qbe(N:Nat)(r:Wi)(e:List UB)(s:List Int×Int):Nat->Int->(List Int)->Option (Ex Bool (List Int))
 |0,_,_=>none
 |n+1,f,h=>
  bif (decide (f<(e.length:Int)))then(bnd (Xd e f) λu=>
   bnd (QbL N s.1 u.a) λv=>
   bif (!v)then some (.ret false)
   else bnd (Xd e f) λw=>
   bnd (QgK N e w.a) λx=>
   bif (x != f)then some (.ret false)
   else bnd (Xd e f) λy=>
   bif (decide (y.M<1))then some (.ret false)
   else bnd (Xd e f) λj=>
   bif (decide (j.M>1000))then some (.ret false)
   else bnd (Xd e f) λk=>
   bnd (QfD N r k.a) λg=>
   bnd (Xd h g) λp=>
   bnd (Xd e f) λq=>
   bnd (Xd h g) λz=>
   Qbe N r e s n (wI (f+1)) (h.set g.toNat (wI (p+q.M))))
  else some (.nxt h)
def QbB(N:Nat)(f:Wi)(e:List Int):Nat->Int->Option (Ex Bool Unit)
 |0,_=>none
 |n+1,v17=>
  bif (decide (v17<(f.p.length:Int)))then(bnd (Xd f.p v17) λg=>
   bnd (Xd e v17) λh=>
   bif (g.P != h)then some (.ret false)
   else QbB N f e n (wI (v17+1)))
  else some (.nxt ())
def Qcg(N:Nat)(f:Wi)(h:List UB):Option Bool:=bnd (Qbl N f) λj=>bif (!j)then some false else bif (decide ((h.length:Int)>64))then some false else bnd (Qal N f) λk=>grd (0<=(f.p.length:Int)/\(f.p.length:Int).toNat*8<=140737488355328) <| bnd (Qbe N f h k N 0 (List.replicate (f.p.length:Int).toNat (0:Int))) λe=>exK e (λr=>some r) λg=>bnd (QbB N f g N 0) λe=>exK e (λr=>some r) λq=>some true
def QaC(N:Nat)(e:List Int)(g:List Int×Int):Nat->Int->Option (Ex Bool Unit)
 |0,_=>none
 |n+1,f=>
  bif (decide (f<(e.length:Int)))then(bnd (Xd e f) λh=>
   bif (h != 0)then(bnd (Xd e f) λj=>
    bnd (QbL N g.1 j) λk=>
    bif (!k)then some (.ret false)
    else QaC N e g n (wI (f+1)))
   else QaC N e g n (wI (f+1)))
  else some (.nxt ())
def QbC(N:Nat)(f:Wi)(g:List Int):Option Bool:=bnd (Qbl N f) λh=>bif (!h)then some false else bnd (Qal N f) λj=>bnd (QaC N g j N 0) λe=>exK e (λr=>some r) λk=>some true
def QbI(N:Nat)(e:Uj):Option Bool:=bnd (Qcg N e.h e.P) λp=>bif (!p)then some false else bnd (Qcf N e.l) λq=>bif (!q)then some false else bnd (Qce N e.g) λr=>bif (!r)then some false else bnd (Qce N e.v) λs=>bif (!s)then some false else bnd (Qbu N e.g) λf=>bnd (QbL N f 0) λu=>bif u then some false else grd (e.R.length*8<=140737488355328) <| bnd (QcL N e.l) λj=>grd ((e.R.length+j.length)*8<=140737488355328) <| grd (((e.R.length+j.length)+f.length)*8<=140737488355328) <| bnd (Qbu N e.v) λk=>grd ((((e.R.length+j.length)+f.length)+k.length)*8<=140737488355328) <| bnd (QbC N e.h (((e.R++j)++f)++k)) λw=>some w
def QbD(N:Nat)(g:Wi)(h:List Int×Int):Nat->Int->(List Wo)->Option (List Wo)
 |0,_,_=>none
 |n+1,f,e=>
  grd (e.length<=140737488355328) <|
  bif (decide (f<(e.length:Int)))then(bnd (Xd e f) λp=>
   bif (p.k==1)then(bif (decide (p.P>0))then(bnd (Xd e f) λj=>
       QbD N g h n (wI (f+1)) (e.set f.toNat (Wo.mk j.k (wI (1-g.s)) j.u j.P)))
    else QbD N g h n (wI (f+1)) e)
   else QbD N g h n (wI (f+1)) e)
  else some e
def Qc4(N:Nat)(e:Wi):Option (Wv×Int):=bnd (Qaa N e) λg=>bif (!g)then some ((Wv.mk zHp [] [] [] 0 (WT.mk 0 0 0 0 0 0)),1)else bnd (Qbl N e) λh=>bif (!h)then some ((Wv.mk zHp [] [] [] 0 (WT.mk 0 0 0 0 0 0)),19)else bnd (Qal N e) λf=>grd (e.p.length*32<=140737488355328) <| bnd (QbD N e f N 0 e.p) λj=>some ((Wv.mk (Wi.mk e.c e.w j e.s e.b) f.1 [] [] 0 (WT.mk 0 0 0 0 0 0)),0)
def QcB(N:Nat)(e:Int):Option (Int×Bool):=bif ((e.tmod 4) != 2)then some (0,false)else bif (decide ((Yz .u64 e 2)>=4294967296))then some (0,false)else some ((Yz .u64 e 2),true)
def QcY(N:Nat)(e:Wv)(g:Int):Nat->Int->Option (Ex Bool Unit)
 |0,_=>none
 |n+1,f=>
  bif (decide (f<(e.t.length:Int)))then(bnd (Xd e.t f) λh=>
   bif (h==g)then some (.ret true)
   else QcY N e g n (wI (f+1)))
  else some (.nxt ())
def QgA(N:Nat)(f:Wv)(g:Int):Option Bool:=bnd (QcY N f g N 0) λe=>exK e (λr=>some r) λh=>some false
def QbX(N:Nat)(e:Wv)(f:Int):Option Bool:=bif (decide (f<0))then some false else bif (decide (f>=(e.h.p.length:Int)))then some false else bnd (Xd e.h.p f) λg=>bif (g.k==1)then(bif (g.s != e.h.s)then(bnd (QgA N e f) λj=>some (!j))else some false)else some false
def Qck(N:Nat)(f:List Int)(g:Int×Bool):Nat->Int->(List Int)->Option (List Int)
 |0,_,_=>none
 |n+1,e,h=>
  bif (decide (e<(f.length:Int)))then(bnd (Xd f e) λj=>
   bnd (Xd h (wI (g.1+e))) λk=>
   Qck N f g n (wI (e+1)) (h.set (wI (g.1+e)).toNat j))
  else some h
def Qch(N:Nat)(e:List Int)(h:Int)(f:List Int):Option (List Int×Int):=bnd (QdI N e h (f.length:Int)) λg=>bif (!g.2)then some ([],2)else grd (e.length*8<=140737488355328) <| bnd (Qck N f g N 0 e) λj=>some (j,0)
def QdJ(N:Nat)(f:List Int)(g h:Int):Option (List Int×Int):=bnd (Qch N f g [h]) λe=>some (e.1,e.2)
def QcQ(N:Nat)(e:Wv)(g:Int):Option Wv:=grd (e.q.length*8<=140737488355328) <| grd ((e.q.length+1)*8<=140737488355328) <| some (Wv.mk e.h e.o e.t (e.q++[g]) e.d (WT.mk e.r.j (wI (e.r.K+1)) e.r.F e.r.E e.r.f e.r.y))
def Qbz(N:Nat)(g:List Wo):Nat->Int->(List OD)->Option (List OD)
 |0,_,_=>none
 |n+1,f,e=>
  bif (decide (f<(g.length:Int)))then(bnd (Xd g f) λj=>
   bif (j.k != 0)then Qbz N g n (wI (f+1)) e
   else grd (e.length<=140737488355328) <|
   jn (λ(_:Unit)=>
    grd ((e.length+1)*16<=140737488355328) <|
    Qbz N g n (wI (f+1)) (e++[(OD.mk f 1)])) λh=>
   bif (decide ((e.length:Int)>0))then(bnd (Xd e (wI ((e.length:Int)-1))) λp=>
    bnd (Xd e (wI ((e.length:Int)-1))) λq=>
    bif ((wI (p.O+q.Len))==f)then(bnd (Xd e (wI ((e.length:Int)-1))) λr=>
     bnd (Xd e (wI ((e.length:Int)-1))) λs=>
     Qbz N g n (wI (f+1)) (e.set (wI ((e.length:Int)-1)).toNat (OD.mk s.O (wI (r.Len+1)))))
    else h ())
   else h ())
  else some e
def Qgm(N:Nat)(e:List Wo):Option (List OD):=bnd (Qbz N e N 0 []) λf=>some f
def QbE(N:Nat)(g:Int)(e:List OD):Nat->Int->Option (Ex Int Unit)
 |0,_=>none
 |n+1,f=>
  bif (decide (f<(e.length:Int)))then(bif (decide (g>=1))then(bnd (Xd e f) λh=>
      bif (decide (h.Len>=g))then(bnd (Xd e f) λj=>
       some (.ret j.O))
      else QbE N g e n (wI (f+1)))
   else QbE N g e n (wI (f+1)))
  else some (.nxt ())
def Qba(N:Nat)(f:List Wo)(g:Int):Option Int:=bnd (Qgm N f) λh=>bnd (QbE N g h N 0) λe=>exK e (λr=>some r) λj=>some (-1)
def Qd2(N:Nat)(f h:Int)(p j:Wo):Nat->Int->(List Wo)->Option (Ex (List Wo×Int) (List Wo))
 |0,_,_=>none
 |n+1,e,g=>
  bif (decide (e<h))then(bnd (Xd g (wI (f+e))) λq=>
   bif (q.k != 0)then some (.ret ([],20))
   else bnd (Xd g (wI (f+e))) λr=>
   Qd2 N f h p j n (wI (e+1)) (g.set (wI (f+e)).toNat j))
  else some (.nxt g)
def Qdd(N:Nat)(g:List Wo)(f h:Int)(j p:Wo):Option (List Wo×Int):=bif (decide (f<0))then some ([],2)else bif (decide (f>=(g.length:Int)))then some ([],2)else bif (decide (h>(wI ((g.length:Int)-f))))then some ([],2)else grd (g.length*32<=140737488355328) <| bnd (Qd2 N f h j p N 0 g) λe=>exK e (λr=>some r) λk=>bnd (Xd k f) λq=>some ((k.set f.toNat j),0)
def QbJ(N:Nat)(g:List Wo)(h e:Int):Option (List Wo×Int):=bif (decide (e<0))then some ([],1)else bif (decide (e>1))then some ([],1)else bnd (Qdd N g h 1 (Wo.mk 1 e 0 0) (Wo.mk 0 0 0 0)) λf=>some (f.1,f.2)
def QcC(N:Nat)(e:Wv)(y:Int):Option (Wv×Int×Bool):=grd (e.h.p.length*32<=140737488355328) <| jn (λ(_:Unit)=>bnd (Qba N e.h.p 1) λf=>bif (decide (f<0))then some ((Wv.mk zHp [] [] [] 0 (WT.mk 0 0 0 0 0 0)),0,false)else bnd (QbJ N e.h.p f (wI (1-e.h.s))) λx=>grd (e.t.length*8<=140737488355328) <| grd ((e.t.length+1)*8<=140737488355328) <| bnd (Xd x.1 f) λz=>bnd (Xd x.1 f) λA=>bnd (Xd x.1 f) λg=>some ((Wv.mk (Wi.mk e.h.c e.h.w (x.1.set f.toNat (Wo.mk g.k g.s (wI (A.u+y)) g.P)) e.h.s e.h.b) e.o (e.t++[f]) e.q e.d e.r),(wU (wI ((wI (4096+(wI (f*e.h.c.W))))+z.u))),true)) λE=>bif (decide ((e.t.length:Int)>0))then(bnd (Xd e.t (wI ((e.t.length:Int)-1))) λG=>bnd (Xd e.h.p G) λH=>bif (decide ((wI (H.u+y))<=e.h.c.W))then(bnd (Xd e.t (wI ((e.t.length:Int)-1))) λv=>bnd (Xd e.h.p v) λB=>bnd (Xd e.h.p v) λD=>bnd (Xd e.h.p v) λj=>some ((Wv.mk (Wi.mk e.h.c e.h.w (e.h.p.set v.toNat (Wo.mk j.k j.s (wI (D.u+y)) j.P)) e.h.s e.h.b) e.o e.t e.q e.d e.r),(wU (wI ((wI (4096+(wI (v*e.h.c.W))))+B.u))),true))else E ())else E ()
def QfE(N:Nat)(f:List Int)(h j k:Int):Option (List Int×Int):=bnd (Qdb N f j k) λe=>bif (e.2 != 0)then some ([],e.2)else bnd (Qch N f h e.1) λg=>some (g.1,g.2)
def QcR(N:Nat)(e:Int):Option (Int×Int):=bif (decide (e>=4294967296))then some (0,1)else some ((wU ((wU (4*e))+2)),0)
def QaL(N:Nat)(g:Wv)(j:Int):Nat->Int->(List Wo)->Option (List Wo)
 |0,_,_=>none
 |n+1,v10,v11=>
  grd (v11.length<=140737488355328) <|
  bif (decide (v10<(v11.length:Int)))then(bnd (Xd v11 v10) λf=>
   bif (f.k==3)then(bnd (Xd v11 v10) λe=>
    QaL N g j n (wI (v10+1)) (v11.set v10.toNat (Wo.mk e.k (wI (1-g.h.s)) e.u e.P)))
   else some v11)
  else some v11
def QaH(N:Nat)(g:Wv)(v:Int):Option (Wv×Int×Int):=bif (v==0)then some (g,v,0)else bnd (QbL N g.q v) λO=>bif O then some (g,v,0)else bnd (QbL N g.o v) λR=>bif (!R)then some ((Wv.mk zHp [] [] [] 0 (WT.mk 0 0 0 0 0 0)),0,19)else bnd (Qbk N g.h.w v) λL=>bnd (QcB N L.1) λM=>bif M.2 then some (g,M.1,0)else bnd (Qb9 N g.h.c v) λx=>bif (x.2.2 != 0)then some ((Wv.mk zHp [] [] [] 0 (WT.mk 0 0 0 0 0 0)),0,19)else bif (decide (x.1>=(g.h.p.length:Int)))then some ((Wv.mk zHp [] [] [] 0 (WT.mk 0 0 0 0 0 0)),0,19)else bnd (QbX N g x.1) λS=>bif S then(bnd (QcQ N g v) λT=>some (T,v,0))else bnd (Xd g.h.p x.1) λU=>bif (U.k==2)then(grd (g.h.p.length*32<=140737488355328) <| bnd (Xd g.h.p x.1) λA=>bnd (QaL N g v N (wI (x.1+1)) (g.h.p.set x.1.toNat (Wo.mk A.k (wI (1-g.h.s)) A.u A.P))) λB=>bnd (QcQ N (Wv.mk (Wi.mk g.h.c g.h.w B g.h.s g.h.b) g.o g.t g.q g.d g.r) v) λD=>some (D,v,0))else bnd (QcA N L.1) λG=>bnd (QcN N G.1) λz=>bnd (QcC N g z) λe=>bif (!e.2.2)then some ((Wv.mk zHp [] [] [] 0 (WT.mk 0 0 0 0 0 0)),0,3)else bnd (QfE N e.1.h.w e.2.1 v z) λH=>bnd (QcR N e.2.1) λI=>bnd (QdJ N H.1 v I.1) λJ=>grd (e.1.q.length*8<=140737488355328) <| grd ((e.1.q.length+1)*8<=140737488355328) <| some ((Wv.mk (Wi.mk e.1.h.c J.1 e.1.h.p e.1.h.s e.1.h.b) e.1.o e.1.t (e.1.q++[e.2.1]) e.1.d (WT.mk (wI (e.1.r.j+1)) e.1.r.K e.1.r.F e.1.r.E e.1.r.f e.1.r.y)),e.2.1,0)
def Qa5(N:Nat)(v:List Int):Nat->Int->Int->Int->(List Int)->(List Wo)->Int->Int->(List Int)->(List Int)->(List Int)->Int->Int->Int->Int->Int->Int->Int->(List Int)->Option (Ex (Wv×List Int×Int) (Int×Int×List Int×List Wo×Int×Int×List Int×List Int×List Int×Int×Int×Int×Int×Int×Int×Int×List Int))
 |0,_,_,_,_,_,_,_,_,_,_,_,_,_,_,_,_,_,_=>none
 |n+1,x,A,B,D,G,v6,v7,v8,v9,v10,v11,g,v13,k,v15,u,v17,v18=>
  bif (decide (x<(v.length:Int)))then(bnd (Xd v x) λz=>
   bnd (QaH N (Wv.mk (Wi.mk (WN.mk A B) D G v6 v7) v8 v9 v10 v11 (WT.mk g v13 k v15 u v17)) z) λe=>
   bif (e.2.2 != 0)then some (.ret ((Wv.mk zHp [] [] [] 0 (WT.mk 0 0 0 0 0 0)),[],e.2.2))
   else grd ((v18.length+1)*8<=140737488355328) <|
   Qa5 N v n (wI (x+1)) e.1.h.c.W e.1.h.c.p e.1.h.w e.1.h.p e.1.h.s e.1.h.b e.1.o e.1.t e.1.q e.1.d e.1.r.j e.1.r.K e.1.r.F e.1.r.E e.1.r.f e.1.r.y (v18++[e.2.1]))
  else some (.nxt (A,B,D,G,v6,v7,v8,v9,v10,v11,g,v13,k,v15,u,v17,v18))
def Qc5(N:Nat)(k:Wv)(u:List Int):Option (Wv×List Int×Int):=bnd (Qa5 N u N 0 k.h.c.W k.h.c.p k.h.w k.h.p k.h.s k.h.b k.o k.t k.q k.d k.r.j k.r.K k.r.F k.r.E k.r.f k.r.y []) λe=>exK e (λr=>some r) λg=>some ((Wv.mk (Wi.mk (WN.mk g.1 g.2.1) g.2.2.1 g.2.2.2.1 g.2.2.2.2.1 g.2.2.2.2.2.1) g.2.2.2.2.2.2.1 g.2.2.2.2.2.2.2.1 g.2.2.2.2.2.2.2.2.1 g.2.2.2.2.2.2.2.2.2.1 (WT.mk g.2.2.2.2.2.2.2.2.2.2.1 g.2.2.2.2.2.2.2.2.2.2.2.1 g.2.2.2.2.2.2.2.2.2.2.2.2.1 g.2.2.2.2.2.2.2.2.2.2.2.2.2.1 g.2.2.2.2.2.2.2.2.2.2.2.2.2.2.1 g.2.2.2.2.2.2.2.2.2.2.2.2.2.2.2.1)),g.2.2.2.2.2.2.2.2.2.2.2.2.2.2.2.2,0)
def Qdp(N:Nat)(e:Wv)(f:Int):Option Ws:=bnd (Qbk N e.h.w f) λg=>bnd (QcA N g.1) λj=>some j.1
def Qb5(N:Nat)(e:Ws):Nat->Int->(List Int)->Option (List Int)
 |0,_,_=>none
 |n+1,f,g=>
  bif (decide (f<e.n))then(bnd (Qc3 N e) λh=>
   bif h then(bnd (Qby N e f) λj=>
    bif j then(grd ((g.length+1)*8<=140737488355328) <|
     Qb5 N e n (wI (f+1)) (g++[f]))
    else Qb5 N e n (wI (f+1)) g)
   else some g)
  else some g
def Qfp(N:Nat)(e:Ws):Option (List Int):=bnd (Qb5 N e N 0 []) λf=>some f
def Qbf(N:Nat)(x:Int)(z:List Int):Nat->Int->Int->Int->(List Int)->(List Wo)->Int->Int->(List Int)->(List Int)->(List Int)->Int->Int->Int->Int->Int->Int->Int->Option (Ex (Wv×Bool×Int) (Int×Int×List Int×List Wo×Int×Int×List Int×List Int×List Int×Int×Int×Int×Int×Int×Int×Int))
 |0,_,_,_,_,_,_,_,_,_,_,_,_,_,_,_,_,_=>none
 |n+1,A,G,v6,v7,v8,v9,v10,v11,g,v13,k,v15,u,v17,v18,v19,v20=>
  bif (decide (A<(z.length:Int)))then(bnd (Xd z A) λv=>
   bnd (Qbk N v7 (wU ((wU (x+1))+(wU v)))) λB=>
   bnd (QaH N (Wv.mk (Wi.mk (WN.mk G v6) v7 v8 v9 v10) v11 g v13 k (WT.mk v15 u v17 v18 v19 v20)) B.1) λe=>
   bif (e.2.2 != 0)then some (.ret ((Wv.mk zHp [] [] [] 0 (WT.mk 0 0 0 0 0 0)),false,e.2.2))
   else bnd (QdJ N e.1.h.w (wU ((wU (x+1))+(wU v))) e.2.1) λD=>
   Qbf N x z n (wI (A+1)) e.1.h.c.W e.1.h.c.p D.1 e.1.h.p e.1.h.s e.1.h.b e.1.o e.1.t e.1.q e.1.d e.1.r.j e.1.r.K e.1.r.F e.1.r.E e.1.r.f e.1.r.y)
  else some (.nxt (G,v6,v7,v8,v9,v10,v11,g,v13,k,v15,u,v17,v18,v19,v20))
def Qei(N:Nat)(k:Wv):Option (Wv×Bool×Int):=bif (decide (k.d>=(k.q.length:Int)))then some (k,false,0)else bnd (Xd k.q k.d) λu=>bnd (Qdp N k u) λx=>bnd (Qfp N x) λv=>bnd (Qbf N u v N 0 k.h.c.W k.h.c.p k.h.w k.h.p k.h.s k.h.b k.o k.t k.q k.d k.r.j k.r.K k.r.F k.r.E k.r.f k.r.y) λe=>exK e (λr=>some r) λg=>some ((Wv.mk (Wi.mk (WN.mk g.1 g.2.1) g.2.2.1 g.2.2.2.1 g.2.2.2.2.1 g.2.2.2.2.2.1) g.2.2.2.2.2.2.1 g.2.2.2.2.2.2.2.1 g.2.2.2.2.2.2.2.2.1 (wI (g.2.2.2.2.2.2.2.2.2.1+1)) (WT.mk g.2.2.2.2.2.2.2.2.2.2.1 g.2.2.2.2.2.2.2.2.2.2.2.1 g.2.2.2.2.2.2.2.2.2.2.2.2.1 g.2.2.2.2.2.2.2.2.2.2.2.2.2.1 g.2.2.2.2.2.2.2.2.2.2.2.2.2.2.1 (wI ((wI (g.2.2.2.2.2.2.2.2.2.2.2.2.2.2.2+1))+(v.length:Int))))),true,0)
def QbT(N:Nat):Nat->Int->Int->(List Int)->(List Wo)->Int->Int->(List Int)->(List Int)->(List Int)->Int->Int->Int->Int->Int->Int->Int->Option (Wv×Int)
 |0,_,_,_,_,_,_,_,_,_,_,_,_,_,_,_,_=>none
 |n+1,v,x,z,A,B,v6,v7,v8,v9,v10,v11,g,v13,k,v15,u=>
  bnd (Qei N (Wv.mk (Wi.mk (WN.mk v x) z A B v6) v7 v8 v9 v10 (WT.mk v11 g v13 k v15 u))) λe=>
  bif (e.2.2 != 0)then some ((Wv.mk zHp [] [] [] 0 (WT.mk 0 0 0 0 0 0)),e.2.2)
  else bif (!e.2.1)then some (e.1,0)
  else QbT N n e.1.h.c.W e.1.h.c.p e.1.h.w e.1.h.p e.1.h.s e.1.h.b e.1.o e.1.t e.1.q e.1.d e.1.r.j e.1.r.K e.1.r.F e.1.r.E e.1.r.f e.1.r.y
def Qeo(N:Nat)(e:Wv):Option (Wv×Int):=bnd (QbT N N e.h.c.W e.h.c.p e.h.w e.h.p e.h.s e.h.b e.o e.t e.q e.d e.r.j e.r.K e.r.F e.r.E e.r.f e.r.y) λr=>some r
def QcD(N:Nat)(f:Wv)(e:Int):Option Int:=bnd (QbL N f.q e) λg=>bif g then some e else bnd (Qbk N f.h.w e) λj=>bnd (QcB N j.1) λk=>some k.1
def Qbg(N:Nat)(e:Wv)(g:List Wo)(j:Wo)(f k:Int):Nat->Int->(List Int)->Option (List Int)
 |0,_,_=>none
 |n+1,v7,v8=>
  bif (decide (v7<e.h.c.W))then(bnd (Xd v8 (wI ((wI (f*e.h.c.W))+v7))) λp=>
   Qbg N e g j f k n (wI (v7+1)) (v8.set (wI ((wI (f*e.h.c.W))+v7)).toNat 0))
  else some v8
def QaN(N:Nat)(g:Wv):Nat->Int->Int->(List Int)->(List Wo)->Option (Int×List Int×List Wo)
 |0,_,_,_,_=>none
 |n+1,f,j,p,e=>
  grd (e.length<=140737488355328) <|
  bif (decide (f<(e.length:Int)))then(bnd (Xd e f) λq=>
   bif (q.k==0)then QaN N g n (wI (f+1)) j p e
   else bif (q.s != g.h.s)then QaN N g n (wI (f+1)) j p e
   else bnd (Xd e f) λu=>
   bnd (Qbg N g e q f j N 0 p) λr=>
   QaN N g n (wI (f+1)) (wI (j+1)) r (e.set f.toNat (Wo.mk 0 0 0 0)))
  else some (j,p,e)
def Qej(N:Nat)(e:Wv):Option Wv:=grd (e.h.p.length*32<=140737488355328) <| grd (e.h.w.length*8<=140737488355328) <| bnd (QaN N e N 0 e.r.E e.h.w e.h.p) λg=>some (Wv.mk (Wi.mk e.h.c g.2.1 g.2.2 e.h.s e.h.b) e.o e.t e.q e.d (WT.mk e.r.j e.r.K e.r.F g.1 e.r.f e.r.y))
def QaD(N:Nat)(e:Wv):Nat->Int->(List Int)->Int->Option (List Int×Int)
 |0,_,_,_=>none
 |n+1,k,u,v=>
  bif (decide (k<(e.o.length:Int)))then(bnd (Xd e.o k) λA=>
   bnd (Qb9 N e.h.c A) λB=>
   bnd (QbX N (Wv.mk (Wi.mk e.h.c u e.h.p e.h.s e.h.b) e.o e.t e.q e.d (WT.mk e.r.j e.r.K v e.r.E e.r.f e.r.y)) B.1) λD=>
   bif (!D)then QaD N e n (wI (k+1)) u v
   else bnd (Xd e.o k) λG=>
   bnd (QbL N e.q G) λH=>
   bif H then QaD N e n (wI (k+1)) u v
   else bnd (Xd e.o k) λI=>
   bnd (Qdp N (Wv.mk (Wi.mk e.h.c u e.h.p e.h.s e.h.b) e.o e.t e.q e.d (WT.mk e.r.j e.r.K v e.r.E e.r.f e.r.y)) I) λg=>
   bnd (Qcz N (Ws.mk 0 g.n 0)) λw=>
   bnd (Xd e.o k) λx=>
   grd (0<=g.n/\g.n.toNat*8<=140737488355328) <|
   grd ((1+g.n.toNat)*8<=140737488355328) <|
   bnd (Qch N u x ([w.1]++(List.replicate g.n.toNat (0:Int)))) λz=>
   QaD N e n (wI (k+1)) z.1 (wI (v+1)))
  else some (u,v)
def Qek(N:Nat)(e:Wv):Option Wv:=bnd (QaD N e N 0 e.h.w e.r.F) λg=>some (Wv.mk (Wi.mk e.h.c g.1 e.h.p e.h.s e.h.b) e.o e.t e.q e.d (WT.mk e.r.j e.r.K g.2 e.r.E e.r.f e.r.y))
def QaM(N:Nat)(g:List Int)(z:Wv×List Int×Int)(e:Wv×Int):Nat->Int->Int->(List Int)->Option (Int×List Int)
 |0,_,_,_=>none
 |n+1,v7,v8,v9=>
  bif (decide (v7<(g.length:Int)))then(bnd (Xd g v7) λk=>
   jn (λ(p s:Int)=>
    grd ((v9.length+1)*8<=140737488355328) <|
    QaM N g z e n (wI (v7+1)) s (v9++[p])) λw=>
   bif (k != 0)then(bnd (Xd g v7) λu=>
    bnd (QcD N (Wv.mk e.1.h e.1.o e.1.t e.1.q e.1.d (WT.mk e.1.r.j e.1.r.K e.1.r.F e.1.r.E v8 e.1.r.y)) u) λf=>
    jn (λ(v:Int)=>
     w f v) λx=>
    bif (f==0)then x (wI (v8+1))
    else x v8)
   else w 0 v8)
  else some (v8,v9)
def Qci(N:Nat)(v:Wi)(B D:List Int):Option (Wi×List Int×List Int×WT×Int):=bnd (Qaa N v) λI=>bif (!I)then some (zHp,[],[],(WT.mk 0 0 0 0 0 0),1)else jn (λ(_:Unit)=>some (zHp,[],[],(WT.mk 0 0 0 0 0 0),19)) λG=>bnd (QbC N v B) λJ=>bif (!J)then G ()else bnd (QbC N v D) λL=>bif (!L)then G ()else bnd (Qc4 N v) λM=>bnd (Qc5 N M.1 B) λk=>bif (k.2.2 != 0)then some (zHp,[],[],(WT.mk 0 0 0 0 0 0),k.2.2)else bnd (Qeo N k.1) λg=>bif (g.2 != 0)then some (zHp,[],[],(WT.mk 0 0 0 0 0 0),g.2)else bnd (QaM N D k g N 0 g.1.r.f []) λu=>bnd (Qek N (Wv.mk g.1.h g.1.o g.1.t g.1.q g.1.d (WT.mk g.1.r.j g.1.r.K g.1.r.F g.1.r.E u.1 g.1.r.y))) λx=>bnd (Qej N x) λe=>jn (λ(z:Int)=>some ((Wi.mk e.h.c e.h.w e.h.p (wI (1-e.h.s)) z),k.2.1,u.2,e.r,0)) λH=>bif (decide ((e.t.length:Int)>0))then(bnd (Xd e.t (wI ((e.t.length:Int)-1))) λA=>H A)else H (-1)
def Qbh(N:Nat)(j:Wq)(g:List Int):Nat->Int->Int->(List UF)->Option (Ex (Wq×Int) (List UF))
 |0,_,_,_=>none
 |n+1,h,f,e=>
  grd (e.length<=140737488355328) <|
  bif (decide (f<(e.length:Int)))then(bnd (Xd e f) λp=>
   bif (!p.V)then Qbh N j g n h (wI (f+1)) e
   else bnd (Xd g h) λq=>
   bif (q==0)then some (.ret ((Wq.mk [] [] []),1))
   else bnd (Xd g h) λr=>
   bnd (Xd e f) λk=>
   Qbh N j g n (wI (h+1)) (wI (f+1)) (e.set f.toNat (UF.mk k.J r k.V)))
  else some (.nxt e)
def Qde(N:Nat)(f:Wq)(h:List Int):Option (Wq×Int):=bnd (Qcf N f) λj=>bif (!j)then some ((Wq.mk [] [] []),1)else bnd (QcL N f) λk=>bif ((h.length:Int) != (k.length:Int))then some ((Wq.mk [] [] []),1)else grd (f.S.length*24<=140737488355328) <| bnd (Qbh N f h N 0 0 f.S) λe=>exK e (λr=>some r) λg=>some ((Wq.mk g f.x f.i),0)
def Qbi(N:Nat)(g:List Int):Nat->Int->Int->(List W6)->Option (List W6)
 |0,_,_,_=>none
 |n+1,h,f,e=>
  grd (e.length<=140737488355328) <|
  bif (decide (f<(e.length:Int)))then(bnd (Xd e f) λk=>
   bif k.V then(bnd (Xd g h) λp=>
    bnd (Xd e f) λj=>
    Qbi N g n (wI (h+1)) (wI (f+1)) (e.set f.toNat (W6.mk j.G p j.V)))
   else Qbi N g n h (wI (f+1)) e)
  else some e
def Qb8(N:Nat)(f:WD)(g:List Int):Option (WD×Int):=bnd (Qce N f) λj=>bif (!j)then some ((WD.mk []),1)else bnd (Qbu N f) λh=>grd (h.length<=140737488355328) <| bif ((g.length:Int) != (h.length:Int))then some ((WD.mk []),1)else grd (f.e.length*24<=140737488355328) <| bnd (Qbi N g N 0 0 f.e) λk=>some ((WD.mk k),0)
def QaX(N:Nat)(e:Uj)(h:Wi×List Int×List Int×WT×Int)(j k:List Int)(p:Wq×Int)(q r:WD×Int):Nat->Int->(List UB)->Option (List UB)
 |0,_,_=>none
 |n+1,v10,v11=>
  bif (decide (v10<(e.P.length:Int)))then(bnd (Xd h.2.1 (wI ((wI ((wI ((e.R.length:Int)+(j.length:Int)))+(k.length:Int)))+v10))) λf=>
   bnd (Xd e.P v10) λg=>
   grd ((v11.length+1)*16<=140737488355328) <|
   QaX N e h j k p q r n (wI (v10+1)) (v11++[(UB.mk f g.M)]))
  else some v11
def QaY(N:Nat)(e:Uj):Option (Uj×WT×Int):=bnd (QbI N e) λu=>bif (!u)then some ((Uj.mk zHp (Wq.mk [] [] []) (WD.mk []) (WD.mk []) [] []),(WT.mk 0 0 0 0 0 0),19)else bnd (Qcy N e) λw=>bnd (Qbu N e.v) λx=>bnd (Qci N e.h w x) λf=>bif (f.2.2.2.2 != 0)then some ((Uj.mk zHp (Wq.mk [] [] []) (WD.mk []) (WD.mk []) [] []),(WT.mk 0 0 0 0 0 0),f.2.2.2.2)else bnd (QcL N e.l) λj=>bnd (Qbu N e.g) λk=>grd (k.length<=140737488355328) <| grd (0<=0/\0<=(e.R.length:Int)/\(e.R.length:Int)<=(f.2.1.length:Int)) <| grd ((min ((e.R.length:Int).toNat) f.2.1.length)*8<=140737488355328) <| grd (0<=(e.R.length:Int)/\(e.R.length:Int)<=(wI ((e.R.length:Int)+(j.length:Int)))/\(wI ((e.R.length:Int)+(j.length:Int)))<=(f.2.1.length:Int)) <| bnd (Qde N e.l ((f.2.1.drop (e.R.length:Int).toNat).take ((wI ((e.R.length:Int)+(j.length:Int))).toNat-(e.R.length:Int).toNat))) λq=>grd (0<=(wI ((e.R.length:Int)+(j.length:Int)))/\(wI ((e.R.length:Int)+(j.length:Int)))<=(wI ((wI ((e.R.length:Int)+(j.length:Int)))+(k.length:Int)))/\(wI ((wI ((e.R.length:Int)+(j.length:Int)))+(k.length:Int)))<=(f.2.1.length:Int)) <| bnd (Qb8 N e.g ((f.2.1.drop (wI ((e.R.length:Int)+(j.length:Int))).toNat).take ((wI ((wI ((e.R.length:Int)+(j.length:Int)))+(k.length:Int))).toNat-(wI ((e.R.length:Int)+(j.length:Int))).toNat))) λr=>bnd (Qb8 N e.v f.2.2.1) λs=>bnd (QaX N e f j k q r s N 0 []) λp=>some ((Uj.mk f.1 q.1 r.1 s.1 p (f.2.1.take (e.R.length:Int).toNat)),f.2.2.2.1,0)
def Qdf(N:Nat)(g:WP)(e:List Int):Nat->Int->Option (Ex Bool Unit)
 |0,_=>none
 |n+1,f=>
  bif (decide (f<(e.length:Int)))then(bnd (Xd e f) λh=>
   bif (decide (h>(wU (g.T.length:Int))))then some (.ret false)
   else Qdf N g e n (wI (f+1)))
  else some (.nxt ())
def Qdg(N:Nat)(f:WP)(g:List Int):Option Bool:=bnd (Qdf N f g N 0) λe=>exK e (λr=>some r) λh=>some true
def Qd3(N:Nat)(e:UZ):Nat->Int->(List Int)->Option (List Int)
 |0,_,_=>none
 |n+1,f,g=>
  bif (decide (f<(e.D.length:Int)))then(bnd (Qby N e.H f) λh=>
   bif h then(bnd (Xd e.D f) λj=>
    grd ((g.length+1)*8<=140737488355328) <|
    Qd3 N e n (wI (f+1)) (g++[j]))
   else Qd3 N e n (wI (f+1)) g)
  else some g
def Qgn(N:Nat)(e:UZ):Option (List Int):=bnd (Qd3 N e N 0 []) λf=>some f
def QeM(N:Nat)(f:WP)(g:Int):Nat->Int->Option (Ex Int Unit)
 |0,_=>none
 |n+1,e=>
  bif (decide (e<(f.m.length:Int)))then(bnd (Xd f.m e) λh=>
   bif (h.I==g)then some (.ret e)
   else QeM N f g n (wI (e+1)))
  else some (.nxt ())
def QfF(N:Nat)(f:WP)(g:Int):Option Int:=bnd (QeM N f g N 0) λe=>exK e (λr=>some r) λh=>some (-1)
def Qdz(N:Nat)(f:WP):Nat->Int->Option (Ex Bool Unit)
 |0,_=>none
 |n+1,g=>
  bif (decide (g<(f.T.length:Int)))then(bnd (Xd f.T g) λe=>
   bnd (Qc3 N e.H) λh=>
   bif (!h)then some (.ret false)
   else bif (e.H.k==0)then some (.ret false)
   else bif ((e.D.length:Int) != e.H.n)then some (.ret false)
   else bnd (Qgn N e) λj=>
   bnd (Qdg N f j) λp=>
   bif (!p)then some (.ret false)
   else Qdz N f n (wI (g+1)))
  else some (.nxt ())
def QdA(N:Nat)(h:WP)(e:List Int):Nat->Int->Option (Ex Bool Unit)
 |0,_=>none
 |n+1,f=>
  grd (e.length<=140737488355328) <|
  bif (decide (f<(e.length:Int)))then(bnd (Xd e f) λg=>
   bif (g==0)then some (.ret false)
   else QdA N h e n (wI (f+1)))
  else some (.nxt ())
def QdB(N:Nat)(f:WP)(g:List Int):Nat->Int->Option (Ex Bool Unit)
 |0,_=>none
 |n+1,v15=>
  bif (decide (v15<(f.m.length:Int)))then(bnd (Xd f.m v15) λe=>
   bif (decide (e.I<1))then some (.ret false)
   else bif (decide (e.I>(wU (f.T.length:Int))))then some (.ret false)
   else bnd (QfF N f e.I) λh=>
   bif (h != v15)then some (.ret false)
   else bif (decide (e.M<1))then some (.ret false)
   else bif (decide (e.M>1000))then some (.ret false)
   else QdB N f g n (wI (v15+1)))
  else some (.nxt ())
def Qep(N:Nat)(f:WP):Option Bool:=bnd (QaR N f.c) λw=>bif (!w)then some false else bnd (Qcf N f.l) λx=>bif (!x)then some false else bnd (Qce N f.g) λy=>bif (!y)then some false else bnd (Qce N f.v) λz=>bif (!z)then some false else bif (decide ((f.m.length:Int)>64))then some false else bnd (Qdz N f N 0) λe=>exK e (λr=>some r) λA=>bnd (Qbu N f.g) λh=>bnd (QdA N f h N 0) λe=>exK e (λr=>some r) λB=>bnd (QdB N f h N 0) λe=>exK e (λr=>some r) λD=>bnd (Qdg N f f.R) λj=>bif j then(bnd (QcL N f.l) λk=>bnd (Qdg N f k) λp=>bif p then(bnd (Qdg N f h) λq=>bif q then(bnd (Qbu N f.v) λs=>bnd (Qdg N f s) λu=>some u)else some false)else some false)else some false
def QeY(N:Nat)(e:WP):Nat->Int->(List Int)->Option (List Int)
 |0,_,_=>none
 |n+1,f,g=>
  bif (decide (f<(e.m.length:Int)))then(bnd (Xd e.m f) λh=>
   grd ((g.length+1)*8<=140737488355328) <|
   QeY N e n (wI (f+1)) (g++[h.I]))
  else some g
def QgX(N:Nat)(e:WP):Option (List Int):=grd (e.R.length*8<=140737488355328) <| bnd (QcL N e.l) λf=>grd ((e.R.length+f.length)*8<=140737488355328) <| bnd (Qbu N e.g) λh=>grd (((e.R.length+f.length)+h.length)*8<=140737488355328) <| bnd (QeY N e N 0 ((e.R++f)++h)) λj=>some j
def QcU(N:Nat)(j:WP):Nat->Int->(List Bool)->(List Int)->Option (List Bool)
 |0,_,_,_=>none
 |n+1,f,g,e=>
  grd (e.length<=140737488355328) <|
  bif (decide (f<(e.length:Int)))then(bnd (Xd e f) λr=>
   bif (r==0)then QcU N j n (wI (f+1)) g e
   else bnd (Xd e f) λs=>
   bnd (Xd g (wU (s-1))) λu=>
   bif u then QcU N j n (wI (f+1)) g e
   else bnd (Xd e f) λq=>
   bnd (Xd g (wU (q-1))) λv=>
   bnd (Xd e f) λk=>
   bnd (Xd j.T (wU (k-1))) λp=>
   bnd (Qgn N p) λh=>
   grd ((e.length+h.length)*8<=140737488355328) <|
   QcU N j n (wI (f+1)) (g.set (wU (q-1)).toNat true) (e++h))
  else some g
def QfO(N:Nat)(e:WP):Option (List Bool):=bnd (Qep N e) λg=>bif (!g)then some []else grd (0<=(e.T.length:Int)/\(e.T.length:Int).toNat<=140737488355328) <| bnd (QgX N e) λh=>bnd (QcU N e N 0 (List.replicate (e.T.length:Int).toNat false) h) λf=>some f
def Qbq(N:Nat)(h:WP)(g:List Bool):Nat->Int->(List Int)->Option (List Int)
 |0,_,_=>none
 |n+1,f,e=>
  grd (e.length<=140737488355328) <|
  bif (decide (f<(e.length:Int)))then(bnd (Xd e f) λj=>
   bif (j != 0)then(bnd (Xd e f) λk=>
    bnd (Xd g (wU (k-1))) λp=>
    bif (!p)then(bnd (Xd e f) λq=>
     Qbq N h g n (wI (f+1)) (e.set f.toNat 0))
    else Qbq N h g n (wI (f+1)) e)
   else Qbq N h g n (wI (f+1)) e)
  else some e
def Qdq(N:Nat)(e:WP):Option (WP×Int):=bnd (Qep N e) λj=>bif (!j)then some (zWd,19)else bnd (QfO N e) λk=>bnd (Qbu N e.v) λp=>bnd (Qbq N e k N 0 p) λf=>bnd (Qb8 N e.v f) λh=>some ((WP.mk e.c e.T e.l e.g h.1 e.m e.R),0)
def Qab(N:Nat)(e:Int):Option (Uj×Int×Int):=some ((Uj.mk zHp (Wq.mk [] [] []) (WD.mk []) (WD.mk []) [] []),0,e)
def QcE(N:Nat)(f e g:Int):Option (Ws×Bool):=bif (f==1)then(bif (decide (e<=2147483647))then some ((Ws.mk f (wI (Zq .u64 e 2147483647)) (wW g)),(decide (g<=4294967295)))else some ((Ws.mk f (wI (Zq .u64 e 2147483647)) (wW g)),false))else some ((Ws.mk f (wI (Zq .u64 e 2147483647)) 0),(decide (e<=2147483647)))
def Qcl(N:Nat)(f:WN)(e:Ws):Option Bool:=bnd (Qc3 N e) λg=>bif g then(bif (e.k != 0)then(bnd (QcN N e) λh=>bnd (QdH N f h) λj=>some (j != (-1)))else some false)else some false
def Qeq(N:Nat)(e:Wq)(f:Int):Option (Wq×Int×Int×Int):=bnd (Qcf N e) λg=>bif (!g)then some ((Wq.mk [] [] []),0,0,1)else bif (f==0)then some ((Wq.mk [] [] []),0,0,1)else bif ((e.x.length:Int)==0)then some ((Wq.mk [] [] []),0,0,9)else bnd (Xd e.x (wI ((e.x.length:Int)-1))) λh=>bnd (Qgl N e h.O (e.S.length:Int)) λj=>bnd (Xd e.x (wI ((e.x.length:Int)-1))) λk=>bif (decide (j>=k.C0))then some ((Wq.mk [] [] []),0,0,10)else bif ((e.i.length:Int)==4096)then some ((Wq.mk [] [] []),0,0,18)else grd (e.i.length*8<=140737488355328) <| grd ((e.i.length+1)*8<=140737488355328) <| grd (e.S.length*24<=140737488355328) <| grd ((e.S.length+1)*24<=140737488355328) <| some ((Wq.mk (e.S++[(UF.mk (wI ((e.i.length:Int)+1)) f true)]) e.x (e.i++[(e.S.length:Int)])),(e.S.length:Int),(wI ((e.i.length:Int)+1)),0)
def QfZ(N:Nat)(e:WN):Option Int:=bnd (QaR N e) λf=>bif (!f)then some 0 else some (wI (e.p.tdiv 4))
def QbF(N:Nat)(e:List Wo):Nat->Int->Int->Option Int
 |0,_,_=>none
 |n+1,g,f=>
  bif (decide (f<(e.length:Int)))then(bnd (Xd e f) λh=>
   bif (h.k != 0)then QbF N e n (wI (g+1)) (wI (f+1))
   else QbF N e n g (wI (f+1)))
  else some g
def QcF(N:Nat)(e:List Wo):Option Int:=bnd (QbF N e N 0 0) λf=>some f
def Qer(N:Nat)(e:Wi)(r:Int):Option (Wi×Int×Bool):=grd (e.p.length*32<=140737488355328) <| bnd (QfZ N e.c) λA=>bnd (QcF N e.p) λB=>jn (λ(_:Unit)=>bnd (Qba N e.p 1) λf=>bif (decide (f<0))then some (zHp,0,false)else bif (decide (B>=A))then some (zHp,0,false)else bnd (QbJ N e.p f e.s) λj=>bnd (Xd j.1 f) λv=>bnd (Xd j.1 f) λx=>bnd (Xd j.1 f) λg=>some ((Wi.mk e.c e.w (j.1.set f.toNat (Wo.mk g.k g.s (wI (x.u+r)) g.P)) e.s f),(wU (wI ((wI (4096+(wI (f*e.c.W))))+v.u))),true)) λq=>bif (decide (e.b<0))then q ()else bnd (Xd e.p e.b) λD=>bif (D.s != e.s)then q ()else bnd (Xd e.p e.b) λE=>bif (decide ((wI (E.u+r))>e.c.W))then q ()else bif (decide (B>A))then q ()else bnd (Xd e.p e.b) λy=>bnd (Xd e.p e.b) λz=>bnd (Xd e.p e.b) λh=>some ((Wi.mk e.c e.w (e.p.set e.b.toNat (Wo.mk h.k h.s (wI (z.u+r)) h.P)) e.s e.b),(wU (wI ((wI (4096+(wI (e.b*e.c.W))))+y.u))),true)
def QdK(N:Nat)(j:WN)(k:List Wo)(p e f:Int):Option (List Wo×Int):=bnd (QdH N j f) λg=>bif (decide (g<1))then some ([],1)else bif (decide (e<0))then some ([],1)else bif (decide (e>1))then some ([],1)else bnd (Qdd N k p g (Wo.mk 2 e f 0) (Wo.mk 3 e 0 0)) λh=>some (h.1,h.2)
def Qes(N:Nat)(e:Wi)(h g:Int):Option (Wi×Int×Bool):=bnd (Qba N e.p g) λf=>bif (decide (f<0))then some (zHp,0,false)else bnd (QcF N e.p) λj=>bnd (QfZ N e.c) λk=>bif (decide ((wI (j+g))>k))then some (zHp,0,false)else bnd (QdK N e.c e.p f e.s h) λq=>some ((Wi.mk e.c e.w q.1 e.s e.b),(wU (wI (4096+(wI (f*e.c.W))))),true)
def Qa1(N:Nat)(e:Wi)(j:Int)(f:Ws):Option (Wi×Int):=bnd (Qcz N f) λh=>bnd (Qaa N e) λk=>bif (!k)then some (zHp,1)else bif (h.2 != 0)then some (zHp,1)else grd (0<=f.n/\f.n.toNat*8<=140737488355328) <| grd ((1+f.n.toNat)*8<=140737488355328) <| bnd (Qch N e.w j ([h.1]++(List.replicate f.n.toNat (0:Int)))) λg=>bif (g.2 != 0)then some (zHp,g.2)else some ((Wi.mk e.c g.1 e.p e.s e.b),0)
def Qbm(N:Nat)(g:Wi)(h:Ws):Option (Wi×Int×Int):=bnd (Qaa N g) λB=>bif (!B)then some (zHp,0,1)else bnd (Qcl N g.c h) λD=>bif (!D)then some (zHp,0,1)else bnd (QcN N h) λj=>bnd (QdH N g.c j) λy=>bnd (Qer N g j) λe=>jn (λ(z:Int) (E:Bool) (G k:Int) (q:List Int) (r:List Wo) (u v:Int)=>bif (!E)then some (zHp,0,3)else bnd (Qa1 N (Wi.mk (WN.mk G k) q r u v) z h) λx=>some (x.1,z,0)) λA=>bif (decide (y>0))then(bnd (Qes N g j y) λf=>A f.2.1 f.2.2 f.1.c.W f.1.c.p f.1.w f.1.p f.1.s f.1.b)else A e.2.1 e.2.2 e.1.c.W e.1.c.p e.1.w e.1.p e.1.s e.1.b
def Qcj(N:Nat)(f:Uj)(L:Ws):Option (Uj×Int×Int):=bnd (QbI N f) λT=>bif (!T)then some ((Uj.mk zHp (Wq.mk [] [] []) (WD.mk []) (WD.mk []) [] []),0,19)else bnd (Qbm N f.h L) λk=>jn (λ(U M x7 x8:Int) (x9:List Int) (V:List Wo) (Y Z:Int) (r:List UF) (u:List UX) (y:List Int) (z A:List W6) (B:List UB) (D:List Int) (E G:Int) (H:List Int) (I:List Wo) (J K:Int)=>bif (M != 0)then some ((Uj.mk zHp (Wq.mk [] [] []) (WD.mk []) (WD.mk []) [] []),0,M)else some ((Uj.mk (Wi.mk (WN.mk E G) H I J K) (Wq.mk r u y) (WD.mk z) (WD.mk A) B D),U,0)) λO=>bif (k.2.2==3)then(bnd (QaY N f) λj=>bif (j.2.2 != 0)then some ((Uj.mk zHp (Wq.mk [] [] []) (WD.mk []) (WD.mk []) [] []),0,j.2.2)else bnd (Qbm N j.1.h L) λq=>O q.2.1 q.2.2 j.1.h.c.W j.1.h.c.p j.1.h.w j.1.h.p j.1.h.s j.1.h.b j.1.l.S j.1.l.x j.1.l.i j.1.g.e j.1.v.e j.1.P j.1.R q.1.c.W q.1.c.p q.1.w q.1.p q.1.s q.1.b)else O k.2.1 k.2.2 f.h.c.W f.h.c.p f.h.w f.h.p f.h.s f.h.b f.l.S f.l.x f.l.i f.g.e f.v.e f.P f.R k.1.c.W k.1.c.p k.1.w k.1.p k.1.s k.1.b
def Qhc(N:Nat)(e:Ix):Option Bool:=bif (decide (e.Tag>=1))then(bif (decide (e.Tag<=3))then(bif (decide (e.Index>=0))then(bif (decide (e.Index<=65535))then(bif (decide (e.J>=1))then some (decide (e.J<=4294967295))else some false)else some false)else some false)else some false)else some false
def Qca(N:Nat)(e:Ix):Option (Int×Int):=bnd (Qhc N e) λf=>bif (!f)then some (0,1)else some ((wU ((wU ((wU e.Tag)+(ZY .u64 (wU e.Index) 2)))+(ZY .u64 (wU e.J) 18))),0)
def QcG(N:Nat)(e:Uj)(k:Int):Option (Uj×Int×Int):=bif (k==0)then some (e,0,0)else bnd (Qeq N e.l k) λf=>bif (f.2.2.2 != 0)then(bnd (Qab N f.2.2.2) λj=>some (j.1,j.2.1,j.2.2))else bnd (Qca N (Ix.mk 1 f.2.1 f.2.2.1)) λp=>some ((Uj.mk e.h f.1 e.g e.v e.P e.R),p.1,0)
def QdO(N:Nat)(e:Uj)(v w x:Int):Option (Uj×Int×Int):=bif (decide ((e.P.length:Int)>0))then(bnd (Qab N 15) λg=>some (g.1,g.2.1,g.2.2))else bnd (QcE N v w x) λj=>jn (λ(_:Unit)=>bnd (Qab N 1) λk=>some (k.1,k.2.1,k.2.2)) λs=>bif (!j.2)then s ()else bnd (Qcl N e.h.c j.1) λy=>bif (!y)then s ()else bnd (Qeq N e.l 1) λu=>bif (u.2.2.2 != 0)then(bnd (Qab N u.2.2.2) λp=>some (p.1,p.2.1,p.2.2))else bnd (Qcj N e j.1) λf=>bif (f.2.2 != 0)then(bnd (Qab N f.2.2) λq=>some (q.1,q.2.1,q.2.2))else bnd (QcG N f.1 f.2.1) λr=>some (r.1,r.2.1,r.2.2)
def QcH(N:Nat)(e:Int):Option (Ix×Int):=bif (e==0)then some ((Ix.mk 0 0 0),5)else bnd (Qca N (Ix.mk (wI (Zq .u64 e 3)) (wI (Zq .u64 (Yz .u64 e 2) 65535)) (wI (Yz .u64 e 18)))) λf=>bif (f.2 != 0)then some ((Ix.mk 0 0 0),6)else bif (f.1 != e)then some ((Ix.mk 0 0 0),6)else some ((Ix.mk (wI (Zq .u64 e 3)) (wI (Zq .u64 (Yz .u64 e 2) 65535)) (wI (Yz .u64 e 18))),0)
def QeZ(N:Nat)(e:Wq)(f g:Int):Option (Int×Int):=bnd (Qcf N e) λh=>bif (!h)then some (0,1)else bif (decide (g<1))then some (0,6)else bif (decide (g>(e.i.length:Int)))then some (0,6)else bnd (Xd e.i (wI (g-1))) λj=>bif (j != f)then some (0,6)else bif (decide (f>=(e.S.length:Int)))then some (0,7)else bnd (Xd e.S f) λk=>bif (k.J != g)then some (0,7)else bnd (Xd e.S f) λp=>bif (!p.V)then some (0,8)else bnd (Xd e.S f) λq=>some (q.a,0)
def QdP(N:Nat)(f:WD)(g h:Int):Option (Int×Int):=bnd (Qce N f) λj=>bif (!j)then some (0,1)else bif (decide (g<0))then some (0,6)else bif (decide (g>=(f.e.length:Int)))then some (0,6)else bif (decide (h<1))then some (0,6)else bnd (Xd f.e g) λk=>bif (decide (h>k.G))then some (0,6)else bnd (Xd f.e g) λp=>bif (decide (h<p.G))then some (0,8)else bnd (Xd f.e g) λq=>bif (!q.V)then some (0,8)else bnd (Xd f.e g) λr=>some (r.a,0)
def QaZ(N:Nat)(f:Uj)(h:Int):Option (Int×Int):=bnd (QbI N f) λq=>bif (!q)then some (0,19)else bif (h==0)then some (0,0)else bnd (QcH N h) λe=>bif (e.2 != 0)then some (0,e.2)else bif (e.1.Tag==1)then(bnd (QeZ N f.l e.1.Index e.1.J) λj=>some (j.1,j.2))else bif (e.1.Tag==2)then(bnd (QdP N f.g e.1.Index e.1.J) λk=>some (k.1,k.2))else bnd (QdP N f.v e.1.Index e.1.J) λp=>some (p.1,p.2)
def QbY(N:Nat)(f:Uj)(g:Int):Option (Int×Int):=bnd (QaZ N f g) λe=>bif (e.2==0)then(bif (e.1==0)then some (0,5)else some (e.1,e.2))else some (e.1,e.2)
def Qc6(N:Nat)(g:Uj)(k f:Int)(p:Bool):Option (Int×Int×Int):=bnd (QbY N g k) λe=>bif (e.2 != 0)then some (0,0,e.2)else bnd (QbM N g.h e.1) λj=>bif (decide (f>=(wU j.1.n)))then some (0,0,2)else bnd (Qby N j.1 (wI f)) λq=>bif (!(q==p))then some (0,0,4)else some (e.1,(wI f),0)
def Qc7(N:Nat)(g:Wi)(h e:Int):Option (Int×Int):=bnd (QbM N g h) λf=>bif (f.2 != 0)then some (0,f.2)else bif (decide (e<0))then some (0,2)else bif (decide (e>=f.1.n))then some (0,2)else bnd (Qbk N g.w (wU ((wU (h+1))+(wU e)))) λj=>some (j.1,j.2)
def Qcm(N:Nat)(e:Wi)(f g j:Int):Option (Wi×Int):=bnd (Qc7 N e f g) λh=>bif (h.2 != 0)then some (zHp,h.2)else bnd (QdJ N e.w (wU ((wU (f+1))+(wU g))) j) λk=>some ((Wi.mk e.c k.1 e.p e.s e.b),0)
def Qc8(N:Nat)(e:Uj)(j x y z:Int):Option (Uj×Int×Int):=jn (λ(A B D:Int)=>bif (D != 0)then(bnd (Qab N D) λk=>some (k.1,k.2.1,k.2.2))else bnd (Qc7 N e.h A B) λE=>bif (j==6)then some (e,E.1,0)else bif (j==8)then(bnd (QcG N e E.1) λp=>some (p.1,p.2.1,p.2.2))else jn (λ(q:Int)=>bnd (Qcm N e.h A B q) λr=>some ((Uj.mk r.1 e.l e.g e.v e.P e.R),0,0)) λG=>bif (j==9)then(bnd (QaZ N e z) λs=>bif (s.2 != 0)then(bnd (Qab N s.2) λf=>some (f.1,f.2.1,f.2.2))else G s.1)else G z) λH=>bif (j==8)then(bnd (Qc6 N e x y true) λu=>H u.1 u.2.1 u.2.2)else bnd (Qc6 N e x y (j==9)) λw=>H w.1 w.2.1 w.2.2
def QcI(N:Nat)(e:Uj)(j p A:Int):Option (Uj×Int×Int):=jn (λ(B:Bool)=>bif B then(bnd (QbY N e p) λq=>bif (q.2 != 0)then(bnd (Qab N q.2) λr=>some (r.1,r.2.1,r.2.2))else bnd (QbM N e.h q.1) λy=>bif (j==4)then some (e,(wU y.1.n),0)else some (e,(wU y.1.k),0))else bif (j==10)then(bnd (QaZ N e p) λs=>bif (s.2 != 0)then(bnd (Qab N s.2) λu=>some (u.1,u.2.1,u.2.2))else bnd (QaZ N e A) λv=>bif (v.2 != 0)then(bnd (Qab N v.2) λw=>some (w.1,w.2.1,w.2.2))else bif (s.1==v.1)then some (e,1,0)else some (e,0,0))else bnd (QaZ N e p) λx=>bif (x.2 != 0)then(bnd (Qab N x.2) λf=>some (f.1,f.2.1,f.2.2))else bnd (QcG N e x.1) λg=>some (g.1,g.2.1,g.2.2)) λz=>bif (j==4)then z true else z (j==5)
def Qcb(N:Nat)(g:WD)(h:Int):Nat->Int->Option (Ex (WD×Int×Int×Int) Unit)
 |0,_=>none
 |n+1,f=>
  grd (g.e.length<=140737488355328) <|
  bif (decide (f<(g.e.length:Int)))then(bnd (Xd g.e f) λk=>
   bif (!k.V)then(bnd (Xd g.e f) λp=>
    bif (decide (p.G<4294967295))then(bnd (Xd g.e f) λj=>
     bnd (Xd g.e f) λr=>
     bnd (Xd (g.e.set f.toNat (W6.mk (wI (j.G+1)) h true)) f) λq=>
     some (.ret ((WD.mk (g.e.set f.toNat (W6.mk (wI (j.G+1)) h true))),f,q.G,0)))
    else Qcb N g h n (wI (f+1)))
   else Qcb N g h n (wI (f+1)))
  else some (.nxt ())
def QcZ(N:Nat)(f:WD)(g:Int):Option (WD×Int×Int×Int):=bnd (Qce N f) λh=>bif (!h)then some ((WD.mk []),0,0,1)else grd (f.e.length*24<=140737488355328) <| bnd (Qcb N f g N 0) λe=>exK e (λr=>some r) λj=>grd (f.e.length<=140737488355328) <| bif ((f.e.length:Int)==64)then some ((WD.mk []),0,0,18)else grd ((f.e.length+1)*24<=140737488355328) <| grd (f.e.length<=140737488355328) <| some ((WD.mk (f.e++[(W6.mk 1 g true)])),(f.e.length:Int),1,0)
def Qdr(N:Nat)(f:Uj)(r w:Int):Option (Uj×Int×Int):=bnd (QbY N f w) λk=>bif (k.2 != 0)then(bnd (Qab N k.2) λp=>some (p.1,p.2.1,p.2.2))else jn (λ(x:Int) (y:List W6)=>bnd (QcZ N (WD.mk y) k.1) λj=>bif (j.2.2.2 != 0)then(bnd (Qab N j.2.2.2) λq=>some (q.1,q.2.1,q.2.2))else jn (λ(z A:List W6)=>bnd (Qca N (Ix.mk x j.2.1 j.2.2.1)) λB=>some ((Uj.mk f.h f.l (WD.mk z) (WD.mk A) f.P f.R),B.1,0)) λs=>bif (r==15)then s f.g.e j.1.e else s j.1.e f.v.e) λu=>bif (r==15)then u 3 f.v.e else u 2 f.g.e
def QdQ(N:Nat)(e:Wq)(f g:Int):Option (Wq×Int):=bnd (QeZ N e f g) λh=>bif (h.2 != 0)then some ((Wq.mk [] [] []),h.2)else grd (e.S.length*24<=140737488355328) <| bnd (Xd e.S f) λj=>some ((Wq.mk (e.S.set f.toNat (UF.mk g 0 false)) e.x e.i),0)
def QgN(N:Nat)(f:WD)(g:Int)(h:W6):Option WD:=grd (f.e.length*24<=140737488355328) <| bnd (Xd f.e g) λj=>some (WD.mk (f.e.set g.toNat h))
def QcJ(N:Nat)(e:WD)(f g:Int):Option (WD×Int):=bnd (QdP N e f g) λh=>bif (h.2 != 0)then some ((WD.mk []),h.2)else bnd (QgN N e f (W6.mk g 0 false)) λj=>some (j,0)
def QdR(N:Nat)(e:Uj)(j q:Int):Option (Uj×Int×Int):=bif (q==0)then(bnd (Qab N 5) λr=>some (r.1,r.2.1,r.2.2))else bnd (QaZ N e q) λw=>bif (w.2 != 0)then(bnd (Qab N w.2) λs=>some (s.1,s.2.1,s.2.2))else bnd (QcH N q) λf=>jn (λ(_:Unit)=>bif (j==12)then(bnd (QdQ N e.l f.1.Index f.1.J) λx=>some ((Uj.mk e.h x.1 e.g e.v e.P e.R),0,0))else bif (j==14)then(bnd (QcJ N e.g f.1.Index f.1.J) λy=>some ((Uj.mk e.h e.l y.1 e.v e.P e.R),0,0))else bnd (QcJ N e.v f.1.Index f.1.J) λz=>some ((Uj.mk e.h e.l e.g z.1 e.P e.R),0,0)) λk=>jn (λ(_:Unit)=>bnd (Qab N 4) λu=>some (u.1,u.2.1,u.2.2)) λp=>bif (j==12)then(bif (f.1.Tag != 1)then p ()else bif (j==14)then(bif (f.1.Tag != 2)then p ()else bif (j==16)then(bif (f.1.Tag != 3)then p ()else k ())else k ())else bif (j==16)then(bif (f.1.Tag != 3)then p ()else k ())else k ())else bif (j==14)then(bif (f.1.Tag != 2)then p ()else bif (j==16)then(bif (f.1.Tag != 3)then p ()else k ())else k ())else bif (j==16)then(bif (f.1.Tag != 3)then p ()else k ())else k ()
def Qgo(N:Nat)(e:Wq)(f:Int)(g:Bool):Option (Wq×Int):=bnd (Qcf N e) λj=>bif (!j)then some ((Wq.mk [] [] []),1)else bif (decide (f<0))then some ((Wq.mk [] [] []),1)else bif (decide (f>64))then some ((Wq.mk [] [] []),1)else jn (λ(_:Unit)=>bif ((e.x.length:Int)==64)then some ((Wq.mk [] [] []),17)else grd (e.x.length*24<=140737488355328) <| grd ((e.x.length+1)*24<=140737488355328) <| some ((Wq.mk e.S (e.x++[(UX.mk (e.S.length:Int) f g)]) e.i),0)) λh=>bif (!g)then(bif ((e.x.length:Int)==0)then some ((Wq.mk [] [] []),9)else h ())else h ()
def Qel(N:Nat)(f:Wq)(g:Int):Option (Wq×Int):=bnd (Qgo N f g false) λe=>some (e.1,e.2)
def QgO(N:Nat)(e:Wq)(f:Int):Option Wq:=bnd (Xd e.x f) λg=>grd (0<=0/\0<=g.O/\g.O<=(e.S.length:Int)) <| grd ((min g.O.toNat e.S.length)*24<=140737488355328) <| grd (0<=0/\0<=f/\f<=(e.x.length:Int)) <| grd ((min f.toNat e.x.length)*24<=140737488355328) <| some (Wq.mk (e.S.take g.O.toNat) (e.x.take f.toNat) e.i)
def Qe0(N:Nat)(e:Wq):Option (Wq×Int):=bnd (Qcf N e) λf=>bif (!f)then some ((Wq.mk [] [] []),1)else bif ((e.x.length:Int)==0)then some ((Wq.mk [] [] []),9)else bnd (Xd e.x (wI ((e.x.length:Int)-1))) λg=>bif g.B0 then some ((Wq.mk [] [] []),9)else bnd (QgO N e (wI ((e.x.length:Int)-1))) λh=>some (h,0)
def QdS(N:Nat)(e:Uj)(x f:Int):Option (Uj×Int×Int):=bif (x==17)then(bif (decide (f>64))then(bnd (Qab N 1) λj=>some (j.1,j.2.1,j.2.2))else bnd (Qel N e.l (wI f)) λk=>bif (k.2 != 0)then(bnd (Qab N k.2) λp=>some (p.1,p.2.1,p.2.2))else some ((Uj.mk e.h k.1 e.g e.v e.P e.R),0,0))else bnd (QaZ N e f) λq=>bif (q.2 != 0)then(bnd (Qab N q.2) λr=>some (r.1,r.2.1,r.2.2))else bnd (Qe0 N e.l) λs=>bif (s.2 != 0)then(bnd (Qab N s.2) λu=>some (u.1,u.2.1,u.2.2))else bnd (QcG N (Uj.mk e.h s.1 e.g e.v e.P e.R) q.1) λw=>some (w.1,w.2.1,w.2.2)
def QbZ(N:Nat)(e:Wi)(h j:Int):Option Wi:=grd (e.p.length*32<=140737488355328) <| bnd (QfD N e h) λf=>bnd (Xd e.p f) λq=>bnd (Xd e.p f) λg=>some (Wi.mk e.c e.w (e.p.set f.toNat (Wo.mk g.k g.s g.u (wI (q.P+j)))) e.s e.b)
def Qds(N:Nat)(k:Wi)(f:List UB)(j:Int):Option (Wi×List UB×Int):=bnd (Qcg N k f) λp=>bif (!p)then some (zHp,[],19)else bif (j==0)then some (zHp,[],5)else bnd (QgK N f j) λe=>bif (decide (e<0))then some (zHp,[],12)else grd (f.length*16<=140737488355328) <| bnd (Xd f e) λg=>bnd (Xd f e) λh=>bnd (Xd (f.set e.toNat (UB.mk h.a (wI (g.M-1)))) e) λq=>bif (q.M==0)then(grd (0<=0/\0<=e/\e<=(f.length:Int)) <| grd (0<=(wI (e+1))/\(wI (e+1))<=(f.length:Int)/\(f.length:Int)<=(f.length:Int)) <| grd (e.toNat≠f.length/\(e.toNat+(f.length-(wI (e+1)).toNat))<=f.length) <| bnd (QbZ N k j (-1)) λr=>some (r,(((((f.set e.toNat (UB.mk h.a (wI (g.M-1)))).take e.toNat)++(((f.set e.toNat (UB.mk h.a (wI (g.M-1)))).drop (wI (e+1)).toNat).take (f.length-(wI (e+1)).toNat)))++((f.set e.toNat (UB.mk h.a (wI (g.M-1)))).drop (e.toNat+(f.length-(wI (e+1)).toNat)))).take (e.toNat+(f.length-(wI (e+1)).toNat))),0))else bnd (QbZ N k j (-1)) λs=>some (s,(f.set e.toNat (UB.mk h.a (wI (g.M-1)))),0)
def QdC(N:Nat)(e:Wi)(f:Int):Option Bool:=bnd (Qal N e) λg=>bnd (QbL N g.1 f) λh=>some h
def Qbr(N:Nat)(e:Wi)(h:Int):Nat->Int->Int->Option Int
 |0,_,_=>none
 |n+1,g,f=>
  bif (decide (f<(e.p.length:Int)))then(bnd (Xd e.p f) λj=>
   bif (j.k==1)then(bnd (Xd e.p f) λq=>
    bif (decide (q.P>0))then Qbr N e h n (wI (g+1)) (wI (f+1))
    else Qbr N e h n g (wI (f+1)))
   else Qbr N e h n g (wI (f+1)))
  else some g
def QcS(N:Nat)(e:Wi)(f:Int):Option Bool:=bnd (Qbl N e) λh=>bif (!h)then some false else bnd (QdC N e f) λj=>bif (!j)then some false else bnd (Qbr N e f N 0 0) λq=>bnd (QfD N e f) λr=>bnd (Xd e.p r) λg=>bif (g.k==1)then(bif (g.P==0)then some (decide (q>=(wI (e.c.p.tdiv 4))))else some false)else some false
def Qfz(N:Nat)(h:Wi)(e:List UB)(f:Int):Option (Wi×List UB×Int×Int):=bnd (Qcg N h e) λs=>bif (!s)then some (zHp,[],0,19)else bif (f==0)then some (zHp,[],0,5)else bnd (QdC N h f) λu=>bif (!u)then some (zHp,[],0,1)else bnd (QgK N e f) λg=>jn (λ(_:Unit)=>grd (e.length*16<=140737488355328) <| jn (λ(k:List UB)=>bnd (QbZ N h f 1) λp=>some (p,k,(wU (f+1)),0)) λr=>bif (decide (g>=0))then(bnd (Xd e g) λv=>bnd (Xd e g) λq=>r (e.set g.toNat (UB.mk q.a (wI (v.M+1)))))else grd ((e.length+1)*16<=140737488355328) <| r (e++[(UB.mk f 1)])) λj=>bif (decide (g>=0))then(bnd (Xd e g) λw=>bif (w.M==1000)then some (zHp,[],0,18)else bif (decide (g<0))then(bif ((e.length:Int)==64)then some (zHp,[],0,18)else bnd (QcS N h f) λx=>bif x then some (zHp,[],0,18)else j ())else bnd (QcS N h f) λy=>bif y then some (zHp,[],0,18)else j ())else bif (decide (g<0))then(bif ((e.length:Int)==64)then some (zHp,[],0,18)else bnd (QcS N h f) λz=>bif z then some (zHp,[],0,18)else j ())else bnd (QcS N h f) λA=>bif A then some (zHp,[],0,18)else j ()
def Qe1(N:Nat)(e:Uj)(s u:Int):Option (Uj×Int×Int):=bnd (QbY N e u) λj=>bif (j.2 != 0)then(bnd (Qab N j.2) λp=>some (p.1,p.2.1,p.2.2))else bif (s==20)then(bnd (Qds N e.h e.P j.1) λk=>bif (k.2.2 != 0)then(bnd (Qab N k.2.2) λq=>some (q.1,q.2.1,q.2.2))else some ((Uj.mk k.1 e.l e.g e.v k.2.1 e.R),0,0))else bnd (Qfz N e.h e.P j.1) λf=>bif (f.2.2.2 != 0)then(bnd (Qab N f.2.2.2) λr=>some (r.1,r.2.1,r.2.2))else some ((Uj.mk f.1 e.l e.g e.v f.2.1 e.R),f.2.2.1,0)
def Qah(N:Nat)(f:Uj)(e g x Y:Int):Option (Uj×Int×Int):=bnd (QbI N f) λZ=>bif (!Z)then(bnd (Qab N 19) λy=>some (y.1,y.2.1,y.2.2))else jn (λ(x4:Bool)=>bif x4 then(bnd (QdO N f e g x) λz=>some (z.1,z.2.1,z.2.2))else jn (λ(x8:Bool)=>bif x8 then(bnd (Qc8 N f e g x Y) λA=>some (A.1,A.2.1,A.2.2))else jn (λ(B:Bool)=>bif B then(bnd (QcI N f e g x) λh=>some (h.1,h.2.1,h.2.2))else jn (λ(D:Bool)=>bif D then(bnd (Qdr N f e g) λj=>some (j.1,j.2.1,j.2.2))else jn (λ(E:Bool)=>bif E then(bnd (QdR N f e g) λk=>some (k.1,k.2.1,k.2.2))else jn (λ(G:Bool)=>bif G then(bnd (QdS N f e g) λp=>some (p.1,p.2.1,p.2.2))else jn (λ(H:Bool)=>bif H then(bnd (Qe1 N f e g) λq=>some (q.1,q.2.1,q.2.2))else bnd (Qab N 1) λr=>some (r.1,r.2.1,r.2.2)) λs=>bif (e==19)then s true else s (e==20)) λu=>bif (e==17)then u true else u (e==18)) λv=>bif (e==12)then v true else jn (λ(I:Bool)=>v I) λw=>bif (e==14)then w true else w (e==16)) λL=>bif (e==13)then L true else L (e==15)) λM=>bif (e==4)then M true else jn (λ(J:Bool)=>M J) λO=>bif (e==5)then O true else jn (λ(K:Bool)=>O K) λR=>bif (e==10)then R true else R (e==11)) λS=>bif (e==6)then S true else jn (λ(x7:Bool)=>S x7) λT=>bif (e==7)then T true else jn (λ(x6:Bool)=>T x6) λU=>bif (e==8)then U true else U (e==9)) λV=>bif (e==1)then V true else jn (λ(x3:Bool)=>V x3) λW=>bif (e==2)then W true else W (e==3)
def QeN(N:Nat)(q r:Uj)(k u e:Int):Option OE:=jn (λ(f:Bool)=>jn (λ(g:Bool)=>bif (k==19)then(bif (e==0)then some (OE.mk f g u)else some (OE.mk f g 0))else some (OE.mk f g 0)) λp=>bif (e==0)then p (q.h.s != r.h.s)else p false) λj=>bif (e==3)then j true else bif (e==18)then j (k==19)else j false
def Qc9(N:Nat)(f:Wq)(e:Int):Option Int:=bif (e==0)then some 0 else bnd (Qeq N f e) λg=>some g.2.2.2
def QfP(N:Nat)(e:WP)(h j k:Int)(p:Bool):Option Int:=bif (decide ((e.m.length:Int)>0))then some 15 else bnd (QcE N h j k) λf=>bif (!f.2)then some 1 else bnd (Qcl N e.c f.1) λq=>bif (!q)then some 1 else bnd (Qc9 N e.l 1) λg=>bif (g != 0)then some g else bif p then some 3 else some 0
def QaI(N:Nat)(f:WP)(h:Int):Option (Int×Int):=bnd (Qep N f) λq=>bif (!q)then some (0,19)else bif (h==0)then some (0,0)else bnd (QcH N h) λe=>bif (e.2 != 0)then some (0,e.2)else bif (e.1.Tag==1)then(bnd (QeZ N f.l e.1.Index e.1.J) λj=>some (j.1,j.2))else bif (e.1.Tag==2)then(bnd (QdP N f.g e.1.Index e.1.J) λk=>some (k.1,k.2))else bnd (QdP N f.v e.1.Index e.1.J) λp=>some (p.1,p.2)
def Qet(N:Nat)(f:WP)(g:Int):Option (Int×Int):=bnd (QaI N f g) λe=>bif (e.2==0)then(bif (e.1==0)then some (0,5)else some (e.1,e.2))else some (e.1,e.2)
def Qgd(N:Nat)(e:WP)(f p h q:Int):Option Int:=bnd (Qet N e p) λg=>bif (g.2 != 0)then some g.2 else bnd (Xd e.T (wU (g.1-1))) λj=>bif (decide (h>=(wU j.H.n)))then some 2 else jn (λ(r:Bool)=>bnd (Qby N j.H (wI h)) λs=>bif (!(s==r))then some 4 else bif (f==8)then(bnd (Xd j.D h) λu=>bnd (Qc9 N e.l u) λv=>some v)else bif (f==9)then(bnd (QaI N e q) λw=>some w.2)else some g.2) λk=>bif (f==8)then k true else k (f==9)
def QfQ(N:Nat)(k:WP)(f e:Int):Option Int:=bif (e==0)then some 5 else bnd (QaI N k e) λg=>bif (g.2 != 0)then some g.2 else bnd (QcH N e) λh=>jn (λ(p:Int)=>bif (f==16)then(bif (h.1.Tag != 3)then some 4 else some 0)else bif (h.1.Tag != p)then some 4 else some 0) λj=>bif (f==14)then j 2 else j 1
def QgB(N:Nat)(f:WP)(k p:Int):Option Int:=bnd (Qet N f p) λh=>bif (h.2 != 0)then some h.2 else jn (λ(q:List W6)=>bnd (QcZ N (WD.mk q) h.1) λr=>some r.2.2.2) λj=>bif (k==15)then j f.v.e else j f.g.e
def Qge(N:Nat)(e:WP)(j f:Int):Option Int:=bif (j==17)then(bif (decide (f>64))then some 1 else bnd (Qel N e.l (wI f)) λk=>some k.2)else bnd (QaI N e f) λg=>bif (g.2 != 0)then some g.2 else bnd (Qe0 N e.l) λh=>bif (h.2 != 0)then some h.2 else bnd (Qc9 N h.1 g.1) λp=>some p
def QgY(N:Nat)(e:WP)(j k:Int)(g:Bool):Option Int:=bnd (Qet N e k) λh=>bif (h.2 != 0)then some h.2 else bnd (QfF N e h.1) λf=>bif (j==20)then(bif (decide (f<0))then some 12 else some 0)else bif (decide (f>=0))then(bnd (Xd e.m f) λp=>bif (p.M==1000)then some 18 else bif (decide (f<0))then(bif ((e.m.length:Int)==64)then some 18 else bif g then some 18 else some 0)else bif g then some 18 else some 0)else bif (decide (f<0))then(bif ((e.m.length:Int)==64)then some 18 else bif g then some 18 else some 0)else bif g then some 18 else some 0
def QgC(N:Nat)(e:WP)(f h k:Int):Option Int:=jn (λ(_:Unit)=>bnd (Qet N e h) λp=>some p.2) λj=>bif (f==4)then j ()else bif (f==5)then j ()else bnd (QaI N e h) λg=>bif (g.2 != 0)then some g.2 else bif (f==10)then(bnd (QaI N e k) λq=>some q.2)else bnd (Qc9 N e.l g.1) λr=>some r
def QfR(N:Nat)(f:WP)(e g q T:Int)(G:Bool):Option Int:=bnd (Qep N f) λU=>bif (!U)then some 19 else jn (λ(V:Bool)=>bif V then(bnd (QfP N f e g q G) λW=>some W)else jn (λ(Y:Bool)=>bif Y then(bnd (Qgd N f e g q T) λZ=>some Z)else jn (λ(r:Bool)=>bif r then(bnd (QfQ N f e g) λs=>some s)else jn (λ(u:Bool)=>bif u then(bnd (QgB N f e g) λv=>some v)else jn (λ(w:Bool)=>bif w then(bnd (Qge N f e g) λx=>some x)else jn (λ(y:Bool)=>bif y then(bnd (QgY N f e g G) λz=>some z)else jn (λ(A:Bool)=>bif A then(bnd (QgC N f e g q) λB=>some B)else some 1) λh=>bif (e==4)then h true else jn (λ(D:Bool)=>h D) λj=>bif (e==5)then j true else jn (λ(E:Bool)=>j E) λk=>bif (e==10)then k true else k (e==11)) λp=>bif (e==19)then p true else p (e==20)) λH=>bif (e==17)then H true else H (e==18)) λI=>bif (e==13)then I true else I (e==15)) λJ=>bif (e==12)then J true else jn (λ(x9:Bool)=>J x9) λK=>bif (e==14)then K true else K (e==16)) λL=>bif (e==6)then L true else jn (λ(x6:Bool)=>L x6) λM=>bif (e==7)then M true else jn (λ(x5:Bool)=>M x5) λO=>bif (e==8)then O true else O (e==9)) λR=>bif (e==1)then R true else jn (λ(x2:Bool)=>R x2) λS=>bif (e==2)then S true else S (e==3)
def Qda(N:Nat)(e:WP)(h:Int):Option (WP×Int):=bif (h==0)then some (e,0)else bnd (Qeq N e.l h) λf=>bnd (Qca N (Ix.mk 1 f.2.1 f.2.2.1)) λj=>some ((WP.mk e.c e.T f.1 e.g e.v e.m e.R),j.1)
def QfA(N:Nat)(e:WP)(h j k:Int):Option WP:=grd (e.T.length*48<=140737488355328) <| bnd (Xd e.T (wU (h-1))) λf=>grd (f.D.length*8<=140737488355328) <| bnd (Xd f.D j) λp=>bnd (Xd e.T (wU (h-1))) λq=>some (WP.mk e.c (e.T.set (wU (h-1)).toNat (UZ.mk f.H (f.D.set j.toNat k))) e.l e.g e.v e.m e.R)
def QeO(N:Nat)(f:WP)(q k:Int):Option (WP×Int):=jn (λ(r s:List W6) (u w x:Int)=>bnd (Qca N (Ix.mk u w x)) λy=>some ((WP.mk f.c f.T f.l (WD.mk r) (WD.mk s) f.m f.R),y.1)) λp=>bif (q==15)then(bnd (QcZ N f.v k) λh=>p f.g.e h.1.e 3 h.2.1 h.2.2.1)else bnd (QcZ N f.g k) λj=>p j.1.e f.v.e 2 j.2.1 j.2.2.1
def Qfq(N:Nat)(e:WP)(h:Int):Option WP:=bnd (QcH N h) λf=>bif (f.1.Tag==1)then(bnd (QdQ N e.l f.1.Index f.1.J) λj=>some (WP.mk e.c e.T j.1 e.g e.v e.m e.R))else bif (f.1.Tag==2)then(bnd (QcJ N e.g f.1.Index f.1.J) λk=>some (WP.mk e.c e.T e.l k.1 e.v e.m e.R))else bnd (QcJ N e.v f.1.Index f.1.J) λp=>some (WP.mk e.c e.T e.l e.g p.1 e.m e.R)
def QgZ(N:Nat)(e:WP)(f:Int):Option Int:=bnd (QfF N e f) λg=>some g
def QfG(N:Nat)(e:WP)(s p q:Int):Option (WP×Int):=bnd (QgZ N e p) λf=>grd (e.m.length*24<=140737488355328) <| bif (s==20)then(bnd (Xd e.m f) λj=>bnd (Xd e.m f) λh=>bnd (Xd (e.m.set f.toNat (IF.mk h.I (wI (j.M-1)) h.B0)) f) λu=>bif (u.M==0)then(grd (0<=0/\0<=f/\f<=(e.m.length:Int)) <| grd (0<=(wI (f+1))/\(wI (f+1))<=(e.m.length:Int)/\(e.m.length:Int)<=(e.m.length:Int)) <| grd (f.toNat≠e.m.length/\(f.toNat+(e.m.length-(wI (f+1)).toNat))<=e.m.length) <| some ((WP.mk e.c e.T e.l e.g e.v (((((e.m.set f.toNat (IF.mk h.I (wI (j.M-1)) h.B0)).take f.toNat)++(((e.m.set f.toNat (IF.mk h.I (wI (j.M-1)) h.B0)).drop (wI (f+1)).toNat).take (e.m.length-(wI (f+1)).toNat)))++((e.m.set f.toNat (IF.mk h.I (wI (j.M-1)) h.B0)).drop (f.toNat+(e.m.length-(wI (f+1)).toNat)))).take (f.toNat+(e.m.length-(wI (f+1)).toNat))) e.R),0))else some ((WP.mk e.c e.T e.l e.g e.v (e.m.set f.toNat (IF.mk h.I (wI (j.M-1)) h.B0)) e.R),0))else bif (decide (f>=0))then(bnd (Xd e.m f) λr=>bnd (Xd e.m f) λk=>bnd (Xd (e.m.set f.toNat (IF.mk k.I (wI (r.M+1)) k.B0)) f) λw=>some ((WP.mk e.c e.T e.l e.g e.v (e.m.set f.toNat (IF.mk k.I (wI (r.M+1)) k.B0)) e.R),w.B0))else grd ((e.m.length+1)*24<=140737488355328) <| some ((WP.mk e.c e.T e.l e.g e.v (e.m++[(IF.mk p 1 q)]) e.R),q)
def QfH(N:Nat)(f:WP)(h u s I:Int)(J:OE):Option (WP×Int×Int):=bnd (QfR N f h u s I J.Failed) λy1=>bif (y1 != 0)then some (zWd,0,y1)else jn (λ(j:Int)=>jn (λ(x5:Bool)=>bif x5 then(jn (λ(x7 x8:Int) (w:List UZ) (K:List UF) (L:List UX) (M:List Int) (O U:List W6) (V:List IF) (Y:List Int)=>bnd (QcE N h u s) λr=>grd (w.length*48<=140737488355328) <| grd (0<=r.1.n/\r.1.n.toNat*8<=140737488355328) <| grd ((w.length+1)*48<=140737488355328) <| grd ((w.length+1)<=140737488355328) <| bnd (Qda N (WP.mk (WN.mk x7 x8) (w++[(UZ.mk r.1 (List.replicate r.1.n.toNat (0:Int)))]) (Wq.mk K L M) (WD.mk O) (WD.mk U) V Y) (wU (((w.length+1):Nat):Int))) λy=>some (y.1,y.2,0)) λj4=>bif J.Collected then(bnd (Qdq N f) λq=>j4 q.1.c.W q.1.c.p q.1.T q.1.l.S q.1.l.x q.1.l.i q.1.g.e q.1.v.e q.1.m q.1.R)else j4 f.c.W f.c.p f.T f.l.S f.l.x f.l.i f.g.e f.v.e f.m f.R)else bif (h==4)then(bnd (Xd f.T (wU (j-1))) λZ=>some (f,(wU Z.H.n),0))else bif (h==5)then(bnd (Xd f.T (wU (j-1))) λp20=>some (f,(wU p20.H.k),0))else bif (h==6)then(bnd (Xd f.T (wU (j-1))) λp21=>bnd (Xd p21.D s) λp22=>some (f,p22,0))else bif (h==7)then(bnd (QfA N f j (wI s) I) λy23=>some (y23,0,0))else bif (h==8)then(bnd (Xd f.T (wU (j-1))) λp24=>bnd (Xd p24.D s) λp25=>bnd (Qda N f p25) λz=>some (z.1,z.2,0))else bif (h==9)then(bnd (QaI N f I) λy27=>bnd (QfA N f j (wI s) y27.1) λy28=>some (y28,0,0))else bif (h==10)then(bnd (QaI N f s) λy29=>bif (j==y29.1)then some (f,1,0)else some (f,0,0))else bif (h==11)then(bnd (Qda N f j) λA=>some (A.1,A.2,0))else jn (λ(x31:Bool)=>bif x31 then(bnd (QeO N f h j) λB=>some (B.1,B.2,0))else jn (λ(x34:Bool)=>bif x34 then(bnd (Qfq N f u) λy35=>some (y35,0,0))else bif (h==17)then(bnd (Qel N f.l (wI u)) λy36=>some ((WP.mk f.c f.T y36.1 f.g f.v f.m f.R),0,0))else bif (h==18)then(bnd (Qe0 N f.l) λy37=>bnd (Qda N (WP.mk f.c f.T y37.1 f.g f.v f.m f.R) j) λE=>some (E.1,E.2,0))else bnd (QfG N f h j J.B0) λG=>some (G.1,G.2,0)) λj7=>bif (h==12)then j7 true else jn (λ(x33:Bool)=>j7 x33) λj6=>bif (h==14)then j6 true else j6 (h==16)) λj5=>bif (h==13)then j5 true else j5 (h==15)) λj3=>bif (h==1)then j3 true else jn (λ(x4:Bool)=>j3 x4) λj2=>bif (h==2)then j2 true else j2 (h==3)) λj1=>bif (decide (h>3))then(bif (h != 17)then(bnd (QaI N f u) λy2=>j1 y2.1)else j1 0)else j1 0
def QbU(N:Nat)(f:Iw)(r:OA):Option (Iw×Int×Int):=bif (r.Op==0)then(bnd (QaY N f.N) λq=>jn (λ(x3 x4:Int) (x5:List Int) (x6:List Wo) (x7 x8:Int) (x9:List UF) (O:List UX) (U:List Int) (V Y:List W6) (Z:List UB) (x15:List Int) (x16 x17:Int) (x18:List UZ) (x19:List UF) (x20:List UX) (x21:List Int) (x22 x23:List W6) (x24:List IF) (x25:List Int)=>some ((Iw.mk (Uj.mk (Wi.mk (WN.mk x3 x4) x5 x6 x7 x8) (Wq.mk x9 O U) (WD.mk V) (WD.mk Y) Z x15) (WP.mk (WN.mk x16 x17) x18 (Wq.mk x19 x20 x21) (WD.mk x22) (WD.mk x23) x24 x25) f.w),0,0)) λj1=>bif (q.2.2==0)then(bnd (Qdq N f.z) λu=>j1 q.1.h.c.W q.1.h.c.p q.1.h.w q.1.h.p q.1.h.s q.1.h.b q.1.l.S q.1.l.x q.1.l.i q.1.g.e q.1.v.e q.1.P q.1.R u.1.c.W u.1.c.p u.1.T u.1.l.S u.1.l.x u.1.l.i u.1.g.e u.1.v.e u.1.m u.1.R)else j1 f.N.h.c.W f.N.h.c.p f.N.h.w f.N.h.p f.N.h.s f.N.h.b f.N.l.S f.N.l.x f.N.l.i f.N.g.e f.N.v.e f.N.P f.N.R f.z.c.W f.z.c.p f.z.T f.z.l.S f.z.l.x f.z.l.i f.z.g.e f.z.v.e f.z.m f.z.R)else bnd (Qah N f.N r.Op r.A r.B r.C) λj=>bnd (QeN N f.N j.1 r.Op j.2.1 j.2.2) λy27=>bnd (QfH N f.z r.Op r.A r.B r.C y27) λk=>jn (λ(y D:Int) (E:List UZ) (G:List UF) (H:List UX) (I:List Int) (J K:List W6) (L:List IF) (M:List Int)=>bif (j.2.2==0)then(bif (j.2.1 != 0)then(grd (f.w.length*8<=140737488355328) <| grd ((f.w.length+1)*8<=140737488355328) <| some ((Iw.mk j.1 (WP.mk (WN.mk y D) E (Wq.mk G H I) (WD.mk J) (WD.mk K) L M) (f.w++[j.2.1])),j.2.1,j.2.2))else some ((Iw.mk j.1 (WP.mk (WN.mk y D) E (Wq.mk G H I) (WD.mk J) (WD.mk K) L M) f.w),j.2.1,j.2.2))else some ((Iw.mk f.N (WP.mk (WN.mk y D) E (Wq.mk G H I) (WD.mk J) (WD.mk K) L M) f.w),j.2.1,j.2.2)) λj2=>bif (k.2.2==0)then j2 k.1.c.W k.1.c.p k.1.T k.1.l.S k.1.l.x k.1.l.i k.1.g.e k.1.v.e k.1.m k.1.R else j2 f.z.c.W f.z.c.p f.z.T f.z.l.S f.z.l.x f.z.l.i f.z.g.e f.z.v.e f.z.m f.z.R
def Qb0(N:Nat)(f:Iw)(v:Im):Option (Int×Im):=bnd (Qaf N v 14) λe=>bif (e.1==0)then(bnd (Qaf N e.2 8) λk=>bnd (Xd [0,1,262145,262146,524289,1125899906842624,4097,262149] k.1) λx=>some (x,k.2))else bif (e.1==1)then(bnd (Qaf N e.2 (f.w.length:Int)) λp=>bnd (Xd f.w p.1) λy=>bnd (Qaf N p.2 3) λq=>some ((wU (y+(wU q.1))),q.2))else jn (λ(z:Bool)=>bif z then(bnd (Qaf N e.2 (f.w.length:Int)) λr=>bnd (Xd f.w r.1) λh=>some (h,r.2))else bnd (Qaf N e.2 (if 6<(f.w.length:Int)then 6 else(f.w.length:Int))) λg=>bnd (Xd f.w (wI ((wI ((f.w.length:Int)-1))-g.1))) λj=>some (j,g.2)) λs=>bif (e.1==2)then s true else jn (λ(A:Bool)=>s A) λu=>bif (e.1==3)then u true else u (e.1==4)
def Qc0(N:Nat)(w:Iw)(H:Im):Option (OA×Im):=bnd (Qaf N H 32) λp=>bnd (Xd [1,1,2,2,3,4,5,6,7,7,8,8,9,9,9,10,11,12,12,13,14,15,16,17,18,19,19,20,20,0,0,21] p.1) λe=>bif (e==1)then(bnd (Qaf N p.2 4) λx=>grd (0<=(wU x.1)) <| bnd (Qaf N x.2 (ZY .i64 1 (wU x.1))) λA=>some ((OA.mk e (wU x.1) (wU A.1) 0),A.2))else jn (λ(I:Bool)=>bif I then(bnd (Qaf N p.2 4) λB=>bnd (Qaf N B.2 9) λy=>bif (y.1==0)then(bnd (Qaf N y.2 70) λD=>some ((OA.mk e (wU D.1) 0 0),D.2))else some ((OA.mk e (wU B.1) 0 0),y.2))else bif (e==17)then(bnd (Qaf N p.2 9) λE=>some ((OA.mk e (wU E.1) 0 0),E.2))else bnd (Qb0 N w p.2) λg=>bnd (Qaf N g.2 4) λq=>bnd (Qaf N q.2 1000) λh=>jn (λ(r:List Int) (s u:Int)=>bif (e==10)then(bnd (Qb0 N w (Im.mk r s)) λv=>some ((OA.mk e g.1 v.1 u),v.2))else some ((OA.mk e g.1 (wU q.1) u),(Im.mk r s))) λz=>bif (e==9)then(bnd (Qb0 N w h.2) λj=>z j.2.L j.2.at_ j.1)else bnd (Qaf N h.2 9) λf=>bif (f.1==0)then(bnd (Qb0 N w f.2) λk=>z k.2.L k.2.at_ k.1)else z f.2.L f.2.at_ (wU h.1)) λG=>bif (e==2)then G true else G (e==3)
def Qgf(N:Nat)(K:Int):Nat->Int->(List Int)->Int->Int->Int->(List Int)->(List Wo)->Int->Int->(List UF)->(List UX)->(List Int)->(List W6)->(List W6)->(List UB)->(List Int)->Int->Int->(List UZ)->(List UF)->(List UX)->(List Int)->(List W6)->(List W6)->(List IF)->(List Int)->(List Int)->Option (Int×Int×List Int×List Wo×Int×Int×List UF×List UX×List Int×List W6×List W6×List UB×List Int×Int×Int×List UZ×List UF×List UX×List Int×List W6×List W6×List IF×List Int×List Int)
 |0,_,_,_,_,_,_,_,_,_,_,_,_,_,_,_,_,_,_,_,_,_,_,_,_,_,_,_=>none
 |n+1,M,O,U,I,v6,v7,v8,v9,v10,v11,j,v13,k,v15,q,v17,v18,v19,v20,r,u,y,A,B,D,E,G=>
  bif (decide (M<K))then(bnd (Qgk N (Im.mk O U)) λJ=>
   bif (!J)then(bnd (Qc0 N (Iw.mk (Uj.mk (Wi.mk (WN.mk I v6) v7 v8 v9 v10) (Wq.mk v11 j v13) (WD.mk k) (WD.mk v15) q v17) (WP.mk (WN.mk v18 v19) v20 (Wq.mk r u y) (WD.mk A) (WD.mk B) D E) G) (Im.mk O U)) λH=>
    bnd (QbU N (Iw.mk (Uj.mk (Wi.mk (WN.mk I v6) v7 v8 v9 v10) (Wq.mk v11 j v13) (WD.mk k) (WD.mk v15) q v17) (WP.mk (WN.mk v18 v19) v20 (Wq.mk r u y) (WD.mk A) (WD.mk B) D E) G) H.1) λf=>
    Qgf N K n (wI (M+1)) H.2.L H.2.at_ f.1.N.h.c.W f.1.N.h.c.p f.1.N.h.w f.1.N.h.p f.1.N.h.s f.1.N.h.b f.1.N.l.S f.1.N.l.x f.1.N.l.i f.1.N.g.e f.1.N.v.e f.1.N.P f.1.N.R f.1.z.c.W f.1.z.c.p f.1.z.T f.1.z.l.S f.1.z.l.x f.1.z.l.i f.1.z.g.e f.1.z.v.e f.1.z.m f.1.z.R f.1.w)
   else some (I,v6,v7,v8,v9,v10,v11,j,v13,k,v15,q,v17,v18,v19,v20,r,u,y,A,B,D,E,G))
  else some (I,v6,v7,v8,v9,v10,v11,j,v13,k,v15,q,v17,v18,v19,v20,r,u,y,A,B,D,E,G)
def Qhs(N:Nat)(k:List Int)(q:Int):Option Iw:=bnd (Qbj N (Im.mk k 0)) λj=>bnd (Qgf N q N 0 j.2.L j.2.at_ j.1.N.h.c.W j.1.N.h.c.p j.1.N.h.w j.1.N.h.p j.1.N.h.s j.1.N.h.b j.1.N.l.S j.1.N.l.x j.1.N.l.i j.1.N.g.e j.1.N.v.e j.1.N.P j.1.N.R j.1.z.c.W j.1.z.c.p j.1.z.T j.1.z.l.S j.1.z.l.x j.1.z.l.i j.1.z.g.e j.1.z.v.e j.1.z.m j.1.z.R j.1.w) λf=>some (Iw.mk (Uj.mk (Wi.mk (WN.mk f.1 f.2.1) f.2.2.1 f.2.2.2.1 f.2.2.2.2.1 f.2.2.2.2.2.1) (Wq.mk f.2.2.2.2.2.2.1 f.2.2.2.2.2.2.2.1 f.2.2.2.2.2.2.2.2.1) (WD.mk f.2.2.2.2.2.2.2.2.2.1) (WD.mk f.2.2.2.2.2.2.2.2.2.2.1) f.2.2.2.2.2.2.2.2.2.2.2.1 f.2.2.2.2.2.2.2.2.2.2.2.2.1) (WP.mk (WN.mk f.2.2.2.2.2.2.2.2.2.2.2.2.2.1 f.2.2.2.2.2.2.2.2.2.2.2.2.2.2.1) f.2.2.2.2.2.2.2.2.2.2.2.2.2.2.2.1 (Wq.mk f.2.2.2.2.2.2.2.2.2.2.2.2.2.2.2.2.1 f.2.2.2.2.2.2.2.2.2.2.2.2.2.2.2.2.2.1 f.2.2.2.2.2.2.2.2.2.2.2.2.2.2.2.2.2.2.1) (WD.mk f.2.2.2.2.2.2.2.2.2.2.2.2.2.2.2.2.2.2.2.1) (WD.mk f.2.2.2.2.2.2.2.2.2.2.2.2.2.2.2.2.2.2.2.2.1) f.2.2.2.2.2.2.2.2.2.2.2.2.2.2.2.2.2.2.2.2.2.1 f.2.2.2.2.2.2.2.2.2.2.2.2.2.2.2.2.2.2.2.2.2.2.1) f.2.2.2.2.2.2.2.2.2.2.2.2.2.2.2.2.2.2.2.2.2.2.2)
def QfS(N:Nat)(e:W6):Option Bool:=bif (decide (e.G<1))then some true else bif (decide (e.G>4294967295))then some true else bif (!e.V)then some (e.a != 0)else some false
def Qan(N:Nat)(f:List W6):Nat->Int->Option (Ex Int Unit)
 |0,_=>none
 |n+1,e=>
  bif (decide (e<(f.length:Int)))then(bnd (Xd f e) λg=>
   bnd (QfS N g) λh=>
   bif h then some (.ret e)
   else Qan N f n (wI (e+1)))
  else some (.nxt ())
def QaQ(N:Nat)(f:List W6):Option Int:=bnd (Qan N f N 0) λe=>exK e (λr=>some r) λg=>some (-1)
def QaJ(N:Nat)(e:List W6):Option Bool:=bnd (QaQ N e) λf=>some (decide (f>=0))
def Qeu(N:Nat)(f:WD):Option Bool:=bif (decide ((f.e.length:Int)<=64))then(bnd (QaJ N f.e) λg=>some (!g))else some false
def Qd4(N:Nat)(f:WD):Nat->Int->(List Int)->Option (List Int)
 |0,_,_=>none
 |n+1,g,h=>
  bif (decide (g<(f.e.length:Int)))then(bnd (Xd f.e g) λj=>
   bif j.V then(grd ((h.length+1)*8<=140737488355328) <|
    Qd4 N f n (wI (g+1)) (h++[j.a]))
   else Qd4 N f n (wI (g+1)) h)
  else some h
def QdL(N:Nat)(e:WD):Option (List Int):=bnd (Qeu N e) λf=>bif (!f)then some []else bnd (Qd4 N e N 0 []) λg=>some g
def Qa3(N:Nat)(f:IQ):Nat->Int->Int->Option (Ex Bool Unit)
 |0,_,_=>none
 |n+1,h,g=>
  bif (decide (g<(f.l.x.length:Int)))then(bnd (Xd f.l.x g) λe=>
   bif (g==0)then(bif (e.O != 0)then some (.ret false)
    else bif (!e.B0)then some (.ret false)
    else bif (decide (e.O<h))then some (.ret false)
    else bif (decide (e.O>(f.l.S.length:Int)))then some (.ret false)
    else bif (decide (e.C0<0))then some (.ret false)
    else bif (decide (e.C0>64))then some (.ret false)
    else Qa3 N f n e.O (wI (g+1)))
   else bif (decide (e.O<h))then some (.ret false)
   else bif (decide (e.O>(f.l.S.length:Int)))then some (.ret false)
   else bif (decide (e.C0<0))then some (.ret false)
   else bif (decide (e.C0>64))then some (.ret false)
   else Qa3 N f n e.O (wI (g+1)))
  else some (.nxt ())
def Qdu(N:Nat)(f:IQ):Option Bool:=jn (λ(_:Unit)=>bnd (Qa3 N f N 0 0) λe=>exK e (λr=>some r) λh=>some true) λg=>bif (decide ((f.l.x.length:Int)>64))then some false else bif ((f.l.x.length:Int)==0)then(bif (decide ((f.l.S.length:Int)>0))then some false else g ())else g ()
def Qbb(N:Nat)(f:IQ):Nat->Int->Int->Option (Ex Bool Unit)
 |0,_,_=>none
 |n+1,h,g=>
  bif (decide (g<(f.l.S.length:Int)))then(bnd (Xd f.l.S g) λe=>
   bif (decide (e.J<=h))then some (.ret false)
   else bif (decide (e.J>(f.l.i.length:Int)))then some (.ret false)
   else bnd (Xd f.l.i (wI (e.J-1))) λj=>
   bif (j != g)then some (.ret false)
   else bif (e.V==(e.a==0))then some (.ret false)
   else Qbb N f n e.J (wI (g+1)))
  else some (.nxt ())
def Qdh(N:Nat)(f:IQ):Option Bool:=bnd (Qbb N f N 0 0) λe=>exK e (λr=>some r) λg=>some true
def QdT(N:Nat)(e:IQ)(f:Int):Option (List UF):=bif (decide ((wI (f+1))<(e.l.x.length:Int)))then(bnd (Xd e.l.x f) λg=>bnd (Xd e.l.x (wI (f+1))) λh=>grd (0<=g.O/\g.O<=h.O/\h.O<=(e.l.S.length:Int)) <| some ((e.l.S.drop g.O.toNat).take (h.O.toNat-g.O.toNat)))else bnd (Xd e.l.x f) λj=>grd (0<=j.O/\j.O<=(e.l.S.length:Int)/\(e.l.S.length:Int)<=(e.l.S.length:Int)) <| some (e.l.S.drop j.O.toNat)
def QbP(N:Nat)(e:List UF):Nat->Int->Int->Option Int
 |0,_,_=>none
 |n+1,g,f=>
  bif (decide (f<(e.length:Int)))then(bnd (Xd e f) λh=>
   bif h.V then QbP N e n (wI (g+1)) (wI (f+1))
   else QbP N e n g (wI (f+1)))
  else some g
def Qee(N:Nat)(e:IQ)(f:Int):Option Int:=bnd (QdT N e f) λg=>bnd (QbP N g N 0 0) λh=>some h
def QfT(N:Nat)(e:Int):Option Bool:=bif (decide (e<0))then some true else some (decide (e>=4096))
def QaG(N:Nat)(f:List Int):Nat->Int->Option (Ex Int Unit)
 |0,_=>none
 |n+1,e=>
  bif (decide (e<(f.length:Int)))then(bnd (Xd f e) λg=>
   bnd (QfT N g) λh=>
   bif h then some (.ret e)
   else QaG N f n (wI (e+1)))
  else some (.nxt ())
def QbW(N:Nat)(f:List Int):Option Int:=bnd (QaG N f N 0) λe=>exK e (λr=>some r) λg=>some (-1)
def Qbw(N:Nat)(e:List Int):Option Bool:=bnd (QbW N e) λf=>some (decide (f>=0))
def QdD(N:Nat)(e:Wq):Nat->Int->Option (Ex Bool Unit)
 |0,_=>none
 |n+1,f=>
  bif (decide (f<(e.x.length:Int)))then(bnd (Xd e.x f) λg=>
   bnd (Qee N (IQ.mk e) f) λh=>
   bif (decide (h>g.C0))then some (.ret false)
   else QdD N e n (wI (f+1)))
  else some (.nxt ())
def Qfa(N:Nat)(f:Wq):Option Bool:=bif (decide ((f.i.length:Int)>4096))then some false else bnd (Qbw N f.i) λg=>bif g then some false else bnd (Qdu N (IQ.mk f)) λh=>bif (!h)then some false else bnd (Qdh N (IQ.mk f)) λj=>bif (!j)then some false else bnd (QdD N f N 0) λe=>exK e (λr=>some r) λk=>some true
def Qd5(N:Nat)(e:Wq):Nat->Int->(List Int)->Option (List Int)
 |0,_,_=>none
 |n+1,f,g=>
  bif (decide (f<(e.S.length:Int)))then(bnd (Xd e.S f) λh=>
   bif h.V then(grd ((g.length+1)*8<=140737488355328) <|
    Qd5 N e n (wI (f+1)) (g++[h.a]))
   else Qd5 N e n (wI (f+1)) g)
  else some g
def QfI(N:Nat)(e:Wq):Option (List Int):=bnd (Qfa N e) λf=>bif (!f)then some []else bnd (Qd5 N e N 0 []) λg=>some g
def Qbt(N:Nat)(e:Int):Option (List Int):=bif (decide (e<0))then none else bif (decide ((wI (e-(wI 0)))>0))then(grd (0=0/\0=0) <| grd (0<=(wI (e-(wI 0)))/\(wI (e-(wI 0))).toNat*8<=140737488355328) <| grd ((wI (e-(wI 0))).toNat*8<=140737488355328) <| grd (0<=0/\0<=0/\0<=(((wI (e-(wI 0))).toNat:Nat):Int)) <| some ((List.replicate (wI (e-(wI 0))).toNat (0:Int)).take 0))else some []
def QaT(N:Nat)(e:List (List Int)):Nat->Int->Int->Option Int
 |0,_,_=>none
 |n+1,f,g=>
  bif (decide (g<(e.length:Int)))then(bnd (Xd e g) λh=>
   bif (decide ((wI (f+(h.length:Int)))<0))then none
   else QaT N e n (wI (f+(h.length:Int))) (wI (g+1)))
  else some f
def QaU(N:Nat)(e:List (List Int)):Nat->Int->(List Int)->Option (List Int)
 |0,_,_=>none
 |n+1,v6,v7=>
  bif (decide (v6<(e.length:Int)))then(bnd (Xd e v6) λf=>
   grd ((v7.length+f.length)*8<=140737488355328) <|
   QaU N e n (wI (v6+1)) (v7++f))
  else some v7
def QaP(N:Nat)(e:List (List Int)):Option (List Int):=bnd (QaT N e N 0 0) λf=>bnd (Qbt N f) λg=>bnd (QaU N e N 0 g) λh=>some h
def Qgp(N:Nat)(e:List (List Int)):Option (List Int):=bnd (QaP N e) λf=>some f
def QeP(N:Nat)(e:Uj):Nat->Int->(List Int)->Option (List Int)
 |0,_,_=>none
 |n+1,f,g=>
  bif (decide (f<(e.P.length:Int)))then(bnd (Xd e.P f) λh=>
   grd ((g.length+1)*8<=140737488355328) <|
   QeP N e n (wI (f+1)) (g++[h.a]))
  else some g
def Qhj(N:Nat)(e:Uj):Option (List Int):=bnd (QeP N e N 0 []) λf=>some f
def Qgq(N:Nat)(e:Uj):Option (List Int):=bnd (QfI N e.l) λf=>bnd (QdL N e.g) λh=>bnd (Qhj N e) λj=>bnd (Qgp N [e.R,f,h,j]) λk=>some k
def Qb1(N:Nat)(e:WN):Option Bool:=bif (decide (e.W>=16))then(bif (decide (e.W<=64))then(bif ((e.W.tmod 4)==0)then(bif (decide (e.p>=8))then some (decide (e.p<=64))else some false)else some false)else some false)else some false
def Qe2(N:Nat)(e:WN):Option Int:=bnd (Qb1 N e) λf=>bif (!f)then some 0 else some (wI (e.W.tdiv 4))
def Qe3(N:Nat)(e:WN)(f:Int):Option Int:=bnd (Qb1 N e) λg=>bif (!g)then some (-1)else bif (decide (f<1))then some (-1)else bif (decide (f>(wI (4*e.W))))then some (-1)else bnd (Qe2 N e) λh=>bif (decide (f<=h))then some 0 else grd (e.W≠0) <| some (wI ((wI ((wI (f+e.W))-1)).tdiv e.W))
def Qf8(N:Nat)(e:Wo)(f:WN):Option Bool:=some ((e.k==0)&&((e.s==0)&&((e.u==0)&&(e.P==0))))
def Qb6(N:Nat)(e:Wo):Option Bool:=bif (e.s==0)then some true else some (e.s==1)
def Qdm(N:Nat)(e:Wo):Option Bool:=bif (decide (e.P>=0))then some (decide (e.P<=2147483647))else some false
def QdE(N:Nat)(e:Wo)(f:WN):Option Bool:=bnd (Qb6 N e) λg=>bif g then(bnd (Qdm N e) λh=>bif h then(bif (decide (e.u>=0))then some (decide (e.u<=f.W))else some false)else some false)else some false
def QdF(N:Nat)(e:Wo)(f:WN):Option Bool:=bnd (Qb6 N e) λg=>bif g then(bnd (Qdm N e) λh=>bif h then(bnd (Qe3 N f e.u) λj=>some (decide (j>=1)))else some false)else some false
def Qfl(N:Nat)(e f:Wo):Option Bool:=some ((e.k==3)&&((e.s==f.s)&&((e.u==0)&&(e.P==0))))
def Qfr(N:Nat)(g:List Wo)(e:Int)(f:Wo)(j h:Int):Nat->Int->Option (Ex Int Unit)
 |0,_=>none
 |n+1,v7=>
  bif (decide (v7<(((min ((wI (e+h)).toNat-(wI (e+1)).toNat) (g.length-(wI (e+1)).toNat)):Nat):Int)))then(bnd (Xd ((g.drop (wI (e+1)).toNat).take ((wI (e+h)).toNat-(wI (e+1)).toNat)) v7) λk=>
   bnd (Qfl N k (Wo.mk j f.s f.u f.P)) λp=>
   bif (!p)then some (.ret 0)
   else Qfr N g e f j h n (wI (v7+1)))
  else some (.nxt ())
def QgP(N:Nat)(j:WN)(p:List Wo)(g:Int):Option Int:=bnd (Xd p g) λf=>jn (λ(v:Int)=>bif (v != 2)then some 1 else bnd (Qe3 N j f.u) λh=>bif (decide (h>(wI ((p.length:Int)-g))))then some 0 else grd (0<=(wI (g+1))/\(wI (g+1))<=(wI (g+h))/\(wI (g+h))<=(p.length:Int)) <| bnd (Qfr N p g f v h N 0) λe=>exK e (λr=>some r) λw=>some h) λq=>bif (decide (f.k<0))then some 0 else bif (decide (f.k>=3))then some 0 else bif (f.k==0)then(bnd (Qf8 N (Wo.mk 0 f.s f.u f.P) j) λx=>bif (!x)then some 0 else q 0)else bif (f.k==1)then(bnd (QdE N (Wo.mk 1 f.s f.u f.P) j) λy=>bif (!y)then some 0 else q 1)else bif (f.k==2)then(bnd (QdF N (Wo.mk 2 f.s f.u f.P) j) λz=>bif (!z)then some 0 else q 2)else none
def Qae(N:Nat)(e:Wi):Nat->Int->Option (Ex Bool Unit)
 |0,_=>none
 |n+1,f=>
  bif (decide (f<(e.p.length:Int)))then(bnd (QgP N e.c e.p f) λg=>
   bif (g==0)then some (.ret false)
   else Qae N e n (wI (f+g)))
  else some (.nxt ())
def Qb2(N:Nat)(f:Wi):Option Bool:=jn (λ(_:Unit)=>jn (λ(_:Unit)=>bnd (Qae N f N 0) λe=>exK e (λr=>some r) λu=>some true) λg=>bif (f.b != (-1))then(bif (decide (f.b<0))then some false else bif (decide (f.b>=(f.p.length:Int)))then some false else bnd (Xd f.p f.b) λj=>bif (j.k != 1)then some false else g ())else g ()) λh=>bnd (Qb1 N f.c) λq=>bif (!q)then some false else bif ((f.w.length:Int) != (wI (f.c.W*f.c.p)))then some false else bif ((f.p.length:Int) != f.c.p)then some false else bif (f.s != 0)then(bif (f.s != 1)then some false else h ())else h ()
def Qdn(N:Nat)(e:List UT):Nat->Int->(List Int)->Option (List Int)
 |0,_,_=>none
 |n+1,f,g=>
  bif (decide (f<(e.length:Int)))then(bnd (Xd e f) λh=>
   grd ((g.length+1)*8<=140737488355328) <|
   Qdn N e n (wI (f+1)) (g++[h.addr]))
  else some g
def Qcn(N:Nat)(e:List UT):Option (List Int):=bnd (Qdn N e N 0 []) λf=>some f
def Qfs(N:Nat)(e:Int):Nat->Int->Int->Option Int
 |0,_,_=>none
 |n+1,f,g=>
  bif (decide (g<(if 64<(if e<0 then 0 else e)then 64 else(if e<0 then 0 else e))))then Qfs N e n (bOr .u64 (ZY .u64 f 1) 1) (wI (g+1))
  else some f
def Qc1(N:Nat)(e:Int):Option Int:=bnd (Qfs N e N 0 0) λf=>some f
def Qdi(N:Nat)(e:Ws):Option Bool:=bif (decide (e.k<0))then some false else bif (decide (e.k>3))then some false else bif (decide (e.n<0))then some false else bif (decide (e.n>255))then some false else bif (e.k==1)then(jn (λ(g:Bool)=>some g) λf=>bif (decide (e.n<=32))then(bnd (Qc1 N e.n) λh=>f (decide ((wU e.Map)<=h)))else f false)else some ((e.k==e.k)&&((e.n==e.n)&&(e.Map==0)))
def Qbs(N:Nat)(e:Ws):Option Int:=bnd (Qdi N e) λf=>bif (!f)then some 0 else some (wI (e.n+1))
def Qdj(N:Nat)(e:WN)(f g:Int):Option (Int×Int):=bnd (Qb1 N e) λh=>bif (!h)then some (0,1)else bif (decide (f<0))then some (0,2)else bif (decide (f>=e.p))then some (0,2)else bif (decide (g<0))then some (0,2)else bif (decide (g>=e.W))then some (0,2)else some ((wU (4096+(wU (wI ((wI (f*e.W))+g))))),0)
def Qco(N:Nat)(e:WN)(f:Int):Option (Int×Int×Int):=bnd (Qb1 N e) λg=>bif (!g)then some (0,0,1)else bif (decide (f<4096))then some (0,0,2)else bif (decide ((wU (f-4096))>=(wU (wI (e.W*e.p)))))then some (0,0,2)else grd (e.W≠0) <| grd (e.W≠0) <| some ((wI ((wI (wU (f-4096))).tdiv e.W)),((wI (wU (f-4096))).tmod e.W),0)
def QaV(N:Nat)(j:Int)(e:List Int):Nat->Int->Int->Option (Ex (List Int×Int) Unit)
 |0,_,_=>none
 |n+1,h,f=>
  bif (decide (f<(e.length:Int)))then(bnd (Xd e f) λg=>
   bif (decide (g<1))then some (.ret ([],1))
   else bif (decide (g>h))then some (.ret ([],1))
   else QaV N j e n (wI (h-g)) (wI (f+1)))
  else some (.nxt ())
def QaW(N:Nat)(e:List Int):Nat->Int->Int->(List Int)->Option (Int×List Int)
 |0,_,_,_=>none
 |n+1,f,v6,v7=>
  bif (decide (v6<(e.length:Int)))then(bnd (Xd e v6) λg=>
   bnd (Qc1 N g) λh=>
   grd ((v7.length+1)*8<=140737488355328) <|
   grd (0<=g) <|
   QaW N e n (Yz .u64 f g) (wI (v6+1)) (v7++[(Zq .u64 f h)]))
  else some (f,v7)
def Qfb(N:Nat)(g:Int)(h:List Int):Option (List Int×Int):=bnd (QaV N g h N 64 0) λe=>exK e (λr=>some r) λj=>bnd (QaW N h N g 0 []) λf=>bif (f.1 != 0)then some ([],2)else some (f.2,0)
def Qd6(N:Nat)(j:Int):Option (Ws×Bool):=bnd (Qfb N j [2,2,12,32]) λe=>bif (e.2 != 0)then some ((Ws.mk 0 0 0),false)else bnd (Xd e.1 0) λk=>bif (k != 1)then some ((Ws.mk 0 0 0),false)else bnd (Xd e.1 1) λf=>bnd (Xd e.1 2) λg=>bnd (Xd e.1 3) λh=>bnd (Qdi N (Ws.mk (wI f) (wI g) (wW h))) λp=>bif (!p)then some ((Ws.mk 0 0 0),false)else some ((Ws.mk (wI f) (wI g) (wW h)),true)
def Qfc(N:Nat)(f:List Int)(e g:Int):Option (Int×Bool):=bif (decide (e<4096))then some (0,false)else bif (decide ((wU (e-4096))>(wU (f.length:Int))))then some (0,false)else some ((wI (wU (e-4096))),(decide (g<=(wI ((f.length:Int)-(wI (wU (e-4096))))))))
def Qhd(N:Nat)(f:List Int)(g:Int):Option (Int×Int):=bnd (Qfc N f g 1) λe=>bif (!e.2)then some (0,2)else some (e.1,0)
def Qgr(N:Nat)(f:List Int)(g:Int):Option (Int×Int):=bnd (Qhd N f g) λe=>bif (e.2 != 0)then some (0,e.2)else bnd (Xd f e.1) λh=>some (h,0)
def QgJ(N:Nat)(e:Wi)(f:Int):Option Int:=bnd (Qgr N e.w f) λg=>some g.1
def Qev(N:Nat)(g:Wi)(r:Int):Option (Ws×Int):=bnd (Qb2 N g) λy=>bif (!y)then some ((Ws.mk 0 0 0),1)else bnd (Qco N g.c r) λe=>bif (e.2.2 != 0)then some ((Ws.mk 0 0 0),e.2.2)else bnd (Xd g.p e.1) λf=>bnd (QgJ N g r) λz=>bnd (Qd6 N z) λh=>bnd (Qbs N h.1) λs=>jn (λ(j:Bool)=>bif (!j)then some ((Ws.mk 0 0 0),19)else some (h.1,0)) λq=>bif (!h.2)then q false else bif (decide (e.2.1>=f.u))then q false else jn (λ(A:Bool)=>q A) λv=>bif (f.k==1)then v (decide (s<=(wI (f.u-e.2.1))))else jn (λ(B:Bool)=>v B) λw=>bif (f.k==2)then(jn (λ(D:Bool)=>w D) λx=>bif (e.2.1==0)then x (s==f.u)else x false)else w false
def Qb3(N:Nat)(e:Wi)(k:Int)(p:Wo):Nat->Int->List UT->Option (List UT×Int)
 |0,_,_=>none
 |n+1,f,g=>
  bif (decide (f<p.u))then(bnd (Qdj N e.c k f) λh=>
   bif (h.2==0)then(bnd (Qev N e h.1) λj=>
    bif (j.2==0)then(bnd (Qbs N j.1) λq=>
     grd ((g.length+1)*32<=140737488355328) <|
     Qb3 N e k p n (wI (f+q)) (g++[UT.mk h.1 j.1]))
    else some ([],19))
   else some ([],19))
  else some (g,0)
def Qf0(N:Nat)(f:Wi)(g:Int):Option (List UT×Int):=bnd (Xd f.p g) λe=>bif (e.k != 1)then(bif (e.k != 2)then some ([],0)else Qb3 N f g e N 0 [])else Qb3 N f g e N 0 []
def Qe4(N:Nat)(e:Wi)(f:Int):Option (List Int×Int):=bnd (Qb2 N e) λh=>bif (!h)then some ([],1)else bif (decide (f<0))then some ([],2)else bif (decide (f>=(e.p.length:Int)))then some ([],2)else bnd (Qf0 N e f) λg=>bif (g.2 != 0)then some ([],g.2)else bnd (Qcn N g.1) λj=>some (j,0)
def Qcp(N:Nat)(e:Wi)(f:Int)(g:List Int):Nat->Int->Option (Ex (Int×Bool) Unit)
 |0,_=>none
 |n+1,h=>
  bif (decide (h<(g.length:Int)))then(bnd (Xd g h) λj=>
   bnd (Qev N e j) λq=>
   bnd (Qbs N q.1) λr=>
   bnd (Qe2 N e.c) λs=>
   bnd (Xd e.p f) λu=>
   bif (u.k==1)then(bif (!(decide (r<=s)))then some (.ret (j,true))
    else bnd (Xd e.p f) λv=>
    bif (v.k==2)then(bif (q.1.k==0)then some (.ret (j,true))
     else Qcp N e f g n (wI (h+1)))
    else Qcp N e f g n (wI (h+1)))
   else bnd (Xd e.p f) λw=>
   bif (w.k==2)then(bif (q.1.k==0)then some (.ret (j,true))
    else Qcp N e f g n (wI (h+1)))
   else Qcp N e f g n (wI (h+1)))
  else some (.nxt ())
def Qf1(N:Nat)(f:Wi)(g:Int)(h:List Int):Option (Int×Bool):=bnd (Qcp N f g h N 0) λe=>exK e (λr=>some r) λj=>some (0,false)
def Qad(N:Nat)(e:List Int):Option (List Int):=some e
def Qg0(N:Nat)(g:List Int)(h f:Int):Option (List Int×Int):=bif (decide (f<0))then some ([],1)else bnd (Qfc N g h f) λe=>bif (!e.2)then some ([],2)else grd (0<=e.1/\e.1<=(wI (e.1+f))/\(wI (e.1+f))<=(g.length:Int)) <| bnd (Qad N ((g.drop e.1.toNat).take ((wI (e.1+f)).toNat-e.1.toNat))) λj=>some (j,0)
def QeQ(N:Nat)(f:Wi):Nat->Int->Option Int
 |0,_=>none
 |n+1,e=>
  bif (decide (e>0))then(bnd (Xd f.p e) λg=>
   bif (g.k==3)then QeQ N f n (wI (e-1))
   else some e)
  else some e
def Qg1(N:Nat)(e:Wi)(f:Int):Option Int:=bnd (QeQ N e N f) λg=>some g
def Qg2(N:Nat)(e:Int):Option Bool:=some (e != 0)
def Qau(N:Nat)(f:List Int):Nat->Int->Option (Ex Int Unit)
 |0,_=>none
 |n+1,e=>
  bif (decide (e<(f.length:Int)))then(bnd (Xd f e) λg=>
   bnd (Qg2 N g) λh=>
   bif h then some (.ret e)
   else Qau N f n (wI (e+1)))
  else some (.nxt ())
def Qbn(N:Nat)(f:List Int):Option Int:=bnd (Qau N f N 0) λe=>exK e (λr=>some r) λg=>some (-1)
def Qd7(N:Nat)(p:Wi)(e:Int×Int)(h:List Int×Int):Nat->Int->(List Int)->Option (List Int)
 |0,_,_=>none
 |n+1,j,v6=>
  bif (decide (j<(h.1.length:Int)))then(bnd (Xd h.1 j) λf=>
   bnd (Qev N p f) λq=>
   jn (λ(g:Int)=>
    grd (v6.length<=140737488355328) <|
    grd (v6.length<=140737488355328) <|
    grd (0<=(if(v6.length:Int)<(if(wI ((wI f)-(wI e.1)))<0 then 0 else(wI ((wI f)-(wI e.1))))then(v6.length:Int)else(if(wI ((wI f)-(wI e.1)))<0 then 0 else(wI ((wI f)-(wI e.1)))))/\(if(v6.length:Int)<(if(wI ((wI f)-(wI e.1)))<0 then 0 else(wI ((wI f)-(wI e.1))))then(v6.length:Int)else(if(wI ((wI f)-(wI e.1)))<0 then 0 else(wI ((wI f)-(wI e.1)))))<=(if(v6.length:Int)<(if(wI ((wI ((wI f)-(wI e.1)))+g))<0 then 0 else(wI ((wI ((wI f)-(wI e.1)))+g)))then(v6.length:Int)else(if(wI ((wI ((wI f)-(wI e.1)))+g))<0 then 0 else(wI ((wI ((wI f)-(wI e.1)))+g))))/\(if(v6.length:Int)<(if(wI ((wI ((wI f)-(wI e.1)))+g))<0 then 0 else(wI ((wI ((wI f)-(wI e.1)))+g)))then(v6.length:Int)else(if(wI ((wI ((wI f)-(wI e.1)))+g))<0 then 0 else(wI ((wI ((wI f)-(wI e.1)))+g))))<=(v6.length:Int)) <|
    Qd7 N p e h n (wI (j+1)) (((v6.take (if(v6.length:Int)<(if(wI ((wI f)-(wI e.1)))<0 then 0 else(wI ((wI f)-(wI e.1))))then(v6.length:Int)else(if(wI ((wI f)-(wI e.1)))<0 then 0 else(wI ((wI f)-(wI e.1))))).toNat)++(List.replicate ((if(v6.length:Int)<(if(wI ((wI ((wI f)-(wI e.1)))+g))<0 then 0 else(wI ((wI ((wI f)-(wI e.1)))+g)))then(v6.length:Int)else(if(wI ((wI ((wI f)-(wI e.1)))+g))<0 then 0 else(wI ((wI ((wI f)-(wI e.1)))+g)))).toNat-(if(v6.length:Int)<(if(wI ((wI f)-(wI e.1)))<0 then 0 else(wI ((wI f)-(wI e.1))))then(v6.length:Int)else(if(wI ((wI f)-(wI e.1)))<0 then 0 else(wI ((wI f)-(wI e.1))))).toNat) (0:Int)))++(v6.drop ((if(v6.length:Int)<(if(wI ((wI f)-(wI e.1)))<0 then 0 else(wI ((wI f)-(wI e.1))))then(v6.length:Int)else(if(wI ((wI f)-(wI e.1)))<0 then 0 else(wI ((wI f)-(wI e.1))))).toNat+((if(v6.length:Int)<(if(wI ((wI ((wI f)-(wI e.1)))+g))<0 then 0 else(wI ((wI ((wI f)-(wI e.1)))+g)))then(v6.length:Int)else(if(wI ((wI ((wI f)-(wI e.1)))+g))<0 then 0 else(wI ((wI ((wI f)-(wI e.1)))+g)))).toNat-(if(v6.length:Int)<(if(wI ((wI f)-(wI e.1)))<0 then 0 else(wI ((wI f)-(wI e.1))))then(v6.length:Int)else(if(wI ((wI f)-(wI e.1)))<0 then 0 else(wI ((wI f)-(wI e.1))))).toNat))))) λr=>
   bif (q.1.k != 0)then(bnd (Qbs N q.1) λs=>
    r s)
   else r 1)
  else some v6
def Qgs(N:Nat)(f:Wi)(j:Int):Option (Int×Bool):=bnd (Qdj N f.c j 0) λg=>bnd (Qg0 N f.w g.1 f.c.W) λk=>bnd (Qg1 N f j) λp=>bnd (Qe4 N f p) λq=>bnd (Qd7 N f g q N 0 k.1) λh=>bnd (Qbn N h) λe=>some ((wU (g.1+(wU (if e<0 then 0 else e)))),(decide (e>=0)))
def Qa6(N:Nat)(f:Wi):Nat->Int->Option (Ex Un Unit)
 |0,_=>none
 |n+1,e=>
  bif (decide (e<(f.p.length:Int)))then(bnd (Xd f.p e) λg=>
   jn (λ(_:Unit)=>
    bnd (Qe4 N f e) λh=>
    bif (h.2 != 0)then some (.ret (Un.mk 3 e 0))
    else bnd (Qf1 N f e h.1) λj=>
    bif j.2 then some (.ret (Un.mk 5 e j.1))
    else bnd (Qgs N f e) λq=>
    bif q.2 then some (.ret (Un.mk 4 e q.1))
    else Qa6 N f n (wI (e+1))) λr=>
   bif (g.k != 0)then(bif (g.s != f.s)then some (.ret (Un.mk 2 e 0))
    else r ())
   else r ())
  else some (.nxt ())
def QgD(N:Nat)(f:Wi):Option Un:=bnd (Qa6 N f N 0) λe=>exK e (λr=>some r) λg=>some (Un.mk 0 0 0)
def Qf2(N:Nat)(f:Wi):Nat->Int->(List UT)->Option (Ex (List UT×Int) (List UT))
 |0,_,_=>none
 |n+1,g,h=>
  bif (decide (g<(f.p.length:Int)))then(bnd (Qf0 N f g) λe=>
   bif (e.2 != 0)then some (.ret ([],e.2))
   else grd ((h.length+e.1.length)*32<=140737488355328) <|
   Qf2 N f n (wI (g+1)) (h++e.1))
  else some (.nxt h)
def Qhq(N:Nat)(f:Wi):Option (List UT×Int):=bnd (Qb2 N f) λg=>bif (!g)then some ([],1)else bnd (Qf2 N f N 0 []) λe=>exK e (λr=>some r) λh=>some (h,0)
def Qey(N:Nat)(e:UT):Option Bool:=some (e.hd.k==0)
def Qak(N:Nat)(f:List UT):Nat->Int->Option (Ex Int Unit)
 |0,_=>none
 |n+1,e=>
  bif (decide (e<(f.length:Int)))then(bnd (Xd f e) λg=>
   bnd (Qey N g) λh=>
   bif h then some (.ret e)
   else Qak N f n (wI (e+1)))
  else some (.nxt ())
def Qas(N:Nat)(f:List UT):Option Int:=bnd (Qak N f N 0) λe=>exK e (λr=>some r) λg=>some (-1)
def Qcv(N:Nat):Nat->Int->Int->(List UT)->Option (Int×List UT)
 |0,_,_,_=>none
 |n+1,f,g,e=>
  grd (e.length<=140737488355328) <|
  bif (decide (g<(e.length:Int)))then(bnd (Xd e g) λh=>
   bnd (Qey N h) λj=>
   bif (!j)then(bnd (Xd e f) λk=>
    Qcv N n (wI (f+1)) (wI (g+1)) (e.set f.toNat h))
   else Qcv N n f (wI (g+1)) e)
  else some (f,e)
def QdU(N:Nat)(k:Wi):Option (List Int×Int):=bnd (Qhq N k) λf=>bif (f.2 != 0)then some ([],f.2)else bnd (Qas N f.1) λg=>bif (g==(-1))then(bnd (Qcn N f.1) λh=>some (h,0))else bnd (Qcv N N g (wI (g+1)) f.1) λe=>grd (0<=e.1/\e.1<=(e.2.length:Int)/\(e.2.length:Int)<=(e.2.length:Int)) <| grd (0<=e.1/\e.1<=(((((min e.1.toNat e.2.length)+(e.2.length-e.1.toNat))+(e.2.length-(e.1.toNat+(e.2.length-e.1.toNat)))):Nat):Int)) <| bnd (Qcn N ((((e.2.take e.1.toNat)++(List.replicate (e.2.length-e.1.toNat) (UT.mk 0 (Ws.mk 0 0 0))))++(e.2.drop (e.1.toNat+(e.2.length-e.1.toNat)))).take e.1.toNat)) λj=>some (j,0)
def QeE(N:Nat)(e:Int):Option Bool:=some (e != e)
def Qf9(N:Nat)(e f:Int):Option Bool:=bnd (QeE N e) λg=>bif g then(bnd (QeE N f) λh=>bif (!h)then some true else some (decide (e<f)))else some (decide (e<f))
def Qdv(N:Nat)(e:Int):Option Bool:=some (e != e)
def Qaq(N:Nat)(g:List Int)(h:Int):Nat->Int->Int->Option Int
 |0,_,_=>none
 |n+1,e,f=>
  bif (decide (e<f))then(bnd (Xd g (wI (Yz .u64 (wU (wI (e+f))) 1))) λj=>
   bnd (Qf9 N j h) λk=>
   bif k then Qaq N g h n (wI ((wI (Yz .u64 (wU (wI (e+f))) 1))+1)) f
   else Qaq N g h n e (wI (Yz .u64 (wU (wI (e+f))) 1)))
  else some e
def Qax(N:Nat)(f:List Int)(g:Int):Option (Int×Bool):=bnd (Qaq N f g N 0 (f.length:Int)) λe=>bif (decide (e<(f.length:Int)))then(bnd (Xd f e) λh=>bif (h==g)then some (e,true)else bnd (Xd f e) λj=>bnd (Qdv N j) λk=>bif k then(bnd (Qdv N g) λp=>some (e,p))else some (e,false))else some (e,false)
def Qft(N:Nat)(e:Ws)(f:Int):Option Bool:=bnd (Qdi N e) λg=>bif (!g)then some false else bif (decide (f<0))then some false else bif (decide (f>=e.n))then some false else bif (e.k==2)then some true else bif (e.k==1)then(grd (0<=f) <| some ((Zq .u32 (Yz .u32 e.Map f) 1)==1))else some false
def Qcc(N:Nat)(g:Ws)(h:Int):Nat->Int->(List Int)->Option (List Int)
 |0,_,_=>none
 |n+1,e,f=>
  bif (decide (e<h))then(bnd (Qft N g e) λj=>
   bif j then(grd ((f.length+1)*8<=140737488355328) <|
    Qcc N g h n (wI (e+1)) (f++[e]))
   else Qcc N g h n (wI (e+1)) f)
  else some f
def QdX(N:Nat)(e:Ws):Option (List Int):=bnd (Qbs N e) λf=>bnd (Qcc N e f N 0 []) λg=>some g
def QaO(N:Nat)(g:Wi)(h:List Int×Int)(j e:Int)(f:List Int):Nat->Int->Option (Ex Int Unit)
 |0,_=>none
 |n+1,v6=>
  bif (decide (v6<(f.length:Int)))then(bnd (Xd f v6) λk=>
   bnd (Qgr N g.w (wU ((wU (e+1))+(wU k)))) λp=>
   bnd (Qax N h.1 p.1) λq=>
   bif (p.1 != 0)then(bif (!q.2)then some (.ret (wU ((wU (e+1))+(wU k))))
    else QaO N g h j e f n (wI (v6+1)))
   else QaO N g h j e f n (wI (v6+1)))
  else some (.nxt ())
def Qct(N:Nat)(h:Wi)(f:List Int×Int):Nat->Int->Option Int
 |0,_=>none
 |n+1,g=>
  bif (decide (g<(f.1.length:Int)))then(bnd (Xd f.1 g) λk=>
   bnd (Qev N h k) λp=>
   bnd (QdX N p.1) λq=>
   bnd (QaO N h f g k q N 0) λe=>exK e (λj=>some j) λr=>
   Qct N h f n (wI (g+1)))
  else some 0
def Qfu(N:Nat)(f:Wi):Option Un:=bnd (QdU N f) λh=>bnd (Qct N f h N 0) λe=>bif (e==0)then some (Un.mk 0 0 0)else bnd (Qco N f.c e) λg=>some (Un.mk 6 g.1 e)
def Qcq(N:Nat)(e:Wi):Nat->Int->Int->Option Int
 |0,_,_=>none
 |n+1,g,f=>
  bif (decide (f<(e.p.length:Int)))then(bnd (Xd e.p f) λh=>
   bif (h.k==1)then(bif (decide (h.P>0))then Qcq N e n (wI (g+1)) (wI (f+1))
    else Qcq N e n g (wI (f+1)))
   else Qcq N e n g (wI (f+1)))
  else some g
def Qhe(N:Nat)(e:Wi):Option Un:=bnd (Qb2 N e) λh=>bif (!h)then some (Un.mk 1 0 0)else bnd (QgD N e) λf=>bif (!((f.Fault==0)&&((f.Page==0)&&(f.Addr==0))))then some f else bnd (Qfu N e) λg=>bif (!((g.Fault==0)&&((g.Page==0)&&(g.Addr==0))))then some g else bnd (Qcq N e N 0 0) λj=>bif (decide (j>(wI (e.c.p.tdiv 4))))then some (Un.mk 7 0 0)else some (Un.mk 0 0 0)
def QfJ(N:Nat)(f:Wi):Option Bool:=bnd (Qhe N f) λe=>some ((e.Fault==0)&&((e.Page==0)&&(e.Addr==0)))
def Qfm(N:Nat)(e:UB)(f:Int):Option Bool:=some (e.a==f)
def Qap(N:Nat)(f:List UB)(c0:Int):Nat->Int->Option (Ex Int Unit)
 |0,_=>none
 |n+1,e=>
  bif (decide (e<(f.length:Int)))then(bnd (Xd f e) λg=>
   bnd (Qfm N g c0) λh=>
   bif h then some (.ret e)
   else Qap N f c0 n (wI (e+1)))
  else some (.nxt ())
def Qa7(N:Nat)(f:List UB)(c0:Int):Option Int:=bnd (Qap N f c0 N 0) λe=>exK e (λr=>some r) λg=>some (-1)
def QfU(N:Nat)(e:List UB)(f:Int):Option Int:=bnd (Qa7 N e f) λg=>some g
def Qcd(N:Nat)(f:List UB)(k:Wi)(p:List Int×Int):Nat->Int->(List Int)->Option (Ex (List Int×Bool) (List Int))
 |0,_,_=>none
 |n+1,g,h=>
  bif (decide (g<(f.length:Int)))then(bnd (Xd f g) λe=>
   bnd (Qax N p.1 e.a) λq=>
   bif (!q.2)then some (.ret ([],false))
   else bif (decide (e.M<1))then some (.ret ([],false))
   else bif (decide (e.M>1000))then some (.ret ([],false))
   else bnd (QfU N f e.a) λr=>
   bif (r != g)then some (.ret ([],false))
   else bnd (Qco N k.c e.a) λj=>
   bnd (Xd h j.1) λs=>
   bnd (Xd h j.1) λu=>
   Qcd N f k p n (wI (g+1)) (h.set j.1.toNat (wI (s+e.M))))
  else some (.nxt h)
def Qga(N:Nat)(h:List UB)(f:Wi):Option (List Int×Bool):=bnd (QdU N f) λj=>grd (0<=(f.p.length:Int)/\(f.p.length:Int).toNat*8<=140737488355328) <| bnd (Qcd N h f j N 0 (List.replicate (f.p.length:Int).toNat (0:Int))) λe=>exK e (λr=>some r) λg=>some (g,true)
def QeF(N:Nat)(f:Wi)(g:List Int×Bool):Nat->Int->Option (Ex Bool Unit)
 |0,_=>none
 |n+1,e=>
  bif (decide (e<(f.p.length:Int)))then(bnd (Xd f.p e) λh=>
   bnd (Xd g.1 e) λj=>
   bif (h.P != j)then some (.ret false)
   else QeF N f g n (wI (e+1)))
  else some (.nxt ())
def Qhh(N:Nat)(f:Wi)(g:List UB):Option Bool:=bnd (QfJ N f) λj=>bif (!j)then some false else bif (decide ((g.length:Int)>64))then some false else bnd (Qga N g f) λh=>bif (!h.2)then some false else bnd (QeF N f h N 0) λe=>exK e (λr=>some r) λk=>some true
def Qay(N:Nat)(f:List Int)(g:Int):Nat->Int->Option (Ex Int Unit)
 |0,_=>none
 |n+1,e=>
  bif (decide (e<(f.length:Int)))then(bnd (Xd f e) λh=>
   bif (g==h)then some (.ret e)
   else Qay N f g n (wI (e+1)))
  else some (.nxt ())
def QbV(N:Nat)(f:List Int)(g:Int):Option Int:=bnd (Qay N f g N 0) λe=>exK e (λr=>some r) λh=>some (-1)
def Qaj(N:Nat)(e:List Int)(f:Int):Option Bool:=bnd (QbV N e f) λg=>some (decide (g>=0))
def QeG(N:Nat)(e:Int)(f:List Int):Option Bool:=bnd (Qax N f e) λg=>bif (e != 0)then some (!g.2)else some false
def Qar(N:Nat)(f c0:List Int):Nat->Int->Option (Ex Int Unit)
 |0,_=>none
 |n+1,e=>
  bif (decide (e<(f.length:Int)))then(bnd (Xd f e) λg=>
   bnd (QeG N g c0) λh=>
   bif h then some (.ret e)
   else Qar N f c0 n (wI (e+1)))
  else some (.nxt ())
def Qa9(N:Nat)(f c0:List Int):Option Int:=bnd (Qar N f c0 N 0) λe=>exK e (λr=>some r) λg=>some (-1)
def Qa0(N:Nat)(e c0:List Int):Option Bool:=bnd (Qa9 N e c0) λf=>some (decide (f>=0))
def QdV(N:Nat)(e:Wi)(f:List Int):Option Bool:=bnd (QfJ N e) λg=>bif (!g)then some false else bnd (QdU N e) λh=>bnd (Qa0 N f h.1) λj=>some (!j)
def QfB(N:Nat)(e:Uj):Option Bool:=bnd (Qhh N e.h e.P) λj=>bif (!j)then some false else bnd (Qfa N e.l) λk=>bif (!k)then some false else bnd (Qeu N e.g) λp=>bif (!p)then some false else bnd (Qeu N e.v) λq=>bif (!q)then some false else bnd (QdL N e.g) λr=>bnd (Qaj N r 0) λs=>bif s then some false else bnd (Qgq N e) λu=>bnd (QdL N e.v) λw=>bnd (Qgp N [u,w]) λx=>bnd (QdV N e.h x) λf=>some f
def Qac(N:Nat)(e:List Wo):Option (List Wo):=some e
def Qb7(N:Nat)(e:Wi)(g:List Int×Int)(h:List Int)(f:List Wo):Nat->Int->(List Wo)->Option (List Wo)
 |0,_,_=>none
 |n+1,v6,v7=>
  bif (decide (v6<(f.length:Int)))then(bnd (Xd v7 v6) λp=>
   bif (p.k==1)then(bif (decide (p.P>0))then(bnd (Xd v7 v6) λj=>
       Qb7 N e g h f n (wI (v6+1)) (v7.set v6.toNat (Wo.mk j.k (wI (1-e.s)) j.u j.P)))
    else Qb7 N e g h f n (wI (v6+1)) v7)
   else Qb7 N e g h f n (wI (v6+1)) v7)
  else some v7
def Qez(N:Nat)(e:Wi):Option (Wv×Int):=bnd (Qb2 N e) λk=>bif (!k)then some ((Wv.mk zHp [] [] [] 0 (WT.mk 0 0 0 0 0 0)),1)else bnd (QfJ N e) λq=>bif (!q)then some ((Wv.mk zHp [] [] [] 0 (WT.mk 0 0 0 0 0 0)),19)else bnd (QdU N e) λf=>bif (f.2 != 0)then some ((Wv.mk zHp [] [] [] 0 (WT.mk 0 0 0 0 0 0)),f.2)else bnd (Qad N e.w) λj=>bnd (Qac N e.p) λg=>grd (g.length<=140737488355328) <| bnd (Qb7 N e f j g N 0 g) λh=>some ((Wv.mk (Wi.mk e.c j h e.s e.b) f.1 [] [] 0 (WT.mk 0 0 0 0 0 0)),0)
def QeR(N:Nat)(f:Int):Option (Int×Bool):=bnd (Qfb N f [2,32]) λe=>bif (e.2 != 0)then some (0,false)else bnd (Xd e.1 0) λg=>bif (g != 2)then some (0,false)else bnd (Xd e.1 1) λh=>some (h,true)
def QbN(N:Nat)(f:List Int)(g:Int):Nat->Int->Option (Ex Int Unit)
 |0,_=>none
 |n+1,e=>
  bif (decide (e<(f.length:Int)))then(bnd (Xd f e) λh=>
   bif (g==h)then some (.ret e)
   else QbN N f g n (wI (e+1)))
  else some (.nxt ())
def Qem(N:Nat)(f:List Int)(g:Int):Option Int:=bnd (QbN N f g N 0) λe=>exK e (λr=>some r) λh=>some (-1)
def Qbc(N:Nat)(e:List Int)(f:Int):Option Bool:=bnd (Qem N e f) λg=>some (decide (g>=0))
def Qc2(N:Nat)(e:Wv)(f:Int):Option Bool:=jn (λ(r:Bool)=>some r) λg=>bif (decide (f<0))then g false else grd (e.h.p.length<=140737488355328) <| bif (decide (f>=(e.h.p.length:Int)))then g false else bnd (Xd e.h.p f) λq=>jn (λ(u:Bool)=>g u) λj=>bif (q.k==1)then(bif (q.s==(wI (1-e.h.s)))then(bnd (Qbc N e.t f) λv=>j (!v))else j false)else j false
def Qdt(N:Nat)(e:List Wo):Nat->Int->Int->Option Int
 |0,_,_=>none
 |n+1,g,f=>
  bif (decide (f<(e.length:Int)))then(bnd (Xd e f) λh=>
   bif (h.k != 0)then Qdt N e n (wI (g+1)) (wI (f+1))
   else Qdt N e n g (wI (f+1)))
  else some g
def Qgt(N:Nat)(e:List Wo):Option Int:=bnd (Qdt N e N 0 0) λf=>some f
def QgQ(N:Nat)(h:List Wo)(e:Int)(f:List Wo):Option (List Wo×Int):=bif (decide (e<0))then some ([],2)else bif (decide (e>(wI ((h.length:Int)-(f.length:Int)))))then some ([],2)else grd (0<=e/\e<=(wI (e+(f.length:Int)))/\(wI (e+(f.length:Int)))<=(h.length:Int)) <| bnd (Qgt N ((h.drop e.toNat).take ((wI (e+(f.length:Int))).toNat-e.toNat))) λj=>bif (decide (j>0))then some ([],20)else bnd (Qac N h) λg=>grd (0<=e/\e<=(g.length:Int)/\(g.length:Int)<=(g.length:Int)) <| grd (f.length<=(g.length-e.toNat)) <| some ((((g.take e.toNat)++f)++(g.drop (e.toNat+f.length))),0)
def QdM(N:Nat)(g:List Wo)(h e:Int):Option (List Wo×Int):=bnd (Qb6 N (Wo.mk 1 e 0 0)) λj=>bif (!j)then some ([],1)else bnd (QgQ N g h [(Wo.mk 1 e 0 0)]) λf=>some (f.1,f.2)
def QcK(N:Nat)(g:List Wo):Nat->Int->(List OD)->Option (List OD)
 |0,_,_=>none
 |n+1,f,e=>
  bif (decide (f<(g.length:Int)))then(bnd (Xd g f) λj=>
   grd (e.length<=140737488355328) <|
   bif (j.k != 0)then QcK N g n (wI (f+1)) e
   else jn (λ(_:Unit)=>
    grd ((e.length+1)*16<=140737488355328) <|
    QcK N g n (wI (f+1)) (e++[(OD.mk f 1)])) λh=>
   bif (decide ((wI ((e.length:Int)-1))>=0))then(bnd (Xd e (wI ((e.length:Int)-1))) λp=>
    bnd (Xd e (wI ((e.length:Int)-1))) λq=>
    bif ((wI (p.O+q.Len))==f)then(bnd (Xd e (wI ((e.length:Int)-1))) λr=>
     bnd (Xd e (wI ((e.length:Int)-1))) λs=>
     QcK N g n (wI (f+1)) (e.set (wI ((e.length:Int)-1)).toNat (OD.mk s.O (wI (r.Len+1)))))
    else h ())
   else h ())
  else some e
def Qhi(N:Nat)(e:List Wo):Option (List OD):=bnd (QcK N e N 0 []) λf=>some f
def Qd8(N:Nat)(g:Int)(e:List OD):Nat->Int->Option (Ex Int Unit)
 |0,_=>none
 |n+1,f=>
  bif (decide (f<(e.length:Int)))then(bnd (Xd e f) λh=>
   bif (decide (h.Len>=g))then some (.ret h.O)
   else Qd8 N g e n (wI (f+1)))
  else some (.nxt ())
def QdN(N:Nat)(g:List Wo)(f:Int):Option Int:=bif (decide (f<1))then some (-1)else bnd (Qhi N g) λh=>bnd (Qd8 N f h N 0) λe=>exK e (λr=>some r) λj=>some (-1)
def Qcu(N:Nat)(e:Wv)(x:Int):Option (Int×Int×Int×List Wo×List Int):=jn (λ(y z A:Int) (j:List Wo) (k:List Int)=>some (y,z,A,j,k)) λq=>grd (e.t.length<=140737488355328) <| jn (λ(_:Unit)=>bnd (QdN N e.h.p 1) λf=>bif (decide (f<0))then q 0 0 3 e.h.p e.t else bnd (QdM N e.h.p f (wI (1-e.h.s))) λr=>bif (r.2 != 0)then none else grd ((e.t.length+1)*8<=140737488355328) <| q f 0 0 r.1 (e.t++[f])) λg=>bif (decide ((e.t.length:Int)>0))then(bnd (Xd e.t (wI ((e.t.length:Int)-1))) λB=>bif (decide (B>=0))then(bnd (Xd e.t (wI ((e.t.length:Int)-1))) λD=>grd (e.h.p.length<=140737488355328) <| bif (decide (D<(e.h.p.length:Int)))then(bnd (Xd e.t (wI ((e.t.length:Int)-1))) λv=>bnd (Xd e.h.p v) λw=>bif (decide (x<=(wI (e.h.c.W-w.u))))then q v w.u 0 e.h.p e.t else g ())else g ())else g ())else g ()
def QdW(N:Nat)(e f:Int):Option Bool:=bnd (Qc1 N f) λg=>some ((XcT .u64 e g)==0)
def Qbo(N:Nat)(e:List Ik):Nat->Int->Int->Option (Ex (Int×Int) Unit)
 |0,_,_=>none
 |n+1,h,f=>
  bif (decide (f<(e.length:Int)))then(bnd (Xd e f) λg=>
   bif (decide (g.Width<1))then some (.ret (0,1))
   else bif (decide (g.Width>h))then some (.ret (0,1))
   else Qbo N e n (wI (h-g.Width)) (wI (f+1)))
  else some (.nxt ())
def Qbp(N:Nat)(f:List Ik):Nat->Int->Int->Int->Option (Ex (Int×Int) Int)
 |0,_,_,_=>none
 |n+1,g,v6,v7=>
  bif (decide (v7<(f.length:Int)))then(bnd (Xd f v7) λe=>
   bnd (QdW N e.Value e.Width) λh=>
   bif (!h)then some (.ret (0,2))
   else grd (0<=v6) <|
   Qbp N f n (bOr .u64 g (ZY .u64 e.Value v6)) (wI (v6+e.Width)) (wI (v7+1)))
  else some (.nxt g)
def Qgg(N:Nat)(g:List Ik):Option (Int×Int):=bnd (Qbo N g N 64 0) λe=>exK e (λr=>some r) λh=>bnd (Qbp N g N 0 0 0) λe=>exK e (λr=>some r) λf=>some (f,0)
def Qb4(N:Nat)(e:Int):Option (Int×Int):=bnd (Qc1 N 32) λg=>bif (decide (e>g))then some (0,1)else bnd (Qgg N [(Ik.mk 2 2),(Ik.mk 32 e)]) λf=>some (f.1,f.2)
def QbO(N:Nat)(j:Wv)(p:Int):Nat->Int->(List Wo)->Option (List Wo)
 |0,_,_=>none
 |n+1,e,v13=>
  grd (v13.length<=140737488355328) <|
  bif (decide (e<(v13.length:Int)))then(bnd (Xd v13 e) λg=>
   bif (g.k==3)then(bnd (Xd v13 e) λf=>
    QbO N j p n (wI (e+1)) (v13.set e.toNat (Wo.mk f.k (wI (1-j.h.s)) f.u f.P)))
   else some v13)
  else some v13
def Qa2(N:Nat)(e:Wv)(G:Int):Option (Int×Int×Wv):=jn (λ(R S T U:Int) (V:List Int) (Y:List Wo) (Z x47:List Int)=>some (R,S,(Wv.mk (Wi.mk e.h.c V Y e.h.s e.h.b) e.o Z x47 e.d (WT.mk T U e.r.F e.r.E e.r.f e.r.y)))) λD=>bif (G==0)then D G 0 e.r.j e.r.K e.h.w e.h.p e.t e.q else bnd (Qaj N e.q G) λy1=>bif y1 then D G 0 e.r.j e.r.K e.h.w e.h.p e.t e.q else bnd (Qaj N e.o G) λy2=>bif (!y2)then D 0 19 e.r.j e.r.K e.h.w e.h.p e.t e.q else bnd (Qco N e.h.c G) λA=>bif (A.2.2 != 0)then D 0 19 e.r.j e.r.K e.h.w e.h.p e.t e.q else grd (e.h.w.length<=140737488355328) <| bif (decide (1>(wI ((e.h.w.length:Int)-(wI ((wI (A.1*e.h.c.W))+A.2.1))))))then D 0 19 e.r.j e.r.K e.h.w e.h.p e.t e.q else grd (0<=(wI ((wI (A.1*e.h.c.W))+A.2.1))/\(wI ((wI (A.1*e.h.c.W))+A.2.1))<=(wI ((wI ((wI (A.1*e.h.c.W))+A.2.1))+1))/\(wI ((wI ((wI (A.1*e.h.c.W))+A.2.1))+1))<=(e.h.w.length:Int)) <| bnd (KM e.h.w ((wI ((wI (A.1*e.h.c.W))+A.2.1)).toNat) ((wI ((wI ((wI (A.1*e.h.c.W))+A.2.1))+1)).toNat-(wI ((wI (A.1*e.h.c.W))+A.2.1)).toNat) 0) λp6=>bnd (QeR N p6) λy7=>bif y7.2 then D y7.1 0 e.r.j e.r.K e.h.w e.h.p e.t e.q else bnd (Qco N e.h.c G) λL=>grd (e.h.p.length<=140737488355328) <| bif (decide (L.1>=(e.h.p.length:Int)))then D 0 19 e.r.j e.r.K e.h.w e.h.p e.t e.q else bnd (Qc2 N e L.1) λy9=>bif y9 then(grd ((e.q.length+1)*8<=140737488355328) <| D G 0 e.r.j (wI (e.r.K+1)) e.h.w e.h.p e.t (e.q++[G]))else bnd (Xd e.h.p L.1) λp10=>bif (p10.k==2)then(bnd (Xd e.h.p L.1) λI=>bnd (QbO N e G N (wI (L.1+1)) (e.h.p.set L.1.toNat (Wo.mk I.k (wI (1-e.h.s)) I.u I.P))) λy16=>grd ((e.q.length+1)*8<=140737488355328) <| D G 0 e.r.j (wI (e.r.K+1)) e.h.w y16 e.t (e.q++[G]))else bnd (KM e.h.w ((wI ((wI (A.1*e.h.c.W))+A.2.1)).toNat) ((wI ((wI ((wI (A.1*e.h.c.W))+A.2.1))+1)).toNat-(wI ((wI (A.1*e.h.c.W))+A.2.1)).toNat) 0) λp17=>bnd (Qd6 N p17) λH=>bnd (Qbs N H.1) λx=>bnd (Qco N e.h.c G) λg=>bif (g.2.2 != 0)then(bif (!H.2)then D 0 19 e.r.j e.r.K e.h.w e.h.p e.t e.q else D 0 19 e.r.j e.r.K e.h.w e.h.p e.t e.q)else grd (e.h.w.length<=140737488355328) <| bif (decide (x>(wI ((e.h.w.length:Int)-(wI ((wI (g.1*e.h.c.W))+g.2.1))))))then(bif (!H.2)then D 0 19 e.r.j e.r.K e.h.w e.h.p e.t e.q else D 0 19 e.r.j e.r.K e.h.w e.h.p e.t e.q)else grd (0<=(wI ((wI (g.1*e.h.c.W))+g.2.1))/\(wI ((wI (g.1*e.h.c.W))+g.2.1))<=(wI ((wI ((wI (g.1*e.h.c.W))+g.2.1))+x))/\(wI ((wI ((wI (g.1*e.h.c.W))+g.2.1))+x))<=(e.h.w.length:Int)) <| bif (!H.2)then D 0 19 e.r.j e.r.K e.h.w e.h.p e.t e.q else grd (((wI ((wI ((wI (g.1*e.h.c.W))+g.2.1))+x)).toNat-(wI ((wI (g.1*e.h.c.W))+g.2.1)).toNat)<=140737488355328) <| bnd (Qcu N e ((((wI ((wI ((wI (g.1*e.h.c.W))+g.2.1))+x)).toNat-(wI ((wI (g.1*e.h.c.W))+g.2.1)).toNat):Nat):Int)) λz=>bif (z.2.2.1 != 0)then D 0 z.2.2.1 e.r.j e.r.K e.h.w z.2.2.2.1 z.2.2.2.2 e.q else jn (λ(x34 x35 x36:Int) (x37:List Int) (x38:List Wo) (x39:List Int)=>D x34 x35 x36 e.r.K x37 x38 z.2.2.2.2 x39) λM=>bnd (Qdj N e.h.c z.1 z.2.1) λB=>bif (B.2 != 0)then M 0 B.2 e.r.j e.h.w z.2.2.2.1 e.q else grd (((wI ((wI ((wI (g.1*e.h.c.W))+g.2.1))+x)).toNat-(wI ((wI (g.1*e.h.c.W))+g.2.1)).toNat)<=140737488355328) <| bnd (Qco N e.h.c B.1) λv=>bif (v.2.2 != 0)then(bnd (Qb4 N B.1) λy28=>M 0 19 e.r.j e.h.w z.2.2.2.1 e.q)else grd (e.h.w.length<=140737488355328) <| bif (decide (((((wI ((wI ((wI (g.1*e.h.c.W))+g.2.1))+x)).toNat-(wI ((wI (g.1*e.h.c.W))+g.2.1)).toNat):Nat):Int)>(wI ((e.h.w.length:Int)-(wI ((wI (v.1*e.h.c.W))+v.2.1))))))then(bnd (Qb4 N B.1) λy29=>M 0 19 e.r.j e.h.w z.2.2.2.1 e.q)else grd (0<=(wI ((wI (v.1*e.h.c.W))+v.2.1))/\(wI ((wI (v.1*e.h.c.W))+v.2.1))<=(wI ((wI ((wI (v.1*e.h.c.W))+v.2.1))+((((wI ((wI ((wI (g.1*e.h.c.W))+g.2.1))+x)).toNat-(wI ((wI (g.1*e.h.c.W))+g.2.1)).toNat):Nat):Int)))/\(wI ((wI ((wI (v.1*e.h.c.W))+v.2.1))+((((wI ((wI ((wI (g.1*e.h.c.W))+g.2.1))+x)).toNat-(wI ((wI (g.1*e.h.c.W))+g.2.1)).toNat):Nat):Int)))<=(e.h.w.length:Int)) <| bnd (Qb4 N B.1) λO=>bif (O.2 != 0)then M 0 19 e.r.j e.h.w z.2.2.2.1 e.q else grd (((wI ((wI ((wI (g.1*e.h.c.W))+g.2.1))+x)).toNat-(wI ((wI (g.1*e.h.c.W))+g.2.1)).toNat)<=((wI ((wI ((wI (v.1*e.h.c.W))+v.2.1))+((((wI ((wI ((wI (g.1*e.h.c.W))+g.2.1))+x)).toNat-(wI ((wI (g.1*e.h.c.W))+g.2.1)).toNat):Nat):Int))).toNat-(wI ((wI (v.1*e.h.c.W))+v.2.1)).toNat)) <| bnd (KM (((e.h.w.take (wI ((wI (v.1*e.h.c.W))+v.2.1)).toNat)++((e.h.w.drop (wI ((wI (g.1*e.h.c.W))+g.2.1)).toNat).take ((wI ((wI ((wI (g.1*e.h.c.W))+g.2.1))+x)).toNat-(wI ((wI (g.1*e.h.c.W))+g.2.1)).toNat)))++(e.h.w.drop ((wI ((wI (v.1*e.h.c.W))+v.2.1)).toNat+((wI ((wI ((wI (g.1*e.h.c.W))+g.2.1))+x)).toNat-(wI ((wI (g.1*e.h.c.W))+g.2.1)).toNat)))) ((wI ((wI (g.1*e.h.c.W))+g.2.1)).toNat) ((wI ((wI ((wI (g.1*e.h.c.W))+g.2.1))+x)).toNat-(wI ((wI (g.1*e.h.c.W))+g.2.1)).toNat) 0) λp31=>bnd (Xd z.2.2.2.1 z.1) λp32=>grd (((wI ((wI ((wI (g.1*e.h.c.W))+g.2.1))+x)).toNat-(wI ((wI (g.1*e.h.c.W))+g.2.1)).toNat)<=140737488355328) <| bnd (Xd z.2.2.2.1 z.1) λJ=>grd ((e.q.length+1)*8<=140737488355328) <| M B.1 0 (wI (e.r.j+1)) ((((e.h.w.take (wI ((wI (v.1*e.h.c.W))+v.2.1)).toNat)++((e.h.w.drop (wI ((wI (g.1*e.h.c.W))+g.2.1)).toNat).take ((wI ((wI ((wI (g.1*e.h.c.W))+g.2.1))+x)).toNat-(wI ((wI (g.1*e.h.c.W))+g.2.1)).toNat)))++(e.h.w.drop ((wI ((wI (v.1*e.h.c.W))+v.2.1)).toNat+((wI ((wI ((wI (g.1*e.h.c.W))+g.2.1))+x)).toNat-(wI ((wI (g.1*e.h.c.W))+g.2.1)).toNat)))).set (wI ((wI (g.1*e.h.c.W))+g.2.1)).toNat O.1) (z.2.2.2.1.set z.1.toNat (Wo.mk J.k J.s (wI (p32.u+((((wI ((wI ((wI (g.1*e.h.c.W))+g.2.1))+x)).toNat-(wI ((wI (g.1*e.h.c.W))+g.2.1)).toNat):Nat):Int))) J.P)) (e.q++[B.1])
def QaE(N:Nat)(e:List Int):Option (List Int):=some e
def Qd9(N:Nat)(A:List Int):Nat->Int->Int->Int->Int->Int->Int->Int->Int->Int->Int->Int->Int->(List Int)->(List Wo)->(List Int)->(List Int)->(List Int)->(List Int)->Option (Ex (Wv×List Int×Int) (Int×Int×Int×Int×Int×Int×Int×Int×Int×Int×Int×List Int×List Wo×List Int×List Int×List Int×List Int))
 |0,_,_,_,_,_,_,_,_,_,_,_,_,_,_,_,_,_,_=>none
 |n+1,v6,v7,v8,v9,v10,v11,k,v13,u,v15,v,v17,v18,v19,v20,x,z,g=>
  bif (decide (v6<(A.length:Int)))then(bnd (Xd A v6) λB=>
   bnd (Qa2 N (Wv.mk (Wi.mk (WN.mk v7 v8) v18 v19 v9 v10) v20 x z v11 (WT.mk k v13 u v15 v v17)) B) λe=>
   bif (e.2.1 != 0)then some (.ret ((Wv.mk zHp [] [] [] 0 (WT.mk 0 0 0 0 0 0)),[],e.2.1))
   else grd ((g.length+1)*8<=140737488355328) <|
   Qd9 N A n (wI (v6+1)) e.2.2.h.c.W e.2.2.h.c.p e.2.2.h.s e.2.2.h.b e.2.2.d e.2.2.r.j e.2.2.r.K e.2.2.r.F e.2.2.r.E e.2.2.r.f e.2.2.r.y e.2.2.h.w e.2.2.h.p e.2.2.o e.2.2.t e.2.2.q (g++[e.1]))
  else some (.nxt (v7,v8,v9,v10,v11,k,v13,u,v15,v,v17,v18,v19,v20,x,z,g))
def QfK(N:Nat)(k:Wv)(u:List Int):Option (Wv×List Int×Int):=bnd (Qad N k.h.w) λv=>bnd (Qac N k.h.p) λx=>bnd (Qad N k.o) λz=>bnd (QaE N k.t) λA=>bnd (Qad N k.q) λB=>bnd (Qd9 N u N 0 k.h.c.W k.h.c.p k.h.s k.h.b k.d k.r.j k.r.K k.r.F k.r.E k.r.f k.r.y v x z A B []) λe=>exK e (λr=>some r) λg=>some ((Wv.mk (Wi.mk (WN.mk g.1 g.2.1) g.2.2.2.2.2.2.2.2.2.2.2.1 g.2.2.2.2.2.2.2.2.2.2.2.2.1 g.2.2.1 g.2.2.2.1) g.2.2.2.2.2.2.2.2.2.2.2.2.2.1 g.2.2.2.2.2.2.2.2.2.2.2.2.2.2.1 g.2.2.2.2.2.2.2.2.2.2.2.2.2.2.2.1 g.2.2.2.2.1 (WT.mk g.2.2.2.2.2.1 g.2.2.2.2.2.2.1 g.2.2.2.2.2.2.2.1 g.2.2.2.2.2.2.2.2.1 g.2.2.2.2.2.2.2.2.2.1 g.2.2.2.2.2.2.2.2.2.2.1)),g.2.2.2.2.2.2.2.2.2.2.2.2.2.2.2.2,0)
def Qfd(N:Nat)(v6 k:Int)(g:Int×Int×Int)(u:List Int):Nat->Int->Int->Int->Int->Int->Int->Int->Int->Int->Int->Int->Int->(List Int)->(List Wo)->(List Int)->(List Int)->(List Int)->Option (Ex (Int×Int×Int×Int×Int×Int×Int×Int×Int×Int×Int×Int×List Int×List Wo×List Int×List Int×List Int) (Int×Int×Int×Int×Int×Int×Int×Int×Int×Int×Int×List Int×List Wo×List Int×List Int×List Int))
 |0,_,_,_,_,_,_,_,_,_,_,_,_,_,_,_,_,_=>none
 |n+1,v,z,A,B,D,G,H,I,J,L,M,O,v45,R,S,T,U=>
  bif (decide (v<(u.length:Int)))then(bnd (Xd u v) λx=>
   bnd (KM v45 ((wI ((wI (g.1*v6))+g.2.1)).toNat) ((wI ((wI ((wI (g.1*v6))+g.2.1))+k)).toNat-(wI ((wI (g.1*v6))+g.2.1)).toNat) (wI (1+x))) λV=>
   bnd (Qa2 N (Wv.mk (Wi.mk (WN.mk z A) v45 R B D) S T U G (WT.mk H I J L M O)) V) λe=>
   bif (e.2.1 != 0)then some (.ret (e.2.1,e.2.2.h.c.W,e.2.2.h.c.p,e.2.2.h.s,e.2.2.h.b,e.2.2.d,e.2.2.r.j,e.2.2.r.K,e.2.2.r.F,e.2.2.r.E,e.2.2.r.f,e.2.2.r.y,e.2.2.h.w,e.2.2.h.p,e.2.2.o,e.2.2.t,e.2.2.q))
   else bnd (KM e.2.2.h.w ((wI ((wI (g.1*v6))+g.2.1)).toNat) ((wI ((wI ((wI (g.1*v6))+g.2.1))+k)).toNat-(wI ((wI (g.1*v6))+g.2.1)).toNat) (wI (1+x))) λY=>
   Qfd N v6 k g u n (wI (v+1)) e.2.2.h.c.W e.2.2.h.c.p e.2.2.h.s e.2.2.h.b e.2.2.d e.2.2.r.j e.2.2.r.K e.2.2.r.F e.2.2.r.E e.2.2.r.f e.2.2.r.y (e.2.2.h.w.set ((wI ((wI (g.1*v6))+g.2.1)).toNat+(wI (1+x)).toNat) e.1) e.2.2.h.p e.2.2.o e.2.2.t e.2.2.q)
  else some (.nxt (z,A,B,D,G,H,I,J,L,M,O,v45,R,S,T,U))
def Qfe(N:Nat):Nat->Int->Int->Int->Int->Int->Int->Int->Int->Int->Int->Int->(List Int)->(List Wo)->(List Int)->(List Int)->(List Int)->Option (Wv×Int)
 |0,_,_,_,_,_,_,_,_,_,_,_,_,_,_,_,_=>none
 |n+1,v6,v7,v8,v9,v10,v11,p,v13,q,v15,r,v17,v18,v19,v20,j=>
  jn (λ(U:Bool) (w x y z A B D E G H I J:Int) (K:List Int) (L:List Wo) (M O R:List Int)=>
   bif (w != 0)then some ((Wv.mk zHp [] [] [] 0 (WT.mk 0 0 0 0 0 0)),w)
   else bif (!U)then some ((Wv.mk (Wi.mk (WN.mk x y) K L z A) M O R B (WT.mk D E G H I J)),0)
   else Qfe N n x y z A B D E G H I J K L M O R) λs=>
  bif (decide (v10<0))then s false 0 v6 v7 v8 v9 v10 v11 p v13 q v15 r v17 v18 v19 v20 j
  else grd (j.length<=140737488355328) <|
  bif (decide (v10>=(j.length:Int)))then s false 0 v6 v7 v8 v9 v10 v11 p v13 q v15 r v17 v18 v19 v20 j
  else bnd (Xd j v10) λS=>
  bnd (Qco N (WN.mk v6 v7) S) λf=>
  bif (f.2.2 != 0)then s false 19 v6 v7 v8 v9 v10 v11 p v13 q v15 r v17 v18 v19 v20 j
  else grd (v17.length<=140737488355328) <|
  bif (decide (1>(wI ((v17.length:Int)-(wI ((wI (f.1*v6))+f.2.1))))))then s false 19 v6 v7 v8 v9 v10 v11 p v13 q v15 r v17 v18 v19 v20 j
  else grd (0<=(wI ((wI (f.1*v6))+f.2.1))/\(wI ((wI (f.1*v6))+f.2.1))<=(wI ((wI ((wI (f.1*v6))+f.2.1))+1))/\(wI ((wI ((wI (f.1*v6))+f.2.1))+1))<=(v17.length:Int)) <|
  bnd (KM v17 ((wI ((wI (f.1*v6))+f.2.1)).toNat) ((wI ((wI ((wI (f.1*v6))+f.2.1))+1)).toNat-(wI ((wI (f.1*v6))+f.2.1)).toNat) 0) λV=>
  bnd (Qd6 N V) λu=>
  bnd (Qbs N u.1) λv=>
  bnd (Qco N (WN.mk v6 v7) S) λk=>
  bif (k.2.2 != 0)then(bif (!u.2)then s false 19 v6 v7 v8 v9 v10 v11 p v13 q v15 r v17 v18 v19 v20 j
   else s false 19 v6 v7 v8 v9 v10 v11 p v13 q v15 r v17 v18 v19 v20 j)
  else grd (v17.length<=140737488355328) <|
  bif (decide (v>(wI ((v17.length:Int)-(wI ((wI (k.1*v6))+k.2.1))))))then(bif (!u.2)then s false 19 v6 v7 v8 v9 v10 v11 p v13 q v15 r v17 v18 v19 v20 j
   else s false 19 v6 v7 v8 v9 v10 v11 p v13 q v15 r v17 v18 v19 v20 j)
  else grd (0<=(wI ((wI (k.1*v6))+k.2.1))/\(wI ((wI (k.1*v6))+k.2.1))<=(wI ((wI ((wI (k.1*v6))+k.2.1))+v))/\(wI ((wI ((wI (k.1*v6))+k.2.1))+v))<=(v17.length:Int)) <|
  bif (!u.2)then s false 19 v6 v7 v8 v9 v10 v11 p v13 q v15 r v17 v18 v19 v20 j
  else bnd (QdX N u.1) λT=>
  bnd (Qfd N v6 v k T N 0 v6 v7 v8 v9 v10 v11 p v13 q v15 r v17 v18 v19 v20 j) λe=>exK e (λg=>s false g.1 g.2.1 g.2.2.1 g.2.2.2.1 g.2.2.2.2.1 g.2.2.2.2.2.1 g.2.2.2.2.2.2.1 g.2.2.2.2.2.2.2.1 g.2.2.2.2.2.2.2.2.1 g.2.2.2.2.2.2.2.2.2.1 g.2.2.2.2.2.2.2.2.2.2.1 g.2.2.2.2.2.2.2.2.2.2.2.1 g.2.2.2.2.2.2.2.2.2.2.2.2.1 g.2.2.2.2.2.2.2.2.2.2.2.2.2.1 g.2.2.2.2.2.2.2.2.2.2.2.2.2.2.1 g.2.2.2.2.2.2.2.2.2.2.2.2.2.2.2.1 g.2.2.2.2.2.2.2.2.2.2.2.2.2.2.2.2) λh=>
  s true 0 h.1 h.2.1 h.2.2.1 h.2.2.2.1 (wI (h.2.2.2.2.1+1)) h.2.2.2.2.2.1 h.2.2.2.2.2.2.1 h.2.2.2.2.2.2.2.1 h.2.2.2.2.2.2.2.2.1 h.2.2.2.2.2.2.2.2.2.1 (wI (h.2.2.2.2.2.2.2.2.2.2.1+(wI (1+(T.length:Int))))) h.2.2.2.2.2.2.2.2.2.2.2.1 h.2.2.2.2.2.2.2.2.2.2.2.2.1 h.2.2.2.2.2.2.2.2.2.2.2.2.2.1 h.2.2.2.2.2.2.2.2.2.2.2.2.2.2.1 h.2.2.2.2.2.2.2.2.2.2.2.2.2.2.2
def Qgh(N:Nat)(e:Wv):Option (Wv×Int):=bnd (Qad N e.h.w) λg=>bnd (Qac N e.h.p) λk=>bnd (Qad N e.o) λu=>bnd (QaE N e.t) λv=>bnd (Qad N e.q) λx=>bnd (Qfe N N e.h.c.W e.h.c.p e.h.s e.h.b e.d e.r.j e.r.K e.r.F e.r.E e.r.f e.r.y g k u v x) λr=>some r
def Qam(N:Nat)(e:Int):Option Unit:=bif (e != 0)then none else some ()
def QfV(N:Nat)(e:Wv)(f:Int):Option Int:=bnd (Qaj N e.q f) λj=>bif j then some f else bnd (Qco N e.h.c f) λg=>bnd (Qam N g.2.2) λr=>bnd (Xd e.h.w (wI ((wI (g.1*e.h.c.W))+g.2.1))) λk=>bnd (QeR N k) λp=>some p.1
def Qcx(N:Nat)(e:Wv)(g:List Int):Nat->Int->Int->(List Int)->Option (List Int×Int)
 |0,_,_,_=>none
 |n+1,k,f,p=>
  bif (decide (k<(g.length:Int)))then(bnd (Xd g k) λs=>
   jn (λ(x z:Int)=>
    grd ((p.length+1)*8<=140737488355328) <|
    Qcx N e g n (wI (k+1)) z (p++[x])) λu=>
   bif (s != 0)then(bnd (QfV N (Wv.mk e.h e.o e.t e.q e.d (WT.mk e.r.j e.r.K e.r.F e.r.E f e.r.y)) s) λv=>
    jn (λ(A:Int)=>
     u v A) λw=>
    bif (v==0)then w (wI (f+1))
    else w f)
   else u 0 f)
  else some (p,f)
def QdG(N:Nat)(e:Wv)(k:List Int):Option (List Int×Wv):=bnd (Qcx N e k N 0 e.r.f []) λg=>some (g.1,(Wv.mk e.h e.o e.t e.q e.d (WT.mk e.r.j e.r.K e.r.F e.r.E g.2 e.r.y)))
def Qef(N:Nat)(e:Wv)(f:Int):Option Bool:=jn (λ(r:Bool)=>some r) λg=>bif (decide (f<0))then g false else bif (decide (f>=(e.h.p.length:Int)))then g false else bnd (Xd e.h.p f) λq=>jn (λ(u:Bool)=>g u) λj=>bif (q.k==1)then(bif (q.s==(wI (1-e.h.s)))then(bnd (Qbc N e.t f) λv=>j (!v))else j false)else j false
def QfW(N:Nat)(e:Ws):Option (Int×Int):=bnd (Qdi N e) λg=>bif (!g)then some (0,1)else bnd (Qgg N [(Ik.mk 2 1),(Ik.mk 2 (wU e.k)),(Ik.mk 12 (wU e.n)),(Ik.mk 32 (wU e.Map))]) λf=>some (f.1,f.2)
def QgE(N:Nat)(h:List Int)(j:Int)(g:List Int):Option (List Int×Int):=bnd (Qfc N h j (g.length:Int)) λe=>bif (!e.2)then some ([],2)else bnd (Qad N h) λf=>grd (0<=e.1/\e.1<=(f.length:Int)/\(f.length:Int)<=(f.length:Int)) <| grd (g.length<=(f.length-e.1.toNat)) <| some ((((f.take e.1.toNat)++g)++(f.drop (e.1.toNat+g.length))),0)
def Qgu(N:Nat)(e:Wi)(g:List Int)(f:Int):Option (Wi×Int):=bif (f != 0)then some (zHp,f)else bnd (Qac N e.p) λh=>some ((Wi.mk e.c g h e.s e.b),0)
def Qff(N:Nat)(f:Wi)(p:Int)(g:Ws):Option (Wi×Int):=bnd (QfW N g) λh=>bif (h.2 != 0)then some (zHp,1)else bnd (Qb2 N f) λq=>bif (!q)then some (zHp,1)else bnd (Qbs N g) λe=>grd (0<=e/\e.toNat*8<=140737488355328) <| bnd (Xd (List.replicate e.toNat (0:Int)) 0) λr=>bnd (QgE N f.w p ((List.replicate e.toNat (0:Int)).set 0 h.1)) λj=>bnd (Qgu N f j.1 j.2) λk=>some (k.1,k.2)
def Qht(N:Nat)(g:Wi)(h e:Int):Option (Wi×Int):=bif (decide (e<1))then some (zHp,1)else bif (decide (e>256))then some (zHp,1)else bnd (Qff N g h (Ws.mk 0 (wI (e-1)) 0)) λf=>some (f.1,f.2)
def Qcw(N:Nat)(v:Wv)(f:List Int×Int)(x:Int):Nat->Int->Int->Int->(List Int)->(List Wo)->Int->Int->Int->Option (Int×Int×List Int×List Wo×Int×Int×Int)
 |0,_,_,_,_,_,_,_,_=>none
 |n+1,g,v13,h,v15,j,v17,v18,v19=>
  bif (decide (g<(f.1.length:Int)))then(bnd (Xd f.1 g) λr=>
   bnd (Qev N (Wi.mk (WN.mk v13 h) v15 j v17 v18) r) λu=>
   bnd (Qam N u.2) λA=>
   bif (u.1.k==0)then Qcw N v f x n (wI (g+1)) v13 h v15 j v17 v18 v19
   else bnd (Qaj N v.q r) λy=>
   bif y then Qcw N v f x n (wI (g+1)) v13 h v15 j v17 v18 v19
   else bnd (Qbs N u.1) λz=>
   bnd (Qht N (Wi.mk (WN.mk v13 h) v15 j v17 v18) r z) λe=>
   bnd (Qam N e.2) λB=>
   Qcw N v f x n (wI (g+1)) e.1.c.W e.1.c.p e.1.w e.1.p e.1.s e.1.b (wI (v19+1)))
  else some (v13,h,v15,j,v17,v18,v19)
def Qdk(N:Nat)(g:Wv):Nat->Int->Int->Int->(List Int)->(List Wo)->Int->Int->Int->Option (Int×Int×List Int×List Wo×Int×Int×Int)
 |0,_,_,_,_,_,_,_,_=>none
 |n+1,k,s,u,v,w,v6,v7,v8=>
  bif (decide (k<(g.h.p.length:Int)))then(bnd (Qef N (Wv.mk (Wi.mk (WN.mk s u) v w v6 v7) g.o g.t g.q g.d (WT.mk g.r.j g.r.K v8 g.r.E g.r.f g.r.y)) k) λz=>
   bif (!z)then Qdk N g n (wI (k+1)) s u v w v6 v7 v8
   else bnd (Qe4 N (Wi.mk (WN.mk s u) v w v6 v7) k) λx=>
   bnd (Qam N x.2) λA=>
   bnd (Qcw N g x k N 0 s u v w v6 v7 v8) λe=>
   Qdk N g n (wI (k+1)) e.1 e.2.1 e.2.2.1 e.2.2.2.1 e.2.2.2.2.1 e.2.2.2.2.2.1 e.2.2.2.2.2.2)
  else some (s,u,v,w,v6,v7,v8)
def QeH(N:Nat)(e:Wv):Option Wv:=bnd (Qdk N e N 0 e.h.c.W e.h.c.p e.h.w e.h.p e.h.s e.h.b e.r.F) λg=>some (Wv.mk (Wi.mk (WN.mk g.1 g.2.1) g.2.2.1 g.2.2.2.1 g.2.2.2.2.1 g.2.2.2.2.2.1) e.o e.t e.q e.d (WT.mk e.r.j e.r.K g.2.2.2.2.2.2 e.r.E e.r.f e.r.y))
def QeI(N:Nat)(g:Wo):Nat->Int->(List Wo)->Option (List Wo)
 |0,_,_=>none
 |n+1,f,e=>
  bif (g.k==2)then(grd (e.length<=140737488355328) <|
   bif (decide (f<(e.length:Int)))then(bnd (Xd e f) λh=>
    bif (h.k==3)then(bnd (Xd e f) λj=>
     QeI N g n (wI (f+1)) (e.set f.toNat (Wo.mk 0 0 0 0)))
    else some e)
   else some e)
  else some e
def Qhu(N:Nat)(f:List Wo)(e:Int):Option (List Wo×Int):=bif (decide (e<0))then some ([],2)else bif (decide (e>=(f.length:Int)))then some ([],2)else bnd (Xd f e) λg=>jn (λ(_:Unit)=>bnd (Qac N f) λh=>bnd (Xd h e) λq=>bnd (QeI N g N (wI (e+1)) (h.set e.toNat (Wo.mk 0 0 0 0))) λp=>some (p,0)) λj=>bif (g.k != 1)then(bif (g.k != 2)then some ([],20)else j ())else j ()
def QbK(N:Nat)(e:Wv):Nat->Int->(List Wo)->Int->(List Int)->Option (List Int×List Wo×Int)
 |0,_,_,_,_=>none
 |n+1,f,j,q,g=>
  bif (decide (f<(e.h.p.length:Int)))then(bnd (Xd e.h.p f) λr=>
   bif (r.k==0)then QbK N e n (wI (f+1)) j q g
   else bif (r.s != e.h.s)then QbK N e n (wI (f+1)) j q g
   else grd (0<=(wI (f*e.h.c.W))/\(wI (f*e.h.c.W))<=(wI ((wI (f+1))*e.h.c.W))/\(wI ((wI (f+1))*e.h.c.W))<=(g.length:Int)) <|
   bif (r.k != 3)then(bnd (Qhu N j f) λu=>
    bnd (Qam N u.2) λv=>
    QbK N e n (wI (f+1)) u.1 (wI (q+1)) (((g.take (wI (f*e.h.c.W)).toNat)++(List.replicate ((wI ((wI (f+1))*e.h.c.W)).toNat-(wI (f*e.h.c.W)).toNat) (0:Int)))++(g.drop ((wI (f*e.h.c.W)).toNat+((wI ((wI (f+1))*e.h.c.W)).toNat-(wI (f*e.h.c.W)).toNat)))))
   else QbK N e n (wI (f+1)) j (wI (q+1)) (((g.take (wI (f*e.h.c.W)).toNat)++(List.replicate ((wI ((wI (f+1))*e.h.c.W)).toNat-(wI (f*e.h.c.W)).toNat) (0:Int)))++(g.drop ((wI (f*e.h.c.W)).toNat+((wI ((wI (f+1))*e.h.c.W)).toNat-(wI (f*e.h.c.W)).toNat)))))
  else some (g,j,q)
def QeJ(N:Nat)(e:Wv):Option Wv:=bnd (Qad N e.h.w) λk=>bnd (QbK N e N 0 e.h.p e.r.E k) λg=>some (Wv.mk (Wi.mk e.h.c g.1 g.2.1 e.h.s e.h.b) e.o e.t e.q e.d (WT.mk e.r.j e.r.K e.r.F g.2.2 e.r.f e.r.y))
def QdY(N:Nat)(k:Wi)(q u:List Int):Option (Wi×List Int×List Int×WT×Int):=bnd (Qez N k) λv=>bif (v.2==0)then(bnd (QaP N [q,u]) λz=>bnd (QdV N k z) λA=>bif A then(bnd (QfK N v.1 q) λf=>bif (f.2.2==0)then(bnd (Qgh N f.1) λg=>bif (g.2==0)then(bnd (QdG N g.1 u) λx=>bnd (QeH N x.2) λB=>bnd (QeJ N B) λe=>grd (e.t.length<=140737488355328) <| jn (λ(D:Int)=>some ((Wi.mk e.h.c e.h.w e.h.p (wI (1-e.h.s)) D),f.2.1,x.1,e.r,0)) λy=>bif (decide ((e.t.length:Int)>0))then(bnd (Xd e.t (wI ((e.t.length:Int)-1))) λj=>y j)else y (-1))else some (zHp,[],[],(WT.mk 0 0 0 0 0 0),g.2))else some (zHp,[],[],(WT.mk 0 0 0 0 0 0),f.2.2))else none)else none
def QgF(N:Nat)(e:Wi):Option Wi:=bnd (Qad N e.w) λf=>bnd (Qac N e.p) λg=>some (Wi.mk e.c f g e.s e.b)
def QaF(N:Nat)(e:List UF):Option (List UF):=some e
def Qaz(N:Nat)(e:List UX):Option (List UX):=some e
def QfX(N:Nat)(e:Wq):Option Wq:=bnd (QaF N e.S) λf=>bnd (Qaz N e.x) λg=>bnd (QaE N e.i) λh=>some (Wq.mk f g h)
def QaA(N:Nat)(e:List W6):Option (List W6):=some e
def Qfv(N:Nat)(f:WD):Option WD:=bnd (QaA N f.e) λg=>some (WD.mk g)
def QbG(N:Nat)(e:List UB):Option (List UB):=some e
def Qgv(N:Nat)(e:Uj):Option Uj:=bnd (QgF N e.h) λf=>bnd (QfX N e.l) λj=>bnd (Qfv N e.g) λk=>bnd (Qfv N e.v) λp=>bnd (QbG N e.P) λq=>bnd (Qad N e.R) λr=>some (Uj.mk f j k p q r)
def Qhf(N:Nat)(e:Wq):Option Wq:=bnd (QaF N e.S) λf=>bnd (Qaz N e.x) λg=>bnd (QaE N e.i) λh=>some (Wq.mk f g h)
def Qea(N:Nat)(g:Wq):Nat->(List Int)->Int->(List UF)->Option (List UF)
 |0,_,_,_=>none
 |n+1,e,v6,v7=>
  bif (decide (v6<(g.S.length:Int)))then(bnd (Xd v7 v6) λh=>
   bif h.V then(bnd (Xd e 0) λj=>
    grd (0<=1/\1<=(e.length:Int)/\(e.length:Int)<=(e.length:Int)) <|
    bnd (Xd v7 v6) λf=>
    Qea N g n (e.drop 1) (wI (v6+1)) (v7.set v6.toNat (UF.mk f.J j f.V)))
   else Qea N g n e (wI (v6+1)) v7)
  else some v7
def Qg3(N:Nat)(f:Wq)(g:List Int):Option (Wq×Int):=bnd (Qfa N f) λj=>bif (!j)then some ((Wq.mk [] [] []),1)else bnd (QfI N f) λk=>bif ((k.length:Int) != (g.length:Int))then some ((Wq.mk [] [] []),1)else bnd (Qaj N g 0) λp=>bif p then some ((Wq.mk [] [] []),1)else bnd (Qhf N f) λe=>grd (e.S.length<=140737488355328) <| bnd (Qea N e N g 0 e.S) λh=>some ((Wq.mk h e.x e.i),0)
def Qhg(N:Nat)(f:WD):Option WD:=bnd (QaA N f.e) λg=>some (WD.mk g)
def Qeb(N:Nat)(h:WD):Nat->(List Int)->Int->(List W6)->Option (List W6)
 |0,_,_,_=>none
 |n+1,f,g,v6=>
  bif (decide (g<(h.e.length:Int)))then(bnd (Xd v6 g) λk=>
   bif k.V then(bnd (Xd f 0) λp=>
    grd (0<=1/\1<=(f.length:Int)/\(f.length:Int)<=(f.length:Int)) <|
    bnd (Xd v6 g) λj=>
    Qeb N h n (f.drop 1) (wI (g+1)) (v6.set g.toNat (W6.mk j.G p j.V)))
   else Qeb N h n f (wI (g+1)) v6)
  else some v6
def Qgw(N:Nat)(f:WD)(j:List Int):Option (WD×Int):=bnd (Qeu N f) λk=>bif (!k)then some ((WD.mk []),1)else bnd (QdL N f) λp=>bif ((p.length:Int) != (j.length:Int))then some ((WD.mk []),1)else bnd (Qhg N f) λg=>grd (g.e.length<=140737488355328) <| bnd (Qeb N g N j 0 g.e) λh=>some ((WD.mk h),0)
def QdZ(N:Nat)(e:Int)(f:List Int):Option (List Int×List Int):=grd (0<=0/\0<=e/\e<=(f.length:Int)) <| grd (0<=e/\e<=(f.length:Int)/\(f.length:Int)<=(f.length:Int)) <| some ((f.take e.toNat),(f.drop e.toNat))
def QeA(N:Nat)(p:Wi×List Int×List Int×WT×Int)(q:Uj)(r:List Int×List Int)(s:Wq×Int)(f:List Int×List Int)(g h:WD×Int):Nat->Int->(List UB)->Option (List UB)
 |0,_,_=>none
 |n+1,e,v15=>
  bif (decide (e<(f.2.length:Int)))then(bnd (Xd f.2 e) λj=>
   bnd (Xd v15 e) λk=>
   QeA N p q r s f g h n (wI (e+1)) (v15.set e.toNat (UB.mk j k.M)))
  else some v15
def Qfg(N:Nat)(e:Uj):Option (Uj×WT×Int):=bnd (QfB N e) λy=>bif (!y)then some ((Uj.mk zHp (Wq.mk [] [] []) (WD.mk []) (WD.mk []) [] []),(WT.mk 0 0 0 0 0 0),19)else bnd (Qgq N e) λz=>bnd (QdL N e.v) λA=>bnd (QdY N e.h z A) λf=>bif (f.2.2.2.2 != 0)then some ((Uj.mk zHp (Wq.mk [] [] []) (WD.mk []) (WD.mk []) [] []),(WT.mk 0 0 0 0 0 0),f.2.2.2.2)else bnd (Qgv N e) λp=>bnd (QdZ N (e.R.length:Int) f.2.1) λq=>grd (q.1.length<=p.R.length) <| bnd (QfI N e.l) λB=>bnd (QdZ N (B.length:Int) q.2) λx=>bnd (Qg3 N e.l x.1) λs=>bnd (QdL N e.g) λu=>bnd (QdZ N (u.length:Int) x.2) λr=>bnd (Qgw N e.g r.1) λj=>bnd (Qgw N e.v f.2.2.1) λk=>bnd (QeA N f p q s r j k N 0 p.P) λw=>bif (!((s.2==0)&&((j.2==0)&&(k.2==0))))then some ((Uj.mk zHp (Wq.mk [] [] []) (WD.mk []) (WD.mk []) [] []),(WT.mk 0 0 0 0 0 0),19)else some ((Uj.mk f.1 s.1 j.1 k.1 w (((p.R.take 0)++q.1)++(p.R.drop q.1.length))),f.2.2.2.1,0)
def Qgx(N:Nat)(f:WN)(e:Ws):Option Bool:=bnd (Qdi N e) λg=>bif g then(bif (e.k != 0)then(bnd (Qbs N e) λh=>bnd (Qe3 N f h) λj=>some (decide (j>=0)))else some false)else some false
def QeS(N:Nat)(h:List Wo)(j f g:Int):Nat->(List Wo)->Option (List Wo)
 |0,_=>none
 |n+1,e=>
  grd (e.length<=140737488355328) <|
  bif (decide ((e.length:Int)<g))then(grd ((e.length+1)*32<=140737488355328) <|
   QeS N h j f g n (e++[(Wo.mk 3 f 0 0)]))
  else some e
def Qg4(N:Nat)(p:WN)(g:List Wo)(h e f:Int):Option (List Wo×Int):=bnd (Qe3 N p f) λj=>bif (decide (j<1))then some ([],1)else bnd (Qb6 N (Wo.mk 2 e f 0)) λq=>bif (!q)then some ([],1)else bnd (QeS N g h e j N [(Wo.mk 2 e f 0)]) λr=>bnd (QgQ N g h r) λk=>some (k.1,k.2)
def Qhk(N:Nat)(e:WN):Option Int:=bnd (Qb1 N e) λf=>bif (!f)then some 0 else some (wI (e.p.tdiv 4))
def QeB(N:Nat)(e:Wi)(q:Int):Option (Wi×I9×Int):=bnd (Qgt N e.p) λr=>bnd (Qhk N e.c) λv=>bnd (Qe3 N e.c q) λx=>bif (decide (x>0))then(bnd (QdN N e.p x) λy=>jn (λ(_:Unit)=>some (zHp,(I9.mk 0 0),3)) λD=>bif (decide (y>=0))then(bif (decide (r<=(wI (v-x))))then(bnd (Qg4 N e.c e.p y e.s q) λE=>some ((Wi.mk e.c e.w E.1 e.s e.b),(I9.mk y 0),E.2))else D ())else D ())else jn (λ(_:Unit)=>bnd (QdN N e.p 1) λj=>jn (λ(_:Unit)=>some (zHp,(I9.mk 0 0),3)) λG=>bif (decide (j>=0))then(bif (decide (r<v))then(bnd (QdM N e.p j e.s) λf=>bif (f.2 != 0)then some (zHp,(I9.mk 0 0),f.2)else bnd (Xd f.1 j) λg=>some ((Wi.mk e.c e.w (f.1.set j.toNat (Wo.mk g.k g.s q g.P)) e.s j),(I9.mk j 0),0))else G ())else G ()) λz=>bif (decide (e.b>=0))then(bif (decide (r<=v))then(bnd (Xd e.p e.b) λA=>jn (λ(_:Unit)=>z ()) λH=>bif (A.s==e.s)then(bif (decide (q<=(wI (e.c.W-A.u))))then(bnd (Qac N e.p) λB=>bnd (Xd B e.b) λI=>bnd (Xd B e.b) λh=>some ((Wi.mk e.c e.w (B.set e.b.toNat (Wo.mk h.k h.s (wI (I.u+q)) h.P)) e.s e.b),(I9.mk e.b A.u),0))else H ())else H ())else z ())else z ()
def Qew(N:Nat)(f:Wi)(h:Ws):Option (Wi×Int×Int):=bnd (Qb2 N f) λk=>bif (!k)then some (zHp,0,1)else bnd (Qgx N f.c h) λp=>bif (!p)then some (zHp,0,1)else bnd (Qbs N h) λq=>bnd (QeB N f q) λe=>bif (e.2.2 != 0)then some (zHp,0,e.2.2)else bnd (Qdj N f.c e.2.1.page e.2.1.offset) λg=>bif (g.2 != 0)then some (zHp,0,g.2)else bnd (Qff N e.1 g.1 h) λj=>bif (j.2 != 0)then some (zHp,0,j.2)else some (j.1,g.1,0)
def Qe5(N:Nat)(f:Uj)(q:Ws):Option (Uj×Int×Int):=bnd (QfB N f) λr=>bif (!r)then some ((Uj.mk zHp (Wq.mk [] [] []) (WD.mk []) (WD.mk []) [] []),0,19)else bnd (Qgx N f.h.c q) λs=>bif (!s)then some ((Uj.mk zHp (Wq.mk [] [] []) (WD.mk []) (WD.mk []) [] []),0,1)else bnd (Qgv N f) λj=>bnd (Qew N f.h q) λk=>bif (k.2.2==3)then(bnd (Qfg N f) λe=>bif (e.2.2 != 0)then some ((Uj.mk zHp (Wq.mk [] [] []) (WD.mk []) (WD.mk []) [] []),0,e.2.2)else bnd (Qew N e.1.h q) λp=>bif (p.2.2 != 0)then some ((Uj.mk zHp (Wq.mk [] [] []) (WD.mk []) (WD.mk []) [] []),0,p.2.2)else some ((Uj.mk p.1 e.1.l e.1.g e.1.v e.1.P e.1.R),p.2.1,0))else bif (k.2.2 != 0)then some ((Uj.mk zHp (Wq.mk [] [] []) (WD.mk []) (WD.mk []) [] []),0,k.2.2)else some ((Uj.mk k.1 j.l j.g j.v j.P j.R),k.2.1,0)
def QhV(N:Nat)(e:Int):Option (List Int×Int):=bif (decide (e<0))then some ([],1)else bif (decide (e>4096))then some ([],1)else grd (0<=e/\e.toNat*8<=140737488355328) <| some ((List.replicate e.toNat (0:Int)),0)
def QiD(N:Nat)(e:WN):Option (Wi×Int):=bnd (Qb1 N e) λg=>bif (!g)then some (zHp,1)else bnd (QhV N (wI (e.W*e.p))) λf=>bif (f.2 != 0)then some (zHp,f.2)else grd (0<=e.p/\e.p.toNat*32<=140737488355328) <| some ((Wi.mk e f.1 (List.replicate e.p.toNat (Wo.mk 0 0 0 0)) 0 (-1)),0)
def QkK(N:Nat)(f:WN):Option (Uj×Int):=bnd (QiD N f) λe=>bif (e.2 != 0)then some ((Uj.mk zHp (Wq.mk [] [] []) (WD.mk []) (WD.mk []) [] []),e.2)else some ((Uj.mk e.1 (Wq.mk [] [] []) (WD.mk []) (WD.mk []) [] []),0)
def Qf3(N:Nat):Option Bool:=bnd (QkK N (WN.mk 16 8)) λf=>bnd (Qe5 N f.1 (Ws.mk 3 3 0)) λe=>bif (f.2==0)then(bif (e.2.2==0)then(bif (e.2.1==4096)then(bnd (QfB N e.1) λg=>some g)else some false)else some false)else some false
def QcV(N:Nat)(s:Im)(j:WN):Option (Ws×Im):=bnd (QcT N j) λk=>bnd (Qaf N s k) λp=>bnd (Qaf N p.2 12) λg=>jn (λ(e:Int) (u:List Int) (v:Int)=>bnd (Qaf N (Im.mk u v) 4) λf=>bif (f.1==0)then some ((Ws.mk 2 e 0),f.2)else bif (f.1==1)then some ((Ws.mk 3 e 0),f.2)else grd (0<=(wU (if 12<(if 32<e then 32 else e)then 12 else(if 32<e then 32 else e)))) <| bnd (Qaf N f.2 (ZY .i64 1 (wU (if 12<(if 32<e then 32 else e)then 12 else(if 32<e then 32 else e))))) λq=>some ((Ws.mk 1 (if 32<e then 32 else e) (wW q.1)),q.2)) λr=>bif (g.1==0)then(bnd (Qaf N g.2 j.W) λh=>r (wI (k+h.1)) h.2.L h.2.at_)else r p.1 g.2.L g.2.at_
def Qec(N:Nat)(h:Ws×Int)(e:List Int×Int):Nat->Int->(List Int)->Option (List Int)
 |0,_,_=>none
 |n+1,f,g=>
  grd (e.1.length<=140737488355328) <|
  bif (decide (f<(e.1.length:Int)))then(bnd (Qby N h.1 f) λj=>
   bif j then(bnd (Xd e.1 f) λk=>
    grd ((g.length+1)*8<=140737488355328) <|
    Qec N h e n (wI (f+1)) (g++[k]))
   else Qec N h e n (wI (f+1)) g)
  else some g
def Qg5(N:Nat)(e:Wi)(f:Int):Option (List Int):=bnd (QbM N e f) λg=>bnd (Qdc N e f) λh=>bnd (Qec N g h N 0 []) λj=>some j
def Qcr(N:Nat)(j:Wi)(e:List Int)(h:List Int×Int):Nat->Int->(List Int)->Option (Ex Unit (List Int))
 |0,_,_=>none
 |n+1,f,g=>
  bif (decide (f<(e.length:Int)))then(bnd (Xd e f) λp=>
   bif (p==0)then Qcr N j e h n (wI (f+1)) g
   else bnd (Xd e f) λq=>
   bnd (QbL N h.1 q) λr=>
   bif (!r)then some (.ret ())
   else bnd (Xd e f) λs=>
   bnd (QbL N g s) λu=>
   bif (!u)then(bnd (Xd e f) λk=>
    grd ((g.length+1)*8<=140737488355328) <|
    Qcr N j e h n (wI (f+1)) (g++[k]))
   else Qcr N j e h n (wI (f+1)) g)
  else some (.nxt g)
def Qcs(N:Nat)(j:Wi)(h:List Int×Int)(e:List Int)(g:Int):Nat->Int->(List Int)->Option (Ex Unit (List Int))
 |0,_,_=>none
 |n+1,v20,f=>
  bif (decide (v20<(e.length:Int)))then(bnd (Xd e v20) λk=>
   bif (k==0)then Qcs N j h e g n (wI (v20+1)) f
   else bnd (Xd e v20) λp=>
   bnd (QbL N h.1 p) λq=>
   bif (!q)then some (.ret ())
   else bnd (Xd e v20) λr=>
   bnd (QbL N f r) λs=>
   bif (!s)then(bnd (Xd e v20) λu=>
    grd ((f.length+1)*8<=140737488355328) <|
    Qcs N j h e g n (wI (v20+1)) (f++[u]))
   else Qcs N j h e g n (wI (v20+1)) f)
  else some (.nxt f)
def QeC(N:Nat)(g:Wi)(r:List Int×Int):Nat->Bool->Int->(List Int)->Option (Bool×List Int)
 |0,_,_,_=>none
 |n+1,v15,f,v17=>
  bif v15 then(grd (v17.length<=140737488355328) <|
   bif (decide (f<(v17.length:Int)))then(bnd (Xd v17 f) λh=>
    bnd (Qg5 N g h) λj=>
    jn (λ(k:Bool) (p:List Int)=>
     QeC N g r n k (wI (f+1)) p) λs=>
    bnd (Qcs N g r j f N 0 v17) λe=>exK e (λu=>s false []) λq=>
    s true q)
   else some (v15,v17))
  else some (v15,v17)
def QgG(N:Nat)(g:Wi)(r:List Int):Option (List Int×Int):=bnd (Qaa N g) λs=>bif (!s)then some ([],1)else bnd (Qal N g) λh=>bif (h.2 != 0)then some ([],h.2)else jn (λ(j:Bool) (k:List Int)=>bnd (QeC N g h N j 0 k) λf=>bif (!f.1)then some ([],19)else some (f.2,0)) λq=>bnd (Qcr N g r h N 0 []) λe=>exK e (λu=>q false []) λp=>q true p
def Qd0(N:Nat)(f:List Int)(g:Int):Nat->Int->Option (Ex Int Unit)
 |0,_=>none
 |n+1,e=>
  bif (decide (e<(f.length:Int)))then(bnd (Xd f e) λh=>
   bif (h==g)then some (.ret (wI (e+1)))
   else Qd0 N f g n (wI (e+1)))
  else some (.nxt ())
def Qfw(N:Nat)(f:List Int)(g:Int):Option Int:=bnd (Qd0 N f g N 0) λe=>exK e (λr=>some r) λh=>some 0
def Qf4(N:Nat)(j:Wi)(e:List Int)(h:List Int×Int):Nat->Int->(List Int)->Option (List Int)
 |0,_,_=>none
 |n+1,f,g=>
  bif (decide (f<(e.length:Int)))then(bnd (Xd e f) λk=>
   bnd (Qfw N h.1 k) λp=>
   grd ((g.length+1)*8<=140737488355328) <|
   Qf4 N j e h n (wI (f+1)) (g++[(wI (p-1))]))
  else some g
def Qex(N:Nat)(p:Wi)(g:List Int×Int)(q:List Int)(f:Ws×Int)(v7:Int)(v8:List UZ):Nat->Int->(List Int)->Option (List Int)
 |0,_,_=>none
 |n+1,v13,e=>
  grd (e.length<=140737488355328) <|
  bif (decide (v13<(e.length:Int)))then(bnd (Qby N f.1 v13) λh=>
   bif h then(bnd (Xd e v13) λj=>
    bnd (Qfw N g.1 j) λk=>
    bnd (Xd e v13) λr=>
    Qex N p g q f v7 v8 n (wI (v13+1)) (e.set v13.toNat (wU k)))
   else Qex N p g q f v7 v8 n (wI (v13+1)) e)
  else some e
def Qf5(N:Nat)(g:Wi)(e:List Int×Int)(p:List Int):Nat->Int->(List UZ)->Option (List UZ)
 |0,_,_=>none
 |n+1,v7,v8=>
  bif (decide (v7<(e.1.length:Int)))then(bnd (Xd e.1 v7) λq=>
   bnd (QbM N g q) λf=>
   bnd (Xd e.1 v7) λh=>
   bnd (Qdc N g h) λj=>
   bnd (Qex N g e p f v7 v8 N 0 j.1) λk=>
   grd ((v8.length+1)*48<=140737488355328) <|
   Qf5 N g e p n (wI (v7+1)) (v8++[(UZ.mk f.1 k)]))
  else some v8
def Qfh(N:Nat)(f:Wi)(h:List Int):Option (Oi×Int):=bnd (QgG N f h) λe=>bif (e.2 != 0)then some ((Oi.mk [] []),e.2)else bnd (Qf4 N f h e N 0 []) λj=>bnd (Qf5 N f e j N 0 []) λg=>some ((Oi.mk j g),0)
def QeT(N:Nat)(f g:List Int):Nat->Int->Option (Ex Bool Unit)
 |0,_=>none
 |n+1,e=>
  bif (decide (e<(f.length:Int)))then(bnd (Xd f e) λh=>
   bnd (Xd g e) λj=>
   bif (h != j)then some (.ret false)
   else QeT N f g n (wI (e+1)))
  else some (.nxt ())
def Qg6(N:Nat)(f g:List Int):Option Bool:=bif ((f.length:Int) != (g.length:Int))then some false else bnd (QeT N f g N 0) λe=>exK e (λr=>some r) λh=>some true
def QeU(N:Nat)(f g:Oi):Nat->Int->Option (Ex Bool Unit)
 |0,_=>none
 |n+1,e=>
  bif (decide (e<(f.R.length:Int)))then(bnd (Xd f.R e) λh=>
   bnd (Xd g.R e) λj=>
   bif (h != j)then some (.ret false)
   else QeU N f g n (wI (e+1)))
  else some (.nxt ())
def QeV(N:Nat)(f g:Oi):Nat->Int->Option (Ex Bool Unit)
 |0,_=>none
 |n+1,e=>
  bif (decide (e<(f.Nodes.length:Int)))then(bnd (Xd f.Nodes e) λh=>
   bnd (Xd g.Nodes e) λj=>
   bif (!((h.H.k==j.H.k)&&((h.H.n==j.H.n)&&(h.H.Map==j.H.Map))))then some (.ret false)
   else bnd (Xd f.Nodes e) λq=>
   bnd (Xd g.Nodes e) λr=>
   bnd (Qg6 N q.D r.D) λp=>
   bif (!p)then some (.ret false)
   else QeV N f g n (wI (e+1)))
  else some (.nxt ())
def Qg7(N:Nat)(f g:Oi):Option Bool:=bif ((f.R.length:Int) != (g.R.length:Int))then some false else bif ((f.Nodes.length:Int) != (g.Nodes.length:Int))then some false else bnd (QeU N f g N 0) λe=>exK e (λr=>some r) λj=>bnd (QeV N f g N 0) λe=>exK e (λr=>some r) λh=>some true
def Qdl(N:Nat)(y z:List Int):Option Bool:=bnd (Qhs N y 80) λf=>bnd (QcV N (Im.mk z 0) f.N.h.c) λp=>bnd (Qfg N f.N) λx=>bif (x.2.2 != 0)then some false else bnd (Qe5 N f.N p.1) λe=>bnd (Qe5 N x.1 p.1) λA=>bif (e.2.2==3)then(bnd (QdH N f.N.h.c (wI (p.1.n+1))) λB=>jn (λ(D:Bool)=>some D) λk=>bnd (Qf3 N) λE=>bif E then(bif (decide (B>0))then k ((e.1.h.w.length:Int)==0)else bif (A.2.2==3)then k ((e.1.h.w.length:Int)==0)else k false)else k false)else bif (e.2.2 != 0)then some false else bnd (Qcy N f.N) λG=>bnd (Qfh N f.N.h G) λg=>bnd (Qcy N e.1) λq=>bnd (Qfh N e.1.h q) λj=>bnd (Qf3 N) λr=>bif r then(bif (g.2==0)then(bif (j.2==0)then(bnd (Qg7 N g.1 j.1) λs=>bif s then(bnd (QfB N e.1) λu=>bif u then(bif (e.2.1 != 0)then(bnd (Qaa N e.1.h) λv=>some v)else some false)else some false)else some false)else some false)else some false)else some false
end Go.Sx
