import Derived.Test.YtlneiohchomcfaaGreatDoorSA
set_option linter.all false
namespace Go.Sx
structure WN where
 W:Int
 p:Int
structure Ws where
 k:Int
 s:Int
 u:Int
 P:Int
structure Wk where
 c:WN
 w:List Int
 p:List Ws
 s:Int
 b:Int
structure UB where
 J:Int
 a:Int
 V:Bool
structure UM where
 O:Int
 C0:Int
 B0:Bool
structure Wp where
 S:List UB
 x:List UM
 i:List Int
structure W5 where
 G:Int
 a:Int
 V:Bool
structure Wu where
 e:List W5
structure UE where
 a:Int
 M:Int
structure W3 where
 h:Wk
 l:Wp
 g:Wu
 v:Wu
 P:List UE
 R:List Int
structure Wv where
 k:Int
 n:Int
 Map:Int
structure Ii where
 H:Wv
 D:List Int
structure Ix where
 I:Int
 M:Int
 B0:Int
structure WM where
 c:WN
 T:List Ii
 l:Wp
 g:Wu
 v:Wu
 m:List Ix
 R:List Int
structure Io where
 N:W3
 z:WM
 w:List Int
structure Iw where
 L:List Int
 at_:Int
structure Ot where
 Op:Int
 A:Int
 B:Int
 C:Int
structure WR where
 j:Int
 K:Int
 F:Int
 E:Int
 f:Int
 y:Int
structure Oy where
 Failed:Bool
 Collected:Bool
 B0:Int
structure UR where
 Tag:Int
 Index:Int
 J:Int
structure IG where
 l:Wp
structure UJ where
 Width:Int
 Value:Int
structure Ww where
 h:Wk
 o:List Int
 t:List Int
 q:List Int
 d:Int
 r:WR
structure Oa where
 page:Int
 offset:Int
structure Ur where
 Fault:Int
 Page:Int
 Addr:Int
structure UT where
 addr:Int
 hd:Wv
structure Ow where
 O:Int
 Len:Int
@[simp] abbrev zWd:WM:=WM.mk (WN.mk 0 0) [] (Wp.mk [] [] []) (Wu.mk []) (Wu.mk []) [] []
@[simp] abbrev zHp:Wk:=Wk.mk (WN.mk 0 0) [] [] 0 0
def Qaj(N:Nat)(e:Iw)(f:Int):Option (Int×Iw):=bif (decide (f<1))then some (0,e)else jn (λ(h:Int)=>grd (f≠0) <| grd (f≠0) <| some (((wI ((h.tmod f)+f)).tmod f),(Iw.mk e.L (wI (e.at_+1))))) λg=>bif (decide (e.at_<(e.L.length:Int)))then(bnd (Xe e.L e.at_) λj=>g j)else g (wI ((wI (e.at_*7))+3))
def Qb4(N:Nat)(f:Io)(u:Iw):Option (Int×Iw):=bnd (Qaj N u 14) λe=>bif (e.1==0)then(bnd (Qaj N e.2 8) λk=>bnd (Xe [0,1,262145,262146,524289,1125899906842624,4097,262149] k.1) λv=>some (v,k.2))else bif (e.1==1)then(bnd (Qaj N e.2 (f.w.length:Int)) λo=>bnd (Xe f.w o.1) λy=>bnd (Qaj N o.2 3) λp=>some ((wU (y+(wU p.1))),p.2))else jn (λ(z:Bool)=>bif z then(bnd (Qaj N e.2 (f.w.length:Int)) λq=>bnd (Xe f.w q.1) λh=>some (h,q.2))else bnd (Qaj N e.2 (if 6<(f.w.length:Int)then 6 else(f.w.length:Int))) λg=>bnd (Xe f.w (wI ((wI ((f.w.length:Int)-1))-g.1))) λj=>some (j,g.2)) λr=>bif (e.1==2)then r true else jn (λ(A:Bool)=>r A) λs=>bif (e.1==3)then s true else s (e.1==4)
def Qc2(N:Nat)(v:Io)(H:Iw):Option (Ot×Iw):=bnd (Qaj N H 32) λo=>bnd (Xe [1,1,2,2,3,4,5,6,7,7,8,8,9,9,9,10,11,12,12,13,14,15,16,17,18,19,19,20,20,0,0,21] o.1) λe=>bif (e==1)then(bnd (Qaj N o.2 4) λw=>grd (0<=(wU w.1)) <| bnd (Qaj N w.2 (ZO .i64 1 (wU w.1))) λA=>some ((Ot.mk e (wU w.1) (wU A.1) 0),A.2))else jn (λ(I:Bool)=>bif I then(bnd (Qaj N o.2 4) λB=>bnd (Qaj N B.2 9) λy=>bif (y.1==0)then(bnd (Qaj N y.2 70) λD=>some ((Ot.mk e (wU D.1) 0 0),D.2))else some ((Ot.mk e (wU B.1) 0 0),y.2))else bif (e==17)then(bnd (Qaj N o.2 9) λE=>some ((Ot.mk e (wU E.1) 0 0),E.2))else bnd (Qb4 N v o.2) λg=>bnd (Qaj N g.2 4) λp=>bnd (Qaj N p.2 1000) λh=>jn (λ(q:List Int) (r s:Int)=>bif (e==10)then(bnd (Qb4 N v (Iw.mk q r)) λu=>some ((Ot.mk e g.1 u.1 s),u.2))else some ((Ot.mk e g.1 (wU p.1) s),(Iw.mk q r))) λz=>bif (e==9)then(bnd (Qb4 N v h.2) λj=>z j.2.L j.2.at_ j.1)else bnd (Qaj N h.2 9) λf=>bif (f.1==0)then(bnd (Qb4 N v f.2) λk=>z k.2.L k.2.at_ k.1)else z f.2.L f.2.at_ (wU h.1)) λG=>bif (e==2)then G true else G (e==3)
def Qft(N:Nat)(g:Iw):Option (WN×Iw):=bnd (Qaj N g 4) λe=>bnd (Xe [16,16,20,32] e.1) λh=>bnd (Qaj N e.2 5) λf=>bnd (Xe [8,12,16,20,24] f.1) λj=>some ((WN.mk h j),f.2)
def QaV(N:Nat)(e:WN):Option Bool:=bif (decide (e.W>=16))then(bif (decide (e.W<=64))then(bif ((e.W.tmod 4)==0)then(bif (decide (e.p>=8))then some (decide (e.p<=64))else some false)else some false)else some false)else some false
def Qgj(N:Nat)(e:WN):Option (Wk×Int):=bnd (QaV N e) λf=>bif (!f)then some (zHp,1)else grd (0<=(wI (e.p*e.W))/\(wI (e.p*e.W)).toNat*8<=140737488355328) <| grd (0<=e.p/\e.p.toNat*32<=140737488355328) <| some ((Wk.mk e (List.replicate (wI (e.p*e.W)).toNat (0:Int)) (List.replicate e.p.toNat (Ws.mk 0 0 0 0)) 0 (-1)),0)
def Qe4(N:Nat)(f:WN):Option (W3×Int):=bnd (Qgj N f) λe=>some ((W3.mk e.1 (Wp.mk [] [] []) (Wu.mk []) (Wu.mk []) [] []),e.2)
def Qgk(N:Nat)(e:WN):Option (WM×Int):=bnd (QaV N e) λf=>bif (!f)then some (zWd,1)else some ((WM.mk e [] (Wp.mk [] [] []) (Wu.mk []) (Wu.mk []) [] []),0)
def Qbq(N:Nat)(o:Iw):Option (Io×Iw):=bnd (Qft N o) λj=>bnd (Qe4 N j.1) λf=>bnd (Qgk N j.1) λe=>bnd (Qaj N j.2 40) λk=>some ((Io.mk (W3.mk f.1.h (Wp.mk f.1.l.S [(UM.mk 0 (wI (4+k.1)) true)] f.1.l.i) f.1.g f.1.v f.1.P f.1.R) (WM.mk e.1.c e.1.T (Wp.mk e.1.l.S [(UM.mk 0 (wI (4+k.1)) true)] e.1.l.i) e.1.g e.1.v e.1.m e.1.R) [0]),k.2)
def Qgs(N:Nat)(e:Iw):Option Bool:=some (decide (e.at_>=(e.L.length:Int)))
def Qfu(N:Nat)(e:List Int)(g:Int):Nat->Int->Option (Ex Bool Unit)
 |0,_=>none
 |n+1,f=>
  bif (decide (f<(e.length:Int)))then(bnd (Xe e f) λh=>
   bif (h==g)then some (.ret true)
   else Qfu N e g n (wI (f+1)))
  else some (.nxt ())
def Qc3(N:Nat)(f:List Int)(g:Int):Option Bool:=bnd (Qfu N f g N 0) λe=>exK e (λr=>some r) λh=>some false
def QgZ(N:Nat)(e:Int):Option Bool:=bif (decide (e>=0))then some (decide (e<=2147483647))else some false
def QdD(N:Nat)(e:WN):Option Int:=bnd (QaV N e) λf=>bif (!f)then some 0 else some (wI (e.W.tdiv 4))
def QcT(N:Nat)(f:WN)(g:Int):Nat->Int->Option (Ex Int Unit)
 |0,_=>none
 |n+1,e=>
  bif (decide (e<=4))then(bif (decide ((wI (e*f.W))>=g))then some (.ret e)
   else QcT N f g n (wI (e+1)))
  else some (.nxt ())
def Qe5(N:Nat)(f:WN)(g:Int):Option Int:=bnd (QaV N f) λh=>bif (!h)then some (-1)else bif (decide (g<1))then some (-1)else bnd (QdD N f) λj=>bif (decide (g<=j))then some 0 else bnd (QcT N f g N 1) λe=>exK e (λr=>some r) λk=>some (-1)
def QdE(N:Nat)(e:List Ws)(h:Int):Nat->Int->Int->Option Int
 |0,_,_=>none
 |n+1,f,g=>
  bif (decide (g<(e.length:Int)))then(bnd (Xe e g) λj=>
   bif (j.k==3)then(bnd (Xe e g) λo=>
    bif (o.s==h)then QdE N e h n (wI (f+1)) (wI (g+1))
    else some f)
   else some f)
  else some f
def Qfh(N:Nat)(e:List Ws)(f g:Int):Option Int:=bnd (QdE N e g N 0 (wI (f+1))) λh=>some h
def QaG(N:Nat)(f:Wk):Nat->Int->Int->Option (Ex Bool Unit)
 |0,_,_=>none
 |n+1,h,j=>
  bif (decide (j<(f.p.length:Int)))then(bnd (Xe f.p j) λe=>
   bif (!((e.k==3)==(decide (h>0))))then some (.ret false)
   else bif (decide (e.s<0))then some (.ret false)
   else bif (decide (e.s>1))then some (.ret false)
   else bnd (QgZ N e.P) λy=>
   bif (!y)then some (.ret false)
   else jn (λ(g:Int)=>
    QaG N f n (if 0<(wI (g-1))then(wI (g-1))else 0) (wI (j+1))) λr=>
   bif (e.k==0)then(bif (!((e.k==0)&&((e.s==0)&&((e.u==0)&&(e.P==0)))))then some (.ret false)
    else r h)
   else jn (λ(o:Int)=>
    r o) λv=>
   bif (e.k==1)then(bif (decide (e.u<0))then some (.ret false)
    else bif (decide (e.u>f.c.W))then some (.ret false)
    else v h)
   else jn (λ(z:Int)=>
    v z) λw=>
   bif (e.k==2)then(bnd (Qe5 N f.c e.u) λq=>
    bif (decide (q<1))then some (.ret false)
    else bnd (Qfh N f.p j e.s) λA=>
    bif (decide (A<(wI (q-1))))then some (.ret false)
    else w q)
   else bif (e.k==3)then(bif (e.u != 0)then some (.ret false)
    else bif (e.P != 0)then some (.ret false)
    else w h)
   else some (.ret false))
  else some (.nxt ())
def Qab(N:Nat)(f:Wk):Option Bool:=bnd (QaV N f.c) λh=>bif (!h)then some false else bif ((f.w.length:Int) != (wI (f.c.p*f.c.W)))then some false else bif ((f.p.length:Int) != f.c.p)then some false else bif (decide (f.s<0))then some false else bif (decide (f.s>1))then some false else jn (λ(_:Unit)=>bnd (QaG N f N 0 0) λe=>exK e (λr=>some r) λj=>some true) λg=>bif (f.b != (-1))then(bif (decide (f.b<0))then some false else bif (decide (f.b>=(f.p.length:Int)))then some false else bnd (Xe f.p f.b) λo=>bif (o.k != 1)then some false else g ())else g ()
def Qch(N:Nat)(e:WN)(f:Int):Option (Int×Int×Int):=bnd (QaV N e) λg=>bif (!g)then some (0,0,1)else bif (decide (f<4096))then some (0,0,2)else bif (decide (f>=(wU (wI (4096+(wI (e.p*e.W)))))))then some (0,0,2)else grd (e.W≠0) <| grd (e.W≠0) <| some ((wI ((wI (wU (f-4096))).tdiv e.W)),((wI (wU (f-4096))).tmod e.W),0)
def QdT(N:Nat)(f:List Int)(e g:Int):Option (Int×Bool):=bif (decide (e<4096))then some (0,false)else bif (decide (e>(wU (4096+(wU (f.length:Int))))))then some (0,false)else some ((wI (wU (e-4096))),(decide (g<=(wI ((f.length:Int)-(wI (wU (e-4096))))))))
def Qf6(N:Nat)(f:List Int)(g:Int):Option (Int×Int):=bnd (QdT N f g 1) λe=>bif (!e.2)then some (0,2)else some (e.1,0)
def Qbr(N:Nat)(f:List Int)(g:Int):Option (Int×Int):=bnd (Qf6 N f g) λe=>bif (e.2 != 0)then some (0,e.2)else bnd (Xe f e.1) λh=>some (h,0)
def Qc9(N:Nat)(e:Wv):Option Bool:=bif (decide (e.k<0))then some false else bif (decide (e.k>3))then some false else bif (decide (e.n<0))then some false else bif (decide (e.n>255))then some false else bif (e.k != 1)then some (e.Map==0)else bif (decide (e.n<=32))then(grd (0<=(wU e.n)) <| some (decide ((wU e.Map)<(ZO .u64 1 (wU e.n)))))else some false
def QcH(N:Nat)(e:Wv):Option (Int×Int):=bnd (Qc9 N e) λf=>bif (!f)then some (0,1)else some ((wU ((wU ((wU (1+(wU (4*(wU e.k)))))+(wU (16*(wU e.n)))))+(ZO .u64 (wU e.Map) 16))),0)
def QcI(N:Nat)(e:Int):Option (Wv×Bool):=bnd (QcH N (Wv.mk (wI (Zc .u64 (YO .u64 e 2) 3)) (wI (Zc .u64 (YO .u64 e 4) 4095)) (wW (YO .u64 e 16)))) λf=>bif (f.2 != 0)then some ((Wv.mk 0 0 0),false)else bif (f.1 != e)then some ((Wv.mk 0 0 0),false)else some ((Wv.mk (wI (Zc .u64 (YO .u64 e 2) 3)) (wI (Zc .u64 (YO .u64 e 4) 4095)) (wW (YO .u64 e 16))),true)
def QcU(N:Nat)(e:Wv):Option Int:=bnd (Qc9 N e) λf=>bif (!f)then some 0 else some (wI (e.n+1))
def Qal(N:Nat)(h:Wk)(o:Int):Option (Wv×Int):=bnd (Qab N h) λr=>bif (!r)then some ((Wv.mk 0 0 0),1)else bnd (Qch N h.c o) λf=>bif (f.2.2 != 0)then some ((Wv.mk 0 0 0),2)else bnd (Xe h.p f.1) λe=>bnd (Qbr N h.w o) λs=>bnd (QcI N s.1) λg=>jn (λ(_:Unit)=>bnd (QcU N g.1) λj=>bif (e.k==1)then(bif (decide ((wI (f.2.1+j))>e.u))then some ((Wv.mk 0 0 0),19)else bif (e.k==2)then(bif (f.2.1 != 0)then some ((Wv.mk 0 0 0),19)else bif (j != e.u)then some ((Wv.mk 0 0 0),19)else some (g.1,0))else some (g.1,0))else bif (e.k==2)then(bif (f.2.1 != 0)then some ((Wv.mk 0 0 0),19)else bif (j != e.u)then some ((Wv.mk 0 0 0),19)else some (g.1,0))else some (g.1,0)) λq=>bif (e.k != 1)then(bif (e.k != 2)then some ((Wv.mk 0 0 0),19)else bif (decide (f.2.1>=e.u))then some ((Wv.mk 0 0 0),19)else bif (!g.2)then some ((Wv.mk 0 0 0),19)else q ())else bif (decide (f.2.1>=e.u))then some ((Wv.mk 0 0 0),19)else bif (!g.2)then some ((Wv.mk 0 0 0),19)else q ()
def QbE(N:Nat)(e:WN)(f g:Int):Option (Int×Int):=bnd (QaV N e) λh=>bif (!h)then some (0,1)else bif (decide (f<0))then some (0,2)else bif (decide (f>=e.p))then some (0,2)else bif (decide (g<0))then some (0,2)else bif (decide (g>=e.W))then some (0,2)else some ((wU (wI ((wI (4096+(wI (f*e.W))))+g))),0)
def Qah(N:Nat)(f:Wk)(o:Int)(g:Ws):Nat->Int->(List Int)->Option (Ex (List Int×Int) (List Int))
 |0,_,_=>none
 |n+1,h,e=>
  bif (decide (h<g.u))then(bnd (QbE N f.c o h) λj=>
   bnd (Qal N f j.1) λp=>
   bif (p.2 != 0)then some (.ret ([],19))
   else grd ((e.length+1)*8<=140737488355328) <|
   bif (g.k==2)then some (.nxt (e++[j.1]))
   else bnd (QcU N p.1) λq=>
   Qah N f o g n (wI (h+q)) (e++[j.1]))
  else some (.nxt e)
def Qag(N:Nat)(f:Wk)(g:Int):Option (List Int×Int):=bnd (Qab N f) λj=>bif (!j)then some ([],1)else bif (decide (g<0))then some ([],2)else bif (decide (g>=(f.p.length:Int)))then some ([],2)else bnd (Xe f.p g) λh=>bif (h.k==0)then some ([],0)else bif (h.k==3)then some ([],0)else bnd (Qah N f g h N 0 []) λe=>exK e (λr=>some r) λo=>some (o,0)
def QaW(N:Nat)(e:Wk)(h:Int)(f:List Int):Nat->Int->Option (Ex Int Unit)
 |0,_=>none
 |n+1,g=>
  bif (decide (g<(f.length:Int)))then(bnd (Xe f g) λr=>
   bnd (Qal N e r) λj=>
   bnd (QcU N j.1) λs=>
   bnd (QdD N e.c) λu=>
   bnd (Xe e.p h) λv=>
   bif (v.k==1)then(bif (!(decide (s<=u)))then(bnd (Xe f g) λw=>
       some (.ret w))
    else bnd (Xe e.p h) λy=>
    bif (y.k==2)then(bif (j.1.k==0)then(bnd (Xe f g) λo=>
        some (.ret o))
     else QaW N e h f n (wI (g+1)))
    else QaW N e h f n (wI (g+1)))
   else bnd (Xe e.p h) λz=>
   bif (z.k==2)then(bif (j.1.k==0)then(bnd (Xe f g) λq=>
       some (.ret q))
    else QaW N e h f n (wI (g+1)))
   else QaW N e h f n (wI (g+1)))
  else some (.nxt ())
def Qey(N:Nat)(f:Wk)(g:Int)(h:List Int):Option Int:=bnd (QaW N f g h N 0) λe=>exK e (λr=>some r) λj=>some 0
def QcV(N:Nat)(f:Wk):Nat->Int->Option Int
 |0,_=>none
 |n+1,e=>
  bnd (Xe f.p e) λg=>
  bif (g.k==3)then QcV N f n (wI (e-1))
  else some e
def Qe6(N:Nat)(e:Wk)(f:Int):Option Int:=bnd (QcV N e N f) λg=>some g
def QbW(N:Nat)(e:Wk)(f:Int)(g:List Int)(h j:Int):Nat->Int->(List Bool)->Option (List Bool)
 |0,_,_=>none
 |n+1,v7,v8=>
  bif (decide (v7<j))then(bnd (Xe g h) λk=>
   bif (decide ((wI ((wI ((wI ((wI k)-4096))+v7))-(wI (f*e.c.W))))>=0))then(grd (v8.length<=140737488355328) <|
    bif (decide ((wI ((wI ((wI ((wI k)-4096))+v7))-(wI (f*e.c.W))))<(v8.length:Int)))then(bnd (Xe v8 (wI ((wI ((wI ((wI k)-4096))+v7))-(wI (f*e.c.W))))) λo=>
     QbW N e f g h j n (wI (v7+1)) (v8.set (wI ((wI ((wI ((wI k)-4096))+v7))-(wI (f*e.c.W)))).toNat true))
    else QbW N e f g h j n (wI (v7+1)) v8)
   else QbW N e f g h j n (wI (v7+1)) v8)
  else some v8
def Qdv(N:Nat)(g:Wk)(j:Int)(e:List Int):Nat->Int->(List Bool)->Option (List Bool)
 |0,_,_=>none
 |n+1,f,o=>
  bif (decide (f<(e.length:Int)))then(bnd (Xe e f) λr=>
   bnd (Qal N g r) λp=>
   bnd (QcU N p.1) λs=>
   jn (λ(u:Int)=>
    bnd (QbW N g j e f u N 0 o) λh=>
    Qdv N g j e n (wI (f+1)) h) λq=>
   bif (p.1.k==0)then q 1
   else q s)
  else some o
def Qg0(N:Nat)(e:Wk)(g:Int)(h:List Int):Option (List Bool):=grd (0<=e.c.W/\e.c.W.toNat<=140737488355328) <| bnd (Qdv N e g h N 0 (List.replicate e.c.W.toNat false)) λf=>some f
def Qg1(N:Nat)(e:Wk)(f g:Int):Option Int:=bnd (QbE N e.c f g) λh=>bnd (Qbr N e.w h.1) λj=>some j.1
def QfH(N:Nat)(e:Wk)(f g:Int):Option Int:=bnd (Qg1 N e f g) λh=>some h
def QfV(N:Nat)(e:Wk)(f g:Int):Option Int:=some (wU (wI ((wI (4096+(wI (f*e.c.W))))+g)))
def QcW(N:Nat)(f:Wk)(g:Int)(h:List Bool):Nat->Int->Option (Ex Int Unit)
 |0,_=>none
 |n+1,e=>
  bif (decide (e<(h.length:Int)))then(bnd (Xe h e) λj=>
   bif (!j)then(bnd (QfH N f g e) λk=>
    bif (k != 0)then(bnd (QfV N f g e) λo=>
     some (.ret o))
    else QcW N f g h n (wI (e+1)))
   else QcW N f g h n (wI (e+1)))
  else some (.nxt ())
def Qer(N:Nat)(f:Wk)(g:Int):Option Int:=bnd (Qe6 N f g) λh=>bnd (Qag N f h) λj=>bnd (Qg0 N f g j.1) λk=>bnd (QcW N f g k N 0) λe=>exK e (λr=>some r) λo=>some 0
def Qes(N:Nat)(f:Wk)(e:Int):Option Ur:=jn (λ(_:Unit)=>bnd (Qag N f e) λg=>bif (g.2 != 0)then some (Ur.mk 3 e 0)else bnd (Qey N f e g.1) λh=>bif (h != 0)then some (Ur.mk 5 e h)else bnd (Qer N f e) λj=>bif (j != 0)then some (Ur.mk 4 e j)else some (Ur.mk 0 0 0)) λo=>bnd (Xe f.p e) λq=>bif (q.k != 0)then(bnd (Xe f.p e) λr=>bif (r.s != f.s)then some (Ur.mk 2 e 0)else o ())else o ()
def Qca(N:Nat)(f:Wk)(g:Int):Option (Wv×Int):=bnd (Qab N f) λh=>bif (!h)then some ((Wv.mk 0 0 0),1)else bif (g==0)then some ((Wv.mk 0 0 0),5)else bnd (Qal N f g) λe=>bif (e.2==0)then(bif (e.1.k==0)then some ((Wv.mk 0 0 0),4)else some (e.1,e.2))else some (e.1,e.2)
def Qdg(N:Nat)(g:List Int)(h f:Int):Option (List Int×Int):=bif (decide (f<0))then some ([],1)else bnd (QdT N g h f) λe=>bif (!e.2)then some ([],2)else grd (0<=e.1/\e.1<=(wI (e.1+f))/\(wI (e.1+f))<=(g.length:Int)) <| grd ((min ((wI (e.1+f)).toNat-e.1.toNat) (g.length-e.1.toNat))*8<=140737488355328) <| some (((g.drop e.1.toNat).take ((wI (e.1+f)).toNat-e.1.toNat)),0)
def Qfv(N:Nat)(f:Wk)(g:Int):Option (List Int×Int):=bnd (Qca N f g) λe=>bif (e.2 != 0)then some ([],e.2)else bnd (Qdg N f.w (wU (g+1)) e.1.n) λh=>some (h.1,h.2)
def Qcm(N:Nat)(e:Wv)(f:Int):Option Bool:=bnd (Qc9 N e) λg=>bif (!g)then some false else bif (decide (f<0))then some false else bif (decide (f>=e.n))then some false else bif (e.k==2)then some true else bif (e.k==1)then(grd (0<=(wU f)) <| some ((Zc .u32 (YO .u32 e.Map (wU f)) 1)==1))else some false
def QaO(N:Nat)(f:Wk):Nat->Int->(List Int)->Option (Ex (List Int×Int) (List Int))
 |0,_,_=>none
 |n+1,g,h=>
  bif (decide (g<(f.p.length:Int)))then(bnd (Qag N f g) λe=>
   bif (e.2 != 0)then some (.ret ([],e.2))
   else grd ((h.length+e.1.length)*8<=140737488355328) <|
   QaO N f n (wI (g+1)) (h++e.1))
  else some (.nxt h)
def QbH(N:Nat)(f:Wk):Option (List Int×Int):=bnd (Qab N f) λg=>bif (!g)then some ([],1)else bnd (QaO N f N 0 []) λe=>exK e (λr=>some r) λh=>some (h,0)
def Qbc(N:Nat)(h:Wk)(e:List Int×Int):Nat->Int->(List Int)->Option (List Int)
 |0,_,_=>none
 |n+1,f,g=>
  bif (decide (f<(e.1.length:Int)))then(bnd (Xe e.1 f) λj=>
   bnd (Qal N h j) λo=>
   bif (o.1.k != 0)then(bnd (Xe e.1 f) λp=>
    grd ((g.length+1)*8<=140737488355328) <|
    Qbc N h e n (wI (f+1)) (g++[p]))
   else Qbc N h e n (wI (f+1)) g)
  else some g
def Qap(N:Nat)(e:Wk):Option (List Int×Int):=bnd (QbH N e) λf=>bnd (Qbc N e f N 0 []) λg=>some (g,f.2)
def QaC(N:Nat)(h:Wk)(f e:List Int×Int)(j:Int)(k:Wv×Int):Nat->Int->Option (Ex Ur Unit)
 |0,_=>none
 |n+1,v7=>
  bif (decide (v7<(e.1.length:Int)))then(bnd (Qcm N k.1 v7) λr=>
   bif r then(bnd (Xe e.1 v7) λs=>
    bif (s != 0)then(bnd (Xe e.1 v7) λo=>
     bnd (Qc3 N f.1 o) λp=>
     bif (!p)then(bnd (Xe f.1 j) λg=>
      bnd (Qch N h.c (wU ((wU (g+1))+(wU v7)))) λq=>
      some (.ret (Ur.mk 6 q.1 (wU ((wU (g+1))+(wU v7))))))
     else QaC N h f e j k n (wI (v7+1)))
    else QaC N h f e j k n (wI (v7+1)))
   else QaC N h f e j k n (wI (v7+1)))
  else some (.nxt ())
def QbB(N:Nat)(h:Wk)(f:List Int×Int):Nat->Int->Option (Ex Ur Unit)
 |0,_=>none
 |n+1,g=>
  bif (decide (g<(f.1.length:Int)))then(bnd (Xe f.1 g) λj=>
   bnd (Qca N h j) λk=>
   bnd (Xe f.1 g) λo=>
   bnd (Qfv N h o) λp=>
   bnd (QaC N h f p g k N 0) λe=>exK e (λr=>some (.ret r)) λq=>
   QbB N h f n (wI (g+1)))
  else some (.nxt ())
def QdF(N:Nat)(f:Wk):Option Ur:=bnd (Qap N f) λg=>bnd (QbB N f g N 0) λe=>exK e (λr=>some r) λh=>some (Ur.mk 0 0 0)
def Qbk(N:Nat)(e:Wk):Nat->Int->Option (Ex Ur Unit)
 |0,_=>none
 |n+1,f=>
  bif (decide (f<(e.p.length:Int)))then(bnd (Qes N e f) λg=>
   bif (g.Fault != 0)then some (.ret g)
   else Qbk N e n (wI (f+1)))
  else some (.nxt ())
def Qa7(N:Nat)(e:Wk):Nat->Int->Int->Option Int
 |0,_,_=>none
 |n+1,v6,v7=>
  bif (decide (v7<(e.p.length:Int)))then(bnd (Xe e.p v7) λf=>
   bif (f.k==1)then(bnd (Xe e.p v7) λg=>
    bif (decide (g.P>0))then Qa7 N e n (wI (v6+1)) (wI (v7+1))
    else Qa7 N e n v6 (wI (v7+1)))
   else Qa7 N e n v6 (wI (v7+1)))
  else some v6
def Qfi(N:Nat)(f:Wk):Option Ur:=bnd (Qab N f) λj=>bif (!j)then some (Ur.mk 1 0 0)else bnd (Qbk N f N 0) λe=>exK e (λr=>some r) λk=>bnd (QdF N f) λh=>bif (h.Fault != 0)then some h else bnd (Qa7 N f N 0 0) λg=>bif (decide (g>(wI (f.c.p.tdiv 4))))then some (Ur.mk 7 0 0)else some (Ur.mk 0 0 0)
def Qbe(N:Nat)(f:Wk):Option Bool:=bnd (Qfi N f) λe=>some ((e.Fault==0)&&((e.Page==0)&&(e.Addr==0)))
def Qfj(N:Nat)(f:List UE)(g:Int):Nat->Int->Option (Ex Int Unit)
 |0,_=>none
 |n+1,e=>
  bif (decide (e<(f.length:Int)))then(bnd (Xe f e) λh=>
   bif (h.a==g)then some (.ret e)
   else Qfj N f g n (wI (e+1)))
  else some (.nxt ())
def QgN(N:Nat)(f:List UE)(g:Int):Option Int:=bnd (Qfj N f g N 0) λe=>exK e (λr=>some r) λh=>some (-1)
def QfI(N:Nat)(e:Wk)(f:Int):Option Int:=bnd (Qch N e.c f) λg=>some g.1
def Qbl(N:Nat)(q:Wk)(e:List UE)(r:List Int×Int):Nat->Int->(List Int)->Option (Ex Bool (List Int))
 |0,_,_=>none
 |n+1,f,h=>
  bif (decide (f<(e.length:Int)))then(bnd (Xe e f) λs=>
   bnd (Qc3 N r.1 s.a) λu=>
   bif (!u)then some (.ret false)
   else bnd (Xe e f) λv=>
   bnd (QgN N e v.a) λw=>
   bif (w != f)then some (.ret false)
   else bnd (Xe e f) λy=>
   bif (decide (y.M<1))then some (.ret false)
   else bnd (Xe e f) λj=>
   bif (decide (j.M>1000))then some (.ret false)
   else bnd (Xe e f) λk=>
   bnd (QfI N q k.a) λg=>
   bnd (Xe h g) λo=>
   bnd (Xe e f) λp=>
   bnd (Xe h g) λz=>
   Qbl N q e r n (wI (f+1)) (h.set g.toNat (wI (o+p.M))))
  else some (.nxt h)
def QbI(N:Nat)(f:Wk)(e:List Int):Nat->Int->Option (Ex Bool Unit)
 |0,_=>none
 |n+1,v17=>
  bif (decide (v17<(f.p.length:Int)))then(bnd (Xe f.p v17) λg=>
   bnd (Xe e v17) λh=>
   bif (g.P != h)then some (.ret false)
   else QbI N f e n (wI (v17+1)))
  else some (.nxt ())
def Qcn(N:Nat)(f:Wk)(h:List UE):Option Bool:=bnd (Qbe N f) λj=>bif (!j)then some false else bif (decide ((h.length:Int)>64))then some false else bnd (Qap N f) λk=>grd (0<=(f.p.length:Int)/\(f.p.length:Int).toNat*8<=140737488355328) <| bnd (Qbl N f h k N 0 (List.replicate (f.p.length:Int).toNat (0:Int))) λe=>exK e (λr=>some r) λg=>bnd (QbI N f g N 0) λe=>exK e (λr=>some r) λo=>some true
def Qed(N:Nat)(f:Wp)(g:Int):Nat->Int->Int->Option Int
 |0,_,_=>none
 |n+1,h,e=>
  bif (decide (e<g))then(bnd (Xe f.S e) λj=>
   bif j.V then Qed N f g n (wI (h+1)) (wI (e+1))
   else Qed N f g n h (wI (e+1)))
  else some h
def Qgt(N:Nat)(e:Wp)(f g:Int):Option Int:=bnd (Qed N e g N 0 f) λh=>some h
def Qhx(N:Nat)(e:Wp)(f:Int):Option Int:=bif (decide ((wI (f+1))<(e.x.length:Int)))then(bnd (Xe e.x (wI (f+1))) λg=>some g.O)else some (e.S.length:Int)
def QdG(N:Nat)(e:Wp):Nat->Int->Option (Ex Bool Unit)
 |0,_=>none
 |n+1,f=>
  bif (decide (f<(e.i.length:Int)))then(bnd (Xe e.i f) λg=>
   bif (decide (g<0))then some (.ret false)
   else bnd (Xe e.i f) λh=>
   bif (decide (h>4095))then some (.ret false)
   else QdG N e n (wI (f+1)))
  else some (.nxt ())
def QaD(N:Nat)(f:Wp):Nat->Int->Int->Option (Ex Bool Unit)
 |0,_,_=>none
 |n+1,g,v6=>
  bif (decide (v6<(f.S.length:Int)))then(bnd (Xe f.S v6) λe=>
   bif (decide (e.J<=g))then some (.ret false)
   else bif (decide (e.J>(f.i.length:Int)))then some (.ret false)
   else bnd (Xe f.i (wI (e.J-1))) λh=>
   bif (h != v6)then some (.ret false)
   else bif (!(e.V==(e.a != 0)))then some (.ret false)
   else QaD N f n e.J (wI (v6+1)))
  else some (.nxt ())
def Qax(N:Nat)(f:Wp):Nat->Int->Int->Option (Ex Bool Unit)
 |0,_,_=>none
 |n+1,v10,v11=>
  bif (decide (v11<(f.x.length:Int)))then(bnd (Xe f.x v11) λe=>
   bif (v11==0)then(bif (e.O != 0)then some (.ret false)
    else bif (!e.B0)then some (.ret false)
    else bif (decide (e.O<v10))then some (.ret false)
    else bif (decide (e.O>(f.S.length:Int)))then some (.ret false)
    else bif (decide (e.C0<0))then some (.ret false)
    else bif (decide (e.C0>64))then some (.ret false)
    else Qax N f n e.O (wI (v11+1)))
   else bif (decide (e.O<v10))then some (.ret false)
   else bif (decide (e.O>(f.S.length:Int)))then some (.ret false)
   else bif (decide (e.C0<0))then some (.ret false)
   else bif (decide (e.C0>64))then some (.ret false)
   else Qax N f n e.O (wI (v11+1)))
  else some (.nxt ())
def Qc4(N:Nat)(f:Wp):Nat->Int->Option (Ex Bool Unit)
 |0,_=>none
 |n+1,e=>
  bif (decide (e<(f.x.length:Int)))then(bnd (Xe f.x e) λg=>
   bnd (Qhx N f e) λh=>
   bnd (Qgt N f g.O h) λj=>
   bnd (Xe f.x e) λk=>
   bif (decide (j>k.C0))then some (.ret false)
   else Qc4 N f n (wI (e+1)))
  else some (.nxt ())
def Qco(N:Nat)(f:Wp):Option Bool:=jn (λ(_:Unit)=>bnd (QdG N f N 0) λe=>exK e (λr=>some r) λk=>bnd (QaD N f N 0 0) λe=>exK e (λr=>some r) λo=>bnd (Qax N f N 0 0) λe=>exK e (λr=>some r) λh=>bnd (Qc4 N f N 0) λe=>exK e (λr=>some r) λj=>some true) λg=>bif (decide ((f.i.length:Int)>4096))then some false else bif (decide ((f.x.length:Int)>64))then some false else bif ((f.x.length:Int)==0)then(bif (decide ((f.S.length:Int)>0))then some false else g ())else g ()
def Qc5(N:Nat)(f:Wu):Nat->Int->Option (Ex Bool Unit)
 |0,_=>none
 |n+1,g=>
  bif (decide (g<(f.e.length:Int)))then(bnd (Xe f.e g) λh=>
   bif (decide (h.G<1))then some (.ret false)
   else bif (decide (h.G>4294967295))then some (.ret false)
   else bif (!h.V)then(bif (h.a != 0)then some (.ret false)
    else Qc5 N f n (wI (g+1)))
   else Qc5 N f n (wI (g+1)))
  else some (.nxt ())
def Qcp(N:Nat)(f:Wu):Option Bool:=bnd (Qc5 N f N 0) λe=>exK e (λr=>some r) λg=>some (decide ((f.e.length:Int)<=64))
def QbX(N:Nat)(f:Wu):Nat->Int->(List Int)->Option (List Int)
 |0,_,_=>none
 |n+1,g,h=>
  bif (decide (g<(f.e.length:Int)))then(bnd (Qcp N f) λj=>
   bif j then(bnd (Xe f.e g) λk=>
    bif k.V then(bnd (Xe f.e g) λo=>
     grd ((h.length+1)*8<=140737488355328) <|
     QbX N f n (wI (g+1)) (h++[o.a]))
    else QbX N f n (wI (g+1)) h)
   else some h)
  else some h
def QbC(N:Nat)(e:Wu):Option (List Int):=bnd (QbX N e N 0 []) λf=>some f
def QbY(N:Nat)(e:Wp):Nat->Int->(List Int)->Option (List Int)
 |0,_,_=>none
 |n+1,f,g=>
  bif (decide (f<(e.S.length:Int)))then(bnd (Qco N e) λh=>
   bif h then(bnd (Xe e.S f) λj=>
    bif j.V then(bnd (Xe e.S f) λk=>
     grd ((g.length+1)*8<=140737488355328) <|
     QbY N e n (wI (f+1)) (g++[k.a]))
    else QbY N e n (wI (f+1)) g)
   else some g)
  else some g
def QcX(N:Nat)(e:Wp):Option (List Int):=bnd (QbY N e N 0 []) λf=>some f
def QaH(N:Nat)(e:List Int)(g:List Int×Int):Nat->Int->Option (Ex Bool Unit)
 |0,_=>none
 |n+1,f=>
  bif (decide (f<(e.length:Int)))then(bnd (Xe e f) λh=>
   bif (h != 0)then(bnd (Xe e f) λj=>
    bnd (Qc3 N g.1 j) λk=>
    bif (!k)then some (.ret false)
    else QaH N e g n (wI (f+1)))
   else QaH N e g n (wI (f+1)))
  else some (.nxt ())
def QbJ(N:Nat)(f:Wk)(g:List Int):Option Bool:=bnd (Qbe N f) λh=>bif (!h)then some false else bnd (Qap N f) λj=>bnd (QaH N g j N 0) λe=>exK e (λr=>some r) λk=>some true
def Qa5(N:Nat)(e:W3):Option Bool:=bnd (Qcn N e.h e.P) λo=>bif (!o)then some false else bnd (Qco N e.l) λp=>bif (!p)then some false else bnd (Qcp N e.g) λq=>bif (!q)then some false else bnd (Qcp N e.v) λr=>bif (!r)then some false else bnd (QbC N e.g) λf=>bnd (Qc3 N f 0) λs=>bif s then some false else grd (e.R.length*8<=140737488355328) <| bnd (QcX N e.l) λj=>grd ((e.R.length+j.length)*8<=140737488355328) <| grd (((e.R.length+j.length)+f.length)*8<=140737488355328) <| bnd (QbC N e.v) λk=>grd ((((e.R.length+j.length)+f.length)+k.length)*8<=140737488355328) <| bnd (QbJ N e.h (((e.R++j)++f)++k)) λu=>some u
def QbO(N:Nat)(e:W3):Nat->Int->(List Int)->Option (List Int)
 |0,_,_=>none
 |n+1,f,g=>
  bif (decide (f<(e.P.length:Int)))then(bnd (Xe e.P f) λh=>
   grd ((g.length+1)*8<=140737488355328) <|
   QbO N e n (wI (f+1)) (g++[h.a]))
  else some g
def Qd1(N:Nat)(e:W3):Option (List Int):=grd (e.R.length*8<=140737488355328) <| bnd (QcX N e.l) λf=>grd ((e.R.length+f.length)*8<=140737488355328) <| bnd (QbC N e.g) λh=>grd (((e.R.length+f.length)+h.length)*8<=140737488355328) <| bnd (QbO N e N 0 ((e.R++f)++h)) λj=>some j
def QbK(N:Nat)(g:Wk)(h:List Int×Int):Nat->Int->(List Ws)->Option (List Ws)
 |0,_,_=>none
 |n+1,f,e=>
  grd (e.length<=140737488355328) <|
  bif (decide (f<(e.length:Int)))then(bnd (Xe e f) λo=>
   bif (o.k==1)then(bif (decide (o.P>0))then(bnd (Xe e f) λj=>
       QbK N g h n (wI (f+1)) (e.set f.toNat (Ws.mk j.k (wI (1-g.s)) j.u j.P)))
    else QbK N g h n (wI (f+1)) e)
   else QbK N g h n (wI (f+1)) e)
  else some e
def Qda(N:Nat)(e:Wk):Option (Ww×Int):=bnd (Qab N e) λg=>bif (!g)then some ((Ww.mk zHp [] [] [] 0 (WR.mk 0 0 0 0 0 0)),1)else bnd (Qbe N e) λh=>bif (!h)then some ((Ww.mk zHp [] [] [] 0 (WR.mk 0 0 0 0 0 0)),19)else bnd (Qap N e) λf=>grd (e.p.length*32<=140737488355328) <| bnd (QbK N e f N 0 e.p) λj=>some ((Ww.mk (Wk.mk e.c e.w j e.s e.b) f.1 [] [] 0 (WR.mk 0 0 0 0 0 0)),0)
def QcJ(N:Nat)(e:Int):Option (Int×Bool):=bif ((e.tmod 4) != 2)then some (0,false)else bif (decide ((YO .u64 e 2)>=4294967296))then some (0,false)else some ((YO .u64 e 2),true)
def Qc6(N:Nat)(e:Ww)(g:Int):Nat->Int->Option (Ex Bool Unit)
 |0,_=>none
 |n+1,f=>
  bif (decide (f<(e.t.length:Int)))then(bnd (Xe e.t f) λh=>
   bif (h==g)then some (.ret true)
   else Qc6 N e g n (wI (f+1)))
  else some (.nxt ())
def QgE(N:Nat)(f:Ww)(g:Int):Option Bool:=bnd (Qc6 N f g N 0) λe=>exK e (λr=>some r) λh=>some false
def Qb5(N:Nat)(e:Ww)(f:Int):Option Bool:=bif (decide (f<0))then some false else bif (decide (f>=(e.h.p.length:Int)))then some false else bnd (Xe e.h.p f) λg=>bif (g.k==1)then(bif (g.s != e.h.s)then(bnd (QgE N e f) λj=>some (!j))else some false)else some false
def QcY(N:Nat)(e:Ww)(g:Int):Option Ww:=grd (e.q.length*8<=140737488355328) <| grd ((e.q.length+1)*8<=140737488355328) <| some (Ww.mk e.h e.o e.t (e.q++[g]) e.d (WR.mk e.r.j (wI (e.r.K+1)) e.r.F e.r.E e.r.f e.r.y))
def QbF(N:Nat)(g:List Ws):Nat->Int->(List Ow)->Option (List Ow)
 |0,_,_=>none
 |n+1,f,e=>
  bif (decide (f<(g.length:Int)))then(bnd (Xe g f) λj=>
   bif (j.k != 0)then QbF N g n (wI (f+1)) e
   else grd (e.length<=140737488355328) <|
   jn (λ(_:Unit)=>
    grd ((e.length+1)*16<=140737488355328) <|
    QbF N g n (wI (f+1)) (e++[(Ow.mk f 1)])) λh=>
   bif (decide ((e.length:Int)>0))then(bnd (Xe e (wI ((e.length:Int)-1))) λo=>
    bnd (Xe e (wI ((e.length:Int)-1))) λp=>
    bif ((wI (o.O+p.Len))==f)then(bnd (Xe e (wI ((e.length:Int)-1))) λq=>
     bnd (Xe e (wI ((e.length:Int)-1))) λr=>
     QbF N g n (wI (f+1)) (e.set (wI ((e.length:Int)-1)).toNat (Ow.mk r.O (wI (q.Len+1)))))
    else h ())
   else h ())
  else some e
def Qgu(N:Nat)(e:List Ws):Option (List Ow):=bnd (QbF N e N 0 []) λf=>some f
def QbL(N:Nat)(g:Int)(e:List Ow):Nat->Int->Option (Ex Int Unit)
 |0,_=>none
 |n+1,f=>
  bif (decide (f<(e.length:Int)))then(bif (decide (g>=1))then(bnd (Xe e f) λh=>
      bif (decide (h.Len>=g))then(bnd (Xe e f) λj=>
       some (.ret j.O))
      else QbL N g e n (wI (f+1)))
   else QbL N g e n (wI (f+1)))
  else some (.nxt ())
def Qbt(N:Nat)(f:List Ws)(g:Int):Option Int:=bnd (Qgu N f) λh=>bnd (QbL N g h N 0) λe=>exK e (λr=>some r) λj=>some (-1)
def Qee(N:Nat)(f h:Int)(o j:Ws):Nat->Int->(List Ws)->Option (Ex (List Ws×Int) (List Ws))
 |0,_,_=>none
 |n+1,e,g=>
  bif (decide (e<h))then(bnd (Xe g (wI (f+e))) λp=>
   bif (p.k != 0)then some (.ret ([],20))
   else bnd (Xe g (wI (f+e))) λq=>
   Qee N f h o j n (wI (e+1)) (g.set (wI (f+e)).toNat j))
  else some (.nxt g)
def Qdh(N:Nat)(g:List Ws)(f h:Int)(j o:Ws):Option (List Ws×Int):=bif (decide (f<0))then some ([],2)else bif (decide (f>=(g.length:Int)))then some ([],2)else bif (decide (h>(wI ((g.length:Int)-f))))then some ([],2)else grd (g.length*32<=140737488355328) <| bnd (Qee N f h j o N 0 g) λe=>exK e (λr=>some r) λk=>bnd (Xe k f) λp=>some ((k.set f.toNat j),0)
def QbP(N:Nat)(g:List Ws)(h e:Int):Option (List Ws×Int):=bif (decide (e<0))then some ([],1)else bif (decide (e>1))then some ([],1)else bnd (Qdh N g h 1 (Ws.mk 1 e 0 0) (Ws.mk 0 0 0 0)) λf=>some (f.1,f.2)
def QcK(N:Nat)(e:Ww)(z:Int):Option (Ww×Int×Bool):=grd (e.h.p.length*32<=140737488355328) <| jn (λ(_:Unit)=>bnd (Qbt N e.h.p 1) λf=>bif (decide (f<0))then some ((Ww.mk zHp [] [] [] 0 (WR.mk 0 0 0 0 0 0)),0,false)else bnd (QbP N e.h.p f (wI (1-e.h.s))) λy=>grd (e.t.length*8<=140737488355328) <| grd ((e.t.length+1)*8<=140737488355328) <| bnd (Xe y.1 f) λA=>bnd (Xe y.1 f) λB=>bnd (Xe y.1 f) λg=>some ((Ww.mk (Wk.mk e.h.c e.h.w (y.1.set f.toNat (Ws.mk g.k g.s (wI (B.u+z)) g.P)) e.h.s e.h.b) e.o (e.t++[f]) e.q e.d e.r),(wU (wI ((wI (4096+(wI (f*e.h.c.W))))+A.u))),true)) λG=>bif (decide ((e.t.length:Int)>0))then(bnd (Xe e.t (wI ((e.t.length:Int)-1))) λH=>bnd (Xe e.h.p H) λI=>bif (decide ((wI (I.u+z))<=e.h.c.W))then(bnd (Xe e.t (wI ((e.t.length:Int)-1))) λv=>bnd (Xe e.h.p v) λD=>bnd (Xe e.h.p v) λE=>bnd (Xe e.h.p v) λj=>some ((Ww.mk (Wk.mk e.h.c e.h.w (e.h.p.set v.toNat (Ws.mk j.k j.s (wI (E.u+z)) j.P)) e.h.s e.h.b) e.o e.t e.q e.d e.r),(wU (wI ((wI (4096+(wI (v*e.h.c.W))))+D.u))),true))else G ())else G ()
def Qcu(N:Nat)(f:List Int)(g:Int×Bool):Nat->Int->(List Int)->Option (List Int)
 |0,_,_=>none
 |n+1,e,h=>
  bif (decide (e<(f.length:Int)))then(bnd (Xe f e) λj=>
   bnd (Xe h (wI (g.1+e))) λk=>
   Qcu N f g n (wI (e+1)) (h.set (wI (g.1+e)).toNat j))
  else some h
def Qcq(N:Nat)(e:List Int)(h:Int)(f:List Int):Option (List Int×Int):=bnd (QdT N e h (f.length:Int)) λg=>bif (!g.2)then some ([],2)else grd (e.length*8<=140737488355328) <| bnd (Qcu N f g N 0 e) λj=>some (j,0)
def QfJ(N:Nat)(f:List Int)(h j k:Int):Option (List Int×Int):=bnd (Qdg N f j k) λe=>bif (e.2 != 0)then some ([],e.2)else bnd (Qcq N f h e.1) λg=>some (g.1,g.2)
def QcZ(N:Nat)(e:Int):Option (Int×Int):=bif (decide (e>=4294967296))then some (0,1)else some ((wU ((wU (4*e))+2)),0)
def QcL(N:Nat)(f:List Int)(g h:Int):Option (List Int×Int):=bnd (Qcq N f g [h]) λe=>some (e.1,e.2)
def QaP(N:Nat)(g:Ww)(j:Int):Nat->Int->(List Ws)->Option (List Ws)
 |0,_,_=>none
 |n+1,v10,v11=>
  grd (v11.length<=140737488355328) <|
  bif (decide (v10<(v11.length:Int)))then(bnd (Xe v11 v10) λf=>
   bif (f.k==3)then(bnd (Xe v11 v10) λe=>
    QaP N g j n (wI (v10+1)) (v11.set v10.toNat (Ws.mk e.k (wI (1-g.h.s)) e.u e.P)))
   else some v11)
  else some v11
def QaL(N:Nat)(g:Ww)(v:Int):Option (Ww×Int×Int):=bif (v==0)then some (g,v,0)else bnd (Qc3 N g.q v) λR=>bif R then some (g,v,0)else bnd (Qc3 N g.o v) λS=>bif (!S)then some ((Ww.mk zHp [] [] [] 0 (WR.mk 0 0 0 0 0 0)),0,19)else bnd (Qbr N g.h.w v) λM=>bnd (QcJ N M.1) λO=>bif O.2 then some (g,O.1,0)else bnd (Qch N g.h.c v) λz=>bif (z.2.2 != 0)then some ((Ww.mk zHp [] [] [] 0 (WR.mk 0 0 0 0 0 0)),0,19)else bif (decide (z.1>=(g.h.p.length:Int)))then some ((Ww.mk zHp [] [] [] 0 (WR.mk 0 0 0 0 0 0)),0,19)else bnd (Qb5 N g z.1) λT=>bif T then(bnd (QcY N g v) λU=>some (U,v,0))else bnd (Xe g.h.p z.1) λV=>bif (V.k==2)then(grd (g.h.p.length*32<=140737488355328) <| bnd (Xe g.h.p z.1) λB=>bnd (QaP N g v N (wI (z.1+1)) (g.h.p.set z.1.toNat (Ws.mk B.k (wI (1-g.h.s)) B.u B.P))) λD=>bnd (QcY N (Ww.mk (Wk.mk g.h.c g.h.w D g.h.s g.h.b) g.o g.t g.q g.d g.r) v) λG=>some (G,v,0))else bnd (QcI N M.1) λH=>bnd (QcU N H.1) λA=>bnd (QcK N g A) λe=>bif (!e.2.2)then some ((Ww.mk zHp [] [] [] 0 (WR.mk 0 0 0 0 0 0)),0,3)else bnd (QfJ N e.1.h.w e.2.1 v A) λI=>bnd (QcZ N e.2.1) λJ=>bnd (QcL N I.1 v J.1) λL=>grd (e.1.q.length*8<=140737488355328) <| grd ((e.1.q.length+1)*8<=140737488355328) <| some ((Ww.mk (Wk.mk e.1.h.c L.1 e.1.h.p e.1.h.s e.1.h.b) e.1.o e.1.t (e.1.q++[e.2.1]) e.1.d (WR.mk (wI (e.1.r.j+1)) e.1.r.K e.1.r.F e.1.r.E e.1.r.f e.1.r.y)),e.2.1,0)
def Qa8(N:Nat)(v:List Int):Nat->Int->Int->Int->(List Int)->(List Ws)->Int->Int->(List Int)->(List Int)->(List Int)->Int->Int->Int->Int->Int->Int->Int->(List Int)->Option (Ex (Ww×List Int×Int) (Int×Int×List Int×List Ws×Int×Int×List Int×List Int×List Int×Int×Int×Int×Int×Int×Int×Int×List Int))
 |0,_,_,_,_,_,_,_,_,_,_,_,_,_,_,_,_,_,_=>none
 |n+1,z,B,D,G,H,v6,v7,v8,v9,v10,v11,g,v13,k,v15,u,v17,v18=>
  bif (decide (z<(v.length:Int)))then(bnd (Xe v z) λA=>
   bnd (QaL N (Ww.mk (Wk.mk (WN.mk B D) G H v6 v7) v8 v9 v10 v11 (WR.mk g v13 k v15 u v17)) A) λe=>
   bif (e.2.2 != 0)then some (.ret ((Ww.mk zHp [] [] [] 0 (WR.mk 0 0 0 0 0 0)),[],e.2.2))
   else grd ((v18.length+1)*8<=140737488355328) <|
   Qa8 N v n (wI (z+1)) e.1.h.c.W e.1.h.c.p e.1.h.w e.1.h.p e.1.h.s e.1.h.b e.1.o e.1.t e.1.q e.1.d e.1.r.j e.1.r.K e.1.r.F e.1.r.E e.1.r.f e.1.r.y (v18++[e.2.1]))
  else some (.nxt (B,D,G,H,v6,v7,v8,v9,v10,v11,g,v13,k,v15,u,v17,v18))
def Qdb(N:Nat)(k:Ww)(u:List Int):Option (Ww×List Int×Int):=bnd (Qa8 N u N 0 k.h.c.W k.h.c.p k.h.w k.h.p k.h.s k.h.b k.o k.t k.q k.d k.r.j k.r.K k.r.F k.r.E k.r.f k.r.y []) λe=>exK e (λr=>some r) λg=>some ((Ww.mk (Wk.mk (WN.mk g.1 g.2.1) g.2.2.1 g.2.2.2.1 g.2.2.2.2.1 g.2.2.2.2.2.1) g.2.2.2.2.2.2.1 g.2.2.2.2.2.2.2.1 g.2.2.2.2.2.2.2.2.1 g.2.2.2.2.2.2.2.2.2.1 (WR.mk g.2.2.2.2.2.2.2.2.2.2.1 g.2.2.2.2.2.2.2.2.2.2.2.1 g.2.2.2.2.2.2.2.2.2.2.2.2.1 g.2.2.2.2.2.2.2.2.2.2.2.2.2.1 g.2.2.2.2.2.2.2.2.2.2.2.2.2.2.1 g.2.2.2.2.2.2.2.2.2.2.2.2.2.2.2.1)),g.2.2.2.2.2.2.2.2.2.2.2.2.2.2.2.2,0)
def Qdw(N:Nat)(e:Ww)(f:Int):Option Wv:=bnd (Qbr N e.h.w f) λg=>bnd (QcI N g.1) λj=>some j.1
def Qcb(N:Nat)(e:Wv):Nat->Int->(List Int)->Option (List Int)
 |0,_,_=>none
 |n+1,f,g=>
  bif (decide (f<e.n))then(bnd (Qc9 N e) λh=>
   bif h then(bnd (Qcm N e f) λj=>
    bif j then(grd ((g.length+1)*8<=140737488355328) <|
     Qcb N e n (wI (f+1)) (g++[f]))
    else Qcb N e n (wI (f+1)) g)
   else some g)
  else some g
def Qfw(N:Nat)(e:Wv):Option (List Int):=bnd (Qcb N e N 0 []) λf=>some f
def Qbm(N:Nat)(z:Int)(A:List Int):Nat->Int->Int->Int->(List Int)->(List Ws)->Int->Int->(List Int)->(List Int)->(List Int)->Int->Int->Int->Int->Int->Int->Int->Option (Ex (Ww×Bool×Int) (Int×Int×List Int×List Ws×Int×Int×List Int×List Int×List Int×Int×Int×Int×Int×Int×Int×Int))
 |0,_,_,_,_,_,_,_,_,_,_,_,_,_,_,_,_,_=>none
 |n+1,B,H,v6,v7,v8,v9,v10,v11,g,v13,k,v15,u,v17,v18,v19,v20=>
  bif (decide (B<(A.length:Int)))then(bnd (Xe A B) λv=>
   bnd (Qbr N v7 (wU ((wU (z+1))+(wU v)))) λD=>
   bnd (QaL N (Ww.mk (Wk.mk (WN.mk H v6) v7 v8 v9 v10) v11 g v13 k (WR.mk v15 u v17 v18 v19 v20)) D.1) λe=>
   bif (e.2.2 != 0)then some (.ret ((Ww.mk zHp [] [] [] 0 (WR.mk 0 0 0 0 0 0)),false,e.2.2))
   else bnd (QcL N e.1.h.w (wU ((wU (z+1))+(wU v))) e.2.1) λG=>
   Qbm N z A n (wI (B+1)) e.1.h.c.W e.1.h.c.p G.1 e.1.h.p e.1.h.s e.1.h.b e.1.o e.1.t e.1.q e.1.d e.1.r.j e.1.r.K e.1.r.F e.1.r.E e.1.r.f e.1.r.y)
  else some (.nxt (H,v6,v7,v8,v9,v10,v11,g,v13,k,v15,u,v17,v18,v19,v20))
def Qet(N:Nat)(k:Ww):Option (Ww×Bool×Int):=bif (decide (k.d>=(k.q.length:Int)))then some (k,false,0)else bnd (Xe k.q k.d) λu=>bnd (Qdw N k u) λz=>bnd (Qfw N z) λv=>bnd (Qbm N u v N 0 k.h.c.W k.h.c.p k.h.w k.h.p k.h.s k.h.b k.o k.t k.q k.d k.r.j k.r.K k.r.F k.r.E k.r.f k.r.y) λe=>exK e (λr=>some r) λg=>some ((Ww.mk (Wk.mk (WN.mk g.1 g.2.1) g.2.2.1 g.2.2.2.1 g.2.2.2.2.1 g.2.2.2.2.2.1) g.2.2.2.2.2.2.1 g.2.2.2.2.2.2.2.1 g.2.2.2.2.2.2.2.2.1 (wI (g.2.2.2.2.2.2.2.2.2.1+1)) (WR.mk g.2.2.2.2.2.2.2.2.2.2.1 g.2.2.2.2.2.2.2.2.2.2.2.1 g.2.2.2.2.2.2.2.2.2.2.2.2.1 g.2.2.2.2.2.2.2.2.2.2.2.2.2.1 g.2.2.2.2.2.2.2.2.2.2.2.2.2.2.1 (wI ((wI (g.2.2.2.2.2.2.2.2.2.2.2.2.2.2.2+1))+(v.length:Int))))),true,0)
def QbZ(N:Nat):Nat->Int->Int->(List Int)->(List Ws)->Int->Int->(List Int)->(List Int)->(List Int)->Int->Int->Int->Int->Int->Int->Int->Option (Ww×Int)
 |0,_,_,_,_,_,_,_,_,_,_,_,_,_,_,_,_=>none
 |n+1,v,z,A,B,D,v6,v7,v8,v9,v10,v11,g,v13,k,v15,u=>
  bnd (Qet N (Ww.mk (Wk.mk (WN.mk v z) A B D v6) v7 v8 v9 v10 (WR.mk v11 g v13 k v15 u))) λe=>
  bif (e.2.2 != 0)then some ((Ww.mk zHp [] [] [] 0 (WR.mk 0 0 0 0 0 0)),e.2.2)
  else bif (!e.2.1)then some (e.1,0)
  else QbZ N n e.1.h.c.W e.1.h.c.p e.1.h.w e.1.h.p e.1.h.s e.1.h.b e.1.o e.1.t e.1.q e.1.d e.1.r.j e.1.r.K e.1.r.F e.1.r.E e.1.r.f e.1.r.y
def Qez(N:Nat)(e:Ww):Option (Ww×Int):=bnd (QbZ N N e.h.c.W e.h.c.p e.h.w e.h.p e.h.s e.h.b e.o e.t e.q e.d e.r.j e.r.K e.r.F e.r.E e.r.f e.r.y) λr=>some r
def QcM(N:Nat)(f:Ww)(e:Int):Option Int:=bnd (Qc3 N f.q e) λg=>bif g then some e else bnd (Qbr N f.h.w e) λj=>bnd (QcJ N j.1) λk=>some k.1
def Qbn(N:Nat)(e:Ww)(g:List Ws)(j:Ws)(f k:Int):Nat->Int->(List Int)->Option (List Int)
 |0,_,_=>none
 |n+1,v7,v8=>
  bif (decide (v7<e.h.c.W))then(bnd (Xe v8 (wI ((wI (f*e.h.c.W))+v7))) λo=>
   Qbn N e g j f k n (wI (v7+1)) (v8.set (wI ((wI (f*e.h.c.W))+v7)).toNat 0))
  else some v8
def QaR(N:Nat)(g:Ww):Nat->Int->Int->(List Int)->(List Ws)->Option (Int×List Int×List Ws)
 |0,_,_,_,_=>none
 |n+1,f,j,o,e=>
  grd (e.length<=140737488355328) <|
  bif (decide (f<(e.length:Int)))then(bnd (Xe e f) λp=>
   bif (p.k==0)then QaR N g n (wI (f+1)) j o e
   else bif (p.s != g.h.s)then QaR N g n (wI (f+1)) j o e
   else bnd (Xe e f) λr=>
   bnd (Qbn N g e p f j N 0 o) λq=>
   QaR N g n (wI (f+1)) (wI (j+1)) q (e.set f.toNat (Ws.mk 0 0 0 0)))
  else some (j,o,e)
def Qeu(N:Nat)(e:Ww):Option Ww:=grd (e.h.p.length*32<=140737488355328) <| grd (e.h.w.length*8<=140737488355328) <| bnd (QaR N e N 0 e.r.E e.h.w e.h.p) λg=>some (Ww.mk (Wk.mk e.h.c g.2.1 g.2.2 e.h.s e.h.b) e.o e.t e.q e.d (WR.mk e.r.j e.r.K e.r.F g.1 e.r.f e.r.y))
def QaI(N:Nat)(e:Ww):Nat->Int->(List Int)->Int->Option (List Int×Int)
 |0,_,_,_=>none
 |n+1,k,u,v=>
  bif (decide (k<(e.o.length:Int)))then(bnd (Xe e.o k) λB=>
   bnd (Qch N e.h.c B) λD=>
   bnd (Qb5 N (Ww.mk (Wk.mk e.h.c u e.h.p e.h.s e.h.b) e.o e.t e.q e.d (WR.mk e.r.j e.r.K v e.r.E e.r.f e.r.y)) D.1) λG=>
   bif (!G)then QaI N e n (wI (k+1)) u v
   else bnd (Xe e.o k) λH=>
   bnd (Qc3 N e.q H) λI=>
   bif I then QaI N e n (wI (k+1)) u v
   else bnd (Xe e.o k) λJ=>
   bnd (Qdw N (Ww.mk (Wk.mk e.h.c u e.h.p e.h.s e.h.b) e.o e.t e.q e.d (WR.mk e.r.j e.r.K v e.r.E e.r.f e.r.y)) J) λg=>
   bnd (QcH N (Wv.mk 0 g.n 0)) λw=>
   bnd (Xe e.o k) λz=>
   grd (0<=g.n/\g.n.toNat*8<=140737488355328) <|
   grd ((1+g.n.toNat)*8<=140737488355328) <|
   bnd (Qcq N u z ([w.1]++(List.replicate g.n.toNat (0:Int)))) λA=>
   QaI N e n (wI (k+1)) A.1 (wI (v+1)))
  else some (u,v)
def Qev(N:Nat)(e:Ww):Option Ww:=bnd (QaI N e N 0 e.h.w e.r.F) λg=>some (Ww.mk (Wk.mk e.h.c g.1 e.h.p e.h.s e.h.b) e.o e.t e.q e.d (WR.mk e.r.j e.r.K g.2 e.r.E e.r.f e.r.y))
def QaQ(N:Nat)(g:List Int)(A:Ww×List Int×Int)(e:Ww×Int):Nat->Int->Int->(List Int)->Option (Int×List Int)
 |0,_,_,_=>none
 |n+1,v7,v8,v9=>
  bif (decide (v7<(g.length:Int)))then(bnd (Xe g v7) λk=>
   jn (λ(p s:Int)=>
    grd ((v9.length+1)*8<=140737488355328) <|
    QaQ N g A e n (wI (v7+1)) s (v9++[p])) λw=>
   bif (k != 0)then(bnd (Xe g v7) λu=>
    bnd (QcM N (Ww.mk e.1.h e.1.o e.1.t e.1.q e.1.d (WR.mk e.1.r.j e.1.r.K e.1.r.F e.1.r.E v8 e.1.r.y)) u) λf=>
    jn (λ(v:Int)=>
     w f v) λz=>
    bif (f==0)then z (wI (v8+1))
    else z v8)
   else w 0 v8)
  else some (v8,v9)
def Qcr(N:Nat)(v:Wk)(D G:List Int):Option (Wk×List Int×List Int×WR×Int):=bnd (Qab N v) λJ=>bif (!J)then some (zHp,[],[],(WR.mk 0 0 0 0 0 0),1)else jn (λ(_:Unit)=>some (zHp,[],[],(WR.mk 0 0 0 0 0 0),19)) λH=>bnd (QbJ N v D) λL=>bif (!L)then H ()else bnd (QbJ N v G) λM=>bif (!M)then H ()else bnd (Qda N v) λO=>bnd (Qdb N O.1 D) λk=>bif (k.2.2 != 0)then some (zHp,[],[],(WR.mk 0 0 0 0 0 0),k.2.2)else bnd (Qez N k.1) λg=>bif (g.2 != 0)then some (zHp,[],[],(WR.mk 0 0 0 0 0 0),g.2)else bnd (QaQ N G k g N 0 g.1.r.f []) λu=>bnd (Qev N (Ww.mk g.1.h g.1.o g.1.t g.1.q g.1.d (WR.mk g.1.r.j g.1.r.K g.1.r.F g.1.r.E u.1 g.1.r.y))) λz=>bnd (Qeu N z) λe=>jn (λ(A:Int)=>some ((Wk.mk e.h.c e.h.w e.h.p (wI (1-e.h.s)) A),k.2.1,u.2,e.r,0)) λI=>bif (decide ((e.t.length:Int)>0))then(bnd (Xe e.t (wI ((e.t.length:Int)-1))) λB=>I B)else I (-1)
def Qbo(N:Nat)(j:Wp)(g:List Int):Nat->Int->Int->(List UB)->Option (Ex (Wp×Int) (List UB))
 |0,_,_,_=>none
 |n+1,h,f,e=>
  grd (e.length<=140737488355328) <|
  bif (decide (f<(e.length:Int)))then(bnd (Xe e f) λo=>
   bif (!o.V)then Qbo N j g n h (wI (f+1)) e
   else bnd (Xe g h) λp=>
   bif (p==0)then some (.ret ((Wp.mk [] [] []),1))
   else bnd (Xe g h) λq=>
   bnd (Xe e f) λk=>
   Qbo N j g n (wI (h+1)) (wI (f+1)) (e.set f.toNat (UB.mk k.J q k.V)))
  else some (.nxt e)
def Qdi(N:Nat)(f:Wp)(h:List Int):Option (Wp×Int):=bnd (Qco N f) λj=>bif (!j)then some ((Wp.mk [] [] []),1)else bnd (QcX N f) λk=>bif ((h.length:Int) != (k.length:Int))then some ((Wp.mk [] [] []),1)else grd (f.S.length*24<=140737488355328) <| bnd (Qbo N f h N 0 0 f.S) λe=>exK e (λr=>some r) λg=>some ((Wp.mk g f.x f.i),0)
def Qbp(N:Nat)(g:List Int):Nat->Int->Int->(List W5)->Option (List W5)
 |0,_,_,_=>none
 |n+1,h,f,e=>
  grd (e.length<=140737488355328) <|
  bif (decide (f<(e.length:Int)))then(bnd (Xe e f) λk=>
   bif k.V then(bnd (Xe g h) λo=>
    bnd (Xe e f) λj=>
    Qbp N g n (wI (h+1)) (wI (f+1)) (e.set f.toNat (W5.mk j.G o j.V)))
   else Qbp N g n h (wI (f+1)) e)
  else some e
def Qcg(N:Nat)(f:Wu)(g:List Int):Option (Wu×Int):=bnd (Qcp N f) λj=>bif (!j)then some ((Wu.mk []),1)else bnd (QbC N f) λh=>grd (h.length<=140737488355328) <| bif ((g.length:Int) != (h.length:Int))then some ((Wu.mk []),1)else grd (f.e.length*24<=140737488355328) <| bnd (Qbp N g N 0 0 f.e) λk=>some ((Wu.mk k),0)
def QaZ(N:Nat)(e:W3)(h:Wk×List Int×List Int×WR×Int)(j k:List Int)(o:Wp×Int)(p q:Wu×Int):Nat->Int->(List UE)->Option (List UE)
 |0,_,_=>none
 |n+1,v10,v11=>
  bif (decide (v10<(e.P.length:Int)))then(bnd (Xe h.2.1 (wI ((wI ((wI ((e.R.length:Int)+(j.length:Int)))+(k.length:Int)))+v10))) λf=>
   bnd (Xe e.P v10) λg=>
   grd ((v11.length+1)*16<=140737488355328) <|
   QaZ N e h j k o p q n (wI (v10+1)) (v11++[(UE.mk f g.M)]))
  else some v11
def QbG(N:Nat)(e:W3):Option (W3×WR×Int):=bnd (Qa5 N e) λs=>bif (!s)then some ((W3.mk zHp (Wp.mk [] [] []) (Wu.mk []) (Wu.mk []) [] []),(WR.mk 0 0 0 0 0 0),19)else bnd (Qd1 N e) λu=>bnd (QbC N e.v) λw=>bnd (Qcr N e.h u w) λf=>bif (f.2.2.2.2 != 0)then some ((W3.mk zHp (Wp.mk [] [] []) (Wu.mk []) (Wu.mk []) [] []),(WR.mk 0 0 0 0 0 0),f.2.2.2.2)else bnd (QcX N e.l) λj=>bnd (QbC N e.g) λk=>grd (k.length<=140737488355328) <| grd (0<=0/\0<=(e.R.length:Int)/\(e.R.length:Int)<=(f.2.1.length:Int)) <| grd ((min ((e.R.length:Int).toNat) f.2.1.length)*8<=140737488355328) <| grd (0<=(e.R.length:Int)/\(e.R.length:Int)<=(wI ((e.R.length:Int)+(j.length:Int)))/\(wI ((e.R.length:Int)+(j.length:Int)))<=(f.2.1.length:Int)) <| bnd (Qdi N e.l ((f.2.1.drop (e.R.length:Int).toNat).take ((wI ((e.R.length:Int)+(j.length:Int))).toNat-(e.R.length:Int).toNat))) λp=>grd (0<=(wI ((e.R.length:Int)+(j.length:Int)))/\(wI ((e.R.length:Int)+(j.length:Int)))<=(wI ((wI ((e.R.length:Int)+(j.length:Int)))+(k.length:Int)))/\(wI ((wI ((e.R.length:Int)+(j.length:Int)))+(k.length:Int)))<=(f.2.1.length:Int)) <| bnd (Qcg N e.g ((f.2.1.drop (wI ((e.R.length:Int)+(j.length:Int))).toNat).take ((wI ((wI ((e.R.length:Int)+(j.length:Int)))+(k.length:Int))).toNat-(wI ((e.R.length:Int)+(j.length:Int))).toNat))) λq=>bnd (Qcg N e.v f.2.2.1) λr=>bnd (QaZ N e f j k p q r N 0 []) λo=>some ((W3.mk f.1 p.1 q.1 r.1 o (f.2.1.take (e.R.length:Int).toNat)),f.2.2.2.1,0)
def Qdj(N:Nat)(g:WM)(e:List Int):Nat->Int->Option (Ex Bool Unit)
 |0,_=>none
 |n+1,f=>
  bif (decide (f<(e.length:Int)))then(bnd (Xe e f) λh=>
   bif (decide (h>(wU (g.T.length:Int))))then some (.ret false)
   else Qdj N g e n (wI (f+1)))
  else some (.nxt ())
def Qdk(N:Nat)(f:WM)(g:List Int):Option Bool:=bnd (Qdj N f g N 0) λe=>exK e (λr=>some r) λh=>some true
def Qef(N:Nat)(e:Ii):Nat->Int->(List Int)->Option (List Int)
 |0,_,_=>none
 |n+1,f,g=>
  bif (decide (f<(e.D.length:Int)))then(bnd (Qcm N e.H f) λh=>
   bif h then(bnd (Xe e.D f) λj=>
    grd ((g.length+1)*8<=140737488355328) <|
    Qef N e n (wI (f+1)) (g++[j]))
   else Qef N e n (wI (f+1)) g)
  else some g
def Qgv(N:Nat)(e:Ii):Option (List Int):=bnd (Qef N e N 0 []) λf=>some f
def QeW(N:Nat)(f:WM)(g:Int):Nat->Int->Option (Ex Int Unit)
 |0,_=>none
 |n+1,e=>
  bif (decide (e<(f.m.length:Int)))then(bnd (Xe f.m e) λh=>
   bif (h.I==g)then some (.ret e)
   else QeW N f g n (wI (e+1)))
  else some (.nxt ())
def QfK(N:Nat)(f:WM)(g:Int):Option Int:=bnd (QeW N f g N 0) λe=>exK e (λr=>some r) λh=>some (-1)
def QdH(N:Nat)(f:WM):Nat->Int->Option (Ex Bool Unit)
 |0,_=>none
 |n+1,g=>
  bif (decide (g<(f.T.length:Int)))then(bnd (Xe f.T g) λe=>
   bnd (Qc9 N e.H) λh=>
   bif (!h)then some (.ret false)
   else bif (e.H.k==0)then some (.ret false)
   else bif ((e.D.length:Int) != e.H.n)then some (.ret false)
   else bnd (Qgv N e) λj=>
   bnd (Qdk N f j) λo=>
   bif (!o)then some (.ret false)
   else QdH N f n (wI (g+1)))
  else some (.nxt ())
def QdI(N:Nat)(h:WM)(e:List Int):Nat->Int->Option (Ex Bool Unit)
 |0,_=>none
 |n+1,f=>
  grd (e.length<=140737488355328) <|
  bif (decide (f<(e.length:Int)))then(bnd (Xe e f) λg=>
   bif (g==0)then some (.ret false)
   else QdI N h e n (wI (f+1)))
  else some (.nxt ())
def QdJ(N:Nat)(f:WM)(g:List Int):Nat->Int->Option (Ex Bool Unit)
 |0,_=>none
 |n+1,v15=>
  bif (decide (v15<(f.m.length:Int)))then(bnd (Xe f.m v15) λe=>
   bif (decide (e.I<1))then some (.ret false)
   else bif (decide (e.I>(wU (f.T.length:Int))))then some (.ret false)
   else bnd (QfK N f e.I) λh=>
   bif (h != v15)then some (.ret false)
   else bif (decide (e.M<1))then some (.ret false)
   else bif (decide (e.M>1000))then some (.ret false)
   else QdJ N f g n (wI (v15+1)))
  else some (.nxt ())
def QeA(N:Nat)(f:WM):Option Bool:=bnd (QaV N f.c) λu=>bif (!u)then some false else bnd (Qco N f.l) λw=>bif (!w)then some false else bnd (Qcp N f.g) λy=>bif (!y)then some false else bnd (Qcp N f.v) λz=>bif (!z)then some false else bif (decide ((f.m.length:Int)>64))then some false else bnd (QdH N f N 0) λe=>exK e (λr=>some r) λA=>bnd (QbC N f.g) λh=>bnd (QdI N f h N 0) λe=>exK e (λr=>some r) λB=>bnd (QdJ N f h N 0) λe=>exK e (λr=>some r) λD=>bnd (Qdk N f f.R) λj=>bif j then(bnd (QcX N f.l) λk=>bnd (Qdk N f k) λo=>bif o then(bnd (Qdk N f h) λp=>bif p then(bnd (QbC N f.v) λq=>bnd (Qdk N f q) λs=>some s)else some false)else some false)else some false
def Qe7(N:Nat)(e:WM):Nat->Int->(List Int)->Option (List Int)
 |0,_,_=>none
 |n+1,f,g=>
  bif (decide (f<(e.m.length:Int)))then(bnd (Xe e.m f) λh=>
   grd ((g.length+1)*8<=140737488355328) <|
   Qe7 N e n (wI (f+1)) (g++[h.I]))
  else some g
def Qg2(N:Nat)(e:WM):Option (List Int):=grd (e.R.length*8<=140737488355328) <| bnd (QcX N e.l) λf=>grd ((e.R.length+f.length)*8<=140737488355328) <| bnd (QbC N e.g) λh=>grd (((e.R.length+f.length)+h.length)*8<=140737488355328) <| bnd (Qe7 N e N 0 ((e.R++f)++h)) λj=>some j
def Qc1(N:Nat)(j:WM):Nat->Int->(List Bool)->(List Int)->Option (List Bool)
 |0,_,_,_=>none
 |n+1,f,g,e=>
  grd (e.length<=140737488355328) <|
  bif (decide (f<(e.length:Int)))then(bnd (Xe e f) λq=>
   bif (q==0)then Qc1 N j n (wI (f+1)) g e
   else bnd (Xe e f) λr=>
   bnd (Xe g (wU (r-1))) λs=>
   bif s then Qc1 N j n (wI (f+1)) g e
   else bnd (Xe e f) λp=>
   bnd (Xe g (wU (p-1))) λu=>
   bnd (Xe e f) λk=>
   bnd (Xe j.T (wU (k-1))) λo=>
   bnd (Qgv N o) λh=>
   grd ((e.length+h.length)*8<=140737488355328) <|
   Qc1 N j n (wI (f+1)) (g.set (wU (p-1)).toNat true) (e++h))
  else some g
def QfW(N:Nat)(e:WM):Option (List Bool):=bnd (QeA N e) λg=>bif (!g)then some []else grd (0<=(e.T.length:Int)/\(e.T.length:Int).toNat<=140737488355328) <| bnd (Qg2 N e) λh=>bnd (Qc1 N e N 0 (List.replicate (e.T.length:Int).toNat false) h) λf=>some f
def Qbu(N:Nat)(h:WM)(g:List Bool):Nat->Int->(List Int)->Option (List Int)
 |0,_,_=>none
 |n+1,f,e=>
  grd (e.length<=140737488355328) <|
  bif (decide (f<(e.length:Int)))then(bnd (Xe e f) λj=>
   bif (j != 0)then(bnd (Xe e f) λk=>
    bnd (Xe g (wU (k-1))) λo=>
    bif (!o)then(bnd (Xe e f) λp=>
     Qbu N h g n (wI (f+1)) (e.set f.toNat 0))
    else Qbu N h g n (wI (f+1)) e)
   else Qbu N h g n (wI (f+1)) e)
  else some e
def Qdx(N:Nat)(e:WM):Option (WM×Int):=bnd (QeA N e) λj=>bif (!j)then some (zWd,19)else bnd (QfW N e) λk=>bnd (QbC N e.v) λo=>bnd (Qbu N e k N 0 o) λf=>bnd (Qcg N e.v f) λh=>some ((WM.mk e.c e.T e.l e.g h.1 e.m e.R),0)
def Qaa(N:Nat)(e:Int):Option (W3×Int×Int):=some ((W3.mk zHp (Wp.mk [] [] []) (Wu.mk []) (Wu.mk []) [] []),0,e)
def Qcs(N:Nat)(f e g:Int):Option (Wv×Bool):=bif (f==1)then(bif (decide (e<=2147483647))then some ((Wv.mk f (wI (Zc .u64 e 2147483647)) (wW g)),(decide (g<=4294967295)))else some ((Wv.mk f (wI (Zc .u64 e 2147483647)) (wW g)),false))else some ((Wv.mk f (wI (Zc .u64 e 2147483647)) 0),(decide (e<=2147483647)))
def Qcv(N:Nat)(f:WN)(e:Wv):Option Bool:=bnd (Qc9 N e) λg=>bif g then(bif (e.k != 0)then(bnd (QcU N e) λh=>bnd (Qe5 N f h) λj=>some (j != (-1)))else some false)else some false
def Qd2(N:Nat)(e:Wp)(f:Int):Option (Wp×Int×Int×Int):=bnd (Qco N e) λg=>bif (!g)then some ((Wp.mk [] [] []),0,0,1)else bif (f==0)then some ((Wp.mk [] [] []),0,0,1)else bif ((e.x.length:Int)==0)then some ((Wp.mk [] [] []),0,0,9)else bnd (Xe e.x (wI ((e.x.length:Int)-1))) λh=>bnd (Qgt N e h.O (e.S.length:Int)) λj=>bnd (Xe e.x (wI ((e.x.length:Int)-1))) λk=>bif (decide (j>=k.C0))then some ((Wp.mk [] [] []),0,0,10)else bif ((e.i.length:Int)==4096)then some ((Wp.mk [] [] []),0,0,18)else grd (e.i.length*8<=140737488355328) <| grd ((e.i.length+1)*8<=140737488355328) <| grd (e.S.length*24<=140737488355328) <| grd ((e.S.length+1)*24<=140737488355328) <| some ((Wp.mk (e.S++[(UB.mk (wI ((e.i.length:Int)+1)) f true)]) e.x (e.i++[(e.S.length:Int)])),(e.S.length:Int),(wI ((e.i.length:Int)+1)),0)
def Qf7(N:Nat)(e:WN):Option Int:=bnd (QaV N e) λf=>bif (!f)then some 0 else some (wI (e.p.tdiv 4))
def QbM(N:Nat)(e:List Ws):Nat->Int->Int->Option Int
 |0,_,_=>none
 |n+1,g,f=>
  bif (decide (f<(e.length:Int)))then(bnd (Xe e f) λh=>
   bif (h.k != 0)then QbM N e n (wI (g+1)) (wI (f+1))
   else QbM N e n g (wI (f+1)))
  else some g
def QcN(N:Nat)(e:List Ws):Option Int:=bnd (QbM N e N 0 0) λf=>some f
def QeB(N:Nat)(e:Wk)(q:Int):Option (Wk×Int×Bool):=grd (e.p.length*32<=140737488355328) <| bnd (Qf7 N e.c) λA=>bnd (QcN N e.p) λB=>jn (λ(_:Unit)=>bnd (Qbt N e.p 1) λf=>bif (decide (f<0))then some (zHp,0,false)else bif (decide (B>=A))then some (zHp,0,false)else bnd (QbP N e.p f e.s) λj=>bnd (Xe j.1 f) λr=>bnd (Xe j.1 f) λv=>bnd (Xe j.1 f) λg=>some ((Wk.mk e.c e.w (j.1.set f.toNat (Ws.mk g.k g.s (wI (v.u+q)) g.P)) e.s f),(wU (wI ((wI (4096+(wI (f*e.c.W))))+r.u))),true)) λo=>bif (decide (e.b<0))then o ()else bnd (Xe e.p e.b) λD=>bif (D.s != e.s)then o ()else bnd (Xe e.p e.b) λE=>bif (decide ((wI (E.u+q))>e.c.W))then o ()else bif (decide (B>A))then o ()else bnd (Xe e.p e.b) λy=>bnd (Xe e.p e.b) λz=>bnd (Xe e.p e.b) λh=>some ((Wk.mk e.c e.w (e.p.set e.b.toNat (Ws.mk h.k h.s (wI (z.u+q)) h.P)) e.s e.b),(wU (wI ((wI (4096+(wI (e.b*e.c.W))))+y.u))),true)
def QdU(N:Nat)(j:WN)(k:List Ws)(o e f:Int):Option (List Ws×Int):=bnd (Qe5 N j f) λg=>bif (decide (g<1))then some ([],1)else bif (decide (e<0))then some ([],1)else bif (decide (e>1))then some ([],1)else bnd (Qdh N k o g (Ws.mk 2 e f 0) (Ws.mk 3 e 0 0)) λh=>some (h.1,h.2)
def QeC(N:Nat)(e:Wk)(h g:Int):Option (Wk×Int×Bool):=bnd (Qbt N e.p g) λf=>bif (decide (f<0))then some (zHp,0,false)else bnd (QcN N e.p) λj=>bnd (Qf7 N e.c) λk=>bif (decide ((wI (j+g))>k))then some (zHp,0,false)else bnd (QdU N e.c e.p f e.s h) λo=>some ((Wk.mk e.c e.w o.1 e.s e.b),(wU (wI (4096+(wI (f*e.c.W))))),true)
def Qbf(N:Nat)(e:Wk)(j:Int)(f:Wv):Option (Wk×Int):=bnd (QcH N f) λh=>bnd (Qab N e) λk=>bif (!k)then some (zHp,1)else bif (h.2 != 0)then some (zHp,1)else grd (0<=f.n/\f.n.toNat*8<=140737488355328) <| grd ((1+f.n.toNat)*8<=140737488355328) <| bnd (Qcq N e.w j ([h.1]++(List.replicate f.n.toNat (0:Int)))) λg=>bif (g.2 != 0)then some (zHp,g.2)else some ((Wk.mk e.c g.1 e.p e.s e.b),0)
def Qcc(N:Nat)(g:Wk)(h:Wv):Option (Wk×Int×Int):=bnd (Qab N g) λB=>bif (!B)then some (zHp,0,1)else bnd (Qcv N g.c h) λD=>bif (!D)then some (zHp,0,1)else bnd (QcU N h) λj=>bnd (Qe5 N g.c j) λy=>bnd (QeB N g j) λe=>jn (λ(z:Int) (E:Bool) (G k:Int) (o:List Int) (q:List Ws) (r u:Int)=>bif (!E)then some (zHp,0,3)else bnd (Qbf N (Wk.mk (WN.mk G k) o q r u) z h) λv=>some (v.1,z,0)) λA=>bif (decide (y>0))then(bnd (QeC N g j y) λf=>A f.2.1 f.2.2 f.1.c.W f.1.c.p f.1.w f.1.p f.1.s f.1.b)else A e.2.1 e.2.2 e.1.c.W e.1.c.p e.1.w e.1.p e.1.s e.1.b
def Qdc(N:Nat)(f:W3)(K:Wv):Option (W3×Int×Int):=bnd (Qa5 N f) λO=>bif (!O)then some ((W3.mk zHp (Wp.mk [] [] []) (Wu.mk []) (Wu.mk []) [] []),0,19)else bnd (Qcc N f.h K) λk=>jn (λ(T L Z x8:Int) (x9:List Int) (U:List Ws) (V Y:Int) (q:List UB) (r:List UM) (u:List Int) (y z:List W5) (A:List UE) (B:List Int) (D E:Int) (G:List Int) (H:List Ws) (I J:Int)=>bif (L != 0)then some ((W3.mk zHp (Wp.mk [] [] []) (Wu.mk []) (Wu.mk []) [] []),0,L)else some ((W3.mk (Wk.mk (WN.mk D E) G H I J) (Wp.mk q r u) (Wu.mk y) (Wu.mk z) A B),T,0)) λM=>bif (k.2.2==3)then(bnd (QbG N f) λj=>bif (j.2.2 != 0)then some ((W3.mk zHp (Wp.mk [] [] []) (Wu.mk []) (Wu.mk []) [] []),0,j.2.2)else bnd (Qcc N j.1.h K) λo=>M o.2.1 o.2.2 j.1.h.c.W j.1.h.c.p j.1.h.w j.1.h.p j.1.h.s j.1.h.b j.1.l.S j.1.l.x j.1.l.i j.1.g.e j.1.v.e j.1.P j.1.R o.1.c.W o.1.c.p o.1.w o.1.p o.1.s o.1.b)else M k.2.1 k.2.2 f.h.c.W f.h.c.p f.h.w f.h.p f.h.s f.h.b f.l.S f.l.x f.l.i f.g.e f.v.e f.P f.R k.1.c.W k.1.c.p k.1.w k.1.p k.1.s k.1.b
def Qf8(N:Nat)(e:UR):Option Bool:=bif (decide (e.Tag>=1))then(bif (decide (e.Tag<=3))then(bif (decide (e.Index>=0))then(bif (decide (e.Index<=65535))then(bif (decide (e.J>=1))then some (decide (e.J<=4294967295))else some false)else some false)else some false)else some false)else some false
def Qa3(N:Nat)(e:UR):Option (Int×Int):=bnd (Qf8 N e) λf=>bif (!f)then some (0,1)else some ((wU ((wU ((wU e.Tag)+(ZO .u64 (wU e.Index) 2)))+(ZO .u64 (wU e.J) 18))),0)
def Qbh(N:Nat)(e:W3)(k:Int):Option (W3×Int×Int):=bif (k==0)then some (e,0,0)else bnd (Qd2 N e.l k) λf=>bif (f.2.2.2 != 0)then(bnd (Qaa N f.2.2.2) λj=>some (j.1,j.2.1,j.2.2))else bnd (Qa3 N (UR.mk 1 f.2.1 f.2.2.1)) λo=>some ((W3.mk e.h f.1 e.g e.v e.P e.R),o.1,0)
def Qci(N:Nat)(e:W3)(u v w:Int):Option (W3×Int×Int):=bif (decide ((e.P.length:Int)>0))then(bnd (Qaa N 15) λg=>some (g.1,g.2.1,g.2.2))else bnd (Qcs N u v w) λj=>jn (λ(_:Unit)=>bnd (Qaa N 1) λk=>some (k.1,k.2.1,k.2.2)) λr=>bif (!j.2)then r ()else bnd (Qcv N e.h.c j.1) λy=>bif (!y)then r ()else bnd (Qd2 N e.l 1) λs=>bif (s.2.2.2 != 0)then(bnd (Qaa N s.2.2.2) λo=>some (o.1,o.2.1,o.2.2))else bnd (Qdc N e j.1) λf=>bif (f.2.2 != 0)then(bnd (Qaa N f.2.2) λp=>some (p.1,p.2.1,p.2.2))else bnd (Qbh N f.1 f.2.1) λq=>some (q.1,q.2.1,q.2.2)
def QcO(N:Nat)(e:Int):Option (UR×Int):=bif (e==0)then some ((UR.mk 0 0 0),5)else bnd (Qa3 N (UR.mk (wI (Zc .u64 e 3)) (wI (Zc .u64 (YO .u64 e 2) 65535)) (wI (YO .u64 e 18)))) λf=>bif (f.2 != 0)then some ((UR.mk 0 0 0),6)else bif (f.1 != e)then some ((UR.mk 0 0 0),6)else some ((UR.mk (wI (Zc .u64 e 3)) (wI (Zc .u64 (YO .u64 e 2) 65535)) (wI (YO .u64 e 18))),0)
def QeD(N:Nat)(e:Wp)(f g:Int):Option (Int×Int):=bnd (Qco N e) λh=>bif (!h)then some (0,1)else bif (decide (g<1))then some (0,6)else bif (decide (g>(e.i.length:Int)))then some (0,6)else bnd (Xe e.i (wI (g-1))) λj=>bif (j != f)then some (0,6)else bif (decide (f>=(e.S.length:Int)))then some (0,7)else bnd (Xe e.S f) λk=>bif (k.J != g)then some (0,7)else bnd (Xe e.S f) λo=>bif (!o.V)then some (0,8)else bnd (Xe e.S f) λp=>some (p.a,0)
def Qd3(N:Nat)(f:Wu)(g h:Int):Option (Int×Int):=bnd (Qcp N f) λj=>bif (!j)then some (0,1)else bif (decide (g<0))then some (0,6)else bif (decide (g>=(f.e.length:Int)))then some (0,6)else bif (decide (h<1))then some (0,6)else bnd (Xe f.e g) λk=>bif (decide (h>k.G))then some (0,6)else bnd (Xe f.e g) λo=>bif (decide (h<o.G))then some (0,8)else bnd (Xe f.e g) λp=>bif (!p.V)then some (0,8)else bnd (Xe f.e g) λq=>some (q.a,0)
def Qar(N:Nat)(f:W3)(h:Int):Option (Int×Int):=bnd (Qa5 N f) λp=>bif (!p)then some (0,19)else bif (h==0)then some (0,0)else bnd (QcO N h) λe=>bif (e.2 != 0)then some (0,e.2)else bif (e.1.Tag==1)then(bnd (QeD N f.l e.1.Index e.1.J) λj=>some (j.1,j.2))else bif (e.1.Tag==2)then(bnd (Qd3 N f.g e.1.Index e.1.J) λk=>some (k.1,k.2))else bnd (Qd3 N f.v e.1.Index e.1.J) λo=>some (o.1,o.2)
def Qbv(N:Nat)(f:W3)(g:Int):Option (Int×Int):=bnd (Qar N f g) λe=>bif (e.2==0)then(bif (e.1==0)then some (0,5)else some (e.1,e.2))else some (e.1,e.2)
def Qbw(N:Nat)(g:W3)(k f:Int)(o:Bool):Option (Int×Int×Int):=bnd (Qbv N g k) λe=>bif (e.2 != 0)then some (0,0,e.2)else bnd (Qca N g.h e.1) λj=>bif (decide (f>=(wU j.1.n)))then some (0,0,2)else bnd (Qcm N j.1 (wI f)) λp=>bif (!(p==o))then some (0,0,4)else some (e.1,(wI f),0)
def Qb6(N:Nat)(g:Wk)(h e:Int):Option (Int×Int):=bnd (Qca N g h) λf=>bif (f.2 != 0)then some (0,f.2)else bif (decide (e<0))then some (0,2)else bif (decide (e>=f.1.n))then some (0,2)else bnd (Qbr N g.w (wU ((wU (h+1))+(wU e)))) λj=>some (j.1,j.2)
def QbN(N:Nat)(e:Wk)(f g j:Int):Option (Wk×Int):=bnd (Qb6 N e f g) λh=>bif (h.2 != 0)then some (zHp,h.2)else bnd (QcL N e.w (wU ((wU (f+1))+(wU g))) j) λk=>some ((Wk.mk e.c k.1 e.p e.s e.b),0)
def Qbx(N:Nat)(e:W3)(j w y z:Int):Option (W3×Int×Int):=jn (λ(A B D:Int)=>bif (D != 0)then(bnd (Qaa N D) λk=>some (k.1,k.2.1,k.2.2))else bnd (Qb6 N e.h A B) λE=>bif (j==6)then some (e,E.1,0)else bif (j==8)then(bnd (Qbh N e E.1) λo=>some (o.1,o.2.1,o.2.2))else jn (λ(p:Int)=>bnd (QbN N e.h A B p) λq=>some ((W3.mk q.1 e.l e.g e.v e.P e.R),0,0)) λG=>bif (j==9)then(bnd (Qar N e z) λr=>bif (r.2 != 0)then(bnd (Qaa N r.2) λf=>some (f.1,f.2.1,f.2.2))else G r.1)else G z) λH=>bif (j==8)then(bnd (Qbw N e w y true) λs=>H s.1 s.2.1 s.2.2)else bnd (Qbw N e w y (j==9)) λu=>H u.1 u.2.1 u.2.2
def QcP(N:Nat)(e:W3)(j o A:Int):Option (W3×Int×Int):=jn (λ(B:Bool)=>bif B then(bnd (Qbv N e o) λp=>bif (p.2 != 0)then(bnd (Qaa N p.2) λq=>some (q.1,q.2.1,q.2.2))else bnd (Qca N e.h p.1) λy=>bif (j==4)then some (e,(wU y.1.n),0)else some (e,(wU y.1.k),0))else bif (j==10)then(bnd (Qar N e o) λr=>bif (r.2 != 0)then(bnd (Qaa N r.2) λs=>some (s.1,s.2.1,s.2.2))else bnd (Qar N e A) λu=>bif (u.2 != 0)then(bnd (Qaa N u.2) λv=>some (v.1,v.2.1,v.2.2))else bif (r.1==u.1)then some (e,1,0)else some (e,0,0))else bnd (Qar N e o) λw=>bif (w.2 != 0)then(bnd (Qaa N w.2) λf=>some (f.1,f.2.1,f.2.2))else bnd (Qbh N e w.1) λg=>some (g.1,g.2.1,g.2.2)) λz=>bif (j==4)then z true else z (j==5)
def Qcj(N:Nat)(g:Wu)(h:Int):Nat->Int->Option (Ex (Wu×Int×Int×Int) Unit)
 |0,_=>none
 |n+1,f=>
  grd (g.e.length<=140737488355328) <|
  bif (decide (f<(g.e.length:Int)))then(bnd (Xe g.e f) λk=>
   bif (!k.V)then(bnd (Xe g.e f) λo=>
    bif (decide (o.G<4294967295))then(bnd (Xe g.e f) λj=>
     bnd (Xe g.e f) λq=>
     bnd (Xe (g.e.set f.toNat (W5.mk (wI (j.G+1)) h true)) f) λp=>
     some (.ret ((Wu.mk (g.e.set f.toNat (W5.mk (wI (j.G+1)) h true))),f,p.G,0)))
    else Qcj N g h n (wI (f+1)))
   else Qcj N g h n (wI (f+1)))
  else some (.nxt ())
def Qc7(N:Nat)(f:Wu)(g:Int):Option (Wu×Int×Int×Int):=bnd (Qcp N f) λh=>bif (!h)then some ((Wu.mk []),0,0,1)else grd (f.e.length*24<=140737488355328) <| bnd (Qcj N f g N 0) λe=>exK e (λr=>some r) λj=>grd (f.e.length<=140737488355328) <| bif ((f.e.length:Int)==64)then some ((Wu.mk []),0,0,18)else grd ((f.e.length+1)*24<=140737488355328) <| grd (f.e.length<=140737488355328) <| some ((Wu.mk (f.e++[(W5.mk 1 g true)])),(f.e.length:Int),1,0)
def Qdy(N:Nat)(f:W3)(q u:Int):Option (W3×Int×Int):=bnd (Qbv N f u) λk=>bif (k.2 != 0)then(bnd (Qaa N k.2) λo=>some (o.1,o.2.1,o.2.2))else jn (λ(w:Int) (y:List W5)=>bnd (Qc7 N (Wu.mk y) k.1) λj=>bif (j.2.2.2 != 0)then(bnd (Qaa N j.2.2.2) λp=>some (p.1,p.2.1,p.2.2))else jn (λ(z A:List W5)=>bnd (Qa3 N (UR.mk w j.2.1 j.2.2.1)) λB=>some ((W3.mk f.h f.l (Wu.mk z) (Wu.mk A) f.P f.R),B.1,0)) λr=>bif (q==15)then r f.g.e j.1.e else r j.1.e f.v.e) λs=>bif (q==15)then s 3 f.v.e else s 2 f.g.e
def Qd4(N:Nat)(e:Wp)(f g:Int):Option (Wp×Int):=bnd (QeD N e f g) λh=>bif (h.2 != 0)then some ((Wp.mk [] [] []),h.2)else grd (e.S.length*24<=140737488355328) <| bnd (Xe e.S f) λj=>some ((Wp.mk (e.S.set f.toNat (UB.mk g 0 false)) e.x e.i),0)
def QgR(N:Nat)(f:Wu)(g:Int)(h:W5):Option Wu:=grd (f.e.length*24<=140737488355328) <| bnd (Xe f.e g) λj=>some (Wu.mk (f.e.set g.toNat h))
def QcQ(N:Nat)(e:Wu)(f g:Int):Option (Wu×Int):=bnd (Qd3 N e f g) λh=>bif (h.2 != 0)then some ((Wu.mk []),h.2)else bnd (QgR N e f (W5.mk g 0 false)) λj=>some (j,0)
def Qd5(N:Nat)(e:W3)(j p:Int):Option (W3×Int×Int):=bif (p==0)then(bnd (Qaa N 5) λq=>some (q.1,q.2.1,q.2.2))else bnd (Qar N e p) λu=>bif (u.2 != 0)then(bnd (Qaa N u.2) λr=>some (r.1,r.2.1,r.2.2))else bnd (QcO N p) λf=>jn (λ(_:Unit)=>bif (j==12)then(bnd (Qd4 N e.l f.1.Index f.1.J) λw=>some ((W3.mk e.h w.1 e.g e.v e.P e.R),0,0))else bif (j==14)then(bnd (QcQ N e.g f.1.Index f.1.J) λy=>some ((W3.mk e.h e.l y.1 e.v e.P e.R),0,0))else bnd (QcQ N e.v f.1.Index f.1.J) λz=>some ((W3.mk e.h e.l e.g z.1 e.P e.R),0,0)) λk=>jn (λ(_:Unit)=>bnd (Qaa N 4) λs=>some (s.1,s.2.1,s.2.2)) λo=>bif (j==12)then(bif (f.1.Tag != 1)then o ()else bif (j==14)then(bif (f.1.Tag != 2)then o ()else bif (j==16)then(bif (f.1.Tag != 3)then o ()else k ())else k ())else bif (j==16)then(bif (f.1.Tag != 3)then o ()else k ())else k ())else bif (j==14)then(bif (f.1.Tag != 2)then o ()else bif (j==16)then(bif (f.1.Tag != 3)then o ()else k ())else k ())else bif (j==16)then(bif (f.1.Tag != 3)then o ()else k ())else k ()
def Qgw(N:Nat)(e:Wp)(f:Int)(g:Bool):Option (Wp×Int):=bnd (Qco N e) λj=>bif (!j)then some ((Wp.mk [] [] []),1)else bif (decide (f<0))then some ((Wp.mk [] [] []),1)else bif (decide (f>64))then some ((Wp.mk [] [] []),1)else jn (λ(_:Unit)=>bif ((e.x.length:Int)==64)then some ((Wp.mk [] [] []),17)else grd (e.x.length*24<=140737488355328) <| grd ((e.x.length+1)*24<=140737488355328) <| some ((Wp.mk e.S (e.x++[(UM.mk (e.S.length:Int) f g)]) e.i),0)) λh=>bif (!g)then(bif ((e.x.length:Int)==0)then some ((Wp.mk [] [] []),9)else h ())else h ()
def Qew(N:Nat)(f:Wp)(g:Int):Option (Wp×Int):=bnd (Qgw N f g false) λe=>some (e.1,e.2)
def QgS(N:Nat)(e:Wp)(f:Int):Option Wp:=bnd (Xe e.x f) λg=>grd (0<=0/\0<=g.O/\g.O<=(e.S.length:Int)) <| grd ((min g.O.toNat e.S.length)*24<=140737488355328) <| grd (0<=0/\0<=f/\f<=(e.x.length:Int)) <| grd ((min f.toNat e.x.length)*24<=140737488355328) <| some (Wp.mk (e.S.take g.O.toNat) (e.x.take f.toNat) e.i)
def Qe8(N:Nat)(e:Wp):Option (Wp×Int):=bnd (Qco N e) λf=>bif (!f)then some ((Wp.mk [] [] []),1)else bif ((e.x.length:Int)==0)then some ((Wp.mk [] [] []),9)else bnd (Xe e.x (wI ((e.x.length:Int)-1))) λg=>bif g.B0 then some ((Wp.mk [] [] []),9)else bnd (QgS N e (wI ((e.x.length:Int)-1))) λh=>some (h,0)
def Qb0(N:Nat)(e:W3)(w f:Int):Option (W3×Int×Int):=bif (w==17)then(bif (decide (f>64))then(bnd (Qaa N 1) λj=>some (j.1,j.2.1,j.2.2))else bnd (Qew N e.l (wI f)) λk=>bif (k.2 != 0)then(bnd (Qaa N k.2) λo=>some (o.1,o.2.1,o.2.2))else some ((W3.mk e.h k.1 e.g e.v e.P e.R),0,0))else bnd (Qar N e f) λp=>bif (p.2 != 0)then(bnd (Qaa N p.2) λq=>some (q.1,q.2.1,q.2.2))else bnd (Qe8 N e.l) λr=>bif (r.2 != 0)then(bnd (Qaa N r.2) λs=>some (s.1,s.2.1,s.2.2))else bnd (Qbh N (W3.mk e.h r.1 e.g e.v e.P e.R) p.1) λu=>some (u.1,u.2.1,u.2.2)
def Qb7(N:Nat)(e:Wk)(h j:Int):Option Wk:=grd (e.p.length*32<=140737488355328) <| bnd (QfI N e h) λf=>bnd (Xe e.p f) λo=>bnd (Xe e.p f) λg=>some (Wk.mk e.c e.w (e.p.set f.toNat (Ws.mk g.k g.s g.u (wI (o.P+j)))) e.s e.b)
def Qdz(N:Nat)(k:Wk)(f:List UE)(j:Int):Option (Wk×List UE×Int):=bnd (Qcn N k f) λo=>bif (!o)then some (zHp,[],19)else bif (j==0)then some (zHp,[],5)else bnd (QgN N f j) λe=>bif (decide (e<0))then some (zHp,[],12)else grd (f.length*16<=140737488355328) <| bnd (Xe f e) λg=>bnd (Xe f e) λh=>bnd (Xe (f.set e.toNat (UE.mk h.a (wI (g.M-1)))) e) λp=>bif (p.M==0)then(grd (0<=0/\0<=e/\e<=(f.length:Int)) <| grd (0<=(wI (e+1))/\(wI (e+1))<=(f.length:Int)/\(f.length:Int)<=(f.length:Int)) <| grd (e.toNat≠f.length/\(e.toNat+(f.length-(wI (e+1)).toNat))<=f.length) <| bnd (Qb7 N k j (-1)) λq=>some (q,(((((f.set e.toNat (UE.mk h.a (wI (g.M-1)))).take e.toNat)++(((f.set e.toNat (UE.mk h.a (wI (g.M-1)))).drop (wI (e+1)).toNat).take (f.length-(wI (e+1)).toNat)))++((f.set e.toNat (UE.mk h.a (wI (g.M-1)))).drop (e.toNat+(f.length-(wI (e+1)).toNat)))).take (e.toNat+(f.length-(wI (e+1)).toNat))),0))else bnd (Qb7 N k j (-1)) λr=>some (r,(f.set e.toNat (UE.mk h.a (wI (g.M-1)))),0)
def QdK(N:Nat)(e:Wk)(f:Int):Option Bool:=bnd (Qap N e) λg=>bnd (Qc3 N g.1 f) λh=>some h
def Qby(N:Nat)(e:Wk)(h:Int):Nat->Int->Int->Option Int
 |0,_,_=>none
 |n+1,g,f=>
  bif (decide (f<(e.p.length:Int)))then(bnd (Xe e.p f) λj=>
   bif (j.k==1)then(bnd (Xe e.p f) λo=>
    bif (decide (o.P>0))then Qby N e h n (wI (g+1)) (wI (f+1))
    else Qby N e h n g (wI (f+1)))
   else Qby N e h n g (wI (f+1)))
  else some g
def Qc0(N:Nat)(e:Wk)(f:Int):Option Bool:=bnd (Qbe N e) λh=>bif (!h)then some false else bnd (QdK N e f) λj=>bif (!j)then some false else bnd (Qby N e f N 0 0) λo=>bnd (QfI N e f) λq=>bnd (Xe e.p q) λg=>bif (g.k==1)then(bif (g.P==0)then some (decide (o>=(wI (e.c.p.tdiv 4))))else some false)else some false
def QfE(N:Nat)(h:Wk)(e:List UE)(f:Int):Option (Wk×List UE×Int×Int):=bnd (Qcn N h e) λr=>bif (!r)then some (zHp,[],0,19)else bif (f==0)then some (zHp,[],0,5)else bnd (QdK N h f) λs=>bif (!s)then some (zHp,[],0,1)else bnd (QgN N e f) λg=>jn (λ(_:Unit)=>grd (e.length*16<=140737488355328) <| jn (λ(k:List UE)=>bnd (Qb7 N h f 1) λo=>some (o,k,(wU (f+1)),0)) λq=>bif (decide (g>=0))then(bnd (Xe e g) λu=>bnd (Xe e g) λp=>q (e.set g.toNat (UE.mk p.a (wI (u.M+1)))))else grd ((e.length+1)*16<=140737488355328) <| q (e++[(UE.mk f 1)])) λj=>bif (decide (g>=0))then(bnd (Xe e g) λv=>bif (v.M==1000)then some (zHp,[],0,18)else bif (decide (g<0))then(bif ((e.length:Int)==64)then some (zHp,[],0,18)else bnd (Qc0 N h f) λw=>bif w then some (zHp,[],0,18)else j ())else bnd (Qc0 N h f) λy=>bif y then some (zHp,[],0,18)else j ())else bif (decide (g<0))then(bif ((e.length:Int)==64)then some (zHp,[],0,18)else bnd (Qc0 N h f) λz=>bif z then some (zHp,[],0,18)else j ())else bnd (Qc0 N h f) λA=>bif A then some (zHp,[],0,18)else j ()
def Qe9(N:Nat)(e:W3)(r s:Int):Option (W3×Int×Int):=bnd (Qbv N e s) λj=>bif (j.2 != 0)then(bnd (Qaa N j.2) λo=>some (o.1,o.2.1,o.2.2))else bif (r==20)then(bnd (Qdz N e.h e.P j.1) λk=>bif (k.2.2 != 0)then(bnd (Qaa N k.2.2) λp=>some (p.1,p.2.1,p.2.2))else some ((W3.mk k.1 e.l e.g e.v k.2.1 e.R),0,0))else bnd (QfE N e.h e.P j.1) λf=>bif (f.2.2.2 != 0)then(bnd (Qaa N f.2.2.2) λq=>some (q.1,q.2.1,q.2.2))else some ((W3.mk f.1 e.l e.g e.v f.2.1 e.R),f.2.2.1,0)
def Qac(N:Nat)(f:W3)(e g w Y:Int):Option (W3×Int×Int):=bnd (Qa5 N f) λZ=>bif (!Z)then(bnd (Qaa N 19) λy=>some (y.1,y.2.1,y.2.2))else jn (λ(x4:Bool)=>bif x4 then(bnd (Qci N f e g w) λz=>some (z.1,z.2.1,z.2.2))else jn (λ(x8:Bool)=>bif x8 then(bnd (Qbx N f e g w Y) λA=>some (A.1,A.2.1,A.2.2))else jn (λ(B:Bool)=>bif B then(bnd (QcP N f e g w) λh=>some (h.1,h.2.1,h.2.2))else jn (λ(D:Bool)=>bif D then(bnd (Qdy N f e g) λj=>some (j.1,j.2.1,j.2.2))else jn (λ(E:Bool)=>bif E then(bnd (Qd5 N f e g) λk=>some (k.1,k.2.1,k.2.2))else jn (λ(G:Bool)=>bif G then(bnd (Qb0 N f e g) λo=>some (o.1,o.2.1,o.2.2))else jn (λ(H:Bool)=>bif H then(bnd (Qe9 N f e g) λp=>some (p.1,p.2.1,p.2.2))else bnd (Qaa N 1) λq=>some (q.1,q.2.1,q.2.2)) λr=>bif (e==19)then r true else r (e==20)) λs=>bif (e==17)then s true else s (e==18)) λu=>bif (e==12)then u true else jn (λ(I:Bool)=>u I) λv=>bif (e==14)then v true else v (e==16)) λL=>bif (e==13)then L true else L (e==15)) λM=>bif (e==4)then M true else jn (λ(J:Bool)=>M J) λO=>bif (e==5)then O true else jn (λ(K:Bool)=>O K) λR=>bif (e==10)then R true else R (e==11)) λS=>bif (e==6)then S true else jn (λ(x7:Bool)=>S x7) λT=>bif (e==7)then T true else jn (λ(x6:Bool)=>T x6) λU=>bif (e==8)then U true else U (e==9)) λV=>bif (e==1)then V true else jn (λ(x3:Bool)=>V x3) λW=>bif (e==2)then W true else W (e==3)
def QeX(N:Nat)(p q:W3)(k r e:Int):Option Oy:=jn (λ(f:Bool)=>jn (λ(g:Bool)=>bif (k==19)then(bif (e==0)then some (Oy.mk f g r)else some (Oy.mk f g 0))else some (Oy.mk f g 0)) λo=>bif (e==0)then o (p.h.s != q.h.s)else o false) λj=>bif (e==3)then j true else bif (e==18)then j (k==19)else j false
def Qdd(N:Nat)(f:Wp)(e:Int):Option Int:=bif (e==0)then some 0 else bnd (Qd2 N f e) λg=>some g.2.2.2
def QfX(N:Nat)(e:WM)(h j k:Int)(o:Bool):Option Int:=bif (decide ((e.m.length:Int)>0))then some 15 else bnd (Qcs N h j k) λf=>bif (!f.2)then some 1 else bnd (Qcv N e.c f.1) λp=>bif (!p)then some 1 else bnd (Qdd N e.l 1) λg=>bif (g != 0)then some g else bif o then some 3 else some 0
def QaM(N:Nat)(f:WM)(h:Int):Option (Int×Int):=bnd (QeA N f) λp=>bif (!p)then some (0,19)else bif (h==0)then some (0,0)else bnd (QcO N h) λe=>bif (e.2 != 0)then some (0,e.2)else bif (e.1.Tag==1)then(bnd (QeD N f.l e.1.Index e.1.J) λj=>some (j.1,j.2))else bif (e.1.Tag==2)then(bnd (Qd3 N f.g e.1.Index e.1.J) λk=>some (k.1,k.2))else bnd (Qd3 N f.v e.1.Index e.1.J) λo=>some (o.1,o.2)
def QeE(N:Nat)(f:WM)(g:Int):Option (Int×Int):=bnd (QaM N f g) λe=>bif (e.2==0)then(bif (e.1==0)then some (0,5)else some (e.1,e.2))else some (e.1,e.2)
def Qgl(N:Nat)(e:WM)(f o h p:Int):Option Int:=bnd (QeE N e o) λg=>bif (g.2 != 0)then some g.2 else bnd (Xe e.T (wU (g.1-1))) λj=>bif (decide (h>=(wU j.H.n)))then some 2 else jn (λ(q:Bool)=>bnd (Qcm N j.H (wI h)) λr=>bif (!(r==q))then some 4 else bif (f==8)then(bnd (Xe j.D h) λs=>bnd (Qdd N e.l s) λu=>some u)else bif (f==9)then(bnd (QaM N e p) λv=>some v.2)else some g.2) λk=>bif (f==8)then k true else k (f==9)
def QfY(N:Nat)(k:WM)(f e:Int):Option Int:=bif (e==0)then some 5 else bnd (QaM N k e) λg=>bif (g.2 != 0)then some g.2 else bnd (QcO N e) λh=>jn (λ(o:Int)=>bif (f==16)then(bif (h.1.Tag != 3)then some 4 else some 0)else bif (h.1.Tag != o)then some 4 else some 0) λj=>bif (f==14)then j 2 else j 1
def QgF(N:Nat)(f:WM)(k o:Int):Option Int:=bnd (QeE N f o) λh=>bif (h.2 != 0)then some h.2 else jn (λ(p:List W5)=>bnd (Qc7 N (Wu.mk p) h.1) λq=>some q.2.2.2) λj=>bif (k==15)then j f.v.e else j f.g.e
def Qgm(N:Nat)(e:WM)(j f:Int):Option Int:=bif (j==17)then(bif (decide (f>64))then some 1 else bnd (Qew N e.l (wI f)) λk=>some k.2)else bnd (QaM N e f) λg=>bif (g.2 != 0)then some g.2 else bnd (Qe8 N e.l) λh=>bif (h.2 != 0)then some h.2 else bnd (Qdd N h.1 g.1) λo=>some o
def Qg3(N:Nat)(e:WM)(j k:Int)(g:Bool):Option Int:=bnd (QeE N e k) λh=>bif (h.2 != 0)then some h.2 else bnd (QfK N e h.1) λf=>bif (j==20)then(bif (decide (f<0))then some 12 else some 0)else bif (decide (f>=0))then(bnd (Xe e.m f) λo=>bif (o.M==1000)then some 18 else bif (decide (f<0))then(bif ((e.m.length:Int)==64)then some 18 else bif g then some 18 else some 0)else bif g then some 18 else some 0)else bif (decide (f<0))then(bif ((e.m.length:Int)==64)then some 18 else bif g then some 18 else some 0)else bif g then some 18 else some 0
def QgG(N:Nat)(e:WM)(f h k:Int):Option Int:=jn (λ(_:Unit)=>bnd (QeE N e h) λo=>some o.2) λj=>bif (f==4)then j ()else bif (f==5)then j ()else bnd (QaM N e h) λg=>bif (g.2 != 0)then some g.2 else bif (f==10)then(bnd (QaM N e k) λp=>some p.2)else bnd (Qdd N e.l g.1) λq=>some q
def QfZ(N:Nat)(f:WM)(e g p T:Int)(G:Bool):Option Int:=bnd (QeA N f) λU=>bif (!U)then some 19 else jn (λ(V:Bool)=>bif V then(bnd (QfX N f e g p G) λW=>some W)else jn (λ(Y:Bool)=>bif Y then(bnd (Qgl N f e g p T) λZ=>some Z)else jn (λ(q:Bool)=>bif q then(bnd (QfY N f e g) λr=>some r)else jn (λ(s:Bool)=>bif s then(bnd (QgF N f e g) λu=>some u)else jn (λ(v:Bool)=>bif v then(bnd (Qgm N f e g) λw=>some w)else jn (λ(y:Bool)=>bif y then(bnd (Qg3 N f e g G) λz=>some z)else jn (λ(A:Bool)=>bif A then(bnd (QgG N f e g p) λB=>some B)else some 1) λh=>bif (e==4)then h true else jn (λ(D:Bool)=>h D) λj=>bif (e==5)then j true else jn (λ(E:Bool)=>j E) λk=>bif (e==10)then k true else k (e==11)) λo=>bif (e==19)then o true else o (e==20)) λH=>bif (e==17)then H true else H (e==18)) λI=>bif (e==13)then I true else I (e==15)) λJ=>bif (e==12)then J true else jn (λ(x9:Bool)=>J x9) λK=>bif (e==14)then K true else K (e==16)) λL=>bif (e==6)then L true else jn (λ(x6:Bool)=>L x6) λM=>bif (e==7)then M true else jn (λ(x5:Bool)=>M x5) λO=>bif (e==8)then O true else O (e==9)) λR=>bif (e==1)then R true else jn (λ(x2:Bool)=>R x2) λS=>bif (e==2)then S true else S (e==3)
def Qde(N:Nat)(e:WM)(h:Int):Option (WM×Int):=bif (h==0)then some (e,0)else bnd (Qd2 N e.l h) λf=>bnd (Qa3 N (UR.mk 1 f.2.1 f.2.2.1)) λj=>some ((WM.mk e.c e.T f.1 e.g e.v e.m e.R),j.1)
def QfF(N:Nat)(e:WM)(h j k:Int):Option WM:=grd (e.T.length*48<=140737488355328) <| bnd (Xe e.T (wU (h-1))) λf=>grd (f.D.length*8<=140737488355328) <| bnd (Xe f.D j) λo=>bnd (Xe e.T (wU (h-1))) λp=>some (WM.mk e.c (e.T.set (wU (h-1)).toNat (Ii.mk f.H (f.D.set j.toNat k))) e.l e.g e.v e.m e.R)
def QeY(N:Nat)(f:WM)(p k:Int):Option (WM×Int):=jn (λ(q r:List W5) (s u w:Int)=>bnd (Qa3 N (UR.mk s u w)) λy=>some ((WM.mk f.c f.T f.l (Wu.mk q) (Wu.mk r) f.m f.R),y.1)) λo=>bif (p==15)then(bnd (Qc7 N f.v k) λh=>o f.g.e h.1.e 3 h.2.1 h.2.2.1)else bnd (Qc7 N f.g k) λj=>o j.1.e f.v.e 2 j.2.1 j.2.2.1
def Qfx(N:Nat)(e:WM)(h:Int):Option WM:=bnd (QcO N h) λf=>bif (f.1.Tag==1)then(bnd (Qd4 N e.l f.1.Index f.1.J) λj=>some (WM.mk e.c e.T j.1 e.g e.v e.m e.R))else bif (f.1.Tag==2)then(bnd (QcQ N e.g f.1.Index f.1.J) λk=>some (WM.mk e.c e.T e.l k.1 e.v e.m e.R))else bnd (QcQ N e.v f.1.Index f.1.J) λo=>some (WM.mk e.c e.T e.l e.g o.1 e.m e.R)
def Qg4(N:Nat)(e:WM)(f:Int):Option Int:=bnd (QfK N e f) λg=>some g
def QfL(N:Nat)(e:WM)(r o p:Int):Option (WM×Int):=bnd (Qg4 N e o) λf=>grd (e.m.length*24<=140737488355328) <| bif (r==20)then(bnd (Xe e.m f) λj=>bnd (Xe e.m f) λh=>bnd (Xe (e.m.set f.toNat (Ix.mk h.I (wI (j.M-1)) h.B0)) f) λs=>bif (s.M==0)then(grd (0<=0/\0<=f/\f<=(e.m.length:Int)) <| grd (0<=(wI (f+1))/\(wI (f+1))<=(e.m.length:Int)/\(e.m.length:Int)<=(e.m.length:Int)) <| grd (f.toNat≠e.m.length/\(f.toNat+(e.m.length-(wI (f+1)).toNat))<=e.m.length) <| some ((WM.mk e.c e.T e.l e.g e.v (((((e.m.set f.toNat (Ix.mk h.I (wI (j.M-1)) h.B0)).take f.toNat)++(((e.m.set f.toNat (Ix.mk h.I (wI (j.M-1)) h.B0)).drop (wI (f+1)).toNat).take (e.m.length-(wI (f+1)).toNat)))++((e.m.set f.toNat (Ix.mk h.I (wI (j.M-1)) h.B0)).drop (f.toNat+(e.m.length-(wI (f+1)).toNat)))).take (f.toNat+(e.m.length-(wI (f+1)).toNat))) e.R),0))else some ((WM.mk e.c e.T e.l e.g e.v (e.m.set f.toNat (Ix.mk h.I (wI (j.M-1)) h.B0)) e.R),0))else bif (decide (f>=0))then(bnd (Xe e.m f) λq=>bnd (Xe e.m f) λk=>bnd (Xe (e.m.set f.toNat (Ix.mk k.I (wI (q.M+1)) k.B0)) f) λu=>some ((WM.mk e.c e.T e.l e.g e.v (e.m.set f.toNat (Ix.mk k.I (wI (q.M+1)) k.B0)) e.R),u.B0))else grd ((e.m.length+1)*24<=140737488355328) <| some ((WM.mk e.c e.T e.l e.g e.v (e.m++[(Ix.mk o 1 p)]) e.R),p)
def QfM(N:Nat)(f:WM)(h s r G:Int)(I:Oy):Option (WM×Int×Int):=bnd (QfZ N f h s r G I.Failed) λy1=>bif (y1 != 0)then some (zWd,0,y1)else jn (λ(j:Int)=>jn (λ(x5:Bool)=>bif x5 then(jn (λ(x7 x8:Int) (u:List Ii) (J:List UB) (K:List UM) (L:List Int) (M O:List W5) (U:List Ix) (V:List Int)=>bnd (Qcs N h s r) λq=>grd (u.length*48<=140737488355328) <| grd (0<=q.1.n/\q.1.n.toNat*8<=140737488355328) <| grd ((u.length+1)*48<=140737488355328) <| grd ((u.length+1)<=140737488355328) <| bnd (Qde N (WM.mk (WN.mk x7 x8) (u++[(Ii.mk q.1 (List.replicate q.1.n.toNat (0:Int)))]) (Wp.mk J K L) (Wu.mk M) (Wu.mk O) U V) (wU (((u.length+1):Nat):Int))) λw=>some (w.1,w.2,0)) λj4=>bif I.Collected then(bnd (Qdx N f) λo=>j4 o.1.c.W o.1.c.p o.1.T o.1.l.S o.1.l.x o.1.l.i o.1.g.e o.1.v.e o.1.m o.1.R)else j4 f.c.W f.c.p f.T f.l.S f.l.x f.l.i f.g.e f.v.e f.m f.R)else bif (h==4)then(bnd (Xe f.T (wU (j-1))) λY=>some (f,(wU Y.H.n),0))else bif (h==5)then(bnd (Xe f.T (wU (j-1))) λZ=>some (f,(wU Z.H.k),0))else bif (h==6)then(bnd (Xe f.T (wU (j-1))) λp21=>bnd (Xe p21.D r) λp22=>some (f,p22,0))else bif (h==7)then(bnd (QfF N f j (wI r) G) λy23=>some (y23,0,0))else bif (h==8)then(bnd (Xe f.T (wU (j-1))) λp24=>bnd (Xe p24.D r) λp25=>bnd (Qde N f p25) λy=>some (y.1,y.2,0))else bif (h==9)then(bnd (QaM N f G) λy27=>bnd (QfF N f j (wI r) y27.1) λy28=>some (y28,0,0))else bif (h==10)then(bnd (QaM N f r) λy29=>bif (j==y29.1)then some (f,1,0)else some (f,0,0))else bif (h==11)then(bnd (Qde N f j) λz=>some (z.1,z.2,0))else jn (λ(x31:Bool)=>bif x31 then(bnd (QeY N f h j) λA=>some (A.1,A.2,0))else jn (λ(x34:Bool)=>bif x34 then(bnd (Qfx N f s) λy35=>some (y35,0,0))else bif (h==17)then(bnd (Qew N f.l (wI s)) λy36=>some ((WM.mk f.c f.T y36.1 f.g f.v f.m f.R),0,0))else bif (h==18)then(bnd (Qe8 N f.l) λy37=>bnd (Qde N (WM.mk f.c f.T y37.1 f.g f.v f.m f.R) j) λB=>some (B.1,B.2,0))else bnd (QfL N f h j I.B0) λE=>some (E.1,E.2,0)) λj7=>bif (h==12)then j7 true else jn (λ(x33:Bool)=>j7 x33) λj6=>bif (h==14)then j6 true else j6 (h==16)) λj5=>bif (h==13)then j5 true else j5 (h==15)) λj3=>bif (h==1)then j3 true else jn (λ(x4:Bool)=>j3 x4) λj2=>bif (h==2)then j2 true else j2 (h==3)) λj1=>bif (decide (h>3))then(bif (h != 17)then(bnd (QaM N f s) λy2=>j1 y2.1)else j1 0)else j1 0
def Qb1(N:Nat)(f:Io)(q:Ot):Option (Io×Int×Int):=bif (q.Op==0)then(bnd (QbG N f.N) λo=>jn (λ(x3 x4:Int) (x5:List Int) (x6:List Ws) (x7 x8:Int) (x9:List UB) (M:List UM) (O:List Int) (U V:List W5) (Y:List UE) (Z:List Int) (x16 x17:Int) (x18:List Ii) (x19:List UB) (x20:List UM) (x21:List Int) (x22 x23:List W5) (x24:List Ix) (x25:List Int)=>some ((Io.mk (W3.mk (Wk.mk (WN.mk x3 x4) x5 x6 x7 x8) (Wp.mk x9 M O) (Wu.mk U) (Wu.mk V) Y Z) (WM.mk (WN.mk x16 x17) x18 (Wp.mk x19 x20 x21) (Wu.mk x22) (Wu.mk x23) x24 x25) f.w),0,0)) λj1=>bif (o.2.2==0)then(bnd (Qdx N f.z) λr=>j1 o.1.h.c.W o.1.h.c.p o.1.h.w o.1.h.p o.1.h.s o.1.h.b o.1.l.S o.1.l.x o.1.l.i o.1.g.e o.1.v.e o.1.P o.1.R r.1.c.W r.1.c.p r.1.T r.1.l.S r.1.l.x r.1.l.i r.1.g.e r.1.v.e r.1.m r.1.R)else j1 f.N.h.c.W f.N.h.c.p f.N.h.w f.N.h.p f.N.h.s f.N.h.b f.N.l.S f.N.l.x f.N.l.i f.N.g.e f.N.v.e f.N.P f.N.R f.z.c.W f.z.c.p f.z.T f.z.l.S f.z.l.x f.z.l.i f.z.g.e f.z.v.e f.z.m f.z.R)else bnd (Qac N f.N q.Op q.A q.B q.C) λj=>bnd (QeX N f.N j.1 q.Op j.2.1 j.2.2) λy27=>bnd (QfM N f.z q.Op q.A q.B q.C y27) λk=>jn (λ(u y:Int) (D:List Ii) (E:List UB) (G:List UM) (H:List Int) (I J:List W5) (K:List Ix) (L:List Int)=>bif (j.2.2==0)then(bif (j.2.1 != 0)then(grd (f.w.length*8<=140737488355328) <| grd ((f.w.length+1)*8<=140737488355328) <| some ((Io.mk j.1 (WM.mk (WN.mk u y) D (Wp.mk E G H) (Wu.mk I) (Wu.mk J) K L) (f.w++[j.2.1])),j.2.1,j.2.2))else some ((Io.mk j.1 (WM.mk (WN.mk u y) D (Wp.mk E G H) (Wu.mk I) (Wu.mk J) K L) f.w),j.2.1,j.2.2))else some ((Io.mk f.N (WM.mk (WN.mk u y) D (Wp.mk E G H) (Wu.mk I) (Wu.mk J) K L) f.w),j.2.1,j.2.2)) λj2=>bif (k.2.2==0)then j2 k.1.c.W k.1.c.p k.1.T k.1.l.S k.1.l.x k.1.l.i k.1.g.e k.1.v.e k.1.m k.1.R else j2 f.z.c.W f.z.c.p f.z.T f.z.l.S f.z.l.x f.z.l.i f.z.g.e f.z.v.e f.z.m f.z.R
def Qgn(N:Nat)(J:Int):Nat->Int->(List Int)->Int->Int->Int->(List Int)->(List Ws)->Int->Int->(List UB)->(List UM)->(List Int)->(List W5)->(List W5)->(List UE)->(List Int)->Int->Int->(List Ii)->(List UB)->(List UM)->(List Int)->(List W5)->(List W5)->(List Ix)->(List Int)->(List Int)->Option (Int×Int×List Int×List Ws×Int×Int×List UB×List UM×List Int×List W5×List W5×List UE×List Int×Int×Int×List Ii×List UB×List UM×List Int×List W5×List W5×List Ix×List Int×List Int)
 |0,_,_,_,_,_,_,_,_,_,_,_,_,_,_,_,_,_,_,_,_,_,_,_,_,_,_,_=>none
 |n+1,K,M,O,H,v6,v7,v8,v9,v10,v11,j,v13,k,v15,o,v17,v18,v19,v20,q,r,u,y,A,B,D,E=>
  bif (decide (K<J))then(bnd (Qgs N (Iw.mk M O)) λI=>
   bif (!I)then(bnd (Qc2 N (Io.mk (W3.mk (Wk.mk (WN.mk H v6) v7 v8 v9 v10) (Wp.mk v11 j v13) (Wu.mk k) (Wu.mk v15) o v17) (WM.mk (WN.mk v18 v19) v20 (Wp.mk q r u) (Wu.mk y) (Wu.mk A) B D) E) (Iw.mk M O)) λG=>
    bnd (Qb1 N (Io.mk (W3.mk (Wk.mk (WN.mk H v6) v7 v8 v9 v10) (Wp.mk v11 j v13) (Wu.mk k) (Wu.mk v15) o v17) (WM.mk (WN.mk v18 v19) v20 (Wp.mk q r u) (Wu.mk y) (Wu.mk A) B D) E) G.1) λf=>
    Qgn N J n (wI (K+1)) G.2.L G.2.at_ f.1.N.h.c.W f.1.N.h.c.p f.1.N.h.w f.1.N.h.p f.1.N.h.s f.1.N.h.b f.1.N.l.S f.1.N.l.x f.1.N.l.i f.1.N.g.e f.1.N.v.e f.1.N.P f.1.N.R f.1.z.c.W f.1.z.c.p f.1.z.T f.1.z.l.S f.1.z.l.x f.1.z.l.i f.1.z.g.e f.1.z.v.e f.1.z.m f.1.z.R f.1.w)
   else some (H,v6,v7,v8,v9,v10,v11,j,v13,k,v15,o,v17,v18,v19,v20,q,r,u,y,A,B,D,E))
  else some (H,v6,v7,v8,v9,v10,v11,j,v13,k,v15,o,v17,v18,v19,v20,q,r,u,y,A,B,D,E)
def Qhk(N:Nat)(k:List Int)(o:Int):Option Io:=bnd (Qbq N (Iw.mk k 0)) λj=>bnd (Qgn N o N 0 j.2.L j.2.at_ j.1.N.h.c.W j.1.N.h.c.p j.1.N.h.w j.1.N.h.p j.1.N.h.s j.1.N.h.b j.1.N.l.S j.1.N.l.x j.1.N.l.i j.1.N.g.e j.1.N.v.e j.1.N.P j.1.N.R j.1.z.c.W j.1.z.c.p j.1.z.T j.1.z.l.S j.1.z.l.x j.1.z.l.i j.1.z.g.e j.1.z.v.e j.1.z.m j.1.z.R j.1.w) λf=>some (Io.mk (W3.mk (Wk.mk (WN.mk f.1 f.2.1) f.2.2.1 f.2.2.2.1 f.2.2.2.2.1 f.2.2.2.2.2.1) (Wp.mk f.2.2.2.2.2.2.1 f.2.2.2.2.2.2.2.1 f.2.2.2.2.2.2.2.2.1) (Wu.mk f.2.2.2.2.2.2.2.2.2.1) (Wu.mk f.2.2.2.2.2.2.2.2.2.2.1) f.2.2.2.2.2.2.2.2.2.2.2.1 f.2.2.2.2.2.2.2.2.2.2.2.2.1) (WM.mk (WN.mk f.2.2.2.2.2.2.2.2.2.2.2.2.2.1 f.2.2.2.2.2.2.2.2.2.2.2.2.2.2.1) f.2.2.2.2.2.2.2.2.2.2.2.2.2.2.2.1 (Wp.mk f.2.2.2.2.2.2.2.2.2.2.2.2.2.2.2.2.1 f.2.2.2.2.2.2.2.2.2.2.2.2.2.2.2.2.2.1 f.2.2.2.2.2.2.2.2.2.2.2.2.2.2.2.2.2.2.1) (Wu.mk f.2.2.2.2.2.2.2.2.2.2.2.2.2.2.2.2.2.2.2.1) (Wu.mk f.2.2.2.2.2.2.2.2.2.2.2.2.2.2.2.2.2.2.2.2.1) f.2.2.2.2.2.2.2.2.2.2.2.2.2.2.2.2.2.2.2.2.2.1 f.2.2.2.2.2.2.2.2.2.2.2.2.2.2.2.2.2.2.2.2.2.2.1) f.2.2.2.2.2.2.2.2.2.2.2.2.2.2.2.2.2.2.2.2.2.2.2)
def Qcw(N:Nat)(e:WN):Option Bool:=bif (decide (e.W>=16))then(bif (decide (e.W<=64))then(bif ((e.W.tmod 4)==0)then(bif (decide (e.p>=8))then some (decide (e.p<=64))else some false)else some false)else some false)else some false
def Qfa(N:Nat)(e:WN):Option Int:=bnd (Qcw N e) λf=>bif (!f)then some 0 else some (wI (e.W.tdiv 4))
def Qfb(N:Nat)(e:WN)(f:Int):Option Int:=bnd (Qcw N e) λg=>bif (!g)then some (-1)else bif (decide (f<1))then some (-1)else bif (decide (f>(wI (4*e.W))))then some (-1)else bnd (Qfa N e) λh=>bif (decide (f<=h))then some 0 else grd (e.W≠0) <| some (wI ((wI ((wI (f+e.W))-1)).tdiv e.W))
def Qgg(N:Nat)(e:Ws)(f:WN):Option Bool:=some ((e.k==0)&&((e.s==0)&&((e.u==0)&&(e.P==0))))
def Qcd(N:Nat)(e:Ws):Option Bool:=bif (e.s==0)then some true else some (e.s==1)
def Qdq(N:Nat)(e:Ws):Option Bool:=bif (decide (e.P>=0))then some (decide (e.P<=2147483647))else some false
def QdL(N:Nat)(e:Ws)(f:WN):Option Bool:=bnd (Qcd N e) λg=>bif g then(bnd (Qdq N e) λh=>bif h then(bif (decide (e.u>=0))then some (decide (e.u<=f.W))else some false)else some false)else some false
def QdM(N:Nat)(e:Ws)(f:WN):Option Bool:=bnd (Qcd N e) λg=>bif g then(bnd (Qdq N e) λh=>bif h then(bnd (Qfb N f e.u) λj=>some (decide (j>=1)))else some false)else some false
def Qfr(N:Nat)(e f:Ws):Option Bool:=some ((e.k==3)&&((e.s==f.s)&&((e.u==0)&&(e.P==0))))
def Qfy(N:Nat)(g:List Ws)(e:Int)(f:Ws)(j h:Int):Nat->Int->Option (Ex Int Unit)
 |0,_=>none
 |n+1,v7=>
  bif (decide (v7<(((min ((wI (e+h)).toNat-(wI (e+1)).toNat) (g.length-(wI (e+1)).toNat)):Nat):Int)))then(bnd (Xe ((g.drop (wI (e+1)).toNat).take ((wI (e+h)).toNat-(wI (e+1)).toNat)) v7) λk=>
   bnd (Qfr N k (Ws.mk j f.s f.u f.P)) λo=>
   bif (!o)then some (.ret 0)
   else Qfy N g e f j h n (wI (v7+1)))
  else some (.nxt ())
def QgT(N:Nat)(j:WN)(o:List Ws)(g:Int):Option Int:=bnd (Xe o g) λf=>jn (λ(q:Int)=>bif (q != 2)then some 1 else bnd (Qfb N j f.u) λh=>bif (decide (h>(wI ((o.length:Int)-g))))then some 0 else grd (0<=(wI (g+1))/\(wI (g+1))<=(wI (g+h))/\(wI (g+h))<=(o.length:Int)) <| bnd (Qfy N o g f q h N 0) λe=>exK e (λr=>some r) λv=>some h) λp=>bif (decide (f.k<0))then some 0 else bif (decide (f.k>=3))then some 0 else bif (f.k==0)then(bnd (Qgg N (Ws.mk 0 f.s f.u f.P) j) λw=>bif (!w)then some 0 else p 0)else bif (f.k==1)then(bnd (QdL N (Ws.mk 1 f.s f.u f.P) j) λy=>bif (!y)then some 0 else p 1)else bif (f.k==2)then(bnd (QdM N (Ws.mk 2 f.s f.u f.P) j) λz=>bif (!z)then some 0 else p 2)else none
def Qaf(N:Nat)(e:Wk):Nat->Int->Option (Ex Bool Unit)
 |0,_=>none
 |n+1,f=>
  bif (decide (f<(e.p.length:Int)))then(bnd (QgT N e.c e.p f) λg=>
   bif (g==0)then some (.ret false)
   else Qaf N e n (wI (f+g)))
  else some (.nxt ())
def QbQ(N:Nat)(f:Wk):Option Bool:=jn (λ(_:Unit)=>jn (λ(_:Unit)=>bnd (Qaf N f N 0) λe=>exK e (λr=>some r) λq=>some true) λg=>bif (f.b != (-1))then(bif (decide (f.b<0))then some false else bif (decide (f.b>=(f.p.length:Int)))then some false else bnd (Xe f.p f.b) λj=>bif (j.k != 1)then some false else g ())else g ()) λh=>bnd (Qcw N f.c) λo=>bif (!o)then some false else bif ((f.w.length:Int) != (wI (f.c.W*f.c.p)))then some false else bif ((f.p.length:Int) != f.c.p)then some false else bif (f.s != 0)then(bif (f.s != 1)then some false else h ())else h ()
def Qdr(N:Nat)(e:List UT):Nat->Int->(List Int)->Option (List Int)
 |0,_,_=>none
 |n+1,f,g=>
  bif (decide (f<(e.length:Int)))then(bnd (Xe e f) λh=>
   grd ((g.length+1)*8<=140737488355328) <|
   Qdr N e n (wI (f+1)) (g++[h.addr]))
  else some g
def Qcx(N:Nat)(e:List UT):Option (List Int):=bnd (Qdr N e N 0 []) λf=>some f
def Qfz(N:Nat)(e:Int):Nat->Int->Int->Option Int
 |0,_,_=>none
 |n+1,f,g=>
  bif (decide (g<(if 64<(if e<0 then 0 else e)then 64 else(if e<0 then 0 else e))))then Qfz N e n (bOr .u64 (ZO .u64 f 1) 1) (wI (g+1))
  else some f
def Qa1(N:Nat)(e:Int):Option Int:=bnd (Qfz N e N 0 0) λf=>some f
def Qdl(N:Nat)(e:Wv):Option Bool:=bif (decide (e.k<0))then some false else bif (decide (e.k>3))then some false else bif (decide (e.n<0))then some false else bif (decide (e.n>255))then some false else bif (e.k==1)then(jn (λ(g:Bool)=>some g) λf=>bif (decide (e.n<=32))then(bnd (Qa1 N e.n) λh=>f (decide ((wU e.Map)<=h)))else f false)else some ((e.k==e.k)&&((e.n==e.n)&&(e.Map==0)))
def Qbz(N:Nat)(e:Wv):Option Int:=bnd (Qdl N e) λf=>bif (!f)then some 0 else some (wI (e.n+1))
def Qcy(N:Nat)(e:WN)(f:Int):Option (Int×Int×Int):=bnd (Qcw N e) λg=>bif (!g)then some (0,0,1)else bif (decide (f<4096))then some (0,0,2)else bif (decide ((wU (f-4096))>=(wU (wI (e.W*e.p)))))then some (0,0,2)else grd (e.W≠0) <| grd (e.W≠0) <| some ((wI ((wI (wU (f-4096))).tdiv e.W)),((wI (wU (f-4096))).tmod e.W),0)
def Qay(N:Nat)(j:Int)(e:List Int):Nat->Int->Int->Option (Ex (List Int×Int) Unit)
 |0,_,_=>none
 |n+1,h,f=>
  bif (decide (f<(e.length:Int)))then(bnd (Xe e f) λg=>
   bif (decide (g<1))then some (.ret ([],1))
   else bif (decide (g>h))then some (.ret ([],1))
   else Qay N j e n (wI (h-g)) (wI (f+1)))
  else some (.nxt ())
def Qaz(N:Nat)(e:List Int):Nat->Int->Int->(List Int)->Option (Int×List Int)
 |0,_,_,_=>none
 |n+1,f,v6,v7=>
  bif (decide (v6<(e.length:Int)))then(bnd (Xe e v6) λg=>
   bnd (Qa1 N g) λh=>
   grd ((v7.length+1)*8<=140737488355328) <|
   grd (0<=g) <|
   Qaz N e n (YO .u64 f g) (wI (v6+1)) (v7++[(Zc .u64 f h)]))
  else some (f,v7)
def Qdf(N:Nat)(g:Int)(h:List Int):Option (List Int×Int):=bnd (Qay N g h N 64 0) λe=>exK e (λr=>some r) λj=>bnd (Qaz N h N g 0 []) λf=>bif (f.1 != 0)then some ([],2)else some (f.2,0)
def Qeg(N:Nat)(j:Int):Option (Wv×Bool):=bnd (Qdf N j [2,2,12,32]) λe=>bif (e.2 != 0)then some ((Wv.mk 0 0 0),false)else bnd (Xe e.1 0) λk=>bif (k != 1)then some ((Wv.mk 0 0 0),false)else bnd (Xe e.1 1) λf=>bnd (Xe e.1 2) λg=>bnd (Xe e.1 3) λh=>bnd (Qdl N (Wv.mk (wI f) (wI g) (wW h))) λo=>bif (!o)then some ((Wv.mk 0 0 0),false)else some ((Wv.mk (wI f) (wI g) (wW h)),true)
def Qfk(N:Nat)(f:List Int)(e g:Int):Option (Int×Bool):=bif (decide (e<4096))then some (0,false)else bif (decide ((wU (e-4096))>(wU (f.length:Int))))then some (0,false)else some ((wI (wU (e-4096))),(decide (g<=(wI ((f.length:Int)-(wI (wU (e-4096))))))))
def Qhg(N:Nat)(f:List Int)(g:Int):Option (Int×Int):=bnd (Qfk N f g 1) λe=>bif (!e.2)then some (0,2)else some (e.1,0)
def QfN(N:Nat)(f:List Int)(g:Int):Option (Int×Int):=bnd (Qhg N f g) λe=>bif (e.2 != 0)then some (0,e.2)else bnd (Xe f e.1) λh=>some (h,0)
def QgM(N:Nat)(e:Wk)(f:Int):Option Int:=bnd (QfN N e.w f) λg=>some g.1
def Qd6(N:Nat)(g:Wk)(q:Int):Option (Wv×Int):=bnd (QbQ N g) λy=>bif (!y)then some ((Wv.mk 0 0 0),1)else bnd (Qcy N g.c q) λe=>bif (e.2.2 != 0)then some ((Wv.mk 0 0 0),e.2.2)else bnd (Xe g.p e.1) λf=>bnd (QgM N g q) λz=>bnd (Qeg N z) λh=>bnd (Qbz N h.1) λr=>jn (λ(j:Bool)=>bif (!j)then some ((Wv.mk 0 0 0),19)else some (h.1,0)) λo=>bif (!h.2)then o false else bif (decide (e.2.1>=f.u))then o false else jn (λ(A:Bool)=>o A) λs=>bif (f.k==1)then s (decide (r<=(wI (f.u-e.2.1))))else jn (λ(B:Bool)=>s B) λv=>bif (f.k==2)then(jn (λ(D:Bool)=>v D) λw=>bif (e.2.1==0)then w (r==f.u)else w false)else v false
def Qdm(N:Nat)(e:WN)(f g:Int):Option (Int×Int):=bnd (Qcw N e) λh=>bif (!h)then some (0,1)else bif (decide (f<0))then some (0,2)else bif (decide (f>=e.p))then some (0,2)else bif (decide (g<0))then some (0,2)else bif (decide (g>=e.W))then some (0,2)else some ((wU (4096+(wU (wI ((wI (f*e.W))+g))))),0)
def Qb8(N:Nat)(e:Wk)(k:Int)(o:Ws):Nat->Int->List UT->Option (List UT×Int)
 |0,_,_=>none
 |n+1,f,g=>
  bif (decide (f<o.u))then(bnd (Qdm N e.c k f) λh=>
   bif (h.2==0)then(bnd (Qd6 N e h.1) λj=>
    bif (j.2==0)then(bnd (Qbz N j.1) λp=>
     grd ((g.length+1)*32<=140737488355328) <|
     Qb8 N e k o n (wI (f+p)) (g++[UT.mk h.1 j.1]))
    else some ([],19))
   else some ([],19))
  else some (g,0)
def Qf9(N:Nat)(f:Wk)(g:Int):Option (List UT×Int):=bnd (Xe f.p g) λe=>bif (e.k != 1)then(bif (e.k != 2)then some ([],0)else Qb8 N f g e N 0 [])else Qb8 N f g e N 0 []
def Qfc(N:Nat)(e:Wk)(f:Int):Option (List Int×Int):=bnd (QbQ N e) λh=>bif (!h)then some ([],1)else bif (decide (f<0))then some ([],2)else bif (decide (f>=(e.p.length:Int)))then some ([],2)else bnd (Qf9 N e f) λg=>bif (g.2 != 0)then some ([],g.2)else bnd (Qcx N g.1) λj=>some (j,0)
def Qcz(N:Nat)(e:Wk)(f:Int)(g:List Int):Nat->Int->Option (Ex (Int×Bool) Unit)
 |0,_=>none
 |n+1,h=>
  bif (decide (h<(g.length:Int)))then(bnd (Xe g h) λj=>
   bnd (Qd6 N e j) λo=>
   bnd (Qbz N o.1) λq=>
   bnd (Qfa N e.c) λr=>
   bnd (Xe e.p f) λs=>
   bif (s.k==1)then(bif (!(decide (q<=r)))then some (.ret (j,true))
    else bnd (Xe e.p f) λu=>
    bif (u.k==2)then(bif (o.1.k==0)then some (.ret (j,true))
     else Qcz N e f g n (wI (h+1)))
    else Qcz N e f g n (wI (h+1)))
   else bnd (Xe e.p f) λv=>
   bif (v.k==2)then(bif (o.1.k==0)then some (.ret (j,true))
    else Qcz N e f g n (wI (h+1)))
   else Qcz N e f g n (wI (h+1)))
  else some (.nxt ())
def Qga(N:Nat)(f:Wk)(g:Int)(h:List Int):Option (Int×Bool):=bnd (Qcz N f g h N 0) λe=>exK e (λr=>some r) λj=>some (0,false)
def Qae(N:Nat)(e:List Int):Option (List Int):=some e
def Qg5(N:Nat)(g:List Int)(h f:Int):Option (List Int×Int):=bif (decide (f<0))then some ([],1)else bnd (Qfk N g h f) λe=>bif (!e.2)then some ([],2)else grd (0<=e.1/\e.1<=(wI (e.1+f))/\(wI (e.1+f))<=(g.length:Int)) <| bnd (Qae N ((g.drop e.1.toNat).take ((wI (e.1+f)).toNat-e.1.toNat))) λj=>some (j,0)
def QeZ(N:Nat)(f:Wk):Nat->Int->Option Int
 |0,_=>none
 |n+1,e=>
  bif (decide (e>0))then(bnd (Xe f.p e) λg=>
   bif (g.k==3)then QeZ N f n (wI (e-1))
   else some e)
  else some e
def Qg6(N:Nat)(e:Wk)(f:Int):Option Int:=bnd (QeZ N e N f) λg=>some g
def Qg7(N:Nat)(e:Int):Option Bool:=some (e != 0)
def QaB(N:Nat)(f:List Int):Nat->Int->Option (Ex Int Unit)
 |0,_=>none
 |n+1,e=>
  bif (decide (e<(f.length:Int)))then(bnd (Xe f e) λg=>
   bnd (Qg7 N g) λh=>
   bif h then some (.ret e)
   else QaB N f n (wI (e+1)))
  else some (.nxt ())
def Qbs(N:Nat)(f:List Int):Option Int:=bnd (QaB N f N 0) λe=>exK e (λr=>some r) λg=>some (-1)
def Qeh(N:Nat)(o:Wk)(e:Int×Int)(h:List Int×Int):Nat->Int->(List Int)->Option (List Int)
 |0,_,_=>none
 |n+1,j,v6=>
  bif (decide (j<(h.1.length:Int)))then(bnd (Xe h.1 j) λf=>
   bnd (Qd6 N o f) λp=>
   jn (λ(g:Int)=>
    grd (v6.length<=140737488355328) <|
    grd (v6.length<=140737488355328) <|
    grd (0<=(if(v6.length:Int)<(if(wI ((wI f)-(wI e.1)))<0 then 0 else(wI ((wI f)-(wI e.1))))then(v6.length:Int)else(if(wI ((wI f)-(wI e.1)))<0 then 0 else(wI ((wI f)-(wI e.1)))))/\(if(v6.length:Int)<(if(wI ((wI f)-(wI e.1)))<0 then 0 else(wI ((wI f)-(wI e.1))))then(v6.length:Int)else(if(wI ((wI f)-(wI e.1)))<0 then 0 else(wI ((wI f)-(wI e.1)))))<=(if(v6.length:Int)<(if(wI ((wI ((wI f)-(wI e.1)))+g))<0 then 0 else(wI ((wI ((wI f)-(wI e.1)))+g)))then(v6.length:Int)else(if(wI ((wI ((wI f)-(wI e.1)))+g))<0 then 0 else(wI ((wI ((wI f)-(wI e.1)))+g))))/\(if(v6.length:Int)<(if(wI ((wI ((wI f)-(wI e.1)))+g))<0 then 0 else(wI ((wI ((wI f)-(wI e.1)))+g)))then(v6.length:Int)else(if(wI ((wI ((wI f)-(wI e.1)))+g))<0 then 0 else(wI ((wI ((wI f)-(wI e.1)))+g))))<=(v6.length:Int)) <|
    Qeh N o e h n (wI (j+1)) (((v6.take (if(v6.length:Int)<(if(wI ((wI f)-(wI e.1)))<0 then 0 else(wI ((wI f)-(wI e.1))))then(v6.length:Int)else(if(wI ((wI f)-(wI e.1)))<0 then 0 else(wI ((wI f)-(wI e.1))))).toNat)++(List.replicate ((if(v6.length:Int)<(if(wI ((wI ((wI f)-(wI e.1)))+g))<0 then 0 else(wI ((wI ((wI f)-(wI e.1)))+g)))then(v6.length:Int)else(if(wI ((wI ((wI f)-(wI e.1)))+g))<0 then 0 else(wI ((wI ((wI f)-(wI e.1)))+g)))).toNat-(if(v6.length:Int)<(if(wI ((wI f)-(wI e.1)))<0 then 0 else(wI ((wI f)-(wI e.1))))then(v6.length:Int)else(if(wI ((wI f)-(wI e.1)))<0 then 0 else(wI ((wI f)-(wI e.1))))).toNat) (0:Int)))++(v6.drop ((if(v6.length:Int)<(if(wI ((wI f)-(wI e.1)))<0 then 0 else(wI ((wI f)-(wI e.1))))then(v6.length:Int)else(if(wI ((wI f)-(wI e.1)))<0 then 0 else(wI ((wI f)-(wI e.1))))).toNat+((if(v6.length:Int)<(if(wI ((wI ((wI f)-(wI e.1)))+g))<0 then 0 else(wI ((wI ((wI f)-(wI e.1)))+g)))then(v6.length:Int)else(if(wI ((wI ((wI f)-(wI e.1)))+g))<0 then 0 else(wI ((wI ((wI f)-(wI e.1)))+g)))).toNat-(if(v6.length:Int)<(if(wI ((wI f)-(wI e.1)))<0 then 0 else(wI ((wI f)-(wI e.1))))then(v6.length:Int)else(if(wI ((wI f)-(wI e.1)))<0 then 0 else(wI ((wI f)-(wI e.1))))).toNat))))) λq=>
   bif (p.1.k != 0)then(bnd (Qbz N p.1) λr=>
    q r)
   else q 1)
  else some v6
def Qgx(N:Nat)(f:Wk)(j:Int):Option (Int×Bool):=bnd (Qdm N f.c j 0) λg=>bnd (Qg5 N f.w g.1 f.c.W) λk=>bnd (Qg6 N f j) λo=>bnd (Qfc N f o) λp=>bnd (Qeh N f g p N 0 k.1) λh=>bnd (Qbs N h) λe=>some ((wU (g.1+(wU (if e<0 then 0 else e)))),(decide (e>=0)))
def Qa9(N:Nat)(f:Wk):Nat->Int->Option (Ex Ur Unit)
 |0,_=>none
 |n+1,e=>
  bif (decide (e<(f.p.length:Int)))then(bnd (Xe f.p e) λg=>
   jn (λ(_:Unit)=>
    bnd (Qfc N f e) λh=>
    bif (h.2 != 0)then some (.ret (Ur.mk 3 e 0))
    else bnd (Qga N f e h.1) λj=>
    bif j.2 then some (.ret (Ur.mk 5 e j.1))
    else bnd (Qgx N f e) λo=>
    bif o.2 then some (.ret (Ur.mk 4 e o.1))
    else Qa9 N f n (wI (e+1))) λq=>
   bif (g.k != 0)then(bif (g.s != f.s)then some (.ret (Ur.mk 2 e 0))
    else q ())
   else q ())
  else some (.nxt ())
def QgH(N:Nat)(f:Wk):Option Ur:=bnd (Qa9 N f N 0) λe=>exK e (λr=>some r) λg=>some (Ur.mk 0 0 0)
def Qgb(N:Nat)(f:Wk):Nat->Int->(List UT)->Option (Ex (List UT×Int) (List UT))
 |0,_,_=>none
 |n+1,g,h=>
  bif (decide (g<(f.p.length:Int)))then(bnd (Qf9 N f g) λe=>
   bif (e.2 != 0)then some (.ret ([],e.2))
   else grd ((h.length+e.1.length)*32<=140737488355328) <|
   Qgb N f n (wI (g+1)) (h++e.1))
  else some (.nxt h)
def Qhy(N:Nat)(f:Wk):Option (List UT×Int):=bnd (QbQ N f) λg=>bif (!g)then some ([],1)else bnd (Qgb N f N 0 []) λe=>exK e (λr=>some r) λh=>some (h,0)
def QeG(N:Nat)(e:UT):Option Bool:=some (e.hd.k==0)
def Qak(N:Nat)(f:List UT):Nat->Int->Option (Ex Int Unit)
 |0,_=>none
 |n+1,e=>
  bif (decide (e<(f.length:Int)))then(bnd (Xe f e) λg=>
   bnd (QeG N g) λh=>
   bif h then some (.ret e)
   else Qak N f n (wI (e+1)))
  else some (.nxt ())
def Qaw(N:Nat)(f:List UT):Option Int:=bnd (Qak N f N 0) λe=>exK e (λr=>some r) λg=>some (-1)
def QcD(N:Nat):Nat->Int->Int->(List UT)->Option (Int×List UT)
 |0,_,_,_=>none
 |n+1,f,g,e=>
  grd (e.length<=140737488355328) <|
  bif (decide (g<(e.length:Int)))then(bnd (Xe e g) λh=>
   bnd (QeG N h) λj=>
   bif (!j)then(bnd (Xe e f) λk=>
    QcD N n (wI (f+1)) (wI (g+1)) (e.set f.toNat h))
   else QcD N n f (wI (g+1)) e)
  else some (f,e)
def Qd7(N:Nat)(k:Wk):Option (List Int×Int):=bnd (Qhy N k) λf=>bif (f.2 != 0)then some ([],f.2)else bnd (Qaw N f.1) λg=>bif (g==(-1))then(bnd (Qcx N f.1) λh=>some (h,0))else bnd (QcD N N g (wI (g+1)) f.1) λe=>grd (0<=e.1/\e.1<=(e.2.length:Int)/\(e.2.length:Int)<=(e.2.length:Int)) <| grd (0<=e.1/\e.1<=(((((min e.1.toNat e.2.length)+(e.2.length-e.1.toNat))+(e.2.length-(e.1.toNat+(e.2.length-e.1.toNat)))):Nat):Int)) <| bnd (Qcx N ((((e.2.take e.1.toNat)++(List.replicate (e.2.length-e.1.toNat) (UT.mk 0 (Wv.mk 0 0 0))))++(e.2.drop (e.1.toNat+(e.2.length-e.1.toNat)))).take e.1.toNat)) λj=>some (j,0)
def QeM(N:Nat)(e:Int):Option Bool:=some (e != e)
def Qgh(N:Nat)(e f:Int):Option Bool:=bnd (QeM N e) λg=>bif g then(bnd (QeM N f) λh=>bif (!h)then some true else some (decide (e<f)))else some (decide (e<f))
def QdB(N:Nat)(e:Int):Option Bool:=some (e != e)
def Qat(N:Nat)(g:List Int)(h:Int):Nat->Int->Int->Option Int
 |0,_,_=>none
 |n+1,e,f=>
  bif (decide (e<f))then(bnd (Xe g (wI (YO .u64 (wU (wI (e+f))) 1))) λj=>
   bnd (Qgh N j h) λk=>
   bif k then Qat N g h n (wI ((wI (YO .u64 (wU (wI (e+f))) 1))+1)) f
   else Qat N g h n e (wI (YO .u64 (wU (wI (e+f))) 1)))
  else some e
def QaE(N:Nat)(f:List Int)(g:Int):Option (Int×Bool):=bnd (Qat N f g N 0 (f.length:Int)) λe=>bif (decide (e<(f.length:Int)))then(bnd (Xe f e) λh=>bif (h==g)then some (e,true)else bnd (Xe f e) λj=>bnd (QdB N j) λk=>bif k then(bnd (QdB N g) λo=>some (e,o))else some (e,false))else some (e,false)
def QdN(N:Nat)(e:Wv)(f:Int):Option Bool:=bnd (Qdl N e) λg=>bif (!g)then some false else bif (decide (f<0))then some false else bif (decide (f>=e.n))then some false else bif (e.k==2)then some true else bif (e.k==1)then(grd (0<=f) <| some ((Zc .u32 (YO .u32 e.Map f) 1)==1))else some false
def Qck(N:Nat)(g:Wv)(h:Int):Nat->Int->(List Int)->Option (List Int)
 |0,_,_=>none
 |n+1,e,f=>
  bif (decide (e<h))then(bnd (QdN N g e) λj=>
   bif j then(grd ((f.length+1)*8<=140737488355328) <|
    Qck N g h n (wI (e+1)) (f++[e]))
   else Qck N g h n (wI (e+1)) f)
  else some f
def Qea(N:Nat)(e:Wv):Option (List Int):=bnd (Qbz N e) λf=>bnd (Qck N e f N 0 []) λg=>some g
def QaS(N:Nat)(g:Wk)(h:List Int×Int)(j e:Int)(f:List Int):Nat->Int->Option (Ex Int Unit)
 |0,_=>none
 |n+1,v6=>
  bif (decide (v6<(f.length:Int)))then(bnd (Xe f v6) λk=>
   bnd (QfN N g.w (wU ((wU (e+1))+(wU k)))) λo=>
   bnd (QaE N h.1 o.1) λp=>
   bif (o.1 != 0)then(bif (!p.2)then some (.ret (wU ((wU (e+1))+(wU k))))
    else QaS N g h j e f n (wI (v6+1)))
   else QaS N g h j e f n (wI (v6+1)))
  else some (.nxt ())
def QcB(N:Nat)(h:Wk)(f:List Int×Int):Nat->Int->Option Int
 |0,_=>none
 |n+1,g=>
  bif (decide (g<(f.1.length:Int)))then(bnd (Xe f.1 g) λk=>
   bnd (Qd6 N h k) λo=>
   bnd (Qea N o.1) λp=>
   bnd (QaS N h f g k p N 0) λe=>exK e (λj=>some j) λq=>
   QcB N h f n (wI (g+1)))
  else some 0
def QfA(N:Nat)(f:Wk):Option Ur:=bnd (Qd7 N f) λh=>bnd (QcB N f h N 0) λe=>bif (e==0)then some (Ur.mk 0 0 0)else bnd (Qcy N f.c e) λg=>some (Ur.mk 6 g.1 e)
def QcA(N:Nat)(e:Wk):Nat->Int->Int->Option Int
 |0,_,_=>none
 |n+1,g,f=>
  bif (decide (f<(e.p.length:Int)))then(bnd (Xe e.p f) λh=>
   bif (h.k==1)then(bif (decide (h.P>0))then QcA N e n (wI (g+1)) (wI (f+1))
    else QcA N e n g (wI (f+1)))
   else QcA N e n g (wI (f+1)))
  else some g
def Qhh(N:Nat)(e:Wk):Option Ur:=bnd (QbQ N e) λh=>bif (!h)then some (Ur.mk 1 0 0)else bnd (QgH N e) λf=>bif (!((f.Fault==0)&&((f.Page==0)&&(f.Addr==0))))then some f else bnd (QfA N e) λg=>bif (!((g.Fault==0)&&((g.Page==0)&&(g.Addr==0))))then some g else bnd (QcA N e N 0 0) λj=>bif (decide (j>(wI (e.c.p.tdiv 4))))then some (Ur.mk 7 0 0)else some (Ur.mk 0 0 0)
def QfO(N:Nat)(f:Wk):Option Bool:=bnd (Qhh N f) λe=>some ((e.Fault==0)&&((e.Page==0)&&(e.Addr==0)))
def Qfs(N:Nat)(e:UE)(f:Int):Option Bool:=some (e.a==f)
def Qas(N:Nat)(f:List UE)(c0:Int):Nat->Int->Option (Ex Int Unit)
 |0,_=>none
 |n+1,e=>
  bif (decide (e<(f.length:Int)))then(bnd (Xe f e) λg=>
   bnd (Qfs N g c0) λh=>
   bif h then some (.ret e)
   else Qas N f c0 n (wI (e+1)))
  else some (.nxt ())
def Qbb(N:Nat)(f:List UE)(c0:Int):Option Int:=bnd (Qas N f c0 N 0) λe=>exK e (λr=>some r) λg=>some (-1)
def Qf0(N:Nat)(e:List UE)(f:Int):Option Int:=bnd (Qbb N e f) λg=>some g
def Qcl(N:Nat)(f:List UE)(k:Wk)(o:List Int×Int):Nat->Int->(List Int)->Option (Ex (List Int×Bool) (List Int))
 |0,_,_=>none
 |n+1,g,h=>
  bif (decide (g<(f.length:Int)))then(bnd (Xe f g) λe=>
   bnd (QaE N o.1 e.a) λp=>
   bif (!p.2)then some (.ret ([],false))
   else bif (decide (e.M<1))then some (.ret ([],false))
   else bif (decide (e.M>1000))then some (.ret ([],false))
   else bnd (Qf0 N f e.a) λq=>
   bif (q != g)then some (.ret ([],false))
   else bnd (Qcy N k.c e.a) λj=>
   bnd (Xe h j.1) λr=>
   bnd (Xe h j.1) λs=>
   Qcl N f k o n (wI (g+1)) (h.set j.1.toNat (wI (r+e.M))))
  else some (.nxt h)
def Qgi(N:Nat)(h:List UE)(f:Wk):Option (List Int×Bool):=bnd (Qd7 N f) λj=>grd (0<=(f.p.length:Int)/\(f.p.length:Int).toNat*8<=140737488355328) <| bnd (Qcl N h f j N 0 (List.replicate (f.p.length:Int).toNat (0:Int))) λe=>exK e (λr=>some r) λg=>some (g,true)
def QeN(N:Nat)(f:Wk)(g:List Int×Bool):Nat->Int->Option (Ex Bool Unit)
 |0,_=>none
 |n+1,e=>
  bif (decide (e<(f.p.length:Int)))then(bnd (Xe f.p e) λh=>
   bnd (Xe g.1 e) λj=>
   bif (h.P != j)then some (.ret false)
   else QeN N f g n (wI (e+1)))
  else some (.nxt ())
def Qhl(N:Nat)(f:Wk)(g:List UE):Option Bool:=bnd (QfO N f) λj=>bif (!j)then some false else bif (decide ((g.length:Int)>64))then some false else bnd (Qgi N g f) λh=>bif (!h.2)then some false else bnd (QeN N f h N 0) λe=>exK e (λr=>some r) λk=>some true
def Qa6(N:Nat)(f:IG):Nat->Int->Int->Option (Ex Bool Unit)
 |0,_,_=>none
 |n+1,h,g=>
  bif (decide (g<(f.l.x.length:Int)))then(bnd (Xe f.l.x g) λe=>
   bif (g==0)then(bif (e.O != 0)then some (.ret false)
    else bif (!e.B0)then some (.ret false)
    else bif (decide (e.O<h))then some (.ret false)
    else bif (decide (e.O>(f.l.S.length:Int)))then some (.ret false)
    else bif (decide (e.C0<0))then some (.ret false)
    else bif (decide (e.C0>64))then some (.ret false)
    else Qa6 N f n e.O (wI (g+1)))
   else bif (decide (e.O<h))then some (.ret false)
   else bif (decide (e.O>(f.l.S.length:Int)))then some (.ret false)
   else bif (decide (e.C0<0))then some (.ret false)
   else bif (decide (e.C0>64))then some (.ret false)
   else Qa6 N f n e.O (wI (g+1)))
  else some (.nxt ())
def QdC(N:Nat)(f:IG):Option Bool:=jn (λ(_:Unit)=>bnd (Qa6 N f N 0 0) λe=>exK e (λr=>some r) λh=>some true) λg=>bif (decide ((f.l.x.length:Int)>64))then some false else bif ((f.l.x.length:Int)==0)then(bif (decide ((f.l.S.length:Int)>0))then some false else g ())else g ()
def Qbi(N:Nat)(f:IG):Nat->Int->Int->Option (Ex Bool Unit)
 |0,_,_=>none
 |n+1,h,g=>
  bif (decide (g<(f.l.S.length:Int)))then(bnd (Xe f.l.S g) λe=>
   bif (decide (e.J<=h))then some (.ret false)
   else bif (decide (e.J>(f.l.i.length:Int)))then some (.ret false)
   else bnd (Xe f.l.i (wI (e.J-1))) λj=>
   bif (j != g)then some (.ret false)
   else bif (e.V==(e.a==0))then some (.ret false)
   else Qbi N f n e.J (wI (g+1)))
  else some (.nxt ())
def Qdn(N:Nat)(f:IG):Option Bool:=bnd (Qbi N f N 0 0) λe=>exK e (λr=>some r) λg=>some true
def Qd8(N:Nat)(e:IG)(f:Int):Option (List UB):=bif (decide ((wI (f+1))<(e.l.x.length:Int)))then(bnd (Xe e.l.x f) λg=>bnd (Xe e.l.x (wI (f+1))) λh=>grd (0<=g.O/\g.O<=h.O/\h.O<=(e.l.S.length:Int)) <| some ((e.l.S.drop g.O.toNat).take (h.O.toNat-g.O.toNat)))else bnd (Xe e.l.x f) λj=>grd (0<=j.O/\j.O<=(e.l.S.length:Int)/\(e.l.S.length:Int)<=(e.l.S.length:Int)) <| some (e.l.S.drop j.O.toNat)
def QbU(N:Nat)(e:List UB):Nat->Int->Int->Option Int
 |0,_,_=>none
 |n+1,g,f=>
  bif (decide (f<(e.length:Int)))then(bnd (Xe e f) λh=>
   bif h.V then QbU N e n (wI (g+1)) (wI (f+1))
   else QbU N e n g (wI (f+1)))
  else some g
def Qds(N:Nat)(e:IG)(f:Int):Option Int:=bnd (Qd8 N e f) λg=>bnd (QbU N g N 0 0) λh=>some h
def Qf1(N:Nat)(e:Int):Option Bool:=bif (decide (e<0))then some true else some (decide (e>=4096))
def QaK(N:Nat)(f:List Int):Nat->Int->Option (Ex Int Unit)
 |0,_=>none
 |n+1,e=>
  bif (decide (e<(f.length:Int)))then(bnd (Xe f e) λg=>
   bnd (Qf1 N g) λh=>
   bif h then some (.ret e)
   else QaK N f n (wI (e+1)))
  else some (.nxt ())
def Qb3(N:Nat)(f:List Int):Option Int:=bnd (QaK N f N 0) λe=>exK e (λr=>some r) λg=>some (-1)
def QbD(N:Nat)(e:List Int):Option Bool:=bnd (Qb3 N e) λf=>some (decide (f>=0))
def QdO(N:Nat)(e:Wp):Nat->Int->Option (Ex Bool Unit)
 |0,_=>none
 |n+1,f=>
  bif (decide (f<(e.x.length:Int)))then(bnd (Xe e.x f) λg=>
   bnd (Qds N (IG.mk e) f) λh=>
   bif (decide (h>g.C0))then some (.ret false)
   else QdO N e n (wI (f+1)))
  else some (.nxt ())
def QcR(N:Nat)(f:Wp):Option Bool:=bif (decide ((f.i.length:Int)>4096))then some false else bnd (QbD N f.i) λg=>bif g then some false else bnd (QdC N (IG.mk f)) λh=>bif (!h)then some false else bnd (Qdn N (IG.mk f)) λj=>bif (!j)then some false else bnd (QdO N f N 0) λe=>exK e (λr=>some r) λk=>some true
def Qf2(N:Nat)(e:W5):Option Bool:=bif (decide (e.G<1))then some true else bif (decide (e.G>4294967295))then some true else bif (!e.V)then some (e.a != 0)else some false
def Qan(N:Nat)(f:List W5):Nat->Int->Option (Ex Int Unit)
 |0,_=>none
 |n+1,e=>
  bif (decide (e<(f.length:Int)))then(bnd (Xe f e) λg=>
   bnd (Qf2 N g) λh=>
   bif h then some (.ret e)
   else Qan N f n (wI (e+1)))
  else some (.nxt ())
def QaU(N:Nat)(f:List W5):Option Int:=bnd (Qan N f N 0) λe=>exK e (λr=>some r) λg=>some (-1)
def QaN(N:Nat)(e:List W5):Option Bool:=bnd (QaU N e) λf=>some (decide (f>=0))
def QdV(N:Nat)(f:Wu):Option Bool:=bif (decide ((f.e.length:Int)<=64))then(bnd (QaN N f.e) λg=>some (!g))else some false
def QaF(N:Nat)(f:List Int)(g:Int):Nat->Int->Option (Ex Int Unit)
 |0,_=>none
 |n+1,e=>
  bif (decide (e<(f.length:Int)))then(bnd (Xe f e) λh=>
   bif (g==h)then some (.ret e)
   else QaF N f g n (wI (e+1)))
  else some (.nxt ())
def Qb2(N:Nat)(f:List Int)(g:Int):Option Int:=bnd (QaF N f g N 0) λe=>exK e (λr=>some r) λh=>some (-1)
def Qai(N:Nat)(e:List Int)(f:Int):Option Bool:=bnd (Qb2 N e f) λg=>some (decide (g>=0))
def Qei(N:Nat)(f:Wu):Nat->Int->(List Int)->Option (List Int)
 |0,_,_=>none
 |n+1,g,h=>
  bif (decide (g<(f.e.length:Int)))then(bnd (Xe f.e g) λj=>
   bif j.V then(grd ((h.length+1)*8<=140737488355328) <|
    Qei N f n (wI (g+1)) (h++[j.a]))
   else Qei N f n (wI (g+1)) h)
  else some h
def QdW(N:Nat)(e:Wu):Option (List Int):=bnd (QdV N e) λf=>bif (!f)then some []else bnd (Qei N e N 0 []) λg=>some g
def QeO(N:Nat)(e:Int)(f:List Int):Option Bool:=bnd (QaE N f e) λg=>bif (e != 0)then some (!g.2)else some false
def Qav(N:Nat)(f c0:List Int):Nat->Int->Option (Ex Int Unit)
 |0,_=>none
 |n+1,e=>
  bif (decide (e<(f.length:Int)))then(bnd (Xe f e) λg=>
   bnd (QeO N g c0) λh=>
   bif h then some (.ret e)
   else Qav N f c0 n (wI (e+1)))
  else some (.nxt ())
def Qbg(N:Nat)(f c0:List Int):Option Int:=bnd (Qav N f c0 N 0) λe=>exK e (λr=>some r) λg=>some (-1)
def Qa2(N:Nat)(e c0:List Int):Option Bool:=bnd (Qbg N e c0) λf=>some (decide (f>=0))
def Qd9(N:Nat)(e:Wk)(f:List Int):Option Bool:=bnd (QfO N e) λg=>bif (!g)then some false else bnd (Qd7 N e) λh=>bnd (Qa2 N f h.1) λj=>some (!j)
def QbA(N:Nat)(e:Int):Option (List Int):=bif (decide (e<0))then none else bif (decide ((wI (e-(wI 0)))>0))then(grd (0=0/\0=0) <| grd (0<=(wI (e-(wI 0)))/\(wI (e-(wI 0))).toNat*8<=140737488355328) <| grd ((wI (e-(wI 0))).toNat*8<=140737488355328) <| grd (0<=0/\0<=0/\0<=(((wI (e-(wI 0))).toNat:Nat):Int)) <| some ((List.replicate (wI (e-(wI 0))).toNat (0:Int)).take 0))else some []
def QaX(N:Nat)(e:List (List Int)):Nat->Int->Int->Option Int
 |0,_,_=>none
 |n+1,f,g=>
  bif (decide (g<(e.length:Int)))then(bnd (Xe e g) λh=>
   bif (decide ((wI (f+(h.length:Int)))<0))then none
   else QaX N e n (wI (f+(h.length:Int))) (wI (g+1)))
  else some f
def QaY(N:Nat)(e:List (List Int)):Nat->Int->(List Int)->Option (List Int)
 |0,_,_=>none
 |n+1,v6,v7=>
  bif (decide (v6<(e.length:Int)))then(bnd (Xe e v6) λf=>
   grd ((v7.length+f.length)*8<=140737488355328) <|
   QaY N e n (wI (v6+1)) (v7++f))
  else some v7
def QaT(N:Nat)(e:List (List Int)):Option (List Int):=bnd (QaX N e N 0 0) λf=>bnd (QbA N f) λg=>bnd (QaY N e N 0 g) λh=>some h
def Qgy(N:Nat)(e:List (List Int)):Option (List Int):=bnd (QaT N e) λf=>some f
def Qej(N:Nat)(e:Wp):Nat->Int->(List Int)->Option (List Int)
 |0,_,_=>none
 |n+1,f,g=>
  bif (decide (f<(e.S.length:Int)))then(bnd (Xe e.S f) λh=>
   bif h.V then(grd ((g.length+1)*8<=140737488355328) <|
    Qej N e n (wI (f+1)) (g++[h.a]))
   else Qej N e n (wI (f+1)) g)
  else some g
def QfP(N:Nat)(e:Wp):Option (List Int):=bnd (QcR N e) λf=>bif (!f)then some []else bnd (Qej N e N 0 []) λg=>some g
def Qe0(N:Nat)(e:W3):Nat->Int->(List Int)->Option (List Int)
 |0,_,_=>none
 |n+1,f,g=>
  bif (decide (f<(e.P.length:Int)))then(bnd (Xe e.P f) λh=>
   grd ((g.length+1)*8<=140737488355328) <|
   Qe0 N e n (wI (f+1)) (g++[h.a]))
  else some g
def Qhq(N:Nat)(e:W3):Option (List Int):=bnd (Qe0 N e N 0 []) λf=>some f
def Qgz(N:Nat)(e:W3):Option (List Int):=bnd (QfP N e.l) λf=>bnd (QdW N e.g) λh=>bnd (Qhq N e) λj=>bnd (Qgy N [e.R,f,h,j]) λk=>some k
def QcE(N:Nat)(e:W3):Option Bool:=bnd (Qhl N e.h e.P) λj=>bif (!j)then some false else bnd (QcR N e.l) λk=>bif (!k)then some false else bnd (QdV N e.g) λo=>bif (!o)then some false else bnd (QdV N e.v) λp=>bif (!p)then some false else bnd (QdW N e.g) λq=>bnd (Qai N q 0) λr=>bif r then some false else bnd (Qgz N e) λs=>bnd (QdW N e.v) λu=>bnd (Qgy N [s,u]) λw=>bnd (Qd9 N e.h w) λf=>some f
def Qad(N:Nat)(e:List Ws):Option (List Ws):=some e
def Qgc(N:Nat)(e:Wk):Option Wk:=bnd (Qae N e.w) λf=>bnd (Qad N e.p) λg=>some (Wk.mk e.c f g e.s e.b)
def Qaq(N:Nat)(e:List UB):Option (List UB):=some e
def Qao(N:Nat)(e:List UM):Option (List UM):=some e
def QaA(N:Nat)(e:List Int):Option (List Int):=some e
def Qe1(N:Nat)(e:Wp):Option Wp:=bnd (Qaq N e.S) λf=>bnd (Qao N e.x) λg=>bnd (QaA N e.i) λh=>some (Wp.mk f g h)
def Qau(N:Nat)(e:List W5):Option (List W5):=some e
def QeP(N:Nat)(f:Wu):Option Wu:=bnd (Qau N f.e) λg=>some (Wu.mk g)
def Qba(N:Nat)(e:List UE):Option (List UE):=some e
def QbV(N:Nat)(e:W3):Option W3:=bnd (Qgc N e.h) λf=>bnd (Qe1 N e.l) λj=>bnd (QeP N e.g) λk=>bnd (QeP N e.v) λo=>bnd (Qba N e.P) λp=>bnd (Qae N e.R) λq=>some (W3.mk f j k o p q)
def QgO(N:Nat)(e:W3)(f h j k:Int):Option (W3×Int×Int):=bnd (QcE N e) λg=>bif (!g)then some ((W3.mk zHp (Wp.mk [] [] []) (Wu.mk []) (Wu.mk []) [] []),0,19)else bif (decide (f<1))then some ((W3.mk zHp (Wp.mk [] [] []) (Wu.mk []) (Wu.mk []) [] []),0,1)else bif (decide (f>20))then some ((W3.mk zHp (Wp.mk [] [] []) (Wu.mk []) (Wu.mk []) [] []),0,1)else bnd (QbV N e) λo=>none
def QdX(N:Nat)(e:Wp):Option Wp:=bnd (Qaq N e.S) λf=>bnd (Qao N e.x) λg=>bnd (QaA N e.i) λh=>some (Wp.mk f g h)
def QfG(N:Nat)(f:Wp)(g:Int):Option (Wp×Int×Int×Int):=bnd (QcR N f) λh=>bif (!h)then some ((Wp.mk [] [] []),0,0,1)else bif (g==0)then some ((Wp.mk [] [] []),0,0,1)else bif (decide ((wI ((f.x.length:Int)-1))<0))then some ((Wp.mk [] [] []),0,0,9)else bnd (Qds N (IG.mk f) (wI ((f.x.length:Int)-1))) λj=>bnd (Xe f.x (wI ((f.x.length:Int)-1))) λk=>bif (decide (j>=k.C0))then some ((Wp.mk [] [] []),0,0,10)else bif (decide ((f.i.length:Int)>=4096))then some ((Wp.mk [] [] []),0,0,18)else bnd (QdX N f) λe=>grd (e.S.length<=140737488355328) <| grd (e.i.length<=140737488355328) <| grd ((e.S.length+1)*24<=140737488355328) <| grd ((e.i.length+1)*8<=140737488355328) <| some ((Wp.mk (e.S++[(UB.mk (wI ((e.i.length:Int)+1)) g true)]) e.x (e.i++[(e.S.length:Int)])),(e.S.length:Int),(wI ((e.i.length:Int)+1)),0)
def QfQ(N:Nat)(f:WN)(e:Wv):Option Bool:=bnd (Qdl N e) λg=>bif g then(bif (e.k != 0)then(bnd (Qbz N e) λh=>bnd (Qfb N f h) λj=>some (decide (j>=0)))else some false)else some false
def QdA(N:Nat)(e:List Ws):Nat->Int->Int->Option Int
 |0,_,_=>none
 |n+1,g,f=>
  bif (decide (f<(e.length:Int)))then(bnd (Xe e f) λh=>
   bif (h.k != 0)then QdA N e n (wI (g+1)) (wI (f+1))
   else QdA N e n g (wI (f+1)))
  else some g
def QgA(N:Nat)(e:List Ws):Option Int:=bnd (QdA N e N 0 0) λf=>some f
def QgU(N:Nat)(h:List Ws)(e:Int)(f:List Ws):Option (List Ws×Int):=bif (decide (e<0))then some ([],2)else bif (decide (e>(wI ((h.length:Int)-(f.length:Int)))))then some ([],2)else grd (0<=e/\e<=(wI (e+(f.length:Int)))/\(wI (e+(f.length:Int)))<=(h.length:Int)) <| bnd (QgA N ((h.drop e.toNat).take ((wI (e+(f.length:Int))).toNat-e.toNat))) λj=>bif (decide (j>0))then some ([],20)else bnd (Qad N h) λg=>grd (0<=e/\e<=(g.length:Int)/\(g.length:Int)<=(g.length:Int)) <| grd (f.length<=(g.length-e.toNat)) <| some ((((g.take e.toNat)++f)++(g.drop (e.toNat+f.length))),0)
def QdY(N:Nat)(g:List Ws)(h e:Int):Option (List Ws×Int):=bnd (Qcd N (Ws.mk 1 e 0 0)) λj=>bif (!j)then some ([],1)else bnd (QgU N g h [(Ws.mk 1 e 0 0)]) λf=>some (f.1,f.2)
def Qe2(N:Nat)(h:List Ws)(j f g:Int):Nat->(List Ws)->Option (List Ws)
 |0,_=>none
 |n+1,e=>
  grd (e.length<=140737488355328) <|
  bif (decide ((e.length:Int)<g))then(grd ((e.length+1)*32<=140737488355328) <|
   Qe2 N h j f g n (e++[(Ws.mk 3 f 0 0)]))
  else some e
def Qg8(N:Nat)(o:WN)(g:List Ws)(h e f:Int):Option (List Ws×Int):=bnd (Qfb N o f) λj=>bif (decide (j<1))then some ([],1)else bnd (Qcd N (Ws.mk 2 e f 0)) λp=>bif (!p)then some ([],1)else bnd (Qe2 N g h e j N [(Ws.mk 2 e f 0)]) λq=>bnd (QgU N g h q) λk=>some (k.1,k.2)
def Qhr(N:Nat)(e:WN):Option Int:=bnd (Qcw N e) λf=>bif (!f)then some 0 else some (wI (e.p.tdiv 4))
def QcS(N:Nat)(g:List Ws):Nat->Int->(List Ow)->Option (List Ow)
 |0,_,_=>none
 |n+1,f,e=>
  bif (decide (f<(g.length:Int)))then(bnd (Xe g f) λj=>
   grd (e.length<=140737488355328) <|
   bif (j.k != 0)then QcS N g n (wI (f+1)) e
   else jn (λ(_:Unit)=>
    grd ((e.length+1)*16<=140737488355328) <|
    QcS N g n (wI (f+1)) (e++[(Ow.mk f 1)])) λh=>
   bif (decide ((wI ((e.length:Int)-1))>=0))then(bnd (Xe e (wI ((e.length:Int)-1))) λo=>
    bnd (Xe e (wI ((e.length:Int)-1))) λp=>
    bif ((wI (o.O+p.Len))==f)then(bnd (Xe e (wI ((e.length:Int)-1))) λq=>
     bnd (Xe e (wI ((e.length:Int)-1))) λr=>
     QcS N g n (wI (f+1)) (e.set (wI ((e.length:Int)-1)).toNat (Ow.mk r.O (wI (q.Len+1)))))
    else h ())
   else h ())
  else some e
def Qhm(N:Nat)(e:List Ws):Option (List Ow):=bnd (QcS N e N 0 []) λf=>some f
def Qek(N:Nat)(g:Int)(e:List Ow):Nat->Int->Option (Ex Int Unit)
 |0,_=>none
 |n+1,f=>
  bif (decide (f<(e.length:Int)))then(bnd (Xe e f) λh=>
   bif (decide (h.Len>=g))then some (.ret h.O)
   else Qek N g e n (wI (f+1)))
  else some (.nxt ())
def QdZ(N:Nat)(g:List Ws)(f:Int):Option Int:=bif (decide (f<1))then some (-1)else bnd (Qhm N g) λh=>bnd (Qek N f h N 0) λe=>exK e (λr=>some r) λj=>some (-1)
def QeH(N:Nat)(e:Wk)(o:Int):Option (Wk×Oa×Int):=bnd (QgA N e.p) λq=>bnd (Qhr N e.c) λr=>bnd (Qfb N e.c o) λv=>bif (decide (v>0))then(bnd (QdZ N e.p v) λy=>jn (λ(_:Unit)=>some (zHp,(Oa.mk 0 0),3)) λD=>bif (decide (y>=0))then(bif (decide (q<=(wI (r-v))))then(bnd (Qg8 N e.c e.p y e.s o) λE=>some ((Wk.mk e.c e.w E.1 e.s e.b),(Oa.mk y 0),E.2))else D ())else D ())else jn (λ(_:Unit)=>bnd (QdZ N e.p 1) λj=>jn (λ(_:Unit)=>some (zHp,(Oa.mk 0 0),3)) λG=>bif (decide (j>=0))then(bif (decide (q<r))then(bnd (QdY N e.p j e.s) λf=>bif (f.2 != 0)then some (zHp,(Oa.mk 0 0),f.2)else bnd (Xe f.1 j) λg=>some ((Wk.mk e.c e.w (f.1.set j.toNat (Ws.mk g.k g.s o g.P)) e.s j),(Oa.mk j 0),0))else G ())else G ()) λz=>bif (decide (e.b>=0))then(bif (decide (q<=r))then(bnd (Xe e.p e.b) λA=>jn (λ(_:Unit)=>z ()) λH=>bif (A.s==e.s)then(bif (decide (o<=(wI (e.c.W-A.u))))then(bnd (Qad N e.p) λB=>bnd (Xe B e.b) λI=>bnd (Xe B e.b) λh=>some ((Wk.mk e.c e.w (B.set e.b.toNat (Ws.mk h.k h.s (wI (I.u+o)) h.P)) e.s e.b),(Oa.mk e.b A.u),0))else H ())else H ())else z ())else z ()
def QeI(N:Nat)(e:Wk)(g:List Int)(f:Int):Option (Wk×Int):=bif (f != 0)then some (zHp,f)else bnd (Qad N e.p) λh=>some ((Wk.mk e.c g h e.s e.b),0)
def Qgd(N:Nat)(h:List Int)(j:Int)(g:List Int):Option (List Int×Int):=bnd (Qfk N h j (g.length:Int)) λe=>bif (!e.2)then some ([],2)else bnd (Qae N h) λf=>grd (0<=e.1/\e.1<=(f.length:Int)/\(f.length:Int)<=(f.length:Int)) <| grd (g.length<=(f.length-e.1.toNat)) <| some ((((f.take e.1.toNat)++g)++(f.drop (e.1.toNat+g.length))),0)
def Qce(N:Nat)(e f:Int):Option Bool:=bnd (Qa1 N f) λg=>some ((Xa9 .u64 e g)==0)
def Qbd(N:Nat)(e:List UJ):Nat->Int->Int->Option (Ex (Int×Int) Unit)
 |0,_,_=>none
 |n+1,h,f=>
  bif (decide (f<(e.length:Int)))then(bnd (Xe e f) λg=>
   bif (decide (g.Width<1))then some (.ret (0,1))
   else bif (decide (g.Width>h))then some (.ret (0,1))
   else Qbd N e n (wI (h-g.Width)) (wI (f+1)))
  else some (.nxt ())
def QaJ(N:Nat)(f:List UJ):Nat->Int->Int->Int->Option (Ex (Int×Int) Int)
 |0,_,_,_=>none
 |n+1,g,v6,v7=>
  bif (decide (v7<(f.length:Int)))then(bnd (Xe f v7) λe=>
   bnd (Qce N e.Value e.Width) λh=>
   bif (!h)then some (.ret (0,2))
   else grd (0<=v6) <|
   QaJ N f n (bOr .u64 g (ZO .u64 e.Value v6)) (wI (v6+e.Width)) (wI (v7+1)))
  else some (.nxt g)
def Qfd(N:Nat)(g:List UJ):Option (Int×Int):=bnd (Qbd N g N 64 0) λe=>exK e (λr=>some r) λh=>bnd (QaJ N g N 0 0 0) λe=>exK e (λr=>some r) λf=>some (f,0)
def Qf3(N:Nat)(e:Wv):Option (Int×Int):=bnd (Qdl N e) λg=>bif (!g)then some (0,1)else bnd (Qfd N [(UJ.mk 2 1),(UJ.mk 2 (wU e.k)),(UJ.mk 12 (wU e.n)),(UJ.mk 32 (wU e.Map))]) λf=>some (f.1,f.2)
def Qfl(N:Nat)(f:Wk)(o:Int)(g:Wv):Option (Wk×Int):=bnd (Qf3 N g) λh=>bif (h.2 != 0)then some (zHp,1)else bnd (QbQ N f) λp=>bif (!p)then some (zHp,1)else bnd (Qbz N g) λe=>grd (0<=e/\e.toNat*8<=140737488355328) <| bnd (Xe (List.replicate e.toNat (0:Int)) 0) λq=>bnd (Qgd N f.w o ((List.replicate e.toNat (0:Int)).set 0 h.1)) λj=>bnd (QeI N f j.1 j.2) λk=>some (k.1,k.2)
def QeF(N:Nat)(f:Wk)(h:Wv):Option (Wk×Int×Int):=bnd (QbQ N f) λk=>bif (!k)then some (zHp,0,1)else bnd (QfQ N f.c h) λo=>bif (!o)then some (zHp,0,1)else bnd (Qbz N h) λp=>bnd (QeH N f p) λe=>bif (e.2.2 != 0)then some (zHp,0,e.2.2)else bnd (Qdm N f.c e.2.1.page e.2.1.offset) λg=>bif (g.2 != 0)then some (zHp,0,g.2)else bnd (Qfl N e.1 g.1 h) λj=>bif (j.2 != 0)then some (zHp,0,j.2)else some (j.1,g.1,0)
def Qcf(N:Nat)(e:Wk)(g:List Int×Int)(h:List Int)(f:List Ws):Nat->Int->(List Ws)->Option (List Ws)
 |0,_,_=>none
 |n+1,v6,v7=>
  bif (decide (v6<(f.length:Int)))then(bnd (Xe v7 v6) λo=>
   bif (o.k==1)then(bif (decide (o.P>0))then(bnd (Xe v7 v6) λj=>
       Qcf N e g h f n (wI (v6+1)) (v7.set v6.toNat (Ws.mk j.k (wI (1-e.s)) j.u j.P)))
    else Qcf N e g h f n (wI (v6+1)) v7)
   else Qcf N e g h f n (wI (v6+1)) v7)
  else some v7
def QeJ(N:Nat)(e:Wk):Option (Ww×Int):=bnd (QbQ N e) λk=>bif (!k)then some ((Ww.mk zHp [] [] [] 0 (WR.mk 0 0 0 0 0 0)),1)else bnd (QfO N e) λo=>bif (!o)then some ((Ww.mk zHp [] [] [] 0 (WR.mk 0 0 0 0 0 0)),19)else bnd (Qd7 N e) λf=>bif (f.2 != 0)then some ((Ww.mk zHp [] [] [] 0 (WR.mk 0 0 0 0 0 0)),f.2)else bnd (Qae N e.w) λj=>bnd (Qad N e.p) λg=>grd (g.length<=140737488355328) <| bnd (Qcf N e f j g N 0 g) λh=>some ((Ww.mk (Wk.mk e.c j h e.s e.b) f.1 [] [] 0 (WR.mk 0 0 0 0 0 0)),0)
def Qe3(N:Nat)(f:Int):Option (Int×Bool):=bnd (Qdf N f [2,32]) λe=>bif (e.2 != 0)then some (0,false)else bnd (Xe e.1 0) λg=>bif (g != 2)then some (0,false)else bnd (Xe e.1 1) λh=>some (h,true)
def QbS(N:Nat)(f:List Int)(g:Int):Nat->Int->Option (Ex Int Unit)
 |0,_=>none
 |n+1,e=>
  bif (decide (e<(f.length:Int)))then(bnd (Xe f e) λh=>
   bif (g==h)then some (.ret e)
   else QbS N f g n (wI (e+1)))
  else some (.nxt ())
def Qex(N:Nat)(f:List Int)(g:Int):Option Int:=bnd (QbS N f g N 0) λe=>exK e (λr=>some r) λh=>some (-1)
def Qbj(N:Nat)(e:List Int)(f:Int):Option Bool:=bnd (Qex N e f) λg=>some (decide (g>=0))
def Qc8(N:Nat)(e:Ww)(f:Int):Option Bool:=jn (λ(q:Bool)=>some q) λg=>bif (decide (f<0))then g false else grd (e.h.p.length<=140737488355328) <| bif (decide (f>=(e.h.p.length:Int)))then g false else bnd (Xe e.h.p f) λo=>jn (λ(r:Bool)=>g r) λj=>bif (o.k==1)then(bif (o.s==(wI (1-e.h.s)))then(bnd (Qbj N e.t f) λu=>j (!u))else j false)else j false
def QcC(N:Nat)(e:Ww)(w:Int):Option (Int×Int×Int×List Ws×List Int):=jn (λ(y z A:Int) (j:List Ws) (k:List Int)=>some (y,z,A,j,k)) λo=>grd (e.t.length<=140737488355328) <| jn (λ(_:Unit)=>bnd (QdZ N e.h.p 1) λf=>bif (decide (f<0))then o 0 0 3 e.h.p e.t else bnd (QdY N e.h.p f (wI (1-e.h.s))) λq=>bif (q.2 != 0)then none else grd ((e.t.length+1)*8<=140737488355328) <| o f 0 0 q.1 (e.t++[f])) λg=>bif (decide ((e.t.length:Int)>0))then(bnd (Xe e.t (wI ((e.t.length:Int)-1))) λB=>bif (decide (B>=0))then(bnd (Xe e.t (wI ((e.t.length:Int)-1))) λD=>grd (e.h.p.length<=140737488355328) <| bif (decide (D<(e.h.p.length:Int)))then(bnd (Xe e.t (wI ((e.t.length:Int)-1))) λr=>bnd (Xe e.h.p r) λv=>bif (decide (w<=(wI (e.h.c.W-v.u))))then o r v.u 0 e.h.p e.t else g ())else g ())else g ())else g ()
def Qb9(N:Nat)(e:Int):Option (Int×Int):=bnd (Qa1 N 32) λg=>bif (decide (e>g))then some (0,1)else bnd (Qfd N [(UJ.mk 2 2),(UJ.mk 32 e)]) λf=>some (f.1,f.2)
def QbT(N:Nat)(j:Ww)(o:Int):Nat->Int->(List Ws)->Option (List Ws)
 |0,_,_=>none
 |n+1,e,v13=>
  grd (v13.length<=140737488355328) <|
  bif (decide (e<(v13.length:Int)))then(bnd (Xe v13 e) λg=>
   bif (g.k==3)then(bnd (Xe v13 e) λf=>
    QbT N j o n (wI (e+1)) (v13.set e.toNat (Ws.mk f.k (wI (1-j.h.s)) f.u f.P)))
   else some v13)
  else some v13
def Qa4(N:Nat)(e:Ww)(H:Int):Option (Int×Int×Ww):=jn (λ(S T U V:Int) (Y:List Int) (Z:List Ws) (x46 x47:List Int)=>some (S,T,(Ww.mk (Wk.mk e.h.c Y Z e.h.s e.h.b) e.o x46 x47 e.d (WR.mk U V e.r.F e.r.E e.r.f e.r.y)))) λG=>bif (H==0)then G H 0 e.r.j e.r.K e.h.w e.h.p e.t e.q else bnd (Qai N e.q H) λy1=>bif y1 then G H 0 e.r.j e.r.K e.h.w e.h.p e.t e.q else bnd (Qai N e.o H) λy2=>bif (!y2)then G 0 19 e.r.j e.r.K e.h.w e.h.p e.t e.q else bnd (Qcy N e.h.c H) λB=>bif (B.2.2 != 0)then G 0 19 e.r.j e.r.K e.h.w e.h.p e.t e.q else grd (e.h.w.length<=140737488355328) <| bif (decide (1>(wI ((e.h.w.length:Int)-(wI ((wI (B.1*e.h.c.W))+B.2.1))))))then G 0 19 e.r.j e.r.K e.h.w e.h.p e.t e.q else grd (0<=(wI ((wI (B.1*e.h.c.W))+B.2.1))/\(wI ((wI (B.1*e.h.c.W))+B.2.1))<=(wI ((wI ((wI (B.1*e.h.c.W))+B.2.1))+1))/\(wI ((wI ((wI (B.1*e.h.c.W))+B.2.1))+1))<=(e.h.w.length:Int)) <| bnd (KX e.h.w ((wI ((wI (B.1*e.h.c.W))+B.2.1)).toNat) ((wI ((wI ((wI (B.1*e.h.c.W))+B.2.1))+1)).toNat-(wI ((wI (B.1*e.h.c.W))+B.2.1)).toNat) 0) λp6=>bnd (Qe3 N p6) λy7=>bif y7.2 then G y7.1 0 e.r.j e.r.K e.h.w e.h.p e.t e.q else bnd (Qcy N e.h.c H) λM=>grd (e.h.p.length<=140737488355328) <| bif (decide (M.1>=(e.h.p.length:Int)))then G 0 19 e.r.j e.r.K e.h.w e.h.p e.t e.q else bnd (Qc8 N e M.1) λy9=>bif y9 then(grd ((e.q.length+1)*8<=140737488355328) <| G H 0 e.r.j (wI (e.r.K+1)) e.h.w e.h.p e.t (e.q++[H]))else bnd (Xe e.h.p M.1) λp10=>bif (p10.k==2)then(bnd (Xe e.h.p M.1) λJ=>bnd (QbT N e H N (wI (M.1+1)) (e.h.p.set M.1.toNat (Ws.mk J.k (wI (1-e.h.s)) J.u J.P))) λy16=>grd ((e.q.length+1)*8<=140737488355328) <| G H 0 e.r.j (wI (e.r.K+1)) e.h.w y16 e.t (e.q++[H]))else bnd (KX e.h.w ((wI ((wI (B.1*e.h.c.W))+B.2.1)).toNat) ((wI ((wI ((wI (B.1*e.h.c.W))+B.2.1))+1)).toNat-(wI ((wI (B.1*e.h.c.W))+B.2.1)).toNat) 0) λp17=>bnd (Qeg N p17) λI=>bnd (Qbz N I.1) λz=>bnd (Qcy N e.h.c H) λg=>bif (g.2.2 != 0)then(bif (!I.2)then G 0 19 e.r.j e.r.K e.h.w e.h.p e.t e.q else G 0 19 e.r.j e.r.K e.h.w e.h.p e.t e.q)else grd (e.h.w.length<=140737488355328) <| bif (decide (z>(wI ((e.h.w.length:Int)-(wI ((wI (g.1*e.h.c.W))+g.2.1))))))then(bif (!I.2)then G 0 19 e.r.j e.r.K e.h.w e.h.p e.t e.q else G 0 19 e.r.j e.r.K e.h.w e.h.p e.t e.q)else grd (0<=(wI ((wI (g.1*e.h.c.W))+g.2.1))/\(wI ((wI (g.1*e.h.c.W))+g.2.1))<=(wI ((wI ((wI (g.1*e.h.c.W))+g.2.1))+z))/\(wI ((wI ((wI (g.1*e.h.c.W))+g.2.1))+z))<=(e.h.w.length:Int)) <| bif (!I.2)then G 0 19 e.r.j e.r.K e.h.w e.h.p e.t e.q else grd (((wI ((wI ((wI (g.1*e.h.c.W))+g.2.1))+z)).toNat-(wI ((wI (g.1*e.h.c.W))+g.2.1)).toNat)<=140737488355328) <| bnd (QcC N e ((((wI ((wI ((wI (g.1*e.h.c.W))+g.2.1))+z)).toNat-(wI ((wI (g.1*e.h.c.W))+g.2.1)).toNat):Nat):Int)) λA=>bif (A.2.2.1 != 0)then G 0 A.2.2.1 e.r.j e.r.K e.h.w A.2.2.2.1 A.2.2.2.2 e.q else jn (λ(x34 x35 x36:Int) (x37:List Int) (x38:List Ws) (x39:List Int)=>G x34 x35 x36 e.r.K x37 x38 A.2.2.2.2 x39) λO=>bnd (Qdm N e.h.c A.1 A.2.1) λD=>bif (D.2 != 0)then O 0 D.2 e.r.j e.h.w A.2.2.2.1 e.q else grd (((wI ((wI ((wI (g.1*e.h.c.W))+g.2.1))+z)).toNat-(wI ((wI (g.1*e.h.c.W))+g.2.1)).toNat)<=140737488355328) <| bnd (Qcy N e.h.c D.1) λv=>bif (v.2.2 != 0)then(bnd (Qb9 N D.1) λy28=>O 0 19 e.r.j e.h.w A.2.2.2.1 e.q)else grd (e.h.w.length<=140737488355328) <| bif (decide (((((wI ((wI ((wI (g.1*e.h.c.W))+g.2.1))+z)).toNat-(wI ((wI (g.1*e.h.c.W))+g.2.1)).toNat):Nat):Int)>(wI ((e.h.w.length:Int)-(wI ((wI (v.1*e.h.c.W))+v.2.1))))))then(bnd (Qb9 N D.1) λy29=>O 0 19 e.r.j e.h.w A.2.2.2.1 e.q)else grd (0<=(wI ((wI (v.1*e.h.c.W))+v.2.1))/\(wI ((wI (v.1*e.h.c.W))+v.2.1))<=(wI ((wI ((wI (v.1*e.h.c.W))+v.2.1))+((((wI ((wI ((wI (g.1*e.h.c.W))+g.2.1))+z)).toNat-(wI ((wI (g.1*e.h.c.W))+g.2.1)).toNat):Nat):Int)))/\(wI ((wI ((wI (v.1*e.h.c.W))+v.2.1))+((((wI ((wI ((wI (g.1*e.h.c.W))+g.2.1))+z)).toNat-(wI ((wI (g.1*e.h.c.W))+g.2.1)).toNat):Nat):Int)))<=(e.h.w.length:Int)) <| bnd (Qb9 N D.1) λR=>bif (R.2 != 0)then O 0 19 e.r.j e.h.w A.2.2.2.1 e.q else grd (((wI ((wI ((wI (g.1*e.h.c.W))+g.2.1))+z)).toNat-(wI ((wI (g.1*e.h.c.W))+g.2.1)).toNat)<=((wI ((wI ((wI (v.1*e.h.c.W))+v.2.1))+((((wI ((wI ((wI (g.1*e.h.c.W))+g.2.1))+z)).toNat-(wI ((wI (g.1*e.h.c.W))+g.2.1)).toNat):Nat):Int))).toNat-(wI ((wI (v.1*e.h.c.W))+v.2.1)).toNat)) <| bnd (KX (((e.h.w.take (wI ((wI (v.1*e.h.c.W))+v.2.1)).toNat)++((e.h.w.drop (wI ((wI (g.1*e.h.c.W))+g.2.1)).toNat).take ((wI ((wI ((wI (g.1*e.h.c.W))+g.2.1))+z)).toNat-(wI ((wI (g.1*e.h.c.W))+g.2.1)).toNat)))++(e.h.w.drop ((wI ((wI (v.1*e.h.c.W))+v.2.1)).toNat+((wI ((wI ((wI (g.1*e.h.c.W))+g.2.1))+z)).toNat-(wI ((wI (g.1*e.h.c.W))+g.2.1)).toNat)))) ((wI ((wI (g.1*e.h.c.W))+g.2.1)).toNat) ((wI ((wI ((wI (g.1*e.h.c.W))+g.2.1))+z)).toNat-(wI ((wI (g.1*e.h.c.W))+g.2.1)).toNat) 0) λp31=>bnd (Xe A.2.2.2.1 A.1) λp32=>grd (((wI ((wI ((wI (g.1*e.h.c.W))+g.2.1))+z)).toNat-(wI ((wI (g.1*e.h.c.W))+g.2.1)).toNat)<=140737488355328) <| bnd (Xe A.2.2.2.1 A.1) λL=>grd ((e.q.length+1)*8<=140737488355328) <| O D.1 0 (wI (e.r.j+1)) ((((e.h.w.take (wI ((wI (v.1*e.h.c.W))+v.2.1)).toNat)++((e.h.w.drop (wI ((wI (g.1*e.h.c.W))+g.2.1)).toNat).take ((wI ((wI ((wI (g.1*e.h.c.W))+g.2.1))+z)).toNat-(wI ((wI (g.1*e.h.c.W))+g.2.1)).toNat)))++(e.h.w.drop ((wI ((wI (v.1*e.h.c.W))+v.2.1)).toNat+((wI ((wI ((wI (g.1*e.h.c.W))+g.2.1))+z)).toNat-(wI ((wI (g.1*e.h.c.W))+g.2.1)).toNat)))).set (wI ((wI (g.1*e.h.c.W))+g.2.1)).toNat R.1) (A.2.2.2.1.set A.1.toNat (Ws.mk L.k L.s (wI (p32.u+((((wI ((wI ((wI (g.1*e.h.c.W))+g.2.1))+z)).toNat-(wI ((wI (g.1*e.h.c.W))+g.2.1)).toNat):Nat):Int))) L.P)) (e.q++[D.1])
def Qel(N:Nat)(B:List Int):Nat->Int->Int->Int->Int->Int->Int->Int->Int->Int->Int->Int->Int->(List Int)->(List Ws)->(List Int)->(List Int)->(List Int)->(List Int)->Option (Ex (Ww×List Int×Int) (Int×Int×Int×Int×Int×Int×Int×Int×Int×Int×Int×List Int×List Ws×List Int×List Int×List Int×List Int))
 |0,_,_,_,_,_,_,_,_,_,_,_,_,_,_,_,_,_,_=>none
 |n+1,v6,v7,v8,v9,v10,v11,k,v13,u,v15,v,v17,v18,v19,v20,z,A,g=>
  bif (decide (v6<(B.length:Int)))then(bnd (Xe B v6) λD=>
   bnd (Qa4 N (Ww.mk (Wk.mk (WN.mk v7 v8) v18 v19 v9 v10) v20 z A v11 (WR.mk k v13 u v15 v v17)) D) λe=>
   bif (e.2.1 != 0)then some (.ret ((Ww.mk zHp [] [] [] 0 (WR.mk 0 0 0 0 0 0)),[],e.2.1))
   else grd ((g.length+1)*8<=140737488355328) <|
   Qel N B n (wI (v6+1)) e.2.2.h.c.W e.2.2.h.c.p e.2.2.h.s e.2.2.h.b e.2.2.d e.2.2.r.j e.2.2.r.K e.2.2.r.F e.2.2.r.E e.2.2.r.f e.2.2.r.y e.2.2.h.w e.2.2.h.p e.2.2.o e.2.2.t e.2.2.q (g++[e.1]))
  else some (.nxt (v7,v8,v9,v10,v11,k,v13,u,v15,v,v17,v18,v19,v20,z,A,g))
def QfR(N:Nat)(k:Ww)(u:List Int):Option (Ww×List Int×Int):=bnd (Qae N k.h.w) λv=>bnd (Qad N k.h.p) λz=>bnd (Qae N k.o) λA=>bnd (QaA N k.t) λB=>bnd (Qae N k.q) λD=>bnd (Qel N u N 0 k.h.c.W k.h.c.p k.h.s k.h.b k.d k.r.j k.r.K k.r.F k.r.E k.r.f k.r.y v z A B D []) λe=>exK e (λr=>some r) λg=>some ((Ww.mk (Wk.mk (WN.mk g.1 g.2.1) g.2.2.2.2.2.2.2.2.2.2.2.1 g.2.2.2.2.2.2.2.2.2.2.2.2.1 g.2.2.1 g.2.2.2.1) g.2.2.2.2.2.2.2.2.2.2.2.2.2.1 g.2.2.2.2.2.2.2.2.2.2.2.2.2.2.1 g.2.2.2.2.2.2.2.2.2.2.2.2.2.2.2.1 g.2.2.2.2.1 (WR.mk g.2.2.2.2.2.1 g.2.2.2.2.2.2.1 g.2.2.2.2.2.2.2.1 g.2.2.2.2.2.2.2.2.1 g.2.2.2.2.2.2.2.2.2.1 g.2.2.2.2.2.2.2.2.2.2.1)),g.2.2.2.2.2.2.2.2.2.2.2.2.2.2.2.2,0)
def Qfm(N:Nat)(v6 k:Int)(g:Int×Int×Int)(u:List Int):Nat->Int->Int->Int->Int->Int->Int->Int->Int->Int->Int->Int->Int->(List Int)->(List Ws)->(List Int)->(List Int)->(List Int)->Option (Ex (Int×Int×Int×Int×Int×Int×Int×Int×Int×Int×Int×Int×List Int×List Ws×List Int×List Int×List Int) (Int×Int×Int×Int×Int×Int×Int×Int×Int×Int×Int×List Int×List Ws×List Int×List Int×List Int))
 |0,_,_,_,_,_,_,_,_,_,_,_,_,_,_,_,_,_=>none
 |n+1,v,A,B,D,G,H,I,J,L,M,O,R,v45,S,T,U,V=>
  bif (decide (v<(u.length:Int)))then(bnd (Xe u v) λz=>
   bnd (KX v45 ((wI ((wI (g.1*v6))+g.2.1)).toNat) ((wI ((wI ((wI (g.1*v6))+g.2.1))+k)).toNat-(wI ((wI (g.1*v6))+g.2.1)).toNat) (wI (1+z))) λY=>
   bnd (Qa4 N (Ww.mk (Wk.mk (WN.mk A B) v45 S D G) T U V H (WR.mk I J L M O R)) Y) λe=>
   bif (e.2.1 != 0)then some (.ret (e.2.1,e.2.2.h.c.W,e.2.2.h.c.p,e.2.2.h.s,e.2.2.h.b,e.2.2.d,e.2.2.r.j,e.2.2.r.K,e.2.2.r.F,e.2.2.r.E,e.2.2.r.f,e.2.2.r.y,e.2.2.h.w,e.2.2.h.p,e.2.2.o,e.2.2.t,e.2.2.q))
   else bnd (KX e.2.2.h.w ((wI ((wI (g.1*v6))+g.2.1)).toNat) ((wI ((wI ((wI (g.1*v6))+g.2.1))+k)).toNat-(wI ((wI (g.1*v6))+g.2.1)).toNat) (wI (1+z))) λZ=>
   Qfm N v6 k g u n (wI (v+1)) e.2.2.h.c.W e.2.2.h.c.p e.2.2.h.s e.2.2.h.b e.2.2.d e.2.2.r.j e.2.2.r.K e.2.2.r.F e.2.2.r.E e.2.2.r.f e.2.2.r.y (e.2.2.h.w.set ((wI ((wI (g.1*v6))+g.2.1)).toNat+(wI (1+z)).toNat) e.1) e.2.2.h.p e.2.2.o e.2.2.t e.2.2.q)
  else some (.nxt (A,B,D,G,H,I,J,L,M,O,R,v45,S,T,U,V))
def Qfn(N:Nat):Nat->Int->Int->Int->Int->Int->Int->Int->Int->Int->Int->Int->(List Int)->(List Ws)->(List Int)->(List Int)->(List Int)->Option (Ww×Int)
 |0,_,_,_,_,_,_,_,_,_,_,_,_,_,_,_,_=>none
 |n+1,v6,v7,v8,v9,v10,v11,o,v13,p,v15,q,v17,v18,v19,v20,j=>
  jn (λ(U:Bool) (v w y z A B D E G H I J:Int) (K:List Int) (L:List Ws) (M O R:List Int)=>
   bif (v != 0)then some ((Ww.mk zHp [] [] [] 0 (WR.mk 0 0 0 0 0 0)),v)
   else bif (!U)then some ((Ww.mk (Wk.mk (WN.mk w y) K L z A) M O R B (WR.mk D E G H I J)),0)
   else Qfn N n w y z A B D E G H I J K L M O R) λr=>
  bif (decide (v10<0))then r false 0 v6 v7 v8 v9 v10 v11 o v13 p v15 q v17 v18 v19 v20 j
  else grd (j.length<=140737488355328) <|
  bif (decide (v10>=(j.length:Int)))then r false 0 v6 v7 v8 v9 v10 v11 o v13 p v15 q v17 v18 v19 v20 j
  else bnd (Xe j v10) λS=>
  bnd (Qcy N (WN.mk v6 v7) S) λf=>
  bif (f.2.2 != 0)then r false 19 v6 v7 v8 v9 v10 v11 o v13 p v15 q v17 v18 v19 v20 j
  else grd (v17.length<=140737488355328) <|
  bif (decide (1>(wI ((v17.length:Int)-(wI ((wI (f.1*v6))+f.2.1))))))then r false 19 v6 v7 v8 v9 v10 v11 o v13 p v15 q v17 v18 v19 v20 j
  else grd (0<=(wI ((wI (f.1*v6))+f.2.1))/\(wI ((wI (f.1*v6))+f.2.1))<=(wI ((wI ((wI (f.1*v6))+f.2.1))+1))/\(wI ((wI ((wI (f.1*v6))+f.2.1))+1))<=(v17.length:Int)) <|
  bnd (KX v17 ((wI ((wI (f.1*v6))+f.2.1)).toNat) ((wI ((wI ((wI (f.1*v6))+f.2.1))+1)).toNat-(wI ((wI (f.1*v6))+f.2.1)).toNat) 0) λV=>
  bnd (Qeg N V) λs=>
  bnd (Qbz N s.1) λu=>
  bnd (Qcy N (WN.mk v6 v7) S) λk=>
  bif (k.2.2 != 0)then(bif (!s.2)then r false 19 v6 v7 v8 v9 v10 v11 o v13 p v15 q v17 v18 v19 v20 j
   else r false 19 v6 v7 v8 v9 v10 v11 o v13 p v15 q v17 v18 v19 v20 j)
  else grd (v17.length<=140737488355328) <|
  bif (decide (u>(wI ((v17.length:Int)-(wI ((wI (k.1*v6))+k.2.1))))))then(bif (!s.2)then r false 19 v6 v7 v8 v9 v10 v11 o v13 p v15 q v17 v18 v19 v20 j
   else r false 19 v6 v7 v8 v9 v10 v11 o v13 p v15 q v17 v18 v19 v20 j)
  else grd (0<=(wI ((wI (k.1*v6))+k.2.1))/\(wI ((wI (k.1*v6))+k.2.1))<=(wI ((wI ((wI (k.1*v6))+k.2.1))+u))/\(wI ((wI ((wI (k.1*v6))+k.2.1))+u))<=(v17.length:Int)) <|
  bif (!s.2)then r false 19 v6 v7 v8 v9 v10 v11 o v13 p v15 q v17 v18 v19 v20 j
  else bnd (Qea N s.1) λT=>
  bnd (Qfm N v6 u k T N 0 v6 v7 v8 v9 v10 v11 o v13 p v15 q v17 v18 v19 v20 j) λe=>exK e (λg=>r false g.1 g.2.1 g.2.2.1 g.2.2.2.1 g.2.2.2.2.1 g.2.2.2.2.2.1 g.2.2.2.2.2.2.1 g.2.2.2.2.2.2.2.1 g.2.2.2.2.2.2.2.2.1 g.2.2.2.2.2.2.2.2.2.1 g.2.2.2.2.2.2.2.2.2.2.1 g.2.2.2.2.2.2.2.2.2.2.2.1 g.2.2.2.2.2.2.2.2.2.2.2.2.1 g.2.2.2.2.2.2.2.2.2.2.2.2.2.1 g.2.2.2.2.2.2.2.2.2.2.2.2.2.2.1 g.2.2.2.2.2.2.2.2.2.2.2.2.2.2.2.1 g.2.2.2.2.2.2.2.2.2.2.2.2.2.2.2.2) λh=>
  r true 0 h.1 h.2.1 h.2.2.1 h.2.2.2.1 (wI (h.2.2.2.2.1+1)) h.2.2.2.2.2.1 h.2.2.2.2.2.2.1 h.2.2.2.2.2.2.2.1 h.2.2.2.2.2.2.2.2.1 h.2.2.2.2.2.2.2.2.2.1 (wI (h.2.2.2.2.2.2.2.2.2.2.1+(wI (1+(T.length:Int))))) h.2.2.2.2.2.2.2.2.2.2.2.1 h.2.2.2.2.2.2.2.2.2.2.2.2.1 h.2.2.2.2.2.2.2.2.2.2.2.2.2.1 h.2.2.2.2.2.2.2.2.2.2.2.2.2.2.1 h.2.2.2.2.2.2.2.2.2.2.2.2.2.2.2
def Qgo(N:Nat)(e:Ww):Option (Ww×Int):=bnd (Qae N e.h.w) λg=>bnd (Qad N e.h.p) λk=>bnd (Qae N e.o) λu=>bnd (QaA N e.t) λv=>bnd (Qae N e.q) λz=>bnd (Qfn N N e.h.c.W e.h.c.p e.h.s e.h.b e.d e.r.j e.r.K e.r.F e.r.E e.r.f e.r.y g k u v z) λr=>some r
def Qam(N:Nat)(e:Int):Option Unit:=bif (e != 0)then none else some ()
def Qf4(N:Nat)(e:Ww)(f:Int):Option Int:=bnd (Qai N e.q f) λj=>bif j then some f else bnd (Qcy N e.h.c f) λg=>bnd (Qam N g.2.2) λp=>bnd (Xe e.h.w (wI ((wI (g.1*e.h.c.W))+g.2.1))) λk=>bnd (Qe3 N k) λo=>some o.1
def QcG(N:Nat)(e:Ww)(g:List Int):Nat->Int->Int->(List Int)->Option (List Int×Int)
 |0,_,_,_=>none
 |n+1,k,f,p=>
  bif (decide (k<(g.length:Int)))then(bnd (Xe g k) λs=>
   jn (λ(z A:Int)=>
    grd ((p.length+1)*8<=140737488355328) <|
    QcG N e g n (wI (k+1)) A (p++[z])) λu=>
   bif (s != 0)then(bnd (Qf4 N (Ww.mk e.h e.o e.t e.q e.d (WR.mk e.r.j e.r.K e.r.F e.r.E f e.r.y)) s) λv=>
    jn (λ(B:Int)=>
     u v B) λw=>
    bif (v==0)then w (wI (f+1))
    else w f)
   else u 0 f)
  else some (p,f)
def QdP(N:Nat)(e:Ww)(k:List Int):Option (List Int×Ww):=bnd (QcG N e k N 0 e.r.f []) λg=>some (g.1,(Ww.mk e.h e.o e.t e.q e.d (WR.mk e.r.j e.r.K e.r.F e.r.E g.2 e.r.y)))
def Qeq(N:Nat)(e:Ww)(f:Int):Option Bool:=jn (λ(q:Bool)=>some q) λg=>bif (decide (f<0))then g false else bif (decide (f>=(e.h.p.length:Int)))then g false else bnd (Xe e.h.p f) λo=>jn (λ(r:Bool)=>g r) λj=>bif (o.k==1)then(bif (o.s==(wI (1-e.h.s)))then(bnd (Qbj N e.t f) λu=>j (!u))else j false)else j false
def QhA(N:Nat)(g:Wk)(h e:Int):Option (Wk×Int):=bif (decide (e<1))then some (zHp,1)else bif (decide (e>256))then some (zHp,1)else bnd (Qfl N g h (Wv.mk 0 (wI (e-1)) 0)) λf=>some (f.1,f.2)
def QcF(N:Nat)(u:Ww)(f:List Int×Int)(v:Int):Nat->Int->Int->Int->(List Int)->(List Ws)->Int->Int->Int->Option (Int×Int×List Int×List Ws×Int×Int×Int)
 |0,_,_,_,_,_,_,_,_=>none
 |n+1,g,v13,h,v15,j,v17,v18,v19=>
  bif (decide (g<(f.1.length:Int)))then(bnd (Xe f.1 g) λo=>
   bnd (Qd6 N (Wk.mk (WN.mk v13 h) v15 j v17 v18) o) λr=>
   bnd (Qam N r.2) λA=>
   bif (r.1.k==0)then QcF N u f v n (wI (g+1)) v13 h v15 j v17 v18 v19
   else bnd (Qai N u.q o) λy=>
   bif y then QcF N u f v n (wI (g+1)) v13 h v15 j v17 v18 v19
   else bnd (Qbz N r.1) λz=>
   bnd (QhA N (Wk.mk (WN.mk v13 h) v15 j v17 v18) o z) λe=>
   bnd (Qam N e.2) λB=>
   QcF N u f v n (wI (g+1)) e.1.c.W e.1.c.p e.1.w e.1.p e.1.s e.1.b (wI (v19+1)))
  else some (v13,h,v15,j,v17,v18,v19)
def Qdo(N:Nat)(g:Ww):Nat->Int->Int->Int->(List Int)->(List Ws)->Int->Int->Int->Option (Int×Int×List Int×List Ws×Int×Int×Int)
 |0,_,_,_,_,_,_,_,_=>none
 |n+1,k,s,u,v,w,v6,v7,v8=>
  bif (decide (k<(g.h.p.length:Int)))then(bnd (Qeq N (Ww.mk (Wk.mk (WN.mk s u) v w v6 v7) g.o g.t g.q g.d (WR.mk g.r.j g.r.K v8 g.r.E g.r.f g.r.y)) k) λA=>
   bif (!A)then Qdo N g n (wI (k+1)) s u v w v6 v7 v8
   else bnd (Qfc N (Wk.mk (WN.mk s u) v w v6 v7) k) λz=>
   bnd (Qam N z.2) λB=>
   bnd (QcF N g z k N 0 s u v w v6 v7 v8) λe=>
   Qdo N g n (wI (k+1)) e.1 e.2.1 e.2.2.1 e.2.2.2.1 e.2.2.2.2.1 e.2.2.2.2.2.1 e.2.2.2.2.2.2)
  else some (s,u,v,w,v6,v7,v8)
def QeQ(N:Nat)(e:Ww):Option Ww:=bnd (Qdo N e N 0 e.h.c.W e.h.c.p e.h.w e.h.p e.h.s e.h.b e.r.F) λg=>some (Ww.mk (Wk.mk (WN.mk g.1 g.2.1) g.2.2.1 g.2.2.2.1 g.2.2.2.2.1 g.2.2.2.2.2.1) e.o e.t e.q e.d (WR.mk e.r.j e.r.K g.2.2.2.2.2.2 e.r.E e.r.f e.r.y))
def QeR(N:Nat)(g:Ws):Nat->Int->(List Ws)->Option (List Ws)
 |0,_,_=>none
 |n+1,f,e=>
  bif (g.k==2)then(grd (e.length<=140737488355328) <|
   bif (decide (f<(e.length:Int)))then(bnd (Xe e f) λh=>
    bif (h.k==3)then(bnd (Xe e f) λj=>
     QeR N g n (wI (f+1)) (e.set f.toNat (Ws.mk 0 0 0 0)))
    else some e)
   else some e)
  else some e
def QhB(N:Nat)(f:List Ws)(e:Int):Option (List Ws×Int):=bif (decide (e<0))then some ([],2)else bif (decide (e>=(f.length:Int)))then some ([],2)else bnd (Xe f e) λg=>jn (λ(_:Unit)=>bnd (Qad N f) λh=>bnd (Xe h e) λp=>bnd (QeR N g N (wI (e+1)) (h.set e.toNat (Ws.mk 0 0 0 0))) λo=>some (o,0)) λj=>bif (g.k != 1)then(bif (g.k != 2)then some ([],20)else j ())else j ()
def QbR(N:Nat)(e:Ww):Nat->Int->(List Ws)->Int->(List Int)->Option (List Int×List Ws×Int)
 |0,_,_,_,_=>none
 |n+1,f,j,o,g=>
  bif (decide (f<(e.h.p.length:Int)))then(bnd (Xe e.h.p f) λq=>
   bif (q.k==0)then QbR N e n (wI (f+1)) j o g
   else bif (q.s != e.h.s)then QbR N e n (wI (f+1)) j o g
   else grd (0<=(wI (f*e.h.c.W))/\(wI (f*e.h.c.W))<=(wI ((wI (f+1))*e.h.c.W))/\(wI ((wI (f+1))*e.h.c.W))<=(g.length:Int)) <|
   bif (q.k != 3)then(bnd (QhB N j f) λr=>
    bnd (Qam N r.2) λu=>
    QbR N e n (wI (f+1)) r.1 (wI (o+1)) (((g.take (wI (f*e.h.c.W)).toNat)++(List.replicate ((wI ((wI (f+1))*e.h.c.W)).toNat-(wI (f*e.h.c.W)).toNat) (0:Int)))++(g.drop ((wI (f*e.h.c.W)).toNat+((wI ((wI (f+1))*e.h.c.W)).toNat-(wI (f*e.h.c.W)).toNat)))))
   else QbR N e n (wI (f+1)) j (wI (o+1)) (((g.take (wI (f*e.h.c.W)).toNat)++(List.replicate ((wI ((wI (f+1))*e.h.c.W)).toNat-(wI (f*e.h.c.W)).toNat) (0:Int)))++(g.drop ((wI (f*e.h.c.W)).toNat+((wI ((wI (f+1))*e.h.c.W)).toNat-(wI (f*e.h.c.W)).toNat)))))
  else some (g,j,o)
def QeS(N:Nat)(e:Ww):Option Ww:=bnd (Qae N e.h.w) λk=>bnd (QbR N e N 0 e.h.p e.r.E k) λg=>some (Ww.mk (Wk.mk e.h.c g.1 g.2.1 e.h.s e.h.b) e.o e.t e.q e.d (WR.mk e.r.j e.r.K e.r.F g.2.2 e.r.f e.r.y))
def Qeb(N:Nat)(k:Wk)(o q:List Int):Option (Wk×List Int×List Int×WR×Int):=bnd (QeJ N k) λu=>bif (u.2==0)then(bnd (QaT N [o,q]) λz=>bnd (Qd9 N k z) λA=>bif A then(bnd (QfR N u.1 o) λf=>bif (f.2.2==0)then(bnd (Qgo N f.1) λg=>bif (g.2==0)then(bnd (QdP N g.1 q) λv=>bnd (QeQ N v.2) λB=>bnd (QeS N B) λe=>grd (e.t.length<=140737488355328) <| jn (λ(D:Int)=>some ((Wk.mk e.h.c e.h.w e.h.p (wI (1-e.h.s)) D),f.2.1,v.1,e.r,0)) λy=>bif (decide ((e.t.length:Int)>0))then(bnd (Xe e.t (wI ((e.t.length:Int)-1))) λj=>y j)else y (-1))else some (zHp,[],[],(WR.mk 0 0 0 0 0 0),g.2))else some (zHp,[],[],(WR.mk 0 0 0 0 0 0),f.2.2))else none)else none
def Qem(N:Nat)(g:Wp):Nat->(List Int)->Int->(List UB)->Option (List UB)
 |0,_,_,_=>none
 |n+1,e,v6,v7=>
  bif (decide (v6<(g.S.length:Int)))then(bnd (Xe v7 v6) λh=>
   bif h.V then(bnd (Xe e 0) λj=>
    grd (0<=1/\1<=(e.length:Int)/\(e.length:Int)<=(e.length:Int)) <|
    bnd (Xe v7 v6) λf=>
    Qem N g n (e.drop 1) (wI (v6+1)) (v7.set v6.toNat (UB.mk f.J j f.V)))
   else Qem N g n e (wI (v6+1)) v7)
  else some v7
def Qg9(N:Nat)(f:Wp)(g:List Int):Option (Wp×Int):=bnd (QcR N f) λj=>bif (!j)then some ((Wp.mk [] [] []),1)else bnd (QfP N f) λk=>bif ((k.length:Int) != (g.length:Int))then some ((Wp.mk [] [] []),1)else bnd (Qai N g 0) λo=>bif o then some ((Wp.mk [] [] []),1)else bnd (QdX N f) λe=>grd (e.S.length<=140737488355328) <| bnd (Qem N e N g 0 e.S) λh=>some ((Wp.mk h e.x e.i),0)
def Qhi(N:Nat)(f:Wu):Option Wu:=bnd (Qau N f.e) λg=>some (Wu.mk g)
def Qen(N:Nat)(h:Wu):Nat->(List Int)->Int->(List W5)->Option (List W5)
 |0,_,_,_=>none
 |n+1,f,g,v6=>
  bif (decide (g<(h.e.length:Int)))then(bnd (Xe v6 g) λk=>
   bif k.V then(bnd (Xe f 0) λo=>
    grd (0<=1/\1<=(f.length:Int)/\(f.length:Int)<=(f.length:Int)) <|
    bnd (Xe v6 g) λj=>
    Qen N h n (f.drop 1) (wI (g+1)) (v6.set g.toNat (W5.mk j.G o j.V)))
   else Qen N h n f (wI (g+1)) v6)
  else some v6
def QgB(N:Nat)(f:Wu)(j:List Int):Option (Wu×Int):=bnd (QdV N f) λk=>bif (!k)then some ((Wu.mk []),1)else bnd (QdW N f) λo=>bif ((o.length:Int) != (j.length:Int))then some ((Wu.mk []),1)else bnd (Qhi N f) λg=>grd (g.e.length<=140737488355328) <| bnd (Qen N g N j 0 g.e) λh=>some ((Wu.mk h),0)
def Qec(N:Nat)(e:Int)(f:List Int):Option (List Int×List Int):=grd (0<=0/\0<=e/\e<=(f.length:Int)) <| grd (0<=e/\e<=(f.length:Int)/\(f.length:Int)<=(f.length:Int)) <| some ((f.take e.toNat),(f.drop e.toNat))
def QeK(N:Nat)(o:Wk×List Int×List Int×WR×Int)(p:W3)(q:List Int×List Int)(r:Wp×Int)(f:List Int×List Int)(g h:Wu×Int):Nat->Int->(List UE)->Option (List UE)
 |0,_,_=>none
 |n+1,e,v15=>
  bif (decide (e<(f.2.length:Int)))then(bnd (Xe f.2 e) λj=>
   bnd (Xe v15 e) λk=>
   QeK N o p q r f g h n (wI (e+1)) (v15.set e.toNat (UE.mk j k.M)))
  else some v15
def QgI(N:Nat)(e:W3):Option (W3×WR×Int):=bnd (QcE N e) λy=>bif (!y)then some ((W3.mk zHp (Wp.mk [] [] []) (Wu.mk []) (Wu.mk []) [] []),(WR.mk 0 0 0 0 0 0),19)else bnd (Qgz N e) λz=>bnd (QdW N e.v) λA=>bnd (Qeb N e.h z A) λf=>bif (f.2.2.2.2 != 0)then some ((W3.mk zHp (Wp.mk [] [] []) (Wu.mk []) (Wu.mk []) [] []),(WR.mk 0 0 0 0 0 0),f.2.2.2.2)else bnd (QbV N e) λo=>bnd (Qec N (e.R.length:Int) f.2.1) λp=>grd (p.1.length<=o.R.length) <| bnd (QfP N e.l) λB=>bnd (Qec N (B.length:Int) p.2) λw=>bnd (Qg9 N e.l w.1) λr=>bnd (QdW N e.g) λs=>bnd (Qec N (s.length:Int) w.2) λq=>bnd (QgB N e.g q.1) λj=>bnd (QgB N e.v f.2.2.1) λk=>bnd (QeK N f o p r q j k N 0 o.P) λu=>bif (!((r.2==0)&&((j.2==0)&&(k.2==0))))then some ((W3.mk zHp (Wp.mk [] [] []) (Wu.mk []) (Wu.mk []) [] []),(WR.mk 0 0 0 0 0 0),19)else some ((W3.mk f.1 r.1 j.1 k.1 u (((o.R.take 0)++p.1)++(o.R.drop p.1.length))),f.2.2.2.1,0)
def Qhn(N:Nat)(f:W3)(p:Wv):Option (W3×Int×Int):=bnd (QcE N f) λq=>bif (!q)then some ((W3.mk zHp (Wp.mk [] [] []) (Wu.mk []) (Wu.mk []) [] []),0,19)else bnd (QfQ N f.h.c p) λr=>bif (!r)then some ((W3.mk zHp (Wp.mk [] [] []) (Wu.mk []) (Wu.mk []) [] []),0,1)else bnd (QbV N f) λj=>bnd (QeF N f.h p) λk=>bif (k.2.2==3)then(bnd (QgI N f) λe=>bif (e.2.2 != 0)then some ((W3.mk zHp (Wp.mk [] [] []) (Wu.mk []) (Wu.mk []) [] []),0,e.2.2)else bnd (QeF N e.1.h p) λo=>bif (o.2.2 != 0)then some ((W3.mk zHp (Wp.mk [] [] []) (Wu.mk []) (Wu.mk []) [] []),0,o.2.2)else some ((W3.mk o.1 e.1.l e.1.g e.1.v e.1.P e.1.R),o.2.1,0))else bif (k.2.2 != 0)then some ((W3.mk zHp (Wp.mk [] [] []) (Wu.mk []) (Wu.mk []) [] []),0,k.2.2)else some ((W3.mk k.1 j.l j.g j.v j.P j.R),k.2.1,0)
def QeT(N:Nat)(e:UR):Option Bool:=bif (decide (e.Tag<1))then some false else bif (decide (e.Tag>3))then some false else bif (decide (e.Index<0))then some false else bif (decide (e.J<1))then some false else bnd (Qa1 N 16) λf=>bif (decide ((wU e.Index)<=f))then(bnd (Qa1 N 32) λg=>some (decide ((wU e.J)<=g)))else some false
def Qeo(N:Nat)(e:UR):Option (Int×Int):=bnd (QeT N e) λg=>bif (!g)then some (0,1)else bnd (Qfd N [(UJ.mk 2 (wU e.Tag)),(UJ.mk 16 (wU e.Index)),(UJ.mk 32 (wU e.J))]) λf=>some (f.1,f.2)
def QdQ(N:Nat)(u:W3)(k D E:Int):Option (W3×Int×Int):=bnd (QcE N u) λz=>bif (!z)then some ((W3.mk zHp (Wp.mk [] [] []) (Wu.mk []) (Wu.mk []) [] []),0,19)else bnd (QbV N u) λf=>bnd (QfG N f.l 4096) λo=>grd (f.P.length<=140737488355328) <| bif (decide ((f.P.length:Int)>0))then some ((W3.mk zHp (Wp.mk [] [] []) (Wu.mk []) (Wu.mk []) [] []),0,15)else bif (!(decide (k<=2147483647)))then some ((W3.mk zHp (Wp.mk [] [] []) (Wu.mk []) (Wu.mk []) [] []),0,1)else bnd (QfQ N f.h.c (Wv.mk 3 (wI (if 2147483647<k then 2147483647 else k)) 0)) λA=>bif (!A)then some ((W3.mk zHp (Wp.mk [] [] []) (Wu.mk []) (Wu.mk []) [] []),0,1)else bif (o.2.2.2 != 0)then(bif (o.2.2.2 != 0)then some ((W3.mk zHp (Wp.mk [] [] []) (Wu.mk []) (Wu.mk []) [] []),0,o.2.2.2)else some (f,0,0))else bnd (Qhn N f (Wv.mk 3 (wI (if 2147483647<k then 2147483647 else k)) 0)) λe=>bif (e.2.2 != 0)then(bif (e.2.2 != 0)then some ((W3.mk zHp (Wp.mk [] [] []) (Wu.mk []) (Wu.mk []) [] []),0,e.2.2)else some (f,0,0))else jn (λ(B w:Int) (p:List UB) (q:List UM) (r:List Int)=>bif (w != 0)then some ((W3.mk zHp (Wp.mk [] [] []) (Wu.mk []) (Wu.mk []) [] []),0,w)else some ((W3.mk e.1.h (Wp.mk p q r) e.1.g e.1.v e.1.P e.1.R),B,0)) λs=>bif (e.2.1==0)then s 0 0 e.1.l.S e.1.l.x e.1.l.i else bnd (QfG N e.1.l e.2.1) λj=>bif (j.2.2.2 != 0)then s 0 j.2.2.2 e.1.l.S e.1.l.x e.1.l.i else bnd (Qeo N (UR.mk 1 j.2.1 j.2.2.1)) λy=>s y.1 y.2 j.1.S j.1.x j.1.i
def Qf5(N:Nat)(f:Int):Option (UR×Int):=bif (f==0)then some ((UR.mk 0 0 0),5)else bnd (Qdf N f [2,16,32]) λe=>bif (e.2 != 0)then some ((UR.mk 0 0 0),6)else bnd (Xe e.1 0) λg=>bnd (Xe e.1 1) λh=>bnd (Xe e.1 2) λj=>bnd (QeT N (UR.mk (wI g) (wI h) (wI j))) λk=>bif (!k)then some ((UR.mk 0 0 0),6)else some ((UR.mk (wI g) (wI h) (wI j)),0)
def Qho(N:Nat)(e:Wp)(f g:Int):Option (Int×Int):=bnd (QcR N e) λh=>bif (!h)then some (0,1)else bif (decide (g<1))then some (0,6)else bif (decide (g>(e.i.length:Int)))then some (0,6)else bnd (Xe e.i (wI (g-1))) λj=>bif (j != f)then some (0,6)else bif (decide (f>=(e.S.length:Int)))then some (0,7)else bnd (Xe e.S f) λk=>bif (k.J != g)then some (0,7)else bnd (Xe e.S f) λo=>bif (!o.V)then some (0,8)else bnd (Xe e.S f) λp=>some (p.a,0)
def Qhj(N:Nat)(f:Wu)(g h:Int):Option Int:=bnd (QdV N f) λj=>bif (!j)then some 1 else bif (decide (g<0))then some 6 else bif (decide (g>=(f.e.length:Int)))then some 6 else bif (decide (h<1))then some 6 else bnd (Xe f.e g) λk=>bif (decide (h>k.G))then some 6 else bnd (Xe f.e g) λo=>bif (decide (h<o.G))then some 8 else bnd (Xe f.e g) λp=>bif (!p.V)then some 8 else some 0
def QgV(N:Nat)(f:Wu)(g j:Int):Option (Int×Int):=bnd (Qhj N f g j) λh=>bif (h != 0)then some (0,h)else bnd (Xe f.e g) λk=>some (k.a,0)
def Qct(N:Nat)(f:W3)(o:Int):Option (Int×Int):=bnd (QcE N f) λp=>bif (!p)then some (0,19)else bnd (Qf5 N o) λe=>bif (e.2==5)then some (0,0)else bif (e.2 != 0)then some (0,e.2)else bif (e.1.Tag==1)then(bnd (Qho N f.l e.1.Index e.1.J) λh=>some (h.1,h.2))else bif (e.1.Tag==2)then(bnd (QgV N f.g e.1.Index e.1.J) λj=>some (j.1,j.2))else bnd (QgV N f.v e.1.Index e.1.J) λk=>some (k.1,k.2)
def Qfe(N:Nat)(f:Wk)(g:Int):Option (Wv×Int):=bnd (QbQ N f) λh=>bif (!h)then some ((Wv.mk 0 0 0),1)else bif (g==0)then some ((Wv.mk 0 0 0),5)else bnd (Qd6 N f g) λe=>bif (e.2 != 0)then some ((Wv.mk 0 0 0),e.2)else bif (e.1.k==0)then some ((Wv.mk 0 0 0),4)else some (e.1,0)
def QfS(N:Nat)(p:W3)(v z A:Int):Option (W3×Int×Int):=bnd (QcE N p) λw=>bif (!w)then some ((W3.mk zHp (Wp.mk [] [] []) (Wu.mk []) (Wu.mk []) [] []),0,19)else bnd (QbV N p) λg=>jn (λ(B q D j y:Int)=>bif (q != 0)then some ((W3.mk zHp (Wp.mk [] [] []) (Wu.mk []) (Wu.mk []) [] []),0,q)else some (g,(wU j),0)) λr=>jn (λ(s u:Int)=>bif (u != 0)then r 0 u 0 0 0 else bnd (Qfe N g.h s) λe=>r s e.2 e.1.k e.1.n e.1.Map) λo=>bnd (Qct N g v) λf=>bif (f.2 != 0)then o 0 f.2 else bif (f.1==0)then o 0 5 else o f.1 0
def QfB(N:Nat)(h:Wk)(g e:Int):Option (Int×Int):=bnd (Qfe N h g) λf=>bif (f.2 != 0)then some (0,f.2)else bif (decide (e<0))then some (0,2)else bif (decide (e>=f.1.n))then some (0,2)else some ((wU ((wU (g+1))+(wU e))),0)
def Qgp(N:Nat)(f:Wk)(h j:Int):Option (Int×Int):=bnd (QfB N f h j) λe=>bif (e.2 != 0)then some (0,e.2)else bnd (QfN N f.w e.1) λg=>some (g.1,g.2)
def QdR(N:Nat)(B:W3)(J s O:Int):Option (W3×Int×Int):=bnd (QcE N B) λK=>bif (!K)then some ((W3.mk zHp (Wp.mk [] [] []) (Wu.mk []) (Wu.mk []) [] []),0,19)else bnd (QbV N B) λo=>jn (λ(u e:Int)=>bif (e != 0)then some ((W3.mk zHp (Wp.mk [] [] []) (Wu.mk []) (Wu.mk []) [] []),0,e)else some (o,u,0)) λD=>jn (λ(v w f:Int)=>bif (f != 0)then D 0 f else bnd (Qgp N o.h v w) λg=>D g.1 g.2) λp=>jn (λ(L E M j y:Int)=>bif (E != 0)then p 0 0 E else bif (decide (s>=(wU j)))then p 0 0 2 else bnd (QdN N (Wv.mk M j y) (wI s)) λz=>bif (!(z==false))then p 0 0 4 else p L (wI s) 0) λG=>jn (λ(H I:Int)=>bif (I != 0)then G 0 I 0 0 0 else bnd (Qfe N o.h H) λq=>G H q.2 q.1.k q.1.n q.1.Map) λA=>bnd (Qct N o J) λr=>bif (r.2 != 0)then A 0 r.2 else bif (r.1==0)then A 0 5 else A r.1 0
def QgJ(N:Nat)(f:List Int)(g h:Int):Option (List Int×Int):=bnd (Qgd N f g [h]) λe=>some (e.1,e.2)
def Qff(N:Nat)(e:Wk)(j k o:Int):Option (Wk×Int):=bnd (QfB N e j k) λf=>bif (f.2 != 0)then some (zHp,f.2)else bnd (QgJ N e.w f.1 o) λg=>bnd (QeI N e g.1 g.2) λh=>some (h.1,h.2)
def QdS(N:Nat)(Z:W3)(a2 z a4:Int):Option (W3×Int×Int):=bnd (QcE N Z) λy1=>bif (!y1)then some ((W3.mk zHp (Wp.mk [] [] []) (Wu.mk []) (Wu.mk []) [] []),0,19)else bnd (QbV N Z) λe=>jn (λ(j A B:Int) (D:List Int) (E:List Ws) (G H:Int)=>bif (j != 0)then some ((W3.mk zHp (Wp.mk [] [] []) (Wu.mk []) (Wu.mk []) [] []),0,j)else some ((W3.mk (Wk.mk (WN.mk A B) D E G H) e.l e.g e.v e.P e.R),0,0)) λj5=>jn (λ(I J o:Int)=>bif (o != 0)then j5 o e.h.c.W e.h.c.p e.h.w e.h.p e.h.s e.h.b else bnd (Qff N e.h I J a4) λf=>jn (λ(K L:Int) (M:List Int) (O:List Ws) (S T:Int)=>j5 f.2 K L M O S T) λj4=>bif (f.2==0)then j4 f.1.c.W f.1.c.p f.1.w f.1.p f.1.s f.1.b else j4 e.h.c.W e.h.c.p e.h.w e.h.p e.h.s e.h.b) λr=>jn (λ(x7 x8 x9 q U:Int)=>bif (x8 != 0)then r 0 0 x8 else bif (decide (z>=(wU q)))then r 0 0 2 else bnd (QdN N (Wv.mk x9 q U) (wI z)) λV=>bif (!(V==false))then r 0 0 4 else r x7 (wI z) 0) λj2=>jn (λ(x4 x5:Int)=>bif (x5 != 0)then j2 0 x5 0 0 0 else bnd (Qfe N e.h x4) λu=>j2 x4 u.2 u.1.k u.1.n u.1.Map) λY=>bnd (Qct N e a2) λy=>bif (y.2 != 0)then Y 0 y.2 else bif (y.1==0)then Y 0 5 else Y y.1 0
def Qhs(N:Nat)(f:Wp)(g:Int)(h:Bool):Option (Wp×Int):=bnd (QcR N f) λk=>bif (!k)then some ((Wp.mk [] [] []),1)else bif (decide (g<0))then some ((Wp.mk [] [] []),1)else bif (decide (g>64))then some ((Wp.mk [] [] []),1)else jn (λ(_:Unit)=>bif (decide ((f.x.length:Int)>=64))then some ((Wp.mk [] [] []),17)else bnd (QdX N f) λe=>grd (e.S.length<=140737488355328) <| grd ((e.x.length+1)*24<=140737488355328) <| some ((Wp.mk e.S (e.x++[(UM.mk (e.S.length:Int) g h)]) e.i),0)) λj=>bif (!h)then(bif ((f.x.length:Int)==0)then some ((Wp.mk [] [] []),9)else j ())else j ()
def Qha(N:Nat)(f:Wp)(g:Int):Option (Wp×Int):=bnd (Qhs N f g false) λe=>some (e.1,e.2)
def Qdt(N:Nat)(k:W3)(o B D:Int):Option (W3×Int×Int):=bnd (QcE N k) λs=>bif (!s)then some ((W3.mk zHp (Wp.mk [] [] []) (Wu.mk []) (Wu.mk []) [] []),0,19)else bnd (QbV N k) λe=>jn (λ(p:Int) (u:List UB) (w:List UM) (j:List Int)=>bif (p != 0)then some ((W3.mk zHp (Wp.mk [] [] []) (Wu.mk []) (Wu.mk []) [] []),0,p)else some ((W3.mk e.h (Wp.mk u w j) e.g e.v e.P e.R),0,0)) λq=>bif (decide (o>64))then q 1 e.l.S e.l.x e.l.i else bnd (Qha N e.l (wI o)) λf=>jn (λ(y:List UB) (z:List UM) (A:List Int)=>q f.2 y z A) λr=>bif (f.2==0)then r f.1.S f.1.x f.1.i else r e.l.S e.l.x e.l.i
def Qhb(N:Nat)(h:Wp)(f:Int):Option Wp:=bnd (QdX N h) λe=>bnd (Xe e.x f) λg=>grd (0<=0/\0<=g.O/\g.O<=(e.S.length:Int)) <| grd (0<=0/\0<=f/\f<=(e.x.length:Int)) <| some (Wp.mk (e.S.take g.O.toNat) (e.x.take f.toNat) e.i)
def Qhp(N:Nat)(e:Wp):Option (Wp×Int):=bnd (QcR N e) λf=>bif (!f)then some ((Wp.mk [] [] []),1)else bif (decide ((wI ((e.x.length:Int)-1))<0))then some ((Wp.mk [] [] []),9)else bnd (Xe e.x (wI ((e.x.length:Int)-1))) λg=>bif g.B0 then some ((Wp.mk [] [] []),9)else bnd (Qhb N e (wI ((e.x.length:Int)-1))) λh=>some (h,0)
def Qdu(N:Nat)(A:W3)(D J K:Int):Option (W3×Int×Int):=bnd (QcE N A) λE=>bif (!E)then some ((W3.mk zHp (Wp.mk [] [] []) (Wu.mk []) (Wu.mk []) [] []),0,19)else bnd (QbV N A) λe=>jn (λ(p k:Int) (q:List UB) (r:List UM) (s:List Int)=>bif (k != 0)then some ((W3.mk zHp (Wp.mk [] [] []) (Wu.mk []) (Wu.mk []) [] []),0,k)else some ((W3.mk e.h (Wp.mk q r s) e.g e.v e.P e.R),p,0)) λu=>bnd (Qct N e D) λo=>bif (o.2 != 0)then u 0 o.2 e.l.S e.l.x e.l.i else bnd (Qhp N e.l) λf=>bif (f.2 != 0)then u 0 f.2 e.l.S e.l.x e.l.i else jn (λ(G H:Int) (I:List UB) (w:List UM) (y:List Int)=>u G H I w y) λz=>bif (o.1==0)then z 0 0 f.1.S f.1.x f.1.i else bnd (QfG N f.1 o.1) λj=>bif (j.2.2.2 != 0)then z 0 j.2.2.2 f.1.S f.1.x f.1.i else bnd (Qeo N (UR.mk 1 j.2.1 j.2.2.1)) λB=>z B.1 B.2 j.1.S j.1.x j.1.i
def Qa0(N:Nat)(e:W3)(f g h j:Int):Option (W3×Int×Int):=bif (f==3)then QdQ N e g h j else bif (f==4)then QfS N e g h j else bif (f==6)then QdR N e g h j else bif (f==7)then QdS N e g h j else bif (f==17)then Qdt N e g h j else bif (f==18)then Qdu N e g h j else QgO N e f g h j
def Qd0(N:Nat):Option Bool:=bnd (Qhk N [] 0) λg=>bnd (Qa0 N g.N 3 3 0 0) λe=>bnd (Qa0 N e.1 4 e.2.1 0 0) λf=>bif (e.2.2==0)then(bif (f.2.2==0)then(bif (e.2.1==262145)then some (f.2.1==3)else some false)else some false)else some false
def Qdp(N:Nat)(v:List Int):Option Bool:=bnd (Qhk N v 40) λq=>bnd (Qa0 N q.N 17 3 0 0) λh=>bif (h.2.2 != 0)then(jn (λ(w:Bool)=>some w) λr=>bnd (Qd0 N) λy=>bif y then r (h.2.2==17)else r false)else bnd (Qa0 N h.1 3 1 0 0) λe=>bif (e.2.2==3)then(bnd (Qd0 N) λz=>some z)else bif (e.2.2==15)then(bnd (Qd0 N) λA=>some A)else bnd (Qa0 N e.1 7 e.2.1 0 77) λs=>bif (e.2.2 != 0)then some false else bif (s.2.2 != 0)then some false else bnd (Qa0 N s.1 18 e.2.1 0 0) λf=>bif (f.2.2 != 0)then(jn (λ(j:Bool)=>some j) λu=>bnd (Qd0 N) λk=>bif k then u (f.2.2==10)else u false)else bnd (Qa0 N f.1 6 f.2.1 0 0) λg=>bnd (Qa0 N f.1 6 e.2.1 0 0) λo=>bnd (Qd0 N) λp=>bif p then(bif (g.2.2==0)then(bif (g.2.1==77)then(bif (o.2.2==7)then some ((f.1.l.x.length:Int)==(q.N.l.x.length:Int))else some false)else some false)else some false)else some false
end Go.Sx
