import Derived.Test.YtgcneehkconghaaGreatDoorVA
set_option linter.all false
namespace Go.Sx
structure WT where
 PageWords:Int
 Pages:Int
structure Wv where
 Kind:Int
 Space:Int
 Used:Int
 Pins:Int
structure Wn where
 Conf:WT
 Words:List Int
 Pages:List Wv
 Space:Int
 Bump:Int
structure UX where
 Stamp:Int
 Ref:Int
 Live:Bool
structure U1 where
 From:Int
 Cap:Int
 Base:Bool
structure Ww where
 Slots:List UX
 Scopes:List U1
 Issued:List Int
structure Ub where
 Gen:Int
 Ref:Int
 Live:Bool
structure WI where
 Entries:List Ub
structure UN where
 Ref:Int
 Count:Int
structure W6 where
 Heap:Wn
 Locals:Ww
 Globals:WI
 Weaks:WI
 Pins:List UN
 Roots:List Int
structure Wy where
 Kind:Int
 Length:Int
 Map:Int
structure Il where
 Header:Wy
 Fields:List Int
structure IA where
 Id:Int
 Count:Int
 Base:Int
structure WM where
 Conf:WT
 Things:List Il
 Locals:Ww
 Globals:WI
 Weaks:WI
 Marks:List IA
 Roots:List Int
structure Ig where
 Env:W6
 World:WM
 Words:List Int
structure UU where
 L:List Int
 at_:Int
structure Oj where
 Op:Int
 A:Int
 B:Int
 C:Int
structure U8 where
 Tag:Int
 Index:Int
 Stamp:Int
structure Us where
 Copied:Int
 Kept:Int
 Filled:Int
 Freed:Int
 Cleared:Int
 Steps:Int
structure Ol where
 Failed:Bool
 Collected:Bool
 Base:Int
structure Ii where
 Heap:Wn
 Strong:List Int
 Weak:List Int
structure Iz where
 Locals:Ww
structure Iq where
 Width:Int
 Value:Int
structure IL where
 page:Int
 offset:Int
structure W0 where
 Heap:Wn
 Old:List Int
 Taken:List Int
 Queue:List Int
 Scanned:Int
 Report:Us
structure Ul where
 Fault:Int
 Page:Int
 Addr:Int
structure UI where
 addr:Int
 hd:Wy
structure Oh where
 From:Int
 Len:Int
@[simp] abbrev zWd:WM:=WM.mk (WT.mk 0 0) [] (Ww.mk [] [] []) (WI.mk []) (WI.mk []) [] []
@[simp] abbrev zHp:Wn:=Wn.mk (WT.mk 0 0) [] [] 0 0
def Qaa (N:Nat) (a0:UU) (a1:Int):Option (Int×UU):=bif (decide (a1<1)) then some (0,a0) else jn (λ (x2:Int)=>grd (a1≠0) <| grd (a1≠0) <| some (((wI ((x2.tmod a1)+a1)).tmod a1),(UU.mk a0.L (wI (a0.at_+1))))) λ j1=>bif (decide (a0.at_<((a0.L.length:Nat):Int))) then (bnd (Xb a0.L a0.at_) λ p1=>j1 p1) else j1 (wI ((wI (a0.at_*7))+3))
def Qc8 (N:Nat) (a0:UU):Option (WT×UU):=bnd (Qaa N a0 4) λ y1=>bnd (Xb [16,16,20,32] y1.1) λ p2=>bnd (Qaa N y1.2 5) λ y3=>bnd (Xb [8,12,16,20,24] y3.1) λ p4=>some ((WT.mk p2 p4),y3.2)
def Qaw (N:Nat) (a0:WT):Option Bool:=bif (decide (a0.PageWords>=16)) then (bif (decide (a0.PageWords<=64)) then (bif ((a0.PageWords.tmod 4)==0) then (bif (decide (a0.Pages>=8)) then some (decide (a0.Pages<=64)) else some false) else some false) else some false) else some false
def Qfl (N:Nat) (a0:WT):Option (Wn×Int):=bnd (Qaw N a0) λ y1=>bif (!y1) then some (zHp,1) else grd (0<=(wI (a0.Pages*a0.PageWords))/\(wI (a0.Pages*a0.PageWords)).toNat*8<=140737488355328) <| grd (0<=a0.Pages/\a0.Pages.toNat*32<=140737488355328) <| some ((Wn.mk a0 (List.replicate (wI (a0.Pages*a0.PageWords)).toNat (0:Int)) (List.replicate a0.Pages.toNat (Wv.mk 0 0 0 0)) 0 (-1)),0)
def Qeg (N:Nat) (a0:WT):Option (W6×Int):=bnd (Qfl N a0) λ y1=>some ((W6.mk y1.1 (Ww.mk [] [] []) (WI.mk []) (WI.mk []) [] []),y1.2)
def Qfm (N:Nat) (a0:WT):Option (WM×Int):=bnd (Qaw N a0) λ y1=>bif (!y1) then some (zWd,1) else some ((WM.mk a0 [] (Ww.mk [] [] []) (WI.mk []) (WI.mk []) [] []),0)
def Qbo (N:Nat) (a0:UU):Option (Ig×UU):=bnd (Qc8 N a0) λ y1=>bnd (Qeg N y1.1) λ y2=>bnd (Qfm N y1.1) λ y3=>bnd (Qaa N y1.2 40) λ y4=>some ((Ig.mk (W6.mk y2.1.Heap (Ww.mk y2.1.Locals.Slots [(U1.mk 0 (wI (4+y4.1)) true)] y2.1.Locals.Issued) y2.1.Globals y2.1.Weaks y2.1.Pins y2.1.Roots) (WM.mk y3.1.Conf y3.1.Things (Ww.mk y3.1.Locals.Slots [(U1.mk 0 (wI (4+y4.1)) true)] y3.1.Locals.Issued) y3.1.Globals y3.1.Weaks y3.1.Marks y3.1.Roots) [0]),y4.2)
def Qfx (N:Nat) (a0:UU):Option Bool:=some (decide (a0.at_>=((a0.L.length:Nat):Int)))
def QeA (N:Nat) (a0:List Int) (a1:Int):Nat->Int->Option (Ex Bool Unit)
 | 0,_=>none
 | n+1,v1 =>
  bif (decide (v1<((a0.length:Nat):Int))) then (bnd (Xb a0 v1) λ p2 =>
   bif (p2==a1) then some (.ret true)
   else QeA N a0 a1 n (wI (v1+1)))
  else some (.nxt ())
def QcA (N:Nat) (a0:List Int) (a1:Int):Option Bool:=bnd (QeA N a0 a1 N 0) λ e=>exK e (λ r=>some r) λ y3=>some false
def Qf8 (N:Nat) (a0:Int):Option Bool:=bif (decide (a0>=0)) then some (decide (a0<=2147483647)) else some false
def QbJ (N:Nat) (a0:WT):Option Int:=bnd (Qaw N a0) λ y1=>bif (!y1) then some 0 else some (wI (a0.PageWords.tdiv 4))
def Qcn (N:Nat) (a0:WT) (a1:Int):Nat->Int->Option (Ex Int Unit)
 | 0,_=>none
 | n+1,v3 =>
  bif (decide (v3<=4)) then (bif (decide ((wI (v3*a0.PageWords))>=a1)) then some (.ret v3)
   else Qcn N a0 a1 n (wI (v3+1)))
  else some (.nxt ())
def Qeh (N:Nat) (a0:WT) (a1:Int):Option Int:=bnd (Qaw N a0) λ y1=>bif (!y1) then some (-1) else bif (decide (a1<1)) then some (-1) else bnd (QbJ N a0) λ y2=>bif (decide (a1<=y2)) then some 0 else bnd (Qcn N a0 a1 N 1) λ e=>exK e (λ r=>some r) λ y4=>some (-1)
def QcB (N:Nat) (a0:List Wv) (a2:Int):Nat->Int->Int->Option Int
 | 0,_,_=>none
 | n+1,v1,v2 =>
  bif (decide (v2<((a0.length:Nat):Int))) then (bnd (Xb a0 v2) λ p3 =>
   bif (p3.Kind==3) then (bnd (Xb a0 v2) λ p4 =>
    bif (p4.Space==a2) then QcB N a0 a2 n (wI (v1+1)) (wI (v2+1))
    else some v1)
   else some v1)
  else some v1
def Qeq (N:Nat) (a0:List Wv) (a1:Int) (a2:Int):Option Int:=bnd (QcB N a0 a2 N 0 (wI (a1+1))) λ y5=>some y5
def Qaq (N:Nat) (a0:Wn):Nat->Int->Int->Option (Ex Bool Unit)
 | 0,_,_=>none
 | n+1,v3,v4 =>
  bif (decide (v4<((a0.Pages.length:Nat):Int))) then (bnd (Xb a0.Pages v4) λ p5 =>
   bif (!((p5.Kind==3)==(decide (v3>0)))) then some (.ret false)
   else bif (decide (p5.Space<0)) then some (.ret false)
   else bif (decide (p5.Space>1)) then some (.ret false)
   else bnd (Qf8 N p5.Pins) λ y6 =>
   bif (!y6) then some (.ret false)
   else jn (λ (x11:Int) =>
    Qaq N a0 n (if 0<(wI (x11-1)) then (wI (x11-1)) else 0) (wI (v4+1))) λ j4 =>
   bif (p5.Kind==0) then (bif (!((p5.Kind==0)&&((p5.Space==0)&&((p5.Used==0)&&(p5.Pins==0))))) then some (.ret false)
    else j4 v3)
   else jn (λ (x10:Int) =>
    j4 x10) λ j3 =>
   bif (p5.Kind==1) then (bif (decide (p5.Used<0)) then some (.ret false)
    else bif (decide (p5.Used>a0.Conf.PageWords)) then some (.ret false)
    else j3 v3)
   else jn (λ (x9:Int) =>
    j3 x9) λ j2 =>
   bif (p5.Kind==2) then (bnd (Qeh N a0.Conf p5.Used) λ y7 =>
    bif (decide (y7<1)) then some (.ret false)
    else bnd (Qeq N a0.Pages v4 p5.Space) λ y8 =>
    bif (decide (y8<(wI (y7-1)))) then some (.ret false)
    else j2 y7)
   else bif (p5.Kind==3) then (bif (p5.Used != 0) then some (.ret false)
    else bif (p5.Pins != 0) then some (.ret false)
    else j2 v3)
   else some (.ret false))
  else some (.nxt ())
def Qab (N:Nat) (a0:Wn):Option Bool:=bnd (Qaw N a0.Conf) λ y1=>bif (!y1) then some false else bif (((a0.Words.length:Nat):Int) != (wI (a0.Conf.Pages*a0.Conf.PageWords))) then some false else bif (((a0.Pages.length:Nat):Int) != a0.Conf.Pages) then some false else bif (decide (a0.Space<0)) then some false else bif (decide (a0.Space>1)) then some false else jn (λ (_:Unit)=>bnd (Qaq N a0 N 0 0) λ e=>exK e (λ r=>some r) λ y12=>some true) λ j1=>bif (a0.Bump != (-1)) then (bif (decide (a0.Bump<0)) then some false else bif (decide (a0.Bump>=((a0.Pages.length:Nat):Int))) then some false else bnd (Xb a0.Pages a0.Bump) λ p2=>bif (p2.Kind != 1) then some false else j1 ()) else j1 ()
def Qc9 (N:Nat) (a0:WT) (a1:Int):Option (Int×Int×Int):=bnd (Qaw N a0) λ y1=>bif (!y1) then some (0,0,1) else bif (decide (a1<4096)) then some (0,0,2) else bif (decide (a1>=(wU (wI (4096+(wI (a0.Pages*a0.PageWords))))))) then some (0,0,2) else grd (a0.PageWords≠0) <| grd (a0.PageWords≠0) <| some ((wI ((wI (wU (a1-4096))).tdiv a0.PageWords)),((wI (wU (a1-4096))).tmod a0.PageWords),0)
def Qdk (N:Nat) (a0:List Int) (a1:Int) (a2:Int):Option (Int×Bool):=bif (decide (a1<4096)) then some (0,false) else bif (decide (a1>(wU (4096+(wU ((a0.length:Nat):Int)))))) then some (0,false) else some ((wI (wU (a1-4096))),(decide (a2<=(wI (((a0.length:Nat):Int)-(wI (wU (a1-4096))))))))
def Qfa (N:Nat) (a0:List Int) (a1:Int):Option (Int×Int):=bnd (Qdk N a0 a1 1) λ y1=>bif (!y1.2) then some (0,2) else some (y1.1,0)
def Qa5 (N:Nat) (a0:List Int) (a1:Int):Option (Int×Int):=bnd (Qfa N a0 a1) λ y1=>bif (y1.2 != 0) then some (0,y1.2) else bnd (Xb a0 y1.1) λ p2=>some (p2,0)
def QcG (N:Nat) (a0:Wy):Option Bool:=bif (decide (a0.Kind<0)) then some false else bif (decide (a0.Kind>3)) then some false else bif (decide (a0.Length<0)) then some false else bif (decide (a0.Length>255)) then some false else bif (a0.Kind != 1) then some (a0.Map==0) else bif (decide (a0.Length<=32)) then (grd (0<=(wU a0.Length)) <| some (decide ((wU a0.Map)<(ZM .u64 1 (wU a0.Length))))) else some false
def Qco (N:Nat) (a0:Wy):Option Int:=bnd (QcG N a0) λ y1=>bif (!y1) then some 0 else some (wI (a0.Length+1))
def Qcg (N:Nat) (a0:Wy):Option (Int×Int):=bnd (QcG N a0) λ y1=>bif (!y1) then some (0,1) else some ((wU ((wU ((wU (1+(wU (4*(wU a0.Kind)))))+(wU (16*(wU a0.Length)))))+(ZM .u64 (wU a0.Map) 16))),0)
def QbK (N:Nat) (a0:Int):Option (Wy×Bool):=bnd (Qcg N (Wy.mk (wI (Yv .u64 (X5 .u64 a0 2) 3)) (wI (Yv .u64 (X5 .u64 a0 4) 4095)) (wW (X5 .u64 a0 16)))) λ y1=>bif (y1.2 != 0) then some ((Wy.mk 0 0 0),false) else bif (y1.1 != a0) then some ((Wy.mk 0 0 0),false) else some ((Wy.mk (wI (Yv .u64 (X5 .u64 a0 2) 3)) (wI (Yv .u64 (X5 .u64 a0 4) 4095)) (wW (X5 .u64 a0 16))),true)
def Qat (N:Nat) (a0:Wn) (a1:Int):Option (Wy×Int):=bnd (Qab N a0) λ y1=>bif (!y1) then some ((Wy.mk 0 0 0),1) else bnd (Qc9 N a0.Conf a1) λ y2=>bif (y2.2.2 != 0) then some ((Wy.mk 0 0 0),2) else bnd (Xb a0.Pages y2.1) λ p3=>bnd (Qa5 N a0.Words a1) λ y4=>bnd (QbK N y4.1) λ y5=>jn (λ (_:Unit)=>bnd (Qco N y5.1) λ y6=>bif (p3.Kind==1) then (bif (decide ((wI (y2.2.1+y6))>p3.Used)) then some ((Wy.mk 0 0 0),19) else bif (p3.Kind==2) then (bif (y2.2.1 != 0) then some ((Wy.mk 0 0 0),19) else bif (y6 != p3.Used) then some ((Wy.mk 0 0 0),19) else some (y5.1,0)) else some (y5.1,0)) else bif (p3.Kind==2) then (bif (y2.2.1 != 0) then some ((Wy.mk 0 0 0),19) else bif (y6 != p3.Used) then some ((Wy.mk 0 0 0),19) else some (y5.1,0)) else some (y5.1,0)) λ j1=>bif (p3.Kind != 1) then (bif (p3.Kind != 2) then some ((Wy.mk 0 0 0),19) else bif (decide (y2.2.1>=p3.Used)) then some ((Wy.mk 0 0 0),19) else bif (!y5.2) then some ((Wy.mk 0 0 0),19) else j1 ()) else bif (decide (y2.2.1>=p3.Used)) then some ((Wy.mk 0 0 0),19) else bif (!y5.2) then some ((Wy.mk 0 0 0),19) else j1 ()
def Qbu (N:Nat) (a0:WT) (a1:Int) (a2:Int):Option (Int×Int):=bnd (Qaw N a0) λ y1=>bif (!y1) then some (0,1) else bif (decide (a1<0)) then some (0,2) else bif (decide (a1>=a0.Pages)) then some (0,2) else bif (decide (a2<0)) then some (0,2) else bif (decide (a2>=a0.PageWords)) then some (0,2) else some ((wU (wI ((wI (4096+(wI (a1*a0.PageWords))))+a2))),0)
def QaW (N:Nat) (a0:Wn) (a1:Int) (p2:Wv):Nat->Int->(List Int)->Option (Ex (List Int×Int) (List Int))
 | 0,_,_=>none
 | n+1,v3,v4 =>
  bif (decide (v3<p2.Used)) then (bnd (Qbu N a0.Conf a1 v3) λ y5 =>
   bnd (Qat N a0 y5.1) λ y6 =>
   bif (y6.2 != 0) then some (.ret ([],19))
   else grd ((v4.length+1)*8<=140737488355328) <|
   bif (p2.Kind==2) then some (.nxt (v4++[y5.1]))
   else bnd (Qco N y6.1) λ y7 =>
   QaW N a0 a1 p2 n (wI (v3+y7)) (v4++[y5.1]))
  else some (.nxt v4)
def Qau (N:Nat) (a0:Wn) (a1:Int):Option (List Int×Int):=bnd (Qab N a0) λ y1=>bif (!y1) then some ([],1) else bif (decide (a1<0)) then some ([],2) else bif (decide (a1>=((a0.Pages.length:Nat):Int))) then some ([],2) else bnd (Xb a0.Pages a1) λ p2=>bif (p2.Kind==0) then some ([],0) else bif (p2.Kind==3) then some ([],0) else bnd (QaW N a0 a1 p2 N 0 []) λ e=>exK e (λ r=>some r) λ y8=>some (y8,0)
def QaX (N:Nat) (a0:Wn) (a1:Int) (a2:List Int):Nat->Int->Option (Ex Int Unit)
 | 0,_=>none
 | n+1,v1 =>
  bif (decide (v1<((a2.length:Nat):Int))) then (bnd (Xb a2 v1) λ p2 =>
   bnd (Qat N a0 p2) λ y3 =>
   bnd (Qco N y3.1) λ y4 =>
   bnd (QbJ N a0.Conf) λ y5 =>
   bnd (Xb a0.Pages a1) λ p6 =>
   bif (p6.Kind==1) then (bif (!(decide (y4<=y5))) then (bnd (Xb a2 v1) λ p9 =>
       some (.ret p9))
    else bnd (Xb a0.Pages a1) λ p7 =>
    bif (p7.Kind==2) then (bif (y3.1.Kind==0) then (bnd (Xb a2 v1) λ p10 =>
        some (.ret p10))
     else QaX N a0 a1 a2 n (wI (v1+1)))
    else QaX N a0 a1 a2 n (wI (v1+1)))
   else bnd (Xb a0.Pages a1) λ p8 =>
   bif (p8.Kind==2) then (bif (y3.1.Kind==0) then (bnd (Xb a2 v1) λ p11 =>
       some (.ret p11))
    else QaX N a0 a1 a2 n (wI (v1+1)))
   else QaX N a0 a1 a2 n (wI (v1+1)))
  else some (.nxt ())
def QdM (N:Nat) (a0:Wn) (a1:Int) (a2:List Int):Option Int:=bnd (QaX N a0 a1 a2 N 0) λ e=>exK e (λ r=>some r) λ y12=>some 0
def QcY (N:Nat) (a0:Wn):Nat->Int->Option Int
 | 0,_=>none
 | n+1,v1 =>
  bnd (Xb a0.Pages v1) λ p2 =>
  bif (p2.Kind==3) then QcY N a0 n (wI (v1-1))
  else some v1
def Qei (N:Nat) (a0:Wn) (a1:Int):Option Int:=bnd (QcY N a0 N a1) λ y3=>some y3
def Qbe (N:Nat) (a0:Wn) (a1:Int) (a2:List Int) (v1:Int) (x6:Int):Nat->Int->(List Bool)->Option (List Bool)
 | 0,_,_=>none
 | n+1,v7,v8 =>
  bif (decide (v7<x6)) then (bnd (Xb a2 v1) λ p9 =>
   bif (decide ((wI ((wI ((wI ((wI p9)-4096))+v7))-(wI (a1*a0.Conf.PageWords))))>=0)) then (grd (v8.length<=140737488355328) <|
    bif (decide ((wI ((wI ((wI ((wI p9)-4096))+v7))-(wI (a1*a0.Conf.PageWords))))<((v8.length:Nat):Int))) then (bnd (Xb v8 (wI ((wI ((wI ((wI p9)-4096))+v7))-(wI (a1*a0.Conf.PageWords))))) λ p10 =>
     Qbe N a0 a1 a2 v1 x6 n (wI (v7+1)) (v8.set (wI ((wI ((wI ((wI p9)-4096))+v7))-(wI (a1*a0.Conf.PageWords)))).toNat true))
    else Qbe N a0 a1 a2 v1 x6 n (wI (v7+1)) v8)
   else Qbe N a0 a1 a2 v1 x6 n (wI (v7+1)) v8)
  else some v8
def Qcp (N:Nat) (a0:Wn) (a1:Int) (a2:List Int):Nat->Int->(List Bool)->Option (List Bool)
 | 0,_,_=>none
 | n+1,v1,v2 =>
  bif (decide (v1<((a2.length:Nat):Int))) then (bnd (Xb a2 v1) λ p3 =>
   bnd (Qat N a0 p3) λ y4 =>
   bnd (Qco N y4.1) λ y5 =>
   jn (λ (x6:Int) =>
    bnd (Qbe N a0 a1 a2 v1 x6 N 0 v2) λ y11 =>
    Qcp N a0 a1 a2 n (wI (v1+1)) y11) λ j1 =>
   bif (y4.1.Kind==0) then j1 1
   else j1 y5)
  else some v2
def Qfy (N:Nat) (a0:Wn) (a1:Int) (a2:List Int):Option (List Bool):=grd (0<=a0.Conf.PageWords/\a0.Conf.PageWords.toNat<=140737488355328) <| bnd (Qcp N a0 a1 a2 N 0 (List.replicate a0.Conf.PageWords.toNat false)) λ y12=>some y12
def Qf9 (N:Nat) (a0:Wn) (a1:Int) (a2:Int):Option Int:=bnd (Qbu N a0.Conf a1 a2) λ y1=>bnd (Qa5 N a0.Words y1.1) λ y2=>some y2.1
def QeL (N:Nat) (a0:Wn) (a1:Int) (a2:Int):Option Int:=bnd (Qf9 N a0 a1 a2) λ y1=>some y1
def QeX (N:Nat) (a0:Wn) (a1:Int) (a2:Int):Option Int:=some (wU (wI ((wI (4096+(wI (a1*a0.Conf.PageWords))))+a2)))
def QbT (N:Nat) (a0:Wn) (a1:Int) (y3:List Bool):Nat->Int->Option (Ex Int Unit)
 | 0,_=>none
 | n+1,v4 =>
  bif (decide (v4<((y3.length:Nat):Int))) then (bnd (Xb y3 v4) λ p5 =>
   bif (!p5) then (bnd (QeL N a0 a1 v4) λ y6 =>
    bif (y6 != 0) then (bnd (QeX N a0 a1 v4) λ y7 =>
     some (.ret y7))
    else QbT N a0 a1 y3 n (wI (v4+1)))
   else QbT N a0 a1 y3 n (wI (v4+1)))
  else some (.nxt ())
def Qej (N:Nat) (a0:Wn) (a1:Int):Option Int:=bnd (Qei N a0 a1) λ y1=>bnd (Qau N a0 y1) λ y2=>bnd (Qfy N a0 a1 y2.1) λ y3=>bnd (QbT N a0 a1 y3 N 0) λ e=>exK e (λ r=>some r) λ y8=>some 0
def Qek (N:Nat) (a0:Wn) (a1:Int):Option Ul:=jn (λ (_:Unit)=>bnd (Qau N a0 a1) λ y3=>bif (y3.2 != 0) then some (Ul.mk 3 a1 0) else bnd (QdM N a0 a1 y3.1) λ y4=>bif (y4 != 0) then some (Ul.mk 5 a1 y4) else bnd (Qej N a0 a1) λ y5=>bif (y5 != 0) then some (Ul.mk 4 a1 y5) else some (Ul.mk 0 0 0)) λ j1=>bnd (Xb a0.Pages a1) λ p1=>bif (p1.Kind != 0) then (bnd (Xb a0.Pages a1) λ p2=>bif (p2.Space != a0.Space) then some (Ul.mk 2 a1 0) else j1 ()) else j1 ()
def QaR (N:Nat) (a0:Wn):Nat->Int->(List Int)->Option (Ex (List Int×Int) (List Int))
 | 0,_,_=>none
 | n+1,v2,v3 =>
  bif (decide (v2<((a0.Pages.length:Nat):Int))) then (bnd (Qau N a0 v2) λ y4 =>
   bif (y4.2 != 0) then some (.ret ([],y4.2))
   else grd ((v3.length+y4.1.length)*8<=140737488355328) <|
   QaR N a0 n (wI (v2+1)) (v3++y4.1))
  else some (.nxt v3)
def QcL (N:Nat) (a0:Wn):Option (List Int×Int):=bnd (Qab N a0) λ y1=>bif (!y1) then some ([],1) else bnd (QaR N a0 N 0 []) λ e=>exK e (λ r=>some r) λ y5=>some (y5,0)
def QaA (N:Nat) (a0:Wn) (y1:List Int×Int):Nat->Int->(List Int)->Option (List Int)
 | 0,_,_=>none
 | n+1,v2,v3 =>
  bif (decide (v2<((y1.1.length:Nat):Int))) then (bnd (Xb y1.1 v2) λ p4 =>
   bnd (Qat N a0 p4) λ y5 =>
   bif (y5.1.Kind != 0) then (bnd (Xb y1.1 v2) λ p6 =>
    grd ((v3.length+1)*8<=140737488355328) <|
    QaA N a0 y1 n (wI (v2+1)) (v3++[p6]))
   else QaA N a0 y1 n (wI (v2+1)) v3)
  else some v3
def Qav (N:Nat) (a0:Wn):Option (List Int×Int):=bnd (QcL N a0) λ y1=>bnd (QaA N a0 y1 N 0 []) λ y7=>some (y7,y1.2)
def Qbq (N:Nat) (a0:Wn) (a1:Int):Option (Wy×Int):=bnd (Qab N a0) λ y1=>bif (!y1) then some ((Wy.mk 0 0 0),1) else bif (a1==0) then some ((Wy.mk 0 0 0),5) else bnd (Qat N a0 a1) λ y2=>bif (y2.2==0) then (bif (y2.1.Kind==0) then some ((Wy.mk 0 0 0),4) else some (y2.1,y2.2)) else some (y2.1,y2.2)
def QbU (N:Nat) (a0:Wy) (a1:Int):Option Bool:=bnd (QcG N a0) λ y1=>bif (!y1) then some false else bif (decide (a1<0)) then some false else bif (decide (a1>=a0.Length)) then some false else bif (a0.Kind==2) then some true else bif (a0.Kind==1) then (grd (0<=(wU a1)) <| some ((Yv .u32 (X5 .u32 a0.Map (wU a1)) 1)==1)) else some false
def QcM (N:Nat) (a0:List Int) (a1:Int) (a2:Int):Option (List Int×Int):=bif (decide (a2<0)) then some ([],1) else bnd (Qdk N a0 a1 a2) λ y1=>bif (!y1.2) then some ([],2) else grd (0<=y1.1/\y1.1<=(wI (y1.1+a2))/\(wI (y1.1+a2))<=((a0.length:Nat):Int)) <| grd ((min ((wI (y1.1+a2)).toNat-y1.1.toNat) (a0.length-y1.1.toNat))*8<=140737488355328) <| some (((a0.drop y1.1.toNat).take ((wI (y1.1+a2)).toNat-y1.1.toNat)),0)
def Qd2 (N:Nat) (a0:Wn) (a1:Int):Option (List Int×Int):=bnd (Qbq N a0 a1) λ y1=>bif (y1.2 != 0) then some ([],y1.2) else bnd (QcM N a0.Words (wU (a1+1)) y1.1.Length) λ y2=>some (y2.1,y2.2)
def Qam (N:Nat) (a0:Wn) (y1:List Int×Int) (y6:List Int×Int) (v2:Int) (y4:Wy×Int):Nat->Int->Option (Ex Ul Unit)
 | 0,_=>none
 | n+1,v7 =>
  bif (decide (v7<((y6.1.length:Nat):Int))) then (bnd (QbU N y4.1 v7) λ y8 =>
   bif y8 then (bnd (Xb y6.1 v7) λ p9 =>
    bif (p9 != 0) then (bnd (Xb y6.1 v7) λ p10 =>
     bnd (QcA N y1.1 p10) λ y11 =>
     bif (!y11) then (bnd (Xb y1.1 v2) λ p12 =>
      bnd (Qc9 N a0.Conf (wU ((wU (p12+1))+(wU v7)))) λ y13 =>
      some (.ret (Ul.mk 6 y13.1 (wU ((wU (p12+1))+(wU v7))))))
     else Qam N a0 y1 y6 v2 y4 n (wI (v7+1)))
    else Qam N a0 y1 y6 v2 y4 n (wI (v7+1)))
   else Qam N a0 y1 y6 v2 y4 n (wI (v7+1)))
  else some (.nxt ())
def Qbb (N:Nat) (a0:Wn) (y1:List Int×Int):Nat->Int->Option (Ex Ul Unit)
 | 0,_=>none
 | n+1,v2 =>
  bif (decide (v2<((y1.1.length:Nat):Int))) then (bnd (Xb y1.1 v2) λ p3 =>
   bnd (Qbq N a0 p3) λ y4 =>
   bnd (Xb y1.1 v2) λ p5 =>
   bnd (Qd2 N a0 p5) λ y6 =>
   bnd (Qam N a0 y1 y6 v2 y4 N 0) λ e=>exK e (λ r=>some (.ret r)) λ y14 =>
   Qbb N a0 y1 n (wI (v2+1)))
  else some (.nxt ())
def Qda (N:Nat) (a0:Wn):Option Ul:=bnd (Qav N a0) λ y1=>bnd (Qbb N a0 y1 N 0) λ e=>exK e (λ r=>some r) λ y15=>some (Ul.mk 0 0 0)
def Qbj (N:Nat) (a0:Wn):Nat->Int->Option (Ex Ul Unit)
 | 0,_=>none
 | n+1,v2 =>
  bif (decide (v2<((a0.Pages.length:Nat):Int))) then (bnd (Qek N a0 v2) λ y3 =>
   bif (y3.Fault != 0) then some (.ret y3)
   else Qbj N a0 n (wI (v2+1)))
  else some (.nxt ())
def Qbk (N:Nat) (a0:Wn):Nat->Int->Int->Option Int
 | 0,_,_=>none
 | n+1,v6,v7 =>
  bif (decide (v7<((a0.Pages.length:Nat):Int))) then (bnd (Xb a0.Pages v7) λ p8 =>
   bif (p8.Kind==1) then (bnd (Xb a0.Pages v7) λ p9 =>
    bif (decide (p9.Pins>0)) then Qbk N a0 n (wI (v6+1)) (wI (v7+1))
    else Qbk N a0 n v6 (wI (v7+1)))
   else Qbk N a0 n v6 (wI (v7+1)))
  else some v6
def QfS (N:Nat) (a0:Wn):Option Ul:=bnd (Qab N a0) λ y1=>bif (!y1) then some (Ul.mk 1 0 0) else bnd (Qbj N a0 N 0) λ e=>exK e (λ r=>some r) λ y4=>bnd (Qda N a0) λ y5=>bif (y5.Fault != 0) then some y5 else bnd (Qbk N a0 N 0 0) λ y10=>bif (decide (y10>(wI (a0.Conf.Pages.tdiv 4)))) then some (Ul.mk 7 0 0) else some (Ul.mk 0 0 0)
def QbH (N:Nat) (a0:Wn):Option Bool:=bnd (QfS N a0) λ y1=>some ((y1.Fault==0)&&((y1.Page==0)&&(y1.Addr==0)))
def QdN (N:Nat) (a0:List UN) (a1:Int):Nat->Int->Option (Ex Int Unit)
 | 0,_=>none
 | n+1,v1 =>
  bif (decide (v1<((a0.length:Nat):Int))) then (bnd (Xb a0 v1) λ p2 =>
   bif (p2.Ref==a1) then some (.ret v1)
   else QdN N a0 a1 n (wI (v1+1)))
  else some (.nxt ())
def QeM (N:Nat) (a0:List UN) (a1:Int):Option Int:=bnd (QdN N a0 a1 N 0) λ e=>exK e (λ r=>some r) λ y3=>some (-1)
def QeN (N:Nat) (a0:Wn) (a1:Int):Option Int:=bnd (Qc9 N a0.Conf a1) λ y1=>some y1.1
def Qby (N:Nat) (a0:Wn) (a1:List UN) (y2:List Int×Int):Nat->Int->(List Int)->Option (Ex Bool (List Int))
 | 0,_,_=>none
 | n+1,v3,v4 =>
  bif (decide (v3<((a1.length:Nat):Int))) then (bnd (Xb a1 v3) λ p5 =>
   bnd (QcA N y2.1 p5.Ref) λ y6 =>
   bif (!y6) then some (.ret false)
   else bnd (Xb a1 v3) λ p7 =>
   bnd (QeM N a1 p7.Ref) λ y8 =>
   bif (y8 != v3) then some (.ret false)
   else bnd (Xb a1 v3) λ p9 =>
   bif (decide (p9.Count<1)) then some (.ret false)
   else bnd (Xb a1 v3) λ p10 =>
   bif (decide (p10.Count>1000)) then some (.ret false)
   else bnd (Xb a1 v3) λ p11 =>
   bnd (QeN N a0 p11.Ref) λ y12 =>
   bnd (Xb v4 y12) λ p13 =>
   bnd (Xb a1 v3) λ p14 =>
   bnd (Xb v4 y12) λ p15 =>
   Qby N a0 a1 y2 n (wI (v3+1)) (v4.set y12.toNat (wI (p13+p14.Count))))
  else some (.nxt v4)
def Qb7 (N:Nat) (a0:Wn) (y16:List Int):Nat->Int->Option (Ex Bool Unit)
 | 0,_=>none
 | n+1,v17 =>
  bif (decide (v17<((a0.Pages.length:Nat):Int))) then (bnd (Xb a0.Pages v17) λ p18 =>
   bnd (Xb y16 v17) λ p19 =>
   bif (p18.Pins != p19) then some (.ret false)
   else Qb7 N a0 y16 n (wI (v17+1)))
  else some (.nxt ())
def QbV (N:Nat) (a0:Wn) (a1:List UN):Option Bool:=bnd (QbH N a0) λ y1=>bif (!y1) then some false else bif (decide (((a1.length:Nat):Int)>64)) then some false else bnd (Qav N a0) λ y2=>grd (0<=((a0.Pages.length:Nat):Int)/\((a0.Pages.length:Nat):Int).toNat*8<=140737488355328) <| bnd (Qby N a0 a1 y2 N 0 (List.replicate ((a0.Pages.length:Nat):Int).toNat (0:Int))) λ e=>exK e (λ r=>some r) λ y16=>bnd (Qb7 N a0 y16 N 0) λ e=>exK e (λ r=>some r) λ y20=>some true
def QcZ (N:Nat) (a0:Ww) (a2:Int):Nat->Int->Int->Option Int
 | 0,_,_=>none
 | n+1,v1,v2 =>
  bif (decide (v2<a2)) then (bnd (Xb a0.Slots v2) λ p3 =>
   bif p3.Live then QcZ N a0 a2 n (wI (v1+1)) (wI (v2+1))
   else QcZ N a0 a2 n v1 (wI (v2+1)))
  else some v1
def Qfz (N:Nat) (a0:Ww) (a1:Int) (a2:Int):Option Int:=bnd (QcZ N a0 a2 N 0 a1) λ y4=>some y4
def QgP (N:Nat) (a0:Ww) (a1:Int):Option Int:=bif (decide ((wI (a1+1))<((a0.Scopes.length:Nat):Int))) then (bnd (Xb a0.Scopes (wI (a1+1))) λ p1=>some p1.From) else some ((a0.Slots.length:Nat):Int)
def Qdb (N:Nat) (a0:Ww):Nat->Int->Option (Ex Bool Unit)
 | 0,_=>none
 | n+1,v1 =>
  bif (decide (v1<((a0.Issued.length:Nat):Int))) then (bnd (Xb a0.Issued v1) λ p2 =>
   bif (decide (p2<0)) then some (.ret false)
   else bnd (Xb a0.Issued v1) λ p3 =>
   bif (decide (p3>4095)) then some (.ret false)
   else Qdb N a0 n (wI (v1+1)))
  else some (.nxt ())
def Qaj (N:Nat) (a0:Ww):Nat->Int->Int->Option (Ex Bool Unit)
 | 0,_,_=>none
 | n+1,v5,v6 =>
  bif (decide (v6<((a0.Slots.length:Nat):Int))) then (bnd (Xb a0.Slots v6) λ p7 =>
   bif (decide (p7.Stamp<=v5)) then some (.ret false)
   else bif (decide (p7.Stamp>((a0.Issued.length:Nat):Int))) then some (.ret false)
   else bnd (Xb a0.Issued (wI (p7.Stamp-1))) λ p8 =>
   bif (p8 != v6) then some (.ret false)
   else bif (!(p7.Live==(p7.Ref != 0))) then some (.ret false)
   else Qaj N a0 n p7.Stamp (wI (v6+1)))
  else some (.nxt ())
def Qah (N:Nat) (a0:Ww):Nat->Int->Int->Option (Ex Bool Unit)
 | 0,_,_=>none
 | n+1,v10,v11 =>
  bif (decide (v11<((a0.Scopes.length:Nat):Int))) then (bnd (Xb a0.Scopes v11) λ p12 =>
   bif (v11==0) then (bif (p12.From != 0) then some (.ret false)
    else bif (!p12.Base) then some (.ret false)
    else bif (decide (p12.From<v10)) then some (.ret false)
    else bif (decide (p12.From>((a0.Slots.length:Nat):Int))) then some (.ret false)
    else bif (decide (p12.Cap<0)) then some (.ret false)
    else bif (decide (p12.Cap>64)) then some (.ret false)
    else Qah N a0 n p12.From (wI (v11+1)))
   else bif (decide (p12.From<v10)) then some (.ret false)
   else bif (decide (p12.From>((a0.Slots.length:Nat):Int))) then some (.ret false)
   else bif (decide (p12.Cap<0)) then some (.ret false)
   else bif (decide (p12.Cap>64)) then some (.ret false)
   else Qah N a0 n p12.From (wI (v11+1)))
  else some (.nxt ())
def QcC (N:Nat) (a0:Ww):Nat->Int->Option (Ex Bool Unit)
 | 0,_=>none
 | n+1,v14 =>
  bif (decide (v14<((a0.Scopes.length:Nat):Int))) then (bnd (Xb a0.Scopes v14) λ p15 =>
   bnd (QgP N a0 v14) λ y16 =>
   bnd (Qfz N a0 p15.From y16) λ y17 =>
   bnd (Xb a0.Scopes v14) λ p18 =>
   bif (decide (y17>p18.Cap)) then some (.ret false)
   else QcC N a0 n (wI (v14+1)))
  else some (.nxt ())
def QbW (N:Nat) (a0:Ww):Option Bool:=jn (λ (_:Unit)=>bnd (Qdb N a0 N 0) λ e=>exK e (λ r=>some r) λ y4=>bnd (Qaj N a0 N 0 0) λ e=>exK e (λ r=>some r) λ y9=>bnd (Qah N a0 N 0 0) λ e=>exK e (λ r=>some r) λ y13=>bnd (QcC N a0 N 0) λ e=>exK e (λ r=>some r) λ y19=>some true) λ j1=>bif (decide (((a0.Issued.length:Nat):Int)>4096)) then some false else bif (decide (((a0.Scopes.length:Nat):Int)>64)) then some false else bif (((a0.Scopes.length:Nat):Int)==0) then (bif (decide (((a0.Slots.length:Nat):Int)>0)) then some false else j1 ()) else j1 ()
def QcD (N:Nat) (a0:WI):Nat->Int->Option (Ex Bool Unit)
 | 0,_=>none
 | n+1,v1 =>
  bif (decide (v1<((a0.Entries.length:Nat):Int))) then (bnd (Xb a0.Entries v1) λ p2 =>
   bif (decide (p2.Gen<1)) then some (.ret false)
   else bif (decide (p2.Gen>4294967295)) then some (.ret false)
   else bif (!p2.Live) then (bif (p2.Ref != 0) then some (.ret false)
    else QcD N a0 n (wI (v1+1)))
   else QcD N a0 n (wI (v1+1)))
  else some (.nxt ())
def QbX (N:Nat) (a0:WI):Option Bool:=bnd (QcD N a0 N 0) λ e=>exK e (λ r=>some r) λ y3=>some (decide (((a0.Entries.length:Nat):Int)<=64))
def Qbf (N:Nat) (a0:WI):Nat->Int->(List Int)->Option (List Int)
 | 0,_,_=>none
 | n+1,v1,v2 =>
  bif (decide (v1<((a0.Entries.length:Nat):Int))) then (bnd (QbX N a0) λ y3 =>
   bif y3 then (bnd (Xb a0.Entries v1) λ p4 =>
    bif p4.Live then (bnd (Xb a0.Entries v1) λ p5 =>
     grd ((v2.length+1)*8<=140737488355328) <|
     Qbf N a0 n (wI (v1+1)) (v2++[p5.Ref]))
    else Qbf N a0 n (wI (v1+1)) v2)
   else some v2)
  else some v2
def Qbc (N:Nat) (a0:WI):Option (List Int):=bnd (Qbf N a0 N 0 []) λ y6=>some y6
def Qbg (N:Nat) (a0:Ww):Nat->Int->(List Int)->Option (List Int)
 | 0,_,_=>none
 | n+1,v1,v2 =>
  bif (decide (v1<((a0.Slots.length:Nat):Int))) then (bnd (QbW N a0) λ y3 =>
   bif y3 then (bnd (Xb a0.Slots v1) λ p4 =>
    bif p4.Live then (bnd (Xb a0.Slots v1) λ p5 =>
     grd ((v2.length+1)*8<=140737488355328) <|
     Qbg N a0 n (wI (v1+1)) (v2++[p5.Ref]))
    else Qbg N a0 n (wI (v1+1)) v2)
   else some v2)
  else some v2
def Qcq (N:Nat) (a0:Ww):Option (List Int):=bnd (Qbg N a0 N 0 []) λ y6=>some y6
def Qar (N:Nat) (a1:List Int) (y2:List Int×Int):Nat->Int->Option (Ex Bool Unit)
 | 0,_=>none
 | n+1,v3 =>
  bif (decide (v3<((a1.length:Nat):Int))) then (bnd (Xb a1 v3) λ p4 =>
   bif (p4 != 0) then (bnd (Xb a1 v3) λ p5 =>
    bnd (QcA N y2.1 p5) λ y6 =>
    bif (!y6) then some (.ret false)
    else Qar N a1 y2 n (wI (v3+1)))
   else Qar N a1 y2 n (wI (v3+1)))
  else some (.nxt ())
def Qbl (N:Nat) (a0:Wn) (a1:List Int):Option Bool:=bnd (QbH N a0) λ y1=>bif (!y1) then some false else bnd (Qav N a0) λ y2=>bnd (Qar N a1 y2 N 0) λ e=>exK e (λ r=>some r) λ y7=>some true
def QcH (N:Nat) (a0:W6):Option Bool:=bnd (QbV N a0.Heap a0.Pins) λ y1=>bif (!y1) then some false else bnd (QbW N a0.Locals) λ y2=>bif (!y2) then some false else bnd (QbX N a0.Globals) λ y3=>bif (!y3) then some false else bnd (QbX N a0.Weaks) λ y4=>bif (!y4) then some false else bnd (Qbc N a0.Globals) λ y5=>bnd (QcA N y5 0) λ y6=>bif y6 then some false else grd (a0.Roots.length*8<=140737488355328) <| bnd (Qcq N a0.Locals) λ y7=>grd ((a0.Roots.length+y7.length)*8<=140737488355328) <| grd (((a0.Roots.length+y7.length)+y5.length)*8<=140737488355328) <| bnd (Qbc N a0.Weaks) λ y8=>grd ((((a0.Roots.length+y7.length)+y5.length)+y8.length)*8<=140737488355328) <| bnd (Qbl N a0.Heap (((a0.Roots++y7)++y5)++y8)) λ y9=>some y9
def QcE (N:Nat) (a0:Wn) (y3:List Int×Int):Nat->Int->(List Wv)->Option (List Wv)
 | 0,_,_=>none
 | n+1,v4,v5 =>
  grd (v5.length<=140737488355328) <|
  bif (decide (v4<((v5.length:Nat):Int))) then (bnd (Xb v5 v4) λ p6 =>
   bif (p6.Kind==1) then (bif (decide (p6.Pins>0)) then (bnd (Xb v5 v4) λ p7 =>
       QcE N a0 y3 n (wI (v4+1)) (v5.set v4.toNat (Wv.mk p7.Kind (wI (1-a0.Space)) p7.Used p7.Pins)))
    else QcE N a0 y3 n (wI (v4+1)) v5)
   else QcE N a0 y3 n (wI (v4+1)) v5)
  else some v5
def Qdl (N:Nat) (a0:Wn):Option (W0×Int):=bnd (Qab N a0) λ y1=>bif (!y1) then some ((W0.mk zHp [] [] [] 0 (Us.mk 0 0 0 0 0 0)),1) else bnd (QbH N a0) λ y2=>bif (!y2) then some ((W0.mk zHp [] [] [] 0 (Us.mk 0 0 0 0 0 0)),19) else bnd (Qav N a0) λ y3=>grd (a0.Pages.length*32<=140737488355328) <| bnd (QcE N a0 y3 N 0 a0.Pages) λ y8=>some ((W0.mk (Wn.mk a0.Conf a0.Words y8 a0.Space a0.Bump) y3.1 [] [] 0 (Us.mk 0 0 0 0 0 0)),0)
def Qdr (N:Nat) (a0:Int):Option (Int×Bool):=bif ((a0.tmod 4) != 2) then some (0,false) else bif (decide ((X5 .u64 a0 2)>=4294967296)) then some (0,false) else some ((X5 .u64 a0 2),true)
def QdY (N:Nat) (a0:W0) (a1:Int):Nat->Int->Option (Ex Bool Unit)
 | 0,_=>none
 | n+1,v1 =>
  bif (decide (v1<((a0.Taken.length:Nat):Int))) then (bnd (Xb a0.Taken v1) λ p2 =>
   bif (p2==a1) then some (.ret true)
   else QdY N a0 a1 n (wI (v1+1)))
  else some (.nxt ())
def Qgu (N:Nat) (a0:W0) (a1:Int):Option Bool:=bnd (QdY N a0 a1 N 0) λ e=>exK e (λ r=>some r) λ y3=>some false
def QdZ (N:Nat) (a0:W0) (a1:Int):Option Bool:=bif (decide (a1<0)) then some false else bif (decide (a1>=((a0.Heap.Pages.length:Nat):Int))) then some false else bnd (Xb a0.Heap.Pages a1) λ p1=>bif (p1.Kind==1) then (bif (p1.Space != a0.Heap.Space) then (bnd (Qgu N a0 a1) λ y2=>some (!y2)) else some false) else some false
def Qbz (N:Nat) (a2:List Int) (y1:Int×Bool):Nat->Int->(List Int)->Option (List Int)
 | 0,_,_=>none
 | n+1,v2,v3 =>
  bif (decide (v2<((a2.length:Nat):Int))) then (bnd (Xb a2 v2) λ p4 =>
   bnd (Xb v3 (wI (y1.1+v2))) λ p5 =>
   Qbz N a2 y1 n (wI (v2+1)) (v3.set (wI (y1.1+v2)).toNat p4))
  else some v3
def QbY (N:Nat) (a0:List Int) (a1:Int) (a2:List Int):Option (List Int×Int):=bnd (Qdk N a0 a1 ((a2.length:Nat):Int)) λ y1=>bif (!y1.2) then some ([],2) else grd (a0.length*8<=140737488355328) <| bnd (Qbz N a2 y1 N 0 a0) λ y6=>some (y6,0)
def Qdm (N:Nat) (a0:List Int) (a1:Int) (a2:Int):Option (List Int×Int):=bnd (QbY N a0 a1 [a2]) λ y1=>some (y1.1,y1.2)
def Qel (N:Nat) (a0:W0) (a1:Int):Option W0:=grd (a0.Queue.length*8<=140737488355328) <| grd ((a0.Queue.length+1)*8<=140737488355328) <| some (W0.mk a0.Heap a0.Old a0.Taken (a0.Queue++[a1]) a0.Scanned (Us.mk a0.Report.Copied (wI (a0.Report.Kept+1)) a0.Report.Filled a0.Report.Freed a0.Report.Cleared a0.Report.Steps))
def QaS (N:Nat) (a0:List Wv):Nat->Int->(List Oh)->Option (List Oh)
 | 0,_,_=>none
 | n+1,v1,v2 =>
  bif (decide (v1<((a0.length:Nat):Int))) then (bnd (Xb a0 v1) λ p3 =>
   bif (p3.Kind != 0) then QaS N a0 n (wI (v1+1)) v2
   else grd (v2.length<=140737488355328) <|
   jn (λ (_:Unit) =>
    grd ((v2.length+1)*16<=140737488355328) <|
    QaS N a0 n (wI (v1+1)) (v2++[(Oh.mk v1 1)])) λ j1 =>
   bif (decide (((v2.length:Nat):Int)>0)) then (bnd (Xb v2 (wI (((v2.length:Nat):Int)-1))) λ p4 =>
    bnd (Xb v2 (wI (((v2.length:Nat):Int)-1))) λ p5 =>
    bif ((wI (p4.From+p5.Len))==v1) then (bnd (Xb v2 (wI (((v2.length:Nat):Int)-1))) λ p6 =>
     bnd (Xb v2 (wI (((v2.length:Nat):Int)-1))) λ p7 =>
     QaS N a0 n (wI (v1+1)) (v2.set (wI (((v2.length:Nat):Int)-1)).toNat (Oh.mk p7.From (wI (p6.Len+1)))))
    else j1 ())
   else j1 ())
  else some v2
def QfA (N:Nat) (a0:List Wv):Option (List Oh):=bnd (QaS N a0 N 0 []) λ y8=>some y8
def QaY (N:Nat) (a1:Int) (y1:List Oh):Nat->Int->Option (Ex Int Unit)
 | 0,_=>none
 | n+1,v2 =>
  bif (decide (v2<((y1.length:Nat):Int))) then (bif (decide (a1>=1)) then (bnd (Xb y1 v2) λ p3 =>
      bif (decide (p3.Len>=a1)) then (bnd (Xb y1 v2) λ p4 =>
       some (.ret p4.From))
      else QaY N a1 y1 n (wI (v2+1)))
   else QaY N a1 y1 n (wI (v2+1)))
  else some (.nxt ())
def QbA (N:Nat) (a0:List Wv) (a1:Int):Option Int:=bnd (QfA N a0) λ y1=>bnd (QaY N a1 y1 N 0) λ e=>exK e (λ r=>some r) λ y5=>some (-1)
def Qc0 (N:Nat) (a1:Int) (a2:Int) (a3:Wv) (a4:Wv):Nat->Int->(List Wv)->Option (Ex (List Wv×Int) (List Wv))
 | 0,_,_=>none
 | n+1,v1,v2 =>
  bif (decide (v1<a2)) then (bnd (Xb v2 (wI (a1+v1))) λ p3 =>
   bif (p3.Kind != 0) then some (.ret ([],20))
   else bnd (Xb v2 (wI (a1+v1))) λ p4 =>
   Qc0 N a1 a2 a3 a4 n (wI (v1+1)) (v2.set (wI (a1+v1)).toNat a4))
  else some (.nxt v2)
def Qcr (N:Nat) (a0:List Wv) (a1:Int) (a2:Int) (a3:Wv) (a4:Wv):Option (List Wv×Int):=bif (decide (a1<0)) then some ([],2) else bif (decide (a1>=((a0.length:Nat):Int))) then some ([],2) else bif (decide (a2>(wI (((a0.length:Nat):Int)-a1)))) then some ([],2) else grd (a0.length*32<=140737488355328) <| bnd (Qc0 N a1 a2 a3 a4 N 0 a0) λ e=>exK e (λ r=>some r) λ y5=>bnd (Xb y5 a1) λ p6=>some ((y5.set a1.toNat a3),0)
def QbB (N:Nat) (a0:List Wv) (a1:Int) (a2:Int):Option (List Wv×Int):=bif (decide (a2<0)) then some ([],1) else bif (decide (a2>1)) then some ([],1) else bnd (Qcr N a0 a1 1 (Wv.mk 1 a2 0 0) (Wv.mk 0 0 0 0)) λ y1=>some (y1.1,y1.2)
def QdO (N:Nat) (a0:W0) (a1:Int):Option (W0×Int×Bool):=grd (a0.Heap.Pages.length*32<=140737488355328) <| jn (λ (_:Unit)=>bnd (QbA N a0.Heap.Pages 1) λ y4=>bif (decide (y4<0)) then some ((W0.mk zHp [] [] [] 0 (Us.mk 0 0 0 0 0 0)),0,false) else bnd (QbB N a0.Heap.Pages y4 (wI (1-a0.Heap.Space))) λ y5=>grd (a0.Taken.length*8<=140737488355328) <| grd ((a0.Taken.length+1)*8<=140737488355328) <| bnd (Xb y5.1 y4) λ p13=>bnd (Xb y5.1 y4) λ p14=>bnd (Xb y5.1 y4) λ p15=>some ((W0.mk (Wn.mk a0.Heap.Conf a0.Heap.Words (y5.1.set y4.toNat (Wv.mk p15.Kind p15.Space (wI (p14.Used+a1)) p15.Pins)) a0.Heap.Space a0.Heap.Bump) a0.Old (a0.Taken++[y4]) a0.Queue a0.Scanned a0.Report),(wU (wI ((wI (4096+(wI (y4*a0.Heap.Conf.PageWords))))+p13.Used))),true)) λ j1=>bif (decide (((a0.Taken.length:Nat):Int)>0)) then (bnd (Xb a0.Taken (wI (((a0.Taken.length:Nat):Int)-1))) λ p1=>bnd (Xb a0.Heap.Pages p1) λ p2=>bif (decide ((wI (p2.Used+a1))<=a0.Heap.Conf.PageWords)) then (bnd (Xb a0.Taken (wI (((a0.Taken.length:Nat):Int)-1))) λ p3=>bnd (Xb a0.Heap.Pages p3) λ p10=>bnd (Xb a0.Heap.Pages p3) λ p11=>bnd (Xb a0.Heap.Pages p3) λ p12=>some ((W0.mk (Wn.mk a0.Heap.Conf a0.Heap.Words (a0.Heap.Pages.set p3.toNat (Wv.mk p12.Kind p12.Space (wI (p11.Used+a1)) p12.Pins)) a0.Heap.Space a0.Heap.Bump) a0.Old a0.Taken a0.Queue a0.Scanned a0.Report),(wU (wI ((wI (4096+(wI (p3*a0.Heap.Conf.PageWords))))+p10.Used))),true)) else j1 ()) else j1 ()
def QeO (N:Nat) (a0:List Int) (a1:Int) (a2:Int) (a3:Int):Option (List Int×Int):=bnd (QcM N a0 a2 a3) λ y1=>bif (y1.2 != 0) then some ([],y1.2) else bnd (QbY N a0 a1 y1.1) λ y2=>some (y2.1,y2.2)
def Qdw (N:Nat) (a0:Int):Option (Int×Int):=bif (decide (a0>=4294967296)) then some (0,1) else some ((wU ((wU (4*a0))+2)),0)
def Qdc (N:Nat) (a0:W0) (a1:Int):Nat->Int->(List Wv)->Option (List Wv)
 | 0,_,_=>none
 | n+1,v10,v11 =>
  grd (v11.length<=140737488355328) <|
  bif (decide (v10<((v11.length:Nat):Int))) then (bnd (Xb v11 v10) λ p12 =>
   bif (p12.Kind==3) then (bnd (Xb v11 v10) λ p13 =>
    Qdc N a0 a1 n (wI (v10+1)) (v11.set v10.toNat (Wv.mk p13.Kind (wI (1-a0.Heap.Space)) p13.Used p13.Pins)))
   else some v11)
  else some v11
def Qc1 (N:Nat) (a0:W0) (a1:Int):Option (W0×Int×Int):=bif (a1==0) then some (a0,a1,0) else bnd (QcA N a0.Queue a1) λ y1=>bif y1 then some (a0,a1,0) else bnd (QcA N a0.Old a1) λ y2=>bif (!y2) then some ((W0.mk zHp [] [] [] 0 (Us.mk 0 0 0 0 0 0)),0,19) else bnd (Qa5 N a0.Heap.Words a1) λ y3=>bnd (Qdr N y3.1) λ y4=>bif y4.2 then some (a0,y4.1,0) else bnd (Qc9 N a0.Heap.Conf a1) λ y5=>bif (y5.2.2 != 0) then some ((W0.mk zHp [] [] [] 0 (Us.mk 0 0 0 0 0 0)),0,19) else bif (decide (y5.1>=((a0.Heap.Pages.length:Nat):Int))) then some ((W0.mk zHp [] [] [] 0 (Us.mk 0 0 0 0 0 0)),0,19) else bnd (QdZ N a0 y5.1) λ y6=>bif y6 then (bnd (Qel N a0 a1) λ y7=>some (y7,a1,0)) else bnd (Xb a0.Heap.Pages y5.1) λ p8=>bif (p8.Kind==2) then (grd (a0.Heap.Pages.length*32<=140737488355328) <| bnd (Xb a0.Heap.Pages y5.1) λ p9=>bnd (Qdc N a0 a1 N (wI (y5.1+1)) (a0.Heap.Pages.set y5.1.toNat (Wv.mk p9.Kind (wI (1-a0.Heap.Space)) p9.Used p9.Pins))) λ y14=>bnd (Qel N (W0.mk (Wn.mk a0.Heap.Conf a0.Heap.Words y14 a0.Heap.Space a0.Heap.Bump) a0.Old a0.Taken a0.Queue a0.Scanned a0.Report) a1) λ y15=>some (y15,a1,0)) else bnd (QbK N y3.1) λ y16=>bnd (Qco N y16.1) λ y17=>bnd (QdO N a0 y17) λ y18=>bif (!y18.2.2) then some ((W0.mk zHp [] [] [] 0 (Us.mk 0 0 0 0 0 0)),0,3) else bnd (QeO N y18.1.Heap.Words y18.2.1 a1 y17) λ y19=>bnd (Qdw N y18.2.1) λ y20=>bnd (Qdm N y19.1 a1 y20.1) λ y21=>grd (y18.1.Queue.length*8<=140737488355328) <| grd ((y18.1.Queue.length+1)*8<=140737488355328) <| some ((W0.mk (Wn.mk y18.1.Heap.Conf y21.1 y18.1.Heap.Pages y18.1.Heap.Space y18.1.Heap.Bump) y18.1.Old y18.1.Taken (y18.1.Queue++[y18.2.1]) y18.1.Scanned (Us.mk (wI (y18.1.Report.Copied+1)) y18.1.Report.Kept y18.1.Report.Filled y18.1.Report.Freed y18.1.Report.Cleared y18.1.Report.Steps)),y18.2.1,0)
def QbC (N:Nat) (a1:List Int):Nat->Int->Int->Int->(List Int)->(List Wv)->Int->Int->(List Int)->(List Int)->(List Int)->Int->Int->Int->Int->Int->Int->Int->(List Int)->Option (Ex (W0×List Int×Int) (Int×Int×List Int×List Wv×Int×Int×List Int×List Int×List Int×Int×Int×Int×Int×Int×Int×Int×List Int))
 | 0,_,_,_,_,_,_,_,_,_,_,_,_,_,_,_,_,_,_=>none
 | n+1,v1,v2,v3,v4,v5,v6,v7,v8,v9,v10,v11,v12,v13,v14,v15,v16,v17,v18 =>
  bif (decide (v1<((a1.length:Nat):Int))) then (bnd (Xb a1 v1) λ p19 =>
   bnd (Qc1 N (W0.mk (Wn.mk (WT.mk v2 v3) v4 v5 v6 v7) v8 v9 v10 v11 (Us.mk v12 v13 v14 v15 v16 v17)) p19) λ y20 =>
   bif (y20.2.2 != 0) then some (.ret ((W0.mk zHp [] [] [] 0 (Us.mk 0 0 0 0 0 0)),[],y20.2.2))
   else grd ((v18.length+1)*8<=140737488355328) <|
   QbC N a1 n (wI (v1+1)) y20.1.Heap.Conf.PageWords y20.1.Heap.Conf.Pages y20.1.Heap.Words y20.1.Heap.Pages y20.1.Heap.Space y20.1.Heap.Bump y20.1.Old y20.1.Taken y20.1.Queue y20.1.Scanned y20.1.Report.Copied y20.1.Report.Kept y20.1.Report.Filled y20.1.Report.Freed y20.1.Report.Cleared y20.1.Report.Steps (v18++[y20.2.1]))
  else some (.nxt (v2,v3,v4,v5,v6,v7,v8,v9,v10,v11,v12,v13,v14,v15,v16,v17,v18))
def Qer (N:Nat) (a0:W0) (a1:List Int):Option (W0×List Int×Int):=bnd (QbC N a1 N 0 a0.Heap.Conf.PageWords a0.Heap.Conf.Pages a0.Heap.Words a0.Heap.Pages a0.Heap.Space a0.Heap.Bump a0.Old a0.Taken a0.Queue a0.Scanned a0.Report.Copied a0.Report.Kept a0.Report.Filled a0.Report.Freed a0.Report.Cleared a0.Report.Steps []) λ e=>exK e (λ r=>some r) λ y21=>some ((W0.mk (Wn.mk (WT.mk y21.1 y21.2.1) y21.2.2.1 y21.2.2.2.1 y21.2.2.2.2.1 y21.2.2.2.2.2.1) y21.2.2.2.2.2.2.1 y21.2.2.2.2.2.2.2.1 y21.2.2.2.2.2.2.2.2.1 y21.2.2.2.2.2.2.2.2.2.1 (Us.mk y21.2.2.2.2.2.2.2.2.2.2.1 y21.2.2.2.2.2.2.2.2.2.2.2.1 y21.2.2.2.2.2.2.2.2.2.2.2.2.1 y21.2.2.2.2.2.2.2.2.2.2.2.2.2.1 y21.2.2.2.2.2.2.2.2.2.2.2.2.2.2.1 y21.2.2.2.2.2.2.2.2.2.2.2.2.2.2.2.1)),y21.2.2.2.2.2.2.2.2.2.2.2.2.2.2.2.2,0)
def QeI (N:Nat) (a0:W0) (a1:Int):Option Wy:=bnd (Qa5 N a0.Heap.Words a1) λ y1=>bnd (QbK N y1.1) λ y2=>some y2.1
def QbE (N:Nat) (a0:Wy):Nat->Int->(List Int)->Option (List Int)
 | 0,_,_=>none
 | n+1,v1,v2 =>
  bif (decide (v1<a0.Length)) then (bnd (QcG N a0) λ y3 =>
   bif y3 then (bnd (QbU N a0 v1) λ y4 =>
    bif y4 then (grd ((v2.length+1)*8<=140737488355328) <|
     QbE N a0 n (wI (v1+1)) (v2++[v1]))
    else QbE N a0 n (wI (v1+1)) v2)
   else some v2)
  else some v2
def QeB (N:Nat) (a0:Wy):Option (List Int):=bnd (QbE N a0 N 0 []) λ y5=>some y5
def QbZ (N:Nat) (p1:Int) (y3:List Int):Nat->Int->Int->Int->(List Int)->(List Wv)->Int->Int->(List Int)->(List Int)->(List Int)->Int->Int->Int->Int->Int->Int->Int->Option (Ex (W0×Bool×Int) (Int×Int×List Int×List Wv×Int×Int×List Int×List Int×List Int×Int×Int×Int×Int×Int×Int×Int))
 | 0,_,_,_,_,_,_,_,_,_,_,_,_,_,_,_,_,_=>none
 | n+1,v4,v5,v6,v7,v8,v9,v10,v11,v12,v13,v14,v15,v16,v17,v18,v19,v20 =>
  bif (decide (v4<((y3.length:Nat):Int))) then (bnd (Xb y3 v4) λ p21 =>
   bnd (Qa5 N v7 (wU ((wU (p1+1))+(wU p21)))) λ y22 =>
   bnd (Qc1 N (W0.mk (Wn.mk (WT.mk v5 v6) v7 v8 v9 v10) v11 v12 v13 v14 (Us.mk v15 v16 v17 v18 v19 v20)) y22.1) λ y23 =>
   bif (y23.2.2 != 0) then some (.ret ((W0.mk zHp [] [] [] 0 (Us.mk 0 0 0 0 0 0)),false,y23.2.2))
   else bnd (Qdm N y23.1.Heap.Words (wU ((wU (p1+1))+(wU p21))) y23.2.1) λ y24 =>
   QbZ N p1 y3 n (wI (v4+1)) y23.1.Heap.Conf.PageWords y23.1.Heap.Conf.Pages y24.1 y23.1.Heap.Pages y23.1.Heap.Space y23.1.Heap.Bump y23.1.Old y23.1.Taken y23.1.Queue y23.1.Scanned y23.1.Report.Copied y23.1.Report.Kept y23.1.Report.Filled y23.1.Report.Freed y23.1.Report.Cleared y23.1.Report.Steps)
  else some (.nxt (v5,v6,v7,v8,v9,v10,v11,v12,v13,v14,v15,v16,v17,v18,v19,v20))
def QeP (N:Nat) (a0:W0):Option (W0×Bool×Int):=bif (decide (a0.Scanned>=((a0.Queue.length:Nat):Int))) then some (a0,false,0) else bnd (Xb a0.Queue a0.Scanned) λ p1=>bnd (QeI N a0 p1) λ y2=>bnd (QeB N y2) λ y3=>bnd (QbZ N p1 y3 N 0 a0.Heap.Conf.PageWords a0.Heap.Conf.Pages a0.Heap.Words a0.Heap.Pages a0.Heap.Space a0.Heap.Bump a0.Old a0.Taken a0.Queue a0.Scanned a0.Report.Copied a0.Report.Kept a0.Report.Filled a0.Report.Freed a0.Report.Cleared a0.Report.Steps) λ e=>exK e (λ r=>some r) λ y25=>some ((W0.mk (Wn.mk (WT.mk y25.1 y25.2.1) y25.2.2.1 y25.2.2.2.1 y25.2.2.2.2.1 y25.2.2.2.2.2.1) y25.2.2.2.2.2.2.1 y25.2.2.2.2.2.2.2.1 y25.2.2.2.2.2.2.2.2.1 (wI (y25.2.2.2.2.2.2.2.2.2.1+1)) (Us.mk y25.2.2.2.2.2.2.2.2.2.2.1 y25.2.2.2.2.2.2.2.2.2.2.2.1 y25.2.2.2.2.2.2.2.2.2.2.2.2.1 y25.2.2.2.2.2.2.2.2.2.2.2.2.2.1 y25.2.2.2.2.2.2.2.2.2.2.2.2.2.2.1 (wI ((wI (y25.2.2.2.2.2.2.2.2.2.2.2.2.2.2.2+1))+((y3.length:Nat):Int))))),true,0)
def Qch (N:Nat):Nat->Int->Int->(List Int)->(List Wv)->Int->Int->(List Int)->(List Int)->(List Int)->Int->Int->Int->Int->Int->Int->Int->Option (W0×Int)
 | 0,_,_,_,_,_,_,_,_,_,_,_,_,_,_,_,_=>none
 | n+1,v1,v2,v3,v4,v5,v6,v7,v8,v9,v10,v11,v12,v13,v14,v15,v16 =>
  bnd (QeP N (W0.mk (Wn.mk (WT.mk v1 v2) v3 v4 v5 v6) v7 v8 v9 v10 (Us.mk v11 v12 v13 v14 v15 v16))) λ y17 =>
  bif (y17.2.2 != 0) then some ((W0.mk zHp [] [] [] 0 (Us.mk 0 0 0 0 0 0)),y17.2.2)
  else bif (!y17.2.1) then some (y17.1,0)
  else Qch N n y17.1.Heap.Conf.PageWords y17.1.Heap.Conf.Pages y17.1.Heap.Words y17.1.Heap.Pages y17.1.Heap.Space y17.1.Heap.Bump y17.1.Old y17.1.Taken y17.1.Queue y17.1.Scanned y17.1.Report.Copied y17.1.Report.Kept y17.1.Report.Filled y17.1.Report.Freed y17.1.Report.Cleared y17.1.Report.Steps
def Qfn (N:Nat) (a0:W0):Option (W0×Int):=bnd (Qch N N a0.Heap.Conf.PageWords a0.Heap.Conf.Pages a0.Heap.Words a0.Heap.Pages a0.Heap.Space a0.Heap.Bump a0.Old a0.Taken a0.Queue a0.Scanned a0.Report.Copied a0.Report.Kept a0.Report.Filled a0.Report.Freed a0.Report.Cleared a0.Report.Steps) λ r=>some r
def Qes (N:Nat) (a0:W0) (a1:Int):Option Int:=bnd (QcA N a0.Queue a1) λ y1=>bif y1 then some a1 else bnd (Qa5 N a0.Heap.Words a1) λ y2=>bnd (Qdr N y2.1) λ y3=>some y3.1
def Qb0 (N:Nat) (a0:W0) (v4:List Wv) (p5:Wv) (v1:Int) (v2:Int):Nat->Int->(List Int)->Option (List Int)
 | 0,_,_=>none
 | n+1,v7,v8 =>
  bif (decide (v7<a0.Heap.Conf.PageWords)) then (bnd (Xb v8 (wI ((wI (v1*a0.Heap.Conf.PageWords))+v7))) λ p9 =>
   Qb0 N a0 v4 p5 v1 v2 n (wI (v7+1)) (v8.set (wI ((wI (v1*a0.Heap.Conf.PageWords))+v7)).toNat 0))
  else some v8
def Qbh (N:Nat) (a0:W0):Nat->Int->Int->(List Int)->(List Wv)->Option (Int×List Int×List Wv)
 | 0,_,_,_,_=>none
 | n+1,v1,v2,v3,v4 =>
  grd (v4.length<=140737488355328) <|
  bif (decide (v1<((v4.length:Nat):Int))) then (bnd (Xb v4 v1) λ p5 =>
   bif (p5.Kind==0) then Qbh N a0 n (wI (v1+1)) v2 v3 v4
   else bif (p5.Space != a0.Heap.Space) then Qbh N a0 n (wI (v1+1)) v2 v3 v4
   else bnd (Xb v4 v1) λ p6 =>
   bnd (Qb0 N a0 v4 p5 v1 v2 N 0 v3) λ y10 =>
   Qbh N a0 n (wI (v1+1)) (wI (v2+1)) y10 (v4.set v1.toNat (Wv.mk 0 0 0 0)))
  else some (v2,v3,v4)
def QdH (N:Nat) (a0:W0):Option W0:=grd (a0.Heap.Pages.length*32<=140737488355328) <| grd (a0.Heap.Words.length*8<=140737488355328) <| bnd (Qbh N a0 N 0 a0.Report.Freed a0.Heap.Words a0.Heap.Pages) λ y11=>some (W0.mk (Wn.mk a0.Heap.Conf y11.2.1 y11.2.2 a0.Heap.Space a0.Heap.Bump) a0.Old a0.Taken a0.Queue a0.Scanned (Us.mk a0.Report.Copied a0.Report.Kept a0.Report.Filled y11.1 a0.Report.Cleared a0.Report.Steps))
def QaZ (N:Nat) (a0:W0):Nat->Int->(List Int)->Int->Option (List Int×Int)
 | 0,_,_,_=>none
 | n+1,v1,v2,v3 =>
  bif (decide (v1<((a0.Old.length:Nat):Int))) then (bnd (Xb a0.Old v1) λ p4 =>
   bnd (Qc9 N a0.Heap.Conf p4) λ y5 =>
   bnd (QdZ N (W0.mk (Wn.mk a0.Heap.Conf v2 a0.Heap.Pages a0.Heap.Space a0.Heap.Bump) a0.Old a0.Taken a0.Queue a0.Scanned (Us.mk a0.Report.Copied a0.Report.Kept v3 a0.Report.Freed a0.Report.Cleared a0.Report.Steps)) y5.1) λ y6 =>
   bif (!y6) then QaZ N a0 n (wI (v1+1)) v2 v3
   else bnd (Xb a0.Old v1) λ p7 =>
   bnd (QcA N a0.Queue p7) λ y8 =>
   bif y8 then QaZ N a0 n (wI (v1+1)) v2 v3
   else bnd (Xb a0.Old v1) λ p9 =>
   bnd (QeI N (W0.mk (Wn.mk a0.Heap.Conf v2 a0.Heap.Pages a0.Heap.Space a0.Heap.Bump) a0.Old a0.Taken a0.Queue a0.Scanned (Us.mk a0.Report.Copied a0.Report.Kept v3 a0.Report.Freed a0.Report.Cleared a0.Report.Steps)) p9) λ y10 =>
   bnd (Qcg N (Wy.mk 0 y10.Length 0)) λ y11 =>
   bnd (Xb a0.Old v1) λ p12 =>
   grd (0<=y10.Length/\y10.Length.toNat*8<=140737488355328) <|
   grd ((1+y10.Length.toNat)*8<=140737488355328) <|
   bnd (QbY N v2 p12 ([y11.1]++(List.replicate y10.Length.toNat (0:Int)))) λ y13 =>
   QaZ N a0 n (wI (v1+1)) y13.1 (wI (v3+1)))
  else some (v2,v3)
def QeQ (N:Nat) (a0:W0):Option W0:=bnd (QaZ N a0 N 0 a0.Heap.Words a0.Report.Filled) λ y14=>some (W0.mk (Wn.mk a0.Heap.Conf y14.1 a0.Heap.Pages a0.Heap.Space a0.Heap.Bump) a0.Old a0.Taken a0.Queue a0.Scanned (Us.mk a0.Report.Copied a0.Report.Kept y14.2 a0.Report.Freed a0.Report.Cleared a0.Report.Steps))
def Qa8 (N:Nat) (a2:List Int) (y5:W0×List Int×Int) (y6:W0×Int):Nat->Int->Int->(List Int)->Option (Int×List Int)
 | 0,_,_,_=>none
 | n+1,v7,v8,v9 =>
  bif (decide (v7<((a2.length:Nat):Int))) then (bnd (Xb a2 v7) λ p10 =>
   jn (λ (x14:Int) (x15:Int) =>
    grd ((v9.length+1)*8<=140737488355328) <|
    Qa8 N a2 y5 y6 n (wI (v7+1)) x15 (v9++[x14])) λ j3 =>
   bif (p10 != 0) then (bnd (Xb a2 v7) λ p11 =>
    bnd (Qes N (W0.mk y6.1.Heap y6.1.Old y6.1.Taken y6.1.Queue y6.1.Scanned (Us.mk y6.1.Report.Copied y6.1.Report.Kept y6.1.Report.Filled y6.1.Report.Freed v8 y6.1.Report.Steps)) p11) λ y12 =>
    jn (λ (x13:Int) =>
     j3 y12 x13) λ j2 =>
    bif (y12==0) then j2 (wI (v8+1))
    else j2 v8)
   else j3 0 v8)
  else some (v8,v9)
def Qcs (N:Nat) (a0:Wn) (a1:List Int) (a2:List Int):Option (Wn×List Int×List Int×Us×Int):=bnd (Qab N a0) λ y1=>bif (!y1) then some (zHp,[],[],(Us.mk 0 0 0 0 0 0),1) else jn (λ (_:Unit)=>some (zHp,[],[],(Us.mk 0 0 0 0 0 0),19)) λ j1=>bnd (Qbl N a0 a1) λ y2=>bif (!y2) then j1 () else bnd (Qbl N a0 a2) λ y3=>bif (!y3) then j1 () else bnd (Qdl N a0) λ y4=>bnd (Qer N y4.1 a1) λ y5=>bif (y5.2.2 != 0) then some (zHp,[],[],(Us.mk 0 0 0 0 0 0),y5.2.2) else bnd (Qfn N y5.1) λ y6=>bif (y6.2 != 0) then some (zHp,[],[],(Us.mk 0 0 0 0 0 0),y6.2) else bnd (Qa8 N a2 y5 y6 N 0 y6.1.Report.Cleared []) λ y16=>bnd (QeQ N (W0.mk y6.1.Heap y6.1.Old y6.1.Taken y6.1.Queue y6.1.Scanned (Us.mk y6.1.Report.Copied y6.1.Report.Kept y6.1.Report.Filled y6.1.Report.Freed y16.1 y6.1.Report.Steps))) λ y17=>bnd (QdH N y17) λ y18=>jn (λ (x20:Int)=>some ((Wn.mk y18.Heap.Conf y18.Heap.Words y18.Heap.Pages (wI (1-y18.Heap.Space)) x20),y5.2.1,y16.2,y18.Report,0)) λ j4=>bif (decide (((y18.Taken.length:Nat):Int)>0)) then (bnd (Xb y18.Taken (wI (((y18.Taken.length:Nat):Int)-1))) λ p19=>j4 p19) else j4 (-1)
def QaT (N:Nat) (a0:W6):Nat->Int->(List Int)->Option (List Int)
 | 0,_,_=>none
 | n+1,v3,v4 =>
  bif (decide (v3<((a0.Pins.length:Nat):Int))) then (bnd (Xb a0.Pins v3) λ p5 =>
   grd ((v4.length+1)*8<=140737488355328) <|
   QaT N a0 n (wI (v3+1)) (v4++[p5.Ref]))
  else some v4
def Qd3 (N:Nat) (a0:W6):Option (List Int):=grd (a0.Roots.length*8<=140737488355328) <| bnd (Qcq N a0.Locals) λ y1=>grd ((a0.Roots.length+y1.length)*8<=140737488355328) <| bnd (Qbc N a0.Globals) λ y2=>grd (((a0.Roots.length+y1.length)+y2.length)*8<=140737488355328) <| bnd (QaT N a0 N 0 ((a0.Roots++y1)++y2)) λ y6=>some y6
def Qa0 (N:Nat) (a0:Ww) (a1:List Int):Nat->Int->Int->(List UX)->Option (Ex (Ww×Int) (List UX))
 | 0,_,_,_=>none
 | n+1,v3,v4,v5 =>
  grd (v5.length<=140737488355328) <|
  bif (decide (v4<((v5.length:Nat):Int))) then (bnd (Xb v5 v4) λ p6 =>
   bif (!p6.Live) then Qa0 N a0 a1 n v3 (wI (v4+1)) v5
   else bnd (Xb a1 v3) λ p7 =>
   bif (p7==0) then some (.ret ((Ww.mk [] [] []),1))
   else bnd (Xb a1 v3) λ p8 =>
   bnd (Xb v5 v4) λ p9 =>
   Qa0 N a0 a1 n (wI (v3+1)) (wI (v4+1)) (v5.set v4.toNat (UX.mk p9.Stamp p8 p9.Live)))
  else some (.nxt v5)
def QdI (N:Nat) (a0:Ww) (a1:List Int):Option (Ww×Int):=bnd (QbW N a0) λ y1=>bif (!y1) then some ((Ww.mk [] [] []),1) else bnd (Qcq N a0) λ y2=>bif (((a1.length:Nat):Int) != ((y2.length:Nat):Int)) then some ((Ww.mk [] [] []),1) else grd (a0.Slots.length*24<=140737488355328) <| bnd (Qa0 N a0 a1 N 0 0 a0.Slots) λ e=>exK e (λ r=>some r) λ y10=>some ((Ww.mk y10 a0.Scopes a0.Issued),0)
def Qa1 (N:Nat) (a1:List Int):Nat->Int->Int->(List Ub)->Option (List Ub)
 | 0,_,_,_=>none
 | n+1,v3,v4,v5 =>
  grd (v5.length<=140737488355328) <|
  bif (decide (v4<((v5.length:Nat):Int))) then (bnd (Xb v5 v4) λ p6 =>
   bif p6.Live then (bnd (Xb a1 v3) λ p7 =>
    bnd (Xb v5 v4) λ p8 =>
    Qa1 N a1 n (wI (v3+1)) (wI (v4+1)) (v5.set v4.toNat (Ub.mk p8.Gen p7 p8.Live)))
   else Qa1 N a1 n v3 (wI (v4+1)) v5)
  else some v5
def Qct (N:Nat) (a0:WI) (a1:List Int):Option (WI×Int):=bnd (QbX N a0) λ y1=>bif (!y1) then some ((WI.mk []),1) else bnd (Qbc N a0) λ y2=>grd (y2.length<=140737488355328) <| bif (((a1.length:Nat):Int) != ((y2.length:Nat):Int)) then some ((WI.mk []),1) else grd (a0.Entries.length*24<=140737488355328) <| bnd (Qa1 N a1 N 0 0 a0.Entries) λ y9=>some ((WI.mk y9),0)
def QaL (N:Nat) (a0:W6) (y4:Wn×List Int×List Int×Us×Int) (y5:List Int) (y6:List Int) (y7:Ww×Int) (y8:WI×Int) (y9:WI×Int):Nat->Int->(List UN)->Option (List UN)
 | 0,_,_=>none
 | n+1,v10,v11 =>
  bif (decide (v10<((a0.Pins.length:Nat):Int))) then (bnd (Xb y4.2.1 (wI ((wI ((wI (((a0.Roots.length:Nat):Int)+((y5.length:Nat):Int)))+((y6.length:Nat):Int)))+v10))) λ p12 =>
   bnd (Xb a0.Pins v10) λ p13 =>
   grd ((v11.length+1)*16<=140737488355328) <|
   QaL N a0 y4 y5 y6 y7 y8 y9 n (wI (v10+1)) (v11++[(UN.mk p12 p13.Count)]))
  else some v11
def Qa2 (N:Nat) (a0:W6):Option (W6×Us×Int):=bnd (QcH N a0) λ y1=>bif (!y1) then some ((W6.mk zHp (Ww.mk [] [] []) (WI.mk []) (WI.mk []) [] []),(Us.mk 0 0 0 0 0 0),19) else bnd (Qd3 N a0) λ y2=>bnd (Qbc N a0.Weaks) λ y3=>bnd (Qcs N a0.Heap y2 y3) λ y4=>bif (y4.2.2.2.2 != 0) then some ((W6.mk zHp (Ww.mk [] [] []) (WI.mk []) (WI.mk []) [] []),(Us.mk 0 0 0 0 0 0),y4.2.2.2.2) else bnd (Qcq N a0.Locals) λ y5=>bnd (Qbc N a0.Globals) λ y6=>grd (y6.length<=140737488355328) <| grd (0<=0/\0<=((a0.Roots.length:Nat):Int)/\((a0.Roots.length:Nat):Int)<=((y4.2.1.length:Nat):Int)) <| grd ((min (((a0.Roots.length:Nat):Int).toNat) y4.2.1.length)*8<=140737488355328) <| grd (0<=((a0.Roots.length:Nat):Int)/\((a0.Roots.length:Nat):Int)<=(wI (((a0.Roots.length:Nat):Int)+((y5.length:Nat):Int)))/\(wI (((a0.Roots.length:Nat):Int)+((y5.length:Nat):Int)))<=((y4.2.1.length:Nat):Int)) <| bnd (QdI N a0.Locals ((y4.2.1.drop ((a0.Roots.length:Nat):Int).toNat).take ((wI (((a0.Roots.length:Nat):Int)+((y5.length:Nat):Int))).toNat-((a0.Roots.length:Nat):Int).toNat))) λ y7=>grd (0<=(wI (((a0.Roots.length:Nat):Int)+((y5.length:Nat):Int)))/\(wI (((a0.Roots.length:Nat):Int)+((y5.length:Nat):Int)))<=(wI ((wI (((a0.Roots.length:Nat):Int)+((y5.length:Nat):Int)))+((y6.length:Nat):Int)))/\(wI ((wI (((a0.Roots.length:Nat):Int)+((y5.length:Nat):Int)))+((y6.length:Nat):Int)))<=((y4.2.1.length:Nat):Int)) <| bnd (Qct N a0.Globals ((y4.2.1.drop (wI (((a0.Roots.length:Nat):Int)+((y5.length:Nat):Int))).toNat).take ((wI ((wI (((a0.Roots.length:Nat):Int)+((y5.length:Nat):Int)))+((y6.length:Nat):Int))).toNat-(wI (((a0.Roots.length:Nat):Int)+((y5.length:Nat):Int))).toNat))) λ y8=>bnd (Qct N a0.Weaks y4.2.2.1) λ y9=>bnd (QaL N a0 y4 y5 y6 y7 y8 y9 N 0 []) λ y14=>some ((W6.mk y4.1 y7.1 y8.1 y9.1 y14 (y4.2.1.take ((a0.Roots.length:Nat):Int).toNat)),y4.2.2.2.1,0)
def QcN (N:Nat) (a0:WM) (a1:List Int):Nat->Int->Option (Ex Bool Unit)
 | 0,_=>none
 | n+1,v1 =>
  bif (decide (v1<((a1.length:Nat):Int))) then (bnd (Xb a1 v1) λ p2 =>
   bif (decide (p2>(wU ((a0.Things.length:Nat):Int)))) then some (.ret false)
   else QcN N a0 a1 n (wI (v1+1)))
  else some (.nxt ())
def QcO (N:Nat) (a0:WM) (a1:List Int):Option Bool:=bnd (QcN N a0 a1 N 0) λ e=>exK e (λ r=>some r) λ y3=>some true
def Qdx (N:Nat) (a0:Il):Nat->Int->(List Int)->Option (List Int)
 | 0,_,_=>none
 | n+1,v1,v2 =>
  bif (decide (v1<((a0.Fields.length:Nat):Int))) then (bnd (QbU N a0.Header v1) λ y3 =>
   bif y3 then (bnd (Xb a0.Fields v1) λ p4 =>
    grd ((v2.length+1)*8<=140737488355328) <|
    Qdx N a0 n (wI (v1+1)) (v2++[p4]))
   else Qdx N a0 n (wI (v1+1)) v2)
  else some v2
def QfB (N:Nat) (a0:Il):Option (List Int):=bnd (Qdx N a0 N 0 []) λ y5=>some y5
def Qeb (N:Nat) (a0:WM) (a1:Int):Nat->Int->Option (Ex Int Unit)
 | 0,_=>none
 | n+1,v1 =>
  bif (decide (v1<((a0.Marks.length:Nat):Int))) then (bnd (Xb a0.Marks v1) λ p2 =>
   bif (p2.Id==a1) then some (.ret v1)
   else Qeb N a0 a1 n (wI (v1+1)))
  else some (.nxt ())
def QeR (N:Nat) (a0:WM) (a1:Int):Option Int:=bnd (Qeb N a0 a1 N 0) λ e=>exK e (λ r=>some r) λ y3=>some (-1)
def Qdd (N:Nat) (a0:WM):Nat->Int->Option (Ex Bool Unit)
 | 0,_=>none
 | n+1,v5 =>
  bif (decide (v5<((a0.Things.length:Nat):Int))) then (bnd (Xb a0.Things v5) λ p6 =>
   bnd (QcG N p6.Header) λ y7 =>
   bif (!y7) then some (.ret false)
   else bif (p6.Header.Kind==0) then some (.ret false)
   else bif (((p6.Fields.length:Nat):Int) != p6.Header.Length) then some (.ret false)
   else bnd (QfB N p6) λ y8 =>
   bnd (QcO N a0 y8) λ y9 =>
   bif (!y9) then some (.ret false)
   else Qdd N a0 n (wI (v5+1)))
  else some (.nxt ())
def Qde (N:Nat) (a0:WM) (y11:List Int):Nat->Int->Option (Ex Bool Unit)
 | 0,_=>none
 | n+1,v12 =>
  grd (y11.length<=140737488355328) <|
  bif (decide (v12<((y11.length:Nat):Int))) then (bnd (Xb y11 v12) λ p13 =>
   bif (p13==0) then some (.ret false)
   else Qde N a0 y11 n (wI (v12+1)))
  else some (.nxt ())
def Qdf (N:Nat) (a0:WM) (y11:List Int):Nat->Int->Option (Ex Bool Unit)
 | 0,_=>none
 | n+1,v15 =>
  bif (decide (v15<((a0.Marks.length:Nat):Int))) then (bnd (Xb a0.Marks v15) λ p16 =>
   bif (decide (p16.Id<1)) then some (.ret false)
   else bif (decide (p16.Id>(wU ((a0.Things.length:Nat):Int)))) then some (.ret false)
   else bnd (QeR N a0 p16.Id) λ y17 =>
   bif (y17 != v15) then some (.ret false)
   else bif (decide (p16.Count<1)) then some (.ret false)
   else bif (decide (p16.Count>1000)) then some (.ret false)
   else Qdf N a0 y11 n (wI (v15+1)))
  else some (.nxt ())
def QdP (N:Nat) (a0:WM):Option Bool:=bnd (Qaw N a0.Conf) λ y1=>bif (!y1) then some false else bnd (QbW N a0.Locals) λ y2=>bif (!y2) then some false else bnd (QbX N a0.Globals) λ y3=>bif (!y3) then some false else bnd (QbX N a0.Weaks) λ y4=>bif (!y4) then some false else bif (decide (((a0.Marks.length:Nat):Int)>64)) then some false else bnd (Qdd N a0 N 0) λ e=>exK e (λ r=>some r) λ y10=>bnd (Qbc N a0.Globals) λ y11=>bnd (Qde N a0 y11 N 0) λ e=>exK e (λ r=>some r) λ y14=>bnd (Qdf N a0 y11 N 0) λ e=>exK e (λ r=>some r) λ y18=>bnd (QcO N a0 a0.Roots) λ y19=>bif y19 then (bnd (Qcq N a0.Locals) λ y20=>bnd (QcO N a0 y20) λ y21=>bif y21 then (bnd (QcO N a0 y11) λ y22=>bif y22 then (bnd (Qbc N a0.Weaks) λ y23=>bnd (QcO N a0 y23) λ y24=>some y24) else some false) else some false) else some false
def Qdv (N:Nat) (a0:WM):Nat->Int->(List Int)->Option (List Int)
 | 0,_,_=>none
 | n+1,v3,v4 =>
  bif (decide (v3<((a0.Marks.length:Nat):Int))) then (bnd (Xb a0.Marks v3) λ p5 =>
   grd ((v4.length+1)*8<=140737488355328) <|
   Qdv N a0 n (wI (v3+1)) (v4++[p5.Id]))
  else some v4
def Qfo (N:Nat) (a0:WM):Option (List Int):=grd (a0.Roots.length*8<=140737488355328) <| bnd (Qcq N a0.Locals) λ y1=>grd ((a0.Roots.length+y1.length)*8<=140737488355328) <| bnd (Qbc N a0.Globals) λ y2=>grd (((a0.Roots.length+y1.length)+y2.length)*8<=140737488355328) <| bnd (Qdv N a0 N 0 ((a0.Roots++y1)++y2)) λ y6=>some y6
def QbL (N:Nat) (a0:WM):Nat->Int->(List Bool)->(List Int)->Option (List Bool)
 | 0,_,_,_=>none
 | n+1,v3,v4,v5 =>
  grd (v5.length<=140737488355328) <|
  bif (decide (v3<((v5.length:Nat):Int))) then (bnd (Xb v5 v3) λ p6 =>
   bif (p6==0) then QbL N a0 n (wI (v3+1)) v4 v5
   else bnd (Xb v5 v3) λ p7 =>
   bnd (Xb v4 (wU (p7-1))) λ p8 =>
   bif p8 then QbL N a0 n (wI (v3+1)) v4 v5
   else bnd (Xb v5 v3) λ p9 =>
   bnd (Xb v4 (wU (p9-1))) λ p10 =>
   bnd (Xb v5 v3) λ p11 =>
   bnd (Xb a0.Things (wU (p11-1))) λ p12 =>
   bnd (QfB N p12) λ y13 =>
   grd ((v5.length+y13.length)*8<=140737488355328) <|
   QbL N a0 n (wI (v3+1)) (v4.set (wU (p9-1)).toNat true) (v5++y13))
  else some v4
def QeY (N:Nat) (a0:WM):Option (List Bool):=bnd (QdP N a0) λ y1=>bif (!y1) then some [] else grd (0<=((a0.Things.length:Nat):Int)/\((a0.Things.length:Nat):Int).toNat<=140737488355328) <| bnd (Qfo N a0) λ y2=>bnd (QbL N a0 N 0 (List.replicate ((a0.Things.length:Nat):Int).toNat false) y2) λ y14=>some y14
def QaM (N:Nat) (a0:WM) (y2:List Bool):Nat->Int->(List Int)->Option (List Int)
 | 0,_,_=>none
 | n+1,v4,v5 =>
  grd (v5.length<=140737488355328) <|
  bif (decide (v4<((v5.length:Nat):Int))) then (bnd (Xb v5 v4) λ p6 =>
   bif (p6 != 0) then (bnd (Xb v5 v4) λ p7 =>
    bnd (Xb y2 (wU (p7-1))) λ p8 =>
    bif (!p8) then (bnd (Xb v5 v4) λ p9 =>
     QaM N a0 y2 n (wI (v4+1)) (v5.set v4.toNat 0))
    else QaM N a0 y2 n (wI (v4+1)) v5)
   else QaM N a0 y2 n (wI (v4+1)) v5)
  else some v5
def Qc2 (N:Nat) (a0:WM):Option (WM×Int):=bnd (QdP N a0) λ y1=>bif (!y1) then some (zWd,19) else bnd (QeY N a0) λ y2=>bnd (Qbc N a0.Weaks) λ y3=>bnd (QaM N a0 y2 N 0 y3) λ y10=>bnd (Qct N a0.Weaks y10) λ y11=>some ((WM.mk a0.Conf a0.Things a0.Locals a0.Globals y11.1 a0.Marks a0.Roots),0)
def Qac (N:Nat) (a0:Int):Option (W6×Int×Int):=some ((W6.mk zHp (Ww.mk [] [] []) (WI.mk []) (WI.mk []) [] []),0,a0)
def Qb1 (N:Nat) (a0:Int) (a1:Int) (a2:Int):Option (Wy×Bool):=bif (a0==1) then (bif (decide (a1<=2147483647)) then some ((Wy.mk a0 (wI (Yv .u64 a1 2147483647)) (wW a2)),(decide (a2<=4294967295))) else some ((Wy.mk a0 (wI (Yv .u64 a1 2147483647)) (wW a2)),false)) else some ((Wy.mk a0 (wI (Yv .u64 a1 2147483647)) 0),(decide (a1<=2147483647)))
def Qb8 (N:Nat) (a0:WT) (a1:Wy):Option Bool:=bnd (QcG N a1) λ y1=>bif y1 then (bif (a1.Kind != 0) then (bnd (Qco N a1) λ y2=>bnd (Qeh N a0 y2) λ y3=>some (y3 != (-1))) else some false) else some false
def QdQ (N:Nat) (a0:Ww) (a1:Int):Option (Ww×Int×Int×Int):=bnd (QbW N a0) λ y1=>bif (!y1) then some ((Ww.mk [] [] []),0,0,1) else bif (a1==0) then some ((Ww.mk [] [] []),0,0,1) else bif (((a0.Scopes.length:Nat):Int)==0) then some ((Ww.mk [] [] []),0,0,9) else bnd (Xb a0.Scopes (wI (((a0.Scopes.length:Nat):Int)-1))) λ p2=>bnd (Qfz N a0 p2.From ((a0.Slots.length:Nat):Int)) λ y3=>bnd (Xb a0.Scopes (wI (((a0.Scopes.length:Nat):Int)-1))) λ p4=>bif (decide (y3>=p4.Cap)) then some ((Ww.mk [] [] []),0,0,10) else bif (((a0.Issued.length:Nat):Int)==4096) then some ((Ww.mk [] [] []),0,0,18) else grd (a0.Issued.length*8<=140737488355328) <| grd ((a0.Issued.length+1)*8<=140737488355328) <| grd (a0.Slots.length*24<=140737488355328) <| grd ((a0.Slots.length+1)*24<=140737488355328) <| some ((Ww.mk (a0.Slots++[(UX.mk (wI (((a0.Issued.length:Nat):Int)+1)) a1 true)]) a0.Scopes (a0.Issued++[((a0.Slots.length:Nat):Int)])),((a0.Slots.length:Nat):Int),(wI (((a0.Issued.length:Nat):Int)+1)),0)
def QdR (N:Nat) (a0:WT):Option Int:=bnd (Qaw N a0) λ y1=>bif (!y1) then some 0 else some (wI (a0.Pages.tdiv 4))
def Qa3 (N:Nat) (a0:List Wv):Nat->Int->Int->Option Int
 | 0,_,_=>none
 | n+1,v1,v2 =>
  bif (decide (v2<((a0.length:Nat):Int))) then (bnd (Xb a0 v2) λ p3 =>
   bif (p3.Kind != 0) then Qa3 N a0 n (wI (v1+1)) (wI (v2+1))
   else Qa3 N a0 n v1 (wI (v2+1)))
  else some v1
def Qci (N:Nat) (a0:List Wv):Option Int:=bnd (Qa3 N a0 N 0 0) λ y4=>some y4
def Qdn (N:Nat) (a0:Wn) (a1:Int):Option (Wn×Int×Bool):=grd (a0.Pages.length*32<=140737488355328) <| bnd (QdR N a0.Conf) λ y1=>bnd (Qci N a0.Pages) λ y2=>jn (λ (_:Unit)=>bnd (QbA N a0.Pages 1) λ y5=>bif (decide (y5<0)) then some (zHp,0,false) else bif (decide (y2>=y1)) then some (zHp,0,false) else bnd (QbB N a0.Pages y5 a0.Space) λ y6=>bnd (Xb y6.1 y5) λ p11=>bnd (Xb y6.1 y5) λ p12=>bnd (Xb y6.1 y5) λ p13=>some ((Wn.mk a0.Conf a0.Words (y6.1.set y5.toNat (Wv.mk p13.Kind p13.Space (wI (p12.Used+a1)) p13.Pins)) a0.Space y5),(wU (wI ((wI (4096+(wI (y5*a0.Conf.PageWords))))+p11.Used))),true)) λ j1=>bif (decide (a0.Bump<0)) then j1 () else bnd (Xb a0.Pages a0.Bump) λ p3=>bif (p3.Space != a0.Space) then j1 () else bnd (Xb a0.Pages a0.Bump) λ p4=>bif (decide ((wI (p4.Used+a1))>a0.Conf.PageWords)) then j1 () else bif (decide (y2>y1)) then j1 () else bnd (Xb a0.Pages a0.Bump) λ p14=>bnd (Xb a0.Pages a0.Bump) λ p15=>bnd (Xb a0.Pages a0.Bump) λ p16=>some ((Wn.mk a0.Conf a0.Words (a0.Pages.set a0.Bump.toNat (Wv.mk p16.Kind p16.Space (wI (p15.Used+a1)) p16.Pins)) a0.Space a0.Bump),(wU (wI ((wI (4096+(wI (a0.Bump*a0.Conf.PageWords))))+p14.Used))),true)
def Qdo (N:Nat) (a0:WT) (a1:List Wv) (a2:Int) (a3:Int) (a4:Int):Option (List Wv×Int):=bnd (Qeh N a0 a4) λ y1=>bif (decide (y1<1)) then some ([],1) else bif (decide (a3<0)) then some ([],1) else bif (decide (a3>1)) then some ([],1) else bnd (Qcr N a1 a2 y1 (Wv.mk 2 a3 a4 0) (Wv.mk 3 a3 0 0)) λ y2=>some (y2.1,y2.2)
def QdS (N:Nat) (a0:Wn) (a1:Int) (a2:Int):Option (Wn×Int×Bool):=bnd (QbA N a0.Pages a2) λ y1=>bif (decide (y1<0)) then some (zHp,0,false) else bnd (Qci N a0.Pages) λ y2=>bnd (QdR N a0.Conf) λ y3=>bif (decide ((wI (y2+a2))>y3)) then some (zHp,0,false) else bnd (Qdo N a0.Conf a0.Pages y1 a0.Space a1) λ y4=>some ((Wn.mk a0.Conf a0.Words y4.1 a0.Space a0.Bump),(wU (wI (4096+(wI (y1*a0.Conf.PageWords))))),true)
def QbI (N:Nat) (a0:Wn) (a1:Int) (a2:Wy):Option (Wn×Int):=bnd (Qcg N a2) λ y1=>bnd (Qab N a0) λ y2=>bif (!y2) then some (zHp,1) else bif (y1.2 != 0) then some (zHp,1) else grd (0<=a2.Length/\a2.Length.toNat*8<=140737488355328) <| grd ((1+a2.Length.toNat)*8<=140737488355328) <| bnd (QbY N a0.Words a1 ([y1.1]++(List.replicate a2.Length.toNat (0:Int)))) λ y3=>bif (y3.2 != 0) then some (zHp,y3.2) else some ((Wn.mk a0.Conf y3.1 a0.Pages a0.Space a0.Bump),0)
def QbM (N:Nat) (a0:Wn) (a1:Wy):Option (Wn×Int×Int):=bnd (Qab N a0) λ y1=>bif (!y1) then some (zHp,0,1) else bnd (Qb8 N a0.Conf a1) λ y2=>bif (!y2) then some (zHp,0,1) else bnd (Qco N a1) λ y3=>bnd (Qeh N a0.Conf y3) λ y4=>bnd (Qdn N a0 y3) λ y5=>jn (λ (x7:Int) (x8:Bool) (x9:Int) (x10:Int) (x11:List Int) (x12:List Wv) (x13:Int) (x14:Int)=>bif (!x8) then some (zHp,0,3) else bnd (QbI N (Wn.mk (WT.mk x9 x10) x11 x12 x13 x14) x7 a1) λ y15=>some (y15.1,x7,0)) λ j1=>bif (decide (y4>0)) then (bnd (QdS N a0 y3 y4) λ y6=>j1 y6.2.1 y6.2.2 y6.1.Conf.PageWords y6.1.Conf.Pages y6.1.Words y6.1.Pages y6.1.Space y6.1.Bump) else j1 y5.2.1 y5.2.2 y5.1.Conf.PageWords y5.1.Conf.Pages y5.1.Words y5.1.Pages y5.1.Space y5.1.Bump
def Qb2 (N:Nat) (a0:W6) (a1:Wy):Option (W6×Int×Int):=bnd (QcH N a0) λ y1=>bif (!y1) then some ((W6.mk zHp (Ww.mk [] [] []) (WI.mk []) (WI.mk []) [] []),0,19) else bnd (QbM N a0.Heap a1) λ y2=>jn (λ (x5:Int) (x6:Int) (x7:Int) (x8:Int) (x9:List Int) (x10:List Wv) (x11:Int) (x12:Int) (x13:List UX) (x14:List U1) (x15:List Int) (x16:List Ub) (x17:List Ub) (x18:List UN) (x19:List Int) (x20:Int) (x21:Int) (x22:List Int) (x23:List Wv) (x24:Int) (x25:Int)=>bif (x6 != 0) then some ((W6.mk zHp (Ww.mk [] [] []) (WI.mk []) (WI.mk []) [] []),0,x6) else some ((W6.mk (Wn.mk (WT.mk x20 x21) x22 x23 x24 x25) (Ww.mk x13 x14 x15) (WI.mk x16) (WI.mk x17) x18 x19),x5,0)) λ j1=>bif (y2.2.2==3) then (bnd (Qa2 N a0) λ y3=>bif (y3.2.2 != 0) then some ((W6.mk zHp (Ww.mk [] [] []) (WI.mk []) (WI.mk []) [] []),0,y3.2.2) else bnd (QbM N y3.1.Heap a1) λ y4=>j1 y4.2.1 y4.2.2 y3.1.Heap.Conf.PageWords y3.1.Heap.Conf.Pages y3.1.Heap.Words y3.1.Heap.Pages y3.1.Heap.Space y3.1.Heap.Bump y3.1.Locals.Slots y3.1.Locals.Scopes y3.1.Locals.Issued y3.1.Globals.Entries y3.1.Weaks.Entries y3.1.Pins y3.1.Roots y4.1.Conf.PageWords y4.1.Conf.Pages y4.1.Words y4.1.Pages y4.1.Space y4.1.Bump) else j1 y2.2.1 y2.2.2 a0.Heap.Conf.PageWords a0.Heap.Conf.Pages a0.Heap.Words a0.Heap.Pages a0.Heap.Space a0.Heap.Bump a0.Locals.Slots a0.Locals.Scopes a0.Locals.Issued a0.Globals.Entries a0.Weaks.Entries a0.Pins a0.Roots y2.1.Conf.PageWords y2.1.Conf.Pages y2.1.Words y2.1.Pages y2.1.Space y2.1.Bump
def QfT (N:Nat) (a0:U8):Option Bool:=bif (decide (a0.Tag>=1)) then (bif (decide (a0.Tag<=3)) then (bif (decide (a0.Index>=0)) then (bif (decide (a0.Index<=65535)) then (bif (decide (a0.Stamp>=1)) then some (decide (a0.Stamp<=4294967295)) else some false) else some false) else some false) else some false) else some false
def Qbv (N:Nat) (a0:U8):Option (Int×Int):=bnd (QfT N a0) λ y1=>bif (!y1) then some (0,1) else some ((wU ((wU ((wU a0.Tag)+(ZM .u64 (wU a0.Index) 2)))+(ZM .u64 (wU a0.Stamp) 18))),0)
def Qb3 (N:Nat) (a0:W6) (a1:Int):Option (W6×Int×Int):=bif (a1==0) then some (a0,0,0) else bnd (QdQ N a0.Locals a1) λ y1=>bif (y1.2.2.2 != 0) then (bnd (Qac N y1.2.2.2) λ y2=>some (y2.1,y2.2.1,y2.2.2)) else bnd (Qbv N (U8.mk 1 y1.2.1 y1.2.2.1)) λ y3=>some ((W6.mk a0.Heap y1.1 a0.Globals a0.Weaks a0.Pins a0.Roots),y3.1,0)
def QcP (N:Nat) (a0:W6) (a1:Int) (a2:Int) (a3:Int):Option (W6×Int×Int):=bif (decide (((a0.Pins.length:Nat):Int)>0)) then (bnd (Qac N 15) λ y1=>some (y1.1,y1.2.1,y1.2.2)) else bnd (Qb1 N a1 a2 a3) λ y2=>jn (λ (_:Unit)=>bnd (Qac N 1) λ y4=>some (y4.1,y4.2.1,y4.2.2)) λ j1=>bif (!y2.2) then j1 () else bnd (Qb8 N a0.Heap.Conf y2.1) λ y3=>bif (!y3) then j1 () else bnd (QdQ N a0.Locals 1) λ y5=>bif (y5.2.2.2 != 0) then (bnd (Qac N y5.2.2.2) λ y6=>some (y6.1,y6.2.1,y6.2.2)) else bnd (Qb2 N a0 y2.1) λ y7=>bif (y7.2.2 != 0) then (bnd (Qac N y7.2.2) λ y8=>some (y8.1,y8.2.1,y8.2.2)) else bnd (Qb3 N y7.1 y7.2.1) λ y9=>some (y9.1,y9.2.1,y9.2.2)
def QbN (N:Nat) (a0:Int):Option (U8×Int):=bif (a0==0) then some ((U8.mk 0 0 0),5) else bnd (Qbv N (U8.mk (wI (Yv .u64 a0 3)) (wI (Yv .u64 (X5 .u64 a0 2) 65535)) (wI (X5 .u64 a0 18)))) λ y1=>bif (y1.2 != 0) then some ((U8.mk 0 0 0),6) else bif (y1.1 != a0) then some ((U8.mk 0 0 0),6) else some ((U8.mk (wI (Yv .u64 a0 3)) (wI (Yv .u64 (X5 .u64 a0 2) 65535)) (wI (X5 .u64 a0 18))),0)
def QdT (N:Nat) (a0:Ww) (a1:Int) (a2:Int):Option (Int×Int):=bnd (QbW N a0) λ y1=>bif (!y1) then some (0,1) else bif (decide (a2<1)) then some (0,6) else bif (decide (a2>((a0.Issued.length:Nat):Int))) then some (0,6) else bnd (Xb a0.Issued (wI (a2-1))) λ p2=>bif (p2 != a1) then some (0,6) else bif (decide (a1>=((a0.Slots.length:Nat):Int))) then some (0,7) else bnd (Xb a0.Slots a1) λ p3=>bif (p3.Stamp != a2) then some (0,7) else bnd (Xb a0.Slots a1) λ p4=>bif (!p4.Live) then some (0,8) else bnd (Xb a0.Slots a1) λ p5=>some (p5.Ref,0)
def Qds (N:Nat) (a0:WI) (a1:Int) (a2:Int):Option (Int×Int):=bnd (QbX N a0) λ y1=>bif (!y1) then some (0,1) else bif (decide (a1<0)) then some (0,6) else bif (decide (a1>=((a0.Entries.length:Nat):Int))) then some (0,6) else bif (decide (a2<1)) then some (0,6) else bnd (Xb a0.Entries a1) λ p2=>bif (decide (a2>p2.Gen)) then some (0,6) else bnd (Xb a0.Entries a1) λ p3=>bif (decide (a2<p3.Gen)) then some (0,8) else bnd (Xb a0.Entries a1) λ p4=>bif (!p4.Live) then some (0,8) else bnd (Xb a0.Entries a1) λ p5=>some (p5.Ref,0)
def QaD (N:Nat) (a0:W6) (a1:Int):Option (Int×Int):=bnd (QcH N a0) λ y1=>bif (!y1) then some (0,19) else bif (a1==0) then some (0,0) else bnd (QbN N a1) λ y2=>bif (y2.2 != 0) then some (0,y2.2) else bif (y2.1.Tag==1) then (bnd (QdT N a0.Locals y2.1.Index y2.1.Stamp) λ y3=>some (y3.1,y3.2)) else bif (y2.1.Tag==2) then (bnd (Qds N a0.Globals y2.1.Index y2.1.Stamp) λ y4=>some (y4.1,y4.2)) else bnd (Qds N a0.Weaks y2.1.Index y2.1.Stamp) λ y5=>some (y5.1,y5.2)
def QcI (N:Nat) (a0:W6) (a1:Int):Option (Int×Int):=bnd (QaD N a0 a1) λ y1=>bif (y1.2==0) then (bif (y1.1==0) then some (0,5) else some (y1.1,y1.2)) else some (y1.1,y1.2)
def QcJ (N:Nat) (a0:W6) (a1:Int) (a2:Int) (a3:Bool):Option (Int×Int×Int):=bnd (QcI N a0 a1) λ y1=>bif (y1.2 != 0) then some (0,0,y1.2) else bnd (Qbq N a0.Heap y1.1) λ y2=>bif (decide (a2>=(wU y2.1.Length))) then some (0,0,2) else bnd (QbU N y2.1 (wI a2)) λ y3=>bif (!(y3==a3)) then some (0,0,4) else some (y1.1,(wI a2),0)
def Qbp (N:Nat) (a0:Wn) (a1:Int) (a2:Int):Option (Int×Int):=bnd (Qbq N a0 a1) λ y1=>bif (y1.2 != 0) then some (0,y1.2) else bif (decide (a2<0)) then some (0,2) else bif (decide (a2>=y1.1.Length)) then some (0,2) else bnd (Qa5 N a0.Words (wU ((wU (a1+1))+(wU a2)))) λ y2=>some (y2.1,y2.2)
def Qbm (N:Nat) (a0:Wn) (a1:Int) (a2:Int) (a3:Int):Option (Wn×Int):=bnd (Qbp N a0 a1 a2) λ y1=>bif (y1.2 != 0) then some (zHp,y1.2) else bnd (Qdm N a0.Words (wU ((wU (a1+1))+(wU a2))) a3) λ y2=>some ((Wn.mk a0.Conf y2.1 a0.Pages a0.Space a0.Bump),0)
def Qdp (N:Nat) (a0:W6) (a1:Int) (a2:Int) (a3:Int) (a4:Int):Option (W6×Int×Int):=jn (λ (x3:Int) (x4:Int) (x5:Int)=>bif (x5 != 0) then (bnd (Qac N x5) λ y6=>some (y6.1,y6.2.1,y6.2.2)) else bnd (Qbp N a0.Heap x3 x4) λ y7=>bif (a1==6) then some (a0,y7.1,0) else bif (a1==8) then (bnd (Qb3 N a0 y7.1) λ y8=>some (y8.1,y8.2.1,y8.2.2)) else jn (λ (x11:Int)=>bnd (Qbm N a0.Heap x3 x4 x11) λ y12=>some ((W6.mk y12.1 a0.Locals a0.Globals a0.Weaks a0.Pins a0.Roots),0,0)) λ j2=>bif (a1==9) then (bnd (QaD N a0 a4) λ y9=>bif (y9.2 != 0) then (bnd (Qac N y9.2) λ y10=>some (y10.1,y10.2.1,y10.2.2)) else j2 y9.1) else j2 a4) λ j1=>bif (a1==8) then (bnd (QcJ N a0 a2 a3 true) λ y1=>j1 y1.1 y1.2.1 y1.2.2) else bnd (QcJ N a0 a2 a3 (a1==9)) λ y2=>j1 y2.1 y2.2.1 y2.2.2
def Qdq (N:Nat) (a0:W6) (a1:Int) (a2:Int) (a3:Int):Option (W6×Int×Int):=jn (λ (x1:Bool)=>bif x1 then (bnd (QcI N a0 a2) λ y2=>bif (y2.2 != 0) then (bnd (Qac N y2.2) λ y3=>some (y3.1,y3.2.1,y3.2.2)) else bnd (Qbq N a0.Heap y2.1) λ y4=>bif (a1==4) then some (a0,(wU y4.1.Length),0) else some (a0,(wU y4.1.Kind),0)) else bif (a1==10) then (bnd (QaD N a0 a2) λ y5=>bif (y5.2 != 0) then (bnd (Qac N y5.2) λ y6=>some (y6.1,y6.2.1,y6.2.2)) else bnd (QaD N a0 a3) λ y7=>bif (y7.2 != 0) then (bnd (Qac N y7.2) λ y8=>some (y8.1,y8.2.1,y8.2.2)) else bif (y5.1==y7.1) then some (a0,1,0) else some (a0,0,0)) else bnd (QaD N a0 a2) λ y9=>bif (y9.2 != 0) then (bnd (Qac N y9.2) λ y10=>some (y10.1,y10.2.1,y10.2.2)) else bnd (Qb3 N a0 y9.1) λ y11=>some (y11.1,y11.2.1,y11.2.2)) λ j1=>bif (a1==4) then j1 true else j1 (a1==5)
def Qbw (N:Nat) (a0:WI) (a1:Int):Nat->Int->Option (Ex (WI×Int×Int×Int) Unit)
 | 0,_=>none
 | n+1,v2 =>
  grd (a0.Entries.length<=140737488355328) <|
  bif (decide (v2<((a0.Entries.length:Nat):Int))) then (bnd (Xb a0.Entries v2) λ p3 =>
   bif (!p3.Live) then (bnd (Xb a0.Entries v2) λ p4 =>
    bif (decide (p4.Gen<4294967295)) then (bnd (Xb a0.Entries v2) λ p5 =>
     bnd (Xb a0.Entries v2) λ p6 =>
     bnd (Xb (a0.Entries.set v2.toNat (Ub.mk (wI (p5.Gen+1)) a1 true)) v2) λ p7 =>
     some (.ret ((WI.mk (a0.Entries.set v2.toNat (Ub.mk (wI (p5.Gen+1)) a1 true))),v2,p7.Gen,0)))
    else Qbw N a0 a1 n (wI (v2+1)))
   else Qbw N a0 a1 n (wI (v2+1)))
  else some (.nxt ())
def Qce (N:Nat) (a0:WI) (a1:Int):Option (WI×Int×Int×Int):=bnd (QbX N a0) λ y1=>bif (!y1) then some ((WI.mk []),0,0,1) else grd (a0.Entries.length*24<=140737488355328) <| bnd (Qbw N a0 a1 N 0) λ e=>exK e (λ r=>some r) λ y8=>grd (a0.Entries.length<=140737488355328) <| bif (((a0.Entries.length:Nat):Int)==64) then some ((WI.mk []),0,0,18) else grd ((a0.Entries.length+1)*24<=140737488355328) <| grd (a0.Entries.length<=140737488355328) <| some ((WI.mk (a0.Entries++[(Ub.mk 1 a1 true)])),((a0.Entries.length:Nat):Int),1,0)
def Qcu (N:Nat) (a0:W6) (a1:Int) (a2:Int):Option (W6×Int×Int):=bnd (QcI N a0 a2) λ y1=>bif (y1.2 != 0) then (bnd (Qac N y1.2) λ y2=>some (y2.1,y2.2.1,y2.2.2)) else jn (λ (x3:Int) (x4:List Ub)=>bnd (Qce N (WI.mk x4) y1.1) λ y5=>bif (y5.2.2.2 != 0) then (bnd (Qac N y5.2.2.2) λ y6=>some (y6.1,y6.2.1,y6.2.2)) else jn (λ (x7:List Ub) (x8:List Ub)=>bnd (Qbv N (U8.mk x3 y5.2.1 y5.2.2.1)) λ y9=>some ((W6.mk a0.Heap a0.Locals (WI.mk x7) (WI.mk x8) a0.Pins a0.Roots),y9.1,0)) λ j2=>bif (a1==15) then j2 a0.Globals.Entries y5.1.Entries else j2 y5.1.Entries a0.Weaks.Entries) λ j1=>bif (a1==15) then j1 3 a0.Weaks.Entries else j1 2 a0.Globals.Entries
def Qdt (N:Nat) (a0:Ww) (a1:Int) (a2:Int):Option (Ww×Int):=bnd (QdT N a0 a1 a2) λ y1=>bif (y1.2 != 0) then some ((Ww.mk [] [] []),y1.2) else grd (a0.Slots.length*24<=140737488355328) <| bnd (Xb a0.Slots a1) λ p2=>some ((Ww.mk (a0.Slots.set a1.toNat (UX.mk a2 0 false)) a0.Scopes a0.Issued),0)
def Qf2 (N:Nat) (a0:WI) (a1:Int) (a2:Ub):Option WI:=grd (a0.Entries.length*24<=140737488355328) <| bnd (Xb a0.Entries a1) λ p1=>some (WI.mk (a0.Entries.set a1.toNat a2))
def Qcj (N:Nat) (a0:WI) (a1:Int) (a2:Int):Option (WI×Int):=bnd (Qds N a0 a1 a2) λ y1=>bif (y1.2 != 0) then some ((WI.mk []),y1.2) else bnd (Qf2 N a0 a1 (Ub.mk a2 0 false)) λ y2=>some (y2,0)
def QcQ (N:Nat) (a0:W6) (a1:Int) (a2:Int):Option (W6×Int×Int):=bif (a2==0) then (bnd (Qac N 5) λ y1=>some (y1.1,y1.2.1,y1.2.2)) else bnd (QaD N a0 a2) λ y2=>bif (y2.2 != 0) then (bnd (Qac N y2.2) λ y3=>some (y3.1,y3.2.1,y3.2.2)) else bnd (QbN N a2) λ y4=>jn (λ (_:Unit)=>bif (a1==12) then (bnd (Qdt N a0.Locals y4.1.Index y4.1.Stamp) λ y6=>some ((W6.mk a0.Heap y6.1 a0.Globals a0.Weaks a0.Pins a0.Roots),0,0)) else bif (a1==14) then (bnd (Qcj N a0.Globals y4.1.Index y4.1.Stamp) λ y7=>some ((W6.mk a0.Heap a0.Locals y7.1 a0.Weaks a0.Pins a0.Roots),0,0)) else bnd (Qcj N a0.Weaks y4.1.Index y4.1.Stamp) λ y8=>some ((W6.mk a0.Heap a0.Locals a0.Globals y8.1 a0.Pins a0.Roots),0,0)) λ j2=>jn (λ (_:Unit)=>bnd (Qac N 4) λ y5=>some (y5.1,y5.2.1,y5.2.2)) λ j1=>bif (a1==12) then (bif (y4.1.Tag != 1) then j1 () else bif (a1==14) then (bif (y4.1.Tag != 2) then j1 () else bif (a1==16) then (bif (y4.1.Tag != 3) then j1 () else j2 ()) else j2 ()) else bif (a1==16) then (bif (y4.1.Tag != 3) then j1 () else j2 ()) else j2 ()) else bif (a1==14) then (bif (y4.1.Tag != 2) then j1 () else bif (a1==16) then (bif (y4.1.Tag != 3) then j1 () else j2 ()) else j2 ()) else bif (a1==16) then (bif (y4.1.Tag != 3) then j1 () else j2 ()) else j2 ()
def QfC (N:Nat) (a0:Ww) (a1:Int) (a2:Bool):Option (Ww×Int):=bnd (QbW N a0) λ y1=>bif (!y1) then some ((Ww.mk [] [] []),1) else bif (decide (a1<0)) then some ((Ww.mk [] [] []),1) else bif (decide (a1>64)) then some ((Ww.mk [] [] []),1) else jn (λ (_:Unit)=>bif (((a0.Scopes.length:Nat):Int)==64) then some ((Ww.mk [] [] []),17) else grd (a0.Scopes.length*24<=140737488355328) <| grd ((a0.Scopes.length+1)*24<=140737488355328) <| some ((Ww.mk a0.Slots (a0.Scopes++[(U1.mk ((a0.Slots.length:Nat):Int) a1 a2)]) a0.Issued),0)) λ j1=>bif (!a2) then (bif (((a0.Scopes.length:Nat):Int)==0) then some ((Ww.mk [] [] []),9) else j1 ()) else j1 ()
def QdJ (N:Nat) (a0:Ww) (a1:Int):Option (Ww×Int):=bnd (QfC N a0 a1 false) λ y1=>some (y1.1,y1.2)
def Qf3 (N:Nat) (a0:Ww) (a1:Int):Option Ww:=bnd (Xb a0.Scopes a1) λ p1=>grd (0<=0/\0<=p1.From/\p1.From<=((a0.Slots.length:Nat):Int)) <| grd ((min p1.From.toNat a0.Slots.length)*24<=140737488355328) <| grd (0<=0/\0<=a1/\a1<=((a0.Scopes.length:Nat):Int)) <| grd ((min a1.toNat a0.Scopes.length)*24<=140737488355328) <| some (Ww.mk (a0.Slots.take p1.From.toNat) (a0.Scopes.take a1.toNat) a0.Issued)
def Qem (N:Nat) (a0:Ww):Option (Ww×Int):=bnd (QbW N a0) λ y1=>bif (!y1) then some ((Ww.mk [] [] []),1) else bif (((a0.Scopes.length:Nat):Int)==0) then some ((Ww.mk [] [] []),9) else bnd (Xb a0.Scopes (wI (((a0.Scopes.length:Nat):Int)-1))) λ p2=>bif p2.Base then some ((Ww.mk [] [] []),9) else bnd (Qf3 N a0 (wI (((a0.Scopes.length:Nat):Int)-1))) λ y3=>some (y3,0)
def QcR (N:Nat) (a0:W6) (a1:Int) (a2:Int):Option (W6×Int×Int):=bif (a1==17) then (bif (decide (a2>64)) then (bnd (Qac N 1) λ y1=>some (y1.1,y1.2.1,y1.2.2)) else bnd (QdJ N a0.Locals (wI a2)) λ y2=>bif (y2.2 != 0) then (bnd (Qac N y2.2) λ y3=>some (y3.1,y3.2.1,y3.2.2)) else some ((W6.mk a0.Heap y2.1 a0.Globals a0.Weaks a0.Pins a0.Roots),0,0)) else bnd (QaD N a0 a2) λ y4=>bif (y4.2 != 0) then (bnd (Qac N y4.2) λ y5=>some (y5.1,y5.2.1,y5.2.2)) else bnd (Qem N a0.Locals) λ y6=>bif (y6.2 != 0) then (bnd (Qac N y6.2) λ y7=>some (y7.1,y7.2.1,y7.2.2)) else bnd (Qb3 N (W6.mk a0.Heap y6.1 a0.Globals a0.Weaks a0.Pins a0.Roots) y4.1) λ y8=>some (y8.1,y8.2.1,y8.2.2)
def Qb4 (N:Nat) (a0:Wn) (a1:Int) (a2:Int):Option Wn:=grd (a0.Pages.length*32<=140737488355328) <| bnd (QeN N a0 a1) λ y1=>bnd (Xb a0.Pages y1) λ p2=>bnd (Xb a0.Pages y1) λ p3=>some (Wn.mk a0.Conf a0.Words (a0.Pages.set y1.toNat (Wv.mk p3.Kind p3.Space p3.Used (wI (p2.Pins+a2)))) a0.Space a0.Bump)
def Qbi (N:Nat) (a0:Wn) (a1:List UN) (a2:Int):Option (Wn×List UN×Int):=bnd (QbV N a0 a1) λ y1=>bif (!y1) then some (zHp,[],19) else bif (a2==0) then some (zHp,[],5) else bnd (QeM N a1 a2) λ y2=>bif (decide (y2<0)) then some (zHp,[],12) else grd (a1.length*16<=140737488355328) <| bnd (Xb a1 y2) λ p3=>bnd (Xb a1 y2) λ p4=>bnd (Xb (a1.set y2.toNat (UN.mk p4.Ref (wI (p3.Count-1)))) y2) λ p5=>bif (p5.Count==0) then (grd (0<=0/\0<=y2/\y2<=((a1.length:Nat):Int)) <| grd (0<=(wI (y2+1))/\(wI (y2+1))<=((a1.length:Nat):Int)/\((a1.length:Nat):Int)<=((a1.length:Nat):Int)) <| grd (y2.toNat≠a1.length/\(y2.toNat+(a1.length-(wI (y2+1)).toNat))<=a1.length) <| bnd (Qb4 N a0 a2 (-1)) λ y7=>some (y7,(((((a1.set y2.toNat (UN.mk p4.Ref (wI (p3.Count-1)))).take y2.toNat)++(((a1.set y2.toNat (UN.mk p4.Ref (wI (p3.Count-1)))).drop (wI (y2+1)).toNat).take (a1.length-(wI (y2+1)).toNat)))++((a1.set y2.toNat (UN.mk p4.Ref (wI (p3.Count-1)))).drop (y2.toNat+(a1.length-(wI (y2+1)).toNat)))).take (y2.toNat+(a1.length-(wI (y2+1)).toNat))),0)) else bnd (Qb4 N a0 a2 (-1)) λ y8=>some (y8,(a1.set y2.toNat (UN.mk p4.Ref (wI (p3.Count-1)))),0)
def Qd0 (N:Nat) (a0:Wn) (a1:Int):Option Bool:=bnd (Qav N a0) λ y1=>bnd (QcA N y1.1 a1) λ y2=>some y2
def QbO (N:Nat) (a0:Wn) (a1:Int):Nat->Int->Int->Option Int
 | 0,_,_=>none
 | n+1,v3,v4 =>
  bif (decide (v4<((a0.Pages.length:Nat):Int))) then (bnd (Xb a0.Pages v4) λ p5 =>
   bif (p5.Kind==1) then (bnd (Xb a0.Pages v4) λ p6 =>
    bif (decide (p6.Pins>0)) then QbO N a0 a1 n (wI (v3+1)) (wI (v4+1))
    else QbO N a0 a1 n v3 (wI (v4+1)))
   else QbO N a0 a1 n v3 (wI (v4+1)))
  else some v3
def Qc3 (N:Nat) (a0:Wn) (a1:Int):Option Bool:=bnd (QbH N a0) λ y1=>bif (!y1) then some false else bnd (Qd0 N a0 a1) λ y2=>bif (!y2) then some false else bnd (QbO N a0 a1 N 0 0) λ y7=>bnd (QeN N a0 a1) λ y8=>bnd (Xb a0.Pages y8) λ p9=>bif (p9.Kind==1) then (bif (p9.Pins==0) then some (decide (y7>=(wI (a0.Conf.Pages.tdiv 4)))) else some false) else some false
def Qc4 (N:Nat) (a0:Wn) (a1:List UN) (a2:Int):Option (Wn×List UN×Int×Int):=bnd (QbV N a0 a1) λ y1=>bif (!y1) then some (zHp,[],0,19) else bif (a2==0) then some (zHp,[],0,5) else bnd (Qd0 N a0 a2) λ y2=>bif (!y2) then some (zHp,[],0,1) else bnd (QeM N a1 a2) λ y3=>jn (λ (_:Unit)=>grd (a1.length*16<=140737488355328) <| jn (λ (x11:List UN)=>bnd (Qb4 N a0 a2 1) λ y12=>some (y12,x11,(wU (a2+1)),0)) λ j2=>bif (decide (y3>=0)) then (bnd (Xb a1 y3) λ p9=>bnd (Xb a1 y3) λ p10=>j2 (a1.set y3.toNat (UN.mk p10.Ref (wI (p9.Count+1))))) else grd ((a1.length+1)*16<=140737488355328) <| j2 (a1++[(UN.mk a2 1)])) λ j1=>bif (decide (y3>=0)) then (bnd (Xb a1 y3) λ p4=>bif (p4.Count==1000) then some (zHp,[],0,18) else bif (decide (y3<0)) then (bif (((a1.length:Nat):Int)==64) then some (zHp,[],0,18) else bnd (Qc3 N a0 a2) λ y5=>bif y5 then some (zHp,[],0,18) else j1 ()) else bnd (Qc3 N a0 a2) λ y6=>bif y6 then some (zHp,[],0,18) else j1 ()) else bif (decide (y3<0)) then (bif (((a1.length:Nat):Int)==64) then some (zHp,[],0,18) else bnd (Qc3 N a0 a2) λ y7=>bif y7 then some (zHp,[],0,18) else j1 ()) else bnd (Qc3 N a0 a2) λ y8=>bif y8 then some (zHp,[],0,18) else j1 ()
def QdK (N:Nat) (a0:W6) (a1:Int) (a2:Int):Option (W6×Int×Int):=bnd (QcI N a0 a2) λ y1=>bif (y1.2 != 0) then (bnd (Qac N y1.2) λ y2=>some (y2.1,y2.2.1,y2.2.2)) else bif (a1==20) then (bnd (Qbi N a0.Heap a0.Pins y1.1) λ y3=>bif (y3.2.2 != 0) then (bnd (Qac N y3.2.2) λ y4=>some (y4.1,y4.2.1,y4.2.2)) else some ((W6.mk y3.1 a0.Locals a0.Globals a0.Weaks y3.2.1 a0.Roots),0,0)) else bnd (Qc4 N a0.Heap a0.Pins y1.1) λ y5=>bif (y5.2.2.2 != 0) then (bnd (Qac N y5.2.2.2) λ y6=>some (y6.1,y6.2.1,y6.2.2)) else some ((W6.mk y5.1 a0.Locals a0.Globals a0.Weaks y5.2.1 a0.Roots),y5.2.2.1,0)
def QdL (N:Nat) (a0:W6) (a1:Int) (a2:Int) (a3:Int) (a4:Int):Option (W6×Int×Int):=bnd (QcH N a0) λ y1=>bif (!y1) then (bnd (Qac N 19) λ y2=>some (y2.1,y2.2.1,y2.2.2)) else jn (λ (x4:Bool)=>bif x4 then (bnd (QcP N a0 a1 a2 a3) λ y5=>some (y5.1,y5.2.1,y5.2.2)) else jn (λ (x8:Bool)=>bif x8 then (bnd (Qdp N a0 a1 a2 a3 a4) λ y9=>some (y9.1,y9.2.1,y9.2.2)) else jn (λ (x12:Bool)=>bif x12 then (bnd (Qdq N a0 a1 a2 a3) λ y13=>some (y13.1,y13.2.1,y13.2.2)) else jn (λ (x14:Bool)=>bif x14 then (bnd (Qcu N a0 a1 a2) λ y15=>some (y15.1,y15.2.1,y15.2.2)) else jn (λ (x17:Bool)=>bif x17 then (bnd (QcQ N a0 a1 a2) λ y18=>some (y18.1,y18.2.1,y18.2.2)) else jn (λ (x19:Bool)=>bif x19 then (bnd (QcR N a0 a1 a2) λ y20=>some (y20.1,y20.2.1,y20.2.2)) else jn (λ (x21:Bool)=>bif x21 then (bnd (QdK N a0 a1 a2) λ y22=>some (y22.1,y22.2.1,y22.2.2)) else bnd (Qac N 1) λ y23=>some (y23.1,y23.2.1,y23.2.2)) λ j13=>bif (a1==19) then j13 true else j13 (a1==20)) λ j12=>bif (a1==17) then j12 true else j12 (a1==18)) λ j11=>bif (a1==12) then j11 true else jn (λ (x16:Bool)=>j11 x16) λ j10=>bif (a1==14) then j10 true else j10 (a1==16)) λ j9=>bif (a1==13) then j9 true else j9 (a1==15)) λ j8=>bif (a1==4) then j8 true else jn (λ (x11:Bool)=>j8 x11) λ j7=>bif (a1==5) then j7 true else jn (λ (x10:Bool)=>j7 x10) λ j6=>bif (a1==10) then j6 true else j6 (a1==11)) λ j5=>bif (a1==6) then j5 true else jn (λ (x7:Bool)=>j5 x7) λ j4=>bif (a1==7) then j4 true else jn (λ (x6:Bool)=>j4 x6) λ j3=>bif (a1==8) then j3 true else j3 (a1==9)) λ j2=>bif (a1==1) then j2 true else jn (λ (x3:Bool)=>j2 x3) λ j1=>bif (a1==2) then j1 true else j1 (a1==3)
def Qdy (N:Nat) (a0:W6) (a1:W6) (a2:Int) (a3:Int) (a4:Int):Option Ol:=jn (λ (x1:Bool)=>jn (λ (x2:Bool)=>bif (a2==19) then (bif (a4==0) then some (Ol.mk x1 x2 a3) else some (Ol.mk x1 x2 0)) else some (Ol.mk x1 x2 0)) λ j2=>bif (a4==0) then j2 (a0.Heap.Space != a1.Heap.Space) else j2 false) λ j1=>bif (a4==3) then j1 true else bif (a4==18) then j1 (a2==19) else j1 false
def QcK (N:Nat) (a0:Ww) (a1:Int):Option Int:=bif (a1==0) then some 0 else bnd (QdQ N a0 a1) λ y1=>some y1.2.2.2
def QeZ (N:Nat) (a0:WM) (a1:Int) (a2:Int) (a3:Int) (a4:Bool):Option Int:=bif (decide (((a0.Marks.length:Nat):Int)>0)) then some 15 else bnd (Qb1 N a1 a2 a3) λ y1=>bif (!y1.2) then some 1 else bnd (Qb8 N a0.Conf y1.1) λ y2=>bif (!y2) then some 1 else bnd (QcK N a0.Locals 1) λ y3=>bif (y3 != 0) then some y3 else bif a4 then some 3 else some 0
def QaE (N:Nat) (a0:WM) (a1:Int):Option (Int×Int):=bnd (QdP N a0) λ y1=>bif (!y1) then some (0,19) else bif (a1==0) then some (0,0) else bnd (QbN N a1) λ y2=>bif (y2.2 != 0) then some (0,y2.2) else bif (y2.1.Tag==1) then (bnd (QdT N a0.Locals y2.1.Index y2.1.Stamp) λ y3=>some (y3.1,y3.2)) else bif (y2.1.Tag==2) then (bnd (Qds N a0.Globals y2.1.Index y2.1.Stamp) λ y4=>some (y4.1,y4.2)) else bnd (Qds N a0.Weaks y2.1.Index y2.1.Stamp) λ y5=>some (y5.1,y5.2)
def QdU (N:Nat) (a0:WM) (a1:Int):Option (Int×Int):=bnd (QaE N a0 a1) λ y1=>bif (y1.2==0) then (bif (y1.1==0) then some (0,5) else some (y1.1,y1.2)) else some (y1.1,y1.2)
def Qfp (N:Nat) (a0:WM) (a1:Int) (a2:Int) (a3:Int) (a4:Int):Option Int:=bnd (QdU N a0 a2) λ y1=>bif (y1.2 != 0) then some y1.2 else bnd (Xb a0.Things (wU (y1.1-1))) λ p2=>bif (decide (a3>=(wU p2.Header.Length))) then some 2 else jn (λ (x3:Bool)=>bnd (QbU N p2.Header (wI a3)) λ y4=>bif (!(y4==x3)) then some 4 else bif (a1==8) then (bnd (Xb p2.Fields a3) λ p5=>bnd (QcK N a0.Locals p5) λ y6=>some y6) else bif (a1==9) then (bnd (QaE N a0 a4) λ y7=>some y7.2) else some y1.2) λ j1=>bif (a1==8) then j1 true else j1 (a1==9)
def Qe0 (N:Nat) (a0:WM) (a1:Int) (a2:Int):Option Int:=bif (a2==0) then some 5 else bnd (QaE N a0 a2) λ y1=>bif (y1.2 != 0) then some y1.2 else bnd (QbN N a2) λ y2=>jn (λ (x3:Int)=>bif (a1==16) then (bif (y2.1.Tag != 3) then some 4 else some 0) else bif (y2.1.Tag != x3) then some 4 else some 0) λ j1=>bif (a1==14) then j1 2 else j1 1
def QfU (N:Nat) (a0:WM) (a1:Int) (a2:Int):Option Int:=bnd (QdU N a0 a2) λ y1=>bif (y1.2 != 0) then some y1.2 else jn (λ (x2:List Ub)=>bnd (Qce N (WI.mk x2) y1.1) λ y3=>some y3.2.2.2) λ j1=>bif (a1==15) then j1 a0.Weaks.Entries else j1 a0.Globals.Entries
def Qfq (N:Nat) (a0:WM) (a1:Int) (a2:Int):Option Int:=bif (a1==17) then (bif (decide (a2>64)) then some 1 else bnd (QdJ N a0.Locals (wI a2)) λ y1=>some y1.2) else bnd (QaE N a0 a2) λ y2=>bif (y2.2 != 0) then some y2.2 else bnd (Qem N a0.Locals) λ y3=>bif (y3.2 != 0) then some y3.2 else bnd (QcK N y3.1 y2.1) λ y4=>some y4
def Qga (N:Nat) (a0:WM) (a1:Int) (a2:Int) (a3:Bool):Option Int:=bnd (QdU N a0 a2) λ y1=>bif (y1.2 != 0) then some y1.2 else bnd (QeR N a0 y1.1) λ y2=>bif (a1==20) then (bif (decide (y2<0)) then some 12 else some 0) else bif (decide (y2>=0)) then (bnd (Xb a0.Marks y2) λ p3=>bif (p3.Count==1000) then some 18 else bif (decide (y2<0)) then (bif (((a0.Marks.length:Nat):Int)==64) then some 18 else bif a3 then some 18 else some 0) else bif a3 then some 18 else some 0) else bif (decide (y2<0)) then (bif (((a0.Marks.length:Nat):Int)==64) then some 18 else bif a3 then some 18 else some 0) else bif a3 then some 18 else some 0
def QfV (N:Nat) (a0:WM) (a1:Int) (a2:Int) (a3:Int):Option Int:=jn (λ (_:Unit)=>bnd (QdU N a0 a2) λ y1=>some y1.2) λ j1=>bif (a1==4) then j1 () else bif (a1==5) then j1 () else bnd (QaE N a0 a2) λ y2=>bif (y2.2 != 0) then some y2.2 else bif (a1==10) then (bnd (QaE N a0 a3) λ y3=>some y3.2) else bnd (QcK N a0.Locals y2.1) λ y4=>some y4
def Qe1 (N:Nat) (a0:WM) (a1:Int) (a2:Int) (a3:Int) (a4:Int) (a5:Bool):Option Int:=bnd (QdP N a0) λ y1=>bif (!y1) then some 19 else jn (λ (x3:Bool)=>bif x3 then (bnd (QeZ N a0 a1 a2 a3 a5) λ y4=>some y4) else jn (λ (x7:Bool)=>bif x7 then (bnd (Qfp N a0 a1 a2 a3 a4) λ y8=>some y8) else jn (λ (x10:Bool)=>bif x10 then (bnd (Qe0 N a0 a1 a2) λ y11=>some y11) else jn (λ (x12:Bool)=>bif x12 then (bnd (QfU N a0 a1 a2) λ y13=>some y13) else jn (λ (x14:Bool)=>bif x14 then (bnd (Qfq N a0 a1 a2) λ y15=>some y15) else jn (λ (x16:Bool)=>bif x16 then (bnd (Qga N a0 a1 a2 a5) λ y17=>some y17) else jn (λ (x20:Bool)=>bif x20 then (bnd (QfV N a0 a1 a2 a3) λ y21=>some y21) else some 1) λ j13=>bif (a1==4) then j13 true else jn (λ (x19:Bool)=>j13 x19) λ j12=>bif (a1==5) then j12 true else jn (λ (x18:Bool)=>j12 x18) λ j11=>bif (a1==10) then j11 true else j11 (a1==11)) λ j10=>bif (a1==19) then j10 true else j10 (a1==20)) λ j9=>bif (a1==17) then j9 true else j9 (a1==18)) λ j8=>bif (a1==13) then j8 true else j8 (a1==15)) λ j7=>bif (a1==12) then j7 true else jn (λ (x9:Bool)=>j7 x9) λ j6=>bif (a1==14) then j6 true else j6 (a1==16)) λ j5=>bif (a1==6) then j5 true else jn (λ (x6:Bool)=>j5 x6) λ j4=>bif (a1==7) then j4 true else jn (λ (x5:Bool)=>j4 x5) λ j3=>bif (a1==8) then j3 true else j3 (a1==9)) λ j2=>bif (a1==1) then j2 true else jn (λ (x2:Bool)=>j2 x2) λ j1=>bif (a1==2) then j1 true else j1 (a1==3)
def Qck (N:Nat) (a0:WM) (a1:Int):Option (WM×Int):=bif (a1==0) then some (a0,0) else bnd (QdQ N a0.Locals a1) λ y1=>bnd (Qbv N (U8.mk 1 y1.2.1 y1.2.2.1)) λ y2=>some ((WM.mk a0.Conf a0.Things y1.1 a0.Globals a0.Weaks a0.Marks a0.Roots),y2.1)
def QeJ (N:Nat) (a0:WM) (a1:Int) (a2:Int) (a3:Int):Option WM:=grd (a0.Things.length*48<=140737488355328) <| bnd (Xb a0.Things (wU (a1-1))) λ p1=>grd (p1.Fields.length*8<=140737488355328) <| bnd (Xb p1.Fields a2) λ p2=>bnd (Xb a0.Things (wU (a1-1))) λ p3=>some (WM.mk a0.Conf (a0.Things.set (wU (a1-1)).toNat (Il.mk p1.Header (p1.Fields.set a2.toNat a3))) a0.Locals a0.Globals a0.Weaks a0.Marks a0.Roots)
def Qdz (N:Nat) (a0:WM) (a1:Int) (a2:Int):Option (WM×Int):=jn (λ (x3:List Ub) (x4:List Ub) (x5:Int) (x6:Int) (x7:Int)=>bnd (Qbv N (U8.mk x5 x6 x7)) λ y8=>some ((WM.mk a0.Conf a0.Things a0.Locals (WI.mk x3) (WI.mk x4) a0.Marks a0.Roots),y8.1)) λ j1=>bif (a1==15) then (bnd (Qce N a0.Weaks a2) λ y1=>j1 a0.Globals.Entries y1.1.Entries 3 y1.2.1 y1.2.2.1) else bnd (Qce N a0.Globals a2) λ y2=>j1 y2.1.Entries a0.Weaks.Entries 2 y2.2.1 y2.2.2.1
def Qd4 (N:Nat) (a0:WM) (a1:Int):Option WM:=bnd (QbN N a1) λ y1=>bif (y1.1.Tag==1) then (bnd (Qdt N a0.Locals y1.1.Index y1.1.Stamp) λ y2=>some (WM.mk a0.Conf a0.Things y2.1 a0.Globals a0.Weaks a0.Marks a0.Roots)) else bif (y1.1.Tag==2) then (bnd (Qcj N a0.Globals y1.1.Index y1.1.Stamp) λ y3=>some (WM.mk a0.Conf a0.Things a0.Locals y3.1 a0.Weaks a0.Marks a0.Roots)) else bnd (Qcj N a0.Weaks y1.1.Index y1.1.Stamp) λ y4=>some (WM.mk a0.Conf a0.Things a0.Locals a0.Globals y4.1 a0.Marks a0.Roots)
def Qgb (N:Nat) (a0:WM) (a1:Int):Option Int:=bnd (QeR N a0 a1) λ y1=>some y1
def QeS (N:Nat) (a0:WM) (a1:Int) (a2:Int) (a3:Int):Option (WM×Int):=bnd (Qgb N a0 a2) λ y1=>grd (a0.Marks.length*24<=140737488355328) <| bif (a1==20) then (bnd (Xb a0.Marks y1) λ p2=>bnd (Xb a0.Marks y1) λ p3=>bnd (Xb (a0.Marks.set y1.toNat (IA.mk p3.Id (wI (p2.Count-1)) p3.Base)) y1) λ p4=>bif (p4.Count==0) then (grd (0<=0/\0<=y1/\y1<=((a0.Marks.length:Nat):Int)) <| grd (0<=(wI (y1+1))/\(wI (y1+1))<=((a0.Marks.length:Nat):Int)/\((a0.Marks.length:Nat):Int)<=((a0.Marks.length:Nat):Int)) <| grd (y1.toNat≠a0.Marks.length/\(y1.toNat+(a0.Marks.length-(wI (y1+1)).toNat))<=a0.Marks.length) <| some ((WM.mk a0.Conf a0.Things a0.Locals a0.Globals a0.Weaks (((((a0.Marks.set y1.toNat (IA.mk p3.Id (wI (p2.Count-1)) p3.Base)).take y1.toNat)++(((a0.Marks.set y1.toNat (IA.mk p3.Id (wI (p2.Count-1)) p3.Base)).drop (wI (y1+1)).toNat).take (a0.Marks.length-(wI (y1+1)).toNat)))++((a0.Marks.set y1.toNat (IA.mk p3.Id (wI (p2.Count-1)) p3.Base)).drop (y1.toNat+(a0.Marks.length-(wI (y1+1)).toNat)))).take (y1.toNat+(a0.Marks.length-(wI (y1+1)).toNat))) a0.Roots),0)) else some ((WM.mk a0.Conf a0.Things a0.Locals a0.Globals a0.Weaks (a0.Marks.set y1.toNat (IA.mk p3.Id (wI (p2.Count-1)) p3.Base)) a0.Roots),0)) else bif (decide (y1>=0)) then (bnd (Xb a0.Marks y1) λ p7=>bnd (Xb a0.Marks y1) λ p8=>bnd (Xb (a0.Marks.set y1.toNat (IA.mk p8.Id (wI (p7.Count+1)) p8.Base)) y1) λ p9=>some ((WM.mk a0.Conf a0.Things a0.Locals a0.Globals a0.Weaks (a0.Marks.set y1.toNat (IA.mk p8.Id (wI (p7.Count+1)) p8.Base)) a0.Roots),p9.Base)) else grd ((a0.Marks.length+1)*24<=140737488355328) <| some ((WM.mk a0.Conf a0.Things a0.Locals a0.Globals a0.Weaks (a0.Marks++[(IA.mk a2 1 a3)]) a0.Roots),a3)
def QeT (N:Nat) (a0:WM) (a1:Int) (a2:Int) (a3:Int) (a4:Int) (a5:Ol):Option (WM×Int×Int):=bnd (Qe1 N a0 a1 a2 a3 a4 a5.Failed) λ y1=>bif (y1 != 0) then some (zWd,0,y1) else jn (λ (x3:Int)=>jn (λ (x5:Bool)=>bif x5 then (jn (λ (x7:Int) (x8:Int) (x9:List Il) (x10:List UX) (x11:List U1) (x12:List Int) (x13:List Ub) (x14:List Ub) (x15:List IA) (x16:List Int)=>bnd (Qb1 N a1 a2 a3) λ y17=>grd (x9.length*48<=140737488355328) <| grd (0<=y17.1.Length/\y17.1.Length.toNat*8<=140737488355328) <| grd ((x9.length+1)*48<=140737488355328) <| grd ((x9.length+1)<=140737488355328) <| bnd (Qck N (WM.mk (WT.mk x7 x8) (x9++[(Il.mk y17.1 (List.replicate y17.1.Length.toNat (0:Int)))]) (Ww.mk x10 x11 x12) (WI.mk x13) (WI.mk x14) x15 x16) (wU (((x9.length+1):Nat):Int))) λ y18=>some (y18.1,y18.2,0)) λ j4=>bif a5.Collected then (bnd (Qc2 N a0) λ y6=>j4 y6.1.Conf.PageWords y6.1.Conf.Pages y6.1.Things y6.1.Locals.Slots y6.1.Locals.Scopes y6.1.Locals.Issued y6.1.Globals.Entries y6.1.Weaks.Entries y6.1.Marks y6.1.Roots) else j4 a0.Conf.PageWords a0.Conf.Pages a0.Things a0.Locals.Slots a0.Locals.Scopes a0.Locals.Issued a0.Globals.Entries a0.Weaks.Entries a0.Marks a0.Roots) else bif (a1==4) then (bnd (Xb a0.Things (wU (x3-1))) λ p19=>some (a0,(wU p19.Header.Length),0)) else bif (a1==5) then (bnd (Xb a0.Things (wU (x3-1))) λ p20=>some (a0,(wU p20.Header.Kind),0)) else bif (a1==6) then (bnd (Xb a0.Things (wU (x3-1))) λ p21=>bnd (Xb p21.Fields a3) λ p22=>some (a0,p22,0)) else bif (a1==7) then (bnd (QeJ N a0 x3 (wI a3) a4) λ y23=>some (y23,0,0)) else bif (a1==8) then (bnd (Xb a0.Things (wU (x3-1))) λ p24=>bnd (Xb p24.Fields a3) λ p25=>bnd (Qck N a0 p25) λ y26=>some (y26.1,y26.2,0)) else bif (a1==9) then (bnd (QaE N a0 a4) λ y27=>bnd (QeJ N a0 x3 (wI a3) y27.1) λ y28=>some (y28,0,0)) else bif (a1==10) then (bnd (QaE N a0 a3) λ y29=>bif (x3==y29.1) then some (a0,1,0) else some (a0,0,0)) else bif (a1==11) then (bnd (Qck N a0 x3) λ y30=>some (y30.1,y30.2,0)) else jn (λ (x31:Bool)=>bif x31 then (bnd (Qdz N a0 a1 x3) λ y32=>some (y32.1,y32.2,0)) else jn (λ (x34:Bool)=>bif x34 then (bnd (Qd4 N a0 a2) λ y35=>some (y35,0,0)) else bif (a1==17) then (bnd (QdJ N a0.Locals (wI a2)) λ y36=>some ((WM.mk a0.Conf a0.Things y36.1 a0.Globals a0.Weaks a0.Marks a0.Roots),0,0)) else bif (a1==18) then (bnd (Qem N a0.Locals) λ y37=>bnd (Qck N (WM.mk a0.Conf a0.Things y37.1 a0.Globals a0.Weaks a0.Marks a0.Roots) x3) λ y38=>some (y38.1,y38.2,0)) else bnd (QeS N a0 a1 x3 a5.Base) λ y39=>some (y39.1,y39.2,0)) λ j7=>bif (a1==12) then j7 true else jn (λ (x33:Bool)=>j7 x33) λ j6=>bif (a1==14) then j6 true else j6 (a1==16)) λ j5=>bif (a1==13) then j5 true else j5 (a1==15)) λ j3=>bif (a1==1) then j3 true else jn (λ (x4:Bool)=>j3 x4) λ j2=>bif (a1==2) then j2 true else j2 (a1==3)) λ j1=>bif (decide (a1>3)) then (bif (a1 != 17) then (bnd (QaE N a0 a2) λ y2=>j1 y2.1) else j1 0) else j1 0
def QbP (N:Nat) (a0:Ig) (a1:Oj):Option (Ig×Int×Int):=bif (a1.Op==0) then (bnd (Qa2 N a0.Env) λ y1=>jn (λ (x3:Int) (x4:Int) (x5:List Int) (x6:List Wv) (x7:Int) (x8:Int) (x9:List UX) (x10:List U1) (x11:List Int) (x12:List Ub) (x13:List Ub) (x14:List UN) (x15:List Int) (x16:Int) (x17:Int) (x18:List Il) (x19:List UX) (x20:List U1) (x21:List Int) (x22:List Ub) (x23:List Ub) (x24:List IA) (x25:List Int)=>some ((Ig.mk (W6.mk (Wn.mk (WT.mk x3 x4) x5 x6 x7 x8) (Ww.mk x9 x10 x11) (WI.mk x12) (WI.mk x13) x14 x15) (WM.mk (WT.mk x16 x17) x18 (Ww.mk x19 x20 x21) (WI.mk x22) (WI.mk x23) x24 x25) a0.Words),0,0)) λ j1=>bif (y1.2.2==0) then (bnd (Qc2 N a0.World) λ y2=>j1 y1.1.Heap.Conf.PageWords y1.1.Heap.Conf.Pages y1.1.Heap.Words y1.1.Heap.Pages y1.1.Heap.Space y1.1.Heap.Bump y1.1.Locals.Slots y1.1.Locals.Scopes y1.1.Locals.Issued y1.1.Globals.Entries y1.1.Weaks.Entries y1.1.Pins y1.1.Roots y2.1.Conf.PageWords y2.1.Conf.Pages y2.1.Things y2.1.Locals.Slots y2.1.Locals.Scopes y2.1.Locals.Issued y2.1.Globals.Entries y2.1.Weaks.Entries y2.1.Marks y2.1.Roots) else j1 a0.Env.Heap.Conf.PageWords a0.Env.Heap.Conf.Pages a0.Env.Heap.Words a0.Env.Heap.Pages a0.Env.Heap.Space a0.Env.Heap.Bump a0.Env.Locals.Slots a0.Env.Locals.Scopes a0.Env.Locals.Issued a0.Env.Globals.Entries a0.Env.Weaks.Entries a0.Env.Pins a0.Env.Roots a0.World.Conf.PageWords a0.World.Conf.Pages a0.World.Things a0.World.Locals.Slots a0.World.Locals.Scopes a0.World.Locals.Issued a0.World.Globals.Entries a0.World.Weaks.Entries a0.World.Marks a0.World.Roots) else bnd (QdL N a0.Env a1.Op a1.A a1.B a1.C) λ y26=>bnd (Qdy N a0.Env y26.1 a1.Op y26.2.1 y26.2.2) λ y27=>bnd (QeT N a0.World a1.Op a1.A a1.B a1.C y27) λ y28=>jn (λ (x29:Int) (x30:Int) (x31:List Il) (x32:List UX) (x33:List U1) (x34:List Int) (x35:List Ub) (x36:List Ub) (x37:List IA) (x38:List Int)=>bif (y26.2.2==0) then (bif (y26.2.1 != 0) then (grd (a0.Words.length*8<=140737488355328) <| grd ((a0.Words.length+1)*8<=140737488355328) <| some ((Ig.mk y26.1 (WM.mk (WT.mk x29 x30) x31 (Ww.mk x32 x33 x34) (WI.mk x35) (WI.mk x36) x37 x38) (a0.Words++[y26.2.1])),y26.2.1,y26.2.2)) else some ((Ig.mk y26.1 (WM.mk (WT.mk x29 x30) x31 (Ww.mk x32 x33 x34) (WI.mk x35) (WI.mk x36) x37 x38) a0.Words),y26.2.1,y26.2.2)) else some ((Ig.mk a0.Env (WM.mk (WT.mk x29 x30) x31 (Ww.mk x32 x33 x34) (WI.mk x35) (WI.mk x36) x37 x38) a0.Words),y26.2.1,y26.2.2)) λ j2=>bif (y28.2.2==0) then j2 y28.1.Conf.PageWords y28.1.Conf.Pages y28.1.Things y28.1.Locals.Slots y28.1.Locals.Scopes y28.1.Locals.Issued y28.1.Globals.Entries y28.1.Weaks.Entries y28.1.Marks y28.1.Roots else j2 a0.World.Conf.PageWords a0.World.Conf.Pages a0.World.Things a0.World.Locals.Slots a0.World.Locals.Scopes a0.World.Locals.Issued a0.World.Globals.Entries a0.World.Weaks.Entries a0.World.Marks a0.World.Roots
def Qbn (N:Nat) (a0:Ig) (a1:UU):Option (Int×UU):=bnd (Qaa N a1 14) λ y1=>bif (y1.1==0) then (bnd (Qaa N y1.2 8) λ y2=>bnd (Xb [0,1,262145,262146,524289,1125899906842624,4097,262149] y2.1) λ p3=>some (p3,y2.2)) else bif (y1.1==1) then (bnd (Qaa N y1.2 ((a0.Words.length:Nat):Int)) λ y4=>bnd (Xb a0.Words y4.1) λ p5=>bnd (Qaa N y4.2 3) λ y6=>some ((wU (p5+(wU y6.1))),y6.2)) else jn (λ (x8:Bool)=>bif x8 then (bnd (Qaa N y1.2 ((a0.Words.length:Nat):Int)) λ y9=>bnd (Xb a0.Words y9.1) λ p10=>some (p10,y9.2)) else bnd (Qaa N y1.2 (if 6<((a0.Words.length:Nat):Int) then 6 else ((a0.Words.length:Nat):Int))) λ y11=>bnd (Xb a0.Words (wI ((wI (((a0.Words.length:Nat):Int)-1))-y11.1))) λ p12=>some (p12,y11.2)) λ j2=>bif (y1.1==2) then j2 true else jn (λ (x7:Bool)=>j2 x7) λ j1=>bif (y1.1==3) then j1 true else j1 (y1.1==4)
def QcF (N:Nat) (a0:Ig) (a1:UU):Option (Oj×UU):=bnd (Qaa N a1 32) λ y1=>bnd (Xb [1,1,2,2,3,4,5,6,7,7,8,8,9,9,9,10,11,12,12,13,14,15,16,17,18,19,19,20,20,0,0,21] y1.1) λ p2=>bif (p2==1) then (bnd (Qaa N y1.2 4) λ y3=>grd (0<=(wU y3.1)) <| bnd (Qaa N y3.2 (ZM .i64 1 (wU y3.1))) λ y4=>some ((Oj.mk p2 (wU y3.1) (wU y4.1) 0),y4.2)) else jn (λ (x5:Bool)=>bif x5 then (bnd (Qaa N y1.2 4) λ y6=>bnd (Qaa N y6.2 9) λ y7=>bif (y7.1==0) then (bnd (Qaa N y7.2 70) λ y8=>some ((Oj.mk p2 (wU y8.1) 0 0),y8.2)) else some ((Oj.mk p2 (wU y6.1) 0 0),y7.2)) else bif (p2==17) then (bnd (Qaa N y1.2 9) λ y9=>some ((Oj.mk p2 (wU y9.1) 0 0),y9.2)) else bnd (Qbn N a0 y1.2) λ y10=>bnd (Qaa N y10.2 4) λ y11=>bnd (Qaa N y11.2 1000) λ y12=>jn (λ (x16:List Int) (x17:Int) (x18:Int)=>bif (p2==10) then (bnd (Qbn N a0 (UU.mk x16 x17)) λ y19=>some ((Oj.mk p2 y10.1 y19.1 x18),y19.2)) else some ((Oj.mk p2 y10.1 (wU y11.1) x18),(UU.mk x16 x17))) λ j2=>bif (p2==9) then (bnd (Qbn N a0 y12.2) λ y14=>j2 y14.2.L y14.2.at_ y14.1) else bnd (Qaa N y12.2 9) λ y13=>bif (y13.1==0) then (bnd (Qbn N a0 y13.2) λ y15=>j2 y15.2.L y15.2.at_ y15.1) else j2 y13.2.L y13.2.at_ (wU y12.1)) λ j1=>bif (p2==2) then j1 true else j1 (p2==3)
def QeC (N:Nat) (a1:Int):Nat->Int->(List Int)->Int->Int->Int->(List Int)->(List Wv)->Int->Int->(List UX)->(List U1)->(List Int)->(List Ub)->(List Ub)->(List UN)->(List Int)->Int->Int->(List Il)->(List UX)->(List U1)->(List Int)->(List Ub)->(List Ub)->(List IA)->(List Int)->(List Int)->Option (Int×Int×List Int×List Wv×Int×Int×List UX×List U1×List Int×List Ub×List Ub×List UN×List Int×Int×Int×List Il×List UX×List U1×List Int×List Ub×List Ub×List IA×List Int×List Int)
 | 0,_,_,_,_,_,_,_,_,_,_,_,_,_,_,_,_,_,_,_,_,_,_,_,_,_,_,_=>none
 | n+1,v2,v3,v4,v5,v6,v7,v8,v9,v10,v11,v12,v13,v14,v15,v16,v17,v18,v19,v20,v21,v22,v23,v24,v25,v26,v27,v28 =>
  bif (decide (v2<a1)) then (bnd (Qfx N (UU.mk v3 v4)) λ y29 =>
   bif (!y29) then (bnd (QcF N (Ig.mk (W6.mk (Wn.mk (WT.mk v5 v6) v7 v8 v9 v10) (Ww.mk v11 v12 v13) (WI.mk v14) (WI.mk v15) v16 v17) (WM.mk (WT.mk v18 v19) v20 (Ww.mk v21 v22 v23) (WI.mk v24) (WI.mk v25) v26 v27) v28) (UU.mk v3 v4)) λ y30 =>
    bnd (QbP N (Ig.mk (W6.mk (Wn.mk (WT.mk v5 v6) v7 v8 v9 v10) (Ww.mk v11 v12 v13) (WI.mk v14) (WI.mk v15) v16 v17) (WM.mk (WT.mk v18 v19) v20 (Ww.mk v21 v22 v23) (WI.mk v24) (WI.mk v25) v26 v27) v28) y30.1) λ y31 =>
    QeC N a1 n (wI (v2+1)) y30.2.L y30.2.at_ y31.1.Env.Heap.Conf.PageWords y31.1.Env.Heap.Conf.Pages y31.1.Env.Heap.Words y31.1.Env.Heap.Pages y31.1.Env.Heap.Space y31.1.Env.Heap.Bump y31.1.Env.Locals.Slots y31.1.Env.Locals.Scopes y31.1.Env.Locals.Issued y31.1.Env.Globals.Entries y31.1.Env.Weaks.Entries y31.1.Env.Pins y31.1.Env.Roots y31.1.World.Conf.PageWords y31.1.World.Conf.Pages y31.1.World.Things y31.1.World.Locals.Slots y31.1.World.Locals.Scopes y31.1.World.Locals.Issued y31.1.World.Globals.Entries y31.1.World.Weaks.Entries y31.1.World.Marks y31.1.World.Roots y31.1.Words)
   else some (v5,v6,v7,v8,v9,v10,v11,v12,v13,v14,v15,v16,v17,v18,v19,v20,v21,v22,v23,v24,v25,v26,v27,v28))
  else some (v5,v6,v7,v8,v9,v10,v11,v12,v13,v14,v15,v16,v17,v18,v19,v20,v21,v22,v23,v24,v25,v26,v27,v28)
def Qf4 (N:Nat) (a0:List Int) (a1:Int):Option Ig:=bnd (Qbo N (UU.mk a0 0)) λ y1=>bnd (QeC N a1 N 0 y1.2.L y1.2.at_ y1.1.Env.Heap.Conf.PageWords y1.1.Env.Heap.Conf.Pages y1.1.Env.Heap.Words y1.1.Env.Heap.Pages y1.1.Env.Heap.Space y1.1.Env.Heap.Bump y1.1.Env.Locals.Slots y1.1.Env.Locals.Scopes y1.1.Env.Locals.Issued y1.1.Env.Globals.Entries y1.1.Env.Weaks.Entries y1.1.Env.Pins y1.1.Env.Roots y1.1.World.Conf.PageWords y1.1.World.Conf.Pages y1.1.World.Things y1.1.World.Locals.Slots y1.1.World.Locals.Scopes y1.1.World.Locals.Issued y1.1.World.Globals.Entries y1.1.World.Weaks.Entries y1.1.World.Marks y1.1.World.Roots y1.1.Words) λ y32=>some (Ig.mk (W6.mk (Wn.mk (WT.mk y32.1 y32.2.1) y32.2.2.1 y32.2.2.2.1 y32.2.2.2.2.1 y32.2.2.2.2.2.1) (Ww.mk y32.2.2.2.2.2.2.1 y32.2.2.2.2.2.2.2.1 y32.2.2.2.2.2.2.2.2.1) (WI.mk y32.2.2.2.2.2.2.2.2.2.1) (WI.mk y32.2.2.2.2.2.2.2.2.2.2.1) y32.2.2.2.2.2.2.2.2.2.2.2.1 y32.2.2.2.2.2.2.2.2.2.2.2.2.1) (WM.mk (WT.mk y32.2.2.2.2.2.2.2.2.2.2.2.2.2.1 y32.2.2.2.2.2.2.2.2.2.2.2.2.2.2.1) y32.2.2.2.2.2.2.2.2.2.2.2.2.2.2.2.1 (Ww.mk y32.2.2.2.2.2.2.2.2.2.2.2.2.2.2.2.2.1 y32.2.2.2.2.2.2.2.2.2.2.2.2.2.2.2.2.2.1 y32.2.2.2.2.2.2.2.2.2.2.2.2.2.2.2.2.2.2.1) (WI.mk y32.2.2.2.2.2.2.2.2.2.2.2.2.2.2.2.2.2.2.2.1) (WI.mk y32.2.2.2.2.2.2.2.2.2.2.2.2.2.2.2.2.2.2.2.2.1) y32.2.2.2.2.2.2.2.2.2.2.2.2.2.2.2.2.2.2.2.2.2.1 y32.2.2.2.2.2.2.2.2.2.2.2.2.2.2.2.2.2.2.2.2.2.2.1) y32.2.2.2.2.2.2.2.2.2.2.2.2.2.2.2.2.2.2.2.2.2.2.2)
def QbG (N:Nat) (a0:Ii) (y3:Int×UU):Nat->Int->(List Wv)->Option (List Wv)
 | 0,_,_=>none
 | n+1,v22,v23 =>
  grd (v23.length<=140737488355328) <|
  bif (decide (v22<((v23.length:Nat):Int))) then (bnd (Xb v23 v22) λ p24 =>
   bif (p24.Kind==1) then (bnd (Xb v23 v22) λ p25 =>
    QbG N a0 y3 n (wI (v22+1)) (v23.set v22.toNat (Wv.mk p25.Kind p25.Space p25.Used 1)))
   else QbG N a0 y3 n (wI (v22+1)) v23)
  else some v23
def Qcw (N:Nat) (a0:Ii) (a1:UU):Option (Ii×UU):=grd (a0.Heap.Words.length*8<=140737488355328) <| grd (a0.Heap.Pages.length*32<=140737488355328) <| grd (a0.Heap.Words.length<=140737488355328) <| bnd (Qaa N a1 ((a0.Heap.Words.length:Nat):Int)) λ y1=>grd (a0.Heap.Pages.length<=140737488355328) <| bnd (Qaa N y1.2 ((a0.Heap.Pages.length:Nat):Int)) λ y2=>bnd (Qaa N y2.2 12) λ y3=>jn (λ (x4:Bool)=>bif x4 then (bnd (Qaa N y3.2 10) λ y5=>bnd (Xb [0,1,5,21,4096,4097,4112,16386,1099511627776,61] y5.1) λ p6=>bnd (Xb a0.Heap.Words y1.1) λ p7=>some ((Ii.mk (Wn.mk a0.Heap.Conf (a0.Heap.Words.set y1.1.toNat p6) a0.Heap.Pages a0.Heap.Space a0.Heap.Bump) a0.Strong a0.Weak),y5.2)) else bif (y3.1==2) then (bnd (Xb a0.Heap.Words y1.1) λ p8=>bnd (Qaa N y3.2 64) λ y9=>grd (0<=(wU y9.1)) <| bnd (Xb a0.Heap.Words y1.1) λ p10=>some ((Ii.mk (Wn.mk a0.Heap.Conf (a0.Heap.Words.set y1.1.toNat (Xle .u64 p8 (ZM .u64 1 (wU y9.1)))) a0.Heap.Pages a0.Heap.Space a0.Heap.Bump) a0.Strong a0.Weak),y9.2)) else bif (y3.1==3) then (bnd (Qaa N y3.2 5) λ y11=>bnd (Xb a0.Heap.Pages y2.1) λ p12=>some ((Ii.mk (Wn.mk a0.Heap.Conf a0.Heap.Words (a0.Heap.Pages.set y2.1.toNat (Wv.mk y11.1 p12.Space p12.Used p12.Pins)) a0.Heap.Space a0.Heap.Bump) a0.Strong a0.Weak),y11.2)) else bif (y3.1==4) then (bnd (Qaa N y3.2 3) λ y13=>bnd (Xb a0.Heap.Pages y2.1) λ p14=>some ((Ii.mk (Wn.mk a0.Heap.Conf a0.Heap.Words (a0.Heap.Pages.set y2.1.toNat (Wv.mk p14.Kind y13.1 p14.Used p14.Pins)) a0.Heap.Space a0.Heap.Bump) a0.Strong a0.Weak),y13.2)) else bif (y3.1==5) then (bnd (Xb a0.Heap.Pages y2.1) λ p15=>bnd (Qaa N y3.2 9) λ y16=>bnd (Xb a0.Heap.Pages y2.1) λ p17=>some ((Ii.mk (Wn.mk a0.Heap.Conf a0.Heap.Words (a0.Heap.Pages.set y2.1.toNat (Wv.mk p17.Kind p17.Space (wI ((wI (p15.Used+y16.1))-4)) p17.Pins)) a0.Heap.Space a0.Heap.Bump) a0.Strong a0.Weak),y16.2)) else bif (y3.1==6) then (bnd (Qaa N y3.2 3) λ y18=>bnd (Xb a0.Heap.Pages y2.1) λ p19=>some ((Ii.mk (Wn.mk a0.Heap.Conf a0.Heap.Words (a0.Heap.Pages.set y2.1.toNat (Wv.mk p19.Kind p19.Space p19.Used (wI (y18.1-1)))) a0.Heap.Space a0.Heap.Bump) a0.Strong a0.Weak),y18.2)) else bif (y3.1==7) then (bnd (Qaa N y3.2 3) λ y20=>some ((Ii.mk (Wn.mk a0.Heap.Conf a0.Heap.Words a0.Heap.Pages y20.1 a0.Heap.Bump) a0.Strong a0.Weak),y20.2)) else bif (y3.1==8) then (grd (a0.Heap.Pages.length<=140737488355328) <| bnd (Qaa N y3.2 (wI (((a0.Heap.Pages.length:Nat):Int)+2))) λ y21=>some ((Ii.mk (Wn.mk a0.Heap.Conf a0.Heap.Words a0.Heap.Pages a0.Heap.Space (wI (y21.1-1))) a0.Strong a0.Weak),y21.2)) else bif (y3.1==9) then some ((Ii.mk (Wn.mk (WT.mk (wI (a0.Heap.Conf.PageWords+4)) a0.Heap.Conf.Pages) a0.Heap.Words a0.Heap.Pages a0.Heap.Space a0.Heap.Bump) a0.Strong a0.Weak),y3.2) else bif (y3.1==10) then (grd (0<=1/\1<=((a0.Heap.Pages.length:Nat):Int)/\((a0.Heap.Pages.length:Nat):Int)<=((a0.Heap.Pages.length:Nat):Int)) <| some ((Ii.mk (Wn.mk a0.Heap.Conf a0.Heap.Words ((a0.Heap.Pages.drop 1).take (a0.Heap.Pages.length-1)) a0.Heap.Space a0.Heap.Bump) a0.Strong a0.Weak),y3.2)) else bif (y3.1==11) then (bnd (QbG N a0 y3 N 0 a0.Heap.Pages) λ y26=>some ((Ii.mk (Wn.mk a0.Heap.Conf a0.Heap.Words y26 a0.Heap.Space a0.Heap.Bump) a0.Strong a0.Weak),y3.2)) else some (a0,y3.2)) λ j1=>bif (y3.1==0) then j1 true else j1 (y3.1==1)
def Qfr (N:Nat) (a0:W6) (a1:UU):Option (W6×UU):=bnd (Qaa N a1 8) λ y1=>bif (y1.1==0) then (bnd (Qcw N (Ii.mk a0.Heap [] []) y1.2) λ y2=>some ((W6.mk y2.1.Heap a0.Locals a0.Globals a0.Weaks a0.Pins a0.Roots),y2.2)) else bif (y1.1==1) then (grd (a0.Roots.length*8<=140737488355328) <| bnd (Qaa N y1.2 200) λ y3=>grd ((a0.Roots.length+1)*8<=140737488355328) <| some ((W6.mk a0.Heap a0.Locals a0.Globals a0.Weaks a0.Pins (a0.Roots++[(wU (wI (4096+y3.1)))])),y3.2)) else bif (y1.1==2) then (bif (decide (((a0.Locals.Slots.length:Nat):Int)>0)) then (grd (a0.Locals.Slots.length*24<=140737488355328) <| bnd (Qaa N y1.2 ((a0.Locals.Slots.length:Nat):Int)) λ y4=>bnd (Xb a0.Locals.Slots y4.1) λ p5=>bnd (Qaa N y4.2 3) λ y6=>bnd (Xb a0.Locals.Slots y4.1) λ p7=>some ((W6.mk a0.Heap (Ww.mk (a0.Locals.Slots.set y4.1.toNat (UX.mk p7.Stamp (wU (p5.Ref+(wU y6.1))) p7.Live)) a0.Locals.Scopes a0.Locals.Issued) a0.Globals a0.Weaks a0.Pins a0.Roots),y6.2)) else some (a0,y1.2)) else bif (y1.1==3) then (grd (a0.Globals.Entries.length*24<=140737488355328) <| bnd (Qaa N y1.2 3) λ y8=>bnd (Qaa N y8.2 2) λ y9=>grd ((a0.Globals.Entries.length+1)*24<=140737488355328) <| some ((W6.mk a0.Heap a0.Locals (WI.mk (a0.Globals.Entries++[(Ub.mk y8.1 0 (y9.1==0))])) a0.Weaks a0.Pins a0.Roots),y9.2)) else bif (y1.1==4) then (grd (a0.Weaks.Entries.length*24<=140737488355328) <| bnd (Qaa N y1.2 3) λ y10=>bnd (Qaa N y10.2 40) λ y11=>grd ((a0.Weaks.Entries.length+1)*24<=140737488355328) <| some ((W6.mk a0.Heap a0.Locals a0.Globals (WI.mk (a0.Weaks.Entries++[(Ub.mk y10.1 (wU (wI (4096+y11.1))) true)])) a0.Pins a0.Roots),y11.2)) else bif (y1.1==5) then (grd (a0.Pins.length*16<=140737488355328) <| bnd (Qaa N y1.2 20) λ y12=>bnd (Qaa N y12.2 2) λ y13=>grd ((a0.Pins.length+1)*16<=140737488355328) <| some ((W6.mk a0.Heap a0.Locals a0.Globals a0.Weaks (a0.Pins++[(UN.mk (wU (wI (4096+y12.1))) y13.1)]) a0.Roots),y13.2)) else bif (y1.1==6) then (grd (a0.Locals.Scopes.length*24<=140737488355328) <| bnd (Qaa N y1.2 4) λ y14=>bnd (Qaa N y14.2 70) λ y15=>grd ((a0.Locals.Scopes.length+1)*24<=140737488355328) <| some ((W6.mk a0.Heap (Ww.mk a0.Locals.Slots (a0.Locals.Scopes++[(U1.mk y14.1 y15.1 false)]) a0.Locals.Issued) a0.Globals a0.Weaks a0.Pins a0.Roots),y15.2)) else some ((W6.mk a0.Heap a0.Locals a0.Globals a0.Weaks [] a0.Roots),y1.2)
def QgL (N:Nat) (a0:Wn):Option Bool:=bif (decide (((a0.Words.length:Nat):Int)<=5000)) then some (decide (((a0.Pages.length:Nat):Int)<=100)) else some false
def Qe2 (N:Nat) (a0:W6):Option Bool:=bnd (QgL N a0.Heap) λ y1=>bif y1 then (bif (decide (((a0.Locals.Slots.length:Nat):Int)<=200)) then (bif (decide (((a0.Locals.Scopes.length:Nat):Int)<=100)) then (bif (decide (((a0.Locals.Issued.length:Nat):Int)<=5000)) then (bif (decide (((a0.Globals.Entries.length:Nat):Int)<=200)) then (bif (decide (((a0.Weaks.Entries.length:Nat):Int)<=200)) then (bif (decide (((a0.Pins.length:Nat):Int)<=100)) then some (decide (((a0.Roots.length:Nat):Int)<=100)) else some false) else some false) else some false) else some false) else some false) else some false) else some false
def Qgc (N:Nat) (a0:W6) (a1:List Int) (a2:List Int):Option (List W6):=bnd (Qf4 N a1 60) λ y1=>bnd (Qfr N y1.Env (UU.mk a2 0)) λ y2=>bnd (Qe2 N a0) λ y3=>bif y3 then some [y1.Env,y2.1,a0] else some [y1.Env,y2.1]
def Qa4 (N:Nat) (a0:WT):Option Bool:=bif (decide (a0.PageWords>=16)) then (bif (decide (a0.PageWords<=64)) then (bif ((a0.PageWords.tmod 4)==0) then (bif (decide (a0.Pages>=8)) then some (decide (a0.Pages<=64)) else some false) else some false) else some false) else some false
def QcS (N:Nat) (a0:WT):Option Int:=bnd (Qa4 N a0) λ y1=>bif (!y1) then some 0 else some (wI (a0.PageWords.tdiv 4))
def Qen (N:Nat) (a0:WT) (a1:Int):Option Int:=bnd (Qa4 N a0) λ y1=>bif (!y1) then some (-1) else bif (decide (a1<1)) then some (-1) else bif (decide (a1>(wI (4*a0.PageWords)))) then some (-1) else bnd (QcS N a0) λ y2=>bif (decide (a1<=y2)) then some 0 else grd (a0.PageWords≠0) <| some (wI ((wI ((wI (a1+a0.PageWords))-1)).tdiv a0.PageWords))
def Qfg (N:Nat) (a0:Wv) (a1:WT):Option Bool:=some ((a0.Kind==0)&&((a0.Space==0)&&((a0.Used==0)&&(a0.Pins==0))))
def QbF (N:Nat) (a0:Wv):Option Bool:=bif (a0.Space==0) then some true else some (a0.Space==1)
def QcW (N:Nat) (a0:Wv):Option Bool:=bif (decide (a0.Pins>=0)) then some (decide (a0.Pins<=2147483647)) else some false
def Qdg (N:Nat) (a0:Wv) (a1:WT):Option Bool:=bnd (QbF N a0) λ y1=>bif y1 then (bnd (QcW N a0) λ y2=>bif y2 then (bif (decide (a0.Used>=0)) then some (decide (a0.Used<=a1.PageWords)) else some false) else some false) else some false
def Qdh (N:Nat) (a0:Wv) (a1:WT):Option Bool:=bnd (QbF N a0) λ y1=>bif y1 then (bnd (QcW N a0) λ y2=>bif y2 then (bnd (Qen N a1 a0.Used) λ y3=>some (decide (y3>=1))) else some false) else some false
def Qex (N:Nat) (a0:Wv) (a1:Wv):Option Bool:=some ((a0.Kind==3)&&((a0.Space==a1.Space)&&((a0.Used==0)&&(a0.Pins==0))))
def QeD (N:Nat) (a1:List Wv) (a2:Int) (p1:Wv) (x5:Int) (y6:Int):Nat->Int->Option (Ex Int Unit)
 | 0,_=>none
 | n+1,v7 =>
  bif (decide (v7<(((min ((wI (a2+y6)).toNat-(wI (a2+1)).toNat) (a1.length-(wI (a2+1)).toNat)):Nat):Int))) then (bnd (Xb ((a1.drop (wI (a2+1)).toNat).take ((wI (a2+y6)).toNat-(wI (a2+1)).toNat)) v7) λ p8 =>
   bnd (Qex N p8 (Wv.mk x5 p1.Space p1.Used p1.Pins)) λ y9 =>
   bif (!y9) then some (.ret 0)
   else QeD N a1 a2 p1 x5 y6 n (wI (v7+1)))
  else some (.nxt ())
def Qgz (N:Nat) (a0:WT) (a1:List Wv) (a2:Int):Option Int:=bnd (Xb a1 a2) λ p1=>jn (λ (x5:Int)=>bif (x5 != 2) then some 1 else bnd (Qen N a0 p1.Used) λ y6=>bif (decide (y6>(wI (((a1.length:Nat):Int)-a2)))) then some 0 else grd (0<=(wI (a2+1))/\(wI (a2+1))<=(wI (a2+y6))/\(wI (a2+y6))<=((a1.length:Nat):Int)) <| bnd (QeD N a1 a2 p1 x5 y6 N 0) λ e=>exK e (λ r=>some r) λ y10=>some y6) λ j1=>bif (decide (p1.Kind<0)) then some 0 else bif (decide (p1.Kind>=3)) then some 0 else bif (p1.Kind==0) then (bnd (Qfg N (Wv.mk 0 p1.Space p1.Used p1.Pins) a0) λ y2=>bif (!y2) then some 0 else j1 0) else bif (p1.Kind==1) then (bnd (Qdg N (Wv.mk 1 p1.Space p1.Used p1.Pins) a0) λ y3=>bif (!y3) then some 0 else j1 1) else bif (p1.Kind==2) then (bnd (Qdh N (Wv.mk 2 p1.Space p1.Used p1.Pins) a0) λ y4=>bif (!y4) then some 0 else j1 2) else none
def Qae (N:Nat) (a0:Wn):Nat->Int->Option (Ex Bool Unit)
 | 0,_=>none
 | n+1,v3 =>
  bif (decide (v3<((a0.Pages.length:Nat):Int))) then (bnd (Qgz N a0.Conf a0.Pages v3) λ y4 =>
   bif (y4==0) then some (.ret false)
   else Qae N a0 n (wI (v3+y4)))
  else some (.nxt ())
def Qb5 (N:Nat) (a0:Wn):Option Bool:=jn (λ (_:Unit)=>jn (λ (_:Unit)=>bnd (Qae N a0 N 0) λ e=>exK e (λ r=>some r) λ y5=>some true) λ j2=>bif (a0.Bump != (-1)) then (bif (decide (a0.Bump<0)) then some false else bif (decide (a0.Bump>=((a0.Pages.length:Nat):Int))) then some false else bnd (Xb a0.Pages a0.Bump) λ p2=>bif (p2.Kind != 1) then some false else j2 ()) else j2 ()) λ j1=>bnd (Qa4 N a0.Conf) λ y1=>bif (!y1) then some false else bif (((a0.Words.length:Nat):Int) != (wI (a0.Conf.PageWords*a0.Conf.Pages))) then some false else bif (((a0.Pages.length:Nat):Int) != a0.Conf.Pages) then some false else bif (a0.Space != 0) then (bif (a0.Space != 1) then some false else j1 ()) else j1 ()
def QcX (N:Nat) (a0:List UI):Nat->Int->(List Int)->Option (List Int)
 | 0,_,_=>none
 | n+1,v1,v2 =>
  bif (decide (v1<((a0.length:Nat):Int))) then (bnd (Xb a0 v1) λ p3 =>
   grd ((v2.length+1)*8<=140737488355328) <|
   QcX N a0 n (wI (v1+1)) (v2++[p3.addr]))
  else some v2
def Qb9 (N:Nat) (a0:List UI):Option (List Int):=bnd (QcX N a0 N 0 []) λ y4=>some y4
def QeE (N:Nat) (a0:Int):Nat->Int->Int->Option Int
 | 0,_,_=>none
 | n+1,v1,v2 =>
  bif (decide (v2<(if 64<(if a0<0 then 0 else a0) then 64 else (if a0<0 then 0 else a0)))) then QeE N a0 n (bOr .u64 (ZM .u64 v1 1) 1) (wI (v2+1))
  else some v1
def Qbr (N:Nat) (a0:Int):Option Int:=bnd (QeE N a0 N 0 0) λ y3=>some y3
def QcT (N:Nat) (a0:Wy):Option Bool:=bif (decide (a0.Kind<0)) then some false else bif (decide (a0.Kind>3)) then some false else bif (decide (a0.Length<0)) then some false else bif (decide (a0.Length>255)) then some false else bif (a0.Kind==1) then (jn (λ (x2:Bool)=>some x2) λ j1=>bif (decide (a0.Length<=32)) then (bnd (Qbr N a0.Length) λ y1=>j1 (decide ((wU a0.Map)<=y1))) else j1 false) else some ((a0.Kind==a0.Kind)&&((a0.Length==a0.Length)&&(a0.Map==0)))
def Qb6 (N:Nat) (a0:Wy):Option Int:=bnd (QcT N a0) λ y1=>bif (!y1) then some 0 else some (wI (a0.Length+1))
def Qd5 (N:Nat) (a0:WT) (a1:Int) (a2:Int):Option (Int×Int):=bnd (Qa4 N a0) λ y1=>bif (!y1) then some (0,1) else bif (decide (a1<0)) then some (0,2) else bif (decide (a1>=a0.Pages)) then some (0,2) else bif (decide (a2<0)) then some (0,2) else bif (decide (a2>=a0.PageWords)) then some (0,2) else some ((wU (4096+(wU (wI ((wI (a1*a0.PageWords))+a2))))),0)
def QfD (N:Nat) (a0:WT) (a1:Int):Option (Int×Int×Int):=bnd (Qa4 N a0) λ y1=>bif (!y1) then some (0,0,1) else bif (decide (a1<4096)) then some (0,0,2) else bif (decide ((wU (a1-4096))>=(wU (wI (a0.PageWords*a0.Pages))))) then some (0,0,2) else grd (a0.PageWords≠0) <| grd (a0.PageWords≠0) <| some ((wI ((wI (wU (a1-4096))).tdiv a0.PageWords)),((wI (wU (a1-4096))).tmod a0.PageWords),0)
def QaB (N:Nat) (a0:Int) (a1:List Int):Nat->Int->Int->Option (Ex (List Int×Int) Unit)
 | 0,_,_=>none
 | n+1,v1,v2 =>
  bif (decide (v2<((a1.length:Nat):Int))) then (bnd (Xb a1 v2) λ p3 =>
   bif (decide (p3<1)) then some (.ret ([],1))
   else bif (decide (p3>v1)) then some (.ret ([],1))
   else QaB N a0 a1 n (wI (v1-p3)) (wI (v2+1)))
  else some (.nxt ())
def QaC (N:Nat) (a1:List Int):Nat->Int->Int->(List Int)->Option (Int×List Int)
 | 0,_,_,_=>none
 | n+1,v5,v6,v7 =>
  bif (decide (v6<((a1.length:Nat):Int))) then (bnd (Xb a1 v6) λ p8 =>
   bnd (Qbr N p8) λ y9 =>
   grd ((v7.length+1)*8<=140737488355328) <|
   grd (0<=p8) <|
   QaC N a1 n (X5 .u64 v5 p8) (wI (v6+1)) (v7++[(Yv .u64 v5 y9)]))
  else some (v5,v7)
def QdV (N:Nat) (a0:Int) (a1:List Int):Option (List Int×Int):=bnd (QaB N a0 a1 N 64 0) λ e=>exK e (λ r=>some r) λ y4=>bnd (QaC N a1 N a0 0 []) λ y10=>bif (y10.1 != 0) then some ([],2) else some (y10.2,0)
def Qe3 (N:Nat) (a0:Int):Option (Wy×Bool):=bnd (QdV N a0 [2,2,12,32]) λ y1=>bif (y1.2 != 0) then some ((Wy.mk 0 0 0),false) else bnd (Xb y1.1 0) λ p2=>bif (p2 != 1) then some ((Wy.mk 0 0 0),false) else bnd (Xb y1.1 1) λ p3=>bnd (Xb y1.1 2) λ p4=>bnd (Xb y1.1 3) λ p5=>bnd (QcT N (Wy.mk (wI p3) (wI p4) (wW p5))) λ y6=>bif (!y6) then some ((Wy.mk 0 0 0),false) else some ((Wy.mk (wI p3) (wI p4) (wW p5)),true)
def Qet (N:Nat) (a0:List Int) (a1:Int) (a2:Int):Option (Int×Bool):=bif (decide (a1<4096)) then some (0,false) else bif (decide ((wU (a1-4096))>(wU ((a0.length:Nat):Int)))) then some (0,false) else some ((wI (wU (a1-4096))),(decide (a2<=(wI (((a0.length:Nat):Int)-(wI (wU (a1-4096))))))))
def Qgv (N:Nat) (a0:List Int) (a1:Int):Option (Int×Int):=bnd (Qet N a0 a1 1) λ y1=>bif (!y1.2) then some (0,2) else some (y1.1,0)
def QfE (N:Nat) (a0:List Int) (a1:Int):Option (Int×Int):=bnd (Qgv N a0 a1) λ y1=>bif (y1.2 != 0) then some (0,y1.2) else bnd (Xb a0 y1.1) λ p2=>some (p2,0)
def QfZ (N:Nat) (a0:Wn) (a1:Int):Option Int:=bnd (QfE N a0.Words a1) λ y1=>some y1.1
def QeK (N:Nat) (a0:Wn) (a1:Int):Option (Wy×Int):=bnd (Qb5 N a0) λ y1=>bif (!y1) then some ((Wy.mk 0 0 0),1) else bnd (QfD N a0.Conf a1) λ y2=>bif (y2.2.2 != 0) then some ((Wy.mk 0 0 0),y2.2.2) else bnd (Xb a0.Pages y2.1) λ p3=>bnd (QfZ N a0 a1) λ y4=>bnd (Qe3 N y4) λ y5=>bnd (Qb6 N y5.1) λ y6=>jn (λ (x10:Bool)=>bif (!x10) then some ((Wy.mk 0 0 0),19) else some (y5.1,0)) λ j4=>bif (!y5.2) then j4 false else bif (decide (y2.2.1>=p3.Used)) then j4 false else jn (λ (x9:Bool)=>j4 x9) λ j3=>bif (p3.Kind==1) then j3 (decide (y6<=(wI (p3.Used-y2.2.1)))) else jn (λ (x8:Bool)=>j3 x8) λ j2=>bif (p3.Kind==2) then (jn (λ (x7:Bool)=>j2 x7) λ j1=>bif (y2.2.1==0) then j1 (y6==p3.Used) else j1 false) else j2 false
def QbD (N:Nat) (a0:Wn) (a1:Int) (p1:Wv):Nat->Int->List UI->Option (List UI×Int)
 | 0,_,_=>none
 | n+1,v2,v3 =>
  bif (decide (v2<p1.Used)) then (bnd (Qd5 N a0.Conf a1 v2) λ y4 =>
   bif (y4.2==0) then (bnd (QeK N a0 y4.1) λ y5 =>
    bif (y5.2==0) then (bnd (Qb6 N y5.1) λ y6 =>
     grd ((v3.length+1)*32<=140737488355328) <|
     QbD N a0 a1 p1 n (wI (v2+y6)) (v3++[UI.mk y4.1 y5.1]))
    else some ([],19))
   else some ([],19))
  else some (v3,0)
def Qfb (N:Nat) (a0:Wn) (a1:Int):Option (List UI×Int):=bnd (Xb a0.Pages a1) λ p1=>bif (p1.Kind != 1) then (bif (p1.Kind != 2) then some ([],0) else QbD N a0 a1 p1 N 0 []) else QbD N a0 a1 p1 N 0 []
def Qfs (N:Nat) (a0:Wn) (a1:Int):Option (List Int×Int):=bnd (Qb5 N a0) λ y1=>bif (!y1) then some ([],1) else bif (decide (a1<0)) then some ([],2) else bif (decide (a1>=((a0.Pages.length:Nat):Int))) then some ([],2) else bnd (Qfb N a0 a1) λ y2=>bif (y2.2 != 0) then some ([],y2.2) else bnd (Qb9 N y2.1) λ y3=>some (y3,0)
def Qca (N:Nat) (a0:Wn) (a1:Int) (a2:List Int):Nat->Int->Option (Ex (Int×Bool) Unit)
 | 0,_=>none
 | n+1,v1 =>
  bif (decide (v1<((a2.length:Nat):Int))) then (bnd (Xb a2 v1) λ p2 =>
   bnd (QeK N a0 p2) λ y3 =>
   bnd (Qb6 N y3.1) λ y4 =>
   bnd (QcS N a0.Conf) λ y5 =>
   bnd (Xb a0.Pages a1) λ p6 =>
   bif (p6.Kind==1) then (bif (!(decide (y4<=y5))) then some (.ret (p2,true))
    else bnd (Xb a0.Pages a1) λ p7 =>
    bif (p7.Kind==2) then (bif (y3.1.Kind==0) then some (.ret (p2,true))
     else Qca N a0 a1 a2 n (wI (v1+1)))
    else Qca N a0 a1 a2 n (wI (v1+1)))
   else bnd (Xb a0.Pages a1) λ p8 =>
   bif (p8.Kind==2) then (bif (y3.1.Kind==0) then some (.ret (p2,true))
    else Qca N a0 a1 a2 n (wI (v1+1)))
   else Qca N a0 a1 a2 n (wI (v1+1)))
  else some (.nxt ())
def Qfc (N:Nat) (a0:Wn) (a1:Int) (a2:List Int):Option (Int×Bool):=bnd (Qca N a0 a1 a2 N 0) λ e=>exK e (λ r=>some r) λ y9=>some (0,false)
def Qay (N:Nat) (a0:List Int):Option (List Int):=some a0
def Qgd (N:Nat) (a0:List Int) (a1:Int) (a2:Int):Option (List Int×Int):=bif (decide (a2<0)) then some ([],1) else bnd (Qet N a0 a1 a2) λ y1=>bif (!y1.2) then some ([],2) else grd (0<=y1.1/\y1.1<=(wI (y1.1+a2))/\(wI (y1.1+a2))<=((a0.length:Nat):Int)) <| bnd (Qay N ((a0.drop y1.1.toNat).take ((wI (y1.1+a2)).toNat-y1.1.toNat))) λ y2=>some (y2,0)
def Qec (N:Nat) (a0:Wn):Nat->Int->Option Int
 | 0,_=>none
 | n+1,v1 =>
  bif (decide (v1>0)) then (bnd (Xb a0.Pages v1) λ p2 =>
   bif (p2.Kind==3) then Qec N a0 n (wI (v1-1))
   else some v1)
  else some v1
def Qge (N:Nat) (a0:Wn) (a1:Int):Option Int:=bnd (Qec N a0 N a1) λ y3=>some y3
def Qgf (N:Nat) (a0:Int):Option Bool:=some (a0 != 0)
def Qap (N:Nat) (a0:List Int):Nat->Int->Option (Ex Int Unit)
 | 0,_=>none
 | n+1,v1 =>
  bif (decide (v1<((a0.length:Nat):Int))) then (bnd (Xb a0 v1) λ p2 =>
   bnd (Qgf N p2) λ y3 =>
   bif y3 then some (.ret v1)
   else Qap N a0 n (wI (v1+1)))
  else some (.nxt ())
def QaH (N:Nat) (a0:List Int):Option Int:=bnd (Qap N a0 N 0) λ e=>exK e (λ r=>some r) λ y4=>some (-1)
def QdA (N:Nat) (a0:Wn) (y1:Int×Int) (y4:List Int×Int):Nat->Int->(List Int)->Option (List Int)
 | 0,_,_=>none
 | n+1,v5,v6 =>
  bif (decide (v5<((y4.1.length:Nat):Int))) then (bnd (Xb y4.1 v5) λ p7 =>
   bnd (QeK N a0 p7) λ y8 =>
   jn (λ (x10:Int) =>
    grd (v6.length<=140737488355328) <|
    grd (v6.length<=140737488355328) <|
    grd (0<=(if ((v6.length:Nat):Int)<(if (wI ((wI p7)-(wI y1.1)))<0 then 0 else (wI ((wI p7)-(wI y1.1)))) then ((v6.length:Nat):Int) else (if (wI ((wI p7)-(wI y1.1)))<0 then 0 else (wI ((wI p7)-(wI y1.1)))))/\(if ((v6.length:Nat):Int)<(if (wI ((wI p7)-(wI y1.1)))<0 then 0 else (wI ((wI p7)-(wI y1.1)))) then ((v6.length:Nat):Int) else (if (wI ((wI p7)-(wI y1.1)))<0 then 0 else (wI ((wI p7)-(wI y1.1)))))<=(if ((v6.length:Nat):Int)<(if (wI ((wI ((wI p7)-(wI y1.1)))+x10))<0 then 0 else (wI ((wI ((wI p7)-(wI y1.1)))+x10))) then ((v6.length:Nat):Int) else (if (wI ((wI ((wI p7)-(wI y1.1)))+x10))<0 then 0 else (wI ((wI ((wI p7)-(wI y1.1)))+x10))))/\(if ((v6.length:Nat):Int)<(if (wI ((wI ((wI p7)-(wI y1.1)))+x10))<0 then 0 else (wI ((wI ((wI p7)-(wI y1.1)))+x10))) then ((v6.length:Nat):Int) else (if (wI ((wI ((wI p7)-(wI y1.1)))+x10))<0 then 0 else (wI ((wI ((wI p7)-(wI y1.1)))+x10))))<=((v6.length:Nat):Int)) <|
    QdA N a0 y1 y4 n (wI (v5+1)) (((v6.take (if ((v6.length:Nat):Int)<(if (wI ((wI p7)-(wI y1.1)))<0 then 0 else (wI ((wI p7)-(wI y1.1)))) then ((v6.length:Nat):Int) else (if (wI ((wI p7)-(wI y1.1)))<0 then 0 else (wI ((wI p7)-(wI y1.1))))).toNat)++(List.replicate ((if ((v6.length:Nat):Int)<(if (wI ((wI ((wI p7)-(wI y1.1)))+x10))<0 then 0 else (wI ((wI ((wI p7)-(wI y1.1)))+x10))) then ((v6.length:Nat):Int) else (if (wI ((wI ((wI p7)-(wI y1.1)))+x10))<0 then 0 else (wI ((wI ((wI p7)-(wI y1.1)))+x10)))).toNat-(if ((v6.length:Nat):Int)<(if (wI ((wI p7)-(wI y1.1)))<0 then 0 else (wI ((wI p7)-(wI y1.1)))) then ((v6.length:Nat):Int) else (if (wI ((wI p7)-(wI y1.1)))<0 then 0 else (wI ((wI p7)-(wI y1.1))))).toNat) (0:Int)))++(v6.drop ((if ((v6.length:Nat):Int)<(if (wI ((wI p7)-(wI y1.1)))<0 then 0 else (wI ((wI p7)-(wI y1.1)))) then ((v6.length:Nat):Int) else (if (wI ((wI p7)-(wI y1.1)))<0 then 0 else (wI ((wI p7)-(wI y1.1))))).toNat+((if ((v6.length:Nat):Int)<(if (wI ((wI ((wI p7)-(wI y1.1)))+x10))<0 then 0 else (wI ((wI ((wI p7)-(wI y1.1)))+x10))) then ((v6.length:Nat):Int) else (if (wI ((wI ((wI p7)-(wI y1.1)))+x10))<0 then 0 else (wI ((wI ((wI p7)-(wI y1.1)))+x10)))).toNat-(if ((v6.length:Nat):Int)<(if (wI ((wI p7)-(wI y1.1)))<0 then 0 else (wI ((wI p7)-(wI y1.1)))) then ((v6.length:Nat):Int) else (if (wI ((wI p7)-(wI y1.1)))<0 then 0 else (wI ((wI p7)-(wI y1.1))))).toNat))))) λ j1 =>
   bif (y8.1.Kind != 0) then (bnd (Qb6 N y8.1) λ y9 =>
    j1 y9)
   else j1 1)
  else some v6
def QfF (N:Nat) (a0:Wn) (a1:Int):Option (Int×Bool):=bnd (Qd5 N a0.Conf a1 0) λ y1=>bnd (Qgd N a0.Words y1.1 a0.Conf.PageWords) λ y2=>bnd (Qge N a0 a1) λ y3=>bnd (Qfs N a0 y3) λ y4=>bnd (QdA N a0 y1 y4 N 0 y2.1) λ y11=>bnd (QaH N y11) λ y12=>some ((wU (y1.1+(wU (if y12<0 then 0 else y12)))),(decide (y12>=0)))
def QaQ (N:Nat) (a0:Wn):Nat->Int->Option (Ex Ul Unit)
 | 0,_=>none
 | n+1,v1 =>
  bif (decide (v1<((a0.Pages.length:Nat):Int))) then (bnd (Xb a0.Pages v1) λ p2 =>
   jn (λ (_:Unit) =>
    bnd (Qfs N a0 v1) λ y3 =>
    bif (y3.2 != 0) then some (.ret (Ul.mk 3 v1 0))
    else bnd (Qfc N a0 v1 y3.1) λ y4 =>
    bif y4.2 then some (.ret (Ul.mk 5 v1 y4.1))
    else bnd (QfF N a0 v1) λ y5 =>
    bif y5.2 then some (.ret (Ul.mk 4 v1 y5.1))
    else QaQ N a0 n (wI (v1+1))) λ j1 =>
   bif (p2.Kind != 0) then (bif (p2.Space != a0.Space) then some (.ret (Ul.mk 2 v1 0))
    else j1 ())
   else j1 ())
  else some (.nxt ())
def QfW (N:Nat) (a0:Wn):Option Ul:=bnd (QaQ N a0 N 0) λ e=>exK e (λ r=>some r) λ y6=>some (Ul.mk 0 0 0)
def Qfd (N:Nat) (a0:Wn):Nat->Int->(List UI)->Option (Ex (List UI×Int) (List UI))
 | 0,_,_=>none
 | n+1,v2,v3 =>
  bif (decide (v2<((a0.Pages.length:Nat):Int))) then (bnd (Qfb N a0 v2) λ y4 =>
   bif (y4.2 != 0) then some (.ret ([],y4.2))
   else grd ((v3.length+y4.1.length)*32<=140737488355328) <|
   Qfd N a0 n (wI (v2+1)) (v3++y4.1))
  else some (.nxt v3)
def QgQ (N:Nat) (a0:Wn):Option (List UI×Int):=bnd (Qb5 N a0) λ y1=>bif (!y1) then some ([],1) else bnd (Qfd N a0 N 0 []) λ e=>exK e (λ r=>some r) λ y5=>some (y5,0)
def Qd1 (N:Nat) (a0:UI):Option Bool:=some (a0.hd.Kind==0)
def Qaf (N:Nat) (a0:List UI):Nat->Int->Option (Ex Int Unit)
 | 0,_=>none
 | n+1,v1 =>
  bif (decide (v1<((a0.length:Nat):Int))) then (bnd (Xb a0 v1) λ p2 =>
   bnd (Qd1 N p2) λ y3 =>
   bif y3 then some (.ret v1)
   else Qaf N a0 n (wI (v1+1)))
  else some (.nxt ())
def Qag (N:Nat) (a0:List UI):Option Int:=bnd (Qaf N a0 N 0) λ e=>exK e (λ r=>some r) λ y4=>some (-1)
def Qcf (N:Nat):Nat->Int->Int->(List UI)->Option (Int×List UI)
 | 0,_,_,_=>none
 | n+1,v3,v4,v5 =>
  grd (v5.length<=140737488355328) <|
  bif (decide (v4<((v5.length:Nat):Int))) then (bnd (Xb v5 v4) λ p6 =>
   bnd (Qd1 N p6) λ y7 =>
   bif (!y7) then (bnd (Xb v5 v3) λ p8 =>
    Qcf N n (wI (v3+1)) (wI (v4+1)) (v5.set v3.toNat p6))
   else Qcf N n v3 (wI (v4+1)) v5)
  else some (v3,v5)
def Qd6 (N:Nat) (a0:Wn):Option (List Int×Int):=bnd (QgQ N a0) λ y1=>bif (y1.2 != 0) then some ([],y1.2) else bnd (Qag N y1.1) λ y2=>bif (y2==(-1)) then (bnd (Qb9 N y1.1) λ y11=>some (y11,0)) else bnd (Qcf N N y2 (wI (y2+1)) y1.1) λ y9=>grd (0<=y9.1/\y9.1<=((y9.2.length:Nat):Int)/\((y9.2.length:Nat):Int)<=((y9.2.length:Nat):Int)) <| grd (0<=y9.1/\y9.1<=(((((min y9.1.toNat y9.2.length)+(y9.2.length-y9.1.toNat))+(y9.2.length-(y9.1.toNat+(y9.2.length-y9.1.toNat)))):Nat):Int)) <| bnd (Qb9 N ((((y9.2.take y9.1.toNat)++(List.replicate (y9.2.length-y9.1.toNat) (UI.mk 0 (Wy.mk 0 0 0))))++(y9.2.drop (y9.1.toNat+(y9.2.length-y9.1.toNat)))).take y9.1.toNat)) λ y12=>some (y12,0)
def Qd7 (N:Nat) (a0:Int):Option Bool:=some (a0 != a0)
def Qfh (N:Nat) (a0:Int) (a1:Int):Option Bool:=bnd (Qd7 N a0) λ y1=>bif y1 then (bnd (Qd7 N a1) λ y2=>bif (!y2) then some true else some (decide (a0<a1))) else some (decide (a0<a1))
def Qc6 (N:Nat) (a0:Int):Option Bool:=some (a0 != a0)
def Qan (N:Nat) (a0:List Int) (a1:Int):Nat->Int->Int->Option Int
 | 0,_,_=>none
 | n+1,v1,v2 =>
  bif (decide (v1<v2)) then (bnd (Xb a0 (wI (X5 .u64 (wU (wI (v1+v2))) 1))) λ p3 =>
   bnd (Qfh N p3 a1) λ y4 =>
   bif y4 then Qan N a0 a1 n (wI ((wI (X5 .u64 (wU (wI (v1+v2))) 1))+1)) v2
   else Qan N a0 a1 n v1 (wI (X5 .u64 (wU (wI (v1+v2))) 1)))
  else some v1
def Qas (N:Nat) (a0:List Int) (a1:Int):Option (Int×Bool):=bnd (Qan N a0 a1 N 0 ((a0.length:Nat):Int)) λ y5=>bif (decide (y5<((a0.length:Nat):Int))) then (bnd (Xb a0 y5) λ p6=>bif (p6==a1) then some (y5,true) else bnd (Xb a0 y5) λ p7=>bnd (Qc6 N p7) λ y8=>bif y8 then (bnd (Qc6 N a1) λ y9=>some (y5,y9)) else some (y5,false)) else some (y5,false)
def QeF (N:Nat) (a0:Wy) (a1:Int):Option Bool:=bnd (QcT N a0) λ y1=>bif (!y1) then some false else bif (decide (a1<0)) then some false else bif (decide (a1>=a0.Length)) then some false else bif (a0.Kind==2) then some true else bif (a0.Kind==1) then (grd (0<=a1) <| some ((Yv .u32 (X5 .u32 a0.Map a1) 1)==1)) else some false
def QbQ (N:Nat) (a0:Wy) (y1:Int):Nat->Int->(List Int)->Option (List Int)
 | 0,_,_=>none
 | n+1,v2,v3 =>
  bif (decide (v2<y1)) then (bnd (QeF N a0 v2) λ y4 =>
   bif y4 then (grd ((v3.length+1)*8<=140737488355328) <|
    QbQ N a0 y1 n (wI (v2+1)) (v3++[v2]))
   else QbQ N a0 y1 n (wI (v2+1)) v3)
  else some v3
def Qeo (N:Nat) (a0:Wy):Option (List Int):=bnd (Qb6 N a0) λ y1=>bnd (QbQ N a0 y1 N 0 []) λ y5=>some y5
def QaF (N:Nat) (a0:Wn) (y1:List Int×Int) (v2:Int) (p3:Int) (y5:List Int):Nat->Int->Option (Ex Int Unit)
 | 0,_=>none
 | n+1,v6 =>
  bif (decide (v6<((y5.length:Nat):Int))) then (bnd (Xb y5 v6) λ p7 =>
   bnd (QfE N a0.Words (wU ((wU (p3+1))+(wU p7)))) λ y8 =>
   bnd (Qas N y1.1 y8.1) λ y9 =>
   bif (y8.1 != 0) then (bif (!y9.2) then some (.ret (wU ((wU (p3+1))+(wU p7))))
    else QaF N a0 y1 v2 p3 y5 n (wI (v6+1)))
   else QaF N a0 y1 v2 p3 y5 n (wI (v6+1)))
  else some (.nxt ())
def Qcd (N:Nat) (a0:Wn) (y1:List Int×Int):Nat->Int->Option Int
 | 0,_=>none
 | n+1,v2 =>
  bif (decide (v2<((y1.1.length:Nat):Int))) then (bnd (Xb y1.1 v2) λ p3 =>
   bnd (QeK N a0 p3) λ y4 =>
   bnd (Qeo N y4.1) λ y5 =>
   bnd (QaF N a0 y1 v2 p3 y5 N 0) λ e=>exK e (λ y10=>some y10) λ y11 =>
   Qcd N a0 y1 n (wI (v2+1)))
  else some 0
def QeG (N:Nat) (a0:Wn):Option Ul:=bnd (Qd6 N a0) λ y1=>bnd (Qcd N a0 y1 N 0) λ y12=>bif (y12==0) then some (Ul.mk 0 0 0) else bnd (QfD N a0.Conf y12) λ y13=>some (Ul.mk 6 y13.1 y12)
def Qcb (N:Nat) (a0:Wn):Nat->Int->Int->Option Int
 | 0,_,_=>none
 | n+1,v4,v5 =>
  bif (decide (v5<((a0.Pages.length:Nat):Int))) then (bnd (Xb a0.Pages v5) λ p6 =>
   bif (p6.Kind==1) then (bif (decide (p6.Pins>0)) then Qcb N a0 n (wI (v4+1)) (wI (v5+1))
    else Qcb N a0 n v4 (wI (v5+1)))
   else Qcb N a0 n v4 (wI (v5+1)))
  else some v4
def Qgw (N:Nat) (a0:Wn):Option Ul:=bnd (Qb5 N a0) λ y1=>bif (!y1) then some (Ul.mk 1 0 0) else bnd (QfW N a0) λ y2=>bif (!((y2.Fault==0)&&((y2.Page==0)&&(y2.Addr==0)))) then some y2 else bnd (QeG N a0) λ y3=>bif (!((y3.Fault==0)&&((y3.Page==0)&&(y3.Addr==0)))) then some y3 else bnd (Qcb N a0 N 0 0) λ y7=>bif (decide (y7>(wI (a0.Conf.Pages.tdiv 4)))) then some (Ul.mk 7 0 0) else some (Ul.mk 0 0 0)
def QfG (N:Nat) (a0:Wn):Option Bool:=bnd (Qgw N a0) λ y1=>some ((y1.Fault==0)&&((y1.Page==0)&&(y1.Addr==0)))
def Qey (N:Nat) (a0:UN) (a1:Int):Option Bool:=some (a0.Ref==a1)
def Qal (N:Nat) (a0:List UN) (c0:Int):Nat->Int->Option (Ex Int Unit)
 | 0,_=>none
 | n+1,v1 =>
  bif (decide (v1<((a0.length:Nat):Int))) then (bnd (Xb a0 v1) λ p2 =>
   bnd (Qey N p2 c0) λ y3 =>
   bif y3 then some (.ret v1)
   else Qal N a0 c0 n (wI (v1+1)))
  else some (.nxt ())
def QaU (N:Nat) (a0:List UN) (c0:Int):Option Int:=bnd (Qal N a0 c0 N 0) λ e=>exK e (λ r=>some r) λ y4=>some (-1)
def Qe4 (N:Nat) (a0:List UN) (a1:Int):Option Int:=bnd (QaU N a0 a1) λ y1=>some y1
def QbR (N:Nat) (a0:List UN) (a1:Wn) (y1:List Int×Int):Nat->Int->(List Int)->Option (Ex (List Int×Bool) (List Int))
 | 0,_,_=>none
 | n+1,v2,v3 =>
  bif (decide (v2<((a0.length:Nat):Int))) then (bnd (Xb a0 v2) λ p4 =>
   bnd (Qas N y1.1 p4.Ref) λ y5 =>
   bif (!y5.2) then some (.ret ([],false))
   else bif (decide (p4.Count<1)) then some (.ret ([],false))
   else bif (decide (p4.Count>1000)) then some (.ret ([],false))
   else bnd (Qe4 N a0 p4.Ref) λ y6 =>
   bif (y6 != v2) then some (.ret ([],false))
   else bnd (QfD N a1.Conf p4.Ref) λ y7 =>
   bnd (Xb v3 y7.1) λ p8 =>
   bnd (Xb v3 y7.1) λ p9 =>
   QbR N a0 a1 y1 n (wI (v2+1)) (v3.set y7.1.toNat (wI (p8+p4.Count))))
  else some (.nxt v3)
def Qfi (N:Nat) (a0:List UN) (a1:Wn):Option (List Int×Bool):=bnd (Qd6 N a1) λ y1=>grd (0<=((a1.Pages.length:Nat):Int)/\((a1.Pages.length:Nat):Int).toNat*8<=140737488355328) <| bnd (QbR N a0 a1 y1 N 0 (List.replicate ((a1.Pages.length:Nat):Int).toNat (0:Int))) λ e=>exK e (λ r=>some r) λ y10=>some (y10,true)
def Qd8 (N:Nat) (a0:Wn) (y2:List Int×Bool):Nat->Int->Option (Ex Bool Unit)
 | 0,_=>none
 | n+1,v3 =>
  bif (decide (v3<((a0.Pages.length:Nat):Int))) then (bnd (Xb a0.Pages v3) λ p4 =>
   bnd (Xb y2.1 v3) λ p5 =>
   bif (p4.Pins != p5) then some (.ret false)
   else Qd8 N a0 y2 n (wI (v3+1)))
  else some (.nxt ())
def QgA (N:Nat) (a0:Wn) (a1:List UN):Option Bool:=bnd (QfG N a0) λ y1=>bif (!y1) then some false else bif (decide (((a1.length:Nat):Int)>64)) then some false else bnd (Qfi N a1 a0) λ y2=>bif (!y2.2) then some false else bnd (Qd8 N a0 y2 N 0) λ e=>exK e (λ r=>some r) λ y6=>some true
def QaG (N:Nat) (a0:Iz):Nat->Int->Int->Option (Ex Bool Unit)
 | 0,_,_=>none
 | n+1,v1,v2 =>
  bif (decide (v2<((a0.Locals.Scopes.length:Nat):Int))) then (bnd (Xb a0.Locals.Scopes v2) λ p3 =>
   bif (v2==0) then (bif (p3.From != 0) then some (.ret false)
    else bif (!p3.Base) then some (.ret false)
    else bif (decide (p3.From<v1)) then some (.ret false)
    else bif (decide (p3.From>((a0.Locals.Slots.length:Nat):Int))) then some (.ret false)
    else bif (decide (p3.Cap<0)) then some (.ret false)
    else bif (decide (p3.Cap>64)) then some (.ret false)
    else QaG N a0 n p3.From (wI (v2+1)))
   else bif (decide (p3.From<v1)) then some (.ret false)
   else bif (decide (p3.From>((a0.Locals.Slots.length:Nat):Int))) then some (.ret false)
   else bif (decide (p3.Cap<0)) then some (.ret false)
   else bif (decide (p3.Cap>64)) then some (.ret false)
   else QaG N a0 n p3.From (wI (v2+1)))
  else some (.nxt ())
def Qc7 (N:Nat) (a0:Iz):Option Bool:=jn (λ (_:Unit)=>bnd (QaG N a0 N 0 0) λ e=>exK e (λ r=>some r) λ y4=>some true) λ j1=>bif (decide (((a0.Locals.Scopes.length:Nat):Int)>64)) then some false else bif (((a0.Locals.Scopes.length:Nat):Int)==0) then (bif (decide (((a0.Locals.Slots.length:Nat):Int)>0)) then some false else j1 ()) else j1 ()
def QaN (N:Nat) (a0:Iz):Nat->Int->Int->Option (Ex Bool Unit)
 | 0,_,_=>none
 | n+1,v1,v2 =>
  bif (decide (v2<((a0.Locals.Slots.length:Nat):Int))) then (bnd (Xb a0.Locals.Slots v2) λ p3 =>
   bif (decide (p3.Stamp<=v1)) then some (.ret false)
   else bif (decide (p3.Stamp>((a0.Locals.Issued.length:Nat):Int))) then some (.ret false)
   else bnd (Xb a0.Locals.Issued (wI (p3.Stamp-1))) λ p4 =>
   bif (p4 != v2) then some (.ret false)
   else bif (p3.Live==(p3.Ref==0)) then some (.ret false)
   else QaN N a0 n p3.Stamp (wI (v2+1)))
  else some (.nxt ())
def QcU (N:Nat) (a0:Iz):Option Bool:=bnd (QaN N a0 N 0 0) λ e=>exK e (λ r=>some r) λ y5=>some true
def Qdu (N:Nat) (a0:Iz) (a1:Int):Option (List UX):=bif (decide ((wI (a1+1))<((a0.Locals.Scopes.length:Nat):Int))) then (bnd (Xb a0.Locals.Scopes a1) λ p1=>bnd (Xb a0.Locals.Scopes (wI (a1+1))) λ p2=>grd (0<=p1.From/\p1.From<=p2.From/\p2.From<=((a0.Locals.Slots.length:Nat):Int)) <| some ((a0.Locals.Slots.drop p1.From.toNat).take (p2.From.toNat-p1.From.toNat))) else bnd (Xb a0.Locals.Scopes a1) λ p3=>grd (0<=p3.From/\p3.From<=((a0.Locals.Slots.length:Nat):Int)/\((a0.Locals.Slots.length:Nat):Int)<=((a0.Locals.Slots.length:Nat):Int)) <| some (a0.Locals.Slots.drop p3.From.toNat)
def Qbt (N:Nat) (y1:List UX):Nat->Int->Int->Option Int
 | 0,_,_=>none
 | n+1,v2,v3 =>
  bif (decide (v3<((y1.length:Nat):Int))) then (bnd (Xb y1 v3) λ p4 =>
   bif p4.Live then Qbt N y1 n (wI (v2+1)) (wI (v3+1))
   else Qbt N y1 n v2 (wI (v3+1)))
  else some v2
def QdF (N:Nat) (a0:Iz) (a1:Int):Option Int:=bnd (Qdu N a0 a1) λ y1=>bnd (Qbt N y1 N 0 0) λ y5=>some y5
def Qe5 (N:Nat) (a0:Int):Option Bool:=bif (decide (a0<0)) then some true else some (decide (a0>=4096))
def Qax (N:Nat) (a0:List Int):Nat->Int->Option (Ex Int Unit)
 | 0,_=>none
 | n+1,v1 =>
  bif (decide (v1<((a0.length:Nat):Int))) then (bnd (Xb a0 v1) λ p2 =>
   bnd (Qe5 N p2) λ y3 =>
   bif y3 then some (.ret v1)
   else Qax N a0 n (wI (v1+1)))
  else some (.nxt ())
def Qbx (N:Nat) (a0:List Int):Option Int:=bnd (Qax N a0 N 0) λ e=>exK e (λ r=>some r) λ y4=>some (-1)
def Qbd (N:Nat) (a0:List Int):Option Bool:=bnd (Qbx N a0) λ y1=>some (decide (y1>=0))
def Qdi (N:Nat) (a0:Ww):Nat->Int->Option (Ex Bool Unit)
 | 0,_=>none
 | n+1,v4 =>
  bif (decide (v4<((a0.Scopes.length:Nat):Int))) then (bnd (Xb a0.Scopes v4) λ p5 =>
   bnd (QdF N (Iz.mk a0) v4) λ y6 =>
   bif (decide (y6>p5.Cap)) then some (.ret false)
   else Qdi N a0 n (wI (v4+1)))
  else some (.nxt ())
def Qeu (N:Nat) (a0:Ww):Option Bool:=bif (decide (((a0.Issued.length:Nat):Int)>4096)) then some false else bnd (Qbd N a0.Issued) λ y1=>bif y1 then some false else bnd (Qc7 N (Iz.mk a0)) λ y2=>bif (!y2) then some false else bnd (QcU N (Iz.mk a0)) λ y3=>bif (!y3) then some false else bnd (Qdi N a0 N 0) λ e=>exK e (λ r=>some r) λ y7=>some true
def Qe6 (N:Nat) (a0:Ub):Option Bool:=bif (decide (a0.Gen<1)) then some true else bif (decide (a0.Gen>4294967295)) then some true else bif (!a0.Live) then some (a0.Ref != 0) else some false
def Qai (N:Nat) (a0:List Ub):Nat->Int->Option (Ex Int Unit)
 | 0,_=>none
 | n+1,v1 =>
  bif (decide (v1<((a0.length:Nat):Int))) then (bnd (Xb a0 v1) λ p2 =>
   bnd (Qe6 N p2) λ y3 =>
   bif y3 then some (.ret v1)
   else Qai N a0 n (wI (v1+1)))
  else some (.nxt ())
def QaI (N:Nat) (a0:List Ub):Option Int:=bnd (Qai N a0 N 0) λ e=>exK e (λ r=>some r) λ y4=>some (-1)
def Qaz (N:Nat) (a0:List Ub):Option Bool:=bnd (QaI N a0) λ y1=>some (decide (y1>=0))
def QdW (N:Nat) (a0:WI):Option Bool:=bif (decide (((a0.Entries.length:Nat):Int)<=64)) then (bnd (Qaz N a0.Entries) λ y1=>some (!y1)) else some false
def QaP (N:Nat) (a0:List Int) (a1:Int):Nat->Int->Option (Ex Int Unit)
 | 0,_=>none
 | n+1,v1 =>
  bif (decide (v1<((a0.length:Nat):Int))) then (bnd (Xb a0 v1) λ p2 =>
   bif (a1==p2) then some (.ret v1)
   else QaP N a0 a1 n (wI (v1+1)))
  else some (.nxt ())
def Qcv (N:Nat) (a0:List Int) (a1:Int):Option Int:=bnd (QaP N a0 a1 N 0) λ e=>exK e (λ r=>some r) λ y3=>some (-1)
def Qa9 (N:Nat) (a0:List Int) (a1:Int):Option Bool:=bnd (Qcv N a0 a1) λ y1=>some (decide (y1>=0))
def QdB (N:Nat) (a0:WI):Nat->Int->(List Int)->Option (List Int)
 | 0,_,_=>none
 | n+1,v2,v3 =>
  bif (decide (v2<((a0.Entries.length:Nat):Int))) then (bnd (Xb a0.Entries v2) λ p4 =>
   bif p4.Live then (grd ((v3.length+1)*8<=140737488355328) <|
    QdB N a0 n (wI (v2+1)) (v3++[p4.Ref]))
   else QdB N a0 n (wI (v2+1)) v3)
  else some v3
def QeU (N:Nat) (a0:WI):Option (List Int):=bnd (QdW N a0) λ y1=>bif (!y1) then some [] else bnd (QdB N a0 N 0 []) λ y5=>some y5
def Qd9 (N:Nat) (a0:Int) (a1:List Int):Option Bool:=bnd (Qas N a1 a0) λ y1=>bif (a0 != 0) then some (!y1.2) else some false
def Qao (N:Nat) (a0:List Int) (c0:List Int):Nat->Int->Option (Ex Int Unit)
 | 0,_=>none
 | n+1,v1 =>
  bif (decide (v1<((a0.length:Nat):Int))) then (bnd (Xb a0 v1) λ p2 =>
   bnd (Qd9 N p2 c0) λ y3 =>
   bif y3 then some (.ret v1)
   else Qao N a0 c0 n (wI (v1+1)))
  else some (.nxt ())
def QaV (N:Nat) (a0:List Int) (c0:List Int):Option Int:=bnd (Qao N a0 c0 N 0) λ e=>exK e (λ r=>some r) λ y4=>some (-1)
def QaO (N:Nat) (a0:List Int) (c0:List Int):Option Bool:=bnd (QaV N a0 c0) λ y1=>some (decide (y1>=0))
def Qft (N:Nat) (a0:Wn) (a1:List Int):Option Bool:=bnd (QfG N a0) λ y1=>bif (!y1) then some false else bnd (Qd6 N a0) λ y2=>bnd (QaO N a1 y2.1) λ y3=>some (!y3)
def Qba (N:Nat) (a1:Int):Option (List Int):=bif (decide (a1<0)) then none else bif (decide ((wI (a1-(wI 0)))>0)) then (grd (0=0/\0=0) <| grd (0<=(wI (a1-(wI 0)))/\(wI (a1-(wI 0))).toNat*8<=140737488355328) <| grd ((wI (a1-(wI 0))).toNat*8<=140737488355328) <| grd (0<=0/\0<=0/\0<=(((wI (a1-(wI 0))).toNat:Nat):Int)) <| some ((List.replicate (wI (a1-(wI 0))).toNat (0:Int)).take 0)) else some []
def QaJ (N:Nat) (a0:List (List Int)):Nat->Int->Int->Option Int
 | 0,_,_=>none
 | n+1,v1,v2 =>
  bif (decide (v2<((a0.length:Nat):Int))) then (bnd (Xb a0 v2) λ p3 =>
   bif (decide ((wI (v1+((p3.length:Nat):Int)))<0)) then none
   else QaJ N a0 n (wI (v1+((p3.length:Nat):Int))) (wI (v2+1)))
  else some v1
def QaK (N:Nat) (a0:List (List Int)):Nat->Int->(List Int)->Option (List Int)
 | 0,_,_=>none
 | n+1,v6,v7 =>
  bif (decide (v6<((a0.length:Nat):Int))) then (bnd (Xb a0 v6) λ p8 =>
   grd ((v7.length+p8.length)*8<=140737488355328) <|
   QaK N a0 n (wI (v6+1)) (v7++p8))
  else some v7
def Qbs (N:Nat) (a0:List (List Int)):Option (List Int):=bnd (QaJ N a0 N 0 0) λ y4=>bnd (Qba N y4) λ y5=>bnd (QaK N a0 N 0 y5) λ y9=>some y9
def QfH (N:Nat) (a0:List (List Int)):Option (List Int):=bnd (Qbs N a0) λ y1=>some y1
def QdC (N:Nat) (a0:Ww):Nat->Int->(List Int)->Option (List Int)
 | 0,_,_=>none
 | n+1,v2,v3 =>
  bif (decide (v2<((a0.Slots.length:Nat):Int))) then (bnd (Xb a0.Slots v2) λ p4 =>
   bif p4.Live then (grd ((v3.length+1)*8<=140737488355328) <|
    QdC N a0 n (wI (v2+1)) (v3++[p4.Ref]))
   else QdC N a0 n (wI (v2+1)) v3)
  else some v3
def Qgg (N:Nat) (a0:Ww):Option (List Int):=bnd (Qeu N a0) λ y1=>bif (!y1) then some [] else bnd (QdC N a0 N 0 []) λ y5=>some y5
def Qed (N:Nat) (a0:W6):Nat->Int->(List Int)->Option (List Int)
 | 0,_,_=>none
 | n+1,v1,v2 =>
  bif (decide (v1<((a0.Pins.length:Nat):Int))) then (bnd (Xb a0.Pins v1) λ p3 =>
   grd ((v2.length+1)*8<=140737488355328) <|
   Qed N a0 n (wI (v1+1)) (v2++[p3.Ref]))
  else some v2
def QgM (N:Nat) (a0:W6):Option (List Int):=bnd (Qed N a0 N 0 []) λ y4=>some y4
def Qgh (N:Nat) (a0:W6):Option (List Int):=bnd (Qgg N a0.Locals) λ y1=>bnd (QeU N a0.Globals) λ y2=>bnd (QgM N a0) λ y3=>bnd (QfH N [a0.Roots,y1,y2,y3]) λ y4=>some y4
def Qfu (N:Nat) (a0:W6):Option Bool:=bnd (QgA N a0.Heap a0.Pins) λ y1=>bif (!y1) then some false else bnd (Qeu N a0.Locals) λ y2=>bif (!y2) then some false else bnd (QdW N a0.Globals) λ y3=>bif (!y3) then some false else bnd (QdW N a0.Weaks) λ y4=>bif (!y4) then some false else bnd (QeU N a0.Globals) λ y5=>bnd (Qa9 N y5 0) λ y6=>bif y6 then some false else bnd (Qgh N a0) λ y7=>bnd (QeU N a0.Weaks) λ y8=>bnd (QfH N [y7,y8]) λ y9=>bnd (Qft N a0.Heap y9) λ y10=>some y10
def Qgi (N:Nat) (a0:U8):Option Bool:=bif (decide (a0.Tag<1)) then some false else bif (decide (a0.Tag>3)) then some false else bif (decide (a0.Index<0)) then some false else bif (decide (a0.Stamp<1)) then some false else bnd (Qbr N 16) λ y1=>bif (decide ((wU a0.Index)<=y1)) then (bnd (Qbr N 32) λ y2=>some (decide ((wU a0.Stamp)<=y2))) else some false
def Qe7 (N:Nat) (a0:Int):Option (U8×Int):=bif (a0==0) then some ((U8.mk 0 0 0),5) else bnd (QdV N a0 [2,16,32]) λ y1=>bif (y1.2 != 0) then some ((U8.mk 0 0 0),6) else bnd (Xb y1.1 0) λ p2=>bnd (Xb y1.1 1) λ p3=>bnd (Xb y1.1 2) λ p4=>bnd (Qgi N (U8.mk (wI p2) (wI p3) (wI p4))) λ y5=>bif (!y5) then some ((U8.mk 0 0 0),6) else some ((U8.mk (wI p2) (wI p3) (wI p4)),0)
def QgB (N:Nat) (a0:Ww) (a1:Int) (a2:Int):Option (Int×Int):=bnd (Qeu N a0) λ y1=>bif (!y1) then some (0,1) else bif (decide (a2<1)) then some (0,6) else bif (decide (a2>((a0.Issued.length:Nat):Int))) then some (0,6) else bnd (Xb a0.Issued (wI (a2-1))) λ p2=>bif (p2 != a1) then some (0,6) else bif (decide (a1>=((a0.Slots.length:Nat):Int))) then some (0,7) else bnd (Xb a0.Slots a1) λ p3=>bif (p3.Stamp != a2) then some (0,7) else bnd (Xb a0.Slots a1) λ p4=>bif (!p4.Live) then some (0,8) else bnd (Xb a0.Slots a1) λ p5=>some (p5.Ref,0)
def Qgx (N:Nat) (a0:WI) (a1:Int) (a2:Int):Option Int:=bnd (QdW N a0) λ y1=>bif (!y1) then some 1 else bif (decide (a1<0)) then some 6 else bif (decide (a1>=((a0.Entries.length:Nat):Int))) then some 6 else bif (decide (a2<1)) then some 6 else bnd (Xb a0.Entries a1) λ p2=>bif (decide (a2>p2.Gen)) then some 6 else bnd (Xb a0.Entries a1) λ p3=>bif (decide (a2<p3.Gen)) then some 8 else bnd (Xb a0.Entries a1) λ p4=>bif (!p4.Live) then some 8 else some 0
def Qf5 (N:Nat) (a0:WI) (a1:Int) (a2:Int):Option (Int×Int):=bnd (Qgx N a0 a1 a2) λ y1=>bif (y1 != 0) then some (0,y1) else bnd (Xb a0.Entries a1) λ p2=>some (p2.Ref,0)
def QfX (N:Nat) (a0:W6) (a1:Int):Option (Int×Int):=bnd (Qfu N a0) λ y1=>bif (!y1) then some (0,19) else bnd (Qe7 N a1) λ y2=>bif (y2.2==5) then some (0,0) else bif (y2.2 != 0) then some (0,y2.2) else bif (y2.1.Tag==1) then (bnd (QgB N a0.Locals y2.1.Index y2.1.Stamp) λ y3=>some (y3.1,y3.2)) else bif (y2.1.Tag==2) then (bnd (Qf5 N a0.Globals y2.1.Index y2.1.Stamp) λ y4=>some (y4.1,y4.2)) else bnd (Qf5 N a0.Weaks y2.1.Index y2.1.Stamp) λ y5=>some (y5.1,y5.2)
def QhH (N:Nat) (a0:Int):Option (List Int×Int):=bif (decide (a0<0)) then some ([],1) else bif (decide (a0>4096)) then some ([],1) else grd (0<=a0/\a0.toNat*8<=140737488355328) <| some ((List.replicate a0.toNat (0:Int)),0)
def Qid (N:Nat) (a0:WT):Option (Wn×Int):=bnd (Qa4 N a0) λ y1=>bif (!y1) then some (zHp,1) else bnd (QhH N (wI (a0.PageWords*a0.Pages))) λ y2=>bif (y2.2 != 0) then some (zHp,y2.2) else grd (0<=a0.Pages/\a0.Pages.toNat*32<=140737488355328) <| some ((Wn.mk a0 y2.1 (List.replicate a0.Pages.toNat (Wv.mk 0 0 0 0)) 0 (-1)),0)
def QjC (N:Nat) (a0:WT):Option (W6×Int):=bnd (Qid N a0) λ y1=>bif (y1.2 != 0) then some ((W6.mk zHp (Ww.mk [] [] []) (WI.mk []) (WI.mk []) [] []),y1.2) else some ((W6.mk y1.1 (Ww.mk [] [] []) (WI.mk []) (WI.mk []) [] []),0)
def Qak (N:Nat) (a0:List Wv):Option (List Wv):=some a0
def Qhf (N:Nat) (a0:Wn):Option Wn:=bnd (Qay N a0.Words) λ y1=>bnd (Qak N a0.Pages) λ y2=>some (Wn.mk a0.Conf y1 y2 a0.Space a0.Bump)
def QcV (N:Nat) (a0:List UX):Option (List UX):=some a0
def Qcx (N:Nat) (a0:List U1):Option (List U1):=some a0
def QeV (N:Nat) (a0:List Int):Option (List Int):=some a0
def QgG (N:Nat) (a0:Ww):Option Ww:=bnd (QcV N a0.Slots) λ y1=>bnd (Qcx N a0.Scopes) λ y2=>bnd (QeV N a0.Issued) λ y3=>some (Ww.mk y1 y2 y3)
def Qcy (N:Nat) (a0:List Ub):Option (List Ub):=some a0
def Qgj (N:Nat) (a0:WI):Option WI:=bnd (Qcy N a0.Entries) λ y1=>some (WI.mk y1)
def Qdj (N:Nat) (a0:List UN):Option (List UN):=some a0
def Qhp (N:Nat) (a0:W6):Option W6:=bnd (Qhf N a0.Heap) λ y1=>bnd (QgG N a0.Locals) λ y2=>bnd (Qgj N a0.Globals) λ y3=>bnd (Qgj N a0.Weaks) λ y4=>bnd (Qdj N a0.Pins) λ y5=>bnd (Qay N a0.Roots) λ y6=>some (W6.mk y1 y2 y3 y4 y5 y6)
def QfI (N:Nat) (a0:WT) (a1:Wy):Option Bool:=bnd (QcT N a1) λ y1=>bif y1 then (bif (a1.Kind != 0) then (bnd (Qb6 N a1) λ y2=>bnd (Qen N a0 y2) λ y3=>some (decide (y3>=0))) else some false) else some false
def Qc5 (N:Nat) (a0:List Wv):Nat->Int->Int->Option Int
 | 0,_,_=>none
 | n+1,v1,v2 =>
  bif (decide (v2<((a0.length:Nat):Int))) then (bnd (Xb a0 v2) λ p3 =>
   bif (p3.Kind != 0) then Qc5 N a0 n (wI (v1+1)) (wI (v2+1))
   else Qc5 N a0 n v1 (wI (v2+1)))
  else some v1
def QfJ (N:Nat) (a0:List Wv):Option Int:=bnd (Qc5 N a0 N 0 0) λ y4=>some y4
def Qf6 (N:Nat) (a0:List Wv) (a1:Int) (a2:List Wv):Option (List Wv×Int):=bif (decide (a1<0)) then some ([],2) else bif (decide (a1>(wI (((a0.length:Nat):Int)-((a2.length:Nat):Int))))) then some ([],2) else grd (0<=a1/\a1<=(wI (a1+((a2.length:Nat):Int)))/\(wI (a1+((a2.length:Nat):Int)))<=((a0.length:Nat):Int)) <| bnd (QfJ N ((a0.drop a1.toNat).take ((wI (a1+((a2.length:Nat):Int))).toNat-a1.toNat))) λ y1=>bif (decide (y1>0)) then some ([],20) else bnd (Qak N a0) λ y2=>grd (0<=a1/\a1<=((y2.length:Nat):Int)/\((y2.length:Nat):Int)<=((y2.length:Nat):Int)) <| grd (a2.length<=(y2.length-a1.toNat)) <| some ((((y2.take a1.toNat)++a2)++(y2.drop (a1.toNat+a2.length))),0)
def QfK (N:Nat) (a0:List Wv) (a1:Int) (a2:Int):Option (List Wv×Int):=bnd (QbF N (Wv.mk 1 a2 0 0)) λ y1=>bif (!y1) then some ([],1) else bnd (Qf6 N a0 a1 [(Wv.mk 1 a2 0 0)]) λ y2=>some (y2.1,y2.2)
def Qee (N:Nat) (a1:List Wv) (a2:Int) (a3:Int) (y1:Int):Nat->(List Wv)->Option (List Wv)
 | 0,_=>none
 | n+1,v3 =>
  grd (v3.length<=140737488355328) <|
  bif (decide (((v3.length:Nat):Int)<y1)) then (grd ((v3.length+1)*32<=140737488355328) <|
   Qee N a1 a2 a3 y1 n (v3++[(Wv.mk 3 a3 0 0)]))
  else some v3
def Qgk (N:Nat) (a0:WT) (a1:List Wv) (a2:Int) (a3:Int) (a4:Int):Option (List Wv×Int):=bnd (Qen N a0 a4) λ y1=>bif (decide (y1<1)) then some ([],1) else bnd (QbF N (Wv.mk 2 a3 a4 0)) λ y2=>bif (!y2) then some ([],1) else bnd (Qee N a1 a2 a3 y1 N [(Wv.mk 2 a3 a4 0)]) λ y4=>bnd (Qf6 N a1 a2 y4) λ y5=>some (y5.1,y5.2)
def QfL (N:Nat) (a0:WT):Option Int:=bnd (Qa4 N a0) λ y1=>bif (!y1) then some 0 else some (wI (a0.Pages.tdiv 4))
def QbS (N:Nat) (a0:List Wv):Nat->Int->(List Oh)->Option (List Oh)
 | 0,_,_=>none
 | n+1,v1,v2 =>
  bif (decide (v1<((a0.length:Nat):Int))) then (bnd (Xb a0 v1) λ p3 =>
   grd (v2.length<=140737488355328) <|
   bif (p3.Kind != 0) then QbS N a0 n (wI (v1+1)) v2
   else jn (λ (_:Unit) =>
    grd ((v2.length+1)*16<=140737488355328) <|
    QbS N a0 n (wI (v1+1)) (v2++[(Oh.mk v1 1)])) λ j1 =>
   bif (decide ((wI (((v2.length:Nat):Int)-1))>=0)) then (bnd (Xb v2 (wI (((v2.length:Nat):Int)-1))) λ p4 =>
    bnd (Xb v2 (wI (((v2.length:Nat):Int)-1))) λ p5 =>
    bif ((wI (p4.From+p5.Len))==v1) then (bnd (Xb v2 (wI (((v2.length:Nat):Int)-1))) λ p6 =>
     bnd (Xb v2 (wI (((v2.length:Nat):Int)-1))) λ p7 =>
     QbS N a0 n (wI (v1+1)) (v2.set (wI (((v2.length:Nat):Int)-1)).toNat (Oh.mk p7.From (wI (p6.Len+1)))))
    else j1 ())
   else j1 ())
  else some v2
def QgC (N:Nat) (a0:List Wv):Option (List Oh):=bnd (QbS N a0 N 0 []) λ y8=>some y8
def QdD (N:Nat) (a1:Int) (y1:List Oh):Nat->Int->Option (Ex Int Unit)
 | 0,_=>none
 | n+1,v2 =>
  bif (decide (v2<((y1.length:Nat):Int))) then (bnd (Xb y1 v2) λ p3 =>
   bif (decide (p3.Len>=a1)) then some (.ret p3.From)
   else QdD N a1 y1 n (wI (v2+1)))
  else some (.nxt ())
def QfM (N:Nat) (a0:List Wv) (a1:Int):Option Int:=bif (decide (a1<1)) then some (-1) else bnd (QgC N a0) λ y1=>bnd (QdD N a1 y1 N 0) λ e=>exK e (λ r=>some r) λ y4=>some (-1)
def Qcc (N:Nat) (a0:Wn) (a1:Int):Option (Wn×IL×Int):=bnd (QfJ N a0.Pages) λ y1=>bnd (QfL N a0.Conf) λ y2=>bnd (Qen N a0.Conf a1) λ y3=>bif (decide (y3>0)) then (bnd (QfM N a0.Pages y3) λ y4=>jn (λ (_:Unit)=>some (zHp,(IL.mk 0 0),3)) λ j1=>bif (decide (y4>=0)) then (bif (decide (y1<=(wI (y2-y3)))) then (bnd (Qgk N a0.Conf a0.Pages y4 a0.Space a1) λ y7=>some ((Wn.mk a0.Conf a0.Words y7.1 a0.Space a0.Bump),(IL.mk y4 0),y7.2)) else j1 ()) else j1 ()) else jn (λ (_:Unit)=>bnd (QfM N a0.Pages 1) λ y6=>jn (λ (_:Unit)=>some (zHp,(IL.mk 0 0),3)) λ j4=>bif (decide (y6>=0)) then (bif (decide (y1<y2)) then (bnd (QfK N a0.Pages y6 a0.Space) λ y11=>bif (y11.2 != 0) then some (zHp,(IL.mk 0 0),y11.2) else bnd (Xb y11.1 y6) λ p12=>some ((Wn.mk a0.Conf a0.Words (y11.1.set y6.toNat (Wv.mk p12.Kind p12.Space a1 p12.Pins)) a0.Space y6),(IL.mk y6 0),0)) else j4 ()) else j4 ()) λ j3=>bif (decide (a0.Bump>=0)) then (bif (decide (y1<=y2)) then (bnd (Xb a0.Pages a0.Bump) λ p5=>jn (λ (_:Unit)=>j3 ()) λ j2=>bif (p5.Space==a0.Space) then (bif (decide (a1<=(wI (a0.Conf.PageWords-p5.Used)))) then (bnd (Qak N a0.Pages) λ y8=>bnd (Xb y8 a0.Bump) λ p9=>bnd (Xb y8 a0.Bump) λ p10=>some ((Wn.mk a0.Conf a0.Words (y8.set a0.Bump.toNat (Wv.mk p10.Kind p10.Space (wI (p9.Used+a1)) p10.Pins)) a0.Space a0.Bump),(IL.mk a0.Bump p5.Used),0)) else j2 ()) else j2 ()) else j3 ()) else j3 ()
def Qep (N:Nat) (a0:Int) (a1:Int):Option Bool:=bnd (Qbr N a1) λ y1=>some ((XaV .u64 a0 y1)==0)
def Qcl (N:Nat) (a0:List Iq):Nat->Int->Int->Option (Ex (Int×Int) Unit)
 | 0,_,_=>none
 | n+1,v1,v2 =>
  bif (decide (v2<((a0.length:Nat):Int))) then (bnd (Xb a0 v2) λ p3 =>
   bif (decide (p3.Width<1)) then some (.ret (0,1))
   else bif (decide (p3.Width>v1)) then some (.ret (0,1))
   else Qcl N a0 n (wI (v1-p3.Width)) (wI (v2+1)))
  else some (.nxt ())
def Qcm (N:Nat) (a0:List Iq):Nat->Int->Int->Int->Option (Ex (Int×Int) Int)
 | 0,_,_,_=>none
 | n+1,v5,v6,v7 =>
  bif (decide (v7<((a0.length:Nat):Int))) then (bnd (Xb a0 v7) λ p8 =>
   bnd (Qep N p8.Value p8.Width) λ y9 =>
   bif (!y9) then some (.ret (0,2))
   else grd (0<=v6) <|
   Qcm N a0 n (bOr .u64 v5 (ZM .u64 p8.Value v6)) (wI (v6+p8.Width)) (wI (v7+1)))
  else some (.nxt v5)
def QgD (N:Nat) (a0:List Iq):Option (Int×Int):=bnd (Qcl N a0 N 64 0) λ e=>exK e (λ r=>some r) λ y4=>bnd (Qcm N a0 N 0 0 0) λ e=>exK e (λ r=>some r) λ y10=>some (y10,0)
def Qe8 (N:Nat) (a0:Wy):Option (Int×Int):=bnd (QcT N a0) λ y1=>bif (!y1) then some (0,1) else bnd (QgD N [(Iq.mk 2 1),(Iq.mk 2 (wU a0.Kind)),(Iq.mk 12 (wU a0.Length)),(Iq.mk 32 (wU a0.Map))]) λ y2=>some (y2.1,y2.2)
def QfY (N:Nat) (a0:List Int) (a1:Int) (a2:List Int):Option (List Int×Int):=bnd (Qet N a0 a1 ((a2.length:Nat):Int)) λ y1=>bif (!y1.2) then some ([],2) else bnd (Qay N a0) λ y2=>grd (0<=y1.1/\y1.1<=((y2.length:Nat):Int)/\((y2.length:Nat):Int)<=((y2.length:Nat):Int)) <| grd (a2.length<=(y2.length-y1.1.toNat)) <| some ((((y2.take y1.1.toNat)++a2)++(y2.drop (y1.1.toNat+a2.length))),0)
def QfN (N:Nat) (a0:Wn) (a1:List Int) (a2:Int):Option (Wn×Int):=bif (a2 != 0) then some (zHp,a2) else bnd (Qak N a0.Pages) λ y1=>some ((Wn.mk a0.Conf a1 y1 a0.Space a0.Bump),0)
def Qfe (N:Nat) (a0:Wn) (a1:Int) (a2:Wy):Option (Wn×Int):=bnd (Qe8 N a2) λ y1=>bif (y1.2 != 0) then some (zHp,1) else bnd (Qb5 N a0) λ y2=>bif (!y2) then some (zHp,1) else bnd (Qb6 N a2) λ y3=>grd (0<=y3/\y3.toNat*8<=140737488355328) <| bnd (Xb (List.replicate y3.toNat (0:Int)) 0) λ p4=>bnd (QfY N a0.Words a1 ((List.replicate y3.toNat (0:Int)).set 0 y1.1)) λ y5=>bnd (QfN N a0 y5.1 y5.2) λ y6=>some (y6.1,y6.2)
def QdX (N:Nat) (a0:Wn) (a1:Wy):Option (Wn×Int×Int):=bnd (Qb5 N a0) λ y1=>bif (!y1) then some (zHp,0,1) else bnd (QfI N a0.Conf a1) λ y2=>bif (!y2) then some (zHp,0,1) else bnd (Qb6 N a1) λ y3=>bnd (Qcc N a0 y3) λ y4=>bif (y4.2.2 != 0) then some (zHp,0,y4.2.2) else bnd (Qd5 N a0.Conf y4.2.1.page y4.2.1.offset) λ y5=>bif (y5.2 != 0) then some (zHp,0,y5.2) else bnd (Qfe N y4.1 y5.1 a1) λ y6=>bif (y6.2 != 0) then some (zHp,0,y6.2) else some (y6.1,y5.1,0)
def QhI (N:Nat) (a0:W6) (a1:Wy):Option (W6×Int×Int):=bnd (Qfu N a0) λ y1=>bif (!y1) then some ((W6.mk zHp (Ww.mk [] [] []) (WI.mk []) (WI.mk []) [] []),0,19) else bnd (QfI N a0.Heap.Conf a1) λ y2=>bif (!y2) then some ((W6.mk zHp (Ww.mk [] [] []) (WI.mk []) (WI.mk []) [] []),0,1) else bnd (Qhp N a0) λ y3=>bnd (QdX N a0.Heap a1) λ y4=>bif (y4.2.2==3) then none else bif (y4.2.2 != 0) then some ((W6.mk zHp (Ww.mk [] [] []) (WI.mk []) (WI.mk []) [] []),0,y4.2.2) else some ((W6.mk y4.1 y3.Locals y3.Globals y3.Weaks y3.Pins y3.Roots),y4.2.1,0)
def Qgy (N:Nat):Option Bool:=bnd (QjC N (WT.mk 16 8)) λ y1=>bnd (QhI N y1.1 (Wy.mk 3 3 0)) λ y2=>bif (y1.2==0) then (bif (y2.2.2==0) then (bif (y2.2.1==4096) then (bnd (Qfu N y2.1) λ y3=>some y3) else some false) else some false) else some false
def Qa6 (N:Nat) (a3:Int) (y1:Ig) (y2:List W6) (p4:W6) (v3:Int):Nat->Int->Option (Ex Bool Unit)
 | 0,_=>none
 | n+1,v5 =>
  bif (decide (v5<(((3+y1.Words.length):Nat):Int))) then (bnd (Xb ([a3,(a3.tmod 4194304),(wU ((a3.tmod 5)+262145))]++y1.Words) v5) λ p6 =>
   bnd (QfX N p4 p6) λ y7 =>
   bnd (QaD N p4 p6) λ y8 =>
   bif (y7.1 != y8.1) then some (.ret false)
   else bif (y7.2 != y8.2) then some (.ret false)
   else Qa6 N a3 y1 y2 p4 v3 n (wI (v5+1)))
  else some (.nxt ())
def Qa7 (N:Nat) (a3:Int) (y1:Ig) (y2:List W6):Nat->Int->Option (Ex Bool Unit)
 | 0,_=>none
 | n+1,v3 =>
  bif (decide (v3<((y2.length:Nat):Int))) then (bnd (Xb y2 v3) λ p4 =>
   grd ((3+y1.Words.length)<=140737488355328) <|
   bnd (Qa6 N a3 y1 y2 p4 v3 N 0) λ e=>exK e (λ r=>some (.ret r)) λ y9 =>
   Qa7 N a3 y1 y2 n (wI (v3+1)))
  else some (.nxt ())
def QdG (N:Nat) (a0:W6) (a1:List Int) (a2:List Int) (a3:Int):Option Bool:=bnd (Qf4 N a1 60) λ y1=>grd ((3+y1.Words.length)*8<=140737488355328) <| bnd (Qgc N a0 a1 a2) λ y2=>bnd (Qa7 N a3 y1 y2 N 0) λ e=>exK e (λ r=>some r) λ y10=>bnd (Qgy N ) λ y11=>some y11
end Go.Sx
