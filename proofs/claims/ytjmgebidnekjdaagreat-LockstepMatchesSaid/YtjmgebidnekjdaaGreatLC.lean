import Derived.Test.YtjmgebidnekjdaaGreatLA
set_option linter.all false
namespace Go.Sx
structure Um where
 PageWords:Int
 Pages:Int
structure WM where
 Kind:Int
 Space:Int
 Used:Int
 Pins:Int
structure Wv where
 Conf:Um
 Words:List Int
 Pages:List WM
 Space:Int
 Bump:Int
structure U1 where
 Stamp:Int
 Ref:Int
 Live:Bool
structure U6 where
 From:Int
 Cap:Int
 Base:Bool
structure WD where
 Slots:List U1
 Scopes:List U6
 Issued:List Int
structure Uj where
 Gen:Int
 Ref:Int
 Live:Bool
structure WT where
 Entries:List Uj
structure U4 where
 Ref:Int
 Count:Int
structure Ud where
 Heap:Wv
 Locals:WD
 Globals:WT
 Weaks:WT
 Pins:List U4
 Roots:List Int
structure WI where
 Kind:Int
 Length:Int
 Map:Int
structure UL where
 Header:WI
 Fields:List Int
structure U7 where
 Id:Int
 Count:Int
 Base:Int
structure Wy where
 Conf:Um
 Things:List UL
 Locals:WD
 Globals:WT
 Weaks:WT
 Marks:List U7
 Roots:List Int
structure ID where
 Env:Ud
 World:Wy
 Words:List Int
structure UV where
 L:List Int
 at_:Int
structure WE where
 Addr:Int
 Id:Int
structure Oo where
 Op:Int
 A:Int
 B:Int
 C:Int
structure IA where
 Heap:Wv
 Strong:List Int
 Weak:List Int
structure UC where
 Copied:Int
 Kept:Int
 Filled:Int
 Freed:Int
 Cleared:Int
 Steps:Int
structure Oq where
 Failed:Bool
 Collected:Bool
 Base:Int
structure Og where
 Locals:WD
structure Uk where
 Heap:Wv
 Old:List Int
 Taken:List Int
 Queue:List Int
 Scanned:Int
 Report:UC
structure IV where
 Tag:Int
 Index:Int
 Stamp:Int
structure Us where
 Fault:Int
 Page:Int
 Addr:Int
structure U0 where
 addr:Int
 hd:WI
structure Ox where
 From:Int
 Len:Int
@[simp] abbrev zWd:Wy:=Wy.mk (Um.mk 0 0) [] (WD.mk [] [] []) (WT.mk []) (WT.mk []) [] []
@[simp] abbrev zHp:Wv:=Wv.mk (Um.mk 0 0) [] [] 0 0
def QhD (N:Nat) (a0:Wv):Option Bool:=bif (decide (((a0.Words.length:Nat):Int)<=5000)) then some (decide (((a0.Pages.length:Nat):Int)<=100)) else some false
def QfL (N:Nat) (a0:Ud):Option Bool:=bnd (QhD N a0.Heap) λ y1=>bif y1 then (bif (decide (((a0.Locals.Slots.length:Nat):Int)<=200)) then (bif (decide (((a0.Locals.Scopes.length:Nat):Int)<=100)) then (bif (decide (((a0.Locals.Issued.length:Nat):Int)<=5000)) then (bif (decide (((a0.Globals.Entries.length:Nat):Int)<=200)) then (bif (decide (((a0.Weaks.Entries.length:Nat):Int)<=200)) then (bif (decide (((a0.Pins.length:Nat):Int)<=100)) then some (decide (((a0.Roots.length:Nat):Int)<=100)) else some false) else some false) else some false) else some false) else some false) else some false) else some false
def QcL (N:Nat) (a0:Wy):Nat->Int->Option (Ex Bool Unit)
 | 0,_=>none
 | n+1,v1 =>
  bif (decide (v1<((a0.Things.length:Nat):Int))) then (bnd (Xb a0.Things v1) λ p2 =>
   bif (decide (((p2.Fields.length:Nat):Int)>300)) then some (.ret false)
   else QcL N a0 n (wI (v1+1)))
  else some (.nxt ())
def QeT (N:Nat) (a0:Wy):Option Bool:=bnd (QcL N a0 N 0) λ e=>exK e (λ r=>some r) λ y3=>bif (decide (((a0.Things.length:Nat):Int)<=100)) then (bif (decide (((a0.Locals.Slots.length:Nat):Int)<=200)) then (bif (decide (((a0.Locals.Scopes.length:Nat):Int)<=100)) then (bif (decide (((a0.Locals.Issued.length:Nat):Int)<=5000)) then (bif (decide (((a0.Globals.Entries.length:Nat):Int)<=200)) then (bif (decide (((a0.Weaks.Entries.length:Nat):Int)<=200)) then (bif (decide (((a0.Marks.length:Nat):Int)<=100)) then some (decide (((a0.Roots.length:Nat):Int)<=100)) else some false) else some false) else some false) else some false) else some false) else some false) else some false
def Qaa (N:Nat) (a0:UV) (a1:Int):Option (Int×UV):=bif (decide (a1<1)) then some (0,a0) else jn (λ (x2:Int)=>grd (a1≠0) <| grd (a1≠0) <| some (((wI ((x2.tmod a1)+a1)).tmod a1),(UV.mk a0.L (wI (a0.at_+1))))) λ j1=>bif (decide (a0.at_<((a0.L.length:Nat):Int))) then (bnd (Xb a0.L a0.at_) λ p1=>j1 p1) else j1 (wI ((wI (a0.at_*7))+3))
def Qdq (N:Nat) (a0:UV):Option (Um×UV):=bnd (Qaa N a0 4) λ y1=>bnd (Xb [16,16,20,32] y1.1) λ p2=>bnd (Qaa N y1.2 5) λ y3=>bnd (Xb [8,12,16,20,24] y3.1) λ p4=>some ((Um.mk p2 p4),y3.2)
def Qax (N:Nat) (a0:Um):Option Bool:=bif (decide (a0.PageWords>=16)) then (bif (decide (a0.PageWords<=64)) then (bif ((a0.PageWords.tmod 4)==0) then (bif (decide (a0.Pages>=8)) then some (decide (a0.Pages<=64)) else some false) else some false) else some false) else some false
def Qgf (N:Nat) (a0:Um):Option (Wv×Int):=bnd (Qax N a0) λ y1=>bif (!y1) then some (zHp,1) else grd (0<=(wI (a0.Pages*a0.PageWords))/\(wI (a0.Pages*a0.PageWords)).toNat*8<=140737488355328) <| grd (0<=a0.Pages/\a0.Pages.toNat*32<=140737488355328) <| some ((Wv.mk a0 (List.replicate (wI (a0.Pages*a0.PageWords)).toNat (0:Int)) (List.replicate a0.Pages.toNat (WM.mk 0 0 0 0)) 0 (-1)),0)
def QeU (N:Nat) (a0:Um):Option (Ud×Int):=bnd (Qgf N a0) λ y1=>some ((Ud.mk y1.1 (WD.mk [] [] []) (WT.mk []) (WT.mk []) [] []),y1.2)
def Qgg (N:Nat) (a0:Um):Option (Wy×Int):=bnd (Qax N a0) λ y1=>bif (!y1) then some (zWd,1) else some ((Wy.mk a0 [] (WD.mk [] [] []) (WT.mk []) (WT.mk []) [] []),0)
def QbF (N:Nat) (a0:UV):Option (ID×UV):=bnd (Qdq N a0) λ y1=>bnd (QeU N y1.1) λ y2=>bnd (Qgg N y1.1) λ y3=>bnd (Qaa N y1.2 40) λ y4=>some ((ID.mk (Ud.mk y2.1.Heap (WD.mk y2.1.Locals.Slots [(U6.mk 0 (wI (4+y4.1)) true)] y2.1.Locals.Issued) y2.1.Globals y2.1.Weaks y2.1.Pins y2.1.Roots) (Wy.mk y3.1.Conf y3.1.Things (WD.mk y3.1.Locals.Slots [(U6.mk 0 (wI (4+y4.1)) true)] y3.1.Locals.Issued) y3.1.Globals y3.1.Weaks y3.1.Marks y3.1.Roots) [0]),y4.2)
def Qgs (N:Nat) (a0:UV):Option Bool:=some (decide (a0.at_>=((a0.L.length:Nat):Int)))
def Qfl (N:Nat) (a0:List Int) (a1:Int):Nat->Int->Option (Ex Bool Unit)
 | 0,_=>none
 | n+1,v1 =>
  bif (decide (v1<((a0.length:Nat):Int))) then (bnd (Xb a0 v1) λ p2 =>
   bif (p2==a1) then some (.ret true)
   else Qfl N a0 a1 n (wI (v1+1)))
  else some (.nxt ())
def QcM (N:Nat) (a0:List Int) (a1:Int):Option Bool:=bnd (Qfl N a0 a1 N 0) λ e=>exK e (λ r=>some r) λ y3=>some false
def Qg5 (N:Nat) (a0:Int):Option Bool:=bif (decide (a0>=0)) then some (decide (a0<=2147483647)) else some false
def Qb1 (N:Nat) (a0:Um):Option Int:=bnd (Qax N a0) λ y1=>bif (!y1) then some 0 else some (wI (a0.PageWords.tdiv 4))
def QcA (N:Nat) (a0:Um) (a1:Int):Nat->Int->Option (Ex Int Unit)
 | 0,_=>none
 | n+1,v3 =>
  bif (decide (v3<=4)) then (bif (decide ((wI (v3*a0.PageWords))>=a1)) then some (.ret v3)
   else QcA N a0 a1 n (wI (v3+1)))
  else some (.nxt ())
def QeV (N:Nat) (a0:Um) (a1:Int):Option Int:=bnd (Qax N a0) λ y1=>bif (!y1) then some (-1) else bif (decide (a1<1)) then some (-1) else bnd (Qb1 N a0) λ y2=>bif (decide (a1<=y2)) then some 0 else bnd (QcA N a0 a1 N 1) λ e=>exK e (λ r=>some r) λ y4=>some (-1)
def QcN (N:Nat) (a0:List WM) (a2:Int):Nat->Int->Int->Option Int
 | 0,_,_=>none
 | n+1,v1,v2 =>
  bif (decide (v2<((a0.length:Nat):Int))) then (bnd (Xb a0 v2) λ p3 =>
   bif (p3.Kind==3) then (bnd (Xb a0 v2) λ p4 =>
    bif (p4.Space==a2) then QcN N a0 a2 n (wI (v1+1)) (wI (v2+1))
    else some v1)
   else some v1)
  else some v1
def Qe7 (N:Nat) (a0:List WM) (a1:Int) (a2:Int):Option Int:=bnd (QcN N a0 a2 N 0 (wI (a1+1))) λ y5=>some y5
def Qau (N:Nat) (a0:Wv):Nat->Int->Int->Option (Ex Bool Unit)
 | 0,_,_=>none
 | n+1,v3,v4 =>
  bif (decide (v4<((a0.Pages.length:Nat):Int))) then (bnd (Xb a0.Pages v4) λ p5 =>
   bif (!((p5.Kind==3)==(decide (v3>0)))) then some (.ret false)
   else bif (decide (p5.Space<0)) then some (.ret false)
   else bif (decide (p5.Space>1)) then some (.ret false)
   else bnd (Qg5 N p5.Pins) λ y6 =>
   bif (!y6) then some (.ret false)
   else jn (λ (x11:Int) =>
    Qau N a0 n (if 0<(wI (x11-1)) then (wI (x11-1)) else 0) (wI (v4+1))) λ j4 =>
   bif (p5.Kind==0) then (bif (!((p5.Kind==0)&&((p5.Space==0)&&((p5.Used==0)&&(p5.Pins==0))))) then some (.ret false)
    else j4 v3)
   else jn (λ (x10:Int) =>
    j4 x10) λ j3 =>
   bif (p5.Kind==1) then (bif (decide (p5.Used<0)) then some (.ret false)
    else bif (decide (p5.Used>a0.Conf.PageWords)) then some (.ret false)
    else j3 v3)
   else jn (λ (x9:Int) =>
    j3 x9) λ j2 =>
   bif (p5.Kind==2) then (bnd (QeV N a0.Conf p5.Used) λ y7 =>
    bif (decide (y7<1)) then some (.ret false)
    else bnd (Qe7 N a0.Pages v4 p5.Space) λ y8 =>
    bif (decide (y8<(wI (y7-1)))) then some (.ret false)
    else j2 y7)
   else bif (p5.Kind==3) then (bif (p5.Used != 0) then some (.ret false)
    else bif (p5.Pins != 0) then some (.ret false)
    else j2 v3)
   else some (.ret false))
  else some (.nxt ())
def Qab (N:Nat) (a0:Wv):Option Bool:=bnd (Qax N a0.Conf) λ y1=>bif (!y1) then some false else bif (((a0.Words.length:Nat):Int) != (wI (a0.Conf.Pages*a0.Conf.PageWords))) then some false else bif (((a0.Pages.length:Nat):Int) != a0.Conf.Pages) then some false else bif (decide (a0.Space<0)) then some false else bif (decide (a0.Space>1)) then some false else jn (λ (_:Unit)=>bnd (Qau N a0 N 0 0) λ e=>exK e (λ r=>some r) λ y12=>some true) λ j1=>bif (a0.Bump != (-1)) then (bif (decide (a0.Bump<0)) then some false else bif (decide (a0.Bump>=((a0.Pages.length:Nat):Int))) then some false else bnd (Xb a0.Pages a0.Bump) λ p2=>bif (p2.Kind != 1) then some false else j1 ()) else j1 ()
def Qdr (N:Nat) (a0:Um) (a1:Int):Option (Int×Int×Int):=bnd (Qax N a0) λ y1=>bif (!y1) then some (0,0,1) else bif (decide (a1<4096)) then some (0,0,2) else bif (decide (a1>=(wU (wI (4096+(wI (a0.Pages*a0.PageWords))))))) then some (0,0,2) else grd (a0.PageWords≠0) <| grd (a0.PageWords≠0) <| some ((wI ((wI (wU (a1-4096))).tdiv a0.PageWords)),((wI (wU (a1-4096))).tmod a0.PageWords),0)
def QdH (N:Nat) (a0:List Int) (a1:Int) (a2:Int):Option (Int×Bool):=bif (decide (a1<4096)) then some (0,false) else bif (decide (a1>(wU (4096+(wU ((a0.length:Nat):Int)))))) then some (0,false) else some ((wI (wU (a1-4096))),(decide (a2<=(wI (((a0.length:Nat):Int)-(wI (wU (a1-4096))))))))
def QfY (N:Nat) (a0:List Int) (a1:Int):Option (Int×Int):=bnd (QdH N a0 a1 1) λ y1=>bif (!y1.2) then some (0,2) else some (y1.1,0)
def Qbm (N:Nat) (a0:List Int) (a1:Int):Option (Int×Int):=bnd (QfY N a0 a1) λ y1=>bif (y1.2 != 0) then some (0,y1.2) else bnd (Xb a0 y1.1) λ p2=>some (p2,0)
def QcU (N:Nat) (a0:WI):Option Bool:=bif (decide (a0.Kind<0)) then some false else bif (decide (a0.Kind>3)) then some false else bif (decide (a0.Length<0)) then some false else bif (decide (a0.Length>255)) then some false else bif (a0.Kind != 1) then some (a0.Map==0) else bif (decide (a0.Length<=32)) then (grd (0<=(wU a0.Length)) <| some (decide ((wU a0.Map)<(K4 .u64 1 (wU a0.Length))))) else some false
def Qc1 (N:Nat) (a0:WI):Option (Int×Int):=bnd (QcU N a0) λ y1=>bif (!y1) then some (0,1) else some ((wU ((wU ((wU (1+(wU (4*(wU a0.Kind)))))+(wU (16*(wU a0.Length)))))+(K4 .u64 (wU a0.Map) 16))),0)
def Qb2 (N:Nat) (a0:Int):Option (WI×Bool):=bnd (Qc1 N (WI.mk (wI (YF .u64 (Yf .u64 a0 2) 3)) (wI (YF .u64 (Yf .u64 a0 4) 4095)) (wW (Yf .u64 a0 16)))) λ y1=>bif (y1.2 != 0) then some ((WI.mk 0 0 0),false) else bif (y1.1 != a0) then some ((WI.mk 0 0 0),false) else some ((WI.mk (wI (YF .u64 (Yf .u64 a0 2) 3)) (wI (YF .u64 (Yf .u64 a0 4) 4095)) (wW (Yf .u64 a0 16))),true)
def QcB (N:Nat) (a0:WI):Option Int:=bnd (QcU N a0) λ y1=>bif (!y1) then some 0 else some (wI (a0.Length+1))
def Qav (N:Nat) (a0:Wv) (a1:Int):Option (WI×Int):=bnd (Qab N a0) λ y1=>bif (!y1) then some ((WI.mk 0 0 0),1) else bnd (Qdr N a0.Conf a1) λ y2=>bif (y2.2.2 != 0) then some ((WI.mk 0 0 0),2) else bnd (Xb a0.Pages y2.1) λ p3=>bnd (Qbm N a0.Words a1) λ y4=>bnd (Qb2 N y4.1) λ y5=>jn (λ (_:Unit)=>bnd (QcB N y5.1) λ y6=>bif (p3.Kind==1) then (bif (decide ((wI (y2.2.1+y6))>p3.Used)) then some ((WI.mk 0 0 0),19) else bif (p3.Kind==2) then (bif (y2.2.1 != 0) then some ((WI.mk 0 0 0),19) else bif (y6 != p3.Used) then some ((WI.mk 0 0 0),19) else some (y5.1,0)) else some (y5.1,0)) else bif (p3.Kind==2) then (bif (y2.2.1 != 0) then some ((WI.mk 0 0 0),19) else bif (y6 != p3.Used) then some ((WI.mk 0 0 0),19) else some (y5.1,0)) else some (y5.1,0)) λ j1=>bif (p3.Kind != 1) then (bif (p3.Kind != 2) then some ((WI.mk 0 0 0),19) else bif (decide (y2.2.1>=p3.Used)) then some ((WI.mk 0 0 0),19) else bif (!y5.2) then some ((WI.mk 0 0 0),19) else j1 ()) else bif (decide (y2.2.1>=p3.Used)) then some ((WI.mk 0 0 0),19) else bif (!y5.2) then some ((WI.mk 0 0 0),19) else j1 ()
def Qca (N:Nat) (a0:Um) (a1:Int) (a2:Int):Option (Int×Int):=bnd (Qax N a0) λ y1=>bif (!y1) then some (0,1) else bif (decide (a1<0)) then some (0,2) else bif (decide (a1>=a0.Pages)) then some (0,2) else bif (decide (a2<0)) then some (0,2) else bif (decide (a2>=a0.PageWords)) then some (0,2) else some ((wU (wI ((wI (4096+(wI (a1*a0.PageWords))))+a2))),0)
def Qbe (N:Nat) (a0:Wv) (a1:Int) (p2:WM):Nat->Int->(List Int)->Option (Ex (List Int×Int) (List Int))
 | 0,_,_=>none
 | n+1,v3,v4 =>
  bif (decide (v3<p2.Used)) then (bnd (Qca N a0.Conf a1 v3) λ y5 =>
   bnd (Qav N a0 y5.1) λ y6 =>
   bif (y6.2 != 0) then some (.ret ([],19))
   else grd ((v4.length+1)*8<=140737488355328) <|
   bif (p2.Kind==2) then some (.nxt (v4++[y5.1]))
   else bnd (QcB N y6.1) λ y7 =>
   Qbe N a0 a1 p2 n (wI (v3+y7)) (v4++[y5.1]))
  else some (.nxt v4)
def Qay (N:Nat) (a0:Wv) (a1:Int):Option (List Int×Int):=bnd (Qab N a0) λ y1=>bif (!y1) then some ([],1) else bif (decide (a1<0)) then some ([],2) else bif (decide (a1>=((a0.Pages.length:Nat):Int))) then some ([],2) else bnd (Xb a0.Pages a1) λ p2=>bif (p2.Kind==0) then some ([],0) else bif (p2.Kind==3) then some ([],0) else bnd (Qbe N a0 a1 p2 N 0 []) λ e=>exK e (λ r=>some r) λ y8=>some (y8,0)
def Qbf (N:Nat) (a0:Wv) (a1:Int) (a2:List Int):Nat->Int->Option (Ex Int Unit)
 | 0,_=>none
 | n+1,v1 =>
  bif (decide (v1<((a2.length:Nat):Int))) then (bnd (Xb a2 v1) λ p2 =>
   bnd (Qav N a0 p2) λ y3 =>
   bnd (QcB N y3.1) λ y4 =>
   bnd (Qb1 N a0.Conf) λ y5 =>
   bnd (Xb a0.Pages a1) λ p6 =>
   bif (p6.Kind==1) then (bif (!(decide (y4<=y5))) then (bnd (Xb a2 v1) λ p9 =>
       some (.ret p9))
    else bnd (Xb a0.Pages a1) λ p7 =>
    bif (p7.Kind==2) then (bif (y3.1.Kind==0) then (bnd (Xb a2 v1) λ p10 =>
        some (.ret p10))
     else Qbf N a0 a1 a2 n (wI (v1+1)))
    else Qbf N a0 a1 a2 n (wI (v1+1)))
   else bnd (Xb a0.Pages a1) λ p8 =>
   bif (p8.Kind==2) then (bif (y3.1.Kind==0) then (bnd (Xb a2 v1) λ p11 =>
       some (.ret p11))
    else Qbf N a0 a1 a2 n (wI (v1+1)))
   else Qbf N a0 a1 a2 n (wI (v1+1)))
  else some (.nxt ())
def Qeo (N:Nat) (a0:Wv) (a1:Int) (a2:List Int):Option Int:=bnd (Qbf N a0 a1 a2 N 0) λ e=>exK e (λ r=>some r) λ y12=>some 0
def Qdh (N:Nat) (a0:Wv):Nat->Int->Option Int
 | 0,_=>none
 | n+1,v1 =>
  bnd (Xb a0.Pages v1) λ p2 =>
  bif (p2.Kind==3) then Qdh N a0 n (wI (v1-1))
  else some v1
def QeW (N:Nat) (a0:Wv) (a1:Int):Option Int:=bnd (Qdh N a0 N a1) λ y3=>some y3
def Qbv (N:Nat) (a0:Wv) (a1:Int) (a2:List Int) (v1:Int) (x6:Int):Nat->Int->(List Bool)->Option (List Bool)
 | 0,_,_=>none
 | n+1,v7,v8 =>
  bif (decide (v7<x6)) then (bnd (Xb a2 v1) λ p9 =>
   bif (decide ((wI ((wI ((wI ((wI p9)-4096))+v7))-(wI (a1*a0.Conf.PageWords))))>=0)) then (grd (v8.length<=140737488355328) <|
    bif (decide ((wI ((wI ((wI ((wI p9)-4096))+v7))-(wI (a1*a0.Conf.PageWords))))<((v8.length:Nat):Int))) then (bnd (Xb v8 (wI ((wI ((wI ((wI p9)-4096))+v7))-(wI (a1*a0.Conf.PageWords))))) λ p10 =>
     Qbv N a0 a1 a2 v1 x6 n (wI (v7+1)) (v8.set (wI ((wI ((wI ((wI p9)-4096))+v7))-(wI (a1*a0.Conf.PageWords)))).toNat true))
    else Qbv N a0 a1 a2 v1 x6 n (wI (v7+1)) v8)
   else Qbv N a0 a1 a2 v1 x6 n (wI (v7+1)) v8)
  else some v8
def QcC (N:Nat) (a0:Wv) (a1:Int) (a2:List Int):Nat->Int->(List Bool)->Option (List Bool)
 | 0,_,_=>none
 | n+1,v1,v2 =>
  bif (decide (v1<((a2.length:Nat):Int))) then (bnd (Xb a2 v1) λ p3 =>
   bnd (Qav N a0 p3) λ y4 =>
   bnd (QcB N y4.1) λ y5 =>
   jn (λ (x6:Int) =>
    bnd (Qbv N a0 a1 a2 v1 x6 N 0 v2) λ y11 =>
    QcC N a0 a1 a2 n (wI (v1+1)) y11) λ j1 =>
   bif (y4.1.Kind==0) then j1 1
   else j1 y5)
  else some v2
def Qgt (N:Nat) (a0:Wv) (a1:Int) (a2:List Int):Option (List Bool):=grd (0<=a0.Conf.PageWords/\a0.Conf.PageWords.toNat<=140737488355328) <| bnd (QcC N a0 a1 a2 N 0 (List.replicate a0.Conf.PageWords.toNat false)) λ y12=>some y12
def Qg6 (N:Nat) (a0:Wv) (a1:Int) (a2:Int):Option Int:=bnd (Qca N a0.Conf a1 a2) λ y1=>bnd (Qbm N a0.Words y1.1) λ y2=>some y2.1
def Qfz (N:Nat) (a0:Wv) (a1:Int) (a2:Int):Option Int:=bnd (Qg6 N a0 a1 a2) λ y1=>some y1
def QfM (N:Nat) (a0:Wv) (a1:Int) (a2:Int):Option Int:=some (wU (wI ((wI (4096+(wI (a1*a0.Conf.PageWords))))+a2)))
def Qcb (N:Nat) (a0:Wv) (a1:Int) (y3:List Bool):Nat->Int->Option (Ex Int Unit)
 | 0,_=>none
 | n+1,v4 =>
  bif (decide (v4<((y3.length:Nat):Int))) then (bnd (Xb y3 v4) λ p5 =>
   bif (!p5) then (bnd (Qfz N a0 a1 v4) λ y6 =>
    bif (y6 != 0) then (bnd (QfM N a0 a1 v4) λ y7 =>
     some (.ret y7))
    else Qcb N a0 a1 y3 n (wI (v4+1)))
   else Qcb N a0 a1 y3 n (wI (v4+1)))
  else some (.nxt ())
def QeX (N:Nat) (a0:Wv) (a1:Int):Option Int:=bnd (QeW N a0 a1) λ y1=>bnd (Qay N a0 y1) λ y2=>bnd (Qgt N a0 a1 y2.1) λ y3=>bnd (Qcb N a0 a1 y3 N 0) λ e=>exK e (λ r=>some r) λ y8=>some 0
def QeY (N:Nat) (a0:Wv) (a1:Int):Option Us:=jn (λ (_:Unit)=>bnd (Qay N a0 a1) λ y3=>bif (y3.2 != 0) then some (Us.mk 3 a1 0) else bnd (Qeo N a0 a1 y3.1) λ y4=>bif (y4 != 0) then some (Us.mk 5 a1 y4) else bnd (QeX N a0 a1) λ y5=>bif (y5 != 0) then some (Us.mk 4 a1 y5) else some (Us.mk 0 0 0)) λ j1=>bnd (Xb a0.Pages a1) λ p1=>bif (p1.Kind != 0) then (bnd (Xb a0.Pages a1) λ p2=>bif (p2.Space != a0.Space) then some (Us.mk 2 a1 0) else j1 ()) else j1 ()
def Qbn (N:Nat) (a0:Wv) (a1:Int):Option (WI×Int):=bnd (Qab N a0) λ y1=>bif (!y1) then some ((WI.mk 0 0 0),1) else bif (a1==0) then some ((WI.mk 0 0 0),5) else bnd (Qav N a0 a1) λ y2=>bif (y2.2==0) then (bif (y2.1.Kind==0) then some ((WI.mk 0 0 0),4) else some (y2.1,y2.2)) else some (y2.1,y2.2)
def Qc2 (N:Nat) (a0:List Int) (a1:Int) (a2:Int):Option (List Int×Int):=bif (decide (a2<0)) then some ([],1) else bnd (QdH N a0 a1 a2) λ y1=>bif (!y1.2) then some ([],2) else grd (0<=y1.1/\y1.1<=(wI (y1.1+a2))/\(wI (y1.1+a2))<=((a0.length:Nat):Int)) <| grd ((min ((wI (y1.1+a2)).toNat-y1.1.toNat) (a0.length-y1.1.toNat))*8<=140737488355328) <| some (((a0.drop y1.1.toNat).take ((wI (y1.1+a2)).toNat-y1.1.toNat)),0)
def Qcv (N:Nat) (a0:Wv) (a1:Int):Option (List Int×Int):=bnd (Qbn N a0 a1) λ y1=>bif (y1.2 != 0) then some ([],y1.2) else bnd (Qc2 N a0.Words (wU (a1+1)) y1.1.Length) λ y2=>some (y2.1,y2.2)
def QbN (N:Nat) (a0:WI) (a1:Int):Option Bool:=bnd (QcU N a0) λ y1=>bif (!y1) then some false else bif (decide (a1<0)) then some false else bif (decide (a1>=a0.Length)) then some false else bif (a0.Kind==2) then some true else bif (a0.Kind==1) then (grd (0<=(wU a1)) <| some ((YF .u32 (Yf .u32 a0.Map (wU a1)) 1)==1)) else some false
def Qa2 (N:Nat) (a0:Wv):Nat->Int->(List Int)->Option (Ex (List Int×Int) (List Int))
 | 0,_,_=>none
 | n+1,v2,v3 =>
  bif (decide (v2<((a0.Pages.length:Nat):Int))) then (bnd (Qay N a0 v2) λ y4 =>
   bif (y4.2 != 0) then some (.ret ([],y4.2))
   else grd ((v3.length+y4.1.length)*8<=140737488355328) <|
   Qa2 N a0 n (wI (v2+1)) (v3++y4.1))
  else some (.nxt v3)
def Qc3 (N:Nat) (a0:Wv):Option (List Int×Int):=bnd (Qab N a0) λ y1=>bif (!y1) then some ([],1) else bnd (Qa2 N a0 N 0 []) λ e=>exK e (λ r=>some r) λ y5=>some (y5,0)
def QaC (N:Nat) (a0:Wv) (y1:List Int×Int):Nat->Int->(List Int)->Option (List Int)
 | 0,_,_=>none
 | n+1,v2,v3 =>
  bif (decide (v2<((y1.1.length:Nat):Int))) then (bnd (Xb y1.1 v2) λ p4 =>
   bnd (Qav N a0 p4) λ y5 =>
   bif (y5.1.Kind != 0) then (bnd (Xb y1.1 v2) λ p6 =>
    grd ((v3.length+1)*8<=140737488355328) <|
    QaC N a0 y1 n (wI (v2+1)) (v3++[p6]))
   else QaC N a0 y1 n (wI (v2+1)) v3)
  else some v3
def Qaq (N:Nat) (a0:Wv):Option (List Int×Int):=bnd (Qc3 N a0) λ y1=>bnd (QaC N a0 y1 N 0 []) λ y7=>some (y7,y1.2)
def Qan (N:Nat) (a0:Wv) (y1:List Int×Int) (y6:List Int×Int) (v2:Int) (y4:WI×Int):Nat->Int->Option (Ex Us Unit)
 | 0,_=>none
 | n+1,v7 =>
  bif (decide (v7<((y6.1.length:Nat):Int))) then (bnd (QbN N y4.1 v7) λ y8 =>
   bif y8 then (bnd (Xb y6.1 v7) λ p9 =>
    bif (p9 != 0) then (bnd (Xb y6.1 v7) λ p10 =>
     bnd (QcM N y1.1 p10) λ y11 =>
     bif (!y11) then (bnd (Xb y1.1 v2) λ p12 =>
      bnd (Qdr N a0.Conf (wU ((wU (p12+1))+(wU v7)))) λ y13 =>
      some (.ret (Us.mk 6 y13.1 (wU ((wU (p12+1))+(wU v7))))))
     else Qan N a0 y1 y6 v2 y4 n (wI (v7+1)))
    else Qan N a0 y1 y6 v2 y4 n (wI (v7+1)))
   else Qan N a0 y1 y6 v2 y4 n (wI (v7+1)))
  else some (.nxt ())
def Qbr (N:Nat) (a0:Wv) (y1:List Int×Int):Nat->Int->Option (Ex Us Unit)
 | 0,_=>none
 | n+1,v2 =>
  bif (decide (v2<((y1.1.length:Nat):Int))) then (bnd (Xb y1.1 v2) λ p3 =>
   bnd (Qbn N a0 p3) λ y4 =>
   bnd (Xb y1.1 v2) λ p5 =>
   bnd (Qcv N a0 p5) λ y6 =>
   bnd (Qan N a0 y1 y6 v2 y4 N 0) λ e=>exK e (λ r=>some (.ret r)) λ y14 =>
   Qbr N a0 y1 n (wI (v2+1)))
  else some (.nxt ())
def Qds (N:Nat) (a0:Wv):Option Us:=bnd (Qaq N a0) λ y1=>bnd (Qbr N a0 y1 N 0) λ e=>exK e (λ r=>some r) λ y15=>some (Us.mk 0 0 0)
def QaY (N:Nat) (a0:Wv):Nat->Int->Option (Ex Us Unit)
 | 0,_=>none
 | n+1,v2 =>
  bif (decide (v2<((a0.Pages.length:Nat):Int))) then (bnd (QeY N a0 v2) λ y3 =>
   bif (y3.Fault != 0) then some (.ret y3)
   else QaY N a0 n (wI (v2+1)))
  else some (.nxt ())
def QbA (N:Nat) (a0:Wv):Nat->Int->Int->Option Int
 | 0,_,_=>none
 | n+1,v6,v7 =>
  bif (decide (v7<((a0.Pages.length:Nat):Int))) then (bnd (Xb a0.Pages v7) λ p8 =>
   bif (p8.Kind==1) then (bnd (Xb a0.Pages v7) λ p9 =>
    bif (decide (p9.Pins>0)) then QbA N a0 n (wI (v6+1)) (wI (v7+1))
    else QbA N a0 n v6 (wI (v7+1)))
   else QbA N a0 n v6 (wI (v7+1)))
  else some v6
def Qep (N:Nat) (a0:Wv):Option Us:=bnd (Qab N a0) λ y1=>bif (!y1) then some (Us.mk 1 0 0) else bnd (QaY N a0 N 0) λ e=>exK e (λ r=>some r) λ y4=>bnd (Qds N a0) λ y5=>bif (y5.Fault != 0) then some y5 else bnd (QbA N a0 N 0 0) λ y10=>bif (decide (y10>(wI (a0.Conf.Pages.tdiv 4)))) then some (Us.mk 7 0 0) else some (Us.mk 0 0 0)
def Qa6 (N:Nat) (a0:Wv):Option Bool:=bnd (Qep N a0) λ y1=>some ((y1.Fault==0)&&((y1.Page==0)&&(y1.Addr==0)))
def Qeq (N:Nat) (a0:List U4) (a1:Int):Nat->Int->Option (Ex Int Unit)
 | 0,_=>none
 | n+1,v1 =>
  bif (decide (v1<((a0.length:Nat):Int))) then (bnd (Xb a0 v1) λ p2 =>
   bif (p2.Ref==a1) then some (.ret v1)
   else Qeq N a0 a1 n (wI (v1+1)))
  else some (.nxt ())
def QfA (N:Nat) (a0:List U4) (a1:Int):Option Int:=bnd (Qeq N a0 a1 N 0) λ e=>exK e (λ r=>some r) λ y3=>some (-1)
def QfB (N:Nat) (a0:Wv) (a1:Int):Option Int:=bnd (Qdr N a0.Conf a1) λ y1=>some y1.1
def Qbg (N:Nat) (a0:Wv) (a1:List U4) (y2:List Int×Int):Nat->Int->(List Int)->Option (Ex Bool (List Int))
 | 0,_,_=>none
 | n+1,v3,v4 =>
  bif (decide (v3<((a1.length:Nat):Int))) then (bnd (Xb a1 v3) λ p5 =>
   bnd (QcM N y2.1 p5.Ref) λ y6 =>
   bif (!y6) then some (.ret false)
   else bnd (Xb a1 v3) λ p7 =>
   bnd (QfA N a1 p7.Ref) λ y8 =>
   bif (y8 != v3) then some (.ret false)
   else bnd (Xb a1 v3) λ p9 =>
   bif (decide (p9.Count<1)) then some (.ret false)
   else bnd (Xb a1 v3) λ p10 =>
   bif (decide (p10.Count>1000)) then some (.ret false)
   else bnd (Xb a1 v3) λ p11 =>
   bnd (QfB N a0 p11.Ref) λ y12 =>
   bnd (Xb v4 y12) λ p13 =>
   bnd (Xb a1 v3) λ p14 =>
   bnd (Xb v4 y12) λ p15 =>
   Qbg N a0 a1 y2 n (wI (v3+1)) (v4.set y12.toNat (wI (p13+p14.Count))))
  else some (.nxt v4)
def QbB (N:Nat) (a0:Wv) (y16:List Int):Nat->Int->Option (Ex Bool Unit)
 | 0,_=>none
 | n+1,v17 =>
  bif (decide (v17<((a0.Pages.length:Nat):Int))) then (bnd (Xb a0.Pages v17) λ p18 =>
   bnd (Xb y16 v17) λ p19 =>
   bif (p18.Pins != p19) then some (.ret false)
   else QbB N a0 y16 n (wI (v17+1)))
  else some (.nxt ())
def QbG (N:Nat) (a0:Wv) (a1:List U4):Option Bool:=bnd (Qa6 N a0) λ y1=>bif (!y1) then some false else bif (decide (((a1.length:Nat):Int)>64)) then some false else bnd (Qaq N a0) λ y2=>grd (0<=((a0.Pages.length:Nat):Int)/\((a0.Pages.length:Nat):Int).toNat*8<=140737488355328) <| bnd (Qbg N a0 a1 y2 N 0 (List.replicate ((a0.Pages.length:Nat):Int).toNat (0:Int))) λ e=>exK e (λ r=>some r) λ y16=>bnd (QbB N a0 y16 N 0) λ e=>exK e (λ r=>some r) λ y20=>some true
def Qdi (N:Nat) (a0:WD) (a2:Int):Nat->Int->Int->Option Int
 | 0,_,_=>none
 | n+1,v1,v2 =>
  bif (decide (v2<a2)) then (bnd (Xb a0.Slots v2) λ p3 =>
   bif p3.Live then Qdi N a0 a2 n (wI (v1+1)) (wI (v2+1))
   else Qdi N a0 a2 n v1 (wI (v2+1)))
  else some v1
def Qgu (N:Nat) (a0:WD) (a1:Int) (a2:Int):Option Int:=bnd (Qdi N a0 a2 N 0 a1) λ y4=>some y4
def QhI (N:Nat) (a0:WD) (a1:Int):Option Int:=bif (decide ((wI (a1+1))<((a0.Scopes.length:Nat):Int))) then (bnd (Xb a0.Scopes (wI (a1+1))) λ p1=>some p1.From) else some ((a0.Slots.length:Nat):Int)
def Qdt (N:Nat) (a0:WD):Nat->Int->Option (Ex Bool Unit)
 | 0,_=>none
 | n+1,v1 =>
  bif (decide (v1<((a0.Issued.length:Nat):Int))) then (bnd (Xb a0.Issued v1) λ p2 =>
   bif (decide (p2<0)) then some (.ret false)
   else bnd (Xb a0.Issued v1) λ p3 =>
   bif (decide (p3>4095)) then some (.ret false)
   else Qdt N a0 n (wI (v1+1)))
  else some (.nxt ())
def Qal (N:Nat) (a0:WD):Nat->Int->Int->Option (Ex Bool Unit)
 | 0,_,_=>none
 | n+1,v5,v6 =>
  bif (decide (v6<((a0.Slots.length:Nat):Int))) then (bnd (Xb a0.Slots v6) λ p7 =>
   bif (decide (p7.Stamp<=v5)) then some (.ret false)
   else bif (decide (p7.Stamp>((a0.Issued.length:Nat):Int))) then some (.ret false)
   else bnd (Xb a0.Issued (wI (p7.Stamp-1))) λ p8 =>
   bif (p8 != v6) then some (.ret false)
   else bif (!(p7.Live==(p7.Ref != 0))) then some (.ret false)
   else Qal N a0 n p7.Stamp (wI (v6+1)))
  else some (.nxt ())
def Qai (N:Nat) (a0:WD):Nat->Int->Int->Option (Ex Bool Unit)
 | 0,_,_=>none
 | n+1,v10,v11 =>
  bif (decide (v11<((a0.Scopes.length:Nat):Int))) then (bnd (Xb a0.Scopes v11) λ p12 =>
   bif (v11==0) then (bif (p12.From != 0) then some (.ret false)
    else bif (!p12.Base) then some (.ret false)
    else bif (decide (p12.From<v10)) then some (.ret false)
    else bif (decide (p12.From>((a0.Slots.length:Nat):Int))) then some (.ret false)
    else bif (decide (p12.Cap<0)) then some (.ret false)
    else bif (decide (p12.Cap>64)) then some (.ret false)
    else Qai N a0 n p12.From (wI (v11+1)))
   else bif (decide (p12.From<v10)) then some (.ret false)
   else bif (decide (p12.From>((a0.Slots.length:Nat):Int))) then some (.ret false)
   else bif (decide (p12.Cap<0)) then some (.ret false)
   else bif (decide (p12.Cap>64)) then some (.ret false)
   else Qai N a0 n p12.From (wI (v11+1)))
  else some (.nxt ())
def QcO (N:Nat) (a0:WD):Nat->Int->Option (Ex Bool Unit)
 | 0,_=>none
 | n+1,v14 =>
  bif (decide (v14<((a0.Scopes.length:Nat):Int))) then (bnd (Xb a0.Scopes v14) λ p15 =>
   bnd (QhI N a0 v14) λ y16 =>
   bnd (Qgu N a0 p15.From y16) λ y17 =>
   bnd (Xb a0.Scopes v14) λ p18 =>
   bif (decide (y17>p18.Cap)) then some (.ret false)
   else QcO N a0 n (wI (v14+1)))
  else some (.nxt ())
def Qcc (N:Nat) (a0:WD):Option Bool:=jn (λ (_:Unit)=>bnd (Qdt N a0 N 0) λ e=>exK e (λ r=>some r) λ y4=>bnd (Qal N a0 N 0 0) λ e=>exK e (λ r=>some r) λ y9=>bnd (Qai N a0 N 0 0) λ e=>exK e (λ r=>some r) λ y13=>bnd (QcO N a0 N 0) λ e=>exK e (λ r=>some r) λ y19=>some true) λ j1=>bif (decide (((a0.Issued.length:Nat):Int)>4096)) then some false else bif (decide (((a0.Scopes.length:Nat):Int)>64)) then some false else bif (((a0.Scopes.length:Nat):Int)==0) then (bif (decide (((a0.Slots.length:Nat):Int)>0)) then some false else j1 ()) else j1 ()
def QcP (N:Nat) (a0:WT):Nat->Int->Option (Ex Bool Unit)
 | 0,_=>none
 | n+1,v1 =>
  bif (decide (v1<((a0.Entries.length:Nat):Int))) then (bnd (Xb a0.Entries v1) λ p2 =>
   bif (decide (p2.Gen<1)) then some (.ret false)
   else bif (decide (p2.Gen>4294967295)) then some (.ret false)
   else bif (!p2.Live) then (bif (p2.Ref != 0) then some (.ret false)
    else QcP N a0 n (wI (v1+1)))
   else QcP N a0 n (wI (v1+1)))
  else some (.nxt ())
def Qcd (N:Nat) (a0:WT):Option Bool:=bnd (QcP N a0 N 0) λ e=>exK e (λ r=>some r) λ y3=>some (decide (((a0.Entries.length:Nat):Int)<=64))
def Qbw (N:Nat) (a0:WT):Nat->Int->(List Int)->Option (List Int)
 | 0,_,_=>none
 | n+1,v1,v2 =>
  bif (decide (v1<((a0.Entries.length:Nat):Int))) then (bnd (Qcd N a0) λ y3 =>
   bif y3 then (bnd (Xb a0.Entries v1) λ p4 =>
    bif p4.Live then (bnd (Xb a0.Entries v1) λ p5 =>
     grd ((v2.length+1)*8<=140737488355328) <|
     Qbw N a0 n (wI (v1+1)) (v2++[p5.Ref]))
    else Qbw N a0 n (wI (v1+1)) v2)
   else some v2)
  else some v2
def QaM (N:Nat) (a0:WT):Option (List Int):=bnd (Qbw N a0 N 0 []) λ y6=>some y6
def Qbx (N:Nat) (a0:WD):Nat->Int->(List Int)->Option (List Int)
 | 0,_,_=>none
 | n+1,v1,v2 =>
  bif (decide (v1<((a0.Slots.length:Nat):Int))) then (bnd (Qcc N a0) λ y3 =>
   bif y3 then (bnd (Xb a0.Slots v1) λ p4 =>
    bif p4.Live then (bnd (Xb a0.Slots v1) λ p5 =>
     grd ((v2.length+1)*8<=140737488355328) <|
     Qbx N a0 n (wI (v1+1)) (v2++[p5.Ref]))
    else Qbx N a0 n (wI (v1+1)) v2)
   else some v2)
  else some v2
def Qb0 (N:Nat) (a0:WD):Option (List Int):=bnd (Qbx N a0 N 0 []) λ y6=>some y6
def Qak (N:Nat) (a1:List Int) (y2:List Int×Int):Nat->Int->Option (Ex Bool Unit)
 | 0,_=>none
 | n+1,v3 =>
  bif (decide (v3<((a1.length:Nat):Int))) then (bnd (Xb a1 v3) λ p4 =>
   bif (p4 != 0) then (bnd (Xb a1 v3) λ p5 =>
    bnd (QcM N y2.1 p5) λ y6 =>
    bif (!y6) then some (.ret false)
    else Qak N a1 y2 n (wI (v3+1)))
   else Qak N a1 y2 n (wI (v3+1)))
  else some (.nxt ())
def Qa5 (N:Nat) (a0:Wv) (a1:List Int):Option Bool:=bnd (Qa6 N a0) λ y1=>bif (!y1) then some false else bnd (Qaq N a0) λ y2=>bnd (Qak N a1 y2 N 0) λ e=>exK e (λ r=>some r) λ y7=>some true
def QbH (N:Nat) (a0:Ud):Option Bool:=bnd (QbG N a0.Heap a0.Pins) λ y1=>bif (!y1) then some false else bnd (Qcc N a0.Locals) λ y2=>bif (!y2) then some false else bnd (Qcd N a0.Globals) λ y3=>bif (!y3) then some false else bnd (Qcd N a0.Weaks) λ y4=>bif (!y4) then some false else bnd (QaM N a0.Globals) λ y5=>bnd (QcM N y5 0) λ y6=>bif y6 then some false else grd (a0.Roots.length*8<=140737488355328) <| bnd (Qb0 N a0.Locals) λ y7=>grd ((a0.Roots.length+y7.length)*8<=140737488355328) <| grd (((a0.Roots.length+y7.length)+y5.length)*8<=140737488355328) <| bnd (QaM N a0.Weaks) λ y8=>grd ((((a0.Roots.length+y7.length)+y5.length)+y8.length)*8<=140737488355328) <| bnd (Qa5 N a0.Heap (((a0.Roots++y7)++y5)++y8)) λ y9=>some y9
def QcQ (N:Nat) (a0:Wv) (y3:List Int×Int):Nat->Int->(List WM)->Option (List WM)
 | 0,_,_=>none
 | n+1,v4,v5 =>
  grd (v5.length<=140737488355328) <|
  bif (decide (v4<((v5.length:Nat):Int))) then (bnd (Xb v5 v4) λ p6 =>
   bif (p6.Kind==1) then (bif (decide (p6.Pins>0)) then (bnd (Xb v5 v4) λ p7 =>
       QcQ N a0 y3 n (wI (v4+1)) (v5.set v4.toNat (WM.mk p7.Kind (wI (1-a0.Space)) p7.Used p7.Pins)))
    else QcQ N a0 y3 n (wI (v4+1)) v5)
   else QcQ N a0 y3 n (wI (v4+1)) v5)
  else some v5
def QdI (N:Nat) (a0:Wv):Option (Uk×Int):=bnd (Qab N a0) λ y1=>bif (!y1) then some ((Uk.mk zHp [] [] [] 0 (UC.mk 0 0 0 0 0 0)),1) else bnd (Qa6 N a0) λ y2=>bif (!y2) then some ((Uk.mk zHp [] [] [] 0 (UC.mk 0 0 0 0 0 0)),19) else bnd (Qaq N a0) λ y3=>grd (a0.Pages.length*32<=140737488355328) <| bnd (QcQ N a0 y3 N 0 a0.Pages) λ y8=>some ((Uk.mk (Wv.mk a0.Conf a0.Words y8 a0.Space a0.Bump) y3.1 [] [] 0 (UC.mk 0 0 0 0 0 0)),0)
def QdS (N:Nat) (a0:Int):Option (Int×Bool):=bif ((a0.tmod 4) != 2) then some (0,false) else bif (decide ((Yf .u64 a0 2)>=4294967296)) then some (0,false) else some ((Yf .u64 a0 2),true)
def Qex (N:Nat) (a0:Uk) (a1:Int):Nat->Int->Option (Ex Bool Unit)
 | 0,_=>none
 | n+1,v1 =>
  bif (decide (v1<((a0.Taken.length:Nat):Int))) then (bnd (Xb a0.Taken v1) λ p2 =>
   bif (p2==a1) then some (.ret true)
   else Qex N a0 a1 n (wI (v1+1)))
  else some (.nxt ())
def Qhp (N:Nat) (a0:Uk) (a1:Int):Option Bool:=bnd (Qex N a0 a1 N 0) λ e=>exK e (λ r=>some r) λ y3=>some false
def Qey (N:Nat) (a0:Uk) (a1:Int):Option Bool:=bif (decide (a1<0)) then some false else bif (decide (a1>=((a0.Heap.Pages.length:Nat):Int))) then some false else bnd (Xb a0.Heap.Pages a1) λ p1=>bif (p1.Kind==1) then (bif (p1.Space != a0.Heap.Space) then (bnd (Qhp N a0 a1) λ y2=>some (!y2)) else some false) else some false
def QbR (N:Nat) (a2:List Int) (y1:Int×Bool):Nat->Int->(List Int)->Option (List Int)
 | 0,_,_=>none
 | n+1,v2,v3 =>
  bif (decide (v2<((a2.length:Nat):Int))) then (bnd (Xb a2 v2) λ p4 =>
   bnd (Xb v3 (wI (y1.1+v2))) λ p5 =>
   QbR N a2 y1 n (wI (v2+1)) (v3.set (wI (y1.1+v2)).toNat p4))
  else some v3
def QcV (N:Nat) (a0:List Int) (a1:Int) (a2:List Int):Option (List Int×Int):=bnd (QdH N a0 a1 ((a2.length:Nat):Int)) λ y1=>bif (!y1.2) then some ([],2) else grd (a0.length*8<=140737488355328) <| bnd (QbR N a2 y1 N 0 a0) λ y6=>some (y6,0)
def QdJ (N:Nat) (a0:List Int) (a1:Int) (a2:Int):Option (List Int×Int):=bnd (QcV N a0 a1 [a2]) λ y1=>some (y1.1,y1.2)
def QeZ (N:Nat) (a0:Uk) (a1:Int):Option Uk:=grd (a0.Queue.length*8<=140737488355328) <| grd ((a0.Queue.length+1)*8<=140737488355328) <| some (Uk.mk a0.Heap a0.Old a0.Taken (a0.Queue++[a1]) a0.Scanned (UC.mk a0.Report.Copied (wI (a0.Report.Kept+1)) a0.Report.Filled a0.Report.Freed a0.Report.Cleared a0.Report.Steps))
def QcD (N:Nat) (a0:List WM):Nat->Int->(List Ox)->Option (List Ox)
 | 0,_,_=>none
 | n+1,v1,v2 =>
  bif (decide (v1<((a0.length:Nat):Int))) then (bnd (Xb a0 v1) λ p3 =>
   bif (p3.Kind != 0) then QcD N a0 n (wI (v1+1)) v2
   else grd (v2.length<=140737488355328) <|
   jn (λ (_:Unit) =>
    grd ((v2.length+1)*16<=140737488355328) <|
    QcD N a0 n (wI (v1+1)) (v2++[(Ox.mk v1 1)])) λ j1 =>
   bif (decide (((v2.length:Nat):Int)>0)) then (bnd (Xb v2 (wI (((v2.length:Nat):Int)-1))) λ p4 =>
    bnd (Xb v2 (wI (((v2.length:Nat):Int)-1))) λ p5 =>
    bif ((wI (p4.From+p5.Len))==v1) then (bnd (Xb v2 (wI (((v2.length:Nat):Int)-1))) λ p6 =>
     bnd (Xb v2 (wI (((v2.length:Nat):Int)-1))) λ p7 =>
     QcD N a0 n (wI (v1+1)) (v2.set (wI (((v2.length:Nat):Int)-1)).toNat (Ox.mk p7.From (wI (p6.Len+1)))))
    else j1 ())
   else j1 ())
  else some v2
def QhE (N:Nat) (a0:List WM):Option (List Ox):=bnd (QcD N a0 N 0 []) λ y8=>some y8
def Qdu (N:Nat) (a1:Int) (y1:List Ox):Nat->Int->Option (Ex Int Unit)
 | 0,_=>none
 | n+1,v2 =>
  bif (decide (v2<((y1.length:Nat):Int))) then (bif (decide (a1>=1)) then (bnd (Xb y1 v2) λ p3 =>
      bif (decide (p3.Len>=a1)) then (bnd (Xb y1 v2) λ p4 =>
       some (.ret p4.From))
      else Qdu N a1 y1 n (wI (v2+1)))
   else Qdu N a1 y1 n (wI (v2+1)))
  else some (.nxt ())
def QcW (N:Nat) (a0:List WM) (a1:Int):Option Int:=bnd (QhE N a0) λ y1=>bnd (Qdu N a1 y1 N 0) λ e=>exK e (λ r=>some r) λ y5=>some (-1)
def Qdj (N:Nat) (a1:Int) (a2:Int) (a3:WM) (a4:WM):Nat->Int->(List WM)->Option (Ex (List WM×Int) (List WM))
 | 0,_,_=>none
 | n+1,v1,v2 =>
  bif (decide (v1<a2)) then (bnd (Xb v2 (wI (a1+v1))) λ p3 =>
   bif (p3.Kind != 0) then some (.ret ([],20))
   else bnd (Xb v2 (wI (a1+v1))) λ p4 =>
   Qdj N a1 a2 a3 a4 n (wI (v1+1)) (v2.set (wI (a1+v1)).toNat a4))
  else some (.nxt v2)
def Qeh (N:Nat) (a0:List WM) (a1:Int) (a2:Int) (a3:WM) (a4:WM):Option (List WM×Int):=bif (decide (a1<0)) then some ([],2) else bif (decide (a1>=((a0.length:Nat):Int))) then some ([],2) else bif (decide (a2>(wI (((a0.length:Nat):Int)-a1)))) then some ([],2) else grd (a0.length*32<=140737488355328) <| bnd (Qdj N a1 a2 a3 a4 N 0 a0) λ e=>exK e (λ r=>some r) λ y5=>bnd (Xb y5 a1) λ p6=>some ((y5.set a1.toNat a3),0)
def QcX (N:Nat) (a0:List WM) (a1:Int) (a2:Int):Option (List WM×Int):=bif (decide (a2<0)) then some ([],1) else bif (decide (a2>1)) then some ([],1) else bnd (Qeh N a0 a1 1 (WM.mk 1 a2 0 0) (WM.mk 0 0 0 0)) λ y1=>some (y1.1,y1.2)
def Qer (N:Nat) (a0:Uk) (a1:Int):Option (Uk×Int×Bool):=grd (a0.Heap.Pages.length*32<=140737488355328) <| jn (λ (_:Unit)=>bnd (QcW N a0.Heap.Pages 1) λ y4=>bif (decide (y4<0)) then some ((Uk.mk zHp [] [] [] 0 (UC.mk 0 0 0 0 0 0)),0,false) else bnd (QcX N a0.Heap.Pages y4 (wI (1-a0.Heap.Space))) λ y5=>grd (a0.Taken.length*8<=140737488355328) <| grd ((a0.Taken.length+1)*8<=140737488355328) <| bnd (Xb y5.1 y4) λ p13=>bnd (Xb y5.1 y4) λ p14=>bnd (Xb y5.1 y4) λ p15=>some ((Uk.mk (Wv.mk a0.Heap.Conf a0.Heap.Words (y5.1.set y4.toNat (WM.mk p15.Kind p15.Space (wI (p14.Used+a1)) p15.Pins)) a0.Heap.Space a0.Heap.Bump) a0.Old (a0.Taken++[y4]) a0.Queue a0.Scanned a0.Report),(wU (wI ((wI (4096+(wI (y4*a0.Heap.Conf.PageWords))))+p13.Used))),true)) λ j1=>bif (decide (((a0.Taken.length:Nat):Int)>0)) then (bnd (Xb a0.Taken (wI (((a0.Taken.length:Nat):Int)-1))) λ p1=>bnd (Xb a0.Heap.Pages p1) λ p2=>bif (decide ((wI (p2.Used+a1))<=a0.Heap.Conf.PageWords)) then (bnd (Xb a0.Taken (wI (((a0.Taken.length:Nat):Int)-1))) λ p3=>bnd (Xb a0.Heap.Pages p3) λ p10=>bnd (Xb a0.Heap.Pages p3) λ p11=>bnd (Xb a0.Heap.Pages p3) λ p12=>some ((Uk.mk (Wv.mk a0.Heap.Conf a0.Heap.Words (a0.Heap.Pages.set p3.toNat (WM.mk p12.Kind p12.Space (wI (p11.Used+a1)) p12.Pins)) a0.Heap.Space a0.Heap.Bump) a0.Old a0.Taken a0.Queue a0.Scanned a0.Report),(wU (wI ((wI (4096+(wI (p3*a0.Heap.Conf.PageWords))))+p10.Used))),true)) else j1 ()) else j1 ()
def QfC (N:Nat) (a0:List Int) (a1:Int) (a2:Int) (a3:Int):Option (List Int×Int):=bnd (Qc2 N a0 a2 a3) λ y1=>bif (y1.2 != 0) then some ([],y1.2) else bnd (QcV N a0 a1 y1.1) λ y2=>some (y2.1,y2.2)
def Qd2 (N:Nat) (a0:Int):Option (Int×Int):=bif (decide (a0>=4294967296)) then some (0,1) else some ((wU ((wU (4*a0))+2)),0)
def Qdv (N:Nat) (a0:Uk) (a1:Int):Nat->Int->(List WM)->Option (List WM)
 | 0,_,_=>none
 | n+1,v10,v11 =>
  grd (v11.length<=140737488355328) <|
  bif (decide (v10<((v11.length:Nat):Int))) then (bnd (Xb v11 v10) λ p12 =>
   bif (p12.Kind==3) then (bnd (Xb v11 v10) λ p13 =>
    Qdv N a0 a1 n (wI (v10+1)) (v11.set v10.toNat (WM.mk p13.Kind (wI (1-a0.Heap.Space)) p13.Used p13.Pins)))
   else some v11)
  else some v11
def Qdk (N:Nat) (a0:Uk) (a1:Int):Option (Uk×Int×Int):=bif (a1==0) then some (a0,a1,0) else bnd (QcM N a0.Queue a1) λ y1=>bif y1 then some (a0,a1,0) else bnd (QcM N a0.Old a1) λ y2=>bif (!y2) then some ((Uk.mk zHp [] [] [] 0 (UC.mk 0 0 0 0 0 0)),0,19) else bnd (Qbm N a0.Heap.Words a1) λ y3=>bnd (QdS N y3.1) λ y4=>bif y4.2 then some (a0,y4.1,0) else bnd (Qdr N a0.Heap.Conf a1) λ y5=>bif (y5.2.2 != 0) then some ((Uk.mk zHp [] [] [] 0 (UC.mk 0 0 0 0 0 0)),0,19) else bif (decide (y5.1>=((a0.Heap.Pages.length:Nat):Int))) then some ((Uk.mk zHp [] [] [] 0 (UC.mk 0 0 0 0 0 0)),0,19) else bnd (Qey N a0 y5.1) λ y6=>bif y6 then (bnd (QeZ N a0 a1) λ y7=>some (y7,a1,0)) else bnd (Xb a0.Heap.Pages y5.1) λ p8=>bif (p8.Kind==2) then (grd (a0.Heap.Pages.length*32<=140737488355328) <| bnd (Xb a0.Heap.Pages y5.1) λ p9=>bnd (Qdv N a0 a1 N (wI (y5.1+1)) (a0.Heap.Pages.set y5.1.toNat (WM.mk p9.Kind (wI (1-a0.Heap.Space)) p9.Used p9.Pins))) λ y14=>bnd (QeZ N (Uk.mk (Wv.mk a0.Heap.Conf a0.Heap.Words y14 a0.Heap.Space a0.Heap.Bump) a0.Old a0.Taken a0.Queue a0.Scanned a0.Report) a1) λ y15=>some (y15,a1,0)) else bnd (Qb2 N y3.1) λ y16=>bnd (QcB N y16.1) λ y17=>bnd (Qer N a0 y17) λ y18=>bif (!y18.2.2) then some ((Uk.mk zHp [] [] [] 0 (UC.mk 0 0 0 0 0 0)),0,3) else bnd (QfC N y18.1.Heap.Words y18.2.1 a1 y17) λ y19=>bnd (Qd2 N y18.2.1) λ y20=>bnd (QdJ N y19.1 a1 y20.1) λ y21=>grd (y18.1.Queue.length*8<=140737488355328) <| grd ((y18.1.Queue.length+1)*8<=140737488355328) <| some ((Uk.mk (Wv.mk y18.1.Heap.Conf y21.1 y18.1.Heap.Pages y18.1.Heap.Space y18.1.Heap.Bump) y18.1.Old y18.1.Taken (y18.1.Queue++[y18.2.1]) y18.1.Scanned (UC.mk (wI (y18.1.Report.Copied+1)) y18.1.Report.Kept y18.1.Report.Filled y18.1.Report.Freed y18.1.Report.Cleared y18.1.Report.Steps)),y18.2.1,0)
def QbS (N:Nat) (a1:List Int):Nat->Int->Int->Int->(List Int)->(List WM)->Int->Int->(List Int)->(List Int)->(List Int)->Int->Int->Int->Int->Int->Int->Int->(List Int)->Option (Ex (Uk×List Int×Int) (Int×Int×List Int×List WM×Int×Int×List Int×List Int×List Int×Int×Int×Int×Int×Int×Int×Int×List Int))
 | 0,_,_,_,_,_,_,_,_,_,_,_,_,_,_,_,_,_,_=>none
 | n+1,v1,v2,v3,v4,v5,v6,v7,v8,v9,v10,v11,v12,v13,v14,v15,v16,v17,v18 =>
  bif (decide (v1<((a1.length:Nat):Int))) then (bnd (Xb a1 v1) λ p19 =>
   bnd (Qdk N (Uk.mk (Wv.mk (Um.mk v2 v3) v4 v5 v6 v7) v8 v9 v10 v11 (UC.mk v12 v13 v14 v15 v16 v17)) p19) λ y20 =>
   bif (y20.2.2 != 0) then some (.ret ((Uk.mk zHp [] [] [] 0 (UC.mk 0 0 0 0 0 0)),[],y20.2.2))
   else grd ((v18.length+1)*8<=140737488355328) <|
   QbS N a1 n (wI (v1+1)) y20.1.Heap.Conf.PageWords y20.1.Heap.Conf.Pages y20.1.Heap.Words y20.1.Heap.Pages y20.1.Heap.Space y20.1.Heap.Bump y20.1.Old y20.1.Taken y20.1.Queue y20.1.Scanned y20.1.Report.Copied y20.1.Report.Kept y20.1.Report.Filled y20.1.Report.Freed y20.1.Report.Cleared y20.1.Report.Steps (v18++[y20.2.1]))
  else some (.nxt (v2,v3,v4,v5,v6,v7,v8,v9,v10,v11,v12,v13,v14,v15,v16,v17,v18))
def Qe8 (N:Nat) (a0:Uk) (a1:List Int):Option (Uk×List Int×Int):=bnd (QbS N a1 N 0 a0.Heap.Conf.PageWords a0.Heap.Conf.Pages a0.Heap.Words a0.Heap.Pages a0.Heap.Space a0.Heap.Bump a0.Old a0.Taken a0.Queue a0.Scanned a0.Report.Copied a0.Report.Kept a0.Report.Filled a0.Report.Freed a0.Report.Cleared a0.Report.Steps []) λ e=>exK e (λ r=>some r) λ y21=>some ((Uk.mk (Wv.mk (Um.mk y21.1 y21.2.1) y21.2.2.1 y21.2.2.2.1 y21.2.2.2.2.1 y21.2.2.2.2.2.1) y21.2.2.2.2.2.2.1 y21.2.2.2.2.2.2.2.1 y21.2.2.2.2.2.2.2.2.1 y21.2.2.2.2.2.2.2.2.2.1 (UC.mk y21.2.2.2.2.2.2.2.2.2.2.1 y21.2.2.2.2.2.2.2.2.2.2.2.1 y21.2.2.2.2.2.2.2.2.2.2.2.2.1 y21.2.2.2.2.2.2.2.2.2.2.2.2.2.1 y21.2.2.2.2.2.2.2.2.2.2.2.2.2.2.1 y21.2.2.2.2.2.2.2.2.2.2.2.2.2.2.2.1)),y21.2.2.2.2.2.2.2.2.2.2.2.2.2.2.2.2,0)
def Qfx (N:Nat) (a0:Uk) (a1:Int):Option WI:=bnd (Qbm N a0.Heap.Words a1) λ y1=>bnd (Qb2 N y1.1) λ y2=>some y2.1
def QbY (N:Nat) (a0:WI):Nat->Int->(List Int)->Option (List Int)
 | 0,_,_=>none
 | n+1,v1,v2 =>
  bif (decide (v1<a0.Length)) then (bnd (QcU N a0) λ y3 =>
   bif y3 then (bnd (QbN N a0 v1) λ y4 =>
    bif y4 then (grd ((v2.length+1)*8<=140737488355328) <|
     QbY N a0 n (wI (v1+1)) (v2++[v1]))
    else QbY N a0 n (wI (v1+1)) v2)
   else some v2)
  else some v2
def Qfm (N:Nat) (a0:WI):Option (List Int):=bnd (QbY N a0 N 0 []) λ y5=>some y5
def Qce (N:Nat) (p1:Int) (y3:List Int):Nat->Int->Int->Int->(List Int)->(List WM)->Int->Int->(List Int)->(List Int)->(List Int)->Int->Int->Int->Int->Int->Int->Int->Option (Ex (Uk×Bool×Int) (Int×Int×List Int×List WM×Int×Int×List Int×List Int×List Int×Int×Int×Int×Int×Int×Int×Int))
 | 0,_,_,_,_,_,_,_,_,_,_,_,_,_,_,_,_,_=>none
 | n+1,v4,v5,v6,v7,v8,v9,v10,v11,v12,v13,v14,v15,v16,v17,v18,v19,v20 =>
  bif (decide (v4<((y3.length:Nat):Int))) then (bnd (Xb y3 v4) λ p21 =>
   bnd (Qbm N v7 (wU ((wU (p1+1))+(wU p21)))) λ y22 =>
   bnd (Qdk N (Uk.mk (Wv.mk (Um.mk v5 v6) v7 v8 v9 v10) v11 v12 v13 v14 (UC.mk v15 v16 v17 v18 v19 v20)) y22.1) λ y23 =>
   bif (y23.2.2 != 0) then some (.ret ((Uk.mk zHp [] [] [] 0 (UC.mk 0 0 0 0 0 0)),false,y23.2.2))
   else bnd (QdJ N y23.1.Heap.Words (wU ((wU (p1+1))+(wU p21))) y23.2.1) λ y24 =>
   Qce N p1 y3 n (wI (v4+1)) y23.1.Heap.Conf.PageWords y23.1.Heap.Conf.Pages y24.1 y23.1.Heap.Pages y23.1.Heap.Space y23.1.Heap.Bump y23.1.Old y23.1.Taken y23.1.Queue y23.1.Scanned y23.1.Report.Copied y23.1.Report.Kept y23.1.Report.Filled y23.1.Report.Freed y23.1.Report.Cleared y23.1.Report.Steps)
  else some (.nxt (v5,v6,v7,v8,v9,v10,v11,v12,v13,v14,v15,v16,v17,v18,v19,v20))
def QfD (N:Nat) (a0:Uk):Option (Uk×Bool×Int):=bif (decide (a0.Scanned>=((a0.Queue.length:Nat):Int))) then some (a0,false,0) else bnd (Xb a0.Queue a0.Scanned) λ p1=>bnd (Qfx N a0 p1) λ y2=>bnd (Qfm N y2) λ y3=>bnd (Qce N p1 y3 N 0 a0.Heap.Conf.PageWords a0.Heap.Conf.Pages a0.Heap.Words a0.Heap.Pages a0.Heap.Space a0.Heap.Bump a0.Old a0.Taken a0.Queue a0.Scanned a0.Report.Copied a0.Report.Kept a0.Report.Filled a0.Report.Freed a0.Report.Cleared a0.Report.Steps) λ e=>exK e (λ r=>some r) λ y25=>some ((Uk.mk (Wv.mk (Um.mk y25.1 y25.2.1) y25.2.2.1 y25.2.2.2.1 y25.2.2.2.2.1 y25.2.2.2.2.2.1) y25.2.2.2.2.2.2.1 y25.2.2.2.2.2.2.2.1 y25.2.2.2.2.2.2.2.2.1 (wI (y25.2.2.2.2.2.2.2.2.2.1+1)) (UC.mk y25.2.2.2.2.2.2.2.2.2.2.1 y25.2.2.2.2.2.2.2.2.2.2.2.1 y25.2.2.2.2.2.2.2.2.2.2.2.2.1 y25.2.2.2.2.2.2.2.2.2.2.2.2.2.1 y25.2.2.2.2.2.2.2.2.2.2.2.2.2.2.1 (wI ((wI (y25.2.2.2.2.2.2.2.2.2.2.2.2.2.2.2+1))+((y3.length:Nat):Int))))),true,0)
def Qcw (N:Nat):Nat->Int->Int->(List Int)->(List WM)->Int->Int->(List Int)->(List Int)->(List Int)->Int->Int->Int->Int->Int->Int->Int->Option (Uk×Int)
 | 0,_,_,_,_,_,_,_,_,_,_,_,_,_,_,_,_=>none
 | n+1,v1,v2,v3,v4,v5,v6,v7,v8,v9,v10,v11,v12,v13,v14,v15,v16 =>
  bnd (QfD N (Uk.mk (Wv.mk (Um.mk v1 v2) v3 v4 v5 v6) v7 v8 v9 v10 (UC.mk v11 v12 v13 v14 v15 v16))) λ y17 =>
  bif (y17.2.2 != 0) then some ((Uk.mk zHp [] [] [] 0 (UC.mk 0 0 0 0 0 0)),y17.2.2)
  else bif (!y17.2.1) then some (y17.1,0)
  else Qcw N n y17.1.Heap.Conf.PageWords y17.1.Heap.Conf.Pages y17.1.Heap.Words y17.1.Heap.Pages y17.1.Heap.Space y17.1.Heap.Bump y17.1.Old y17.1.Taken y17.1.Queue y17.1.Scanned y17.1.Report.Copied y17.1.Report.Kept y17.1.Report.Filled y17.1.Report.Freed y17.1.Report.Cleared y17.1.Report.Steps
def Qgh (N:Nat) (a0:Uk):Option (Uk×Int):=bnd (Qcw N N a0.Heap.Conf.PageWords a0.Heap.Conf.Pages a0.Heap.Words a0.Heap.Pages a0.Heap.Space a0.Heap.Bump a0.Old a0.Taken a0.Queue a0.Scanned a0.Report.Copied a0.Report.Kept a0.Report.Filled a0.Report.Freed a0.Report.Cleared a0.Report.Steps) λ r=>some r
def Qe9 (N:Nat) (a0:Uk) (a1:Int):Option Int:=bnd (QcM N a0.Queue a1) λ y1=>bif y1 then some a1 else bnd (Qbm N a0.Heap.Words a1) λ y2=>bnd (QdS N y2.1) λ y3=>some y3.1
def Qcf (N:Nat) (a0:Uk) (v4:List WM) (p5:WM) (v1:Int) (v2:Int):Nat->Int->(List Int)->Option (List Int)
 | 0,_,_=>none
 | n+1,v7,v8 =>
  bif (decide (v7<a0.Heap.Conf.PageWords)) then (bnd (Xb v8 (wI ((wI (v1*a0.Heap.Conf.PageWords))+v7))) λ p9 =>
   Qcf N a0 v4 p5 v1 v2 n (wI (v7+1)) (v8.set (wI ((wI (v1*a0.Heap.Conf.PageWords))+v7)).toNat 0))
  else some v8
def Qby (N:Nat) (a0:Uk):Nat->Int->Int->(List Int)->(List WM)->Option (Int×List Int×List WM)
 | 0,_,_,_,_=>none
 | n+1,v1,v2,v3,v4 =>
  grd (v4.length<=140737488355328) <|
  bif (decide (v1<((v4.length:Nat):Int))) then (bnd (Xb v4 v1) λ p5 =>
   bif (p5.Kind==0) then Qby N a0 n (wI (v1+1)) v2 v3 v4
   else bif (p5.Space != a0.Heap.Space) then Qby N a0 n (wI (v1+1)) v2 v3 v4
   else bnd (Xb v4 v1) λ p6 =>
   bnd (Qcf N a0 v4 p5 v1 v2 N 0 v3) λ y10 =>
   Qby N a0 n (wI (v1+1)) (wI (v2+1)) y10 (v4.set v1.toNat (WM.mk 0 0 0 0)))
  else some (v2,v3,v4)
def Qei (N:Nat) (a0:Uk):Option Uk:=grd (a0.Heap.Pages.length*32<=140737488355328) <| grd (a0.Heap.Words.length*8<=140737488355328) <| bnd (Qby N a0 N 0 a0.Report.Freed a0.Heap.Words a0.Heap.Pages) λ y11=>some (Uk.mk (Wv.mk a0.Heap.Conf y11.2.1 y11.2.2 a0.Heap.Space a0.Heap.Bump) a0.Old a0.Taken a0.Queue a0.Scanned (UC.mk a0.Report.Copied a0.Report.Kept a0.Report.Filled y11.1 a0.Report.Cleared a0.Report.Steps))
def Qbh (N:Nat) (a0:Uk):Nat->Int->(List Int)->Int->Option (List Int×Int)
 | 0,_,_,_=>none
 | n+1,v1,v2,v3 =>
  bif (decide (v1<((a0.Old.length:Nat):Int))) then (bnd (Xb a0.Old v1) λ p4 =>
   bnd (Qdr N a0.Heap.Conf p4) λ y5 =>
   bnd (Qey N (Uk.mk (Wv.mk a0.Heap.Conf v2 a0.Heap.Pages a0.Heap.Space a0.Heap.Bump) a0.Old a0.Taken a0.Queue a0.Scanned (UC.mk a0.Report.Copied a0.Report.Kept v3 a0.Report.Freed a0.Report.Cleared a0.Report.Steps)) y5.1) λ y6 =>
   bif (!y6) then Qbh N a0 n (wI (v1+1)) v2 v3
   else bnd (Xb a0.Old v1) λ p7 =>
   bnd (QcM N a0.Queue p7) λ y8 =>
   bif y8 then Qbh N a0 n (wI (v1+1)) v2 v3
   else bnd (Xb a0.Old v1) λ p9 =>
   bnd (Qfx N (Uk.mk (Wv.mk a0.Heap.Conf v2 a0.Heap.Pages a0.Heap.Space a0.Heap.Bump) a0.Old a0.Taken a0.Queue a0.Scanned (UC.mk a0.Report.Copied a0.Report.Kept v3 a0.Report.Freed a0.Report.Cleared a0.Report.Steps)) p9) λ y10 =>
   bnd (Qc1 N (WI.mk 0 y10.Length 0)) λ y11 =>
   bnd (Xb a0.Old v1) λ p12 =>
   grd (0<=y10.Length/\y10.Length.toNat*8<=140737488355328) <|
   grd ((1+y10.Length.toNat)*8<=140737488355328) <|
   bnd (QcV N v2 p12 ([y11.1]++(List.replicate y10.Length.toNat (0:Int)))) λ y13 =>
   Qbh N a0 n (wI (v1+1)) y13.1 (wI (v3+1)))
  else some (v2,v3)
def QfE (N:Nat) (a0:Uk):Option Uk:=bnd (Qbh N a0 N 0 a0.Heap.Words a0.Report.Filled) λ y14=>some (Uk.mk (Wv.mk a0.Heap.Conf y14.1 a0.Heap.Pages a0.Heap.Space a0.Heap.Bump) a0.Old a0.Taken a0.Queue a0.Scanned (UC.mk a0.Report.Copied a0.Report.Kept y14.2 a0.Report.Freed a0.Report.Cleared a0.Report.Steps))
def Qbo (N:Nat) (a2:List Int) (y5:Uk×List Int×Int) (y6:Uk×Int):Nat->Int->Int->(List Int)->Option (Int×List Int)
 | 0,_,_,_=>none
 | n+1,v7,v8,v9 =>
  bif (decide (v7<((a2.length:Nat):Int))) then (bnd (Xb a2 v7) λ p10 =>
   jn (λ (x14:Int) (x15:Int) =>
    grd ((v9.length+1)*8<=140737488355328) <|
    Qbo N a2 y5 y6 n (wI (v7+1)) x15 (v9++[x14])) λ j3 =>
   bif (p10 != 0) then (bnd (Xb a2 v7) λ p11 =>
    bnd (Qe9 N (Uk.mk y6.1.Heap y6.1.Old y6.1.Taken y6.1.Queue y6.1.Scanned (UC.mk y6.1.Report.Copied y6.1.Report.Kept y6.1.Report.Filled y6.1.Report.Freed v8 y6.1.Report.Steps)) p11) λ y12 =>
    jn (λ (x13:Int) =>
     j3 y12 x13) λ j2 =>
    bif (y12==0) then j2 (wI (v8+1))
    else j2 v8)
   else j3 0 v8)
  else some (v8,v9)
def QcE (N:Nat) (a0:Wv) (a1:List Int) (a2:List Int):Option (Wv×List Int×List Int×UC×Int):=bnd (Qab N a0) λ y1=>bif (!y1) then some (zHp,[],[],(UC.mk 0 0 0 0 0 0),1) else jn (λ (_:Unit)=>some (zHp,[],[],(UC.mk 0 0 0 0 0 0),19)) λ j1=>bnd (Qa5 N a0 a1) λ y2=>bif (!y2) then j1 () else bnd (Qa5 N a0 a2) λ y3=>bif (!y3) then j1 () else bnd (QdI N a0) λ y4=>bnd (Qe8 N y4.1 a1) λ y5=>bif (y5.2.2 != 0) then some (zHp,[],[],(UC.mk 0 0 0 0 0 0),y5.2.2) else bnd (Qgh N y5.1) λ y6=>bif (y6.2 != 0) then some (zHp,[],[],(UC.mk 0 0 0 0 0 0),y6.2) else bnd (Qbo N a2 y5 y6 N 0 y6.1.Report.Cleared []) λ y16=>bnd (QfE N (Uk.mk y6.1.Heap y6.1.Old y6.1.Taken y6.1.Queue y6.1.Scanned (UC.mk y6.1.Report.Copied y6.1.Report.Kept y6.1.Report.Filled y6.1.Report.Freed y16.1 y6.1.Report.Steps))) λ y17=>bnd (Qei N y17) λ y18=>jn (λ (x20:Int)=>some ((Wv.mk y18.Heap.Conf y18.Heap.Words y18.Heap.Pages (wI (1-y18.Heap.Space)) x20),y5.2.1,y16.2,y18.Report,0)) λ j4=>bif (decide (((y18.Taken.length:Nat):Int)>0)) then (bnd (Xb y18.Taken (wI (((y18.Taken.length:Nat):Int)-1))) λ p19=>j4 p19) else j4 (-1)
def Qa3 (N:Nat) (a0:Ud):Nat->Int->(List Int)->Option (List Int)
 | 0,_,_=>none
 | n+1,v3,v4 =>
  bif (decide (v3<((a0.Pins.length:Nat):Int))) then (bnd (Xb a0.Pins v3) λ p5 =>
   grd ((v4.length+1)*8<=140737488355328) <|
   Qa3 N a0 n (wI (v3+1)) (v4++[p5.Ref]))
  else some v4
def QeE (N:Nat) (a0:Ud):Option (List Int):=grd (a0.Roots.length*8<=140737488355328) <| bnd (Qb0 N a0.Locals) λ y1=>grd ((a0.Roots.length+y1.length)*8<=140737488355328) <| bnd (QaM N a0.Globals) λ y2=>grd (((a0.Roots.length+y1.length)+y2.length)*8<=140737488355328) <| bnd (Qa3 N a0 N 0 ((a0.Roots++y1)++y2)) λ y6=>some y6
def Qbi (N:Nat) (a0:WD) (a1:List Int):Nat->Int->Int->(List U1)->Option (Ex (WD×Int) (List U1))
 | 0,_,_,_=>none
 | n+1,v3,v4,v5 =>
  grd (v5.length<=140737488355328) <|
  bif (decide (v4<((v5.length:Nat):Int))) then (bnd (Xb v5 v4) λ p6 =>
   bif (!p6.Live) then Qbi N a0 a1 n v3 (wI (v4+1)) v5
   else bnd (Xb a1 v3) λ p7 =>
   bif (p7==0) then some (.ret ((WD.mk [] [] []),1))
   else bnd (Xb a1 v3) λ p8 =>
   bnd (Xb v5 v4) λ p9 =>
   Qbi N a0 a1 n (wI (v3+1)) (wI (v4+1)) (v5.set v4.toNat (U1.mk p9.Stamp p8 p9.Live)))
  else some (.nxt v5)
def Qej (N:Nat) (a0:WD) (a1:List Int):Option (WD×Int):=bnd (Qcc N a0) λ y1=>bif (!y1) then some ((WD.mk [] [] []),1) else bnd (Qb0 N a0) λ y2=>bif (((a1.length:Nat):Int) != ((y2.length:Nat):Int)) then some ((WD.mk [] [] []),1) else grd (a0.Slots.length*24<=140737488355328) <| bnd (Qbi N a0 a1 N 0 0 a0.Slots) λ e=>exK e (λ r=>some r) λ y10=>some ((WD.mk y10 a0.Scopes a0.Issued),0)
def Qbj (N:Nat) (a1:List Int):Nat->Int->Int->(List Uj)->Option (List Uj)
 | 0,_,_,_=>none
 | n+1,v3,v4,v5 =>
  grd (v5.length<=140737488355328) <|
  bif (decide (v4<((v5.length:Nat):Int))) then (bnd (Xb v5 v4) λ p6 =>
   bif p6.Live then (bnd (Xb a1 v3) λ p7 =>
    bnd (Xb v5 v4) λ p8 =>
    Qbj N a1 n (wI (v3+1)) (wI (v4+1)) (v5.set v4.toNat (Uj.mk p8.Gen p7 p8.Live)))
   else Qbj N a1 n v3 (wI (v4+1)) v5)
  else some v5
def QcF (N:Nat) (a0:WT) (a1:List Int):Option (WT×Int):=bnd (Qcd N a0) λ y1=>bif (!y1) then some ((WT.mk []),1) else bnd (QaM N a0) λ y2=>grd (y2.length<=140737488355328) <| bif (((a1.length:Nat):Int) != ((y2.length:Nat):Int)) then some ((WT.mk []),1) else grd (a0.Entries.length*24<=140737488355328) <| bnd (Qbj N a1 N 0 0 a0.Entries) λ y9=>some ((WT.mk y9),0)
def QaP (N:Nat) (a0:Ud) (y4:Wv×List Int×List Int×UC×Int) (y5:List Int) (y6:List Int) (y7:WD×Int) (y8:WT×Int) (y9:WT×Int):Nat->Int->(List U4)->Option (List U4)
 | 0,_,_=>none
 | n+1,v10,v11 =>
  bif (decide (v10<((a0.Pins.length:Nat):Int))) then (bnd (Xb y4.2.1 (wI ((wI ((wI (((a0.Roots.length:Nat):Int)+((y5.length:Nat):Int)))+((y6.length:Nat):Int)))+v10))) λ p12 =>
   bnd (Xb a0.Pins v10) λ p13 =>
   grd ((v11.length+1)*16<=140737488355328) <|
   QaP N a0 y4 y5 y6 y7 y8 y9 n (wI (v10+1)) (v11++[(U4.mk p12 p13.Count)]))
  else some v11
def Qbk (N:Nat) (a0:Ud):Option (Ud×UC×Int):=bnd (QbH N a0) λ y1=>bif (!y1) then some ((Ud.mk zHp (WD.mk [] [] []) (WT.mk []) (WT.mk []) [] []),(UC.mk 0 0 0 0 0 0),19) else bnd (QeE N a0) λ y2=>bnd (QaM N a0.Weaks) λ y3=>bnd (QcE N a0.Heap y2 y3) λ y4=>bif (y4.2.2.2.2 != 0) then some ((Ud.mk zHp (WD.mk [] [] []) (WT.mk []) (WT.mk []) [] []),(UC.mk 0 0 0 0 0 0),y4.2.2.2.2) else bnd (Qb0 N a0.Locals) λ y5=>bnd (QaM N a0.Globals) λ y6=>grd (y6.length<=140737488355328) <| grd (0<=0/\0<=((a0.Roots.length:Nat):Int)/\((a0.Roots.length:Nat):Int)<=((y4.2.1.length:Nat):Int)) <| grd ((min (((a0.Roots.length:Nat):Int).toNat) y4.2.1.length)*8<=140737488355328) <| grd (0<=((a0.Roots.length:Nat):Int)/\((a0.Roots.length:Nat):Int)<=(wI (((a0.Roots.length:Nat):Int)+((y5.length:Nat):Int)))/\(wI (((a0.Roots.length:Nat):Int)+((y5.length:Nat):Int)))<=((y4.2.1.length:Nat):Int)) <| bnd (Qej N a0.Locals ((y4.2.1.drop ((a0.Roots.length:Nat):Int).toNat).take ((wI (((a0.Roots.length:Nat):Int)+((y5.length:Nat):Int))).toNat-((a0.Roots.length:Nat):Int).toNat))) λ y7=>grd (0<=(wI (((a0.Roots.length:Nat):Int)+((y5.length:Nat):Int)))/\(wI (((a0.Roots.length:Nat):Int)+((y5.length:Nat):Int)))<=(wI ((wI (((a0.Roots.length:Nat):Int)+((y5.length:Nat):Int)))+((y6.length:Nat):Int)))/\(wI ((wI (((a0.Roots.length:Nat):Int)+((y5.length:Nat):Int)))+((y6.length:Nat):Int)))<=((y4.2.1.length:Nat):Int)) <| bnd (QcF N a0.Globals ((y4.2.1.drop (wI (((a0.Roots.length:Nat):Int)+((y5.length:Nat):Int))).toNat).take ((wI ((wI (((a0.Roots.length:Nat):Int)+((y5.length:Nat):Int)))+((y6.length:Nat):Int))).toNat-(wI (((a0.Roots.length:Nat):Int)+((y5.length:Nat):Int))).toNat))) λ y8=>bnd (QcF N a0.Weaks y4.2.2.1) λ y9=>bnd (QaP N a0 y4 y5 y6 y7 y8 y9 N 0 []) λ y14=>some ((Ud.mk y4.1 y7.1 y8.1 y9.1 y14 (y4.2.1.take ((a0.Roots.length:Nat):Int).toNat)),y4.2.2.2.1,0)
def Qc4 (N:Nat) (a0:Wy) (a1:List Int):Nat->Int->Option (Ex Bool Unit)
 | 0,_=>none
 | n+1,v1 =>
  bif (decide (v1<((a1.length:Nat):Int))) then (bnd (Xb a1 v1) λ p2 =>
   bif (decide (p2>(wU ((a0.Things.length:Nat):Int)))) then some (.ret false)
   else Qc4 N a0 a1 n (wI (v1+1)))
  else some (.nxt ())
def Qc5 (N:Nat) (a0:Wy) (a1:List Int):Option Bool:=bnd (Qc4 N a0 a1 N 0) λ e=>exK e (λ r=>some r) λ y3=>some true
def Qd3 (N:Nat) (a0:UL):Nat->Int->(List Int)->Option (List Int)
 | 0,_,_=>none
 | n+1,v1,v2 =>
  bif (decide (v1<((a0.Fields.length:Nat):Int))) then (bnd (QbN N a0.Header v1) λ y3 =>
   bif y3 then (bnd (Xb a0.Fields v1) λ p4 =>
    grd ((v2.length+1)*8<=140737488355328) <|
    Qd3 N a0 n (wI (v1+1)) (v2++[p4]))
   else Qd3 N a0 n (wI (v1+1)) v2)
  else some v2
def Qgv (N:Nat) (a0:UL):Option (List Int):=bnd (Qd3 N a0 N 0 []) λ y5=>some y5
def QeO (N:Nat) (a0:Wy) (a1:Int):Nat->Int->Option (Ex Int Unit)
 | 0,_=>none
 | n+1,v1 =>
  bif (decide (v1<((a0.Marks.length:Nat):Int))) then (bnd (Xb a0.Marks v1) λ p2 =>
   bif (p2.Id==a1) then some (.ret v1)
   else QeO N a0 a1 n (wI (v1+1)))
  else some (.nxt ())
def QfF (N:Nat) (a0:Wy) (a1:Int):Option Int:=bnd (QeO N a0 a1 N 0) λ e=>exK e (λ r=>some r) λ y3=>some (-1)
def Qdw (N:Nat) (a0:Wy):Nat->Int->Option (Ex Bool Unit)
 | 0,_=>none
 | n+1,v5 =>
  bif (decide (v5<((a0.Things.length:Nat):Int))) then (bnd (Xb a0.Things v5) λ p6 =>
   bnd (QcU N p6.Header) λ y7 =>
   bif (!y7) then some (.ret false)
   else bif (p6.Header.Kind==0) then some (.ret false)
   else bif (((p6.Fields.length:Nat):Int) != p6.Header.Length) then some (.ret false)
   else bnd (Qgv N p6) λ y8 =>
   bnd (Qc5 N a0 y8) λ y9 =>
   bif (!y9) then some (.ret false)
   else Qdw N a0 n (wI (v5+1)))
  else some (.nxt ())
def Qdx (N:Nat) (a0:Wy) (y11:List Int):Nat->Int->Option (Ex Bool Unit)
 | 0,_=>none
 | n+1,v12 =>
  grd (y11.length<=140737488355328) <|
  bif (decide (v12<((y11.length:Nat):Int))) then (bnd (Xb y11 v12) λ p13 =>
   bif (p13==0) then some (.ret false)
   else Qdx N a0 y11 n (wI (v12+1)))
  else some (.nxt ())
def Qdy (N:Nat) (a0:Wy) (y11:List Int):Nat->Int->Option (Ex Bool Unit)
 | 0,_=>none
 | n+1,v15 =>
  bif (decide (v15<((a0.Marks.length:Nat):Int))) then (bnd (Xb a0.Marks v15) λ p16 =>
   bif (decide (p16.Id<1)) then some (.ret false)
   else bif (decide (p16.Id>(wU ((a0.Things.length:Nat):Int)))) then some (.ret false)
   else bnd (QfF N a0 p16.Id) λ y17 =>
   bif (y17 != v15) then some (.ret false)
   else bif (decide (p16.Count<1)) then some (.ret false)
   else bif (decide (p16.Count>1000)) then some (.ret false)
   else Qdy N a0 y11 n (wI (v15+1)))
  else some (.nxt ())
def QdK (N:Nat) (a0:Wy):Option Bool:=bnd (Qax N a0.Conf) λ y1=>bif (!y1) then some false else bnd (Qcc N a0.Locals) λ y2=>bif (!y2) then some false else bnd (Qcd N a0.Globals) λ y3=>bif (!y3) then some false else bnd (Qcd N a0.Weaks) λ y4=>bif (!y4) then some false else bif (decide (((a0.Marks.length:Nat):Int)>64)) then some false else bnd (Qdw N a0 N 0) λ e=>exK e (λ r=>some r) λ y10=>bnd (QaM N a0.Globals) λ y11=>bnd (Qdx N a0 y11 N 0) λ e=>exK e (λ r=>some r) λ y14=>bnd (Qdy N a0 y11 N 0) λ e=>exK e (λ r=>some r) λ y18=>bnd (Qc5 N a0 a0.Roots) λ y19=>bif y19 then (bnd (Qb0 N a0.Locals) λ y20=>bnd (Qc5 N a0 y20) λ y21=>bif y21 then (bnd (Qc5 N a0 y11) λ y22=>bif y22 then (bnd (QaM N a0.Weaks) λ y23=>bnd (Qc5 N a0 y23) λ y24=>some y24) else some false) else some false) else some false
def QdZ (N:Nat) (a0:Wy):Nat->Int->(List Int)->Option (List Int)
 | 0,_,_=>none
 | n+1,v3,v4 =>
  bif (decide (v3<((a0.Marks.length:Nat):Int))) then (bnd (Xb a0.Marks v3) λ p5 =>
   grd ((v4.length+1)*8<=140737488355328) <|
   QdZ N a0 n (wI (v3+1)) (v4++[p5.Id]))
  else some v4
def Qgi (N:Nat) (a0:Wy):Option (List Int):=grd (a0.Roots.length*8<=140737488355328) <| bnd (Qb0 N a0.Locals) λ y1=>grd ((a0.Roots.length+y1.length)*8<=140737488355328) <| bnd (QaM N a0.Globals) λ y2=>grd (((a0.Roots.length+y1.length)+y2.length)*8<=140737488355328) <| bnd (QdZ N a0 N 0 ((a0.Roots++y1)++y2)) λ y6=>some y6
def Qb3 (N:Nat) (a0:Wy):Nat->Int->(List Bool)->(List Int)->Option (List Bool)
 | 0,_,_,_=>none
 | n+1,v3,v4,v5 =>
  grd (v5.length<=140737488355328) <|
  bif (decide (v3<((v5.length:Nat):Int))) then (bnd (Xb v5 v3) λ p6 =>
   bif (p6==0) then Qb3 N a0 n (wI (v3+1)) v4 v5
   else bnd (Xb v5 v3) λ p7 =>
   bnd (Xb v4 (wU (p7-1))) λ p8 =>
   bif p8 then Qb3 N a0 n (wI (v3+1)) v4 v5
   else bnd (Xb v5 v3) λ p9 =>
   bnd (Xb v4 (wU (p9-1))) λ p10 =>
   bnd (Xb v5 v3) λ p11 =>
   bnd (Xb a0.Things (wU (p11-1))) λ p12 =>
   bnd (Qgv N p12) λ y13 =>
   grd ((v5.length+y13.length)*8<=140737488355328) <|
   Qb3 N a0 n (wI (v3+1)) (v4.set (wU (p9-1)).toNat true) (v5++y13))
  else some v4
def QfN (N:Nat) (a0:Wy):Option (List Bool):=bnd (QdK N a0) λ y1=>bif (!y1) then some [] else grd (0<=((a0.Things.length:Nat):Int)/\((a0.Things.length:Nat):Int).toNat<=140737488355328) <| bnd (Qgi N a0) λ y2=>bnd (Qb3 N a0 N 0 (List.replicate ((a0.Things.length:Nat):Int).toNat false) y2) λ y14=>some y14
def QaQ (N:Nat) (a0:Wy) (y2:List Bool):Nat->Int->(List Int)->Option (List Int)
 | 0,_,_=>none
 | n+1,v4,v5 =>
  grd (v5.length<=140737488355328) <|
  bif (decide (v4<((v5.length:Nat):Int))) then (bnd (Xb v5 v4) λ p6 =>
   bif (p6 != 0) then (bnd (Xb v5 v4) λ p7 =>
    bnd (Xb y2 (wU (p7-1))) λ p8 =>
    bif (!p8) then (bnd (Xb v5 v4) λ p9 =>
     QaQ N a0 y2 n (wI (v4+1)) (v5.set v4.toNat 0))
    else QaQ N a0 y2 n (wI (v4+1)) v5)
   else QaQ N a0 y2 n (wI (v4+1)) v5)
  else some v5
def Qdl (N:Nat) (a0:Wy):Option (Wy×Int):=bnd (QdK N a0) λ y1=>bif (!y1) then some (zWd,19) else bnd (QfN N a0) λ y2=>bnd (QaM N a0.Weaks) λ y3=>bnd (QaQ N a0 y2 N 0 y3) λ y10=>bnd (QcF N a0.Weaks y10) λ y11=>some ((Wy.mk a0.Conf a0.Things a0.Locals a0.Globals y11.1 a0.Marks a0.Roots),0)
def Qac (N:Nat) (a0:Int):Option (Ud×Int×Int):=some ((Ud.mk zHp (WD.mk [] [] []) (WT.mk []) (WT.mk []) [] []),0,a0)
def Qcg (N:Nat) (a0:Int) (a1:Int) (a2:Int):Option (WI×Bool):=bif (a0==1) then (bif (decide (a1<=2147483647)) then some ((WI.mk a0 (wI (YF .u64 a1 2147483647)) (wW a2)),(decide (a2<=4294967295))) else some ((WI.mk a0 (wI (YF .u64 a1 2147483647)) (wW a2)),false)) else some ((WI.mk a0 (wI (YF .u64 a1 2147483647)) 0),(decide (a1<=2147483647)))
def Qc6 (N:Nat) (a0:Um) (a1:WI):Option Bool:=bnd (QcU N a1) λ y1=>bif y1 then (bif (a1.Kind != 0) then (bnd (QcB N a1) λ y2=>bnd (QeV N a0 y2) λ y3=>some (y3 != (-1))) else some false) else some false
def Qes (N:Nat) (a0:WD) (a1:Int):Option (WD×Int×Int×Int):=bnd (Qcc N a0) λ y1=>bif (!y1) then some ((WD.mk [] [] []),0,0,1) else bif (a1==0) then some ((WD.mk [] [] []),0,0,1) else bif (((a0.Scopes.length:Nat):Int)==0) then some ((WD.mk [] [] []),0,0,9) else bnd (Xb a0.Scopes (wI (((a0.Scopes.length:Nat):Int)-1))) λ p2=>bnd (Qgu N a0 p2.From ((a0.Slots.length:Nat):Int)) λ y3=>bnd (Xb a0.Scopes (wI (((a0.Scopes.length:Nat):Int)-1))) λ p4=>bif (decide (y3>=p4.Cap)) then some ((WD.mk [] [] []),0,0,10) else bif (((a0.Issued.length:Nat):Int)==4096) then some ((WD.mk [] [] []),0,0,18) else grd (a0.Issued.length*8<=140737488355328) <| grd ((a0.Issued.length+1)*8<=140737488355328) <| grd (a0.Slots.length*24<=140737488355328) <| grd ((a0.Slots.length+1)*24<=140737488355328) <| some ((WD.mk (a0.Slots++[(U1.mk (wI (((a0.Issued.length:Nat):Int)+1)) a1 true)]) a0.Scopes (a0.Issued++[((a0.Slots.length:Nat):Int)])),((a0.Slots.length:Nat):Int),(wI (((a0.Issued.length:Nat):Int)+1)),0)
def QfZ (N:Nat) (a0:Um):Option Int:=bnd (Qax N a0) λ y1=>bif (!y1) then some 0 else some (wI (a0.Pages.tdiv 4))
def Qdz (N:Nat) (a0:List WM):Nat->Int->Int->Option Int
 | 0,_,_=>none
 | n+1,v1,v2 =>
  bif (decide (v2<((a0.length:Nat):Int))) then (bnd (Xb a0 v2) λ p3 =>
   bif (p3.Kind != 0) then Qdz N a0 n (wI (v1+1)) (wI (v2+1))
   else Qdz N a0 n v1 (wI (v2+1)))
  else some v1
def Qf0 (N:Nat) (a0:List WM):Option Int:=bnd (Qdz N a0 N 0 0) λ y4=>some y4
def QdL (N:Nat) (a0:Wv) (a1:Int):Option (Wv×Int×Bool):=grd (a0.Pages.length*32<=140737488355328) <| bnd (QfZ N a0.Conf) λ y1=>bnd (Qf0 N a0.Pages) λ y2=>jn (λ (_:Unit)=>bnd (QcW N a0.Pages 1) λ y5=>bif (decide (y5<0)) then some (zHp,0,false) else bif (decide (y2>=y1)) then some (zHp,0,false) else bnd (QcX N a0.Pages y5 a0.Space) λ y6=>bnd (Xb y6.1 y5) λ p11=>bnd (Xb y6.1 y5) λ p12=>bnd (Xb y6.1 y5) λ p13=>some ((Wv.mk a0.Conf a0.Words (y6.1.set y5.toNat (WM.mk p13.Kind p13.Space (wI (p12.Used+a1)) p13.Pins)) a0.Space y5),(wU (wI ((wI (4096+(wI (y5*a0.Conf.PageWords))))+p11.Used))),true)) λ j1=>bif (decide (a0.Bump<0)) then j1 () else bnd (Xb a0.Pages a0.Bump) λ p3=>bif (p3.Space != a0.Space) then j1 () else bnd (Xb a0.Pages a0.Bump) λ p4=>bif (decide ((wI (p4.Used+a1))>a0.Conf.PageWords)) then j1 () else bif (decide (y2>y1)) then j1 () else bnd (Xb a0.Pages a0.Bump) λ p14=>bnd (Xb a0.Pages a0.Bump) λ p15=>bnd (Xb a0.Pages a0.Bump) λ p16=>some ((Wv.mk a0.Conf a0.Words (a0.Pages.set a0.Bump.toNat (WM.mk p16.Kind p16.Space (wI (p15.Used+a1)) p16.Pins)) a0.Space a0.Bump),(wU (wI ((wI (4096+(wI (a0.Bump*a0.Conf.PageWords))))+p14.Used))),true)
def Qfa (N:Nat) (a0:Um) (a1:List WM) (a2:Int) (a3:Int) (a4:Int):Option (List WM×Int):=bnd (QeV N a0 a4) λ y1=>bif (decide (y1<1)) then some ([],1) else bif (decide (a3<0)) then some ([],1) else bif (decide (a3>1)) then some ([],1) else bnd (Qeh N a1 a2 y1 (WM.mk 2 a3 a4 0) (WM.mk 3 a3 0 0)) λ y2=>some (y2.1,y2.2)
def Qet (N:Nat) (a0:Wv) (a1:Int) (a2:Int):Option (Wv×Int×Bool):=bnd (QcW N a0.Pages a2) λ y1=>bif (decide (y1<0)) then some (zHp,0,false) else bnd (Qf0 N a0.Pages) λ y2=>bnd (QfZ N a0.Conf) λ y3=>bif (decide ((wI (y2+a2))>y3)) then some (zHp,0,false) else bnd (Qfa N a0.Conf a0.Pages y1 a0.Space a1) λ y4=>some ((Wv.mk a0.Conf a0.Words y4.1 a0.Space a0.Bump),(wU (wI (4096+(wI (y1*a0.Conf.PageWords))))),true)
def QcG (N:Nat) (a0:Wv) (a1:Int) (a2:WI):Option (Wv×Int):=bnd (Qc1 N a2) λ y1=>bnd (Qab N a0) λ y2=>bif (!y2) then some (zHp,1) else bif (y1.2 != 0) then some (zHp,1) else grd (0<=a2.Length/\a2.Length.toNat*8<=140737488355328) <| grd ((1+a2.Length.toNat)*8<=140737488355328) <| bnd (QcV N a0.Words a1 ([y1.1]++(List.replicate a2.Length.toNat (0:Int)))) λ y3=>bif (y3.2 != 0) then some (zHp,y3.2) else some ((Wv.mk a0.Conf y3.1 a0.Pages a0.Space a0.Bump),0)
def Qeu (N:Nat) (a0:Wv) (a1:WI):Option (Wv×Int×Int):=bnd (Qab N a0) λ y1=>bif (!y1) then some (zHp,0,1) else bnd (Qc6 N a0.Conf a1) λ y2=>bif (!y2) then some (zHp,0,1) else bnd (QcB N a1) λ y3=>bnd (QeV N a0.Conf y3) λ y4=>bnd (QdL N a0 y3) λ y5=>jn (λ (x7:Int) (x8:Bool) (x9:Int) (x10:Int) (x11:List Int) (x12:List WM) (x13:Int) (x14:Int)=>bif (!x8) then some (zHp,0,3) else bnd (QcG N (Wv.mk (Um.mk x9 x10) x11 x12 x13 x14) x7 a1) λ y15=>some (y15.1,x7,0)) λ j1=>bif (decide (y4>0)) then (bnd (Qet N a0 y3 y4) λ y6=>j1 y6.2.1 y6.2.2 y6.1.Conf.PageWords y6.1.Conf.Pages y6.1.Words y6.1.Pages y6.1.Space y6.1.Bump) else j1 y5.2.1 y5.2.2 y5.1.Conf.PageWords y5.1.Conf.Pages y5.1.Words y5.1.Pages y5.1.Space y5.1.Bump
def Qch (N:Nat) (a0:Ud) (a1:WI):Option (Ud×Int×Int):=bnd (QbH N a0) λ y1=>bif (!y1) then some ((Ud.mk zHp (WD.mk [] [] []) (WT.mk []) (WT.mk []) [] []),0,19) else bnd (Qeu N a0.Heap a1) λ y2=>jn (λ (x5:Int) (x6:Int) (x7:Int) (x8:Int) (x9:List Int) (x10:List WM) (x11:Int) (x12:Int) (x13:List U1) (x14:List U6) (x15:List Int) (x16:List Uj) (x17:List Uj) (x18:List U4) (x19:List Int) (x20:Int) (x21:Int) (x22:List Int) (x23:List WM) (x24:Int) (x25:Int)=>bif (x6 != 0) then some ((Ud.mk zHp (WD.mk [] [] []) (WT.mk []) (WT.mk []) [] []),0,x6) else some ((Ud.mk (Wv.mk (Um.mk x20 x21) x22 x23 x24 x25) (WD.mk x13 x14 x15) (WT.mk x16) (WT.mk x17) x18 x19),x5,0)) λ j1=>bif (y2.2.2==3) then (bnd (Qbk N a0) λ y3=>bif (y3.2.2 != 0) then some ((Ud.mk zHp (WD.mk [] [] []) (WT.mk []) (WT.mk []) [] []),0,y3.2.2) else bnd (Qeu N y3.1.Heap a1) λ y4=>j1 y4.2.1 y4.2.2 y3.1.Heap.Conf.PageWords y3.1.Heap.Conf.Pages y3.1.Heap.Words y3.1.Heap.Pages y3.1.Heap.Space y3.1.Heap.Bump y3.1.Locals.Slots y3.1.Locals.Scopes y3.1.Locals.Issued y3.1.Globals.Entries y3.1.Weaks.Entries y3.1.Pins y3.1.Roots y4.1.Conf.PageWords y4.1.Conf.Pages y4.1.Words y4.1.Pages y4.1.Space y4.1.Bump) else j1 y2.2.1 y2.2.2 a0.Heap.Conf.PageWords a0.Heap.Conf.Pages a0.Heap.Words a0.Heap.Pages a0.Heap.Space a0.Heap.Bump a0.Locals.Slots a0.Locals.Scopes a0.Locals.Issued a0.Globals.Entries a0.Weaks.Entries a0.Pins a0.Roots y2.1.Conf.PageWords y2.1.Conf.Pages y2.1.Words y2.1.Pages y2.1.Space y2.1.Bump
def QgN (N:Nat) (a0:IV):Option Bool:=bif (decide (a0.Tag>=1)) then (bif (decide (a0.Tag<=3)) then (bif (decide (a0.Index>=0)) then (bif (decide (a0.Index<=65535)) then (bif (decide (a0.Stamp>=1)) then some (decide (a0.Stamp<=4294967295)) else some false) else some false) else some false) else some false) else some false
def QbO (N:Nat) (a0:IV):Option (Int×Int):=bnd (QgN N a0) λ y1=>bif (!y1) then some (0,1) else some ((wU ((wU ((wU a0.Tag)+(K4 .u64 (wU a0.Index) 2)))+(K4 .u64 (wU a0.Stamp) 18))),0)
def Qci (N:Nat) (a0:Ud) (a1:Int):Option (Ud×Int×Int):=bif (a1==0) then some (a0,0,0) else bnd (Qes N a0.Locals a1) λ y1=>bif (y1.2.2.2 != 0) then (bnd (Qac N y1.2.2.2) λ y2=>some (y2.1,y2.2.1,y2.2.2)) else bnd (QbO N (IV.mk 1 y1.2.1 y1.2.2.1)) λ y3=>some ((Ud.mk a0.Heap y1.1 a0.Globals a0.Weaks a0.Pins a0.Roots),y3.1,0)
def Qc7 (N:Nat) (a0:Ud) (a1:Int) (a2:Int) (a3:Int):Option (Ud×Int×Int):=bif (decide (((a0.Pins.length:Nat):Int)>0)) then (bnd (Qac N 15) λ y1=>some (y1.1,y1.2.1,y1.2.2)) else bnd (Qcg N a1 a2 a3) λ y2=>jn (λ (_:Unit)=>bnd (Qac N 1) λ y4=>some (y4.1,y4.2.1,y4.2.2)) λ j1=>bif (!y2.2) then j1 () else bnd (Qc6 N a0.Heap.Conf y2.1) λ y3=>bif (!y3) then j1 () else bnd (Qes N a0.Locals 1) λ y5=>bif (y5.2.2.2 != 0) then (bnd (Qac N y5.2.2.2) λ y6=>some (y6.1,y6.2.1,y6.2.2)) else bnd (Qch N a0 y2.1) λ y7=>bif (y7.2.2 != 0) then (bnd (Qac N y7.2.2) λ y8=>some (y8.1,y8.2.1,y8.2.2)) else bnd (Qci N y7.1 y7.2.1) λ y9=>some (y9.1,y9.2.1,y9.2.2)
def Qb4 (N:Nat) (a0:Int):Option (IV×Int):=bif (a0==0) then some ((IV.mk 0 0 0),5) else bnd (QbO N (IV.mk (wI (YF .u64 a0 3)) (wI (YF .u64 (Yf .u64 a0 2) 65535)) (wI (Yf .u64 a0 18)))) λ y1=>bif (y1.2 != 0) then some ((IV.mk 0 0 0),6) else bif (y1.1 != a0) then some ((IV.mk 0 0 0),6) else some ((IV.mk (wI (YF .u64 a0 3)) (wI (YF .u64 (Yf .u64 a0 2) 65535)) (wI (Yf .u64 a0 18))),0)
def Qe0 (N:Nat) (a0:WD) (a1:Int) (a2:Int):Option (Int×Int):=bnd (Qcc N a0) λ y1=>bif (!y1) then some (0,1) else bif (decide (a2<1)) then some (0,6) else bif (decide (a2>((a0.Issued.length:Nat):Int))) then some (0,6) else bnd (Xb a0.Issued (wI (a2-1))) λ p2=>bif (p2 != a1) then some (0,6) else bif (decide (a1>=((a0.Slots.length:Nat):Int))) then some (0,7) else bnd (Xb a0.Slots a1) λ p3=>bif (p3.Stamp != a2) then some (0,7) else bnd (Xb a0.Slots a1) λ p4=>bif (!p4.Live) then some (0,8) else bnd (Xb a0.Slots a1) λ p5=>some (p5.Ref,0)
def QdT (N:Nat) (a0:WT) (a1:Int) (a2:Int):Option (Int×Int):=bnd (Qcd N a0) λ y1=>bif (!y1) then some (0,1) else bif (decide (a1<0)) then some (0,6) else bif (decide (a1>=((a0.Entries.length:Nat):Int))) then some (0,6) else bif (decide (a2<1)) then some (0,6) else bnd (Xb a0.Entries a1) λ p2=>bif (decide (a2>p2.Gen)) then some (0,6) else bnd (Xb a0.Entries a1) λ p3=>bif (decide (a2<p3.Gen)) then some (0,8) else bnd (Xb a0.Entries a1) λ p4=>bif (!p4.Live) then some (0,8) else bnd (Xb a0.Entries a1) λ p5=>some (p5.Ref,0)
def Qbl (N:Nat) (a0:Ud) (a1:Int):Option (Int×Int):=bnd (QbH N a0) λ y1=>bif (!y1) then some (0,19) else bif (a1==0) then some (0,0) else bnd (Qb4 N a1) λ y2=>bif (y2.2 != 0) then some (0,y2.2) else bif (y2.1.Tag==1) then (bnd (Qe0 N a0.Locals y2.1.Index y2.1.Stamp) λ y3=>some (y3.1,y3.2)) else bif (y2.1.Tag==2) then (bnd (QdT N a0.Globals y2.1.Index y2.1.Stamp) λ y4=>some (y4.1,y4.2)) else bnd (QdT N a0.Weaks y2.1.Index y2.1.Stamp) λ y5=>some (y5.1,y5.2)
def QcY (N:Nat) (a0:Ud) (a1:Int):Option (Int×Int):=bnd (Qbl N a0 a1) λ y1=>bif (y1.2==0) then (bif (y1.1==0) then some (0,5) else some (y1.1,y1.2)) else some (y1.1,y1.2)
def QcZ (N:Nat) (a0:Ud) (a1:Int) (a2:Int) (a3:Bool):Option (Int×Int×Int):=bnd (QcY N a0 a1) λ y1=>bif (y1.2 != 0) then some (0,0,y1.2) else bnd (Qbn N a0.Heap y1.1) λ y2=>bif (decide (a2>=(wU y2.1.Length))) then some (0,0,2) else bnd (QbN N y2.1 (wI a2)) λ y3=>bif (!(y3==a3)) then some (0,0,4) else some (y1.1,(wI a2),0)
def QbI (N:Nat) (a0:Wv) (a1:Int) (a2:Int):Option (Int×Int):=bnd (Qbn N a0 a1) λ y1=>bif (y1.2 != 0) then some (0,y1.2) else bif (decide (a2<0)) then some (0,2) else bif (decide (a2>=y1.1.Length)) then some (0,2) else bnd (Qbm N a0.Words (wU ((wU (a1+1))+(wU a2)))) λ y2=>some (y2.1,y2.2)
def QbC (N:Nat) (a0:Wv) (a1:Int) (a2:Int) (a3:Int):Option (Wv×Int):=bnd (QbI N a0 a1 a2) λ y1=>bif (y1.2 != 0) then some (zHp,y1.2) else bnd (QdJ N a0.Words (wU ((wU (a1+1))+(wU a2))) a3) λ y2=>some ((Wv.mk a0.Conf y2.1 a0.Pages a0.Space a0.Bump),0)
def QdM (N:Nat) (a0:Ud) (a1:Int) (a2:Int) (a3:Int) (a4:Int):Option (Ud×Int×Int):=jn (λ (x3:Int) (x4:Int) (x5:Int)=>bif (x5 != 0) then (bnd (Qac N x5) λ y6=>some (y6.1,y6.2.1,y6.2.2)) else bnd (QbI N a0.Heap x3 x4) λ y7=>bif (a1==6) then some (a0,y7.1,0) else bif (a1==8) then (bnd (Qci N a0 y7.1) λ y8=>some (y8.1,y8.2.1,y8.2.2)) else jn (λ (x11:Int)=>bnd (QbC N a0.Heap x3 x4 x11) λ y12=>some ((Ud.mk y12.1 a0.Locals a0.Globals a0.Weaks a0.Pins a0.Roots),0,0)) λ j2=>bif (a1==9) then (bnd (Qbl N a0 a4) λ y9=>bif (y9.2 != 0) then (bnd (Qac N y9.2) λ y10=>some (y10.1,y10.2.1,y10.2.2)) else j2 y9.1) else j2 a4) λ j1=>bif (a1==8) then (bnd (QcZ N a0 a2 a3 true) λ y1=>j1 y1.1 y1.2.1 y1.2.2) else bnd (QcZ N a0 a2 a3 (a1==9)) λ y2=>j1 y2.1 y2.2.1 y2.2.2
def QdN (N:Nat) (a0:Ud) (a1:Int) (a2:Int) (a3:Int):Option (Ud×Int×Int):=jn (λ (x1:Bool)=>bif x1 then (bnd (QcY N a0 a2) λ y2=>bif (y2.2 != 0) then (bnd (Qac N y2.2) λ y3=>some (y3.1,y3.2.1,y3.2.2)) else bnd (Qbn N a0.Heap y2.1) λ y4=>bif (a1==4) then some (a0,(wU y4.1.Length),0) else some (a0,(wU y4.1.Kind),0)) else bif (a1==10) then (bnd (Qbl N a0 a2) λ y5=>bif (y5.2 != 0) then (bnd (Qac N y5.2) λ y6=>some (y6.1,y6.2.1,y6.2.2)) else bnd (Qbl N a0 a3) λ y7=>bif (y7.2 != 0) then (bnd (Qac N y7.2) λ y8=>some (y8.1,y8.2.1,y8.2.2)) else bif (y5.1==y7.1) then some (a0,1,0) else some (a0,0,0)) else bnd (Qbl N a0 a2) λ y9=>bif (y9.2 != 0) then (bnd (Qac N y9.2) λ y10=>some (y10.1,y10.2.1,y10.2.2)) else bnd (Qci N a0 y9.1) λ y11=>some (y11.1,y11.2.1,y11.2.2)) λ j1=>bif (a1==4) then j1 true else j1 (a1==5)
def QbP (N:Nat) (a0:WT) (a1:Int):Nat->Int->Option (Ex (WT×Int×Int×Int) Unit)
 | 0,_=>none
 | n+1,v2 =>
  grd (a0.Entries.length<=140737488355328) <|
  bif (decide (v2<((a0.Entries.length:Nat):Int))) then (bnd (Xb a0.Entries v2) λ p3 =>
   bif (!p3.Live) then (bnd (Xb a0.Entries v2) λ p4 =>
    bif (decide (p4.Gen<4294967295)) then (bnd (Xb a0.Entries v2) λ p5 =>
     bnd (Xb a0.Entries v2) λ p6 =>
     bnd (Xb (a0.Entries.set v2.toNat (Uj.mk (wI (p5.Gen+1)) a1 true)) v2) λ p7 =>
     some (.ret ((WT.mk (a0.Entries.set v2.toNat (Uj.mk (wI (p5.Gen+1)) a1 true))),v2,p7.Gen,0)))
    else QbP N a0 a1 n (wI (v2+1)))
   else QbP N a0 a1 n (wI (v2+1)))
  else some (.nxt ())
def Qcs (N:Nat) (a0:WT) (a1:Int):Option (WT×Int×Int×Int):=bnd (Qcd N a0) λ y1=>bif (!y1) then some ((WT.mk []),0,0,1) else grd (a0.Entries.length*24<=140737488355328) <| bnd (QbP N a0 a1 N 0) λ e=>exK e (λ r=>some r) λ y8=>grd (a0.Entries.length<=140737488355328) <| bif (((a0.Entries.length:Nat):Int)==64) then some ((WT.mk []),0,0,18) else grd ((a0.Entries.length+1)*24<=140737488355328) <| grd (a0.Entries.length<=140737488355328) <| some ((WT.mk (a0.Entries++[(Uj.mk 1 a1 true)])),((a0.Entries.length:Nat):Int),1,0)
def QcH (N:Nat) (a0:Ud) (a1:Int) (a2:Int):Option (Ud×Int×Int):=bnd (QcY N a0 a2) λ y1=>bif (y1.2 != 0) then (bnd (Qac N y1.2) λ y2=>some (y2.1,y2.2.1,y2.2.2)) else jn (λ (x3:Int) (x4:List Uj)=>bnd (Qcs N (WT.mk x4) y1.1) λ y5=>bif (y5.2.2.2 != 0) then (bnd (Qac N y5.2.2.2) λ y6=>some (y6.1,y6.2.1,y6.2.2)) else jn (λ (x7:List Uj) (x8:List Uj)=>bnd (QbO N (IV.mk x3 y5.2.1 y5.2.2.1)) λ y9=>some ((Ud.mk a0.Heap a0.Locals (WT.mk x7) (WT.mk x8) a0.Pins a0.Roots),y9.1,0)) λ j2=>bif (a1==15) then j2 a0.Globals.Entries y5.1.Entries else j2 y5.1.Entries a0.Weaks.Entries) λ j1=>bif (a1==15) then j1 3 a0.Weaks.Entries else j1 2 a0.Globals.Entries
def QdU (N:Nat) (a0:WD) (a1:Int) (a2:Int):Option (WD×Int):=bnd (Qe0 N a0 a1 a2) λ y1=>bif (y1.2 != 0) then some ((WD.mk [] [] []),y1.2) else grd (a0.Slots.length*24<=140737488355328) <| bnd (Xb a0.Slots a1) λ p2=>some ((WD.mk (a0.Slots.set a1.toNat (U1.mk a2 0 false)) a0.Scopes a0.Issued),0)
def QgY (N:Nat) (a0:WT) (a1:Int) (a2:Uj):Option WT:=grd (a0.Entries.length*24<=140737488355328) <| bnd (Xb a0.Entries a1) λ p1=>some (WT.mk (a0.Entries.set a1.toNat a2))
def Qcx (N:Nat) (a0:WT) (a1:Int) (a2:Int):Option (WT×Int):=bnd (QdT N a0 a1 a2) λ y1=>bif (y1.2 != 0) then some ((WT.mk []),y1.2) else bnd (QgY N a0 a1 (Uj.mk a2 0 false)) λ y2=>some (y2,0)
def Qc8 (N:Nat) (a0:Ud) (a1:Int) (a2:Int):Option (Ud×Int×Int):=bif (a2==0) then (bnd (Qac N 5) λ y1=>some (y1.1,y1.2.1,y1.2.2)) else bnd (Qbl N a0 a2) λ y2=>bif (y2.2 != 0) then (bnd (Qac N y2.2) λ y3=>some (y3.1,y3.2.1,y3.2.2)) else bnd (Qb4 N a2) λ y4=>jn (λ (_:Unit)=>bif (a1==12) then (bnd (QdU N a0.Locals y4.1.Index y4.1.Stamp) λ y6=>some ((Ud.mk a0.Heap y6.1 a0.Globals a0.Weaks a0.Pins a0.Roots),0,0)) else bif (a1==14) then (bnd (Qcx N a0.Globals y4.1.Index y4.1.Stamp) λ y7=>some ((Ud.mk a0.Heap a0.Locals y7.1 a0.Weaks a0.Pins a0.Roots),0,0)) else bnd (Qcx N a0.Weaks y4.1.Index y4.1.Stamp) λ y8=>some ((Ud.mk a0.Heap a0.Locals a0.Globals y8.1 a0.Pins a0.Roots),0,0)) λ j2=>jn (λ (_:Unit)=>bnd (Qac N 4) λ y5=>some (y5.1,y5.2.1,y5.2.2)) λ j1=>bif (a1==12) then (bif (y4.1.Tag != 1) then j1 () else bif (a1==14) then (bif (y4.1.Tag != 2) then j1 () else bif (a1==16) then (bif (y4.1.Tag != 3) then j1 () else j2 ()) else j2 ()) else bif (a1==16) then (bif (y4.1.Tag != 3) then j1 () else j2 ()) else j2 ()) else bif (a1==14) then (bif (y4.1.Tag != 2) then j1 () else bif (a1==16) then (bif (y4.1.Tag != 3) then j1 () else j2 ()) else j2 ()) else bif (a1==16) then (bif (y4.1.Tag != 3) then j1 () else j2 ()) else j2 ()
def Qgw (N:Nat) (a0:WD) (a1:Int) (a2:Bool):Option (WD×Int):=bnd (Qcc N a0) λ y1=>bif (!y1) then some ((WD.mk [] [] []),1) else bif (decide (a1<0)) then some ((WD.mk [] [] []),1) else bif (decide (a1>64)) then some ((WD.mk [] [] []),1) else jn (λ (_:Unit)=>bif (((a0.Scopes.length:Nat):Int)==64) then some ((WD.mk [] [] []),17) else grd (a0.Scopes.length*24<=140737488355328) <| grd ((a0.Scopes.length+1)*24<=140737488355328) <| some ((WD.mk a0.Slots (a0.Scopes++[(U6.mk ((a0.Slots.length:Nat):Int) a1 a2)]) a0.Issued),0)) λ j1=>bif (!a2) then (bif (((a0.Scopes.length:Nat):Int)==0) then some ((WD.mk [] [] []),9) else j1 ()) else j1 ()
def Qek (N:Nat) (a0:WD) (a1:Int):Option (WD×Int):=bnd (Qgw N a0 a1 false) λ y1=>some (y1.1,y1.2)
def QgZ (N:Nat) (a0:WD) (a1:Int):Option WD:=bnd (Xb a0.Scopes a1) λ p1=>grd (0<=0/\0<=p1.From/\p1.From<=((a0.Slots.length:Nat):Int)) <| grd ((min p1.From.toNat a0.Slots.length)*24<=140737488355328) <| grd (0<=0/\0<=a1/\a1<=((a0.Scopes.length:Nat):Int)) <| grd ((min a1.toNat a0.Scopes.length)*24<=140737488355328) <| some (WD.mk (a0.Slots.take p1.From.toNat) (a0.Scopes.take a1.toNat) a0.Issued)
def Qe1 (N:Nat) (a0:WD):Option (WD×Int):=bnd (Qcc N a0) λ y1=>bif (!y1) then some ((WD.mk [] [] []),1) else bif (((a0.Scopes.length:Nat):Int)==0) then some ((WD.mk [] [] []),9) else bnd (Xb a0.Scopes (wI (((a0.Scopes.length:Nat):Int)-1))) λ p2=>bif p2.Base then some ((WD.mk [] [] []),9) else bnd (QgZ N a0 (wI (((a0.Scopes.length:Nat):Int)-1))) λ y3=>some (y3,0)
def Qc9 (N:Nat) (a0:Ud) (a1:Int) (a2:Int):Option (Ud×Int×Int):=bif (a1==17) then (bif (decide (a2>64)) then (bnd (Qac N 1) λ y1=>some (y1.1,y1.2.1,y1.2.2)) else bnd (Qek N a0.Locals (wI a2)) λ y2=>bif (y2.2 != 0) then (bnd (Qac N y2.2) λ y3=>some (y3.1,y3.2.1,y3.2.2)) else some ((Ud.mk a0.Heap y2.1 a0.Globals a0.Weaks a0.Pins a0.Roots),0,0)) else bnd (Qbl N a0 a2) λ y4=>bif (y4.2 != 0) then (bnd (Qac N y4.2) λ y5=>some (y5.1,y5.2.1,y5.2.2)) else bnd (Qe1 N a0.Locals) λ y6=>bif (y6.2 != 0) then (bnd (Qac N y6.2) λ y7=>some (y7.1,y7.2.1,y7.2.2)) else bnd (Qci N (Ud.mk a0.Heap y6.1 a0.Globals a0.Weaks a0.Pins a0.Roots) y4.1) λ y8=>some (y8.1,y8.2.1,y8.2.2)
def Qcj (N:Nat) (a0:Wv) (a1:Int) (a2:Int):Option Wv:=grd (a0.Pages.length*32<=140737488355328) <| bnd (QfB N a0 a1) λ y1=>bnd (Xb a0.Pages y1) λ p2=>bnd (Xb a0.Pages y1) λ p3=>some (Wv.mk a0.Conf a0.Words (a0.Pages.set y1.toNat (WM.mk p3.Kind p3.Space p3.Used (wI (p2.Pins+a2)))) a0.Space a0.Bump)
def Qbz (N:Nat) (a0:Wv) (a1:List U4) (a2:Int):Option (Wv×List U4×Int):=bnd (QbG N a0 a1) λ y1=>bif (!y1) then some (zHp,[],19) else bif (a2==0) then some (zHp,[],5) else bnd (QfA N a1 a2) λ y2=>bif (decide (y2<0)) then some (zHp,[],12) else grd (a1.length*16<=140737488355328) <| bnd (Xb a1 y2) λ p3=>bnd (Xb a1 y2) λ p4=>bnd (Xb (a1.set y2.toNat (U4.mk p4.Ref (wI (p3.Count-1)))) y2) λ p5=>bif (p5.Count==0) then (grd (0<=0/\0<=y2/\y2<=((a1.length:Nat):Int)) <| grd (0<=(wI (y2+1))/\(wI (y2+1))<=((a1.length:Nat):Int)/\((a1.length:Nat):Int)<=((a1.length:Nat):Int)) <| grd (y2.toNat≠a1.length/\(y2.toNat+(a1.length-(wI (y2+1)).toNat))<=a1.length) <| bnd (Qcj N a0 a2 (-1)) λ y7=>some (y7,(((((a1.set y2.toNat (U4.mk p4.Ref (wI (p3.Count-1)))).take y2.toNat)++(((a1.set y2.toNat (U4.mk p4.Ref (wI (p3.Count-1)))).drop (wI (y2+1)).toNat).take (a1.length-(wI (y2+1)).toNat)))++((a1.set y2.toNat (U4.mk p4.Ref (wI (p3.Count-1)))).drop (y2.toNat+(a1.length-(wI (y2+1)).toNat)))).take (y2.toNat+(a1.length-(wI (y2+1)).toNat))),0)) else bnd (Qcj N a0 a2 (-1)) λ y8=>some (y8,(a1.set y2.toNat (U4.mk p4.Ref (wI (p3.Count-1)))),0)
def Qez (N:Nat) (a0:Wv) (a1:Int):Option Bool:=bnd (Qaq N a0) λ y1=>bnd (QcM N y1.1 a1) λ y2=>some y2
def Qb5 (N:Nat) (a0:Wv) (a1:Int):Nat->Int->Int->Option Int
 | 0,_,_=>none
 | n+1,v3,v4 =>
  bif (decide (v4<((a0.Pages.length:Nat):Int))) then (bnd (Xb a0.Pages v4) λ p5 =>
   bif (p5.Kind==1) then (bnd (Xb a0.Pages v4) λ p6 =>
    bif (decide (p6.Pins>0)) then Qb5 N a0 a1 n (wI (v3+1)) (wI (v4+1))
    else Qb5 N a0 a1 n v3 (wI (v4+1)))
   else Qb5 N a0 a1 n v3 (wI (v4+1)))
  else some v3
def Qdm (N:Nat) (a0:Wv) (a1:Int):Option Bool:=bnd (Qa6 N a0) λ y1=>bif (!y1) then some false else bnd (Qez N a0 a1) λ y2=>bif (!y2) then some false else bnd (Qb5 N a0 a1 N 0 0) λ y7=>bnd (QfB N a0 a1) λ y8=>bnd (Xb a0.Pages y8) λ p9=>bif (p9.Kind==1) then (bif (p9.Pins==0) then some (decide (y7>=(wI (a0.Conf.Pages.tdiv 4)))) else some false) else some false
def Qdn (N:Nat) (a0:Wv) (a1:List U4) (a2:Int):Option (Wv×List U4×Int×Int):=bnd (QbG N a0 a1) λ y1=>bif (!y1) then some (zHp,[],0,19) else bif (a2==0) then some (zHp,[],0,5) else bnd (Qez N a0 a2) λ y2=>bif (!y2) then some (zHp,[],0,1) else bnd (QfA N a1 a2) λ y3=>jn (λ (_:Unit)=>grd (a1.length*16<=140737488355328) <| jn (λ (x11:List U4)=>bnd (Qcj N a0 a2 1) λ y12=>some (y12,x11,(wU (a2+1)),0)) λ j2=>bif (decide (y3>=0)) then (bnd (Xb a1 y3) λ p9=>bnd (Xb a1 y3) λ p10=>j2 (a1.set y3.toNat (U4.mk p10.Ref (wI (p9.Count+1))))) else grd ((a1.length+1)*16<=140737488355328) <| j2 (a1++[(U4.mk a2 1)])) λ j1=>bif (decide (y3>=0)) then (bnd (Xb a1 y3) λ p4=>bif (p4.Count==1000) then some (zHp,[],0,18) else bif (decide (y3<0)) then (bif (((a1.length:Nat):Int)==64) then some (zHp,[],0,18) else bnd (Qdm N a0 a2) λ y5=>bif y5 then some (zHp,[],0,18) else j1 ()) else bnd (Qdm N a0 a2) λ y6=>bif y6 then some (zHp,[],0,18) else j1 ()) else bif (decide (y3<0)) then (bif (((a1.length:Nat):Int)==64) then some (zHp,[],0,18) else bnd (Qdm N a0 a2) λ y7=>bif y7 then some (zHp,[],0,18) else j1 ()) else bnd (Qdm N a0 a2) λ y8=>bif y8 then some (zHp,[],0,18) else j1 ()
def Qel (N:Nat) (a0:Ud) (a1:Int) (a2:Int):Option (Ud×Int×Int):=bnd (QcY N a0 a2) λ y1=>bif (y1.2 != 0) then (bnd (Qac N y1.2) λ y2=>some (y2.1,y2.2.1,y2.2.2)) else bif (a1==20) then (bnd (Qbz N a0.Heap a0.Pins y1.1) λ y3=>bif (y3.2.2 != 0) then (bnd (Qac N y3.2.2) λ y4=>some (y4.1,y4.2.1,y4.2.2)) else some ((Ud.mk y3.1 a0.Locals a0.Globals a0.Weaks y3.2.1 a0.Roots),0,0)) else bnd (Qdn N a0.Heap a0.Pins y1.1) λ y5=>bif (y5.2.2.2 != 0) then (bnd (Qac N y5.2.2.2) λ y6=>some (y6.1,y6.2.1,y6.2.2)) else some ((Ud.mk y5.1 a0.Locals a0.Globals a0.Weaks y5.2.1 a0.Roots),y5.2.2.1,0)
def Qem (N:Nat) (a0:Ud) (a1:Int) (a2:Int) (a3:Int) (a4:Int):Option (Ud×Int×Int):=bnd (QbH N a0) λ y1=>bif (!y1) then (bnd (Qac N 19) λ y2=>some (y2.1,y2.2.1,y2.2.2)) else jn (λ (x4:Bool)=>bif x4 then (bnd (Qc7 N a0 a1 a2 a3) λ y5=>some (y5.1,y5.2.1,y5.2.2)) else jn (λ (x8:Bool)=>bif x8 then (bnd (QdM N a0 a1 a2 a3 a4) λ y9=>some (y9.1,y9.2.1,y9.2.2)) else jn (λ (x12:Bool)=>bif x12 then (bnd (QdN N a0 a1 a2 a3) λ y13=>some (y13.1,y13.2.1,y13.2.2)) else jn (λ (x14:Bool)=>bif x14 then (bnd (QcH N a0 a1 a2) λ y15=>some (y15.1,y15.2.1,y15.2.2)) else jn (λ (x17:Bool)=>bif x17 then (bnd (Qc8 N a0 a1 a2) λ y18=>some (y18.1,y18.2.1,y18.2.2)) else jn (λ (x19:Bool)=>bif x19 then (bnd (Qc9 N a0 a1 a2) λ y20=>some (y20.1,y20.2.1,y20.2.2)) else jn (λ (x21:Bool)=>bif x21 then (bnd (Qel N a0 a1 a2) λ y22=>some (y22.1,y22.2.1,y22.2.2)) else bnd (Qac N 1) λ y23=>some (y23.1,y23.2.1,y23.2.2)) λ j13=>bif (a1==19) then j13 true else j13 (a1==20)) λ j12=>bif (a1==17) then j12 true else j12 (a1==18)) λ j11=>bif (a1==12) then j11 true else jn (λ (x16:Bool)=>j11 x16) λ j10=>bif (a1==14) then j10 true else j10 (a1==16)) λ j9=>bif (a1==13) then j9 true else j9 (a1==15)) λ j8=>bif (a1==4) then j8 true else jn (λ (x11:Bool)=>j8 x11) λ j7=>bif (a1==5) then j7 true else jn (λ (x10:Bool)=>j7 x10) λ j6=>bif (a1==10) then j6 true else j6 (a1==11)) λ j5=>bif (a1==6) then j5 true else jn (λ (x7:Bool)=>j5 x7) λ j4=>bif (a1==7) then j4 true else jn (λ (x6:Bool)=>j4 x6) λ j3=>bif (a1==8) then j3 true else j3 (a1==9)) λ j2=>bif (a1==1) then j2 true else jn (λ (x3:Bool)=>j2 x3) λ j1=>bif (a1==2) then j1 true else j1 (a1==3)
def Qd4 (N:Nat) (a0:Ud) (a1:Ud) (a2:Int) (a3:Int) (a4:Int):Option Oq:=jn (λ (x1:Bool)=>jn (λ (x2:Bool)=>bif (a2==19) then (bif (a4==0) then some (Oq.mk x1 x2 a3) else some (Oq.mk x1 x2 0)) else some (Oq.mk x1 x2 0)) λ j2=>bif (a4==0) then j2 (a0.Heap.Space != a1.Heap.Space) else j2 false) λ j1=>bif (a4==3) then j1 true else bif (a4==18) then j1 (a2==19) else j1 false
def Qc0 (N:Nat) (a0:WD) (a1:Int):Option Int:=bif (a1==0) then some 0 else bnd (Qes N a0 a1) λ y1=>some y1.2.2.2
def QfO (N:Nat) (a0:Wy) (a1:Int) (a2:Int) (a3:Int) (a4:Bool):Option Int:=bif (decide (((a0.Marks.length:Nat):Int)>0)) then some 15 else bnd (Qcg N a1 a2 a3) λ y1=>bif (!y1.2) then some 1 else bnd (Qc6 N a0.Conf y1.1) λ y2=>bif (!y2) then some 1 else bnd (Qc0 N a0.Locals 1) λ y3=>bif (y3 != 0) then some y3 else bif a4 then some 3 else some 0
def QaE (N:Nat) (a0:Wy) (a1:Int):Option (Int×Int):=bnd (QdK N a0) λ y1=>bif (!y1) then some (0,19) else bif (a1==0) then some (0,0) else bnd (Qb4 N a1) λ y2=>bif (y2.2 != 0) then some (0,y2.2) else bif (y2.1.Tag==1) then (bnd (Qe0 N a0.Locals y2.1.Index y2.1.Stamp) λ y3=>some (y3.1,y3.2)) else bif (y2.1.Tag==2) then (bnd (QdT N a0.Globals y2.1.Index y2.1.Stamp) λ y4=>some (y4.1,y4.2)) else bnd (QdT N a0.Weaks y2.1.Index y2.1.Stamp) λ y5=>some (y5.1,y5.2)
def Qev (N:Nat) (a0:Wy) (a1:Int):Option (Int×Int):=bnd (QaE N a0 a1) λ y1=>bif (y1.2==0) then (bif (y1.1==0) then some (0,5) else some (y1.1,y1.2)) else some (y1.1,y1.2)
def Qgj (N:Nat) (a0:Wy) (a1:Int) (a2:Int) (a3:Int) (a4:Int):Option Int:=bnd (Qev N a0 a2) λ y1=>bif (y1.2 != 0) then some y1.2 else bnd (Xb a0.Things (wU (y1.1-1))) λ p2=>bif (decide (a3>=(wU p2.Header.Length))) then some 2 else jn (λ (x3:Bool)=>bnd (QbN N p2.Header (wI a3)) λ y4=>bif (!(y4==x3)) then some 4 else bif (a1==8) then (bnd (Xb p2.Fields a3) λ p5=>bnd (Qc0 N a0.Locals p5) λ y6=>some y6) else bif (a1==9) then (bnd (QaE N a0 a4) λ y7=>some y7.2) else some y1.2) λ j1=>bif (a1==8) then j1 true else j1 (a1==9)
def QfP (N:Nat) (a0:Wy) (a1:Int) (a2:Int):Option Int:=bif (a2==0) then some 5 else bnd (QaE N a0 a2) λ y1=>bif (y1.2 != 0) then some y1.2 else bnd (Qb4 N a2) λ y2=>jn (λ (x3:Int)=>bif (a1==16) then (bif (y2.1.Tag != 3) then some 4 else some 0) else bif (y2.1.Tag != x3) then some 4 else some 0) λ j1=>bif (a1==14) then j1 2 else j1 1
def QgO (N:Nat) (a0:Wy) (a1:Int) (a2:Int):Option Int:=bnd (Qev N a0 a2) λ y1=>bif (y1.2 != 0) then some y1.2 else jn (λ (x2:List Uj)=>bnd (Qcs N (WT.mk x2) y1.1) λ y3=>some y3.2.2.2) λ j1=>bif (a1==15) then j1 a0.Weaks.Entries else j1 a0.Globals.Entries
def Qgk (N:Nat) (a0:Wy) (a1:Int) (a2:Int):Option Int:=bif (a1==17) then (bif (decide (a2>64)) then some 1 else bnd (Qek N a0.Locals (wI a2)) λ y1=>some y1.2) else bnd (QaE N a0 a2) λ y2=>bif (y2.2 != 0) then some y2.2 else bnd (Qe1 N a0.Locals) λ y3=>bif (y3.2 != 0) then some y3.2 else bnd (Qc0 N y3.1 y2.1) λ y4=>some y4
def Qg7 (N:Nat) (a0:Wy) (a1:Int) (a2:Int) (a3:Bool):Option Int:=bnd (Qev N a0 a2) λ y1=>bif (y1.2 != 0) then some y1.2 else bnd (QfF N a0 y1.1) λ y2=>bif (a1==20) then (bif (decide (y2<0)) then some 12 else some 0) else bif (decide (y2>=0)) then (bnd (Xb a0.Marks y2) λ p3=>bif (p3.Count==1000) then some 18 else bif (decide (y2<0)) then (bif (((a0.Marks.length:Nat):Int)==64) then some 18 else bif a3 then some 18 else some 0) else bif a3 then some 18 else some 0) else bif (decide (y2<0)) then (bif (((a0.Marks.length:Nat):Int)==64) then some 18 else bif a3 then some 18 else some 0) else bif a3 then some 18 else some 0
def QgP (N:Nat) (a0:Wy) (a1:Int) (a2:Int) (a3:Int):Option Int:=jn (λ (_:Unit)=>bnd (Qev N a0 a2) λ y1=>some y1.2) λ j1=>bif (a1==4) then j1 () else bif (a1==5) then j1 () else bnd (QaE N a0 a2) λ y2=>bif (y2.2 != 0) then some y2.2 else bif (a1==10) then (bnd (QaE N a0 a3) λ y3=>some y3.2) else bnd (Qc0 N a0.Locals y2.1) λ y4=>some y4
def QfQ (N:Nat) (a0:Wy) (a1:Int) (a2:Int) (a3:Int) (a4:Int) (a5:Bool):Option Int:=bnd (QdK N a0) λ y1=>bif (!y1) then some 19 else jn (λ (x3:Bool)=>bif x3 then (bnd (QfO N a0 a1 a2 a3 a5) λ y4=>some y4) else jn (λ (x7:Bool)=>bif x7 then (bnd (Qgj N a0 a1 a2 a3 a4) λ y8=>some y8) else jn (λ (x10:Bool)=>bif x10 then (bnd (QfP N a0 a1 a2) λ y11=>some y11) else jn (λ (x12:Bool)=>bif x12 then (bnd (QgO N a0 a1 a2) λ y13=>some y13) else jn (λ (x14:Bool)=>bif x14 then (bnd (Qgk N a0 a1 a2) λ y15=>some y15) else jn (λ (x16:Bool)=>bif x16 then (bnd (Qg7 N a0 a1 a2 a5) λ y17=>some y17) else jn (λ (x20:Bool)=>bif x20 then (bnd (QgP N a0 a1 a2 a3) λ y21=>some y21) else some 1) λ j13=>bif (a1==4) then j13 true else jn (λ (x19:Bool)=>j13 x19) λ j12=>bif (a1==5) then j12 true else jn (λ (x18:Bool)=>j12 x18) λ j11=>bif (a1==10) then j11 true else j11 (a1==11)) λ j10=>bif (a1==19) then j10 true else j10 (a1==20)) λ j9=>bif (a1==17) then j9 true else j9 (a1==18)) λ j8=>bif (a1==13) then j8 true else j8 (a1==15)) λ j7=>bif (a1==12) then j7 true else jn (λ (x9:Bool)=>j7 x9) λ j6=>bif (a1==14) then j6 true else j6 (a1==16)) λ j5=>bif (a1==6) then j5 true else jn (λ (x6:Bool)=>j5 x6) λ j4=>bif (a1==7) then j4 true else jn (λ (x5:Bool)=>j4 x5) λ j3=>bif (a1==8) then j3 true else j3 (a1==9)) λ j2=>bif (a1==1) then j2 true else jn (λ (x2:Bool)=>j2 x2) λ j1=>bif (a1==2) then j1 true else j1 (a1==3)
def Qcy (N:Nat) (a0:Wy) (a1:Int):Option (Wy×Int):=bif (a1==0) then some (a0,0) else bnd (Qes N a0.Locals a1) λ y1=>bnd (QbO N (IV.mk 1 y1.2.1 y1.2.2.1)) λ y2=>some ((Wy.mk a0.Conf a0.Things y1.1 a0.Globals a0.Weaks a0.Marks a0.Roots),y2.1)
def Qfy (N:Nat) (a0:Wy) (a1:Int) (a2:Int) (a3:Int):Option Wy:=grd (a0.Things.length*48<=140737488355328) <| bnd (Xb a0.Things (wU (a1-1))) λ p1=>grd (p1.Fields.length*8<=140737488355328) <| bnd (Xb p1.Fields a2) λ p2=>bnd (Xb a0.Things (wU (a1-1))) λ p3=>some (Wy.mk a0.Conf (a0.Things.set (wU (a1-1)).toNat (UL.mk p1.Header (p1.Fields.set a2.toNat a3))) a0.Locals a0.Globals a0.Weaks a0.Marks a0.Roots)
def Qd5 (N:Nat) (a0:Wy) (a1:Int) (a2:Int):Option (Wy×Int):=jn (λ (x3:List Uj) (x4:List Uj) (x5:Int) (x6:Int) (x7:Int)=>bnd (QbO N (IV.mk x5 x6 x7)) λ y8=>some ((Wy.mk a0.Conf a0.Things a0.Locals (WT.mk x3) (WT.mk x4) a0.Marks a0.Roots),y8.1)) λ j1=>bif (a1==15) then (bnd (Qcs N a0.Weaks a2) λ y1=>j1 a0.Globals.Entries y1.1.Entries 3 y1.2.1 y1.2.2.1) else bnd (Qcs N a0.Globals a2) λ y2=>j1 y2.1.Entries a0.Weaks.Entries 2 y2.2.1 y2.2.2.1
def QeF (N:Nat) (a0:Wy) (a1:Int):Option Wy:=bnd (Qb4 N a1) λ y1=>bif (y1.1.Tag==1) then (bnd (QdU N a0.Locals y1.1.Index y1.1.Stamp) λ y2=>some (Wy.mk a0.Conf a0.Things y2.1 a0.Globals a0.Weaks a0.Marks a0.Roots)) else bif (y1.1.Tag==2) then (bnd (Qcx N a0.Globals y1.1.Index y1.1.Stamp) λ y3=>some (Wy.mk a0.Conf a0.Things a0.Locals y3.1 a0.Weaks a0.Marks a0.Roots)) else bnd (Qcx N a0.Weaks y1.1.Index y1.1.Stamp) λ y4=>some (Wy.mk a0.Conf a0.Things a0.Locals a0.Globals y4.1 a0.Marks a0.Roots)
def Qg8 (N:Nat) (a0:Wy) (a1:Int):Option Int:=bnd (QfF N a0 a1) λ y1=>some y1
def QfG (N:Nat) (a0:Wy) (a1:Int) (a2:Int) (a3:Int):Option (Wy×Int):=bnd (Qg8 N a0 a2) λ y1=>grd (a0.Marks.length*24<=140737488355328) <| bif (a1==20) then (bnd (Xb a0.Marks y1) λ p2=>bnd (Xb a0.Marks y1) λ p3=>bnd (Xb (a0.Marks.set y1.toNat (U7.mk p3.Id (wI (p2.Count-1)) p3.Base)) y1) λ p4=>bif (p4.Count==0) then (grd (0<=0/\0<=y1/\y1<=((a0.Marks.length:Nat):Int)) <| grd (0<=(wI (y1+1))/\(wI (y1+1))<=((a0.Marks.length:Nat):Int)/\((a0.Marks.length:Nat):Int)<=((a0.Marks.length:Nat):Int)) <| grd (y1.toNat≠a0.Marks.length/\(y1.toNat+(a0.Marks.length-(wI (y1+1)).toNat))<=a0.Marks.length) <| some ((Wy.mk a0.Conf a0.Things a0.Locals a0.Globals a0.Weaks (((((a0.Marks.set y1.toNat (U7.mk p3.Id (wI (p2.Count-1)) p3.Base)).take y1.toNat)++(((a0.Marks.set y1.toNat (U7.mk p3.Id (wI (p2.Count-1)) p3.Base)).drop (wI (y1+1)).toNat).take (a0.Marks.length-(wI (y1+1)).toNat)))++((a0.Marks.set y1.toNat (U7.mk p3.Id (wI (p2.Count-1)) p3.Base)).drop (y1.toNat+(a0.Marks.length-(wI (y1+1)).toNat)))).take (y1.toNat+(a0.Marks.length-(wI (y1+1)).toNat))) a0.Roots),0)) else some ((Wy.mk a0.Conf a0.Things a0.Locals a0.Globals a0.Weaks (a0.Marks.set y1.toNat (U7.mk p3.Id (wI (p2.Count-1)) p3.Base)) a0.Roots),0)) else bif (decide (y1>=0)) then (bnd (Xb a0.Marks y1) λ p7=>bnd (Xb a0.Marks y1) λ p8=>bnd (Xb (a0.Marks.set y1.toNat (U7.mk p8.Id (wI (p7.Count+1)) p8.Base)) y1) λ p9=>some ((Wy.mk a0.Conf a0.Things a0.Locals a0.Globals a0.Weaks (a0.Marks.set y1.toNat (U7.mk p8.Id (wI (p7.Count+1)) p8.Base)) a0.Roots),p9.Base)) else grd ((a0.Marks.length+1)*24<=140737488355328) <| some ((Wy.mk a0.Conf a0.Things a0.Locals a0.Globals a0.Weaks (a0.Marks++[(U7.mk a2 1 a3)]) a0.Roots),a3)
def QfH (N:Nat) (a0:Wy) (a1:Int) (a2:Int) (a3:Int) (a4:Int) (a5:Oq):Option (Wy×Int×Int):=bnd (QfQ N a0 a1 a2 a3 a4 a5.Failed) λ y1=>bif (y1 != 0) then some (zWd,0,y1) else jn (λ (x3:Int)=>jn (λ (x5:Bool)=>bif x5 then (jn (λ (x7:Int) (x8:Int) (x9:List UL) (x10:List U1) (x11:List U6) (x12:List Int) (x13:List Uj) (x14:List Uj) (x15:List U7) (x16:List Int)=>bnd (Qcg N a1 a2 a3) λ y17=>grd (x9.length*48<=140737488355328) <| grd (0<=y17.1.Length/\y17.1.Length.toNat*8<=140737488355328) <| grd ((x9.length+1)*48<=140737488355328) <| grd ((x9.length+1)<=140737488355328) <| bnd (Qcy N (Wy.mk (Um.mk x7 x8) (x9++[(UL.mk y17.1 (List.replicate y17.1.Length.toNat (0:Int)))]) (WD.mk x10 x11 x12) (WT.mk x13) (WT.mk x14) x15 x16) (wU (((x9.length+1):Nat):Int))) λ y18=>some (y18.1,y18.2,0)) λ j4=>bif a5.Collected then (bnd (Qdl N a0) λ y6=>j4 y6.1.Conf.PageWords y6.1.Conf.Pages y6.1.Things y6.1.Locals.Slots y6.1.Locals.Scopes y6.1.Locals.Issued y6.1.Globals.Entries y6.1.Weaks.Entries y6.1.Marks y6.1.Roots) else j4 a0.Conf.PageWords a0.Conf.Pages a0.Things a0.Locals.Slots a0.Locals.Scopes a0.Locals.Issued a0.Globals.Entries a0.Weaks.Entries a0.Marks a0.Roots) else bif (a1==4) then (bnd (Xb a0.Things (wU (x3-1))) λ p19=>some (a0,(wU p19.Header.Length),0)) else bif (a1==5) then (bnd (Xb a0.Things (wU (x3-1))) λ p20=>some (a0,(wU p20.Header.Kind),0)) else bif (a1==6) then (bnd (Xb a0.Things (wU (x3-1))) λ p21=>bnd (Xb p21.Fields a3) λ p22=>some (a0,p22,0)) else bif (a1==7) then (bnd (Qfy N a0 x3 (wI a3) a4) λ y23=>some (y23,0,0)) else bif (a1==8) then (bnd (Xb a0.Things (wU (x3-1))) λ p24=>bnd (Xb p24.Fields a3) λ p25=>bnd (Qcy N a0 p25) λ y26=>some (y26.1,y26.2,0)) else bif (a1==9) then (bnd (QaE N a0 a4) λ y27=>bnd (Qfy N a0 x3 (wI a3) y27.1) λ y28=>some (y28,0,0)) else bif (a1==10) then (bnd (QaE N a0 a3) λ y29=>bif (x3==y29.1) then some (a0,1,0) else some (a0,0,0)) else bif (a1==11) then (bnd (Qcy N a0 x3) λ y30=>some (y30.1,y30.2,0)) else jn (λ (x31:Bool)=>bif x31 then (bnd (Qd5 N a0 a1 x3) λ y32=>some (y32.1,y32.2,0)) else jn (λ (x34:Bool)=>bif x34 then (bnd (QeF N a0 a2) λ y35=>some (y35,0,0)) else bif (a1==17) then (bnd (Qek N a0.Locals (wI a2)) λ y36=>some ((Wy.mk a0.Conf a0.Things y36.1 a0.Globals a0.Weaks a0.Marks a0.Roots),0,0)) else bif (a1==18) then (bnd (Qe1 N a0.Locals) λ y37=>bnd (Qcy N (Wy.mk a0.Conf a0.Things y37.1 a0.Globals a0.Weaks a0.Marks a0.Roots) x3) λ y38=>some (y38.1,y38.2,0)) else bnd (QfG N a0 a1 x3 a5.Base) λ y39=>some (y39.1,y39.2,0)) λ j7=>bif (a1==12) then j7 true else jn (λ (x33:Bool)=>j7 x33) λ j6=>bif (a1==14) then j6 true else j6 (a1==16)) λ j5=>bif (a1==13) then j5 true else j5 (a1==15)) λ j3=>bif (a1==1) then j3 true else jn (λ (x4:Bool)=>j3 x4) λ j2=>bif (a1==2) then j2 true else j2 (a1==3)) λ j1=>bif (decide (a1>3)) then (bif (a1 != 17) then (bnd (QaE N a0 a2) λ y2=>j1 y2.1) else j1 0) else j1 0
def Qb6 (N:Nat) (a0:ID) (a1:Oo):Option (ID×Int×Int):=bif (a1.Op==0) then (bnd (Qbk N a0.Env) λ y1=>jn (λ (x3:Int) (x4:Int) (x5:List Int) (x6:List WM) (x7:Int) (x8:Int) (x9:List U1) (x10:List U6) (x11:List Int) (x12:List Uj) (x13:List Uj) (x14:List U4) (x15:List Int) (x16:Int) (x17:Int) (x18:List UL) (x19:List U1) (x20:List U6) (x21:List Int) (x22:List Uj) (x23:List Uj) (x24:List U7) (x25:List Int)=>some ((ID.mk (Ud.mk (Wv.mk (Um.mk x3 x4) x5 x6 x7 x8) (WD.mk x9 x10 x11) (WT.mk x12) (WT.mk x13) x14 x15) (Wy.mk (Um.mk x16 x17) x18 (WD.mk x19 x20 x21) (WT.mk x22) (WT.mk x23) x24 x25) a0.Words),0,0)) λ j1=>bif (y1.2.2==0) then (bnd (Qdl N a0.World) λ y2=>j1 y1.1.Heap.Conf.PageWords y1.1.Heap.Conf.Pages y1.1.Heap.Words y1.1.Heap.Pages y1.1.Heap.Space y1.1.Heap.Bump y1.1.Locals.Slots y1.1.Locals.Scopes y1.1.Locals.Issued y1.1.Globals.Entries y1.1.Weaks.Entries y1.1.Pins y1.1.Roots y2.1.Conf.PageWords y2.1.Conf.Pages y2.1.Things y2.1.Locals.Slots y2.1.Locals.Scopes y2.1.Locals.Issued y2.1.Globals.Entries y2.1.Weaks.Entries y2.1.Marks y2.1.Roots) else j1 a0.Env.Heap.Conf.PageWords a0.Env.Heap.Conf.Pages a0.Env.Heap.Words a0.Env.Heap.Pages a0.Env.Heap.Space a0.Env.Heap.Bump a0.Env.Locals.Slots a0.Env.Locals.Scopes a0.Env.Locals.Issued a0.Env.Globals.Entries a0.Env.Weaks.Entries a0.Env.Pins a0.Env.Roots a0.World.Conf.PageWords a0.World.Conf.Pages a0.World.Things a0.World.Locals.Slots a0.World.Locals.Scopes a0.World.Locals.Issued a0.World.Globals.Entries a0.World.Weaks.Entries a0.World.Marks a0.World.Roots) else bnd (Qem N a0.Env a1.Op a1.A a1.B a1.C) λ y26=>bnd (Qd4 N a0.Env y26.1 a1.Op y26.2.1 y26.2.2) λ y27=>bnd (QfH N a0.World a1.Op a1.A a1.B a1.C y27) λ y28=>jn (λ (x29:Int) (x30:Int) (x31:List UL) (x32:List U1) (x33:List U6) (x34:List Int) (x35:List Uj) (x36:List Uj) (x37:List U7) (x38:List Int)=>bif (y26.2.2==0) then (bif (y26.2.1 != 0) then (grd (a0.Words.length*8<=140737488355328) <| grd ((a0.Words.length+1)*8<=140737488355328) <| some ((ID.mk y26.1 (Wy.mk (Um.mk x29 x30) x31 (WD.mk x32 x33 x34) (WT.mk x35) (WT.mk x36) x37 x38) (a0.Words++[y26.2.1])),y26.2.1,y26.2.2)) else some ((ID.mk y26.1 (Wy.mk (Um.mk x29 x30) x31 (WD.mk x32 x33 x34) (WT.mk x35) (WT.mk x36) x37 x38) a0.Words),y26.2.1,y26.2.2)) else some ((ID.mk a0.Env (Wy.mk (Um.mk x29 x30) x31 (WD.mk x32 x33 x34) (WT.mk x35) (WT.mk x36) x37 x38) a0.Words),y26.2.1,y26.2.2)) λ j2=>bif (y28.2.2==0) then j2 y28.1.Conf.PageWords y28.1.Conf.Pages y28.1.Things y28.1.Locals.Slots y28.1.Locals.Scopes y28.1.Locals.Issued y28.1.Globals.Entries y28.1.Weaks.Entries y28.1.Marks y28.1.Roots else j2 a0.World.Conf.PageWords a0.World.Conf.Pages a0.World.Things a0.World.Locals.Slots a0.World.Locals.Scopes a0.World.Locals.Issued a0.World.Globals.Entries a0.World.Weaks.Entries a0.World.Marks a0.World.Roots
def QbD (N:Nat) (a0:ID) (a1:UV):Option (Int×UV):=bnd (Qaa N a1 14) λ y1=>bif (y1.1==0) then (bnd (Qaa N y1.2 8) λ y2=>bnd (Xb [0,1,262145,262146,524289,1125899906842624,4097,262149] y2.1) λ p3=>some (p3,y2.2)) else bif (y1.1==1) then (bnd (Qaa N y1.2 ((a0.Words.length:Nat):Int)) λ y4=>bnd (Xb a0.Words y4.1) λ p5=>bnd (Qaa N y4.2 3) λ y6=>some ((wU (p5+(wU y6.1))),y6.2)) else jn (λ (x8:Bool)=>bif x8 then (bnd (Qaa N y1.2 ((a0.Words.length:Nat):Int)) λ y9=>bnd (Xb a0.Words y9.1) λ p10=>some (p10,y9.2)) else bnd (Qaa N y1.2 (if 6<((a0.Words.length:Nat):Int) then 6 else ((a0.Words.length:Nat):Int))) λ y11=>bnd (Xb a0.Words (wI ((wI (((a0.Words.length:Nat):Int)-1))-y11.1))) λ p12=>some (p12,y11.2)) λ j2=>bif (y1.1==2) then j2 true else jn (λ (x7:Bool)=>j2 x7) λ j1=>bif (y1.1==3) then j1 true else j1 (y1.1==4)
def QcR (N:Nat) (a0:ID) (a1:UV):Option (Oo×UV):=bnd (Qaa N a1 32) λ y1=>bnd (Xb [1,1,2,2,3,4,5,6,7,7,8,8,9,9,9,10,11,12,12,13,14,15,16,17,18,19,19,20,20,0,0,21] y1.1) λ p2=>bif (p2==1) then (bnd (Qaa N y1.2 4) λ y3=>grd (0<=(wU y3.1)) <| bnd (Qaa N y3.2 (K4 .i64 1 (wU y3.1))) λ y4=>some ((Oo.mk p2 (wU y3.1) (wU y4.1) 0),y4.2)) else jn (λ (x5:Bool)=>bif x5 then (bnd (Qaa N y1.2 4) λ y6=>bnd (Qaa N y6.2 9) λ y7=>bif (y7.1==0) then (bnd (Qaa N y7.2 70) λ y8=>some ((Oo.mk p2 (wU y8.1) 0 0),y8.2)) else some ((Oo.mk p2 (wU y6.1) 0 0),y7.2)) else bif (p2==17) then (bnd (Qaa N y1.2 9) λ y9=>some ((Oo.mk p2 (wU y9.1) 0 0),y9.2)) else bnd (QbD N a0 y1.2) λ y10=>bnd (Qaa N y10.2 4) λ y11=>bnd (Qaa N y11.2 1000) λ y12=>jn (λ (x16:List Int) (x17:Int) (x18:Int)=>bif (p2==10) then (bnd (QbD N a0 (UV.mk x16 x17)) λ y19=>some ((Oo.mk p2 y10.1 y19.1 x18),y19.2)) else some ((Oo.mk p2 y10.1 (wU y11.1) x18),(UV.mk x16 x17))) λ j2=>bif (p2==9) then (bnd (QbD N a0 y12.2) λ y14=>j2 y14.2.L y14.2.at_ y14.1) else bnd (Qaa N y12.2 9) λ y13=>bif (y13.1==0) then (bnd (QbD N a0 y13.2) λ y15=>j2 y15.2.L y15.2.at_ y15.1) else j2 y13.2.L y13.2.at_ (wU y12.1)) λ j1=>bif (p2==2) then j1 true else j1 (p2==3)
def Qfn (N:Nat) (a1:Int):Nat->Int->(List Int)->Int->Int->Int->(List Int)->(List WM)->Int->Int->(List U1)->(List U6)->(List Int)->(List Uj)->(List Uj)->(List U4)->(List Int)->Int->Int->(List UL)->(List U1)->(List U6)->(List Int)->(List Uj)->(List Uj)->(List U7)->(List Int)->(List Int)->Option (Int×Int×List Int×List WM×Int×Int×List U1×List U6×List Int×List Uj×List Uj×List U4×List Int×Int×Int×List UL×List U1×List U6×List Int×List Uj×List Uj×List U7×List Int×List Int)
 | 0,_,_,_,_,_,_,_,_,_,_,_,_,_,_,_,_,_,_,_,_,_,_,_,_,_,_,_=>none
 | n+1,v2,v3,v4,v5,v6,v7,v8,v9,v10,v11,v12,v13,v14,v15,v16,v17,v18,v19,v20,v21,v22,v23,v24,v25,v26,v27,v28 =>
  bif (decide (v2<a1)) then (bnd (Qgs N (UV.mk v3 v4)) λ y29 =>
   bif (!y29) then (bnd (QcR N (ID.mk (Ud.mk (Wv.mk (Um.mk v5 v6) v7 v8 v9 v10) (WD.mk v11 v12 v13) (WT.mk v14) (WT.mk v15) v16 v17) (Wy.mk (Um.mk v18 v19) v20 (WD.mk v21 v22 v23) (WT.mk v24) (WT.mk v25) v26 v27) v28) (UV.mk v3 v4)) λ y30 =>
    bnd (Qb6 N (ID.mk (Ud.mk (Wv.mk (Um.mk v5 v6) v7 v8 v9 v10) (WD.mk v11 v12 v13) (WT.mk v14) (WT.mk v15) v16 v17) (Wy.mk (Um.mk v18 v19) v20 (WD.mk v21 v22 v23) (WT.mk v24) (WT.mk v25) v26 v27) v28) y30.1) λ y31 =>
    Qfn N a1 n (wI (v2+1)) y30.2.L y30.2.at_ y31.1.Env.Heap.Conf.PageWords y31.1.Env.Heap.Conf.Pages y31.1.Env.Heap.Words y31.1.Env.Heap.Pages y31.1.Env.Heap.Space y31.1.Env.Heap.Bump y31.1.Env.Locals.Slots y31.1.Env.Locals.Scopes y31.1.Env.Locals.Issued y31.1.Env.Globals.Entries y31.1.Env.Weaks.Entries y31.1.Env.Pins y31.1.Env.Roots y31.1.World.Conf.PageWords y31.1.World.Conf.Pages y31.1.World.Things y31.1.World.Locals.Slots y31.1.World.Locals.Scopes y31.1.World.Locals.Issued y31.1.World.Globals.Entries y31.1.World.Weaks.Entries y31.1.World.Marks y31.1.World.Roots y31.1.Words)
   else some (v5,v6,v7,v8,v9,v10,v11,v12,v13,v14,v15,v16,v17,v18,v19,v20,v21,v22,v23,v24,v25,v26,v27,v28))
  else some (v5,v6,v7,v8,v9,v10,v11,v12,v13,v14,v15,v16,v17,v18,v19,v20,v21,v22,v23,v24,v25,v26,v27,v28)
def Qg0 (N:Nat) (a0:List Int) (a1:Int):Option ID:=bnd (QbF N (UV.mk a0 0)) λ y1=>bnd (Qfn N a1 N 0 y1.2.L y1.2.at_ y1.1.Env.Heap.Conf.PageWords y1.1.Env.Heap.Conf.Pages y1.1.Env.Heap.Words y1.1.Env.Heap.Pages y1.1.Env.Heap.Space y1.1.Env.Heap.Bump y1.1.Env.Locals.Slots y1.1.Env.Locals.Scopes y1.1.Env.Locals.Issued y1.1.Env.Globals.Entries y1.1.Env.Weaks.Entries y1.1.Env.Pins y1.1.Env.Roots y1.1.World.Conf.PageWords y1.1.World.Conf.Pages y1.1.World.Things y1.1.World.Locals.Slots y1.1.World.Locals.Scopes y1.1.World.Locals.Issued y1.1.World.Globals.Entries y1.1.World.Weaks.Entries y1.1.World.Marks y1.1.World.Roots y1.1.Words) λ y32=>some (ID.mk (Ud.mk (Wv.mk (Um.mk y32.1 y32.2.1) y32.2.2.1 y32.2.2.2.1 y32.2.2.2.2.1 y32.2.2.2.2.2.1) (WD.mk y32.2.2.2.2.2.2.1 y32.2.2.2.2.2.2.2.1 y32.2.2.2.2.2.2.2.2.1) (WT.mk y32.2.2.2.2.2.2.2.2.2.1) (WT.mk y32.2.2.2.2.2.2.2.2.2.2.1) y32.2.2.2.2.2.2.2.2.2.2.2.1 y32.2.2.2.2.2.2.2.2.2.2.2.2.1) (Wy.mk (Um.mk y32.2.2.2.2.2.2.2.2.2.2.2.2.2.1 y32.2.2.2.2.2.2.2.2.2.2.2.2.2.2.1) y32.2.2.2.2.2.2.2.2.2.2.2.2.2.2.2.1 (WD.mk y32.2.2.2.2.2.2.2.2.2.2.2.2.2.2.2.2.1 y32.2.2.2.2.2.2.2.2.2.2.2.2.2.2.2.2.2.1 y32.2.2.2.2.2.2.2.2.2.2.2.2.2.2.2.2.2.2.1) (WT.mk y32.2.2.2.2.2.2.2.2.2.2.2.2.2.2.2.2.2.2.2.1) (WT.mk y32.2.2.2.2.2.2.2.2.2.2.2.2.2.2.2.2.2.2.2.2.1) y32.2.2.2.2.2.2.2.2.2.2.2.2.2.2.2.2.2.2.2.2.2.1 y32.2.2.2.2.2.2.2.2.2.2.2.2.2.2.2.2.2.2.2.2.2.2.1) y32.2.2.2.2.2.2.2.2.2.2.2.2.2.2.2.2.2.2.2.2.2.2.2)
def QbZ (N:Nat) (a0:IA) (y3:Int×UV):Nat->Int->(List WM)->Option (List WM)
 | 0,_,_=>none
 | n+1,v22,v23 =>
  grd (v23.length<=140737488355328) <|
  bif (decide (v22<((v23.length:Nat):Int))) then (bnd (Xb v23 v22) λ p24 =>
   bif (p24.Kind==1) then (bnd (Xb v23 v22) λ p25 =>
    QbZ N a0 y3 n (wI (v22+1)) (v23.set v22.toNat (WM.mk p25.Kind p25.Space p25.Used 1)))
   else QbZ N a0 y3 n (wI (v22+1)) v23)
  else some v23
def QbJ (N:Nat) (a0:IA) (a1:UV):Option (IA×UV):=grd (a0.Heap.Words.length*8<=140737488355328) <| grd (a0.Heap.Pages.length*32<=140737488355328) <| grd (a0.Heap.Words.length<=140737488355328) <| bnd (Qaa N a1 ((a0.Heap.Words.length:Nat):Int)) λ y1=>grd (a0.Heap.Pages.length<=140737488355328) <| bnd (Qaa N y1.2 ((a0.Heap.Pages.length:Nat):Int)) λ y2=>bnd (Qaa N y2.2 12) λ y3=>jn (λ (x4:Bool)=>bif x4 then (bnd (Qaa N y3.2 10) λ y5=>bnd (Xb [0,1,5,21,4096,4097,4112,16386,1099511627776,61] y5.1) λ p6=>bnd (Xb a0.Heap.Words y1.1) λ p7=>some ((IA.mk (Wv.mk a0.Heap.Conf (a0.Heap.Words.set y1.1.toNat p6) a0.Heap.Pages a0.Heap.Space a0.Heap.Bump) a0.Strong a0.Weak),y5.2)) else bif (y3.1==2) then (bnd (Xb a0.Heap.Words y1.1) λ p8=>bnd (Qaa N y3.2 64) λ y9=>grd (0<=(wU y9.1)) <| bnd (Xb a0.Heap.Words y1.1) λ p10=>some ((IA.mk (Wv.mk a0.Heap.Conf (a0.Heap.Words.set y1.1.toNat (XmC .u64 p8 (K4 .u64 1 (wU y9.1)))) a0.Heap.Pages a0.Heap.Space a0.Heap.Bump) a0.Strong a0.Weak),y9.2)) else bif (y3.1==3) then (bnd (Qaa N y3.2 5) λ y11=>bnd (Xb a0.Heap.Pages y2.1) λ p12=>some ((IA.mk (Wv.mk a0.Heap.Conf a0.Heap.Words (a0.Heap.Pages.set y2.1.toNat (WM.mk y11.1 p12.Space p12.Used p12.Pins)) a0.Heap.Space a0.Heap.Bump) a0.Strong a0.Weak),y11.2)) else bif (y3.1==4) then (bnd (Qaa N y3.2 3) λ y13=>bnd (Xb a0.Heap.Pages y2.1) λ p14=>some ((IA.mk (Wv.mk a0.Heap.Conf a0.Heap.Words (a0.Heap.Pages.set y2.1.toNat (WM.mk p14.Kind y13.1 p14.Used p14.Pins)) a0.Heap.Space a0.Heap.Bump) a0.Strong a0.Weak),y13.2)) else bif (y3.1==5) then (bnd (Xb a0.Heap.Pages y2.1) λ p15=>bnd (Qaa N y3.2 9) λ y16=>bnd (Xb a0.Heap.Pages y2.1) λ p17=>some ((IA.mk (Wv.mk a0.Heap.Conf a0.Heap.Words (a0.Heap.Pages.set y2.1.toNat (WM.mk p17.Kind p17.Space (wI ((wI (p15.Used+y16.1))-4)) p17.Pins)) a0.Heap.Space a0.Heap.Bump) a0.Strong a0.Weak),y16.2)) else bif (y3.1==6) then (bnd (Qaa N y3.2 3) λ y18=>bnd (Xb a0.Heap.Pages y2.1) λ p19=>some ((IA.mk (Wv.mk a0.Heap.Conf a0.Heap.Words (a0.Heap.Pages.set y2.1.toNat (WM.mk p19.Kind p19.Space p19.Used (wI (y18.1-1)))) a0.Heap.Space a0.Heap.Bump) a0.Strong a0.Weak),y18.2)) else bif (y3.1==7) then (bnd (Qaa N y3.2 3) λ y20=>some ((IA.mk (Wv.mk a0.Heap.Conf a0.Heap.Words a0.Heap.Pages y20.1 a0.Heap.Bump) a0.Strong a0.Weak),y20.2)) else bif (y3.1==8) then (grd (a0.Heap.Pages.length<=140737488355328) <| bnd (Qaa N y3.2 (wI (((a0.Heap.Pages.length:Nat):Int)+2))) λ y21=>some ((IA.mk (Wv.mk a0.Heap.Conf a0.Heap.Words a0.Heap.Pages a0.Heap.Space (wI (y21.1-1))) a0.Strong a0.Weak),y21.2)) else bif (y3.1==9) then some ((IA.mk (Wv.mk (Um.mk (wI (a0.Heap.Conf.PageWords+4)) a0.Heap.Conf.Pages) a0.Heap.Words a0.Heap.Pages a0.Heap.Space a0.Heap.Bump) a0.Strong a0.Weak),y3.2) else bif (y3.1==10) then (grd (0<=1/\1<=((a0.Heap.Pages.length:Nat):Int)/\((a0.Heap.Pages.length:Nat):Int)<=((a0.Heap.Pages.length:Nat):Int)) <| some ((IA.mk (Wv.mk a0.Heap.Conf a0.Heap.Words ((a0.Heap.Pages.drop 1).take (a0.Heap.Pages.length-1)) a0.Heap.Space a0.Heap.Bump) a0.Strong a0.Weak),y3.2)) else bif (y3.1==11) then (bnd (QbZ N a0 y3 N 0 a0.Heap.Pages) λ y26=>some ((IA.mk (Wv.mk a0.Heap.Conf a0.Heap.Words y26 a0.Heap.Space a0.Heap.Bump) a0.Strong a0.Weak),y3.2)) else some (a0,y3.2)) λ j1=>bif (y3.1==0) then j1 true else j1 (y3.1==1)
def Qe2 (N:Nat) (a0:Ud) (a1:UV):Option (Ud×UV):=bnd (Qaa N a1 8) λ y1=>bif (y1.1==0) then (bnd (QbJ N (IA.mk a0.Heap [] []) y1.2) λ y2=>some ((Ud.mk y2.1.Heap a0.Locals a0.Globals a0.Weaks a0.Pins a0.Roots),y2.2)) else bif (y1.1==1) then (grd (a0.Roots.length*8<=140737488355328) <| bnd (Qaa N y1.2 200) λ y3=>grd ((a0.Roots.length+1)*8<=140737488355328) <| some ((Ud.mk a0.Heap a0.Locals a0.Globals a0.Weaks a0.Pins (a0.Roots++[(wU (wI (4096+y3.1)))])),y3.2)) else bif (y1.1==2) then (bif (decide (((a0.Locals.Slots.length:Nat):Int)>0)) then (grd (a0.Locals.Slots.length*24<=140737488355328) <| bnd (Qaa N y1.2 ((a0.Locals.Slots.length:Nat):Int)) λ y4=>bnd (Xb a0.Locals.Slots y4.1) λ p5=>bnd (Qaa N y4.2 3) λ y6=>bnd (Xb a0.Locals.Slots y4.1) λ p7=>some ((Ud.mk a0.Heap (WD.mk (a0.Locals.Slots.set y4.1.toNat (U1.mk p7.Stamp (wU (p5.Ref+(wU y6.1))) p7.Live)) a0.Locals.Scopes a0.Locals.Issued) a0.Globals a0.Weaks a0.Pins a0.Roots),y6.2)) else some (a0,y1.2)) else bif (y1.1==3) then (grd (a0.Globals.Entries.length*24<=140737488355328) <| bnd (Qaa N y1.2 3) λ y8=>bnd (Qaa N y8.2 2) λ y9=>grd ((a0.Globals.Entries.length+1)*24<=140737488355328) <| some ((Ud.mk a0.Heap a0.Locals (WT.mk (a0.Globals.Entries++[(Uj.mk y8.1 0 (y9.1==0))])) a0.Weaks a0.Pins a0.Roots),y9.2)) else bif (y1.1==4) then (grd (a0.Weaks.Entries.length*24<=140737488355328) <| bnd (Qaa N y1.2 3) λ y10=>bnd (Qaa N y10.2 40) λ y11=>grd ((a0.Weaks.Entries.length+1)*24<=140737488355328) <| some ((Ud.mk a0.Heap a0.Locals a0.Globals (WT.mk (a0.Weaks.Entries++[(Uj.mk y10.1 (wU (wI (4096+y11.1))) true)])) a0.Pins a0.Roots),y11.2)) else bif (y1.1==5) then (grd (a0.Pins.length*16<=140737488355328) <| bnd (Qaa N y1.2 20) λ y12=>bnd (Qaa N y12.2 2) λ y13=>grd ((a0.Pins.length+1)*16<=140737488355328) <| some ((Ud.mk a0.Heap a0.Locals a0.Globals a0.Weaks (a0.Pins++[(U4.mk (wU (wI (4096+y12.1))) y13.1)]) a0.Roots),y13.2)) else bif (y1.1==6) then (grd (a0.Locals.Scopes.length*24<=140737488355328) <| bnd (Qaa N y1.2 4) λ y14=>bnd (Qaa N y14.2 70) λ y15=>grd ((a0.Locals.Scopes.length+1)*24<=140737488355328) <| some ((Ud.mk a0.Heap (WD.mk a0.Locals.Slots (a0.Locals.Scopes++[(U6.mk y14.1 y15.1 false)]) a0.Locals.Issued) a0.Globals a0.Weaks a0.Pins a0.Roots),y15.2)) else some ((Ud.mk a0.Heap a0.Locals a0.Globals a0.Weaks [] a0.Roots),y1.2)
def QfI (N:Nat) (a0:Wy) (a1:UV):Option (Wy×UV):=bnd (Qaa N a1 6) λ y1=>bif (y1.1==0) then (grd (a0.Roots.length*8<=140737488355328) <| bnd (Qaa N y1.2 9) λ y2=>grd ((a0.Roots.length+1)*8<=140737488355328) <| some ((Wy.mk a0.Conf a0.Things a0.Locals a0.Globals a0.Weaks a0.Marks (a0.Roots++[(wU y2.1)])),y2.2)) else bif (y1.1==1) then (bif (decide (((a0.Things.length:Nat):Int)>0)) then (grd (a0.Things.length*48<=140737488355328) <| bnd (Qaa N y1.2 ((a0.Things.length:Nat):Int)) λ y3=>bnd (Qaa N y3.2 5) λ y4=>bnd (Xb a0.Things y3.1) λ p5=>some ((Wy.mk a0.Conf (a0.Things.set y3.1.toNat (UL.mk (WI.mk y4.1 p5.Header.Length p5.Header.Map) p5.Fields)) a0.Locals a0.Globals a0.Weaks a0.Marks a0.Roots),y4.2)) else some (a0,y1.2)) else bif (y1.1==2) then (grd (a0.Marks.length*24<=140737488355328) <| bnd (Qaa N y1.2 6) λ y6=>bnd (Qaa N y6.2 3) λ y7=>bnd (Qaa N y7.2 3) λ y8=>grd ((a0.Marks.length+1)*24<=140737488355328) <| some ((Wy.mk a0.Conf a0.Things a0.Locals a0.Globals a0.Weaks (a0.Marks++[(U7.mk (wU y6.1) y7.1 (wU ((wU y8.1)*9223372036854775807)))]) a0.Roots),y8.2)) else bif (y1.1==3) then (grd (a0.Weaks.Entries.length*24<=140737488355328) <| bnd (Qaa N y1.2 9) λ y9=>grd ((a0.Weaks.Entries.length+1)*24<=140737488355328) <| some ((Wy.mk a0.Conf a0.Things a0.Locals a0.Globals (WT.mk (a0.Weaks.Entries++[(Uj.mk 1 (wU y9.1) true)])) a0.Marks a0.Roots),y9.2)) else bif (y1.1==4) then (bnd (Qaa N y1.2 80) λ y10=>some ((Wy.mk (Um.mk a0.Conf.PageWords y10.1) a0.Things a0.Locals a0.Globals a0.Weaks a0.Marks a0.Roots),y10.2)) else bif (decide (((a0.Things.length:Nat):Int)>0)) then (grd (0<=0/\0<=(wI (((a0.Things.length:Nat):Int)-1))/\(wI (((a0.Things.length:Nat):Int)-1))<=((a0.Things.length:Nat):Int)) <| some ((Wy.mk a0.Conf (a0.Things.take (wI (((a0.Things.length:Nat):Int)-1)).toNat) a0.Locals a0.Globals a0.Weaks a0.Marks a0.Roots),y1.2)) else some (a0,y1.2)
def QaZ (N:Nat) (a0:Um):Option Bool:=bif (decide (a0.PageWords>=16)) then (bif (decide (a0.PageWords<=64)) then (bif ((a0.PageWords.tmod 4)==0) then (bif (decide (a0.Pages>=8)) then some (decide (a0.Pages<=64)) else some false) else some false) else some false) else some false
def Qf7 (N:Nat) (a0:WM) (a1:Um):Option Bool:=some ((a0.Kind==0)&&((a0.Space==0)&&((a0.Used==0)&&(a0.Pins==0))))
def Qde (N:Nat) (a0:WM):Option Bool:=bif (a0.Space==0) then some true else some (a0.Space==1)
def Qdf (N:Nat) (a0:WM):Option Bool:=bif (decide (a0.Pins>=0)) then some (decide (a0.Pins<=2147483647)) else some false
def QdA (N:Nat) (a0:WM) (a1:Um):Option Bool:=bnd (Qde N a0) λ y1=>bif y1 then (bnd (Qdf N a0) λ y2=>bif y2 then (bif (decide (a0.Used>=0)) then some (decide (a0.Used<=a1.PageWords)) else some false) else some false) else some false
def Qda (N:Nat) (a0:Um):Option Int:=bnd (QaZ N a0) λ y1=>bif (!y1) then some 0 else some (wI (a0.PageWords.tdiv 4))
def Qg1 (N:Nat) (a0:Um) (a1:Int):Option Int:=bnd (QaZ N a0) λ y1=>bif (!y1) then some (-1) else bif (decide (a1<1)) then some (-1) else bif (decide (a1>(wI (4*a0.PageWords)))) then some (-1) else bnd (Qda N a0) λ y2=>bif (decide (a1<=y2)) then some 0 else grd (a0.PageWords≠0) <| some (wI ((wI ((wI (a1+a0.PageWords))-1)).tdiv a0.PageWords))
def QdB (N:Nat) (a0:WM) (a1:Um):Option Bool:=bnd (Qde N a0) λ y1=>bif y1 then (bnd (Qdf N a0) λ y2=>bif y2 then (bnd (Qg1 N a1 a0.Used) λ y3=>some (decide (y3>=1))) else some false) else some false
def Qfi (N:Nat) (a0:WM) (a1:WM):Option Bool:=some ((a0.Kind==3)&&((a0.Space==a1.Space)&&((a0.Used==0)&&(a0.Pins==0))))
def Qfo (N:Nat) (a1:List WM) (a2:Int) (p1:WM) (x5:Int) (y6:Int):Nat->Int->Option (Ex Int Unit)
 | 0,_=>none
 | n+1,v7 =>
  bif (decide (v7<(((min ((wI (a2+y6)).toNat-(wI (a2+1)).toNat) (a1.length-(wI (a2+1)).toNat)):Nat):Int))) then (bnd (Xb ((a1.drop (wI (a2+1)).toNat).take ((wI (a2+y6)).toNat-(wI (a2+1)).toNat)) v7) λ p8 =>
   bnd (Qfi N p8 (WM.mk x5 p1.Space p1.Used p1.Pins)) λ y9 =>
   bif (!y9) then some (.ret 0)
   else Qfo N a1 a2 p1 x5 y6 n (wI (v7+1)))
  else some (.nxt ())
def Qht (N:Nat) (a0:Um) (a1:List WM) (a2:Int):Option Int:=bnd (Xb a1 a2) λ p1=>jn (λ (x5:Int)=>bif (x5 != 2) then some 1 else bnd (Qg1 N a0 p1.Used) λ y6=>bif (decide (y6>(wI (((a1.length:Nat):Int)-a2)))) then some 0 else grd (0<=(wI (a2+1))/\(wI (a2+1))<=(wI (a2+y6))/\(wI (a2+y6))<=((a1.length:Nat):Int)) <| bnd (Qfo N a1 a2 p1 x5 y6 N 0) λ e=>exK e (λ r=>some r) λ y10=>some y6) λ j1=>bif (decide (p1.Kind<0)) then some 0 else bif (decide (p1.Kind>=3)) then some 0 else bif (p1.Kind==0) then (bnd (Qf7 N (WM.mk 0 p1.Space p1.Used p1.Pins) a0) λ y2=>bif (!y2) then some 0 else j1 0) else bif (p1.Kind==1) then (bnd (QdA N (WM.mk 1 p1.Space p1.Used p1.Pins) a0) λ y3=>bif (!y3) then some 0 else j1 1) else bif (p1.Kind==2) then (bnd (QdB N (WM.mk 2 p1.Space p1.Used p1.Pins) a0) λ y4=>bif (!y4) then some 0 else j1 2) else none
def Qae (N:Nat) (a0:Wv):Nat->Int->Option (Ex Bool Unit)
 | 0,_=>none
 | n+1,v3 =>
  bif (decide (v3<((a0.Pages.length:Nat):Int))) then (bnd (Qht N a0.Conf a0.Pages v3) λ y4 =>
   bif (y4==0) then some (.ret false)
   else Qae N a0 n (wI (v3+y4)))
  else some (.nxt ())
def Qcz (N:Nat) (a0:Wv):Option Bool:=jn (λ (_:Unit)=>jn (λ (_:Unit)=>bnd (Qae N a0 N 0) λ e=>exK e (λ r=>some r) λ y5=>some true) λ j2=>bif (a0.Bump != (-1)) then (bif (decide (a0.Bump<0)) then some false else bif (decide (a0.Bump>=((a0.Pages.length:Nat):Int))) then some false else bnd (Xb a0.Pages a0.Bump) λ p2=>bif (p2.Kind != 1) then some false else j2 ()) else j2 ()) λ j1=>bnd (QaZ N a0.Conf) λ y1=>bif (!y1) then some false else bif (((a0.Words.length:Nat):Int) != (wI (a0.Conf.PageWords*a0.Conf.Pages))) then some false else bif (((a0.Pages.length:Nat):Int) != a0.Conf.Pages) then some false else bif (a0.Space != 0) then (bif (a0.Space != 1) then some false else j1 ()) else j1 ()
def Qdg (N:Nat) (a0:List U0):Nat->Int->(List Int)->Option (List Int)
 | 0,_,_=>none
 | n+1,v1,v2 =>
  bif (decide (v1<((a0.length:Nat):Int))) then (bnd (Xb a0 v1) λ p3 =>
   grd ((v2.length+1)*8<=140737488355328) <|
   Qdg N a0 n (wI (v1+1)) (v2++[p3.addr]))
  else some v2
def Qck (N:Nat) (a0:List U0):Option (List Int):=bnd (Qdg N a0 N 0 []) λ y4=>some y4
def Qgx (N:Nat) (a0:Um) (a1:Int):Option (Int×Int×Int):=bnd (QaZ N a0) λ y1=>bif (!y1) then some (0,0,1) else bif (decide (a1<4096)) then some (0,0,2) else bif (decide ((wU (a1-4096))>=(wU (wI (a0.PageWords*a0.Pages))))) then some (0,0,2) else grd (a0.PageWords≠0) <| grd (a0.PageWords≠0) <| some ((wI ((wI (wU (a1-4096))).tdiv a0.PageWords)),((wI (wU (a1-4096))).tmod a0.PageWords),0)
def Qfp (N:Nat) (a0:Int):Nat->Int->Int->Option Int
 | 0,_,_=>none
 | n+1,v1,v2 =>
  bif (decide (v2<(if 64<(if a0<0 then 0 else a0) then 64 else (if a0<0 then 0 else a0)))) then Qfp N a0 n (bOr .u64 (K4 .u64 v1 1) 1) (wI (v2+1))
  else some v1
def Qe3 (N:Nat) (a0:Int):Option Int:=bnd (Qfp N a0 N 0 0) λ y3=>some y3
def QdV (N:Nat) (a0:WI):Option Bool:=bif (decide (a0.Kind<0)) then some false else bif (decide (a0.Kind>3)) then some false else bif (decide (a0.Length<0)) then some false else bif (decide (a0.Length>255)) then some false else bif (a0.Kind==1) then (jn (λ (x2:Bool)=>some x2) λ j1=>bif (decide (a0.Length<=32)) then (bnd (Qe3 N a0.Length) λ y1=>j1 (decide ((wU a0.Map)<=y1))) else j1 false) else some ((a0.Kind==a0.Kind)&&((a0.Length==a0.Length)&&(a0.Map==0)))
def QdO (N:Nat) (a0:WI):Option Int:=bnd (QdV N a0) λ y1=>bif (!y1) then some 0 else some (wI (a0.Length+1))
def QbT (N:Nat) (a0:Int) (a1:List Int):Nat->Int->Int->Option (Ex (List Int×Int) Unit)
 | 0,_,_=>none
 | n+1,v1,v2 =>
  bif (decide (v2<((a1.length:Nat):Int))) then (bnd (Xb a1 v2) λ p3 =>
   bif (decide (p3<1)) then some (.ret ([],1))
   else bif (decide (p3>v1)) then some (.ret ([],1))
   else QbT N a0 a1 n (wI (v1-p3)) (wI (v2+1)))
  else some (.nxt ())
def QbU (N:Nat) (a1:List Int):Nat->Int->Int->(List Int)->Option (Int×List Int)
 | 0,_,_,_=>none
 | n+1,v5,v6,v7 =>
  bif (decide (v6<((a1.length:Nat):Int))) then (bnd (Xb a1 v6) λ p8 =>
   bnd (Qe3 N p8) λ y9 =>
   grd ((v7.length+1)*8<=140737488355328) <|
   grd (0<=p8) <|
   QbU N a1 n (Yf .u64 v5 p8) (wI (v6+1)) (v7++[(YF .u64 v5 y9)]))
  else some (v5,v7)
def QgQ (N:Nat) (a0:Int) (a1:List Int):Option (List Int×Int):=bnd (QbT N a0 a1 N 64 0) λ e=>exK e (λ r=>some r) λ y4=>bnd (QbU N a1 N a0 0 []) λ y10=>bif (y10.1 != 0) then some ([],2) else some (y10.2,0)
def QfR (N:Nat) (a0:Int):Option (WI×Bool):=bnd (QgQ N a0 [2,2,12,32]) λ y1=>bif (y1.2 != 0) then some ((WI.mk 0 0 0),false) else bnd (Xb y1.1 0) λ p2=>bif (p2 != 1) then some ((WI.mk 0 0 0),false) else bnd (Xb y1.1 1) λ p3=>bnd (Xb y1.1 2) λ p4=>bnd (Xb y1.1 3) λ p5=>bnd (QdV N (WI.mk (wI p3) (wI p4) (wW p5))) λ y6=>bif (!y6) then some ((WI.mk 0 0 0),false) else some ((WI.mk (wI p3) (wI p4) (wW p5)),true)
def Qf1 (N:Nat) (a0:List Int) (a1:Int) (a2:Int):Option (Int×Bool):=bif (decide (a1<4096)) then some (0,false) else bif (decide ((wU (a1-4096))>(wU ((a0.length:Nat):Int)))) then some (0,false) else some ((wI (wU (a1-4096))),(decide (a2<=(wI (((a0.length:Nat):Int)-(wI (wU (a1-4096))))))))
def Qhq (N:Nat) (a0:List Int) (a1:Int):Option (Int×Int):=bnd (Qf1 N a0 a1 1) λ y1=>bif (!y1.2) then some (0,2) else some (y1.1,0)
def Qgy (N:Nat) (a0:List Int) (a1:Int):Option (Int×Int):=bnd (Qhq N a0 a1) λ y1=>bif (y1.2 != 0) then some (0,y1.2) else bnd (Xb a0 y1.1) λ p2=>some (p2,0)
def QgU (N:Nat) (a0:Wv) (a1:Int):Option Int:=bnd (Qgy N a0.Words a1) λ y1=>some y1.1
def Qe4 (N:Nat) (a0:Wv) (a1:Int):Option (WI×Int):=bnd (Qcz N a0) λ y1=>bif (!y1) then some ((WI.mk 0 0 0),1) else bnd (Qgx N a0.Conf a1) λ y2=>bif (y2.2.2 != 0) then some ((WI.mk 0 0 0),y2.2.2) else bnd (Xb a0.Pages y2.1) λ p3=>bnd (QgU N a0 a1) λ y4=>bnd (QfR N y4) λ y5=>bnd (QdO N y5.1) λ y6=>jn (λ (x10:Bool)=>bif (!x10) then some ((WI.mk 0 0 0),19) else some (y5.1,0)) λ j4=>bif (!y5.2) then j4 false else bif (decide (y2.2.1>=p3.Used)) then j4 false else jn (λ (x9:Bool)=>j4 x9) λ j3=>bif (p3.Kind==1) then j3 (decide (y6<=(wI (p3.Used-y2.2.1)))) else jn (λ (x8:Bool)=>j3 x8) λ j2=>bif (p3.Kind==2) then (jn (λ (x7:Bool)=>j2 x7) λ j1=>bif (y2.2.1==0) then j1 (y6==p3.Used) else j1 false) else j2 false
def Qfq (N:Nat) (a0:Um) (a1:Int) (a2:Int):Option (Int×Int):=bnd (QaZ N a0) λ y1=>bif (!y1) then some (0,1) else bif (decide (a1<0)) then some (0,2) else bif (decide (a1>=a0.Pages)) then some (0,2) else bif (decide (a2<0)) then some (0,2) else bif (decide (a2>=a0.PageWords)) then some (0,2) else some ((wU (4096+(wU (wI ((wI (a1*a0.PageWords))+a2))))),0)
def QbV (N:Nat) (a0:Wv) (a1:Int) (p1:WM):Nat->Int->List U0->Option (List U0×Int)
 | 0,_,_=>none
 | n+1,v2,v3 =>
  bif (decide (v2<p1.Used)) then (bnd (Qfq N a0.Conf a1 v2) λ y4 =>
   bif (y4.2==0) then (bnd (Qe4 N a0 y4.1) λ y5 =>
    bif (y5.2==0) then (bnd (QdO N y5.1) λ y6 =>
     grd ((v3.length+1)*32<=140737488355328) <|
     QbV N a0 a1 p1 n (wI (v2+y6)) (v3++[U0.mk y4.1 y5.1]))
    else some ([],19))
   else some ([],19))
  else some (v3,0)
def Qf2 (N:Nat) (a0:Wv) (a1:Int):Option (List U0×Int):=bnd (Xb a0.Pages a1) λ p1=>bif (p1.Kind != 1) then (bif (p1.Kind != 2) then some ([],0) else QbV N a0 a1 p1 N 0 []) else QbV N a0 a1 p1 N 0 []
def Qgl (N:Nat) (a0:Wv) (a1:Int):Option (List Int×Int):=bnd (Qcz N a0) λ y1=>bif (!y1) then some ([],1) else bif (decide (a1<0)) then some ([],2) else bif (decide (a1>=((a0.Pages.length:Nat):Int))) then some ([],2) else bnd (Qf2 N a0 a1) λ y2=>bif (y2.2 != 0) then some ([],y2.2) else bnd (Qck N y2.1) λ y3=>some (y3,0)
def Qcl (N:Nat) (a0:Wv) (a1:Int) (a2:List Int):Nat->Int->Option (Ex (Int×Bool) Unit)
 | 0,_=>none
 | n+1,v1 =>
  bif (decide (v1<((a2.length:Nat):Int))) then (bnd (Xb a2 v1) λ p2 =>
   bnd (Qe4 N a0 p2) λ y3 =>
   bnd (QdO N y3.1) λ y4 =>
   bnd (Qda N a0.Conf) λ y5 =>
   bnd (Xb a0.Pages a1) λ p6 =>
   bif (p6.Kind==1) then (bif (!(decide (y4<=y5))) then some (.ret (p2,true))
    else bnd (Xb a0.Pages a1) λ p7 =>
    bif (p7.Kind==2) then (bif (y3.1.Kind==0) then some (.ret (p2,true))
     else Qcl N a0 a1 a2 n (wI (v1+1)))
    else Qcl N a0 a1 a2 n (wI (v1+1)))
   else bnd (Xb a0.Pages a1) λ p8 =>
   bif (p8.Kind==2) then (bif (y3.1.Kind==0) then some (.ret (p2,true))
    else Qcl N a0 a1 a2 n (wI (v1+1)))
   else Qcl N a0 a1 a2 n (wI (v1+1)))
  else some (.nxt ())
def Qf3 (N:Nat) (a0:Wv) (a1:Int) (a2:List Int):Option (Int×Bool):=bnd (Qcl N a0 a1 a2 N 0) λ e=>exK e (λ r=>some r) λ y9=>some (0,false)
def QcI (N:Nat) (a0:List Int):Option (List Int):=some a0
def Qgz (N:Nat) (a0:List Int) (a1:Int) (a2:Int):Option (List Int×Int):=bif (decide (a2<0)) then some ([],1) else bnd (Qf1 N a0 a1 a2) λ y1=>bif (!y1.2) then some ([],2) else grd (0<=y1.1/\y1.1<=(wI (y1.1+a2))/\(wI (y1.1+a2))<=((a0.length:Nat):Int)) <| bnd (QcI N ((a0.drop y1.1.toNat).take ((wI (y1.1+a2)).toNat-y1.1.toNat))) λ y2=>some (y2,0)
def QeP (N:Nat) (a0:Wv):Nat->Int->Option Int
 | 0,_=>none
 | n+1,v1 =>
  bif (decide (v1>0)) then (bnd (Xb a0.Pages v1) λ p2 =>
   bif (p2.Kind==3) then QeP N a0 n (wI (v1-1))
   else some v1)
  else some v1
def Qg9 (N:Nat) (a0:Wv) (a1:Int):Option Int:=bnd (QeP N a0 N a1) λ y3=>some y3
def Qha (N:Nat) (a0:Int):Option Bool:=some (a0 != 0)
def Qat (N:Nat) (a0:List Int):Nat->Int->Option (Ex Int Unit)
 | 0,_=>none
 | n+1,v1 =>
  bif (decide (v1<((a0.length:Nat):Int))) then (bnd (Xb a0 v1) λ p2 =>
   bnd (Qha N p2) λ y3 =>
   bif y3 then some (.ret v1)
   else Qat N a0 n (wI (v1+1)))
  else some (.nxt ())
def QaI (N:Nat) (a0:List Int):Option Int:=bnd (Qat N a0 N 0) λ e=>exK e (λ r=>some r) λ y4=>some (-1)
def Qd6 (N:Nat) (a0:Wv) (y1:Int×Int) (y4:List Int×Int):Nat->Int->(List Int)->Option (List Int)
 | 0,_,_=>none
 | n+1,v5,v6 =>
  bif (decide (v5<((y4.1.length:Nat):Int))) then (bnd (Xb y4.1 v5) λ p7 =>
   bnd (Qe4 N a0 p7) λ y8 =>
   jn (λ (x10:Int) =>
    grd (v6.length<=140737488355328) <|
    grd (v6.length<=140737488355328) <|
    grd (0<=(if ((v6.length:Nat):Int)<(if (wI ((wI p7)-(wI y1.1)))<0 then 0 else (wI ((wI p7)-(wI y1.1)))) then ((v6.length:Nat):Int) else (if (wI ((wI p7)-(wI y1.1)))<0 then 0 else (wI ((wI p7)-(wI y1.1)))))/\(if ((v6.length:Nat):Int)<(if (wI ((wI p7)-(wI y1.1)))<0 then 0 else (wI ((wI p7)-(wI y1.1)))) then ((v6.length:Nat):Int) else (if (wI ((wI p7)-(wI y1.1)))<0 then 0 else (wI ((wI p7)-(wI y1.1)))))<=(if ((v6.length:Nat):Int)<(if (wI ((wI ((wI p7)-(wI y1.1)))+x10))<0 then 0 else (wI ((wI ((wI p7)-(wI y1.1)))+x10))) then ((v6.length:Nat):Int) else (if (wI ((wI ((wI p7)-(wI y1.1)))+x10))<0 then 0 else (wI ((wI ((wI p7)-(wI y1.1)))+x10))))/\(if ((v6.length:Nat):Int)<(if (wI ((wI ((wI p7)-(wI y1.1)))+x10))<0 then 0 else (wI ((wI ((wI p7)-(wI y1.1)))+x10))) then ((v6.length:Nat):Int) else (if (wI ((wI ((wI p7)-(wI y1.1)))+x10))<0 then 0 else (wI ((wI ((wI p7)-(wI y1.1)))+x10))))<=((v6.length:Nat):Int)) <|
    Qd6 N a0 y1 y4 n (wI (v5+1)) (((v6.take (if ((v6.length:Nat):Int)<(if (wI ((wI p7)-(wI y1.1)))<0 then 0 else (wI ((wI p7)-(wI y1.1)))) then ((v6.length:Nat):Int) else (if (wI ((wI p7)-(wI y1.1)))<0 then 0 else (wI ((wI p7)-(wI y1.1))))).toNat)++(List.replicate ((if ((v6.length:Nat):Int)<(if (wI ((wI ((wI p7)-(wI y1.1)))+x10))<0 then 0 else (wI ((wI ((wI p7)-(wI y1.1)))+x10))) then ((v6.length:Nat):Int) else (if (wI ((wI ((wI p7)-(wI y1.1)))+x10))<0 then 0 else (wI ((wI ((wI p7)-(wI y1.1)))+x10)))).toNat-(if ((v6.length:Nat):Int)<(if (wI ((wI p7)-(wI y1.1)))<0 then 0 else (wI ((wI p7)-(wI y1.1)))) then ((v6.length:Nat):Int) else (if (wI ((wI p7)-(wI y1.1)))<0 then 0 else (wI ((wI p7)-(wI y1.1))))).toNat) (0:Int)))++(v6.drop ((if ((v6.length:Nat):Int)<(if (wI ((wI p7)-(wI y1.1)))<0 then 0 else (wI ((wI p7)-(wI y1.1)))) then ((v6.length:Nat):Int) else (if (wI ((wI p7)-(wI y1.1)))<0 then 0 else (wI ((wI p7)-(wI y1.1))))).toNat+((if ((v6.length:Nat):Int)<(if (wI ((wI ((wI p7)-(wI y1.1)))+x10))<0 then 0 else (wI ((wI ((wI p7)-(wI y1.1)))+x10))) then ((v6.length:Nat):Int) else (if (wI ((wI ((wI p7)-(wI y1.1)))+x10))<0 then 0 else (wI ((wI ((wI p7)-(wI y1.1)))+x10)))).toNat-(if ((v6.length:Nat):Int)<(if (wI ((wI p7)-(wI y1.1)))<0 then 0 else (wI ((wI p7)-(wI y1.1)))) then ((v6.length:Nat):Int) else (if (wI ((wI p7)-(wI y1.1)))<0 then 0 else (wI ((wI p7)-(wI y1.1))))).toNat))))) λ j1 =>
   bif (y8.1.Kind != 0) then (bnd (QdO N y8.1) λ y9 =>
    j1 y9)
   else j1 1)
  else some v6
def QgA (N:Nat) (a0:Wv) (a1:Int):Option (Int×Bool):=bnd (Qfq N a0.Conf a1 0) λ y1=>bnd (Qgz N a0.Words y1.1 a0.Conf.PageWords) λ y2=>bnd (Qg9 N a0 a1) λ y3=>bnd (Qgl N a0 y3) λ y4=>bnd (Qd6 N a0 y1 y4 N 0 y2.1) λ y11=>bnd (QaI N y11) λ y12=>some ((wU (y1.1+(wU (if y12<0 then 0 else y12)))),(decide (y12>=0)))
def Qa0 (N:Nat) (a0:Wv):Nat->Int->Option (Ex Us Unit)
 | 0,_=>none
 | n+1,v1 =>
  bif (decide (v1<((a0.Pages.length:Nat):Int))) then (bnd (Xb a0.Pages v1) λ p2 =>
   jn (λ (_:Unit) =>
    bnd (Qgl N a0 v1) λ y3 =>
    bif (y3.2 != 0) then some (.ret (Us.mk 3 v1 0))
    else bnd (Qf3 N a0 v1 y3.1) λ y4 =>
    bif y4.2 then some (.ret (Us.mk 5 v1 y4.1))
    else bnd (QgA N a0 v1) λ y5 =>
    bif y5.2 then some (.ret (Us.mk 4 v1 y5.1))
    else Qa0 N a0 n (wI (v1+1))) λ j1 =>
   bif (p2.Kind != 0) then (bif (p2.Space != a0.Space) then some (.ret (Us.mk 2 v1 0))
    else j1 ())
   else j1 ())
  else some (.nxt ())
def QgR (N:Nat) (a0:Wv):Option Us:=bnd (Qa0 N a0 N 0) λ e=>exK e (λ r=>some r) λ y6=>some (Us.mk 0 0 0)
def Qf4 (N:Nat) (a0:Wv):Nat->Int->(List U0)->Option (Ex (List U0×Int) (List U0))
 | 0,_,_=>none
 | n+1,v2,v3 =>
  bif (decide (v2<((a0.Pages.length:Nat):Int))) then (bnd (Qf2 N a0 v2) λ y4 =>
   bif (y4.2 != 0) then some (.ret ([],y4.2))
   else grd ((v3.length+y4.1.length)*32<=140737488355328) <|
   Qf4 N a0 n (wI (v2+1)) (v3++y4.1))
  else some (.nxt v3)
def QhJ (N:Nat) (a0:Wv):Option (List U0×Int):=bnd (Qcz N a0) λ y1=>bif (!y1) then some ([],1) else bnd (Qf4 N a0 N 0 []) λ e=>exK e (λ r=>some r) λ y5=>some (y5,0)
def QeA (N:Nat) (a0:U0):Option Bool:=some (a0.hd.Kind==0)
def Qaf (N:Nat) (a0:List U0):Nat->Int->Option (Ex Int Unit)
 | 0,_=>none
 | n+1,v1 =>
  bif (decide (v1<((a0.length:Nat):Int))) then (bnd (Xb a0 v1) λ p2 =>
   bnd (QeA N p2) λ y3 =>
   bif y3 then some (.ret v1)
   else Qaf N a0 n (wI (v1+1)))
  else some (.nxt ())
def Qag (N:Nat) (a0:List U0):Option Int:=bnd (Qaf N a0 N 0) λ e=>exK e (λ r=>some r) λ y4=>some (-1)
def Qct (N:Nat):Nat->Int->Int->(List U0)->Option (Int×List U0)
 | 0,_,_,_=>none
 | n+1,v3,v4,v5 =>
  grd (v5.length<=140737488355328) <|
  bif (decide (v4<((v5.length:Nat):Int))) then (bnd (Xb v5 v4) λ p6 =>
   bnd (QeA N p6) λ y7 =>
   bif (!y7) then (bnd (Xb v5 v3) λ p8 =>
    Qct N n (wI (v3+1)) (wI (v4+1)) (v5.set v3.toNat p6))
   else Qct N n v3 (wI (v4+1)) v5)
  else some (v3,v5)
def QeG (N:Nat) (a0:Wv):Option (List Int×Int):=bnd (QhJ N a0) λ y1=>bif (y1.2 != 0) then some ([],y1.2) else bnd (Qag N y1.1) λ y2=>bif (y2==(-1)) then (bnd (Qck N y1.1) λ y11=>some (y11,0)) else bnd (Qct N N y2 (wI (y2+1)) y1.1) λ y9=>grd (0<=y9.1/\y9.1<=((y9.2.length:Nat):Int)/\((y9.2.length:Nat):Int)<=((y9.2.length:Nat):Int)) <| grd (0<=y9.1/\y9.1<=(((((min y9.1.toNat y9.2.length)+(y9.2.length-y9.1.toNat))+(y9.2.length-(y9.1.toNat+(y9.2.length-y9.1.toNat)))):Nat):Int)) <| bnd (Qck N ((((y9.2.take y9.1.toNat)++(List.replicate (y9.2.length-y9.1.toNat) (U0.mk 0 (WI.mk 0 0 0))))++(y9.2.drop (y9.1.toNat+(y9.2.length-y9.1.toNat)))).take y9.1.toNat)) λ y12=>some (y12,0)
def QeH (N:Nat) (a0:Int):Option Bool:=some (a0 != a0)
def Qf8 (N:Nat) (a0:Int) (a1:Int):Option Bool:=bnd (QeH N a0) λ y1=>bif y1 then (bnd (QeH N a1) λ y2=>bif (!y2) then some true else some (decide (a0<a1))) else some (decide (a0<a1))
def Qdo (N:Nat) (a0:Int):Option Bool:=some (a0 != a0)
def Qao (N:Nat) (a0:List Int) (a1:Int):Nat->Int->Int->Option Int
 | 0,_,_=>none
 | n+1,v1,v2 =>
  bif (decide (v1<v2)) then (bnd (Xb a0 (wI (Yf .u64 (wU (wI (v1+v2))) 1))) λ p3 =>
   bnd (Qf8 N p3 a1) λ y4 =>
   bif y4 then Qao N a0 a1 n (wI ((wI (Yf .u64 (wU (wI (v1+v2))) 1))+1)) v2
   else Qao N a0 a1 n v1 (wI (Yf .u64 (wU (wI (v1+v2))) 1)))
  else some v1
def Qaw (N:Nat) (a0:List Int) (a1:Int):Option (Int×Bool):=bnd (Qao N a0 a1 N 0 ((a0.length:Nat):Int)) λ y5=>bif (decide (y5<((a0.length:Nat):Int))) then (bnd (Xb a0 y5) λ p6=>bif (p6==a1) then some (y5,true) else bnd (Xb a0 y5) λ p7=>bnd (Qdo N p7) λ y8=>bif y8 then (bnd (Qdo N a1) λ y9=>some (y5,y9)) else some (y5,false)) else some (y5,false)
def QeB (N:Nat) (a0:WI) (a1:Int):Option Bool:=bnd (QdV N a0) λ y1=>bif (!y1) then some false else bif (decide (a1<0)) then some false else bif (decide (a1>=a0.Length)) then some false else bif (a0.Kind==2) then some true else bif (a0.Kind==1) then (grd (0<=a1) <| some ((YF .u32 (Yf .u32 a0.Map a1) 1)==1)) else some false
def Qb7 (N:Nat) (a0:WI) (y1:Int):Nat->Int->(List Int)->Option (List Int)
 | 0,_,_=>none
 | n+1,v2,v3 =>
  bif (decide (v2<y1)) then (bnd (QeB N a0 v2) λ y4 =>
   bif y4 then (grd ((v3.length+1)*8<=140737488355328) <|
    Qb7 N a0 y1 n (wI (v2+1)) (v3++[v2]))
   else Qb7 N a0 y1 n (wI (v2+1)) v3)
  else some v3
def Qd0 (N:Nat) (a0:WI):Option (List Int):=bnd (QdO N a0) λ y1=>bnd (Qb7 N a0 y1 N 0 []) λ y5=>some y5
def QaF (N:Nat) (a0:Wv) (y1:List Int×Int) (v2:Int) (p3:Int) (y5:List Int):Nat->Int->Option (Ex Int Unit)
 | 0,_=>none
 | n+1,v6 =>
  bif (decide (v6<((y5.length:Nat):Int))) then (bnd (Xb y5 v6) λ p7 =>
   bnd (Qgy N a0.Words (wU ((wU (p3+1))+(wU p7)))) λ y8 =>
   bnd (Qaw N y1.1 y8.1) λ y9 =>
   bif (y8.1 != 0) then (bif (!y9.2) then some (.ret (wU ((wU (p3+1))+(wU p7))))
    else QaF N a0 y1 v2 p3 y5 n (wI (v6+1)))
   else QaF N a0 y1 v2 p3 y5 n (wI (v6+1)))
  else some (.nxt ())
def Qcq (N:Nat) (a0:Wv) (y1:List Int×Int):Nat->Int->Option Int
 | 0,_=>none
 | n+1,v2 =>
  bif (decide (v2<((y1.1.length:Nat):Int))) then (bnd (Xb y1.1 v2) λ p3 =>
   bnd (Qe4 N a0 p3) λ y4 =>
   bnd (Qd0 N y4.1) λ y5 =>
   bnd (QaF N a0 y1 v2 p3 y5 N 0) λ e=>exK e (λ y10=>some y10) λ y11 =>
   Qcq N a0 y1 n (wI (v2+1)))
  else some 0
def Qfr (N:Nat) (a0:Wv):Option Us:=bnd (QeG N a0) λ y1=>bnd (Qcq N a0 y1 N 0) λ y12=>bif (y12==0) then some (Us.mk 0 0 0) else bnd (Qgx N a0.Conf y12) λ y13=>some (Us.mk 6 y13.1 y12)
def Qcm (N:Nat) (a0:Wv):Nat->Int->Int->Option Int
 | 0,_,_=>none
 | n+1,v4,v5 =>
  bif (decide (v5<((a0.Pages.length:Nat):Int))) then (bnd (Xb a0.Pages v5) λ p6 =>
   bif (p6.Kind==1) then (bif (decide (p6.Pins>0)) then Qcm N a0 n (wI (v4+1)) (wI (v5+1))
    else Qcm N a0 n v4 (wI (v5+1)))
   else Qcm N a0 n v4 (wI (v5+1)))
  else some v4
def Qhr (N:Nat) (a0:Wv):Option Us:=bnd (Qcz N a0) λ y1=>bif (!y1) then some (Us.mk 1 0 0) else bnd (QgR N a0) λ y2=>bif (!((y2.Fault==0)&&((y2.Page==0)&&(y2.Addr==0)))) then some y2 else bnd (Qfr N a0) λ y3=>bif (!((y3.Fault==0)&&((y3.Page==0)&&(y3.Addr==0)))) then some y3 else bnd (Qcm N a0 N 0 0) λ y7=>bif (decide (y7>(wI (a0.Conf.Pages.tdiv 4)))) then some (Us.mk 7 0 0) else some (Us.mk 0 0 0)
def QgB (N:Nat) (a0:Wv):Option Bool:=bnd (Qhr N a0) λ y1=>some ((y1.Fault==0)&&((y1.Page==0)&&(y1.Addr==0)))
def Qfj (N:Nat) (a0:U4) (a1:Int):Option Bool:=some (a0.Ref==a1)
def Qam (N:Nat) (a0:List U4) (c0:Int):Nat->Int->Option (Ex Int Unit)
 | 0,_=>none
 | n+1,v1 =>
  bif (decide (v1<((a0.length:Nat):Int))) then (bnd (Xb a0 v1) λ p2 =>
   bnd (Qfj N p2 c0) λ y3 =>
   bif y3 then some (.ret v1)
   else Qam N a0 c0 n (wI (v1+1)))
  else some (.nxt ())
def Qa4 (N:Nat) (a0:List U4) (c0:Int):Option Int:=bnd (Qam N a0 c0 N 0) λ e=>exK e (λ r=>some r) λ y4=>some (-1)
def QfS (N:Nat) (a0:List U4) (a1:Int):Option Int:=bnd (Qa4 N a0 a1) λ y1=>some y1
def Qb8 (N:Nat) (a0:List U4) (a1:Wv) (y1:List Int×Int):Nat->Int->(List Int)->Option (Ex (List Int×Bool) (List Int))
 | 0,_,_=>none
 | n+1,v2,v3 =>
  bif (decide (v2<((a0.length:Nat):Int))) then (bnd (Xb a0 v2) λ p4 =>
   bnd (Qaw N y1.1 p4.Ref) λ y5 =>
   bif (!y5.2) then some (.ret ([],false))
   else bif (decide (p4.Count<1)) then some (.ret ([],false))
   else bif (decide (p4.Count>1000)) then some (.ret ([],false))
   else bnd (QfS N a0 p4.Ref) λ y6 =>
   bif (y6 != v2) then some (.ret ([],false))
   else bnd (Qgx N a1.Conf p4.Ref) λ y7 =>
   bnd (Xb v3 y7.1) λ p8 =>
   bnd (Xb v3 y7.1) λ p9 =>
   Qb8 N a0 a1 y1 n (wI (v2+1)) (v3.set y7.1.toNat (wI (p8+p4.Count))))
  else some (.nxt v3)
def Qf9 (N:Nat) (a0:List U4) (a1:Wv):Option (List Int×Bool):=bnd (QeG N a1) λ y1=>grd (0<=((a1.Pages.length:Nat):Int)/\((a1.Pages.length:Nat):Int).toNat*8<=140737488355328) <| bnd (Qb8 N a0 a1 y1 N 0 (List.replicate ((a1.Pages.length:Nat):Int).toNat (0:Int))) λ e=>exK e (λ r=>some r) λ y10=>some (y10,true)
def QeI (N:Nat) (a0:Wv) (y2:List Int×Bool):Nat->Int->Option (Ex Bool Unit)
 | 0,_=>none
 | n+1,v3 =>
  bif (decide (v3<((a0.Pages.length:Nat):Int))) then (bnd (Xb a0.Pages v3) λ p4 =>
   bnd (Xb y2.1 v3) λ p5 =>
   bif (p4.Pins != p5) then some (.ret false)
   else QeI N a0 y2 n (wI (v3+1)))
  else some (.nxt ())
def Qhu (N:Nat) (a0:Wv) (a1:List U4):Option Bool:=bnd (QgB N a0) λ y1=>bif (!y1) then some false else bif (decide (((a1.length:Nat):Int)>64)) then some false else bnd (Qf9 N a1 a0) λ y2=>bif (!y2.2) then some false else bnd (QeI N a0 y2 N 0) λ e=>exK e (λ r=>some r) λ y6=>some true
def QaG (N:Nat) (a0:Og):Nat->Int->Int->Option (Ex Bool Unit)
 | 0,_,_=>none
 | n+1,v1,v2 =>
  bif (decide (v2<((a0.Locals.Scopes.length:Nat):Int))) then (bnd (Xb a0.Locals.Scopes v2) λ p3 =>
   bif (v2==0) then (bif (p3.From != 0) then some (.ret false)
    else bif (!p3.Base) then some (.ret false)
    else bif (decide (p3.From<v1)) then some (.ret false)
    else bif (decide (p3.From>((a0.Locals.Slots.length:Nat):Int))) then some (.ret false)
    else bif (decide (p3.Cap<0)) then some (.ret false)
    else bif (decide (p3.Cap>64)) then some (.ret false)
    else QaG N a0 n p3.From (wI (v2+1)))
   else bif (decide (p3.From<v1)) then some (.ret false)
   else bif (decide (p3.From>((a0.Locals.Slots.length:Nat):Int))) then some (.ret false)
   else bif (decide (p3.Cap<0)) then some (.ret false)
   else bif (decide (p3.Cap>64)) then some (.ret false)
   else QaG N a0 n p3.From (wI (v2+1)))
  else some (.nxt ())
def Qdp (N:Nat) (a0:Og):Option Bool:=jn (λ (_:Unit)=>bnd (QaG N a0 N 0 0) λ e=>exK e (λ r=>some r) λ y4=>some true) λ j1=>bif (decide (((a0.Locals.Scopes.length:Nat):Int)>64)) then some false else bif (((a0.Locals.Scopes.length:Nat):Int)==0) then (bif (decide (((a0.Locals.Slots.length:Nat):Int)>0)) then some false else j1 ()) else j1 ()
def QaR (N:Nat) (a0:Og):Nat->Int->Int->Option (Ex Bool Unit)
 | 0,_,_=>none
 | n+1,v1,v2 =>
  bif (decide (v2<((a0.Locals.Slots.length:Nat):Int))) then (bnd (Xb a0.Locals.Slots v2) λ p3 =>
   bif (decide (p3.Stamp<=v1)) then some (.ret false)
   else bif (decide (p3.Stamp>((a0.Locals.Issued.length:Nat):Int))) then some (.ret false)
   else bnd (Xb a0.Locals.Issued (wI (p3.Stamp-1))) λ p4 =>
   bif (p4 != v2) then some (.ret false)
   else bif (p3.Live==(p3.Ref==0)) then some (.ret false)
   else QaR N a0 n p3.Stamp (wI (v2+1)))
  else some (.nxt ())
def Qdb (N:Nat) (a0:Og):Option Bool:=bnd (QaR N a0 N 0 0) λ e=>exK e (λ r=>some r) λ y5=>some true
def QdW (N:Nat) (a0:Og) (a1:Int):Option (List U1):=bif (decide ((wI (a1+1))<((a0.Locals.Scopes.length:Nat):Int))) then (bnd (Xb a0.Locals.Scopes a1) λ p1=>bnd (Xb a0.Locals.Scopes (wI (a1+1))) λ p2=>grd (0<=p1.From/\p1.From<=p2.From/\p2.From<=((a0.Locals.Slots.length:Nat):Int)) <| some ((a0.Locals.Slots.drop p1.From.toNat).take (p2.From.toNat-p1.From.toNat))) else bnd (Xb a0.Locals.Scopes a1) λ p3=>grd (0<=p3.From/\p3.From<=((a0.Locals.Slots.length:Nat):Int)/\((a0.Locals.Slots.length:Nat):Int)<=((a0.Locals.Slots.length:Nat):Int)) <| some (a0.Locals.Slots.drop p3.From.toNat)
def QbK (N:Nat) (y1:List U1):Nat->Int->Int->Option Int
 | 0,_,_=>none
 | n+1,v2,v3 =>
  bif (decide (v3<((y1.length:Nat):Int))) then (bnd (Xb y1 v3) λ p4 =>
   bif p4.Live then QbK N y1 n (wI (v2+1)) (wI (v3+1))
   else QbK N y1 n v2 (wI (v3+1)))
  else some v2
def Qeg (N:Nat) (a0:Og) (a1:Int):Option Int:=bnd (QdW N a0 a1) λ y1=>bnd (QbK N y1 N 0 0) λ y5=>some y5
def QfT (N:Nat) (a0:Int):Option Bool:=bif (decide (a0<0)) then some true else some (decide (a0>=4096))
def QaA (N:Nat) (a0:List Int):Nat->Int->Option (Ex Int Unit)
 | 0,_=>none
 | n+1,v1 =>
  bif (decide (v1<((a0.length:Nat):Int))) then (bnd (Xb a0 v1) λ p2 =>
   bnd (QfT N p2) λ y3 =>
   bif y3 then some (.ret v1)
   else QaA N a0 n (wI (v1+1)))
  else some (.nxt ())
def QbQ (N:Nat) (a0:List Int):Option Int:=bnd (QaA N a0 N 0) λ e=>exK e (λ r=>some r) λ y4=>some (-1)
def Qbs (N:Nat) (a0:List Int):Option Bool:=bnd (QbQ N a0) λ y1=>some (decide (y1>=0))
def QdC (N:Nat) (a0:WD):Nat->Int->Option (Ex Bool Unit)
 | 0,_=>none
 | n+1,v4 =>
  bif (decide (v4<((a0.Scopes.length:Nat):Int))) then (bnd (Xb a0.Scopes v4) λ p5 =>
   bnd (Qeg N (Og.mk a0) v4) λ y6 =>
   bif (decide (y6>p5.Cap)) then some (.ret false)
   else QdC N a0 n (wI (v4+1)))
  else some (.nxt ())
def Qfb (N:Nat) (a0:WD):Option Bool:=bif (decide (((a0.Issued.length:Nat):Int)>4096)) then some false else bnd (Qbs N a0.Issued) λ y1=>bif y1 then some false else bnd (Qdp N (Og.mk a0)) λ y2=>bif (!y2) then some false else bnd (Qdb N (Og.mk a0)) λ y3=>bif (!y3) then some false else bnd (QdC N a0 N 0) λ e=>exK e (λ r=>some r) λ y7=>some true
def QfU (N:Nat) (a0:Uj):Option Bool:=bif (decide (a0.Gen<1)) then some true else bif (decide (a0.Gen>4294967295)) then some true else bif (!a0.Live) then some (a0.Ref != 0) else some false
def Qaj (N:Nat) (a0:List Uj):Nat->Int->Option (Ex Int Unit)
 | 0,_=>none
 | n+1,v1 =>
  bif (decide (v1<((a0.length:Nat):Int))) then (bnd (Xb a0 v1) λ p2 =>
   bnd (QfU N p2) λ y3 =>
   bif y3 then some (.ret v1)
   else Qaj N a0 n (wI (v1+1)))
  else some (.nxt ())
def QaL (N:Nat) (a0:List Uj):Option Int:=bnd (Qaj N a0 N 0) λ e=>exK e (λ r=>some r) λ y4=>some (-1)
def QaB (N:Nat) (a0:List Uj):Option Bool:=bnd (QaL N a0) λ y1=>some (decide (y1>=0))
def QdP (N:Nat) (a0:WT):Option Bool:=bif (decide (((a0.Entries.length:Nat):Int)<=64)) then (bnd (QaB N a0.Entries) λ y1=>some (!y1)) else some false
def QaV (N:Nat) (a0:List Int) (a1:Int):Nat->Int->Option (Ex Int Unit)
 | 0,_=>none
 | n+1,v1 =>
  bif (decide (v1<((a0.length:Nat):Int))) then (bnd (Xb a0 v1) λ p2 =>
   bif (a1==p2) then some (.ret v1)
   else QaV N a0 a1 n (wI (v1+1)))
  else some (.nxt ())
def QcJ (N:Nat) (a0:List Int) (a1:Int):Option Int:=bnd (QaV N a0 a1 N 0) λ e=>exK e (λ r=>some r) λ y3=>some (-1)
def QaW (N:Nat) (a0:List Int) (a1:Int):Option Bool:=bnd (QcJ N a0 a1) λ y1=>some (decide (y1>=0))
def Qd7 (N:Nat) (a0:WT):Nat->Int->(List Int)->Option (List Int)
 | 0,_,_=>none
 | n+1,v2,v3 =>
  bif (decide (v2<((a0.Entries.length:Nat):Int))) then (bnd (Xb a0.Entries v2) λ p4 =>
   bif p4.Live then (grd ((v3.length+1)*8<=140737488355328) <|
    Qd7 N a0 n (wI (v2+1)) (v3++[p4.Ref]))
   else Qd7 N a0 n (wI (v2+1)) v3)
  else some v3
def QdQ (N:Nat) (a0:WT):Option (List Int):=bnd (QdP N a0) λ y1=>bif (!y1) then some [] else bnd (Qd7 N a0 N 0 []) λ y5=>some y5
def QeJ (N:Nat) (a0:Int) (a1:List Int):Option Bool:=bnd (Qaw N a1 a0) λ y1=>bif (a0 != 0) then some (!y1.2) else some false
def Qap (N:Nat) (a0:List Int) (c0:List Int):Nat->Int->Option (Ex Int Unit)
 | 0,_=>none
 | n+1,v1 =>
  bif (decide (v1<((a0.length:Nat):Int))) then (bnd (Xb a0 v1) λ p2 =>
   bnd (QeJ N p2 c0) λ y3 =>
   bif y3 then some (.ret v1)
   else Qap N a0 c0 n (wI (v1+1)))
  else some (.nxt ())
def Qa7 (N:Nat) (a0:List Int) (c0:List Int):Option Int:=bnd (Qap N a0 c0 N 0) λ e=>exK e (λ r=>some r) λ y4=>some (-1)
def QaS (N:Nat) (a0:List Int) (c0:List Int):Option Bool:=bnd (Qa7 N a0 c0) λ y1=>some (decide (y1>=0))
def Qgm (N:Nat) (a0:Wv) (a1:List Int):Option Bool:=bnd (QgB N a0) λ y1=>bif (!y1) then some false else bnd (QeG N a0) λ y2=>bnd (QaS N a1 y2.1) λ y3=>some (!y3)
def Qbq (N:Nat) (a1:Int):Option (List Int):=bif (decide (a1<0)) then none else bif (decide ((wI (a1-(wI 0)))>0)) then (grd (0=0/\0=0) <| grd (0<=(wI (a1-(wI 0)))/\(wI (a1-(wI 0))).toNat*8<=140737488355328) <| grd ((wI (a1-(wI 0))).toNat*8<=140737488355328) <| grd (0<=0/\0<=0/\0<=(((wI (a1-(wI 0))).toNat:Nat):Int)) <| some ((List.replicate (wI (a1-(wI 0))).toNat (0:Int)).take 0)) else some []
def QaN (N:Nat) (a0:List (List Int)):Nat->Int->Int->Option Int
 | 0,_,_=>none
 | n+1,v1,v2 =>
  bif (decide (v2<((a0.length:Nat):Int))) then (bnd (Xb a0 v2) λ p3 =>
   bif (decide ((wI (v1+((p3.length:Nat):Int)))<0)) then none
   else QaN N a0 n (wI (v1+((p3.length:Nat):Int))) (wI (v2+1)))
  else some v1
def QaO (N:Nat) (a0:List (List Int)):Nat->Int->(List Int)->Option (List Int)
 | 0,_,_=>none
 | n+1,v6,v7 =>
  bif (decide (v6<((a0.length:Nat):Int))) then (bnd (Xb a0 v6) λ p8 =>
   grd ((v7.length+p8.length)*8<=140737488355328) <|
   QaO N a0 n (wI (v6+1)) (v7++p8))
  else some v7
def Qa8 (N:Nat) (a0:List (List Int)):Option (List Int):=bnd (QaN N a0 N 0 0) λ y4=>bnd (Qbq N y4) λ y5=>bnd (QaO N a0 N 0 y5) λ y9=>some y9
def QgC (N:Nat) (a0:List (List Int)):Option (List Int):=bnd (Qa8 N a0) λ y1=>some y1
def Qd8 (N:Nat) (a0:WD):Nat->Int->(List Int)->Option (List Int)
 | 0,_,_=>none
 | n+1,v2,v3 =>
  bif (decide (v2<((a0.Slots.length:Nat):Int))) then (bnd (Xb a0.Slots v2) λ p4 =>
   bif p4.Live then (grd ((v3.length+1)*8<=140737488355328) <|
    Qd8 N a0 n (wI (v2+1)) (v3++[p4.Ref]))
   else Qd8 N a0 n (wI (v2+1)) v3)
  else some v3
def QgD (N:Nat) (a0:WD):Option (List Int):=bnd (Qfb N a0) λ y1=>bif (!y1) then some [] else bnd (Qd8 N a0 N 0 []) λ y5=>some y5
def QeQ (N:Nat) (a0:Ud):Nat->Int->(List Int)->Option (List Int)
 | 0,_,_=>none
 | n+1,v1,v2 =>
  bif (decide (v1<((a0.Pins.length:Nat):Int))) then (bnd (Xb a0.Pins v1) λ p3 =>
   grd ((v2.length+1)*8<=140737488355328) <|
   QeQ N a0 n (wI (v1+1)) (v2++[p3.Ref]))
  else some v2
def QhF (N:Nat) (a0:Ud):Option (List Int):=bnd (QeQ N a0 N 0 []) λ y4=>some y4
def Qhb (N:Nat) (a0:Ud):Option (List Int):=bnd (QgD N a0.Locals) λ y1=>bnd (QdQ N a0.Globals) λ y2=>bnd (QhF N a0) λ y3=>bnd (QgC N [a0.Roots,y1,y2,y3]) λ y4=>some y4
def Qgn (N:Nat) (a0:Ud):Option Bool:=bnd (Qhu N a0.Heap a0.Pins) λ y1=>bif (!y1) then some false else bnd (Qfb N a0.Locals) λ y2=>bif (!y2) then some false else bnd (QdP N a0.Globals) λ y3=>bif (!y3) then some false else bnd (QdP N a0.Weaks) λ y4=>bif (!y4) then some false else bnd (QdQ N a0.Globals) λ y5=>bnd (QaW N y5 0) λ y6=>bif y6 then some false else bnd (Qhb N a0) λ y7=>bnd (QdQ N a0.Weaks) λ y8=>bnd (QgC N [y7,y8]) λ y9=>bnd (Qgm N a0.Heap y9) λ y10=>some y10
def Qd1 (N:Nat) (a0:Int) (a1:Wy):Option Bool:=some (decide (a0>(wU ((a1.Things.length:Nat):Int))))
def Qar (N:Nat) (a0:List Int) (c0:Wy):Nat->Int->Option (Ex Int Unit)
 | 0,_=>none
 | n+1,v1 =>
  bif (decide (v1<((a0.length:Nat):Int))) then (bnd (Xb a0 v1) λ p2 =>
   bnd (Qd1 N p2 c0) λ y3 =>
   bif y3 then some (.ret v1)
   else Qar N a0 c0 n (wI (v1+1)))
  else some (.nxt ())
def Qbc (N:Nat) (a0:List Int) (c0:Wy):Option Int:=bnd (Qar N a0 c0 N 0) λ e=>exK e (λ r=>some r) λ y4=>some (-1)
def QaX (N:Nat) (a0:List Int) (c0:Wy):Option Bool:=bnd (Qbc N a0 c0) λ y1=>some (decide (y1>=0))
def Qcr (N:Nat) (a0:Wy) (a1:List Int):Option Bool:=bnd (QaX N a1 a0) λ y1=>some (!y1)
def QdR (N:Nat) (a0:Int) (a1:Wy) (a2:UL):Option Bool:=bnd (Xb a2.Fields a0) λ p1=>bnd (Qcr N a1 [p1]) λ y2=>some (!y2)
def Qaz (N:Nat) (a0:List Int) (c0:Wy) (c1:UL):Nat->Int->Option (Ex Int Unit)
 | 0,_=>none
 | n+1,v1 =>
  bif (decide (v1<((a0.length:Nat):Int))) then (bnd (Xb a0 v1) λ p2 =>
   bnd (QdR N p2 c0 c1) λ y3 =>
   bif y3 then some (.ret v1)
   else Qaz N a0 c0 c1 n (wI (v1+1)))
  else some (.nxt ())
def QbL (N:Nat) (a0:List Int) (c0:Wy) (c1:UL):Option Int:=bnd (Qaz N a0 c0 c1 N 0) λ e=>exK e (λ r=>some r) λ y4=>some (-1)
def Qbp (N:Nat) (a0:List Int) (c0:Wy) (c1:UL):Option Bool:=bnd (QbL N a0 c0 c1) λ y1=>some (decide (y1>=0))
def QdX (N:Nat) (a0:Wy) (a1:UL):Option Bool:=bnd (QdV N a1.Header) λ y1=>bif (!y1) then some false else bif (a1.Header.Kind==0) then some false else bif (((a1.Fields.length:Nat):Int) != a1.Header.Length) then some false else bnd (Qd0 N a1.Header) λ y2=>bnd (Qbp N y2 a0 a1) λ y3=>some (!y3)
def Qen (N:Nat) (a0:U7) (a1:Int):Option Bool:=some (a0.Id==a1)
def Qah (N:Nat) (a0:List U7) (c0:Int):Nat->Int->Option (Ex Int Unit)
 | 0,_=>none
 | n+1,v1 =>
  bif (decide (v1<((a0.length:Nat):Int))) then (bnd (Xb a0 v1) λ p2 =>
   bnd (Qen N p2 c0) λ y3 =>
   bif y3 then some (.ret v1)
   else Qah N a0 c0 n (wI (v1+1)))
  else some (.nxt ())
def QaH (N:Nat) (a0:List U7) (c0:Int):Option Int:=bnd (Qah N a0 c0 N 0) λ e=>exK e (λ r=>some r) λ y4=>some (-1)
def QeK (N:Nat) (a0:Wy) (a1:Int):Option Int:=bnd (QaH N a0.Marks a1) λ y1=>some y1
def QbE (N:Nat) (a0:Wy):Nat->Int->Option (Ex Bool Unit)
 | 0,_=>none
 | n+1,v1 =>
  bif (decide (v1<((a0.Marks.length:Nat):Int))) then (bnd (Xb a0.Marks v1) λ p2 =>
   bif (p2.Id==0) then some (.ret false)
   else bnd (Qcr N a0 [p2.Id]) λ y3 =>
   bif (!y3) then some (.ret false)
   else bif (decide (p2.Count<1)) then some (.ret false)
   else bif (decide (p2.Count>1000)) then some (.ret false)
   else bnd (QeK N a0 p2.Id) λ y4 =>
   bif (y4 != v1) then some (.ret false)
   else QbE N a0 n (wI (v1+1)))
  else some (.nxt ())
def QdY (N:Nat) (a0:Wy):Option Bool:=bnd (QbE N a0 N 0) λ e=>exK e (λ r=>some r) λ y5=>some (decide (((a0.Marks.length:Nat):Int)<=64))
def QdD (N:Nat) (a0:Wy):Nat->Int->Option (Ex Bool Unit)
 | 0,_=>none
 | n+1,v7 =>
  bif (decide (v7<((a0.Things.length:Nat):Int))) then (bnd (Xb a0.Things v7) λ p8 =>
   bnd (QdX N a0 p8) λ y9 =>
   bif (!y9) then some (.ret false)
   else QdD N a0 n (wI (v7+1)))
  else some (.nxt ())
def Qfc (N:Nat) (a0:Wy):Option Bool:=bnd (QaZ N a0.Conf) λ y1=>bif (!y1) then some false else bnd (Qfb N a0.Locals) λ y2=>bif (!y2) then some false else bnd (QdP N a0.Globals) λ y3=>bif (!y3) then some false else bnd (QdP N a0.Weaks) λ y4=>bif (!y4) then some false else bnd (QdQ N a0.Globals) λ y5=>bnd (QaW N y5 0) λ y6=>bif y6 then some false else bnd (QdD N a0 N 0) λ e=>exK e (λ r=>some r) λ y10=>bnd (QgD N a0.Locals) λ y11=>bnd (QdQ N a0.Globals) λ y12=>bnd (QdQ N a0.Weaks) λ y13=>bnd (Qa8 N [a0.Roots,y11,y12,y13]) λ y14=>bnd (Qcr N a0 y14) λ y15=>bif y15 then (bnd (QdY N a0) λ y16=>some y16) else some false
def Qas (N:Nat) (a0:List U6) (a1:List U6):Nat->Int->Option (Ex Bool Unit)
 | 0,_=>none
 | n+1,v1 =>
  bif (decide (v1<((a0.length:Nat):Int))) then (bnd (Xb a0 v1) λ p2 =>
   bnd (Xb a1 v1) λ p3 =>
   bif (!((p2.From==p3.From)&&((p2.Cap==p3.Cap)&&(p2.Base==p3.Base)))) then some (.ret false)
   else Qas N a0 a1 n (wI (v1+1)))
  else some (.nxt ())
def QaD (N:Nat) (a0:List U6) (a1:List U6):Option Bool:=bif (((a0.length:Nat):Int) != ((a1.length:Nat):Int)) then some false else bnd (Qas N a0 a1 N 0) λ e=>exK e (λ r=>some r) λ y4=>some true
def Qbd (N:Nat) (a0:List Int) (a1:List Int):Nat->Int->Option (Ex Bool Unit)
 | 0,_=>none
 | n+1,v1 =>
  bif (decide (v1<((a0.length:Nat):Int))) then (bnd (Xb a0 v1) λ p2 =>
   bnd (Xb a1 v1) λ p3 =>
   bif (p2 != p3) then some (.ret false)
   else Qbd N a0 a1 n (wI (v1+1)))
  else some (.nxt ())
def Qcn (N:Nat) (a0:List Int) (a1:List Int):Option Bool:=bif (((a0.length:Nat):Int) != ((a1.length:Nat):Int)) then some false else bnd (Qbd N a0 a1 N 0) λ e=>exK e (λ r=>some r) λ y4=>some true
def Qe5 (N:Nat) (a0:Wv) (a1:Int):Option (WI×Int):=bnd (Qcz N a0) λ y1=>bif (!y1) then some ((WI.mk 0 0 0),1) else bif (a1==0) then some ((WI.mk 0 0 0),5) else bnd (Qe4 N a0 a1) λ y2=>bif (y2.2 != 0) then some ((WI.mk 0 0 0),y2.2) else bif (y2.1.Kind==0) then some ((WI.mk 0 0 0),4) else some (y2.1,0)
def QgV (N:Nat) (a0:Wv) (a1:Int):Option (Int×Int×Int):=bnd (Qe5 N a0 a1) λ y1=>bif (y1.2 != 0) then some (0,0,y1.2) else some ((wU (a1+1)),(wU ((wU (a1+1))+(wU y1.1.Length))),0)
def QeR (N:Nat) (a0:Wv) (a1:Int):Option (List Int×Int):=bnd (Qe5 N a0 a1) λ y1=>bif (y1.2 != 0) then some ([],y1.2) else bnd (Qgz N a0.Words (wU (a1+1)) y1.1.Length) λ y2=>some (y2.1,y2.2)
def QaT (N:Nat) (a0:Ud) (a1:Wy):Nat->Int->(List (Int×Int))->(List (Int×Int))->(List WE)->Option (Ex (List WE×Bool) ((List (Int×Int))×(List (Int×Int))×List WE))
 | 0,_,_,_,_=>none
 | n+1,v3,v4,v5,v6 =>
  bif (decide (v3<((a0.Roots.length:Nat):Int))) then (bnd (Xb a0.Roots v3) λ p7 =>
   bnd (Xb a1.Roots v3) λ p8 =>
   jn (λ (x10:Bool) (x11:List (Int×Int)) (x12:List (Int×Int)) (x13:List WE) =>
    bif (!x10) then some (.ret ([],false))
    else QaT N a0 a1 n (wI (v3+1)) x11 x12 x13) λ j3 =>
   bif (p7==0) then j3 (p7==p8) v4 v5 v6
   else bif (p8==0) then j3 (p7==p8) v4 v5 v6
   else grd (0<=((mG v4 p7).getD 0)/\((mG v4 p7).getD 0)<=18446744073709551615) <|
   grd (0<=((mG v5 p8).getD 0)/\((mG v5 p8).getD 0)<=18446744073709551615) <|
   jn (λ (_:Unit) =>
    jn (λ (x9:Bool) =>
     j3 x9 v4 v5 v6) λ j2 =>
    bif (mG v4 p7).isSome then (bif (mG v5 p8).isSome then (bif (((mG v4 p7).getD 0)==p8) then j2 (((mG v5 p8).getD 0)==p7)
        else j2 false)
     else j2 false)
    else j2 false) λ j1 =>
   bif (mG v4 p7).isSome then j1 ()
   else bif (mG v5 p8).isSome then j1 ()
   else grd ((mG v4 p7).isSome=false) <|
   grd (v4.length<140737488355328) <|
   grd ((mG v5 p8).isSome=false) <|
   grd (v5.length<140737488355328) <|
   grd ((v6.length+1)*16<=140737488355328) <|
   j3 true (v4++[(p7,p8)]) (v5++[(p8,p7)]) (v6++[(WE.mk p7 p8)]))
  else some (.nxt (v4,v5,v6))
def Qa9 (N:Nat) (a0:Ud) (a1:Wy):Nat->Int->(List (Int×Int))->(List (Int×Int))->(List WE)->Option (Ex ((List (Int×Int))×(List (Int×Int))×List WE) ((List (Int×Int))×(List (Int×Int))×List WE))
 | 0,_,_,_,_=>none
 | n+1,v17,v18,v19,v20 =>
  bif (decide (v17<((a0.Locals.Slots.length:Nat):Int))) then (bnd (Xb a0.Locals.Slots v17) λ p21 =>
   bnd (Xb a1.Locals.Slots v17) λ p22 =>
   bif (p21.Stamp != p22.Stamp) then some (.ret (v18,v19,v20))
   else bif (!(p21.Live==p22.Live)) then some (.ret (v18,v19,v20))
   else bif p21.Live then (jn (λ (x24:Bool) (x25:List (Int×Int)) (x26:List (Int×Int)) (x27:List WE) =>
    bif (!x24) then some (.ret (x25,x26,x27))
    else Qa9 N a0 a1 n (wI (v17+1)) x25 x26 x27) λ j6 =>
    bif (p21.Ref==0) then j6 (p21.Ref==p22.Ref) v18 v19 v20
    else bif (p22.Ref==0) then j6 (p21.Ref==p22.Ref) v18 v19 v20
    else grd (0<=((mG v18 p21.Ref).getD 0)/\((mG v18 p21.Ref).getD 0)<=18446744073709551615) <|
    grd (0<=((mG v19 p22.Ref).getD 0)/\((mG v19 p22.Ref).getD 0)<=18446744073709551615) <|
    jn (λ (_:Unit) =>
     jn (λ (x23:Bool) =>
      j6 x23 v18 v19 v20) λ j5 =>
     bif (mG v18 p21.Ref).isSome then (bif (mG v19 p22.Ref).isSome then (bif (((mG v18 p21.Ref).getD 0)==p22.Ref) then j5 (((mG v19 p22.Ref).getD 0)==p21.Ref)
         else j5 false)
      else j5 false)
     else j5 false) λ j4 =>
    bif (mG v18 p21.Ref).isSome then j4 ()
    else bif (mG v19 p22.Ref).isSome then j4 ()
    else grd ((mG v18 p21.Ref).isSome=false) <|
    grd (v18.length<140737488355328) <|
    grd ((mG v19 p22.Ref).isSome=false) <|
    grd (v19.length<140737488355328) <|
    grd ((v20.length+1)*16<=140737488355328) <|
    j6 true (v18++[(p21.Ref,p22.Ref)]) (v19++[(p22.Ref,p21.Ref)]) (v20++[(WE.mk p21.Ref p22.Ref)]))
   else Qa9 N a0 a1 n (wI (v17+1)) v18 v19 v20)
  else some (.nxt (v18,v19,v20))
def Qba (N:Nat) (a0:Ud) (a1:Wy):Nat->Int->(List (Int×Int))->(List (Int×Int))->(List WE)->Option (Ex ((List (Int×Int))×(List (Int×Int))×List WE) ((List (Int×Int))×(List (Int×Int))×List WE))
 | 0,_,_,_,_=>none
 | n+1,v34,v35,v36,v37 =>
  bif (decide (v34<((a0.Globals.Entries.length:Nat):Int))) then (bnd (Xb a0.Globals.Entries v34) λ p38 =>
   bnd (Xb a1.Globals.Entries v34) λ p39 =>
   bif (p38.Gen != p39.Gen) then some (.ret (v35,v36,v37))
   else bif (!(p38.Live==p39.Live)) then some (.ret (v35,v36,v37))
   else bif p38.Live then (jn (λ (x41:Bool) (x42:List (Int×Int)) (x43:List (Int×Int)) (x44:List WE) =>
    bif (!x41) then some (.ret (x42,x43,x44))
    else Qba N a0 a1 n (wI (v34+1)) x42 x43 x44) λ j10 =>
    bif (p38.Ref==0) then j10 (p38.Ref==p39.Ref) v35 v36 v37
    else bif (p39.Ref==0) then j10 (p38.Ref==p39.Ref) v35 v36 v37
    else grd (0<=((mG v35 p38.Ref).getD 0)/\((mG v35 p38.Ref).getD 0)<=18446744073709551615) <|
    grd (0<=((mG v36 p39.Ref).getD 0)/\((mG v36 p39.Ref).getD 0)<=18446744073709551615) <|
    jn (λ (_:Unit) =>
     jn (λ (x40:Bool) =>
      j10 x40 v35 v36 v37) λ j9 =>
     bif (mG v35 p38.Ref).isSome then (bif (mG v36 p39.Ref).isSome then (bif (((mG v35 p38.Ref).getD 0)==p39.Ref) then j9 (((mG v36 p39.Ref).getD 0)==p38.Ref)
         else j9 false)
      else j9 false)
     else j9 false) λ j8 =>
    bif (mG v35 p38.Ref).isSome then j8 ()
    else bif (mG v36 p39.Ref).isSome then j8 ()
    else grd ((mG v35 p38.Ref).isSome=false) <|
    grd (v35.length<140737488355328) <|
    grd ((mG v36 p39.Ref).isSome=false) <|
    grd (v36.length<140737488355328) <|
    grd ((v37.length+1)*16<=140737488355328) <|
    j10 true (v35++[(p38.Ref,p39.Ref)]) (v36++[(p39.Ref,p38.Ref)]) (v37++[(WE.mk p38.Ref p39.Ref)]))
   else Qba N a0 a1 n (wI (v34+1)) v35 v36 v37)
  else some (.nxt (v35,v36,v37))
def Qbb (N:Nat) (a0:Ud) (a1:Wy):Nat->Int->(List (Int×Int))->(List (Int×Int))->(List WE)->Option (Ex ((List (Int×Int))×(List (Int×Int))×List WE) ((List (Int×Int))×(List (Int×Int))×List WE))
 | 0,_,_,_,_=>none
 | n+1,v51,v52,v53,v54 =>
  bif (decide (v51<((a0.Weaks.Entries.length:Nat):Int))) then (bnd (Xb a0.Weaks.Entries v51) λ p55 =>
   bnd (Xb a1.Weaks.Entries v51) λ p56 =>
   bif (p55.Gen != p56.Gen) then some (.ret (v52,v53,v54))
   else bif (!(p55.Live==p56.Live)) then some (.ret (v52,v53,v54))
   else bif p55.Live then (jn (λ (x58:Bool) (x59:List (Int×Int)) (x60:List (Int×Int)) (x61:List WE) =>
    bif (!x58) then some (.ret (x59,x60,x61))
    else Qbb N a0 a1 n (wI (v51+1)) x59 x60 x61) λ j14 =>
    bif (p55.Ref==0) then j14 (p55.Ref==p56.Ref) v52 v53 v54
    else bif (p56.Ref==0) then j14 (p55.Ref==p56.Ref) v52 v53 v54
    else grd (0<=((mG v52 p55.Ref).getD 0)/\((mG v52 p55.Ref).getD 0)<=18446744073709551615) <|
    grd (0<=((mG v53 p56.Ref).getD 0)/\((mG v53 p56.Ref).getD 0)<=18446744073709551615) <|
    jn (λ (_:Unit) =>
     jn (λ (x57:Bool) =>
      j14 x57 v52 v53 v54) λ j13 =>
     bif (mG v52 p55.Ref).isSome then (bif (mG v53 p56.Ref).isSome then (bif (((mG v52 p55.Ref).getD 0)==p56.Ref) then j13 (((mG v53 p56.Ref).getD 0)==p55.Ref)
         else j13 false)
      else j13 false)
     else j13 false) λ j12 =>
    bif (mG v52 p55.Ref).isSome then j12 ()
    else bif (mG v53 p56.Ref).isSome then j12 ()
    else grd ((mG v52 p55.Ref).isSome=false) <|
    grd (v52.length<140737488355328) <|
    grd ((mG v53 p56.Ref).isSome=false) <|
    grd (v53.length<140737488355328) <|
    grd ((v54.length+1)*16<=140737488355328) <|
    j14 true (v52++[(p55.Ref,p56.Ref)]) (v53++[(p56.Ref,p55.Ref)]) (v54++[(WE.mk p55.Ref p56.Ref)]))
   else Qbb N a0 a1 n (wI (v51+1)) v52 v53 v54)
  else some (.nxt (v52,v53,v54))
def Qbt (N:Nat) (a0:Ud) (a1:Wy):Nat->Int->(List (Int×Int))->(List (Int×Int))->(List WE)->Option (Ex ((List (Int×Int))×(List (Int×Int))×List WE) ((List (Int×Int))×(List (Int×Int))×List WE))
 | 0,_,_,_,_=>none
 | n+1,v68,v69,v70,v71 =>
  bif (decide (v68<((a0.Pins.length:Nat):Int))) then (bnd (Xb a0.Pins v68) λ p72 =>
   bnd (QgV N a0.Heap p72.Ref) λ y73 =>
   bnd (Xb a1.Marks v68) λ p74 =>
   bif (y73.2.2 != 0) then some (.ret (v69,v70,v71))
   else bif (p72.Count != p74.Count) then some (.ret (v69,v70,v71))
   else bif (y73.1 != p74.Base) then some (.ret (v69,v70,v71))
   else jn (λ (x76:Bool) (x77:List (Int×Int)) (x78:List (Int×Int)) (x79:List WE) =>
    bif (!x76) then some (.ret (x77,x78,x79))
    else Qbt N a0 a1 n (wI (v68+1)) x77 x78 x79) λ j18 =>
   bif (p72.Ref==0) then j18 (p72.Ref==p74.Id) v69 v70 v71
   else bif (p74.Id==0) then j18 (p72.Ref==p74.Id) v69 v70 v71
   else grd (0<=((mG v69 p72.Ref).getD 0)/\((mG v69 p72.Ref).getD 0)<=18446744073709551615) <|
   grd (0<=((mG v70 p74.Id).getD 0)/\((mG v70 p74.Id).getD 0)<=18446744073709551615) <|
   jn (λ (_:Unit) =>
    jn (λ (x75:Bool) =>
     j18 x75 v69 v70 v71) λ j17 =>
    bif (mG v69 p72.Ref).isSome then (bif (mG v70 p74.Id).isSome then (bif (((mG v69 p72.Ref).getD 0)==p74.Id) then j17 (((mG v70 p74.Id).getD 0)==p72.Ref)
        else j17 false)
     else j17 false)
    else j17 false) λ j16 =>
   bif (mG v69 p72.Ref).isSome then j16 ()
   else bif (mG v70 p74.Id).isSome then j16 ()
   else grd ((mG v69 p72.Ref).isSome=false) <|
   grd (v69.length<140737488355328) <|
   grd ((mG v70 p74.Id).isSome=false) <|
   grd (v70.length<140737488355328) <|
   grd ((v71.length+1)*16<=140737488355328) <|
   j18 true (v69++[(p72.Ref,p74.Id)]) (v70++[(p74.Id,p72.Ref)]) (v71++[(WE.mk p72.Ref p74.Id)]))
  else some (.nxt (v69,v70,v71))
def Qbu (N:Nat) (a0:Ud) (a1:Wy) (y91:WI×Int) (p92:UL) (v86:Int) (y93:List Int×Int):Nat->Int->(List (Int×Int))->(List (Int×Int))->(List WE)->Option (Ex ((List (Int×Int))×(List (Int×Int))×List WE) ((List (Int×Int))×(List (Int×Int))×List WE))
 | 0,_,_,_,_=>none
 | n+1,v94,v95,v96,v97 =>
  bif (decide (v94<((y93.1.length:Nat):Int))) then (bnd (Xb y93.1 v94) λ p98 =>
   bnd (QeB N y91.1 v94) λ y99 =>
   bif y99 then (bnd (Xb p92.Fields v94) λ p100 =>
    jn (λ (x102:Bool) (x103:List (Int×Int)) (x104:List (Int×Int)) (x105:List WE) =>
     bif (!x102) then some (.ret (x103,x104,x105))
     else Qbu N a0 a1 y91 p92 v86 y93 n (wI (v94+1)) x103 x104 x105) λ j22 =>
    bif (p98==0) then j22 (p98==p100) v95 v96 v97
    else bif (p100==0) then j22 (p98==p100) v95 v96 v97
    else grd (0<=((mG v95 p98).getD 0)/\((mG v95 p98).getD 0)<=18446744073709551615) <|
    grd (0<=((mG v96 p100).getD 0)/\((mG v96 p100).getD 0)<=18446744073709551615) <|
    jn (λ (_:Unit) =>
     jn (λ (x101:Bool) =>
      j22 x101 v95 v96 v97) λ j21 =>
     bif (mG v95 p98).isSome then (bif (mG v96 p100).isSome then (bif (((mG v95 p98).getD 0)==p100) then j21 (((mG v96 p100).getD 0)==p98)
         else j21 false)
      else j21 false)
     else j21 false) λ j20 =>
    bif (mG v95 p98).isSome then j20 ()
    else bif (mG v96 p100).isSome then j20 ()
    else grd ((mG v95 p98).isSome=false) <|
    grd (v95.length<140737488355328) <|
    grd ((mG v96 p100).isSome=false) <|
    grd (v96.length<140737488355328) <|
    grd ((v97.length+1)*16<=140737488355328) <|
    j22 true (v95++[(p98,p100)]) (v96++[(p100,p98)]) (v97++[(WE.mk p98 p100)]))
   else bnd (Xb p92.Fields v94) λ p106 =>
   bif (p98 != p106) then some (.ret (v95,v96,v97))
   else Qbu N a0 a1 y91 p92 v86 y93 n (wI (v94+1)) v95 v96 v97)
  else some (.nxt (v95,v96,v97))
def QaU (N:Nat) (a0:Ud) (a1:Wy):Nat->Int->(List (Int×Int))->(List (Int×Int))->(List WE)->Option (Ex (List WE×Bool) ((List (Int×Int))×(List (Int×Int))×List WE))
 | 0,_,_,_,_=>none
 | n+1,v86,v87,v88,v89 =>
  grd (v89.length<=140737488355328) <|
  bif (decide (v86<((v89.length:Nat):Int))) then (bnd (Xb v89 v86) λ p90 =>
   jn (λ (x109:Bool) (x110:List (Int×Int)) (x111:List (Int×Int)) (x112:List WE) =>
    bif (!x109) then some (.ret ([],false))
    else QaU N a0 a1 n (wI (v86+1)) x110 x111 x112) λ j23 =>
   bnd (Qe5 N a0.Heap p90.Addr) λ y91 =>
   bnd (Xb a1.Things (wU (p90.Id-1))) λ p92 =>
   bif (y91.2 != 0) then j23 false v87 v88 v89
   else bif (!((y91.1.Kind==p92.Header.Kind)&&((y91.1.Length==p92.Header.Length)&&(y91.1.Map==p92.Header.Map)))) then j23 false v87 v88 v89
   else bnd (QeR N a0.Heap p90.Addr) λ y93 =>
   bif (y93.2 != 0) then j23 false v87 v88 v89
   else bif (((y93.1.length:Nat):Int) != ((p92.Fields.length:Nat):Int)) then j23 false v87 v88 v89
   else bnd (Qbu N a0 a1 y91 p92 v86 y93 N 0 v87 v88 v89) λ e=>exK e (λ y107=>j23 false y107.1 y107.2.1 y107.2.2) λ y108 =>
   j23 true y108.1 y108.2.1 y108.2.2)
  else some (.nxt (v87,v88,v89))
def QdE (N:Nat) (a0:Ud) (a1:Wy):Option (List WE×Bool):=bnd (Qgn N a0) λ y1=>bif (!y1) then some ([],false) else bnd (Qfc N a1) λ y2=>bif (!y2) then some ([],false) else bif (!((a0.Heap.Conf.PageWords==a1.Conf.PageWords)&&(a0.Heap.Conf.Pages==a1.Conf.Pages))) then some ([],false) else bif (((a0.Roots.length:Nat):Int) != ((a1.Roots.length:Nat):Int)) then some ([],false) else bnd (QaT N a0 a1 N 0 [] [] []) λ e=>exK e (λ r=>some r) λ y14=>jn (λ (x30:Bool) (x31:List (Int×Int)) (x32:List (Int×Int)) (x33:List WE)=>bif (!x30) then some ([],false) else jn (λ (x47:Bool) (x48:List (Int×Int)) (x49:List (Int×Int)) (x50:List WE)=>bif (!x47) then some ([],false) else jn (λ (x64:Bool) (x65:List (Int×Int)) (x66:List (Int×Int)) (x67:List WE)=>bif (!x64) then some ([],false) else jn (λ (x82:Bool) (x83:List (Int×Int)) (x84:List (Int×Int)) (x85:List WE)=>bif (!x82) then some ([],false) else bnd (QaU N a0 a1 N 0 x83 x84 x85) λ e=>exK e (λ r=>some r) λ y113=>some (y113.2.2,true)) λ j19=>bif (((a0.Pins.length:Nat):Int) != ((a1.Marks.length:Nat):Int)) then j19 false x65 x66 x67 else bnd (Qbt N a0 a1 N 0 x65 x66 x67) λ e=>exK e (λ y80=>j19 false y80.1 y80.2.1 y80.2.2) λ y81=>j19 true y81.1 y81.2.1 y81.2.2) λ j15=>bif (((a0.Weaks.Entries.length:Nat):Int) != ((a1.Weaks.Entries.length:Nat):Int)) then j15 false x48 x49 x50 else bnd (Qbb N a0 a1 N 0 x48 x49 x50) λ e=>exK e (λ y62=>j15 false y62.1 y62.2.1 y62.2.2) λ y63=>j15 true y63.1 y63.2.1 y63.2.2) λ j11=>bif (((a0.Globals.Entries.length:Nat):Int) != ((a1.Globals.Entries.length:Nat):Int)) then j11 false x31 x32 x33 else bnd (Qba N a0 a1 N 0 x31 x32 x33) λ e=>exK e (λ y45=>j11 false y45.1 y45.2.1 y45.2.2) λ y46=>j11 true y46.1 y46.2.1 y46.2.2) λ j7=>bnd (QaD N a0.Locals.Scopes a1.Locals.Scopes) λ y15=>bif (!y15) then j7 false y14.1 y14.2.1 y14.2.2 else bnd (Qcn N a0.Locals.Issued a1.Locals.Issued) λ y16=>bif (!y16) then j7 false y14.1 y14.2.1 y14.2.2 else bif (((a0.Locals.Slots.length:Nat):Int) != ((a1.Locals.Slots.length:Nat):Int)) then j7 false y14.1 y14.2.1 y14.2.2 else bnd (Qa9 N a0 a1 N 0 y14.1 y14.2.1 y14.2.2) λ e=>exK e (λ y28=>j7 false y28.1 y28.2.1 y28.2.2) λ y29=>j7 true y29.1 y29.2.1 y29.2.2
def QbW (N:Nat) (a0:Wy):Nat->Int->(List UL)->Option (List UL)
 | 0,_,_=>none
 | n+1,v1,v2 =>
  bif (decide (v1<((a0.Things.length:Nat):Int))) then (bnd (Xb a0.Things v1) λ p3 =>
   bnd (Xb a0.Things v1) λ p4 =>
   grd ((v2.length+1)*48<=140737488355328) <|
   QbW N a0 n (wI (v1+1)) (v2++[(UL.mk p3.Header p4.Fields)]))
  else some v2
def QbX (N:Nat) (a0:Wy) (y5:List UL):Nat->Int->(List U7)->Option (List U7)
 | 0,_,_=>none
 | n+1,v6,v7 =>
  bif (decide (v6<((a0.Marks.length:Nat):Int))) then (bnd (Xb a0.Marks v6) λ p8 =>
   bnd (Xb a0.Marks v6) λ p9 =>
   bnd (Xb a0.Marks v6) λ p10 =>
   grd ((v7.length+1)*24<=140737488355328) <|
   QbX N a0 y5 n (wI (v6+1)) (v7++[(U7.mk p8.Id p9.Count p10.Base)]))
  else some v7
def Qcu (N:Nat) (a0:Wy):Option Wy:=bnd (QbW N a0 N 0 []) λ y5=>bnd (QbX N a0 y5 N 0 []) λ y11=>some (Wy.mk a0.Conf y5 a0.Locals a0.Globals a0.Weaks y11 a0.Roots)
def Qd9 (N:Nat) (a0:WD) (a1:WD):Nat->Int->Option (Ex Bool Unit)
 | 0,_=>none
 | n+1,v1 =>
  bif (decide (v1<((a0.Slots.length:Nat):Int))) then (bnd (Xb a0.Slots v1) λ p2 =>
   bnd (Xb a1.Slots v1) λ p3 =>
   bif (!((p2.Stamp==p3.Stamp)&&((p2.Ref==p3.Ref)&&(p2.Live==p3.Live)))) then some (.ret false)
   else Qd9 N a0 a1 n (wI (v1+1)))
  else some (.nxt ())
def Qea (N:Nat) (a0:WD) (a1:WD):Nat->Int->Option (Ex Bool Unit)
 | 0,_=>none
 | n+1,v5 =>
  bif (decide (v5<((a0.Scopes.length:Nat):Int))) then (bnd (Xb a0.Scopes v5) λ p6 =>
   bnd (Xb a1.Scopes v5) λ p7 =>
   bif (!((p6.From==p7.From)&&((p6.Cap==p7.Cap)&&(p6.Base==p7.Base)))) then some (.ret false)
   else Qea N a0 a1 n (wI (v5+1)))
  else some (.nxt ())
def Qeb (N:Nat) (a0:WD) (a1:WD):Nat->Int->Option (Ex Bool Unit)
 | 0,_=>none
 | n+1,v9 =>
  bif (decide (v9<((a0.Issued.length:Nat):Int))) then (bnd (Xb a0.Issued v9) λ p10 =>
   bnd (Xb a1.Issued v9) λ p11 =>
   bif (p10 != p11) then some (.ret false)
   else Qeb N a0 a1 n (wI (v9+1)))
  else some (.nxt ())
def Qhc (N:Nat) (a0:WD) (a1:WD):Option Bool:=bif (((a0.Slots.length:Nat):Int) != ((a1.Slots.length:Nat):Int)) then some false else bif (((a0.Scopes.length:Nat):Int) != ((a1.Scopes.length:Nat):Int)) then some false else bif (((a0.Issued.length:Nat):Int) != ((a1.Issued.length:Nat):Int)) then some false else bnd (Qd9 N a0 a1 N 0) λ e=>exK e (λ r=>some r) λ y4=>bnd (Qea N a0 a1 N 0) λ e=>exK e (λ r=>some r) λ y8=>bnd (Qeb N a0 a1 N 0) λ e=>exK e (λ r=>some r) λ y12=>some true
def Qec (N:Nat) (a0:WD):Nat->Int->(List U1)->Option (List U1)
 | 0,_,_=>none
 | n+1,v1,v2 =>
  grd (v2.length<=140737488355328) <|
  bif (decide (v1<((v2.length:Nat):Int))) then (bnd (Xb v2 v1) λ p3 =>
   Qec N a0 n (wI (v1+1)) (v2.set v1.toNat (U1.mk p3.Stamp 0 p3.Live)))
  else some v2
def QgE (N:Nat) (a0:WD):Option WD:=grd (a0.Slots.length*24<=140737488355328) <| bnd (Qec N a0 N 0 a0.Slots) λ y4=>some (WD.mk y4 a0.Scopes a0.Issued)
def Qed (N:Nat) (a0:WT) (a1:WT):Nat->Int->Option (Ex Bool Unit)
 | 0,_=>none
 | n+1,v1 =>
  bif (decide (v1<((a0.Entries.length:Nat):Int))) then (bnd (Xb a0.Entries v1) λ p2 =>
   bnd (Xb a1.Entries v1) λ p3 =>
   bif (!((p2.Gen==p3.Gen)&&((p2.Ref==p3.Ref)&&(p2.Live==p3.Live)))) then some (.ret false)
   else Qed N a0 a1 n (wI (v1+1)))
  else some (.nxt ())
def QgF (N:Nat) (a0:WT) (a1:WT):Option Bool:=bif (((a0.Entries.length:Nat):Int) != ((a1.Entries.length:Nat):Int)) then some false else bnd (Qed N a0 a1 N 0) λ e=>exK e (λ r=>some r) λ y4=>some true
def QdF (N:Nat):Nat->Int->(List Uj)->Option (List Uj)
 | 0,_,_=>none
 | n+1,v1,v2 =>
  grd (v2.length<=140737488355328) <|
  bif (decide (v1<((v2.length:Nat):Int))) then (bnd (Xb v2 v1) λ p3 =>
   QdF N n (wI (v1+1)) (v2.set v1.toNat (Uj.mk p3.Gen 0 p3.Live)))
  else some v2
def Qew (N:Nat) (a0:WT):Option WT:=grd (a0.Entries.length*24<=140737488355328) <| bnd (QdF N N 0 a0.Entries) λ y4=>some (WT.mk y4)
def Qdc (N:Nat) (a0:Ud) (a1:Wy):Nat->Int->Option (Ex Bool Unit)
 | 0,_=>none
 | n+1,v1 =>
  bif (decide (v1<((a0.Pins.length:Nat):Int))) then (bnd (Xb a0.Pins v1) λ p2 =>
   bnd (Xb a1.Marks v1) λ p3 =>
   bif (p2.Count != p3.Count) then some (.ret false)
   else bnd (Xb a0.Pins v1) λ p4 =>
   bnd (Xb a1.Marks v1) λ p5 =>
   bif ((wU (p4.Ref+1)) != p5.Base) then some (.ret false)
   else Qdc N a0 a1 n (wI (v1+1)))
  else some (.nxt ())
def Qfs (N:Nat) (a0:Ud) (a1:Wy):Option Bool:=bif (!((a0.Heap.Conf.PageWords==a1.Conf.PageWords)&&(a0.Heap.Conf.Pages==a1.Conf.Pages))) then some false else bif (((a0.Roots.length:Nat):Int) != ((a1.Roots.length:Nat):Int)) then some false else bif (((a0.Pins.length:Nat):Int) != ((a1.Marks.length:Nat):Int)) then some false else bnd (Qdc N a0 a1 N 0) λ e=>exK e (λ r=>some r) λ y6=>bnd (QgE N a0.Locals) λ y7=>bnd (QgE N a1.Locals) λ y8=>bnd (Qhc N y7 y8) λ y9=>bif y9 then (bnd (Qew N a0.Globals) λ y10=>bnd (Qew N a1.Globals) λ y11=>bnd (QgF N y10 y11) λ y12=>bif y12 then (bnd (Qew N a0.Weaks) λ y13=>bnd (Qew N a1.Weaks) λ y14=>bnd (QgF N y13 y14) λ y15=>some y15) else some false) else some false
def Qdd (N:Nat) (a0:Ud):Nat->Int->(List Int)->Option (List Int)
 | 0,_,_=>none
 | n+1,v4,v5 =>
  bif (decide (v4<((a0.Pins.length:Nat):Int))) then (bnd (Xb a0.Pins v4) λ p6 =>
   grd ((v5.length+1)*8<=140737488355328) <|
   Qdd N a0 n (wI (v4+1)) (v5++[p6.Ref]))
  else some v5
def Qgo (N:Nat) (a0:Ud):Option (List Int):=grd (a0.Roots.length*8<=140737488355328) <| bnd (Qb0 N a0.Locals) λ y1=>grd ((a0.Roots.length+y1.length)*8<=140737488355328) <| bnd (QaM N a0.Globals) λ y2=>grd (((a0.Roots.length+y1.length)+y2.length)*8<=140737488355328) <| bnd (QaM N a0.Weaks) λ y3=>grd ((((a0.Roots.length+y1.length)+y2.length)+y3.length)*8<=140737488355328) <| bnd (Qdd N a0 N 0 (((a0.Roots++y1)++y2)++y3)) λ y7=>some y7
def QdG (N:Nat) (a0:Wy):Nat->Int->(List Int)->Option (List Int)
 | 0,_,_=>none
 | n+1,v4,v5 =>
  bif (decide (v4<((a0.Marks.length:Nat):Int))) then (bnd (Xb a0.Marks v4) λ p6 =>
   grd ((v5.length+1)*8<=140737488355328) <|
   QdG N a0 n (wI (v4+1)) (v5++[p6.Id]))
  else some v5
def QgS (N:Nat) (a0:Wy):Option (List Int):=grd (a0.Roots.length*8<=140737488355328) <| bnd (Qb0 N a0.Locals) λ y1=>grd ((a0.Roots.length+y1.length)*8<=140737488355328) <| bnd (QaM N a0.Globals) λ y2=>grd (((a0.Roots.length+y1.length)+y2.length)*8<=140737488355328) <| bnd (QaM N a0.Weaks) λ y3=>grd ((((a0.Roots.length+y1.length)+y2.length)+y3.length)*8<=140737488355328) <| bnd (QdG N a0 N 0 (((a0.Roots++y1)++y2)++y3)) λ y7=>some y7
def QcS (N:Nat) (y1:WI×Int) (p2:UL) (y3:List Int×Int):Nat->Int->(List Int)->(List Int)->Option (Ex (List Int×List Int×Bool) (List Int×List Int))
 | 0,_,_,_=>none
 | n+1,v4,v5,v6 =>
  bif (decide (v4<((y3.1.length:Nat):Int))) then (bnd (QbN N y1.1 v4) λ y7 =>
   bif y7 then (bnd (Xb y3.1 v4) λ p8 =>
    grd ((v5.length+1)*8<=140737488355328) <|
    bnd (Xb p2.Fields v4) λ p9 =>
    grd ((v6.length+1)*8<=140737488355328) <|
    QcS N y1 p2 y3 n (wI (v4+1)) (v5++[p8]) (v6++[p9]))
   else bnd (Xb y3.1 v4) λ p10 =>
   bnd (Xb p2.Fields v4) λ p11 =>
   bif (p10 != p11) then some (.ret ([],[],false))
   else QcS N y1 p2 y3 n (wI (v4+1)) v5 v6)
  else some (.nxt (v5,v6))
def Qfd (N:Nat) (a0:Ud) (a1:Wy) (a2:WE):Option (List Int×List Int×Bool):=bnd (Qbn N a0.Heap a2.Addr) λ y1=>bnd (Xb a1.Things (wU (a2.Id-1))) λ p2=>bif (!((y1.1.Kind==p2.Header.Kind)&&((y1.1.Length==p2.Header.Length)&&(y1.1.Map==p2.Header.Map)))) then some ([],[],false) else bnd (Qcv N a0.Heap a2.Addr) λ y3=>bnd (QcS N y1 p2 y3 N 0 [] []) λ e=>exK e (λ r=>some r) λ y12=>some (y12.1,y12.2,true)
def QbM (N:Nat) (a1:List Int) (a2:List Int) (v1:Int) (v2:List WE):Nat->Bool->Int->Option (Ex (List WE×Bool) Bool)
 | 0,_,_=>none
 | n+1,v6,v7 =>
  grd (v2.length<=140737488355328) <|
  bif (decide (v7<((v2.length:Nat):Int))) then (bnd (Xb v2 v7) λ p8 =>
   bnd (Xb a1 v1) λ p9 =>
   bnd (Xb v2 v7) λ p10 =>
   bnd (Xb a2 v1) λ p11 =>
   bif (!((p8.Addr==p9)==(p10.Id==p11))) then some (.ret ([],false))
   else bif v6 then QbM N a1 a2 v1 v2 n true (wI (v7+1))
   else bnd (Xb v2 v7) λ p12 =>
   bnd (Xb a1 v1) λ p13 =>
   QbM N a1 a2 v1 v2 n (p12.Addr==p13) (wI (v7+1)))
  else some (.nxt v6)
def Qb9 (N:Nat) (a1:List Int) (a2:List Int):Nat->Int->(List WE)->Option (Ex (List WE×Bool) (List WE))
 | 0,_,_=>none
 | n+1,v1,v2 =>
  bif (decide (v1<((a1.length:Nat):Int))) then (bnd (Xb a1 v1) λ p3 =>
   bnd (Xb a2 v1) λ p4 =>
   bif (!((p3==0)==(p4==0))) then some (.ret ([],false))
   else bnd (Xb a1 v1) λ p5 =>
   bnd (QbM N a1 a2 v1 v2 N (p5==0) 0) λ e=>exK e (λ r=>some (.ret r)) λ y14 =>
   bif (!y14) then (bnd (Xb a1 v1) λ p15 =>
    bnd (Xb a2 v1) λ p16 =>
    grd ((v2.length+1)*16<=140737488355328) <|
    Qb9 N a1 a2 n (wI (v1+1)) (v2++[(WE.mk p15 p16)]))
   else Qb9 N a1 a2 n (wI (v1+1)) v2)
  else some (.nxt v2)
def QfV (N:Nat) (a1:List Int) (a2:List Int):Option (List WE×Bool):=bnd (Qb9 N a1 a2 N 0 []) λ e=>exK e (λ r=>some r) λ y17=>some (y17,true)
def Qco (N:Nat) (a0:Ud) (a1:Wy) (v12:Int) (v13:List WE) (v8:Int) (y11:List Int×List Int×Bool):Nat->Bool->Int->Option (Ex Unit Bool)
 | 0,_,_=>none
 | n+1,v17,v18 =>
  grd (v13.length<=140737488355328) <|
  bif (decide (v18<((v13.length:Nat):Int))) then (bnd (Xb v13 v18) λ p19 =>
   bnd (Xb y11.1 v12) λ p20 =>
   bnd (Xb v13 v18) λ p21 =>
   bnd (Xb y11.2.1 v12) λ p22 =>
   bif (!((p19.Addr==p20)==(p21.Id==p22))) then some (.ret ())
   else bif v17 then Qco N a0 a1 v12 v13 v8 y11 n true (wI (v18+1))
   else bnd (Xb v13 v18) λ p23 =>
   bnd (Xb y11.1 v12) λ p24 =>
   Qco N a0 a1 v12 v13 v8 y11 n (p23.Addr==p24) (wI (v18+1)))
  else some (.nxt v17)
def Qcp (N:Nat) (a0:Ud) (a1:Wy) (v8:Int) (y11:List Int×List Int×Bool):Nat->Int->(List WE)->Option (Ex Unit (List WE))
 | 0,_,_=>none
 | n+1,v12,v13 =>
  bif (decide (v12<((y11.1.length:Nat):Int))) then (bnd (Xb y11.1 v12) λ p14 =>
   bnd (Xb y11.2.1 v12) λ p15 =>
   bif (!((p14==0)==(p15==0))) then some (.ret ())
   else bnd (Xb y11.1 v12) λ p16 =>
   bnd (Qco N a0 a1 v12 v13 v8 y11 N (p16==0) 0) λ e=>exK e (λ y25=>some (.ret ())) λ y26 =>
   bif (!y26) then (bnd (Xb y11.1 v12) λ p27 =>
    bnd (Xb y11.2.1 v12) λ p28 =>
    grd ((v13.length+1)*16<=140737488355328) <|
    Qcp N a0 a1 v8 y11 n (wI (v12+1)) (v13++[(WE.mk p27 p28)]))
   else Qcp N a0 a1 v8 y11 n (wI (v12+1)) v13)
  else some (.nxt v13)
def Qa1 (N:Nat) (a0:Ud) (a1:Wy):Nat->Bool->Int->(List WE)->Option (Ex (List WE×Bool) (Bool×List WE))
 | 0,_,_,_=>none
 | n+1,v7,v8,v9 =>
  bif v7 then (grd (v9.length<=140737488355328) <|
   bif (decide (v8<((v9.length:Nat):Int))) then (bnd (Xb v9 v8) λ p10 =>
    bnd (Qfd N a0 a1 p10) λ y11 =>
    bif (!y11.2.2) then some (.ret ([],false))
    else jn (λ (x31:Bool) (x32:List WE) =>
     Qa1 N a0 a1 n x31 (wI (v8+1)) x32) λ j1 =>
    bnd (Qcp N a0 a1 v8 y11 N 0 v9) λ e=>exK e (λ y29=>j1 false []) λ y30 =>
    j1 true y30)
   else some (.nxt (v7,v9)))
  else some (.nxt (v7,v9))
def Qfe (N:Nat) (a0:Ud) (a1:Wy):Option (List WE×Bool):=bnd (QbH N a0) λ y1=>bif (!y1) then some ([],false) else bnd (QdK N a1) λ y2=>bif (!y2) then some ([],false) else bnd (Qfs N a0 a1) λ y3=>bif (!y3) then some ([],false) else bnd (Qgo N a0) λ y4=>bnd (QgS N a1) λ y5=>bnd (QfV N y4 y5) λ y6=>bnd (Qa1 N a0 a1 N y6.2 0 y6.1) λ e=>exK e (λ r=>some r) λ y33=>bif (!y33.1) then some ([],false) else some (y33.2,true)
def Qee (N:Nat) (a0:List WE) (a1:List WE):Nat->Int->Option (Ex Bool Unit)
 | 0,_=>none
 | n+1,v1 =>
  bif (decide (v1<((a0.length:Nat):Int))) then (bnd (Xb a0 v1) λ p2 =>
   bnd (Xb a1 v1) λ p3 =>
   bif (p2.Addr != p3.Addr) then some (.ret false)
   else bnd (Xb a0 v1) λ p4 =>
   bnd (Xb a1 v1) λ p5 =>
   bif (p4.Id != p5.Id) then some (.ret false)
   else Qee N a0 a1 n (wI (v1+1)))
  else some (.nxt ())
def Qhd (N:Nat) (a0:List WE) (a1:List WE):Option Bool:=bif (((a0.length:Nat):Int) != ((a1.length:Nat):Int)) then some false else bnd (Qee N a0 a1 N 0) λ e=>exK e (λ r=>some r) λ y6=>some true
def Qhs (N:Nat):Option Bool:=bnd (Qg0 N [] 0) λ y1=>bnd (Qcu N y1.World) λ y2=>bnd (QdE N y1.Env y2) λ y3=>bif y3.2 then some (((y3.1.length:Nat):Int)==0) else some false
def QaJ (N:Nat) (a0:Ud) (a1:Wy) (y3:ID) (y4:Ud×UV) (y5:Wy×UV) (p7:Ud) (v6:Int):Nat->Int->Option (Ex Bool Unit)
 | 0,_=>none
 | n+1,v8 =>
  bif (decide (v8<3)) then (bnd (Xb [y3.World,y5.1,a1] v8) λ p9 =>
   bnd (Qcu N p9) λ y10 =>
   bnd (QdE N p7 y10) λ y11 =>
   bnd (Qfe N p7 p9) λ y12 =>
   bif (!(y11.2==y12.2)) then some (.ret false)
   else bnd (Qhd N y11.1 y12.1) λ y13 =>
   bif (!y13) then some (.ret false)
   else QaJ N a0 a1 y3 y4 y5 p7 v6 n (wI (v8+1)))
  else some (.nxt ())
def QaK (N:Nat) (a0:Ud) (a1:Wy) (y3:ID) (y4:Ud×UV) (y5:Wy×UV):Nat->Int->Option (Ex Bool Unit)
 | 0,_=>none
 | n+1,v6 =>
  bif (decide (v6<3)) then (bnd (Xb [y3.Env,y4.1,a0] v6) λ p7 =>
   bnd (QaJ N a0 a1 y3 y4 y5 p7 v6 N 0) λ e=>exK e (λ r=>some (.ret r)) λ y14 =>
   QaK N a0 a1 y3 y4 y5 n (wI (v6+1)))
  else some (.nxt ())
def QcT (N:Nat) (a0:Ud) (a1:Wy) (a2:List Int) (a3:List Int):Option Bool:=bnd (QfL N a0) λ y1=>bif (!y1) then some true else bnd (QeT N a1) λ y2=>bif (!y2) then some true else bnd (Qg0 N a2 60) λ y3=>bnd (Qe2 N y3.Env (UV.mk a3 0)) λ y4=>bnd (QfI N y3.World y4.2) λ y5=>bnd (QaK N a0 a1 y3 y4 y5 N 0) λ e=>exK e (λ r=>some r) λ y15=>bnd (Qhs N ) λ y16=>some y16
end Go.Sx
