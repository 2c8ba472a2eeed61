import Derived.Test.YtlneiohchomcfaaGreatDoorProg
import Derived.Test.YtlneiohchomcfaaGreatDoorSR
import Derived.Test.YtlneiohchomcfaaGreatDoorSJ
set_option linter.all false
namespace Go.Sx
open Go.Proofs Tryz
theorem ty3:Xv prog 3=some ⟨1,8,(.int .i64 0),.int .i64⟩:=ac
theorem Xjc:prog.bytesOf 3=8:=ac
theorem ty4:Xv prog 4=some ⟨1,1,(.bool false),.bool⟩:=ac
theorem Xse:prog.bytesOf 4=1:=ac
theorem ty9:Xv prog 9=some ⟨1,16,(.string (ByteArray.mk #[])),.str⟩:=ac
theorem Xtk:Xv prog 22=some ⟨1,24,(.slice none 0 0),.slice 3 1⟩:=ac
theorem XuM:Xv prog 24=some ⟨2,16,(.agg #[(.int .i64 0),(.int .i64 0)]),.struct [(0,1,3),(1,1,3)]⟩:=ac
theorem Xqi:prog.bytesOf 24=16:=ac
theorem XuN:Xv prog 25=some ⟨1,24,(.slice none 0 0),.slice 49 1⟩:=ac
theorem Xqj:prog.bytesOf 25=24:=ac
theorem XuO:Xv prog 26=some ⟨1,24,(.slice none 0 0),.slice 139 4⟩:=ac
theorem XuP:Xv prog 28=some ⟨6,80,(.agg #[(.int .i64 0),(.int .i64 0),(.slice none 0 0),(.slice none 0 0),(.int .i64 0),(.int .i64 0)]),.struct [(0,2,24),(2,1,25),(3,1,26),(4,1,3),(5,1,3)]⟩:=ac
theorem Xqk:prog.bytesOf 28=80:=ac
theorem XuQ:Xv prog 29=some ⟨1,24,(.slice none 0 0),.slice 141 3⟩:=ac
theorem XuR:Xv prog 30=some ⟨1,24,(.slice none 0 0),.slice 121 3⟩:=ac
theorem XuS:Xv prog 32=some ⟨3,72,(.agg #[(.slice none 0 0),(.slice none 0 0),(.slice none 0 0)]),.struct [(0,1,29),(1,1,30),(2,1,22)]⟩:=ac
theorem Xql:prog.bytesOf 32=72:=ac
theorem XuT:Xv prog 33=some ⟨1,24,(.slice none 0 0),.slice 145 3⟩:=ac
theorem XuU:Xv prog 35=some ⟨1,24,(.agg #[(.slice none 0 0)]),.struct [(0,1,33)]⟩:=ac
theorem Xqm:prog.bytesOf 35=24:=ac
theorem XuV:Xv prog 36=some ⟨1,24,(.slice none 0 0),.slice 101 2⟩:=ac
theorem XuW:Xv prog 38=some ⟨13,248,(.agg #[(.int .i64 0),(.int .i64 0),(.slice none 0 0),(.slice none 0 0),(.int .i64 0),(.int .i64 0),(.slice none 0 0),(.slice none 0 0),(.slice none 0 0),(.slice none 0 0),(.slice none 0 0),(.slice none 0 0),(.slice none 0 0)]),.struct [(0,6,28),(6,3,32),(9,1,35),(10,1,35),(11,1,36),(12,1,25)]⟩:=ac
theorem Xqn:prog.bytesOf 38=248:=ac
theorem XuX:Xv prog 39=some ⟨1,24,(.slice none 0 0),.slice 173 4⟩:=ac
theorem XuY:Xv prog 40=some ⟨1,24,(.slice none 0 0),.slice 246 3⟩:=ac
theorem XuZ:Xv prog 42=some ⟨10,208,(.agg #[(.int .i64 0),(.int .i64 0),(.slice none 0 0),(.slice none 0 0),(.slice none 0 0),(.slice none 0 0),(.slice none 0 0),(.slice none 0 0),(.slice none 0 0),(.slice none 0 0)]),.struct [(0,2,24),(2,1,39),(3,3,32),(6,1,35),(7,1,35),(8,1,40),(9,1,25)]⟩:=ac
theorem Xqo:prog.bytesOf 42=208:=ac
theorem Xu0:Xv prog 44=some ⟨24,480,(.agg #[(.int .i64 0),(.int .i64 0),(.slice none 0 0),(.slice none 0 0),(.int .i64 0),(.int .i64 0),(.slice none 0 0),(.slice none 0 0),(.slice none 0 0),(.slice none 0 0),(.slice none 0 0),(.slice none 0 0),(.slice none 0 0),(.int .i64 0),(.int .i64 0),(.slice none 0 0),(.slice none 0 0),(.slice none 0 0),(.slice none 0 0),(.slice none 0 0),(.slice none 0 0),(.slice none 0 0),(.slice none 0 0),(.slice none 0 0)]),.struct [(0,13,38),(13,10,42),(23,1,25)]⟩:=ac
theorem Xqp:prog.bytesOf 44=480:=ac
theorem Xu1:Xv prog 48=some ⟨2,32,(.agg #[(.slice none 0 0),(.int .i64 0)]),.struct [(0,1,22),(1,1,3)]⟩:=ac
theorem Xqq:prog.bytesOf 48=32:=ac
theorem Xu2:Xv prog 49=some ⟨1,8,(.int .u64 0),.int .u64⟩:=ac
theorem Xkr:prog.bytesOf 49=8:=ac
theorem Xu3:Xv prog 51=some ⟨4,32,(.agg #[(.int .i64 0),(.int .u64 0),(.int .u64 0),(.int .u64 0)]),.struct [(0,1,3),(1,1,49),(2,1,49),(3,1,49)]⟩:=ac
theorem Xqr:prog.bytesOf 51=32:=ac
theorem Xu4:Xv prog 53=some ⟨1,8,(.int .i64 0),.int .i64⟩:=ac
theorem Xu5:Xv prog 60=some ⟨6,48,(.agg #[(.int .i64 0),(.int .i64 0),(.int .i64 0),(.int .i64 0),(.int .i64 0),(.int .i64 0)]),.struct [(0,1,3),(1,1,3),(2,1,3),(3,1,3),(4,1,3),(5,1,3)]⟩:=ac
theorem Xqs:prog.bytesOf 60=48:=ac
theorem Xu6:Xv prog 77=some ⟨1,8,(.int .u64 0),.int .u64⟩:=ac
theorem Xu7:Xv prog 82=some ⟨16,272,(.agg #[(.int .i64 0),(.int .i64 0),(.slice none 0 0),(.slice none 0 0),(.int .i64 0),(.int .i64 0),(.slice none 0 0),(.slice none 0 0),(.slice none 0 0),(.slice none 0 0),(.slice none 0 0),(.slice none 0 0),(.slice none 0 0),(.int .u64 0),(.int .u64 0),(.int .u64 0)]),.struct [(0,13,38),(13,1,49),(14,1,49),(15,1,49)]⟩:=ac
theorem Xu8:Xv prog 84=some ⟨1,8,.nilFunc,.other⟩:=ac
theorem Xu9:Xv prog 85=some ⟨21,168,(.agg #[.nilFunc,.nilFunc,.nilFunc,.nilFunc,.nilFunc,.nilFunc,.nilFunc,.nilFunc,.nilFunc,.nilFunc,.nilFunc,.nilFunc,.nilFunc,.nilFunc,.nilFunc,.nilFunc,.nilFunc,.nilFunc,.nilFunc,.nilFunc,.nilFunc]),.array 21 84 1⟩:=ac
theorem Xtl:Xv prog 101=some ⟨2,16,(.agg #[(.int .u64 0),(.int .i64 0)]),.struct [(0,1,49),(1,1,3)]⟩:=ac
theorem Xh3:prog.bytesOf 101=16:=ac
theorem Xtm:Xv prog 105=some ⟨1,4,(.int .u32 0),.int .u32⟩:=ac
theorem Xtn:Xv prog 107=some ⟨3,24,(.agg #[(.int .i64 0),(.int .i64 0),(.int .u32 0)]),.struct [(0,1,3),(1,1,3),(2,1,105)]⟩:=ac
theorem Xn3:prog.bytesOf 107=24:=ac
theorem Xqt:YY prog 107=some [some .i64,some .i64,some .u32]:=ac
theorem Xto:Xv prog 121=some ⟨3,24,(.agg #[(.int .i64 0),(.int .i64 0),(.bool false)]),.struct [(0,1,3),(1,1,3),(2,1,4)]⟩:=ac
theorem Xh4:prog.bytesOf 121=24:=ac
theorem Xtp:Xv prog 124=some ⟨3,16,(.agg #[(.bool false),(.bool false),(.int .u64 0)]),.struct [(0,1,4),(1,1,4),(2,1,49)]⟩:=ac
theorem Xn4:prog.bytesOf 124=16:=ac
theorem Xtq:Xv prog 139=some ⟨4,32,(.agg #[(.int .i64 0),(.int .i64 0),(.int .i64 0),(.int .i64 0)]),.struct [(0,1,3),(1,1,3),(2,1,3),(3,1,3)]⟩:=ac
theorem Xh5:prog.bytesOf 139=32:=ac
theorem Xqu:YY prog 139=some [some .i64,some .i64,some .i64,some .i64]:=ac
theorem Xtr:Xv prog 141=some ⟨3,24,(.agg #[(.int .i64 0),(.int .u64 0),(.bool false)]),.struct [(0,1,3),(1,1,49),(2,1,4)]⟩:=ac
theorem Xh6:prog.bytesOf 141=24:=ac
theorem Xts:Xv prog 145=some ⟨3,24,(.agg #[(.int .i64 0),(.int .u64 0),(.bool false)]),.struct [(0,1,3),(1,1,49),(2,1,4)]⟩:=ac
theorem Xh7:prog.bytesOf 145=24:=ac
theorem Xtt:Xv prog 147=some ⟨16,208,(.agg #[(.int .i64 0),(.int .i64 0),(.slice none 0 0),(.slice none 0 0),(.int .i64 0),(.int .i64 0),(.slice none 0 0),(.slice none 0 0),(.slice none 0 0),(.int .i64 0),(.int .i64 0),(.int .i64 0),(.int .i64 0),(.int .i64 0),(.int .i64 0),(.int .i64 0)]),.struct [(0,6,28),(6,1,25),(7,1,22),(8,1,25),(9,1,3),(10,6,60)]⟩:=ac
theorem Xn5:prog.bytesOf 147=208:=ac
theorem Xtu:Xv prog 164=some ⟨1,24,(.slice none 0 0),.slice 4 1⟩:=ac
theorem Xtv:Xv prog 173=some ⟨4,48,(.agg #[(.int .i64 0),(.int .i64 0),(.int .u32 0),(.slice none 0 0)]),.struct [(0,3,107),(3,1,25)]⟩:=ac
theorem Xn6:prog.bytesOf 173=48:=ac
theorem Xtw:Xv prog 183=some ⟨1,24,(.slice none 0 0),.slice 101 2⟩:=ac
theorem Xtx:Xv prog 186=some ⟨3,72,(.agg #[(.slice none 0 0),(.slice none 0 0),(.slice none 0 0)]),.struct [(0,3,32)]⟩:=ac
theorem Xn7:prog.bytesOf 186=72:=ac
theorem Xty:Xv prog 195=some ⟨1,24,(.slice none 0 0),.slice 25 1⟩:=ac
theorem Xtz:Xv prog 211=some ⟨3,24,(.agg #[(.int .i64 0),(.int .i64 0),(.int .i64 0)]),.struct [(0,1,3),(1,1,3),(2,1,3)]⟩:=ac
theorem Xn8:prog.bytesOf 211=24:=ac
theorem XtA:Xv prog 223=some ⟨3,24,(.agg #[(.int .i64 0),(.int .i64 0),(.int .u64 0)]),.struct [(0,1,3),(1,1,3),(2,1,49)]⟩:=ac
theorem Xn9:prog.bytesOf 223=24:=ac
theorem Xqv:YY prog 223=some [some .i64,some .i64,some .u64]:=ac
theorem XtB:Xv prog 246=some ⟨3,24,(.agg #[(.int .u64 0),(.int .i64 0),(.int .u64 0)]),.struct [(0,1,49),(1,1,3),(2,1,49)]⟩:=ac
theorem Xoa:prog.bytesOf 246=24:=ac
theorem XtC:Xv prog 270=some ⟨3,24,(.agg #[(.int .i64 0),(.int .i64 0),(.int .u64 0)]),.struct [(0,1,3),(1,1,3),(2,1,49)]⟩:=ac
theorem Xob:prog.bytesOf 270=24:=ac
theorem Xqw:YY prog 270=some [some .i64,some .i64,some .u64]:=ac
theorem XtD:Xv prog 277=some ⟨1,24,(.slice none 0 0),.slice 283 4⟩:=ac
theorem XtE:Xv prog 283=some ⟨4,32,(.agg #[(.int .u64 0),(.int .i64 0),(.int .i64 0),(.int .u32 0)]),.struct [(0,1,49),(1,3,107)]⟩:=ac
theorem Xoc:prog.bytesOf 283=32:=ac
theorem XtF:Xv prog 315=some ⟨1,24,(.slice none 0 0),.slice 318 2⟩:=ac
theorem XtG:Xv prog 316=some ⟨3,24,(.agg #[(.int .i64 0),(.int .i64 0),(.int .i64 0)]),.array 3 3 1⟩:=ac
theorem XtH:Xv prog 318=some ⟨2,16,(.agg #[(.int .i64 0),(.int .u64 0)]),.struct [(0,1,3),(1,1,49)]⟩:=ac
theorem Xod:prog.bytesOf 318=16:=ac
theorem XtI:Xv prog 341=some ⟨2,16,(.agg #[(.int .i64 0),(.int .i64 0)]),.struct [(0,1,3),(1,1,3)]⟩:=ac
theorem Xoe:prog.bytesOf 341=16:=ac
theorem XtJ:Xv prog 345=some ⟨3,24,(.agg #[(.int .i64 0),(.int .i64 0),(.int .i64 0)]),.array 3 53 1⟩:=ac
theorem Xqx:YY prog 345=some [some .i64,some .i64,some .i64]:=ac
theorem XtK:Xv prog 352=some ⟨1,24,(.slice none 0 0),.slice 355 2⟩:=ac
theorem XtL:Xv prog 355=some ⟨2,16,(.agg #[(.int .i64 0),(.int .i64 0)]),.struct [(0,1,3),(1,1,3)]⟩:=ac
theorem Xof:prog.bytesOf 355=16:=ac
theorem XtM:Xv prog 359=some ⟨1,8,.nilFunc,.other⟩:=ac
theorem XtN:Xv prog 360=some ⟨4,32,(.agg #[(.int .i64 0),(.int .i64 0),(.int .i64 0),(.int .i64 0)]),.struct [(0,1,3),(1,1,3),(2,1,3),(3,1,3)]⟩:=ac
theorem Xog:prog.bytesOf 360=32:=ac
theorem Xqy:YY prog 360=some [some .i64,some .i64,some .i64,some .i64]:=ac
theorem XtO:Xv prog 361=some ⟨3,24,(.agg #[.nilFunc,.nilFunc,.nilFunc]),.array 3 359 1⟩:=ac
theorem XtP:Xv prog 367=some ⟨1,8,(.agg #[(.int .i64 0)]),.struct [(0,1,3)]⟩:=ac
theorem XtQ:Xv prog 369=some ⟨1,8,(.agg #[(.int .i64 0)]),.struct [(0,1,3)]⟩:=ac
theorem XtR:Xv prog 372=some ⟨1,8,(.agg #[(.int .i64 0)]),.struct [(0,1,53)]⟩:=ac
theorem XtS:Xv prog 374=some ⟨16,208,(.agg #[(.int .i64 0),(.int .i64 0),(.slice none 0 0),(.slice none 0 0),(.int .i64 0),(.int .i64 0),(.slice none 0 0),(.slice none 0 0),(.slice none 0 0),(.int .i64 0),(.int .i64 0),(.int .i64 0),(.int .i64 0),(.int .i64 0),(.int .i64 0),(.int .i64 0)]),.struct [(0,6,28),(6,1,25),(7,1,22),(8,1,25),(9,1,3),(10,6,60)]⟩:=ac
theorem Xoh:prog.bytesOf 374=208:=ac
theorem XtT:Xv prog 385=some ⟨1,8,(.pointer none),.other⟩:=ac
theorem XtU:Xv prog 386=some ⟨16,208,(.agg #[(.int .i64 0),(.int .i64 0),(.slice none 0 0),(.slice none 0 0),(.int .i64 0),(.int .i64 0),(.slice none 0 0),(.slice none 0 0),(.slice none 0 0),(.int .i64 0),(.int .i64 0),(.int .i64 0),(.int .i64 0),(.int .i64 0),(.int .i64 0),(.int .i64 0)]),.struct [(0,6,28),(6,1,25),(7,1,22),(8,1,25),(9,1,3),(10,6,60)]⟩:=ac
theorem XtV:Xv prog 399=some ⟨2,32,(.agg #[(.pointer none),(.slice none 0 0)]),.struct [(0,1,385),(1,1,25)]⟩:=ac
attribute [go_sem] ty3 ty4 ty9 Xtk XuM XuN XuO XuP XuQ XuR XuS XuT XuU XuV XuW XuX XuY XuZ Xu0 Xu1 Xu2 Xu3 Xu4 Xu5 Xu6 Xu7 Xu8 Xu9 Xtl Xtm Xtn Xqt Xto Xtp Xtq Xqu Xtr Xts Xtt Xtu Xtv Xtw Xtx Xty Xtz XtA Xqv XtB XtC Xqw XtD XtE XtF XtG XtH XtI XtJ Xqx XtK XtL XtM XtN Xqy XtO XtP XtQ XtR XtS XtT XtU XtV
attribute [go_sem] zWd zHp
def e3(x:Int):List D:=[.v (.int .i64 x)]
def e48(x:Iw):List D:=[.isl 3 1 (x.L.map e3),.v (.int .i64 x.at_)]
def e49(x:Int):List D:=[.v (.int .u64 x)]
def X0(x:Ws):List D:=[.v (.int .i64 x.k),.v (.int .i64 x.s),.v (.int .i64 x.u),.v (.int .i64 x.P)]
def KN(x:UB):List D:=[.v (.int .i64 x.J),.v (.int .u64 x.a),.v (.bool x.V)]
def Vh(x:UM):List D:=[.v (.int .i64 x.O),.v (.int .i64 x.C0),.v (.bool x.B0)]
def Z6(x:W5):List D:=[.v (.int .i64 x.G),.v (.int .u64 x.a),.v (.bool x.V)]
def VD(x:UE):List D:=[.v (.int .u64 x.a),.v (.int .i64 x.M)]
def Xce(x:Ii):List D:=[.v (.int .i64 x.H.k),.v (.int .i64 x.H.n),.v (.int .u32 x.H.Map),.isl 49 1 (x.D.map e49)]
def Xev(x:Ix):List D:=[.v (.int .u64 x.I),.v (.int .i64 x.M),.v (.int .u64 x.B0)]
def e44(x:Io):List D:=[.v (.int .i64 x.N.h.c.W),.v (.int .i64 x.N.h.c.p),.isl 49 1 (x.N.h.w.map e49),.isl 139 4 (x.N.h.p.map X0),.v (.int .i64 x.N.h.s),.v (.int .i64 x.N.h.b),.isl 141 3 (x.N.l.S.map KN),.isl 121 3 (x.N.l.x.map Vh),.isl 3 1 (x.N.l.i.map e3),.isl 145 3 (x.N.g.e.map Z6),.isl 145 3 (x.N.v.e.map Z6),.isl 101 2 (x.N.P.map VD),.isl 49 1 (x.N.R.map e49),.v (.int .i64 x.z.c.W),.v (.int .i64 x.z.c.p),.isl 173 4 (x.z.T.map Xce),.isl 141 3 (x.z.l.S.map KN),.isl 121 3 (x.z.l.x.map Vh),.isl 3 1 (x.z.l.i.map e3),.isl 145 3 (x.z.g.e.map Z6),.isl 145 3 (x.z.v.e.map Z6),.isl 246 3 (x.z.m.map Xev),.isl 49 1 (x.z.R.map e49),.isl 49 1 (x.w.map e49)]
def e51(x:Ot):List D:=[.v (.int .i64 x.Op),.v (.int .u64 x.A),.v (.int .u64 x.B),.v (.int .u64 x.C)]
def e24(x:WN):List D:=[.v (.int .i64 x.W),.v (.int .i64 x.p)]
def e28(x:Wk):List D:=[.v (.int .i64 x.c.W),.v (.int .i64 x.c.p),.isl 49 1 (x.w.map e49),.isl 139 4 (x.p.map X0),.v (.int .i64 x.s),.v (.int .i64 x.b)]
def e38(x:W3):List D:=[.v (.int .i64 x.h.c.W),.v (.int .i64 x.h.c.p),.isl 49 1 (x.h.w.map e49),.isl 139 4 (x.h.p.map X0),.v (.int .i64 x.h.s),.v (.int .i64 x.h.b),.isl 141 3 (x.l.S.map KN),.isl 121 3 (x.l.x.map Vh),.isl 3 1 (x.l.i.map e3),.isl 145 3 (x.g.e.map Z6),.isl 145 3 (x.v.e.map Z6),.isl 101 2 (x.P.map VD),.isl 49 1 (x.R.map e49)]
def e42(x:WM):List D:=[.v (.int .i64 x.c.W),.v (.int .i64 x.c.p),.isl 173 4 (x.T.map Xce),.isl 141 3 (x.l.S.map KN),.isl 121 3 (x.l.x.map Vh),.isl 3 1 (x.l.i.map e3),.isl 145 3 (x.g.e.map Z6),.isl 145 3 (x.v.e.map Z6),.isl 246 3 (x.m.map Xev),.isl 49 1 (x.R.map e49)]
def Z7(x:Wv):List D:=[.v (.int .i64 x.k),.v (.int .i64 x.n),.v (.int .u32 x.Map)]
def e4(x:Bool):List D:=[.v (.bool x)]
def Xqz(x:Ur):List D:=[.v (.int .i64 x.Fault),.v (.int .i64 x.Page),.v (.int .u64 x.Addr)]
def e32(x:Wp):List D:=[.isl 141 3 (x.S.map KN),.isl 121 3 (x.x.map Vh),.isl 3 1 (x.i.map e3)]
def e35(x:Wu):List D:=[.isl 145 3 (x.e.map Z6)]
def JG(x:Ww):List D:=[.v (.int .i64 x.h.c.W),.v (.int .i64 x.h.c.p),.isl 49 1 (x.h.w.map e49),.isl 139 4 (x.h.p.map X0),.v (.int .i64 x.h.s),.v (.int .i64 x.h.b),.isl 49 1 (x.o.map e49),.isl 3 1 (x.t.map e3),.isl 49 1 (x.q.map e49),.v (.int .i64 x.d),.v (.int .i64 x.r.j),.v (.int .i64 x.r.K),.v (.int .i64 x.r.F),.v (.int .i64 x.r.E),.v (.int .i64 x.r.f),.v (.int .i64 x.r.y)]
def Xjd(x:Ow):List D:=[.v (.int .i64 x.O),.v (.int .i64 x.Len)]
def e60(x:WR):List D:=[.v (.int .i64 x.j),.v (.int .i64 x.K),.v (.int .i64 x.F),.v (.int .i64 x.E),.v (.int .i64 x.f),.v (.int .i64 x.y)]
def Xje(x:UR):List D:=[.v (.int .i64 x.Tag),.v (.int .i64 x.Index),.v (.int .i64 x.J)]
def Xsf(x:Oy):List D:=[.v (.bool x.Failed),.v (.bool x.Collected),.v (.int .u64 x.B0)]
def Xh8(x:Ws):List D:=[.v (.int .i64 x.k),.v (.int .i64 x.s),.v (.int .i64 x.u),.v (.int .i64 x.P)]
def Xaj(x:UT):List D:=[.v (.int .u64 x.addr),.v (.int .i64 x.hd.k),.v (.int .i64 x.hd.n),.v (.int .u32 x.hd.Map)]
def XqA(x:Ur):List D:=[.v (.int .i64 x.Fault),.v (.int .i64 x.Page),.v (.int .u64 x.Addr)]
def Xoi(x:IG):List D:=[.isl 141 3 (x.l.S.map KN),.isl 121 3 (x.l.x.map Vh),.isl 3 1 (x.l.i.map e3)]
def e25(x:List Int):List D:=[.isl 49 1 (x.map e49)]
def XtW(x:Oa):List D:=[.v (.int .i64 x.page),.v (.int .i64 x.offset)]
def Xsg(x:UJ):List D:=[.v (.int .i64 x.Width),.v (.int .u64 x.Value)]
def Xgn(x:Ww):List D:=[.v (.int .i64 x.h.c.W),.v (.int .i64 x.h.c.p),.isl 49 1 (x.h.w.map e49),.isl 139 4 (x.h.p.map X0),.v (.int .i64 x.h.s),.v (.int .i64 x.h.b),.isl 49 1 (x.o.map e49),.isl 3 1 (x.t.map e3),.isl 49 1 (x.q.map e49),.v (.int .i64 x.d),.v (.int .i64 x.r.j),.v (.int .i64 x.r.K),.v (.int .i64 x.r.F),.v (.int .i64 x.r.E),.v (.int .i64 x.r.f),.v (.int .i64 x.r.y)]
attribute [go_sem] e3 e48 e49 X0 KN Vh Z6 VD Xce Xev e44 e51 e24 e28 e38 e42 Z7 e4 Xqz e32 e35 JG Xjd e60 Xje Xsf Xh8 Xaj XqA Xoi e25 XtW Xsg Xgn Xjc Xqq Xkr Xh5 Xh6 Xh4 Xh7 Xh3 Xn6 Xoa Xqp Xqr Xqi Xqk Xqn Xqo Xn3 Xse Xn9 Xql Xqm Xn5 Xof Xqs Xn8 Xn4 Xog Xoc Xob Xn7 Xqj Xoe Xod Xoh
theorem Xks:Go.Proofs.Tryz.prog.follows .mixedOrders=true:=ac
def GW(G:Nat->Option (List D)):Prop:=G 0=some [.v (.int .i64 2),.v (.int .i64 16),.v (.int .i64 32)]/\∀f,G (roK f)=if f=363 then some []else none
open Go.Proofs Tryz
theorem E:True:=trivial
theorem hd:True:=trivial
theorem EF:True:=trivial
theorem hx3:True:=trivial
theorem hl3:True:=trivial
theorem hm3:True:=trivial
theorem hl4:True:=trivial
theorem hm4:True:=trivial
theorem XqB:True:=trivial
theorem XtX:True:=trivial
theorem XB:True:=trivial
theorem YH:True:=trivial
theorem Zj:True:=trivial
theorem Xq1:True:=trivial
theorem Y9:True:=trivial
theorem Xq2:True:=trivial
theorem Xm:True:=trivial
theorem XY:True:=trivial
theorem X2:True:=trivial
theorem Ky:True:=trivial
theorem Ya:True:=trivial
theorem Kz:True:=trivial
theorem KW:True:=trivial
theorem K6:True:=trivial
theorem XbH:True:=trivial
theorem Xoj:True:=trivial
theorem XaP:True:=trivial
theorem Xq3:True:=trivial
theorem Fq:True:=trivial
theorem hK:True:=trivial
theorem Xva{α:Type}{G:Prop}{a c:Int}{x y:Option α}{r:α}(h:(bif (a==c)then x else y)=some r)(f:a=c->x=some r->G)(g:¬a=c->y=some r->G):G:=by
 by_cases e:a=c
 .rw[beq_iff_eq.2 e]at h;exact f e h
 rw[UW.2 e]at h;exact g e h
attribute [go_sem] Option.get!
structure Fn(n:Nat):Prop where
class OK{α:Type}(o:Option α)(f:outParam Nat)(a:outParam (List D))(l:outParam (List Ob))(e:outParam (α->D))(l':outParam (α->List Ob)):Prop where
 h:∀G,GW G->∀r,o=some r->Y5 prog G f a l (Eqs (e r) (l' r))
section
variable {α β:Type}{o:Option α}{k:α->Option β}{f:Nat}{a args:List D}{l:List Ob}{e:α->D}{l':α->List Ob}{G:Nat->Option (List D)}{r:β}{K:D->List Ob->Prop}
theorem OK.c[h:OK o f a l e l'](hr:bnd o k=some r)(hw:GW G)(hf:Ke args a)(hK:∀y,k y=some r->K (e y) (l' y))(t:Prf args):CallG prog G f args l K t:=
 Xba hr λy hy hr=>CallG.ofE (h.h G hw y hy) hf (hK y hr) t
theorem OK.d[h:OK o f a l e l'](hr:bnd o k=some r)(hw:GW G)(hf:Ke args a)(hK:∀y,k y=some r->K (e y) (l' y))(t:Prf args):CallD prog G f args l K t:=
 Xba hr λy hy hr=>CallD.ofE (h.h G hw y hy) hf (hK y hr) t
theorem rn(fn:Func)(rs:List ResultVar)(fr:List Nat)(nt:Nat)(hk:(prog.funcs[f]?,fn.body,fn.name== "runtime.NumGoroutine",fn.results,fn.ntmps,a.length.ble nt)=(some fn,some (fn.body.get!),false,⟨rs⟩,nt,true))(h:∀G,GW G->∀r,o=some r->∀(C:Cx)x,C.G=G->WfL prog a->Fn f->run prog (C.sub 0 x) (JN prog rs fr l.length (Eqs (e r) (l' r))) 1000 [.code (fn.body.get!)] (st0 a l nt)):OK o f a l e l':=by injection hk with h1 hk;injection hk with h2 hk;injection hk with h3 hk;injection hk with h4 hk;injection hk with h5 h6;exact⟨λG hw r hr=>Ys 1000 fr nt h1 h2 h3 h4 h5 (I8 h6) λC x hG hwf=>h G hw r hr C x hG hwf ⟨⟩⟩
end
def bm(b n:Nat):List Nat:=((List.range (n.log2+1)).filter λi=>n / 2 ^ i % 2==1).map λi=>i+b
theorem Xsh{b n x:Nat}:(bm b n).contains x=(decide (b<=x)&&n / 2 ^ (x-b) % 2==1):=by
 rw[Bool.eq_iff_iff,Ik,bm,WU];simp only[W8,List.mem_range,beq_iff_eq,WK,decide_eq_true_eq];constructor
 .rintro⟨i,⟨h1,h2⟩,rfl⟩;rw[IF];exact⟨Nat.le_add_left _ _,h2⟩
 rintro⟨h1,h3⟩;refine⟨x-b,⟨?_,h3⟩,Nat.sub_add_cancel h1⟩;have hp:0<n / 2 ^ (x-b):=by
  rcases Uj (n / 2 ^ (x-b))with h|h
  .rw[h]at h3;cases h3
  exact h
 have hle:2 ^ (x-b)<=n:=by
  rcases UG n (2 ^ (x-b))with h|h
  .rw[Nat.div_eq_of_lt h]at hp;cases hp
  exact h
 have hn:n≠0:=by rintro rfl;have:=Nat.two_pow_pos (x-b);omega
 exact Nat.lt_succ_of_le ((Nat.le_log2 hn).2 hle)
theorem XtY{b n x:Nat}{p q:D}:(if(bm b n).contains x=true then p else q)=if x<b then q else if n / 2 ^ (x-b) % 2=1 then p else q:=by
 rw[Xsh];by_cases h1:x<b
 .rw[Wm h1,Wg (Nat.not_le.2 h1),UH];rfl
 rw[Wi h1,Wd (Nat.not_lt.1 h1),W9];by_cases h3:n / 2 ^ (x-b) % 2=1
 .rw[Wm h3,Wm (beq_iff_eq.2 h3)]
 rw[Wi h3,Wi (λh=>h3 (beq_iff_eq.1 h))]
def Xsi(b:Nat):Nat->List Oper->List (Nat×Nat×List (List Nat))->List En
 |i,o::l,(a,m,[])::x=>⟨i,o,bm 0 a,[],bm b m,[]⟩::Xsi b (i+1) l x
 |i,o::l,(a,m,[w,k])::x=>⟨i,o,bm 0 a,w,bm b m,k⟩::Xsi b (i+1) l x
 |_,[],[]=>[]
 |i,_,_=>[⟨i,⟨none,.assign (.tmp 0),0,"",#[],none⟩,[],[],[],[]⟩]
attribute [go_sem] XtY Xsi
class El{α:Type}(x:Option α)(r:α)(K:outParam (Prop->Prop)):Prop where
 el:∀{G:Prop},x=some r->K G->G
instance{α:Type}{p:Prop}[Decidable p]{x:Option α}{r:α}:El (grd p x) r λG=>x=some r->p->G:=⟨λh k=>Xsq h λa b=>k b a⟩
instance{κ α:Type}{k:κ}{f:κ->Option α}{r:α}:El (jn k f) r λG=>f k=some r->G:=⟨λh k=>Xuj h k⟩
instance{α β γ:Type}{b:β}{f:α->Option γ}{k:β->Option γ}{r:γ}:El (exK (.nxt b) f k) r λG=>k b=some r->G:=⟨λh k=>Xsr h k⟩
instance{α β γ:Type}{b:α}{f:α->Option γ}{k:β->Option γ}{r:γ}:El (exK (.ret b) f k) r λG=>f b=some r->G:=⟨λh k=>Xss h k⟩
instance{α:Type}{x y:Option α}{r:α}:El (bif true then x else y) r λG=>x=some r->G:=⟨λh k=>k h⟩
instance{α:Type}{x y:Option α}{r:α}:El (bif false then x else y) r λG=>y=some r->G:=⟨λh k=>k h⟩
instance{α:Type}{x y:Option α}{r:α}:El (bif !false then x else y) r λG=>x=some r->G:=⟨λh k=>k h⟩
instance{α:Type}{x y:Option α}{r:α}:El (bif !true then x else y) r λG=>y=some r->G:=⟨λh k=>k h⟩
theorem XH{α:Type}{G:Prop}{b c:Bool}{x y:Option α}{r:α}(h:(bif b then x else y)=some r)(hb:b=c)(g:(bif c then x else y)=some r->G):G:=g (hb▸h)
theorem Xvb:wI (-1) = -1:=by unfold wI;decide
theorem XtZ:wI 1=1/\wI 2=2/\wI 3=3/\wI 4=4/\wI 5=5/\wI 6=6:=by unfold wI;decide
theorem Xok{α:Type}{l:List α}{o n:Nat}{i:Int}{b:Prop}{β:Type}{f:α->Option β}{r:β}{p:α}(hr:bnd (KX l o n i) f=some r)(hp:KX l o n i=some p)(k:KX l o n i=some p->o+i.toNat<l.length->(∀(γ:Type) (e:α->List γ),(l.map e).getD (o+i.toNat) []=e p)->f p=some r->b):(0<=i/\i<n)/\b:=
 Xjg hr λq hq h1 h2 h3=>by obtain rfl:=WA (hp.symm.trans hq);exact k hq h1 h2 h3
theorem Xq4{α:Type}{l:List α}{o n:Nat}{i:Int}{b:Prop}{β:Type}{f:α->Option β}{r:β}{p:α}(hr:bnd (KX l o n i) f=some r)(hp:KX l o n i=some p)(k:KX l o n i=some p->o+i.toNat<l.length->(∀(γ:Type) (e:α->List γ),(l.map e).getD (o+i.toNat) []=e p)->f p=some r->b):i<n/\b:=
 let ⟨h1,h2⟩:=Xok hr hp k;⟨h1.2,h2⟩
abbrev FwH(s:Heap)(wb w1 p wp w3 w4 w5:Nat)(a:Ww):Prop:=s 51584=some (w1,.arr false 49 1 (a.h.w.map e49) 0)/\s p=some (wp,.arr false 139 4 (a.h.p.map X0) 0)/\s 52288=some (w3,.arr false 49 1 (a.o.map e49) 0)/\s 52480=some (w4,.arr false 3 1 (a.t.map e3) 0)/\s 52672=some (w5,.arr false 49 1 (a.q.map e49) 0)/\s 51264=some (wb,.arr true 386 16 [[.v (.int .i64 a.h.c.W),.v (.int .i64 a.h.c.p),.osl 51584 w1 1 0 a.h.w.length,.osl p wp 4 0 a.h.p.length,.v (.int .i64 a.h.s),.v (.int .i64 a.h.b),.osl 52288 w3 1 0 a.o.length,.osl 52480 w4 1 0 a.t.length,.osl 52672 w5 1 0 a.q.length,.v (.int .i64 a.d),.v (.int .i64 a.r.j),.v (.int .i64 a.r.K),.v (.int .i64 a.r.F),.v (.int .i64 a.r.E),.v (.int .i64 a.r.f),.v (.int .i64 a.r.y)]] 0)
def Xjf(s s':Heap):Heap:=λi=>if i<51264 then s i else s' i
theorem XD{s s':Heap}{i:Nat}:Xjf s s' i=if i<51264 then s i else s' i:=rfl
theorem Xq5{s s':Heap}{A:Prop}{K:Heap->Prop}(hK:A->K (Xjf s s'))(h:A)(hl:∀i,i<51264->s' i=s i):K s':=by
 have e:s'=Xjf s s':=by
  funext i;rw[XD];split
  .exact hl i ag
  rfl
 rw[e];exact hK h
theorem Xgo{s s':Heap}{K:Heap->Prop}{A:Nat->Nat->Nat->Nat->Prop}(hK:∀p wp w4 w5,(p=51840\/p=210816)->A p wp w4 w5->K (Xjf s s'))(p wp w4 w5:Nat)(hp:p=51840\/p=210816)(h:A p wp w4 w5)(hl:∀i,i<51264->s' i=s i):K s':=Xq5 (hK p wp w4 w5 hp) h hl
theorem ZZ{G:Nat->Option (List D)}(hw:GW G){f:Nat}{α:Type}{x:Option α}:Xfy G f x=if f=363 then none else x:=by
 by_cases h:f=363
 .rw[Wm h];exact XrD ((hw.2 f).trans (Wm h))
 rw[Wi h];exact XrC ((hw.2 f).trans (Wi h))
theorem Xol{G:Nat->Option (List D)}(b0 b1 b2 b3 b5 b6 b7 b8 b9 b10 b11 b12 b13 b14 b15:D)(sp:Int):Y5 prog G 363 [.ipt 16 [b0,b1,b2,b3,.v (.int .i64 sp),b5,b6,b7,b8,b9,b10,b11,b12,b13,b14,b15] 0] [] (Eqs (.v (.int .i64 (wI (1-sp)))) []):=by
 refine Ys (fn:=f363) (body:=(f363.body).get!) (rs:=[.tmp 2]) 1000 [] 9 ac ac ac ac ac ab λC _ hG hwf=>?_;subst hG;simp only[f363,Option.get!];simp only[go_sem,simprocAttr];with_reducible refine XQ ?_
 simp only[go_sem,simprocAttr]
theorem XcW{C:Cx}{s:Heap}{id v T:Nat}{a0 a1 a2 a3 a5 a6 a7 a8 a9 a10 a11 a12 a13 a14 a15 b0 b1 b2 b3 b5 b6 b7 b8 b9 b10 b11 b12 b13 b14 b15:D}{sp:Int}{c:Prop}{l:List Nat}{K:D->Prop}(hs:s id=some (v,.arr true T 16 [[a0,a1,a2,a3,.v (.int .i64 sp),a5,a6,a7,a8,a9,a10,a11,a12,a13,a14,a15]] 0))(hsn:Z0 s [a0,a1,a2,a3,.v (.int .i64 sp),a5,a6,a7,a8,a9,a10,a11,a12,a13,a14,a15]=some (c,[b0,b1,b2,b3,.v (.int .i64 sp),b5,b6,b7,b8,b9,b10,b11,b12,b13,b14,b15],l))(hc:c)(hK:K (.v (.int .i64 (wI (1-sp)))))(t:Prf [D.ept id v 16 0 0]):XqG prog C s 363 [.ept id v 16 0 0] K t:=
 ⟨_,_,XrM hs hsn hc rfl,Xol b0 b1 b2 b3 b5 b6 b7 b8 b9 b10 b11 b12 b13 b14 b15 sp,⟨_,_,rfl,rfl⟩,λ_ _ h=>h.1▸⟨rfl,hK⟩⟩
def LoS(s' s:Heap):Prop:=∀i,i<51264->s' i=s i
theorem LoS.mk{s' s:Heap}(h:∀i,i<51264->s' i=s i):LoS s' s:=h
theorem Xt0{ws:List Int}{i n X k W:Nat}{v:D}(h:n<=W-X):((List.take i (ws.map e49)++List.take n (List.drop X (ws.map e49)))++List.drop (k+min n (W-X)) (ws.map e49)).set (X+0) (v::List.drop 1 (((List.take i (ws.map e49)++List.take n (List.drop X (ws.map e49)))++List.drop (k+min n (W-X)) (ws.map e49)).getD (X+0) []))=((List.take i (ws.map e49)++List.take n (List.drop X (ws.map e49)))++List.drop (k+n) (ws.map e49)).set X [v]:=by
 rw[I5 h,IV];congr 1;have m:∀x∈(List.take i (ws.map e49)++List.take n (List.drop X (ws.map e49)))++List.drop (k+n) (ws.map e49),List.drop 1 x=[]:=by
  intro x hx;have:x∈ws.map e49:=by
   rcases Wt.1 hx with hx|hx
   .rcases Wt.1 hx with hx|hx
    .exact WP hx
    exact WQ (WP hx)
   exact WQ hx
  obtain⟨y,_,rfl⟩:=WU.1 this;rfl
 rw[Wj];cases e:((List.take i (ws.map e49)++List.take n (List.drop X (ws.map e49)))++List.drop (k+n) (ws.map e49))[X]? with
 |none=>rfl
 |some x=>exact congrArg _ (m x (W7 e))
theorem VJ{i k:Nat}(h:i<51264)(hk:51264<=k):(i=k)=False:=eq_false aa
open Go.Proofs Tryz
set_option maxRecDepth 10000
theorem Xh9{α:Type}{e:α->List D}{p:α->Prop}:∀{es:List (List D)},(∀x∈es,∃y,x=e y/\p y)->∃l:List α,es=l.map e/\∀x∈l,p x
 |[],_=>⟨[],rfl,λx h=>by cases h⟩
 |x::es,h=>by obtain⟨y,rfl,hy⟩:=h x ab;obtain⟨l,rfl,hl⟩:=Xh9 (e:=e) (p:=p) (es:=es) λz hz=>h z (WZ _ hz);exact⟨y::l,rfl,λz hz=>by rcases U6.1 hz with rfl|hz;exact hy;exact hl z hz⟩
section
variable {P:Program}{t e:TypeId}{fs:List (Nat×Nat×Nat)}{a b s:Nat}{z:Value}
theorem Xt1(m:Nat)(h:Xv P t=some ⟨a,b,z,.slice e s⟩)(ds:List D):Sh P (m+1) t ds=∃es,ds=[.isl e (P.cellsOf e) es]/\es.length<=XE/\es.length*P.bytesOf e<=XE/\∀x∈es,Sh P m e x:=by simp only[Sh,(X8 h).1]
theorem Xsj(h:Xv P t=some ⟨a,b,z,.int .i64⟩):∀(m:Nat) (ds:List D),Sh P m t ds->∃n,ds=[.v (.int .i64 n)]/\True
 |0,_,h'=>h'.elim
 |m+1,ds,h'=>by simp only[Sh,Xfn h]at h';obtain⟨n,rfl,h1,h2⟩:=h';exact⟨n,rfl,trivial⟩
end
theorem Xvc:prog.cellsOf 3=1:=ac
theorem Xt2(m:Nat)(x:List D)(h:Sh prog m 3 x):∃y:Int,x=e3 y/\True:=by obtain⟨n,rfl,hp⟩:=Xsj ty3 m x h;exact⟨n,rfl,trivial⟩
theorem Xve:∀(m:Nat) (ds:List D),Sh prog m 22 ds->∃l:List Int,ds=[.isl 3 1 (l.map e3)]/\l.length*8<=XE/\∀x∈l,(λ_=>True) x
 |0,_,h=>h.elim
 |m+1,ds,h=>by rw[show Sh prog (m+1) 22 ds=_ from Xt1 m Xtk ds]at h;obtain⟨es,rfl,_,hb,hs⟩:=h;obtain⟨l,rfl,hl⟩:=Xh9 (p:=(λ_=>True)) (λx hx=>Xt2 m x (hs x hx));exact⟨l,by rw[Xvc],by rw[Um,Xjc]at hb;exact hb,hl⟩
open Go.Proofs Tryz
section
variable {α β:Type}{o:Option α}{y:α}{f:Nat}{a args:List D}{l:List Ob}{e:α->D}{l':α->List Ob}{G:Nat->Option (List D)}{K:D->List Ob->Prop}
theorem OK.t[h:OK o f a l e l'](ho:o=some y)(hw:GW G)(hf:Ke args a)(hK:K (e y) (l' y))(t:Prf args):CallG prog G f args l K t:=CallG.ofE (h.h G hw y ho) hf hK t
end
section
variable {C:Cx}{R:St->Prop}{k:List It}{st:St}{l:List Oper}{t:Prf (⟨l⟩:Array Oper)}{id:Nat}
theorem dp(h:dr prog C ⟨l⟩ st.k (mkS 0 l []) st λst'=>run prog C R 1000 k ⟨st'.t,st'.s,st'.n,st.k+l.length⟩)(hc:Xiw l (XkU l []) []=true:=by kernel_rfl)(hrd:C.rd=none:=by rfl):DrawnG prog C R id ⟨l⟩ k st t:=
 DrawnG.auto 1000 Xks hc h t hrd
theorem dqh(f id:Nat)(_:Fn f)(aux:List (Nat×List Nat×List Nat))(h:dr prog C ⟨l⟩ st.k (mkS 0 l aux) st λst'=>run prog C R 1000 k ⟨st'.t,st'.s,st'.n,st.k+l.length⟩)(hc:Xiw l (XkU l []) aux=true:=by kernel_rfl)(hrd:C.rd=none:=by rfl):DrawnG prog C R id ⟨l⟩ k st t:=
 DrawnG.auto 1000 Xks hc h t hrd
theorem dq(f id:Nat)(_:Fn f)(aux:List (Nat×List Nat×List Nat))(h:dr prog C ⟨l⟩ st.k (mkS 0 l aux) st λst'=>run prog C R 1000 k ⟨st'.t,st'.s,st'.n,st.k+l.length⟩)(ho:C.off=0:=by rfl)(hc:Xiw l (XkU l []) aux=true:=by kernel_rfl)(hrd:C.rd=none:=by rfl):DrawnG prog C R id ⟨l⟩ k st t:=
 DrawnG.auto 1000 Xks hc h t hrd
theorem dqi(o f id:Nat)(_:Fn f)(aux:List (Nat×List Nat×List Nat))(h:dr prog C ⟨l⟩ st.k (mkS 0 l aux) st λst'=>run prog C R 1000 k ⟨st'.t,st'.s,st'.n,st.k+l.length⟩)(ho:C.off=o:=by rfl)(hc:Xiw l (XkU l []) aux=true:=by kernel_rfl)(hrd:C.rd=none:=by rfl):DrawnG prog C R id ⟨l⟩ k st t:=
 DrawnG.auto 1000 Xks hc h t hrd
end
open Go.Proofs Tryz
abbrev vi(x:Int):D:=.v (.int .i64 x)
abbrev vu(x:Int):D:=.v (.int .u64 x)
abbrev vw(x:Int):D:=.v (.int .u32 x)
abbrev s3(l:List Int):D:=.isl 3 1 (l.map e3)
abbrev s4(l:List Bool):D:=.isl 4 1 (l.map e4)
abbrev s25(l:List (List Int)):D:=.isl 25 1 (l.map e25)
abbrev s49(l:List Int):D:=.isl 49 1 (l.map e49)
abbrev VE(l:List UE):D:=.isl 101 2 (l.map VD)
abbrev Xew(l:List UM):D:=.isl 121 3 (l.map Vh)
abbrev YB(l:List Ws):D:=.isl 139 4 (l.map X0)
abbrev Xcy(l:List UB):D:=.isl 141 3 (l.map KN)
abbrev JU(l:List W5):D:=.isl 145 3 (l.map Z6)
abbrev Xt3(l:List Ii):D:=.isl 173 4 (l.map Xce)
abbrev Xt4(l:List Ix):D:=.isl 246 3 (l.map Xev)
abbrev Xly(l:List UT):D:=.isl 283 4 (l.map Xaj)
abbrev Xom(l:List UJ):D:=.isl 318 2 (l.map Xsg)
abbrev Xon(l:List Ow):D:=.isl 355 2 (l.map Xjd)
attribute [go_sem] vi vu vw s3 s4 s25 s49 VE Xew YB Xcy JU Xt3 Xt4 Xly Xom Xon
theorem lp{P:Program}{C:Cx}{R:St->Prop}{c:Code}{k:List It}{st:St}{α β:Type}{o:Option α}{f:α->Option β}{r:β}(I:(α->Prop)->Nat->St->Prop)(hr:bnd o f=some r)(n:Nat)(round:∀n st,I (λy=>f y=some r) n st->run P C R 1000 (.code c::.stop (λst'=>∃n',n'<n/\I (λy=>f y=some r) n' st')::k) st)(h0:∀ex,o=some ex->f ex=some r->I (λy=>f y=some r) n st)(t':Prf c):LoopG P C R c k st t':=
 XmH hr 1000 n h0 round t'
theorem rq{α:Type}{o:Option α}{f:Nat}{a:List D}{l:List Ob}{e:α->D}{l':α->List Ob}(fn:Func)(fr:List Nat)(h:∀G,GW G->∀r,o=some r->∀(C:Cx)x,C.G=G->WfL prog a->Fn f->run prog (C.sub 0 x) (JN prog fn.results.toList fr l.length (Eqs (e r) (l' r))) 1000 [.code (fn.body.get!)] (st0 a l fn.ntmps))(hk:(prog.funcs[f]?,fn.body,fn.name== "runtime.NumGoroutine",a.length.ble fn.ntmps)=(some fn,some (fn.body.get!),false,true):=by kernel_rfl):OK o f a l e l':=by injection hk with h1 hk;injection hk with h2 hk;injection hk with h3 h6;exact⟨λG hw r hr=>Ys 1000 fr fn.ntmps h1 h2 h3 rfl rfl (I8 h6) λC x hG hwf=>h G hw r hr C x hG hwf ⟨⟩⟩
theorem rk{α:Type}{o:Option α}{f:Nat}{a:List D}{l:List Ob}{e:α->D}{l':α->List Ob}(fn:Func)(h:∀G,GW G->∀r,o=some r->∀(C:Cx)x,C.G=G->WfL prog a->Fn f->run prog (C.sub 0 x) (JN prog fn.results.toList [] l.length (Eqs (e r) (l' r))) 1000 [.code (fn.body.get!)] (st0 a l fn.ntmps))(hk:(prog.funcs[f]?,fn.body,fn.name== "runtime.NumGoroutine",a.length.ble fn.ntmps)=(some fn,some (fn.body.get!),false,true):=by kernel_rfl):OK o f a l e l':=
 rq fn [] h hk
attribute [go_sem] List.toList_toArray
abbrev Iv{α:Type}(o:Option α)(Q:α->Prop)(p:Prop):Prop:=∃x,o=some x/\Q x/\p
abbrev O1{α:Type}(o:Option α)(f:Nat)(a:List D)(e:α->D):Prop:=OK o f a [] e λ_=>[]
end Go.Sx
