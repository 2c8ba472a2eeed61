import Derived.Test.YtgbmffljpneflaaGreatDoorProg
import Derived.Test.YtgbmffljpneflaaGreatDoorBR
import Derived.Test.YtgbmffljpneflaaGreatDoorBI
set_option linter.all false
namespace Go.Sx
open Go.Proofs
theorem ty3:Xu Tryz.prog 3=some ⟨1,8,(.int .i64 0),.int .i64⟩:=ac
theorem XiJ:Tryz.prog.bytesOf 3=8:=ac
theorem ty4:Xu Tryz.prog 4=some ⟨1,1,(.bool false),.bool⟩:=ac
theorem XrB:Tryz.prog.bytesOf 4=1:=ac
theorem ty9:Xu Tryz.prog 9=some ⟨1,16,(.string (ByteArray.mk #[])),.str⟩:=ac
theorem XsS:Xu Tryz.prog 23=some ⟨2,16,(.agg #[(.int .i64 0),(.int .i64 0)]),.struct [(0,1,3),(1,1,3)]⟩:=ac
theorem XpP:Tryz.prog.bytesOf 23=16:=ac
theorem XrC:Yg Tryz.prog 23=some [some .i64,some .i64]:=ac
theorem XsT:Xu Tryz.prog 24=some ⟨1,24,(.slice none 0 0),.slice 39 1⟩:=ac
theorem XpQ:Tryz.prog.bytesOf 24=24:=ac
theorem XsU:Xu Tryz.prog 25=some ⟨1,24,(.slice none 0 0),.slice 114 4⟩:=ac
theorem XsV:Xu Tryz.prog 27=some ⟨6,80,(.agg #[(.int .i64 0),(.int .i64 0),(.slice none 0 0),(.slice none 0 0),(.int .i64 0),(.int .i64 0)]),.struct [(0,2,23),(2,1,24),(3,1,25),(4,1,3),(5,1,3)]⟩:=ac
theorem XpR:Tryz.prog.bytesOf 27=80:=ac
theorem XsW:Xu Tryz.prog 28=some ⟨1,24,(.slice none 0 0),.slice 72 3⟩:=ac
theorem XsX:Xu Tryz.prog 29=some ⟨1,24,(.slice none 0 0),.slice 78 3⟩:=ac
theorem XsY:Xu Tryz.prog 30=some ⟨1,24,(.slice none 0 0),.slice 3 1⟩:=ac
theorem XsZ:Xu Tryz.prog 32=some ⟨3,72,(.agg #[(.slice none 0 0),(.slice none 0 0),(.slice none 0 0)]),.struct [(0,1,28),(1,1,29),(2,1,30)]⟩:=ac
theorem XpS:Tryz.prog.bytesOf 32=72:=ac
theorem Xs0:Xu Tryz.prog 33=some ⟨1,24,(.slice none 0 0),.slice 74 3⟩:=ac
theorem Xs1:Xu Tryz.prog 35=some ⟨1,24,(.agg #[(.slice none 0 0)]),.struct [(0,1,33)]⟩:=ac
theorem XpT:Tryz.prog.bytesOf 35=24:=ac
theorem Xs2:Xu Tryz.prog 36=some ⟨1,24,(.slice none 0 0),.slice 76 2⟩:=ac
theorem Xs3:Xu Tryz.prog 38=some ⟨13,248,(.agg #[(.int .i64 0),(.int .i64 0),(.slice none 0 0),(.slice none 0 0),(.int .i64 0),(.int .i64 0),(.slice none 0 0),(.slice none 0 0),(.slice none 0 0),(.slice none 0 0),(.slice none 0 0),(.slice none 0 0),(.slice none 0 0)]),.struct [(0,6,27),(6,3,32),(9,1,35),(10,1,35),(11,1,36),(12,1,24)]⟩:=ac
theorem XpU:Tryz.prog.bytesOf 38=248:=ac
theorem XnE:Xu Tryz.prog 39=some ⟨1,8,(.int .u64 0),.int .u64⟩:=ac
theorem XfS:Tryz.prog.bytesOf 39=8:=ac
theorem XuS:Xu Tryz.prog 40=some ⟨1,24,(.slice none 0 0),.slice 177 4⟩:=ac
theorem XuT:Xu Tryz.prog 41=some ⟨1,24,(.slice none 0 0),.slice 248 3⟩:=ac
theorem XuU:Xu Tryz.prog 43=some ⟨10,208,(.agg #[(.int .i64 0),(.int .i64 0),(.slice none 0 0),(.slice none 0 0),(.slice none 0 0),(.slice none 0 0),(.slice none 0 0),(.slice none 0 0),(.slice none 0 0),(.slice none 0 0)]),.struct [(0,2,23),(2,1,40),(3,3,32),(6,1,35),(7,1,35),(8,1,41),(9,1,24)]⟩:=ac
theorem XpV:Tryz.prog.bytesOf 43=208:=ac
theorem XuV:Xu Tryz.prog 45=some ⟨24,480,(.agg #[(.int .i64 0),(.int .i64 0),(.slice none 0 0),(.slice none 0 0),(.int .i64 0),(.int .i64 0),(.slice none 0 0),(.slice none 0 0),(.slice none 0 0),(.slice none 0 0),(.slice none 0 0),(.slice none 0 0),(.slice none 0 0),(.int .i64 0),(.int .i64 0),(.slice none 0 0),(.slice none 0 0),(.slice none 0 0),(.slice none 0 0),(.slice none 0 0),(.slice none 0 0),(.slice none 0 0),(.slice none 0 0),(.slice none 0 0)]),.struct [(0,13,38),(13,10,43),(23,1,24)]⟩:=ac
theorem XpW:Tryz.prog.bytesOf 45=480:=ac
theorem XuW:Xu Tryz.prog 49=some ⟨2,32,(.agg #[(.slice none 0 0),(.int .i64 0)]),.struct [(0,1,30),(1,1,3)]⟩:=ac
theorem XpX:Tryz.prog.bytesOf 49=32:=ac
theorem XuX:Xu Tryz.prog 51=some ⟨1,24,(.slice none 0 0),.slice 38 13⟩:=ac
theorem XuY:Xu Tryz.prog 54=some ⟨4,32,(.agg #[(.int .i64 0),(.int .u64 0),(.int .u64 0),(.int .u64 0)]),.struct [(0,1,3),(1,1,39),(2,1,39),(3,1,39)]⟩:=ac
theorem XpY:Tryz.prog.bytesOf 54=32:=ac
theorem XuZ:Xu Tryz.prog 55=some ⟨1,24,(.slice none 0 0),.slice 54 4⟩:=ac
theorem Xu0:Xu Tryz.prog 57=some ⟨1,8,(.int .i64 0),.int .i64⟩:=ac
theorem Xu1:Xu Tryz.prog 69=some ⟨8,128,(.agg #[(.int .i64 0),(.int .i64 0),(.slice none 0 0),(.slice none 0 0),(.int .i64 0),(.int .i64 0),(.slice none 0 0),(.slice none 0 0)]),.struct [(0,6,27),(6,1,24),(7,1,24)]⟩:=ac
theorem XpZ:Tryz.prog.bytesOf 69=128:=ac
theorem Xs4:Xu Tryz.prog 72=some ⟨3,24,(.agg #[(.int .i64 0),(.int .u64 0),(.bool false)]),.struct [(0,1,3),(1,1,39),(2,1,4)]⟩:=ac
theorem XfT:Tryz.prog.bytesOf 72=24:=ac
theorem XrD:Yg Tryz.prog 72=some [some .i64,some .u64,none]:=ac
theorem Xs5:Xu Tryz.prog 74=some ⟨3,24,(.agg #[(.int .i64 0),(.int .u64 0),(.bool false)]),.struct [(0,1,3),(1,1,39),(2,1,4)]⟩:=ac
theorem XfU:Tryz.prog.bytesOf 74=24:=ac
theorem XrE:Yg Tryz.prog 74=some [some .i64,some .u64,none]:=ac
theorem Xs6:Xu Tryz.prog 76=some ⟨2,16,(.agg #[(.int .u64 0),(.int .i64 0)]),.struct [(0,1,39),(1,1,3)]⟩:=ac
theorem XfV:Tryz.prog.bytesOf 76=16:=ac
theorem XrF:Yg Tryz.prog 76=some [some .u64,some .i64]:=ac
theorem Xs7:Xu Tryz.prog 78=some ⟨3,24,(.agg #[(.int .i64 0),(.int .i64 0),(.bool false)]),.struct [(0,1,3),(1,1,3),(2,1,4)]⟩:=ac
theorem XfW:Tryz.prog.bytesOf 78=24:=ac
theorem XrG:Yg Tryz.prog 78=some [some .i64,some .i64,none]:=ac
theorem Xu2:Xu Tryz.prog 80=some ⟨1,8,(.int .u64 0),.int .u64⟩:=ac
theorem Xu3:Xu Tryz.prog 85=some ⟨16,272,(.agg #[(.int .i64 0),(.int .i64 0),(.slice none 0 0),(.slice none 0 0),(.int .i64 0),(.int .i64 0),(.slice none 0 0),(.slice none 0 0),(.slice none 0 0),(.slice none 0 0),(.slice none 0 0),(.slice none 0 0),(.slice none 0 0),(.int .u64 0),(.int .u64 0),(.int .u64 0)]),.struct [(0,13,38),(13,1,39),(14,1,39),(15,1,39)]⟩:=ac
theorem Xu4:Xu Tryz.prog 87=some ⟨1,8,.nilFunc,.other⟩:=ac
theorem Xu5:Xu Tryz.prog 88=some ⟨21,168,(.agg #[.nilFunc,.nilFunc,.nilFunc,.nilFunc,.nilFunc,.nilFunc,.nilFunc,.nilFunc,.nilFunc,.nilFunc,.nilFunc,.nilFunc,.nilFunc,.nilFunc,.nilFunc,.nilFunc,.nilFunc,.nilFunc,.nilFunc,.nilFunc,.nilFunc]),.array 21 87 1⟩:=ac
theorem Xs8:Xu Tryz.prog 104=some ⟨6,48,(.agg #[(.int .i64 0),(.int .i64 0),(.int .i64 0),(.int .i64 0),(.int .i64 0),(.int .i64 0)]),.struct [(0,1,3),(1,1,3),(2,1,3),(3,1,3),(4,1,3),(5,1,3)]⟩:=ac
theorem XnF:Tryz.prog.bytesOf 104=48:=ac
theorem Xs9:Xu Tryz.prog 109=some ⟨3,16,(.agg #[(.bool false),(.bool false),(.int .u64 0)]),.struct [(0,1,4),(1,1,4),(2,1,39)]⟩:=ac
theorem XnG:Tryz.prog.bytesOf 109=16:=ac
theorem Xqq:Xu Tryz.prog 114=some ⟨4,32,(.agg #[(.int .i64 0),(.int .i64 0),(.int .i64 0),(.int .i64 0)]),.struct [(0,1,3),(1,1,3),(2,1,3),(3,1,3)]⟩:=ac
theorem XdY:Tryz.prog.bytesOf 114=32:=ac
theorem Xp0:Yg Tryz.prog 114=some [some .i64,some .i64,some .i64,some .i64]:=ac
theorem Xta:Xu Tryz.prog 129=some ⟨1,4,(.int .u32 0),.int .u32⟩:=ac
theorem Xtb:Xu Tryz.prog 131=some ⟨3,24,(.agg #[(.int .i64 0),(.int .i64 0),(.int .u32 0)]),.struct [(0,1,3),(1,1,3),(2,1,129)]⟩:=ac
theorem XnH:Tryz.prog.bytesOf 131=24:=ac
theorem Xp1:Yg Tryz.prog 131=some [some .i64,some .i64,some .u32]:=ac
theorem Xtc:Xu Tryz.prog 151=some ⟨3,24,(.agg #[(.int .i64 0),(.int .i64 0),(.int .i64 0)]),.struct [(0,1,3),(1,1,3),(2,1,3)]⟩:=ac
theorem XnI:Tryz.prog.bytesOf 151=24:=ac
theorem Xtd:Xu Tryz.prog 172=some ⟨1,24,(.slice none 0 0),.slice 4 1⟩:=ac
theorem Xte:Xu Tryz.prog 177=some ⟨4,48,(.agg #[(.int .i64 0),(.int .i64 0),(.int .u32 0),(.slice none 0 0)]),.struct [(0,3,131),(3,1,24)]⟩:=ac
theorem XnJ:Tryz.prog.bytesOf 177=48:=ac
theorem Xtf:Xu Tryz.prog 185=some ⟨1,24,(.slice none 0 0),.slice 76 2⟩:=ac
theorem Xtg:Xu Tryz.prog 188=some ⟨3,72,(.agg #[(.slice none 0 0),(.slice none 0 0),(.slice none 0 0)]),.struct [(0,3,32)]⟩:=ac
theorem XnK:Tryz.prog.bytesOf 188=72:=ac
theorem Xth:Xu Tryz.prog 200=some ⟨1,24,(.slice none 0 0),.slice 24 1⟩:=ac
theorem Xti:Xu Tryz.prog 237=some ⟨16,208,(.agg #[(.int .i64 0),(.int .i64 0),(.slice none 0 0),(.slice none 0 0),(.int .i64 0),(.int .i64 0),(.slice none 0 0),(.slice none 0 0),(.slice none 0 0),(.int .i64 0),(.int .i64 0),(.int .i64 0),(.int .i64 0),(.int .i64 0),(.int .i64 0),(.int .i64 0)]),.struct [(0,6,27),(6,1,24),(7,1,30),(8,1,24),(9,1,3),(10,6,104)]⟩:=ac
theorem XnL:Tryz.prog.bytesOf 237=208:=ac
theorem Xtj:Xu Tryz.prog 248=some ⟨3,24,(.agg #[(.int .u64 0),(.int .i64 0),(.int .u64 0)]),.struct [(0,1,39),(1,1,3),(2,1,39)]⟩:=ac
theorem XnM:Tryz.prog.bytesOf 248=24:=ac
theorem Xtk:Xu Tryz.prog 257=some ⟨3,24,(.agg #[(.int .i64 0),(.int .i64 0),(.int .u64 0)]),.struct [(0,1,3),(1,1,3),(2,1,39)]⟩:=ac
theorem XnN:Tryz.prog.bytesOf 257=24:=ac
theorem Xp2:Yg Tryz.prog 257=some [some .i64,some .i64,some .u64]:=ac
theorem Xtl:Xu Tryz.prog 266=some ⟨1,24,(.slice none 0 0),.slice 272 4⟩:=ac
theorem Xtm:Xu Tryz.prog 272=some ⟨4,32,(.agg #[(.int .u64 0),(.int .i64 0),(.int .i64 0),(.int .u32 0)]),.struct [(0,1,39),(1,3,131)]⟩:=ac
theorem XnO:Tryz.prog.bytesOf 272=32:=ac
theorem Xtn:Xu Tryz.prog 281=some ⟨3,24,(.agg #[(.int .i64 0),(.int .i64 0),(.int .u64 0)]),.struct [(0,1,3),(1,1,3),(2,1,39)]⟩:=ac
theorem XnP:Tryz.prog.bytesOf 281=24:=ac
theorem Xp3:Yg Tryz.prog 281=some [some .i64,some .i64,some .u64]:=ac
theorem Xto:Xu Tryz.prog 308=some ⟨1,24,(.slice none 0 0),.slice 311 2⟩:=ac
theorem Xtp:Xu Tryz.prog 309=some ⟨3,24,(.agg #[(.int .i64 0),(.int .i64 0),(.int .i64 0)]),.array 3 3 1⟩:=ac
theorem Xtq:Xu Tryz.prog 311=some ⟨2,16,(.agg #[(.int .i64 0),(.int .u64 0)]),.struct [(0,1,3),(1,1,39)]⟩:=ac
theorem XnQ:Tryz.prog.bytesOf 311=16:=ac
theorem Xtr:Xu Tryz.prog 337=some ⟨2,16,(.agg #[(.int .i64 0),(.int .i64 0)]),.struct [(0,1,3),(1,1,3)]⟩:=ac
theorem XnR:Tryz.prog.bytesOf 337=16:=ac
theorem Xts:Xu Tryz.prog 342=some ⟨3,24,(.agg #[(.int .i64 0),(.int .i64 0),(.int .i64 0)]),.array 3 57 1⟩:=ac
theorem Xp4:Yg Tryz.prog 342=some [some .i64,some .i64,some .i64]:=ac
theorem Xqr:Xu Tryz.prog 345=some ⟨1,8,(.map none),.other⟩:=ac
theorem Xtt:Xu Tryz.prog 349=some ⟨1,24,(.slice none 0 0),.slice 352 2⟩:=ac
theorem Xtu:Xu Tryz.prog 352=some ⟨2,16,(.agg #[(.int .i64 0),(.int .i64 0)]),.struct [(0,1,3),(1,1,3)]⟩:=ac
theorem XnS:Tryz.prog.bytesOf 352=16:=ac
theorem Xtv:Xu Tryz.prog 355=some ⟨1,8,.nilFunc,.other⟩:=ac
theorem Xtw:Xu Tryz.prog 356=some ⟨4,32,(.agg #[(.int .i64 0),(.int .i64 0),(.int .i64 0),(.int .i64 0)]),.struct [(0,1,3),(1,1,3),(2,1,3),(3,1,3)]⟩:=ac
theorem XnT:Tryz.prog.bytesOf 356=32:=ac
theorem Xp5:Yg Tryz.prog 356=some [some .i64,some .i64,some .i64,some .i64]:=ac
theorem Xtx:Xu Tryz.prog 357=some ⟨3,24,(.agg #[.nilFunc,.nilFunc,.nilFunc]),.array 3 355 1⟩:=ac
theorem Xty:Xu Tryz.prog 364=some ⟨1,8,(.agg #[(.int .i64 0)]),.struct [(0,1,3)]⟩:=ac
theorem Xtz:Xu Tryz.prog 366=some ⟨1,8,(.agg #[(.int .i64 0)]),.struct [(0,1,3)]⟩:=ac
theorem XtA:Xu Tryz.prog 369=some ⟨1,8,(.agg #[(.int .i64 0)]),.struct [(0,1,57)]⟩:=ac
theorem XtB:Xu Tryz.prog 371=some ⟨16,208,(.agg #[(.int .i64 0),(.int .i64 0),(.slice none 0 0),(.slice none 0 0),(.int .i64 0),(.int .i64 0),(.slice none 0 0),(.slice none 0 0),(.slice none 0 0),(.int .i64 0),(.int .i64 0),(.int .i64 0),(.int .i64 0),(.int .i64 0),(.int .i64 0),(.int .i64 0)]),.struct [(0,6,27),(6,1,24),(7,1,30),(8,1,24),(9,1,3),(10,6,104)]⟩:=ac
theorem XnU:Tryz.prog.bytesOf 371=208:=ac
theorem XtC:Xu Tryz.prog 384=some ⟨1,8,(.pointer none),.other⟩:=ac
theorem XtD:Xu Tryz.prog 385=some ⟨16,208,(.agg #[(.int .i64 0),(.int .i64 0),(.slice none 0 0),(.slice none 0 0),(.int .i64 0),(.int .i64 0),(.slice none 0 0),(.slice none 0 0),(.slice none 0 0),(.int .i64 0),(.int .i64 0),(.int .i64 0),(.int .i64 0),(.int .i64 0),(.int .i64 0),(.int .i64 0)]),.struct [(0,6,27),(6,1,24),(7,1,30),(8,1,24),(9,1,3),(10,6,104)]⟩:=ac
theorem XtE:Xu Tryz.prog 399=some ⟨2,32,(.agg #[(.pointer none),(.slice none 0 0)]),.struct [(0,1,384),(1,1,24)]⟩:=ac
attribute [go_sem] ty3 ty4 ty9 XsS XrC XsT XsU XsV XsW XsX XsY XsZ Xs0 Xs1 Xs2 Xs3 XnE XuS XuT XuU XuV XuW XuX XuY XuZ Xu0 Xu1 Xs4 XrD Xs5 XrE Xs6 XrF Xs7 XrG Xu2 Xu3 Xu4 Xu5 Xs8 Xs9 Xqq Xp0 Xta Xtb Xp1 Xtc Xtd Xte Xtf Xtg Xth Xti Xtj Xtk Xp2 Xtl Xtm Xtn Xp3 Xto Xtp Xtq Xtr Xts Xp4 Xqr Xtt Xtu Xtv Xtw Xp5 Xtx Xty Xtz XtA XtB XtC XtD XtE
attribute [go_sem] zWd zHp
def e3(x:Int):List D:=[.v (.int .i64 x)]
def e49(x:U0):List D:=[.isl 3 1 (x.L.map e3),.v (.int .i64 x.at_)]
def e39(x:Int):List D:=[.v (.int .u64 x)]
def XU(x:Wv):List D:=[.v (.int .i64 x.k),.v (.int .i64 x.s),.v (.int .i64 x.u),.v (.int .i64 x.P)]
def e72(x:UE):List D:=[.v (.int .i64 x.J),.v (.int .u64 x.a),.v (.bool x.V)]
def e78(x:UJ):List D:=[.v (.int .i64 x.O),.v (.int .i64 x.C0),.v (.bool x.B0)]
def e74(x:WT):List D:=[.v (.int .i64 x.G),.v (.int .u64 x.a),.v (.bool x.V)]
def e76(x:Ux):List D:=[.v (.int .u64 x.a),.v (.int .i64 x.M)]
def Xb5(x:In):List D:=[.v (.int .i64 x.H.k),.v (.int .i64 x.H.n),.v (.int .u32 x.H.Map),.isl 39 1 (x.D.map e39)]
def Xec(x:IA):List D:=[.v (.int .u64 x.I),.v (.int .i64 x.M),.v (.int .u64 x.B0)]
def e45(x:Iz):List D:=[.v (.int .i64 x.N.h.c.W),.v (.int .i64 x.N.h.c.p),.isl 39 1 (x.N.h.w.map e39),.isl 114 4 (x.N.h.p.map XU),.v (.int .i64 x.N.h.s),.v (.int .i64 x.N.h.b),.isl 72 3 (x.N.l.S.map e72),.isl 78 3 (x.N.l.x.map e78),.isl 3 1 (x.N.l.i.map e3),.isl 74 3 (x.N.g.e.map e74),.isl 74 3 (x.N.v.e.map e74),.isl 76 2 (x.N.P.map e76),.isl 39 1 (x.N.R.map e39),.v (.int .i64 x.z.c.W),.v (.int .i64 x.z.c.p),.isl 177 4 (x.z.T.map Xb5),.isl 72 3 (x.z.l.S.map e72),.isl 78 3 (x.z.l.x.map e78),.isl 3 1 (x.z.l.i.map e3),.isl 74 3 (x.z.g.e.map e74),.isl 74 3 (x.z.v.e.map e74),.isl 248 3 (x.z.m.map Xec),.isl 39 1 (x.z.R.map e39),.isl 39 1 (x.w.map e39)]
def e54(x:IJ):List D:=[.v (.int .i64 x.Op),.v (.int .u64 x.A),.v (.int .u64 x.B),.v (.int .u64 x.C)]
def e23(x:WW):List D:=[.v (.int .i64 x.W),.v (.int .i64 x.p)]
def e27(x:Wm):List D:=[.v (.int .i64 x.c.W),.v (.int .i64 x.c.p),.isl 39 1 (x.w.map e39),.isl 114 4 (x.p.map XU),.v (.int .i64 x.s),.v (.int .i64 x.b)]
def e38(x:WJ):List D:=[.v (.int .i64 x.h.c.W),.v (.int .i64 x.h.c.p),.isl 39 1 (x.h.w.map e39),.isl 114 4 (x.h.p.map XU),.v (.int .i64 x.h.s),.v (.int .i64 x.h.b),.isl 72 3 (x.l.S.map e72),.isl 78 3 (x.l.x.map e78),.isl 3 1 (x.l.i.map e3),.isl 74 3 (x.g.e.map e74),.isl 74 3 (x.v.e.map e74),.isl 76 2 (x.P.map e76),.isl 39 1 (x.R.map e39)]
def e43(x:WX):List D:=[.v (.int .i64 x.c.W),.v (.int .i64 x.c.p),.isl 177 4 (x.T.map Xb5),.isl 72 3 (x.l.S.map e72),.isl 78 3 (x.l.x.map e78),.isl 3 1 (x.l.i.map e3),.isl 74 3 (x.g.e.map e74),.isl 74 3 (x.v.e.map e74),.isl 248 3 (x.m.map Xec),.isl 39 1 (x.R.map e39)]
def ZS(x:WC):List D:=[.v (.int .i64 x.k),.v (.int .i64 x.n),.v (.int .u32 x.Map)]
def e4(x:Bool):List D:=[.v (.bool x)]
def Xp6(x:Uh):List D:=[.v (.int .i64 x.Fault),.v (.int .i64 x.Page),.v (.int .u64 x.Addr)]
def e32(x:Wo):List D:=[.isl 72 3 (x.S.map e72),.isl 78 3 (x.x.map e78),.isl 3 1 (x.i.map e3)]
def e35(x:Ws):List D:=[.isl 74 3 (x.e.map e74)]
def JC(x:WE):List D:=[.v (.int .i64 x.h.c.W),.v (.int .i64 x.h.c.p),.isl 39 1 (x.h.w.map e39),.isl 114 4 (x.h.p.map XU),.v (.int .i64 x.h.s),.v (.int .i64 x.h.b),.isl 39 1 (x.o.map e39),.isl 3 1 (x.t.map e3),.isl 39 1 (x.q.map e39),.v (.int .i64 x.d),.v (.int .i64 x.r.j),.v (.int .i64 x.r.K),.v (.int .i64 x.r.F),.v (.int .i64 x.r.E),.v (.int .i64 x.r.f),.v (.int .i64 x.r.y)]
def XiK(x:Oq):List D:=[.v (.int .i64 x.O),.v (.int .i64 x.Len)]
def XhC(x:WQ):List D:=[.v (.int .i64 x.j),.v (.int .i64 x.K),.v (.int .i64 x.F),.v (.int .i64 x.E),.v (.int .i64 x.f),.v (.int .i64 x.y)]
def XiL(x:UR):List D:=[.v (.int .i64 x.Tag),.v (.int .i64 x.Index),.v (.int .i64 x.J)]
def XrH(x:Ov):List D:=[.v (.bool x.Failed),.v (.bool x.Collected),.v (.int .u64 x.B0)]
def e69(x:Ik):List D:=[.v (.int .i64 x.h.c.W),.v (.int .i64 x.h.c.p),.isl 39 1 (x.h.w.map e39),.isl 114 4 (x.h.p.map XU),.v (.int .i64 x.h.s),.v (.int .i64 x.h.b),.isl 39 1 (x.Strong.map e39),.isl 39 1 (x.Weak.map e39)]
def XhD(x:Wv):List D:=[.v (.int .i64 x.k),.v (.int .i64 x.s),.v (.int .i64 x.u),.v (.int .i64 x.P)]
def V1(x:UQ):List D:=[.v (.int .u64 x.addr),.v (.int .i64 x.hd.k),.v (.int .i64 x.hd.n),.v (.int .u32 x.hd.Map)]
def Xp7(x:Uh):List D:=[.v (.int .i64 x.Fault),.v (.int .i64 x.Page),.v (.int .u64 x.Addr)]
def XnV(x:Oc):List D:=[.isl 72 3 (x.l.S.map e72),.isl 78 3 (x.l.x.map e78),.isl 3 1 (x.l.i.map e3)]
def e24(x:List Int):List D:=[.isl 39 1 (x.map e39)]
def XtF(x:I5):List D:=[.v (.int .i64 x.page),.v (.int .i64 x.offset)]
def XrI(x:UF):List D:=[.v (.int .i64 x.Width),.v (.int .u64 x.Value)]
def XfX(x:WE):List D:=[.v (.int .i64 x.h.c.W),.v (.int .i64 x.h.c.p),.isl 39 1 (x.h.w.map e39),.isl 114 4 (x.h.p.map XU),.v (.int .i64 x.h.s),.v (.int .i64 x.h.b),.isl 39 1 (x.o.map e39),.isl 3 1 (x.t.map e3),.isl 39 1 (x.q.map e39),.v (.int .i64 x.d),.v (.int .i64 x.r.j),.v (.int .i64 x.r.K),.v (.int .i64 x.r.F),.v (.int .i64 x.r.E),.v (.int .i64 x.r.f),.v (.int .i64 x.r.y)]
attribute [go_sem] e3 e49 e39 XU e72 e78 e74 e76 Xb5 Xec e45 e54 e23 e27 e38 e43 ZS e4 Xp6 e32 e35 JC XiK XhC XiL XrH e69 XhD V1 Xp7 XnV e24 XtF XrI XfX XiJ XpX XfS XdY XfT XfW XfU XfV XnJ XnM XpW XpY XpP XpR XpU XpV XnH XrB XnP XpS XpT XnL XnS XnF XnI XnG XpZ XnT XnO XnN XnK XpQ XnR XnQ XnU
theorem XtG:Go.Proofs.Tryz.prog.follows .mixedOrders=true:=ac
def GW(G:Nat->Option (List D)):Prop:=G 0=some [.v (.int .i64 2),.v (.int .i64 16),.v (.int .i64 32)]/\∀f,G (roK f)=if f=365 then some []else none
open Go.Proofs
theorem E:True:=trivial
theorem hd:True:=trivial
theorem EF:True:=trivial
theorem hx3:True:=trivial
theorem hl3:True:=trivial
theorem hm3:True:=trivial
theorem hl4:True:=trivial
theorem hm4:True:=trivial
theorem Xp8:True:=trivial
theorem XtH:True:=trivial
theorem XrJ:True:=trivial
theorem Xz:True:=trivial
theorem Yy:True:=trivial
theorem XrK:True:=trivial
theorem YL:True:=trivial
theorem V2:True:=trivial
theorem XrL:True:=trivial
theorem YN:True:=trivial
theorem Vr:True:=trivial
theorem ZM:True:=trivial
theorem XtI:True:=trivial
theorem Kj:True:=trivial
theorem Xk:True:=trivial
theorem XX:True:=trivial
theorem KJ:True:=trivial
theorem KU:True:=trivial
theorem Xbz:True:=trivial
theorem XnW:True:=trivial
theorem Xay:True:=trivial
theorem Xqs:True:=trivial
theorem Fq:True:=trivial
theorem hK:True:=trivial
theorem Xu6{α:Type}{G:Prop}{a c:Int}{x y:Option α}{r:α}(h:(bif (a==c)then x else y)=some r)(f:a=c->x=some r->G)(g:¬a=c->y=some r->G):G:=by
 by_cases e:a=c
 .rw[beq_iff_eq.2 e]at h;exact f e h
 rw[WZ.2 e]at h;exact g e h
attribute [go_sem] Option.get!
structure Fn(n:Nat):Prop where
class OK{α:Type}(o:Option α)(f:outParam Nat)(a:outParam (List D))(l:outParam (List Ob))(e:outParam (α->D))(l':outParam (α->List Ob)):Prop where
 h:∀G,GW G->∀r,o=some r->YS Tryz.prog G f a l (Eqs (e r) (l' r))
section
variable {α β:Type}{o:Option α}{k:α->Option β}{f:Nat}{a args:List D}{l:List Ob}{e:α->D}{l':α->List Ob}{G:Nat->Option (List D)}{r:β}{K:D->List Ob->Prop}
theorem OK.c[h:OK o f a l e l'](hr:bnd o k=some r)(hw:GW G)(hf:Z1 args a)(hK:∀y,k y=some r->K (e y) (l' y))(t:Prf args):CallG Tryz.prog G f args l K t:=
 Xaq hr λy hy hr=>CallG.ofE (h.h G hw y hy) hf (hK y hr) t
theorem IK[h:OK o f a l e l'](hr:bnd o k=some r)(hw:GW G)(hf:Z1 args a)(hK:∀y,k y=some r->K (e y) (l' y))(t:Prf args):CallD Tryz.prog G f args l K t:=
 Xaq hr λy hy hr=>CallD.ofE (h.h G hw y hy) hf (hK y hr) t
theorem rn(fn:Func)(rs:List ResultVar)(fr:List Nat)(nt:Nat)(hk:(Tryz.prog.funcs[f]?,fn.body,fn.name== "runtime.NumGoroutine",fn.results,fn.ntmps,a.length.ble nt)=(some fn,some (fn.body.get!),false,⟨rs⟩,nt,true))(h:∀G,GW G->∀r,o=some r->∀(C:Cx)x,C.G=G->WfL Tryz.prog a->Fn f->run Tryz.prog (C.sub 0 x) (JM Tryz.prog rs fr l.length (Eqs (e r) (l' r))) 1000 [.code (fn.body.get!)] (st0 a l nt)):OK o f a l e l':=by injection hk with h1 hk;injection hk with h2 hk;injection hk with h3 hk;injection hk with h4 hk;injection hk with h5 h6;exact⟨λG hw r hr=>Yq 1000 fr nt h1 h2 h3 h4 h5 (IZ h6) λC x hG hwf=>h G hw r hr C x hG hwf ⟨⟩⟩
end
def bm(b n:Nat):List Nat:=((List.range (n.log2+1)).filter λi=>n / 2 ^ i % 2==1).map λi=>i+b
theorem XrM{b n x:Nat}:(bm b n).contains x=(decide (b<=x)&&n / 2 ^ (x-b) % 2==1):=by
 rw[Bool.eq_iff_iff,I4,bm,UM];simp only[UB,List.mem_range,beq_iff_eq,W9,decide_eq_true_eq];constructor
 .rintro⟨i,⟨h1,h2⟩,rfl⟩;rw[Iu];exact⟨Nat.le_add_left _ _,h2⟩
 rintro⟨h1,h3⟩;refine⟨x-b,⟨?_,h3⟩,Nat.sub_add_cancel h1⟩;have hp:0<n / 2 ^ (x-b):=by
  rcases Uf (n / 2 ^ (x-b))with h|h
  .rw[h]at h3;cases h3
  exact h
 have hle:2 ^ (x-b)<=n:=by
  rcases Ur n (2 ^ (x-b))with h|h
  .rw[Nat.div_eq_of_lt h]at hp;cases hp
  exact h
 have hn:n≠0:=by rintro rfl;have:=Nat.two_pow_pos (x-b);omega
 exact Nat.lt_succ_of_le ((Nat.le_log2 hn).2 hle)
theorem XtJ{b n x:Nat}{p q:D}:(if(bm b n).contains x=true then p else q)=if x<b then q else if n / 2 ^ (x-b) % 2=1 then p else q:=by
 rw[XrM];by_cases h1:x<b
 .rw[Wq h1,Wh (Nat.not_le.2 h1),Uw];rfl
 rw[Wk h1,Wd (Nat.not_lt.1 h1),W8];by_cases h3:n / 2 ^ (x-b) % 2=1
 .rw[Wq h3,Wq (beq_iff_eq.2 h3)]
 rw[Wk h3,Wk (λh=>h3 (beq_iff_eq.1 h))]
def Xap(b:Nat):Nat->List Oper->List (Nat×Nat×List (List Nat))->List En
 |i,o::l,(a,m,[])::x=>⟨i,o,bm 0 a,[],bm b m,[]⟩::Xap b (i+1) l x
 |i,o::l,(a,m,[w,k])::x=>⟨i,o,bm 0 a,w,bm b m,k⟩::Xap b (i+1) l x
 |_,[],[]=>[]
 |i,_,_=>[⟨i,⟨none,.assign (.tmp 0),0,"",#[],none⟩,[],[],[],[]⟩]
attribute [go_sem] XtJ Xap
theorem db{C:Cx}{R:St->Prop}{k:List It}{st:St}{l:List Oper}(f id:Nat)(_:Fn f)(b:Nat)(aux:List (Nat×Nat×List (List Nat)))(ho:(Xap b 0 l aux).map (·.o)=l)(hi:(Xap b 0 l aux).map (·.i)=List.range (Xap b 0 l aux).length)(hc:Xlx (Xap b 0 l aux)=true)(h:dr Tryz.prog C ⟨l⟩ st.k (Xap b 0 l aux) st λst'=>run Tryz.prog C R 1000 k ⟨st'.t,st'.s,st'.n,st.k+(Xap b 0 l aux).length⟩)(t:Prf (⟨l⟩:Array Oper))(hrd:C.rd=none:=by rfl):DrawnG Tryz.prog C R id ⟨l⟩ k st t:=
 DrawnG.of XtG (Xap b 0 l aux) 1000 ho hi hc h t hrd
class El{α:Type}(x:Option α)(r:α)(K:outParam (Prop->Prop)):Prop where
 el:∀{G:Prop},x=some r->K G->G
instance{α:Type}{p:Prop}[Decidable p]{x:Option α}{r:α}:El (grd p x) r λG=>x=some r->p->G:=⟨λh k=>Xr2 h λa b=>k b a⟩
instance{κ α:Type}{k:κ}{f:κ->Option α}{r:α}:El (jn k f) r λG=>f k=some r->G:=⟨λh k=>Xum h k⟩
instance{α β γ:Type}{b:β}{f:α->Option γ}{k:β->Option γ}{r:γ}:El (exK (.nxt b) f k) r λG=>k b=some r->G:=⟨λh k=>Xr3 h k⟩
instance{α β γ:Type}{b:α}{f:α->Option γ}{k:β->Option γ}{r:γ}:El (exK (.ret b) f k) r λG=>f b=some r->G:=⟨λh k=>Xr4 h k⟩
instance{α:Type}{x y:Option α}{r:α}:El (bif true then x else y) r λG=>x=some r->G:=⟨λh k=>k h⟩
instance{α:Type}{x y:Option α}{r:α}:El (bif false then x else y) r λG=>y=some r->G:=⟨λh k=>k h⟩
instance{α:Type}{x y:Option α}{r:α}:El (bif !false then x else y) r λG=>x=some r->G:=⟨λh k=>k h⟩
instance{α:Type}{x y:Option α}{r:α}:El (bif !true then x else y) r λG=>y=some r->G:=⟨λh k=>k h⟩
theorem Xx{α:Type}{G:Prop}{b c:Bool}{x y:Option α}{r:α}(h:(bif b then x else y)=some r)(hb:b=c)(g:(bif c then x else y)=some r->G):G:=g (hb▸h)
theorem Xu7:wI (-1) = -1:=by unfold wI;decide
theorem XtK:wI 1=1/\wI 2=2/\wI 3=3/\wI 4=4/\wI 5=5/\wI 6=6:=by unfold wI;decide
theorem XnX{α:Type}{l:List α}{o n:Nat}{i:Int}{b:Prop}{β:Type}{f:α->Option β}{r:β}{p:α}(hr:bnd (KM l o n i) f=some r)(hp:KM l o n i=some p)(k:KM l o n i=some p->o+i.toNat<l.length->(∀(γ:Type) (e:α->List γ),(l.map e).getD (o+i.toNat) []=e p)->f p=some r->b):(0<=i/\i<n)/\b:=
 XiN hr λq hq h1 h2 h3=>by obtain rfl:=WG (hp.symm.trans hq);exact k hq h1 h2 h3
theorem Xqt{α:Type}{l:List α}{o n:Nat}{i:Int}{b:Prop}{β:Type}{f:α->Option β}{r:β}{p:α}(hr:bnd (KM l o n i) f=some r)(hp:KM l o n i=some p)(k:KM l o n i=some p->o+i.toNat<l.length->(∀(γ:Type) (e:α->List γ),(l.map e).getD (o+i.toNat) []=e p)->f p=some r->b):i<n/\b:=
 let ⟨h1,h2⟩:=XnX hr hp k;⟨h1.2,h2⟩
abbrev FwH(s:Heap)(wb w1 p wp w3 w4 w5:Nat)(a:WE):Prop:=s 51584=some (w1,.arr false 39 1 (a.h.w.map e39) 0)/\s p=some (wp,.arr false 114 4 (a.h.p.map XU) 0)/\s 52288=some (w3,.arr false 39 1 (a.o.map e39) 0)/\s 52480=some (w4,.arr false 3 1 (a.t.map e3) 0)/\s 52672=some (w5,.arr false 39 1 (a.q.map e39) 0)/\s 51264=some (wb,.arr true 385 16 [[.v (.int .i64 a.h.c.W),.v (.int .i64 a.h.c.p),.osl 51584 w1 1 0 a.h.w.length,.osl p wp 4 0 a.h.p.length,.v (.int .i64 a.h.s),.v (.int .i64 a.h.b),.osl 52288 w3 1 0 a.o.length,.osl 52480 w4 1 0 a.t.length,.osl 52672 w5 1 0 a.q.length,.v (.int .i64 a.d),.v (.int .i64 a.r.j),.v (.int .i64 a.r.K),.v (.int .i64 a.r.F),.v (.int .i64 a.r.E),.v (.int .i64 a.r.f),.v (.int .i64 a.r.y)]] 0)
def XiM(s s':Heap):Heap:=λi=>if i<51264 then s i else s' i
theorem XB{s s':Heap}{i:Nat}:XiM s s' i=if i<51264 then s i else s' i:=rfl
theorem Xqu{s s':Heap}{A:Prop}{K:Heap->Prop}(hK:A->K (XiM s s'))(h:A)(hl:∀i,i<51264->s' i=s i):K s':=by
 have e:s'=XiM s s':=by
  funext i;rw[XB];split
  .exact hl i ag
  rfl
 rw[e];exact hK h
theorem XfY{s s':Heap}{K:Heap->Prop}{A:Nat->Nat->Nat->Nat->Prop}(hK:∀p wp w4 w5,(p=51840\/p=210816)->A p wp w4 w5->K (XiM s s'))(p wp w4 w5:Nat)(hp:p=51840\/p=210816)(h:A p wp w4 w5)(hl:∀i,i<51264->s' i=s i):K s':=Xqu (hK p wp w4 w5 hp) h hl
theorem Za{G:Nat->Option (List D)}(hw:GW G){f:Nat}{α:Type}{x:Option α}:Xfi G f x=if f=365 then none else x:=by
 by_cases h:f=365
 .rw[Wq h];exact Xq1 ((hw.2 f).trans (Wq h))
 rw[Wk h];exact Xq0 ((hw.2 f).trans (Wk h))
theorem XnY{G:Nat->Option (List D)}(b0 b1 b2 b3 b5 b6 b7 b8 b9 b10 b11 b12 b13 b14 b15:D)(sp:Int):YS Tryz.prog G 365 [.ipt 16 [b0,b1,b2,b3,.v (.int .i64 sp),b5,b6,b7,b8,b9,b10,b11,b12,b13,b14,b15] 0] [] (Eqs (.v (.int .i64 (wI (1-sp)))) []):=by
 refine Yq (fn:=Tryz.f365) (body:=(Tryz.f365.body).get!) (rs:=[.tmp 2]) 1000 [] 9 ac ac ac ac ac ab λC _ hG hwf=>?_;subst hG;simp only[Tryz.f365,Option.get!];simp only[go_sem,simprocAttr];with_reducible refine XK ?_
 simp only[go_sem,simprocAttr]
theorem XcI{C:Cx}{s:Heap}{id v T:Nat}{a0 a1 a2 a3 a5 a6 a7 a8 a9 a10 a11 a12 a13 a14 a15 b0 b1 b2 b3 b5 b6 b7 b8 b9 b10 b11 b12 b13 b14 b15:D}{sp:Int}{c:Prop}{l:List Nat}{K:D->Prop}(hs:s id=some (v,.arr true T 16 [[a0,a1,a2,a3,.v (.int .i64 sp),a5,a6,a7,a8,a9,a10,a11,a12,a13,a14,a15]] 0))(hsn:ZO s [a0,a1,a2,a3,.v (.int .i64 sp),a5,a6,a7,a8,a9,a10,a11,a12,a13,a14,a15]=some (c,[b0,b1,b2,b3,.v (.int .i64 sp),b5,b6,b7,b8,b9,b10,b11,b12,b13,b14,b15],l))(hc:c)(hK:K (.v (.int .i64 (wI (1-sp)))))(t:Prf [D.ept id v 16 0 0]):Xqe Tryz.prog C s 365 [.ept id v 16 0 0] K t:=
 ⟨_,_,Xq9 hs hsn hc rfl,XnY b0 b1 b2 b3 b5 b6 b7 b8 b9 b10 b11 b12 b13 b14 b15 sp,⟨_,_,rfl,rfl⟩,λ_ _ h=>h.1▸⟨rfl,hK⟩⟩
def LoS(s' s:Heap):Prop:=∀i,i<51264->s' i=s i
theorem LoS.mk{s' s:Heap}(h:∀i,i<51264->s' i=s i):LoS s' s:=h
theorem XtL{ws:List Int}{i n X k W:Nat}{v:D}(h:n<=W-X):((List.take i (ws.map e39)++List.take n (List.drop X (ws.map e39)))++List.drop (k+min n (W-X)) (ws.map e39)).set (X+0) (v::List.drop 1 (((List.take i (ws.map e39)++List.take n (List.drop X (ws.map e39)))++List.drop (k+min n (W-X)) (ws.map e39)).getD (X+0) []))=((List.take i (ws.map e39)++List.take n (List.drop X (ws.map e39)))++List.drop (k+n) (ws.map e39)).set X [v]:=by
 rw[Ol h,IR];congr 1;have m:∀x∈(List.take i (ws.map e39)++List.take n (List.drop X (ws.map e39)))++List.drop (k+n) (ws.map e39),List.drop 1 x=[]:=by
  intro x hx;have:x∈ws.map e39:=by
   rcases WH.1 hx with hx|hx
   .rcases WH.1 hx with hx|hx
    .exact WY hx
    exact WS (WY hx)
   exact WS hx
  obtain⟨y,_,rfl⟩:=UM.1 this;rfl
 rw[Wr];cases e:((List.take i (ws.map e39)++List.take n (List.drop X (ws.map e39)))++List.drop (k+n) (ws.map e39))[X]? with
 |none=>rfl
 |some x=>exact congrArg _ (m x (Ue e))
theorem Vu{i k:Nat}(h:i<51264)(hk:51264<=k):(i=k)=False:=eq_false aa
open Go.Proofs
set_option maxRecDepth 10000
theorem KK{α:Type}{e:α->List D}{p:α->Prop}:∀{es:List (List D)},(∀x∈es,∃y,x=e y/\p y)->∃l:List α,es=l.map e/\∀x∈l,p x
 |[],_=>⟨[],rfl,λx h=>by cases h⟩
 |x::es,h=>by obtain⟨y,rfl,hy⟩:=h x ab;obtain⟨l,rfl,hl⟩:=KK (e:=e) (p:=p) (es:=es) λz hz=>h z (Ul _ hz);exact⟨y::l,rfl,λz hz=>by rcases UT.1 hz with rfl|hz;exact hy;exact hl z hz⟩
section
variable {P:Program}{t e:TypeId}{fs:List (Nat×Nat×Nat)}{a b s:Nat}{z:Value}
theorem XdZ(m:Nat)(h:Xu P t=some ⟨a,b,z,.slice e s⟩)(ds:List D):Sh P (m+1) t ds=∃es,ds=[.isl e (P.cellsOf e) es]/\es.length<=Xy/\es.length*P.bytesOf e<=Xy/\∀x∈es,Sh P m e x:=by simp only[Sh,(X4 h).1]
theorem Xaz(m:Nat)(h:Xu P t=some ⟨a,b,z,.struct fs⟩)(ds:List D):Sh P (m+1) t ds=ShF (Sh P m) (fs.map (·.2.2)) ds:=by obtain⟨fields,h1,h2,_⟩:=Kt h;simp only[Sh,h1];rw[h2,List.map_map];rfl
theorem XfZ(h:Xu P t=some ⟨a,b,z,.int .u64⟩):∀(m:Nat) (ds:List D),Sh P m t ds->∃n,ds=[.v (.int .u64 n)]/\tU n
 |0,_,h'=>h'.elim
 |m+1,ds,h'=>by simp only[Sh,Xa1 h]at h';obtain⟨n,rfl,h1,h2⟩:=h';exact⟨n,rfl,by unfold tU;rw[Xi0]at h1;rw[Xi1]at h2;exact⟨h1,h2⟩⟩
theorem Kk(h:Xu P t=some ⟨a,b,z,.int .i64⟩):∀(m:Nat) (ds:List D),Sh P m t ds->∃n,ds=[.v (.int .i64 n)]/\True
 |0,_,h'=>h'.elim
 |m+1,ds,h'=>by simp only[Sh,Xa1 h]at h';obtain⟨n,rfl,h1,h2⟩:=h';exact⟨n,rfl,trivial⟩
theorem Xf0(h:Xu P t=some ⟨a,b,z,.bool⟩):∀(m:Nat) (ds:List D),Sh P m t ds->∃b,ds=[.v (.bool b)]/\True
 |0,_,h'=>h'.elim
 |m+1,ds,h'=>by simp only[Sh,Xf3 h]at h';obtain⟨n,rfl⟩:=h';exact⟨n,rfl,trivial⟩
end
theorem Xu8:Tryz.prog.cellsOf 3=1:=ac
theorem XtM:Tryz.prog.cellsOf 39=1:=ac
theorem XtN:Tryz.prog.cellsOf 72=3:=ac
theorem XtO:Tryz.prog.cellsOf 74=3:=ac
theorem XtP:Tryz.prog.cellsOf 76=2:=ac
theorem XtQ:Tryz.prog.cellsOf 78=3:=ac
theorem XrN:Tryz.prog.cellsOf 114=4:=ac
theorem XtR:∀(m:Nat) (ds:List D),Sh Tryz.prog m 23 ds->∃x:WW,ds=e23 x/\True
 |0,_,h=>h.elim
 |m+1,ds,h=>by rw[show Sh Tryz.prog (m+1) 23 ds=_ from Xaz m XsS ds]at h;simp only[Ub,Uy,ShF]at h;obtain⟨c0,_,rfl,s0,⟨c1,_,rfl,s1,rfl⟩⟩:=h;obtain⟨x0,rfl,p0⟩:=Kk ty3 _ _ s0;obtain⟨x1,rfl,p1⟩:=Kk ty3 _ _ s1;exact⟨⟨x0,x1⟩,rfl,trivial⟩
theorem XrO(m:Nat)(x:List D)(h:Sh Tryz.prog m 39 x):∃y:Int,x=e39 y/\tU y:=by obtain⟨n,rfl,hp⟩:=XfZ XnE m x h;exact⟨n,rfl,hp⟩
theorem Xqv:∀(m:Nat) (ds:List D),Sh Tryz.prog m 24 ds->∃l:List Int,ds=[.isl 39 1 (l.map e39)]/\l.length*8<=Xy/\∀x∈l,(λx=>tU x) x
 |0,_,h=>h.elim
 |m+1,ds,h=>by rw[show Sh Tryz.prog (m+1) 24 ds=_ from XdZ m XsT ds]at h;obtain⟨es,rfl,_,hb,hs⟩:=h;obtain⟨l,rfl,hl⟩:=KK (p:=(λx=>tU x)) (λx hx=>XrO m x (hs x hx));exact⟨l,by rw[XtM],by rw[W4,XfS]at hb;exact hb,hl⟩
theorem XrP:∀(m:Nat) (ds:List D),Sh Tryz.prog m 114 ds->∃x:Wv,ds=XU x/\True
 |0,_,h=>h.elim
 |m+1,ds,h=>by rw[show Sh Tryz.prog (m+1) 114 ds=_ from Xaz m Xqq ds]at h;simp only[Ub,Uy,ShF]at h;obtain⟨c0,_,rfl,s0,⟨c1,_,rfl,s1,⟨c2,_,rfl,s2,⟨c3,_,rfl,s3,rfl⟩⟩⟩⟩:=h;obtain⟨x0,rfl,p0⟩:=Kk ty3 _ _ s0;obtain⟨x1,rfl,p1⟩:=Kk ty3 _ _ s1;obtain⟨x2,rfl,p2⟩:=Kk ty3 _ _ s2;obtain⟨x3,rfl,p3⟩:=Kk ty3 _ _ s3;exact⟨⟨x0,x1,x2,x3⟩,rfl,trivial⟩
theorem Xp9(m:Nat)(x:List D)(h:Sh Tryz.prog m 114 x):∃y:Wv,x=XU y/\True:=by obtain⟨n,rfl,hp⟩:=XrP m x h;exact⟨n,rfl,trivial⟩
theorem XtS:∀(m:Nat) (ds:List D),Sh Tryz.prog m 25 ds->∃l:List Wv,ds=[.isl 114 4 (l.map XU)]/\l.length*32<=Xy/\∀x∈l,(λ_=>True) x
 |0,_,h=>h.elim
 |m+1,ds,h=>by rw[show Sh Tryz.prog (m+1) 25 ds=_ from XdZ m XsU ds]at h;obtain⟨es,rfl,_,hb,hs⟩:=h;obtain⟨l,rfl,hl⟩:=KK (p:=(λ_=>True)) (λx hx=>Xp9 m x (hs x hx));exact⟨l,by rw[XrN],by rw[W4,XdY]at hb;exact hb,hl⟩
theorem XtT:∀(m:Nat) (ds:List D),Sh Tryz.prog m 27 ds->∃x:Wm,ds=e27 x/\XV x
 |0,_,h=>h.elim
 |m+1,ds,h=>by rw[show Sh Tryz.prog (m+1) 27 ds=_ from Xaz m XsV ds]at h;simp only[Ub,Uy,ShF]at h;obtain⟨c0,_,rfl,s0,⟨c1,_,rfl,s1,⟨c2,_,rfl,s2,⟨c3,_,rfl,s3,⟨c4,_,rfl,s4,rfl⟩⟩⟩⟩⟩:=h;obtain⟨x0,rfl,p0⟩:=XtR _ _ s0;obtain⟨x1,rfl,_,p1⟩:=Xqv _ _ s1;obtain⟨x2,rfl,_,p2⟩:=XtS _ _ s2;obtain⟨x3,rfl,p3⟩:=Kk ty3 _ _ s3;obtain⟨x4,rfl,p4⟩:=Kk ty3 _ _ s4;exact⟨⟨x0,x1,x2,x3,x4⟩,rfl,p1⟩
theorem XtU:∀(m:Nat) (ds:List D),Sh Tryz.prog m 72 ds->∃x:UE,ds=e72 x/\Yw x
 |0,_,h=>h.elim
 |m+1,ds,h=>by rw[show Sh Tryz.prog (m+1) 72 ds=_ from Xaz m Xs4 ds]at h;simp only[Ub,Uy,ShF]at h;obtain⟨c0,_,rfl,s0,⟨c1,_,rfl,s1,⟨c2,_,rfl,s2,rfl⟩⟩⟩:=h;obtain⟨x0,rfl,p0⟩:=Kk ty3 _ _ s0;obtain⟨x1,rfl,p1⟩:=XfZ XnE _ _ s1;obtain⟨x2,rfl,p2⟩:=Xf0 ty4 _ _ s2;exact⟨⟨x0,x1,x2⟩,rfl,p1⟩
theorem XrQ(m:Nat)(x:List D)(h:Sh Tryz.prog m 72 x):∃y:UE,x=e72 y/\Yw y:=by obtain⟨n,rfl,hp⟩:=XtU m x h;exact⟨n,rfl,hp⟩
theorem XtV:∀(m:Nat) (ds:List D),Sh Tryz.prog m 28 ds->∃l:List UE,ds=[.isl 72 3 (l.map e72)]/\l.length*24<=Xy/\∀x∈l,(λx=>Yw x) x
 |0,_,h=>h.elim
 |m+1,ds,h=>by rw[show Sh Tryz.prog (m+1) 28 ds=_ from XdZ m XsW ds]at h;obtain⟨es,rfl,_,hb,hs⟩:=h;obtain⟨l,rfl,hl⟩:=KK (p:=(λx=>Yw x)) (λx hx=>XrQ m x (hs x hx));exact⟨l,by rw[XtN],by rw[W4,XfT]at hb;exact hb,hl⟩
theorem XtW:∀(m:Nat) (ds:List D),Sh Tryz.prog m 78 ds->∃x:UJ,ds=e78 x/\True
 |0,_,h=>h.elim
 |m+1,ds,h=>by rw[show Sh Tryz.prog (m+1) 78 ds=_ from Xaz m Xs7 ds]at h;simp only[Ub,Uy,ShF]at h;obtain⟨c0,_,rfl,s0,⟨c1,_,rfl,s1,⟨c2,_,rfl,s2,rfl⟩⟩⟩:=h;obtain⟨x0,rfl,p0⟩:=Kk ty3 _ _ s0;obtain⟨x1,rfl,p1⟩:=Kk ty3 _ _ s1;obtain⟨x2,rfl,p2⟩:=Xf0 ty4 _ _ s2;exact⟨⟨x0,x1,x2⟩,rfl,trivial⟩
theorem XrR(m:Nat)(x:List D)(h:Sh Tryz.prog m 78 x):∃y:UJ,x=e78 y/\True:=by obtain⟨n,rfl,hp⟩:=XtW m x h;exact⟨n,rfl,trivial⟩
theorem XtX:∀(m:Nat) (ds:List D),Sh Tryz.prog m 29 ds->∃l:List UJ,ds=[.isl 78 3 (l.map e78)]/\l.length*24<=Xy/\∀x∈l,(λ_=>True) x
 |0,_,h=>h.elim
 |m+1,ds,h=>by rw[show Sh Tryz.prog (m+1) 29 ds=_ from XdZ m XsX ds]at h;obtain⟨es,rfl,_,hb,hs⟩:=h;obtain⟨l,rfl,hl⟩:=KK (p:=(λ_=>True)) (λx hx=>XrR m x (hs x hx));exact⟨l,by rw[XtQ],by rw[W4,XfW]at hb;exact hb,hl⟩
theorem XtY(m:Nat)(x:List D)(h:Sh Tryz.prog m 3 x):∃y:Int,x=e3 y/\True:=by obtain⟨n,rfl,hp⟩:=Kk ty3 m x h;exact⟨n,rfl,trivial⟩
theorem XtZ:∀(m:Nat) (ds:List D),Sh Tryz.prog m 30 ds->∃l:List Int,ds=[.isl 3 1 (l.map e3)]/\l.length*8<=Xy/\∀x∈l,(λ_=>True) x
 |0,_,h=>h.elim
 |m+1,ds,h=>by rw[show Sh Tryz.prog (m+1) 30 ds=_ from XdZ m XsY ds]at h;obtain⟨es,rfl,_,hb,hs⟩:=h;obtain⟨l,rfl,hl⟩:=KK (p:=(λ_=>True)) (λx hx=>XtY m x (hs x hx));exact⟨l,by rw[Xu8],by rw[W4,XiJ]at hb;exact hb,hl⟩
theorem Xt0:∀(m:Nat) (ds:List D),Sh Tryz.prog m 32 ds->∃x:Wo,ds=e32 x/\XN x
 |0,_,h=>h.elim
 |m+1,ds,h=>by rw[show Sh Tryz.prog (m+1) 32 ds=_ from Xaz m XsZ ds]at h;simp only[Ub,Uy,ShF]at h;obtain⟨c0,_,rfl,s0,⟨c1,_,rfl,s1,⟨c2,_,rfl,s2,rfl⟩⟩⟩:=h;obtain⟨x0,rfl,_,p0⟩:=XtV _ _ s0;obtain⟨x1,rfl,_,p1⟩:=XtX _ _ s1;obtain⟨x2,rfl,_,p2⟩:=XtZ _ _ s2;exact⟨⟨x0,x1,x2⟩,rfl,p0⟩
theorem Xt1:∀(m:Nat) (ds:List D),Sh Tryz.prog m 74 ds->∃x:WT,ds=e74 x/\XI x
 |0,_,h=>h.elim
 |m+1,ds,h=>by rw[show Sh Tryz.prog (m+1) 74 ds=_ from Xaz m Xs5 ds]at h;simp only[Ub,Uy,ShF]at h;obtain⟨c0,_,rfl,s0,⟨c1,_,rfl,s1,⟨c2,_,rfl,s2,rfl⟩⟩⟩:=h;obtain⟨x0,rfl,p0⟩:=Kk ty3 _ _ s0;obtain⟨x1,rfl,p1⟩:=XfZ XnE _ _ s1;obtain⟨x2,rfl,p2⟩:=Xf0 ty4 _ _ s2;exact⟨⟨x0,x1,x2⟩,rfl,p1⟩
theorem XrS(m:Nat)(x:List D)(h:Sh Tryz.prog m 74 x):∃y:WT,x=e74 y/\XI y:=by obtain⟨n,rfl,hp⟩:=Xt1 m x h;exact⟨n,rfl,hp⟩
theorem Xt2:∀(m:Nat) (ds:List D),Sh Tryz.prog m 33 ds->∃l:List WT,ds=[.isl 74 3 (l.map e74)]/\l.length*24<=Xy/\∀x∈l,(λx=>XI x) x
 |0,_,h=>h.elim
 |m+1,ds,h=>by rw[show Sh Tryz.prog (m+1) 33 ds=_ from XdZ m Xs0 ds]at h;obtain⟨es,rfl,_,hb,hs⟩:=h;obtain⟨l,rfl,hl⟩:=KK (p:=(λx=>XI x)) (λx hx=>XrS m x (hs x hx));exact⟨l,by rw[XtO],by rw[W4,XfU]at hb;exact hb,hl⟩
theorem Xqw:∀(m:Nat) (ds:List D),Sh Tryz.prog m 35 ds->∃x:Ws,ds=e35 x/\X6 x
 |0,_,h=>h.elim
 |m+1,ds,h=>by rw[show Sh Tryz.prog (m+1) 35 ds=_ from Xaz m Xs1 ds]at h;simp only[Ub,Uy,ShF]at h;obtain⟨c0,_,rfl,s0,rfl⟩:=h;obtain⟨x0,rfl,_,p0⟩:=Xt2 _ _ s0;exact⟨⟨x0⟩,rfl,p0⟩
theorem Xt3:∀(m:Nat) (ds:List D),Sh Tryz.prog m 76 ds->∃x:Ux,ds=e76 x/\Y8 x
 |0,_,h=>h.elim
 |m+1,ds,h=>by rw[show Sh Tryz.prog (m+1) 76 ds=_ from Xaz m Xs6 ds]at h;simp only[Ub,Uy,ShF]at h;obtain⟨c0,_,rfl,s0,⟨c1,_,rfl,s1,rfl⟩⟩:=h;obtain⟨x0,rfl,p0⟩:=XfZ XnE _ _ s0;obtain⟨x1,rfl,p1⟩:=Kk ty3 _ _ s1;exact⟨⟨x0,x1⟩,rfl,p0⟩
theorem XrT(m:Nat)(x:List D)(h:Sh Tryz.prog m 76 x):∃y:Ux,x=e76 y/\Y8 y:=by obtain⟨n,rfl,hp⟩:=Xt3 m x h;exact⟨n,rfl,hp⟩
theorem Xt4:∀(m:Nat) (ds:List D),Sh Tryz.prog m 36 ds->∃l:List Ux,ds=[.isl 76 2 (l.map e76)]/\l.length*16<=Xy/\∀x∈l,(λx=>Y8 x) x
 |0,_,h=>h.elim
 |m+1,ds,h=>by rw[show Sh Tryz.prog (m+1) 36 ds=_ from XdZ m Xs2 ds]at h;obtain⟨es,rfl,_,hb,hs⟩:=h;obtain⟨l,rfl,hl⟩:=KK (p:=(λx=>Y8 x)) (λx hx=>XrT m x (hs x hx));exact⟨l,by rw[XtP],by rw[W4,XfV]at hb;exact hb,hl⟩
theorem Xva:∀(m:Nat) (ds:List D),Sh Tryz.prog m 38 ds->∃x:WJ,ds=e38 x/\Yi x
 |0,_,h=>h.elim
 |m+1,ds,h=>by rw[show Sh Tryz.prog (m+1) 38 ds=_ from Xaz m Xs3 ds]at h;simp only[Ub,Uy,ShF]at h;obtain⟨c0,_,rfl,s0,⟨c1,_,rfl,s1,⟨c2,_,rfl,s2,⟨c3,_,rfl,s3,⟨c4,_,rfl,s4,⟨c5,_,rfl,s5,rfl⟩⟩⟩⟩⟩⟩:=h;obtain⟨x0,rfl,p0⟩:=XtT _ _ s0;obtain⟨x1,rfl,p1⟩:=Xt0 _ _ s1;obtain⟨x2,rfl,p2⟩:=Xqw _ _ s2;obtain⟨x3,rfl,p3⟩:=Xqw _ _ s3;obtain⟨x4,rfl,_,p4⟩:=Xt4 _ _ s4;obtain⟨x5,rfl,_,p5⟩:=Xqv _ _ s5;exact⟨⟨x0,x1,x2,x3,x4,x5⟩,rfl,⟨p0,p1,p2,p3,p4,p5⟩⟩
open Go.Proofs
section
variable {α β:Type}{o:Option α}{y:α}{f:Nat}{a args:List D}{l:List Ob}{e:α->D}{l':α->List Ob}{G:Nat->Option (List D)}{K:D->List Ob->Prop}
theorem OK.t[h:OK o f a l e l'](ho:o=some y)(hw:GW G)(hf:Z1 args a)(hK:K (e y) (l' y))(t:Prf args):CallG Tryz.prog G f args l K t:=CallG.ofE (h.h G hw y ho) hf hK t
end
open Go.Proofs
abbrev vi(x:Int):D:=.v (.int .i64 x)
abbrev vu(x:Int):D:=.v (.int .u64 x)
abbrev vw(x:Int):D:=.v (.int .u32 x)
abbrev s3(l:List Int):D:=.isl 3 1 (l.map e3)
abbrev s4(l:List Bool):D:=.isl 4 1 (l.map e4)
abbrev s24(l:List (List Int)):D:=.isl 24 1 (l.map e24)
abbrev s39(l:List Int):D:=.isl 39 1 (l.map e39)
abbrev s72(l:List UE):D:=.isl 72 3 (l.map e72)
abbrev s74(l:List WT):D:=.isl 74 3 (l.map e74)
abbrev s76(l:List Ux):D:=.isl 76 2 (l.map e76)
abbrev s78(l:List UJ):D:=.isl 78 3 (l.map e78)
abbrev Yj(l:List Wv):D:=.isl 114 4 (l.map XU)
abbrev Xt5(l:List In):D:=.isl 177 4 (l.map Xb5)
abbrev Xt6(l:List IA):D:=.isl 248 3 (l.map Xec)
abbrev XkZ(l:List UQ):D:=.isl 272 4 (l.map V1)
abbrev XnZ(l:List UF):D:=.isl 311 2 (l.map XrI)
abbrev Xn0(l:List Oq):D:=.isl 352 2 (l.map XiK)
attribute [go_sem] vi vu vw s3 s4 s24 s39 s72 s74 s76 s78 Yj Xt5 Xt6 XkZ XnZ Xn0
theorem lp{P:Program}{C:Cx}{R:St->Prop}{c:Code}{k:List It}{st:St}{α β:Type}{o:Option α}{f:α->Option β}{r:β}(I:(α->Prop)->Nat->St->Prop)(hr:bnd o f=some r)(n:Nat)(round:∀n st,I (λy=>f y=some r) n st->run P C R 1000 (.code c::.stop (λst'=>∃n',n'<n/\I (λy=>f y=some r) n' st')::k) st)(h0:∀ex,o=some ex->f ex=some r->I (λy=>f y=some r) n st)(t':Prf c):LoopG P C R c k st t':=
 Xl8 hr 1000 n h0 round t'
theorem rq{α:Type}{o:Option α}{f:Nat}{a:List D}{l:List Ob}{e:α->D}{l':α->List Ob}(fn:Func)(fr:List Nat)(h:∀G,GW G->∀r,o=some r->∀(C:Cx)x,C.G=G->WfL Tryz.prog a->Fn f->run Tryz.prog (C.sub 0 x) (JM Tryz.prog fn.results.toList fr l.length (Eqs (e r) (l' r))) 1000 [.code (fn.body.get!)] (st0 a l fn.ntmps))(hk:(Tryz.prog.funcs[f]?,fn.body,fn.name== "runtime.NumGoroutine",a.length.ble fn.ntmps)=(some fn,some (fn.body.get!),false,true):=by kernel_rfl):OK o f a l e l':=by injection hk with h1 hk;injection hk with h2 hk;injection hk with h3 h6;exact⟨λG hw r hr=>Yq 1000 fr fn.ntmps h1 h2 h3 rfl rfl (IZ h6) λC x hG hwf=>h G hw r hr C x hG hwf ⟨⟩⟩
theorem rk{α:Type}{o:Option α}{f:Nat}{a:List D}{l:List Ob}{e:α->D}{l':α->List Ob}(fn:Func)(h:∀G,GW G->∀r,o=some r->∀(C:Cx)x,C.G=G->WfL Tryz.prog a->Fn f->run Tryz.prog (C.sub 0 x) (JM Tryz.prog fn.results.toList [] l.length (Eqs (e r) (l' r))) 1000 [.code (fn.body.get!)] (st0 a l fn.ntmps))(hk:(Tryz.prog.funcs[f]?,fn.body,fn.name== "runtime.NumGoroutine",a.length.ble fn.ntmps)=(some fn,some (fn.body.get!),false,true):=by kernel_rfl):OK o f a l e l':=
 rq fn [] h hk
attribute [go_sem] List.toList_toArray
theorem dc{C:Cx}{R:St->Prop}{k:List It}{st:St}{l:List Oper}(f id:Nat)(hf:Fn f)(b:Nat)(aux:List (Nat×Nat×List (List Nat)))(h:dr Tryz.prog C ⟨l⟩ st.k (Xap b 0 l aux) st λst'=>run Tryz.prog C R 1000 k ⟨st'.t,st'.s,st'.n,st.k+(Xap b 0 l aux).length⟩){t:Prf (⟨l⟩:Array Oper)}(ho:(Xap b 0 l aux).map (·.o)=l:=by rfl)(hi:(Xap b 0 l aux).map (·.i)=List.range (Xap b 0 l aux).length:=by rfl)(hc:Xlx (Xap b 0 l aux)=true:=by kernel_rfl)(hrd:C.rd=none:=by rfl):DrawnG Tryz.prog C R id ⟨l⟩ k st t:=
 db f id hf b aux ho hi hc h t hrd
end Go.Sx
