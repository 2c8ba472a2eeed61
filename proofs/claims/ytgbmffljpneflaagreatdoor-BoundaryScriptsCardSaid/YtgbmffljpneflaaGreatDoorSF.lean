import Derived.Test.YtgbmffljpneflaaGreatDoorProg
import Derived.Test.YtgbmffljpneflaaGreatDoorSR
import Derived.Test.YtgbmffljpneflaaGreatDoorSI
set_option linter.all false
namespace Go.Sx
open Go.Proofs
theorem ty3:Xt Tryz.prog 3=some ⟨1,8,(.int .i64 0),.int .i64⟩:=ac
theorem Xh8:Tryz.prog.bytesOf 3=8:=ac
theorem ty4:Xt Tryz.prog 4=some ⟨1,1,(.bool false),.bool⟩:=ac
theorem Xqs:Tryz.prog.bytesOf 4=1:=ac
theorem ty9:Xt Tryz.prog 9=some ⟨1,16,(.string (ByteArray.mk #[])),.str⟩:=ac
theorem Xs4:Xt Tryz.prog 23=some ⟨2,16,(.agg #[(.int .i64 0),(.int .i64 0)]),.struct [(0,1,3),(1,1,3)]⟩:=ac
theorem XoP:Tryz.prog.bytesOf 23=16:=ac
theorem Xqt:Yf Tryz.prog 23=some [some .i64,some .i64]:=ac
theorem Xs5:Xt Tryz.prog 24=some ⟨1,24,(.slice none 0 0),.slice 39 1⟩:=ac
theorem XoQ:Tryz.prog.bytesOf 24=24:=ac
theorem Xs6:Xt Tryz.prog 25=some ⟨1,24,(.slice none 0 0),.slice 114 4⟩:=ac
theorem Xs7:Xt Tryz.prog 27=some ⟨6,80,(.agg #[(.int .i64 0),(.int .i64 0),(.slice none 0 0),(.slice none 0 0),(.int .i64 0),(.int .i64 0)]),.struct [(0,2,23),(2,1,24),(3,1,25),(4,1,3),(5,1,3)]⟩:=ac
theorem XoR:Tryz.prog.bytesOf 27=80:=ac
theorem Xs8:Xt Tryz.prog 28=some ⟨1,24,(.slice none 0 0),.slice 72 3⟩:=ac
theorem Xs9:Xt Tryz.prog 29=some ⟨1,24,(.slice none 0 0),.slice 78 3⟩:=ac
theorem XrC:Xt Tryz.prog 30=some ⟨1,24,(.slice none 0 0),.slice 3 1⟩:=ac
theorem Xta:Xt Tryz.prog 32=some ⟨3,72,(.agg #[(.slice none 0 0),(.slice none 0 0),(.slice none 0 0)]),.struct [(0,1,28),(1,1,29),(2,1,30)]⟩:=ac
theorem XoS:Tryz.prog.bytesOf 32=72:=ac
theorem Xtb:Xt Tryz.prog 33=some ⟨1,24,(.slice none 0 0),.slice 74 3⟩:=ac
theorem Xtc:Xt Tryz.prog 35=some ⟨1,24,(.agg #[(.slice none 0 0)]),.struct [(0,1,33)]⟩:=ac
theorem XoT:Tryz.prog.bytesOf 35=24:=ac
theorem Xtd:Xt Tryz.prog 36=some ⟨1,24,(.slice none 0 0),.slice 76 2⟩:=ac
theorem Xte:Xt Tryz.prog 38=some ⟨13,248,(.agg #[(.int .i64 0),(.int .i64 0),(.slice none 0 0),(.slice none 0 0),(.int .i64 0),(.int .i64 0),(.slice none 0 0),(.slice none 0 0),(.slice none 0 0),(.slice none 0 0),(.slice none 0 0),(.slice none 0 0),(.slice none 0 0)]),.struct [(0,6,27),(6,3,32),(9,1,35),(10,1,35),(11,1,36),(12,1,24)]⟩:=ac
theorem XoU:Tryz.prog.bytesOf 38=248:=ac
theorem Xtf:Xt Tryz.prog 39=some ⟨1,8,(.int .u64 0),.int .u64⟩:=ac
theorem Xi9:Tryz.prog.bytesOf 39=8:=ac
theorem Xtg:Xt Tryz.prog 40=some ⟨1,24,(.slice none 0 0),.slice 177 4⟩:=ac
theorem Xth:Xt Tryz.prog 41=some ⟨1,24,(.slice none 0 0),.slice 248 3⟩:=ac
theorem Xti:Xt Tryz.prog 43=some ⟨10,208,(.agg #[(.int .i64 0),(.int .i64 0),(.slice none 0 0),(.slice none 0 0),(.slice none 0 0),(.slice none 0 0),(.slice none 0 0),(.slice none 0 0),(.slice none 0 0),(.slice none 0 0)]),.struct [(0,2,23),(2,1,40),(3,3,32),(6,1,35),(7,1,35),(8,1,41),(9,1,24)]⟩:=ac
theorem XoV:Tryz.prog.bytesOf 43=208:=ac
theorem Xtj:Xt Tryz.prog 45=some ⟨24,480,(.agg #[(.int .i64 0),(.int .i64 0),(.slice none 0 0),(.slice none 0 0),(.int .i64 0),(.int .i64 0),(.slice none 0 0),(.slice none 0 0),(.slice none 0 0),(.slice none 0 0),(.slice none 0 0),(.slice none 0 0),(.slice none 0 0),(.int .i64 0),(.int .i64 0),(.slice none 0 0),(.slice none 0 0),(.slice none 0 0),(.slice none 0 0),(.slice none 0 0),(.slice none 0 0),(.slice none 0 0),(.slice none 0 0),(.slice none 0 0)]),.struct [(0,13,38),(13,10,43),(23,1,24)]⟩:=ac
theorem XoW:Tryz.prog.bytesOf 45=480:=ac
theorem Xtk:Xt Tryz.prog 49=some ⟨2,32,(.agg #[(.slice none 0 0),(.int .i64 0)]),.struct [(0,1,30),(1,1,3)]⟩:=ac
theorem XoX:Tryz.prog.bytesOf 49=32:=ac
theorem Xtl:Xt Tryz.prog 51=some ⟨1,24,(.slice none 0 0),.slice 38 13⟩:=ac
theorem Xtm:Xt Tryz.prog 54=some ⟨4,32,(.agg #[(.int .i64 0),(.int .u64 0),(.int .u64 0),(.int .u64 0)]),.struct [(0,1,3),(1,1,39),(2,1,39),(3,1,39)]⟩:=ac
theorem XoY:Tryz.prog.bytesOf 54=32:=ac
theorem Xtn:Xt Tryz.prog 55=some ⟨1,24,(.slice none 0 0),.slice 54 4⟩:=ac
theorem Xto:Xt Tryz.prog 57=some ⟨1,8,(.int .i64 0),.int .i64⟩:=ac
theorem Xtp:Xt Tryz.prog 69=some ⟨8,128,(.agg #[(.int .i64 0),(.int .i64 0),(.slice none 0 0),(.slice none 0 0),(.int .i64 0),(.int .i64 0),(.slice none 0 0),(.slice none 0 0)]),.struct [(0,6,27),(6,1,24),(7,1,24)]⟩:=ac
theorem XoZ:Tryz.prog.bytesOf 69=128:=ac
theorem Xtq:Xt Tryz.prog 72=some ⟨3,24,(.agg #[(.int .i64 0),(.int .u64 0),(.bool false)]),.struct [(0,1,3),(1,1,39),(2,1,4)]⟩:=ac
theorem Xja:Tryz.prog.bytesOf 72=24:=ac
theorem Xqu:Yf Tryz.prog 72=some [some .i64,some .u64,none]:=ac
theorem Xtr:Xt Tryz.prog 74=some ⟨3,24,(.agg #[(.int .i64 0),(.int .u64 0),(.bool false)]),.struct [(0,1,3),(1,1,39),(2,1,4)]⟩:=ac
theorem Xjb:Tryz.prog.bytesOf 74=24:=ac
theorem Xqv:Yf Tryz.prog 74=some [some .i64,some .u64,none]:=ac
theorem Xts:Xt Tryz.prog 76=some ⟨2,16,(.agg #[(.int .u64 0),(.int .i64 0)]),.struct [(0,1,39),(1,1,3)]⟩:=ac
theorem Xjc:Tryz.prog.bytesOf 76=16:=ac
theorem Xqw:Yf Tryz.prog 76=some [some .u64,some .i64]:=ac
theorem Xtt:Xt Tryz.prog 78=some ⟨3,24,(.agg #[(.int .i64 0),(.int .i64 0),(.bool false)]),.struct [(0,1,3),(1,1,3),(2,1,4)]⟩:=ac
theorem Xjd:Tryz.prog.bytesOf 78=24:=ac
theorem Xqx:Yf Tryz.prog 78=some [some .i64,some .i64,none]:=ac
theorem Xtu:Xt Tryz.prog 80=some ⟨1,8,(.int .u64 0),.int .u64⟩:=ac
theorem Xtv:Xt Tryz.prog 85=some ⟨16,272,(.agg #[(.int .i64 0),(.int .i64 0),(.slice none 0 0),(.slice none 0 0),(.int .i64 0),(.int .i64 0),(.slice none 0 0),(.slice none 0 0),(.slice none 0 0),(.slice none 0 0),(.slice none 0 0),(.slice none 0 0),(.slice none 0 0),(.int .u64 0),(.int .u64 0),(.int .u64 0)]),.struct [(0,13,38),(13,1,39),(14,1,39),(15,1,39)]⟩:=ac
theorem Xtw:Xt Tryz.prog 87=some ⟨1,8,.nilFunc,.other⟩:=ac
theorem Xtx:Xt Tryz.prog 88=some ⟨21,168,(.agg #[.nilFunc,.nilFunc,.nilFunc,.nilFunc,.nilFunc,.nilFunc,.nilFunc,.nilFunc,.nilFunc,.nilFunc,.nilFunc,.nilFunc,.nilFunc,.nilFunc,.nilFunc,.nilFunc,.nilFunc,.nilFunc,.nilFunc,.nilFunc,.nilFunc]),.array 21 87 1⟩:=ac
theorem XrD:Xt Tryz.prog 104=some ⟨6,48,(.agg #[(.int .i64 0),(.int .i64 0),(.int .i64 0),(.int .i64 0),(.int .i64 0),(.int .i64 0)]),.struct [(0,1,3),(1,1,3),(2,1,3),(3,1,3),(4,1,3),(5,1,3)]⟩:=ac
theorem XmK:Tryz.prog.bytesOf 104=48:=ac
theorem XrE:Xt Tryz.prog 109=some ⟨3,16,(.agg #[(.bool false),(.bool false),(.int .u64 0)]),.struct [(0,1,4),(1,1,4),(2,1,39)]⟩:=ac
theorem XmL:Tryz.prog.bytesOf 109=16:=ac
theorem XrF:Xt Tryz.prog 114=some ⟨4,32,(.agg #[(.int .i64 0),(.int .i64 0),(.int .i64 0),(.int .i64 0)]),.struct [(0,1,3),(1,1,3),(2,1,3),(3,1,3)]⟩:=ac
theorem Xg1:Tryz.prog.bytesOf 114=32:=ac
theorem Xo0:Yf Tryz.prog 114=some [some .i64,some .i64,some .i64,some .i64]:=ac
theorem XrG:Xt Tryz.prog 129=some ⟨1,4,(.int .u32 0),.int .u32⟩:=ac
theorem XrH:Xt Tryz.prog 131=some ⟨3,24,(.agg #[(.int .i64 0),(.int .i64 0),(.int .u32 0)]),.struct [(0,1,3),(1,1,3),(2,1,129)]⟩:=ac
theorem XmM:Tryz.prog.bytesOf 131=24:=ac
theorem Xo1:Yf Tryz.prog 131=some [some .i64,some .i64,some .u32]:=ac
theorem XrI:Xt Tryz.prog 151=some ⟨3,24,(.agg #[(.int .i64 0),(.int .i64 0),(.int .i64 0)]),.struct [(0,1,3),(1,1,3),(2,1,3)]⟩:=ac
theorem XmN:Tryz.prog.bytesOf 151=24:=ac
theorem XrJ:Xt Tryz.prog 172=some ⟨1,24,(.slice none 0 0),.slice 4 1⟩:=ac
theorem XrK:Xt Tryz.prog 177=some ⟨4,48,(.agg #[(.int .i64 0),(.int .i64 0),(.int .u32 0),(.slice none 0 0)]),.struct [(0,3,131),(3,1,24)]⟩:=ac
theorem XmO:Tryz.prog.bytesOf 177=48:=ac
theorem XrL:Xt Tryz.prog 185=some ⟨1,24,(.slice none 0 0),.slice 76 2⟩:=ac
theorem XrM:Xt Tryz.prog 188=some ⟨3,72,(.agg #[(.slice none 0 0),(.slice none 0 0),(.slice none 0 0)]),.struct [(0,3,32)]⟩:=ac
theorem XmP:Tryz.prog.bytesOf 188=72:=ac
theorem XrN:Xt Tryz.prog 200=some ⟨1,24,(.slice none 0 0),.slice 24 1⟩:=ac
theorem XrO:Xt Tryz.prog 237=some ⟨16,208,(.agg #[(.int .i64 0),(.int .i64 0),(.slice none 0 0),(.slice none 0 0),(.int .i64 0),(.int .i64 0),(.slice none 0 0),(.slice none 0 0),(.slice none 0 0),(.int .i64 0),(.int .i64 0),(.int .i64 0),(.int .i64 0),(.int .i64 0),(.int .i64 0),(.int .i64 0)]),.struct [(0,6,27),(6,1,24),(7,1,30),(8,1,24),(9,1,3),(10,6,104)]⟩:=ac
theorem XmQ:Tryz.prog.bytesOf 237=208:=ac
theorem XrP:Xt Tryz.prog 248=some ⟨3,24,(.agg #[(.int .u64 0),(.int .i64 0),(.int .u64 0)]),.struct [(0,1,39),(1,1,3),(2,1,39)]⟩:=ac
theorem XmR:Tryz.prog.bytesOf 248=24:=ac
theorem XrQ:Xt Tryz.prog 257=some ⟨3,24,(.agg #[(.int .i64 0),(.int .i64 0),(.int .u64 0)]),.struct [(0,1,3),(1,1,3),(2,1,39)]⟩:=ac
theorem XmS:Tryz.prog.bytesOf 257=24:=ac
theorem Xo2:Yf Tryz.prog 257=some [some .i64,some .i64,some .u64]:=ac
theorem XrR:Xt Tryz.prog 266=some ⟨1,24,(.slice none 0 0),.slice 272 4⟩:=ac
theorem XrS:Xt Tryz.prog 272=some ⟨4,32,(.agg #[(.int .u64 0),(.int .i64 0),(.int .i64 0),(.int .u32 0)]),.struct [(0,1,39),(1,3,131)]⟩:=ac
theorem XmT:Tryz.prog.bytesOf 272=32:=ac
theorem XrT:Xt Tryz.prog 281=some ⟨3,24,(.agg #[(.int .i64 0),(.int .i64 0),(.int .u64 0)]),.struct [(0,1,3),(1,1,3),(2,1,39)]⟩:=ac
theorem XmU:Tryz.prog.bytesOf 281=24:=ac
theorem Xo3:Yf Tryz.prog 281=some [some .i64,some .i64,some .u64]:=ac
theorem XrU:Xt Tryz.prog 308=some ⟨1,24,(.slice none 0 0),.slice 311 2⟩:=ac
theorem XrV:Xt Tryz.prog 309=some ⟨3,24,(.agg #[(.int .i64 0),(.int .i64 0),(.int .i64 0)]),.array 3 3 1⟩:=ac
theorem XrW:Xt Tryz.prog 311=some ⟨2,16,(.agg #[(.int .i64 0),(.int .u64 0)]),.struct [(0,1,3),(1,1,39)]⟩:=ac
theorem XmV:Tryz.prog.bytesOf 311=16:=ac
theorem XrX:Xt Tryz.prog 337=some ⟨2,16,(.agg #[(.int .i64 0),(.int .i64 0)]),.struct [(0,1,3),(1,1,3)]⟩:=ac
theorem XmW:Tryz.prog.bytesOf 337=16:=ac
theorem XrY:Xt Tryz.prog 342=some ⟨3,24,(.agg #[(.int .i64 0),(.int .i64 0),(.int .i64 0)]),.array 3 57 1⟩:=ac
theorem Xo4:Yf Tryz.prog 342=some [some .i64,some .i64,some .i64]:=ac
theorem XrZ:Xt Tryz.prog 349=some ⟨1,24,(.slice none 0 0),.slice 352 2⟩:=ac
theorem Xr0:Xt Tryz.prog 352=some ⟨2,16,(.agg #[(.int .i64 0),(.int .i64 0)]),.struct [(0,1,3),(1,1,3)]⟩:=ac
theorem XmX:Tryz.prog.bytesOf 352=16:=ac
theorem Xr1:Xt Tryz.prog 355=some ⟨1,8,.nilFunc,.other⟩:=ac
theorem Xr2:Xt Tryz.prog 356=some ⟨4,32,(.agg #[(.int .i64 0),(.int .i64 0),(.int .i64 0),(.int .i64 0)]),.struct [(0,1,3),(1,1,3),(2,1,3),(3,1,3)]⟩:=ac
theorem XmY:Tryz.prog.bytesOf 356=32:=ac
theorem Xo5:Yf Tryz.prog 356=some [some .i64,some .i64,some .i64,some .i64]:=ac
theorem Xr3:Xt Tryz.prog 357=some ⟨3,24,(.agg #[.nilFunc,.nilFunc,.nilFunc]),.array 3 355 1⟩:=ac
theorem Xr4:Xt Tryz.prog 364=some ⟨1,8,(.agg #[(.int .i64 0)]),.struct [(0,1,3)]⟩:=ac
theorem Xr5:Xt Tryz.prog 366=some ⟨1,8,(.agg #[(.int .i64 0)]),.struct [(0,1,3)]⟩:=ac
theorem Xr6:Xt Tryz.prog 369=some ⟨1,8,(.agg #[(.int .i64 0)]),.struct [(0,1,57)]⟩:=ac
theorem Xr7:Xt Tryz.prog 371=some ⟨16,208,(.agg #[(.int .i64 0),(.int .i64 0),(.slice none 0 0),(.slice none 0 0),(.int .i64 0),(.int .i64 0),(.slice none 0 0),(.slice none 0 0),(.slice none 0 0),(.int .i64 0),(.int .i64 0),(.int .i64 0),(.int .i64 0),(.int .i64 0),(.int .i64 0),(.int .i64 0)]),.struct [(0,6,27),(6,1,24),(7,1,30),(8,1,24),(9,1,3),(10,6,104)]⟩:=ac
theorem XmZ:Tryz.prog.bytesOf 371=208:=ac
theorem Xr8:Xt Tryz.prog 384=some ⟨1,8,(.pointer none),.other⟩:=ac
theorem Xr9:Xt Tryz.prog 385=some ⟨16,208,(.agg #[(.int .i64 0),(.int .i64 0),(.slice none 0 0),(.slice none 0 0),(.int .i64 0),(.int .i64 0),(.slice none 0 0),(.slice none 0 0),(.slice none 0 0),(.int .i64 0),(.int .i64 0),(.int .i64 0),(.int .i64 0),(.int .i64 0),(.int .i64 0),(.int .i64 0)]),.struct [(0,6,27),(6,1,24),(7,1,30),(8,1,24),(9,1,3),(10,6,104)]⟩:=ac
theorem Xsa:Xt Tryz.prog 399=some ⟨2,32,(.agg #[(.pointer none),(.slice none 0 0)]),.struct [(0,1,384),(1,1,24)]⟩:=ac
attribute [go_sem] ty3 ty4 ty9 Xs4 Xqt Xs5 Xs6 Xs7 Xs8 Xs9 XrC Xta Xtb Xtc Xtd Xte Xtf Xtg Xth Xti Xtj Xtk Xtl Xtm Xtn Xto Xtp Xtq Xqu Xtr Xqv Xts Xqw Xtt Xqx Xtu Xtv Xtw Xtx XrD XrE XrF Xo0 XrG XrH Xo1 XrI XrJ XrK XrL XrM XrN XrO XrP XrQ Xo2 XrR XrS XrT Xo3 XrU XrV XrW XrX XrY Xo4 XrZ Xr0 Xr1 Xr2 Xo5 Xr3 Xr4 Xr5 Xr6 Xr7 Xr8 Xr9 Xsa
attribute [go_sem] zWd zHp
def e3(x:Int):List D:=[.v (.int .i64 x)]
def e49(x:Ig):List D:=[.isl 3 1 (x.L.map e3),.v (.int .i64 x.at_)]
def e39(x:Int):List D:=[.v (.int .u64 x)]
def XW(x:Wv):List D:=[.v (.int .i64 x.k),.v (.int .i64 x.s),.v (.int .i64 x.u),.v (.int .i64 x.P)]
def e72(x:UA):List D:=[.v (.int .i64 x.J),.v (.int .u64 x.a),.v (.bool x.V)]
def e78(x:UG):List D:=[.v (.int .i64 x.O),.v (.int .i64 x.C0),.v (.bool x.B0)]
def e74(x:WQ):List D:=[.v (.int .i64 x.G),.v (.int .u64 x.a),.v (.bool x.V)]
def e76(x:Uz):List D:=[.v (.int .u64 x.a),.v (.int .i64 x.M)]
def XbM(x:Ii):List D:=[.v (.int .i64 x.H.k),.v (.int .i64 x.H.n),.v (.int .u32 x.H.Map),.isl 39 1 (x.D.map e39)]
def XdL(x:Is):List D:=[.v (.int .u64 x.I),.v (.int .i64 x.M),.v (.int .u64 x.B0)]
def e45(x:Ik):List D:=[.v (.int .i64 x.N.h.c.W),.v (.int .i64 x.N.h.c.p),.isl 39 1 (x.N.h.w.map e39),.isl 114 4 (x.N.h.p.map XW),.v (.int .i64 x.N.h.s),.v (.int .i64 x.N.h.b),.isl 72 3 (x.N.l.S.map e72),.isl 78 3 (x.N.l.x.map e78),.isl 3 1 (x.N.l.i.map e3),.isl 74 3 (x.N.g.e.map e74),.isl 74 3 (x.N.v.e.map e74),.isl 76 2 (x.N.P.map e76),.isl 39 1 (x.N.R.map e39),.v (.int .i64 x.z.c.W),.v (.int .i64 x.z.c.p),.isl 177 4 (x.z.T.map XbM),.isl 72 3 (x.z.l.S.map e72),.isl 78 3 (x.z.l.x.map e78),.isl 3 1 (x.z.l.i.map e3),.isl 74 3 (x.z.g.e.map e74),.isl 74 3 (x.z.v.e.map e74),.isl 248 3 (x.z.m.map XdL),.isl 39 1 (x.z.R.map e39),.isl 39 1 (x.w.map e39)]
def e54(x:Ol):List D:=[.v (.int .i64 x.Op),.v (.int .u64 x.A),.v (.int .u64 x.B),.v (.int .u64 x.C)]
def e23(x:WV):List D:=[.v (.int .i64 x.W),.v (.int .i64 x.p)]
def e27(x:Wo):List D:=[.v (.int .i64 x.c.W),.v (.int .i64 x.c.p),.isl 39 1 (x.w.map e39),.isl 114 4 (x.p.map XW),.v (.int .i64 x.s),.v (.int .i64 x.b)]
def e38(x:WI):List D:=[.v (.int .i64 x.h.c.W),.v (.int .i64 x.h.c.p),.isl 39 1 (x.h.w.map e39),.isl 114 4 (x.h.p.map XW),.v (.int .i64 x.h.s),.v (.int .i64 x.h.b),.isl 72 3 (x.l.S.map e72),.isl 78 3 (x.l.x.map e78),.isl 3 1 (x.l.i.map e3),.isl 74 3 (x.g.e.map e74),.isl 74 3 (x.v.e.map e74),.isl 76 2 (x.P.map e76),.isl 39 1 (x.R.map e39)]
def e43(x:WU):List D:=[.v (.int .i64 x.c.W),.v (.int .i64 x.c.p),.isl 177 4 (x.T.map XbM),.isl 72 3 (x.l.S.map e72),.isl 78 3 (x.l.x.map e78),.isl 3 1 (x.l.i.map e3),.isl 74 3 (x.g.e.map e74),.isl 74 3 (x.v.e.map e74),.isl 248 3 (x.m.map XdL),.isl 39 1 (x.R.map e39)]
def ZM(x:WC):List D:=[.v (.int .i64 x.k),.v (.int .i64 x.n),.v (.int .u32 x.Map)]
def e4(x:Bool):List D:=[.v (.bool x)]
def Xo6(x:Ud):List D:=[.v (.int .i64 x.Fault),.v (.int .i64 x.Page),.v (.int .u64 x.Addr)]
def e32(x:Wm):List D:=[.isl 72 3 (x.S.map e72),.isl 78 3 (x.x.map e78),.isl 3 1 (x.i.map e3)]
def e35(x:Wr):List D:=[.isl 74 3 (x.e.map e74)]
def Jo(x:WD):List D:=[.v (.int .i64 x.h.c.W),.v (.int .i64 x.h.c.p),.isl 39 1 (x.h.w.map e39),.isl 114 4 (x.h.p.map XW),.v (.int .i64 x.h.s),.v (.int .i64 x.h.b),.isl 39 1 (x.o.map e39),.isl 3 1 (x.t.map e3),.isl 39 1 (x.q.map e39),.v (.int .i64 x.d),.v (.int .i64 x.r.j),.v (.int .i64 x.r.K),.v (.int .i64 x.r.F),.v (.int .i64 x.r.E),.v (.int .i64 x.r.f),.v (.int .i64 x.r.y)]
def Xkg(x:Oj):List D:=[.v (.int .i64 x.O),.v (.int .i64 x.Len)]
def Xg2(x:WP):List D:=[.v (.int .i64 x.j),.v (.int .i64 x.K),.v (.int .i64 x.F),.v (.int .i64 x.E),.v (.int .i64 x.f),.v (.int .i64 x.y)]
def Xh9(x:UM):List D:=[.v (.int .i64 x.Tag),.v (.int .i64 x.Index),.v (.int .i64 x.J)]
def Xqy(x:Oo):List D:=[.v (.bool x.Failed),.v (.bool x.Collected),.v (.int .u64 x.B0)]
def e69(x:OE):List D:=[.v (.int .i64 x.h.c.W),.v (.int .i64 x.h.c.p),.isl 39 1 (x.h.w.map e39),.isl 114 4 (x.h.p.map XW),.v (.int .i64 x.h.s),.v (.int .i64 x.h.b),.isl 39 1 (x.Strong.map e39),.isl 39 1 (x.Weak.map e39)]
def Xg3(x:Wv):List D:=[.v (.int .i64 x.k),.v (.int .i64 x.s),.v (.int .i64 x.u),.v (.int .i64 x.P)]
def VQ(x:UN):List D:=[.v (.int .u64 x.addr),.v (.int .i64 x.hd.k),.v (.int .i64 x.hd.n),.v (.int .u32 x.hd.Map)]
def Xo7(x:Ud):List D:=[.v (.int .i64 x.Fault),.v (.int .i64 x.Page),.v (.int .u64 x.Addr)]
def Xm0(x:I7):List D:=[.isl 72 3 (x.l.S.map e72),.isl 78 3 (x.l.x.map e78),.isl 3 1 (x.l.i.map e3)]
def e24(x:List Int):List D:=[.isl 39 1 (x.map e39)]
def Xsb(x:IW):List D:=[.v (.int .i64 x.page),.v (.int .i64 x.offset)]
def Xqz(x:UB):List D:=[.v (.int .i64 x.Width),.v (.int .u64 x.Value)]
def Xfu(x:WD):List D:=[.v (.int .i64 x.h.c.W),.v (.int .i64 x.h.c.p),.isl 39 1 (x.h.w.map e39),.isl 114 4 (x.h.p.map XW),.v (.int .i64 x.h.s),.v (.int .i64 x.h.b),.isl 39 1 (x.o.map e39),.isl 3 1 (x.t.map e3),.isl 39 1 (x.q.map e39),.v (.int .i64 x.d),.v (.int .i64 x.r.j),.v (.int .i64 x.r.K),.v (.int .i64 x.r.F),.v (.int .i64 x.r.E),.v (.int .i64 x.r.f),.v (.int .i64 x.r.y)]
attribute [go_sem] e3 e49 e39 XW e72 e78 e74 e76 XbM XdL e45 e54 e23 e27 e38 e43 ZM e4 Xo6 e32 e35 Jo Xkg Xg2 Xh9 Xqy e69 Xg3 VQ Xo7 Xm0 e24 Xsb Xqz Xfu Xh8 XoX Xi9 Xg1 Xja Xjd Xjb Xjc XmO XmR XoW XoY XoP XoR XoU XoV XmM Xqs XmU XoS XoT XmQ XmX XmK XmN XmL XoZ XmY XmT XmS XmP XoQ XmW XmV XmZ
theorem Xsc:Go.Proofs.Tryz.prog.follows .mixedOrders=true:=ac
def GW(G:Nat->Option (List D)):Prop:=G 0=some [.v (.int .i64 2),.v (.int .i64 16),.v (.int .i64 32)]/\∀f,G (roK f)=if f=365 then some []else none
open Go.Proofs
theorem E:True:=trivial
theorem hd:True:=trivial
theorem EF:True:=trivial
theorem hx3:True:=trivial
theorem hl3:True:=trivial
theorem hm3:True:=trivial
theorem hl4:True:=trivial
theorem hm4:True:=trivial
theorem Xo8:True:=trivial
theorem Xsd:True:=trivial
theorem Xw:True:=trivial
theorem Yv:True:=trivial
theorem Yw:True:=trivial
theorem Vh:True:=trivial
theorem XqA:True:=trivial
theorem YJ:True:=trivial
theorem Vi:True:=trivial
theorem ZH:True:=trivial
theorem Xse:True:=trivial
theorem Kf:True:=trivial
theorem Xsf:True:=trivial
theorem Xk:True:=trivial
theorem XU:True:=trivial
theorem KB:True:=trivial
theorem KJ:True:=trivial
theorem Xbk:True:=trivial
theorem Xm1:True:=trivial
theorem XeB:True:=trivial
theorem Fq:True:=trivial
theorem hK:True:=trivial
theorem Xty{α:Type}{G:Prop}{a c:Int}{x y:Option α}{r:α}(h:(bif (a==c)then x else y)=some r)(f:a=c->x=some r->G)(g:¬a=c->y=some r->G):G:=by
 by_cases e:a=c
 .rw[beq_iff_eq.2 e]at h;exact f e h
 rw[WX.2 e]at h;exact g e h
attribute [go_sem] Option.get!
structure Fn(n:Nat):Prop where
class OK{α:Type}(o:Option α)(f:outParam Nat)(a:outParam (List D))(l:outParam (List Ob))(e:outParam (α->D))(l':outParam (α->List Ob)):Prop where
 h:∀G,GW G->∀r,o=some r->YP Tryz.prog G f a l (Eqs (e r) (l' r))
section
variable {α β:Type}{o:Option α}{k:α->Option β}{f:Nat}{a args:List D}{l:List Ob}{e:α->D}{l':α->List Ob}{G:Nat->Option (List D)}{r:β}{K:D->List Ob->Prop}
theorem OK.c[h:OK o f a l e l'](hr:bnd o k=some r)(hw:GW G)(hf:ZU args a)(hK:∀y,k y=some r->K (e y) (l' y))(t:Prf args):CallG Tryz.prog G f args l K t:=
 Xag hr λy hy hr=>CallG.ofE (h.h G hw y hy) hf (hK y hr) t
theorem IK[h:OK o f a l e l'](hr:bnd o k=some r)(hw:GW G)(hf:ZU args a)(hK:∀y,k y=some r->K (e y) (l' y))(t:Prf args):CallD Tryz.prog G f args l K t:=
 Xag hr λy hy hr=>CallD.ofE (h.h G hw y hy) hf (hK y hr) t
theorem rn(fn:Func)(rs:List ResultVar)(fr:List Nat)(nt:Nat)(hk:(Tryz.prog.funcs[f]?,fn.body,fn.name== "runtime.NumGoroutine",fn.results,fn.ntmps,a.length.ble nt)=(some fn,some (fn.body.get!),false,⟨rs⟩,nt,true))(h:∀G,GW G->∀r,o=some r->∀(C:Cx)x,C.G=G->WfL Tryz.prog a->Fn f->run Tryz.prog (C.sub 0 x) (JA Tryz.prog rs fr l.length (Eqs (e r) (l' r))) 1000 [.code (fn.body.get!)] (st0 a l nt)):OK o f a l e l':=by injection hk with h1 hk;injection hk with h2 hk;injection hk with h3 hk;injection hk with h4 hk;injection hk with h5 h6;exact⟨λG hw r hr=>Yl 1000 fr nt h1 h2 h3 h4 h5 (IU h6) λC x hG hwf=>h G hw r hr C x hG hwf ⟨⟩⟩
end
def bm(b n:Nat):List Nat:=((List.range (n.log2+1)).filter λi=>n / 2 ^ i % 2==1).map λi=>i+b
theorem XqB{b n x:Nat}:(bm b n).contains x=(decide (b<=x)&&n / 2 ^ (x-b) % 2==1):=by
 rw[Bool.eq_iff_iff,IV,bm,UJ];simp only[Ux,List.mem_range,beq_iff_eq,W7,decide_eq_true_eq];constructor
 .rintro⟨i,⟨h1,h2⟩,rfl⟩;rw[Iq];exact⟨Nat.le_add_left _ _,h2⟩
 rintro⟨h1,h3⟩;refine⟨x-b,⟨?_,h3⟩,Nat.sub_add_cancel h1⟩;have hp:0<n / 2 ^ (x-b):=by
  rcases Ub (n / 2 ^ (x-b))with h|h
  .rw[h]at h3;cases h3
  exact h
 have hle:2 ^ (x-b)<=n:=by
  rcases Un n (2 ^ (x-b))with h|h
  .rw[Nat.div_eq_of_lt h]at hp;cases hp
  exact h
 have hn:n≠0:=by rintro rfl;have:=Nat.two_pow_pos (x-b);omega
 exact Nat.lt_succ_of_le ((Nat.le_log2 hn).2 hle)
theorem Xsg{b n x:Nat}{p q:D}:(if(bm b n).contains x=true then p else q)=if x<b then q else if n / 2 ^ (x-b) % 2=1 then p else q:=by
 rw[XqB];by_cases h1:x<b
 .rw[Wp h1,We (Nat.not_le.2 h1),Uu];rfl
 rw[Wk h1,Wd (Nat.not_lt.1 h1),W5];by_cases h3:n / 2 ^ (x-b) % 2=1
 .rw[Wp h3,Wp (beq_iff_eq.2 h3)]
 rw[Wk h3,Wk (λh=>h3 (beq_iff_eq.1 h))]
def Xaf(b:Nat):Nat->List Oper->List (Nat×Nat×List (List Nat))->List En
 |i,o::l,(a,m,[])::x=>⟨i,o,bm 0 a,[],bm b m,[]⟩::Xaf b (i+1) l x
 |i,o::l,(a,m,[w,k])::x=>⟨i,o,bm 0 a,w,bm b m,k⟩::Xaf b (i+1) l x
 |_,[],[]=>[]
 |i,_,_=>[⟨i,⟨none,.assign (.tmp 0),0,"",#[],none⟩,[],[],[],[]⟩]
attribute [go_sem] Xsg Xaf
theorem db{C:Cx}{R:St->Prop}{k:List It}{st:St}{l:List Oper}(f id:Nat)(_:Fn f)(b:Nat)(aux:List (Nat×Nat×List (List Nat)))(ho:(Xaf b 0 l aux).map (·.o)=l)(hi:(Xaf b 0 l aux).map (·.i)=List.range (Xaf b 0 l aux).length)(hc:XkQ (Xaf b 0 l aux)=true)(h:dr Tryz.prog C ⟨l⟩ st.k (Xaf b 0 l aux) st λst'=>run Tryz.prog C R 1000 k ⟨st'.t,st'.s,st'.n,st.k+(Xaf b 0 l aux).length⟩)(t:Prf (⟨l⟩:Array Oper))(hrd:C.rd=none:=by rfl):DrawnG Tryz.prog C R id ⟨l⟩ k st t:=
 DrawnG.of Xsc (Xaf b 0 l aux) 1000 ho hi hc h t hrd
class El{α:Type}(x:Option α)(r:α)(K:outParam (Prop->Prop)):Prop where
 el:∀{G:Prop},x=some r->K G->G
instance{α:Type}{p:Prop}[Decidable p]{x:Option α}{r:α}:El (grd p x) r λG=>x=some r->p->G:=⟨λh k=>XqN h λa b=>k b a⟩
instance{κ α:Type}{k:κ}{f:κ->Option α}{r:α}:El (jn k f) r λG=>f k=some r->G:=⟨λh k=>Xsz h k⟩
instance{α β γ:Type}{b:β}{f:α->Option γ}{k:β->Option γ}{r:γ}:El (exK (.nxt b) f k) r λG=>k b=some r->G:=⟨λh k=>XqO h k⟩
instance{α β γ:Type}{b:α}{f:α->Option γ}{k:β->Option γ}{r:γ}:El (exK (.ret b) f k) r λG=>f b=some r->G:=⟨λh k=>XqP h k⟩
instance{α:Type}{x y:Option α}{r:α}:El (bif true then x else y) r λG=>x=some r->G:=⟨λh k=>k h⟩
instance{α:Type}{x y:Option α}{r:α}:El (bif false then x else y) r λG=>y=some r->G:=⟨λh k=>k h⟩
instance{α:Type}{x y:Option α}{r:α}:El (bif !false then x else y) r λG=>x=some r->G:=⟨λh k=>k h⟩
instance{α:Type}{x y:Option α}{r:α}:El (bif !true then x else y) r λG=>y=some r->G:=⟨λh k=>k h⟩
theorem Xv{α:Type}{G:Prop}{b c:Bool}{x y:Option α}{r:α}(h:(bif b then x else y)=some r)(hb:b=c)(g:(bif c then x else y)=some r->G):G:=g (hb▸h)
theorem Xtz:wI (-1) = -1:=by unfold wI;decide
theorem Xsh:wI 1=1/\wI 2=2/\wI 3=3/\wI 4=4/\wI 5=5/\wI 6=6:=by unfold wI;decide
theorem Xm2{α:Type}{l:List α}{o n:Nat}{i:Int}{b:Prop}{β:Type}{f:α->Option β}{r:β}{p:α}(hr:bnd (KC l o n i) f=some r)(hp:KC l o n i=some p)(k:KC l o n i=some p->o+i.toNat<l.length->(∀(γ:Type)(e:α->List γ),(l.map e).getD (o+i.toNat) []=e p)->f p=some r->b):(0<=i/\i<n)/\b:=
 Xib hr λq hq h1 h2 h3=>by obtain rfl:=WE (hp.symm.trans hq);exact k hq h1 h2 h3
theorem Xpo{α:Type}{l:List α}{o n:Nat}{i:Int}{b:Prop}{β:Type}{f:α->Option β}{r:β}{p:α}(hr:bnd (KC l o n i) f=some r)(hp:KC l o n i=some p)(k:KC l o n i=some p->o+i.toNat<l.length->(∀(γ:Type)(e:α->List γ),(l.map e).getD (o+i.toNat) []=e p)->f p=some r->b):i<n/\b:=
 let ⟨h1,h2⟩:=Xm2 hr hp k;⟨h1.2,h2⟩
abbrev FwH(s:Heap)(wb w1 p wp w3 w4 w5:Nat)(a:WD):Prop:=s 51584=some (w1,.arr false 39 1 (a.h.w.map e39) 0)/\s p=some (wp,.arr false 114 4 (a.h.p.map XW) 0)/\s 52288=some (w3,.arr false 39 1 (a.o.map e39) 0)/\s 52480=some (w4,.arr false 3 1 (a.t.map e3) 0)/\s 52672=some (w5,.arr false 39 1 (a.q.map e39) 0)/\s 51264=some (wb,.arr true 385 16 [[.v (.int .i64 a.h.c.W),.v (.int .i64 a.h.c.p),.osl 51584 w1 1 0 a.h.w.length,.osl p wp 4 0 a.h.p.length,.v (.int .i64 a.h.s),.v (.int .i64 a.h.b),.osl 52288 w3 1 0 a.o.length,.osl 52480 w4 1 0 a.t.length,.osl 52672 w5 1 0 a.q.length,.v (.int .i64 a.d),.v (.int .i64 a.r.j),.v (.int .i64 a.r.K),.v (.int .i64 a.r.F),.v (.int .i64 a.r.E),.v (.int .i64 a.r.f),.v (.int .i64 a.r.y)]] 0)
def Xia(s s':Heap):Heap:=λi=>if i<51264 then s i else s' i
theorem Xy{s s':Heap}{i:Nat}:Xia s s' i=if i<51264 then s i else s' i:=rfl
theorem Xpp{s s':Heap}{A:Prop}{K:Heap->Prop}(hK:A->K (Xia s s'))(h:A)(hl:∀i,i<51264->s' i=s i):K s':=by
 have e:s'=Xia s s':=by
  funext i;rw[Xy];split
  .exact hl i ag
  rfl
 rw[e];exact hK h
theorem Xfv{s s':Heap}{K:Heap->Prop}{A:Nat->Nat->Nat->Nat->Prop}(hK:∀p wp w4 w5,(p=51840\/p=210816)->A p wp w4 w5->K (Xia s s'))(p wp w4 w5:Nat)(hp:p=51840\/p=210816)(h:A p wp w4 w5)(hl:∀i,i<51264->s' i=s i):K s':=Xpp (hK p wp w4 w5 hp) h hl
theorem Zn{G:Nat->Option (List D)}(hw:GW G){f:Nat}{α:Type}{x:Option α}:XeV G f x=if f=365 then none else x:=by
 by_cases h:f=365
 .rw[Wp h];exact XpV ((hw.2 f).trans (Wp h))
 rw[Wk h];exact XpU ((hw.2 f).trans (Wk h))
theorem Xm3{G:Nat->Option (List D)}(b0 b1 b2 b3 b5 b6 b7 b8 b9 b10 b11 b12 b13 b14 b15:D)(sp:Int):YP Tryz.prog G 365 [.ipt 16 [b0,b1,b2,b3,.v (.int .i64 sp),b5,b6,b7,b8,b9,b10,b11,b12,b13,b14,b15] 0] [] (Eqs (.v (.int .i64 (wI (1-sp)))) []):=by
 refine Yl (fn:=Tryz.f365) (body:=(Tryz.f365.body).get!) (rs:=[.tmp 2]) 1000 [] 9 ac ac ac ac ac ab λC _ hG hwf=>?_;subst hG;simp only[Tryz.f365,Option.get!];simp only[go_sem,simprocAttr];with_reducible refine XI ?_
 simp only[go_sem,simprocAttr]
theorem Xcn{C:Cx}{s:Heap}{id v T:Nat}{a0 a1 a2 a3 a5 a6 a7 a8 a9 a10 a11 a12 a13 a14 a15:D}{b0 b1 b2 b3 b5 b6 b7 b8 b9 b10 b11 b12 b13 b14 b15:D}{sp:Int}{c:Prop}{l:List Nat}{K:D->Prop}(hs:s id=some (v,.arr true T 16 [[a0,a1,a2,a3,.v (.int .i64 sp),a5,a6,a7,a8,a9,a10,a11,a12,a13,a14,a15]] 0))(hsn:ZI s [a0,a1,a2,a3,.v (.int .i64 sp),a5,a6,a7,a8,a9,a10,a11,a12,a13,a14,a15]=some (c,[b0,b1,b2,b3,.v (.int .i64 sp),b5,b6,b7,b8,b9,b10,b11,b12,b13,b14,b15],l))(hc:c)(hK:K (.v (.int .i64 (wI (1-sp)))))(t:Prf [D.ept id v 16 0 0]):Xpd Tryz.prog C s 365 [.ept id v 16 0 0] K t:=
 ⟨_,_,Xp3 hs hsn hc rfl,Xm3 b0 b1 b2 b3 b5 b6 b7 b8 b9 b10 b11 b12 b13 b14 b15 sp,⟨_,_,rfl,rfl⟩,λ_ _ h=>h.1▸⟨rfl,hK⟩⟩
def LoS(s' s:Heap):Prop:=∀i,i<51264->s' i=s i
theorem LoS.mk{s' s:Heap}(h:∀i,i<51264->s' i=s i):LoS s' s:=h
theorem Xsi{ws:List Int}{i n X k W:Nat}{v:D}(h:n<=W-X):((List.take i (ws.map e39)++List.take n (List.drop X (ws.map e39)))++List.drop (k+min n (W-X)) (ws.map e39)).set (X+0) (v::List.drop 1 (((List.take i (ws.map e39)++List.take n (List.drop X (ws.map e39)))++List.drop (k+min n (W-X)) (ws.map e39)).getD (X+0) []))=((List.take i (ws.map e39)++List.take n (List.drop X (ws.map e39)))++List.drop (k+n) (ws.map e39)).set X [v]:=by
 rw[Of h,IM];congr 1;have m:∀x∈(List.take i (ws.map e39)++List.take n (List.drop X (ws.map e39)))++List.drop (k+n) (ws.map e39),List.drop 1 x=[]:=by
  intro x hx;have:x∈ws.map e39:=by
   rcases WG.1 hx with hx|hx
   .rcases WG.1 hx with hx|hx
    .exact WW hx
    exact WS (WW hx)
   exact WS hx
  obtain⟨y,_,rfl⟩:=UJ.1 this;rfl
 rw[Wq];cases e:((List.take i (ws.map e39)++List.take n (List.drop X (ws.map e39)))++List.drop (k+n) (ws.map e39))[X]? with
 |none=>rfl
 |some x=>exact congrArg _ (m x (Ua e))
theorem Vl{i k:Nat}(h:i<51264)(hk:51264<=k):(i=k)=False:=eq_false aa
open Go.Proofs
set_option maxRecDepth 10000
theorem Xg4{α:Type}{e:α->List D}{p:α->Prop}:∀{es:List (List D)},(∀x∈es,∃y,x=e y/\p y)->∃l:List α,es=l.map e/\∀x∈l,p x
 |[],_=>⟨[],rfl,λx h=>by cases h⟩
 |x::es,h=>by obtain⟨y,rfl,hy⟩:=h x ab;obtain⟨l,rfl,hl⟩:=Xg4 (e:=e) (p:=p) (es:=es) λz hz=>h z (Uj _ hz);exact⟨y::l,rfl,λz hz=>by rcases UY.1 hz with rfl|hz;exact hy;exact hl z hz⟩
section
variable {P:Program}{t e:TypeId}{fs:List (Nat×Nat×Nat)}{a b s:Nat}{z:Value}
theorem Xsj(m:Nat)(h:Xt P t=some ⟨a,b,z,.slice e s⟩)(ds:List D):Sh P (m+1) t ds=∃es,ds=[.isl e (P.cellsOf e) es]/\es.length<=Xx/\es.length*P.bytesOf e<=Xx/\∀x∈es,Sh P m e x:=by simp only[Sh,(X3 h).1]
theorem XqC(h:Xt P t=some ⟨a,b,z,.int .i64⟩):∀(m:Nat)(ds:List D),Sh P m t ds->∃n,ds=[.v (.int .i64 n)]/\True
 |0,_,h'=>h'.elim
 |m+1,ds,h'=>by simp only[Sh,XeI h]at h';obtain⟨n,rfl,h1,h2⟩:=h';exact⟨n,rfl,trivial⟩
end
theorem XtA:Tryz.prog.cellsOf 3=1:=ac
theorem Xsk(m:Nat)(x:List D)(h:Sh Tryz.prog m 3 x):∃y:Int,x=e3 y/\True:=by obtain⟨n,rfl,hp⟩:=XqC ty3 m x h;exact⟨n,rfl,trivial⟩
theorem XtC:∀(m:Nat)(ds:List D),Sh Tryz.prog m 30 ds->∃l:List Int,ds=[.isl 3 1 (l.map e3)]/\l.length*8<=Xx/\∀x∈l,(λ_=>True) x
 |0,_,h=>h.elim
 |m+1,ds,h=>by rw[show Sh Tryz.prog (m+1) 30 ds=_ from Xsj m XrC ds]at h;obtain⟨es,rfl,_,hb,hs⟩:=h;obtain⟨l,rfl,hl⟩:=Xg4 (p:=(λ_=>True)) (λx hx=>Xsk m x (hs x hx));exact⟨l,by rw[XtA],by rw[Ug,Xh8]at hb;exact hb,hl⟩
open Go.Proofs
section
variable {α β:Type}{o:Option α}{y:α}{f:Nat}{a args:List D}{l:List Ob}{e:α->D}{l':α->List Ob}{G:Nat->Option (List D)}{K:D->List Ob->Prop}
theorem OK.t[h:OK o f a l e l'](ho:o=some y)(hw:GW G)(hf:ZU args a)(hK:K (e y) (l' y))(t:Prf args):CallG Tryz.prog G f args l K t:=CallG.ofE (h.h G hw y ho) hf hK t
end
open Go.Proofs
abbrev vi(x:Int):D:=.v (.int .i64 x)
abbrev vu(x:Int):D:=.v (.int .u64 x)
abbrev vw(x:Int):D:=.v (.int .u32 x)
abbrev s3(l:List Int):D:=.isl 3 1 (l.map e3)
abbrev s4(l:List Bool):D:=.isl 4 1 (l.map e4)
abbrev s24(l:List (List Int)):D:=.isl 24 1 (l.map e24)
abbrev s39(l:List Int):D:=.isl 39 1 (l.map e39)
abbrev s72(l:List UA):D:=.isl 72 3 (l.map e72)
abbrev s74(l:List WQ):D:=.isl 74 3 (l.map e74)
abbrev s76(l:List Uz):D:=.isl 76 2 (l.map e76)
abbrev s78(l:List UG):D:=.isl 78 3 (l.map e78)
abbrev Ya(l:List Wv):D:=.isl 114 4 (l.map XW)
abbrev XqD(l:List Ii):D:=.isl 177 4 (l.map XbM)
abbrev XqE(l:List Is):D:=.isl 248 3 (l.map XdL)
abbrev Xkh(l:List UN):D:=.isl 272 4 (l.map VQ)
abbrev Xm4(l:List UB):D:=.isl 311 2 (l.map Xqz)
abbrev Xm5(l:List Oj):D:=.isl 352 2 (l.map Xkg)
attribute [go_sem] vi vu vw s3 s4 s24 s39 s72 s74 s76 s78 Ya XqD XqE Xkh Xm4 Xm5
theorem lp{P:Program}{C:Cx}{R:St->Prop}{c:Code}{k:List It}{st:St}{α β:Type}{o:Option α}{f:α->Option β}{r:β}(I:(α->Prop)->Nat->St->Prop)(hr:bnd o f=some r)(n:Nat)(round:∀n st,I (λy=>f y=some r) n st->run P C R 1000 (.code c::.stop (λst'=>∃n',n'<n/\I (λy=>f y=some r) n' st')::k) st)(h0:∀ex,o=some ex->f ex=some r->I (λy=>f y=some r) n st)(t':Prf c):LoopG P C R c k st t':=
 Xlr hr 1000 n h0 round t'
theorem rq{α:Type}{o:Option α}{f:Nat}{a:List D}{l:List Ob}{e:α->D}{l':α->List Ob}(fn:Func)(fr:List Nat)(h:∀G,GW G->∀r,o=some r->∀(C:Cx)x,C.G=G->WfL Tryz.prog a->Fn f->run Tryz.prog (C.sub 0 x) (JA Tryz.prog fn.results.toList fr l.length (Eqs (e r) (l' r))) 1000 [.code (fn.body.get!)] (st0 a l fn.ntmps))(hk:(Tryz.prog.funcs[f]?,fn.body,fn.name== "runtime.NumGoroutine",a.length.ble fn.ntmps)=(some fn,some (fn.body.get!),false,true):=by kernel_rfl):OK o f a l e l':=by injection hk with h1 hk;injection hk with h2 hk;injection hk with h3 h6;exact⟨λG hw r hr=>Yl 1000 fr fn.ntmps h1 h2 h3 rfl rfl (IU h6) λC x hG hwf=>h G hw r hr C x hG hwf ⟨⟩⟩
theorem rk{α:Type}{o:Option α}{f:Nat}{a:List D}{l:List Ob}{e:α->D}{l':α->List Ob}(fn:Func)(h:∀G,GW G->∀r,o=some r->∀(C:Cx)x,C.G=G->WfL Tryz.prog a->Fn f->run Tryz.prog (C.sub 0 x) (JA Tryz.prog fn.results.toList [] l.length (Eqs (e r) (l' r))) 1000 [.code (fn.body.get!)] (st0 a l fn.ntmps))(hk:(Tryz.prog.funcs[f]?,fn.body,fn.name== "runtime.NumGoroutine",a.length.ble fn.ntmps)=(some fn,some (fn.body.get!),false,true):=by kernel_rfl):OK o f a l e l':=
 rq fn [] h hk
attribute [go_sem] List.toList_toArray
theorem dc{C:Cx}{R:St->Prop}{k:List It}{st:St}{l:List Oper}(f id:Nat)(hf:Fn f)(b:Nat)(aux:List (Nat×Nat×List (List Nat)))(h:dr Tryz.prog C ⟨l⟩ st.k (Xaf b 0 l aux) st λst'=>run Tryz.prog C R 1000 k ⟨st'.t,st'.s,st'.n,st.k+(Xaf b 0 l aux).length⟩){t:Prf (⟨l⟩:Array Oper)}(ho:(Xaf b 0 l aux).map (·.o)=l:=by rfl)(hi:(Xaf b 0 l aux).map (·.i)=List.range (Xaf b 0 l aux).length:=by rfl)(hc:XkQ (Xaf b 0 l aux)=true:=by kernel_rfl)(hrd:C.rd=none:=by rfl):DrawnG Tryz.prog C R id ⟨l⟩ k st t:=
 db f id hf b aux ho hi hc h t hrd
end Go.Sx
