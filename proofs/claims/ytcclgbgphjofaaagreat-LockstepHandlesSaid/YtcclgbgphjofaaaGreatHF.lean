import Derived.Test.YtcclgbgphjofaaaGreatProg
import Derived.Test.YtcclgbgphjofaaaGreatHR
import Derived.Test.YtcclgbgphjofaaaGreatHJ
set_option linter.all false
namespace Go.Sx
open Go.Proofs
theorem ty3:Xt Tryz.prog 3=some ⟨1,8,(.int .i64 0),.int .i64⟩:=ac
theorem XrZ:Tryz.prog.bytesOf 3=8:=ac
theorem ty4:Xt Tryz.prog 4=some ⟨1,1,(.bool false),.bool⟩:=ac
theorem Xr0:Tryz.prog.bytesOf 4=1:=ac
theorem ty9:Xt Tryz.prog 9=some ⟨1,16,(.string (ByteArray.mk #[])),.str⟩:=ac
theorem Xt4:Xt Tryz.prog 22=some ⟨1,24,(.slice none 0 0),.slice 3 1⟩:=ac
theorem Xt5:Xt Tryz.prog 24=some ⟨2,16,(.agg #[(.int .i64 0),(.int .i64 0)]),.struct [(0,1,3),(1,1,3)]⟩:=ac
theorem Xp7:Tryz.prog.bytesOf 24=16:=ac
theorem Xr1:YM Tryz.prog 24=some [some .i64,some .i64]:=ac
theorem Xt6:Xt Tryz.prog 25=some ⟨1,24,(.slice none 0 0),.slice 55 1⟩:=ac
theorem Xp8:Tryz.prog.bytesOf 25=24:=ac
theorem Xt7:Xt Tryz.prog 26=some ⟨1,24,(.slice none 0 0),.slice 144 4⟩:=ac
theorem Xt8:Xt Tryz.prog 28=some ⟨6,80,(.agg #[(.int .i64 0),(.int .i64 0),(.slice none 0 0),(.slice none 0 0),(.int .i64 0),(.int .i64 0)]),.struct [(0,2,24),(2,1,25),(3,1,26),(4,1,3),(5,1,3)]⟩:=ac
theorem Xp9:Tryz.prog.bytesOf 28=80:=ac
theorem Xt9:Xt Tryz.prog 29=some ⟨1,24,(.slice none 0 0),.slice 134 3⟩:=ac
theorem Xua:Xt Tryz.prog 30=some ⟨1,24,(.slice none 0 0),.slice 107 3⟩:=ac
theorem Xub:Xt Tryz.prog 32=some ⟨3,72,(.agg #[(.slice none 0 0),(.slice none 0 0),(.slice none 0 0)]),.struct [(0,1,29),(1,1,30),(2,1,22)]⟩:=ac
theorem Xqa:Tryz.prog.bytesOf 32=72:=ac
theorem Xuc:Xt Tryz.prog 33=some ⟨1,24,(.slice none 0 0),.slice 136 3⟩:=ac
theorem Xud:Xt Tryz.prog 35=some ⟨1,24,(.agg #[(.slice none 0 0)]),.struct [(0,1,33)]⟩:=ac
theorem Xqb:Tryz.prog.bytesOf 35=24:=ac
theorem Xue:Xt Tryz.prog 36=some ⟨1,24,(.slice none 0 0),.slice 99 2⟩:=ac
theorem Xuf:Xt Tryz.prog 38=some ⟨13,248,(.agg #[(.int .i64 0),(.int .i64 0),(.slice none 0 0),(.slice none 0 0),(.int .i64 0),(.int .i64 0),(.slice none 0 0),(.slice none 0 0),(.slice none 0 0),(.slice none 0 0),(.slice none 0 0),(.slice none 0 0),(.slice none 0 0)]),.struct [(0,6,28),(6,3,32),(9,1,35),(10,1,35),(11,1,36),(12,1,25)]⟩:=ac
theorem Xqc:Tryz.prog.bytesOf 38=248:=ac
theorem Xug:Xt Tryz.prog 39=some ⟨1,24,(.slice none 0 0),.slice 86 4⟩:=ac
theorem Xuh:Xt Tryz.prog 40=some ⟨1,24,(.slice none 0 0),.slice 89 3⟩:=ac
theorem Xui:Xt Tryz.prog 42=some ⟨10,208,(.agg #[(.int .i64 0),(.int .i64 0),(.slice none 0 0),(.slice none 0 0),(.slice none 0 0),(.slice none 0 0),(.slice none 0 0),(.slice none 0 0),(.slice none 0 0),(.slice none 0 0)]),.struct [(0,2,24),(2,1,39),(3,3,32),(6,1,35),(7,1,35),(8,1,40),(9,1,25)]⟩:=ac
theorem Xqd:Tryz.prog.bytesOf 42=208:=ac
theorem Xuj:Xt Tryz.prog 44=some ⟨24,480,(.agg #[(.int .i64 0),(.int .i64 0),(.slice none 0 0),(.slice none 0 0),(.int .i64 0),(.int .i64 0),(.slice none 0 0),(.slice none 0 0),(.slice none 0 0),(.slice none 0 0),(.slice none 0 0),(.slice none 0 0),(.slice none 0 0),(.int .i64 0),(.int .i64 0),(.slice none 0 0),(.slice none 0 0),(.slice none 0 0),(.slice none 0 0),(.slice none 0 0),(.slice none 0 0),(.slice none 0 0),(.slice none 0 0),(.slice none 0 0)]),.struct [(0,13,38),(13,10,42),(23,1,25)]⟩:=ac
theorem Xqe:Tryz.prog.bytesOf 44=480:=ac
theorem Xuk:Xt Tryz.prog 46=some ⟨1,24,(.slice none 0 0),.slice 57 2⟩:=ac
theorem Xul:Xt Tryz.prog 49=some ⟨1,24,(.slice none 0 0),.slice 87 4⟩:=ac
theorem Xum:Xt Tryz.prog 50=some ⟨1,24,(.slice none 0 0),.slice 90 3⟩:=ac
theorem Xun:Xt Tryz.prog 52=some ⟨10,208,(.agg #[(.int .i64 0),(.int .i64 0),(.slice none 0 0),(.slice none 0 0),(.slice none 0 0),(.slice none 0 0),(.slice none 0 0),(.slice none 0 0),(.slice none 0 0),(.slice none 0 0)]),.struct [(0,2,24),(2,1,49),(3,3,32),(6,1,35),(7,1,35),(8,1,50),(9,1,25)]⟩:=ac
theorem Xqf:Tryz.prog.bytesOf 52=208:=ac
theorem Xuo:Xt Tryz.prog 55=some ⟨1,8,(.int .u64 0),.int .u64⟩:=ac
theorem XjZ:Tryz.prog.bytesOf 55=8:=ac
theorem Xup:Xt Tryz.prog 57=some ⟨2,16,(.agg #[(.int .u64 0),(.int .u64 0)]),.struct [(0,1,55),(1,1,55)]⟩:=ac
theorem Xqg:Tryz.prog.bytesOf 57=16:=ac
theorem Xuq:Xt Tryz.prog 58=some ⟨1,8,(.int .i64 0),.int .i64⟩:=ac
theorem Xur:Xt Tryz.prog 66=some ⟨2,32,(.agg #[(.slice none 0 0),(.int .i64 0)]),.struct [(0,1,22),(1,1,3)]⟩:=ac
theorem Xqh:Tryz.prog.bytesOf 66=32:=ac
theorem Xus:Xt Tryz.prog 71=some ⟨4,32,(.agg #[(.int .i64 0),(.int .u64 0),(.int .u64 0),(.int .u64 0)]),.struct [(0,1,3),(1,1,55),(2,1,55),(3,1,55)]⟩:=ac
theorem Xqi:Tryz.prog.bytesOf 71=32:=ac
theorem Xut:Xt Tryz.prog 76=some ⟨1,8,(.map none),.other⟩:=ac
theorem Xuu:Xt Tryz.prog 78=some ⟨26,496,(.agg #[(.int .i64 0),(.int .i64 0),(.slice none 0 0),(.slice none 0 0),(.int .i64 0),(.int .i64 0),(.slice none 0 0),(.slice none 0 0),(.slice none 0 0),(.slice none 0 0),(.slice none 0 0),(.slice none 0 0),(.slice none 0 0),(.int .i64 0),(.int .i64 0),(.slice none 0 0),(.slice none 0 0),(.slice none 0 0),(.slice none 0 0),(.slice none 0 0),(.slice none 0 0),(.slice none 0 0),(.slice none 0 0),(.map none),(.map none),(.slice none 0 0)]),.struct [(0,13,38),(13,10,52),(23,1,76),(24,1,76),(25,1,46)]⟩:=ac
theorem Xuv:Xt Tryz.prog 82=some ⟨1,4,(.int .u32 0),.int .u32⟩:=ac
theorem Xuw:Xt Tryz.prog 84=some ⟨3,24,(.agg #[(.int .i64 0),(.int .i64 0),(.int .u32 0)]),.struct [(0,1,3),(1,1,3),(2,1,82)]⟩:=ac
theorem Xqj:Tryz.prog.bytesOf 84=24:=ac
theorem Xr2:YM Tryz.prog 84=some [some .i64,some .i64,some .u32]:=ac
theorem Xux:Xt Tryz.prog 86=some ⟨4,48,(.agg #[(.int .i64 0),(.int .i64 0),(.int .u32 0),(.slice none 0 0)]),.struct [(0,3,84),(3,1,25)]⟩:=ac
theorem Xqk:Tryz.prog.bytesOf 86=48:=ac
theorem Xuy:Xt Tryz.prog 87=some ⟨4,48,(.agg #[(.int .i64 0),(.int .i64 0),(.int .u32 0),(.slice none 0 0)]),.struct [(0,3,84),(3,1,25)]⟩:=ac
theorem Xql:Tryz.prog.bytesOf 87=48:=ac
theorem Xuz:Xt Tryz.prog 89=some ⟨3,24,(.agg #[(.int .u64 0),(.int .i64 0),(.int .u64 0)]),.struct [(0,1,55),(1,1,3),(2,1,55)]⟩:=ac
theorem Xqm:Tryz.prog.bytesOf 89=24:=ac
theorem XuA:Xt Tryz.prog 90=some ⟨3,24,(.agg #[(.int .u64 0),(.int .i64 0),(.int .u64 0)]),.struct [(0,1,55),(1,1,3),(2,1,55)]⟩:=ac
theorem Xqn:Tryz.prog.bytesOf 90=24:=ac
theorem XuB:Xt Tryz.prog 99=some ⟨2,16,(.agg #[(.int .u64 0),(.int .i64 0)]),.struct [(0,1,55),(1,1,3)]⟩:=ac
theorem Xqo:Tryz.prog.bytesOf 99=16:=ac
theorem Xs2:Xt Tryz.prog 107=some ⟨3,24,(.agg #[(.int .i64 0),(.int .i64 0),(.bool false)]),.struct [(0,1,3),(1,1,3),(2,1,4)]⟩:=ac
theorem XnP:Tryz.prog.bytesOf 107=24:=ac
theorem Xqp:YM Tryz.prog 107=some [some .i64,some .i64,none]:=ac
theorem Xs3:Xt Tryz.prog 109=some ⟨6,48,(.agg #[(.int .i64 0),(.int .i64 0),(.int .i64 0),(.int .i64 0),(.int .i64 0),(.int .i64 0)]),.struct [(0,1,3),(1,1,3),(2,1,3),(3,1,3),(4,1,3),(5,1,3)]⟩:=ac
theorem XnQ:Tryz.prog.bytesOf 109=48:=ac
theorem Xs4:Xt Tryz.prog 116=some ⟨3,16,(.agg #[(.bool false),(.bool false),(.int .u64 0)]),.struct [(0,1,4),(1,1,4),(2,1,55)]⟩:=ac
theorem XnR:Tryz.prog.bytesOf 116=16:=ac
theorem Xs5:Xt Tryz.prog 120=some ⟨1,8,(.int .u64 0),.int .u64⟩:=ac
theorem Xs6:Xt Tryz.prog 134=some ⟨3,24,(.agg #[(.int .i64 0),(.int .u64 0),(.bool false)]),.struct [(0,1,3),(1,1,55),(2,1,4)]⟩:=ac
theorem XnS:Tryz.prog.bytesOf 134=24:=ac
theorem Xs7:Xt Tryz.prog 136=some ⟨3,24,(.agg #[(.int .i64 0),(.int .u64 0),(.bool false)]),.struct [(0,1,3),(1,1,55),(2,1,4)]⟩:=ac
theorem XnT:Tryz.prog.bytesOf 136=24:=ac
theorem Xs8:Xt Tryz.prog 144=some ⟨4,32,(.agg #[(.int .i64 0),(.int .i64 0),(.int .i64 0),(.int .i64 0)]),.struct [(0,1,3),(1,1,3),(2,1,3),(3,1,3)]⟩:=ac
theorem XnU:Tryz.prog.bytesOf 144=32:=ac
theorem Xqq:YM Tryz.prog 144=some [some .i64,some .i64,some .i64,some .i64]:=ac
theorem Xs9:Xt Tryz.prog 157=some ⟨1,24,(.slice none 0 0),.slice 4 1⟩:=ac
theorem Xta:Xt Tryz.prog 176=some ⟨1,24,(.slice none 0 0),.slice 99 2⟩:=ac
theorem Xtb:Xt Tryz.prog 179=some ⟨3,72,(.agg #[(.slice none 0 0),(.slice none 0 0),(.slice none 0 0)]),.struct [(0,3,32)]⟩:=ac
theorem XnV:Tryz.prog.bytesOf 179=72:=ac
theorem Xtc:Xt Tryz.prog 188=some ⟨1,24,(.slice none 0 0),.slice 25 1⟩:=ac
theorem Xtd:Xt Tryz.prog 204=some ⟨16,208,(.agg #[(.int .i64 0),(.int .i64 0),(.slice none 0 0),(.slice none 0 0),(.int .i64 0),(.int .i64 0),(.slice none 0 0),(.slice none 0 0),(.slice none 0 0),(.int .i64 0),(.int .i64 0),(.int .i64 0),(.int .i64 0),(.int .i64 0),(.int .i64 0),(.int .i64 0)]),.struct [(0,6,28),(6,1,25),(7,1,22),(8,1,25),(9,1,3),(10,6,109)]⟩:=ac
theorem XnW:Tryz.prog.bytesOf 204=208:=ac
theorem Xte:Xt Tryz.prog 230=some ⟨3,24,(.agg #[(.int .i64 0),(.int .i64 0),(.int .i64 0)]),.struct [(0,1,3),(1,1,3),(2,1,3)]⟩:=ac
theorem XnX:Tryz.prog.bytesOf 230=24:=ac
theorem Xtf:Xt Tryz.prog 249=some ⟨3,24,(.agg #[(.int .i64 0),(.int .i64 0),(.int .u64 0)]),.struct [(0,1,3),(1,1,3),(2,1,55)]⟩:=ac
theorem XnY:Tryz.prog.bytesOf 249=24:=ac
theorem Xqr:YM Tryz.prog 249=some [some .i64,some .i64,some .u64]:=ac
theorem Xtg:Xt Tryz.prog 255=some ⟨1,24,(.slice none 0 0),.slice 261 4⟩:=ac
theorem Xth:Xt Tryz.prog 261=some ⟨4,32,(.agg #[(.int .u64 0),(.int .i64 0),(.int .i64 0),(.int .u32 0)]),.struct [(0,1,55),(1,3,84)]⟩:=ac
theorem XnZ:Tryz.prog.bytesOf 261=32:=ac
theorem Xti:Xt Tryz.prog 297=some ⟨1,8,.nilFunc,.other⟩:=ac
theorem Xtj:Xt Tryz.prog 298=some ⟨4,32,(.agg #[(.int .i64 0),(.int .i64 0),(.int .i64 0),(.int .i64 0)]),.struct [(0,1,3),(1,1,3),(2,1,3),(3,1,3)]⟩:=ac
theorem Xn0:Tryz.prog.bytesOf 298=32:=ac
theorem Xqs:YM Tryz.prog 298=some [some .i64,some .i64,some .i64,some .i64]:=ac
theorem Xtk:Xt Tryz.prog 299=some ⟨3,24,(.agg #[.nilFunc,.nilFunc,.nilFunc]),.array 3 297 1⟩:=ac
theorem Xtl:Xt Tryz.prog 302=some ⟨3,24,(.agg #[(.int .i64 0),(.int .i64 0),(.int .u64 0)]),.struct [(0,1,3),(1,1,3),(2,1,55)]⟩:=ac
theorem Xn1:Tryz.prog.bytesOf 302=24:=ac
theorem Xqt:YM Tryz.prog 302=some [some .i64,some .i64,some .u64]:=ac
theorem Xtm:Xt Tryz.prog 328=some ⟨1,24,(.slice none 0 0),.slice 331 2⟩:=ac
theorem Xtn:Xt Tryz.prog 331=some ⟨2,16,(.agg #[(.int .i64 0),(.int .i64 0)]),.struct [(0,1,3),(1,1,3)]⟩:=ac
theorem Xn2:Tryz.prog.bytesOf 331=16:=ac
attribute [go_sem] ty3 ty4 ty9 Xt4 Xt5 Xr1 Xt6 Xt7 Xt8 Xt9 Xua Xub Xuc Xud Xue Xuf Xug Xuh Xui Xuj Xuk Xul Xum Xun Xuo Xup Xuq Xur Xus Xut Xuu Xuv Xuw Xr2 Xux Xuy Xuz XuA XuB Xs2 Xqp Xs3 Xs4 Xs5 Xs6 Xs7 Xs8 Xqq Xs9 Xta Xtb Xtc Xtd Xte Xtf Xqr Xtg Xth Xti Xtj Xqs Xtk Xtl Xqt Xtm Xtn
attribute [go_sem] zWd zHp
def e3(x:Int):List D:=[.v (.int .i64 x)]
def e66(x:IT):List D:=[.isl 3 1 (x.L.map e3),.v (.int .i64 x.at_)]
def e24(x:Uj):List D:=[.v (.int .i64 x.W),.v (.int .i64 x.p)]
def e55(x:Int):List D:=[.v (.int .u64 x)]
def Y8(x:WJ):List D:=[.v (.int .i64 x.k),.v (.int .i64 x.s),.v (.int .i64 x.u),.v (.int .i64 x.P)]
def e28(x:Wp):List D:=[.v (.int .i64 x.c.W),.v (.int .i64 x.c.p),.isl 55 1 (x.w.map e55),.isl 144 4 (x.p.map Y8),.v (.int .i64 x.s),.v (.int .i64 x.b)]
def Vl(x:UW):List D:=[.v (.int .i64 x.J),.v (.int .u64 x.a),.v (.bool x.V)]
def XaR(x:U2):List D:=[.v (.int .i64 x.O),.v (.int .i64 x.C0),.v (.bool x.B0)]
def K2(x:Ul):List D:=[.v (.int .i64 x.G),.v (.int .u64 x.a),.v (.bool x.V)]
def e99(x:UQ):List D:=[.v (.int .u64 x.a),.v (.int .i64 x.M)]
def e38(x:Uw):List D:=[.v (.int .i64 x.h.c.W),.v (.int .i64 x.h.c.p),.isl 55 1 (x.h.w.map e55),.isl 144 4 (x.h.p.map Y8),.v (.int .i64 x.h.s),.v (.int .i64 x.h.b),.isl 134 3 (x.l.S.map Vl),.isl 107 3 (x.l.x.map XaR),.isl 3 1 (x.l.i.map e3),.isl 136 3 (x.g.e.map K2),.isl 136 3 (x.v.e.map K2),.isl 99 2 (x.P.map e99),.isl 55 1 (x.R.map e55)]
def e86(x:UO):List D:=[.v (.int .i64 x.H.k),.v (.int .i64 x.H.n),.v (.int .u32 x.H.Map),.isl 55 1 (x.D.map e55)]
def e89(x:U5):List D:=[.v (.int .u64 x.I),.v (.int .i64 x.M),.v (.int .u64 x.B0)]
def e42(x:WE):List D:=[.v (.int .i64 x.c.W),.v (.int .i64 x.c.p),.isl 86 4 (x.T.map e86),.isl 134 3 (x.l.S.map Vl),.isl 107 3 (x.l.x.map XaR),.isl 3 1 (x.l.i.map e3),.isl 136 3 (x.g.e.map K2),.isl 136 3 (x.v.e.map K2),.isl 89 3 (x.m.map e89),.isl 55 1 (x.R.map e55)]
def e44(x:IV):List D:=[.v (.int .i64 x.N.h.c.W),.v (.int .i64 x.N.h.c.p),.isl 55 1 (x.N.h.w.map e55),.isl 144 4 (x.N.h.p.map Y8),.v (.int .i64 x.N.h.s),.v (.int .i64 x.N.h.b),.isl 134 3 (x.N.l.S.map Vl),.isl 107 3 (x.N.l.x.map XaR),.isl 3 1 (x.N.l.i.map e3),.isl 136 3 (x.N.g.e.map K2),.isl 136 3 (x.N.v.e.map K2),.isl 99 2 (x.N.P.map e99),.isl 55 1 (x.N.R.map e55),.v (.int .i64 x.z.c.W),.v (.int .i64 x.z.c.p),.isl 86 4 (x.z.T.map e86),.isl 134 3 (x.z.l.S.map Vl),.isl 107 3 (x.z.l.x.map XaR),.isl 3 1 (x.z.l.i.map e3),.isl 136 3 (x.z.g.e.map K2),.isl 136 3 (x.z.v.e.map K2),.isl 89 3 (x.z.m.map e89),.isl 55 1 (x.z.R.map e55),.isl 55 1 (x.w.map e55)]
def e32(x:WD):List D:=[.isl 134 3 (x.S.map Vl),.isl 107 3 (x.x.map XaR),.isl 3 1 (x.i.map e3)]
def e35(x:W4):List D:=[.isl 136 3 (x.e.map K2)]
def e84(x:WH):List D:=[.v (.int .i64 x.k),.v (.int .i64 x.n),.v (.int .u32 x.Map)]
def e4(x:Bool):List D:=[.v (.bool x)]
def Xqu(x:Ut):List D:=[.v (.int .i64 x.Fault),.v (.int .i64 x.Page),.v (.int .u64 x.Addr)]
def JH(x:W8):List D:=[.v (.int .i64 x.h.c.W),.v (.int .i64 x.h.c.p),.isl 55 1 (x.h.w.map e55),.isl 144 4 (x.h.p.map Y8),.v (.int .i64 x.h.s),.v (.int .i64 x.h.b),.isl 55 1 (x.o.map e55),.isl 3 1 (x.t.map e3),.isl 55 1 (x.q.map e55),.v (.int .i64 x.d),.v (.int .i64 x.r.j),.v (.int .i64 x.r.K),.v (.int .i64 x.r.F),.v (.int .i64 x.r.E),.v (.int .i64 x.r.f),.v (.int .i64 x.r.y)]
def Xn3(x:OP):List D:=[.v (.int .i64 x.O),.v (.int .i64 x.Len)]
def Xn4(x:UI):List D:=[.v (.int .i64 x.j),.v (.int .i64 x.K),.v (.int .i64 x.F),.v (.int .i64 x.E),.v (.int .i64 x.f),.v (.int .i64 x.y)]
def Xqv(x:IZ):List D:=[.v (.int .i64 x.Tag),.v (.int .i64 x.Index),.v (.int .i64 x.J)]
def Xr3(x:OD):List D:=[.v (.bool x.Failed),.v (.bool x.Collected),.v (.int .u64 x.B0)]
def e71(x:OG):List D:=[.v (.int .i64 x.Op),.v (.int .u64 x.A),.v (.int .u64 x.B),.v (.int .u64 x.C)]
def XhR(x:WJ):List D:=[.v (.int .i64 x.k),.v (.int .i64 x.s),.v (.int .i64 x.u),.v (.int .i64 x.P)]
def Xam(x:U8):List D:=[.v (.int .u64 x.addr),.v (.int .i64 x.hd.k),.v (.int .i64 x.hd.n),.v (.int .u32 x.hd.Map)]
def Xqw(x:Ut):List D:=[.v (.int .i64 x.Fault),.v (.int .i64 x.Page),.v (.int .u64 x.Addr)]
def Xn5(x:OB):List D:=[.isl 134 3 (x.l.S.map Vl),.isl 107 3 (x.l.x.map XaR),.isl 3 1 (x.l.i.map e3)]
def e25(x:List Int):List D:=[.isl 55 1 (x.map e55)]
def e87(x:UO):List D:=[.v (.int .i64 x.H.k),.v (.int .i64 x.H.n),.v (.int .u32 x.H.Map),.isl 55 1 (x.D.map e55)]
def e90(x:U5):List D:=[.v (.int .u64 x.I),.v (.int .i64 x.M),.v (.int .u64 x.B0)]
def e52(x:WE):List D:=[.v (.int .i64 x.c.W),.v (.int .i64 x.c.p),.isl 87 4 (x.T.map e87),.isl 134 3 (x.l.S.map Vl),.isl 107 3 (x.l.x.map XaR),.isl 3 1 (x.l.i.map e3),.isl 136 3 (x.g.e.map K2),.isl 136 3 (x.v.e.map K2),.isl 90 3 (x.m.map e90),.isl 55 1 (x.R.map e55)]
def e57(x:WS):List D:=[.v (.int .u64 x.Addr),.v (.int .u64 x.I)]
attribute [go_sem] e3 e66 e24 e55 Y8 e28 Vl XaR K2 e99 e38 e86 e89 e42 e44 e32 e35 e84 e4 Xqu JH Xn3 Xn4 Xqv Xr3 e71 XhR Xam Xqw Xn5 e25 e87 e90 e52 e57 XrZ Xqh Xp7 XjZ XnU Xp9 XnS XnP XnT Xqo Xqc Xqk Xqm Xqd Xqe Xqa Xqb Xqj Xr0 Xn1 XnW Xn2 XnQ XnX XnR Xqi Xn0 XnZ XnY XnV Xp8 Xql Xqn Xqf Xqg
theorem XqR:Go.Proofs.Tryz.prog.follows .mixedOrders=true:=ac
def GW(G:Nat->Option (List D)):Prop:=True
open Go.Proofs
theorem E:True:=trivial
theorem hd:True:=trivial
theorem hx3:True:=trivial
theorem hl3:True:=trivial
theorem hl4:True:=trivial
theorem Xr4:True:=trivial
theorem X2:True:=trivial
theorem XiS:True:=trivial
theorem VP:True:=trivial
theorem XiT:True:=trivial
theorem Xan:True:=trivial
theorem Xev:True:=trivial
theorem K3:True:=trivial
theorem Km:True:=trivial
theorem YW:True:=trivial
theorem Zx:True:=trivial
theorem XS:True:=trivial
theorem XbT:True:=trivial
theorem Xfg:True:=trivial
theorem Fq:True:=trivial
theorem Z1:True:=trivial
theorem hK:True:=trivial
theorem XuC{α:Type}{G:Prop}{a c:Int}{x y:Option α}{r:α}(h:(bif (a==c)then x else y)=some r)(f:a=c->x=some r->G)(g:¬a=c->y=some r->G):G:=by
 by_cases e:a=c
 .rw[beq_iff_eq.2 e]at h;exact f e h
 rw[IG.2 e]at h;exact g e h
attribute [go_sem] Option.get!
structure Fn(n:Nat):Prop where
class OK{α:Type}(o:Option α)(f:outParam Nat)(a:outParam (List D))(l:outParam (List Ob))(e:outParam (α->D))(l':outParam (α->List Ob)):Prop where
 h:∀G,GW G->∀r,o=some r->ZD Tryz.prog G f a l (Eqs (e r) (l' r))
section
variable {α β:Type}{o:Option α}{k:α->Option β}{f:Nat}{a args:List D}{l:List Ob}{e:α->D}{l':α->List Ob}{G:Nat->Option (List D)}{r:β}{K:D->List Ob->Prop}
theorem OK.c[h:OK o f a l e l'](hr:bnd o k=some r)(hw:GW G)(hf:Ki args a)(hK:∀y,k y=some r->K (e y) (l' y))(t:Prf args):CallG Tryz.prog G f args l K t:=
 Xew hr λy hy hr=>CallG.ofE (h.h G hw y hy) hf (hK y hr) t
theorem OK.d[h:OK o f a l e l'](hr:bnd o k=some r)(hw:GW G)(hf:Ki args a)(hK:∀y,k y=some r->K (e y) (l' y))(t:Prf args):CallD Tryz.prog G f args l K t:=
 Xew hr λy hy hr=>CallD.ofE (h.h G hw y hy) hf (hK y hr) t
theorem rn(fn:Func)(rs:List ResultVar)(fr:List Nat)(nt:Nat)(hk:(Tryz.prog.funcs[f]?,fn.body,fn.name== "runtime.NumGoroutine",fn.results,fn.ntmps,a.length.ble nt)=(some fn,some (fn.body.get!),false,⟨rs⟩,nt,true))(h:∀G,GW G->∀r,o=some r->∀(C:Cx)x,C.G=G->WfL Tryz.prog a->Fn f->run Tryz.prog (C.sub 0 x) (XaP Tryz.prog rs fr l.length (Eqs (e r) (l' r))) 1000 [.code (fn.body.get!)] (st0 a l nt)):OK o f a l e l':=by injection hk with h1 hk;injection hk with h2 hk;injection hk with h3 hk;injection hk with h4 hk;injection hk with h5 h6;exact⟨λG hw r hr=>JN 1000 fr nt h1 h2 h3 h4 h5 (Ol h6) λC x hG hwf=>h G hw r hr C x hG hwf ⟨⟩⟩
end
def bm(b n:Nat):List Nat:=((List.range (n.log2+1)).filter λi=>n / 2 ^ i % 2==1).map λi=>i+b
theorem Xr5{b n x:Nat}:(bm b n).contains x=(decide (b<=x)&&n / 2 ^ (x-b) % 2==1):=by
 rw[Bool.eq_iff_iff,Ub,bm,WG];simp only[W6,List.mem_range,beq_iff_eq,Wr,decide_eq_true_eq];constructor
 .rintro⟨i,⟨h1,h2⟩,rfl⟩;rw[Of];exact⟨Nat.le_add_left _ _,h2⟩
 rintro⟨h1,h3⟩;refine⟨x-b,⟨?_,h3⟩,Nat.sub_add_cancel h1⟩;have hp:0<n / 2 ^ (x-b):=by
  rcases Ux (n / 2 ^ (x-b))with h|h
  .rw[h]at h3;cases h3
  exact h
 have hle:2 ^ (x-b)<=n:=by
  rcases UM n (2 ^ (x-b))with h|h
  .rw[Nat.div_eq_of_lt h]at hp;cases hp
  exact h
 have hn:n≠0:=by rintro rfl;have:=Nat.two_pow_pos (x-b);omega
 exact Nat.lt_succ_of_le ((Nat.le_log2 hn).2 hle)
theorem Xto{b n x:Nat}{p q:D}:(if(bm b n).contains x=true then p else q)=if x<b then q else if n / 2 ^ (x-b) % 2=1 then p else q:=by
 rw[Xr5];by_cases h1:x<b
 .rw[Wj h1,Wh (Nat.not_le.2 h1),Uh];rfl
 rw[Wg h1,Wi (Nat.not_lt.1 h1),WI];by_cases h3:n / 2 ^ (x-b) % 2=1
 .rw[Wj h3,Wj (beq_iff_eq.2 h3)]
 rw[Wg h3,Wg (λh=>h3 (beq_iff_eq.1 h))]
def Z5(b:Nat):Nat->List Oper->List (Nat×Nat×List (List Nat))->List En
 |i,o::l,(a,m,[])::x=>⟨i,o,bm 0 a,[],bm b m,[]⟩::Z5 b (i+1) l x
 |i,o::l,(a,m,[w,k])::x=>⟨i,o,bm 0 a,w,bm b m,k⟩::Z5 b (i+1) l x
 |_,[],[]=>[]
 |i,_,_=>[⟨i,⟨none,.assign (.tmp 0),0,"",#[],none⟩,[],[],[],[]⟩]
attribute [go_sem] Xto Z5
theorem db{C:Cx}{R:St->Prop}{k:List It}{st:St}{l:List Oper}(f id:Nat)(_:Fn f)(b:Nat)(aux:List (Nat×Nat×List (List Nat)))(ho:(Z5 b 0 l aux).map (·.o)=l)(hi:(Z5 b 0 l aux).map (·.i)=List.range (Z5 b 0 l aux).length)(hc:XfD (Z5 b 0 l aux)=true)(h:dr Tryz.prog C ⟨l⟩ st.k (Z5 b 0 l aux) st λst'=>run Tryz.prog C R 1000 k ⟨st'.t,st'.s,st'.n,st.k+(Z5 b 0 l aux).length⟩)(t:Prf (⟨l⟩:Array Oper))(hrd:C.rd=none:=by rfl):DrawnG Tryz.prog C R id ⟨l⟩ k st t:=
 DrawnG.of XqR (Z5 b 0 l aux) 1000 ho hi hc h t hrd
class El{α:Type}(x:Option α)(r:α)(K:outParam (Prop->Prop)):Prop where
 el:∀{G:Prop},x=some r->K G->G
instance{α:Type}{p:Prop}[Decidable p]{x:Option α}{r:α}:El (grd p x) r λG=>x=some r->p->G:=⟨λh k=>Xsb h λa b=>k b a⟩
instance{κ α:Type}{k:κ}{f:κ->Option α}{r:α}:El (jn k f) r λG=>f k=some r->G:=⟨λh k=>XtA h k⟩
instance{α β γ:Type}{b:β}{f:α->Option γ}{k:β->Option γ}{r:γ}:El (exK (.nxt b) f k) r λG=>k b=some r->G:=⟨λh k=>Xsc h k⟩
instance{α β γ:Type}{b:α}{f:α->Option γ}{k:β->Option γ}{r:γ}:El (exK (.ret b) f k) r λG=>f b=some r->G:=⟨λh k=>Xsd h k⟩
instance{α:Type}{x y:Option α}{r:α}:El (bif true then x else y) r λG=>x=some r->G:=⟨λh k=>k h⟩
instance{α:Type}{x y:Option α}{r:α}:El (bif false then x else y) r λG=>y=some r->G:=⟨λh k=>k h⟩
instance{α:Type}{x y:Option α}{r:α}:El (bif !false then x else y) r λG=>x=some r->G:=⟨λh k=>k h⟩
instance{α:Type}{x y:Option α}{r:α}:El (bif !true then x else y) r λG=>y=some r->G:=⟨λh k=>k h⟩
theorem XH{α:Type}{G:Prop}{b c:Bool}{x y:Option α}{r:α}(h:(bif b then x else y)=some r)(hb:b=c)(g:(bif c then x else y)=some r->G):G:=g (hb▸h)
open Go.Proofs
set_option maxRecDepth 10000
section
variable {P:Program}{t e:TypeId}{fs:List (Nat×Nat×Nat)}{a b s:Nat}{z:Value}
end
open Go.Proofs
section
variable {α β:Type}{o:Option α}{y:α}{f:Nat}{a args:List D}{l:List Ob}{e:α->D}{l':α->List Ob}{G:Nat->Option (List D)}{K:D->List Ob->Prop}
theorem OK.t[h:OK o f a l e l'](ho:o=some y)(hw:GW G)(hf:Ki args a)(hK:K (e y) (l' y))(t:Prf args):CallG Tryz.prog G f args l K t:=CallG.ofE (h.h G hw y ho) hf hK t
theorem OK.r{β:Type}{k:α->Option β}{r:β}{C:Cx}{s:Heap}{K':D->Prop}[h:OK o f a [] e l'](hr:bnd o k=some r)(hw:GW G)(hG:C.G=G)(hro:RoA Tryz.prog C s args a)(hsc:∀y,scal (e y)=true)(hK:∀y,k y=some r->K' (e y))(t:Prf args):Xqz Tryz.prog C s f args K' t:=
 Xew hr λy hy hr=>⟨a,Eqs (e y) (l' y),hro,hG▸h.h G hw y hy,⟨_,_,rfl,rfl⟩,λ_ _ h1=>h1.1▸⟨hsc y,hK y hr⟩⟩
end
theorem dbi{C:Cx}{R:St->Prop}{k:List It}{st:St}{l:List Oper}(o f id:Nat)(hoff:C.off=o)(hf:Fn f)(b:Nat)(aux:List (Nat×Nat×List (List Nat)))(ho:(Z5 b 0 l aux).map (·.o)=l)(hi:(Z5 b 0 l aux).map (·.i)=List.range (Z5 b 0 l aux).length)(hc:XfD (Z5 b 0 l aux)=true)(h:dr Tryz.prog C ⟨l⟩ st.k (Z5 b 0 l aux) st λst'=>run Tryz.prog C R 1000 k ⟨st'.t,st'.s,st'.n,st.k+(Z5 b 0 l aux).length⟩)(t:Prf (⟨l⟩:Array Oper))(hrd:C.rd=none:=by rfl):DrawnG Tryz.prog C R id ⟨l⟩ k st t:=
 db f id hf b aux ho hi hc h t hrd
theorem dbm{C:Cx}{R:St->Prop}{k:List It}{st:St}{l:List Oper}{c:Oper}(f id:Nat)(_:Fn f)(m b:Nat)(aux:List (Nat×Nat×List (List Nat)))(ho:(Z5 b 0 l aux).map (·.o)=l)(hi:(Z5 b 0 l aux).map (·.i)=List.range (Z5 b 0 l aux).length)(hc:(XfD (Z5 b 0 l aux)&&(Xrf (Z5 b 0 l aux)&&(XfE m (Z5 b 0 l aux)&&XfE (m+1) (Z5 b 0 l aux))))=true)(hl:l[m]? = some c)(hg:c.guard=none)(h:dr Tryz.prog C ⟨l⟩ st.k ((Z5 b 0 l aux).take m) st λst'=>XlP Tryz.prog C (KD c.op) c.dst ⟨st'.t,st'.s,st'.n,st.k+m⟩ (λst2=>dr Tryz.prog C ⟨l⟩ st2.k ((Z5 b 0 l aux).drop (m+1)) st2 λst'=>run Tryz.prog C R 1000 k ⟨st'.t,st'.s,st'.n,st2.k+(Z5 b 0 l aux).length⟩) trivial)(t:Prf (⟨l⟩:Array Oper))(hrd:C.rd=none:=by rfl):DrawnG Tryz.prog C R id ⟨l⟩ k st t:=
 OX XqR (Z5 b 0 l aux) 1000 m c ho hi hc hl hg h t hrd
theorem exU{α:Sort _}{p:α->Prop}(h:∃x,p x):∃x,p x:=h
open Go.Proofs
abbrev vi(x:Int):D:=.v (.int .i64 x)
abbrev vu(x:Int):D:=.v (.int .u64 x)
abbrev vw(x:Int):D:=.v (.int .u32 x)
abbrev s3(l:List Int):D:=.isl 3 1 (l.map e3)
abbrev s4(l:List Bool):D:=.isl 4 1 (l.map e4)
abbrev s25(l:List (List Int)):D:=.isl 25 1 (l.map e25)
abbrev s55(l:List Int):D:=.isl 55 1 (l.map e55)
abbrev s57(l:List WS):D:=.isl 57 2 (l.map e57)
abbrev s86(l:List UO):D:=.isl 86 4 (l.map e86)
abbrev s87(l:List UO):D:=.isl 87 4 (l.map e87)
abbrev s89(l:List U5):D:=.isl 89 3 (l.map e89)
abbrev s90(l:List U5):D:=.isl 90 3 (l.map e90)
abbrev s99(l:List UQ):D:=.isl 99 2 (l.map e99)
abbrev Y9(l:List U2):D:=.isl 107 3 (l.map XaR)
abbrev Zd(l:List UW):D:=.isl 134 3 (l.map Vl)
abbrev XT(l:List Ul):D:=.isl 136 3 (l.map K2)
abbrev ZH(l:List WJ):D:=.isl 144 4 (l.map Y8)
abbrev Xlf(l:List U8):D:=.isl 261 4 (l.map Xam)
abbrev Xr6(l:List OP):D:=.isl 331 2 (l.map Xn3)
attribute [go_sem] vi vu vw s3 s4 s25 s55 s57 s86 s87 s89 s90 s99 Y9 Zd XT ZH Xlf Xr6
theorem lp{P:Program}{C:Cx}{R:St->Prop}{c:Code}{k:List It}{st:St}{α β:Type}{o:Option α}{f:α->Option β}{r:β}(I:(α->Prop)->Nat->St->Prop)(hr:bnd o f=some r)(n:Nat)(round:∀n st,I (λy=>f y=some r) n st->run P C R 1000 (.code c::.stop (λst'=>∃n',n'<n/\I (λy=>f y=some r) n' st')::k) st)(h0:∀ex,o=some ex->f ex=some r->I (λy=>f y=some r) n st)(t':Prf c):LoopG P C R c k st t':=
 Xro hr 1000 n h0 round t'
theorem rq{α:Type}{o:Option α}{f:Nat}{a:List D}{l:List Ob}{e:α->D}{l':α->List Ob}(fn:Func)(fr:List Nat)(h:∀G,GW G->∀r,o=some r->∀(C:Cx)x,C.G=G->WfL Tryz.prog a->Fn f->run Tryz.prog (C.sub 0 x) (XaP Tryz.prog fn.results.toList fr l.length (Eqs (e r) (l' r))) 1000 [.code (fn.body.get!)] (st0 a l fn.ntmps))(hk:(Tryz.prog.funcs[f]?,fn.body,fn.name== "runtime.NumGoroutine",a.length.ble fn.ntmps)=(some fn,some (fn.body.get!),false,true):=by kernel_rfl):OK o f a l e l':=by injection hk with h1 hk;injection hk with h2 hk;injection hk with h3 h6;exact⟨λG hw r hr=>JN 1000 fr fn.ntmps h1 h2 h3 rfl rfl (Ol h6) λC x hG hwf=>h G hw r hr C x hG hwf ⟨⟩⟩
theorem rk{α:Type}{o:Option α}{f:Nat}{a:List D}{l:List Ob}{e:α->D}{l':α->List Ob}(fn:Func)(h:∀G,GW G->∀r,o=some r->∀(C:Cx)x,C.G=G->WfL Tryz.prog a->Fn f->run Tryz.prog (C.sub 0 x) (XaP Tryz.prog fn.results.toList [] l.length (Eqs (e r) (l' r))) 1000 [.code (fn.body.get!)] (st0 a l fn.ntmps))(hk:(Tryz.prog.funcs[f]?,fn.body,fn.name== "runtime.NumGoroutine",a.length.ble fn.ntmps)=(some fn,some (fn.body.get!),false,true):=by kernel_rfl):OK o f a l e l':=
 rq fn [] h hk
attribute [go_sem] List.toList_toArray
theorem dc{C:Cx}{R:St->Prop}{k:List It}{st:St}{l:List Oper}(f id:Nat)(hf:Fn f)(b:Nat)(aux:List (Nat×Nat×List (List Nat)))(h:dr Tryz.prog C ⟨l⟩ st.k (Z5 b 0 l aux) st λst'=>run Tryz.prog C R 1000 k ⟨st'.t,st'.s,st'.n,st.k+(Z5 b 0 l aux).length⟩){t:Prf (⟨l⟩:Array Oper)}(ho:(Z5 b 0 l aux).map (·.o)=l:=by rfl)(hi:(Z5 b 0 l aux).map (·.i)=List.range (Z5 b 0 l aux).length:=by rfl)(hc:XfD (Z5 b 0 l aux)=true:=by kernel_rfl)(hrd:C.rd=none:=by rfl):DrawnG Tryz.prog C R id ⟨l⟩ k st t:=
 db f id hf b aux ho hi hc h t hrd
end Go.Sx
