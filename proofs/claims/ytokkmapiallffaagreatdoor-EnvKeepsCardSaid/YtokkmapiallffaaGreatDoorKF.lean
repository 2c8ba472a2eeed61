import Derived.Test.YtokkmapiallffaaGreatDoorProg
import Derived.Test.YtokkmapiallffaaGreatDoorKR
import Derived.Test.YtokkmapiallffaaGreatDoorKJ
set_option linter.all false
namespace Go.Sx
open Go.Proofs Tryz
theorem ty3:Xm prog 3=some ⟨1,8,(.int .i64 0),.int .i64⟩:=ae
theorem XjF:prog.bytesOf 3=8:=ae
theorem ty4:Xm prog 4=some ⟨1,1,(.bool false),.bool⟩:=ae
theorem Xs6:prog.bytesOf 4=1:=ae
theorem ty9:Xm prog 9=some ⟨1,16,(.string (ByteArray.mk #[])),.str⟩:=ae
theorem Xue:Xm prog 22=some ⟨1,24,(.slice none 0 0),.slice 3 1⟩:=ae
theorem XvE:Xm prog 24=some ⟨2,16,(.agg #[(.int .i64 0),(.int .i64 0)]),.struct [(0,1,3),(1,1,3)]⟩:=ae
theorem Xrh:prog.bytesOf 24=16:=ae
theorem XvF:Xm prog 25=some ⟨1,24,(.slice none 0 0),.slice 59 1⟩:=ae
theorem Xri:prog.bytesOf 25=24:=ae
theorem XvG:Xm prog 26=some ⟨1,24,(.slice none 0 0),.slice 159 4⟩:=ae
theorem XvH:Xm prog 28=some ⟨6,80,(.agg #[(.int .i64 0),(.int .i64 0),(.slice none 0 0),(.slice none 0 0),(.int .i64 0),(.int .i64 0)]),.struct [(0,2,24),(2,1,25),(3,1,26),(4,1,3),(5,1,3)]⟩:=ae
theorem Xrj:prog.bytesOf 28=80:=ae
theorem XvI:Xm prog 29=some ⟨1,24,(.slice none 0 0),.slice 153 3⟩:=ae
theorem XvJ:Xm prog 30=some ⟨1,24,(.slice none 0 0),.slice 121 3⟩:=ae
theorem XvK:Xm prog 32=some ⟨3,72,(.agg #[(.slice none 0 0),(.slice none 0 0),(.slice none 0 0)]),.struct [(0,1,29),(1,1,30),(2,1,22)]⟩:=ae
theorem Xrk:prog.bytesOf 32=72:=ae
theorem XvL:Xm prog 33=some ⟨1,24,(.slice none 0 0),.slice 146 3⟩:=ae
theorem XvM:Xm prog 35=some ⟨1,24,(.agg #[(.slice none 0 0)]),.struct [(0,1,33)]⟩:=ae
theorem Xrl:prog.bytesOf 35=24:=ae
theorem XvN:Xm prog 36=some ⟨1,24,(.slice none 0 0),.slice 86 2⟩:=ae
theorem XvO:Xm prog 38=some ⟨13,248,(.agg #[(.int .i64 0),(.int .i64 0),(.slice none 0 0),(.slice none 0 0),(.int .i64 0),(.int .i64 0),(.slice none 0 0),(.slice none 0 0),(.slice none 0 0),(.slice none 0 0),(.slice none 0 0),(.slice none 0 0),(.slice none 0 0)]),.struct [(0,6,28),(6,3,32),(9,1,35),(10,1,35),(11,1,36),(12,1,25)]⟩:=ae
theorem Xrm:prog.bytesOf 38=248:=ae
theorem XvP:Xm prog 39=some ⟨1,24,(.slice none 0 0),.slice 197 4⟩:=ae
theorem XvQ:Xm prog 40=some ⟨1,24,(.slice none 0 0),.slice 272 3⟩:=ae
theorem XvR:Xm prog 42=some ⟨10,208,(.agg #[(.int .i64 0),(.int .i64 0),(.slice none 0 0),(.slice none 0 0),(.slice none 0 0),(.slice none 0 0),(.slice none 0 0),(.slice none 0 0),(.slice none 0 0),(.slice none 0 0)]),.struct [(0,2,24),(2,1,39),(3,3,32),(6,1,35),(7,1,35),(8,1,40),(9,1,25)]⟩:=ae
theorem Xrn:prog.bytesOf 42=208:=ae
theorem XvS:Xm prog 44=some ⟨24,480,(.agg #[(.int .i64 0),(.int .i64 0),(.slice none 0 0),(.slice none 0 0),(.int .i64 0),(.int .i64 0),(.slice none 0 0),(.slice none 0 0),(.slice none 0 0),(.slice none 0 0),(.slice none 0 0),(.slice none 0 0),(.slice none 0 0),(.int .i64 0),(.int .i64 0),(.slice none 0 0),(.slice none 0 0),(.slice none 0 0),(.slice none 0 0),(.slice none 0 0),(.slice none 0 0),(.slice none 0 0),(.slice none 0 0),(.slice none 0 0)]),.struct [(0,13,38),(13,10,42),(23,1,25)]⟩:=ae
theorem Xro:prog.bytesOf 44=480:=ae
theorem XvT:Xm prog 47=some ⟨6,48,(.agg #[(.int .i64 0),(.int .i64 0),(.int .i64 0),(.int .i64 0),(.int .i64 0),(.int .i64 0)]),.struct [(0,1,3),(1,1,3),(2,1,3),(3,1,3),(4,1,3),(5,1,3)]⟩:=ae
theorem Xrp:prog.bytesOf 47=48:=ae
theorem XvU:Xm prog 48=some ⟨1,8,(.int .i64 0),.int .i64⟩:=ae
theorem XvV:Xm prog 52=some ⟨1,24,(.slice none 0 0),.slice 104 4⟩:=ae
theorem XvW:Xm prog 54=some ⟨2,48,(.agg #[(.slice none 0 0),(.slice none 0 0)]),.struct [(0,1,22),(1,1,52)]⟩:=ae
theorem Xrq:prog.bytesOf 54=48:=ae
theorem XvX:Xm prog 59=some ⟨1,8,(.int .u64 0),.int .u64⟩:=ae
theorem Xk0:prog.bytesOf 59=8:=ae
theorem XvY:Xm prog 67=some ⟨2,32,(.agg #[(.slice none 0 0),(.int .i64 0)]),.struct [(0,1,22),(1,1,3)]⟩:=ae
theorem Xrr:prog.bytesOf 67=32:=ae
theorem XvZ:Xm prog 72=some ⟨4,32,(.agg #[(.int .i64 0),(.int .u64 0),(.int .u64 0),(.int .u64 0)]),.struct [(0,1,3),(1,1,59),(2,1,59),(3,1,59)]⟩:=ae
theorem Xrs:prog.bytesOf 72=32:=ae
theorem Xv0:Xm prog 79=some ⟨3,24,(.agg #[(.int .i64 0),(.int .i64 0),(.int .i64 0)]),.array 3 48 1⟩:=ae
theorem Xs7:YJ prog 79=some [some .i64,some .i64,some .i64]:=ae
theorem Xv1:Xm prog 86=some ⟨2,16,(.agg #[(.int .u64 0),(.int .i64 0)]),.struct [(0,1,59),(1,1,3)]⟩:=ae
theorem Xk1:prog.bytesOf 86=16:=ae
theorem Xv2:Xm prog 96=some ⟨1,4,(.int .u32 0),.int .u32⟩:=ae
theorem Xv3:Xm prog 98=some ⟨3,24,(.agg #[(.int .i64 0),(.int .i64 0),(.int .u32 0)]),.struct [(0,1,3),(1,1,3),(2,1,96)]⟩:=ae
theorem Xrt:prog.bytesOf 98=24:=ae
theorem Xs8:YJ prog 98=some [some .i64,some .i64,some .u32]:=ae
theorem Xuf:Xm prog 104=some ⟨4,48,(.agg #[(.int .i64 0),(.int .i64 0),(.int .u32 0),(.slice none 0 0)]),.struct [(0,3,98),(3,1,25)]⟩:=ae
theorem XoZ:prog.bytesOf 104=48:=ae
theorem Xug:Xm prog 107=some ⟨3,24,(.agg #[(.int .i64 0),(.int .i64 0),(.int .i64 0)]),.struct [(0,1,3),(1,1,3),(2,1,3)]⟩:=ae
theorem Xo0:prog.bytesOf 107=24:=ae
theorem Xuh:Xm prog 121=some ⟨3,24,(.agg #[(.int .i64 0),(.int .i64 0),(.bool false)]),.struct [(0,1,3),(1,1,3),(2,1,4)]⟩:=ae
theorem Xiu:prog.bytesOf 121=24:=ae
theorem Xui:Xm prog 125=some ⟨3,16,(.agg #[(.bool false),(.bool false),(.int .u64 0)]),.struct [(0,1,4),(1,1,4),(2,1,59)]⟩:=ae
theorem Xo1:prog.bytesOf 125=16:=ae
theorem Xuj:Xm prog 129=some ⟨1,8,(.int .u64 0),.int .u64⟩:=ae
theorem Xuk:Xm prog 132=some ⟨1,8,(.agg #[(.int .i64 0)]),.struct [(0,1,48)]⟩:=ae
theorem Xul:Xm prog 135=some ⟨16,208,(.agg #[(.int .i64 0),(.int .i64 0),(.slice none 0 0),(.slice none 0 0),(.int .i64 0),(.int .i64 0),(.slice none 0 0),(.slice none 0 0),(.slice none 0 0),(.int .i64 0),(.int .i64 0),(.int .i64 0),(.int .i64 0),(.int .i64 0),(.int .i64 0),(.int .i64 0)]),.struct [(0,6,28),(6,1,25),(7,1,22),(8,1,25),(9,1,3),(10,6,47)]⟩:=ae
theorem Xo2:prog.bytesOf 135=208:=ae
theorem Xum:Xm prog 146=some ⟨3,24,(.agg #[(.int .i64 0),(.int .u64 0),(.bool false)]),.struct [(0,1,3),(1,1,59),(2,1,4)]⟩:=ae
theorem Xiv:prog.bytesOf 146=24:=ae
theorem Xun:Xm prog 153=some ⟨3,24,(.agg #[(.int .i64 0),(.int .u64 0),(.bool false)]),.struct [(0,1,3),(1,1,59),(2,1,4)]⟩:=ae
theorem Xiw:prog.bytesOf 153=24:=ae
theorem Xuo:Xm prog 156=some ⟨1,24,(.slice none 0 0),.slice 86 2⟩:=ae
theorem Xup:Xm prog 159=some ⟨4,32,(.agg #[(.int .i64 0),(.int .i64 0),(.int .i64 0),(.int .i64 0)]),.struct [(0,1,3),(1,1,3),(2,1,3),(3,1,3)]⟩:=ae
theorem Xix:prog.bytesOf 159=32:=ae
theorem Xru:YJ prog 159=some [some .i64,some .i64,some .i64,some .i64]:=ae
theorem Xuq:Xm prog 161=some ⟨3,72,(.agg #[(.slice none 0 0),(.slice none 0 0),(.slice none 0 0)]),.struct [(0,3,32)]⟩:=ae
theorem Xo3:prog.bytesOf 161=72:=ae
theorem Xur:Xm prog 171=some ⟨1,24,(.slice none 0 0),.slice 25 1⟩:=ae
theorem Xus:Xm prog 178=some ⟨3,24,(.agg #[(.int .i64 0),(.int .i64 0),(.int .i64 0)]),.array 3 3 1⟩:=ae
theorem Xut:Xm prog 188=some ⟨1,24,(.slice none 0 0),.slice 4 1⟩:=ae
theorem Xuu:Xm prog 197=some ⟨4,48,(.agg #[(.int .i64 0),(.int .i64 0),(.int .u32 0),(.slice none 0 0)]),.struct [(0,3,98),(3,1,25)]⟩:=ae
theorem Xo4:prog.bytesOf 197=48:=ae
theorem Xuv:Xm prog 208=some ⟨1,8,(.pointer none),.other⟩:=ae
theorem Xuw:Xm prog 209=some ⟨16,208,(.agg #[(.int .i64 0),(.int .i64 0),(.slice none 0 0),(.slice none 0 0),(.int .i64 0),(.int .i64 0),(.slice none 0 0),(.slice none 0 0),(.slice none 0 0),(.int .i64 0),(.int .i64 0),(.int .i64 0),(.int .i64 0),(.int .i64 0),(.int .i64 0),(.int .i64 0)]),.struct [(0,6,28),(6,1,25),(7,1,22),(8,1,25),(9,1,3),(10,6,47)]⟩:=ae
theorem Xux:Xm prog 227=some ⟨3,24,(.agg #[(.int .i64 0),(.int .i64 0),(.int .u64 0)]),.struct [(0,1,3),(1,1,3),(2,1,59)]⟩:=ae
theorem Xo5:prog.bytesOf 227=24:=ae
theorem Xrv:YJ prog 227=some [some .i64,some .i64,some .u64]:=ae
theorem Xuy:Xm prog 236=some ⟨1,24,(.slice none 0 0),.slice 242 4⟩:=ae
theorem Xuz:Xm prog 242=some ⟨4,32,(.agg #[(.int .u64 0),(.int .i64 0),(.int .i64 0),(.int .u32 0)]),.struct [(0,1,59),(1,3,98)]⟩:=ae
theorem Xo6:prog.bytesOf 242=32:=ae
theorem XuA:Xm prog 256=some ⟨2,16,(.agg #[(.int .i64 0),(.int .i64 0)]),.struct [(0,1,3),(1,1,3)]⟩:=ae
theorem Xo7:prog.bytesOf 256=16:=ae
theorem XuB:Xm prog 261=some ⟨16,208,(.agg #[(.int .i64 0),(.int .i64 0),(.slice none 0 0),(.slice none 0 0),(.int .i64 0),(.int .i64 0),(.slice none 0 0),(.slice none 0 0),(.slice none 0 0),(.int .i64 0),(.int .i64 0),(.int .i64 0),(.int .i64 0),(.int .i64 0),(.int .i64 0),(.int .i64 0)]),.struct [(0,6,28),(6,1,25),(7,1,22),(8,1,25),(9,1,3),(10,6,47)]⟩:=ae
theorem Xo8:prog.bytesOf 261=208:=ae
theorem XuC:Xm prog 272=some ⟨3,24,(.agg #[(.int .u64 0),(.int .i64 0),(.int .u64 0)]),.struct [(0,1,59),(1,1,3),(2,1,59)]⟩:=ae
theorem Xo9:prog.bytesOf 272=24:=ae
theorem XuD:Xm prog 305=some ⟨2,32,(.agg #[(.pointer none),(.slice none 0 0)]),.struct [(0,1,208),(1,1,25)]⟩:=ae
theorem XuE:Xm prog 320=some ⟨1,8,(.agg #[(.int .i64 0)]),.struct [(0,1,3)]⟩:=ae
theorem XuF:Xm prog 323=some ⟨1,8,(.agg #[(.int .i64 0)]),.struct [(0,1,3)]⟩:=ae
theorem XuG:Xm prog 341=some ⟨1,8,.nilFunc,.other⟩:=ae
theorem XuH:Xm prog 342=some ⟨4,32,(.agg #[(.int .i64 0),(.int .i64 0),(.int .i64 0),(.int .i64 0)]),.struct [(0,1,3),(1,1,3),(2,1,3),(3,1,3)]⟩:=ae
theorem Xpa:prog.bytesOf 342=32:=ae
theorem Xrw:YJ prog 342=some [some .i64,some .i64,some .i64,some .i64]:=ae
theorem XuI:Xm prog 343=some ⟨3,24,(.agg #[.nilFunc,.nilFunc,.nilFunc]),.array 3 341 1⟩:=ae
theorem XuJ:Xm prog 356=some ⟨2,16,(.agg #[(.int .i64 0),(.int .u64 0)]),.struct [(0,1,3),(1,1,59)]⟩:=ae
theorem Xpb:prog.bytesOf 356=16:=ae
theorem XuK:Xm prog 357=some ⟨1,24,(.slice none 0 0),.slice 356 2⟩:=ae
theorem XuL:Xm prog 358=some ⟨3,24,(.agg #[(.int .i64 0),(.int .i64 0),(.int .u64 0)]),.struct [(0,1,3),(1,1,3),(2,1,59)]⟩:=ae
theorem Xpc:prog.bytesOf 358=24:=ae
theorem Xrx:YJ prog 358=some [some .i64,some .i64,some .u64]:=ae
theorem XuM:Xm prog 368=some ⟨1,24,(.slice none 0 0),.slice 371 2⟩:=ae
theorem XuN:Xm prog 371=some ⟨2,16,(.agg #[(.int .i64 0),(.int .i64 0)]),.struct [(0,1,3),(1,1,3)]⟩:=ae
theorem Xpd:prog.bytesOf 371=16:=ae
attribute [go_sem] ty3 ty4 ty9 Xue XvE XvF XvG XvH XvI XvJ XvK XvL XvM XvN XvO XvP XvQ XvR XvS XvT XvU XvV XvW XvX XvY XvZ Xv0 Xs7 Xv1 Xv2 Xv3 Xs8 Xuf Xug Xuh Xui Xuj Xuk Xul Xum Xun Xuo Xup Xru Xuq Xur Xus Xut Xuu Xuv Xuw Xux Xrv Xuy Xuz XuA XuB XuC XuD XuE XuF XuG XuH Xrw XuI XuJ XuK XuL Xrx XuM XuN
attribute [go_sem] zWd zHp
def e3(x:Int):List D:=[.v (.int .i64 x)]
def e67(x:IB):List D:=[.isl 3 1 (x.L.map e3),.v (.int .i64 x.at_)]
def e24(x:WP):List D:=[.v (.int .i64 x.W),.v (.int .i64 x.p)]
def e59(x:Int):List D:=[.v (.int .u64 x)]
def YT(x:Wp):List D:=[.v (.int .i64 x.k),.v (.int .i64 x.s),.v (.int .i64 x.u),.v (.int .i64 x.P)]
def e28(x:Wh):List D:=[.v (.int .i64 x.c.W),.v (.int .i64 x.c.p),.isl 59 1 (x.w.map e59),.isl 159 4 (x.p.map YT),.v (.int .i64 x.s),.v (.int .i64 x.b)]
def XaT(x:UH):List D:=[.v (.int .i64 x.J),.v (.int .u64 x.a),.v (.bool x.V)]
def XbR(x:UX):List D:=[.v (.int .i64 x.O),.v (.int .i64 x.C0),.v (.bool x.B0)]
def Vg(x:W6):List D:=[.v (.int .i64 x.G),.v (.int .u64 x.a),.v (.bool x.V)]
def e86(x:UB):List D:=[.v (.int .u64 x.a),.v (.int .i64 x.M)]
def e38(x:Uj):List D:=[.v (.int .i64 x.h.c.W),.v (.int .i64 x.h.c.p),.isl 59 1 (x.h.w.map e59),.isl 159 4 (x.h.p.map YT),.v (.int .i64 x.h.s),.v (.int .i64 x.h.b),.isl 153 3 (x.l.S.map XaT),.isl 121 3 (x.l.x.map XbR),.isl 3 1 (x.l.i.map e3),.isl 146 3 (x.g.e.map Vg),.isl 146 3 (x.v.e.map Vg),.isl 86 2 (x.P.map e86),.isl 59 1 (x.R.map e59)]
def XcJ(x:UY):List D:=[.v (.int .i64 x.H.k),.v (.int .i64 x.H.n),.v (.int .u32 x.H.Map),.isl 59 1 (x.D.map e59)]
def Xiy(x:IC):List D:=[.v (.int .u64 x.I),.v (.int .i64 x.M),.v (.int .u64 x.B0)]
def e42(x:WO):List D:=[.v (.int .i64 x.c.W),.v (.int .i64 x.c.p),.isl 197 4 (x.T.map XcJ),.isl 153 3 (x.l.S.map XaT),.isl 121 3 (x.l.x.map XbR),.isl 3 1 (x.l.i.map e3),.isl 146 3 (x.g.e.map Vg),.isl 146 3 (x.v.e.map Vg),.isl 272 3 (x.m.map Xiy),.isl 59 1 (x.R.map e59)]
def e44(x:Io):List D:=[.v (.int .i64 x.N.h.c.W),.v (.int .i64 x.N.h.c.p),.isl 59 1 (x.N.h.w.map e59),.isl 159 4 (x.N.h.p.map YT),.v (.int .i64 x.N.h.s),.v (.int .i64 x.N.h.b),.isl 153 3 (x.N.l.S.map XaT),.isl 121 3 (x.N.l.x.map XbR),.isl 3 1 (x.N.l.i.map e3),.isl 146 3 (x.N.g.e.map Vg),.isl 146 3 (x.N.v.e.map Vg),.isl 86 2 (x.N.P.map e86),.isl 59 1 (x.N.R.map e59),.v (.int .i64 x.z.c.W),.v (.int .i64 x.z.c.p),.isl 197 4 (x.z.T.map XcJ),.isl 153 3 (x.z.l.S.map XaT),.isl 121 3 (x.z.l.x.map XbR),.isl 3 1 (x.z.l.i.map e3),.isl 146 3 (x.z.g.e.map Vg),.isl 146 3 (x.z.v.e.map Vg),.isl 272 3 (x.z.m.map Xiy),.isl 59 1 (x.z.R.map e59),.isl 59 1 (x.w.map e59)]
def e32(x:Wq):List D:=[.isl 153 3 (x.S.map XaT),.isl 121 3 (x.x.map XbR),.isl 3 1 (x.i.map e3)]
def e35(x:WD):List D:=[.isl 146 3 (x.e.map Vg)]
def e98(x:Wy):List D:=[.v (.int .i64 x.k),.v (.int .i64 x.n),.v (.int .u32 x.Map)]
def e4(x:Bool):List D:=[.v (.bool x)]
def XuO(x:Un):List D:=[.v (.int .i64 x.Fault),.v (.int .i64 x.Page),.v (.int .u64 x.Addr)]
def Xs9(x:Wu):List D:=[.v (.int .i64 x.h.c.W),.v (.int .i64 x.h.c.p),.isl 59 1 (x.h.w.map e59),.isl 159 4 (x.h.p.map YT),.v (.int .i64 x.h.s),.v (.int .i64 x.h.b),.isl 59 1 (x.o.map e59),.isl 3 1 (x.t.map e3),.isl 59 1 (x.q.map e59),.v (.int .i64 x.d),.v (.int .i64 x.r.j),.v (.int .i64 x.r.K),.v (.int .i64 x.r.F),.v (.int .i64 x.r.E),.v (.int .i64 x.r.f),.v (.int .i64 x.r.y)]
def Xiz(x:OA):List D:=[.v (.int .i64 x.O),.v (.int .i64 x.Len)]
def e47(x:WS):List D:=[.v (.int .i64 x.j),.v (.int .i64 x.K),.v (.int .i64 x.F),.v (.int .i64 x.E),.v (.int .i64 x.f),.v (.int .i64 x.y)]
def XuP(x:U3):List D:=[.v (.int .i64 x.Tag),.v (.int .i64 x.Index),.v (.int .i64 x.J)]
def XuQ(x:OB):List D:=[.v (.bool x.Failed),.v (.bool x.Collected),.v (.int .u64 x.B0)]
def e72(x:Ow):List D:=[.v (.int .i64 x.Op),.v (.int .u64 x.A),.v (.int .u64 x.B),.v (.int .u64 x.C)]
def XuR(x:IN):List D:=[.isl 153 3 (x.l.S.map XaT),.isl 121 3 (x.l.x.map XbR),.isl 3 1 (x.l.i.map e3)]
def e25(x:List Int):List D:=[.isl 59 1 (x.map e59)]
def XuS(x:Wp):List D:=[.v (.int .i64 x.k),.v (.int .i64 x.s),.v (.int .i64 x.u),.v (.int .i64 x.P)]
def VL(x:UU):List D:=[.v (.int .u64 x.addr),.v (.int .i64 x.hd.k),.v (.int .i64 x.hd.n),.v (.int .u32 x.hd.Map)]
def XuT(x:Un):List D:=[.v (.int .i64 x.Fault),.v (.int .i64 x.Page),.v (.int .u64 x.Addr)]
def Xta(x:Wu):List D:=[.v (.int .i64 x.h.c.W),.v (.int .i64 x.h.c.p),.isl 59 1 (x.h.w.map e59),.isl 159 4 (x.h.p.map YT),.v (.int .i64 x.h.s),.v (.int .i64 x.h.b),.isl 59 1 (x.o.map e59),.isl 3 1 (x.t.map e3),.isl 59 1 (x.q.map e59),.v (.int .i64 x.d),.v (.int .i64 x.r.j),.v (.int .i64 x.r.K),.v (.int .i64 x.r.F),.v (.int .i64 x.r.E),.v (.int .i64 x.r.f),.v (.int .i64 x.r.y)]
def Xmi(x:Ik):List D:=[.v (.int .i64 x.Width),.v (.int .u64 x.Value)]
def XjG(x:UY):List D:=[.v (.int .i64 x.H.k),.v (.int .i64 x.H.n),.v (.int .u32 x.H.Map),.isl 59 1 (x.D.map e59)]
def e54(x:Od):List D:=[.isl 3 1 (x.R.map e3),.isl 104 4 (x.Nodes.map XjG)]
def XuU(x:Ox):List D:=[.v (.int .i64 x.page),.v (.int .i64 x.offset)]
attribute [go_sem] e3 e67 e24 e59 YT e28 XaT XbR Vg e86 e38 XcJ Xiy e42 e44 e32 e35 e98 e4 XuO Xs9 Xiz e47 XuP XuQ e72 XuR e25 XuS VL XuT Xta Xmi XjG e54 XuU XjF Xrr Xrh Xk0 Xix Xrj Xiw Xiu Xiv Xk1 Xrm Xo4 Xo9 Xrn Xro Xrk Xrl Xrt Xs6 Xpc Xo8 Xpd Xrp Xo0 Xo1 Xrs Xo3 Xri Xpa Xo6 Xo5 Xo2 Xpb XoZ Xrq Xo7
theorem XiA:Go.Proofs.Tryz.prog.follows .mixedOrders=true:=ae
def GW(G:Nat->Option (List D)):Prop:=G 0=some [.v (.int .i64 2),.v (.int .i64 16),.v (.int .i64 32)]/\∀f,G (roK f)=if f=221 then some []else none
open Go.Proofs Tryz
theorem E:True:=trivial
theorem hd:True:=trivial
theorem EF:True:=trivial
theorem hx3:True:=trivial
theorem hl3:True:=trivial
theorem hm3:True:=trivial
theorem hl4:True:=trivial
theorem hm4:True:=trivial
theorem XeA:True:=trivial
theorem XeB:True:=trivial
theorem Zq:True:=trivial
theorem KN:True:=trivial
theorem XeC:True:=trivial
theorem XeD:True:=trivial
theorem Xae:True:=trivial
theorem Xaf:True:=trivial
theorem Xag:True:=trivial
theorem Xah:True:=trivial
theorem Xai:True:=trivial
theorem Xaj:True:=trivial
theorem Xak:True:=trivial
theorem Xal:True:=trivial
theorem XT:True:=trivial
theorem ZL:True:=trivial
theorem JE:True:=trivial
theorem Xam:True:=trivial
theorem JF:True:=trivial
theorem Xan:True:=trivial
theorem Xao:True:=trivial
theorem Xap:True:=trivial
theorem Xaq:True:=trivial
theorem Xar:True:=trivial
theorem JG:True:=trivial
theorem Xas:True:=trivial
theorem Fq:True:=trivial
theorem hK:True:=trivial
theorem Xv4{α:Type}{G:Prop}{a c:Int}{x y:Option α}{r:α}(h:(bif (a==c)then x else y)=some r)(f:a=c->x=some r->G)(g:¬a=c->y=some r->G):G:=by
 by_cases e:a=c
 .rw[beq_iff_eq.2 e]at h;exact f e h
 rw[beq_eq_false_iff_ne.2 e]at h;exact g e h
attribute [go_sem] Option.get!
structure Fn(n:Nat):Prop where
class OK{α:Type}(o:Option α)(f:outParam Nat)(a:outParam (List D))(l:outParam (List Ob))(e:outParam (α->D))(l':outParam (α->List Ob)):Prop where
 h:∀G,GW G->∀r,o=some r->YV prog G f a l (Eqs (e r) (l' r))
section
variable {α β:Type}{o:Option α}{k:α->Option β}{f:Nat}{a args:List D}{l:List Ob}{e:α->D}{l':α->List Ob}{G:Nat->Option (List D)}{r:β}{K:D->List Ob->Prop}
theorem OK.c[h:OK o f a l e l'](hr:bnd o k=some r)(hw:GW G)(hf:ZZ args a)(hK:∀y,k y=some r->K (e y) (l' y))(t:Prf args):CallG prog G f args l K t:=
 Xbj hr λy hy hr=>CallG.ofE (h.h G hw y hy) hf (hK y hr) t
theorem OK.d[h:OK o f a l e l'](hr:bnd o k=some r)(hw:GW G)(hf:ZZ args a)(hK:∀y,k y=some r->K (e y) (l' y))(t:Prf args):CallD prog G f args l K t:=
 Xbj hr λy hy hr=>CallD.ofE (h.h G hw y hy) hf (hK y hr) t
end
def bm(b n:Nat):List Nat:=((List.range (n.log2+1)).filter λi=>n / 2 ^ i % 2==1).map λi=>i+b
theorem Xtb{b n x:Nat}:(bm b n).contains x=(decide (b<=x)&&n / 2 ^ (x-b) % 2==1):=by
 rw[Bool.eq_iff_iff,UG,bm,WI];simp only[WY,List.mem_range,beq_iff_eq,WH,decide_eq_true_eq];constructor
 .rintro⟨i,⟨h1,h2⟩,rfl⟩;rw[IM];exact⟨Nat.le_add_left _ _,h2⟩
 rintro⟨h1,h3⟩;refine⟨x-b,⟨?_,h3⟩,Nat.sub_add_cancel h1⟩;have hp:0<n / 2 ^ (x-b):=by
  rcases Um (n / 2 ^ (x-b))with h|h
  .rw[h]at h3;cases h3
  exact h
 have hle:2 ^ (x-b)<=n:=by
  rcases Ux n (2 ^ (x-b))with h|h
  .rw[Nat.div_eq_of_lt h]at hp;cases hp
  exact h
 have hn:n≠0:=by rintro rfl;have:=Nat.two_pow_pos (x-b);omega
 exact Nat.lt_succ_of_le ((Nat.le_log2 hn).2 hle)
theorem XuV{b n x:Nat}{p q:D}:(if(bm b n).contains x=true then p else q)=if x<b then q else if n / 2 ^ (x-b) % 2=1 then p else q:=by
 rw[Xtb];by_cases h1:x<b
 .rw[Wm h1,We (Nat.not_le.2 h1),UK];rfl
 rw[Wj h1,Wg (Nat.not_lt.1 h1),Uf];by_cases h3:n / 2 ^ (x-b) % 2=1
 .rw[Wm h3,Wm (beq_iff_eq.2 h3)]
 rw[Wj h3,Wj (λh=>h3 (beq_iff_eq.1 h))]
def Xtc(b:Nat):Nat->List Oper->List (Nat×Nat×List (List Nat))->List En
 |i,o::l,(a,m,[])::x=>⟨i,o,bm 0 a,[],bm b m,[]⟩::Xtc b (i+1) l x
 |i,o::l,(a,m,[w,k])::x=>⟨i,o,bm 0 a,w,bm b m,k⟩::Xtc b (i+1) l x
 |_,[],[]=>[]
 |i,_,_=>[⟨i,⟨none,.assign (.tmp 0),0,"",#[],none⟩,[],[],[],[]⟩]
attribute [go_sem] XuV Xtc
class El{α:Type}(x:Option α)(r:α)(K:outParam (Prop->Prop)):Prop where
 el:∀{G:Prop},x=some r->K G->G
instance{α:Type}{p:Prop}[Decidable p]{x:Option α}{r:α}:El (grd p x) r λG=>x=some r->p->G:=⟨λh k=>Xtq h λa b=>k b a⟩
instance{κ α:Type}{k:κ}{f:κ->Option α}{r:α}:El (jn k f) r λG=>f k=some r->G:=⟨λh k=>Xvh h k⟩
instance{α β γ:Type}{b:β}{f:α->Option γ}{k:β->Option γ}{r:γ}:El (exK (.nxt b) f k) r λG=>k b=some r->G:=⟨λh k=>Xtr h k⟩
instance{α β γ:Type}{b:α}{f:α->Option γ}{k:β->Option γ}{r:γ}:El (exK (.ret b) f k) r λG=>f b=some r->G:=⟨λh k=>Xts h k⟩
instance{α:Type}{x y:Option α}{r:α}:El (bif true then x else y) r λG=>x=some r->G:=⟨λh k=>k h⟩
instance{α:Type}{x y:Option α}{r:α}:El (bif false then x else y) r λG=>y=some r->G:=⟨λh k=>k h⟩
instance{α:Type}{x y:Option α}{r:α}:El (bif !false then x else y) r λG=>x=some r->G:=⟨λh k=>k h⟩
instance{α:Type}{x y:Option α}{r:α}:El (bif !true then x else y) r λG=>y=some r->G:=⟨λh k=>k h⟩
theorem Y5{α:Type}{G:Prop}{b c:Bool}{x y:Option α}{r:α}(h:(bif b then x else y)=some r)(hb:b=c)(g:(bif c then x else y)=some r->G):G:=g (hb▸h)
theorem Xv5:wI (-1) = -1:=by unfold wI;decide
theorem Xv6:wI 1=1/\wI 2=2/\wI 3=3/\wI 4=4/\wI 5=5/\wI 6=6:=by unfold wI;decide
theorem Xk2{α:Type}{l:List α}{o n:Nat}{i:Int}{b:Prop}{β:Type}{f:α->Option β}{r:β}{p:α}(hr:bnd (KI l o n i) f=some r)(hp:KI l o n i=some p)(k:KI l o n i=some p->o+i.toNat<l.length->(∀(γ:Type) (e:α->List γ),(l.map e).getD (o+i.toNat) []=e p)->f p=some r->b):(0<=i/\i<n)/\b:=
 XgP hr λq hq h1 h2 h3=>by obtain rfl:=Wz (hp.symm.trans hq);exact k hq h1 h2 h3
theorem Xpe{α:Type}{l:List α}{o n:Nat}{i:Int}{b:Prop}{β:Type}{f:α->Option β}{r:β}{p:α}(hr:bnd (KI l o n i) f=some r)(hp:KI l o n i=some p)(k:KI l o n i=some p->o+i.toNat<l.length->(∀(γ:Type) (e:α->List γ),(l.map e).getD (o+i.toNat) []=e p)->f p=some r->b):i<n/\b:=
 let ⟨h1,h2⟩:=Xk2 hr hp k;⟨h1.2,h2⟩
abbrev FwH(s:Heap)(wb w1 p wp w3 w4 w5:Nat)(a:Wu):Prop:=s 51584=some (w1,.arr false 59 1 (a.h.w.map e59) 0)/\s p=some (wp,.arr false 159 4 (a.h.p.map YT) 0)/\s 52288=some (w3,.arr false 59 1 (a.o.map e59) 0)/\s 52480=some (w4,.arr false 3 1 (a.t.map e3) 0)/\s 52672=some (w5,.arr false 59 1 (a.q.map e59) 0)/\s 51264=some (wb,.arr true 209 16 [[.v (.int .i64 a.h.c.W),.v (.int .i64 a.h.c.p),.osl 51584 w1 1 0 a.h.w.length,.osl p wp 4 0 a.h.p.length,.v (.int .i64 a.h.s),.v (.int .i64 a.h.b),.osl 52288 w3 1 0 a.o.length,.osl 52480 w4 1 0 a.t.length,.osl 52672 w5 1 0 a.q.length,.v (.int .i64 a.d),.v (.int .i64 a.r.j),.v (.int .i64 a.r.K),.v (.int .i64 a.r.F),.v (.int .i64 a.r.E),.v (.int .i64 a.r.f),.v (.int .i64 a.r.y)]] 0)
def XjH(s s':Heap):Heap:=λi=>if i<51264 then s i else s' i
theorem YB{s s':Heap}{i:Nat}:XjH s s' i=if i<51264 then s i else s' i:=rfl
theorem Xpf{s s':Heap}{A:Prop}{K:Heap->Prop}(hK:A->K (XjH s s'))(h:A)(hl:∀i,i<51264->s' i=s i):K s':=by
 have e:s'=XjH s s':=by
  funext i;rw[YB];split
  .exact hl i ah
  rfl
 rw[e];exact hK h
theorem Xcl{s s':Heap}{K:Heap->Prop}{A:Nat->Nat->Nat->Nat->Prop}(hK:∀p wp w4 w5,(p=51840\/p=210816)->A p wp w4 w5->K (XjH s s'))(p wp w4 w5:Nat)(hp:p=51840\/p=210816)(h:A p wp w4 w5)(hl:∀i,i<51264->s' i=s i):K s':=Xpf (hK p wp w4 w5 hp) h hl
theorem XgM{G:Nat->Option (List D)}(hw:GW G){f:Nat}{α:Type}{x:Option α}:XfW G f x=if f=221 then none else x:=by
 by_cases h:f=221
 .rw[Wm h];exact Xst ((hw.2 f).trans (Wm h))
 rw[Wj h];exact Xss ((hw.2 f).trans (Wj h))
theorem Xpg{G:Nat->Option (List D)}(b0 b1 b2 b3 b5 b6 b7 b8 b9 b10 b11 b12 b13 b14 b15:D)(sp:Int):YV prog G 221 [.ipt 16 [b0,b1,b2,b3,.v (.int .i64 sp),b5,b6,b7,b8,b9,b10,b11,b12,b13,b14,b15] 0] [] (Eqs (.v (.int .i64 (wI (1-sp)))) []):=by
 refine Yo (fn:=f221) (body:=(f221.body).get!) (rs:=[.tmp 2]) 1000 [] 9 ae ae ae ae ae ac λC _ hG hwf=>?_;subst hG;simp only[f221,Option.get!];simp only[go_sem,simprocAttr];with_reducible refine ZJ ?_
 simp only[go_sem,simprocAttr]
theorem Xda{C:Cx}{s:Heap}{id v T:Nat}{a0 a1 a2 a3 a5 a6 a7 a8 a9 a10 a11 a12 a13 a14 a15 b0 b1 b2 b3 b5 b6 b7 b8 b9 b10 b11 b12 b13 b14 b15:D}{sp:Int}{c:Prop}{l:List Nat}{K:D->Prop}(hs:s id=some (v,.arr true T 16 [[a0,a1,a2,a3,.v (.int .i64 sp),a5,a6,a7,a8,a9,a10,a11,a12,a13,a14,a15]] 0))(hsn:ZO s [a0,a1,a2,a3,.v (.int .i64 sp),a5,a6,a7,a8,a9,a10,a11,a12,a13,a14,a15]=some (c,[b0,b1,b2,b3,.v (.int .i64 sp),b5,b6,b7,b8,b9,b10,b11,b12,b13,b14,b15],l))(hc:c)(hK:K (.v (.int .i64 (wI (1-sp)))))(t:Prf [D.ept id v 16 0 0]):XrD prog C s 221 [.ept id v 16 0 0] K t:=
 ⟨_,_,XsC hs hsn hc rfl,Xpg b0 b1 b2 b3 b5 b6 b7 b8 b9 b10 b11 b12 b13 b14 b15 sp,⟨_,_,rfl,rfl⟩,λ_ _ h=>h.1▸⟨rfl,hK⟩⟩
def LoS(s' s:Heap):Prop:=∀i,i<51264->s' i=s i
theorem LoS.mk{s' s:Heap}(h:∀i,i<51264->s' i=s i):LoS s' s:=h
theorem Xv7{ws:List Int}{i n X k W:Nat}{v:D}(h:n<=W-X):((List.take i (ws.map e59)++List.take n (List.drop X (ws.map e59)))++List.drop (k+min n (W-X)) (ws.map e59)).set (X+0) (v::List.drop 1 (((List.take i (ws.map e59)++List.take n (List.drop X (ws.map e59)))++List.drop (k+min n (W-X)) (ws.map e59)).getD (X+0) []))=((List.take i (ws.map e59)++List.take n (List.drop X (ws.map e59)))++List.drop (k+n) (ws.map e59)).set X [v]:=by
 rw[Oa h,IT];congr 1;have m:∀x∈(List.take i (ws.map e59)++List.take n (List.drop X (ws.map e59)))++List.drop (k+n) (ws.map e59),List.drop 1 x=[]:=by
  intro x hx;have:x∈ws.map e59:=by
   rcases Wr.1 hx with hx|hx
   .rcases Wr.1 hx with hx|hx
    .exact WQ hx
    exact WR (WQ hx)
   exact WR hx
  obtain⟨y,_,rfl⟩:=WI.1 this;rfl
 rw[Wk];cases e:((List.take i (ws.map e59)++List.take n (List.drop X (ws.map e59)))++List.drop (k+n) (ws.map e59))[X]? with
 |none=>rfl
 |some x=>exact congrArg _ (m x (W5 e))
theorem XrX{i k:Nat}(h:i<51264)(hk:51264<=k):(i=k)=False:=eq_false ab
open Go.Proofs Tryz
set_option maxRecDepth 10000
theorem XiB{α:Type}{e:α->List D}{p:α->Prop}:∀{es:List (List D)},(∀x∈es,∃y,x=e y/\p y)->∃l:List α,es=l.map e/\∀x∈l,p x
 |[],_=>⟨[],rfl,λx h=>by cases h⟩
 |x::es,h=>by obtain⟨y,rfl,hy⟩:=h x ac;obtain⟨l,rfl,hl⟩:=XiB (e:=e) (p:=p) (es:=es) λz hz=>h z (WT _ hz);exact⟨y::l,rfl,λz hz=>by rcases Ig.1 hz with rfl|hz;exact hy;exact hl z hz⟩
section
variable {P:Program}{t e:TypeId}{fs:List (Nat×Nat×Nat)}{a b s:Nat}{z:Value}
theorem XuW(m:Nat)(h:Xm P t=some ⟨a,b,z,.slice e s⟩)(ds:List D):Sh P (m+1) t ds=∃es,ds=[.isl e (P.cellsOf e) es]/\es.length<=Xs/\es.length*P.bytesOf e<=Xs/\∀x∈es,Sh P m e x:=by simp only[Sh,(XX h).1]
theorem Xtd(h:Xm P t=some ⟨a,b,z,.int .i64⟩):∀(m:Nat) (ds:List D),Sh P m t ds->∃n,ds=[.v (.int .i64 n)]/\True
 |0,_,h'=>h'.elim
 |m+1,ds,h'=>by simp only[Sh,XfH h]at h';obtain⟨n,rfl,h1,h2⟩:=h';exact⟨n,rfl,trivial⟩
end
theorem Xv8:prog.cellsOf 3=1:=ae
theorem XuX(m:Nat)(x:List D)(h:Sh prog m 3 x):∃y:Int,x=e3 y/\True:=by obtain⟨n,rfl,hp⟩:=Xtd ty3 m x h;exact⟨n,rfl,trivial⟩
theorem Xwa:∀(m:Nat) (ds:List D),Sh prog m 22 ds->∃l:List Int,ds=[.isl 3 1 (l.map e3)]/\l.length*8<=Xs/\∀x∈l,(λ_=>True) x
 |0,_,h=>h.elim
 |m+1,ds,h=>by rw[show Sh prog (m+1) 22 ds=_ from XuW m Xue ds]at h;obtain⟨es,rfl,_,hb,hs⟩:=h;obtain⟨l,rfl,hl⟩:=XiB (p:=(λ_=>True)) (λx hx=>XuX m x (hs x hx));exact⟨l,by rw[Xv8],by rw[Ug,XjF]at hb;exact hb,hl⟩
open Go.Proofs Tryz
section
variable {α β:Type}{o:Option α}{y:α}{f:Nat}{a args:List D}{l:List Ob}{e:α->D}{l':α->List Ob}{G:Nat->Option (List D)}{K:D->List Ob->Prop}
theorem OK.t[h:OK o f a l e l'](ho:o=some y)(hw:GW G)(hf:ZZ args a)(hK:K (e y) (l' y))(t:Prf args):CallG prog G f args l K t:=CallG.ofE (h.h G hw y ho) hf hK t
end
section
variable {C:Cx}{R:St->Prop}{k:List It}{st:St}{l:List Oper}{t:Prf (⟨l⟩:Array Oper)}{id:Nat}
theorem dp(h:dr prog C ⟨l⟩ st.k (mkS 0 l []) st λst'=>run prog C R 1000 k ⟨st'.t,st'.s,st'.n,st.k+l.length⟩)(hc:XfZ l (Xa7 l []) []=true:=by kernel_rfl)(hrd:C.rd=none:=by rfl):DrawnG prog C R id ⟨l⟩ k st t:=
 DrawnG.auto 1000 XiA hc h t hrd
theorem dqh(f id:Nat)(_:Fn f)(aux:List (Nat×List Nat×List Nat))(h:dr prog C ⟨l⟩ st.k (mkS 0 l aux) st λst'=>run prog C R 1000 k ⟨st'.t,st'.s,st'.n,st.k+l.length⟩)(hc:XfZ l (Xa7 l []) aux=true:=by kernel_rfl)(hrd:C.rd=none:=by rfl):DrawnG prog C R id ⟨l⟩ k st t:=
 DrawnG.auto 1000 XiA hc h t hrd
theorem dq(f id:Nat)(_:Fn f)(aux:List (Nat×List Nat×List Nat))(h:dr prog C ⟨l⟩ st.k (mkS 0 l aux) st λst'=>run prog C R 1000 k ⟨st'.t,st'.s,st'.n,st.k+l.length⟩)(ho:C.off=0:=by rfl)(hc:XfZ l (Xa7 l []) aux=true:=by kernel_rfl)(hrd:C.rd=none:=by rfl):DrawnG prog C R id ⟨l⟩ k st t:=
 DrawnG.auto 1000 XiA hc h t hrd
theorem dqi(o f id:Nat)(_:Fn f)(aux:List (Nat×List Nat×List Nat))(h:dr prog C ⟨l⟩ st.k (mkS 0 l aux) st λst'=>run prog C R 1000 k ⟨st'.t,st'.s,st'.n,st.k+l.length⟩)(ho:C.off=o:=by rfl)(hc:XfZ l (Xa7 l []) aux=true:=by kernel_rfl)(hrd:C.rd=none:=by rfl):DrawnG prog C R id ⟨l⟩ k st t:=
 DrawnG.auto 1000 XiA hc h t hrd
theorem dqm{c:Oper}(f id:Nat)(_:Fn f)(m:Nat)(aux:List (Nat×List Nat×List Nat))(h:dr prog C ⟨l⟩ st.k ((mkS 0 l aux).take m) st λst'=>XfY prog C (ZM c.op) c.dst ⟨st'.t,st'.s,st'.n,st.k+m⟩ (λst2=>dr prog C ⟨l⟩ st2.k ((mkS 0 l aux).drop (m+1)) st2 λst'=>run prog C R 1000 k ⟨st'.t,st'.s,st'.n,st2.k+l.length⟩) trivial)(hl:l[m]? = some c:=by rfl)(hg:c.guard=none:=by rfl)(ho:C.off=0:=by rfl)(hc:(XfZ l (Xa7 l []) aux&&(Xqb (mkF l (Xa7 l []) aux)&&(Xdt m (mkF l (Xa7 l []) aux)&&Xdt (m+1) (mkF l (Xa7 l []) aux))))=true:=by kernel_rfl)(hrd:C.rd=none:=by rfl):DrawnG prog C R id ⟨l⟩ k st t:=
 OQ 1000 m c XiA hc hl hg h t hrd
end
abbrev Iv{α:Type}(o:Option α)(Q:α->Prop)(p:Prop):Prop:=∃x,o=some x/\Q x/\p
abbrev O1{α:Type}(o:Option α)(f:Nat)(a:List D)(e:α->D):Prop:=OK o f a [] e λ_=>[]
theorem VG{α β:Type}{i:Int}{f:α->Option β}{r:β}{Q:Prop}(h:bnd (Xd [] i) f=some r):Q:=by
 have e:Xd ([]:List α) i=none:=by unfold Xd;split<;>rfl
 rw[e]at h;unfold bnd at h;cases h
theorem VH{α:Type}{n:Nat}{Q:Prop}(h:n<([]:List α).length):Q:=absurd h (Nat.not_lt_zero _)
open Go.Proofs Tryz
abbrev vi(x:Int):D:=.v (.int .i64 x)
abbrev vu(x:Int):D:=.v (.int .u64 x)
abbrev vw(x:Int):D:=.v (.int .u32 x)
abbrev s3(l:List Int):D:=.isl 3 1 (l.map e3)
abbrev s4(l:List Bool):D:=.isl 4 1 (l.map e4)
abbrev s25(l:List (List Int)):D:=.isl 25 1 (l.map e25)
abbrev s59(l:List Int):D:=.isl 59 1 (l.map e59)
abbrev s86(l:List UB):D:=.isl 86 2 (l.map e86)
abbrev XcK(l:List UX):D:=.isl 121 3 (l.map XbR)
abbrev JP(l:List W6):D:=.isl 146 3 (l.map Vg)
abbrev XcL(l:List UH):D:=.isl 153 3 (l.map XaT)
abbrev Yn(l:List Wp):D:=.isl 159 4 (l.map YT)
abbrev XuY(l:List UY):D:=.isl 197 4 (l.map XcJ)
abbrev Xmj(l:List UU):D:=.isl 242 4 (l.map VL)
abbrev XuZ(l:List IC):D:=.isl 272 3 (l.map Xiy)
abbrev Xph(l:List Ik):D:=.isl 356 2 (l.map Xmi)
abbrev Xpi(l:List OA):D:=.isl 371 2 (l.map Xiz)
attribute [go_sem] vi vu vw s3 s4 s25 s59 s86 XcK JP XcL Yn XuY Xmj XuZ Xph Xpi
abbrev vb(x:Bool):D:=.v (.bool x)
abbrev c24(x:WP):D:=.agg (e24 x)
abbrev c28(x:Wh):D:=.agg (e28 x)
abbrev c32(x:Wq):D:=.agg (e32 x)
abbrev c35(x:WD):D:=.agg (e35 x)
abbrev c38(x:Uj):D:=.agg (e38 x)
abbrev c42(x:WO):D:=.agg (e42 x)
abbrev c44(x:Io):D:=.agg (e44 x)
abbrev c47(x:WS):D:=.agg (e47 x)
abbrev c54(x:Od):D:=.agg (e54 x)
abbrev c72(x:Ow):D:=.agg (e72 x)
abbrev c86(x:UB):D:=.agg (e86 x)
abbrev c98(x:Wy):D:=.agg (e98 x)
abbrev Xmk(x:U3):D:=.agg (XuP x)
abbrev Xte(x:OB):D:=.agg (XuQ x)
abbrev XiC(x:Wu):D:=.agg (Xta x)
abbrev Xtf(x:W6):D:=.agg (Vg x)
abbrev Xtg(x:Wp):D:=.agg (YT x)
abbrev Xpj(x:IN):D:=.agg (XuR x)
abbrev Xu0(x:UY):D:=.agg (XcJ x)
abbrev Xry(x:Un):D:=.agg (XuT x)
abbrev Xu1(x:UU):D:=.agg (VL x)
abbrev Xu2(x:Ox):D:=.agg (XuU x)
abbrev Jv(x:Wu):D:=.agg (Xs9 x)
abbrev XiD(x:Wp):D:=.agg (XuS x)
abbrev Xrz(x:Un):D:=.agg (XuO x)
abbrev r3(st:St)(i w:Nat)(l:List Int):Prop:=st.s i=some (w,.arr false 3 1 (l.map e3) 0)
abbrev r4(st:St)(i w:Nat)(l:List Bool):Prop:=st.s i=some (w,.arr false 4 1 (l.map e4) 0)
abbrev r59(st:St)(i w:Nat)(l:List Int):Prop:=st.s i=some (w,.arr false 59 1 (l.map e59) 0)
abbrev r86(st:St)(i w:Nat)(l:List UB):Prop:=st.s i=some (w,.arr false 86 2 (l.map e86) 0)
abbrev Xpk(st:St)(i w:Nat)(l:List UY):Prop:=st.s i=some (w,.arr false 104 4 (l.map XjG) 0)
abbrev XrA(st:St)(i w:Nat)(l:List W6):Prop:=st.s i=some (w,.arr false 146 3 (l.map Vg) 0)
abbrev Xth(st:St)(i w:Nat)(l:List UH):Prop:=st.s i=some (w,.arr false 153 3 (l.map XaT) 0)
abbrev VM(st:St)(i w:Nat)(l:List Wp):Prop:=st.s i=some (w,.arr false 159 4 (l.map YT) 0)
abbrev Xti(st:St)(i w:Nat)(l:List UU):Prop:=st.s i=some (w,.arr false 242 4 (l.map VL) 0)
abbrev Xtj(st:St)(i w:Nat)(l:List OA):Prop:=st.s i=some (w,.arr false 371 2 (l.map Xiz) 0)
abbrev bx(st:St)(i w T n:Nat)(l:List D):Prop:=st.s i=some (w,.arr true T n [l] 0)
abbrev pt(st:St)(x i w n:Nat):Prop:=st.t x=.ept i w n 0 0
abbrev ol(st:St)(x i w n k:Nat):Prop:=st.t x=.osl i w n 0 k
attribute [go_sem] vb bx pt ol c24 c28 c32 c35 c38 c42 c44 c47 c54 c72 c86 c98 Xmk Xte XiC Xtf Xtg Xpj Xu0 Xry Xu1 Xu2 Jv XiD Xrz r3 r4 r59 r86 Xpk XrA Xth VM Xti Xtj
theorem lp{P:Program}{C:Cx}{R:St->Prop}{c:Code}{k:List It}{st:St}{α β:Type}{o:Option α}{f:α->Option β}{r:β}(I:(α->Prop)->Nat->St->Prop)(hr:bnd o f=some r)(n:Nat)(round:∀n st,I (λy=>f y=some r) n st->run P C R 1000 (.code c::.stop (λst'=>∃n',n'<n/\I (λy=>f y=some r) n' st')::k) st)(h0:∀ex,o=some ex->f ex=some r->I (λy=>f y=some r) n st)(t':Prf c):LoopG P C R c k st t':=
 Xnt hr 1000 n h0 round t'
theorem rq{α:Type}{o:Option α}{f:Nat}{a:List D}{l:List Ob}{e:α->D}{l':α->List Ob}(fn:Func)(fr:List Nat)(h:∀G,GW G->∀r,o=some r->∀(C:Cx)x,C.G=G->WfL prog a->Fn f->run prog (C.sub 0 x) (JW prog fn.results.toList fr l.length (Eqs (e r) (l' r))) 1000 [.code (fn.body.get!)] (st0 a l fn.ntmps))(hk:(prog.funcs[f]?,fn.body,fn.name== "runtime.NumGoroutine",a.length.ble fn.ntmps)=(some fn,some (fn.body.get!),false,true):=by kernel_rfl):OK o f a l e l':=by injection hk with h1 hk;injection hk with h2 hk;injection hk with h3 h6;exact⟨λG hw r hr=>Yo 1000 fr fn.ntmps h1 h2 h3 rfl rfl (Nat.le_of_ble_eq_true h6) λC x hG hwf=>h G hw r hr C x hG hwf ⟨⟩⟩
theorem rk{α:Type}{o:Option α}{f:Nat}{a:List D}{l:List Ob}{e:α->D}{l':α->List Ob}(fn:Func)(h:∀G,GW G->∀r,o=some r->∀(C:Cx)x,C.G=G->WfL prog a->Fn f->run prog (C.sub 0 x) (JW prog fn.results.toList [] l.length (Eqs (e r) (l' r))) 1000 [.code (fn.body.get!)] (st0 a l fn.ntmps))(hk:(prog.funcs[f]?,fn.body,fn.name== "runtime.NumGoroutine",a.length.ble fn.ntmps)=(some fn,some (fn.body.get!),false,true):=by kernel_rfl):OK o f a l e l':=
 rq fn [] h hk
attribute [go_sem] List.toList_toArray
theorem exI{α:Sort _}{p:α->Prop}{Q:Prop}(h:∀x,p x->Q):(∃x,p x)->Q:=λ⟨x,y⟩=>h x y
theorem anI{A B C Q:Prop}(h:A->B->C->Q):A/\B/\C->Q:=λ⟨x,y,z⟩=>h x y z
theorem loI{s t:Heap}{C Q:Prop}(h:LoS s t->C->Q):LoS s t/\C->Q:=λ⟨x,y⟩=>h x y
theorem loA{s t:Heap}{C:Prop}(h:LoS s t)(k:C):LoS s t/\C:=⟨h,k⟩
theorem orI{A B Q:Prop}(h:A->Q)(k:B->Q):A\/B->Q:=λx=>x.elim h k
theorem aaI{A B C Q:Prop}(h:A/\B->C->Q):(A/\B)/\C->Q:=λ⟨x,y⟩=>h x y
theorem ci{C:Cx}{f:FuncId}{args:List D}{dst:Option Nat}{st:St}{K:St->Prop}(fn:Func)(off:Nat)(h:∀x,run prog (C.sub off x) (XfU prog fn.results.toList (kOf dst st K)) 1000 [.code (fn.body.get!)] (stI args st.s fn.ntmps st.k))(t:Prf args)(hk:(prog.funcs[f]?,fn.body,fn.name== "runtime.NumGoroutine",args.length.ble fn.ntmps)=(some fn,some (fn.body.get!),false,true):=by kernel_rfl):CallX prog C f args dst st K t:=by injection hk with h1 hk;injection hk with h2 hk;injection hk with h3 h6;exact CallX.inl (rs:=fn.results.toList) (nt:=fn.ntmps) off 1000 (by simp only[Wx,and_true,true_and];exact⟨h1,h2,h3,h6⟩) h t
theorem cxI{P:Program}{C:Cx}{f:FuncId}{args:List D}{dst:Option Nat}{st:St}{K:St->Prop}{t:Prf args}(h:CallX P C f args dst st K t):CallX P C f args dst st K t:=h
theorem dgI{P:Program}{C:Cx}{R:St->Prop}{k:List It}{st:St}{i:Nat}{l:Array Oper}{t:Prf l}(h:DrawnG P C R i l k st t):DrawnG P C R i l k st t:=h
theorem lgI{P:Program}{C:Cx}{R:St->Prop}{c:Code}{k:List It}{st:St}{t:Prf c}(h:LoopG P C R c k st t):LoopG P C R c k st t:=h
theorem nsE{α:Type}{x:α}{Q:Prop}(h:none=some x):Q:=nomatch h
theorem ivP{α:Type}{o:Option α}{Q:α->Prop}{p:Prop}{x:α}(h:o=some x)(k:Q x)(l:p):Iv o Q p:=⟨x,h,k,l⟩
theorem zv{p:Prop}(h:p:=by first|((repeat first|((first|with_reducible refine ivP hr hk ?_|refine ivP hr hk ?_);(try with_reducible refine loA ?_ ?_)<;>exact zz)|apply Exists.intro);done)|fail):p:=h
theorem zr{p:Prop}(h:p:=by first|(clear hr;(try clear E);(try clear Fq);intro n1 st;(repeat with_reducible refine exI λ_=>?_);(with_reducible refine anI λhr hk=>?_);(try with_reducible refine loI λhl0=>?_);(repeat' first|with_reducible refine orI ?_ ?_|with_reducible refine exI λ_=>?_);all_goals ((first|((with_reducible refine aaI λE z0=>?_);repeat' first|subst z0|(obtain⟨z1,z0⟩:=z0;try subst z1))|intro E);obtain _|n1:=n1;(·exact nsE (show none=some _ from hr));rw[lq]at hr;clear lq;exact zz))|fail):p:=h
theorem sp:True:=trivial
theorem hse:True:=trivial
theorem hgw:True:=trivial
theorem zl{p:Prop}(h:p:=by first|((intro i hi;first|rfl|exact hl0 i hi|(simp only[Xdr,XfV,XiX,YB,XrX hi,hi,simprocAttr,if_true,if_false];first|done|exact hl0 i hi)|(simp only[Xdr,XfV,XiX,YB,XrX hi,hi,simprocAttr,if_true,if_false]));done)|fail):p:=h
theorem zq{p:Prop}(h:p:=by first|(first|rfl|(simp only[go_sem,simprocAttr,E,Fq,hl3,hl4,XeA,Zq,XeC,Xae,Xag,Xai,Xak,XT,JE,JF,Xao,Xaq,JG,hm3,hm4,XeB,KN,XeD,Xaf,Xah,Xaj,Xal,ZL,Xam,Xan,Xap,Xar,Xas,hgw,hse,EF,YB,Ws,WA,UF];(repeat' first|rfl|refine⟨?_,?_⟩);done))|fail):p:=h
theorem zs{p:Prop}(h:p:=by first|rfl|(simp only[go_sem,simprocAttr,E,Fq,hl3,hl4,XeA,Zq,XeC,Xae,Xag,Xai,Xak,XT,JE,JF,Xao,Xaq,JG,hm3,hm4,XeB,KN,XeD,Xaf,Xah,Xaj,Xal,ZL,Xam,Xan,Xap,Xar,Xas,hgw,hse,EF,YB,Ws,WA,UF];(repeat' first|rfl|exact Xv7 ab|omega|refine⟨?_,?_⟩);done)|fail):p:=h
theorem zf{p:Prop}(h:p:=by first|(refine Yq hr ?_;rintro rfl;(try simp only[go_sem,simprocAttr,E,Fq,hl3,hl4,XeA,Zq,XeC,Xae,Xag,Xai,Xak,XT,JE,JF,Xao,Xaq,JG,hm3,hm4,XeB,KN,XeD,Xaf,Xah,Xaj,Xal,ZL,Xam,Xan,Xap,Xar,Xas,hgw,hse,EF,YB,Ws,WA,UF]);first|(apply Xcl (K:=λs=>K (nxS _ _ _ s _ _)) (λp wp w4 w5 hp h=>hK _ hk2 _ _ p wp w4 w5 hp h) 51840 (hp:=.inl rfl);refine⟨?_,?_,?_,?_,?_,?_⟩;(iterate 6 (·exact zs));exact zl)|(apply Xcl (K:=λs=>K (nxS _ _ _ s _ _)) (λp wp w4 w5 hp h=>hK _ hk2 _ _ p wp w4 w5 hp h) 210816 (hp:=.inr rfl);refine⟨?_,?_,?_,?_,?_,?_⟩;(iterate 6 (·exact zs));exact zl)|(refine Xpf (K:=λs=>K (nxS _ _ _ s _ _)) (λh=>hK _ hk2 _ _ h) ?_ ?_;refine⟨?_,?_,?_,?_,?_,?_⟩;(iterate 6 (·exact zs));exact zl))|fail):p:=h
theorem zz{p:Prop}(h:p:=by first|((repeat' first|((with_reducible refine LoS.mk ?_);exact zl)|(refine⟨_,UQ _,?_⟩;first|exact zv|(simp only[go_sem,simprocAttr]at hk;exact zv))|(refine El.el hr ?_;clear hr;intro hr)|(with_reducible intro h;refine Y5 hr h ?_;clear hr;intro hr)|with_reducible intro _|(refine Yq hr ?_;rintro rfl;have hr:=hk;clear hk)|simp only[go_sem,simprocAttr,E,Fq,hl3,hl4,XeA,Zq,XeC,Xae,Xag,Xai,Xak,XT,JE,JF,Xao,Xaq,JG,hm3,hm4,XeB,KN,XeD,Xaf,Xah,Xaj,Xal,ZL,Xam,Xan,Xap,Xar,Xas,hgw,hse,EF,YB,Ws,WA,UF]|(with_reducible first|apply XP|apply XO|apply YF|apply YN|apply YO)|((first|with_reducible refine Jh hr ah ?_ ?_|(with_reducible refine KO hr ?_ ?_;rotate_left;intro p;rotate_right));(·simp only[go_sem,simprocAttr,hgw,hse,EF,YB,Ws,WA,UF]);intro hp hn hd hr;(try have hl3:=hd _ e3;simp only[go_sem,simprocAttr]at hl3);(try have hl4:=hd _ e4;simp only[go_sem,simprocAttr]at hl4);(try have XeA:=hd _ e25;simp only[go_sem,simprocAttr]at XeA);(try have Zq:=hd _ e59;simp only[go_sem,simprocAttr]at Zq);(try have XeC:=hd _ e86;simp only[go_sem,simprocAttr]at XeC);(try have Xae:=hd _ XjG;simp only[go_sem,simprocAttr]at Xae);(try have Xag:=hd _ XbR;simp only[go_sem,simprocAttr]at Xag);(try have Xai:=hd _ Vg;simp only[go_sem,simprocAttr]at Xai);(try have Xak:=hd _ XaT;simp only[go_sem,simprocAttr]at Xak);(try have XT:=hd _ YT;simp only[go_sem,simprocAttr]at XT);(try have JE:=hd _ XcJ;simp only[go_sem,simprocAttr]at JE);(try have JF:=hd _ VL;simp only[go_sem,simprocAttr]at JF);(try have Xao:=hd _ Xiy;simp only[go_sem,simprocAttr]at Xao);(try have Xaq:=hd _ Xmi;simp only[go_sem,simprocAttr]at Xaq);(try have JG:=hd _ Xiz;simp only[go_sem,simprocAttr]at JG))|(refine YG ?_ ?_;.first|assumption|omega|(dsimp only at *;omega))|((with_reducible first|refine Xk2 hr ah ?_|refine Xpe hr ah ?_);intro hp hn hd hr;(try simp only[WK,Ws,WA]at hn);(try have hm3:=hd _ e3;simp only[go_sem,simprocAttr]at hm3);(try have hm4:=hd _ e4;simp only[go_sem,simprocAttr]at hm4);(try have XeB:=hd _ e25;simp only[go_sem,simprocAttr]at XeB);(try have KN:=hd _ e59;simp only[go_sem,simprocAttr]at KN);(try have XeD:=hd _ e86;simp only[go_sem,simprocAttr]at XeD);(try have Xaf:=hd _ XjG;simp only[go_sem,simprocAttr]at Xaf);(try have Xah:=hd _ XbR;simp only[go_sem,simprocAttr]at Xah);(try have Xaj:=hd _ Vg;simp only[go_sem,simprocAttr]at Xaj);(try have Xal:=hd _ XaT;simp only[go_sem,simprocAttr]at Xal);(try have ZL:=hd _ YT;simp only[go_sem,simprocAttr]at ZL);(try have Xam:=hd _ XcJ;simp only[go_sem,simprocAttr]at Xam);(try have Xan:=hd _ VL;simp only[go_sem,simprocAttr]at Xan);(try have Xap:=hd _ Xiy;simp only[go_sem,simprocAttr]at Xap);(try have Xar:=hd _ Xmi;simp only[go_sem,simprocAttr]at Xar);(try have Xas:=hd _ Xiz;simp only[go_sem,simprocAttr]at Xas))|((with_reducible first|refine XgP hr ?_|refine Xml hr ?_);intro p hp hn hd hr;(try simp only[WK,Ws,WA]at hn);(try have hm3:=hd _ e3;simp only[go_sem,simprocAttr]at hm3);(try have hm4:=hd _ e4;simp only[go_sem,simprocAttr]at hm4);(try have XeB:=hd _ e25;simp only[go_sem,simprocAttr]at XeB);(try have KN:=hd _ e59;simp only[go_sem,simprocAttr]at KN);(try have XeD:=hd _ e86;simp only[go_sem,simprocAttr]at XeD);(try have Xaf:=hd _ XjG;simp only[go_sem,simprocAttr]at Xaf);(try have Xah:=hd _ XbR;simp only[go_sem,simprocAttr]at Xah);(try have Xaj:=hd _ Vg;simp only[go_sem,simprocAttr]at Xaj);(try have Xal:=hd _ XaT;simp only[go_sem,simprocAttr]at Xal);(try have ZL:=hd _ YT;simp only[go_sem,simprocAttr]at ZL);(try have Xam:=hd _ XcJ;simp only[go_sem,simprocAttr]at Xam);(try have Xan:=hd _ VL;simp only[go_sem,simprocAttr]at Xan);(try have Xap:=hd _ Xiy;simp only[go_sem,simprocAttr]at Xap);(try have Xar:=hd _ Xmi;simp only[go_sem,simprocAttr]at Xar);(try have Xas:=hd _ Xiz;simp only[go_sem,simprocAttr]at Xas))|(with_reducible refine XjI hr ?_ ?_;(·simp only[go_sem]);intro p hp hn hd hr;(try have hl3:=hd _ e3;simp only[go_sem,simprocAttr]at hl3);(try have hl4:=hd _ e4;simp only[go_sem,simprocAttr]at hl4);(try have XeA:=hd _ e25;simp only[go_sem,simprocAttr]at XeA);(try have Zq:=hd _ e59;simp only[go_sem,simprocAttr]at Zq);(try have XeC:=hd _ e86;simp only[go_sem,simprocAttr]at XeC);(try have Xae:=hd _ XjG;simp only[go_sem,simprocAttr]at Xae);(try have Xag:=hd _ XbR;simp only[go_sem,simprocAttr]at Xag);(try have Xai:=hd _ Vg;simp only[go_sem,simprocAttr]at Xai);(try have Xak:=hd _ XaT;simp only[go_sem,simprocAttr]at Xak);(try have XT:=hd _ YT;simp only[go_sem,simprocAttr]at XT);(try have JE:=hd _ XcJ;simp only[go_sem,simprocAttr]at JE);(try have JF:=hd _ VL;simp only[go_sem,simprocAttr]at JF);(try have Xao:=hd _ Xiy;simp only[go_sem,simprocAttr]at Xao);(try have Xaq:=hd _ Xmi;simp only[go_sem,simprocAttr]at Xaq);(try have JG:=hd _ Xiz;simp only[go_sem,simprocAttr]at JG);(try simp only[W9]at hn))|((with_reducible first|refine cxI ?_|refine lgI ?_|refine dgI ?_);exact sp)|(with_reducible first|refine CallX.c ?_ _|refine OK.c hr hw ?_ (λy hr=>?_) _|refine OK.d hr hw ?_ (λy hr=>?_) _)|refine dp ?_|(refine Yq hr ?_;rintro rfl;with_reducible refine ZJ ?_)|exact XaY hr|exact VG hr|(apply VH;assumption)|with_reducible refine XtL (λhi=>?_) (λhi=>?_)|(exfalso;omega)|((first|refine Y5 (c:=true) hr rfl ?_|refine Y5 (c:=false) hr rfl ?_|refine Y5 hr ah ?_);intro hr)|rw[Uy ai]|omega|rw[Uy (by simp only[WK,Ug,WA];omega)]|(with_reducible apply Xda;(·simp only[go_sem,simprocAttr,E,Fq,hl3,hl4,XeA,Zq,XeC,Xae,Xag,Xai,Xak,XT,JE,JF,Xao,Xaq,JG,hm3,hm4,XeB,KN,XeD,Xaf,Xah,Xaj,Xal,ZL,Xam,Xan,Xap,Xar,Xas,hgw,hse,EF,YB,Ws,WA,UF];repeat' first|rfl|refine⟨?_,?_⟩);(·simp only[ZO,snap,go_sem,simprocAttr,E,Fq,hl3,hl4,XeA,Zq,XeC,Xae,Xag,Xai,Xak,XT,JE,JF,Xao,Xaq,JG,hm3,hm4,XeB,KN,XeD,Xaf,Xah,Xaj,Xal,ZL,Xam,Xan,Xap,Xar,Xas,hgw,hse,EF,YB,Ws,WA,UF];repeat' first|rfl|refine⟨?_,?_⟩);(·simp only[go_sem,simprocAttr,E,Fq,hl3,hl4,XeA,Zq,XeC,Xae,Xag,Xai,Xak,XT,JE,JF,Xao,Xaq,JG,hm3,hm4,XeB,KN,XeD,Xaf,Xah,Xaj,Xal,ZL,Xam,Xan,Xap,Xar,Xas,hgw,hse,EF,YB,Ws,WA,UF];first|done|omega|(simp;omega)))|fail);done)|fail):p:=h
theorem zh{p:Prop}(h:p:=by first|(rintro _ hw r hr C _ rfl hwf hf;have hgw:=hw.1;have hse:=@XgM _ hw;exact zz)|fail):p:=h
end Go.Sx
