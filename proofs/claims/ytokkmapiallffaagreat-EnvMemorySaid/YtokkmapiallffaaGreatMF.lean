import Derived.Test.YtokkmapiallffaaGreatProg
import Derived.Test.YtokkmapiallffaaGreatMR
import Derived.Test.YtokkmapiallffaaGreatMJ
set_option linter.all false
namespace Go.Sx
open Go.Proofs Tryz
theorem ty3:Xq prog 3=some ⟨1,8,(.int .i64 0),.int .i64⟩:=ae
theorem Xj1:prog.bytesOf 3=8:=ae
theorem ty4:Xq prog 4=some ⟨1,1,(.bool false),.bool⟩:=ae
theorem Xtb:prog.bytesOf 4=1:=ae
theorem ty9:Xq prog 9=some ⟨1,16,(.string (ByteArray.mk #[])),.str⟩:=ae
theorem Xui:Xq prog 22=some ⟨1,24,(.slice none 0 0),.slice 3 1⟩:=ae
theorem XvD:Xq prog 24=some ⟨2,16,(.agg #[(.int .i64 0),(.int .i64 0)]),.struct [(0,1,3),(1,1,3)]⟩:=ae
theorem Xrq:prog.bytesOf 24=16:=ae
theorem XvE:Xq prog 25=some ⟨1,24,(.slice none 0 0),.slice 52 1⟩:=ae
theorem Xrr:prog.bytesOf 25=24:=ae
theorem XvF:Xq prog 26=some ⟨1,24,(.slice none 0 0),.slice 122 4⟩:=ae
theorem XvG:Xq prog 28=some ⟨6,80,(.agg #[(.int .i64 0),(.int .i64 0),(.slice none 0 0),(.slice none 0 0),(.int .i64 0),(.int .i64 0)]),.struct [(0,2,24),(2,1,25),(3,1,26),(4,1,3),(5,1,3)]⟩:=ae
theorem Xrs:prog.bytesOf 28=80:=ae
theorem XvH:Xq prog 29=some ⟨1,24,(.slice none 0 0),.slice 158 3⟩:=ae
theorem XvI:Xq prog 30=some ⟨1,24,(.slice none 0 0),.slice 129 3⟩:=ae
theorem XvJ:Xq prog 32=some ⟨3,72,(.agg #[(.slice none 0 0),(.slice none 0 0),(.slice none 0 0)]),.struct [(0,1,29),(1,1,30),(2,1,22)]⟩:=ae
theorem Xrt:prog.bytesOf 32=72:=ae
theorem XvK:Xq prog 33=some ⟨1,24,(.slice none 0 0),.slice 96 3⟩:=ae
theorem XvL:Xq prog 35=some ⟨1,24,(.agg #[(.slice none 0 0)]),.struct [(0,1,33)]⟩:=ae
theorem Xru:prog.bytesOf 35=24:=ae
theorem XvM:Xq prog 36=some ⟨1,24,(.slice none 0 0),.slice 93 2⟩:=ae
theorem XvN:Xq prog 38=some ⟨13,248,(.agg #[(.int .i64 0),(.int .i64 0),(.slice none 0 0),(.slice none 0 0),(.int .i64 0),(.int .i64 0),(.slice none 0 0),(.slice none 0 0),(.slice none 0 0),(.slice none 0 0),(.slice none 0 0),(.slice none 0 0),(.slice none 0 0)]),.struct [(0,6,28),(6,3,32),(9,1,35),(10,1,35),(11,1,36),(12,1,25)]⟩:=ae
theorem Xrv:prog.bytesOf 38=248:=ae
theorem XvO:Xq prog 39=some ⟨1,24,(.slice none 0 0),.slice 198 4⟩:=ae
theorem XvP:Xq prog 40=some ⟨1,24,(.slice none 0 0),.slice 277 3⟩:=ae
theorem XvQ:Xq prog 42=some ⟨10,208,(.agg #[(.int .i64 0),(.int .i64 0),(.slice none 0 0),(.slice none 0 0),(.slice none 0 0),(.slice none 0 0),(.slice none 0 0),(.slice none 0 0),(.slice none 0 0),(.slice none 0 0)]),.struct [(0,2,24),(2,1,39),(3,3,32),(6,1,35),(7,1,35),(8,1,40),(9,1,25)]⟩:=ae
theorem Xrw:prog.bytesOf 42=208:=ae
theorem XvR:Xq prog 44=some ⟨24,480,(.agg #[(.int .i64 0),(.int .i64 0),(.slice none 0 0),(.slice none 0 0),(.int .i64 0),(.int .i64 0),(.slice none 0 0),(.slice none 0 0),(.slice none 0 0),(.slice none 0 0),(.slice none 0 0),(.slice none 0 0),(.slice none 0 0),(.int .i64 0),(.int .i64 0),(.slice none 0 0),(.slice none 0 0),(.slice none 0 0),(.slice none 0 0),(.slice none 0 0),(.slice none 0 0),(.slice none 0 0),(.slice none 0 0),(.slice none 0 0)]),.struct [(0,13,38),(13,10,42),(23,1,25)]⟩:=ae
theorem Xrx:prog.bytesOf 44=480:=ae
theorem XvS:Xq prog 47=some ⟨6,48,(.agg #[(.int .i64 0),(.int .i64 0),(.int .i64 0),(.int .i64 0),(.int .i64 0),(.int .i64 0)]),.struct [(0,1,3),(1,1,3),(2,1,3),(3,1,3),(4,1,3),(5,1,3)]⟩:=ae
theorem Xry:prog.bytesOf 47=48:=ae
theorem XvT:Xq prog 48=some ⟨1,8,(.int .i64 0),.int .i64⟩:=ae
theorem XvU:Xq prog 52=some ⟨1,8,(.int .u64 0),.int .u64⟩:=ae
theorem Xll:prog.bytesOf 52=8:=ae
theorem XvV:Xq prog 57=some ⟨1,4,(.int .u32 0),.int .u32⟩:=ae
theorem XvW:Xq prog 59=some ⟨3,24,(.agg #[(.int .i64 0),(.int .i64 0),(.int .u32 0)]),.struct [(0,1,3),(1,1,3),(2,1,57)]⟩:=ae
theorem Xrz:prog.bytesOf 59=24:=ae
theorem Xtc:YH prog 59=some [some .i64,some .i64,some .u32]:=ae
theorem XvX:Xq prog 62=some ⟨2,32,(.agg #[(.slice none 0 0),(.int .i64 0)]),.struct [(0,1,22),(1,1,3)]⟩:=ae
theorem XrA:prog.bytesOf 62=32:=ae
theorem XvY:Xq prog 67=some ⟨1,24,(.slice none 0 0),.slice 115 4⟩:=ae
theorem XvZ:Xq prog 69=some ⟨2,48,(.agg #[(.slice none 0 0),(.slice none 0 0)]),.struct [(0,1,22),(1,1,67)]⟩:=ae
theorem XrB:prog.bytesOf 69=48:=ae
theorem Xv0:Xq prog 80=some ⟨4,32,(.agg #[(.int .i64 0),(.int .u64 0),(.int .u64 0),(.int .u64 0)]),.struct [(0,1,3),(1,1,52),(2,1,52),(3,1,52)]⟩:=ae
theorem XrC:prog.bytesOf 80=32:=ae
theorem Xv1:Xq prog 86=some ⟨3,24,(.agg #[(.int .i64 0),(.int .i64 0),(.int .i64 0)]),.array 3 48 1⟩:=ae
theorem Xtd:YH prog 86=some [some .i64,some .i64,some .i64]:=ae
theorem Xv2:Xq prog 93=some ⟨2,16,(.agg #[(.int .u64 0),(.int .i64 0)]),.struct [(0,1,52),(1,1,3)]⟩:=ae
theorem Xlm:prog.bytesOf 93=16:=ae
theorem Xv3:Xq prog 96=some ⟨3,24,(.agg #[(.int .i64 0),(.int .u64 0),(.bool false)]),.struct [(0,1,3),(1,1,52),(2,1,4)]⟩:=ae
theorem Xln:prog.bytesOf 96=24:=ae
theorem Xuj:Xq prog 104=some ⟨1,8,(.int .u64 0),.int .u64⟩:=ae
theorem Xuk:Xq prog 115=some ⟨4,48,(.agg #[(.int .i64 0),(.int .i64 0),(.int .u32 0),(.slice none 0 0)]),.struct [(0,3,59),(3,1,25)]⟩:=ae
theorem Xo9:prog.bytesOf 115=48:=ae
theorem Xul:Xq prog 122=some ⟨4,32,(.agg #[(.int .i64 0),(.int .i64 0),(.int .i64 0),(.int .i64 0)]),.struct [(0,1,3),(1,1,3),(2,1,3),(3,1,3)]⟩:=ae
theorem XiR:prog.bytesOf 122=32:=ae
theorem XrD:YH prog 122=some [some .i64,some .i64,some .i64,some .i64]:=ae
theorem Xum:Xq prog 129=some ⟨3,24,(.agg #[(.int .i64 0),(.int .i64 0),(.bool false)]),.struct [(0,1,3),(1,1,3),(2,1,4)]⟩:=ae
theorem XiS:prog.bytesOf 129=24:=ae
theorem Xun:Xq prog 133=some ⟨3,16,(.agg #[(.bool false),(.bool false),(.int .u64 0)]),.struct [(0,1,4),(1,1,4),(2,1,52)]⟩:=ae
theorem Xpa:prog.bytesOf 133=16:=ae
theorem Xuo:Xq prog 139=some ⟨1,8,(.agg #[(.int .i64 0)]),.struct [(0,1,48)]⟩:=ae
theorem Xup:Xq prog 142=some ⟨16,208,(.agg #[(.int .i64 0),(.int .i64 0),(.slice none 0 0),(.slice none 0 0),(.int .i64 0),(.int .i64 0),(.slice none 0 0),(.slice none 0 0),(.slice none 0 0),(.int .i64 0),(.int .i64 0),(.int .i64 0),(.int .i64 0),(.int .i64 0),(.int .i64 0),(.int .i64 0)]),.struct [(0,6,28),(6,1,25),(7,1,22),(8,1,25),(9,1,3),(10,6,47)]⟩:=ae
theorem Xpb:prog.bytesOf 142=208:=ae
theorem Xuq:Xq prog 158=some ⟨3,24,(.agg #[(.int .i64 0),(.int .u64 0),(.bool false)]),.struct [(0,1,3),(1,1,52),(2,1,4)]⟩:=ae
theorem XiT:prog.bytesOf 158=24:=ae
theorem Xur:Xq prog 168=some ⟨2,16,(.agg #[(.int .i64 0),(.int .i64 0)]),.struct [(0,1,3),(1,1,3)]⟩:=ae
theorem Xpc:prog.bytesOf 168=16:=ae
theorem Xus:Xq prog 176=some ⟨1,24,(.slice none 0 0),.slice 93 2⟩:=ae
theorem Xut:Xq prog 179=some ⟨3,72,(.agg #[(.slice none 0 0),(.slice none 0 0),(.slice none 0 0)]),.struct [(0,3,32)]⟩:=ae
theorem Xpd:prog.bytesOf 179=72:=ae
theorem Xuu:Xq prog 187=some ⟨1,24,(.slice none 0 0),.slice 25 1⟩:=ae
theorem Xuv:Xq prog 189=some ⟨1,24,(.slice none 0 0),.slice 4 1⟩:=ae
theorem Xuw:Xq prog 198=some ⟨4,48,(.agg #[(.int .i64 0),(.int .i64 0),(.int .u32 0),(.slice none 0 0)]),.struct [(0,3,59),(3,1,25)]⟩:=ae
theorem Xpe:prog.bytesOf 198=48:=ae
theorem Xux:Xq prog 209=some ⟨1,8,(.pointer none),.other⟩:=ae
theorem Xuy:Xq prog 210=some ⟨16,208,(.agg #[(.int .i64 0),(.int .i64 0),(.slice none 0 0),(.slice none 0 0),(.int .i64 0),(.int .i64 0),(.slice none 0 0),(.slice none 0 0),(.slice none 0 0),(.int .i64 0),(.int .i64 0),(.int .i64 0),(.int .i64 0),(.int .i64 0),(.int .i64 0),(.int .i64 0)]),.struct [(0,6,28),(6,1,25),(7,1,22),(8,1,25),(9,1,3),(10,6,47)]⟩:=ae
theorem Xuz:Xq prog 234=some ⟨1,8,(.agg #[(.int .i64 0)]),.struct [(0,1,3)]⟩:=ae
theorem XuA:Xq prog 237=some ⟨1,8,(.agg #[(.int .i64 0)]),.struct [(0,1,3)]⟩:=ae
theorem XuB:Xq prog 249=some ⟨3,24,(.agg #[(.int .i64 0),(.int .i64 0),(.int .u64 0)]),.struct [(0,1,3),(1,1,3),(2,1,52)]⟩:=ae
theorem Xpf:prog.bytesOf 249=24:=ae
theorem XrE:YH prog 249=some [some .i64,some .i64,some .u64]:=ae
theorem XuC:Xq prog 256=some ⟨1,24,(.slice none 0 0),.slice 262 4⟩:=ae
theorem XuD:Xq prog 262=some ⟨4,32,(.agg #[(.int .u64 0),(.int .i64 0),(.int .i64 0),(.int .u32 0)]),.struct [(0,1,52),(1,3,59)]⟩:=ae
theorem Xpg:prog.bytesOf 262=32:=ae
theorem XuE:Xq prog 266=some ⟨16,208,(.agg #[(.int .i64 0),(.int .i64 0),(.slice none 0 0),(.slice none 0 0),(.int .i64 0),(.int .i64 0),(.slice none 0 0),(.slice none 0 0),(.slice none 0 0),(.int .i64 0),(.int .i64 0),(.int .i64 0),(.int .i64 0),(.int .i64 0),(.int .i64 0),(.int .i64 0)]),.struct [(0,6,28),(6,1,25),(7,1,22),(8,1,25),(9,1,3),(10,6,47)]⟩:=ae
theorem Xph:prog.bytesOf 266=208:=ae
theorem XuF:Xq prog 277=some ⟨3,24,(.agg #[(.int .u64 0),(.int .i64 0),(.int .u64 0)]),.struct [(0,1,52),(1,1,3),(2,1,52)]⟩:=ae
theorem Xpi:prog.bytesOf 277=24:=ae
theorem XuG:Xq prog 292=some ⟨3,24,(.agg #[(.int .i64 0),(.int .i64 0),(.int .i64 0)]),.struct [(0,1,3),(1,1,3),(2,1,3)]⟩:=ae
theorem Xpj:prog.bytesOf 292=24:=ae
theorem XuH:Xq prog 316=some ⟨2,32,(.agg #[(.pointer none),(.slice none 0 0)]),.struct [(0,1,209),(1,1,25)]⟩:=ae
theorem XuI:Xq prog 321=some ⟨1,8,.nilFunc,.other⟩:=ae
theorem XuJ:Xq prog 322=some ⟨4,32,(.agg #[(.int .i64 0),(.int .i64 0),(.int .i64 0),(.int .i64 0)]),.struct [(0,1,3),(1,1,3),(2,1,3),(3,1,3)]⟩:=ae
theorem Xpk:prog.bytesOf 322=32:=ae
theorem XrF:YH prog 322=some [some .i64,some .i64,some .i64,some .i64]:=ae
theorem XuK:Xq prog 323=some ⟨3,24,(.agg #[.nilFunc,.nilFunc,.nilFunc]),.array 3 321 1⟩:=ae
theorem XuL:Xq prog 330=some ⟨2,16,(.agg #[(.int .i64 0),(.int .u64 0)]),.struct [(0,1,3),(1,1,52)]⟩:=ae
theorem Xpl:prog.bytesOf 330=16:=ae
theorem XuM:Xq prog 331=some ⟨1,24,(.slice none 0 0),.slice 330 2⟩:=ae
theorem XuN:Xq prog 356=some ⟨1,24,(.slice none 0 0),.slice 359 2⟩:=ae
theorem XuO:Xq prog 359=some ⟨2,16,(.agg #[(.int .i64 0),(.int .i64 0)]),.struct [(0,1,3),(1,1,3)]⟩:=ae
theorem Xpm:prog.bytesOf 359=16:=ae
theorem XuP:Xq prog 363=some ⟨3,24,(.agg #[(.int .i64 0),(.int .i64 0),(.int .u64 0)]),.struct [(0,1,3),(1,1,3),(2,1,52)]⟩:=ae
theorem Xpn:prog.bytesOf 363=24:=ae
theorem XrG:YH prog 363=some [some .i64,some .i64,some .u64]:=ae
attribute [go_sem] ty3 ty4 ty9 Xui XvD XvE XvF XvG XvH XvI XvJ XvK XvL XvM XvN XvO XvP XvQ XvR XvS XvT XvU XvV XvW Xtc XvX XvY XvZ Xv0 Xv1 Xtd Xv2 Xv3 Xuj Xuk Xul XrD Xum Xun Xuo Xup Xuq Xur Xus Xut Xuu Xuv Xuw Xux Xuy Xuz XuA XuB XrE XuC XuD XuE XuF XuG XuH XuI XuJ XrF XuK XuL XuM XuN XuO XuP XrG
attribute [go_sem] zWd zHp
def e3(x:Int):List D:=[.v (.int .i64 x)]
def e62(x:Im):List D:=[.isl 3 1 (x.L.map e3),.v (.int .i64 x.at_)]
def e24(x:WN):List D:=[.v (.int .i64 x.W),.v (.int .i64 x.p)]
def e52(x:Int):List D:=[.v (.int .u64 x)]
def YT(x:Wo):List D:=[.v (.int .i64 x.k),.v (.int .i64 x.s),.v (.int .i64 x.u),.v (.int .i64 x.P)]
def e28(x:Wi):List D:=[.v (.int .i64 x.c.W),.v (.int .i64 x.c.p),.isl 52 1 (x.w.map e52),.isl 122 4 (x.p.map YT),.v (.int .i64 x.s),.v (.int .i64 x.b)]
def XaX(x:UF):List D:=[.v (.int .i64 x.J),.v (.int .u64 x.a),.v (.bool x.V)]
def XbW(x:UX):List D:=[.v (.int .i64 x.O),.v (.int .i64 x.C0),.v (.bool x.B0)]
def e96(x:W6):List D:=[.v (.int .i64 x.G),.v (.int .u64 x.a),.v (.bool x.V)]
def e93(x:UB):List D:=[.v (.int .u64 x.a),.v (.int .i64 x.M)]
def e38(x:Uj):List D:=[.v (.int .i64 x.h.c.W),.v (.int .i64 x.h.c.p),.isl 52 1 (x.h.w.map e52),.isl 122 4 (x.h.p.map YT),.v (.int .i64 x.h.s),.v (.int .i64 x.h.b),.isl 158 3 (x.l.S.map XaX),.isl 129 3 (x.l.x.map XbW),.isl 3 1 (x.l.i.map e3),.isl 96 3 (x.g.e.map e96),.isl 96 3 (x.v.e.map e96),.isl 93 2 (x.P.map e93),.isl 52 1 (x.R.map e52)]
def XcQ(x:UZ):List D:=[.v (.int .i64 x.H.k),.v (.int .i64 x.H.n),.v (.int .u32 x.H.Map),.isl 52 1 (x.D.map e52)]
def XiU(x:IF):List D:=[.v (.int .u64 x.I),.v (.int .i64 x.M),.v (.int .u64 x.B0)]
def e42(x:WP):List D:=[.v (.int .i64 x.c.W),.v (.int .i64 x.c.p),.isl 198 4 (x.T.map XcQ),.isl 158 3 (x.l.S.map XaX),.isl 129 3 (x.l.x.map XbW),.isl 3 1 (x.l.i.map e3),.isl 96 3 (x.g.e.map e96),.isl 96 3 (x.v.e.map e96),.isl 277 3 (x.m.map XiU),.isl 52 1 (x.R.map e52)]
def e44(x:Iw):List D:=[.v (.int .i64 x.N.h.c.W),.v (.int .i64 x.N.h.c.p),.isl 52 1 (x.N.h.w.map e52),.isl 122 4 (x.N.h.p.map YT),.v (.int .i64 x.N.h.s),.v (.int .i64 x.N.h.b),.isl 158 3 (x.N.l.S.map XaX),.isl 129 3 (x.N.l.x.map XbW),.isl 3 1 (x.N.l.i.map e3),.isl 96 3 (x.N.g.e.map e96),.isl 96 3 (x.N.v.e.map e96),.isl 93 2 (x.N.P.map e93),.isl 52 1 (x.N.R.map e52),.v (.int .i64 x.z.c.W),.v (.int .i64 x.z.c.p),.isl 198 4 (x.z.T.map XcQ),.isl 158 3 (x.z.l.S.map XaX),.isl 129 3 (x.z.l.x.map XbW),.isl 3 1 (x.z.l.i.map e3),.isl 96 3 (x.z.g.e.map e96),.isl 96 3 (x.z.v.e.map e96),.isl 277 3 (x.z.m.map XiU),.isl 52 1 (x.z.R.map e52),.isl 52 1 (x.w.map e52)]
def e35(x:WD):List D:=[.isl 96 3 (x.e.map e96)]
def e32(x:Wq):List D:=[.isl 158 3 (x.S.map XaX),.isl 129 3 (x.x.map XbW),.isl 3 1 (x.i.map e3)]
def e59(x:Ws):List D:=[.v (.int .i64 x.k),.v (.int .i64 x.n),.v (.int .u32 x.Map)]
def e4(x:Bool):List D:=[.v (.bool x)]
def XuQ(x:Un):List D:=[.v (.int .i64 x.Fault),.v (.int .i64 x.Page),.v (.int .u64 x.Addr)]
def Xte(x:Wv):List D:=[.v (.int .i64 x.h.c.W),.v (.int .i64 x.h.c.p),.isl 52 1 (x.h.w.map e52),.isl 122 4 (x.h.p.map YT),.v (.int .i64 x.h.s),.v (.int .i64 x.h.b),.isl 52 1 (x.o.map e52),.isl 3 1 (x.t.map e3),.isl 52 1 (x.q.map e52),.v (.int .i64 x.d),.v (.int .i64 x.r.j),.v (.int .i64 x.r.K),.v (.int .i64 x.r.F),.v (.int .i64 x.r.E),.v (.int .i64 x.r.f),.v (.int .i64 x.r.y)]
def XiV(x:OD):List D:=[.v (.int .i64 x.O),.v (.int .i64 x.Len)]
def e47(x:WT):List D:=[.v (.int .i64 x.j),.v (.int .i64 x.K),.v (.int .i64 x.F),.v (.int .i64 x.E),.v (.int .i64 x.f),.v (.int .i64 x.y)]
def XuR(x:Ix):List D:=[.v (.int .i64 x.Tag),.v (.int .i64 x.Index),.v (.int .i64 x.J)]
def XuS(x:OE):List D:=[.v (.bool x.Failed),.v (.bool x.Collected),.v (.int .u64 x.B0)]
def e80(x:OA):List D:=[.v (.int .i64 x.Op),.v (.int .u64 x.A),.v (.int .u64 x.B),.v (.int .u64 x.C)]
def XuT(x:IQ):List D:=[.isl 158 3 (x.l.S.map XaX),.isl 129 3 (x.l.x.map XbW),.isl 3 1 (x.l.i.map e3)]
def e25(x:List Int):List D:=[.isl 52 1 (x.map e52)]
def XuU(x:Wo):List D:=[.v (.int .i64 x.k),.v (.int .i64 x.s),.v (.int .i64 x.u),.v (.int .i64 x.P)]
def VM(x:UT):List D:=[.v (.int .u64 x.addr),.v (.int .i64 x.hd.k),.v (.int .i64 x.hd.n),.v (.int .u32 x.hd.Map)]
def XuV(x:Un):List D:=[.v (.int .i64 x.Fault),.v (.int .i64 x.Page),.v (.int .u64 x.Addr)]
def Xtf(x:Wv):List D:=[.v (.int .i64 x.h.c.W),.v (.int .i64 x.h.c.p),.isl 52 1 (x.h.w.map e52),.isl 122 4 (x.h.p.map YT),.v (.int .i64 x.h.s),.v (.int .i64 x.h.b),.isl 52 1 (x.o.map e52),.isl 3 1 (x.t.map e3),.isl 52 1 (x.q.map e52),.v (.int .i64 x.d),.v (.int .i64 x.r.j),.v (.int .i64 x.r.K),.v (.int .i64 x.r.F),.v (.int .i64 x.r.E),.v (.int .i64 x.r.f),.v (.int .i64 x.r.y)]
def XmA(x:Ik):List D:=[.v (.int .i64 x.Width),.v (.int .u64 x.Value)]
def XuW(x:I9):List D:=[.v (.int .i64 x.page),.v (.int .i64 x.offset)]
def Xj2(x:UZ):List D:=[.v (.int .i64 x.H.k),.v (.int .i64 x.H.n),.v (.int .u32 x.H.Map),.isl 52 1 (x.D.map e52)]
def e69(x:Oi):List D:=[.isl 3 1 (x.R.map e3),.isl 115 4 (x.Nodes.map Xj2)]
attribute [go_sem] e3 e62 e24 e52 YT e28 XaX XbW e96 e93 e38 XcQ XiU e42 e44 e35 e32 e59 e4 XuQ Xte XiV e47 XuR XuS e80 XuT e25 XuU VM XuV Xtf XmA XuW Xj2 e69 Xj1 XrA Xrq Xll XiR Xrs XiT XiS Xln Xlm Xrv Xpe Xpi Xrw Xrx Xru Xrt Xrz Xtb Xpn Xph Xpm Xry Xpj Xpa XrC Xpd Xrr Xpk Xpg Xpf Xpb Xpl Xpc Xo9 XrB
theorem XiW:Go.Proofs.Tryz.prog.follows .mixedOrders=true:=ae
def GW(G:Nat->Option (List D)):Prop:=∀f,G (roK f)=if f=224 then some []else none
open Go.Proofs Tryz
theorem E:True:=trivial
theorem hd:True:=trivial
theorem EF:True:=trivial
theorem hx3:True:=trivial
theorem hl3:True:=trivial
theorem hm3:True:=trivial
theorem hl4:True:=trivial
theorem hm4:True:=trivial
theorem XeM:True:=trivial
theorem XeN:True:=trivial
theorem Z2:True:=trivial
theorem KS:True:=trivial
theorem XeO:True:=trivial
theorem XeP:True:=trivial
theorem XeQ:True:=trivial
theorem XeR:True:=trivial
theorem Xai:True:=trivial
theorem Xaj:True:=trivial
theorem XT:True:=trivial
theorem ZO:True:=trivial
theorem Xak:True:=trivial
theorem Xal:True:=trivial
theorem Xam:True:=trivial
theorem Xan:True:=trivial
theorem JI:True:=trivial
theorem Xao:True:=trivial
theorem JJ:True:=trivial
theorem Xap:True:=trivial
theorem Xaq:True:=trivial
theorem Xar:True:=trivial
theorem Xas:True:=trivial
theorem Xat:True:=trivial
theorem JK:True:=trivial
theorem Xau:True:=trivial
theorem Fq:True:=trivial
theorem hK:True:=trivial
theorem Xv4{α:Type}{G:Prop}{a c:Int}{x y:Option α}{r:α}(h:(bif (a==c)then x else y)=some r)(f:a=c->x=some r->G)(g:¬a=c->y=some r->G):G:=by
 by_cases e:a=c
 .rw[beq_iff_eq.2 e]at h;exact f e h
 rw[beq_eq_false_iff_ne.2 e]at h;exact g e h
attribute [go_sem] Option.get!
structure Fn(n:Nat):Prop where
class OK{α:Type}(o:Option α)(f:outParam Nat)(a:outParam (List D))(l:outParam (List Ob))(e:outParam (α->D))(l':outParam (α->List Ob)):Prop where
 h:∀G,GW G->∀r,o=some r->YV prog G f a l (Eqs (e r) (l' r))
section
variable {α β:Type}{o:Option α}{k:α->Option β}{f:Nat}{a args:List D}{l:List Ob}{e:α->D}{l':α->List Ob}{G:Nat->Option (List D)}{r:β}{K:D->List Ob->Prop}
theorem OK.c[h:OK o f a l e l'](hr:bnd o k=some r)(hw:GW G)(hf:Z3 args a)(hK:∀y,k y=some r->K (e y) (l' y))(t:Prf args):CallG prog G f args l K t:=
 Xbm hr λy hy hr=>CallG.ofE (h.h G hw y hy) hf (hK y hr) t
theorem OK.d[h:OK o f a l e l'](hr:bnd o k=some r)(hw:GW G)(hf:Z3 args a)(hK:∀y,k y=some r->K (e y) (l' y))(t:Prf args):CallD prog G f args l K t:=
 Xbm hr λy hy hr=>CallD.ofE (h.h G hw y hy) hf (hK y hr) t
end
def bm(b n:Nat):List Nat:=((List.range (n.log2+1)).filter λi=>n / 2 ^ i % 2==1).map λi=>i+b
theorem Xtg{b n x:Nat}:(bm b n).contains x=(decide (b<=x)&&n / 2 ^ (x-b) % 2==1):=by
 rw[Bool.eq_iff_iff,UN,bm,WI];simp only[WV,List.mem_range,beq_iff_eq,WH,decide_eq_true_eq];constructor
 .rintro⟨i,⟨h1,h2⟩,rfl⟩;rw[IP];exact⟨Nat.le_add_left _ _,h2⟩
 rintro⟨h1,h3⟩;refine⟨x-b,⟨?_,h3⟩,Nat.sub_add_cancel h1⟩;have hp:0<n / 2 ^ (x-b):=by
  rcases Um (n / 2 ^ (x-b))with h|h
  .rw[h]at h3;cases h3
  exact h
 have hle:2 ^ (x-b)<=n:=by
  rcases Ux n (2 ^ (x-b))with h|h
  .rw[Nat.div_eq_of_lt h]at hp;cases hp
  exact h
 have hn:n≠0:=by rintro rfl;have:=Nat.two_pow_pos (x-b);omega
 exact Nat.lt_succ_of_le ((Nat.le_log2 hn).2 hle)
theorem XuX{b n x:Nat}{p q:D}:(if(bm b n).contains x=true then p else q)=if x<b then q else if n / 2 ^ (x-b) % 2=1 then p else q:=by
 rw[Xtg];by_cases h1:x<b
 .rw[Wm h1,Wg (Nat.not_le.2 h1),UJ];rfl
 rw[Wj h1,We (Nat.not_lt.1 h1),Ue];by_cases h3:n / 2 ^ (x-b) % 2=1
 .rw[Wm h3,Wm (beq_iff_eq.2 h3)]
 rw[Wj h3,Wj (λh=>h3 (beq_iff_eq.1 h))]
def Xth(b:Nat):Nat->List Oper->List (Nat×Nat×List (List Nat))->List En
 |i,o::l,(a,m,[])::x=>⟨i,o,bm 0 a,[],bm b m,[]⟩::Xth b (i+1) l x
 |i,o::l,(a,m,[w,k])::x=>⟨i,o,bm 0 a,w,bm b m,k⟩::Xth b (i+1) l x
 |_,[],[]=>[]
 |i,_,_=>[⟨i,⟨none,.assign (.tmp 0),0,"",#[],none⟩,[],[],[],[]⟩]
attribute [go_sem] XuX Xth
class El{α:Type}(x:Option α)(r:α)(K:outParam (Prop->Prop)):Prop where
 el:∀{G:Prop},x=some r->K G->G
instance{α:Type}{p:Prop}[Decidable p]{x:Option α}{r:α}:El (grd p x) r λG=>x=some r->p->G:=⟨λh k=>Xtu h λa b=>k b a⟩
instance{κ α:Type}{k:κ}{f:κ->Option α}{r:α}:El (jn k f) r λG=>f k=some r->G:=⟨λh k=>Xvh h k⟩
instance{α β γ:Type}{b:β}{f:α->Option γ}{k:β->Option γ}{r:γ}:El (exK (.nxt b) f k) r λG=>k b=some r->G:=⟨λh k=>Xtv h k⟩
instance{α β γ:Type}{b:α}{f:α->Option γ}{k:β->Option γ}{r:γ}:El (exK (.ret b) f k) r λG=>f b=some r->G:=⟨λh k=>Xtw h k⟩
instance{α:Type}{x y:Option α}{r:α}:El (bif true then x else y) r λG=>x=some r->G:=⟨λh k=>k h⟩
instance{α:Type}{x y:Option α}{r:α}:El (bif false then x else y) r λG=>y=some r->G:=⟨λh k=>k h⟩
instance{α:Type}{x y:Option α}{r:α}:El (bif !false then x else y) r λG=>x=some r->G:=⟨λh k=>k h⟩
instance{α:Type}{x y:Option α}{r:α}:El (bif !true then x else y) r λG=>y=some r->G:=⟨λh k=>k h⟩
theorem Y8{α:Type}{G:Prop}{b c:Bool}{x y:Option α}{r:α}(h:(bif b then x else y)=some r)(hb:b=c)(g:(bif c then x else y)=some r->G):G:=g (hb▸h)
theorem Xv5:wI (-1) = -1:=by unfold wI;decide
theorem Xlo{α:Type}{l:List α}{o n:Nat}{i:Int}{b:Prop}{β:Type}{f:α->Option β}{r:β}{p:α}(hr:bnd (KM l o n i) f=some r)(hp:KM l o n i=some p)(k:KM l o n i=some p->o+i.toNat<l.length->(∀(γ:Type) (e:α->List γ),(l.map e).getD (o+i.toNat) []=e p)->f p=some r->b):(0<=i/\i<n)/\b:=
 Xhd hr λq hq h1 h2 h3=>by obtain rfl:=Wz (hp.symm.trans hq);exact k hq h1 h2 h3
theorem Xpo{α:Type}{l:List α}{o n:Nat}{i:Int}{b:Prop}{β:Type}{f:α->Option β}{r:β}{p:α}(hr:bnd (KM l o n i) f=some r)(hp:KM l o n i=some p)(k:KM l o n i=some p->o+i.toNat<l.length->(∀(γ:Type) (e:α->List γ),(l.map e).getD (o+i.toNat) []=e p)->f p=some r->b):i<n/\b:=
 let ⟨h1,h2⟩:=Xlo hr hp k;⟨h1.2,h2⟩
abbrev FwH(s:Heap)(wb w1 p wp w3 w4 w5:Nat)(a:Wv):Prop:=s 51584=some (w1,.arr false 52 1 (a.h.w.map e52) 0)/\s p=some (wp,.arr false 122 4 (a.h.p.map YT) 0)/\s 52288=some (w3,.arr false 52 1 (a.o.map e52) 0)/\s 52480=some (w4,.arr false 3 1 (a.t.map e3) 0)/\s 52672=some (w5,.arr false 52 1 (a.q.map e52) 0)/\s 51264=some (wb,.arr true 210 16 [[.v (.int .i64 a.h.c.W),.v (.int .i64 a.h.c.p),.osl 51584 w1 1 0 a.h.w.length,.osl p wp 4 0 a.h.p.length,.v (.int .i64 a.h.s),.v (.int .i64 a.h.b),.osl 52288 w3 1 0 a.o.length,.osl 52480 w4 1 0 a.t.length,.osl 52672 w5 1 0 a.q.length,.v (.int .i64 a.d),.v (.int .i64 a.r.j),.v (.int .i64 a.r.K),.v (.int .i64 a.r.F),.v (.int .i64 a.r.E),.v (.int .i64 a.r.f),.v (.int .i64 a.r.y)]] 0)
def Xj3(s s':Heap):Heap:=λi=>if i<51264 then s i else s' i
theorem Yy{s s':Heap}{i:Nat}:Xj3 s s' i=if i<51264 then s i else s' i:=rfl
theorem Xpp{s s':Heap}{A:Prop}{K:Heap->Prop}(hK:A->K (Xj3 s s'))(h:A)(hl:∀i,i<51264->s' i=s i):K s':=by
 have e:s'=Xj3 s s':=by
  funext i;rw[Yy];split
  .exact hl i ah
  rfl
 rw[e];exact hK h
theorem Xct{s s':Heap}{K:Heap->Prop}{A:Nat->Nat->Nat->Nat->Prop}(hK:∀p wp w4 w5,(p=51840\/p=210816)->A p wp w4 w5->K (Xj3 s s'))(p wp w4 w5:Nat)(hp:p=51840\/p=210816)(h:A p wp w4 w5)(hl:∀i,i<51264->s' i=s i):K s':=Xpp (hK p wp w4 w5 hp) h hl
theorem Xha{G:Nat->Option (List D)}(hw:GW G){f:Nat}{α:Type}{x:Option α}:Xge G f x=if f=224 then none else x:=by
 by_cases h:f=224
 .rw[Wm h];exact XsA ((hw f).trans (Wm h))
 rw[Wj h];exact Xsz ((hw f).trans (Wj h))
theorem Xpq{G:Nat->Option (List D)}(b0 b1 b2 b3 b5 b6 b7 b8 b9 b10 b11 b12 b13 b14 b15:D)(sp:Int):YV prog G 224 [.ipt 16 [b0,b1,b2,b3,.v (.int .i64 sp),b5,b6,b7,b8,b9,b10,b11,b12,b13,b14,b15] 0] [] (Eqs (.v (.int .i64 (wI (1-sp)))) []):=by
 refine Yq (fn:=f224) (body:=(f224.body).get!) (rs:=[.tmp 2]) 1000 [] 9 ae ae ae ae ae ac λC _ hG hwf=>?_;subst hG;simp only[f224,Option.get!];simp only[go_sem,simprocAttr];with_reducible refine ZS ?_
 simp only[go_sem,simprocAttr]
theorem Xdg{C:Cx}{s:Heap}{id v T:Nat}{a0 a1 a2 a3 a5 a6 a7 a8 a9 a10 a11 a12 a13 a14 a15 b0 b1 b2 b3 b5 b6 b7 b8 b9 b10 b11 b12 b13 b14 b15:D}{sp:Int}{c:Prop}{l:List Nat}{K:D->Prop}(hs:s id=some (v,.arr true T 16 [[a0,a1,a2,a3,.v (.int .i64 sp),a5,a6,a7,a8,a9,a10,a11,a12,a13,a14,a15]] 0))(hsn:ZQ s [a0,a1,a2,a3,.v (.int .i64 sp),a5,a6,a7,a8,a9,a10,a11,a12,a13,a14,a15]=some (c,[b0,b1,b2,b3,.v (.int .i64 sp),b5,b6,b7,b8,b9,b10,b11,b12,b13,b14,b15],l))(hc:c)(hK:K (.v (.int .i64 (wI (1-sp)))))(t:Prf [D.ept id v 16 0 0]):XrL prog C s 224 [.ept id v 16 0 0] K t:=
 ⟨_,_,XsJ hs hsn hc rfl,Xpq b0 b1 b2 b3 b5 b6 b7 b8 b9 b10 b11 b12 b13 b14 b15 sp,⟨_,_,rfl,rfl⟩,λ_ _ h=>h.1▸⟨rfl,hK⟩⟩
def LoS(s' s:Heap):Prop:=∀i,i<51264->s' i=s i
theorem LoS.mk{s' s:Heap}(h:∀i,i<51264->s' i=s i):LoS s' s:=h
theorem Xv6{ws:List Int}{i n X k W:Nat}{v:D}(h:n<=W-X):((List.take i (ws.map e52)++List.take n (List.drop X (ws.map e52)))++List.drop (k+min n (W-X)) (ws.map e52)).set (X+0) (v::List.drop 1 (((List.take i (ws.map e52)++List.take n (List.drop X (ws.map e52)))++List.drop (k+min n (W-X)) (ws.map e52)).getD (X+0) []))=((List.take i (ws.map e52)++List.take n (List.drop X (ws.map e52)))++List.drop (k+n) (ws.map e52)).set X [v]:=by
 rw[Of h,IW];congr 1;have m:∀x∈(List.take i (ws.map e52)++List.take n (List.drop X (ws.map e52)))++List.drop (k+n) (ws.map e52),List.drop 1 x=[]:=by
  intro x hx;have:x∈ws.map e52:=by
   rcases Wr.1 hx with hx|hx
   .rcases Wr.1 hx with hx|hx
    .exact WR hx
    exact WS (WR hx)
   exact WS hx
  obtain⟨y,_,rfl⟩:=WI.1 this;rfl
 rw[Wk];cases e:((List.take i (ws.map e52)++List.take n (List.drop X (ws.map e52)))++List.drop (k+n) (ws.map e52))[X]? with
 |none=>rfl
 |some x=>exact congrArg _ (m x (W3 e))
theorem Xr4{i k:Nat}(h:i<51264)(hk:51264<=k):(i=k)=False:=eq_false ab
open Go.Proofs Tryz
set_option maxRecDepth 10000
theorem XiX{α:Type}{e:α->List D}{p:α->Prop}:∀{es:List (List D)},(∀x∈es,∃y,x=e y/\p y)->∃l:List α,es=l.map e/\∀x∈l,p x
 |[],_=>⟨[],rfl,λx h=>by cases h⟩
 |x::es,h=>by obtain⟨y,rfl,hy⟩:=h x ac;obtain⟨l,rfl,hl⟩:=XiX (e:=e) (p:=p) (es:=es) λz hz=>h z (WQ _ hz);exact⟨y::l,rfl,λz hz=>by rcases Ig.1 hz with rfl|hz;exact hy;exact hl z hz⟩
section
variable {P:Program}{t e:TypeId}{fs:List (Nat×Nat×Nat)}{a b s:Nat}{z:Value}
theorem XuY(m:Nat)(h:Xq P t=some ⟨a,b,z,.slice e s⟩)(ds:List D):Sh P (m+1) t ds=∃es,ds=[.isl e (P.cellsOf e) es]/\es.length<=Xv/\es.length*P.bytesOf e<=Xv/\∀x∈es,Sh P m e x:=by simp only[Sh,(XY h).1]
theorem Xti(h:Xq P t=some ⟨a,b,z,.int .i64⟩):∀(m:Nat) (ds:List D),Sh P m t ds->∃n,ds=[.v (.int .i64 n)]/\True
 |0,_,h'=>h'.elim
 |m+1,ds,h'=>by simp only[Sh,XfZ h]at h';obtain⟨n,rfl,h1,h2⟩:=h';exact⟨n,rfl,trivial⟩
end
theorem Xv7:prog.cellsOf 3=1:=ae
theorem XuZ(m:Nat)(x:List D)(h:Sh prog m 3 x):∃y:Int,x=e3 y/\True:=by obtain⟨n,rfl,hp⟩:=Xti ty3 m x h;exact⟨n,rfl,trivial⟩
theorem Xv9:∀(m:Nat) (ds:List D),Sh prog m 22 ds->∃l:List Int,ds=[.isl 3 1 (l.map e3)]/\l.length*8<=Xv/\∀x∈l,(λ_=>True) x
 |0,_,h=>h.elim
 |m+1,ds,h=>by rw[show Sh prog (m+1) 22 ds=_ from XuY m Xui ds]at h;obtain⟨es,rfl,_,hb,hs⟩:=h;obtain⟨l,rfl,hl⟩:=XiX (p:=(λ_=>True)) (λx hx=>XuZ m x (hs x hx));exact⟨l,by rw[Xv7],by rw[Uf,Xj1]at hb;exact hb,hl⟩
open Go.Proofs Tryz
section
variable {α β:Type}{o:Option α}{y:α}{f:Nat}{a args:List D}{l:List Ob}{e:α->D}{l':α->List Ob}{G:Nat->Option (List D)}{K:D->List Ob->Prop}
theorem OK.t[h:OK o f a l e l'](ho:o=some y)(hw:GW G)(hf:Z3 args a)(hK:K (e y) (l' y))(t:Prf args):CallG prog G f args l K t:=CallG.ofE (h.h G hw y ho) hf hK t
end
section
variable {C:Cx}{R:St->Prop}{k:List It}{st:St}{l:List Oper}{t:Prf (⟨l⟩:Array Oper)}{id:Nat}
theorem dp(h:dr prog C ⟨l⟩ st.k (mkS 0 l []) st λst'=>run prog C R 1000 k ⟨st'.t,st'.s,st'.n,st.k+l.length⟩)(hc:Xgh l (Xba l []) []=true:=by kernel_rfl)(hrd:C.rd=none:=by rfl):DrawnG prog C R id ⟨l⟩ k st t:=
 DrawnG.auto 1000 XiW hc h t hrd
theorem dqh(f id:Nat)(_:Fn f)(aux:List (Nat×List Nat×List Nat))(h:dr prog C ⟨l⟩ st.k (mkS 0 l aux) st λst'=>run prog C R 1000 k ⟨st'.t,st'.s,st'.n,st.k+l.length⟩)(hc:Xgh l (Xba l []) aux=true:=by kernel_rfl)(hrd:C.rd=none:=by rfl):DrawnG prog C R id ⟨l⟩ k st t:=
 DrawnG.auto 1000 XiW hc h t hrd
theorem dq(f id:Nat)(_:Fn f)(aux:List (Nat×List Nat×List Nat))(h:dr prog C ⟨l⟩ st.k (mkS 0 l aux) st λst'=>run prog C R 1000 k ⟨st'.t,st'.s,st'.n,st.k+l.length⟩)(ho:C.off=0:=by rfl)(hc:Xgh l (Xba l []) aux=true:=by kernel_rfl)(hrd:C.rd=none:=by rfl):DrawnG prog C R id ⟨l⟩ k st t:=
 DrawnG.auto 1000 XiW hc h t hrd
theorem dqi(o f id:Nat)(_:Fn f)(aux:List (Nat×List Nat×List Nat))(h:dr prog C ⟨l⟩ st.k (mkS 0 l aux) st λst'=>run prog C R 1000 k ⟨st'.t,st'.s,st'.n,st.k+l.length⟩)(ho:C.off=o:=by rfl)(hc:Xgh l (Xba l []) aux=true:=by kernel_rfl)(hrd:C.rd=none:=by rfl):DrawnG prog C R id ⟨l⟩ k st t:=
 DrawnG.auto 1000 XiW hc h t hrd
theorem dqm{c:Oper}(f id:Nat)(_:Fn f)(m:Nat)(aux:List (Nat×List Nat×List Nat))(h:dr prog C ⟨l⟩ st.k ((mkS 0 l aux).take m) st λst'=>Xgg prog C (ZP c.op) c.dst ⟨st'.t,st'.s,st'.n,st.k+m⟩ (λst2=>dr prog C ⟨l⟩ st2.k ((mkS 0 l aux).drop (m+1)) st2 λst'=>run prog C R 1000 k ⟨st'.t,st'.s,st'.n,st2.k+l.length⟩) trivial)(hl:l[m]? = some c:=by rfl)(hg:c.guard=none:=by rfl)(ho:C.off=0:=by rfl)(hc:(Xgh l (Xba l []) aux&&(Xqk (mkF l (Xba l []) aux)&&(Xdz m (mkF l (Xba l []) aux)&&Xdz (m+1) (mkF l (Xba l []) aux))))=true:=by kernel_rfl)(hrd:C.rd=none:=by rfl):DrawnG prog C R id ⟨l⟩ k st t:=
 OU 1000 m c XiW hc hl hg h t hrd
end
abbrev Iv{α:Type}(o:Option α)(Q:α->Prop)(p:Prop):Prop:=∃x,o=some x/\Q x/\p
abbrev O1{α:Type}(o:Option α)(f:Nat)(a:List D)(e:α->D):Prop:=OK o f a [] e λ_=>[]
theorem Xav{α β:Type}{i:Int}{f:α->Option β}{r:β}{Q:Prop}(h:bnd (Xd [] i) f=some r):Q:=by
 have e:Xd ([]:List α) i=none:=by unfold Xd;split<;>rfl
 rw[e]at h;unfold bnd at h;cases h
theorem Xaw{α:Type}{n:Nat}{Q:Prop}(h:n<([]:List α).length):Q:=absurd h (Nat.not_lt_zero _)
open Go.Proofs Tryz
abbrev vi(x:Int):D:=.v (.int .i64 x)
abbrev vu(x:Int):D:=.v (.int .u64 x)
abbrev vw(x:Int):D:=.v (.int .u32 x)
abbrev s3(l:List Int):D:=.isl 3 1 (l.map e3)
abbrev s4(l:List Bool):D:=.isl 4 1 (l.map e4)
abbrev s25(l:List (List Int)):D:=.isl 25 1 (l.map e25)
abbrev s52(l:List Int):D:=.isl 52 1 (l.map e52)
abbrev s93(l:List UB):D:=.isl 93 2 (l.map e93)
abbrev s96(l:List W6):D:=.isl 96 3 (l.map e96)
abbrev Yn(l:List Wo):D:=.isl 122 4 (l.map YT)
abbrev XcR(l:List UX):D:=.isl 129 3 (l.map XbW)
abbrev XcS(l:List UF):D:=.isl 158 3 (l.map XaX)
abbrev Xu0(l:List UZ):D:=.isl 198 4 (l.map XcQ)
abbrev XmB(l:List UT):D:=.isl 262 4 (l.map VM)
abbrev Xu1(l:List IF):D:=.isl 277 3 (l.map XiU)
abbrev Xpr(l:List Ik):D:=.isl 330 2 (l.map XmA)
abbrev Xps(l:List OD):D:=.isl 359 2 (l.map XiV)
attribute [go_sem] vi vu vw s3 s4 s25 s52 s93 s96 Yn XcR XcS Xu0 XmB Xu1 Xpr Xps
abbrev vb(x:Bool):D:=.v (.bool x)
abbrev c24(x:WN):D:=.agg (e24 x)
abbrev c28(x:Wi):D:=.agg (e28 x)
abbrev c32(x:Wq):D:=.agg (e32 x)
abbrev c35(x:WD):D:=.agg (e35 x)
abbrev c38(x:Uj):D:=.agg (e38 x)
abbrev c42(x:WP):D:=.agg (e42 x)
abbrev c44(x:Iw):D:=.agg (e44 x)
abbrev c47(x:WT):D:=.agg (e47 x)
abbrev c59(x:Ws):D:=.agg (e59 x)
abbrev c69(x:Oi):D:=.agg (e69 x)
abbrev c80(x:OA):D:=.agg (e80 x)
abbrev c93(x:UB):D:=.agg (e93 x)
abbrev c96(x:W6):D:=.agg (e96 x)
abbrev Xtj(x:Wo):D:=.agg (YT x)
abbrev Xtk(x:OE):D:=.agg (XuS x)
abbrev XiY(x:Wv):D:=.agg (Xtf x)
abbrev Xu2(x:I9):D:=.agg (XuW x)
abbrev Xpt(x:IQ):D:=.agg (XuT x)
abbrev Xu3(x:UZ):D:=.agg (XcQ x)
abbrev XrH(x:Un):D:=.agg (XuV x)
abbrev Xu4(x:UT):D:=.agg (VM x)
abbrev Jw(x:Wv):D:=.agg (Xte x)
abbrev XrI(x:Ix):D:=.agg (XuR x)
abbrev XiZ(x:Wo):D:=.agg (XuU x)
abbrev XrJ(x:Un):D:=.agg (XuQ x)
abbrev r3(st:St)(i w:Nat)(l:List Int):Prop:=st.s i=some (w,.arr false 3 1 (l.map e3) 0)
abbrev r4(st:St)(i w:Nat)(l:List Bool):Prop:=st.s i=some (w,.arr false 4 1 (l.map e4) 0)
abbrev r52(st:St)(i w:Nat)(l:List Int):Prop:=st.s i=some (w,.arr false 52 1 (l.map e52) 0)
abbrev r93(st:St)(i w:Nat)(l:List UB):Prop:=st.s i=some (w,.arr false 93 2 (l.map e93) 0)
abbrev r96(st:St)(i w:Nat)(l:List W6):Prop:=st.s i=some (w,.arr false 96 3 (l.map e96) 0)
abbrev Xpu(st:St)(i w:Nat)(l:List UZ):Prop:=st.s i=some (w,.arr false 115 4 (l.map Xj2) 0)
abbrev VN(st:St)(i w:Nat)(l:List Wo):Prop:=st.s i=some (w,.arr false 122 4 (l.map YT) 0)
abbrev Xtl(st:St)(i w:Nat)(l:List UF):Prop:=st.s i=some (w,.arr false 158 3 (l.map XaX) 0)
abbrev Xtm(st:St)(i w:Nat)(l:List UT):Prop:=st.s i=some (w,.arr false 262 4 (l.map VM) 0)
abbrev Xtn(st:St)(i w:Nat)(l:List OD):Prop:=st.s i=some (w,.arr false 359 2 (l.map XiV) 0)
abbrev bx(st:St)(i w T n:Nat)(l:List D):Prop:=st.s i=some (w,.arr true T n [l] 0)
abbrev pt(st:St)(x i w n:Nat):Prop:=st.t x=.ept i w n 0 0
abbrev ol(st:St)(x i w n k:Nat):Prop:=st.t x=.osl i w n 0 k
attribute [go_sem] vb bx pt ol c24 c28 c32 c35 c38 c42 c44 c47 c59 c69 c80 c93 c96 Xtj Xtk XiY Xu2 Xpt Xu3 XrH Xu4 Jw XrI XiZ XrJ r3 r4 r52 r93 r96 Xpu VN Xtl Xtm Xtn
theorem lp{P:Program}{C:Cx}{R:St->Prop}{c:Code}{k:List It}{st:St}{α β:Type}{o:Option α}{f:α->Option β}{r:β}(I:(α->Prop)->Nat->St->Prop)(hr:bnd o f=some r)(n:Nat)(round:∀n st,I (λy=>f y=some r) n st->run P C R 1000 (.code c::.stop (λst'=>∃n',n'<n/\I (λy=>f y=some r) n' st')::k) st)(h0:∀ex,o=some ex->f ex=some r->I (λy=>f y=some r) n st)(t':Prf c):LoopG P C R c k st t':=
 XnM hr 1000 n h0 round t'
theorem rq{α:Type}{o:Option α}{f:Nat}{a:List D}{l:List Ob}{e:α->D}{l':α->List Ob}(fn:Func)(fr:List Nat)(h:∀G,GW G->∀r,o=some r->∀(C:Cx)x,C.G=G->WfL prog a->Fn f->run prog (C.sub 0 x) (J4 prog fn.results.toList fr l.length (Eqs (e r) (l' r))) 1000 [.code (fn.body.get!)] (st0 a l fn.ntmps))(hk:(prog.funcs[f]?,fn.body,fn.name== "runtime.NumGoroutine",a.length.ble fn.ntmps)=(some fn,some (fn.body.get!),false,true):=by kernel_rfl):OK o f a l e l':=by injection hk with h1 hk;injection hk with h2 hk;injection hk with h3 h6;exact⟨λG hw r hr=>Yq 1000 fr fn.ntmps h1 h2 h3 rfl rfl (Nat.le_of_ble_eq_true h6) λC x hG hwf=>h G hw r hr C x hG hwf ⟨⟩⟩
theorem rk{α:Type}{o:Option α}{f:Nat}{a:List D}{l:List Ob}{e:α->D}{l':α->List Ob}(fn:Func)(h:∀G,GW G->∀r,o=some r->∀(C:Cx)x,C.G=G->WfL prog a->Fn f->run prog (C.sub 0 x) (J4 prog fn.results.toList [] l.length (Eqs (e r) (l' r))) 1000 [.code (fn.body.get!)] (st0 a l fn.ntmps))(hk:(prog.funcs[f]?,fn.body,fn.name== "runtime.NumGoroutine",a.length.ble fn.ntmps)=(some fn,some (fn.body.get!),false,true):=by kernel_rfl):OK o f a l e l':=
 rq fn [] h hk
attribute [go_sem] List.toList_toArray
theorem exI{α:Sort _}{p:α->Prop}{Q:Prop}(h:∀x,p x->Q):(∃x,p x)->Q:=λ⟨x,y⟩=>h x y
theorem anI{A B C Q:Prop}(h:A->B->C->Q):A/\B/\C->Q:=λ⟨x,y,z⟩=>h x y z
theorem loI{s t:Heap}{C Q:Prop}(h:LoS s t->C->Q):LoS s t/\C->Q:=λ⟨x,y⟩=>h x y
theorem loA{s t:Heap}{C:Prop}(h:LoS s t)(k:C):LoS s t/\C:=⟨h,k⟩
theorem orI{A B Q:Prop}(h:A->Q)(k:B->Q):A\/B->Q:=λx=>x.elim h k
theorem aaI{A B C Q:Prop}(h:A/\B->C->Q):(A/\B)/\C->Q:=λ⟨x,y⟩=>h x y
theorem ci{C:Cx}{f:FuncId}{args:List D}{dst:Option Nat}{st:St}{K:St->Prop}(fn:Func)(off:Nat)(h:∀x,run prog (C.sub off x) (Xgc prog fn.results.toList (kOf dst st K)) 1000 [.code (fn.body.get!)] (stI args st.s fn.ntmps st.k))(t:Prf args)(hk:(prog.funcs[f]?,fn.body,fn.name== "runtime.NumGoroutine",args.length.ble fn.ntmps)=(some fn,some (fn.body.get!),false,true):=by kernel_rfl):CallX prog C f args dst st K t:=by injection hk with h1 hk;injection hk with h2 hk;injection hk with h3 h6;exact CallX.inl (rs:=fn.results.toList) (nt:=fn.ntmps) off 1000 (by simp only[Wy,and_true,true_and];exact⟨h1,h2,h3,h6⟩) h t
theorem nsE{α:Type}{x:α}{Q:Prop}(h:none=some x):Q:=nomatch h
theorem ivP{α:Type}{o:Option α}{Q:α->Prop}{p:Prop}{x:α}(h:o=some x)(k:Q x)(l:p):Iv o Q p:=⟨x,h,k,l⟩
theorem zv{p:Prop}(h:p:=by first|((repeat first|((first|with_reducible refine ivP hr hk ?_|refine ivP hr hk ?_);(try with_reducible refine loA ?_ ?_)<;>exact zz)|apply Exists.intro);done)|fail):p:=h
theorem zr{p:Prop}(h:p:=by first|(clear hr;(try clear E);(try clear Fq);intro n1 st;(repeat with_reducible refine exI λ_=>?_);(with_reducible refine anI λhr hk=>?_);(try with_reducible refine loI λhl0=>?_);(repeat' first|with_reducible refine orI ?_ ?_|with_reducible refine exI λ_=>?_);all_goals ((first|((with_reducible refine aaI λE z0=>?_);repeat' first|subst z0|(obtain⟨z1,z0⟩:=z0;try subst z1))|intro E);obtain _|n1:=n1;(·exact nsE (show none=some _ from hr));rw[lq]at hr;clear lq;exact zz))|fail):p:=h
theorem sp:True:=trivial
theorem hse:True:=trivial
theorem zl{p:Prop}(h:p:=by first|((intro i hi;first|rfl|exact hl0 i hi|(simp only[Xdx,Xgd,Xjj,Yy,Xr4 hi,hi,simprocAttr,if_true,if_false];first|done|exact hl0 i hi)|(simp only[Xdx,Xgd,Xjj,Yy,Xr4 hi,hi,simprocAttr,if_true,if_false]));done)|fail):p:=h
theorem zq{p:Prop}(h:p:=by first|(first|rfl|(simp only[go_sem,simprocAttr,E,Fq,hl3,hl4,XeM,Z2,XeO,XeQ,Xai,XT,Xak,Xam,JI,JJ,Xaq,Xas,JK,hm3,hm4,XeN,KS,XeP,XeR,Xaj,ZO,Xal,Xan,Xao,Xap,Xar,Xat,Xau,hse,EF,Yy,Wu,WC,UM];(repeat' first|rfl|refine⟨?_,?_⟩);done))|fail):p:=h
theorem zs{p:Prop}(h:p:=by first|rfl|(simp only[go_sem,simprocAttr,E,Fq,hl3,hl4,XeM,Z2,XeO,XeQ,Xai,XT,Xak,Xam,JI,JJ,Xaq,Xas,JK,hm3,hm4,XeN,KS,XeP,XeR,Xaj,ZO,Xal,Xan,Xao,Xap,Xar,Xat,Xau,hse,EF,Yy,Wu,WC,UM];(repeat' first|rfl|exact Xv6 ab|omega|refine⟨?_,?_⟩);done)|fail):p:=h
theorem zf{p:Prop}(h:p:=by first|(refine Yv hr ?_;rintro rfl;(try simp only[go_sem,simprocAttr,E,Fq,hl3,hl4,XeM,Z2,XeO,XeQ,Xai,XT,Xak,Xam,JI,JJ,Xaq,Xas,JK,hm3,hm4,XeN,KS,XeP,XeR,Xaj,ZO,Xal,Xan,Xao,Xap,Xar,Xat,Xau,hse,EF,Yy,Wu,WC,UM]);first|(apply Xct (K:=λs=>K (nxS _ _ _ s _ _)) (λp wp w4 w5 hp h=>hK _ hk2 _ _ p wp w4 w5 hp h) 51840 (hp:=.inl rfl);refine⟨?_,?_,?_,?_,?_,?_⟩;(iterate 6 (·exact zs));exact zl)|(apply Xct (K:=λs=>K (nxS _ _ _ s _ _)) (λp wp w4 w5 hp h=>hK _ hk2 _ _ p wp w4 w5 hp h) 210816 (hp:=.inr rfl);refine⟨?_,?_,?_,?_,?_,?_⟩;(iterate 6 (·exact zs));exact zl)|(refine Xpp (K:=λs=>K (nxS _ _ _ s _ _)) (λh=>hK _ hk2 _ _ h) ?_ ?_;refine⟨?_,?_,?_,?_,?_,?_⟩;(iterate 6 (·exact zs));exact zl))|fail):p:=h
theorem zz{p:Prop}(h:p:=by first|((repeat' first|((with_reducible refine LoS.mk ?_);exact zl)|(refine⟨_,UP _,?_⟩;exact zv)|(refine El.el hr ?_;clear hr;intro hr)|(with_reducible intro h;refine Y8 hr h ?_;clear hr;intro hr)|with_reducible intro _|(refine Yv hr ?_;rintro rfl;have hr:=hk;clear hk)|simp only[go_sem,simprocAttr,E,Fq,hl3,hl4,XeM,Z2,XeO,XeQ,Xai,XT,Xak,Xam,JI,JJ,Xaq,Xas,JK,hm3,hm4,XeN,KS,XeP,XeR,Xaj,ZO,Xal,Xan,Xao,Xap,Xar,Xat,Xau,hse,EF,Yy,Wu,WC,UM]|(with_reducible first|apply XV|apply XU|apply YM|apply Y1|apply Y2)|((first|with_reducible refine Jx hr ah ?_ ?_|(with_reducible refine Jh hr ?_ ?_;rotate_left;intro p;rotate_right));(·simp only[go_sem,simprocAttr,hse,EF,Yy,Wu,WC,UM]);intro hp hn hd hr;(try have hl3:=hd _ e3;simp only[go_sem,simprocAttr]at hl3);(try have hl4:=hd _ e4;simp only[go_sem,simprocAttr]at hl4);(try have XeM:=hd _ e25;simp only[go_sem,simprocAttr]at XeM);(try have Z2:=hd _ e52;simp only[go_sem,simprocAttr]at Z2);(try have XeO:=hd _ e93;simp only[go_sem,simprocAttr]at XeO);(try have XeQ:=hd _ e96;simp only[go_sem,simprocAttr]at XeQ);(try have Xai:=hd _ Xj2;simp only[go_sem,simprocAttr]at Xai);(try have XT:=hd _ YT;simp only[go_sem,simprocAttr]at XT);(try have Xak:=hd _ XbW;simp only[go_sem,simprocAttr]at Xak);(try have Xam:=hd _ XaX;simp only[go_sem,simprocAttr]at Xam);(try have JI:=hd _ XcQ;simp only[go_sem,simprocAttr]at JI);(try have JJ:=hd _ VM;simp only[go_sem,simprocAttr]at JJ);(try have Xaq:=hd _ XiU;simp only[go_sem,simprocAttr]at Xaq);(try have Xas:=hd _ XmA;simp only[go_sem,simprocAttr]at Xas);(try have JK:=hd _ XiV;simp only[go_sem,simprocAttr]at JK))|(refine YN ?_ ?_;.first|assumption|omega|(dsimp only at *;omega))|((with_reducible first|refine Xlo hr ah ?_|refine Xpo hr ah ?_);intro hp hn hd hr;(try simp only[WK,Wu,WC]at hn);(try have hm3:=hd _ e3;simp only[go_sem,simprocAttr]at hm3);(try have hm4:=hd _ e4;simp only[go_sem,simprocAttr]at hm4);(try have XeN:=hd _ e25;simp only[go_sem,simprocAttr]at XeN);(try have KS:=hd _ e52;simp only[go_sem,simprocAttr]at KS);(try have XeP:=hd _ e93;simp only[go_sem,simprocAttr]at XeP);(try have XeR:=hd _ e96;simp only[go_sem,simprocAttr]at XeR);(try have Xaj:=hd _ Xj2;simp only[go_sem,simprocAttr]at Xaj);(try have ZO:=hd _ YT;simp only[go_sem,simprocAttr]at ZO);(try have Xal:=hd _ XbW;simp only[go_sem,simprocAttr]at Xal);(try have Xan:=hd _ XaX;simp only[go_sem,simprocAttr]at Xan);(try have Xao:=hd _ XcQ;simp only[go_sem,simprocAttr]at Xao);(try have Xap:=hd _ VM;simp only[go_sem,simprocAttr]at Xap);(try have Xar:=hd _ XiU;simp only[go_sem,simprocAttr]at Xar);(try have Xat:=hd _ XmA;simp only[go_sem,simprocAttr]at Xat);(try have Xau:=hd _ XiV;simp only[go_sem,simprocAttr]at Xau))|((with_reducible first|refine Xhd hr ?_|refine XmE hr ?_);intro p hp hn hd hr;(try simp only[WK,Wu,WC]at hn);(try have hm3:=hd _ e3;simp only[go_sem,simprocAttr]at hm3);(try have hm4:=hd _ e4;simp only[go_sem,simprocAttr]at hm4);(try have XeN:=hd _ e25;simp only[go_sem,simprocAttr]at XeN);(try have KS:=hd _ e52;simp only[go_sem,simprocAttr]at KS);(try have XeP:=hd _ e93;simp only[go_sem,simprocAttr]at XeP);(try have XeR:=hd _ e96;simp only[go_sem,simprocAttr]at XeR);(try have Xaj:=hd _ Xj2;simp only[go_sem,simprocAttr]at Xaj);(try have ZO:=hd _ YT;simp only[go_sem,simprocAttr]at ZO);(try have Xal:=hd _ XbW;simp only[go_sem,simprocAttr]at Xal);(try have Xan:=hd _ XaX;simp only[go_sem,simprocAttr]at Xan);(try have Xao:=hd _ XcQ;simp only[go_sem,simprocAttr]at Xao);(try have Xap:=hd _ VM;simp only[go_sem,simprocAttr]at Xap);(try have Xar:=hd _ XiU;simp only[go_sem,simprocAttr]at Xar);(try have Xat:=hd _ XmA;simp only[go_sem,simprocAttr]at Xat);(try have Xau:=hd _ XiV;simp only[go_sem,simprocAttr]at Xau))|(with_reducible refine XmD hr ?_ ?_;(·simp only[go_sem]);intro p hp hn hd hr;(try have hl3:=hd _ e3;simp only[go_sem,simprocAttr]at hl3);(try have hl4:=hd _ e4;simp only[go_sem,simprocAttr]at hl4);(try have XeM:=hd _ e25;simp only[go_sem,simprocAttr]at XeM);(try have Z2:=hd _ e52;simp only[go_sem,simprocAttr]at Z2);(try have XeO:=hd _ e93;simp only[go_sem,simprocAttr]at XeO);(try have XeQ:=hd _ e96;simp only[go_sem,simprocAttr]at XeQ);(try have Xai:=hd _ Xj2;simp only[go_sem,simprocAttr]at Xai);(try have XT:=hd _ YT;simp only[go_sem,simprocAttr]at XT);(try have Xak:=hd _ XbW;simp only[go_sem,simprocAttr]at Xak);(try have Xam:=hd _ XaX;simp only[go_sem,simprocAttr]at Xam);(try have JI:=hd _ XcQ;simp only[go_sem,simprocAttr]at JI);(try have JJ:=hd _ VM;simp only[go_sem,simprocAttr]at JJ);(try have Xaq:=hd _ XiU;simp only[go_sem,simprocAttr]at Xaq);(try have Xas:=hd _ XmA;simp only[go_sem,simprocAttr]at Xas);(try have JK:=hd _ XiV;simp only[go_sem,simprocAttr]at JK);(try simp only[Ua]at hn))|exact sp|(with_reducible first|refine CallX.c ?_ _|refine OK.c hr hw ?_ (λy hr=>?_) _|refine OK.d hr hw ?_ (λy hr=>?_) _)|refine dp ?_|(refine Yv hr ?_;rintro rfl;with_reducible refine ZS ?_)|exact Xbn hr|exact Xav hr|(apply Xaw;assumption)|with_reducible refine XtP (λhi=>?_) (λhi=>?_)|(exfalso;omega)|((first|refine Y8 (c:=true) hr rfl ?_|refine Y8 (c:=false) hr rfl ?_|refine Y8 hr ah ?_);intro hr)|rw[Uy ai]|omega|rw[Uy (by simp only[WK,Uf,WC];omega)]|(with_reducible apply Xdg;(·simp only[go_sem,simprocAttr,E,Fq,hl3,hl4,XeM,Z2,XeO,XeQ,Xai,XT,Xak,Xam,JI,JJ,Xaq,Xas,JK,hm3,hm4,XeN,KS,XeP,XeR,Xaj,ZO,Xal,Xan,Xao,Xap,Xar,Xat,Xau,hse,EF,Yy,Wu,WC,UM];repeat' first|rfl|refine⟨?_,?_⟩);(·simp only[ZQ,snap,go_sem,simprocAttr,E,Fq,hl3,hl4,XeM,Z2,XeO,XeQ,Xai,XT,Xak,Xam,JI,JJ,Xaq,Xas,JK,hm3,hm4,XeN,KS,XeP,XeR,Xaj,ZO,Xal,Xan,Xao,Xap,Xar,Xat,Xau,hse,EF,Yy,Wu,WC,UM];repeat' first|rfl|refine⟨?_,?_⟩);(·simp only[go_sem,simprocAttr,E,Fq,hl3,hl4,XeM,Z2,XeO,XeQ,Xai,XT,Xak,Xam,JI,JJ,Xaq,Xas,JK,hm3,hm4,XeN,KS,XeP,XeR,Xaj,ZO,Xal,Xan,Xao,Xap,Xar,Xat,Xau,hse,EF,Yy,Wu,WC,UM];first|done|omega|(simp;omega)))|fail);done)|fail):p:=h
theorem zh{p:Prop}(h:p:=by first|(rintro _ hw r hr C _ rfl hwf hf;have hse:=@Xha _ hw;exact zz)|fail):p:=h
end Go.Sx
