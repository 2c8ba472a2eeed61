import Derived.Test.YtggdbcmfjliibaaGreatProg
import Derived.KernelRfl
import Derived.Test.YtggdbcmfjliibaaGreatNE
import Derived.Test.YtggdbcmfjliibaaGreatNC
set_option linter.all false
namespace Go.Sx
open Go.Proofs
theorem ty0:tyOf Tryz.prog 0=some ⟨1,0,(.tuple #[]),.other⟩:=by kernel_rfl
theorem bytes0:Tryz.prog.bytesOf 0=0:=by kernel_rfl
theorem ty1:tyOf Tryz.prog 1=some ⟨1,8,.nilFunc,.other⟩:=by kernel_rfl
theorem bytes1:Tryz.prog.bytesOf 1=8:=by kernel_rfl
theorem ty2:tyOf Tryz.prog 2=some ⟨1,8,(.int .i64 0),.int .i64⟩:=by kernel_rfl
theorem bytes2:Tryz.prog.bytesOf 2=8:=by kernel_rfl
theorem ty3:tyOf Tryz.prog 3=some ⟨1,8,(.int .i64 0),.int .i64⟩:=by kernel_rfl
theorem bytes3:Tryz.prog.bytesOf 3=8:=by kernel_rfl
theorem ty4:tyOf Tryz.prog 4=some ⟨1,1,(.bool false),.bool⟩:=by kernel_rfl
theorem bytes4:Tryz.prog.bytesOf 4=1:=by kernel_rfl
theorem ty5:tyOf Tryz.prog 5=some ⟨1,1,(.int .u8 0),.int .u8⟩:=by kernel_rfl
theorem bytes5:Tryz.prog.bytesOf 5=1:=by kernel_rfl
theorem ty6:tyOf Tryz.prog 6=some ⟨1,1,(.int .u8 0),.int .u8⟩:=by kernel_rfl
theorem bytes6:Tryz.prog.bytesOf 6=1:=by kernel_rfl
theorem ty7:tyOf Tryz.prog 7=some ⟨4,24,(.agg #[(.int .i64 0),(.int .i64 0),(.bool false),(.int .u8 0)]),.struct [(0,1,2),(1,1,3),(2,1,4),(3,1,6)]⟩:=by kernel_rfl
theorem bytes7:Tryz.prog.bytesOf 7=24:=by kernel_rfl
theorem flat7:flatKinds Tryz.prog 7=some [some .i64,some .i64,none,some .u8]:=by kernel_rfl
theorem ty8:tyOf Tryz.prog 8=some ⟨4,24,(.agg #[(.int .i64 0),(.int .i64 0),(.bool false),(.int .u8 0)]),.struct [(0,1,2),(1,1,3),(2,1,4),(3,1,6)]⟩:=by kernel_rfl
theorem bytes8:Tryz.prog.bytesOf 8=24:=by kernel_rfl
theorem flat8:flatKinds Tryz.prog 8=some [some .i64,some .i64,none,some .u8]:=by kernel_rfl
theorem ty9:tyOf Tryz.prog 9=some ⟨1,16,(.string (ByteArray.mk #[])),.str⟩:=by kernel_rfl
theorem bytes9:Tryz.prog.bytesOf 9=16:=by kernel_rfl
theorem ty10:tyOf Tryz.prog 10=some ⟨1,16,(.string (ByteArray.mk #[])),.str⟩:=by kernel_rfl
theorem bytes10:Tryz.prog.bytesOf 10=16:=by kernel_rfl
theorem ty11:tyOf Tryz.prog 11=some ⟨1,16,(.string (ByteArray.mk #[])),.str⟩:=by kernel_rfl
theorem bytes11:Tryz.prog.bytesOf 11=16:=by kernel_rfl
theorem ty12:tyOf Tryz.prog 12=some ⟨1,8,(.int .u64 0),.int .u64⟩:=by kernel_rfl
theorem bytes12:Tryz.prog.bytesOf 12=8:=by kernel_rfl
theorem ty13:tyOf Tryz.prog 13=some ⟨2,24,(.agg #[(.string (ByteArray.mk #[])),(.int .u64 0)]),.struct [(0,1,9),(1,1,12)]⟩:=by kernel_rfl
theorem bytes13:Tryz.prog.bytesOf 13=24:=by kernel_rfl
theorem ty14:tyOf Tryz.prog 14=some ⟨2,24,(.agg #[(.string (ByteArray.mk #[])),(.int .u64 0)]),.struct [(0,1,9),(1,1,12)]⟩:=by kernel_rfl
theorem bytes14:Tryz.prog.bytesOf 14=24:=by kernel_rfl
theorem ty15:tyOf Tryz.prog 15=some ⟨1,8,(.pointer none),.other⟩:=by kernel_rfl
theorem bytes15:Tryz.prog.bytesOf 15=8:=by kernel_rfl
theorem ty16:tyOf Tryz.prog 16=some ⟨1,8,(.pointer none),.other⟩:=by kernel_rfl
theorem bytes16:Tryz.prog.bytesOf 16=8:=by kernel_rfl
theorem ty17:tyOf Tryz.prog 17=some ⟨1,8,(.pointer none),.other⟩:=by kernel_rfl
theorem bytes17:Tryz.prog.bytesOf 17=8:=by kernel_rfl
theorem ty18:tyOf Tryz.prog 18=some ⟨1,8,(.agg #[(.pointer none)]),.struct [(0,1,17)]⟩:=by kernel_rfl
theorem bytes18:Tryz.prog.bytesOf 18=8:=by kernel_rfl
theorem ty19:tyOf Tryz.prog 19=some ⟨1,8,(.agg #[(.pointer none)]),.struct [(0,1,17)]⟩:=by kernel_rfl
theorem bytes19:Tryz.prog.bytesOf 19=8:=by kernel_rfl
theorem ty20:tyOf Tryz.prog 20=some ⟨1,16,.nilIface,.iface⟩:=by kernel_rfl
theorem bytes20:Tryz.prog.bytesOf 20=16:=by kernel_rfl
theorem ty21:tyOf Tryz.prog 21=some ⟨1,4,(.int .i32 0),.int .i32⟩:=by kernel_rfl
theorem bytes21:Tryz.prog.bytesOf 21=4:=by kernel_rfl
theorem ty22:tyOf Tryz.prog 22=some ⟨1,24,(.slice none 0 0),.slice 44 5⟩:=by kernel_rfl
theorem bytes22:Tryz.prog.bytesOf 22=24:=by kernel_rfl
theorem ty23:tyOf Tryz.prog 23=some ⟨2,32,(.agg #[(.int .i64 0),(.slice none 0 0)]),.struct [(0,1,3),(1,1,22)]⟩:=by kernel_rfl
theorem bytes23:Tryz.prog.bytesOf 23=32:=by kernel_rfl
theorem ty24:tyOf Tryz.prog 24=some ⟨2,32,(.agg #[(.int .i64 0),(.slice none 0 0)]),.struct [(0,1,3),(1,1,22)]⟩:=by kernel_rfl
theorem bytes24:Tryz.prog.bytesOf 24=32:=by kernel_rfl
theorem ty25:tyOf Tryz.prog 25=some ⟨1,24,(.slice none 0 0),.slice 38 1⟩:=by kernel_rfl
theorem bytes25:Tryz.prog.bytesOf 25=24:=by kernel_rfl
theorem ty26:tyOf Tryz.prog 26=some ⟨1,8,(.int .i64 0),.int .i64⟩:=by kernel_rfl
theorem bytes26:Tryz.prog.bytesOf 26=8:=by kernel_rfl
theorem ty27:tyOf Tryz.prog 27=some ⟨3,40,(.agg #[(.int .i64 0),(.slice none 0 0),(.int .i64 0)]),.struct [(0,1,3),(1,1,25),(2,1,26)]⟩:=by kernel_rfl
theorem bytes27:Tryz.prog.bytesOf 27=40:=by kernel_rfl
theorem ty28:tyOf Tryz.prog 28=some ⟨3,40,(.agg #[(.int .i64 0),(.slice none 0 0),(.int .i64 0)]),.struct [(0,1,3),(1,1,25),(2,1,26)]⟩:=by kernel_rfl
theorem bytes28:Tryz.prog.bytesOf 28=40:=by kernel_rfl
theorem ty29:tyOf Tryz.prog 29=some ⟨3,40,(.agg #[(.int .i64 0),(.slice none 0 0),(.int .i64 0)]),.struct [(0,1,3),(1,1,25),(2,1,26)]⟩:=by kernel_rfl
theorem bytes29:Tryz.prog.bytesOf 29=40:=by kernel_rfl
theorem ty30:tyOf Tryz.prog 30=some ⟨1,0,(.tuple #[(.agg #[(.int .i64 0),(.slice none 0 0),(.int .i64 0)]),(.int .i64 0)]),.other⟩:=by kernel_rfl
theorem bytes30:Tryz.prog.bytesOf 30=0:=by kernel_rfl
theorem ty31:tyOf Tryz.prog 31=some ⟨1,8,.nilFunc,.other⟩:=by kernel_rfl
theorem bytes31:Tryz.prog.bytesOf 31=8:=by kernel_rfl
theorem ty32:tyOf Tryz.prog 32=some ⟨1,24,(.slice none 0 0),.slice 40 5⟩:=by kernel_rfl
theorem bytes32:Tryz.prog.bytesOf 32=24:=by kernel_rfl
theorem ty33:tyOf Tryz.prog 33=some ⟨2,32,(.agg #[(.int .i64 0),(.slice none 0 0)]),.struct [(0,1,3),(1,1,32)]⟩:=by kernel_rfl
theorem bytes33:Tryz.prog.bytesOf 33=32:=by kernel_rfl
theorem ty34:tyOf Tryz.prog 34=some ⟨2,32,(.agg #[(.int .i64 0),(.slice none 0 0)]),.struct [(0,1,3),(1,1,32)]⟩:=by kernel_rfl
theorem bytes34:Tryz.prog.bytesOf 34=32:=by kernel_rfl
theorem ty35:tyOf Tryz.prog 35=some ⟨1,8,.nilFunc,.other⟩:=by kernel_rfl
theorem bytes35:Tryz.prog.bytesOf 35=8:=by kernel_rfl
theorem ty36:tyOf Tryz.prog 36=some ⟨1,0,(.tuple #[(.agg #[(.int .i64 0),(.slice none 0 0),(.int .i64 0)]),(.int .i64 0)]),.other⟩:=by kernel_rfl
theorem bytes36:Tryz.prog.bytesOf 36=0:=by kernel_rfl
theorem ty37:tyOf Tryz.prog 37=some ⟨1,8,.nilFunc,.other⟩:=by kernel_rfl
theorem bytes37:Tryz.prog.bytesOf 37=8:=by kernel_rfl
theorem ty38:tyOf Tryz.prog 38=some ⟨1,8,(.int .u64 0),.int .u64⟩:=by kernel_rfl
theorem bytes38:Tryz.prog.bytesOf 38=8:=by kernel_rfl
theorem ty39:tyOf Tryz.prog 39=some ⟨5,40,(.agg #[(.int .i64 0),(.int .i64 0),(.int .i64 0),(.int .i64 0),(.int .u64 0)]),.struct [(0,1,3),(1,1,3),(2,1,3),(3,1,3),(4,1,38)]⟩:=by kernel_rfl
theorem bytes39:Tryz.prog.bytesOf 39=40:=by kernel_rfl
theorem flat39:flatKinds Tryz.prog 39=some [some .i64,some .i64,some .i64,some .i64,some .u64]:=by kernel_rfl
theorem ty40:tyOf Tryz.prog 40=some ⟨5,40,(.agg #[(.int .i64 0),(.int .i64 0),(.int .i64 0),(.int .i64 0),(.int .u64 0)]),.struct [(0,1,3),(1,1,3),(2,1,3),(3,1,3),(4,1,38)]⟩:=by kernel_rfl
theorem bytes40:Tryz.prog.bytesOf 40=40:=by kernel_rfl
theorem flat40:flatKinds Tryz.prog 40=some [some .i64,some .i64,some .i64,some .i64,some .u64]:=by kernel_rfl
theorem ty41:tyOf Tryz.prog 41=some ⟨1,0,(.tuple #[(.agg #[(.int .i64 0),(.int .i64 0),(.int .i64 0),(.int .i64 0),(.int .u64 0)]),(.bool false)]),.other⟩:=by kernel_rfl
theorem bytes41:Tryz.prog.bytesOf 41=0:=by kernel_rfl
theorem ty42:tyOf Tryz.prog 42=some ⟨1,8,.nilFunc,.other⟩:=by kernel_rfl
theorem bytes42:Tryz.prog.bytesOf 42=8:=by kernel_rfl
theorem ty43:tyOf Tryz.prog 43=some ⟨1,8,.nilFunc,.other⟩:=by kernel_rfl
theorem bytes43:Tryz.prog.bytesOf 43=8:=by kernel_rfl
theorem ty44:tyOf Tryz.prog 44=some ⟨5,40,(.agg #[(.int .i64 0),(.int .i64 0),(.int .i64 0),(.int .i64 0),(.int .u64 0)]),.struct [(0,1,3),(1,1,3),(2,1,3),(3,1,3),(4,1,38)]⟩:=by kernel_rfl
theorem bytes44:Tryz.prog.bytesOf 44=40:=by kernel_rfl
theorem flat44:flatKinds Tryz.prog 44=some [some .i64,some .i64,some .i64,some .i64,some .u64]:=by kernel_rfl
theorem ty45:tyOf Tryz.prog 45=some ⟨1,0,(.tuple #[(.agg #[(.int .i64 0),(.int .i64 0),(.int .i64 0),(.int .i64 0),(.int .u64 0)]),(.bool false)]),.other⟩:=by kernel_rfl
theorem bytes45:Tryz.prog.bytesOf 45=0:=by kernel_rfl
theorem ty46:tyOf Tryz.prog 46=some ⟨1,8,.nilFunc,.other⟩:=by kernel_rfl
theorem bytes46:Tryz.prog.bytesOf 46=8:=by kernel_rfl
theorem ty47:tyOf Tryz.prog 47=some ⟨1,8,.nilFunc,.other⟩:=by kernel_rfl
theorem bytes47:Tryz.prog.bytesOf 47=8:=by kernel_rfl
theorem ty48:tyOf Tryz.prog 48=some ⟨1,8,.nilFunc,.other⟩:=by kernel_rfl
theorem bytes48:Tryz.prog.bytesOf 48=8:=by kernel_rfl
theorem ty49:tyOf Tryz.prog 49=some ⟨1,8,.nilFunc,.other⟩:=by kernel_rfl
theorem bytes49:Tryz.prog.bytesOf 49=8:=by kernel_rfl
theorem ty50:tyOf Tryz.prog 50=some ⟨1,0,(.tuple #[(.slice none 0 0),(.int .i64 0)]),.other⟩:=by kernel_rfl
theorem bytes50:Tryz.prog.bytesOf 50=0:=by kernel_rfl
theorem ty51:tyOf Tryz.prog 51=some ⟨1,8,.nilFunc,.other⟩:=by kernel_rfl
theorem bytes51:Tryz.prog.bytesOf 51=8:=by kernel_rfl
theorem ty52:tyOf Tryz.prog 52=some ⟨1,8,.nilFunc,.other⟩:=by kernel_rfl
theorem bytes52:Tryz.prog.bytesOf 52=8:=by kernel_rfl
theorem ty53:tyOf Tryz.prog 53=some ⟨1,8,.nilFunc,.other⟩:=by kernel_rfl
theorem bytes53:Tryz.prog.bytesOf 53=8:=by kernel_rfl
theorem ty54:tyOf Tryz.prog 54=some ⟨1,8,.nilFunc,.other⟩:=by kernel_rfl
theorem bytes54:Tryz.prog.bytesOf 54=8:=by kernel_rfl
theorem ty55:tyOf Tryz.prog 55=some ⟨2,16,(.agg #[(.int .i64 0),(.int .i64 0)]),.struct [(0,1,3),(1,1,3)]⟩:=by kernel_rfl
theorem bytes55:Tryz.prog.bytesOf 55=16:=by kernel_rfl
theorem flat55:flatKinds Tryz.prog 55=some [some .i64,some .i64]:=by kernel_rfl
theorem ty56:tyOf Tryz.prog 56=some ⟨2,16,(.agg #[(.int .i64 0),(.int .i64 0)]),.struct [(0,1,3),(1,1,3)]⟩:=by kernel_rfl
theorem bytes56:Tryz.prog.bytesOf 56=16:=by kernel_rfl
theorem flat56:flatKinds Tryz.prog 56=some [some .i64,some .i64]:=by kernel_rfl
theorem ty57:tyOf Tryz.prog 57=some ⟨1,24,(.slice none 0 0),.slice 154 4⟩:=by kernel_rfl
theorem bytes57:Tryz.prog.bytesOf 57=24:=by kernel_rfl
theorem ty58:tyOf Tryz.prog 58=some ⟨6,80,(.agg #[(.int .i64 0),(.int .i64 0),(.slice none 0 0),(.slice none 0 0),(.int .i64 0),(.int .i64 0)]),.struct [(0,2,56),(2,1,25),(3,1,57),(4,1,3),(5,1,3)]⟩:=by kernel_rfl
theorem bytes58:Tryz.prog.bytesOf 58=80:=by kernel_rfl
theorem ty59:tyOf Tryz.prog 59=some ⟨6,80,(.agg #[(.int .i64 0),(.int .i64 0),(.slice none 0 0),(.slice none 0 0),(.int .i64 0),(.int .i64 0)]),.struct [(0,2,56),(2,1,25),(3,1,57),(4,1,3),(5,1,3)]⟩:=by kernel_rfl
theorem bytes59:Tryz.prog.bytesOf 59=80:=by kernel_rfl
theorem ty60:tyOf Tryz.prog 60=some ⟨1,24,(.slice none 0 0),.slice 174 3⟩:=by kernel_rfl
theorem bytes60:Tryz.prog.bytesOf 60=24:=by kernel_rfl
theorem ty61:tyOf Tryz.prog 61=some ⟨1,24,(.slice none 0 0),.slice 134 3⟩:=by kernel_rfl
theorem bytes61:Tryz.prog.bytesOf 61=24:=by kernel_rfl
theorem ty62:tyOf Tryz.prog 62=some ⟨1,24,(.slice none 0 0),.slice 3 1⟩:=by kernel_rfl
theorem bytes62:Tryz.prog.bytesOf 62=24:=by kernel_rfl
theorem ty63:tyOf Tryz.prog 63=some ⟨3,72,(.agg #[(.slice none 0 0),(.slice none 0 0),(.slice none 0 0)]),.struct [(0,1,60),(1,1,61),(2,1,62)]⟩:=by kernel_rfl
theorem bytes63:Tryz.prog.bytesOf 63=72:=by kernel_rfl
theorem ty64:tyOf Tryz.prog 64=some ⟨3,72,(.agg #[(.slice none 0 0),(.slice none 0 0),(.slice none 0 0)]),.struct [(0,1,60),(1,1,61),(2,1,62)]⟩:=by kernel_rfl
theorem bytes64:Tryz.prog.bytesOf 64=72:=by kernel_rfl
theorem ty65:tyOf Tryz.prog 65=some ⟨1,24,(.slice none 0 0),.slice 161 3⟩:=by kernel_rfl
theorem bytes65:Tryz.prog.bytesOf 65=24:=by kernel_rfl
theorem ty66:tyOf Tryz.prog 66=some ⟨1,24,(.agg #[(.slice none 0 0)]),.struct [(0,1,65)]⟩:=by kernel_rfl
theorem bytes66:Tryz.prog.bytesOf 66=24:=by kernel_rfl
theorem ty67:tyOf Tryz.prog 67=some ⟨1,24,(.agg #[(.slice none 0 0)]),.struct [(0,1,65)]⟩:=by kernel_rfl
theorem bytes67:Tryz.prog.bytesOf 67=24:=by kernel_rfl
theorem ty68:tyOf Tryz.prog 68=some ⟨1,24,(.slice none 0 0),.slice 121 2⟩:=by kernel_rfl
theorem bytes68:Tryz.prog.bytesOf 68=24:=by kernel_rfl
theorem ty69:tyOf Tryz.prog 69=some ⟨13,248,(.agg #[(.int .i64 0),(.int .i64 0),(.slice none 0 0),(.slice none 0 0),(.int .i64 0),(.int .i64 0),(.slice none 0 0),(.slice none 0 0),(.slice none 0 0),(.slice none 0 0),(.slice none 0 0),(.slice none 0 0),(.slice none 0 0)]),.struct [(0,6,59),(6,3,64),(9,1,67),(10,1,67),(11,1,68),(12,1,25)]⟩:=by kernel_rfl
theorem bytes69:Tryz.prog.bytesOf 69=248:=by kernel_rfl
theorem ty70:tyOf Tryz.prog 70=some ⟨13,248,(.agg #[(.int .i64 0),(.int .i64 0),(.slice none 0 0),(.slice none 0 0),(.int .i64 0),(.int .i64 0),(.slice none 0 0),(.slice none 0 0),(.slice none 0 0),(.slice none 0 0),(.slice none 0 0),(.slice none 0 0),(.slice none 0 0)]),.struct [(0,6,59),(6,3,64),(9,1,67),(10,1,67),(11,1,68),(12,1,25)]⟩:=by kernel_rfl
theorem bytes70:Tryz.prog.bytesOf 70=248:=by kernel_rfl
theorem ty71:tyOf Tryz.prog 71=some ⟨7,56,(.agg #[(.int .i64 0),(.int .u64 0),(.int .i64 0),(.int .i64 0),(.int .i64 0),(.int .i64 0),(.int .u64 0)]),.struct [(0,1,3),(1,1,38),(2,5,40)]⟩:=by kernel_rfl
theorem bytes71:Tryz.prog.bytesOf 71=56:=by kernel_rfl
theorem ty72:tyOf Tryz.prog 72=some ⟨7,56,(.agg #[(.int .i64 0),(.int .u64 0),(.int .i64 0),(.int .i64 0),(.int .i64 0),(.int .i64 0),(.int .u64 0)]),.struct [(0,1,3),(1,1,38),(2,5,40)]⟩:=by kernel_rfl
theorem bytes72:Tryz.prog.bytesOf 72=56:=by kernel_rfl
theorem ty73:tyOf Tryz.prog 73=some ⟨3,16,(.agg #[(.bool false),(.bool false),(.int .u64 0)]),.struct [(0,1,4),(1,1,4),(2,1,38)]⟩:=by kernel_rfl
theorem bytes73:Tryz.prog.bytesOf 73=16:=by kernel_rfl
theorem flat73:flatKinds Tryz.prog 73=some [none,none,some .u64]:=by kernel_rfl
theorem ty74:tyOf Tryz.prog 74=some ⟨3,16,(.agg #[(.bool false),(.bool false),(.int .u64 0)]),.struct [(0,1,4),(1,1,4),(2,1,38)]⟩:=by kernel_rfl
theorem bytes74:Tryz.prog.bytesOf 74=16:=by kernel_rfl
theorem flat74:flatKinds Tryz.prog 74=some [none,none,some .u64]:=by kernel_rfl
theorem ty75:tyOf Tryz.prog 75=some ⟨1,0,(.tuple #[(.agg #[(.int .i64 0),(.int .i64 0),(.slice none 0 0),(.slice none 0 0),(.int .i64 0),(.int .i64 0),(.slice none 0 0),(.slice none 0 0),(.slice none 0 0),(.slice none 0 0),(.slice none 0 0),(.slice none 0 0),(.slice none 0 0)]),(.agg #[(.int .i64 0),(.slice none 0 0),(.int .i64 0)]),(.agg #[(.int .i64 0),(.int .u64 0),(.int .i64 0),(.int .i64 0),(.int .i64 0),(.int .i64 0),(.int .u64 0)]),(.agg #[(.bool false),(.bool false),(.int .u64 0)]),(.int .i64 0)]),.other⟩:=by kernel_rfl
theorem bytes75:Tryz.prog.bytesOf 75=0:=by kernel_rfl
theorem ty76:tyOf Tryz.prog 76=some ⟨1,8,.nilFunc,.other⟩:=by kernel_rfl
theorem bytes76:Tryz.prog.bytesOf 76=8:=by kernel_rfl
theorem ty77:tyOf Tryz.prog 77=some ⟨1,24,(.slice none 0 0),.slice 208 4⟩:=by kernel_rfl
theorem bytes77:Tryz.prog.bytesOf 77=24:=by kernel_rfl
theorem ty78:tyOf Tryz.prog 78=some ⟨1,24,(.slice none 0 0),.slice 251 3⟩:=by kernel_rfl
theorem bytes78:Tryz.prog.bytesOf 78=24:=by kernel_rfl
theorem ty79:tyOf Tryz.prog 79=some ⟨10,208,(.agg #[(.int .i64 0),(.int .i64 0),(.slice none 0 0),(.slice none 0 0),(.slice none 0 0),(.slice none 0 0),(.slice none 0 0),(.slice none 0 0),(.slice none 0 0),(.slice none 0 0)]),.struct [(0,2,56),(2,1,77),(3,3,64),(6,1,67),(7,1,67),(8,1,78),(9,1,25)]⟩:=by kernel_rfl
theorem bytes79:Tryz.prog.bytesOf 79=208:=by kernel_rfl
theorem ty80:tyOf Tryz.prog 80=some ⟨10,208,(.agg #[(.int .i64 0),(.int .i64 0),(.slice none 0 0),(.slice none 0 0),(.slice none 0 0),(.slice none 0 0),(.slice none 0 0),(.slice none 0 0),(.slice none 0 0),(.slice none 0 0)]),.struct [(0,2,56),(2,1,77),(3,3,64),(6,1,67),(7,1,67),(8,1,78),(9,1,25)]⟩:=by kernel_rfl
theorem bytes80:Tryz.prog.bytesOf 80=208:=by kernel_rfl
theorem ty81:tyOf Tryz.prog 81=some ⟨24,480,(.agg #[(.int .i64 0),(.int .i64 0),(.slice none 0 0),(.slice none 0 0),(.int .i64 0),(.int .i64 0),(.slice none 0 0),(.slice none 0 0),(.slice none 0 0),(.slice none 0 0),(.slice none 0 0),(.slice none 0 0),(.slice none 0 0),(.int .i64 0),(.int .i64 0),(.slice none 0 0),(.slice none 0 0),(.slice none 0 0),(.slice none 0 0),(.slice none 0 0),(.slice none 0 0),(.slice none 0 0),(.slice none 0 0),(.slice none 0 0)]),.struct [(0,13,70),(13,10,80),(23,1,25)]⟩:=by kernel_rfl
theorem bytes81:Tryz.prog.bytesOf 81=480:=by kernel_rfl
theorem ty82:tyOf Tryz.prog 82=some ⟨24,480,(.agg #[(.int .i64 0),(.int .i64 0),(.slice none 0 0),(.slice none 0 0),(.int .i64 0),(.int .i64 0),(.slice none 0 0),(.slice none 0 0),(.slice none 0 0),(.slice none 0 0),(.slice none 0 0),(.slice none 0 0),(.slice none 0 0),(.int .i64 0),(.int .i64 0),(.slice none 0 0),(.slice none 0 0),(.slice none 0 0),(.slice none 0 0),(.slice none 0 0),(.slice none 0 0),(.slice none 0 0),(.slice none 0 0),(.slice none 0 0)]),.struct [(0,13,70),(13,10,80),(23,1,25)]⟩:=by kernel_rfl
theorem bytes82:Tryz.prog.bytesOf 82=480:=by kernel_rfl
theorem ty83:tyOf Tryz.prog 83=some ⟨1,8,.nilFunc,.other⟩:=by kernel_rfl
theorem bytes83:Tryz.prog.bytesOf 83=8:=by kernel_rfl
theorem ty84:tyOf Tryz.prog 84=some ⟨1,8,.nilFunc,.other⟩:=by kernel_rfl
theorem bytes84:Tryz.prog.bytesOf 84=8:=by kernel_rfl
theorem ty85:tyOf Tryz.prog 85=some ⟨1,0,(.tuple #[(.int .u64 0),(.int .i64 0)]),.other⟩:=by kernel_rfl
theorem bytes85:Tryz.prog.bytesOf 85=0:=by kernel_rfl
theorem ty86:tyOf Tryz.prog 86=some ⟨1,8,.nilFunc,.other⟩:=by kernel_rfl
theorem bytes86:Tryz.prog.bytesOf 86=8:=by kernel_rfl
theorem ty87:tyOf Tryz.prog 87=some ⟨2,16,(.agg #[(.int .i64 0),(.int .u64 0)]),.struct [(0,1,3),(1,1,38)]⟩:=by kernel_rfl
theorem bytes87:Tryz.prog.bytesOf 87=16:=by kernel_rfl
theorem flat87:flatKinds Tryz.prog 87=some [some .i64,some .u64]:=by kernel_rfl
theorem ty88:tyOf Tryz.prog 88=some ⟨2,16,(.agg #[(.int .i64 0),(.int .u64 0)]),.struct [(0,1,3),(1,1,38)]⟩:=by kernel_rfl
theorem bytes88:Tryz.prog.bytesOf 88=16:=by kernel_rfl
theorem flat88:flatKinds Tryz.prog 88=some [some .i64,some .u64]:=by kernel_rfl
theorem ty89:tyOf Tryz.prog 89=some ⟨1,24,(.slice none 0 0),.slice 88 2⟩:=by kernel_rfl
theorem bytes89:Tryz.prog.bytesOf 89=24:=by kernel_rfl
theorem ty90:tyOf Tryz.prog 90=some ⟨1,8,.nilFunc,.other⟩:=by kernel_rfl
theorem bytes90:Tryz.prog.bytesOf 90=8:=by kernel_rfl
theorem ty91:tyOf Tryz.prog 91=some ⟨1,8,.nilFunc,.other⟩:=by kernel_rfl
theorem bytes91:Tryz.prog.bytesOf 91=8:=by kernel_rfl
theorem ty92:tyOf Tryz.prog 92=some ⟨1,8,(.pointer none),.other⟩:=by kernel_rfl
theorem bytes92:Tryz.prog.bytesOf 92=8:=by kernel_rfl
theorem ty93:tyOf Tryz.prog 93=some ⟨1,8,.nilFunc,.other⟩:=by kernel_rfl
theorem bytes93:Tryz.prog.bytesOf 93=8:=by kernel_rfl
theorem ty94:tyOf Tryz.prog 94=some ⟨16,264,(.agg #[(.int .i64 0),(.int .i64 0),(.slice none 0 0),(.slice none 0 0),(.int .i64 0),(.int .i64 0),(.slice none 0 0),(.slice none 0 0),(.slice none 0 0),(.slice none 0 0),(.slice none 0 0),(.slice none 0 0),(.slice none 0 0),(.bool false),(.bool false),(.int .u64 0)]),.struct [(0,13,70),(13,3,74)]⟩:=by kernel_rfl
theorem bytes94:Tryz.prog.bytesOf 94=264:=by kernel_rfl
theorem ty95:tyOf Tryz.prog 95=some ⟨16,264,(.agg #[(.int .i64 0),(.int .i64 0),(.slice none 0 0),(.slice none 0 0),(.int .i64 0),(.int .i64 0),(.slice none 0 0),(.slice none 0 0),(.slice none 0 0),(.slice none 0 0),(.slice none 0 0),(.slice none 0 0),(.slice none 0 0),(.bool false),(.bool false),(.int .u64 0)]),.struct [(0,13,70),(13,3,74)]⟩:=by kernel_rfl
theorem bytes95:Tryz.prog.bytesOf 95=264:=by kernel_rfl
theorem ty96:tyOf Tryz.prog 96=some ⟨1,0,(.tuple #[(.agg #[(.int .i64 0),(.slice none 0 0),(.int .i64 0)]),(.agg #[(.int .i64 0),(.int .u64 0),(.int .i64 0),(.int .i64 0),(.int .i64 0),(.int .i64 0),(.int .u64 0)]),(.int .i64 0)]),.other⟩:=by kernel_rfl
theorem bytes96:Tryz.prog.bytesOf 96=0:=by kernel_rfl
theorem ty97:tyOf Tryz.prog 97=some ⟨1,8,.nilFunc,.other⟩:=by kernel_rfl
theorem bytes97:Tryz.prog.bytesOf 97=8:=by kernel_rfl
theorem ty98:tyOf Tryz.prog 98=some ⟨1,8,(.pointer none),.other⟩:=by kernel_rfl
theorem bytes98:Tryz.prog.bytesOf 98=8:=by kernel_rfl
theorem ty99:tyOf Tryz.prog 99=some ⟨2,32,(.agg #[(.slice none 0 0),(.int .i64 0)]),.struct [(0,1,62),(1,1,3)]⟩:=by kernel_rfl
theorem bytes99:Tryz.prog.bytesOf 99=32:=by kernel_rfl
theorem ty100:tyOf Tryz.prog 100=some ⟨2,32,(.agg #[(.slice none 0 0),(.int .i64 0)]),.struct [(0,1,62),(1,1,3)]⟩:=by kernel_rfl
theorem bytes100:Tryz.prog.bytesOf 100=32:=by kernel_rfl
theorem ty101:tyOf Tryz.prog 101=some ⟨1,8,.nilFunc,.other⟩:=by kernel_rfl
theorem bytes101:Tryz.prog.bytesOf 101=8:=by kernel_rfl
theorem ty102:tyOf Tryz.prog 102=some ⟨1,0,(.tuple #[(.agg #[(.int .i64 0),(.int .i64 0),(.slice none 0 0),(.slice none 0 0),(.int .i64 0),(.int .i64 0),(.slice none 0 0),(.slice none 0 0),(.slice none 0 0),(.slice none 0 0),(.slice none 0 0),(.slice none 0 0),(.slice none 0 0),(.int .i64 0),(.int .i64 0),(.slice none 0 0),(.slice none 0 0),(.slice none 0 0),(.slice none 0 0),(.slice none 0 0),(.slice none 0 0),(.slice none 0 0),(.slice none 0 0),(.slice none 0 0)]),(.int .u64 0),(.int .i64 0)]),.other⟩:=by kernel_rfl
theorem bytes102:Tryz.prog.bytesOf 102=0:=by kernel_rfl
theorem ty103:tyOf Tryz.prog 103=some ⟨1,8,.nilFunc,.other⟩:=by kernel_rfl
theorem bytes103:Tryz.prog.bytesOf 103=8:=by kernel_rfl
theorem ty104:tyOf Tryz.prog 104=some ⟨4,32,(.agg #[(.int .i64 0),(.int .u64 0),(.int .u64 0),(.int .u64 0)]),.struct [(0,1,3),(1,1,38),(2,1,38),(3,1,38)]⟩:=by kernel_rfl
theorem bytes104:Tryz.prog.bytesOf 104=32:=by kernel_rfl
theorem flat104:flatKinds Tryz.prog 104=some [some .i64,some .u64,some .u64,some .u64]:=by kernel_rfl
theorem ty105:tyOf Tryz.prog 105=some ⟨4,32,(.agg #[(.int .i64 0),(.int .u64 0),(.int .u64 0),(.int .u64 0)]),.struct [(0,1,3),(1,1,38),(2,1,38),(3,1,38)]⟩:=by kernel_rfl
theorem bytes105:Tryz.prog.bytesOf 105=32:=by kernel_rfl
theorem flat105:flatKinds Tryz.prog 105=some [some .i64,some .u64,some .u64,some .u64]:=by kernel_rfl
theorem ty106:tyOf Tryz.prog 106=some ⟨1,8,.nilFunc,.other⟩:=by kernel_rfl
theorem bytes106:Tryz.prog.bytesOf 106=8:=by kernel_rfl
theorem ty107:tyOf Tryz.prog 107=some ⟨1,8,.nilFunc,.other⟩:=by kernel_rfl
theorem bytes107:Tryz.prog.bytesOf 107=8:=by kernel_rfl
theorem ty108:tyOf Tryz.prog 108=some ⟨1,8,.nilFunc,.other⟩:=by kernel_rfl
theorem bytes108:Tryz.prog.bytesOf 108=8:=by kernel_rfl
theorem ty109:tyOf Tryz.prog 109=some ⟨1,8,.nilFunc,.other⟩:=by kernel_rfl
theorem bytes109:Tryz.prog.bytesOf 109=8:=by kernel_rfl
theorem ty110:tyOf Tryz.prog 110=some ⟨1,8,.nilFunc,.other⟩:=by kernel_rfl
theorem bytes110:Tryz.prog.bytesOf 110=8:=by kernel_rfl
theorem ty111:tyOf Tryz.prog 111=some ⟨1,8,.nilFunc,.other⟩:=by kernel_rfl
theorem bytes111:Tryz.prog.bytesOf 111=8:=by kernel_rfl
theorem ty112:tyOf Tryz.prog 112=some ⟨1,8,.nilFunc,.other⟩:=by kernel_rfl
theorem bytes112:Tryz.prog.bytesOf 112=8:=by kernel_rfl
theorem ty113:tyOf Tryz.prog 113=some ⟨1,8,.nilFunc,.other⟩:=by kernel_rfl
theorem bytes113:Tryz.prog.bytesOf 113=8:=by kernel_rfl
theorem ty114:tyOf Tryz.prog 114=some ⟨1,8,.nilFunc,.other⟩:=by kernel_rfl
theorem bytes114:Tryz.prog.bytesOf 114=8:=by kernel_rfl
theorem ty115:tyOf Tryz.prog 115=some ⟨1,8,.nilFunc,.other⟩:=by kernel_rfl
theorem bytes115:Tryz.prog.bytesOf 115=8:=by kernel_rfl
theorem ty116:tyOf Tryz.prog 116=some ⟨1,8,.nilFunc,.other⟩:=by kernel_rfl
theorem bytes116:Tryz.prog.bytesOf 116=8:=by kernel_rfl
theorem ty117:tyOf Tryz.prog 117=some ⟨1,8,.nilFunc,.other⟩:=by kernel_rfl
theorem bytes117:Tryz.prog.bytesOf 117=8:=by kernel_rfl
theorem ty118:tyOf Tryz.prog 118=some ⟨1,8,.nilFunc,.other⟩:=by kernel_rfl
theorem bytes118:Tryz.prog.bytesOf 118=8:=by kernel_rfl
theorem ty119:tyOf Tryz.prog 119=some ⟨1,8,.nilFunc,.other⟩:=by kernel_rfl
theorem bytes119:Tryz.prog.bytesOf 119=8:=by kernel_rfl
theorem ty120:tyOf Tryz.prog 120=some ⟨2,16,(.agg #[(.int .u64 0),(.int .i64 0)]),.struct [(0,1,38),(1,1,3)]⟩:=by kernel_rfl
theorem bytes120:Tryz.prog.bytesOf 120=16:=by kernel_rfl
theorem flat120:flatKinds Tryz.prog 120=some [some .u64,some .i64]:=by kernel_rfl
theorem ty121:tyOf Tryz.prog 121=some ⟨2,16,(.agg #[(.int .u64 0),(.int .i64 0)]),.struct [(0,1,38),(1,1,3)]⟩:=by kernel_rfl
theorem bytes121:Tryz.prog.bytesOf 121=16:=by kernel_rfl
theorem flat121:flatKinds Tryz.prog 121=some [some .u64,some .i64]:=by kernel_rfl
theorem ty122:tyOf Tryz.prog 122=some ⟨1,8,.nilFunc,.other⟩:=by kernel_rfl
theorem bytes122:Tryz.prog.bytesOf 122=8:=by kernel_rfl
theorem ty123:tyOf Tryz.prog 123=some ⟨1,16,.nilIface,.iface⟩:=by kernel_rfl
theorem bytes123:Tryz.prog.bytesOf 123=16:=by kernel_rfl
theorem ty124:tyOf Tryz.prog 124=some ⟨1,16,.nilIface,.iface⟩:=by kernel_rfl
theorem bytes124:Tryz.prog.bytesOf 124=16:=by kernel_rfl
theorem ty125:tyOf Tryz.prog 125=some ⟨1,8,.nilFunc,.other⟩:=by kernel_rfl
theorem bytes125:Tryz.prog.bytesOf 125=8:=by kernel_rfl
theorem ty126:tyOf Tryz.prog 126=some ⟨1,8,.nilFunc,.other⟩:=by kernel_rfl
theorem bytes126:Tryz.prog.bytesOf 126=8:=by kernel_rfl
theorem ty127:tyOf Tryz.prog 127=some ⟨1,8,.nilFunc,.other⟩:=by kernel_rfl
theorem bytes127:Tryz.prog.bytesOf 127=8:=by kernel_rfl
theorem ty128:tyOf Tryz.prog 128=some ⟨1,0,(.tuple #[(.agg #[(.int .i64 0),(.int .i64 0),(.slice none 0 0),(.slice none 0 0),(.int .i64 0),(.int .i64 0),(.slice none 0 0),(.slice none 0 0),(.slice none 0 0),(.slice none 0 0),(.slice none 0 0),(.slice none 0 0),(.slice none 0 0)]),(.int .i64 0)]),.other⟩:=by kernel_rfl
theorem bytes128:Tryz.prog.bytesOf 128=0:=by kernel_rfl
theorem ty129:tyOf Tryz.prog 129=some ⟨1,8,.nilFunc,.other⟩:=by kernel_rfl
theorem bytes129:Tryz.prog.bytesOf 129=8:=by kernel_rfl
theorem ty130:tyOf Tryz.prog 130=some ⟨1,0,(.tuple #[(.agg #[(.int .i64 0),(.int .i64 0),(.slice none 0 0),(.slice none 0 0),(.slice none 0 0),(.slice none 0 0),(.slice none 0 0),(.slice none 0 0),(.slice none 0 0),(.slice none 0 0)]),(.int .i64 0)]),.other⟩:=by kernel_rfl
theorem bytes130:Tryz.prog.bytesOf 130=0:=by kernel_rfl
theorem ty131:tyOf Tryz.prog 131=some ⟨1,8,.nilFunc,.other⟩:=by kernel_rfl
theorem bytes131:Tryz.prog.bytesOf 131=8:=by kernel_rfl
theorem ty132:tyOf Tryz.prog 132=some ⟨1,8,.nilFunc,.other⟩:=by kernel_rfl
theorem bytes132:Tryz.prog.bytesOf 132=8:=by kernel_rfl
theorem ty133:tyOf Tryz.prog 133=some ⟨3,24,(.agg #[(.int .i64 0),(.int .i64 0),(.bool false)]),.struct [(0,1,3),(1,1,3),(2,1,4)]⟩:=by kernel_rfl
theorem bytes133:Tryz.prog.bytesOf 133=24:=by kernel_rfl
theorem flat133:flatKinds Tryz.prog 133=some [some .i64,some .i64,none]:=by kernel_rfl
theorem ty134:tyOf Tryz.prog 134=some ⟨3,24,(.agg #[(.int .i64 0),(.int .i64 0),(.bool false)]),.struct [(0,1,3),(1,1,3),(2,1,4)]⟩:=by kernel_rfl
theorem bytes134:Tryz.prog.bytesOf 134=24:=by kernel_rfl
theorem flat134:flatKinds Tryz.prog 134=some [some .i64,some .i64,none]:=by kernel_rfl
theorem ty135:tyOf Tryz.prog 135=some ⟨6,48,(.agg #[(.int .i64 0),(.int .i64 0),(.int .i64 0),(.int .i64 0),(.int .i64 0),(.int .i64 0)]),.struct [(0,1,3),(1,1,3),(2,1,3),(3,1,3),(4,1,3),(5,1,3)]⟩:=by kernel_rfl
theorem bytes135:Tryz.prog.bytesOf 135=48:=by kernel_rfl
theorem flat135:flatKinds Tryz.prog 135=some [some .i64,some .i64,some .i64,some .i64,some .i64,some .i64]:=by kernel_rfl
theorem ty136:tyOf Tryz.prog 136=some ⟨6,48,(.agg #[(.int .i64 0),(.int .i64 0),(.int .i64 0),(.int .i64 0),(.int .i64 0),(.int .i64 0)]),.struct [(0,1,3),(1,1,3),(2,1,3),(3,1,3),(4,1,3),(5,1,3)]⟩:=by kernel_rfl
theorem bytes136:Tryz.prog.bytesOf 136=48:=by kernel_rfl
theorem flat136:flatKinds Tryz.prog 136=some [some .i64,some .i64,some .i64,some .i64,some .i64,some .i64]:=by kernel_rfl
theorem ty137:tyOf Tryz.prog 137=some ⟨1,0,(.tuple #[(.agg #[(.int .i64 0),(.int .i64 0),(.slice none 0 0),(.slice none 0 0),(.int .i64 0),(.int .i64 0),(.slice none 0 0),(.slice none 0 0),(.slice none 0 0),(.slice none 0 0),(.slice none 0 0),(.slice none 0 0),(.slice none 0 0)]),(.agg #[(.int .i64 0),(.int .i64 0),(.int .i64 0),(.int .i64 0),(.int .i64 0),(.int .i64 0)]),(.int .i64 0)]),.other⟩:=by kernel_rfl
theorem bytes137:Tryz.prog.bytesOf 137=0:=by kernel_rfl
theorem ty138:tyOf Tryz.prog 138=some ⟨1,8,.nilFunc,.other⟩:=by kernel_rfl
theorem bytes138:Tryz.prog.bytesOf 138=8:=by kernel_rfl
theorem ty139:tyOf Tryz.prog 139=some ⟨1,8,.nilFunc,.other⟩:=by kernel_rfl
theorem bytes139:Tryz.prog.bytesOf 139=8:=by kernel_rfl
theorem ty140:tyOf Tryz.prog 140=some ⟨1,0,(.tuple #[(.agg #[(.int .i64 0),(.int .i64 0),(.slice none 0 0),(.slice none 0 0),(.int .i64 0),(.int .i64 0),(.slice none 0 0),(.slice none 0 0),(.slice none 0 0),(.slice none 0 0),(.slice none 0 0),(.slice none 0 0),(.slice none 0 0)]),(.int .u64 0),(.int .i64 0)]),.other⟩:=by kernel_rfl
theorem bytes140:Tryz.prog.bytesOf 140=0:=by kernel_rfl
theorem ty141:tyOf Tryz.prog 141=some ⟨1,8,.nilFunc,.other⟩:=by kernel_rfl
theorem bytes141:Tryz.prog.bytesOf 141=8:=by kernel_rfl
theorem ty142:tyOf Tryz.prog 142=some ⟨3,16,(.agg #[(.bool false),(.bool false),(.int .u64 0)]),.struct [(0,1,4),(1,1,4),(2,1,38)]⟩:=by kernel_rfl
theorem bytes142:Tryz.prog.bytesOf 142=16:=by kernel_rfl
theorem flat142:flatKinds Tryz.prog 142=some [none,none,some .u64]:=by kernel_rfl
theorem ty143:tyOf Tryz.prog 143=some ⟨1,8,.nilFunc,.other⟩:=by kernel_rfl
theorem bytes143:Tryz.prog.bytesOf 143=8:=by kernel_rfl
theorem ty144:tyOf Tryz.prog 144=some ⟨1,0,(.tuple #[(.agg #[(.int .i64 0),(.int .i64 0),(.slice none 0 0),(.slice none 0 0),(.slice none 0 0),(.slice none 0 0),(.slice none 0 0),(.slice none 0 0),(.slice none 0 0),(.slice none 0 0)]),(.int .u64 0),(.int .i64 0)]),.other⟩:=by kernel_rfl
theorem bytes144:Tryz.prog.bytesOf 144=0:=by kernel_rfl
theorem ty145:tyOf Tryz.prog 145=some ⟨1,8,.nilFunc,.other⟩:=by kernel_rfl
theorem bytes145:Tryz.prog.bytesOf 145=8:=by kernel_rfl
theorem ty146:tyOf Tryz.prog 146=some ⟨1,8,(.int .u64 0),.int .u64⟩:=by kernel_rfl
theorem bytes146:Tryz.prog.bytesOf 146=8:=by kernel_rfl
theorem ty147:tyOf Tryz.prog 147=some ⟨1,8,.nilFunc,.other⟩:=by kernel_rfl
theorem bytes147:Tryz.prog.bytesOf 147=8:=by kernel_rfl
theorem ty148:tyOf Tryz.prog 148=some ⟨1,8,.nilFunc,.other⟩:=by kernel_rfl
theorem bytes148:Tryz.prog.bytesOf 148=8:=by kernel_rfl
theorem ty149:tyOf Tryz.prog 149=some ⟨1,8,.nilFunc,.other⟩:=by kernel_rfl
theorem bytes149:Tryz.prog.bytesOf 149=8:=by kernel_rfl
theorem ty150:tyOf Tryz.prog 150=some ⟨1,0,(.tuple #[(.slice none 0 0),(.bool false)]),.other⟩:=by kernel_rfl
theorem bytes150:Tryz.prog.bytesOf 150=0:=by kernel_rfl
theorem ty151:tyOf Tryz.prog 151=some ⟨1,24,(.slice none 0 0),.slice 121 2⟩:=by kernel_rfl
theorem bytes151:Tryz.prog.bytesOf 151=24:=by kernel_rfl
theorem ty152:tyOf Tryz.prog 152=some ⟨1,8,.nilFunc,.other⟩:=by kernel_rfl
theorem bytes152:Tryz.prog.bytesOf 152=8:=by kernel_rfl
theorem ty153:tyOf Tryz.prog 153=some ⟨4,32,(.agg #[(.int .i64 0),(.int .i64 0),(.int .i64 0),(.int .i64 0)]),.struct [(0,1,3),(1,1,3),(2,1,3),(3,1,3)]⟩:=by kernel_rfl
theorem bytes153:Tryz.prog.bytesOf 153=32:=by kernel_rfl
theorem flat153:flatKinds Tryz.prog 153=some [some .i64,some .i64,some .i64,some .i64]:=by kernel_rfl
theorem ty154:tyOf Tryz.prog 154=some ⟨4,32,(.agg #[(.int .i64 0),(.int .i64 0),(.int .i64 0),(.int .i64 0)]),.struct [(0,1,3),(1,1,3),(2,1,3),(3,1,3)]⟩:=by kernel_rfl
theorem bytes154:Tryz.prog.bytesOf 154=32:=by kernel_rfl
theorem flat154:flatKinds Tryz.prog 154=some [some .i64,some .i64,some .i64,some .i64]:=by kernel_rfl
theorem ty155:tyOf Tryz.prog 155=some ⟨3,72,(.agg #[(.slice none 0 0),(.slice none 0 0),(.slice none 0 0)]),.struct [(0,3,64)]⟩:=by kernel_rfl
theorem bytes155:Tryz.prog.bytesOf 155=72:=by kernel_rfl
theorem ty156:tyOf Tryz.prog 156=some ⟨3,72,(.agg #[(.slice none 0 0),(.slice none 0 0),(.slice none 0 0)]),.struct [(0,3,64)]⟩:=by kernel_rfl
theorem bytes156:Tryz.prog.bytesOf 156=72:=by kernel_rfl
theorem ty157:tyOf Tryz.prog 157=some ⟨1,8,.nilFunc,.other⟩:=by kernel_rfl
theorem bytes157:Tryz.prog.bytesOf 157=8:=by kernel_rfl
theorem ty158:tyOf Tryz.prog 158=some ⟨1,8,.nilFunc,.other⟩:=by kernel_rfl
theorem bytes158:Tryz.prog.bytesOf 158=8:=by kernel_rfl
theorem ty159:tyOf Tryz.prog 159=some ⟨1,8,.nilFunc,.other⟩:=by kernel_rfl
theorem bytes159:Tryz.prog.bytesOf 159=8:=by kernel_rfl
theorem ty160:tyOf Tryz.prog 160=some ⟨3,24,(.agg #[(.int .i64 0),(.int .u64 0),(.bool false)]),.struct [(0,1,3),(1,1,38),(2,1,4)]⟩:=by kernel_rfl
theorem bytes160:Tryz.prog.bytesOf 160=24:=by kernel_rfl
theorem flat160:flatKinds Tryz.prog 160=some [some .i64,some .u64,none]:=by kernel_rfl
theorem ty161:tyOf Tryz.prog 161=some ⟨3,24,(.agg #[(.int .i64 0),(.int .u64 0),(.bool false)]),.struct [(0,1,3),(1,1,38),(2,1,4)]⟩:=by kernel_rfl
theorem bytes161:Tryz.prog.bytesOf 161=24:=by kernel_rfl
theorem flat161:flatKinds Tryz.prog 161=some [some .i64,some .u64,none]:=by kernel_rfl
theorem ty162:tyOf Tryz.prog 162=some ⟨1,8,.nilFunc,.other⟩:=by kernel_rfl
theorem bytes162:Tryz.prog.bytesOf 162=8:=by kernel_rfl
theorem ty163:tyOf Tryz.prog 163=some ⟨1,8,.nilFunc,.other⟩:=by kernel_rfl
theorem bytes163:Tryz.prog.bytesOf 163=8:=by kernel_rfl
theorem ty164:tyOf Tryz.prog 164=some ⟨1,8,.nilFunc,.other⟩:=by kernel_rfl
theorem bytes164:Tryz.prog.bytesOf 164=8:=by kernel_rfl
theorem ty165:tyOf Tryz.prog 165=some ⟨1,8,.nilFunc,.other⟩:=by kernel_rfl
theorem bytes165:Tryz.prog.bytesOf 165=8:=by kernel_rfl
theorem ty166:tyOf Tryz.prog 166=some ⟨1,0,(.tuple #[(.int .i64 0),(.bool false)]),.other⟩:=by kernel_rfl
theorem bytes166:Tryz.prog.bytesOf 166=0:=by kernel_rfl
theorem ty167:tyOf Tryz.prog 167=some ⟨1,8,.nilFunc,.other⟩:=by kernel_rfl
theorem bytes167:Tryz.prog.bytesOf 167=8:=by kernel_rfl
theorem ty168:tyOf Tryz.prog 168=some ⟨1,8,.nilFunc,.other⟩:=by kernel_rfl
theorem bytes168:Tryz.prog.bytesOf 168=8:=by kernel_rfl
theorem ty169:tyOf Tryz.prog 169=some ⟨1,24,(.slice none 0 0),.slice 25 1⟩:=by kernel_rfl
theorem bytes169:Tryz.prog.bytesOf 169=24:=by kernel_rfl
theorem ty170:tyOf Tryz.prog 170=some ⟨1,8,.nilFunc,.other⟩:=by kernel_rfl
theorem bytes170:Tryz.prog.bytesOf 170=8:=by kernel_rfl
theorem ty171:tyOf Tryz.prog 171=some ⟨1,8,.nilFunc,.other⟩:=by kernel_rfl
theorem bytes171:Tryz.prog.bytesOf 171=8:=by kernel_rfl
theorem ty172:tyOf Tryz.prog 172=some ⟨1,8,.nilFunc,.other⟩:=by kernel_rfl
theorem bytes172:Tryz.prog.bytesOf 172=8:=by kernel_rfl
theorem ty173:tyOf Tryz.prog 173=some ⟨3,24,(.agg #[(.int .i64 0),(.int .u64 0),(.bool false)]),.struct [(0,1,3),(1,1,38),(2,1,4)]⟩:=by kernel_rfl
theorem bytes173:Tryz.prog.bytesOf 173=24:=by kernel_rfl
theorem flat173:flatKinds Tryz.prog 173=some [some .i64,some .u64,none]:=by kernel_rfl
theorem ty174:tyOf Tryz.prog 174=some ⟨3,24,(.agg #[(.int .i64 0),(.int .u64 0),(.bool false)]),.struct [(0,1,3),(1,1,38),(2,1,4)]⟩:=by kernel_rfl
theorem bytes174:Tryz.prog.bytesOf 174=24:=by kernel_rfl
theorem flat174:flatKinds Tryz.prog 174=some [some .i64,some .u64,none]:=by kernel_rfl
theorem ty175:tyOf Tryz.prog 175=some ⟨1,8,.nilFunc,.other⟩:=by kernel_rfl
theorem bytes175:Tryz.prog.bytesOf 175=8:=by kernel_rfl
theorem ty176:tyOf Tryz.prog 176=some ⟨1,8,.nilFunc,.other⟩:=by kernel_rfl
theorem bytes176:Tryz.prog.bytesOf 176=8:=by kernel_rfl
theorem ty177:tyOf Tryz.prog 177=some ⟨1,8,.nilFunc,.other⟩:=by kernel_rfl
theorem bytes177:Tryz.prog.bytesOf 177=8:=by kernel_rfl
theorem ty178:tyOf Tryz.prog 178=some ⟨1,8,(.pointer none),.other⟩:=by kernel_rfl
theorem bytes178:Tryz.prog.bytesOf 178=8:=by kernel_rfl
theorem ty179:tyOf Tryz.prog 179=some ⟨1,8,.nilFunc,.other⟩:=by kernel_rfl
theorem bytes179:Tryz.prog.bytesOf 179=8:=by kernel_rfl
theorem ty180:tyOf Tryz.prog 180=some ⟨1,8,.nilFunc,.other⟩:=by kernel_rfl
theorem bytes180:Tryz.prog.bytesOf 180=8:=by kernel_rfl
theorem ty181:tyOf Tryz.prog 181=some ⟨1,8,.nilFunc,.other⟩:=by kernel_rfl
theorem bytes181:Tryz.prog.bytesOf 181=8:=by kernel_rfl
theorem ty182:tyOf Tryz.prog 182=some ⟨3,24,(.agg #[(.int .u64 0),(.int .u64 0),(.int .u64 0)]),.array 3 38 1⟩:=by kernel_rfl
theorem bytes182:Tryz.prog.bytesOf 182=24:=by kernel_rfl
theorem ty183:tyOf Tryz.prog 183=some ⟨1,8,.nilFunc,.other⟩:=by kernel_rfl
theorem bytes183:Tryz.prog.bytesOf 183=8:=by kernel_rfl
theorem ty184:tyOf Tryz.prog 184=some ⟨1,8,.nilFunc,.other⟩:=by kernel_rfl
theorem bytes184:Tryz.prog.bytesOf 184=8:=by kernel_rfl
theorem ty185:tyOf Tryz.prog 185=some ⟨1,0,(.tuple #[(.agg #[(.int .i64 0),(.int .i64 0),(.slice none 0 0),(.slice none 0 0),(.int .i64 0),(.int .i64 0)]),(.int .i64 0)]),.other⟩:=by kernel_rfl
theorem bytes185:Tryz.prog.bytesOf 185=0:=by kernel_rfl
theorem ty186:tyOf Tryz.prog 186=some ⟨1,8,.nilFunc,.other⟩:=by kernel_rfl
theorem bytes186:Tryz.prog.bytesOf 186=8:=by kernel_rfl
theorem ty187:tyOf Tryz.prog 187=some ⟨1,8,.nilFunc,.other⟩:=by kernel_rfl
theorem bytes187:Tryz.prog.bytesOf 187=8:=by kernel_rfl
theorem ty188:tyOf Tryz.prog 188=some ⟨1,0,(.tuple #[(.agg #[(.int .i64 0),(.int .i64 0),(.slice none 0 0),(.slice none 0 0),(.int .i64 0),(.int .i64 0)]),(.slice none 0 0),(.slice none 0 0),(.agg #[(.int .i64 0),(.int .i64 0),(.int .i64 0),(.int .i64 0),(.int .i64 0),(.int .i64 0)]),(.int .i64 0)]),.other⟩:=by kernel_rfl
theorem bytes188:Tryz.prog.bytesOf 188=0:=by kernel_rfl
theorem ty189:tyOf Tryz.prog 189=some ⟨1,8,.nilFunc,.other⟩:=by kernel_rfl
theorem bytes189:Tryz.prog.bytesOf 189=8:=by kernel_rfl
theorem ty190:tyOf Tryz.prog 190=some ⟨1,0,(.tuple #[(.agg #[(.slice none 0 0),(.slice none 0 0),(.slice none 0 0)]),(.int .i64 0)]),.other⟩:=by kernel_rfl
theorem bytes190:Tryz.prog.bytesOf 190=0:=by kernel_rfl
theorem ty191:tyOf Tryz.prog 191=some ⟨1,8,.nilFunc,.other⟩:=by kernel_rfl
theorem bytes191:Tryz.prog.bytesOf 191=8:=by kernel_rfl
theorem ty192:tyOf Tryz.prog 192=some ⟨1,0,(.tuple #[(.agg #[(.slice none 0 0)]),(.int .i64 0)]),.other⟩:=by kernel_rfl
theorem bytes192:Tryz.prog.bytesOf 192=0:=by kernel_rfl
theorem ty193:tyOf Tryz.prog 193=some ⟨1,8,.nilFunc,.other⟩:=by kernel_rfl
theorem bytes193:Tryz.prog.bytesOf 193=8:=by kernel_rfl
theorem ty194:tyOf Tryz.prog 194=some ⟨1,8,.nilFunc,.other⟩:=by kernel_rfl
theorem bytes194:Tryz.prog.bytesOf 194=8:=by kernel_rfl
theorem ty195:tyOf Tryz.prog 195=some ⟨1,24,(.slice none 0 0),.slice 4 1⟩:=by kernel_rfl
theorem bytes195:Tryz.prog.bytesOf 195=24:=by kernel_rfl
theorem ty196:tyOf Tryz.prog 196=some ⟨1,8,.nilFunc,.other⟩:=by kernel_rfl
theorem bytes196:Tryz.prog.bytesOf 196=8:=by kernel_rfl
theorem ty197:tyOf Tryz.prog 197=some ⟨1,8,.nilFunc,.other⟩:=by kernel_rfl
theorem bytes197:Tryz.prog.bytesOf 197=8:=by kernel_rfl
theorem ty198:tyOf Tryz.prog 198=some ⟨1,8,.nilFunc,.other⟩:=by kernel_rfl
theorem bytes198:Tryz.prog.bytesOf 198=8:=by kernel_rfl
theorem ty199:tyOf Tryz.prog 199=some ⟨1,8,.nilFunc,.other⟩:=by kernel_rfl
theorem bytes199:Tryz.prog.bytesOf 199=8:=by kernel_rfl
theorem ty200:tyOf Tryz.prog 200=some ⟨1,8,.nilFunc,.other⟩:=by kernel_rfl
theorem bytes200:Tryz.prog.bytesOf 200=8:=by kernel_rfl
theorem ty201:tyOf Tryz.prog 201=some ⟨1,8,.nilFunc,.other⟩:=by kernel_rfl
theorem bytes201:Tryz.prog.bytesOf 201=8:=by kernel_rfl
theorem ty202:tyOf Tryz.prog 202=some ⟨1,4,(.int .u32 0),.int .u32⟩:=by kernel_rfl
theorem bytes202:Tryz.prog.bytesOf 202=4:=by kernel_rfl
theorem ty203:tyOf Tryz.prog 203=some ⟨3,24,(.agg #[(.int .i64 0),(.int .i64 0),(.int .u32 0)]),.struct [(0,1,3),(1,1,3),(2,1,202)]⟩:=by kernel_rfl
theorem bytes203:Tryz.prog.bytesOf 203=24:=by kernel_rfl
theorem flat203:flatKinds Tryz.prog 203=some [some .i64,some .i64,some .u32]:=by kernel_rfl
theorem ty204:tyOf Tryz.prog 204=some ⟨3,24,(.agg #[(.int .i64 0),(.int .i64 0),(.int .u32 0)]),.struct [(0,1,3),(1,1,3),(2,1,202)]⟩:=by kernel_rfl
theorem bytes204:Tryz.prog.bytesOf 204=24:=by kernel_rfl
theorem flat204:flatKinds Tryz.prog 204=some [some .i64,some .i64,some .u32]:=by kernel_rfl
theorem ty205:tyOf Tryz.prog 205=some ⟨1,0,(.tuple #[(.agg #[(.int .i64 0),(.int .i64 0),(.int .u32 0)]),(.bool false)]),.other⟩:=by kernel_rfl
theorem bytes205:Tryz.prog.bytesOf 205=0:=by kernel_rfl
theorem ty206:tyOf Tryz.prog 206=some ⟨1,8,.nilFunc,.other⟩:=by kernel_rfl
theorem bytes206:Tryz.prog.bytesOf 206=8:=by kernel_rfl
theorem ty207:tyOf Tryz.prog 207=some ⟨4,48,(.agg #[(.int .i64 0),(.int .i64 0),(.int .u32 0),(.slice none 0 0)]),.struct [(0,3,204),(3,1,25)]⟩:=by kernel_rfl
theorem bytes207:Tryz.prog.bytesOf 207=48:=by kernel_rfl
theorem ty208:tyOf Tryz.prog 208=some ⟨4,48,(.agg #[(.int .i64 0),(.int .i64 0),(.int .u32 0),(.slice none 0 0)]),.struct [(0,3,204),(3,1,25)]⟩:=by kernel_rfl
theorem bytes208:Tryz.prog.bytesOf 208=48:=by kernel_rfl
theorem ty209:tyOf Tryz.prog 209=some ⟨1,0,(.tuple #[(.agg #[(.int .i64 0),(.int .i64 0),(.slice none 0 0),(.slice none 0 0),(.slice none 0 0),(.slice none 0 0),(.slice none 0 0),(.slice none 0 0),(.slice none 0 0),(.slice none 0 0)]),(.int .u64 0)]),.other⟩:=by kernel_rfl
theorem bytes209:Tryz.prog.bytesOf 209=0:=by kernel_rfl
theorem ty210:tyOf Tryz.prog 210=some ⟨1,8,.nilFunc,.other⟩:=by kernel_rfl
theorem bytes210:Tryz.prog.bytesOf 210=8:=by kernel_rfl
theorem ty211:tyOf Tryz.prog 211=some ⟨1,8,.nilFunc,.other⟩:=by kernel_rfl
theorem bytes211:Tryz.prog.bytesOf 211=8:=by kernel_rfl
theorem ty212:tyOf Tryz.prog 212=some ⟨1,8,.nilFunc,.other⟩:=by kernel_rfl
theorem bytes212:Tryz.prog.bytesOf 212=8:=by kernel_rfl
theorem ty213:tyOf Tryz.prog 213=some ⟨1,8,.nilFunc,.other⟩:=by kernel_rfl
theorem bytes213:Tryz.prog.bytesOf 213=8:=by kernel_rfl
theorem ty214:tyOf Tryz.prog 214=some ⟨1,8,.nilFunc,.other⟩:=by kernel_rfl
theorem bytes214:Tryz.prog.bytesOf 214=8:=by kernel_rfl
theorem ty215:tyOf Tryz.prog 215=some ⟨1,8,.nilFunc,.other⟩:=by kernel_rfl
theorem bytes215:Tryz.prog.bytesOf 215=8:=by kernel_rfl
theorem ty216:tyOf Tryz.prog 216=some ⟨1,8,.nilFunc,.other⟩:=by kernel_rfl
theorem bytes216:Tryz.prog.bytesOf 216=8:=by kernel_rfl
theorem ty217:tyOf Tryz.prog 217=some ⟨3,24,(.agg #[(.int .i64 0),(.int .i64 0),(.int .u64 0)]),.struct [(0,1,3),(1,1,3),(2,1,38)]⟩:=by kernel_rfl
theorem bytes217:Tryz.prog.bytesOf 217=24:=by kernel_rfl
theorem flat217:flatKinds Tryz.prog 217=some [some .i64,some .i64,some .u64]:=by kernel_rfl
theorem ty218:tyOf Tryz.prog 218=some ⟨3,24,(.agg #[(.int .i64 0),(.int .i64 0),(.int .u64 0)]),.struct [(0,1,3),(1,1,3),(2,1,38)]⟩:=by kernel_rfl
theorem bytes218:Tryz.prog.bytesOf 218=24:=by kernel_rfl
theorem flat218:flatKinds Tryz.prog 218=some [some .i64,some .i64,some .u64]:=by kernel_rfl
theorem ty219:tyOf Tryz.prog 219=some ⟨1,8,.nilFunc,.other⟩:=by kernel_rfl
theorem bytes219:Tryz.prog.bytesOf 219=8:=by kernel_rfl
theorem ty220:tyOf Tryz.prog 220=some ⟨1,8,.nilFunc,.other⟩:=by kernel_rfl
theorem bytes220:Tryz.prog.bytesOf 220=8:=by kernel_rfl
theorem ty221:tyOf Tryz.prog 221=some ⟨1,8,.nilFunc,.other⟩:=by kernel_rfl
theorem bytes221:Tryz.prog.bytesOf 221=8:=by kernel_rfl
theorem ty222:tyOf Tryz.prog 222=some ⟨1,0,(.tuple #[(.int .i64 0),(.int .i64 0),(.int .i64 0)]),.other⟩:=by kernel_rfl
theorem bytes222:Tryz.prog.bytesOf 222=0:=by kernel_rfl
theorem ty223:tyOf Tryz.prog 223=some ⟨1,8,.nilFunc,.other⟩:=by kernel_rfl
theorem bytes223:Tryz.prog.bytesOf 223=8:=by kernel_rfl
theorem ty224:tyOf Tryz.prog 224=some ⟨1,8,.nilFunc,.other⟩:=by kernel_rfl
theorem bytes224:Tryz.prog.bytesOf 224=8:=by kernel_rfl
theorem ty225:tyOf Tryz.prog 225=some ⟨1,8,.nilFunc,.other⟩:=by kernel_rfl
theorem bytes225:Tryz.prog.bytesOf 225=8:=by kernel_rfl
theorem ty226:tyOf Tryz.prog 226=some ⟨1,8,.nilFunc,.other⟩:=by kernel_rfl
theorem bytes226:Tryz.prog.bytesOf 226=8:=by kernel_rfl
theorem ty227:tyOf Tryz.prog 227=some ⟨1,24,(.slice none 0 0),.slice 233 4⟩:=by kernel_rfl
theorem bytes227:Tryz.prog.bytesOf 227=24:=by kernel_rfl
theorem ty228:tyOf Tryz.prog 228=some ⟨1,0,(.tuple #[(.slice none 0 0),(.int .i64 0)]),.other⟩:=by kernel_rfl
theorem bytes228:Tryz.prog.bytesOf 228=0:=by kernel_rfl
theorem ty229:tyOf Tryz.prog 229=some ⟨1,8,.nilFunc,.other⟩:=by kernel_rfl
theorem bytes229:Tryz.prog.bytesOf 229=8:=by kernel_rfl
theorem ty230:tyOf Tryz.prog 230=some ⟨1,8,.nilFunc,.other⟩:=by kernel_rfl
theorem bytes230:Tryz.prog.bytesOf 230=8:=by kernel_rfl
theorem ty231:tyOf Tryz.prog 231=some ⟨1,8,.nilFunc,.other⟩:=by kernel_rfl
theorem bytes231:Tryz.prog.bytesOf 231=8:=by kernel_rfl
theorem ty232:tyOf Tryz.prog 232=some ⟨4,32,(.agg #[(.int .u64 0),(.int .i64 0),(.int .i64 0),(.int .u32 0)]),.struct [(0,1,38),(1,3,204)]⟩:=by kernel_rfl
theorem bytes232:Tryz.prog.bytesOf 232=32:=by kernel_rfl
theorem ty233:tyOf Tryz.prog 233=some ⟨4,32,(.agg #[(.int .u64 0),(.int .i64 0),(.int .i64 0),(.int .u32 0)]),.struct [(0,1,38),(1,3,204)]⟩:=by kernel_rfl
theorem bytes233:Tryz.prog.bytesOf 233=32:=by kernel_rfl
theorem ty234:tyOf Tryz.prog 234=some ⟨1,8,.nilFunc,.other⟩:=by kernel_rfl
theorem bytes234:Tryz.prog.bytesOf 234=8:=by kernel_rfl
theorem ty235:tyOf Tryz.prog 235=some ⟨1,8,.nilFunc,.other⟩:=by kernel_rfl
theorem bytes235:Tryz.prog.bytesOf 235=8:=by kernel_rfl
theorem ty236:tyOf Tryz.prog 236=some ⟨1,8,.nilFunc,.other⟩:=by kernel_rfl
theorem bytes236:Tryz.prog.bytesOf 236=8:=by kernel_rfl
theorem ty237:tyOf Tryz.prog 237=some ⟨1,8,.nilFunc,.other⟩:=by kernel_rfl
theorem bytes237:Tryz.prog.bytesOf 237=8:=by kernel_rfl
theorem ty238:tyOf Tryz.prog 238=some ⟨16,208,(.agg #[(.int .i64 0),(.int .i64 0),(.slice none 0 0),(.slice none 0 0),(.int .i64 0),(.int .i64 0),(.slice none 0 0),(.slice none 0 0),(.slice none 0 0),(.int .i64 0),(.int .i64 0),(.int .i64 0),(.int .i64 0),(.int .i64 0),(.int .i64 0),(.int .i64 0)]),.struct [(0,6,59),(6,1,25),(7,1,62),(8,1,25),(9,1,3),(10,6,136)]⟩:=by kernel_rfl
theorem bytes238:Tryz.prog.bytesOf 238=208:=by kernel_rfl
theorem ty239:tyOf Tryz.prog 239=some ⟨16,208,(.agg #[(.int .i64 0),(.int .i64 0),(.slice none 0 0),(.slice none 0 0),(.int .i64 0),(.int .i64 0),(.slice none 0 0),(.slice none 0 0),(.slice none 0 0),(.int .i64 0),(.int .i64 0),(.int .i64 0),(.int .i64 0),(.int .i64 0),(.int .i64 0),(.int .i64 0)]),.struct [(0,6,59),(6,1,25),(7,1,62),(8,1,25),(9,1,3),(10,6,136)]⟩:=by kernel_rfl
theorem bytes239:Tryz.prog.bytesOf 239=208:=by kernel_rfl
theorem ty240:tyOf Tryz.prog 240=some ⟨1,0,(.tuple #[(.agg #[(.int .i64 0),(.int .i64 0),(.slice none 0 0),(.slice none 0 0),(.int .i64 0),(.int .i64 0),(.slice none 0 0),(.slice none 0 0),(.slice none 0 0),(.int .i64 0),(.int .i64 0),(.int .i64 0),(.int .i64 0),(.int .i64 0),(.int .i64 0),(.int .i64 0)]),(.int .i64 0)]),.other⟩:=by kernel_rfl
theorem bytes240:Tryz.prog.bytesOf 240=0:=by kernel_rfl
theorem ty241:tyOf Tryz.prog 241=some ⟨1,8,.nilFunc,.other⟩:=by kernel_rfl
theorem bytes241:Tryz.prog.bytesOf 241=8:=by kernel_rfl
theorem ty242:tyOf Tryz.prog 242=some ⟨1,0,(.tuple #[(.agg #[(.int .i64 0),(.int .i64 0),(.slice none 0 0),(.slice none 0 0),(.int .i64 0),(.int .i64 0),(.slice none 0 0),(.slice none 0 0),(.slice none 0 0),(.int .i64 0),(.int .i64 0),(.int .i64 0),(.int .i64 0),(.int .i64 0),(.int .i64 0),(.int .i64 0)]),(.slice none 0 0),(.int .i64 0)]),.other⟩:=by kernel_rfl
theorem bytes242:Tryz.prog.bytesOf 242=0:=by kernel_rfl
theorem ty243:tyOf Tryz.prog 243=some ⟨1,8,.nilFunc,.other⟩:=by kernel_rfl
theorem bytes243:Tryz.prog.bytesOf 243=8:=by kernel_rfl
theorem ty244:tyOf Tryz.prog 244=some ⟨1,8,.nilFunc,.other⟩:=by kernel_rfl
theorem bytes244:Tryz.prog.bytesOf 244=8:=by kernel_rfl
theorem ty245:tyOf Tryz.prog 245=some ⟨1,8,.nilFunc,.other⟩:=by kernel_rfl
theorem bytes245:Tryz.prog.bytesOf 245=8:=by kernel_rfl
theorem ty246:tyOf Tryz.prog 246=some ⟨1,8,.nilFunc,.other⟩:=by kernel_rfl
theorem bytes246:Tryz.prog.bytesOf 246=8:=by kernel_rfl
theorem ty247:tyOf Tryz.prog 247=some ⟨1,8,.nilFunc,.other⟩:=by kernel_rfl
theorem bytes247:Tryz.prog.bytesOf 247=8:=by kernel_rfl
theorem ty248:tyOf Tryz.prog 248=some ⟨1,8,.nilFunc,.other⟩:=by kernel_rfl
theorem bytes248:Tryz.prog.bytesOf 248=8:=by kernel_rfl
theorem ty249:tyOf Tryz.prog 249=some ⟨1,8,.nilFunc,.other⟩:=by kernel_rfl
theorem bytes249:Tryz.prog.bytesOf 249=8:=by kernel_rfl
theorem ty250:tyOf Tryz.prog 250=some ⟨3,24,(.agg #[(.int .u64 0),(.int .i64 0),(.int .u64 0)]),.struct [(0,1,38),(1,1,3),(2,1,38)]⟩:=by kernel_rfl
theorem bytes250:Tryz.prog.bytesOf 250=24:=by kernel_rfl
theorem flat250:flatKinds Tryz.prog 250=some [some .u64,some .i64,some .u64]:=by kernel_rfl
theorem ty251:tyOf Tryz.prog 251=some ⟨3,24,(.agg #[(.int .u64 0),(.int .i64 0),(.int .u64 0)]),.struct [(0,1,38),(1,1,3),(2,1,38)]⟩:=by kernel_rfl
theorem bytes251:Tryz.prog.bytesOf 251=24:=by kernel_rfl
theorem flat251:flatKinds Tryz.prog 251=some [some .u64,some .i64,some .u64]:=by kernel_rfl
theorem ty252:tyOf Tryz.prog 252=some ⟨1,8,.nilFunc,.other⟩:=by kernel_rfl
theorem bytes252:Tryz.prog.bytesOf 252=8:=by kernel_rfl
theorem ty253:tyOf Tryz.prog 253=some ⟨1,8,.nilFunc,.other⟩:=by kernel_rfl
theorem bytes253:Tryz.prog.bytesOf 253=8:=by kernel_rfl
theorem ty254:tyOf Tryz.prog 254=some ⟨1,8,.nilFunc,.other⟩:=by kernel_rfl
theorem bytes254:Tryz.prog.bytesOf 254=8:=by kernel_rfl
theorem ty255:tyOf Tryz.prog 255=some ⟨1,0,(.tuple #[(.agg #[(.slice none 0 0),(.slice none 0 0),(.slice none 0 0)]),(.int .i64 0),(.int .i64 0),(.int .i64 0)]),.other⟩:=by kernel_rfl
theorem bytes255:Tryz.prog.bytesOf 255=0:=by kernel_rfl
theorem ty256:tyOf Tryz.prog 256=some ⟨1,8,.nilFunc,.other⟩:=by kernel_rfl
theorem bytes256:Tryz.prog.bytesOf 256=8:=by kernel_rfl
theorem ty257:tyOf Tryz.prog 257=some ⟨1,8,.nilFunc,.other⟩:=by kernel_rfl
theorem bytes257:Tryz.prog.bytesOf 257=8:=by kernel_rfl
theorem ty258:tyOf Tryz.prog 258=some ⟨1,8,.nilFunc,.other⟩:=by kernel_rfl
theorem bytes258:Tryz.prog.bytesOf 258=8:=by kernel_rfl
theorem ty259:tyOf Tryz.prog 259=some ⟨1,0,(.tuple #[(.int .u64 0),(.int .i64 0),(.int .i64 0)]),.other⟩:=by kernel_rfl
theorem bytes259:Tryz.prog.bytesOf 259=0:=by kernel_rfl
theorem ty260:tyOf Tryz.prog 260=some ⟨1,8,.nilFunc,.other⟩:=by kernel_rfl
theorem bytes260:Tryz.prog.bytesOf 260=8:=by kernel_rfl
theorem ty261:tyOf Tryz.prog 261=some ⟨1,8,.nilFunc,.other⟩:=by kernel_rfl
theorem bytes261:Tryz.prog.bytesOf 261=8:=by kernel_rfl
theorem ty262:tyOf Tryz.prog 262=some ⟨1,8,.nilFunc,.other⟩:=by kernel_rfl
theorem bytes262:Tryz.prog.bytesOf 262=8:=by kernel_rfl
theorem ty263:tyOf Tryz.prog 263=some ⟨1,8,.nilFunc,.other⟩:=by kernel_rfl
theorem bytes263:Tryz.prog.bytesOf 263=8:=by kernel_rfl
theorem ty264:tyOf Tryz.prog 264=some ⟨1,0,(.tuple #[(.agg #[(.int .i64 0),(.int .i64 0),(.int .u32 0)]),(.int .i64 0)]),.other⟩:=by kernel_rfl
theorem bytes264:Tryz.prog.bytesOf 264=0:=by kernel_rfl
theorem ty265:tyOf Tryz.prog 265=some ⟨1,8,.nilFunc,.other⟩:=by kernel_rfl
theorem bytes265:Tryz.prog.bytesOf 265=8:=by kernel_rfl
theorem ty266:tyOf Tryz.prog 266=some ⟨1,0,(.tuple #[(.agg #[(.slice none 0 0)]),(.int .i64 0),(.int .i64 0),(.int .i64 0)]),.other⟩:=by kernel_rfl
theorem bytes266:Tryz.prog.bytesOf 266=0:=by kernel_rfl
theorem ty267:tyOf Tryz.prog 267=some ⟨1,8,.nilFunc,.other⟩:=by kernel_rfl
theorem bytes267:Tryz.prog.bytesOf 267=8:=by kernel_rfl
theorem ty268:tyOf Tryz.prog 268=some ⟨1,8,.nilFunc,.other⟩:=by kernel_rfl
theorem bytes268:Tryz.prog.bytesOf 268=8:=by kernel_rfl
theorem ty269:tyOf Tryz.prog 269=some ⟨3,24,(.agg #[(.int .i64 0),(.int .i64 0),(.int .i64 0)]),.struct [(0,1,3),(1,1,3),(2,1,3)]⟩:=by kernel_rfl
theorem bytes269:Tryz.prog.bytesOf 269=24:=by kernel_rfl
theorem flat269:flatKinds Tryz.prog 269=some [some .i64,some .i64,some .i64]:=by kernel_rfl
theorem ty270:tyOf Tryz.prog 270=some ⟨3,24,(.agg #[(.int .i64 0),(.int .i64 0),(.int .i64 0)]),.struct [(0,1,3),(1,1,3),(2,1,3)]⟩:=by kernel_rfl
theorem bytes270:Tryz.prog.bytesOf 270=24:=by kernel_rfl
theorem flat270:flatKinds Tryz.prog 270=some [some .i64,some .i64,some .i64]:=by kernel_rfl
theorem ty271:tyOf Tryz.prog 271=some ⟨1,0,(.tuple #[(.agg #[(.int .i64 0),(.int .i64 0),(.int .i64 0)]),(.int .i64 0)]),.other⟩:=by kernel_rfl
theorem bytes271:Tryz.prog.bytesOf 271=0:=by kernel_rfl
theorem ty272:tyOf Tryz.prog 272=some ⟨1,8,.nilFunc,.other⟩:=by kernel_rfl
theorem bytes272:Tryz.prog.bytesOf 272=8:=by kernel_rfl
theorem ty273:tyOf Tryz.prog 273=some ⟨1,8,.nilFunc,.other⟩:=by kernel_rfl
theorem bytes273:Tryz.prog.bytesOf 273=8:=by kernel_rfl
theorem ty274:tyOf Tryz.prog 274=some ⟨1,8,.nilFunc,.other⟩:=by kernel_rfl
theorem bytes274:Tryz.prog.bytesOf 274=8:=by kernel_rfl
theorem ty275:tyOf Tryz.prog 275=some ⟨1,0,(.tuple #[(.agg #[(.int .i64 0),(.int .i64 0),(.slice none 0 0),(.slice none 0 0),(.int .i64 0),(.int .i64 0)]),(.slice none 0 0),(.int .i64 0)]),.other⟩:=by kernel_rfl
theorem bytes275:Tryz.prog.bytesOf 275=0:=by kernel_rfl
theorem ty276:tyOf Tryz.prog 276=some ⟨1,8,.nilFunc,.other⟩:=by kernel_rfl
theorem bytes276:Tryz.prog.bytesOf 276=8:=by kernel_rfl
theorem ty277:tyOf Tryz.prog 277=some ⟨1,0,(.tuple #[(.agg #[(.int .i64 0),(.int .i64 0),(.slice none 0 0),(.slice none 0 0),(.int .i64 0),(.int .i64 0)]),(.slice none 0 0),(.int .u64 0),(.int .i64 0)]),.other⟩:=by kernel_rfl
theorem bytes277:Tryz.prog.bytesOf 277=0:=by kernel_rfl
theorem ty278:tyOf Tryz.prog 278=some ⟨1,8,.nilFunc,.other⟩:=by kernel_rfl
theorem bytes278:Tryz.prog.bytesOf 278=8:=by kernel_rfl
theorem ty279:tyOf Tryz.prog 279=some ⟨1,8,.nilFunc,.other⟩:=by kernel_rfl
theorem bytes279:Tryz.prog.bytesOf 279=8:=by kernel_rfl
theorem ty280:tyOf Tryz.prog 280=some ⟨1,8,.nilFunc,.other⟩:=by kernel_rfl
theorem bytes280:Tryz.prog.bytesOf 280=8:=by kernel_rfl
theorem ty281:tyOf Tryz.prog 281=some ⟨1,8,.nilFunc,.other⟩:=by kernel_rfl
theorem bytes281:Tryz.prog.bytesOf 281=8:=by kernel_rfl
theorem ty282:tyOf Tryz.prog 282=some ⟨1,8,.nilFunc,.other⟩:=by kernel_rfl
theorem bytes282:Tryz.prog.bytesOf 282=8:=by kernel_rfl
theorem ty283:tyOf Tryz.prog 283=some ⟨1,8,.nilFunc,.other⟩:=by kernel_rfl
theorem bytes283:Tryz.prog.bytesOf 283=8:=by kernel_rfl
theorem ty284:tyOf Tryz.prog 284=some ⟨1,8,.nilFunc,.other⟩:=by kernel_rfl
theorem bytes284:Tryz.prog.bytesOf 284=8:=by kernel_rfl
theorem ty285:tyOf Tryz.prog 285=some ⟨1,8,.nilFunc,.other⟩:=by kernel_rfl
theorem bytes285:Tryz.prog.bytesOf 285=8:=by kernel_rfl
theorem ty286:tyOf Tryz.prog 286=some ⟨1,8,.nilFunc,.other⟩:=by kernel_rfl
theorem bytes286:Tryz.prog.bytesOf 286=8:=by kernel_rfl
theorem ty287:tyOf Tryz.prog 287=some ⟨1,8,.nilFunc,.other⟩:=by kernel_rfl
theorem bytes287:Tryz.prog.bytesOf 287=8:=by kernel_rfl
theorem ty288:tyOf Tryz.prog 288=some ⟨1,8,.nilFunc,.other⟩:=by kernel_rfl
theorem bytes288:Tryz.prog.bytesOf 288=8:=by kernel_rfl
theorem ty289:tyOf Tryz.prog 289=some ⟨1,8,.nilFunc,.other⟩:=by kernel_rfl
theorem bytes289:Tryz.prog.bytesOf 289=8:=by kernel_rfl
theorem ty290:tyOf Tryz.prog 290=some ⟨1,8,.nilFunc,.other⟩:=by kernel_rfl
theorem bytes290:Tryz.prog.bytesOf 290=8:=by kernel_rfl
theorem ty291:tyOf Tryz.prog 291=some ⟨1,8,.nilFunc,.other⟩:=by kernel_rfl
theorem bytes291:Tryz.prog.bytesOf 291=8:=by kernel_rfl
theorem ty292:tyOf Tryz.prog 292=some ⟨1,8,.nilFunc,.other⟩:=by kernel_rfl
theorem bytes292:Tryz.prog.bytesOf 292=8:=by kernel_rfl
theorem ty293:tyOf Tryz.prog 293=some ⟨1,8,.nilFunc,.other⟩:=by kernel_rfl
theorem bytes293:Tryz.prog.bytesOf 293=8:=by kernel_rfl
theorem ty294:tyOf Tryz.prog 294=some ⟨1,8,.nilFunc,.other⟩:=by kernel_rfl
theorem bytes294:Tryz.prog.bytesOf 294=8:=by kernel_rfl
theorem ty295:tyOf Tryz.prog 295=some ⟨1,8,.nilFunc,.other⟩:=by kernel_rfl
theorem bytes295:Tryz.prog.bytesOf 295=8:=by kernel_rfl
theorem ty296:tyOf Tryz.prog 296=some ⟨1,8,.nilFunc,.other⟩:=by kernel_rfl
theorem bytes296:Tryz.prog.bytesOf 296=8:=by kernel_rfl
theorem ty297:tyOf Tryz.prog 297=some ⟨1,8,.nilFunc,.other⟩:=by kernel_rfl
theorem bytes297:Tryz.prog.bytesOf 297=8:=by kernel_rfl
theorem ty298:tyOf Tryz.prog 298=some ⟨1,0,(.tuple #[(.agg #[(.int .i64 0),(.int .i64 0),(.slice none 0 0),(.slice none 0 0),(.int .i64 0),(.int .i64 0),(.slice none 0 0),(.slice none 0 0),(.slice none 0 0),(.int .i64 0),(.int .i64 0),(.int .i64 0),(.int .i64 0),(.int .i64 0),(.int .i64 0),(.int .i64 0)]),(.int .u64 0),(.int .i64 0)]),.other⟩:=by kernel_rfl
theorem bytes298:Tryz.prog.bytesOf 298=0:=by kernel_rfl
theorem ty299:tyOf Tryz.prog 299=some ⟨1,8,.nilFunc,.other⟩:=by kernel_rfl
theorem bytes299:Tryz.prog.bytesOf 299=8:=by kernel_rfl
theorem ty300:tyOf Tryz.prog 300=some ⟨1,0,(.tuple #[(.agg #[(.int .i64 0),(.int .i64 0),(.slice none 0 0),(.slice none 0 0),(.int .i64 0),(.int .i64 0),(.slice none 0 0),(.slice none 0 0),(.slice none 0 0),(.int .i64 0),(.int .i64 0),(.int .i64 0),(.int .i64 0),(.int .i64 0),(.int .i64 0),(.int .i64 0)]),(.bool false),(.int .i64 0)]),.other⟩:=by kernel_rfl
theorem bytes300:Tryz.prog.bytesOf 300=0:=by kernel_rfl
theorem ty301:tyOf Tryz.prog 301=some ⟨1,8,.nilFunc,.other⟩:=by kernel_rfl
theorem bytes301:Tryz.prog.bytesOf 301=8:=by kernel_rfl
theorem ty302:tyOf Tryz.prog 302=some ⟨1,8,.nilFunc,.other⟩:=by kernel_rfl
theorem bytes302:Tryz.prog.bytesOf 302=8:=by kernel_rfl
theorem ty303:tyOf Tryz.prog 303=some ⟨1,0,(.tuple #[(.int .u64 0),(.bool false)]),.other⟩:=by kernel_rfl
theorem bytes303:Tryz.prog.bytesOf 303=0:=by kernel_rfl
theorem ty304:tyOf Tryz.prog 304=some ⟨1,8,.nilFunc,.other⟩:=by kernel_rfl
theorem bytes304:Tryz.prog.bytesOf 304=8:=by kernel_rfl
theorem ty305:tyOf Tryz.prog 305=some ⟨1,8,.nilFunc,.other⟩:=by kernel_rfl
theorem bytes305:Tryz.prog.bytesOf 305=8:=by kernel_rfl
theorem ty306:tyOf Tryz.prog 306=some ⟨1,8,.nilFunc,.other⟩:=by kernel_rfl
theorem bytes306:Tryz.prog.bytesOf 306=8:=by kernel_rfl
theorem ty307:tyOf Tryz.prog 307=some ⟨1,8,.nilFunc,.other⟩:=by kernel_rfl
theorem bytes307:Tryz.prog.bytesOf 307=8:=by kernel_rfl
theorem ty308:tyOf Tryz.prog 308=some ⟨1,8,.nilFunc,.other⟩:=by kernel_rfl
theorem bytes308:Tryz.prog.bytesOf 308=8:=by kernel_rfl
theorem ty309:tyOf Tryz.prog 309=some ⟨1,8,.nilFunc,.other⟩:=by kernel_rfl
theorem bytes309:Tryz.prog.bytesOf 309=8:=by kernel_rfl
theorem ty310:tyOf Tryz.prog 310=some ⟨1,8,.nilFunc,.other⟩:=by kernel_rfl
theorem bytes310:Tryz.prog.bytesOf 310=8:=by kernel_rfl
theorem ty311:tyOf Tryz.prog 311=some ⟨1,0,(.tuple #[(.agg #[(.int .i64 0),(.int .i64 0),(.slice none 0 0),(.slice none 0 0),(.int .i64 0),(.int .i64 0)]),(.int .u64 0),(.int .i64 0)]),.other⟩:=by kernel_rfl
theorem bytes311:Tryz.prog.bytesOf 311=0:=by kernel_rfl
theorem ty312:tyOf Tryz.prog 312=some ⟨1,8,.nilFunc,.other⟩:=by kernel_rfl
theorem bytes312:Tryz.prog.bytesOf 312=8:=by kernel_rfl
theorem ty313:tyOf Tryz.prog 313=some ⟨1,8,.nilFunc,.other⟩:=by kernel_rfl
theorem bytes313:Tryz.prog.bytesOf 313=8:=by kernel_rfl
theorem ty314:tyOf Tryz.prog 314=some ⟨1,8,.nilFunc,.other⟩:=by kernel_rfl
theorem bytes314:Tryz.prog.bytesOf 314=8:=by kernel_rfl
theorem ty315:tyOf Tryz.prog 315=some ⟨1,8,.nilFunc,.other⟩:=by kernel_rfl
theorem bytes315:Tryz.prog.bytesOf 315=8:=by kernel_rfl
theorem ty316:tyOf Tryz.prog 316=some ⟨1,8,.nilFunc,.other⟩:=by kernel_rfl
theorem bytes316:Tryz.prog.bytesOf 316=8:=by kernel_rfl
theorem ty317:tyOf Tryz.prog 317=some ⟨1,8,.nilFunc,.other⟩:=by kernel_rfl
theorem bytes317:Tryz.prog.bytesOf 317=8:=by kernel_rfl
theorem ty318:tyOf Tryz.prog 318=some ⟨1,8,.nilFunc,.other⟩:=by kernel_rfl
theorem bytes318:Tryz.prog.bytesOf 318=8:=by kernel_rfl
theorem ty319:tyOf Tryz.prog 319=some ⟨1,8,.nilFunc,.other⟩:=by kernel_rfl
theorem bytes319:Tryz.prog.bytesOf 319=8:=by kernel_rfl
theorem ty320:tyOf Tryz.prog 320=some ⟨1,8,.nilFunc,.other⟩:=by kernel_rfl
theorem bytes320:Tryz.prog.bytesOf 320=8:=by kernel_rfl
theorem ty321:tyOf Tryz.prog 321=some ⟨1,8,.nilFunc,.other⟩:=by kernel_rfl
theorem bytes321:Tryz.prog.bytesOf 321=8:=by kernel_rfl
theorem ty322:tyOf Tryz.prog 322=some ⟨1,8,.nilFunc,.other⟩:=by kernel_rfl
theorem bytes322:Tryz.prog.bytesOf 322=8:=by kernel_rfl
theorem ty323:tyOf Tryz.prog 323=some ⟨1,8,.nilFunc,.other⟩:=by kernel_rfl
theorem bytes323:Tryz.prog.bytesOf 323=8:=by kernel_rfl
theorem ty324:tyOf Tryz.prog 324=some ⟨1,8,.nilFunc,.other⟩:=by kernel_rfl
theorem bytes324:Tryz.prog.bytesOf 324=8:=by kernel_rfl
theorem ty325:tyOf Tryz.prog 325=some ⟨1,8,.nilFunc,.other⟩:=by kernel_rfl
theorem bytes325:Tryz.prog.bytesOf 325=8:=by kernel_rfl
theorem ty326:tyOf Tryz.prog 326=some ⟨1,8,.nilFunc,.other⟩:=by kernel_rfl
theorem bytes326:Tryz.prog.bytesOf 326=8:=by kernel_rfl
theorem ty327:tyOf Tryz.prog 327=some ⟨3,24,(.agg #[(.int .i64 0),(.int .i64 0),(.int .u64 0)]),.struct [(0,1,3),(1,1,3),(2,1,38)]⟩:=by kernel_rfl
theorem bytes327:Tryz.prog.bytesOf 327=24:=by kernel_rfl
theorem flat327:flatKinds Tryz.prog 327=some [some .i64,some .i64,some .u64]:=by kernel_rfl
theorem ty328:tyOf Tryz.prog 328=some ⟨1,8,.nilFunc,.other⟩:=by kernel_rfl
theorem bytes328:Tryz.prog.bytesOf 328=8:=by kernel_rfl
theorem ty329:tyOf Tryz.prog 329=some ⟨1,8,.nilFunc,.other⟩:=by kernel_rfl
theorem bytes329:Tryz.prog.bytesOf 329=8:=by kernel_rfl
theorem ty330:tyOf Tryz.prog 330=some ⟨1,8,.nilFunc,.other⟩:=by kernel_rfl
theorem bytes330:Tryz.prog.bytesOf 330=8:=by kernel_rfl
theorem ty331:tyOf Tryz.prog 331=some ⟨1,8,.nilFunc,.other⟩:=by kernel_rfl
theorem bytes331:Tryz.prog.bytesOf 331=8:=by kernel_rfl
theorem ty332:tyOf Tryz.prog 332=some ⟨1,0,(.tuple #[(.agg #[(.int .i64 0),(.int .i64 0),(.slice none 0 0),(.slice none 0 0),(.int .i64 0),(.int .i64 0),(.slice none 0 0),(.slice none 0 0),(.slice none 0 0),(.int .i64 0),(.int .i64 0),(.int .i64 0),(.int .i64 0),(.int .i64 0),(.int .i64 0),(.int .i64 0)]),(.int .u64 0),(.bool false)]),.other⟩:=by kernel_rfl
theorem bytes332:Tryz.prog.bytesOf 332=0:=by kernel_rfl
theorem ty333:tyOf Tryz.prog 333=some ⟨1,8,.nilFunc,.other⟩:=by kernel_rfl
theorem bytes333:Tryz.prog.bytesOf 333=8:=by kernel_rfl
theorem ty334:tyOf Tryz.prog 334=some ⟨1,8,.nilFunc,.other⟩:=by kernel_rfl
theorem bytes334:Tryz.prog.bytesOf 334=8:=by kernel_rfl
theorem ty335:tyOf Tryz.prog 335=some ⟨1,0,(.tuple #[(.int .i64 0),(.int .i64 0)]),.other⟩:=by kernel_rfl
theorem bytes335:Tryz.prog.bytesOf 335=0:=by kernel_rfl
theorem ty336:tyOf Tryz.prog 336=some ⟨1,8,.nilFunc,.other⟩:=by kernel_rfl
theorem bytes336:Tryz.prog.bytesOf 336=8:=by kernel_rfl
theorem ty337:tyOf Tryz.prog 337=some ⟨1,8,.nilFunc,.other⟩:=by kernel_rfl
theorem bytes337:Tryz.prog.bytesOf 337=8:=by kernel_rfl
theorem ty338:tyOf Tryz.prog 338=some ⟨1,0,(.tuple #[(.agg #[(.int .i64 0),(.int .i64 0),(.slice none 0 0),(.slice none 0 0),(.int .i64 0),(.int .i64 0)]),(.int .u64 0),(.bool false)]),.other⟩:=by kernel_rfl
theorem bytes338:Tryz.prog.bytesOf 338=0:=by kernel_rfl
theorem ty339:tyOf Tryz.prog 339=some ⟨1,8,.nilFunc,.other⟩:=by kernel_rfl
theorem bytes339:Tryz.prog.bytesOf 339=8:=by kernel_rfl
theorem ty340:tyOf Tryz.prog 340=some ⟨1,8,.nilFunc,.other⟩:=by kernel_rfl
theorem bytes340:Tryz.prog.bytesOf 340=8:=by kernel_rfl
theorem ty341:tyOf Tryz.prog 341=some ⟨1,8,.nilFunc,.other⟩:=by kernel_rfl
theorem bytes341:Tryz.prog.bytesOf 341=8:=by kernel_rfl
theorem ty342:tyOf Tryz.prog 342=some ⟨1,8,.nilFunc,.other⟩:=by kernel_rfl
theorem bytes342:Tryz.prog.bytesOf 342=8:=by kernel_rfl
theorem ty343:tyOf Tryz.prog 343=some ⟨4,32,(.agg #[(.int .i64 0),(.int .i64 0),(.int .i64 0),(.int .i64 0)]),.struct [(0,1,3),(1,1,3),(2,1,3),(3,1,3)]⟩:=by kernel_rfl
theorem bytes343:Tryz.prog.bytesOf 343=32:=by kernel_rfl
theorem flat343:flatKinds Tryz.prog 343=some [some .i64,some .i64,some .i64,some .i64]:=by kernel_rfl
theorem ty344:tyOf Tryz.prog 344=some ⟨3,24,(.agg #[.nilFunc,.nilFunc,.nilFunc]),.array 3 342 1⟩:=by kernel_rfl
theorem bytes344:Tryz.prog.bytesOf 344=24:=by kernel_rfl
theorem ty345:tyOf Tryz.prog 345=some ⟨1,8,.nilFunc,.other⟩:=by kernel_rfl
theorem bytes345:Tryz.prog.bytesOf 345=8:=by kernel_rfl
theorem ty346:tyOf Tryz.prog 346=some ⟨1,8,.nilFunc,.other⟩:=by kernel_rfl
theorem bytes346:Tryz.prog.bytesOf 346=8:=by kernel_rfl
theorem ty347:tyOf Tryz.prog 347=some ⟨1,8,.nilFunc,.other⟩:=by kernel_rfl
theorem bytes347:Tryz.prog.bytesOf 347=8:=by kernel_rfl
theorem ty348:tyOf Tryz.prog 348=some ⟨1,8,.nilFunc,.other⟩:=by kernel_rfl
theorem bytes348:Tryz.prog.bytesOf 348=8:=by kernel_rfl
theorem ty349:tyOf Tryz.prog 349=some ⟨1,8,.nilFunc,.other⟩:=by kernel_rfl
theorem bytes349:Tryz.prog.bytesOf 349=8:=by kernel_rfl
theorem ty350:tyOf Tryz.prog 350=some ⟨1,8,.nilFunc,.other⟩:=by kernel_rfl
theorem bytes350:Tryz.prog.bytesOf 350=8:=by kernel_rfl
theorem ty351:tyOf Tryz.prog 351=some ⟨1,8,.nilFunc,.other⟩:=by kernel_rfl
theorem bytes351:Tryz.prog.bytesOf 351=8:=by kernel_rfl
theorem ty352:tyOf Tryz.prog 352=some ⟨1,8,.nilFunc,.other⟩:=by kernel_rfl
theorem bytes352:Tryz.prog.bytesOf 352=8:=by kernel_rfl
theorem ty353:tyOf Tryz.prog 353=some ⟨1,0,(.tuple #[(.slice none 0 0),(.int .i64 0)]),.other⟩:=by kernel_rfl
theorem bytes353:Tryz.prog.bytesOf 353=0:=by kernel_rfl
theorem ty354:tyOf Tryz.prog 354=some ⟨1,8,.nilFunc,.other⟩:=by kernel_rfl
theorem bytes354:Tryz.prog.bytesOf 354=8:=by kernel_rfl
theorem ty355:tyOf Tryz.prog 355=some ⟨1,8,.nilFunc,.other⟩:=by kernel_rfl
theorem bytes355:Tryz.prog.bytesOf 355=8:=by kernel_rfl
theorem ty356:tyOf Tryz.prog 356=some ⟨1,8,.nilFunc,.other⟩:=by kernel_rfl
theorem bytes356:Tryz.prog.bytesOf 356=8:=by kernel_rfl
theorem ty357:tyOf Tryz.prog 357=some ⟨1,8,.nilFunc,.other⟩:=by kernel_rfl
theorem bytes357:Tryz.prog.bytesOf 357=8:=by kernel_rfl
theorem ty358:tyOf Tryz.prog 358=some ⟨1,8,.nilFunc,.other⟩:=by kernel_rfl
theorem bytes358:Tryz.prog.bytesOf 358=8:=by kernel_rfl
theorem ty359:tyOf Tryz.prog 359=some ⟨1,8,.nilFunc,.other⟩:=by kernel_rfl
theorem bytes359:Tryz.prog.bytesOf 359=8:=by kernel_rfl
theorem ty360:tyOf Tryz.prog 360=some ⟨1,8,.nilFunc,.other⟩:=by kernel_rfl
theorem bytes360:Tryz.prog.bytesOf 360=8:=by kernel_rfl
theorem ty361:tyOf Tryz.prog 361=some ⟨1,24,(.slice none 0 0),.slice 364 2⟩:=by kernel_rfl
theorem bytes361:Tryz.prog.bytesOf 361=24:=by kernel_rfl
theorem ty362:tyOf Tryz.prog 362=some ⟨1,8,.nilFunc,.other⟩:=by kernel_rfl
theorem bytes362:Tryz.prog.bytesOf 362=8:=by kernel_rfl
theorem ty363:tyOf Tryz.prog 363=some ⟨2,16,(.agg #[(.int .i64 0),(.int .i64 0)]),.struct [(0,1,3),(1,1,3)]⟩:=by kernel_rfl
theorem bytes363:Tryz.prog.bytesOf 363=16:=by kernel_rfl
theorem flat363:flatKinds Tryz.prog 363=some [some .i64,some .i64]:=by kernel_rfl
theorem ty364:tyOf Tryz.prog 364=some ⟨2,16,(.agg #[(.int .i64 0),(.int .i64 0)]),.struct [(0,1,3),(1,1,3)]⟩:=by kernel_rfl
theorem bytes364:Tryz.prog.bytesOf 364=16:=by kernel_rfl
theorem flat364:flatKinds Tryz.prog 364=some [some .i64,some .i64]:=by kernel_rfl
theorem ty365:tyOf Tryz.prog 365=some ⟨1,8,.nilFunc,.other⟩:=by kernel_rfl
theorem bytes365:Tryz.prog.bytesOf 365=8:=by kernel_rfl
theorem ty366:tyOf Tryz.prog 366=some ⟨1,8,.nilFunc,.other⟩:=by kernel_rfl
theorem bytes366:Tryz.prog.bytesOf 366=8:=by kernel_rfl
theorem ty367:tyOf Tryz.prog 367=some ⟨1,8,.nilFunc,.other⟩:=by kernel_rfl
theorem bytes367:Tryz.prog.bytesOf 367=8:=by kernel_rfl
theorem ty368:tyOf Tryz.prog 368=some ⟨1,8,.nilFunc,.other⟩:=by kernel_rfl
theorem bytes368:Tryz.prog.bytesOf 368=8:=by kernel_rfl
theorem ty369:tyOf Tryz.prog 369=some ⟨4,40,(.agg #[(.pointer none),(.pointer none),(.pointer none),(.string (ByteArray.mk #[]))]),.struct [(0,1,17),(1,1,17),(2,1,17),(3,1,9)]⟩:=by kernel_rfl
theorem bytes369:Tryz.prog.bytesOf 369=40:=by kernel_rfl
theorem ty370:tyOf Tryz.prog 370=some ⟨4,40,(.agg #[(.pointer none),(.pointer none),(.pointer none),(.string (ByteArray.mk #[]))]),.struct [(0,1,17),(1,1,17),(2,1,17),(3,1,9)]⟩:=by kernel_rfl
theorem bytes370:Tryz.prog.bytesOf 370=40:=by kernel_rfl
theorem ty371:tyOf Tryz.prog 371=some ⟨0,0,(.agg #[]),.array 0 16 1⟩:=by kernel_rfl
theorem bytes371:Tryz.prog.bytesOf 371=0:=by kernel_rfl
theorem ty372:tyOf Tryz.prog 372=some ⟨0,0,(.agg #[]),.struct [(0,0,371)]⟩:=by kernel_rfl
theorem bytes372:Tryz.prog.bytesOf 372=0:=by kernel_rfl
theorem ty373:tyOf Tryz.prog 373=some ⟨0,0,(.agg #[]),.struct [(0,0,371)]⟩:=by kernel_rfl
theorem bytes373:Tryz.prog.bytesOf 373=0:=by kernel_rfl
theorem ty374:tyOf Tryz.prog 374=some ⟨1,8,.nilFunc,.other⟩:=by kernel_rfl
theorem bytes374:Tryz.prog.bytesOf 374=8:=by kernel_rfl
theorem ty375:tyOf Tryz.prog 375=some ⟨1,1,(.int .u8 0),.int .u8⟩:=by kernel_rfl
theorem bytes375:Tryz.prog.bytesOf 375=1:=by kernel_rfl
theorem ty376:tyOf Tryz.prog 376=some ⟨1,1,(.int .u8 0),.int .u8⟩:=by kernel_rfl
theorem bytes376:Tryz.prog.bytesOf 376=1:=by kernel_rfl
theorem ty377:tyOf Tryz.prog 377=some ⟨1,8,.nilFunc,.other⟩:=by kernel_rfl
theorem bytes377:Tryz.prog.bytesOf 377=8:=by kernel_rfl
theorem ty378:tyOf Tryz.prog 378=some ⟨1,8,(.pointer none),.other⟩:=by kernel_rfl
theorem bytes378:Tryz.prog.bytesOf 378=8:=by kernel_rfl
theorem ty379:tyOf Tryz.prog 379=some ⟨1,4,(.int .i32 0),.int .i32⟩:=by kernel_rfl
theorem bytes379:Tryz.prog.bytesOf 379=4:=by kernel_rfl
theorem ty380:tyOf Tryz.prog 380=some ⟨1,4,(.int .i32 0),.int .i32⟩:=by kernel_rfl
theorem bytes380:Tryz.prog.bytesOf 380=4:=by kernel_rfl
theorem ty381:tyOf Tryz.prog 381=some ⟨11,48,(.agg #[(.int .u64 0),(.int .u64 0),(.int .u32 0),(.int .u8 0),(.int .u8 0),(.int .u8 0),(.int .u8 0),.nilFunc,(.pointer none),(.int .i32 0),(.int .i32 0)]),.struct [(0,1,12),(1,1,12),(2,1,202),(3,1,375),(4,1,5),(5,1,5),(6,1,376),(7,1,377),(8,1,378),(9,1,379),(10,1,380)]⟩:=by kernel_rfl
theorem bytes381:Tryz.prog.bytesOf 381=48:=by kernel_rfl
theorem ty382:tyOf Tryz.prog 382=some ⟨11,48,(.agg #[(.int .u64 0),(.int .u64 0),(.int .u32 0),(.int .u8 0),(.int .u8 0),(.int .u8 0),(.int .u8 0),.nilFunc,(.pointer none),(.int .i32 0),(.int .i32 0)]),.struct [(0,1,12),(1,1,12),(2,1,202),(3,1,375),(4,1,5),(5,1,5),(6,1,376),(7,1,377),(8,1,378),(9,1,379),(10,1,380)]⟩:=by kernel_rfl
theorem bytes382:Tryz.prog.bytesOf 382=48:=by kernel_rfl
theorem ty383:tyOf Tryz.prog 383=some ⟨1,8,.nilFunc,.other⟩:=by kernel_rfl
theorem bytes383:Tryz.prog.bytesOf 383=8:=by kernel_rfl
theorem ty384:tyOf Tryz.prog 384=some ⟨1,8,.nilFunc,.other⟩:=by kernel_rfl
theorem bytes384:Tryz.prog.bytesOf 384=8:=by kernel_rfl
theorem ty385:tyOf Tryz.prog 385=some ⟨1,8,.nilFunc,.other⟩:=by kernel_rfl
theorem bytes385:Tryz.prog.bytesOf 385=8:=by kernel_rfl
theorem ty386:tyOf Tryz.prog 386=some ⟨1,8,(.pointer none),.other⟩:=by kernel_rfl
theorem bytes386:Tryz.prog.bytesOf 386=8:=by kernel_rfl
theorem ty387:tyOf Tryz.prog 387=some ⟨16,272,(.agg #[(.int .i64 0),(.int .i64 0),(.slice none 0 0),(.slice none 0 0),(.int .i64 0),(.int .i64 0),(.slice none 0 0),(.slice none 0 0),(.slice none 0 0),(.slice none 0 0),(.slice none 0 0),(.slice none 0 0),(.slice none 0 0),(.int .u64 0),(.int .u64 0),(.int .u64 0)]),.struct [(0,13,70),(13,1,38),(14,1,38),(15,1,38)]⟩:=by kernel_rfl
theorem bytes387:Tryz.prog.bytesOf 387=272:=by kernel_rfl
theorem ty388:tyOf Tryz.prog 388=some ⟨16,272,(.agg #[(.int .i64 0),(.int .i64 0),(.slice none 0 0),(.slice none 0 0),(.int .i64 0),(.int .i64 0),(.slice none 0 0),(.slice none 0 0),(.slice none 0 0),(.slice none 0 0),(.slice none 0 0),(.slice none 0 0),(.slice none 0 0),(.int .u64 0),(.int .u64 0),(.int .u64 0)]),.struct [(0,13,70),(13,1,38),(14,1,38),(15,1,38)]⟩:=by kernel_rfl
theorem bytes388:Tryz.prog.bytesOf 388=272:=by kernel_rfl
theorem ty389:tyOf Tryz.prog 389=some ⟨1,8,.nilFunc,.other⟩:=by kernel_rfl
theorem bytes389:Tryz.prog.bytesOf 389=8:=by kernel_rfl
theorem ty390:tyOf Tryz.prog 390=some ⟨21,168,(.agg #[.nilFunc,.nilFunc,.nilFunc,.nilFunc,.nilFunc,.nilFunc,.nilFunc,.nilFunc,.nilFunc,.nilFunc,.nilFunc,.nilFunc,.nilFunc,.nilFunc,.nilFunc,.nilFunc,.nilFunc,.nilFunc,.nilFunc,.nilFunc,.nilFunc]),.array 21 389 1⟩:=by kernel_rfl
theorem bytes390:Tryz.prog.bytesOf 390=168:=by kernel_rfl
theorem ty391:tyOf Tryz.prog 391=some ⟨1,8,.nilFunc,.other⟩:=by kernel_rfl
theorem bytes391:Tryz.prog.bytesOf 391=8:=by kernel_rfl
theorem ty392:tyOf Tryz.prog 392=some ⟨1,8,.nilFunc,.other⟩:=by kernel_rfl
theorem bytes392:Tryz.prog.bytesOf 392=8:=by kernel_rfl
theorem ty393:tyOf Tryz.prog 393=some ⟨1,8,.nilFunc,.other⟩:=by kernel_rfl
theorem bytes393:Tryz.prog.bytesOf 393=8:=by kernel_rfl
theorem ty394:tyOf Tryz.prog 394=some ⟨1,8,.nilFunc,.other⟩:=by kernel_rfl
theorem bytes394:Tryz.prog.bytesOf 394=8:=by kernel_rfl
theorem ty395:tyOf Tryz.prog 395=some ⟨1,0,(.tuple #[(.agg #[(.int .i64 0),(.int .i64 0),(.int .u32 0)]),(.int .u64 0),(.int .i64 0)]),.other⟩:=by kernel_rfl
theorem bytes395:Tryz.prog.bytesOf 395=0:=by kernel_rfl
theorem ty396:tyOf Tryz.prog 396=some ⟨1,8,.nilFunc,.other⟩:=by kernel_rfl
theorem bytes396:Tryz.prog.bytesOf 396=8:=by kernel_rfl
theorem ty397:tyOf Tryz.prog 397=some ⟨1,8,.nilFunc,.other⟩:=by kernel_rfl
theorem bytes397:Tryz.prog.bytesOf 397=8:=by kernel_rfl
theorem ty398:tyOf Tryz.prog 398=some ⟨1,8,.nilFunc,.other⟩:=by kernel_rfl
theorem bytes398:Tryz.prog.bytesOf 398=8:=by kernel_rfl
theorem ty399:tyOf Tryz.prog 399=some ⟨1,8,.nilFunc,.other⟩:=by kernel_rfl
theorem bytes399:Tryz.prog.bytesOf 399=8:=by kernel_rfl
theorem ty400:tyOf Tryz.prog 400=some ⟨1,8,.nilFunc,.other⟩:=by kernel_rfl
theorem bytes400:Tryz.prog.bytesOf 400=8:=by kernel_rfl
theorem ty401:tyOf Tryz.prog 401=some ⟨1,8,.nilFunc,.other⟩:=by kernel_rfl
theorem bytes401:Tryz.prog.bytesOf 401=8:=by kernel_rfl
theorem ty402:tyOf Tryz.prog 402=some ⟨1,8,(.pointer none),.other⟩:=by kernel_rfl
theorem bytes402:Tryz.prog.bytesOf 402=8:=by kernel_rfl
theorem ty403:tyOf Tryz.prog 403=some ⟨1,0,(.tuple #[(.int .u64 0),(.int .u64 0),(.int .i64 0)]),.other⟩:=by kernel_rfl
theorem bytes403:Tryz.prog.bytesOf 403=0:=by kernel_rfl
theorem ty404:tyOf Tryz.prog 404=some ⟨1,8,.nilFunc,.other⟩:=by kernel_rfl
theorem bytes404:Tryz.prog.bytesOf 404=8:=by kernel_rfl
theorem ty405:tyOf Tryz.prog 405=some ⟨1,8,.nilFunc,.other⟩:=by kernel_rfl
theorem bytes405:Tryz.prog.bytesOf 405=8:=by kernel_rfl
theorem ty406:tyOf Tryz.prog 406=some ⟨1,8,.nilFunc,.other⟩:=by kernel_rfl
theorem bytes406:Tryz.prog.bytesOf 406=8:=by kernel_rfl
theorem ty407:tyOf Tryz.prog 407=some ⟨3,24,(.agg #[(.int .i64 0),(.int .i64 0),(.int .i64 0)]),.array 3 3 1⟩:=by kernel_rfl
theorem bytes407:Tryz.prog.bytesOf 407=24:=by kernel_rfl
theorem ty408:tyOf Tryz.prog 408=some ⟨1,8,.nilFunc,.other⟩:=by kernel_rfl
theorem bytes408:Tryz.prog.bytesOf 408=8:=by kernel_rfl
theorem ty409:tyOf Tryz.prog 409=some ⟨1,8,(.pointer none),.other⟩:=by kernel_rfl
theorem bytes409:Tryz.prog.bytesOf 409=8:=by kernel_rfl
theorem ty410:tyOf Tryz.prog 410=some ⟨2,16,(.agg #[(.int .i64 0),(.int .i64 0)]),.struct [(0,1,3),(1,1,3)]⟩:=by kernel_rfl
theorem bytes410:Tryz.prog.bytesOf 410=16:=by kernel_rfl
theorem flat410:flatKinds Tryz.prog 410=some [some .i64,some .i64]:=by kernel_rfl
theorem ty411:tyOf Tryz.prog 411=some ⟨2,16,(.agg #[(.int .i64 0),(.int .i64 0)]),.struct [(0,1,3),(1,1,3)]⟩:=by kernel_rfl
theorem bytes411:Tryz.prog.bytesOf 411=16:=by kernel_rfl
theorem flat411:flatKinds Tryz.prog 411=some [some .i64,some .i64]:=by kernel_rfl
theorem ty412:tyOf Tryz.prog 412=some ⟨1,0,(.tuple #[(.agg #[(.int .i64 0),(.int .i64 0),(.slice none 0 0),(.slice none 0 0),(.int .i64 0),(.int .i64 0)]),(.agg #[(.int .i64 0),(.int .i64 0)]),(.int .i64 0)]),.other⟩:=by kernel_rfl
theorem bytes412:Tryz.prog.bytesOf 412=0:=by kernel_rfl
theorem ty413:tyOf Tryz.prog 413=some ⟨1,8,.nilFunc,.other⟩:=by kernel_rfl
theorem bytes413:Tryz.prog.bytesOf 413=8:=by kernel_rfl
theorem ty414:tyOf Tryz.prog 414=some ⟨1,8,.nilFunc,.other⟩:=by kernel_rfl
theorem bytes414:Tryz.prog.bytesOf 414=8:=by kernel_rfl
theorem ty415:tyOf Tryz.prog 415=some ⟨3,24,(.agg #[(.int .i64 0),(.int .i64 0),(.int .i64 0)]),.array 3 26 1⟩:=by kernel_rfl
theorem bytes415:Tryz.prog.bytesOf 415=24:=by kernel_rfl
theorem ty416:tyOf Tryz.prog 416=some ⟨1,8,(.map none),.other⟩:=by kernel_rfl
theorem bytes416:Tryz.prog.bytesOf 416=8:=by kernel_rfl
theorem ty417:tyOf Tryz.prog 417=some ⟨1,8,.nilFunc,.other⟩:=by kernel_rfl
theorem bytes417:Tryz.prog.bytesOf 417=8:=by kernel_rfl
theorem ty418:tyOf Tryz.prog 418=some ⟨1,0,(.tuple #[(.agg #[(.int .i64 0),(.int .i64 0)]),(.bool false)]),.other⟩:=by kernel_rfl
theorem bytes418:Tryz.prog.bytesOf 418=0:=by kernel_rfl
theorem ty419:tyOf Tryz.prog 419=some ⟨1,8,(.agg #[(.int .i64 0)]),.struct [(0,1,3)]⟩:=by kernel_rfl
theorem bytes419:Tryz.prog.bytesOf 419=8:=by kernel_rfl
theorem flat419:flatKinds Tryz.prog 419=some [some .i64]:=by kernel_rfl
theorem ty420:tyOf Tryz.prog 420=some ⟨1,8,(.agg #[(.int .i64 0)]),.struct [(0,1,3)]⟩:=by kernel_rfl
theorem bytes420:Tryz.prog.bytesOf 420=8:=by kernel_rfl
theorem flat420:flatKinds Tryz.prog 420=some [some .i64]:=by kernel_rfl
theorem ty421:tyOf Tryz.prog 421=some ⟨1,0,(.tuple #[(.agg #[(.int .i64 0)]),(.bool false)]),.other⟩:=by kernel_rfl
theorem bytes421:Tryz.prog.bytesOf 421=0:=by kernel_rfl
theorem ty422:tyOf Tryz.prog 422=some ⟨1,8,(.agg #[(.int .i64 0)]),.struct [(0,1,3)]⟩:=by kernel_rfl
theorem bytes422:Tryz.prog.bytesOf 422=8:=by kernel_rfl
theorem flat422:flatKinds Tryz.prog 422=some [some .i64]:=by kernel_rfl
theorem ty423:tyOf Tryz.prog 423=some ⟨1,0,(.tuple #[(.agg #[(.int .i64 0)]),(.bool false)]),.other⟩:=by kernel_rfl
theorem bytes423:Tryz.prog.bytesOf 423=0:=by kernel_rfl
theorem ty424:tyOf Tryz.prog 424=some ⟨1,8,(.agg #[(.int .i64 0)]),.struct [(0,1,26)]⟩:=by kernel_rfl
theorem bytes424:Tryz.prog.bytesOf 424=8:=by kernel_rfl
theorem flat424:flatKinds Tryz.prog 424=some [some .i64]:=by kernel_rfl
theorem ty425:tyOf Tryz.prog 425=some ⟨1,8,(.agg #[(.int .i64 0)]),.struct [(0,1,26)]⟩:=by kernel_rfl
theorem bytes425:Tryz.prog.bytesOf 425=8:=by kernel_rfl
theorem flat425:flatKinds Tryz.prog 425=some [some .i64]:=by kernel_rfl
theorem ty426:tyOf Tryz.prog 426=some ⟨1,0,(.tuple #[(.agg #[(.int .i64 0)]),(.bool false)]),.other⟩:=by kernel_rfl
theorem bytes426:Tryz.prog.bytesOf 426=0:=by kernel_rfl
theorem ty427:tyOf Tryz.prog 427=some ⟨16,208,(.agg #[(.int .i64 0),(.int .i64 0),(.slice none 0 0),(.slice none 0 0),(.int .i64 0),(.int .i64 0),(.slice none 0 0),(.slice none 0 0),(.slice none 0 0),(.int .i64 0),(.int .i64 0),(.int .i64 0),(.int .i64 0),(.int .i64 0),(.int .i64 0),(.int .i64 0)]),.struct [(0,6,59),(6,1,25),(7,1,62),(8,1,25),(9,1,3),(10,6,136)]⟩:=by kernel_rfl
theorem bytes427:Tryz.prog.bytesOf 427=208:=by kernel_rfl
theorem ty428:tyOf Tryz.prog 428=some ⟨1,0,(.tuple #[(.agg #[(.int .i64 0),(.int .i64 0),(.slice none 0 0),(.slice none 0 0),(.int .i64 0),(.int .i64 0),(.slice none 0 0),(.slice none 0 0),(.slice none 0 0),(.int .i64 0),(.int .i64 0),(.int .i64 0),(.int .i64 0),(.int .i64 0),(.int .i64 0),(.int .i64 0)]),(.int .i64 0)]),.other⟩:=by kernel_rfl
theorem bytes428:Tryz.prog.bytesOf 428=0:=by kernel_rfl
theorem ty429:tyOf Tryz.prog 429=some ⟨1,8,.nilFunc,.other⟩:=by kernel_rfl
theorem bytes429:Tryz.prog.bytesOf 429=8:=by kernel_rfl
theorem ty430:tyOf Tryz.prog 430=some ⟨1,8,.nilFunc,.other⟩:=by kernel_rfl
theorem bytes430:Tryz.prog.bytesOf 430=8:=by kernel_rfl
theorem ty431:tyOf Tryz.prog 431=some ⟨1,0,(.tuple #[(.agg #[(.int .i64 0),(.int .i64 0),(.slice none 0 0),(.slice none 0 0),(.int .i64 0),(.int .i64 0),(.slice none 0 0),(.slice none 0 0),(.slice none 0 0),(.int .i64 0),(.int .i64 0),(.int .i64 0),(.int .i64 0),(.int .i64 0),(.int .i64 0),(.int .i64 0)]),(.slice none 0 0),(.int .i64 0)]),.other⟩:=by kernel_rfl
theorem bytes431:Tryz.prog.bytesOf 431=0:=by kernel_rfl
theorem ty432:tyOf Tryz.prog 432=some ⟨1,8,.nilFunc,.other⟩:=by kernel_rfl
theorem bytes432:Tryz.prog.bytesOf 432=8:=by kernel_rfl
theorem ty433:tyOf Tryz.prog 433=some ⟨1,8,.nilFunc,.other⟩:=by kernel_rfl
theorem bytes433:Tryz.prog.bytesOf 433=8:=by kernel_rfl
theorem ty434:tyOf Tryz.prog 434=some ⟨1,8,.nilFunc,.other⟩:=by kernel_rfl
theorem bytes434:Tryz.prog.bytesOf 434=8:=by kernel_rfl
theorem ty435:tyOf Tryz.prog 435=some ⟨1,8,(.pointer none),.other⟩:=by kernel_rfl
theorem bytes435:Tryz.prog.bytesOf 435=8:=by kernel_rfl
theorem ty436:tyOf Tryz.prog 436=some ⟨1,8,.nilFunc,.other⟩:=by kernel_rfl
theorem bytes436:Tryz.prog.bytesOf 436=8:=by kernel_rfl
theorem ty437:tyOf Tryz.prog 437=some ⟨1,8,.nilFunc,.other⟩:=by kernel_rfl
theorem bytes437:Tryz.prog.bytesOf 437=8:=by kernel_rfl
theorem ty438:tyOf Tryz.prog 438=some ⟨1,8,(.pointer none),.other⟩:=by kernel_rfl
theorem bytes438:Tryz.prog.bytesOf 438=8:=by kernel_rfl
theorem ty439:tyOf Tryz.prog 439=some ⟨16,208,(.agg #[(.int .i64 0),(.int .i64 0),(.slice none 0 0),(.slice none 0 0),(.int .i64 0),(.int .i64 0),(.slice none 0 0),(.slice none 0 0),(.slice none 0 0),(.int .i64 0),(.int .i64 0),(.int .i64 0),(.int .i64 0),(.int .i64 0),(.int .i64 0),(.int .i64 0)]),.struct [(0,6,59),(6,1,25),(7,1,62),(8,1,25),(9,1,3),(10,6,136)]⟩:=by kernel_rfl
theorem bytes439:Tryz.prog.bytesOf 439=208:=by kernel_rfl
theorem ty440:tyOf Tryz.prog 440=some ⟨1,8,.nilFunc,.other⟩:=by kernel_rfl
theorem bytes440:Tryz.prog.bytesOf 440=8:=by kernel_rfl
theorem ty441:tyOf Tryz.prog 441=some ⟨1,8,.nilFunc,.other⟩:=by kernel_rfl
theorem bytes441:Tryz.prog.bytesOf 441=8:=by kernel_rfl
theorem ty442:tyOf Tryz.prog 442=some ⟨1,0,(.tuple #[(.bool false),(.int .i64 0)]),.other⟩:=by kernel_rfl
theorem bytes442:Tryz.prog.bytesOf 442=0:=by kernel_rfl
theorem ty443:tyOf Tryz.prog 443=some ⟨1,8,.nilFunc,.other⟩:=by kernel_rfl
theorem bytes443:Tryz.prog.bytesOf 443=8:=by kernel_rfl
theorem ty444:tyOf Tryz.prog 444=some ⟨1,8,.nilFunc,.other⟩:=by kernel_rfl
theorem bytes444:Tryz.prog.bytesOf 444=8:=by kernel_rfl
theorem ty445:tyOf Tryz.prog 445=some ⟨1,8,.nilFunc,.other⟩:=by kernel_rfl
theorem bytes445:Tryz.prog.bytesOf 445=8:=by kernel_rfl
theorem ty446:tyOf Tryz.prog 446=some ⟨1,8,(.pointer none),.other⟩:=by kernel_rfl
theorem bytes446:Tryz.prog.bytesOf 446=8:=by kernel_rfl
theorem ty447:tyOf Tryz.prog 447=some ⟨1,8,.nilFunc,.other⟩:=by kernel_rfl
theorem bytes447:Tryz.prog.bytesOf 447=8:=by kernel_rfl
theorem ty448:tyOf Tryz.prog 448=some ⟨1,0,(.tuple #[(.slice none 0 0),(.bool false)]),.other⟩:=by kernel_rfl
theorem bytes448:Tryz.prog.bytesOf 448=0:=by kernel_rfl
theorem ty449:tyOf Tryz.prog 449=some ⟨1,8,.nilFunc,.other⟩:=by kernel_rfl
theorem bytes449:Tryz.prog.bytesOf 449=8:=by kernel_rfl
theorem ty450:tyOf Tryz.prog 450=some ⟨1,8,.nilFunc,.other⟩:=by kernel_rfl
theorem bytes450:Tryz.prog.bytesOf 450=8:=by kernel_rfl
theorem ty451:tyOf Tryz.prog 451=some ⟨2,32,(.agg #[(.pointer none),(.slice none 0 0)]),.struct [(0,1,438),(1,1,25)]⟩:=by kernel_rfl
theorem bytes451:Tryz.prog.bytesOf 451=32:=by kernel_rfl
theorem ty452:tyOf Tryz.prog 452=some ⟨2,32,(.agg #[(.pointer none),(.slice none 0 0)]),.struct [(0,1,438),(1,1,25)]⟩:=by kernel_rfl
theorem bytes452:Tryz.prog.bytesOf 452=32:=by kernel_rfl
theorem ty453:tyOf Tryz.prog 453=some ⟨1,8,.nilFunc,.other⟩:=by kernel_rfl
theorem bytes453:Tryz.prog.bytesOf 453=8:=by kernel_rfl
theorem ty454:tyOf Tryz.prog 454=some ⟨1,8,.nilFunc,.other⟩:=by kernel_rfl
theorem bytes454:Tryz.prog.bytesOf 454=8:=by kernel_rfl
theorem ty455:tyOf Tryz.prog 455=some ⟨1,8,.nilFunc,.other⟩:=by kernel_rfl
theorem bytes455:Tryz.prog.bytesOf 455=8:=by kernel_rfl
theorem ty456:tyOf Tryz.prog 456=some ⟨1,8,(.pointer none),.other⟩:=by kernel_rfl
theorem bytes456:Tryz.prog.bytesOf 456=8:=by kernel_rfl
attribute [go_sem] ty0 ty1 ty2 ty3 ty4 ty5 ty6 ty7 flat7 ty8 flat8 ty9 ty10 ty11 ty12 ty13 ty14 ty15 ty16 ty17 ty18 ty19 ty20 ty21 ty22 ty23 ty24 ty25 ty26 ty27 ty28 ty29 ty30 ty31 ty32 ty33 ty34 ty35 ty36 ty37 ty38 ty39 flat39 ty40 flat40 ty41 ty42 ty43 ty44 flat44 ty45 ty46 ty47 ty48 ty49 ty50 ty51 ty52 ty53 ty54 ty55 flat55 ty56 flat56 ty57 ty58 ty59 ty60 ty61 ty62 ty63 ty64 ty65 ty66 ty67 ty68 ty69 ty70 ty71 ty72 ty73 flat73 ty74 flat74 ty75 ty76 ty77 ty78 ty79 ty80 ty81 ty82 ty83 ty84 ty85 ty86 ty87 flat87 ty88 flat88 ty89 ty90 ty91 ty92 ty93 ty94 ty95 ty96 ty97 ty98 ty99 ty100 ty101 ty102 ty103 ty104 flat104 ty105 flat105 ty106 ty107 ty108 ty109 ty110 ty111 ty112 ty113 ty114 ty115 ty116 ty117 ty118 ty119 ty120 flat120 ty121 flat121 ty122 ty123 ty124 ty125 ty126 ty127 ty128 ty129 ty130 ty131 ty132 ty133 flat133 ty134 flat134 ty135 flat135 ty136 flat136 ty137 ty138 ty139 ty140 ty141 ty142 flat142 ty143 ty144 ty145 ty146 ty147 ty148 ty149 ty150 ty151 ty152 ty153 flat153 ty154 flat154 ty155 ty156 ty157 ty158 ty159 ty160 flat160 ty161 flat161 ty162 ty163 ty164 ty165 ty166 ty167 ty168 ty169 ty170 ty171 ty172 ty173 flat173 ty174 flat174 ty175 ty176 ty177 ty178 ty179 ty180 ty181 ty182 ty183 ty184 ty185 ty186 ty187 ty188 ty189 ty190 ty191 ty192 ty193 ty194 ty195 ty196 ty197 ty198 ty199 ty200 ty201 ty202 ty203 flat203 ty204 flat204 ty205 ty206 ty207 ty208 ty209 ty210 ty211 ty212 ty213 ty214 ty215 ty216 ty217 flat217 ty218 flat218 ty219 ty220 ty221 ty222 ty223 ty224 ty225 ty226 ty227 ty228 ty229 ty230 ty231 ty232 ty233 ty234 ty235 ty236 ty237 ty238 ty239 ty240 ty241 ty242 ty243 ty244 ty245 ty246 ty247 ty248 ty249 ty250 flat250 ty251 flat251 ty252 ty253 ty254 ty255 ty256 ty257 ty258 ty259 ty260 ty261 ty262 ty263 ty264 ty265 ty266 ty267 ty268 ty269 flat269 ty270 flat270 ty271 ty272 ty273 ty274 ty275 ty276 ty277 ty278 ty279 ty280 ty281 ty282 ty283 ty284 ty285 ty286 ty287 ty288 ty289 ty290 ty291 ty292 ty293 ty294 ty295 ty296 ty297 ty298 ty299 ty300 ty301 ty302 ty303 ty304 ty305 ty306 ty307 ty308 ty309 ty310 ty311 ty312 ty313 ty314 ty315 ty316 ty317 ty318 ty319 ty320 ty321 ty322 ty323 ty324 ty325 ty326 ty327 flat327 ty328 ty329 ty330 ty331 ty332 ty333 ty334 ty335 ty336 ty337 ty338 ty339 ty340 ty341 ty342 ty343 flat343 ty344 ty345 ty346 ty347 ty348 ty349 ty350 ty351 ty352 ty353 ty354 ty355 ty356 ty357 ty358 ty359 ty360 ty361 ty362 ty363 flat363 ty364 flat364 ty365 ty366 ty367 ty368 ty369 ty370 ty371 ty372 ty373 ty374 ty375 ty376 ty377 ty378 ty379 ty380 ty381 ty382 ty383 ty384 ty385 ty386 ty387 ty388 ty389 ty390 ty391 ty392 ty393 ty394 ty395 ty396 ty397 ty398 ty399 ty400 ty401 ty402 ty403 ty404 ty405 ty406 ty407 ty408 ty409 ty410 flat410 ty411 flat411 ty412 ty413 ty414 ty415 ty416 ty417 ty418 ty419 flat419 ty420 flat420 ty421 ty422 flat422 ty423 ty424 flat424 ty425 flat425 ty426 ty427 ty428 ty429 ty430 ty431 ty432 ty433 ty434 ty435 ty436 ty437 ty438 ty439 ty440 ty441 ty442 ty443 ty444 ty445 ty446 ty447 ty448 ty449 ty450 ty451 ty452 ty453 ty454 ty455 ty456
end Go.Sx
namespace Go.Sx
attribute [go_sem] zWd zHp
def e40 (x:TIns):List D:=[.v (.int .i64 x.Op),.v (.int .i64 x.A),.v (.int .i64 x.B),.v (.int .i64 x.C),.v (.int .u64 x.K)]
def e34 (x:TCode):List D:=[.v (.int .i64 x.Args),.isl 40 5 (x.Ins.map e40)]
def e88 (x:TField):List D:=[.v (.int .i64 x.Width),.v (.int .u64 x.Value)]
def e38 (x:Int):List D:=[.v (.int .u64 x)]
def e29 (x:TFrame):List D:=[.v (.int .i64 x.Pc),.isl 38 1 (x.Regs.map e38),.v (.int .i64 x.Err)]
def e44 (x:TIns):List D:=[.v (.int .i64 x.Op),.v (.int .i64 x.A),.v (.int .i64 x.B),.v (.int .i64 x.C),.v (.int .u64 x.K)]
def e24 (x:TCode):List D:=[.v (.int .i64 x.Args),.isl 44 5 (x.Ins.map e44)]
def e28 (x:TFrame):List D:=[.v (.int .i64 x.Pc),.isl 38 1 (x.Regs.map e38),.v (.int .i64 x.Err)]
def e56 (x:TConf):List D:=[.v (.int .i64 x.PageWords),.v (.int .i64 x.Pages)]
def e343 (x:TPage):List D:=[.v (.int .i64 x.Kind),.v (.int .i64 x.Space),.v (.int .i64 x.Used),.v (.int .i64 x.Pins)]
def e154 (x:TPage):List D:=[.v (.int .i64 x.Kind),.v (.int .i64 x.Space),.v (.int .i64 x.Used),.v (.int .i64 x.Pins)]
def e59 (x:THeap):List D:=[.v (.int .i64 x.Conf.PageWords),.v (.int .i64 x.Conf.Pages),.isl 38 1 (x.Words.map e38),.isl 154 4 (x.Pages.map e154),.v (.int .i64 x.Space),.v (.int .i64 x.Bump)]
def e233 (x:Tfound):List D:=[.v (.int .u64 x.addr),.v (.int .i64 x.hd.Kind),.v (.int .i64 x.hd.Length),.v (.int .u32 x.hd.Map)]
def e204 (x:THeader):List D:=[.v (.int .i64 x.Kind),.v (.int .i64 x.Length),.v (.int .u32 x.Map)]
def e3 (x:Int):List D:=[.v (.int .i64 x)]
def e218 (x:TFinding):List D:=[.v (.int .i64 x.Fault),.v (.int .i64 x.Page),.v (.int .u64 x.Addr)]
def e121 (x:TPin):List D:=[.v (.int .u64 x.Ref),.v (.int .i64 x.Count)]
def e134 (x:TScope):List D:=[.v (.int .i64 x.From),.v (.int .i64 x.Cap),.v (.bool x.Base)]
def e174 (x:TSlot):List D:=[.v (.int .i64 x.Stamp),.v (.int .u64 x.Ref),.v (.bool x.Live)]
def e156 (x:Tframes):List D:=[.isl 174 3 (x.Locals.Slots.map e174),.isl 134 3 (x.Locals.Scopes.map e134),.isl 3 1 (x.Locals.Issued.map e3)]
def e64 (x:TLocals):List D:=[.isl 174 3 (x.Slots.map e174),.isl 134 3 (x.Scopes.map e134),.isl 3 1 (x.Issued.map e3)]
def e161 (x:TEntry):List D:=[.v (.int .i64 x.Gen),.v (.int .u64 x.Ref),.v (.bool x.Live)]
def e67 (x:TTable):List D:=[.isl 161 3 (x.Entries.map e161)]
def e25 (x:List Int):List D:=[.isl 38 1 (x.map e38)]
def e70 (x:TEnv):List D:=[.v (.int .i64 x.Heap.Conf.PageWords),.v (.int .i64 x.Heap.Conf.Pages),.isl 38 1 (x.Heap.Words.map e38),.isl 154 4 (x.Heap.Pages.map e154),.v (.int .i64 x.Heap.Space),.v (.int .i64 x.Heap.Bump),.isl 174 3 (x.Locals.Slots.map e174),.isl 134 3 (x.Locals.Scopes.map e134),.isl 3 1 (x.Locals.Issued.map e3),.isl 161 3 (x.Globals.Entries.map e161),.isl 161 3 (x.Weaks.Entries.map e161),.isl 121 2 (x.Pins.map e121),.isl 38 1 (x.Roots.map e38)]
def e72 (x:TEvent):List D:=[.v (.int .i64 x.Kind),.v (.int .u64 x.Value),.v (.int .i64 x.Ins.Op),.v (.int .i64 x.Ins.A),.v (.int .i64 x.Ins.B),.v (.int .i64 x.Ins.C),.v (.int .u64 x.Ins.K)]
def e74 (x:TFact):List D:=[.v (.bool x.Failed),.v (.bool x.Collected),.v (.int .u64 x.Base)]
def e100 (x:TTape):List D:=[.isl 3 1 (x.L.map e3),.v (.int .i64 x.at_)]
def e208 (x:TThing):List D:=[.v (.int .i64 x.Header.Kind),.v (.int .i64 x.Header.Length),.v (.int .u32 x.Header.Map),.isl 38 1 (x.Fields.map e38)]
def e251 (x:TMark):List D:=[.v (.int .u64 x.Id),.v (.int .i64 x.Count),.v (.int .u64 x.Base)]
def e80 (x:TWorld):List D:=[.v (.int .i64 x.Conf.PageWords),.v (.int .i64 x.Conf.Pages),.isl 208 4 (x.Things.map e208),.isl 174 3 (x.Locals.Slots.map e174),.isl 134 3 (x.Locals.Scopes.map e134),.isl 3 1 (x.Locals.Issued.map e3),.isl 161 3 (x.Globals.Entries.map e161),.isl 161 3 (x.Weaks.Entries.map e161),.isl 251 3 (x.Marks.map e251),.isl 38 1 (x.Roots.map e38)]
def e82 (x:TPair):List D:=[.v (.int .i64 x.Env.Heap.Conf.PageWords),.v (.int .i64 x.Env.Heap.Conf.Pages),.isl 38 1 (x.Env.Heap.Words.map e38),.isl 154 4 (x.Env.Heap.Pages.map e154),.v (.int .i64 x.Env.Heap.Space),.v (.int .i64 x.Env.Heap.Bump),.isl 174 3 (x.Env.Locals.Slots.map e174),.isl 134 3 (x.Env.Locals.Scopes.map e134),.isl 3 1 (x.Env.Locals.Issued.map e3),.isl 161 3 (x.Env.Globals.Entries.map e161),.isl 161 3 (x.Env.Weaks.Entries.map e161),.isl 121 2 (x.Env.Pins.map e121),.isl 38 1 (x.Env.Roots.map e38),.v (.int .i64 x.World.Conf.PageWords),.v (.int .i64 x.World.Conf.Pages),.isl 208 4 (x.World.Things.map e208),.isl 174 3 (x.World.Locals.Slots.map e174),.isl 134 3 (x.World.Locals.Scopes.map e134),.isl 3 1 (x.World.Locals.Issued.map e3),.isl 161 3 (x.World.Globals.Entries.map e161),.isl 161 3 (x.World.Weaks.Entries.map e161),.isl 251 3 (x.World.Marks.map e251),.isl 38 1 (x.World.Roots.map e38),.isl 38 1 (x.Words.map e38)]
attribute [go_sem] e40 e34 e88 e38 e29 e44 e24 e28 e56 e343 e154 e59 e233 e204 e3 e218 e121 e134 e174 e156 e64 e161 e67 e25 e70 e72 e74 e100 e208 e251 e80 e82 bytes40 bytes34 bytes88 bytes38 bytes29 bytes44 bytes24 bytes28 bytes56 bytes343 bytes154 bytes59 bytes233 bytes204 bytes3 bytes218 bytes121 bytes134 bytes174 bytes156 bytes64 bytes161 bytes67 bytes25 bytes70 bytes72 bytes74 bytes100 bytes208 bytes251 bytes80 bytes82
theorem mixed:Go.Proofs.Tryz.prog.follows .mixedOrders=true:=by kernel_rfl
def GW (G:Nat->Option (List D)):Prop:=True
end Go.Sx
namespace Go.Sx
open Go.Proofs
theorem E:True:=trivial
theorem hd:True:=trivial
theorem hx3:True:=trivial
theorem hl3:True:=trivial
theorem hx25:True:=trivial
theorem hl25:True:=trivial
theorem hx38:True:=trivial
theorem hl38:True:=trivial
theorem hx40:True:=trivial
theorem hl40:True:=trivial
theorem hx44:True:=trivial
theorem hl44:True:=trivial
theorem hx88:True:=trivial
theorem hl88:True:=trivial
theorem hx121:True:=trivial
theorem hl121:True:=trivial
theorem hx134:True:=trivial
theorem hl134:True:=trivial
theorem hx154:True:=trivial
theorem hl154:True:=trivial
theorem hx161:True:=trivial
theorem hl161:True:=trivial
theorem hx174:True:=trivial
theorem hl174:True:=trivial
theorem hx233:True:=trivial
theorem hl233:True:=trivial
theorem hK:True:=trivial
theorem kase {α:Type} {G:Prop} {a c:Int} {x y:Option α} {r:α} (h:(bif (a==c) then x else y)=some r) (f:a=c->x=some r->G) (g:¬ a=c->y=some r->G):G:=by
 by_cases e:a=c
 ·rw[beq_iff_eq.2 e] at h;exact f e h
 ·rw[beq_eq_false_iff_ne.2 e] at h;exact g e h
attribute [go_sem] Option.get!
structure Fn (n:Nat):Prop where
class OK {α:Type} (o:Option α) (f:outParam Nat) (a:outParam (List D)) (l:outParam (List Ob)) (e:outParam (α->D)) (l':outParam (α->List Ob)):Prop where
 h:∀ G,GW G->∀ r,o=some r->ACalls Tryz.prog G f a l (Eqs (e r) (l' r))
section
variable {α β:Type} {o:Option α} {k:α->Option β} {f:Nat} {a args:List D} {l:List Ob} {e:α->D} {l':α->List Ob} {G:Nat->Option (List D)} {r:β} {K:D->List Ob->Prop}
theorem OK.c [h:OK o f a l e l'] (hr:bnd o k=some r) (hw:GW G) (hf:fitsL args a) (hK:∀ y,k y=some r->K (e y) (l' y)) (t:Prf args):CallG Tryz.prog G f args l K t :=
 bnd_e hr fun y hy hr=>CallG.ofE (h.h G hw y hy) hf (hK y hr) t
theorem OK.d [h:OK o f a l e l'] (hr:bnd o k=some r) (hw:GW G) (hf:fitsL args a) (hK:∀ y,k y=some r->K (e y) (l' y)) (t:Prf args):CallD Tryz.prog G f args l K t :=
 bnd_e hr fun y hy hr=>CallD.ofE (h.h G hw y hy) hf (hK y hr) t
theorem rn (fn:Func) (rs:List ResultVar) (fr:List Nat) (nt:Nat)
 (hk:(Tryz.prog.funcs[f]?,fn.body,fn.name== "runtime.NumGoroutine",fn.results,fn.ntmps,a.length.ble nt)=(some fn,some (fn.body.get!),false,⟨rs⟩,nt,true))
 (h:∀ G,GW G->∀ r,o=some r->∀ (C:Cx) x,C.G=G->WfL Tryz.prog a->Fn f->run Tryz.prog (C.sub 0 x) (retP Tryz.prog rs fr l.length (Eqs (e r) (l' r))) 1000 [.code (fn.body.get!)] (st0 a l nt)):OK o f a l e l':=by
 injection hk with h1 hk;injection hk with h2 hk;injection hk with h3 hk;injection hk with h4 hk;injection hk with h5 h6
 exact ⟨fun G hw r hr=>acalls_of_run 1000 fr nt h1 h2 h3 h4 h5 (Nat.le_of_ble_eq_true h6) fun C x hG hwf=>h G hw r hr C x hG hwf ⟨⟩⟩
end
def bm (b n:Nat):List Nat:=((List.range (n.log2+1)).filter fun i=>n / 2 ^ i % 2==1).map fun i=>i+b
theorem bm_has {b n x:Nat}:(bm b n).contains x=(decide (b<=x)&&n / 2 ^ (x-b) % 2==1):=by
 rw[Bool.eq_iff_iff,List.contains_iff_mem,bm,List.mem_map]
 simp only[List.mem_filter,List.mem_range,beq_iff_eq,Bool.and_eq_true,decide_eq_true_eq]
 constructor
 ·rintro ⟨i,⟨h1,h2⟩,rfl⟩
  rw[Nat.add_sub_cancel]
  exact ⟨Nat.le_add_left _ _,h2⟩
 ·rintro ⟨h1,h3⟩
  refine ⟨x-b,⟨?_,h3⟩,Nat.sub_add_cancel h1⟩
  have hp:0<n / 2 ^ (x-b):=by
   rcases Nat.eq_zero_or_pos (n / 2 ^ (x-b)) with h | h
   ·rw[h] at h3;cases h3
   ·exact h
  have hle:2 ^ (x-b)<=n:=by
   rcases Nat.lt_or_ge n (2 ^ (x-b)) with h | h
   ·rw[Nat.div_eq_of_lt h] at hp;cases hp
   ·exact h
  have hn:n≠0:=by
   rintro rfl
   have:=Nat.two_pow_pos (x-b)
   omega
  exact Nat.lt_succ_of_le ((Nat.le_log2 hn).2 hle)
theorem bm_if {b n x:Nat} {p q:D}:(if (bm b n).contains x=true then p else q)=if x<b then q else if n / 2 ^ (x-b) % 2=1 then p else q:=by
 rw[bm_has]
 by_cases h1:x<b
 ·rw[if_pos h1,decide_eq_false (Nat.not_le.2 h1),Bool.false_and];rfl
 rw[if_neg h1,decide_eq_true (Nat.not_lt.1 h1),Bool.true_and]
 by_cases h3:n / 2 ^ (x-b) % 2=1
 ·rw[if_pos h3,if_pos (beq_iff_eq.2 h3)]
 ·rw[if_neg h3,if_neg (fun h=>h3 (beq_iff_eq.1 h))]
def mkEm (b:Nat):Nat->List Oper->List (Nat×Nat×List (List Nat))->List En
 | i,o::l,(a,m,[])::x=>⟨i,o,bm 0 a,[],bm b m,[]⟩::mkEm b (i+1) l x
 | i,o::l,(a,m,[w,k])::x=>⟨i,o,bm 0 a,w,bm b m,k⟩::mkEm b (i+1) l x
 | _,[],[]=>[]
 | i,_,_=>[⟨i,⟨none,.assign (.tmp 0),0,"",#[],none⟩,[],[],[],[]⟩]
attribute [go_sem] bm_if mkEm
theorem db {C:Cx} {R:St->Prop} {k:List It} {st:St} {l:List Oper} (f id:Nat) (_:Fn f) (b:Nat) (aux:List (Nat×Nat×List (List Nat))) (ho:(mkEm b 0 l aux).map (·.o)=l) (hi:(mkEm b 0 l aux).map (·.i)=List.range (mkEm b 0 l aux).length) (hc:chkD (mkEm b 0 l aux)=true)
 (h:dr Tryz.prog C ⟨l⟩ st.k (mkEm b 0 l aux) st fun st'=>run Tryz.prog C R 1000 k ⟨st'.t,st'.s,st'.n,st.k+(mkEm b 0 l aux).length⟩) (t:Prf (⟨l⟩:Array Oper)) (hrd:C.rd=none:=by rfl):DrawnG Tryz.prog C R id ⟨l⟩ k st t :=
 DrawnG.of mixed (mkEm b 0 l aux) 1000 ho hi hc h t hrd
class El {α:Type} (x:Option α) (r:α) (K:outParam (Prop->Prop)):Prop where
 el:∀ {G:Prop},x=some r->K G->G
instance {α:Type} {p:Prop} [Decidable p] {x:Option α} {r:α}:El (grd p x) r fun G=>x=some r->p->G:=⟨fun h k=>grd_e h fun a b=>k b a⟩
instance {κ α:Type} {k:κ} {f:κ->Option α} {r:α}:El (jn k f) r fun G=>f k=some r->G:=⟨fun h k=>jn_e h k⟩
instance {α β γ:Type} {b:β} {f:α->Option γ} {k:β->Option γ} {r:γ}:El (exK (.nxt b) f k) r fun G=>k b=some r->G:=⟨fun h k=>exn_e h k⟩
instance {α β γ:Type} {b:α} {f:α->Option γ} {k:β->Option γ} {r:γ}:El (exK (.ret b) f k) r fun G=>f b=some r->G:=⟨fun h k=>exr_e h k⟩
instance {α:Type} {x y:Option α} {r:α}:El (bif true then x else y) r fun G=>x=some r->G:=⟨fun h k=>k h⟩
instance {α:Type} {x y:Option α} {r:α}:El (bif false then x else y) r fun G=>y=some r->G:=⟨fun h k=>k h⟩
instance {α:Type} {x y:Option α} {r:α}:El (bif !false then x else y) r fun G=>x=some r->G:=⟨fun h k=>k h⟩
instance {α:Type} {x y:Option α} {r:α}:El (bif !true then x else y) r fun G=>y=some r->G:=⟨fun h k=>k h⟩
theorem bc_e {α:Type} {G:Prop} {b c:Bool} {x y:Option α} {r:α} (h:(bif b then x else y)=some r) (hb:b=c) (g:(bif c then x else y)=some r->G):G:=g (hb▸h)
theorem wI_n:wI 1=1∧wI 2=2∧wI 3=3∧wI 4=4∧wI 5=5∧wI 6=6:=by unfold wI;decide
theorem spec_e {α:Type} {G:Prop} {a c:Int} {x:Option α} {r:α} (h:(bif (a==c) then x else none)=some r) (g:a=c->x=some r->G):G:=by
 by_cases hc:a=c
 ·subst hc;simp only[beq_self_eq_true,cond_true] at h;exact g rfl h
 ·simp only[beq_eq_false_iff_ne.2 hc,cond_false] at h;cases h
theorem some_k {α:Type} {G:Prop} {x r:α} {Q:α->Prop} (h:some x=some r) (hk:Q r) (g:Q x->G):G:=g ((Option.some.inj h)▸hk)
end Go.Sx
namespace Go.Sx
open Go.Proofs
section
variable {α β:Type} {o:Option α} {y:α} {f:Nat} {a args:List D} {l:List Ob} {e:α->D} {l':α->List Ob} {G:Nat->Option (List D)} {K:D->List Ob->Prop}
theorem OK.t [h:OK o f a l e l'] (ho:o=some y) (hw:GW G) (hf:fitsL args a) (hK:K (e y) (l' y)) (t:Prf args):CallG Tryz.prog G f args l K t:=CallG.ofE (h.h G hw y ho) hf hK t
theorem OK.td [h:OK o f a l e l'] (ho:o=some y) (hw:GW G) (hf:fitsL args a) (hK:K (e y) (l' y)) (t:Prf args):CallD Tryz.prog G f args l K t:=CallD.ofE (h.h G hw y ho) hf hK t
theorem OK.r {β:Type} {k:α->Option β} {r:β} {C:Cx} {s:Heap} {K':D->Prop} [h:OK o f a [] e l'] (hr:bnd o k=some r) (hw:GW G) (hG:C.G=G) (hro:RoA Tryz.prog C s args a) (hsc:∀ y,scal (e y)=true) (hK:∀ y,k y=some r->K' (e y)) (t:Prf args):CallR Tryz.prog C s f args K' t :=
 bnd_e hr fun y hy hr=>⟨a,Eqs (e y) (l' y),hro,hG▸h.h G hw y hy,⟨_,_,rfl,rfl⟩,fun _ _ h1=>h1.1▸⟨hsc y,hK y hr⟩⟩
theorem rnG (fn:Func) (rs:List ResultVar) (fr:List Nat) (nt:Nat)
 (hk:(Tryz.prog.funcs[f]?,fn.body,fn.name== "runtime.NumGoroutine",fn.results,fn.ntmps,a.length.ble nt)=(some fn,some (fn.body.get!),false,⟨rs⟩,nt,true))
 (h:∀ G,GW G->∀ r,o=some r->∀ (C:Cx) x,C.G=G->C.lb=[]->WfL Tryz.prog a->Fn f->run Tryz.prog (C.sub 0 x) (Gh Tryz.prog (C.sub 0 x) (retP Tryz.prog rs fr 0 (Eqs (e r) (l' r)))) 1000 [.code (fn.body.get!)] (st0 a [] nt)):OK o f a [] e l':=by
 injection hk with h1 hk;injection hk with h2 hk;injection hk with h3 hk;injection hk with h4 hk;injection hk with h5 h6
 exact ⟨fun G hw r hr=>acalls_of_gh 1000 fr nt h1 h2 h3 h4 h5 (Nat.le_of_ble_eq_true h6) fun C x hG hlb hwf=>h G hw r hr C x hG hlb hwf ⟨⟩⟩
end
end Go.Sx
namespace Go.Sx
open Go.Proofs
def tU (n:Int):Prop:=0<=n∧n<=18446744073709551615
def tW (n:Int):Prop:=0<=n∧n<=4294967295
set_option maxRecDepth 10000
theorem list_enc {α:Type} {e:α->List D} {p:α->Prop}:∀ {es:List (List D)},(∀ x∈es,∃ y,x=e y∧p y)->∃ l:List α,es=l.map e∧∀ x∈l,p x
 | [],_=>⟨[],rfl,fun x h=>by cases h⟩
 | x::es,h=>by
  obtain ⟨y,rfl,hy⟩:=h x (by simp)
  obtain ⟨l,rfl,hl⟩:=list_enc (e:=e) (p:=p) (es:=es) fun z hz=>h z (List.mem_cons_of_mem _ hz)
  exact ⟨y::l,rfl,fun z hz=>by rcases List.mem_cons.1 hz with rfl | hz;exact hy;exact hl z hz⟩
section
variable {P:Program} {t e:TypeId} {fs:List (Nat×Nat×Nat)} {a b s:Nat} {z:Value}
theorem sh_sl (m:Nat) (h:tyOf P t=some ⟨a,b,z,.slice e s⟩) (ds:List D):Sh P (m+1) t ds=∃ es,ds=[.isl e (P.cellsOf e) es]∧es.length<=top47∧es.length*P.bytesOf e<=top47∧∀ x∈es,Sh P m e x:=by simp only[Sh,(und_slice h).1]
theorem sh_st (m:Nat) (h:tyOf P t=some ⟨a,b,z,.struct fs⟩) (ds:List D):Sh P (m+1) t ds=ShF (Sh P m) (fs.map (·.2.2)) ds:=by
 obtain ⟨fields,h1,h2,_⟩:=und_struct h
 simp only[Sh,h1]
 rw[h2,List.map_map]
 rfl
theorem sh_u64 (h:tyOf P t=some ⟨a,b,z,.int .u64⟩):∀ (m:Nat) (ds:List D),Sh P m t ds->∃ n,ds=[.v (.int .u64 n)]∧tU n
 | 0,_,h'=>h'.elim
 | m+1,ds,h'=>by
  simp only[Sh,und_int h] at h'
  obtain ⟨n,rfl,h1,h2⟩:=h'
  exact ⟨n,rfl,by unfold tU;rw[min_u64] at h1;rw[max_u64] at h2;exact ⟨h1,h2⟩⟩
theorem sh_u32 (h:tyOf P t=some ⟨a,b,z,.int .u32⟩):∀ (m:Nat) (ds:List D),Sh P m t ds->∃ n,ds=[.v (.int .u32 n)]∧tW n
 | 0,_,h'=>h'.elim
 | m+1,ds,h'=>by
  simp only[Sh,und_int h] at h'
  obtain ⟨n,rfl,h1,h2⟩:=h'
  exact ⟨n,rfl,by unfold tW;rw[min_u32] at h1;rw[max_u32] at h2;exact ⟨h1,h2⟩⟩
theorem sh_i64 (h:tyOf P t=some ⟨a,b,z,.int .i64⟩):∀ (m:Nat) (ds:List D),Sh P m t ds->∃ n,ds=[.v (.int .i64 n)]∧True
 | 0,_,h'=>h'.elim
 | m+1,ds,h'=>by
  simp only[Sh,und_int h] at h'
  obtain ⟨n,rfl,h1,h2⟩:=h'
  exact ⟨n,rfl,trivial⟩
theorem sh_bool (h:tyOf P t=some ⟨a,b,z,.bool⟩):∀ (m:Nat) (ds:List D),Sh P m t ds->∃ b,ds=[.v (.bool b)]∧True
 | 0,_,h'=>h'.elim
 | m+1,ds,h'=>by
  simp only[Sh,und_bool h] at h'
  obtain ⟨n,rfl⟩:=h'
  exact ⟨n,rfl,trivial⟩
end
theorem cel38:Tryz.prog.cellsOf 38=1:=by kernel_rfl
theorem cel44:Tryz.prog.cellsOf 44=5:=by kernel_rfl
theorem sh_44:∀ (m:Nat) (ds:List D),Sh Tryz.prog m 44 ds->∃ x:TIns,ds=e44 x∧True
 | 0,_,h=>h.elim
 | m+1,ds,h=>by
  rw[show Sh Tryz.prog (m+1) 44 ds=_ from sh_st m ty44 ds] at h
  simp only[List.map_cons,List.map_nil,ShF] at h
  obtain ⟨c0,_,rfl,s0,⟨c1,_,rfl,s1,⟨c2,_,rfl,s2,⟨c3,_,rfl,s3,⟨c4,_,rfl,s4,rfl⟩⟩⟩⟩⟩:=h
  obtain ⟨x0,rfl,p0⟩:=sh_i64 ty3 _ _ s0
  obtain ⟨x1,rfl,p1⟩:=sh_i64 ty3 _ _ s1
  obtain ⟨x2,rfl,p2⟩:=sh_i64 ty3 _ _ s2
  obtain ⟨x3,rfl,p3⟩:=sh_i64 ty3 _ _ s3
  obtain ⟨x4,rfl,p4⟩:=sh_u64 ty38 _ _ s4
  exact ⟨⟨x0,x1,x2,x3,x4⟩,rfl,trivial⟩
theorem sh_e44 (m:Nat) (x:List D) (h:Sh Tryz.prog m 44 x):∃ y:TIns,x=e44 y∧True:=by
 obtain ⟨n,rfl,hp⟩:=sh_44 m x h
 exact ⟨n,rfl,trivial⟩
theorem sh_22:∀ (m:Nat) (ds:List D),Sh Tryz.prog m 22 ds->∃ l:List TIns,ds=[.isl 44 5 (l.map e44)]∧l.length*40<=top47∧∀ x∈l,(fun _=>True) x
 | 0,_,h=>h.elim
 | m+1,ds,h=>by
  rw[show Sh Tryz.prog (m+1) 22 ds=_ from sh_sl m ty22 ds] at h
  obtain ⟨es,rfl,_,hb,hs⟩:=h
  obtain ⟨l,rfl,hl⟩:=list_enc (p:=(fun _=>True)) (fun x hx=>sh_e44 m x (hs x hx))
  exact ⟨l,by rw[cel44],by rw[List.length_map,bytes44] at hb;exact hb,hl⟩
theorem sh_24:∀ (m:Nat) (ds:List D),Sh Tryz.prog m 24 ds->∃ x:TCode,ds=e24 x∧True
 | 0,_,h=>h.elim
 | m+1,ds,h=>by
  rw[show Sh Tryz.prog (m+1) 24 ds=_ from sh_st m ty24 ds] at h
  simp only[List.map_cons,List.map_nil,ShF] at h
  obtain ⟨c0,_,rfl,s0,⟨c1,_,rfl,s1,rfl⟩⟩:=h
  obtain ⟨x0,rfl,p0⟩:=sh_i64 ty3 _ _ s0
  obtain ⟨x1,rfl,_,p1⟩:=sh_22 _ _ s1
  exact ⟨⟨x0,x1⟩,rfl,trivial⟩
theorem sh_e38 (m:Nat) (x:List D) (h:Sh Tryz.prog m 38 x):∃ y:Int,x=e38 y∧True:=by
 obtain ⟨n,rfl,hp⟩:=sh_u64 ty38 m x h
 exact ⟨n,rfl,trivial⟩
theorem sh_25:∀ (m:Nat) (ds:List D),Sh Tryz.prog m 25 ds->∃ l:List Int,ds=[.isl 38 1 (l.map e38)]∧l.length*8<=top47∧∀ x∈l,(fun _=>True) x
 | 0,_,h=>h.elim
 | m+1,ds,h=>by
  rw[show Sh Tryz.prog (m+1) 25 ds=_ from sh_sl m ty25 ds] at h
  obtain ⟨es,rfl,_,hb,hs⟩:=h
  obtain ⟨l,rfl,hl⟩:=list_enc (p:=(fun _=>True)) (fun x hx=>sh_e38 m x (hs x hx))
  exact ⟨l,by rw[cel38],by rw[List.length_map,bytes38] at hb;exact hb,hl⟩
theorem sh_28:∀ (m:Nat) (ds:List D),Sh Tryz.prog m 28 ds->∃ x:TFrame,ds=e28 x∧True
 | 0,_,h=>h.elim
 | m+1,ds,h=>by
  rw[show Sh Tryz.prog (m+1) 28 ds=_ from sh_st m ty28 ds] at h
  simp only[List.map_cons,List.map_nil,ShF] at h
  obtain ⟨c0,_,rfl,s0,⟨c1,_,rfl,s1,⟨c2,_,rfl,s2,rfl⟩⟩⟩:=h
  obtain ⟨x0,rfl,p0⟩:=sh_i64 ty3 _ _ s0
  obtain ⟨x1,rfl,_,p1⟩:=sh_25 _ _ s1
  obtain ⟨x2,rfl,p2⟩:=sh_i64 ty26 _ _ s2
  exact ⟨⟨x0,x1,x2⟩,rfl,trivial⟩
end Go.Sx
