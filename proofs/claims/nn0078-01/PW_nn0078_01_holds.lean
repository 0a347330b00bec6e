import PyProof.Rows.All
import PyProof.ExcBaseAll.Exception
import PyProof.ExcClass3
import PyProof.ExcInit
import PyProof.InstStoreFacts
import PyProof.ZipIter
import OpenK.KQuick
import KE.BytesK
import KE.KItem
import KE.LcSums
import KE.KBytesWalk
import KE.KBytesCut
import KE.RegLcTurns
import KE.KIntText
import KE.KLcPair
import KE.KTypeName
import OpenK.AllK
import Wide.All
import PySem.Challenge.RW_nn0078_01
set_option autoImplicit true
set_option tactic.hygienic false
set_option genInjectivity false
set_option genSizeOf false
set_option bootstrap.genMatcherCode false
set_option compiler.extract_closed false
set_option linter.unusedVariables false
set_option maxRecDepth 1000000
namespace AX
open PySem PySem.W PySem.Calls PyProof.Rows
noncomputable section
theorem bO:type_of% @List.all_eq_true:=@List.all_eq_true
theorem dX:type_of% @decide_eq_true:=@decide_eq_true
theorem fz:type_of% @decide_eq_false:=@decide_eq_false
theorem gB:type_of% @Nat.eq_of_beq_eq_true:=@Nat.eq_of_beq_eq_true
theorem bk:type_of% @List.mem_cons:=@List.mem_cons
theorem aL:type_of% @List.mem_cons_self:=@List.mem_cons_self
theorem bc:type_of% @List.mem_cons_of_mem:=@List.mem_cons_of_mem
theorem iw:type_of% @List.getD_eq_getElem?_getD:=@List.getD_eq_getElem?_getD
theorem jG:type_of% @Nat.lt_of_lt_of_le:=@Nat.lt_of_lt_of_le
theorem fy:type_of% @List.map_cons:=@List.map_cons
theorem eG:type_of% @Int.le_refl:=@Int.le_refl
theorem dN:type_of% @List.prefix_refl:=@List.prefix_refl
theorem cX:type_of% @List.length_append:=@List.length_append
theorem c8:type_of% @Nat.le_refl:=@Nat.le_refl
theorem cM:type_of% @Nat.le_trans:=@Nat.le_trans
theorem ch:type_of% @Option.some.inj:=@Option.some.inj
theorem aq:type_of% @PySem.wpAny_mono:=@PySem.wpAny_mono
theorem aR:type_of% @PySem.wpAny_pure:=@PySem.wpAny_pure
theorem bW:type_of% @PySem.Heap.lt_size:=@PySem.Heap.lt_size
theorem fg:type_of% @Nat.lt_irrefl:=@Nat.lt_irrefl
theorem aW:type_of% @LawfulBEq.eq_of_beq:=@LawfulBEq.eq_of_beq
theorem ae:type_of% @PySem.wpAny_bind:=@PySem.wpAny_bind
theorem eX:type_of% @PySem.Heap.get?_push_of_some:=@PySem.Heap.get?_push_of_some
theorem aQ:type_of% @Nat.le_of_ble_eq_true:=@Nat.le_of_ble_eq_true
theorem cg:type_of% @of_decide_eq_true:=@of_decide_eq_true
section
noncomputable abbrev fh:Program:=PySem.Challenge.pw_nn0078_01
noncomputable def Bc (i:Nat):Stmt:=fh.main.body.getD i (.Pass default)
noncomputable def T6 (s:Stmt) (j:Nat):Stmt:=match s with |.ClassDef _ _ _ b _ _ _ _ _ _ _=>b.getD j (.Pass default) |_=>s
noncomputable abbrev sS (s:String):Str:=Str.ofString s
noncomputable def T (s:String) (t:Nat):Value:=.str (sS s) t
noncomputable def iV (n:Nat):Value:=.int (.ofNat n) 0
noncomputable def vZ (l:List Value):Obj:=⟨.type "tuple",none,.seq l.toArray 0,#[]⟩
noncomputable def Tz (t:Nat):List String->List Value
 |[]=>[]
 |s::r=>T s t::Tz (t+1) r
noncomputable def tJ (t:Nat) (l:List String):Obj:=vZ (Tz t l)
noncomputable def Bg (c:Value) (l:List Value):Obj:=⟨c,none,.fields l.toArray,#[]⟩
noncomputable def Uh (s:Stmt) (q:Str) (dV pm:Value) (cd:Nat):Obj:=match s with
 |.FunctionDef n a b _ _ _ sc _ _ _=>⟨.type "function",none,.func (fnOf n q a b sc dV .none .none pm none (.ref cd) .none),#[]⟩
 |_=>default
noncomputable def TC (s:Stmt) (q:Str):Obj:=match s with
 |.FunctionDef n a b _ _ _ sc _ _ _=>⟨.none,none,.func {name:=n,qualname:=q,params:=a,body:=.stmts b,scope:=sc,globals:=0,closure:=[],defaults:=.none,kwdefaults:=.none},#[]⟩
 |_=>default
noncomputable def Uv (nm q:Str) (t line na:Nat) (a b c d e:Value) (u v w:Nat):Obj:=Bg (.type "code") [.str nm t,.str q (t+1),T "/claim/cut.py" (t+2),iV line,iV na,iV 0,iV 0,iV 3,a,.bool true,iV 181,b,.none,c,d,e,.int (.ofNat u) 0,iV v,T "/claim/cut.py" w]
noncomputable def VG (nm q:Str) (t a line na fl k:Nat):Obj:=Uv nm q t line na (.ref a) (.ref (a+1)) (.ref (a+2)) (.ref (a+3)) (.ref (a+4)) (t+3+k) line (t+4+k)
noncomputable def VH (nm q:Str) (t a line na:Nat):Obj:=Uv nm q t line na (.ref a) (.ref (a+1)) .none .none (.ref (a+2)) (t+3) line (t+4)
noncomputable def Uw (nm:String) (t a line:Nat):Obj:=Bg (.type "code") [T nm t,T nm (t+1),T "/claim/cut.py" (t+2),iV line,iV 0,iV 0,iV 0,iV 0,.ref a,.bool false,iV 181,.ref (a+1),.none,.none,.none,.none,
 .int (.ofNat (t+3)) 0,iV line,T "/claim/cut.py" (t+4)]
noncomputable def Ug (cd ns:Nat) (md:Value):Obj:=⟨.type "frame",none,.plain,#[some (.ref cd),some (.ref 3),some (.ref ns),none,some md,none,some (.ref 0)]⟩
noncomputable def D3 (es:List DictEntry) (n:Nat):Obj:=⟨.type "dict",none,.dict es.toArray n,#[]⟩
noncomputable def PL (n:String) (bs mro:List Value) (ns:Nat) (sub:List Value) (sl:List (Option Value)):Obj:=
 ⟨.type "type",none,.cls {name:=sS n,bases:=bs,mro:=mro,ns:=ns,qualname:=sS n,subclasses:=sub},sl.toArray⟩
noncomputable def en (P:Params) (k:String) (t:Nat) (v:Value):DictEntry:=⟨PyData.keyHash P (sS k),.str (sS k) t,v⟩
end
section
noncomputable def TY:List (String×Nat×Nat):=("_wall",193,21)::("MintError",233,46)::("OperandError",249,59)::("EncodeError",265,71)::("DecodeError",281,83)::("mask",288,92)::("wrap",296,99)::("signed",305,106)::("from_little",315,113)::("from_little_signed",322,120)::("LOCKED",326,3012)::("MOVED",328,3013)::("COMPARED",330,3014)::("is_fixed",337,127)::("is_immediate",344,134)::("is_relative",351,141)::("takes_memory",358,148)::("kind_size",365,155)::("kind_width",372,162)::("slot_of",379,169)::("Form",462,227)::("can_lock",469,238)::("repeats",476,245)::("Operand",528,283)::("Reg",567,318)::("Imm",609,352)::("Rel",659,393)::("Mem",735,446)::("Instruction",808,499)::("NAMES_8",812,3033)::("NAMES_16",814,3034)::("NAMES_32",816,3035)::("NAMES_64",818,3036)::("HIGH_NAMES",820,3037)::("Register",890,555)::("early_names",897,566)::("late_ending",904,573)::("gpr",913,580)::("high",920,587)::("xmm",927,594)::("rip",933,601)::("NO_INDEX",937,2004)::("NO_BASE",939,2005)::("WITH_SIB",941,2004)::("FROM_RIP",943,2005)::("unpack_three",950,608)::("unpack_modrm",957,615)::("unpack_sib",964,622)::("octet_at",972,629)::("disp_width_of",981,636)::("read_modrm",995,643)::("memory_of",1013,650)::("FS",1017,2100)::("GS",1019,2101)::("DATA_prefixes",1021,2102)::("REPNE",1023,2242)::("REP",1025,2243)::("LOCK",1027,2240)::("rex_bits",1034,657)::("is_rex",1041,664)::("segment_octet",1048,671)::("sort_of",1055,678)::("Prefixes",1132,731)::("with_rex",1140,742)::("with_legacy",1150,749)::("read_prefixes",1160,756)::("MOST_OCTETS",1164,2015)::("ESCAPE",1166,2015)::("DATA_decoder",1168,2102)::("NOP",1170,2144)::("REGISTER",1172,2003)::("Decoded",1214,780)::("Frame",1304,836)::("fits_size",1312,847)::("fits_mod",1318,852)::("fits_nop",1327,859)::("picked",1336,866)::("register_at",1345,873)::("reg_operand",1354,880)::("rm_operand",1365,887)::("plus_operand",1374,894)::("fixed_operand",1381,901)::("field_at",1391,908)::("written_operand",1400,915)::("operands_of",1414,922)::("check_used",1420,927)::("prefix_word",1430,934)::("read_frame",1436,939)::("decode",1451,947)::("codes_of",1459,952)::("InstructionSet",1555,1023)::("PLAIN_LANES",1559,3100)::("EQUAL_LANES",1561,3101)::("BITS_OF_FLOATS",1563,3102)::("ABOVE_LANES",1565,3103)::("SATURATED",1567,3104)::("ENDS",1569,3105)::("PRODUCTS",1571,3106)::("SHIFTED",1573,3107)::("MIXED",1575,3108)::("NARROWED",1577,3109)::("SUMS_OF_FLOATS",1579,3110)::("PAIRS_OF_FLOATS",1581,3111)::("rows_of",1592,1034)::("both_ways",1603,1041)::("lanes",1609,1046)::("move_rows",1616,1053)::("vector_forms",1622,1060)::("half_moves",1632,1067)::("packed_forms",1642,1074)::("endings",1648,1081)::("converted",1654,1086)::("float_forms",1666,1093)::("_law_names",1670,3123)::("_law_codes",1672,3124)::("_law_short",1674,3125)::("_law_cell",1685,1100)::("_law_agrees",1693,1107)::("_law_rows",1700,1114)::("_law_named",1708,1121)::("_law_size",1715,1128)::("_law_memory",1736,1135)::("_law_laid",1765,1142)::("_law_refused",1773,1149)::("law",1790,1156)::[]
noncomputable def iB:List Str:=TY.dropLast.map λp=>Str.ofString p.1
noncomputable def qv:Program:={fh with main:={fh.main with body:=[Bc 134]}}
noncomputable abbrev j4:Env:={scope:=fh.main.scope,locals:=mainNs,globals:=mainNs,cells:=[],code:=.ref 13,frame:=some 14}
noncomputable abbrev c9:Code:=.body (behindTheImports fh) j4
noncomputable abbrev lR:Pos:=⟨0,0,0,0⟩
noncomputable def BF:List Obj:=[vZ [],Bg .none [],Uw "<module>" 182 11 1,Ug 13 3 (T "__main__" 164)]
noncomputable def BE (l:List Obj):BT:=(l.foldl (λ(p:BT×Nat) o=>(p.1.ins p.2 o,p.2+1)) (.nil,0)).1
noncomputable def kG (d:List (Nat×Obj)) (l:List Obj):BT:=d.foldl (λt p=>t.set p.1 λ_=>p.2) (BE l)
noncomputable def Sb (w:World) (os:OsState):SharedT:=⟨BE ((boot_heap w.params).objs.toList++BF),15,{},#[],{},187,os⟩
noncomputable def Sa (w:World) (os:OsState):Shared:=⟨boot_heap w.params,#[],boot_drawn,boot_toks,os⟩
noncomputable abbrev mZ:Option Value:=some (.ref 6)
theorem Pf (w:World) (os:OsState):topGo treeTable fh w 11 mZ 12 (Sa w os) (topStub fh)=some ((Sb w os).abs,⟨denote treeTable c9,c9,lR,[topFrame lR]⟩):=by kernel_rfl
theorem Hk (w:World) (os:OsState):segRun treeTable fh w 11 mZ 1 1 (Sb w os).abs (blockOf (behindTheImports fh) j4 c9 lR [topFrame lR])=some (.next,(Sb w os).abs,c9,lR):=by kernel_rfl
noncomputable def Se:Value:=T "__main__" 164
noncomputable def oQ:Value:=T "octetmint.basics" 194
noncomputable def ja:Value:=T "octetmint.forms" 323
noncomputable def dM:Value:=T "octetmint.operands" 477
noncomputable def lb:Value:=T "octetmint.registers" 809
noncomputable def xo:Value:=T "octetmint.modrm" 934
noncomputable def k9:Value:=T "octetmint.prefixes" 1014
noncomputable def eP:Value:=T "octetmint.decoder" 1161
noncomputable def oP:Value:=T "octetmint.iset" 1452
noncomputable def qC:Value:=T "octetmint.vectors" 1556
noncomputable def jb:Value:=T "law_nn0078_01" 1667
noncomputable def Sc (i t:Nat):Value:=match Bc i with
 |.Assign _ (.Constant (.str s) _ _) _=>.str s t
 |_=>default
noncomputable def U9 (t a:Nat):Value:=cond (Nat.ble a 1999) (.ref a) (cond (Nat.ble a 2999) (.int (.ofNat (Nat.sub a 2000)) (Nat.pred t)) (Sc (Nat.sub a 3000) (Nat.pred t)))
noncomputable def Ol (P:Params):List (String×Nat×Nat)->List DictEntry
 |[]=>[]
 |p::r=>en P p.1 p.2.1 (U9 p.2.1 p.2.2)::Ol P r
noncomputable def R9 (c:Nat):List (Nat×Nat)->List Value
 |[]=>[]
 |p::r=>iV p.1::iV c::.ref p.2::R9 c r
noncomputable def gl (P:Params):List DictEntry:=en P "__name__" 165 jb::en P "__doc__" 166 .none::en P "__package__" 167 .none::en P "__loader__" 168 (.builtin "__main__.__loader__#opaque")::en P "__spec__" 169 .none::en P "__annotations__" 170 (.ref 6)::en P "__builtins__" 171 (.ref 4)::en P "__file__" 173 (T "/claim/cut.py" 172)::en P "__cached__" 174 .none::Ol P TY
noncomputable def tl:List Value:=R9 0 ((1,20)::(5,27)::(16,55)::(18,67)::(20,79)::(22,91)::(24,98)::(26,105)::(31,112)::(38,119)::(46,126)::(48,133)::(50,140)::(52,147)::(54,154)::(62,161)::(68,168)::(78,175)::(109,237)::(111,244)::(116,251)::(129,293)::(140,326)::(152,360)::(167,401)::(195,454)::(226,509)::(248,565)::(258,572)::(266,579)::(273,586)::(277,593)::(281,600)::(288,607)::(290,614)::(292,621)::(294,628)::(298,635)::(308,642)::(320,649)::(337,656)::(341,663)::(343,670)::(349,677)::(359,684)::(399,741)::(401,748)::(423,755)::(443,762)::(453,790)::(504,846)::(512,851)::(514,858)::(519,865)::(526,872)::(530,879)::(535,886)::(543,893)::(546,900)::(554,907)::(559,914)::(565,921)::(581,926)::(589,933)::(599,938)::(608,946)::(617,951)::(621,958)::(674,1033)::(680,1040)::(682,1045)::(684,1052)::(698,1059)::(700,1066)::(709,1073)::(716,1080)::(718,1085)::(721,1092)::(743,1099)::(751,1106)::(756,1113)::(760,1120)::(766,1127)::(768,1134)::(794,1141)::(817,1148)::(823,1155)::[])
noncomputable def QC:Stmt->Str
 |.FunctionDef n ..=>n
 |_=>default
noncomputable def TZ (s:Stmt) (q:Str) (t a ln na:Nat) (ns:List String) (dV md:Value) (r:List Obj):List Obj:=vZ []::Bg .none []::tJ (t+3) ns::vZ []::TC s q::VG (QC s) q t a ln na 3 ns.length::Uh s q dV md (a+5)::r
noncomputable def TX (s:Stmt) (q:Str) (t a ln na:Nat) (dV md:Value) (r:List Obj):List Obj:=vZ []::Bg .none []::TC s q::VH (QC s) q t a ln na::Uh s q dV md (a+3)::r
noncomputable def aZ (i:Nat):Nat->Nat->Nat->Nat->List String->Value->Value->List Obj->List Obj:=TZ (Bc i) (QC (Bc i))
noncomputable def Aw (i:Nat):Nat->Nat->Nat->Nat->Value->Value->List Obj->List Obj:=TX (Bc i) (QC (Bc i))
noncomputable def bo (i j:Nat) (q:String):Nat->Nat->Nat->Nat->List String->Value->Value->List Obj->List Obj:=TZ (T6 (Bc i) j) (sS q)
noncomputable def GH (i j:Nat) (q:String):Nat->Nat->Nat->Nat->Value->Value->List Obj->List Obj:=TX (T6 (Bc i) j) (sS q)
structure pX where
 (nm:String) (t b:Nat) (bs:List Value) (ln:Nat) (md:Value) (ms:List (String×Nat×Nat×Nat)) (x a:Nat) (sb:List Nat)
noncomputable def Oj (P:Params) (r:List DictEntry):List (String×Nat×Nat×Nat)->List DictEntry
 |[]=>r
 |p::l=>en P p.1 p.2.1 (.ref p.2.2.1)::Oj P r l
noncomputable def Ok:List (String×Nat×Nat×Nat)->List (Nat×Nat)
 |[]=>[]
 |p::l=>(p.2.2.2,Nat.pred p.2.2.1)::Ok l
noncomputable def T0 (P:Params) (c:pX) (r:List DictEntry):List DictEntry:=en P "__firstlineno__" (c.t+9) (.int (.ofNat c.ln) (c.t+8))::Oj P (en P "__static_attributes__" c.x (.ref (Nat.sub c.a 2))::r) c.ms
noncomputable def Ox:Value:=.type "builtin_function_or_method"
noncomputable def vT (P:Params) (c:pX) (r:List Obj):List Obj:=vZ c.bs::Bg Ox [.builtin "type.__prepare__",.type "type"]::D3 (en P "__module__" (c.t+5) c.md::en P "__qualname__" (c.t+7) (T c.nm (c.t+6))::T0 P c []) (c.ms.length+4)::vZ []::Bg .none (R9 4 (Ok c.ms))::Uw c.nm c.t (c.b+3) c.ln::Ug (c.b+5) (c.b+2) c.md::r
noncomputable def QA (P:Params) (c:pX) (n:Nat) (bs mro:List Value) (b0:Option Value) (nw:String) (ex:List DictEntry) (gs:List Obj) (r:List Obj):List Obj:=D3 (en P "__module__" (c.t+5) c.md::T0 P c ex) n::PL c.nm bs (.ref c.a::mro) (Nat.pred c.a) (c.sb.map .ref) [b0,none,some (T c.nm (Nat.sub c.t 2)),some (T c.nm (c.t+6)),some (.builtin nw),some (.bool true)]::(gs++Bg (.type "super") [.ref c.a,.ref c.a,.ref c.a]::Bg Ox [.builtin "object.__init_subclass__",.ref c.a]::r)
noncomputable def TV (t a:Nat):Obj:=Bg (.type "getset_descriptor") [T "__weakref__" t,.ref a,.builtin "ExceptionGroup.__weakref__",.none]
noncomputable def Vb (P:Params) (c:pX):List Obj->List Obj:=QA P c 3 c.bs [.type "Exception",.type "BaseException",.type "object"] (some (.ref c.b)) "Exception.__new__" [en P "__weakref__" (c.x+2) (.ref (c.a+1)),en P "__doc__" (c.x+3) .none] [TV (c.x+1) c.a]
noncomputable def Jf (P:Params) (c:pX):List Obj->List Obj:=QA P c 4 [.type "object"] [.type "object"] none "object.__new__" [en P "__dict__" (c.x+2) (.ref (c.a+1)),en P "__weakref__" (c.x+4) (.ref (c.a+2)),en P "__doc__" (c.x+5) .none] [Bg (.type "getset_descriptor") [T "__dict__" (c.x+1),.ref c.a,.builtin "function.__dict__",.builtin "function.__dict__#set"],TV (c.x+3) c.a]
noncomputable def Sf (P:Params) (c:pX):List Obj->List Obj:=QA P c 2 c.bs [.ref 46,.type "Exception",.type "BaseException",.type "object"] (some (.ref c.b)) "Exception.__new__" [en P "__doc__" (c.x+1) .none] []
noncomputable def QD (P:Params) (c:pX):List Obj->List Obj:=QA P c 2 c.bs [.ref 283,.type "object"] (some (.ref c.b)) "object.__new__" [en P "__doc__" (c.x+1) .none] []
noncomputable def Ow:pX:=⟨"MintError",198,22,[(.type "Exception")],5,oQ,[("__init__",216,36,7),("told",223,43,12)],226,46,[59,71,83]⟩
noncomputable def Ov:pX:=⟨"OperandError",236,50,[(.ref 46)],16,oQ,[],246,59,[]⟩
noncomputable def Ou:pX:=⟨"EncodeError",252,62,[(.ref 46)],18,oQ,[],262,71,[]⟩
noncomputable def Ot:pX:=⟨"DecodeError",268,74,[(.ref 46)],20,oQ,[],278,83,[]⟩
noncomputable def Os:pX:=⟨"Form",382,170,[],78,ja,[("__init__",402,182,80),("told",409,189,92),("slots",416,196,95),("has_modrm",423,203,98),("has_plus",430,210,101),("memory_size",437,217,104),("needs_memory",444,224,107)],455,227,[]⟩
noncomputable def Oq:pX:=⟨"Operand",481,246,[],116,dM,[("__init__",498,259,118),("told",505,266,121),("symbol",512,273,124),("registers",519,280,127)],521,283,[318,352,393,446]⟩
noncomputable def Op:pX:=⟨"Reg",531,288,[(.ref 283)],129,dM,[("__init__",548,301,131),("told",555,308,135),("registers",562,315,138)],564,318,[]⟩
noncomputable def Oo:pX:=⟨"Imm",570,321,[(.ref 283)],140,dM,[("__init__",589,335,142),("told",596,342,147),("symbol",603,349,150)],606,352,[]⟩
noncomputable def On:pX:=⟨"Rel",612,355,[(.ref 283)],152,dM,[("__init__",631,369,154),("told",638,376,159),("symbol",645,383,162),("target",653,390,165)],656,393,[]⟩
noncomputable def Om:pX:=⟨"Mem",662,396,[(.ref 283)],167,dM,[("__init__",688,410,169),("told",697,417,179),("symbol",704,424,184),("registers",710,429,187),("is_rip",717,436,190),("is_absolute",724,443,193)],732,446,[]⟩
noncomputable def Je:pX:=⟨"Instruction",738,449,[],195,dM,[("__init__",758,463,197),("told",764,468,202),("memory_at",773,475,205),("memory",781,482,211),("symbols",788,489,215),("replaced",797,496,218)],801,499,[]⟩
noncomputable def Jd:pX:=⟨"Register",823,504,[],226,lb,[("__init__",843,517,228),("code",850,524,234),("is_extended",857,531,237),("is_high",864,538,240),("needs_rex",871,545,243),("told",878,552,246)],883,555,[]⟩
noncomputable def Jc:pX:=⟨"Prefixes",1058,679,[],359,k9,[("__init__",1083,693,361),("told",1090,700,368),("has_rex",1097,707,371),("bits",1104,714,374),("count",1111,721,377),("octets",1119,728,380)],1125,731,[]⟩
noncomputable def Jb:pX:=⟨"Decoded",1175,757,[],443,eP,[("__init__",1195,770,445),("told",1202,777,451)],1207,780,[]⟩
noncomputable def Ja:pX:=⟨"Frame",1217,785,[],453,eP,[("__init__",1237,798,455),("has_rex",1244,805,476),("is_narrow",1251,812,479),("take_code",1260,819,482),("take_must",1269,826,493),("take_modrm",1278,833,499)],1297,836,[]⟩
noncomputable def I9:pX:=⟨"InstructionSet",1462,953,[],621,oP,[("__init__",1482,966,623),("told",1488,971,638),("find",1496,978,641),("has",1504,985,644),("at",1514,992,647),("names",1521,999,650),("codes",1528,1006,653),("counts",1536,1013,656),("memory_sizes",1544,1020,659)],1548,1023,[]⟩
noncomputable def Sd (P:Params):List Obj:=aZ 0 187 15 1 1 ["k"] .none Se<|
 vT P Ow<|
 .cons (vZ [.none])<|
 bo 2 0 "MintError.__init__" 208 30 7 3 ["self","what","at"] (.ref 29) oQ<|
 bo 2 1 "MintError.told" 217 37 12 1 ["self"] .none oQ<|
 .cons (tJ 224 ["at","what"])<|
 Vb P Ow<|
 vT P Ov<|
 .cons (vZ [])<|
 Sf P Ov<|
 vT P Ou<|
 .cons (vZ [])<|
 Sf P Ou<|
 vT P Ot<|
 .cons (vZ [])<|
 Sf P Ot<|
 aZ 6 282 86 22 1 ["size"] .none oQ<|
 aZ 7 289 93 24 2 ["worth","size"] .none oQ<|
 aZ 8 297 100 26 2 ["worth","size","low"] .none oQ<|
 aZ 9 306 107 31 1 ["octets","worth","shift","octet"] .none oQ<|
 aZ 10 316 114 38 1 ["octets"] .none oQ<|
 aZ 15 331 121 46 1 ["kind"] .none ja<|
 aZ 16 338 128 48 1 ["kind"] .none ja<|
 aZ 17 345 135 50 1 ["kind"] .none ja<|
 aZ 18 352 142 52 1 ["kind"] .none ja<|
 aZ 19 359 149 54 1 ["kind"] .none ja<|
 aZ 20 366 156 62 1 ["kind"] .none ja<|
 aZ 21 373 163 68 1 ["kind"] .none ja<|
 vT P Os<|
 .cons (vZ [(.int 0 392),(.int (-1) 394),(.int 0 395),(.int 0 396),(.bool false)])<|
 GH 22 0 "Form.__init__" 397 178 80 9 (.ref 177) ja<|
 bo 22 1 "Form.told" 403 183 92 1 ["self"] .none ja<|
 bo 22 2 "Form.slots" 410 190 95 1 ["self"] .none ja<|
 bo 22 3 "Form.has_modrm" 417 197 98 1 ["self"] .none ja<|
 bo 22 4 "Form.has_plus" 424 204 101 1 ["self"] .none ja<|
 bo 22 5 "Form.memory_size" 431 211 104 1 ["self"] .none ja<|
 bo 22 6 "Form.needs_memory" 438 218 107 1 ["self"] .none ja<|
 .cons (tJ 445 ["digit","escape","is_wide","kinds","must","name","number","opcode","places","size"])<|
 Jf P Os<|
 aZ 23 463 232 109 1 ["form"] .none ja<|
 aZ 24 470 239 111 1 ["name"] .none ja<|
 vT P Oq<|
 bo 26 0 "Operand.__init__" 491 253 118 2 ["self","kind"] .none dM<|
 bo 26 1 "Operand.told" 499 260 121 1 ["self"] .none dM<|
 bo 26 2 "Operand.symbol" 506 267 124 1 ["self"] .none dM<|
 bo 26 3 "Operand.registers" 513 274 127 1 ["self"] .none dM<|
 .cons (tJ 520 ["kind"])<|
 Jf P Oq<|
 vT P Op<|
 bo 27 0 "Reg.__init__" 541 295 131 2 ["self","register"] .none dM<|
 bo 27 1 "Reg.told" 549 302 135 1 ["self"] .none dM<|
 bo 27 2 "Reg.registers" 556 309 138 1 ["self"] .none dM<|
 .cons (tJ 563 ["register"])<|
 QD P Op<|
 vT P Oo<|
 .cons (tJ 580 [""])<|
 bo 28 0 "Imm.__init__" 581 329 142 3 ["self","worth","name"] (.ref 328) dM<|
 bo 28 1 "Imm.told" 590 336 147 1 ["self"] .none dM<|
 bo 28 2 "Imm.symbol" 597 343 150 1 ["self"] .none dM<|
 .cons (tJ 604 ["name","worth"])<|
 QD P Oo<|
 vT P On<|
 .cons (tJ 622 [""])<|
 bo 29 0 "Rel.__init__" 623 363 154 3 ["self","worth","name"] (.ref 362) dM<|
 bo 29 1 "Rel.told" 632 370 159 1 ["self"] .none dM<|
 bo 29 2 "Rel.symbol" 639 377 162 1 ["self"] .none dM<|
 bo 29 3 "Rel.target" 646 384 165 2 ["self","behind"] .none dM<|
 .cons (tJ 654 ["name","worth"])<|
 QD P On<|
 vT P Om<|
 .cons (vZ [(.int 0 672),(T "" 673),(T "" 674)])<|
 bo 30 0 "Mem.__init__" 675 404 169 8 ["self","base","index","scale","worth","size","segment","name"] (.ref 403) dM<|
 bo 30 1 "Mem.told" 689 411 179 1 ["self","base","index"] .none dM<|
 bo 30 2 "Mem.symbol" 698 418 184 1 ["self"] .none dM<|
 GH 30 3 "Mem.registers" 705 425 187 1 .none dM<|
 bo 30 4 "Mem.is_rip" 711 430 190 1 ["self"] .none dM<|
 bo 30 5 "Mem.is_absolute" 718 437 193 1 ["self"] .none dM<|
 .cons (tJ 725 ["base","index","name","scale","segment","size","worth"])<|
 QD P Om<|
 vT P Je<|
 .cons (tJ 748 [""])<|
 bo 31 0 "Instruction.__init__" 749 457 197 4 ["self","name","operands","prefix"] (.ref 456) dM<|
 GH 31 1 "Instruction.told" 759 464 202 1 .none dM<|
 bo 31 2 "Instruction.memory_at" 765 469 205 1 ["self","at","operand"] .none dM<|
 bo 31 3 "Instruction.memory" 774 476 211 1 ["self","at"] .none dM<|
 bo 31 4 "Instruction.symbols" 782 483 215 1 ["self"] .none dM<|
 bo 31 5 "Instruction.replaced" 789 490 218 3 ["self","at","operand"] .none dM<|
 .cons (tJ 798 ["name","operands","prefix"])<|
 Jf P Je<|
 vT P Jd<|
 bo 38 0 "Register.__init__" 833 511 228 5 ["self","name","kind","number","size"] .none lb<|
 bo 38 1 "Register.code" 844 518 234 1 ["self"] .none lb<|
 bo 38 2 "Register.is_extended" 851 525 237 1 ["self"] .none lb<|
 bo 38 3 "Register.is_high" 858 532 240 1 ["self"] .none lb<|
 bo 38 4 "Register.needs_rex" 865 539 243 1 ["self"] .none lb<|
 bo 38 5 "Register.told" 872 546 246 1 ["self"] .none lb<|
 .cons (tJ 879 ["kind","name","number","size"])<|
 Jf P Jd<|
 aZ 39 891 560 248 1 ["size"] .none lb<|
 aZ 40 898 567 258 1 ["size"] .none lb<|
 aZ 41 905 574 266 2 ["number","size","names"] .none lb<|
 aZ 42 914 581 273 1 ["number"] .none lb<|
 aZ 43 921 588 277 1 ["number"] .none lb<|
 aZ 44 928 595 281 0 [] .none lb<|
 aZ 50 944 602 288 1 ["octet"] .none xo<|
 aZ 51 951 609 290 1 ["octet"] .none xo<|
 aZ 52 958 616 292 1 ["octet"] .none xo<|
 aZ 53 965 623 294 2 ["octets","at"] .none xo<|
 aZ 54 973 630 298 3 ["mod","rm","sib"] .none xo<|
 aZ 55 982 637 308 2 ["octets","at","mod","reg","rm","sib","width","disp"] .none xo<|
 aZ 56 996 644 320 8 ["mod","rm","sib","disp","x","b","size","segment","shift","index","base","first"] .none xo<|
 aZ 64 1028 651 337 1 ["octet"] .none k9<|
 aZ 65 1035 658 341 1 ["octet"] .none k9<|
 aZ 66 1042 665 343 1 ["segment"] .none k9<|
 aZ 67 1049 672 349 1 ["octet"] .none k9<|
 vT P Jc<|
 .cons (vZ [(T "" 1068),(.bool false),(.int 0 1069),(.bool false),(.int (-1) 1071)])<|
 bo 68 0 "Prefixes.__init__" 1072 687 361 6 ["self","segment","is_data","repeat","is_lock","rex"] (.ref 686) k9<|
 bo 68 1 "Prefixes.told" 1084 694 368 1 ["self"] .none k9<|
 bo 68 2 "Prefixes.has_rex" 1091 701 371 1 ["self"] .none k9<|
 bo 68 3 "Prefixes.bits" 1098 708 374 1 ["self"] .none k9<|
 bo 68 4 "Prefixes.count" 1105 715 377 1 ["self"] .none k9<|
 bo 68 5 "Prefixes.octets" 1112 722 380 1 ["self","found"] .none k9<|
 .cons (tJ 1120 ["is_data","is_lock","repeat","rex","segment"])<|
 Jf P Jc<|
 aZ 69 1133 736 399 2 ["prefixes","rex"] .none k9<|
 aZ 70 1141 743 401 2 ["prefixes","octet","sort","segment"] .none k9<|
 aZ 71 1151 750 423 2 ["octets","at","found","octet"] .none k9<|
 vT P Jb<|
 bo 78 0 "Decoded.__init__" 1185 764 445 5 ["self","instruction","length","form","prefixes"] .none eP<|
 bo 78 1 "Decoded.told" 1196 771 451 1 ["self"] .none eP<|
 .cons (tJ 1203 ["form","instruction","length","prefixes"])<|
 Jf P Jb<|
 vT P Ja<|
 bo 79 0 "Frame.__init__" 1227 792 455 4 ["self","begin","prefixes","code_at","bits"] .none eP<|
 bo 79 1 "Frame.has_rex" 1238 799 476 1 ["self"] .none eP<|
 bo 79 2 "Frame.is_narrow" 1245 806 479 1 ["self"] .none eP<|
 bo 79 3 "Frame.take_code" 1252 813 482 2 ["self","octets","at"] .none eP<|
 bo 79 4 "Frame.take_must" 1261 820 493 2 ["self","iset","must"] .none eP<|
 bo 79 5 "Frame.take_modrm" 1270 827 499 2 ["self","octets","told"] .none eP<|
 .cons (tJ 1279 ["b","begin","code_at","disp","escape","mod","modrm_at","must","opcode","prefixes","r","reg","rest_at","rm","sib","w","width","x"])<|
 Jf P Ja<|
 aZ 80 1305 841 504 2 ["form","frame"] .none eP<|
 Aw 81 1313 848 512 2 .none eP<|
 aZ 82 1319 853 514 2 ["form","frame","is_plain"] .none eP<|
 aZ 83 1328 860 519 2 ["forms","frame","form"] .none eP<|
 aZ 84 1337 867 526 3 ["number","size","has_rex"] .none eP<|
 aZ 85 1346 874 530 2 ["kind","frame","number"] .none eP<|
 aZ 86 1355 881 535 2 ["kind","frame","size","segment","number"] .none eP<|
 aZ 87 1366 888 543 2 ["kind","frame","number"] .none eP<|
 aZ 88 1375 895 546 1 ["kind"] .none eP<|
 aZ 89 1382 902 554 3 ["octets","at","width","field"] .none eP<|
 aZ 90 1392 909 559 3 ["kind","slot","field"] .none eP<|
 aZ 91 1401 916 565 3 ["form","frame","octets","found","end","kind","slot","width"] .none eP<|
 Aw 92 1415 923 581 3 .none eP<|
 aZ 93 1421 928 589 2 ["form","frame","repeat","word"] .none eP<|
 Aw 94 1431 935 599 3 .none eP<|
 .cons (vZ [(.int 0 1437)])<|
 aZ 95 1438 941 608 3 ["iset","octets","at","frame","form","operands","end","instruction"] (.ref 940) eP<|
 Aw 97 1454 948 617 1 .none oP<|
 vT P I9<|
 bo 98 0 "InstructionSet.__init__" 1472 960 623 2 ["self","forms","number","form","code"] .none oP<|
 GH 98 1 "InstructionSet.told" 1483 967 638 1 .none oP<|
 bo 98 2 "InstructionSet.find" 1489 972 641 2 ["self","name"] .none oP<|
 bo 98 3 "InstructionSet.has" 1497 979 644 2 ["self","name"] .none oP<|
 bo 98 4 "InstructionSet.at" 1505 986 647 4 ["self","must","escape","opcode"] .none oP<|
 bo 98 5 "InstructionSet.names" 1515 993 650 1 ["self"] .none oP<|
 bo 98 6 "InstructionSet.codes" 1522 1000 653 1 ["self"] .none oP<|
 bo 98 7 "InstructionSet.counts" 1529 1007 656 2 ["self","name"] .none oP<|
 bo 98 8 "InstructionSet.memory_sizes" 1537 1014 659 2 ["self","name"] .none oP<|
 .cons (tJ 1545 ["by_code","by_name","forms"])<|
 Jf P I9<|
 aZ 112 1582 1028 674 1 ["text","rows","word","name","code"] .none qC<|
 aZ 113 1593 1035 680 5 ["name","load","store","must","kind"] .none qC<|
 Aw 114 1604 1042 682 2 .none qC<|
 aZ 115 1610 1047 684 0 ["forms"] .none qC<|
 aZ 116 1617 1054 698 0 [] .none qC<|
 aZ 117 1623 1061 700 0 ["forms","name","must","opcode"] .none qC<|
 aZ 118 1633 1068 709 0 ["forms","text","name","must"] .none qC<|
 aZ 119 1643 1075 716 0 [] .none qC<|
 Aw 120 1649 1082 718 0 .none qC<|
 aZ 121 1655 1087 721 0 ["forms","stem","opcode","ending","must","kind"] .none qC<|
 aZ 126 1675 1094 743 2 ["script","at","cells","total","cell"] .none jb<|
 aZ 127 1686 1101 751 1 ["row","word"] .none jb<|
 aZ 128 1694 1108 756 1 ["number"] .none jb<|
 aZ 129 1701 1115 760 2 ["kind","number"] .none jb<|
 aZ 130 1709 1122 766 1 ["kind"] .none jb<|
 aZ 131 1716 1129 768 2 ["kind","number","base","spot","shift","mod","worth","rest","names","is_plain","index","scale","octs","x","b"] .none jb<|
 aZ 132 1737 1136 794 4 ["row","one","other","number","name","kinds","opcode","lead","digit","size","must","is_wide","told","r","x","b","rest","reg_at","rm","told_reg","told_rm","octs","w"] .none jb<|
 aZ 133 1766 1143 817 2 ["told_set","octs"] .none jb<|
 aZ 134 1774 1150 823 1 ["script","rows","told_set","trial","row","number","told","octs","found","lead","bent"] .none jb<|[]
noncomputable def NW (P:Params):Obj:=(Sd P).getD 21 default
noncomputable def o2 (P:Params):Obj:={D3 [en P "type.__subclasses__.Exception.0" 230 (iV 46),en P "type.__subclasses__.Exception.n" 231 (iV 1)] 2 with cls:=.none}
noncomputable def TW:List Nat:=29::35::36::45::46::58::59::70::71::82::83::91::92::98::99::105::106::112::113::119::120::126::127::133::134::140::141::147::148::154::155::161::162::168::169::177::181::182::188::189::195::196::202::203::209::210::226::227::237::238::244::245::258::259::282::283::300::301::307::308::317::318::328::334::335::341::342::351::352::362::368::369::392::393::403::409::410::416::417::445::446::456::462::463::467::468::498::499::516::517::554::555::565::566::572::573::579::580::586::587::593::594::600::601::607::608::614::615::621::622::628::629::635::636::642::643::649::650::656::657::663::664::677::678::686::692::693::706::707::730::731::741::742::748::749::755::756::769::770::779::780::797::798::804::805::811::812::818::819::825::826::832::833::835::836::846::847::851::852::858::859::865::866::872::873::879::880::886::887::893::894::900::901::907::908::914::915::921::922::926::927::933::934::938::939::940::946::947::951::952::965::966::991::992::1022::1023::1033::1034::1040::1041::1045::1046::1052::1053::1059::1060::1066::1067::1073::1074::1080::1081::1085::1086::1092::1093::1099::1100::1106::1107::1113::1114::1120::1121::1127::1128::1134::1135::1141::1142::1148::1149::1155::1156::[]
noncomputable def Va (l:List Obj):Nat->List Nat->Frag:=List.rec (λ_ _=>[]) (λx _ ih i ks=>ks.casesOn [] λk l=>cond (Nat.beq i k) ((i,x)::ih (i+1) l) (ih (i+1) ks)) l
noncomputable def aI (P:Params):Frag:=(2,o2 P)::(3,D3 (gl P) 134)::Va (Sd P) 15 TW
noncomputable def yP:List Nat:=2::3::TW
noncomputable def NU (P:Params):List Obj:=(boot_heap P).objs.toList++BF++Sd P
noncomputable def QB (P:Params) (m:Value) (n k:Nat) (d:List (Nat×Obj)):List (Nat×Obj):=(2,o2 P)::(3,D3 (en P "__name__" 165 m::(gl P).tail.take n) (n+1))::(12,Bg .none (tl.take k))::d
noncomputable def PI (P:Params):List (Nat×Obj):=QB P dM 32 63 [(283,PL "Operand" [.type "object"] [.ref 283,.type "object"] 282 [] [none,none,some (T "Operand" 479),some (T "Operand" 487),some (.builtin "object.__new__"),some (.bool true)])]
noncomputable def PH (P:Params):List (Nat×Obj):=QB P lb 43 81 []
noncomputable def PG (P:Params):List (Nat×Obj):=QB P eP 82 153 []
noncomputable def D0 (P:Params):List (Nat×Obj):=QB P jb 133 261 []
noncomputable def UB (w:World) (os:OsState):SharedT:=⟨kG (PI w.params) ((NU w.params).take 288),288,{},#[],{},529,os⟩
noncomputable def UA (w:World) (os:OsState):SharedT:=⟨kG (PH w.params) ((NU w.params).take 560),560,{},#[],{},891,os⟩
noncomputable def Uz (w:World) (os:OsState):SharedT:=⟨kG (PG w.params) ((NU w.params).take 848),848,{},#[],{},1313,os⟩
noncomputable def tw (w:World) (os:OsState):SharedT:=⟨kG (D0 w.params) ((NU w.params).take 1157),1157,{},#[],{},1791,os⟩
noncomputable abbrev d5:RowW:=(PySem.Challenge.rw_nn0078_01).row.toRowW
noncomputable def dR:DefRec:=match Bc 134 with
 |.FunctionDef n a b _ _ _ sc _ _ p=>⟨n,a,b,sc,p⟩
 |_=>⟨sS "",default,[],default,default⟩
end
section
abbrev IK:Pos:=⟨116,0,128,17⟩
theorem Hf (w:World) (os:OsState):segRunT treeTable fh w 11 mZ 1 2135 (Sb w os) (piecesOf (((behindTheImports fh).drop 0).take 27) j4 c9 lR [topFrame lR])=some (.next,UB w os,c9,IK):=by kernel_rfl
abbrev IJ:Pos:=⟨226,0,247,24⟩
theorem He (w:World) (os:OsState):segRunT treeTable fh w 11 mZ 1 2199 (UB w os) (piecesOf (((behindTheImports fh).drop 27).take 12) j4 c9 IK [topFrame lR])=some (.next,UA w os,c9,IJ):=by kernel_rfl
abbrev II:Pos:=⟨504,0,511,57⟩
theorem Hd (w:World) (os:OsState):segRunT treeTable fh w 11 mZ 1 1859 (UA w os) (piecesOf (((behindTheImports fh).drop 39).take 42) j4 c9 IJ [topFrame lR])=some (.next,Uz w os,c9,II):=by kernel_rfl
abbrev Ca:Pos:=⟨823,0,844,15⟩
theorem Dj (w:World) (os:OsState):segRunT treeTable fh w 11 mZ 1 1747 (Uz w os) (piecesOf (((behindTheImports fh).drop 81).take 54) j4 c9 II [topFrame lR])=some (.next,tw w os,c9,Ca):=by kernel_rfl
end
section
noncomputable def Ob (w:World) (s:Shared):Bool:=staticsOk (importedModules fh.main.body) (boot_heap w.params) s.heap&&namesBound fh s.heap&&gensDone s&&laidKept (boot_heap w.params) s.heap
theorem Hi (w:World) (os:OsState):Ob w (tw w os).abs=true:=by kernel_rfl
noncomputable def Oa (s:Shared):List (Option Obj):=yP.map s.heap.get?
theorem Hg (w:World) (os:OsState):Oa (tw w os).abs=(aI w.params).map λp=>some p.2:=by kernel_rfl
end
section
theorem Hh (w:World) (os:OsState):openSeen qv iB (importedModules fh.main.body) (λ_=>true) true (tw w os).abs=openGood qv iB:=by kernel_rfl
end
section
theorem Pg (w:World) (os:OsState):topRun treeTable fh w 11 mZ 2 (tw w os).abs ⟨doneF .next,c9,Ca,[topFrame lR]⟩=some (tw w os).abs:=by kernel_rfl
theorem Hc:behindTheImports fh=((behindTheImports fh).drop 0).take 27++(((behindTheImports fh).drop 27).take 12++(((behindTheImports fh).drop 39).take 42++(((behindTheImports fh).drop 81).take 54++[]))):=by kernel_rfl
noncomputable def Kh:Nat:=12+(1+(2135+(2199+(1859+(1747+2)))))
theorem Pd (w:World) (os:OsState):topRun treeTable fh w 11 mZ Kh (Sa w os) (topStub fh)=some (tw w os).abs:=by
 refine go_top (Pf w os) (piece_block (Hk w os) ?_);have k:topRun treeTable fh w 11 mZ (2135+(2199+(1859+(1747+2)))) (Sb w os).abs (restOf (((behindTheImports fh).drop 0).take 27++(((behindTheImports fh).drop 27).take 12++(((behindTheImports fh).drop 39).take 42++(((behindTheImports fh).drop 81).take 54++[])))) j4 c9 lR [topFrame lR])=some (tw w os).abs:=
  piece_app (segRun_of (Hf w os)) (piece_app (segRun_of (He w os)) (piece_app (segRun_of (Hd w os)) (piece_app (segRun_of (Dj w os)) (Pg w os))))
 rw[<-Hc]at k;exact k
noncomputable def Nv:Nat:=20000
theorem LO:∀w:World,(fencedOpening treeTable fh w Nv).map (λs=>(s.heap,s.gens,s.drawn,s.toks))=some (boot_heap w.params,Array.mk [],boot_drawn,boot_toks):=
 boot_open (by kernel_rfl) (by decide+kernel) (λs=>by kernel_rfl)
noncomputable def fM (P:Params):Heap:=absHeap (kG (D0 P) ((NU P).take 1157)) 1157 {}
theorem LL (w:World):((boot_heap w.params).isNs mainGlobals&&(Array.mk []:Array GenState).size==0,(boot_heap w.params).objs.size,(boot_heap w.params).nsMap mainGlobals "__annotations__")=(true,11,mZ):=by kernel_rfl
theorem EH (w:World) (os:OsState):(tw w os).abs=⟨fM w.params,#[],{},1791,os⟩:=by kernel_rfl
theorem Pe (w:World) (os:OsState):topRun treeTable fh w 11 mZ Kh ⟨boot_heap w.params,Array.mk [],boot_drawn,boot_toks,os⟩ (topStub fh)=some ⟨fM w.params,#[],{},1791,os⟩:=by
 rw[<-EH];exact Pd w os
theorem Ph (w:World) (os:OsState):((staticsOk (importedModules fh.main.body) (boot_heap w.params) (fM w.params)&&namesBound fh (fM w.params)&&gensDone ⟨fM w.params,#[],{},1791,os⟩&&laidKept (boot_heap w.params) (fM w.params)),
  openSeen qv iB (importedModules fh.main.body) (λ_=>true) true ⟨fM w.params,#[],{},1791,os⟩,yP.map (Shared.heap ⟨fM w.params,#[],{},1791,os⟩).get?)=(true,openGood qv iB,(aI w.params).map λp=>some p.2):=by
 have h1:=Hi w os;have h2:=Hh w os;have h3:=Hg w os;rw[EH]at h1 h2 h3;exact Prod.ext h1 (Prod.ext h2 h3)
theorem LP:LeftO fh qv iB (λ_=>true) (λs=>yP.map s.heap.get?) (λw=>(aI w.params).map λp=>some p.2) Nv true:=
 LeftO.of_pieces (H₀:=boot_heap) (H₁:=fM) (gs₀:=Array.mk []) (gs₁:=#[]) (d₀:=boot_drawn) (d₁:={}) (k₀:=boot_toks) (k₁:=1791) (m₀:=11) (ann:=mZ) (M:=Kh) LO LL Pe (by decide+kernel)
  (λw=>funext λos=>Ph w os)
end
section
theorem Hj:defOf qv d5.name=some (dR,[]):=by kernel_rfl
theorem Di:d5.prog.theDef d5.name=some (dR.params,dR.body,dR.scope):=by kernel_rfl
theorem SU:kwWritten? dR.params.kwonlyargs dR.params.kw_defaults=some []:=by kernel_rfl
theorem SL:chainsOk qv=true:=by kernel_rfl
theorem SK:opensWell fh=true:=by kernel_rfl
theorem SJ:(frees d5&&d5.within.isEmpty)=true:=by kernel_rfl
theorem ST:(chainsOk qv&&opensWell fh&&(frees d5&&d5.within.isEmpty))=true:=by rw[SL,SK,SJ];rfl
theorem LQ:fh.bare:=⟨rfl,rfl,rfl,rfl,rfl,by decide+kernel⟩
theorem LR (P:Params):yP=(aI P).map (·.1):=by kernel_rfl
theorem LN:d5.promised:=⟨[.list [.int 3,.int 1]],by decide+kernel,by decide+kernel⟩
theorem ub (lk:Look):∀a b:List Stmt,noRoadLSs lk (a++b)=(noRoadLSs lk a&&noRoadLSs lk b)
 |[],b=>by simp[noRoadLSs]
 |s::a,b=>by simp[noRoadLSs,ub lk a b,Bool.and_assoc]
noncomputable abbrev Bf:Look:={strict:=false,foot:=none,bare:=[]}
theorem sI {lk:Look} {l:List Stmt} (n:Nat) (h:noRoadLSs lk (l.take n)=true) (g:noRoadLSs lk (l.drop n)=true):noRoadLSs lk l=true:=by rw[<-List.take_append_drop n l,ub,h,g];rfl
noncomputable def OQ (k:Look) (x:Str) (l:List Nat):Bool:=k.word x&& !(l.any (λc=>c==123||c==125))&& !(l.any (·==46))
theorem Sy {k:Look} {x:Str} (h:OQ k x x.cps.toList=true):k.str x=true:=by
 have h:(k.word x&& !(x.cps.toList.any (λc=>c==123||c==125))&& !(x.cps.toList.any (·==46)))=true:=h;rw[Array.any_toList,Array.any_toList,Bool.and_eq_true,Bool.and_eq_true,Bool.not_eq_true',Bool.not_eq_true']at h;show((underscores x||k.word x)&&(!(x.cps.any (λc=>c==123||c==125)||(x.cps.any (·==46)&& !x.cps.any (·<=32)))||_))=true;rw[h.1.1,h.1.2,h.2,Bool.or_true];rfl
noncomputable def Sx:Stmt->Str
 |.Assign _ (.Constant (.str x) _ _) _=>x
 |_=>default
noncomputable abbrev QF:Str:=Sx (Bc 124)
noncomputable abbrev Lw:List Stmt:=[.Assign [.Name "_law_codes" ⟨741,0,741,10⟩] (.Constant (.str QF) 0 ⟨741,13,741,603⟩) ⟨741,0,741,603⟩]
theorem OS {k:Look} (a:k.stores [.Name "_law_codes" ⟨741,0,741,10⟩]=true) (b:k.name "_law_codes"=true) (c:OQ k QF QF.cps.toList=true):noRoadLSs k Lw=true:=by
 show(k.stores [.Name "_law_codes" ⟨741,0,741,10⟩]&&(k.name "_law_codes"&&true)&&k.str QF&&true)=true;rw[a,b,Sy c];rfl
theorem sJ {lk:Look} {l:List Stmt} (n m:Nat) (h:noRoadLSs lk (l.drop (m+n))=true):noRoadLSs lk ((l.drop m).drop n)=true:=by rw[List.drop_drop];exact h
noncomputable abbrev CW (n:Nat):List Stmt:=fh.main.body.drop n
theorem SI:noRoadLSs Bf ((CW 0).take 20)=true:=by decide+kernel
theorem SH:noRoadLSs Bf ((CW 20).take 20)=true:=by decide+kernel
theorem SG:noRoadLSs Bf ((CW 40).take 20)=true:=by decide+kernel
theorem SE:noRoadLSs Bf ((CW 60).take 20)=true:=by decide+kernel
theorem SD:noRoadLSs Bf ((CW 80).take 20)=true:=by decide+kernel
theorem SC:noRoadLSs Bf ((CW 100).take 24)=true:=by decide+kernel
theorem SA:noRoadLSs Bf ((CW 124).take 1)=true:=(show _=noRoadLSs Bf Lw by kernel_rfl).trans (OS (by decide+kernel) (by decide+kernel) (by decide+kernel))
theorem Sz:noRoadLSs Bf (CW 125)=true:=by decide+kernel
theorem rb:noRoadLSs Bf fh.main.body=true:=sI 20 SI (sJ 20 0 (sI 20 SH (sJ 20 20 (sI 20 SG (sJ 20 40 (sI 20 SE (sJ 20 60 (sI 20 SD (sJ 20 80 (sI 24 SC (sJ 24 100 (sI 1 SA (sJ 1 124 (Sz))))))))))))))
noncomputable abbrev MZ:Look:={strict:=true,foot:=some (iB.filter λn=>!(n.opensWith "_law")),writes:=false,may:=none}
theorem SO:noRoadLSs MZ ((CW 123).take 1)=true:=by decide+kernel
theorem SN:noRoadLSs MZ ((CW 124).take 1)=true:=(show _=noRoadLSs MZ Lw by kernel_rfl).trans (OS (by decide+kernel) (by decide+kernel) (by decide+kernel))
theorem SM:noRoadLSs MZ (CW 125)=true:=by decide+kernel
theorem rf:noRoadLSs MZ (fh.main.body.drop 123)=true:=sI 1 SO (sJ 1 123 (sI 1 SN (sJ 1 124 SM)))
theorem F1 {P:Program} {S:Bool} {b:List Str} (e1:S=false) (e2:b=[]) (h:noRoadLSs Bf P.main.body=true):noRoadLSs {strict:=S,foot:=none,bare:=b} P.main.body=true:=by subst e1 e2;exact h
theorem nil_of {p:Str->Bool} {l:List Str} (h:(l.all λn=>!p n)=true):l.filter p=[]:=by
 rw[List.filter_eq_nil_iff];intro x hx q;have:=bO.mp h x hx;rw[q]at this;cases this
theorem Kw:namesResolve fh=true:=by decide+kernel
theorem Q6:(fh.main.body.length:Nat)=135:=by decide+kernel
set_option maxHeartbeats 0 in
theorem LM:PySem.Challenge.rw_nn0078_01.wellSaid=true:=by
 unfold OpenLaw.wellSaid OpenRow.wellSaid OpenRow.partSaid looksOpen
 repeat' (with_reducible refine look_both ?_ ?_)
 all_goals first
  |with_reducible exact Kw
  |(with_reducible refine F1 (P:=_) ?a ?b ?c;(case a=>decide+kernel);(case b=>exact nil_of (by decide+kernel));(case c=>exact(show _=noRoadLSs Bf fh.main.body by kernel_rfl).trans rb))
  |((with_reducible show noRoadLSs _ (OpenLaw.footing _)=true);exact(show _=noRoadLSs MZ (fh.main.body.drop 123) by kernel_rfl).trans rf)
  |decide+kernel
  |decide+kernel
theorem Ff (call:WalkO qv iB (λ_ _=>True) (InK aI) d5 dR [] λf vs=>PySem.call f vs):PySem.Challenge.rw_nn0078_01.Holds:=
 holds_law LM λsaid=>holds_open (r:=(PySem.Challenge.rw_nn0078_01).row) LP (λw s e=>InK.of LR w s e) InK.keeps (λ_ _=>trivial) (λ_ _ _ h _=>h) Hj Di SU (λ_ _=>recFacts_nil rfl) rfl said ST LQ LN call
end
section
section
inductive A3 (a0 a1 a2:Prop):Prop |mk (h0:a0) (h1:a1) (h2:a2):A3 a0 a1 a2
inductive A4 (a0 a1 a2 a3:Prop):Prop |mk (h0:a0) (h1:a1) (h2:a2) (h3:a3):A4 a0 a1 a2 a3
inductive A5 (a0 a1 a2 a3 a4:Prop):Prop |mk (h0:a0) (h1:a1) (h2:a2) (h3:a3) (h4:a4):A5 a0 a1 a2 a3 a4
inductive A6 (a0 a1 a2 a3 a4 a5:Prop):Prop |mk (h0:a0) (h1:a1) (h2:a2) (h3:a3) (h4:a4) (h5:a5):A6 a0 a1 a2 a3 a4 a5
inductive A7 (a0 a1 a2 a3 a4 a5 a6:Prop):Prop |mk (h0:a0) (h1:a1) (h2:a2) (h3:a3) (h4:a4) (h5:a5) (h6:a6):A7 a0 a1 a2 a3 a4 a5 a6
inductive E2 {α0:Sort _} {α1:Sort _} (p:α0->α1->Prop):Prop |mk (x0:α0) (x1:α1) (h:p x0 x1):E2 p
inductive E3 {α0:Sort _} {α1:Sort _} {α2:Sort _} (p:α0->α1->α2->Prop):Prop |mk (x0:α0) (x1:α1) (x2:α2) (h:p x0 x1 x2):E3 p
inductive E4 {α0:Sort _} {α1:Sort _} {α2:Sort _} {α3:Sort _} (p:α0->α1->α2->α3->Prop):Prop |mk (x0:α0) (x1:α1) (x2:α2) (x3:α3) (h:p x0 x1 x2 x3):E4 p
inductive E5 {α0:Sort _} {α1:Sort _} {α2:Sort _} {α3:Sort _} {α4:Sort _} (p:α0->α1->α2->α3->α4->Prop):Prop |mk (x0:α0) (x1:α1) (x2:α2) (x3:α3) (x4:α4) (h:p x0 x1 x2 x3 x4):E5 p
inductive E7 {α0:Sort _} {α1:Sort _} {α2:Sort _} {α3:Sort _} {α4:Sort _} {α5:Sort _} {α6:Sort _} (p:α0->α1->α2->α3->α4->α5->α6->Prop):Prop |mk (x0:α0) (x1:α1) (x2:α2) (x3:α3) (x4:α4) (x5:α5) (x6:α6) (h:p x0 x1 x2 x3 x4 x5 x6):E7 p
theorem ak {α1:Sort _} {p0 p1 p2:α0->α1->Prop} (h:E2 λx0 x1=>A3 (p0 x0 x1) (p1 x0 x1) (p2 x0 x1)) {C:Prop} (k:∀x0 x1,p0 x0 x1->p1 x0 x1->p2 x0 x1->C):C:=by obtain⟨x0,x1,h0,h1,h2⟩:=h;exact k x0 x1 h0 h1 h2
theorem cJ {α1:Sort _} {p0 p1 p2 p3:α0->α1->Prop} (h:E2 λx0 x1=>A4 (p0 x0 x1) (p1 x0 x1) (p2 x0 x1) (p3 x0 x1)) {C:Prop} (k:∀x0 x1,p0 x0 x1->p1 x0 x1->p2 x0 x1->p3 x0 x1->C):C:=by obtain⟨x0,x1,h0,h1,h2,h3⟩:=h;exact k x0 x1 h0 h1 h2 h3
theorem aJ {α1:Sort _} {p0 p1:α0->α1->Prop} (h:E2 λx0 x1=>p0 x0 x1/\p1 x0 x1) {C:Prop} (k:∀x0 x1,p0 x0 x1->p1 x0 x1->C):C:=by obtain⟨x0,x1,h0,h1⟩:=h;exact k x0 x1 h0 h1
theorem fp {α1:Sort _} {p0 p1 p2:α0->α1->Prop} (h:E2 λx0 x1=>p0 x0 x1/\p1 x0 x1/\p2 x0 x1) {C:Prop} (k:∀x0 x1,p0 x0 x1->p1 x0 x1->p2 x0 x1->C):C:=by obtain⟨x0,x1,h0,h1,h2⟩:=h;exact k x0 x1 h0 h1 h2
theorem er {α1:Sort _} {p0 p1 p2 p3:α0->α1->Prop} (h:E2 λx0 x1=>p0 x0 x1/\p1 x0 x1/\p2 x0 x1/\p3 x0 x1) {C:Prop} (k:∀x0 x1,p0 x0 x1->p1 x0 x1->p2 x0 x1->p3 x0 x1->C):C:=by obtain⟨x0,x1,h0,h1,h2,h3⟩:=h;exact k x0 x1 h0 h1 h2 h3
theorem CV {α1:Sort _} {α2:Sort _} {p0 p1 p2:α0->α1->α2->Prop} (h:E3 λx0 x1 x2=>A3 (p0 x0 x1 x2) (p1 x0 x1 x2) (p2 x0 x1 x2)) {C:Prop} (k:∀x0 x1 x2,p0 x0 x1 x2->p1 x0 x1 x2->p2 x0 x1 x2->C):C:=by obtain⟨x0,x1,x2,h0,h1,h2⟩:=h;exact k x0 x1 x2 h0 h1 h2
theorem bX {α1:Sort _} {α2:Sort _} {p0 p1 p2 p3:α0->α1->α2->Prop} (h:E3 λx0 x1 x2=>A4 (p0 x0 x1 x2) (p1 x0 x1 x2) (p2 x0 x1 x2) (p3 x0 x1 x2)) {C:Prop} (k:∀x0 x1 x2,p0 x0 x1 x2->p1 x0 x1 x2->p2 x0 x1 x2->p3 x0 x1 x2->C):C:=by obtain⟨x0,x1,x2,h0,h1,h2,h3⟩:=h;exact k x0 x1 x2 h0 h1 h2 h3
theorem gn {α1:Sort _} {α2:Sort _} {p0 p1 p2 p3 p4:α0->α1->α2->Prop} (h:E3 λx0 x1 x2=>A5 (p0 x0 x1 x2) (p1 x0 x1 x2) (p2 x0 x1 x2) (p3 x0 x1 x2) (p4 x0 x1 x2)) {C:Prop} (k:∀x0 x1 x2,p0 x0 x1 x2->p1 x0 x1 x2->p2 x0 x1 x2->p3 x0 x1 x2->p4 x0 x1 x2->C):C:=by obtain⟨x0,x1,x2,h0,h1,h2,h3,h4⟩:=h;exact k x0 x1 x2 h0 h1 h2 h3 h4
theorem CU {α1:Sort _} {α2:Sort _} {p0 p1 p2 p3 p4 p5:α0->α1->α2->Prop} (h:E3 λx0 x1 x2=>A6 (p0 x0 x1 x2) (p1 x0 x1 x2) (p2 x0 x1 x2) (p3 x0 x1 x2) (p4 x0 x1 x2) (p5 x0 x1 x2)) {C:Prop} (k:∀x0 x1 x2,p0 x0 x1 x2->p1 x0 x1 x2->p2 x0 x1 x2->p3 x0 x1 x2->p4 x0 x1 x2->p5 x0 x1 x2->C):C:=by obtain⟨x0,x1,x2,h0,h1,h2,h3,h4,h5⟩:=h;exact k x0 x1 x2 h0 h1 h2 h3 h4 h5
theorem CT {α1:Sort _} {α2:Sort _} {p0 p1 p2:α0->α1->α2->Prop} (h:E3 λx0 x1 x2=>p0 x0 x1 x2/\p1 x0 x1 x2/\p2 x0 x1 x2) {C:Prop} (k:∀x0 x1 x2,p0 x0 x1 x2->p1 x0 x1 x2->p2 x0 x1 x2->C):C:=by obtain⟨x0,x1,x2,h0,h1,h2⟩:=h;exact k x0 x1 x2 h0 h1 h2
theorem CS {α1:Sort _} {α2:Sort _} {p0 p1 p2 p3 p4 p5:α0->α1->α2->Prop} (h:E3 λx0 x1 x2=>p0 x0 x1 x2/\p1 x0 x1 x2/\p2 x0 x1 x2/\p3 x0 x1 x2/\p4 x0 x1 x2/\p5 x0 x1 x2) {C:Prop} (k:∀x0 x1 x2,p0 x0 x1 x2->p1 x0 x1 x2->p2 x0 x1 x2->p3 x0 x1 x2->p4 x0 x1 x2->p5 x0 x1 x2->C):C:=by obtain⟨x0,x1,x2,h0,h1,h2,h3,h4,h5⟩:=h;exact k x0 x1 x2 h0 h1 h2 h3 h4 h5
theorem yT {α1:Sort _} {α2:Sort _} {α3:Sort _} {p0 p1 p2:α0->α1->α2->α3->Prop} (h:E4 λx0 x1 x2 x3=>A3 (p0 x0 x1 x2 x3) (p1 x0 x1 x2 x3) (p2 x0 x1 x2 x3)) {C:Prop} (k:∀x0 x1 x2 x3,p0 x0 x1 x2 x3->p1 x0 x1 x2 x3->p2 x0 x1 x2 x3->C):C:=by obtain⟨x0,x1,x2,x3,h0,h1,h2⟩:=h;exact k x0 x1 x2 x3 h0 h1 h2
theorem mB {α1:Sort _} {α2:Sort _} {α3:Sort _} {p0 p1 p2 p3:α0->α1->α2->α3->Prop} (h:E4 λx0 x1 x2 x3=>A4 (p0 x0 x1 x2 x3) (p1 x0 x1 x2 x3) (p2 x0 x1 x2 x3) (p3 x0 x1 x2 x3)) {C:Prop} (k:∀x0 x1 x2 x3,p0 x0 x1 x2 x3->p1 x0 x1 x2 x3->p2 x0 x1 x2 x3->p3 x0 x1 x2 x3->C):C:=by obtain⟨x0,x1,x2,x3,h0,h1,h2,h3⟩:=h;exact k x0 x1 x2 x3 h0 h1 h2 h3
theorem Jh {α1:Sort _} {α2:Sort _} {α3:Sort _} {p0 p1 p2 p3 p4 p5:α0->α1->α2->α3->Prop} (h:E4 λx0 x1 x2 x3=>A6 (p0 x0 x1 x2 x3) (p1 x0 x1 x2 x3) (p2 x0 x1 x2 x3) (p3 x0 x1 x2 x3) (p4 x0 x1 x2 x3) (p5 x0 x1 x2 x3)) {C:Prop} (k:∀x0 x1 x2 x3,p0 x0 x1 x2 x3->p1 x0 x1 x2 x3->p2 x0 x1 x2 x3->p3 x0 x1 x2 x3->p4 x0 x1 x2 x3->p5 x0 x1 x2 x3->C):C:=by obtain⟨x0,x1,x2,x3,h0,h1,h2,h3,h4,h5⟩:=h;exact k x0 x1 x2 x3 h0 h1 h2 h3 h4 h5
theorem mA {α1:Sort _} {α2:Sort _} {α3:Sort _} {p0 p1 p2 p3 p4 p5 p6:α0->α1->α2->α3->Prop} (h:E4 λx0 x1 x2 x3=>A7 (p0 x0 x1 x2 x3) (p1 x0 x1 x2 x3) (p2 x0 x1 x2 x3) (p3 x0 x1 x2 x3) (p4 x0 x1 x2 x3) (p5 x0 x1 x2 x3) (p6 x0 x1 x2 x3)) {C:Prop} (k:∀x0 x1 x2 x3,p0 x0 x1 x2 x3->p1 x0 x1 x2 x3->p2 x0 x1 x2 x3->p3 x0 x1 x2 x3->p4 x0 x1 x2 x3->p5 x0 x1 x2 x3->p6 x0 x1 x2 x3->C):C:=by obtain⟨x0,x1,x2,x3,h0,h1,h2,h3,h4,h5,h6⟩:=h;exact k x0 x1 x2 x3 h0 h1 h2 h3 h4 h5 h6
theorem CR {α1:Sort _} {α2:Sort _} {α3:Sort _} {p0 p1 p2:α0->α1->α2->α3->Prop} (h:E4 λx0 x1 x2 x3=>p0 x0 x1 x2 x3/\p1 x0 x1 x2 x3/\p2 x0 x1 x2 x3) {C:Prop} (k:∀x0 x1 x2 x3,p0 x0 x1 x2 x3->p1 x0 x1 x2 x3->p2 x0 x1 x2 x3->C):C:=by obtain⟨x0,x1,x2,x3,h0,h1,h2⟩:=h;exact k x0 x1 x2 x3 h0 h1 h2
theorem jN {α1:Sort _} {α2:Sort _} {α3:Sort _} {α4:Sort _} {p0 p1 p2 p3:α0->α1->α2->α3->α4->Prop} (h:E5 λx0 x1 x2 x3 x4=>A4 (p0 x0 x1 x2 x3 x4) (p1 x0 x1 x2 x3 x4) (p2 x0 x1 x2 x3 x4) (p3 x0 x1 x2 x3 x4)) {C:Prop} (k:∀x0 x1 x2 x3 x4,p0 x0 x1 x2 x3 x4->p1 x0 x1 x2 x3 x4->p2 x0 x1 x2 x3 x4->p3 x0 x1 x2 x3 x4->C):C:=by obtain⟨x0,x1,x2,x3,x4,h0,h1,h2,h3⟩:=h;exact k x0 x1 x2 x3 x4 h0 h1 h2 h3
theorem yS {α1:Sort _} {α2:Sort _} {α3:Sort _} {α4:Sort _} {p0 p1 p2 p3 p4:α0->α1->α2->α3->α4->Prop} (h:E5 λx0 x1 x2 x3 x4=>A5 (p0 x0 x1 x2 x3 x4) (p1 x0 x1 x2 x3 x4) (p2 x0 x1 x2 x3 x4) (p3 x0 x1 x2 x3 x4) (p4 x0 x1 x2 x3 x4)) {C:Prop} (k:∀x0 x1 x2 x3 x4,p0 x0 x1 x2 x3 x4->p1 x0 x1 x2 x3 x4->p2 x0 x1 x2 x3 x4->p3 x0 x1 x2 x3 x4->p4 x0 x1 x2 x3 x4->C):C:=by obtain⟨x0,x1,x2,x3,x4,h0,h1,h2,h3,h4⟩:=h;exact k x0 x1 x2 x3 x4 h0 h1 h2 h3 h4
theorem uN {α1:Sort _} {α2:Sort _} {α3:Sort _} {α4:Sort _} {p0 p1 p2 p3 p4 p5:α0->α1->α2->α3->α4->Prop} (h:E5 λx0 x1 x2 x3 x4=>A6 (p0 x0 x1 x2 x3 x4) (p1 x0 x1 x2 x3 x4) (p2 x0 x1 x2 x3 x4) (p3 x0 x1 x2 x3 x4) (p4 x0 x1 x2 x3 x4) (p5 x0 x1 x2 x3 x4)) {C:Prop} (k:∀x0 x1 x2 x3 x4,p0 x0 x1 x2 x3 x4->p1 x0 x1 x2 x3 x4->p2 x0 x1 x2 x3 x4->p3 x0 x1 x2 x3 x4->p4 x0 x1 x2 x3 x4->p5 x0 x1 x2 x3 x4->C):C:=by obtain⟨x0,x1,x2,x3,x4,h0,h1,h2,h3,h4,h5⟩:=h;exact k x0 x1 x2 x3 x4 h0 h1 h2 h3 h4 h5
theorem yR {α1:Sort _} {α2:Sort _} {α3:Sort _} {α4:Sort _} {α5:Sort _} {α6:Sort _} {p0 p1 p2 p3 p4:α0->α1->α2->α3->α4->α5->α6->Prop} (h:E7 λx0 x1 x2 x3 x4 x5 x6=>p0 x0 x1 x2 x3 x4 x5 x6/\p1 x0 x1 x2 x3 x4 x5 x6/\p2 x0 x1 x2 x3 x4 x5 x6/\p3 x0 x1 x2 x3 x4 x5 x6/\p4 x0 x1 x2 x3 x4 x5 x6) {C:Prop} (k:∀x0 x1 x2 x3 x4 x5 x6,p0 x0 x1 x2 x3 x4 x5 x6->p1 x0 x1 x2 x3 x4 x5 x6->p2 x0 x1 x2 x3 x4 x5 x6->p3 x0 x1 x2 x3 x4 x5 x6->p4 x0 x1 x2 x3 x4 x5 x6->C):C:=by obtain⟨x0,x1,x2,x3,x4,x5,x6,h0,h1,h2,h3,h4⟩:=h;exact k x0 x1 x2 x3 x4 x5 x6 h0 h1 h2 h3 h4
theorem kN (h:p0/\p1) {C:Prop} (k:p0->p1->C):C:=by obtain⟨h0,h1⟩:=h;exact k h0 h1
theorem iP {p0 p1 p2:Prop} (h:p0/\p1/\p2) {C:Prop} (k:p0->p1->p2->C):C:=by obtain⟨h0,h1,h2⟩:=h;exact k h0 h1 h2
theorem jI {p0 p1 p2 p3:Prop} (h:p0/\p1/\p2/\p3) {C:Prop} (k:p0->p1->p2->p3->C):C:=by obtain⟨h0,h1,h2,h3⟩:=h;exact k h0 h1 h2 h3
theorem yQ {p0 p1 p2 p3 p4:Prop} (h:p0/\p1/\p2/\p3/\p4) {C:Prop} (k:p0->p1->p2->p3->p4->C):C:=by obtain⟨h0,h1,h2,h3,h4⟩:=h;exact k h0 h1 h2 h3 h4
theorem gQ {p0 p1 p2 p3 p4 p5:Prop} (h:p0/\p1/\p2/\p3/\p4/\p5) {C:Prop} (k:p0->p1->p2->p3->p4->p5->C):C:=by obtain⟨h0,h1,h2,h3,h4,h5⟩:=h;exact k h0 h1 h2 h3 h4 h5
theorem kX {p0:α0->Prop} (h:∃x0,p0 x0) {C:Prop} (k:∀x0,p0 x0->C):C:=by obtain⟨x0,h0⟩:=h;exact k x0 h0
theorem l3 {p0 p1 p2:α0->Prop} (h:∃x0,A3 (p0 x0) (p1 x0) (p2 x0)) {C:Prop} (k:∀x0,p0 x0->p1 x0->p2 x0->C):C:=by obtain⟨x0,h0,h1,h2⟩:=h;exact k x0 h0 h1 h2
theorem GM {p0 p1 p2 p3:α0->Prop} (h:∃x0,A4 (p0 x0) (p1 x0) (p2 x0) (p3 x0)) {C:Prop} (k:∀x0,p0 x0->p1 x0->p2 x0->p3 x0->C):C:=by obtain⟨x0,h0,h1,h2,h3⟩:=h;exact k x0 h0 h1 h2 h3
theorem aA {p0 p1:α0->Prop} (h:∃x0,p0 x0/\p1 x0) {C:Prop} (k:∀x0,p0 x0->p1 x0->C):C:=by obtain⟨x0,h0,h1⟩:=h;exact k x0 h0 h1
theorem gD {p0 p1 p2:α0->Prop} (h:∃x0,p0 x0/\p1 x0/\p2 x0) {C:Prop} (k:∀x0,p0 x0->p1 x0->p2 x0->C):C:=by obtain⟨x0,h0,h1,h2⟩:=h;exact k x0 h0 h1 h2
theorem fb {p0 p1 p2 p3:α0->Prop} (h:∃x0,p0 x0/\p1 x0/\p2 x0/\p3 x0) {C:Prop} (k:∀x0,p0 x0->p1 x0->p2 x0->p3 x0->C):C:=by obtain⟨x0,h0,h1,h2,h3⟩:=h;exact k x0 h0 h1 h2 h3
theorem xp {α1:Sort _} {α2:Sort _} {α3:Sort _} {α4:Sort _} {p0 p1 p2 p3 p4:α0->α1->α2->α3->α4->Prop} (h:∃x0,∃x1,∃x2,∃x3,∃x4,p0 x0 x1 x2 x3 x4/\p1 x0 x1 x2 x3 x4/\p2 x0 x1 x2 x3 x4/\p3 x0 x1 x2 x3 x4/\p4 x0 x1 x2 x3 x4) {C:Prop} (k:∀x0 x1 x2 x3 x4,p0 x0 x1 x2 x3 x4->p1 x0 x1 x2 x3 x4->p2 x0 x1 x2 x3 x4->p3 x0 x1 x2 x3 x4->p4 x0 x1 x2 x3 x4->C):C:=by obtain⟨x0,x1,x2,x3,x4,h0,h1,h2,h3,h4⟩:=h;exact k x0 x1 x2 x3 x4 h0 h1 h2 h3 h4
theorem oR {α1:Sort _} {α2:Sort _} {α3:Sort _} {α4:Sort _} {p0 p1 p2 p3 p4 p5 p6 p7 p8:α0->α1->α2->α3->α4->Prop} (h:∃x0,∃x1,∃x2,∃x3,∃x4,p0 x0 x1 x2 x3 x4/\p1 x0 x1 x2 x3 x4/\p2 x0 x1 x2 x3 x4/\p3 x0 x1 x2 x3 x4/\p4 x0 x1 x2 x3 x4/\p5 x0 x1 x2 x3 x4/\p6 x0 x1 x2 x3 x4/\p7 x0 x1 x2 x3 x4/\p8 x0 x1 x2 x3 x4) {C:Prop} (k:∀x0 x1 x2 x3 x4,p0 x0 x1 x2 x3 x4->p1 x0 x1 x2 x3 x4->p2 x0 x1 x2 x3 x4->p3 x0 x1 x2 x3 x4->p4 x0 x1 x2 x3 x4->p5 x0 x1 x2 x3 x4->p6 x0 x1 x2 x3 x4->p7 x0 x1 x2 x3 x4->p8 x0 x1 x2 x3 x4->C):C:=by obtain⟨x0,x1,x2,x3,x4,h0,h1,h2,h3,h4,h5,h6,h7,h8⟩:=h;exact k x0 x1 x2 x3 x4 h0 h1 h2 h3 h4 h5 h6 h7 h8
theorem GN {α1:Sort _} {p0:α0->α1->Prop} (h:E2 λx0 x1=>p0 x0 x1) {C:Prop} (k:∀x0 x1,p0 x0 x1->C):C:=by obtain⟨x0,x1,h0⟩:=h;exact k x0 x1 h0
theorem OO {α1:Sort _} {p0 p1 p2 p3 p4 p5 p6:α0->α1->Prop} (h:E2 λx0 x1=>A7 (p0 x0 x1) (p1 x0 x1) (p2 x0 x1) (p3 x0 x1) (p4 x0 x1) (p5 x0 x1) (p6 x0 x1)) {C:Prop} (k:∀x0 x1,p0 x0 x1->p1 x0 x1->p2 x0 x1->p3 x0 x1->p4 x0 x1->p5 x0 x1->p6 x0 x1->C):C:=by obtain⟨x0,x1,h0,h1,h2,h3,h4,h5,h6⟩:=h;exact k x0 x1 h0 h1 h2 h3 h4 h5 h6
theorem M1 {α1:Sort _} {α2:Sort _} {p0:α0->α1->α2->Prop} (h:E3 λx0 x1 x2=>p0 x0 x1 x2) {C:Prop} (k:∀x0 x1 x2,p0 x0 x1 x2->C):C:=by obtain⟨x0,x1,x2,h0⟩:=h;exact k x0 x1 x2 h0
theorem Ve {α1:Sort _} {α2:Sort _} {α3:Sort _} {α4:Sort _} {p0:α0->α1->α2->α3->α4->Prop} (h:E5 λx0 x1 x2 x3 x4=>p0 x0 x1 x2 x3 x4) {C:Prop} (k:∀x0 x1 x2 x3 x4,p0 x0 x1 x2 x3 x4->C):C:=by obtain⟨x0,x1,x2,x3,x4,h0⟩:=h;exact k x0 x1 x2 x3 x4 h0
theorem Jg {α1:Sort _} {α2:Sort _} {p0 p1:α0->α1->α2->Prop} (h:∃x0,∃x1,∃x2,p0 x0 x1 x2/\p1 x0 x1 x2) {C:Prop} (k:∀x0 x1 x2,p0 x0 x1 x2->p1 x0 x1 x2->C):C:=by obtain⟨x0,x1,x2,h0,h1⟩:=h;exact k x0 x1 x2 h0 h1
theorem xq {α1:Sort _} {α2:Sort _} {p0 p1 p2:α0->α1->α2->Prop} (h:∃x0,∃x1,∃x2,p0 x0 x1 x2/\p1 x0 x1 x2/\p2 x0 x1 x2) {C:Prop} (k:∀x0 x1 x2,p0 x0 x1 x2->p1 x0 x1 x2->p2 x0 x1 x2->C):C:=by obtain⟨x0,x1,x2,h0,h1,h2⟩:=h;exact k x0 x1 x2 h0 h1 h2
theorem lc {α1:Sort _} {α2:Sort _} {α3:Sort _} {α4:Sort _} {α5:Sort _} {α6:Sort _} {α7:Sort _} {α8:Sort _} {α9:Sort _} {α10:Sort _} {p0:α0->α1->α2->α3->α4->α5->α6->α7->α8->α9->α10->Prop} (h:∃x0,∃x1,∃x2,∃x3,∃x4,∃x5,∃x6,∃x7,∃x8,∃x9,∃x10,p0 x0 x1 x2 x3 x4 x5 x6 x7 x8 x9 x10) {C:Prop} (k:∀x0 x1 x2 x3 x4 x5 x6 x7 x8 x9 x10,p0 x0 x1 x2 x3 x4 x5 x6 x7 x8 x9 x10->C):C:=by obtain⟨x0,x1,x2,x3,x4,x5,x6,x7,x8,x9,x10,h0⟩:=h;exact k x0 x1 x2 x3 x4 x5 x6 x7 x8 x9 x10 h0
theorem hJ (d:α) (l:List α):l=(List.range l.length).map λi=>l.getD i d:=List.ext_getElem (by simp) λi h1 h2=>by simp[h1]
theorem hG {P:Prop} (h:∀C:Prop,(P->C)->C):P:=h P id
@[elab_as_elim] theorem aa {α:Sort _} {a b:α} {P:α->Prop} (h:a=b) (x:P b):P a:=h▸x
@[elab_as_elim] theorem bI {α:Sort _} {a b:α} {P:α->Prop} (h:a=b) (x:P a):P b:=h▸x
theorem ao {p:Prop} (h:false):p:=by cases h
theorem bd {x:α} {p:Prop} (h:none=some x):p:=by cases h
theorem wT {x:α} {p:Prop} (h:some x=none):p:=by cases h
theorem fE {α β:Type _} {a c:α} {b d:β} (h:some (a,b)=some (c,d)):a=c/\b=d:=by cases h;exact⟨rfl,rfl⟩
theorem jK {a c:α} (h:some a=some c):a=c:=by cases h;rfl
inductive Pz where |h |o (p:Pz) |e (p:Pz)
inductive Id where |d (p:Pz) |g (p:Pz)
abbrev Ts:=List (Nat×Int)
inductive V where
 |unset |none |bool (b:Bool) |int (c:Int) |lin (c:Int) (ts:Ts) |str (s:List Nat) |stab (T:List (List Nat)) (c:Int) (ts:Ts) |sat (i:Nat)
 |bytes (l:List V) |tup (l:List V) |ref (k:Id) |seg (i:Nat) (cut:Bool) |oreg (i:Nat)
inductive O where
 |list (l:List V) |inst (c:Nat) (fs:List (Nat×V)) |dict (es:List (V×V))
 |lit (k:Id) (i:Nat) |tit (l:List V) |rit (x:Int) (left:Nat) |bit (l:List V) |zit (a b:Id) |dead |rng (n:Nat)
inductive Tr where |nil |node (v:Option O) (l r:Tr)
inductive gA where |unb |iv (lo hi:Int) (ex:List Int)
set_option genCtorIdx false in
inductive vO where |fdiv (c:Int) (ts:Ts) (m:Int) |fmod (c:Int) (ts:Ts) (m:Int) |pow2 (c:Int) (ts:Ts)
structure Xt where
 ts:Id
 tab:List (Nat×List (Nat×List V))
 agr:List Id
 cells:List (Nat×V)
structure St where
 t:Tr
 n:Pz
 d:List gA
 mm:List (vO×Nat)
 g:Tr
 x:Xt
 fl:Tr
abbrev af:=Bool
abbrev K:=V->St->af
abbrev KE:=St->af
abbrev KB:=Bool->St->af
abbrev Vs:=List V
inductive Fl where |next |cont |ret (v:V)
noncomputable abbrev ah {α:Type} (b:Bool) (t e:α):α:=@Bool.rec (λ_=>α) e t b
noncomputable abbrev aw {α β:Type} (l:List α) (n:β) (c:α->List α->β):β:=@List.rec α (λ_=>β) n (λa r _=>c a r) l
noncomputable abbrev ag {α β:Type} (l:Option α) (n:β) (c:α->β):β:=@Option.rec α (λ_=>β) n c l
noncomputable abbrev i6 {β:Type} (l:Nat) (n:β) (c:Nat->β):β:=@Nat.rec (λ_=>β) n (λm _=>c m) l
noncomputable abbrev c0 {β:Type} (i:Int) (p:Nat->β) (n:Nat->β):β:=@Int.rec (λ_=>β) p n i
noncomputable def Pz.succ (p:Pz):Pz:=@Pz.rec (λ_=>Pz) (.e .h) (λ_ i=>.e i) (λp _=>.o p) p
noncomputable def KD (p:Pz):Pz->Bool:=@Pz.rec (λ_=>Pz->Bool) (λq=>@Pz.rec (λ_=>Bool) true (λ_ _=>false) (λ_ _=>false) q) (λ_ i q=>@Pz.rec (λ_=>Bool) false (λq _=>i q) (λ_ _=>false) q) (λ_ i q=>@Pz.rec (λ_=>Bool) false (λ_ _=>false) (λq _=>i q) q) p
noncomputable def Tr.get (t:Tr):Pz->Option O:=@Tr.rec (λ_=>Pz->Option O) (λ_=>none) (λv _ _ L R p=>@Pz.rec (λ_=>Option O) v (λp _=>L p) (λp _=>R p) p) t
noncomputable def Tr.set (x:O) (p:Pz):Tr->Tr:=@Pz.rec (λ_=>Tr->Tr)
 (λt=>@Tr.rec (λ_=>Tr) (.node (some x) .nil .nil) (λ_ l r _ _=>.node (some x) l r) t)
 (λ_ i t=>@Tr.rec (λ_=>Tr) (.node none (i .nil) .nil) (λv l r _ _=>.node v (i l) r) t)
 (λ_ i t=>@Tr.rec (λ_=>Tr) (.node none .nil (i .nil)) (λv l r _ _=>.node v l (i r)) t) p
noncomputable abbrev eu {α:Type} (i:Id) (d g:Pz->α):α:=@Id.rec (λ_=>α) d g i
noncomputable abbrev bx {α:Type} (x:V) (d:α) (fno:α) (fbo:Bool->α) (fin:Int->Ts->α) (fst:List Nat->α) (ftb:List (List Nat)->Int->Ts->α) (fsa:Nat->α) (fby:List V->α) (ftp:List V->α) (frf:Id->α) (fsg:Nat->Bool->α) (for_:Nat->α):α:=
 @V.rec (λ_=>α) (λ_=>PUnit) d fno fbo (λc=>fin c []) fin fst ftb fsa (λl _=>fby l) (λl _=>ftp l) frf fsg for_ ⟨⟩ (λ_ _ _ _=>⟨⟩) x
noncomputable abbrev oc (x:O) (fli:List V->Bool) (fin:Nat->List (Nat×V)->Bool) (fdi:List (V×V)->Bool) (flt:Id->Nat->Bool) (ftt:List V->Bool) (frt:Int->Nat->Bool) (fbt:List V->Bool) (fzt:Id->Id->Bool):Bool:=
 @O.rec (λ_=>Bool) fli fin fdi flt ftt frt fbt fzt false (λ_=>false) x
noncomputable abbrev IL (x:O) (f:Nat->Bool) (d:O->Bool):Bool:=@O.rec (λ_=>Bool) (λl=>d (.list l)) (λc fs=>d (.inst c fs)) (λes=>d (.dict es)) (λk i=>d (.lit k i)) (λl=>d (.tit l)) (λa n=>d (.rit a n)) (λl=>d (.bit l)) (λa b=>d (.zit a b)) false f x
noncomputable abbrev jQ {α:Type} (x:gA) (u:α) (f:Int->Int->List Int->α):α:=@gA.rec (λ_=>α) u f x
noncomputable abbrev ph {α:Type} (x:Fl) (n:α) (c:α) (r:V->α):α:=@Fl.rec (λ_=>α) n c r x
noncomputable abbrev bu {α:Type} {β:Type} (n:β) (c:α->List α->β->β) (l:List α):β:=@List.rec α (λ_=>β) n c l
noncomputable abbrev mN {β:Type} (z:β) (s:Nat->β->β) (n:Nat):β:=@Nat.rec (λ_=>β) z s n
noncomputable abbrev Fd {α:Type} (x:St) (f:Tr->Pz->List gA->List (vO×Nat)->Tr->Xt->Tr->α):α:=@St.rec (λ_=>α) f x
noncomputable abbrev yO {α:Type} (x:vO) (a:Int->Ts->Int->α) (b:Int->Ts->Int->α) (c:Int->Ts->α):α:=@vO.rec (λ_=>α) a b c x
set_option genCtorIdx false in
inductive Tg where |n (i:Nat) |t (is:List Nat)
noncomputable abbrev Ix {α:Type} (x:Tg) (a:Nat->α) (b:List Nat->α):α:=@Tg.rec (λ_=>α) a b x
def zC (F:V->Bool) (C:V->Prop):Prop:=F .unset->C .unset
@[elab_as_elim] theorem gP {α:Type _} {a c:α} {C:α->Prop} (h:some a=some c) (k:C a):C c:=jK h▸k
@[elab_as_elim] theorem FQ {α:Type _} {a c:α} {C:α->Prop} (h:some a=some c) (k:C c):C a:=jK h▸k
@[elab_as_elim] theorem Gc {α β:Type _} {a c:α} {b d:β} {C:α->β->Prop} (h:some (a,b)=some (c,d)) (k:C a b):C c d:=(fE h).1▸(fE h).2▸k
@[elab_as_elim] theorem ug {α β:Type _} {a c:α} {b d:β} {C:α->β->Prop} (h:some (a,b)=some (c,d)) (k:C c d):C a b:=(fE h).1▸(fE h).2▸k
theorem Nl (hh:F .unset=false:=by exact@rfl Bool false):zC F C:=λy=>ao (hh▸y)
def EN (F:V->Bool) (C:V->Prop):Prop:=F .none->C .none
theorem QT (hh:F .none=false:=by exact@rfl Bool false):EN F C:=λy=>ao (hh▸y)
def EO (F:V->Bool) (C:V->Prop):Prop:=∀(b:Bool),F (.bool b)->C (.bool b)
theorem Ql (hh:∀(b:Bool),F (.bool b)=false:=by exactλ_=>@rfl Bool false):EO F C:=λb y=>ao (hh b▸y)
def JF (F:V->Bool) (C:V->Prop):Prop:=∀(c:Int),F (.int c)->C (.int c)
theorem Qk (hh:∀(c:Int),F (.int c)=false:=by exactλ_=>@rfl Bool false):JF F C:=λc y=>ao (hh c▸y)
def JE (F:V->Bool) (C:V->Prop):Prop:=∀(c:Int) (ts:Ts),F (.lin c ts)->C (.lin c ts)
theorem Qj (hh:∀(c:Int) (ts:Ts),F (.lin c ts)=false:=by exactλ_ _=>@rfl Bool false):JE F C:=λc ts y=>ao (hh c ts▸y)
def JA (F:V->Bool) (C:V->Prop):Prop:=∀(s:List Nat),F (.str s)->C (.str s)
theorem Tt (hh:∀(s:List Nat),F (.str s)=false:=by exactλ_=>@rfl Bool false):JA F C:=λs y=>ao (hh s▸y)
def EL (F:V->Bool) (C:V->Prop):Prop:=∀(B:List (List Nat)) (c:Int) (ts:Ts),F (.stab B c ts)->C (.stab B c ts)
theorem Nk (hh:∀(B:List (List Nat)) (c:Int) (ts:Ts),F (.stab B c ts)=false:=by exactλ_ _ _=>@rfl Bool false):EL F C:=λB c ts y=>ao (hh B c ts▸y)
def JC (F:V->Bool) (C:V->Prop):Prop:=∀(i:Nat),F (.sat i)->C (.sat i)
theorem Nj (hh:∀(i:Nat),F (.sat i)=false:=by exactλ_=>@rfl Bool false):JC F C:=λi y=>ao (hh i▸y)
def zD (F:V->Bool) (C:V->Prop):Prop:=∀(l:List V),F (.bytes l)->C (.bytes l)
theorem Ni (hh:∀(l:List V),F (.bytes l)=false:=by exactλ_=>@rfl Bool false):zD F C:=λl y=>ao (hh l▸y)
def Jz (F:V->Bool) (C:V->Prop):Prop:=∀(l:List V),F (.tup l)->C (.tup l)
theorem QS (hh:∀(l:List V),F (.tup l)=false:=by exactλ_=>@rfl Bool false):Jz F C:=λl y=>ao (hh l▸y)
def JD (F:V->Bool) (C:V->Prop):Prop:=∀(k:Id),F (.ref k)->C (.ref k)
theorem BB (hh:∀(k:Id),F (.ref k)=false:=by exactλ_=>@rfl Bool false):JD F C:=λk y=>ao (hh k▸y)
def JB (F:V->Bool) (C:V->Prop):Prop:=∀(i:Nat) (cut:Bool),F (.seg i cut)->C (.seg i cut)
theorem BA (hh:∀(i:Nat) (cut:Bool),F (.seg i cut)=false:=by exactλ_ _=>@rfl Bool false):JB F C:=λi cut y=>ao (hh i cut▸y)
def EM (F:V->Bool) (C:V->Prop):Prop:=∀(i:Nat),F (.oreg i)->C (.oreg i)
theorem Bz (hh:∀(i:Nat),F (.oreg i)=false:=by exactλ_=>@rfl Bool false):EM F C:=λi y=>ao (hh i▸y)
@[elab_as_elim] theorem V.sel {F:V->Bool} {C:V->Prop} (v:V) (y:F v) (unset:zC F C) (none:EN F C) (bool:EO F C) (int:JF F C) (lin:JE F C) (str:JA F C) (stab:EL F C) (sat:JC F C) (bytes:zD F C) (tup:Jz F C) (ref:JD F C) (seg:JB F C) (oreg:EM F C):C v:=by
 cases v with
 |unset=>exact unset y
 |none=>exact none y
 |bool b=>exact bool b y
 |int c=>exact int c y
 |lin c ts=>exact lin c ts y
 |str s=>exact str s y
 |stab B c ts=>exact stab B c ts y
 |sat i=>exact sat i y
 |bytes l=>exact bytes l y
 |tup l=>exact tup l y
 |ref k=>exact ref k y
 |seg i cut=>exact seg i cut y
 |oreg i=>exact oreg i y
def EV (F:O->Bool) (C:O->Prop):Prop:=∀(l:List V),F (.list l)->C (.list l)
theorem RP (hh:∀(l:List V),F (.list l)=false:=by exactλ_=>@rfl Bool false):EV F C:=λl y=>ao (hh l▸y)
def EW (F:O->Bool) (C:O->Prop):Prop:=∀(c:Nat) (fs:List (Nat×V)),F (.inst c fs)->C (.inst c fs)
theorem Qr (hh:∀(c:Nat) (fs:List (Nat×V)),F (.inst c fs)=false:=by exactλ_ _=>@rfl Bool false):EW F C:=λc fs y=>ao (hh c fs▸y)
def EX (F:O->Bool) (C:O->Prop):Prop:=∀(es:List (V×V)),F (.dict es)->C (.dict es)
theorem RO (hh:∀(es:List (V×V)),F (.dict es)=false:=by exactλ_=>@rfl Bool false):EX F C:=λes y=>ao (hh es▸y)
def JR (F:O->Bool) (C:O->Prop):Prop:=∀(k:Id) (i:Nat),F (.lit k i)->C (.lit k i)
theorem Qq (hh:∀(k:Id) (i:Nat),F (.lit k i)=false:=by exactλ_ _=>@rfl Bool false):JR F C:=λk i y=>ao (hh k i▸y)
def JO (F:O->Bool) (C:O->Prop):Prop:=∀(l:List V),F (.tit l)->C (.tit l)
theorem RN (hh:∀(l:List V),F (.tit l)=false:=by exactλ_=>@rfl Bool false):JO F C:=λl y=>ao (hh l▸y)
def JQ (F:O->Bool) (C:O->Prop):Prop:=∀(x:Int) (left:Nat),F (.rit x left)->C (.rit x left)
theorem Qp (hh:∀(x:Int) (left:Nat),F (.rit x left)=false:=by exactλ_ _=>@rfl Bool false):JQ F C:=λx left y=>ao (hh x left▸y)
def JS (F:O->Bool) (C:O->Prop):Prop:=∀(l:List V),F (.bit l)->C (.bit l)
theorem Qo (hh:∀(l:List V),F (.bit l)=false:=by exactλ_=>@rfl Bool false):JS F C:=λl y=>ao (hh l▸y)
def JN (F:O->Bool) (C:O->Prop):Prop:=∀(a b:Id),F (.zit a b)->C (.zit a b)
theorem NS (hh:∀(a b:Id),F (.zit a b)=false:=by exactλ_ _=>@rfl Bool false):JN F C:=λa b y=>ao (hh a b▸y)
def EY (F:O->Bool) (C:O->Prop):Prop:=F .dead->C .dead
theorem NR (hh:F .dead=false:=by exact@rfl Bool false):EY F C:=λy=>ao (hh▸y)
def JP (F:O->Bool) (C:O->Prop):Prop:=∀(n:Nat),F (.rng n)->C (.rng n)
theorem NQ (hh:∀(n:Nat),F (.rng n)=false:=by exactλ_=>@rfl Bool false):JP F C:=λn y=>ao (hh n▸y)
@[elab_as_elim] theorem O.sel {F:O->Bool} {C:O->Prop} (v:O) (y:F v) (list:EV F C) (inst:EW F C) (dict:EX F C) (lit:JR F C) (tit:JO F C) (rit:JQ F C) (bit:JS F C) (zit:JN F C) (dead:EY F C) (rng:JP F C):C v:=by
 cases v with
 |list l=>exact list l y
 |inst c fs=>exact inst c fs y
 |dict es=>exact dict es y
 |lit k i=>exact lit k i y
 |tit l=>exact tit l y
 |rit x left=>exact rit x left y
 |bit l=>exact bit l y
 |zit a b=>exact zit a b y
 |dead=>exact dead y
 |rng n=>exact rng n y
@[elab_as_elim] theorem L.sel {α:Type _} {F:List α->Bool} {C:List α->Prop} (l:List α) (y:F l) (d:F []=false) (c:∀a r,F (a::r)->C (a::r)):C l:=by
 cases l with
 |nil=>exact ao (d▸y)
 |cons a r=>exact c a r y
theorem Qu {o:Option α} {f:α->Bool} (y:ag o false f=true) {C:Prop} (k:∀a,f a->o=some a->C):C:=by
 cases o with
 |none=>exact ao y
 |some a=>exact k a y rfl
noncomputable def cy (a b:Int):Int:=c0 a (λm=>c0 b (λn=>.ofNat (Nat.add m n)) (λ_=>Int.add a b)) (λ_=>Int.add a b)
noncomputable def lj (a b:Int):Int:=c0 a (λm=>c0 b (λn=>.ofNat (Nat.mul m n)) (λ_=>Int.mul a b)) (λ_=>Int.mul a b)
noncomputable def Ay (a:Int):Int:=Int.neg a
noncomputable def d6 (a b:Int):Int:=cy a (Ay b)
noncomputable def ed (a b:Int):Int:=c0 a (λm=>c0 b (λn=>.ofNat (Nat.div m n)) (λ_=>Int.fdiv a b)) (λ_=>Int.fdiv a b)
noncomputable def fq (a b:Int):Int:=c0 a (λm=>c0 b (λn=>.ofNat (Nat.mod m n)) (λ_=>Int.fmod a b)) (λ_=>Int.fmod a b)
noncomputable def gW (a b:Int):Bool:=c0 a (λm=>c0 b (λn=>Nat.ble m n) (λ_=>false)) (λm=>c0 b (λ_=>true) (λn=>Nat.ble n m))
noncomputable def eH (a b:Int):Bool:=c0 a (λm=>c0 b (λn=>Nat.beq m n) (λ_=>false)) (λm=>c0 b (λ_=>false) (λn=>Nat.beq m n))
noncomputable def rk (a b:Int):Bool:=ah (gW b a) false true
noncomputable def C8 (a b:Int):Int:=ah (gW a b) a b
noncomputable def GZ (a b:Int):Int:=ah (gW a b) b a
noncomputable def fK (a:Int):Nat:=c0 a (λm=>m) (λ_=>0)
noncomputable def C9 (a:Int):Nat:=c0 a (λm=>m) (λm=>Nat.succ m)
noncomputable def iZ:Int:=.ofNat 0
noncomputable def bt:Int:=.ofNat 1
noncomputable def gJ:Int:=.negSucc 0
noncomputable def ji (b:Bool):Bool:=ah b false true
noncomputable def c5 (a b:Bool):Bool:=ah a b false
noncomputable def to (a b:Bool):Bool:=ah a true b
noncomputable def cq (a b:List α):List α:=bu b (λx _ i=>x::i) a
noncomputable def aP (f:α->β) (a:List α):List β:=bu [] (λx _ i=>f x::i) a
noncomputable def bj (f:α->Bool) (a:List α):Bool:=bu true (λx _ i=>ah (f x) i false) a
noncomputable def sG (f:α->Bool) (a:List α):Bool:=bu false (λx _ i=>ah (f x) true i) a
noncomputable def dL (a:List α):Nat:=bu 0 (λ_ _ i=>Nat.succ i) a
noncomputable def cL (a:List α):Bool:=aw a true (λ_ _=>false)
noncomputable def lY (a:List α):Nat->Option α:=bu (λ_=>none) (λx _ i n=>i6 n (some x) i) a
noncomputable def uJ (a:List α):Nat->List α:=bu (λ_=>[]) (λx r i n=>i6 n (x::r) i) a
noncomputable def oM (a:List α):Nat->List α:=bu (λ_=>[]) (λx _ i n=>i6 n [] (λm=>x::i m)) a
noncomputable def sD (y:α) (a:List α):Nat->List α:=bu (λ_=>[]) (λx r i n=>i6 n (y::r) (λm=>x::i m)) a
noncomputable def sF (f:α->Bool) (a:List α):List α:=bu [] (λx _ i=>ah (f x) (x::i) i) a
noncomputable def uD (x:α) (n:Nat):List α:=mN [] (λ_ i=>x::i) n
noncomputable def jH (a:List Nat):List Nat->Bool:=bu (λb=>cL b) (λx _ i b=>aw b false (λy r=>ah (Nat.beq x y) (i r) false)) a
noncomputable def GC (a:List (List Nat)):List (List Nat)->Bool:=bu (λb=>cL b) (λx _ i b=>aw b false (λy r=>ah (jH x y) (i r) false)) a
noncomputable def qf (a:Ts):Ts->Bool:=bu (λb=>cL b) (λx _ i b=>aw b false (λy r=>ah (Nat.beq x.1 y.1) (ah (eH x.2 y.2) (i r) false) false)) a
noncomputable def P9 (v:Nat) (x:Int) (rec:Ts->Ts) (q:Nat×Int) (b':Ts) (i:Ts):Ts:=
 ah (Nat.blt v q.1) ((v,x)::rec (q::b')) (ah (Nat.blt q.1 v) (q::i) (ah (eH (cy x q.2) iZ) (rec b') ((v,cy x q.2)::rec b')))
noncomputable def vJ (v:Nat) (x:Int) (a:Ts) (rec:Ts->Ts) (b:Ts):Ts:=bu ((v,x)::a) (P9 v x rec) b
noncomputable def fS (a:Ts):Ts->Ts:=bu (λb=>b) (λp a' i b=>vJ p.1 p.2 a' i b) a
noncomputable def fG (m:Int) (a:Ts):Ts:=ah (eH m iZ) [] (aP (λp=>(p.1,lj p.2 m)) a)
noncomputable def mk (c:Int) (ts:Ts):V:=aw ts (V.int c) (λ_ _=>V.lin c ts)
noncomputable def bK (d:List gA) (v:Nat):gA:=ag (lY d v) .unb (λx=>x)
abbrev KL:=Int->Int->af
abbrev KT:=Int->Ts->af
abbrev Th:=Unit->af
noncomputable def no:Th:=λ_=>false
noncomputable def ML (a:Int) (i:Int->Int->KL->Th->af) (l h:Int) (k:KL) (u:Th) (lo hi:Int) (_:List Int):af:=ah (gW iZ a) (i (cy l (lj a lo)) (cy h (lj a hi)) k u) (i (cy l (lj a hi)) (cy h (lj a lo)) k u)
noncomputable def ny (d:List gA) (ts:Ts):Int->Int->KL->Th->af:=bu (λl h k _=>k l h) (λp _ i l h k u=>jQ (bK d p.1) (u ()) (ML p.2 i l h k u)) ts
noncomputable def IO (p:Nat×Int) (i:Int->Ts->KT->af) (c:Int) (acc:Ts) (k:KT) (l h:Int) (_:List Int):af:=ah (eH l h) (i (cy c (lj p.2 l)) acc k) (i c (cq acc [p]) k)
noncomputable def Ag (d:List gA) (ts:Ts):Int->Ts->KT->af:=bu (λc acc k=>k c acc) (λp _ i c acc k=>jQ (bK d p.1) (i c (cq acc [p]) k) (IO p i c acc k)) ts
noncomputable def De (x:Int) (l:List Int):Bool:=sG (eH x) l
noncomputable def Ck (fuel:Nat):Int->Int->List Int->KL->af:=mN (λlo hi _ k=>k lo hi) (λ_ i lo hi ex k=>ah (cL ex) (k lo hi) (ah (gW lo hi) (ah (De lo ex) (i (cy lo bt) hi ex k) (ah (De hi ex) (i lo (cy hi gJ) ex k) (k lo hi))) (k lo hi))) fuel
noncomputable def NO (st:St) (v:Nat) (x:gA) (k:St->af):af:=Fd st λt n d mm g e f=>k ⟨t,n,sD x d v,mm,g,e,f⟩
noncomputable def Q8 (st:St) (v:Nat) (ex:List Int) (k:St->af) (lo hi:Int):af:=ah (gW lo hi) (NO st v (.iv lo hi ex) k) true
noncomputable def refine(st:St) (v:Nat) (lo hi:Int) (ex:List Int) (k:St->af):af:=Ck 20 lo hi ex (Q8 st v ex k)
noncomputable def PE (ts:Ts):Nat->Nat->(Nat->af)->af:=bu (λv _ k=>k v) (λp _ i v a k=>ah (Nat.ble a (C9 p.2)) (i p.1 (C9 p.2) k) (i v a k)) ts
noncomputable def mi (ts:Ts):Bool:=bj (λp=>eH p.2 bt) ts
noncomputable def ND (bound lo:Int) (v:Nat) (i:St->(St->af)->af) (st:St) (k:St->af) (l h:Int) (ex:List Int):af:=refine st v l (C8 h (d6 bound (d6 lo l))) ex λst=>i st k
noncomputable def j6 (bound lo:Int) (ts:Ts):St->(St->af)->af:=bu (λst k=>k st) (λp _ i st k=>jQ (bK st.d p.1) false (ND bound lo p.1 i st k)) ts
noncomputable def Jl (st:St) (k:St->af) (v:Nat) (l h:Int) (ex:List Int):af:=c5 (refine st v l (ed (cy l h) (.ofNat 2)) ex k) (refine st v (cy (ed (cy l h) (.ofNat 2)) bt) h ex k)
noncomputable def Dg (st:St) (ts:Ts) (k:St->af):af:=PE ts 0 0 λv=>jQ (bK st.d v) false (Jl st k v)
abbrev Fj:=Int->Ts->St->KB->af
noncomputable def Vu (st:St) (k:KB) (v:Nat) (l h:Int) (ex:List Int) (t:Int):af:=c5 (refine st v (GZ l t) h ex (k true)) (refine st v l (C8 h (cy t gJ)) ex (k false))
noncomputable def Vv (st:St) (k:KB) (v:Nat) (l h:Int) (ex:List Int) (t:Int):af:=c5 (refine st v l (C8 h t) ex (k true)) (refine st v (GZ l (cy t bt)) h ex (k false))
noncomputable def Vt (st:St) (k:KB) (c:Int) (p:Nat×Int) (l h:Int) (ex:List Int):af:=ah (rk iZ p.2) (Vu st k p.1 l h ex (Ay (ed c p.2))) (ah (rk p.2 iZ) (Vv st k p.1 l h ex (ed c (Ay p.2))) false)
noncomputable def Vw (rec:Fj) (st:St) (k:KB) (c:Int) (ts:Ts) (lo:Int):af:=ah (mi ts) (c5 (k true st) (j6 (d6 gJ c) (d6 lo c) ts st (k false))) (Dg st ts λst=>rec c ts st k)
noncomputable def Up (rec:Fj) (st:St) (k:KB) (c:Int) (ts:Ts) (p:Nat×Int) (r:Ts) (lo hi:Int):af:=ah (gW iZ lo) (k true st) (ah (rk hi iZ) (k false st) (aw r (jQ (bK st.d p.1) false (Vt st k c p)) λ_ _=>Vw rec st k c ts lo))
noncomputable def Uq (rec:Fj) (st:St) (k:KB) (c:Int) (ts:Ts):af:=aw ts (k (gW iZ c) st) λp r=>ny st.d ts c c (Up rec st k c ts p r) no
noncomputable def sY (fuel:Nat):Fj:=mN (λ_ _ _ _=>false) (λ_ rec c ts st k=>Ag st.d ts c [] (Uq rec st k)) fuel
noncomputable def Fu:Nat:=12
noncomputable def AR:Fj:=λc ts st k=>aw ts (k (gW iZ c) st) λ_ _=>sY Fu c ts st k
noncomputable def Vy (st:St) (k:KB) (v:Nat) (l h:Int) (ex:List Int) (t:Int):af:=ah (to (rk t l) (to (rk h t) (De t ex))) (k false st) (c5 (refine st v t t ex (k true)) (refine st v l h (t::ex) (k false)))
noncomputable def Vz (st:St) (k:KB) (c:Int) (p:Nat×Int) (l h:Int) (ex:List Int):af:=ah (eH p.2 iZ) false (ah (eH (fq c p.2) iZ) (Vy st k p.1 l h ex (Ay (ed c p.2))) (k false st))
noncomputable def VA (rec:Fj) (st:St) (k:KB) (c:Int) (ts:Ts) (p:Nat×Int) (r:Ts) (lo hi:Int):af:=ah (to (rk iZ lo) (rk hi iZ)) (k false st) (aw r (jQ (bK st.d p.1) false (Vz st k c p)) λ_ _=>Dg st ts λst=>rec c ts st k)
noncomputable def Ur (rec:Fj) (st:St) (k:KB) (c:Int) (ts:Ts):af:=aw ts (k (eH iZ c) st) λp r=>ny st.d ts c c (VA rec st k c ts p r) no
noncomputable def xL (fuel:Nat):Fj:=mN (λ_ _ _ _=>false) (λ_ rec c ts st k=>Ag st.d ts c [] (Ur rec st k)) fuel
noncomputable def HQ:Fj:=λc ts st k=>aw ts (k (eH iZ c) st) λ_ _=>xL Fu c ts st k
noncomputable def UF (k:Int->af) (u:Th) (lo hi:Int):af:=ah (eH lo hi) (k lo) (u ())
noncomputable def iM (st:St) (c:Int) (ts:Ts) (k:Int->af) (u:Th):af:=aw ts (k c) λ_ _=>ny st.d ts c c (UF k u) u
noncomputable def ON (c:Int) (ts:Ts) (m:Int) (c':Int) (ts':Ts) (m':Int):Bool:=ah (eH c c') (ah (eH m m') (qf ts ts') false) false
noncomputable def QE (a b:vO):Bool:=yO a (λc ts m=>yO b (ON c ts m) (λ_ _ _=>false) (λ_ _=>false)) (λc ts m=>yO b (λ_ _ _=>false) (ON c ts m) (λ_ _=>false))
 (λc ts=>yO b (λ_ _ _=>false) (λ_ _ _=>false) (λc' ts'=>ah (eH c c') (qf ts ts') false))
noncomputable def uB (mm:List (vO×Nat)) (key:vO):Option Nat:=bu none (λp _ i=>ah (QE p.1 key) (some p.2) i) mm
noncomputable def DA (st:St) (key:vO) (d:gA) (k:Nat->St->af) (n:Nat):af:=Fd st λt m dd mm g e f=>k n ⟨t,m,cq dd [d],(key,n)::mm,g,e,f⟩
noncomputable def mF (st:St) (key:vO) (d:gA) (k:Nat->St->af):af:=ag (uB st.mm key) (DA st key d k (dL st.d)) (λv=>k v st)
noncomputable def lP (m:Int) (ts:Ts):Ts->Ts->(Ts->Ts->af)->af:=bu (λq s k=>k q s) (λp _ i q s k=>ah (eH (fq p.2 m) iZ) (i (cq q [(p.1,ed p.2 m)]) s k) (i q (cq s [p]) k)) ts
noncomputable def Mu (k:K) (qc:Int) (q:Ts) (v:Nat) (st:St):af:=k (mk qc (fS q [(v,bt)])) st
noncomputable def S7 (k:K) (qc:Int) (q:Ts) (a b:Int) (t:Bool) (st:St):af:=k (mk (cy qc (ah t b a)) q) st
noncomputable def PF (m:Int) (st:St) (k:K) (qc rc:Int) (q r:Ts) (a b:Int):af:=ah (eH a b) (k (mk (cy qc a) q) st) (ah (eH b (cy a bt)) (AR (d6 rc (lj m b)) r st (S7 k qc q a b)) (mF st (.fdiv rc r m) (.iv a b []) (Mu k qc q)))
noncomputable def S8 (m:Int) (st:St) (k:K) (qc rc:Int) (q r:Ts) (lo hi:Int):af:=PF m st k qc rc q r (ed lo m) (ed hi m)
noncomputable def S5 (m:Int) (st:St) (k:K) (qc rc:Int) (q r:Ts):Th:=λ_=>mF st (.fdiv rc r m) .unb (Mu k qc q)
noncomputable def S9 (m:Int) (st:St) (k:K) (qc rc:Int) (q r:Ts):af:=ny st.d r rc rc (S8 m st k qc rc q r) (S5 m st k qc rc q r)
noncomputable def LK (c:Int) (ts:Ts) (m:Int) (st:St) (k:K):af:=ah (gW m iZ) false (aw ts (k (.int (ed c m)) st) λ_ _=>lP m ts [] [] (S9 m st k (ed c m) (fq c m)))
noncomputable def Gy (k:K) (v:Nat) (st:St):af:=k (.lin iZ [(v,bt)]) st
noncomputable def RZ (k:K) (m rc:Int) (r:Ts) (a b:Int) (t:Bool) (st:St):af:=k (mk (d6 rc (lj m (ah t b a))) r) st
noncomputable def N3 (m:Int) (st:St) (k:K) (rc:Int) (r:Ts):Th:=λ_=>mF st (.fmod rc r m) (.iv iZ (cy m gJ) []) (Gy k)
noncomputable def N4 (m:Int) (st:St) (k:K) (rc:Int) (r:Ts) (a b:Int):af:=ah (eH a b) (k (mk (d6 rc (lj m a)) r) st) (ah (eH b (cy a bt)) (AR (d6 rc (lj m b)) r st (RZ k m rc r a b)) (N3 m st k rc r ()))
noncomputable def R3 (m:Int) (st:St) (k:K) (rc:Int) (r:Ts) (lo hi:Int):af:=N4 m st k rc r (ed lo m) (ed hi m)
noncomputable def R4 (m:Int) (st:St) (k:K) (rc:Int) (_ r:Ts):af:=ny st.d r rc rc (R3 m st k rc r) (N3 m st k rc r)
noncomputable def LJ (c:Int) (ts:Ts) (m:Int) (st:St) (k:K):af:=ah (gW m iZ) false (aw ts (k (.int (fq c m)) st) λ_ _=>lP m ts [] [] (R4 m st k (fq c m)))
noncomputable def p2 (n:Nat):Int:=.ofNat (Nat.pow 2 n)
noncomputable def NP (c:Int) (ts:Ts) (st:St) (k:K) (lo hi:Int):af:=ah (gW iZ lo) (ah (eH lo hi) (k (.int (p2 (fK lo))) st) (mF st (.pow2 c ts) (.iv (p2 (fK lo)) (p2 (fK hi)) []) (Gy k))) false
noncomputable def pow2 (c:Int) (ts:Ts) (st:St) (k:K):af:=aw ts (ah (gW iZ c) (k (.int (p2 (fK c))) st) false) λ_ _=>ny st.d ts c c (NP c ts st k) no
noncomputable def OU (fuel:Nat):Nat->Bool:=mN (λ_=>false) (λ_ i n=>ah (Nat.beq n 1) true (ah (Nat.beq (Nat.mod n 2) 0) (i (Nat.div n 2)) false)) fuel
noncomputable def szOk (l:List α):Bool:=Nat.ble (dL l) 4000
noncomputable def cF (x:V) (k:KT):af:=bx x false false (λ_=>false) k (λ_=>false) (λ_ _ _=>false) (λ_=>false) (λ_=>false) (λ_=>false) (λ_=>false) (λ_ _=>false) (λ_=>false)
noncomputable def dY (x:V) (k:Id->af):af:=bx x false false (λ_=>false) (λ_ _=>false) (λ_=>false) (λ_ _ _=>false) (λ_=>false) (λ_=>false) (λ_=>false) k (λ_ _=>false) (λ_=>false)
noncomputable def eO (x:V) (k:List Nat->af):af:=bx x false false (λ_=>false) (λ_ _=>false) k (λ_ _ _=>false) (λ_=>false) (λ_=>false) (λ_=>false) (λ_=>false) (λ_ _=>false) (λ_=>false)
noncomputable def dJ (x:V):Bool:=bx x false false (λ_=>false) (λ_ _=>false) (λ_=>false) (λ_ _ _=>false) (λ_=>false) (λ_=>false) (λ_=>false) (λ_=>false) (λ_ _=>true) (λ_=>false)
noncomputable def Be (x:V):Bool:=bx x false true (λ_=>true) (λ_ _=>true) (λ_=>true) (λ_ _ _=>true) (λ_=>true) (λ_=>true) (λ_=>true) (λ_=>true) (λ_ _=>false) (λ_=>true)
noncomputable def et (x:V):Bool:=bx x false true (λ_=>false) (λ_ _=>false) (λ_=>false) (λ_ _ _=>false) (λ_=>false) (λ_=>false) (λ_=>false) (λ_=>false) (λ_ _=>false) (λ_=>false)
noncomputable def Jj (v:V):Bool:=bx v false false (λ_=>false) (λ_ ts=>ji (cL ts)) (λ_=>false) (λ_ _ _=>false) (λ_=>false) (λ_=>false) (λ_=>false) (λ_=>false) (λ_ _=>false) (λ_=>false)
noncomputable def bF (l:List V):Bool:=sG dJ l
noncomputable def dj (i:Id) (st:St):Option O:=eu i st.t.get st.g.get
noncomputable def obj (i:Id) (st:St) (k:O->af):af:=ag (dj i st) false k
noncomputable def bJ (o:O) (k:List V->af):af:=oc o k (λ_ _=>false) (λ_=>false) (λ_ _=>false) (λ_=>false) (λ_ _=>false) (λ_=>false) (λ_ _=>false)
noncomputable def Ci (o:O) (k:Nat->List (Nat×V)->af):af:=oc o (λ_=>false) k (λ_=>false) (λ_ _=>false) (λ_=>false) (λ_ _=>false) (λ_=>false) (λ_ _=>false)
noncomputable def nZ (o:O) (k:List (V×V)->af):af:=oc o (λ_=>false) (λ_ _=>false) k (λ_ _=>false) (λ_=>false) (λ_ _=>false) (λ_=>false) (λ_ _=>false)
noncomputable def RH (st:St) (o:O) (k:St->af) (p:Pz):af:=Fd st λt n d mm g e f=>ag (f.get p) (k ⟨Tr.set o p t,n,d,mm,g,e,f⟩) (λ_=>false)
noncomputable def put (st:St) (i:Id) (o:O) (k:St->af):af:=eu i (RH st o k) (λ_=>false)
noncomputable def dC (o:O) (st:St) (k:Id->St->af):af:=Fd st λt n d mm g e f=>k (.d n) ⟨Tr.set o n t,n.succ,d,mm,g,e,f⟩
noncomputable def newList (l:List V) (st:St) (k:K):af:=ah (szOk l) (dC (.list l) st λp st=>k (.ref p) st) false
noncomputable def iz (l:List V) (st:St) (k:K):af:=ah (szOk l) (k (.tup l) st) false
noncomputable def iH (v:V) (k:List V->af) (d:Th):af:=bx v (d ()) (d ()) (λ_=>d ()) (λ_ _=>d ()) (λ_=>d ()) (λ_ _ _=>d ()) (λ_=>d ()) k (λ_=>d ()) (λ_=>d ()) (λ_ _=>d ()) (λ_=>d ())
noncomputable def gF (v:V) (k:List V->af) (d:Th):af:=bx v (d ()) (d ()) (λ_=>d ()) (λ_ _=>d ()) (λ_=>d ()) (λ_ _ _=>d ()) (λ_=>d ()) (λ_=>d ()) k (λ_=>d ()) (λ_ _=>d ()) (λ_=>d ())
noncomputable def mr (x:V) (st:St) (k:List V->af):af:=gF x k λ_=>dY x λp=>obj p st λo=>bJ o k
noncomputable def lQ (i:Nat):Nat:=Nat.add i 7
noncomputable def CE (i:KT->af) (k:KT) (j:Nat) (cut:Bool):af:=i λc ts=>k (ah cut (cy c gJ) c) (fS ts [(lQ j,bt)])
noncomputable def Oe (i:KT->af) (k:KT):af:=i λc ts=>k (cy c bt) ts
noncomputable def jy (v:V) (k:Nat->Bool->af) (d:Th):af:=bx v (d ()) (d ()) (λ_=>d ()) (λ_ _=>d ()) (λ_=>d ()) (λ_ _ _=>d ()) (λ_=>d ()) (λ_=>d ()) (λ_=>d ()) (λ_=>d ()) k (λ_=>d ())
noncomputable def uH (l:List V):KT->af:=ah (bF l) (bu (λk=>k iZ []) (λx _ i k=>jy x (CE i k) (λ_=>Oe i k)) l) (λk=>k (.ofNat (dL l)) [])
noncomputable def at_ (l:List V) (n:Nat) (k:V->af):af:=bu (λ_=>false) (λx _ i n=>ah (dJ x) false (i6 n (k x) i)) l n
noncomputable def BQ (y:V) (l:List V) (n:Nat) (k:List V->af):af:=bu (λ_ _=>false) (λx r i n k=>ah (dJ x) false (i6 n (k (y::r)) (λm=>i m λr'=>k (x::r')))) l n k
abbrev vM:=V->V->St->K->af
abbrev fT:=V->V->St->KB->af
noncomputable def addI (c:Int) (ts:Ts) (b:V) (st:St) (k:K):af:=cF b λe us=>k (mk (cy c e) (fS ts us)) st
noncomputable def tP (T:List (List Nat)) (c:Int) (ts:Ts) (st:St) (k:K):af:=ah (bj szOk T) (k (.stab T c ts) st) false
noncomputable def Qa (z:List Nat) (st:St) (k:K):af:=ah (szOk z) (k (.str z) st) false
noncomputable def addS (x:List Nat) (b:V) (st:St) (k:K):af:=bx b false false (λ_=>false) (λ_ _=>false) (λy=>Qa (cq x y) st k) (λT c ts=>tP (aP (cq x) T) c ts st k) (λ_=>false) (λ_=>false) (λ_=>false) (λ_=>false) (λ_ _=>false) (λ_=>false)
noncomputable def P8 (T:List (List Nat)) (c:Int) (ts:Ts) (b:V) (st:St) (k:K):af:=eO b λy=>tP (aP (λx=>cq x y) T) c ts st k
noncomputable def Tl (p:Id) (b:V) (st:St) (k:K):af:=dY b λq=>obj p st λo=>bJ o λl=>obj q st λo'=>bJ o' λm=>newList (cq l m) st k
noncomputable def aO:vM:=λa b st k=>bx a false false (λ_=>false) (λc ts=>addI c ts b st k) (λx=>addS x b st k) (λT c ts=>P8 T c ts b st k) (λ_=>false) (λ_=>false) (λ_=>false) (λp=>Tl p b st k) (λ_ _=>false) (λ_=>false)
abbrev Io:=Int->Ts->Int->Ts->St->K->af
noncomputable def mV (f:Io):vM:=λa b st k=>cF a λc ts=>cF b λe us=>f c ts e us st k
noncomputable def QV:Io:=λc ts e us st k=>k (mk (d6 c e) (fS ts (fG gJ us))) st
noncomputable def MV (c:Int):Bool:=Nat.blt (C9 c) (Nat.pow 2 63)
noncomputable def VL (lo hi:Int):af:=c5 (MV lo) (MV hi)
noncomputable def Ti (st:St) (c:Int) (ts:Ts):Bool:=ny st.d ts c c VL no
noncomputable def Vl (_ hi:Int):af:=gW hi (.ofNat 1000)
noncomputable def Hv (st:St) (c:Int) (ts:Ts):Bool:=ny st.d ts c c Vl no
noncomputable def RW:Io:=λc ts e us st k=>aw us (ah (MV e) (k (mk (lj c e) (fG e ts)) st) false) λ_ _=>aw ts (ah (MV c) (k (mk (lj c e) (fG c us)) st) false) λ_ _=>false
noncomputable def S6:Io:=λc ts e us st k=>aw us (ah (MV e) (LK c ts e st k) false) λ_ _=>false
noncomputable def RY:Io:=λc ts e us st k=>aw us (LJ c ts e st k) λ_ _=>false
noncomputable def Dz (st:St) (k:Nat->St->af):af:=Fd st λt m dd mm g e f=>k (dL dd) ⟨t,m,cq dd [.unb],mm,g,e,f⟩
noncomputable def PK (k:K) (v:Nat) (st:St):af:=k (.lin iZ [(v,bt)]) st
noncomputable def Jr:Io:=λc ts e us st k=>ah (c5 (cL us) (eH e (.ofNat 3))) (ah (Ti st c ts) (Dz st (PK k)) false) false
noncomputable def RM:Io:=λc ts e us st k=>ah (c5 (cL ts) (eH c (.ofNat 2))) (ah (Hv st e us) (pow2 e us st k) false) (Jr c ts e us st k)
noncomputable def Q5 (c:Int) (ts:Ts) (st:St) (k:K) (m:Int):af:=k (mk (lj c m) (fG m ts)) st
noncomputable def Q4:Io:=λc ts e us st k=>ah (Hv st e us) (ah (Ti st c ts) (aw us (ah (gW iZ e) (Q5 c ts st k (p2 (fK e))) false) λ_ _=>aw ts (ah (eH c bt) (pow2 e us st k) false) λ_ _=>false) false) false
noncomputable def Q3:Io:=λc ts e us st k=>aw us (ah (gW iZ e) (LK c ts (p2 (fK e)) st k) false) λ_ _=>false
noncomputable def Tk:Io:=λc ts e us st k=>aw us (ah (gW iZ e) (ah (OU 70 (Nat.succ (fK e))) (LJ c ts (cy e bt) st k) false) false) λ_ _=>false
noncomputable def DY (m:Int) (c:Int) (ts:Ts):Bool:=ah (eH (fq c m) iZ) (bj (λp=>eH (fq p.2 m) iZ) ts) false
noncomputable def TF (hi e:Int) (us:Ts):Bool:=to (c5 (rk hi (p2 8)) (DY (p2 8) e us)) (to (c5 (rk hi (p2 16)) (DY (p2 16) e us)) (c5 (rk hi (p2 24)) (DY (p2 24) e us)))
noncomputable def U1 (c:Int) (ts:Ts) (e:Int) (us:Ts) (st:St) (k:K) (lo hi:Int):af:=ah (gW iZ lo) (ah (eH hi iZ) (k (mk e us) st) (ah (TF hi e us) (k (mk (cy c e) (fS ts us)) st) false)) false
noncomputable def U2:Io:=λc ts e us st k=>ny st.d us e e (λlo' _=>ah (gW iZ lo') (ny st.d ts c c (U1 c ts e us st k) no) false) no
noncomputable def lU:vM:=mV QV
noncomputable def fF:vM:=mV RW
noncomputable def e9:vM:=mV S6
noncomputable def cK:vM:=mV RY
noncomputable def ul:vM:=mV RM
noncomputable def wP:vM:=mV Q4
noncomputable def Gg:vM:=mV Q3
noncomputable def Go:vM:=mV Tk
noncomputable def Qv:vM:=mV U2
noncomputable def Bh:fT:=λa b st k=>cF a λc ts=>cF b λe us=>AR (cy (d6 e c) gJ) (fS us (fG gJ ts)) st k
noncomputable def AZ:fT:=λa b st k=>cF a λc ts=>cF b λe us=>AR (d6 e c) (fS us (fG gJ ts)) st k
noncomputable def Jv:fT:=λa b st k=>Bh b a st k
noncomputable def Ia:fT:=λa b st k=>AZ b a st k
noncomputable def rng (T:List (List Nat)) (lo hi:Int):List (List Nat):=oM (uJ T (fK lo)) (Nat.succ (fK (d6 hi lo)))
noncomputable def O6 (T:List (List Nat)) (lo hi:Int):Bool:=ah (gW iZ lo) (ah (gW lo hi) (rk hi (.ofNat (dL T))) false) false
noncomputable def QI (c:Int) (ts:Ts) (b:V) (st:St) (k:KB):af:=cF b λe us=>HQ (d6 c e) (fS ts (fG gJ us)) st k
noncomputable def Mg (s:List Nat) (st:St) (k:KB) (T:List (List Nat)):af:=ah (bj (λx=>ji (jH x s)) T) (k false st) (ah (bj (λx=>jH x s) T) (k true st) false)
noncomputable def Mf (T:List (List Nat)) (s:List Nat) (st:St) (k:KB) (lo hi:Int):af:=ah (O6 T lo hi) (Mg s st k (rng T lo hi)) false
noncomputable def DL (T:List (List Nat)) (c:Int) (ts:Ts) (s:List Nat) (st:St) (k:KB):af:=ny st.d ts c c (Mf T s st k) no
noncomputable def Pt (T U:List (List Nat)) (st:St) (k:KB) (lo hi l:Int):af:=ah (O6 T lo hi) (ah (O6 U (d6 lo l) (d6 hi l)) (ah (GC (rng T lo hi) (rng U (d6 lo l) (d6 hi l))) (k true st) false) false) false
noncomputable def Hy (T:List (List Nat)) (c:Int) (ts:Ts) (st:St) (k:KB) (U:List (List Nat)) (e:Int) (us:Ts):af:=ny st.d ts c c (λlo hi=>iM st (d6 c e) (fS ts (fG gJ us)) (Pt T U st k lo hi) no) no
noncomputable def rB (fuel:Nat):V->Bool:=mN (λ_=>false) (λ_ ih x=>bx x false true (λ_=>true) (λ_ _=>true) (λ_=>true) (λ_ _ _=>true) (λ_=>true) (λ_=>false) (λl=>bj ih l) (λ_=>false) (λ_ _=>false) (λ_=>false)) fuel
noncomputable def FD:Nat:=8
noncomputable def px (l:List V):Bool:=bj (rB FD) l
noncomputable def Pv (i:List V->St->KB->af) (r y:List V) (k:KB) (t:Bool) (st:St):af:=ah t (i y st k) (ah (px r) (ah (px y) (k false st) false) false)
noncomputable def S0 (ih:fT) (a:V) (r:List V) (i:List V->St->KB->af) (st:St) (k:KB) (b:V) (y:List V):af:=ih a b st (Pv i r y k)
noncomputable def DM (ih:fT) (x:List V):List V->St->KB->af:=bu (λy st k=>ah (px y) (k (cL y) st) false) (λa r i y st k=>aw y (ah (px (a::r)) (k false st) false) (S0 ih a r i st k)) x
noncomputable def Ul (b:V) (st:St) (k:KB):af:=ah (et b) (k true st) false
noncomputable def Pw (x:Bool) (b:V) (st:St) (k:KB):af:=bx b false false (λy=>k (ah x y (ji y)) st) (λ_ _=>false) (λ_=>false) (λ_ _ _=>false) (λ_=>false) (λ_=>false) (λ_=>false) (λ_=>false) (λ_ _=>false) (λ_=>false)
noncomputable def Uk (x:List Nat) (b:V) (st:St) (k:KB):af:=bx b false false (λ_=>false) (λ_ _=>false) (λy=>k (jH x y) st) (λT c ts=>DL T c ts x st k) (λ_=>false) (λ_=>false) (λ_=>false) (λ_=>false) (λ_ _=>false) (λ_=>false)
noncomputable def Uj (T:List (List Nat)) (c:Int) (ts:Ts) (b:V) (st:St) (k:KB):af:=bx b false false (λ_=>false) (λ_ _=>false) (λy=>DL T c ts y st k) (Hy T c ts st k) (λ_=>false) (λ_=>false) (λ_=>false) (λ_=>false) (λ_ _=>false) (λ_=>false)
noncomputable def Pu (i:Nat) (b:V) (st:St) (k:KB):af:=bx b false false (λ_=>false) (λ_ _=>false) (λ_=>false) (λ_ _ _=>false) (λj=>ah (Nat.beq i j) (k true st) false) (λ_=>false) (λ_=>false) (λ_=>false) (λ_ _=>false) (λ_=>false)
noncomputable def xv (a b:Id):Bool:=eu a (λp=>eu b (KD p) (λ_=>false)) (λp=>eu b (λ_=>false) (KD p))
noncomputable def Ps (ih:fT) (x:List V) (b:V) (st:St) (k:KB):af:=gF b (λy=>DM ih x y st k) no
noncomputable def Vp (ih:fT):fT:=λa b st k=>bx a false (Ul b st k) (λx=>Pw x b st k) (λc ts=>QI c ts b st k) (λx=>Uk x b st k) (λT c ts=>Uj T c ts b st k) (λi=>Pu i b st k) (λ_=>false) (λx=>Ps ih x b st k) (λ_=>false) (λ_ _=>false) (λ_=>false)
noncomputable def Hw (fuel:Nat):fT:=mN (λ_ _ _ _=>false) (λ_ ih=>Vp ih) fuel
noncomputable def FE:Nat:=8
noncomputable def S1 (x:List V) (st:St) (k:KB) (b:V):af:=iH b (λy=>DM (Hw FE) x y st k) no
noncomputable def SZ (x:List V) (st:St) (k:KB) (y:List V):af:=ah (to (bF x) (bF y)) false (ah (Nat.beq (dL x) (dL y)) (DM (Hw FE) x y st k) (k false st))
noncomputable def Vo (o:O) (st:St) (k:KB) (q:Id):af:=bJ o λx=>obj q st λo'=>bJ o' (SZ x st k)
noncomputable def SY (p:Id) (b:V) (st:St) (k:KB):af:=obj p st λo=>dY b (Vo o st k)
noncomputable def ce:fT:=λa b st k=>bx a false (Ul b st k) (λx=>Pw x b st k) (λc ts=>QI c ts b st k) (λx=>Uk x b st k) (λT c ts=>Uj T c ts b st k) (λi=>Pu i b st k) (λx=>S1 x st k b) (λx=>Ps (Hw FE) x b st k) (λp=>SY p b st k) (λ_ _=>false) (λ_=>false)
noncomputable def nt:fT:=λa b st k=>ce a b st λt st=>k (ji t) st
noncomputable def GP (x:V):Bool:=bx x false false (λ_=>true) (λ_ _=>true) (λ_=>true) (λ_ _ _=>true) (λ_=>true) (λ_=>true) (λ_=>true) (λ_=>true) (λ_ _=>false) (λ_=>false)
noncomputable def zy:V->St->KB->af:=λa st k=>ah (et a) (k true st) (ah (GP a) (k false st) false)
noncomputable def RK (x:List Nat):List Nat->Bool:=bu (λ_=>true) (λa _ i y=>aw y false λb y=>ah (Nat.beq a b) (i y) false) x
noncomputable def sub (x y:List Nat):Bool:=bu (cL x) (λc r i=>ah (RK x (c::r)) true i) y
noncomputable def i4 (s:List Nat) (l:List (List Nat×α)):Option α:=bu none (λp _ i=>ah (jH p.1 s) (some p.2) i) l
noncomputable def FX:List Nat:=[105,109,109]
noncomputable def O9:List (List Nat×Bool):=[([109,49,50,56],false),([109,51,50],false),([109,54,52],false),([114,51,50],false),([114,54,52],false),([114,109,51,50],false),([114,109,54,52],false),([117,105,109,109,56],true),([120],false),([120,109,49,50,56],false),([120,109,51,50],false),([120,109,54,52],false)]
noncomputable def O7 (i:St->KB->af) (r:List V) (k:KB) (t:Bool) (st:St):af:=ah t (ah (px r) (k true st) false) (i st k)
noncomputable def SS (a:V) (l:List V):St->KB->af:=bu (λst k=>k false st) (λb r i st k=>Hw FE b a st (O7 i r k)) l
noncomputable def OZ (x:V):Bool:=bx x false false (λ_=>false) (λ_ ts=>cL ts) (λ_=>false) (λ_ _ _=>false) (λ_=>false) (λ_=>false) (λ_=>false) (λ_=>false) (λ_ _=>false) (λ_=>false)
noncomputable def cI (x:V) (k:Int->af):af:=cF x λc ts=>aw ts (k c) λ_ _=>false
noncomputable def O8 (i:List V->(Bool->af)->af) (y:List V) (k:Bool->af) (c e:Int):af:=ah (eH c e) (i y k) (k false)
noncomputable def LH (a:V) (i:List V->(Bool->af)->af) (k:Bool->af) (b:V) (y:List V):af:=cI a λc=>cI b (O8 i y k c)
noncomputable def gR (x:List V):List V->(Bool->af)->af:=bu (λy k=>k (cL y)) (λa _ i y k=>aw y (k false) (LH a i k)) x
noncomputable def Jq (a:V):Bool:=bx a false false (λ_=>false) (λ_ _=>false) (λ_=>true) (λ_ _ _=>false) (λ_=>false) (λ_=>false) (λl=>bj OZ l) (λ_=>false) (λ_ _=>false) (λ_=>false)
noncomputable def QL (a b:V) (k:Bool->af):af:=bx a false false (λ_=>false) (λ_ _=>false) (λs=>eO b λs'=>k (jH s s')) (λ_ _ _=>false) (λ_=>false) (λ_=>false) (λl=>gF b (λl'=>gR l l' k) no) (λ_=>false) (λ_ _=>false) (λ_=>false)
noncomputable def fw (a:V) (es:List (V×V)) (k:Option V->af):af:=bu (k none) (λp _ i=>QL a p.1 λt=>ah t (k (some p.2)) i) es
noncomputable def HP (es:List (V×V)) (a:V) (k:Option V->af):af:=ah (Jq a) (fw a es k) false
noncomputable def Vj (a:V) (es:List (V×V)) (st:St) (k:KB):af:=HP es a λo=>ag o (k false st) λ_=>k true st
noncomputable def LF (a:V) (l:List V) (st:St) (k:KB):af:=ah (rB FD a) (SS a l st k) false
noncomputable def T5 (a:V) (st:St) (k:KB) (o:O):af:=oc o (λl=>LF a l st k) (λ_ _=>false) (λes=>Vj a es st k) (λ_ _=>false) (λ_=>false) (λ_ _=>false) (λ_=>false) (λ_ _=>false)
noncomputable def O5 (st:St) (k:KB) (s x:List Nat):af:=ah (jH x FX) (ag (i4 s O9) false λt=>k t st) false
noncomputable def SQ (a:V) (st:St) (k:KB) (s:List Nat):af:=eO a (O5 st k s)
noncomputable def vw:fT:=λa b st k=>bx b false false (λ_=>false) (λ_ _=>false) (SQ a st k) (λ_ _ _=>false) (λ_=>false) (λ_=>false) (λl=>LF a l st k) (λp=>obj p st (T5 a st k)) (λ_ _=>false) (λ_=>false)
noncomputable def pC:fT:=λa b st k=>vw a b st λt st=>k (ji t) st
noncomputable def Iw:V->St->KB->af:=λa st k=>bx a false (k false st) (λb=>k b st) (λc ts=>HQ c ts st λt st=>k (ji t) st) (λs=>ah (szOk s) (k (ji (cL s)) st) false) (λ_ _ _=>false) (λ_=>false) (λ_=>false) (λ_=>false) (λ_=>false) (λ_ _=>false) (λ_=>false)
noncomputable def Vi (x:V) (st:St) (k:KB):af:=bx x false false (λb=>k b st) (λ_ _=>false) (λ_=>false) (λ_ _ _=>false) (λ_=>false) (λ_=>false) (λ_=>false) (λ_=>false) (λ_ _=>false) (λ_=>false)
abbrev Ev:=Vs->St->K->KE->af
abbrev Cd:=Vs->St->KB->KE->af
noncomputable def o6 (vs:Vs) (i:Nat):V:=ag (lY vs i) .unset (λv=>v)
noncomputable def eK (v:V):Ev:=λ_ st k _=>k v st
noncomputable def eL (i:Nat):Ev:=λvs st k _=>ag (lY vs i) false λv=>ah (Be v) (k v st) false
noncomputable def eB (o:vM) (a b:Ev):Ev:=λvs st k e=>a vs st (λx st=>b vs st (λy st=>o x y st k) e) e
noncomputable def dH (a:Ev):Ev:=λvs st k e=>a vs st (λx st=>cF x λc ts=>k (mk (Ay c) (fG gJ ts)) st) e
noncomputable def eC (c:Cd):Ev:=λvs st k e=>c vs st (λb st=>k (.bool b) st) e
noncomputable def lJ (c:Cd) (a b:Ev):Ev:=λvs st k e=>c vs st (λt st=>ah t (a vs st k e) (b vs st k e)) e
noncomputable def cC (o:fT) (a b:Ev):Cd:=λvs st k e=>a vs st (λx st=>b vs st (λy st=>o x y st k) e) e
noncomputable def M4 (o1 o2:fT) (a b c:Ev):Cd:=λvs st k e=>a vs st (λx st=>b vs st (λy st=>o1 x y st λt st=>ah t (c vs st (λz st=>o2 y z st k) e) (k false st)) e) e
noncomputable def zx (a:Ev):Cd:=λvs st k e=>a vs st (λx st=>zy x st k) e
noncomputable def vv (a:Ev):Cd:=λvs st k e=>a vs st (λx st=>zy x st λt st=>k (ji t) st) e
noncomputable def cT (a:Ev):Cd:=λvs st k e=>a vs st (λx st=>Iw x st k) e
noncomputable def cB (a:Ev):Cd:=λvs st k e=>a vs st (λx st=>Vi x st k) e
noncomputable def jJ (c:Cd):Cd:=λvs st k e=>c vs st (λt st=>k (ji t) st) e
noncomputable def PX (a b:Cd):Cd:=λvs st k e=>a vs st (λt st=>ah t (b vs st k e) (k false st)) e
noncomputable def Tf (a b:Cd):Cd:=λvs st k e=>a vs st (λt st=>ah t (k true st) (b vs st k e)) e
noncomputable def PT:Cd:=λ_ st k _=>k true st
noncomputable def MF:Cd:=λ_ st k _=>k false st
noncomputable def ig (l:List Cd):Cd:=bu PT (λc _ i=>PX c i) l
noncomputable def pB (l:List Cd):Cd:=bu MF (λc _ i=>Tf c i) l
abbrev QN:=Vs->St->(List V->St->af)->KE->af
noncomputable def Vm:QN:=λ_ st k _=>k [] st
noncomputable def Vn (a:Ev) (b:QN):QN:=λvs st k e=>a vs st (λx st=>b vs st (λl st=>k (x::l) st) e) e
noncomputable def Fg (l:List Ev):QN:=bu Vm (λa _ i=>Vn a i) l
noncomputable def aF (l:List Ev):Ev:=λvs st k e=>Fg l vs st (λl st=>iz l st k) e
noncomputable def dk (l:List Ev):Ev:=λvs st k e=>Fg l vs st (λl st=>newList l st k) e
noncomputable def sV:Ev:=λ_ st k _=>dC (.dict []) st λp st=>k (.ref p) st
noncomputable def gE (fs:List (Nat×V)) (i:Nat):Option V:=bu none (λp _ r=>ah (Nat.beq p.1 i) (some p.2) r) fs
noncomputable def sO (x:V) (fs:List (Nat×V)) (i:Nat):List (Nat×V):=bu [(i,x)] (λp l r=>ah (Nat.beq p.1 i) ((p.1,x)::l) (p::r)) fs
noncomputable def fields (x:V) (st:St) (k:Nat->Id->List (Nat×V)->af):af:=dY x λp=>obj p st λo=>Ci o λc fs=>k c p fs
noncomputable def P2 (f:Nat) (st:St) (k:K) (_:Nat) (_:Id) (fs:List (Nat×V)):af:=ag (gE fs f) false λv=>k v st
noncomputable def wM (v:V) (k:Nat->af) (d:Th):af:=bx v (d ()) (d ()) (λ_=>d ()) (λ_ _=>d ()) (λ_=>d ()) (λ_ _ _=>d ()) (λ_=>d ()) (λ_=>d ()) (λ_=>d ()) (λ_=>d ()) (λ_ _=>d ()) k
noncomputable def attr (x:V) (f:Nat) (st:St) (k:K):af:=fields x st (P2 f st k)
noncomputable def eA (a:Ev) (f:Nat):Ev:=λvs st k e=>a vs st (λx st=>attr x f st k) e
noncomputable def yz (v:V) (k:Id->af) (d:Th):af:=bx v (d ()) (d ()) (λ_=>d ()) (λ_ _=>d ()) (λ_=>d ()) (λ_ _ _=>d ()) (λ_=>d ()) (λ_=>d ()) (λ_=>d ()) k (λ_ _=>d ()) (λ_=>d ())
noncomputable def TN (f:Nat) (y:Nat->af) (d:Th) (o:O):af:=oc o (λ_=>d ()) (λ_ fs=>ag (gE fs f) (d ()) λv=>wM v y d) (λ_=>d ()) (λ_ _=>d ()) (λ_=>d ()) (λ_ _=>d ()) (λ_=>d ()) (λ_ _=>d ())
noncomputable def TL (f:Nat) (st:St) (y:Nat->af) (d:Th) (v:V):af:=yz v (λp=>ag (dj p st) (d ()) (TN f y d)) d
noncomputable def QJ (i f:Nat) (a:Ev):Ev:=λvs st k e=>ag (lY vs i) (a vs st k e) (TL f st (λj=>k (.sat j) st) λ_=>a vs st k e)
noncomputable def BN (f:Nat) (v:V) (st:St) (k:St->af) (c:Nat) (p:Id) (fs:List (Nat×V)):af:=put st p (.inst c (sO v fs f)) k
noncomputable def setAttr (x:V) (f:Nat) (v:V) (st:St) (k:St->af):af:=fields x st (BN f v st k)
noncomputable def VX (n:Nat) (c:Int) (k:Nat->af):af:=c0 c (λm=>ah (Nat.blt m n) (k m) false) (λm=>ah (Nat.blt m n) (k (Nat.sub n (Nat.succ m))) false)
noncomputable def strsV (l:List V):(List (List Nat)->af)->af:=bu (λk=>k []) (λx _ i k=>eO x λs=>i λr=>k (s::r)) l
noncomputable def Vf (l:List V) (st:St) (k:K) (m:Nat):af:=ah (bF l) false (ah (c5 (Nat.blt m (dL l)) (Nat.ble m 4000)) (at_ l (Nat.sub (dL l) (Nat.succ m)) λv=>k v st) false)
noncomputable def T4 (l:List V) (st:St) (k:K) (c:Int):af:=c0 c (λn=>ah (Nat.ble n 4000) (at_ l n λv=>k v st) false) (Vf l st k)
noncomputable def Vh (l:List V) (c:Int) (ts:Ts) (st:St) (k:K) (lo hi:Int):af:=ah (c5 (gW iZ lo) (c5 (rk hi (.ofNat (dL l))) (gW hi (.ofNat 4000)))) (strsV l λT=>k (.stab T c ts) st) false
noncomputable def Vg (l:List V) (st:St) (k:K) (c:Int) (ts:Ts):af:=iM st c ts (T4 l st k) (λ_=>ny st.d ts c c (Vh l c ts st k) no)
noncomputable def z7 (i:V) (st:St) (k:K) (l:List V):af:=cF i λc ts=>iM st c ts (λc=>c0 c (λn=>at_ l n λv=>k v st) (λ_=>false)) no
noncomputable def nP (i:V) (st:St) (k:K) (l:List V):af:=ah (szOk l) (z7 i st k l) false
noncomputable def jx (i:V) (st:St) (k:K) (l:List V):af:=cF i (Vg l st k)
noncomputable def OT (i:V) (st:St) (k:K) (es:List (V×V)):af:=HP es i λo=>ag o false λv=>k v st
noncomputable def Ji (i:V) (st:St) (k:K) (o:O):af:=oc o (jx i st k) (λ_ _=>false) (OT i st k) (λ_ _=>false) (λ_=>false) (λ_ _=>false) (λ_=>false) (λ_ _=>false)
noncomputable def GO:vM:=λa i st k=>bx a false false (λ_=>false) (λ_ _=>false) (λ_=>false) (λ_ _ _=>false) (λ_=>false) (nP i st k) (jx i st k) (λp=>obj p st (Ji i st k)) (λ_ _=>false) (λ_=>false)
noncomputable def eI (a i:Ev):Ev:=eB GO a i
noncomputable def PM (n:Nat) (k:Nat->af) (c:Int) (ts:Ts):af:=aw ts (c0 c (λm=>k (ah (Nat.ble n m) n m)) (λm=>k (ah (Nat.ble n (Nat.succ m)) 0 (Nat.sub n (Nat.succ m))))) λ_ _=>false
noncomputable def My (n:Nat) (d:Nat) (v:V) (k:Nat->af):af:=ah (et v) (k d) (cF v (PM n k))
noncomputable def iy (s:List α) (lo hi:V) (k:List α->af):af:=My (dL s) 0 lo λl=>My (dL s) (dL s) hi λh=>k (uJ (oM s h) l)
noncomputable def Uo (k:List V->af) (l:List V) (u:Th) (z:Int):af:=ah (eH z iZ) (k l) (u ())
noncomputable def S4 (x:V) (i:Int->Ts->(List V->af)->af) (a:Int) (us:Ts) (k:List V->af):Th:=λ_=>uH [x] λb ws=>i (cy a b) (fS us ws) k
noncomputable def sW (st:St) (c:Int) (ts:Ts) (l:List V):Int->Ts->(List V->af)->af:=bu
 (λa us k=>iM st (d6 c a) (fS ts (fG gJ us)) (Uo k [] no) no)
 (λx r i a us k=>iM st (d6 c a) (fS ts (fG gJ us)) (Uo k (x::r) (S4 x i a us k)) (S4 x i a us k)) l
noncomputable def Iz (l:List V):Nat->(List V->af)->af:=bu (λ_ k=>k []) (λx _ i n k=>i6 n (k []) λm=>ah (dJ x) false (i m λr=>k (x::r))) l
noncomputable def PN (x:V) (st:St) (k:List V->St->af) (j:Nat) (cut:Bool):af:=ah cut false (ah (dJ x) false (AR gJ [(lQ j,bt)] st λt st=>ah t (k [x,.seg j true] st) (k [] st)))
noncomputable def VE (x y:V) (st:St) (k:List V->St->af):af:=jy y (PN x st k) λ_=>k [x] st
noncomputable def VF (x:V) (st:St) (k:List V->St->af):af:=ah (dJ x) false (k [] st)
noncomputable def zn (l:List V):St->(List V->St->af)->af:=bu (λ_ _=>false) (λx r i st k=>aw r (VF x st k) λy r'=>aw r' (VE x y st k) λ_ _=>i st λr st=>k (x::r) st) l
noncomputable def UG (c:Int) (ts:Ts) (st:St) (k:List V->St->af) (r:List V) (e:Int) (us:Ts):af:=iM st (d6 e c) (fS us (fG gJ ts)) (λw=>ah (gW iZ w) (Iz r (fK w) λl=>k l st) false) no
noncomputable def UI (hi:V) (c:Int) (ts:Ts) (st:St) (k:List V->St->af) (r:List V):af:=ah (et hi) (k r st) (cF hi (UG c ts st k r))
noncomputable def UH (s:List V) (hi:V) (st:St) (k:List V->St->af) (c:Int) (ts:Ts):af:=ah (c5 (cL ts) (rk c iZ)) false (sW st c ts s iZ [] (UI hi c ts st k))
noncomputable def UJ (s:List V) (st:St) (k:List V->St->af) (c:Int) (ts:Ts):af:=aw ts (ah (eH c gJ) (zn s st k) false) λ_ _=>false
noncomputable def tT (s:List V) (lo hi:V) (st:St) (k:List V->St->af):af:=ah (et lo) (cF hi (UJ s st k)) (cF lo (UH s hi st k))
noncomputable def nI (lo hi:V) (st:St) (k:List V->St->af) (s:List V):af:=ah (szOk s) (ah (to (bF s) (to (Jj lo) (Jj hi))) (tT s lo hi st k) (iy s lo hi λl=>k l st)) false
noncomputable def NC (k:K) (l:List V) (st:St):af:=k (.bytes l) st
noncomputable def NA (k:K) (l:List V) (st:St):af:=newList l st k
noncomputable def slice (a lo hi:V) (st:St) (k:K):af:=bx a false false (λ_=>false) (λ_ _=>false) (λs=>ah (szOk s) (iy s lo hi λl=>k (.str l) st) false) (λ_ _ _=>false) (λ_=>false) (nI lo hi st (NC k)) (λ_=>false) (λp=>obj p st λo=>bJ o (nI lo hi st (NA k))) (λ_ _=>false) (λ_=>false)
noncomputable def qe (a lo hi:Ev):Ev:=λvs st k e=>a vs st (λx st=>lo vs st (λl st=>hi vs st (λh st=>slice x l h st k) e) e) e
abbrev KF:=Fl->Vs->St->af
abbrev Ex:=Vs->St->KF->KE->af
abbrev Sm:=List V->St->K->KE->Th->af
structure Fn where
 sm:Sm
 body:Ex
noncomputable def az:Sm:=λ_ _ _ _ d=>d ()
noncomputable def uc (k:K):KF:=λfl _ st=>ph fl (k .none st) false (λv=>k v st)
noncomputable def dy (f:Fn) (as pad:List V) (st:St) (k:K) (e:KE):af:=f.sm as st k e (λ_=>f.body (cq as pad) st (uc k) e)
noncomputable def eF (f:Fn) (as:List Ev) (pad:List V):Ev:=λvs st k e=>Fg as vs st (λl st=>dy f l pad st k e) e
abbrev Mt:=Nat×Fn×List V
noncomputable def Qy (c:Nat) (tab:List Mt) (k:Fn->List V->af):af:=bu (λ_=>false) (λp _ i _=>ah (Nat.beq p.1 c) (k p.2.1 p.2.2) (i ())) tab ()
noncomputable def Vq (x:V) (k:K) (e:KE) (f:Fn) (pad:List V) (l:List V) (st:St):af:=dy f (x::l) pad st k e
noncomputable def Um (as:List Ev) (x:V) (vs:Vs) (st:St) (k:K) (e:KE) (f:Fn) (pad:List V):af:=Fg as vs st (Vq x k e f pad) e
noncomputable def Vr (mid:Nat) (tab:List Mt) (as:List Ev) (x:V) (vs:Vs) (st:St) (k:K) (e:KE) (c:Nat) (_:Id) (fs:List (Nat×V)):af:=ag (gE fs mid) (Qy c tab (Um as x vs st k e)) λ_=>false
noncomputable def eM (mid:Nat) (a:Ev) (tab:List Mt) (as:List Ev):Ev:=λvs st k e=>a vs st (λx st=>fields x st (Vr mid tab as x vs st k e)) e
noncomputable def RV (k:K) (p:Id):K:=λv st=>ah (et v) (k (.ref p) st) false
noncomputable def bz (c:Nat) (init:Fn) (as:List Ev) (pad:List V):Ev:=λvs st k e=>Fg as vs st (λl st=>dC (.inst c []) st λp st=>dy init (.ref p::l) pad st (RV k p) e) e
noncomputable def CG (st:St) (k:K) (l:List V):af:=ah (szOk l) (uH l λc ts=>k (mk c ts) st) false
noncomputable def Od (x:V) (st:St) (k:K):af:=bx x false false (λ_=>false) (λ_ _=>false) (λs=>ah (szOk s) (k (.int (.ofNat (dL s))) st) false) (λ_ _ _=>false) (λ_=>false) (CG st k) (CG st k) (λp=>obj p st λo=>bJ o (CG st k)) (λ_ _=>false) (λ_=>false)
noncomputable def ko (a:Ev):Ev:=λvs st k e=>a vs st (λx st=>Od x st k) e
noncomputable def O3:List (List Nat×Nat):=[([54,52],64),([51,50],32),([49,50,56],128),([56],8),([49,54],16)]
noncomputable def GX (st:St) (k:K) (n:Nat):af:=k (.int (.ofNat n)) st
noncomputable def O4 (st:St) (k:K) (s:List Nat):af:=ag (i4 s O3) false (GX st k)
noncomputable def ru (a:Ev):Ev:=λvs st k e=>a vs st (λx st=>eO x (O4 st k)) e
noncomputable def Db (c:Nat) (k:Nat->af):af:=ah (c5 (Nat.ble 48 c) (Nat.ble c 57)) (k (Nat.sub c 48)) (ah (c5 (Nat.ble 97 c) (Nat.ble c 102)) (k (Nat.sub c 87)) false)
noncomputable def Pc (st:St) (k:K) (s:List Nat):af:=aw s false λa r=>aw r false λb r=>aw r (Db a λx=>Db b λy=>GX st k (Nat.add (Nat.mul x 16) y)) λ_ _=>false
noncomputable def sU (a:Ev):Ev:=λvs st k e=>a vs st (λx st=>eO x (Pc st k)) e
noncomputable def Mv (n:Nat):List Nat:=ah (Nat.blt n 10) [Nat.add 48 n] [Nat.add 48 (Nat.div n 10),Nat.add 48 (Nat.mod n 10)]
noncomputable def FI (n:Nat):List Nat:=mN [] (λm i=>cq i [m]) n
noncomputable def QW (c:Int) (ts:Ts) (st:St) (k:K) (lo hi:Int):af:=ah (c5 (gW iZ lo) (rk hi (.ofNat 32))) (k (.stab (aP Mv (FI (Nat.succ (fK hi)))) c ts) st) false
noncomputable def Nx (st:St) (k:K) (c:Int) (ts:Ts):af:=aw ts (ah (c5 (gW iZ c) (rk c (.ofNat 100))) (k (.str (Mv (fK c))) st) false) λ_ _=>ny st.d ts c c (QW c ts st k) no
noncomputable def DS (a:Ev):Ev:=λvs st k e=>a vs st (λx st=>cF x (Nx st k)) e
noncomputable def Nu (st:St) (k:K) (o:O):af:=bJ o λl=>iz l st k
noncomputable def km (a:Ev):Ev:=λvs st k e=>a vs st (λx st=>gF x (λ_=>k x st) λ_=>dY x λp=>obj p st (Nu st k)) e
noncomputable def pw (a:Ev):Ev:=λvs st k e=>a vs st (λx st=>mr x st λl=>newList l st k) e
noncomputable def PZ (lo hi:Int):af:=c5 (gW iZ lo) (rk hi (p2 8))
noncomputable def Eo (st:St) (l:List V):Bool:=bj (λx=>jy x (λ_ _=>true) λ_=>cF x λc ts=>ny st.d ts c c PZ no) l
noncomputable def PY (st:St) (k:K) (l:List V):af:=ah (szOk l) (ah (Eo st l) (k (.bytes l) st) false) false
noncomputable def xI (a:Ev):Ev:=λvs st k e=>a vs st (λx st=>iH x (λ_=>k x st) (λ_=>dY x λp=>obj p st λo=>bJ o (PY st k))) e
noncomputable def O2 (x:V):Bool:=bx x false false (λ_=>true) (λ_ _=>false) (λ_=>false) (λ_ _ _=>false) (λ_=>false) (λ_=>false) (λ_=>false) (λ_=>false) (λ_ _=>false) (λ_=>false)
noncomputable def Lx (x:V):Bool:=bx x false false (λb=>b) (λ_ _=>false) (λ_=>false) (λ_ _ _=>false) (λ_=>false) (λ_=>false) (λ_=>false) (λ_=>false) (λ_ _=>false) (λ_=>false)
noncomputable def P5 (l:List V) (st:St) (k:KB):af:=ah (szOk l) (ah (bj O2 l) (k (sG Lx l) st) false) false
noncomputable def Ek (a:Ev):Cd:=λvs st k e=>a vs st (λx st=>dY x λp=>obj p st λo=>bJ o λl=>P5 l st k) e
noncomputable def UL (c x:Nat) (i:List (List Nat)):List (List Nat):=ah (Nat.beq x c) ([]::i) (aw i [[x]] λw r=>(x::w)::r)
noncomputable def eh (c:Nat) (s:List Nat):List (List Nat):=bu [[]] (λx _ i=>UL c x i) s
noncomputable def wj (c:Nat) (st:St) (k:K) (s:List Nat):af:=ah (szOk s) (newList (aP V.str (eh c s)) st k) false
noncomputable def gp (a:Ev) (c:Nat):Ev:=λvs st k e=>a vs st (λx st=>eO x (wj c st k)) e
noncomputable def Bx:List (List Nat×List (List Nat)):=[([97,108,32,99,108,32,100,108,32,98,108,32,115,112,108,32,98,112,108,32,115,105,108,32,100,105,108],[[97,108],[99,108],[100,108],[98,108],[115,112,108],[98,112,108],[115,105,108],[100,105,108]]),([97,120,32,99,120,32,100,120,32,98,120,32,115,112,32,98,112,32,115,105,32,100,105],[[97,120],[99,120],[100,120],[98,120],[115,112],[98,112],[115,105],[100,105]]),([101,97,120,32,101,99,120,32,101,100,120,32,101,98,120,32,101,115,112,32,101,98,112,32,101,115,105,32,101,100,105],[[101,97,120],[101,99,120],[101,100,120],[101,98,120],[101,115,112],[101,98,112],[101,115,105],[101,100,105]]),([114,97,120,32,114,99,120,32,114,100,120,32,114,98,120,32,114,115,112,32,114,98,112,32,114,115,105,32,114,100,105],[[114,97,120],[114,99,120],[114,100,120],[114,98,120],[114,115,112],[114,98,112],[114,115,105],[114,100,105]]),([97,104,32,99,104,32,100,104,32,98,104],[[97,104],[99,104],[100,104],[98,104]])]
noncomputable def iG (a:Ev):Ev:=λvs st k e=>a vs st (λx st=>eO x λs=>ag (i4 s Bx) false λl=>newList (aP V.str l) st k) e
noncomputable def IG:List Nat:=[114,109,111,120]
noncomputable def N8:List (List Nat×List Nat):=[([120,109,49,50,56],[49,50,56]),([120,109,51,50],[51,50]),([120,109,54,52],[54,52]),([114,109,51,50],[51,50]),([114,109,54,52],[54,52]),([109,54,52],[54,52]),([109,49,50,56],[49,50,56]),([109,51,50],[51,50]),([114,51,50],[51,50]),([114,54,52],[54,52]),([114,109,56],[56]),([114,56],[56]),([114,109,49,54],[49,54]),([114,49,54],[49,54]),([109,56],[56]),([109,49,54],[49,54])]
noncomputable def N9 (st:St) (k:K) (s t:List Nat):af:=ah (jH t IG) (ag (i4 s N8) false λr=>k (.str r) st) false
noncomputable def sT (a b:Ev):Ev:=λvs st k e=>a vs st (λx st=>eO x λs=>b vs st (λy st=>eO y λt=>N9 st k s t) e) e
noncomputable def Pa:List (List Nat×Nat):=[([117,105,109,109,56],1)]
noncomputable def Pb (st:St) (k:K) (s t:List Nat):af:=ah (jH t FX) (ag (i4 s Pa) false (GX st k)) false
noncomputable def xH (a b:Ev):Ev:=λvs st k e=>a vs st (λx st=>eO x λs=>b vs st (λy st=>eO y λt=>Pb st k s t) e) e
noncomputable def Tj (p:Id) (y:V) (st:St) (k:K) (l:List V):af:=put st p (.list (cq l [y])) λst=>k .none st
noncomputable def Ij (p:Id) (y:V) (st:St) (k:K) (l:List V):af:=ah (szOk l) (Tj p y st k l) false
noncomputable def aH (a b:Ev):Ev:=λvs st k e=>a vs st (λx st=>dY x λp=>obj p st λo=>bJ o λ_=>b vs st (λy st=>obj p st λo=>bJ o (Ij p y st k)) e) e
noncomputable def Pj (y z:V) (st:St) (k:K) (es:List (V×V)):af:=HP es y λo=>ag o (k z st) λv=>k v st
noncomputable def Mo (a b c:Ev):Ev:=λvs st k e=>a vs st (λx st=>dY x λp=>obj p st λo=>nZ o λ_=>b vs st (λy st=>c vs st (λz st=>obj p st λo=>nZ o (Pj y z st k)) e) e) e
noncomputable def rx (p:Id) (i v:V) (es:List (V×V)):List (V×V)->St->(St->af)->af:=bu (λacc st k=>put st p (.dict (cq acc [(i,v)])) k) (λq r rec acc st k=>QL i q.1 λt=>ah t (put st p (.dict (cq acc ((q.1,v)::r))) k) (rec (cq acc [q]) st k)) es
noncomputable def S3 (p:Id) (i v:V) (es:List (V×V)) (st:St) (k:St->af):af:=ah (Jq i) (ah (szOk es) (rx p i v es [] st k) false) false
noncomputable def UO (p:Id) (v:V) (st:St) (k:St->af) (l:List V) (c:Int) (ts:Ts):af:=aw ts (c0 c (λn=>ah (Nat.ble n 4000) (BQ v l n λl'=>put st p (.list l') k) false) (λ_=>false)) λ_ _=>false
noncomputable def UN (p:Id) (i v:V) (st:St) (k:St->af) (o:O):af:=oc o (λl=>cF i (UO p v st k l)) (λ_ _=>false) (λes=>S3 p i v es st k) (λ_ _=>false) (λ_=>false) (λ_ _=>false) (λ_=>false) (λ_ _=>false)
noncomputable def setItem (a i v:V) (st:St) (k:St->af):af:=dY a λp=>obj p st (UN p i v st k)
noncomputable def KI (p:Id) (st:St) (k:Id->St->af) (o:O):af:=oc o (λ_=>dC (.lit p 0) st k) (λ_ _=>false) (λ_=>false) (λ_ _=>false) (λ_=>false) (λ_ _=>false) (λ_=>false) (λ_ _=>k p st)
noncomputable def KH (p:Id) (st:St) (k:Id->St->af) (o:O):af:=IL o (λn=>ah (Nat.ble n 100000) (dC (.rit iZ n) st k) false) (KI p st k)
noncomputable def Cf (x:V) (st:St) (k:Id->St->af):af:=iH x (λl=>dC (.bit l) st k) λ_=>gF x (λl=>dC (.tit l) st k) λ_=>dY x λp=>obj p st (KH p st k)
abbrev KO:=Option V->St->af
noncomputable def xC (p:Id) (st:St) (k:KO):af:=put st p .dead (k none)
noncomputable def Qx (p q:Id) (i:Nat) (st:St) (k:KO) (l:List V):af:=ah (bF l) false (ag (lY l i) (xC p st k) λv=>put st p (.lit q (Nat.succ i)) (k (some v)))
noncomputable def RS (p:Id) (st:St) (k:KO) (l:List V):af:=aw l (xC p st k) λv r=>ah (dJ v) false (put st p (.tit r) (k (some v)))
noncomputable def TG (p:Id) (st:St) (k:KO) (x:Int) (left:Nat):af:=i6 left (xC p st k) λm=>put st p (.rit (cy x bt) m) (k (some (.int x)))
noncomputable def TJ (p:Id) (st:St) (k:KO) (l:List V):af:=aw l (xC p st k) λv r=>ah (dJ v) false (put st p (.bit r) (k (some v)))
noncomputable def Cj (p a b:Id) (x:V) (k:KO) (o:Option V) (st:St):af:=ag o false λy=>put st p (.zit a b) λst=>iz [x,y] st λv st=>k (some v) st
noncomputable def RR (p:Id) (st:St) (k:KO):af:=obj p st λo=>oc o (λ_=>false) (λ_ _=>false) (λ_=>false) (λ_ _=>false) (RS p st k) (λ_ _=>false) (λ_=>false) (λ_ _=>false)
noncomputable def RT (p:Id) (st:St) (k:KO):af:=obj p st λo=>oc o (λ_=>false) (λ_ _=>false) (λ_=>false) (λq i=>obj q st λo=>bJ o (Qx p q i st k)) (λ_=>false) (λ_ _=>false) (λ_=>false) (λ_ _=>false)
noncomputable def Gp (p a b:Id) (k:KO) (o:Option V) (st:St):af:=ag o (xC p st k) λx=>RT b st (Cj p a b x k)
abbrev ZT:=Id->St->KO->Id->Id->af
noncomputable def Qw:ZT:=λp st k a b=>RR a st (Gp p a b k)
noncomputable def IQ:ZT:=λ_ _ _ _ _=>false
noncomputable def TH (z:ZT) (p:Id) (st:St) (k:KO) (o:O):af:=oc o (λ_=>false) (λ_ _=>false) (λ_=>false) (λq i=>obj q st λo=>bJ o (Qx p q i st k)) (RS p st k) (TG p st k) (TJ p st k) (z p st k)
noncomputable def mw (z:ZT) (p:Id) (st:St) (k:KO):af:=obj p st (TH z p st k)
noncomputable def B8 (st:St) (k:K) (c:Int) (ts:Ts):af:=aw ts (c0 c (λn=>dC (.rng n) st λp st=>k (.ref p) st) (λ_=>false)) λ_ _=>false
noncomputable def pv (a:Ev):Ev:=λvs st k e=>a vs st (λx st=>cF x (B8 st k)) e
noncomputable def QO (p q:Id) (st:St) (k:K) (l:List V):af:=dC (.lit q 0) st λq st=>dC (.zit p q) st λr st=>k (.ref r) st
noncomputable def QP (y:V) (k:K) (p:Id) (st:St):af:=dY y λq=>obj q st λo=>bJ o (QO p q st k)
noncomputable def Nc (x y:V) (st:St) (k:K):af:=gF x (λl=>dC (.tit l) st (QP y k)) no
noncomputable def Mk (a b:Ev):Ev:=λvs st k e=>a vs st (λx st=>b vs st (λy st=>Nc x y st k) e) e
noncomputable def BM (is:List Nat):List V->Vs->(Vs->af)->af:=bu (λxs vs k=>ah (cL xs) (k vs) false) (λj _ i xs vs k=>aw xs false λx r=>ah (dJ x) false (i r (sD x vs j) k)) is
abbrev KV:=Vs->St->af
noncomputable def VO (x:V) (vs:Vs) (st:St) (k:KV) (is:List Nat):af:=mr x st λl=>BM is l vs λvs=>k vs st
noncomputable def iJ (t:Tg) (x:V) (vs:Vs) (st:St) (k:KV):af:=Ix t (λi=>k (sD x vs i) st) (VO x vs st k)
abbrev vN:=Vs->St->KF->KE->af
noncomputable def QH (rec:vN) (k:KF) (e:KE):KF:=λfl vs st=>ph fl (rec vs st k e) (rec vs st k e) (λv=>k (.ret v) vs st)
noncomputable def Mb (rec:vN) (t:Tg) (b:Ex) (vs:Vs) (k:KF) (e:KE):KO:=λo st=>ag o (k .next vs st) λx=>iJ t x vs st λvs st=>b vs st (QH rec k e) e
noncomputable def zf (fuel:Nat) (p:Id) (t:Tg) (b:Ex):vN:=mN (λ_ _ _ _=>false) (λ_ rec vs st k e=>Ix t (λ_=>mw IQ p st (Mb rec t b vs k e)) (λ_=>mw Qw p st (Mb rec t b vs k e))) fuel
noncomputable def FF:Nat:=200
noncomputable def gC (t:Tg) (it:Ev) (b:Ex):Ex:=λvs st k e=>it vs st (λx st=>Cf x st λp st=>zf FF p t b vs st k e) e
abbrev Fc:=Vs->St->(St->af)->KE->af
noncomputable def Ut (rec:Fc) (a:Id) (vs:Vs) (k:St->af) (e:KE):K:=λv st=>obj a st λo=>bJ o (Ij a v st λ_ st=>rec vs st k e)
noncomputable def Us (rec:Fc) (a:Id) (t:Tg) (elt:Ev) (vs:Vs) (k:St->af) (e:KE):KO:=λo st=>ag o (k st) λx=>iJ t x vs st λvs st=>elt vs st (Ut rec a vs k e) λ_=>false
noncomputable def kq (fuel:Nat) (p a:Id) (t:Tg) (elt:Ev):Fc:=mN (λ_ _ _ _=>false) (λ_ rec vs st k e=>mw IQ p st (Us rec a t elt vs k e)) fuel
noncomputable def vq (nl:Nat) (cap:List Nat) (vs:Vs):Vs:=cq (uD .unset nl) (aP (o6 vs) cap)
noncomputable def Mp (nl:Nat) (cap:List Nat) (t:Tg) (elt:Ev) (vs:Vs) (k:K) (e:KE):K:=λx st=>Cf x st λp st=>dC (.list []) st λa st=>kq FF p a t elt (vq nl cap vs) st (λst=>k (.ref a) st) e
noncomputable def jO (nl:Nat) (cap:List Nat) (t:Tg) (it:Ev) (elt:Ev):Ev:=λvs st k e=>ah (bj Be (aP (o6 vs) cap)) (it vs st (Mp nl cap t elt vs k e) e) false
noncomputable def UK (b:Ex) (k:KF) (e:KE):KF:=λfl vs st=>ph fl (b vs st k e) (k .cont vs st) (λv=>k (.ret v) vs st)
noncomputable def ac (a b:Ex):Ex:=λvs st k e=>a vs st (UK b k e) e
noncomputable def aE:Ex:=λvs st k _=>k .next vs st
noncomputable def nB:Ex:=λvs st k _=>k .cont vs st
noncomputable def xE (a:Ev):Ex:=λvs st k e=>a vs st (λ_ st=>k .next vs st) e
noncomputable def au (a:Ev):Ex:=λvs st k e=>a vs st (λv st=>k (.ret v) vs st) e
noncomputable def Bu:Ex:=λvs st k _=>k (.ret .none) vs st
noncomputable def xA (t:Tg) (a:Ev):Ex:=λvs st k e=>a vs st (λx st=>iJ t x vs st λvs st=>k .next vs st) e
noncomputable def dE (o:Ev) (f:Nat) (a:Ev):Ex:=λvs st k e=>a vs st (λx st=>o vs st (λy st=>setAttr y f x st λst=>k .next vs st) e) e
noncomputable def BS (o:Ev) (fs:List Nat):List V->Vs->St->(St->af)->KE->af:=bu (λxs _ st k _=>ah (cL xs) (k st) false) (λf _ i xs vs st k e=>aw xs false λx r=>ah (dJ x) false (o vs st (λy st=>setAttr y f x st λst=>i r vs st k e) e)) fs
noncomputable def Fy (o:Ev) (fs:List Nat) (a:Ev):Ex:=λvs st k e=>a vs st (λx st=>mr x st λl=>ah (bF l) false (ah (Nat.beq (dL l) (dL fs)) (BS o fs l vs st (λst=>k .next vs st) e) false)) e
noncomputable def Nh (o i:Ev) (a:Ev):Ex:=λvs st k e=>a vs st (λx st=>o vs st (λy st=>i vs st (λz st=>setItem y z x st λst=>k .next vs st) e) e) e
noncomputable def bN (c:Cd) (a b:Ex):Ex:=λvs st k e=>c vs st (λt st=>ah t (a vs st k e) (b vs st k e)) e
noncomputable def Tq (rec:vN) (b:Ex) (vs:Vs) (k:KF) (e:KE):KB:=λt st=>ah t (b vs st (QH rec k e) e) (k .next vs st)
noncomputable def rO (fuel:Nat) (c:Cd) (b:Ex):vN:=mN (λ_ _ _ _=>false) (λ_ rec vs st k e=>c vs st (Tq rec b vs k e) e) fuel
noncomputable def FW:Nat:=30
noncomputable def QR (c:Cd) (b:Ex):Ex:=rO FW c b
noncomputable def cP:Ex:=λ_ st _ e=>e st
noncomputable def eY:Ex:=λ_ _ _ _=>false
noncomputable def fP:Ev:=λ_ _ _ _=>false
noncomputable def mY:Cd:=λ_ _ _ _=>false
noncomputable def frz (st:St) (k:St->af):af:=Fd st λt n d mm g e f=>k ⟨t,n,d,mm,g,e,t⟩
noncomputable def unf (st st':St) (k:St->af):af:=Fd st λt n d mm g e f=>Fd st' λt' n' d' mm' g' e' f'=>k ⟨t',n',d',mm',g,e,f⟩
noncomputable def back (st st':St) (k:St->af):af:=Fd st λt n d mm g e f=>Fd st' λt' n' d' mm' g' e' f'=>k ⟨t,n,d',mm',g,e,f⟩
noncomputable def Bs (a:Ev) (h:Ex):Ex:=λvs st k e=>frz st λsf=>a vs sf (λ_ st'=>unf st st' λst=>k .next vs st) (λst'=>back st st' λst=>h vs st k e)
noncomputable def Bq (c:Cd) (v:V) (h:Ex):Ex:=λvs st k e=>frz st λsf=>c vs sf (λt st'=>unf st st' λst=>ah t (k (.ret v) vs st) (k .next vs st)) (λst'=>back st st' λst=>h vs st k e)
noncomputable def l1 (v:Nat):V:=.lin iZ [(v,bt)]
noncomputable def cD (st:St) (a b:V) (y n:Th):af:=cF a λc ts=>cF b λe us=>iM st (d6 c e) (fS ts (fG gJ us)) (λz=>ah (eH z iZ) (y ()) (n ())) n
noncomputable def wz:List Nat:=[109,101,109]
noncomputable def U7 (st:St) (k:K) (told:V):af:=newList [l1 6,.seg 0 false] st λrest st=>iz [told,rest,l1 8,l1 9] st k
noncomputable def U8 (k:K):K:=λsz st=>iz [.str wz,.sat 0,.sat 1,l1 15,l1 16,sz,.str [],.str []] st λtold st=>U7 st k told
noncomputable def dF (v:V) (k:KT) (d:Th):af:=bx v (d ()) (d ()) (λ_=>d ()) k (λ_=>d ()) (λ_ _ _=>d ()) (λ_=>d ()) (λ_=>d ()) (λ_=>d ()) (λ_=>d ()) (λ_ _=>d ()) (λ_=>d ())
noncomputable def q0:List (List Nat×Int):=[([109,49,50,56],.ofNat 128),([109,51,50],.ofNat 32),([109,54,52],.ofNat 64),([114,109,51,50],.ofNat 32),([114,109,54,52],.ofNat 64),([120,109,49,50,56],.ofNat 128),([120,109,51,50],.ofNat 32),([120,109,54,52],.ofNat 64)]
noncomputable def kH (v:V) (k:List Nat->af) (d:Th):af:=bx v (d ()) (d ()) (λ_=>d ()) (λ_ _=>d ()) k (λ_ _ _=>d ()) (λ_=>d ()) (λ_=>d ()) (λ_=>d ()) (λ_=>d ()) (λ_ _=>d ()) (λ_=>d ())
noncomputable def TT (st:St) (k:K) (d:Th) (c:Int) (ts:Ts) (s:List Nat):af:=ah (c5 (eH c iZ) (qf ts [(5,bt)])) (ag (i4 s q0) (d ()) λz=>U8 k (.int z) st) (d ())
noncomputable def tR:Sm:=λas st k e d=>aw as (d ()) λkind r=>aw r (d ()) λnum _=>dF num (λc ts=>kH kind (TT st k d c ts) d) d
noncomputable def OW (c:Int) (k:KT) (d:Th) (q r:Ts):af:=ah (qf r [(6,bt)]) (ah (eH (fq c (.ofNat 8)) iZ) (k (ed c (.ofNat 8)) q) (d ())) (d ())
noncomputable def LB (k:KT) (d:Th) (c:Int) (ts:Ts):af:=lP (.ofNat 8) ts [] [] (OW c k d)
noncomputable def UT (a:Int) (st:St) (k:K) (e:KE) (d:Th) (rc:Int) (rq:Ts) (rest:List V) (j:Nat) (cut:Bool):af:=ah (Nat.beq j 0) (ah cut (ah (cL rest) (e st) (d ())) (ah (c5 (ji (bF rest)) (Nat.ble (dL rest) 3)) (iz [l1 10,mk rc rq,l1 11,l1 12,l1 13,l1 14,.lin (cy a bt) [(7,bt)]] st k) (d ()))) (d ())
noncomputable def US (k:Th) (d:Th) (lo hi:Int):af:=ah (c5 (gW iZ lo) (gW hi (.ofNat 7))) (k ()) (d ())
noncomputable def Q7 (a:Int) (st:St) (k:K) (e:KE) (d:Th) (more:List V) (rc:Int) (rq:Ts):af:=aw more (d ()) λy rest=>ny st.d rq rc rc (US (λ_=>jy y (UT a st k e d rc rq rest) d) d) d
noncomputable def UU (l:List V) (a:Int) (st:St) (k:K) (e:KE) (d:Th) (n:Nat):af:=ah (to (bF (oM l n)) (ji (c5 (Nat.ble 2 n) (Nat.ble n 4)))) (d ()) (aw (uJ l n) (d ()) λx more=>dF x (LB (Q7 a st k e d more) d) d)
noncomputable def TD (l:List V) (st:St) (k:K) (e:KE) (d:Th) (a:Int) (us:Ts):af:=aw us (c0 a (UU l a st k e d) (λ_=>d ())) λ_ _=>d ()
noncomputable def tQ:Sm:=λas st k e d=>aw as (d ()) λoct r=>aw r (d ()) λat0 _=>iH oct (λl=>dF at0 (TD l st k e d) d) d
structure E0 where
 cl:Nat
 kind:Nat
 base:Nat
 index:Nat
 scale:Nat
 worth:Nat
 size:Nat
 seg:Nat
 name:Nat
noncomputable def IT (m:E0) (z:Int):List (Nat×V):=[(m.kind,.str wz),(m.base,.oreg 0),(m.index,.oreg 1),(m.scale,l1 15),(m.worth,l1 16),(m.size,.int z),(m.seg,.str []),(m.name,.str [])]
noncomputable def R5 (m:E0) (z:Int) (st:St) (k:K):Th:=λ_=>dC (.inst m.cl (IT m z)) st λp st=>k (.ref p) st
noncomputable def U6 (rm sb di x b:V) (st:St) (go d:Th) (c:Int) (ts:Ts):af:=ah (c5 (eH c iZ) (qf ts [(10,bt)])) (cD st rm (l1 11) (λ_=>cD st sb (l1 12) (λ_=>cD st di (l1 13) (λ_=>cD st x (l1 8) (λ_=>cD st b (l1 9) go d) d) d) d) d) (d ())
noncomputable def TS (m:E0) (md rm sb di x b:V) (st:St) (k:K) (d:Th) (z:Int) (zs:Ts) (s:List Nat):af:=ah (c5 (cL zs) (cL s)) (dF md (U6 rm sb di x b st (R5 m z st k) d) d) (d ())
noncomputable def wk (m:E0):Sm:=λas st k _ d=>aw as (d ()) λmd r=>aw r (d ()) λrm r=>aw r (d ()) λsb r=>aw r (d ()) λdi r=>aw r (d ()) λx r=>aw r (d ()) λb r=>aw r (d ()) λsz r=>aw r (d ()) λsg _=>dF sz (λz zs=>kH sg (TS m md rm sb di x b st k d z zs) d) d
noncomputable def kL (l:List (Nat×α)) (n:Nat):Option α:=bu none (λp _ i=>ah (Nat.beq p.1 n) (some p.2) i) l
noncomputable def UQ (st:St) (k:K) (d:Th) (must op:Int):af:=ag (kL st.x.tab (fK op)) (d ()) λr=>ag (kL r (fK must)) (d ()) λl=>dC (.list []) st λ_ st=>newList l st k
noncomputable def UR (st:St) (k:K) (d:Th) (must esc op:V):af:=dF must (λc ts=>dF esc (λe us=>dF op (λo vs=>ah (c5 (cL ts) (c5 (cL us) (c5 (cL vs) (c5 (eH e bt) (c5 (gW iZ c) (gW iZ o)))))) (UQ st k d c o) (d ())) d) d) d
noncomputable def QZ:Sm:=λas st k _ d=>aw as (d ()) λself r=>aw r (d ()) λmust r=>aw r (d ()) λesc r=>aw r (d ()) λop _=>dY self λp=>ah (xv p st.x.ts) (UR st k d must esc op) (d ())
noncomputable def BK:Sm:=λas st k _ d=>aw as (d ()) λrow _=>dY row λp=>ah (sG (xv p) st.x.agr) (k (.bool true) st) (d ())
noncomputable def UP (st:St) (k:K) (c:Int) (ts:Ts):af:=aw ts (c0 c (λn=>ag (kL st.x.cells n) false λv=>k v st) (λ_=>false)) λ_ _=>false
noncomputable def QY:Sm:=λas st k _ _=>aw as false λ_ r=>aw r false λat0 _=>cF at0 (UP st k)
end
section
theorem Jt (t e:α):ah true t e=t:=rfl
theorem zo (t e:α):ah false t e=e:=rfl
theorem Ta (b:Bool) (t e:α):ah b t e=if b then t else e:=by cases b<;>rfl
theorem vh (h:ah b x y=true):(b/\x)\/(b=false/\y):=by cases b<;>simp_all [ah]
theorem dK (h:ah b x false=true):b/\x:=by cases b<;>simp_all [ah]
theorem D8 (h:ah b false x=true):b=false/\x:=by cases b<;>simp_all [ah]
theorem ax (h:ah b x false=true) {C:Prop} (k:x->b->C):C:=k (dK h).2 (dK h).1
theorem ib (h:ah b false x=true) {C:Prop} (k:x->b=false->C):C:=k (D8 h).2 (D8 h).1
theorem bA (h:ah b x y=true) {C:Prop} (k:x->b->C) (l:y->b=false->C):C:=(vh h).elim (λh=>k h.2 h.1) λh=>l h.2 h.1
theorem bB (h:(a&&b)) {C:Prop} (k:b->a->C):C:=k (Bool.and_eq_true_iff.mp h).2 (Bool.and_eq_true_iff.mp h).1
theorem aN (a b:Int):cy a b=a+b:=by cases a<;>cases b<;>rfl
theorem dc (a b:Int):lj a b=a*b:=by cases a<;>cases b<;>rfl
theorem nf (a:Int):Ay a= -a:=rfl
theorem bq (a b:Int):d6 a b=a-b:=by unfold d6;exact aa (aN ..) ((Int.sub_eq_add_neg).symm)
set_option tactic.hygienic true in
theorem dv (a b:Int):ed a b=Int.fdiv a b:=by
 cases a<;>cases b<;>rename_i m n<;>cases m<;>cases n<;>first |rfl |(show Int.ofNat (Nat.div 0 _)=0;exact congrArg Int.ofNat (Nat.zero_div _))
set_option tactic.hygienic true in
theorem du (a b:Int):fq a b=Int.fmod a b:=by
 cases a<;>cases b<;>rename_i m n<;>cases m<;>cases n<;>first |rfl |(show Int.ofNat (Nat.mod 0 _)=0;simp)
theorem aY (a b:Int):gW a b=true↔a<=b:=by
 cases a with
 |ofNat m=>cases b with
  |ofNat n=>show Nat.ble m n=true↔_;exact aa Nat.ble_eq ((Int.ofNat_le).symm)
  |negSucc n=>show false=true↔_;simp only[Bool.false_eq_true,false_iff];lia
 |negSucc m=>cases b with
  |ofNat n=>show true=true↔_;simp only[true_iff];simp only[Int.ofNat_eq_natCast];lia
  |negSucc n=>show Nat.ble n m=true↔_;refine aa (Int.negSucc_eq ..) (aa (Int.negSucc_eq ..) ?_);simp
theorem aB (a b:Int):eH a b=true↔a=b:=by
 cases a with
 |ofNat m=>cases b with
  |ofNat n=>show Nat.beq m n=true↔_;exact aa Nat.beq_eq (⟨λh=>by rw[h],λh=>Int.ofNat.inj h⟩)
  |negSucc n=>show false=true↔_;simp
 |negSucc m=>cases b with
  |ofNat n=>show false=true↔_;simp
  |negSucc n=>show Nat.beq m n=true↔_;simp
theorem cU (a b:Int):rk a b=true↔a<b:=by
 unfold rk;have h:=aY b a;cases hb:gW b a with
 |true=>rw[hb]at h;simp[ah];exact h.mp rfl
 |false=>rw[hb]at h;simp[ah];simp at h;omega
theorem uR (h:gW a b=false):b<a:=by
 have:=aY a b;rw[h]at this;simp at this;exact this
theorem T7 (h:rk a b=false):b<=a:=by
 have:=cU a b;rw[h]at this;simp at this;exact this
theorem y0 (h:eH a b=false):a≠b:=by
 have:=aB a b;rw[h]at this;simp at this;exact this
theorem y9 (a b:Int):eH a b=decide (a=b):=by
 cases h:eH a b with
 |true=>exact(dX ((aB a b).mp h)).symm
 |false=>exact(fz (y0 h)).symm
theorem ng (a b:Int):gW a b=decide (a<=b):=by
 cases h:gW a b with
 |true=>exact(dX ((aY a b).mp h)).symm
 |false=>exact(fz (by have:=uR h;simp_all)).symm
theorem sL (a b:Int):C8 a b=min a b:=by
 unfold C8;refine aa (ng ..) ?_;by_cases h:a<=b<;>simp[h]<;>lia
theorem yZ (a b:Int):GZ a b=max a b:=by
 unfold GZ;refine aa (ng ..) ?_;by_cases h:a<=b<;>simp[h]<;>lia
theorem fJ (a:Int):fK a=a.toNat:=by cases a<;>rfl
theorem lh:iZ=0:=rfl
theorem dG:bt=1:=rfl
theorem d7:gJ= -1:=rfl
theorem fR (b:Bool):ji b= !b:=by cases b<;>rfl
theorem zA (a b:Bool):c5 a b=(a&&b):=by cases a<;>rfl
theorem eR (a b:Bool):to a b=(a||b):=by cases a<;>rfl
theorem pH (h:c5 a b):a/\b:=by rw[zA]at h;simpa using h
section
variable{α β:Type}
theorem ee (h:c5 a b) {C:Prop} (k:b->a->C):C:=k (pH h).2 (pH h).1
theorem aX (a b:List α):cq a b=a++b:=by induction a with |nil=>rfl |cons x a ih=>show x::cq a b=_;refine aa ih ?_;rfl
theorem iC (f:α->β) (a:List α):aP f a=a.map f:=by induction a with |nil=>rfl |cons x a ih=>show f x::aP f a=_;refine aa ih ?_;rfl
theorem bp (f:α->Bool) (a:List α):bj f a=a.all f:=by
 induction a with
 |nil=>rfl
 |cons x a ih=>show ah (f x) (bj f a) false=_;refine aa ih (aa List.all_cons ?_);cases f x<;>rfl
theorem GF (f:α->Bool) (a:List α):sG f a=a.any f:=by
 induction a with
 |nil=>rfl
 |cons x a ih=>show ah (f x) true (sG f a)=_;refine aa ih (aa List.any_cons ?_);cases f x<;>rfl
theorem bw (a:List α):dL a=a.length:=by induction a with |nil=>rfl |cons x a ih=>show Nat.succ (dL a)=_;refine aa ih ?_;rfl
theorem GB (a:List α):cL a=a.isEmpty:=by cases a<;>rfl
theorem iE (a:List α) (n:Nat):lY a n=a[n]?:=by
 induction a generalizing n with
 |nil=>rfl
 |cons x a ih=>cases n with
  |zero=>rfl
  |succ n=>show lY a n=_;refine aa (ih ..) ?_;rfl
theorem oN (a:List α) (n:Nat):uJ a n=a.drop n:=by
 induction a generalizing n with
 |nil=>simp;rfl
 |cons x a ih=>cases n with
  |zero=>rfl
  |succ n=>show uJ a n=_;refine aa (ih ..) ?_;rfl
theorem oK (a:List α) (n:Nat):oM a n=a.take n:=by
 induction a generalizing n with
 |nil=>simp;rfl
 |cons x a ih=>cases n with
  |zero=>rfl
  |succ n=>show x::oM a n=_;refine aa (ih ..) ?_;rfl
theorem iA (y:α) (a:List α) (n:Nat):sD y a n=a.set n y:=by
 induction a generalizing n with
 |nil=>rfl
 |cons x a ih=>cases n with
  |zero=>rfl
  |succ n=>show x::sD y a n=_;refine aa (ih ..) ?_;rfl
theorem Lo (f:α->Bool) (a:List α):sF f a=a.filter f:=by
 induction a with
 |nil=>rfl
 |cons x a ih=>show ah (f x) (x::sF f a) (sF f a)=_;refine aa ih (aa List.filter_cons ?_);cases f x<;>rfl
theorem Qz (x:α) (n:Nat):uD x n=List.replicate n x:=by
 induction n with
 |zero=>rfl
 |succ n ih=>show x::uD x n=_;refine aa ih ?_;rfl
end
theorem bG (a b:List Nat):jH a b=true↔a=b:=by
 induction a generalizing b with
 |nil=>cases b<;>simp[jH,cL]
 |cons x a ih=>cases b with
  |nil=>simp[jH]
  |cons y b=>
   show ah (Nat.beq x y) (jH a b) false=true↔_;cases h:Nat.beq x y with
   |true=>show jH a b=true↔_;rw[ih,gB h];simp
   |false=>simp[ah];intro e;exact absurd e (Nat.ne_of_beq_eq_false h)
theorem sH (a b:List Nat):jH a b=decide (a=b):=by
 cases h:jH a b with
 |true=>exact(dX ((bG a b).mp h)).symm
 |false=>exact(fz λe=>by replace h:=((bG a b).mpr e ..)▸h;cases h).symm
theorem Ln (h:GC a b):a=b:=by
 induction a generalizing b with
 |nil=>cases b with |nil=>rfl |cons y b=>simp[GC,cL]at h
 |cons x a ih=>cases b with
  |nil=>simp[GC]at h
  |cons y b=>
   refine ax h λh2 h1=>?_;refine aa ((bG x y).mp h1 ..) ?_;rw[ih h2]
theorem wb (h:qf a b):a=b:=by
 induction a generalizing b with
 |nil=>cases b with |nil=>rfl |cons y b=>simp[qf,cL]at h
 |cons x a ih=>cases b with
  |nil=>simp[qf]at h
  |cons y b=>
   refine ax h λh2 h1=>?_;refine ax h2 λh3 h2=>?_;refine aa (ih h3) ?_;rw[show x=y from Prod.ext (gB h1) ((aB _ _).mp h2)]
noncomputable def ev (ν:List Int):Ts->Int
 |[]=>0
 |(v,a)::r=>a*ν.getD v 0+ev ν r
def Df (ν:List Int) (ts:Ts):Prop:=∀p∈ts,p.1<ν.length
theorem d8 (ν:List Int):ev ν []=0:=rfl
theorem aU (ν:List Int) (p:Nat×Int) (r:Ts):ev ν (p::r)=p.2*ν.getD p.1 0+ev ν r:=rfl
theorem jg (ν:List Int) (a b:Ts):ev ν (a++b)=ev ν a+ev ν b:=by
 induction a with
 |nil=>simp[ev]
 |cons p a ih=>refine aa List.cons_append (aa (aU ..) (aa ih ?_));exact Eq.symm (Int.add_assoc (p.snd*ν.getD p.fst 0) (ev ν a) (ev ν b))
theorem Df.nil (ν:List Int):Df ν []:=λ_ h=>nomatch h
theorem Df.cons (h:p.1<ν.length) (hr:Df ν r):Df ν (p::r):=λq hq=>by
 rcases bk.mp hq with rfl |hq
 ·exact h
 ·exact hr q hq
theorem Df.head {r:Ts} (h:Df ν (p::r)):p.1<ν.length:=h p (aL ..)
theorem Df.tail {r:Ts} (h:Df ν (p::r)):Df ν r:=λq hq=>h q (bc _ hq)
theorem Df.app (ha:Df ν a) (hb:Df ν b):Df ν (a++b):=λq hq=>(List.mem_append.mp hq).elim (ha q) (hb q)
theorem cr (h:ν <+:ν') (d:Df ν ts):ev ν' ts=ev ν ts:=by
 refine kX h λe ee0=>?_;subst ee0
 induction ts with
 |nil=>rfl
 |cons p r ih=>refine aa (aU ..) (aa (aU ..) (aa (ih d.tail) ?_));simp only[iw,List.getElem?_append_left d.head]
theorem Df.mono (h:ν <+:ν') (d:Df ν ts):Df ν' ts:=λp hp=>jG (d p hp) h.length_le
theorem EG (v:Nat) (x:Int) (a:Ts) (rec:Ts->Ts) (ν:List Int) (hrec:∀b,Df ν b->ev ν (rec b)=ev ν a+ev ν b/\Df ν (rec b)) (hv:v<ν.length) (ha:Df ν a):
  ∀b,Df ν b->ev ν (vJ v x a rec b)=x*ν.getD v 0+ev ν a+ev ν b/\Df ν (vJ v x a rec b):=by
 intro b
 induction b with
 |nil=>intro _;refine⟨?_,Df.cons hv ha⟩;refine aa (aU ..) (aa (d8 ..) ?_);lia
 |cons q b ih=>
  intro hb;have ih:=ih hb.tail;show ev ν (ah (Nat.blt v q.1) ((v,x)::rec (q::b)) (ah (Nat.blt q.1 v) (q::vJ v x a rec b) (ah (eH (cy x q.2) iZ) (rec b) ((v,cy x q.2)::rec b))))=_/\Df ν (ah (Nat.blt v q.1) ((v,x)::rec (q::b)) (ah (Nat.blt q.1 v) (q::vJ v x a rec b) (ah (eH (cy x q.2) iZ) (rec b) ((v,cy x q.2)::rec b))));cases h1:Nat.blt v q.1 with
  |true=>
   refine kN (hrec _ hb) λe d=>?_;refine⟨?_,Df.cons hv d⟩;refine aa (aU ..) (aa e ?_);exact Eq.symm (Int.add_assoc (x*ν.getD v 0) (ev ν a) (ev ν (q::b)))
  |false=>
   cases h2:Nat.blt q.1 v with
   |true=>
    refine⟨?_,Df.cons hb.head ih.2⟩;refine aa (aU ..) (aa ih.1 ?_);exact Int.add_left_comm (q.snd*ν.getD q.fst 0) (x*ν.getD v 0+ev ν a) (ev ν b)
   |false=>
    have hq:q.1=v:=by
     have a1:¬v<q.1:=λz=>by replace h1:=((Nat.blt_eq).mpr z ..)▸h1;cases h1
     have a2:¬q.1<v:=λz=>by replace h2:=((Nat.blt_eq).mpr z ..)▸h2;cases h2
     lia
    refine kN (hrec _ hb.tail) λe d=>?_;have key:(x+q.2)*ν.getD v 0=x*ν.getD v 0+q.2*ν.getD q.1 0:=by refine aa hq ?_;rw[Int.add_mul]
    cases h3:eH (cy x q.2) iZ with
    |true=>
     have z:=(aB _ _).mp h3;rw[aN]at z;refine⟨?_,d⟩;refine aa e (aa (aU ..) ?_);rw[show x+q.2=0 from z,Int.zero_mul]at key;lia
    |false=>
     refine⟨?_,Df.cons hv d⟩;refine aa (aU ..) (aa e (aa (aU ..) (aa (aN ..) ?_)));lia
theorem cE (ν:List Int):∀(a b:Ts),Df ν a->Df ν b->ev ν (fS a b)=ev ν a+ev ν b/\Df ν (fS a b):=by
 intro l0
 induction l0 with
 |nil=>
  intro b ha hb;exact by refine⟨?_,hb⟩;show ev ν b=_;simp[ev]
 |cons p a ih=>
  intro b ha hb;have:=EG p.1 p.2 a (fS a) ν (λb hb=>ih b ha.tail hb) ha.head ha.tail b hb;exact this
theorem cQ (ν:List Int) (m:Int) (a:Ts) (ha:Df ν a):ev ν (fG m a)=m*ev ν a/\Df ν (fG m a):=by
 unfold fG;cases h:eH m iZ with
 |true=>exact aa ((aB _ _).mp h ..) (⟨by simp[ev,iZ],Df.nil ν⟩)
 |false=>
  refine aa (iC ..) ?_
  induction a with
  |nil=>exact⟨by simp[ev],Df.nil ν⟩
  |cons p a ih=>
   refine kN (ih ha.tail) λe d=>?_;refine⟨?_,Df.cons ha.head d⟩;refine aa fy ?_;refine aa (aU ..) ?_;refine aa e ?_;rw[aU,dc,Int.mul_add,Int.mul_comm p.2 m,Int.mul_assoc]
def jq (x:Int):gA->Prop
 |.unb=>True
 |.iv lo hi ex=>lo<=x/\x<=hi/\x∉ex
structure Dm (ν:List Int) (d:List gA):Prop where
 len:ν.length=d.length
 fit:∀v,v<ν.length->jq (ν.getD v 0) (bK d v)
theorem dw (d:List gA) (v:Nat):bK d v=(d[v]?).getD .unb:=by
 unfold bK;refine aa (iE ..) ?_;cases d[v]?<;>rfl
theorem oZ (x:Int) (l:List Int):De x l=true↔x∈l:=by
 unfold De;refine aa (GF ..) ?_;rw[List.any_eq_true];constructor
 ·rintro⟨y,hy,e⟩;exact aa ((aB x y).mp e ..) (hy)
 ·intro h;exact⟨x,h,(aB x x).mpr rfl⟩
noncomputable def uE (d:List gA) (v:Nat):Int:=match bK d v with |.iv lo _ _=>lo |.unb=>0
noncomputable def mo (d:List gA):Ts->Int
 |[]=>0
 |p::r=>uE d p.1+mo d r
theorem pE (D:Dm ν d):∀(ts:Ts) (l h:Int) (k:KL) (u:Th),Df ν ts->ny d ts l h k u=true->
  u ()=true\/E2 λlo hi=>k lo hi=true/\(mi ts->lo=l+mo d ts)/\∀z,l<=z->z<=h->lo<=z+ev ν ts/\z+ev ν ts<=hi:=by
 intro l0
 induction l0 with
 |nil=>
  intro l h k u df e;exact .inr ⟨l,h,e,λ_=>by simp[mo],λz h1 h2=>by simp[ev];exact⟨h1,h2⟩⟩
 |cons p r ih=>
  intro l h k u df e;have F:=D.fit p.1 df.head;have e:jQ (bK d p.1) (u ()) (ML p.2 (ny d r) l h k u)=true:=e;cases hd:bK d p.1 with
  |unb=>rw[hd]at e;exact .inl e
  |iv lo hi ex=>
   rw[hd]at e F;have hl:uE d p.1=lo:=by unfold uE;rw[hd]
   refine iP F λf1 f2 _=>?_;refine bA e (λe s=>?_) λe s=>?_
   ·have s:=(aY _ _).mp s;rcases ih _ _ k u df.tail e with x |⟨a,b,x,w,y⟩
    ·exact .inl x
    ·refine .inr ⟨a,b,x,λo=>?_,λz z1 z2=>?_⟩
     ·refine kN (dK (show ah (eH p.2 bt) (mi r) false=true from o)) λo1 o2=>?_;refine aa (w o2) (aa (aN ..) (aa (dc ..) (aa ((aB _ _).mp o1 ..) (aa dG ?_))));simp only[mo,hl];simp+arith
     ·rw[aU,<-Int.add_assoc];refine y (z+p.2*ν.getD p.1 0) ?_ ?_
      ·refine aa (aN ..) (aa (dc ..) ?_);have:=Int.mul_le_mul_of_nonneg_left f1 s;exact Int.add_le_add z1 this
      ·refine aa (aN ..) (aa (dc ..) ?_);have:=Int.mul_le_mul_of_nonneg_left f2 s;exact Int.add_le_add z2 this
   ·have s:=uR s;rcases ih _ _ k u df.tail e with x |⟨a,b,x,w,y⟩
    ·exact .inl x
    ·refine .inr ⟨a,b,x,λo=>?_,λz z1 z2=>?_⟩
     ·refine kN (dK (show ah (eH p.2 bt) (mi r) false=true from o)) λo1 o2=>?_;have:=(aB _ _).mp o1;rw[this]at s;exact absurd s (by decide)
     ·rw[aU,<-Int.add_assoc];have s':=Int.le_of_lt s;refine y (z+p.2*ν.getD p.1 0) ?_ ?_
      ·refine aa (aN ..) (aa (dc ..) ?_);have:=Int.mul_le_mul_of_nonpos_left s' f2;exact Int.add_le_add z1 this
      ·refine aa (aN ..) (aa (dc ..) ?_);have:=Int.mul_le_mul_of_nonpos_left s' f1;exact Int.add_le_add z2 this
theorem ey (D:Dm ν d) {c:Int} (df:Df ν ts) (e:ny d ts c c k no=true):E2 λlo hi=>k lo hi=true/\(mi ts->lo=c+mo d ts)/\lo<=c+ev ν ts/\c+ev ν ts<=hi:=by
 refine(pE D ts c c k no df e).elim (λx=>?_) λz=>fp z λa b x w y=>?_
 ·exact ao x
 ·exact⟨a,b,x,w,y c (eG _) (eG _)⟩
theorem yG (D:Dm ν d):∀(ts:Ts) (c:Int) (acc:Ts) (k:KT),Df ν ts->Df ν acc->Ag d ts c acc k=true->
  E2 λc' ts'=>A3 (k c' ts'=true) (Df ν ts') (c'+ev ν ts'=c+ev ν acc+ev ν ts):=by
 intro l0
 induction l0 with
 |nil=>
  intro c acc k df da e;exact⟨c,acc,e,da,by simp[ev]⟩
 |cons p r ih=>
  intro c acc k df da e;have F:=D.fit p.1 df.head;have da':Df ν (cq acc [p]):=aa (aX ..) (da.app (Df.cons df.head (Df.nil ν)));have ea:ev ν (cq acc [p])=ev ν acc+p.2*ν.getD p.1 0:=by refine aa (aX ..) (aa (jg ..) ?_);simp[ev]
  have e:jQ (bK d p.1) (Ag d r c (cq acc [p]) k) (IO p (Ag d r) c acc k)=true:=e;have plain:Ag d r c (cq acc [p]) k->E2 λc' ts'=>A3 (k c' ts'=true) (Df ν ts') (c'+ev ν ts'=c+ev ν acc+ev ν (p::r)):=λe=>by
   exact ak (ih c _ k df.tail da' e) λc' ts' x y z=>⟨c',ts',x,y,by refine aa z (aa ea (aa (aU ..) ?_));lia⟩
  cases hd:bK d p.1 with
  |unb=>replace e:=hd▸e;exact plain e
  |iv lo hi ex=>
   rw[hd]at e;refine bA e (λe s=>?_) λe _=>?_
   ·have s:=(aB _ _).mp s;have hx:ν.getD p.1 0=lo:=by rw[hd]at F;refine iP (F) λa b _=>?_;lia
    refine ak (ih _ acc k df.tail da e) λc' ts' x y z=>?_;refine⟨c',ts',x,y,?_⟩;refine aa z (aa (aN ..) (aa (dc ..) (aa (aU ..) (aa hx ?_))));simp+arith
   ·exact plain e
def cz (st st':St):Prop:=st'.t=st.t/\st'.n=st.n/\st'.mm=st.mm/\st'.g=st.g/\st'.x=st.x/\st'.fl=st.fl
theorem cz.refl (st:St):cz st st:=⟨rfl,rfl,rfl,rfl,rfl,rfl⟩
theorem cz.trans (x:cz a b) (y:cz b c):cz a c:=by
 exact gQ x λx1 x2 x3 x4 x5 x6=>gQ y λy1 y2 y3 y4 y5 y6=>⟨y1.trans x1,y2.trans x2,y3.trans x3,y4.trans x4,y5.trans x5,y6.trans x6⟩
def Qe (v:Nat) (lo:Int) (st st':St):Prop:=(∀u,u≠v->bK st'.d u=bK st.d u)/\E3 λa b ex=>bK st'.d v=.iv a b ex/\lo<=a
theorem F9 {st:St} (D:Dm ν st.d) {lo hi:Int} (hv:v<ν.length) (hx:jq (ν.getD v 0) (.iv lo hi ex)) (e:NO st v (.iv lo hi ex) k=true):
  ∃st',A4 (k st'=true) (cz st st') (Dm ν st'.d) (Qe v lo st st'):=by
 obtain⟨t,n,d,mm,g,y,f⟩:=st;have self:bK (sD (gA.iv lo hi ex) d v) v=.iv lo hi ex:=by
  simp only[dw,iA];refine aa (List.getElem?_set_self (by refine bI D.len ?_;exact hv) ..) ?_;rfl
 have other:∀u,u≠v->bK (sD (gA.iv lo hi ex) d v) u=bK d u:=λu q=>by
  simp only[dw,iA];rw[List.getElem?_set_ne (Ne.symm q)]
 refine⟨_,e,⟨rfl,rfl,rfl,rfl,rfl,rfl⟩,⟨by simp only[iA,List.length_set];exact D.len,λu hu=>?_⟩,other,_,_,_,self,eG _⟩
 by_cases q:u=v
 ·refine aa q ?_;simp only[self];exact hx
 ·simp only[other u q];exact D.fit u hu
theorem Af (x:Int):∀(fuel:Nat) (lo hi:Int) (ex:List Int) (k:KL),Ck fuel lo hi ex k=true->lo<=x->x<=hi->x∉ex->E2 λlo' hi'=>A4 (k lo' hi'=true) (lo'<=x) (x<=hi') (lo<=lo'):=by
 intro l0
 induction l0 with
 |zero=>
  intro lo hi ex k e h1 h2 h3;exact⟨lo,hi,e,h1,h2,eG _⟩
 |succ n ih=>
  intro lo hi ex k e h1 h2 h3;refine bA e (λe _=>?_) λe _=>?_
  ·exact⟨lo,hi,e,h1,h2,eG _⟩
  refine bA e (λe _=>?_) λe _=>?_
  ·refine bA e (λe s=>?_) λe _=>?_
   ·have:=(oZ _ _).mp s;exact cJ (ih _ hi ex k e (by refine aa (aN ..) (aa dG ?_);have:x≠lo:=λq=>h3 (q▸this);lia) h2 h3) λa b x1 x2 x3 x4=>⟨a,b,x1,x2,x3,by rw[aN]at x4;exact Int.le_of_lt x4⟩
   ·refine bA e (λe s=>?_) λe _=>?_
    ·have:=(oZ _ _).mp s;exact ih lo _ ex k e h1 (by refine aa (aN ..) (aa d7 ?_);have:x≠hi:=λq=>h3 (q▸this);lia) h3
    ·exact⟨lo,hi,e,h1,h2,eG _⟩
  ·exact⟨lo,hi,e,h1,h2,eG _⟩
theorem qT {st:St} (D:Dm ν st.d) {lo hi:Int} {ex:List Int} {k:St->af} (hv:v<ν.length) (h1:lo<=ν.getD v 0) (h2:ν.getD v 0<=hi) (h3:ν.getD v 0∉ex) (e:refine st v lo hi ex k=true):
  ∃st',A4 (k st'=true) (cz st st') (Dm ν st'.d) (Qe v lo st st'):=by
 refine hG λCC hCC=>?_;refine cJ (Af _ 20 lo hi ex _ e h1 h2 h3) λa b e h1' h2' h4=>?_;refine bA e (λe _=>?_) λ_ s=>?_
 ·refine GM (F9 D hv (⟨h1',h2',h3⟩) e) λst' y1 y2 y3 zz1=>?_;obtain⟨y4,a',b',ex',y5,y6⟩:=zz1;refine hCC ?_;exact⟨st',y1,y2,y3,y4,a',b',ex',y5,Int.le_trans h4 y6⟩
 ·have:=uR s;lia
theorem DX (D:Dm ν d) {lo hi:Int} (h:bK d v=.iv lo hi ex):v<ν.length:=by
 rw[dw]at h;refine aa D.len ?_;cases q:d[v]? with
 |none=>replace h:=(q ..)▸h;cases h
 |some x=>exact(List.getElem?_eq_some_iff.mp q).1
theorem Dm.at (D:Dm ν d) {lo hi:Int} (h:bK d v=.iv lo hi ex):v<ν.length/\lo<=ν.getD v 0/\ν.getD v 0<=hi/\ν.getD v 0∉ex:=by
 have:=D.fit v (DX D h);rw[h]at this;exact⟨DX D h,this⟩
end
section
section
variable{ν:List Int}
def Iq (ν:List Int) (f:Fj) (P:Int->Bool):Prop:=∀c ts st (k:KB),Dm ν st.d->Df ν ts->f c ts st k->∃st',A3 (k (P (c+ev ν ts)) st') (cz st st') (Dm ν st'.d)
theorem d9 {st:St} (D:Dm ν st.d) {lo hi:Int} (hv:v<ν.length) (h1:lo<=ν.getD v 0) (h2:ν.getD v 0<=hi) (h3:ν.getD v 0∉ex) (e:refine st v lo hi ex k=true):
  ∃st',A3 (k st'=true) (cz st st') (Dm ν st'.d):=GM (qT D hv h1 h2 h3 e) λa b c d _=>⟨a,b,c,d⟩
theorem Dh {st:St} (D:Dm ν st.d) {l h:Int} (hd:bK st.d v=.iv l h ex) (e:Jl st k v l h ex=true):∃st',A3 (k st'=true) (cz st st') (Dm ν st'.d):=by
 refine jI (D.at hd) λh0 h1 h2 h3=>?_;refine ee e λb a=>?_
 by_cases q:ν.getD v 0<=ed (cy l h) (.ofNat 2)
 ·exact d9 D h0 h1 q h3 a
 ·exact d9 D h0 (by refine aa (aN ..) (aa dG ?_);lia) h2 h3 b
theorem HM (ts:Ts):∀(v a:Nat) (k:Nat->af),PE ts v a k=true->∃u,k u=true:=by
 induction ts with
 |nil=>intro v a k e;exact⟨v,e⟩
 |cons p r ih=>
  intro v a k e;refine bA e (λe _=>?_) λe _=>?_<;>exact ih _ _ _ e
theorem uS {st:St} (D:Dm ν st.d) (e:Dg st ts k=true):∃st',A3 (k st'=true) (cz st st') (Dm ν st'.d):=by
 refine kX (HM _ _ _ _ e) λv e=>?_;cases hd:bK st.d v with
 |unb=>rw[hd]at e;exact ao e
 |iv l h ex=>rw[hd]at e;exact Dh D hd e
theorem z6 (bound lo:Int):∀(ts:Ts) (st:St) (k:St->af),Dm ν st.d->Df ν ts->(∀p∈ts,∀l h ex,bK st.d p.1=.iv l h ex->ν.getD p.1 0<=bound-(lo-l))->j6 bound lo ts st k=true->
  ∃st',A3 (k st'=true) (cz st st') (Dm ν st'.d):=by
 intro l0
 induction l0 with
 |nil=>
  intro st k D df hb e;exact⟨st,e,cz.refl st,D⟩
 |cons p r ih=>
  intro st k D df hb e;have e:jQ (bK st.d p.1) false (ND bound lo p.1 (j6 bound lo r) st k)=true:=e;cases hd:bK st.d p.1 with
  |unb=>replace e:=hd▸e;exact ao e
  |iv l h ex=>
   replace e:=(hd ..)▸e;refine jI (D.at hd) λh0 h1 h2 h3=>?_;have hx:=hb p (aL ..) l h ex hd;refine GM (qT D h0 h1 (by refine aa (sL ..) (aa (bq ..) (aa (bq ..) ?_));lia) h3 e) λst₁ e₁ s₁ D₁ zz2=>?_;obtain⟨o₁,a,b,ex',o₂,o₃⟩:=zz2;obtain⟨st₂,e₂,s₂,D₂⟩:=ih st₁ k D₁ df.tail (λq hq l' h' ex'' hd'=>by
    by_cases z:q.1=p.1
    ·rw[z]at hd' ⊢;replace hd':=(o₂ ..)▸hd';cases hd';lia
    ·rw[o₁ _ z]at hd';exact hb q (bc _ hq) l' h' ex'' hd') e₁
   exact⟨st₂,e₂,s₁.trans s₂,D₂⟩
theorem uY (ha:0<a):0<=c+a*x↔-(Int.fdiv c a)<=x:=by
 refine aa (Int.fdiv_eq_ediv_of_nonneg c (Int.le_of_lt ha) ..) ?_;constructor
 ·intro h;have:-x<=c / a:=(Int.le_ediv_iff_mul_le ha).mpr (by refine aa (Int.neg_mul ..) ?_;lia);exact Int.neg_le_of_neg_le this
 ·intro h;have:=(Int.le_ediv_iff_mul_le ha).mp (show -x<=c / a by exact Int.neg_le_of_neg_le h);lia
theorem uZ (ha:a<0):0<=c+a*x↔x<=Int.fdiv c (-a):=by
 rw[Int.fdiv_eq_ediv_of_nonneg c (by lia)];rw[Int.le_ediv_iff_mul_le (Int.neg_pos_of_neg ha),Int.mul_comm x (-a),Int.neg_mul];exact Int.add_nonneg_iff_neg_le
theorem BI (D:Dm ν d):∀ts:Ts,Df ν ts->mi ts->(∀p∈ts,bK d p.1≠.unb)->mo d ts<=ev ν ts/\∀p∈ts,mo d ts-uE d p.1<=ev ν ts-ν.getD p.1 0:=by
 intro l0
 induction l0 with
 |nil=>
  intro df o hu;exact⟨eG _,λ_ h=>nomatch h⟩
 |cons p r ih=>
  intro df o hu;refine ax o λo2 o1=>?_;refine kN (ih df.tail o2 λq hq=>hu q (bc _ hq)) λa b=>?_;have hp:uE d p.1<=ν.getD p.1 0:=by
   unfold uE;cases hd:bK d p.1 with
   |unb=>exact absurd hd (hu p (aL ..))
   |iv l h ex=>exact(D.at hd).2.1
  refine aa (aU ..) (aa ((aB _ _).mp o1) (aa (Int.one_mul ..) ?_));simp only[mo];refine⟨Int.add_le_add hp a,λq hq=>?_⟩;rcases bk.mp hq with rfl |hq
  ·lia
  ·have:=b q hq;lia
theorem MK:∀(ts:Ts) (l h:Int) (k:KL),ny d ts l h k no=true->∀p∈ts,bK d p.1≠.unb:=by
 intro l0
 induction l0 with
 |nil=>
  intro l h k e q hq;exact nomatch hq
 |cons p r ih=>
  intro l h k e q hq;have e:jQ (bK d p.1) (no ()) (ML p.2 (ny d r) l h k no)=true:=e;cases hd:bK d p.1 with
  |unb=>rw[hd]at e;exact ao e
  |iv lo hi ex=>
   rw[hd]at e;rcases bk.mp hq with rfl |hq
   ·refine aa hd ?_;intro z;cases z
   ·have e:=e;refine bA e (λe _=>?_) λe _=>?_<;>exact ih _ _ k e q hq
theorem rz:∀fuel,Iq ν (sY fuel) (λz=>decide (0<=z))
 |0=>λc ts st k _ _ e=>ao e
 |n+1=>λc ts st k D df e=>by
  refine ak (yG D ts c [] (Uq (sY n) st k) df (Df.nil ν) e) λc' ts' e df' hz=>?_;have hz:c+ev ν ts=c'+ev ν ts':=by refine aa hz ?_;simp[ev]
  refine aa hz ?_;simp only[];cases ts' with
  |nil=>
   have e:k (gW iZ c') st:=e;rw[ng]at e;exact⟨st,by rw[show c'+ev ν []=c' from Int.add_zero _];exact e,cz.refl st,D⟩
  |cons p r=>
   have e:ny st.d (p::r) c' c' (Up (sY n) st k c' (p::r) p r) no:=e;have hbd:=MK _ _ _ _ e;refine er (ey D df' e) λlo hi e hlo b1 b2=>?_;refine bA e (λe s=>?_) λe s=>?_
   ·have s:=(aY _ _).mp s;exact⟨st,by refine aa (dX (Int.le_trans s b1) ..) ?_;exact e,cz.refl st,D⟩
   refine bA e (λe s2=>?_) λe s2=>?_
   ·have s2:=(cU _ _).mp s2;exact⟨st,by refine aa (fz (by have:iZ=0:=rfl;lia) ..) ?_;exact e,cz.refl st,D⟩
   cases r with
   |nil=>
    cases hd:bK st.d p.1 with
    |unb=>exact absurd hd (hbd p (aL ..))
    |iv l h ex=>
     replace e:=(hd ..)▸e;refine jI (D.at hd) λh0 h1 h2 h3=>?_;have hv:ev ν [p]=p.2*ν.getD p.1 0:=by simp[ev]
     refine aa hv ?_;refine bA e (λe s=>?_) λe s=>?_
     ·have s:=(cU _ _).mp s;refine ee e λb a=>?_;rw[nf,dv]at a b;have hx:=uY (c:=c') (x:=ν.getD p.1 0) s
      by_cases q:0<=c'+p.2*ν.getD p.1 0
      ·refine aa (dX q) ?_;exact d9 D h0 (by refine aa (yZ ..) ?_;have:=hx.mp q;omega) h2 h3 a
      ·refine aa (fz q) ?_;exact d9 D h0 h1 (by refine aa (sL ..) (aa (aN ..) (aa d7 ?_));have:¬_:=λz=>q (hx.mpr z);omega) h3 b
     ·refine bA e (λe s'=>?_) λe _=>?_
      ·have s':=(cU _ _).mp s';refine ee e λb a=>?_;rw[nf,dv]at a b;have hx:=uZ (c:=c') (x:=ν.getD p.1 0) s'
       by_cases q:0<=c'+p.2*ν.getD p.1 0
       ·refine aa (dX q) ?_;exact d9 D h0 h1 (by refine aa (sL ..) ?_;have:=hx.mp q;omega) h3 a
       ·refine aa (fz q) ?_;exact d9 D h0 (by refine aa (yZ ..) (aa (aN ..) (aa dG ?_));have:¬_:=λz=>q (hx.mpr z);omega) h2 h3 b
      ·exact ao e
   |cons p' r'=>
    refine bA e (λe s=>?_) λe _=>?_
    ·refine ee e λb a=>?_
     by_cases q:0<=c'+ev ν (p::p'::r')
     ·rw[dX q];exact⟨st,a,cz.refl st,D⟩
     ·rw[fz q];refine kN (BI D _ df' s hbd) λ_ hs=>?_;refine z6 _ _ _ st (k false) D df' (λu hu l h ex hd=>?_) b;have h1:=hs u hu;have h2:uE st.d u.1=l:=by unfold uE;rw[hd]
      refine aa (bq ..) (aa (bq ..) (aa d7 ?_));lia
    ·exact l3 (uS D e) λst₁ e s₁ D₁=>l3 (rz n c' _ st₁ k D₁ df' e) λst₂ e s₂ D₂=>⟨st₂,e,s₁.trans s₂,D₂⟩
theorem lw:Iq ν AR (λz=>decide (0<=z)):=λc ts st k D df e=>by
 cases ts with
 |nil=>
  have e:k (gW iZ c) st:=e;rw[ng]at e;exact⟨st,by rw[show c+ev ν []=c from Int.add_zero _];exact e,cz.refl st,D⟩
 |cons p r=>exact rz Fu c _ st k D df e
theorem rA:∀fuel,Iq ν (xL fuel) (λz=>decide (0=z))
 |0=>λc ts st k _ _ e=>ao e
 |n+1=>λc ts st k D df e=>by
  refine ak (yG D ts c [] (Ur (xL n) st k) df (Df.nil ν) e) λc' ts' e df' hz=>?_;have hz:c+ev ν ts=c'+ev ν ts':=by refine aa hz ?_;simp[ev]
  refine aa hz ?_;simp only[];cases ts' with
  |nil=>
   have e:k (eH iZ c') st:=e;rw[y9]at e;exact⟨st,by rw[show c'+ev ν []=c' from Int.add_zero _];exact e,cz.refl st,D⟩
  |cons p r=>
   refine er (ey D df' e) λlo hi e hlo b1 b2=>?_;refine bA e (λe s=>?_) λe s=>?_
   ·rw[eR,Bool.or_eq_true,cU,cU]at s;exact⟨st,by refine aa (fz (by have:iZ=0:=rfl;lia) ..) ?_;exact e,cz.refl st,D⟩
   cases r with
   |nil=>
    cases hd:bK st.d p.1 with
    |unb=>replace e:=(hd ..)▸e;exact ao e
    |iv l h ex=>
     replace e:=(hd ..)▸e;refine jI (D.at hd) λh0 h1 h2 h3=>?_;have hv:ev ν [p]=p.2*ν.getD p.1 0:=by simp[ev]
     refine aa hv ?_;have hr:=Int.mul_fdiv_add_fmod c' p.2;refine ib e λe s=>?_;refine bA e (λe s2=>?_) λe s2=>?_
     ·have s2:=(aB _ _).mp s2;rw[du,lh]at s2;rw[nf,dv]at e;have key:c'+p.2*ν.getD p.1 0=p.2*(Int.fdiv c' p.2+ν.getD p.1 0):=by refine aa (Int.mul_add ..) ?_;omega
      have hx:(0=c'+p.2*ν.getD p.1 0)↔ν.getD p.1 0= -(Int.fdiv c' p.2):=by
       refine aa key ?_;constructor
       ·intro z;rcases Int.mul_eq_zero.mp z.symm with z |z
        ·exact absurd z (y0 s)
        ·exact Eq.symm (Int.neg_eq_of_add_eq_zero z)
       ·intro z;refine aa z ?_;refine aa (Int.add_right_neg ..) ?_;rw[Int.mul_zero]
      refine bA e (λe s3=>?_) λe s3=>?_
      ·rw[eR,eR,Bool.or_eq_true,Bool.or_eq_true,cU,cU,oZ]at s3;refine⟨st,?_,cz.refl st,D⟩;rw[fz]
       ·exact e
       ·intro z;have z:=hx.mp z;rcases s3 with q |q |q
        ·omega
        ·omega
        ·rw[<-z]at q;exact h3 q
      ·refine ee e λb a=>?_
       by_cases q:ν.getD p.1 0= -(Int.fdiv c' p.2)
       ·exact aa (dX (hx.mpr q) ..) (d9 D h0 (Int.le_of_eq q.symm) (Int.le_of_eq q) h3 a)
       ·exact aa (fz λz=>q (hx.mp z) ..) (d9 D h0 h1 h2 (λz=>(bk.mp z).elim q h3) b)
     ·have s2:=y0 s2;rw[du]at s2;refine⟨st,?_,cz.refl st,D⟩;rw[fz]
      ·exact e
      ·intro z;have hc:c'=p.2*(-(ν.getD p.1 0)):=by refine aa (Int.mul_neg ..) ?_;lia
       apply s2;exact aa hc (Int.mul_fmod_right _ _)
   |cons p' r'=>
    exact l3 (uS D e) λst₁ e s₁ D₁=>l3 (rA n c' _ st₁ k D₁ df' e) λst₂ e s₂ D₂=>⟨st₂,e,s₁.trans s₂,D₂⟩
theorem zm:Iq ν HQ (λz=>decide (0=z)):=λc ts st k D df e=>by
 cases ts with
 |nil=>
  have e:k (eH iZ c) st:=e;rw[y9]at e;exact⟨st,by rw[show c+ev ν []=c from Int.add_zero _];exact e,cz.refl st,D⟩
 |cons p r=>exact rA Fu c _ st k D df e
theorem eg {st:St} (D:Dm ν st.d) {c:Int} (df:Df ν ts) (e:iM st c ts k u=true):k (c+ev ν ts)=true\/u ()=true:=by
 cases ts with
 |nil=>exact .inl (by simpa[ev]using(show k c=true from e))
 |cons p r=>
  refine(pE D _ _ _ _ _ df e).elim (λx=>?_) λz=>fp z λlo hi x _ y=>?_
  ·exact .inr x
  ·refine bA x (λx s=>?_) λx _=>?_
   ·have s:=(aB _ _).mp s;refine kN (y c (eG _) (eG _)) λy1 y2=>?_;have:lo=c+ev ν (p::r):=by lia
    rw[this]at x;exact .inl x
   ·exact .inr x
end
end
section
def tB (ν:List Int):vO->Int->Prop
 |.fdiv c ts m,x=>Df ν ts/\x=Int.fdiv (c+ev ν ts) m
 |.fmod c ts m,x=>Df ν ts/\x=Int.fmod (c+ev ν ts) m
 |.pow2 c ts,x=>Df ν ts/\x=2 ^ (c+ev ν ts).toNat
def EZ (ν:List Int) (mm:List (vO×Nat)):Prop:=∀p∈mm,p.2<ν.length/\tB ν p.1 (ν.getD p.2 0)
structure dn (ν:List Int) (st:St):Prop where
 dom:Dm ν st.d
 memo:EZ ν st.mm
def dS (st st':St):Prop:=st'.t=st.t/\st'.n=st.n/\st'.g=st.g/\st'.x=st.x/\st'.fl=st.fl
theorem dS.refl (st:St):dS st st:=⟨rfl,rfl,rfl,rfl,rfl⟩
theorem dS.trans (x:dS a b) (y:dS b c):dS a c:=by
 exact yQ x λx1 x2 x3 x4 x5=>yQ y λy1 y2 y3 y4 y5=>⟨y1.trans x1,y2.trans x2,y3.trans x3,y4.trans x4,y5.trans x5⟩
theorem cz.s (x:cz a b):dS a b:=⟨x.1,x.2.1,x.2.2.2.1,x.2.2.2.2.1,x.2.2.2.2.2⟩
theorem dn.b {a b:St} (x:dn ν a) (s:cz a b) (d:Dm ν b.d):dn ν b:=⟨d,by refine aa s.2.2.1 ?_;exact x.memo⟩
def VI (ν:List Int) (v:V) (z:Int):Prop:=v=.int z\/E2 λc ts=>A3 (v=.lin c ts) (Df ν ts) (c+ev ν ts=z)
theorem VI.mono (h:ν <+:ν') (x:VI ν v z):VI ν' v z:=by
 refine x.elim (λx=>?_) λz=>ak z λc ts a b e=>?_
 ·exact .inl x
 ·exact .inr ⟨c,ts,a,b.mono h,by refine aa (cr h b) ?_;exact e⟩
theorem gI {c:Int} {ts:Ts} {z:Int} (d:Df ν ts) (e:c+ev ν ts=z):VI ν (mk c ts) z:=by
 cases ts with
 |nil=>exact .inl (by refine bI e ?_;simp[ev];rfl)
 |cons p r=>exact .inr ⟨c,_,rfl,d,e⟩
theorem ym (e:cF x k=true):E2 λc ts=>k c ts=true/\((x=.int c/\ts=[])\/x=.lin c ts):=by
 cases x<;>first |cases e |exact⟨_,_,e,.inl ⟨rfl,rfl⟩⟩ |exact⟨_,_,e,.inr rfl⟩
theorem bQ (h:VI ν x z) (e:cF x k=true):E2 λc ts=>A3 (k c ts=true) (Df ν ts) (c+ev ν ts=z):=by
 rcases h with rfl |⟨c,ts,rfl,d,q⟩
 ·exact⟨z,[],e,Df.nil ν,Int.add_zero z⟩
 ·exact⟨c,ts,e,d,q⟩
def IP (ν:List Int) (st:St) (k:K) (z:Int):Prop:=E3 λν' v st'=>A5 (ν <+:ν') (k v st') (VI ν' v z) (dS st st') (dn ν' st')
theorem IP.now {ν:List Int} {st:St} {k:K} (D:dn ν st) (h:VI ν v z) (e:k v st=true):IP ν st k z:=⟨ν,v,st,dN ν,e,h,dS.refl st,D⟩
theorem tB.mono (h:ν <+:ν') (q:tB ν key x):tB ν' key x:=by
 cases key<;>exact⟨q.1.mono h,by refine aa (cr h q.1) ?_;exact q.2⟩
theorem jB {ν ν':List Int} (h:ν <+:ν') {n:Nat} (hn:n<ν.length):ν'.getD n 0=ν.getD n 0:=by
 refine kX h λe ee3=>?_;subst ee3;simp only[iw,List.getElem?_append_left hn]
theorem OM (h:QE a b):a=b:=by
 cases a<;>cases b<;>first |(exact ao h;done) |skip
 ·refine kN (dK h) λh1 h=>?_;refine kN (dK h) λh2 h3=>?_;refine aa ((aB _ _).mp h1 ..) ?_;refine aa ((aB _ _).mp h2 ..) ?_;rw[wb h3]
 ·refine kN (dK h) λh1 h=>?_;refine kN (dK h) λh2 h3=>?_;refine aa ((aB _ _).mp h1 ..) ?_;refine aa ((aB _ _).mp h2) ?_;rw[wb h3]
 ·refine ax h λh3 h1=>?_;refine aa ((aB _ _).mp h1) ?_;rw[wb h3]
theorem Cv:∀{mm:List (vO×Nat)},uB mm key=some v->(key,v)∈mm:=by
 intro l0
 induction l0 with
 |nil=>
  intro h;exact bd h
 |cons p r ih=>
  intro h;have h:ah (QE p.1 key) (some p.2) (uB r key)=some v:=h;cases q:QE p.1 key with
  |true=>rw[q]at h;refine gP h ?_;exact bI (OM q) (aL ..)
  |false=>rw[q]at h;exact bc _ (ih h)
theorem uW {st:St} (D:dn ν st) (hk:tB ν key x) (hd:jq x d) (e:mF st key d k=true):
  E3 λν' v st'=>A6 (ν <+:ν') (k v st'=true) (v<ν'.length) (ν'.getD v 0=x) (dS st st') (dn ν' st'):=by
 have e:ag (uB st.mm key) (DA st key d k (dL st.d)) (λv=>k v st)=true:=e;cases q:uB st.mm key with
 |some v=>
  replace e:=(q ..)▸e;refine kN (D.memo _ (Cv q)) λa b=>?_;refine⟨ν,v,st,dN ν,e,a,?_,dS.refl st,D⟩;cases key<;>(refine aa b.2 ?_;rw[hk.2])
 |none=>
  rw[q]at e;obtain⟨t,n,dd,mm,g,y,f⟩:=st;have hl:dL dd=ν.length:=aa (bw ..) (D.dom.len.symm);rw[hl]at e;have pre:ν <+:ν++[x]:=List.prefix_append _ _;have hx:(ν++[x]).getD ν.length 0=x:=by simp[iw]
  refine⟨ν++[x],ν.length,_,pre,e,by simp,hx,⟨rfl,rfl,rfl,rfl,rfl⟩,⟨⟨?_,λu hu=>?_⟩,λp hp=>?_⟩⟩
  ·simp only[aX,cX,List.length_cons,List.length_nil];rw[D.dom.len]
  ·simp only[dw,aX];have hlen:=D.dom.len
   by_cases z:u<ν.length
   ·refine aa (jB pre z) (aa (List.getElem?_append_left (Nat.lt_of_lt_of_eq z hlen) ..) ?_);have:=D.dom.fit u z
    rwa [dw]at this
   ·have:u=ν.length:=by simp at hu;exact Nat.eq_of_lt_succ_of_not_lt hu z
    refine aa this ?_;refine aa hx (aa hlen (aa (List.getElem?_append_right (c8 _) ..) ?_));simpa using hd
  ·rcases bk.mp hp with rfl |hp
   ·exact⟨by simp,by rw[];refine aa hx ?_;exact hk.mono pre⟩
   ·exact kN (D.memo p hp) λa b=>⟨by simp;exact Nat.lt_succ_of_lt a,by refine aa (jB pre a) ?_;exact b.mono pre⟩
theorem lO (m:Int):∀(ts q s:Ts) (k:Ts->Ts->af),Df ν ts->Df ν q->Df ν s->lP m ts q s k=true->
  E2 λq' s'=>A4 (k q' s'=true) (Df ν q') (Df ν s') (m*ev ν q'+ev ν s'=m*ev ν q+ev ν s+ev ν ts):=by
 intro l0
 induction l0 with
 |nil=>
  intro q s k df dq ds e;exact⟨q,s,e,dq,ds,by simp[ev]⟩
 |cons p r ih=>
  intro q s k df dq ds e;have e:ah (eH (fq p.2 m) iZ) (lP m r (cq q [(p.1,ed p.2 m)]) s k) (lP m r q (cq s [p]) k)=true:=e;refine bA e (λe z=>?_) λe _=>?_
  ·have z:=(aB _ _).mp z;rw[du]at z;rw[aX,dv]at e;refine cJ (ih _ s k df.tail (dq.app (Df.cons (p:=(p.1,Int.fdiv p.2 m)) df.head (Df.nil ν))) ds e) λq' s' e a b c=>?_;refine⟨q',s',e,a,b,?_⟩;refine aa c (aa (jg ..) (aa (aU ..) (aa (d8 ..) (aa (aU ..) (aa (Int.mul_add ..) (aa (Int.add_zero ..) (bI (Int.mul_assoc ..) ?_)))))));refine aa (show m*Int.fdiv p.2 m=p.2 by exact Int.mul_fdiv_cancel_of_fmod_eq_zero z ..) ?_;lia
  ·replace e:=(aX ..)▸e;exact cJ (ih q _ k df.tail dq (ds.app (Df.cons df.head (Df.nil ν))) e) λq' s' e a b c=>⟨q',s',e,a,b,by refine aa c (aa (jg ..) (aa (aU ..) (aa (d8 ..) (aa (aU ..) ?_))));lia⟩
theorem jC (hm:0<m) (h:a<=b):Int.fdiv a m<=Int.fdiv b m:=by
 refine aa (Int.fdiv_eq_ediv_of_nonneg _ (Int.le_of_lt hm) ..) (aa (Int.fdiv_eq_ediv_of_nonneg _ (Int.le_of_lt hm) ..) ?_);exact Int.ediv_le_ediv hm h
theorem va (m:Int) (hm:0<m) (q r:Int):Int.fdiv (m*q+r) m=q+Int.fdiv r m:=by
 rw[Int.fdiv_eq_ediv_of_nonneg _ (Int.le_of_lt hm),Int.fdiv_eq_ediv_of_nonneg _ (Int.le_of_lt hm),Int.add_comm,Int.add_mul_ediv_left _ _ (Ne.symm (Int.ne_of_lt hm)),Int.add_comm]
theorem gK (a m:Int):Int.fmod a m=a-m*Int.fdiv a m:=by have:=Int.mul_fdiv_add_fmod a m;omega
theorem DB (a m:Int) (hm:0<m):0<=Int.fmod a m/\Int.fmod a m<=m-1:=by
 refine aa (Int.fmod_eq_emod_of_nonneg _ (Int.le_of_lt hm) ..) ?_;have:=Int.emod_nonneg a (show m≠0 by exact Ne.symm (Int.ne_of_lt hm));have:=Int.emod_lt_of_pos a hm;lia
theorem zl {st:St} (D:dn ν st) {k:K} {qc rc m:Int} {q r:Ts} (dq:Df ν q) (dr:Df ν r) (hd:jq (Int.fdiv (rc+ev ν r) m) d)
  (e:mF st (.fdiv rc r m) d (Mu k qc q)=true):IP ν st k (qc+ev ν q+Int.fdiv (rc+ev ν r) m):=by
 refine CU (uW D (show tB ν (.fdiv rc r m) _ from⟨dr,rfl⟩) hd e) λν' v st' p e h1 h2 s D'=>?_;refine⟨ν',_,st',p,e,?_,s,D'⟩;refine kN (cE ν' q [(v,bt)] (dq.mono p) (Df.cons h1 (Df.nil _))) λa b=>?_;refine gI b ?_;refine aa a (aa (cr p dq) (aa (aU ..) (aa (d8 ..) (aa dG ?_))));refine aa h2 ?_;simp+arith
theorem za {ν:List Int} {st:St} (D:dn ν st) {c:Int} (df:Df ν ts) (e:LK c ts m st k=true):m>0/\IP ν st k (Int.fdiv (c+ev ν ts) m):=by
 refine ib e λe h=>?_;have hm:0<m:=uR h;refine⟨hm,?_⟩;cases ts with
 |nil=>exact IP.now D (.inl (by refine aa (dv ..) ?_;simp[ev])) e
 |cons p r₀=>
  rw[dv,du]at e;refine cJ (lO m _ [] [] _ df (Df.nil ν) (Df.nil ν) e) λq r e dq dr hs=>?_;have hz:c+ev ν (p::r₀)=m*(Int.fdiv c m+ev ν q)+(Int.fmod c m+ev ν r):=by
   have:=Int.mul_fdiv_add_fmod c m;simp only[d8]at hs;refine aa (Int.mul_add ..) ?_;omega
  refine aa hz (aa (va m hm ..) ?_);generalize Int.fdiv c m=qc at*;generalize Int.fmod c m=rc at*;refine(pE D.dom r rc rc _ _ dr e).elim (λe=>?_) λz=>fp z λlo hi e _ hb=>?_
  ·exact zl D dq dr (d:=.unb) trivial e
  ·refine kN (hb rc (eG _) (eG _)) λh1 h2=>?_;have g1:=jC hm h1;have g2:=jC hm h2;have e:PF m st k qc rc q r (ed lo m) (ed hi m):=e;rw[dv,dv]at e;refine bA e (λe z=>?_) λe _=>?_
   ·have z:=(aB _ _).mp z;exact IP.now D (gI dq (by refine aa (aN ..) ?_;omega)) e
   refine bA e (λe z=>?_) λe _=>?_
   ·have z:=(aB _ _).mp z;rw[aN,dG]at z;refine l3 (lw _ _ _ _ D.dom dr e) λst' e s D'=>?_;refine⟨ν,_,st',dN ν,e,gI dq ?_,s.s,D.b s D'⟩;refine aa (aN ..) (aa (bq ..) (aa (dc ..) ?_));simp only[];generalize hB:Int.fdiv hi m=B at*;generalize hA:Int.fdiv lo m=A' at*;have key:(0<=rc-m*B+ev ν r)↔B<=Int.fdiv (rc+ev ν r) m:=by
     rw[Int.fdiv_eq_ediv_of_nonneg _ (Int.le_of_lt hm),Int.le_ediv_iff_mul_le hm,Int.mul_comm B m];lia
    by_cases t:0<=rc-m*B+ev ν r
    ·refine aa (dX t) ?_;lia
    ·refine aa (fz t) ?_;have:¬_:=λy=>t (key.mpr y);show qc+A'+_=_;omega
   ·exact zl D dq dr (d:=.iv (Int.fdiv lo m) (Int.fdiv hi m) []) ⟨g1,g2,List.not_mem_nil⟩ e
theorem yI {ν:List Int} {st:St} (D:dn ν st) (hk:tB ν key z) (hd:jq z d) (e:mF st key d (Gy k)=true):IP ν st k z:=by
 refine CU (uW D hk hd e) λν' v st' p e h1 h2 s D'=>?_;refine⟨ν',_,st',p,e,.inr ⟨_,_,rfl,Df.cons h1 (Df.nil _),?_⟩,s,D'⟩;refine aa (aU ..) (aa (d8 ..) (aa dG (aa lh ?_)));refine aa h2 ?_;simp
theorem yY {ν:List Int} {st:St} (D:dn ν st) {c:Int} (df:Df ν ts) (e:LJ c ts m st k=true):m>0/\IP ν st k (Int.fmod (c+ev ν ts) m):=by
 refine ib e λe h=>?_;have hm:0<m:=uR h;refine⟨hm,?_⟩;cases ts with
 |nil=>exact IP.now D (.inl (by refine aa (du ..) ?_;simp[ev])) e
 |cons p r₀=>
  rw[du]at e;refine cJ (lO m _ [] [] _ df (Df.nil ν) (Df.nil ν) e) λq r e dq dr hs=>?_;have hz:c+ev ν (p::r₀)=m*(Int.fdiv c m+ev ν q)+(Int.fmod c m+ev ν r):=by
   have:=Int.mul_fdiv_add_fmod c m;simp only[d8]at hs;refine aa (Int.mul_add ..) ?_;omega
  have hz2:Int.fmod (c+ev ν (p::r₀)) m=Int.fmod (Int.fmod c m+ev ν r) m:=by
   refine aa hz (aa (gK ..) (aa (gK (Int.fmod c m+ev ν r) ..) (aa (va m hm ..) (aa (Int.mul_add m _ (Int.fdiv _ m) ..) ?_))));exact Int.add_sub_add_left (m*(c.fdiv m+ev ν q)) (c.fmod m+ev ν r) (m*(c.fmod m+ev ν r).fdiv m)
  refine aa hz2 ?_;generalize Int.fmod c m=rc at*;have fin:∀{st₁},dn ν st₁->mF st₁ (.fmod rc r m) (.iv iZ (cy m gJ) []) (Gy k)->IP ν st₁ k (Int.fmod (rc+ev ν r) m):=λD₁ e=>
   yI D₁ (show tB ν (.fmod rc r m) _ from⟨dr,rfl⟩) (by
    exact kN (DB (rc+ev ν r) m hm) λa b=>⟨a,by refine aa (aN ..) ?_;exact b,List.not_mem_nil⟩) e
  refine(pE D.dom r rc rc _ _ dr e).elim (λe=>?_) λz=>fp z λlo hi e _ hb=>?_
  ·exact fin D e
  ·refine kN (hb rc (eG _) (eG _)) λh1 h2=>?_;have g1:=jC hm h1;have g2:=jC hm h2;have e:N4 m st k rc r (ed lo m) (ed hi m):=e;rw[dv,dv]at e;refine bA e (λe z=>?_) λe _=>?_
   ·have z:=(aB _ _).mp z;refine IP.now D (gI dr ?_) e;refine aa (bq ..) ?_;refine aa (dc ..) ?_;rw[gK,show Int.fdiv (rc+ev ν r) m=Int.fdiv lo m by omega];simp+arith
   refine bA e (λe z=>?_) λe _=>?_
   ·have z:=(aB _ _).mp z;rw[aN,dG]at z;refine l3 (lw _ _ _ _ D.dom dr e) λst' e s D'=>?_;refine⟨ν,_,st',dN ν,e,gI dr ?_,s.s,D.b s D'⟩;refine aa (bq ..) (aa (bq ..) (aa (dc ..) (aa (dc ..) (aa (gK (rc+ev ν r) ..) ?_))));simp only[];generalize hB:Int.fdiv hi m=B at*;generalize hA:Int.fdiv lo m=A' at*;have key:(0<=rc-m*B+ev ν r)↔B<=Int.fdiv (rc+ev ν r) m:=by
     rw[Int.fdiv_eq_ediv_of_nonneg _ (Int.le_of_lt hm),Int.le_ediv_iff_mul_le hm,Int.mul_comm B m];lia
    by_cases t:0<=rc-m*B+ev ν r
    ·refine aa (dX t) ?_;have:=key.mp t;have q:=Eq.symm (Int.le_antisymm this g2);refine aa q ?_;simp+arith
    ·refine aa (fz t) ?_;have:¬_:=λy=>t (key.mpr y);have q:Int.fdiv (rc+ev ν r) m=A':=by omega
     refine aa q ?_;simp+arith
   ·exact fin D e
theorem nV (n:Nat):p2 n=2 ^ n:=by show Int.ofNat (Nat.pow 2 n)=_;exact Int.natCast_pow 2 n
theorem yC {st:St} (D:dn ν st) {c:Int} {ts:Ts} {k:K} (df:Df ν ts) (e:pow2 c ts st k=true):0<=c+ev ν ts/\IP ν st k (2 ^ (c+ev ν ts).toNat):=by
 cases ts with
 |nil=>
  refine ax e λe h=>?_;have h:=(aY _ _).mp h;simp only[d8,Int.add_zero];exact⟨h,IP.now D (.inl (by rw[nV,fJ])) e⟩
 |cons p r=>
  refine er (ey D.dom df e) λlo hi e _ h1 h2=>?_;refine ax e λe h=>?_;refine⟨Int.le_trans ((aY _ _).mp h) h1,?_⟩;refine bA e (λe z=>?_) λe _=>?_
  ·have z:=(aB _ _).mp z;exact IP.now D (.inl (by rw[nV,fJ,show lo=c+ev ν (p::r) by lia])) e
  ·refine yI D (show tB ν (.pow2 c (p::r)) _ from⟨df,rfl⟩) (d:=.iv (p2 (fK lo)) (p2 (fK hi)) []) ⟨?_,?_,List.not_mem_nil⟩ e
   ·refine aa (nV ..) (aa (fJ ..) ?_);exact_mod_cast Nat.pow_le_pow_right (by decide) (show lo.toNat<=(c+ev ν (p::r)).toNat by exact Int.toNat_le_toNat h1)
   ·refine aa (nV ..) (aa (fJ ..) ?_);exact_mod_cast Nat.pow_le_pow_right (by decide) (show(c+ev ν (p::r)).toNat<=hi.toNat by exact Int.toNat_le_toNat h2)
end
section
section
variable{ν:List Int} {st:St}
theorem fH {P:Prop} (ha:VI ν a x) (hb:VI ν b y) (e:mV f a b st k=true)
  (h:∀c ts c' us,Df ν ts->Df ν us->c+ev ν ts=x->c'+ev ν us=y->f c ts c' us st k=true->P):P:=by
 exact ak (bQ ha e) λc ts e d q=>ak (bQ hb e) λc' us e d' q'=>h c ts c' us d d' q q' e
theorem Ik (D:dn ν st) (d:Df ν ts) (q:c+ev ν ts=x) (hb:VI ν b y) (e:addI c ts b st k=true):IP ν st k (x+y):=by
 exact ak (bQ hb e) λc' us e d' q'=>kN (cE ν ts us d d') λa df=>IP.now D (gI df (by refine aa a (aa (aN ..) ?_);lia)) e
theorem Ge (D:dn ν st) (ha:VI ν a x) (hb:VI ν b y) (e:lU a b st k=true):IP ν st k (x-y):=
 fH ha hb e λc ts c' us d d' q q' e=>by
  exact kN (cQ ν gJ us d') λm1 m2=>kN (cE ν ts _ d m2) λa df=>IP.now D (gI df (by refine aa a (aa m1 (aa (bq ..) (aa d7 ?_)));lia)) e
theorem nC (h:MV c):c.natAbs<2 ^ 63:=by
 have h:Nat.blt (C9 c) (Nat.pow 2 63):=h;have e:C9 c=c.natAbs:=by cases c<;>rfl
 rw[e,Nat.blt_eq]at h;exact h
theorem Ez (D:dn ν st) (d:Df ν ts) (h:Ti st c ts):(c+ev ν ts).natAbs<2 ^ 64:=by
 refine er (ey D.dom d h) λlo hi e _ h1 h2=>?_;refine ee e λb a=>?_;have a:=nC a;have b:=nC b;omega
theorem zi (D:dn ν st) (d:Df ν ts) (h:Hv st c ts):c+ev ν ts<=1000:=by
 refine er (ey D.dom d h) λlo hi e _ h1 h2=>?_;have e:=(aY _ _).mp e;exact Int.le_trans (by assumption) (by assumption)
theorem Gk (D:dn ν st) (ha:VI ν a x) (hb:VI ν b y) (e:fF a b st k=true):(x.natAbs<2 ^ 63\/y.natAbs<2 ^ 63)/\IP ν st k (x*y):=
 fH ha hb e λc ts c' us d d' q q' e=>by
  cases us with
  |nil=>
   refine kN (cQ ν c' ts d) λm1 m2=>?_;have hy:=by simpa[ev]using q'
   exact ax e λe g=>⟨.inr (hy▸nC g),IP.now D (gI m2 (by refine aa m1 ?_;refine aa (dc ..) ?_;refine bI q ?_;refine aa hy ?_;rw[Int.add_mul,Int.mul_comm y];)) e⟩
  |cons p r=>
   cases ts with
   |nil=>
    refine kN (cQ ν c _ d') λm1 m2=>?_;have hx:=by simpa[ev]using q
    exact ax e λe g=>⟨.inl (hx▸nC g),IP.now D (gI m2 (by refine aa m1 ?_;refine aa (dc ..) ?_;refine bI q' ?_;refine aa hx ?_;rw[Int.mul_add];)) e⟩
   |cons p' r'=>exact ao e
theorem Gm (D:dn ν st) {x y:Int} {k:K} (ha:VI ν a x) (hb:VI ν b y) (e:e9 a b st k=true):(0<y/\y.natAbs<2 ^ 63)/\IP ν st k (Int.fdiv x y):=
 fH ha hb e λc ts c' us d d' q q' e=>by
  cases us with
  |nil=>
   have hy:=by simpa[ev]using q'
   refine ax e λe g=>?_;refine bI q (bI hy ?_);exact kN (za D d e) λp r=>⟨⟨p,nC g⟩,r⟩
  |cons p r=>exact ao e
theorem Gl (D:dn ν st) (ha:VI ν a x) (hb:VI ν b y) (e:cK a b st k=true):0<y/\IP ν st k (Int.fmod x y):=
 fH ha hb e λc ts c' us d d' q q' e=>by
  cases us with
  |nil=>
   have hy:=by simpa[ev]using q'
   refine bI q (bI hy ?_);exact yY D d e
  |cons p r=>exact ao e
theorem AF (D:dn ν st) (x:Int) (e:Dz st k=true):E3 λν' v st'=>A6 (ν <+:ν') (k v st'=true) (v<ν'.length) (ν'.getD v 0=x) (dS st st') (dn ν' st'):=by
 obtain⟨t,n,dd,mm,g,y,f⟩:=st;have e:k (dL dd) ⟨t,n,cq dd [.unb],mm,g,y,f⟩=true:=e;have hl:dL dd=ν.length:=aa (bw ..) (D.dom.len.symm);rw[hl]at e;have pre:ν <+:ν++[x]:=List.prefix_append _ _;have hx:(ν++[x]).getD ν.length 0=x:=by simp[iw]
 refine⟨ν++[x],ν.length,_,pre,e,by simp,hx,⟨rfl,rfl,rfl,rfl,rfl⟩,⟨⟨?_,λu hu=>?_⟩,λp hp=>?_⟩⟩
 ·simp only[aX,cX,List.length_cons,List.length_nil];rw[D.dom.len]
 ·simp only[dw,aX];have hlen:ν.length=dd.length:=D.dom.len
  by_cases z:u<ν.length
  ·refine aa (jB pre z) (aa (List.getElem?_append_left (Nat.lt_of_lt_of_eq z hlen) ..) ?_);have:=D.dom.fit u z;rw[dw]at this;exact this
  ·rw[List.getElem?_append_right (by simpa[hlen]using z)];have:u-dd.length=0:=by simp at hu;lia
   refine aa this ?_;trivial
 ·have:=D.memo p hp;exact⟨by refine aa cX ?_;exact Nat.lt_add_right _ this.1,by refine aa (jB pre this.1) ?_;exact this.2.mono pre⟩
theorem Gj (D:dn ν st) {a b:V} {x y:Int} (ha:VI ν a x) (hb:VI ν b y) (e:ul a b st k=true):x.natAbs<2 ^ 64/\(0<=y/\y<=1000)/\IP ν st k (x ^ y.toNat):=
 fH ha hb e λc ts c' us d d' q q' e=>by
  have e:ah (c5 (cL ts) (eH c (.ofNat 2))) (ah (Hv st c' us) (pow2 c' us st k) false) (Jr c ts c' us st k)=true:=e;cases hc:c5 (cL ts) (eH c (.ofNat 2))with
  |true=>
   replace e:=(hc ..)▸e;refine ee hc λh h0=>?_;cases ts with
   |cons=>exact ao h0
   |nil=>
    have hx:=by simpa[ev]using q
    refine ax e λe g=>?_;have:=yC D d' e;have g:=zi D d' g;rw[q']at this g;have h2:=(aB _ _).mp h;rw[hx]at h2;exact aa h2 (⟨by decide,⟨this.1,g⟩,this.2⟩)
  |false=>
   replace e:=(hc ..)▸e;refine ax e λe2 h=>?_;refine ax e2 λe3 g=>?_;refine ee h λh h0=>?_;cases us with
   |cons=>exact ao h0
   |nil=>
    have hy:=by simpa[ev]using q'
    have h:=(aB _ _).mp h;rw[hy]at h;refine aa h ?_;have g:=Ez D d g;rw[q]at g;refine⟨g,⟨by simp,by simp⟩,?_⟩;refine CU (AF D (x ^ (Int.ofNat 3).toNat) e3) λν' v st' p e hv hx S D'=>?_;refine⟨ν',.lin iZ [(v,bt)],st',p,e,Or.inr ⟨_,_,rfl,.cons hv (.nil _),?_⟩,S,D'⟩;show iZ+(bt*ν'.getD v 0+0)=_;refine aa hx ?_;have e1:bt=1:=rfl;have e0:iZ=0:=rfl;refine aa e1 (aa e0 ?_);simp
theorem Gi (D:dn ν st) {x y:Int} (ha:VI ν a x) (hb:VI ν b y) (e:wP a b st k=true):(x.natAbs<2 ^ 64/\y<=1000)/\0<=y/\IP ν st k (x*2 ^ y.toNat):=
 fH ha hb e λc ts c' us d d' q q' e=>by
  refine ax e λe z1=>?_;refine ax e λe z2=>?_;have z1:=zi D d' z1;have z2:=Ez D d z2;rw[q']at z1;rw[q]at z2;refine⟨⟨z2,z1⟩,?_⟩;cases us with
  |nil=>
   have hy:=by simpa[ev]using q'
   refine ax e λe h=>?_;have h:=(aY _ _).mp h;refine kN (cQ ν (p2 (fK c')) ts d) λm1 m2=>?_;refine⟨le_of_le_of_eq h hy,IP.now D (gI m2 ?_) e⟩;refine aa m1 ?_;refine aa (dc ..) ?_;refine bI q ?_;refine aa (nV ..) ?_;refine aa (fJ ..) ?_;refine aa hy ?_;rw[Int.add_mul,Int.mul_comm _ (ev ν ts)]
  |cons p r=>
   cases ts with
   |nil=>
    have hx:=by simpa[ev]using q
    refine ax e λe h=>?_;have:=yC D d' e;rw[q']at this;refine bI hx (aa ((aB _ _).mp h) (aa (Int.one_mul ..) ?_));exact this
   |cons p' r'=>exact ao e
theorem Gf (D:dn ν st) {x y:Int} {k:K} (ha:VI ν a x) (hb:VI ν b y) (e:Gg a b st k=true):0<=y/\IP ν st k (Int.fdiv x (2 ^ y.toNat)):=
 fH ha hb e λc ts c' us d d' q q' e=>by
  cases us with
  |nil=>
   have hy:=by simpa[ev]using q'
   refine ax e λe h=>?_;refine kN (za D d e) λ_ r=>?_;rw[q,fJ,hy]at r;exact⟨le_of_le_of_eq ((aY _ _).mp h) hy,r⟩
  |cons p r=>exact ao e
theorem GQ:∀fuel n,OU fuel n->∃j,n=2 ^ j:=by
 intro l0
 induction l0 with
 |zero=>
  intro n h;exact ao h
 |succ f ih=>
  intro n h;refine bA h (λ_ a=>?_) λh _=>?_
  ·exact⟨0,gB a⟩
  ·refine ax h λh a=>?_;have a:n%2=0:=gB a;refine kX (ih _ h) λj h=>?_;have h:n / 2=2 ^ j:=h;exact⟨j+1,by refine aa (Nat.pow_succ ..) ?_;lia⟩
theorem Gn (D:dn ν st) {x y:Int} {k:K} (ha:VI ν a x) (hb:VI ν b y) (e:Go a b st k=true):∃j:Nat,y+1=2 ^ j/\IP ν st k (Int.fmod x (2 ^ j)):=
 fH ha hb e λc ts c' us d d' q q' e=>by
  cases us with
  |nil=>
   have hy:=by simpa[ev]using q'
   refine ax e λe h=>?_;have h:0<=c':=(aY _ _).mp h;refine ax e λe h2=>?_;refine kX (GQ _ _ h2) λj h2=>?_;refine kN (yY D d e) λ_ r=>?_;have hj:cy c' bt=2 ^ j:=by
    refine aa (aN ..) (aa dG ?_);rw[fJ]at h2;lia
   rw[q,hj]at r;exact⟨j,by refine bI hy ?_;refine bI hj ?_;rw[aN,dG],r⟩
  |cons p r=>exact ao e
theorem HO (d:Df ν ts) (hm:0<m) (h:DY m c ts):∃q,c+ev ν ts=m*q:=by
 refine ax h λh2 h1=>?_;have h1:=(aB _ _).mp h1;rw[du,lh]at h1;have hc:=Int.mul_fdiv_add_fmod c m;have:∃q,ev ν ts=m*q:=by
  clear h1 hc h
  induction ts with
  |nil=>exact⟨0,by simp[ev]⟩
  |cons p r ih=>
   refine ax h2 λb a=>?_;have a:=(aB _ _).mp a;rw[du]at a;refine kX (ih d.tail b) λq h=>?_;refine⟨Int.fdiv p.2 m*ν.getD p.1 0+q,?_⟩;refine aa (aU ..) ?_;refine aa h ?_;rw[Int.mul_add,<-Int.mul_assoc,show m*Int.fdiv p.2 m=p.2 by exact Int.mul_fdiv_cancel_of_fmod_eq_zero a]
 exact kX this λq h=>⟨Int.fdiv c m+q,by refine aa (Int.mul_add ..) ?_;simp_all⟩
theorem KN (D:dn ν st) (ha:VI ν a x) (hb:VI ν b y) (e:Qv a b st k=true):
  0<=x/\0<=y/\(x=0\/∃j:Nat,x<2 ^ j/\∃q,y=2 ^ j*q)/\IP ν st k (x+y):=
 fH ha hb e λc ts c' us d d' q q' e=>by
  refine er (ey D.dom d' e) λlo' hi' e _ b1 b2=>?_;refine ax e λe h=>?_;have h:0<=lo':=(aY _ _).mp h;refine er (ey D.dom d e) λlo hi e _ a1 a2=>?_;refine ax e λe h2=>?_;have h2:0<=lo:=(aY _ _).mp h2;refine⟨by lia,by lia,?_⟩;refine bA e (λe z=>?_) λe _=>?_
  ·have z:hi=0:=(aB _ _).mp z;have hx:x=0:=by lia
   exact⟨.inl hx,IP.now D (gI d' (by simp_all)) e⟩
  ·refine ax e λe t=>?_;refine kN (cE ν ts us d d') λa df=>?_;refine⟨.inr ?_,IP.now D (gI df (by refine aa a (aa (aN ..) ?_);lia)) e⟩;have one:∀n:Nat,c5 (rk hi (p2 n)) (DY (p2 n) c' us)->∃j:Nat,x<2 ^ j/\∃q,y=2 ^ j*q:=λn t=>by
    refine ee t λt2 t1=>?_;have t1:=(cU _ _).mp t1;have hp:0<p2 n:=aa (nV ..) (Int.pow_pos (by simp));refine kX (HO d' hp t2) λw hw=>?_;rw[nV]at t1 hw;exact⟨n,by lia,w,by simpa[q']using hw⟩
   unfold TF at t;rw[eR,eR,Bool.or_eq_true,Bool.or_eq_true]at t;rcases t with t |t |t<;>exact one _ t
def BP (ν:List Int) (st:St) (k:KB) (b:Bool):Prop:=E2 λν' st'=>A4 (ν <+:ν') (k b st') (dS st st') (dn ν' st')
theorem BP.now {k:KB} (D:dn ν st) (e:k b st=true):BP ν st k b:=⟨ν,st,dN ν,e,dS.refl st,D⟩
theorem BP.of {k:KB} (D:dn ν st) (h:∃st',A3 (k b st'=true) (cz st st') (Dm ν st'.d)):BP ν st k b:=
 l3 h λst' e s d=>⟨ν,st',dN ν,e,s.s,D.b s d⟩
theorem Eh (D:dn ν st) (ha:VI ν a x) (hb:VI ν b y) (e:Bh a b st k=true):BP ν st k (decide (x<y)):=by
 refine ak (bQ ha e) λc ts e d q=>?_;refine ak (bQ hb e) λc' us e d' q'=>?_;refine kN (cQ ν gJ ts d) λm1 m2=>?_;refine kN (cE ν us _ d' m2) λs df=>?_;have:=lw _ _ _ _ D.dom df e;replace this:=(show cy (d6 c' c) gJ+ev ν (fS us (fG gJ ts))=y-x-1 by refine aa s (aa m1 (aa (aN ..) (aa (bq ..) (aa d7 ?_))));lia)▸this;have z:decide (0<=y-x-1)=decide (x<y):=by rw[decide_eq_decide];lia
 exact bI z (BP.of D this)
theorem Ei (D:dn ν st) (ha:VI ν a x) (hb:VI ν b y) (e:AZ a b st k=true):BP ν st k (decide (x<=y)):=by
 refine ak (bQ ha e) λc ts e d q=>?_;refine ak (bQ hb e) λc' us e d' q'=>?_;refine kN (cQ ν gJ ts d) λm1 m2=>?_;refine kN (cE ν us _ d' m2) λs df=>?_;have:=lw _ _ _ _ D.dom df e;replace this:=(show d6 c' c+ev ν (fS us (fG gJ ts))=y-x by refine aa s (aa m1 (aa (bq ..) (aa d7 ?_)));lia)▸this;have z:decide (0<=y-x)=decide (x<=y):=by rw[decide_eq_decide];exact Int.sub_nonneg
 exact bI z (BP.of D this)
theorem Mh (D:dn ν st) (d:Df ν ts) (q:c+ev ν ts=x) (hb:VI ν b y) (e:QI c ts b st k=true):BP ν st k (decide (x=y)):=by
 refine ak (bQ hb e) λc' us e d' q'=>?_;refine kN (cQ ν gJ us d') λm1 m2=>?_;refine kN (cE ν ts _ d m2) λs df=>?_;have:=zm _ _ _ _ D.dom df e;replace this:=(show d6 c c'+ev ν (fS ts (fG gJ us))=x-y by refine aa s (aa m1 (aa (bq ..) (aa d7 ?_)));lia)▸this;have z:decide (0=x-y)=decide (x=y):=by rw[decide_eq_decide];omega
 exact bI z (BP.of D this)
theorem BP.mono (h:ν <+:ν') (s:dS st st') (x:BP ν' st' k b):BP ν st k b:=
 cJ x λa t p e s' d=>⟨a,t,h.trans p,e,s.trans s',d⟩
theorem IP.mono (h:ν <+:ν') (s:dS st st') (x:IP ν' st' k z):IP ν st k z:=
 gn x λa v t p e hv s' d=>⟨a,v,t,h.trans p,e,hv,s.trans s',d⟩
end
end
section
abbrev AI:=AX.Id
inductive F2 {α β:Type} (R:α->β->Prop):List α->List β->Prop
 |nil:F2 R [] []
 |cons {a:α} {b:β} {l:List α} {r:List β} (h:R a b) (t:F2 R l r):F2 R (a::l) (b::r)
theorem F2.knil {R:α->β->Prop} {C:(r:List β)->F2 R [] r->Prop} {r:List β} (h:F2 R [] r) (nil:C [] .nil):C r h:=by cases h;exact nil
theorem F2.kcons {R:α->β->Prop} {a:α} {l:List α} {C:(r:List β)->F2 R (a::l) r->Prop} {r:List β} (h:F2 R (a::l) r) (cons:∀{b r} (h:R a b) (t:F2 R l r),C (b::r) (.cons h t)):C r h:=by cases h with |cons h t=>exact cons h t
namespace F2
variable{α β γ:Type} {R S:α->β->Prop} {l l':List α} {r r':List β}
theorem length (h:F2 R l r):l.length=r.length:=by induction h with |nil=>rfl |cons _ _ ih=>simp[ih]
theorem mono (h:F2 R l r) (k:∀a b,R a b->S a b):F2 S l r:=by induction h with |nil=>exact .nil |cons h _ ih=>exact .cons (k _ _ h) ih
theorem app (h:F2 R l r) (h':F2 R l' r'):F2 R (l++l') (r++r'):=by induction h with |nil=>exact h' |cons h _ ih=>exact .cons h ih
theorem get (h:F2 R l r) {n:Nat} (e:l[n]?=some a):∃b,r[n]?=some b/\R a b:=by
 induction h generalizing n with
 |nil=>exact bd e
 |cons h t ih=>cases n with
  |zero=>refine gP e ?_;exact⟨_,rfl,h⟩
  |succ n=>exact ih e
theorem drop (h:F2 R l r) (n:Nat):F2 R (l.drop n) (r.drop n):=by
 induction h generalizing n with
 |nil=>simp;exact .nil
 |cons h t ih=>cases n with
  |zero=>exact .cons h t
  |succ n=>exact ih n
theorem take (h:F2 R l r) (n:Nat):F2 R (l.take n) (r.take n):=by
 induction h generalizing n with
 |nil=>simp;exact .nil
 |cons h t ih=>cases n with
  |zero=>exact .nil
  |succ n=>exact .cons h (ih n)
theorem set (h:F2 R l r) (n:Nat) (x:R a b):F2 R (l.set n a) (r.set n b):=by
 induction h generalizing n with
 |nil=>exact .nil
 |cons h t ih=>cases n with
  |zero=>exact .cons x t
  |succ n=>exact .cons h (ih n)
end F2
structure Gh where
 ρ:AI->Option (Addr×Addr)
 ν:List Int
 H:Addr->Option Obj
structure Gh.Le (G G':Gh):Prop where
 ρ:∀i p,G.ρ i=some p->G'.ρ i=some p
 ν:G.ν <+:G'.ν
 H:∀a o,G.H a=some o->G'.H a=some o
theorem Gh.Le.refl (G:Gh):G.Le G:=⟨λ_ _ h=>h,dN _,λ_ _ h=>h⟩
theorem Gh.Le.trans {a b c:Gh} (x:a.Le b) (y:b.Le c):a.Le c:=⟨λi p h=>y.ρ i p (x.ρ i p h),x.ν.trans y.ν,λi p h=>y.H i p (x.H i p h)⟩
structure cW where
 seg:Nat->List Nat
 txt:Nat->List Nat
noncomputable def aj (s:List Nat):Str:=⟨s.toArray⟩
theorem gX:aj a=aj b↔a=b:=by
 constructor
 ·intro h;have:=congrArg (λs:Str=>s.cps.toList) h;simpa[aj]using this
 ·rintro rfl;rfl
noncomputable abbrev cj (ws:List Value):Obj:={cls:=.type "tuple",data:=.seq ws.toArray}
noncomputable abbrev hM (ws:List Value) (n:Nat):Obj:={cls:=.type "list",data:=.seq ws.toArray n}
noncomputable abbrev rj (C dx:Addr) (sl:Array (Option Value)):Obj:=⟨.ref C,some dx,.plain,sl⟩
noncomputable def nQ (l:List Nat) (cut:Bool):List Nat:=if cut then l.dropLast else l
def bP (w:Value) (n:Nat):Prop:=∃t,w=.int (n:Int) t
def qI (T:cW) (ν:List Int) (i:Nat) (cut:Bool):Prop:=ν[i+7]?=some ((T.seg i).length:Int)/\((T.seg i).length<=100/\∀c∈T.seg i,c<256)/\(cut->T.seg i≠[])
theorem qI.mono {T:cW} (h:qI T ν i cut) (p:ν <+:ν'):qI T ν' i cut:=by
 refine kX p λr ee4=>?_;subst ee4;refine⟨?_,h.2⟩;exact aa (List.getElem?_append_left (List.getElem?_eq_some_iff.mp h.1).1 ..) (h.1)
abbrev Tx (s:List Nat):Prop:=∀c∈s,c<128
mutual
inductive VR (T:cW) (rg:Addr) (G:Gh):V->Value->Prop
 |none:VR T rg G .none .none
 |bool (b:Bool):VR T rg G (.bool b) (.bool b)
 |int (c:Int) (t:Tok):VR T rg G (.int c) (.int c t)
 |lin (c:Int) (ts:Ts) (x:Int) (t:Tok) (d:Df G.ν ts) (e:c+ev G.ν ts=x):VR T rg G (.lin c ts) (.int x t)
 |str (s:List Nat) (t:Tok) (x:Tx s):VR T rg G (.str s) (.str (aj s) t)
 |stab (B:List (List Nat)) (c:Int) (ts:Ts) (n:Nat) (s:List Nat) (t:Tok) (d:Df G.ν ts) (e:c+ev G.ν ts=(n:Int)) (h:B[n]?=some s) (x:∀s∈B,Tx s):VR T rg G (.stab B c ts) (.str (aj s) t)
 |sat (i:Nat) (t:Tok) (x:Tx (T.txt i)):VR T rg G (.sat i) (.str (aj (T.txt i)) t)
 |bytes (l:List V) (ws:List Value) (b:Array UInt8) (t:Tok) (h:SR T rg G l ws) (e:F2 (λw (u:UInt8)=>bP w u.toNat) ws b.toList):VR T rg G (.bytes l) (.bytes b t)
 |tup (l:List V) (ws:List Value) (a:Addr) (h:SR T rg G l ws) (e:G.H a=some (cj ws)):VR T rg G (.tup l) (.ref a)
 |ref (k:AI) (a d:Addr) (e:G.ρ k=some (a,d)):VR T rg G (.ref k) (.ref a)
 |oreg0 (i:Nat) (e:T.txt i=[]) (hi:i<2):VR T rg G (.oreg i) .none
 |oreg (i:Nat) (a dx:Addr) (sl:Array (Option Value)) (es:List DictEntry) (n:Nat) (t:Tok) (h1:G.H a=some (rj rg dx sl)) (h2:G.H dx=some (dictOf es n))
   (h3:getL "name" es=some (some (.str (aj (T.txt i)) t))) (x:Tx (T.txt i)):VR T rg G (.oreg i) (.ref a)
inductive SR (T:cW) (rg:Addr) (G:Gh):List V->List Value->Prop
 |nil:SR T rg G [] []
 |cons (v:V) (w:Value) (l:List V) (ws:List Value) (h:VR T rg G v w) (r:SR T rg G l ws):SR T rg G (v::l) (w::ws)
 |seg (i:Nat) (cut:Bool) (us:List Value) (l:List V) (ws:List Value) (q:qI T G.ν i cut) (h:F2 bP us (nQ (T.seg i) cut)) (r:SR T rg G l ws):SR T rg G (.seg i cut::l) (us++ws)
end
def VQ (T:cW) (rg:Addr) (G:Gh) (w:Value) (v:V):Prop:=@V.casesOn (λ_=>Prop) v False (w=.none) (λb=>w=.bool b) (λc=>∃t,w=.int c t)
 (λc ts=>E2 λx t=>A3 (w=.int x t) (Df G.ν ts) (c+ev G.ν ts=x)) (λs=>∃t,w=.str (aj s) t/\Tx s)
 (λB c ts=>E3 λ(n:Nat) s t=>A5 (w=.str (aj s) t) (Df G.ν ts) (c+ev G.ν ts=(n:Int)) (B[n]?=some s) (∀s∈B,Tx s))
 (λi=>∃t,w=.str (aj (T.txt i)) t/\Tx (T.txt i))
 (λl=>E3 λws b t=>A3 (w=.bytes b t) (SR T rg G l ws) (F2 (λw (u:UInt8)=>bP w u.toNat) ws b.toList))
 (λl=>E2 λws a=>A3 (w=.ref a) (SR T rg G l ws) (G.H a=some (cj ws)))
 (λk=>E2 λa d=>w=.ref a/\G.ρ k=some (a,d)) (λ_ _=>False)
 (λi=>A3 (w=.none) (T.txt i=[]) (i<2)\/E5 λa dx (sl:Array (Option Value)) es n=>∃t,A5 (w=.ref a) (G.H a=some (rj rg dx sl)) (G.H dx=some (dictOf es n)) (getL "name" es=some (some (.str (aj (T.txt i)) t))) (Tx (T.txt i)))
section
variable{T:cW} {rg:Addr} {G:Gh}
theorem VR.inv (h:VR T rg G v w):VQ T rg G w v:=
 h.casesOn rfl (λ_=>rfl) (λ_ t=>⟨t,rfl⟩) (λ_ _ x t d e=>⟨x,t,rfl,d,e⟩) (λ_ t x=>⟨t,rfl,x⟩) (λ_ _ _ n s t d e h x=>⟨n,s,t,rfl,d,e,h,x⟩) (λ_ t x=>⟨t,rfl,x⟩)
  (λ_ ws b t h e=>⟨ws,b,t,rfl,h,e⟩) (λ_ ws a h e=>⟨ws,a,rfl,h,e⟩) (λ_ a d e=>⟨a,d,rfl,e⟩) (λ_ e hi=>.inl ⟨rfl,e,hi⟩) (λ_ a dx sl es n t h1 h2 h3 x=>.inr ⟨a,dx,sl,es,n,t,rfl,h1,h2,h3,x⟩)
def ES (T:cW) (rg:Addr) (G:Gh) (F:V->Bool) (C:V->Value->Prop):Prop:=F .none->C .none .none
theorem qi {T:cW} (hh:F .none=false:=by exact@rfl Bool false):ES T rg G F C:=λy=>ao (hh▸y)
def ET (T:cW) (rg:Addr) (G:Gh) (F:V->Bool) (C:V->Value->Prop):Prop:=∀(b:Bool),F (.bool b)->C (.bool b) (.bool b)
theorem rX {T:cW} (hh:∀(b:Bool),F (.bool b)=false:=by exactλ_=>@rfl Bool false):ET T rg G F C:=λb y=>ao (hh _▸y)
def JM (T:cW) (rg:Addr) (G:Gh) (F:V->Bool) (C:V->Value->Prop):Prop:=∀(c:Int) (t:Tok),F (.int c)->C (.int c) (.int c t)
theorem rW {T:cW} (hh:∀(c:Int),F (.int c)=false:=by exactλ_=>@rfl Bool false):JM T rg G F C:=λc t y=>ao (hh _▸y)
def JL (T:cW) (rg:Addr) (G:Gh) (F:V->Bool) (C:V->Value->Prop):Prop:=∀(c:Int) (ts:Ts) (x:Int) (t:Tok) (d:Df G.ν ts) (e:c+ev G.ν ts=x),F (.lin c ts)->C (.lin c ts) (.int x t)
theorem rV {T:cW} (hh:∀(c:Int) (ts:Ts),F (.lin c ts)=false:=by exactλ_ _=>@rfl Bool false):JL T rg G F C:=λc ts x t d e y=>ao (hh _ _▸y)
def JI (T:cW) (rg:Addr) (G:Gh) (F:V->Bool) (C:V->Value->Prop):Prop:=∀(s:List Nat) (t:Tok) (x:Tx s),F (.str s)->C (.str s) (.str (aj s) t)
theorem Bd {T:cW} (hh:∀(s:List Nat),F (.str s)=false:=by exactλ_=>@rfl Bool false):JI T rg G F C:=λs t x y=>ao (hh _▸y)
def EQ (T:cW) (rg:Addr) (G:Gh) (F:V->Bool) (C:V->Value->Prop):Prop:=∀(B:List (List Nat)) (c:Int) (ts:Ts) (n:Nat) (s:List Nat) (t:Tok) (d:Df G.ν ts) (e:c+ev G.ν ts=(n:Int)) (h:B[n]?=some s) (x:∀s∈B,Tx s),F (.stab B c ts)->C (.stab B c ts) (.str (aj s) t)
theorem tF {T:cW} (hh:∀(B:List (List Nat)) (c:Int) (ts:Ts),F (.stab B c ts)=false:=by exactλ_ _ _=>@rfl Bool false):EQ T rg G F C:=λB c ts n s t d e h x y=>ao (hh _ _ _▸y)
def JJ (T:cW) (rg:Addr) (G:Gh) (F:V->Bool) (C:V->Value->Prop):Prop:=∀(i:Nat) (t:Tok) (x:Tx (T.txt i)),F (.sat i)->C (.sat i) (.str (aj (T.txt i)) t)
theorem qh {T:cW} (hh:∀(i:Nat),F (.sat i)=false:=by exactλ_=>@rfl Bool false):JJ T rg G F C:=λi t x y=>ao (hh _▸y)
def zF (T:cW) (rg:Addr) (G:Gh) (F:V->Bool) (C:V->Value->Prop):Prop:=∀(l:List V) (ws:List Value) (b:Array UInt8) (t:Tok) (h:SR T rg G l ws) (e:F2 (λw (u:UInt8)=>bP w u.toNat) ws b.toList),F (.bytes l)->C (.bytes l) (.bytes b t)
theorem qQ {T:cW} (hh:∀(l:List V),F (.bytes l)=false:=by exactλ_=>@rfl Bool false):zF T rg G F C:=λl ws b t h e y=>ao (hh _▸y)
def JH (T:cW) (rg:Addr) (G:Gh) (F:V->Bool) (C:V->Value->Prop):Prop:=∀(l:List V) (ws:List Value) (a:Addr) (h:SR T rg G l ws) (e:G.H a=some (cj ws)),F (.tup l)->C (.tup l) (.ref a)
theorem tE {T:cW} (hh:∀(l:List V),F (.tup l)=false:=by exactλ_=>@rfl Bool false):JH T rg G F C:=λl ws a h e y=>ao (hh _▸y)
def JK (T:cW) (rg:Addr) (G:Gh) (F:V->Bool) (C:V->Value->Prop):Prop:=∀(k:AI) (a d:Addr) (e:G.ρ k=some (a,d)),F (.ref k)->C (.ref k) (.ref a)
theorem tD {T:cW} (hh:∀(k:Id),F (.ref k)=false:=by exactλ_=>@rfl Bool false):JK T rg G F C:=λk a d e y=>ao (hh _▸y)
def zE (T:cW) (rg:Addr) (G:Gh) (F:V->Bool) (C:V->Value->Prop):Prop:=∀(i:Nat) (e:T.txt i=[]) (hi:i<2),F (.oreg i)->C (.oreg i) .none
theorem gh {T:cW} (hh:∀(i:Nat),F (.oreg i)=false:=by exactλ_=>@rfl Bool false):zE T rg G F C:=λi e hi y=>ao (hh _▸y)
def ER (T:cW) (rg:Addr) (G:Gh) (F:V->Bool) (C:V->Value->Prop):Prop:=∀(i:Nat) (a dx:Addr) (sl:Array (Option Value)) (es:List DictEntry) (n:Nat) (t:Tok) (h1:G.H a=some (rj rg dx sl)) (h2:G.H dx=some (dictOf es n)) (h3:getL "name" es=some (some (.str (aj (T.txt i)) t))) (x:Tx (T.txt i)),F (.oreg i)->C (.oreg i) (.ref a)
theorem gf {T:cW} (hh:∀(i:Nat),F (.oreg i)=false:=by exactλ_=>@rfl Bool false):ER T rg G F C:=λi a dx sl es n t h1 h2 h3 x y=>ao (hh _▸y)
@[elab_as_elim] theorem VR.sel {T:cW} {rg:Addr} {G:Gh} {F:V->Bool} {C:V->Value->Prop} {v:V} {w:Value} (h:VR T rg G v w) (y:F v) (none:ES T rg G F C) (bool:ET T rg G F C) (int:JM T rg G F C) (lin:JL T rg G F C) (str:JI T rg G F C) (stab:EQ T rg G F C) (sat:JJ T rg G F C) (bytes:zF T rg G F C) (tup:JH T rg G F C) (ref:JK T rg G F C) (oreg0:zE T rg G F C) (oreg:ER T rg G F C):C v w:=by
 induction h using VR.casesOn with
 |none=>exact none y
 |bool b=>exact bool b y
 |int c t=>exact int c t y
 |lin c ts x t d e=>exact lin c ts x t d e y
 |str s t x=>exact str s t x y
 |stab B c ts n s t d e h x=>exact stab B c ts n s t d e h x y
 |sat i t x=>exact sat i t x y
 |bytes l ws b t h e=>exact bytes l ws b t h e y
 |tup l ws a h e=>exact tup l ws a h e y
 |ref k a d e=>exact ref k a d e y
 |oreg0 i e hi=>exact oreg0 i e hi y
 |oreg i a dx sl es n t h1 h2 h3 x=>exact oreg i a dx sl es n t h1 h2 h3 x y
theorem VR.kref {k:AI} {C:(w:Value)->VR T rg G (.ref k) w->Prop} (h:VR T rg G (.ref k) w) (ref:∀a d (e:G.ρ k=some (a,d)),C (.ref a) (.ref k a d e)):C w h:=by
 refine aJ h.inv λa d ee5 e=>?_;subst ee5;exact ref a d e
theorem VR.ktup {C:(w:Value)->VR T rg G (.tup l) w->Prop} (h:VR T rg G (.tup l) w) (tup:∀ws a (s:SR T rg G l ws) (e:G.H a=some (cj ws)),C (.ref a) (.tup l ws a s e)):C w h:=by
 refine ak h.inv λws a ee6 s e=>?_;subst ee6;exact tup ws a s e
theorem VR.kint {C:(w:Value)->VR T rg G (.int c) w->Prop} (h:VR T rg G (.int c) w) (int:∀t,C (.int c t) (.int c t)):C w h:=by
 refine kX h.inv λt ee7=>?_;subst ee7;exact int t
theorem VR.klin {C:(w:Value)->VR T rg G (.lin c ts) w->Prop} (h:VR T rg G (.lin c ts) w) (lin:∀x t (d:Df G.ν ts) (e:c+ev G.ν ts=x),C (.int x t) (.lin c ts x t d e)):C w h:=by
 refine ak h.inv λx t ee8 d e=>?_;subst ee8;exact lin x t d e
theorem VR.kstr {C:(w:Value)->VR T rg G (.str s) w->Prop} (h:VR T rg G (.str s) w) (str:∀t (x:Tx s),C (.str (aj s) t) (.str s t x)):C w h:=by
 refine aA h.inv λt ee9 x=>?_;subst ee9;exact str t x
theorem VR.kstab {C:(w:Value)->VR T rg G (.stab B c ts) w->Prop} (h:VR T rg G (.stab B c ts) w)
  (stab:∀n s t (d:Df G.ν ts) (e:c+ev G.ν ts=((n:Nat):Int)) (q:B[n]?=some s) (x:∀s∈B,Tx s),C (.str (aj s) t) (.stab B c ts n s t d e q x)):C w h:=by
 refine gn h.inv λn s t ee10 d e q x=>?_;subst ee10;exact stab n s t d e q x
theorem VR.kbytes {C:(w:Value)->VR T rg G (.bytes l) w->Prop} (h:VR T rg G (.bytes l) w)
  (bytes:∀ws (b:Array UInt8) t (s:SR T rg G l ws) (e:F2 (λw (u:UInt8)=>bP w u.toNat) ws b.toList),C (.bytes b t) (.bytes l ws b t s e)):C w h:=by
 refine CV h.inv λws b t ee11 s e=>?_;subst ee11;exact bytes ws b t s e
theorem VR.koreg {C:(w:Value)->VR T rg G (.oreg i) w->Prop} (h:VR T rg G (.oreg i) w) (oreg0:∀(e:T.txt i=[]) (hi:i<2),C .none (.oreg0 i e hi))
  (oreg:∀a dx sl es n t (h1:G.H a=some (rj rg dx sl)) (h2:G.H dx=some (dictOf es n)) (h3:getL "name" es=some (some (.str (aj (T.txt i)) t))) (x:Tx (T.txt i)),C (.ref a) (.oreg i a dx sl es n t h1 h2 h3 x)):C w h:=by
 rcases h.inv with⟨rfl,e,hi⟩ |⟨a,dx,sl,es,n,t,rfl,h1,h2,h3,x⟩
 ·exact oreg0 e hi
 ·exact oreg a dx sl es n t h1 h2 h3 x
def VS (T:cW) (rg:Addr) (G:Gh) (ws:List Value) (l:List V):Prop:=@List.casesOn V (λ_=>Prop) l (ws=[]) (λv l=>(E2 λw r=>A3 (ws=w::r) (VR T rg G v w) (SR T rg G l r))\/
 E4 λi cut us r=>A5 (v=.seg i cut) (ws=us++r) (qI T G.ν i cut) (F2 bP us (nQ (T.seg i) cut)) (SR T rg G l r))
theorem SR.inv (h:SR T rg G l ws):VS T rg G ws l:=
 h.casesOn rfl (λ_ w _ ws h r=>.inl ⟨w,ws,rfl,h,r⟩) (λi cut us _ ws q h r=>.inr ⟨i,cut,us,ws,rfl,rfl,q,h,r⟩)
theorem SR.knil {C:(ws:List Value)->SR T rg G [] ws->Prop} (h:SR T rg G [] ws) (nil:C [] .nil):C ws h:=by
 obtain rfl:ws=[]:=h.inv;exact nil
theorem SR.kcons {v:V} {C:(ws:List Value)->SR T rg G (v::l) ws->Prop} (h:SR T rg G (v::l) ws) (cons:∀w r (h:VR T rg G v w) (t:SR T rg G l r),C (w::r) (.cons v w l r h t))
  (seg:∀i cut us r (e:v=.seg i cut) (q:qI T G.ν i cut) (h:F2 bP us (nQ (T.seg i) cut)) (t:SR T rg G l r),C (us++r) (e▸.seg i cut us l r q h t)):C ws h:=by
 rcases h.inv with⟨w,r,rfl,g,t⟩ |⟨i,cut,us,r,e,rfl,q,g,t⟩
 ·exact cons w r g t
 ·exact seg i cut us r e q g t
theorem SR.kseg {i:Nat} {cut:Bool} {l:List V} {C:(ws:List Value)->SR T rg G (.seg i cut::l) ws->Prop} (h:SR T rg G (.seg i cut::l) ws)
  (seg:∀us r (q:qI T G.ν i cut) (h:F2 bP us (nQ (T.seg i) cut)) (t:SR T rg G l r),C (us++r) (.seg i cut us l r q h t)):C ws h:=by
 rcases h.inv with⟨w,r,assumption,g,t⟩ |⟨i,cut,us,r,e,rfl,q,g,t⟩
 ·exact g.inv.elim
 ·cases e;exact seg us r q g t
end
section
variable{T:cW} {rg:Addr} {G G':Gh}
theorem VR.mono (L:G.Le G') (h:VR T rg G v w):VR T rg G' v w:=
 VR.rec .none .bool .int (λc ts x t d e=>.lin c ts x t (d.mono L.ν) (by refine aa (cr L.ν d) ?_;exact e)) .str
  (λB c ts n s t d e h x=>.stab B c ts n s t (d.mono L.ν) (by refine aa (cr L.ν d) ?_;exact e) h x) .sat (λl ws b t _ e i=>.bytes l ws b t i e) (λl ws a _ e i=>.tup l ws a i (L.H _ _ e)) (λk a d e=>.ref k a d (L.ρ _ _ e)) .oreg0
  (λi a dx sl es n t h1 h2 h3 x=>.oreg i a dx sl es n t (L.H _ _ h1) (L.H _ _ h2) h3 x) .nil (λv w l ws _ _ h r=>.cons v w l ws h r) (λi cut us l ws q h _ r=>.seg i cut us l ws (q.mono L.ν) h r) h
theorem SR.mono (L:G.Le G') (h:SR T rg G l ws):SR T rg G' l ws:=by
 induction l generalizing ws with
 |nil=>induction h using SR.knil;exact .nil
 |cons v l ih=>
  induction h using SR.kcons with
  |cons w ws h r=>exact .cons v w l ws (h.mono L) (ih r)
  |seg i cut us ws e0 q h r=>subst e0;exact .seg i cut us l ws (q.mono L.ν) h (ih r)
theorem VR.vi {v:V} {x:Int} {t:Tok} (h:VR T rg G v (.int x t)):VI G.ν v x:=by
 generalize e:Value.int x t=w at h
 induction h using VR.casesOn with
 |int c t=>cases e;exact .inl rfl
 |lin c ts x t d q=>cases e;exact .inr ⟨c,ts,rfl,d,q⟩
 |_=>exact nomatch e
theorem VR.of_vi (t:Tok) (h:VI G.ν v x):VR T rg G v (.int x t):=by
 rcases h with rfl |⟨c,ts,rfl,d,e⟩
 ·exact .int x t
 ·exact .lin c ts x t d e
theorem rQ (h:VR T rg G v w) (e:cF v k=true):E2 λx t=>w=.int x t/\VI G.ν v x:=by
 refine VR.sel h e qi rX (λc t e=>?_) (λc ts x t d q e=>?_) Bd tF qh qQ tE tD gh gf
 ·exact⟨c,t,rfl,.inl rfl⟩
 ·exact⟨x,t,rfl,.inr ⟨c,ts,rfl,d,q⟩⟩
@[elab_as_elim] theorem fZ {v:V} {w:Value} {k:KT} {C:Value->Prop} (h:VR T rg G v w) (e:cF v k=true) (c:∀x t,VI G.ν v x->C (.int x t)):C w:=aJ (rQ h e) λx t e hx=>e▸c x t hx
theorem SR.app (h:SR T rg G l ws) (h':SR T rg G l' ws'):SR T rg G (l++l') (ws++ws'):=by
 induction l generalizing ws with
 |nil=>induction h using SR.knil;exact h'
 |cons v l ih=>
  induction h using SR.kcons with
  |cons w ws h r=>exact .cons _ _ _ _ h (ih r)
  |seg i cut us ws e0 q h r=>subst e0;exact aa (List.append_assoc ..) (.seg _ _ _ _ _ q h (ih r))
theorem SR.one (h:VR T rg G v w):SR T rg G [v] [w]:=.cons _ _ _ _ h .nil
theorem SR.plain (h:SR T rg G l ws) (e:bF l=false):F2 (VR T rg G) l ws:=by
 induction l generalizing ws with
 |nil=>induction h using SR.knil;exact .nil
 |cons v l ih=>
  have e:ah (dJ v) true (bF l)=false:=e
  induction h using SR.kcons with
  |cons w ws h r=>
   refine .cons h (ih r ?_);cases q:dJ v with
   |true=>rw[q]at e;cases e
   |false=>rw[q]at e;exact e
  |seg i cut us ws e0 q h r=>subst e0;cases e
theorem SR.of_plain (h:F2 (VR T rg G) l ws):SR T rg G l ws:=by
 induction h with
 |nil=>exact .nil
 |cons h _ ih=>exact .cons _ _ _ _ h ih
end
end
section
theorem g9 (h:Tx s):(PyData.str (aj s)).canLay0:=by
 have:PySem.PyData.strOk (aj s):=by
  unfold PySem.PyData.strOk aj;simp only[List.all_toArray,bO,decide_eq_true_eq];exactλc hc=>Nat.lt_trans (h c hc) (by simp)
 simpa[PyData.canLay0]using this
theorem zR (a b:List Nat):(aj a==aj b)=jH a b:=by
 refine aa (sH ..) ?_
 by_cases h:a=b
 ·subst h;simp
 ·refine aa (fz h) ?_;have:aj a≠aj b:=λe=>h (gX.mp e);simpa using this
def vU (h:Heap) (n:Nat) (ν:List Int) (st:St) (k:KB) (w1 w2:Value):Prop:=
 E4 λd1 as d2 bs=>A7 (Reads h w1 d1 as) (Reads h w2 d2 bs) (d1.canLay0) (d2.canLay0) (d1.depth<=n) (d2.depth<=n) (BP ν st k (PyData.eqv d1 d2))
def VU (h:Heap) (n:Nat) (ν:List Int) (st:St) (k:KB) (w1 w2:List Value):Prop:=
 E4 λd1 as d2 bs=>A7 (ReadsAll h w1 d1 as) (ReadsAll h w2 d2 bs) (PyData.canLayAll0 d1) (PyData.canLayAll0 d2) (PyData.depthAll d1<=n) (PyData.depthAll d2<=n) (BP ν st k (PyData.eqvAll d1 d2))
section
variable{T:cW} {rg:Addr} {H:Addr->Option Obj} {h:Heap}
theorem MW (x:Tx s):Reads h (.str (aj s) t) (.str (aj s)) []/\PyData.canLay0 (.str (aj s)):=⟨.str _ _,g9 x⟩
theorem M3:Reads h (.int x t) (.int x) []/\PyData.canLay0 (.int x):=⟨.int _ _,by simp[PyData.canLay0]⟩
theorem sZ (I:∀a o,H a=some o->h.get? a=some o):∀(n:Nat) (G:Gh),G.H=H->∀(v:V) (w:Value),rB n v->VR T rg G v w->E2 λd as=>A3 (Reads h w d as) (d.canLay0) (d.depth<=n)
 |0,_,_,_,_,e,_=>ao e
 |n+1,G,hG,v,w,e,r=>by
  refine VR.sel r e (λe=>?_) (λb e=>?_) (λc t e=>?_) (λc ts x t d e e=>?_) (λs t x e=>?_) (λB c ts n s t d e hB x e=>?_) (λi t x e=>?_) qQ (λl ws a hs ha e=>?_) tD gh gf
  ·exact⟨_,_,.none,by simp[PyData.canLay0],by simp[PyData.depth]⟩
  ·exact⟨_,_,.bool b,by simp[PyData.canLay0],by simp[PyData.depth]⟩
  ·exact⟨_,_,.int _ _,by simp[PyData.canLay0],by simp[PyData.depth]⟩
  ·exact⟨_,_,.int _ _,by simp[PyData.canLay0],by simp[PyData.depth]⟩
  ·exact⟨_,_,.str _ _,g9 x,by simp[PyData.depth]⟩
  ·exact⟨_,_,.str _ _,g9 (x _ (List.mem_of_getElem? hB)),by simp[PyData.depth]⟩
  ·exact⟨_,_,.str _ _,g9 x,by simp[PyData.depth]⟩
  ·have e:=e;have all:∀l ws,bj (rB n) l->SR T rg G l ws->E2 λds as=>A3 (ReadsAll h ws ds as) (PyData.canLayAll0 ds) (PyData.depthAll ds<=n):=by
    intro l
    induction l with
    |nil=>intro ws _ hs;induction hs using SR.knil;exact⟨[],_,.nil,by simp[PyData.canLayAll0],by simp[PyData.depthAll]⟩
    |cons v l ih=>
     intro ws e hs;refine ax (show ah (rB n v) (bj (rB n) l) false=true from e) λe2 e1=>?_
     induction hs using SR.kcons with
     |cons w ws hv hr=>
      exact ak (sZ I n G hG v w e1 hv) λd as r1 r2 r3=>ak (ih ws e2 hr) λds bs q1 q2 q3=>⟨d::ds,_,.cons r1 q1,by simp[PyData.canLayAll0,r2,q2],by simp only[PyData.depthAll];exact Nat.max_le_of_le_of_le r3 q3⟩
     |seg i cut us ws e0 hq hv hr=>subst e0;cases n<;>exact ao e1
   refine ak (all l ws e hs) λds as q1 q2 q3=>?_;refine⟨.tuple ds,as,.tuple (I a _ (hG▸ha)) rfl rfl (by assumption),by simpa[PyData.canLay0]using q2,?_⟩;exact Nat.add_le_add_right q3 1
theorem ia (I:∀a o,H a=some o->h.get? a=some o) {G:Gh} (hG:G.H=H):∀{l:List V} {ws:List Value},px l->SR T rg G l ws->E2 λds as=>A3 (ReadsAll h ws ds as) (PyData.canLayAll0 ds) (PyData.depthAll ds<=FD)
 |[],_,_,hs=>by induction hs using SR.knil;exact⟨[],_,.nil,by simp[PyData.canLayAll0],by simp[PyData.depthAll]⟩
 |v::l,_,e,hs=>by
  refine ax e λe2 e1=>?_
  induction hs using SR.kcons with
  |cons w ws hv hr=>
   exact ak (sZ I FD G hG v w e1 hv) λd as r1 r2 r3=>ak (ia I hG e2 hr) λds bs q1 q2 q3=>⟨d::ds,_,.cons r1 q1,by simp[PyData.canLayAll0,r2,q2],by simp only[PyData.depthAll];exact Nat.max_le_of_le_of_le r3 q3⟩
  |seg i cut us ws e0 hq hv hr=>subst e0;exact ao e1
theorem m9 {lo hi:Int} {n:Nat} (h1:lo<=n) (h2:(n:Int)<=hi) (i:O6 B lo hi) (e:B[n]?=some s):(rng B lo hi)[n-lo.toNat]?=some s/\0<=lo:=by
 refine ax i λi a=>?_;refine⟨?_,((aY _ _).mp a)⟩;unfold rng;refine aa (oK ..) (aa (oN ..) (aa (fJ ..) (aa (fJ ..) (aa (bq ..) (aa (List.getElem?_take_of_lt (by omega) ..) (aa (List.getElem?_drop ..) ?_))))));rw[show lo.toNat+(n-lo.toNat)=n by simp_all];exact e
theorem ve {st:St} (D:dn ν st) {n:Nat} (d:Df ν ts) (e:c+ev ν ts=(n:Int)) (hB:B[n]?=some s)
  (h:DL B c ts y st k=true):BP ν st k (jH s y):=by
 refine er (ey D.dom d h) λlo hi h _ b1 b2=>?_;refine ax h λh i=>?_;refine kN (m9 (le_of_le_of_eq b1 e) (le_of_eq_of_le (id (Eq.symm e)) b2) i hB) λm _=>?_;have m:=List.mem_of_getElem? m;refine bA h (λh q=>?_) λh _=>?_
 ·rw[bp,bO]at q;have:=q _ m;rw[fR]at this;exact aa (show jH s y=false by simpa using this ..) (.now D h)
 ·refine ax h λh q=>?_;rw[bp,bO]at q;exact aa (q _ m) (.now D h)
theorem nj {n:Nat} {ih:fT} (hn:FD<=n) (I:∀a o,H a=some o->h.get? a=some o)
  (hi:∀(G:Gh),G.H=H->∀a b st (k:KB) w1 w2,VR T rg G a w1->VR T rg G b w2->dn G.ν st->ih a b st k=true->vU h n G.ν st k w1 w2)
  (g1:∀i c b st k,ih (.seg i c) b st k=false) (g2:∀i c a st k,ih a (.seg i c) st k=false):
  ∀(x:List V) (G:Gh),G.H=H->∀(y:List V) (st:St) (k:KB) (w1 w2:List Value),SR T rg G x w1->SR T rg G y w2->dn G.ν st->DM ih x y st k=true->VU h n G.ν st k w1 w2
 |[],G,hG,y,st,k,w1,w2,h1,h2,D,e=>by
  induction h1 using SR.knil
  refine ax e λe2 e1=>?_;refine ak (ia I hG e1 h2) λds as q1 q2 q3=>?_;refine⟨[],_,ds,as,.nil,q1,by simp[PyData.canLayAll0],q2,by simp[PyData.depthAll],cM q3 hn,?_⟩;rw[show PyData.eqvAll [] ds=cL y by
   induction h2 using SR.casesOn with
   |nil=>cases q1;rfl
   |cons=>cases q1;rfl
   |seg i cut us l ws hq hv hr=>cases e1]
  exact .now D e2
 |a::r,G,hG,y,st,k,w1,w2,h1,h2,D,e=>by
  induction h1 using SR.kcons with
  |seg i cut us ws e0 hq hv hr=>
   subst e0;cases y with
   |nil=>
    exact ax (show ah (px (.seg i cut::r)) (k false st) false=true from e) λ_ z=>ao z
   |cons b y=>have e:ih (.seg i cut) b st _=true:=e;rw[g1]at e;exact ao e
  |cons w ws hv hr=>
   induction h2 using SR.casesOn with
   |seg i cut us l ws hq hv' hr'=>have e:ih a (.seg i cut) st _=true:=e;rw[g2]at e;exact ao e
   |nil=>
    refine ax e λe2 e1=>?_;refine ak (ia I hG e1 (.cons _ _ _ _ hv hr)) λds as q1 q2 q3=>?_;refine⟨ds,as,[],_,q1,.nil,q2,by simp[PyData.canLayAll0],cM q3 hn,by simp[PyData.depthAll],?_⟩;rw[show PyData.eqvAll ds []=false by cases q1;simp[PyData.eqvAll]];exact .now D e2
   |cons b w' y' ws' hv' hr'=>
    have e:ih a b st (Pv (DM ih r) r y' k):=e;refine mA (hi G hG a b st _ w w' hv hv' D e) λd1 as d2 bs r1 r2 c1 c2 p1 p2 zz12=>?_;refine cJ zz12 λν' st' pr e sm D'=>?_;have L:G.Le {G with ν:=ν'}:=⟨λ_ _ x=>x,pr,λ_ _ x=>x⟩;refine bA e (λe t=>?_) λe t=>?_
    ·refine mA (nj hn I hi g1 g2 r {G with ν:=ν'} hG y' st' k ws ws' (hr.mono L) (hr'.mono L) D' e) λds1 as' ds2 bs' q1 q2 G1 G2 f1 f2 B=>?_;refine⟨d1::ds1,_,d2::ds2,_,.cons r1 q1,.cons r2 q2,by simp[PyData.canLayAll0,c1,G1],by simp[PyData.canLayAll0,c2,G2],by simp only[PyData.depthAll];exact Nat.max_le_of_le_of_le p1 f1,by simp only[PyData.depthAll];exact Nat.max_le_of_le_of_le p2 f2,?_⟩;simp only[PyData.eqvAll,t];exact B.mono pr sm
    ·refine ax e λe e1=>?_;refine ax e λe e2=>?_;refine ak (ia I hG e1 hr) λds1 as' q1 G1 f1=>?_;refine ak (ia I hG e2 hr') λds2 bs' q2 G2 f2=>?_;refine⟨d1::ds1,_,d2::ds2,_,.cons r1 q1,.cons r2 q2,by simp[PyData.canLayAll0,c1,G1],by simp[PyData.canLayAll0,c2,G2],by simp only[PyData.depthAll];lia,by simp only[PyData.depthAll];lia,?_⟩;simp only[PyData.eqvAll,t];exact BP.mono pr sm (.now D' e)
end
end
section
open PySem PySem.W PySem.Calls PyProof.Rows PySem.SeqAt
section
variable{T:cW} {rg:Addr} {H:Addr->Option Obj} {h:Heap}
theorem vU.str {st:St} (hx:Tx x) (hy:Tx y) (B:BP ν st k (jH x y)):vU h n ν st k (.str (aj x) t) (.str (aj y) u):=
 ⟨_,_,_,_,.str _ _,.str _ _,g9 hx,g9 hy,by simp[PyData.depth],by simp[PyData.depth],by rw[show PyData.eqv (.str (aj x)) (.str (aj y))=jH x y by simp only[PyData.eqv];exact zR x y];exact B⟩
theorem vU.int {st:St} (B:BP ν st k (decide (x=y))):vU h n ν st k (.int x t) (.int y u):=
 ⟨_,_,_,_,.int _ _,.int _ _,by simp[PyData.canLay0],by simp[PyData.canLay0],by simp[PyData.depth],by simp[PyData.depth],by
  exact B⟩
theorem Jo {st:St} (D:dn G.ν st) (d:Df G.ν ts) (q:c+ev G.ν ts=x) (hb:VR T rg G b w2) (e:QI c ts b st k=true):vU h n G.ν st k (.int x t) w2:=by
 exact fZ hb e λy u hy=>vU.int (Mh D d q hy e)
theorem CO (a b:List Nat):jH a b=jH b a:=by refine aa (sH ..) (aa (sH ..) ?_);by_cases h:a=b<;>simp[h];intro e;exact h e.symm
theorem Fe {ih:fT}:True:=trivial
theorem zj {st:St} (D:dn ν st) {c e:Int} {n m:Nat} {s y:List Nat} (d:Df ν ts) (d':Df ν us) (q:c+ev ν ts=(n:Int)) (q':e+ev ν us=(m:Int))
  (hB:B[n]?=some s) (hU:U[m]?=some y) (x:Hy B c ts st k U e us=true):BP ν st k (jH s y):=by
 refine er (ey D.dom d x) λlo hi x _ b1 b2=>?_;refine kN (cQ ν gJ us d') λm1 m2=>?_;refine kN (cE ν ts _ d m2) λa1 a2=>?_;rcases eg D.dom a2 x with x |x
 ·rw[show d6 c e+ev ν (fS ts (fG gJ us))=n-m by refine aa a1 (aa m1 (aa (bq ..) (aa d7 ?_)));lia]at x;refine ax x λx i1=>?_;refine ax x λx i2=>?_;refine kN (dK x) λr x=>?_;rw[bq,bq]at i2 r;refine kN (m9 (le_of_le_of_eq b1 q) (le_of_eq_of_le (id (Eq.symm q)) b2) i1 hB) λg1 g2=>?_;refine kN (m9 (by lia) (by lia) i2 hU) λg3 g4=>?_;rw[Ln r,show n-lo.toNat=m-(lo-(n-m)).toNat by omega,g3]at g1;have:s=y:=(ch g1).symm;exact bI this (aa ((bG s s).mpr rfl ..) (.now D x))
 ·exact ao x
theorem pq (n:Nat) (i:Nat) (c:Bool) (b:V) (st:St) (k:KB):Hw n (.seg i c) b st k=false:=by cases n<;>rfl
theorem pk (n:Nat) (i:Nat) (c:Bool) (a:V) (st:St) (k:KB):Hw n a (.seg i c) st k=false:=by cases n<;>cases a<;>rfl
theorem pt (I:∀a o,H a=some o->h.get? a=some o):∀(n:Nat) (G:Gh),G.H=H->∀a b st (k:KB) w1 w2,VR T rg G a w1->VR T rg G b w2->dn G.ν st->Hw n a b st k=true->vU h (n+FD) G.ν st k w1 w2
 |0,_,_,_,_,_,_,_,_,_,_,_,e=>ao e
 |n+1,G,hG,a,b,st,k,w1,w2,h1,h2,D,e=>by
  induction h1 using VR.casesOn with
  |none=>
   refine ax e λe q=>?_;refine VR.sel h2 q (λq=>?_) rX rW rV Bd tF qh qQ tE tD gh gf;exact⟨_,_,_,_,.none,.none,by simp[PyData.canLay0],by simp[PyData.canLay0],by simp[PyData.depth],by simp[PyData.depth],by simp only[PyData.eqv];exact .now D e⟩
  |bool x=>
   refine VR.sel h2 e qi (λy e=>?_) rW rV Bd tF qh qQ tE tD gh gf;refine⟨_,_,_,_,.bool x,.bool y,by simp[PyData.canLay0],by simp[PyData.canLay0],by simp[PyData.depth],by simp[PyData.depth],?_⟩;rw[show PyData.eqv (.bool x) (.bool y)=ah x y (ji y) by simp only[PyData.eqv];cases x<;>cases y<;>rfl];exact .now D e
  |int c t=>exact Jo D (Df.nil _) (by simp[ev]) h2 e
  |lin c ts x t d q=>exact Jo D d q h2 e
  |str s t hs=>
   refine VR.sel h2 e qi rX rW rV (λy u hy e=>?_) (λB c ts m y u d q hB hx e=>?_) qh qQ tE tD gh gf
   ·exact vU.str hs hy (.now D e)
   ·have:=ve D d q hB e;rw[CO]at this;exact vU.str hs (hx _ (List.mem_of_getElem? hB)) this
  |stab B c ts m s t d q hB hx=>
   refine VR.sel h2 e qi rX rW rV (λy u hy e=>?_) (λU c' us m' y u d' q' hU hy e=>?_) qh qQ tE tD gh gf
   ·exact vU.str (hx _ (List.mem_of_getElem? hB)) hy (ve D d q hB e)
   ·exact vU.str (hx _ (List.mem_of_getElem? hB)) (hy _ (List.mem_of_getElem? hU)) (zj D d d' q q' hB hU e)
  |sat i t hx=>
   refine VR.sel h2 e qi rX rW rV Bd tF (λj u hy e=>?_) qQ tE tD gh gf;refine ax e λe2 q=>?_;have:=gB q;subst this;exact vU.str hx hy (.now D (by refine aa ((bG _ _).mpr rfl ..) ?_;exact e2))
  |tup l ws a hs ha=>
   refine VR.sel h2 e qi rX rW rV Bd tF qh qQ (λl' ws' a' hs' ha' e=>?_) tD gh gf;refine mA (nj (Nat.le_add_left _ _) I (pt I n) (pq n) (pk n) l G hG l' st k ws ws' hs hs' D e) λds1 as ds2 bs q1 q2 g1 g2 f1 f2 B=>?_;refine⟨.tuple ds1,_,.tuple ds2,_,.tuple (I a _ (hG▸ha)) rfl rfl (by assumption),.tuple (I a' _ (hG▸ha')) rfl rfl (by assumption),by simpa[PyData.canLay0]using g1,by simpa[PyData.canLay0]using g2,by simp only[PyData.depth];exact Nat.add_le_add_right f1 1,by simp only[PyData.depth];exact Nat.add_le_add_right f2 1,?_⟩;simpa only[PyData.eqv]using B
  |_=>exact ao e
def Fb (s:Shared) (w1 w2:Value) (r:Bool):Prop:=∀A:Around,A.units+64<cLine->RcAt A s w1 w2 r/\RcNeAt A s w1 w2 (!r)
theorem vU.top {st:St} (hn:n<=63) (x:vU s.heap n ν st k w1 w2):∃r,Fb s w1 w2 r/\BP ν st k r:=by
 refine mA x λd1 as d2 bs r1 r2 c1 c2 p1 p2 B=>?_;refine⟨_,λA hu=>⟨rcAt_reads r1 r2 c1 c2 ?_,rcNeAt_reads r1 r2 c1 c2 ?_⟩,B⟩<;>
 ·have:=Nat.min_le_left d1.depth d2.depth;lia
structure HV (T:cW) (rg:Addr) (G:Gh) (st:St) (h:Heap):Prop where
 imm:∀a o,G.H a=some o->h.get? a=some o
 lst:∀p l,dj p st=some (.list l)->E4 λa d ws n=>A3 (G.ρ p=some (a,d)) (h.get? a=some (hM ws n)) (SR T rg G l ws)
theorem hH (e:bJ o k=true):∃l,o=.list l/\k l=true:=by cases o<;>first |exact⟨_,rfl,e⟩ |exact ao e
theorem ek {p:AI} {st:St} (e:obj p st k=true):∃o,dj p st=some o/\k o=true:=by
 have e:ag (dj p st) false k=true:=e;cases q:dj p st with
 |none=>rw[q]at e;exact ao e
 |some o=>rw[q]at e;exact⟨o,rfl,e⟩
theorem cb {k:AI->af} (e:dY v k=true):∃p,v=.ref p/\k p=true:=by cases v<;>first |exact⟨_,rfl,e⟩ |exact ao e
@[elab_as_elim] theorem Iv {v:V} {k:AI->af} {C:V->Prop} (e:dY v k=true) (c:∀p,k p=true->C (.ref p)):C v:=aA (cb e) λp e h=>e▸c p h
theorem gm {p:AI} {st:St} (e:obj p st (λo=>bJ o k)=true) {C:Prop} (c:∀l,k l=true->dj p st=some (.list l)->C):C:=aA (ek e) λo ho e=>aA (hH e) λl q e=>c l e (q▸ho)
theorem oW:∀{ws:List Value} {l:List UInt8} {ds:List PyData} {as:List Addr},F2 (λw (u:UInt8)=>bP w u.toNat) ws l->ReadsAll h ws ds as->ds=l.map λu=>PyData.int u.toNat:=by
 intro ws l ds as h r
 induction h generalizing ds as with
 |nil=>cases r;rfl
 |cons e h ih=>
  refine kX e λt ee14=>?_;subst ee14;cases r with
  |cons q qs=>cases q;refine aa (ih qs) ?_;rfl
theorem lm:∀(a b:List UInt8),PyData.eqvAll (a.map λu=>PyData.int u.toNat) (b.map λu=>PyData.int u.toNat)=(a==b)
 |[],[]=>by simp[PyData.eqvAll]
 |[],_::_=>by simp[PyData.eqvAll]
 |_::_,[]=>by simp[PyData.eqvAll]
 |a::r,b::t=>by
  refine aa fy ?_;refine aa fy ?_;rw[PyData.eqvAll,PyData.eqv,lm r t,List.cons_beq_cons];have z:((a.toNat:Int)==(b.toNat))=(a==b):=by
   rw[Bool.eq_iff_iff,beq_iff_eq,beq_iff_eq];constructor
   ·intro z;exact UInt8.toNat_inj.mp (by lia)
   ·rintro rfl;rfl
  rw[z]
theorem Ej {st:St} (V:HV T rg G st s.heap) (h1:VR T rg G a w1) (h2:VR T rg G b w2) (D:dn G.ν st) (e:ce a b st k=true):
  ∃r,Fb s w1 w2 r/\BP G.ν st k r:=by
 have data:Hw (FE+1) a b st k->∃r,Fb s w1 w2 r/\BP G.ν st k r:=λe=>(pt V.imm _ G rfl a b st k w1 w2 h1 h2 D e).top (by decide)
 induction h1 using VR.casesOn with
 |bytes l ws x t hs hx=>
  refine VR.sel h2 e qi rX rW rV Bd tF qh (λl' ws' y u hs' hy e=>?_) tE tD gh gf;refine mA (nj (Nat.le_add_left _ _) V.imm (pt V.imm FE) (pq FE) (pk FE) l G rfl l' st k ws ws' hs hs' D e) λds1 as ds2 bs q1 q2 g1 g2 f1 f2 B=>?_;rw[oW hx q1,oW hy q2,lm]at B;exact⟨_,λA hu=>⟨λprog w E Q hQ=>eq_bytes hQ,λprog w E Q hQ=>ne_bytes hQ⟩,B⟩
 |ref p x d hp=>
  refine aA (ek e) λo ho e=>?_;refine aA (cb e) λq ee15 e=>?_;subst ee15;refine aA (hH e) λl ee16 e=>?_;subst ee16;refine gm e λl' e ho'=>?_;cases h2 with
  |ref _ y d' hq=>
   refine yT (V.lst p l ho) λa1 d1 ws1 n1 r1 g1 v1=>?_;refine yT (V.lst q l' ho') λa2 d2 ws2 n2 r2 g2 v2=>?_;replace r1:=(hp ..)▸r1;refine kN (fE r1) λee18 ee19=>?_;subst ee18;replace r2:=(hq ..)▸r2;refine kN (fE r2) λee20 ee21=>?_;subst ee20;refine ib e λe sg=>?_;rw[eR,Bool.or_eq_false_iff]at sg;refine bA e (λe z=>?_) λe z=>?_
   ·refine mA (nj (Nat.le_add_left _ _) V.imm (pt V.imm FE) (pq FE) (pk FE) l G rfl l' st k ws1 ws2 v1 v2 D e) λds1 as ds2 bs q1 q2 c1 c2 f1 f2 B=>?_;refine vU.top (n:=FE+FD+1) (by decide) ⟨.list ds1,_,.list ds2,_,.list g1 rfl rfl (by assumption),.list g2 rfl rfl (by assumption),by simpa[PyData.canLay0]using c1,by simpa[PyData.canLay0]using c2,by simp only[PyData.depth];exact Nat.add_le_add_right f1 1,by simp only[PyData.depth];exact Nat.add_le_add_right f2 1,?_⟩;simpa only[PyData.eqv]using B
   ·have z:=Nat.ne_of_beq_eq_false z;rw[bw,bw]at z;refine⟨false,λA hu=>?_,.now D e⟩;have i1:s.heap.IsList x ws1.toArray:=⟨_,g1,rfl,_,rfl⟩;have i2:s.heap.IsList y ws2.toArray:=⟨_,g2,rfl,_,rfl⟩;have ne:(ws1.toArray.size !=ws2.toArray.size):=by simp;simpa[((v1.plain sg.1).length),((v2.plain sg.2).length)]using z
    exact⟨RcAt.lists_lengths i1 i2 ne (Nat.lt_of_add_right_lt hu),RcNeAt.lists_lengths i1 i2 ne (Nat.lt_of_add_right_lt hu)⟩
  |_=>cases e
 |_=>exact data e
end
end
section
noncomputable def sd:Pz->Nat
 |.h=>0
 |.e p=>2*sd p+1
 |.o p=>2*sd p+2
theorem yB:∀{p q:Pz},sd p=sd q->p=q
 |.h,.h,_=>rfl
 |.h,.e q,h=>by simp[sd]at h
 |.h,.o q,h=>by simp[sd]at h
 |.e p,.h,h=>by simp[sd]at h
 |.o p,.h,h=>by simp[sd]at h
 |.e p,.e q,h=>by rw[yB (p:=p) (q:=q) (by simp only[sd]at h;lia)]
 |.o p,.o q,h=>by rw[yB (p:=p) (q:=q) (by simp only[sd]at h;lia)]
 |.e p,.o q,h=>by simp only[sd]at h;lia
 |.o p,.e q,h=>by simp only[sd]at h;lia
theorem uf:∀p:Pz,sd p.succ=sd p+1
 |.h=>rfl
 |.e p=>by show sd (.o p)=_;dsimp only[sd]
 |.o p=>by
  have:Pz.succ (.o p)=.e p.succ:=rfl;refine aa this ?_;rw[sd,uf p];rfl
theorem bH (x:O):∀(p:Pz) (t:Tr),(Tr.set x p t).get p=some x
 |.h,.nil=>rfl
 |.h,.node _ _ _=>rfl
 |.e p,.nil=>bH x p .nil
 |.e p,.node _ _ r=>bH x p r
 |.o p,.nil=>bH x p .nil
 |.o p,.node _ l _=>bH x p l
theorem QG (q:Pz):Tr.nil.get q=none:=rfl
theorem aS (x:O):∀(p q:Pz) (t:Tr),q≠p->(Tr.set x p t).get q=t.get q
 |.h,.h,_,h=>absurd rfl h
 |.h,.e q,.nil,_=>rfl
 |.h,.e q,.node _ _ _,_=>rfl
 |.h,.o q,.nil,_=>rfl
 |.h,.o q,.node _ _ _,_=>rfl
 |.e p,.h,.nil,_=>rfl
 |.e p,.h,.node _ _ _,_=>rfl
 |.o p,.h,.nil,_=>rfl
 |.o p,.h,.node _ _ _,_=>rfl
 |.e p,.o q,.nil,_=>rfl
 |.e p,.o q,.node _ _ _,_=>rfl
 |.o p,.e q,.nil,_=>rfl
 |.o p,.e q,.node _ _ _,_=>rfl
 |.e p,.e q,.nil,h=>(aS x p q .nil λz=>h (by rw[z])).trans rfl
 |.e p,.e q,.node _ _ r,h=>aS x p q r λz=>h (by rw[z])
 |.o p,.o q,.nil,h=>(aS x p q .nil λz=>h (by rw[z])).trans rfl
 |.o p,.o q,.node _ l _,h=>aS x p q l λz=>h (by rw[z])
noncomputable def Hu:List (List Nat):=(["name","kinds","opcode","escape","digit","size","must","is_wide","number","places","forms","by_name","by_code","segment","is_data","repeat","is_lock","rex","begin","prefixes","code_at","w","r","x","b","modrm_at","mod","reg","rm","sib","disp","width","rest_at","kind","register","worth","base","index","scale","operands","prefix","instruction","length","form","what","at"].map λs=>s.toList.map Char.toNat)
noncomputable def b9 (f:Nat):Str:=aj (Hu.getD f [])
structure Zt where
 prog:Program
 w:World
 K:Frag
 s₀:Shared
 T:cW
 rg:Addr
 cls:Nat->Addr
 p:Program
 loose:List Str
 mg:Str->Option Value
 mb:Str->Option Value
 g0:Tr
 x0:Xt
 n0:List Int
abbrev jF:=Str->Option Value
structure Fx where
 base:Heap
 xb:Heap
 fl0:Tr
 h0:Addr->Option Obj
 L:Addr
 fL:Addr
 env:Env
 fenv:Env
 A:Around
 outs:List (Addr×jF)
 outE:List Env
 held:List (Addr×Value)
noncomputable def Zt.decC (Z:Zt):Value:=.ref (Z.cls 3)
structure FxOk (Z:Zt) (X:Fx) (n:Nat) (sc:Scope):Prop where
 inK:Z.K.In X.base
 top:TopRead Z.p Z.loose Z.mg Z.mb X.base
 frames:X.A.frames=some (X.fenv::X.outE)
 handled:X.A.handled=none
 depth:X.A.depth+2*n+20<600
 units:X.A.units+40*n+200<cLine
 locals:X.env.locals=X.L
 frame:X.env.frame=some X.fL
 fkind:X.fenv.scope.kind≠.module
 scope:X.env.scope=sc
 kind:sc.kind=.function
 globals:X.env.globals=mainGlobals
 builtins:X.env.builtins=builtinsNs
 outK:∀e∈X.outE,e.scope.kind≠.module
 frs:∀e∈X.fenv::X.outE,∃a,e.frame=some a/\(a=X.L\/a∈X.outs.map (·.1))
structure E9 (Z:Zt) (X:Fx) (n:Nat) (sc:Scope):Prop extends FxOk Z X n sc where
 same:X.fenv=X.env
inductive EU where
 |id (i:AI) |imm |fr
def QM (o:Obj) (m:jF):Prop:=E2 λes ep=>o.data=.dict es ep/\StrKeys es/\∀name,nsFind es name=m name
def cO (X:Fx) (tr:List (Addr×Obj)) (a:Addr) (o:Obj):Prop:=(a,o)∈tr\/X.base.get? a=some o
noncomputable abbrev oY (C dx:Addr):Obj:=rj C dx #[]
def FR (T:cW) (rg:Addr) (G:Gh) (fs:List (Nat×V)) (es:List DictEntry):Prop:=F2 (λp e=>p.1<44/\(∃t,e.key=.str (b9 p.1) t)/\VR T rg G p.2 e.val) fs es
def mL (l:List V) (ks:List Int):Prop:=F2 (λv c=>∀k:KT,cF v k=k c []) l ks
noncomputable abbrev R8 (Z:Zt):KeyKind Z.prog Z.w Str:=PySem.strKind Z.prog Z.w
noncomputable abbrev Oi (Z:Zt):HeapKind Z.prog Z.w (List Int):=PySem.tupleKind (PySem.intKind Z.prog Z.w)
def Qh (Z:Zt) (G:Gh) (es:List (V×V)) (ds:List DictEntry) (kvs:List (Str×Value)):Prop:=
 KeysOf (R8 Z) ds.toArray/\Pairs (R8 Z) ds kvs/\(kvs.map (·.1)).Nodup/\F2 (λp kv=>(∃x,p.1=.str x/\kv.1=aj x)/\VR Z.T Z.rg G p.2 kv.2) es kvs
def Qg (Z:Zt) (G:Gh) (es:List (V×V)) (ds:List DictEntry) (xs:List (List Int×Addr×Value)):Prop:=
 ds=xs.map (entryOfKey (Oi Z))/\(xs.map (·.1)).Nodup/\F2 (λp x=>((∃l,p.1=.tup l/\mL l x.1)/\∃ws,G.H x.2.1=some (cj ws)/\ItemsAre (PySem.intKind Z.prog Z.w) x.1 ws)/\VR Z.T Z.rg G p.2 x.2.2) es xs
def DR (Z:Zt) (G:Gh) (es:List (V×V)) (ds:List DictEntry):Prop:=(∃kvs,Qh Z G es ds kvs)\/∃xs,Qg Z G es ds xs
noncomputable abbrev U4 (l:Addr) (i:Nat):Obj:={cls:=.type "list_iterator",data:=.fields #[.ref l,.int i 0]}
noncomputable abbrev NV (l:Addr) (i:Nat):Obj:={cls:=.type "tuple_iterator",data:=.fields #[.ref l,.int i 0]}
noncomputable abbrev U5 (b:Array UInt8) (t:Tok) (i:Nat):Obj:={cls:=.type "bytes_iterator",data:=.fields #[.bytes b t,.int i 0]}
def E1 (o p:Obj):Prop:=o.cls=p.cls/\o.data=p.data
def OR (Z:Zt) (Hs:Addr->Obj->Prop) (G:Gh) (a d:Addr):O->Prop
 |.list l=>d=a/\E2 λws n=>Hs a (hM ws n)/\SR Z.T Z.rg G l ws
 |.inst c fs=>((3<c/\c<16)/\(fs.map (·.1)).Nodup)/\E2 λes n=>A3 (Hs a (oY (Z.cls c) d)) (Hs d (dictOf es n)) (FR Z.T Z.rg G fs es)
 |.dict es=>d=a/\(a==sysModules)=false/\E2 λds n=>Hs a (dictOf ds n)/\DR Z G es ds
 |.lit k i=>d=a/\E3 λq dq o=>A3 (G.ρ k=some (q,dq)) (Hs a o) (E1 o (U4 q i))
 |.tit l=>d=a/\E4 λq ws i o=>A4 (G.H q=some (cj ws)) ((Hs a o/\E1 o (NV q i))) (SR Z.T Z.rg G l (ws.drop i)) (i<=ws.length)
 |.rit x left=>d=a/\Hs a (itR x left)
 |.bit l=>d=a/\E5 λb t i ws o=>A4 ((Hs a o/\E1 o (U5 b t i))) (SR Z.T Z.rg G l ws) (F2 (λw (u:UInt8)=>bP w u.toNat) ws (b.toList.drop i)) (i<=b.size)
 |.zit p q=>E7 λp' dp q' dq TI u v=>G.ρ p=some (p',dp)/\G.ρ q=some (q',dq)/\
   Hs a {cls:=.type "zip",data:=.fields #[.none,.bool false,.bool false,.ref TI,.ref d]}/\G.H TI=some (cj [.ref p',.ref q'])/\Hs d (cj [u,v])
 |.dead=>True
 |.rng k=>d=a/\E3 λt u v=>Hs a {cls:=.type "range",data:=.fields #[.int 0 t,.int (k:Int) u,.int 1 v]}
def vK (X:Fx) (m:jF) (Hs:Addr->Obj->Prop) (x:Str) (w:Value):Prop:=
 (X.env.kindOf x=some .local/\m x=some w)\/((X.env.kindOf x=some .cell\/X.env.kindOf x=some .free)/\∃c,X.env.cells.lookup x=some c/\(c,w)∈X.held)
structure EJ (Z:Zt) (X:Fx) (G:Gh) (st:St) (tr:List (Addr×Obj)):Prop where
 has:∀b o,X.xb.get? b=some o->cO X tr b o
 loc:X.xb.get? X.L=none
 out:∀p∈X.outs,X.xb.get? p.1=none
 wri:∀p o,st.t.get p=some o->st.fl.get p=none->∀a d,G.ρ (.d p)=some (a,d)->X.xb.get? a=none/\X.xb.get? d=none
 g:st.g=Z.g0
 x:st.x=Z.x0
 f:st.fl=X.fl0
 h:∀a o,G.H a=some o->X.h0 a=some o\/X.xb.get? a=none
 v:Z.n0 <+:G.ν
structure ap (Z:Zt) (X:Fx) (sl:List Str) (G:Gh) (vs:Vs) (st:St) (m:jF) (s:Shared) (tr:List (Addr×Obj)):Prop where
 sh:s={Z.s₀ with heap:=s.heap,toks:=s.toks}
 fr:Fr X.base X.L s.heap m
 nw:News X.base X.L s.heap tr
 nd:(tr.map (·.1)).Nodup
 loc:∀(i:Nat) (x:Str) (v:V),sl[i]?=some x->vs[i]?=some v->v≠.unset->∃w,vK X m (cO X tr) x w/\VR Z.T Z.rg G v w
 len:vs.length=sl.length
 out:∀p∈X.outs,∃o,(p.1,o)∈tr/\QM o p.2
 sto:∀i o,dj i st=some o->E2 λa d=>G.ρ i=some (a,d)/\OR Z (cO X tr) G a d o
 wri:∀p o,st.t.get p=some o->st.fl.get p=none->E2 λa d=>A3 (G.ρ (.d p)=some (a,d)) (a∈tr.map (·.1)) (d∈tr.map (·.1))
 imm:∀a o,G.H a=some o->cO X tr a o
 own:∃ow:Addr->EU,(∀i a d,G.ρ i=some (a,d)->ow a=.id i/\ow d=.id i)/\(∀a o,G.H a=some o->ow a=.imm)/\(∀p∈X.outs,ow p.1=.fr)/\(∀p∈X.held,ow p.1=.fr)
 rng:∀i a d,G.ρ i=some (a,d)->(∃o,cO X tr a o)/\∃o,cO X tr d o
 hel:∀p∈X.held,∃o,(p.1,o)∈tr/\o.data=.cell (some p.2)
 cnt:∀p,sd st.n<=sd p->G.ρ (.d p)=none
 num:dn G.ν st
 xok:EJ Z X G st tr
def bg (Z:Zt) (X:Fx) (sl:List Str) (G:Gh) (vs:Vs) (st:St) (m:jF) (s:Shared):Prop:=∃tr,ap Z X sl G vs st m s tr
def Qf (h base:Heap) (e:Addr) (cls a0:Value):Prop:=E2 λoe vs=>A5 (h.get? e=some oe) (oe.cls=cls) (oe.data=.fields vs) (vs[0]?=some a0) (vs[1]?=some .none)
def Ip (Z:Zt) (X:Fx) (x:Value) (s:Shared):Prop:=
 s={Z.s₀ with heap:=s.heap,toks:=s.toks}/\(∀p∈X.outs,s.heap.Ns p.1 p.2)/\(∀p∈X.held,s.heap.IsCell p.1 (some p.2))/\X.xb.StaysIn s.heap/\s.heap.FunFrames X.xb (X.fenv::X.outE)/\
 E2 λe a0=>A3 (x=.ref e) (X.xb.get? e=none) ((Qf s.heap X.xb e Z.decC a0\/s.heap.TracedAtW X.xb e Z.decC a0 .none\/s.heap.TracedAtW X.xb e Z.decC a0 (rawInt X.fL)))
def i0 (Z:Zt) (X:Fx) (ν:List Int) (kE:KE) (x:Value) (s:Shared):Prop:=Ip Z X x s/\E2 λν' st'=>A3 (ν <+:ν') (dn ν' st') (kE st')
def c6 (Z:Zt) (X:Fx) (ν:List Int) (m:jF) (kE:KE) (x:Value) (s:Shared):Prop:=i0 Z X ν kE x s/\s.heap.Ns X.L m
def bf (Z:Zt) (X:Fx) (sl:List Str) (G:Gh) (vs:Vs) (m:jF) (k:K) (w:Value) (s:Shared):Prop:=E3 λG' v st'=>A4 (G.Le G') (VR Z.T Z.rg G' v w) (k v st') (bg Z X sl G' vs st' m s)
def il (Z:Zt) (X:Fx) (sl:List Str) (G:Gh) (vs:Vs) (m:jF) (k:KB) (b:Bool) (s:Shared):Prop:=E2 λG' st'=>A3 (G.Le G') (k b st') (bg Z X sl G' vs st' m s)
def av (Z:Zt) (n:Nat) (sc:Scope) (sl:List Str) (a:Ev) (e:Expr):Prop:=∀X,FxOk Z X n sc->∀G vs st m s (k:K) (kE:KE),bg Z X sl G vs st m s->a vs st k kE->
 wpAny (model Z.prog Z.w) X.A (eval e X.env) (bf Z X sl G vs m k) (c6 Z X G.ν m kE) s
def ju (Z:Zt) (n:Nat) (sc:Scope) (sl:List Str) (c:Cd) (e:Expr):Prop:=∀X,FxOk Z X n sc->∀G vs st m s (k:KB) (kE:KE),bg Z X sl G vs st m s->c vs st k kE->
 wpAny (model Z.prog Z.w) X.A (eval e X.env) (λw s'=>∃b,w=.bool b/\il Z X sl G vs m k b s') (c6 Z X G.ν m kE) s
def dT (Z:Zt) (n:Nat) (sc:Scope) (sl:List Str) (c:Cd) (e:Expr):Prop:=∀X,FxOk Z X n sc->∀G vs st m s (k:KB) (kE:KE),bg Z X sl G vs st m s->c vs st k kE->
 wpAny (model Z.prog Z.w) X.A (isTrue e X.env (eval e X.env)) (il Z X sl G vs m k) (c6 Z X G.ν m kE) s
end
section
section
variable{Z:Zt} {X:Fx} {sl:List Str} {G G':Gh} {vs:Vs} {st st':St} {m:jF} {s:Shared} {tr:List (Addr×Obj)} {n:Nat} {sc:Scope}
theorem bg.k (I:bg Z X sl G vs st m s) {C:Prop} (k:∀tr,ap Z X sl G vs st m s tr->C):C:=kX I k
theorem ap.get (I:ap Z X sl G vs st m s tr) (h:cO X tr a o):s.heap.get? a=some o:=h.elim (λh=>(I.nw _ h).1) (λh=>I.fr.keep _ _ h)
theorem FR.mono {T:cW} (L:G.Le G') (h:FR T rg G fs es):FR T rg G' fs es:=F2.mono h λ_ _ x=>⟨x.1,x.2.1,x.2.2.mono L⟩
theorem DR.mono (L:G.Le G') (h:DR Z G fs es):DR Z G' fs es:=by
 refine h.elim (λz=>fb z λkvs a b c d=>?_) λz=>gD z λxs a b c=>?_
 ·exact .inl ⟨kvs,a,b,c,F2.mono d λ_ _ x=>⟨x.1,x.2.mono L⟩⟩
 ·exact .inr ⟨xs,a,b,F2.mono c λ_ _ x=>⟨⟨x.1.1,aA x.1.2 λws y z=>⟨ws,L.H _ _ y,z⟩⟩,x.2.mono L⟩⟩
theorem OR.map (ka:∀o,Hs a o->Hs' a o) (kd:∀o,Hs d o->Hs' d o) (L:G.Le G') (r:OR Z Hs G a d o):OR Z Hs' G' a d o:=by
 cases o with
 |list l=>refine kN r λe zz22=>?_;refine aJ zz22 λws n h r=>?_;exact⟨e,ws,n,ka _ h,r.mono L⟩
 |inst c fs=>refine kN r λhc zz23=>?_;refine ak zz23 λes n h1 h2 r=>?_;exact⟨hc,es,n,ka _ h1,kd _ h2,r.mono L⟩
 |dict es=>refine iP r λe e2 zz24=>?_;refine aJ zz24 λds n h r=>?_;exact⟨e,e2,ds,n,ka _ h,r.mono L⟩
 |lit k i=>refine kN r λe zz25=>?_;refine CV zz25 λq dq o r h g=>?_;exact⟨e,q,dq,o,L.ρ _ _ r,ka _ h,g⟩
 |tit l=>refine kN r λe zz26=>?_;obtain⟨q,ws,i,o,r,⟨h,g⟩,x,y⟩:=zz26;exact⟨e,q,ws,i,o,L.H _ _ r,⟨ka _ h,g⟩,x.mono L,y⟩
 |rit x l=>refine kN r λe h=>?_;exact⟨e,ka _ h⟩
 |bit l=>refine kN r λe zz27=>?_;refine jN zz27 λb t i ws o z0 r x y=>?_;obtain⟨h,g⟩:=z0;exact⟨e,b,t,i,ws,o,⟨ka _ h,g⟩,r.mono L,x,y⟩
 |zit p q=>refine yR r λp' dp q' dq TI u v r1 r2 h1 h2 h3=>?_;exact⟨p',dp,q',dq,TI,u,v,L.ρ _ _ r1,L.ρ _ _ r2,ka _ h1,L.H _ _ h2,kd _ h3⟩
 |dead=>trivial
 |rng n=>refine kN r λe zz28=>?_;refine M1 zz28 λt u v h=>?_;exact⟨e,t,u,v,ka _ h⟩
theorem OR.mono (k:∀a o,Hs a o->Hs' a o) (L:G.Le G') (r:OR Z Hs G a d o):OR Z Hs' G' a d o:=r.map (k a) (k d) L
theorem ap.hv (I:ap Z X sl G vs st m s tr):HV Z.T Z.rg G st s.heap where
 imm:=λa o h=>I.get (I.imm a o h)
 lst:=λp l h=>by
  refine aJ (I.sto p _ h) λa d r zz29=>?_;obtain⟨e,ws,n,h,v⟩:=zz29;exact⟨a,d,ws,n,r,I.get h,v⟩
theorem bg.hv (I:bg Z X sl G vs st m s):HV Z.T Z.rg G st s.heap:=kX I λ_ I=>I.hv
theorem AA (S:dS st st') (i:AI):dj i st'=dj i st:=by
 refine yQ S λa b c d e=>?_;unfold dj;refine aa a ?_;rw[c]
theorem ap.letters (I:ap Z X sl G vs st m s tr) (p:G.ν <+:ν') (S:dS st st') (D:dn ν' st'):ap Z X sl {G with ν:=ν'} vs st' m s tr:=by
 have L:G.Le {G with ν:=ν'}:=⟨λ_ _ x=>x,p,λ_ _ x=>x⟩;refine⟨I.sh,I.fr,I.nw,I.nd,λi x v a b c=>?_,I.len,I.out,λi o h=>?_,λq o h1 h2=>?_,I.imm,I.own,I.rng,I.hel,λq h=>?_,D,⟨I.xok.has,I.xok.loc,I.xok.out,λq o h1 h2=>I.xok.wri q o (by rw[<-S.1];exact h1) (by rw[<-S.2.2.2.2];exact h2),S.2.2.1.trans I.xok.g,S.2.2.2.1.trans I.xok.x,S.2.2.2.2.trans I.xok.f,I.xok.h,I.xok.v.trans p⟩⟩
 ·refine aA (I.loc i x v a b c) λw y z=>?_;exact⟨w,y,z.mono L⟩
 ·rw[AA S]at h;refine aJ (I.sto i o h) λa d r y=>?_;exact⟨a,d,r,OR.mono (λ_ _ x=>x) L y⟩
 ·rw[S.1]at h1;rw[S.2.2.2.2]at h2;exact I.wri q o h1 h2
 ·rw[S.2.1]at h;exact I.cnt q h
theorem bg.letters (I:bg Z X sl G vs st m s) (p:G.ν <+:ν') (S:dS st st') (D:dn ν' st'):bg Z X sl {G with ν:=ν'} vs st' m s:=kX I λtr I=>⟨tr,I.letters p S D⟩
theorem bg.toks (I:bg Z X sl G vs st m s) (t:Nat):bg Z X sl G vs st m {s with toks:=t}:=by
 exact I.k λtr I=>⟨tr,by rw[I.sh],I.fr,I.nw,I.nd,I.loc,I.len,I.out,I.sto,I.wri,I.imm,I.own,I.rng,I.hel,I.cnt,I.num,I.xok⟩
theorem cx (p:G.ν <+:ν'):G.Le {G with ν:=ν'}:=⟨λ_ _ x=>x,p,λ_ _ x=>x⟩
theorem bf.int (I:bg Z X sl G vs st m s) (t:Tok) (x:IP G.ν st k z):bf Z X sl G vs m k (.int z t) s:=by
 exact gn x λν' v st' p e h S D=>⟨{G with ν:=ν'},v,st',cx p,VR.of_vi t h,e,I.letters p S D⟩
theorem bf.now (I:bg Z X sl G vs st m s) {k:K} (h:VR Z.T Z.rg G v w) (e:k v st=true):bf Z X sl G vs m k w s:=⟨G,v,st,Gh.Le.refl G,h,e,I⟩
theorem il.of (I:bg Z X sl G vs st m s) (x:BP G.ν st k b):il Z X sl G vs m k b s:=by
 exact cJ x λν' st' p e S D=>⟨{G with ν:=ν'},st',cx p,e,I.letters p S D⟩
theorem il.now (I:bg Z X sl G vs st m s) {k:KB} (e:k b st=true):il Z X sl G vs m k b s:=⟨G,st,Gh.Le.refl G,e,I⟩
theorem bg.num (I:bg Z X sl G vs st m s):dn G.ν st:=kX I λ_ I=>I.num
theorem c6.up {ν ν':List Int} {kE:KE} {x:Value} (p:ν <+:ν') (h:c6 Z X ν' m kE x s):c6 Z X ν m kE x s:=
 let⟨⟨f,ν'',st',p',r,r'⟩,h⟩:=h;⟨⟨f,ν'',st',p.trans p',r,r'⟩,h⟩
theorem bf.up (L:G.Le G') (h:bf Z X sl G' vs m k w s):bf Z X sl G vs m k w s:=bX h λa b c p r q t=>⟨a,b,c,L.trans p,r,q,t⟩
theorem il.up (L:G.Le G') (h:il Z X sl G' vs m k b s):il Z X sl G vs m k b s:=ak h λa c p r q=>⟨a,c,L.trans p,r,q⟩
end
section
variable{Z:Zt} {n:Nat} {sc:Scope} {sl:List Str}
theorem tI (h:av Z n sc sl a e) (F:FxOk Z X n sc) {G G':Gh} (L:G.Le G') {vs st m s} (I:bg Z X sl G' vs st m s) (y:a vs st k kE=true):
  wpAny (model Z.prog Z.w) X.A (eval e X.env) (bf Z X sl G' vs m k) (c6 Z X G.ν m kE) s:=aq (h X F G' vs st m s k kE I y) (λ_ _ z=>z) λ_ _ z=>z.up L.ν
theorem av.w (h:av Z n sc sl a e) (F:FxOk Z X n sc) {G0 G:Gh} (L:G0.Le G) {vs st m s} (I:bg Z X sl G vs st m s) (y:a vs st k kE=true) {Q:Value->Shared->Prop}
  (c:∀w s1 G1 v1 st1,G.Le G1->G0.Le G1->VR Z.T Z.rg G1 v1 w->k v1 st1=true->bg Z X sl G1 vs st1 m s1->Q w s1):wpAny (model Z.prog Z.w) X.A (eval e X.env) Q (c6 Z X G0.ν m kE) s:=aq (h X F G vs st m s k kE I y) (λw1 s1 z=>bX z λG1 v1 st1 L1 r1 y1 I1=>c w1 s1 G1 v1 st1 L1 (L.trans L1) r1 y1 I1) λ_ _ z=>z.up L.ν
theorem av.w0 (h:av Z n sc sl a e) (F:FxOk Z X n sc) {vs st m s} (I:bg Z X sl G vs st m s) (y:a vs st k kE=true) 
  (c:∀w s1 G1 v1 st1,G.Le G1->VR Z.T Z.rg G1 v1 w->k v1 st1=true->bg Z X sl G1 vs st1 m s1->Q w s1):wpAny (model Z.prog Z.w) X.A (eval e X.env) Q (c6 Z X G.ν m kE) s:=h.w F (.refl G) I y λw s1 G1 v1 st1 _ L r1 y1 I1=>c w s1 G1 v1 st1 L r1 y1 I1
theorem dT.w (h:dT Z n sc sl a e) (F:FxOk Z X n sc) {G0 G:Gh} (L:G0.Le G) {vs st m s} (I:bg Z X sl G vs st m s) (y:a vs st k kE=true) {Q:Bool->Shared->Prop}
  (c:∀b s1 G1 st1,G.Le G1->G0.Le G1->k b st1=true->bg Z X sl G1 vs st1 m s1->Q b s1):wpAny (model Z.prog Z.w) X.A (isTrue e X.env (eval e X.env)) Q (c6 Z X G0.ν m kE) s:=aq (h X F G vs st m s k kE I y) (λw1 s1 z=>ak z λG1 st1 L1 y1 I1=>c w1 s1 G1 st1 L1 (L.trans L1) y1 I1) λ_ _ z=>z.up L.ν
theorem dT.w0 (h:dT Z n sc sl a e) (F:FxOk Z X n sc) {vs st m s} (I:bg Z X sl G vs st m s) (y:a vs st k kE=true) 
  (c:∀b s1 G1 st1,G.Le G1->k b st1=true->bg Z X sl G1 vs st1 m s1->Q b s1):wpAny (model Z.prog Z.w) X.A (isTrue e X.env (eval e X.env)) Q (c6 Z X G.ν m kE) s:=h.w F (.refl G) I y λw s1 G1 st1 _ L y1 I1=>c w s1 G1 st1 L y1 I1
theorem ju.w0 (h:ju Z n sc sl a e) (F:FxOk Z X n sc) {vs st m s} (I:bg Z X sl G vs st m s) (y:a vs st k kE=true) 
  (c:∀s1 b G1 st1,G.Le G1->k b st1=true->bg Z X sl G1 vs st1 m s1->Q (.bool b) s1):wpAny (model Z.prog Z.w) X.A (eval e X.env) Q (c6 Z X G.ν m kE) s:=aq (h X F G vs st m s k kE I y) (λw1 s1 z=>aA z λb e z=>ak z λG1 st1 L1 y1 I1=>e▸c s1 b G1 st1 L1 y1 I1) λ_ _ z=>z
theorem Kf (h:wpAny (model Z.prog Z.w) X.A p (bf Z X sl G' vs m k) E s) (L:G.Le G'):wpAny (model Z.prog Z.w) X.A p (bf Z X sl G vs m k) E s:=aq h (λ_ _ z=>z.up L) λ_ _ z=>z
theorem UD (h:wpAny (model Z.prog Z.w) X.A p (il Z X sl G' vs m k) E s) (L:G.Le G'):wpAny (model Z.prog Z.w) X.A p (il Z X sl G vs m k) E s:=aq h (λ_ _ z=>z.up L) λ_ _ z=>z
theorem DT:av Z n sc sl (eK (.int c)) (.Constant (.int c) kk pos):=λX F G vs st m s k kE I y=>wpAny_Constant_int (.now (I.toks _) (.int _ _) y)
theorem xG (hx:x=aj l) (ht:Tx l):av Z n sc sl (eK (.str l)) (.Constant (.str x) kk pos):=λX F G vs st m s k kE I y=>by
 refine aa hx ?_;intro Γ p hΓ;exact bf.now (I.toks _) (.str _ _ ht) y
theorem HH:av Z n sc sl (eK (.bool b)) (.Constant (.bool b) kk pos):=λX F G vs st m s k kE I y=>aR (bf.now I (.bool _) y)
theorem HG:av Z n sc sl (eK .none) (.Constant .none kk pos):=λX F G vs st m s k kE I y=>aR (bf.now I .none y)
theorem Jp (hi:sl[i]?=some x) (hd:(x==("__debug__":Str))=false) (hn:(x==("__classdict__":Str))=false):av Z n sc sl (eL i) (.Name x pos):=λX F G vs st m s k kE I y=>by
 refine hG λCC hCC=>?_;have I0:=I;refine I.k λtr I=>?_;have y:ag (lY vs i) false (λv=>ah (Be v) (k v st) false)=true:=y;rw[iE]at y;refine Qu y λv y q=>?_;refine ax y λy2 y1=>?_;refine aA (I.loc i x v hi q (by rintro rfl;exact ao y1)) λw S h=>?_;have hk:X.env.scope.kind=.function:=aa F.scope (F.kind);have fin:=bf.now I0 h y2;rcases S with⟨hl,hm⟩ |⟨hc,c,h1,h2⟩
 ·refine hCC ?_;exact wpAny_Name (wpAny_loadName_local hk hl (by refine aa F.locals ?_;exact I.fr.ns) hm fin) hd
 ·refine aA (I.hel _ h2) λo h2 h3=>?_;rcases hc with hc |hc
  ·refine hCC ?_;exact wpAny_Name (wpAny_loadName_cell hk hc h1 ⟨o,I.get (.inl h2),h3⟩ fin) hd
  ·refine hCC ?_;exact wpAny_Name (wpAny_loadName_free hk hc h1 ⟨o,I.get (.inl h2),h3⟩ fin hn) hd
def iW (Z:Zt) (o:vM) (op:Operator):Prop:=∀n sc sl X,FxOk Z X n sc->∀G vs st m s (k:K) E a b w1 w2,bg Z X sl G vs st m s->VR Z.T Z.rg G a w1->VR Z.T Z.rg G b w2->o a b st k->
 wpAny (model Z.prog Z.w) X.A (binaryOp op w1 w2) (bf Z X sl G vs m k) E s
theorem PC (ho:iW Z o op) (h1:av Z n sc sl a e1) (h2:av Z n sc sl b e2):av Z n sc sl (eB o a b) (.BinOp e1 op e2 pos):=λX F G vs st m s k kE I y=>by
 refine wpAny_BinOp (h1.w0 F I y λw1 s1 G1 v1 st1 L1 r1 y1 I1=>?_);exact h2.w F L1 I1 y1 λw2 s2 G2 v2 st2 L2 K0 r2 y2 I2=>Kf (ho n sc sl X F G2 vs st2 m s2 k _ v1 v2 w1 w2 I2 (r1.mono L2) r2 y2) K0
theorem yW {a b:V} {st:St} (h1:VR Z.T Z.rg G a w1) (h2:VR Z.T Z.rg G b w2) (e:mV f a b st k=true):E4 λx t y u=>A4 (w1=.int x t) (w2=.int y u) (VI G.ν a x) (VI G.ν b y):=by
 exact fZ h1 e λx t hx=>aJ (ym e) λc ts e _=>fZ h2 e λy u hy=>⟨x,t,y,u,rfl,rfl,hx,hy⟩
@[elab_as_elim] theorem mC {f:Io} {a b:V} {G:Gh} {w1 w2:Value} {st:St} {k:K} {C:Value->Value->Prop} (h1:VR Z.T Z.rg G a w1) (h2:VR Z.T Z.rg G b w2) (e:mV f a b st k=true) (c:∀x t y u,VI G.ν a x->VI G.ν b y->C (.int x t) (.int y u)):C w1 w2:=mB (yW h1 h2 e) λx t y u e1 e2 hx hy=>e1▸e2▸c x t y u hx hy
theorem Kn:iW Z lU .Sub:=λn sc sl X F G vs st m s k E a b w1 w2 I h1 h2 e=>by
 exact mC h1 h2 e λx t y u hx hy=>sub_int (.int (I.toks _) _ (Ge I.num hx hy e))
theorem K6:iW Z fF .Mult:=λn sc sl X F G vs st m s k E a b w1 w2 I h1 h2 e=>by
 refine mC h1 h2 e λx t y u hx hy=>?_;refine kN (Gk I.num hx hy e) λg r=>?_;refine mul_int (.int (I.toks _) _ r) ?_;have small:∀z:Int,z.natAbs<2 ^ 63->Builtin.Int.intBits z<=64:=λz h=>intBits_le_iff.mpr (jG h (by decide));rcases g with g |g
 ·exact IntMulOk.of_left (small _ g)
 ·unfold IntMulOk;refine aa (fz (Nat.not_lt.mpr (small _ g)) ..) ?_;simp
theorem Ms:iW Z e9 .FloorDiv:=λn sc sl X F G vs st m s k E a b w1 w2 I h1 h2 e=>by
 refine mC h1 h2 e λx t y u hx hy=>?_;refine kN (Gm I.num hx hy e) λzz38 r=>?_;refine kN zz38 λg1 g2=>?_;refine floordiv_int (Ne.symm (Int.ne_of_lt g1)) (.int (I.toks _) _ r) (.inl ?_);unfold Builtin.divisionGoesByPylong;have hy0:(y==0)=false:=by simp;exact Int.ne_of_gt g1
 simp only[hy0];have:y.natAbs.log2<64:=by
  rw[Nat.log2_lt (by simp_all)];exact jG g2 (by decide)
 have h2:¬(y.natAbs.log2 / 30+1>300):=by lia
 refine aa (fz h2) ?_;rfl
theorem Lg:iW Z cK .Mod:=λn sc sl X F G vs st m s k E a b w1 w2 I h1 h2 e=>by
 exact mC h1 h2 e λx t y u hx hy=>kN (Gl I.num hx hy e) λg1 r=>mod_int (Ne.symm (Int.ne_of_lt g1)) (.int (I.toks _) _ r)
theorem KG:iW Z ul .Pow:=λn sc sl X F G vs st m s k E a b w1 w2 I h1 h2 e=>by
 refine mC h1 h2 e λx t y u hx hy=>?_;refine iP (Gj I.num hx hy e) λg0 zz43 r=>?_;refine kN zz43 λg1 g2=>?_;exact pow_int_small g1 (Int.le_trans (by assumption) (by simp)) g0 (.int (I.toks _) _ r)
theorem Ku:iW Z wP .LShift:=λn sc sl X F G vs st m s k E a b w1 w2 I h1 h2 e=>by
 refine mB (yW h1 h2 e:E4 λx t y u=>A4 (w1=.int x t) (w2=.int y u) (VI G.ν a x) (VI G.ν b y)) λx t y u ee44 ee45 hx hy=>?_;refine aa ee45 ?_;refine aa ee44 ?_;refine iP (Gi I.num hx hy e) λzz46 g3 r=>?_;refine kN zz46 λg1 g2=>?_;exact lshift_int_small g3 (Int.le_trans (by assumption) (by simp)) g1 (.int (I.toks _) _ r)
theorem Kt:iW Z Gg .RShift:=λn sc sl X F G vs st m s k E a b w1 w2 I h1 h2 e=>by
 exact mC h1 h2 e λx t y u hx hy=>kN (Gf I.num hx hy e) λg3 r=>rshift_int g3 (.int (I.toks _) _ r)
end
end
section
open PySem PySem.W PySem.Calls PyProof.Rows PySem.SeqAt
section
variable{Z:Zt} {n:Nat} {sc:Scope} {sl:List Str}
theorem KZ (h:av Z n sc sl a e):av Z n sc sl (dH a) (.UnaryOp .USub e pos):=λX F G vs st m s k kE I y=>by
 refine UnaryOp_ (h.w0 F I y λw1 s1 G1 v1 st1 L1 r1 y1 I1=>?_);exact fZ r1 y1 λx t hx=>ak (bQ hx y1) λc ts y2 d q=>kN (cQ G1.ν gJ ts d) λm1 m2=>neg_int ((bf.int (I1.toks _) _ (IP.now I1.num (gI m2 (by refine aa m1 (aa (nf ..) (aa d7 ?_));lia)) y2)).up L1)
def ir (Z:Zt) (o:fT) (op:CmpOp):Prop:=∀n sc sl X,FxOk Z X n sc->∀G vs st m s (k:KB) E a b w1 w2,bg Z X sl G vs st m s->VR Z.T Z.rg G a w1->VR Z.T Z.rg G b w2->o a b st k->
 wpAny (model Z.prog Z.w) X.A (compareOp op w1 w2) (λw s'=>∃r,w=.bool r/\il Z X sl G vs m k r s') E s
theorem vk {k:KT} {k':Int->Ts->KT} (h1:VR Z.T Z.rg G a w1) (h2:VR Z.T Z.rg G b w2) (e:cF a (λc ts=>cF b (k' c ts))=true):E4 λx t y u=>A4 (w1=.int x t) (w2=.int y u) (VI G.ν a x) (VI G.ν b y):=by
 exact fZ h1 e λx t hx=>aJ (ym e) λc ts e _=>fZ h2 e λy u hy=>⟨x,t,y,u,rfl,rfl,hx,hy⟩
@[elab_as_elim] theorem VC {a b:V} {G:Gh} {w1 w2:Value} {k:KT} {k':Int->Ts->KT} {C:Value->Value->Prop} (h1:VR Z.T Z.rg G a w1) (h2:VR Z.T Z.rg G b w2) (e:cF a (λc ts=>cF b (k' c ts))=true) (c:∀x t y u,VI G.ν a x->VI G.ν b y->C (.int x t) (.int y u)):C w1 w2:=mB (vk (k:=k) h1 h2 e) λx t y u e1 e2 hx hy=>e1▸e2▸c x t y u hx hy
theorem N7:ir Z Bh .Lt:=λn sc sl X F G vs st m s k E a b w1 w2 I h1 h2 e=>by
 refine mB (vk (k:=λ_ _=>false) h1 h2 e) λx t y u ee52 ee53 hx hy=>?_;exact aa ee53 (aa ee52 (lt_int ⟨_,rfl,.of I (Eh I.num hx hy e)⟩))
theorem Of:ir Z AZ .LtE:=λn sc sl X F G vs st m s k E a b w1 w2 I h1 h2 e=>by
 refine mB (vk (k:=λ_ _=>false) h1 h2 e) λx t y u ee54 ee55 hx hy=>?_;exact aa ee55 (aa ee54 (le_int ⟨_,rfl,.of I (Ei I.num hx hy e)⟩))
theorem Pi:ir Z Jv .Gt:=λn sc sl X F G vs st m s k E a b w1 w2 I h1 h2 e=>by
 have e:Bh b a st k:=e;refine mB (vk (k:=λ_ _=>false) h2 h1 e) λy u x t ee56 ee57 hy hx=>?_;exact aa ee57 (aa ee56 (gt_int ⟨_,rfl,.of I (Eh I.num hy hx e)⟩))
theorem Pk:ir Z Ia .GtE:=λn sc sl X F G vs st m s k E a b w1 w2 I h1 h2 e=>by
 have e:AZ b a st k:=e;refine mB (vk (k:=λ_ _=>false) h2 h1 e) λy u x t ee58 ee59 hy hx=>?_;exact aa ee59 (aa ee58 (ge_int ⟨_,rfl,.of I (Ei I.num hy hx e)⟩))
theorem Pr:ir Z ce .Eq:=λn sc sl X F G vs st m s k E a b w1 w2 I h1 h2 e=>by
 exact aA (Ej I.hv h1 h2 I.num e) λr t B=>(t X.A (by have:=F.units;lia)).1 _ _ _ _ ⟨_,rfl,.of I B⟩
theorem NX:ir Z nt .NotEq:=λn sc sl X F G vs st m s k E a b w1 w2 I h1 h2 e=>by
 refine aA (Ej I.hv h1 h2 I.num e) λr t B=>?_;refine cJ B λν' st' p e S D=>?_;simp only[fR]at e;exact(t X.A (by have:=F.units;lia)).2 _ _ _ _ ⟨_,rfl,.of I ⟨ν',st',p,e,S,D⟩⟩
theorem tK {X:Fx} (F:FxOk Z X n sc) {G vs st m s} {k:KB} {E} {v:V} {w:Value} (I:bg Z X sl G vs st m s) (h:VR Z.T Z.rg G v w) (e:Iw v st k=true):
  wpAny (model Z.prog Z.w) X.A (truthy w) (il Z X sl G vs m k) E s:=by
 have num:∀{c ts x t},Df G.ν ts->c+ev G.ν ts=x->HQ c ts st (λt st=>k (ji t) st)=true->wpAny (model Z.prog Z.w) X.A (truthy (.int x t)) (il Z X sl G vs m k) E s:=λ{c ts x t} d q e=>by
  have:=BP.of I.num (zm _ _ _ _ I.num.dom d e);rw[q]at this;refine cJ this λν' st' p e S D=>?_;refine PySem.P.truthy_int (.of I ⟨ν',st',p,?_,S,D⟩);simp only[fR]at e;refine aa (show(x !=0)= !decide (0=x) by
   by_cases z:x=0
   ·refine aa z ?_;rfl
   ·refine aa (fz λq=>z q.symm ..) ?_;exact bne_iff_ne.mpr z ..) ?_
  exact e
 induction h using VR.casesOn with
 |none=>exact truthy_none (.now I e)
 |bool b=>exact wpAny_truthy_bool (.now I e)
 |int c t=>exact num (Df.nil _) (by simp[ev]) e
 |lin c ts x t d q=>exact num d q e
 |str l t hl=>
  refine ax e λe g=>?_;have g:=Nat.ble_eq.mp g;replace g:=(bw ..)▸g;have hlen:(aj l).length=l.length:=by simp[aj,Str.length]
  refine PySem.P.truthy_str (by refine aa hlen ?_;lia) (.now (I.toks _) ?_);refine aa hlen ?_;rw[show(((l.length):Int) !=0)=ji (cL l) by cases l<;>simp[GB,fR];exact y0 rfl];exact e
 |_=>exact ao e
theorem PV (ho:ir Z o op) (h1:av Z n sc sl a e1) (h2:av Z n sc sl b e2) (hm:behindInMarks op e2=false):dT Z n sc sl (cC o a b) (.Compare e1 [op] [e2] pos):=λX F G vs st m s k kE I y=>by
 refine wpAny_isTrue_Compare1 (h1.w0 F I y λw1 s1 G1 v1 st1 L1 r1 y1 I1=>?_) hm;refine h2.w F L1 I1 y1 λw2 s2 G2 v2 st2 L2 K1 r2 y2 I2=>?_;refine aq (ho n sc sl X F G2 vs st2 m s2 k _ v1 v2 w1 w2 I2 (r1.mono L2) r2 y2) (λw3 s3 z=>?_) λ_ _ z=>z;obtain⟨r,rfl,z⟩:=z;exact wpAny_truthy_bool (z.up K1)
theorem MG (ho:ir Z o op) (h1:av Z n sc sl a e1) (h2:av Z n sc sl b e2) (hm:behindInMarks op e2=false):ju Z n sc sl (cC o a b) (.Compare e1 [op] [e2] pos):=λX F G vs st m s k kE I y=>by
 refine wpAny_Compare1 (h1.w0 F I y λw1 s1 G1 v1 st1 L1 r1 y1 I1=>?_) hm;refine h2.w F L1 I1 y1 λw2 s2 G2 v2 st2 L2 K4 r2 y2 I2=>?_;refine aq (ho n sc sl X F G2 vs st2 m s2 k _ v1 v2 w1 w2 I2 (r1.mono L2) r2 y2) (λw3 s3 z=>?_) λ_ _ z=>z;obtain⟨r,rfl,z⟩:=z;exact⟨r,rfl,z.up K4⟩
theorem Eg (h:av Z n sc sl a e) (hm:behindInMarks .Is (.Constant .none kk p1)=false):dT Z n sc sl (zx a) (.Compare e [.Is] [.Constant .none kk p1] pos):=λX F G vs st m s k kE I y=>by
 refine wpAny_isTrue_Compare1 (h.w0 F I y λw1 s1 G1 v1 st1 L1 r1 y1 I1=>?_) hm;refine Constant_none (is_none_gen (wpAny_truthy_bool ?_))
 induction r1 using VR.casesOn with
 |none=>exact(il.now I1 y1).up L1
 |oreg0=>exact ao y1
 |oreg=>exact ao y1
 |_=>exact(il.now I1 y1).up L1
theorem vu (h:av Z n sc sl a e) (hm:behindInMarks .IsNot (.Constant .none kk p1)=false):dT Z n sc sl (vv a) (.Compare e [.IsNot] [.Constant .none kk p1] pos):=λX F G vs st m s k kE I y=>by
 refine wpAny_isTrue_Compare1 (h.w0 F I y λw1 s1 G1 v1 st1 L1 r1 y1 I1=>?_) hm;refine Constant_none (isnot_none_gen (wpAny_truthy_bool ?_))
 induction r1 using VR.casesOn with
 |none=>exact(il.now I1 y1).up L1
 |oreg0=>exact ao y1
 |oreg=>exact ao y1
 |_=>exact(il.now I1 y1).up L1
def rJ (e:Expr):Prop:=∀env whole,isTrue e env whole=(do let v <-whole;standAt e.pos;holding [v] (truthy v))
theorem PU (h:av Z n sc sl a e) (hp:rJ e):dT Z n sc sl (cT a) e:=λX F G vs st m s k kE I y=>by
 refine isTrue_plain (h.w0 F I y λw1 s1 G1 v1 st1 L1 r1 y1 I1=>?_) (hp _ _);exact UD (tK F I1 r1 y1) L1
theorem PW (h:av Z n sc sl a e):ju Z n sc sl (cB a) e:=λX F G vs st m s k kE I y=>by
 refine h.w0 F I y λw1 s1 G1 v1 st1 L1 r1 y1 I1=>?_;refine VR.sel r1 y1 qi (λb y1=>?_) rW rV Bd tF qh qQ tE tD gh gf;exact⟨b,rfl,(il.now I1 y1).up L1⟩
theorem H9 (h:dT Z n sc sl c e):dT Z n sc sl (jJ c) (.UnaryOp .Not e pos):=λX F G vs st m s k kE I y=>by
 refine isTrue_not (h.w0 F I y λb s1 G1 st1 L1 y1 I1=>?_);rw[fR]at y1;exact⟨G1,st1,L1,y1,I1⟩
theorem VV (h:dT Z n sc sl c e) (F:FxOk Z X n sc) (L:G.Le G') {vs st m s} (I:bg Z X sl G' vs st m s) (y:c vs st k kE=true):
  wpAny (model Z.prog Z.w) X.A (isTrue e X.env (eval e X.env)) (il Z X sl G vs m k) (c6 Z X G.ν m kE) s:=aq (h X F G' vs st m s k kE I y) (λ_ _ z=>z.up L) λ_ _ z=>z.up L.ν
inductive rL (Z:Zt) (n:Nat) (sc:Scope) (sl:List Str):List Cd->List Expr->Prop
 |nil:rL Z n sc sl [] []
 |cons {c:Cd} {e:Expr} {l:List Cd} {es:List Expr} (h:dT Z n sc sl c e) (r:rL Z n sc sl l es):rL Z n sc sl (c::l) (e::es)
theorem Ic (h:rL Z n sc sl l es):dT Z n sc sl (ig l) (.BoolOp .And es pos):=by
 intro X F G vs st m s k kE I y;generalize hw:eval (.BoolOp .And es pos) X.env=whole;clear hw
 induction h generalizing G st s with
 |nil=>exact isTrue_and_nil (.now I y)
 |cons h r ih=>
  refine isTrue_and (h.w0 F I y λb s1 G1 st1 L1 y1 I1=>?_);cases b with
  |true=>exact aq (ih G1 st1 s1 I1 y1) (λ_ _ z=>z.up L1) λ_ _ z=>z.up L1.ν
  |false=>exact⟨G1,st1,L1,y1,I1⟩
theorem MD (h:rL Z n sc sl l es):dT Z n sc sl (pB l) (.BoolOp .Or es pos):=by
 intro X F G vs st m s k kE I y;generalize hw:eval (.BoolOp .Or es pos) X.env=whole;clear hw
 induction h generalizing G st s with
 |nil=>exact isTrue_or_nil (.now I y)
 |cons h r ih=>
  refine isTrue_or (h.w0 F I y λb s1 G1 st1 L1 y1 I1=>?_);cases b with
  |false=>exact aq (ih G1 st1 s1 I1 y1) (λ_ _ z=>z.up L1) λ_ _ z=>z.up L1.ν
  |true=>exact⟨G1,st1,L1,y1,I1⟩
inductive rK (Z:Zt) (n:Nat) (sc:Scope) (sl:List Str):List Cd->List Expr->Prop
 |one {c:Cd} {e:Expr} (h:ju Z n sc sl c e):rK Z n sc sl [c] [e]
 |cons {c d:Cd} {e f:Expr} {l:List Cd} {es:List Expr} (h:ju Z n sc sl c e) (r:rK Z n sc sl (d::l) (f::es)):rK Z n sc sl (c::d::l) (e::f::es)
theorem El (h:rK Z n sc sl l es):ju Z n sc sl (ig l) (.BoolOp .And es pos):=by
 intro X F G vs st m s k kE I y
 induction h generalizing G st s with
 |one h=>
  refine BoolOp_one (h.w0 F I y λs1 r G1 st1 L1 y1 I1=>?_);exact⟨r,rfl,G1,st1,L1,by cases r<;>exact y1,I1⟩
 |cons h r ih=>
  refine BoolOp_and (h.w0 F I y λs1 r G1 st1 L1 y1 I1=>?_);refine wpAny_truthy_bool ?_;cases r with
  |true=>exact aq (ih G1 st1 s1 I1 y1) (λ_ _ z=>aA z λr e z=>⟨r,e,z.up L1⟩) λ_ _ z=>z.up L1.ν
  |false=>exact⟨false,rfl,G1,st1,L1,y1,I1⟩
theorem H6 (h:rK Z n sc sl l es):ju Z n sc sl (pB l) (.BoolOp .Or es pos):=by
 intro X F G vs st m s k kE I y
 induction h generalizing G st s with
 |one h=>
  refine BoolOp_one (h.w0 F I y λs1 r G1 st1 L1 y1 I1=>?_);exact⟨r,rfl,G1,st1,L1,by cases r<;>exact y1,I1⟩
 |cons h r ih=>
  refine BoolOp_or (h.w0 F I y λs1 r G1 st1 L1 y1 I1=>?_);refine wpAny_truthy_bool ?_;cases r with
  |false=>exact aq (ih G1 st1 s1 I1 y1) (λ_ _ z=>aA z λr e z=>⟨r,e,z.up L1⟩) λ_ _ z=>z.up L1.ν
  |true=>exact⟨true,rfl,G1,st1,L1,y1,I1⟩
theorem DW (h:ju Z n sc sl c e):av Z n sc sl (eC c) e:=λX F G vs st m s k kE I y=>by
 exact h.w0 F I y λs1 r G1 st1 L1 y1 I1=>⟨G1,_,st1,L1,.bool r,y1,I1⟩
theorem Ef {c:Cd} (h:av Z n sc sl a e):ju Z n sc sl (jJ (cT a)) (.UnaryOp .Not e pos):=λX F G vs st m s k kE I y=>by
 refine UnaryOp_ (h.w0 F I y λw1 s1 G1 v1 st1 L1 r1 y1 I1=>?_);refine not_of (aq (tK F I1 r1 y1) (λb s2 z=>?_) λ_ _ z=>z);refine ak z λG2 st2 L2 y2 I2=>?_;simp only[fR]at y2;exact⟨_,rfl,G2,st2,L1.trans L2,y2,I2⟩
theorem Mn {a b:Ev} (h0:dT Z n sc sl c e0) (h1:av Z n sc sl a e1) (h2:av Z n sc sl b e2):av Z n sc sl (lJ c a b) (.IfExp e0 e1 e2 pos):=λX F G vs st m s k kE I y=>by
 refine IfExp_ (h0.w0 F I y λr s1 G1 st1 L1 y1 I1=>?_);cases r with
 |true=>exact Kf (tI h1 F L1 I1 y1) L1
 |false=>exact Kf (tI h2 F L1 I1 y1) L1
theorem MH {o1 o2:fT} {p1 p2:CmpOp} {a b c:Ev} (g1:ir Z o1 p1) (g2:ir Z o2 p2) (h1:av Z n sc sl a e1) (h2:av Z n sc sl b e2) (h3:av Z n sc sl c e3) (hm:lastMarks [p1,p2] [e2,e3]=false):
  dT Z n sc sl (M4 o1 o2 a b c) (.Compare e1 [p1,p2] [e2,e3] pos):=λX F G vs st m s k kE I y=>by
 refine isTrue_chain (aq (h1 X F G vs st m s _ kE I y) (λw1 s1 z=>test_link ?_) λ_ _ z=>z) hm;refine bX z λG1 v1 st1 L1 r1 y1 I1=>?_;refine h2.w F L1 I1 y1 λw2 s2 G2 v2 st2 L2 K8 r2 y2 I2=>?_;refine aq (g1 n sc sl X F G2 vs st2 m s2 _ _ v1 v2 w1 w2 I2 (r1.mono L2) r2 y2) (λw3 s3 z=>?_) λ_ _ z=>z;refine aA z λr ee71 zz70=>?_;refine aa ee71 ?_;refine ak zz70 λG3 st3 L3 y3 I3=>?_;refine wpAny_truthy_bool ?_;have L13:=K8.trans L3;cases r with
 |false=>exact⟨G3,st3,L13,y3,I3⟩
 |true=>
  refine test_last (h3.w F L13 I3 y3 λw4 s4 G4 v4 st4 L4 K7 r4 y4 I4=>?_);refine aq (g2 n sc sl X F G4 vs st4 m s4 _ _ v2 v4 w2 w4 I4 ((r2.mono L3).mono L4) r4 y4) (λw5 s5 z=>?_) λ_ _ z=>z;obtain⟨r,rfl,z⟩:=z;exact wpAny_truthy_bool (z.up K7)
end
end
section
open Classical in
noncomputable def Gh.putH (G:Gh) (q:Addr) (o:Obj):Gh:={G with H:=λa=>if a=q then some o else G.H a}
open Classical in
noncomputable def Gh.putI (G:Gh) (i:AI) (p:Addr×Addr):Gh:={G with ρ:=λj=>if j=i then some p else G.ρ j}
section
variable{Z:Zt} {X:Fx} {sl:List Str} {G:Gh} {vs:Vs} {st:St} {m:jF} {s:Shared} {tr:List (Addr×Obj)}
def j0 (G:Gh) (X:Fx) (a:Addr):Prop:=(∀i p,G.ρ i=some p->p.1≠a/\p.2≠a)/\G.H a=none/\(∀p∈X.outs,p.1≠a)/\(∀p∈X.held,p.1≠a)/\X.xb.get? a=none
theorem ap.lt (I:ap Z X sl G vs st m s tr) (h:cO X tr a o):a<s.heap.objs.size:=bW (I.get h)
theorem ap.unown (I:ap Z X sl G vs st m s tr) {a:Addr} (h:s.heap.objs.size<=a):j0 G X a:=by
 refine⟨λi p e=>?_,?_,λp hp=>?_,λc hc=>?_,?_⟩
 ·refine kN (I.rng i p.1 p.2 e) λzz73 zz72=>?_;refine kX zz72 λ_ y=>?_;obtain⟨_,x⟩:=zz73;exact⟨Nat.ne_of_lt (jG (I.lt x) h),Nat.ne_of_lt (jG (I.lt y) h)⟩
 ·cases q:G.H a with
  |none=>rfl
  |some o=>exact absurd (I.lt (I.imm a o q)) (Nat.not_lt.mpr h)
 ·exact aA (I.out p hp) λo h1 _=>Nat.ne_of_lt (jG (I.lt (.inl h1)) h)
 ·refine aA (I.hel c hc) λ_ x _=>?_;exact Nat.ne_of_lt (jG (I.lt (.inl x)) h)
 ·cases q:X.xb.get? a with
  |none=>rfl
  |some o=>exact absurd (I.lt (I.xok.has a o q)) (Nat.not_lt.mpr h)
theorem cO.cons {a b:Addr} (h:cO X tr a o):cO X ((b,p)::tr) a o:=h.elim (λh=>.inl (bc _ h)) .inr
theorem EJ.cons (h:EJ Z X G st tr):EJ Z X G st ((a,o)::tr):=⟨λb o e=>(h.has b o e).cons,h.loc,h.out,h.wri,h.g,h.x,h.f,h.h,h.v⟩
theorem iK (h:G.H q=none):G.Le (G.putH q o):=⟨λ_ _ x=>x,dN _,λa p x=>by
 unfold Gh.putH;simp only[]
 by_cases z:a=q
 ·subst z;rw[h]at x;exact bd x
 ·refine aa (if_neg z) ?_;exact x⟩
theorem gO (h:G.ρ i=none):G.Le (G.putI i p):=⟨λj q x=>by
 unfold Gh.putI;simp only[]
 by_cases z:j=i
 ·subst z;rw[h]at x;exact bd x
 ·refine aa (if_neg z) ?_;exact x,dN _,λ_ _ x=>x⟩
theorem hF:(G.putH q o).H q=some o:=by unfold Gh.putH;simp
theorem bV:(G.putI i p).ρ i=some p:=by unfold Gh.putI;simp
theorem ap.push (I:ap Z X sl G vs st m s tr) (o:Obj) (hf:o.isFreed=false):ap Z X sl G vs st m {s with heap:=s.heap.push o} ((s.heap.objs.size,o)::tr) where
 sh:=by rw[I.sh]
 fr:=I.fr.push o
 nw:=News.push I.fr I.nw o hf
 nd:=by
  rw[fy,List.nodup_cons];refine⟨λh=>?_,I.nd⟩;refine aA (List.mem_map.mp h) λp hp e=>?_;have:=bW (I.nw p hp).1;rw[show p.1=s.heap.objs.size from e]at this;exact fg _ this
 loc:=λi x v a b c=>by
  refine aA (I.loc i x v a b c) λw y z=>?_;exact⟨w,y,z⟩
 len:=I.len
 out:=λp hp=>aA (I.out p hp) λo' a b=>⟨o',bc _ a,b⟩
 sto:=λi o' h=>aJ (I.sto i o' h) λa d r y=>⟨a,d,r,OR.mono (λ_ _ x=>x.cons) (Gh.Le.refl G) y⟩
 wri:=λp o' a b=>ak (I.wri p o' a b) λx y r u v=>⟨x,y,r,bc _ u,bc _ v⟩
 imm:=λa o' h=>(I.imm a o' h).cons
 own:=I.own
 rng:=λi a d h=>⟨kX (I.rng i a d h).1 λx a=>⟨x,a.cons⟩,kX (I.rng i a d h).2 λy b=>⟨y,b.cons⟩⟩
 hel:=λc hc=>aA (I.hel c hc) λx a b=>⟨x,bc _ a,b⟩
 cnt:=I.cnt
 num:=I.num
 xok:=I.xok.cons
theorem ap.addH (I:ap Z X sl G vs st m s tr) {q:Addr} (h:(q,o)∈tr) (u:j0 G X q):ap Z X sl (G.putH q o) vs st m s tr:=by
 have L:=iK (G:=G) (o:=o) u.2.1;refine⟨I.sh,I.fr,I.nw,I.nd,λi x v a b c=>?_,I.len,I.out,λi o' h=>?_,I.wri,λa o' h'=>?_,?_,I.rng,I.hel,I.cnt,I.num,⟨I.xok.has,I.xok.loc,I.xok.out,I.xok.wri,I.xok.g,I.xok.x,I.xok.f,λa o' h'=>by
  unfold Gh.putH at h';simp only[]at h'
  by_cases z:a=q
  ·subst z;exact .inr u.2.2.2.2
  ·rw[if_neg z]at h';exact I.xok.h a o' h',I.xok.v⟩⟩
 ·refine aA (I.loc i x v a b c) λw y z=>?_;exact⟨w,y,z.mono L⟩
 ·refine aJ (I.sto i o' h) λa d r y=>?_;exact⟨a,d,r,OR.mono (λ_ _ x=>x) L y⟩
 ·unfold Gh.putH at h';simp only[]at h'
  by_cases z:a=q
  ·rw[if_pos z]at h';obtain rfl:=jK h';subst z;exact .inl h
  ·rw[if_neg z]at h';exact I.imm a o' h'
 ·refine fb I.own λow o1 o2 o3 o4=>?_
  classical
  refine⟨λa=>if a=q then .imm else ow a,λi a d h'=>?_,λa o' h'=>?_,λp hp=>?_,λc hc=>?_⟩
  ·have:=u.1 i (a,d) h';simp only[if_neg this.1,if_neg this.2];exact o1 i a d h'
  ·unfold Gh.putH at h';simp only[]at h'
   by_cases z:a=q
   ·simp[z]
   ·rw[if_neg z]at h';simp only[if_neg z];exact o2 a o' h'
  ·simp only[if_neg (u.2.2.1 p hp)];exact o3 p hp
  ·simp only[if_neg (u.2.2.2.1 c hc)];exact o4 c hc
theorem ap.addI (I:ap Z X sl G vs st m s tr) {a d:Addr} (ha:a∈tr.map (·.1)) (hd:d∈tr.map (·.1)) (ua:j0 G X a) (ud:j0 G X d)
  (h:OR Z (cO X tr) (G.putI (.d st.n) (a,d)) a d x):ap Z X sl (G.putI (.d st.n) (a,d)) vs {st with t:=Tr.set x st.n st.t,n:=st.n.succ} m s tr:=by
 have L:=gO (G:=G) (p:=(a,d)) (I.cnt st.n (c8 _));refine⟨I.sh,I.fr,I.nw,I.nd,λi x v a b c=>?_,I.len,I.out,λi o' h'=>?_,λp o' h1 h2=>?_,I.imm,?_,λi a' d' h'=>?_,I.hel,λp hp=>?_,⟨I.num.dom,I.num.memo⟩,⟨I.xok.has,I.xok.loc,I.xok.out,λp o' h1 h2 a' d' h'=>?_,I.xok.g,I.xok.x,I.xok.f,I.xok.h,I.xok.v⟩⟩
 ·refine aA (I.loc i x v a b c) λw y z=>?_;exact⟨w,y,z.mono L⟩
 ·have old:dj i st=some o'->E2 λa_1 d_1=>(G.putI (.d st.n) (a,d)).ρ i=some (a_1,d_1)/\OR Z (cO X tr) (G.putI (.d st.n) (a,d)) a_1 d_1 o':=λz=>by
   refine aJ (I.sto i o' z) λa' d' r y=>?_;exact⟨a',d',L.ρ _ _ r,OR.mono (λ_ _ x=>x) L y⟩
  cases i with
  |g p=>exact old h'
  |d p=>
   by_cases z:p=st.n
   ·subst z;have h':(Tr.set x st.n st.t).get st.n=some o':=h';rw[bH]at h';obtain rfl:=jK h';exact⟨a,d,bV,h⟩
   ·refine old ?_;have h':(Tr.set x st.n st.t).get p=some o':=h';rw[aS _ _ _ _ z]at h';exact h'
 ·by_cases z:p=st.n
  ·subst z;exact⟨a,d,bV,ha,hd⟩
  ·have h1:(Tr.set x st.n st.t).get p=some o':=h1;rw[aS _ _ _ _ z]at h1;refine ak (I.wri p o' h1 h2) λa' d' r u v=>?_;exact⟨a',d',L.ρ _ _ r,u,v⟩
 ·refine fb I.own λow o1 o2 o3 o4=>?_
  classical
  refine⟨λb=>if b=a\/b=d then .id (.d st.n)else ow b,λi a' d' h'=>?_,λb o' h'=>?_,λp hp=>?_,λc hc=>?_⟩
  ·unfold Gh.putI at h';simp only[]at h'
   by_cases z:i=.d st.n
   ·rw[if_pos z]at h';refine kN (fE h') λee74 ee75=>?_;subst ee74 ee75;subst z;simp
   ·rw[if_neg z]at h';have e1:=ua.1 i _ h';have e2:=ud.1 i _ h';simp only[if_neg (not_or.mpr ⟨e1.1,e2.1⟩),if_neg (not_or.mpr ⟨e1.2,e2.2⟩)];exact o1 i a' d' h'
  ·have e1:b≠a:=by rintro rfl;have:=ua.2.1;rw[show G.H b=some o' from h']at this;exact wT this
   have e2:b≠d:=by rintro rfl;have:=ud.2.1;rw[show G.H b=some o' from h']at this;exact wT this
   simp only[if_neg (not_or.mpr ⟨e1,e2⟩)];exact o2 b o' h'
  ·simp only[if_neg (not_or.mpr ⟨ua.2.2.1 p hp,ud.2.2.1 p hp⟩)];exact o3 p hp
  ·simp only[if_neg (not_or.mpr ⟨ua.2.2.2.1 c hc,ud.2.2.2.1 c hc⟩)];exact o4 c hc
 ·unfold Gh.putI at h';simp only[]at h'
  by_cases z:i=.d st.n
  ·rw[if_pos z]at h';refine kN (fE h') λee76 ee77=>?_;subst ee76 ee77;have get:∀b,b∈tr.map (·.1)->∃o,cO X tr b o:=λb hb=>by
    refine aA (List.mem_map.mp hb) λp hp e=>?_;exact⟨p.2,.inl (by rw[<-e];exact hp)⟩
   exact⟨get _ ha,get _ hd⟩
  ·rw[if_neg z]at h';exact I.rng i a' d' h'
 ·rw[uf]at hp;unfold Gh.putI;simp only[];have z:(AX.Id.d p)≠.d st.n:=by intro e;cases e;omega
  rw[if_neg z];exact I.cnt p (by exact Nat.le_of_lt hp)
 ·by_cases z:p=st.n
  ·subst z;rw[bV]at h';refine kN (fE h') λee78 ee79=>?_;subst ee78 ee79;exact⟨ua.2.2.2.2,ud.2.2.2.2⟩
  ·have h1:(Tr.set x st.n st.t).get p=some o':=h1;rw[aS _ _ _ _ z]at h1;have z':(AX.Id.d p)≠.d st.n:=by intro e;cases e;exact z rfl
   unfold Gh.putI at h';simp only[]at h';rw[if_neg z']at h';exact I.xok.wri p o' h1 h2 a' d' h'
noncomputable def setT (tr:List (Addr×Obj)) (b:Addr) (o:Obj):List (Addr×Obj):=tr.map λp=>if p.1=b then(b,o)else p
theorem gb (b:Addr) (o:Obj):(setT tr b o).map (·.1)=tr.map (·.1):=by
 refine aa List.map_map ?_;refine List.map_congr_left λp _=>?_
 by_cases z:p.1=b<;>simp[z]
theorem rT (h:(a,o')∈tr) (z:a≠b):(a,o')∈setT tr b o:=List.mem_map.mpr ⟨(a,o'),h,by simp[z]⟩
theorem bU (h:b∈tr.map (·.1)):(b,o)∈setT tr b o:=by
 exact aA (List.mem_map.mp h) λp hp e=>List.mem_map.mpr ⟨p,hp,if_pos e⟩
theorem cO.setT (h:cO X tr a o') (z:a≠b):cO X (AX.setT tr b o) a o':=h.elim (λh=>.inl (rT h z)) .inr
theorem OR.setT {b:Addr} (ha:a≠b) (hd:d≠b) (r:OR Z (cO X tr) G a d x):OR Z (cO X (AX.setT tr b o)) G a d x:=r.map (λ_ h=>h.setT ha) (λ_ h=>h.setT hd) (Gh.Le.refl G)
theorem cO.setE (h:cO X tr a o'):∃o'',cO X (AX.setT tr b o) a o'':=by
 by_cases z:a=b
 ·subst z;rcases h with h |h
  ·exact⟨o,.inl (bU (List.mem_map_of_mem h))⟩
  ·exact⟨o',.inr h⟩
 ·exact⟨o',h.setT z⟩
theorem my {α:Type} {x:Str} {c:α}:∀{l:List (Str×α)},l.lookup x=some c->(x,c)∈l
 |[],h=>bd h
 |(y,d)::r,h=>by
  rw[List.lookup_cons]at h;cases q:x==y with
  |true=>rw[q]at h;refine FQ h ?_;exact aa (aW q) (aL ..)
  |false=>rw[q]at h;exact bc _ (my h)
theorem ap.upd (I:ap Z X sl G vs st m s tr) (hx:∃o₀,st.t.get p=some o₀) (hfl:st.fl.get p=none) (hr:G.ρ (.d p)=some (a,d)) (hb:b=a\/b=d) (hm:b∈tr.map (·.1))
  (F':Fr X.base X.L h' m) (N':News X.base X.L h' (setT tr b o)) (h:OR Z (cO X (setT tr b o)) G a d x):
  ap Z X sl G vs {st with t:=Tr.set x p st.t} m {s with heap:=h',toks:=tk} (setT tr b o):=by
 refine fb (id I.own) λow o1 o2 o3 o4=>?_;have ob:ow b=.id (.d p):=by rcases hb with rfl |rfl;exact(o1 _ _ _ hr).1;exact(o1 _ _ _ hr).2
 refine⟨by rw[I.sh],F',N',by refine aa (gb ..) ?_;exact I.nd,λi y v c1 c2 c3=>?_,I.len,λq hq=>?_,λi o' h1=>?_,λq o' h1 h2=>?_,λc o' hc=>?_,I.own,λi a' d' hi=>?_,λc hc=>?_,I.cnt,⟨I.num.dom,I.num.memo⟩,⟨λc o' ec=>?_,I.xok.loc,I.xok.out,λq o' h1 h2=>?_,I.xok.g,I.xok.x,I.xok.f,I.xok.h,I.xok.v⟩⟩
 ·exact aA (I.loc i y v c1 c2 c3) λw z r=>⟨w,z,r⟩
 ·refine aA (I.out q hq) λo' h1 h2=>?_;refine⟨o',rT h1 ?_,h2⟩;intro z;have:=o3 q hq;rw[z,ob]at this;cases this
 ·by_cases z:i=.d p
  ·subst z;have h1:(Tr.set x p st.t).get p=some o':=h1;rw[bH]at h1;refine gP h1 ?_;exact⟨a,d,hr,h⟩
  ·have old:dj i st=some o':=by
    cases i with
    |g q=>exact h1
    |d q=>
     have h1:(Tr.set x p st.t).get q=some o':=h1;rw[aS _ _ _ _ (λw=>z (by rw[w]))]at h1;exact h1
   refine aJ (I.sto i o' old) λa' d' r y=>?_;have w:=o1 i a' d' r;refine⟨a',d',r,y.setT ?_ ?_⟩
   ·rintro rfl;rw[ob]at w;exact z (by injection w.1 with w;exact w.symm)
   ·rintro rfl;rw[ob]at w;exact z (by injection w.2 with w;exact w.symm)
 ·refine aa (gb ..) ?_
  by_cases z:q=p
  ·subst z;refine kX hx λo'' w=>?_;exact I.wri q o'' w h2
  ·have h1:=h1;rw[aS _ _ _ _ z]at h1;exact I.wri q o' h1 h2
 ·refine(I.imm c o' hc).setT ?_;rintro rfl;have:=o2 _ _ hc;replace this:=(ob ..)▸this;cases this
 ·refine kN (I.rng i a' d' hi) λzz81 zz80=>?_;refine kX zz80 λx2 y2=>?_;refine kX zz81 λx1 y1=>?_;exact⟨y1.setE,y2.setE⟩
 ·refine aA (I.hel c hc) λo' h1 h2=>?_;refine⟨o',rT h1 ?_,h2⟩;intro z;have:=o4 c hc;rw[z,ob]at this;cases this
 ·refine(I.xok.has c o' ec).setT λz=>?_;refine kX hx λo₀ w=>?_;refine kN (I.xok.wri p o₀ w hfl a d hr) λn1 n2=>?_;rw[z]at ec;rcases hb with hb |hb
  ·rw[hb,n1]at ec;exact bd ec
  ·rw[hb,n2]at ec;exact bd ec
 ·by_cases z:q=p
  ·subst z;refine kX hx λo'' w=>?_;exact I.xok.wri q o'' w h2
  ·have h1:=h1;rw[aS _ _ _ _ z]at h1;exact I.xok.wri q o' h1 h2
theorem vX {b:Addr} {o o':Obj}:∀{tr:List (Addr×Obj)},(tr.map (·.1)).Nodup->(b,o)∈tr->Upd b o o' tr (setT tr b o')
 |[],_,h=>nomatch h
 |p::r,nd,h=>by
  rw[fy,List.nodup_cons]at nd
  by_cases z:p.1=b
  ·have e:p=(b,o):=by
    rcases bk.mp h with e |e
    ·exact e.symm
    ·exact absurd (List.mem_map_of_mem e) (by rw[<-z];exact nd.1)
   subst e;have off:∀q∈r,q.1≠b:=λq hq w=>nd.1 (w▸List.mem_map_of_mem (f:=(·.1)) hq);have same:setT r b o'=r:=by
    unfold setT
    conv=>rhs;rw[<-List.map_id r]
    exact List.map_congr_left λq hq=>by simp[off q hq]
   have:setT ((b,o)::r) b o'=(b,o')::r:=by
    show(if b=b then(b,o')else(b,o))::setT r b o'=_;rw[if_pos rfl,same]
   rw[this];exact .head off
  ·have:setT (p::r) b o'=p::setT r b o':=by
    show(if p.1=b then(b,o')else p)::setT r b o'=_;rw[if_neg z]
   rw[this];refine .tail z (vX nd.2 ?_);rcases bk.mp h with e |e
   ·exact absurd (congrArg Prod.fst e).symm z
   ·exact e
end
end
section
section
variable{Z:Zt} {X:Fx} {n:Nat} {sc:Scope} {sl:List Str}
def bR (e:Expr):Prop:=∀rest env,starEach (e::rest) env=(false,eval e env)::starEach rest env
inductive eD (Z:Zt) (n:Nat) (sc:Scope) (sl:List Str):List Ev->List Expr->Prop
 |nil:eD Z n sc sl [] []
 |cons {a:Ev} {e:Expr} {l:List Ev} {es:List Expr} (h:av Z n sc sl a e) (hs:bR e) (r:eD Z n sc sl l es):eD Z n sc sl (a::l) (e::es)
def EK (Z:Zt) (X:Fx) (sl:List Str) (G:Gh) (vs:Vs) (m:jF) (N:Nat) (k:List V->St->af) (ws:List Value) (s:Shared):Prop:=E3 λG' l st'=>A5 (G.Le G') (F2 (VR Z.T Z.rg G') l ws) (k l st') (bg Z X sl G' vs st' m s) (ws.length=N)
theorem sR (h:eD Z n sc sl l es) (F:FxOk Z X n sc):∀{G vs st m s} {k:List V->St->af} {kE:KE},bg Z X sl G vs st m s->Fg l vs st k kE=true->
  wpAny (model Z.prog Z.w) X.A (spliced (backTo pos (starEach es X.env))) (EK Z X sl G vs m es.length k) (c6 Z X G.ν m kE) s:=by
 induction h with
 |nil=>exactλ{G vs st m s k kE} I y=>spliced_none ⟨G,[],st,Gh.Le.refl G,.nil,y,I,rfl⟩
 |cons h hs r ih=>
  intro G vs st m s k kE I y;refine spliced_more (h.w0 F I y λw1 s1 G1 v1 st1 L1 r1 y1 I1=>?_) (hs _ _);refine aq (ih I1 y1) (λws s2 z=>?_) λ_ _ z=>z.up L1.ν;exact gn z λG2 l2 st2 L2 r2 y2 I2 hl=>⟨G2,v1::l2,st2,L1.trans L2,.cons (r1.mono L2) r2,y2,I2,by simp[hl]⟩
theorem yq (h:F2 (VR Z.T Z.rg G) l ws) (e:szOk l):ws.length<=sizeLine:=by
 have e:=Nat.ble_eq.mp e;rw[bw,h.length]at e;exact cM e (by decide)
theorem Ai {G vs st m s} (I:bg Z X sl G vs st m s) (h:F2 (VR Z.T Z.rg G) l ws) (e:iz l st k=true):
  wpAny (model Z.prog Z.w) A (newTuple ws) (bf Z X sl G vs m k) E s:=by
 refine ax e λe g=>?_;refine I.k λtr I=>?_;refine wpAny_newObj_type ?_ (by show ws.toArray.size<=sizeLine;refine aa List.size_toArray ?_;exact yq h g);have u:=I.unown (c8 _);have L:=iK (o:=cj ws) u.2.1;exact⟨_,.tup l,st,L,.tup l ws _ (SR.of_plain (h.mono λ_ _ x=>x.mono L)) hF,e,_,((I.push (cj ws) rfl).addH (aL ..) u)⟩
theorem oh {G vs st m s} (I:bg Z X sl G vs st m s) (hsz:ws.length<=sizeLine) (h:SR Z.T Z.rg G l ws) (e:newList l st k=true):
  wpAny (model Z.prog Z.w) A (PySem.newList ws) (bf Z X sl G vs m k) E s:=by
 refine ax e λe g=>?_;refine I.k λtr I=>?_;refine wpAny_newObj_type ?_ (by show ws.toArray.size<=sizeLine;refine aa List.size_toArray ?_;exact hsz);have u:=I.unown (c8 _);have L:=gO (p:=(s.heap.objs.size,s.heap.objs.size)) (I.cnt st.n (c8 _));obtain⟨t,nn,d,mm,g',x,f⟩:=st;exact⟨_,.ref (.d nn),_,L,.ref _ _ _ bV,e,_,((I.push (hM ws 0) rfl).addI (by simp) (by simp) u u ⟨rfl,ws,0,.inl (aL ..),h.mono L⟩)⟩
theorem HB (h:eD Z n sc sl l es):av Z n sc sl (aF l) (.Tuple es kk pos):=λX F G vs st m s k kE I y=>by
 refine Tuple_ (aq (sR h F I y) (λws s1 z=>?_) λ_ _ z=>z);exact gn z λG1 l1 st1 L1 r1 y1 I1 _=>Kf (Ai I1 r1 y1) L1
theorem HE (h:eD Z n sc sl l es):av Z n sc sl (dk l) (.List es pos):=λX F G vs st m s k kE I y=>by
 refine List_ (aq (sR h F I y) (λws s1 z=>?_) λ_ _ z=>z);exact gn z λG1 l1 st1 L1 r1 y1 I1 _=>Kf (oh I1 (yq r1 (dK y1).1) (SR.of_plain r1) y1) L1
theorem Sg (h:f<44):b9 f=aj (Hu.getD f []):=rfl
theorem uX:∀f,f<44->∀g,g<44->b9 f=b9 g->f=g:=by
 intro f hf g hg e;have:∀f,f<44->∀g,g<44->Hu.getD f []=Hu.getD g []->f=g:=by decide+kernel
 exact this f hf g hg (gX.mp e)
theorem FR.get {G:Gh} {T:cW} {rg:Addr}:∀{fs:List (Nat×V)} {es:List DictEntry},FR T rg G fs es->∀f,f<44->match gE fs f with
  |some v=>∃w,getL (b9 f) es=some (some w)/\VR T rg G v w
  |none=>getL (b9 f) es=some none:=by
 intro fs es h f hf
 induction h with
 |nil=>rfl
 |@cons p e fs es h r ih=>
  refine iP h λh1 zz82 h3=>?_;obtain⟨t,h2⟩:=zz82;have e0:gE (p::fs) f=ah (Nat.beq p.1 f) (some p.2) (gE fs f):=rfl;have k1:e.key.isStr (b9 f)=(b9 p.1==b9 f):=by rw[h2];rfl
  have k2:e.refKey=false:=by unfold DictEntry.refKey;rw[h2]
  rw[e0];cases q:Nat.beq p.1 f with
  |true=>
   have z:=gB q;rw[Jt];refine⟨e.val,?_,h3⟩;unfold getL;rw[List.find?_cons,k1,z,beq_self_eq_true]
  |false=>
   have z:¬p.1=f:=Nat.ne_of_beq_eq_false q;have k3:e.key.isStr (b9 f)=false:=by
    rw[k1];exact beq_eq_false_iff_ne.mpr λw=>z (uX _ h1 _ hf w)
   have e1:getL (b9 f) (e::es)=getL (b9 f) es:=by
    unfold getL;rw[List.find?_cons,k3,List.any_cons,k2,Bool.false_or]
   rw[zo,e1];exact ih
theorem hZ {st:St} {k:Nat->AI->List (Nat×V)->af} (e:fields x st k=true):E3 λp c fs=>x=.ref p/\dj p st=some (.inst c fs)/\k c p fs=true:=by
 refine Iv e λp e=>?_;refine aA (ek e) λo h e=>?_;cases o<;>first |exact⟨p,_,_,rfl,h,e⟩ |exact ao e
structure pZ (Z:Zt):Prop where
 rg:Z.rg=Z.cls 11
 get:∀c,3<c/\c<16->∀f,f<44->plainGet Z.K (Z.cls c) (b9 f)/\hasDictIn Z.K (Z.cls c)
 attr:∀c,3<c/\c<16->∀f,f<44->∃a,findIn Z.K (.ref (Z.cls c)) (b9 f)=some a/\noGet Z.K a
theorem uk (KA:pZ Z) (F:FxOk Z X n sc) {G vs st m s tr} {p:AI} {a d:Addr} {v:V} (hf:f<44) (I:ap Z X sl G vs st m s tr) (ho:dj p st=some (.inst c fs)) (hr:G.ρ p=some (a,d)) (hv:gE fs f=some v):
  ∃w,VR Z.T Z.rg G v w/\∀(t:Nat) expr E (Q:Value->Shared->Prop),(∀t,Q w {s with toks:=t})->wpAny (model Z.prog Z.w) X.A (getAttr (.ref a) (b9 f) expr) Q E {s with toks:=t}:=by
 refine aJ (I.sto p _ ho) λa' d' hr' zz84=>?_;obtain⟨hc,es,nn,h1,h2,h3⟩:=zz84;rw[hr]at hr';refine kN (fE hr') λee85 ee86=>?_;subst ee85 ee86;have g:=h3.get f hf;rw[hv]at g;refine aA g λw' g1 g2=>?_;refine aA (KA.attr c hc.1 f hf) λatt t1 t2=>?_;refine kN (KA.get c hc.1 f hf) λt3 t4=>?_;exact⟨w',g2,λt expr E Q q=>get_own (es:=es) (n:=nn) (ox:=oY (Z.cls c) d) I.fr F.inK ⟨I.get h1,rfl,rfl,I.get h2⟩ t3 t4 t1 t2 g1 (by induction g2 using VR.casesOn<;>rfl) (q _)⟩
theorem Ih (KA:pZ Z) (F:FxOk Z X n sc) {G vs st m s} (hf:f<44) (I:bg Z X sl G vs st m s) (h:VR Z.T Z.rg G v w) (e:attr v f st k=true):
  wpAny (model Z.prog Z.w) X.A (getAttr w (b9 f) expr) (bf Z X sl G vs m k) E s:=by
 refine hG λCC hCC=>?_;have I0:=I;refine I.k λtr I=>?_;obtain⟨p,c,fs,rfl,ho,e⟩:=hZ e;have e:ag (gE fs f) false (λv=>k v st)=true:=e;refine aJ (by
  induction h using VR.kref with
  |ref a d h=>exact⟨a,d,rfl,h⟩:E2 λa d=>w=.ref a/\G.ρ p=some (a,d)) λa d ee87 hr=>?_;subst ee87
 cases q:gE fs f with
 |none=>rw[q]at e;exact ao e
 |some v'=>
  rw[q]at e;refine aA (uk KA F hf I ho hr q) λw' g R=>?_;refine hCC ?_;exact R s.toks expr E _ λt=>bf.now (I0.toks _) g e
theorem Ac (KA:pZ Z) (F:FxOk Z X n sc) {G vs st m s tr} {j:Nat} {a:Addr} {expr:Bool} {E} (I:ap Z X sl G vs st m s tr) (h:VR Z.T Z.rg G (.oreg j) (.ref a)) (t:Nat)
  (q:∀t w,VR Z.T Z.rg G (.sat j) w->Q w {s with toks:=t}):wpAny (model Z.prog Z.w) X.A (getAttr (.ref a) "name" expr) Q E {s with toks:=t}:=by
 refine hG λCC hCC=>?_;cases h with
 |oreg _ _ dx osl es nn t g1 g2 g3 gx=>
  refine aA (KA.attr 11 (by decide) 0 (by exact Nat.zero_lt_succ 43)) λatt t1 t2=>?_;refine kN (KA.get 11 (by decide) 0 (by exact Nat.zero_lt_succ 43)) λt3 t4=>?_;rw[<-KA.rg]at t1 t3 t4;refine hCC ?_;exact get_own (es:=es) (n:=nn) (ox:=rj Z.rg dx osl) I.fr F.inK ⟨I.get (I.imm _ _ g1),rfl,rfl,I.get (I.imm _ _ g2)⟩ t3 t4 t1 t2 g3 rfl (q _ _ (.sat _ _ gx))
end
end
section
section
variable{Z:Zt} {X:Fx} {n:Nat} {sc:Scope} {sl:List Str}
theorem PD (KA:pZ Z) (hf:f<44) (hn:name=b9 f) (h:av Z n sc sl a e)
  (he:∀env,eval (.Attribute e name pos) env=(do
   let o <-eval e env
   standAt pos.atName
   let r <-holding [o] (getAttr o name true)
   letTemporaryGo e o r
   pure r)):av Z n sc sl (eA a f) (.Attribute e name pos):=λX F G vs st m s k kE I y=>by
 subst hn;refine Attribute_any_ (h.w0 F I y λw1 s1 G1 v1 st1 L1 r1 y1 I1=>?_) (he _);exact Kf (Ih KA F hf I1 r1 y1) L1
def MS (Z:Zt) (X:Fx) (sl:List Str) (G:Gh) (vs:Vs) (m:jF) (k:St->af) (s:Shared):Prop:=E2 λG' st'=>A3 (G.Le G') (k st') (bg Z X sl G' vs st' m s)
theorem cG {st:St} {i:AI} (e:put st i o k=true):∃p,i=.d p/\st.fl.get p=none/\k {st with t:=Tr.set o p st.t}=true:=by
 obtain⟨t,n,d,mm,g,x,f⟩:=st;cases i with
 |g p=>exact ao e
 |d p=>
  have e:ag (f.get p) (k ⟨Tr.set o p t,n,d,mm,g,x,f⟩) (λ_=>false)=true:=e;cases q:f.get p with
  |none=>replace e:=(q ..)▸e;exact⟨p,rfl,q,e⟩
  |some o=>rw[q]at e;exact ao e
structure mj (Z:Zt):Prop where
 set:∀c,3<c/\c<16->findIn Z.K (.ref (Z.cls c)) "__setattr__"=some (some (.builtin "object.__setattr__"))/\plainOver Z.K (Z.cls c)/\hasDictIn Z.K (Z.cls c)
 taker:∀c,3<c/\c<16->∀f,f<44->takerIn Z.K (Z.cls c) (b9 f)=some none
@[elab_as_elim] theorem U0 {st:St} {i:AI} {o:O} {k:St->af} {C:AI->Prop} (e:put st i o k=true) (c:∀p,k {st with t:=Tr.set o p st.t}=true->st.fl.get p=none->C (.d p)):C i:=gD (cG e) λp q h e=>q▸c p e h
theorem FR.put {T:cW} (hf:f<44) (hv:VR T rg G v w):∀{fs:List (Nat×V)} {es:List DictEntry},FR T rg G fs es->
  FR T rg G (sO v fs f) (putL (b9 f) hsh (.str (b9 f) tk) w es):=by
 intro fs es h
 induction h with
 |nil=>exact .cons ⟨hf,⟨tk,rfl⟩,hv⟩ .nil
 |@cons p e fs es h r ih=>
  refine iP h λh1 zz88 h3=>?_;refine kX zz88 λt h2=>?_;have e0:sO v (p::fs) f=ah (Nat.beq p.1 f) ((p.1,v)::fs) (p::sO v fs f):=rfl;have k1:e.key.isStr (b9 f)=(b9 p.1==b9 f):=by refine aa h2 ?_;rfl
  refine aa e0 ?_;unfold putL;cases q:Nat.beq p.1 f with
  |true=>
   have z:=gB q;refine aa k1 (aa z (aa (beq_self_eq_true ..) ?_));exact .cons ⟨hf,⟨t,by refine bI z ?_;exact h2⟩,hv⟩ r
  |false=>
   have z:=Nat.ne_of_beq_eq_false q;refine aa k1 (aa (beq_eq_false_iff_ne.mpr λw=>z (uX _ h1 _ hf w) ..) ?_);exact .cons ⟨h1,⟨t,h2⟩,h3⟩ ih
theorem FR.get_isSome {T:cW} (h:FR T rg G fs es) (hf:f<44):(getL (b9 f) es).isSome:=by
 have:=h.get f hf;cases q:gE fs f with
 |none=>rw[q]at this;refine aa this ?_;rfl
 |some v=>rw[q]at this;refine aA this λw e _=>?_;refine aa e ?_;rfl
theorem Ah:∀(n:Nat) (l:List Nat),l.Nodup->(∀x∈l,x<n)->l.length<=n:=by
 intro l0
 induction l0 with
 |zero=>
  intro l nd h;cases l with
  |nil=>exact c8 _
  |cons a r=>exact absurd (h a (aL ..)) (Nat.not_lt_zero _)
 |succ n ih=>
  intro l nd h;have h1:=ih (l.erase n) (nd.erase n) λx hx=>by
   have h2:=h x (List.mem_of_mem_erase hx);have h3:x≠n:=by rintro rfl;exact(List.Nodup.not_mem_erase nd) hx
   lia
  have h4:=List.length_erase (a:=n) (l:=l)
  split at h4<;>lia
theorem AE:∀{fs:List (Nat×V)},(fs.map (·.1)).Nodup->((sO v fs f).map (·.1)).Nodup/\∀x∈(sO v fs f).map (·.1),x=f\/x∈fs.map (·.1):=by
 intro l0
 induction l0 with
 |nil=>
  intro nd;exact⟨by show[f].Nodup;simp,λx hx=>.inl (by have hx:x∈[f]:=hx;simpa using hx)⟩
 |cons p r ih=>
  intro nd;rw[fy,List.nodup_cons]at nd;have ih:=ih nd.2;have e0:sO v (p::r) f=ah (Nat.beq p.1 f) ((p.1,v)::r) (p::sO v r f):=rfl;refine aa e0 ?_;cases q:Nat.beq p.1 f with
  |true=>
   exact⟨by rw[fy,List.nodup_cons];exact nd,λx hx=>.inr hx⟩
  |false=>
   refine⟨by rw[fy,List.nodup_cons];exact⟨λw=>(ih.2 _ w).elim (Nat.ne_of_beq_eq_false q) nd.1,ih.1⟩,λx hx=>?_⟩;rcases bk.mp hx with rfl |hx
   ·exact .inr (aL ..)
   ·exact(ih.2 x hx).imp_right (bc _)
theorem nJ (KS:mj Z) (F:FxOk Z X n sc) {G vs st m s} (hf:f<44) (I:bg Z X sl G vs st m s) (hx:VR Z.T Z.rg G x wx) (hv:VR Z.T Z.rg G v wv) (e:setAttr x f v st k=true):
  wpAny (model Z.prog Z.w) X.A (PySem.setAttr wx (b9 f) wv) (λ_=>MS Z X sl G vs m k) E s:=by
 refine hG λCC hCC=>?_;obtain⟨tr,I⟩:=I;obtain⟨i,c,fs,rfl,ho,e⟩:=hZ e;have e:put st i (.inst c (sO v fs f)) k:=e;obtain⟨p,rfl,hfl,e⟩:=cG e;have ho:st.t.get p=some (.inst c fs):=ho;obtain⟨a,d,hr,hc,es,nn,h1,h2,h3⟩:=I.sto (.d p) _ ho;obtain⟨a',d',hr',ha,hd⟩:=I.wri p _ ho hfl;rw[hr]at hr';obtain⟨rfl,rfl⟩:=fE hr'
 induction hx using VR.kref with
 |ref a' d' hr'=>
  rw[hr]at hr';obtain⟨rfl,rfl⟩:=fE hr';have hdm:(d,dictOf es nn)∈tr:=by
   obtain⟨q,hq,e⟩:=List.mem_map.mp hd;have g1:=(I.nw q hq).1;rw[show q.1=d from e,I.get h2]at g1;rw[<-show q=(d,dictOf es nn)from Prod.ext e (ch g1).symm];exact hq
  obtain⟨t1,t2,t3⟩:=KS.set c hc.1;have R':=FR.put (hsh:=PyData.keyHash Z.w.params (b9 f)) (tk:=s.toks+1) hf hv h3;have keysLt:∀{fs:List (Nat×V)} {es:List DictEntry},FR Z.T Z.rg G fs es->∀x∈fs.map (·.1),x<44:=λ{fs es} r=>by
   induction r with
   |nil=>intro x hx;cases hx
   |cons h t ih=>
    intro x hx;rcases bk.mp hx with rfl |hx
    ·exact h.1
    ·exact ih x hx
  have fk:=AE (v:=v) (f:=f) hc.2;have hlen:(putL (b9 f) (PyData.keyHash Z.w.params (b9 f)) (.str (b9 f) (s.toks+1)) wv es).length<=1000:=by
   rw[<-F2.length R',<-List.length_map (f:=(·.1))];have:=Ah 44 _ fk.1 (keysLt R');exact cM (by assumption) (by decide)
  refine hCC ?_;refine set_dict (w:=Z.w) (es:=es) (n:=nn) (ox:=oY (Z.cls c) d) (dx:=d) I.fr F.inK I.nw ⟨I.get h1,rfl,rfl,I.get h2⟩ rfl t1 t2 (KS.taker c hc.1 f hf) t3 (h3.get_isSome hf) rfl (vX I.nd hdm)
   hlen λh' F' N'=>?_
  have ne:a≠d:=by
   rintro rfl;have g1:=I.get h1;rw[I.get h2]at g1;cases g1
  refine⟨G,_,Gh.Le.refl G,e,_,I.upd ⟨_,ho⟩ hfl hr (.inr rfl) hd F' N' ⟨⟨hc.1,fk.1⟩,_,_,h1.setT ne,.inl (bU hd),R'⟩⟩
inductive Fi (Z:Zt) (G:Gh):Fl->Flow->Prop
 |next:Fi Z G .next .next
 |cont:Fi Z G .cont .cont
 |ret {v:V} {w:Value} (h:VR Z.T Z.rg G v w):Fi Z G (.ret v) (.ret w)
def iU (Z:Zt) (X:Fx) (sl:List Str) (G:Gh) (k:KF) (f:Flow) (s:Shared):Prop:=E5 λfl G' vs' st' m'=>A4 (Fi Z G' fl f) (G.Le G') (k fl vs' st') (bg Z X sl G' vs' st' m' s)
def jt (Z:Zt) (n:Nat) (sc:Scope) (sl:List Str) (x:Ex) (b:List Stmt):Prop:=∀X,E9 Z X n sc->∀G vs st m s (k:KF) (kE:KE),bg Z X sl G vs st m s->x vs st k kE->
 wpAny (model Z.prog Z.w) X.A (execs b X.env) (iU Z X sl G k) (i0 Z X G.ν kE) s
def ca (Z:Zt) (n:Nat) (sc:Scope) (sl:List Str) (x:Ex) (b:Stmt):Prop:=∀X,E9 Z X n sc->∀G vs st m s (k:KF) (kE:KE),bg Z X sl G vs st m s->x vs st k kE->
 wpAny (model Z.prog Z.w) X.A (exec b X.env) (iU Z X sl G k) (i0 Z X G.ν kE) s
theorem i0.up {ν ν':List Int} {kE:KE} {x:Value} {s:Shared} (p:ν <+:ν') (h:i0 Z X ν' kE x s):i0 Z X ν kE x s:=let⟨f,ν'',st',p',r,q⟩:=h;⟨f,ν'',st',p.trans p',r,q⟩
theorem iU.up (L:G.Le G') (h:iU Z X sl G' k f s):iU Z X sl G k f s:=jN h λa b c d e q p r t=>⟨a,b,c,d,e,q,L.trans p,r,t⟩
theorem iU.go {vs st m s} {k:KF} (I:bg Z X sl G vs st m s) (y:k .next vs st=true):iU Z X sl G k .next s:=⟨.next,G,vs,st,m,.next,Gh.Le.refl G,y,I⟩
theorem Fv:jt Z n sc sl aE []:=λX F G vs st m s k kE I y=>wpAny_execs_nil (.go I y)
theorem Bv:ca Z n sc sl aE (.Pass pos):=λX F G vs st m s k kE I y=>wpAny_Pass (.go I y)
theorem yj (h:ca Z n sc sl x b):jt Z n sc sl x [b]:=λX F G vs st m s k kE I y=>by
 refine wpAny_execs_cons (aq (h X F G vs st m s k kE I y) (λf s1 z=>?_) λ_ _ z=>z);cases f with
 |next=>exact wpAny_execs_nil z
 |_=>exact z
theorem m7 (h1:ca Z n sc sl a t) (h2:jt Z n sc sl b r):jt Z n sc sl (ac a b) (t::r):=λX F G vs st m s k kE I y=>by
 refine wpAny_execs_cons (aq (h1 X F G vs st m s _ kE I y) (λf s1 z=>?_) λ_ _ z=>z);refine jN z λfl G1 rP st1 m1 R L1 y1 I1=>?_
 induction R using Fi.casesOn with
 |next=>exact aq (h2 X F G1 rP st1 m1 s1 k kE I1 y1) (λ_ _ z=>z.up L1) λ_ _ z=>z.up L1.ν
 |cont=>exact⟨.cont,G1,rP,st1,m1,.cont,L1,y1,I1⟩
 |ret h=>exact⟨.ret _,G1,rP,st1,m1,.ret h,L1,y1,I1⟩
theorem Bw:ca Z n sc sl nB (.Continue pos):=λX F G vs st m s k kE I y=>λ_ _ _=>⟨.cont,G,vs,st,m,.cont,Gh.Le.refl G,y,I⟩
theorem Ft (h:av Z n sc sl a e):ca Z n sc sl (au a) (.Return (some e) pos):=λX F G vs st m s k kE I y=>by
 refine wpAny_Return_some (aq (h X F.toFxOk G vs st m s _ kE I y) (λw1 s1 z=>?_) λ_ _ z=>z.1);exact bX z λG1 v1 st1 L1 r1 y1 I1=>⟨.ret v1,G1,vs,st1,m,.ret r1,L1,y1,I1⟩
theorem Bt:ca Z n sc sl Bu (.Return none pos):=λX F G vs st m s k kE I y=>wpAny_Return_none ⟨.ret .none,G,vs,st,m,.ret .none,Gh.Le.refl G,y,I⟩
theorem J6 {a b:Ex} (h:dT Z n sc sl c e) (h1:jt Z n sc sl a t) (h2:jt Z n sc sl b u):ca Z n sc sl (bN c a b) (.If e t u pos):=λX F G vs st m s k kE I y=>by
 refine wpAny_If (aq (h X F.toFxOk G vs st m s _ kE I y) (λr s1 z=>?_) λ_ _ z=>z.1);refine ak z λG1 st1 L1 y1 I1=>?_;cases r with
 |true=>exact aq (h1 X F G1 vs st1 m s1 k kE I1 y1) (λ_ _ z=>z.up L1) λ_ _ z=>z.up L1.ν
 |false=>exact aq (h2 X F G1 vs st1 m s1 k kE I1 y1) (λ_ _ z=>z.up L1) λ_ _ z=>z.up L1.ν
theorem bg.store {G vs st m s} (I:bg Z X sl G vs st m s) {i:Nat} {w:Value} (hi:sl[i]?=some x) (hu:∀j,sl[j]?=some x->j=i) (h:VR Z.T Z.rg G v w) {h':Heap} 
  (hk:X.env.kindOf x=some .local) (hn:h'.Ns X.L (λy=>if y=x then some w else m y)) (hs:Heap.SameBut X.L s.heap h'):bg Z X sl G (sD v vs i) st (λy=>if y=x then some w else m y) {s with heap:=h',toks:=tk}:=by
 refine kX I λtr I=>?_;refine⟨tr,by rw[I.sh],I.fr.set hn hs,I.nw.set hs,I.nd,λj y u c1 c2 c3=>?_,by rw[iA,List.length_set];exact I.len,I.out,I.sto,I.wri,I.imm,I.own,I.rng,I.hel,I.cnt,I.num,I.xok⟩;rw[iA]at c2
 by_cases z:j=i
 ·subst z;rw[hi]at c1;obtain rfl:=jK c1;have:j<vs.length:=by rw[I.len];exact(List.getElem?_eq_some_iff.mp hi).1
  rw[List.getElem?_set_self this]at c2;obtain rfl:=jK c2;exact⟨w,.inl ⟨hk,if_pos rfl⟩,h⟩
 ·rw[List.getElem?_set_ne (Ne.symm z)]at c2;refine aA (I.loc j y u c1 c2 c3) λw' y1 y2=>?_;refine⟨w',?_,y2⟩;rcases y1 with⟨q1,q2⟩ |y1
  ·have:y≠x:=by rintro rfl;exact z (hu j c1)
   exact .inl ⟨q1,by simp only[if_neg this];exact q2⟩
  ·exact .inr y1
end
end
section
section
variable{Z:Zt} {X:Fx} {n:Nat} {sc:Scope} {sl:List Str}
def Im (Z:Zt) (X:Fx) (sl:List Str) (G:Gh) (k:KV) (s:Shared):Prop:=E4 λG' vs' st' m'=>G.Le G'/\k vs' st'/\bg Z X sl G' vs' st' m' s
theorem Im.up {G G':Gh} {k:KV} {s:Shared} (L:G.Le G') (h:Im Z X sl G' k s):Im Z X sl G k s:=let⟨a,b,c,d,p,r⟩:=h;⟨a,b,c,d,L.trans p,r⟩
def vQ (Z:Zt) (n:Nat) (sc:Scope) (sl:List Str) (t:Tg) (e:Expr):Prop:=∀X,FxOk Z X n sc->∀G vs st m s (k:KV) E v w,bg Z X sl G vs st m s->VR Z.T Z.rg G v w->iJ t v vs st k->
 wpAny (model Z.prog Z.w) X.A (assign e X.env w) (λ_=>Im Z X sl G k) E s
theorem IR {i:Nat} (nd:sl.Nodup) (hi:sl[i]?=some x):∀j,sl[j]?=some x->j=i:=λj hj=>by
 have:j<sl.length:=(List.getElem?_eq_some_iff.mp hj).1;exact(List.getElem?_inj this nd).mp (hj.trans hi.symm)
theorem tM (F:FxOk Z X n sc) {G vs st m s} (hi:sl[i]?=some x) (nd:sl.Nodup) (hk:sc.names.lookup x=some .local) (I:bg Z X sl G vs st m s) (h:VR Z.T Z.rg G v w)
  (q:∀m' s',bg Z X sl G (sD v vs i) st m' s'->Q () s'):wpAny (model Z.prog Z.w) X.A (bindName X.env x w) Q E s:=by
 have hl:X.env.kindOf x=some .local:=by show X.env.scope.names.lookup x=_;exact aa F.scope (hk)
 have I0:=I;refine I.k λtr I=>?_;refine wpAny_bindName (wpAny_storeName_local hl (by refine aa F.locals ?_;exact I.fr.ns) (λh' hn hs=>?_) (by refine aa F.scope (aa F.kind ?_);rfl));rw[F.locals]at hn hs;exact q _ _ (I0.store hi (IR nd hi) h hl hn hs)
theorem MO (hi:sl[i]?=some x) (nd:sl.Nodup) (hk:sc.names.lookup x=some .local):vQ Z n sc sl (.n i) (.Name x pos):=λX F G vs st m s k E v w I h y=>
 assign_Name (show wpAny _ _ (storeName X.env x w) _ _ _ by
  have hl:X.env.kindOf x=some .local:=by show X.env.scope.names.lookup x=_;exact aa F.scope (hk)
  have I0:=I;refine I.k λtr I=>?_;refine wpAny_storeName_local hl (by refine aa F.locals ?_;exact I.fr.ns) (λh' hn hs=>?_) (by refine aa F.scope (aa F.kind ?_);rfl);rw[F.locals]at hn hs;exact⟨G,_,st,_,Gh.Le.refl G,y,I0.store hi (IR nd hi) h hl hn hs⟩)
theorem Ng (hi:sl[i]?=some x) (nd:sl.Nodup) (hk:sc.names.lookup x=some .local) (h:av Z n sc sl a e) (hs:∀env,swapsWith e (some (.Name x p1)) pos.line env=pure false):
  ca Z n sc sl (xA (.n i) a) (.Assign [.Name x p1] e pos):=λX F G vs st m s k kE I y=>by
 refine aa (exec_Assign_Name X.env x p1 e pos (hs _) ..) ?_;refine ae (wpAny_standAt (ae (aq (h X F.toFxOk G vs st m s _ kE I y) (λw1 s1 z=>?_) λ_ _ z=>z.1)));refine bX z λG1 v1 st1 L1 r1 y1 I1=>?_;refine ae (wpAny_standAt (ae (tM F.toFxOk hi nd hk I1 r1 λm' s' I2=>aR ?_)));exact⟨.next,G1,_,st1,m',.next,L1,y1,I2⟩
theorem J9 (KS:mj Z) (hf:f<44) (hn:name=b9 f) (ho:av Z n sc sl o eo) (h:av Z n sc sl a e) (hs:∀env,swapsWith e (some (.Attribute eo name p1)) pos.line env=pure false):
  ca Z n sc sl (dE o f a) (.Assign [.Attribute eo name p1] e pos):=λX F G vs st m s k kE I y=>by
 subst hn;refine plainObj_wpAny_Assign_Attribute (aq (h X F.toFxOk G vs st m s _ kE I y) (λw1 s1 z=>?_) λ_ _ z=>z.1) (hs _);refine bX z λG1 v1 st1 L1 r1 y1 I1=>?_;refine aq (tI ho F.toFxOk L1 I1 y1) (λw2 s2 z=>?_) λ_ _ z=>z.1;refine bX z λG2 v2 st2 L2 r2 y2 I2=>?_;refine aq (nJ KS F.toFxOk hf I2 r2 (r1.mono L2) y2) (λ_ s3 z=>?_) λ_ _ z=>z;exact ak z λG3 st3 L3 y3 I3=>⟨.next,G3,vs,st3,m,.next,(L1.trans L2).trans L3,y3,I3⟩
theorem Nf (h:av Z n sc sl a e) (hi:∀X,FxOk Z X n sc->interactive X.env=false) (hs:∀env,swapsWith e none pos.line env=pure false)
  (hd:∀X,FxOk Z X n sc->∀(w:Value) (s:Shared) (Q:Flow->Shared->Prop) E,Q .next s->wpAny (model Z.prog Z.w) X.A (dropValue e pos w) Q E s):ca Z n sc sl (xE a) (.Expr e pos):=λX F G vs st m s k kE I y=>by
 rw[exec_Expr X.env e pos (hi X F.toFxOk) (hs _)];refine ae (wpAny_standAt (ae (aq (h X F.toFxOk G vs st m s _ kE I y) (λw1 s1 z=>?_) λ_ _ z=>z.1)));refine bX z λG1 v1 st1 L1 r1 y1 I1=>?_;exact hd X F.toFxOk _ _ _ _ ((iU.go I1 y1).up L1)
end
end
section
section
variable{Z:Zt} {X:Fx} {n:Nat} {sc:Scope} {sl:List Str}
noncomputable def hY (X:Fx) (m:jF) (L':Addr) (env':Env):Fx:={base:=X.base,xb:=X.xb,fl0:=X.fl0,h0:=X.h0,L:=L',fL:=L',env:=env',fenv:=env',A:=X.A.deeper env',outs:=(X.L,m)::X.outs,outE:=X.fenv::X.outE,held:=X.held}
theorem OR.at (ka:∀o,Hs a o->Hs' a o) (kd:∀o,Hs d o->Hs' d o) (r:OR Z Hs G a d o):OR Z Hs' G a d o:=r.map ka kd (Gh.Le.refl G)
theorem i5 {h:Heap} {L:Addr} {m:jF} (x:h.Ns L m):∃o,h.get? L=some o/\QM o m:=kX x λo x=>kX x λes x=>kX x λep x=>kN x λa x=>⟨o,a,es,ep,x⟩
theorem lT {h:Heap} {L:Addr} (a:h.get? L=some o) (x:QM o m):h.Ns L m:=fp x λes ep b c d=>⟨o,es,ep,a,b,c,d⟩
theorem ap.enter {G vs st m s tr} (I:ap Z X sl G vs st m s tr) {m':jF} {env':Env} {sl':List Str} (hn:h₁.Ns s.heap.objs.size m') (hk:∀b o,s.heap.get? b=some o->h₁.get? b=some o)
  (hlen:vs'.length=sl'.length) (hloc:∀(i:Nat) (x:Str) (v:V),sl'[i]?=some x->vs'[i]?=some v->v≠.unset->env'.kindOf x=some .local/\∃w,m' x=some w/\VR Z.T Z.rg G v w):
  ∃o,ap Z (hY X m s.heap.objs.size env') sl' G vs' st m' {s with heap:=h₁,toks:=tk} ((X.L,o)::tr):=by
 refine aA (i5 I.fr.ns) λoL hL nL=>?_;have up:∀{a o},cO X tr a o->cO (hY X m s.heap.objs.size env') ((X.L,oL)::tr) a o:=λh=>h.elim (λh=>.inl (bc _ h)) .inr;have bL:X.base.get? X.L=none:=by
  cases q:X.base.get? X.L with
  |none=>rfl
  |some o=>exact absurd (jG (bW q) I.fr.above) (fg _)
 have ltL:=bW hL;have offL:∀a o,cO X tr a o->a≠X.L:=λa o h z=>by
  subst z;rcases h with h |h
  ·exact(I.nw _ h).2.1 rfl
  ·rw[bL]at h;exact bd h
 refine⟨oL,by rw[I.sh],⟨hn,λb o e=>hk b o (I.fr.keep b o e),cM I.fr.above (Nat.le_of_lt ltL)⟩,λp hp=>?_,?_,λi x v a b c=>?_,hlen,λp hp=>?_,λi o h=>?_,λp o a b=>?_,λa o h=>up (I.imm a o h),?_,λi a d h=>?_,λp hp=>?_,I.cnt,I.num,⟨λb o e=>up (I.xok.has b o e),?_,λp hp=>?_,I.xok.wri,I.xok.g,I.xok.x,I.xok.f,I.xok.h,I.xok.v⟩⟩
 ·rcases bk.mp hp with rfl |hp
  ·exact⟨hk _ _ hL,Nat.ne_of_lt ltL,bL⟩
  ·refine iP (I.nw p hp) λa b c=>?_;exact⟨hk _ _ a,Nat.ne_of_lt (bW a),c⟩
 ·rw[fy,List.nodup_cons];refine⟨λh=>?_,I.nd⟩;refine aA (List.mem_map.mp h) λp hp e=>?_;exact(I.nw p hp).2.1 e
 ·refine kN (hloc i x v a b c) λh1 zz89=>?_;obtain⟨w,h2,h3⟩:=zz89;exact⟨w,.inl ⟨h1,h2⟩,h3⟩
 ·rcases bk.mp hp with rfl |hp
  ·exact⟨oL,aL ..,nL⟩
  ·refine aA (I.out p hp) λo a b=>?_;exact⟨o,bc _ a,b⟩
 ·refine aJ (I.sto i o h) λa d r y=>?_;exact⟨a,d,r,OR.at (λ_ x=>up x) (λ_ x=>up x) y⟩
 ·refine ak (I.wri p o a b) λx y r u v=>?_;exact⟨x,y,r,bc _ u,bc _ v⟩
 ·refine fb I.own λow o1 o2 o3 o4=>?_
  classical
  refine⟨λa=>if a=X.L then .fr else ow a,λi a d h=>?_,λa o h=>?_,λp hp=>?_,λp hp=>?_⟩
  ·refine kN (I.rng i a d h) λzz91 zz90=>?_;obtain⟨x',y'⟩:=zz90;obtain⟨x,y⟩:=zz91;simp only[if_neg (offL _ _ y),if_neg (offL _ _ y')];exact o1 i a d h
  ·simp only[if_neg (offL _ _ (I.imm a o h))];exact o2 a o h
  ·rcases bk.mp hp with rfl |hp
   ·simp
   ·by_cases z:p.1=X.L
    ·simp[z]
    ·simp only[if_neg z];exact o3 p hp
  ·by_cases z:p.1=X.L
   ·simp[z]
   ·simp only[if_neg z];exact o4 p hp
 ·refine kN (I.rng i a d h) λzz93 zz92=>?_;obtain⟨x',y'⟩:=zz92;obtain⟨x,y⟩:=zz93;exact⟨⟨x,up y⟩,⟨x',up y'⟩⟩
 ·refine aA (I.hel p hp) λo a b=>?_;exact⟨o,bc _ a,b⟩
 ·show X.xb.get? s.heap.objs.size=none;cases q:X.xb.get? s.heap.objs.size with
  |none=>rfl
  |some o=>exact absurd (I.lt (I.xok.has _ o q)) (fg _)
 ·rcases bk.mp hp with rfl |hp
  ·exact I.xok.loc
  ·exact I.xok.out p hp
theorem ap.backA {G G' vs vs' st st' m m' s s' tr tr' sl'} (I:ap Z X sl G vs st m s tr) (L:G.Le G') (J:ap Z (hY X m L' env') sl' G' vs' st' m' s' tr'):
  ap Z X sl G' vs st' m s' (tr'.filter (λp=>decide (p.1≠X.L))):=by
 classical
 refine aA (J.out (X.L,m) (aL ..)) λoL hL nL=>?_;refine fb J.own λow o1 o2 o3 o4=>?_;have owL:ow X.L=.fr:=o3 (X.L,m) (aL ..);have mem:∀{a o},(a,o)∈tr'->a≠X.L->(a,o)∈tr'.filter (λp=>decide (p.1≠X.L)):=λh z=>List.mem_filter.mpr ⟨h,by simpa using z⟩;have down:∀{a o},a≠X.L->cO (hY X m L' env') tr' a o->cO X (tr'.filter (λp=>decide (p.1≠X.L))) a o:=λz h=>h.elim (λh=>.inl (mem h z)) .inr;have nid:∀{i a d},G'.ρ i=some (a,d)->a≠X.L/\d≠X.L:=λ{i a d} h=>by
  have:=o1 i a d h;exact⟨λz=>(by rw[z,owL]at this;cases this.1),λz=>(by rw[z,owL]at this;cases this.2)⟩
 have keys:∀{a},a∈tr'.map (·.1)->a≠X.L->a∈(tr'.filter (λp=>decide (p.1≠X.L))).map (·.1):=λ{a} h z=>by
  refine aA (List.mem_map.mp h) λp hp e=>?_;have e:p.1=a:=e;exact List.mem_map.mpr ⟨p,List.mem_filter.mpr ⟨hp,by simp[e,z]⟩,e⟩
 have outL:∀p∈X.outs,p.1≠X.L:=λp hp z=>by
  refine aA (I.out p hp) λo h _=>?_;exact(I.nw _ h).2.1 z
 refine⟨J.sh,⟨lT (J.nw _ hL).1 nL,J.fr.keep,I.fr.above⟩,λp hp=>?_,?_,λi x v a b c=>?_,I.len,λp hp=>?_,λi o h=>?_,λp o a b=>?_,λa o h=>down ?_ (J.imm a o h),⟨ow,o1,o2,λp hp=>o3 p (bc _ hp),o4⟩,λi a d h=>?_,λp hp=>?_,J.cnt,J.num,⟨λb o e=>down (λz=>?_) (J.xok.has b o e),J.xok.out (X.L,m) (aL ..),λp hp=>J.xok.out p (bc _ hp),J.xok.wri,J.xok.g,J.xok.x,J.xok.f,J.xok.h,J.xok.v⟩⟩
 ·refine kN (List.mem_filter.mp hp) λhp z=>?_;have:=J.nw p hp;exact⟨this.1,by simpa using z,this.2.2⟩
 ·exact J.nd.sublist ((List.filter_sublist).map _)
 ·refine aA (I.loc i x v a b c) λw y z=>?_;exact⟨w,y,z.mono L⟩
 ·refine aA (J.out p (bc _ hp)) λo h1 h2=>?_;exact⟨o,mem h1 (outL p hp),h2⟩
 ·refine aJ (J.sto i o h) λa d r y=>?_;refine kN (nid r) λz1 z2=>?_;exact⟨a,d,r,OR.at (λ_ x=>down z1 x) (λ_ x=>down z2 x) y⟩
 ·refine ak (J.wri p o a b) λx y r u v=>?_;refine kN (nid r) λz1 z2=>?_;exact⟨x,y,r,keys u z1,keys v z2⟩
 ·intro z;have:=o2 a o h;rw[z,owL]at this;cases this
 ·refine kN (J.rng i a d h) λzz95 zz94=>?_;obtain⟨x',y'⟩:=zz94;obtain⟨x,y⟩:=zz95;refine kN (nid h) λz1 z2=>?_;exact⟨⟨x,down z1 y⟩,⟨x',down z2 y'⟩⟩
 ·refine aA (J.hel p hp) λo h1 h2=>?_;refine⟨o,mem h1 ?_,h2⟩;intro z;refine aA (I.hel p hp) λo' h3 _=>?_;exact(I.nw _ h3).2.1 z
 ·subst z;have:=J.xok.out (X.L,m) (aL ..);rw[show(hY X m L' env').xb.get? X.L=some o from e]at this;exact wT this
theorem ap.back {G G' vs vs' st st' m m' s s' tr tr' sl'} (I:ap Z X sl G vs st m s tr) (L:G.Le G') (J:ap Z (hY X m L' env') sl' G' vs' st' m' s' tr'):
  bg Z X sl G' vs st' m s':=⟨_,I.backA L J⟩
end
end
section
section
variable{Z:Zt} {X:Fx} {n:Nat} {sc:Scope} {sl:List Str}
theorem zr {h h':Heap} (u:h.UpToSlots h') (x:h.IsCell a (some v)):h'.IsCell a (some v):=by
 exact aA x λo h1 h2=>kX (u a o h1 λvs e=>by replace e:=(h2 ..)▸e;cases e) λsl h3=>⟨_,h3,h2⟩
theorem uI (hX:X.A.frames=some (X.fenv::X.outE)) (hf:env'.frame=some L') (h:Ip Z (hY X m L' env') x s)
  (hQ:∀s',Ip Z X x s'->s'.heap.Ns X.L m->Q () s'):wpAny M (X.A.deeper env') (leaving env' x) Q E s:=by
 refine gQ h λsh ho hc hb hfr zz96=>?_;obtain⟨e,a0,rfl,he,hs⟩:=zz96;have hA:(X.A.deeper env').frames=some (env'::X.fenv::X.outE):=Around.frames_deeper hX;have fin:∀h',X.xb.StaysIn h'->h'.FunFrames X.xb (env'::X.fenv::X.outE)->h'.TracedAtW X.xb e Z.decC a0 .none->s.heap.UpToSlots h'->Q () {s with heap:=h'}:=λh' k1 k2 k3 k4=>
  hQ _ ⟨by rw[sh],λp hp=>k4.ns (ho p (bc _ hp)),λp hp=>zr k4 (hc p hp),k1,k2.2.2,e,a0,rfl,he,.inr (.inl k3)⟩ (k4.ns (ho (X.L,m) (aL ..)))
 rcases hs with⟨oe,vs,h1,h2,h3,h4,h5⟩ |ht |ht
 ·refine wpAny_leaving_firstW hA hfr hf h1 hb he h3 h5 h4 λh' hl=>?_;refine jI hl λk1 k2 k3 k4=>?_;rw[h2]at k3;exact fin h' k1 k2 k3 k4
 ·refine wpAny_leaving_nextW hA hfr hf ht hb he λh' hl=>?_;refine jI hl λk1 k2 k3 k4=>?_;exact fin h' k1 k2 k3 k4
 ·unfold leaving;refine ae (wpAny_noteFrame_againW hf ht ?_);refine wpAny_landsW (base:=X.xb) (l:=env'::X.fenv::X.outE) ⟨hb,he,hfr,ht⟩ λh' hl k4=>?_;refine jI hl λk1 k2 k3 k5=>?_;exact fin h' k1 k3 k5.at k4
@[reducible] def pY (Q E:Value->Shared->Prop):Result->Shared->Prop:=λr s'=>match r with |.ok (.ret v)=>Q v s' |.ok _=>False |.error e=>E e s'
structure M6 (Z:Zt) (fa:Addr) (fd:FuncData) (body:List Stmt):Prop where
 obj:∃o,Z.K.lookup fa=some o/\o.data=.func fd
 body:fd.body=.stmts body
 code:∀h,Z.K.In h->h.CodeRec fd.code fd.qualname
 kind:fd.scope.kind=.function
 co:fd.scope.isCoroutine=false
 gen:fd.scope.isGenerator=false
 globals:fd.globals=mainGlobals
 builtins:fd.builtins=builtinsNs
 clos:fd.closure=[]
theorem wD:∀{l:List (Str×Value)},(l.map (·.1)).Nodup->(x,w)∈l->l.reverse.lookup x=some w:=by
 intro l nd h;have h':=List.mem_reverse.mpr h;have nd':(l.reverse.map (·.1)).Nodup:=aa List.map_reverse ((List.reverse_perm _).nodup_iff.mpr nd);generalize l.reverse=r at h' nd'
 induction r with
 |nil=>cases h'
 |cons p r ih=>
  rw[fy,List.nodup_cons]at nd';refine aa List.lookup_cons ?_;rcases bk.mp h' with e |e
  ·refine bI e ?_;simp
  ·have:(x==p.1)=false:=beq_eq_false_iff_ne.mpr λz=>nd'.1 (z▸List.mem_map_of_mem e);exact aa this (ih e nd'.2)
theorem HX {fa:Addr} {fd:FuncData} {body:List Stmt} {f:Ex} {ps sl':List Str} {as pad:List V} {ws ds:List Value} (KK:M6 Z fa fd body) (hb:jt Z n fd.scope sl' f body)
  (hcell:∀x∈fd.scope.names,x.2≠.cell) (hloc:∀x∈sl',fd.scope.names.lookup x=some .local) (hsl:sl'=ps++rest) (hnd:ps.Nodup)
  (F:FxOk Z X (n+1) sc) {G vs st m s} (I:bg Z X sl G vs st m s) (hlen:ps.length=(ws++ds).length)
  (hbind:∀s',Z.K.In s'.heap->BindsTo s' fd ⟨ws,[]⟩ (ps.zip (ws++ds))) (ha:F2 (VR Z.T Z.rg G) as ws) (hp:∃d,pad=d++List.replicate rest.length .unset/\F2 (VR Z.T Z.rg G) d ds)
  (y:f (cq as pad) st (uc k) kE=true):codeAny (model Z.prog Z.w) X.A (.call (.ref fa) ⟨ws,[]⟩) (pY (bf Z X sl G vs m k) (c6 Z X G.ν m kE)) s:=by
 refine hG λCC hCC=>?_;refine kX I λtr I=>?_;refine aA KK.obj λo ho hdat=>?_;refine aA hp λd ee97 hd=>?_;subst ee97;have XK:Z.K.In s.heap:=F.inK.keeps I.fr.keep;have hd1:=F.depth;refine hCC ?_;refine codeAny_call_def (fd:=fd) (body:=body) (binds:=ps.zip (ws++ds)) (by unfold recursionLimit;lia) (XK _ _ ho) hdat (F.top.nolimit.keeps I.fr.keep) (KK.code _ XK) KK.body (hbind s XK) hcell (λx hx=>?_) (λh₁ hns hk=>?_) KK.co KK.gen KK.kind
 ·refine hloc x.1 ?_;rw[hsl];exact List.mem_append_left _ (List.of_mem_zip (show(x.1,x.2)∈_ from hx)).1
 have hlf:=ha.length;have hdf:=hd.length;rw[cX]at hlen;have key:∀(i:Nat) (x:Str) (v:V),sl'[i]?=some x->(cq as (d++List.replicate rest.length .unset))[i]?=some v->v≠.unset->(callEnv fd s.heap.objs.size fa).kindOf x=some .local/\∃w,(ps.zip (ws++ds)).reverse.lookup x=some w/\VR Z.T Z.rg G v w:=λi x v h1 h2 h3=>by
  have hm:x∈sl':=List.mem_of_getElem? h1;refine⟨hloc x hm,?_⟩;rw[aX,<-List.append_assoc]at h2;have hlt:i<ps.length:=by
   by_cases z:i<ps.length
   ·exact z
   ·rw[List.getElem?_append_right (by rw[cX];simpa[hlen,hlf,hdf,z]using z)]at h2;have:=List.mem_of_getElem? h2;exact absurd (List.eq_of_mem_replicate this) h3
  rw[List.getElem?_append_left (by rw[cX];simpa[hlen,hlf,hdf,hlt]using hlt)]at h2;rw[hsl,List.getElem?_append_left hlt]at h1;refine aA ((ha.app hd).get h2) λw g1 g2=>?_;refine⟨w,wD (by rw[List.map_fst_zip (by rw[cX];exact Nat.le_of_eq hlen)];exact hnd) ?_,g2⟩;have hz:(ps.zip (ws++ds))[i]?=some (x,w):=by rw[List.getElem?_zip_eq_some];exact⟨h1,g1⟩
  exact List.mem_of_getElem? hz
 refine kX (I.enter (env':=callEnv fd s.heap.objs.size fa) (sl':=sl') (vs':=cq as (d++List.replicate rest.length .unset)) (tk:=s.toks+(ps.zip (ws++ds)).length) hns hk (by rw[aX,hsl];simp only[cX,List.length_replicate];simp+arith [hlen,hlf,hdf]) key) λoL J=>?_;have F':E9 Z (hY X m s.heap.objs.size (callEnv fd s.heap.objs.size fa)) n fd.scope:=by
  refine⟨⟨F.inK,F.top,Around.frames_deeper F.frames,F.handled,?_,?_,rfl,rfl,?_,rfl,KK.kind,KK.globals,KK.builtins,?_,?_⟩,rfl⟩
  ·show X.A.depth+1+2*n+20<600;lia
  ·show X.A.units+3+40*n+200<cLine;have:=F.units;lia
  ·show fd.scope.kind≠.module;rw[KK.kind];decide
  ·intro e he;rcases bk.mp he with rfl |he
   ·exact F.fkind
   ·exact F.outK e he
  ·intro e he;rcases bk.mp he with rfl |he
   ·exact⟨_,rfl,.inl rfl⟩
   ·refine aA (F.frs e he) λa h1 h2=>?_;exact⟨a,h1,.inr (h2.elim (λh=>by rw[h];exact aL ..) λh=>bc _ h)⟩
 refine aq (hb _ F' G _ st _ _ (uc k) kE ⟨_,J⟩ y) (λfl s' z=>?_) λx s' z=>?_
 ·refine jN z λfl' G1 rP st1 m1 R L1 y1 zz98=>?_;obtain⟨tr1,J1⟩:=zz98
  induction R using Fi.casesOn with
  |next=>exact⟨G1,.none,st1,L1,.none,y1,I.back L1 J1⟩
  |cont=>exact ao y1
  |ret h=>exact⟨G1,_,st1,L1,h,y1,I.back L1 J1⟩
 ·refine kN z λfly zz99=>?_;obtain⟨ν',st',r⟩:=zz99;exact uI (Z:=Z) F.frames rfl fly λs'' f1 f2=>⟨⟨f1,ν',st',r⟩,f2⟩
end
end
section
section
variable{Z:Zt} {n:Nat} {sc:Scope} {sl:List Str}
def iY (Z:Zt) (n:Nat) (f:Fn) (fa:Addr) (na:Nat) (pad:List V):Prop:=∀sc sl X,FxOk Z X (n+1) sc->∀G vs st m s (k:K) (kE:KE) as ws,bg Z X sl G vs st m s->F2 (VR Z.T Z.rg G) as ws->ws.length=na->dy f as pad st k kE->
 codeAny (model Z.prog Z.w) X.A (.call (.ref fa) ⟨ws,[]⟩) (pY (bf Z X sl G vs m k) (c6 Z X G.ν m kE)) s
theorem FxOk.less {X:Fx} (F:FxOk Z X n sc) (h:n'<=n):FxOk Z X n' sc:={F with depth:=by have:=F.depth;lia,units:=by have:=F.units;lia}
theorem iY.up (h:iY Z n f fa na pad) (hn:n<=n'):iY Z n' f fa na pad:=λsc sl X F=>h sc sl X (F.less (Nat.add_le_add_right hn 1))
theorem iY.plain (KK:M6 Z fa fd body) (hb:jt Z n fd.scope (ps++rest) b body)
  (hcell:∀x∈fd.scope.names,x.2≠.cell) (hloc:∀x∈ps++rest,fd.scope.names.lookup x=some .local) (hnd:ps.Nodup) (hna:ps.length=na+ds.length)
  (hbind:∀ws:List Value,ws.length=na->∀s',Z.K.In s'.heap->BindsTo s' fd ⟨ws,[]⟩ (ps.zip (ws++ds))) (hd:∀G,F2 (VR Z.T Z.rg G) d ds):
  iY Z n ⟨az,b⟩ fa na (d++List.replicate rest.length .unset):=λsc sl X F G vs st m s k kE as ws I ha hw y=>
 HX KK hb hcell hloc rfl hnd F I (by refine aa cX (aa hw ?_);exact hna) (hbind ws hw) ha ⟨d,rfl,hd G⟩ y
theorem jD {id:Str} 
  (h:wpAny M A (eval (.Name id p) env) (λf s₁=>wpAny M A (callWith pos f [] (backTo pos (starEach args env)) []) Q E s₁) E s):wpAny M A (eval (.Call (.Name id p) args [] pos) env) Q E s:=wpAny_Call_Name_kw h
theorem fQ {G vs st m s} (F:FxOk Z X n sc) (hk:keepIn Z.K f) (h:eD Z n sc sl l es) (I:bg Z X sl G vs st m s) (y:Fg l vs st k kE=true)
  (hE:∀e s',c6 Z X G.ν m kE e s'->E e s') (next:∀ws s',EK Z X sl G vs m es.length k ws s'->wpAny (model Z.prog Z.w) X.A (call f (first++ws)) Q E s'):
  wpAny (model Z.prog Z.w) X.A (callWith pos f first (backTo pos (starEach es X.env)) []) Q E s:=by
 have inK:∀{G vs st m s},bg Z X sl G vs st m s->Z.K.In s.heap:=λI=>kX I λtr I=>F.inK.keeps I.fr.keep;have run:=aq (sR (pos:=pos) h F I y) (λws s' z=>(show Z.K.In s'.heap/\wpAny (model Z.prog Z.w) X.A (call f (first++ws)) Q E s' from⟨by refine gn (id z) λG' l' st' _ _ _ J _=>?_;exact inK J,next ws s' z⟩)) hE
 induction h using eD.casesOn with
 |nil=>
  exact callWith_K0 (inK I) hk (next [] s ⟨G,[],st,Gh.Le.refl G,.nil,y,I,rfl⟩)
 |cons h hs r=>
  refine callWith_K F.inK hk run (hs _ _) ?_;have:∀{l:List Ev} {es:List Expr},eD Z n sc sl l es->(backTo pos (starEach es X.env)).any (·.1)=false:=λ{l es} h=>by
   induction h with
   |nil=>rfl
   |cons h hs r ih=>
    refine aa (hs ..) ?_;refine aa ih ?_;rfl
  exact this r
theorem PB (hf:iY Z n f fa es.length pad) (h:eD Z (n+1) sc sl l es) (hg:nsIn Z.K mainGlobals g=some (some (.ref fa))) (hk:keepIn Z.K (.ref fa))
  (hx:sc.names.lookup g=some .globalImplicit) (hd:(g==("__debug__":Str))=false):av Z (n+1) sc sl (eF f l pad) (.Call (.Name g p) es [] pos):=λX F G vs st m s k kE I y=>by
 have I0:=I;refine I.k λtr I=>?_;refine jD (nameG_K I.fr F.inK F.top hg ?_ F.globals (by refine aa F.scope ?_;exact F.kind) (by show X.env.scope.names.lookup g=_;refine aa F.scope ?_;exact hx) hd);exact fQ F hk h I0 y (λ_ _ z=>z) λws s' z=>gn z λG1 as st1 L1 r1 y1 I1 hl=>aq (wpAny_call (hf sc sl X F G1 vs st1 m s' k kE as ws I1 r1 hl y1)) (λ_ _ z=>z.up L1) λ_ _ z=>z.up L1.ν
end
end
section
section
variable{Z:Zt} {n:Nat} {sc:Scope} {sl:List Str}
def yh (mid:Nat) (name:Str):Prop:=(mid<44/\name=b9 mid)\/∀f,f<44->b9 f≠name
set_option tactic.hygienic true in
theorem FR.miss {G:Gh} {T:cW} {rg:Addr} {mid:Nat} {name:Str} (hm:yh mid name) {fs:List (Nat×V)} {es:List DictEntry} (h:FR T rg G fs es) (e:gE fs mid=none):getL name es=some none:=by
 rcases hm with⟨h1,rfl⟩ |hm
 ·have:=h.get mid h1;rw[e]at this;exact this
 ·clear e
  induction h with
  |nil=>rfl
  |cons h t ih=>
   refine iP h λh1 zz100 h3=>?_;obtain⟨t',h2⟩:=zz100
   rename_i p e l r
   have k1:e.key.isStr name=false:=by rw[h2];exact beq_eq_false_iff_ne.mpr (hm _ h1)
   have k2:e.refKey=false:=by unfold DictEntry.refKey;rw[h2]
   unfold getL at ih ⊢;rw[List.find?_cons,k1,List.any_cons,k2,Bool.false_or];exact ih
inductive A8 (Z:Zt) (n:Nat) (na:Nat) (name:Str):List Mt->Prop
 |nil:A8 Z n na name []
 |cons {c:Nat} {f:Fn} {pad:List V} {l:List Mt} {fa:Addr} (hc:plainGet Z.K (Z.cls c) name) (hf:findIn Z.K (.ref (Z.cls c)) name=some (some (.ref fa))) (ht:isFn Z.K (.ref fa)) (hk:keepIn Z.K (.ref fa))
   (h:iY Z n f fa (na+1) pad) (r:A8 Z n na name l):A8 Z n na name ((c,f,pad)::l)
theorem Li:∀{tab:List Mt},A8 Z n na name tab->Qy c tab k=true->E3 λf pad fa=>k f pad=true/\plainGet Z.K (Z.cls c) name/\findIn Z.K (.ref (Z.cls c)) name=some (some (.ref fa))/\
  isFn Z.K (.ref fa)/\keepIn Z.K (.ref fa)/\iY Z n f fa (na+1) pad:=by
 intro tab h e
 induction h with
 |nil=>exact ao e
 |@cons c' f pad l fa hc hf ht hk h r ih=>
  have e:ah (Nat.beq c' c) (k f pad) (Qy c l k)=true:=e;refine bA e (λe2 q=>?_) λe2 _=>?_
  ·have:=gB q;exact bI this (⟨f,pad,fa,e2,hc,hf,ht,hk,h⟩)
  ·exact ih e2
theorem Py {mid:Nat} {name:Str} {a:Ev} {o:Expr} {tab:List Mt} {l:List Ev} {es:List Expr} {apos pos} (hm:yh mid name) (ha:av Z (n+1) sc sl a o) (ht:A8 Z n es.length name tab) (h:eD Z (n+1) sc sl l es)
  (he:∀env,∃pl,eval (.Call (.Attribute o name apos) es [] pos) env=(do
   let ov <-eval o env
   standAt apos.atName
   let(f,first) <-holding [ov] (getMethod ov name pl)
   callWith pos f first (backTo pos (starEach es env)) (backToKw pos (keywordEach [] env)))):av Z (n+1) sc sl (eM mid a tab l) (.Call (.Attribute o name apos) es [] pos):=λX F G vs st m s k kE I y=>by
 refine kX (he X.env) λpl he=>?_;refine methodCall_KW (ha.w0 F I y λw1 s1 G1 v1 st1 L1 r1 y1 I1=>?_) he;have I0:=I1;refine I1.k λtr I1=>?_;refine CT (hZ y1) λp c fs ee101 ho e=>?_;subst ee101;have e:ag (gE fs mid) (Qy c tab (Um l (.ref p) vs st1 k kE)) (λ_=>false)=true:=e;cases q:gE fs mid with
 |some v=>replace e:=q▸e;exact ao e
 |none=>
  rw[q]at e;refine CS (Li ht e) λf pad fa y2 t1 t2 t3 t4 hf=>?_;refine aJ (I1.sto p _ ho) λa' d hr zz102=>?_;obtain⟨hc,es',nn,h1,h2,h3⟩:=zz102;have r0:=r1
  induction r1 using VR.kref with
  |ref b d' hr'=>
   replace hr':=(hr ..)▸hr';refine kN (fE hr') λee103 ee104=>?_;subst ee103;refine method_inst I1.fr F.inK ⟨I1.get h1,rfl,rfl,I1.get h2⟩ t1 t2 t3 (h3.miss hm q) ?_;exact fQ F t4 h I0 y2 (λ_ _ z=>z.up L1.ν) λws s' z=>gn z λG2 as st2 L2 r2 y3 I2 hl=>aq (wpAny_call (hf sc sl X F G2 vs st2 m s' k kE (.ref p::as) (.ref a'::ws) I2 (.cons (r0.mono L2) r2) (by simp[hl]) y3)) (λ_ _ z=>z.up (L1.trans L2)) λ_ _ z=>z.up (L1.trans L2).ν
end
end
section
section
variable{Z:Zt} {X:Fx} {n:Nat} {sc:Scope} {sl:List Str}
def tC (Z:Zt) (X:Fx) (x:Value) (s:Shared):Prop:=
 s={Z.s₀ with heap:=s.heap,toks:=s.toks}/\(∀p∈X.outs,s.heap.Ns p.1 p.2)/\(∀p∈X.held,s.heap.IsCell p.1 (some p.2))/\X.xb.StaysIn s.heap/\s.heap.FunFrames X.xb (X.fenv::X.outE)/\
 E2 λe a0=>A3 (x=.ref e) (X.xb.get? e=none) (s.heap.TracedAtW X.xb e Z.decC a0 (rawInt X.fL))
theorem tC.fly (h:tC Z X x s):Ip Z X x s:=gQ h λa b c d e z=>ak z λf g h i j=>⟨a,b,c,d,e,f,g,h,i,.inr (.inr j)⟩
theorem Ip.up (h:Ip Z X x s) (hx:x=.ref e) (he:X.xb.get? e=none) (k1:X.xb.StaysIn h') (k2:h'.FunFrames X.xb (X.fenv::X.outE)) (k3:h'.TracedAtW X.xb e Z.decC a0 (rawInt X.fL)) (k4:s.heap.UpToSlots h'):
  tC Z X x {s with heap:=h'}:=by
 exact gQ h λsh ho hc hb hfr _=>⟨by rw[sh],λp hp=>k4.ns (ho p hp),λp hp=>zr k4 (hc p hp),k1,k2,e,a0,hx,he,k3⟩
theorem yF (hE:X.fenv=X.env) (hA:A.frames=some (X.fenv::X.outE)) (hf:X.env.frame=some X.fL) (h:Ip Z X x s)
  (hQ:∀s',tC Z X x s'->s.heap.UpToSlots s'.heap->Q () s'):wpAny M A (noteFrame x X.env) Q E s:=by
 have h0:=h;refine gQ h λsh ho hc hb hfr zz105=>?_;obtain⟨e,a0,rfl,he,hs⟩:=zz105;rw[hE]at hA hfr;rcases hs with⟨oe,vs,h1,h2,h3,h4,h5⟩ |ht |ht
 ·unfold noteFrame;refine aa hf ?_;refine ae (wpAny_field h1 h3 h5 ?_);refine wpAny_entryW hA hfr hf h1 hb he h3 (Array.getElem?_eq_some_iff.mp h5).1 h4 λh' hl=>?_;refine jI hl λk1 k2 k3 k4=>?_;rw[h2]at k3;exact hQ _ (h0.up rfl he k1 (by refine aa hE ?_;exact k2) k3 k4) k4
 ·exact wpAny_noteFrame_onW hA hfr hf ht hb he λh' hl=>jI hl λk1 k2 k3 k4=>hQ _ (h0.up rfl he k1 (by refine aa hE ?_;exact k2) k3 k4) k4
 ·exact wpAny_noteFrame_againW hf ht (hQ _ ⟨sh,ho,hc,hb,by rw[hE];exact hfr,e,a0,rfl,he,ht⟩ (Heap.UpToSlots.refl _))
theorem AH (h:tC Z X x s) (hQ:∀s',tC Z X x s'->s.heap.UpToSlots s'.heap->Q () s'):wpAny M A (setFlight x (some X.fL)) Q E s:=by
 have h0:=h.fly;refine gQ h λsh ho hc hb hfr zz106=>?_;obtain⟨e,a0,rfl,he,ht⟩:=zz106;refine oR ht λoe vs T oT ts h1 hcls hd h2 hnT hTe hT hdT h3=>?_;have hsz3:3<ts.size:=(Array.getElem?_eq_some_iff.mp h3).1;have other:∀b,b≠T->(s.heap.update T (Obj.mapFields (·.setIfInBounds 3 ((some X.fL:Option Addr).elim Value.none λf=>rawInt f)))).get? b=s.heap.get? b:=
  λb hb=>Heap.get?_update_other _ _ (Ne.symm hb)
 have noRecord:∀b o,s.heap.get? b=some o->(∀vs,o.data≠.fields vs)->b≠T:=λb o hb hnf q=>by
  rw[q,hT]at hb;injection hb with hb;subst hb;exact hnf ts hdT
 unfold setFlight;refine ae (wpAny_field h1 hd h2 ?_);rw[if_pos (show(Value.ref T !=Value.none) from by simp)];have u:s.heap.UpToSlots (s.heap.update T (Obj.mapFields (·.setIfInBounds 3 ((some X.fL:Option Addr).elim Value.none λf=>rawInt f)))):=λb o hb hn=>⟨o.slots,(other b (noRecord b o hb hn)).trans hb⟩;refine wpAny_setField hT hdT hsz3 (hQ _ (h0.up (a0:=a0) rfl he (λb o hbo=>(other b λq=>by rw[q,hnT]at hbo;exact bd hbo).trans (hb b o hbo))
  (hfr.of_keeps λb o hb hnf=>⟨o,(other b (noRecord b o hb hnf)).trans hb,rfl⟩) ?_ u) u)
 exact⟨oe,vs,T,_,_,(other e (Ne.symm hTe)).trans h1,hcls,hd,h2,hnT,hTe,Heap.get?_update_self _ hT (Obj.isFreed_of_fields (Obj.data_mapFields hdT _)),Obj.data_mapFields hdT _,by simp[hsz3]⟩
theorem zw (hf:X.env.frame=some X.fL) (h:tC Z X x s) (hQ:∀s',tC Z X x s'->s.heap.UpToSlots s'.heap->E x s'):cameBackBy M A X.env E x s:=by
 refine gQ h λsh ho hc hb hfr zz107=>?_;obtain⟨e,a0,rfl,he,ht⟩:=zz107;refine xp ht λoe vs T oT ts h1 hcls hd h2 hr=>?_;refine ae (wpAny_field h1 hd h2 ?_);exact aa hf (AH h hQ)
theorem IV {R:Result->Shared->Prop} (hE:X.fenv=X.env) (hA:A.frames=some (X.fenv::X.outE)) (hf:X.env.frame=some X.fL) (h:i0 Z X ν kE x s)
  (hR:∀s',tC Z X x s'->(E2 λν' st'=>A3 (ν <+:ν') (dn ν' st') (kE st'=true))->R (.error x) s'):notedBy (model Z.prog Z.w) A X.env (λe s'=>R (.error e) s') x s:=by
 refine kN h λf r=>?_;exact yF hE hA hf f λs' g _=>hR s' g r
theorem JZ {c:Cd} {b:Ex} {e:Expr} {body:List Stmt} {pos} (hc:dT Z n sc sl c e) (hb:jt Z n sc sl b body):ca Z n sc sl (QR c b) (.While e body [] pos):=λX F G vs st m s k kE I y=>by
 refine wpAny_While (codeAny_whileLoop (λfuel s=>E4 λG' vs' st' m'=>A3 (G.Le G') (bg Z X sl G' vs' st' m' s) (rO fuel c b vs' st' k kE)) (λfuel s1 z=>?_) FW ⟨G,vs,st,m,Gh.Le.refl G,I,y⟩);refine yT z λG1 rP st1 m1 L1 I1 y1=>?_;have back:∀{ν x s'},G.ν <+:ν->i0 Z X ν kE x s'->notedBy (model Z.prog Z.w) X.A X.env (λe s'=>cameBackBy (model Z.prog Z.w) X.A X.env (i0 Z X G.ν kE) e s') x s':=λ{ν x s'} p h=>
  IV (R:=λr s'=>match r with |.ok _=>False |.error e=>cameBackBy (model Z.prog Z.w) X.A X.env (i0 Z X G.ν kE) e s') F.same F.frames F.frame h λs'' g r=>zw F.frame g λs3 g' _=>⟨g'.fly,ak r λa b p' q t=>⟨a,b,p.trans p',q,t⟩⟩
 cases fuel with
 |zero=>exact ao y1
 |succ fuel=>
  have y1:c rP st1 (Tq (rO fuel c b) b rP k kE) kE:=y1;refine aq (hc X F.toFxOk G1 rP st1 m1 s1 _ kE I1 y1) (λr s2 z=>?_) λx s' z=>back L1.ν z.1;refine ak z λG2 st2 L2 y2 I2=>?_;have L12:=L1.trans L2;cases r with
  |false=>exact wpAny_execs_nil ((iU.go I2 y2).up L12)
  |true=>
   refine aq (hb X F G2 rP st2 m1 s2 _ kE I2 y2) (λf s3 z=>?_) λx s' z=>back L12.ν z;refine jN z λfl G3 vs3 st3 m3 R L3 y3 I3=>?_
   induction R using Fi.casesOn with
   |next=>exact⟨fuel,Nat.lt_succ_self _,G3,vs3,st3,m3,L12.trans L3,I3,y3⟩
   |cont=>exact⟨fuel,Nat.lt_succ_self _,G3,vs3,st3,m3,L12.trans L3,I3,y3⟩
   |ret h=>exact⟨.ret _,G3,vs3,st3,m3,.ret h,L12.trans L3,y3,I3⟩
end
end
section
theorem vB (x y:Int) (j:Nat) (h:y+1=2 ^ j):Builtin.bitAnd x y=Int.fmod x (2 ^ j):=by
 have hp:(0:Int)<2 ^ j:=Int.pow_pos (by decide);have hy:0<=y:=by lia
 have hc:((2 ^ j:Nat):Int)=2 ^ j:=by refine aa (Int.natCast_pow ..) ?_;rfl
 have hyn:y.toNat=2 ^ j-1:=by lia
 refine aa (Int.fmod_eq_emod_of_nonneg _ (Int.le_of_lt hp) ..) ?_;unfold Builtin.bitAnd;refine aa (dX hy) ?_
 by_cases hx:0<=x
 ·rw[dX hx];simp only[];refine aa hyn (aa (Nat.and_two_pow_sub_one_eq_mod ..) (aa (Int.natCast_emod ..) (aa hc ?_)));rw[Int.toNat_of_nonneg hx]
 ·rw[fz hx];simp only[];have hb:(Builtin.bitNot x)= -x-1:=by unfold Builtin.bitNot;rfl
  have hb0:0<= -x-1:=by lia
  refine aa hb (aa hyn (aa (Nat.and_comm ..) (aa (Nat.and_two_pow_sub_one_eq_mod ..) (aa (Int.natCast_emod ..) (aa hc (aa (Int.toNat_of_nonneg hb0) ?_))))));have e2:=Int.emod_lt_of_pos (-x-1) hp;have e3:=Int.mul_ediv_add_emod (-x-1) (2 ^ j);have key:x=(2 ^ j)*(-((-x-1) / 2 ^ j)-1)+(y-(-x-1)%2 ^ j):=by
   lia
  have k2:x%2 ^ j=(y-(-x-1)%2 ^ j)%2 ^ j:=by
   conv=>lhs;rw[key]
   rw[Int.mul_add_emod_self_left]
  exact aa k2 ((Int.emod_eq_of_lt (by lia) (by omega)).symm)
theorem vA (x y:Int) (hx:0<=x) (hy:0<=y) (h:x=0\/∃j:Nat,x<2 ^ j/\∃q,y=2 ^ j*q):Builtin.bitOr x y=x+y:=by
 have e:Builtin.bitOr x y=((x.toNat|||y.toNat)):=by
  have n1:Builtin.bitNot x<0:=by unfold Builtin.bitNot;simp+arith [hx]
  have n2:Builtin.bitNot y<0:=by unfold Builtin.bitNot;simp+arith [hy]
  unfold Builtin.bitOr Builtin.bitAnd;refine aa (fz (by simpa using n1) ..) (aa (fz (by simpa using n2) ..) ?_);dsimp only[Builtin.bitNot];simp+arith
 refine aa e ?_;rcases h with rfl |⟨j,h1,q,h2⟩
 ·simp;exact Int.max_eq_left hy
 ·have hp:(0:Int)<2 ^ j:=Int.pow_pos (by simp);have hc:((2 ^ j:Nat):Int)=2 ^ j:=by refine aa (Int.natCast_pow ..) ?_;rfl
  have hq:0<=q:=by
   by_cases z:0<=q
   ·exact z
   ·have:=Int.mul_neg_of_pos_of_neg hp (show q<0 by exact Int.lt_of_not_ge z);lia
  have hyn:=by
   have:(y.toNat:Int)=((2 ^ j*q.toNat:Nat)):=by
    rw[Int.toNat_of_nonneg hy,Int.natCast_mul,hc,Int.toNat_of_nonneg hq,h2]
   exact_mod_cast this
  have hxn:x.toNat<2 ^ j:=by simp_all
  refine aa (Nat.or_comm ..) (aa hyn (bI (Nat.two_pow_add_eq_or_of_lt hxn ..) ?_));omega
section
variable{Z:Zt}
theorem MP:iW Z Go .BitAnd:=λn sc sl X F G vs st m s k E a b w1 w2 I h1 h2 e=>by
 exact mC h1 h2 e λx t y u hx hy=>aA (Gn I.num hx hy e) λj g r=>and_int (by refine aa (vB x y j g) ?_;exact .int (I.toks _) _ r)
theorem NT:iW Z Qv .BitOr:=λn sc sl X F G vs st m s k E a b w1 w2 I h1 h2 e=>by
 exact mC h1 h2 e λx t y u hx hy=>jI (KN I.num hx hy e) λg1 g2 g3 r=>or_int (by refine aa (vA x y g1 g2 g3) ?_;exact .int (I.toks _) _ r)
end
end
section
section
variable{prog:Program} {w:World} {A:Around} {E:Value->Shared->Prop} {s:Shared}
theorem rS {Q:Option Value->Shared->Prop} (hh:A.handled=none) (ho:s.heap.get? it=some o) (hfr:(f o).isFreed=false)
  (hQ:∀h',h'.get? it=some (f o)->Heap.ExtBut it s.heap h'->Q none {s with heap:=h'}):
  wpAny (model prog w) A.in1 (newExc (.type "StopIteration") []>>=λe=>raiseNew e)
   (λ(_:Fin) _=>False) (λe s'=>wpAny (model prog w) A (isInstance e (.type "StopIteration")) (λb s''=>b/\Q none s'') E s') {s with heap:=s.heap.update it f}:=by
 refine ae ?_;simp only[newExc,newTuple];refine ae (wpAny_newObj_type ?_ (by size_fits));refine ae (m:=firstArgMember _ _) (wpAny_of_eq (a:=Value.none) (by first |rfl |(simp only[firstArgMember];rfl)) ?_);refine wpAny_newObj_type ?_ (by size_fits);simp only[raiseNew];refine ae (wpAny_handled ?_);rw[show A.in1.handled=none from hh];refine ae (aR (wpAny_throw ?_));refine wpAny_isInstance (T:="StopIteration") (b:=true) ⟨_,Heap.get?_push_size _ rfl,rfl⟩ isSubtype_stop ⟨rfl,?_⟩;exact hQ _ (eX _ (eX _ (Heap.get?_update_self _ ho hfr))) (((Heap.SameBut.update ..).extBut.push _).push _)
theorem qk {i:Nat} {o:Obj} (hh:A.handled=none) (ho:s.heap.get? it=some o) (hc:o.cls=.type "list_iterator") (hd:o.data=.fields #[.ref l,.int i 0])
  (hl:s.heap.IsList l items) (hx:items[i]?=none)
  (hQ:∀h' o',h'.get? it=some o'->Heap.ExtBut it s.heap h'->Q none {s with heap:=h'}):wpAny (model prog w) A (pyNext (.ref it)) Q E s:=by
 have hit:s.heap.IsListIter it l i:=⟨o,ho,hc,hd⟩;refine gD hl λol hol _ zz112=>?_;refine kX zz112 λnl hdl=>?_;refine ae (wpAny_attempt (wpAny_callSpecial?_slot hit.typeIs slot_listiter_next
  (wpAny_call_entry slot_listiter_next hit.typeIs entry_listiter_next ?_ (args_listiter_next _))))
 show wpAny _ _ (field (.ref it) 0>>=_) _ _ s;refine ae (wpAny_field ho hd (x:=.ref l) rfl ?_);refine ae (wpAny_field ho hd (x:=.int i 0) rfl ?_);refine ae (wpAny_seqItems hol hdl ?_);simp only[Int.toNat_natCast,hx];refine ae (wpAny_rule (ae (wpAny_setField ho hd (by simp) ?_)));refine aq (rS (E:=E) hh ho (Obj.isFreed_of_fields (Obj.data_mapFields hd _)) λh' g u=>hQ h' _ g u) (λ_ _ z=>z.elim) λe s' z=>?_;refine ae (aq z (λb s'' y=>?_) λ_ _ y=>y);obtain⟨rfl,y⟩:=y;exact aR y
theorem n8 {i:Nat} {o:Obj} (hh:A.handled=none) (ho:s.heap.get? it=some o) (hc:o.cls=.type "tuple_iterator") (hd:o.data=.fields #[.ref l,.int i 0])
  (hl:s.heap.IsTuple l items) (hx:items[i]?=none)
  (hQ:∀h' o',h'.get? it=some o'->Heap.ExtBut it s.heap h'->Q none {s with heap:=h'}):wpAny (model prog w) A (pyNext (.ref it)) Q E s:=by
 have hit:s.heap.IsTupleIter it l i:=⟨o,ho,hc,hd⟩;refine gD hl λol hol _ zz113=>?_;refine kX zz113 λnl hdl=>?_;refine ae (wpAny_attempt (wpAny_callSpecial?_slot hit.typeIs F.slot_tuple_iterator_next
  (wpAny_call_entry F.slot_tuple_iterator_next hit.typeIs F.entry_tuple_iterator_next ?_ (F.args_tuple_iterator_next_1 _))))
 show wpAny _ _ (field (.ref it) 0>>=_) _ _ s;refine ae (wpAny_field ho hd (x:=.ref l) rfl ?_);refine ae (wpAny_field ho hd (x:=.int i 0) rfl ?_);refine ae (wpAny_seqItems hol hdl ?_);simp only[Int.toNat_natCast,hx];refine ae (wpAny_rule (ae (wpAny_setField ho hd (by simp) ?_)));refine aq (rS (E:=E) hh ho (Obj.isFreed_of_fields (Obj.data_mapFields hd _)) λh' g u=>hQ h' _ g u) (λ_ _ z=>z.elim) λe s' z=>?_;refine ae (aq z (λb s'' y=>?_) λ_ _ y=>y);obtain⟨rfl,y⟩:=y;exact aR y
theorem BJ {Q:Option Value->Shared->Prop} (hh:A.handled=none) (ho:s.heap.get? it=some o) (hQ:∀h',h'.get? it=some o->Heap.ExtBut it s.heap h'->Q none {s with heap:=h'}):
  wpAny (model prog w) A.in1 ((newExc (.type "StopIteration") []>>=λe=>raiseNew e):Sem α)
   (λ(_:α) _=>False) (λe s'=>wpAny (model prog w) A (isInstance e (.type "StopIteration")) (λb s''=>b/\Q none s'') E s') s:=by
 refine ae ?_;refine ae (m:=firstArgMember _ _) (wpAny_of_eq (a:=Value.none) (by first |rfl |(rw[firstArgMember];rfl)) ?_);refine wpAny_newObj_type ?_ (by size_fits);refine ae (wpAny_handled ?_);refine aa hh ?_;refine ae (aR (wpAny_throw ?_));refine wpAny_isInstance ⟨_,Heap.get?_push_size _ rfl,rfl⟩ isSubtype_stop ⟨rfl,?_⟩;exact hQ _ (eX _ (eX _ ho)) (((Heap.ExtBut.refl it s.heap).push _).push _)
theorem n9 {x left step:Int} (hh:A.handled=none) (hit:IsRangeIter s.heap it x left step) (hleft:left<=0)
  (hQ:∀h' o',h'.get? it=some o'->Heap.ExtBut it s.heap h'->Q none {s with heap:=h'}):wpAny (model prog w) A (pyNext (.ref it)) Q E s:=by
 have hT:s.TypeIs (.ref it) "range_iterator":=⟨_,hit,rfl⟩;refine ae (wpAny_attempt (wpAny_callSpecial?_slot hT F.slot_range_iterator_next
  (wpAny_call_entry F.slot_range_iterator_next hT F.entry_range_iterator_next ?_ (F.args_range_iterator_next_1 _))))
 show wpAny _ _ (field (.ref it) 0>>=_) _ _ s;refine ae (wpAny_field hit rfl (x:=rawInt x) rfl ?_);refine ae (wpAny_field hit rfl (x:=rawInt left) rfl ?_);refine ae (wpAny_field hit rfl (x:=rawInt step) rfl ?_);show wpAny _ _ (if left<=0 then _ else _) _ _ s;refine aa (if_pos hleft) ?_;refine ae (wpAny_rule ?_);refine ae ?_;refine aq (BJ (E:=E) hh hit λh' g u=>hQ h' _ g u) (λ_ _ z=>z.elim) λe s' z=>?_;refine ae (aq z (λb s'' y=>?_) λ_ _ y=>y);obtain⟨rfl,y⟩:=y;exact aR y
end
end
section
theorem Ma {L b:Addr} {m:jF} (F:Fr h₀ L h m) (he:Heap.ExtBut b h h') (hL:b≠L) (hn:h₀.get? b=none):Fr h₀ L h' m:=
 ⟨F.ns.at' λo e=>he L o (Ne.symm hL) e,λc o e=>he c o (λz=>by rw[z,hn]at e;exact bd e) (F.keep c o e),F.above⟩
theorem uq {L b:Addr} (N:News h₀ L h tr) (he:Heap.ExtBut b h h') (ho:h'.get? b=some o):News h₀ L h' (setT tr b o):=by
 intro q hq;refine aA (List.mem_map.mp hq) λp hp ee114=>?_;subst ee114
 by_cases e:p.1=b
 ·simp only[e];exact⟨ho,e▸(N p hp).2.1,e▸(N p hp).2.2⟩
 ·simp only[e];exact⟨he p.1 p.2 e (N p hp).1,(N p hp).2.1,(N p hp).2.2⟩
section
variable{Z:Zt} {X:Fx} {n:Nat} {sc:Scope} {sl:List Str}
def JT (s:Shared) (a:Addr):Prop:=∀(M:Model) (A:Around) (tg:Expr) (v:Value) (Q:Unit->Shared->Prop) (E:Value->Shared->Prop),Q () s->wpAny M A (letOwnedTupleGo tg (.ref a) v) Q E s
theorem kZ {s:Shared} {a:Addr} {o:Obj} {T:String} (ho:s.heap.get? a=some o) (hc:o.cls=.type T) (hT:["enumerate","zip","dict_itemiterator","dict_reverseitemiterator","odict_iterator","itertools.zip_longest","itertools.pairwise"].contains T=false):JT s a:=λM A tg v Q E h=>by
 have core:wpAny M A (match (Value.ref a,v)with
  |(.ref r,.ref b)=>do
   let o <-load r
   match o.cls,o.data with
   |.type n,.fields vs=>
    if["enumerate","zip","dict_itemiterator","dict_reverseitemiterator","odict_iterator","itertools.zip_longest","itertools.pairwise"].contains n&&vs[0]?==some (rawInt b)then
     rule "for.unpacks-the-owned-tuple"
     updateField r 0 .none
   |_,_=>pure ()
  |_=>pure ()) Q E s:=by
  cases v with
  |ref b=>
   refine ae (wpAny_load ho ?_);refine aa hc ?_;cases o.data with
   |fields vs=>dsimp only;exact aa hT (aR h)
   |_=>exact aR h
  |_=>exact aR h
 cases tg with
 |Tuple=>exact core
 |List=>exact core
 |_=>exact aR h
def yg (Z:Zt) (X:Fx) (sl:List Str) (G:Gh) (vs:Vs) (m:jF) (k:KO) (a:Addr) (r:Option Value) (s:Shared):Prop:=match r with
 |none=>E2 λG' st'=>A3 (G.Le G') (k none st') (bg Z X sl G' vs st' m s)
 |some w=>JT s a/\E3 λG' v st'=>A4 (G.Le G') (VR Z.T Z.rg G' v w) (k (some v) st') (bg Z X sl G' vs st' m s)
theorem ap.iter {G vs st m s tr} (I:ap Z X sl G vs st m s tr) {a d:Addr} {x x₀:O} (hx:st.t.get p=some x₀) (hfl:st.fl.get p=none) (hr:G.ρ (.d p)=some (a,d))
  (he:Heap.ExtBut a s.heap h') (ho:h'.get? a=some o) (h:OR Z (cO X (setT tr a o)) G a d x):bg Z X sl G vs {st with t:=Tr.set x p st.t} m {s with heap:=h',toks:=tk}:=by
 refine hG λCC hCC=>?_;refine ak (I.wri p _ hx hfl) λa' d' hr' ha hd=>?_;rw[hr]at hr';refine kN (fE hr') λee115 ee116=>?_;subst ee115 ee116;refine aA (List.mem_map.mp ha) λq hq e=>?_;have nw:=I.nw q hq;rw[show q.1=a from e]at nw;refine hCC ?_;exact⟨_,I.upd ⟨_,hx⟩ hfl hr (.inl rfl) ha (Ma I.fr he nw.2.1 nw.2.2) (uq I.nw he ho) h⟩
theorem yE (F:FxOk Z X n sc) {G vs st m s} {i q:AI} {a d:Addr} (I:bg Z X sl G vs st m s) (hi:dj i st=some (.lit q j)) (hq:dj q st=some (.list l)) (hr:G.ρ i=some (a,d)) (y:Qx i q j st k l=true):
  wpAny (model Z.prog Z.w) X.A (pyNext (.ref a)) (yg Z X sl G vs m k a) E s:=by
 refine hG λCC hCC=>?_;refine I.k λtr I=>?_;refine ib y λy sg=>?_;refine aJ (I.sto i _ hi) λa1 d1 r1 zz117=>?_;obtain⟨e1,q1,dq1,oi,r2,h1,c1,c2⟩:=zz117;replace r1:=(hr ..)▸r1;refine kN (fE r1) λee118 ee119=>?_;subst ee118 ee119;cases e1;obtain⟨a2,d2,r3,e2,ws,nn,h2,h3⟩:=I.sto q _ hq;replace r3:=(r2 ..)▸r3;obtain⟨rfl,assumption⟩:=fE r3;have g1:=I.get h1;have hl:s.heap.IsList _ ws.toArray:=⟨_,(I.get h2),rfl,nn,rfl⟩;have pl:=h3.plain sg;rw[iE]at y;cases qv:l[j]? with
 |none=>
  replace y:=(qv ..)▸y;obtain⟨p,rfl,hfl,y⟩:=cG y;have hx:ws.toArray[j]?=none:=by
   have:=pl.length;refine aa (List.getElem?_toArray ..) ?_;rw[List.getElem?_eq_none];exact bI this (List.getElem?_eq_none_iff.mp qv)
  refine hCC ?_;refine qk F.handled g1 c1 c2 hl hx λh' o' ho' he=>?_;exact⟨G,_,Gh.Le.refl G,y,I.iter hi hfl hr he ho' trivial⟩
 |some v=>
  replace y:=(qv ..)▸y;obtain⟨p,rfl,hfl,y⟩:=cG y;refine aA (pl.get qv) λw hw hv=>?_;refine hCC ?_;refine wpAny_pyNext_list_item ⟨_,g1,c1,c2⟩ hl (aa (List.getElem?_toArray ..) (hw)) λh' hit hs=>?_;refine gD hit λo' ho' k1 k2=>?_;refine ak (I.wri p _ hi hfl) λ_ _ hr' ha _=>?_;replace hr':=(hr ..)▸hr';obtain⟨rfl,assumption⟩:=fE hr';exact⟨kZ ho' k1 (by rfl),G,v,_,Gh.Le.refl G,hv,y,I.iter hi hfl hr hs.extBut ho' ⟨rfl,_,_,o',r2,.inl (bU ha),k1,k2⟩⟩
theorem un (F:FxOk Z X n sc) {G vs st m s} {i:AI} {a d:Addr} {x:Int} (I:bg Z X sl G vs st m s) (hi:dj i st=some (.rit x left)) (hr:G.ρ i=some (a,d)) (y:TG i st k x left=true):
  wpAny (model Z.prog Z.w) X.A (pyNext (.ref a)) (yg Z X sl G vs m k a) E s:=by
 refine hG λCC hCC=>?_;refine I.k λtr I=>?_;refine fp (I.sto i _ hi) λa1 d1 r1 e1 h1=>?_;rw[hr]at r1;obtain⟨rfl,rfl⟩:=fE r1;cases e1;have g1:=I.get h1;cases left with
 |zero=>
  obtain⟨p,rfl,hfl,y⟩:=cG y;refine hCC ?_;refine n9 F.handled g1 (eG _) λh' o' ho' he=>?_;exact⟨G,_,Gh.Le.refl G,y,I.iter hi hfl hr he ho' trivial⟩
 |succ left=>
  obtain⟨p,rfl,hfl,y⟩:=cG y;refine ak (I.wri p _ hi hfl) λ_ _ hr' ha _=>?_;rw[hr]at hr';obtain⟨rfl,assumption⟩:=fE hr';refine hCC ?_;refine wpAny_pyNext_range_item g1 (by simp) λh' hit hs=>?_;refine⟨kZ hit rfl (by rfl),G,.int x,_,Gh.Le.refl G,.int _ _,y,I.iter hi hfl hr hs.extBut hit ⟨rfl,.inl ?_⟩⟩;have e:((left+1:Nat):Int)-1=left:=by simp
  have:=bU (o:=itR (x+1) (((left+1:Nat))-1)) ha;refine aa (aN ..) ?_;rw[e]at this ⊢;exact this
theorem um (F:FxOk Z X n sc) {G vs st m s} {i:AI} {a d:Addr} {l:List V} (I:bg Z X sl G vs st m s) (hi:dj i st=some (.tit l)) (hr:G.ρ i=some (a,d)) (y:RS i st k l=true):
  wpAny (model Z.prog Z.w) X.A (pyNext (.ref a)) (yg Z X sl G vs m k a) E s:=by
 refine hG λCC hCC=>?_;refine I.k λtr I=>?_;refine aJ (I.sto i _ hi) λa1 d1 r1 zz120=>?_;obtain⟨e1,q,ws,j,o,hq,⟨h1,c1,c2⟩,h3,hj⟩:=zz120;replace r1:=(hr ..)▸r1;obtain⟨rfl,rfl⟩:=fE r1;cases e1;have g1:=I.get h1;have hl:s.heap.IsTuple q ws.toArray:=⟨_,I.get (I.imm _ _ hq),rfl,0,rfl⟩;cases l with
 |nil=>
  obtain⟨p,rfl,hfl,y⟩:=cG y;have hx:ws.toArray[j]?=none:=by
   generalize hd:ws.drop j=r at h3
   induction h3 using SR.knil
   refine aa List.getElem?_toArray ?_;rw[List.getElem?_eq_none];exact List.drop_eq_nil_iff.mp hd
  refine hCC ?_;refine n8 F.handled g1 c1 c2 hl hx λh' o' ho' he=>?_;exact⟨G,_,Gh.Le.refl G,y,I.iter hi hfl hr he ho' trivial⟩
 |cons v r=>
  refine ib y λy sg=>?_;obtain⟨p,rfl,hfl,y⟩:=cG y;refine ak (I.wri p _ hi hfl) λ_ _ hr' ha _=>?_;replace hr':=(hr ..)▸hr';obtain⟨rfl,assumption⟩:=fE hr';generalize hd:ws.drop j=u at h3
  induction h3 using SR.kcons with
  |seg i' cut us ws' e0 hq hv hr2=>subst e0;cases sg
  |cons w ws' hv hr2=>
   have hx:ws.toArray[j]?=some w:=by
    have:=congrArg (·[0]?) hd;simpa using this
   have hd2:ws.drop (j+1)=ws':=by
    refine bI List.drop_drop (aa hd ?_);rfl
   have hlt:=by
    have:=(Array.getElem?_eq_some_iff.mp hx).1;assumption
   refine hCC ?_;refine wpAny_pyNext_tuple_item ⟨_,g1,c1,c2⟩ hl hx λh' hit hs=>?_;exact gD hit λo' ho' k1 k2=>⟨kZ ho' k1 (by rfl),G,v,_,Gh.Le.refl G,hv,y,I.iter hi hfl hr hs.extBut ho' ⟨rfl,q,ws,j+1,o',hq,⟨.inl (bU ha),k1,k2⟩,by refine aa hd2 ?_;exact hr2,hlt⟩⟩
end
end
section
section
variable{Z:Zt} {X:Fx} {n:Nat} {sc:Scope} {sl:List Str}
def M5 (Z:Zt) (X:Fx) (sl:List Str) (G:Gh) (vs:Vs) (m:jF) (k:AI->St->af) (r:Value) (s:Shared):Prop:=E5 λG' i a d st'=>A5 (r=.ref a) (G'.ρ i=some (a,d)) (G.Le G') (k i st') (bg Z X sl G' vs st' m s)
theorem ap.newIt {G vs st m s tr} (I:ap Z X sl G vs st m s tr) {k:AI->St->af} (hf:o.isFreed=false) (y:dC x st k=true)
  (h:∀G',G.Le G'->OR Z (cO X ((s.heap.objs.size,o)::tr)) G' s.heap.objs.size s.heap.objs.size x):M5 Z X sl G vs m k (.ref s.heap.objs.size) {s with heap:=s.heap.push o}:=by
 have u:=I.unown (c8 _);have L:=gO (p:=(s.heap.objs.size,s.heap.objs.size)) (I.cnt st.n (c8 _));obtain⟨t,nn,d,mm,g',xx,f⟩:=st;exact⟨_,.d nn,_,_,_,rfl,bV,L,y,_,((I.push o hf).addI (by simp) (by simp) u u (h _ L))⟩
theorem CX {G vs st m s} {k:AI->St->af} (I:bg Z X sl G vs st m s) (hv:VR Z.T Z.rg G (.tup l) w) (y:dC (.tit l) st k=true):
  wpAny (model Z.prog Z.w) A (pyIter w) (M5 Z X sl G vs m k) E s:=by
 refine I.k λtr I=>?_
 induction hv using VR.ktup with
 |tup ws q h e=>
  exact wpAny_pyIter_tuple ⟨_,I.get (I.imm _ _ e),rfl,0,rfl⟩ (I.newIt rfl y λG' L=>⟨rfl,q,ws,0,_,L.H _ _ e,⟨.inl (aL ..),rfl,rfl⟩,by simpa using h.mono L,Nat.zero_le _⟩)
theorem Ax {G vs st m s} {k:AI->St->af} {p:AI} (I:bg Z X sl G vs st m s) (hv:VR Z.T Z.rg G (.ref p) w) (hp:dj p st=some (.list l)) (y:dC (.lit p 0) st k=true):
  wpAny (model Z.prog Z.w) A (pyIter w) (M5 Z X sl G vs m k) E s:=by
 refine hG λCC hCC=>?_;refine I.k λtr I=>?_
 induction hv using VR.kref with
 |ref a d hr=>
  refine aJ (I.sto p _ hp) λa1 d1 r1 zz121=>?_;obtain⟨e1,ws,nn,h1,h2⟩:=zz121;replace r1:=(hr ..)▸r1;refine kN (fE r1) λee122 ee123=>?_;subst ee122;refine hCC ?_;exact wpAny_pyIter_list ⟨_,I.get h1,rfl,nn,rfl⟩ (I.newIt rfl y λG' L=>⟨rfl,_,_,_,L.ρ _ _ hr,.inl (aL ..),rfl,rfl⟩)
theorem CY {G vs st m s} {k:AI->St->af} {p:AI} {c:Nat} (hc:c<=1000000) (I:bg Z X sl G vs st m s) (hv:VR Z.T Z.rg G (.ref p) w) (hp:dj p st=some (.rng c)) (y:dC (.rit iZ c) st k=true):
  wpAny (model Z.prog Z.w) A (pyIter w) (M5 Z X sl G vs m k) E s:=by
 refine hG λCC hCC=>?_;refine I.k λtr I=>?_
 induction hv using VR.kref with
 |ref a d hr=>
  refine aJ (I.sto p _ hp) λa1 d1 r1 zz124=>?_;obtain⟨e1,t,u,v,h1⟩:=zz124;replace r1:=(hr ..)▸r1;refine kN (fE r1) λee125 ee126=>?_;subst ee125;have hsz:Builtin.Range.rangeSize 0 c 1=c:=by
   unfold Builtin.Range.rangeSize
   by_cases z:0<c
   ·simp_all
   ·have:c=0:=by simpa using z
    refine aa this ?_;rfl
  refine hCC ?_;refine wpAny_pyIter_range (I.get h1) ?_ ?_
  ·unfold Builtin.Range.small Builtin.Range.rangeFitsLong;refine aa hsz ?_;simp;lia
  ·exact aa hsz (I.newIt rfl y λG' L=>⟨rfl,.inl (aL ..)⟩)
end
end
section
section
variable{Z:Zt} {n:Nat} {sc:Scope} {sl:List Str}
def lI (Z:Zt) (f:Value):Prop:=∀(M:Model) (h:Heap),Z.K.In h->∃k,(k=Keeper.frame\/k=Keeper.machine\/k=Keeper.boundFrame)/\Looks M h (keeperOf f) k
theorem lI.of (h:keepIn Z.K f):lI Z f:=λM hp X=>keeps_K h hp X
theorem yN (id:String):lI Z (.builtin id):=λM h X=>⟨.machine,.inr (.inl rfl),.now⟩
theorem mz (T:String):lI Z (.type T):=λM h X=>⟨.machine,.inr (.inl rfl),.now⟩
theorem mG {G vs st m s} (F:FxOk Z X n sc) (hk:lI Z f) (h:eD Z n sc sl l es) (I:bg Z X sl G vs st m s) (y:Fg l vs st k kE=true)
  (hE:∀e s',c6 Z X G.ν m kE e s'->E e s') (next:∀ws s',EK Z X sl G vs m es.length k ws s'->wpAny (model Z.prog Z.w) X.A (call f (first++ws)) Q E s'):
  wpAny (model Z.prog Z.w) X.A (callWith pos f first (backTo pos (starEach es X.env)) []) Q E s:=by
 have inK:∀{G vs st m s},bg Z X sl G vs st m s->Z.K.In s.heap:=λI=>kX I λtr I=>F.inK.keeps I.fr.keep;have run:=aq (sR (pos:=pos) h F I y) (λws s' z=>(show Z.K.In s'.heap/\wpAny (model Z.prog Z.w) X.A (call f (first++ws)) Q E s' from⟨by refine gn (id z) λG' l' st' _ _ _ J _=>?_;exact inK J,next ws s' z⟩)) hE
 induction h using eD.casesOn with
 |nil=>
  exact callWith_of rfl (λh X=>hk _ h X) (evalArgs_nil3 ⟨inK I,next [] s ⟨G,[],st,Gh.Le.refl G,.nil,y,I,rfl⟩⟩)
 |cons h hs r=>
  have:∀{l:List Ev} {es:List Expr},eD Z n sc sl l es->(backTo pos (starEach es X.env)).any (·.1)=false:=λ{l es} h=>by
   induction h with
   |nil=>rfl
   |cons h hs r ih=>
    refine aa (hs ..) ?_;refine aa ih ?_;rfl
  rw[hs]at run ⊢;exact callWith_of (by show((false||(backTo pos (starEach _ X.env)).any (·.1))||false)=false;refine aa ((this r) ..) ?_;rfl) (λh X=>hk _ h X) (evalArgs_plain run)
structure fc (Z:Zt) (sc:Scope) (x:Str) (v:Value):Prop where
 miss:nsIn Z.K mainGlobals x=some none
 boot:bootBuiltins x=some v
 name:x≠"__name__"
 kind:sc.names.lookup x=some .globalImplicit
 dbg:(x==("__debug__":Str))=false
theorem NY (F:FxOk Z X n sc) (B:fc Z sc x v) {G vs st m s tr} (I:ap Z X sl G vs st m s tr) (h:Q v s):wpAny M A (eval (.Name x p) X.env) Q E s:=
 Name_function_global (by refine aa F.scope ?_;exact F.kind) (by show X.env.scope.names.lookup x=_;refine aa F.scope ?_;exact B.kind)
  (loadGlobal_builtin (by refine aa F.globals ?_;exact F.top.g.keeps I.fr.keep) (mg_none_of F.inK F.top.g B.miss) (by refine aa F.builtins ?_;exact F.top.b.keeps I.fr.keep) ((F.top.builtins x B.name).trans B.boot) h) B.dbg
theorem Cn (F:FxOk Z X n sc) (e:nsIn Z.K mainGlobals x=some (some v)) (hx:sc.names.lookup x=some .globalImplicit) (hd:(x==("__debug__":Str))=false) {G vs st m s tr} (I:ap Z X sl G vs st m s tr) (h:Q v s):wpAny M A (eval (.Name x p) X.env) Q E s:=
 nameG_K I.fr F.inK F.top e h F.globals (by refine aa F.scope ?_;exact F.kind) (by show X.env.scope.names.lookup x=_;refine aa F.scope ?_;exact hx) hd
theorem Ju (hk:lI Z f) (B:fc Z sc x f) (h:eD Z n sc sl l es) (F:FxOk Z X n sc) {G vs st m s} {K:K} (I:bg Z X sl G vs st m s) (y:Fg l vs st k kE=true)
  (next:∀G' as ws st' s',G.Le G'->F2 (VR Z.T Z.rg G') as ws->k as st'=true->bg Z X sl G' vs st' m s'->ws.length=es.length->wpAny (model Z.prog Z.w) X.A (call f ws) (bf Z X sl G' vs m K) (c6 Z X G.ν m kE) s'):
  wpAny (model Z.prog Z.w) X.A (eval (.Call (.Name x p) es [] pos) X.env) (bf Z X sl G vs m K) (c6 Z X G.ν m kE) s:=by
 refine kX (id I) λtr I1=>?_;refine jD (NY F B I1 ?_);refine mG F hk h I y (λ_ _ z=>z) λws s' z=>?_;refine gn z λG1 as st1 L1 r1 y1 I2 hl=>?_;exact aq (next G1 as ws st1 s' L1 r1 y1 I2 hl) (λ_ _ z=>z.up L1) λ_ _ z=>z
end
end
section
section
variable{Z:Zt} {X:Fx} {sl:List Str} {G:Gh} {vs:Vs} {st:St} {m:jF} {s:Shared} {tr:List (Addr×Obj)}
theorem ap.at (I:ap Z X sl G vs st m s tr) (F':Fr X.base X.L h' m) (N':News X.base X.L h' tr):ap Z X sl G vs st m {s with heap:=h',toks:=tk} tr:=
 ⟨by rw[I.sh],F',N',I.nd,I.loc,I.len,I.out,I.sto,I.wri,I.imm,I.own,I.rng,I.hel,I.cnt,I.num,I.xok⟩
theorem ap.grow (I:ap Z X sl G vs st m s tr) {h':Heap} {tk:Nat} {D:Addr} {o:Obj} (F':Fr X.base X.L h' m) (N':News X.base X.L h' ((D,o)::tr)) (hD:∀p∈tr,p.1≠D):
  ap Z X sl G vs st m {s with heap:=h',toks:=tk} ((D,o)::tr)/\j0 G X D:=by
 have off:∀{a o'},cO X tr a o'->a≠D:=λ{a o'} h z=>by
  subst z;rcases h with h |h
  ·exact hD _ h rfl
  ·rw[(N' _ (aL ..)).2.2]at h;exact bd h
 refine⟨⟨by rw[I.sh],F',N',?_,I.loc,I.len,λp hp=>let⟨o',a,b⟩:=I.out p hp;⟨o',bc _ a,b⟩,
  λi o' h=>let⟨a,d,r,y⟩:=I.sto i o' h;⟨a,d,r,OR.mono (λ_ _ x=>x.cons) (Gh.Le.refl G) y⟩,
  λp o' a b=>let⟨x,y,r,u,v⟩:=I.wri p o' a b;⟨x,y,r,bc _ u,bc _ v⟩,
  λa o' h=>(I.imm a o' h).cons,I.own,λi a d h=>let⟨⟨x,a⟩,⟨y,b⟩⟩:=I.rng i a d h;⟨⟨x,a.cons⟩,⟨y,b.cons⟩⟩,
  λc hc=>let⟨x,a,b⟩:=I.hel c hc;⟨x,bc _ a,b⟩,I.cnt,I.num,I.xok.cons⟩,λi p e=>?_,?_,λp hp=>?_,λc hc=>?_,?_⟩
 ·rw[fy,List.nodup_cons];refine⟨λh=>?_,I.nd⟩;refine aA (List.mem_map.mp h) λp hp e=>?_;exact hD p hp e
 ·refine kN (I.rng i p.1 p.2 e) λzz128 zz127=>?_;obtain⟨_,y⟩:=zz127;obtain⟨_,x⟩:=zz128;exact⟨off x,off y⟩
 ·cases q:G.H D with
  |none=>rfl
  |some o=>exact absurd rfl (off (I.imm D o q))
 ·refine aA (I.out p hp) λo h1 _=>?_;exact hD _ h1
 ·refine aA (I.hel c hc) λ_ x _=>?_;exact hD _ x
 ·cases q:X.xb.get? D with
  |none=>rfl
  |some o=>exact absurd rfl (off (I.xok.has D o q))
theorem ap.newT (I:ap Z X sl G vs st m s tr) {k:K} (F':Fr X.base X.L h' m) (N':News X.base X.L h' ((D,cj ws)::tr)) (hD:∀p∈tr,p.1≠D)
  (h:SR Z.T Z.rg G l ws) (e:k (.tup l) st=true):bf Z X sl G vs m k (.ref D) {s with heap:=h',toks:=tk}:=by
 refine kN (I.grow (tk:=tk) F' N' hD) λJ u=>?_;have L:=iK (G:=G) (o:=cj ws) u.2.1;exact⟨_,.tup l,st,L,.tup l ws _ (h.mono L) hF,e,_,J.addH (aL ..) u⟩
theorem ap.newL (I:ap Z X sl G vs st m s tr) {ws:List Value} (F':Fr X.base X.L h' m) (N':News X.base X.L h' ((D,hM ws c)::tr)) (hD:∀p∈tr,p.1≠D)
  (h:SR Z.T Z.rg G l ws) (e:newList l st k=true):bf Z X sl G vs m k (.ref D) {s with heap:=h',toks:=tk}:=by
 refine kN (dK e) λg e=>?_;refine kN (I.grow (tk:=tk) F' N' hD) λJ u=>?_;have L:=gO (G:=G) (p:=(D,D)) (I.cnt st.n (c8 _));have I2:=J.addI (x:=.list l) (a:=D) (d:=D) (by simp) (by simp) u u ⟨rfl,ws,c,.inl (aL ..),h.mono L⟩;obtain⟨t,nn,d,mm,g',x,f⟩:=st;exact⟨_,.ref (.d nn),_,L,.ref _ _ _ bV,e,_,I2⟩
end
section
variable{T:cW} {rg:Addr} {G:Gh}
theorem rU {T:cW} (q:qI T ν i cut) (h:F2 bP us (nQ (T.seg i) cut)):(us.length:Int)=(if cut then ν.getD (i+7) 0-1 else ν.getD (i+7) 0)/\us.length<=100/\i+7<ν.length:=by
 refine iP q λq1 q2 q3=>?_;have e:ν.getD (i+7) 0=((T.seg i).length):=by refine aa (iw ..) (aa q1 ?_);rfl
 have hl:=h.length;refine⟨?_,?_,(List.getElem?_eq_some_iff.mp q1).1⟩
 ·refine aa e (aa hl ?_);cases cut with
  |false=>rfl
  |true=>
   have:(T.seg i).length≠0:=λz=>q3 rfl (List.length_eq_zero_iff.mp z);refine aa List.length_dropLast ?_;lia
 ·refine aa hl ?_;cases cut with
  |false=>exact q2.1
  |true=>show(T.seg i).dropLast.length<=100;refine aa List.length_dropLast ?_;lia
theorem SR.len (h:SR T rg G l ws):ws.length<=100*l.length:=by
 induction l generalizing ws with
 |nil=>induction h using SR.knil;simp
 |cons v l ih=>
  induction h using SR.kcons with
  |cons w ws h r=>have:=ih r;simp;lia
  |seg i cut us ws e0 q h r=>subst e0;have:=ih r;have:=(rU q h).2.1;simp;lia
theorem SR.szOk (h:SR T rg G l ws) (e:AX.szOk l):ws.length<=400000:=by
 have e:=Nat.ble_eq.mp e;rw[bw]at e;have:=h.len;lia
theorem EB:∀{l:List V} {ws:List Value} {n:Nat},SR T rg G l ws->at_ l n k=true->E2 λv w=>A3 (ws[n]?=some w) (VR T rg G v w) (k v=true):=by
 intro l0
 induction l0 with
 |nil=>
  intro ws n h e;exact ao e
 |cons x l ih=>
  intro ws n h e;refine ib e λe s=>?_
  induction h using SR.kcons with
  |seg _ _ _ _ e0=>subst e0;cases s
  |cons w ws h r=>
   cases n with
   |zero=>exact⟨x,w,rfl,h,e⟩
   |succ n=>
    exact ak (ih r e) λv w' h1 h2 h3=>⟨v,w',by assumption,h2,h3⟩
theorem CF (hν:G.ν=ν):∀{l:List V} {ws:List Value} {k:KT},SR T rg G l ws->(bu (λ(k:KT)=>k iZ []) (λx _ i k=>jy x (CE i k) (λ_=>Oe i k)) l:KT->af) k=true->E2 λc ts=>A3 (k c ts=true) (Df ν ts) (c+ev ν ts=ws.length):=by
 intro l0
 induction l0 with
 |nil=>
  intro ws k h e;exact by induction h using SR.knil;exact⟨_,_,e,Df.nil _,rfl⟩
 |cons x l ih=>
  intro ws k h e;subst hν
  induction h using SR.kcons with
  |cons w ws h r=>
   have e:=by
    induction h using VR.casesOn<;>exact e
   exact ak (ih r e) λc ts e d q=>⟨_,ts,e,d,by refine aa (aN ..) (aa dG ?_);simp;simp+arith [q]⟩
  |seg i cut us ws e0 q h r=>
   subst e0;refine ak (ih r e) λc ts e d q2=>?_;refine iP (rU q h) λs1 _ s3=>?_;have a:=cE G.ν ts [(lQ i,bt)] d (Df.cons s3 (Df.nil _));refine⟨_,_,e,a.2,?_⟩;refine aa a.1 ?_;have e7:lQ i=i+7:=rfl;simp only[aU,d8,dG,e7];cases cut with
   |false=>refine aa (zo ..) ?_;simp+arith [q2,s1]
   |true=>refine aa (Jt ..) (aa (aN ..) (aa d7 ?_));simp+arith [q2,s1]
theorem CD (h:SR T rg G l ws) (e:uH l k=true):E2 λc ts=>A3 (k c ts=true) (Df G.ν ts) (c+ev G.ν ts=ws.length):=by
 unfold uH at e;rcases(show(bF l/\_)\/(bF l=false/\_) by cases q:bF l with
  |true=>exact .inl ⟨rfl,by rw[q]at e;exact e⟩
  |false=>exact .inr ⟨rfl,by rw[q]at e;exact e⟩)with⟨_,e⟩ |⟨g,e⟩
 ·exact CF rfl h e
 ·refine⟨_,_,e,Df.nil _,?_⟩;refine aa (bw ..) (aa ((h.plain g).length ..) ?_);rfl
end
end
section
section
variable{Z:Zt} {n:Nat} {sc:Scope} {sl:List Str}
theorem jh {k':V->St->af} (hk:lI Z f) (B:fc Z sc x f) (h:av Z n sc sl a e) (hs:bR e) (F:FxOk Z X n sc) {G vs st m s} {K:K} (I:bg Z X sl G vs st m s) (y:a vs st k' kE=true)
  (next:∀G' v w st' s',G.Le G'->VR Z.T Z.rg G' v w->k' v st'=true->bg Z X sl G' vs st' m s'->wpAny (model Z.prog Z.w) X.A (call f [w]) (bf Z X sl G' vs m K) (c6 Z X G.ν m kE) s'):
  wpAny (model Z.prog Z.w) X.A (eval (.Call (.Name x p) [e] [] pos) X.env) (bf Z X sl G vs m K) (c6 Z X G.ν m kE) s:=
 Ju (k:=λl st=>k' (l.headD .unset) st) hk B (.cons h hs .nil) F I y λG' as ws st' s' L r y' I' hl=>by
  induction r using F2.casesOn with
  |nil=>cases hl
  |cons r1 r=>induction r using F2.casesOn with
   |nil=>exact next G' _ _ st' s' L r1 y' I'
   |cons=>cases hl
theorem Ec {k':V->V->St->af} (hk:lI Z f) (B:fc Z sc x f) (h1:av Z n sc sl a e1) (s1:bR e1) (h2:av Z n sc sl b e2) (s2:bR e2) (F:FxOk Z X n sc) {G vs st m s} {K:K} (I:bg Z X sl G vs st m s)
  (y:a vs st (λx st=>b vs st (λy st=>k' x y st) kE) kE=true)
  (next:∀G' v1 w1 v2 w2 st' s',G.Le G'->VR Z.T Z.rg G' v1 w1->VR Z.T Z.rg G' v2 w2->k' v1 v2 st'=true->bg Z X sl G' vs st' m s'->wpAny (model Z.prog Z.w) X.A (call f [w1,w2]) (bf Z X sl G' vs m K) (c6 Z X G.ν m kE) s'):
  wpAny (model Z.prog Z.w) X.A (eval (.Call (.Name x p) [e1,e2] [] pos) X.env) (bf Z X sl G vs m K) (c6 Z X G.ν m kE) s:=
 Ju (k:=λl st=>k' (l.headD .unset) (l.tail.headD .unset) st) hk B (.cons h1 s1 (.cons h2 s2 .nil)) F I y λG' as ws st' s' L r y' I' hl=>by
  induction r using F2.casesOn with
  |nil=>cases hl
  |cons r1 r=>induction r using F2.casesOn with
   |nil=>cases hl
   |cons r2 r=>induction r using F2.casesOn with
    |nil=>exact next G' _ _ _ _ st' s' L r1 r2 y' I'
    |cons=>cases hl
theorem jv {l:List α} (e:szOk l):l.length<=4000:=by
 have e:=Nat.ble_eq.mp e
 rwa [bw]at e
theorem fU (s:List Nat):(aj s).length=s.length:=by simp[aj,Str.length]
theorem GW {G vs st m s} (I:bg Z X sl G vs st m s) {k:K} (t:Tok) (d:Df G.ν ts) (q:c+ev G.ν ts=z) (e:k (mk c ts) st=true):bf Z X sl G vs m k (.int z t) s:=
 bf.int I t (IP.now I.num (gI d q) e)
theorem pD {b:Array UInt8} (h:SR Z.T Z.rg G l ws) (e:F2 (λw (u:UInt8)=>bP w u.toNat) ws b.toList):b.size=ws.length:=by
 have:=e.length;simpa using this.symm
theorem HF (B:fc Z sc "len" (.builtin "len")) (h:av Z n sc sl a e) (hs:bR e):av Z n sc sl (ko a) (.Call (.Name "len" p) [e] [] pos):=λX F G vs st m s k kE I y=>by
 refine jh (k':=λx st=>Od x st k) (yN _) B h hs F I y λG1 v w st1 s1 L r y1 I1=>?_;have lst:∀{l:List V} {ws:List Value} {z:Nat},SR Z.T Z.rg G1 l ws->CG st1 k l->z=ws.length->z<=400000/\∀t tk,bf Z X sl G1 vs m k (.int z t) {s1 with toks:=tk}:=λ{l ws z} h y hz=>by
  exact ax y λy g=>ak (CD h y) λc ts y d q=>⟨by refine aa hz ?_;exact h.szOk g,λt tk=>GW (I1.toks tk) t d (by refine aa q ?_;rw[hz]) y⟩
 have I0:=I1;refine I1.k λtr I1=>?_;refine VR.sel r y1 qi rX rW rV (λl t x y1=>?_) tF qh (λl ws b t h e y1=>?_) (λl ws q h e y1=>?_) (λi a' d' hr y1=>?_) gh gf
 ·refine ax y1 λy1 g=>?_;have hl:=jv g;refine P.len_str (by refine aa (fU ..) ?_;lia) ?_;replace y1:=(bw ..)▸y1;exact .now (I0.toks _) (.int _ _) y1
 ·exact kN (lst h y1 (pD h e)) λg q=>len_bytes (cM (by assumption) (by simp)) (q _ _)
 ·exact kN (lst h y1 rfl) λg q'=>len_tuple ⟨_,I1.get (I1.imm _ _ e),rfl,0,rfl⟩ (by simp;omega) (by have:=q' (s1.toks+1) (s1.toks+1+1);assumption)
 ·refine gm y1 λl y2 ho=>?_;refine aJ (I1.sto i _ ho) λa2 d2 r2 zz130=>?_;obtain⟨e2,ws,nn,h2,h3⟩:=zz130;rw[hr]at r2;refine ug r2 ?_;exact kN (lst h3 y2 rfl) λg q'=>len_list ⟨_,I1.get h2,rfl,nn,rfl⟩ (by simp;omega) (by have:=q' (s1.toks+1) (s1.toks+1+1);assumption)
def zG (e:Expr):Prop:=∀o i,subscripted e false o i=operate [o,i] (getItem o i)
theorem uG (e:Expr) (b:Array UInt8) (t:Tok) (r:Value):letTemporaryGo e (.bytes b t) r=pure ():=(λh=>Expr.casesOn e (λ_ _ _=>h) (λ_ _ _=>h) (λ_ _ _ _=>h) (λ_ _ _=>h) (λ_ _ _ _=>h) (λ_ _ _ _=>h) (λ_ _ _=>h) (λ_ _ _=>h) (λ_ _ _ _=>h) (λ_ _ _ _=>h) (λ_ _ _ _ _=>h) (λ_ _ _ _=>h) (λ_ _=>h) (λ_ _=>h) (λ_ _=>h) (λ_ _ _ _=>h) (λ_ _ _ _=>h) (λ_ _ _ _=>h) (λ_ _=>h) (λ_ _ _=>h) (λ_ _ _=>h) (λ_ _ _=>h) (λ_ _=>h) (λ_ _=>h) (λ_ _=>h) (λ_ _ _=>h) (λ_ _ _ _=>h)) rfl
theorem M0 (e:Expr) (b:Str) (t:Tok) (r:Value):letTemporaryGo e (.str b t) r=pure ():=(λh=>Expr.casesOn e (λ_ _ _=>h) (λ_ _ _=>h) (λ_ _ _ _=>h) (λ_ _ _=>h) (λ_ _ _ _=>h) (λ_ _ _ _=>h) (λ_ _ _=>h) (λ_ _ _=>h) (λ_ _ _ _=>h) (λ_ _ _ _=>h) (λ_ _ _ _ _=>h) (λ_ _ _ _=>h) (λ_ _=>h) (λ_ _=>h) (λ_ _=>h) (λ_ _ _ _=>h) (λ_ _ _ _=>h) (λ_ _ _ _=>h) (λ_ _=>h) (λ_ _ _=>h) (λ_ _ _=>h) (λ_ _ _=>h) (λ_ _=>h) (λ_ _=>h) (λ_ _=>h) (λ_ _ _=>h) (λ_ _ _ _=>h)) rfl
theorem FM:∀{l:List V} {ws:List Value} {k:List (List Nat)->af},SR Z.T Z.rg G l ws->AX.strsV l k=true->∃B,A3 (k B=true) (F2 (λs w=>∃t,w=Value.str (aj s) t/\Tx s) B ws) (B.length=l.length):=by
 intro l0
 induction l0 with
 |nil=>
  intro ws k h e;exact by induction h using SR.knil;exact⟨[],e,.nil,rfl⟩
 |cons v l ih=>
  intro ws k h e
  induction h using SR.kcons with
  |cons w ws h r=>
   refine VR.sel h e qi rX rW rV (λs t x e=>?_) tF qh qQ tE tD gh gf;exact l3 (ih r e) λB e f q=>⟨s::B,e,.cons ⟨t,rfl,x⟩ f,by simp[q]⟩
  |seg _ _ _ _ e0=>subst e0;exact ao e
theorem F2.getR {R:α->β->Prop} (h:F2 R l r) (e:r[n]?=some b):∃a,l[n]?=some a/\R a b:=by
 induction h generalizing n with
 |nil=>exact bd e
 |cons h t ih=>cases n with
  |zero=>refine gP e ?_;exact⟨_,rfl,h⟩
  |succ n=>exact ih e
theorem F2.all {R:α->β->Prop} {p:α->Prop} {l:List α} {r:List β} (h:F2 R l r) (hp:∀a b,R a b->p a):∀a∈l,p a:=by
 induction h with
 |nil=>intro a h;cases h
 |cons h t ih=>
  intro a ha;rcases bk.mp ha with rfl |ha
  ·exact hp _ _ h
  ·exact ih a ha
theorem nO {G vs st m s} (I:bg Z X sl G vs st m s) {k:K} {ws:List Value} {i:V} {x:Int} (h:SR Z.T Z.rg G l ws) (hi:VI G.ν i x) (e:jx i st k l=true):
  E2 λj w=>A4 (seqIndex? x ws.length=some j) (ws[j]?=some w) ((-5000<=x/\x<=5000)) (bf Z X sl G vs m k w s):=by
 refine ak (bQ hi e) λc ts e d q=>?_;rcases eg I.num.dom d (show iM st c ts (T4 l st k) _ from e)with e |e
 ·rw[q]at e;cases x with
  |ofNat nn=>
   refine kN (dK (show ah (Nat.ble nn 4000) (at_ l nn λv=>k v st) false=true from e)) λg e=>?_;have g:nn<=4000:=Nat.ble_eq.mp g;refine ak (EB h e) λv w h1 h2 h3=>?_;have:nn<ws.length:=(List.getElem?_eq_some_iff.mp h1).1;exact⟨nn,w,StrLaws.seqIndex_nonneg (by simp) (by simpa using this),h1,⟨by show(-5000:Int)<=(nn:Int);simp,by show(nn:Int)<=5000;lia⟩,.now I h2 h3⟩
  |negSucc nn=>
   refine kN (D8 (show ah (bF l) false (ah (c5 (Nat.blt nn (dL l)) (Nat.ble nn 4000)) (at_ l (Nat.sub (dL l) (Nat.succ nn)) λv=>k v st) false)=true from e)) λg e=>?_;refine kN (dK e) λg2 e=>?_;refine kN (pH g2) λg2 g3=>?_;have g2:nn<dL l:=Nat.ble_eq.mp g2;have g3:nn<=4000:=Nat.ble_eq.mp g3;rw[bw,(h.plain g).length]at g2;refine ak (EB h e) λv w h1 h2 h3=>?_;rw[bw,(h.plain g).length]at h1;refine⟨_,w,StrLaws.seqIndex_neg (by exact Int.negSucc_lt_zero nn) (by lia),?_,⟨by lia,by exact(λa b=>(aY a b).mp) (Int.negSucc nn) 5000 rfl⟩,.now I h2 h3⟩;rw[<-h1];congr 1;show _=ws.length-(nn+1);omega
 ·refine er (ey I.num.dom d e) λlo hi' e _ h1 h2=>?_;refine kN (dK e) λg e=>?_;refine kN (pH g) λg1 g2=>?_;refine kN (pH g2) λg2 g3=>?_;have g1:=(aY _ _).mp g1;have g2:=(cU _ _).mp g2;have g3:=(aY _ _).mp g3;refine l3 (FM h e) λB e f hl=>?_;rw[q]at h1 h2;rw[lh]at g1;rw[bw,<-hl]at g2;have g2:hi'<(B.length:Int):=g2;have g3:hi'<=4000:=g3;have hx:x.toNat<B.length:=by omega
  refine aA (f.get (List.getElem?_eq_getElem hx)) λw hw zz133=>?_;obtain⟨t,rfl,ht⟩:=zz133;have hlt:x.toNat<ws.length:=(List.getElem?_eq_some_iff.mp hw).1;refine⟨x.toNat,_,StrLaws.seqIndex_nonneg (by exact Int.le_trans g1 h1) (by exact Int.lt_of_toNat_lt hlt),hw,⟨by lia,by omega⟩,.now I (.stab B c ts x.toNat _ t d (by rw[q];lia) (List.getElem?_eq_getElem hx) (f.all λa b z=>z.elim λ_ z=>z.2)) e⟩
theorem tV {G vs st m s} (I:bg Z X sl G vs st m s) (h:SR Z.T Z.rg G l ws) (hi:VI G.ν i x) (e:nP i st k l=true):
  ∃j:Nat,x=j/\E2 λv w=>A4 (ws[j]?=some w) (ws.length<=400000) (VR Z.T Z.rg G v w) (k v st=true):=by
 refine hG λCC hCC=>?_;refine kN (dK e) λg e=>?_;refine ak (bQ hi e) λc ts e d q=>?_;rcases eg I.num.dom d (show iM st c ts _ no from e)with e |e
 ·rw[q]at e;cases x with
  |ofNat nn=>
   refine ak (EB h (show at_ l nn (λv=>k v st) from e)) λv w h1 h2 h3=>?_;refine hCC ?_;exact⟨nn,rfl,v,w,h1,h.szOk g,h2,h3⟩
  |negSucc nn=>exact ao e
 ·exact ao e
end
end
section
section
variable{Z:Zt} {G:Gh}
theorem nc (h:SR Z.T Z.rg G l ws) (e:bj OZ l):∃ks,mL l ks/\ItemsAre (PySem.intKind Z.prog Z.w) ks ws:=by
 induction l generalizing ws with
 |nil=>induction h using SR.knil;exact⟨[],.nil,.nil⟩
 |cons v l ih=>
  refine ax e λe g=>?_
  induction h using SR.kcons with
  |cons w ws h r=>
   refine aA (ih r e) λks h1 h2=>?_
   induction h using VR.casesOn with
   |int c t=>exact⟨c::ks,.cons (λ_=>rfl) h1,.cons (by simp[PySem.intKind,Value.isInt]) h2⟩
   |lin c ts x t d q=>
    cases ts with
    |nil=>
     rw[d8]at q;exact⟨c::ks,.cons (λ_=>rfl) h1,.cons (by simp[PySem.intKind,Value.isInt];simp_all) h2⟩
    |cons=>exact ao g
   |_=>exact ao g
  |seg _ _ _ _ e0=>subst e0;exact ao g
theorem q9:∀{l l':List V} {ks ks':List Int},mL l ks->mL l' ks'->gR l l' k=true->k (decide (ks=ks'))=true:=by
 intro l l' ks ks' q1 q2 e
 induction q1 generalizing l' ks' with
 |nil=>induction q2 using F2.casesOn with |nil=>exact e |cons=>exact e
 |@cons a c l ks h1 r1 ih=>induction q2 using F2.casesOn with |nil=>exact e |@cons b c' l' ks' h2 r2=>
  have e:LH a (gR l) k b l'=true:=e;unfold LH cI at e;rw[h1]at e;have e:(cF b λc' ts=>aw ts (O8 (gR l) l' k c c') λ_ _=>false)=true:=e;rw[h2]at e;refine bA e (λe2 q=>?_) λe2 q=>?_
  ·have:=(aB _ _).mp q;refine aa this ?_;have:=ih r2 e2;simpa using this
  ·have:c≠c':=λz=>by replace q:=((aB _ _).mpr z ..)▸q;cases q
   simpa[this]using e2
abbrev R1 (Z:Zt) (G:Gh):V×V->Str×Value->Prop:=λp kv=>(∃x,p.1=.str x/\kv.1=aj x)/\VR Z.T Z.rg G p.2 kv.2
abbrev R2 (Z:Zt) (G:Gh):V×V->List Int×Addr×Value->Prop:=λp x=>((∃l,p.1=.tup l/\mL l x.1)/\∃ws,G.H x.2.1=some (cj ws)/\ItemsAre (PySem.intKind Z.prog Z.w) x.1 ws)/\VR Z.T Z.rg G p.2 x.2.2
theorem DG {kvs:List (Str×Value)} (h:F2 (R1 Z G) es kvs) (e:fw (.str x) es k=true):
  (k none=true/\valueAt kvs (aj x)=none)\/E2 λv w=>A3 (k (some v)=true) (valueAt kvs (aj x)=some w) (VR Z.T Z.rg G v w):=by
 induction h with
 |nil=>exact .inl ⟨e,rfl⟩
 |@cons p kv es kvs h _ ih=>
  refine kN h λzz134 h3=>?_;refine aA zz134 λy h1 h2=>?_;obtain⟨p1,p2⟩:=p;subst h1;unfold valueAt at ih ⊢;refine aa (List.find?_cons ..) (aa h2 ?_);refine bA e (λe2 q=>?_) λe2 q=>?_
  ·have:=(bG _ _).mp q;exact aa this (.inr ⟨p2,kv.2,e2,by simp,h3⟩)
  ·have:aj y≠aj x:=λz=>by replace q:=((bG _ _).mpr (gX.mp z).symm ..)▸q;cases q
   simp only[this,decide_false];exact ih e2
theorem DF {ks:List Int} {k:Option V->af} (hl:mL l ks) {es:List (V×V)} {xs:List (List Int×Addr×Value)} (h:F2 (R2 Z G) es xs) (e:fw (.tup l) es k=true):
  (k none=true/\atKey xs ks=none)\/E2 λv p=>A3 (k (some v)=true) (atKey xs ks=some p) (VR Z.T Z.rg G v p.2):=by
 induction h with
 |nil=>exact .inl ⟨e,rfl⟩
 |@cons p x es xs h _ ih=>
  refine kN h λzz135 h3=>?_;obtain⟨⟨y,h1,h2⟩,_⟩:=zz135;obtain⟨p1,p2⟩:=p;subst h1;have e:gR l y (λt=>ah t (k (some p2)) (fw (.tup l) es k))=true:=e;have e:=q9 hl h2 e;unfold atKey at ih ⊢;refine aa (List.find?_cons ..) ?_
  by_cases z:x.1=ks
  ·subst z;simp only[decide_true]at e ⊢;exact .inr ⟨p2,x.2,e,rfl,h3⟩
  ·rw[fz (λq=>z q.symm)]at e;simp only[z,decide_false];exact ih e
theorem DR.one (D:DR Z G es ds) (e:fw (.str x) es k=true):∃kvs,Qh Z G es ds kvs:=by
 rcases D with D |⟨xs,h1,h2,h3⟩
 ·exact D
 ·induction h3 using F2.casesOn with
  |nil=>
   cases h1;exact⟨[],λ_ h=>(by simp at h),.nil,List.nodup_nil,.nil⟩
  |@cons p x' es xs h t=>
   refine kN h λzz136 _=>?_;obtain⟨⟨y,h1,_⟩,_⟩:=zz136;obtain⟨p1,p2⟩:=p;subst h1;exact ao e
theorem DR.two (D:DR Z G es ds) (e:fw (.tup l) es k=true):∃xs,Qg Z G es ds xs:=by
 rcases D with⟨kvs,h1,h2,h3,h4⟩ |D
 ·induction h4 using F2.casesOn with
  |nil=>
   obtain rfl:ds=[]:=List.length_eq_zero_iff.mp (by refine aa h2.length ?_;rfl);exact⟨[],rfl,List.nodup_nil,.nil⟩
  |@cons p kv es kvs h t=>
   refine kN h λzz137 _=>?_;obtain⟨y,h1,_⟩:=zz137;obtain⟨p1,p2⟩:=p;subst h1;exact ao e
 ·exact D
theorem Qh.dictOf {h:Heap} (D:Qh Z G es ds kvs) (ho:h.get? a=some (W.dictOf ds n)):h.DictOf (R8 Z) a kvs:=⟨_,_,n,ho,⟨rfl,rfl,rfl⟩,rfl,D.1,D.2.1,D.2.2.1⟩
theorem Qg.dictOf {h:Heap} (D:Qg Z G es ds xs) (ho:h.get? a=some (W.dictOf ds n)) (hG:∀a o,G.H a=some o->h.get? a=some o):h.DictOfH (Oi Z) a xs:=by
 refine⟨_,_,n,ho,⟨rfl,rfl,rfl⟩,rfl,D.1,λx hx=>?_,D.2.1⟩;refine kX (List.mem_iff_getElem?.mp hx) λi hi=>?_;refine gD (D.2.2.getR hi) λp _ zz138 _=>?_;obtain⟨_,ws,h1,h2⟩:=zz138;exact⟨_,_,_,hG _ _ h1,rfl,rfl,h2⟩
end
section
variable{Z:Zt} {n:Nat} {sc:Scope} {sl:List Str}
theorem FxOk.room (F:FxOk Z X n sc):X.A.units+1<cLine:=by have:=F.units;lia
set_option tactic.hygienic true in
theorem PA {a i:Ev} {e1 e2:Expr} {pos} (h1:av Z n sc sl a e1) (h2:av Z n sc sl i e2) (hs:zG e2):av Z n sc sl (eI a i) (.Subscript e1 e2 pos):=λX F G vs st m s k kE I y=>by
 refine Subscript_ (aq (h1 X F G vs st m s _ kE I y) (λw1 s1 z=>?_) λ_ _ z=>z);refine bX z λG1 v1 st1 L1 r1 y1 I1=>?_;refine aq (tI h2 F L1 I1 y1) (λw2 s2 z=>?_) λ_ _ z=>z;refine bX z λG2 v2 st2 L2 r2 y2 I2=>?_;have r1:=r1.mono L2;have L:=L1.trans L2;have y2:GO v1 v2 st2 k:=y2;have I0:=I2;refine kX I2 λtr I2=>?_;have int:∀{l:List V},jx v2 st2 k l->E2 λx t=>w2=.int x t/\VI G2.ν v2 x:=λe=>rQ r2 e
 induction r1 using VR.casesOn with
 |bytes l ws b t h e=>
  refine aJ (rQ r2 (dK (show nP v2 st2 k l from y2)).2:E2 λx t=>w2=.int x t/\VI G2.ν v2 x) λx u ee139 hx=>?_;subst ee139;refine aA (tV I0 h hx y2) λj ee141 zz140=>?_;subst ee141;obtain⟨v,w,g1,g2,g3,g4⟩:=zz140;refine aA (e.get g1) λc hc zz142=>?_;obtain⟨t',rfl⟩:=zz142;have hlt:j<b.toList.length:=(List.getElem?_eq_some_iff.mp hc).1;have hsz:=pD h e;have hlen:(KBw.bInts b).length=ws.length:=by rw[KBw.ints_length,hsz]
  have hj:j<ws.length:=(List.getElem?_eq_some_iff.mp g1).1;have hv:(KBw.bInts b).getD (j:Int).toNat 0=(c.toNat:Int):=by
   rw[iw];unfold KBw.bInts;rw[List.getElem?_map,Int.toNat_natCast,hc];rfl
  refine KBw.item_K rfl (by rw[hlen];exact cM (by assumption) (by decide)) (by simp) (by rw[hlen];exact Int.ofNat_lt.mpr hj) (λt'' tk _ _=>?_) (hs _ _) (λ_=>uG _ _ _ _);rw[hv];exact(bf.now (I0.toks tk) (.of_vi _ g3.vi) g4).up L
 |tup l ws a' h e=>
  refine aJ (int (show jx v2 st2 k l from y2)) λx u ee143 hx=>?_;subst ee143;refine cJ (nO I0 h hx y2) λj w g1 g2 g3 g4=>?_;exact item_tupleT (l:=ws) ⟨_,I2.get (I2.imm _ _ e),rfl,0,rfl⟩ (by lia) (by omega) g1 g2 (g4.up L) (hs _ _)
 |ref p a' d hr=>
  refine aA (ek (show obj p st2 (Ji v2 st2 k) from y2)) λo ho y3=>?_;cases o with
  |list l=>
   refine aJ (int (show jx v2 st2 k l from y3)) λx u ee144 hx=>?_;subst ee144;refine aJ (I2.sto p _ ho) λa2 d2 r' zz145=>?_;obtain⟨e2,ws,nn,hh2,hh3⟩:=zz145;rw[hr]at r';refine kN (fE r') λee146 ee147=>?_;subst ee146 ee147;subst e2;refine cJ (nO I0 hh3 hx y3) λj w g1 g2 g3 g4=>?_;have hl:s2.heap.IsList _ ws.toArray:=⟨_,I2.get hh2,rfl,nn,rfl⟩
   by_cases h0:x<0
   ·exact tail_any hl.typeIs slot_list_getitem.lookup (kde_getNeg hl h0 (by lia) g1 g2 (g4.up L)) (hs _ _)
   ·have hb:x.toNat=j:=by
     have:x<ws.length:=by
      by_cases q:x<ws.length
      ·exact q
      ·unfold seqIndex? at g1;simp only[h0,if_false]at g1
       split at g1
       ·rename_i hc;simp at hc;simp_all
       ·exact bd g1
     rw[StrLaws.seqIndex_nonneg (by simpa using h0) this]at g1;obtain rfl:=jK g1;rfl
    exact tail_any hl.typeIs slot_list_getitem.lookup (wpAny_getItem_list hl (by simpa using h0) (by omega) (x:=w) (by rw[hb];simpa using g2) (g4.up L)) (hs _ _)
  |dict es=>
   refine aJ (I2.sto p _ ho) λa2 d2 r' zz148=>?_;obtain⟨e2,e3,ds,nn,hh2,D⟩:=zz148;rw[hr]at r';refine kN (fE r') λee149 ee150=>?_;subst ee149 ee150;subst e2;refine kN (dK (show ah (Jq v2) (fw v2 es λo=>ag o false λv=>k v st2) false=true from y3)) λg y3=>?_
   induction r2 using VR.casesOn with
   |str x t hx=>
    refine kX (D.one y3) λkvs D=>?_;have hd:=D.dictOf (I2.get hh2);rcases DG D.2.2.2 y3 with⟨q,_⟩ |⟨v,w,q,q1,q2⟩
    ·exact ao q
    ·exact tail_any hd.typeIs slot_dict_getitem.lookup (wpAny_getItem_of (strKind_is _ _ _ _) hd.mapOf q1 ((bf.now (I0.toks _) q2 q).up L)) (hs _ _)
   |tup l ws q h e=>
    refine kX (D.two y3) λxs D=>?_;refine aA (nc h (show bj OZ l from g)) λks i1 i2=>?_;have hd:=D.dictOf (I2.get hh2) (λa o z=>I2.get (I2.imm a o z));have hkey:(Oi Z).is s2.heap ks q:=⟨_,_,_,I2.get (I2.imm _ _ e),rfl,rfl,i2⟩;rcases DF i1 D.2.2 y3 with⟨q,_⟩ |⟨v,w,q,q1,q2⟩
    ·exact ao q
    ·exact tail_any hd.typeIs slot_dict_getitem.lookup (wpAny_getItem_heap (tupleKind_room_in1 F.room) hkey hd q1 ((bf.now (I0.toks _) q2 q).up L)) (hs _ _)
   |_=>exact ao g
  |_=>exact ao y3
 |_=>exact ao y2
end
end
section
noncomputable def sl3 {α:Type} (l:List α) (lo hi:Option Int):List α:=(l.drop (lo.elim 0 (clipAt l.length))).take (hi.elim l.length (clipAt l.length)-lo.elim 0 (clipAt l.length))
theorem F2.sl3 {R:α->β->Prop} (h:F2 R l r) (p q:Option Int):F2 R (AX.sl3 l p q) (AX.sl3 r p q):=by
 unfold AX.sl3;exact aa h.length ((h.drop _).take _)
section
variable{Z:Zt} {G:Gh} {st:St}
theorem zp (h : VR Z.T Z.rg G v w) (e : My n d v k = true) : ∃ p, IsPart w p /\ k (p.elim d (clipAt n)) = true := by
  have num : ∀ c : Int, c0 c (fun m => k (ah (Nat.ble n m) n m)) (fun m => k (ah (Nat.ble n (Nat.succ m)) 0 (Nat.sub n (Nat.succ m)))) = true -> k (clipAt n c) = true := fun c e => by
    cases c with
    | ofNat m =>
      have e : k (ah (Nat.ble n m) n m) = true := e
      have : ah (Nat.ble n m) n m = clipAt n m := by
        refine aa (clipAt_nat ..) ?_
        cases q : Nat.ble n m with
        | true => have := Nat.ble_eq.mp q; exact Eq.symm (Nat.min_eq_right this)
        | false => refine aa (zo ..) ?_; have : ¬ n <= m := fun z => by replace q := (Nat.ble_eq.mpr z ..) ▸ q; cases q
                   lia
      rw [this] at e; exact e
    | negSucc m =>
      have e : k (ah (Nat.ble n (Nat.succ m)) 0 (Nat.sub n (Nat.succ m))) = true := e
      have : ah (Nat.ble n (Nat.succ m)) 0 (Nat.sub n (Nat.succ m)) = clipAt n (Int.negSucc m) := by
        refine aa (show Int.negSucc m = -((m + 1 : Nat)) from rfl ..) (aa (clipAt_neg _ _ (Nat.le_add_left 1 m) ..) ?_)
        cases q : Nat.ble n (Nat.succ m) with
        | true => have := Nat.ble_eq.mp q; exact Eq.symm (Nat.sub_eq_zero_of_le this)
        | false => refine aa (zo ..) ?_; rfl
      rw [this] at e; exact e
  induction h using VR.casesOn with
  | none => exact ⟨none, .none, e⟩
  | int c t => exact ⟨some c, .int c t, num c e⟩
  | lin c ts x t dd q =>
    cases ts with
    | nil => rw [d8] at q; obtain rfl : c = x := by simpa using q
             exact ⟨some c, .int c t, num c e⟩
    | cons => exact ao e
  | _ => exact ao e
theorem jL {s:List α} {lo hi:V} {k:List α->af} (h1:VR Z.T Z.rg G lo w1) (h2:VR Z.T Z.rg G hi w2) (e:iy s lo hi k=true):E2 λp q=>A3 (IsPart w1 p) (IsPart w2 q) (k (sl3 s p q)=true):=by
 refine aA (zp h1 e) λp a e=>?_;refine aA (zp h2 e) λq b e=>?_;refine⟨p,q,a,b,?_⟩;rw[oN,oK,List.drop_take,bw]at e;exact e
def EP (Z:Zt) (G:Gh) (st:St) (k:List V->St->af) (ws:List Value):Prop:=E3 λν' st' l=>A5 (G.ν <+:ν') (dS st st') (dn ν' st') (SR Z.T Z.rg {G with ν:=ν'} l ws) (k l st')
theorem EP.now {k:List V->St->af} (D:dn G.ν st) (h:SR Z.T Z.rg G l ws) (e:k l st=true):EP Z G st k ws:=⟨G.ν,st,l,dN _,dS.refl _,D,h,e⟩
theorem tL {k:List V->af}:∀{l:List V} {ws:List Value} {n:Nat},SR Z.T Z.rg G l ws->Iz l n k=true->∃r,k r=true/\SR Z.T Z.rg G r (ws.take n)
 |[],_,n,h,e=>by induction h using SR.knil;exact⟨[],e,by simp;exact .nil⟩
 |x::l,ws,0,h,e=>⟨[],e,by simp;exact .nil⟩
 |x::l,ws,n+1,h,e=>by
  refine ib e λe g=>?_
  induction h using SR.kcons with
  |seg _ _ _ _ e0=>subst e0;cases g
  |cons w ws h r=>
   exact aA (tL r e) λr' e h'=>⟨_,e,by refine aa List.take_succ_cons ?_;exact .cons _ _ _ _ h h'⟩
theorem SR.split (h:SR Z.T Z.rg G (x::l) ws):E2 λa b=>A3 (ws=a++b) (SR Z.T Z.rg G [x] a) (SR Z.T Z.rg G l b):=by
 induction h using SR.kcons with
 |cons w ws h r=>exact⟨[w],ws,rfl,.cons _ _ _ _ h .nil,r⟩
 |seg i cut us ws e0 q h r=>subst e0;exact⟨us,ws,rfl,by have:=SR.seg (rg:=Z.rg) i cut us [] [] q h .nil;rwa [List.append_nil]at this,r⟩
theorem xK {c:Int} {ts:Ts} {x:Int} (D:dn G.ν st) (d:Df G.ν ts) (q:c+ev G.ν ts=x):∀{l:List V} {ws:List Value} {a:Int} {us:Ts} {pos:Int},SR Z.T Z.rg G l ws->Df G.ν us->a+ev G.ν us=pos->sW st c ts l a us k=true->
  E2 λr j=>A4 (k r=true) (x=pos+(j:Nat)) (SR Z.T Z.rg G r (ws.drop j)) (j<=ws.length):=by
 intro l
 induction l with
 |nil=>
  intro ws a us pos h d2 q2 e;refine kN (cQ G.ν gJ us d2) λm1 m2=>?_;refine kN (cE G.ν ts _ d m2) λa1 a2=>?_;rcases eg D.dom a2 e with e |e
  ·refine bA e (λe z=>?_) λe _=>?_
   ·have z:=(aB _ _).mp z;rw[a1,m1,bq,d7,lh]at z
    induction h using SR.knil
    exact⟨[],0,e,by simp;lia,by simp;exact .nil,by simp⟩
   ·exact ao e
  ·exact ao e
 |cons x' l ih=>
  intro ws a us pos h d2 q2 e;refine kN (cQ G.ν gJ us d2) λm1 m2=>?_;refine kN (cE G.ν ts _ d m2) λa1 a2=>?_;have more:S4 x' (sW st c ts l) a us k ()->E2 λr j=>A4 (k r=true) (x=pos+(j:Nat)) (SR Z.T Z.rg G r (ws.drop j)) (j<=ws.length):=λe=>by
   refine ak h.split λA B ee151 hA hB=>?_;refine aa ee151 ?_;refine ak (CD hA e) λb vs e d3 q3=>?_;refine kN (cE G.ν us vs d2 d3) λb1 b2=>?_;refine cJ (ih (pos:=pos+A.length) hB b2 (by refine aa b1 (aa (aN ..) ?_);lia) e) λr j e y z t=>?_;refine⟨r,A.length+j,e,by simp+arith [y],?_,by simp;omega⟩;refine bI List.drop_drop (aa List.drop_left ?_);exact z
  rcases eg D.dom a2 e with e |e
  ·refine bA e (λe z=>?_) λe _=>?_
   ·have z:=(aB _ _).mp z;rw[a1,m1,bq,d7,lh]at z;exact⟨x'::l,0,e,by simp;lia,by assumption,by simp⟩
   ·exact more e
  ·exact more e
theorem py:∀{l:List V} {ws:List Value} {st:St} {k:List V->St->af},SR Z.T Z.rg G l ws->dn G.ν st->zn l st k=true->ws≠[]/\EP Z G st k ws.dropLast
 |[],ws,st,k,h,D,e=>ao e
 |[x],ws,st,k,h,D,e=>by
  refine ib e λe g=>?_
  induction h using SR.kcons with
  |seg _ _ _ _ e0=>subst e0;cases g
  |cons w ws h r=>induction r using SR.knil;exact⟨by simp,.now D .nil e⟩
 |[x,y],ws,st,k,h,D,e=>by
  refine ak h.split λA B ee152 hA hB=>?_;refine aa ee152 ?_
  induction hB using SR.kcons with
  |cons w B hy r=>
   induction r using SR.knil
   have e:=by induction hy using VR.casesOn<;>exact e
   exact⟨by simp,by refine aa List.dropLast_concat ?_;exact .now D hA e⟩
  |seg j cut us B e0 q hu r=>
   subst e0
   induction r using SR.knil
   refine aa (List.append_nil ..) ?_;refine ib e λe g=>?_;subst g;refine ib e λe g=>?_
   induction hA using SR.kcons with
   |seg _ _ _ _ e0=>subst e0;cases g
   |cons w A hx r=>
    induction r using SR.knil
    refine iP (rU q hu) λs1 s2 s3=>?_;refine cJ (BP.of (k:=λt st=>ah t (k [x,.seg j true] st) (k [] st)) D (lw gJ [(lQ j,bt)] st (λt st=>ah t (k [x,.seg j true] st) (k [] st)) D.dom (Df.cons s3 (Df.nil _)) e)) λν' st' p e S D'=>?_;refine⟨by simp,?_⟩;have e7:lQ j=j+7:=rfl;simp only[aU,d8,dG,d7,e7]at e;have s1:(us.length)=G.ν.getD (j+7) 0:=s1;cases us with
    |nil=>
     rw[<-s1]at e;exact⟨ν',st',[],p,S,D',.nil,e⟩
    |cons u us=>
     have:decide (0<= -1+(1*G.ν.getD (j+7) 0+0)):=by refine bI s1 ?_;simp+arith
     rw[this]at e;refine⟨ν',st',[x,.seg j true],p,S,D',?_,e⟩;have hd:F2 bP (u::us).dropLast (Z.T.seg j).dropLast:=by
      refine aa List.dropLast_eq_take (aa List.dropLast_eq_take (aa hu.length ?_));exact hu.take _
     have:=SR.cons x w _ _ (hx.mono (cx p)) (.seg j true (u::us).dropLast [] [] ⟨(q.mono p).1,q.2.1,λ_ z=>by replace hu:=(z ..)▸hu;cases hu⟩ hd .nil);rw[List.append_nil]at this;exact this
 |x::y::z::l,ws,st,k,h,D,e=>by
  refine ak h.split λA B ee153 hA hB=>?_;refine aa ee153 ?_;refine kN (py hB D e) λne zz154=>?_;refine gn zz154 λν' st' r p S D' hr e=>?_;refine⟨by simp[ne],ν',st',x::r,p,S,D',?_,e⟩;exact aa (List.dropLast_append_of_ne_nil ne) (SR.app (hA.mono (cx p)) hr)
theorem tS {ws:List Value} {lo hi:V} (h:SR Z.T Z.rg G s ws) (h1:VR Z.T Z.rg G lo w1) (h2:VR Z.T Z.rg G hi w2) (D:dn G.ν st) (e:tT s lo hi st k=true):
  E2 λp q=>A3 (IsPart w1 p) (IsPart w2 q) (EP Z G st k (sl3 ws p q)):=by
 refine bA e (λe g=>?_) λe g=>?_
 ·refine fZ h2 e λx t hx=>?_;refine ak (bQ hx e) λc ts e d q=>?_;cases ts with
  |cons=>exact ao e
  |nil=>
   refine ax e λe g2=>?_;have g2:=(aB _ _).mp g2;replace q:=(g2 ..)▸q;obtain rfl:x= -1:=q.symm;refine⟨none,some (-1),?_,.int _ t,?_⟩
   ·induction h1 using VR.casesOn<;>first |exact .none |exact ao g
   ·have:=(py h D e).2;have eq:sl3 ws none (some (-1))=ws.dropLast:=by
     unfold sl3;simp only[Option.elim];refine aa (show((-1))= -(1)from rfl ..) (aa (clipAt_neg _ _ (aQ rfl) ..) (aa List.dropLast_eq_take ?_));rfl
    exact aa eq (this)
 ·refine fZ h1 e λx t hx=>?_;refine ak (bQ hx e) λc ts e d q=>?_;refine ib e λe _=>?_;refine cJ (xK (pos:=0) D d q h (Df.nil _) (by refine aa (d8 ..) ?_;rfl) e) λr j e ee157 hr hj=>?_;subst ee157;refine bA e (λe g2=>?_) λe g2=>?_
  ·refine⟨some j,none,by simpa using IsPart.int j t,?_,?_⟩
   ·induction h2 using VR.casesOn<;>first |exact .none |exact ao g2
   ·have eq:sl3 ws (some j) none=ws.drop j:=by
     unfold sl3;rw[Option.elim,clipAt_nat];refine aa (Nat.min_eq_left hj) ?_;rw[List.take_of_length_le (by simp)]
    exact aa eq (.now D hr e)
  ·refine fZ h2 e λy u hy=>?_;refine ak (bQ hy e) λc' us e d2 q2=>?_;refine kN (cQ G.ν gJ ts d) λm1 m2=>?_;refine kN (cE G.ν us _ d2 m2) λa1 a2=>?_;rcases eg D.dom a2 e with e |e
   ·refine ax e λe g3=>?_;have g3:=(aY _ _).mp g3;have hw:d6 c' c+ev G.ν (fS us (fG gJ ts))=y-j:=by refine aa a1 (aa m1 (aa (bq ..) (aa d7 ?_)));lia
    rw[hw]at g3 e;refine kX (⟨(y-j).toNat,Eq.symm (Int.toNat_of_nonneg g3)⟩:∃w:Nat,y-j=w) λw hw'=>?_;rw[hw']at e;refine aA (tL hr e) λl e hl=>?_;refine⟨some j,some y,by simpa using IsPart.int j t,.int _ u,?_⟩;have eq:sl3 ws (some j) (some y)=(ws.drop j).take w:=by
     unfold sl3;have:y=((j+w:Nat)):=by lia
     refine aa this ?_;simp only[Option.elim,clipAt_nat];refine aa (Nat.min_eq_left hj) ?_
     by_cases z:j+w<=ws.length
     ·refine aa (Nat.min_eq_left z) ?_;congr 1;exact Nat.add_sub_self_left j w
     ·refine aa (Nat.min_eq_right (Nat.le_of_not_ge z) ..) ?_;refine aa (List.take_of_length_le (by simp) ..) ?_;rw[List.take_of_length_le (by simp;lia)]
    exact aa eq (.now D hl e)
   ·exact ao e
theorem qP {lo hi:V} (h:SR Z.T Z.rg G s ws) (h1:VR Z.T Z.rg G lo w1) (h2:VR Z.T Z.rg G hi w2) (D:dn G.ν st) (e:nI lo hi st k s=true):
  ws.length<=400000/\E2 λp q=>A3 (IsPart w1 p) (IsPart w2 q) (EP Z G st k (sl3 ws p q)):=by
 refine ax e λe g=>?_;refine⟨h.szOk g,?_⟩;refine bA e (λe _=>?_) λe g2=>?_
 ·exact tS h h1 h2 D e
 ·rw[eR]at g2;rw[Bool.or_eq_false_iff]at g2;exact ak (jL h1 h2 e) λp q a b e=>⟨p,q,a,b,.now D (.of_plain ((h.plain g2.1).sl3 p q)) e⟩
end
end
section
open PySem PySem.W PySem.Calls PyProof.Rows PySem.Builtin.Str
section
variable{Z:Zt} {n:Nat} {sc:Scope} {sl:List Str}
def tz (Z:Zt) (n:Nat) (sc:Scope) (sl:List Str) (a:Ev):Option Expr->Prop
 |none=>a=eK .none
 |some e=>av Z n sc sl a e
theorem yD (h:tz Z n sc sl a o) (F:FxOk Z X n sc) {G G':Gh} (L:G.Le G') {vs st m s} (I:bg Z X sl G' vs st m s) (y:a vs st k kE=true):
  wpAny (model Z.prog Z.w) X.A (evalPart o X.env) (bf Z X sl G' vs m k) (c6 Z X G.ν m kE) s:=by
 cases o with
 |none=>subst h;exact evalPart_none_step (.now I .none y)
 |some e=>exact evalPart_some_step (tI h F L I y)
theorem Gr (h:F2 (λw (u:UInt8)=>bP w u.toNat) ws b.toList):F2 (λw i=>∃t,w=Value.int i t) ws (KBw.bInts b):=by
 unfold KBw.bInts;generalize b.toList=l at h
 induction h with
 |nil=>exact .nil
 |cons h _ ih=>exact .cons h ih
theorem Gd (h:F2 (λw i=>∃t,w=Value.int i t) ws (KBw.bInts b)):F2 (λw (u:UInt8)=>bP w u.toNat) ws b.toList:=by
 unfold KBw.bInts at h;generalize b.toList=l at h
 induction l generalizing ws with
 |nil=>cases h;exact .nil
 |cons c l ih=>cases h with |cons h t=>exact .cons h (ih t)
set_option tactic.hygienic true in
theorem zP (x:List Nat) (p q:Option Int):Txt.slice (aj x) p q=aj (sl3 x p q):=by
 have hl:(aj x).length=x.length:=fU x;have ind:strSliceIndices p q 1 x.length=(List.range (q.elim x.length (clipAt x.length)-p.elim 0 (clipAt x.length))).map ((p.elim 0 (clipAt x.length))+·):=by
  rw[<-sliceRange_one];unfold strSliceIndices;cases p<;>cases q<;>simp[clipAt_cast]
 have pick:((strSliceIndices p q 1 x.length).filterMap ((aj x).cps[·]?))=sl3 x p q:=by
  rw[ind,pick_run];rfl
 unfold Txt.slice;rw[hl]
 split
 ·rename_i h
  simp only[beq_self_eq_true,Bool.true_and,beq_iff_eq]at h;rw[ind]at h;simp only[List.length_map,List.length_range]at h;have:sl3 x p q=x:=by
   unfold sl3;have h1:p.elim 0 (clipAt x.length)<=x.length:=by cases p with |none=>simp |some i=>have:=clipAt_cast x.length i;simp only[Option.elim];omega
   have h2:q.elim x.length (clipAt x.length)<=x.length:=by cases q with |none=>simp |some i=>have:=clipAt_cast x.length i;simp only[Option.elim];omega
   by_cases z:x.length=0
   ·rw[List.length_eq_zero_iff.mp z];simp
   ·rw[show p.elim 0 (clipAt x.length)=0 by lia,List.drop_zero,List.take_of_length_le (by lia)]
  rw[this]
 ·rw[pick];rfl
theorem Kg (h:Tx x) (p q:Option Int):Tx (sl3 x p q):=λc hc=>h c (List.mem_of_mem_drop (List.mem_of_mem_take hc))
theorem Ml {a lo hi:Ev} {x:Str} {p0 p1 pos} {o1 o2:Option Expr} (h1:av Z n sc sl a (.Name x p0)) (h2:tz Z n sc sl lo o1) (h3:tz Z n sc sl hi o2):av Z n sc sl (qe a lo hi) (.Subscript (.Name x p0) (.Slice o1 o2 none p1) pos):=λX F G vs st m s k kE I y=>by
 refine Subscript_ (h1.w0 F I y λw1 s1 G1 v1 st1 L1 r1 y1 I1=>?_);refine wpAny_Slice (aq (yD h2 F L1 I1 y1) (λw2 s2 z=>?_) λ_ _ z=>z);refine bX z λG2 v2 st2 L2 r2 y2 I2=>?_;have L12:=L1.trans L2;refine aq (yD h3 F L12 I2 y2) (λw3 s3 z=>?_) λ_ _ z=>z;refine bX z λG3 v3 st3 L3 r3 y3 I3=>?_;refine evalPart_none_step ?_;have L:=L12.trans L3;have r2:=r2.mono L3;refine I3.k λtr I=>?_;refine VR.sel ((r1.mono L2).mono L3) y3 qi rX rW rV (λl t hx y3=>?_) tF qh (λl ws b t h e y3=>?_) tE (λi a' d' hr y3=>?_) gh gf
 ·refine ax (show ah (szOk l) (iy l v2 v3 λl=>k (.str l) st3) false=true from y3) λy4 g=>?_;have hl:=jv g;refine ak (jL r2 r3 y4) λp q a1 a2 e=>?_;have fin:∀h' t' tk,Fr X.base X.L h' m->News X.base X.L h' tr->bf Z X sl G vs m k (.str (Txt.slice (aj l) p q) t') {s3 with heap:=h',toks:=tk}:=λh' t' tk F' N'=>by
   exact aa (zP ..) ((bf.now ⟨tr,I.at F' N'⟩ (.str _ t' (Kg hx p q)) e).up L)
  have hsz:(aj l).length<=sizeLine:=by refine aa (fU ..) (aa sizeLine_eq ?_);exact cM (by assumption) (by decide)
  cases a1<;>cases a2
  ·exact slice_strN_nn I.fr I.nw fin (hsz:=hsz)
  ·exact slice_strN_ns I.fr I.nw fin (hsz:=hsz)
  ·exact slice_strN_sn I.fr I.nw fin (hsz:=hsz)
  ·exact slice_strN_ss I.fr I.nw fin (hsz:=hsz)
 ·refine kN (qP h r2 r3 I.num (show nI v2 v3 st3 (NC k) l=true from y3)) λhl zz159=>?_;obtain⟨p,q,a1,a2,ν',st',l',pp,S,D,hl',e'⟩:=zz159;have hb:=Gr e;refine KBc.slice_K I.fr I.nw rfl a1 a2 (by refine bI hb.length ?_;exact cM (by assumption) (by decide)) λh' t' tk F' N' q'=>?_;have:=hb.sl3 p q;unfold sl3 at this;rw[<-q']at this;exact⟨_,.bytes l',st',L.trans (cx pp),.bytes l' _ _ t' hl' (Gd this),e',(show bg Z X sl _ vs st3 m {s3 with heap:=h',toks:=tk} from⟨tr,I.at F' N'⟩).letters pp S D⟩
 ·refine gm (show obj i st3 (λo=>bJ o (nI v2 v3 st3 (NA k)))=true from y3) λl y4 ho=>?_;refine aJ (I.sto i _ ho) λa2 d2 rr zz161=>?_;obtain⟨e2,ws,nn,hh2,hh3⟩:=zz161;rw[hr]at rr;refine ug rr ?_;subst e2;refine kN (qP hh3 r2 r3 I.num y4) λhl zz164=>?_;obtain⟨p,q,a1,a2,ν',st',l',pp,S,D,hl',e'⟩:=zz164;refine slice_list (items:=ws.toArray) I.fr I.nw ⟨_,I.get hh2,rfl,nn,rfl⟩ a1 a2 (λh' F' N'=>?_) (hsz:=by refine aa sizeLine_eq ?_;simp;exact cM (by assumption) (by decide));rw[slicePick_plain]at N';refine((I.letters pp S D).newL (tk:=s3.toks) (c:=0) (ws:=sl3 ws p q) F' ?_ (λr hr z=>?_) hl' e').up (L.trans (cx pp))
  ·simpa[sl3]using N'
  ·exact absurd (bW (I.nw r hr).1) (by refine aa z ?_;exact Nat.not_lt.mpr (Nat.le_succ _))
end
end
section
theorem zS (x y:List Nat):aj x++aj y=aj (x++y):=by
 show Str.append _ _=_;simp[aj,Str.append]
theorem vY (hx:Tx x) (hy:Tx y):Tx (x++y):=λc hc=>(List.mem_append.mp hc).elim (hx c) (hy c)
theorem tO {T:List (List Nat)} {st:St} (e:tP T c ts st k=true):(∀x∈T,x.length<=4000)/\k (.stab T c ts) st=true:=by
 refine ax e λe g=>?_;rw[bp]at g;exact⟨λx hx=>jv (bO.mp g x hx),e⟩
section
variable{Z:Zt}
theorem MR:iW Z aO .Add:=λn sc sl X F G vs st m s k E a b w1 w2 I h1 h2 e=>by
 refine hG λCC hCC=>?_;have num:∀{c ts x t},Df G.ν ts->c+ev G.ν ts=x->addI c ts b st k->wpAny (model Z.prog Z.w) X.A (binaryOp .Add (.int x t) w2) (bf Z X sl G vs m k) E s:=λ{c ts x t} d q e=>by
  exact fZ h2 e λy u hy=>add_int (.int (I.toks _) _ (Ik I.num d q hy e))
 have txt:∀{x y:List Nat} {t u:Tok},(x++y).length<=4000->(∀t tk,bf Z X sl G vs m k (.str (aj (x++y)) t) {s with toks:=tk})->wpAny (model Z.prog Z.w) X.A (binaryOp .Add (.str (aj x) t) (.str (aj y) u)) (bf Z X sl G vs m k) E s:=λ{x y t u} h q=>by
  refine SB.add (λt' tk=>?_) (hsz:=by refine aa (fU ..) (aa (fU ..) (aa sizeLine_eq ?_));rw[cX]at h;exact cM (by assumption) (by decide));exact aa (zS ..) (q t' tk)
 revert hCC;refine VR.sel h1 e qi rX (λc t e hCC=>?_) (λc ts x t d q e hCC=>?_) (λx t hx e hCC=>?_) (λB c ts nn x t d q hn hB e hCC=>?_) qh qQ tE (λp a' d hr e hCC=>?_) gh gf
 ·refine hCC ?_;exact num (Df.nil _) (by simp[ev]) e
 ·refine hCC ?_;exact num d q e
 ·revert hCC;refine VR.sel h2 e qi rX rW rV (λy u hy e hCC=>?_) (λB c ts nn y u d q hn hB e hCC=>?_) qh qQ tE tD gh gf
  ·refine ax (show ah (szOk (cq x y)) (k (.str (cq x y)) st) false=true from e) λe g=>?_;rw[aX]at g e;refine hCC ?_;exact txt (jv g) λt tk=>.now (I.toks tk) (.str _ t (vY hx hy)) e
  ·refine kN (tO (show tP (aP (cq x) B) c ts st k from e)) λg e=>?_;have hm:(B.map (cq x))[nn]?=some (x++y):=by refine aa (List.getElem?_map ..) (aa hn (bI (aX ..) ?_));rfl
   rw[iC]at g e;refine hCC ?_;refine txt (g _ (List.mem_of_getElem? hm)) λt tk=>.now (I.toks tk) (.stab _ c ts nn _ t d q hm λz hz=>?_) e;refine aA (List.mem_map.mp hz) λz' h1 ee166=>?_;subst ee166;exact aa (aX ..) (vY hx (hB _ h1))
 ·revert hCC;refine VR.sel h2 e qi rX rW rV (λy u hy e hCC=>?_) tF qh qQ tE tD gh gf;refine kN (tO (show tP (aP (λx=>cq x y) B) c ts st k from e)) λg e=>?_;have hm:(B.map (λx=>cq x y))[nn]?=some (x++y):=by refine aa (List.getElem?_map ..) (aa hn (bI (aX ..) ?_));rfl
  rw[iC]at g e;refine hCC ?_;refine txt (g _ (List.mem_of_getElem? hm)) λt tk=>.now (I.toks tk) (.stab _ c ts nn _ t d q hm λz hz=>?_) e;refine aA (List.mem_map.mp hz) λz' h1 ee167=>?_;subst ee167;exact aa (aX ..) (vY (hB _ h1) hy)
 ·revert hCC;refine VR.sel h2 e qi rX rW rV Bd tF qh qQ tE (λq b' d2 hr2 e hCC=>?_) gh gf;refine gm (show obj p st (λo=>bJ o λl=>obj q st λo'=>bJ o' λm=>newList (cq l m) st k) from e) λl e ho=>?_;refine gm e λl' e ho'=>?_;refine I.k λtr I=>?_;refine aJ (I.sto p _ ho) λa2 d3 rr zz170=>?_;obtain⟨e2,ws,nn,g1,g2⟩:=zz170;rw[hr]at rr;refine kN (fE rr) λee171 ee172=>?_;subst ee171 ee172;subst e2;refine aJ (I.sto q _ ho') λa2 d3 rr zz173=>?_;obtain⟨e2,ws',nn',g3,g4⟩:=zz173;rw[hr2]at rr;refine kN (fE rr) λee174 ee175=>?_;subst ee174 ee175;subst e2;replace e:=(aX ..)▸e;have hsz:=(g2.app g4).szOk (dK e).1;refine hCC ?_;refine add_lists I.fr I.nw ⟨_,I.get g1,rfl,nn,rfl⟩ ⟨_,I.get g3,rfl,nn',rfl⟩ (λh' F' N'=>?_) (hsz:=by refine aa sizeLine_eq ?_;rw[cX]at hsz;exact cM (by assumption) (by decide));exact I.newL (tk:=s.toks) (c:=0) F' N' (λr hr z=>absurd (bW (I.nw r hr).1) (by refine aa z ?_;exact fg _)) (g2.app g4) e
end
end
section
open PySem PySem.W PySem.Calls PyProof.Rows PySem.NumText
theorem zK 
  (hs:(text.takeWhile (· !=0)).length<=640) (hr:(int_private%"readNumeral") 0 16 (text.takeWhile (· !=0))=(int_private%"Numeral.value") n)
  (ha:((text.takeWhile (· !=0)).length==text.length)) (h:Q (.int n s.toks) {s with toks:=s.toks+1}):
  wpAny M A ((int_private%"intFromText") v text 16) Q E s:=by
 repeat (any_goals (first
  |assumption
  |(with_reducible refine wpAny_ite_true (dX hs) ?_)
  |(with_reducible refine wpAny_ite_true (dX ha) ?_)
  |wp_step))
 all_goals (try refine aa hr ?_)
 repeat (any_goals (first
  |assumption
  |(with_reducible refine wpAny_ite_true (dX hs) ?_)
  |(with_reducible refine wpAny_ite_true (dX ha) ?_)
  |wp_step))
set_option maxHeartbeats 4000000 in
theorem sN {x:Str} {u t:Tok} {n:Int} (hs:(numSeenOf x).length<=640)
  (hr:(int_private%"readNumeral") 0 16 (numSeenOf x)=(int_private%"Numeral.value") n) (ha:((numSeenOf x).length==(numTextOf x).length)):
  Gives (Builtin.«int.__new__» ⟨[.type "int",.str x u,.int 16 t],[]⟩) (.int n):=
 .of_wp λM A E s Q h=>by
  obtain⟨hp,g,d,tk,os⟩:=s;have f1:=F.conv_sub_int;have f2:=F.madeHere_int;have f6:typeOf (.str x u)=pure (.type "str"):=rfl;have hk:=KIN.Hid.mk (And.intro hs (And.intro hr ha));clear hs hr ha
  repeat (any_goals (first
   |assumption
   |((with_reducible show wpAny _ _ ((int_private%"intFromText") _ _ _) _ _ _);refine zK hk.out.1 hk.out.2.1 hk.out.2.2 ?_)
   |wp_step))
  all_goals first |exact⟨_,rfl,h⟩ |skip
theorem ql (a b:Value):checkBuiltinCall "int.__new__" ⟨[.type "int",a,b],[]⟩=pure ():=by kernel_rfl
theorem nF (a b:Value):checkTypeCall "int" ⟨[a,b],[]⟩=pure ():=by kernel_rfl
theorem args_object_init_3 (a b c:Value):argsOk "object.__init__" ⟨[a,b,c],[]⟩:=by unfold argsOk;kernel_rfl
theorem vr (hs:(numSeenOf x).length<=640)
  (hr:(int_private%"readNumeral") 0 16 (numSeenOf x)=(int_private%"Numeral.value") n) (ha:((numSeenOf x).length==(numTextOf x).length))
  (h:Q (.int n s.toks) {s with toks:=s.toks+1}):wpAny (model prog w) A (call (.type "int") [.str x u,.int 16 t]) Q E s:=
 callType_new F.called_int F.newNe_int (nF _ _) (ql _ _) (λobj=>args_object_init_3 obj _ _) F.entry_int_new (sN hs hr ha).meets (⟨rfl,h⟩)
noncomputable def xw:List (Nat×Nat):=[(48,0),(49,1),(50,2),(51,3),(52,4),(53,5),(54,6),(55,7),(56,8),(57,9),(97,10),(98,11),(99,12),(100,13),(101,14),(102,15)]
theorem Ha:xw.map (λp=>xw.map λq=>((int_private%"readNumeral") 0 16 (numSeenOf (aj [p.1,q.1]))))=xw.map (λp=>xw.map λq=>(int_private%"Numeral.value") ((16*p.2+q.2:Nat):Int)):=by kernel_rfl
theorem G9:∀p∈xw,∀q∈xw,(numSeenOf (aj [p.1,q.1])).length=2/\((numSeenOf (aj [p.1,q.1])).length==(numTextOf (aj [p.1,q.1])).length):=by decide+kernel
theorem zb (e:Db c k=true):∃n,(c,n)∈xw/\k n=true:=by
 refine bA e (λe g=>?_) λe _=>?_
 ·refine ee g λg2 g1=>?_;have g1:=Nat.ble_eq.mp g1;have g2:=Nat.ble_eq.mp g2;refine⟨c-48,?_,e⟩;obtain rfl |rfl |rfl |rfl |rfl |rfl |rfl |rfl |rfl |rfl:c=48\/c=49\/c=50\/c=51\/c=52\/c=53\/c=54\/c=55\/c=56\/c=57:=by lia
  all_goals decide
 ·refine ax e λe g=>?_;refine ee g λg2 g1=>?_;have g1:=Nat.ble_eq.mp g1;have g2:=Nat.ble_eq.mp g2;refine⟨c-87,?_,e⟩;obtain rfl |rfl |rfl |rfl |rfl |rfl:c=97\/c=98\/c=99\/c=100\/c=101\/c=102:=by lia
  all_goals decide
end
section
theorem Es:typeLookup (.type "bytes") "__bytes__"=pure (some (.builtin "bytes.__bytes__")):=by refine aa (typeLookup_type ..) ?_;kernel_rfl
section
variable{prog:Program} {w:World} {A:Around} {E:Value->Shared->Prop} {s:Shared}
theorem Ig (hQ:Q (.bytes b t) s):codeAny (model prog w) A (.call (.builtin "bytes.__new__") ⟨[.type "bytes",.bytes b t],[]⟩) (wants Q E) s:=by
 refine codeAny_of_tree ?_;refine ae (wpAny_of_eq (PySem.F.bm_newCall _) (aR ⟨plainId_quiet PySem.F.bm_plain _,codeAny_builtin PySem.F.bm_entry ?_⟩));refine ae (wpAny_of_eq rfl ?_);refine ae (wpAny_of_eq PySem.F.bm_sub ?_);refine ae (wpAny_of_eq (PySem.F.bm_bind _) ?_);refine ae (wpAny_of_eq rfl ?_);refine ae (wpAny_of_eq rfl ?_);refine ae (wpAny_specialOf (PySem.W.typeIs_bytes _ _ _) Es ?_);refine ae (wpAny_rule ?_);exact aR hQ
theorem mW (hQ:Q (.bytes b t) s):wpAny (model prog w) A (call (.type "bytes") [.bytes b t]) Q E s:=by
 refine callType_codes (Q₁:=λobj s₁=>s₁.TypeIs obj "bytes"/\Q obj s₁) PySem.F.bm_called (PySem.F.bm_typeCall _) F.entry_object_init
  (Ig ⟨PySem.W.typeIs_bytes _ _ _,hQ⟩) λobj s₁ h₁=>?_
 exact⟨h₁.1,F.args_object_init_2 obj _,object_init_meets PySem.F.bm_called.init.lookup PySem.F.bm_called.made (by rfl) prog w A.in1 _ s₁ ⟨h₁.1,rfl,h₁.2⟩⟩
end
end
section
theorem gY {l:List (List Nat×α)} {x:α} (e:i4 s l=some x):(s,x)∈l:=by
 induction l with
 |nil=>exact bd e
 |cons p l ih=>
  have e:ah (jH p.1 s) (some p.2) (i4 s l)=some x:=e;cases q:jH p.1 s with
  |true=>
   rw[q]at e;refine gP e ?_;have:=(bG _ _).mp q;exact bI this (aL ..)
  |false=>rw[q]at e;exact bc _ (ih e)
theorem kJ {o:Option α} {k:α->af} (e:ag o false k=true):∃x,o=some x/\k x=true:=by
 cases o with
 |none=>exact ao e
 |some x=>exact⟨x,rfl,e⟩
theorem C3:∀p∈O3,PySem.intText? (aj p.1)=some (p.2:Int)/\(aj p.1).length<=640:=by decide+kernel
theorem sX:∀n:Nat,n<100->Str.ofString (toString (n:Int))=aj (Mv n)/\Tx (Mv n):=by decide+kernel
theorem FH (n:Nat):FI n=List.range n:=by
 induction n with
 |zero=>rfl
 |succ n ih=>show cq (FI n) [n]=_;rw[aX,ih,List.range_succ]
section
variable{Z:Zt} {n:Nat} {sc:Scope} {sl:List Str}
theorem kF (h:VR Z.T Z.rg G v w) (e:eO v k=true):E2 λs t=>A4 (w=.str (aj s) t) (Tx s) (v=.str s) (k s=true):=by
 refine VR.sel h e qi rX rW rV (λs t x e=>?_) tF qh qQ tE tD gh gf;exact⟨s,t,rfl,x,rfl,e⟩
@[elab_as_elim] theorem nD {G:Gh} {v:V} {w:Value} {k:List Nat->af} {C:V->Value->Prop} (h:VR Z.T Z.rg G v w) (e:eO v k=true) (c:∀s t,Tx s->k s=true->C (.str s) (.str (aj s) t)):C v w:=cJ (kF h e) λs t e1 h1 e2 h2=>e1▸e2▸c s t h1 h2
@[elab_as_elim] theorem vV {G:Gh} {v:V} {w:Value} {k:List Nat->af} {C:Value->Prop} (h:VR Z.T Z.rg G v w) (e:eO v k=true) (c:∀s t,Tx s->v=.str s->k s=true->C (.str (aj s) t)):C w:=cJ (kF h e) λs t e1 h1 e2 h2=>e1▸c s t h1 e2 h2
theorem DU (B:fc Z sc "int" (.type "int")) (h:av Z n sc sl a e) (hs:bR e):av Z n sc sl (ru a) (.Call (.Name "int" p) [e] [] pos):=λX F G vs st m s k kE I y=>by
 exact jh (k':=λx st=>eO x (O4 st k)) (mz _) B h hs F I y λG1 v w st1 s1 L r y1 I1=>vV r y1 λx t _ _ y1=>aA (kJ y1) λz e1 y1=>kN (C3 _ (gY e1)) λg1 g2=>KIN.call_text g1 g2 (.now (I1.toks _) (.int _ _) y1)
theorem AN (B:fc Z sc "int" (.type "int")) (h:av Z n sc sl a e) (hs:bR e):av Z n sc sl (sU a) (.Call (.Name "int" p) [e,.Constant (.int 16) k1 p1] [] pos):=λX F G vs st m s k kE I y=>by
 refine Ec (k':=λx y st=>ah (OZ y) (cI y λc=>ah (eH c 16) (eO x (Pc st k)) false) false) (mz _) B h hs DT (λ_ _=>rfl) F I y λG1 v1 w1 v2 w2 st1 s1 L r1 r2 y1 I1=>?_;refine ax y1 λy1 _=>?_;refine fZ r2 y1 λz u hz=>?_;refine ak (bQ hz y1) λc ts y1 d q=>?_;cases ts with
 |cons=>exact ao y1
 |nil=>
 refine ax y1 λy1 g=>?_;rw[((aB _ _).mp g)]at q;obtain rfl:z=16:=q.symm;refine vV r1 y1 λx t _ _ y1=>?_;cases x with
 |nil=>exact ao y1
 |cons a1 x=>
 cases x with
 |nil=>exact ao y1
 |cons a2 x=>
 cases x with
 |cons=>exact ao y1
 |nil=>
 refine aA (zb (show Db a1 (λx=>Db a2 λy=>GX st1 k (Nat.add (Nat.mul x 16) y)) from y1)) λd1 m1 y1=>?_;refine aA (zb y1) λd2 m2 y1=>?_;refine kN (G9 _ m1 _ m2) λl1 l2=>?_;have hr:=List.map_inj_left.mp (List.map_inj_left.mp Ha _ m1) _ m2;refine vr (by refine aa l1 ?_;simp) hr l2 ?_;have y1:k (.int ((d1*16+d2:Nat))) st1:=y1;rw[Nat.mul_comm d1 16]at y1;exact .now (I1.toks _) (.int _ _) y1
theorem HC (B:fc Z sc "str" (.type "str")) (h:av Z n sc sl a e) (hs:bR e):av Z n sc sl (DS a) (.Call (.Name "str" p) [e] [] pos):=λX F G vs st m s k kE I y=>by
 refine jh (k':=λx st=>cF x (Nx st k)) (mz _) B h hs F I y λG1 v w st1 s1 L r y1 I1=>?_;refine fZ r y1 λx t hx=>?_;refine ak (bQ hx y1) λc ts y1 d q=>?_;have fin:∀nn:Nat,x=nn->nn<100->(∀t',bf Z X sl G1 vs m k (.str (aj (Mv nn)) t') {s1 with toks:=s1.toks+1})->wpAny (model Z.prog Z.w) X.A (call (.type "str") [.int x t]) (bf Z X sl G1 vs m k) (c6 Z X G.ν m kE) s1:=λnn hx hn h=>by
  refine aa hx ?_;exact str_of_int_fit (by refine aa (if_neg (Int.not_ofNat_neg nn) ..) ?_;exact Int.ofNat_lt.mpr hn) (by simp) λ_=>aa ((sX nn hn).1 ..) (h _)
 cases ts with
 |nil=>
  refine ax y1 λy1 g=>?_;refine ee g λg2 g1=>?_;have g1:=(aY _ _).mp g1;have g2:=(cU _ _).mp g2;replace g1:=(lh ..)▸g1;refine kX (⟨c.toNat,by lia⟩:∃nn:Nat,c=nn) λnn ee180=>?_;subst ee180;have hn:=Int.ofNat_lt.mp g2;exact fin nn (q.symm) hn λt'=>.now (I1.toks _) (.str _ t' (sX nn hn).2) y1
 |cons p ts=>
  refine er (ey I1.num.dom d y1) λlo hi y1 _ g3 g4=>?_;refine ax y1 λy1 g=>?_;refine ee g λg2 g1=>?_;have g1:=(aY _ _).mp g1;have g2:=(cU _ _).mp g2;rw[lh]at g1;rw[q]at g3 g4;refine kX (⟨x.toNat,by lia⟩:∃nn:Nat,x=nn) λnn ee181=>?_;subst ee181;refine kX (⟨hi.toNat,by lia⟩:∃hn:Nat,hi=hn) λhn' ee182=>?_;subst ee182;have eT:aP Mv (FI (Nat.succ (fK hn')))=(List.range (hn'+1)).map Mv:=by refine aa (iC ..) (aa (FH ..) ?_);rfl
  rw[eT]at y1;refine fin nn rfl (by lia) λt'=>.now (I1.toks _) (.stab _ c (p::ts) nn _ t' d q ?_ λz hz=>?_) y1
  ·refine aa (List.getElem?_map ..) (aa (List.getElem?_range (by lia) ..) ?_);rfl
  ·refine aA (List.mem_map.mp hz) λi hi ee183=>?_;subst ee183;exact(sX i (by have:=List.mem_range.mp hi;lia)).2
theorem AJ (B:fc Z sc "tuple" (.type "tuple")) (h:av Z n sc sl a e) (hs:bR e):av Z n sc sl (km a) (.Call (.Name "tuple" p) [e] [] pos):=λX F G vs st m s k kE I y=>by
 refine jh (k':=λx st=>gF x (λ_=>k x st) λ_=>dY x λp=>obj p st (Nu st k)) (mz _) B h hs F I y λG1 v w st1 s1 L r y1 I1=>?_;have I0:=I1;refine I1.k λtr I1=>?_
 induction r using VR.casesOn with
 |tup l ws q h e=>exact call_tuple_tup ⟨_,I1.get (I1.imm _ _ e),rfl,0,rfl⟩ (.now I0 (.tup l ws q h e) y1)
 |ref i a' d hr=>
  refine gm y1 λl y2 ho=>?_;refine aJ (I1.sto i _ ho) λa2 d2 rr zz185=>?_;obtain⟨e2,ws,nn,g1,g2⟩:=zz185;rw[hr]at rr;refine ug rr ?_;refine ax y2 λy2 g=>?_;have hsz:=g2.szOk g;refine call_tuple_list ⟨_,I1.get g1,rfl,nn,rfl⟩ (λh' hk=>?_) (by refine aa sizeLine_eq ?_;simp;exact cM (by assumption) (by simp));have F':=I1.fr.keeps hk;have N':News X.base X.L h' tr:=λp hp=>⟨hk _ _ (I1.nw p hp).1,(I1.nw p hp).2⟩;exact I1.newT (F'.push _) (N'.push F' _) (λp hp z=>absurd (bW (N' p hp).1) (by refine aa z ?_;exact fg _)) g2 y2
 |_=>exact ao y1
theorem BV {x:V} {st:St} (e:mr x st k=true):(∃l,x=.tup l/\k l=true)\/E2 λp l=>x=.ref p/\dj p st=some (.list l)/\k l=true:=by
 cases x with
 |tup l=>exact .inl ⟨l,rfl,e⟩
 |ref p=>
  exact gm e λl e ho=>.inr ⟨p,l,rfl,ho,e⟩
 |_=>exact ao e
theorem BU {G vs st m s tr} (I:ap Z X sl G vs st m s tr) {x:V} (h:VR Z.T Z.rg G x w) (e:mr x st k=true):
  E5 λl ws a n o=>A6 (k l=true) (SR Z.T Z.rg G l ws) (w=.ref a) (cO X tr a o) (s.heap.get? a=some o) ((o=cj ws\/o=hM ws n)):=by
 refine hG λCC hCC=>?_;rcases BV e with⟨l,rfl,e⟩ |⟨p,l,rfl,ho,e⟩
 ·induction h using VR.ktup with
  |tup ws a h g=>refine hCC ?_;exact⟨l,ws,a,0,_,e,h,rfl,I.imm _ _ g,I.get (I.imm _ _ g),.inl rfl⟩
 ·induction h using VR.kref with
  |ref a d hr=>
   refine aJ (I.sto p _ ho) λa2 d2 rr zz189=>?_;obtain⟨e2,ws,nn,g1,g2⟩:=zz189;rw[hr]at rr;refine kN (fE rr) λee190 ee191=>?_;subst ee190 ee191;subst e2;refine hCC ?_;exact⟨l,ws,_,nn,_,e,g2,rfl,g1,I.get g1,.inr rfl⟩
theorem AM (B:fc Z sc "list" (.type "list")) (h:av Z n sc sl a e) (hs:bR e):av Z n sc sl (pw a) (.Call (.Name "list" p) [e] [] pos):=λX F G vs st m s k kE I y=>by
 refine jh (k':=λx st=>mr x st λl=>newList l st k) (mz _) B h hs F I y λG1 v w st1 s1 L r y1 I1=>?_;refine I1.k λtr I1=>?_;refine uN (BU I1 r y1) λl ws a nn o y2 hl ee192 _ ho hc=>?_;refine aa ee192 ?_;have hsz:=hl.szOk (dK y2).1;have fin:∀D c h',Fr X.base X.L h' m->News X.base X.L h' ((D,listOf ws.toArray c)::tr)->(∀q∈tr,q.1<D)->bf Z X sl G1 vs m k (.ref D) {s1 with heap:=h'}:=λD c h' F' N' l1=>
  I1.newL F' N' (λp hp=>Nat.ne_of_lt (l1 p hp)) hl y2
 rcases hc with rfl |rfl
 ·exact list_copyKT I1.fr I1.nw ⟨_,ho,rfl,0,rfl⟩ fin (by rw[sizeLine_eq];simp;exact cM (by assumption) (by decide))
 ·exact list_copyK I1.fr I1.nw ⟨_,ho,rfl,nn,rfl⟩ fin (by rw[sizeLine_eq];simp;exact cM (by assumption) (by decide))
theorem yb {st:St} (D:dn G.ν st) {ws:List Value} (h:SR Z.T Z.rg G l ws) (e:Eo st l):∃ns,IntsAre ws ns/\∀n∈ns,0<=n/\n<256:=by
 induction l generalizing ws with
 |nil=>induction h using SR.knil;exact⟨[],.nil,by simp⟩
 |cons v l ih=>
  refine ax e λe g=>?_
  induction h using SR.kcons with
  |cons w ws h r=>
   refine aA (ih r e) λns h1 h2=>?_;have g:cF v (λc ts=>ny st.d ts c c PZ no):=by induction h using VR.casesOn<;>exact g
   refine fZ h g λx t hx=>?_;refine ak (bQ hx g) λc ts g d q=>?_;refine er (ey D.dom d g) λlo hi g _ g3 g4=>?_;refine ee g λg2 g1=>?_;have g1:=(aY _ _).mp g1;have g2:=(cU _ _).mp g2;rw[lh]at g1;have g2:hi<256:=g2;refine⟨x::ns,.cons x t h1,λy hy=>?_⟩;rcases bk.mp hy with rfl |hy
   ·lia
   ·exact h2 y hy
  |seg i cut us ws e0 q hu r=>
   refine aA (ih r e) λns h1 h2=>?_;have hb:∀c∈nQ (Z.T.seg i) cut,c<256:=λc hc=>by
    cases cut with
    |false=>exact q.2.1.2 c hc
    |true=>exact q.2.1.2 c (List.dropLast_subset _ hc)
   have main:∀{us:List Value} {cs:List Nat},F2 bP us cs->(∀c∈cs,c<256)->∃ns,IntsAre us ns/\∀n∈ns,0<=n/\n<256:=by
    intro us cs hu hb
    induction hu with
    |nil=>exact⟨[],.nil,by simp⟩
    |@cons w c us cs h t ih=>
     refine kX h λt' ee194=>?_;refine aa ee194 ?_;refine aA (ih λc hc=>hb c (bc _ hc)) λns h1 h2=>?_;refine⟨c::ns,.cons _ t' h1,λy hy=>?_⟩;rcases bk.mp hy with rfl |hy
     ·have:=hb c (aL ..);lia
     ·exact h2 y hy
   refine aA (main hu hb) λms h3 h4=>?_;have app:∀{us:List Value} {ms:List Int},IntsAre us ms->IntsAre (us++ws) (ms++ns):=by
    intro us ms h3
    induction h3 with
    |nil=>exact h1
    |cons n t _ ih=>exact .cons n t ih
   refine⟨ms++ns,app h3,λy hy=>?_⟩;rcases List.mem_append.mp hy with hy |hy
   ·exact h4 y hy
   ·exact h2 y hy
theorem Em (h:IntsAre ws ns) (hb:AllB ns):F2 (λw (u:UInt8)=>bP w u.toNat) ws (ns.map λn=>n.toNat.toUInt8):=by
 induction h with
 |nil=>exact .nil
 |cons n t _ ih=>exact .cons ⟨t,by rw[hb.head]⟩ (ih hb.tail)
theorem HK (B:fc Z sc "bytes" (.type "bytes")) (h:av Z n sc sl a e) (hs:bR e):av Z n sc sl (xI a) (.Call (.Name "bytes" p) [e] [] pos):=λX F G vs st m s k kE I y=>by
 refine jh (k':=λx st=>iH x (λ_=>k x st) (λ_=>dY x λp=>obj p st λo=>bJ o (PY st k))) (mz _) B h hs F I y λG1 v w st1 s1 L r y1 I1=>?_;have I0:=I1;refine I1.k λtr I1=>?_
 induction r using VR.casesOn with
 |bytes l ws b t h e=>exact mW (.now I0 (.bytes l ws b t h e) y1)
 |ref i a' d hr=>
  refine gm y1 λl y2 ho=>?_;refine aJ (I1.sto i _ ho) λa2 d2 rr zz196=>?_;obtain⟨e2,ws,nn,g1,g2⟩:=zz196;replace rr:=(hr ..)▸rr;refine ug rr ?_;refine ax y2 λy2 g0=>?_;refine ax y2 λy2 g=>?_;have hsz:=g2.szOk g0;refine aA (yb I1.num g2 g) λns h1 h2=>?_;refine bytes_K I1.fr I1.nw ⟨_,I1.get g1,rfl,nn,rfl⟩ h1 h2 (by refine aa sizeLine_eq ?_;exact cM (by assumption) (by simp)) F.handled λh' t tk F' N' hb=>?_;refine .now ⟨tr,I1.at F' N'⟩ (.bytes l ws _ t g2 ?_) y2;exact Em h1 hb
 |_=>exact ao y1
end
end
section
section
variable{Z:Zt} {n:Nat} {sc:Scope} {sl:List Str}
theorem Er (h:SR Z.T Z.rg G l ws) (e:bj O2 l):∃bs,LSm.BoolsAre ws bs/\sG Lx l=bs.any id:=by
 induction l generalizing ws with
 |nil=>induction h using SR.knil;exact⟨[],.nil,rfl⟩
 |cons v l ih=>
  refine ax e λe g=>?_
  induction h using SR.kcons with
  |cons w ws h r=>
   refine aA (ih r e) λbs h1 h2=>?_;refine VR.sel h g qi (λb g=>?_) rW rV Bd tF qh qQ tE tD gh gf;exact⟨b::bs,.cons b h1,by show ah b true (sG Lx l)=_;refine aa h2 ?_;cases b<;>rfl⟩
  |seg _ _ _ _ e0=>subst e0;exact ao g
theorem Ib (B:fc Z sc "any" (.builtin "any")) (h:av Z n sc sl a e) (hs:bR e):av Z n sc sl (eC (Ek a)) (.Call (.Name "any" p) [e] [] pos):=λX F G vs st m s k kE I y=>by
 refine jh (k':=λx st=>dY x λp=>obj p st λo=>bJ o λl=>P5 l st λb st=>k (.bool b) st) (yN _) B h hs F I y λG1 v w st1 s1 L r y1 I1=>?_;refine I1.k λtr I1=>?_;refine VR.sel r y1 qi rX rW rV Bd tF qh qQ tE (λi a' d hr y1=>?_) gh gf;refine gm y1 λl y2 ho=>?_;refine aJ (I1.sto i _ ho) λa2 d2 rr zz200=>?_;obtain⟨e2,ws,nn,g1,g2⟩:=zz200;replace rr:=hr▸rr;refine ug rr ?_;refine ax y2 λy2 g0=>?_;refine ax y2 λy2 g=>?_;refine aA (Er g2 g) λbs h1 h2=>?_;rw[h2]at y2;exact LSm.any_bools I1.fr I1.nw F.handled ⟨_,I1.get g1,rfl,nn,rfl⟩ h1 λh' tk F' N'=>.now ⟨tr,I1.at F' N'⟩ (.bool _) y2
theorem AL (B:fc Z sc "range" (.type "range")) (h:av Z n sc sl a e) (hs:bR e):av Z n sc sl (pv a) (.Call (.Name "range" p) [e] [] pos):=λX F G vs st m s k kE I y=>by
 refine jh (k':=λx st=>cF x (B8 st k)) (mz _) B h hs F I y λG1 v w st1 s1 L r y1 I1=>?_;refine fZ r y1 λx t hx=>?_;refine ak (bQ hx y1) λc ts y1 d q=>?_;cases ts with
 |cons=>exact ao y1
 |nil=>
  rw[d8]at q;obtain rfl:c=x:=by simpa using q
  cases c with
  |negSucc=>exact ao y1
  |ofNat nn=>
   have y1:dC (.rng nn) st1 (λp st=>k (.ref p) st)=true:=y1;refine kX ((show bg Z X sl G1 vs st1 m {s1 with toks:=s1.toks+1+1} from I1.toks _)) λtr I1=>?_;refine call_range_1 ?_;refine yS (I1.newIt (o:={cls:=.type "range",data:=.fields #[.int 0 s1.toks,.int nn t,.int 1 (s1.toks+1)]}) rfl y1 λG' L=>⟨rfl,_,_,_,.inl (aL ..)⟩) λG' i a d st' e1 h1 L' y' I'=>?_;cases e1;exact⟨G',.ref i,st',L',.ref _ _ _ h1,y',I'⟩
theorem xr {G vs st m s} {k:AI->St->af} (I:bg Z X sl G vs st m s) (hv:VR Z.T Z.rg G (.bytes l) w) (y:dC (.bit l) st k=true):
  wpAny (model Z.prog Z.w) A (pyIter w) (M5 Z X sl G vs m k) E s:=by
 refine I.k λtr I=>?_
 induction hv using VR.kbytes with
 |bytes ws b t h e=>
  exact KBw.pyIter_bytes (I.newIt rfl y λG' L=>⟨rfl,b,t,0,ws,_,⟨.inl (aL ..),rfl,rfl⟩,h.mono L,by assumption,Nat.zero_le _⟩)
theorem og {i:Nat} (hh:A.handled=none)
  (ho:s.heap.get? it=some o) (hc:o.cls=.type "bytes_iterator") (hd:o.data=.fields #[.bytes b t,.int i 0]) (hx:b[i]?=none)
  (hQ:∀h' o',h'.get? it=some o'->Heap.ExtBut it s.heap h'->Q none {s with heap:=h'}):wpAny (model prog w) A (pyNext (.ref it)) Q E s:=by
 have hit:KBw.IsBytesIter s.heap it b t i:=⟨o,ho,hc,hd⟩;refine ae (wpAny_attempt (wpAny_callSpecial?_slot (KBw.iter_typeIs hit) KBw.slot_next
  (wpAny_call_entry KBw.slot_next (KBw.iter_typeIs hit) KBw.entry_next ?_ (KBw.args_next _))))
 show wpAny _ _ (field (.ref it) 0>>=_) _ _ s;refine ae (wpAny_field ho hd (x:=.bytes b t) rfl ?_);refine ae (wpAny_field ho hd (x:=.int i 0) rfl ?_);refine ae (wpAny_of_eq rfl ?_);refine aa (Int.toNat_natCast ..) (aa hx ?_);refine ae (wpAny_rule (ae (wpAny_setField ho hd (by simp) ?_)));refine aq (rS (E:=E) hh ho (Obj.isFreed_of_fields (Obj.data_mapFields hd _)) λh' g u=>hQ h' _ g u) (λ_ _ z=>z.elim) λe s' z=>?_;refine ae (aq z (λb s'' y=>?_) λ_ _ y=>y);obtain⟨rfl,y⟩:=y;exact aR y
theorem uo (F:FxOk Z X n sc) {G vs st m s} {i:AI} {a d:Addr} {l:List V} (I:bg Z X sl G vs st m s) (hi:dj i st=some (.bit l)) (hr:G.ρ i=some (a,d)) (y:TJ i st k l=true):
  wpAny (model Z.prog Z.w) X.A (pyNext (.ref a)) (yg Z X sl G vs m k a) E s:=by
 refine hG λCC hCC=>?_;refine I.k λtr I=>?_;refine aJ (I.sto i _ hi) λa1 d1 r1 zz204=>?_;obtain⟨e1,b,t,j,ws,o,⟨h1,c1,c2⟩,h3,h4,hj⟩:=zz204;replace r1:=(hr ..)▸r1;obtain⟨rfl,rfl⟩:=fE r1;cases e1;have g1:=I.get h1;cases l with
 |nil=>
  obtain⟨p,rfl,hfl,y⟩:=cG y;have hx:b[j]?=none:=by
   induction h3 using SR.knil
   generalize hd:b.toList.drop j=r at h4
   induction h4 using F2.knil
   have:=List.drop_eq_nil_iff.mp hd;simpa using this
  refine hCC ?_;refine og F.handled g1 c1 c2 hx λh' o' ho' he=>?_;exact⟨G,_,Gh.Le.refl G,y,I.iter hi hfl hr he ho' trivial⟩
 |cons v r=>
  refine ib y λy sg=>?_;obtain⟨p,rfl,hfl,y⟩:=cG y;refine ak (I.wri p _ hi hfl) λ_ _ hr' ha _=>?_;replace hr':=(hr ..)▸hr';obtain⟨rfl,assumption⟩:=fE hr'
  induction h3 using SR.kcons with
  |seg _ _ _ _ e0=>subst e0;cases sg
  |cons w ws hv hr2=>
   generalize hd:b.toList.drop j=u at h4;cases h4 with
   |@cons _ c _ u hw ht=>
   obtain⟨t',rfl⟩:=hw;have hx:=by
    have:=congrArg (·[0]?) hd;simpa using this
   have hd2:b.toList.drop (j+1)=u:=by refine bI List.drop_drop (aa hd ?_);rfl
   refine hCC ?_;refine KBw.next_item ⟨_,g1,c1,c2⟩ hx λh' hit hs=>?_;exact gD hit λo' ho' k1 k2=>⟨kZ ho' k1 (by rfl),G,v,_,Gh.Le.refl G,.of_vi _ hv.vi,y,I.iter hi hfl hr hs.extBut ho' ⟨rfl,b,t,j+1,ws,o',⟨.inl (bU ha),k1,k2⟩,hr2,by refine aa hd2 ?_;exact ht,((Array.getElem?_eq_some_iff.mp hx).1)⟩⟩
end
end
section
section
variable{prog:Program} {w:World} {A:Around} {E:Value->Shared->Prop} {s:Shared}
theorem AQ (hne:t≠it):∀(n i:Nat) (s:Shared) (Q:List Value->Shared->Prop),s.heap.IsListIter it t i->s.heap.IsList t items->i+n<=items.size->
  (∀h',h'.IsListIter it t (i+n)->Heap.SameBut it s.heap h'->Q ((items.toList.drop i).take n) {s with heap:=h'})->wpAny (model prog w) A (draw (.ref it) n) Q E s:=by
 intro l0
 induction l0 with
 |zero=>
  intro i s Q hit ht hle hQ;exact aR (by simpa using hQ s.heap hit (Heap.SameBut.refl ..))
 |succ n ih=>
  intro i s Q hit ht hle hQ;have hlt:=Nat.lt_of_add_right_lt hle;refine ae (wpAny_pyNext_list_item hit ht (x:=items[i]) (by simp[hlt]) λh₁ hit₁ hs₁=>?_);refine ae (wpAny_holding (ih (i+1) _ _ hit₁ (ht.extBut hs₁.extBut hne) (by lia) λh₂ hit₂ hs₂=>aR ?_));have hd:items.toList.drop i=items[i]::items.toList.drop (i+1):=by simp[List.drop_eq_getElem_cons,hlt]
  have:=hQ h₂ (by refine aa (show i+(n+1)=i+1+n by exact Eq.symm (Nat.succ_add_eq_add_succ i n) ..) ?_;exact hit₂) (hs₁.trans hs₂);rw[hd]at this;exact this
theorem lM (hh:A.handled=none) (ht:s.heap.IsList t items)
  (hQ:∀h',Heap.ExtBut s.heap.objs.size s.heap h'->Q items.toList {s with heap:=h'}):wpAny (model prog w) A (unpackItems (.ref t) items.size none) Q E s:=by
 have hlt:t≠s.heap.objs.size:=by refine aA ht λo ho _=>?_;exact Nat.ne_of_lt (bW ho)
 refine ae ?_
 ·unfold notIterableAtAll;refine ae (wpAny_specialOf ht.typeIs slot_list_iter.lookup ?_);refine aR ?_;refine ae (wpAny_holding (wpAny_pyIter_list ht ?_));refine ae (wpAny_holding (AQ hlt items.size 0 _ _ ⟨_,Heap.get?_push_size _ rfl,rfl,rfl⟩ (ht.push _) (by simp) λh₁ hit₁ hs₁=>?_));have hall:List.take items.size (List.drop 0 items.toList)=items.toList:=by
   exact List.take_of_length_le (by simp)
  refine aa hall ?_;refine aa (if_neg (by simp) ..) ?_;refine ae (wpAny_holding (wpAny_pyNext_list_end hh hit₁ ((ht.push _).extBut hs₁.extBut hlt) (by simp) λh₂ he₂=>?_));refine aR (hQ h₂ λb o hb e=>he₂ b o hb (hs₁.extBut b o hb (eX _ e)))
end
noncomputable def dZ:List Nat->List V->Vs->Vs
 |i::is,v::l,vs=>dZ is l (vs.set i v)
 |_,_,vs=>vs
theorem tU:∀{l:List V} {vs:Vs} {k:Vs->af},BM is l vs k=true->bF l=false/\l.length=is.length/\k (dZ is l vs)=true:=by
 induction is with
 |nil=>
  intro l vs k e;refine ax e λe g=>?_;cases l with
  |nil=>exact⟨rfl,rfl,e⟩
  |cons=>exact ao g
 |cons i is ih=>
  intro l vs k e;refine L.sel l e rfl (λv l e=>?_);refine ib e λe g=>?_;refine iP (ih e) λa b c=>?_;rw[iA]at c;exact⟨by show ah (dJ v) true (bF l)=false;refine aa g ?_;exact a,by simp[b],c⟩
theorem nK {i:Nat} {v:V}:∀{is:List Nat} {l:List V} {vs:Vs},i∉is->dZ is l (vs.set i v)=(dZ is l vs).set i v
 |[],[],_,_=>rfl
 |[],_::_,_,_=>rfl
 |_::_,[],_,_=>rfl
 |j::is,u::l,vs,h=>by
  show dZ is l ((vs.set i v).set j u)=(dZ is l (vs.set j u)).set i v;have hne:i≠j:=λz=>h (by refine aa z ?_;exact aL ..);refine aa (List.set_comm _ _ hne) ?_;rw[nK (λz=>h (bc _ z))]
theorem nN:∀{is js:List Nat} {l r:List V} {vs:Vs},is.length=l.length->dZ (is++js) (l++r) vs=dZ js r (dZ is l vs)
 |[],js,[],r,vs,_=>rfl
 |i::is,js,v::l,r,vs,h=>by
  show dZ (is++js) (l++r) (vs.set i v)=_;refine aa (nN (by simpa using h) ..) ?_;rfl
theorem nM:∀{is:List Nat} {l:List V} {vs:Vs},is.Nodup->is.length=l.length->dZ is.reverse l.reverse vs=dZ is l vs
 |[],[],_,_,_=>rfl
 |i::is,v::l,vs,nd,h=>by
  rw[List.nodup_cons]at nd;refine aa List.reverse_cons (aa List.reverse_cons (aa (nN (by simpa using h) ..) (aa (nM nd.2 (by simpa using h) ..) ?_)));show(dZ is l vs).set i v=dZ is l (vs.set i v);rw[nK nd.1]
section
variable{Z:Zt} {X:Fx} {n:Nat} {sc:Scope} {sl:List Str}
def pW (Z:Zt) (X:Fx) (sl:List Str) (i:Nat) (f:Value->Sem Unit):Prop:=∀G vs st m s v w (Q:Unit->Shared->Prop) E,bg Z X sl G vs st m s->VR Z.T Z.rg G v w->(∀m' s',bg Z X sl G (vs.set i v) st m' s'->Q () s')->wpAny (model Z.prog Z.w) X.A (f w) Q E s
theorem mq (F:FxOk Z X n sc) (nd:sl.Nodup) (hi:sl[i]?=some x) (hk:sc.names.lookup x=some .local):pW Z X sl i (λw=>bindName X.env x w):=λG vs st m s v w Q E I h q=>
 tM F hi nd hk I h λm' s' I'=>q m' s' (by rw[iA]at I';exact I')
theorem tN (F:FxOk Z X n sc) (nd:sl.Nodup) (hi:sl[i]?=some x) (hk:sc.names.lookup x=some .local):pW Z X sl i (λw=>assign (.Name x p) X.env w):=λG vs st m s v w Q E I h q=>by
 exact ae (wpAny_standAt (mq F nd hi hk G vs st m s v w Q E I h q))
theorem qM {G:Gh} {st:St} {Q:Unit->Shared->Prop} {E}:∀{is:List Nat} {fs:List (Value->Sem Unit)} {l:List V} {ws:List Value} {vs:Vs} {m:jF} {s:Shared},F2 (pW Z X sl) is fs->F2 (VR Z.T Z.rg G) l ws->is.length=l.length->
  bg Z X sl G vs st m s->(∀m' s',bg Z X sl G (dZ is l vs) st m' s'->Q () s')->wpAny (model Z.prog Z.w) X.A (assignInOrder fs ws) Q E s:=by
 intro is fs l ws vs m s q1 q2 hl I q
 induction q1 generalizing l ws vs m s with
 |nil=>induction q2 using F2.casesOn with |nil=>exact assignInOrder_nil (q m s I) |cons=>exact nomatch hl
 |cons h r ih=>induction q2 using F2.casesOn with |nil=>exact nomatch hl |cons hv rv=>exact assignInOrder_cons (h _ _ _ _ _ _ _ _ _ I hv λm' s' I'=>ih rv (Nat.succ.inj hl) I' q)
theorem lL (F:FxOk Z X n sc) {G vs st m s} (I:bg Z X sl G vs st m s) (h:VR Z.T Z.rg G x w) (e:mr x st k=true):
  E2 λl ws=>k l=true/\SR Z.T Z.rg G l ws/\∀(Q:List Value->Shared->Prop),(∀s',bg Z X sl G vs st m s'->Q ws s')->wpAny (model Z.prog Z.w) X.A (unpackItems w ws.length none) Q E s:=by
 refine kX I λtr I=>?_;refine uN (BU I h e) λl ws a nn o e hl ee205 _ ho hc=>?_;subst ee205;refine⟨l,ws,e,hl,λQ q=>?_⟩;have fin:∀h',Heap.ExtBut s.heap.objs.size s.heap h'->Q ws.toArray.toList {s with heap:=h'}:=λh' he=>by
  have:=q _ ⟨tr,I.at (tk:=s.toks) (I.fr.extBut he (c8 _)) (I.nw.extBut he (c8 _))⟩;simpa using this
 have e1:ws.length=ws.toArray.size:=by simp
 rcases hc with rfl |rfl
 ·rw[e1];exact unpackItems_tuple F.handled ⟨_,ho,rfl,0,rfl⟩ fin
 ·rw[e1];exact lM F.handled ⟨_,ho,rfl,nn,rfl⟩ fin
inductive gU (sl:List Str) (sc:Scope):List Nat->List Expr->List Str->Prop
 |nil:gU sl sc [] [] []
 |cons {i:Nat} {x:Str} {p is es xs} (hi:sl[i]?=some x) (hk:sc.names.lookup x=some .local) (r:gU sl sc is es xs):gU sl sc (i::is) (.Name x p::es) (x::xs)
theorem gU.each (F:FxOk Z X n sc) (nd:sl.Nodup) (h:gU sl sc is es xs):(assignEach es X.env).length=is.length/\(assignEach es X.env).findIdx? (·.1)=none/\F2 (pW Z X sl) is ((assignEach es X.env).map (·.2)):=by
 induction h with
 |nil=>exact⟨rfl,rfl,.nil⟩
 |@cons i x p is es xs hi hk r ih=>
  refine iP ih λa b c=>?_;have e:assignEach (.Name x p::es) X.env=(false,assign (.Name x p) X.env)::assignEach es X.env:=rfl;refine aa e ?_;refine⟨by simp[a],by refine aa (List.findIdx?_cons ..) ?_;simp[b],.cons (tN F nd hi hk) c⟩
theorem gU.binds (F:FxOk Z X n sc) (nd:sl.Nodup) (h:gU sl sc is es xs):F2 (pW Z X sl) is (xs.map λx=>bindName X.env x)/\xs.length=is.length:=by
 induction h with
 |nil=>exact⟨.nil,rfl⟩
 |cons hi hk r ih=>exact⟨.cons (mq F nd hi hk) ih.1,by simp[ih.2]⟩
theorem F2.rev {R:α->β->Prop} (h:F2 R l r):F2 R l.reverse r.reverse:=by
 induction h with
 |nil=>exact .nil
 |cons h _ ih=>refine aa List.reverse_cons (aa List.reverse_cons ?_);exact ih.app (.cons h .nil)
theorem EE (nd:sl.Nodup) (h:gU sl sc is es xs):vQ Z n sc sl (.t is) (.Tuple es kx pos):=λX F G vs st m s k E v w I hv y=>by
 refine fp (lL (E:=E) F I hv y) λl ws e hl q=>?_;refine iP (tU e) λg1 g2 g3=>?_;refine iP (h.each F nd) λa b c=>?_;have pl:=hl.plain g1;refine ae (wpAny_standAt ?_);unfold unpack;refine aa a (aa b (bI g2 (aa pl.length ?_)));refine ae (wpAny_holding (q _ λs' I'=>?_));exact qM c pl g2.symm I' λm' s'' I''=>⟨G,_,st,m',Gh.Le.refl G,g3,I''⟩
theorem J7 (nd:sl.Nodup) (ndi:is.Nodup) (h:gU sl sc is es xs) (ha:av Z n sc sl a e)
  (hs:∀env,swapsWithSole [.Tuple es kx tp] e pos.line env=pure false) (hw:∀X,FxOk Z X n sc->swappedStores [.Tuple es kx tp] e X.env=pure none\/swappedStores [.Tuple es kx tp] e X.env=pure (some xs)):
  ca Z n sc sl (xA (.t is) a) (.Assign [.Tuple es kx tp] e pos):=λX F G vs st m s k kE I y=>by
 have run:=aq (ha X F.toFxOk G vs st m s _ kE I y) (λ_ _ z=>z) λ_ _ z=>z.1;rcases hw X F.toFxOk with hw |hw
 ·refine Assign_Tuple (aq run (λw1 s1 z=>?_) λ_ _ z=>z) (hs _) hw;refine bX z λG1 v1 st1 L1 r1 y1 I1=>?_;refine aq (EE nd h X F.toFxOk G1 vs st1 m s1 _ _ v1 w1 I1 r1 y1) (λ_ s2 z=>?_) λ_ _ z=>z;refine CR z λG2 vs2 st2 m2 L2 y2 I2=>?_;exact⟨.next,G2,vs2,st2,m2,.next,L1.trans L2,y2,I2⟩
 ·refine Assign_Tuple_swapped (aq run (λw1 s1 z=>?_) λ_ _ z=>z) (hs _) hw;refine bX z λG1 v1 st1 L1 r1 y1 I1=>?_;have y1:mr v1 st1 (λl=>BM is l vs λvs=>k .next vs st1):=y1;refine fp (lL (E:=i0 Z X G.ν kE) F.toFxOk I1 r1 y1) λl ws e' hl q=>?_;refine iP (tU e') λg1 g2 g3=>?_;have pl:=hl.plain g1;refine kN (h.binds F.toFxOk nd) λb1 b2=>?_;have hn:xs.length=ws.length:=by rw[b2,<-g2,pl.length]
  rw[hn];refine q _ λs' I'=>?_;have b1:=b1.rev;rw[<-List.map_reverse]at b1;refine qM b1 pl.rev (by simp[g2]) I' λm' s'' I''=>?_;rw[nM ndi g2.symm]at I'';exact⟨.next,G1,_,st1,m',.next,L1,g3,I''⟩
end
end
section
theorem C6:∀p∈O9,Txt.contains (aj p.1) (aj FX)=p.2:=by decide+kernel
section
variable{T:cW} {rg:Addr} {H:Addr->Option Obj} {h:Heap}
theorem C5 (I:∀a o,H a=some o->h.get? a=some o) {a:V} {wa:Value} {d:PyData} {as:List Addr} (hd:Reads h wa d as) (cd:d.canLay0):∀{l:List V} {ws:List Value} {G:Gh} {st:St} {k:KB},G.H=H->VR T rg G a wa->SR T rg G l ws->dn G.ν st->SS a l st k=true->
  E2 λds bs=>A4 (ReadsAll h ws ds bs) (PyData.canLayAll0 ds) (PyData.depthAll ds<=FE+FD) (BP G.ν st k (ds.any λy=>PyData.eqv y d))
 |[],ws,G,st,k,hG,ha,hs,D,e=>by induction hs using SR.knil;exact⟨[],_,.nil,by simp[PyData.canLayAll0],by simp[PyData.depthAll],.now D e⟩
 |v::l,ws,G,st,k,hG,ha,hs,D,e=>by
  have e:Hw FE v a st (O7 (SS a l) l k):=e
  induction hs using SR.kcons with
  |seg i cut us ws e0 q hu r=>subst e0;exact ao e
  |cons w ws hv r=>
   refine mA (pt I FE G hG v a st _ w wa hv ha D e) λd1 as1 d2 Uy r1 r2 c1 c2 p1 p2 zz206=>?_;refine cJ zz206 λν' st' p e S D'=>?_;obtain rfl:d2=d:=(Reads.unique r2 d as hd).1;cases q:PyData.eqv d1 d2 with
   |true=>
    rw[q]at e;exact ax e λe g=>ak (ia I hG g r) λds bs q1 q2 q3=>⟨d1::ds,_,.cons r1 q1,by simp[PyData.canLayAll0,c1,q2],by simp only[PyData.depthAll];have:FD<=FE+FD:=Nat.le_add_left _ _;lia,ν',st',p,by simp[q,e],S,D'⟩
   |false=>
    rw[q]at e;have L:=cx p;refine cJ (C5 (G:={G with ν:=ν'}) I hd cd hG (ha.mono L) (r.mono L) D' e) λds bs q1 q2 q3 zz207=>?_;refine cJ zz207 λν2 st2 p2' e2 S2 D2=>?_;exact⟨d1::ds,_,.cons r1 q1,by simp[PyData.canLayAll0,c1,q2],by simp only[PyData.depthAll];exact Nat.max_le_of_le_of_le p1 q3,ν2,st2,p.trans p2',by simpa[q]using e2,S.trans S2,D2⟩
end
section
variable{Z:Zt}
def VT (Z:Zt) (X:Fx) (G:Gh) (st:St) (k:KB) (w1 w2:Value) (s:Shared):Prop:=E2 λr tk=>BP G.ν st k r/\(∀Q E,Q (.bool r) {s with toks:=tk}->wpAny (model Z.prog Z.w) X.A (compareOp .In w1 w2) Q E s)/\
 ∀Q E,Q (.bool (!r)) {s with toks:=tk}->wpAny (model Z.prog Z.w) X.A (compareOp .NotIn w1 w2) Q E s
theorem C4 (F:FxOk Z X n sc) {G vs st m s} {k:KB} {a b w1 w2} (I:bg Z X sl G vs st m s) (h1:VR Z.T Z.rg G a w1) (h2:VR Z.T Z.rg G b w2) (e:vw a b st k=true):VT Z X G st k w1 w2 s:=by
 refine hG λCC hCC=>?_;refine I.k λtr I=>?_;have D:=I.num;have row:∀{l:List V} {ws:List Value},SR Z.T Z.rg G l ws->LF a l st k->E4 λd as ds bs=>A6 (Reads s.heap w1 d as) (d.canLay0) (ReadsAll s.heap ws ds bs) (PyData.canLayAll0 ds) (PyData.depthAll ds<=FE+FD) (BP G.ν st k (ds.any λy=>PyData.eqv y d)):=λ{l ws} hs e=>by
  refine ax e λe g=>?_;have J:=λa o (z:G.H a=some o)=>I.get (I.imm a o z);exact ak (sZ J FD G rfl a w1 g h1) λd as r1 r2 _=>cJ (C5 J r1 r2 rfl h1 hs D e) λds bs q1 q2 q3 B=>⟨d,as,ds,bs,r1,r2,q1,q2,q3,B⟩
 have room:∀{ds:List PyData} {d:PyData},PyData.depthAll ds<=FE+FD->X.A.units+1+min (PyData.depthAll ds) d.depth<cLine:=λ{ds d} h=>by
  have:=F.units;have:=Nat.min_le_left (PyData.depthAll ds) d.depth;have:FE+FD=16:=rfl;lia
 induction h2 using VR.casesOn with
 |str y u hy=>
  refine cJ (kF h1 (show eO a (O5 st k y) from e)) λx t ee208 hx ee209 e=>?_;subst ee208 ee209;refine ax e λe g=>?_;have g:=(bG _ _).mp g;subst g;refine aA (kJ e) λz e1 e=>?_;have:=C6 _ (gY e1);refine hCC ?_;exact⟨z,s.toks,.now D e,λQ E q=>SB.contains (by refine aa this ?_;exact q),λQ E q=>SB.notContains (by refine aa this ?_;exact q)⟩
 |tup l ws q h e'=>
  refine Jh (row h e) λd as ds bs r1 r2 q1 q2 q3 B=>?_;have rt:Reads s.heap (.ref q) (.tuple ds) _:=.tuple (I.get (I.imm _ _ e')) rfl rfl (by simpa using q1);refine hCC ?_;exact⟨_,s.toks,B,λQ E q=>SeqAt.in_tuple_reads rt r1 q2 r2 (room q3) q,λQ E q=>SeqAt.notIn_tuple_reads rt r1 q2 r2 (room q3) q⟩
 |ref p a' d' hr=>
  refine aA (ek (show obj p st (T5 a st k) from e)) λo ho e=>?_;revert hCC ho;refine O.sel o e (λl e hCC ho=>?_) Qr (λes e hCC ho=>?_) Qq RN Qp Qo NS NR NQ
  ·refine aJ (I.sto p _ ho) λa2 d2 rr zz210=>?_;obtain⟨e2,ws,nn,g1,g2⟩:=zz210;rw[hr]at rr;refine kN (fE rr) λee211 ee212=>?_;subst ee211 ee212;subst e2;refine Jh (row g2 e) λd as ds bs r1 r2 q1 q2 q3 B=>?_;have rt:Reads s.heap (.ref _) (.list ds) _:=.list (I.get g1) rfl rfl (by simpa using q1);refine hCC ?_;exact⟨_,s.toks,B,λQ E q=>SeqAt.in_list_reads rt r1 q2 r2 (room q3) q,λQ E q=>SeqAt.notIn_list_reads rt r1 q2 r2 (room q3) q⟩
  ·refine aJ (I.sto p _ ho) λa2 d2 rr zz213=>?_;obtain⟨e2,e3,ds,nn,g1,DD⟩:=zz213;rw[hr]at rr;refine kN (fE rr) λee214 ee215=>?_;subst ee214 ee215;refine aa e2 ?_;refine ax (show ah (Jq a) (fw a es λo=>ag o (k false st) λ_=>k true st) false=true from e) λe g=>?_
   induction h1 using VR.casesOn with
   |str x t hx=>
    refine kX (DD.one e) λkvs DD=>?_;have hd:=DD.dictOf (I.get g1);refine(DG DD.2.2.2 e).elim (λz=>kN z λq q1=>?_) λz=>ak z λv w q q1 q2=>?_
    ·refine hCC ?_;exact⟨false,s.toks+1,.now D q,λQ E q=>wpAny_in_of (strKind_is _ _ _ _) e3 hd.mapOf (by refine aa q1 ?_;exact q),λQ E q=>wpAny_notIn_of (strKind_is _ _ _ _) e3 hd.mapOf (by refine aa q1 ?_;exact q)⟩
    ·refine hCC ?_;exact⟨true,s.toks+1,.now D q,λQ E q=>wpAny_in_of (strKind_is _ _ _ _) e3 hd.mapOf (by refine aa q1 ?_;exact q),λQ E q=>wpAny_notIn_of (strKind_is _ _ _ _) e3 hd.mapOf (by refine aa q1 ?_;exact q)⟩
   |tup l ws qa h e'=>
    refine kX (DD.two e) λxs DD=>?_;refine aA (nc h (show bj OZ l from g)) λks i1 i2=>?_;have hd:=DD.dictOf (I.get g1) (λa o z=>I.get (I.imm a o z));have hkey:(Oi Z).is s.heap ks qa:=⟨_,_,_,I.get (I.imm _ _ e'),rfl,rfl,i2⟩;refine(DF i1 DD.2.2 e).elim (λz=>kN z λq q1=>?_) λz=>ak z λv w q q1 q2=>?_
    ·refine hCC ?_;exact⟨false,_,.now D q,λQ E q=>wpAny_in_heap (tupleKind_room_in1 F.room) hkey e3 hd (by refine aa q1 ?_;exact q),λQ E q=>wpAny_notIn_heap (tupleKind_room_in1 F.room) hkey e3 hd (by refine aa q1 ?_;exact q)⟩
    ·refine hCC ?_;exact⟨true,_,.now D q,λQ E q=>wpAny_in_heap (tupleKind_room_in1 F.room) hkey e3 hd (by refine aa q1 ?_;exact q),λQ E q=>wpAny_notIn_heap (tupleKind_room_in1 F.room) hkey e3 hd (by refine aa q1 ?_;exact q)⟩
   |_=>exact ao g
 |_=>exact ao e
theorem ME:ir Z vw .In:=λn sc sl X F G vs st m s k E a b w1 w2 I h1 h2 e=>by
 exact fp (C4 F I h1 h2 e) λr tk B h _=>h _ _ ⟨r,rfl,.of (I.toks tk) B⟩
theorem AY:ir Z pC .NotIn:=λn sc sl X F G vs st m s k E a b w1 w2 I h1 h2 e=>by
 refine fp (C4 F I h1 h2 e) λr tk zz216 _ h=>?_;refine cJ zz216 λν' st' p e S D=>?_;simp only[fR]at e;exact h _ _ ⟨_,rfl,.of (I.toks tk) ⟨ν',st',p,e,S,D⟩⟩
end
end
section
open PySem PySem.W PySem.Calls PyProof.Rows PySem.Builtin.Str
noncomputable def jc (c:Nat):List (List Nat)->List Nat
 |[]=>[]
 |[p]=>p
 |p::q::r=>p++c::jc c (q::r)
theorem vf {c:Nat}:∀{p q a b:List Nat},c∉p->c∉q->p++c::a=q++c::b->p=q/\a=b
 |[],[],a,b,_,_,e=>by cases e;exact⟨rfl,rfl⟩
 |[],y::q,a,b,_,h,e=>by cases e;exact absurd (aL ..) h
 |x::p,[],a,b,h,_,e=>by cases e;exact absurd (aL ..) h
 |x::p,y::q,a,b,h1,h2,e=>by
  injection e with e1 e2;exact kN (vf (λz=>h1 (bc _ z)) (λz=>h2 (bc _ z)) e2) λr1 r2=>⟨by refine aa e1 ?_;rw[r1],r2⟩
theorem qZ:∀{p q:List Nat} {r:List (List Nat)},c∈jc c (p::q::r):=List.mem_append_right _ (aL ..)
theorem wL {P:List (List Nat)}:∀{Q:List (List Nat)},P≠[]->Q≠[]->(∀p∈P,c∉p)->(∀p∈Q,c∉p)->jc c P=jc c Q->P=Q:=by
 induction P with
 |nil=>intro _ h;exact absurd rfl h
 |cons p r ih=>
  intro Q _ hq h1 h2 e;cases Q with
  |nil=>exact absurd rfl hq
  |cons q s=>
   cases r with
   |nil=>
    cases s with
    |nil=>rw[show p=q from e]
    |cons q' s=>exact absurd (aa (show p=jc c (q::q'::s)from e) qZ) (h1 p (aL ..))
   |cons p' r=>
    cases s with
    |nil=>exact absurd (bI (show jc c (p::p'::r)=q from e) qZ) (h2 q (aL ..))
    |cons q' s=>
     refine kN (vf (h1 p (aL ..)) (h2 q (aL ..)) e) λe1 e2=>?_;rw[e1,ih (List.cons_ne_nil _ _) (List.cons_ne_nil _ _) (λx hx=>h1 x (bc _ hx)) (λx hx=>h2 x (bc _ hx)) e2]
theorem j5 (c:Nat):∀s:List Nat,eh c s≠[]/\(∀p∈eh c s,c∉p)/\jc c (eh c s)=s/\∀p∈eh c s,∀x∈p,x∈s
 |[]=>⟨by show[[]]≠[];simp,by intro p hp;cases List.mem_singleton.mp hp;simp,rfl,by intro p hp;cases List.mem_singleton.mp hp;decide⟩
 |x::s=>by
  refine jI (j5 c s) λh1 h2 h3 h4=>?_;have e:eh c (x::s)=ah (Nat.beq x c) ([]::eh c s) (aw (eh c s) [[x]] λw r=>(x::w)::r):=rfl;refine aa e ?_;generalize eh c s=P at*;cases P with
  |nil=>exact absurd rfl h1
  |cons p P=>
   cases q:Nat.beq x c with
   |true=>
    have:=gB q;subst this;refine⟨by simp[ah],λp' hp=>?_,?_,λp' hp=>?_⟩
    ·rcases bk.mp hp with rfl |hp
     ·simp
     ·exact h2 p' hp
    ·show[]++x::jc x (p::P)=_;refine aa h3 ?_;rfl
    ·rcases bk.mp hp with rfl |hp
     ·simp
     ·exactλy hy=>bc _ (h4 p' hp y hy)
   |false=>
    refine⟨by simp[aw],λp' hp=>?_,?_,λp' hp=>?_⟩
    ·rcases bk.mp hp with rfl |hp
     ·intro hc;rcases bk.mp hc with e |hc
      ·exact(Nat.ne_of_beq_eq_false q) e.symm
      ·exact h2 p (aL ..) hc
     ·exact h2 p' (bc _ hp)
    ·cases P with
     |nil=>show x::p=_;rw[show p=s from h3]
     |cons p' P=>show(x::p)++c::jc c (p'::P)=_;refine bI h3 ?_;rfl
    ·rcases bk.mp hp with rfl |hp
     ·intro y hy;rcases bk.mp hy with rfl |hy
      ·exact aL ..
      ·exact bc _ (h4 p (aL ..) y hy)
     ·exactλy hy=>bc _ (h4 p' (bc _ hp) y hy)
theorem zQ (x:Str):aj x.cps.toList=x:=by cases x;simp[aj]
theorem rC (x:List Nat):(aj x).cps.toList=x:=by simp[aj]
theorem q8 (c:Nat):∀P:List Str,(Str.join (aj [c]) P).cps.toList=jc c (P.map (·.cps.toList))
 |[]=>rfl
 |[p]=>rfl
 |p::q::r=>by
  have app:∀a b:Str,(a++b).cps.toList=a.cps.toList++b.cps.toList:=λa b=>by show(Str.append a b).cps.toList=_;simp[Str.append]
  refine aa (app ..) ?_;refine aa (app ..) ?_;refine aa ((q8 c (q::r)) ..) ?_;rw[rC];simp[jc]
theorem wh (c:Nat) (s:List Nat):Txt.split (aj s) (aj [c])=(eh c s).map aj:=by
 refine jI (j5 c s) λh1 h2 h3 h4=>?_;have e:(Txt.split (aj s) (aj [c])).map (·.cps.toList)=eh c s:=by
  refine wL ?_ h1 ?_ h2 ?_
  ·intro z;have:=split_pos (aj s) (aj [c]);simp at z;rw[z]at this;simp at this
  ·intro p hp;refine aA (List.mem_map.mp hp) λq hq ee217=>?_;subst ee217;exact StrLaws.split_free (aj s) c q hq
  ·refine bI (q8 ..) ?_;refine aa (StrLaws.join_split ..) ?_;rw[rC,h3]
 refine bI e (aa List.map_map ?_)
 conv=>lhs;rw[<-List.map_id (Txt.split (aj s) (aj [c]))]
 exact List.map_congr_left λx _=>(zQ x).symm
theorem zL:∀p∈Bx,Txt.words (aj p.1)=p.2.map aj/\(aj p.1).length<=1000/\∀q∈p.2,Tx q:=by decide+kernel
theorem Cy:∀p∈N8,Txt.lstripChars (aj p.1) (aj IG)=aj p.2/\(aj p.1).length<=1000/\Tx p.2:=by decide+kernel
theorem C7:∀p∈Pa,∃r,occurrences (aj p.1) (aj FX) 0 (aj p.1).length 1=p.2::r:=by
 intro p hp;cases hp with
 |head=>exact⟨[],by decide+kernel⟩
 |tail _ h=>cases h
end
section
open PySem PySem.W PySem.Calls PyProof.Rows PySem.Builtin.Str
section
variable{Z:Zt} {n:Nat} {sc:Scope} {sl:List Str}
def j3 (o:Expr) (name:Str) (apos:Pos) (es:List Expr) (pos:Pos):Prop:=∀env,∃pl,eval (.Call (.Attribute o name apos) es [] pos) env=(do
   let ov <-eval o env
   standAt apos.atName
   let(f,first) <-holding [ov] (getMethod ov name pl)
   callWith pos f first (backTo pos (starEach es env)) (backToKw pos (keywordEach [] env)))
def zH (s:Shared) (w:Value) (T:String):Prop:=s.TypeIs w T/\∀a,w=.ref a->∃o,s.heap.get? a=some o/\o.dict=none
theorem qY {T:String} {id:String} {k':V->List V->St->af} (pa:PlainAttrs T) (slot:Slot T name id) (hty:typeOf (.builtin id)=pure (.type "method_descriptor"))
  (ha:av Z n sc sl a o) (h:eD Z n sc sl l es) (he:j3 o name apos es pos) (F:FxOk Z X n sc) {G vs st m s} {K:K} {g:V->St->af} (I:bg Z X sl G vs st m s) (y:a vs st g kE=true)
  (kind:∀G' v w st' s',VR Z.T Z.rg G' v w->bg Z X sl G' vs st' m s'->g v st'=true->zH s' w T/\Fg l vs st' (k' v) kE=true)
  (next:∀G' v w as ws st' s',G.Le G'->VR Z.T Z.rg G' v w->F2 (VR Z.T Z.rg G') as ws->ws.length=es.length->k' v as st'=true->bg Z X sl G' vs st' m s'->wpAny (model Z.prog Z.w) X.A (call (.builtin id) (w::ws)) (bf Z X sl G' vs m K) (c6 Z X G.ν m kE) s'):
  wpAny (model Z.prog Z.w) X.A (eval (.Call (.Attribute o name apos) es [] pos) X.env) (bf Z X sl G vs m K) (c6 Z X G.ν m kE) s:=by
 refine kX (he X.env) λpl he=>?_;refine methodCall_KW (ha.w0 F I y λw1 s1 G1 v1 st1 L1 r1 y1 I1=>?_) he;refine kN (kind _ _ _ _ _ r1 I1 y1) λzz218 y2=>?_;refine kN zz218 λk1 k2=>?_;refine getMethod_builtin k1 pa slot hty k2 ?_;exact mG F (yN id) h I1 y2 (λ_ _ z=>z.up L1.ν) λws s' z=>gn z λG2 as st2 L2 r2 y3 I2 hl=>Kf (next G2 v1 w1 as ws st2 s' (L1.trans L2) (r1.mono L2) r2 hl y3 I2) (L1.trans L2)
theorem Au {G vs st m s} (I:bg Z X sl G vs st m s) {p:AI} (h:VR Z.T Z.rg G (.ref p) w) (e:dj p st=some (.list l)):zH s w "list":=by
 refine I.k λtr I=>?_
 induction h using VR.kref with
 |ref a d hr=>
  refine aJ (I.sto p _ e) λa2 d2 rr zz219=>?_;obtain⟨e2,ws,nn,g1,g2⟩:=zz219;rw[hr]at rr;refine ug rr ?_;exact⟨⟨_,I.get g1,rfl⟩,λb e=>by cases e;exact⟨_,I.get g1,rfl⟩⟩
theorem Av {G vs st m s} (I:bg Z X sl G vs st m s) {p:AI} (h:VR Z.T Z.rg G (.ref p) w) (e:dj p st=some (.dict l)):zH s w "dict":=by
 refine I.k λtr I=>?_
 induction h using VR.kref with
 |ref a d hr=>
  refine aJ (I.sto p _ e) λa2 d2 rr zz222=>?_;obtain⟨e2,e3,ds,nn,g1,g2⟩:=zz222;rw[hr]at rr;refine ug rr ?_;exact⟨⟨_,I.get g1,rfl⟩,λb e=>by cases e;exact⟨_,I.get g1,rfl⟩⟩
theorem k8 {X:Fx} {G} {s:Shared} {v:V} {w:Value} {k:List Nat->af} (h:VR Z.T Z.rg G v w) (e:eO v k=true):zH s w "str":=by
 exact vV h e λx t _ _ _=>⟨rfl,λa e=>nomatch e⟩
theorem nY (e:nZ o k=true):∃l,o=.dict l/\k l=true:=by cases o<;>first |exact⟨_,rfl,e⟩ |exact ao e
theorem IM {p:AI} {st:St} (e:obj p st (λo=>nZ o k)=true) {C:Prop} (c:∀l,k l=true->dj p st=some (.dict l)->C):C:=aA (ek e) λo ho e=>aA (nY e) λl q e=>c l e (q▸ho)
theorem qL {G vs st m s tr} (I:ap Z X sl G vs st m s tr) {P:List (List Nat)} (hP:∀p∈P,Tx p) (e:newList (aP V.str P) st k=true) {l:List (Str×Tok)} (hl:l.map (·.1)=P.map aj) 
  (F':Fr X.base X.L h' m) (N':News X.base X.L h' ((s.heap.objs.size,{cls:=.type "list",data:=.seq (strValues l).toArray})::tr)):bf Z X sl G vs m k (.ref s.heap.objs.size) {s with heap:=h',toks:=tk}:=by
 refine I.newL F' N' (λr hr z=>absurd (bW (I.nw r hr).1) (by refine aa z ?_;exact fg _)) ?_ e;clear N' e
 induction P generalizing l with
 |nil=>cases l with
  |nil=>exact .nil
  |cons=>cases hl
 |cons p P ih=>cases l with
  |nil=>cases hl
  |cons q l=>
   rw[fy,fy,List.cons.injEq]at hl;obtain⟨q1,q2⟩:=q;refine kN hl λh1 h2=>?_;subst h1;exact .cons _ _ _ _ (.str p q2 (hP p (aL ..))) (ih (λx hx=>hP x (bc _ hx)) h2)
theorem AK (hc:c<128) (hx:x=aj [c]) (ha:av Z n sc sl a o) (he:j3 o "split" apos [.Constant (.str x) k1 p1] pos):
  av Z n sc sl (gp a c) (.Call (.Attribute o "split" apos) [.Constant (.str x) k1 p1] [] pos):=λX F G vs st m s k kE I y=>by
 have hb:av Z n sc sl (eK (.str [c])) (.Constant (.str x) k1 p1):=xG hx λy hy=>by cases List.mem_singleton.mp hy;exact hc
 refine qY (k':=λx l st=>eO (l.headD .unset) λt=>ah (jH t [c]) (eO x (wj c st k)) false) PySem.F.plainAttrs_str PySem.F.slot_str_split PySem.F.type_str_split ha (.cons hb (λ_ _=>rfl) .nil) he F I y
  (λG1 v w st1 s1 r I1 y1=>⟨k8 (X:=X) r y1,?_⟩) λG1 v w as ws st1 s1 L r ra hl y1 I1=>?_
 ·show ah (jH [c] [c]) (eO v (wj c st1 k)) false;exact aa ((bG _ _).mpr rfl ..) (y1)
 ·induction ra using F2.casesOn with
  |nil=>cases hl
  |cons hv ra=>induction ra using F2.casesOn with
   |cons=>cases hl
   |nil=>
    refine nD hv y1 λt u _ y2=>?_;refine ax y2 λy3 g=>?_;refine aa ((bG _ _).mp g) ?_;refine nD r y3 λz u2 hz y4=>?_;refine ax y4 λy5 g2=>?_;have hsz:=jv g2;exact I1.k λtr I1=>splitN1 I1.fr I1.nw rfl (λl h' tk hl F' N'=>qL I1 (λp hp y hy=>hz y ((j5 c z).2.2.2 p hp y hy)) y5 (hl.trans (wh c z)) F' N') (hsz:=by refine aa sizeLine_eq (aa (fU ..) ?_);lia)
theorem xF (ha:av Z n sc sl a o) (hb:av Z n sc sl b e) (hs:bR e) (he:j3 o "lstrip" apos [e] pos):av Z n sc sl (sT a b) (.Call (.Attribute o "lstrip" apos) [e] [] pos):=λX F G vs st m s k kE I y=>by
 refine qY (k':=λx l st=>eO x λs=>eO (l.headD .unset) (N9 st k s)) PySem.F.plainAttrs_str PySem.F.slot_str_lstrip PySem.F.type_str_lstrip ha (.cons hb hs .nil) he F I y (λG1 v w st1 s1 r I1 y1=>⟨k8 (X:=X) r y1,?_⟩) λG1 v w as ws st1 s1 L r ra hl y1 I1=>?_
 ·refine cJ (kF r y1) λx t _ _ ee230 y1=>?_;exact aa ee230 (y1)
 ·induction ra using F2.casesOn with
  |nil=>cases hl
  |cons hv ra=>induction ra using F2.casesOn with
   |cons=>cases hl
   |nil=>
    refine nD r y1 λx t _ y1=>?_;refine nD hv y1 λy u _ y1=>?_;refine ax y1 λy1 g=>?_;refine aa ((bG _ _).mp g) ?_;exact aA (kJ y1) λz e1 y1=>iP (Cy _ (gY e1)) λg1 g2 g3=>SCL.lstripChars (λt' tk _=>by refine aa g1 ?_;exact .now (I1.toks tk) (.str _ t' g3) y1) (hsz:=cM g2 (by refine aa sizeLine_eq ?_;simp))
theorem AO (ha:av Z n sc sl a o) (hb:av Z n sc sl b e) (hs:bR e) (he:j3 o "index" apos [e] pos):av Z n sc sl (xH a b) (.Call (.Attribute o "index" apos) [e] [] pos):=λX F G vs st m s k kE I y=>by
 refine qY (k':=λx l st=>eO x λs=>eO (l.headD .unset) (Pb st k s)) PySem.F.plainAttrs_str PySem.F.slot_str_index PySem.F.type_str_index ha (.cons hb hs .nil) he F I y (λG1 v w st1 s1 r I1 y1=>⟨k8 (X:=X) r y1,?_⟩) λG1 v w as ws st1 s1 L r ra hl y1 I1=>?_
 ·refine cJ (kF r y1) λx t _ _ ee235 y1=>?_;exact aa ee235 (y1)
 ·induction ra using F2.casesOn with
  |nil=>cases hl
  |cons hv ra=>induction ra using F2.casesOn with
   |cons=>cases hl
   |nil=>
    exact nD r y1 λx t _ y1=>nD hv y1 λy u _ y1=>ax y1 λy1 g=>aa ((bG _ _).mp g) (aA (kJ y1) λz e1 y1=>kX (C7 _ (gY e1)) λrest g1=>call_gives PySem.F.slot_str_index (typeIs_str _ _ _) PySem.F.entry_str_index (PySem.F.args_str_index_2 _ _) (gives_str_index _ _ _ _ _ _ g1) (.now (I1.toks _) (.int _ _) y1))
theorem HI {a b c:Ev} (ha:av Z n sc sl a o) (hb:av Z n sc sl b e1) (s1:bR e1) (hc:av Z n sc sl c e2) (s2:bR e2) (he:j3 o "get" apos [e1,e2] pos):av Z n sc sl (Mo a b c) (.Call (.Attribute o "get" apos) [e1,e2] [] pos):=λX F G vs st m s k kE I y=>by
 refine qY (k':=λx l st=>dY x λp=>obj p st λo=>nZ o (Pj (l.headD .unset) (l.tail.headD .unset) st k)) PySem.F.plainAttrs_dict PySem.F.slot_dict_get PySem.F.type_dict_get ha (.cons hb s1 (.cons hc s2 .nil)) he F I y (λG1 v w st1 s1 r I1 y1=>?_) λG1 v w as ws st1 s1 L r ra hl y1 I1=>?_
 ·refine aA (cb y1) λp ee240 y1=>?_;subst ee240;exact IM y1 λl y1 ho=>⟨Av I1 r ho,y1⟩
 ·refine aA (cb y1) λp ee242 y1=>?_;subst ee242;refine IM y1 λes y1 ho=>?_
  induction ra using F2.casesOn with
  |nil=>cases hl
  |@cons v2 w2 _ _ hv ra=>induction ra using F2.casesOn with
   |nil=>cases hl
   |@cons v3 w3 _ _ hd ra=>induction ra using F2.casesOn with
    |cons=>cases hl
    |nil=>
     have I0:=I1;refine I1.k λtr I1=>?_
     induction r using VR.kref with
     |ref a' d hr=>
      refine aJ (I1.sto p _ ho) λa2 d2 rr zz244=>?_;obtain⟨e2,e3,ds,nn,g1,DD⟩:=zz244;rw[hr]at rr;refine ug rr ?_;refine ax (show ah (Jq v2) (fw v2 es λo=>ag o (k v3 st1) λv=>k v st1) false=true from y1) λy1 g=>?_
      induction hv using VR.casesOn with
      |str x t hx=>
       refine kX (DD.one y1) λkvs DD=>?_;have hd':=DD.dictOf (I1.get g1);refine call_meetsIn PySem.F.slot_dict_get hd'.typeIs PySem.F.entry_dict_get (PySem.F.args_dict_get_3 _ _ _) (meets_dict_get_default _ _ (strKind_is _ _ _ _) e3 _) ⟨_,hd'.mapOf,?_⟩;refine(DG DD.2.2.2 y1).elim (λz=>kN z λq q1=>?_) λz=>ak z λv w q q1 q2=>?_
       ·exact aa q1 (.now (I0.toks _) hd q)
       ·exact aa q1 (.now (I0.toks _) q2 q)
      |tup l ws q h e'=>
       refine kX (DD.two y1) λxs DD=>?_;refine aA (nc h g) λks i1 i2=>?_;have hd':=DD.dictOf (I1.get g1) (λa o z=>I1.get (I1.imm a o z));refine call_meetsIn PySem.F.slot_dict_get hd'.typeIs PySem.F.entry_dict_get (PySem.F.args_dict_get_3 _ _ _) (meetsH_dict_get_default _ _ _ e3 _) ⟨tupleKind_room_in1 F.room,ks,xs,⟨_,_,_,I1.get (I1.imm _ _ e'),rfl,rfl,i2⟩,hd',?_⟩;refine(DF i1 DD.2.2 y1).elim (λz=>kN z λq q1=>?_) λz=>ak z λv w q q1 q2=>?_
       ·exact aa q1 (.now (I0.toks _) hd q)
       ·exact aa q1 (.now (I0.toks _) q2 q)
      |_=>exact ao g
theorem xD (ha:av Z n sc sl a o) (he:j3 o "split" apos [] pos):av Z n sc sl (iG a) (.Call (.Attribute o "split" apos) [] [] pos):=λX F G vs st m s k kE I y=>by
 refine qY (k':=λx _ st=>eO x λs=>ag (i4 s Bx) false λl=>newList (aP V.str l) st k) PySem.F.plainAttrs_str PySem.F.slot_str_split PySem.F.type_str_split ha .nil he F I y (λG1 v w st1 s1 r I1 y1=>⟨k8 (X:=X) r y1,y1⟩) λG1 v w as ws st1 s1 L r ra hl y1 I1=>?_
 induction ra using F2.casesOn with
 |cons=>cases hl
 |nil=>
  exact nD r y1 λx t _ y1=>aA (kJ y1) λP e1 y1=>iP (zL _ (gY e1)) λh1 h2 h3=>I1.k λtr I1=>splitN0 I1.fr I1.nw (λl h' tk hl F' N'=>qL I1 h3 y1 (hl.trans h1) F' N') (hsz:=cM (Nat.add_le_add_right h2 2) (by refine aa sizeLine_eq ?_;simp))
end
end
section
section
variable{Z:Zt} {n:Nat} {sc:Scope} {sl:List Str}
theorem AP:av Z n sc sl sV (.Dict [] [] pos):=λX F G vs st m s k kE I y=>by
 refine I.k λtr I=>?_;refine wpAny_Dict_empty ?_;have lo:=by
  have h1:=modules_low F.top.nolimit;exact beq_eq_false_iff_ne.mpr (Nat.ne_of_gt (jG h1 (cM I.fr.above (Nat.le_of_lt (bW (i5 I.fr.ns).choose_spec.1)))))
 refine yS (I.newIt rfl y λG' L=>⟨rfl,lo,[],0,.inl (aL ..),.inl ⟨[],λ_ h=>(by simp at h),.nil,List.nodup_nil,.nil⟩⟩) λG' i a d st' e1 h1 L' y' I'=>?_;cases e1;exact⟨G',.ref i,st',L',.ref _ _ _ h1,y',I'⟩
theorem BO (hy:VR Z.T Z.rg G y w):∀{l:List V} {ws:List Value} {i:Nat} {k:List V->af},SR Z.T Z.rg G l ws->BQ y l i k=true->∃r,A3 (k r=true) (i<ws.length) (SR Z.T Z.rg G r (ws.set i w)):=by
 intro l0
 induction l0 with
 |nil=>
  intro ws i k h e;exact ao e
 |cons x l ih=>
  intro ws i k h e;refine ib (show ah (dJ x) false (i6 i (k (y::l)) (λj=>BQ y l j λr'=>k (x::r')))=true from e) λe g=>?_
  induction h using SR.kcons with
  |seg _ _ _ _ e0=>subst e0;cases g
  |cons v ws h r=>
   cases i with
   |zero=>exact⟨_,e,by simp,.cons _ _ _ _ hy r⟩
   |succ i=>
    exact l3 (ih r e) λr' e h1 h2=>⟨_,e,by simp;omega,.cons _ _ _ _ h h2⟩
theorem zY {K:Type} [DecidableEq K] {kv:K×Value} {r:List (K×Value)} {k:K} {v:Value} (h:kv.1≠k):stored (kv::r) k v=kv::stored r k v:=by
 unfold stored;simp only[List.any_cons,fz h,Bool.false_or,fy,if_neg h]
 split<;>rfl
theorem zZ {K:Type} [DecidableEq K] {kv:K×Value} {r:List (K×Value)} {v:Value} (h:kv.1∉r.map (·.1)):stored (kv::r) kv.1 v=(kv.1,v)::r:=by
 unfold stored;simp only[List.any_cons,decide_true,Bool.true_or,if_true,fy];rw[map_store_of_not_mem _ _ _ h]
theorem wf {K:Type} [DecidableEq K] {x:K×Addr×Value} {r:List (K×Addr×Value)} {k:K} {a:Addr} {v:Value} (h:x.1≠k):storedH (x::r) k a v=x::storedH r k a v:=by
 have e:atKey (x::r) k=atKey r k:=by unfold atKey;simp[h]
 unfold storedH;refine aa e ?_
 split
 ·simp[putAt,h]
 ·rfl
theorem wg {K:Type} [DecidableEq K] {x:K×Addr×Value} {r:List (K×Addr×Value)} {a:Addr} {v:Value} (h:x.1∉r.map (·.1)):storedH (x::r) x.1 a v=(x.1,x.2.1,v)::r:=by
 have e:atKey (x::r) x.1=some x.2:=by unfold atKey;simp
 unfold storedH;refine aa e (aa fy (aa (map_putAt_of_not_mem _ _ _ h) ?_));simp[putAt]
theorem RJ {p:AI} {x:List Nat} {st:St} (hv:VR Z.T Z.rg G v w):∀{es acc:List (V×V)} {kvs kacc:List (Str×Value)},F2 (R1 Z G) es kvs->F2 (R1 Z G) acc kacc->(kvs.map (·.1)).Nodup->
  rx p (.str x) v es acc st k=true->∃es',put st p (.dict es') k=true/\F2 (R1 Z G) es' (kacc++stored kvs (aj x) w):=by
 intro es acc kvs kacc h ha nd e
 induction h generalizing acc kacc with
 |nil=>exact⟨acc++[(.str x,v)],by refine bI (aX ..) ?_;exact e,ha.app (.cons ⟨⟨x,rfl,rfl⟩,hv⟩ .nil)⟩
 |@cons pp kv es kvs h r ih=>
  obtain⟨p1,p2⟩:=pp;refine kN (id h) λzz249 h3=>?_;obtain⟨y,h1,h2⟩:=zz249;subst h1;rw[fy,List.nodup_cons]at nd;refine bA e (λe2 q=>?_) λe2 q=>?_
  ·have:=(bG _ _).mp q;subst this;rw[aX]at e2;refine⟨_,e2,ha.app ?_⟩;refine bI h2 (aa (zZ nd.1) ?_);exact .cons ⟨⟨x,rfl,h2⟩,hv⟩ r
  ·have:kv.1≠aj x:=by refine aa h2 ?_;exactλz=>by replace q:=((bG _ _).mpr (gX.mp z).symm ..)▸q;cases q
   refine aA (ih (by refine aa (aX ..) ?_;exact ha.app (.cons h .nil)) nd.2 e2) λes' e3 r'=>?_;refine⟨es',e3,?_⟩;refine aa (zY this) ?_;simpa using r'
theorem RI {p:AI} {l:List V} {st:St} (hl:mL l ks) (hG:G.H a=some (cj ws)) (hi:ItemsAre (PySem.intKind Z.prog Z.w) ks ws) (hv:VR Z.T Z.rg G v w):
  ∀{es acc:List (V×V)} {xs xacc:List (List Int×Addr×Value)},F2 (R2 Z G) es xs->F2 (R2 Z G) acc xacc->(xs.map (·.1)).Nodup->
  rx p (.tup l) v es acc st k=true->∃es',put st p (.dict es') k=true/\F2 (R2 Z G) es' (xacc++storedH xs ks a w):=by
 intro es acc xs xacc h ha nd e
 induction h generalizing acc xacc with
 |nil=>exact⟨acc++[(.tup l,v)],by refine bI (aX ..) ?_;exact e,ha.app (.cons ⟨⟨⟨l,rfl,hl⟩,ws,hG,hi⟩,hv⟩ .nil)⟩
 |@cons pp x es xs h r ih=>
  obtain⟨p1,p2⟩:=pp;refine kN (id h) λzz250 h3=>?_;obtain⟨⟨y,h1,h2⟩,h4⟩:=zz250;subst h1;rw[fy,List.nodup_cons]at nd;have e:=q9 hl h2 (show gR l y (λt=>ah t (put st p (.dict (cq acc ((.tup y,v)::es))) k) (rx p (.tup l) v es (cq acc [(.tup y,p2)]) st k)) from e);refine bA e (λe2 q=>?_) λe2 q=>?_
  ·refine aa (cg q) ?_;replace e2:=(aX ..)▸e2;refine⟨_,e2,ha.app ?_⟩;exact aa (wg nd.1) (.cons ⟨⟨⟨y,rfl,h2⟩,h4⟩,hv⟩ r)
  ·have:x.1≠ks:=λz=>(of_decide_eq_false q) z.symm;refine aA (ih (by refine aa (aX ..) ?_;exact ha.app (.cons h .nil)) nd.2 e2) λes' e3 r'=>?_;refine⟨es',e3,?_⟩;refine aa (wf this) ?_;simpa using r'
theorem DR.one' {p:AI} {st:St} (D:DR Z G es ds) (e:rx p (.str x) v es acc st k=true):∃kvs,Qh Z G es ds kvs:=by
 rcases D with D |⟨xs,h1,h2,h3⟩
 ·exact D
 ·induction h3 using F2.casesOn with
  |nil=>
   cases h1;exact⟨[],λ_ h=>(by simp at h),.nil,List.nodup_nil,.nil⟩
  |@cons p x' es xs h t=>
   refine kN h λzz251 _=>?_;obtain⟨⟨y,h1,_⟩,_⟩:=zz251;obtain⟨p1,p2⟩:=p;subst h1;exact ao e
theorem DR.two' {p:AI} {st:St} (D:DR Z G es ds) (e:rx p (.tup l) v es acc st k=true):∃xs,Qg Z G es ds xs:=by
 rcases D with⟨kvs,h1,h2,h3,h4⟩ |D
 ·induction h4 using F2.casesOn with
  |nil=>
   obtain rfl:ds=[]:=List.length_eq_zero_iff.mp (by refine aa h2.length ?_;rfl);exact⟨[],rfl,List.nodup_nil,.nil⟩
  |@cons p kv es kvs h t=>
   refine kN h λzz252 _=>?_;obtain⟨y,h1,_⟩:=zz252;obtain⟨p1,p2⟩:=p;subst h1;exact ao e
 ·exact D
theorem Ll {G vs st m s tr} (I:ap Z X sl G vs st m s tr) (h:d∈tr.map (·.1)) (g:s.heap.get? d=some o):(d,o)∈tr:=by
 refine aA (List.mem_map.mp h) λx hx e=>?_;have g1':=(I.nw x hx).1;rw[show x.1=d from e,g]at g1';rw[<-show x=(d,o)from Prod.ext e (ch g1').symm];exact hx
theorem pj (h:o.ExactDict) (hd:o.data=.dict es ep):o=dictOf es.toList ep:=by
 obtain⟨c,d,dt,sl⟩:=o;refine iP h λh1 h2 h3=>?_;simp only at h1 h2 h3 hd;refine aa hd ?_;refine aa h3 ?_;refine aa h2 ?_;refine aa h1 ?_;simp[dictOf]
theorem wq (F:FxOk Z X n sc) {G vs st m s} (I:bg Z X sl G vs st m s) (hx:VR Z.T Z.rg G x wx) (hi:VR Z.T Z.rg G i wi) (hv:VR Z.T Z.rg G v wv) (e:AX.setItem x i v st k=true):
  wpAny (model Z.prog Z.w) X.A (PySem.setItem wx wi wv) (λ_=>MS Z X sl G vs m k) E s:=by
 refine aA (cb e) λp ee253 e=>?_;subst ee253;refine aA (ek e) λo ho e=>?_;refine I.k λtr I=>?_
 induction hx using VR.kref with
 |ref a d hr=>
 revert ho;refine O.sel o e (λl e ho=>?_) Qr (λes e ho=>?_) Qq RN Qp Qo NS NR NQ
 ·refine fZ hi e λz t hz=>?_;refine ak (bQ hz e) λc ts e d2 q=>?_;cases ts with
  |cons=>exact ao e
  |nil=>
  cases c with
  |negSucc=>exact ao e
  |ofNat j=>
  rw[d8]at q;obtain rfl:z=j:=by refine bI q ?_;simp
  refine aJ (I.sto p _ ho) λa2 d3 rr zz255=>?_;obtain⟨e2,ws,nn,g1,g2⟩:=zz255;rw[hr]at rr;refine kN (fE rr) λee256 ee257=>?_;subst ee256 ee257;subst e2;refine ax e λe gj=>?_;have gj:=Nat.ble_eq.mp gj;obtain⟨r,e,hj,hr2⟩:=BO hv g2 e;obtain⟨pz,rfl,hfl,e⟩:=cG e;have ho:=ho;obtain⟨a3,d4,rr,ha',_⟩:=I.wri pz _ ho hfl;rw[hr]at rr;obtain⟨rfl,rfl⟩:=fE rr;have hm:=I.get g1;refine ki_setAt hm (by simp) (by lia) (by simp;omega) ?_;have q2:=by
   simpa using(PySem.IsL.update hm (·.setIfInBounds (j:Int).toNat wv))
  exact⟨G,_,Gh.Le.refl G,e,I.iter ho hfl hr (Heap.SameBut.update ..).extBut q2 ⟨rfl,ws.set j wv,nn,.inl (bU ha'),hr2⟩⟩
 ·refine aJ (I.sto p _ ho) λa2 d3 rr zz258=>?_;obtain⟨e2,e3,ds,nn,g1,DD⟩:=zz258;rw[hr]at rr;refine kN (fE rr) λee259 ee260=>?_;subst ee259 ee260;subst e2;refine ax e λe g=>?_;refine ax e λe gs=>?_;have gs:=jv gs;revert e;refine VR.sel hi g qi rX rW rV (λx t hx g e=>?_) tF qh qQ (λl ws qa h e' g e=>?_) tD gh gf
  ·refine kX (DD.one' e) λkvs DD=>?_;have hd:=DD.dictOf (I.get g1);refine aA (RJ hv DD.2.2.2 .nil DD.2.2.1 e) λes' e r'=>?_;obtain⟨pz,rfl,hfl,e⟩:=cG e;have ho:=ho;obtain⟨a3,d4,rr,ha',_⟩:=I.wri pz _ ho hfl;rw[hr]at rr;obtain⟨rfl,rfl⟩:=fE rr;refine wpAny_setItem_pairs (strKind_is _ _ _ _) hd (λh' hm hs=>?_) (by refine bI DD.2.2.2.length ?_;exact cM (by assumption) (by decide));obtain⟨o',ar,ep,k1,k2,k3,k4,k5,k6⟩:=hm;rw[pj k2 k3]at k1;exact⟨G,_,Gh.Le.refl G,e,I.iter ho hfl hr hs.extBut k1 ⟨rfl,e3,ar.toList,ep,.inl (bU ha'),.inl ⟨_,by simpa using k4,k5,k6,r'⟩⟩⟩
  ·refine kX (DD.two' e) λxs DD=>?_;refine aA (nc h g) λks i1 i2=>?_;have hd:=DD.dictOf (I.get g1) (λa o z=>I.get (I.imm a o z));have hkey:(Oi Z).is s.heap ks qa:=⟨_,_,_,I.get (I.imm _ _ e'),rfl,rfl,i2⟩;refine aA (RI i1 e' i2 hv DD.2.2 .nil DD.2.1 e) λes' e r'=>?_;obtain⟨pz,rfl,hfl,e⟩:=cG e;have ho:=ho;obtain⟨a3,d4,rr,ha',_⟩:=I.wri pz _ ho hfl;rw[hr]at rr;obtain⟨rfl,rfl⟩:=fE rr;refine wpAny_setItem_heap (tupleKind_room_in1 F.room) hkey hd (λh' hm hs=>?_) (by refine bI DD.2.2.length ?_;exact cM (by assumption) (by decide));obtain⟨o',ar,ep,k1,k2,k3,k4,k5,k6⟩:=hm;rw[pj k2 k3]at k1;exact⟨G,_,Gh.Le.refl G,e,I.iter ho hfl hr hs.extBut k1 ⟨rfl,e3,ar.toList,ep,.inl (bU ha'),.inr ⟨_,k4,k6,r'⟩⟩⟩
theorem J8 (ho:av Z n sc sl o eo) (hi:av Z n sc sl i ei) (h:av Z n sc sl a e) (hs:∀env,swapsWith e (some (.Subscript eo ei p1)) pos.line env=pure false):
  ca Z n sc sl (Nh o i a) (.Assign [.Subscript eo ei p1] e pos):=λX F G vs st m s k kE I y=>by
 refine wpAny_Assign_Subscript (aq (h X F.toFxOk G vs st m s _ kE I y) (λw1 s1 z=>?_) λ_ _ z=>z.1) (hs _);refine bX z λG1 v1 st1 L1 r1 y1 I1=>?_;refine aq (tI ho F.toFxOk L1 I1 y1) (λw2 s2 z=>?_) λ_ _ z=>z.1;refine bX z λG2 v2 st2 L2 r2 y2 I2=>?_;refine aq (tI hi F.toFxOk (L1.trans L2) I2 y2) (λw3 s3 z=>?_) λ_ _ z=>z.1;refine bX z λG3 v3 st3 L3 r3 y3 I3=>?_;refine aq (wq F.toFxOk I3 (r2.mono L3) r3 ((r1.mono L2).mono L3) y3) (λ_ s4 z=>?_) λ_ _ z=>z;exact ak z λG4 st4 L4 y4 I4=>⟨.next,G4,vs,st4,m,.next,((L1.trans L2).trans L3).trans L4,y4,I4⟩
inductive vP (P:Expr->Prop):List Nat->List Expr->Prop
 |nil:vP P [] []
 |cons {eo:Expr} {f:Nat} {name:Str} {p fs es} (he:P eo) (hf:f<44) (hn:name=b9 f) (r:vP P fs es):vP P (f::fs) (.Attribute eo name p::es)
theorem vP.each {fs es} (h:vP P fs es):(assignEach es env).length=fs.length/\(assignEach es env).findIdx? (·.1)=none:=by
 induction h with
 |nil=>exact⟨rfl,rfl⟩
 |@cons eo f name p fs es he hf hn r ih=>
  have e:assignEach (.Attribute eo name p::es) env=(false,assign (.Attribute eo name p) env)::assignEach es env:=rfl;refine aa e ?_;refine⟨by simp[ih.1],by refine aa (List.findIdx?_cons ..) ?_;simp[ih.2]⟩
theorem BR (KS:mj Z) (ho:∀eo,P eo->av Z n sc sl o eo) (F:FxOk Z X n sc):∀{fs:List Nat} {es:List Expr} {l:List V} {ws:List Value} {G st s},vP P fs es->G0.Le G->F2 (VR Z.T Z.rg G) l ws->
  bg Z X sl G vs st m s->BS o fs l vs st k kE=true->(∀s',MS Z X sl G0 vs m k s'->Q () s')->wpAny (model Z.prog Z.w) X.A (assignInOrder ((assignEach es X.env).map (·.2)) ws) Q (c6 Z X G0.ν m kE) s:=by
 intro fs es l ws G st s d L h I e q
 induction d generalizing l ws G st s with
 |nil=>
  refine ax e λe g=>?_;cases l with
  |cons=>exact ao g
  |nil=>induction h using F2.knil;exact assignInOrder_nil (q _ ⟨G,st,L,e,I⟩)
 |@cons eo f name p fs es he hf hn r ih=>
  induction h using F2.casesOn with
  |nil=>exact ao e
  |@cons v w l ws hv hr=>
   refine ib (show ah (dJ v) false (o vs st (λy st=>AX.setAttr y f v st λst=>BS o fs l vs st k kE) kE)=true from e) λe g=>?_;refine aa hn ?_;refine assignInOrder_cons ?_;refine ae (wpAny_holding (aq (tI (ho eo he) F L I e) (λw2 s2 z=>?_) λ_ _ z=>z));refine bX z λG2 v2 st2 L2 r2 y2 I2=>?_;refine ae (wpAny_standAt (ae (wpAny_holding (aq (nJ KS F hf I2 r2 (hv.mono L2) y2) (λ_ s3 z=>?_) λ_ _ z=>z))));refine ak z λG3 st3 L3 y3 I3=>?_;have L':=L2.trans L3;exact wpAny_release' (ih (L.trans L') (F2.mono hr λ_ _ x=>x.mono L') I3 y3)
theorem Fw (KS:mj Z) (hr:vP P fs es) (ho:∀eo,P eo->av Z n sc sl o eo) (ha:av Z n sc sl a e)
  (hs:∀env,swapsWithSole [.Tuple es kx tp] e pos.line env=pure false) (hw:∀X,FxOk Z X n sc->swappedStores [.Tuple es kx tp] e X.env=pure none):
  ca Z n sc sl (Fy o fs a) (.Assign [.Tuple es kx tp] e pos):=λX F G vs st m s k kE I y=>by
 refine Assign_Tuple (aq (ha X F.toFxOk G vs st m s _ kE I y) (λw1 s1 z=>?_) λ_ _ z=>z.1) (hs _) (hw X F.toFxOk);refine bX z λG1 v1 st1 L1 r1 y1 I1=>?_;refine fp (lL (E:=i0 Z X G.ν kE) F.toFxOk I1 r1 y1) λl ws e' hl q=>?_;refine ib e' λe' g1=>?_;refine ax e' λe' g2=>?_;have g2:=gB g2;rw[bw,bw]at g2;refine kN (hr.each (env:=X.env)) λc1 c2=>?_;have pl:=hl.plain g1;refine ae (wpAny_standAt ?_);unfold unpack;refine aa c1 (aa c2 (bI g2 (aa pl.length ?_)));refine ae (wpAny_holding (q _ λs' I'=>?_));refine aq (BR KS ho F.toFxOk hr L1 pl I' e' λs'' z=>?_) (λ_ _ z=>z) λ_ _ z=>z.1;exact ak z λG4 st4 L4 y4 I4=>⟨.next,G4,vs,st4,m,.next,L4,y4,I4⟩
end
end
section
section
variable{Z:Zt} {n:Nat} {sc:Scope} {sl:List Str}
theorem xQ (a:Addr) (ws:List Value):(Code.builtin "type.__call__" ⟨.ref a::ws,[]⟩).cUnits=1:=rfl
theorem ap.around {G vs st m s tr} (I:ap Z X sl G vs st m s tr):ap Z {X with A:=A'} sl G vs st m s tr:=
 ⟨I.sh,I.fr,I.nw,I.nd,I.loc,I.len,I.out,I.sto,I.wri,I.imm,I.own,I.rng,I.hel,I.cnt,I.num,⟨I.xok.has,I.xok.loc,I.xok.out,I.xok.wri,I.xok.g,I.xok.x,I.xok.f,I.xok.h,I.xok.v⟩⟩
theorem bg.around {G vs st m s} (I:bg Z X sl G vs st m s):bg Z {X with A:=A'} sl G vs st m s:=kX I λtr I=>⟨tr,I.around⟩
theorem bg.arounds {X:Fx} {A':Around} {G vs st m s} (I:bg Z {X with A:=A'} sl G vs st m s):bg Z X sl G vs st m s:=let⟨tr,I⟩:=I
 ⟨tr,I.sh,I.fr,I.nw,I.nd,I.loc,I.len,I.out,I.sto,I.wri,I.imm,I.own,I.rng,I.hel,I.cnt,I.num,⟨I.xok.has,I.xok.loc,I.xok.out,I.xok.wri,I.xok.g,I.xok.x,I.xok.f,I.xok.h,I.xok.v⟩⟩
theorem Dv {c:Value} (F:FxOk Z X (n+2) sc):FxOk Z {X with A:=X.A.under (.builtin "type.__call__" ⟨.ref a::ws,[]⟩)} (n+1) sc where
 inK:=F.inK
 top:=F.top
 frames:=F.frames
 handled:=F.handled
 depth:=by have:=F.depth;show X.A.depth+1+2*(n+1)+20<600;lia
 units:=by have:=F.units;show X.A.units+(Code.builtin "type.__call__" ⟨.ref a::ws,[]⟩).cUnits+40*(n+1)+200<cLine;refine aa (xQ ..) ?_;lia
 locals:=F.locals
 frame:=F.frame
 scope:=F.scope
 kind:=F.kind
 globals:=F.globals
 builtins:=F.builtins
 fkind:=F.fkind
 outK:=F.outK
 frs:=F.frs
theorem Ak {c:Nat} {init:Fn} {fI:Addr} (hc:3<c/\c<16) (hm:makesIn Z.K (Z.cls c)) (hi:findIn Z.K (.ref (Z.cls c)) "__init__"=some (some (.ref fI))) (hf:isFn Z.K (.ref fI)) (h0:iY Z n init fI (na+1) pad)
  {X:Fx} (F:FxOk Z X (n+2) sc) {G vs st m s} {k:K} {kE:KE} {as:List V} (I:bg Z X sl G vs st m s) (ha:F2 (VR Z.T Z.rg G) as ws) (hw:ws.length=na)
  (y:dC (.inst c []) st (λp st=>dy init (.ref p::as) pad st (RV k p) kE)=true):wpAny (model Z.prog Z.w) X.A (call (.ref (Z.cls c)) ws) (bf Z X sl G vs m k) (c6 Z X G.ν m kE) s:=by
 refine I.k λtr I=>?_;refine call_cls I.fr F.inK I.nw hm hi hf λx dx h' F' N' l1 l2=>?_;refine kN (I.grow (tk:=s.toks) F' (λp hp=>N' p (bc _ hp)) (λp hp=>Nat.ne_of_lt (l1 p hp))) λJ1 u1=>?_;obtain⟨J2,u2⟩:=J1.grow F' N' (λp hp=>by
  rcases bk.mp hp with rfl |hp
  ·exact Nat.ne_of_lt l2
  ·exact Nat.ne_of_lt (Nat.lt_trans (l1 p hp) l2))
 have L:=gO (p:=(x,dx)) (I.cnt st.n (c8 _));have X':FxOk Z {X with A:=X.A.under (.builtin "type.__call__" ⟨.ref (Z.cls c)::ws,[]⟩)} (n+1) sc:=Dv (c:=.none) F;have J3':bg Z X sl (G.putI (.d st.n) (x,dx)) vs {st with t:=Tr.set (.inst c []) st.n st.t,n:=st.n.succ} m {s with heap:=h'}:=⟨_,(J2.addI (by simp) (by simp) u2 u1 ⟨⟨hc,List.nodup_nil⟩,[],0,.inl (aL ..),.inl (bc _ (aL ..)),.nil⟩)⟩;have y':=by
  exact y
 refine codeAny_mono (h0 sc sl {X with A:=X.A.under (.builtin "type.__call__" ⟨.ref (Z.cls c)::ws,[]⟩)} X' (G.putI (.d st.n) (x,dx)) vs _ m _ (RV k (.d st.n)) kE _ _ J3'.around (.cons (.ref _ x dx bV) (F2.mono ha λ_ _ z=>z.mono L)) (by simp[hw]) y') λr s' z=>?_;cases r with
 |error e=>exact z.up L.ν
 |ok f=>
  cases f with
  |ret v=>
   refine bX z λG1 v1 st1 L1 r1 y1 I1=>?_;refine ax y1 λy1 g=>?_;have hv:v=.none:=by induction r1 using VR.casesOn<;>first |rfl |exact ao g
   exact⟨hv,G1,.ref (.d st.n),st1,L.trans L1,.ref _ x dx (L1.ρ _ _ bV),y1,I1.arounds⟩
  |_=>exact z.elim
theorem HD (hc:3<c/\c<16) (hm:makesIn Z.K (Z.cls c)) (hi:findIn Z.K (.ref (Z.cls c)) "__init__"=some (some (.ref fI))) (hf:isFn Z.K (.ref fI))
  (h0:iY Z n init fI (es.length+1) pad) (h:eD Z (n+2) sc sl l es) (hg:nsIn Z.K mainGlobals g=some (some (.ref (Z.cls c)))) (hk:keepIn Z.K (.ref (Z.cls c)))
  (hx:sc.names.lookup g=some .globalImplicit) (hd:(g==("__debug__":Str))=false):av Z (n+2) sc sl (bz c init l pad) (.Call (.Name g p) es [] pos):=λX F G vs st m s k kE I y=>by
 have I0:=I;refine I.k λtr I=>?_;refine jD (nameG_K I.fr F.inK F.top hg ?_ F.globals (by refine aa F.scope ?_;exact F.kind) (by show X.env.scope.names.lookup g=_;refine aa F.scope ?_;exact hx) hd);exact fQ F hk h I0 y (λ_ _ z=>z) λws s' z=>gn z λG1 as st1 L1 r1 y1 I1 hl=>aq (Ak hc hm hi hf h0 F I1 r1 hl y1) (λ_ _ z=>z.up L1) λ_ _ z=>z.up L1.ν
end
end
section
section
variable{Z:Zt} {n:Nat} {sc:Scope} {sl:List Str}
theorem Ch {k:Nat->af} {d:O->af} (e:IL o k d):(∃c,o=.rng c/\k c=true)\/((∀c,o≠.rng c)/\d o=true):=by
 cases o<;>first |exact .inl ⟨_,rfl,e⟩ |exact .inr ⟨λc z=>(by cases z),e⟩ |exact ao e
theorem uj (F:FxOk Z X n sc) {G vs st m s} {k:AI->St->af} {x:V} (I:bg Z X sl G vs st m s) (hv:VR Z.T Z.rg G x w) (y:Cf x st k=true):
  wpAny (model Z.prog Z.w) X.A (pyIter w) (M5 Z X sl G vs m k) E s:=by
 refine hG λCC hCC=>?_
 induction hv using VR.casesOn with
 |bytes l ws b t h e=>refine hCC ?_;exact xr I (.bytes l ws b t h e) y
 |tup l ws a h e=>refine hCC ?_;exact CX I (.tup l ws a h e) y
 |ref p a d hr=>
  refine aA (ek y) λo ho y=>?_;rcases Ch y with⟨c,rfl,y⟩ |⟨hno,y⟩
  ·refine ax y λy g=>?_;have g:=Nat.ble_eq.mp g;refine hCC ?_;exact CY (cM (by assumption) (by simp)) I (.ref p a d hr) ho y
  ·cases o with
   |list l=>refine hCC ?_;exact Ax I (.ref p a d hr) ho y
   |zit i j=>
    have I0:=I;refine I.k λtr I=>?_;refine aJ (I.sto p _ ho) λa2 d2 rr zz262=>?_;refine yR zz262 λp' dp q' dq TI u v r1 r2 h1 h2 h3=>?_;replace rr:=(hr ..)▸rr;refine kN (fE rr) λee263 ee264=>?_;subst ee263;refine hCC ?_;exact wpAny_pyIter_zip (I.get h1) ⟨G,p,_,_,st,rfl,hr,Gh.Le.refl G,y,I0⟩
   |rng c=>exact absurd rfl (hno c)
   |_=>exact ao y
 |_=>exact ao y
theorem ui (F:FxOk Z X n sc) {G vs st m s} {i:AI} (I:bg Z X sl G vs st m s) (hr:G.ρ i=some (a,d)) (y:mw IQ i st k=true):
  wpAny (model Z.prog Z.w) X.A (pyNext (.ref a)) (yg Z X sl G vs m k a) E s:=by
 refine hG λCC hCC=>?_;refine aA (ek y) λo hi y=>?_;revert hCC hi;refine O.sel o y RP Qr RO (λq j y hCC hi=>?_) (λl y hCC hi=>?_) (λx left y hCC hi=>?_) (λl y hCC hi=>?_) NS NR NQ
 ·refine gm y λl y hq=>?_;refine hCC ?_;exact yE F I hi hq hr y
 ·refine hCC ?_;exact um F I hi hr y
 ·refine hCC ?_;exact un F I hi hr y
 ·refine hCC ?_;exact uo F I hi hr y
def MT (Z:Zt) (X:Fx) (sl:List Str) (G:Gh) (vs:Vs) (m:jF) (k:KO) (tg:Expr) (a:Addr) (r:Option Value) (s:Shared):Prop:=match r with
 |none=>E2 λG' st'=>A3 (G.Le G') (k none st') (bg Z X sl G' vs st' m s)
 |some w=>∀E,wpAny (model Z.prog Z.w) X.A (letOwnedTupleGo tg (.ref a) w) (λ_ s=>E3 λG' v st'=>A4 (G.Le G') (VR Z.T Z.rg G' v w) (k (some v) st') (bg Z X sl G' vs st' m s)) E s
theorem yg.f (h:yg Z X sl G vs m k a r s):MT Z X sl G vs m k tg a r s:=by
 cases r with
 |none=>exact h
 |some w=>exactλE=>h.1 _ _ _ _ _ _ h.2
def tA (Z:Zt) (n:Nat) (sc:Scope) (sl:List Str) (z:ZT) (tg:Expr):Prop:=∀X,FxOk Z X n sc->∀E G vs st m s (k:KO) i a d,bg Z X sl G vs st m s->G.ρ i=some (a,d)->mw z i st k->
 wpAny (model Z.prog Z.w) X.A (pyNext (.ref a)) (MT Z X sl G vs m k tg a) E s
theorem Cm:tA Z n sc sl IQ tg:=λX F E G vs st m s k i a d I hr y=>aq (ui F I hr y) (λ_ _ z=>z.f) λ_ _ z=>z
def QQ:Tg->ZT
 |.n _=>IQ
 |.t _=>Qw
theorem yl (hN:tA Z n sc sl (QQ t) tg) (ht:vQ Z n sc sl t tg) (hi:av Z n sc sl it e) (hb:jt Z n sc sl b body) (hs:∀env x,foldedSetIterable e env x=pure x):
  ca Z n sc sl (gC t it b) (.For tg e body [] pos):=λX F G vs st m s k kE I y=>by
 refine wpAny_For (aq (hi X F.toFxOk G vs st m s _ kE I y) (λw1 s1 z=>?_) λ_ _ z=>z.1) (hs _);refine bX z λG1 v1 st1 L1 r1 y1 I1=>?_;refine aq (uj F.toFxOk I1 r1 y1) (λr s2 z=>?_) λ_ _ z=>z;refine yS z λG2 i a d st2 ee266 hr L2 y2 I2=>?_;refine aa ee266 ?_;have L12:=L1.trans L2;refine codeAny_forLoop_any (λfuel s=>E4 λG' vs' st' m'=>A4 (G.Le G') (G'.ρ i=some (a,d)) (bg Z X sl G' vs' st' m' s) (zf fuel i t b vs' st' k kE)) (λfuel s3 z=>?_) FF ⟨G2,vs,st2,m,L12,hr,I2,y2⟩;refine mB z λG3 vs3 st3 m3 L3 hr3 I3 y3=>?_;have back:∀{ν x s'},G.ν <+:ν->i0 Z X ν kE x s'->notedBy (model Z.prog Z.w) X.A X.env (λe s'=>cameBackBy (model Z.prog Z.w) X.A X.env (i0 Z X G.ν kE) e s') x s':=λ{ν x s'} p h=>
  IV (R:=λr s'=>match r with |.ok _=>False |.error e=>cameBackBy (model Z.prog Z.w) X.A X.env (i0 Z X G.ν kE) e s') F.same F.frames F.frame h λs'' g r=>zw F.frame g λs3 g' _=>⟨g'.fly,ak r λa b p' q t=>⟨a,b,p.trans p',q,t⟩⟩
 cases fuel with
 |zero=>exact ao y3
 |succ fuel=>
  have y3:mw (QQ t) i st3 (Mb (zf fuel i t b) t b vs3 k kE):=by cases t<;>exact y3
  refine aq (hN X F.toFxOk _ G3 vs3 st3 m3 s3 _ i a d I3 hr3 y3) (λr s4 z=>?_) λ_ _ z=>z;cases r with
  |none=>
   exact ak z λG4 st4 L4 y4 I4=>wpAny_execs_nil ((iU.go I4 y4).up (L3.trans L4))
  |some w=>
   refine aq (z _) (λ_ s5 z=>?_) λ_ _ z=>z;refine bX z λG4 v st4 L4 hv y4 I4=>?_;have y4:iJ t v vs3 st4 (λvs st=>b vs st (QH (zf fuel i t b) k kE) kE):=y4;refine aq (ht X F.toFxOk G4 vs3 st4 m3 s5 _ _ v w I4 hv y4) (λ_ s6 z=>?_) λ_ _ z=>z;refine CR z λG5 vs5 st5 m5 L5 y5 I5=>?_;have L35:=(L3.trans L4).trans L5;refine aq (hb X F G5 vs5 st5 m5 s6 _ kE I5 y5) (λf s7 z=>?_) λx s' z=>back L35.ν z;refine jN z λfl G6 vs6 st6 m6 R L6 y6 I6=>?_;have hr6:=L6.ρ _ _ (L5.ρ _ _ (L4.ρ _ _ hr3))
   induction R using Fi.casesOn with
   |next=>exact⟨fuel,Nat.lt_succ_self _,G6,vs6,st6,m6,L35.trans L6,hr6,I6,y6⟩
   |cont=>exact⟨fuel,Nat.lt_succ_self _,G6,vs6,st6,m6,L35.trans L6,hr6,I6,y6⟩
   |ret h=>exact⟨.ret _,G6,vs6,st6,m6,.ret h,L35.trans L6,y6,I6⟩
end
end
end
section
section
variable{Z:Zt} {X:Fx} {n:Nat} {sc:Scope} {sl:List Str}
theorem EF {G vs st m s} {p:AI} (I:bg Z X sl G vs st m s) (r:VR Z.T Z.rg G (.ref p) w) (hv:VR Z.T Z.rg G v w2)
  (y:obj p st (λo=>bJ o (Ij p v st k))=true):wpAny (model Z.prog Z.w) A (call (.builtin "list.append") [w,w2]) (bf Z X sl G vs m k) E s:=by
 refine hG λCC hCC=>?_;refine aA (ek y) λo ho y=>?_;refine aA (hH y) λl ee0 y=>?_;subst ee0;obtain⟨g,y⟩:=dK (show ah (szOk l) (put st p (.list (cq l [v])) λst=>k .none st) false=true from y);obtain⟨q,rfl,hfl,y⟩:=cG y;obtain⟨tr,I⟩:=I;have ho:st.t.get q=some (.list l):=ho
 induction r using VR.kref with
 |ref a' d hr=>
  obtain⟨a2,d2,rr,e2,ws,nn,g1,g2⟩:=I.sto (.d q) _ ho;rw[hr]at rr;obtain⟨rfl,rfl⟩:=fE rr;subst e2;obtain⟨a3,d3,rr,ha',_⟩:=I.wri q _ ho hfl;rw[hr]at rr;obtain⟨rfl,rfl⟩:=fE rr;have hm:(d,hM ws nn)∈tr:=by
   obtain⟨x,hx,e⟩:=List.mem_map.mp ha';have g1':=(I.nw x hx).1;rw[show x.1=d from e,I.get g1]at g1';rw[<-show x=(d,hM ws nn)from Prod.ext e (ch g1').symm];exact hx
  have hsz:=g2.szOk g;have U:Upd d (hM ws nn) (hM (ws++[w2]) (nn+1)) tr (setT tr d (hM (ws++[w2]) (nn+1))):=vX I.nd hm;have eq:W.listOf (ws.toArray.push w2) (nn+1)=hM (ws++[w2]) (nn+1):=by simp[W.listOf]
  refine hCC ?_;refine append_K (its:=ws.toArray) (n:=nn) I.fr I.nw (by rw[eq];exact U) (λh' F' N'=>?_) (by rw[sizeLine_eq];simp;exact cM (by assumption) (by decide));have sr:SR Z.T Z.rg G (cq l [v]) (ws++[w2]):=by rw[aX];exact g2.app (.one hv)
  exact⟨G,.none,_,Gh.Le.refl _,.none,y,_,I.upd (tk:=s.toks) ⟨_,ho⟩ hfl hr (.inl rfl) ha' F' N' ⟨rfl,ws++[w2],nn+1,.inl (bU ha'),sr⟩⟩
theorem xJ (ha:av Z n sc sl a o) (hb:av Z n sc sl b e) (hs:bR e) (he:j3 o "append" apos [e] pos):av Z n sc sl (aH a b) (.Call (.Attribute o "append" apos) [e] [] pos):=λX F G vs st m s k kE I y=>by
 refine qY (k':=λx l st=>dY x λp=>obj p st λo=>bJ o (Ij p (l.headD .unset) st k)) PySem.F.plainAttrs_list PySem.F.slot_list_append PySem.F.type_list_append ha (.cons hb hs .nil) he F I y (λG1 v w st1 s1 r I1 y1=>?_) λG1 v w as ws st1 s1 L r ra hl y1 I1=>?_
 ·refine aA (cb y1) λp ee1 y1=>?_;subst ee1;exact gm y1 λl y1 ho=>⟨Au I1 r ho,y1⟩
 ·refine aA (cb y1) λp ee3 y1=>?_;subst ee3
  induction ra using F2.casesOn with
  |nil=>cases hl
  |@cons v2 w2 _ _ hv ra=>induction ra using F2.casesOn with
   |cons=>cases hl
   |nil=>exact EF I1 r hv y1
noncomputable def Js (X:Fx) (m:jF) (C:Addr) (env':Env):Fx:={base:=X.base,xb:=X.xb,fl0:=X.fl0,h0:=X.h0,L:=C,fL:=X.fL,env:=env',fenv:=X.fenv,A:=X.A,outs:=(X.L,m)::X.outs,outE:=X.outE,held:=X.held}
theorem ap.re {G vs st m s tr} {X Y:Fx} (I:ap Z X sl G vs st m s tr) (hb:Y.base=X.base) (hxb:Y.xb=X.xb) (hf0:Y.fl0=X.fl0) (hh0:Y.h0=X.h0) (hL:Y.L=X.L) (ho:Y.outs=X.outs) (hh:Y.held=X.held) (hlen:vs'.length=sl'.length)
  (loc:∀(i:Nat) (x:Str) (v:V),sl'[i]?=some x->vs'[i]?=some v->v≠.unset->∃w,vK Y m (cO Y tr) x w/\VR Z.T Z.rg G v w):ap Z Y sl' G vs' st m s tr:=by
 obtain⟨b1,x1,fl1,q1,L1,f1,e1,g1,A1,o1,u1,h1⟩:=X;obtain⟨b2,x2,fl2,q2,L2,f2,e2,g2,A2,o2,u2,h2⟩:=Y;dsimp only at hb hxb hf0 hh0 hL ho hh;subst hb hxb hf0 hh0 hL ho hh;exact⟨I.sh,I.fr,I.nw,I.nd,loc,hlen,I.out,I.sto,I.wri,I.imm,I.own,I.rng,I.hel,I.cnt,I.num,⟨I.xok.has,I.xok.loc,I.xok.out,I.xok.wri,I.xok.g,I.xok.x,I.xok.f,I.xok.h,I.xok.v⟩⟩
theorem ap.but {G vs st m s tr} (I:ap Z X sl G vs st m s tr) (hs:Heap.SameBut C s.heap h') (hL:C≠X.L) (hb:X.base.get? C=none) (ht:∀p∈tr,p.1≠C):ap Z X sl G vs st m {s with heap:=h'} tr:=
 ⟨by rw[I.sh],I.fr.change hs hL hb,λp hp=>⟨hs.extBut _ _ (ht p hp) (I.nw p hp).1,(I.nw p hp).2⟩,I.nd,I.loc,I.len,I.out,I.sto,I.wri,I.imm,I.own,I.rng,I.hel,I.cnt,I.num,I.xok⟩
theorem fX {i N:Nat} (h:(List.replicate N V.unset)[i]?=some v):v=.unset:=List.eq_of_mem_replicate (List.mem_of_getElem? h)
theorem D7 {G G' vs vs' st st' m m' s s' tr tr' sl'} (I:ap Z X sl G vs st m s tr) (hC:s.heap.get? C=none) (L:G.Le G') (J:ap Z (Js X m C env') sl' G' vs' st' m' s' tr'):
  ∀h',Heap.SameBut C s'.heap h'->bg Z X sl G' vs st' m {s' with heap:=h'}:=by
 intro h' hs;have J':ap Z (hY X m C env') sl' G' (List.replicate sl'.length .unset) st' m' s' tr':=J.re rfl rfl rfl rfl rfl rfl rfl (by simp) λi x v _ h1 h2=>absurd (fX h1) h2;have CL:C≠X.L:=by
  rintro rfl;refine aA (i5 I.fr.ns) λo h1 _=>?_;rw[hC]at h1;exact bd h1
 have Cb:X.base.get? C=none:=by
  cases q:X.base.get? C with
  |none=>rfl
  |some o=>have:=I.fr.keep _ _ q;rw[hC]at this;exact bd this
 exact⟨_,(I.backA L J').but hs CL Cb λp hp=>(J'.nw p (List.mem_filter.mp hp).1).2.1⟩
noncomputable def AS (cells:List (Str×Addr)):List (Str×NameKind)->List (Str×Addr)->List (Str×Addr)
 |[],cs=>cs
 |(x,k)::r,cs=>AS cells r (if k==.free then(x,(cells.lookup x).getD 0)::cs else cs)
theorem rF {cells:List (Str×Addr)} {x:Str} {c:Addr} (hc:cells.lookup x=some c):∀(names:List (Str×NameKind)) (cs:List (Str×Addr)),(cs.lookup x=some c\/(cs.lookup x=none/\(x,.free)∈names))->(AS cells names cs).lookup x=some c
 |[],cs,h=>h.elim id λh=>nomatch h.2
 |(y,k)::r,cs,h=>by
  refine rF hc r _ ?_
  by_cases hk:(k==.free)
  ·rw[if_pos hk]
   by_cases hy:(x==y)
   ·have hy:=aW hy;refine bI hy ?_
    left;refine aa List.lookup_cons (aa (beq_self_eq_true ..) (aa hc ?_));rfl
   ·have hy':(x==y)=false:=by simpa using hy
    refine aa List.lookup_cons (aa hy' ?_);refine h.imp id λh=>⟨h.1,?_⟩;rcases bk.mp h.2 with e |e
    ·cases e;simp at hy
    ·exact e
  ·rw[if_neg hk];refine h.imp id λh=>⟨h.1,?_⟩;rcases bk.mp h.2 with e |e
   ·cases e;exact absurd rfl hk
   ·exact e
theorem qD (h:∀x∈scope.names,x.2=.free->∃c,env.cells.lookup x.1=some c):closureFor scope env=pure (AS env.cells scope.names []):=by
 have key:∀names cs,(∀x∈names,x.2=.free->∃c,env.cells.lookup x.1=some c)->
   (forIn names cs λx cs=>if(x.2==.free) then(cellOf env x.1>>=λc=>pure (ForInStep.yield ((x.1,c)::cs)))else(pure (ForInStep.yield cs)))=pure (AS env.cells names cs):=by
  intro names
  induction names with
  |nil=>intro cs _;rfl
  |cons x r ih=>
   intro cs h;obtain⟨y,k⟩:=x;refine aa (List.forIn_cons ..) ?_;unfold AS;have ih':=λcs=>ih cs λx hx=>h x (bc _ hx)
   by_cases hk:(k==NameKind.free)
   ·refine kX (h (y,k) (aL ..) (aW hk)) λc hc=>?_;have e:cellOf env y=pure c:=by unfold cellOf;rw[hc]
    refine aa hk (aa e (aa hc ?_));exact ih' _
   ·simp only[hk];exact ih' _
 exact(bind_congr λ_=>rfl).trans ((congrArg (·>>=pure) (key scope.names [] h)).trans (bind_pure _))
noncomputable def mv (scope sc:Scope):Scope:={scope with names:=scope.names.map λ(n,k)=>if(k==.free&&sc.kind==.function&&sc.names.lookup n==some .cell)then(n,.cell)else(n,k)}
theorem nR {sc:Scope} {x:Str} (hk:sc.kind=.function) (hc:sc.names.lookup x=some .cell):∀{names:List (Str×NameKind)},names.lookup x=some .free->
  (names.map λ(n,k)=>if(k==NameKind.free&&sc.kind==.function&&sc.names.lookup n==some .cell)then(n,NameKind.cell)else(n,k)).lookup x=some .cell
 |[],h=>bd h
 |(y,k)::r,h=>by
  refine aa fy ?_
  by_cases hy:(x==y)
  ·have hy:=aW hy;subst hy;rw[List.lookup_cons,beq_self_eq_true]at h;refine FQ h ?_;have:(NameKind.free==NameKind.free&&sc.kind==.function&&sc.names.lookup x==some .cell):=by refine aa hk (aa hc ?_);rfl
   simp only[this];refine aa List.lookup_cons ?_;rw[beq_self_eq_true]
  ·have hy':(x==y)=false:=by simpa using hy
   rw[List.lookup_cons,hy']at h;have ih:=nR hk hc h;cases hc':(k==NameKind.free&&sc.kind==.function&&sc.names.lookup y==some .cell)with
   |true=>simp only[hc'];refine aa List.lookup_cons (aa hy' ?_);exact ih
   |false=>simp only[hc'];refine aa List.lookup_cons (aa hy' ?_);exact ih
theorem FV {G vs st m s} {a d:Addr} (I:bg Z X sl G vs st m s) (hr:G.ρ i=some (a,d)) (y:mw IQ i st k=true) (h:Q (.ref a) s):
  wpAny (model Z.prog Z.w) A (pyIter (.ref a)) Q E s:=by
 refine hG λCC hCC=>?_;refine kX I λtr I=>?_;refine aA (ek (show obj i st (TH IQ i st k)=true from y)) λo hi y=>?_;cases o with
 |lit q j=>
  refine aJ (I.sto i _ hi) λa1 d1 r1 zz4=>?_;obtain⟨e1,q1,dq1,oi,r2,h1,c1,c2⟩:=zz4;rw[hr]at r1;refine kN (fE r1) λee5 ee6=>?_;subst ee5 ee6;subst e1;refine hCC ?_;exact wpAny_pyIter_listiter ⟨_,I.get h1,c1,c2⟩ h
 |tit l=>
  refine aJ (I.sto i _ hi) λa1 d1 r1 zz7=>?_;obtain⟨e1,q,ws,j,o,hq,⟨h1,c1,c2⟩,h3,hj⟩:=zz7;rw[hr]at r1;refine kN (fE r1) λee8 ee9=>?_;subst ee8 ee9;subst e1;refine hCC ?_;exact wpAny_pyIter_tupleiter ⟨_,I.get h1,c1,c2⟩ h
 |rit x left=>
  refine aJ (I.sto i _ hi) λa1 d1 r1 zz10=>?_;obtain⟨e1,h1⟩:=zz10;rw[hr]at r1;refine kN (fE r1) λee11 ee12=>?_;subst ee11 ee12;subst e1;refine hCC ?_;exact wpAny_pyIter_rangeiter (I.get h1) h
 |bit l=>
  refine aJ (I.sto i _ hi) λa1 d1 r1 zz13=>?_;obtain⟨e1,b,t,j,ws,o,⟨h1,c1,c2⟩,h2,h3⟩:=zz13;rw[hr]at r1;refine kN (fE r1) λee14 ee15=>?_;subst ee14 ee15;subst e1;refine hCC ?_;exact KBw.pyIter_self ⟨_,I.get h1,c1,c2⟩ h
 |_=>exact ao y
theorem CA {f:Nat->V} {j:Nat} (h:(aP f l)[j]?=some v):∃i,l[j]?=some i/\v=f i:=by
 rw[iC,List.getElem?_map]at h;cases q:l[j]? with
 |none=>rw[q]at h;exact bd h
 |some i=>rw[q]at h;exact⟨i,rfl,(ch h).symm⟩
theorem Az (h:o6 vs i≠.unset):vs[i]?=some (o6 vs i):=by
 have e:o6 vs i=(vs[i]?).elim .unset id:=by
  show ag (lY vs i) .unset (λv=>v)=_;refine aa (iE ..) ?_;cases vs[i]?<;>rfl
 rw[e]at h ⊢;cases q:vs[i]? with
 |none=>rw[q]at h;exact absurd rfl h
 |some v=>rfl
theorem zv (nl:Nat) (cap:List Nat) (vs:Vs):vq nl cap vs=List.replicate nl .unset++aP (o6 vs) cap:=by
 unfold vq;refine aa (aX ..) ?_;congr 1
 induction nl with
 |zero=>rfl
 |succ n ih=>refine aa List.replicate_succ (bI ih ?_);rfl
structure JU (sc scope:Scope) (sl:List Str) (cap:List Nat) (frs:List Str):Prop where
 at_:F2 (λi x=>sl[i]?=some x/\sc.names.lookup x=some .cell/\scope.names.lookup x=some .free) cap frs
 all:∀x∈scope.names,x.2=.free->x.1∈frs
theorem CN {α:Type} {p:α->Bool}:∀{l:List α},bj p l->∀x∈l,p x:=by
 intro l0
 induction l0 with
 |nil=>
  intro e x h;exact nomatch h
 |cons a l ih=>
  intro e x h;refine ax e λe2 e1=>?_;rcases bk.mp h with rfl |h
  ·exact e1
  ·exact ih e2 x h
theorem F2.of_right {R:α->β->Prop} (h:F2 R l r) (hy:y∈r):E2 λ(j:Nat) (x:α)=>A3 (l[j]?=some x) (r[j]?=some y) (R x y):=by
 induction h with
 |nil=>cases hy
 |cons h t ih=>
  rcases bk.mp hy with rfl |hy
  ·exact⟨0,_,rfl,rfl,h⟩
  ·refine ak (ih hy) λj x a b c=>?_;exact⟨j+1,x,a,b,c⟩
theorem vp (F:FxOk Z X n sc) {cap:List Nat} {frs:List Str} (C:JU sc scope sl cap frs) {G vs st m s tr} (I:ap Z X sl G vs st m s tr) {j i:Nat} {x:Str} (h1:cap[j]?=some i) (h2:frs[j]?=some x) (hv:o6 vs i≠.unset):
  E2 λw c=>A3 (X.env.cells.lookup x=some c) ((c,w)∈X.held) (VR Z.T Z.rg G (o6 vs i) w):=by
 refine hG λCC hCC=>?_;refine fb (C.at_.get h1) λx' e g1 g2 g3=>?_;rw[h2]at e;obtain rfl:=jK e;refine aA (I.loc i x _ g1 (Az hv) hv) λw S r=>?_;rcases S with⟨a,b⟩ |⟨a,c,d,e⟩
 ·have:X.env.scope.names.lookup x=some .local:=a
  rw[F.scope,g2]at this;cases this
 ·refine hCC ?_;exact⟨w,c,d,e,r⟩
theorem s9 {R:Result->Shared->Prop} (htg:(E2 λx p=>tg=.Name x p)\/E3 λes k p=>tg=.Tuple es k p) (I:Nat->Shared->Prop)
  (turn:∀n s,I n s->wpAny (model prog w) A (pyNext it) (λr s₁=>match r with
   |none=>R (.ok .next) s₁
   |some v=>(∀E,wpAny (model prog w) A (letOwnedTupleGo tg it v) (λ_ s₁'=>s₁'=s₁) E s₁)/\wpAny (model prog w) A (assign tg env v) (λ_ s₂=>
     wpAny (model prog w) A (eval elt env) (λx s₄=>
       wpAny (model prog w) A (call (.builtin "list.append") [acc,x]) (λ_ s₅=>∃m,m<n/\I m s₅) (notedBy (model prog w) A env λe s'=>R (.error e) s') s₄) (notedBy (model prog w) A env λe s'=>R (.error e) s') s₂)
     (notedBy (model prog w) A env λe s'=>R (.error e) s') s₁) (notedBy (model prog w) A env λe s'=>R (.error e) s') s)
  (n:Nat) (h:I n s):codeAny (model prog w) A (.compLoop (.ListComp elt [⟨tg,iter,[],0⟩] scope pos) 0 it acc env) R s:=by
 rcases htg with⟨x,p,rfl⟩ |⟨es,k,p,rfl⟩
 ·refine codeAny_compLoop_list I (λn s hI=>aq (turn n s hI) (λr s₁ z=>?_) λ_ _ z=>z) n h;cases r with
  |none=>exact z
  |some v=>exact z.2
 ·refine LCp.codeAny_compLoop_pair I (λn s hI=>aq (turn n s hI) (λr s₁ z=>?_) λ_ _ z=>z) n h;cases r with
  |none=>exact z
  |some v=>exact aq (z.1 _) (λ_ s' e=>by subst e;exact z.2) λ_ _ z=>z
theorem DV {nl:Nat} {cap:List Nat} {t:Tg} {tg iter elt:Expr} {it el:Ev} {scope:Scope} {pos} {locs frs:List Str} (htg:(E2 λx p=>tg=.Name x p)\/E3 λes k p=>tg=.Tuple es k p) (C:JU sc scope sl cap frs) (hnl:locs.length=nl)
  (hcell:∀y∈scope.names,y.2≠.cell) (hkind:scope.kind=.function) (hnames:∀y∈scope.names,y.2=.local->scope.names.lookup y.1=some .local)
  (hs:∀env x,foldedSetIterable iter env x=pure x) (hi:av Z n sc sl it iter) (ht:vQ Z n (mv scope sc) (locs++frs) t tg) (he:av Z n (mv scope sc) (locs++frs) el elt):
  av Z n sc sl (jO nl cap t it el) (.ListComp elt [⟨tg,iter,[],0⟩] scope pos):=λX F G vs st m s k kE I y=>by
 refine ax y λy cv=>?_;have cu:∀(j i:Nat),cap[j]?=some i->o6 vs i≠.unset:=λj i h z=>by
  have:o6 vs i∈aP (o6 vs) cap:=aa (iC ..) (List.mem_map_of_mem (List.mem_of_getElem? h));have:=CN cv _ this;rw[z]at this;exact ao this
 have hclos:=qD λx hx hf=>by
  refine I.k λtr I=>?_;refine ak (C.at_.of_right (C.all x hx hf)) λj i a b _=>?_;obtain⟨w,c,h1,_⟩:=vp F C I a b (cu j i a);exact⟨c,h1⟩
 refine wpAny_comprehension_free rfl (hs X.env) hclos hkind hnames (hi.w0 F I y λw1 s1 G1 v1 st1 L1 r1 y1 I1=>?_);refine aq (uj F I1 r1 y1) (λr s2 z=>?_) λ_ _ z=>z;refine yS z λG2 i a d st2 ee16 hr L2 y2 I2=>?_;refine aa ee16 ?_;refine aq (oh (k:=λv st=>dY v λp=>kq FF i p t el (vq nl cap vs) st (λst=>k (.ref p) st) kE) I2 (Nat.zero_le _) .nil y2) (λw3 s3 z=>?_) λ_ _ z=>z;refine bX z λG3 v3 st3 L3 r3 y3 I3=>?_;refine aA (cb y3) λq ee17 y3=>?_;subst ee17;have L13:=L1.trans (L2.trans L3);refine I3.k λtr3 I3=>?_;refine wpAny_newFunctionEnv hcell (λx hx=>nomatch hx) (λh' hn hsb=>?_) hkind;have hC:s3.heap.get? s3.heap.objs.size=none:=by
  cases q:s3.heap.get? s3.heap.objs.size with
  |none=>rfl
  |some o=>exact absurd (bW q) (fg _)
 let cenv:Env:=compEnvC scope (AS X.env.cells scope.names []) s3.heap.objs.size X.env
 let Y:Fx:=Js X m s3.heap.objs.size cenv
 have FY:FxOk Z Y n (mv scope sc):=⟨F.inK,F.top,F.frames,F.handled,F.depth,F.units,rfl,F.frame,F.fkind,by show relabel scope X.env=_;refine bI F.scope ?_;rfl,hkind,F.globals,F.builtins,F.outK,λe he=>aA (F.frs e he) λa h1 h2=>⟨a,h1,.inr (h2.elim (λh=>by refine aa h ?_;exact aL ..) λh=>bc _ h)⟩⟩;have hlen:(vq nl cap vs).length=(locs++frs).length:=by refine aa (zv ..) (aa (iC ..) ?_);simp[hnl,C.at_.length]
 refine kX (I3.enter (env':=cenv) (sl':=locs++frs) (vs':=List.replicate (locs++frs).length .unset) (tk:=s3.toks+([]:List (Str×Value)).length) hn (λb o e=>hsb.extBut b o (Nat.ne_of_lt (bW e)) (eX _ e)) (by simp) λi x v _ h1 h2=>absurd (fX h1) h2) λoL J=>?_;have J:=J.re (Y:=Y) (vs':=vq nl cap vs) (sl':=locs++frs) rfl rfl rfl rfl rfl rfl rfl hlen λi x v h1 h2 h3=>by
  rw[zv]at h2
  by_cases z:i<nl
  ·rw[List.getElem?_append_left (by simpa using z)]at h2;exact absurd (fX h2) h3
  ·rw[List.getElem?_append_right (by simpa using Nat.le_of_not_lt z),List.length_replicate]at h2;rw[List.getElem?_append_right (by refine aa hnl ?_;exact Nat.le_of_not_lt z),hnl]at h1;refine aA (CA h2) λci h4 ee18=>?_;subst ee18;refine ak (vp F C I3 h4 h1 h3) λw c g1 g2 g3=>?_;refine fb (C.at_.get h4) λx' e g4 g5 g6=>?_;rw[h1]at e;obtain rfl:=jK e;refine⟨w,.inr ⟨.inl ?_,c,rF g1 _ [] (.inr ⟨rfl,my g6⟩),g2⟩,g3⟩;show(relabel scope X.env).names.lookup x=some .cell;have:relabel scope X.env=mv scope sc:=by refine bI F.scope ?_;rfl
   exact aa this (nR (F.scope▸F.kind) g5 g6)
 have hr3:=L3.ρ _ _ hr;have fin:∀{G' vs' st' m' s'},G3.Le G'->bg Z Y (locs++frs) G' vs' st' m' s'->k (.ref q) st'->compPost (model Z.prog Z.w) X.A (c6 Z X G.ν m kE) none (bf Z X sl G vs m k) w3 s3.heap.objs.size (.ok .next) s':=λ{G' vs' st' m' s'} L J yk=>by
  refine kX J λtr' J=>?_;refine⟨m',J.fr.ns,λh'' hs''=>⟨G',.ref q,st',L13.trans L,r3.mono L,yk,D7 I3 hC L J h'' hs''⟩⟩
 have y3':∃fuel,kq fuel i q t el (vq nl cap vs) st3 (λst=>k (.ref q) st) kE:=⟨FF,y3⟩;refine kX y3' λfuel y3=>?_;have loop:∀fuel,(E4 λG' vs' st' m'=>A3 (G3.Le G') (bg Z Y (locs++frs) G' vs' st' m' {s3 with heap:=h',toks:=s3.toks+([]:List (Str×Value)).length}) (kq fuel i q t el vs' st' (λst=>k (.ref q) st) kE))->
   codeAny (model Z.prog Z.w) X.A (.compLoop (.ListComp elt [⟨tg,iter,[],0⟩] scope pos) 0 (.ref a) w3 cenv) (compPost (model Z.prog Z.w) X.A (c6 Z X G.ν m kE) none (bf Z X sl G vs m k) w3 s3.heap.objs.size) {s3 with heap:=h',toks:=s3.toks+([]).length}:=λfuel h=>by
  refine s9 htg (λfuel s=>E4 λG' vs' st' m'=>A3 (G3.Le G') (bg Z Y (locs++frs) G' vs' st' m' s) (kq fuel i q t el vs' st' (λst=>k (.ref q) st) kE)) (λfuel s4 z=>?_) fuel h;refine yT z λG4 vs4 st4 m4 L4 I4 y4=>?_;cases fuel with
  |zero=>exact ao y4
  |succ fuel=>
   have y4:mw IQ i st4 (Us (kq fuel i q t el) q t el vs4 (λst=>k (.ref q) st) kE):=y4;refine aq (ui FY I4 (L4.ρ _ _ hr3) y4) (λr s5 z=>?_) λ_ _ z=>z;cases r with
   |none=>
    exact ak z λG5 st5 L5 y5 I5=>fin (L4.trans L5) I5 y5
   |some w=>
    refine kN z λlt zz19=>?_;refine bX zz19 λG5 v5 st5 L5 r5 y5 I5=>?_;refine⟨λE=>lt _ _ _ _ _ _ rfl,?_⟩;have y5:iJ t v5 vs4 st5 (λvs st=>el vs st (Ut (kq fuel i q t el) q vs (λst=>k (.ref q) st) kE) λ_=>false):=y5;refine aq (ht Y FY G5 vs4 st5 m4 s5 _ _ v5 w I5 r5 y5) (λ_ s6 z=>?_) λ_ _ z=>z;refine CR z λG6 vs6 st6 m6 L6 y6 I6=>?_;refine aq (he Y FY G6 vs6 st6 m6 s6 _ _ I6 y6) (λw7 s7 z=>?_) λx s' z=>?_
    ·refine bX z λG7 v7 st7 L7 r7 y7 I7=>?_;have L47:=(L4.trans (L5.trans L6)).trans L7;refine aq (EF I7 (r3.mono L47) r7 y7) (λ_ s8 z=>?_) λ_ _ z=>z;exact bX z λG8 v8 st8 L8 r8 y8 I8=>⟨fuel,Nat.lt_succ_self _,G8,vs6,st8,m6,L47.trans L8,I8,y8⟩
    ·refine kN z λzz20 _=>?_;obtain⟨_,ν',st',_,_,e⟩:=zz20;exact ao e
 have J0:bg Z Y (locs++frs) G3 (vq nl cap vs) st3 _ {s3 with heap:=h',toks:=s3.toks+([]).length}:=⟨_,J⟩;refine codeAny_compStart_list (loop fuel ⟨G3,_,st3,_,Gh.Le.refl G3,J0,y3⟩) ?_;cases fuel with
 |zero=>exact ao y3
 |succ fuel=>
  exact FV J0 hr3 y3 (loop (fuel+1) ⟨G3,_,st3,_,Gh.Le.refl G3,J0,y3⟩)
end
end
section
section
variable{prog:Program} {w:World} {A:Around} {E:Value->Shared->Prop} {s:Shared}
theorem kM (hit:s.heap.IsTupleIter it t i) (ht:s.heap.IsTuple t items) (hx:items[i]?=some x)
  (hQ:∀h',h'.IsTupleIter it t (i+1)->Heap.SameBut it s.heap h'->Q x {s with heap:=h'}):wpAny (model prog w) A (Builtin.SmallTypes.nextOf (.ref it)) Q E s:=by
 refine gD (id hit) λo ho hc hd=>?_;refine gD ht λol hol _ zz0=>?_;refine kX zz0 λnl hdl=>?_;refine ae (wpAny_callSpecial?_slot hit.typeIs F.slot_tuple_iterator_next
  (wpAny_call_entry F.slot_tuple_iterator_next hit.typeIs F.entry_tuple_iterator_next ?_ (F.args_tuple_iterator_next_1 _)))
 show wpAny _ _ (field (.ref it) 0>>=_) _ _ s;refine ae (wpAny_field ho hd (x:=.ref t) rfl ?_);refine ae (wpAny_field ho hd (x:=.int i 0) rfl ?_);refine ae (wpAny_seqItems hol hdl ?_);simp only[Int.toNat_natCast,hx];refine ae (wpAny_setField ho hd (by simp) (aR ⟨x,rfl,aR (hQ _ ?_ (Heap.SameBut.update ..))⟩));exact⟨_,Heap.get?_update_self _ ho (Obj.isFreed_of_fields (Obj.data_mapFields hd _)),(Obj.cls_mapFields ..).trans hc,by
  refine aa (Obj.data_mapFields hd ..) ?_;simp[rawInt]⟩
theorem lW (hh:A.handled=none) (hit:s.heap.IsTupleIter it t i) (ht:s.heap.IsTuple t items) (hx:items[i]?=none)
  (hE:∀h' e o',h'.get? it=some o'->Heap.ExtBut it s.heap h'->(∃o,h'.get? e=some o/\o.cls=.type "StopIteration")->E (.ref e) {s with heap:=h'}):
  wpAny (model prog w) A (Builtin.SmallTypes.nextOf (.ref it)) Q E s:=by
 refine gD (id hit) λo ho hc hd=>?_;refine gD ht λol hol _ zz1=>?_;refine kX zz1 λnl hdl=>?_;refine ae (wpAny_callSpecial?_slot hit.typeIs F.slot_tuple_iterator_next
  (wpAny_call_entry F.slot_tuple_iterator_next hit.typeIs F.entry_tuple_iterator_next ?_ (F.args_tuple_iterator_next_1 _)))
 show wpAny _ _ (field (.ref it) 0>>=_) _ _ s;refine ae (wpAny_field ho hd (x:=.ref t) rfl ?_);refine ae (wpAny_field ho hd (x:=.int i 0) rfl ?_);refine ae (wpAny_seqItems hol hdl ?_);simp only[Int.toNat_natCast,hx];refine ae (wpAny_rule (ae (wpAny_setField ho hd (by simp) ?_)));refine ae ?_;refine ae (m:=firstArgMember _ _) (wpAny_of_eq (a:=Value.none) (by first |rfl |(rw[firstArgMember];rfl)) ?_);refine wpAny_newObj_type ?_ (by size_fits);refine ae (wpAny_handled ?_);refine aa hh ?_;refine ae (aR (wpAny_throw ?_));exact hE _ _ _ (eX _ (eX _ (Heap.get?_update_self _ ho (Obj.isFreed_of_fields (Obj.data_mapFields hd _))))) (((Heap.SameBut.update ..).extBut.push _).push _) ⟨_,Heap.get?_push_size _ rfl,rfl⟩
structure EI (z TI TO i1 i2 l1 l2:Addr):Prop where
 TIz:TI≠z
 TOz:TO≠z
 i1z:i1≠z
 i2z:i2≠z
 TITO:TI≠TO
 TOi1:TO≠i1
 TOi2:TO≠i2
 i12:i1≠i2
 l1z:l1≠z
 l2z:l2≠z
 l2TO:l2≠TO
 l2i1:l2≠i1
theorem Bi {z TI TO i1 i2 l1 l2:Addr} (D:EI z TI TO i1 i2 l1 l2)
  (hz:IsZip s.heap z TI TO .none) (hTI:IsPair s.heap TI (.ref i1) (.ref i2)) (hTO:IsPair s.heap TO a b)
  (h1:s.heap.IsTupleIter i1 l1 k1) (h2:s.heap.IsListIter i2 l2 k2) (hl1:s.heap.IsTuple l1 xs) (hl2:s.heap.IsList l2 ys) (hx:xs[k1]?=some x) (hy:ys[k2]?=some y)
  (hQ:∀h',IsZip h' z TI TO (rawInt s.heap.objs.size)->IsPair h' TO x y->h'.IsTupleIter i1 l1 (k1+1)->h'.IsListIter i2 l2 (k2+1)->IsPair h' s.heap.objs.size x y->
   (∀c o,c≠z->c≠TO->c≠i1->c≠i2->s.heap.get? c=some o->h'.get? c=some o)->Q (some (.ref s.heap.objs.size)) {s with heap:=h'}):
  wpAny (model prog w) A (pyNext (.ref z)) Q E s:=by
 have hT:s.TypeIs (.ref z) "zip":=⟨_,hz,rfl⟩;unfold pyNext;refine ae (wpAny_attempt (wpAny_callSpecial?_slot (name:=Str.ofString "__next__") hT F.slot_zip_next (wpAny_call_entry F.slot_zip_next hT F.entry_zip_next ?_ (F.args_zip_next_1 _))));show wpAny _ _ (field (.ref z) 2>>=_) _ _ _;refine ae (wpAny_field hz rfl (x:=.bool false) rfl ?_);show wpAny _ _ (field (.ref z) 3>>=_) _ _ _;refine ae (wpAny_field hz rfl (x:=.ref TI) rfl ?_);refine ae (wpAny_seqItems hTI rfl ?_);show wpAny _ _ (Builtin.SmallTypes.ownedTupleIsFree (.ref z)>>=_) _ _ _;refine ae ?_;unfold Builtin.SmallTypes.ownedTupleIsFree;refine ae (wpAny_field hz rfl (x:=.none) rfl (aR ?_));simp only[if_true];refine ae (wpAny_rule ?_);refine ae (wpAny_field hz rfl (x:=.ref TO) rfl ?_);refine ae (wpAny_setField_rec hz (by simp) λh₁ hz₁ hs₁=>?_);refine ae ?_;simp only[List.zipIdx_cons,List.zipIdx_nil,List.forIn_cons,List.forIn_nil];refine ae (ae (wpAny_onRaise ?_));refine ae (kM (h1.at λo e=>hs₁.extBut _ _ D.i1z e) (hl1.at λo e=>hs₁.extBut _ _ D.l1z e) hx λh₂ h1₂ hs₂=>aR ?_);have hTO₂:IsPair h₂ TO a b:=hs₂.extBut _ _ D.TOi1 (hs₁.extBut _ _ D.TOz hTO);refine ae (wpAny_seqItems hTO₂ rfl ?_);refine ae (wpAny_updateSeq_pair hTO₂ λh₃ hTO₃ hs₃=>?_);refine ae (wpAny_letGo (aR ?_));refine ae (ae (wpAny_onRaise ?_));refine ae (wpAny_nextOf_list_item (((h2.extBut hs₁.extBut D.i2z).extBut hs₂.extBut D.i12.symm).extBut hs₃.extBut D.TOi2.symm)
  (((hl2.extBut hs₁.extBut D.l2z).extBut hs₂.extBut D.l2i1).extBut hs₃.extBut D.l2TO) hy λh₄ h2₄ hs₄=>aR ?_)
 have hTO₄:IsPair h₄ TO x b:=hs₄.extBut _ _ D.TOi2 hTO₃;refine ae (wpAny_seqItems hTO₄ rfl ?_);refine ae (wpAny_updateSeq_pair hTO₄ λh₅ hTO₅ hs₅=>?_);replace hTO₅:IsPair h₅ TO x y:=hTO₅;refine ae (wpAny_letGo (aR (aR ?_)));refine ae (wpAny_seqItems hTO₅ rfl ?_);refine ae (wpAny_newTuple ?_);have hsz:h₅.objs.size=s.heap.objs.size:=by rw[hs₅.1,hs₄.1,hs₃.1,hs₂.1,hs₁.1]
 have hz₅:IsZip h₅ z TI TO .ellipsis:=hs₅.extBut _ _ D.TOz.symm (hs₄.extBut _ _ D.i2z.symm (hs₃.extBut _ _ D.TOz.symm (hs₂.extBut _ _ D.i1z.symm hz₁)));have hk₅:∀c o,c≠z->c≠TO->c≠i1->c≠i2->s.heap.get? c=some o->h₅.get? c=some o:=λc o c1 c2 c3 c4 e=>
  hs₅.extBut _ _ c2 (hs₄.extBut _ _ c4 (hs₃.extBut _ _ c2 (hs₂.extBut _ _ c3 (hs₁.extBut _ _ c1 e))))
 have hzlt:z<h₅.objs.size:=bW hz₅;refine ae ?_;have hz₆:IsZip (h₅.push {cls:=.type "tuple",data:=.seq #[x,y]}) z TI TO .ellipsis:=eX _ hz₅;refine ae (wpAny_setField_rec hz₆ (by simp) λh₇ hz₇ hs₇=>?_);replace hz₇:IsZip h₇ z TI TO (rawInt h₅.objs.size):=hz₇;refine wpAny_setField_rec hz₇ (by simp) λh₈ hz₈ hs₈=>?_;have up:∀c o,c≠z->h₅.get? c=some o->h₈.get? c=some o:=λc o c1 e=>hs₈.extBut _ _ c1 (hs₇.extBut _ _ c1 (eX _ e));have hT₈:IsPair h₈ h₅.objs.size x y:=hs₈.extBut _ _ (Nat.ne_of_gt hzlt) (hs₇.extBut _ _ (Nat.ne_of_gt hzlt) (Heap.get?_push_size _ rfl));rw[hsz]at hz₈ hT₈;refine aR ⟨_,rfl,aR ?_⟩;rw[hsz];exact hQ h₈ hz₈ (up _ _ D.TOz hTO₅) ((((h1₂.at λo e=>hs₃.extBut _ _ D.TOi1.symm e).at λo e=>hs₄.extBut _ _ D.i12 e).at λo e=>hs₅.extBut _ _ D.TOi1.symm e).at λo e=>up _ o D.i1z e) ((h2₄.extBut hs₅.extBut D.TOi2.symm).at λo e=>up _ o D.i2z e) hT₈ λc o c1 c2 c3 c4 e=>up c o c1 (hk₅ c o c1 c2 c3 c4 e)
theorem Fm {z TI TO i1 i2 l1:Addr} (hh:A.handled=none) (Di1z:i1≠z) (Dl1z:l1≠z)
  (hz:IsZip s.heap z TI TO .none) (hTI:IsPair s.heap TI (.ref i1) (.ref i2)) (h1:s.heap.IsTupleIter i1 l1 k1) (hl1:s.heap.IsTuple l1 xs) (hx:xs[k1]?=none) (hzo:E2 λa b=>IsPair s.heap TO a b)
  (hQ:∀h' o',h'.get? i1=some o'->Heap.ExtBut i1 s.heap h'->Q none {s with heap:=h'}):wpAny (model prog w) A (pyNext (.ref z)) Q E s:=by
 have hT:s.TypeIs (.ref z) "zip":=⟨_,hz,rfl⟩;refine ae (wpAny_attempt (wpAny_callSpecial?_slot hT F.slot_zip_next (wpAny_call_entry F.slot_zip_next hT F.entry_zip_next ?_ (F.args_zip_next_1 _))));show wpAny _ _ (field (.ref z) 2>>=_) _ _ _;refine ae (wpAny_field hz rfl (x:=.bool false) rfl ?_);refine ae (wpAny_field hz rfl (x:=.ref TI) rfl ?_);refine ae (wpAny_seqItems hTI rfl ?_);refine ae ?_;refine ae (wpAny_field hz rfl (x:=.none) rfl (aR ?_));refine ae (wpAny_rule ?_);refine ae (wpAny_field hz rfl (x:=.ref TO) rfl ?_);refine ae (wpAny_setField_rec hz (by simp) λh₁ hz₁ hs₁=>?_);replace hz₁:IsZip h₁ z TI TO .ellipsis:=hz₁;refine ae ?_;refine ae (ae (wpAny_onRaise ?_));refine ae (lW hh (h1.at λo e=>hs₁.extBut _ _ Di1z e) (hl1.at λo e=>hs₁.extBut _ _ Dl1z e) hx λh₂ e o' ho' hs₂ he=>?_);refine aA he λoe hoe hce=>?_;have hz₂:=hs₂ _ _ Di1z.symm hz₁;have hez:e≠z:=λx=>by subst x;rw[hz₂]at hoe;obtain rfl:=jK hoe;simp at hce
 refine wpAny_setField_rec hz₂ (by simp) λh₃ hz₃ hs₃=>?_;refine ae (wpAny_isInstance ⟨oe,hs₃.extBut _ _ hez hoe,hce⟩ isSubtype_stop ?_);refine aR (hQ _ o' (hs₃.extBut _ _ Di1z ho') λc o hc e=>?_)
 by_cases q:c=z
 ·cases q;rw[hz]at e;refine gP e ?_;exact hz₃
 ·exact hs₃.extBut _ _ q (hs₂ _ _ hc (hs₁.extBut _ _ q e))
noncomputable abbrev Nb (h:Heap) (l1:Addr):Heap:=h.push {cls:=.type "tuple_iterator",data:=.fields #[.ref l1,.int 0 0]}
abbrev Na (h:Heap) (l1 l2:Addr):Heap:=(Nb h l1).push {cls:=.type "list_iterator",data:=.fields #[.ref l2,.int 0 0]}
abbrev M9 (h:Heap) (l1 l2:Addr):Heap:=(Na h l1 l2).push {cls:=.type "tuple",data:=.seq #[.ref h.objs.size,.ref (Nb h l1).objs.size]}
abbrev JV (h:Heap) (l1 l2:Addr):Heap:=(M9 h l1 l2).push {cls:=.type "tuple",data:=.seq #[.none,.none]}
abbrev M8 (h:Heap) (l1 l2:Addr):Heap:=(JV h l1 l2).push {cls:=.type "zip",data:=.fields #[.none,.bool false,.bool false,.ref (Na h l1 l2).objs.size,.ref (M9 h l1 l2).objs.size]}
theorem Fk (l1 l2:Addr) (xs ys:Array Value):
  Meets (Builtin.«zip.__new__» ⟨[.type "zip",.ref l1,.ref l2],[]⟩) (λ_ R s=>s.heap.IsTuple l1 xs/\s.heap.IsList l2 ys/\
   R (.ok (.ret (.ref (JV s.heap l1 l2).objs.size))) {s with heap:=M8 s.heap l1 l2}):=
 .of_wp λprog w A R s h=>by
  obtain⟨hp,g,d,tk,os⟩:=s;refine iP h λhl1 hl2 h=>?_;have hsub:=sub_zip;have hL2:Heap.IsList (Shared.heap ⟨hp.push {cls:=.type "tuple_iterator",data:=.fields #[.ref l1,.int 0 0]},g,d,tk,os⟩) l2 ys:=Heap.IsList.push hl2 _
  wp_walk using wpAny_pyIter_tuple hl1,wpAny_pyIter_list hL2
  exact⟨_,rfl,h⟩
theorem Eb {l1 l2:Addr} (hl1:s.heap.IsTuple l1 xs) (hl2:s.heap.IsList l2 ys)
  (h:Q (.ref (JV s.heap l1 l2).objs.size) {s with heap:=M8 s.heap l1 l2}):wpAny (model prog w) A (call (.type "zip") [.ref l1,.ref l2]) Q E s:=
 callType_new F.called_zip (by rfl) (F.typeCall_zip_2 _ _) (F.newCall_zip_2 _ _) (λobj=>F.args_object_init_3 obj _ _) F.entry_zip_new (Fk l1 l2 xs ys) ⟨hl1,hl2,⟨_,Heap.get?_push_size _ rfl,rfl⟩,h⟩
end
end
section
section
variable{Z:Zt} {X:Fx} {n:Nat} {sc:Scope} {sl:List Str}
theorem ap.reheap {G vs st m s tr} (I:ap Z X sl G vs st m s tr) (F':Fr X.base X.L h' m) (N':News X.base X.L h' tr):ap Z X sl G vs st m {s with heap:=h',toks:=tk} tr:=
 ⟨by rw[I.sh],F',N',I.nd,I.loc,I.len,I.out,I.sto,I.wri,I.imm,I.own,I.rng,I.hel,I.cnt,I.num,I.xok⟩
theorem ap.putV {G vs st m s tr} (I:ap Z X sl G vs st m s tr) (hx:∃o₀,st.t.get p=some o₀) (hfl:st.fl.get p=none) (hr:G.ρ (.d p)=some (a,d)) (hb:b=a\/b=d) (hm:b∈tr.map (·.1)) (hf:o.isFreed=false)
  (h:OR Z (cO X (setT tr b o)) G a d x):ap Z X sl G vs {st with t:=Tr.set x p st.t} m {s with heap:=s.heap.update b λ_=>o} (setT tr b o):=by
 refine aA (List.mem_map.mp hm) λq hq e=>?_;have nw:=I.nw q hq;rw[show q.1=b from e]at nw;have hs:Heap.SameBut b s.heap (s.heap.update b λ_=>o):=Heap.SameBut.update ..;exact I.upd (tk:=s.toks) hx hfl hr hb hm (I.fr.change hs nw.2.1 nw.2.2) (uq I.nw hs.extBut (Heap.get?_update_self _ nw.1 hf)) h
theorem ap.same_t {G vs st m s tr} (I:ap Z X sl G vs st m s tr) (h:∀q,t'.get q=st.t.get q):ap Z X sl G vs {st with t:=t'} m s tr:=by
 refine⟨I.sh,I.fr,I.nw,I.nd,I.loc,I.len,I.out,λi o e=>I.sto i o ?_,λp o e1 e2=>I.wri p o ?_ e2,I.imm,I.own,I.rng,I.hel,I.cnt,⟨I.num.dom,I.num.memo⟩,⟨I.xok.has,I.xok.loc,I.xok.out,λp o e1 e2=>I.xok.wri p o (by refine bI (h ..) ?_;exact e1) e2,I.xok.g,I.xok.x,I.xok.f,I.xok.h,I.xok.v⟩⟩
 ·cases i with
  |g p=>exact e
  |d p=>have e:t'.get p=some o:=e;rw[h]at e;exact e
 ·rw[h]at e1;exact e1
theorem ap.kill {G vs st m s tr} (I:ap Z X sl G vs st m s tr) {p:Pz} {x₀:O} (hx:st.t.get p=some x₀):ap Z X sl G vs {st with t:=Tr.set .dead p st.t} m s tr:=by
 refine⟨I.sh,I.fr,I.nw,I.nd,I.loc,I.len,I.out,λi o e=>?_,λq o e1 e2=>?_,I.imm,I.own,I.rng,I.hel,I.cnt,⟨I.num.dom,I.num.memo⟩,⟨I.xok.has,I.xok.loc,I.xok.out,λq o e1 e2=>?_,I.xok.g,I.xok.x,I.xok.f,I.xok.h,I.xok.v⟩⟩
 ·by_cases z:i=.d p
  ·subst z;have e:(Tr.set .dead p st.t).get p=some o:=e;rw[bH]at e;obtain rfl:=jK e;refine aJ (I.sto (.d p) x₀ hx) λa d r _=>?_;exact⟨a,d,r,trivial⟩
  ·refine I.sto i o ?_;cases i with
   |g q=>exact e
   |d q=>
    have e:(Tr.set .dead p st.t).get q=some o:=e;rw[aS _ _ _ _ λw=>z (by rw[w])]at e;exact e
 ·by_cases z:q=p
  ·subst z;exact I.wri q x₀ hx e2
  ·have e1:(Tr.set .dead p st.t).get q=some o:=e1;rw[aS _ _ _ _ z]at e1;exact I.wri q o e1 e2
 ·by_cases z:q=p
  ·subst z;exact I.xok.wri q x₀ hx e2
  ·have e1:(Tr.set .dead p st.t).get q=some o:=e1;rw[aS _ _ _ _ z]at e1;exact I.xok.wri q o e1 e2
theorem nT {h:Heap} (e:(h.push o).get? c=some o') (hc:c≠h.objs.size):h.get? c=some o':=by
 refine kN (Heap.get?_some_iff.mp e) λe1 e2=>?_;refine Heap.get?_some_iff.mpr ⟨?_,e2⟩;simpa[Heap.push,Array.getElem?_push,hc]using e1
theorem JW {h h'':Heap} {oA oB oC oD o1 o2 o3 oz:Obj} (fA:oA.isFreed=false) (fB:oB.isFreed=false) (fC:oC.isFreed=false) (fD:oD.isFreed=false) (g1:h.get? d1=some o1) (g2:h.get? d2=some o2) (g3:h.get? d=some o3) (gz:h.get? a=some oz) (n1:d≠d2) (n2:d≠d1) (n3:d2≠d1)
  (b5:h''.get? h.objs.size=some oD) (b2:h''.get? d=some oC) (hB:h''.get? d2=some oB) (hA:h''.get? d1=some oA) (b7:h''.get? a=some oz) (kept:∀c o,c≠a->c≠d->c≠d1->c≠d2->h.get? c=some o->h''.get? c=some o):
  ∀c o,((((h.update d1 λ_=>oA).update d2 λ_=>oB).update d λ_=>oC).push oD).get? c=some o->h''.get? c=some o:=λc o e=>by
 have sA:Heap.SameBut d1 h (h.update d1 λ_=>oA):=Heap.SameBut.update ..;have sB:Heap.SameBut d2 (h.update d1 λ_=>oA) ((h.update d1 λ_=>oA).update d2 λ_=>oB):=Heap.SameBut.update ..;have sC:Heap.SameBut d ((h.update d1 λ_=>oA).update d2 λ_=>oB) (((h.update d1 λ_=>oA).update d2 λ_=>oB).update d λ_=>oC):=Heap.SameBut.update ..;have size:(((h.update d1 λ_=>oA).update d2 λ_=>oB).update d λ_=>oC).objs.size=h.objs.size:=by refine aa sC.1 ?_;refine aa sB.1 ?_;rw[sA.1]
 by_cases z0:c=h.objs.size
 ·rw[z0,<-size,Heap.get?_push_size _ fD]at e;refine aa z0 (bI (jK e) ?_);exact b5
 ·have e:=nT e (by refine aa size ?_;exact z0)
  by_cases z1:c=d
  ·rw[z1,Heap.get?_update_self _ (sB.extBut _ _ n1 (sA.extBut _ _ n2 g3)) fC]at e;refine aa z1 (bI (jK e) ?_);exact b2
  ·rw[sC.2 c z1]at e
   by_cases z2:c=d2
   ·rw[z2,Heap.get?_update_self _ (sA.extBut _ _ n3 g2) fB]at e;refine aa z2 (bI (jK e) ?_);exact hB
   ·replace e:=(sB.2 c z2 ..)▸e
    by_cases z3:c=d1
    ·rw[z3,Heap.get?_update_self _ g1 fA]at e;refine aa z3 (bI (jK e) ?_);exact hA
    ·replace e:=(sA.2 c z3 ..)▸e
     by_cases z4:c=a
     ·rw[z4,gz]at e;refine aa z4 (bI (jK e) ?_);exact b7
     ·exact kept c o z4 z1 z3 z2 e
def O.tag (o:O):Nat:=@O.rec (λ_=>Nat) (λ_=>0) (λ_ _=>1) (λ_=>2) (λ_ _=>3) (λ_=>4) (λ_ _=>5) (λ_=>6) (λ_ _=>7) 8 (λ_=>9) o
theorem Al {st:St} {i j:AI} (h:dj i st=some x) (g:dj j st=some y) (n:Nat.beq x.tag y.tag=false):i≠j:=λz=>by
 rw[z,g]at h;rw[jK h]at n;exact absurd rfl (Nat.ne_of_beq_eq_false n)
theorem fj {ow:Addr->EU} (h:i≠j) (e1:ow x=.id i) (e2:ow y=.id j):x≠y:=λz=>by
 rw[z,e2]at e1;injection e1 with e;exact h e.symm
theorem sj {ow:Addr->EU} (e1:ow x=.id i) (e2:ow y=.imm):y≠x:=λz=>by
 rw[<-z,e2]at e1;injection e1
set_option maxHeartbeats 2000000 in
theorem KP (F:FxOk Z X n sc) {E} {G vs st m s} {k:KO} {i:AI} {a d:Addr} {p q:AI} {tg:Expr} (htg:E3 λes k p=>tg=.Tuple es k p) (I:bg Z X sl G vs st m s) (hi:dj i st=some (.zit p q)) (hr:G.ρ i=some (a,d)) (y:Qw i st k p q=true):
  wpAny (model Z.prog Z.w) X.A (pyNext (.ref a)) (MT Z X sl G vs m k tg a) E s:=by
 refine hG λCC hCC=>?_;refine M1 htg λes kk pos ee0=>?_;subst ee0;refine kX I λtr I=>?_;refine aJ (I.sto i _ hi) λa0 d0 r0 zz1=>?_;obtain⟨p',dp,q',dq,TI,u,v,r1,r2,h1,h2,h3⟩:=zz1;rw[hr]at r0;refine kN (fE r0) λee2 ee3=>?_;subst ee2 ee3;refine aA (ek (show obj p st _=true from y)) λo ho y=>?_;revert hCC ho;refine O.sel o y RP Qr RO Qq (λl y hCC ho=>?_) Qp Qo NS NR NQ;refine aJ (I.sto p _ ho) λa1 d1 r1' zz4=>?_;obtain⟨e1,t0,ws,j,ot,hq,⟨g1,c1,c2⟩,h4,hj⟩:=zz4;refine kN (Prod.mk.inj (ch (r1'.symm.trans r1))) λee5 ee6=>?_;subst ee5 ee6;subst e1;have hz:=I.get h1;have hTI:=I.get (I.imm _ _ h2);have hTO:=I.get h3;have hit:s.heap.IsTupleIter d1 t0 j:=⟨_,I.get g1,c1,c2⟩;have htup:s.heap.IsTuple t0 ws.toArray:=⟨_,I.get (I.imm _ _ hq),rfl,0,rfl⟩;have⟨ow,o1,o2,o3,o4⟩:=I.own;have oa:=o1 _ _ _ hr;have op:=o1 _ _ _ r1;have oq:=o1 _ _ _ r2;have oTI:=o2 _ _ h2;have ot0:=o2 _ _ hq;have pi:i≠p:=Al hi ho rfl;have ad:d≠a:=λz=>by
  have hz':=I.get h3;rw[z,I.get h1]at hz';injection hz' with hz';injection hz' with hz' _;injection hz' with hz';exact absurd hz' (by decide)
 cases l with
 |nil=>
  have y:xC p st (Gp i p q k)=true:=y;refine gD (cG (show put st p .dead (Gp i p q k none)=true from y)) λpp ee7 hfl y=>?_;subst ee7;obtain⟨ip,rfl,hfl2,y⟩:=cG (show put _ i .dead (k none)=true from y);have hx:ws.toArray[j]?=none:=by
   generalize hd:ws.drop j=r at h4
   induction h4 using SR.knil
   rw[List.getElem?_toArray,List.getElem?_eq_none];exact List.drop_eq_nil_iff.mp hd
  refine hCC ?_;refine Fm F.handled (fj pi.symm op.1 oa.1) (sj oa.1 ot0) hz hTI hit htup hx ⟨_,_,hTO⟩ λh' o' ho' he=>?_;obtain⟨tr2,I2⟩:=I.iter (x:=.dead) (tk:=s.toks) ho hfl r1 he ho' trivial;have hi2:(Tr.set O.dead pp st.t).get ip=some (.zit (.d pp) q):=by
   rw[aS _ _ _ _ (λw=>pi (by rw[w]))];exact hi
  exact⟨G,_,Gh.Le.refl G,y,_,I2.kill hi2⟩
 |cons vx r=>
  refine ib (show ah (dJ vx) false (put st p (.tit r) (Gp i p q k (some vx)))=true from y) λy sg=>?_;refine gD (cG y) λpp ee8 hfl y=>?_;subst ee8;refine aA (ek (show obj q _ _=true from y)) λo2' hq2 y=>?_;cases o2' with
  |lit lq jj=>
   refine gm (show obj lq _ (λo=>bJ o (Qx q lq jj _ (Cj i (.d pp) q vx k)))=true from y) λll y hl=>?_;refine ib y λy sg2=>?_;rw[iE]at y;have qp:q≠.d pp:=Al hq2 (show dj (.d pp) {st with t:=Tr.set (.tit r) pp st.t}=_ from bH _ _ _) rfl;have back:∀{i':AI} {o'},i'≠.d pp->dj i' {st with t:=Tr.set (.tit r) pp st.t}=some o'->dj i' st=some o':=λ{i' o'} h e=>by
    cases i' with
    |g p=>exact e
    |d p=>
     have e:(Tr.set (.tit r) pp st.t).get p=some o':=e;rw[aS _ _ _ _ (λw=>h (by rw[w]))]at e;exact e
   have hq0:=back qp hq2;have lp:lq≠.d pp:=Al hl (show dj (.d pp) {st with t:=Tr.set (.tit r) pp st.t}=_ from bH _ _ _) rfl;have hl0:=back lp hl;cases qv:ll[jj]? with
   |none=>rw[qv]at y;have y:xC q _ (Cj i (.d pp) q vx k)=true:=y;refine gD (cG (show put _ q .dead (Cj i (.d pp) q vx k none)=true from y)) λ_ _ _ y=>?_;exact ao y
   |some vy=>
    rw[qv]at y;refine gD (cG (show put _ q (.lit lq (Nat.succ jj)) (Cj i (.d pp) q vx k (some vy))=true from y)) λqq ee10 hfl2 y=>?_;subst ee10;obtain⟨ip,rfl,hfl3,y⟩:=cG (show put _ i (.zit (.d pp) (.d qq)) (λst=>iz [vx,vy] st λv st=>k (some v) st)=true from y);have y:=(dK (show ah (szOk [vx,vy]) (k (some (.tup [vx,vy])) _) false=true from y)).2;have iq:AX.Id.d ip≠.d qq:=Al hi hq0 rfl;have lqq:lq≠.d qq:=Al hl0 hq0 rfl;have li:lq≠.d ip:=Al hl0 hi rfl;refine aJ (I.sto _ _ hq0) λa2 d2 r2' zz11=>?_;obtain⟨e2,la,dl,oi2,rl,gl,c3,c4⟩:=zz11;refine kN (Prod.mk.inj (ch (r2'.symm.trans r2))) λee12 ee13=>?_;subst ee12 ee13;subst e2;refine aJ (I.sto _ _ hl0) λa3 d3 rl' zz14=>?_;obtain⟨e3,wl,nl,gw,hw⟩:=zz14;refine kN (Prod.mk.inj (ch (rl'.symm.trans rl))) λee15 ee16=>?_;subst ee15 ee16;subst e3;have ol:=o1 _ _ _ rl;have hlit:s.heap.IsListIter d2 d3 jj:=⟨_,I.get gl,c3,c4⟩;have hlis:s.heap.IsList d3 wl.toArray:=⟨_,I.get gw,rfl,nl,rfl⟩;refine aA ((hw.plain sg2).get qv) λwy hwy hvy=>?_;generalize hd:ws.drop j=u' at h4
    induction h4 using SR.kcons with
    |seg i' cut us ws' e0 hq' hv' hr2'=>subst e0;cases sg
    |cons wx ws' hvx hr2=>
     have hx:ws.toArray[j]?=some wx:=by
      rw[List.getElem?_toArray];have:=congrArg (·[0]?) hd;simpa using this
     have hd2:ws.drop (j+1)=ws':=by rw[<-List.drop_drop,hd];rfl
     have hlt:j<ws.length:=by
      have:=(Array.getElem?_eq_some_iff.mp hx).1;simpa using this
     have D:EI a TI d d1 d2 t0 d3:=⟨sj oa.1 oTI,ad,fj pi.symm op.1 oa.1,fj iq.symm oq.1 oa.1,sj oa.2 oTI,fj pi oa.2 op.1,fj iq oa.2 oq.1,fj qp.symm op.1 oq.1,sj oa.1 ot0,fj li ol.1 oa.1,fj li ol.1 oa.2,fj lp ol.1 op.1⟩;refine hCC ?_;refine Bi D hz hTI hTO hit hlit htup hlis hx (by rw[List.getElem?_toArray];exact hwy) λh' b1 b2 b3 b4 b5 b6 E'=>?_;refine wpAny_letOwnedTupleGo_zip b1 λh'' b7 b8=>?_;refine gD b3 λoA hA kA1 kA2=>?_;refine gD b4 λoB hB kB1 kB2=>?_;refine ak (I.wri pp _ ho hfl) λ_ _ rr m1 _=>?_;refine kN (Prod.mk.inj (ch (r1.symm.trans rr))) λee17 ee18=>?_;subst ee17 ee18;refine ak (I.wri qq _ hq0 hfl2) λ_ _ rr m2 _=>?_;refine kN (Prod.mk.inj (ch (r2.symm.trans rr))) λee19 ee20=>?_;subst ee19 ee20;refine ak (I.wri ip _ hi hfl3) λ_ _ rr m3 m4=>?_;refine kN (Prod.mk.inj (ch (hr.symm.trans rr))) λee21 ee22=>?_;subst ee21 ee22;have fA:oA.isFreed=false:=Obj.isFreed_of_fields kA2;have fB:oB.isFreed=false:=Obj.isFreed_of_fields kB2;have J1:=I.putV (x:=.tit r) (o:=oA) ⟨_,ho⟩ hfl r1 (.inl rfl) m1 fA ⟨rfl,t0,ws,j+1,oA,hq,⟨.inl (bU m1),kA1,kA2⟩,by rw[hd2];exact hr2,hlt⟩;have m2':d2∈(setT tr d1 oA).map (·.1):=by rw[gb];exact m2
     have J2:=J1.putV (x:=.lit lq (Nat.succ jj)) (o:=oB) ⟨_,hq2⟩ hfl2 r2 (.inl rfl) m2' fB ⟨rfl,d3,_,oB,rl,.inl (bU m2'),kB1,kB2⟩;have m4':d∈(setT (setT tr d1 oA) d2 oB).map (·.1):=by rw[gb,gb];exact m4
     have m3':a∈(setT (setT tr d1 oA) d2 oB).map (·.1):=by rw[gb,gb];exact m3
     have hi2:(Tr.set (.lit lq (Nat.succ jj)) qq (Tr.set (.tit r) pp st.t)).get ip=some (.zit (.d pp) (.d qq)):=by
      rw[aS _ _ _ _ (λw=>iq (by rw[w])),aS _ _ _ _ (λw=>pi (by rw[w]))];exact hi
     have hz3:cO X (setT (setT (setT tr d1 oA) d2 oB) d (cj [wx,wy])) a {cls:=.type "zip",data:=.fields #[.none,.bool false,.bool false,.ref TI,.ref d]}:=
      ((h1.setT (fj pi oa.1 op.1)).setT (fj iq oa.1 oq.1)).setT ad.symm
     have J3:=J2.putV (x:=.zit (.d pp) (.d qq)) (o:=cj [wx,wy]) ⟨_,hi2⟩ hfl3 hr (.inr rfl) m4' rfl ⟨d1,_,d2,_,TI,wx,wy,r1,r2,hz3,h2,.inl (bU m4')⟩;have u:=J3.unown (c8 _);have J4:=(J3.push (cj [wx,wy]) rfl).addH (aL ..) u;have L:=iK (G:=G) (o:=cj [wx,wy]) u.2.1;have sA:Heap.SameBut d1 s.heap (s.heap.update d1 λ_=>oA):=Heap.SameBut.update ..;have sB:Heap.SameBut d2 (s.heap.update d1 λ_=>oA) ((s.heap.update d1 λ_=>oA).update d2 λ_=>oB):=Heap.SameBut.update ..;have sC:Heap.SameBut d ((s.heap.update d1 λ_=>oA).update d2 λ_=>oB) (((s.heap.update d1 λ_=>oA).update d2 λ_=>oB).update d λ_=>cj [wx,wy]):=Heap.SameBut.update ..;have size:(((s.heap.update d1 λ_=>oA).update d2 λ_=>oB).update d λ_=>cj [wx,wy]).objs.size=s.heap.objs.size:=by rw[sC.1,sB.1,sA.1]
     have kept:∀c o,c≠a->c≠d->c≠d1->c≠d2->s.heap.get? c=some o->h''.get? c=some o:=λc o c1 c2 c3 c4 e=>b8.extBut _ _ c1 (b6 c o c1 c2 c3 c4 e);have off:∀c,c∈tr.map (·.1)->c≠X.L/\X.base.get? c=none:=λc hc=>by
      refine aA (List.mem_map.mp hc) λp hp e=>?_;have:=I.nw p hp;rw[show p.1=c from e]at this;exact this.2
     have F'':Fr X.base X.L h'' m:=⟨I.fr.ns.at' λo e=>kept _ o (off _ m3).1.symm (off _ m4).1.symm (off _ m1).1.symm (off _ m2).1.symm e,
      λc o e=>kept c o (λz=>by rw[z,(off _ m3).2]at e;exact bd e) (λz=>by rw[z,(off _ m4).2]at e;exact bd e) (λz=>by rw[z,(off _ m1).2]at e;exact bd e) (λz=>by rw[z,(off _ m2).2]at e;exact bd e) (I.fr.keep c o e),I.fr.above⟩
     have ba:s.heap.objs.size≠a:=λz=>fg _ (z▸bW hz);have at_:∀c o,((((s.heap.update d1 λ_=>oA).update d2 λ_=>oB).update d λ_=>cj [wx,wy]).push (cj [wx,wy])).get? c=some o->h''.get? c=some o:=
      JW fA fB rfl rfl (I.get g1) (I.get gl) hTO hz (fj iq oa.2 oq.1) (fj pi oa.2 op.1) (fj qp oq.1 op.1) (b8.extBut _ _ ba b5) (b8.extBut _ _ ad b2) (b8.extBut _ _ (fj iq.symm oq.1 oa.1) hB) (b8.extBut _ _ (fj pi.symm op.1 oa.1) hA) b7 kept
     have N'':=λp hp=>(⟨at_ _ _ (J4.nw p hp).1,(J4.nw p hp).2⟩:h''.get? p.1=some p.2/\p.1≠X.L/\X.base.get? p.1=none);have J5:=J4.reheap (tk:=s.toks) F'' N'';refine⟨_,.tup [vx,vy],_,L,.tup [vx,vy] [wx,wy] _ (.cons _ _ _ _ (hvx.mono L) (.cons _ _ _ _ (hvy.mono L) .nil)) ?_,y,_,J5⟩;rw[<-size];exact hF
  |_=>exact ao y
end
end
section
section
variable{Z:Zt} {X:Fx} {n:Nat} {sc:Scope} {sl:List Str}
theorem Cl (htg:E3 λes k p=>tg=.Tuple es k p):tA Z n sc sl Qw tg:=λX F E G vs st m s k i a d I hr y=>by
 refine aA (ek y) λo hi y=>?_;cases o with
 |zit p q=>exact KP F htg I hi hr y
 |lit q j=>
  exact gm y λl y hq=>aq (yE F I hi hq hr y) (λ_ _ z=>z.f) λ_ _ z=>z
 |tit l=>exact aq (um F I hi hr y) (λ_ _ z=>z.f) λ_ _ z=>z
 |rit x left=>exact aq (un F I hi hr y) (λ_ _ z=>z.f) λ_ _ z=>z
 |bit l=>exact aq (uo F I hi hr y) (λ_ _ z=>z.f) λ_ _ z=>z
 |_=>exact ao y
theorem ap.newO {G vs st m s tr} (I:ap Z X sl G vs st m s tr) {d:Addr} (hf:o.isFreed=false) (hd:d=s.heap.objs.size\/(d∈tr.map (·.1)/\j0 G X d))
  (h:∀G',G.Le G'->OR Z (cO X ((s.heap.objs.size,o)::tr)) G' s.heap.objs.size d x):
  G.Le (G.putI (.d st.n) (s.heap.objs.size,d))/\ap Z X sl (G.putI (.d st.n) (s.heap.objs.size,d)) vs {st with t:=Tr.set x st.n st.t,n:=st.n.succ} m {s with heap:=s.heap.push o} ((s.heap.objs.size,o)::tr):=by
 have u:=I.unown (c8 _);have L:=gO (G:=G) (p:=(s.heap.objs.size,d)) (I.cnt st.n (c8 _));have hd':d∈(((s.heap.objs.size,o)::tr).map (·.1))/\j0 G X d:=by
  rcases hd with rfl |⟨h1,h2⟩
  ·exact⟨by simp,u⟩
  ·exact⟨bc _ h1,h2⟩
 exact⟨L,(I.push o hf).addI (x:=x) (a:=s.heap.objs.size) (d:=d) (by simp) hd'.1 u hd'.2 (h _ L)⟩
theorem HA (B:fc Z sc "zip" (.type "zip")) (h1:av Z n sc sl a e1) (s1:bR e1) (h2:av Z n sc sl b e2) (s2:bR e2):av Z n sc sl (Mk a b) (.Call (.Name "zip" p) [e1,e2] [] pos):=λX F G vs st m s k kE I y=>by
 refine Ec (k':=λx y st=>Nc x y st k) (mz _) B h1 s1 h2 s2 F I y λG1 v1 w1 v2 w2 st1 s1 L r1 r2 y1 I1=>?_;refine VR.sel r1 y1 qi rX rW rV Bd tF qh qQ (λl ws q hl hq y1=>?_) tD gh gf;refine I1.k λtr I1=>?_;refine kN (I1.newO (x:=.tit l) rfl (.inl rfl) λG' L=>⟨rfl,q,ws,0,_,L.H _ _ hq,⟨.inl (aL ..),rfl,rfl⟩,by simpa using hl.mono L,Nat.zero_le _⟩) λL2 I2=>?_;obtain⟨t,nn,d,mm,g',xx,f⟩:=st1;refine aA (cb y1) λlq ee1 y1=>?_;subst ee1;refine gm y1 λll y1 ho=>?_
 induction(r2.mono L2)using VR.kref with
 |ref a2 d2 hr2=>
  refine aJ (I2.sto _ _ ho) λa3 d3 rl zz3=>?_;obtain⟨e3,wl,nl,gw,hw⟩:=zz3;refine kN (Prod.mk.inj (ch (hr2.symm.trans rl))) λee4 ee5=>?_;subst ee5;refine aa ee4 ?_;subst e3;have hne:d2≠s1.heap.objs.size:=λz=>by
   have:=I2.get gw;rw[z,Heap.get?_push_size _ rfl]at this;injection this with this;injection this with this _;exact absurd this (by decide)
  refine kN (I2.newO (x:=.lit lq 0) rfl (.inl rfl) λG' L=>⟨rfl,d2,d2,_,L.ρ _ _ rl,.inl (aL ..),rfl,rfl⟩) λL3 I3=>?_;have u4:=I3.unown (c8 _);have I4:=(I3.push (cj [.ref s1.heap.objs.size,.ref (s1.heap.push (NV q 0)).objs.size]) rfl).addH (aL ..) u4;have L4:=iK (o:=cj [.ref s1.heap.objs.size,.ref (s1.heap.push (NV q 0)).objs.size]) u4.2.1;obtain⟨L6,I6⟩:=(I4.push (cj [.none,.none]) rfl).newO (x:=.zit (.d nn) (.d nn.succ))
   rfl (.inr ⟨by simp,(I4.unown (c8 _))⟩)
   λG' L=>⟨s1.heap.objs.size,s1.heap.objs.size,(s1.heap.push (NV q 0)).objs.size,(s1.heap.push (NV q 0)).objs.size,_,.none,.none,(L4.trans L).ρ _ _ (L3.ρ _ _ bV),(L4.trans L).ρ _ _ bV,.inl (aL ..),L.H _ _ hF,.inl (by simp)⟩
  refine Eb ⟨_,I1.get (I1.imm _ _ hq),rfl,0,rfl⟩ ⟨_,nT (I2.get gw) hne,rfl,nl,rfl⟩ ?_;exact⟨_,.ref (.d nn.succ.succ),_,L2.trans (L3.trans (L4.trans L6)),.ref _ _ _ bV,y1,_,I6⟩
end
end
section
section
variable{M:Model} {A:Around} {E:Value->Shared->Prop} {h:Heap} {g:Array GenState} {d:Drawn} {t:Nat} {os:OsState}
variable{nm q:Str} {C N:Addr} {bs bm bmB:List Value} {hdct:Bool} {sn:List Str} {sub:List Value} {ab:Bool} {col:Option Bool} {dd:Option Addr} {k0 k1 k2 k3 k5:Option Value} {B newId initId:String}
structure yf (B:String) (bmB bm:List Value):Prop where
 hasB:bm.contains (.type B)
 noAttr:bm.contains (.type "AttributeError")=false
 noName:bm.contains (.type "NameError")=false
theorem rM (F:ExcBaseFacts B newId initId bmB) (T:yf B bmB bm) {rest:List Value} {Q:Unit->Shared->Prop} (hC:h.get? C=some (excClassObj nm q C N bs bm hdct sn sub ab col dd k0 k1 k2 k3 k5 newId))
  (hq:Q () ⟨h,g,d,t,os⟩):wpAny M A (checkBuiltinCall newId ⟨.ref C::rest,[]⟩) Q E ⟨h,g,d,t,os⟩:=by
 have hcont:(Value.ref C::bm).contains (.type B):=by refine aa List.contains_cons ?_;refine aa T.hasB ?_;rw[Bool.or_true]
 have hstar:=F.noStar;rw[checkBuiltinCall,F.newKind,F.newSplit,F.newRow]
 repeat (first |refine wpAny_loadPart_at hC ?_ |(refine wpAny_isSubtype_exc hC ?_;refine aa hcont ?_) |refine wpAny_staticBase_exc hC ?_ |refine wpAny_madeBy_exc hC ?_ |rw[if_false] |wp_step)
 exact hq
end
section
variable{prog:Program} {w:World} {A:Around} {E:Value->Shared->Prop} {R:Result->Shared->Prop} {h:Heap} {g:Array GenState} {d:Drawn} {t:Nat} {os:OsState}
variable{nm q:Str} {C N:Addr} {bs bm bmB:List Value} {hdct:Bool} {sn:List Str} {sub:List Value} {ab:Bool} {col:Option Bool} {dd:Option Addr} {k0 k1 k2 k3 k5:Option Value} {B newId initId:String}
theorem JY (F:ExcBaseFacts B newId initId bmB) (T:yf B bmB bm) {rest:List Value} (hC:h.get? C=some (excClassObj nm q C N bs bm hdct sn sub ab col dd k0 k1 k2 k3 k5 newId))
  (hq:R (.ok (.ret (.ref (h.objs.size+1)))) ⟨(h.push {cls:=.type "tuple",data:=.seq rest.toArray}).push
   {cls:=.ref C,data:=.fields #[.ref h.objs.size,.none,.none,.none,.bool false,.none]},g,d,t,os⟩) (hrest:rest.length<=sizeLine):
  codeAny (model prog w) A (.builtin newId ⟨.ref C::rest,[]⟩) R ⟨h,g,d,t,os⟩:=by
 have hends:=F.ends;have hcB:(Value.ref C::bm).contains (.type B):=by refine aa List.contains_cons ?_;refine aa T.hasB ?_;rw[Bool.or_true]
 have hcA:(Value.ref C::bm).contains (.type "AttributeError")=false:=by refine aa List.contains_cons (aa T.noAttr ?_);rfl
 have hcN:(Value.ref C::bm).contains (.type "NameError")=false:=by refine aa List.contains_cons (aa T.noName ?_);rfl
 refine codeAny_builtinAt F.entry ?_;refine PySem.wpAt_bind ?_;refine PySem.wpAt_bind (PySem.wpAt_stack λp below=>PySem.wpAt_of_wpAny ?_)
 wp_walk
 refine PySem.wpAt_of_wpAny ?_;refine aa F.owner ?_
 repeat (first |with_reducible refine wpAny_madeHere_exc F.canon hC ?_ |with_reducible refine wpAny_loadPart_at hC ?_ |(with_reducible refine wpAny_isSubtype_exc hC ?_;first |rw[hcB] |rw[hcA] |refine aa hcN ?_) |wp_step)
 exact aa (Heap.size_push ..) (hq)
theorem Fq (F:ExcBaseFacts B newId initId bmB) (T:yf B bmB bm) 
  (hC:h.get? C=some (excClassObj nm q C N bs bm hdct sn sub ab col dd k0 k1 k2 k3 k5 newId)) (hl:∀h',(∀b o,h.get? b=some o->h'.get? b=some o)->Looks (model prog w) h' (typeLookup (.ref C) "__init__") (some (.ref fI)))
  (hfI:h.get? fI=some oI) (hfc:oI.cls=.type "function")
  (hq:∀h' e,Heap.MadeExcOf h h' e (.ref C) rest->
   wpAny (model prog w) A (call (.ref fI) (.ref e::rest)) (λr s'=>r=.none/\Q (.done (.ret (.ref e))) s') E ⟨h',g,d,t,os⟩) (hrest:rest.length<=sizeLine):
  wpAny (model prog w) A (Builtin.«type.__call__» ⟨.ref C::rest,[]⟩) Q E ⟨h,g,d,t,os⟩:=by
 repeat (first |with_reducible refine wpAny_loadPart_at hC ?_ |with_reducible refine wpAny_madeBy_exc hC ?_ |wp_step)
 refine codeAny_call_builtin_code (Code.quiet_builtin _ F.quiet) (rM F T hC ?_);refine JY F T hC ?_ hrest;have hk:∀b o,h.get? b=some o->((h.push {cls:=.type "tuple",data:=.seq rest.toArray}).push {cls:=.ref C,data:=.fields #[.ref h.objs.size,.none,.none,.none,.bool false,.none]}).get? b=some o:=λb o e=>eX _ (eX _ e);have hget:((h.push {cls:=.type "tuple",data:=.seq rest.toArray}).push
   {cls:=.ref C,data:=.fields #[.ref h.objs.size,.none,.none,.none,.bool false,.none]}).get? (h.objs.size+1)=some
   {cls:=.ref C,data:=.fields #[.ref h.objs.size,.none,.none,.none,.bool false,.none]}:=by heap_get
 have hcC:(Value.ref C::bm).contains (.ref C):=by simp
 repeat (first |with_reducible refine wpAny_loadPart_at hget ?_ |(with_reducible refine wpAny_isSubtype_exc (hk _ _ hC) ?_;refine aa hcC ?_) |wp_step)
 refine(hl _ hk) _ _ _ _ (λ_ _ e=>e) ?_;refine wpAny_holding (ae ?_);refine ae (wpAny_typeOf ⟨_,(hk _ _ hfI),hfc⟩ ?_);refine aR (ae (aq (hq _ (h.objs.size+1) ⟨hk,Heap.get?_none_of_le (Nat.le_succ _),h.objs.size,hget,Heap.get?_none_of_le (c8 _),?_⟩) (λr s' hr=>?_) λ_ _ x=>x))
 ·exact eX _ (Heap.get?_push_at rfl rfl)
 ·obtain⟨rfl,hQ⟩:=hr
  wp_walk
  exact hQ
theorem Fs (F:ExcBaseFacts B newId initId bmB) (T:yf B bmB bm) 
  (hC:h.get? C=some (excClassObj nm q C N bs bm hdct sn sub ab col dd k0 k1 k2 k3 k5 newId)) (hl:∀h',(∀b o,h.get? b=some o->h'.get? b=some o)->Looks (model prog w) h' (typeLookup (.ref C) "__init__") (some (.ref fI)))
  (hfI:h.get? fI=some oI) (hfc:oI.cls=.type "function")
  (hq:∀h' e,Heap.MadeExcOf h h' e (.ref C) rest->
   wpAny (model prog w) (A.under (.builtin "type.__call__" ⟨.ref C::rest,[]⟩)) (call (.ref fI) (.ref e::rest)) (λr s'=>r=.none/\Q (.ref e) s') E ⟨h',g,d,t,os⟩) (hrest:rest.length<=sizeLine):
  wpAny (model prog w) A (call (.ref C) rest) Q E ⟨h,g,d,t,os⟩:=by
 have f1:=tc_lookup;have f2:=tc_bind (.ref C);have hT:(⟨h,g,d,t,os⟩:Shared).TypeIs (.ref C) "type":=⟨_,hC,rfl⟩;refine wpAny_call (codeAny_of_tree ?_)
 repeat (any_goals (first |assumption |with_reducible refine wpAny_loadPart_at hC ?_ |wp_step))
 refine⟨rfl,?_⟩;refine codeAny_call_builtin_at (Code.quiet_builtin _ (by decide+kernel)) entry_typeCall (wpAny_check_type_call_sub hC (Fq F T hC hl hfI hfc (λh' e hm=>?_) hrest));exact hq h' e hm
end
end
section
structure Fa (S:Addr->Obj->Prop) (h:Heap) (x C:Addr) (vs:Array Value) (ns:List Str):Prop where
 keep:∀b o,S b o->h.get? b=some o/\b≠x
 obj:∃o,A4 (h.get? x=some o) (o.cls=.ref C) (o.data=.fields vs) (((o.dict=none/\ns=[])\/E2 λd m=>A5 (o.dict=some d) (d≠x) ((∀ob,¬S d ob)) (h.Ns1 d m) (PySem.Within m ns)))
section
variable{prog:Program} {w:World} {A:Around} {E:Value->Shared->Prop} {s:Shared} {K:Frag} {x C:Addr} {R:Result->Shared->Prop}
theorem yi {ox:Obj} {od:Option Obj} {name:Str} {tk:Tok} {v:Value} {r:Option Value} {cd:ClassData} (X:K.In s.heap) (I:InstAt s.heap x ox C od) (hc:clsIn K C=some cd) (ne:cd.mro.isEmpty=false) (hob:cd.mro.contains (.type "object"))
  (hpass:∀self,refuseLoop self "__setattr__" cd.mro=pure ()) (ht:takerIn K C name=some r)
  (h:∀b,wpAny (model prog w) A.in1 (match r with |some a=>Builtin.ObjectAttr.setByDescriptor a (.ref x) v |none=>Builtin.ObjectAttr.storeInOwnDict (.ref x) (.ref C) (.str name tk) name v b)
   (λfin s'=>match fin with |.done f=>R (.ok f) s' |.again c'=>c'.quiet/\codeAny (model prog w) A c' R s') (λe s'=>R (.error e) s') s):
  codeAny (model prog w) A (.call (.builtin "object.__setattr__") ⟨[.ref x,.str name tk,v],[]⟩) R s:=by
 have SF:=PySem.F.store_object;have sub:Looks (model prog w) s.heap (isInstance (.ref x) (.type "object")) true:=I.type.andThen (looks_mroIn X (by unfold mroIn;refine aa hc ?_;rw[Option.bind_some,if_neg (by refine aa ne ?_;decide),hob]));refine codeAny_call_builtin SF.slot.plain SF.entry (@check_slot (model prog w) _ _ s "object.__setattr__" "object" "__setattr__" (.ref x) [.str name tk,v] [] _ SF.kind SF.split sub (SF.args (.ref x) (.str name tk) v) ?_);refine aA (Option.bind_eq_some_iff.mp ht) λattr ha hr=>?_;have hm:Looks (model prog w) s.heap (mroOf (.ref C)) cd.mro:=(looks_clsIn X hc).andThen .now;have L3:Looks (model prog w) s.heap (Builtin.ObjectAttr.storeTaker? attr) r:=by
  cases attr with
  |none=>refine gP hr ?_;exact .now
  |some a=>
   refine aA (Option.map_eq_some_iff.mp hr) λb hb ee0=>?_;subst ee0;refine(looks_takesIn X hb).andThen ?_;cases b<;>exact .now
 refine aa (osa_eq ..) (aa (refuse_eq ..) ?_);refine ae (ae (I.type.here (ae (hm.here ?_))));refine aa (hpass ..) ?_;refine aR (ae (I.type.here (ae ((looks_findIn X ha).here (ae (L3.here ?_))))));exact h _
theorem JX (X:∀h',(∀b o,S b o->h'.get? b=some o)->K.In h') (I:Fa S s.heap x C vs ns) (hn:ns.length<=100)
  (hc:clsIn K C=some cd) (hd:cd.hasDict) (ne:cd.mro.isEmpty=false) (hob:cd.mro.contains (.type "object"))
  (hpass:∀self,refuseLoop self "__setattr__" cd.mro=pure ()) (ht:takerIn K C name=some none)
  (hq:∀h' tk,Fa S h' x C vs (name::ns)->R (.ok (.ret .none)) {s with heap:=h',toks:=tk}):codeAny (model prog w) A (.call (.builtin "object.__setattr__") ⟨[.ref x,.str name tk,v],[]⟩) R s:=by
 refine hG λCC hCC=>?_;have XK:=X s.heap λb o e=>(I.keep b o e).1;obtain⟨kp,o,hx,hcl,hda,hdi⟩:=I;have hno:notCls o:=by unfold notCls;rw[hda]
 obtain⟨oc,odi,oda,osl⟩:=o;dsimp only at hcl hda hdi;subst hcl hda;rcases hdi with⟨rfl,rfl⟩ |⟨d,m,rfl,hdx,hdS,hns,hw⟩
 ·have I:InstAt s.heap x ⟨.ref C,none,.fields vs,osl⟩ C none:=⟨hx,rfl,hno,trivial⟩;refine hCC ?_;refine yi XK I hc ne hob hpass ht λb=>?_;refine ae (aR (ae (ae (wpAny_loadPart hx (ae ((looks_clsIn XK hc).here ?_))))));rw[hd];have hx₁:(s.heap.push {cls:=.type "dict",data:=.dict #[]}).get? x=some {cls:=.ref C,dict:=none,data:=.fields vs,slots:=osl}:=eX _ hx;have hxs:x≠s.heap.objs.size:=Nat.ne_of_lt (bW hx);refine ae (wpAny_alloc ?_);refine ae (wpAny_update hx₁ ?_);refine aR ?_;have hgd:((s.heap.push {cls:=.type "dict",data:=.dict #[]}).update x λo=>{o with dict:=some s.heap.objs.size}).get? s.heap.objs.size=some {cls:=.type "dict",data:=.dict #[]}:=
   (Heap.get?_update_other _ _ hxs).trans (Heap.get?_push_size _ rfl)
  have hnd:((s.heap.push {cls:=.type "dict",data:=.dict #[]}).update x λo=>{o with dict:=some s.heap.objs.size}).Ns s.heap.objs.size (λ_=>none):=
   ⟨_,#[],_,hgd,rfl,λe he=>absurd he (by simp),λ_=>rfl⟩
  show wpAny _ _ (Builtin.ObjectAttr.storeInDict s.heap.objs.size (.str name tk) name v) _ _ _;unfold Builtin.ObjectAttr.storeInDict Builtin.ObjectAttr.newKeyGuard;refine ae (aR (ae (wpAny_nsSet1 (Heap.Ns1.of_empty hnd) λh' hn' hs=>?_)));refine xq (hn'.count (PySem.Within.cons name v PySem.Within.nil)) λoD esD epD hoD hdD hcD=>?_;refine ae (wpAny_lookBehind hoD (by rw[hdD];exact pastItsLine_dict (cM hcD (by rw[List.length_cons,List.length_nil,sizeLine_eq];exact Nat.le_add_left (0+1) 16777216))) ?_);refine aR (hq h' _ ⟨λb o e=>⟨?_,(kp b o e).2⟩,_,(hs.2 x hxs).trans (Heap.get?_update_self _ hx₁ rfl),rfl,rfl,.inr ⟨s.heap.objs.size,_,rfl,hxs.symm,λob e=>?_,hn',PySem.Within.cons name v PySem.Within.nil⟩⟩)
  ·have hb:=(kp b o e).1;exact(hs.2 b (Nat.ne_of_lt (bW hb))).trans ((Heap.get?_update_other _ _ (kp b o e).2.symm).trans (eX _ hb))
  ·exact fg _ (bW (kp _ ob e).1)
 ·refine xq (id hns) λoD es ep hoD hdD r=>?_;have I:InstAt s.heap x ⟨.ref C,some d,.fields vs,osl⟩ C (some oD):=⟨hx,rfl,hno,hoD⟩;refine hCC ?_;refine yi XK I hc ne hob hpass ht λb=>?_;refine ae (aR (ae (ae (wpAny_loadPart hx (ae ((looks_clsIn XK hc).here ?_))))));rw[hd];refine aR (a:=some d) ?_;show wpAny _ _ (Builtin.ObjectAttr.storeInDict d (.str name tk) name v) _ _ _;unfold Builtin.ObjectAttr.storeInDict Builtin.ObjectAttr.newKeyGuard;refine ae (aR (ae (wpAny_nsSet1 hns λh' hn' hs=>?_)));refine xq (hn'.count (PySem.Within.cons name v hw)) λoD' esD epD hoD' hdD' hcD=>?_;refine ae (wpAny_lookBehind hoD' (by rw[hdD'];exact pastItsLine_dict (cM hcD (by rw[List.length_cons,sizeLine_eq];exact Nat.lt_of_le_of_lt (by assumption) (by decide)))) ?_);refine aR (hq h' _ ⟨λb o e=>⟨(hs.2 b λz=>hdS o (z▸e)).trans (kp b o e).1,(kp b o e).2⟩,_,(hs.2 x hdx.symm).trans hx,rfl,rfl,.inr ⟨d,_,rfl,hdx,hdS,hn',PySem.Within.cons name v hw⟩⟩)
theorem Bj (X:∀h',(∀b o,S b o->h'.get? b=some o)->K.In h') (I:Fa S s.heap x C vs ns) (hn:ns.length<=100)
  (hs:findIn K (.ref C) "__setattr__"=some (some (.builtin "object.__setattr__"))) (hc:clsIn K C=some cd) (hd:cd.hasDict) (ne:cd.mro.isEmpty=false) (hob:cd.mro.contains (.type "object"))
  (hpass:∀self,refuseLoop self "__setattr__" cd.mro=pure ()) (ht:takerIn K C name=some none)
  (hq:∀h' tk,Fa S h' x C vs (name::ns)->Q () {s with heap:=h',toks:=tk}):wpAny (model prog w) A (PySem.setAttr (.ref x) name v) Q E s:=by
 have hI:E2 λox od=>InstAt s.heap x ox C od:=by
  obtain⟨kp,o,hx,hcl,hda,hdi⟩:=I;have hno:notCls o:=by unfold notCls;rw[hda]
  rcases hdi with⟨h1,_⟩ |⟨d,m,h1,_,_,⟨oD,es,ep,hoD,_⟩,_⟩
  ·exact⟨o,none,hx,hcl,hno,by refine aa h1 ?_;simp⟩
  ·exact⟨o,some oD,hx,hcl,hno,by refine aa h1 ?_;exact hoD⟩
 exact GN hI λox od hI=>set_plain (X s.heap λb o e=>(I.keep b o e).1) hI hs (JX X I hn hc hd ne hob hpass ht λh' tk z=>hq h' tk z)
end
end
section
section
variable{prog:Program} {w:World} {A:Around} {E:Value->Shared->Prop} {s:Shared} {x C:Addr} {R:Result->Shared->Prop}
variable{nm q:Str} {N:Addr} {bs bm bmB:List Value} {hdct:Bool} {sn:List Str} {sub:List Value} {ab:Bool} {col:Option Bool} {dd:Option Addr} {k0 k1 k2 k3 k5:Option Value} {B newId initId:String}
theorem Bk {M:Model} {h:Heap} {g:Array GenState} {d:Drawn} {t:Nat} {os:OsState} (F:ExcBaseFacts B newId initId bmB) (T:yf B bmB bm) {e:Addr} {oe:Obj} {rest:List Value} {Q:Unit->Shared->Prop}
  (hC:h.get? C=some (excClassObj nm q C N bs bm hdct sn sub ab col dd k0 k1 k2 k3 k5 newId)) (he:h.get? e=some oe) (hcls:oe.cls=.ref C) (hq:Q () ⟨h,g,d,t,os⟩):
  wpAny M A (checkBuiltinCall initId ⟨.ref e::rest,[]⟩) Q E ⟨h,g,d,t,os⟩:=by
 have hcB:(Value.ref C::bm).contains (.type B):=by refine aa List.contains_cons ?_;refine aa T.hasB ?_;rw[Bool.or_true]
 have hshort:=F.noStar;simp only[checkBuiltinCall,F.initKind,F.initSplit,F.initRow]
 repeat (first |(with_reducible refine wpAny_loadPart_at he ?_;refine aa hcls ?_) |with_reducible refine wpAny_loadPart_at hC ?_ |(with_reducible refine wpAny_isSubtype_exc hC ?_;refine aa hcB ?_) |wp_step)
 rw[show∀(a b:String) n,Bind.check ⟨.positional,"*",B,.self,[⟨"args",.varPos,false⟩]⟩ a b n (List.map (λx=>x.fst) ({pos:=Value.ref e::rest}:Args).kw)=pure ()from
  λa b n=>check_star_args _ _ _ _ _ _]
 exact aR hq
theorem Fp (F:ExcBaseFacts B newId initId bmB) (T:yf B bmB bm) {S:Addr->Obj->Prop} {vs:Array Value} {ns:List Str} {v:Value} {t0:Addr} (hC:s.heap.get? C=some (excClassObj nm q C N bs bm hdct sn sub ab col dd k0 k1 k2 k3 k5 newId))
  (I:Fa S s.heap x C vs ns) (h0:vs[0]?=some (.ref t0)) (hq:∀h' t',Fa S h' x C (vs.setIfInBounds 0 (.ref t')) ns->R (.ok (.ret .none)) {s with heap:=h'}):
  codeAny (model prog w) A (.call (.builtin initId) ⟨[.ref x,v],[]⟩) R s:=by
 obtain⟨kp,o,hx,hcl,hda,hdi⟩:=I;obtain⟨hp,g,d,t,os⟩:=s;refine codeAny_call_builtin F.init.plain F.initEntry (Bk F T hC hx hcl ?_);have hx₁:=eX {cls:=.type "tuple",data:=.seq [v].toArray} hx;refine ae (wpAny_newObj_type (ae (ae (wpAny_field hx₁ hda h0 (ae (wpAny_setField hx₁ hda ((Array.getElem?_eq_some_iff.mp h0).1) ?_))))) (by size_fits));refine wpAny_letGo ?_;refine aR ?_;have xs:∀b,b<hp.objs.size->b≠x->∀o,hp.get? b=some o->((hp.push {cls:=.type "tuple",data:=.seq [v].toArray}).update x (Obj.mapFields (·.setIfInBounds 0 (.ref hp.objs.size)))).get? b=some o:=λb _ hb o e=>
  (Heap.get?_update_other _ _ hb.symm).trans (eX _ e)
 refine hq _ hp.objs.size ⟨λb o e=>⟨xs b (bW (kp b o e).1) (kp b o e).2 o (kp b o e).1,(kp b o e).2⟩,_,Heap.get?_update_self _ hx₁ (Obj.isFreed_of_fields (Obj.data_mapFields hda _)),?_,Obj.data_mapFields hda _,?_⟩
 ·exact aa (Obj.cls_mapFields ..) (hcl)
 ·have hdict:(Obj.mapFields (λvs=>vs.setIfInBounds 0 (.ref hp.objs.size)) o).dict=o.dict:=by
   obtain⟨c,dx,dt,sl⟩:=o;cases dt<;>rfl
  refine aa hdict ?_;refine hdi.imp id λ⟨d,m,a,b,c,e,f⟩=>⟨d,m,a,b,c,?_,f⟩;exact Jg e λod es ep e1 e2=>⟨od,es,ep,xs d (bW e1) b od e1,e2⟩
end
noncomputable def zX (o:Expr):Bool:=Expr.casesOn o (λ_ _ _=>false) (λ_ _ _=>false) (λ_ _ _ _=>false) (λ_ _ _=>false) (λ_ _ _ _=>false) (λ_ _ _ _=>false) (λ_ _ _=>false) (λ_ _ _=>false) (λ_ _ _ _=>false) (λ_ _ _ _=>false) (λ_ _ _ _ _=>false) (λ_ _ _ _=>false) (λ_ _=>false) (λ_ _=>false) (λ_ _=>false) (λ_ _ _ _=>false) (λ_ a _ _=>a.isEmpty) (λ_ _ _ _=>false) (λ_ _=>false) (λ_ _ _=>false) (λ_ _ _=>false) (λ_ _ _=>false) (λ_ _=>false) (λ_ _=>false) (λ_ _=>false) (λ_ _ _=>false) (λ_ _ _ _=>false)
theorem kA (f a:Expr) (as:List Expr) (ks:List Keyword) (p:Pos) (attr:Str) (env:Env) (whole:Sem Value):attributeBase (.Call f (a::as) ks p) attr env whole=whole:=
 (λg=>Expr.casesOn f (λ_ _ _=>g) (λ_ _ _=>g) (λ_ _ _ _=>g) (λ_ _ _=>g) (λ_ _ _ _=>g) (λ_ _ _ _=>g) (λ_ _ _=>g) (λ_ _ _=>g) (λ_ _ _ _=>g) (λ_ _ _ _=>g) (λ_ _ _ _ _=>g) (λ_ _ _ _=>g) (λ_ _=>g) (λ_ _=>g) (λ_ _=>g) (λ_ _ _ _=>g) (λ_ _ _ _=>g) (λ_ _ _ _=>g) (λ_ _=>g) (λ_ _ _=>g) (λ_ _ _=>g) (λ_ _ _=>g) (λ_ _=>g) (λ_ _=>g) (λ_ _=>g) (λ_ _ _=>g) (λ_ _ _ _=>g)) rfl
theorem fx (h:zX o=false) (attr:Str) (env:Env) (whole:Sem Value):attributeBase o attr env whole=whole:=
 (λg=>Expr.casesOn o (λ_ _ _ _=>g) (λ_ _ _ _=>g) (λ_ _ _ _ _=>g) (λ_ _ _ _=>g) (λ_ _ _ _ _=>g) (λ_ _ _ _ _=>g) (λ_ _ _ _=>g) (λ_ _ _ _=>g) (λ_ _ _ _ _=>g) (λ_ _ _ _ _=>g) (λ_ _ _ _ _ _=>g) (λ_ _ _ _ _=>g) (λ_ _ _=>g) (λ_ _ _=>g) (λ_ _ _=>g) (λ_ _ _ _ _=>g) (λf as ks p h=>List.casesOn (motive:=λas=>as.isEmpty=false->attributeBase (.Call f as ks p) attr env whole=whole) as (λh=>absurd h (by decide)) (λa as _=>kA f a as ks p attr env whole) h) (λ_ _ _ _ _=>g) (λ_ _ _=>g) (λ_ _ _ _=>g) (λ_ _ _ _=>g) (λ_ _ _ _=>g) (λ_ _ _=>g) (λ_ _ _=>g) (λ_ _ _=>g) (λ_ _ _ _=>g) (λ_ _ _ _ _=>g) h) rfl
theorem ye:∀{es:List Expr},(∀e∈es,bR e)->(backTo pos (starEach es env)).any (·.1)=false/\(backTo pos (starEach es env)).all (λx=>!x.1):=by
 intro l0
 induction l0 with
 |nil=>
  intro h;exact⟨rfl,rfl⟩
 |cons e es ih=>
  intro h;have ih:=ih λe he=>h e (bc _ he);refine aa (h e (aL ..) ..) ?_;constructor
  ·show(false||(backTo pos (starEach es env)).any (·.1))=false;refine aa ih.1 ?_;rfl
  ·show((!false)&&(backTo pos (starEach es env)).all (λx=>!x.1));refine aa ih.2 ?_;rfl
theorem uC (ho:zX o=false) (hs:∀e∈es,bR e) (hl:es.length<30) (hp:(apos.endLine==pos.line)):j3 o name apos es pos:=λenv=>by
 refine⟨do return (<-importBound o env).getD true,?_⟩;have hf:methodCallForm (es.length+([]:List Keyword).length) (backTo pos (starEach es env)) (backToKw pos (keywordEach [] env)):=by
  unfold methodCallForm;refine aa ((ye hs).2 ..) ?_;show(true&&true&&decide (es.length+0+0<30));simpa using hl
 show(do
  let ov <-attributeBase o name env (eval o env)
  standAt apos.atName
  methodCall o name apos pos env ov (es.length+([]).length) (backTo pos (starEach es env)) (backToKw pos (keywordEach [] env)))=_
 refine aa (fx ho ..) ?_;unfold methodCall calleeOf methodCallPos;refine aa hf (aa hp ?_);rfl
end
section
structure iL where
 nm:Str
 q:Str
 N:Addr
 bs:List Value
 bm:List Value
 sn:List Str
 sub:List Value
 ab:Bool
 col:Option Bool
 dd:Option Addr
 k0:Option Value
 k1:Option Value
 k2:Option Value
 k3:Option Value
 k5:Option Value
 fI:Addr
 fd:FuncData
 a1:Pos
 a2:Pos
 a3:Pos
 a4:Pos
 a5:Pos
 a6:Pos
 b1:Pos
 b2:Pos
 b3:Pos
 b4:Pos
 c1:Pos
 c2:Pos
 c3:Pos
 c4:Pos
noncomputable def iL.obj (D:iL) (C:Addr):Obj:=excClassObj D.nm D.q C D.N D.bs D.bm true D.sn D.sub D.ab D.col D.dd D.k0 D.k1 D.k2 D.k3 D.k5 "Exception.__new__"
noncomputable def iL.body (D:iL):List Stmt:=[.Expr (.Call (.Attribute (.Name "Exception" D.a1) "__init__" D.a2) [.Name "self" D.a3,.Name "what" D.a4] [] D.a5) D.a6,
 .Assign [.Attribute (.Name "self" D.b1) "what" D.b2] (.Name "what" D.b3) D.b4,.Assign [.Attribute (.Name "self" D.c1) "at" D.c2] (.Name "at" D.c3) D.c4]
structure A9 (Z:Zt) (D:iL):Prop where
 cls:Z.K.lookup (Z.cls 3)=some (D.obj (Z.cls 3))
 tail:yf "Exception" [.type "Exception",.type "BaseException",.type "object"] D.bm
 isExc:D.bm.contains (.type "BaseException")
 isObj:D.bm.contains (.type "object")
 init:findIn Z.K (.ref (Z.cls 3)) "__init__"=some (some (.ref D.fI))
 fn:M6 Z D.fI D.fd D.body
 fcls:typeIn Z.K (.ref D.fI)=some (.type "function")
 sa:findIn Z.K (.ref (Z.cls 3)) "__setattr__"=some (some (.builtin "object.__setattr__"))
 pass:∀self,refuseLoop self "__setattr__" (.ref (Z.cls 3)::D.bm)=pure ()
 t1:takerIn Z.K (Z.cls 3) "what"=some none
 t2:takerIn Z.K (Z.cls 3) "at"=some none
 bind:∀s',Z.K.In s'.heap->∀a b,BindsTo s' D.fd ⟨[a,b],[]⟩ [("self",a),("what",b),("at",.none)]
 n1:D.fd.scope.names.lookup ("self":Str)=some .local
 n2:D.fd.scope.names.lookup ("what":Str)=some .local
 n3:D.fd.scope.names.lookup ("at":Str)=some .local
 cell:∀x∈D.fd.scope.names,x.2≠.cell
 exc:fc Z D.fd.scope "Exception" (.type "Exception")
 findE:findCls Z.K (.type "Exception") (.type "type") "__init__"=some (.val (.builtin "Exception.__init__"))
 kept:lI Z (.ref (Z.cls 3))
 line:(D.a2.endLine==D.a5.line)
noncomputable def DI (t:Addr):Array Value:=#[.ref t,.none,.none,.none,.bool false,.none]
section
variable{Z:Zt} {D:iL} {A:Around} {E:Value->Shared->Prop} {s:Shared} {R:Result->Shared->Prop}
set_option tactic.hygienic true in
theorem DH (KX:A9 Z D) {B:Heap} (hB:Z.K.In B) (T:TopRead Z.p Z.loose Z.mg Z.mb B) (hd:A.depth<recursionLimit) {e t0:Addr} {S:Addr->Obj->Prop} {wv:Value} (hS:∀b o,B.get? b=some o->S b o) (hBs:B.objs.size<=s.heap.objs.size)
  (I:Fa S s.heap e (Z.cls 3) (DI t0) []) (hq:∀h' tk t',Fa S h' e (Z.cls 3) (DI t') ["at","what"]->R (.ok (.ret .none)) {s with heap:=h',toks:=tk}):
  codeAny (model Z.prog Z.w) A (.call (.ref D.fI) ⟨[.ref e,wv],[]⟩) R s:=by
 have XK:∀h',(∀b o,S b o->h'.get? b=some o)->Z.K.In h':=λh' k=>hB.keeps λb o z=>k b o (hS b o z);have X0:=XK s.heap λb o z=>(I.keep b o z).1;refine aA KX.fn.obj λo ho hdat=>?_;refine codeAny_call_def (fd:=D.fd) (body:=D.body) (binds:=[("self",.ref e),("what",wv),("at",.none)]) hd (X0 _ _ ho) hdat (T.nolimit.keeps λb o z=>(I.keep b o (hS b o z)).1) (KX.fn.code _ X0) KX.fn.body (KX.bind s X0 _ _) KX.cell (λx hx=>?_) (λh₁ hns hk=>?_) KX.fn.co KX.fn.gen KX.fn.kind
 ·simp only[bk,List.not_mem_nil,or_false]at hx;rcases hx with rfl |rfl |rfl
  ·exact KX.n1
  ·exact KX.n2
  ·exact KX.n3
 refine aA (i5 hns) λoL hL nL=>?_;have he:∃o,s.heap.get? e=some o:=let⟨o,h,_,_,_⟩:=I.obj;⟨o,h⟩;have elt:e<s.heap.objs.size:=let⟨o,h⟩:=he;bW h;have I1:Fa (λb o=>S b o\/(b=s.heap.objs.size/\o=oL)) h₁ e (Z.cls 3) (DI t0) []:=by
  obtain⟨kp,o,h1,h2,h3,h4⟩:=I;refine⟨λb o z=>?_,o,hk _ _ h1,h2,h3,?_⟩
  ·rcases z with z |⟨rfl,rfl⟩
   ·exact⟨hk _ _ (kp b o z).1,(kp b o z).2⟩
   ·exact⟨hL,(Nat.ne_of_lt elt).symm⟩
  ·rcases h4 with h4 |⟨d,m,_,_,_,_,_⟩
   ·exact .inl h4
   ·rename_i z1 z2 z3 z4 z5
    refine .inr ⟨d,m,z1,z2,λob z=>?_,(let⟨od,es,ep,e1,e2⟩:=z4;⟨od,es,ep,hk _ _ e1,e2⟩),z5⟩;rcases z with z |⟨rfl,rfl⟩
    ·exact z3 ob z
    ·refine Jg z4 λod es ep e1 e2=>?_;exact fg _ (bW e1)
 have XK':∀h',(∀b o,(S b o\/(b=s.heap.objs.size/\o=oL))->h'.get? b=some o)->Z.K.In h':=λh' k=>XK h' λb o z=>k b o (.inl z);have rd:∀{M:Model} {A':Around} {E':Value->Shared->Prop} {Q:Value->Shared->Prop} {x:Str} {p:Pos} {v:Value} {s':Shared},s'.heap.get? s.heap.objs.size=some oL->D.fd.scope.names.lookup x=some .local->([(("self":Str),Value.ref e),("what",wv),("at",.none)]:List (Str×Value)).reverse.lookup x=some v->
   (x==("__debug__":Str))=false->Q v s'->wpAny M A' (eval (.Name x p) (callEnv D.fd s.heap.objs.size D.fI)) Q E' s':=λ{M A' E' Q x p v s'} g hl hv hd hq=>
  wpAny_Name (wpAny_loadName_local (by exact KX.fn.kind) (by exact hl) (show s'.heap.Ns (callEnv D.fd s.heap.objs.size D.fI).locals _ from lT g nL) hv hq) hd
 have fr:∀{h':Heap},(∀b o,(S b o\/(b=s.heap.objs.size/\o=oL))->h'.get? b=some o)->Fr B s.heap.objs.size h' (λx=>([(("self":Str),Value.ref e),("what",wv),("at",.none)]:List (Str×Value)).reverse.lookup x):=λ{h'} k=>
  ⟨lT (k _ _ (.inr ⟨rfl,rfl⟩)) nL,λb o z=>k b o (.inl (hS b o z)),hBs⟩
 have kp1:=λb o z=>(I1.keep b o z).1;refine wpAny_execs_cons ?_;rw[exec_Expr _ _ _ (by unfold interactive;rw[show(callEnv D.fd s.heap.objs.size D.fI).scope=D.fd.scope from rfl,KX.fn.kind];rfl) rfl];refine ae (wpAny_standAt (ae ?_));obtain⟨pl,hpl⟩:=uC (o:=.Name "Exception" D.a1) (name:="__init__") (apos:=D.a2) (pos:=D.a5) (es:=[.Name "self" D.a3,.Name "what" D.a4]) rfl (λe he=>by
  simp only[bk,List.not_mem_nil,or_false]at he;rcases he with rfl |rfl<;>exactλ_ _=>rfl) (show 2<30 by decide) KX.line (callEnv D.fd s.heap.objs.size D.fI)
 refine methodCall_KW ?_ hpl;refine Name_function_global (by exact KX.fn.kind) (by exact KX.exc.kind) (loadGlobal_builtin (env:=callEnv D.fd s.heap.objs.size D.fI) (by rw[show(callEnv D.fd s.heap.objs.size D.fI).globals=D.fd.globals from rfl,KX.fn.globals];exact T.g.keeps λb o z=>kp1 b o (.inl (hS b o z)))
  (mg_none_of hB T.g KX.exc.miss) (by rw[show(callEnv D.fd s.heap.objs.size D.fI).builtins=D.fd.builtins from rfl,KX.fn.builtins];exact T.b.keeps λb o z=>kp1 b o (.inl (hS b o z))) ((T.builtins _ KX.exc.name).trans KX.exc.boot) ?_) KX.exc.dbg
 refine method_type (h₀:=B) (fr kp1) hB (kitMeta_of (by decide+kernel)) (by decide+kernel) KX.findE (by decide+kernel) ?_;refine callWith_of (P:=Z.K.In) rfl (λh X=>yN _ _ h X) (evalArgs_plain ?_);refine spliced_more (rd (kp1 _ _ (.inr ⟨rfl,rfl⟩)) KX.n1 rfl (by decide) (spliced_more (rd (kp1 _ _ (.inr ⟨rfl,rfl⟩)) KX.n2 rfl (by decide) (spliced_none ⟨XK' _ kp1,?_⟩))));have clsI:∀h':Heap,(∀b o,(S b o\/(b=s.heap.objs.size/\o=oL))->h'.get? b=some o)->h'.get? (Z.cls 3)=some (D.obj (Z.cls 3)):=λh' k=>XK' h' k _ _ KX.cls;refine wpAny_call (Fp PySem.F.excBase_Exception KX.tail (clsI _ kp1) I1 rfl λh2 t2 I2=>?_);have I2:Fa (λb o=>S b o\/(b=s.heap.objs.size/\o=oL)) h2 e (Z.cls 3) (DI t2) []:=I2;have kp2:=λb o z=>(I2.keep b o z).1;refine PySem.wpAny_dropValue ?_;have clsIn3:clsIn Z.K (Z.cls 3)=some {name:=D.nm,bases:=D.bs,mro:=.ref (Z.cls 3)::D.bm,ns:=D.N,qualname:=D.q,hasDict:=true,slotNames:=D.sn,subclasses:=D.sub,abstract:=D.ab,collection:=D.col,hasDel:=false}:=by
  unfold clsIn;rw[KX.cls];rfl
 have hob:(Value.ref (Z.cls 3)::D.bm).contains (.type "object"):=by rw[List.contains_cons,KX.isObj,Bool.or_true]
 refine wpAny_execs_cons (plainObj_wpAny_Assign_Attribute (rd (kp2 _ _ (.inr ⟨rfl,rfl⟩)) KX.n2 rfl (by decide) (rd (kp2 _ _ (.inr ⟨rfl,rfl⟩)) KX.n1 rfl (by decide) ?_)) rfl);refine Bj XK' I2 (Nat.zero_le _) KX.sa clsIn3 rfl rfl hob KX.pass KX.t1 λh3 tk3 I3=>?_;have kp3:=λb o z=>(I3.keep b o z).1;refine wpAny_execs_cons (plainObj_wpAny_Assign_Attribute (rd (kp3 _ _ (.inr ⟨rfl,rfl⟩)) KX.n3 rfl (by decide) (rd (kp3 _ _ (.inr ⟨rfl,rfl⟩)) KX.n1 rfl (by decide) ?_)) rfl);refine Bj XK' I3 (by decide) KX.sa clsIn3 rfl rfl hob KX.pass KX.t2 λh4 tk4 I4=>?_;refine wpAny_execs_nil (hq _ _ t2 ?_);obtain⟨kp,o,h1,h2,h3,h4⟩:=I4;refine⟨λb o z=>kp b o (.inl z),o,h1,h2,h3,h4.imp id ?_⟩;rintro⟨d,m,z1,z2,z3,z4,z5⟩;exact⟨d,m,z1,z2,λob z=>z3 ob (.inl z),z4,z5⟩
end
end
section
section
variable{M:Model} {A:Around} {E:Value->Shared->Prop} {env:Env}
theorem wJ {s:Shared} {D:iL} {C:Addr} {x:Sem Value} {Q:Flow->Shared->Prop} (hbase:D.bm.contains (.type "BaseException")) (hh:A.handled=none)
  (h:wpAny M A x (λv s₁=>E4 λe t odi osl=>A4 (v=.ref e) (s₁.heap.get? C=some (D.obj C)) (s₁.heap.get? e=some {cls:=.ref C,dict:=odi,data:=.fields #[.ref t,.none,.none,.none,.bool false,.none],slots:=osl}) (E (.ref e) s₁)) E s):
  wpAny M A (raiseStmt env (some x) none) Q E s:=by
 have hcB:(Value.ref C::D.bm).contains (.type "BaseException"):=by refine aa List.contains_cons ?_;refine aa hbase ?_;rw[Bool.or_true]
 refine ae (aq h (λv s₁ h₁=>?_) λ_ _ x=>x);obtain⟨e,t,odi,osl,rfl,hC,he,hE⟩:=h₁;unfold iL.obj at hC
 repeat (first |with_reducible refine wpAny_loadPart_at he ?_ |with_reducible refine wpAny_loadPart_at hC ?_ |(with_reducible refine wpAny_isSubtype_exc hC ?_;refine aa hcB ?_) |wp_step)
 exact wpAny_raiseNew_none hh hE
end
section
variable{Z:Zt} {X:Fx} {n:Nat} {sc:Scope} {sl:List Str} {D:iL}
theorem ap.funFrames (F:FxOk Z X n sc) {G vs st m s tr} (I:ap Z X sl G vs st m s tr):s.heap.FunFrames X.xb (X.fenv::X.outE):=by
 have one:∀e∈X.fenv::X.outE,e.scope.kind≠.module/\∃L,∃o,e.frame=some L/\X.xb.get? L=none/\s.heap.get? L=some o/\∀vs,o.data≠.fields vs:=λe he=>by
  refine⟨?_,?_⟩
  ·rcases bk.mp he with rfl |he
   ·exact F.fkind
   ·exact F.outK e he
  ·obtain⟨a,h1,h2⟩:=F.frs e he;rcases h2 with rfl |h2
   ·obtain⟨o,g1,es,ep,g2,_⟩:=i5 I.fr.ns;exact⟨_,o,h1,I.xok.loc,g1,λvs e=>by rw[g2]at e;cases e⟩
   ·obtain⟨p,hp,rfl⟩:=List.mem_map.mp h2;obtain⟨o,g1,es,ep,g2,_⟩:=I.out p hp;exact⟨_,o,h1,I.xok.out p hp,(I.nw _ g1).1,λvs e=>by rw[g2]at e;cases e⟩
 generalize X.fenv::X.outE=l at one
 induction l with
 |nil=>exact trivial
 |cons e l ih=>exact⟨(one e (aL ..)).1,(one e (aL ..)).2,ih λe' h=>one e' (bc _ h)⟩
theorem zJ (KX:A9 Z D) (hg:nsIn Z.K mainGlobals "DecodeError"=some (some (.ref (Z.cls 3)))) (hx:sc.names.lookup ("DecodeError":Str)=some .globalImplicit):
  ca Z n sc sl cP (.Raise (some (.Call (.Name "DecodeError" np) [.Constant (.str x) kk p1] [] cpos)) none pos):=λX F G vs st m s k kE I y=>by
 have I0:=I;obtain⟨tr,I⟩:=I;refine ae (wpAny_standAt ?_);refine wJ (C:=Z.cls 3) KX.isExc F.handled (ae (aq (Q:=λv s₁=>E4 λe t odi osl=>A4 (v=.ref e) (s₁.heap.get? (Z.cls 3)=some (D.obj (Z.cls 3))) (s₁.heap.get? e=some {cls:=.ref (Z.cls 3),dict:=odi,data:=.fields #[.ref t,.none,.none,.none,.bool false,.none],slots:=osl}) (i0 Z X G.ν kE (.ref e) s₁)) ?_ (λv s₃ h₃=>ae (wpAny_standAt (aR h₃))) λ_ _ x=>x));refine jD (Cn F.toFxOk hg hx (by decide) I ?_);refine callWith_of (P:=Z.K.In) rfl (λh X=>KX.kept _ h X) (evalArgs_plain (spliced_more (e:=.Constant (.str x) kk p1) ?_));refine wpAny_mkText (spliced_none ⟨F.inK.keeps I.fr.keep,?_⟩);obtain⟨hp,g,d,tk,os⟩:=s;have X0:=F.inK.keeps I.fr.keep;refine aA (Option.map_eq_some_iff.mp (show(Z.K.lookup D.fI).map (·.cls)=some (.type "function")from KX.fcls)) λofI hofI hcf=>?_;refine Fs PySem.F.excBase_Exception KX.tail (X0 _ _ KX.cls) (λh' k=>looks_findIn (X0.keeps k) KX.init) (X0 _ _ hofI) hcf (λh' e hm=>?_) (by size_fits);obtain⟨mk,me,t0,mt,mt1,mt2⟩:=hm;have hsz:X.base.objs.size<=h'.objs.size:=by
  have h2:X.L<h'.objs.size:=by
   refine aA (i5 I.fr.ns) λo z _=>?_;exact bW (mk _ _ z)
  exact Nat.le_of_lt (Nat.lt_of_le_of_lt I.fr.above h2)
 refine wpAny_call (codeAny_mono (DH (R:=λr s'=>r=.ok (.ret .none)/\E3 λh4 tk4 t4=>s'=⟨h4,g,d,tk4,os⟩/\Fa (λb o=>hp.get? b=some o) h4 e (Z.cls 3) (DI t4) ["at","what"]) KX F.inK F.top (by have:=F.depth;show X.A.depth+1<_;unfold recursionLimit;omega) (S:=λb o=>hp.get? b=some o) (λb o z=>I.fr.keep b o z) hsz
  ⟨λb o z=>⟨mk b o z,λw=>by rw[w,me]at z;exact bd z⟩,_,mt,rfl,rfl,.inl ⟨rfl,rfl⟩⟩ λh4 tk4 t4 I4=>⟨rfl,h4,tk4,t4,rfl,I4⟩) λr s' z=>?_)
 obtain⟨rfl,h4,tk4,t4,rfl,I4⟩:=z;refine⟨rfl,?_⟩;obtain⟨kp,o,g1,g2,g3,g4⟩:=I4;obtain⟨oc,odi,oda,osl⟩:=o;dsimp only at g2 g3;subst g2 g3;have up:∀b o,hp.get? b=some o->h4.get? b=some o:=λb o z=>(kp b o z).1;have bsh:(⟨hp,g,d,tk,os⟩:Shared)={Z.s₀ with heap:=hp,toks:=tk}:=I.sh;refine⟨e,t4,odi,osl,rfl,(X0.keeps up) _ _ KX.cls,g1,⟨?_,λp hp=>?_,λp hp=>?_,λb o z=>up b o (I.get (I.xok.has b o z)),(I.funFrames F.toFxOk).of_keeps λb o z _=>⟨o,up b o z,rfl⟩,e,.ref t4,rfl,?_,.inl ⟨_,_,g1,rfl,rfl,rfl,rfl⟩⟩,G.ν,st,dN _,I.num,y⟩
 ·have:=congrArg (λs:Shared=>(s.gens,s.drawn,s.os)) bsh;simp only[Prod.mk.injEq]at this;obtain⟨e1,e2,e3⟩:=this;subst e1 e2 e3;rfl
 ·refine aA (I.out p hp) λo h1 h2=>?_;exact lT (up _ _ (I.nw _ h1).1) h2
 ·refine aA (I.hel p hp) λo h1 h2=>?_;exact⟨o,up _ _ (I.nw _ h1).1,h2⟩
 ·cases q:X.xb.get? e with
  |none=>rfl
  |some o=>have:=I.get (I.xok.has _ _ q);rw[show hp.get? e=none from me]at this;exact bd this
end
end
section
section
variable{Z:Zt} {X:Fx} {n:Nat} {sc:Scope} {sl:List Str}
open Classical in
noncomputable def bv (X:Fx) (tr:List (Addr×Obj)) (h:Heap):Heap:=hideAll h ((List.range h.objs.size).filter λa=>decide (¬((∃o,cO X tr a o)/\a≠X.L/\∀p∈X.outs,p.1≠a)))
theorem jw (e:h.get? a=some o) (h1:∃o,cO X tr a o) (h2:a≠X.L) (h3:∀p∈X.outs,p.1≠a):(bv X tr h).get? a=some o:=by
 refine hideAll_get _ e λhm=>?_;have:=(List.mem_filter.mp hm).2;simp only[decide_eq_true_eq]at this;exact this ⟨h1,h2,h3⟩
open Classical in
theorem ej {tr:List (Addr×Obj)} {h:Heap} {a:Addr} {o:Obj} (e:(bv X tr h).get? a=some o):h.get? a=some o/\(∃o,cO X tr a o)/\a≠X.L/\∀p∈X.outs,p.1≠a:=by
 have e1:=of_hideAll _ e;refine⟨e1,?_⟩;refine Classical.byContradiction λz=>?_;have:a∈(List.range h.objs.size).filter λa=>decide (¬((∃o,cO X tr a o)/\a≠X.L/\∀p∈X.outs,p.1≠a)):=by
  refine List.mem_filter.mpr ⟨List.mem_range.mpr (bW e1),?_⟩;simp only[decide_eq_true_eq];exact z
 have:=hideAll_none (h:=h) _ this;unfold bv at e;rw[this]at e;exact bd e
noncomputable def eE (X:Fx) (B:Heap) (f:Tr) (H:Addr->Option Obj):Fx:={X with xb:=B,fl0:=f,h0:=H}
theorem ap.eqo {G vs st m s tr} (I:ap Z X sl G vs st m s tr) (h:cO X tr a o) (h':cO X tr a o'):o=o':=ch ((I.get h).symm.trans (I.get h'))
theorem ap.frz {G vs st m s tr} (I:ap Z X sl G vs st m s tr):ap Z (eE X (bv X tr s.heap) st.t G.H) sl G vs {st with fl:=st.t} m s tr:=by
 refine⟨I.sh,I.fr,I.nw,I.nd,I.loc,I.len,I.out,I.sto,λp o h1 h2=>?_,I.imm,I.own,I.rng,I.hel,I.cnt,⟨I.num.dom,I.num.memo⟩,⟨λb o e=>?_,?_,λp hp=>?_,λp o h1 h2=>?_,I.xok.g,I.xok.x,rfl,λa o e=>.inl e,I.xok.v⟩⟩
 ·have h1:st.t.get p=some o:=h1;rw[h1]at h2;exact wT h2
 ·refine iP (ej e) λh1 zz0 _=>?_;refine kX zz0 λo' h2=>?_;have:o=o':=ch (h1.symm.trans (I.get h2));exact aa this (h2)
 ·cases q:(bv X tr s.heap).get? X.L with
  |none=>exact q
  |some o=>exact absurd rfl (ej q).2.2.1
 ·cases q:(bv X tr s.heap).get? p.1 with
  |none=>exact q
  |some o=>exact absurd rfl ((ej q).2.2.2 p hp)
 ·have h1:st.t.get p=some o:=h1;rw[h1]at h2;exact wT h2
theorem ap.unf {G G1 vs rP st st1 m m1 s s1 tr tr1} (I:ap Z X sl G vs st m s tr) (L:G.Le G1) (J:ap Z (eE X (bv X tr s.heap) st.t G.H) sl G1 rP st1 m1 s1 tr1):ap Z X sl G1 rP {st1 with g:=st.g,x:=st.x,fl:=st.fl} m1 s1 tr1:=by
 have jf:st1.fl=st.t:=J.xok.f;have xin:∀b o,X.xb.get? b=some o->(bv X tr s.heap).get? b=some o:=λb o e=>by
  refine jw (I.get (I.xok.has b o e)) ⟨_,I.xok.has b o e⟩ (λz=>?_) λp hp z=>?_
  ·rw[z,I.xok.loc]at e;exact bd e
  ·rw[<-z,I.xok.out p hp]at e;exact bd e
 have gx:st1.g=st.g:=J.xok.g.trans I.xok.g.symm;refine⟨J.sh,J.fr,J.nw,J.nd,J.loc,J.len,J.out,λi o h=>J.sto i o ?_,λp o h1 h2=>?_,J.imm,J.own,J.rng,J.hel,J.cnt,⟨J.num.dom,J.num.memo⟩,⟨λb o e=>J.xok.has b o (xin b o e),I.xok.loc,I.xok.out,λp o h1 h2 a d r=>?_,I.xok.g,I.xok.x,I.xok.f,λa o e=>?_,J.xok.v⟩⟩
 ·cases i with
  |d p=>exact h
  |g p=>show st1.g.get p=some o;rw[gx];exact h
 ·have h1:st1.t.get p=some o:=h1;cases q:st.t.get p with
  |none=>exact J.wri p o h1 (by rw[jf];exact q)
  |some o0=>
   refine ak (I.wri p o0 q h2) λa d r ha hd=>?_;have r1:=L.ρ _ _ r;refine kN (J.rng _ _ _ r1) λzz2 zz1=>?_;obtain⟨y,hy⟩:=zz1;obtain⟨x,hx⟩:=zz2;have mem:∀{c z},c∈tr.map (·.1)->cO (eE X (bv X tr s.heap) st.t G.H) tr1 c z->c∈tr1.map (·.1):=λ{c z} hc h=>by
    rcases h with h |h
    ·exact List.mem_map_of_mem (f:=(·.1)) h
    ·refine aA (List.mem_map.mp hc) λp hp e=>?_;have:=(I.nw p hp).2.2;rw[show p.1=c from e]at this;rw[show X.base.get? c=some z from h]at this;exact wT this
   exact⟨a,d,r1,mem ha hx,mem hd hy⟩
 ·have h1:st1.t.get p=some o:=h1;have no:∀c,(bv X tr s.heap).get? c=none->X.xb.get? c=none:=λc e=>by
   cases z:X.xb.get? c with
   |none=>rfl
   |some o=>rw[xin _ _ z]at e;exact wT e
  cases q:st.t.get p with
  |none=>
   refine kN (J.xok.wri p o h1 (by rw[jf];exact q) a d r) λn1 n2=>?_;exact⟨no a n1,no d n2⟩
  |some o0=>
   refine ak (I.wri p o0 q h2) λa' d' r' ha hd=>?_;have:=L.ρ _ _ r';rw[r]at this;refine kN (fE this) λee3 ee4=>?_;subst ee3 ee4;exact I.xok.wri p o0 q h2 a d r'
 ·rcases J.xok.h a o e with h |h
  ·exact I.xok.h a o h
  ·refine .inr ?_;cases z:X.xb.get? a with
   |none=>rfl
   |some o=>rw[show(eE X (bv X tr s.heap) st.t G.H).xb.get? a=some o from xin _ _ z]at h;exact wT h
theorem ap.caughtM {G vs st st1 m s tr} (I:ap Z X sl G vs st m s tr) {vs2:Vs} {m2:jF} (hlen:vs2.length=sl.length) (hloc:∀(i:Nat) (x:Str) (v:V),sl[i]?=some x->vs2[i]?=some v->v≠.unset->∃w,vK X m2 (cO X tr) x w/\VR Z.T Z.rg G v w) {ν:List Int} (p:G.ν <+:ν) (D:dn ν st1) {s2:Shared} (sh:s2={Z.s₀ with heap:=s2.heap,toks:=s2.toks}) (hs:(bv X tr s.heap).StaysIn s2.heap) (hL:s2.heap.Ns X.L m2) (ho:∀p∈X.outs,s2.heap.Ns p.1 p.2):
  ∃tr2,tr2.map (·.1)=tr.map (·.1)/\ap Z X sl {G with ν:=ν} vs2 {st with d:=st1.d,mm:=st1.mm} m2 s2 tr2:=by
 have LG:G.Le {G with ν:=ν}:=cx p;refine fb (id I.own) λow o1 o2 o3 o4=>?_;have nofr:∀{a:Addr},ow a≠.fr->∀p∈X.outs,p.1≠a:=λh p hp z=>h (by rw[<-z];exact o3 p hp);have bL:X.base.get? X.L=none:=by
  cases q:X.base.get? X.L with
  |none=>rfl
  |some o=>exact absurd (jG (bW q) I.fr.above) (fg _)
 have notL:∀{a o},cO X tr a o->a≠X.L:=λh z=>by
  subst z;rcases h with h |h
  ·exact(I.nw _ h).2.1 rfl
  ·rw[bL]at h;exact bd h
 have inB:∀{a o},cO X tr a o->(∀p∈X.outs,p.1≠a)->(bv X tr s.heap).get? a=some o:=λ{a o} h h2=>jw (I.get h) ⟨o,h⟩ (notL h) h2;have at2:∀{a o},cO X tr a o->(∀p∈X.outs,p.1≠a)->s2.heap.get? a=some o:=λ{a o} h h2=>hs _ _ (inB h h2)
 let tr2:List (Addr×Obj):=tr.map λp=>(p.1,(s2.heap.get? p.1).getD p.2)
 have fst2:tr2.map (·.1)=tr.map (·.1):=by
  show(tr.map _).map _=_;rw[List.map_map];rfl
 have carry:∀{a o},cO X tr a o->(∀p∈X.outs,p.1≠a)->cO X tr2 a o:=λ{a o} h h2=>by
  rcases h with h' |h'
  ·refine .inl (List.mem_map.mpr ⟨(a,o),h',?_⟩);show(a,(s2.heap.get? a).getD o)=(a,o);rw[at2 (.inl h') h2];rfl
  ·exact .inr h'
 have outm:∀p∈X.outs,∃o,A3 ((p.1,o)∈tr2) (s2.heap.get? p.1=some o) (QM o p.2):=λp hp=>by
  refine aA (I.out p hp) λo h1 _=>?_;refine aA (i5 (ho p hp)) λo2 h2 h3=>?_;exact⟨o2,List.mem_map.mpr ⟨(p.1,o),h1,by show(p.1,(s2.heap.get? p.1).getD o)=_;rw[h2];rfl⟩,h2,h3⟩
 have helno:∀q∈X.held,∀p∈X.outs,p.1≠q.1:=λq hq p hp z=>by
  refine aA (I.out p hp) λo h1 zz5=>?_;obtain⟨es,ep,h2,_⟩:=zz5;refine aA (I.hel q hq) λo' h3 h4=>?_;have:=I.eqo (.inl h1) (.inl (z▸h3));subst this;rw[h2]at h4;cases h4
 refine⟨tr2,fst2,sh,⟨hL,λb o e=>?_,I.fr.above⟩,λq hq=>?_,by rw[fst2];exact I.nd,λi x v a b c=>?_,hlen,λp hp=>let⟨o,h1,_,h2⟩:=outm p hp;⟨o,h1,h2⟩,λi o h=>?_,λp o h1 h2=>?_,λa o h=>carry (I.imm a o h) (nofr (by rw[o2 a o h];exactλz=>by cases z)),⟨ow,o1,o2,o3,o4⟩,λi a d h=>?_,λq hq=>?_,I.cnt,⟨D.dom,D.memo⟩,⟨λb o e=>carry (I.xok.has b o e) λp hp z=>?_,I.xok.loc,I.xok.out,I.xok.wri,I.xok.g,I.xok.x,I.xok.f,I.xok.h,I.xok.v.trans p⟩⟩
 ·refine at2 (.inr e) λp hp z=>?_;refine aA (I.out p hp) λo' h1 _=>?_;have:=(I.nw _ h1).2.2;rw[show(p.1,o').1=b from z,e]at this;exact wT this
 ·refine aA (List.mem_map.mp hq) λp0 hp0 ee6=>?_;subst ee6;refine⟨?_,(I.nw p0 hp0).2⟩;show s2.heap.get? p0.1=some ((s2.heap.get? p0.1).getD p0.2)
  by_cases z:∀p∈X.outs,p.1≠p0.1
  ·rw[at2 (.inl hp0) z];rfl
  ·have:∃p∈X.outs,p.1=p0.1:=Classical.byContradiction λw=>z λp hp e=>w ⟨p,hp,e⟩;refine aA this λp hp e=>?_;refine l3 (outm p hp) λo _ h2 _=>?_;rw[<-e,h2];rfl
 ·refine aA (hloc i x v a b c) λw y z=>?_;exact⟨w,y,z.mono LG⟩
 ·have h:dj i st=some o:=h;refine aJ (I.sto i o h) λa d r y=>?_;have w:=o1 i a d r;exact⟨a,d,r,OR.mono (λ_ _ x=>x) LG (OR.at (λ_ x=>carry x (nofr (by rw[w.1];exactλz=>by cases z))) (λ_ x=>carry x (nofr (by rw[w.2];exactλz=>by cases z))) y)⟩
 ·refine ak (I.wri p o h1 h2) λa d r u v=>?_;exact⟨a,d,r,by rw[fst2];exact u,by rw[fst2];exact v⟩
 ·refine kN (I.rng i a d h) λzz8 zz7=>?_;obtain⟨x',y'⟩:=zz7;obtain⟨x,y⟩:=zz8;have w:=o1 i a d h;exact⟨⟨x,carry y (nofr (by rw[w.1];exactλz=>by cases z))⟩,⟨x',carry y' (nofr (by rw[w.2];exactλz=>by cases z))⟩⟩
 ·refine aA (I.hel q hq) λo h1 h2=>?_;refine⟨o,?_,h2⟩;exact List.mem_map.mpr ⟨(q.1,o),h1,by show(q.1,(s2.heap.get? q.1).getD o)=_;rw[at2 (.inl h1) (helno q hq)];rfl⟩
 ·have:=I.xok.out p hp;rw[z,e]at this;exact wT this
theorem ap.caughtA {G vs st st1 m s tr} (I:ap Z X sl G vs st m s tr) (p:G.ν <+:ν) (D:dn ν st1) (sh:s2={Z.s₀ with heap:=s2.heap,toks:=s2.toks}) (hs:(bv X tr s.heap).StaysIn s2.heap) (hL:s2.heap.Ns X.L m) (ho:∀p∈X.outs,s2.heap.Ns p.1 p.2):
  ∃tr2,tr2.map (·.1)=tr.map (·.1)/\ap Z X sl {G with ν:=ν} vs {st with d:=st1.d,mm:=st1.mm} m s2 tr2:=I.caughtM I.len I.loc p D sh hs hL ho
theorem ap.caught {G vs st st1 m s tr} (I:ap Z X sl G vs st m s tr) (p:G.ν <+:ν) (D:dn ν st1) (sh:s2={Z.s₀ with heap:=s2.heap,toks:=s2.toks}) (hs:(bv X tr s.heap).StaysIn s2.heap) (hL:s2.heap.Ns X.L m) (ho:∀p∈X.outs,s2.heap.Ns p.1 p.2):
  bg Z X sl {G with ν:=ν} vs {st with d:=st1.d,mm:=st1.mm} m s2:=aA (I.caughtA p D sh hs hL ho) λtr2 _ I2=>⟨tr2,I2⟩
end
end
section
section
variable{Z:Zt} {X:Fx} {n:Nat} {sc:Scope} {sl:List Str} {D:iL}
theorem Da (KX:A9 Z D) (F:E9 Z X n sc) (hg:nsIn Z.K mainGlobals "DecodeError"=some (some (.ref (Z.cls 3)))) (hx:sc.names.lookup ("DecodeError":Str)=some .globalImplicit) {B:Heap} {f0:Tr} {s1:Shared} {m:jF} {b₀:Stmt} {fl:Flow} {Q:Flow->Shared->Prop} 
  (hB:∀b o,X.base.get? b=some o->B.get? b=some o) (ab:X.base.objs.size<=X.L) (h:Ip Z (eE X B f0 H0) x s1) (hL:s1.heap.Ns X.L m) (hb:∀(A':Around) s E',Q fl s->wpAny (model Z.prog Z.w) A' (execs [b₀] X.env) Q E' s)
  (k:∀s2:Shared,s2={Z.s₀ with heap:=s2.heap,toks:=s2.toks}->B.StaysIn s2.heap->s2.heap.Ns X.L m->(∀p∈X.outs,s2.heap.Ns p.1 p.2)->Q fl s2):
  wpAny (model Z.prog Z.w) X.A (noteFrame x X.env) (λ_ s₂=>wpAny (model Z.prog Z.w) X.A (setFlight x none) (λ_ s₃=>wpAny (model Z.prog Z.w) X.A (handleBy x X.env [.ExceptHandler (some (.Name "DecodeError" np)) none [b₀] hpos]) Q E s₃) E s₂) E s1:=by
 refine yF (X:=eE X B f0 H0) F.same F.frames F.frame h λs2 h2 u2=>?_;have hL2:=u2.ns hL;refine gQ h2 λsh ho hc hs hff zz0=>?_;obtain⟨e,a0,rfl,he,ht⟩:=zz0;refine wpAny_landsW (base:=B) (l:=X.fenv::X.outE) ⟨hs,he,hff,ht⟩ λh3 hl3 u3=>?_;have hL3:h3.Ns X.L m:=u3.ns hL2;have ho3:∀p∈X.outs,h3.Ns p.1 p.2:=λp hp=>u3.ns (ho p hp);have keep3:∀b o,X.base.get? b=some o->h3.get? b=some o:=λb o z=>hl3.1 b o (hB b o z);have fr3:Fr X.base X.L h3 m:=⟨hL3,keep3,ab⟩;refine wpAny_handleBy_cons (codeAny_handlers_test ?_) (by intro q;cases q);refine nameG_K (h₀:=X.base) (s:={s2 with heap:=h3}) fr3 F.inK F.top hg ?_ F.globals (by rw[F.scope];exact F.kind) (by show X.env.scope.names.lookup _=_;rw[F.scope];exact hx) (by decide);refine aA hl3.there λoe hoe hcls=>?_;have hC:=(F.inK.keeps keep3) _ _ KX.cls;obtain⟨hp2,g,d,tk,os⟩:=s2;refine wpAny_excMatches_sub_self (nm:=D.nm) (q:=D.q) (N:=D.N) (bs:=D.bs) (bm:=D.bm) (hdct:=true) (sn:=D.sn) (sub:=D.sub) (ab:=D.ab) (col:=D.col) (dd:=D.dd) (k0:=D.k0) (k1:=D.k1) (k2:=D.k2) (k3:=D.k3) (k5:=D.k5) (newId:="Exception.__new__") hC hoe hcls KX.isExc ?_;refine codeAny_handlers_suite ?_;refine lands_againW hl3 λh4 hl4 u4=>hb _ _ _ ?_;refine k _ ?_ hl4.1 (u4.ns hL3) λp hp=>u4.ns (ho3 p hp);have:=congrArg (λs:Shared=>(s.gens,s.drawn,s.os)) sh;simp only[Prod.mk.injEq]at this;refine iP this λe1 e2 e3=>?_;subst e1 e2 e3;rfl
theorem pG {G vs st m s tr} (I:ap Z X sl G vs st m s tr):∀b o,X.base.get? b=some o->(bv X tr s.heap).get? b=some o:=λb o e=>by
 refine jw (I.fr.keep _ _ e) ⟨o,.inr e⟩ (λz=>?_) λp hp z=>?_
 ·subst z;exact absurd (jG (bW e) I.fr.above) (fg _)
 ·refine aA (I.out p hp) λo' h1 _=>?_;have:=(I.nw _ h1).2.2;rw[show(p.1,o').1=b from z,e]at this;exact wT this
theorem E9.try_ (F:E9 Z X n sc) (B:Heap) (f:Tr) (H:Addr->Option Obj):E9 Z (eE X B f H) n sc:=⟨⟨F.inK,F.top,F.frames,F.handled,F.depth,F.units,F.locals,F.frame,F.fkind,F.scope,F.kind,F.globals,F.builtins,F.outK,F.frs⟩,F.same⟩
theorem ap.untry {G vs st m s tr} (I:ap Z (eE X B f H) sl G vs st m s tr) (h:EJ Z X G st tr):ap Z X sl G vs st m s tr:=
 ⟨I.sh,I.fr,I.nw,I.nd,I.loc,I.len,I.out,I.sto,I.wri,I.imm,I.own,I.rng,I.hel,I.cnt,I.num,h⟩
theorem vd (h:Q (.ret v) s) (hc:∀Q':Value->Shared->Prop,Q' v s->wpAny M A (eval (.Constant c kk kp) env) Q' E s):wpAny M A (execs [.Return (some (.Constant c kk kp)) rp] env) Q E s:=by
 refine wpAny_execs_cons (wpAny_Return_some (hc _ ?_));exact h
theorem Br (KX:A9 Z D) (hg:nsIn Z.K mainGlobals "DecodeError"=some (some (.ref (Z.cls 3)))) (hx:sc.names.lookup ("DecodeError":Str)=some .globalImplicit) (h:av Z n sc sl a e) (hs:∀env,swapsWith e none ep.line env=pure false):
  ca Z n sc sl (Bs a (au (eK (.bool true)))) (.Try [.Expr e ep] [.ExceptHandler (some (.Name "DecodeError" np)) none [.Return (some (.Constant (.bool true) kk kp)) rp] hpos] [] [] pos):=λX F G vs st m s k kE I y=>by
 refine kX I λtr I=>?_;obtain⟨t,nn,d,mm,g,xx,fl⟩:=st;have y:a vs ⟨t,nn,d,mm,g,xx,t⟩ (λ_ st'=>AX.unf ⟨t,nn,d,mm,g,xx,fl⟩ st' λst=>k .next vs st) (λst'=>AX.back ⟨t,nn,d,mm,g,xx,fl⟩ st' λst=>k (.ret (.bool true)) vs st):=y;have I1:=I.frz;refine wpAny_Try_except (wpAny_execs_cons ?_);have hi:interactive X.env=false:=by unfold interactive;rw[F.scope,F.kind];rfl
 rw[exec_Expr X.env e ep hi (hs _)];refine ae (wpAny_standAt (ae (aq (h (eE X (bv X tr s.heap) t G.H) (F.try_ _ _ _).toFxOk G vs _ m s _ _ ⟨_,I1⟩ y) (λw1 s1 z=>?_) λx s1 z=>?_)))
 ·refine bX z λG1 v1 st1 L1 r1 y1 zz1=>?_;obtain⟨tr1,J1⟩:=zz1;refine PySem.wpAny_dropValue ?_;refine wpAny_execs_nil (wpAny_execs_nil ?_);have J:=(I.unf L1 J1);obtain⟨t1,n1,d1,m1,g1,x1,f1⟩:=st1;exact⟨.next,G1,vs,_,m,.next,L1,y1,tr1,J⟩
 ·refine kN z λzz2 hL=>?_;obtain⟨hf,ν',st1,p1,D1,y1⟩:=zz2;refine Da (fl:=.ret (.bool true)) KX F hg hx (pG I) I.fr.above hf hL (λA' s E' q=>vd q λQ' q'=>aR q') λs2 sh hst hL2 ho2=>?_;have J:=I.caught p1 D1 sh hst hL2 ho2;obtain⟨t1,n1,d1,m1,g1,x1,f1⟩:=st1;exact⟨.ret (.bool true),{G with ν:=ν'},vs,_,m,.ret (.bool true),cx p1,y1,J⟩
theorem Bp (KX:A9 Z D) (hg:nsIn Z.K mainGlobals "DecodeError"=some (some (.ref (Z.cls 3)))) (hx:sc.names.lookup ("DecodeError":Str)=some .globalImplicit) (h:dT Z n sc sl c e):
  ca Z n sc sl (Bq c (.bool false) nB) (.Try [.If e [.Return (some (.Constant (.bool false) kk kp)) rp] [] ip] [.ExceptHandler (some (.Name "DecodeError" np)) none [.Continue cp] hpos] [] [] pos):=λX F G vs st m s k kE I y=>by
 refine kX I λtr I=>?_;obtain⟨t,nn,d,mm,g,xx,fl⟩:=st;have y:c vs ⟨t,nn,d,mm,g,xx,t⟩ (λb st'=>AX.unf ⟨t,nn,d,mm,g,xx,fl⟩ st' λst=>ah b (k (.ret (.bool false)) vs st) (k .next vs st)) (λst'=>AX.back ⟨t,nn,d,mm,g,xx,fl⟩ st' λst=>k .cont vs st):=y;have I1:=I.frz;refine wpAny_Try_except (wpAny_execs_cons ?_);refine wpAny_If (aq (h (eE X (bv X tr s.heap) t G.H) (F.try_ _ _ _).toFxOk G vs _ m s _ _ ⟨_,I1⟩ y) (λb s1 z=>?_) λx s1 z=>?_)
 ·refine ak z λG1 st1 L1 y1 zz3=>?_;obtain⟨tr1,J1⟩:=zz3;have J:=(I.unf L1 J1);obtain⟨t1,n1,d1,m1,g1,x1,f1⟩:=st1;cases b with
  |true=>exact vd (v:=.bool false) (show iU Z X sl G k (.ret (.bool false)) s1 from⟨.ret (.bool false),G1,vs,_,m,.ret (.bool false),L1,y1,tr1,J⟩) λQ' q'=>aR q'
  |false=>exact wpAny_execs_nil (wpAny_execs_nil (wpAny_execs_nil (show iU Z X sl G k .next s1 from⟨.next,G1,vs,_,m,.next,L1,y1,tr1,J⟩)))
 ·refine kN z λzz4 hL=>?_;obtain⟨hf,ν',st1,p1,D1,y1⟩:=zz4;refine Da (fl:=.cont) KX F hg hx (pG I) I.fr.above hf hL (λA' s E' q=>wpAny_execs_cons (wpAny_Continue q)) λs2 sh hst hL2 ho2=>?_;have J:=I.caught p1 D1 sh hst hL2 ho2;obtain⟨t1,n1,d1,m1,g1,x1,f1⟩:=st1;exact⟨.cont,{G with ν:=ν'},vs,_,m,.cont,cx p1,y1,J⟩
end
end
section
section
variable{Z:Zt} {X:Fx} {n:Nat} {sc:Scope} {sl:List Str}
theorem rG {kindOf:Str->Option NameKind} {x:Str}:∀{l:List (Str×Value)} {m:Str->Option Value},x∉l.map (·.1)->bindL kindOf l m x=m x/\bindC kindOf l m x=m x
 |[],m,_=>⟨rfl,rfl⟩
 |(y,v)::r,m,h=>by
  rw[fy,bk,not_or]at h;have ih:=λm=>rG (kindOf:=kindOf) (m:=m) h.2;refine aa ((ih _).1 ..) (aa ((ih _).2 ..) ?_)
  by_cases hk:kindOf y=some .local
  ·rw[if_pos hk,if_pos hk,if_neg h.1];exact⟨rfl,rfl⟩
  ·rw[if_neg hk,if_neg hk,if_neg h.1];exact⟨rfl,rfl⟩
theorem ii {kindOf:Str->Option NameKind} {x:Str} {w:Value}:∀{l:List (Str×Value)} {m:Str->Option Value},(l.map (·.1)).Nodup->(x,w)∈l->(kindOf x=some .local->bindL kindOf l m x=some w)/\(kindOf x≠some .local->bindC kindOf l m x=some w)
 |(y,v)::r,m,nd,h=>by
  rw[fy,List.nodup_cons]at nd;rcases bk.mp h with e |e
  ·cases e;have ih:=λm=>rG (kindOf:=kindOf) (m:=m) nd.1;refine aa ((ih _).1 ..) (aa ((ih _).2 ..) ?_);exact⟨λhk=>by rw[if_pos hk,if_pos rfl],λhk=>by rw[if_neg hk,if_pos rfl]⟩
  ·exact⟨λhk=>(ii nd.2 e).1 hk,λhk=>(ii nd.2 e).2 hk⟩
theorem ap.hold {G vs st m s tr} (I:ap Z X sl G vs st m s tr) {c:Addr} (hm:(c,o)∈tr) (hd:o.data=.cell (some w)) (u:j0 G X c):ap Z {X with held:=(c,w)::X.held} sl G (List.replicate sl.length .unset) st m s tr:=by
 refine⟨I.sh,I.fr,I.nw,I.nd,λi x v _ h1 h2=>absurd (fX h1) h2,by simp,I.out,I.sto,I.wri,I.imm,?_,I.rng,λp hp=>?_,I.cnt,I.num,⟨I.xok.has,I.xok.loc,I.xok.out,I.xok.wri,I.xok.g,I.xok.x,I.xok.f,I.xok.h,I.xok.v⟩⟩
 ·refine fb I.own λow o1 o2 o3 o4=>?_
  classical
  refine⟨λa=>if a=c then .fr else ow a,λi a d h=>?_,λa o h=>?_,λp hp=>?_,λp hp=>?_⟩
  ·have:=u.1 i _ h;simp only[if_neg this.1,if_neg this.2];exact o1 i a d h
  ·have:a≠c:=λz=>by rw[z,u.2.1]at h;exact bd h
   simp only[if_neg this];exact o2 a o h
  ·by_cases z:p.1=c
   ·simp[z]
   ·simp only[if_neg z];exact o3 p hp
  ·rcases bk.mp hp with rfl |hp
   ·simp
   ·by_cases z:p.1=c
    ·simp[z]
    ·simp only[if_neg z];exact o4 p hp
 ·rcases bk.mp hp with rfl |hp
  ·exact⟨o,hm,hd⟩
  ·exact I.hel p hp
theorem td {fa:Addr} {fd:FuncData} {body:List Stmt} {f:Ex} {ps:List Str} {as:List V} {ws:List Value} {xc:Str} (KK:M6 Z fa fd body) (hb:jt Z n fd.scope ps f body)
  (hkind:∀x∈ps,fd.scope.names.lookup x=some .local\/(x=xc/\fd.scope.names.lookup x=some .cell)) (hone:∀N,cellsFrom N fd.scope.names []=[(xc,N)]) (hnd:ps.Nodup)
  (F:FxOk Z X (n+1) sc) {G vs st m s} {k:K} {kE:KE} (I:bg Z X sl G vs st m s) (hlen:ps.length=ws.length)
  (hbind:bindArgs fd ⟨ws,[]⟩=pure (ps.zip ws)) (ha:F2 (VR Z.T Z.rg G) as ws)
  (y:f as st (uc k) kE=true):codeAny (model Z.prog Z.w) X.A (.call (.ref fa) ⟨ws,[]⟩) (pY (bf Z X sl G vs m k) (c6 Z X G.ν m kE)) s:=by
 refine kX I λtr I=>?_;refine aA KK.obj λo ho hdat=>?_;have XK:Z.K.In s.heap:=F.inK.keeps I.fr.keep;have hd1:=F.depth;refine codeAny_call_cells (fd:=fd) (body:=body) (binds:=ps.zip ws) (by unfold recursionLimit;omega) (XK _ _ ho) hdat (F.top.nolimit.keeps I.fr.keep) (KK.code _ XK) KK.body hbind KK.clos (λx hx=>?_) (λs₁ IC=>?_) KK.co KK.gen KK.kind
 ·rcases hkind x.1 (List.of_mem_zip (show(x.1,x.2)∈_ from hx)).1 with h |⟨h1,h2⟩
  ·exact .inl h
  ·exact .inr ⟨h2,by rw[hone,h1];simp⟩
 have cells:(callEnvC fd s.heap.objs.size fa).cells=[(xc,s.heap.objs.size+1)]:=hone _;obtain⟨⟨h₁,tk,e1⟩,hns,hk,_⟩:=IC.toInCall;have hns:s₁.heap.Ns s.heap.objs.size _:=hns;have hcl:=IC.cell xc (s.heap.objs.size+1) (by rw[cells];simp);subst e1;refine kX (I.enter (env':=callEnvC fd s.heap.objs.size fa) (sl':=ps) (vs':=List.replicate ps.length .unset) (tk:=tk) hns hk (by simp) λi x v _ h1 h2=>absurd (fX h1) h2) λoL J0=>?_;have lf:=ha.length;have look:∀(i:Nat) (x:Str) (v:V),ps[i]?=some x->as[i]?=some v->∃w,(x,w)∈ps.zip ws/\VR Z.T Z.rg G v w:=λi x v h1 h2=>by
  refine aA (ha.get h2) λw g1 g2=>?_;exact⟨w,List.mem_of_getElem? (i:=i) (by rw[List.getElem?_zip_eq_some];exact⟨h1,g1⟩),g2⟩
 have zk:((ps.zip ws).map (·.1)).Nodup:=by rw[List.map_fst_zip (by omega)];exact hnd
 have fin:∀{held:List (Addr×Value)} {tr1},ap Z {hY X m s.heap.objs.size (callEnvC fd s.heap.objs.size fa)with held:=held} ps G (List.replicate ps.length .unset) st (bindL (callEnvC fd s.heap.objs.size fa).kindOf (ps.zip ws) λ_=>none) {s with heap:=h₁,toks:=tk} tr1->(∀w,(xc,w)∈ps.zip ws->fd.scope.names.lookup xc=some .cell->(s.heap.objs.size+1,w)∈held)->
   (∀p∈X.held,p∈held)->
   wpAny (model Z.prog Z.w) (X.A.deeper (callEnvC fd s.heap.objs.size fa)) (execs body (callEnvC fd s.heap.objs.size fa)) (λf s'=>pY (bf Z X sl G vs m k) (c6 Z X G.ν m kE) (.ok (.ret (match f with |.ret v=>v |_=>.none))) s')
    (λe s'=>wpAny (model Z.prog Z.w) (X.A.deeper (callEnvC fd s.heap.objs.size fa)) (leaving (callEnvC fd s.heap.objs.size fa) e) (λ_ s''=>pY (bf Z X sl G vs m k) (c6 Z X G.ν m kE) (.error e) s'') (λe' s''=>pY (bf Z X sl G vs m k) (c6 Z X G.ν m kE) (.error e') s'') s') {s with heap:=h₁,toks:=tk}:=λ{held tr1} J hc hsub=>by
  have F':E9 Z {hY X m s.heap.objs.size (callEnvC fd s.heap.objs.size fa)with held:=held} n fd.scope:=by
   refine⟨⟨F.inK,F.top,Around.frames_deeper F.frames,F.handled,?_,?_,rfl,rfl,?_,rfl,KK.kind,KK.globals,KK.builtins,?_,?_⟩,rfl⟩
   ·show X.A.depth+1+2*n+20<600;omega
   ·show X.A.units+3+40*n+200<cLine;have:=F.units;omega
   ·show fd.scope.kind≠.module;rw[KK.kind];decide
   ·intro e he;rcases bk.mp he with rfl |he
    ·exact F.fkind
    ·exact F.outK e he
   ·intro e he;rcases bk.mp he with rfl |he
    ·exact⟨_,rfl,.inl rfl⟩
    ·refine aA (F.frs e he) λa h1 h2=>?_;exact⟨a,h1,.inr (h2.elim (λh=>by rw[h];exact aL ..) λh=>bc _ h)⟩
  have J':=J.re (Y:={hY X m s.heap.objs.size (callEnvC fd s.heap.objs.size fa)with held:=held}) (sl':=ps) (vs':=as) rfl rfl rfl rfl rfl rfl rfl (by omega) λi x v h1 h2 _=>by
   refine aA (look i x v h1 h2) λw g1 g2=>?_;refine⟨w,?_,g2⟩;rcases hkind x (List.mem_of_getElem? h1)with hl |⟨rfl,hl⟩
   ·exact .inl ⟨hl,(ii (kindOf:=(callEnvC fd s.heap.objs.size fa).kindOf) zk g1).1 hl⟩
   ·exact .inr ⟨.inl hl,s.heap.objs.size+1,by show(callEnvC fd s.heap.objs.size fa).cells.lookup x=_;rw[cells];simp,hc w g1 hl⟩
  refine aq (hb _ F' G _ st _ _ (uc k) kE ⟨_,J'⟩ y) (λfl s' z=>?_) λx s' z=>?_
  ·refine jN z λfl' G1 rP st1 m1 R L1 y1 zz0=>?_;obtain⟨tr1,J1⟩:=zz0;have back:bg Z X sl G1 vs st1 m s':=by
    have J2:=ap.back (X:=X) I L1 (L':=s.heap.objs.size) (env':=callEnvC fd s.heap.objs.size fa) (sl':=ps) (vs':=List.replicate ps.length .unset) (m':=m1) (s':=s') (tr':=tr1) (st':=st1) ?_;exact J2;exact⟨J1.sh,J1.fr,J1.nw,J1.nd,λi x v _ h1 h2=>absurd (fX h1) h2,by simp,J1.out,J1.sto,J1.wri,J1.imm,let⟨ow,o1,o2,o3,o4⟩:=J1.own;⟨ow,o1,o2,o3,λp hp=>o4 p (hsub p hp)⟩,J1.rng,λp hp=>J1.hel p (hsub p hp),J1.cnt,J1.num,⟨J1.xok.has,J1.xok.loc,J1.xok.out,J1.xok.wri,J1.xok.g,J1.xok.x,J1.xok.f,J1.xok.h,J1.xok.v⟩⟩
   induction R using Fi.casesOn with
   |next=>exact⟨G1,.none,st1,L1,.none,y1,back⟩
   |cont=>exact ao y1
   |ret h=>exact⟨G1,_,st1,L1,h,y1,back⟩
  ·refine kN z λfly zz1=>?_;obtain⟨ν',st',r⟩:=zz1;have fly':Ip Z (hY X m s.heap.objs.size (callEnvC fd s.heap.objs.size fa)) x s':=by
    refine jI fly λa b c d=>?_;exact⟨a,b,λp hp=>c p (hsub p hp),d⟩
   exact uI (Z:=Z) F.frames rfl fly' λs'' f1 f2=>⟨⟨f1,ν',st',r⟩,f2⟩
 by_cases hxc:∃w,(xc,w)∈ps.zip ws/\fd.scope.names.lookup xc=some .cell
 ·refine aA hxc λwc hw hk2=>?_;have cm:bindC (callEnvC fd s.heap.objs.size fa).kindOf (ps.zip ws) (λ_=>none) xc=some wc:=(ii zk hw).2 (by show fd.scope.names.lookup xc≠_;rw[hk2];intro z;cases z);rw[cm]at hcl;refine aA hcl λoc hoc hdc=>?_;have big:∀{b o},s.heap.get? b=some o->b≠s.heap.objs.size+1:=λe z=>by have:=bW e;rw[z]at this;exact fg _ (Nat.lt_of_succ_lt this)
  have bno:X.base.get? (s.heap.objs.size+1)=none:=by
   cases q:X.base.get? (s.heap.objs.size+1)with
   |none=>rfl
   |some o=>exact absurd rfl (big (I.fr.keep _ _ q))
  obtain⟨J1,u1⟩:=J0.grow (tk:=tk) (D:=s.heap.objs.size+1) (o:=oc) J0.fr (λp hp=>by
   rcases bk.mp hp with rfl |hp
   ·exact⟨hoc,Nat.succ_ne_self _,bno⟩
   ·exact J0.nw p hp) λp hp=>by
    rcases bk.mp hp with rfl |hp
    ·refine aA (i5 I.fr.ns) λo h _=>?_;exact big h
    ·exact big (I.nw p hp).1
  exact fin (J1.hold (aL ..) hdc u1) (λw h1 _=>by
   have:w=wc:=by
    have a:=(ii (kindOf:=λ_=>none) (m:=λ_=>none) zk h1).2 (by simp);have b:=(ii (kindOf:=λ_=>none) (m:=λ_=>none) zk hw).2 (by simp);rw[a]at b;exact ch b
   subst this;exact aL ..) λp hp=>bc _ hp
 ·exact fin J0 (λw h1 h2=>absurd ⟨w,h1,h2⟩ hxc) λp hp=>hp
theorem iY.cell1 (KK:M6 Z fa fd body) (hb:jt Z n fd.scope ps b body)
  (hkind:∀x∈ps,fd.scope.names.lookup x=some .local\/(x=xc/\fd.scope.names.lookup x=some .cell)) (hone:∀N,cellsFrom N fd.scope.names []=[(xc,N)]) (hnd:ps.Nodup) (hna:ps.length=na)
  (hbind:∀ws:List Value,ws.length=na->bindArgs fd ⟨ws,[]⟩=pure (ps.zip ws)):iY Z n ⟨az,b⟩ fa na []:=λsc sl X F G vs st m s k kE as ws I ha hw y=>
 td KK hb hkind hone hnd F I (by refine aa hw ?_;exact hna) (hbind ws hw) ha (by
  have y:b (cq as []) st (uc k) kE=true:=y;rw[aX,List.append_nil]at y;exact y)
end
end
section
section
variable{Z:Zt} {X:Fx} {n:Nat} {sc:Scope} {sl:List Str}
theorem wG {v:V} {k:AI->af} (e:yz v k d=true):d ()=true\/∃p,v=.ref p/\k p=true:=by
 cases v<;>first |exact .inl e |exact .inr ⟨_,rfl,e⟩
theorem Ad (e:wM v k d=true):d ()=true\/∃j,v=.oreg j/\k j=true:=by
 cases v<;>first |exact .inl e |exact .inr ⟨_,rfl,e⟩
theorem KU (e:TN f y d o=true):d ()=true\/E3 λc fs j=>A3 (o=.inst c fs) (gE fs f=some (.oreg j)) (y j=true):=by
 cases o with
 |inst c fs=>
  have e:ag (gE fs f) (d ()) (λv=>wM v y d)=true:=e;cases q:gE fs f with
  |none=>rw[q]at e;exact .inl e
  |some v=>
   rw[q]at e;refine(Ad e).elim (λe=>?_) λz=>aA z λj q1 e=>?_
   ·exact .inl e
   ·subst q1;exact .inr ⟨c,fs,j,rfl,q,e⟩
 |dead=>exact ao e
 |rng=>exact ao e
 |_=>exact .inl e
theorem Am {i:Nat} {G vs st m s tr} (F:FxOk Z X n sc) (I:ap Z X sl G vs st m s tr) (hi:sl[i]?=some x) (hv:vs[i]?=some v) (nu:v≠.unset) (hd:(x==("__debug__":Str))=false) (hn:(x==("__classdict__":Str))=false):
  ∃w,VR Z.T Z.rg G v w/\∀(t:Nat) pos E (Q:Value->Shared->Prop),Q w {s with toks:=t}->wpAny (model Z.prog Z.w) X.A (eval (.Name x pos) X.env) Q E {s with toks:=t}:=by
 refine aA (I.loc i x v hi hv nu) λw S h=>?_;have hk:X.env.scope.kind=.function:=aa F.scope (F.kind);refine⟨w,h,λt pos E Q q=>?_⟩;rcases S with⟨hl,hm⟩ |⟨hc,c,h1,h2⟩
 ·exact wpAny_Name (wpAny_loadName_local hk hl (by refine aa F.locals ?_;exact I.fr.ns) hm q) hd
 ·refine aA (I.hel _ h2) λo h2 h3=>?_;rcases hc with hc |hc
  ·exact wpAny_Name (wpAny_loadName_cell hk hc h1 ⟨o,I.get (.inl h2),h3⟩ q) hd
  ·exact wpAny_Name (wpAny_loadName_free hk hc h1 ⟨o,I.get (.inl h2),h3⟩ q hn) hd
def zI (e:Expr) (name:Str) (pos:Pos):Prop:=∀env,eval (.Attribute e name pos) env=(do
 let o <-eval e env
 standAt pos.atName
 let r <-holding [o] (getAttr o name true)
 letTemporaryGo e o r
 pure r)
theorem Mm (KA:pZ Z) {i f:Nat} {x fs:Str} {a:Ev} {k1 k2 p1 p2 p3 p4 p5 p6 p7 p8 p9} (hi:sl[i]?=some x) (hd:(x==("__debug__":Str))=false) (hn:(x==("__classdict__":Str))=false) (hf:f<44) (hfs:fs=b9 f)
  (he1:zI (.Name x p1) fs p2) (he2:zI (.Name x p6) fs p7) (he3:zI (.Attribute (.Name x p6) fs p7) "name" p8) (hm:behindInMarks .Is (.Constant .none k1 p3)=false)
  (h:av Z n sc sl a (.IfExp (.Compare (.Attribute (.Name x p1) fs p2) [.Is] [.Constant .none k1 p3] p4) (.Constant (.str (aj [])) k2 p5) (.Attribute (.Attribute (.Name x p6) fs p7) "name" p8) p9)):
  av Z n sc sl (QJ i f a) (.IfExp (.Compare (.Attribute (.Name x p1) fs p2) [.Is] [.Constant .none k1 p3] p4) (.Constant (.str (aj [])) k2 p5) (.Attribute (.Attribute (.Name x p6) fs p7) "name" p8) p9):=λX F G vs st m s k kE I y=>by
 have dflt:=h X F G vs st m s k kE I;have y:ag (lY vs i) (a vs st k kE) (TL f st (λj=>k (.sat j) st) λ_=>a vs st k kE)=true:=y;cases q:lY vs i with
 |none=>rw[q]at y;exact dflt y
 |some v=>
  rw[q]at y;rcases wG y with y2 |⟨p,rfl,y2⟩
  ·exact dflt y2
  cases ho:dj p st with
  |none=>rw[ho]at y2;exact dflt y2
  |some o=>
   rw[ho]at y2;rcases KU y2 with y3 |⟨c,fl,j,rfl,hv,yk⟩
   ·exact dflt y3
   clear dflt h y y2;have I0:=I;refine I.k λtr I=>?_;refine aA (Am F I hi (by refine bI (iE ..) ?_;exact q) (λz=>by cases z) hd hn) λw1 r1 N=>?_;refine aJ (by
    induction r1 using VR.kref with
    |ref a d h=>exact⟨a,d,rfl,h⟩:E2 λb d=>w1=.ref b/\G.ρ p=some (b,d)) λb d ee0 hr=>?_;subst ee0
   refine aA (uk KA F hf I ho hr hv) λw r2 R=>?_;subst hfs;have rd:∀t {pa pb} (he:zI (.Name x pa) (b9 f) pb) E Q,(∀t,Q w {s with toks:=t})->wpAny (model Z.prog Z.w) X.A (eval (.Attribute (.Name x pa) (b9 f) pb) X.env) Q E {s with toks:=t}:=λt pa pb he E Q g=>
    Attribute_any_ (N t pa E _ (R t true E Q g)) (he _)
   refine IfExp_ (wpAny_isTrue_Compare1 (rd s.toks he1 _ _ λt=>Constant_none (is_none_gen (wpAny_truthy_bool ?_))) hm)
   by_cases z:w=.none
   ·subst z;have ht:Z.T.txt j=[]:=by
     rcases r2.inv with⟨_,e,_⟩ |⟨_,_,_,_,_,_,e,_⟩
     ·exact e
     ·exact nomatch e
    refine aq (xG rfl (λ_ h=>by cases h) X F G vs st m _ (λv st'=>@decide (v=.str []/\st'=st) (Classical.propDecidable _)) kE (I0.toks t) (@dX _ (Classical.propDecidable _) ⟨rfl,rfl⟩)) (λw' s' z=>?_) λ_ _ z=>z;refine bX z λG1 v1 st1 L1 r3 y1 I1=>?_;refine kN (@cg _ (Classical.propDecidable _) y1) λee1 ee2=>?_;subst ee1 ee2
    induction r3 using VR.kstr with
    |str t' _=>
     refine⟨G1,.sat j,st1,L1,?_,yk,I1⟩;refine bI ht ?_;exact .sat j t' (by refine aa ht ?_;exactλ_ h=>by cases h)
   ·rw[show(w==Value.none)=false by simpa using z];refine kX (by
     induction r2 using VR.koreg with
     |oreg0=>exact absurd rfl z
     |oreg a=>exact⟨a,rfl⟩:∃b2,w=.ref b2) λb2 ee3=>?_;subst ee3
    exact Attribute_any_ (rd t he2 _ _ λt=>Ac KA F I r2 t λt' w' g=>bf.now (I0.toks _) g yk) (he3 _)
end
end
section
structure kD where
 fn:Fn
 np:Nat
 nsl:Nat
 dfl:List V
structure Tb where
 fns:List (Str×kD)
 cls:List (Str×Nat×kD)
 mts:List (Str×Nat×List (Nat×kD))
 cms:List (Str×Str×kD)
 con:List (Str×V)
noncomputable def qU (f:kD) (n:Nat):Bool:=Nat.ble n f.np&&Nat.ble (f.np-n) f.dfl.length
noncomputable def lS (f:kD) (n:Nat):List V:=f.dfl.drop (f.dfl.length-(f.np-n))++List.replicate (f.nsl-f.np) .unset
structure Co where
 ex:Scope->List Str->Expr->Ev
 cd:Scope->List Str->Expr->Cd
 cv:Scope->List Str->Expr->Cd
 st:Scope->List Str->Stmt->Ex
def gd (b:Bool) (x:Ev):Ev:=match b with |true=>x |false=>fP
def gs (b:Bool) (x:Ex):Ex:=match b with |true=>x |false=>eY
def gc (b:Bool) (x:Cd):Cd:=match b with |true=>x |false=>mY
noncomputable def f9:List Str->Str->Option Nat
 |[],_=>none
 |y::r,x=>if y==x then some 0 else(f9 r x).map Nat.succ
noncomputable def fu {α:Type}:List (Str×α)->Str->Option α
 |[],_=>none
 |(y,a)::r,x=>if y==x then some a else fu r x
noncomputable def zg:List (Str×Str×kD)->Str->Str->Option kD
 |[],_,_=>none
 |(y,z,a)::r,x,w=>if y==x&&z==w then some a else zg r x w
noncomputable def bZ (sc:Scope) (x:Str) (k:NameKind):Bool:=decide (sc.names.lookup x=some k)
noncomputable def nW (x:Str):Bool:=!(x==("__debug__":Str))&& !(x==("__classdict__":Str))
def l6 (sc:Scope) (x:Str):Bool:=bZ sc x .globalImplicit&& !(x==("__debug__":Str))
noncomputable def Ty (s:Str):Bool:=s.cps.toList.all λc=>Nat.blt c 128
noncomputable def M2 (k:Nat) (e:Expr):Bool:=!(Nat.beq e.ctorIdx k)
noncomputable def MU {β:Type} (d:β) (n:Str->Pos->β) (m:Expr->Str->Pos->β) (o:Const->Nat->Pos->β) (t:List Expr->Nat->Pos->β) (p:Expr->List CmpOp->List Expr->Pos->β) (l:Expr->List Expr->List Keyword->Pos->β) (e:Expr):β:=
 @Expr.casesOn (λ_=>β) e (λ_ _ _=>d) (λ_ _ _=>d) (λ_ _ _ _=>d) (λ_ _ _=>d) (λ_ _ _ _=>d) (λ_ _ _ _=>d) (λ_ _ _=>d) (λ_ _ _=>d) (λ_ _ _ _=>d) (λ_ _ _ _=>d) (λ_ _ _ _ _=>d) (λ_ _ _ _=>d) (λ_ _=>d) (λ_ _=>d) (λ_ _=>d) (λa b c f=>p a b c f) (λa b c f=>l a b c f) (λ_ _ _ _=>d) (λ_ _=>d) (λa b c=>o a b c) (λa b c=>m a b c) (λ_ _ _=>d) (λ_ _=>d) (λa b=>n a b) (λ_ _=>d) (λa b c=>t a b c) (λ_ _ _ _=>d)
noncomputable def Qb {β:Type} (d:β) (n:Expr->Pos->β) (m:Option Expr->Pos->β) (o:Expr->List Stmt->List Stmt->Pos->β) (t:Pos->β) (e:Stmt):β:=
 @Stmt.casesOn (λ_=>β) e (λ_ _ _ _ _ _ _ _ _ _=>d) (λ_ _ _ _ _ _ _ _ _ _=>d) (λ_ _ _ _ _ _ _ _ _ _ _=>d) (λa b=>m a b) (λ_ _=>d) (λ_ _ _=>d) (λ_ _ _ _ _ _ _=>d) (λ_ _ _ _=>d) (λ_ _ _ _ _=>d) (λ_ _ _ _ _=>d) (λ_ _ _ _ _=>d) (λ_ _ _ _=>d) (λa b c f=>o a b c f) (λ_ _ _=>d) (λ_ _ _=>d) (λ_ _ _=>d) (λ_ _ _=>d) (λ_ _ _ _ _=>d) (λ_ _ _ _ _=>d) (λ_ _ _=>d) (λ_ _=>d) (λ_ _ _ _=>d) (λ_ _=>d) (λ_ _=>d) (λa b=>n a b) (λ_=>d) (λ_=>d) (λa=>t a)
def Bb:Expr->Option (Str×Pos):=MU none (λx p=>some (x,p)) (λ_ _ _=>none) (λ_ _ _=>none) (λ_ _ _=>none) (λ_ _ _ _=>none) (λ_ _ _ _=>none)
def Ke:Expr->Option (Expr×Str×Pos):=MU none (λ_ _=>none) (λo a p=>some (o,a,p)) (λ_ _ _=>none) (λ_ _ _=>none) (λ_ _ _ _=>none) (λ_ _ _ _=>none)
def Np:Expr->Option (Const×Nat×Pos):=MU none (λ_ _=>none) (λ_ _ _=>none) (λo a p=>some (o,a,p)) (λ_ _ _=>none) (λ_ _ _ _=>none) (λ_ _ _ _=>none)
def Nm:Expr->Option (List Expr×Nat×Pos):=MU none (λ_ _=>none) (λ_ _ _=>none) (λ_ _ _=>none) (λo a p=>some (o,a,p)) (λ_ _ _ _=>none) (λ_ _ _ _=>none)
def Nq:Expr->Option (Expr×List CmpOp×List Expr×Pos):=MU none (λ_ _=>none) (λ_ _ _=>none) (λ_ _ _=>none) (λ_ _ _=>none) (λo a p q=>some (o,a,p,q)) (λ_ _ _ _=>none)
def Tw:Expr->Option (Expr×List Expr×List Keyword×Pos):=MU none (λ_ _=>none) (λ_ _ _=>none) (λ_ _ _=>none) (λ_ _ _=>none) (λ_ _ _ _=>none) (λo a p q=>some (o,a,p,q))
def vE:Stmt->Option (Expr×Pos):=Qb none (λx p=>some (x,p)) (λ_ _=>none) (λ_ _ _ _=>none) (λ_=>none)
def vR:Stmt->Option (Option Expr×Pos):=Qb none (λ_ _=>none) (λx p=>some (x,p)) (λ_ _ _ _=>none) (λ_=>none)
def Tv:Stmt->Option (Expr×List Stmt×List Stmt×Pos):=Qb none (λ_ _=>none) (λ_ _=>none) (λo a p q=>some (o,a,p,q)) (λ_=>none)
def O0:Stmt->Bool:=Qb false (λ_ _=>false) (λ_ _=>false) (λ_ _ _ _=>false) (λ_=>true)
noncomputable def kS:Const->Option Str |.str s=>some s |_=>none
noncomputable def kB:Const->Option Bool |.bool b=>some b |_=>none
noncomputable def T3:Const->Bool |.none=>true |_=>false
def Qn (e:Expr):Option Str:=ag (Np e) none λq=>kS q.1
noncomputable def LC:CmpOp->Bool |.Is=>true |_=>false
noncomputable def Jk:CmpOp->Bool |.IsNot=>true |_=>false
def GT (e:Expr):Bool:=ag (Np e) false λq=>T3 q.1
def CZ (b:Bool) (s:Stmt):Bool:=ag (vR s) false λv=>ag v.1 false λe=>ag (Np e) false λq=>ag (kB q.1) false λx=>x==b
def eS (e:Expr):Bool:=M2 22 e
def jz (e:Expr):Bool:=M2 8 e&&M2 9 e&&M2 10 e
def n7 (e:Expr):Bool:=M2 7 e
def n5 (e:Expr):Bool:=M2 26 e
noncomputable def nU:Expr->Bool
 |.UnaryOp .Not _ _=>false
 |.BoolOp ..=>false
 |.IfExp ..=>false
 |.Compare ..=>false
 |_=>true
def Qs:Operator->Option vM
 |.Add=>some aO |.Sub=>some lU |.Mult=>some fF |.FloorDiv=>some e9 |.Mod=>some cK |.Pow=>some ul |.LShift=>some wP |.RShift=>some Gg |.BitOr=>some Qv |.BitAnd=>some Go |_=>none
def xO:CmpOp->Option fT
 |.Eq=>some ce |.NotEq=>some nt |.Lt=>some Bh |.LtE=>some AZ |.Gt=>some Jv |.GtE=>some Ia |.In=>some vw |.NotIn=>some pC |_=>none
noncomputable def sQ (x:Str):Nat->Option Nat
 |0=>none
 |f+1=>if b9 (43-f)==x then some (43-f)else sQ x f
noncomputable def so (sc:Scope) (sl:List Str):List Expr->Option (List Nat)
 |[]=>some []
 |e::r=>ag (Bb e) none λq=>ah (bZ sc q.1 .local) (ag (f9 sl q.1) none λi=>(so sc sl r).map (i::·)) none
def Ki (sc:Scope) (sl:List Str) (e:Expr):Option Tg:=
 ag (Bb e) (ag (Nm e) none λq=>(so sc sl q.1).map .t) λq=>ah (bZ sc q.1 .local) (ag (f9 sl q.1) none λi=>some (.n i)) none
def Ce (f:Expr->Ev):Option Expr->Ev
 |none=>eK .none
 |some e=>f e
noncomputable def qg (f:Stmt->Ex):List Stmt->Ex
 |[]=>aE
 |[s]=>f s
 |s::r=>ac (f s) (qg f r)
noncomputable def kc:List (Str×NameKind)->List Str
 |[]=>[]
 |(n,k)::r=>if k==.local then n::kc r else kc r
noncomputable def dU:List (Str×NameKind)->List Str
 |[]=>[]
 |(n,k)::r=>if k==.free then n::dU r else dU r
noncomputable def vo (sc scope:Scope) (sl:List Str):List Str->Option (List Nat)
 |[]=>some []
 |x::r=>match bZ sc x .cell&&bZ scope x .free,f9 sl x with
  |true,some i=>(vo sc scope sl r).map (i::·)
  |_,_=>none
def BX (scope:Scope):Bool:=(scope.kind==.function)&&scope.names.all λp=>!(p.2==.cell)&&(!(p.2==.local)||bZ scope p.1 .local)
noncomputable def QU:Expr->Bool
 |.Name ..=>true
 |.Tuple ..=>true
 |_=>false
def Ds (c:Co) (sc:Scope) (sl:List Str) (elt t it:Expr) (scope:Scope):Ev:=
 match vo sc scope sl (dU scope.names),Ki (mv scope sc) (kc scope.names++dU scope.names) t with
 |some caps,some tg=>gd (BX scope&&QU t&&n7 it&&decide (kc scope.names++dU scope.names).Nodup) (jO (kc scope.names).length caps tg (c.ex sc sl it) (c.ex (mv scope sc) (kc scope.names++dU scope.names) elt))
 |_,_=>fP
noncomputable def kI (n:Int):Const->Bool |.int i=>decide (i=n) |_=>false
def OY (e:Expr):Bool:=ag (Np e) false λq=>kI 16 q.1
def Du (c:Co) (sc:Scope) (sl:List Str) (g:Str) (as:List Expr):Ev:=
 gd (l6 sc g&&as.all eS) (match as with
  |[a]=>if g==("len":Str)then ko (c.ex sc sl a)else if g==("int":Str)then ru (c.ex sc sl a)else if g==("str":Str)then DS (c.ex sc sl a)else if g==("tuple":Str)then km (c.ex sc sl a)
   else if g==("list":Str)then pw (c.ex sc sl a)else if g==("bytes":Str)then xI (c.ex sc sl a)else if g==("range":Str)then pv (c.ex sc sl a)else if g==("any":Str)then eC (Ek (c.ex sc sl a))else fP
  |[a,b]=>if g==("zip":Str)then Mk (c.ex sc sl a) (c.ex sc sl b)else if g==("int":Str)then gd (OY b) (sU (c.ex sc sl a))else fP
  |_=>fP)
def zd (T:Tb) (c:Co) (sc:Scope) (sl:List Str) (o:Expr) (m:Str) (as:List Expr):Ev:=
 match fu T.mts m with
 |some (mid,rows)=>gd (rows.all λr=>qU r.2 (as.length+1)) (eM mid (c.ex sc sl o) (rows.map λr=>(r.1,r.2.fn,lS r.2 (as.length+1))) (as.map (c.ex sc sl)))
 |none=>match as with
  |[]=>if m==("split":Str)then iG (c.ex sc sl o)else fP
  |[a]=>if m==("append":Str)then aH (c.ex sc sl o) (c.ex sc sl a)else if m==("lstrip":Str)then sT (c.ex sc sl o) (c.ex sc sl a)else if m==("index":Str)then xH (c.ex sc sl o) (c.ex sc sl a)
   else if m==("split":Str)then ag (Qn a) fP λs=>(match s.cps.toList with
     |[x]=>gd (Nat.blt x 128) (gp (c.ex sc sl o) x)
     |_=>fP)else fP
  |[a,b]=>if m==("get":Str)then Mo (c.ex sc sl o) (c.ex sc sl a) (c.ex sc sl b)else fP
  |_=>fP
def Lj (o:Expr) (as:List Expr) (apos pos:Pos):Bool:=!zX o&&as.all eS&&Nat.blt as.length 30&&(apos.endLine==pos.line)
def Jm (T:Tb) (c:Co) (sc:Scope) (sl:List Str) (f:Expr) (as:List Expr) (pos:Pos):Ev:=
 ag (Bb f) (ag (Ke f) fP λq=>gd (Lj q.1 as q.2.2 pos) (ag (Bb q.1) (zd T c sc sl q.1 q.2.1 as) λr=>ag (zg T.cms r.1 q.2.1) (zd T c sc sl q.1 q.2.1 as) λfe=>gd (l6 sc r.1&&qU fe as.length) (eF fe.fn (as.map (c.ex sc sl)) (lS fe as.length))))
  λq=>ag (f9 sl q.1) (ag (fu T.fns q.1) (ag (fu T.cls q.1) (Du c sc sl q.1 as) λr=>gd (l6 sc q.1&&as.all eS&&qU r.2 (as.length+1)) (bz r.1 r.2.fn (as.map (c.ex sc sl)) (lS r.2 (as.length+1))))
   λfe=>gd (l6 sc q.1&&as.all eS&&qU fe as.length) (eF fe.fn (as.map (c.ex sc sl)) (lS fe as.length))) λ_=>fP
def OV:List CmpOp->List Expr->Bool
 |[o],[r]=>LC o&&GT r
 |_,_=>false
def TM (t:Expr):Option (Str×Str):=ag (Nq t) none λq=>ag (Ke q.1) none λa=>ag (Bb a.1) none λx=>ah (OV q.2.1 q.2.2.1) (some (x.1,a.2.1)) none
def TQ (a:Expr):Bool:=ag (Qn a) false λs=>cL s.cps.toList
def TP (x f:Str) (b:Expr):Bool:=ag (Ke b) false λq=>(q.2.1==("name":Str))&&ag (Ke q.1) false λr=>(r.2.1==f)&&ag (Bb r.1) false λy=>y.1==x
def T9 (c:Co) (sc:Scope) (sl:List Str) (t a b:Expr):Ev:=
 (λd=>ag (TM t) d λp=>ah (TQ a&&TP p.1 p.2 b&&nW p.1) (ag (f9 sl p.1) d λi=>ag (sQ p.2 44) d λf=>QJ i f d) d) (lJ (c.cd sc sl t) (c.ex sc sl a) (c.ex sc sl b))
def Ua (T:Tb) (c:Co) (sc:Scope) (sl:List Str) (e:Expr):Ev:=match e with
 |.Constant (.int i) _ _=>eK (.int i)
 |.Constant (.bool b) _ _=>eK (.bool b)
 |.Constant .none _ _=>eK .none
 |.Constant (.str s) _ _=>gd (Ty s) (eK (.str s.cps.toList))
 |.Name x _=>(match f9 sl x with
  |some i=>gd (nW x) (eL i)
  |none=>match fu T.con x with
   |some v=>gd (l6 sc x) (eK v)
   |none=>fP)
 |.BinOp l o r _=>(match Qs o with
  |some f=>eB f (c.ex sc sl l) (c.ex sc sl r)
  |none=>fP)
 |.UnaryOp .USub x _=>dH (c.ex sc sl x)
 |.UnaryOp .Not _ _=>eC (c.cv sc sl e)
 |.BoolOp _ _ _=>eC (c.cv sc sl e)
 |.Compare _ _ _ _=>eC (c.cv sc sl e)
 |.IfExp t a b _=>T9 c sc sl t a b
 |.Tuple es _ _=>gd (es.all eS) (aF (es.map (c.ex sc sl)))
 |.List es _=>gd (es.all eS) (dk (es.map (c.ex sc sl)))
 |.Dict [] [] _=>sV
 |.Subscript v i _=>(match v,i with
  |.Name x p,.Slice lo hi none _=>qe (c.ex sc sl (.Name x p)) (Ce (c.ex sc sl) lo) (Ce (c.ex sc sl) hi)
  |v,i=>gd (n5 i) (eI (c.ex sc sl v) (c.ex sc sl i)))
 |.Attribute v a _=>(match sQ a 44 with
  |some f=>gd (!zX v) (eA (c.ex sc sl v) f)
  |none=>fP)
 |.ListComp elt gens scope _=>(match gens with
  |[⟨t,it,[],0⟩]=>Ds c sc sl elt t it scope
  |_=>fP)
 |.Call f as [] pos=>Jm T c sc sl f as pos
 |_=>fP
def Pm (c:Co) (sc:Scope) (sl:List Str) (l:Expr) (ops:List CmpOp) (rs:List Expr):Cd:=match ops,rs with
 |[o],[r]=>ah (LC o&&GT r) (zx (c.ex sc sl l)) (ah (Jk o&&GT r) (vv (c.ex sc sl l)) (ag (xO o) mY λf=>gc (!behindInMarks o r) (cC f (c.ex sc sl l) (c.ex sc sl r))))
 |[o,o'],[r,r']=>ag (xO o) mY λf=>ag (xO o') mY λf'=>gc (!lastMarks [o,o'] [r,r']) (M4 f f' (c.ex sc sl l) (c.ex sc sl r) (c.ex sc sl r'))
 |_,_=>mY
def Uc (c:Co) (sc:Scope) (sl:List Str) (e:Expr):Cd:=match e with
 |.UnaryOp .Not x _=>jJ (c.cd sc sl x)
 |.BoolOp .And es _=>ig (es.map (c.cd sc sl))
 |.BoolOp .Or es _=>pB (es.map (c.cd sc sl))
 |.Compare l ops rs _=>Pm c sc sl l ops rs
 |e=>gc (nU e) (cT (c.ex sc sl e))
def Ub (c:Co) (sc:Scope) (sl:List Str) (e:Expr):Cd:=match e with
 |.UnaryOp .Not x _=>gc (nU x) (jJ (cT (c.ex sc sl x)))
 |.BoolOp .And es _=>gc (!es.isEmpty) (ig (es.map (c.cv sc sl)))
 |.BoolOp .Or es _=>gc (!es.isEmpty) (pB (es.map (c.cv sc sl)))
 |.Compare l [o] [r] _=>(match xO o with
  |some f=>gc (!behindInMarks o r) (cC f (c.ex sc sl l) (c.ex sc sl r))
  |none=>mY)
 |e=>cB (c.ex sc sl e)
noncomputable def DC:List Expr->Option (List Nat)
 |[]=>some []
 |e::r=>ag (Ke e) none λq=>ag (sQ q.2.1 44) none λf=>(DC r).map (f::·)
noncomputable def DN (sc:Scope):Env:={scope:=sc,locals:=0,globals:=0,cells:=[]}
def zW (sc:Scope) (ts:List Expr) (v:Expr):Option (Option (List Str)):=ag (Nm v) (some none) λq=>
 if !(ts.length==2||ts.length==3)||q.1.length !=ts.length||(DN sc).blockKind !=.function then some none else
 if q.1.any (fun |.Starred ..=>true |_=>false)then some none else
 if(ts.filterMap fun |.Name id pos=>if(DN sc).kindOf id==some .local&&pos.line==(ts.head?.map (·.pos.line)).getD 0 then some id else none |_=>none).length !=ts.length||(ts.filterMap fun |.Name id pos=>if(DN sc).kindOf id==some .local&&pos.line==(ts.head?.map (·.pos.line)).getD 0 then some id else none |_=>none).eraseDups.length !=(ts.filterMap fun |.Name id pos=>if(DN sc).kindOf id==some .local&&pos.line==(ts.head?.map (·.pos.line)).getD 0 then some id else none |_=>none).length then some none else
 if q.1.all (foldedForSure 8)then some none else if q.1.all (constantsAlone 8)then none else some (some (ts.filterMap fun |.Name id pos=>if(DN sc).kindOf id==some .local&&pos.line==(ts.head?.map (·.pos.line)).getD 0 then some id else none |_=>none))
def pV (e:Expr):Option Str:=ag (Ke e) none λq=>ag (Bb q.1) none λr=>some r.1
noncomputable def BH:Option (Option (List Str))->Bool
 |some none=>true
 |_=>false
noncomputable def kO:List Expr->List Str
 |[]=>[]
 |e::r=>ag (Bb e) (kO r) λq=>q.1::kO r
noncomputable def BG (xs:List Str):Option (Option (List Str))->Bool
 |some none=>true
 |some (some ys)=>decide (ys=xs)
 |none=>false
noncomputable def wO (x:Str):List Expr->Bool
 |[]=>true
 |e::r=>ag (pV e) false (λy=>y==x)&&wO x r
def Pn (c:Co) (sc:Scope) (sl:List Str) (t v:Expr):Ex:=match t with
 |.Attribute o a _=>ag (sQ a 44) eY λf=>dE (c.ex sc sl o) f (c.ex sc sl v)
 |.Subscript o i _=>Nh (c.ex sc sl o) (c.ex sc sl i) (c.ex sc sl v)
 |.Name x _=>ah (bZ sc x .local) (ag (f9 sl x) eY λi=>xA (.n i) (c.ex sc sl v)) eY
 |.Tuple es _ _=>ag (es.head?.bind pV) (ag (so sc sl es) eY λis=>gs (decide is.Nodup&&BG (kO es) (zW sc es v)) (xA (.t is) (c.ex sc sl v)))
   λx=>ag (f9 sl x) eY λi=>ag (DC es) eY λfs=>gs (nW x&&wO x es&&BH (zW sc es v)) (Fy (eL i) fs (c.ex sc sl v))
 |_=>eY
noncomputable def xu (x:Str):Bool:=x==("DecodeError":Str)
def Dp (sc:Scope) (e:Expr):Ex:=ag (Tw e) eY λq=>ag (Bb q.1) eY λx=>match q.2.1,q.2.2.1 with
 |[a],[]=>ag (Qn a) eY λ_=>gs (xu x.1&&l6 sc x.1) cP
 |_,_=>eY
def Pl (c:Co) (sc:Scope) (sl:List Str) (b:Stmt) (n:Str) (h:Stmt):Ex:=gs (xu n&&l6 sc n) (ag (vE b)
 (ag (Tv b) eY λq=>match q.2.1,q.2.2.1 with
  |[s],[]=>ah (CZ false s&&O0 h) (Bq (c.cd sc sl q.1) (.bool false) nB) eY
  |_,_=>eY)
 λq=>ah (CZ true h) (gs (jz q.1) (Bs (c.ex sc sl q.1) (au (eK (.bool true))))) eY)
def T8 (c:Co) (sc:Scope) (sl:List Str) (s:Stmt):Ex:=match s with
 |.Expr e _=>gs (jz e) (xE (c.ex sc sl e))
 |.Pass _=>aE
 |.Continue _=>nB
 |.Return none _=>Bu
 |.Return (some e) _=>au (c.ex sc sl e)
 |.Assign [t] v _=>gs (jz v) (Pn c sc sl t v)
 |.If t b o _=>bN (c.cd sc sl t) (qg (c.st sc sl) b) (qg (c.st sc sl) o)
 |.While t b [] _=>QR (c.cd sc sl t) (qg (c.st sc sl) b)
 |.For t it b [] _=>ag (Ki sc sl t) eY λtg=>gs (n7 it) (gC tg (c.ex sc sl it) (qg (c.st sc sl) b))
 |.Raise (some e) none _=>Dp sc e
 |.Try [b] [.ExceptHandler (some e) none [h] _] [] [] _=>ag (Bb e) eY λq=>Pl c sc sl b q.1 h
 |_=>eY
def VB:Co:=⟨λ_ _ _=>fP,λ_ _ _=>mY,λ_ _ _=>mY,λ_ _ _=>eY⟩
def Uu (T:Tb) (c:Co):Co:=⟨Ua T c,Uc c,Ub c,T8 c⟩
def co (T:Tb) (n:Nat):Co:=Nat.rec VB (λ_ c=>Uu T c) n
end
section
def gV (Z:Zt) (n:Nat) (f:kD) (fa:Addr):Prop:=∀na,qU f na->iY Z n f.fn fa na (lS f na)
structure dD (Z:Zt) (n:Nat) (T:Tb):Prop where
 fns:∀g fe,fu T.fns g=some fe->∃fa,A3 (nsIn Z.K mainGlobals g=some (some (.ref fa))) (keepIn Z.K (.ref fa)) (gV Z n fe fa)
 cls:∀g k fe,fu T.cls g=some (k,fe)->(3<k/\k<16)/\makesIn Z.K (Z.cls k)/\nsIn Z.K mainGlobals g=some (some (.ref (Z.cls k)))/\keepIn Z.K (.ref (Z.cls k))/\∃fI,A3 (findIn Z.K (.ref (Z.cls k)) "__init__"=some (some (.ref fI))) (isFn Z.K (.ref fI)) (gV Z n fe fI)
 mts:∀m mid rows,fu T.mts m=some (mid,rows)->yh mid m/\∀r∈rows,plainGet Z.K (Z.cls r.1) m/\∃fa,findIn Z.K (.ref (Z.cls r.1)) m=some (some (.ref fa))/\isFn Z.K (.ref fa)/\keepIn Z.K (.ref fa)/\gV Z n r.2 fa
 cms:∀C m fe,zg T.cms C m=some fe->E2 λa fa=>A7 (nsIn Z.K mainGlobals C=some (some (.ref a))) (typeIn Z.K (.ref a)=some (.type "type")) (readsIn Z.K a (.type "type")) (findCls Z.K (.ref a) (.type "type") m=some (.val (.ref fa))) (specialIn Z.K (.ref a) "__getattribute__"=some (some (.builtin "type.__getattribute__"))) (keepIn Z.K (.ref fa)) (gV Z n fe fa)
 con:∀x v,fu T.con x=some v->∃w,nsIn Z.K mainGlobals x=some (some w)/\∀G,VR Z.T Z.rg G v w
noncomputable def tt:List (Str×Value):=[("len",.builtin "len"),("int",.type "int"),("str",.type "str"),("tuple",.type "tuple"),("list",.type "list"),("bytes",.type "bytes"),("range",.type "range"),("any",.builtin "any"),("zip",.type "zip")]
structure iu (Z:Zt) (D:iL):Prop where
 KA:pZ Z
 KS:mj Z
 KX:A9 Z D
 dec:nsIn Z.K mainGlobals "DecodeError"=some (some (.ref (Z.cls 3)))
 bs:∀p∈tt,nsIn Z.K mainGlobals p.1=some none/\bootBuiltins p.1=some p.2/\p.1≠"__name__"
def im (sc:Scope) (sl:List Str):Prop:=sl.Nodup/\sc.kind=.function
structure jr (Z:Zt) (n:Nat) (c:Co):Prop where
 ex:∀sc sl,im sc sl->∀e,av Z (n+2) sc sl (c.ex sc sl e) e
 cd:∀sc sl,im sc sl->∀e,dT Z (n+2) sc sl (c.cd sc sl e) e
 cv:∀sc sl,im sc sl->∀e,ju Z (n+2) sc sl (c.cv sc sl e) e
 st:∀sc sl,im sc sl->∀s,ca Z (n+2) sc sl (c.st sc sl s) s
section
theorem gk {o:Option α} {f:α->Option β} {y:β} (h:ag o none f=some y):∃a,o=some a/\f a=some y:=by
 cases o with
 |none=>exact bd h
 |some a=>exact⟨a,rfl,h⟩
theorem nX {o:Option α} {f:α->Bool} (h:ag o false f=true):∃a,o=some a/\f a:=by
 cases o with
 |none=>exact ao h
 |some a=>exact⟨a,rfl,h⟩
theorem cH {o:Option α} {d:β} {f:α->β} {C:β->Prop} (h0:C d) (h1:∀a,o=some a->C (f a)):C (ag o d f):=by
 cases o with
 |none=>exact h0
 |some a=>exact h1 a rfl
theorem rE {x y:β} {C:β->Prop} (h1:b=true->C x) (h0:C y):C (ah b x y):=by
 cases b with
 |true=>exact h1 rfl
 |false=>exact h0
theorem l9 {x:Option β} {y:β} (h:ah b x none=some y):b/\x=some y:=by
 cases b with
 |true=>exact⟨rfl,h⟩
 |false=>exact bd h
theorem ml {d:β} {n m o t p l} {C:Expr->β->Prop} (h0:∀e,C e d) (hn:∀x p,C (.Name x p) (n x p)) (hm:∀x y z,C (.Attribute x y z) (m x y z)) (ho:∀x y z,C (.Constant x y z) (o x y z)) (ht:∀x y z,C (.Tuple x y z) (t x y z)) (hp:∀x y z w,C (.Compare x y z w) (p x y z w)) (hl:∀x y z w,C (.Call x y z w) (l x y z w)) (e:Expr):C e (MU d n m o t p l e):=
 Expr.casesOn e (λ_ _ _=>h0 _) (λ_ _ _=>h0 _) (λ_ _ _ _=>h0 _) (λ_ _ _=>h0 _) (λ_ _ _ _=>h0 _) (λ_ _ _ _=>h0 _) (λ_ _ _=>h0 _) (λ_ _ _=>h0 _) (λ_ _ _ _=>h0 _) (λ_ _ _ _=>h0 _) (λ_ _ _ _ _=>h0 _) (λ_ _ _ _=>h0 _) (λ_ _=>h0 _) (λ_ _=>h0 _) (λ_ _=>h0 _) (λa b c f=>hp a b c f) (λa b c f=>hl a b c f) (λ_ _ _ _=>h0 _) (λ_ _=>h0 _) (λa b c=>ho a b c) (λa b c=>hm a b c) (λ_ _ _=>h0 _) (λ_ _=>h0 _) (λa b=>hn a b) (λ_ _=>h0 _) (λa b c=>ht a b c) (λ_ _ _ _=>h0 _)
theorem tv {d:β} {n m o t} {C:Stmt->β->Prop} (h0:∀e,C e d) (hn:∀x p,C (.Expr x p) (n x p)) (hm:∀x y,C (.Return x y) (m x y)) (ho:∀x y z w,C (.If x y z w) (o x y z w)) (ht:∀x,C (.Continue x) (t x)) (e:Stmt):C e (Qb d n m o t e):=
 Stmt.casesOn e (λ_ _ _ _ _ _ _ _ _ _=>h0 _) (λ_ _ _ _ _ _ _ _ _ _=>h0 _) (λ_ _ _ _ _ _ _ _ _ _ _=>h0 _) (λa b=>hm a b) (λ_ _=>h0 _) (λ_ _ _=>h0 _) (λ_ _ _ _ _ _ _=>h0 _) (λ_ _ _ _=>h0 _) (λ_ _ _ _ _=>h0 _) (λ_ _ _ _ _=>h0 _) (λ_ _ _ _ _=>h0 _) (λ_ _ _ _=>h0 _) (λa b c f=>ho a b c f) (λ_ _ _=>h0 _) (λ_ _ _=>h0 _) (λ_ _ _=>h0 _) (λ_ _ _=>h0 _) (λ_ _ _ _ _=>h0 _) (λ_ _ _ _ _=>h0 _) (λ_ _ _=>h0 _) (λ_ _=>h0 _) (λ_ _ _ _=>h0 _) (λ_ _=>h0 _) (λ_ _=>h0 _) (λa b=>hn a b) (λ_=>h0 _) (λ_=>h0 _) (λa=>ht a)
theorem ix (h:Bb e=some q):e=.Name q.1 q.2:=ml (C:=λe b=>b=some q->e=.Name q.1 q.2) (λ_ h=>bd h) (λ_ _ h=>by rw[<-jK h]) (λ_ _ _ h=>bd h) (λ_ _ _ h=>bd h) (λ_ _ _ h=>bd h) (λ_ _ _ _ h=>bd h) (λ_ _ _ _ h=>bd h) e h
theorem nE (h:Ke e=some q):e=.Attribute q.1 q.2.1 q.2.2:=ml (C:=λe b=>b=some q->e=.Attribute q.1 q.2.1 q.2.2) (λ_ h=>bd h) (λ_ _ h=>bd h) (λ_ _ _ h=>by rw[<-jK h]) (λ_ _ _ h=>bd h) (λ_ _ _ h=>bd h) (λ_ _ _ _ h=>bd h) (λ_ _ _ _ h=>bd h) e h
theorem rR (h:Np e=some q):e=.Constant q.1 q.2.1 q.2.2:=ml (C:=λe b=>b=some q->e=.Constant q.1 q.2.1 q.2.2) (λ_ h=>bd h) (λ_ _ h=>bd h) (λ_ _ _ h=>bd h) (λ_ _ _ h=>by rw[<-jK h]) (λ_ _ _ h=>bd h) (λ_ _ _ _ h=>bd h) (λ_ _ _ _ h=>bd h) e h
theorem BD (h:Nm e=some q):e=.Tuple q.1 q.2.1 q.2.2:=ml (C:=λe b=>b=some q->e=.Tuple q.1 q.2.1 q.2.2) (λ_ h=>bd h) (λ_ _ h=>bd h) (λ_ _ _ h=>bd h) (λ_ _ _ h=>bd h) (λ_ _ _ h=>by rw[<-jK h]) (λ_ _ _ _ h=>bd h) (λ_ _ _ _ h=>bd h) e h
theorem FG (h:Nq e=some q):e=.Compare q.1 q.2.1 q.2.2.1 q.2.2.2:=ml (C:=λe b=>b=some q->e=.Compare q.1 q.2.1 q.2.2.1 q.2.2.2) (λ_ h=>bd h) (λ_ _ h=>bd h) (λ_ _ _ h=>bd h) (λ_ _ _ h=>bd h) (λ_ _ _ h=>bd h) (λ_ _ _ _ h=>by rw[<-jK h]) (λ_ _ _ _ h=>bd h) e h
theorem Kc (h:Tw e=some q):e=.Call q.1 q.2.1 q.2.2.1 q.2.2.2:=ml (C:=λe b=>b=some q->e=.Call q.1 q.2.1 q.2.2.1 q.2.2.2) (λ_ h=>bd h) (λ_ _ h=>bd h) (λ_ _ _ h=>bd h) (λ_ _ _ h=>bd h) (λ_ _ _ h=>bd h) (λ_ _ _ _ h=>bd h) (λ_ _ _ _ h=>by rw[<-jK h]) e h
theorem No (h:vE e=some q):e=.Expr q.1 q.2:=tv (C:=λe b=>b=some q->e=.Expr q.1 q.2) (λ_ h=>bd h) (λ_ _ h=>by rw[<-jK h]) (λ_ _ h=>bd h) (λ_ _ _ _ h=>bd h) (λ_ h=>bd h) e h
theorem Nn (h:vR e=some q):e=.Return q.1 q.2:=tv (C:=λe b=>b=some q->e=.Return q.1 q.2) (λ_ h=>bd h) (λ_ _ h=>bd h) (λ_ _ h=>by rw[<-jK h]) (λ_ _ _ _ h=>bd h) (λ_ h=>bd h) e h
theorem Kb (h:Tv e=some q):e=.If q.1 q.2.1 q.2.2.1 q.2.2.2:=tv (C:=λe b=>b=some q->e=.If q.1 q.2.1 q.2.2.1 q.2.2.2) (λ_ h=>bd h) (λ_ _ h=>bd h) (λ_ _ h=>bd h) (λ_ _ _ _ h=>by rw[<-jK h]) (λ_ h=>bd h) e h
theorem GU (h:O0 s):∃p,s=.Continue p:=tv (C:=λe b=>b=true->∃p,e=.Continue p) (λ_ h=>ao h) (λ_ _ h=>ao h) (λ_ _ h=>ao h) (λ_ _ _ _ h=>ao h) (λp _=>⟨p,rfl⟩) s h
theorem OK (h:kS v=some s):v=.str s:=by
 cases v with
 |str x=>rw[<-jK h]
 |_=>exact bd h
theorem OP (h:kB v=some s):v=.bool s:=by
 cases v with
 |bool x=>rw[<-jK h]
 |_=>exact bd h
theorem Lv (h:T3 v):v=.none:=by
 cases v with
 |none=>rfl
 |_=>exact ao h
theorem OL (h:kI n v):v=.int n:=by
 cases v with
 |int i=>rw[cg h]
 |_=>exact ao h
theorem vW (h:Qn e=some s):E2 λk p=>e=.Constant (.str s) k p:=by
 refine aA (gk h) λzz0 h1 h2=>?_;obtain⟨v,k,p⟩:=zz0;exact⟨k,p,by refine aa (rR h1) ?_;rw[OK h2]⟩
theorem sK (h:GT e):E2 λk p=>e=.Constant .none k p:=by
 refine aA (nX h) λzz1 h1 h2=>?_;obtain⟨v,k,p⟩:=zz1;exact⟨k,p,by refine aa (rR h1) ?_;rw[Lv h2]⟩
theorem yV (h:LC o):o=.Is:=by
 cases o with
 |Is=>rfl
 |_=>exact ao h
theorem C0 (h:Jk o):o=.IsNot:=by
 cases o with
 |IsNot=>rfl
 |_=>exact ao h
theorem uO (h:CZ b s):E3 λk p p1=>s=.Return (some (.Constant (.bool b) k p)) p1:=by
 refine hG λCC hCC=>?_;refine aA (nX h) λzz2 h1 h=>?_;obtain⟨v,p1⟩:=zz2;refine aA (nX h) λe h2 h=>?_;refine aA (nX h) λzz3 h3 h=>?_;obtain⟨c,k,p⟩:=zz3;refine aA (nX h) λx h4 h=>?_;refine hCC ?_;exact⟨k,p,p1,by refine aa (Nn h1) ?_;refine aa h2 ?_;refine aa (rR h3) ?_;refine aa (OP h4) ?_;rw[aW h]⟩
end
section
variable{Z:Zt} {n:Nat} {sc:Scope} {sl:List Str} {D:iL}
theorem aK:av Z n sc sl fP e:=λX F G vs st m s k kE I y=>ao y
theorem dI:dT Z n sc sl mY e:=λX F G vs st m s k kE I y=>ao y
theorem ly:ju Z n sc sl mY e:=λX F G vs st m s k kE I y=>ao y
theorem aD:ca Z n sc sl eY s:=λX F G vs st m s k kE I y=>ao y
theorem ft (h:b=true->av Z n sc sl x e):av Z n sc sl (gd b x) e:=by
 cases b with
 |true=>exact h rfl
 |false=>exact aK
theorem mD (h:b=true->ca Z n sc sl x e):ca Z n sc sl (gs b x) e:=by
 cases b with
 |true=>exact h rfl
 |false=>exact aD
theorem Dn (h:b=true->dT Z n sc sl x e):dT Z n sc sl (gc b x) e:=by
 cases b with
 |true=>exact h rfl
 |false=>exact dI
theorem Dl (h:b=true->ju Z n sc sl x e):ju Z n sc sl (gc b x) e:=by
 cases b with
 |true=>exact h rfl
 |false=>exact ly
theorem eZ:∀{sl:List Str} {x:Str} {i:Nat},f9 sl x=some i->sl[i]?=some x
 |y::r,x,i,h=>by
  unfold f9 at h
  by_cases z:(y==x)
  ·rw[if_pos z]at h;refine gP h ?_;refine aa (aW z) ?_;rfl
  ·replace h:=(if_neg z ..)▸h;refine aA (Option.map_eq_some_iff.mp h) λj hj ee4=>?_;subst ee4;show r[j]?=some x;exact eZ hj
theorem bD (h:bZ sc x k):sc.names.lookup x=some k:=by
 exact cg h
theorem ay (h:(a&&b)):a/\b:=Bool.and_eq_true_iff.mp h
theorem iO (h:(!a)):a=false:=by cases a<;>first |rfl |exact ao h
theorem ew (h:l6 sc x):sc.names.lookup x=some .globalImplicit/\(x==("__debug__":Str))=false:=⟨bD (ay h).1,iO (ay h).2⟩
theorem qV (h:eS e):bR e:=
 Expr.casesOn e (λ_ _ _ _ _ _=>rfl) (λ_ _ _ _ _ _=>rfl) (λ_ _ _ _ _ _ _=>rfl) (λ_ _ _ _ _ _=>rfl) (λ_ _ _ _ _ _ _=>rfl) (λ_ _ _ _ _ _ _=>rfl) (λ_ _ _ _ _ _=>rfl) (λ_ _ _ _ _ _=>rfl) (λ_ _ _ _ _ _ _=>rfl) (λ_ _ _ _ _ _ _=>rfl) (λ_ _ _ _ _ _ _ _=>rfl) (λ_ _ _ _ _ _ _=>rfl) (λ_ _ _ _ _=>rfl) (λ_ _ _ _ _=>rfl) (λ_ _ _ _ _=>rfl) (λ_ _ _ _ _ _ _=>rfl) (λ_ _ _ _ _ _ _=>rfl) (λ_ _ _ _ _ _ _=>rfl) (λ_ _ _ _ _=>rfl) (λ_ _ _ _ _ _=>rfl) (λ_ _ _ _ _ _=>rfl) (λ_ _ _ _ _ _=>rfl) (λ_ _ h=>ao h) (λ_ _ _ _ _=>rfl) (λ_ _ _ _ _=>rfl) (λ_ _ _ _ _ _=>rfl) (λ_ _ _ _ _ _ _=>rfl) h
theorem wR (h:n5 e):zG e:=
 Expr.casesOn e (λ_ _ _ _ _ _=>rfl) (λ_ _ _ _ _ _=>rfl) (λ_ _ _ _ _ _ _=>rfl) (λ_ _ _ _ _ _=>rfl) (λ_ _ _ _ _ _ _=>rfl) (λ_ _ _ _ _ _ _=>rfl) (λ_ _ _ _ _ _=>rfl) (λ_ _ _ _ _ _=>rfl) (λ_ _ _ _ _ _ _=>rfl) (λ_ _ _ _ _ _ _=>rfl) (λ_ _ _ _ _ _ _ _=>rfl) (λ_ _ _ _ _ _ _=>rfl) (λ_ _ _ _ _=>rfl) (λ_ _ _ _ _=>rfl) (λ_ _ _ _ _=>rfl) (λ_ _ _ _ _ _ _=>rfl) (λ_ _ _ _ _ _ _=>rfl) (λ_ _ _ _ _ _ _=>rfl) (λ_ _ _ _ _=>rfl) (λ_ _ _ _ _ _=>rfl) (λ_ _ _ _ _ _=>rfl) (λ_ _ _ _ _ _=>rfl) (λ_ _ _ _ _=>rfl) (λ_ _ _ _ _=>rfl) (λ_ _ _ _ _=>rfl) (λ_ _ _ _ _ _=>rfl) (λ_ _ _ _ h=>ao h) h
theorem Cc (h:nU e):rJ e:=by
 cases e with
 |UnaryOp op x p=>cases op<;>first |(exactλ_ _=>rfl) |exact ao h
 |_=>first |(exactλ_ _=>rfl) |exact ao h
theorem gZ (h:jz e) (t:Option Expr) (l:Nat) (env:Env):swapsWith e t l env=pure false:=
 (λg=>Expr.casesOn e (λ_ _ _ _=>g) (λ_ _ _ _=>g) (λ_ _ _ _ _=>g) (λ_ _ _ _=>g) (λ_ _ _ _ _=>g) (λ_ _ _ _ _=>g) (λ_ _ _ _=>g) (λ_ _ _ _=>g) (λ_ _ _ _ h=>ao h) (λ_ _ _ _ h=>ao h) (λ_ _ _ _ _ h=>ao h) (λ_ _ _ _ _=>g) (λ_ _ _=>g) (λ_ _ _=>g) (λ_ _ _=>g) (λ_ _ _ _ _=>g) (λ_ _ _ _ _=>g) (λ_ _ _ _ _=>g) (λ_ _ _=>g) (λ_ _ _ _=>g) (λ_ _ _ _=>g) (λ_ _ _ _=>g) (λ_ _ _=>g) (λ_ _ _=>g) (λ_ _ _=>g) (λ_ _ _ _=>g) (λ_ _ _ _ _=>g) h) rfl
theorem n6 (h:n7 e) (env:Env) (x:Value):foldedSetIterable e env x=pure x:=
 (λg=>Expr.casesOn e (λ_ _ _ _=>g) (λ_ _ _ _=>g) (λ_ _ _ _ _=>g) (λ_ _ _ _=>g) (λ_ _ _ _ _=>g) (λ_ _ _ _ _=>g) (λ_ _ _ _=>g) (λ_ _ _ h=>ao h) (λ_ _ _ _ _=>g) (λ_ _ _ _ _=>g) (λ_ _ _ _ _ _=>g) (λ_ _ _ _ _=>g) (λ_ _ _=>g) (λ_ _ _=>g) (λ_ _ _=>g) (λ_ _ _ _ _=>g) (λ_ _ _ _ _=>g) (λ_ _ _ _ _=>g) (λ_ _ _=>g) (λ_ _ _ _=>g) (λ_ _ _ _=>g) (λ_ _ _ _=>g) (λ_ _ _=>g) (λ_ _ _=>g) (λ_ _ _=>g) (λ_ _ _ _=>g) (λ_ _ _ _ _=>g) h) rfl
theorem KJ (h:Qs o=some f):iW Z f o:=by
 cases o<;>first |(cases h;first |exact MR |exact Kn |exact K6 |exact Ms |exact Lg |exact KG |exact Ku |exact Kt |exact NT |exact MP) |exact bd h
theorem nk (h:xO o=some f):ir Z f o:=by
 cases o<;>first |(cases h;first |exact Pr |exact NX |exact N7 |exact Of |exact Pi |exact Pk |exact ME |exact AY) |exact bd h
theorem fO {x:Str}:∀{k f:Nat},sQ x k=some f->f<44/\x=b9 f
 |k+1,f,h=>by
  unfold sQ at h
  by_cases z:(b9 (43-k)==x)
  ·rw[if_pos z]at h;refine gP h ?_;exact⟨Nat.sub_lt_succ 43 k,(aW z).symm⟩
  ·rw[if_neg z]at h;exact fO h
theorem qX:∀{es:List Expr} {is:List Nat},so sc sl es=some is->gU sl sc is es (kO es):=by
 intro l0
 induction l0 with
 |nil=>
  intro is h;exact by refine gP h ?_;exact .nil
 |cons e r ih=>
  intro is h;refine aA (gk h) λzz5 h1 h=>?_;refine aa (ix h1) ?_;rcases l9 h with⟨h2,h⟩;refine aA (gk h) λi h3 h=>?_;refine aA (Option.map_eq_some_iff.mp h) λjs hj ee6=>?_;subst ee6;exact .cons (eZ h3) (bD h2) (ih hj)
theorem wd (nd:sl.Nodup) {e:Expr} (h:Ki sc sl e=some t):vQ Z n sc sl t e/\tA Z n sc sl (QQ t) e/\((E2 λx p=>e=.Name x p)\/E3 λes k p=>e=.Tuple es k p):=by
 refine hG λCC hCC=>?_;unfold Ki at h;cases hv:Bb e with
 |some q=>
  obtain⟨x,p⟩:=q;obtain rfl:=ix hv;rcases l9 h with⟨h2,h⟩;refine aA (gk h) λi h3 h=>?_;obtain rfl:=jK h;refine hCC ?_;exact⟨MO (eZ h3) nd (bD h2),Cm,.inl ⟨x,p,rfl⟩⟩
 |none=>
  rw[hv]at h;refine aA (gk h) λzz7 h1 h=>?_;obtain⟨es,k,p⟩:=zz7;obtain rfl:=BD h1;refine aA (Option.map_eq_some_iff.mp h) λis h1 ee8=>?_;subst ee8;refine hCC ?_;exact⟨EE nd (qX h1),Cl ⟨es,k,p,rfl⟩,.inr ⟨es,k,p,rfl⟩⟩
theorem kl {f:Expr->Ev} (h:∀e,av Z n sc sl (f e) e):∀{es:List Expr},es.all eS->eD Z n sc sl (es.map f) es
 |[],_=>.nil
 |e::es,hs=>by
  exact .cons (h e) (qV (ay hs).1) (kl h (ay hs).2)
theorem gV.up (h:gV Z n f fa) (hn:n<=n'):gV Z n' f fa:=λna hp=>(h na hp).up hn
theorem P0 (B:iu Z D) {x:Str} {v:Value} (hm:(x,v)∈tt) (h:l6 sc x):fc Z sc x v:=
 let⟨a,b,c⟩:=B.bs _ hm
 ⟨a,b,c,(ew h).1,(ew h).2⟩
theorem Mq {a fa:Addr} (hf:iY Z n f fa es.length pad) (h:eD Z (n+1) sc sl l es) (hC:nsIn Z.K mainGlobals C=some (some (.ref a))) (hg:l6 sc C)
  (h1:typeIn Z.K (.ref a)=some (.type "type")) (h2:readsIn Z.K a (.type "type")) (h3:findCls Z.K (.ref a) (.type "type") m=some (.val (.ref fa))) (h4:specialIn Z.K (.ref a) "__getattribute__"=some (some (.builtin "type.__getattribute__"))) (hk:keepIn Z.K (.ref fa))
  (he:j3 (.Name C p) m apos es pos):av Z (n+1) sc sl (eF f l pad) (.Call (.Attribute (.Name C p) m apos) es [] pos):=λX F G vs st mm s k kE I y=>by
 refine hG λCC hCC=>?_;refine kX (he X.env) λpl he=>?_;have I0:=I;refine kX I λtr I=>?_;refine hCC ?_;refine methodCall_KW (Cn F hC (ew hg).1 (ew hg).2 I ?_) he;refine method_of_cls I.fr F.inK h4 (cls_val I.fr F.inK h1 h2 h3 rfl ?_);refine fQ F hk h (I0.toks _) y (λ_ _ z=>z) λws s' z=>?_;refine gn z λG1 as st1 L1 r1 y1 I1 hl=>?_;exact aq (wpAny_call (hf sc sl X F G1 vs st1 mm s' k kE as ws I1 r1 hl y1)) (λ_ _ z=>z.up L1) λ_ _ z=>z.up L1.ν
theorem HJ (hx:nsIn Z.K mainGlobals x=some (some w)) (hv:∀G,VR Z.T Z.rg G v w) (hg:l6 sc x):av Z n sc sl (eK v) (.Name x p):=λX F G vs st m s k kE I y=>by
 have I0:=I;exact I.k λtr I=>Cn F hx (ew hg).1 (ew hg).2 I (.now I0 (hv G) y)
theorem tY (h:BX scope) (nd:sl'.Nodup):im (mv scope sc) sl':=⟨nd,aW (ay h).1⟩
theorem Ea:∀{frs:List Str} {caps:List Nat},vo sc scope sl frs=some caps->F2 (λi x=>sl[i]?=some x/\sc.names.lookup x=some .cell/\scope.names.lookup x=some .free) caps frs:=by
 intro l0
 induction l0 with
 |nil=>
  intro caps h;exact by refine gP h ?_;exact .nil
 |cons x r ih=>
  intro caps h;have h:(match bZ sc x .cell&&bZ scope x .free,f9 sl x with
   |true,some i=>(vo sc scope sl r).map (i::·)
   |_,_=>none)=some caps:=h
  cases h1:(bZ sc x .cell&&bZ scope x .free)with
  |false=>replace h:=h1▸h;exact bd h
  |true=>
   cases h2:f9 sl x with
   |none=>rw[h1,h2]at h;exact bd h
   |some i=>
    replace h:=(h1 ..)▸h;replace h:=(h2 ..)▸h;refine aA (Option.map_eq_some_iff.mp h) λjs hj ee9=>?_;subst ee9;exact .cons ⟨eZ h2,bD (ay h1).1,bD (ay h1).2⟩ (ih hj)
theorem AG (x) (hx:x∈names) (h:x.2=.free):x.1∈dU names:=by
 induction names with
 |nil=>cases hx
 |cons p r ih=>
  obtain⟨y,k⟩:=p;have e:dU ((y,k)::r)=if(k==.free) then y::dU r else dU r:=rfl
  refine aa e ?_;refine(bk.mp hx).elim (λq=>?_) λhx=>?_
  ·subst q;have:(k==NameKind.free):=aa (show k=.free from h) rfl;exact aa (if_pos this) (aL ..)
  ·split
   ·exact bc _ (ih hx)
   ·exact ih hx
theorem Dr {T:Tb} (g:jr Z n c) (ok:im sc sl):av Z (n+2) sc sl (Ds c sc sl elt t it scope) (.ListComp elt [⟨t,it,[],0⟩] scope pos):=by
 unfold Ds;cases h1:vo sc scope sl (dU scope.names)with
 |none=>exact aK
 |some caps=>
  cases h2:Ki (mv scope sc) (kc scope.names++dU scope.names) t with
  |none=>exact aK
  |some tg=>
   refine ft λh=>?_;refine bB h λh6 h=>?_;refine bB h λh5 h=>?_;refine bB h λh4 h3=>?_;have nd:=cg h6;refine iP (wd (Z:=Z) (n:=n+2) nd h2) λa1 a2 a3=>?_;have hall:=(ay h3).2;refine DV a3 ⟨Ea h1,λx hx hf=>AG x hx hf⟩ rfl (λy hy=>?_) (aW (ay h3).1) (λy hy hl=>?_) (λenv x=>n6 h5 env x) (g.ex _ _ ok _) a1 (g.ex _ _ (tY h3 nd) _)
   ·have:=(ay (bO.mp hall y hy)).1;intro z;rw[z]at this;exact ao this
   ·have:=(ay (bO.mp hall y hy)).2;rw[hl]at this;exact bD (by assumption)
end
end
section
section
variable{Z:Zt} {n:Nat} {sc:Scope} {sl:List Str} {D:iL} {T:Tb} {c:Co}
theorem fv (h1:b=true->av Z n sc sl x e) (h2:av Z n sc sl y e):av Z n sc sl (if b then x else y) e:=by
 cases b with
 |true=>exact h1 rfl
 |false=>exact h2
theorem si {es:List Expr} (h:es.all eS):∀e∈es,bR e:=λe he=>qV (bO.mp h e he)
theorem AD (B:iu Z D) (g:jr Z n c) (ok:im sc sl) {x:Str} {as:List Expr} {p pos}:av Z (n+2) sc sl (Du c sc sl x as) (.Call (.Name x p) as [] pos):=by
 refine ft λh=>?_;refine bB h λh2 h1=>?_;have s:=si h2;have bn:∀{y:Str} {v:Value},(y,v)∈tt->(x==y)->fc Z sc y v:=λhm e=>by
  rw[aW e]at h1;exact P0 B hm h1
 match as,s with
 |[],_=>exact aK
 |[a],s=>
  have sa:=s a (aL ..);have ga:=g.ex sc sl ok a;refine fv (λq=>?_) ?_
  ·have b:=bn (v:=.builtin "len") (by decide+kernel) q;exact aa (aW q) (HF b ga sa)
  refine fv (λq=>?_) ?_
  ·have b:=bn (v:=.type "int") (by decide+kernel) q;exact aa (aW q) (DU b ga sa)
  refine fv (λq=>?_) ?_
  ·have b:=bn (v:=.type "str") (by decide+kernel) q;exact aa (aW q) (HC b ga sa)
  refine fv (λq=>?_) ?_
  ·have b:=bn (v:=.type "tuple") (by decide+kernel) q;exact aa (aW q) (AJ b ga sa)
  refine fv (λq=>?_) ?_
  ·have b:=bn (v:=.type "list") (by decide+kernel) q;exact aa (aW q) (AM b ga sa)
  refine fv (λq=>?_) ?_
  ·have b:=bn (v:=.type "bytes") (by decide+kernel) q;exact aa (aW q) (HK b ga sa)
  refine fv (λq=>?_) ?_
  ·have b:=bn (v:=.type "range") (by decide+kernel) q;exact aa (aW q) (AL b ga sa)
  refine fv (λq=>?_) ?_
  ·have b:=bn (v:=.builtin "any") (by decide+kernel) q;exact aa (aW q) (Ib b ga sa)
  ·exact aK
 |[a,b],s=>
  have sa:=s a (aL ..);refine fv (λq=>?_) ?_
  ·have b':=bn (v:=.type "zip") (by decide+kernel) q;exact aa (aW q) (HA b' (g.ex sc sl ok a) sa (g.ex sc sl ok b) (s b (bc _ (aL ..))))
  refine fv (λq=>?_) ?_
  ·skip
   refine ft λq2=>?_;refine aa (aW q) ?_;refine aA (nX q2) λzz0 h3 h4=>?_;refine aa (rR h3) (aa (OL h4) ?_);exact AN (bn (by decide+kernel) q) (g.ex sc sl ok a) sa
  ·exact aK
 |_::_::_::_,_=>exact aK
theorem Gv (K:dD Z n T):∀{rows:List (Nat×kD)},(∀r∈rows,plainGet Z.K (Z.cls r.1) m/\∃fa,findIn Z.K (.ref (Z.cls r.1)) m=some (some (.ref fa))/\isFn Z.K (.ref fa)/\keepIn Z.K (.ref fa)/\gV Z n r.2 fa)->
  rows.all (λr=>qU r.2 (na+1))->A8 Z (n+1) na m (rows.map λr=>(r.1,r.2.fn,lS r.2 (na+1))):=by
 intro l0
 induction l0 with
 |nil=>
  intro h hp;exact .nil
 |cons r rows ih=>
  intro h hp;refine kN (h r (aL ..)) λh1 zz1=>?_;refine fb zz1 λfa h2 h3 h4 h5=>?_;exact .cons h1 h2 h3 h4 ((h5 _ (ay hp).1).up (Nat.le_add_right n 1)) (ih (λr hr=>h r (bc _ hr)) (ay hp).2)
theorem Dq (K:dD Z n T) (g:jr Z n c) (ok:im sc sl) {o:Expr} {m:Str} {as:List Expr} {apos pos} (he:j3 o m apos as pos) (hs:as.all eS):av Z (n+2) sc sl (zd T c sc sl o m as) (.Call (.Attribute o m apos) as [] pos):=by
 unfold zd;have s:=si hs;have go:=g.ex sc sl ok o;cases h1:fu T.mts m with
 |some r=>
  exact ft λhp=>kN (K.mts _ _ _ h1) λh2 h3=>Py h2 go (Gv K h3 hp) (kl (g.ex sc sl ok) hs) he
 |none=>
  match as,s,he with
  |[],_,he=>
   refine fv (λq=>?_) ?_
   ·have:=aW q;subst this;exact xD go he
   ·exact aK
  |[a],s,he=>
   have sa:=s a (aL ..);have ga:=g.ex sc sl ok a;refine fv (λq=>?_) ?_
   ·have:=aW q;subst this;exact xJ go ga sa he
   refine fv (λq=>?_) ?_
   ·have:=aW q;subst this;exact xF go ga sa he
   refine fv (λq=>?_) ?_
   ·have:=aW q;subst this;exact AO go ga sa he
   refine fv (λq=>?_) ?_
   ·have:=aW q;subst this;refine cH (C:=λx=>av Z (n+2) sc sl x _) aK λt q=>?_;refine GN (vW q) λk p ee2=>?_;subst ee2;cases ht:t.cps.toList with
    |nil=>exact aK
    |cons x r=>
     cases r with
     |cons=>exact aK
     |nil=>
      refine ft λq=>AK (aQ q) ?_ go he;cases t with
      |mk cps=>
       show Str.mk cps=Str.mk [x].toArray;rw[<-ht]
   ·exact aK
  |[a,b],s,he=>
   have sa:=s a (aL ..);refine fv (λq=>?_) ?_
   ·have:=aW q;subst this;exact HI go (g.ex sc sl ok a) sa (g.ex sc sl ok b) (s b (bc _ (aL ..))) he
   ·exact aK
  |_::_::_::_,_,_=>exact aK
theorem Dt (B:iu Z D) (K:dD Z n T) (g:jr Z n c) (ok:im sc sl):av Z (n+2) sc sl (Jm T c sc sl f as pos) (.Call f as [] pos):=by
 refine cH (C:=λx=>av Z (n+2) sc sl x _) ?_ λq hq=>?_
 ·refine cH (C:=λx=>av Z (n+2) sc sl x _) aK λq hq=>ft λh=>?_;refine aa (nE hq) ?_;refine bB h λh4 h=>?_;refine bB h λh3 h=>?_;refine bB h λh2 h1=>?_;have he:=uC (name:=q.2.1) (iO h1) (si h2) (aQ h3) h4;have pl:=Dq K g ok he h2;refine cH (C:=λx=>av Z (n+2) sc sl x _) pl λr hr=>cH (C:=λx=>av Z (n+2) sc sl x _) pl λfe h5=>ft λh=>?_;rw[ix hr]at he ⊢;exact OO (K.cms _ _ _ h5) λa fa k1 k2 k3 k4 k5 k6 k7=>Mq ((k7 _ (ay h).2).up (Nat.le_add_right n 1)) (kl (g.ex sc sl ok) h2) k1 (ay h).1 k2 k3 k4 k5 k6 he
 ·refine aa (ix hq) ?_;refine cH (C:=λx=>av Z (n+2) sc sl x _) (cH (C:=λx=>av Z (n+2) sc sl x _) (cH (C:=λx=>av Z (n+2) sc sl x _) (AD B g ok) λr h2=>ft λh=>?_) λfe h1=>ft λh=>?_) λ_ _=>aK
  ·refine bB h λh4 h=>?_;refine kN (ay h) λh3 h5=>?_;refine yQ (K.cls _ _ _ h2) λa b d e zz3=>?_;refine l3 zz3 λfI i1 i2 i3=>?_;exact HD a b i1 i2 (i3 _ h4) (kl (g.ex sc sl ok) h5) d e (ew h3).1 (ew h3).2
  ·exact bB h λh4 h=>kN (ay h) λh2 h3=>l3 (K.fns _ _ h1) λfa a b d=>PB ((d _ h4).up (Nat.le_add_right n 1)) (kl (g.ex sc sl ok) h3) a b (ew h2).1 (ew h2).2
theorem Ho (g:jr Z n c) (ok:im sc sl) {l:Expr} {pos}:∀{ops:List CmpOp} {rs:List Expr},dT Z (n+2) sc sl (Pm c sc sl l ops rs) (.Compare l ops rs pos)
 |[o],[r]=>by
  refine rE (C:=λx=>dT Z (n+2) sc sl x _) (λq=>?_) (rE (C:=λx=>dT Z (n+2) sc sl x _) (λq=>?_) (cH (C:=λx=>dT Z (n+2) sc sl x _) dI λf h=>Dn λq=>PV (nk h) (g.ex sc sl ok l) (g.ex sc sl ok _) (iO q)))
  ·refine bB q λq2 q1=>?_;refine GN (sK q2) λk p ee4=>?_;subst ee4;exact aa (yV q1) (Eg (g.ex sc sl ok l) rfl)
  ·refine bB q λq2 q1=>?_;refine GN (sK q2) λk p ee5=>?_;subst ee5;exact aa (C0 q1) (vu (g.ex sc sl ok l) rfl)
 |[o,o'],[r,r']=>cH (C:=λx=>dT Z (n+2) sc sl x _) dI λf h=>cH (C:=λx=>dT Z (n+2) sc sl x _) dI λf' h'=>Dn λq=>MH (nk h) (nk h') (g.ex sc sl ok l) (g.ex sc sl ok _) (g.ex sc sl ok _) (iO q)
 |[],_=>dI
 |[_],[]=>dI
 |[_],_::_::_=>dI
 |[_,_],[]=>dI
 |[_,_],[_]=>dI
 |[_,_],_::_::_::_=>dI
 |_::_::_::_,_=>dI
theorem xP {f:Expr->Cd} (h:∀e,dT Z n sc sl (f e) e):∀{es:List Expr},rL Z n sc sl (es.map f) es
 |[]=>.nil
 |e::es=>.cons (h e) (xP h)
theorem xN {f:Expr->Cd} (h:∀e,ju Z n sc sl (f e) e):∀{e:Expr} {es:List Expr},rK Z n sc sl ((e::es).map f) (e::es)
 |e,[]=>.one (h e)
 |e,e'::es=>.cons (h e) (xN h)
theorem LW (g:jr Z n c) (ok:im sc sl) (e:Expr):dT Z (n+2) sc sl (Uc c sc sl e) e:=by
 have pl:nU e->dT Z (n+2) sc sl (gc (nU e) (cT (c.ex sc sl e))) e:=λq=>Dn λq=>PU (g.ex sc sl ok e) (Cc q);cases e with
 |UnaryOp op x p=>cases op<;>first |exact H9 (g.cd sc sl ok x) |exact pl rfl
 |BoolOp op es p=>
  cases op with
  |And=>exact Ic (xP (g.cd sc sl ok))
  |Or=>exact MD (xP (g.cd sc sl ok))
 |Compare l ops rs p=>exact Ho g ok
 |IfExp=>exact dI
 |_=>exact pl rfl
end
end
section
section
variable{Z:Zt} {n:Nat} {sc:Scope} {sl:List Str} {D:iL} {T:Tb} {c:Co}
theorem LV (g:jr Z n c) (ok:im sc sl) (e:Expr):ju Z (n+2) sc sl (Ub c sc sl e) e:=by
 have pl:=PW (g.ex sc sl ok e);cases e with
 |UnaryOp op x p=>
  cases op with
  |Not=>exact Dl λq=>Ef (c:=mY) (g.ex sc sl ok x)
  |_=>exact pl
 |BoolOp op es p=>
  cases es with
  |nil=>cases op<;>exact ly
  |cons e es=>cases op<;>first |exact El (xN (g.cv sc sl ok)) |exact H6 (xN (g.cv sc sl ok))
 |Compare l ops rs p=>
  match ops,rs with
  |[o],[r]=>
   show ju Z (n+2) sc sl (match xO o with
  |some f=>gc (!behindInMarks o r) (cC f (c.ex sc sl l) (c.ex sc sl r))
  |none=>mY) _
   cases h:xO o with
   |none=>exact ly
   |some f=>exact Dl λq=>MG (nk h) (g.ex sc sl ok l) (g.ex sc sl ok r) (iO q)
  |[],_=>exact pl
  |[_],[]=>exact pl
  |[_],_::_::_=>exact pl
  |_::_::_,_=>exact pl
 |_=>exact pl
theorem uh (g:jr Z n c) (ok:im sc sl) (o:Option Expr):tz Z (n+2) sc sl (Ce (c.ex sc sl) o) o:=by
 cases o with
 |none=>rfl
 |some e=>exact g.ex sc sl ok e
theorem fY (h:nW x):(x==("__debug__":Str))=false/\(x==("__classdict__":Str))=false:=⟨iO (ay h).1,iO (ay h).2⟩
theorem Nr (h:Ty s):Tx s.cps.toList:=λx hx=>aQ (bO.mp h x hx)
theorem yn (s:Str):s=aj s.cps.toList:=rfl
theorem nz (h:zX v=false) (env:Env):eval (.Attribute v a pos) env=(do
   let o <-eval v env
   standAt pos.atName
   let r <-holding [o] (getAttr o a true)
   letTemporaryGo v o r
   pure r):=by
 show(do
   let o <-attributeBase v a env (eval v env)
   standAt pos.atName
   let r <-holding [o] (getAttr o a true)
   letTemporaryGo v o r
   pure r)=_
 rw[fx h]
theorem GR (h:OV ops rs):E2 λk p=>ops=[.Is]/\rs=[.Constant .none k p]:=by
 cases ops with
 |nil=>exact ao h
 |cons o ops=>
  cases ops with
  |cons=>exact ao h
  |nil=>
   refine L.sel rs h rfl (λr rs h=>?_);cases rs with
   |cons=>exact ao h
   |nil=>
    exact bB h λh2 h1=>GN (sK h2) λk p e=>⟨k,p,by rw[yV h1],aa e rfl⟩
theorem KR (h:TM t=some q):E5 λp1 p2 k p3 p4=>t=.Compare (.Attribute (.Name q.1 p1) q.2 p2) [.Is] [.Constant .none k p3] p4:=by
 refine hG λCC hCC=>?_;refine aA (gk h) λzz1 h1 h=>?_;obtain⟨l,ops,rs,p4⟩:=zz1;refine aA (gk h) λzz2 h2 h=>?_;obtain⟨o,f,p2⟩:=zz2;refine aA (gk h) λzz3 h3 h=>?_;obtain⟨x,p1⟩:=zz3;refine kN (l9 h) λh4 h=>?_;refine aJ (GR h4) λk p3 h5 h6=>?_;refine hCC ?_;refine bI (jK h) ?_;exact⟨p1,p2,k,p3,p4,by refine aa (FG h1) ?_;refine aa (nE h2) ?_;refine aa (ix h3) ?_;refine aa h5 ?_;rw[show rs=_ from h6]⟩
theorem KY (h:TQ a):E2 λk p=>a=.Constant (.str (aj [])) k p:=by
 refine aA (nX h) λs h1 h2=>?_;refine GN (vW h1) λk p ee4=>?_;refine aa ee4 ?_;obtain⟨⟨l⟩⟩:=s;cases l with
 |nil=>exact⟨k,p,rfl⟩
 |cons=>exact ao h2
theorem KW (h:TP x f b):E3 λp6 p7 p8=>b=.Attribute (.Attribute (.Name x p6) f p7) "name" p8:=by
 refine hG λCC hCC=>?_;refine aA (nX h) λzz5 h1 h=>?_;obtain⟨o,nm,p8⟩:=zz5;refine bB h λh e1=>?_;refine aA (nX h) λzz6 h2 h=>?_;obtain⟨o',g,p7⟩:=zz6;refine bB h λh e2=>?_;refine aA (nX h) λzz7 h3 h=>?_;obtain⟨y,p6⟩:=zz7;refine hCC ?_;exact⟨p6,p7,p8,by refine aa (nE h1) ?_;refine aa (nE h2) ?_;refine aa (ix h3) ?_;refine aa (aW e1) ?_;refine aa (aW e2) ?_;rw[aW h]⟩
theorem LT (B:iu Z D) (g:jr Z n c) (ok:im sc sl):av Z (n+2) sc sl (T9 c sc sl t a b) (.IfExp t a b p):=by
 have d:av Z (n+2) sc sl (lJ (c.cd sc sl t) (c.ex sc sl a) (c.ex sc sl b)) (.IfExp t a b p):=Mn (g.cd sc sl ok t) (g.ex sc sl ok a) (g.ex sc sl ok b);refine cH (C:=λx=>av Z (n+2) sc sl x _) d λq h1=>rE (C:=λx=>av Z (n+2) sc sl x _) (λh2=>cH (C:=λx=>av Z (n+2) sc sl x _) d λi h3=>cH (C:=λx=>av Z (n+2) sc sl x _) d λfi h4=>?_) d;refine bB h2 λh5 h2=>?_;refine bB h2 λh7 h6=>?_;refine Ve (KR h1) λp1 p2 k1 p3 p4 ee8=>?_;subst ee8;refine GN (KY h6) λk2 p5 ee9=>?_;subst ee9;refine M1 (KW h7) λp6 p7 p8 ee10=>?_;subst ee10;exact Mm B.KA (eZ h3) (fY h5).1 (fY h5).2 (fO h4).1 (fO h4).2 (λenv=>nz rfl env) (λenv=>nz rfl env) (λenv=>nz rfl env) rfl d
theorem LU (B:iu Z D) (K:dD Z n T) (g:jr Z n c) (ok:im sc sl) (e:Expr):av Z (n+2) sc sl (Ua T c sc sl e) e:=by
 cases e with
 |Constant v k p=>
  cases v with
  |int i=>exact DT
  |bool b=>exact HH
  |none=>exact HG
  |str s=>exact ft λh=>xG (yn s) (Nr h)
  |_=>exact aK
 |Name x p=>
  show av Z (n+2) sc sl (match f9 sl x with
  |some i=>gd (nW x) (eL i)
  |none=>match fu T.con x with
   |some v=>gd (l6 sc x) (eK v)
   |none=>fP) _
  cases h:f9 sl x with
  |some i=>exact ft λq=>Jp (eZ h) (fY q).1 (fY q).2
  |none=>
   cases h2:fu T.con x with
   |none=>exact aK
   |some v=>
    exact aA (K.con _ _ h2) λw h3 h4=>ft λq=>HJ h3 h4 q
 |BinOp l o r p=>
  show av Z (n+2) sc sl (match Qs o with
  |some f=>eB f (c.ex sc sl l) (c.ex sc sl r)
  |none=>fP) _
  cases h:Qs o with
  |none=>exact aK
  |some f=>exact PC (KJ h) (g.ex sc sl ok l) (g.ex sc sl ok r)
 |UnaryOp op x p=>
  cases op with
  |USub=>exact KZ (g.ex sc sl ok x)
  |Not=>exact DW (g.cv sc sl ok _)
  |_=>exact aK
 |BoolOp op es p=>exact DW (g.cv sc sl ok _)
 |Compare l ops rs p=>exact DW (g.cv sc sl ok _)
 |IfExp t a b p=>exact LT B g ok
 |Tuple es k p=>exact ft λq=>HB (kl (g.ex sc sl ok) q)
 |List es p=>exact ft λq=>HE (kl (g.ex sc sl ok) q)
 |Dict ks vs p=>
  match ks,vs with
  |[],[]=>exact AP
  |[],_::_=>exact aK
  |_::_,_=>exact aK
 |Subscript v i p=>
  have pl:av Z (n+2) sc sl (gd (n5 i) (eI (c.ex sc sl v) (c.ex sc sl i))) (.Subscript v i p):=ft λq=>PA (g.ex sc sl ok v) (g.ex sc sl ok i) (wR q);cases v with
  |Name x p0=>
   cases i with
   |Slice lo hi st p1=>
    cases st with
    |none=>exact Ml (g.ex sc sl ok _) (uh g ok lo) (uh g ok hi)
    |some=>exact pl
   |_=>exact pl
  |_=>exact pl
 |Attribute v a p=>
  show av Z (n+2) sc sl (match sQ a 44 with
  |some f=>gd (!zX v) (eA (c.ex sc sl v) f)
  |none=>fP) _
  cases h:sQ a 44 with
  |none=>exact aK
  |some f=>exact ft λq=>PD B.KA (fO h).1 (fO h).2 (g.ex sc sl ok v) λenv=>nz (iO q) env
 |ListComp elt gens scope p=>
  cases gens with
  |nil=>exact aK
  |cons y r=>
   obtain⟨t,it,ifs,as⟩:=y;cases ifs with
   |cons=>exact aK
   |nil=>
    cases as with
    |negSucc=>exact aK
    |ofNat m=>
     cases m with
     |succ=>exact aK
     |zero=>
      cases r with
      |cons=>exact aK
      |nil=>exact Dr (T:=T) g ok
 |Call f as kws pos=>
  cases kws with
  |nil=>exact Dt B K g ok
  |cons=>exact aK
 |_=>exact aK
theorem gG {f:Stmt->Ex} (h:∀s,ca Z n sc sl (f s) s):∀(l:List Stmt),jt Z n sc sl (qg f l) l
 |[]=>Fv
 |[s]=>yj (h s)
 |s::t::r=>m7 (h s) (gG h (t::r))
theorem uP (h:(xu x&&l6 sc x)):x="DecodeError"/\sc.names.lookup ("DecodeError":Str)=some .globalImplicit:=by
 exact bI (aW (ay h).1) (⟨rfl,(ew (ay h).2).1⟩)
theorem AC (B:iu Z D) {e:Expr} {pos}:ca Z n sc sl (Dp sc e) (.Raise (some e) none pos):=by
 refine cH (C:=λx=>ca Z n sc sl x _) aD λq h1=>cH (C:=λx=>ca Z n sc sl x _) aD λx h2=>?_;obtain⟨f,as,ks,p⟩:=q;refine aa (Kc h1) (aa (ix h2) ?_)
 match as,ks with
 |[a],[]=>
  refine cH (C:=λx=>ca Z n sc sl x _) aD λs h3=>mD λq=>?_;refine GN (vW h3) λk p ee11=>?_;exact aa ee11 (kN (uP q) λe h=>aa e (zJ B.KX B.dec h))
 |[],_=>exact aD
 |[_],_::_=>exact aD
 |_::_::_,_=>exact aD
theorem Hm (B:iu Z D) (g:jr Z n c) (ok:im sc sl) {b:Stmt} {x:Str} {h:Stmt} {np hp pos}:ca Z (n+2) sc sl (Pl c sc sl b x h) (.Try [b] [.ExceptHandler (some (.Name x np)) none [h] hp] [] [] pos):=by
 refine mD λq=>?_;refine kN (uP q) λee12 hx=>?_;refine aa ee12 ?_;refine cH (C:=λx=>ca Z (n+2) sc sl x _) (cH (C:=λx=>ca Z (n+2) sc sl x _) aD λq h1=>?_) λq h1=>rE (C:=λx=>ca Z (n+2) sc sl x _) (λh2=>mD λq=>?_) aD
 ·obtain⟨e,l,o,p⟩:=q;refine aa (Kb h1) ?_
  match l,o with
  |[s],[]=>
   refine rE (C:=λx=>ca Z (n+2) sc sl x _) (λh2=>?_) aD;refine M1 (uO (ay h2).1) λk p p1 ee13=>?_;rw[ee13];refine kX (GU (ay h2).2) λp3 ee14=>?_;refine aa ee14 ?_;exact Bp B.KX B.dec hx (g.cd sc sl ok _)
  |[],_=>exact aD
  |[_],_::_=>exact aD
  |_::_::_,_=>exact aD
 ·refine M1 (uO h2) λk p p1 ee15=>?_;exact aa ee15 (aa (No h1) (Br B.KX B.dec hx (g.ex sc sl ok _) λenv=>gZ q _ _ _))
end
end
section
section
variable{Z:Zt} {n:Nat} {sc:Scope} {sl:List Str} {D:iL} {T:Tb} {c:Co}
theorem vL {α:Type} {c:Prop} [Decidable c] {x x':Sem α} {y y':Option α} (h:∀r,y=some r->x=pure r) (h':∀r,y'=some r->x'=pure r) (r:α) (q:(if c then y else y')=some r):(if c then x else x')=pure r:=by
 by_cases z:c
 ·rw[if_pos z]at q ⊢;exact h r q
 ·rw[if_neg z]at q ⊢;exact h' r q
theorem Km (env:Env) (ts:List Expr) (kx tp) (v:Expr) (h:Nm v=none):swappedStores [.Tuple ts kx tp] v env=pure none:=
 (λg=>Expr.casesOn v (λ_ _ _ _=>g) (λ_ _ _ _=>g) (λ_ _ _ _ _=>g) (λ_ _ _ _=>g) (λ_ _ _ _ _=>g) (λ_ _ _ _ _=>g) (λ_ _ _ _=>g) (λ_ _ _ _=>g) (λ_ _ _ _ _=>g) (λ_ _ _ _ _=>g) (λ_ _ _ _ _ _=>g) (λ_ _ _ _ _=>g) (λ_ _ _=>g) (λ_ _ _=>g) (λ_ _ _=>g) (λ_ _ _ _ _=>g) (λ_ _ _ _ _=>g) (λ_ _ _ _ _=>g) (λ_ _ _=>g) (λ_ _ _ _=>g) (λ_ _ _ _=>g) (λ_ _ _ _=>g) (λ_ _ _=>g) (λ_ _ _=>g) (λ_ _ _=>g) (λ_ _ _ h=>wT h) (λ_ _ _ _ _=>g) h) rfl
theorem swF_ok (hs:env.scope=sc) {kx tp r} (h:zW sc ts v=some r):swappedStores [.Tuple ts kx tp] v env=pure r:=by
 cases q:Nm v with
 |none=>
  unfold zW at h;rw[q]at h;exact bI (jK h) (Km env ts kx tp v q)
 |some p=>
  unfold zW at h;rw[q]at h;subst hs;refine aa (BD q) ?_;have pu:∀{α:Type} {a:α} (r),some a=some r->(pure a:Sem α)=pure r:=λr h=>by rw[jK h]
  exact vL pu (vL pu (vL pu (vL pu (vL (λr h=>bd h) pu)))) r h
theorem qK (h:jz e) (t:Expr) (l:Nat) (env:Env):swapsWithSole [t] e l env=pure false:=by
 exact gZ h _ _ _
theorem FxOk.swF_ok (F:FxOk Z X n sc) (h:zW sc ts v=some r):swappedStores [.Tuple ts kx tp] v X.env=pure r:=
 AX.swF_ok F.scope h
theorem zV (h:BH (zW sc ts v)):zW sc ts v=some none:=by
 revert h;cases zW sc ts v with
 |none=>intro h;exact ao h
 |some r=>cases r with
  |none=>intro _;rfl
  |some=>intro h;exact ao h
theorem zU (h:BG xs (zW sc ts v)):zW sc ts v=some none\/zW sc ts v=some (some xs):=by
 revert h;cases zW sc ts v with
 |none=>intro h;exact ao h
 |some r=>cases r with
  |none=>intro _;exact .inl rfl
  |some ys=>intro h;exact .inr (by rw[show ys=xs from cg h])
theorem vH (h:pV e=some x):E3 λq a p=>e=.Attribute (.Name x q) a p:=by
 refine aA (gk h) λzz0 h1 h=>?_;obtain⟨o,a,p⟩:=zz0;refine aA (gk h) λzz1 h2 h=>?_;obtain⟨y,q⟩:=zz1;refine gP h ?_;exact⟨q,a,p,by refine aa (nE h1) ?_;rw[show o=_ from ix h2]⟩
theorem Ht:∀{es:List Expr} {fs:List Nat},DC es=some fs->wO x es->vP (λe=>∃p,e=.Name x p) fs es:=by
 intro l0
 induction l0 with
 |nil=>
  intro fs h h1;exact by refine gP h ?_;exact .nil
 |cons e es ih=>
  intro fs h h1;refine bB h1 λh3 h1=>?_;refine aA (nX h1) λy h4 h5=>?_;refine M1 (vH h4) λq a p ee2=>?_;subst ee2;refine aA (gk h) λf h2 h=>?_;refine aA (Option.map_eq_some_iff.mp h) λjs hj ee3=>?_;subst ee3;exact .cons ⟨q,by rw[aW h5]⟩ (fO h2).1 (fO h2).2 (ih hj h3)
theorem Hp (B:iu Z D) (g:jr Z n c) (ok:im sc sl) (hn:jz v):ca Z (n+2) sc sl (Pn c sc sl t v) (.Assign [t] v pos):=by
 cases t with
 |Attribute o a p=>exact cH (C:=λx=>ca Z (n+2) sc sl x _) aD λf h=>J9 B.KS (fO h).1 (fO h).2 (g.ex sc sl ok o) (g.ex sc sl ok v) λenv=>gZ hn _ _ _
 |Subscript o i p=>exact J8 (g.ex sc sl ok o) (g.ex sc sl ok i) (g.ex sc sl ok v) λenv=>gZ hn _ _ _
 |Name x p=>exact rE (C:=λx=>ca Z (n+2) sc sl x _) (λh1=>cH (C:=λx=>ca Z (n+2) sc sl x _) aD λi h2=>Ng (eZ h2) ok.1 (bD h1) (g.ex sc sl ok v) λenv=>gZ hn _ _ _) aD
 |Tuple es k p=>
  refine cH (C:=λx=>ca Z (n+2) sc sl x _) (cH (C:=λx=>ca Z (n+2) sc sl x _) aD λis h=>mD λq=>?_) λx _=>cH (C:=λx=>ca Z (n+2) sc sl x _) aD λi h1=>cH (C:=λx=>ca Z (n+2) sc sl x _) aD λfs h2=>mD λq=>?_
  ·refine bB q λq2 q1=>?_;refine J7 ok.1 (cg q1) (qX h) (g.ex sc sl ok v) (λenv=>qK hn _ _ _) λX F=>?_;rcases zU q2 with q |q
   ·exact .inl (F.swF_ok q)
   ·exact .inr (F.swF_ok q)
  ·refine bB q λq3 q=>?_;refine bB q λq2 q1=>?_;refine Fw B.KS (Ht h2 q2) (λeo he=>?_) (g.ex sc sl ok v) (λenv=>qK hn _ _ _) λX F=>F.swF_ok (zV q3);refine kX he λp ee4=>?_;exact aa ee4 (Jp (eZ h1) (fY q1).1 (fY q1).2)
 |_=>exact aD
theorem Hn (g:jr Z n c) (ok:im sc sl):ca Z (n+2) sc sl (ag (Ki sc sl t) eY λtg=>gs (n7 it) (gC tg (c.ex sc sl it) (qg (c.st sc sl) b))) (.For t it b [] pos):=
 cH (C:=λx=>ca Z (n+2) sc sl x _) aD λtg h=>by
  exact iP (wd ok.1 h) λa1 a2 a3=>mD λq=>yl a2 a1 (g.ex sc sl ok _) (gG (g.st sc sl ok) _) λenv x=>n6 q _ _
theorem LS (B:iu Z D) (g:jr Z n c) (ok:im sc sl) (s:Stmt):ca Z (n+2) sc sl (T8 c sc sl s) s:=by
 cases s with
 |Expr e p=>exact mD λq=>Nf (g.ex sc sl ok _) (λX F=>by unfold interactive;refine aa F.scope (aa F.kind ?_);rfl) (λenv=>gZ q _ _ _) λX F w s Q E h=>PySem.wpAny_dropValue h
 |Pass p=>exact Bv
 |Continue p=>exact Bw
 |Return v p=>
  cases v with
  |none=>exact Bt
  |some e=>exact Ft (g.ex sc sl ok _)
 |Assign ts v p=>
  cases ts with
  |nil=>exact aD
  |cons t r=>
   cases r with
   |nil=>exact mD λq=>Hp B g ok q
   |cons=>exact aD
 |If t b o p=>exact J6 (g.cd sc sl ok _) (gG (g.st sc sl ok) _) (gG (g.st sc sl ok) _)
 |While t b o p=>
  cases o with
  |nil=>exact JZ (g.cd sc sl ok _) (gG (g.st sc sl ok) _)
  |cons=>exact aD
 |For t it b o p=>
  cases o with
  |nil=>exact Hn g ok
  |cons=>exact aD
 |Raise e f p=>
  cases e with
  |none=>exact aD
  |some e=>
   cases f with
   |none=>exact AC B
   |some=>exact aD
 |Try b hs o f p=>
  cases b with
  |nil=>exact aD
  |cons b1 br=>
   cases br with
   |cons=>exact aD
   |nil=>
    cases hs with
    |nil=>exact aD
    |cons h1 hr=>
     obtain⟨ty,nm,hb,hp⟩:=h1;cases ty with
     |none=>exact aD
     |some e=>
      cases nm with
      |some=>exact aD
      |none=>
       cases hb with
       |nil=>exact aD
       |cons y yr=>
        cases yr with
        |cons=>exact aD
        |nil=>
         cases hr with
         |cons=>exact aD
         |nil=>
          cases o with
          |cons=>exact aD
          |nil=>
           cases f with
           |cons=>exact aD
           |nil=>exact cH (C:=λx=>ca Z (n+2) sc sl x _) aD λq h=>aa (ix h) (Hm B g ok)
 |_=>exact aD
theorem Mw (B:iu Z D) (K:dD Z n T) (g:jr Z n c):jr Z n (Uu T c):=
 ⟨λ_ _ ok e=>LU B K g ok e,λ_ _ ok e=>LW g ok e,λ_ _ ok e=>LV g ok e,λ_ _ ok s=>LS B g ok s⟩
theorem rD (B:iu Z D) (K:dD Z n T):∀k,jr Z n (co T k)
 |0=>⟨λ_ _ _ _=>aK,λ_ _ _ _=>dI,λ_ _ _ _=>ly,λ_ _ _ _=>aD⟩
 |k+1=>Mw B K (rD B K k)
end
end
section
noncomputable def IS (w:Nat->Value) (k n:Nat):List Value:=@Nat.rec (λ_=>Nat->List Value) (λ_=>[]) (λ_ i k=>w k::i (k+1)) n k
theorem Lh (n k:Nat) (f:Nat->Value) (ws:List Value) (h:ws.length=n) (q:∀i,i<n->ws[i]?=some (f (k+i))):ws=IS f k n:=by
 induction ws generalizing n k with
 |nil=>subst h;rfl
 |cons w ws ih=>
  subst h;show w::ws=f k::IS f (k+1) ws.length;refine FQ (q 0 (Nat.zero_lt_succ _)) ?_;refine bI (ih ws.length (k+1) rfl λi hi=>?_) rfl;exact aa (Nat.succ_add_eq_add_succ k i) (q (i+1) (Nat.succ_lt_succ hi))
theorem Cu {n:Nat} (h:ws.length=n):ws=IS (λi=>ws.getD i .none) 0 n:=Lh n 0 _ ws h λi hi=>by
 refine aa (Nat.zero_add ..) (aa (iw ..) (aa (List.getElem?_eq_getElem (Nat.lt_of_lt_of_eq hi (id (Eq.symm h))) ..) ?_));rfl
noncomputable def wI (c:Int):Value->Bool |.int c' _=>decide (c=c') |_=>false
def wS (l:List Nat):Value->Bool |.str s _=>jH l s.cps.toList&&bj (λc=>Nat.blt c 128) l |_=>false
noncomputable def wB (b:Bool):Value->Bool |.bool b'=>b==b' |_=>false
noncomputable def wN:Value->Bool |.none=>true |_=>false
def Tu (v:V) (w:Value):Bool:=bx v false (wN w) (λb=>wB b w) (λc ts=>aw ts (wI c w) λ_ _=>false) (λl=>wS l w) (λ_ _ _=>false) (λ_=>false) (λ_=>false) (λ_=>false) (λ_=>false) (λ_ _=>false) (λ_=>false)
theorem Ka {T:cW} {w:Value} (h:Tu v w):VR T rg G v w:=by
 have hI:∀{c},wI c w->∃t,w=.int c t:=λh=>by
  cases w with
  |int c' t=>exact⟨t,by rw[cg h]⟩
  |_=>exact ao h
 revert h;refineλh=>V.sel v h Nl (λh=>?_) (λb h=>?_) (λc h=>?_) (λc ts h=>?_) (λl h=>?_) Nk Nj Ni QS BB BA Bz
 ·cases w with
  |none=>exact .none
  |_=>exact ao h
 ·cases w with
  |bool b'=>exact aa (aW h) (.bool _)
  |_=>exact ao h
 ·exact kX (hI h) λt e=>aa e (.int c t)
 ·cases ts with
  |nil=>exact kX (hI h) λt e=>aa e (.lin c [] c t (.nil _) (Int.add_zero c))
  |cons=>exact ao h
 ·cases w with
  |str s t=>
   refine bB h λh2 h1=>?_;refine aa (yn s) (bI ((bG _ _).mp h1 ..) ?_);rw[bp]at h2;exact .str _ _ λx hx=>aQ (bO.mp h2 x hx)
  |_=>exact ao h
noncomputable def FB:List V->List Value->Bool
 |[],[]=>true
 |v::l,w::ws=>Tu v w&&FB l ws
 |_,_=>false
theorem Fz {T:cW} {l:List V} {ws:List Value} (h:FB l ws):F2 (VR T rg G) l ws:=by
 induction l generalizing ws with
 |nil=>
  cases ws with
  |nil=>exact .nil
  |cons=>exact ao h
 |cons v l ih=>
  cases ws with
  |nil=>exact ao h
  |cons w ws=>exact bB h λh1 h2=>.cons (Ka h2) (ih h1)
noncomputable def ni (K:Frag) (fd:FuncData):Bool:=
 codeIn K fd.code fd.qualname&&(fd.scope.kind==.function)&& !fd.scope.isCoroutine&& !fd.scope.isGenerator&&(fd.globals==mainGlobals)&&(fd.builtins==builtinsNs)&&fd.closure.isEmpty
def UM (fd:FuncData) (sl:List Str) (np:Nat):Bool:=(fd.scope.names.all λp=>!(p.2==.cell))&&(sl.all λx=>bZ fd.scope x .local)&&decide sl.Nodup&&Nat.ble np sl.length
def yd (K:Frag) (S:Setting) (fd:FuncData) (w:Nat->Value) (np:Nat) (nd:Nat):List (Option (List (Str×Value))):=(List.range (nd+1)).map λj=>peek K S (bindArgs fd ⟨IS w 0 (np-j),[]⟩)
def ki (K:Frag) (T:Tb) (fa:Addr) (sl:List Str) (np:Nat) (dfl:List V) (ds:List Value) (w:Nat->Value) (S:Setting):Option (Bool×Option Ex×List (Option (List (Str×Value)))):=
 match K.lookup fa with
 |some ⟨_,_,.func fd,_⟩=>some (ni K fd&&UM fd sl np&&FB dfl ds,(match fd.body with |.stmts body=>some (qg ((co T 40).st fd.scope sl) body) |_=>none),yd K S fd w np dfl.length)
 |_=>none
def kj (b:Ex) (sl:List Str) (np:Nat) (dfl:List V) (ds:List Value) (w:Nat->Value):Option (Bool×Option Ex×List (Option (List (Str×Value)))):=
 some (true,some b,(List.range (dfl.length+1)).map λj=>some ((sl.take np).zip (IS w 0 (np-j)++ds.drop (dfl.length-j))))
theorem xy {o:Obj} (ho:Z.K.lookup fa=some o) (hd:o.data=.func fd) (hb:fd.body=.stmts body) (h:ni Z.K fd):M6 Z fa fd body:=by
 exact kN (ay h) λh h7=>kN (ay h) λh h6=>kN (ay h) λh h5=>kN (ay h) λh h4=>kN (ay h) λh h3=>bB h λh2 h1=>⟨⟨o,ho,hd⟩,hb,λh X=>codeRec_of X h1,aW h2,iO h3,iO h4,aW h5,aW h6,List.isEmpty_iff.mp h7⟩
section
variable{Z:Zt} {n:Nat} {D:iL} {T:Tb}
theorem BC (h:FB l ws):l.length=ws.length:=by
 induction l generalizing ws with
 |nil=>
  cases ws with
  |nil=>rfl
  |cons=>exact ao h
 |cons v l ih=>
  cases ws with
  |nil=>exact ao h
  |cons w ws=>exact congrArg Nat.succ (ih (ay h).2)
theorem Po (B:iu Z D) (KT:dD Z n T) {fa:Addr} {np:Nat} (h:∀w S,ki Z.K T fa sl np dfl ds w S=kj b sl np dfl ds w):gV Z (n+2) ⟨⟨az,b⟩,np,sl.length,dfl⟩ fa:=λna hp=>by
 cases ho:Z.K.lookup fa with
 |none=>have:=h (λ_=>.none) ⟨Z.prog,Z.w.params⟩;unfold ki kj at this;rw[ho]at this;exact bd this
 |some o=>
  obtain⟨oc,od,dat,osl⟩:=o;cases dat with
  |func fd=>
   cases hb:fd.body with
   |stmts body=>
    have h1:=λw S=>h w S;unfold ki kj at h1;simp only[ho,hb]at h1;have e0:=ch (h1 (λ_=>.none) ⟨Z.prog,Z.w.params⟩);refine kN (Prod.mk.inj e0) λe1 e0=>?_;refine kN (Prod.mk.inj e0) λe2 _=>?_;have e2:=ch e2;have eb:∀w S,yd Z.K S fd w np dfl.length=(List.range (dfl.length+1)).map λj=>some ((sl.take np).zip (IS w 0 (np-j)++ds.drop (dfl.length-j))):=λw S=>(Prod.mk.inj (Prod.mk.inj (ch (h1 w S))).2).2;clear h1;refine kN (ay e1) λe1 q3=>?_;refine kN (ay e1) λq1 q2=>?_;refine kN (ay q2) λq2 q7=>?_;refine kN (ay q2) λq2 q6=>?_;refine kN (ay q2) λq4 q5=>?_;have KK:=xy ho rfl hb q1;have q7:=aQ q7;have nd:sl.Nodup:=cg q6;refine kN (ay hp) λp1 p2=>?_;have p1:na<=np:=aQ p1;have p2:np-na<=dfl.length:=aQ p2;have dl:=BC q3;have ht:(sl.take np).length=np:=by rw[List.length_take];exact Nat.min_eq_left q7
    have good:=(rD B KT 40);have hx:jt Z (n+2) fd.scope (sl.take np++sl.drop np) b body:=by
     rw[List.take_append_drop,<-e2];exact gG (good.st fd.scope sl ⟨nd,KK.kind⟩) body
    show iY Z (n+2) ⟨az,b⟩ fa na (dfl.drop (dfl.length-(np-na))++List.replicate (sl.length-np) .unset);have hr:sl.length-np=(sl.drop np).length:=by rw[List.length_drop]
    rw[hr];refine iY.plain (ds:=ds.drop (dfl.length-(np-na))) KK hx (λx hx z=>?_) (λx hx=>?_) (nd.sublist (List.take_sublist ..)) ?_ (λws hw s' X=>?_) λG=>(Fz q3).drop _
    ·have:=bO.mp q4 x hx;rw[z]at this;exact ao this
    ·rw[List.take_append_drop]at hx;exact bD (bO.mp q5 x hx)
    ·rw[ht,List.length_drop,<-dl];lia
    ·refine kp_binds X λS=>?_;have:=congrArg (·[np-na]?) (eb (λi=>ws.getD i .none) S);unfold yd at this;simp only[List.getElem?_map,List.getElem?_range (show np-na<dfl.length+1 by exact Nat.lt_succ_of_le p2),Option.map_some,Option.some.injEq,show np-(np-na)=na by exact Nat.sub_sub_self p1,<-Cu hw]at this;exact this
   |_=>have:=h (λ_=>.none) ⟨Z.prog,Z.w.params⟩;unfold ki kj at this;simp only[ho,hb]at this;exact absurd (Prod.mk.inj (Prod.mk.inj (ch this)).2).1 (λz=>by exact bd z)
  |_=>have:=h (λ_=>.none) ⟨Z.prog,Z.w.params⟩;unfold ki kj at this;rw[ho]at this;exact bd this
end
end
section
noncomputable def kr (k:Nat):Addr:=[46,59,71,83,227,283,318,352,393,446,499,555,731,780,836,1023].getD k 0
noncomputable def MI:List Nat:=[4,5,6,7,8,9,10,11,12,13,14,15]
noncomputable def Ui:List Nat:=List.range 44
theorem Lm:∀c,c<16->3<c->c∈MI:=by unfold MI;decide
theorem IU (h:3<c/\c<16):c∈MI:=Lm c h.2 h.1
theorem P6 {p:Nat->Nat->Bool} (h:(MI.all λc=>Ui.all (p c))) (hc:3<c/\c<16) (hf:f<44):p c f:=
 bO.mp (bO.mp h c (IU hc)) f (List.mem_range.mpr hf)
theorem P7 (h:MI.all p) (hc:3<c/\c<16):p c:=bO.mp h c (IU hc)
def VM (K:Frag) (c f:Nat):Bool:=(match findIn K (.ref (kr c)) (b9 f)with |some a=>noGet K a |none=>false)&&(match takerIn K (kr c) (b9 f)with |some none=>true |_=>false)
def VD (K:Frag) (c:Nat):Bool:=plainGet K (kr c) "name"&&hasDictIn K (kr c)&&plainOver K (kr c)&&decide (findIn K (.ref (kr c)) "__setattr__"=some (some (.builtin "object.__setattr__")))
theorem OJ (P:Params):(MI.all λc=>Ui.all (VM (aI P) c)):=by kernel_rfl
theorem OI (P:Params):MI.all (VD (aI P)):=by kernel_rfl
noncomputable def Me (o:Obj):FuncData:=match o.data with |.func fd=>fd |_=>default
noncomputable def zh (P:Params) (i:Nat):Pos:=([⟨8,8,8,17⟩,⟨8,8,8,26⟩,⟨8,27,8,31⟩,⟨8,33,8,37⟩,⟨8,8,8,38⟩,⟨8,8,8,38⟩,⟨9,8,9,12⟩,⟨9,8,9,17⟩,⟨9,20,9,24⟩,⟨9,8,9,24⟩,⟨10,8,10,12⟩,⟨10,8,10,15⟩,⟨10,18,10,20⟩,⟨10,8,10,20⟩]:List Pos).getD i default
def DJ (P:Params):iL where
 nm:="DecodeError"
 q:="DecodeError"
 N:=82
 bs:=[.ref 46]
 bm:=[.ref 46,.type "Exception",.type "BaseException",.type "object"]
 sn:=[]
 sub:=[]
 ab:=false
 col:=none
 dd:=none
 k0:=some (.ref 74)
 k1:=none
 k2:=some (T "DecodeError" 266)
 k3:=some (T "DecodeError" 274)
 k5:=some (.bool true)
 fI:=36
 fd:=Me (NW P)
 a1:=zh P 0
 a2:=zh P 1
 a3:=zh P 2
 a4:=zh P 3
 a5:=zh P 4
 a6:=zh P 5
 b1:=zh P 6
 b2:=zh P 7
 b3:=zh P 8
 b4:=zh P 9
 c1:=zh P 10
 c2:=zh P 11
 c3:=zh P 12
 c4:=zh P 13
noncomputable def VW (K:Frag) (x:Str):Option (Option Value):=nsIn K mainGlobals x
theorem Vc (P:Params):((aI P).lookup 83,findIn (aI P) (.ref 83) "__init__",(aI P).lookup 36,typeIn (aI P) (.ref 36),findIn (aI P) (.ref 83) "__setattr__",takerIn (aI P) 83 "what",takerIn (aI P) 83 "at",nsIn (aI P) mainGlobals "DecodeError")=
 (some ((DJ P).obj 83),some (some (.ref 36)),some (NW P),some (.type "function"),some (some (.builtin "object.__setattr__")),some none,some none,some (some (.ref 83))):=by kernel_rfl
theorem Sk (P:Params):(NW P).data=.func (Me (NW P)):=by kernel_rfl
theorem Sh (P:Params):(Me (NW P)).body=.stmts (DJ P).body:=by kernel_rfl
def xB (P:Params) (D:iL):Bool:=ni (aI P) D.fd&&bZ D.fd.scope "self" .local&&bZ D.fd.scope "what" .local&&bZ D.fd.scope "at" .local&&(D.fd.scope.names.all λp=>!(p.2==.cell))&&bZ D.fd.scope "Exception" .globalImplicit&&keepIn (aI P) (.ref 83)&&(D.a2.endLine==D.a5.line)&&
 D.bm.contains (.type "Exception")&& !D.bm.contains (.type "AttributeError")&& !D.bm.contains (.type "NameError")&&D.bm.contains (.type "BaseException")&&D.bm.contains (.type "object")
theorem Sj (P:Params):xB P (DJ P):=by kernel_rfl
theorem Si (P:Params) (S:Setting) (a b:Value):(peek (aI P) S (bindArgs (DJ P).fd ⟨[a,b],[]⟩),findCls (aI P) (.type "Exception") (.type "type") "__init__",nsIn (aI P) mainGlobals "Exception")=
 ((some [("self",a),("what",b),("at",.none)],some (CFound.val (.builtin "Exception.__init__")),some none):Option (List (Str×Value))×Option CFound×Option (Option Value)):=by kernel_rfl
def VK (K:Frag):Bool:=tt.all λp=>decide (nsIn K mainGlobals p.1=some none)&&decide (bootBuiltins p.1=some p.2)&& !(p.1==("__name__":Str))
theorem Sv (P:Params):VK (aI P):=by kernel_rfl
theorem Sw:bootBuiltins "Exception"=some (.type "Exception"):=by kernel_rfl
structure jZ (Z:Zt) (P:Params):Prop where
 K:Z.K=aI P
 cls:Z.cls=kr
 rg:Z.rg=555
section
variable{Z:Zt} {P:Params}
theorem P3 (O:jZ Z P):pZ Z:=by
 refine⟨by refine aa O.rg (aa O.cls ?_);rfl,λc hc f hf=>?_,λc hc f hf=>?_⟩
 ·refine aa O.K (aa O.cls ?_);have h:=P7 (OI P) hc;exact bB h λ_ h=>bB h λ_ h=>ay h
 ·refine aa O.K (aa O.cls ?_);have h:=(ay (P6 (OJ P) hc hf)).1;revert h;cases findIn (aI P) (.ref (kr c)) (b9 f)with
  |none=>intro h;exact ao h
  |some a=>intro h;exact⟨a,rfl,h⟩
theorem Ko (O:jZ Z P):mj Z:=by
 refine⟨λc hc=>?_,λc hc f hf=>?_⟩
 ·refine aa O.K (aa O.cls ?_);have h:=P7 (OI P) hc;exact bB h λh4 h=>bB h λh3 h=>⟨cg h4,h3,(ay h).2⟩
 ·refine aa O.K (aa O.cls ?_);have h:=(ay (P6 (OJ P) hc hf)).2;revert h;cases takerIn (aI P) (kr c) (b9 f)with
  |none=>intro h;exact ao h
  |some a=>cases a with
   |none=>intro _;rfl
   |some=>intro h;exact ao h
theorem vC (O:jZ Z P):iu Z (DJ P):=by
 have h:=Vc P;simp only[Prod.mk.injEq]at h;obtain⟨h1,h2,h3,h4,h5,h6,h7,h8⟩:=h;have hx:=Sj P;refine kN (ay hx) λhx x13=>?_;refine kN (ay hx) λhx x12=>?_;refine kN (ay hx) λhx x11=>?_;refine kN (ay hx) λhx x10=>?_;refine kN (ay hx) λhx x9=>?_;refine kN (ay hx) λhx x8=>?_;refine kN (ay hx) λhx x7=>?_;refine kN (ay hx) λhx x6=>?_;refine kN (ay hx) λhx x5=>?_;refine kN (ay hx) λhx x4=>?_;refine bB hx λx3 hx=>?_;refine bB hx λx2 x1=>?_;have c3:Z.cls 3=83:=by refine aa O.cls ?_;rfl
 have kn:=λS a b=>Si P S a b;simp only[Prod.mk.injEq]at kn;have n:=kn ⟨Z.prog,Z.w.params⟩ .none .none;refine⟨P3 O,Ko O,⟨by refine aa c3 (aa O.K ?_);exact h1,⟨x9,iO x10,iO x11⟩,x12,x13,by refine aa c3 (aa O.K ?_);exact h2,xy (by refine aa O.K ?_;exact h3) (Sk P) (Sh P) (by refine aa O.K ?_;exact x1),by refine aa O.K ?_;exact h4,by refine aa c3 (aa O.K ?_);exact h5,λself=>?_,by refine aa c3 (aa O.K ?_);exact h6,
  by refine aa c3 (aa O.K ?_);exact h7,λs' X a b=>kp_binds X λS=>by refine aa O.K ?_;exact(kn S a b).1,bD x2,bD x3,bD x4,λx hx z=>?_,⟨by refine aa O.K ?_;exact n.2.2,Sw,by decide,bD x6,by rfl⟩,by refine aa O.K ?_;exact n.2.1,.of (by refine aa c3 (aa O.K ?_);exact x7),x8⟩,by refine aa c3 (aa O.K ?_);exact h8,λp hp=>?_⟩
 ·show refuseLoop self "__setattr__" [.ref _,.ref 46,.type "Exception",.type "BaseException",.type "object"]=_;refine aa (refuseLoop_ref ..) (aa (refuseLoop_ref ..) ?_);exact PySem.F.store_Exception.passes self
 ·have:=bO.mp x5 x hx;rw[z]at this;exact ao this
 ·have:=bO.mp (Sv P) p hp;exact kN (ay this) λq q3=>bB q λq2 q1=>⟨by refine aa O.K ?_;exact cg q1,cg q2,λz=>by rw[z]at q3;exact ao q3⟩
end
end
section
def PQ (fd:FuncData) (sl:List Str) (xc:Str):Bool:=(sl.all λx=>bZ fd.scope x .local||(x==xc&&bZ fd.scope x .cell))&&decide sl.Nodup
def ic (K:Frag) (T:Tb) (fa:Addr) (sl:List Str) (xc:Str) (w:Nat->Value) (N:Addr):Option (Bool×Option Ex×Sem (List (Str×Value))×List (Str×Addr)):=
 match K.lookup fa with
 |some ⟨_,_,.func fd,_⟩=>some (ni K fd&&PQ fd sl xc,(match fd.body with |.stmts body=>some (qg ((co T 40).st fd.scope sl) body) |_=>none),bindArgs fd ⟨IS w 0 sl.length,[]⟩,cellsFrom N fd.scope.names [])
 |_=>none
def ie (b:Ex) (sl:List Str) (xc:Str) (w:Nat->Value) (N:Addr):Option (Bool×Option Ex×Sem (List (Str×Value))×List (Str×Addr)):=
 some (true,some b,pure (sl.zip (IS w 0 sl.length)),[(xc,N)])
noncomputable def GA (K:Frag) (g:Str) (fa:Addr):Bool:=decide (nsIn K mainGlobals g=some (some (.ref fa)))&&keepIn K (.ref fa)
def Lk (K:Frag) (c:Nat) (m:Str) (fa:Addr):Bool:=plainGet K (kr c) m&&decide (findIn K (.ref (kr c)) m=some (some (.ref fa)))&&isFn K (.ref fa)&&keepIn K (.ref fa)
def LE (K:Frag) (c:Nat) (g:Str) (fa:Addr):Bool:=Nat.blt 3 c&&Nat.blt c 16&&makesIn K (kr c)&&GA K g (kr c)&&decide (findIn K (.ref (kr c)) "__init__"=some (some (.ref fa)))&&isFn K (.ref fa)
noncomputable def Mx (K:Frag) (C m:Str) (a fa:Addr):Bool:=decide (nsIn K mainGlobals C=some (some (.ref a)))&&decide (typeIn K (.ref a)=some (.type "type"))&&readsIn K a (.type "type")&&(match findCls K (.ref a) (.type "type") m with |some (.val (.ref x))=>x==fa |_=>false)&&
 decide (specialIn K (.ref a) "__getattribute__"=some (some (.builtin "type.__getattribute__")))&&keepIn K (.ref fa)
def RU (mid:Nat) (m:Str):Bool:=(Nat.blt mid 44&&decide (m=b9 mid))||(List.range 44).all λf=>!(b9 f==m)
noncomputable def QK (K:Frag) (fa:Addr):List Value:=match K.lookup fa with
 |some ⟨_,_,.func fd,_⟩=>(match fd.defaults with
  |.ref a=>(match K.lookup a with
   |some ⟨_,_,.seq vs _,_⟩=>vs.toList
   |_=>[])
  |_=>[])
 |_=>[]
section
variable{Z:Zt} {P:Params} {n n':Nat} {D:iL}
variable{F:List (Str×kD)} {C:List (Str×Nat×kD)} {M:List (Str×Nat×List (Nat×kD))} {S:List (Str×Str×kD)} {con:List (Str×V)}
theorem dD.base (O:jZ Z P):dD Z n ⟨[],[],[],[],[]⟩:=
 ⟨λg fe e=>(bd e),λg k fe e=>(bd e),λm mid rows e=>(bd e),λC m fe e=>(bd e),λx v e=>(bd e)⟩
def Qi (P:Params) (x:Str) (v:V):Prop:=∃w,nsIn (aI P) mainGlobals x=some (some w)/\∀T rg G,VR T rg G v w
theorem U3 (l:List Char):Str.ofString (String.ofList l)=aj (l.map Char.toNat):=by
 refine aa (Str.ofString_eq_toList ..) (aa String.toList_ofList ?_);rfl
theorem dD.addK (O:jZ Z P) {v:V} (h:Qi P x v) (K:dD Z n ⟨F,C,M,S,con⟩):dD Z n ⟨F,C,M,S,(x,v)::con⟩:=by
 refine⟨K.fns,K.cls,K.mts,K.cms,λx' v' e=>?_⟩;have e:(if(x==x') then some v else fu con x')=some v':=e
 by_cases z:(x==x')
 ·rw[if_pos z]at e;have z:=aW z;refine gP e ?_;subst z;exact aA h λw h1 h2=>⟨w,by refine aa O.K ?_;exact h1,λG=>h2 _ _ G⟩
 ·rw[if_neg z]at e;exact K.con _ _ e
theorem dD.addF (O:jZ Z P) (h:gV Z n' fe fa) (hn:Nat.ble n' n) (hb:GA (aI P) g fa) (K:dD Z n ⟨F,C,M,S,con⟩):dD Z n ⟨(g,fe)::F,C,M,S,con⟩:=by
 refine⟨λg' fe' e=>?_,K.cls,K.mts,K.cms,K.con⟩;have e:(if(g==g') then some fe else fu F g')=some fe':=e
 by_cases z:(g==g')
 ·rw[if_pos z]at e;have z:=aW z;refine gP e ?_;subst z;exact⟨fa,by rw[O.K];exact cg (ay hb).1,by rw[O.K];exact(ay hb).2,h.up (aQ hn)⟩
 ·rw[if_neg z]at e;exact K.fns _ _ e
theorem dD.addC (O:jZ Z P) {k:Nat} {fe:kD} (h:gV Z n' fe fa) (hn:Nat.ble n' n) (hb:LE (aI P) k g fa) (K:dD Z n ⟨F,C,M,S,con⟩):dD Z n ⟨F,(g,k,fe)::C,M,S,con⟩:=by
 refine⟨K.fns,λg' k' fe' e=>?_,K.mts,K.cms,K.con⟩;have e:(if(g==g') then some (k,fe)else fu C g')=some (k',fe'):=e
 by_cases z:(g==g')
 ·rw[if_pos z]at e;have z:=aW z;refine Gc e ?_;subst z;obtain⟨hb,b6⟩:=ay hb;refine bB hb λb5 hb=>?_;refine bB hb λb4 hb=>?_;refine bB hb λb3 hb=>?_;refine bB hb λb2 b1=>?_;refine aa O.K (aa O.cls ?_);exact⟨⟨aQ b1,aQ b2⟩,b3,cg (ay b4).1,(ay b4).2,fa,cg b5,b6,h.up (aQ hn)⟩
 ·rw[if_neg z]at e;exact K.cls _ _ _ e
def kC (Z:Zt) (n:Nat) (m:Str) (rows:List (Nat×kD)):Prop:=∀r∈rows,plainGet Z.K (Z.cls r.1) m/\∃fa,findIn Z.K (.ref (Z.cls r.1)) m=some (some (.ref fa))/\isFn Z.K (.ref fa)/\keepIn Z.K (.ref fa)/\gV Z n r.2 fa
theorem kC.nil:kC Z n m []:=λr hr=>by cases hr
theorem kC.cons (O:jZ Z P) (h:gV Z n' fe fa) (hn:Nat.ble n' n) (hb:Lk (aI P) c m fa) (R:kC Z n m rows):kC Z n m ((c,fe)::rows):=λr hr=>by
 rcases bk.mp hr with rfl |hr
 ·refine aa O.K (aa O.cls ?_);refine bB hb λb4 hb=>?_;obtain⟨hb,b3⟩:=ay hb;exact⟨(ay hb).1,fa,cg (ay hb).2,b3,b4,h.up (aQ hn)⟩
 ·exact R r hr
theorem dD.addM (O:jZ Z P) {mid:Nat} {rows:List (Nat×kD)} (R:kC Z n m rows) (hb:RU mid m) (K:dD Z n ⟨F,C,M,S,con⟩):dD Z n ⟨F,C,(m,mid,rows)::M,S,con⟩:=by
 refine⟨K.fns,K.cls,λm' mid' rows' e=>?_,K.cms,K.con⟩;have e:(if(m==m') then some (mid,rows)else fu M m')=some (mid',rows'):=e
 by_cases z:(m==m')
 ·rw[if_pos z]at e;have z:=aW z;refine Gc e ?_;subst z;refine⟨?_,R⟩;rcases Bool.or_eq_true_iff.mp hb with h |h
  ·exact .inl ⟨aQ (ay h).1,cg (ay h).2⟩
  ·refine .inr λf hf z=>?_;have:=bO.mp h f (List.mem_range.mpr hf);rw[z,beq_self_eq_true]at this;exact ao this
 ·rw[if_neg z]at e;exact K.mts _ _ _ e
theorem dD.addS (O:jZ Z P) {c m:Str} {fa:Addr} (h:gV Z n' fe fa) (hn:Nat.ble n' n) (hb:Mx (aI P) c m a fa) (K:dD Z n ⟨F,C,M,S,con⟩):dD Z n ⟨F,C,M,(c,m,fe)::S,con⟩:=by
 refine⟨K.fns,K.cls,K.mts,λc' m' fe' e=>?_,K.con⟩;have e:(if(c==c'&&m==m') then some fe else zg S c' m')=some fe':=e
 by_cases z:(c==c'&&m==m')
 ·rw[if_pos z]at e;have z1:=aW (ay z).1;have z2:=aW (ay z).2;refine gP e ?_;subst z1 z2;obtain⟨hb,b6⟩:=ay hb;refine kN (ay hb) λhb b5=>?_;refine kN (ay hb) λhb b4=>?_;refine kN (ay hb) λhb b3=>?_;refine bB hb λb2 b1=>?_;refine aa O.K ?_;refine⟨a,fa,cg b1,cg b2,b3,?_,cg b5,b6,h.up (aQ hn)⟩;revert b4;cases findCls (aI P) (.ref a) (.type "type") m with
  |none=>intro h;exact ao h
  |some r=>cases r with
   |val v=>cases v with
    |ref x=>intro h;rw[aW h]
    |_=>intro h;exact ao h
   |_=>intro h;exact ao h
 ·rw[if_neg z]at e;exact K.cms _ _ _ e
theorem Pp (O:jZ Z P) {T:Tb} (KT:dD Z n T) (h:∀w S,ki (aI P) T fa sl np dfl (QK (aI P) fa) w S=kj b sl np dfl (QK (aI P) fa) w) (he:(⟨⟨az,b⟩,np,sl.length,dfl⟩:kD)=e):gV Z (n+2) e fa:=by
 subst he;exact Po (vC O) KT λw S=>aa O.K (h w S)
theorem Md (O:jZ Z P) {T:Tb} (KT:dD Z n T) {sl:List Str} {xc:Str} (h:∀w N,ic (aI P) T fa sl xc w N=ie b sl xc w N) (he:(⟨⟨az,b⟩,sl.length,sl.length,[]⟩:kD)=e):gV Z (n+2) e fa:=λna hp=>by
 subst he;rw[<-O.K]at h;cases ho:Z.K.lookup fa with
 |none=>have:=h (λ_=>.none) 0;unfold ic ie at this;rw[ho]at this;exact bd this
 |some o=>
  obtain⟨oc,od,dat,osl⟩:=o;cases dat with
  |func fd=>
   cases hb:fd.body with
   |stmts body=>
    unfold ic ie at h;simp only[ho,hb]at h;have e0:=ch (h (λ_=>.none) 0);obtain⟨e1,e0⟩:=Prod.mk.inj e0;obtain⟨e2,_⟩:=Prod.mk.inj e0;have e2:=ch e2;have e3:=λw N=>(Prod.mk.inj (Prod.mk.inj (ch (h w N))).2).2;clear h e0;obtain⟨q1,q2⟩:=ay e1;obtain⟨q2,q3⟩:=ay q2;have KK:=xy ho rfl hb q1;obtain⟨p1,p2⟩:=ay hp;have p1:na<=sl.length:=aQ p1;have p2:sl.length-na<=0:=aQ p2;have ea:na=sl.length:=by lia
    have hx:jt Z (n+2) fd.scope sl b body:=by
     rw[<-e2];exact gG ((rD (vC O) KT 40).st fd.scope sl ⟨cg q3,KK.kind⟩) body
    have pe:lS ⟨⟨az,b⟩,sl.length,sl.length,[]⟩ na=[]:=by
     show List.drop _ []++List.replicate (sl.length-sl.length) V.unset=[];rw[List.drop_nil,Nat.sub_self];rfl
    rw[pe];refine iY.cell1 (xc:=xc) KK hx (λx hx=>?_) (λN=>(Prod.mk.inj (e3 (λ_=>.none) N)).2) (cg q3) ea.symm λws hw=>?_
    ·rcases Bool.or_eq_true_iff.mp (bO.mp q2 x hx)with h |h
     ·exact .inl (bD h)
     ·exact .inr ⟨aW (ay h).1,bD (ay h).2⟩
    ·have:=(Prod.mk.inj (e3 (λi=>ws.getD i .none) 0)).1;rw[<-Cu (hw.trans ea)]at this;exact this
   |_=>have:=h (λ_=>.none) 0;unfold ic ie at this;simp only[ho,hb]at this;exact absurd (Prod.mk.inj (Prod.mk.inj (ch this)).2).1 (λz=>by exact bd z)
  |_=>have:=h (λ_=>.none) 0;unfold ic ie at this;rw[ho]at this;exact bd this
end
end
section
noncomputable def Cx:E0:=⟨9,33,36,37,38,35,5,13,0⟩
noncomputable def qE:V:=(V.str [112,120,111,114,58,101,102,32,112,111,114,58,101,98,32,112,97,110,100,58,100,98,32,112,97,110,100,110,58,100,102,32,112,97,100,100,98,58,102,99,32,112,97,100,100,119,58,102,100,32,112,97,100,100,100,58,102,101,32,112,97,100,100,113,58,100,52,32,112,115,117,98,98,58,102,56,32,112,115,117,98,119,58,102,57,32,112,115,117,98,100,58,102,97,32,112,115,117,98,113,58,102,98])
noncomputable def qG:V:=(V.str [112,99,109,112,101,113,98,58,55,52,32,112,99,109,112,101,113,119,58,55,53,32,112,99,109,112,101,113,100,58,55,54])
noncomputable def mc:V:=(V.str [120,111,114,112,115,58,53,55,32,97,110,100,112,115,58,53,52,32,111,114,112,115,58,53,54])
noncomputable def qH:V:=(V.str [112,99,109,112,103,116,98,58,54,52,32,112,99,109,112,103,116,119,58,54,53,32,112,99,109,112,103,116,100,58,54,54])
noncomputable def vt:V:=(V.str [112,97,100,100,115,98,58,101,99,32,112,97,100,100,115,119,58,101,100,32,112,97,100,100,117,115,98,58,100,99,32,112,97,100,100,117,115,119,58,100,100,32,112,115,117,98,115,98,58,101,56,32,112,115,117,98,115,119,58,101,57,32,112,115,117,98,117,115,98,58,100,56,32,112,115,117,98,117,115,119,58,100,57])
noncomputable def MC:V:=(V.str [112,109,105,110,117,98,58,100,97,32,112,109,97,120,117,98,58,100,101,32,112,109,105,110,115,119,58,101,97,32,112,109,97,120,115,119,58,101,101])
noncomputable def xT:V:=(V.str [112,109,117,108,108,119,58,100,53,32,112,109,117,108,104,119,58,101,53,32,112,109,117,108,104,117,119,58,101,52,32,112,109,117,108,117,100,113,58,102,52,32,112,109,97,100,100,119,100,58,102,53,32,112,115,97,100,98,119,58,102,54,32,112,97,118,103,98,58,101,48,32,112,97,118,103,119,58,101,51])
noncomputable def AU:V:=(V.str [112,115,114,108,119,58,100,49,32,112,115,114,108,100,58,100,50,32,112,115,114,108,113,58,100,51,32,112,115,114,97,119,58,101,49,32,112,115,114,97,100,58,101,50,32,112,115,108,108,119,58,102,49,32,112,115,108,108,100,58,102,50,32,112,115,108,108,113,58,102,51])
noncomputable def H5:V:=(V.str [112,117,110,112,99,107,108,98,119,58,54,48,32,112,117,110,112,99,107,108,119,100,58,54,49,32,112,117,110,112,99,107,108,100,113,58,54,50,32,112,117,110,112,99,107,108,113,100,113,58,54,99,32,112,117,110,112,99,107,104,98,119,58,54,56,32,112,117,110,112,99,107,104,119,100,58,54,57,32,112,117,110,112,99,107,104,100,113,58,54,97,32,112,117,110,112,99,107,104,113,100,113,58,54,100])
noncomputable def xV:V:=(V.str [112,97,99,107,115,115,119,98,58,54,51,32,112,97,99,107,117,115,119,98,58,54,55,32,112,97,99,107,115,115,100,119,58,54,98])
noncomputable def ma:V:=(V.str [115,113,114,116,58,53,49,32,97,100,100,58,53,56,32,109,117,108,58,53,57,32,115,117,98,58,53,99,32,109,105,110,58,53,100,32,100,105,118,58,53,101,32,109,97,120,58,53,102])
noncomputable def lx:V:=(V.str [117,110,112,99,107,108,112,58,49,52,32,117,110,112,99,107,104,112,58,49,53,32,97,110,100,110,112,58,53,53])
noncomputable def th:V:=(V.str [114,97,120,32,114,99,120,32,114,100,120,32,114,98,120,32,114,115,112,32,114,98,112,32,114,115,105,32,114,100,105,32,114,56,32,114,57,32,114,49,48,32,114,49,49,32,114,49,50,32,114,49,51,32,114,49,52,32,114,49,53])
noncomputable def te:V:=(V.str [101,97,120,32,101,99,120,32,101,100,120,32,101,98,120,32,101,115,112,32,101,98,112,32,101,115,105,32,101,100,105,32,114,56,100,32,114,57,100,32,114,49,48,100,32,114,49,49,100,32,114,49,50,100,32,114,49,51,100,32,114,49,52,100,32,114,49,53,100])
noncomputable def Te:V:=(V.int (.ofNat 100))
noncomputable def Td:V:=(V.int (.ofNat 101))
noncomputable def mX:V:=(V.int (.ofNat 102))
noncomputable def HZ:V:=(V.int (.ofNat 242))
noncomputable def PR:V:=(V.int (.ofNat 243))
noncomputable def MB:V:=(V.int (.ofNat 240))
noncomputable def Ee:V:=(V.int (.ofNat 15))
noncomputable def pA:V:=(V.int (.ofNat 102))
noncomputable def AV:V:=(V.int (.ofNat 5))
noncomputable def xR:V:=(V.int (.ofNat 4))
noncomputable def xZ:V:=(V.int (.ofNat 5))
noncomputable def xS:V:=(V.int (.ofNat 3))
noncomputable def PS:V:=(V.int (.ofNat 144))
noncomputable def tn:V:=(V.str [97,104,32,99,104,32,100,104,32,98,104])
noncomputable def AW:V:=(V.str [97,108,32,99,108,32,100,108,32,98,108,32,115,112,108,32,98,112,108,32,115,105,108,32,100,105,108])
noncomputable def xY:V:=(V.str [97,120,32,99,120,32,100,120,32,98,120,32,115,112,32,98,112,32,115,105,32,100,105])
noncomputable def xX:V:=(V.str [101,97,120,32,101,99,120,32,101,100,120,32,101,98,120,32,101,115,112,32,101,98,112,32,101,115,105,32,101,100,105])
noncomputable def xW:V:=(V.str [114,97,120,32,114,99,120,32,114,100,120,32,114,98,120,32,114,115,112,32,114,98,112,32,114,115,105,32,114,100,105])
noncomputable def xU:V:=(V.int (.ofNat 4))
noncomputable def Ed:V:=(V.str [97,100,100,32,97,100,99,32,97,110,100,32,111,114,32,115,98,98,32,115,117,98,32,120,111,114,32,105,110,99,32,100,101,99,32,110,101,103,32,110,111,116,32,120,99,104,103,32,120,97,100,100,32,99,109,112,120,99,104,103,32,98,116,115,32,98,116,114,32,98,116,99])
noncomputable def H3:V:=(V.str [109,111,118,115,98,32,109,111,118,115,119,32,109,111,118,115,100,32,109,111,118,115,113,32,115,116,111,115,98,32,115,116,111,115,119,32,115,116,111,115,100,32,115,116,111,115,113,32,108,111,100,115,98,32,108,111,100,115,119,32,108,111,100,115,100,32,108,111,100,115,113])
noncomputable def ya:V:=(V.str [99,109,112,115,98,32,99,109,112,115,119,32,99,109,112,115,100,32,99,109,112,115,113,32,115,99,97,115,98,32,115,99,97,115,119,32,115,99,97,115,100,32,115,99,97,115,113])
noncomputable def qF:V:=(V.int (.ofNat 15))
noncomputable def tj:V:=(V.str [112,97,110,100,58,100,98,32,112,97,110,100,110,58,100,102,32,112,111,114,58,101,98,32,112,120,111,114,58,101,102,32,112,115,117,98,98,58,102,56,32,112,115,117,98,119,58,102,57,32,112,115,117,98,100,58,102,97,32,112,115,117,98,113,58,102,98,32,112,97,100,100,98,58,102,99,32,112,97,100,100,119,58,102,100,32,112,97,100,100,100,58,102,101,32,112,97,100,100,113,58,100,52,32,112,99,109,112,103,116,98,58,54,52,32,112,99,109,112,103,116,119,58,54,53,32,112,99,109,112,103,116,100,58,54,54,32,112,99,109,112,101,113,98,58,55,52,32,112,99,109,112,101,113,119,58,55,53,32,112,99,109,112,101,113,100,58,55,54,32,112,115,114,108,119,58,100,49,32,112,115,114,108,100,58,100,50,32,112,115,114,108,113,58,100,51,32,112,115,114,97,119,58,101,49,32,112,115,114,97,100,58,101,50,32,112,115,108,108,119,58,102,49,32,112,115,108,108,100,58,102,50,32,112,115,108,108,113,58,102,51,32,112,109,117,108,108,119,58,100,53,32,112,109,117,108,104,119,58,101,53,32,112,109,117,108,104,117,119,58,101,52,32,112,109,117,108,117,100,113,58,102,52,32,112,109,97,100,100,119,100,58,102,53,32,112,115,97,100,98,119,58,102,54,32,112,97,118,103,98,58,101,48,32,112,97,118,103,119,58,101,51,32,112,109,105,110,117,98,58,100,97,32,112,109,97,120,117,98,58,100,101,32,112,109,105,110,115,119,58,101,97,32,112,109,97,120,115,119,58,101,101,32,112,117,110,112,99,107,108,98,119,58,54,48,32,112,117,110,112,99,107,108,119,100,58,54,49,32,112,117,110,112,99,107,108,100,113,58,54,50,32,112,97,99,107,115,115,119,98,58,54,51,32,112,97,99,107,117,115,119,98,58,54,55,32,112,117,110,112,99,107,104,98,119,58,54,56,32,112,117,110,112,99,107,104,119,100,58,54,57,32,112,117,110,112,99,107,104,100,113,58,54,97,32,112,97,99,107,115,115,100,119,58,54,98,32,112,117,110,112,99,107,108,113,100,113,58,54,99,32,112,117,110,112,99,107,104,113,100,113,58,54,100,32,112,115,117,98,117,115,98,58,100,56,32,112,115,117,98,117,115,119,58,100,57,32,112,97,100,100,117,115,98,58,100,99,32,112,97,100,100,117,115,119,58,100,100,32,112,115,117,98,115,98,58,101,56,32,112,115,117,98,115,119,58,101,57,32,112,97,100,100,115,98,58,101,99,32,112,97,100,100,115,119,58,101,100])
def ky:Fn:=⟨az,(ac (xA (Tg.n 2) (qe (eL 0) (eK V.none) (eK (V.int (.ofNat 24))))) (ac (bN (cC Bh (eL 1) (ko (eL 2))) (au (eI (eL 2) (eL 1))) aE) (ac (xA (Tg.n 3) (eK (V.int (.ofNat 1)))) (ac (gC (Tg.n 4) (eL 2) (xA (Tg.n 3) (eB cK (eB aO (eB fF (eL 3) (eK (V.int (.ofNat 31)))) (eL 4)) (eK (V.int (.ofNat 1000003)))))) (au (eB cK (eB ul (eB aO (eB aO (eB fF (eL 3) (eK (V.int (.ofNat 48271)))) (eB fF (eB fF (eL 1) (eL 1)) (eK (V.int (.ofNat 69621))))) (eK (V.int (.ofNat 12345)))) (eK (V.int (.ofNat 3)))) (eK (V.int (.ofNat 100000000000031)))))))))⟩
def kz:Fn:=⟨az,(au (eC (cC vw (eL 0) (aF [(eK (V.str [97,108])),(eK (V.str [97,120])),(eK (V.str [101,97,120])),(eK (V.str [114,97,120])),(eK (V.str [99,108])),(eK (V.str [100,120]))]))))⟩
def ez:Fn:=⟨az,(au (eC (cC vw (eK (V.str [105,109,109])) (eL 0))))⟩
def eW:Fn:=⟨az,(au (eC (cC ce (qe (eL 0) (eK V.none) (eK (V.int (.ofNat 3)))) (eK (V.str [114,101,108])))))⟩
def gt:Fn:=⟨az,(au (eC (pB [(cC ce (qe (eL 0) (eK V.none) (eK (V.int (.ofNat 1)))) (eK (V.str [109]))),(cC ce (qe (eL 0) (eK V.none) (eK (V.int (.ofNat 2)))) (eK (V.str [114,109]))),(cC ce (qe (eL 0) (eK V.none) (eK (V.int (.ofNat 2)))) (eK (V.str [120,109])))])))⟩
def rH:Fn:=⟨az,(ac (bN (pB [(cT (eF kz [(eL 0)] [])),(cC ce (eL 0) (eK (V.str [111,110,101])))]) (au (eK (V.str [102,105,120,101,100]))) aE) (ac (bN (cT (eF ez [(eL 0)] [])) (au (eK (V.str [105,109,109]))) aE) (ac (bN (cT (eF eW [(eL 0)] [])) (au (eK (V.str [114,101,108]))) aE) (ac (bN (cT (eF gt [(eL 0)] [])) (au (eK (V.str [114,109]))) aE) (au (lJ (cC ce (qe (eL 0) (eK V.none) (eK (V.int (.ofNat 1)))) (eK (V.str [111]))) (eK (V.str [112,108,117,115])) (eK (V.str [114,101,103]))))))))⟩
def aC:Fn:=⟨az,(ac (dE (eL 0) 0 (eL 1)) (ac (dE (eL 0) 1 (km (eL 2))) (ac (dE (eL 0) 2 (eL 3)) (ac (dE (eL 0) 3 (eL 4)) (ac (dE (eL 0) 4 (eL 5)) (ac (dE (eL 0) 5 (eL 6)) (ac (dE (eL 0) 6 (eL 7)) (ac (dE (eL 0) 7 (eL 8)) (ac (dE (eL 0) 8 (dH (eK (V.int (.ofNat 1))))) (dE (eL 0) 9 (km (jO 2 [] (Tg.n 1) (eA (eL 0) 1) (eF rH [(eL 1)] [])))))))))))))⟩
def bT:Fn:=⟨az,(au (dk [(bz 4 aC [(eL 0),(aF [(eK (V.str [120])),(eL 4)]),(eL 1),(eK (V.int (.ofNat 1))),(dH (eK (V.int (.ofNat 1)))),(eK (V.int (.ofNat 0))),(eL 3)] [(V.bool false)]),(bz 4 aC [(eL 0),(aF [(eL 4),(eK (V.str [120]))]),(eL 2),(eK (V.int (.ofNat 1))),(dH (eK (V.int (.ofNat 1)))),(eK (V.int (.ofNat 0))),(eL 3)] [(V.bool false)])]))⟩
def mH:Fn:=⟨az,(ac (xA (Tg.n 0) (eF bT [(eK (V.str [109,111,118,97,112,115])),(eK (V.int (.ofNat 40))),(eK (V.int (.ofNat 41))),(eK (V.int (.ofNat 0))),(eK (V.str [120,109,49,50,56]))] [])) (ac (xA (Tg.n 0) (eB aO (eL 0) (eF bT [(eK (V.str [109,111,118,117,112,115])),(eK (V.int (.ofNat 16))),(eK (V.int (.ofNat 17))),(eK (V.int (.ofNat 0))),(eK (V.str [120,109,49,50,56]))] []))) (ac (xA (Tg.n 0) (eB aO (eL 0) (eF bT [(eK (V.str [109,111,118,115,115])),(eK (V.int (.ofNat 16))),(eK (V.int (.ofNat 17))),(eK (V.int (.ofNat 243))),(eK (V.str [120,109,51,50]))] []))) (ac (xA (Tg.n 0) (eB aO (eL 0) (eF bT [(eK (V.str [109,111,118,115,100])),(eK (V.int (.ofNat 16))),(eK (V.int (.ofNat 17))),(eK (V.int (.ofNat 242))),(eK (V.str [120,109,54,52]))] []))) (ac (xA (Tg.n 0) (eB aO (eL 0) (eF bT [(eK (V.str [109,111,118,100,113,97])),(eK (V.int (.ofNat 111))),(eK (V.int (.ofNat 127))),(eK (V.int (.ofNat 102))),(eK (V.str [120,109,49,50,56]))] []))) (ac (xA (Tg.n 0) (eB aO (eL 0) (eF bT [(eK (V.str [109,111,118,100,113,117])),(eK (V.int (.ofNat 111))),(eK (V.int (.ofNat 127))),(eK (V.int (.ofNat 243))),(eK (V.str [120,109,49,50,56]))] []))) (ac (xE (aH (eL 0) (bz 4 aC [(eK (V.str [109,111,118,100])),(aF [(eK (V.str [120])),(eK (V.str [114,109,51,50]))]),(eK (V.int (.ofNat 110))),(eK (V.int (.ofNat 1))),(dH (eK (V.int (.ofNat 1)))),(eK (V.int (.ofNat 32))),(eK (V.int (.ofNat 102)))] [(V.bool false)]))) (ac (xE (aH (eL 0) (bz 4 aC [(eK (V.str [109,111,118,100])),(aF [(eK (V.str [114,109,51,50])),(eK (V.str [120]))]),(eK (V.int (.ofNat 126))),(eK (V.int (.ofNat 1))),(dH (eK (V.int (.ofNat 1)))),(eK (V.int (.ofNat 32))),(eK (V.int (.ofNat 102)))] [(V.bool false)]))) (ac (xE (aH (eL 0) (bz 4 aC [(eK (V.str [109,111,118,113])),(aF [(eK (V.str [120])),(eK (V.str [120,109,54,52]))]),(eK (V.int (.ofNat 126))),(eK (V.int (.ofNat 1))),(dH (eK (V.int (.ofNat 1)))),(eK (V.int (.ofNat 0))),(eK (V.int (.ofNat 243)))] [(V.bool false)]))) (ac (xE (aH (eL 0) (bz 4 aC [(eK (V.str [109,111,118,113])),(aF [(eK (V.str [120,109,54,52])),(eK (V.str [120]))]),(eK (V.int (.ofNat 214))),(eK (V.int (.ofNat 1))),(dH (eK (V.int (.ofNat 1)))),(eK (V.int (.ofNat 0))),(eK (V.int (.ofNat 102)))] [(V.bool false)]))) (ac (xE (aH (eL 0) (bz 4 aC [(eK (V.str [109,111,118,113])),(aF [(eK (V.str [120])),(eK (V.str [114,109,54,52]))]),(eK (V.int (.ofNat 110))),(eK (V.int (.ofNat 1))),(dH (eK (V.int (.ofNat 1)))),(eK (V.int (.ofNat 64))),(eK (V.int (.ofNat 102)))] [(V.bool false)]))) (ac (xE (aH (eL 0) (bz 4 aC [(eK (V.str [109,111,118,113])),(aF [(eK (V.str [114,109,54,52])),(eK (V.str [120]))]),(eK (V.int (.ofNat 126))),(eK (V.int (.ofNat 1))),(dH (eK (V.int (.ofNat 1)))),(eK (V.int (.ofNat 64))),(eK (V.int (.ofNat 102)))] [(V.bool false)]))) (au (eL 0))))))))))))))⟩
def ij:Fn:=⟨az,(ac (xA (Tg.n 1) (dk [])) (ac (gC (Tg.n 2) (gp (eL 0) 32) (ac (xA (Tg.t [3,4]) (gp (eL 2) 58)) (xE (aH (eL 1) (aF [(eL 3),(sU (eL 4))]))))) (au (eL 1))))⟩
def jE:Fn:=⟨az,(au (jO 3 [1] (Tg.t [1,2]) (eF ij [(eL 0)] [.unset,.unset,.unset,.unset]) (bz 4 aC [(eL 1),(aF [(eK (V.str [120])),(eK (V.str [120,109,49,50,56]))]),(eL 2),(eK (V.int (.ofNat 1))),(dH (eK (V.int (.ofNat 1)))),(eK (V.int (.ofNat 0))),(eL 3)] [(V.bool false)])))⟩
def jk:Fn:=⟨az,(au (eB aO (eB aO (eB aO (eF mH [] [.unset]) (eF jE [(eK (V.str [112,120,111,114,58,101,102,32,112,111,114,58,101,98,32,112,97,110,100,58,100,98,32,112,97,110,100,110,58,100,102,32,112,97,100,100,98,58,102,99,32,112,97,100,100,119,58,102,100,32,112,97,100,100,100,58,102,101,32,112,97,100,100,113,58,100,52,32,112,115,117,98,98,58,102,56,32,112,115,117,98,119,58,102,57,32,112,115,117,98,100,58,102,97,32,112,115,117,98,113,58,102,98])),(eK (V.int (.ofNat 102)))] [])) (eF jE [(eK (V.str [112,99,109,112,101,113,98,58,55,52,32,112,99,109,112,101,113,119,58,55,53,32,112,99,109,112,101,113,100,58,55,54])),(eK (V.int (.ofNat 102)))] [])) (eF jE [(eK (V.str [120,111,114,112,115,58,53,55,32,97,110,100,112,115,58,53,52,32,111,114,112,115,58,53,54])),(eK (V.int (.ofNat 0)))] [])))⟩
def lD:Fn:=⟨az,(ac (xA (Tg.n 0) (dk [])) (ac (gC (Tg.t [1,2,3]) (aF [(aF [(eK (V.str [109,111,118,108,112,115])),(eK (V.int (.ofNat 0))),(eK (V.int (.ofNat 18)))]),(aF [(eK (V.str [109,111,118,104,112,115])),(eK (V.int (.ofNat 0))),(eK (V.int (.ofNat 22)))]),(aF [(eK (V.str [109,111,118,108,112,100])),(eK (V.int (.ofNat 102))),(eK (V.int (.ofNat 18)))]),(aF [(eK (V.str [109,111,118,104,112,100])),(eK (V.int (.ofNat 102))),(eK (V.int (.ofNat 22)))])]) (xA (Tg.n 0) (eB aO (eL 0) (eF bT [(eL 1),(eL 3),(eB aO (eL 3) (eK (V.int (.ofNat 1)))),(eL 2),(eK (V.str [109,54,52]))] [])))) (ac (xE (aH (eL 0) (bz 4 aC [(eK (V.str [109,111,118,110,116,112,115])),(aF [(eK (V.str [109,49,50,56])),(eK (V.str [120]))]),(eK (V.int (.ofNat 43))),(eK (V.int (.ofNat 1))),(dH (eK (V.int (.ofNat 1)))),(eK (V.int (.ofNat 0))),(eK (V.int (.ofNat 0)))] [(V.bool false)]))) (ac (xE (aH (eL 0) (bz 4 aC [(eK (V.str [109,111,118,110,116,100,113])),(aF [(eK (V.str [109,49,50,56])),(eK (V.str [120]))]),(eK (V.int (.ofNat 231))),(eK (V.int (.ofNat 1))),(dH (eK (V.int (.ofNat 1)))),(eK (V.int (.ofNat 0))),(eK (V.int (.ofNat 102)))] [(V.bool false)]))) (ac (xE (aH (eL 0) (bz 4 aC [(eK (V.str [109,111,118,110,116,105])),(aF [(eK (V.str [109,51,50])),(eK (V.str [114,51,50]))]),(eK (V.int (.ofNat 195))),(eK (V.int (.ofNat 1))),(dH (eK (V.int (.ofNat 1)))),(eK (V.int (.ofNat 32))),(eK (V.int (.ofNat 0)))] [(V.bool false)]))) (ac (xE (aH (eL 0) (bz 4 aC [(eK (V.str [109,111,118,110,116,105])),(aF [(eK (V.str [109,54,52])),(eK (V.str [114,54,52]))]),(eK (V.int (.ofNat 195))),(eK (V.int (.ofNat 1))),(dH (eK (V.int (.ofNat 1)))),(eK (V.int (.ofNat 64))),(eK (V.int (.ofNat 0)))] [(V.bool false)]))) (au (eL 0))))))))⟩
def jn:Fn:=⟨az,(ac (xA (Tg.n 0) (dk [])) (ac (gC (Tg.n 1) (aF [(eK (V.str [112,99,109,112,103,116,98,58,54,52,32,112,99,109,112,103,116,119,58,54,53,32,112,99,109,112,103,116,100,58,54,54])),(eK (V.str [112,97,100,100,115,98,58,101,99,32,112,97,100,100,115,119,58,101,100,32,112,97,100,100,117,115,98,58,100,99,32,112,97,100,100,117,115,119,58,100,100,32,112,115,117,98,115,98,58,101,56,32,112,115,117,98,115,119,58,101,57,32,112,115,117,98,117,115,98,58,100,56,32,112,115,117,98,117,115,119,58,100,57])),(eK (V.str [112,109,105,110,117,98,58,100,97,32,112,109,97,120,117,98,58,100,101,32,112,109,105,110,115,119,58,101,97,32,112,109,97,120,115,119,58,101,101])),(eK (V.str [112,109,117,108,108,119,58,100,53,32,112,109,117,108,104,119,58,101,53,32,112,109,117,108,104,117,119,58,101,52,32,112,109,117,108,117,100,113,58,102,52,32,112,109,97,100,100,119,100,58,102,53,32,112,115,97,100,98,119,58,102,54,32,112,97,118,103,98,58,101,48,32,112,97,118,103,119,58,101,51])),(eK (V.str [112,115,114,108,119,58,100,49,32,112,115,114,108,100,58,100,50,32,112,115,114,108,113,58,100,51,32,112,115,114,97,119,58,101,49,32,112,115,114,97,100,58,101,50,32,112,115,108,108,119,58,102,49,32,112,115,108,108,100,58,102,50,32,112,115,108,108,113,58,102,51])),(eK (V.str [112,117,110,112,99,107,108,98,119,58,54,48,32,112,117,110,112,99,107,108,119,100,58,54,49,32,112,117,110,112,99,107,108,100,113,58,54,50,32,112,117,110,112,99,107,108,113,100,113,58,54,99,32,112,117,110,112,99,107,104,98,119,58,54,56,32,112,117,110,112,99,107,104,119,100,58,54,57,32,112,117,110,112,99,107,104,100,113,58,54,97,32,112,117,110,112,99,107,104,113,100,113,58,54,100])),(eK (V.str [112,97,99,107,115,115,119,98,58,54,51,32,112,97,99,107,117,115,119,98,58,54,55,32,112,97,99,107,115,115,100,119,58,54,98]))]) (xA (Tg.n 0) (eB aO (eL 0) (eF jE [(eL 1),(eK (V.int (.ofNat 102)))] [])))) (ac (gC (Tg.t [2,3]) (aF [(aF [(eK (V.str [112,115,104,117,102,100])),(eK (V.int (.ofNat 102)))]),(aF [(eK (V.str [112,115,104,117,102,108,119])),(eK (V.int (.ofNat 242)))]),(aF [(eK (V.str [112,115,104,117,102,104,119])),(eK (V.int (.ofNat 243)))])]) (xE (aH (eL 0) (bz 4 aC [(eL 2),(aF [(eK (V.str [120])),(eK (V.str [120,109,49,50,56])),(eK (V.str [117,105,109,109,56]))]),(eK (V.int (.ofNat 112))),(eK (V.int (.ofNat 1))),(dH (eK (V.int (.ofNat 1)))),(eK (V.int (.ofNat 0))),(eL 3)] [(V.bool false)])))) (au (eB aO (eL 0) (eF lD [] [.unset,.unset,.unset,.unset]))))))⟩
def mh:Fn:=⟨az,(au (dk [(aF [(eK (V.str [112,115])),(eK (V.int (.ofNat 0))),(eK (V.str [120,109,49,50,56]))]),(aF [(eK (V.str [112,100])),(eK (V.int (.ofNat 102))),(eK (V.str [120,109,49,50,56]))]),(aF [(eK (V.str [115,115])),(eK (V.int (.ofNat 243))),(eK (V.str [120,109,51,50]))]),(aF [(eK (V.str [115,100])),(eK (V.int (.ofNat 242))),(eK (V.str [120,109,54,52]))])]))⟩
def mK:Fn:=⟨az,(ac (xA (Tg.n 0) (dk [(aF [(eK (V.str [99,118,116,112,115,50,112,100])),(eK (V.int (.ofNat 0))),(eK (V.int (.ofNat 90))),(eK (V.str [120,109,54,52]))]),(aF [(eK (V.str [99,118,116,112,100,50,112,115])),(eK (V.int (.ofNat 102))),(eK (V.int (.ofNat 90))),(eK (V.str [120,109,49,50,56]))]),(aF [(eK (V.str [99,118,116,115,115,50,115,100])),(eK (V.int (.ofNat 243))),(eK (V.int (.ofNat 90))),(eK (V.str [120,109,51,50]))]),(aF [(eK (V.str [99,118,116,115,100,50,115,115])),(eK (V.int (.ofNat 242))),(eK (V.int (.ofNat 90))),(eK (V.str [120,109,54,52]))]),(aF [(eK (V.str [99,118,116,100,113,50,112,115])),(eK (V.int (.ofNat 0))),(eK (V.int (.ofNat 91))),(eK (V.str [120,109,49,50,56]))]),(aF [(eK (V.str [99,118,116,112,115,50,100,113])),(eK (V.int (.ofNat 102))),(eK (V.int (.ofNat 91))),(eK (V.str [120,109,49,50,56]))]),(aF [(eK (V.str [99,118,116,116,112,115,50,100,113])),(eK (V.int (.ofNat 243))),(eK (V.int (.ofNat 91))),(eK (V.str [120,109,49,50,56]))])])) (au (jO 5 [] (Tg.t [1,2,3,4]) (eL 0) (bz 4 aC [(eL 1),(aF [(eK (V.str [120])),(eL 4)]),(eL 3),(eK (V.int (.ofNat 1))),(dH (eK (V.int (.ofNat 1)))),(eK (V.int (.ofNat 0))),(eL 2)] [(V.bool false)]))))⟩
def jX:Fn:=⟨az,(ac (xA (Tg.n 0) (dk [])) (ac (gC (Tg.t [1,2]) (eF ij [(eK (V.str [115,113,114,116,58,53,49,32,97,100,100,58,53,56,32,109,117,108,58,53,57,32,115,117,98,58,53,99,32,109,105,110,58,53,100,32,100,105,118,58,53,101,32,109,97,120,58,53,102]))] [.unset,.unset,.unset,.unset]) (gC (Tg.t [3,4,5]) (eF mh [] []) (xE (aH (eL 0) (bz 4 aC [(eB aO (eL 1) (eL 3)),(aF [(eK (V.str [120])),(eL 5)]),(eL 2),(eK (V.int (.ofNat 1))),(dH (eK (V.int (.ofNat 1)))),(eK (V.int (.ofNat 0))),(eL 4)] [(V.bool false)]))))) (ac (gC (Tg.t [3,4,5]) (eF mh [] []) (xE (aH (eL 0) (bz 4 aC [(eB aO (eK (V.str [99,109,112])) (eL 3)),(aF [(eK (V.str [120])),(eL 5),(eK (V.str [117,105,109,109,56]))]),(eK (V.int (.ofNat 194))),(eK (V.int (.ofNat 1))),(dH (eK (V.int (.ofNat 1)))),(eK (V.int (.ofNat 0))),(eL 4)] [(V.bool false)])))) (ac (gC (Tg.t [1,2]) (eF ij [(eK (V.str [117,110,112,99,107,108,112,58,49,52,32,117,110,112,99,107,104,112,58,49,53,32,97,110,100,110,112,58,53,53]))] [.unset,.unset,.unset,.unset]) (ac (xE (aH (eL 0) (bz 4 aC [(eB aO (eL 1) (eK (V.str [115]))),(aF [(eK (V.str [120])),(eK (V.str [120,109,49,50,56]))]),(eL 2),(eK (V.int (.ofNat 1))),(dH (eK (V.int (.ofNat 1)))),(eK (V.int (.ofNat 0))),(eK (V.int (.ofNat 0)))] [(V.bool false)]))) (xE (aH (eL 0) (bz 4 aC [(eB aO (eL 1) (eK (V.str [100]))),(aF [(eK (V.str [120])),(eK (V.str [120,109,49,50,56]))]),(eL 2),(eK (V.int (.ofNat 1))),(dH (eK (V.int (.ofNat 1)))),(eK (V.int (.ofNat 0))),(eK (V.int (.ofNat 102)))] [(V.bool false)]))))) (ac (xA (Tg.n 0) (eB aO (eL 0) (eF jE [(eK (V.str [97,110,100,112,100,58,53,52,32,111,114,112,100,58,53,54,32,120,111,114,112,100,58,53,55])),(eK (V.int (.ofNat 102)))] []))) (ac (xA (Tg.n 0) (eB aO (eB aO (eL 0) (eF bT [(eK (V.str [109,111,118,97,112,100])),(eK (V.int (.ofNat 40))),(eK (V.int (.ofNat 41))),(eK (V.int (.ofNat 102))),(eK (V.str [120,109,49,50,56]))] [])) (eF bT [(eK (V.str [109,111,118,117,112,100])),(eK (V.int (.ofNat 16))),(eK (V.int (.ofNat 17))),(eK (V.int (.ofNat 102))),(eK (V.str [120,109,49,50,56]))] []))) (ac (gC (Tg.t [1,2]) (eF ij [(eK (V.str [117,99,111,109,105,115,58,50,101,32,99,111,109,105,115,58,50,102]))] [.unset,.unset,.unset,.unset]) (ac (xE (aH (eL 0) (bz 4 aC [(eB aO (eL 1) (eK (V.str [115]))),(aF [(eK (V.str [120])),(eK (V.str [120,109,51,50]))]),(eL 2),(eK (V.int (.ofNat 1))),(dH (eK (V.int (.ofNat 1)))),(eK (V.int (.ofNat 0))),(eK (V.int (.ofNat 0)))] [(V.bool false)]))) (xE (aH (eL 0) (bz 4 aC [(eB aO (eL 1) (eK (V.str [100]))),(aF [(eK (V.str [120])),(eK (V.str [120,109,54,52]))]),(eL 2),(eK (V.int (.ofNat 1))),(dH (eK (V.int (.ofNat 1)))),(eK (V.int (.ofNat 0))),(eK (V.int (.ofNat 102)))] [(V.bool false)]))))) (ac (xE (aH (eL 0) (bz 4 aC [(eK (V.str [115,104,117,102,112,115])),(aF [(eK (V.str [120])),(eK (V.str [120,109,49,50,56])),(eK (V.str [117,105,109,109,56]))]),(eK (V.int (.ofNat 198))),(eK (V.int (.ofNat 1))),(dH (eK (V.int (.ofNat 1)))),(eK (V.int (.ofNat 0))),(eK (V.int (.ofNat 0)))] [(V.bool false)]))) (ac (xE (aH (eL 0) (bz 4 aC [(eK (V.str [115,104,117,102,112,100])),(aF [(eK (V.str [120])),(eK (V.str [120,109,49,50,56])),(eK (V.str [117,105,109,109,56]))]),(eK (V.int (.ofNat 198))),(eK (V.int (.ofNat 1))),(dH (eK (V.int (.ofNat 1)))),(eK (V.int (.ofNat 0))),(eK (V.int (.ofNat 102)))] [(V.bool false)]))) (au (eB aO (eL 0) (eF mK [] [.unset]))))))))))))⟩
def ku:Fn:=⟨az,(ac (bN (cC ce (eL 0) (eK (V.int (.ofNat 0)))) (au (eF jk [] [])) aE) (au (lJ (cC ce (eL 0) (eK (V.int (.ofNat 1)))) (eF jn [] [.unset,.unset,.unset,.unset]) (eF jX [] [.unset,.unset,.unset,.unset,.unset,.unset]))))⟩
def iT:Fn:=⟨az,(au (eC (cC vw (eK (V.str [112,108,117,115])) (eA (eL 0) 9))))⟩
def pP:Fn:=⟨az,(ac (bN (jJ (cT (eM 999 (eL 0) [(4,iT,[])] []))) (au (dk [(aF [(eA (eL 0) 6),(eA (eL 0) 3),(eA (eL 0) 2)])])) aE) (au (jO 2 [0] (Tg.n 1) (pv (eK (V.int (.ofNat 8)))) (aF [(eA (eL 2) 6),(eA (eL 2) 3),(eB aO (eA (eL 2) 2) (eL 1))]))))⟩
def eJ:Fn:=⟨az,(ac (dE (eL 0) 10 (pw (eL 1))) (ac (dE (eL 0) 11 sV) (ac (dE (eL 0) 12 sV) (gC (Tg.n 2) (pv (ko (eA (eL 0) 10))) (ac (xA (Tg.n 3) (eI (eA (eL 0) 10) (eL 2))) (ac (dE (eL 3) 8 (eL 2)) (ac (bN (cC pC (eA (eL 3) 0) (eA (eL 0) 11)) (Nh (eA (eL 0) 11) (eA (eL 3) 0) (dk [])) aE) (ac (xE (aH (eI (eA (eL 0) 11) (eA (eL 3) 0)) (eL 3))) (gC (Tg.n 4) (eF pP [(eL 3)] []) (ac (bN (cC pC (eL 4) (eA (eL 0) 12)) (Nh (eA (eL 0) 12) (eL 4) (dk [])) aE) (xE (aH (eI (eA (eL 0) 12) (eL 4)) (eL 3)))))))))))))⟩
def dB:Fn:=⟨az,(au (aF [(eA (eL 0) 0),(eA (eL 0) 1),(eA (eL 0) 2),(eA (eL 0) 3),(eA (eL 0) 4),(eA (eL 0) 5),(eA (eL 0) 6),(eA (eL 0) 7)]))⟩
def pS:Fn:=⟨az,(au (aF [(eK (V.str [114,101,103])),(eA (eA (eL 0) 34) 0)]))⟩
def pT:Fn:=⟨az,(ac (xA (Tg.n 1) (QJ 0 36 (lJ (zx (eA (eL 0) 36)) (eK (V.str [])) (eA (eA (eL 0) 36) 0)))) (ac (xA (Tg.n 2) (QJ 0 37 (lJ (zx (eA (eL 0) 37)) (eK (V.str [])) (eA (eA (eL 0) 37) 0)))) (au (aF [(eK (V.str [109,101,109])),(eL 1),(eL 2),(eA (eL 0) 38),(eA (eL 0) 35),(eA (eL 0) 5),(eA (eL 0) 13),(eA (eL 0) 0)]))))⟩
def pU:Fn:=⟨az,(au (aF [(eK (V.str [105,109,109])),(eA (eL 0) 35),(eA (eL 0) 0)]))⟩
def be:Fn:=⟨az,(au (aF [(eA (eL 0) 0),(eA (eL 0) 40),(km (jO 2 [] (Tg.n 1) (eA (eL 0) 39) (eM 999 (eL 1) [(6,pS,[]),(9,pT,[.unset,.unset]),(7,pU,[])] [])))]))⟩
def jo:Fn:=⟨az,(ac (bN (cC vw (eL 0) (aF [(eK (V.str [114,51,50])),(eK (V.str [114,109,51,50]))])) (au (aF [(eK (V.str [114,101,103])),(eI (gp (eK (V.str [101,97,120,32,101,99,120,32,101,100,120,32,101,98,120,32,101,115,112,32,101,98,112,32,101,115,105,32,101,100,105,32,114,56,100,32,114,57,100,32,114,49,48,100,32,114,49,49,100,32,114,49,50,100,32,114,49,51,100,32,114,49,52,100,32,114,49,53,100])) 32) (eL 1))])) aE) (ac (bN (cC vw (eL 0) (aF [(eK (V.str [114,54,52])),(eK (V.str [114,109,54,52]))])) (au (aF [(eK (V.str [114,101,103])),(eI (gp (eK (V.str [114,97,120,32,114,99,120,32,114,100,120,32,114,98,120,32,114,115,112,32,114,98,112,32,114,115,105,32,114,100,105,32,114,56,32,114,57,32,114,49,48,32,114,49,49,32,114,49,50,32,114,49,51,32,114,49,52,32,114,49,53])) 32) (eL 1))])) aE) (au (aF [(eK (V.str [114,101,103])),(eB aO (eK (V.str [120,109,109])) (DS (eL 1)))]))))⟩
def pK:Fn:=⟨az,(au (lJ (cC nt (qe (eL 0) (dH (eK (V.int (.ofNat 3)))) (eK V.none)) (eK (V.str [49,50,56]))) (ru (qe (eL 0) (dH (eK (V.int (.ofNat 2)))) (eK V.none))) (eK (V.int (.ofNat 128)))))⟩
def aG:Fn:=⟨tR,(ac (xA (Tg.t [2,3,4]) (aF [(eB cK (eL 1) (eK (V.int (.ofNat 16)))),(eB cK (eB e9 (eL 1) (eK (V.int (.ofNat 16)))) (eK (V.int (.ofNat 16)))),(eB cK (eB e9 (eL 1) (eK (V.int (.ofNat 256)))) (eK (V.int (.ofNat 4))))])) (ac (xA (Tg.n 1) (eB e9 (eL 1) (eK (V.int (.ofNat 1024))))) (ac (xA (Tg.n 5) (eB cK (eL 1) (eK (V.int (.ofNat 3))))) (ac (xA (Tg.n 6) (eB e9 (eL 1) (eK (V.int (.ofNat 3))))) (ac (xA (Tg.n 7) (dk [])) (ac (bN (cC ce (eL 5) (eK (V.int (.ofNat 1)))) (ac (xA (Tg.n 6) (eB cK (eL 6) (eK (V.int (.ofNat 256))))) (ac (xA (Tg.n 7) (dk [(eL 6)])) (xA (Tg.n 6) (lJ (cC Jv (eL 6) (eK (V.int (.ofNat 127)))) (eB lU (eL 6) (eK (V.int (.ofNat 256)))) (eL 6))))) (bN (cC ce (eL 5) (eK (V.int (.ofNat 2)))) (ac (xA (Tg.n 6) (eB cK (eL 6) (eB ul (eK (V.int (.ofNat 2))) (eK (V.int (.ofNat 32)))))) (ac (xA (Tg.n 7) (dk [(eB cK (eL 6) (eK (V.int (.ofNat 256)))),(eB cK (eB e9 (eL 6) (eK (V.int (.ofNat 256)))) (eK (V.int (.ofNat 256)))),(eB cK (eB e9 (eL 6) (eK (V.int (.ofNat 65536)))) (eK (V.int (.ofNat 256)))),(eB e9 (eL 6) (eK (V.int (.ofNat 16777216))))])) (xA (Tg.n 6) (lJ (cC Ia (eL 6) (eB ul (eK (V.int (.ofNat 2))) (eK (V.int (.ofNat 31))))) (eB lU (eL 6) (eB ul (eK (V.int (.ofNat 2))) (eK (V.int (.ofNat 32))))) (eL 6))))) (ac (xA (Tg.n 6) (eK (V.int (.ofNat 0)))) (bN (cC ce (eB cK (eL 2) (eK (V.int (.ofNat 8)))) (eK (V.int (.ofNat 5)))) (xA (Tg.n 2) (eB lU (eL 2) (eK (V.int (.ofNat 5))))) aE)))) (ac (xA (Tg.n 8) (gp (eK (V.str [114,97,120,32,114,99,120,32,114,100,120,32,114,98,120,32,114,115,112,32,114,98,112,32,114,115,105,32,114,100,105,32,114,56,32,114,57,32,114,49,48,32,114,49,49,32,114,49,50,32,114,49,51,32,114,49,52,32,114,49,53])) 32)) (ac (xA (Tg.n 9) (eC (ig [(cC ce (eL 3) (eK (V.int (.ofNat 4)))),(cC nt (eB cK (eL 2) (eK (V.int (.ofNat 8)))) (eK (V.int (.ofNat 4))))]))) (ac (xA (Tg.t [10,11]) (lJ (cC nt (eL 3) (eK (V.int (.ofNat 4)))) (aF [(eI (eL 8) (eL 3)),(eB ul (eK (V.int (.ofNat 2))) (eL 4))]) (aF [(eK (V.str [])),(eK (V.int (.ofNat 1)))]))) (ac (xA (Tg.n 12) (dk [(eB aO (eB fF (eK (V.int (.ofNat 64))) (eL 5)) (lJ (cT (eL 9)) (eB cK (eL 2) (eK (V.int (.ofNat 8)))) (eK (V.int (.ofNat 4)))))])) (ac (bN (jJ (cT (eL 9))) (xE (aH (eL 12) (eB aO (eB aO (eB fF (eK (V.int (.ofNat 64))) (eL 4)) (eB fF (eK (V.int (.ofNat 8))) (eB cK (eL 3) (eK (V.int (.ofNat 8)))))) (eB cK (eL 2) (eK (V.int (.ofNat 8))))))) aE) (ac (xA (Tg.t [13,14]) (aF [(lJ (cT (eL 9)) (eK (V.int (.ofNat 0))) (eB e9 (eL 3) (eK (V.int (.ofNat 8))))),(eB e9 (eL 2) (eK (V.int (.ofNat 8))))])) (au (aF [(aF [(eK (V.str [109,101,109])),(eI (eL 8) (eL 2)),(eL 10),(eL 11),(eL 6),(eF pK [(eL 0)] []),(eK (V.str [])),(eK (V.str []))]),(eB aO (eL 12) (eL 7)),(eL 13),(eL 14)]))))))))))))))⟩
def pL:Fn:=⟨az,(ac (xA (Tg.t [4,5,6,7,8,9,10,11]) (eM 999 (eL 0) [(4,dB,[]),(10,be,[])] [])) (ac (xA (Tg.t [12,13,14,15,16]) (aF [(dk []),(eK (V.int (.ofNat 0))),(eK (V.int (.ofNat 0))),(eK (V.int (.ofNat 0))),(dk [])])) (ac (xA (Tg.n 17) (lJ (cC vw (eI (eL 5) (eK (V.int (.ofNat 0)))) (aF [(eK (V.str [120])),(eK (V.str [114,51,50])),(eK (V.str [114,54,52]))])) (eK (V.int (.ofNat 0))) (eK (V.int (.ofNat 1))))) (ac (xA (Tg.n 18) (eI (eL 5) (eB lU (eK (V.int (.ofNat 1))) (eL 17)))) (ac (xA (Tg.n 13) (eB e9 (eL 1) (eK (V.int (.ofNat 8))))) (ac (xA (Tg.n 19) (eF jo [(eI (eL 5) (eL 17)),(eL 1)] [])) (ac (bN (pB [(cC ce (qe (eL 18) (eK V.none) (eK (V.int (.ofNat 1)))) (eK (V.str [109]))),(cC ce (eB cK (eL 3) (eK (V.int (.ofNat 2)))) (eK (V.int (.ofNat 1))))]) (ac (xA (Tg.t [20,16,14,15]) (eF aG [(eL 18),(eB e9 (eL 3) (eK (V.int (.ofNat 2))))] [.unset,.unset,.unset,.unset,.unset,.unset,.unset,.unset,.unset,.unset,.unset,.unset,.unset])) (Nh (eL 16) (eK (V.int (.ofNat 0))) (eB aO (eI (eL 16) (eK (V.int (.ofNat 0)))) (eB fF (eK (V.int (.ofNat 8))) (eB cK (eL 1) (eK (V.int (.ofNat 8)))))))) (ac (xA (Tg.n 20) (eF jo [(eL 18),(eL 2)] [])) (ac (xA (Tg.n 16) (dk [(eB aO (eB aO (eK (V.int (.ofNat 192))) (eB fF (eK (V.int (.ofNat 8))) (eB cK (eL 1) (eK (V.int (.ofNat 8)))))) (eB cK (eL 2) (eK (V.int (.ofNat 8)))))])) (xA (Tg.n 15) (eB e9 (eL 2) (eK (V.int (.ofNat 8)))))))) (ac (xA (Tg.n 12) (lJ (cC ce (eL 17) (eK (V.int (.ofNat 0)))) (dk [(eL 19),(eL 20)]) (dk [(eL 20),(eL 19)]))) (ac (bN (cC ce (ko (eL 5)) (eK (V.int (.ofNat 3)))) (ac (xE (aH (eL 12) (aF [(eK (V.str [105,109,109])),(eB cK (eL 3) (eK (V.int (.ofNat 256)))),(eK (V.str []))]))) (xA (Tg.n 16) (eB aO (eL 16) (dk [(eB cK (eL 3) (eK (V.int (.ofNat 256))))])))) aE) (ac (xA (Tg.n 21) (lJ (cC nt (eL 10) (eK (V.int (.ofNat 0)))) (dk [(eL 10)]) (dk []))) (ac (xA (Tg.n 22) (lJ (cC ce (eL 9) (eK (V.int (.ofNat 64)))) (eK (V.int (.ofNat 1))) (eK (V.int (.ofNat 0))))) (ac (bN (cC Jv (eB aO (eB aO (eB aO (eL 22) (eL 13)) (eL 14)) (eL 15)) (eK (V.int (.ofNat 0)))) (xE (aH (eL 21) (eB aO (eB aO (eB aO (eB aO (eK (V.int (.ofNat 64))) (eB fF (eK (V.int (.ofNat 8))) (eL 22))) (eB fF (eK (V.int (.ofNat 4))) (eL 13))) (eB fF (eK (V.int (.ofNat 2))) (eL 14))) (eL 15)))) aE) (au (aF [(km (eL 12)),(eB aO (eB aO (eL 21) (dk [(eK (V.int (.ofNat 15))),(eL 6)])) (eL 16))]))))))))))))))⟩
def bM:Fn:=⟨az,(ac (dE (eL 0) 13 (eL 1)) (ac (dE (eL 0) 14 (eL 2)) (ac (dE (eL 0) 15 (eL 3)) (ac (dE (eL 0) 16 (eL 4)) (dE (eL 0) 17 (eL 5))))))⟩
def vG:Fn:=⟨az,(au (eC (cC ce (eB e9 (eL 0) (eK (V.int (.ofNat 16)))) (eK (V.int (.ofNat 4))))))⟩
def bE:Fn:=⟨az,(au (eC (cC Ia (eA (eL 0) 17) (eK (V.int (.ofNat 0))))))⟩
def cn:Fn:=⟨az,(au (eC (cC Ia (eA (eA (eL 0) 19) 17) (eK (V.int (.ofNat 0))))))⟩
def pI:Fn:=⟨az,(au (bz 12 bM [(eA (eL 0) 13),(eA (eL 0) 14),(eA (eL 0) 15),(eA (eL 0) 16),(eL 1)] []))⟩
def mf:Fn:=⟨az,(ac (bN (pB [(cC ce (eL 0) (eK (V.int (.ofNat 100)))),(cC ce (eL 0) (eK (V.int (.ofNat 101))))]) (au (eK (V.str [115,101,103,109,101,110,116]))) aE) (ac (bN (cC ce (eL 0) (eK (V.int (.ofNat 102)))) (au (eK (V.str [100,97,116,97]))) aE) (ac (bN (pB [(cC ce (eL 0) (eK (V.int (.ofNat 243)))),(cC ce (eL 0) (eK (V.int (.ofNat 242))))]) (au (eK (V.str [114,101,112,101,97,116]))) aE) (ac (bN (cC ce (eL 0) (eK (V.int (.ofNat 240)))) (au (eK (V.str [108,111,99,107]))) aE) (au (lJ (cC vw (eL 0) (aF [(eK (V.int (.ofNat 38))),(eK (V.int (.ofNat 46))),(eK (V.int (.ofNat 54))),(eK (V.int (.ofNat 62))),(eK (V.int (.ofNat 103)))])) (eK (V.str [98,97,114,114,101,100])) (eK (V.str []))))))))⟩
def jR:Fn:=⟨az,(ac (xA (Tg.n 2) (eF mf [(eL 1)] [])) (ac (bN (cC ce (eL 2) (eK (V.str [98,97,114,114,101,100]))) cP aE) (ac (bN (cT (eM 999 (eL 0) [(12,bE,[]),(14,cn,[])] [])) cP aE) (ac (bN (cC ce (eL 2) (eK (V.str [115,101,103,109,101,110,116]))) (ac (bN (cC nt (eA (eL 0) 13) (eK (V.str []))) cP aE) (ac (xA (Tg.n 3) (lJ (cC ce (eL 1) (eK (V.int (.ofNat 100)))) (eK (V.str [102,115])) (eK (V.str [103,115])))) (au (bz 12 bM [(eL 3),(eA (eL 0) 14),(eA (eL 0) 15),(eA (eL 0) 16)] [(V.int (.negSucc 0))])))) aE) (ac (bN (cC ce (eL 2) (eK (V.str [100,97,116,97]))) (ac (bN (cT (eA (eL 0) 14)) cP aE) (au (bz 12 bM [(eA (eL 0) 13),(eK (V.bool true)),(eA (eL 0) 15),(eA (eL 0) 16)] [(V.int (.negSucc 0))]))) aE) (ac (bN (cC ce (eL 2) (eK (V.str [114,101,112,101,97,116]))) (ac (bN (pB [(cC nt (eA (eL 0) 15) (eK (V.int (.ofNat 0)))),(cT (eA (eL 0) 16))]) cP aE) (au (bz 12 bM [(eA (eL 0) 13),(eA (eL 0) 14),(eL 1),(eK (V.bool false))] [(V.int (.negSucc 0))]))) aE) (ac (bN (pB [(cT (eA (eL 0) 16)),(cC nt (eA (eL 0) 15) (eK (V.int (.ofNat 0))))]) cP aE) (au (bz 12 bM [(eA (eL 0) 13),(eA (eL 0) 14),(eK (V.int (.ofNat 0))),(eK (V.bool true))] [(V.int (.negSucc 0))])))))))))⟩
def iQ:Fn:=⟨az,(ac (xA (Tg.n 2) (bz 12 bM [] [(V.str []),(V.bool false),(V.int (.ofNat 0)),(V.bool false),(V.int (.negSucc 0))])) (ac (QR (cC Bh (eL 1) (ko (eL 0))) (ac (xA (Tg.n 3) (eI (eL 0) (eL 1))) (ac (bN (cT (eF vG [(eL 3)] [])) (ac (bN (cT (eM 999 (eL 2) [(12,bE,[]),(14,cn,[])] [])) cP aE) (xA (Tg.n 2) (eF pI [(eL 2),(eL 3)] []))) (bN (cC nt (eF mf [(eL 3)] []) (eK (V.str []))) (xA (Tg.n 2) (eF jR [(eL 2),(eL 3)] [.unset,.unset])) (au (aF [(eL 2),(eL 1)])))) (xA (Tg.n 1) (eB aO (eL 1) (eK (V.int (.ofNat 1)))))))) (au (aF [(eL 2),(eL 1)]))))⟩
def pJ:Fn:=⟨az,(ac (bN (cC Bh (eL 0) (eK (V.int (.ofNat 0)))) (au (aF [(eK (V.int (.ofNat 0))),(eK (V.int (.ofNat 0))),(eK (V.int (.ofNat 0))),(eK (V.int (.ofNat 0)))])) aE) (au (aF [(eB cK (eB e9 (eL 0) (eK (V.int (.ofNat 8)))) (eK (V.int (.ofNat 2)))),(eB cK (eB e9 (eL 0) (eK (V.int (.ofNat 4)))) (eK (V.int (.ofNat 2)))),(eB cK (eB e9 (eL 0) (eK (V.int (.ofNat 2)))) (eK (V.int (.ofNat 2)))),(eB cK (eL 0) (eK (V.int (.ofNat 2))))])))⟩
def lG:Fn:=⟨az,(ac (dE (eL 0) 18 (eL 1)) (ac (dE (eL 0) 19 (eL 2)) (ac (dE (eL 0) 20 (eL 3)) (ac (xA (Tg.n 4) (eF pJ [(eA (eL 2) 17)] [])) (ac (dE (eL 0) 21 (eI (eL 4) (eK (V.int (.ofNat 0))))) (ac (dE (eL 0) 22 (eI (eL 4) (eK (V.int (.ofNat 1))))) (ac (dE (eL 0) 23 (eI (eL 4) (eK (V.int (.ofNat 2))))) (ac (dE (eL 0) 24 (eI (eL 4) (eK (V.int (.ofNat 3))))) (ac (dE (eL 0) 3 (eK (V.int (.ofNat 0)))) (ac (dE (eL 0) 2 (eK (V.int (.ofNat 0)))) (ac (dE (eL 0) 6 (eK (V.int (.ofNat 0)))) (ac (dE (eL 0) 25 (eL 3)) (ac (dE (eL 0) 26 (dH (eK (V.int (.ofNat 1))))) (ac (dE (eL 0) 27 (eK (V.int (.ofNat 0)))) (ac (dE (eL 0) 28 (eK (V.int (.ofNat 0)))) (ac (dE (eL 0) 29 (dH (eK (V.int (.ofNat 1))))) (ac (dE (eL 0) 30 (eK (V.int (.ofNat 0)))) (ac (dE (eL 0) 31 (eK (V.int (.ofNat 0)))) (dE (eL 0) 32 (eL 3))))))))))))))))))))⟩
def gN:Fn:=⟨az,(ac (xA (Tg.n 2) (eA (eL 0) 20)) (ac (bN (cC ce (qe (eL 1) (eL 2) (eB aO (eL 2) (eK (V.int (.ofNat 1))))) (xI (dk [(eK (V.int (.ofNat 15)))]))) (ac (dE (eL 0) 3 (eK (V.int (.ofNat 1)))) (xA (Tg.n 2) (eB aO (eL 2) (eK (V.int (.ofNat 1)))))) aE) (ac (bN (cC Ia (eL 2) (ko (eL 1))) cP aE) (ac (dE (eL 0) 2 (eI (eL 1) (eL 2))) (ac (dE (eL 0) 25 (eB aO (eL 2) (eK (V.int (.ofNat 1))))) (dE (eL 0) 32 (eB aO (eL 2) (eK (V.int (.ofNat 1))))))))))⟩
def aM:Fn:=⟨QZ,(au (pw (Mo (eA (eL 0) 12) (aF [(eL 1),(eL 2),(eL 3)]) (dk []))))⟩
def gM:Fn:=⟨az,(gC (Tg.n 2) (aF [(eA (eA (eL 0) 19) 15),(lJ (cT (eA (eA (eL 0) 19) 14)) (eK (V.int (.ofNat 102))) (eK (V.int (.ofNat 0))))]) (bN (ig [(cC nt (eL 2) (eK (V.int (.ofNat 0)))),(cC nt (eM 45 (eL 1) [(15,aM,[])] [(eL 2),(eA (eL 0) 3),(eA (eL 0) 2)]) (dk []))]) (ac (dE (eL 0) 6 (eL 2)) Bu) aE))⟩
def ik:Fn:=⟨az,(au (eC (pB [(cC Ia (eA (eL 0) 4) (eK (V.int (.ofNat 0)))),(cC vw (eK (V.str [114,109])) (eA (eL 0) 9)),(cC vw (eK (V.str [114,101,103])) (eA (eL 0) 9))])))⟩
def kt:Fn:=⟨az,(ac (bN (cC Ia (eL 1) (ko (eL 0))) cP aE) (au (eI (eL 0) (eL 1))))⟩
def gr:Fn:=⟨az,(au (aF [(eB e9 (eL 0) (eK (V.int (.ofNat 64)))),(eB cK (eB e9 (eL 0) (eK (V.int (.ofNat 8)))) (eK (V.int (.ofNat 8)))),(eB cK (eL 0) (eK (V.int (.ofNat 8))))]))⟩
def jl:Fn:=⟨az,(au (eF gr [(eL 0)] []))⟩
def iS:Fn:=⟨az,(ac (bN (cC ce (eL 0) (eK (V.int (.ofNat 3)))) (au (eK (V.int (.ofNat 0)))) aE) (ac (bN (cC ce (eL 0) (eK (V.int (.ofNat 1)))) (au (eK (V.int (.ofNat 1)))) aE) (ac (bN (cC ce (eL 0) (eK (V.int (.ofNat 2)))) (au (eK (V.int (.ofNat 4)))) aE) (ac (bN (cC ce (eL 1) (eK (V.int (.ofNat 5)))) (au (eK (V.int (.ofNat 4)))) aE) (au (lJ (ig [(cC ce (eL 1) (eK (V.int (.ofNat 4)))),(cC ce (eB cK (eL 2) (eK (V.int (.ofNat 8)))) (eK (V.int (.ofNat 5))))]) (eK (V.int (.ofNat 4))) (eK (V.int (.ofNat 0)))))))))⟩
def gT:Fn:=⟨az,(ac (xA (Tg.n 1) (eK (V.int (.ofNat 0)))) (ac (xA (Tg.n 2) (eK (V.int (.ofNat 0)))) (ac (gC (Tg.n 3) (eL 0) (ac (xA (Tg.n 1) (eB Qv (eL 1) (eB wP (eL 3) (eL 2)))) (xA (Tg.n 2) (eB aO (eL 2) (eK (V.int (.ofNat 8))))))) (au (eL 1)))))⟩
def Ew:Fn:=⟨az,(au (eB lU (eB wP (eK (V.int (.ofNat 1))) (eL 0)) (eK (V.int (.ofNat 1)))))⟩
def Eu:Fn:=⟨az,(au (eB Go (eL 0) (eF Ew [(eL 1)] [])))⟩
def vD:Fn:=⟨az,(ac (xA (Tg.n 2) (eF Eu [(eL 0),(eL 1)] [])) (ac (bN (cC ce (eB Gg (eL 2) (eB lU (eL 1) (eK (V.int (.ofNat 1))))) (eK (V.int (.ofNat 1)))) (au (eB lU (eL 2) (eB wP (eK (V.int (.ofNat 1))) (eL 1)))) aE) (au (eL 2))))⟩
def cw:Fn:=⟨az,(ac (bN (cC ce (ko (eL 0)) (eK (V.int (.ofNat 0)))) (au (eK (V.int (.ofNat 0)))) aE) (au (eF vD [(eF gT [(eL 0)] [.unset,.unset,.unset]),(eB fF (eK (V.int (.ofNat 8))) (ko (eL 0)))] [.unset])))⟩
def a9:Fn:=⟨tQ,(ac (xA (Tg.t [2,3,4]) (eF jl [(eF kt [(eL 0),(eL 1)] [])] [])) (ac (xA (Tg.n 1) (eB aO (eL 1) (eK (V.int (.ofNat 1))))) (ac (xA (Tg.n 5) (dH (eK (V.int (.ofNat 1))))) (ac (bN (ig [(cC nt (eL 2) (eK (V.int (.ofNat 3)))),(cC ce (eL 4) (eK (V.int (.ofNat 4))))]) (ac (xA (Tg.n 5) (eF kt [(eL 0),(eL 1)] [])) (xA (Tg.n 1) (eB aO (eL 1) (eK (V.int (.ofNat 1)))))) aE) (ac (xA (Tg.n 6) (eF iS [(eL 2),(eL 4),(eL 5)] [])) (ac (bN (cC Jv (eB aO (eL 1) (eL 6)) (ko (eL 0))) cP aE) (ac (xA (Tg.n 7) (lJ (cC Jv (eL 6) (eK (V.int (.ofNat 0)))) (eF cw [(qe (eL 0) (eL 1) (eB aO (eL 1) (eL 6)))] []) (eK (V.int (.ofNat 0))))) (au (aF [(eL 2),(eL 3),(eL 4),(eL 5),(eL 7),(eL 6),(eB aO (eL 1) (eL 6))])))))))))⟩
def gy:Fn:=⟨az,(ac (xA (Tg.n 2) (eF a9 [(eL 1),(eA (eL 0) 25)] [.unset,.unset,.unset,.unset,.unset,.unset])) (ac (Fy (eL 0) [26,27,28] (aF [(eI (eL 2) (eK (V.int (.ofNat 0)))),(eI (eL 2) (eK (V.int (.ofNat 1)))),(eI (eL 2) (eK (V.int (.ofNat 2))))])) (ac (Fy (eL 0) [29,30,31] (aF [(eI (eL 2) (eK (V.int (.ofNat 3)))),(eI (eL 2) (eK (V.int (.ofNat 4)))),(eI (eL 2) (eK (V.int (.ofNat 5))))])) (dE (eL 0) 32 (eI (eL 2) (eK (V.int (.ofNat 6))))))))⟩
def de:Fn:=⟨az,(au (eC (ig [(cB (eA (eA (eL 0) 19) 14)),(cC nt (eA (eL 0) 6) (eK (V.int (.ofNat 102))))])))⟩
def mJ:Fn:=⟨az,(ac (bN (pB [(cC ce (eA (eL 0) 5) (eK (V.int (.ofNat 0)))),(cC ce (eA (eL 0) 5) (eK (V.int (.ofNat 8))))]) (au (eK (V.bool true))) aE) (ac (bN (cT (eA (eL 0) 7)) (au (eC (cC ce (eA (eL 0) 5) (lJ (cT (eM 999 (eL 1) [(14,de,[])] [])) (eK (V.int (.ofNat 16))) (eK (V.int (.ofNat 64))))))) aE) (ac (bN (cC ce (eA (eL 1) 21) (eK (V.int (.ofNat 1)))) (au (eC (cC ce (eA (eL 0) 5) (eK (V.int (.ofNat 64)))))) aE) (au (eC (cC ce (eA (eL 0) 5) (lJ (cT (eM 999 (eL 1) [(14,de,[])] [])) (eK (V.int (.ofNat 16))) (eK (V.int (.ofNat 32))))))))))⟩
def pN:Fn:=⟨az,(au (eC (pB [(cC Bh (eL 1) (eK (V.int (.ofNat 3)))),(jJ (cT (eC (Ek (jO 2 [] (Tg.n 1) (eA (eL 0) 1) (eC (cC ce (qe (eL 1) (eK V.none) (eK (V.int (.ofNat 1)))) (eK (V.str [109])))))))))])))⟩
def pM:Fn:=⟨az,(ac (bN (pB [(cC ce (eA (eL 1) 3) (eK (V.int (.ofNat 1)))),(cC nt (eA (eL 1) 2) (eK (V.int (.ofNat 144))))]) (au (eK (V.bool true))) aE) (ac (xA (Tg.n 2) (eC (ig [(cC ce (eA (eL 1) 24) (eK (V.int (.ofNat 0)))),(cC ce (eA (eL 1) 21) (eK (V.int (.ofNat 0)))),(jJ (cT (eA (eA (eL 1) 19) 14)))]))) (au (eC (cC ce (eC (cC ce (eA (eL 0) 0) (eK (V.str [110,111,112])))) (eL 2))))))⟩
def vF:Fn:=⟨az,(ac (gC (Tg.n 2) (eL 0) (ac (bN (ig [(cC Ia (eA (eL 2) 4) (eK (V.int (.ofNat 0)))),(cC nt (eA (eL 2) 4) (eA (eL 1) 27))]) nB aE) (bN (ig [(cT (eF mJ [(eL 2),(eL 1)] [])),(cT (eF pN [(eL 2),(eA (eL 1) 26)] [])),(cT (eF pM [(eL 2),(eL 1)] [.unset]))]) (au (eL 2)) aE))) cP)⟩
def lB:Fn:=⟨az,(ac (xA (Tg.t [3,4]) (eF iQ [(eL 1),(eL 2)] [.unset,.unset])) (ac (xA (Tg.n 5) (bz 14 lG [(eL 2),(eL 3),(eL 4)] [.unset])) (ac (xE (eM 999 (eL 5) [(14,gN,[.unset])] [(eL 1)])) (ac (xE (eM 999 (eL 5) [(14,gM,[.unset])] [(eL 0)])) (ac (xA (Tg.n 6) (eM 45 (eL 0) [(15,aM,[])] [(eA (eL 5) 6),(eA (eL 5) 3),(eA (eL 5) 2)])) (ac (bN (cT (eC (Ek (jO 2 [] (Tg.n 1) (eL 6) (eM 999 (eL 1) [(4,ik,[])] []))))) (xE (eM 999 (eL 5) [(14,gy,[.unset])] [(eL 1)])) aE) (au (aF [(eL 5),(eF vF [(eL 6),(eL 5)] [.unset])]))))))))⟩
def lH:Fn:=⟨az,(au (pw (eA (eL 0) 9)))⟩
def ck:Fn:=⟨az,(ac (dE (eL 0) 0 (eL 1)) (ac (dE (eL 0) 33 (eL 2)) (ac (dE (eL 0) 8 (eL 3)) (dE (eL 0) 5 (eL 4)))))⟩
def Et:Fn:=⟨az,(ac (bN (jJ (M4 AZ AZ (eK (V.int (.ofNat 0))) (eL 0) (eK (V.int (.ofNat 15))))) eY aE) (au (bz 11 ck [(eB aO (eK (V.str [120,109,109])) (DS (eL 0))),(eK (V.str [120,109,109])),(eL 0),(eK (V.int (.ofNat 128)))] [])))⟩
def dA:Fn:=⟨az,(dE (eL 0) 33 (eL 1))⟩
def cV:Fn:=⟨az,(ac (xE (eF dA [(eL 0),(eK (V.str [114,101,103]))] [])) (dE (eL 0) 34 (eL 1)))⟩
def ef:Fn:=⟨az,(ac (bN (pB [(cC vw (eL 0) (aF [(eK (V.str [109])),(eK (V.str [111,110,101]))])),(cT (eF ez [(eL 0)] [])),(cT (eF eW [(eL 0)] []))]) (au (eK (V.int (.ofNat 0)))) aE) (ac (bN (cT (eF kz [(eL 0)] [])) (au (eI fP (eL 0))) aE) (ac (bN (cC ce (eL 0) (eK (V.str [120]))) (au (eK (V.int (.ofNat 128)))) aE) (au (ru (sT (eL 0) (eK (V.str [114,109,111,120]))))))))⟩
def Ey:Fn:=⟨az,(ac (bN (jJ (M4 AZ AZ (eK (V.int (.ofNat 4))) (eL 0) (eK (V.int (.ofNat 7))))) eY aE) (au (bz 11 ck [(eI (iG (eK (V.str [97,104,32,99,104,32,100,104,32,98,104]))) (eB lU (eL 0) (eK (V.int (.ofNat 4))))),(eK (V.str [104,105,103,104])),(eL 0),(eK (V.int (.ofNat 8)))] [])))⟩
def jY:Fn:=⟨az,(ac (bN (cC ce (eL 0) (eK (V.int (.ofNat 64)))) (au (iG (eK (V.str [114,97,120,32,114,99,120,32,114,100,120,32,114,98,120,32,114,115,112,32,114,98,112,32,114,115,105,32,114,100,105])))) aE) (ac (bN (cC ce (eL 0) (eK (V.int (.ofNat 32)))) (au (iG (eK (V.str [101,97,120,32,101,99,120,32,101,100,120,32,101,98,120,32,101,115,112,32,101,98,112,32,101,115,105,32,101,100,105])))) aE) (ac (bN (cC ce (eL 0) (eK (V.int (.ofNat 16)))) (au (iG (eK (V.str [97,120,32,99,120,32,100,120,32,98,120,32,115,112,32,98,112,32,115,105,32,100,105])))) aE) (ac (bN (cC ce (eL 0) (eK (V.int (.ofNat 8)))) (au (iG (eK (V.str [97,108,32,99,108,32,100,108,32,98,108,32,115,112,108,32,98,112,108,32,115,105,108,32,100,105,108])))) aE) (au (dk []))))))⟩
def jW:Fn:=⟨az,(ac (bN (cC ce (eL 0) (eK (V.int (.ofNat 32)))) (au (eK (V.str [100]))) aE) (ac (bN (cC ce (eL 0) (eK (V.int (.ofNat 16)))) (au (eK (V.str [119]))) aE) (ac (bN (cC ce (eL 0) (eK (V.int (.ofNat 8)))) (au (eK (V.str [98]))) aE) (au (eK (V.str []))))))⟩
def mI:Fn:=⟨az,(ac (xA (Tg.n 2) (eF jY [(eL 1)] [])) (ac (bN (pB [(cC ce (eL 2) (dk [])),(jJ (M4 AZ AZ (eK (V.int (.ofNat 0))) (eL 0) (eK (V.int (.ofNat 15)))))]) eY aE) (ac (bN (cC Bh (eL 0) (eK (V.int (.ofNat 8)))) (au (bz 11 ck [(eI (eL 2) (eL 0)),(eK (V.str [103,112,114])),(eL 0),(eL 1)] [])) aE) (au (bz 11 ck [(eB aO (eB aO (eK (V.str [114])) (DS (eL 0))) (eF jW [(eL 1)] [])),(eK (V.str [103,112,114])),(eL 0),(eL 1)] [])))))⟩
def eV:Fn:=⟨az,(ac (bN (ig [(cC ce (eL 1) (eK (V.int (.ofNat 8)))),(jJ (cT (eL 2))),(M4 AZ AZ (eK (V.int (.ofNat 4))) (eL 0) (eK (V.int (.ofNat 7))))]) (au (eF Ey [(eL 0)] [])) aE) (au (eF mI [(eL 0),(eL 1)] [.unset])))⟩
def jS:Fn:=⟨az,(ac (xA (Tg.n 2) (eB aO (eA (eL 1) 27) (eB fF (eK (V.int (.ofNat 8))) (eA (eL 1) 22)))) (ac (bN (cC ce (eL 0) (eK (V.str [120]))) (au (bz 6 cV [(eF Et [(eL 2)] [])] [])) aE) (au (bz 6 cV [(eF eV [(eL 2),(eF ef [(eL 0)] []),(eM 999 (eL 1) [(12,bE,[]),(14,cn,[])] [])] [])] []))))⟩
def Jx:Fn:=⟨az,(au (bz 11 ck [(eK (V.str [114,105,112])),(eK (V.str [114,105,112])),(eK (V.int (.ofNat 0))),(eK (V.int (.ofNat 64)))] []))⟩
def gu:Fn:=⟨az,(ac (xE (eF dA [(eL 0),(eK (V.str [109,101,109]))] [])) (ac (dE (eL 0) 36 (eL 1)) (ac (dE (eL 0) 37 (eL 2)) (ac (dE (eL 0) 38 (eL 3)) (ac (dE (eL 0) 35 (eL 4)) (ac (dE (eL 0) 5 (eL 5)) (ac (dE (eL 0) 13 (eL 6)) (dE (eL 0) 0 (eL 7)))))))))⟩
def lz:Fn:=⟨az,(au (eF gr [(eL 0)] []))⟩
def bS:Fn:=⟨wk Cx,(ac (bN (cC nt (eL 1) (eK (V.int (.ofNat 4)))) (ac (bN (ig [(cC ce (eL 0) (eK (V.int (.ofNat 0)))),(cC ce (eL 1) (eK (V.int (.ofNat 5))))]) (au (bz 9 gu [(eF Jx [] []),(eK V.none),(eK (V.int (.ofNat 1))),(eL 3),(eL 6),(eL 7)] [(V.str [])])) aE) (au (bz 9 gu [(eF mI [(eB aO (eL 1) (eB fF (eK (V.int (.ofNat 8))) (eL 5))),(eK (V.int (.ofNat 64)))] [.unset]),(eK V.none),(eK (V.int (.ofNat 1))),(eL 3),(eL 6),(eL 7)] [(V.str [])]))) aE) (ac (xA (Tg.t [8,9,10]) (eF lz [(eL 2)] [])) (ac (xA (Tg.n 11) (lJ (ig [(cC ce (eL 0) (eK (V.int (.ofNat 0)))),(cC ce (eL 10) (eK (V.int (.ofNat 5))))]) (eK V.none) (eF mI [(eB aO (eL 10) (eB fF (eK (V.int (.ofNat 8))) (eL 5))),(eK (V.int (.ofNat 64)))] [.unset]))) (ac (bN (ig [(cC ce (eL 9) (eK (V.int (.ofNat 4)))),(cC ce (eL 4) (eK (V.int (.ofNat 0))))]) (au (bz 9 gu [(eL 11),(eK V.none),(eK (V.int (.ofNat 1))),(eL 3),(eL 6),(eL 7)] [(V.str [])])) aE) (au (bz 9 gu [(eL 11),(eF mI [(eB aO (eL 9) (eB fF (eK (V.int (.ofNat 8))) (eL 4))),(eK (V.int (.ofNat 64)))] [.unset]),(eB wP (eK (V.int (.ofNat 1))) (eL 8)),(eL 3),(eL 6),(eL 7)] [(V.str [])]))))))⟩
def lA:Fn:=⟨az,(ac (bN (cC Bh (eA (eL 1) 26) (eK (V.int (.ofNat 3)))) (ac (xA (Tg.t [2,3]) (aF [(eF ef [(eL 0)] []),(eA (eA (eL 1) 19) 13)])) (au (eF bS [(eA (eL 1) 26),(eA (eL 1) 28),(eA (eL 1) 29),(eA (eL 1) 30),(eA (eL 1) 23),(eA (eL 1) 24),(eL 2),(eL 3)] [.unset,.unset,.unset,.unset]))) aE) (ac (xA (Tg.n 4) (eB aO (eA (eL 1) 28) (eB fF (eK (V.int (.ofNat 8))) (eA (eL 1) 24)))) (ac (bN (cC ce (qe (eL 0) (eK V.none) (eK (V.int (.ofNat 1)))) (eK (V.str [120]))) (au (bz 6 cV [(eF Et [(eL 4)] [])] [])) aE) (au (bz 6 cV [(eF eV [(eL 4),(eF ef [(eL 0)] []),(eM 999 (eL 1) [(12,bE,[]),(14,cn,[])] [])] [])] [])))))⟩
def jm:Fn:=⟨az,(ac (xA (Tg.n 2) (eB aO (eB cK (eA (eL 1) 2) (eK (V.int (.ofNat 8)))) (eB fF (eK (V.int (.ofNat 8))) (eA (eL 1) 24)))) (au (bz 6 cV [(eF eV [(eL 2),(eF ef [(eL 0)] []),(eM 999 (eL 1) [(12,bE,[]),(14,cn,[])] [])] [])] [])))⟩
def iI:Fn:=⟨az,(ac (xE (eF dA [(eL 0),(eK (V.str [105,109,109]))] [])) (ac (dE (eL 0) 35 (eL 1)) (dE (eL 0) 0 (eL 2))))⟩
def iR:Fn:=⟨az,(ac (bN (cC ce (eL 0) (eK (V.str [111,110,101]))) (au (bz 7 iI [(eK (V.int (.ofNat 1)))] [(V.str [])])) aE) (ac (bN (cC ce (eL 0) (eK (V.str [99,108]))) (au (bz 6 cV [(eF mI [(eK (V.int (.ofNat 1))),(eK (V.int (.ofNat 8)))] [.unset])] [])) aE) (ac (bN (cC ce (eL 0) (eK (V.str [100,120]))) (au (bz 6 cV [(eF mI [(eK (V.int (.ofNat 2))),(eK (V.int (.ofNat 16)))] [.unset])] [])) aE) (au (bz 6 cV [(eF mI [(eK (V.int (.ofNat 0))),(eF ef [(eL 0)] [])] [.unset])] [])))))⟩
def lC:Fn:=⟨az,(ac (bN (cT (eF ez [(eL 0)] [])) (au (eB e9 (ru (qe (eL 0) (eB aO (xH (eL 0) (eK (V.str [105,109,109]))) (eK (V.int (.ofNat 3)))) (eK V.none))) (eK (V.int (.ofNat 8))))) aE) (ac (bN (cT (eF eW [(eL 0)] [])) (au (eB e9 (ru (qe (eL 0) (eK (V.int (.ofNat 3))) (eK V.none))) (eK (V.int (.ofNat 8))))) aE) (au (eK (V.int (.ofNat 0))))))⟩
def pO:Fn:=⟨az,(ac (xA (Tg.n 3) (xI (qe (eL 0) (eL 1) (eB aO (eL 1) (eL 2))))) (ac (bN (cC Bh (ko (eL 3)) (eL 2)) cP aE) (au (eL 3))))⟩
def pR:Fn:=⟨az,(ac (xE (eF dA [(eL 0),(eK (V.str [114,101,108]))] [])) (ac (dE (eL 0) 35 (eL 1)) (dE (eL 0) 0 (eL 2))))⟩
def gL:Fn:=⟨az,(ac (bN (cC ce (eL 1) (eK (V.str [114,101,108]))) (au (bz 8 pR [(eF cw [(eL 2)] [])] [(V.str [])])) aE) (ac (bN (pB [(cC ce (eL 0) (eK (V.str [115,105,109,109,56]))),(cC ce (eL 0) (eK (V.str [115,105,109,109,51,50])))]) (au (bz 7 iI [(eF cw [(eL 2)] [])] [(V.str [])])) aE) (au (bz 7 iI [(eF gT [(eL 2)] [.unset,.unset,.unset])] [(V.str [])]))))⟩
def jU:Fn:=⟨az,(ac (xA (Tg.t [3,4]) (aF [(dk []),(eA (eL 1) 32)])) (ac (gC (Tg.t [5,6]) (Mk (eA (eL 0) 1) (eM 999 (eL 0) [(4,lH,[])] [])) (bN (cC ce (eL 6) (eK (V.str [114,101,103]))) (xE (aH (eL 3) (eF jS [(eL 5),(eL 1)] [.unset]))) (bN (cC ce (eL 6) (eK (V.str [114,109]))) (xE (aH (eL 3) (eF lA [(eL 5),(eL 1)] [.unset,.unset,.unset]))) (bN (cC ce (eL 6) (eK (V.str [112,108,117,115]))) (xE (aH (eL 3) (eF jm [(eL 5),(eL 1)] [.unset]))) (bN (pB [(cC ce (eL 6) (eK (V.str [102,105,120,101,100]))),(cC ce (eL 5) (eK (V.str [111,110,101])))]) (xE (aH (eL 3) (eF iR [(eL 5)] []))) (ac (xA (Tg.n 7) (eF lC [(eL 5)] [])) (ac (xE (aH (eL 3) (eF gL [(eL 5),(eL 6),(eF pO [(eL 2),(eL 4),(eL 7)] [.unset])] []))) (xA (Tg.n 4) (eB aO (eL 4) (eL 7)))))))))) (au (aF [(eL 3),(eL 4)]))))⟩
def pQ:Fn:=⟨az,(au (eC (ig [(cC vw (eA (eL 0) 0) (gp (eK (V.str [97,100,100,32,97,100,99,32,97,110,100,32,111,114,32,115,98,98,32,115,117,98,32,120,111,114,32,105,110,99,32,100,101,99,32,110,101,103,32,110,111,116,32,120,99,104,103,32,120,97,100,100,32,99,109,112,120,99,104,103,32,98,116,115,32,98,116,114,32,98,116,99])) 32)),(cC Jv (ko (eA (eL 0) 1)) (eK (V.int (.ofNat 0)))),(cB (eF gt [(eI (eA (eL 0) 1) (eK (V.int (.ofNat 0))))] []))])))⟩
def lF:Fn:=⟨az,(ac (bN (ig [(cT (eM 999 (eL 1) [(14,de,[])] [])),(cC nt (eA (eL 0) 5) (eK (V.int (.ofNat 16))))]) cP aE) (ac (bN (cT (eA (eA (eL 1) 19) 16)) (bN (pB [(jJ (cT (eF pQ [(eL 0)] []))),(cC nt (eA (eI (eL 2) (eK (V.int (.ofNat 0)))) 33) (eK (V.str [109,101,109])))]) cP aE) aE) (bN (ig [(cC nt (eA (eA (eL 1) 19) 13) (eK (V.str []))),(jJ (cT (eC (Ek (jO 2 [] (Tg.n 1) (eL 2) (eC (cC ce (eA (eL 1) 33) (eK (V.str [109,101,109])))))))))]) cP aE)))⟩
def rI:Fn:=⟨az,(ac (bN (cC vw (eL 0) (gp (eK (V.str [109,111,118,115,98,32,109,111,118,115,119,32,109,111,118,115,100,32,109,111,118,115,113,32,115,116,111,115,98,32,115,116,111,115,119,32,115,116,111,115,100,32,115,116,111,115,113,32,108,111,100,115,98,32,108,111,100,115,119,32,108,111,100,115,100,32,108,111,100,115,113])) 32)) (au (dk [(eK (V.str [114,101,112]))])) aE) (au (lJ (cC vw (eL 0) (gp (eK (V.str [99,109,112,115,98,32,99,109,112,115,119,32,99,109,112,115,100,32,99,109,112,115,113,32,115,99,97,115,98,32,115,99,97,115,119,32,115,99,97,115,100,32,115,99,97,115,113])) 32)) (dk [(eK (V.str [114,101,112])),(eK (V.str [114,101,112,110,101]))]) (dk []))))⟩
def jT:Fn:=⟨az,(ac (bN (cT (eA (eA (eL 1) 19) 16)) (au (eK (V.str [108,111,99,107]))) aE) (ac (xA (Tg.n 2) (eA (eA (eL 1) 19) 15)) (ac (bN (pB [(cC ce (eL 2) (eK (V.int (.ofNat 0)))),(cC ce (eL 2) (eA (eL 1) 6))]) (au (eK (V.str []))) aE) (ac (xA (Tg.n 3) (lJ (cC ce (eL 2) (eK (V.int (.ofNat 243)))) (eK (V.str [114,101,112])) (eK (V.str [114,101,112,110,101])))) (ac (bN (cC pC (eL 3) (eF rI [(eA (eL 0) 0)] [])) cP aE) (au (eL 3)))))))⟩
def gv:Fn:=⟨az,(ac (dE (eL 0) 0 (eL 1)) (ac (dE (eL 0) 39 (km (eL 2))) (dE (eL 0) 40 (eL 3))))⟩
def jp:Fn:=⟨az,(ac (dE (eL 0) 41 (eL 1)) (ac (dE (eL 0) 42 (eL 2)) (ac (dE (eL 0) 43 (eL 3)) (dE (eL 0) 19 (eL 4)))))⟩
def lE:Fn:=⟨az,(ac (xA (Tg.t [3,4]) (eF lB [(eL 0),(eL 1),(eL 2)] [.unset,.unset,.unset,.unset])) (ac (xA (Tg.t [5,6]) (eF jU [(eL 4),(eL 3),(eL 1)] [.unset,.unset,.unset,.unset,.unset])) (ac (bN (cC Jv (eB lU (eL 6) (eL 2)) (eK (V.int (.ofNat 15)))) cP aE) (ac (xE (eF lF [(eL 4),(eL 3),(eL 5)] [])) (ac (xA (Tg.n 7) (bz 10 gv [(eA (eL 4) 0),(eL 5),(eF jT [(eL 4),(eL 3)] [.unset,.unset])] [])) (au (bz 13 jp [(eL 7),(eB lU (eL 6) (eL 2)),(eL 4),(eA (eL 3) 19)] [])))))))⟩
def ct:Fn:=⟨BK,(ac (gC (Tg.n 1) (gp (eK (V.str [112,97,110,100,58,100,98,32,112,97,110,100,110,58,100,102,32,112,111,114,58,101,98,32,112,120,111,114,58,101,102,32,112,115,117,98,98,58,102,56,32,112,115,117,98,119,58,102,57,32,112,115,117,98,100,58,102,97,32,112,115,117,98,113,58,102,98,32,112,97,100,100,98,58,102,99,32,112,97,100,100,119,58,102,100,32,112,97,100,100,100,58,102,101,32,112,97,100,100,113,58,100,52,32,112,99,109,112,103,116,98,58,54,52,32,112,99,109,112,103,116,119,58,54,53,32,112,99,109,112,103,116,100,58,54,54,32,112,99,109,112,101,113,98,58,55,52,32,112,99,109,112,101,113,119,58,55,53,32,112,99,109,112,101,113,100,58,55,54,32,112,115,114,108,119,58,100,49,32,112,115,114,108,100,58,100,50,32,112,115,114,108,113,58,100,51,32,112,115,114,97,119,58,101,49,32,112,115,114,97,100,58,101,50,32,112,115,108,108,119,58,102,49,32,112,115,108,108,100,58,102,50,32,112,115,108,108,113,58,102,51,32,112,109,117,108,108,119,58,100,53,32,112,109,117,108,104,119,58,101,53,32,112,109,117,108,104,117,119,58,101,52,32,112,109,117,108,117,100,113,58,102,52,32,112,109,97,100,100,119,100,58,102,53,32,112,115,97,100,98,119,58,102,54,32,112,97,118,103,98,58,101,48,32,112,97,118,103,119,58,101,51,32,112,109,105,110,117,98,58,100,97,32,112,109,97,120,117,98,58,100,101,32,112,109,105,110,115,119,58,101,97,32,112,109,97,120,115,119,58,101,101,32,112,117,110,112,99,107,108,98,119,58,54,48,32,112,117,110,112,99,107,108,119,100,58,54,49,32,112,117,110,112,99,107,108,100,113,58,54,50,32,112,97,99,107,115,115,119,98,58,54,51,32,112,97,99,107,117,115,119,98,58,54,55,32,112,117,110,112,99,107,104,98,119,58,54,56,32,112,117,110,112,99,107,104,119,100,58,54,57,32,112,117,110,112,99,107,104,100,113,58,54,97,32,112,97,99,107,115,115,100,119,58,54,98,32,112,117,110,112,99,107,108,113,100,113,58,54,99,32,112,117,110,112,99,107,104,113,100,113,58,54,100,32,112,115,117,98,117,115,98,58,100,56,32,112,115,117,98,117,115,119,58,100,57,32,112,97,100,100,117,115,98,58,100,99,32,112,97,100,100,117,115,119,58,100,100,32,112,115,117,98,115,98,58,101,56,32,112,115,117,98,115,119,58,101,57,32,112,97,100,100,115,98,58,101,99,32,112,97,100,100,115,119,58,101,100])) 32) (bN (cC ce (qe (eL 1) (eK V.none) (dH (eK (V.int (.ofNat 3))))) (eA (eL 0) 0)) (au (eC (ig [(cC ce (eA (eL 0) 6) (eK (V.int (.ofNat 102)))),(cC ce (eA (eL 0) 3) (eK (V.int (.ofNat 1)))),(cC ce (sU (qe (eL 1) (dH (eK (V.int (.ofNat 2)))) (eK V.none))) (eA (eL 0) 2))]))) aE)) (au (eK (V.bool true))))⟩
def jV:Fn:=⟨az,(ac (Bs (eF lE [(eL 0),(xI (eL 1))] [(V.int (.ofNat 0)),.unset,.unset,.unset,.unset,.unset]) (au (eK (V.bool true)))) (au (eK (V.bool false))))⟩
end
section
set_option genCtorIdx false in
inductive Kd where
 |f (g:Str) |c (k:Nat) (g:Str) |m (c:Nat) (m:Str) (mid:Nat) |s (c m:Str) (a:Addr)
structure En where
 fa:Addr
 n:Nat
 fn:Fn
 np:Nat
 ns:Nat
 dfl:List V
 fl:Nat
 kd:Kd
 us:List Addr
 ms:List (List Addr)
 ks:List Nat
noncomputable def En.fe (e:En):kD:=⟨e.fn,e.np,e.ns,e.dfl⟩
noncomputable def AB:List En->Addr->Option En
 |[],_=>none
 |e::r,a=>ah (Nat.beq e.fa a) (some e) (AB r a)
def tH (D:List En) (n:Nat) (a:Addr) (d:α) (f:En->α):α:=ag (AB D a) d λe=>ah (Nat.ble (Nat.add e.n 2) n) (f e) d
def Oy {α:Type} (k:Kd) (f:Str->α) (c:Nat->Str->α) (m:Nat->Str->Nat->α) (s:Str->Str->Addr->α):α:=@Kd.rec (λ_=>α) f c m s k
def TA (D:List En) (n:Nat) (us:List Addr) (T:Tb):Tb:=bu T (λa _ T=>tH D n a T λe=>Oy e.kd (λg=>⟨(g,e.fe)::T.fns,T.cls,T.mts,T.cms,T.con⟩) (λk g=>⟨T.fns,(g,k,e.fe)::T.cls,T.mts,T.cms,T.con⟩) (λ_ _ _=>T) (λc m _=>⟨T.fns,T.cls,T.mts,(c,m,e.fe)::T.cms,T.con⟩)) us
def IH (D:List En) (n:Nat) (m:Str) (l:List Addr):List (Nat×kD):=bu [] (λa _ r=>tH D n a r λe=>Oy e.kd (λ_=>r) (λ_ _=>r) (λc m' _=>ah (decide (m'=m)) ((c,e.fe)::r) r) (λ_ _ _=>r)) l
def TB (D:List En) (n:Nat) (ms:List (List Addr)) (T:Tb):Tb:=bu T (λl _ T=>aw l T λa _=>tH D n a T λe=>Oy e.kd (λ_=>T) (λ_ _=>T) (λc m mid=>⟨T.fns,T.cls,(m,mid,IH D n m l)::T.mts,T.cms,T.con⟩) (λ_ _ _=>T)) ms
def Iy (C:List (Str×V×Tok)) (ks:List Nat):Tb:=bu ⟨[],[],[],[],[]⟩ (λi _ T=>ag (lY C i) T λp=>⟨T.fns,T.cls,T.mts,T.cms,(p.1,p.2.1)::T.con⟩) ks
def Nw (C:List (Str×V×Tok)) (D:List En) (n:Nat) (us:List Addr) (ms:List (List Addr)) (ks:List Nat):Tb:=TA D n us (TB D n ms (Iy C ks))
def vc (K:Frag) (e:En):Bool:=Oy e.kd (λg=>GA K g e.fa) (λk g=>LE K k g e.fa) (λc m mid=>Lk K c m e.fa&&RU mid m) (λc m a=>Mx K c m a e.fa)
noncomputable def NB (K:Frag) (fa:Addr):List Str:=match K.lookup fa with
 |some ⟨_,_,.func fd,_⟩=>(fd.scope.names.filter λx=>x.2==.local||x.2==.cell).map (·.1)
 |_=>[]
noncomputable def Tp (K:Frag) (fa:Addr):Str:=match K.lookup fa with
 |some ⟨_,_,.func fd,_⟩=>((fd.scope.names.filter λx=>x.2==.cell).map (·.1)).getD 0 default
 |_=>default
abbrev To:=(Bool×Bool×Sm×Nat)×Option (Bool×Option Ex×List (Option (List (Str×Value))))×Option (Bool×Option Ex×Sem (List (Str×Value))×List (Str×Addr))
def IW (K:Frag) (C:List (Str×V×Tok)) (D:List En) (e:En) (w:Nat->Value) (S:Setting) (N:Addr):To:=
  ((vc K e,decide (e.fl=2->e.np=e.ns/\e.dfl=[]),ah (Nat.beq e.fl 1) az e.fn.sm,(NB K e.fa).length),
   ah (Nat.beq e.fl 2) none (ki K (Nw C D e.n e.us e.ms e.ks) e.fa (NB K e.fa) e.np e.dfl (QK K e.fa) w S),
   ah (Nat.beq e.fl 2) (ic K (Nw C D e.n e.us e.ms e.ks) e.fa (NB K e.fa) (Tp K e.fa) w N) none)
def zc (K:Frag) (e:En) (w:Nat->Value) (N:Addr):To:=
  ((true,true,az,e.ns),
   ah (Nat.beq e.fl 2) none (kj e.fn.body (NB K e.fa) e.np e.dfl (QK K e.fa) w),
   ah (Nat.beq e.fl 2) (ie e.fn.body (NB K e.fa) (Tp K e.fa) w N) none)
def Cz (K:Frag) (C:List (Str×V×Tok)) (L:List En) (w:Nat->Value) (S:Setting) (N:Addr):List En->List To:=bu (λ_=>[]) (λe _ i D=>IW K C D e w S N::i (e::D)) L
noncomputable def HT (v:V) (t:Tok):Value:=match v with
 |.int c=>.int c t
 |.str s=>.str (Str.ofString (String.ofList (s.map Char.ofNat))) t
 |_=>.none
def D6 (v:V):Bool:=match v with
 |.int _=>true
 |.str s=>jH ((s.map Char.ofNat).map Char.toNat) s&&bj (λc=>Nat.blt c 128) s
 |_=>false
theorem HS (h:D6 v):∀T rg G,VR T rg G v (HT v t):=by
 cases v with
 |int c=>exactλT rg G=>.int c t
 |str s=>
  intro T rg G;refine bB h λh2 h1=>?_;rw[bp]at h2;have e:HT (.str s) t=.str (aj s) t:=by
   show Value.str (Str.ofString (String.ofList (s.map Char.ofNat))) t=_;refine aa (U3 ..) ?_;rw[((bG _ _).mp h1)]
  exact aa e (.str _ _ λx hx=>aQ (bO.mp h2 x hx))
 |_=>exact ao h
section
variable{Z:Zt} {P:Params} {n:Nat} {C:List (Str×V×Tok)} {D:List En}
def Ba (Z:Zt) (P:Params) (D:List En):Prop:=∀e∈D,gV Z (e.n+2) e.fe e.fa/\vc (aI P) e
def M7 (P:Params) (C:List (Str×V×Tok)):Prop:=∀p∈C,Qi P p.1 p.2.1
theorem o9:∀{D:List En} {a:Addr} {e:En},AB D a=some e->e∈D:=by
 intro D a e h
 induction D with
 |nil=>exact bd h
 |cons x r ih=>
  have h:ah (Nat.beq x.fa a) (some x) (AB r a)=some e:=h;cases q:Nat.beq x.fa a with
  |true=>rw[q]at h;refine FQ h ?_;exact aL ..
  |false=>rw[q]at h;exact bc _ (ih h)
theorem rN {Q:α->Prop} (H:Ba Z P D) {d:α} {f:En->α} (hd:Q d) (hf:∀e,gV Z (e.n+2) e.fe e.fa->vc (aI P) e->Nat.ble (e.n+2) n->Q (f e)):Q (tH D n a d f):=by
 unfold tH;cases q:AB D a with
 |none=>exact hd
 |some e=>
  show Q (ah (Nat.ble (e.n+2) n) (f e) d);cases z:Nat.ble (e.n+2) n with
  |true=>exact hf e (H e (o9 q)).1 (H e (o9 q)).2 z
  |false=>exact hd
theorem CP {Q:α->Prop} {e:En} {f:Str->α} {c m s} (K:Frag) (hb:vc K e) (h1:∀g,GA K g e.fa->Q (f g)) (h2:∀k g,LE K k g e.fa->Q (c k g)) (h3:∀c m' mid,Lk K c m' e.fa->RU mid m'->Q (m c m' mid)) (h4:∀c' m' a,Mx K c' m' a e.fa->Q (s c' m' a)):Q (Oy e.kd f c m s):=by
 obtain⟨fa,n,fn,np,ns,dfl,fl,kd,us,ms,ks⟩:=e;cases kd with
 |f g=>exact h1 g hb
 |c k g=>exact h2 k g hb
 |m c m' mid=>exact h3 c m' mid (ay hb).1 (ay hb).2
 |s c' m' a=>exact h4 c' m' a hb
theorem Kl (O:jZ Z P) (hC:M7 P C) (ks:List Nat):dD Z n (Iy C ks):=by
 induction ks with
 |nil=>exact .base O
 |cons i r ih=>
  show dD Z n (ag (lY C i) (Iy C r) λp=>⟨(Iy C r).fns,(Iy C r).cls,(Iy C r).mts,(Iy C r).cms,(p.1,p.2.1)::(Iy C r).con⟩);refine aa (iE ..) ?_;cases q:C[i]? with
  |none=>exact ih
  |some p=>exact .addK O (hC p (List.mem_of_getElem? q)) ih
theorem B3 (O:jZ Z P) (H:Ba Z P D) (m:Str) (l:List Addr):kC Z n m (IH D n m l):=by
 induction l with
 |nil=>exact .nil
 |cons a r ih=>
  refine rN H ih λe h hb hn=>?_;refine CP (aI P) hb (λ_ _=>ih) (λ_ _ _=>ih) (λc m' mid h1 h2=>?_) λ_ _ _ _=>ih;cases q:decide (m'=m)with
  |true=>have:=cg q;subst this;exact .cons O h hn h1 ih
  |false=>exact ih
theorem Kk (O:jZ Z P) (H:Ba Z P D) (ms:List (List Addr)) {T:Tb} (hT:dD Z n T):dD Z n (TB D n ms T):=by
 induction ms with
 |nil=>exact hT
 |cons l r ih=>
  cases l with
  |nil=>exact ih
  |cons a l=>
   exact rN H ih λe h hb hn=>CP (aI P) hb (λ_ _=>ih) (λ_ _ _=>ih) (λc m mid h1 h2=>.addM O (B3 O H m _) h2 ih) λ_ _ _ _=>ih
theorem Kj (O:jZ Z P) (H:Ba Z P D) (us:List Addr) {T:Tb} (hT:dD Z n T):dD Z n (TA D n us T):=by
 induction us with
 |nil=>exact hT
 |cons a r ih=>
  exact rN H ih λe h hb hn=>CP (aI P) hb (λg h1=>.addF O h hn h1 ih) (λk g h1=>.addC O h hn h1 ih) (λ_ _ _ _ _=>ih) λc m a h1=>.addS O h hn h1 ih
theorem we (O:jZ Z P) (hC:M7 P C) (H:Ba Z P D) (us:List Addr) (ms:List (List Addr)) (ks:List Nat):dD Z n (Nw C D n us ms ks):=Kj O H us (Kk O H ms (Kl O hC ks))
def Qc (Z:Zt) (e:En):Prop:=∀n,gV Z n ⟨⟨az,e.fn.body⟩,e.np,e.ns,e.dfl⟩ e.fa->gV Z n e.fe e.fa
theorem FN (O:jZ Z P) (hC:M7 P C) (H:Ba Z P D) {e:En} (h:∀w S N,IW (aI P) C D e w S N=zc (aI P) e w N) (hs:e.fl=1->Qc Z e):Ba Z P (e::D):=by
 have h1:=λw S=>(Prod.mk.inj (Prod.mk.inj (h w S 0)).2).1;have h2:=λw N=>(Prod.mk.inj (Prod.mk.inj (h w ⟨Z.prog,Z.w.params⟩ N)).2).2;refine kN (Prod.mk.inj (Prod.mk.inj (h (λ_=>.none) ⟨Z.prog,Z.w.params⟩ 0)).1) λg1 g=>?_;refine kN (Prod.mk.inj g) λg2 g=>?_;refine kN (Prod.mk.inj g) λg3 g4=>?_;have TK:=we (n:=e.n) O hC H e.us e.ms e.ks;have main:=by
  cases q:Nat.beq e.fl 2 with
  |false=>
   replace h1:=q▸h1;exact Pp O TK h1 (by rw[g4])
  |true=>
   replace h2:=(q ..)▸h2;exact kN (cg g2 (gB q)) λe1 e2=>Md O TK h2 (by refine aa g4 ?_;refine aa e1 ?_;rw[e2])
 intro x hx;rcases bk.mp hx with rfl |hx
 ·refine⟨?_,g1⟩;cases q:Nat.beq x.fl 1 with
  |true=>exact hs (gB q) _ main
  |false=>
   rw[q]at g3;have:x.fe=⟨⟨az,x.fn.body⟩,x.np,x.ns,x.dfl⟩:=by
    show(⟨⟨x.fn.sm,x.fn.body⟩,x.np,x.ns,x.dfl⟩:kD)=_;rw[show x.fn.sm=az from g3]
   exact aa this (main)
 ·exact H x hx
theorem Oc (O:jZ Z P) (hC:M7 P C):∀(L D:List En),Ba Z P D->(∀w S N,Cz (aI P) C L w S N D=L.map λe=>zc (aI P) e w N)->(∀e∈L,e.fl=1->Qc Z e)->Ba Z P (L.reverse++D):=by
 intro L
 induction L with
 |nil=>exactλD H _ _=>H
 |cons e r ih=>
  intro D H h hs;refine aa List.reverse_cons (aa (List.append_assoc ..) ?_);refine ih (e::D) (FN O hC H (λw S N=>(List.cons.inj (h w S N)).1) (hs e (aL ..))) (λw S N=>(List.cons.inj (h w S N)).2) λx hx=>hs x (bc _ hx)
theorem Ba.get (H:Ba Z P D) (h:AB D a=some e):gV Z (e.n+2) e.fe e.fa:=(H e (o9 h)).1
theorem VJ (h:C.map (λp=>nsIn (aI P) mainGlobals p.1)=C.map λp=>some (some (HT p.2.1 p.2.2))) (hb:C.all (λp=>D6 p.2.1)):M7 P C:=λp hp=>by
 have:=List.map_inj_left.mp h p hp;exact⟨_,this,HS (bO.mp hb p hp)⟩
end
end
section
structure Il (Z:Zt):Prop where
 mem:∀n,gV Z n ⟨⟨az,aG.body⟩,2,15,[]⟩ 1135->gV Z n ⟨aG,2,15,[]⟩ 1135
 iat:∀n,gV Z n ⟨⟨az,aM.body⟩,4,4,[]⟩ 992->gV Z n ⟨aM,4,4,[]⟩ 992
 rdm:∀n,gV Z n ⟨⟨az,a9.body⟩,2,8,[]⟩ 643->gV Z n ⟨a9,2,8,[]⟩ 643
 mof:∀n,gV Z n ⟨⟨az,bS.body⟩,8,12,[]⟩ 650->gV Z n ⟨bS,8,12,[]⟩ 650
 agr:∀n,gV Z n ⟨⟨az,ct.body⟩,1,2,[]⟩ 1107->gV Z n ⟨ct,1,2,[]⟩ 1107
def vg:List (Str×V×Tok):=("PLAIN_LANES",qE,1558)::("EQUAL_LANES",qG,1560)::("BITS_OF_FLOATS",mc,1562)::("ABOVE_LANES",qH,1564)::("SATURATED",vt,1566)::("ENDS",MC,1568)::("PRODUCTS",xT,1570)::("SHIFTED",AU,1572)::("MIXED",H5,1574)::("NARROWED",xV,1576)::("SUMS_OF_FLOATS",ma,1578)::("PAIRS_OF_FLOATS",lx,1580)::("_law_names",th,1669)::("_law_short",te,1673)::("FS",Te,1016)::("GS",Td,1018)::("DATA_prefixes",mX,1020)::("REPNE",HZ,1022)::("REP",PR,1024)::("LOCK",MB,1026)::("ESCAPE",Ee,1165)::("DATA_decoder",pA,1167)::("NO_BASE",AV,938)::("WITH_SIB",xR,940)::("FROM_RIP",xZ,942)::("REGISTER",xS,1171)::("NOP",PS,1169)::("HIGH_NAMES",tn,819)::("NAMES_8",AW,811)::("NAMES_16",xY,813)::("NAMES_32",xX,815)::("NAMES_64",xW,817)::("NO_INDEX",xU,936)::("LOCKED",Ed,325)::("MOVED",H3,327)::("COMPARED",ya,329)::("MOST_OCTETS",qF,1163)::("_law_codes",tj,1671)::[]
def oF:En:=⟨1100,0,ky,2,5,[],0,.f "_law_cell",[],[],[]⟩
def w8:En:=⟨127,0,kz,1,1,[],0,.f "is_fixed",[],[],[]⟩
def oG:En:=⟨134,0,ez,1,1,[],0,.f "is_immediate",[],[],[]⟩
def qy:En:=⟨141,0,eW,1,1,[],0,.f "is_relative",[],[],[]⟩
def ou:En:=⟨148,0,gt,1,1,[],0,.f "takes_memory",[],[],[]⟩
def Ao:En:=⟨169,2,rH,1,1,[],0,.f "slot_of",[127,134,141,148],[],[]⟩
def uA:En:=⟨182,4,aC,9,9,[(V.int (.ofNat 0)),(V.int (.negSucc 0)),(V.int (.ofNat 0)),(V.int (.ofNat 0)),(V.bool false)],0,.c 4 "Form",[169],[],[]⟩
def uy:En:=⟨1041,6,bT,5,5,[],0,.f "both_ways",[182],[],[]⟩
def ut:En:=⟨1053,8,mH,0,1,[],0,.f "move_rows",[1041,182],[],[]⟩
def Ap:En:=⟨1034,0,ij,1,5,[],0,.f "rows_of",[],[],[]⟩
def Gu:En:=⟨1046,6,jE,2,2,[],2,.f "lanes",[1034,182],[],[]⟩
def oj:En:=⟨1060,10,jk,0,0,[],0,.f "vector_forms",[1053,1046],[],[0,1,2]⟩
def sv:En:=⟨1067,8,lD,0,4,[],0,.f "half_moves",[1041,182],[],[]⟩
def oE:En:=⟨1074,10,jn,0,4,[],0,.f "packed_forms",[1046,1067,182],[],[3,4,5,6,7,8,9]⟩
def Ar:En:=⟨1081,0,mh,0,0,[],0,.f "endings",[],[],[]⟩
def ux:En:=⟨1086,6,mK,0,1,[],0,.f "converted",[182],[],[]⟩
def qA:En:=⟨1093,8,jX,0,6,[],0,.f "float_forms",[1034,1081,1046,1041,1086,182],[],[10,11]⟩
def wY:En:=⟨1114,12,ku,1,1,[],0,.f "_law_rows",[1060,1074,1093],[],[]⟩
def mU:En:=⟨210,0,iT,1,1,[],0,.m 4 "has_plus" 999,[],[],[]⟩
def xe:En:=⟨952,2,pP,1,1,[],2,.f "codes_of",[],[[210]],[]⟩
def iX:En:=⟨966,4,eJ,2,5,[],0,.c 15 "InstructionSet",[952],[],[]⟩
def uz:En:=⟨189,0,dB,1,1,[],0,.m 4 "told" 999,[],[],[]⟩
def xh:En:=⟨308,0,pS,1,1,[],0,.m 6 "told" 999,[],[],[]⟩
def xj:En:=⟨417,0,pT,1,3,[],0,.m 9 "told" 999,[],[],[]⟩
def xl:En:=⟨342,0,pU,1,1,[],0,.m 7 "told" 999,[],[],[]⟩
def j8:En:=⟨468,2,be,1,1,[],0,.m 10 "told" 999,[],[[308,417,342]],[]⟩
def uu:En:=⟨1121,0,jo,2,2,[],0,.f "_law_named",[],[],[12,13]⟩
def wX:En:=⟨1128,0,pK,1,1,[],0,.f "_law_size",[],[],[]⟩
def kR:En:=⟨1135,2,aG,2,15,[],1,.f "_law_memory",[1128],[],[12]⟩
def wZ:En:=⟨1142,4,pL,4,23,[],0,.f "_law_laid",[1121,1135],[[189,468]],[]⟩
def mS:En:=⟨693,0,bM,6,6,[(V.str []),(V.bool false),(V.int (.ofNat 0)),(V.bool false),(V.int (.negSucc 0))],0,.c 12 "Prefixes",[],[],[]⟩
def Cr:En:=⟨664,0,vG,1,1,[],0,.f "is_rex",[],[],[]⟩
def j7:En:=⟨707,0,bE,1,1,[],0,.m 12 "has_rex" 999,[],[],[]⟩
def mT:En:=⟨805,0,cn,1,1,[],0,.m 14 "has_rex" 999,[],[],[]⟩
def wU:En:=⟨742,2,pI,2,2,[],0,.f "with_rex",[693],[],[]⟩
def An:En:=⟨678,0,mf,1,1,[],0,.f "sort_of",[],[],[14,15,16,17,18,19]⟩
def qm:En:=⟨749,2,jR,2,4,[],0,.f "with_legacy",[678,693],[[707,805]],[14]⟩
def mO:En:=⟨756,4,iQ,2,4,[],0,.f "read_prefixes",[664,742,678,749,693],[[707,805]],[]⟩
def wV:En:=⟨657,0,pJ,1,1,[],0,.f "rex_bits",[],[],[]⟩
def sx:En:=⟨798,2,lG,4,5,[],0,.c 14 "Frame",[657],[],[]⟩
def kW:En:=⟨819,0,gN,2,3,[],0,.m 14 "take_code" 999,[],[],[20]⟩
def fm:En:=⟨992,0,aM,4,4,[],1,.m 15 "at" 45,[],[],[]⟩
def kU:En:=⟨826,2,gM,2,3,[],0,.m 14 "take_must" 999,[],[[992]],[21]⟩
def lX:En:=⟨203,0,ik,1,1,[],0,.m 4 "has_modrm" 999,[],[],[]⟩
def wW:En:=⟨629,0,kt,2,2,[],0,.f "octet_at",[],[],[]⟩
def om:En:=⟨608,0,gr,1,1,[],0,.f "unpack_three",[],[],[]⟩
def on:En:=⟨615,2,jl,1,1,[],0,.f "unpack_modrm",[608],[],[]⟩
def mQ:En:=⟨636,0,iS,3,3,[],0,.f "disp_width_of",[],[],[22,23,24]⟩
def qz:En:=⟨113,0,gT,1,4,[],0,.f "from_little",[],[],[]⟩
def K3:En:=⟨92,0,Ew,1,1,[],0,.f "mask",[],[],[]⟩
def K2:En:=⟨99,2,Eu,2,2,[],0,.f "wrap",[92],[],[]⟩
def Cp:En:=⟨106,4,vD,2,3,[],0,.f "signed",[99],[],[]⟩
def i7:En:=⟨120,6,cw,1,1,[],0,.f "from_little_signed",[106,113],[],[]⟩
def kQ:En:=⟨643,8,a9,2,8,[],1,.f "read_modrm",[615,629,636,120],[],[23]⟩
def kb:En:=⟨833,10,gy,2,3,[],0,.m 14 "take_modrm" 999,[643],[],[]⟩
def kY:En:=⟨812,0,de,1,1,[],0,.m 14 "is_narrow" 999,[],[],[21]⟩
def uw:En:=⟨847,2,mJ,2,2,[],0,.f "fits_size",[],[[812]],[]⟩
def xa:En:=⟨852,0,pN,2,2,[],0,.f "fits_mod",[],[],[25]⟩
def w9:En:=⟨859,0,pM,2,3,[],0,.f "fits_nop",[],[],[26]⟩
def Cq:En:=⟨866,4,vF,2,3,[],0,.f "picked",[847,852,859],[],[]⟩
def ss:En:=⟨939,12,lB,3,7,[],0,.f "read_frame",[756,866,798],[[819],[826],[992],[203],[833]],[]⟩
def sy:En:=⟨196,0,lH,1,1,[],0,.m 4 "slots" 999,[],[],[]⟩
def mR:En:=⟨517,0,ck,5,5,[],0,.c 11 "Register",[],[],[]⟩
def NZ:En:=⟨594,2,Et,1,1,[],0,.f "xmm",[517],[],[]⟩
def oH:En:=⟨259,0,dA,2,2,[],0,.s "Operand" "__init__" 283,[],[],[]⟩
def xi:En:=⟨301,2,cV,2,2,[],0,.c 6 "Reg",[259],[],[]⟩
def uv:En:=⟨155,2,ef,1,1,[],0,.f "kind_size",[134,141,127],[],[]⟩
def K5:En:=⟨587,2,Ey,1,1,[],0,.f "high",[517],[],[27]⟩
def qB:En:=⟨566,0,jY,1,1,[],0,.f "early_names",[],[],[28,29,30,31]⟩
def qx:En:=⟨573,0,jW,1,1,[],0,.f "late_ending",[],[],[]⟩
def N1:En:=⟨580,2,mI,2,3,[],0,.f "gpr",[566,573,517],[],[]⟩
def qn:En:=⟨873,4,eV,3,3,[],0,.f "register_at",[587,580],[],[]⟩
def qo:En:=⟨880,6,jS,2,3,[],0,.f "reg_operand",[594,873,155,301],[[707,805]],[]⟩
def N0:En:=⟨601,2,Jx,0,0,[],0,.f "rip",[517],[],[]⟩
def xk:En:=⟨410,2,gu,8,8,[(V.int (.ofNat 0)),(V.str []),(V.str [])],0,.c 9 "Mem",[259],[],[]⟩
def sp:En:=⟨622,2,lz,1,1,[],0,.f "unpack_sib",[608],[],[]⟩
def mx:En:=⟨650,4,bS,8,12,[],1,.f "memory_of",[601,580,622,410],[],[32,22,23,24]⟩
def sq:En:=⟨887,6,lA,2,5,[],0,.f "rm_operand",[155,650,594,873,301],[[707,805]],[25]⟩
def oy:En:=⟨894,6,jm,2,3,[],0,.f "plus_operand",[873,155,301],[[707,805]],[]⟩
def xm:En:=⟨335,2,iI,3,3,[(V.str [])],0,.c 7 "Imm",[259],[],[]⟩
def mP:En:=⟨901,4,iR,1,1,[],0,.f "fixed_operand",[580,155,335,301],[],[]⟩
def su:En:=⟨162,2,lC,1,1,[],0,.f "kind_width",[134,141],[],[]⟩
def xd:En:=⟨908,0,pO,3,4,[],0,.f "field_at",[],[],[]⟩
def xg:En:=⟨369,2,pR,3,3,[(V.str [])],0,.c 8 "Rel",[259],[],[]⟩
def kP:En:=⟨915,8,gL,3,3,[],0,.f "written_operand",[120,113,369,335],[],[]⟩
def qu:En:=⟨922,10,jU,3,8,[],0,.f "operands_of",[880,887,894,901,162,915,908],[[196]],[]⟩
def xf:En:=⟨238,2,pQ,1,1,[],0,.f "can_lock",[148],[],[33]⟩
def sw:En:=⟨927,4,lF,3,3,[],0,.f "check_used",[238],[[812]],[]⟩
def Aq:En:=⟨245,0,rI,1,1,[],0,.f "repeats",[],[],[34,35]⟩
def qt:En:=⟨934,2,jT,2,4,[],0,.f "prefix_word",[245],[],[]⟩
def j9:En:=⟨463,0,gv,4,4,[(V.str [])],0,.c 10 "Instruction",[],[],[]⟩
def oJ:En:=⟨770,0,jp,5,5,[],0,.c 13 "Decoded",[],[],[]⟩
def Cs:En:=⟨947,14,lE,3,8,[(V.int (.ofNat 0))],0,.f "decode",[939,922,927,934,463,770],[],[36]⟩
def kT:En:=⟨1107,0,ct,1,2,[],1,.f "_law_agrees",[],[],[37]⟩
def qw:En:=⟨1149,16,jV,2,2,[],0,.f "_law_refused",[947],[],[]⟩
def DQ:List En:=oF::w8::oG::qy::ou::Ao::uA::uy::ut::Ap::Gu::oj::sv::oE::Ar::ux::qA::wY::mU::xe::iX::uz::xh::xj::xl::j8::uu::wX::mS::Cr::j7::mT::wU::An::qm::mO::wV::sx::kW::lX::wW::om::on::mQ::qz::K3::K2::Cp::i7::kY::uw::xa::w9::Cq::sy::mR::NZ::oH::xi::uv::K5::qB::qx::N1::qn::qo::N0::xk::sp::oy::xm::mP::su::xd::xg::kP::xf::sw::Aq::qt::j9::oJ::[]
def DP:List En:=kR::wZ::fm::kU::kQ::kb::ss::mx::sq::qu::Cs::kT::qw::[]
def Px:List En:=DQ.reverse++[]
def Un:List En:=DP.reverse++Px
theorem Ls (P:Params):vg.map (λp=>nsIn (aI P) mainGlobals p.1)=vg.map λp=>some (some (HT p.2.1 p.2.2)):=by kernel_rfl
theorem Lr:vg.all (λp=>D6 p.2.1):=by kernel_rfl
theorem OG (P:Params) (w:Nat->Value) (S:Setting) (N:Addr):Cz (aI P) vg DQ w S N []=DQ.map λe=>zc (aI P) e w N:=by kernel_rfl
theorem OF (P:Params) (w:Nat->Value) (S:Setting) (N:Addr):Cz (aI P) vg DP w S N Px=DP.map λe=>zc (aI P) e w N:=by kernel_rfl
theorem Sp:DQ.filter (λe=>Nat.beq e.fl 1)=[]:=by kernel_rfl
theorem So:DP.filter (λe=>Nat.beq e.fl 1)=[kR,fm,kQ,mx,kT]:=by kernel_rfl
theorem DE {L:List En} (h:e∈L) (q:e.fl=1):e∈L.filter λe=>Nat.beq e.fl 1:=List.mem_filter.mpr ⟨h,by rw[q];rfl⟩
section
variable{Z:Zt} {P:Params}
theorem HY (P:Params):M7 P vg:=VJ (Ls P) Lr
theorem D4 (O:jZ Z P):Ba Z P Px:=Oc O (HY P) DQ [] (λe h=>by cases h) (OG P) λe h q=>by
 have:=DE h q;rw[Sp]at this;cases this
theorem PJ (O:jZ Z P) (S:Il Z):Ba Z P Un:=Oc O (HY P) DP Px (D4 O) (OF P) λe h q=>by
 have:=DE h q;rw[So]at this;rcases bk.mp this with rfl |this
 ·exact S.mem
 rcases bk.mp this with rfl |this
 ·exact S.iat
 rcases bk.mp this with rfl |this
 ·exact S.rdm
 rcases bk.mp this with rfl |this
 ·exact S.mof
 rcases bk.mp this with rfl |this
 ·exact S.agr
 cases this
theorem xz (O:jZ Z P):gV Z 2 ⟨ky,2,5,[]⟩ 1100:=(D4 O).get (a:=1100) (e:=oF) (by kernel_rfl)
end
end
section
def HU:V->Bool:=λx=>@V.rec (λ_=>Bool) (λ_=>Bool) false true (λ_=>true) (λ_=>true) (λ_ _=>false) (λ_=>true) (λ_ _ _=>false) (λ_=>false) (λ_ i=>false) (λ_ i=>i) (λk=>eu k (λ_=>false) (λ_=>true)) (λ_ _=>false) (λ_=>false) true (λ_ _ a b=>ah a b false) x
def PO:List V->Bool:=bu true λx _ i=>ah (HU x) i false
def Tc:O->Bool:=λx=>oc x PO (λ_ fs=>bu true (λp _ i=>ah (HU p.2) i false) fs) (λes=>bu true (λp _ i=>ah (HU p.2) i false) es) (λ_ _=>false) (λ_=>false) (λ_ _=>false) (λ_=>false) (λ_ _=>false)
def HW:Tr->Bool:=λt=>@Tr.rec (λ_=>Bool) true (λv _ _ a b=>ah (ag v true Tc) (ah a b false) false) t
noncomputable def Gh.alone (G:Gh) (ν:List Int):Gh:=⟨λi=>match i with |.g p=>G.ρ (.g p) |.d _=>none,ν,G.H⟩
section
variable{Z:Zt} {X:Fx} {n:Nat} {sc:Scope} {sl:List Str} {G:Gh} {ν:List Int} {T:cW} {rg:Addr}
theorem eU (h:ah a b false=true):a/\b:=by cases a<;>first |exact⟨rfl,h⟩ |exact ao h
theorem zq:∀l:List V,HU (.tup l)=PO l
 |[]=>rfl
 |v::l=>by
  show ah (HU v) (HU (.tup l)) false=ah (HU v) (PO l) false;rw[zq l]
theorem VR.alone (h:VR T rg G v w):HU v->VR T rg (G.alone ν) v w:=
 @VR.rec T rg G (λv w _=>HU v->VR T rg (G.alone ν) v w) (λl ws _=>PO l->SR T rg (G.alone ν) l ws) (λ_=>.none) (λb _=>.bool b) (λc t _=>.int c t) (λ_ _ _ _ _ _ h=>ao h) (λs t x _=>.str s t x)
  (λ_ _ _ _ _ _ _ _ _ _ h=>ao h) (λ_ _ _ h=>ao h) (λ_ _ _ _ _ _ _ h=>ao h) (λl ws a _ e i h=>.tup l ws a (i ((zq l).symm.trans h)) e)
  (λk a d e h=>by
   cases k with
   |g p=>exact .ref _ a d e
   |d p=>exact ao h)
  (λ_ _ _ h=>ao h) (λ_ _ _ _ _ _ _ _ _ _ _ h=>ao h) (λ_=>.nil) (λv w l ws _ _ i j h=>.cons v w l ws (i (eU h).1) (j (eU h).2)) (λ_ _ _ _ _ _ _ _ _ h=>ao h) v w h
theorem SR.alone (h:SR T rg G l ws) (c:PO l):SR T rg (G.alone ν) l ws:=by
 induction l generalizing ws with
 |nil=>induction h using SR.knil;exact .nil
 |cons v l ih=>
  induction h using SR.kcons with
  |cons w ws hv r=>exact .cons v w l ws (hv.alone (eU c).1) (ih r (eU c).2)
  |seg _ _ _ _ e0=>subst e0;exact ao c
theorem F2.impP {R R':α->β->Prop} {p:α->Bool} {l:List α} {r:List β} (h:F2 R l r) (f:∀a b,p a->R a b->R' a b):(bu true (λx _ i=>ah (p x) i false) l:Bool)->F2 R' l r:=by
 induction h with
 |nil=>exactλ_=>.nil
 |@cons a b l r x hr ih=>
  intro h;exact ax h λh2 h1=>.cons (f _ _ h1 x) (ih h2)
theorem OR.alone {x:O} (h:Tc x) (r:OR Z Hs G a d x):OR Z Hs (G.alone ν) a d x:=by
 cases x with
 |list l=>refine kN r λe zz0=>?_;refine aJ zz0 λws n h1 h2=>?_;exact⟨e,ws,n,h1,SR.alone h2 h⟩
 |inst c fs=>refine kN r λe zz1=>?_;refine ak zz1 λes n h1 h2 h3=>?_;exact⟨e,es,n,h1,h2,F2.impP h3 (λa b hp x=>⟨x.1,x.2.1,VR.alone x.2.2 hp⟩) h⟩
 |dict es=>
  refine iP r λe ne zz2=>?_;refine aJ zz2 λds n h1 h2=>?_;refine⟨e,ne,ds,n,h1,?_⟩;refine h2.elim (λz=>fb z λkvs k1 k2 k3 k4=>?_) λz=>gD z λxs k1 k2 k3=>?_
  ·exact .inl ⟨kvs,k1,k2,k3,F2.impP k4 (λa b hp x=>⟨x.1,VR.alone x.2 hp⟩) h⟩
  ·exact .inr ⟨xs,k1,k2,F2.impP k3 (λa b hp x=>⟨x.1,VR.alone x.2 hp⟩) h⟩
 |_=>exact ao h
theorem tc:∀{t:Tr} {p:Pz} {o:O},HW t->t.get p=some o->Tc o
 |.nil,_,_,_,e=>bd e
 |.node v l r,p,o,h,e=>by
  refine ax h λh2 h1=>?_;refine ax h2 λh3 h2=>?_;cases p with
  |h=>have e:=e;subst e;exact h1
  |o p=>exact tc h2 e
  |e p=>exact tc h3 e
noncomputable def vS (Z:Zt) (d:List gA):St:=⟨.nil,.h,d,[],Z.g0,Z.x0,.nil⟩
theorem ap.room {G vs st m s tr} (I:ap Z X sl G vs st m s tr) (hc:HW Z.g0) (D:dn ν (vS Z d)) (hp:Z.n0 <+:ν) (hB:(B=bv X tr s.heap/\H=G.H)\/(B=X.xb/\H=X.h0)):
  ap Z (eE X B .nil H) [] (G.alone ν) [] (vS Z d) m s tr:=by
 have get:∀i o,dj i (vS Z d)=some o->∃p,i=.g p/\Z.g0.get p=some o:=λi o e=>by
  cases i with
  |g p=>exact⟨p,rfl,e⟩
  |d p=>exact bd e
 refine⟨I.sh,I.fr,I.nw,I.nd,λi x v a=>(by cases i<;>exact bd a),rfl,I.out,λi o e=>?_,λp o e=>(bd e),I.imm,?_,λi a d h=>?_,I.hel,λp _=>rfl,D,⟨λb o e=>?_,?_,λp hp=>?_,λp o e=>(bd e),rfl,rfl,rfl,λa o e=>?_,hp⟩⟩
 ·refine aA (get i o e) λp ee3 e=>?_;refine aa ee3 ?_;exact aJ (I.sto (.g p) o (by show st.g.get p=some o;refine aa I.xok.g ?_;exact e)) λa d r y=>⟨a,d,r,OR.alone (tc hc e) y⟩
 ·refine fb I.own λow o1 o2 o3 o4=>?_;refine⟨ow,λi a d h=>?_,o2,o3,o4⟩;cases i with
  |g p=>exact o1 _ _ _ h
  |d p=>exact bd h
 ·cases i with
  |g p=>exact I.rng _ _ _ h
  |d p=>exact bd h
 ·rcases hB with⟨rfl,_⟩ |⟨rfl,_⟩
  ·refine iP (ej e) λh1 zz4 _=>?_;refine kX zz4 λo' h2=>?_;have:o=o':=ch (h1.symm.trans (I.get h2));exact aa this (h2)
  ·exact I.xok.has b o e
 ·rcases hB with⟨rfl,_⟩ |⟨rfl,_⟩
  ·cases q:(bv X tr s.heap).get? X.L with
   |none=>exact q
   |some o=>exact absurd rfl (ej q).2.2.1
  ·exact I.xok.loc
 ·rcases hB with⟨rfl,_⟩ |⟨rfl,_⟩
  ·cases q:(bv X tr s.heap).get? p.1 with
   |none=>exact q
   |some o=>exact absurd rfl ((ej q).2.2.2 p hp)
  ·exact I.xok.out p hp
 ·rcases hB with⟨_,rfl⟩ |⟨rfl,rfl⟩
  ·exact .inl e
  ·exact I.xok.h a o e
theorem FxOk.tryO (F:FxOk Z X n sc) (B:Heap) (f:Tr) (H:Addr->Option Obj):FxOk Z (eE X B f H) n sc:=⟨F.inK,F.top,F.frames,F.handled,F.depth,F.units,F.locals,F.frame,F.fkind,F.scope,F.kind,F.globals,F.builtins,F.outK,F.frs⟩
def Qd (Z:Zt) (X:Fx) (sl:List Str) (G:Gh) (vs:Vs) (st:St) (m:jF) (ν:List Int) (tr:List (Addr×Obj)) (h:Heap) (k:K) (w:Value) (s':Shared):Prop:=
 E5 λG2 v st2 tr2 tr3=>A6 ((G.alone ν).Le G2) (VR Z.T Z.rg G2 v w) (k v st2) (ap Z (eE X (bv X tr h) .nil G.H) [] G2 [] st2 m s' tr2) (tr3.map (·.1)=tr.map (·.1)) (ap Z X sl G vs st m s' tr3)
theorem m8 {G vs st m s tr} (F:FxOk Z X (n+1) sc) (I:ap Z X sl G vs st m s tr) (hc:HW Z.g0) {d:List gA} (D:dn ν (vS Z d)) (hp:Z.n0 <+:ν) {f:Fn} {fa:Addr} {na:Nat} {pad:List V} (hf:iY Z n f fa na pad) 
  (ha:F2 (VR Z.T Z.rg (G.alone ν)) as ws) (hw:ws.length=na) (y:dy f as pad (vS Z d) k (λ_=>false)=true) {R:Result->Shared->Prop} (q:∀w s',Qd Z X sl G vs st m ν tr s.heap k w s'->R (.ok (.ret w)) s'):
  codeAny (model Z.prog Z.w) X.A (.call (.ref fa) ⟨ws,[]⟩) R s:=by
 refine codeAny_mono (hf sc [] (eE X (bv X tr s.heap) .nil G.H) (F.tryO _ _ _) (G.alone ν) [] (vS Z d) m s k (λ_=>false) as ws ⟨tr,(I.room hc D hp (.inl ⟨rfl,rfl⟩))⟩ ha hw y) λr s' h=>?_;have bad:∀{x:Value} {s':Shared},¬c6 Z (eE X (bv X tr s.heap) .nil G.H) (G.alone ν).ν m (λ_=>false) x s':=λh=>by
  refine kN h λzz5 _=>?_;obtain⟨_,_,_,_,_,z⟩:=zz5;exact ao z
 cases r with
 |error e=>exact absurd h bad
 |ok fl=>
  cases fl with
  |ret w=>
   refine bX h λG2 v st2 L hv hk zz6=>?_;refine kX zz6 λtr2 J2=>?_;obtain⟨tr3,f3,I3⟩:=I.caughtA (dN _) I.num J2.sh (λb o e=>J2.get (J2.xok.has b o e)) J2.fr.ns λp hp=>by
    exact aA (J2.out p hp) λo h1 h2=>lT (J2.nw _ h1).1 h2
   exact q w s' ⟨G2,v,st2,tr2,tr3,L,hv,hk,J2,f3,I3⟩
  |_=>exact h.elim
end
end
section
def nS (l:List V):List V->Bool:=bu (λb=>cL b) (λx _ i b=>aw b false λy r=>ah (dY x λp=>dY y λq=>xv p q) (i r) false) l
def EC (g:Tr) (l:List V) (o:Option V):Bool:=ag o (cL l) λv=>dY v λq=>eu q (λ_=>false) λq=>ag (g.get q) false λo=>bJ o (nS l)
def P4 (g:Tr) (es:List (V×V)) (op must:Nat) (l:List V):Bool:=ah (szOk l) (HP es (.tup [.int (.ofNat must),.int (.ofNat 1),.int (.ofNat op)]) (EC g l)) false
def Jy (g:Tr) (es:List (V×V)) (tab:List (Nat×List (Nat×List V))):Bool:=bj (λr=>bj (λs=>P4 g es r.1 s.1 s.2) r.2) tab
def ED (g:Tr) (x:Xt):Bool:=eu x.ts (λ_=>false) λp=>ag (g.get p) false λo=>Ci o λ_ fs=>ag (gE fs 12) false λv=>dY v λq=>eu q (λ_=>false) λq=>ag (g.get q) false λo=>nZ o λes=>Jy g es x.tab
theorem se:∀{p q:Pz},KD p q->p=q
 |.h,.h,_=>rfl
 |.h,.o _,h=>ao h
 |.h,.e _,h=>ao h
 |.o _,.h,h=>ao h
 |.o p,.o q,h=>by rw[se (p:=p) h]
 |.o _,.e _,h=>ao h
 |.e _,.h,h=>ao h
 |.e _,.o _,h=>ao h
 |.e p,.e q,h=>by rw[se (p:=p) h]
theorem lg {i j:AI} (h:xv i j):i=j:=by
 cases i<;>cases j<;>first |(rw[se h]) |exact ao h
theorem qS:∀{l r:List V},nS l r->l=r
 |[],[],_=>rfl
 |[],_::_,h=>ao h
 |x::l,[],h=>ao h
 |x::l,y::r,h=>by
  refine ax h λh2 h1=>?_;refine aA (cb h1) λp e1 h3=>?_;refine aA (cb h3) λq e2 h4=>?_;refine aa e1 ?_;refine aa e2 ?_;refine aa (lg h4) ?_;rw[qS h2]
theorem qJ {k k':KT} (h:∀c ts,k c ts=true->k' c ts=true) (e:cF v k=true):cF v k'=true:=by
 cases v<;>first |exact h _ _ e |exact ao e
theorem yM {ts:Ts} {a b:af} (h:a=true->b=true) (e:aw ts a (λ_ _=>false)=true):aw ts b (λ_ _=>false)=true:=by
 cases ts with
 |nil=>exact h e
 |cons=>exact ao e
theorem oX {k1 k2:Bool->af} (h:∀t,k1 t=true->k2 t=true):∀{x y:List V},gR x y k1=true->gR x y k2=true
 |[],y,e=>h _ e
 |a::r,[],e=>h _ e
 |a::r,b::y,e=>qJ (k:=λc ts=>aw ts (cF b λc' ts'=>aw ts' (ah (eH c c') (gR r y k1) (k1 false)) λ_ _=>false) λ_ _=>false)
  (k':=λc ts=>aw ts (cF b λc' ts'=>aw ts' (ah (eH c c') (gR r y k2) (k2 false)) λ_ _=>false) λ_ _=>false) (λc ts=>yM (qJ λc' ts'=>yM λe=>by
   refine bA e (λe q=>?_) λe q=>?_
   ·exact aa q (oX h e)
   ·refine aa q ?_;exact h _ e)) e
theorem HR {k1 k2:Bool->af} (h:∀t,k1 t=true->k2 t=true) (e:QL a b k1=true):QL a b k2=true:=by
 refine V.sel a e Nl QT Ql Qk Qj (λs e=>?_) Nk Nj Ni (λl e=>?_) BB BA Bz
 ·refine V.sel b e Nl QT Ql Qk Qj (λs' e=>?_) Nk Nj Ni QS BB BA Bz;exact h _ e
 ·refine V.sel b e Nl QT Ql Qk Qj Tt Nk Nj Ni (λl' e=>?_) BB BA Bz;exact oX h e
theorem ry {k1 k2:Option V->af} (h:∀t,k1 t=true->k2 t=true) {a:V}:∀{es:List (V×V)},fw a es k1=true->fw a es k2=true
 |[],e=>h _ e
 |p::es,e=>HR (k1:=λt=>ah t (k1 (some p.2)) (fw a es k1)) (k2:=λt=>ah t (k2 (some p.2)) (fw a es k2)) (λt e=>by
   cases t with
   |true=>exact h _ e
   |false=>exact ry h e) e
theorem cR (e:dF v k d=true):d ()=true\/E2 λc ts=>(v=.int c/\ts=[]\/v=.lin c ts)/\k c ts=true:=by
 cases v<;>first |exact .inl e |exact .inr ⟨_,_,.inl ⟨rfl,rfl⟩,e⟩ |exact .inr ⟨_,_,.inr rfl,e⟩
theorem uK {l:List α} {c:α->List α->af} (e:aw l n c=true):(l=[]/\n=true)\/E2 λa r=>l=a::r/\c a r=true:=by
 cases l with
 |nil=>exact .inl ⟨rfl,e⟩
 |cons a r=>exact .inr ⟨a,r,rfl,e⟩
theorem lV {a:α}:∀{l:List (Nat×α)} {n:Nat},kL l n=some a->(n,a)∈l
 |p::l,n,e=>by
  have e:ah (Nat.beq p.1 n) (some p.2) (kL l n)=some a:=e;cases q:Nat.beq p.1 n with
  |true=>rw[q]at e;refine gP e ?_;exact bI (gB q) (aL ..)
  |false=>rw[q]at e;exact bc _ (lV e)
theorem je {v:V} {ts:Ts} (h:v=.int c/\ts=[]\/v=.lin c ts) (n:cL ts):v=.int c\/v=.lin c []:=by
 rcases h with⟨h,_⟩ |h
 ·exact .inl h
 ·cases ts with
  |nil=>exact .inr h
  |cons=>exact ao n
theorem VN (k1:a=.int c1\/a=.lin c1 []) (k2:b=.int c2\/b=.lin c2 []) (k3:d=.int c3\/d=.lin c3 []) (h:fw (.tup [.int c1,.int c2,.int c3]) es k=true):
  A5 (Be a) (Be b) (Be d) (Jq (.tup [a,b,d])) (fw (.tup [a,b,d]) es k=true):=by
 rcases k1 with rfl |rfl<;>rcases k2 with rfl |rfl<;>rcases k3 with rfl |rfl<;>exact⟨rfl,rfl,rfl,rfl,h⟩
theorem uQ (h:gW iZ c):c=.ofNat (fK c):=by
 cases c with
 |ofNat=>rfl
 |negSucc=>exact ao h
section
variable{Z:Zt} {n:Nat}
theorem Ii {st:St} {a b c:V} (ha:Be a) (hb:Be b) (hc:Be c) (h1:st.g.get p=some (.inst cc fs)) (h2:gE fs 12=some (.ref (.g q))) (h3:st.g.get q=some (.dict es))
  (hd:Jq (.tup [a,b,c])) {l:List V} (hz:szOk l) (h4:fw (.tup [a,b,c]) es (EC st.g l)=true) (y:(dC (.list []) st λ_ st=>newList l st k)=true):aM.body [.ref (.g p),a,b,c] st (uc k) e=true:=by
 obtain⟨t,nn,d,mm,g,xx,fl⟩:=st;have y:ah (szOk l) (dC (.list l) ⟨Tr.set (.list []) nn t,nn.succ,d,mm,g,xx,fl⟩ λp st=>k (.ref p) st) false=true:=y;rw[hz]at y;show fields (.ref (.g p)) ⟨t,nn,d,mm,g,xx,fl⟩ _;show ag (g.get p) false _=true;rw[show g.get p=some (.inst cc fs)from h1];show ag (gE fs 12) false _=true;rw[h2];show ag (g.get q) false _=true;rw[show g.get q=some (.dict es)from h3];show ah (Be a) _ false=true;rw[ha];show ah (Be b) _ false=true;rw[hb];show ah (Be c) _ false=true;rw[hc];show ag (g.get q) false _=true;rw[show g.get q=some (.dict es)from h3];show ah (Jq (.tup [a,b,c])) _ false=true;rw[hd];have self:(Tr.set (.list []) nn t).get nn=some (.list []):=bH _ _ _;refine ry (k1:=EC g l) (λo e=>?_) h4;cases o with
 |none=>
  have:l=[]:=by
   cases l with
   |nil=>rfl
   |cons=>exact ao e
  subst this;show ag ((Tr.set (.list []) nn t).get nn) false _=true;rw[self];exact y
 |some v=>
  obtain⟨j,rfl,e⟩:=cb (show dY v (λq=>eu q (λ_=>false) λq=>ag (g.get q) false λo=>bJ o (nS l)) from e);cases j with
  |d=>exact ao e
  |g j=>
   show ag (g.get j) false _=true;have e:ag (g.get j) false (λo=>bJ o (nS l))=true:=e;cases q:g.get j with
   |none=>rw[q]at e;exact ao e
   |some o=>
    rw[q]at e;obtain⟨l',rfl,e⟩:=hH (show bJ o (nS l) from e);have:=qS e;subst this;show ah (szOk l) _ false=true;rw[hz];exact y
theorem Nz (ok:ED Z.g0 Z.x0) (h:gV Z n ⟨⟨az,aM.body⟩,4,4,[]⟩ 992):gV Z n ⟨aM,4,4,[]⟩ 992:=λna hp sc sl X F G vs st m s k kE as ws I ha hw y=>by
 refine h na hp sc sl X F G vs st m s k kE as ws I ha hw ?_;have gx:st.g=Z.g0/\st.x=Z.x0:=kX I λ_ I=>⟨I.xok.g,I.xok.x⟩;have n4:na=4:=by
  refine bB hp λp2 p1=>?_;have p1:=aQ p1;have p2:4-na<=0:=aQ p2;lia
 subst n4;obtain⟨a0,a1,a2,a3,rfl⟩:E4 λa0 a1 a2 a3=>as=[a0,a1,a2,a3]:=by
  have:=hJ .unset as;rw[ha.length,hw]at this;exact⟨_,_,_,_,this⟩
 refine aA (cb y) λp e1 y=>?_;subst e1;refine bA y (λy q=>?_) λy _=>?_
 rotate_left
 ·exact y
 refine(cR y).elim (λy=>?_) λz=>aJ z λc1 t1 k1 y=>?_
 ·exact y
 refine(cR y).elim (λy=>?_) λz=>aJ z λc2 t2 k2 y=>?_
 ·exact y
 rcases cR y with y |⟨c3,t3,k3,y⟩
 ·exact y
 refine bA y (λy w=>?_) λy _=>?_
 rotate_left
 ·exact y
 simp only[zA,Bool.and_eq_true]at w;obtain⟨w1,w2,w3,w4,w5,w6⟩:=w;have y:ag (kL st.x.tab (fK c3)) _ _=true:=y;cases z1:kL st.x.tab (fK c3)with
 |none=>rw[z1]at y;exact y
 |some r=>
  replace y:=(z1 ..)▸y;have y:ag (kL r (fK c1)) _ _=true:=y;cases z2:kL r (fK c1)with
  |none=>rw[z2]at y;exact y
  |some l=>
   rw[z2]at y;have yy:=y;refine aa (lg q) ?_;refine kN gx λgg gx=>?_;rw[<-gg,<-gx]at ok;rw[uQ w5]at k1;rw[uQ w6]at k3;have w4:=(aB _ _).mp w4;subst w4;unfold ED at ok;revert ok;cases e1:st.x.ts with
   |d=>intro h;exact ao h
   |g p=>
    intro ok;refine Qu ok λo ok e2=>?_;revert e2;refine O.sel o ok RP (λcc fs ok e2=>?_) RO Qq RN Qp Qo NS NR NQ;refine Qu ok λv ok e3=>?_;refine aA (cb ok) λj e0 ok=>?_;subst e0;cases j with
    |d=>exact ao ok
    |g j=>
     refine Qu ok λo ok e4=>?_;refine aA (nY ok) λes eo ok2=>?_;clear ok;subst eo;unfold Jy at ok2;rw[bp]at ok2;have ok:=bO.mp ok2 _ (lV z1);rw[bp]at ok;have ok:=bO.mp ok _ (lV z2);refine ax ok λok sz=>?_;obtain⟨o1,o2,o3,o4,o5⟩:=VN (je k1 w1) (je k2 w2) (je k3 w3) ok;exact Ii o1 o2 o3 e2 e3 e4 o4 sz o5 yy
end
end
section
noncomputable def xM:List gA:=[.unb,.unb,.unb,.unb,.unb,.unb,.unb,.unb,.unb,.unb,.unb,.unb,.unb,.unb,.unb,.unb,.unb]
def SP (v:V):Bool:=bx v false false (λb=>b) (λ_ _=>false) (λ_=>false) (λ_ _ _=>false) (λ_=>false) (λ_=>false) (λ_=>false) (λ_=>false) (λ_ _=>false) (λ_=>false)
def MQ (g:Tr) (x:Xt) (i:AI):Bool:=eu i (λ_=>false) λ_=>ct.body [.ref i,.unset] ⟨.nil,.h,xM,[],g,x,.nil⟩ (uc λv _=>SP v) (λ_=>false)
def zB (g:Tr) (x:Xt):Bool:=bj (MQ g x) x.agr
theorem Ly (h:SP v):v=.bool true:=by
 cases v with
 |bool b=>cases b with
  |true=>rfl
  |false=>exact ao h
 |_=>exact ao h
theorem i8:EZ ν []:=λp hp=>by cases hp
theorem D5 (h:ν.length=17) {st:St} (hd:st.d=xM) (hm:st.mm=[]):dn ν st:=by
 refine⟨⟨by refine aa hd (aa h ?_);rfl,λv hv=>?_⟩,by refine aa hm ?_;exact i8⟩;refine aa hd (aa (dw ..) ?_);have:(xM[v]?).getD .unb=.unb:=by
  cases q:xM[v]? with
  |none=>rfl
  |some x=>
   have:=List.mem_of_getElem? q;unfold xM at this;simp only[bk,List.not_mem_nil,or_false,or_self]at this;refine aa this ?_;rfl
 refine aa this ?_;trivial
section
variable{Z:Zt} {n:Nat}
theorem uM {p:AI}:∀{l:List AI},sG (xv p) l->p∈l
 |x::l,h=>by
  refine bA h (λ_ q=>?_) λh _=>?_
  ·exact aa (lg q) (aL ..)
  ·exact bc _ (uM h)
theorem Ks (hc:HW Z.g0) (hn:Z.n0.length=17) (ok:zB Z.g0 Z.x0) (h:gV Z n ⟨⟨az,ct.body⟩,1,2,[]⟩ 1107):gV Z n ⟨ct,1,2,[]⟩ 1107:=λna hp sc sl X F G vs st m s k kE as ws I ha hw y=>by
 have n1:na=1:=by
  refine bB hp λp2 p1=>?_;have p1:=aQ p1;have p2:1-na<=0:=aQ p2;lia
 subst n1;have h1:=h 1 hp;refine kX (by
  have:=hJ .unset as;rw[ha.length,hw]at this;exact⟨_,this⟩:∃a0,as=[a0]) λa0 ee0=>?_;subst ee0
 refine aA (cb y) λp ee1 y=>?_;subst ee1;refine bA y (λyy q=>?_) λyy _=>?_
 rotate_left
 ·exact h1 sc sl X F G vs st m s k kE _ ws I ha hw yy
 refine I.k λtr I=>?_;replace q:=(I.xok.x ..)▸q;have r:=ok;unfold zB at r;rw[bp]at r;have r:=bO.mp r _ (uM q);cases p with
 |d=>exact ao r
 |g p=>
  have r:dy ⟨az,ct.body⟩ [.ref (.g p)] [.unset] (vS Z xM) (λv _=>SP v) (λ_=>false):=r;refine m8 F I hc (d:=xM) (D5 hn rfl rfl) (dN _) h1 (by induction ha using F2.kcons with |cons x r=>induction r using F2.knil;exact .cons (x.alone rfl) .nil) hw r λw s' z=>?_;refine uN z λG2 v st2 tr2 tr3 L hv hk J2 f3 I3=>?_;have:=Ly hk;subst this;obtain rfl:w=.bool true:=hv.inv;exact⟨G,.bool true,st,Gh.Le.refl G,.bool true,yy,tr3,I3⟩
end
end
section
section
variable{Z:Zt} {X:Fx} {sl:List Str} {G:Gh} {vs:Vs} {st:St} {m:jF} {s:Shared} {tr:List (Addr×Obj)}
theorem ap.watch (I:ap Z X sl G vs st m s tr) (hg:s.heap.get? a=some o) (hn:¬∃o',cO X tr a o') (hL:a≠X.L):ap Z X sl G vs st m s ((a,o)::tr)/\j0 G X a:=by
 refine⟨⟨I.sh,I.fr,λp hp=>?_,?_,λi x v a b c=>?_,I.len,λp hp=>let⟨o',a,b⟩:=I.out p hp;⟨o',bc _ a,b⟩,λi o' h=>let⟨a,d,r,y⟩:=I.sto i o' h;⟨a,d,r,OR.mono (λ_ _ x=>x.cons) (Gh.Le.refl G) y⟩,
  λp o' a b=>let⟨x,y,r,u,v⟩:=I.wri p o' a b;⟨x,y,r,bc _ u,bc _ v⟩,λa o' h=>(I.imm a o' h).cons,I.own,λi a d h=>let⟨⟨x,a⟩,⟨y,b⟩⟩:=I.rng i a d h;⟨⟨x,a.cons⟩,⟨y,b.cons⟩⟩,
  λc hc=>let⟨x,a,b⟩:=I.hel c hc;⟨x,bc _ a,b⟩,I.cnt,I.num,I.xok.cons⟩,λi p e=>?_,?_,λp hp z=>?_,λp hp z=>?_,?_⟩
 ·rcases bk.mp hp with rfl |hp
  ·refine⟨hg,hL,?_⟩;cases q:X.base.get? a with
   |none=>rfl
   |some o'=>exact absurd ⟨o',.inr q⟩ hn
  ·exact I.nw p hp
 ·rw[fy,List.nodup_cons];refine⟨λh=>?_,I.nd⟩;refine aA (List.mem_map.mp h) λp hp e=>?_;exact hn ⟨p.2,.inl (by rw[<-show p.1=a from e];exact hp)⟩
 ·refine aA (I.loc i x v a b c) λw y z=>?_;exact⟨w,y,z⟩
 ·refine kN (I.rng i p.1 p.2 e) λzz1 zz0=>?_;obtain⟨y,h2⟩:=zz0;obtain⟨x,h1⟩:=zz1;exact⟨λz=>hn ⟨x,z▸h1⟩,λz=>hn ⟨y,z▸h2⟩⟩
 ·cases q:G.H a with
  |none=>rfl
  |some o'=>exact absurd ⟨o',I.imm a o' q⟩ hn
 ·refine aA (I.out p hp) λo' h1 _=>?_;exact hn ⟨o',z▸.inl h1⟩
 ·refine aA (I.hel p hp) λo' h1 _=>?_;exact hn ⟨o',z▸.inl h1⟩
 ·cases q:X.xb.get? a with
  |none=>rfl
  |some o'=>exact absurd ⟨o',I.xok.has a o' q⟩ hn
theorem kh {f:Tr} {G2:Gh} {st2:St} {s':Shared} {tr2 tr3:List (Addr×Obj)} (I:ap Z X sl G vs st m s tr) (J:ap Z (eE X (bv X tr s.heap) f G.H) [] G2 [] st2 m s' tr2) (f3:tr3.map (·.1)=tr.map (·.1)) {a:Addr} {o:Obj} (h:cO X tr2 a o) (ho:∀p∈X.outs,p.1≠a)
  (hs:(bv X tr s.heap).get? a=none):s'.heap.get? a=some o/\(¬∃o',cO X tr3 a o')/\a≠X.L:=by
 have bL:X.base.get? X.L=none:=by
  cases q:X.base.get? X.L with
  |none=>rfl
  |some o=>exact absurd (jG (bW q) I.fr.above) (fg _)
 have nL:a≠X.L:=λz=>by
  subst z;rcases h with h |h
  ·exact(J.nw _ h).2.1 rfl
  ·rw[bL]at h;exact bd h
 refine⟨J.get h,λ⟨o',h'⟩=>?_,nL⟩;have:∃o'',cO X tr a o'':=by
  rcases h' with h' |h'
  ·have:a∈tr.map (·.1):=by rw[<-f3];exact List.mem_map_of_mem (f:=(·.1)) h'
   refine aA (List.mem_map.mp this) λp hp e=>?_;exact⟨p.2,.inl (by rw[<-show p.1=a from e];exact hp)⟩
  ·exact⟨o',.inr h'⟩
 refine kX this λo'' h''=>?_;rw[jw (I.get h'') ⟨o'',h''⟩ nL ho]at hs;exact wT hs
end
end
section
def cY (n:Nat) (ts:Ts):Bool:=bj (λp=>Nat.blt p.1 n) ts
def IE (st:St) (c:Int) (ts:Ts) (c':Int) (ts':Ts):Bool:=ah (cY (dL st.d) ts) (iM st (d6 c' c) (fS ts' (fG gJ ts)) (λz=>eH z iZ) no) false
def B1 (st:St) (c:Int) (ts:Ts) (v:V):Bool:=cF v (IE st c ts)
def tu (U:List (List Nat)):Bool:=bj (λs=>bj (λc=>Nat.blt c 128) s) U
def IA (st:St) (U:List (List Nat)) (e:Int) (us:Ts) (B:List (List Nat)) (c:Int) (ts:Ts):Bool:=ah (cY (dL st.d) us) (ah (tu U) (Hy B c ts st (λt _=>t) U e us) false) false
def Kx (U:List (List Nat)) (s:List Nat) (lo hi:Int):Bool:=ah (O6 U lo hi) (bj (λx=>jH x s) (rng U lo hi)) false
def IB (st:St) (U:List (List Nat)) (e:Int) (us:Ts) (s:List Nat):Bool:=ah (cY (dL st.d) us) (ah (tu U) (ny st.d us e e (Kx U s) no) false) false
def NI (s:List Nat):V->Bool
 |.str s'=>jH s s'
 |_=>false
def NJ (st:St) (U:List (List Nat)) (e:Int) (us:Ts):V->Bool
 |.stab B c ts=>IA st U e us B c ts
 |.str s=>IB st U e us s
 |_=>false
noncomputable def NH (k:List V->Bool):V->Bool
 |.tup l=>k l
 |_=>false
mutual
noncomputable def ge (st:St):V->V->Bool
 |.none,v=>et v
 |.int c,v=>B1 st c [] v
 |.lin c ts,v=>B1 st c ts v
 |.str s,v=>NI s v
 |.stab U e us,v=>NJ st U e us v
 |.tup l,v=>NH (t8 st l) v
 |_,_=>false
noncomputable def t8 (st:St):List V->List V->Bool
 |[],l'=>cL l'
 |e::l,l'=>aw l' false λv l'=>ah (ge st e v) (t8 st l l') false
end
section
variable{T:cW} {rg:Addr} {G:Gh} {st:St}
theorem i9 (D:dn G.ν st) (h:cY (dL st.d) ts):Df G.ν ts:=λp hp=>by
 unfold cY at h;rw[bp]at h;have:=aQ (bO.mp h p hp);rw[bw,<-D.dom.len]at this;exact this
theorem t9 (D:dn G.ν st) (d':Df G.ν ts') (h:IE st c ts c' ts'):Df G.ν ts/\c+ev G.ν ts=c'+ev G.ν ts':=by
 refine ax h λh2 h1=>?_;have d:=i9 D h1;refine kN (cQ G.ν gJ ts d) λm1 m2=>?_;refine kN (cE G.ν ts' (fG gJ ts) d' m2) λa1 a2=>?_;rcases eg D.dom a2 h2 with h |h
 ·have h:=(aB _ _).mp h;rw[a1,m1,bq]at h;have e1:gJ= -1:=rfl;have e0:iZ=0:=rfl;rw[e1,e0]at h;exact⟨d,by lia⟩
 ·exact ao h
theorem tZ (D:dn G.ν st) (hv:VR T rg G v w) (h:B1 st c ts v):Df G.ν ts/\E2 λx t=>w=.int x t/\c+ev G.ν ts=x:=by
 refine VR.sel hv h qi rX (λc' t h=>?_) (λc' ts' x t d' e' h=>?_) Bd tF qh qQ tE tD gh gf
 ·exact kN (t9 D (Df.nil _) h) λd e=>⟨d,_,t,rfl,by refine aa e ?_;simp[ev]⟩
 ·exact kN (t9 D d' h) λd e=>⟨d,_,t,rfl,by refine aa e ?_;rw[e']⟩
theorem Hx (D:dn G.ν st) {B U:List (List Nat)} {c e:Int} {n:Nat} {k:KB} (d:Df G.ν ts) (d':Df G.ν us) (q:c+ev G.ν ts=(n:Int)) (x:Hy B c ts st k U e us=true):E2 λm y=>e+ev G.ν us=((m:Nat):Int)/\U[m]?=some y:=by
 refine er (ey D.dom d x) λlo hi x _ b1 b2=>?_;refine kN (cQ G.ν gJ us d') λm1 m2=>?_;refine kN (cE G.ν ts _ d m2) λa1 a2=>?_;rcases eg D.dom a2 x with x |x
 ·rw[a1,m1,bq,d7]at x;refine ax x λx _=>?_;refine ax x λ_ x=>?_;refine ax x λx i1=>?_;refine ax x λi3 i2=>?_;rw[bq]at i1 i3;have i1:=(aY _ _).mp i1;have i3:=(cU _ _).mp i3;have e0:iZ=0:=rfl;rw[e0]at i1;rw[bw]at i3;have hm:e+ev G.ν us=(((e+ev G.ν us).toNat)):=by lia
  have hl:(e+ev G.ν us).toNat<U.length:=by lia
  exact⟨_,_,hm,List.getElem?_eq_getElem hl⟩
 ·exact ao x
theorem vI (h:tu U):∀s∈U,Tx s:=λu hu=>by
 unfold tu at h;rw[bp]at h;have:=bO.mp h u hu;rw[bp]at this;exactλc hc=>aQ (bO.mp this c hc)
theorem B0 (D:dn G.ν st) (h:IB st B c ts s):VR T rg G (.stab B c ts) (.str (aj s) t):=by
 refine ax h λh h1=>?_;refine ax h λh h2=>?_;have d2:=i9 D h1;refine er (ey D.dom d2 h) λlo hi h _ b1 b2=>?_;refine ax h λh i1=>?_;refine ax i1 λj2 j1=>?_;refine ax j2 λj2 _=>?_;have j1:0<=lo:=(aY _ _).mp j1;have j2:=(cU _ _).mp j2;rw[bw]at j2;have hm:c+ev G.ν ts=(((c+ev G.ν ts).toNat)):=by lia
 have hl:(c+ev G.ν ts).toNat<B.length:=by lia
 have he:=List.getElem?_eq_getElem hl;refine kN (m9 (le_of_le_of_eq b1 hm) (le_of_eq_of_le (id (Eq.symm hm)) b2) i1 he) λg1 _=>?_;rw[bp]at h;have:=(bG _ _).mp (bO.mp h _ (List.mem_of_getElem? g1));rw[this]at he;exact .stab _ _ _ _ s t d2 hm he (vI h2)
theorem BZ (D:dn G.ν st) (hv:VR T rg G (.stab B' c' ts') w) (h:IA st B c ts B' c' ts'):VR T rg G (.stab B c ts) w:=by
 refine ax h λh h1=>?_;refine ax h λh h2=>?_
 induction hv using VR.kstab with
 |stab n s t d e hn x=>
  have d2:=i9 D h1;refine aJ (Hx D d d2 e h) λm y q hm=>?_;obtain⟨ν',st',_,z,_⟩:=zj D d d2 e q hn hm h;have:=(bG _ _).mp z;subst this;exact .stab _ _ _ m s t d2 q hm (vI h2)
theorem dP (D:dn G.ν st) (hv:VR T rg G v w) (h:ge st e v):VR T rg G e w:=
 V.rec (motive_2:=λl=>∀l' ws,SR T rg G l' ws->t8 st l l'->SR T rg G l ws)
  (λ_ _ _ h=>ao h)
  (λv w hv h=>by
   cases v with
   |none=>exact hv
   |_=>exact ao h)
  (λ_ _ _ _ h=>ao h)
  (λc v w hv h=>by
   refine kN (tZ D hv h) λ_ zz0=>?_;obtain⟨x,t,rfl,e⟩:=zz0;have:c=x:=by simpa[ev]using e
   refine aa this ?_;exact .int _ _)
  (λc ts v w hv h=>by
   refine kN (tZ D hv h) λd zz1=>?_;obtain⟨x,t,rfl,e⟩:=zz1;exact .lin _ _ _ _ d e)
  (λs v w hv h=>by
   cases v with
   |str s'=>exact aa ((bG _ _).mp h ..) (hv)
   |_=>exact ao h)
  (λB c ts v w hv h=>by
   cases v with
   |str s=>
    induction hv using VR.kstr with
    |str t x=>exact B0 D h
   |stab B' c' ts'=>exact BZ D hv h
   |_=>exact ao h)
  (λ_ _ _ _ h=>ao h) (λ_ _ _ _ _ h=>ao h)
  (λl i v w hv h=>by
   cases v with
   |tup l'=>
    induction hv using VR.ktup with
    |tup ws a hs he=>exact .tup l ws a (i l' ws hs h) he
   |_=>exact ao h)
  (λ_ _ _ _ h=>ao h) (λ_ _ _ _ _ h=>ao h) (λ_ _ _ _ h=>ao h)
  (λl' ws hs h=>by
   cases l' with
   |nil=>induction hs using SR.knil;exact .nil
   |cons=>exact ao h)
  (λe l i j l' ws hs h=>by
   cases l' with
   |nil=>exact ao h
   |cons v l'=>
    refine ax h λh2 h1=>?_
    induction hs using SR.kcons with
    |cons w ws hv r=>exact .cons e w l ws (i v w hv h1) (j l' ws r h2)
    |seg _ _ _ _ e0=>subst e0;cases e<;>exact ao h1) e v w hv h
theorem B2 (D:dn G.ν st) (hs:SR T rg G l' ws) (h:t8 st l l'):SR T rg G l ws:=by
 induction l generalizing l' ws with
 |nil=>
  cases l' with
  |nil=>induction hs using SR.knil;exact .nil
  |cons=>exact ao h
 |cons e l ih=>
  cases l' with
  |nil=>exact ao h
  |cons v l'=>
   refine ax h λh2 h1=>?_
   induction hs using SR.kcons with
   |cons w ws hv r=>exact .cons e w l ws (dP D hv h1) (ih r h2)
   |seg _ _ _ _ e0=>subst e0;cases e<;>exact ao h1
end
end
section
structure cA where
 md:Nat
 k:Nat
 nb:Bool
 neg:Bool
 sk:Nat
noncomputable def oS (a b:Nat) (ex:List Int):gA:=.iv (.ofNat a) (.ofNat b) ex
noncomputable def cA.lo (b:cA):Ts:=match b.nb with
 |true=>[]
 |false=>[(17,1)]
def cA.dbl (b:cA):gA:=match b.nb with
 |true=>oS 5 5 []
 |false=>match b.k with
  |1=>oS 4 4 []
  |0=>oS 0 7 (match b.md with |0=>[.ofNat 5,.ofNat 4] |_=>[.ofNat 4])
  |_=>oS 0 7 (match b.md with |0=>[.ofNat 5] |_=>[])
def yt (n:Bool):gA:=match n with
 |true=>oS 128 255 []
 |false=>oS 0 127 []
def cA.d (b:cA):List gA:=[b.dbl,oS 0 1 [],(match b.k with |0=>oS 4 4 [] |1=>oS 4 4 [] |2=>oS 0 7 [.ofNat 4] |_=>oS 0 7 []),(match b.k with |3=>oS 1 1 [] |_=>oS 0 0 []),(match b.k with |0=>oS 0 3 [] |1=>oS 0 3 [] |_=>oS b.sk b.sk []),
 (match b.md with |1=>yt b.neg |_=>oS 0 255 []),oS 0 255 [],oS 0 255 [],(match b.md with |2=>yt b.neg |_=>oS 0 255 []),.unb]
noncomputable def fN (md:Nat):V:=.lin (.ofNat (1024*md)) [(17,1),(18,8),(19,16),(20,128),(21,256),(22,3072),(23,786432),(24,201326592),(25,51539607552),(26,13194139533312)]
def cA.fBase (b:cA):Int×Ts:=(.ofNat 0,b.lo++[(18,.ofNat 8)])
def cA.fRM (b:cA):Int×Ts:=match b.k with |0=>(.ofNat 0,b.lo) |_=>(.ofNat 4,[])
def cA.fSB (b:cA):Int×Ts:=match b.k with
 |0=>(.negSucc 0,[])
 |1=>(.ofNat 0,b.lo++[(19,.ofNat 8),(21,.ofNat 64)])
 |_=>(.ofNat (64*b.sk),b.lo++[(19,.ofNat 8)])
def cA.fM0 (b:cA):Int×Ts:=(.ofNat (64*b.md)+b.fRM.1,b.fRM.2)
noncomputable def cA.fW (b:cA):Int×Ts:=match b.md with
 |0=>(.ofNat 0,[])
 |1=>(match b.neg with |true=>.negSucc 255 |false=>.ofNat 0,[(22,.ofNat 1)])
 |_=>(match b.neg with |true=>.negSucc 4294967295 |false=>.ofNat 0,[(22,.ofNat 1),(23,.ofNat 256),(24,.ofNat 65536),(25,.ofNat 16777216)])
noncomputable def cA.wi (b:cA):Nat:=match b.md with |0=>0 |1=>1 |_=>4
noncomputable def cA.sc (b:cA):Nat:=match b.k with |0=>1 |1=>1 |_=>2 ^ b.sk
def fV (f:Int×Ts):V:=mk f.1 f.2
noncomputable def em:List (List Nat):=[[114,97,120],[114,99,120],[114,100,120],[114,98,120],[114,115,112],[114,98,112],[114,115,105],[114,100,105],[114,56],[114,57],[114,49,48],[114,49,49],[114,49,50],[114,49,51],[114,49,52],[114,49,53]]
def cA.vBase (b:cA):V:=.stab em b.fBase.1 b.fBase.2
def cA.vIndex (b:cA):V:=match b.k with
 |0=>.str []
 |1=>.str []
 |_=>.stab em (.ofNat 0) [(19,.ofNat 1),(20,.ofNat 8)]
def cA.seg (b:cA):List V:=(match b.k with |0=>[] |_=>[fV b.fSB])++(match b.md with |0=>[] |1=>[.lin (.ofNat 0) [(22,.ofNat 1)]] |_=>[.lin (.ofNat 0) [(22,.ofNat 1)],.lin (.ofNat 0) [(23,.ofNat 1)],.lin (.ofNat 0) [(24,.ofNat 1)],.lin (.ofNat 0) [(25,.ofNat 1)]])
noncomputable def cA.of (k sk:Nat):List cA:=(match k with |1=>[cA.mk 0 k false false sk] |_=>[cA.mk 0 k false false sk,cA.mk 0 k true false sk])++[cA.mk 1 k false false sk,cA.mk 1 k false true sk,cA.mk 2 k false false sk,cA.mk 2 k false true sk]
def boxes:List cA:=[(0,0),(1,0),(2,0),(2,1),(2,2),(2,3),(3,0),(3,1),(3,2),(3,3)].flatMap λp=>cA.of p.1 p.2
def Ny (b:cA) (e:List gA) (g:Tr) (x:Xt):St:=⟨.nil,.h,xM++(b.d++e),[],g,x,.nil⟩
def cA.told (b:cA) (z:Int):V:=.tup [.str wz,b.vBase,b.vIndex,.int (.ofNat b.sc),fV b.fW,.int z,.str [],.str []]
def R6 (b:cA) (st:St) (v:V):Bool:=dY v λp=>eu p (λ_=>obj p st λo=>bJ o (t8 st (fV b.fM0::b.seg))) (λ_=>false)
def N6 (b:cA) (z:Int):K:=λv st=>gF v (λl=>ah (bF l) false<|match l with
 |[t,r,x,y]=>ah (ge st (b.told z) t) (ah (R6 b st r) (ah (ge st (.lin (.ofNat 0) [(20,.ofNat 1)]) x) (ge st (.lin (.ofNat 0) [(18,.ofNat 1)]) y) false) false) false
 |_=>false) no
def Cw (g:Tr) (x:Xt) (b:cA):Bool:=bj (λp=>dy ⟨az,aG.body⟩ [.str p.1,fN b.md] (List.replicate 13 .unset) (Ny b [] g x) (N6 b p.2) (λ_=>false)) q0
theorem OE (g:Tr) (x:Xt):bj (Cw g x) boxes:=by kernel_rfl
noncomputable def Qm:V:=.lin (.ofNat 0) [(27,.ofNat 1)]
def wF (e:V) (st:St) (v:V):Bool:=dY v λp=>eu p (λ_=>fields v st λc _ fs=>ah (Nat.beq c 11) (ag (gE fs 0) false λw=>ge st e w) false) λ_=>false
noncomputable def MA:List (Nat×(V->Bool))->List (Nat×V)->Bool
 |[],fs=>cL fs
 |p::ps,fs=>aw fs false λq r=>ah (Nat.beq p.1 q.1) (ah (p.2 q.2) (MA ps r) false) false
def LI (b:cA) (st:St) (v:V):Bool:=match b.k with
 |0=>et v
 |1=>et v
 |_=>wF b.vIndex st v
def N2 (b:cA) (st:St):List (Nat×(V->Bool)):=[(33,ge st (.str wz)),(36,wF b.vBase st),(37,LI b st),(38,ge st (.int (.ofNat b.sc))),(35,ge st (fV b.fW)),(5,ge st Qm),(13,ge st (.str [])),(0,ge st (.str []))]
def RX (b:cA) (st:St) (fs:List (Nat×V)):Bool:=MA (N2 b st) fs
def Ld (b:cA):K:=λv st=>dY v λp=>eu p (λ_=>fields v st λc _ fs=>ah (Nat.beq c 9) (RX b st fs) false) λ_=>false
def Lc (g:Tr) (x:Xt) (b:cA):Bool:=dy ⟨az,bS.body⟩ [.int (.ofNat b.md),fV b.fRM,fV b.fSB,fV b.fW,.lin (.ofNat 0) [(20,.ofNat 1)],.lin (.ofNat 0) [(18,.ofNat 1)],Qm,.str []] (List.replicate 4 .unset) (Ny b [.unb] g x) (Ld b) (λ_=>false)
theorem OD (g:Tr) (x:Xt):bj (Lc g x) boxes:=by kernel_rfl
end
section
noncomputable def kf (a n:Nat):List V:=@Nat.rec (λ_=>Nat->List V) (λ_=>[]) (λ_ i a=>.lin (.ofNat 0) [(a,.ofNat 1)]::i (a+1)) n a
def rY (n r:Nat):List gA:=oS 0 7 []::uD .unb (n+r)
def cA.vM0 (b:cA):V:=fV (b.fM0.1,b.fM0.2++[(27,.ofNat 8)])
def Q9 (b:cA) (n:Nat):V:=.tup [.int (.ofNat b.md),.lin (.ofNat 0) [(27,.ofNat 1)],fV b.fRM,fV b.fSB,fV b.fW,.int (.ofNat b.wi),.int (.ofNat (n+1+dL b.seg))]
def KC (b:cA) (n:Nat):K:=λv st=>ge st (Q9 b n) v
def B6 (g:Tr) (x:Xt) (b:cA) (n r:Nat):Bool:=dy ⟨az,a9.body⟩ [.bytes (kf 28 n++b.vM0::(b.seg++kf (28+n) r)),.int (.ofNat n)] (List.replicate 6 .unset) (Ny b (rY n r) g x) (KC b n) (λ_=>false)
def wH (g:Tr) (x:Xt) (b:cA) (n:Nat):Bool:=aw b.seg true λ_ _=>dy ⟨az,a9.body⟩ [.bytes (kf 28 n++b.vM0::b.seg.dropLast),.int (.ofNat n)] (List.replicate 6 .unset) (Ny b (rY n 0) g x) (λ_ _=>false) (λ_=>true)
def B7 (g:Tr) (x:Xt) (b:cA):Bool:=bj (λn=>ah (bj (B6 g x b n) [0,1,2,3]) (wH g x b n) false) [2,3,4]
theorem OB (g:Tr) (x:Xt):bj (B7 g x) boxes:=by kernel_rfl
end
section
section
variable{Z:Zt} {X:Fx} {sl:List Str} {G:Gh} {vs:Vs} {st:St} {m:jF} {s:Shared} {tr:List (Addr×Obj)}
structure mn (Z:Zt) (X:Fx) (sl:List Str) (G:Gh) (vs:Vs) (st:St) (m:jF) (s:Shared) (tr:List (Addr×Obj)) (Q:List Addr) (G1:Gh) (tr1:List (Addr×Obj)):Prop where
 inv:ap Z X sl G1 vs st m s tr1
 le:G.Le G1
 ro:G1.ρ=G.ρ
 nu:G1.ν=G.ν
 has:∀c o,cO X tr1 c o->(∃o',cO X tr c o')\/c∈Q
 hq:∀c,c∈Q->G1.H c≠none
theorem mn.nil (I:ap Z X sl G vs st m s tr):mn Z X sl G vs st m s tr [] G tr:=⟨I,Gh.Le.refl G,rfl,rfl,λc o h=>.inl ⟨o,h⟩,λc h=>by cases h⟩
theorem mn.addH {G1:Gh} (A:mn Z X sl G vs st m s tr Q G1 tr1) {a:Addr} {o:Obj} (hg:s.heap.get? a=some o) (old:(∃o',cO X tr a o')->G.H a=some o) (hL:a≠X.L):
  E2 λG2 tr2=>A3 (mn Z X sl G vs st m s tr (a::Q) G2 tr2) (G1.Le G2) (G2.H a=some o):=by
 cases q:G1.H a with
 |some o'=>
  have:o'=o:=ch ((A.inv.get (A.inv.imm a o' q)).symm.trans hg);refine bI this ?_;refine⟨G1,tr1,⟨A.inv,A.le,A.ro,A.nu,λc o h=>(A.has c o h).imp id λh=>bc _ h,λc h=>?_⟩,Gh.Le.refl G1,q⟩;rcases bk.mp h with rfl |h
  ·exact aa q (λz=>wT z)
  ·exact A.hq c h
 |none=>
  have hn:=λhz=>kX hz λo' h=>by
   rcases A.has a o' h with h |h
   ·have:=A.le.H a o (old h);rw[q]at this;exact bd this
   ·exact A.hq a h q
  refine kN (A.inv.watch hg hn hL) λW u=>?_;refine⟨G1.putH a o,(a,o)::tr1,⟨W.addH (aL ..) u,A.le.trans (iK q),A.ro,A.nu,λc o' h=>?_,λc h=>?_⟩,iK q,hF⟩
  ·rcases h with h |h
   ·rcases bk.mp h with h |h
    ·cases h;exact .inr (aL ..)
    ·exact(A.has c o' (.inl h)).imp id λh=>bc _ h
   ·exact(A.has c o' (.inr h)).imp id λh=>bc _ h
  ·show(if c=a then some o else G1.H c)≠none
   by_cases z:c=a
   ·rw[if_pos z];exactλz=>wT z
   ·rw[if_neg z];exact A.hq c ((bk.mp h).resolve_left z)
theorem mn.addI {Q:List Addr} {G1:Gh} {tr1:List (Addr×Obj)} (A:mn Z X sl G vs st m s tr Q G1 tr1) {a d:Addr} {oa od:Obj} {x:O} (ha:s.heap.get? a=some oa) (hd:s.heap.get? d=some od) (na:¬∃o',cO X tr a o') (nd:¬∃o',cO X tr d o') (la:a≠X.L) (ld:d≠X.L) (qa:a∉Q) (qd:d∉Q)
  (h:∀tr',(∀c o,cO X tr1 c o->cO X tr' c o)->cO X tr' a oa->cO X tr' d od->OR Z (cO X tr') (G1.putI (.d st.n) (a,d)) a d x):
  ∃tr2,ap Z X sl (G1.putI (.d st.n) (a,d)) vs {st with t:=Tr.set x st.n st.t,n:=st.n.succ} m s tr2/\G1.Le (G1.putI (.d st.n) (a,d)):=by
 have n1:¬∃o',cO X tr1 a o':=λ⟨o',h⟩=>(A.has a o' h).elim na qa;have n2:¬∃o',cO X tr1 d o':=λ⟨o',h⟩=>(A.has d o' h).elim nd qd;obtain⟨W,u⟩:=A.inv.watch ha n1 la;have L:=gO (G:=G1) (p:=(a,d)) (A.inv.cnt st.n (c8 _))
 by_cases z:d=a
 ·subst z;refine⟨_,W.addI (aL ..) (aL ..) u u (h _ (λc o h=>h.cons) (.inl (aL ..)) ?_),L⟩;have:od=oa:=ch (hd.symm.trans ha);subst this;exact .inl (aL ..)
 ·have n3:¬∃o',cO X ((a,oa)::tr1) d o':=λ⟨o',h⟩=>by
   rcases h with h |h
   ·rcases bk.mp h with h |h
    ·cases h;exact z rfl
    ·exact n2 ⟨o',.inl h⟩
   ·exact n2 ⟨o',.inr h⟩
  obtain⟨W2,u2⟩:=W.watch hd n3 ld;have ua:j0 G1 X a:=u;refine⟨_,W2.addI (by simp) (by simp) ua u2 (h _ (λc o h=>h.cons.cons) (.inl (by simp)) (.inl (by simp))),L⟩
end
end
section
theorem Dm.app {ν ν':List Int} (h:Dm ν d) (h':Dm ν' d'):Dm (ν++ν') (d++d'):=by
 refine⟨by refine aa cX ?_;refine aa cX ?_;refine aa h.len ?_;rw[h'.len],λv hv=>?_⟩;refine aa (dw ..) ?_
 by_cases z:v<ν.length
 ·have:=h.fit v z;rw[dw]at this;refine aa (List.getElem?_append_left (by refine bI h.len ?_;exact z) ..) (aa (iw ..) (aa (List.getElem?_append_left z ..) ?_));exact this
 ·rw[cX]at hv;have:=h'.fit (v-ν.length) (by omega);rw[dw]at this;refine aa (List.getElem?_append_right (by refine bI h.len ?_;exact Nat.le_of_not_lt z) ..) (aa (iw ..) (aa (List.getElem?_append_right (Nat.le_of_not_lt z) ..) (bI h.len ?_)));exact this
def val (ν:List Int) (f:Int×Ts):Int:=f.1+ev ν f.2
structure dh (Z:Zt) (b:cA) (μ:List Int):Prop where
 mem:b∈boxes
 n17:Z.n0.length=17
 fit:Dm μ b.d
 num:∀G t,(Z.n0++μ) <+:Gh.ν G->VR Z.T Z.rg G (fN b.md) (.int (Z.n0.getD 5 0) t)
 m0:Z.n0.getD 6 0=val (Z.n0++μ) b.fM0
 ln:Z.n0.getD 7 0=b.seg.length
 x:Z.n0.getD 8 0=val (Z.n0++μ) (.ofNat 0,[(20,.ofNat 1)])
 bb:Z.n0.getD 9 0=val (Z.n0++μ) (.ofNat 0,[(18,.ofNat 1)])
 md:Z.n0.getD 10 0=b.md
 rm:Z.n0.getD 11 0=val (Z.n0++μ) b.fRM
 sb:Z.n0.getD 12 0=val (Z.n0++μ) b.fSB
 di:Z.n0.getD 13 0=val (Z.n0++μ) b.fW
 wi:Z.n0.getD 14 0=b.wi
 sc:Z.n0.getD 15 0=b.sc
 wo:Z.n0.getD 16 0=val (Z.n0++μ) b.fW
 t0:∀G w,(Z.n0++μ) <+:Gh.ν G->VR Z.T Z.rg G b.vBase w->∃t,w=.str (aj (Z.T.txt 0)) t
 t1:∀G w,(Z.n0++μ) <+:Gh.ν G->VR Z.T Z.rg G b.vIndex w->∃t,w=.str (aj (Z.T.txt 1)) t
 tx:Tx (Z.T.txt 0)/\Tx (Z.T.txt 1)
 sge:F2 (λv (c:Nat)=>∀G w,(Z.n0++μ) <+:Gh.ν G->(VR Z.T Z.rg G v w↔bP w c)) b.seg (Z.T.seg 0)
 sn:qI Z.T Z.n0 0 false
section
variable{T:cW} {rg:Addr} {G:Gh} {ν:List Int}
theorem gS (h:VR T rg G (fV f) w) (p:ν <+:G.ν) (d:Df ν f.2):∃t,w=.int (val ν f) t:=by
 obtain⟨c,ts⟩:=f;cases ts with
 |nil=>
  have h:VR T rg G (.int c) w:=h
  induction h using VR.kint with
  |int t=>exact⟨t,by unfold val;simp[ev]⟩
 |cons q r=>
  have h:VR T rg G (.lin c (q::r)) w:=h
  induction h using VR.klin with
  |lin x t _ e=>exact⟨t,by rw[<-e,cr p d];rfl⟩
theorem kg (p:ν <+:G.ν) (d:Df ν f.2) (t:Tok):VR T rg G (fV f) (.int (val ν f) t):=by
 obtain⟨c,ts⟩:=f;cases ts with
 |nil=>
  have:val ν (c,[])=c:=by unfold val;simp[ev]
  exact aa this (.int _ _)
 |cons q r=>exact .lin c (q::r) _ t (d.mono p) (by refine aa (cr p d) ?_;rfl)
theorem ff (p:n0 <+:G.ν) (hj:j<n0.length) (t:Tok):VR T rg G (l1 j) (.int (n0.getD j 0) t):=by
 have d:Df n0 [(j,bt)]:=.cons hj (.nil _);refine .lin _ _ _ t (d.mono p) ?_;rw[cr p d];show iZ+(bt*n0.getD j 0+0)=_;have e1:bt=1:=rfl;have e0:iZ=0:=rfl;rw[e1,e0];simp
theorem IZ (h:VR T rg G (l1 j) w) (p:n0 <+:G.ν) (hj:j<n0.length):∃t,w=.int (n0.getD j 0) t:=by
 refine ak h.inv λx t e0 _ e=>?_;refine aa e0 ?_;rw[cr p (.cons hj (.nil _))]at e;have e:iZ+(bt*n0.getD j 0+0)=x:=e;have e1:bt=1:=rfl;have e0:iZ=0:=rfl;rw[e1,e0]at e;exact⟨t,by refine bI e ?_;congr 1;simp⟩
end
end
section
section
variable{Z:Zt} {X:Fx} {sl:List Str} {G:Gh} {vs:Vs} {st:St} {m:jF} {s:Shared} {tr:List (Addr×Obj)}
variable{G2:Gh} {st2:St} {s':Shared} {tr2 tr3:List (Addr×Obj)} {T:cW} {rg:Addr}
theorem z9 (I:ap Z X sl G vs st m s tr) (J:ap Z (eE X (bv X tr s.heap) f G.H) [] G2 [] st2 m s' tr2) (h:cO X tr2 a o):a≠X.L:=λz=>by
 subst z;rcases h with h |h
 ·exact(J.nw _ h).2.1 rfl
 ·exact absurd (jG (bW h) I.fr.above) (fg _)
theorem wC (I:ap Z X sl G vs st m s tr) (J:ap Z (eE X (bv X tr s.heap) f G.H) [] G2 [] st2 m s' tr2) (f3:tr3.map (·.1)=tr.map (·.1)) (e:G2.H a=some o):
  s'.heap.get? a=some o/\((∃o',cO X tr3 a o')->G.H a=some o)/\a≠X.L:=by
 have h:=J.imm a o e;refine⟨J.get h,λhx=>?_,z9 I J h⟩;rcases J.xok.h a o e with h0 |h0
 ·exact h0
 ·exact fb J.own λow _ o2 o3 _=>absurd hx (kh I J f3 h (λp hp z=>by have:=o3 p hp;replace this:=(z ..)▸this;replace this:=(o2 a o e ..)▸this;cases this) h0).2.1
theorem wA (I:ap Z X sl G vs st m s tr) (J:ap Z (eE X (bv X tr s.heap) .nil G.H) [] G2 [] st2 m s' tr2) (f3:tr3.map (·.1)=tr.map (·.1)) (hp:st2.t.get p=some x) (e:G2.ρ (.d p)=some (a,d)):
  ((∃o,s'.heap.get? a=some o)/\(¬∃o',cO X tr3 a o')/\a≠X.L)/\((∃o,s'.heap.get? d=some o)/\(¬∃o',cO X tr3 d o')/\d≠X.L):=by
 refine fb J.own λow o1 _ o3 _=>?_;refine kN (o1 _ _ _ e) λw1 w2=>?_;obtain⟨⟨oa,ha⟩,⟨od,hd⟩⟩:=J.rng _ _ _ e;obtain⟨n1,n2⟩:=J.xok.wri p x hp (by refine aa J.xok.f ?_;rfl) a d e;obtain⟨a1,a2,a3⟩:=kh I J f3 ha (λp hp z=>by have:=o3 p hp;replace this:=(z ..)▸this;replace this:=(w1 ..)▸this;cases this) n1;obtain⟨b1,b2,b3⟩:=kh I J f3 hd (λp hp z=>by have:=o3 p hp;replace this:=(z ..)▸this;replace this:=(w2 ..)▸this;cases this) n2;exact⟨⟨⟨_,a1⟩,a2,a3⟩,⟨⟨_,b1⟩,b2,b3⟩⟩
theorem SR.cons_of (h:SR T rg G (e::l) ws) (n:dJ e=false):E2 λw ws'=>ws=w::ws'/\VR T rg G e w/\SR T rg G l ws':=by
 induction h using SR.kcons with
 |cons w ws' hv r=>exact⟨w,ws',rfl,hv,r⟩
 |seg _ _ _ _ e0=>subst e0;cases n
theorem F2.cons_of {R:α->β->Prop} (h:F2 R (a::l) r):E2 λb r'=>r=b::r'/\R a b/\F2 R l r':=by
 induction h using F2.kcons with
 |cons x t=>exact⟨_,_,rfl,x,t⟩
theorem F2.nil_of {R:α->β->Prop} (h:F2 R ([]:List α) r):r=[]:=by
 induction h using F2.knil;rfl
theorem VR.str_of (h:VR T rg G (.str x) w):∃t,w=.str (aj x) t/\Tx x:=by
 induction h using VR.kstr with
 |str t h=>exact⟨t,rfl,h⟩
theorem VR.tup_of (h:VR T rg G (.tup l) w):E2 λws a=>A3 (w=.ref a) (SR T rg G l ws) (G.H a=some (cj ws)):=by
 induction h using VR.ktup with
 |tup ws a h e=>exact⟨ws,a,rfl,h,e⟩
theorem VR.int_of (h:VR T rg G (.int c) w):∃t,w=.int c t:=by
 induction h using VR.kint with
 |int t=>exact⟨t,rfl⟩
theorem VR.ref_of {i:AI} {w:Value} (h:VR T rg G (.ref i) w):E2 λa d=>w=.ref a/\G.ρ i=some (a,d):=by
 induction h using VR.kref with
 |ref a d e=>exact⟨a,d,rfl,e⟩
theorem jd (f:Int×Ts):dJ (mk f.1 f.2)=false:=by
 obtain⟨c,ts⟩:=f;cases ts<;>rfl
end
end
section
def Vx (b:cA):Bool:=cY 27 b.fW.2&&cY 27 b.fM0.2&&cY 27 b.fRM.2&&cY 27 b.fSB.2
theorem Su:boxes.all Vx:=by kernel_rfl
theorem jP (h:cY n ts) (hn:n<=ν.length):Df ν ts:=λp hp=>by
 unfold cY at h;rw[bp]at h;exact jG (aQ (bO.mp h p hp)) hn
section
variable{Z:Zt} {n:Nat} {b:cA} {μ:List Int}
theorem dh.len (M:dh Z b μ):(Z.n0++μ).length=27:=by
 refine aa cX (aa M.n17 (aa M.fit.len ?_));rfl
theorem dh.dfs (M:dh Z b μ):Df (Z.n0++μ) b.fW.2/\Df (Z.n0++μ) b.fM0.2/\Df (Z.n0++μ) b.fRM.2/\Df (Z.n0++μ) b.fSB.2:=by
 have h:=bO.mp Su b M.mem;refine bB h λh4 h=>?_;refine bB h λh3 h=>?_;refine bB h λh2 h1=>?_;have l:=Nat.le_of_eq M.len.symm;exact⟨jP h1 l,jP h2 l,jP h3 l,jP h4 l⟩
theorem dh.room (M:dh Z b μ) (he:Dm es e):dn (Z.n0++(μ++es)) (vS Z (xM++(b.d++e))):=
 ⟨Dm.app (D5 M.n17 (st:=vS Z xM) rfl rfl).dom (Dm.app M.fit he),i8⟩
theorem KQ {T:cW} {v:V} {w:Value} (h:VR T rg G v w):dJ v=false:=by
 induction h using VR.casesOn<;>rfl
theorem z8 {T:cW} (h:F2 (λv (c:Nat)=>∀G w,ν <+:Gh.ν G->(VR T rg G v w↔bP w c)) l ns):bF l=false:=by
 induction h with
 |nil=>rfl
 |@cons v c l r x h ih=>
  show to (dJ v) (bF l)=false;refine aa ((KQ ((x ⟨λ_=>none,ν,λ_=>none⟩ (.int c 0) (dN _)).mpr ⟨0,rfl⟩)) ..) (aa ih ?_);rfl
theorem Kv {T:cW} (p:ν <+:G.ν) (h:F2 (λv (c:Nat)=>∀G w,ν <+:Gh.ν G->(VR T rg G v w↔bP w c)) l ns):∀{ws:List Value},F2 (VR T rg G) l ws->F2 bP ws ns:=by
 induction h with
 |nil=>exactλh=>by induction h using F2.knil;exact .nil
 |cons x h ih=>
  intro ws hs;obtain⟨w,ws,rfl,hv,hs⟩:=hs.cons_of;exact .cons ((x _ _ p).mp hv) (ih hs)
theorem tX {T:cW} (p:ν <+:G.ν) (h:F2 (λv (c:Nat)=>∀G w,ν <+:Gh.ν G->(VR T rg G v w↔bP w c)) l ns):∀{ws:List Value},F2 bP ws ns->F2 (VR T rg G) l ws:=by
 induction h with
 |nil=>exactλh=>by cases h;exact .nil
 |cons x h ih=>
  intro ws hs;cases hs with
  |cons hv hs=>exact .cons ((x _ _ p).mpr hv) (ih hs)
theorem dh.sg (M:dh Z b μ) (G:Gh) (ws:List Value) (p:(Z.n0++μ) <+:G.ν) (h:SR Z.T Z.rg G b.seg ws):F2 bP ws (Z.T.seg 0):=Kv p M.sge (h.plain (z8 M.sge))
theorem F2.dropLast {R:α->β->Prop} (h:F2 R l r):F2 R l.dropLast r.dropLast:=by
 induction h with
 |nil=>exact .nil
 |cons x h ih=>
  induction h using F2.casesOn with
  |nil=>exact .nil
  |cons y h=>exact .cons x ih
theorem Dm.nil:Dm [] []:=⟨rfl,λv hv=>by cases hv⟩
theorem nH (e:kH v k d=true):d ()=true\/∃s,v=.str s/\k s=true:=by
 cases v<;>first |exact .inl e |exact .inr ⟨_,rfl,e⟩
theorem RL (h:(ν++μ) <+:ξ):ν <+:ξ:=(List.prefix_append _ _).trans h
theorem FK (M:dh Z b μ) (p:(Z.n0++μ) <+:G2.ν) (h:VR Z.T Z.rg G2 (b.told z) w):
  E2 λws a=>w=.ref a/\G2.H a=some (cj ws)/\∀G':Gh,Z.n0 <+:G'.ν->SR Z.T Z.rg G' [.str wz,.sat 0,.sat 1,l1 15,l1 16,.int z,.str [],.str []] ws:=by
 obtain⟨ws,a,rfl,hs,e⟩:=h.tup_of;refine⟨ws,a,rfl,e,λG' p'=>?_⟩;obtain⟨w0,ws,rfl,h0,hs⟩:=hs.cons_of rfl;obtain⟨w1,ws,rfl,h1,hs⟩:=hs.cons_of rfl;obtain⟨w2,ws,rfl,h2,hs⟩:=hs.cons_of (by unfold cA.vIndex;split<;>rfl);obtain⟨w3,ws,rfl,h3,hs⟩:=hs.cons_of rfl;obtain⟨w4,ws,rfl,h4,hs⟩:=hs.cons_of (jd _);obtain⟨w5,ws,rfl,h5,hs⟩:=hs.cons_of rfl;obtain⟨w6,ws,rfl,h6,hs⟩:=hs.cons_of rfl;obtain⟨w7,ws,rfl,h7,hs⟩:=hs.cons_of rfl
 induction hs using SR.knil
 obtain⟨t0,rfl,x0⟩:=h0.str_of;obtain⟨t1,rfl⟩:=M.t0 G2 _ p h1;obtain⟨t2,rfl⟩:=M.t1 G2 _ p h2;obtain⟨t3,rfl⟩:=h3.int_of;obtain⟨t4,rfl⟩:=gS h4 p M.dfs.1;obtain⟨t5,rfl⟩:=h5.int_of;obtain⟨t6,rfl,x6⟩:=h6.str_of;obtain⟨t7,rfl,x7⟩:=h7.str_of;have e3:=ff (T:=Z.T) (rg:=Z.rg) (G:=G') (j:=15) p' (by rw[M.n17];simp) t3;have e4:=ff (T:=Z.T) (rg:=Z.rg) (G:=G') (j:=16) p' (by rw[M.n17];exact Nat.lt_add_one 16) t4;rw[M.sc]at e3;rw[M.wo]at e4;exact .cons _ _ _ _ (.str _ _ x0) (.cons _ _ _ _ (.sat _ _ M.tx.1) (.cons _ _ _ _ (.sat _ _ M.tx.2) (.cons _ _ _ _ e3 (.cons _ _ _ _ e4 (.cons _ _ _ _ (.int _ _) (.cons _ _ _ _ (.str _ _ x6) (.cons _ _ _ _ (.str _ _ x7) .nil)))))))
end
end
section
section
variable{Z:Zt} {n:Nat} {b:cA} {μ:List Int}
theorem zT (h:i4 s q0=some z):(s,z)∈q0:=gY h
theorem uF (h:some (hM ws n)=some (cj ws')):False:=by
 have:=congrArg Obj.cls (ch h);injection this with this;exact absurd this (by decide)
theorem QX (b:cA) (e:List gA):Ny b e Z.g0 Z.x0=vS Z (xM++(b.d++e)):=rfl
theorem Gz (M:dh Z b μ) (h:(s,z)∈q0):dy ⟨az,aG.body⟩ [.str s,fN b.md] (List.replicate 13 .unset) (vS Z (xM++(b.d++[]))) (N6 b z) (λ_=>false)=true:=by
 have t:=OE Z.g0 Z.x0;rw[bp]at t;have t:=bO.mp t b M.mem;unfold Cw at t;rw[bp]at t;exact bO.mp t (s,z) h
theorem nG (h:qf ts [(j,bt)]):ts=[(j,bt)]:=by
 cases ts with
 |nil=>exact ao h
 |cons p r=>
  refine ax (show ah (Nat.beq p.1 j) (ah (eH p.2 bt) (qf r []) false) false=true from h) λh h1=>?_;refine ax h λh3 h2=>?_;cases r with
  |cons=>exact ao h3
  |nil=>
   obtain⟨p1,p2⟩:=p;have e1:p1=j:=gB h1;have e2:p2=bt:=(aB _ _).mp h2;refine aa e1 ?_;rw[e2]
theorem Kr (hc:HW Z.g0) (M:dh Z b μ) (h:gV Z n ⟨⟨az,aG.body⟩,2,15,[]⟩ 1135):gV Z n ⟨aG,2,15,[]⟩ 1135:=λna hp sc sl X F G vs st m s k kE as ws I ha hw y=>by
 have n2:na=2:=by
  refine bB hp λp2 p1=>?_;have p1:na<=2:=aQ p1;have p2:2-na<=0:=aQ p2;lia
 subst n2;have h1:=h 2 hp;obtain⟨a0,a1,rfl⟩:E2 λa0 a1=>as=[a0,a1]:=by
  have:=hJ .unset as;rw[ha.length,hw]at this;exact⟨_,_,this⟩
 have dflt:dy ⟨az,aG.body⟩ [a0,a1] (lS ⟨⟨az,aG.body⟩,2,15,[]⟩ 2) st k kE->codeAny (model Z.prog Z.w) X.A (.call (.ref 1135) ⟨ws,[]⟩) (pY (bf Z X sl G vs m k) (c6 Z X G.ν m kE)) s:=λy=>h1 sc sl X F G vs st m s k kE _ ws I ha hw y;have y:dF a1 (λc ts=>kH a0 (TT st k (λ_=>dy ⟨az,aG.body⟩ [a0,a1] (lS ⟨⟨az,aG.body⟩,2,15,[]⟩ 2) st k kE) c ts) (λ_=>dy ⟨az,aG.body⟩ [a0,a1] (lS ⟨⟨az,aG.body⟩,2,15,[]⟩ 2) st k kE))
  (λ_=>dy ⟨az,aG.body⟩ [a0,a1] (lS ⟨⟨az,aG.body⟩,2,15,[]⟩ 2) st k kE):=y
 rcases cR y with y1 |⟨c,ts,hk,y1⟩
 ·exact dflt y1
 rcases nH y1 with y2 |⟨s0,hs0,y2⟩
 ·exact dflt y2
 refine bA y2 (λy3 q=>?_) λy3 _=>?_
 rotate_left
 ·exact dflt y3
 refine ee q λq2 q1=>?_;have q2:=nG q2;have q1:c=iZ:=(aB _ _).mp q1;subst q1 q2;have hk:a1=.lin iZ [(5,bt)]:=hk.resolve_left λz=>by cases z.2
 subst hk hs0;cases ht:i4 s0 q0 with
 |none=>rw[ht]at y3;exact dflt y3
 |some z=>
  rw[ht]at y3;clear y y1 y2 q dflt;obtain⟨w0,wsr,rfl,v0,ha⟩:=ha.cons_of;obtain⟨w1,wsr,rfl,v1,ha⟩:=ha.cons_of;have:=ha.nil_of;subst this;obtain⟨tr,I⟩:=I;have pn:=I.xok.v;refine aA v0.str_of λt0 e8 x0=>?_;rw[e8];obtain⟨t1,rfl⟩:=IZ (j:=5) v1 pn (by refine aa M.n17 ?_;simp);have pr:(Z.n0++μ) <+:(G.alone (Z.n0++(μ++[]))).ν:=by
   exact aa (List.append_nil ..) (dN _)
  refine m8 (ν:=Z.n0++(μ++[])) F I hc (M.room Dm.nil) (List.prefix_append _ _) h1 (as:=[.str s0,fN b.md]) (.cons (.str _ _ x0) (.cons (M.num _ _ pr) .nil)) hw (Gz M (zT ht)) λw s' zz=>?_;obtain⟨G2,v,st2,tr2,tr3,L,hv,hk,J,f3,I3⟩:=zz;have p:(Z.n0++μ) <+:G2.ν:=pr.trans L.ν;cases v with
  |tup l=>
   refine ib (show ah (bF l) false _=true from hk) λhk sg=>?_;refine ak hv.tup_of λws4 a4 e29 hs e4=>?_;rw[e29];have hs:=hs.plain sg
   match l,hk,hs with
   |[t,r,x,yv],hk,hs=>
    refine ax hk λhk k1=>?_;refine ax hk λhk k2=>?_;refine ax hk λk4 k3=>?_;obtain⟨wt,ws,rfl,ht',hs⟩:=hs.cons_of;obtain⟨wr,ws,rfl,hr,hs⟩:=hs.cons_of;obtain⟨wx,ws,rfl,hx,hs⟩:=hs.cons_of;obtain⟨wy,ws,rfl,hy,hs⟩:=hs.cons_of;have:=hs.nil_of;subst this;refine fp (FK M p (dP J.num ht' k1)) λws8 a8 e20 e8 told=>?_;subst e20;obtain⟨tx,rfl⟩:=gS (f:=(.ofNat 0,[(20,.ofNat 1)])) (dP J.num hx k3) p (jP (n:=27) rfl (Nat.le_of_eq M.len.symm));obtain⟨ty,rfl⟩:=gS (f:=(.ofNat 0,[(18,.ofNat 1)])) (dP J.num hy k4) p (jP (n:=27) rfl (Nat.le_of_eq M.len.symm));rw[<-M.x,<-M.bb]at*;refine aA (cb k2) λj e15 k2=>?_;subst e15;cases j with
    |g=>exact ao k2
    |d j=>
     refine gm (show obj (.d j) st2 _ from k2) λl' k2 ho=>?_;obtain⟨al,dl,hρ,hd,wl,nl,hl,hsl⟩:=J.sto (.d j) _ ho;subst hd;refine aJ hr.ref_of λal' dl' e7 hρ'=>?_;subst e7;replace hρ':=(hρ ..)▸hρ';cases hρ';refine fp ((B2 J.num hsl k2).cons_of (jd _)) λwm wsg e4 hm hsg=>?_;subst e4;obtain⟨tm,rfl⟩:=gS hm p M.dfs.2.1;rw[<-M.m0]at*;refine iP (wC I J f3 e8) λg8 o8 l8=>?_;refine iP (wC I J f3 e4) λg4 o4 l4=>?_;obtain⟨⟨_,nal,lal⟩,_⟩:=wA I J f3 ho hρ;have gl:=J.get hl;refine ak ((mn.nil I3).addH g8 o8 l8) λGa ta A1 La H8=>?_;refine ak (A1.addH g4 o4 l4) λGb tb A2 Lb H4=>?_;have nq:dl∉[a4,a8]:=λhm=>by
      simp only[bk,List.not_mem_nil,or_false]at hm;rcases hm with rfl |rfl
      ·exact uF (gl.symm.trans g4)
      ·exact uF (gl.symm.trans g8)
     obtain⟨tf,If,Lf⟩:=A2.addI (a:=dl) (d:=dl) (x:=.list [l1 6,.seg 0 false]) gl gl nal nal lal lal nq nq λtr' up ha hd=>⟨rfl,_,nl,ha,by
      have pf:Z.n0 <+:(Gb.putI (.d st.n) (dl,dl)).ν:=by show Z.n0 <+:Gb.ν;rw[A2.nu];exact pn
      have:=SR.seg (T:=Z.T) (rg:=Z.rg) (G:=Gb.putI (.d st.n) (dl,dl)) 0 false wsg [] [] (M.sn.mono pf) (M.sg G2 wsg p hsg) .nil;rw[List.append_nil]at this;exact .cons _ _ _ _ (ff pf (by refine aa M.n17 ?_;simp) tm) this⟩
     have pf:Z.n0 <+:(Gb.putI (.d st.n) (dl,dl)).ν:=by show Z.n0 <+:Gb.ν;rw[A2.nu];exact pn
     refine⟨Gb.putI (.d st.n) (dl,dl),.tup [.tup [.str wz,.sat 0,.sat 1,l1 15,l1 16,.int z,.str [],.str []],.ref (.d st.n),l1 8,l1 9],_,A2.le.trans Lf,.tup _ _ a4 ?_ (Lf.H _ _ H4),?_,tf,If⟩
     ·exact .cons _ _ _ _ (.tup _ ws8 a8 (told _ pf) (Lf.H _ _ (Lb.H _ _ H8))) (.cons _ _ _ _ (.ref _ dl dl bV) (.cons _ _ _ _ (ff pf (by refine aa M.n17 ?_;exact Nat.lt_of_sub_eq_succ rfl) tx) (.cons _ _ _ _ (ff pf (by refine aa M.n17 ?_;simp) ty) .nil)))
     ·obtain⟨t,nn,d,mm,g,xx,fl⟩:=st;exact y3
   |[],hk,_=>exact ao hk
   |[_],hk,_=>exact ao hk
   |[_,_],hk,_=>exact ao hk
   |[_,_,_],hk,_=>exact ao hk
   |_::_::_::_::_::_,hk,_=>exact ao hk
  |_=>exact ao hk
end
end
section
inductive E6 {α0:Sort _} {α1:Sort _} {α2:Sort _} {α3:Sort _} {α4:Sort _} {α5:Sort _} (p:α0->α1->α2->α3->α4->α5->Prop):Prop |mk (x0:α0) (x1:α1) (x2:α2) (x3:α3) (x4:α4) (x5:α5) (h:p x0 x1 x2 x3 x4 x5):E6 p
inductive E8 {α0:Sort _} {α1:Sort _} {α2:Sort _} {α3:Sort _} {α4:Sort _} {α5:Sort _} {α6:Sort _} {α7:Sort _} (p:α0->α1->α2->α3->α4->α5->α6->α7->Prop):Prop |mk (x0:α0) (x1:α1) (x2:α2) (x3:α3) (x4:α4) (x5:α5) (x6:α6) (x7:α7) (h:p x0 x1 x2 x3 x4 x5 x6 x7):E8 p
section
variable{T:cW} {rg:Addr} {G:Gh} {st:St}
theorem f8 (D:dn G.ν st) {n0:List Int} (p:n0 <+:G.ν) {j:Nat} (hj:j<n0.length) {a:V} (h:VR T rg G a w) (e:cD st a (l1 j) y n=true):n ()=true\/(y ()=true/\∃t,w=.int (n0.getD j 0) t):=by
 have d:Df n0 [(j,bt)]:=.cons hj (.nil _);have vj:ev G.ν [(j,bt)]=n0.getD j 0:=by
  refine aa (cr p d) ?_;show bt*n0.getD j 0+0=_;have e1:bt=1:=rfl;refine aa e1 ?_;simp
 have main:∀c ts x t,Df G.ν ts->c+ev G.ν ts=x->w=.int x t->iM st (d6 c iZ) (fS ts (fG gJ [(j,bt)])) (λz=>ah (eH z iZ) (y ()) (n ())) n->n ()=true\/(y ()=true/\∃t,w=.int (n0.getD j 0) t):=λc ts x t d' q hw e=>by
  refine kN (cQ G.ν gJ _ (d.mono p)) λm1 m2=>?_;refine kN (cE G.ν ts _ d' m2) λa1 a2=>?_;rcases eg D.dom a2 e with e |e
  ·refine bA e (λe z=>?_) λe _=>?_
   ·have z:=(aB _ _).mp z;rw[a1,m1,bq]at z;have e1:gJ= -1:=rfl;have e0:iZ=0:=rfl;rw[e1,e0]at z;exact .inr ⟨e,t,by refine aa hw ?_;congr 1;lia⟩
   ·exact .inl e
  ·exact .inl e
 induction h using VR.casesOn with
 |int c t=>exact main c [] c t (Df.nil _) (by simp[ev]) rfl e
 |lin c ts x t d' q=>exact main c ts x t d' q rfl e
 |_=>exact ao e
end
end
section
theorem CQ {α1:Sort _} {α2:Sort _} {α3:Sort _} {α4:Sort _} {α5:Sort _} {p0 p1 p2 p3 p4 p5 p6:α0->α1->α2->α3->α4->α5->Prop} (h:E6 λx0 x1 x2 x3 x4 x5=>A7 (p0 x0 x1 x2 x3 x4 x5) (p1 x0 x1 x2 x3 x4 x5) (p2 x0 x1 x2 x3 x4 x5) (p3 x0 x1 x2 x3 x4 x5) (p4 x0 x1 x2 x3 x4 x5) (p5 x0 x1 x2 x3 x4 x5) (p6 x0 x1 x2 x3 x4 x5)) {C:Prop} (k:∀x0 x1 x2 x3 x4 x5,p0 x0 x1 x2 x3 x4 x5->p1 x0 x1 x2 x3 x4 x5->p2 x0 x1 x2 x3 x4 x5->p3 x0 x1 x2 x3 x4 x5->p4 x0 x1 x2 x3 x4 x5->p5 x0 x1 x2 x3 x4 x5->p6 x0 x1 x2 x3 x4 x5->C):C:=by obtain⟨x0,x1,x2,x3,x4,x5,h0,h1,h2,h3,h4,h5,h6⟩:=h;exact k x0 x1 x2 x3 x4 x5 h0 h1 h2 h3 h4 h5 h6
section
variable{Z:Zt} {n:Nat} {b:cA} {μ:List Int}
theorem Gw (M:dh Z b μ):dy ⟨az,bS.body⟩ [.int (.ofNat b.md),fV b.fRM,fV b.fSB,fV b.fW,.lin (.ofNat 0) [(20,.ofNat 1)],.lin (.ofNat 0) [(18,.ofNat 1)],Qm,.str []] (List.replicate 4 .unset) (vS Z (xM++(b.d++[.unb]))) (Ld b) (λ_=>false)=true:=by
 have t:=OD Z.g0 Z.x0;rw[bp]at t;exact(bO.mp t b M.mem)
theorem Ky (J:ap Z X sl G2 vs st2 m s' tr2) (hv:VR Z.T Z.rg G2 v w) (hk:wF e st2 v):
  E6 λa d sl' es nn wn=>A7 (w=.ref a) ((∃p,G2.ρ (.d p)=some (a,d)/\∃x,st2.t.get p=some x)) (cO X tr2 a (oY (Z.cls 11) d)) (cO X tr2 d (dictOf es nn)) (getL "name" es=some (some wn)) (VR Z.T Z.rg G2 e wn) (sl'=(#[]:Array (Option Value))):=by
 refine hG λCC hCC=>?_;refine aA (cb hk) λi ee0 hk=>?_;subst ee0;cases i with
 |g=>exact ao hk
 |d p=>
  refine CT (hZ (show fields (.ref (.d p)) st2 _ from hk)) λp' c fs e1 ho hk=>?_;cases e1;refine kN (eU (show ah (Nat.beq c 11) (ag (gE fs 0) false λw=>ge st2 e w) false=true from hk)) λhc hk=>?_;have hc:=gB hc;subst hc;cases hf:gE fs 0 with
  |none=>rw[hf]at hk;exact ao hk
  |some v0=>
   rw[hf]at hk;refine aJ (J.sto (.d p) _ ho) λa d hρ zz1=>?_;obtain⟨_,es,nn,h1,h2,h3⟩:=zz1;refine aJ hv.ref_of λa' d' ee2 hρ'=>?_;subst ee2;rw[hρ]at hρ';cases hρ';have g:=h3.get 0 (by exact Nat.zero_lt_succ 43);rw[hf]at g;refine aA g λwn g1 g2=>?_;refine hCC ?_;exact⟨a,d,#[],es,nn,wn,rfl,⟨p,hρ,_,ho⟩,h1,h2,g1,dP J.num g2 hk,rfl⟩
theorem qR {st st2:St} {s s':Shared} (hr:Z.rg=Z.cls 11)
  (I:ap Z X sl G vs st m s tr) (J:ap Z (eE X (bv X tr s.heap) .nil G.H) [] G2 [] st2 m s' tr2) (f3:tr3.map (·.1)=tr.map (·.1)) (A:mn Z X sl G vs st m s' tr3 Q G1 tr1) (hv:VR Z.T Z.rg G2 v w) (hk:wF e st2 v)
  (he:∀w,VR Z.T Z.rg G2 e w->∃t,w=.str (aj (Z.T.txt i)) t) (tx:Tx (Z.T.txt i)):
  E6 λGa ta a d p x=>A7 (mn Z X sl G vs st m s' tr3 (d::a::Q) Ga ta) (G1.Le Ga) (VR Z.T Z.rg Ga (.oreg i) w) (G2.ρ (.d p)=some (a,d)) (st2.t.get p=some x) ((E2 λes n=>cO X tr2 d (dictOf es n))) (cO X tr2 a (oY (Z.cls 11) d)):=by
 refine CQ (Ky J hv hk) λa d _ es nn wn ee3 zz4 h1 h2 hn hw _=>?_;subst ee3;obtain⟨p,hρ,x,hx⟩:=zz4;refine kX (he _ hw) λt ee5=>?_;subst ee5;refine jI (wA I J f3 hx hρ) λzz6 zz7 nd ld=>?_;obtain⟨⟨_,ga⟩,na,la⟩:=zz6;obtain⟨_,gd⟩:=zz7;have g1:=J.get h1;have g2:=J.get h2;refine ak (A.addH g1 (λz=>absurd z na) la) λGa ta A1 L1 H1=>?_;refine ak (A1.addH g2 (λz=>absurd z nd) ld) λGb tb A2 L2 H2=>?_;refine⟨Gb,tb,a,d,p,x,A2,L1.trans L2,.oreg i a d #[] es nn t ?_ H2 hn tx,hρ,hx,⟨es,nn,h2⟩,h1⟩;rw[hr];exact L2.H _ _ H1
theorem VR.none_of {T:cW} (h:VR T rg G .none w):w=.none:=h.inv
theorem GY {st:St} (h:LI b st v):(et v/\b.vIndex=.str [])\/wF b.vIndex st v:=by
 unfold LI at h;have hv:b.k=0\/b.k=1->b.vIndex=.str []:=λh=>by
  unfold cA.vIndex;rcases h with h |h<;>simp[h]
 cases hk:b.k with
 |zero=>rw[hk]at h;exact .inl ⟨h,hv (.inl hk)⟩
 |succ j=>
  cases j with
  |zero=>rw[hk]at h;exact .inl ⟨h,hv (.inr hk)⟩
  |succ j=>rw[hk]at h;exact .inr h
theorem Mz {T:cW} {ps:List (Nat×(V->Bool))} {fs:List (Nat×V)} {es:List DictEntry} (h:MA ps fs) (r:FR T rg G fs es):F2 (λp e=>(p.1<44/\∃t,e.key=.str (b9 p.1) t)/\∃v,p.2 v/\VR T rg G v e.val) ps es:=by
 induction ps generalizing fs es with
 |nil=>
  cases fs with
  |nil=>induction r using F2.knil;exact .nil
  |cons=>exact ao h
 |cons p ps ih=>
  cases fs with
  |nil=>exact ao h
  |cons q fs=>
   refine ax h λh2 h1=>?_;refine ax h2 λh3 h2=>?_
   induction r using F2.kcons with
   |cons hv r=>
    rw[<-gB h1]at hv;exact .cons ⟨⟨hv.1,hv.2.1⟩,_,h2,hv.2.2⟩ (ih h3 r)
theorem Dm.one (h:jq x d) (r:Dm es e):Dm (x::es) (d::e):=Dm.app (ν:=[x]) (d:=[d]) ⟨rfl,λv hv=>by
 have:v=0:=by simpa using hv
 refine aa this ?_;exact h⟩ r
theorem qO {ν μ:List Int} (h:(ν++μ).length=k):(ν++(μ++[z])).getD k 0=z:=by
 refine bI (List.append_assoc ..) (aa (iw ..) (aa (List.getElem?_append_right (Nat.le_of_eq h) ..) (aa h ?_)));simp
inductive Tn (Z:Zt) (b:cA) (G:Gh) (st:St) (z:Int) (es:List DictEntry):Prop
 |mk (w1 w2:Value) (r1:∃v,wF b.vBase st v/\VR Z.T Z.rg G v w1) (r2:(w2=.none/\b.vIndex=.str [])\/∃v,wF b.vIndex st v/\VR Z.T Z.rg G v w2)
  (kk:∀(G':Gh) (v1 v2:V),Z.n0 <+:G'.ν->VR Z.T Z.rg G' v1 w1->VR Z.T Z.rg G' v2 w2->FR Z.T Z.rg G' [(33,.str wz),(36,v1),(37,v2),(38,l1 15),(35,l1 16),(5,.int z),(13,.str []),(0,.str [])] es)
theorem Gx (M:dh Z b μ) {G:Gh} {st:St} {z:Int} {es:List DictEntry} (D:dn G.ν st) (pz:(Z.n0++(μ++[z])) <+:G.ν) (h:F2 (λp e=>(p.1<44/\∃t,e.key=.str (b9 p.1) t)/\∃v,p.2 v/\VR Z.T Z.rg G v e.val) (N2 b st) es):Tn Z b G st z es:=by
 have p:=by rw[<-List.append_assoc]at pz;exact(List.prefix_append _ _).trans pz
 have l17:∀{j:Nat},j<17->j<Z.n0.length:=λh=>aa M.n17 (h);have vz:val (Z.n0++(μ++[z])) (.ofNat 0,[(27,.ofNat 1)])=z:=by
  show Int.ofNat 0+(Int.ofNat 1*(Z.n0++(μ++[z])).getD 27 0+0)=z;refine aa (qO M.len) ?_;simp
 have dz:Df (Z.n0++(μ++[z])) [(27,.ofNat 1)]:=jP rfl (by refine bI (List.append_assoc ..) (aa cX (aa M.len ?_));exact c8 _);have st0:∀{s:List Nat} {w:Value},(∃v,ge st (.str s) v/\VR Z.T Z.rg G v w)->∀G':Gh,VR Z.T Z.rg G' (.str s) w:=λ⟨v,h1,h2⟩ G'=>by
  refine aA ((dP D h2 h1).str_of) λt e8 x=>?_;exact aa e8 (.str _ _ x)
 obtain⟨e0,es,rfl,f0,h⟩:=F2.cons_of h;obtain⟨e1,es,rfl,f1,h⟩:=F2.cons_of h;obtain⟨e2,es,rfl,f2,h⟩:=F2.cons_of h;obtain⟨e3,es,rfl,f3,h⟩:=F2.cons_of h;obtain⟨e4,es,rfl,f4,h⟩:=F2.cons_of h;obtain⟨e5,es,rfl,f5,h⟩:=F2.cons_of h;obtain⟨e6,es,rfl,f6,h⟩:=F2.cons_of h;obtain⟨e7,es,rfl,f7,h⟩:=F2.cons_of h;have:=h.nil_of;refine aa this ?_;refine .mk e1.val e2.val f1.2 ?_ λG' v1 v2 pf k1 k2=>?_
 ·refine aA f2.2 λv h1 h2=>?_;rcases GY h1 with⟨h1,h3⟩ |h1
  ·refine .inl ⟨?_,h3⟩;revert h2;refine V.sel v h1 Nl (λh1 h2=>?_) Ql Qk Qj Tt Nk Nj Ni QS BB BA Bz;exact VR.none_of h2
  ·exact .inr ⟨v,h1,h2⟩
 ·refine .cons ⟨f0.1.1,f0.1.2,st0 f0.2 G'⟩ (.cons ⟨f1.1.1,f1.1.2,k1⟩ (.cons ⟨f2.1.1,f2.1.2,k2⟩ (.cons ⟨f3.1.1,f3.1.2,?_⟩ (.cons ⟨f4.1.1,f4.1.2,?_⟩ (.cons ⟨f5.1.1,f5.1.2,?_⟩ (.cons ⟨f6.1.1,f6.1.2,st0 f6.2 G'⟩ (.cons ⟨f7.1.1,f7.1.2,st0 f7.2 G'⟩ .nil)))))))
  ·refine aA f3.2 λv h1 h2=>?_;refine kX ((dP D h2 h1).int_of) λt q=>?_;refine aa q (aa (show(Int.ofNat b.sc)=((b.sc))from rfl ..) (bI M.sc ?_));exact ff pf (l17 (by simp)) _
  ·refine aA f4.2 λv h1 h2=>?_;refine kX (gS (dP D h2 h1) p M.dfs.1) λt q=>?_;refine aa q (bI M.wo ?_);exact ff pf (l17 (by simp)) _
  ·refine aA f5.2 λv h1 h2=>?_;refine kX (gS (f:=(.ofNat 0,[(27,.ofNat 1)])) (dP D h2 h1) pz dz) λt q=>?_;refine aa q (aa vz ?_);exact .int _ _
theorem K9 {a0 a1 a2 a3 a4 a5 a6 a7:V} {st:St} (y:dF a6 (λz zs=>kH a7 (TS Cx a0 a1 a2 a3 a4 a5 st k D z zs) D) D=true):
  D ()=true\/∃z,A4 ((a6=.int z\/a6=.lin z [])) (a7=.str []) (a0=.lin iZ [(10,bt)]) (cD st a1 (l1 11) (λ_=>cD st a2 (l1 12) (λ_=>cD st a3 (l1 13) (λ_=>cD st a4 (l1 8) (λ_=>cD st a5 (l1 9) (R5 Cx z st k) D) D) D) D) D=true):=by
 rcases cR y with y |⟨z,zs,hz,y⟩
 ·exact .inl y
 rcases nH y with y |⟨s0,rfl,y⟩
 ·exact .inl y
 refine bA y (λy q=>?_) λy _=>?_
 rotate_left
 ·exact .inl y
 refine ee q λq2 q1=>?_;rcases cR y with y |⟨c,ts,hk,y⟩
 ·exact .inl y
 refine bA y (λy q=>?_) λy _=>?_
 rotate_left
 ·exact .inl y
 refine ee q λq4 q3=>?_;refine .inr ⟨z,?_,?_,?_,y⟩
 ·rcases hz with⟨h,_⟩ |h
  ·exact .inl h
  ·cases zs with
   |nil=>exact .inr h
   |cons=>exact ao q1
 ·cases s0 with
  |nil=>rfl
  |cons=>exact ao q2
 ·rw[nG q4]at hk;rw[(aB _ _).mp q3]at hk;exact hk.resolve_left λz=>by cases z.2
theorem As {st:St} {a1 a2 a3 a4 a5:V} {D Y:Th} (M:dh Z b μ) (I:ap Z X sl G vs st m s tr) (v1:VR Z.T Z.rg G a1 w1) (v2:VR Z.T Z.rg G a2 w2) (v3:VR Z.T Z.rg G a3 w3) (v4:VR Z.T Z.rg G a4 w4) (v5:VR Z.T Z.rg G a5 w5)
  (y:cD st a1 (l1 11) (λ_=>cD st a2 (l1 12) (λ_=>cD st a3 (l1 13) (λ_=>cD st a4 (l1 8) (λ_=>cD st a5 (l1 9) Y D) D) D) D) D=true):
  D ()=true\/Y ()=true/\(∃t,w1=.int (Z.n0.getD 11 0) t)/\(∃t,w2=.int (Z.n0.getD 12 0) t)/\(∃t,w3=.int (Z.n0.getD 13 0) t)/\(∃t,w4=.int (Z.n0.getD 8 0) t)/\∃t,w5=.int (Z.n0.getD 9 0) t:=by
 refine hG λCC hCC=>?_;have l17:∀{j:Nat},j<17->j<Z.n0.length:=λh=>aa M.n17 (h);have pn:=I.xok.v;rcases f8 I.num pn (l17 (by simp)) v1 y with y |⟨y,t1⟩
 ·refine hCC ?_;exact .inl y
 rcases f8 I.num pn (l17 (by simp)) v2 y with y |⟨y,t2⟩
 ·refine hCC ?_;exact .inl y
 rcases f8 I.num pn (l17 (by simp)) v3 y with y |⟨y,t3⟩
 ·refine hCC ?_;exact .inl y
 rcases f8 I.num pn (l17 (by simp)) v4 y with y |⟨y,t4⟩
 ·refine hCC ?_;exact .inl y
 rcases f8 I.num pn (l17 (by simp)) v5 y with y |⟨y,t5⟩
 ·refine hCC ?_;exact .inl y
 ·refine hCC ?_;exact .inr ⟨y,t1,t2,t3,t4,t5⟩
theorem Ct {sl vs m s s' tr tr2 tr3} {st st2:St} (hr:Z.rg=Z.cls 11) (hq:Z.cls 9≠Z.cls 11) (M:dh Z b μ) (I:ap Z X sl G vs st m s tr) (J:ap Z (eE X (bv X tr s.heap) .nil G.H) [] G2 [] st2 m s' tr2) (f3:tr3.map (·.1)=tr.map (·.1)) (I3:ap Z X sl G vs st m s' tr3)
  (pz:(Z.n0++(μ++[z])) <+:G2.ν) (hv:VR Z.T Z.rg G2 v w) (hk:Ld b v st2=true) (y:R5 Cx z st k ()=true):bf Z X sl G vs m k w s':=by
 refine hG λCC hCC=>?_;have pn:=I.xok.v;have p:(Z.n0++μ) <+:G2.ν:=by rw[<-List.append_assoc]at pz;exact(List.prefix_append _ _).trans pz
 refine aA (cb hk) λi ee8 hk=>?_;subst ee8;cases i with
 |g=>exact ao hk
 |d p0=>
  refine CT (hZ (show fields (.ref (.d p0)) st2 _ from hk)) λp' c fs e1 ho hk=>?_;cases e1;refine kN (eU hk) λhc9 hk=>?_;have hc9:=gB hc9;subst hc9;refine aJ (J.sto (.d p0) _ ho) λam dm hρ zz9=>?_;obtain⟨_,es,nn,hm1,hm2,hf⟩:=zz9;refine aJ hv.ref_of λa' d' ee10 hρ'=>?_;subst ee10;refine kN (fE (hρ.symm.trans hρ')) λee11 ee12=>?_;subst ee11 ee12;obtain⟨w1,w2,⟨u1,rb,g1⟩,r2,kk⟩:=Gx M J.num pz (Mz hk hf);clear hf hk;refine jI (wA I J f3 ho hρ) λzz13 _ ndm ldm=>?_;obtain⟨_,nam,lam⟩:=zz13;have gam:=J.get hm1;have gdm:=J.get hm2;refine aA J.own λow o1 _=>?_;have mem_ne:∀{a d q},G2.ρ (.d q)=some (a,d)->cO _ tr2 a (oY (Z.cls 11) d)->am≠a/\dm≠d:=λ{a d q} r h=>by
   have n1:am≠a:=λz=>by
    subst z;have:=congrArg Obj.cls (ch (gam.symm.trans (J.get h)));injection this with this;exact hq this
   refine⟨n1,λz=>?_⟩;subst z;have e2:=(o1 _ _ _ hρ).2.symm.trans (o1 _ _ _ r).2;injection e2 with e2;injection e2 with e2;subst e2;exact n1 (fE (hρ.symm.trans r)).1
  have ins_dic:∀{C d n es a},s'.heap.get? a=some (oY C d)->s'.heap.get? a=some (dictOf es n)->False:=λh h'=>by
   have:=congrArg Obj.data (ch (h.symm.trans h'));cases this
  refine CQ (qR hr I J f3 (mn.nil I3) g1 rb (λw h=>M.t0 G2 w p h) M.tx.1) λGa ta ab db pb xb' A1 L1 vb ρb _ zz14 hab=>?_;obtain⟨_,_,hdb⟩:=zz14;have fin:∀{Q Gq tq},mn Z X sl G vs st m s' tr3 Q Gq tq->Ga.Le Gq->VR Z.T Z.rg Gq (.oreg 1) w2->am∉Q->dm∉Q->bf Z X sl G vs m k (.ref am) s':=λ{Q Gq tq} A Lq vi qa qd=>by
   have L2:=gO (G:=Gq) (p:=(am,dm)) (A.inv.cnt st.n (c8 _));have pf:Z.n0 <+:(Gq.putI (.d st.n) (am,dm)).ν:=by show Z.n0 <+:Gq.ν;rw[A.nu];exact pn
   refine aA (A.addI (a:=am) (d:=dm) (x:=.inst 9 (IT Cx z)) gam gdm nam ndm lam ldm qa qd λtr' up ha hd=>⟨⟨⟨by decide,by decide⟩,show([33,36,37,38,35,5,13,0]:List Nat).Nodup by decide⟩,es,nn,ha,hd,kk _ _ _ pf ((vb.mono Lq).mono L2) (vi.mono L2)⟩) λtf If Lf=>?_;refine⟨_,.ref (.d st.n),_,A.le.trans Lf,.ref _ am dm bV,?_,tf,If⟩;obtain⟨t,nn,d,mm,g,xx,fl⟩:=st;exact y
  have n1:=mem_ne ρb hab;have x1:am≠db:=λz=>by subst z;exact ins_dic gam (J.get hdb)
  have x2:dm≠ab:=λz=>by subst z;exact ins_dic (J.get hab) gdm
  rcases r2 with⟨rfl,hvi⟩ |⟨u2,ri,g2⟩
  ·have e1:Z.T.txt 1=[]:=by
    refine kX (M.t1 G2 (.str (aj []) 0) p (by rw[hvi];exact .str _ _ λ_ h=>by cases h)) λt q=>?_;injection q with q;exact(gX.mp q).symm
   refine hCC ?_;refine fin A1 (Gh.Le.refl _) (.oreg0 1 e1 (by decide)) ?_ ?_
   ·simp[n1.1,x1]
   ·simp[n1.2,x2]
  ·refine CQ (qR hr I J f3 A1 g2 ri (λw h=>M.t1 G2 w p h) M.tx.2) λGb tb ai di pi xi' A2 L2 vi ρi _ zz15 hai=>?_;obtain⟨_,_,hdi⟩:=zz15;have n2:=mem_ne ρi hai;have x3:am≠di:=λz=>by subst z;exact ins_dic gam (J.get hdi)
   have x4:dm≠ai:=λz=>by subst z;exact ins_dic (J.get hai) gdm
   refine hCC ?_;refine fin A2 L2 vi ?_ ?_
   ·simp[n1.1,x1,n2.1,x3]
   ·simp[n1.2,x2,n2.2,x4]
theorem VP {as:List V} (h:as.length=8):E8 λa0 a1 a2 a3 a4 a5 a6 a7=>as=[a0,a1,a2,a3,a4,a5,a6,a7]:=by
 have:=hJ .unset as;rw[h]at this;exact⟨_,_,_,_,_,_,_,_,this⟩
theorem Kq (hc:HW Z.g0) (hr:Z.rg=Z.cls 11) (hq:Z.cls 9≠Z.cls 11) (M:dh Z b μ) (h:gV Z n ⟨⟨az,bS.body⟩,8,12,[]⟩ 650):gV Z n ⟨bS,8,12,[]⟩ 650:=λna hp sc sl X F G vs st m s k kE as ws I ha hw y=>by
 refine hG λCC hCC=>?_;have n2:=Nat.le_antisymm (aQ (ay hp).1) (Nat.sub_eq_zero_iff_le.mp (Nat.le_zero.mp (aQ (ay hp).2)));subst n2;have h1:=h 8 hp;have dflt:=h1 sc sl X F G vs st m s k kE as ws I ha hw;obtain⟨a0,a1,a2,a3,a4,a5,a6,a7,rfl⟩:=VP (ha.length.trans hw);rcases K9 (D:=λ_=>dy ⟨az,bS.body⟩ [a0,a1,a2,a3,a4,a5,a6,a7] (lS ⟨⟨az,bS.body⟩,8,12,[]⟩ 8) st k kE) y with y |⟨z,hz,rfl,rfl,y⟩
 ·refine hCC ?_;exact dflt y
 refine I.k λtr I=>?_;obtain⟨w0,wsr,rfl,v0,ha⟩:=ha.cons_of;obtain⟨w1,wsr,rfl,v1,ha⟩:=ha.cons_of;obtain⟨w2,wsr,rfl,v2,ha⟩:=ha.cons_of;obtain⟨w3,wsr,rfl,v3,ha⟩:=ha.cons_of;obtain⟨w4,wsr,rfl,v4,ha⟩:=ha.cons_of;obtain⟨w5,wsr,rfl,v5,ha⟩:=ha.cons_of;obtain⟨w6,wsr,rfl,v6,ha⟩:=ha.cons_of;obtain⟨w7,wsr,rfl,v7,ha⟩:=ha.cons_of;have:=ha.nil_of;subst this;rcases As M I v1 v2 v3 v4 v5 y with y |⟨y,⟨t1,rfl⟩,⟨t2,rfl⟩,⟨t3,rfl⟩,⟨t4,rfl⟩,t5,rfl⟩
 ·refine hCC ?_;exact dflt y
 clear dflt;obtain⟨t0,rfl⟩:=IZ v0 I.xok.v (by refine aa M.n17 ?_;simp);obtain⟨t6,rfl⟩:∃t6,w6=.int z t6:=by
  rcases hz with rfl |rfl
  ·exact v6.int_of
  ·induction v6 using VR.klin with
   |lin x t _ e=>exact⟨t,by refine bI e ?_;simp[ev]⟩
 refine aA v7.str_of λt7 e0 x7=>?_;subst e0;have pr:(Z.n0++μ) <+:(G.alone (Z.n0++(μ++[z]))).ν:=⟨[z],by show Z.n0++μ++[z]=Z.n0++(μ++[z]);rw[List.append_assoc]⟩;have d27:∀{ts:Ts},cY 27 ts->Df (Z.n0++μ) ts:=λh=>jP h (Nat.le_of_eq M.len.symm);have g6:VR Z.T Z.rg (G.alone (Z.n0++(μ++[z]))) Qm (.int z t6):=by
  refine .lin _ _ z t6 (jP (n:=28) rfl ?_) ?_
  ·show 28<=(Z.n0++(μ++[z])).length;refine bI (List.append_assoc ..) (aa cX (aa M.len ?_));exact c8 _
  ·show Int.ofNat 0+(Int.ofNat 1*(Z.n0++(μ++[z])).getD 27 0+0)=z;refine aa (qO M.len) ?_;simp
 have g0:VR Z.T Z.rg (G.alone (Z.n0++(μ++[z]))) (.int (.ofNat b.md)) (.int (Z.n0.getD 10 0) t0):=aa M.md (.int _ _);have g1:=kg (T:=Z.T) (rg:=Z.rg) pr M.dfs.2.2.1 t1;have g2:=kg (T:=Z.T) (rg:=Z.rg) pr M.dfs.2.2.2 t2;have g3:=kg (T:=Z.T) (rg:=Z.rg) pr M.dfs.1 t3;have g4:=kg (T:=Z.T) (rg:=Z.rg) (f:=(.ofNat 0,[(20,.ofNat 1)])) pr (d27 rfl) t4;have g5:=kg (T:=Z.T) (rg:=Z.rg) (f:=(.ofNat 0,[(18,.ofNat 1)])) pr (d27 rfl) t5;rw[<-M.rm]at g1;rw[<-M.sb]at g2;rw[<-M.di]at g3;rw[<-M.x]at g4;rw[<-M.bb]at g5;refine hCC ?_;refine m8 F I hc (M.room (Dm.one (d:=.unb) trivial Dm.nil)) (List.prefix_append _ _) h1 (.cons g0 (.cons g1 (.cons g2 (.cons g3 (.cons g4 (.cons g5 (.cons g6 (.cons (.str _ _ x7) .nil)))))))) hw (Gw M) λw s' zz=>?_;exact uN zz λG2 v st2 tr2 tr3 L hv hk J f3 I3=>Ct hr hq M I J f3 I3 L.ν hv hk y
end
end
section
section
variable{Z:Zt} {n:Nat} {b:cA} {μ:List Int} {st:St} {T:cW} {rg:Addr} {G:Gh}
theorem F2.app_of {R:α->β->Prop}:∀{a b:List α} {c:List β},F2 R (a++b) c->E2 λc1 c2=>A3 (c=c1++c2) (F2 R a c1) (F2 R b c2):=by
 intro l0
 induction l0 with
 |nil=>
  intro b c h;exact⟨[],c,rfl,.nil,h⟩
 |cons x a ih=>
  intro b c h;obtain⟨y,r,rfl,hx,h⟩:=F2.cons_of h;refine ak (ih h) λc1 c2 e0 h1 h2=>?_;exact aa e0 (⟨y::c1,c2,rfl,.cons hx h1,h2⟩)
theorem SR.app_of:∀{a b:List V} {ws:List Value},SR T rg G (a++b) ws->E2 λw1 w2=>A3 (ws=w1++w2) (SR T rg G a w1) (SR T rg G b w2):=by
 intro l0
 induction l0 with
 |nil=>
  intro b ws h;exact⟨[],ws,rfl,.nil,h⟩
 |cons x a ih=>
  intro b ws h
  induction h using SR.kcons with
  |cons w ws hv r=>
   refine ak (ih r) λw1 w2 e4 h1 h2=>?_;exact aa e4 (⟨w::w1,w2,rfl,.cons _ _ _ _ hv h1,h2⟩)
  |seg i cut us ws e0 q hu r=>
   refine aa e0 ?_;refine ak (ih r) λw1 w2 e3 h1 h2=>?_;exact aa e3 (⟨us++w1,w2,by rw[List.append_assoc],.seg _ _ _ _ _ q hu h1,h2⟩)
theorem yL (p:G.ν=ν) (ws:List Value) (ns:List Nat) (a:Nat) (h:F2 bP ws ns) (e:∀i:Nat,i<ns.length->ν.getD (a+i) 0=((ns.getD i 0:Nat):Int)) (l:a+ns.length<=ν.length):F2 (VR T rg G) (kf a ns.length) ws:=by
 subst p
 induction h generalizing a with
 |nil=>exact .nil
 |@cons w c ws ns h r ih=>
  refine F2.cons ?_ (ih (a+1) (λi hi=>?_) (by refine aa (Nat.succ_add_eq_add_succ ..) ?_;exact l))
  ·refine kX h λt q=>aa q ?_;refine .lin _ _ _ t (.cons (jG (Nat.lt_add_of_pos_right (Nat.succ_pos _)) l) (.nil _)) ?_;refine bI (e 0 (Nat.zero_lt_succ _)) ?_;show Int.ofNat 0+(Int.ofNat 1*G.ν.getD a 0+0)=_;simp
  ·exact aa (Nat.succ_add_eq_add_succ a i) (e (i+1) (Nat.succ_lt_succ hi))
theorem Dm.unbs:∀es:List Int,Dm es (uD .unb es.length):=by
 intro l0
 induction l0 with
 |nil=>
  exact Dm.nil
 |cons x es ih=>
  exact Dm.one trivial (ih)
theorem MY:∀n a,dL (kf a n)=n:=by
 intro l0
 induction l0 with
 |zero=>
  intro a;exact rfl
 |succ n ih=>
  intro a;exact congrArg Nat.succ (ih (a+1))
theorem F2.split_len {R:α->β->Prop} (h:F2 R a (c++d)):E2 λa1 a2=>A3 (a=a1++a2) (F2 R a1 c) (F2 R a2 d):=by
 induction c generalizing a with
 |nil=>exact⟨[],a,rfl,.nil,h⟩
 |cons y c ih=>
  cases h with
  |cons x h=>
   refine ak (ih h) λa1 a2 e7 h1 h2=>?_;exact aa e7 (⟨_::a1,a2,rfl,.cons x h1,h2⟩)
theorem yA (M:dh Z b μ) {n:Nat} (hn:2<=n/\n<=4):bj (B6 Z.g0 Z.x0 b n) [0,1,2,3]/\wH Z.g0 Z.x0 b n:=by
 have t:=OB Z.g0 Z.x0;rw[bp]at t;have t:=bO.mp t b M.mem;unfold B7 at t;rw[bp]at t;have t:=bO.mp t n (by
  have:n=2\/n=3\/n=4:=by lia
  rcases this with rfl |rfl |rfl<;>decide)
 exact eU t
theorem F3 (M:dh Z b μ) {n r:Nat} (hn:2<=n/\n<=4) (hr:r<=3):dy ⟨az,a9.body⟩ [.bytes (kf 28 n++b.vM0::(b.seg++kf (28+n) r)),.int (.ofNat n)] (List.replicate 6 .unset) (vS Z (xM++(b.d++rY n r))) (KC b n) (λ_=>false)=true:=by
 have t:=(yA M hn).1;rw[bp]at t;have t:=bO.mp t r (by
  have:r=0\/r=1\/r=2\/r=3:=by lia
  rcases this with rfl |rfl |rfl |rfl<;>decide)
 exact t
theorem F5 (M:dh Z b μ) (hn:2<=n/\n<=4) (hs:b.seg≠[]):dy ⟨az,a9.body⟩ [.bytes (kf 28 n++b.vM0::b.seg.dropLast),.int (.ofNat n)] (List.replicate 6 .unset) (vS Z (xM++(b.d++rY n 0))) (λ_ _=>false) (λ_=>true)=true:=by
 have t:=(yA M hn).2;unfold wH at t;cases hb:b.seg with
 |nil=>exact absurd hb hs
 |cons x l=>
  replace t:=(hb ..)▸t;exact t
end
end
section
section
variable{Z:Zt} {n:Nat} {b:cA} {μ:List Int} {st:St} {T:cW} {rg:Addr} {G:Gh}
theorem yc (e:iH v k d=true):d ()=true\/∃l,v=.bytes l/\k l=true:=by
 cases v<;>first |exact .inl e |exact .inr ⟨_,rfl,e⟩
theorem wu (e:jy v k d=true):d ()=true\/E2 λi c=>v=.seg i c/\k i c=true:=by
 cases v<;>first |exact .inl e |exact .inr ⟨_,_,rfl,e⟩
theorem A0 (h:F2 (λw (u:UInt8)=>bP w u.toNat) ws bs):F2 bP ws (bs.map UInt8.toNat):=by
 induction h with
 |nil=>exact .nil
 |cons x h ih=>exact .cons x ih
theorem sE {ts:Ts} (h:VR T rg G v w) (hv:v=.int c/\ts=[]\/v=.lin c ts):Df G.ν ts/\∃t,w=.int (c+ev G.ν ts) t:=by
 rcases hv with⟨rfl,rfl⟩ |rfl
 ·refine kX h.int_of λt ee0=>?_;subst ee0;exact⟨Df.nil _,t,by simp[ev]⟩
 ·induction h using VR.klin with
  |lin x t d e=>exact⟨d,t,by rw[e]⟩
theorem uU {a c:List Int} (h:a.length=k):(a++x::c).getD k 0=x:=by
 refine aa (iw ..) (aa (List.getElem?_append_right (Nat.le_of_eq h) ..) (aa h ?_));simp
theorem uT {a m c:List Int} (h:a.length=k) (hi:i<m.length):(a++(m++c)).getD (k+i) 0=m.getD i 0:=by
 rw[iw,List.getElem?_append_right (Nat.le.intro (congrFun (congrArg HAdd.hAdd h) i)),show k+i-a.length=i by exact Eq.symm (Nat.eq_sub_of_add_eq' (congrFun (congrArg HAdd.hAdd h) i)),List.getElem?_append_left hi,<-iw]
theorem rn (l:List Nat) (i:Nat) (h:i<l.length):(l.map λ(x:Nat)=>(x:Int)).getD i 0=((l.getD i 0:Nat):Int):=by
 refine aa (iw ..) (aa (iw ..) (aa (List.getElem?_map ..) ?_));refine aa (List.getElem?_eq_getElem h ..) ?_;rfl
noncomputable def gi (R:Int) (na nr:List Nat):List Int:=R::((na.map λ(x:Nat)=>(x:Int))++(nr.map λ(x:Nat)=>(x:Int)))
theorem Aj (h:iz l st k=true):k (.tup l) st=true:=(dK h).2
theorem ue (M:dh Z b μ) {R:Int} (hg:G.ν=Z.n0++(μ++gi R na nr)) (ha:F2 bP wa na) (hr:F2 bP wr nr) (hs:F2 (VR Z.T Z.rg G) segL us) 
  (hb:F2 (λw (u:UInt8)=>bP w u.toNat) (wa++.int (Z.n0.getD 6 0+8*R) tx::(us++wr)) bs.toList):VR Z.T Z.rg G (.bytes (kf 28 na.length++b.vM0::(segL++kf (28+na.length) nr.length))) (.bytes bs t):=by
 have ln:=M.len;have e27:G.ν.getD 27 0=R:=by
  refine aa hg (bI (List.append_assoc ..) ?_);exact uU ln
 have hg2:G.ν=(Z.n0++μ++[R])++((na.map λ(x:Nat)=>(x:Int))++(nr.map λ(x:Nat)=>(x:Int))):=by
  refine aa hg ?_;unfold gi;simp
 have l28:(Z.n0++μ++[R]).length=28:=by refine aa cX (aa ln ?_);rfl
 have lv:G.ν.length=28+na.length+nr.length:=by
  refine aa hg2 (aa cX (aa l28 (aa cX (aa (List.length_map ..) (aa (List.length_map ..) ?_)))));exact Eq.symm (Nat.add_assoc 28 na.length nr.length)
 have A:F2 (VR Z.T Z.rg G) (kf 28 na.length) wa:=yL rfl _ _ _ ha (λi hi=>by
  refine aa hg2 (aa (uT l28 (by refine aa (List.length_map ..) ?_;exact hi) ..) ?_);exact rn _ _ hi) (Nat.le.intro (id (Eq.symm lv)))
 have C:F2 (VR Z.T Z.rg G) (kf (28+na.length) nr.length) wr:=yL rfl _ _ _ hr (λi hi=>by
  have hg3:G.ν=(Z.n0++μ++[R]++(na.map λ(x:Nat)=>(x:Int)))++((nr.map λ(x:Nat)=>(x:Int))++[]):=by refine aa hg2 ?_;simp
  refine aa hg3 (aa (uT (by refine aa cX ?_;refine aa l28 ?_;rw[List.length_map]) (by refine aa (List.length_map ..) ?_;exact hi) ..) ?_);exact rn _ _ hi) (Nat.le_of_eq (id (Eq.symm lv)))
 have pr:(Z.n0++μ) <+:G.ν:=by refine aa hg (bI (List.append_assoc ..) ?_);exact List.prefix_append _ _
 have B:=by
  have h:=kg (T:=Z.T) (rg:=Z.rg) (f:=(b.fM0.1,b.fM0.2++[(27,.ofNat 8)])) (dN _) (((M.dfs.2.1).mono pr).app (.cons (show 27<G.ν.length by simp+arith [lv]) (.nil _))) tx;have e:val G.ν (b.fM0.1,b.fM0.2++[(27,.ofNat 8)])=Z.n0.getD 6 0+8*R:=by
   refine aa M.m0 ?_;show b.fM0.1+ev G.ν (b.fM0.2++[(27,.ofNat 8)])=b.fM0.1+ev (Z.n0++μ) b.fM0.2+8*R;refine aa (jg ..) (aa (cr pr M.dfs.2.1) ?_);show b.fM0.1+(ev (Z.n0++μ) b.fM0.2+(Int.ofNat 8*G.ν.getD 27 0+0))=_;refine aa e27 ?_;simp+arith
  rw[e]at h;exact h
 exact .bytes _ _ _ _ (SR.of_plain (A.app (.cons B (hs.app C)))) hb
theorem B5 (M:dh Z b μ) {R:Int} (h0:0<=R) (h7:R<=7) (na nr:List Nat):Dm (gi R na nr) (rY na.length nr.length):=by
 have h:=Dm.unbs ((na.map λ(x:Nat)=>(x:Int))++(nr.map λ(x:Nat)=>(x:Int)));rw[cX,List.length_map,List.length_map]at h;exact Dm.one ⟨h0,h7,by simp⟩ h
theorem Kz (y:iH a0 (λl=>dF a1 (TD l st k kE D) D) D=true):
  D ()=true\/E6 λl N x more c ts=>A7 (a0=.bytes l) (a1=.int (.ofNat N)\/a1=.lin (.ofNat N) []) (bF (l.take N)=false) (2<=N/\N<=4) (l.drop N=x::more) (x=.int c/\ts=[]\/x=.lin c ts) (LB (Q7 (.ofNat N) st k kE D more) D c ts=true):=by
 refine hG λCC hCC=>?_;rcases yc y with y |⟨l,rfl,y⟩
 ·refine hCC ?_;exact .inl y
 refine(cR y).elim (λy=>?_) λz=>aJ z λc ts hk y=>?_
 ·refine hCC ?_;exact .inl y
 cases ts with
 |cons=>refine hCC ?_;exact .inl y
 |nil=>
 cases c with
 |negSucc=>refine hCC ?_;exact .inl y
 |ofNat N=>
 refine bA y (λy _=>?_) λy q=>?_
 ·refine hCC ?_;exact .inl y
 rw[eR,Bool.or_eq_false_iff,fR,Bool.not_eq_false']at q;refine ee q.2 λq3 q2=>?_;refine(uK y).elim (λz=>kN z λ_ y=>?_) λz=>aJ z λx more hl y=>?_
 ·refine hCC ?_;exact .inl y
 rcases cR y with y |⟨c,ts,hx,y⟩
 ·refine hCC ?_;exact .inl y
 refine hCC ?_;refine .inr ⟨l,N,x,more,c,ts,rfl,hk.imp (·.1) id,by refine bI (oK ..) ?_;exact q.1,⟨aQ q2,aQ q3⟩,by refine bI (oN ..) ?_;exact hl,hx,y⟩
def Tm (rc:Int) (q':Ts) (N:Nat) (rest:List V) (cut:Bool) (st:St) (k:K) (kE:KE):Prop:=
 (cut/\rest=[]/\kE st)\/(cut=false/\bF rest=false/\rest.length<=3/\k (.tup [l1 10,mk rc q',l1 11,l1 12,l1 13,l1 14,.lin (cy (.ofNat N) bt) [(7,bt)]]) st)
theorem F6 (n17:n0.length=17) (p:n0 <+:ν) {st:St} {k:K} {kE:KE} {D:Th} {N:Nat} {more:List V} (DD:dn ν st) (dx:Df ν ts) (y:LB (Q7 (.ofNat N) st k kE D more) D c ts=true):
  D ()=true\/E4 λrc q' rest cut=>A6 (more=.seg 0 cut::rest) (Df ν q') (c+ev ν ts=n0.getD 6 0+8*(rc+ev ν q')) (0<=rc+ev ν q') (rc+ev ν q'<=7) (Tm rc q' N rest cut st k kE):=by
 refine hG λCC hCC=>?_;refine cJ (lO (.ofNat 8) ts [] [] _ dx (Df.nil _) (Df.nil _) y) λq' s' y dq ds sum=>?_;refine bA y (λy z1=>?_) λy _=>?_
 rotate_left
 ·refine hCC ?_;exact .inl y
 refine bA y (λy z2=>?_) λy _=>?_
 rotate_left
 ·refine hCC ?_;exact .inl y
 rw[nG z1]at sum;have z2:=(aB _ _).mp z2;rw[du]at z2;replace y:=(dv ..)▸y;have cd:=by
  exact(Eq.symm (Int.mul_fdiv_cancel_of_fmod_eq_zero z2):c=8*Int.fdiv c 8)
 have m0e:ev ν [(6,bt)]=n0.getD 6 0:=by
  have d:Df n0 [(6,bt)]:=.cons (by refine aa n17 ?_;show 6<17;simp) (.nil _);refine aa (cr p d) ?_;show 1*n0.getD 6 0+0=_;simp
 replace sum:=(m0e ..)▸sum;have sum:8*ev ν q'+n0.getD 6 0=8*0+0+ev ν ts:=sum;generalize Int.fdiv c (.ofNat 8)=rc at y cd;rcases uK y with⟨_,y⟩ |⟨yv,rest,rfl,y⟩
 ·refine hCC ?_;exact .inl y
 rcases pE DD.dom q' rc rc _ D dq y with y |⟨lo,hi,y,_,hb⟩
 ·refine hCC ?_;exact .inl y
 refine bA y (λy qb=>?_) λy _=>?_
 rotate_left
 ·refine hCC ?_;exact .inl y
 refine ee qb λqb2 qb1=>?_;refine kN (hb rc (eG _) (eG _)) λhb1 hb2=>?_;have qb1:=(aY _ _).mp qb1;have qb2:=(aY _ _).mp qb2;rcases wu y with y |⟨j,cut,rfl,y⟩
 ·refine hCC ?_;exact .inl y
 refine bA y (λy qj=>?_) λy _=>?_
 rotate_left
 ·refine hCC ?_;exact .inl y
 have qj:=gB qj;subst qj;rcases vh y with⟨rfl,y⟩ |⟨rfl,y⟩
 ·refine bA y (λy qr=>?_) λy _=>?_
  ·cases rest with
   |nil=>refine hCC ?_;exact .inr ⟨rc,q',[],true,rfl,dq,by lia,Int.le_trans qb1 hb1,Int.le_trans hb2 qb2,.inl ⟨rfl,rfl,y⟩⟩
   |cons=>exact ao qr
  ·refine hCC ?_;exact .inl y
 ·refine bA y (λy qr=>?_) λy _=>?_
  ·refine ee qr λq2 q1=>?_;rw[fR,Bool.not_eq_true']at q1;refine hCC ?_;exact .inr ⟨rc,q',rest,false,rfl,dq,by lia,Int.le_trans qb1 hb1,Int.le_trans hb2 qb2,.inr ⟨rfl,q1,by refine bI (bw ..) ?_;exact aQ q2,Aj y⟩⟩
  ·refine hCC ?_;exact .inl y
theorem Aa (hs:SR T rg G l wl) (h1:bF (l.take N)=false) (hl:l.drop N=x::.seg 0 cut::rest) (xs:dJ x=false):
  E4 λwa wx us wr=>A7 (wl=wa++wx::(us++wr)) (wa.length=N) (VR T rg G x wx) (qI T G.ν 0 cut) (F2 bP us (nQ (T.seg 0) cut)) (SR T rg G rest wr) True:=by
 have le:l=l.take N++x::.seg 0 cut::rest:=by refine bI hl ?_;rw[List.take_append_drop]
 have lN:(l.take N).length=N:=by
  have:=congrArg List.length hl;rw[List.length_drop,List.length_cons]at this;refine aa List.length_take ?_;lia
 rw[le]at hs;refine ak hs.app_of λwa w1 ee1 ha h=>?_;refine aa ee1 ?_;obtain⟨wx,w2,rfl,hx,h⟩:=h.cons_of xs;have la:wa.length=N:=by refine bI ((ha.plain h1).length ..) ?_;rw[lN]
 induction h using SR.kseg with
 |seg us ws q hu r=>exact⟨wa,wx,us,ws,rfl,la,hx,q,hu,r,trivial⟩
theorem F4 {X:Fx} {st st2:St} {k:K} {v:V} {w:Value} {N:Nat} {rc:Int} (M:dh Z b μ) (I:ap Z X sl G vs st m s tr) (J:ap Z (eE X (bv X tr s.heap) .nil G.H) [] G2 [] st2 m s' tr2) (f3:tr3.map (·.1)=tr.map (·.1)) (I3:ap Z X sl G vs st m s' tr3)
  (pz:(Z.n0++(μ++gi (rc+ev G.ν q') na nr)) <+:G2.ν) (hv:VR Z.T Z.rg G2 v w) (hk:KC b N v st2=true) (dq:Df G.ν q') (y:k (.tup [l1 10,mk rc q',l1 11,l1 12,l1 13,l1 14,.lin (cy (.ofNat N) bt) [(7,bt)]]) st=true):bf Z X sl G vs m k w s':=by
 have p:=by rw[<-List.append_assoc]at pz;exact(List.prefix_append _ _).trans pz
 refine ak ((dP J.num hv hk).tup_of) λws7 a7 e44 hs e7=>?_;refine aa e44 ?_;refine iP (wC I J f3 e7) λg7 o7 l7=>?_;refine ak ((mn.nil I3).addH g7 o7 l7) λGa ta A1 La H7=>?_;have pf:Z.n0 <+:Ga.ν:=aa A1.nu (I.xok.v);have l17:∀{j:Nat},j<17->j<Z.n0.length:=λh=>aa M.n17 (h);refine⟨Ga,.tup [l1 10,mk rc q',l1 11,l1 12,l1 13,l1 14,.lin (cy (.ofNat N) bt) [(7,bt)]],st,A1.le,.tup _ _ a7 ?_ H7,y,ta,A1.inv⟩;clear e7 H7 g7 o7 hv hk y I3;obtain⟨u0,ws,rfl,k0,hs⟩:=hs.cons_of rfl;obtain⟨u1,ws,rfl,k1,hs⟩:=hs.cons_of rfl;obtain⟨u2,ws,rfl,k2,hs⟩:=hs.cons_of (jd _);obtain⟨u3,ws,rfl,k3,hs⟩:=hs.cons_of (jd _);obtain⟨u4,ws,rfl,k4,hs⟩:=hs.cons_of (jd _);obtain⟨u5,ws,rfl,k5,hs⟩:=hs.cons_of rfl;obtain⟨u6,ws,rfl,k6,hs⟩:=hs.cons_of rfl
 induction hs using SR.knil
 refine .cons _ _ _ _ ?_ (.cons _ _ _ _ ?_ (.cons _ _ _ _ ?_ (.cons _ _ _ _ ?_ (.cons _ _ _ _ ?_ (.cons _ _ _ _ ?_ (.cons _ _ _ _ ?_ .nil))))))
 ·obtain⟨r0,rfl⟩:=k0.int_of;refine aa (show(Int.ofNat b.md)=((b.md))from rfl ..) (bI M.md ?_);exact ff pf (l17 (by simp)) _
 ·have d28:Df (Z.n0++(μ++gi (rc+ev G.ν q') na nr)) [(27,.ofNat 1)]:=.cons (by
   refine bI (List.append_assoc ..) (aa cX (aa M.len ?_));unfold gi;simp) (.nil _)
  obtain⟨r1,rfl⟩:=gS (f:=(.ofNat 0,[(27,.ofNat 1)])) k1 pz d28;have vR:val (Z.n0++(μ++gi (rc+ev G.ν q') na nr)) (.ofNat 0,[(27,.ofNat 1)])=val G.ν (rc,q'):=by
   show Int.ofNat 0+(Int.ofNat 1*(Z.n0++(μ++gi (rc+ev G.ν q') na nr)).getD 27 0+0)=rc+ev G.ν q';refine bI (List.append_assoc ..) (aa (show gi (rc+ev G.ν q') na nr=(rc+ev G.ν q')::_ from rfl ..) (aa (uU M.len) ?_));simp
  refine aa vR ?_;exact kg (f:=(rc,q')) (by refine aa A1.nu ?_;exact dN _) dq r1
 ·obtain⟨r2,rfl⟩:=gS k2 p M.dfs.2.2.1;exact bI M.rm (ff pf (l17 (by simp)) _)
 ·obtain⟨r3,rfl⟩:=gS k3 p M.dfs.2.2.2;exact bI M.sb (ff pf (l17 (by simp)) _)
 ·obtain⟨r4,rfl⟩:=gS k4 p M.dfs.1;exact bI M.di (ff pf (l17 (by simp)) _)
 ·obtain⟨r5,rfl⟩:=k5.int_of;refine aa (show(Int.ofNat b.wi)=((b.wi))from rfl ..) (bI M.wi ?_);exact ff pf (l17 (by simp)) _
 ·obtain⟨r6,rfl⟩:=k6.int_of;have d:Df Z.n0 [(7,bt)]:=.cons (l17 (by simp)) (.nil _);refine .lin _ _ _ _ (d.mono pf) ?_;refine aa (cr pf d) ?_;show cy (.ofNat N) bt+(bt*Z.n0.getD 7 0+0)=_;refine aa M.ln (aa (bw ..) ?_);show(N:Int)+1+(1*(b.seg.length)+0)=((N+1+b.seg.length));simp
theorem Uy {as:List V} (h:as.length=2):E2 λa0 a1=>as=[a0,a1]:=by
 have:=hJ .unset as;rw[h]at this;exact⟨_,_,this⟩
theorem Kp (hc:HW Z.g0) (M:dh Z b μ) (h:gV Z n ⟨⟨az,a9.body⟩,2,8,[]⟩ 643):gV Z n ⟨a9,2,8,[]⟩ 643:=λna hp sc sl X F G vs st m s k kE as ws I ha hw y=>by
 refine hG λCC hCC=>?_;have n2:na=2:=Nat.le_antisymm (aQ (ay hp).1) (Nat.sub_eq_zero_iff_le.mp (Nat.le_zero.mp (aQ (ay hp).2)));subst n2;have h1:=h 2 hp;have dflt:=h1 sc sl X F G vs st m s k kE as ws I ha hw;refine GN (Uy (ha.length.trans hw)) λa0 a1 ee2=>?_;subst ee2;rcases Kz (D:=λ_=>dy ⟨az,a9.body⟩ [a0,a1] (lS ⟨⟨az,a9.body⟩,2,8,[]⟩ 2) st k kE) y with y |⟨l,N,x,more,c,ts,rfl,hk,q1,qN,hl,hx,y⟩
 ·refine hCC ?_;exact dflt y
 refine I.k λtr I=>?_;obtain⟨w0,wsr,rfl,v0,ha⟩:=ha.cons_of;obtain⟨w1,wsr,rfl,v1,ha⟩:=ha.cons_of;have:=ha.nil_of;subst this;have xs:dJ x=false:=by rcases hx with⟨rfl,_⟩ |rfl<;>rfl
 refine CV (by
  induction v0 using VR.kbytes with
  |bytes ws b t h e=>exact⟨ws,b,t,rfl,h,e⟩:E3 λwl bs t0=>A3 (w0=.bytes bs t0) (SR Z.T Z.rg G l wl) (F2 (λw (u:UInt8)=>bP w u.toNat) wl bs.toList)) λwl bs t0 ee3 hsr hbs=>?_;subst ee3
 refine kX (by
  rcases hk with rfl |rfl
  ·exact v1.int_of
  ·induction v1 using VR.klin with
   |lin x t _ e=>exact⟨t,by rw[<-e];simp[ev]⟩:∃t1,w1=.int (.ofNat N) t1) λt1 ee4=>?_;subst ee4
 have dx:Df G.ν ts:=by
  rcases hx with⟨_,rfl⟩ |rfl
  ·exact Df.nil _
  ·refine ak ((show SR Z.T Z.rg G (l.take N++.lin c ts::more) wl by rw[<-hl,List.take_append_drop];exact hsr).app_of) λwa w1 _ _ h=>?_;refine fp (h.cons_of rfl) λwx _ _ hx _=>?_;exact(sE hx (.inr rfl)).1
 rcases F6 M.n17 I.xok.v I.num dx y with y |⟨rc,q',rest,cut,rfl,dq,vx,R0,R7,y2⟩
 ·refine hCC ?_;exact dflt y
 clear dflt y;refine mA (Aa hsr q1 hl xs) λwa wx us wr ee5 la hvx sn hus hs3 _=>?_;subst ee5;refine kN (sE hvx hx) λ_ zz6=>?_;obtain⟨tx,rfl⟩:=zz6;rw[vx]at hbs;refine ak ((A0 hbs).app_of) λna n3 en hna hn3=>?_;refine fp hn3.cons_of λnx n4 ee7 hnx hn4=>?_;subst ee7;refine ak hn4.app_of λnus nr ee8 hnus hnr=>?_;subst ee8;have lna:na.length=N:=by rw[<-hna.length,la]
 have pr:∀nr,(Z.n0++μ) <+:(G.alone (Z.n0++(μ++gi (rc+ev G.ν q') na nr))).ν:=λnr=>by
  rw[<-List.append_assoc];exact List.prefix_append _ _
 rcases y2 with⟨rfl,rfl,y3⟩ |⟨rfl,qr,lr,y3⟩
 ·have:=(show F2 (VR Z.T Z.rg G) [] wr from hs3.plain rfl).nil_of;subst this;have bne:b.seg≠[]:=λz=>by
   have:=M.sge.length;rw[z]at this;exact sn.2.2 rfl (List.length_eq_zero_iff.mp this.symm)
  have J:=I.room (ν:=Z.n0++(μ++gi (rc+ev G.ν q') na [])) hc (M.room (B5 M R0 R7 na [])) (List.prefix_append _ _) (B:=X.xb) (H:=X.h0) (.inr ⟨rfl,rfl⟩);have g0:=ue (G:=G.alone (Z.n0++(μ++gi (rc+ev G.ν q') na []))) M (nr:=[]) (t:=t0) rfl hna .nil (tX (pr []) M.sge.dropLast hus) hbs;rw[lna,show(b.seg.dropLast++kf (28+N) ([]:List Nat).length)=b.seg.dropLast from List.append_nil _]at g0;have run:=F5 (Z:=Z) M qN bne;rw[show rY N 0=rY na.length ([]:List Nat).length by rw[lna];rfl]at run;refine hCC ?_;refine codeAny_mono (A:=X.A) (h1 sc [] (eE X X.xb .nil X.h0) (F.tryO _ _ _) (G.alone (Z.n0++(μ++gi (rc+ev G.ν q') na []))) [] _ m s _ _ _ [.bytes bs t0,.int (.ofNat N) t1] ⟨tr,J⟩ (.cons g0 (.cons (.int _ _) .nil)) hw run) λr s' h=>?_;cases r with
  |error e=>
   refine kN h λzz9 ns=>?_;refine kN zz9 λfl _=>?_;exact⟨⟨fl,G.ν,st,dN _,I.num,y3⟩,ns⟩
  |ok fl=>
   cases fl with
   |ret w=>refine bX h λ_ _ _ _ _ z _=>?_;exact ao z
   |_=>exact h.elim
 ·have lr:nr.length<=3:=by rw[<-hnr.length,<-(hs3.plain qr).length];exact lr
  have g0:=ue (G:=G.alone (Z.n0++(μ++gi (rc+ev G.ν q') na nr))) M (nr:=nr) (t:=t0) rfl hna hnr (tX (pr nr) M.sge hus) hbs;rw[lna]at g0;have run:=F3 (Z:=Z) M (r:=nr.length) qN lr;rw[show rY N nr.length=rY na.length nr.length by rw[lna]]at run;refine hCC ?_;refine m8 (ν:=Z.n0++(μ++gi (rc+ev G.ν q') na nr)) F I hc (M.room (B5 M R0 R7 na nr)) (List.prefix_append _ _) h1 (.cons g0 (.cons (.int _ t1) .nil)) hw run λw s' zz=>?_;refine uN zz λG2 v st2 tr2 tr3 L hv hk J f3 I3=>?_;exact F4 M I J f3 I3 L.ν hv hk dq y3
end
end
section
structure lK where
 bl:Int
 bh:Int
 spl:Int
 sph:Int
 sh:Int
 md:Nat
 w0:Int
 w1:Int
 w2:Int
 w3:Int
 u:Int
noncomputable def an (N:Int):lK:=⟨N%8,N / 8%2,N / 8 / 2%8,N / 8 / 2 / 8%2,N / 8 / 2 / 8 / 2%4,(N / 8 / 2 / 8 / 2 / 4%3).toNat,N / 8 / 2 / 8 / 2 / 4 / 3%256,N / 8 / 2 / 8 / 2 / 4 / 3 / 256%256,N / 8 / 2 / 8 / 2 / 4 / 3 / 256 / 256%256,N / 8 / 2 / 8 / 2 / 4 / 3 / 256 / 256 / 256%256,N / 8 / 2 / 8 / 2 / 4 / 3 / 256 / 256 / 256 / 256⟩
structure mM (D:lK):Prop where
 bl:0<=D.bl/\D.bl<=7
 bh:0<=D.bh/\D.bh<=1
 spl:0<=D.spl/\D.spl<=7
 sph:0<=D.sph/\D.sph<=1
 sh:0<=D.sh/\D.sh<=3
 md:D.md=0\/D.md=1\/D.md=2
 w0:0<=D.w0/\D.w0<=255
 w1:0<=D.w1/\D.w1<=255
 w2:0<=D.w2/\D.w2<=255
 w3:0<=D.w3/\D.w3<=255
theorem gq {a m z:Int} (h:a / m=z):a=a%m+m*z:=bI h ((Int.emod_add_mul_ediv a m).symm)
theorem xn (x:Int) (k:Nat):0<=x%((k+1:Nat):Int)/\x%((k+1:Nat):Int)<=k:=⟨Int.emod_nonneg _ (Int.ofNat_ne_zero.mpr (Nat.succ_ne_zero k)),Int.le_of_lt_add_one (Int.emod_lt_of_pos x (Int.natCast_pos.mpr (Nat.succ_pos k)))⟩
theorem SX (bl bh spl sph sh md w0 w1 w2 w3 u:Int):bl+8*(bh+2*(spl+8*(sph+2*(sh+4*(md+3*(w0+256*(w1+256*(w2+256*(w3+256*u)))))))))=1024*md+(bl+8*bh+16*spl+128*sph+256*sh+3072*w0+786432*w1+201326592*w2+51539607552*w3+13194139533312*u):=by simp+arith
theorem UE (h:0<=x/\x<=2):((x.toNat:Nat):Int)=x/\(x.toNat=0\/x.toNat=1\/x.toNat=2):=by lia
theorem DZ (N:Int):mM (an N)/\N=1024*(an N).md+((an N).bl+8*(an N).bh+16*(an N).spl+128*(an N).sph+256*(an N).sh+3072*(an N).w0+786432*(an N).w1+201326592*(an N).w2+51539607552*(an N).w3+13194139533312*(an N).u):=by
 refine kN (UE (xn (N / 8 / 2 / 8 / 2 / 4) 2)) λhm h3=>?_;refine⟨⟨xn _ 7,xn _ 1,xn _ 7,xn _ 1,xn _ 3,h3,xn _ 255,xn _ 255,xn _ 255,xn _ 255⟩,?_⟩;refine Eq.trans (gq (gq (gq (gq (gq (gq (gq (gq (gq (gq rfl)))))))))) ((SX _ _ _ _ _ _ _ _ _ _ _).trans ?_);refine aa hm ?_;rfl
noncomputable def lK.k (D:lK):Nat:=if D.sph=1 then 3 else if D.spl=4 then(if D.bl=4 then 1 else 0)else 2
noncomputable def lK.nb (D:lK):Bool:=decide (D.md=0/\D.bl=5)
noncomputable def lK.neg (D:lK):Bool:=decide ((D.md=1/\128<=D.w0)\/(D.md=2/\128<=D.w3))
def lK.box (D:lK):cA:=⟨D.md,D.k,(if D.k=1 then false else D.nb),D.neg,if D.k<2 then 0 else D.sh.toNat⟩
noncomputable def lK.mu (D:lK):List Int:=[D.bl,D.bh,D.spl,D.sph,D.sh,D.w0,D.w1,D.w2,D.w3,D.u]
noncomputable def Ux (a b:cA):Bool:=Nat.beq a.md b.md&&Nat.beq a.k b.k&&(a.nb==b.nb)&&(a.neg==b.neg)&&Nat.beq a.sk b.sk
theorem MN (h:Ux a b):a=b:=by
 refine bB h λh5 h=>?_;obtain⟨a1,a2,a3,a4,a5⟩:=a;simp_all
def MJ (b:cA):Bool:=(b.nb&&(!(Nat.beq b.md 0)||Nat.beq b.k 1))||(b.neg&&Nat.beq b.md 0)||(Nat.ble b.k 1&& !(Nat.beq b.sk 0))||boxes.any (Ux b)
def Ep:Bool:=(List.range 3).all λmd=>(List.range 4).all λk=>[true,false].all λnb=>[true,false].all λneg=>(List.range 4).all λsk=>MJ ⟨md,k,nb,neg,sk⟩
theorem GL:Ep:=by kernel_rfl
theorem lK.k_lt (D:lK):D.k<4:=by unfold lK.k;split<;>(try split)<;>(try split)<;>simp
set_option tactic.hygienic true in
theorem lK.boxes {D:lK} (O:mM D):D.box∈AX.boxes:=by
 have h:=GL;unfold Ep at h;have h:=bO.mp h D.box.md (List.mem_range.mpr (by have:=O.md;show D.md<3;lia));have h:=bO.mp h D.box.k (List.mem_range.mpr D.k_lt);have h:=bO.mp h D.box.nb (by cases D.box.nb<;>simp);have h:=bO.mp h D.box.neg (by cases D.box.neg<;>simp);have h:=bO.mp h D.box.sk (List.mem_range.mpr (by
  have:=O.sh;show(if D.k<2 then 0 else D.sh.toNat)<4
  split<;>lia))
 have h:MJ D.box:=h;unfold MJ at h;rw[Bool.or_eq_true,Bool.or_eq_true,Bool.or_eq_true]at h;rcases h with((h |h) |h) |h
 ·refine kN (ay h) λh1 h2=>?_;have h1:(if D.k=1 then false else D.nb)=true:=h1;have h2:(!(Nat.beq D.md 0)||Nat.beq D.k 1):=h2
  split at h1
  ·exact ao h1
  ·rename_i hk
   have:=cg h1;rw[this.1]at h2;have h2:Nat.beq D.k 1:=h2;exact absurd (gB h2) hk
 ·refine kN (ay h) λh1 h2=>?_;have h1:=cg (show decide _ from h1);have h2:=gB (show Nat.beq D.md 0 from h2);simp_all
 ·refine kN (ay h) λh1 h2=>?_;have h1:D.k<=1:=aQ h1;have h2:(!(Nat.beq (if D.k<2 then 0 else D.sh.toNat) 0)):=h2;rw[if_pos (by exact Nat.lt_succ_of_le h1)]at h2;exact ao h2
 ·refine aA (List.any_eq_true.mp h) λc hc e=>?_;rw[MN e];exact hc
theorem lK.box_k (D:lK) (O:mM D):(D.box.k=0/\D.sph=0/\D.spl=4/\D.bl≠4/\D.box.sk=0)\/(D.box.k=1/\D.sph=0/\D.spl=4/\D.bl=4/\D.box.sk=0)\/(D.box.k=2/\D.sph=0/\D.spl≠4/\D.box.sk=D.sh.toNat)\/(D.box.k=3/\D.sph=1/\D.box.sk=D.sh.toNat):=by
 have:=O.sph;show(D.k=0/\_/\_/\_/\(if D.k<2 then 0 else D.sh.toNat)=0)\/(D.k=1/\_/\_/\_/\(if D.k<2 then 0 else D.sh.toNat)=0)\/(D.k=2/\_/\_/\(if D.k<2 then 0 else D.sh.toNat)=D.sh.toNat)\/(D.k=3/\_/\(if D.k<2 then 0 else D.sh.toNat)=D.sh.toNat);unfold lK.k
 split
 ·exact .inr (.inr (.inr ⟨rfl,by assumption,if_neg (Nat.not_succ_lt_self)⟩))
 ·split
  ·split
   ·exact .inr (.inl ⟨rfl,by lia,by assumption,by assumption,if_pos (Nat.one_lt_two)⟩)
   ·exact .inl ⟨rfl,by lia,by assumption,by assumption,if_pos (Nat.zero_lt_two)⟩
  ·exact .inr (.inr (.inl ⟨rfl,by lia,by assumption,if_neg (fg 2)⟩))
theorem lK.box_nb (D:lK):(D.box.nb/\D.md=0/\D.bl=5)\/(D.box.nb=false/\(D.k=1\/¬(D.md=0/\D.bl=5))):=by
 show((if D.k=1 then false else D.nb)/\_)\/((if D.k=1 then false else D.nb)=false/\_)
 split
 ·exact .inr ⟨rfl,.inl (by assumption)⟩
 ·by_cases h:D.md=0/\D.bl=5
  ·exact .inl ⟨dX h,h⟩
  ·exact .inr ⟨fz h,.inr h⟩
theorem lK.box_neg (D:lK):(D.box.neg/\((D.md=1/\128<=D.w0)\/(D.md=2/\128<=D.w3)))\/(D.box.neg=false/\¬((D.md=1/\128<=D.w0)\/(D.md=2/\128<=D.w3))):=by
 by_cases h:(D.md=1/\128<=D.w0)\/(D.md=2/\128<=D.w3)
 ·exact .inl ⟨dX h,h⟩
 ·exact .inr ⟨fz h,h⟩
theorem yX {a b:Nat} (h:(a:Int)<=x/\x<=(b:Int)) (he:x∉ex):jq x (oS a b ex):=⟨h.1,h.2,he⟩
theorem cS {a b:Nat} (h:(a:Int)<=x/\x<=(b:Int)):jq x (oS a b []):=⟨h.1,h.2,by simp⟩
theorem lK.fit (O:mM D):Dm D.mu D.box.d:=by
 have h1:=O.bl;have h3:=O.spl;have h5:=O.sh;have h6:=O.md;have h7:=O.w0;have h10:=O.w3;have hmd:D.box.md=D.md:=rfl;refine Dm.one ?_ (Dm.one (cS O.bh) (Dm.one ?_ (Dm.one ?_ (Dm.one ?_ (Dm.one ?_ (Dm.one (cS O.w1) (Dm.one (cS O.w2) (Dm.one ?_ (Dm.one trivial Dm.nil)))))))))
 ·unfold cA.dbl;refine D.box_nb.elim (λz=>iP z λe n1 n2=>?_) λz=>kN z λe n=>?_
  ·exact aa e (cS (by simp_all))
  ·refine aa e ?_;rcases D.box_k O with⟨k,a,b,c,d⟩ |⟨k,a,b,c,d⟩ |⟨k,a,b,c⟩ |⟨k,a,b⟩
   ·refine aa k (aa hmd ?_);rcases h6 with z |z |z<;>refine aa z ?_<;>refine yX (by omega) ?_<;>simp only[or_false]<;>have hk:D.k=0:=k<;>(try show¬(D.bl=5\/D.bl=4))<;>(try show¬(D.bl=4))<;>(first |simpa[c,z,hk]using n |rfl)
   ·exact aa k (cS (by simp[c]))
   ·refine aa k (aa hmd ?_);rcases h6 with z |z |z<;>refine aa z ?_<;>refine yX (by omega) ?_<;>simp only[or_false]<;>have hk:D.k=2:=k<;>(try show¬(D.bl=5))<;>simpa[z,hk]using n
   ·refine aa k (aa hmd ?_);rcases h6 with z |z |z<;>refine aa z ?_<;>refine yX (by omega) ?_<;>simp only[or_false]<;>have hk:D.k=3:=k<;>(try show¬(D.bl=5))<;>simpa[z,hk]using n
 ·rcases D.box_k O with⟨k,a,b,c,d⟩ |⟨k,a,b,c,d⟩ |⟨k,a,b,c⟩ |⟨k,a,b⟩
  ·exact aa k (cS (by simp[b]))
  ·exact aa k (cS (by simp[b]))
  ·refine aa k ?_;exact yX (by omega) (by simp only[bk,List.not_mem_nil,or_false];exact b)
  ·exact aa k (cS (by omega))
 ·rcases D.box_k O with⟨k,a,b,c,d⟩ |⟨k,a,b,c,d⟩ |⟨k,a,b,c⟩ |⟨k,a,b⟩<;>refine aa k ?_<;>exact cS (by simp[a])
 ·rcases D.box_k O with⟨k,a,b,c,d⟩ |⟨k,a,b,c,d⟩ |⟨k,a,b,c⟩ |⟨k,a,b⟩<;>refine aa k ?_
  ·exact cS (by omega)
  ·exact cS (by omega)
  ·exact aa c (cS (by lia))
  ·exact aa b (cS (by lia))
 ·rcases h6 with z |z |z<;>refine aa hmd (aa z ?_)
  ·exact cS h7
  ·show jq _ (yt _);rcases D.box_neg with⟨e,n⟩ |⟨e,n⟩<;>refine aa e ?_<;>exact cS (by lia)
  ·exact cS h7
 ·rcases h6 with z |z |z<;>refine aa hmd (aa z ?_)
  ·exact cS h10
  ·exact cS h10
  ·show jq _ (yt _);rcases D.box_neg with⟨e,n⟩ |⟨e,n⟩<;>refine aa e ?_<;>exact cS (by lia)
end
section
noncomputable def Fo:List Int:=List.replicate 17 0
noncomputable def uV (ts:Ts):Bool:=ts.all λp=>Nat.ble 17 p.1
theorem nh {n0 μ:List Int} (h:n0.length=17) (i:Nat):(n0++μ).getD (17+i) 0=μ.getD i 0:=by
 rw[iw,List.getElem?_append_right (Nat.le.intro (congrFun (congrArg HAdd.hAdd h) i)),h,show 17+i-17=i by exact Nat.add_sub_self_left 17 i,<-iw]
theorem DK (h:n0.length=17):∀{ts:Ts},uV ts->ev (n0++μ) ts=ev (Fo++μ) ts:=by
 intro l0
 induction l0 with
 |nil=>
  intro q;exact rfl
 |cons p ts ih=>
  intro q;refine bB q λq2 q1=>?_;refine kX (⟨p.1-17,Eq.symm (Nat.add_sub_of_le (aQ q1))⟩:∃i,p.1=17+i) λi hi=>?_;rw[aU,aU,hi,nh h,nh (by rfl),ih q2]
def Vk (b:cA):Bool:=uV b.fW.2&&uV b.fM0.2&&uV b.fRM.2&&uV b.fSB.2
theorem Ss:boxes.all Vk:=by kernel_rfl
theorem zO (h:n0.length=17) (q:uV f.2):val (n0++μ) f=val (Fo++μ) f:=by
 unfold val;rw[DK h q]
def FC (ν:List Int):V->Int
 |.int c=>c
 |.lin c ts=>c+ev ν ts
 |_=>0
def KM (ν:List Int):V->Prop
 |.int c=>0<=c/\c<=255
 |.lin c ts=>Df ν ts/\0<=c+ev ν ts/\c+ev ν ts<=255
 |_=>False
theorem BW {T:cW}:∀{l:List V},(∀x∈l,KM ν x)->F2 (λv (c:Nat)=>∀G w,ν <+:Gh.ν G->(VR T rg G v w↔bP w c)) l (l.map λx=>(FC ν x).toNat):=by
 intro l0
 induction l0 with
 |nil=>
  intro h;exact .nil
 |cons v l ih=>
  intro h;refine .cons (λG w p=>?_) (ih λx hx=>h x (bc _ hx));have hv:=h v (aL ..);cases v with
  |int c=>
   refine kN hv λh0 h1=>?_;have e:=Int.toNat_of_nonneg h0;constructor
   ·intro h;refine kX h.int_of λt ee0=>?_;refine aa ee0 ?_;exact⟨t,by show _=Value.int ((c.toNat)) t;rw[e]⟩
   ·rintro⟨t,rfl⟩;exact aa e (.int _ _)
  |lin c ts=>
   refine iP hv λd h0 h1=>?_;have e:(((c+ev ν ts).toNat))=c+ev ν ts:=by lia
   constructor
   ·intro h
    induction h using VR.klin with
    |lin x t d' q=>exact⟨t,by refine bI q (aa (cr p d) ?_);show _=Value.int (((c+ev ν ts).toNat)) t;rw[e]⟩
   ·rintro⟨t,rfl⟩;exact .lin _ _ _ _ (d.mono p) (by refine aa e ?_;rw[cr p d])
  |_=>exact hv.elim
theorem Cg (h:KM ν v):(FC ν v).toNat<256:=by
 cases v with
 |int c=>refine kN h λa b=>?_;show c.toNat<256;lia
 |lin c ts=>refine iP h λ_ a b=>?_;show(c+ev ν ts).toNat<256;lia
 |_=>exact h.elim
structure nA where
 ro:Int
 r:Int
 oo:Int
 ob:Int
 p:Int
 N:Int
def nA.vl (t:nA) (f:Int×Ts):Int:=val (Fo++(an t.N).mu) f
def nA.box (t:nA):cA:=(an t.N).box
def nA.n0 (t:nA):List Int:=[t.ro,t.r,t.oo,t.ob,t.p,t.N,t.vl t.box.fM0,t.box.seg.length,t.vl (.ofNat 0,[(20,.ofNat 1)]),t.vl (.ofNat 0,[(18,.ofNat 1)]),t.box.md,t.vl t.box.fRM,t.vl t.box.fSB,t.vl t.box.fW,t.box.wi,t.box.sc,t.vl t.box.fW]
def nA.tb (t:nA):List Nat:=em.getD (t.vl t.box.fBase).toNat []
def nA.ti (t:nA):List Nat:=if t.box.k<2 then[]else em.getD (t.vl (.ofNat 0,[(19,.ofNat 1),(20,.ofNat 8)])).toNat []
def nA.T (t:nA):cW:=⟨λi=>if i=0 then t.box.seg.map (λx=>(FC (t.n0++(an t.N).mu) x).toNat)else[],λi=>if i=0 then t.tb else t.ti⟩
theorem GI:em.all (λs=>s.all (λc=>Nat.blt c 128)&& !s.isEmpty):=by kernel_rfl
theorem ur (h:s∈em):Tx s/\s≠[]:=by
 have:=bO.mp GI s h;refine bB this λh2 h1=>?_;refine⟨λc hc=>?_,λz=>by rw[z]at h2;exact ao h2⟩;exact aQ (bO.mp h1 c hc)
theorem qW (h:i<16):em[i]?=some (em.getD i [])/\em.getD i []∈em:=by
 have l:=h;refine aa (iw ..) (aa (List.getElem?_eq_getElem l ..) ?_);exact⟨rfl,List.getElem_mem l⟩
theorem yp {T:cW} (p:ν <+:G.ν) (d:Df ν ts) {w:Value} (h:VR T rg G (.stab B c ts) w):∃t,w=.str (aj (B.getD (c+ev ν ts).toNat [])) t:=by
 induction h using VR.kstab with
 |stab n s t d' e h x=>
  rw[cr p d]at e;have:(c+ev ν ts).toNat=n:=by simp[e]
  refine aa this (aa (iw ..) (aa h ?_));exact⟨t,rfl⟩
section
variable(t:nA)
theorem nA.g (i:Nat):(t.n0++(an t.N).mu).getD (17+i) 0=(an t.N).mu.getD i 0:=nh rfl i
theorem nA.base_eq (O:mM (an t.N)):0<=t.vl t.box.fBase/\t.vl t.box.fBase<=15:=by
 have h1:=O.bl;have h2:=O.bh;show 0<=val (Fo++(an t.N).mu) (.ofNat 0,t.box.lo++[(18,.ofNat 8)])/\val (Fo++(an t.N).mu) (.ofNat 0,t.box.lo++[(18,.ofNat 8)])<=15;unfold cA.lo;cases t.box.nb with
 |true=>
  show 0<=0+(8*(an t.N).bh+0)/\0+(8*(an t.N).bh+0)<=15;lia
 |false=>
  show 0<=0+(1*(an t.N).bl+(8*(an t.N).bh+0))/\0+(1*(an t.N).bl+(8*(an t.N).bh+0))<=15;lia
theorem nA.idx_eq (O:mM (an t.N)):0<=t.vl (.ofNat 0,[(19,.ofNat 1),(20,.ofNat 8)])/\t.vl (.ofNat 0,[(19,.ofNat 1),(20,.ofNat 8)])<=15:=by
 have h1:=O.spl;have h2:=O.sph;show 0<=0+(1*(an t.N).spl+(8*(an t.N).sph+0))/\0+(1*(an t.N).spl+(8*(an t.N).sph+0))<=15;lia
theorem nA.lo_eq (O:mM (an t.N)) {n0:List Int} (h:n0.length=17):Df (n0++(an t.N).mu) t.box.lo/\0<=ev (n0++(an t.N).mu) t.box.lo/\ev (n0++(an t.N).mu) t.box.lo<=7:=by
 have l:(n0++(an t.N).mu).length=27:=by refine aa cX (aa h ?_);rfl
 unfold cA.lo;cases t.box.nb with
 |true=>exact⟨Df.nil _,eG _,show 0<=7 by simp⟩
 |false=>
  refine⟨.cons (by refine aa l ?_;show 17<27;simp) (.nil _),?_⟩;have e:ev (n0++(an t.N).mu) [(17,1)]=(an t.N).bl:=by
   show 1*(n0++(an t.N).mu).getD (17+0) 0+0=_;refine aa (nh h 0) ?_;show 1*(an t.N).bl+0=_;simp
  exact aa e (O.bl)
theorem nA.segs (O:mM (an t.N)):∀x∈t.box.seg,KM (t.n0++(an t.N).mu) x:=by
 have h3:=O.spl;have h5:=O.sh;have h7:=O.w0;have h8:=O.w1;have h9:=O.w2;have h10:=O.w3;have hl:t.n0.length=17:=rfl;have l:(t.n0++(an t.N).mu).length=27:=rfl;refine iP (t.lo_eq O hl) λd0 lo0 lo7=>?_;have one:∀j:Nat,j<10->0<=(an t.N).mu.getD j 0->(an t.N).mu.getD j 0<=255->KM (t.n0++(an t.N).mu) (.lin (.ofNat 0) [(17+j,.ofNat 1)]):=λj hj a b=>by
  have e:Int.ofNat 0+ev (t.n0++(an t.N).mu) [(17+j,.ofNat 1)]=(an t.N).mu.getD j 0:=by
   show(0:Int)+(1*(t.n0++(an t.N).mu).getD (17+j) 0+0)=_;refine aa (t.g j) ?_;simp
  refine⟨.cons (by refine aa l ?_;show 17+j<27;exact Nat.add_lt_of_lt_sub' hj) (.nil _),?_,?_⟩
  ·exact aa e (a)
  ·exact aa e (b)
 have e19:(t.n0++(an t.N).mu).getD 19 0=(an t.N).spl:=rfl;have e21:(t.n0++(an t.N).mu).getD 21 0=(an t.N).sh:=rfl;have sbf:∀c ts,Df (t.n0++(an t.N).mu) (t.box.lo++ts)->ts≠[]->0<=c+ev (t.n0++(an t.N).mu) (t.box.lo++ts)->c+ev (t.n0++(an t.N).mu) (t.box.lo++ts)<=255->KM (t.n0++(an t.N).mu) (fV (c,t.box.lo++ts)):=λc ts d ne a b=>by
  cases q:t.box.lo++ts with
  |nil=>exact absurd (List.append_eq_nil_iff.mp q).2 ne
  |cons x r=>rw[q]at d a b;exact⟨d,a,b⟩
 intro x hx;rcases List.mem_append.mp hx with hx |hx
 ·have fs:t.box.k=1->KM (t.n0++(an t.N).mu) (fV t.box.fSB):=λk=>by
   unfold cA.fSB;refine aa k ?_;have v:Int.ofNat 0+ev (t.n0++(an t.N).mu) (t.box.lo++[(19,.ofNat 8),(21,.ofNat 64)])=ev (t.n0++(an t.N).mu) t.box.lo+(8*(an t.N).spl+64*(an t.N).sh):=by
    refine aa (jg ..) ?_;show(0:Int)+(_+(8*(t.n0++(an t.N).mu).getD 19 0+(64*(t.n0++(an t.N).mu).getD 21 0+0)))=_;refine aa e19 (aa e21 ?_);simp
   refine sbf _ _ (d0.app (.cons (by refine aa l ?_;show 19<27;simp) (.cons (by refine aa l ?_;show 21<27;simp) (.nil _)))) (by simp) ?_ ?_<;>refine aa v ?_<;>lia
  have fs2:t.box.sk<=3->∀k,t.box.k=k+2->KM (t.n0++(an t.N).mu) (fV t.box.fSB):=λs k e=>by
   unfold cA.fSB;refine aa e ?_;have v:Int.ofNat (64*t.box.sk)+ev (t.n0++(an t.N).mu) (t.box.lo++[(19,.ofNat 8)])=64*(t.box.sk:Int)+(ev (t.n0++(an t.N).mu) t.box.lo+8*(an t.N).spl):=by
    refine aa (jg ..) ?_;show((64*t.box.sk:Nat):Int)+(_+(8*(t.n0++(an t.N).mu).getD 19 0+0))=_;refine aa e19 ?_;simp
   refine sbf _ _ (d0.app (.cons (by refine aa l ?_;show 19<27;simp) (.nil _))) (by simp) ?_ ?_<;>refine aa v ?_<;>lia
  have sk3:t.box.sk<=3:=by
   show(if(an t.N).k<2 then 0 else(an t.N).sh.toNat)<=3
   split<;>simp_all
  cases hk:t.box.k with
  |zero=>replace hx:=(hk ..)▸hx;cases hx
  |succ k=>
   replace hx:=(hk ..)▸hx;have hx:=List.mem_singleton.mp (show x∈[fV t.box.fSB]from hx);refine aa hx ?_;cases k with
   |zero=>exact fs hk
   |succ k=>exact fs2 sk3 k hk
 ·have md:t.box.md=(an t.N).md:=rfl;rcases O.md with z |z |z<;>rw[md,z]at hx
  ·cases hx
  ·have hx:=List.mem_singleton.mp (show x∈[V.lin (.ofNat 0) [(22,.ofNat 1)]]from hx);refine aa hx ?_;exact one 5 (by simp) h7.1 h7.2
  ·have hx:x∈[V.lin (.ofNat 0) [(22,.ofNat 1)],.lin (.ofNat 0) [(23,.ofNat 1)],.lin (.ofNat 0) [(24,.ofNat 1)],.lin (.ofNat 0) [(25,.ofNat 1)]]:=hx;simp only[bk,List.not_mem_nil,or_false]at hx;rcases hx with rfl |rfl |rfl |rfl
   ·exact one 5 (by simp) h7.1 h7.2
   ·exact one 6 (by simp) h8.1 h8.2
   ·exact one 7 (by simp) h9.1 h9.2
   ·exact one 8 (by simp) h10.1 h10.2
theorem tW (b:cA):b.seg.length<=5:=by
 unfold cA.seg
 split<;>split<;>simp
end
theorem N5 {t:nA} (hT:Z.T=t.T) (hn:Z.n0=t.n0):dh Z t.box (an t.N).mu:=by
 refine kN (DZ t.N) λO eN=>?_;have hb:t.box∈boxes:=lK.boxes O;have n17:Z.n0.length=17:=by refine aa (hn ..) ?_;rfl
 have G:=bO.mp Ss _ hb;refine kN (ay G) λG g4=>?_;refine bB G λg3 G=>?_;refine bB G λg2 g1=>?_;have sh:∀f:Int×Ts,uV f.2->val (Fo++(an t.N).mu) f=val (Z.n0++(an t.N).mu) f:=λf h=>(zO n17 h).symm;have l27:(Z.n0++(an t.N).mu).length=27:=by refine aa (cX ..) (aa (n17 ..) ?_);rfl
 have sg0:Z.T.seg 0=t.box.seg.map (λx=>(FC (t.n0++(an t.N).mu) x).toNat):=by refine aa (hT ..) ?_;rfl
 have segs:=t.segs O;have hb16:=t.base_eq O;have hi16:=t.idx_eq O;have tb:Z.T.txt 0=t.tb:=by refine aa (hT ..) ?_;rfl
 have ti:Z.T.txt 1=t.ti:=by refine aa (hT ..) ?_;rfl
 refine⟨hb,n17,lK.fit O,λG tk p=>?_,?_,?_,?_,?_,?_,?_,?_,?_,?_,?_,?_,λG w p h=>?_,λG w p h=>?_,⟨?_,?_⟩,?_,?_⟩
 ·have d:Df (Z.n0++(an t.N).mu) [(17,1),(18,8),(19,16),(20,128),(21,256),(22,3072),(23,786432),(24,201326592),(25,51539607552),(26,13194139533312)]:=jP rfl (Nat.le_of_eq l27.symm);refine .lin _ _ _ tk (d.mono p) ?_;refine aa (cr p d ..) (aa (hn ..) ?_);show((1024*(an t.N).md))+(1*(an t.N).bl+(8*(an t.N).bh+(16*(an t.N).spl+(128*(an t.N).sph+(256*(an t.N).sh+(3072*(an t.N).w0+(786432*(an t.N).w1+(201326592*(an t.N).w2+(51539607552*(an t.N).w3+(13194139533312*(an t.N).u+0))))))))))=t.N;lia
 ·refine bI (sh _ g2 ..) (aa (hn ..) ?_);rfl
 ·refine aa (hn ..) ?_;rfl
 ·refine aa (hn ..) ?_;rfl
 ·refine aa (hn ..) ?_;rfl
 ·refine aa (hn ..) ?_;rfl
 ·refine bI (sh _ g3) (aa hn ?_);rfl
 ·refine bI (sh _ g4) (aa hn ?_);rfl
 ·refine bI (sh _ g1) (aa hn ?_);rfl
 ·refine aa hn ?_;rfl
 ·refine aa hn ?_;rfl
 ·refine bI (sh _ g1) (aa hn ?_);rfl
 ·refine kX (yp p ((t.lo_eq O n17).1.app (.cons (by refine aa l27 ?_;show 18<27;simp) (.nil _))) h) λtk ee1=>?_;refine aa ee1 ?_;refine⟨tk,?_⟩;refine aa tb ?_;have e:t.box.fBase.1+ev (Z.n0++(an t.N).mu) t.box.fBase.2=t.vl t.box.fBase:=by
   have g:=by
    show uV (t.box.lo++[(18,.ofNat 8)]);unfold cA.lo;cases t.box.nb<;>rfl
   exact(sh _ g).symm
  show Value.str (aj (em.getD (t.box.fBase.1+ev (Z.n0++(an t.N).mu) t.box.fBase.2).toNat [])) tk=_;refine aa e ?_;rfl
 ·refine aa ti ?_;unfold nA.ti;cases hk:t.box.k with
  |zero=>
   unfold cA.vIndex at h;rw[hk]at h;exact aA (h.str_of) λtk e _=>⟨tk,by refine aa e ?_;rw[if_pos (Nat.zero_lt_two)]⟩
  |succ k=>
   cases k with
   |zero=>
    unfold cA.vIndex at h;rw[hk]at h;exact aA (h.str_of) λtk e _=>⟨tk,by refine aa e ?_;rw[if_pos (by exact Nat.lt_add_one (0+1))]⟩
   |succ k=>
    unfold cA.vIndex at h;rw[hk]at h;refine aa (if_neg (of_decide_eq_false rfl) ..) ?_;refine kX (yp p (.cons (by refine aa l27 ?_;show 19<27;simp) (.cons (by refine aa l27 ?_;show 20<27;simp) (.nil _))) h) λtk ee2=>?_;refine aa ee2 ?_;have e:=sh (.ofNat 0,[(19,.ofNat 1),(20,.ofNat 8)]) rfl;have e:t.vl (.ofNat 0,[(19,.ofNat 1),(20,.ofNat 8)])=Int.ofNat 0+ev (Z.n0++(an t.N).mu) [(19,.ofNat 1),(20,.ofNat 8)]:=e;exact⟨tk,by rw[e]⟩
 ·exact aa tb ((ur (qW (by lia)).2).1)
 ·refine aa ti ?_;unfold nA.ti
  split
  ·exactλc h=>by cases h
  ·exact(ur (qW (by omega)).2).1
 ·refine aa sg0 (aa hn ?_);exact BW segs
 ·refine⟨?_,⟨?_,λc hc=>?_⟩,λz=>ao z⟩
  ·refine aa hn (aa sg0 (aa (List.length_map ..) ?_));rfl
  ·refine aa sg0 (aa (List.length_map ..) ?_);have:=tW t.box;exact cM (by assumption) (by decide)
  ·rw[sg0]at hc;refine aA (List.mem_map.mp hc) λx hx ee3=>?_;subst ee3;exact Cg (segs x hx)
end
section
noncomputable def Zt.re (Z:Zt) (T:cW) (g:Tr) (x:Xt) (n:List Int):Zt:={Z with T:=T,g0:=g,x0:=x,n0:=n}
noncomputable def Gh.re (G:Gh) (f:Pz->AI) (ν:List Int):Gh:=⟨λi=>match i with |.g p=>G.ρ (f p) |.d _=>none,ν,G.H⟩
mutual
noncomputable def wE:V->V
 |.ref (.d p)=>.ref (.g p)
 |.tup l=>.tup (B4 l)
 |v=>v
noncomputable def B4:List V->List V
 |[]=>[]
 |v::l=>wE v::B4 l
end
def kK (p:Pz):Bool:=@Pz.rec (λ_=>Bool) false (λ_ _=>true) (λ_ _=>true) p
mutual
noncomputable def Qt:V->Bool
 |.none=>true
 |.bool _=>true
 |.int _=>true
 |.str _=>true
 |.tup l=>RQ l
 |.ref (.d p)=>kK p
 |_=>false
noncomputable def RQ:List V->Bool
 |[]=>true
 |v::l=>ah (Qt v) (RQ l) false
end
def LD (c:Int):V->Bool
 |.int c'=>eH c c'
 |_=>false
def Lz (x:List Nat):V->Bool
 |.str y=>jH x y
 |_=>false
def OX (i:Id):V->Bool
 |.ref j=>xv i j
 |_=>false
def O1 (b:Bool):V->Bool
 |.bool b'=>ah b b' (ji b')
 |_=>false
noncomputable def Nt (k:List V->Bool):V->Bool
 |.tup l=>k l
 |_=>false
mutual
noncomputable def Fh:V->V->Bool
 |.none,w=>et w
 |.bool b,w=>O1 b w
 |.int c,w=>LD c w
 |.str s,w=>Lz s w
 |.tup l,w=>Nt (P1 l) w
 |.ref i,w=>OX i w
 |_,_=>false
noncomputable def P1:List V->List V->Bool
 |[],l'=>cL l'
 |v::l,l'=>aw l' false λv' r=>ah (Fh v v') (P1 l r) false
end
theorem pF:Fh v w->v=w:=
 V.rec (motive_2:=λl=>∀l',P1 l l'->l=l')
  (λ_ h=>ao h)
  (λw h=>by cases w<;>first |rfl |exact ao h)
  (λb w h=>by
   cases w with
   |bool b'=>cases b<;>cases b'<;>first |rfl |exact ao h
   |_=>exact ao h)
  (λc w h=>by
   cases w with
   |int c'=>rw[(aB _ _).mp h]
   |_=>exact ao h)
  (λ_ _ _ h=>ao h)
  (λs w h=>by
   cases w with
   |str s'=>rw[(bG _ _).mp h]
   |_=>exact ao h)
  (λ_ _ _ _ h=>ao h) (λ_ _ h=>ao h) (λ_ _ _ h=>ao h)
  (λl i w h=>by
   cases w with
   |tup l'=>rw[i l' h]
   |_=>exact ao h)
  (λi w h=>by
   cases w with
   |ref j=>rw[lg h]
   |_=>exact ao h)
  (λ_ _ _ h=>ao h) (λ_ _ h=>ao h)
  (λl' h=>by
   cases l' with
   |nil=>rfl
   |cons=>exact ao h)
  (λv l i j l' h=>by
   cases l' with
   |nil=>exact ao h
   |cons v' r=>
    refine ax h λh2 h1=>?_;refine aa (i v' h1) ?_;rw[j r h2]) v w
theorem MM (h:P1 l l'):l=l':=by cases pF (v:=.tup l) (w:=.tup l') h;rfl
def UV (fs:List (Nat×V)):List (Nat×V):=fs.map λp=>(p.1,wE p.2)
def UW (es:List (V×V)):List (V×V):=es.map λp=>(p.1,wE p.2)
def Hq (v w:V):Bool:=ah (Qt v) (Fh (wE v) w) false
noncomputable def LY:List V->List V->Bool
 |[],l'=>cL l'
 |v::l,l'=>aw l' false λw r=>ah (Hq v w) (LY l r) false
noncomputable def L0:List (Nat×V)->List (Nat×V)->Bool
 |[],l'=>cL l'
 |p::l,l'=>aw l' false λq r=>ah (Nat.beq p.1 q.1) (ah (Hq p.2 q.2) (L0 l r) false) false
noncomputable def L9:List (V×V)->List (V×V)->Bool
 |[],l'=>cL l'
 |p::l,l'=>aw l' false λq r=>ah (Fh p.1 q.1) (ah (Hq p.2 q.2) (L9 l r) false) false
def LX (o o':O):Bool:=match o with
 |.list l=>bJ o' (LY l)
 |.inst c fs=>Ci o' λc' fs'=>ah (Nat.beq c c') (L0 fs fs') false
 |.dict es=>nZ o' (L9 es)
 |_=>false
def SW:Option O->Option O->Bool
 |none,_=>true
 |some o,some o'=>LX o' o
 |_,_=>false
noncomputable def Dw:Tr->Tr->Bool
 |.nil,_=>true
 |.node v l r,.node v' l' r'=>ah (SW v v') (ah (Dw l l') (Dw r r') false) false
 |_,_=>false
theorem pc:∀{g t:Tr} {p:Pz} {o:O},Dw g t->g.get p=some o->∃o',t.get p=some o'/\LX o' o
 |.nil,_,_,_,_,e=>bd e
 |.node v l r,.nil,p,o,h,e=>ao h
 |.node v l r,.node v' l' r',p,o,h,e=>by
  refine ax h λh2 h1=>?_;refine ax h2 λh3 h2'=>?_;cases p with
  |h=>
   subst e;cases v' with
   |none=>exact ao h1
   |some o'=>exact⟨o',rfl,h1⟩
  |o p=>exact pc (t:=l') h2' e
  |e p=>exact pc (t:=r') h3 e
section
variable{Z:Zt} {X:Fx} {n:Nat} {sc:Scope} {sl:List Str} {G:Gh} {ν:List Int} {T:cW} {rg:Addr}
theorem Gh.re_H:(G.re f ν).H=G.H:=rfl
theorem VR.re {f:Pz->AI} (hf:∀p,kK p->f p=.d p) {v:V} {w:Value} (h:VR T rg G v w):Qt v->VR T' rg (G.re f ν) (wE v) w:=
 @VR.rec T rg G (λv w _=>Qt v->VR T' rg (G.re f ν) (wE v) w) (λl ws _=>RQ l->SR T' rg (G.re f ν) (B4 l) ws) (λ_=>.none) (λb _=>.bool b) (λc t _=>.int c t) (λ_ _ _ _ _ _ h=>ao h) (λs t x _=>.str s t x)
  (λ_ _ _ _ _ _ _ _ _ _ h=>ao h) (λ_ _ _ h=>ao h) (λ_ _ _ _ _ _ _ h=>ao h) (λl ws a _ e i h=>.tup (B4 l) ws a (i h) e)
  (λk a d e h=>by
   cases k with
   |g p=>exact ao h
   |d p=>exact .ref (.g p) a d (by show G.ρ (f p)=_;refine aa (hf p h) ?_;exact e))
  (λ_ _ _ h=>ao h) (λ_ _ _ _ _ _ _ _ _ _ _ h=>ao h) (λ_=>.nil)
  (λv w l ws _ _ i j h=>.cons (wE v) w (B4 l) ws (i (eU h).1) (j (eU h).2)) (λ_ _ _ _ _ _ _ _ _ h=>ao h) v w h
theorem sP (hf:∀p,kK p->f p=.d p) (h:Hq v v') (r:VR T rg G v w):VR T' rg (G.re f ν) v' w:=by
 exact ax h λh2 h1=>bI (pF h2) (VR.re hf r h1)
theorem Hr (hf:∀p,kK p->f p=.d p) {l l':List V} (h:LY l l') (r:SR T rg G l ws):SR T' rg (G.re f ν) l' ws:=by
 induction l generalizing l' ws with
 |nil=>
  cases l' with
  |nil=>induction r using SR.knil;exact .nil
  |cons=>exact ao h
 |cons v l ih=>
  cases l' with
  |nil=>exact ao h
  |cons v' l'=>
   refine ax h λh2 h1=>?_
   induction r using SR.kcons with
   |cons w ws hv r=>exact .cons _ _ _ _ (sP hf h1 hv) (ih h2 r)
   |seg _ _ _ _ e0=>subst e0;exact ao h1
theorem LZ (hf:∀p,kK p->f p=.d p) {l l':List (Nat×V)} {es:List DictEntry} (h:L0 l l') (r:FR T rg G l es):l'.map (·.1)=l.map (·.1)/\FR T' rg (G.re f ν) l' es:=by
 induction l generalizing l' es with
 |nil=>
  cases l' with
  |nil=>induction r using F2.knil;exact⟨rfl,.nil⟩
  |cons=>exact ao h
 |cons p l ih=>
  cases l' with
  |nil=>exact ao h
  |cons q l'=>
   refine ax h λh2 h1=>?_;refine ax h2 λh3 h2=>?_;have e:=gB h1
   induction r using F2.kcons with
   |cons hv r=>
    exact kN (ih h3 r) λk1 k2=>⟨by rw[fy,fy,k1,e],.cons ⟨e▸hv.1,e▸hv.2.1,sP hf h2 hv.2.2⟩ k2⟩
theorem Dy {f:Pz->AI} (hf:∀p,kK p->f p=.d p) {β:Type} {Q:V->β->Prop} {vl:β->Value} {l l':List (V×V)} {xs:List β} (h:L9 l l') (r:F2 (λp x=>Q p.1 x/\VR T rg G p.2 (vl x)) l xs):F2 (λp x=>Q p.1 x/\VR T' rg (G.re f ν) p.2 (vl x)) l' xs:=by
 induction l generalizing l' xs with
 |nil=>
  cases l' with
  |nil=>induction r using F2.knil;exact .nil
  |cons=>exact ao h
 |cons p l ih=>
  cases l' with
  |nil=>exact ao h
  |cons q l'=>
   refine ax h λh2 h1=>?_;refine ax h2 λh3 h2=>?_
   induction r using F2.kcons with
   |cons hv r=>exact .cons ⟨by refine bI (pF h1) ?_;exact hv.1,sP hf h2 hv.2⟩ (ih h3 r)
theorem OR.re (hf:∀p,kK p->f p=.d p) (h:LX o o') (r:OR Z Hs G a d o):OR (Z.re T' g xt n0) Hs (G.re f ν) a d o':=by
 cases o with
 |list l=>
  refine aA (hH h) λl' ee0 h=>?_;rw[ee0];refine kN r λe zz1=>?_;refine aJ zz1 λws n h1 h2=>?_;exact⟨e,ws,n,h1,Hr hf h h2⟩
 |inst c fs=>
  cases o' with
  |inst c' fs'=>
   refine ax h λk2 k1=>?_;have e:=gB k1;refine bI e ?_;refine kN r λzz3 zz2=>?_;refine ak zz2 λes n h1 h2 h3=>?_;refine kN zz3 λhc hn=>?_;exact kN (LZ (T':=T') hf k2 h3) λq1 q2=>⟨⟨hc,by refine aa q1 ?_;exact hn⟩,es,n,h1,h2,q2⟩
  |_=>exact ao h
 |dict es=>
  refine aA (nY h) λes' ee4 h=>?_;rw[ee4];refine iP r λe ne zz5=>?_;refine aJ zz5 λds n h1 h2=>?_;refine⟨e,ne,ds,n,h1,?_⟩;refine h2.elim (λz=>fb z λkvs k1 k2 k3 k4=>?_) λz=>gD z λxs k1 k2 k3=>?_
  ·exact .inl ⟨kvs,k1,k2,k3,Dy (Q:=λv (kv:Str×Value)=>∃x,v=.str x/\kv.1=aj x) hf h k4⟩
  ·exact .inr ⟨xs,k1,k2,Dy (Q:=λv (x:List Int×Addr×Value)=>(∃l,v=.tup l/\mL l x.1)/\∃ws,G.H x.2.1=some (cj ws)/\ItemsAre (PySem.intKind Z.prog Z.w) x.1 ws) hf h k3⟩
 |_=>exact ao h
open Classical in
theorem ap.roomZ {G vs st m s tr} (I:ap Z X sl G vs st m s tr) {T':cW} {g:Tr} {x:Xt} {n0:List Int} {f:Pz->AI} (inj:∀p q,f p=f q->p=q) (hO:∀p o,g.get p=some o->E2 λa d=>G.ρ (f p)=some (a,d)/\OR (Z.re T' g x n0) (cO X tr) (G.re f n0) a d o)
  {d:List gA} (D:dn n0 (vS (Z.re T' g x n0) d)) {vs':Vs} {sl':List Str} (hlen:vs'.length=sl'.length) (hloc:∀(i:Nat) (y:Str) (v:V),sl'[i]?=some y->vs'[i]?=some v->v≠.unset->∃w,vK X m (cO X tr) y w/\VR T' Z.rg (G.re f n0) v w):
  ap (Z.re T' g x n0) (eE X (bv X tr s.heap) .nil G.H) sl' (G.re f n0) vs' (vS (Z.re T' g x n0) d) m s tr:=by
 refine⟨I.sh,I.fr,I.nw,I.nd,hloc,hlen,I.out,λi o e=>?_,λp o e=>(by exact bd e),I.imm,?_,λi a d h=>?_,I.hel,λp _=>rfl,D,⟨λb o e=>?_,?_,λp hp=>?_,λp o e=>(by exact bd e),rfl,rfl,rfl,λa o e=>.inl e,dN _⟩⟩
 ·cases i with
  |g p=>
   refine aJ (hO p o e) λa d r y=>?_;exact⟨a,d,r,y⟩
  |d p=>exact bd e
 ·refine fb I.own λow o1 o2 o3 o4=>?_;refine⟨λa=>match ow a with |.id j=>if h:∃p,f p=j then .id (.g h.choose)else .id j |z=>z,λi a d h=>?_,λa o h=>by simp only[o2 a o h],λp hp=>by simp only[o3 p hp],λp hp=>by simp only[o4 p hp]⟩;cases i with
  |d p=>exact bd h
  |g p=>
   refine kN (o1 _ _ _ (show G.ρ (f p)=some (a,d)from h)) λw1 w2=>?_;have ex:∃q,f q=f p:=⟨p,rfl⟩;have e:ex.choose=p:=inj _ _ ex.choose_spec;simp only[w1,w2];rw[dif_pos ex,e];exact⟨rfl,rfl⟩
 ·cases i with
  |g p=>exact I.rng _ _ _ h
  |d p=>exact bd h
 ·refine iP (ej (X:=X) e) λh1 zz6 _=>?_;obtain⟨o',h2⟩:=zz6;have:o=o':=ch (h1.symm.trans (I.get h2));subst this;exact h2
 ·cases q:(bv X tr s.heap).get? X.L with
  |none=>exact q
  |some o=>exact absurd rfl (ej q).2.2.1
 ·cases q:(bv X tr s.heap).get? p.1 with
  |none=>exact q
  |some o=>exact absurd rfl ((ej q).2.2.2 p hp)
theorem ap.backZ {G vs st m s tr} (I:ap Z X sl G vs st m s tr) 
  (J2:ap (Z.re T' g x n0) (eE X (bv X tr s.heap) f0 G.H) sl' G2 vs2 st2 m2 s2 tr2) (hlen:vs3.length=sl.length) (hloc:∀(i:Nat) (y:Str) (v:V),sl[i]?=some y->vs3[i]?=some v->v≠.unset->∃w,vK X m2 (cO X tr) y w/\VR Z.T Z.rg G v w):
  ∃tr3,tr3.map (·.1)=tr.map (·.1)/\ap Z X sl G vs3 st m2 s2 tr3:=by
 have:=I.caughtM (st1:=st) hlen hloc (dN _) I.num (s2:=s2) J2.sh (λb o e=>J2.get (J2.xok.has b o e)) J2.fr.ns λp hp=>by
  refine aA (J2.out p hp) λo h1 h2=>?_;exact lT (J2.nw _ h1).1 h2
 exact this
end
end
section
def C2:K:=λv _=>dF v (λ_ _=>true) (λ_=>false)
def zu (n:Nat):Tr:=.node (some (.list (kf 0 n))) .nil .nil
noncomputable def vm:Xt:=⟨.g .h,[],[],[]⟩
def zt (n:Nat) (i:Nat):Bool:=dy ky [.ref (.g .h),.int (.ofNat i)] (List.replicate 3 .unset) ⟨.nil,.h,uD .unb n,[],zu n,vm,.nil⟩ C2 (λ_=>false)
def vn:Bool:=bj (λn=>bj (zt n) (List.range 9)) (List.range 64)
theorem GJ:vn:=by kernel_rfl
theorem D9 (hn:n<=63) (hi:i<=8):zt n i:=by
 have h:=GJ;unfold vn at h;rw[bp]at h;have h:=bO.mp h n (List.mem_range.mpr (Nat.lt_succ_of_le hn));rw[bp]at h;exact bO.mp h i (List.mem_range.mpr (Nat.lt_succ_of_le hi))
def PP (as:List V) (st:St) (k:K):Prop:=∃n:Nat,as=[.ref (.g .h),.int (.ofNat n)]/\n<=8/\∀c:Int,k (.int c) st
open Classical in
noncomputable def FP:Sm:=λas st k _ _=>decide (PP as st k)
def lu:kD:=⟨⟨FP,eY⟩,2,5,[]⟩
noncomputable def gH (xs:List Int):Tr:=.node (some (.list (xs.map .int))) .nil .nil
theorem GV {T:cW} {xs:List Int} {ws:List Value} (h:SR T rg G (xs.map .int) ws):F2 (λw (c:Int)=>∃t,w=.int c t) ws xs:=by
 induction xs generalizing ws with
 |nil=>induction h using SR.knil;exact .nil
 |cons c xs ih=>
  refine fp (h.cons_of rfl) λw ws' e h1 h2=>aa e ?_;exact .cons h1.int_of (ih h2)
theorem CB {T:cW} {ν:List Int} (p:G.ν=ν) (ws:List Value) (ns:List Int) (a:Nat) (h:F2 (λw (c:Int)=>∃t,w=.int c t) ws ns) (e:∀i:Nat,i<ns.length->ν.getD (a+i) 0=ns.getD i 0) (l:a+ns.length<=ν.length):F2 (VR T rg G) (kf a ns.length) ws:=by
 subst p
 induction h generalizing a with
 |nil=>exact .nil
 |@cons w c ws ns h r ih=>
  refine F2.cons ?_ (ih (a+1) (λi hi=>?_) (by refine aa (Nat.succ_add_eq_add_succ ..) ?_;exact l))
  ·refine kX h λt q=>aa q ?_;refine .lin _ _ _ t (.cons (jG (Nat.lt_add_of_pos_right (Nat.succ_pos _)) l) (.nil _)) ?_;have e0:G.ν.getD a 0=c:=e 0 (Nat.zero_lt_succ _);refine bI e0 ?_;show Int.ofNat 0+(Int.ofNat 1*G.ν.getD a 0+0)=_;simp
  ·exact aa (Nat.succ_add_eq_add_succ a i) (e (i+1) (Nat.succ_lt_succ hi))
section
variable{Z:Zt} {X:Fx} {n:Nat} {sc:Scope} {P:Params}
theorem FxOk.reO (F:FxOk Z X n sc) (T:cW) (g:Tr) (x:Xt) (n0:List Int) (B:Heap) (f:Tr) (H:Addr->Option Obj):FxOk (Z.re T g x n0) (eE X B f H) n sc:=⟨F.inK,F.top,F.frames,F.handled,F.depth,F.units,F.locals,F.frame,F.fkind,F.scope,F.kind,F.globals,F.builtins,F.outK,F.frs⟩
theorem jZ.re (O:jZ Z P) (T:cW) (g:Tr) (x:Xt) (n0:List Int):jZ (Z.re T g x n0) P:=⟨O.K,O.cls,O.rg⟩
theorem FO (O:jZ Z P) (hg:Z.g0=gH xs) (hx:xs.length<=63):gV Z 2 lu 1100:=λna hp sc sl X F G vs st m s k kE as ws I ha hw y=>by
 have n2:na=2:=by
  refine bB hp λp2 p1=>?_;have p1:na<=2:=aQ p1;have p2:2-na<=0:=aQ p2;lia
 subst n2;refine gD (@cg _ (Classical.propDecidable _) y) λi ee1 hi hk=>?_;subst ee1;refine I.k λtr I=>?_;obtain⟨w0,wsr,rfl,v0,ha⟩:=ha.cons_of;obtain⟨w1,wsr,rfl,v1,ha⟩:=ha.cons_of;have:=ha.nil_of;refine aa this ?_;refine kX v1.int_of λt1 ee2=>?_;refine aa ee2 ?_;refine aJ v0.ref_of λa0 d0 ee3 r0=>?_;refine aa ee3 ?_;refine aJ (I.sto (.g .h) (.list (xs.map .int)) (by show st.g.get .h=_;refine aa I.xok.g (aa hg ?_);rfl)) λa d r zz4=>?_;obtain⟨hd,wl,nn,hl,hs⟩:=zz4;replace r:=(r0 ..)▸r;refine kN (fE r) λee5 ee6=>?_;subst ee5 ee6;have hO:∀p o,(zu xs.length).get p=some o->E2 λa d=>G.ρ (.g p)=some (a,d)/\OR (Z.re Z.T (zu xs.length) vm xs) (cO X tr) (G.re .g xs) a d o:=λp o e=>by
  cases p with
  |h=>
   refine gP e ?_;exact⟨_,_,r0,hd,wl,nn,hl,SR.of_plain (CB rfl _ _ 0 (GV hs) (λi hi=>by refine aa (Nat.zero_add ..) ?_;rfl) (by refine aa (Nat.zero_add ..) ?_;exact c8 _))⟩
  |o p=>exact bd e
  |e p=>exact bd e
 have J:=I.roomZ (sl':=[]) (vs':=[]) (T':=Z.T) (λp q e=>by cases e;rfl) hO ⟨Dm.unbs xs,i8⟩ rfl (λi y v a b c=>by cases i<;>exact bd a);have h0:=xz (O.re Z.T (zu xs.length) vm xs) 2 hp sc [] (eE X (bv X tr s.heap) .nil G.H) (F.reO _ _ _ _ _ _ _) (G.re .g xs) [] _ m s C2 (λ_=>false) [.ref (.g .h),.int (.ofNat i)] [.ref a0,.int (Int.ofNat i) t1] ⟨tr,J⟩
  (.cons (.ref _ a0 d0 r0) (.cons (.int _ _) .nil)) rfl (D9 hx hi)
 refine codeAny_mono h0 λr s' h=>?_;cases r with
 |error e=>refine kN h λzz7 _=>?_;obtain⟨_,_,_,_,_,z⟩:=zz7;exact ao z
 |ok fl=>
  cases fl with
  |ret w=>
   refine bX h λG2 v st2 L hv hq zz8=>?_;refine kX zz8 λtr2 J2=>?_;refine aA (I.backZ J2 I.len I.loc) λtr3 f3 I3=>?_;refine(cR hq).elim (λz=>?_) λz=>aJ z λc ts hc _=>?_
   ·exact ao z
   ·refine kN (sE hv hc) λ_ zz9=>?_;obtain⟨t,rfl⟩:=zz9;exact⟨G,.int _,st,Gh.Le.refl G,.int _ t,hk _,tr3,I3⟩
  |_=>exact h.elim
end
end
section
noncomputable def yU (a b:Int):gA:=.iv a b []
def HL:List gA:=[yU (.ofNat 0) (.ofNat 7),yU (.ofNat 0) (.ofNat 1),yU (.ofNat 0) (.ofNat 7),yU (.ofNat 0) (.ofNat 1),yU (.ofNat 0) (.ofNat 1),.unb,yU (.ofNat 0) (.ofNat 135),yU (.ofNat 0) (.ofNat 5),yU (.ofNat 0) (.ofNat 1),yU (.ofNat 0) (.ofNat 1),yU (.ofNat 0) (.ofNat 2),yU (.ofNat 0) (.ofNat 7),yU (.negSucc 0) (.ofNat 255),.unb,yU (.ofNat 0) (.ofNat 4),.unb,.unb]
def wQ:V:=.lin iZ [(0,.ofNat 1),(1,.ofNat 8),(2,.ofNat 16),(3,.ofNat 128),(4,.ofNat 256),(5,.ofNat 512)]
noncomputable def cN (c:Int):nA:=⟨c%8,c / 8%2,c / 8 / 2%8,c / 8 / 2 / 8%2,c / 8 / 2 / 8 / 2%2,c / 8 / 2 / 8 / 2 / 2⟩
theorem Pq (a b c d e f:Int):a+8*(b+2*(c+8*(d+2*(e+2*f))))=0+(1*a+(8*b+(16*c+(128*d+(256*e+(512*f+0)))))):=by simp+arith
theorem FJ (c:Int):0+(1*(cN c).ro+(8*(cN c).r+(16*(cN c).oo+(128*(cN c).ob+(256*(cN c).p+(512*(cN c).N+0))))))=c:=
 ((gq (gq (gq (gq (gq rfl))))).trans (Pq _ _ _ _ _ _)).symm
theorem Ae {T:cW} (h:G.ν=(cN c).n0) (t:Tok):VR T rg G wQ (.int c t):=by
 have l:G.ν.length=17:=by refine aa h ?_;rfl
 refine .lin _ _ c t ?_ ?_
 ·exact .cons (by refine aa l ?_;show 0<17;exact Nat.zero_lt_succ 16) (.cons (by refine aa l ?_;show 1<17;exact Nat.one_lt_succ_succ 15) (.cons (by refine aa l ?_;show 2<17;simp) (.cons (by refine aa l ?_;show 3<17;simp) (.cons (by refine aa l ?_;show 4<17;simp) (.cons (by refine aa l ?_;show 5<17;simp) (.nil _))))))
 ·exact aa h (FJ c)
theorem eQ (h:a<=x/\x<=b):jq x (yU a b):=⟨h.1,h.2,by simp⟩
theorem Mr (t:nA) (h0:0<=t.ro/\t.ro<=7) (h1:0<=t.r/\t.r<=1) (h2:0<=t.oo/\t.oo<=7) (h3:0<=t.ob/\t.ob<=1) (h4:0<=t.p/\t.p<=1):Dm t.n0 HL:=by
 refine kN (DZ t.N) λO _=>?_;refine iP (t.lo_eq O (n0:=Fo) rfl) λd0 lo0 lo7=>?_;have b1:=O.bl;have b3:=O.spl;have b5:=O.sh;have b6:=O.md;have hmd:t.box.md=(an t.N).md:=rfl;have sk3:t.box.sk<=3:=by
  show(if(an t.N).k<2 then 0 else(an t.N).sh.toNat)<=3
  split<;>lia
 have rm:0<=t.vl t.box.fRM/\t.vl t.box.fRM<=7:=by
  have e:t.vl t.box.fRM=(match t.box.k with |0=>(.ofNat 0,t.box.lo) |_=>(.ofNat 4,[]):Int×Ts).1+ev (Fo++(an t.N).mu) (match t.box.k with |0=>(.ofNat 0,t.box.lo) |_=>(.ofNat 4,[]):Int×Ts).2:=rfl;rw[e];cases t.box.k with
  |zero=>
   show 0<=(0:Int)+ev _ t.box.lo/\(0:Int)+ev _ t.box.lo<=7;simp[lo0,lo7]
  |succ k=>
   show 0<=(4:Int)+0/\(4:Int)+0<=7;decide
 have m0:0<=t.vl t.box.fM0/\t.vl t.box.fM0<=135:=by
  have e:t.vl t.box.fM0=64*(t.box.md:Int)+t.vl t.box.fRM:=by
   exact Int.add_assoc (↑(64*t.box.md)) t.box.fRM.fst (ev (Fo++(an t.N).mu) t.box.fRM.snd)
  rw[e,hmd];lia
 have sb:-1<=t.vl t.box.fSB/\t.vl t.box.fSB<=255:=by
  unfold cA.fSB;cases t.box.k with
  |zero=>
   show -1<=(-1:Int)+0/\(-1:Int)+0<=255;decide
  |succ k=>
   cases k with
   |zero=>
    show -1<=(0:Int)+ev _ (t.box.lo++[(19,.ofNat 8),(21,.ofNat 64)])/\(0:Int)+ev _ (t.box.lo++[(19,.ofNat 8),(21,.ofNat 64)])<=255;rw[jg];show -1<=(0:Int)+(_+(8*(an t.N).spl+(64*(an t.N).sh+0)))/\(0:Int)+(_+(8*(an t.N).spl+(64*(an t.N).sh+0)))<=255;lia
   |succ k=>
    show -1<=((64*t.box.sk:Nat):Int)+ev _ (t.box.lo++[(19,.ofNat 8)])/\((64*t.box.sk:Nat):Int)+ev _ (t.box.lo++[(19,.ofNat 8)])<=255;rw[jg];show -1<=((64*t.box.sk:Nat):Int)+(_+(8*(an t.N).spl+0))/\((64*t.box.sk:Nat):Int)+(_+(8*(an t.N).spl+0))<=255;lia
 have l5:=tW t.box;have wi:t.box.wi<=4:=by
  unfold cA.wi
  split<;>simp
 refine Dm.one (eQ h0) (Dm.one (eQ h1) (Dm.one (eQ h2) (Dm.one (eQ h3) (Dm.one (eQ h4) (Dm.one trivial (Dm.one (eQ m0) (Dm.one (eQ ?_) (Dm.one (eQ ?_) (Dm.one (eQ ?_) (Dm.one (eQ ?_) (Dm.one (eQ rm) (Dm.one (eQ sb) (Dm.one trivial (Dm.one (eQ ?_) (Dm.one trivial (Dm.one trivial Dm.nil))))))))))))))))
 ·show 0<=((t.box.seg.length:Nat):Int)/\((t.box.seg.length:Nat):Int)<=5;lia
 ·show 0<=(0:Int)+(1*(an t.N).sph+0)/\(0:Int)+(1*(an t.N).sph+0)<=1;simpa using O.sph
 ·show 0<=(0:Int)+(1*(an t.N).bh+0)/\(0:Int)+(1*(an t.N).bh+0)<=1;simpa using O.bh
 ·show 0<=((t.box.md:Nat):Int)/\((t.box.md:Nat):Int)<=2;lia
 ·show 0<=((t.box.wi:Nat):Int)/\((t.box.wi:Nat):Int)<=4;lia
theorem HN (c:Int):Dm (cN c).n0 HL:=Mr _ (xn _ 7) (xn _ 1) (xn _ 7) (xn _ 1) (xn _ 1)
theorem FL (O:jZ Z P) {t:nA} (hT:Z.T=t.T) (hn:Z.n0=t.n0) (hc:HW Z.g0) (h1:ED Z.g0 Z.x0) (h2:zB Z.g0 Z.x0):Il Z:=by
 have M:=N5 hT hn;have hr:Z.rg=Z.cls 11:=by refine aa O.rg (aa O.cls ?_);rfl
 exact⟨λn h=>Kr hc M h,λn h=>Nz h1 h,λn h=>Kp hc M h,λn h=>Kq hc hr (aa O.cls (λz=>absurd z (by decide))) M h,λn h=>Ks hc (by refine aa hn ?_;rfl) h2 h⟩
end
section
def GE:List Stmt:=match Bc 134 with |.FunctionDef _ _ b ..=>b |_=>[]
def aV:Scope:=match Bc 134 with |.FunctionDef _ _ _ _ _ _ sc ..=>sc |_=>default
noncomputable def cZ:List Str:=["script","rows","told_set","trial","row","number","told","octs","found","lead","bent"]
def lZ (i:Nat):Stmt:=GE.getD i (.Pass default)
def Jn:Expr:=match lZ 2 with |.For t ..=>t |_=>default
def ze:Expr:=match lZ 2 with |.For _ e ..=>e |_=>default
def dW:List Stmt:=match lZ 2 with |.For _ _ b ..=>b |_=>[]
def Mc:Pos:=match lZ 2 with |.For _ _ _ _ p=>p |_=>default
def Bn:Ex:=(xA (Tg.n 1) (eF ku [(eB cK (eF lu.fn [(eL 0),(eK (V.int (.ofNat 0)))] [.unset,.unset,.unset]) (eK (V.int (.ofNat 3))))] []))
def Bm:Ex:=(xA (Tg.n 2) (bz 15 eJ [(eL 1)] [.unset,.unset,.unset]))
def Ir:Ex:=(xA (Tg.n 4) (eI (eL 1) (eB cK (eF lu.fn [(eL 0),(eB aO (eK (V.int (.ofNat 1))) (eB fF (eK (V.int (.ofNat 2))) (eL 3)))] [.unset,.unset,.unset]) (ko (eL 1)))))
def It:Ex:=(xA (Tg.n 5) (eF lu.fn [(eL 0),(eB aO (eK (V.int (.ofNat 2))) (eB fF (eK (V.int (.ofNat 2))) (eL 3)))] [.unset,.unset,.unset]))
def Bl:Ex:=(ac (xA (Tg.t [6,7]) (eF pL [(eL 4),(eB cK (eL 5) (eK (V.int (.ofNat 16)))),(eB cK (eB e9 (eL 5) (eK (V.int (.ofNat 16)))) (eK (V.int (.ofNat 16)))),(eB e9 (eL 5) (eK (V.int (.ofNat 256))))] [.unset,.unset,.unset,.unset,.unset,.unset,.unset,.unset,.unset,.unset,.unset,.unset,.unset,.unset,.unset,.unset,.unset,.unset,.unset])) (ac (xA (Tg.n 8) (eF lE [(eL 2),(xI (eB aO (eL 7) (dk [(eB cK (eL 5) (eK (V.int (.ofNat 256)))),(eB cK (eB e9 (eL 5) (eK (V.int (.ofNat 7)))) (eK (V.int (.ofNat 256))))])))] [(V.int (.ofNat 0)),.unset,.unset,.unset,.unset,.unset])) (ac (bN (pB [(cC nt (eM 999 (eA (eL 8) 41) [(4,dB,[]),(10,be,[])] []) (aF [(eA (eL 4) 0),(eK (V.str [])),(eL 6)])),(cC nt (eA (eL 8) 42) (ko (eL 7)))]) (au (eK (V.bool false))) aE) (ac (bN (pB [(cC nt (eM 999 (eA (eL 8) 43) [(4,dB,[]),(10,be,[])] []) (eM 999 (eL 4) [(4,dB,[]),(10,be,[])] [])),(jJ (cT (eF ct [(eL 4)] [.unset]))),(jJ (cT (eF jV [(eL 2),(qe (eL 7) (eK V.none) (dH (eK (V.int (.ofNat 1)))))] [])))]) (au (eK (V.bool false))) aE) (gC (Tg.n 9) (aF [(eK (V.int (.ofNat 102))),(eK (V.int (.ofNat 242))),(eK (V.int (.ofNat 243)))]) (ac (bN (cC ce (eL 9) (eA (eL 4) 6)) nB aE) (ac (xA (Tg.n 10) (eB aO (dk [(eL 9)]) (lJ (cC nt (eA (eL 4) 6) (eK (V.int (.ofNat 0)))) (qe (eL 7) (eK (V.int (.ofNat 1))) (eK V.none)) (eL 7)))) (Bq (cC ce (eM 999 (eA (eF lE [(eL 2),(xI (eL 10))] [(V.int (.ofNat 0)),.unset,.unset,.unset,.unset,.unset]) 43) [(4,dB,[]),(10,be,[])] []) (eM 999 (eL 4) [(4,dB,[]),(10,be,[])] [])) (V.bool false) nB))))))))
def Nd:Ev:=(pv (eK (V.int (.ofNat 4))))
def yH:En:=⟨1100,0,lu.fn,2,5,[],0,.f "_law_cell",[],[],[]⟩
def oO:Tb:=Nw vg (yH::Px) 14 [1114,1100,966] [] []
def IY:Tb:=Nw vg Un 18 [1142,947,1107,1149] [[189,468]] []
theorem Lu:GE=[lZ 0,lZ 1,.For Jn ze dW [] Mc,lZ 3]:=by kernel_rfl
theorem OH:dW=dW.getD 0 (.Pass default)::dW.getD 1 (.Pass default)::dW.drop 2:=by kernel_rfl
theorem Sq:(co oO 40).st aV cZ (lZ 0)=Bn:=by kernel_rfl
theorem T1:(co oO 40).st aV cZ (lZ 1)=Bm:=by kernel_rfl
theorem T2:(co oO 40).st aV cZ (lZ 3)=au (eK (.bool true)):=by kernel_rfl
theorem Vd:(co oO 40).ex aV cZ ze=Nd:=by kernel_rfl
theorem Sn:Ki aV cZ Jn=some (Tg.n 3):=by kernel_rfl
theorem Sr:n7 ze:=by kernel_rfl
theorem OA:(co oO 40).st aV cZ (dW.getD 0 (.Pass default))=Ir:=by kernel_rfl
theorem OC:(co oO 40).st aV cZ (dW.getD 1 (.Pass default))=It:=by kernel_rfl
theorem Sl:qg ((co IY 40).st aV cZ) (dW.drop 2)=Bl:=by kernel_rfl
theorem Oz:(decide cZ.Nodup&&(aV.kind==.function)):=by kernel_rfl
section
variable{Z:Zt} {P:Params}
theorem GK (P:Params):vc (aI P) yH:=by kernel_rfl
theorem uL (O:jZ Z P) (hg:Z.g0=gH xs) (hx:xs.length<=63):dD Z 14 oO:=we O (HY P) (λe h=>(bk.mp h).elim (λq=>q▸⟨FO O hg hx,GK P⟩) (D4 O e)) _ _ _
theorem CK (O:jZ Z P) (S:Il Z):dD Z 18 IY:=we O (HY P) (PJ O S) _ _ _
end
end
section
structure tG where
 t:Tr
 rows:Pz
 ts:Pz
 ids:List Pz
 x:Xt
def tG.lst (Q:tG):List V:=aP (λp=>.ref (.d p)) Q.ids
def oU (i:Id) (v:V):Bool:=dY v (xv i)
def LA (v:V):Bool:=to (Fh v (.int (.ofNat 0))) (to (Fh v (.int (.ofNat 1))) (to (Fh v (.int (.ofNat 2))) (Fh v (.int (.ofNat 3)))))
def SV (Q:tG) (st:St):Bool:=ah (ag (st.t.get Q.rows) false λo=>bJ o λl=>P1 l Q.lst) (Dw Q.t st.t) false
def mE (Q:tG) (vs:Vs) (st:St):Bool:=aw vs false λv0 r=>aw r false λv1 r=>aw r false λv2 r=>aw r false λv3 _=>ah (oU (.g .h) v0) (ah (oU (.d Q.rows) v1) (ah (oU (.d Q.ts) v2) (ah (LA v3) (SV Q st) false) false) false) false
def Jw (Q0 Q1 Q2:tG):Ex:=λvs st k _=>ah (to (mE Q0 vs st) (to (mE Q1 vs st) (mE Q2 vs st))) (k .next (cq (oM vs 3) (uD .unset 8)) st) false
def Mj (Q:tG):KF:=λfl vs _=>ph fl (aw vs false λv0 r=>aw r false λv1 r=>aw r false λv2 _=>ah (oU (.g .h) v0) (ah (oU (.g Q.rows) v1) (oU (.g Q.ts) v2) false) false) false (λ_=>false)
def bC (Q:tG) (p:Pz):Bool:=Bl [.ref (.g .h),.ref (.g Q.rows),.ref (.g Q.ts),.unset,.ref (.g p),wQ,.unset,.unset,.unset,.unset,.unset] ⟨.nil,.h,HL,[],Q.t,Q.x,.nil⟩ (Mj Q) (λ_=>false)
def Hl (Q:tG):Bool:=ah (ED Q.t Q.x) (ah (zB Q.t Q.x) (ah (HW Q.t) (ah (ag (Q.t.get .h) true λ_=>false) (ah (kK Q.rows) (ah (kK Q.ts) (ah (bj kK Q.ids) (ah (szOk Q.lst) (ji (cL Q.ids)) false) false) false) false) false) false) false) false
structure io (Q:tG):Prop where
 f:Hl Q
 run:∀p∈Q.ids,bC Q p
theorem hW (h:oU i v):v=.ref i:=by
 refine Iv h λj h=>?_;rw[lg h]
theorem GS (h:LA v):∃j:Nat,j<=3/\v=.int (.ofNat j):=by
 unfold LA at h;rw[eR,eR,eR,Bool.or_eq_true,Bool.or_eq_true,Bool.or_eq_true]at h;rcases h with h |h |h |h<;>exact⟨_,by simp,pF h⟩
theorem yK:∀l:List Pz,(aP (λp=>V.ref (.d p)) l)=l.map λp=>.ref (.d p)
 |[]=>rfl
 |p::l=>congrArg (V.ref (.d p)::·) (yK l)
theorem yJ:∀l:List Pz,bF (l.map λp=>V.ref (.d p))=false
 |[]=>rfl
 |p::l=>by show to false (bF (l.map λp=>V.ref (.d p)))=false;refine aa (yJ l) ?_;rfl
theorem EA:∀(l:List Pz) (i:Nat) (h:i<l.length) (k:V->af),at_ (l.map λp=>V.ref (.d p)) i k=k (.ref (.d l[i]))
 |p::l,0,_,k=>rfl
 |p::l,i+1,h,k=>EA l i (by simpa using h) k
theorem F0 {Q:tG} {st:St} (hr:st.t.get Q.rows=some (.list Q.lst)) (hz:szOk Q.lst) (hne:Q.ids≠[]) {j:Nat} (hj:j<=3) {k:KF} 
  (h:∀p∈Q.ids,k .next [.ref (.g .h),.ref (.d Q.rows),.ref (.d Q.ts),.int (.ofNat j),.ref (.d p),v5,v6,v7,v8,v9,v10] st=true):
  Ir [.ref (.g .h),.ref (.d Q.rows),.ref (.d Q.ts),.int (.ofNat j),v4,v5,v6,v7,v8,v9,v10] st k kE=true:=by
 have el:Q.lst=Q.ids.map λp=>V.ref (.d p):=yK _;have hl:dL Q.lst=Q.ids.length:=by rw[bw,el,List.length_map]
 have h4:Q.ids.length<=4000:=bI hl (aQ hz);have hpos:=Nat.pos_of_ne_zero λz=>hne (List.length_eq_zero_iff.mp z);have main:∀c:Int,obj (.d Q.rows) st (λo=>bJ o (CG st λy st=>cK (.int c) y st λz st=>GO (.ref (.d Q.rows)) z st λw st=>k .next [.ref (.g .h),.ref (.d Q.rows),.ref (.d Q.ts),.int (.ofNat j),w,v5,v6,v7,v8,v9,v10] st)):=λc=>by
  show ag (st.t.get Q.rows) false _=true;refine aa hr ?_;show ah (szOk Q.lst) _ false=true;refine aa hz ?_;unfold uH;refine aa (show bF Q.lst=false by refine aa el ?_;exact yJ _ ..) (aa hl ?_);show ah (gW (.ofNat Q.ids.length) iZ) false _=true;have e0:gW (.ofNat Q.ids.length) iZ=false:=by
   cases q:gW (.ofNat Q.ids.length) iZ with
   |false=>rfl
   |true=>
    have:((Q.ids.length):Int)<=0:=(aY _ _).mp q;simp_all
  refine aa e0 ?_;show GO (.ref (.d Q.rows)) (.int (fq c (.ofNat Q.ids.length))) st _;obtain⟨i,hi,e⟩:∃i:Nat,i<Q.ids.length/\fq c (.ofNat Q.ids.length)=.ofNat i:=by
   refine aa (du ..) ?_;have a:=Int.fmod_nonneg_of_pos c (Int.ofNat_lt.mpr hpos);have b:=Int.fmod_lt_of_pos c (Int.ofNat_lt.mpr hpos);exact⟨(Int.fmod c (Q.ids.length)).toNat,by simp_all,by show Int.fmod c (Q.ids.length)=(((Int.fmod c (Q.ids.length)).toNat));omega⟩
  refine aa e ?_;show ag (st.t.get Q.rows) false _=true;refine aa hr ?_;show ah (Nat.ble i 4000) (at_ Q.lst i _) false=true;refine aa (Nat.ble_eq_true_of_le (by lia) ..) (aa el ?_);exact aa (EA _ _ hi ..) (h _ (List.getElem_mem hi))
 have:j=0\/j=1\/j=2\/j=3:=by lia
 rcases this with rfl |rfl |rfl |rfl
 ·exact@dX _ (Classical.propDecidable _) ⟨1,rfl,aQ rfl,main⟩
 ·exact@dX _ (Classical.propDecidable _) ⟨3,rfl,aQ rfl,main⟩
 ·exact@dX _ (Classical.propDecidable _) ⟨5,rfl,aQ rfl,main⟩
 ·exact@dX _ (Classical.propDecidable _) ⟨7,rfl,aQ rfl,main⟩
theorem Gs {st:St} {j:Nat} (hj:j<=3) {k:KF} (h:∀c:Int,k .next [.ref (.g .h),v1,v2,.int (.ofNat j),v4,.int c,v6,v7,v8,v9,v10] st=true):
  It [.ref (.g .h),v1,v2,.int (.ofNat j),v4,v5,v6,v7,v8,v9,v10] st k kE=true:=by
 have:j=0\/j=1\/j=2\/j=3:=by lia
 rcases this with rfl |rfl |rfl |rfl
 ·exact@dX _ (Classical.propDecidable _) ⟨2,rfl,aQ rfl,h⟩
 ·exact@dX _ (Classical.propDecidable _) ⟨4,rfl,aQ rfl,h⟩
 ·exact@dX _ (Classical.propDecidable _) ⟨6,rfl,aQ rfl,h⟩
 ·exact@dX _ (Classical.propDecidable _) ⟨8,rfl,aQ rfl,h⟩
end
section
def pg (p:Pz):AI:=@Pz.rec (λ_=>AI) (.g .h) (λp _=>.d (.o p)) (λp _=>.d (.e p)) p
theorem pd:∀p,kK p->pg p=.d p
 |.h,h=>ao h
 |.o _,_=>rfl
 |.e _,_=>rfl
theorem Dx:∀p q,pg p=pg q->p=q
 |.h,.h,_=>rfl
 |.h,.o _,h=>by cases h
 |.h,.e _,h=>by cases h
 |.o _,.h,h=>by cases h
 |.o _,.o _,h=>by cases h;rfl
 |.o _,.e _,h=>by cases h
 |.e _,.h,h=>by cases h
 |.e _,.o _,h=>by cases h
 |.e _,.e _,h=>by cases h;rfl
theorem jM:im aV cZ:=⟨cg (ay Oz).1,aW (ay Oz).2⟩
section
variable{Z:Zt} {P:Params} {X:Fx} {Q0 Q1 Q2:tG}
theorem i0.no (h:i0 Z X ν (λ_=>false) x s):False:=by
 refine kN h λ_ zz0=>?_;refine ak zz0 λ_ _ _ _ z=>?_;exact ao z
theorem TU {vs:Vs} (h:vs.length=n+1):E2 λv r=>vs=v::r/\r.length=n:=by
 cases vs with
 |nil=>exact absurd h (Nat.succ_ne_zero _).symm
 |cons v r=>exact⟨v,r,rfl,Nat.succ.inj h⟩
theorem IX {vs:Vs} (h:vs.length=11):∃v0,∃v1,∃v2,∃v3,∃v4,∃v5,∃v6,∃v7,∃v8,∃v9,∃v10,vs=[v0,v1,v2,v3,v4,v5,v6,v7,v8,v9,v10]:=by
 have:=hJ .unset vs;rw[h]at this;exact⟨_,_,_,_,_,_,_,_,_,_,_,this⟩
theorem Dk {st:St} {r:Vs} (h:mE Q (v0::v1::v2::v3::r) st):v0=.ref (.g .h)/\v1=.ref (.d Q.rows)/\v2=.ref (.d Q.ts)/\(∃j:Nat,j<=3/\v3=.int (.ofNat j))/\st.t.get Q.rows=some (.list Q.lst)/\Dw Q.t st.t:=by
 refine ax h λh h0=>?_;refine ax h λh h1=>?_;refine ax h λh h2=>?_;refine ax h λh h3=>?_;refine kN (eU h) λh4 h5=>?_;refine⟨hW h0,hW h1,hW h2,GS h3,?_,h5⟩;cases q:st.t.get Q.rows with
 |none=>rw[q]at h4;exact ao h4
 |some o=>
  rw[q]at h4;refine aA (hH h4) λl ee1 h4=>?_;refine aa ee1 ?_;rw[MM h4]
theorem Hz {r:Vs} {st:St} (h:Mj Q fl (v0::v1::v2::r) st=true):fl=.next/\v0=.ref (.g .h)/\v1=.ref (.g Q.rows)/\v2=.ref (.g Q.ts):=by
 cases fl with
 |next=>
  exact ax h λh h0=>ax h λh2 h1=>⟨rfl,hW h0,hW h1,hW h2⟩
 |_=>exact ao h
def JG (P:Nat->V->Prop) (l:List V):Nat->Prop:=@List.rec V (λ_=>Nat->Prop) (λ_=>True) (λv _ i k=>P k v/\i (k+1)) l
theorem BL {P:Nat->V->Prop} {l:List V}:∀{k i:Nat} {v:V},JG P l k->l[i]?=some v->P (k+i) v:=by
 induction l with
 |nil=>intro k i v _ b;exact bd b
 |cons x r ih=>
  intro k i v h b;cases i with
  |zero=>exact gP b h.1
  |succ i=>exact bI (Nat.succ_add_eq_add_succ k i) (ih h.2 b)
@[elab_as_elim] theorem wp {P:Nat->V->Prop} {l:List V} {i:Nat} {v:V} (b:l[i]?=some v) (h:JG P l 0):P i v:=bI (Nat.zero_add i) (P:=λi=>P i v) (BL h b)
theorem Ie (O:jZ Z P) (hg:Z.g0=gH xs) (hx:xs.length<=63) (g0:io Q0) (g1:io Q1) (g2:io Q2):jt Z 20 aV cZ (Jw Q0 Q1 Q2) dW:=λX F G vs st m s k kE I y=>by
 refine hG λCC hCC=>?_;refine ax (show ah (to (mE Q0 vs st) (to (mE Q1 vs st) (mE Q2 vs st))) (k .next (cq (oM vs 3) (uD .unset 8)) st) false=true from y) λy q=>?_;refine aA (by
  rw[eR,eR,Bool.or_eq_true,Bool.or_eq_true]at q;rcases q with q |q |q
  ·exact⟨_,g0,q⟩
  ·exact⟨_,g1,q⟩
  ·exact⟨_,g2,q⟩:∃Q,io Q/\mE Q vs st=true) λQ hQ q=>?_
 refine lc (IX (kX I λ_ J=>J.len)) λv0 v1 v2 v3 v4 v5 v6 v7 v8 v9 v10 ee2=>?_;subst ee2;have y:k .next [v0,v1,v2,.unset,.unset,.unset,.unset,.unset,.unset,.unset,.unset] st=true:=y
 refine gQ (Dk q) λee3 ee4 ee5 zz6 hrows hfrz=>?_;subst ee3 ee4 ee5;obtain⟨j,hj,rfl⟩:=zz6;refine ax (show ah (ED Q.t Q.x) _ false=true from hQ.f) λhf p1=>?_;refine ax hf λhf p2=>?_;refine ax hf λhf p3=>?_;refine ax hf λhf p4=>?_;refine ax hf λhf p5=>?_;refine ax hf λhf p6=>?_;refine ax hf λhf p7=>?_;refine ax hf λp9 p8=>?_;have hne:Q.ids≠[]:=λz=>by rw[z]at p9;exact ao p9
 have noh:Q.t.get .h=none:=by
  cases q:Q.t.get .h with
  |none=>rfl
  |some o=>rw[q]at p4;exact ao p4
 have FA:E9 Z X 16 aV:=⟨F.toFxOk.less (by simp),F.same⟩;have C1:=(rD (vC O) (uL O hg hx) 40).st aV cZ jM;have hA:=C1 (dW.getD 0 (.Pass default));have hB:=C1 (dW.getD 1 (.Pass default));rw[OA]at hA;rw[OC]at hB;refine hCC ?_;rw[OH];refine wpAny_execs_cons (aq (hA X FA G _ st m s (λfl vs' st'=>@decide (∃p,A4 (p∈Q.ids) (fl=.next) (vs'=[.ref (.g .h),.ref (.d Q.rows),.ref (.d Q.ts),.int (.ofNat j),.ref (.d p),v5,v6,v7,v8,v9,v10]) (st'=st)) (Classical.propDecidable _)) (λ_=>false) I
  (F0 hrows p8 hne hj λp hp=>@dX _ (Classical.propDecidable _) ⟨p,hp,rfl,rfl,rfl⟩)) (λf1 s1 z=>?_) λ_ _ z=>z.no.elim)
 refine jN z λfl G1 rP st1 m1 R L1 y1 I1=>?_;refine GM (@cg _ (Classical.propDecidable _) y1) λp hp ee7 ee8 ee9=>?_;subst ee7 ee8 ee9;cases R;refine wpAny_execs_cons (aq (hB X FA G1 _ st1 m1 s1 (λfl vs' st'=>@decide (∃c:Int,fl=.next/\vs'=[.ref (.g .h),.ref (.d Q.rows),.ref (.d Q.ts),.int (.ofNat j),.ref (.d p),.int c,v6,v7,v8,v9,v10]/\st'=st1) (Classical.propDecidable _)) (λ_=>false) I1
  (Gs hj λc=>@dX _ (Classical.propDecidable _) ⟨c,rfl,rfl,rfl⟩)) (λf2 s2 z=>?_) λ_ _ z=>z.no.elim)
 refine jN z λfl G2 vs2 st2 m2 R L2 y2 I2=>?_;refine gD (@cg _ (Classical.propDecidable _) y2) λc ee10 ee11 ee12=>?_;subst ee10 ee11 ee12;cases R;refine kX I2 λtr I2=>?_;have hp':kK p=true:=by
  rw[bp]at p7;exact bO.mp p7 p hp
 have hO:∀q o,Q.t.get q=some o->E2 λa d=>G2.ρ (pg q)=some (a,d)/\OR (Z.re (cN c).T Q.t Q.x (cN c).n0) (cO X tr) (G2.re pg (cN c).n0) a d o:=λq o e=>by
  refine aA (pc hfrz e) λo' e' fo=>?_;have nq:kK q=true:=by
   cases q with
   |h=>rw[noh]at e;exact bd e
   |o q=>rfl
   |e q=>rfl
  refine aJ (I2.sto (.d q) o' e') λa d r yo=>?_;exact⟨a,d,by rw[pd q nq];exact r,OR.re pd fo yo⟩
 have rf:∀{q:Pz} {w:Value},kK q=true->VR Z.T Z.rg G2 (.ref (.d q)) w->VR (cN c).T Z.rg (G2.re pg (cN c).n0) (.ref (.g q)) w:=λ{q w} nq h=>by
  refine aJ h.ref_of λa d ee13 r=>?_;subst ee13;exact .ref _ a d (by show G2.ρ (pg q)=_;rw[pd q nq];exact r)
 have rh:∀{w:Value},VR Z.T Z.rg G2 (.ref (.g .h)) w->VR (cN c).T Z.rg (G2.re pg (cN c).n0) (.ref (.g .h)) w:=λ{w} h=>by
  refine aJ h.ref_of λa d ee14 r=>?_;subst ee14;exact .ref _ a d r
 have loc:=I2.loc;have J:=I2.roomZ (f:=pg) (T':=(cN c).T) (g:=Q.t) (x:=Q.x) (n0:=(cN c).n0) Dx hO (d:=HL) ⟨HN c,i8⟩ (sl':=cZ) (vs':=[.ref (.g .h),.ref (.g Q.rows),.ref (.g Q.ts),.unset,.ref (.g p),wQ,.unset,.unset,.unset,.unset,.unset]) rfl λi x v a b nv=>by
  revert nv a;revert x;refine wp b ?_;refine And.intro (λx a nv=>?_)<|And.intro (λx a nv=>?_)<|And.intro (λx a nv=>?_)<|And.intro (λ_ _ nv=>absurd rfl nv)<|And.intro (λx a nv=>?_)<|And.intro (λx a nv=>?_)<|And.intro (λ_ _ nv=>absurd rfl nv)<|And.intro (λ_ _ nv=>absurd rfl nv)<|And.intro (λ_ _ nv=>absurd rfl nv)<|And.intro (λ_ _ nv=>absurd rfl nv)<|And.intro (λ_ _ nv=>absurd rfl nv) trivial
  ·refine aA (loc 0 x _ a rfl (λz=>by cases z)) λw h1 h2=>?_;exact⟨w,h1,rh h2⟩
  ·refine aA (loc 1 x _ a rfl (λz=>by cases z)) λw h1 h2=>?_;exact⟨w,h1,rf p5 h2⟩
  ·refine aA (loc 2 x _ a rfl (λz=>by cases z)) λw h1 h2=>?_;exact⟨w,h1,rf p6 h2⟩
  ·refine aA (loc 4 x _ a rfl (λz=>by cases z)) λw h1 h2=>?_;exact⟨w,h1,rf hp' h2⟩
  ·refine aA (loc 5 x _ a rfl (λz=>by cases z)) λw h1 h2=>?_;refine kX h2.int_of λt ee15=>?_;subst ee15;exact⟨_,h1,Ae rfl t⟩
 have O':=O.re (cN c).T Q.t Q.x (cN c).n0;have S:Il (Z.re (cN c).T Q.t Q.x (cN c).n0):=FL O' (t:=cN c) rfl rfl p3 p1 p2;have hT:=gG ((rD (vC O') (CK O' S) 40).st aV cZ jM) (dW.drop 2);have F':E9 (Z.re (cN c).T Q.t Q.x (cN c).n0) (eE X (bv X tr s2.heap) .nil G2.H) 20 aV:=⟨F.toFxOk.reO _ _ _ _ _ _ _,F.same⟩;refine aq (hT _ F' (G2.re pg (cN c).n0) _ _ m2 s2 (Mj Q) (λ_=>false) ⟨tr,J⟩ (hQ.run p hp)) (λf3 s3 z=>?_) λ_ _ z=>z.no.elim;refine jN z λfl G3 vs3 st3 m3 R L3 y3 zz16=>?_;obtain⟨tr3,J3⟩:=zz16;refine lc (IX J3.len) λu0 u1 u2 u3 u4 u5 u6 u7 u8 u9 u10 ee17=>?_;subst ee17;refine jI (Hz y3) λee18 ee19 ee20 ee21=>?_;subst ee18 ee19 ee20 ee21;cases R;have same:∀{q:Pz} {v:V} {w w':Value},v=.ref (pg q)->VR Z.T Z.rg G2 v w->VR (cN c).T Z.rg G3 (.ref (.g q)) w'->VR Z.T Z.rg G2 v w':=λ{q v w w'} e h h'=>by
  subst e;refine aJ h.ref_of λa d ee22 r=>?_;subst ee22;refine aJ h'.ref_of λa' d' ee23 r'=>?_;subst ee23;have:=L3.ρ (.g q) (a,d) r;rw[this]at r';refine Gc r' ?_;exact .ref _ a d r
 obtain⟨tr4,_,I4⟩:=I2.backZ J3 (vs3:=[.ref (.g .h),.ref (.d Q.rows),.ref (.d Q.ts),.unset,.unset,.unset,.unset,.unset,.unset,.unset,.unset]) rfl λi x v a b nv=>by
  revert nv a;revert x;refine wp b ?_;refine And.intro (λx a nv=>?_)<|And.intro (λx a nv=>?_)<|And.intro (λx a nv=>?_)<|And.intro (λ_ _ nv=>absurd rfl nv)<|And.intro (λ_ _ nv=>absurd rfl nv)<|And.intro (λ_ _ nv=>absurd rfl nv)<|And.intro (λ_ _ nv=>absurd rfl nv)<|And.intro (λ_ _ nv=>absurd rfl nv)<|And.intro (λ_ _ nv=>absurd rfl nv)<|And.intro (λ_ _ nv=>absurd rfl nv)<|And.intro (λ_ _ nv=>absurd rfl nv) trivial
  ·refine aA (loc 0 x _ a rfl (λz=>by cases z)) λw h1 h2=>?_;refine aA (J3.loc 0 x _ a rfl (λz=>by cases z)) λw' h1' h2'=>?_;exact⟨w',h1',same (q:=.h) rfl h2 h2'⟩
  ·refine aA (loc 1 x _ a rfl (λz=>by cases z)) λw h1 h2=>?_;refine aA (J3.loc 1 x _ a rfl (λz=>by cases z)) λw' h1' h2'=>?_;exact⟨w',h1',same (by rw[pd _ p5]) h2 h2'⟩
  ·refine aA (loc 2 x _ a rfl (λz=>by cases z)) λw h1 h2=>?_;refine aA (J3.loc 2 x _ a rfl (λz=>by cases z)) λw' h1' h2'=>?_;exact⟨w',h1',same (by rw[pd _ p6]) h2 h2'⟩
 exact⟨.next,G2,_,_,m3,.next,L1.trans L2,y,tr4,I4⟩
end
end
section
def pz (n:Nat):Pz:=mN (λ_=>.h) (λ_ i n=>i6 n .h λm=>ah (Nat.beq (Nat.mod m 2) 0) (.e (i (Nat.div m 2))) (.o (i (Nat.div (Nat.sub m 1) 2)))) 12 n
noncomputable def UC:List (List Nat):=[112,115,117,98,119]::[120]::[120,109,49,50,56]::[114,101,103]::[114,109]::[109,111,118,113]::[120,109,54,52]::[112,111,114]::[112,99,109,112,101,113,100]::[120,111,114,112,115]::[112,97,100,100,119]::[109,111,118,97,112,115]::[114,109,54,52]::[112,97,110,100,110]::[112,115,117,98,113]::[109,111,118,117,112,115]::[109,111,118,115,100]::[111,114,112,115]::[109,111,118,100,113,117]::[112,97,100,100,113]::[109,111,118,115,115]::[120,109,51,50]::[109,111,118,100]::[114,109,51,50]::[109,111,118,100,113,97]::[112,99,109,112,101,113,98]::[97,110,100,112,115]::[112,97,100,100,100]::[112,97,110,100]::[112,115,117,98,100]::[112,115,117,98,98]::[112,120,111,114]::[112,99,109,112,101,113,119]::[112,97,100,100,98]::[112,99,109,112,103,116,119]::[112,109,117,108,108,119]::[112,115,117,98,115,98]::[112,97,99,107,117,115,119,98]::[112,117,110,112,99,107,104,98,119]::[112,115,104,117,102,100]::[117,105,109,109,56]::[105,109,109]::[112,115,108,108,100]::[112,109,97,100,100,119,100]::[112,117,110,112,99,107,108,98,119]::[112,109,105,110,115,119]::[112,115,114,108,113]::[109,111,118,110,116,105]::[109,54,52]::[114,54,52]::[112,97,100,100,115,98]::[109,111,118,104,112,100]::[112,117,110,112,99,107,104,100,113]::[112,115,104,117,102,104,119]::[109,111,118,104,112,115]::[112,115,117,98,117,115,98]::[109,111,118,108,112,100]::[112,109,117,108,104,117,119]::[109,111,118,108,112,115]::[112,109,105,110,117,98]::[112,115,114,108,119]::[109,111,118,110,116,100,113]::[109,49,50,56]::[112,97,100,100,117,115,98]::[112,97,118,103,98]::[112,117,110,112,99,107,108,100,113]::[112,115,114,97,100]::[112,115,97,100,98,119]::[112,117,110,112,99,107,108,119,100]::[112,109,97,120,115,119]::[112,115,114,97,119]::[112,97,100,100,115,119]::[112,117,110,112,99,107,104,119,100]::[112,115,104,117,102,108,119]::[112,115,108,108,113]::[112,99,109,112,103,116,100]::[112,115,117,98,115,119]::[112,97,99,107,115,115,100,119]::[112,109,117,108,104,119]::[109,111,118,110,116,112,115]::[112,99,109,112,103,116,98]::[112,97,100,100,117,115,119]::[112,97,99,107,115,115,119,98]::[112,97,118,103,119]::[112,117,110,112,99,107,108,113,100,113]::[112,115,108,108,119]::[112,115,117,98,117,115,119]::[112,109,117,108,117,100,113]::[112,109,97,120,117,98]::[112,115,114,108,100]::[109,51,50]::[114,51,50]::[112,117,110,112,99,107,104,113,100,113]::[117,99,111,109,105,115,115]::[100,105,118,115,100]::[97,110,100,112,100]::[109,117,108,112,100]::[99,118,116,112,100,50,112,115]::[97,100,100,115,100]::[109,97,120,112,100]::[99,109,112,115,100]::[109,105,110,112,100]::[115,104,117,102,112,115]::[117,110,112,99,107,104,112,115]::[115,113,114,116,112,100]::[99,118,116,112,115,50,100,113]::[115,117,98,115,100]::[115,117,98,112,100]::[99,118,116,115,100,50,115,115]::[109,97,120,115,100]::[109,117,108,115,100]::[99,109,112,112,100]::[120,111,114,112,100]::[99,111,109,105,115,115]::[117,110,112,99,107,108,112,115]::[115,113,114,116,115,100]::[100,105,118,112,100]::[109,111,118,97,112,100]::[109,111,118,117,112,100]::[109,105,110,115,100]::[97,110,100,110,112,115]::[97,100,100,112,100]::[97,100,100,112,115]::[109,105,110,115,115]::[115,104,117,102,112,100]::[117,110,112,99,107,104,112,100]::[115,113,114,116,115,115]::[100,105,118,112,115]::[99,118,116,116,112,115,50,100,113]::[115,117,98,112,115]::[99,118,116,115,115,50,115,100]::[109,97,120,115,115]::[109,117,108,115,115]::[99,109,112,112,115]::[111,114,112,100]::[117,99,111,109,105,115,100]::[100,105,118,115,115]::[109,117,108,112,115]::[99,118,116,112,115,50,112,100]::[97,110,100,110,112,100]::[97,100,100,115,115]::[109,97,120,112,115]::[99,109,112,115,115]::[109,105,110,112,115]::[99,111,109,105,115,100]::[117,110,112,99,107,108,112,100]::[115,113,114,116,112,115]::[99,118,116,100,113,50,112,115]::[115,117,98,115,115]::[]
def ww (n:Nat):List Nat:=bu (λ_=>[]) (λx _ i n=>i6 n x i) UC n
def R (n:Nat):V:=.ref (.g (pz n))
def ls (l:List Nat):O:=.list (aP R l)
def ke (a b:Nat) (p:Nat):V×V:=(.tup [.int (.ofNat a),.int (.ofNat 1),.int (.ofNat b)],R p)
noncomputable def nn (l r:Tr):Tr:=.node none l r
noncomputable def lf (o:O):Tr:=.node (some o) .nil .nil
def fo (n:Nat) (k:List V) (op dg sz mu:Int) (b:Bool) (po:Int) (fi:List V):O:=.inst 4 [(0,.str (ww n)),(1,.tup k),(2,.int op),(3,.int (.ofNat 1)),(4,.int dg),(5,.int sz),(6,.int mu),(7,.bool b),(8,.int po),(9,.tup fi)]
def tb (op:Nat) (a b c d:List Nat):Nat×List (Nat×List V):=(op,[(0,aP R a),(102,aP R b),(242,aP R c),(243,aP R d)])
def cf:List V:=[.str (ww 1),.str (ww 2)]
def bi:List V:=[.str (ww 3),.str (ww 4)]
def Ab:List V:=[.str (ww 1),.str (ww 6)]
def MX:List V:=[.str (ww 2),.str (ww 1)]
def rZ:List V:=[.str (ww 4),.str (ww 3)]
def UZ:List V:=[.str (ww 1),.str (ww 12)]
def B9:List V:=[.str (ww 1),.str (ww 21)]
def UY:List V:=[.str (ww 1),.str (ww 23)]
def TE:List V:=[.str (ww 6),.str (ww 1)]
def UX:List V:=[.str (ww 21),.str (ww 1)]
def RD:List V:=[.str (ww 23),.str (ww 1)]
def RC:List V:=[.str (ww 12),.str (ww 1)]
def wK:List V:=[.str (ww 1),.str (ww 2),.str (ww 40)]
def r9:List V:=[.str (ww 3),.str (ww 4),.str (ww 41)]
def RB:List V:=[.str (ww 48),.str (ww 49)]
def F8:List V:=[.str (ww 48),.str (ww 1)]
def NN:List V:=[.str (ww 62),.str (ww 1)]
def F7:List V:=[.str (ww 1),.str (ww 48)]
def RA:List V:=[.str (ww 90),.str (ww 91)]
def Rz:List V:=[.str (ww 1),.str (ww 6),.str (ww 40)]
def Ry:List V:=[.str (ww 1),.str (ww 21),.str (ww 40)]
def NG:Tr:=(nn (nn (nn (nn (nn (nn (nn (lf (ls [107])) (lf (ls [32,35]))) (nn (lf (ls [83])) (.node (some (.dict [(.str (ww 11),R 162),(.str (ww 15),R 169),(.str (ww 20),R 176),(.str (ww 16),R 183),(.str (ww 24),R 190),(.str (ww 18),R 197),(.str (ww 22),R 204),(.str (ww 5),R 211),(.str (ww 31),R 222),(.str (ww 7),R 226),(.str (ww 28),R 230),(.str (ww 13),R 234),(.str (ww 33),R 238),(.str (ww 10),R 242),(.str (ww 27),R 246),(.str (ww 19),R 250),(.str (ww 30),R 254),(.str (ww 0),R 258),(.str (ww 29),R 262),(.str (ww 14),R 266),(.str (ww 25),R 270),(.str (ww 32),R 274),(.str (ww 8),R 278),(.str (ww 9),R 282),(.str (ww 26),R 286),(.str (ww 17),R 290)])) .nil (lf (ls [149]))))) (nn (.node (some (fo 0 cf 249 (-1) 0 102 false 27 bi)) (lf (ls [95])) .nil) (nn .nil (nn .nil (lf (ls [128])))))) (nn (.node (some (fo 5 Ab 126 (-1) 0 243 false 14 bi)) (nn (lf (ls [101])) (lf (ls [19]))) (.node (some (fo 7 cf 235 (-1) 0 102 false 19 bi)) (lf (ls [54])) (nn .nil (lf (ls [134]))))) (nn (nn (lf (ls [89])) .nil) (nn .nil (.node (some (fo 8 cf 118 (-1) 0 102 false 32 bi)) .nil (lf (ls [113]))))))) (nn (nn (nn (nn (lf (ls [104])) (lf (ls [24]))) (nn .nil (nn .nil (lf (ls [146]))))) (nn (nn (lf (ls [92])) .nil) (nn .nil (nn .nil (lf (ls [116])))))) (nn (nn (nn (lf (ls [98])) .nil) (nn (lf (ls [51,63])) (.node (some (fo 9 cf 87 (-1) 0 0 false 33 bi)) .nil (lf (ls [131]))))) (nn (.node (some (fo 10 cf 253 (-1) 0 102 false 23 bi)) (lf (ls [86])) (.node (some (ls [1,4])) .nil (lf (ls [152])))) (nn .nil (nn .nil (lf (ls [110])))))))) (.node (some (fo 11 MX 41 (-1) 0 0 false 1 rZ)) (nn (nn (.node (some (fo 5 UZ 110 (-1) 64 102 false 16 bi)) .nil (.node (some (fo 13 cf 223 (-1) 0 102 false 21 bi)) .nil (.node (some (.inst 15 [(10,(R 157)),(11,(R 158)),(12,(R 159))])) .nil .nil))) (nn (nn .nil (lf (ls [8]))) (nn (lf (ls [48,51])) .nil))) (nn (nn (lf (fo 14 cf 251 (-1) 0 102 false 29 bi)) .nil) (nn .nil (nn (lf (ls [35])) .nil)))) (.node (some (fo 15 cf 16 (-1) 0 0 false 2 bi)) (.node (some (fo 16 Ab 16 (-1) 0 242 false 6 bi)) (nn .nil (nn .nil (lf (fo 17 cf 86 (-1) 0 0 false 35 bi)))) (.node (some (fo 18 cf 111 (-1) 0 243 false 10 bi)) (.node (some (fo 19 cf 212 (-1) 0 102 false 25 bi)) .nil (lf (ls [4]))) (nn (lf (ls [40])) .nil))) (.node (some (fo 20 B9 16 (-1) 0 243 false 4 bi)) (.node (some (fo 22 UY 110 (-1) 32 102 false 12 bi)) (nn .nil (lf (ls [16,19]))) .nil) (.node (some (fo 24 cf 111 (-1) 0 102 false 8 bi)) .nil (nn .nil (lf (fo 25 cf 116 (-1) 0 102 false 30 bi)))))))) (.node (some (fo 11 cf 40 (-1) 0 0 false 0 bi)) (nn (nn (nn (nn (nn (lf (ls [104])) (lf (ls [27]))) (nn .nil (.node (some (ls [1,4,8,11,16,19,24,27,32,35,40,43,48,51,54,57,60,63,83,86,89,92,95,98,101,104,107,110,113,116,128,131,134,146,149,152])) .nil (lf (ls [146]))))) (nn (nn (lf (ls [92])) .nil) (nn .nil (nn .nil (lf (ls [116])))))) (nn (nn (nn (lf (ls [98])) .nil) (nn .nil (.node (some (fo 26 cf 84 (-1) 0 0 false 34 bi)) .nil (lf (ls [131]))))) (nn (.node (some (fo 27 cf 254 (-1) 0 102 false 24 bi)) (lf (ls [86])) (.node (some (ls [1])) .nil (lf (ls [152])))) (nn (lf (ls [40,43])) (nn .nil (lf (ls [110]))))))) (nn (nn (.node (some (fo 5 TE 214 (-1) 0 102 false 15 rZ)) (nn (lf (ls [101])) .nil) (.node (some (fo 28 cf 219 (-1) 0 102 false 20 bi)) (lf (ls [57])) (nn .nil (lf (ls [134]))))) (nn (nn (lf (ls [89])) (lf (ls [8,11]))) (nn .nil (nn .nil (lf (ls [113])))))) (nn (nn (.node (some (fo 29 cf 250 (-1) 0 102 false 28 bi)) (lf (ls [95])) .nil) (nn .nil (nn .nil (lf (ls [128]))))) (nn (nn (lf (ls [83])) (nn .nil (lf (ls [149])))) (nn (lf (ls [32])) (nn .nil (lf (ls [107])))))))) (nn (.node (some (fo 15 MX 17 (-1) 0 0 false 3 rZ)) (.node (some (fo 16 TE 17 (-1) 0 242 false 7 rZ)) (nn .nil (nn .nil (lf (ls [1,4,8,11,16,19,24,27,32,35,40,43,48,51,54,57,60,63,83,86,89,92,95,98,101,104,107,110,113,116,128,131,134,146,149,152])))) (.node (some (fo 18 MX 127 (-1) 0 243 false 11 rZ)) (lf (fo 30 cf 248 (-1) 0 102 false 26 bi)) (nn (lf (ls [43])) .nil))) (.node (some (fo 20 UX 17 (-1) 0 243 false 5 rZ)) (.node (some (fo 22 RD 126 (-1) 32 102 false 13 rZ)) (nn .nil (lf (ls [16]))) (.node (some (fo 31 cf 239 (-1) 0 102 false 18 bi)) (lf (ls [54,57,60,63])) .nil)) (.node (some (fo 24 MX 127 (-1) 0 102 false 9 rZ)) .nil (nn .nil (lf (fo 32 cf 117 (-1) 0 102 false 31 bi)))))) (nn (nn (nn (nn .nil (lf (ls [24,27]))) .nil) .nil) (nn (nn (nn .nil (lf (ls [11]))) (nn (lf (ls [48,60])) .nil)) (nn (.node (some (fo 33 cf 252 (-1) 0 102 false 22 bi)) .nil (.node (some (.dict [ke 0 40 165,ke 0 41 168,ke 0 16 172,ke 0 17 175,ke 243 16 179,ke 243 17 182,ke 242 16 186,ke 242 17 189,ke 102 111 193,ke 102 127 196,ke 243 111 200,ke 243 127 203,ke 102 110 207,ke 102 126 210,ke 243 126 214,ke 102 214 217,ke 102 239 225,ke 102 235 229,ke 102 219 233,ke 102 223 237,ke 102 252 241,ke 102 253 245,ke 102 254 249,ke 102 212 253,ke 102 248 257,ke 102 249 261,ke 102 250 265,ke 102 251 269,ke 102 116 273,ke 102 117 277,ke 102 118 281,ke 0 87 285,ke 0 84 289,ke 0 86 293])) .nil .nil)) (lf (fo 5 RC 126 (-1) 64 102 false 17 rZ))))))))
def yx:List Pz:=aP pz [1,4,8,11,16,19,24,27,32,35,40,43,48,51,54,57,60,63,83,86,89,92,95,98,101,104,107,110,113,116,128,131,134,146,149,152]
def FU:List (Nat×List (Nat×List V)):=[(tb 40 [1] [] [] []),(tb 41 [4] [] [] []),(tb 16 [8] [] [24] [16]),(tb 17 [11] [] [27] [19]),(tb 111 [] [32] [] [40]),(tb 127 [] [35] [] [43]),(tb 110 [] [48,60] [] []),(tb 126 [] [51,63] [] [54]),(tb 214 [] [57] [] []),(tb 239 [] [83] [] []),(tb 235 [] [86] [] []),(tb 219 [] [89] [] []),(tb 223 [] [92] [] []),(tb 252 [] [95] [] []),(tb 253 [] [98] [] []),(tb 254 [] [101] [] []),(tb 212 [] [104] [] []),(tb 248 [] [107] [] []),(tb 249 [] [110] [] []),(tb 250 [] [113] [] []),(tb 251 [] [116] [] []),(tb 116 [] [128] [] []),(tb 117 [] [131] [] []),(tb 118 [] [134] [] []),(tb 87 [146] [] [] []),(tb 84 [149] [] [] []),(tb 86 [152] [] [] [])]
def Q0:tG:=⟨NG,pz 155,pz 156,yx,⟨.g (pz 156),FU,aP .g yx,[]⟩⟩
def NF:Tr:=(nn (nn (nn (.node (some (fo 34 cf 101 (-1) 0 102 false 1 bi)) (nn (nn .nil (lf (fo 35 cf 213 (-1) 0 102 false 15 bi))) (.node (some (fo 36 cf 232 (-1) 0 102 false 7 bi)) .nil (nn (.node (some (fo 37 cf 103 (-1) 0 102 false 40 bi)) (lf (ls [228])) .nil) (nn .nil (.node (some (.inst 15 [(10,(R 271)),(11,(R 272)),(12,(R 273))])) .nil .nil))))) (nn (nn (nn .nil (lf (fo 38 cf 104 (-1) 0 102 false 35 bi))) (nn (.node (some (fo 39 wK 112 (-1) 0 102 false 42 r9)) (lf (ls [241,244])) .nil) (lf (fo 42 cf 242 (-1) 0 102 false 29 bi)))) .nil)) (nn (nn .nil (nn (.node (some (fo 43 cf 245 (-1) 0 102 false 19 bi)) .nil (lf (fo 44 cf 96 (-1) 0 102 false 31 bi))) (.node (some (fo 45 cf 234 (-1) 0 102 false 13 bi)) .nil (.node (some (fo 46 cf 211 (-1) 0 102 false 25 bi)) .nil (lf (fo 47 RB 195 (-1) 64 0 false 56 rZ)))))) (nn (nn .nil (nn (nn (lf (ls [233])) .nil) .nil)) (lf (fo 50 cf 236 (-1) 0 102 false 3 bi))))) (nn (nn (nn (nn (nn (.node (some (fo 51 F8 23 (-1) 0 102 false 52 rZ)) .nil (lf (ls [141]))) (.node (some (fo 52 cf 106 (-1) 0 102 false 37 bi)) (lf (ls [214])) (lf (ls [55])))) (nn (.node (some (fo 53 wK 112 (-1) 0 243 false 44 r9)) (lf (ls [244])) (lf (ls [103]))) (nn (lf (ls [179])) (lf (ls [17]))))) (nn (nn (.node (some (fo 54 F8 23 (-1) 0 0 false 48 rZ)) (lf (ls [263,266])) (lf (ls [115]))) (nn (lf (ls [191])) (lf (ls [43])))) (nn (nn .nil (lf (ls [77]))) (nn (lf (ls [153])) .nil)))) (nn (.node (some (fo 55 cf 216 (-1) 0 102 false 9 bi)) (nn (.node (some (fo 56 F8 19 (-1) 0 102 false 50 rZ)) .nil (lf (ls [135]))) (nn (lf (ls [206])) (lf (ls [49])))) (nn (nn .nil (lf (ls [97]))) (nn (lf (ls [173])) (lf (ls [11]))))) (nn (.node (some (fo 57 cf 228 (-1) 0 102 false 17 bi)) (.node (some (fo 58 F8 19 (-1) 0 0 false 46 rZ)) (lf (ls [257])) (lf (ls [109]))) (nn (lf (ls [185])) (lf (ls [37])))) (.node (some (fo 59 cf 218 (-1) 0 102 false 11 bi)) (nn (lf (ls [220])) (lf (ls [71]))) (.node (some (fo 60 cf 209 (-1) 0 102 false 23 bi)) (lf (ls [147])) (lf (fo 61 NN 231 (-1) 0 102 false 54 rZ))))))) (nn (nn (nn (nn (nn .nil (lf (ls [138]))) (nn (lf (ls [209])) (lf (ls [52])))) (nn (nn .nil (lf (ls [100]))) (nn (lf (ls [176])) (lf (ls [14]))))) (.node (some (fo 63 cf 220 (-1) 0 102 false 5 bi)) (nn (nn (lf (ls [260])) (lf (ls [112]))) (nn (lf (ls [188])) (lf (ls [40])))) (nn (nn (lf (ls [225,228])) (lf (ls [74]))) (nn (lf (ls [150])) .nil)))) (nn (nn (.node (some (fo 64 cf 224 (-1) 0 102 false 21 bi)) (nn .nil (lf (ls [132]))) (.node (some (fo 65 cf 98 (-1) 0 102 false 33 bi)) (lf (ls [203])) (lf (ls [46])))) (nn (nn .nil (lf (ls [94]))) (.node (some (fo 66 cf 226 (-1) 0 102 false 27 bi)) (lf (ls [170])) (.node (some (.dict [(.str (ww 80),R 276),(.str (ww 34),R 280),(.str (ww 75),R 284),(.str (ww 50),R 288),(.str (ww 71),R 292),(.str (ww 63),R 296),(.str (ww 81),R 300),(.str (ww 36),R 304),(.str (ww 76),R 308),(.str (ww 55),R 312),(.str (ww 86),R 316),(.str (ww 59),R 320),(.str (ww 88),R 324),(.str (ww 45),R 328),(.str (ww 69),R 332),(.str (ww 35),R 336),(.str (ww 78),R 340),(.str (ww 57),R 344),(.str (ww 87),R 348),(.str (ww 43),R 352),(.str (ww 67),R 356),(.str (ww 64),R 360),(.str (ww 83),R 364),(.str (ww 60),R 368),(.str (ww 89),R 372),(.str (ww 46),R 376),(.str (ww 70),R 380),(.str (ww 66),R 384),(.str (ww 85),R 388),(.str (ww 42),R 392),(.str (ww 74),R 396),(.str (ww 44),R 400),(.str (ww 68),R 404),(.str (ww 65),R 408),(.str (ww 84),R 412),(.str (ww 38),R 416),(.str (ww 72),R 420),(.str (ww 52),R 424),(.str (ww 92),R 428),(.str (ww 82),R 432),(.str (ww 37),R 436),(.str (ww 77),R 440),(.str (ww 39),R 444),(.str (ww 73),R 448),(.str (ww 53),R 452),(.str (ww 58),R 456),(.str (ww 54),R 463),(.str (ww 56),R 470),(.str (ww 51),R 477),(.str (ww 79),R 484),(.str (ww 61),R 488),(.str (ww 47),R 492)])) .nil .nil)))) (nn (nn (nn (lf (ls [249])) (lf (ls [106]))) (nn (lf (ls [182])) (lf (ls [34])))) (nn (nn (lf (ls [217])) (lf (ls [68]))) (nn (lf (ls [144])) .nil))))))) (nn (nn (nn (nn (nn .nil (nn (nn (lf (ls [249,252])) .nil) .nil)) (nn (.node (some (fo 67 cf 246 (-1) 0 102 false 20 bi)) .nil (lf (fo 68 cf 97 (-1) 0 102 false 32 bi))) (.node (some (fo 69 cf 238 (-1) 0 102 false 14 bi)) .nil (.node (some (fo 70 cf 225 (-1) 0 102 false 26 bi)) .nil (lf (ls [11,14,17,34,37,40,43,46,49,52,55,68,71,74,77,94,97,100,103,106,109,112,115,132,135,138,141,144,147,150,153,170,173,176,179,182,185,188,191,203,206,209,214,217,220,225,228,233,236,241,244,249,252,257,260,263,266])))))) (nn (nn .nil (nn (nn (lf (ls [236])) .nil) .nil)) (lf (fo 71 cf 237 (-1) 0 102 false 4 bi)))) (nn (nn (nn (nn (lf (fo 51 F7 22 (-1) 0 102 false 51 bi)) (lf (fo 72 cf 105 (-1) 0 102 false 36 bi))) (nn (.node (some (fo 73 wK 112 (-1) 0 242 false 43 r9)) (lf (ls [241])) .nil) (lf (fo 74 cf 243 (-1) 0 102 false 30 bi)))) (nn (nn (lf (fo 54 F7 22 (-1) 0 0 false 47 bi)) .nil) .nil)) (.node (some (fo 75 cf 102 (-1) 0 102 false 2 bi)) (.node (some (fo 76 cf 233 (-1) 0 102 false 8 bi)) (nn (lf (fo 56 F7 18 (-1) 0 102 false 49 bi)) .nil) (nn (lf (fo 77 cf 107 (-1) 0 102 false 41 bi)) (nn .nil (.node (some (.dict [ke 102 100 279,ke 102 101 283,ke 102 102 287,ke 102 236 291,ke 102 237 295,ke 102 220 299,ke 102 221 303,ke 102 232 307,ke 102 233 311,ke 102 216 315,ke 102 217 319,ke 102 218 323,ke 102 222 327,ke 102 234 331,ke 102 238 335,ke 102 213 339,ke 102 229 343,ke 102 228 347,ke 102 244 351,ke 102 245 355,ke 102 246 359,ke 102 224 363,ke 102 227 367,ke 102 209 371,ke 102 210 375,ke 102 211 379,ke 102 225 383,ke 102 226 387,ke 102 241 391,ke 102 242 395,ke 102 243 399,ke 102 96 403,ke 102 97 407,ke 102 98 411,ke 102 108 415,ke 102 104 419,ke 102 105 423,ke 102 106 427,ke 102 109 431,ke 102 99 435,ke 102 103 439,ke 102 107 443,ke 102 112 447,ke 242 112 451,ke 243 112 455,ke 0 18 459,ke 0 19 462,ke 0 22 466,ke 0 23 469,ke 102 18 473,ke 102 19 476,ke 102 22 480,ke 102 23 483,ke 0 43 487,ke 102 231 491,ke 0 195 495])) .nil .nil)))) (nn (.node (some (fo 78 cf 229 (-1) 0 102 false 16 bi)) (lf (fo 58 F7 18 (-1) 0 0 false 45 bi)) .nil) (nn .nil (nn .nil (lf (fo 79 NN 43 (-1) 0 0 false 53 rZ)))))))) (nn (.node (some (fo 80 cf 100 (-1) 0 102 false 0 bi)) (nn (nn (nn (nn .nil (lf (ls [138]))) (nn (lf (ls [209])) (lf (ls [52])))) (nn (nn .nil (lf (ls [100]))) (nn (lf (ls [176])) (lf (ls [14]))))) (.node (some (fo 81 cf 221 (-1) 0 102 false 6 bi)) (nn (nn (lf (ls [260])) (lf (ls [112]))) (nn (lf (ls [188])) (lf (ls [40])))) (nn (.node (some (fo 82 cf 99 (-1) 0 102 false 39 bi)) (lf (ls [225])) (lf (ls [74]))) (nn (lf (ls [150])) .nil)))) (nn (nn (.node (some (fo 83 cf 227 (-1) 0 102 false 22 bi)) (nn .nil (lf (ls [132]))) (.node (some (fo 84 cf 108 (-1) 0 102 false 34 bi)) (lf (ls [203])) (lf (ls [46])))) (nn (nn .nil (lf (ls [94]))) (.node (some (fo 85 cf 241 (-1) 0 102 false 28 bi)) (lf (ls [170])) .nil))) (nn (nn (nn (lf (ls [252])) (lf (ls [106]))) (nn (lf (ls [182])) (lf (ls [34])))) (nn (nn (lf (ls [217])) (lf (ls [68]))) (nn (lf (ls [144])) .nil))))) (nn (nn (.node (some (fo 86 cf 217 (-1) 0 102 false 10 bi)) (nn (nn .nil (lf (ls [135]))) (nn (lf (ls [206])) (lf (ls [49])))) (nn (nn .nil (lf (ls [97]))) (nn (lf (ls [173])) (lf (ls [11]))))) (nn (.node (some (fo 87 cf 244 (-1) 0 102 false 18 bi)) (nn (lf (ls [257])) (lf (ls [109]))) (nn (lf (ls [185])) (lf (ls [37])))) (.node (some (fo 88 cf 222 (-1) 0 102 false 12 bi)) (nn (lf (ls [220])) (lf (ls [71]))) (.node (some (fo 89 cf 210 (-1) 0 102 false 24 bi)) (lf (ls [147])) (lf (fo 47 RA 195 (-1) 32 0 false 55 rZ)))))) (nn (nn (nn (nn (lf (ls [263,266])) (lf (ls [115]))) (nn (lf (ls [191])) (lf (ls [43])))) (nn (nn (lf (ls [233,236])) (lf (ls [77]))) (nn (lf (ls [153])) (lf (ls [11,14,17,34,37,40,43,46,49,52,55,68,71,74,77,94,97,100,103,106,109,112,115,132,135,138,141,144,147,150,153,170,173,176,179,182,185,188,191,203,206,209,214,217,220,225,228,233,236,241,244,249,252,257,260,263,266]))))) (nn (nn (nn .nil (lf (ls [103]))) (nn (lf (ls [179])) (lf (ls [17])))) (nn (.node (some (fo 92 cf 109 (-1) 0 102 false 38 bi)) (lf (ls [214])) (lf (ls [55]))) (nn (lf (ls [141])) .nil))))))))
def yw:List Pz:=aP pz [11,14,17,34,37,40,43,46,49,52,55,68,71,74,77,94,97,100,103,106,109,112,115,132,135,138,141,144,147,150,153,170,173,176,179,182,185,188,191,203,206,209,214,217,220,225,228,233,236,241,244,249,252,257,260,263,266]
def FT:List (Nat×List (Nat×List V)):=[(tb 100 [] [11] [] []),(tb 101 [] [14] [] []),(tb 102 [] [17] [] []),(tb 236 [] [34] [] []),(tb 237 [] [37] [] []),(tb 220 [] [40] [] []),(tb 221 [] [43] [] []),(tb 232 [] [46] [] []),(tb 233 [] [49] [] []),(tb 216 [] [52] [] []),(tb 217 [] [55] [] []),(tb 218 [] [68] [] []),(tb 222 [] [71] [] []),(tb 234 [] [74] [] []),(tb 238 [] [77] [] []),(tb 213 [] [94] [] []),(tb 229 [] [97] [] []),(tb 228 [] [100] [] []),(tb 244 [] [103] [] []),(tb 245 [] [106] [] []),(tb 246 [] [109] [] []),(tb 224 [] [112] [] []),(tb 227 [] [115] [] []),(tb 209 [] [132] [] []),(tb 210 [] [135] [] []),(tb 211 [] [138] [] []),(tb 225 [] [141] [] []),(tb 226 [] [144] [] []),(tb 241 [] [147] [] []),(tb 242 [] [150] [] []),(tb 243 [] [153] [] []),(tb 96 [] [170] [] []),(tb 97 [] [173] [] []),(tb 98 [] [176] [] []),(tb 108 [] [179] [] []),(tb 104 [] [182] [] []),(tb 105 [] [185] [] []),(tb 106 [] [188] [] []),(tb 109 [] [191] [] []),(tb 99 [] [203] [] []),(tb 103 [] [206] [] []),(tb 107 [] [209] [] []),(tb 112 [] [214] [217] [220]),(tb 18 [225] [241] [] []),(tb 19 [228] [244] [] []),(tb 22 [233] [249] [] []),(tb 23 [236] [252] [] []),(tb 43 [257] [] [] []),(tb 231 [] [260] [] []),(tb 195 [263,266] [] [] [])]
def Q1:tG:=⟨NF,pz 269,pz 270,yw,⟨.g (pz 270),FT,aP .g yw,[]⟩⟩
def NE:Tr:=(nn (nn (nn (nn (nn (nn (nn (.node (some (ls [24])) .nil (lf (ls [141]))) (.node (some (fo 93 B9 46 (-1) 0 0 false 45 bi)) .nil (lf (ls [80])))) (.node (some (fo 94 Ab 94 (-1) 0 242 false 23 bi)) (nn .nil (lf (ls [108]))) (.node (some (fo 95 cf 84 (-1) 0 102 false 38 bi)) .nil (lf (ls [52]))))) (.node (some (fo 96 cf 89 (-1) 0 102 false 9 bi)) (nn (nn .nil (lf (ls [122]))) (nn .nil (lf (ls [66])))) (nn (nn .nil (lf (ls [94]))) (nn (lf (ls [161])) (lf (ls [38])))))) (nn (nn (nn (.node (some (ls [18])) .nil (lf (ls [135]))) (nn .nil (lf (ls [74])))) (nn (.node (some (fo 97 cf 90 (-1) 0 102 false 52 bi)) .nil (lf (ls [102]))) (nn (lf (ls [168])) (lf (ls [46]))))) (.node (some (fo 98 Ab 88 (-1) 0 242 false 7 bi)) (.node (some (fo 99 cf 95 (-1) 0 102 false 25 bi)) (nn .nil (lf (ls [116]))) (nn .nil (lf (ls [60])))) (nn (nn .nil (lf (ls [88]))) (nn (lf (ls [147])) (lf (ls [32]))))))) (nn (nn (nn (.node (some (fo 100 Rz 194 (-1) 0 242 false 31 r9)) (.node (some (ls [21])) .nil (lf (ls [138]))) (nn .nil (lf (ls [77])))) (nn (nn .nil (lf (ls [105]))) (nn (lf (ls [176,179])) (lf (ls [49]))))) (nn (nn (.node (some (ls [15,18,21,24,29,32,35,38,43,46,49,52,57,60,63,66,71,74,77,80,85,88,91,94,99,102,105,108,113,116,119,122,132,135,138,141,144,147,158,161,164,168,171,176,179,190,193,196,199,202,205,211,214,217,220,223,226,229])) .nil (lf (ls [119]))) (nn .nil (lf (ls [63])))) (.node (some (fo 101 cf 93 (-1) 0 102 false 17 bi)) (.node (some (fo 102 wK 198 (-1) 0 0 false 49 r9)) .nil (lf (ls [91]))) (.node (some (fo 103 cf 21 (-1) 0 0 false 34 bi)) (lf (ls [158])) (lf (ls [35])))))) (.node (some (fo 104 cf 81 (-1) 0 102 false 1 bi)) (nn (nn (.node (some (ls [15])) .nil (lf (ls [132]))) (nn .nil (lf (ls [71])))) (nn (nn .nil (lf (ls [99]))) (nn (lf (ls [164])) (lf (ls [43]))))) (nn (nn (.node (some (fo 105 cf 91 (-1) 0 102 false 56 bi)) .nil (lf (ls [113]))) (nn .nil (lf (ls [57])))) (.node (some (fo 106 Ab 92 (-1) 0 242 false 15 bi)) (nn .nil (lf (ls [85]))) (nn (lf (ls [144])) (lf (ls [29])))))))) (nn (nn (nn (.node (some (fo 107 cf 92 (-1) 0 102 false 13 bi)) (nn .nil (nn (lf (ls [211])) .nil)) (nn (lf (fo 108 Ab 90 (-1) 0 242 false 54 bi)) .nil)) (nn (.node (some (fo 109 Ab 95 (-1) 0 242 false 27 bi)) (.node (some (.dict [ke 0 81 242,ke 102 81 246,ke 243 81 250,ke 242 81 254,ke 0 88 258,ke 102 88 262,ke 243 88 266,ke 242 88 270,ke 0 89 274,ke 102 89 278,ke 243 89 282,ke 242 89 286,ke 0 92 290,ke 102 92 294,ke 243 92 298,ke 242 92 302,ke 0 93 306,ke 102 93 310,ke 243 93 314,ke 242 93 318,ke 0 94 322,ke 102 94 326,ke 243 94 330,ke 242 94 334,ke 0 95 338,ke 102 95 342,ke 243 95 346,ke 242 95 350,ke 0 194 354,ke 102 194 358,ke 243 194 362,ke 242 194 366,ke 0 20 370,ke 102 20 374,ke 0 21 378,ke 102 21 382,ke 0 85 386,ke 102 85 390,ke 102 84 394,ke 102 86 398,ke 102 87 402,ke 102 40 406,ke 102 41 409,ke 102 16 413,ke 102 17 416,ke 0 46 420,ke 102 46 424,ke 0 47 428,ke 102 47 432,ke 0 198 436,ke 102 198 440,ke 0 90 444,ke 102 90 448,ke 243 90 452,ke 242 90 456,ke 0 91 460,ke 102 91 464,ke 243 91 468])) .nil .nil) (nn (lf (ls [196])) .nil)) (nn (nn (lf (ls [223])) .nil) .nil))) (nn (.node (some (fo 110 Ab 89 (-1) 0 242 false 11 bi)) (.node (some (fo 111 wK 194 (-1) 0 102 false 29 r9)) .nil (nn (lf (ls [202])) .nil)) (nn (nn (lf (ls [229])) .nil) .nil)) (nn (nn .nil (.node (some (fo 112 cf 87 (-1) 0 102 false 40 bi)) (lf (ls [190])) .nil)) (nn (.node (some (fo 113 B9 47 (-1) 0 0 false 47 bi)) (lf (ls [217])) .nil) (lf (fo 114 cf 20 (-1) 0 0 false 32 bi)))))) (nn (.node (some (fo 115 Ab 81 (-1) 0 242 false 3 bi)) (nn (nn .nil (nn (lf (ls [205])) .nil)) (lf (fo 116 cf 94 (-1) 0 102 false 21 bi))) (nn (nn (lf (ls [15,18,21,24,29,32,35,38,43,46,49,52,57,60,63,66,71,74,77,80,85,88,91,94,99,102,105,108,113,116,119,122,132,135,138,141,144,147,158,161,164,168,171,176,179,190,193,196,199,202,205,211,214,217,220,223,226,229])) (.node (some (fo 117 cf 40 (-1) 0 102 false 41 bi)) (lf (ls [193])) .nil)) (nn (nn (lf (ls [220])) .nil) .nil))) (nn (nn (nn .nil (.node (some (fo 118 cf 16 (-1) 0 102 false 43 bi)) (lf (ls [199])) .nil)) (.node (some (fo 119 Ab 93 (-1) 0 242 false 19 bi)) (nn (lf (ls [226])) .nil) (lf (fo 120 cf 85 (-1) 0 0 false 36 bi)))) (.node (some (fo 121 cf 88 (-1) 0 102 false 5 bi)) (nn .nil (nn (lf (ls [179])) .nil)) (nn (nn (lf (ls [214])) .nil) .nil)))))) (nn (nn (nn (.node (some (fo 122 cf 88 (-1) 0 0 false 4 bi)) (nn (nn .nil (nn (lf (ls [214])) .nil)) (nn .nil (nn (lf (ls [176])) .nil))) (nn (nn .nil (nn (lf (ls [199])) .nil)) (.node (some (fo 123 B9 93 (-1) 0 243 false 18 bi)) (.node (some (fo 124 wK 198 (-1) 0 102 false 50 r9)) (lf (ls [226])) .nil) (lf (fo 125 cf 21 (-1) 0 102 false 35 bi))))) (.node (some (fo 126 B9 81 (-1) 0 243 false 2 bi)) (nn (nn .nil (nn (lf (ls [205])) .nil)) (lf (fo 127 cf 94 (-1) 0 0 false 20 bi))) (nn (nn (lf (fo 128 cf 91 (-1) 0 243 false 57 bi)) (nn (lf (ls [193])) .nil)) (nn (nn (lf (ls [220])) .nil) .nil)))) (nn (nn (.node (some (fo 129 cf 92 (-1) 0 0 false 12 bi)) (nn .nil (nn (lf (ls [211])) .nil)) (nn (lf (fo 130 B9 90 (-1) 0 243 false 53 bi)) (nn (lf (ls [171])) .nil))) (nn (.node (some (fo 131 B9 95 (-1) 0 243 false 26 bi)) (.node (some (.inst 15 [(10,(R 234)),(11,(R 235)),(12,(R 236))])) .nil .nil) (nn (lf (ls [196])) .nil)) (nn (nn (lf (ls [223])) .nil) .nil))) (nn (.node (some (fo 132 B9 89 (-1) 0 243 false 10 bi)) (.node (some (fo 133 wK 194 (-1) 0 0 false 28 r9)) .nil (nn (lf (ls [202])) .nil)) (nn (nn (lf (ls [229])) .nil) .nil)) (nn (nn .nil (.node (some (fo 134 cf 86 (-1) 0 102 false 39 bi)) (lf (ls [190])) .nil)) (nn (.node (some (fo 135 Ab 46 (-1) 0 102 false 46 bi)) (lf (ls [217])) .nil) .nil))))) (nn (nn (nn (nn (nn (.node (some (ls [24])) .nil (lf (ls [141]))) (nn .nil (lf (ls [80])))) (.node (some (fo 136 B9 94 (-1) 0 243 false 22 bi)) (nn .nil (lf (ls [108]))) (nn .nil (lf (ls [52]))))) (.node (some (fo 137 cf 89 (-1) 0 0 false 8 bi)) (nn (.node (some (.dict [(.str (ww 146),R 239),(.str (ww 104),R 243),(.str (ww 126),R 247),(.str (ww 115),R 251),(.str (ww 122),R 255),(.str (ww 121),R 259),(.str (ww 140),R 263),(.str (ww 98),R 267),(.str (ww 137),R 271),(.str (ww 96),R 275),(.str (ww 132),R 279),(.str (ww 110),R 283),(.str (ww 129),R 287),(.str (ww 107),R 291),(.str (ww 148),R 295),(.str (ww 106),R 299),(.str (ww 143),R 303),(.str (ww 101),R 307),(.str (ww 123),R 311),(.str (ww 119),R 315),(.str (ww 127),R 319),(.str (ww 116),R 323),(.str (ww 136),R 327),(.str (ww 94),R 331),(.str (ww 141),R 335),(.str (ww 99),R 339),(.str (ww 131),R 343),(.str (ww 109),R 347),(.str (ww 133),R 351),(.str (ww 111),R 355),(.str (ww 142),R 359),(.str (ww 100),R 363),(.str (ww 114),R 367),(.str (ww 145),R 371),(.str (ww 103),R 375),(.str (ww 125),R 379),(.str (ww 120),R 383),(.str (ww 139),R 387),(.str (ww 95),R 391),(.str (ww 134),R 395),(.str (ww 112),R 399),(.str (ww 117),R 403),(.str (ww 118),R 410),(.str (ww 93),R 417),(.str (ww 135),R 421),(.str (ww 113),R 425),(.str (ww 144),R 429),(.str (ww 102),R 433),(.str (ww 124),R 437),(.str (ww 138),R 441),(.str (ww 97),R 445),(.str (ww 130),R 449),(.str (ww 108),R 453),(.str (ww 147),R 457),(.str (ww 105),R 461),(.str (ww 128),R 465)])) .nil (lf (ls [122]))) (.node (some (fo 117 MX 41 (-1) 0 102 false 42 rZ)) .nil (lf (ls [66])))) (nn (nn .nil (lf (ls [94]))) (nn (lf (ls [161])) (lf (ls [38])))))) (nn (nn (nn (.node (some (ls [18])) .nil (lf (ls [135]))) (.node (some (fo 118 MX 17 (-1) 0 102 false 44 rZ)) .nil (lf (ls [74])))) (nn (.node (some (fo 138 Ab 90 (-1) 0 0 false 51 bi)) .nil (lf (ls [102]))) (.node (some (fo 139 cf 85 (-1) 0 102 false 37 bi)) (lf (ls [168,171])) (lf (ls [46]))))) (.node (some (fo 140 B9 88 (-1) 0 243 false 6 bi)) (.node (some (fo 141 cf 95 (-1) 0 0 false 24 bi)) (nn .nil (lf (ls [116]))) (nn .nil (lf (ls [60])))) (nn (nn .nil (lf (ls [88]))) (nn (lf (ls [147])) (lf (ls [32]))))))) (nn (nn (nn (.node (some (fo 142 Ry 194 (-1) 0 243 false 30 r9)) (.node (some (ls [21])) .nil (lf (ls [138]))) (nn .nil (lf (ls [77])))) (nn (nn .nil (lf (ls [105]))) (nn .nil (lf (ls [49]))))) (nn (nn (nn .nil (lf (ls [119]))) (nn .nil (lf (ls [63])))) (.node (some (fo 143 cf 93 (-1) 0 0 false 16 bi)) (.node (some (fo 144 Ab 47 (-1) 0 102 false 48 bi)) .nil (lf (ls [91]))) (.node (some (fo 145 cf 20 (-1) 0 102 false 33 bi)) (lf (ls [158])) (lf (ls [35])))))) (.node (some (fo 146 cf 81 (-1) 0 0 false 0 bi)) (nn (nn (.node (some (ls [15])) .nil (lf (ls [132]))) (nn .nil (lf (ls [71])))) (nn (nn .nil (lf (ls [99]))) (nn (lf (ls [164])) (lf (ls [43]))))) (nn (nn (.node (some (fo 147 cf 91 (-1) 0 0 false 55 bi)) .nil (lf (ls [113]))) (nn .nil (lf (ls [57])))) (.node (some (fo 148 B9 92 (-1) 0 243 false 14 bi)) (nn .nil (lf (ls [85]))) (nn (lf (ls [144])) (lf (ls [29]))))))))))
def yu:List Pz:=aP pz [15,18,21,24,29,32,35,38,43,46,49,52,57,60,63,66,71,74,77,80,85,88,91,94,99,102,105,108,113,116,119,122,132,135,138,141,144,147,158,161,164,168,171,176,179,190,193,196,199,202,205,211,214,217,220,223,226,229]
def FS:List (Nat×List (Nat×List V)):=[(tb 81 [15] [18] [24] [21]),(tb 88 [29] [32] [38] [35]),(tb 89 [43] [46] [52] [49]),(tb 92 [57] [60] [66] [63]),(tb 93 [71] [74] [80] [77]),(tb 94 [85] [88] [94] [91]),(tb 95 [99] [102] [108] [105]),(tb 194 [113] [116] [122] [119]),(tb 20 [132] [135] [] []),(tb 21 [138] [141] [] []),(tb 85 [144] [147] [] []),(tb 84 [] [158] [] []),(tb 86 [] [161] [] []),(tb 87 [] [164] [] []),(tb 40 [] [168] [] []),(tb 41 [] [171] [] []),(tb 16 [] [176] [] []),(tb 17 [] [179] [] []),(tb 46 [190] [193] [] []),(tb 47 [196] [199] [] []),(tb 198 [202] [205] [] []),(tb 90 [211] [214] [220] [217]),(tb 91 [223] [226] [] [229])]
def Q2:tG:=⟨NE,pz 232,pz 233,yu,⟨.g (pz 233),FS,aP .g yu,[]⟩⟩
end
section
theorem RG:Hl Q0:=by kernel_rfl
theorem RF:Hl Q1:=by kernel_rfl
theorem RE:Hl Q2:=by kernel_rfl
def Bo:Ex:=gC (Tg.n 3) Nd (Jw Q0 Q1 Q2)
def Iu:Ex:=ac Bn (ac Bm (ac Bo (au (eK (.bool true)))))
def Mi:KF:=λfl _ _=>ph fl false false λv=>Fh v (.bool true)
def st1 (g:Tr):St:=⟨.nil,.e .h,[],[],g,vm,.nil⟩
noncomputable def rP:Vs:=[.ref (.g .h),.unset,.unset,.unset,.unset,.unset,.unset,.unset,.unset,.unset,.unset]
def sM (g:Tr) (c:Int):Bool:=dy ku [.int c] [] (st1 g) (λx st=>iJ (Tg.n 1) x rP st λvs st=>QH (λvs st k e=>(ac Bm (ac Bo (au (eK (.bool true))))) vs st k e) Mi (λ_=>false) .next vs st) (λ_=>false)
theorem NM (g:Tr):sM g (.ofNat 0):=by kernel_rfl
theorem NL (g:Tr):sM g (.ofNat 1):=by kernel_rfl
theorem NK (g:Tr):sM g (.ofNat 2):=by kernel_rfl
theorem FZ (g:Tr):Iu rP (st1 g) Mi (λ_=>false)=true:=by
 refine@dX _ (Classical.propDecidable _) ⟨0,rfl,by exact Nat.zero_le 8,λc=>?_⟩;show sM g (fq c (.ofNat 3));have a:=Int.fmod_nonneg_of_pos c (b:=3) (by simp);have b:=Int.fmod_lt_of_pos c (b:=3) (by simp);have e:fq c (.ofNat 3)=.ofNat 0\/fq c (.ofNat 3)=.ofNat 1\/fq c (.ofNat 3)=.ofNat 2:=by
  rw[du];show Int.fmod c 3=0\/Int.fmod c 3=1\/Int.fmod c 3=2;lia
 rcases e with e |e |e<;>rw[e]
 ·exact NM g
 ·exact NL g
 ·exact NK g
end
section
theorem Oh:dR.body=GE:=by kernel_rfl
theorem hV:dR.scope=aV:=by kernel_rfl
theorem CI:dR.params.defaults=[]:=by kernel_rfl
theorem CJ (pm cd doc kV v:Value):bindArgs {docDef dR.name dR.params dR.body dR.scope pm cd doc with defaults:=.none,kwdefaults:=kV} ⟨[v],[]⟩=(pure [(("script":Str),v)]:Sem (List (Str×Value))):=by kernel_rfl
def CM:Bool:=(aV.names.all λx=>!(x.2==.cell))&&(cZ.all λx=>bZ aV x .local)&& !aV.isCoroutine&& !aV.isGenerator
theorem jA:CM:=by kernel_rfl
section
variable{Z:Zt} {n n':Nat} {sc:Scope} {sl:List Str}
theorem ca.up2 (h:ca Z n sc sl x b) (hn:n<=n'):ca Z n' sc sl x b:=λX F=>h X ⟨F.toFxOk.less hn,F.same⟩
theorem av.up2 (h:av Z n sc sl x b) (hn:n<=n'):av Z n' sc sl x b:=λX F=>h X (F.less hn)
theorem Lp (O:jZ Z P) (hg:Z.g0=gH xs) (hx:xs.length<=63) (g0:io Q0) (g1:io Q1) (g2:io Q2):jt Z 20 aV cZ Iu GE:=by
 have C:=rD (vC O) (uL O hg hx) 40;exact iP (wd jM.1 Sn) λa1 a2 _=>aa Lu (m7 ((C.st aV cZ jM (lZ 0)).up2 (n':=20) (by simp)) (m7 ((C.st aV cZ jM (lZ 1)).up2 (n':=20) (by simp)) (m7 (yl a2 a1 ((C.ex aV cZ jM ze).up2 (n':=20) (by simp)) (Ie O hg hx g0 g1 g2) λenv x=>n6 Sr env x) (yj ((C.st aV cZ jM (lZ 3)).up2 (n':=20) (by simp))))))
end
theorem Dc (h:WShape.has [] d (.list .int)):∃ds,d=.list ds/\WShape.hasItems [] ds .int:=by
 cases d with
 |list ds=>
  refine⟨ds,rfl,?_⟩;have h:(WShape.hasItems [] ds .int||false):=h
  rwa [Bool.or_false]at h
 |_=>exact absurd (show false from h) (by simp)
theorem Hb (h:WShape.has [] d .int):∃i,d=.int i:=by
 cases d with
 |int i=>exact⟨i,rfl⟩
 |_=>exact absurd (show false from h) (by simp)
theorem Dd:∀{ds:List WData},WShape.hasItems [] ds .int->∃xs:List Int,ds=xs.map .int:=by
 intro l0
 induction l0 with
 |nil=>
  intro h;exact⟨[],rfl⟩
 |cons d ds ih=>
  intro h;refine bB h λh2 h1=>?_;obtain⟨i,rfl⟩:=Hb h1;obtain⟨xs,rfl⟩:=ih h2;exact⟨i::xs,rfl⟩
theorem GD {args:List WData} (h:d5.claim.pre args):∃xs:List Int,args=[.list (xs.map .int)]/\xs.length<=63:=by
 refine bB (show(WShape.hasAll [] args [.list .int]&&d5.pre.holds [] {args:=args}) from h) λh2 h1=>?_
 match args,h1,h2 with
 |[],h1,_=>exact absurd (show false from h1) (by decide)
 |[d],h1,h2=>
  obtain⟨h1,_⟩:=ay h1;refine aA (Dc h1) λds e5 h3=>?_;subst e5;obtain⟨xs,rfl⟩:=Dd h3;refine⟨xs,rfl,?_⟩;have e:d5.pre.holds [] {args:=[.list (xs.map .int)]}=(match (match (some (WData.bool (!(decide ((63:Int)<((xs.map WData.int).length))))))with |some (.bool false)=>some (WData.bool false) |some (.bool true)=>some (.bool true) |_=>none)with |some (.bool true)=>true |_=>false):=rfl;rw[e]at h2
  by_cases z:(63:Int)<((xs.map WData.int).length)
  ·rw[dX z]at h2;exact absurd (show false from h2) (by decide)
  ·rw[List.length_map]at z;omega
 |_::_::_,h1,_=>
  exact bB h1 λh1 _=>absurd (show false from h1) (by decide)
theorem CH (args ds:List WData):d5.claim.post args (.bool true) ds:=by kernel_rfl
theorem zN {xs:List Int} {vs:List Value} (H:WellAll P h vs (xs.map .int)) (T rg G):SR T rg G (xs.map V.int) vs:=by
 induction xs generalizing vs with
 |nil=>cases H;exact .nil
 |cons x xs ih=>
  cases H with
  |cons a b=>
   cases a with
   |int _ t=>exact .cons _ _ _ _ (.int x t) (ih b)
theorem zM (H:WellAll P h vals [.list ds]):E2 λa0 vs0=>A3 (vals=[.ref a0]) (h.get? a0=some (hM vs0 0)) (WellAll P h vs0 ds):=by
 cases H with
 |cons h1 h2=>
  cases h2;cases h1 with
  |list h h'=>exact⟨_,_,rfl,h,h'⟩
theorem oV (h:x∈cZ):aV.names.lookup x=some .local:=by
 exact bB jA λ_ h1=>bB h1 λ_ h1=>bB h1 λh2 _=>bD (bO.mp h2 x h)
theorem Og (g0:io Q0) (g1:io Q1) (g2:io Q2):WalkO qv iB (λ_ _=>True) (InK aI) d5 dR [] λf vs=>PySem.call f vs:=by
 intro w s₀ s₁ mg mb GG hK a o pm cd doc dV kV ho hdata hcode hd hn hgens args vals as hpre _ _ hwell _;obtain⟨xs,rfl,hx⟩:=GD hpre;obtain⟨a0,vs0,rfl,hl,hws⟩:=zM hwell;have hdV:dV=.none:=by
  rcases hd.pos with⟨_,h⟩ |⟨h,_⟩
  ·exact h
  ·exact absurd CI h
 subst hdV;have K:(aI w.params).In s₁.heap:=hK
 let Z:Zt:={prog:=d5.prog,w:=w,K:=aI w.params,s₀:=s₁,T:=⟨λ_=>[],λ_=>[]⟩,rg:=555,cls:=kr,p:=qv,loose:=looseW qv iB,mg:=mg,mb:=mb,g0:=gH xs,x0:=vm,n0:=[]}
 have O:jZ Z w.params:=⟨rfl,rfl,rfl⟩;have TR:TopRead Z.p Z.loose Z.mg Z.mb s₁.heap:=topRead_of GG.T;refine enter_call ?_;refine codeAny_call_def (fd:={docDef dR.name dR.params dR.body dR.scope pm cd doc with defaults:=.none,kwdefaults:=kV}) (body:=dR.body) (binds:=[(("script":Str),Value.ref a0)]) (by decide) ho hdata TR.nolimit hcode rfl (BindsTo.of_eq (CJ pm cd doc kV _)) (λx hx=>?_) (λx hx=>?_) (λh₁ hns hk=>?_) ?_ ?_ ?_
 ·have hx:x∈aV.names:=by exact bI hV (hx)
  obtain⟨h1,_⟩:=ay (show(((aV.names.all λx=>!(x.2==.cell))&&(cZ.all λx=>bZ aV x .local)&& !aV.isCoroutine)&& !aV.isGenerator) from jA);obtain⟨h1,_⟩:=ay h1;refine bB h1 λ_ h1=>?_;intro z;have:=bO.mp h1 x hx;rw[z]at this;exact ao this
 ·have:x=(("script":Str),Value.ref a0):=by simpa using hx
  subst this;exact oV (aL ..)
 ·generalize hfd:({docDef dR.name dR.params dR.body dR.scope pm cd doc with defaults:=.none,kwdefaults:=kV}:FuncData)=fd;have e1:fd.scope=aV:=by exact bI hfd (hV)
  have e2:fd.globals=mainGlobals:=by refine bI hfd ?_;rfl
  have e3:fd.builtins=builtinsNs:=by refine bI hfd ?_;rfl
  let L:=s₁.heap.objs.size
  let env:=callEnv fd L a
  let X:Fx:={base:=s₁.heap,xb:={},fl0:=.nil,h0:=λ_=>none,L:=L,fL:=L,env:=env,fenv:=env,A:=callerA.deeper env,outs:=[],outE:=[],held:=[]}
  have F:E9 Z X 20 aV:=by
   refine⟨⟨K,TR,rfl,rfl,?_,?_,rfl,rfl,?_,e1,jM.2,e2,e3,λe he=>(by cases he),λe he=>⟨L,?_,.inl rfl⟩⟩,rfl⟩
   ·show 301+1+2*20+20<600;simp
   ·show 4+3+40*20+200<cLine;decide
   ·show fd.scope.kind≠.module;refine aa e1 (aa jM.2 ?_);decide
   ·rcases bk.mp he with rfl |he
    ·rfl
    ·cases he
  let G:Gh:=⟨λi=>match i with |.g .h=>some (a0,a0) |_=>none,[],λ_=>none⟩
  have noD:∀i a d,G.ρ i=some (a,d)->i=.g .h/\a=a0/\d=a0:=λi a d h=>by
   cases i with
   |d p=>exact bd h
   |g p=>cases p with
    |h=>refine Gc h ?_;exact⟨rfl,rfl,rfl⟩
    |_=>exact bd h
  have I:ap Z X cZ G rP (st1 (gH xs)) (λx=>[(("script":Str),Value.ref a0)].reverse.lookup x) {s₁ with heap:=h₁,toks:=s₁.toks+1} []:=by
   refine⟨rfl,⟨hns,hk,c8 _⟩,λp hp=>(by cases hp),.nil,λi x v b c nv=>?_,rfl,λp hp=>(by cases hp),λi ob h=>?_,λp ob h=>(by exact bd h),λb ob h=>(by exact bd h),⟨λ_=>.id (.g .h),λi b d h=>?_,λb ob h=>(by exact bd h),λp hp=>(by cases hp),λp hp=>(by cases hp)⟩,λi b d h=>?_,λp hp=>(by cases hp),λp _=>rfl,⟨Dm.nil,i8⟩,⟨λb ob h=>?_,?_,λp hp=>(by cases hp),λp ob h=>(by exact bd h),rfl,rfl,rfl,λb ob h=>(by exact bd h),dN _⟩⟩
   ·revert nv b;revert x;refine wp c ?_;refine And.intro (λx b nv=>?_)<|And.intro (λ_ _ nv=>absurd rfl nv)<|And.intro (λ_ _ nv=>absurd rfl nv)<|And.intro (λ_ _ nv=>absurd rfl nv)<|And.intro (λ_ _ nv=>absurd rfl nv)<|And.intro (λ_ _ nv=>absurd rfl nv)<|And.intro (λ_ _ nv=>absurd rfl nv)<|And.intro (λ_ _ nv=>absurd rfl nv)<|And.intro (λ_ _ nv=>absurd rfl nv)<|And.intro (λ_ _ nv=>absurd rfl nv)<|And.intro (λ_ _ nv=>absurd rfl nv) trivial;refine gP b ?_;refine⟨.ref a0,.inl ⟨?_,rfl⟩,.ref _ a0 a0 rfl⟩;show fd.scope.names.lookup _=_;exact aa e1 (oV (aL ..))
   ·cases i with
    |d p=>exact bd h
    |g p=>cases p with
     |h=>refine gP h ?_;exact⟨a0,a0,rfl,rfl,vs0,0,.inr hl,zN hws _ _ _⟩
     |_=>exact bd h
   ·obtain⟨rfl,_⟩:=noD _ _ _ h;exact⟨rfl,rfl⟩
   ·obtain⟨_,rfl,rfl⟩:=noD _ _ _ h;exact⟨⟨_,.inr hl⟩,⟨_,.inr hl⟩⟩
   ·exact absurd (bW h) (Nat.not_lt_zero _)
   ·cases q:({}:Heap).get? L with
    |none=>exact q
    |some ob=>exact absurd (bW q) (Nat.not_lt_zero _)
  have run:=Lp (Z:=Z) O rfl hx g0 g1 g2 X F G rP (st1 (gH xs)) _ _ Mi (λ_=>false) ⟨[],I⟩ (FZ (gH xs));refine aq run (λf s' z=>?_) λ_ _ z=>z.no.elim;obtain⟨fl,G1,vs2,st2,m1,R,L1,y1,tr1,J⟩:=z
  induction R using Fi.casesOn with
  |next=>exact ao y1
  |cont=>exact ao y1
  |ret h=>
   have hv:=pF (show Fh _ (.bool true) from y1);subst hv;obtain rfl:_=Value.bool true:=h.inv;refine⟨.inl ⟨.bool true,.bool true,[],rfl,λ_=>rfl,.bool true,CH _ _,λ_=>⟨.nil,λb hb=>by cases hb⟩⟩,.of_keep J.fr.keep,?_,.of_eq ?_⟩
   ·rw[J.sh]
   ·exact aa J.sh (hgens)
 ·refine aa (show(docDef dR.name dR.params dR.body dR.scope pm cd doc).scope=aV from hV ..) ?_;obtain⟨h1,_⟩:=ay (show(((aV.names.all λx=>!(x.2==.cell))&&(cZ.all λx=>bZ aV x .local)&& !aV.isCoroutine)&& !aV.isGenerator) from jA);obtain⟨_,h2⟩:=ay h1;revert h2;cases aV.isCoroutine<;>simp
 ·refine aa (show(docDef dR.name dR.params dR.body dR.scope pm cd doc).scope=aV from hV ..) ?_;obtain⟨_,h2⟩:=ay (show(((aV.names.all λx=>!(x.2==.cell))&&(cZ.all λx=>bZ aV x .local)&& !aV.isCoroutine)&& !aV.isGenerator) from jA);revert h2;cases aV.isGenerator<;>simp
 ·exact(congrArg Scope.kind hV).trans jM.2
end
section
theorem dQ {Q:tG} {a:List Pz} (h:bj (bC Q) a=true):∀p∈a,bC Q p=true:=bO.mp (by rw[<-bp];exact h)
theorem c7 {Q:tG} {a b:List Pz} (h:∀p∈a,bC Q p=true) (g:∀p∈b,bC Q p=true):∀p∈a++b,bC Q p=true:=λp q=>(List.mem_append.mp q).elim (h p) (g p)
theorem Rx:bj (bC Q0) (aP pz [1,4,8,11,16,19,24,27])=true:=by kernel_rfl
theorem Rw:bj (bC Q0) (aP pz [32,35,40,43,48,51,54,57])=true:=by kernel_rfl
theorem Rv:bj (bC Q0) (aP pz [60,63,83,86,89,92,95,98])=true:=by kernel_rfl
theorem Ru:bj (bC Q0) (aP pz [101,104,107,110,113,116,128,131])=true:=by kernel_rfl
theorem Rt:bj (bC Q0) (aP pz [134,146,149,152])=true:=by kernel_rfl
theorem Rs:Q0.ids=aP pz [1,4,8,11,16,19,24,27]++(aP pz [32,35,40,43,48,51,54,57]++(aP pz [60,63,83,86,89,92,95,98]++(aP pz [101,104,107,110,113,116,128,131]++(aP pz [134,146,149,152])))):=by kernel_rfl
theorem Uf:io Q0:=⟨RG,by rw[Rs];exact(c7 (dQ Rx) (c7 (dQ Rw) (c7 (dQ Rv) (c7 (dQ Ru) (dQ Rt)))))⟩
theorem Rr:bj (bC Q1) (aP pz [11,14,17,34,37,40,43,46])=true:=by kernel_rfl
theorem Rq:bj (bC Q1) (aP pz [49,52,55,68,71,74,77,94])=true:=by kernel_rfl
theorem Rp:bj (bC Q1) (aP pz [97,100,103,106,109,112,115,132])=true:=by kernel_rfl
theorem Ro:bj (bC Q1) (aP pz [135,138,141,144,147,150,153,170])=true:=by kernel_rfl
theorem Rn:bj (bC Q1) (aP pz [173,176,179,182,185,188,191,203])=true:=by kernel_rfl
theorem Rm:bj (bC Q1) (aP pz [206,209,214,217,220,225,228,233])=true:=by kernel_rfl
theorem Rl:bj (bC Q1) (aP pz [236,241,244,249,252,257,260,263])=true:=by kernel_rfl
theorem Rk:bj (bC Q1) (aP pz [266])=true:=by kernel_rfl
theorem Rj:Q1.ids=aP pz [11,14,17,34,37,40,43,46]++(aP pz [49,52,55,68,71,74,77,94]++(aP pz [97,100,103,106,109,112,115,132]++(aP pz [135,138,141,144,147,150,153,170]++(aP pz [173,176,179,182,185,188,191,203]++(aP pz [206,209,214,217,220,225,228,233]++(aP pz [236,241,244,249,252,257,260,263]++(aP pz [266]))))))):=by kernel_rfl
theorem Ue:io Q1:=⟨RF,by rw[Rj];exact(c7 (dQ Rr) (c7 (dQ Rq) (c7 (dQ Rp) (c7 (dQ Ro) (c7 (dQ Rn) (c7 (dQ Rm) (c7 (dQ Rl) (dQ Rk))))))))⟩
theorem Ri:bj (bC Q2) (aP pz [15,18,21,24,29,32,35,38])=true:=by kernel_rfl
theorem Rh:bj (bC Q2) (aP pz [43,46,49,52,57,60,63,66])=true:=by kernel_rfl
theorem Rg:bj (bC Q2) (aP pz [71,74,77,80,85,88,91,94])=true:=by kernel_rfl
theorem Rf:bj (bC Q2) (aP pz [99,102,105,108,113,116,119,122])=true:=by kernel_rfl
theorem Re:bj (bC Q2) (aP pz [132,135,138,141,144,147,158,161])=true:=by kernel_rfl
theorem Rd:bj (bC Q2) (aP pz [164,168,171,176,179,190,193,196])=true:=by kernel_rfl
theorem Rc:bj (bC Q2) (aP pz [199,202,205,211,214,217,220,223])=true:=by kernel_rfl
theorem Rb:bj (bC Q2) (aP pz [226,229])=true:=by kernel_rfl
theorem Ra:Q2.ids=aP pz [15,18,21,24,29,32,35,38]++(aP pz [43,46,49,52,57,60,63,66]++(aP pz [71,74,77,80,85,88,91,94]++(aP pz [99,102,105,108,113,116,119,122]++(aP pz [132,135,138,141,144,147,158,161]++(aP pz [164,168,171,176,179,190,193,196]++(aP pz [199,202,205,211,214,217,220,223]++(aP pz [226,229]))))))):=by kernel_rfl
theorem Ud:io Q2:=⟨RE,by rw[Ra];exact(c7 (dQ Ri) (c7 (dQ Rh) (c7 (dQ Rg) (c7 (dQ Rf) (c7 (dQ Re) (c7 (dQ Rd) (c7 (dQ Rc) (dQ Rb))))))))⟩
end
end
end AX
theorem PySem.Challenge.cw_nn0078_01_holds : PySem.Challenge.rw_nn0078_01.Holds :=
 AX.Ff (AX.Og AX.Uf AX.Ue AX.Ud)
