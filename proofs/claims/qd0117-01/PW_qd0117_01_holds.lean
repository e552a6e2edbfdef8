import PyProof.Rows.All
import Wide.All
import OpenK.AllK
import Wide.FinOn
import PySem.Challenge.RW_qd0117_01
set_option Elab.async false
set_option maxRecDepth 100000
set_option maxHeartbeats 0
set_option linter.all false
set_option backward.match.sparseCases false
set_option genSizeOf false
set_option genInjectivity false
set_option genCtorIdx false
set_option tactic.hygienic false
open PySem PySem.W PySem.Calls PyProof.Rows
namespace Mine
def A0:=@Option.some.inj
def A1:=@Nat.le_trans
def A2:=@Heap.get?_push_of_some
def A3:=@List.not_mem_nil
def A4:=@List.mem_cons_self
def A5:=@List.mem_cons_of_mem
def A6:=@List.mem_cons
def A7:=@Nat.le_add_right
def A8:=@Bool.and_eq_true
def A9:=@wpAny_bind
def AA:=@List.size_toArray
def AB:=@decide_eq_true
def AC:=@wpAny_pure
def AD:=@Option.map_eq_some_iff
def AE:=@Nat.succ_le_succ
def AF:=@List.mem_singleton
def AG:=@Heap.lt_size
def AH:=@Heap.get?_push_size
def AI:=@decide_eq_false
def AJ:=@List.length_cons
def AK:=@List.lookup_cons
def AL:=@Nat.le_of_eq
def AM:=@List.length_map
def AN:=@List.getElem?_eq_getElem
def AO:=@Nat.lt_of_lt_of_le
def AP:=@Int.natCast_nonneg
def AQ:=@Int.lt_of_le_of_lt
def AR:=@Nat.lt_of_le_of_lt
def AS:=@List.map_cons
def AT:=@Nat.le_refl
def AU:=@Nat.lt_irrefl
def AV:=@Nat.le_succ
def AW:=@Nat.zero_le
def AX:=@List.length_append
def AY:=@Nat.ne_of_lt
def AZ:=@List.mem_append
def Aa:=@Int.ofNat_lt
def Ab:=@Int.ofNat_le
def Ac:=@beq_iff_eq
def Ad:=@Nat.add_le_add_left
def Ae:=@Nat.add_le_add_right
def Af:=@beq_self_eq_true
def Ag:=@List.mem_map
def Ah:=@Nat.mul_le_mul_left
def Ai:=@Heap.SameBut
theorem wk(h:a<=b)(e:Nat.ble b c=true):a<=c:=A1 h (Nat.le_of_ble_eq_true e)
theorem ml{a b c:Nat}(h:min b c<a)(n:b<c):b<a:=Nat.min_eq_left (Nat.le_of_lt n)▸h
theorem mr{a b c:Nat}(h:min b c<a)(n:¬b<c):c<a:=Nat.min_eq_right (Nat.le_of_not_lt n)▸h
theorem qr(h:0<c)(g:b<a):a-(b+c)<a-b:=Nat.sub_lt_sub_left g (Nat.lt_add_of_pos_right h)
theorem st(h:x<y)(g:a+y<=k):a+1+x<=k:=A1 (AL (Nat.succ_add_eq_add_succ a x)) (A1 (Ad h a) g)
theorem bu(h:a+m*(n+1)<=k)(g:j<=m):a+j+m*n<=k:=A1 (A1 (AL (Nat.add_assoc a j (m*n))) (Ad (A1 (Ae g _) (AL ((Nat.add_comm m _).trans (Nat.mul_succ m n).symm))) a)) h
theorem Nr{b c d:Nat}:min b c-min d c<=b-d:=Nat.sub_le_iff_le_add.2 ((Nat.le_total d c).elim (λh=>A1 (Nat.min_le_left _ _) ((Nat.min_eq_left h).symm▸Nat.sub_le_iff_le_add.1 (AT _))) λh=>(Nat.min_eq_right h).symm▸A1 (Nat.min_le_right _ _) (Nat.le_add_left _ _))
theorem Ny{a b c d:Nat}(h:¬d<=c):¬a<min b c-min d c:=λg=>Nat.not_lt_zero a (Nat.lt_of_lt_of_eq g (Nat.sub_eq_zero_of_le ((Nat.min_eq_right (Nat.le_of_not_le h)).symm▸Nat.min_le_right _ _)))
theorem m0(h:c-a+(c-b)<=0)(g:a≠b/\min a b<c):False:=Nat.not_le_of_gt g.2 (Nat.le_min.2 ⟨Nat.le_of_sub_eq_zero (Nat.le_zero.1 (A1 (A7 _ _) h)),Nat.le_of_sub_eq_zero (Nat.le_zero.1 (A1 (Nat.le_add_left _ _) h))⟩)
theorem MU(h:d+1=min c (b-a)):a<b:=Nat.lt_of_sub_pos (AO (Nat.succ_pos d) (A1 (AL h) (Nat.min_le_right _ _)))
theorem NY{a b c d:Nat}(h:c<d-b)(n:¬c<min d a-b):a<=b+c:=Nat.le_of_not_lt λg=>n (Nat.lt_sub_of_add_lt (Nat.lt_min.2 ⟨Nat.add_lt_of_lt_sub h,Nat.add_comm b c▸g⟩))
theorem mz(h:min (d-b) (c-b)=0)(n:¬d<=b):c<=b:=Nat.le_of_not_lt λg=>Nat.ne_of_gt (Nat.lt_min.2 ⟨Nat.sub_pos_of_lt (Nat.lt_of_not_le n),Nat.sub_pos_of_lt g⟩) h
theorem hb(h:a<256)(g:x<k):a+256*x<256*k:=AO (Nat.add_lt_add_right h _) (A1 (AL ((Nat.add_comm _ _).trans (Nat.mul_succ 256 x).symm)) (Ah 256 g))
theorem d2(h:a<=d+2*c)(g:d<=b+2):a<=b+2*(c+1):=A1 h (A1 (Ae g _) (AL ((Nat.add_assoc b 2 _).trans (congrArg (b+·) (Nat.add_comm 2 _)))))
theorem sn(h:b<a):a-b=a-(b+1)+1:=(Nat.succ_pred_eq_of_pos (Nat.sub_pos_of_lt h)).symm
noncomputable def vh:List b->Nat->Option b|[],_=>none|a::_,0=>some a|_::r,n+1=>vh r n
noncomputable def kT(i:Nat):Stmt:=(vh PySem.Challenge.pw_qd0117_01.main.body i).getD (.Pass ⟨0,0,0,0⟩)
noncomputable def kM(i j:Nat):Stmt:=match kT i with|.ClassDef _ _ _ b _ _ _ _ _ _ _=>(vh b j).getD (.Pass ⟨0,0,0,0⟩)|_=>.Pass ⟨0,0,0,0⟩
noncomputable abbrev kS(x:PySem.Str)(t:Nat):Value:=.str x t
noncomputable abbrev kI(i:Int)(t:Nat):Value:=.int i t
noncomputable abbrev kR(a:Nat):Value:=.ref a
noncomputable def Fe:Stmt->PySem.Str|.FunctionDef n _ _ _ _ _ _ _ _ _=>n|_=>Str.empty
noncomputable def At:Stmt->Arguments|.FunctionDef _ a _ _ _ _ _ _ _ _=>a|_=>{posonlyargs:=[],args:=[],vararg:=none,kwonlyargs:=[],kw_defaults:=[],kwarg:=none,defaults:=[]}
noncomputable def bz:Stmt->List Stmt|.FunctionDef _ _ b _ _ _ _ _ _ _=>b|_=>[]
noncomputable def cb:Stmt->Scope|.FunctionDef _ _ _ _ _ _ sc _ _ _=>sc|_=>{kind:=.module,names:=[],isGenerator:=false,isCoroutine:=false,more:=[]}
noncomputable def DQ(st:Stmt)(q:PySem.Str)(d p:Value)(c:Nat):FuncData:={name:=Fe st,qualname:=q,params:=At st,body:=.stmts (bz st),scope:=cb st,globals:=3,closure:=[],defaults:=d,kwdefaults:=.none,doc:=.none,pyModule:=p,annotations:=none,code:=.ref c,closureTuple:=.none,builtins:=0}
noncomputable def kF(st:Stmt)(q:PySem.Str)(d p:Value)(c:Nat):Obj:=⟨.type "function",none,.func (DQ st q d p c),#[]⟩
noncomputable def kC(vs:List Value):Obj:=⟨.type "code",none,.fields vs.toArray,#[]⟩
noncomputable def kb(n q:PySem.Str)(t:Nat)(l b:Int)(a u:Nat)(x y z:Value):Obj:=kC [.str n t,.str q (t+1),.str "/claim/cut.py" (t+2),.int l 0,.int b 0,.int 0 0,.int 0 0,.int 3 0,.ref a,.bool true,.int 181 0,.ref (a+1),.none,x,y,z,.int (.ofNat u) 0,.int l 0,.str "/claim/cut.py" (u+1)]
noncomputable def kc(n q:PySem.Str)(t:Nat)(l b:Int)(a u:Nat):Obj:=kb n q t l b a u (.ref (a+2)) (.ref (a+3)) (.ref (a+4))
noncomputable def kd(n q:PySem.Str)(t:Nat)(l b:Int)(a u:Nat):Obj:=kb n q t l b a u .none .none (.ref (a+2))
noncomputable def kQ(c:String)(vs:List Value)(n:Nat):Obj:=⟨.type c,none,.seq vs.toArray n,#[]⟩
noncomputable abbrev kN(x:PySem.Str)(t:Nat)(v:Value):PySem.Str×Nat×Value:=(x,t,v)
noncomputable def kE(P:Params)(e:PySem.Str×Nat×Value):DictEntry:=⟨PyData.keyHash P e.1,.str e.1 e.2.1,e.2.2⟩
noncomputable def kD(P:Params)(c:Value)(es:List (PySem.Str×Nat×Value))(n:Nat):Obj:=⟨c,none,.dict (es.map (kE P)).toArray n,#[]⟩
noncomputable def kK(c:Value)(a:List (Option Value))(name:PySem.Str)(b m:List Value)(ns:Nat)(q:PySem.Str)(s:List Value):Obj:=⟨c,none,.cls {name:=name,bases:=b,mro:=m,ns:=ns,qualname:=q,hasDict:=true,slotNames:=[],subclasses:=s,abstract:=false,collection:=none,hasDel:=false},a.toArray⟩
noncomputable def Je:List Nat:=[2,3,29,35,36,45,46,82,83,91,92,98,99,105,106,112,113,119,120,126,127,133,134,140,141,147,148,154,155,168,169,175,176,184,188,189,202,203,209,210,216,217,233,234,265,266,289,290,369,375,376,399,400,463,469,470,505,506,663,664,670,671,684,685,693,699,700,713,714,737,738,762,763,776,777,786,787,804,805,818,819,825,826,832,833,842,843,853,854,858,859,865,866,872,873,914,915,921,922,928,929,933,934,940,941,945,946,947,953,954,955,961,962,968,969,975,976,982,983,989,990,996,997,1003,1004,1010,1011,1017,1018,1024,1025,1031,1032,1045,1046,1052,1053,1062,1063,1073,1074,1080,1081,1087,1088,1089,1095,1096,1102,1103,1109,1110,1116,1117,1123,1124,1130,1131,1135,1136,1149,1150,1156,1157,1159,1160,1170,1171,1175,1176,1182,1183,1187,1188,1201,1202,1227,1228,1258,1259,1269,1270,1271,1277,1278,1284,1285,1291,1292,1296,1297,1303,1304,1308,1309,1313,1314,1320,1321,1325,1326]
noncomputable def FL(P:Params):List Obj:=[kD P Value.none [kN "type.__subclasses__.Exception.0" 230 (kI 46 0),kN "type.__subclasses__.Exception.n" 231 (kI 1 0)] 2,kD P (.type "dict") [kN "__name__" 165 (kS "law_qd0117_01" 1864),kN "__doc__" 166 Value.none,kN "__package__" 167 Value.none,kN "__loader__" 168 (.builtin "__main__.__loader__#opaque"),kN "__spec__" 169 Value.none,kN "__annotations__" 170 (kR 6),kN "__builtins__" 171 (kR 4),kN "__file__" 173 (kS "/claim/cut.py" 172),kN "__cached__" 174 Value.none,kN "_wall" 193 (kR 21),kN "MintError" 233 (kR 46),kN "OperandError" 249 (kR 59),kN "EncodeError" 265 (kR 71),kN "DecodeError" 281 (kR 83),kN "mask" 288 (kR 92),kN "wrap" 296 (kR 99),kN "signed" 305 (kR 106),kN "from_little" 315 (kR 113),kN "from_little_signed" 322 (kR 120),kN "CONDITIONS" 326 (kS "o no b ae e ne be a s ns p np l ge le g" 325),kN "LOCKED" 328 (kS "add adc and or sbb sub xor inc dec neg not xchg xadd cmpxchg bts btr btc" 327),kN "MOVED" 330 (kS "movsb movsw movsd movsq stosb stosw stosd stosq lodsb lodsw lodsd lodsq" 329),kN "COMPARED" 332 (kS "cmpsb cmpsw cmpsd cmpsq scasb scasw scasd scasq" 331),kN "condition_names" 338 (kR 127),kN "is_fixed" 345 (kR 134),kN "is_immediate" 352 (kR 141),kN "is_relative" 359 (kR 148),kN "takes_memory" 366 (kR 155),kN "kind_size" 373 (kR 162),kN "kind_width" 380 (kR 169),kN "slot_of" 387 (kR 176),kN "Form" 470 (kR 234),kN "can_lock" 477 (kR 245),kN "repeats" 484 (kR 252),kN "Operand" 536 (kR 290),kN "Reg" 575 (kR 325),kN "Imm" 617 (kR 359),kN "Rel" 667 (kR 400),kN "Mem" 743 (kR 453),kN "Instruction" 816 (kR 506),kN "NAMES_8" 820 (kS "al cl dl bl spl bpl sil dil" 819),kN "NAMES_16" 822 (kS "ax cx dx bx sp bp si di" 821),kN "NAMES_32" 824 (kS "eax ecx edx ebx esp ebp esi edi" 823),kN "NAMES_64" 826 (kS "rax rcx rdx rbx rsp rbp rsi rdi" 825),kN "HIGH_NAMES" 828 (kS "ah ch dh bh" 827),kN "Register" 898 (kR 562),kN "early_names" 905 (kR 573),kN "late_ending" 912 (kR 580),kN "gpr" 921 (kR 587),kN "high" 928 (kR 594),kN "xmm" 935 (kR 601),kN "rip" 941 (kR 608),kN "NO_INDEX" 945 (kI 4 944),kN "NO_BASE" 947 (kI 5 946),kN "WITH_SIB" 949 (kI 4 948),kN "FROM_RIP" 951 (kI 5 950),kN "unpack_three" 958 (kR 615),kN "unpack_modrm" 965 (kR 622),kN "unpack_sib" 972 (kR 629),kN "octet_at" 980 (kR 636),kN "disp_width_of" 989 (kR 643),kN "read_modrm" 1003 (kR 650),kN "memory_of" 1021 (kR 657),kN "FS" 1025 (kI 100 1024),kN "GS" 1027 (kI 101 1026),kN "DATA_prefixes" 1029 (kI 102 1028),kN "REPNE" 1031 (kI 242 1030),kN "REP" 1033 (kI 243 1032),kN "LOCK" 1035 (kI 240 1034),kN "rex_bits" 1042 (kR 664),kN "is_rex" 1049 (kR 671),kN "segment_octet" 1056 (kR 678),kN "sort_of" 1063 (kR 685),kN "Prefixes" 1140 (kR 738),kN "with_rex" 1148 (kR 749),kN "with_legacy" 1158 (kR 756),kN "read_prefixes" 1168 (kR 763),kN "MOST_OCTETS" 1172 (kI 15 1171),kN "ESCAPE" 1174 (kI 15 1173),kN "DATA_decoder" 1176 (kI 102 1175),kN "NOP" 1178 (kI 144 1177),kN "REGISTER" 1180 (kI 3 1179),kN "Decoded" 1222 (kR 787),kN "Frame" 1312 (kR 843),kN "fits_size" 1320 (kR 854),kN "fits_mod" 1326 (kR 859),kN "fits_nop" 1335 (kR 866),kN "picked" 1344 (kR 873),kN "register_at" 1353 (kR 880),kN "reg_operand" 1362 (kR 887),kN "rm_operand" 1373 (kR 894),kN "plus_operand" 1382 (kR 901),kN "fixed_operand" 1389 (kR 908),kN "field_at" 1399 (kR 915),kN "written_operand" 1408 (kR 922),kN "operands_of" 1422 (kR 929),kN "check_used" 1428 (kR 934),kN "prefix_word" 1438 (kR 941),kN "read_frame" 1444 (kR 946),kN "decode" 1459 (kR 954),kN "decode_or_none" 1469 (kR 962),kN "jump_forms" 1480 (kR 969),kN "call_forms" 1486 (kR 976),kN "loop_forms" 1492 (kR 983),kN "trap_forms" 1498 (kR 990),kN "carry_forms" 1504 (kR 997),kN "string_forms" 1513 (kR 1004),kN "nop_forms" 1519 (kR 1011),kN "flow_forms" 1526 (kR 1018),kN "condition_of" 1534 (kR 1025),kN "where_next" 1541 (kR 1032),kN "Row" 1592 (kR 1063),kN "distance_of" 1600 (kR 1074),kN "target_of" 1608 (kR 1081),kN "next_start" 1618 (kR 1088),kN "starts" 1629 (kR 1096),kN "resync" 1639 (kR 1103),kN "plain_rows" 1651 (kR 1110),kN "labels_of" 1662 (kR 1117),kN "references" 1673 (kR 1124),kN "way_behind" 1680 (kR 1131),kN "leaders" 1686 (kR 1136),kN "Block" 1726 (kR 1160),kN "follows_of" 1737 (kR 1171),kN "blocks" 1743 (kR 1176),kN "flow_from" 1759 (kR 1183),kN "codes_of" 1767 (kR 1188),kN "InstructionSet" 1863 (kR 1259),kN "_law_base" 1871 (kR 1270),kN "_law_pool" 1886 (kR 1271),kN "_law_plain" 1892 (kR 1278),kN "_law_pen" 1901 (kR 1285),kN "_law_take" 1910 (kR 1292),kN "_law_row" 1916 (kR 1297),kN "_law_starts" 1925 (kR 1304),kN "_law_leaders" 1931 (kR 1309),kN "_law_blocks" 1937 (kR 1314),kN "_law_reached" 1951 (kR 1321),kN "law" 1957 (kR 1326)] 139,kQ "tuple" [Value.none] 0,kc "__init__" "MintError.__init__" 208 7 3 30 214,kF (kM 2 0) "MintError.__init__" (kR 29) (kS "octetmint.basics" 194) 35,kD P (.type "dict") [kN "__module__" 203 (kS "octetmint.basics" 194),kN "__firstlineno__" 207 (kI 5 206),kN "__init__" 216 (kR 36),kN "told" 223 (kR 43),kN "__static_attributes__" 226 (kR 44),kN "__weakref__" 228 (kR 47),kN "__doc__" 229 Value.none] 3,kK (.type "type") [(some (kR 22)),none,(some (kS "MintError" 196)),(some (kS "MintError" 204)),(some (.builtin "Exception.__new__")),(some (.bool true))] "MintError" [(.type "Exception")] [(kR 46),(.type "Exception"),(.type "BaseException"),(.type "object")] 45 "MintError" [(kR 59),(kR 71),(kR 83)],kD P (.type "dict") [kN "__module__" 273 (kS "octetmint.basics" 194),kN "__firstlineno__" 277 (kI 20 276),kN "__static_attributes__" 278 (kR 81),kN "__doc__" 279 Value.none] 2,kK (.type "type") [(some (kR 74)),none,(some (kS "DecodeError" 266)),(some (kS "DecodeError" 274)),(some (.builtin "Exception.__new__")),(some (.bool true))] "DecodeError" [(kR 46)] [(kR 83),(kR 46),(.type "Exception"),(.type "BaseException"),(.type "object")] 82 "DecodeError" [],kc "mask" "mask" 282 22 1 86 286,kF (kT 6) "mask" Value.none (kS "octetmint.basics" 194) 91,kc "wrap" "wrap" 289 24 2 93 294,kF (kT 7) "wrap" Value.none (kS "octetmint.basics" 194) 98,kc "signed" "signed" 297 26 2 100 303,kF (kT 8) "signed" Value.none (kS "octetmint.basics" 194) 105,kc "from_little" "from_little" 306 31 1 107 313,kF (kT 9) "from_little" Value.none (kS "octetmint.basics" 194) 112,kc "from_little_signed" "from_little_signed" 316 38 1 114 320,kF (kT 10) "from_little_signed" Value.none (kS "octetmint.basics" 194) 119,kc "condition_names" "condition_names" 333 47 0 121 336,kF (kT 16) "condition_names" Value.none (kS "octetmint.forms" 323) 126,kc "is_fixed" "is_fixed" 339 49 1 128 343,kF (kT 17) "is_fixed" Value.none (kS "octetmint.forms" 323) 133,kc "is_immediate" "is_immediate" 346 51 1 135 350,kF (kT 18) "is_immediate" Value.none (kS "octetmint.forms" 323) 140,kc "is_relative" "is_relative" 353 53 1 142 357,kF (kT 19) "is_relative" Value.none (kS "octetmint.forms" 323) 147,kc "takes_memory" "takes_memory" 360 55 1 149 364,kF (kT 20) "takes_memory" Value.none (kS "octetmint.forms" 323) 154,kc "kind_width" "kind_width" 374 65 1 163 378,kF (kT 22) "kind_width" Value.none (kS "octetmint.forms" 323) 168,kc "slot_of" "slot_of" 381 71 1 170 385,kF (kT 23) "slot_of" Value.none (kS "octetmint.forms" 323) 175,kQ "tuple" [(kI 0 400),(kI (-1) 402),(kI 0 403),(kI 0 404),(.bool false)] 0,kd "__init__" "Form.__init__" 405 83 9 185 408,kF (kM 24 0) "Form.__init__" (kR 184) (kS "octetmint.forms" 323) 188,kc "slots" "Form.slots" 418 98 1 197 422,kF (kM 24 2) "Form.slots" Value.none (kS "octetmint.forms" 323) 202,kc "has_modrm" "Form.has_modrm" 425 101 1 204 429,kF (kM 24 3) "Form.has_modrm" Value.none (kS "octetmint.forms" 323) 209,kc "has_plus" "Form.has_plus" 432 104 1 211 436,kF (kM 24 4) "Form.has_plus" Value.none (kS "octetmint.forms" 323) 216,kD P (.type "dict") [kN "__module__" 395 (kS "octetmint.forms" 323),kN "__firstlineno__" 399 (kI 81 398),kN "__init__" 410 (kR 189),kN "told" 417 (kR 196),kN "slots" 424 (kR 203),kN "has_modrm" 431 (kR 210),kN "has_plus" 438 (kR 217),kN "memory_size" 445 (kR 224),kN "needs_memory" 452 (kR 231),kN "__static_attributes__" 463 (kR 232),kN "__dict__" 465 (kR 235),kN "__weakref__" 467 (kR 236),kN "__doc__" 468 Value.none] 4,kK (.type "type") [none,none,(some (kS "Form" 388)),(some (kS "Form" 396)),(some (.builtin "object.__new__")),(some (.bool true))] "Form" [(.type "object")] [(kR 234),(.type "object")] 233 "Form" [],kc "__init__" "Operand.__init__" 499 121 2 260 504,kF (kM 28 0) "Operand.__init__" Value.none (kS "octetmint.operands" 485) 265,kD P (.type "dict") [kN "__module__" 494 (kS "octetmint.operands" 485),kN "__firstlineno__" 498 (kI 119 497),kN "__init__" 506 (kR 266),kN "told" 513 (kR 273),kN "symbol" 520 (kR 280),kN "registers" 527 (kR 287),kN "__static_attributes__" 529 (kR 288),kN "__dict__" 531 (kR 291),kN "__weakref__" 533 (kR 292),kN "__doc__" 534 Value.none] 4,kK (.type "type") [none,none,(some (kS "Operand" 487)),(some (kS "Operand" 495)),(some (.builtin "object.__new__")),(some (.bool true))] "Operand" [(.type "object")] [(kR 290),(.type "object")] 289 "Operand" [(kR 325),(kR 359),(kR 400),(kR 453)],kQ "tuple" [(kS "" 630)] 0,kc "__init__" "Rel.__init__" 631 157 3 370 637,kF (kM 31 0) "Rel.__init__" (kR 369) (kS "octetmint.operands" 485) 375,kD P (.type "dict") [kN "__module__" 625 (kS "octetmint.operands" 485),kN "__firstlineno__" 629 (kI 155 628),kN "__init__" 639 (kR 376),kN "told" 646 (kR 383),kN "symbol" 653 (kR 390),kN "target" 661 (kR 397),kN "__static_attributes__" 664 (kR 398),kN "__doc__" 665 Value.none] 2,kK (.type "type") [(some (kR 362)),none,(some (kS "Rel" 618)),(some (kS "Rel" 626)),(some (.builtin "object.__new__")),(some (.bool true))] "Rel" [(kR 290)] [(kR 400),(kR 290),(.type "object")] 399 "Rel" [],kQ "tuple" [(kS "" 756)] 0,kc "__init__" "Instruction.__init__" 757 200 4 464 764,kF (kM 33 0) "Instruction.__init__" (kR 463) (kS "octetmint.operands" 485) 469,kD P (.type "dict") [kN "__module__" 751 (kS "octetmint.operands" 485),kN "__firstlineno__" 755 (kI 198 754),kN "__init__" 766 (kR 470),kN "told" 772 (kR 475),kN "memory_at" 781 (kR 482),kN "memory" 789 (kR 489),kN "symbols" 796 (kR 496),kN "replaced" 805 (kR 503),kN "__static_attributes__" 809 (kR 504),kN "__dict__" 811 (kR 507),kN "__weakref__" 813 (kR 508),kN "__doc__" 814 Value.none] 4,kK (.type "type") [none,none,(some (kS "Instruction" 744)),(some (kS "Instruction" 752)),(some (.builtin "object.__new__")),(some (.bool true))] "Instruction" [(.type "object")] [(kR 506),(.type "object")] 505 "Instruction" [],kc "rex_bits" "rex_bits" 1036 340 1 658 1040,kF (kT 66) "rex_bits" Value.none (kS "octetmint.prefixes" 1022) 663,kc "is_rex" "is_rex" 1043 344 1 665 1047,kF (kT 67) "is_rex" Value.none (kS "octetmint.prefixes" 1022) 670,kc "sort_of" "sort_of" 1057 352 1 679 1061,kF (kT 69) "sort_of" Value.none (kS "octetmint.prefixes" 1022) 684,kQ "tuple" [(kS "" 1076),(.bool false),(kI 0 1077),(.bool false),(kI (-1) 1079)] 0,kc "__init__" "Prefixes.__init__" 1080 364 6 694 1089,kF (kM 70 0) "Prefixes.__init__" (kR 693) (kS "octetmint.prefixes" 1022) 699,kc "has_rex" "Prefixes.has_rex" 1099 374 1 708 1103,kF (kM 70 2) "Prefixes.has_rex" Value.none (kS "octetmint.prefixes" 1022) 713,kD P (.type "dict") [kN "__module__" 1071 (kS "octetmint.prefixes" 1022),kN "__firstlineno__" 1075 (kI 362 1074),kN "__init__" 1091 (kR 700),kN "told" 1098 (kR 707),kN "has_rex" 1105 (kR 714),kN "bits" 1112 (kR 721),kN "count" 1119 (kR 728),kN "octets" 1127 (kR 735),kN "__static_attributes__" 1133 (kR 736),kN "__dict__" 1135 (kR 739),kN "__weakref__" 1137 (kR 740),kN "__doc__" 1138 Value.none] 4,kK (.type "type") [none,none,(some (kS "Prefixes" 1064)),(some (kS "Prefixes" 1072)),(some (.builtin "object.__new__")),(some (.bool true))] "Prefixes" [(.type "object")] [(kR 738),(.type "object")] 737 "Prefixes" [],kc "read_prefixes" "read_prefixes" 1159 426 2 757 1166,kF (kT 73) "read_prefixes" Value.none (kS "octetmint.prefixes" 1022) 762,kc "__init__" "Decoded.__init__" 1193 448 5 771 1201,kF (kM 80 0) "Decoded.__init__" Value.none (kS "octetmint.decoder" 1169) 776,kD P (.type "dict") [kN "__module__" 1188 (kS "octetmint.decoder" 1169),kN "__firstlineno__" 1192 (kI 446 1191),kN "__init__" 1203 (kR 777),kN "told" 1210 (kR 784),kN "__static_attributes__" 1215 (kR 785),kN "__dict__" 1217 (kR 788),kN "__weakref__" 1219 (kR 789),kN "__doc__" 1220 Value.none] 4,kK (.type "type") [none,none,(some (kS "Decoded" 1181)),(some (kS "Decoded" 1189)),(some (.builtin "object.__new__")),(some (.bool true))] "Decoded" [(.type "object")] [(kR 787),(.type "object")] 786 "Decoded" [],kc "__init__" "Frame.__init__" 1235 458 4 799 1243,kF (kM 81 0) "Frame.__init__" Value.none (kS "octetmint.decoder" 1169) 804,kc "is_narrow" "Frame.is_narrow" 1253 482 1 813 1257,kF (kM 81 2) "Frame.is_narrow" Value.none (kS "octetmint.decoder" 1169) 818,kc "take_code" "Frame.take_code" 1260 485 2 820 1266,kF (kM 81 3) "Frame.take_code" Value.none (kS "octetmint.decoder" 1169) 825,kc "take_must" "Frame.take_must" 1269 496 2 827 1275,kF (kM 81 4) "Frame.take_must" Value.none (kS "octetmint.decoder" 1169) 832,kD P (.type "dict") [kN "__module__" 1230 (kS "octetmint.decoder" 1169),kN "__firstlineno__" 1234 (kI 456 1233),kN "__init__" 1245 (kR 805),kN "has_rex" 1252 (kR 812),kN "is_narrow" 1259 (kR 819),kN "take_code" 1268 (kR 826),kN "take_must" 1277 (kR 833),kN "take_modrm" 1286 (kR 840),kN "__static_attributes__" 1305 (kR 841),kN "__dict__" 1307 (kR 844),kN "__weakref__" 1309 (kR 845),kN "__doc__" 1310 Value.none] 4,kK (.type "type") [none,none,(some (kS "Frame" 1223)),(some (kS "Frame" 1231)),(some (.builtin "object.__new__")),(some (.bool true))] "Frame" [(.type "object")] [(kR 843),(.type "object")] 842 "Frame" [],kc "fits_size" "fits_size" 1313 507 2 848 1318,kF (kT 82) "fits_size" Value.none (kS "octetmint.decoder" 1169) 853,kd "fits_mod" "fits_mod" 1321 515 2 855 1324,kF (kT 83) "fits_mod" Value.none (kS "octetmint.decoder" 1169) 858,kc "fits_nop" "fits_nop" 1327 517 2 860 1333,kF (kT 84) "fits_nop" Value.none (kS "octetmint.decoder" 1169) 865,kc "picked" "picked" 1336 522 2 867 1342,kF (kT 85) "picked" Value.none (kS "octetmint.decoder" 1169) 872,kc "field_at" "field_at" 1390 557 3 909 1397,kF (kT 91) "field_at" Value.none (kS "octetmint.decoder" 1169) 914,kc "written_operand" "written_operand" 1400 562 3 916 1406,kF (kT 92) "written_operand" Value.none (kS "octetmint.decoder" 1169) 921,kc "operands_of" "operands_of" 1409 568 3 923 1420,kF (kT 93) "operands_of" Value.none (kS "octetmint.decoder" 1169) 928,kd "check_used" "check_used" 1423 584 3 930 1426,kF (kT 94) "check_used" Value.none (kS "octetmint.decoder" 1169) 933,kc "prefix_word" "prefix_word" 1429 592 2 935 1436,kF (kT 95) "prefix_word" Value.none (kS "octetmint.decoder" 1169) 940,kd "read_frame" "read_frame" 1439 602 3 942 1442,kF (kT 96) "read_frame" Value.none (kS "octetmint.decoder" 1169) 945,kQ "tuple" [(kI 0 1445)] 0,kc "decode" "decode" 1446 611 3 948 1457,kF (kT 97) "decode" (kR 947) (kS "octetmint.decoder" 1169) 953,kQ "tuple" [(kI 0 1460)] 0,kc "decode_or_none" "decode_or_none" 1461 619 3 956 1467,kF (kT 98) "decode_or_none" (kR 955) (kS "octetmint.decoder" 1169) 961,kc "jump_forms" "jump_forms" 1472 625 0 963 1478,kF (kT 100) "jump_forms" Value.none (kS "octetmint.flow" 1470) 968,kc "call_forms" "call_forms" 1481 632 0 970 1484,kF (kT 101) "call_forms" Value.none (kS "octetmint.flow" 1470) 975,kc "loop_forms" "loop_forms" 1487 634 0 977 1490,kF (kT 102) "loop_forms" Value.none (kS "octetmint.flow" 1470) 982,kc "trap_forms" "trap_forms" 1493 636 0 984 1496,kF (kT 103) "trap_forms" Value.none (kS "octetmint.flow" 1470) 989,kc "carry_forms" "carry_forms" 1499 638 0 991 1502,kF (kT 104) "carry_forms" Value.none (kS "octetmint.flow" 1470) 996,kc "string_forms" "string_forms" 1505 640 0 998 1511,kF (kT 105) "string_forms" Value.none (kS "octetmint.flow" 1470) 1003,kc "nop_forms" "nop_forms" 1514 648 0 1005 1517,kF (kT 106) "nop_forms" Value.none (kS "octetmint.flow" 1470) 1010,kc "flow_forms" "flow_forms" 1520 650 0 1012 1524,kF (kT 107) "flow_forms" Value.none (kS "octetmint.flow" 1470) 1017,kc "condition_of" "condition_of" 1527 659 1 1019 1532,kF (kT 108) "condition_of" Value.none (kS "octetmint.flow" 1470) 1024,kc "where_next" "where_next" 1535 664 1 1026 1539,kF (kT 109) "where_next" Value.none (kS "octetmint.flow" 1470) 1031,kc "__init__" "Row.__init__" 1556 681 5 1040 1564,kF (kM 111 0) "Row.__init__" Value.none (kS "octetmint.sweep" 1542) 1045,kc "end" "Row.end" 1567 687 1 1047 1571,kF (kM 111 1) "Row.end" Value.none (kS "octetmint.sweep" 1542) 1052,kD P (.type "dict") [kN "__module__" 1551 (kS "octetmint.sweep" 1542),kN "__firstlineno__" 1555 (kI 679 1554),kN "__init__" 1566 (kR 1046),kN "end" 1573 (kR 1053),kN "told" 1580 (kR 1060),kN "__static_attributes__" 1585 (kR 1061),kN "__dict__" 1587 (kR 1064),kN "__weakref__" 1589 (kR 1065),kN "__doc__" 1590 Value.none] 4,kK (.type "type") [none,none,(some (kS "Row" 1544)),(some (kS "Row" 1552)),(some (.builtin "object.__new__")),(some (.bool true))] "Row" [(.type "object")] [(kR 1063),(.type "object")] 1062 "Row" [],kc "distance_of" "distance_of" 1593 692 1 1068 1598,kF (kT 112) "distance_of" Value.none (kS "octetmint.sweep" 1542) 1073,kc "target_of" "target_of" 1601 697 1 1075 1606,kF (kT 113) "target_of" Value.none (kS "octetmint.sweep" 1542) 1080,kc "next_start" "next_start" 1609 702 3 1082 1616,kF (kT 114) "next_start" Value.none (kS "octetmint.sweep" 1542) 1087,kQ "tuple" [(kI 0 1619)] 0,kc "starts" "starts" 1620 705 3 1090 1627,kF (kT 115) "starts" (kR 1089) (kS "octetmint.sweep" 1542) 1095,kc "resync" "resync" 1630 711 4 1097 1637,kF (kT 116) "resync" Value.none (kS "octetmint.sweep" 1542) 1102,kc "plain_rows" "plain_rows" 1640 719 2 1104 1649,kF (kT 117) "plain_rows" Value.none (kS "octetmint.sweep" 1542) 1109,kc "labels_of" "labels_of" 1652 727 2 1111 1660,kF (kT 118) "labels_of" Value.none (kS "octetmint.sweep" 1542) 1116,kc "references" "references" 1663 734 2 1118 1671,kF (kT 119) "references" Value.none (kS "octetmint.sweep" 1542) 1123,kc "way_behind" "way_behind" 1674 741 1 1125 1678,kF (kT 120) "way_behind" Value.none (kS "octetmint.sweep" 1542) 1130,kd "leaders" "leaders" 1681 743 2 1132 1684,kF (kT 121) "leaders" Value.none (kS "octetmint.sweep" 1542) 1135,kc "__init__" "Block.__init__" 1699 757 4 1144 1706,kF (kM 122 0) "Block.__init__" Value.none (kS "octetmint.sweep" 1542) 1149,kc "told" "Block.told" 1709 762 1 1151 1713,kF (kM 122 1) "Block.told" Value.none (kS "octetmint.sweep" 1542) 1156,kD P (.type "dict") [kN "__module__" 1694 (kS "octetmint.sweep" 1542),kN "__firstlineno__" 1698 (kI 755 1697),kN "__init__" 1708 (kR 1150),kN "told" 1715 (kR 1157),kN "__static_attributes__" 1719 (kR 1158),kN "__dict__" 1721 (kR 1161),kN "__weakref__" 1723 (kR 1162),kN "__doc__" 1724 Value.none] 4,kK (.type "type") [none,none,(some (kS "Block" 1687)),(some (kS "Block" 1695)),(some (.builtin "object.__new__")),(some (.bool true))] "Block" [(.type "object")] [(kR 1160),(.type "object")] 1159 "Block" [],kc "follows_of" "follows_of" 1727 764 2 1165 1735,kF (kT 123) "follows_of" Value.none (kS "octetmint.sweep" 1542) 1170,kd "blocks" "blocks" 1738 771 2 1172 1741,kF (kT 124) "blocks" Value.none (kS "octetmint.sweep" 1542) 1175,kc "flow_from" "flow_from" 1744 780 3 1177 1757,kF (kT 125) "flow_from" Value.none (kS "octetmint.sweep" 1542) 1182,kd "codes_of" "codes_of" 1762 795 1 1184 1765,kF (kT 127) "codes_of" Value.none (kS "octetmint.iset" 1760) 1187,kc "__init__" "InstructionSet.__init__" 1780 801 2 1196 1788,kF (kM 128 0) "InstructionSet.__init__" Value.none (kS "octetmint.iset" 1760) 1201,kc "at" "InstructionSet.at" 1813 825 4 1222 1820,kF (kM 128 4) "InstructionSet.at" Value.none (kS "octetmint.iset" 1760) 1227,kD P (.type "dict") [kN "__module__" 1775 (kS "octetmint.iset" 1760),kN "__firstlineno__" 1779 (kI 799 1778),kN "__init__" 1790 (kR 1202),kN "told" 1796 (kR 1207),kN "find" 1804 (kR 1214),kN "has" 1812 (kR 1221),kN "at" 1822 (kR 1228),kN "names" 1829 (kR 1235),kN "codes" 1836 (kR 1242),kN "counts" 1844 (kR 1249),kN "memory_sizes" 1852 (kR 1256),kN "__static_attributes__" 1856 (kR 1257),kN "__dict__" 1858 (kR 1260),kN "__weakref__" 1860 (kR 1261),kN "__doc__" 1861 Value.none] 4,kK (.type "type") [none,none,(some (kS "InstructionSet" 1768)),(some (kS "InstructionSet" 1776)),(some (.builtin "object.__new__")),(some (.bool true))] "InstructionSet" [(.type "object")] [(kR 1259),(.type "object")] 1258 "InstructionSet" [],kc "_law_base" "_law_base" 1866 840 0 1264 1869,kF (kT 130) "_law_base" Value.none (kS "law_qd0117_01" 1864) 1269,kQ "tuple" [(kI 144 1872),(kI 235 1873),(kI 116 1874),(kI 254 1875),(kI 0 1876),(kI 2 1877),(kI 226 1878),(kI 195 1879),(kI 244 1880),(kI 252 1881),(kI 6 1882),(kI 232 1883),(kI 1 1884),(kI 250 1885)] 0,kc "_law_plain" "_law_plain" 1887 843 0 1272 1890,kF (kT 132) "_law_plain" Value.none (kS "law_qd0117_01" 1864) 1277,kc "_law_pen" "_law_pen" 1893 845 1 1279 1899,kF (kT 133) "_law_pen" Value.none (kS "law_qd0117_01" 1864) 1284,kc "_law_take" "_law_take" 1902 850 2 1286 1908,kF (kT 134) "_law_take" Value.none (kS "law_qd0117_01" 1864) 1291,kd "_law_row" "_law_row" 1911 858 2 1293 1914,kF (kT 135) "_law_row" Value.none (kS "law_qd0117_01" 1864) 1296,kc "_law_starts" "_law_starts" 1917 869 2 1298 1923,kF (kT 136) "_law_starts" Value.none (kS "law_qd0117_01" 1864) 1303,kd "_law_leaders" "_law_leaders" 1926 875 2 1305 1929,kF (kT 137) "_law_leaders" Value.none (kS "law_qd0117_01" 1864) 1308,kd "_law_blocks" "_law_blocks" 1932 881 3 1310 1935,kF (kT 138) "_law_blocks" Value.none (kS "law_qd0117_01" 1864) 1313,kc "_law_reached" "_law_reached" 1938 888 2 1315 1949,kF (kT 139) "_law_reached" Value.none (kS "law_qd0117_01" 1864) 1320,kd "law" "law" 1952 898 1 1322 1955,kF (kT 140) "law" Value.none (kS "law_qd0117_01" 1864) 1325]
noncomputable def cA(P:Params):Frag:=Je.zip (FL P)
noncomputable def iV:List Obj->Nat->List Nat->List Obj|[],_,_=>[]|_::_,_,[]=>[]|o::os,i,a::b=>match Nat.beq i a with|true=>o::iV os (i+1) b|false=>iV os (i+1) (a::b)
theorem oA:∀(l:List Obj)(i:Nat)(as:List Nat)(os:List Obj),iV l i as=os->as.length=os.length->∀(a:Nat)(o:Obj),(as.zip os).lookup a=some o->i<=a->l[a-i]?=some o
 |[],i,as,os,h,hl,a,o,e,_=>by simp only[iV]at h;subst h;simp at e|x::l,i,[],os,h,hl,a,o,e,_=>by simp at e|x::l,i,b::as,os,h,hl,a,o,e,hi=>by
   simp only[iV]at h;by_cases hb:i=b
   · subst hb;rw[Nat.beq_refl]at h;subst h;simp only[List.zip_cons_cons,AK]at e;by_cases hab:a=i;·subst hab;simp at e;subst e;simp
     · have:(a==i)=false:=by simpa using hab
       rw[this]at e;simp only at e;have r:=oA l (i+1) as _ rfl (by simpa using hl) a o e (by exact Nat.lt_of_le_of_ne hi (Ne.symm hab));have:a-i=(a-(i+1))+1:=by exact sn (Nat.lt_of_le_of_ne hi (Ne.symm hab))
       rw[this];simpa using r
   · have hb':Nat.beq i b=false:=by cases q:Nat.beq i b with|true=>exact absurd (Nat.eq_of_beq_eq_true q) hb|false=>rfl
     rw[hb']at h;simp only at h;by_cases hab:a=i;·exfalso;subst hab;have:=pick_none l (a+1) (b::as) os h hl a o e (by exact Nat.lt_succ_self _);exact this
     · have r:=oA l (i+1) (b::as) os h hl a o e (by exact Nat.lt_of_le_of_ne hi (Ne.symm hab));have:a-i=(a-(i+1))+1:=by exact sn (Nat.lt_of_le_of_ne hi (Ne.symm hab))
       rw[this];simpa using r where pick_none:∀(l:List Obj)(i:Nat)(as:List Nat)(os:List Obj),iV l i as=os->as.length=os.length->∀(a:Nat)(o:Obj),(as.zip os).lookup a=some o->a<i->False
 |[],i,as,os,h,hl,a,o,e,_=>by simp only[iV]at h;subst h;simp at e|x::l,i,[],os,h,hl,a,o,e,_=>by simp at e|x::l,i,b::as,os,h,hl,a,o,e,hi=>by
   simp only[iV]at h;by_cases hb:i=b
   · subst hb;rw[Nat.beq_refl]at h;subst h;simp only[List.zip_cons_cons,AK]at e;have:(a==i)=false:=by simp;exact AY hi
     rw[this]at e;simp only at e;exact pick_none l (i+1) as _ rfl (by simpa using hl) a o e (by exact Nat.lt_succ_of_lt hi)
   · have hb':Nat.beq i b=false:=by cases q:Nat.beq i b with|true=>exact absurd (Nat.eq_of_beq_eq_true q) hb|false=>rfl
     rw[hb']at h;simp only at h;exact pick_none l (i+1) (b::as) os h hl a o e (by exact Nat.lt_succ_of_lt hi)
theorem BC(P:Params):(FL P).all (λo=>!o.isFreed)=true:=by kernel_rfl
theorem CG(P:Params):Je.length=(FL P).length:=by kernel_rfl
theorem nG:∀(l:List (Nat×Obj)),l.lookup a=some o->(a,o)∈l:=by intro z;induction z with|nil=>intro e;simp at e|cons p l i=>
   obtain⟨b,x⟩:=p;intro e;rw[AK]at e;by_cases h:(a==b)=true;·rw[h]at e;cases e;rw[Ac.mp h];exact .head _
   · have h':(a==b)=false:=by simpa using h
     rw[h']at e;exact .tail _ (i e)
theorem L8(e:iV h.objs.toList 0 Je=FL P):(cA P).In h:=by
 intro a o b;have q:=oA _ _ _ _ e (CG P) a o b (AW _);rw[Nat.sub_zero]at q;have i:o∈FL P:=(List.of_mem_zip (nG _ b)).2;have g:o.isFreed=false:=by have:=List.all_eq_true.mp (BC P) o i;simpa using this
 rw[Array.getElem?_toList]at q;unfold Heap.get?;rw[q];obtain⟨c,d,f,s⟩:=o;cases f<;>first|rfl|(simp[Obj.isFreed]at g)
noncomputable def t9:Hook:=⟨List Obj,λs=>iV s.heap.objs.toList 0 Je,λw=>FL w.params,λw h=>(cA w.params).In h,λ_ _ e=>L8 e,λ_ _ _ x k=>Frag.In.keeps x k⟩
noncomputable abbrev vN:Value:=.none
noncomputable def GC:List Obj->Nat->Obj|a::_,0=>a|_::r,n+1=>GC r n|[],_=>default
noncomputable def Jr:List (List Obj)->Nat->List Obj|a::_,0=>a|_::r,n+1=>Jr r n|[],_=>[]
noncomputable def kn(P:Params)(j:Nat):Obj:=GC (FL P) j
noncomputable def gD(P:Params)(k:Nat)(v:Value):Obj:=match(kn P 1).data with|.dict es _=>⟨.type "dict",none,.dict (go v (es.toList.take k)).toArray k,#[]⟩|_=>default where go(v:Value):List DictEntry->List DictEntry|[]=>[]|e::r=>⟨e.hash,e.key,v⟩::r
noncomputable def tE:Obj:=kQ "tuple" [] 0
noncomputable def tS(t:Nat):List PySem.Str->Obj:=λxs=>kQ "tuple" (go t xs) 0 where go(t:Nat):List PySem.Str->List Value|[]=>[]|x::r=>kS x t::go (t+1) r
noncomputable def fE:Obj:=⟨.none,none,.fields #[],#[]⟩
noncomputable def fT(l:List (Nat×Nat×Nat)):Obj:=⟨.none,none,.fields (go l).toArray,#[]⟩where go:List (Nat×Nat×Nat)->List Value|[]=>[]|(a,b,c)::r=>kI a 0::kI b 0::kR c::go r
noncomputable def kZ(c:String)(vs:List Value):Obj:=⟨.type c,none,.fields vs.toArray,#[]⟩
noncomputable def cF(n q:PySem.Str)(t l b a c:Nat):Obj:=kZ "code" [kS n t,kS q (t+1),kS "/claim/cut.py" (t+2),kI l 0,kI b 0,kI 0 0,kI 0 0,kI 3 0,kR a,.bool true,kI 181 0,kR (a+1),vN,kR (a+2),kR (a+3),kR (a+4),kI c 0,kI l 0,kS "/claim/cut.py" (c+1)]
noncomputable def cC(n:PySem.Str)(t l a b:Nat):Obj:=kZ "code" [kS n t,kS n (t+1),kS "/claim/cut.py" (t+2),kI l 0,kI 0 0,kI 0 0,kI 0 0,kI 0 0,kR a,.bool false,kI 181 0,kR (a+1),vN,vN,vN,vN,kI b 0,kI l 0,kS "/claim/cut.py" (b+1)]
noncomputable def kX(st:Stmt)(q:PySem.Str):Obj:=⟨.none,none,.func {name:=Fe st,qualname:=q,params:=At st,body:=.stmts (bz st),scope:=cb st,globals:=0,closure:=[],defaults:=.none,kwdefaults:=.none,doc:=.none,pyModule:=.none,annotations:=none,code:=.none,closureTuple:=.none,builtins:=0},#[]⟩
noncomputable def kP(c:Value)(d:Option Nat)(s:List (Option Value)):Obj:=⟨c,d,.plain,s.toArray⟩
noncomputable def hW:Value:=kS "octetmint.operands" 485
noncomputable def vn:Value:=kS "octetmint.registers" 817
noncomputable def xt:Value:=kS "octetmint.decoder" 1169
noncomputable def BL:Value:=kS "octetmint.basics" 194
noncomputable def Cc:Value:=kS "octetmint.prefixes" 1022
noncomputable def DA:Value:=kS "octetmint.iset" 1760
noncomputable def Fc:Value:=kS "octetmint.forms" 323
noncomputable def Gy:Value:=kS "octetmint.modrm" 942
noncomputable def Jc:Value:=kS "octetmint.sweep" 1542
noncomputable def KP:Value:=kS "__main__" 164
noncomputable def zp:Obj:=kZ "builtin_function_or_method" [.builtin "type.__prepare__",.type "type"]
noncomputable def zs(n:Nat):Obj:=kZ "super" [kR n,kR n,kR n]
noncomputable def zi(n:Nat):Obj:=kZ "builtin_function_or_method" [.builtin "object.__init_subclass__",kR n]
noncomputable def zw(t n:Nat):Obj:=kZ "getset_descriptor" [kS "__weakref__" t,kR n,.builtin "ExceptionGroup.__weakref__",vN]
noncomputable def zd(t n:Nat):Obj:=kZ "getset_descriptor" [kS "__dict__" t,kR n,.builtin "function.__dict__",.builtin "function.__dict__#set"]
noncomputable def zf(a b:Nat)(m:Value):Obj:=kP (.type "frame") none [some (kR a),some (kR 3),some (kR b),none,some m,none,some (kR 0)]
noncomputable def Nv(P:Params):List Obj:=[boot_o_0 P,boot_o_1 P,kn P 0,kn P 1,boot_o_4 P,boot_o_5 P,boot_o_6 P,boot_o_7 P,boot_o_8 P,boot_o_9 P,boot_o_10 P,tE,(fT [(1,0,20),(5,0,27),(16,0,55),(18,0,67),(20,0,79),(22,0,91),(24,0,98),(26,0,105),(31,0,112),(38,0,119),(47,0,126),(49,0,133),(51,0,140),(53,0,147),(55,0,154),(57,0,161),(65,0,168),(71,0,175),(81,0,182),(112,0,244),(114,0,251),(119,0,258),(132,0,300),(143,0,333),(155,0,367),(170,0,408),(198,0,461),(229,0,516),(251,0,572),(261,0,579),(269,0,586),(276,0,593),(280,0,600),(284,0,607),(291,0,614),(293,0,621),(295,0,628),(297,0,635),(301,0,642),(311,0,649),(323,0,656),(340,0,663),(344,0,670),(346,0,677),(352,0,684),(362,0,691),(402,0,748),(404,0,755),(426,0,762),(446,0,769),(456,0,797),(507,0,853),(515,0,858),(517,0,865),(522,0,872),(529,0,879),(533,0,886),(538,0,893),(546,0,900),(549,0,907),(557,0,914),(562,0,921),(568,0,928),(584,0,933),(592,0,940),(602,0,945),(611,0,953),(619,0,961),(625,0,968),(632,0,975),(634,0,982),(636,0,989),(638,0,996),(640,0,1003),(648,0,1010),(650,0,1017),(659,0,1024),(664,0,1031),(679,0,1038),(692,0,1073),(697,0,1080),(702,0,1087),(705,0,1095),(711,0,1102),(719,0,1109),(727,0,1116),(734,0,1123),(741,0,1130),(743,0,1135),(755,0,1142),(764,0,1170),(771,0,1175),(780,0,1182),(795,0,1187),(799,0,1194),(840,0,1269),(843,0,1277),(845,0,1284),(850,0,1291),(858,0,1296),(869,0,1303),(875,0,1308),(881,0,1313),(888,0,1320),(898,0,1325)]),(cC "<module>" 182 1 11 185),(zf 13 3 KP),tE,fE,(tS 190 ["k"]),tE,(kX (kT 0) "_wall"),(cF "_wall" "_wall" 187 1 1 15 191),(kF (kT 0) "_wall" vN KP 20),(kQ "tuple" [(.type "Exception")] 0),zp,(kD P (.type "dict") [kN "__module__" 203 BL,kN "__qualname__" 205 (kS "MintError" 204),kN "__firstlineno__" 207 (kI 5 206),kN "__init__" 216 (kR 36),kN "told" 223 (kR 43),kN "__static_attributes__" 226 (kR 44)] 6),tE,(fT [(7,4,35),(12,4,42)]),(cC "MintError" 198 5 25 201),(zf 27 24 BL),kn P 2,tE,fE]
noncomputable def NW(P:Params):List Obj:=[(tS 211 ["self","what","at"]),tE,(kX (kM 2 0) "MintError.__init__"),kn P 3,kn P 4,tE,fE,(tS 220 ["self"]),tE,(kX (kM 2 1) "MintError.told"),(cF "told" "MintError.told" 217 12 1 37 221),(kF (kM 2 1) "MintError.told" vN BL 42),(tS 224 ["at","what"]),kn P 5,kn P 6,(zw 227 46),(zs 46),(zi 46),(kQ "tuple" [(kR 46)] 0),zp,(kD P (.type "dict") [kN "__module__" 241 BL,kN "__qualname__" 243 (kS "OperandError" 242),kN "__firstlineno__" 245 (kI 16 244),kN "__static_attributes__" 246 (kR 57)] 4),tE,fE,(cC "OperandError" 236 16 53 239),(zf 55 52 BL),tE,(kD P (.type "dict") [kN "__module__" 241 BL,kN "__firstlineno__" 245 (kI 16 244),kN "__static_attributes__" 246 (kR 57),kN "__doc__" 247 vN] 2),(kK (.type "type") [(some (kR 50)),none,(some (kS "OperandError" 234)),(some (kS "OperandError" 242)),(some (.builtin "Exception.__new__")),(some (.bool true))] "OperandError" [(kR 46)] [(kR 59),(kR 46),(.type "Exception"),(.type "BaseException"),(.type "object")] 58 "OperandError" []),(zs 59),(zi 59),(kQ "tuple" [(kR 46)] 0),zp]
noncomputable def Nk(P:Params):List Obj:=[(kD P (.type "dict") [kN "__module__" 257 BL,kN "__qualname__" 259 (kS "EncodeError" 258),kN "__firstlineno__" 261 (kI 18 260),kN "__static_attributes__" 262 (kR 69)] 4),tE,fE,(cC "EncodeError" 252 18 65 255),(zf 67 64 BL),tE,(kD P (.type "dict") [kN "__module__" 257 BL,kN "__firstlineno__" 261 (kI 18 260),kN "__static_attributes__" 262 (kR 69),kN "__doc__" 263 vN] 2),(kK (.type "type") [(some (kR 62)),none,(some (kS "EncodeError" 250)),(some (kS "EncodeError" 258)),(some (.builtin "Exception.__new__")),(some (.bool true))] "EncodeError" [(kR 46)] [(kR 71),(kR 46),(.type "Exception"),(.type "BaseException"),(.type "object")] 70 "EncodeError" []),(zs 71),(zi 71),(kQ "tuple" [(kR 46)] 0),zp,(kD P (.type "dict") [kN "__module__" 273 BL,kN "__qualname__" 275 (kS "DecodeError" 274),kN "__firstlineno__" 277 (kI 20 276),kN "__static_attributes__" 278 (kR 81)] 4),tE,fE,(cC "DecodeError" 268 20 77 271),(zf 79 76 BL),tE,kn P 7,kn P 8,(zs 83),(zi 83),tE,fE,(tS 285 ["size"]),tE,(kX (kT 6) "mask"),kn P 9,kn P 10,tE,fE,(tS 292 ["worth","size"])]
noncomputable def Nw(P:Params):List Obj:=[tE,(kX (kT 7) "wrap"),kn P 11,kn P 12,tE,fE,(tS 300 ["worth","size","low"]),tE,(kX (kT 8) "signed"),kn P 13,kn P 14,tE,fE,(tS 309 ["octets","worth","shift","octet"]),tE,(kX (kT 9) "from_little"),kn P 15,kn P 16,tE,fE,(tS 319 ["octets"]),tE,(kX (kT 10) "from_little_signed"),kn P 17,kn P 18,tE,fE,tE,tE,(kX (kT 16) "condition_names"),kn P 19,kn P 20]
noncomputable def M9(P:Params):List Obj:=[tE,fE,(tS 342 ["kind"]),tE,(kX (kT 17) "is_fixed"),kn P 21,kn P 22,tE,fE,(tS 349 ["kind"]),tE,(kX (kT 18) "is_immediate"),kn P 23,kn P 24,tE,fE,(tS 356 ["kind"]),tE,(kX (kT 19) "is_relative"),kn P 25,kn P 26,tE,fE,(tS 363 ["kind"]),tE,(kX (kT 20) "takes_memory"),kn P 27,kn P 28,tE,fE,(tS 370 ["kind"]),tE]
noncomputable def Nn(P:Params):List Obj:=[(kX (kT 21) "kind_size"),(cF "kind_size" "kind_size" 367 57 1 156 371),(kF (kT 21) "kind_size" vN Fc 161),tE,fE,(tS 377 ["kind"]),tE,(kX (kT 22) "kind_width"),kn P 29,kn P 30,tE,fE,(tS 384 ["kind"]),tE,(kX (kT 23) "slot_of"),kn P 31,kn P 32,tE,zp,(kD P (.type "dict") [kN "__module__" 395 Fc,kN "__qualname__" 397 (kS "Form" 396),kN "__firstlineno__" 399 (kI 81 398),kN "__init__" 410 (kR 189),kN "told" 417 (kR 196),kN "slots" 424 (kR 203),kN "has_modrm" 431 (kR 210),kN "has_plus" 438 (kR 217),kN "memory_size" 445 (kR 224),kN "needs_memory" 452 (kR 231),kN "__static_attributes__" 463 (kR 232)] 11),tE,(fT [(83,4,188),(95,4,195),(98,4,202),(101,4,209),(104,4,216),(107,4,223),(110,4,230)]),(cC "Form" 390 81 180 393),(zf 182 179 Fc),kn P 33,tE,fE,(kX (kM 24 0) "Form.__init__"),kn P 34,kn P 35,tE,fE]
noncomputable def N3(P:Params):List Obj:=[(tS 414 ["self"]),tE,(kX (kM 24 1) "Form.told"),(cF "told" "Form.told" 411 95 1 190 415),(kF (kM 24 1) "Form.told" vN Fc 195),tE,fE,(tS 421 ["self"]),tE,(kX (kM 24 2) "Form.slots"),kn P 36,kn P 37,tE,fE,(tS 428 ["self"]),tE,(kX (kM 24 3) "Form.has_modrm"),kn P 38,kn P 39,tE,fE,(tS 435 ["self"]),tE,(kX (kM 24 4) "Form.has_plus"),kn P 40,kn P 41,tE,fE,(tS 442 ["self"]),tE,(kX (kM 24 5) "Form.memory_size"),(cF "memory_size" "Form.memory_size" 439 107 1 218 443)]
noncomputable def M8(P:Params):List Obj:=[(kF (kM 24 5) "Form.memory_size" vN Fc 223),tE,fE,(tS 449 ["self"]),tE,(kX (kM 24 6) "Form.needs_memory"),(cF "needs_memory" "Form.needs_memory" 446 110 1 225 450),(kF (kM 24 6) "Form.needs_memory" vN Fc 230),(tS 453 ["digit","escape","is_wide","kinds","must","name","number","opcode","places","size"]),kn P 42,kn P 43,(zd 464 234),(zw 466 234),(zs 234),(zi 234),tE,fE,(tS 474 ["form"]),tE,(kX (kT 25) "can_lock"),(cF "can_lock" "can_lock" 471 112 1 239 475),(kF (kT 25) "can_lock" vN Fc 244),tE,fE,(tS 481 ["name"]),tE,(kX (kT 26) "repeats"),(cF "repeats" "repeats" 478 114 1 246 482),(kF (kT 26) "repeats" vN Fc 251),tE,zp,(kD P (.type "dict") [kN "__module__" 494 hW,kN "__qualname__" 496 (kS "Operand" 495),kN "__firstlineno__" 498 (kI 119 497),kN "__init__" 506 (kR 266),kN "told" 513 (kR 273),kN "symbol" 520 (kR 280),kN "registers" 527 (kR 287),kN "__static_attributes__" 529 (kR 288)] 8)]
noncomputable def Nc(P:Params):List Obj:=[tE,(fT [(121,4,265),(124,4,272),(127,4,279),(130,4,286)]),(cC "Operand" 489 119 256 492),(zf 258 255 hW),tE,fE,(tS 502 ["self","kind"]),tE,(kX (kM 28 0) "Operand.__init__"),kn P 44,kn P 45,tE,fE,(tS 510 ["self"]),tE,(kX (kM 28 1) "Operand.told"),(cF "told" "Operand.told" 507 124 1 267 511),(kF (kM 28 1) "Operand.told" vN hW 272),tE,fE,(tS 517 ["self"]),tE,(kX (kM 28 2) "Operand.symbol"),(cF "symbol" "Operand.symbol" 514 127 1 274 518),(kF (kM 28 2) "Operand.symbol" vN hW 279),tE,fE,(tS 524 ["self"]),tE,(kX (kM 28 3) "Operand.registers"),(cF "registers" "Operand.registers" 521 130 1 281 525),(kF (kM 28 3) "Operand.registers" vN hW 286)]
noncomputable def NO(P:Params):List Obj:=[(tS 528 ["kind"]),kn P 46,kn P 47,(zd 530 290),(zw 532 290),(zs 290),(zi 290),(kQ "tuple" [(kR 290)] 0),zp,(kD P (.type "dict") [kN "__module__" 544 hW,kN "__qualname__" 546 (kS "Reg" 545),kN "__firstlineno__" 548 (kI 132 547),kN "__init__" 556 (kR 308),kN "told" 563 (kR 315),kN "registers" 570 (kR 322),kN "__static_attributes__" 572 (kR 323)] 7),tE,(fT [(134,4,307),(138,4,314),(141,4,321)]),(cC "Reg" 539 132 298 542),(zf 300 297 hW),tE,fE,(tS 552 ["self","register"]),tE,(kX (kM 29 0) "Reg.__init__"),(cF "__init__" "Reg.__init__" 549 134 2 302 554),(kF (kM 29 0) "Reg.__init__" vN hW 307),tE,fE,(tS 560 ["self"]),tE,(kX (kM 29 1) "Reg.told"),(cF "told" "Reg.told" 557 138 1 309 561),(kF (kM 29 1) "Reg.told" vN hW 314),tE,fE,(tS 567 ["self"]),tE]
noncomputable def Mb(P:Params):List Obj:=[(kX (kM 29 2) "Reg.registers"),(cF "registers" "Reg.registers" 564 141 1 316 568),(kF (kM 29 2) "Reg.registers" vN hW 321),(tS 571 ["register"]),(kD P (.type "dict") [kN "__module__" 544 hW,kN "__firstlineno__" 548 (kI 132 547),kN "__init__" 556 (kR 308),kN "told" 563 (kR 315),kN "registers" 570 (kR 322),kN "__static_attributes__" 572 (kR 323),kN "__doc__" 573 vN] 2),(kK (.type "type") [(some (kR 295)),none,(some (kS "Reg" 537)),(some (kS "Reg" 545)),(some (.builtin "object.__new__")),(some (.bool true))] "Reg" [(kR 290)] [(kR 325),(kR 290),(.type "object")] 324 "Reg" []),(zs 325),(zi 325),(kQ "tuple" [(kR 290)] 0),zp,(kD P (.type "dict") [kN "__module__" 583 hW,kN "__qualname__" 585 (kS "Imm" 584),kN "__firstlineno__" 587 (kI 143 586),kN "__init__" 597 (kR 342),kN "told" 604 (kR 349),kN "symbol" 611 (kR 356),kN "__static_attributes__" 614 (kR 357)] 7),tE,(fT [(145,4,341),(150,4,348),(153,4,355)]),(cC "Imm" 578 143 331 581),(zf 333 330 hW),(tS 588 [""]),tE,fE,(tS 592 ["self","worth","name"]),tE,(kX (kM 30 0) "Imm.__init__"),(cF "__init__" "Imm.__init__" 589 145 3 336 595),(kF (kM 30 0) "Imm.__init__" (kR 335) hW 341),tE,fE,(tS 601 ["self"]),tE,(kX (kM 30 1) "Imm.told"),(cF "told" "Imm.told" 598 150 1 343 602),(kF (kM 30 1) "Imm.told" vN hW 348),tE,fE]
noncomputable def Ll(P:Params):List Obj:=[(tS 608 ["self"]),tE,(kX (kM 30 2) "Imm.symbol"),(cF "symbol" "Imm.symbol" 605 153 1 350 609),(kF (kM 30 2) "Imm.symbol" vN hW 355),(tS 612 ["name","worth"]),(kD P (.type "dict") [kN "__module__" 583 hW,kN "__firstlineno__" 587 (kI 143 586),kN "__init__" 597 (kR 342),kN "told" 604 (kR 349),kN "symbol" 611 (kR 356),kN "__static_attributes__" 614 (kR 357),kN "__doc__" 615 vN] 2),(kK (.type "type") [(some (kR 328)),none,(some (kS "Imm" 576)),(some (kS "Imm" 584)),(some (.builtin "object.__new__")),(some (.bool true))] "Imm" [(kR 290)] [(kR 359),(kR 290),(.type "object")] 358 "Imm" []),(zs 359),(zi 359),(kQ "tuple" [(kR 290)] 0),zp,(kD P (.type "dict") [kN "__module__" 625 hW,kN "__qualname__" 627 (kS "Rel" 626),kN "__firstlineno__" 629 (kI 155 628),kN "__init__" 639 (kR 376),kN "told" 646 (kR 383),kN "symbol" 653 (kR 390),kN "target" 661 (kR 397),kN "__static_attributes__" 664 (kR 398)] 8),tE,(fT [(157,4,375),(162,4,382),(165,4,389),(168,4,396)]),(cC "Rel" 620 155 365 623),(zf 367 364 hW),kn P 48,tE,fE,(tS 634 ["self","worth","name"]),tE,(kX (kM 31 0) "Rel.__init__"),kn P 49,kn P 50,tE,fE,(tS 643 ["self"]),tE,(kX (kM 31 1) "Rel.told"),(cF "told" "Rel.told" 640 162 1 377 644),(kF (kM 31 1) "Rel.told" vN hW 382)]
noncomputable def Mj(P:Params):List Obj:=[tE,fE,(tS 650 ["self"]),tE,(kX (kM 31 2) "Rel.symbol"),(cF "symbol" "Rel.symbol" 647 165 1 384 651),(kF (kM 31 2) "Rel.symbol" vN hW 389),tE,fE,(tS 657 ["self","behind"]),tE,(kX (kM 31 3) "Rel.target"),(cF "target" "Rel.target" 654 168 2 391 659),(kF (kM 31 3) "Rel.target" vN hW 396),(tS 662 ["name","worth"]),kn P 51,kn P 52,(zs 400),(zi 400),(kQ "tuple" [(kR 290)] 0),zp,(kD P (.type "dict") [kN "__module__" 675 hW,kN "__qualname__" 677 (kS "Mem" 676),kN "__firstlineno__" 679 (kI 170 678),kN "__init__" 696 (kR 417),kN "told" 705 (kR 424),kN "symbol" 712 (kR 431),kN "registers" 718 (kR 436),kN "is_rip" 725 (kR 443),kN "is_absolute" 732 (kR 450),kN "__static_attributes__" 740 (kR 451)] 10),tE,(fT [(172,4,416),(182,4,423),(187,4,430),(190,4,435),(193,4,442),(196,4,449)]),(cC "Mem" 670 170 406 673),(zf 408 405 hW),(kQ "tuple" [(kI 0 680),(kS "" 681),(kS "" 682)] 0),tE,fE,(tS 686 ["self","base","index","scale","worth","size","segment","name"]),tE,(kX (kM 32 0) "Mem.__init__")]
noncomputable def LB(P:Params):List Obj:=[(cF "__init__" "Mem.__init__" 683 172 8 411 694),(kF (kM 32 0) "Mem.__init__" (kR 410) hW 416),tE,fE,(tS 700 ["self","base","index"]),tE,(kX (kM 32 1) "Mem.told"),(cF "told" "Mem.told" 697 182 1 418 703),(kF (kM 32 1) "Mem.told" vN hW 423),tE,fE,(tS 709 ["self"]),tE,(kX (kM 32 2) "Mem.symbol"),(cF "symbol" "Mem.symbol" 706 187 1 425 710),(kF (kM 32 2) "Mem.symbol" vN hW 430),tE,fE,(kX (kM 32 3) "Mem.registers"),(kZ "code" [(kS "registers" 713),(kS "Mem.registers" 714),(kS "/claim/cut.py" 715),(kI 190 0),(kI 1 0),(kI 0 0),(kI 0 0),(kI 3 0),(kR 432),(.bool true),(kI 181 0),(kR 433),vN,vN,vN,(kR 434),(kI 716 0),(kI 190 0),(kS "/claim/cut.py" 717)]),(kF (kM 32 3) "Mem.registers" vN hW 435),tE,fE,(tS 722 ["self"]),tE,(kX (kM 32 4) "Mem.is_rip"),(cF "is_rip" "Mem.is_rip" 719 193 1 437 723),(kF (kM 32 4) "Mem.is_rip" vN hW 442),tE,fE,(tS 729 ["self"]),tE]
noncomputable def Md(P:Params):List Obj:=[(kX (kM 32 5) "Mem.is_absolute"),(cF "is_absolute" "Mem.is_absolute" 726 196 1 444 730),(kF (kM 32 5) "Mem.is_absolute" vN hW 449),(tS 733 ["base","index","name","scale","segment","size","worth"]),(kD P (.type "dict") [kN "__module__" 675 hW,kN "__firstlineno__" 679 (kI 170 678),kN "__init__" 696 (kR 417),kN "told" 705 (kR 424),kN "symbol" 712 (kR 431),kN "registers" 718 (kR 436),kN "is_rip" 725 (kR 443),kN "is_absolute" 732 (kR 450),kN "__static_attributes__" 740 (kR 451),kN "__doc__" 741 vN] 2),(kK (.type "type") [(some (kR 403)),none,(some (kS "Mem" 668)),(some (kS "Mem" 676)),(some (.builtin "object.__new__")),(some (.bool true))] "Mem" [(kR 290)] [(kR 453),(kR 290),(.type "object")] 452 "Mem" []),(zs 453),(zi 453),tE,zp,(kD P (.type "dict") [kN "__module__" 751 hW,kN "__qualname__" 753 (kS "Instruction" 752),kN "__firstlineno__" 755 (kI 198 754),kN "__init__" 766 (kR 470),kN "told" 772 (kR 475),kN "memory_at" 781 (kR 482),kN "memory" 789 (kR 489),kN "symbols" 796 (kR 496),kN "replaced" 805 (kR 503),kN "__static_attributes__" 809 (kR 504)] 10),tE,(fT [(200,4,469),(205,4,474),(208,4,481),(214,4,488),(218,4,495),(221,4,502)]),(cC "Instruction" 746 198 459 749),(zf 461 458 hW),kn P 53,tE,fE,(tS 760 ["self","name","operands","prefix"]),tE,(kX (kM 33 0) "Instruction.__init__"),kn P 54,kn P 55,tE,fE,(kX (kM 33 1) "Instruction.told"),(kZ "code" [(kS "told" 767),(kS "Instruction.told" 768),(kS "/claim/cut.py" 769),(kI 205 0),(kI 1 0),(kI 0 0),(kI 0 0),(kI 3 0),(kR 471),(.bool true),(kI 181 0),(kR 472),vN,vN,vN,(kR 473),(kI 770 0),(kI 205 0),(kS "/claim/cut.py" 771)]),(kF (kM 33 1) "Instruction.told" vN hW 474),tE,fE,(tS 776 ["self","at","operand"]),tE]
noncomputable def K5(P:Params):List Obj:=[(kX (kM 33 2) "Instruction.memory_at"),(cF "memory_at" "Instruction.memory_at" 773 208 1 476 779),(kF (kM 33 2) "Instruction.memory_at" vN hW 481),tE,fE,(tS 785 ["self","at"]),tE,(kX (kM 33 3) "Instruction.memory"),(cF "memory" "Instruction.memory" 782 214 1 483 787),(kF (kM 33 3) "Instruction.memory" vN hW 488),tE,fE,(tS 793 ["self"]),tE,(kX (kM 33 4) "Instruction.symbols"),(cF "symbols" "Instruction.symbols" 790 218 1 490 794),(kF (kM 33 4) "Instruction.symbols" vN hW 495),tE,fE,(tS 800 ["self","at","operand"]),tE,(kX (kM 33 5) "Instruction.replaced"),(cF "replaced" "Instruction.replaced" 797 221 3 497 803),(kF (kM 33 5) "Instruction.replaced" vN hW 502),(tS 806 ["name","operands","prefix"]),kn P 56,kn P 57,(zd 810 506),(zw 812 506),(zs 506),(zi 506),tE]
noncomputable def Ly(P:Params):List Obj:=[zp,(kD P (.type "dict") [kN "__module__" 836 vn,kN "__qualname__" 838 (kS "Register" 837),kN "__firstlineno__" 840 (kI 229 839),kN "__init__" 851 (kR 524),kN "code" 858 (kR 531),kN "is_extended" 865 (kR 538),kN "is_high" 872 (kR 545),kN "needs_rex" 879 (kR 552),kN "told" 886 (kR 559),kN "__static_attributes__" 891 (kR 560)] 10),tE,(fT [(231,4,523),(237,4,530),(240,4,537),(243,4,544),(246,4,551),(249,4,558)]),(cC "Register" 831 229 514 834),(zf 516 513 vn),tE,fE,(tS 844 ["self","name","kind","number","size"]),tE,(kX (kM 40 0) "Register.__init__"),(cF "__init__" "Register.__init__" 841 231 5 518 849),(kF (kM 40 0) "Register.__init__" vN vn 523),tE,fE,(tS 855 ["self"]),tE,(kX (kM 40 1) "Register.code"),(cF "code" "Register.code" 852 237 1 525 856),(kF (kM 40 1) "Register.code" vN vn 530),tE,fE,(tS 862 ["self"]),tE,(kX (kM 40 2) "Register.is_extended"),(cF "is_extended" "Register.is_extended" 859 240 1 532 863),(kF (kM 40 2) "Register.is_extended" vN vn 537),tE,fE,(tS 869 ["self"]),tE,(kX (kM 40 3) "Register.is_high")]
noncomputable def Mw(P:Params):List Obj:=[(cF "is_high" "Register.is_high" 866 243 1 539 870),(kF (kM 40 3) "Register.is_high" vN vn 544),tE,fE,(tS 876 ["self"]),tE,(kX (kM 40 4) "Register.needs_rex"),(cF "needs_rex" "Register.needs_rex" 873 246 1 546 877),(kF (kM 40 4) "Register.needs_rex" vN vn 551),tE,fE,(tS 883 ["self"]),tE,(kX (kM 40 5) "Register.told"),(cF "told" "Register.told" 880 249 1 553 884),(kF (kM 40 5) "Register.told" vN vn 558),(tS 887 ["kind","name","number","size"]),(kD P (.type "dict") [kN "__module__" 836 vn,kN "__firstlineno__" 840 (kI 229 839),kN "__init__" 851 (kR 524),kN "code" 858 (kR 531),kN "is_extended" 865 (kR 538),kN "is_high" 872 (kR 545),kN "needs_rex" 879 (kR 552),kN "told" 886 (kR 559),kN "__static_attributes__" 891 (kR 560),kN "__dict__" 893 (kR 563),kN "__weakref__" 895 (kR 564),kN "__doc__" 896 vN] 4),(kK (.type "type") [none,none,(some (kS "Register" 829)),(some (kS "Register" 837)),(some (.builtin "object.__new__")),(some (.bool true))] "Register" [(.type "object")] [(kR 562),(.type "object")] 561 "Register" []),(zd 892 562),(zw 894 562),(zs 562),(zi 562),tE,fE,(tS 902 ["size"]),tE,(kX (kT 41) "early_names"),(cF "early_names" "early_names" 899 251 1 567 903),(kF (kT 41) "early_names" vN vn 572),tE,fE]
noncomputable def Le(P:Params):List Obj:=[(tS 909 ["size"]),tE,(kX (kT 42) "late_ending"),(cF "late_ending" "late_ending" 906 261 1 574 910),(kF (kT 42) "late_ending" vN vn 579),tE,fE,(tS 916 ["number","size","names"]),tE,(kX (kT 43) "gpr"),(cF "gpr" "gpr" 913 269 2 581 919),(kF (kT 43) "gpr" vN vn 586),tE,fE,(tS 925 ["number"]),tE,(kX (kT 44) "high"),(cF "high" "high" 922 276 1 588 926),(kF (kT 44) "high" vN vn 593),tE,fE,(tS 932 ["number"]),tE,(kX (kT 45) "xmm"),(cF "xmm" "xmm" 929 280 1 595 933),(kF (kT 45) "xmm" vN vn 600),tE,fE,tE,tE,(kX (kT 46) "rip"),(cF "rip" "rip" 936 284 0 602 939)]
noncomputable def Lj(P:Params):List Obj:=[(kF (kT 46) "rip" vN vn 607),tE,fE,(tS 955 ["octet"]),tE,(kX (kT 52) "unpack_three"),(cF "unpack_three" "unpack_three" 952 291 1 609 956),(kF (kT 52) "unpack_three" vN Gy 614),tE,fE,(tS 962 ["octet"]),tE,(kX (kT 53) "unpack_modrm"),(cF "unpack_modrm" "unpack_modrm" 959 293 1 616 963),(kF (kT 53) "unpack_modrm" vN Gy 621),tE,fE,(tS 969 ["octet"]),tE,(kX (kT 54) "unpack_sib"),(cF "unpack_sib" "unpack_sib" 966 295 1 623 970),(kF (kT 54) "unpack_sib" vN Gy 628),tE,fE,(tS 976 ["octets","at"]),tE,(kX (kT 55) "octet_at"),(cF "octet_at" "octet_at" 973 297 2 630 978),(kF (kT 55) "octet_at" vN Gy 635),tE,fE,(tS 984 ["mod","rm","sib"])]
noncomputable def Lb(P:Params):List Obj:=[tE,(kX (kT 56) "disp_width_of"),(cF "disp_width_of" "disp_width_of" 981 301 3 637 987),(kF (kT 56) "disp_width_of" vN Gy 642),tE,fE,(tS 993 ["octets","at","mod","reg","rm","sib","width","disp"]),tE,(kX (kT 57) "read_modrm"),(cF "read_modrm" "read_modrm" 990 311 2 644 1001),(kF (kT 57) "read_modrm" vN Gy 649),tE,fE,(tS 1007 ["mod","rm","sib","disp","x","b","size","segment","shift","index","base","first"]),tE,(kX (kT 58) "memory_of"),(cF "memory_of" "memory_of" 1004 323 8 651 1019),(kF (kT 58) "memory_of" vN Gy 656),tE,fE,(tS 1039 ["octet"]),tE,(kX (kT 66) "rex_bits"),kn P 58,kn P 59,tE,fE,(tS 1046 ["octet"]),tE,(kX (kT 67) "is_rex"),kn P 60,kn P 61]
noncomputable def KS(P:Params):List Obj:=[tE,fE,(tS 1053 ["segment"]),tE,(kX (kT 68) "segment_octet"),(cF "segment_octet" "segment_octet" 1050 346 1 672 1054),(kF (kT 68) "segment_octet" vN Cc 677),tE,fE,(tS 1060 ["octet"]),tE,(kX (kT 69) "sort_of"),kn P 62,kn P 63,tE,zp,(kD P (.type "dict") [kN "__module__" 1071 Cc,kN "__qualname__" 1073 (kS "Prefixes" 1072),kN "__firstlineno__" 1075 (kI 362 1074),kN "__init__" 1091 (kR 700),kN "told" 1098 (kR 707),kN "has_rex" 1105 (kR 714),kN "bits" 1112 (kR 721),kN "count" 1119 (kR 728),kN "octets" 1127 (kR 735),kN "__static_attributes__" 1133 (kR 736)] 10),tE,(fT [(364,4,699),(371,4,706),(374,4,713),(377,4,720),(380,4,727),(383,4,734)]),(cC "Prefixes" 1066 362 689 1069),(zf 691 688 Cc),kn P 64,tE,fE,(tS 1083 ["self","segment","is_data","repeat","is_lock","rex"]),tE,(kX (kM 70 0) "Prefixes.__init__"),kn P 65,kn P 66,tE,fE,(tS 1095 ["self"])]
noncomputable def KW(P:Params):List Obj:=[tE,(kX (kM 70 1) "Prefixes.told"),(cF "told" "Prefixes.told" 1092 371 1 701 1096),(kF (kM 70 1) "Prefixes.told" vN Cc 706),tE,fE,(tS 1102 ["self"]),tE,(kX (kM 70 2) "Prefixes.has_rex"),kn P 67,kn P 68,tE,fE,(tS 1109 ["self"]),tE,(kX (kM 70 3) "Prefixes.bits"),(cF "bits" "Prefixes.bits" 1106 377 1 715 1110),(kF (kM 70 3) "Prefixes.bits" vN Cc 720),tE,fE,(tS 1116 ["self"]),tE,(kX (kM 70 4) "Prefixes.count"),(cF "count" "Prefixes.count" 1113 380 1 722 1117),(kF (kM 70 4) "Prefixes.count" vN Cc 727),tE,fE,(tS 1123 ["self","found"]),tE,(kX (kM 70 5) "Prefixes.octets"),(cF "octets" "Prefixes.octets" 1120 383 1 729 1125),(kF (kM 70 5) "Prefixes.octets" vN Cc 734)]
noncomputable def LO(P:Params):List Obj:=[(tS 1128 ["is_data","is_lock","repeat","rex","segment"]),kn P 69,kn P 70,(zd 1134 738),(zw 1136 738),(zs 738),(zi 738),tE,fE,(tS 1144 ["prefixes","rex"]),tE,(kX (kT 71) "with_rex"),(cF "with_rex" "with_rex" 1141 402 2 743 1146),(kF (kT 71) "with_rex" vN Cc 748),tE,fE,(tS 1152 ["prefixes","octet","sort","segment"]),tE,(kX (kT 72) "with_legacy"),(cF "with_legacy" "with_legacy" 1149 404 2 750 1156),(kF (kT 72) "with_legacy" vN Cc 755),tE,fE,(tS 1162 ["octets","at","found","octet"]),tE,(kX (kT 73) "read_prefixes"),kn P 71,kn P 72,tE,zp,(kD P (.type "dict") [kN "__module__" 1188 xt,kN "__qualname__" 1190 (kS "Decoded" 1189),kN "__firstlineno__" 1192 (kI 446 1191),kN "__init__" 1203 (kR 777),kN "told" 1210 (kR 784),kN "__static_attributes__" 1215 (kR 785)] 6),tE]
noncomputable def Lm(P:Params):List Obj:=[(fT [(448,4,776),(454,4,783)]),(cC "Decoded" 1183 446 767 1186),(zf 769 766 xt),tE,fE,(tS 1196 ["self","instruction","length","form","prefixes"]),tE,(kX (kM 80 0) "Decoded.__init__"),kn P 73,kn P 74,tE,fE,(tS 1207 ["self"]),tE,(kX (kM 80 1) "Decoded.told"),(cF "told" "Decoded.told" 1204 454 1 778 1208),(kF (kM 80 1) "Decoded.told" vN xt 783),(tS 1211 ["form","instruction","length","prefixes"]),kn P 75,kn P 76,(zd 1216 787),(zw 1218 787),(zs 787),(zi 787),tE,zp,(kD P (.type "dict") [kN "__module__" 1230 xt,kN "__qualname__" 1232 (kS "Frame" 1231),kN "__firstlineno__" 1234 (kI 456 1233),kN "__init__" 1245 (kR 805),kN "has_rex" 1252 (kR 812),kN "is_narrow" 1259 (kR 819),kN "take_code" 1268 (kR 826),kN "take_must" 1277 (kR 833),kN "take_modrm" 1286 (kR 840),kN "__static_attributes__" 1305 (kR 841)] 10),tE,(fT [(458,4,804),(479,4,811),(482,4,818),(485,4,825),(496,4,832),(502,4,839)]),(cC "Frame" 1225 456 795 1228),(zf 797 794 xt),tE]
noncomputable def Lq(P:Params):List Obj:=[fE,(tS 1238 ["self","begin","prefixes","code_at","bits"]),tE,(kX (kM 81 0) "Frame.__init__"),kn P 77,kn P 78,tE,fE,(tS 1249 ["self"]),tE,(kX (kM 81 1) "Frame.has_rex"),(cF "has_rex" "Frame.has_rex" 1246 479 1 806 1250),(kF (kM 81 1) "Frame.has_rex" vN xt 811),tE,fE,(tS 1256 ["self"]),tE,(kX (kM 81 2) "Frame.is_narrow"),kn P 79,kn P 80,tE,fE,(tS 1263 ["self","octets","at"]),tE,(kX (kM 81 3) "Frame.take_code"),kn P 81,kn P 82,tE,fE,(tS 1272 ["self","iset","must"]),tE,(kX (kM 81 4) "Frame.take_must")]
noncomputable def La(P:Params):List Obj:=[kn P 83,kn P 84,tE,fE,(tS 1281 ["self","octets","told"]),tE,(kX (kM 81 5) "Frame.take_modrm"),(cF "take_modrm" "Frame.take_modrm" 1278 502 2 834 1284),(kF (kM 81 5) "Frame.take_modrm" vN xt 839),(tS 1287 ["b","begin","code_at","disp","escape","mod","modrm_at","must","opcode","prefixes","r","reg","rest_at","rm","sib","w","width","x"]),kn P 85,kn P 86,(zd 1306 843),(zw 1308 843),(zs 843),(zi 843),tE,fE,(tS 1316 ["form","frame"]),tE,(kX (kT 82) "fits_size"),kn P 87,kn P 88,tE,fE,(kX (kT 83) "fits_mod"),kn P 89,kn P 90,tE,fE,(tS 1330 ["form","frame","is_plain"]),tE]
noncomputable def L6(P:Params):List Obj:=[(kX (kT 84) "fits_nop"),kn P 91,kn P 92,tE,fE,(tS 1339 ["forms","frame","form"]),tE,(kX (kT 85) "picked"),kn P 93,kn P 94,tE,fE,(tS 1348 ["number","size","has_rex"]),tE,(kX (kT 86) "register_at"),(cF "register_at" "register_at" 1345 529 3 874 1351),(kF (kT 86) "register_at" vN xt 879),tE,fE,(tS 1357 ["kind","frame","number"]),tE,(kX (kT 87) "reg_operand"),(cF "reg_operand" "reg_operand" 1354 533 2 881 1360),(kF (kT 87) "reg_operand" vN xt 886),tE,fE,(tS 1366 ["kind","frame","size","segment","number"]),tE,(kX (kT 88) "rm_operand"),(cF "rm_operand" "rm_operand" 1363 538 2 888 1371),(kF (kT 88) "rm_operand" vN xt 893),tE]
noncomputable def KR(P:Params):List Obj:=[fE,(tS 1377 ["kind","frame","number"]),tE,(kX (kT 89) "plus_operand"),(cF "plus_operand" "plus_operand" 1374 546 2 895 1380),(kF (kT 89) "plus_operand" vN xt 900),tE,fE,(tS 1386 ["kind"]),tE,(kX (kT 90) "fixed_operand"),(cF "fixed_operand" "fixed_operand" 1383 549 1 902 1387),(kF (kT 90) "fixed_operand" vN xt 907),tE,fE,(tS 1393 ["octets","at","width","field"]),tE,(kX (kT 91) "field_at"),kn P 95,kn P 96,tE,fE,(tS 1403 ["kind","slot","field"]),tE,(kX (kT 92) "written_operand"),kn P 97,kn P 98,tE,fE,(tS 1412 ["form","frame","octets","found","end","kind","slot","width"]),tE,(kX (kT 93) "operands_of")]
noncomputable def Lo(P:Params):List Obj:=[kn P 99,kn P 100,tE,fE,(kX (kT 94) "check_used"),kn P 101,kn P 102,tE,fE,(tS 1432 ["form","frame","repeat","word"]),tE,(kX (kT 95) "prefix_word"),kn P 103,kn P 104,tE,fE,(kX (kT 96) "read_frame"),kn P 105,kn P 106,kn P 107,tE,fE,(tS 1449 ["iset","octets","at","frame","form","operands","end","instruction"]),tE,(kX (kT 97) "decode"),kn P 108,kn P 109,kn P 110,tE,fE,(tS 1464 ["iset","octets","at"]),tE]
noncomputable def K0(P:Params):List Obj:=[(kX (kT 98) "decode_or_none"),kn P 111,kn P 112,tE,fE,(tS 1475 ["rows","names","number"]),tE,(kX (kT 100) "jump_forms"),kn P 113,kn P 114,tE,fE,tE,tE,(kX (kT 101) "call_forms"),kn P 115,kn P 116,tE,fE,tE,tE,(kX (kT 102) "loop_forms"),kn P 117,kn P 118,tE,fE,tE,tE,(kX (kT 103) "trap_forms"),kn P 119,kn P 120,tE]
noncomputable def KX(P:Params):List Obj:=[fE,tE,tE,(kX (kT 104) "carry_forms"),kn P 121,kn P 122,tE,fE,(tS 1508 ["rows","stem","opcode"]),tE,(kX (kT 105) "string_forms"),kn P 123,kn P 124,tE,fE,tE,tE,(kX (kT 106) "nop_forms"),kn P 125,kn P 126,tE,fE,(tS 1523 ["rows"]),tE,(kX (kT 107) "flow_forms"),kn P 127,kn P 128,tE,fE,(tS 1530 ["name","stem"]),tE,(kX (kT 108) "condition_of")]
noncomputable def LF(P:Params):List Obj:=[kn P 129,kn P 130,tE,fE,(tS 1538 ["name"]),tE,(kX (kT 109) "where_next"),kn P 131,kn P 132,tE,zp,(kD P (.type "dict") [kN "__module__" 1551 Jc,kN "__qualname__" 1553 (kS "Row" 1552),kN "__firstlineno__" 1555 (kI 679 1554),kN "__init__" 1566 (kR 1046),kN "end" 1573 (kR 1053),kN "told" 1580 (kR 1060),kN "__static_attributes__" 1585 (kR 1061)] 7),tE,(fT [(681,4,1045),(687,4,1052),(690,4,1059)]),(cC "Row" 1546 679 1036 1549),(zf 1038 1035 Jc),tE,fE,(tS 1559 ["self","at","octets","text","instruction"]),tE,(kX (kM 111 0) "Row.__init__"),kn P 133,kn P 134,tE,fE,(tS 1570 ["self"]),tE,(kX (kM 111 1) "Row.end"),kn P 135,kn P 136,tE,fE]
noncomputable def Ma(P:Params):List Obj:=[(tS 1577 ["self"]),tE,(kX (kM 111 2) "Row.told"),(cF "told" "Row.told" 1574 690 1 1054 1578),(kF (kM 111 2) "Row.told" vN Jc 1059),(tS 1581 ["at","instruction","octets","text"]),kn P 137,kn P 138,(zd 1586 1063),(zw 1588 1063),(zs 1063),(zi 1063),tE,fE,(tS 1596 ["instruction","operand"]),tE,(kX (kT 112) "distance_of"),kn P 139,kn P 140,tE,fE,(tS 1604 ["row","distance"]),tE,(kX (kT 113) "target_of"),kn P 141,kn P 142,tE,fE,(tS 1612 ["iset","octets","at","found"]),tE,(kX (kT 114) "next_start"),kn P 143]
noncomputable def LD(P:Params):List Obj:=[kn P 144,kn P 145,tE,fE,(tS 1623 ["iset","octets","at","found"]),tE,(kX (kT 115) "starts"),kn P 146,kn P 147,tE,fE,(tS 1633 ["iset","octets","one","other"]),tE,(kX (kT 116) "resync"),kn P 148,kn P 149,tE,fE,(tS 1643 ["iset","octets","found","at","one","end"]),tE,(kX (kT 117) "plain_rows"),kn P 150,kn P 151,tE,fE,(tS 1655 ["iset","octets","found","row","target"]),tE,(kX (kT 118) "labels_of"),kn P 152,kn P 153,tE,fE]
noncomputable def Mm(P:Params):List Obj:=[(tS 1666 ["iset","octets","found","row","target"]),tE,(kX (kT 119) "references"),kn P 154,kn P 155,tE,fE,(tS 1677 ["row"]),tE,(kX (kT 120) "way_behind"),kn P 156,kn P 157,tE,fE,(kX (kT 121) "leaders"),kn P 158,kn P 159,tE,zp,(kD P (.type "dict") [kN "__module__" 1694 Jc,kN "__qualname__" 1696 (kS "Block" 1695),kN "__firstlineno__" 1698 (kI 755 1697),kN "__init__" 1708 (kR 1150),kN "told" 1715 (kR 1157),kN "__static_attributes__" 1719 (kR 1158)] 6),tE,(fT [(757,4,1149),(762,4,1156)]),(cC "Block" 1689 755 1140 1692),(zf 1142 1139 Jc),tE,fE,(tS 1702 ["self","begin","end","follows"]),tE,(kX (kM 122 0) "Block.__init__"),kn P 160,kn P 161,tE]
noncomputable def KY(P:Params):List Obj:=[fE,(tS 1712 ["self"]),tE,(kX (kM 122 1) "Block.told"),kn P 162,kn P 163,(tS 1716 ["begin","end","follows"]),kn P 164,kn P 165,(zd 1720 1160),(zw 1722 1160),(zs 1160),(zi 1160),tE,fE,(tS 1730 ["row","begins","way","target","found"]),tE,(kX (kT 123) "follows_of"),kn P 166,kn P 167,tE,fE,(kX (kT 124) "blocks"),kn P 168,kn P 169,tE,fE,(tS 1747 ["iset","octets","at","found","todo","spot","one","way","distance","end"]),tE,(kX (kT 125) "flow_from"),kn P 170,kn P 171]
noncomputable def K8(P:Params):List Obj:=[tE,fE,(kX (kT 127) "codes_of"),kn P 172,kn P 173,tE,zp,(kD P (.type "dict") [kN "__module__" 1775 DA,kN "__qualname__" 1777 (kS "InstructionSet" 1776),kN "__firstlineno__" 1779 (kI 799 1778),kN "__init__" 1790 (kR 1202),kN "told" 1796 (kR 1207),kN "find" 1804 (kR 1214),kN "has" 1812 (kR 1221),kN "at" 1822 (kR 1228),kN "names" 1829 (kR 1235),kN "codes" 1836 (kR 1242),kN "counts" 1844 (kR 1249),kN "memory_sizes" 1852 (kR 1256),kN "__static_attributes__" 1856 (kR 1257)] 13),tE,(fT [(801,4,1201),(816,4,1206),(819,4,1213),(822,4,1220),(825,4,1227),(828,4,1234),(831,4,1241),(834,4,1248),(837,4,1255)]),(cC "InstructionSet" 1770 799 1192 1773),(zf 1194 1191 DA),tE,fE,(tS 1783 ["self","forms","number","form","code"]),tE,(kX (kM 128 0) "InstructionSet.__init__"),kn P 174,kn P 175,tE,fE,(kX (kM 128 1) "InstructionSet.told"),(kZ "code" [(kS "told" 1791),(kS "InstructionSet.told" 1792),(kS "/claim/cut.py" 1793),(kI 816 0),(kI 1 0),(kI 0 0),(kI 0 0),(kI 3 0),(kR 1203),(.bool true),(kI 181 0),(kR 1204),vN,vN,vN,(kR 1205),(kI 1794 0),(kI 816 0),(kS "/claim/cut.py" 1795)]),(kF (kM 128 1) "InstructionSet.told" vN DA 1206),tE,fE,(tS 1800 ["self","name"]),tE,(kX (kM 128 2) "InstructionSet.find"),(cF "find" "InstructionSet.find" 1797 819 2 1208 1802),(kF (kM 128 2) "InstructionSet.find" vN DA 1213),tE]
noncomputable def Mu(P:Params):List Obj:=[fE,(tS 1808 ["self","name"]),tE,(kX (kM 128 3) "InstructionSet.has"),(cF "has" "InstructionSet.has" 1805 822 2 1215 1810),(kF (kM 128 3) "InstructionSet.has" vN DA 1220),tE,fE,(tS 1816 ["self","must","escape","opcode"]),tE,(kX (kM 128 4) "InstructionSet.at"),kn P 176,kn P 177,tE,fE,(tS 1826 ["self"]),tE,(kX (kM 128 5) "InstructionSet.names"),(cF "names" "InstructionSet.names" 1823 828 1 1229 1827),(kF (kM 128 5) "InstructionSet.names" vN DA 1234),tE,fE,(tS 1833 ["self"]),tE,(kX (kM 128 6) "InstructionSet.codes"),(cF "codes" "InstructionSet.codes" 1830 831 1 1236 1834),(kF (kM 128 6) "InstructionSet.codes" vN DA 1241),tE,fE,(tS 1840 ["self","name"]),tE,(kX (kM 128 7) "InstructionSet.counts")]
noncomputable def Mc(P:Params):List Obj:=[(cF "counts" "InstructionSet.counts" 1837 834 2 1243 1842),(kF (kM 128 7) "InstructionSet.counts" vN DA 1248),tE,fE,(tS 1848 ["self","name"]),tE,(kX (kM 128 8) "InstructionSet.memory_sizes"),(cF "memory_sizes" "InstructionSet.memory_sizes" 1845 837 2 1250 1850),(kF (kM 128 8) "InstructionSet.memory_sizes" vN DA 1255),(tS 1853 ["by_code","by_name","forms"]),kn P 178,kn P 179,(zd 1857 1259),(zw 1859 1259),(zs 1259),(zi 1259),tE,fE,tE,tE,(kX (kT 130) "_law_base"),kn P 180,kn P 181,kn P 182,tE,fE,tE,tE,(kX (kT 132) "_law_plain"),kn P 183,kn P 184,tE]
noncomputable def ME(P:Params):List Obj:=[fE,(tS 1896 ["script","store","cell"]),tE,(kX (kT 133) "_law_pen"),kn P 185,kn P 186,tE,fE,(tS 1905 ["pen","many","found"]),tE,(kX (kT 134) "_law_take"),kn P 187,kn P 188,tE,fE,(kX (kT 135) "_law_row"),kn P 189,kn P 190,tE,fE,(tS 1920 ["octets","at","found"]),tE,(kX (kT 136) "_law_starts"),kn P 191,kn P 192,tE,fE,(kX (kT 137) "_law_leaders"),kn P 193,kn P 194,tE,fE]
noncomputable def LK(P:Params):List Obj:=[(kX (kT 138) "_law_blocks"),kn P 195,kn P 196,tE,fE,(tS 1941 ["octets","begin","waiting","found","at","word","end","target"]),tE,(kX (kT 139) "_law_reached"),kn P 197,kn P 198,tE,fE,(kX (kT 140) "law"),kn P 199,kn P 200]
noncomputable def NF(P:Params):List (List Obj):=[Nv P,NW P,Nk P,Nw P,M9 P,Nn P,N3 P,M8 P,Nc P,NO P,Mb P,Ll P,Mj P,LB P,Md P,K5 P,Ly P,Mw P,Le P,Lj P,Lb P,KS P,KW P,LO P,Lm P,Lq P,La P,L6 P,KR P,Lo P,K0 P,KX P,LF P,Ma P,LD P,Mm P,KY P,K8 P,Mu P,Mc P,ME P,LK P]
noncomputable def hO(P:Params)(i:Nat):Obj:=GC (Jr (NF P) (i/32)) (i%32)
noncomputable abbrev bN:=BT.node
noncomputable abbrev b0:=BT.nil
noncomputable def tp(h:Nat->Obj)(b c x a:Obj)(u:Nat->BT):BT:=(bN (h 0) (bN (h 1) (bN c (bN (h 7) (bN (h 15) (bN (h 31) (bN (h 63) (u 127) (u 191)) (bN (h 95) (u 159) (u 223))) (bN (h 47) (bN (h 79) (u 143) (u 207)) (bN (h 111) (u 175) (u 239)))) (bN (h 23) (bN (h 39) (bN (h 71) (u 135) (u 199)) (bN (h 103) (u 167) (u 231))) (bN (h 55) (bN (h 87) (u 151) (u 215)) (bN (h 119) (u 183) (u 247))))) (bN (h 11) (bN (h 19) (bN (h 35) (bN (h 67) (u 131) (u 195)) (bN (h 99) (u 163) (u 227))) (bN (h 51) (bN (h 83) (u 147) (u 211)) (bN (h 115) (u 179) (u 243)))) (bN (h 27) (bN (h 43) (bN (h 75) (u 139) (u 203)) (bN (h 107) (u 171) (u 235))) (bN (h 59) (bN (h 91) (u 155) (u 219)) (bN (h 123) (u 187) (u 251)))))) (bN (h 5) (bN (h 9) (bN (h 17) (bN (h 33) (bN (h 65) (u 129) (u 193)) (bN (h 97) (u 161) (u 225))) (bN (h 49) (bN (h 81) (u 145) (u 209)) (bN (h 113) (u 177) (u 241)))) (bN (h 25) (bN (h 41) (bN (h 73) (u 137) (u 201)) (bN (h 105) (u 169) (u 233))) (bN (h 57) (bN (h 89) (u 153) (u 217)) (bN (h 121) (u 185) (u 249))))) (bN (h 13) (bN (h 21) (bN (h 37) (bN (h 69) (u 133) (u 197)) (bN (h 101) (u 165) (u 229))) (bN (h 53) (bN (h 85) (u 149) (u 213)) (bN (h 117) (u 181) (u 245)))) (bN (h 29) (bN (h 45) (bN (h 77) (u 141) (u 205)) (bN (h 109) (u 173) (u 237))) (bN (h 61) (bN (h 93) (u 157) (u 221)) (bN (h 125) (u 189) (u 253))))))) (bN b (bN (h 4) (bN (h 8) (bN (h 16) (bN (h 32) (bN (h 64) (u 128) (u 192)) (bN (h 96) (u 160) (u 224))) (bN (h 48) (bN (h 80) (u 144) (u 208)) (bN (h 112) (u 176) (u 240)))) (bN (h 24) (bN (h 40) (bN (h 72) (u 136) (u 200)) (bN (h 104) (u 168) (u 232))) (bN (h 56) (bN (h 88) (u 152) (u 216)) (bN (h 120) (u 184) (u 248))))) (bN x (bN (h 20) (bN (h 36) (bN (h 68) (u 132) (u 196)) (bN (h 100) (u 164) (u 228))) (bN (h 52) (bN (h 84) (u 148) (u 212)) (bN (h 116) (u 180) (u 244)))) (bN (h 28) (bN (h 44) (bN (h 76) (u 140) (u 204)) (bN (h 108) (u 172) (u 236))) (bN (h 60) (bN (h 92) (u 156) (u 220)) (bN (h 124) (u 188) (u 252)))))) (bN (h 6) (bN (h 10) (bN (h 18) (bN (h 34) (bN (h 66) (u 130) (u 194)) (bN (h 98) (u 162) (u 226))) (bN (h 50) (bN (h 82) (u 146) (u 210)) (bN (h 114) (u 178) (u 242)))) (bN (h 26) (bN (h 42) (bN (h 74) (u 138) (u 202)) (bN (h 106) (u 170) (u 234))) (bN (h 58) (bN (h 90) (u 154) (u 218)) (bN (h 122) (u 186) (u 250))))) (bN (h 14) (bN (h 22) (bN (h 38) (bN (h 70) (u 134) (u 198)) (bN (h 102) (u 166) (u 230))) (bN (h 54) (bN (h 86) (u 150) (u 214)) (bN (h 118) (u 182) (u 246)))) (bN (h 30) (bN a (bN (h 78) (u 142) (u 206)) (bN (h 110) (u 174) (u 238))) (bN (h 62) (bN (h 94) (u 158) (u 222)) (bN (h 126) (u 190) (u 254))))))))
noncomputable def s3(g:Nat->Obj)(i:Nat):BT:=(bN (g i) (bN (g (i+128)) b0 b0) (bN (g (i+256)) b0 b0))
noncomputable def s5(g:Nat->Obj)(i:Nat):BT:=(bN (g i) (bN (g (i+128)) (bN (g (i+384)) b0 b0) b0) (bN (g (i+256)) (bN (g (i+512)) b0 b0) b0))
noncomputable def s6(g:Nat->Obj)(i:Nat):BT:=(bN (g i) (bN (g (i+128)) (bN (g (i+384)) b0 b0) (bN (g (i+640)) b0 b0)) (bN (g (i+256)) (bN (g (i+512)) b0 b0) b0))
noncomputable def s9(g:Nat->Obj)(i:Nat):BT:=(bN (g i) (bN (g (i+128)) (bN (g (i+384)) (bN (g (i+896)) b0 b0) b0) (bN (g (i+640)) b0 b0)) (bN (g (i+256)) (bN (g (i+512)) (bN (g (i+1024)) b0 b0) b0) (bN (g (i+768)) b0 b0)))
noncomputable def N0(g:Nat->Obj)(i:Nat):BT:=(bN (g i) (bN (g (i+128)) (bN (g (i+384)) (bN (g (i+896)) b0 b0) b0) (bN (g (i+640)) (bN (g (i+1152)) b0 b0) b0)) (bN (g (i+256)) (bN (g (i+512)) (bN (g (i+1024)) b0 b0) b0) (bN (g (i+768)) b0 b0)))
noncomputable def ov(h:Nat->Obj)(x:Obj)(i:Nat):Obj:=bif Nat.beq i 290 then x else h i
noncomputable def Nh(h:Nat->Obj)(b c x d a:Obj):BT:=(bN (h 0) (bN (h 1) (bN c (bN (h 7) b0 b0) (bN (h 11) b0 b0)) (bN (h 5) (bN (h 9) b0 b0) (bN (h 13) b0 b0))) (bN b (bN (h 4) (bN (h 8) b0 b0) (bN x b0 b0)) (bN (h 6) (bN (h 10) b0 b0) (bN (h 14) b0 b0))))
noncomputable def KL(P:Params):BT:=Nh (hO P) (boot_o_2 P) (gD P 9 KP) fE fE fE
noncomputable def NK(h:Nat->Obj)(c d a b x:Obj):BT:=tp h c d a b λi=>s3 (ov h x) i
noncomputable def MM(P:Params):BT:=NK (hO P) (kD P vN [kN "type.__subclasses__.Exception.0" 230 (kI 46 0),kN "type.__subclasses__.Exception.n" 231 (kI 1 0)] 2) (gD P 40 hW) (fT [(1,0,20),(5,0,27),(16,0,55),(18,0,67),(20,0,79),(22,0,91),(24,0,98),(26,0,105),(31,0,112),(38,0,119),(47,0,126),(49,0,133),(51,0,140),(53,0,147),(55,0,154),(57,0,161),(65,0,168),(71,0,175),(81,0,182),(112,0,244),(114,0,251),(119,0,258),(132,0,300),(143,0,333),(155,0,367),(170,0,408),(198,0,461)]) (kK (.type "type") [(some (kR 22)),none,(some (kS "MintError" 196)),(some (kS "MintError" 204)),(some (.builtin "Exception.__new__")),(some (.bool true))] "MintError" [(.type "Exception")] [(kR 46),(.type "Exception"),(.type "BaseException"),(.type "object")] 45 "MintError" [(kR 59),(kR 71),(kR 83)]) (kK (.type "type") [none,none,(some (kS "Operand" 487)),(some (kS "Operand" 495)),(some (.builtin "object.__new__")),(some (.bool true))] "Operand" [(.type "object")] [(kR 290),(.type "object")] 289 "Operand" [(kR 325),(kR 359),(kR 400),(kR 453)])
noncomputable def Nt(h:Nat->Obj)(c d a b x:Obj):BT:=tp h c d a b λi=>bif Nat.ble 208 i then s5 (ov h x) i else s6 (ov h x) i
noncomputable def MZ(P:Params):BT:=Nt (hO P) (kD P vN [kN "type.__subclasses__.Exception.0" 230 (kI 46 0),kN "type.__subclasses__.Exception.n" 231 (kI 1 0)] 2) (gD P 84 xt) (fT [(1,0,20),(5,0,27),(16,0,55),(18,0,67),(20,0,79),(22,0,91),(24,0,98),(26,0,105),(31,0,112),(38,0,119),(47,0,126),(49,0,133),(51,0,140),(53,0,147),(55,0,154),(57,0,161),(65,0,168),(71,0,175),(81,0,182),(112,0,244),(114,0,251),(119,0,258),(132,0,300),(143,0,333),(155,0,367),(170,0,408),(198,0,461),(229,0,516),(251,0,572),(261,0,579),(269,0,586),(276,0,593),(280,0,600),(284,0,607),(291,0,614),(293,0,621),(295,0,628),(297,0,635),(301,0,642),(311,0,649),(323,0,656),(340,0,663),(344,0,670),(346,0,677),(352,0,684),(362,0,691),(402,0,748),(404,0,755),(426,0,762),(446,0,769),(456,0,797)]) (kK (.type "type") [(some (kR 22)),none,(some (kS "MintError" 196)),(some (kS "MintError" 204)),(some (.builtin "Exception.__new__")),(some (.bool true))] "MintError" [(.type "Exception")] [(kR 46),(.type "Exception"),(.type "BaseException"),(.type "object")] 45 "MintError" [(kR 59),(kR 71),(kR 83)]) (kK (.type "type") [none,none,(some (kS "Operand" 487)),(some (kS "Operand" 495)),(some (.builtin "object.__new__")),(some (.bool true))] "Operand" [(.type "object")] [(kR 290),(.type "object")] 289 "Operand" [(kR 325),(kR 359),(kR 400),(kR 453)])
noncomputable def NH(h:Nat->Obj)(c d a b x:Obj):BT:=tp h c d a b λi=>bif Nat.ble 175 i then s9 (ov h x) i else N0 (ov h x) i
noncomputable def KM(P:Params):BT:=NH (hO P) (kD P vN [kN "type.__subclasses__.Exception.0" 230 (kI 46 0),kN "type.__subclasses__.Exception.n" 231 (kI 1 0)] 2) (gD P 139 (kS "law_qd0117_01" 1864)) (fT [(1,0,20),(5,0,27),(16,0,55),(18,0,67),(20,0,79),(22,0,91),(24,0,98),(26,0,105),(31,0,112),(38,0,119),(47,0,126),(49,0,133),(51,0,140),(53,0,147),(55,0,154),(57,0,161),(65,0,168),(71,0,175),(81,0,182),(112,0,244),(114,0,251),(119,0,258),(132,0,300),(143,0,333),(155,0,367),(170,0,408),(198,0,461),(229,0,516),(251,0,572),(261,0,579),(269,0,586),(276,0,593),(280,0,600),(284,0,607),(291,0,614),(293,0,621),(295,0,628),(297,0,635),(301,0,642),(311,0,649),(323,0,656),(340,0,663),(344,0,670),(346,0,677),(352,0,684),(362,0,691),(402,0,748),(404,0,755),(426,0,762),(446,0,769),(456,0,797),(507,0,853),(515,0,858),(517,0,865),(522,0,872),(529,0,879),(533,0,886),(538,0,893),(546,0,900),(549,0,907),(557,0,914),(562,0,921),(568,0,928),(584,0,933),(592,0,940),(602,0,945),(611,0,953),(619,0,961),(625,0,968),(632,0,975),(634,0,982),(636,0,989),(638,0,996),(640,0,1003),(648,0,1010),(650,0,1017),(659,0,1024),(664,0,1031),(679,0,1038),(692,0,1073),(697,0,1080),(702,0,1087),(705,0,1095),(711,0,1102),(719,0,1109),(727,0,1116),(734,0,1123),(741,0,1130),(743,0,1135),(755,0,1142),(764,0,1170),(771,0,1175),(780,0,1182),(795,0,1187),(799,0,1194),(840,0,1269),(843,0,1277),(845,0,1284),(850,0,1291),(858,0,1296),(869,0,1303),(875,0,1308),(881,0,1313),(888,0,1320),(898,0,1325)]) (kK (.type "type") [(some (kR 22)),none,(some (kS "MintError" 196)),(some (kS "MintError" 204)),(some (.builtin "Exception.__new__")),(some (.bool true))] "MintError" [(.type "Exception")] [(kR 46),(.type "Exception"),(.type "BaseException"),(.type "object")] 45 "MintError" [(kR 59),(kR 71),(kR 83)]) (kK (.type "type") [none,none,(some (kS "Operand" 487)),(some (kS "Operand" 495)),(some (.builtin "object.__new__")),(some (.bool true))] "Operand" [(.type "object")] [(kR 290),(.type "object")] 289 "Operand" [(kR 325),(kR 359),(kR 400),(kR 453)])
noncomputable abbrev pE:Program:=PySem.Challenge.pw_qd0117_01
noncomputable abbrev bE:List Stmt:=behindTheImports pE
noncomputable abbrev qE:Pos:=⟨0,0,0,0⟩
noncomputable abbrev zC:Env:={scope:=pE.main.scope,locals:=mainNs,globals:=mainNs,cells:=[],code:=.ref 13,frame:=some 14}
noncomputable abbrev cE:Code:=.body bE zC
noncomputable abbrev EE:Option Value:=some (.ref 6)
noncomputable abbrev yG (P : Params) (t : Params → BT) (n k : Nat) (os : OsState) : SharedT := ⟨t P, n, {}, #[], {}, k, os⟩
noncomputable abbrev H1 (P : Params) : Heap := absHeap (KM P) 1327 {}
section
variable(w:World)(os:OsState)
theorem Ij:(fencedOpening treeTable pE w 20000).map (λs=>(s.heap,s.gens,s.drawn,s.toks))=some (boot_heap w.params,#[],boot_drawn,boot_toks):=boot_open (p:=pE) (N:=20000) (by kernel_rfl) (by kernel_rfl) (λs=>by kernel_rfl) w
theorem GS:((boot_heap w.params).isNs mainGlobals&&(#[]:Array GenState).size==0,(boot_heap w.params).objs.size,(boot_heap w.params).nsMap mainGlobals "__annotations__")=(true,11,EE):=by kernel_rfl
theorem Ja:topGo treeTable pE w 11 EE 12 ⟨boot_heap w.params,#[],boot_drawn,boot_toks,os⟩ (topStub pE)=some ((yG w.params KL 15 187 os).abs,⟨denote treeTable cE,cE,qE,[topFrame qE]⟩):=by kernel_rfl
theorem Ec:segRun treeTable pE w 11 EE 1 1 (yG w.params KL 15 187 os).abs (blockOf bE zC cE qE [topFrame qE])=some (.next,(yG w.params KL 15 187 os).abs,cE,qE):=by rw[PySem.W.Fast.te14374325043358763698,PySem.W.Fast.te14364793385576792824];kernel_rfl
theorem Mn:segRunT treeTable pE w 11 EE 1 3933 (yG w.params KL 15 187 os) (piecesOf (bE.take 34) zC cE qE [topFrame qE])=some (.next,yG w.params MM 511 817 os,cE,⟨198,0,222,16⟩):=by rw[PySem.W.Fast.te10110043849684766642,PySem.W.Fast.te14364793385576792824];kernel_rfl
theorem Lp:segRunT treeTable pE w 11 EE 1 2266 (yG w.params MM 511 817 os) (piecesOf ((bE.drop 34).take 48) zC cE ⟨198,0,222,16⟩ [topFrame qE])=some (.next,yG w.params MZ 848 1313 os,cE,⟨456,0,506,30⟩):=by rw[PySem.W.Fast.te10110043849684766642,PySem.W.Fast.te14364793385576792824];kernel_rfl
theorem LC:segRunT treeTable pE w 11 EE 1 2629 (yG w.params MZ 848 1313 os) (piecesOf (bE.drop 82) zC cE ⟨456,0,506,30⟩ [topFrame qE])=some (.next,yG w.params KM 1327 1958 os,cE,⟨898,0,919,122⟩):=by rw[PySem.W.Fast.te10110043849684766642,PySem.W.Fast.te14364793385576792824];kernel_rfl
theorem Jh:topRun treeTable pE w 11 EE 2 (yG w.params KM 1327 1958 os).abs ⟨doneF .next,cE,⟨898,0,919,122⟩,[topFrame qE]⟩=some (yG w.params KM 1327 1958 os).abs:=by rw[PySem.W.Fast.te14082659384304107361,PySem.W.Fast.te14364793385576792824];kernel_rfl
theorem ET:bE=bE.take 34++((bE.drop 34).take 48++(bE.drop 82++[])):=by kernel_rfl
theorem J5 : topRun treeTable pE w 11 EE (12 + (1 + (3933 + (2266 + (2629 + 2))))) ⟨boot_heap w.params, #[], boot_drawn, boot_toks, os⟩ (topStub pE) = some ⟨H1 w.params, #[], {}, 1958, os⟩ := by
  have k := piece_app (rest := []) (segRun_of (LC w os)) (Jh w os)
  have k2 := piece_app (segRun_of (Lp w os)) k
  have k1 := piece_app (segRun_of (Mn w os)) k2
  rw [← ET] at k1
  exact go_top (Ja w os) (piece_block (Ec w os) k1)
end
noncomputable def qV:Program:={pE with main:={pE.main with body:=[kT 140]}}
noncomputable def lsN:List PySem.Str:=(bE.dropLast.flatMap bindsAtTop).filter λx=>x !=Str.ofString "__name__"
noncomputable abbrev Hf:RowW:=PySem.Challenge.rw_qd0117_01.row.toRowW
noncomputable def KJ(s:Shared):Bool:=xlAt qV [] s&&recOk (RowW.records Hf) s
section
variable(w:World)(os:OsState)
noncomputable abbrev s1 (P : Params) (os : OsState) : Shared := ⟨H1 P, #[], {}, 1958, os⟩
theorem No:staticsOk (importedModules pE.main.body) (boot_heap w.params) (H1 w.params)=true:=by kernel_rfl
theorem Ni:namesBound pE (H1 w.params)=true:=by kernel_rfl
theorem Nl:gensDone (s1 w.params os)=true:=by kernel_rfl
theorem NS:laidKept (boot_heap w.params) (H1 w.params)=true:=by kernel_rfl
theorem N5:seen ((recsOf qV).map (·.name)) (ownsOf qV) [] {s1 w.params os with gens:=#[]}=expectedOf qV:=by rw[PySem.W.Fast.te5160383126252970620];kernel_rfl
theorem Nq:(H1 w.params).bltView=bltViewBooted:=by kernel_rfl
theorem NZ:(H1 w.params).keysOk (looseW qV lsN) ((recsOf qV).map (·.name)) ((litsOf qV).map (·.1)) ((clssOf qV (looseW qV lsN)).map (·.name))=true:=by rw[PySem.W.Fast.te10880121769531294198];kernel_rfl
theorem Nm:(H1 w.params).accountedOkI (importedModules pE.main.body)=true:=by rw[PySem.W.Fast.te14722251495701143533];kernel_rfl
theorem ND:((H1 w.params).isNs mainGlobals&&(H1 w.params).isNs builtinsNs&&tablesOk qV (H1 w.params))=true:=by kernel_rfl
theorem MC:KJ (s1 w.params os)=true:=by kernel_rfl
theorem LG:tabsOk qV (s1 w.params os)=true:=by rw[PySem.W.Fast.te479339242167458305];kernel_rfl
theorem K1:pinSeenD qV (drecsOf qV) (s1 w.params os)=pinGoodD (drecsOf qV):=by kernel_rfl
theorem My:plainSeenE qV (looseW qV lsN) (s1 w.params os)=plainGoodE qV (looseW qV lsN):=by kernel_rfl
theorem Ln:plainSeenD qV lsN (s1 w.params os)=plainGoodD qV lsN:=by kernel_rfl
theorem KZ:wideSeen qV (s1 w.params os)=wideGood qV:=by kernel_rfl
theorem MA:clsSeenW qV lsN (s1 w.params os)=clsGoodW qV lsN:=by kernel_rfl
theorem Li:iV (H1 w.params).objs.toList 0 Je=FL w.params:=by kernel_rfl
end
noncomputable abbrev dL:DefRec:=⟨"law",At (kT 140),bz (kT 140),cb (kT 140),⟨898,0,919,122⟩⟩
def qT(w:World):Prop:=WalkO qV lsN (XL qV []) (λu h=>u=w/\t9.says u h) Hf dL [] λf vs=>PySem.call f vs
noncomputable def w:World:=@Classical.epsilon World ⟨⟨λU U=>0,{strHash:=λU=>0,shareClass:=λU=>0,mergeTok:=id,idOf:=λU=>0,idOfShared:=λU U=>0,followText:=λU=>false,idOfImm:=λU=>0}⟩⟩ λw=>¬qT w
theorem IY(h:qT w):WalkO qV lsN (XL qV []) t9.says Hf dL [] λf vs=>PySem.call f vs:=have a:∀u,qT u:=λu=>Classical.byContradiction λn=>@Classical.epsilon_spec World (λw=>¬qT w) ⟨u,n⟩ h;λu s₀ s b m G Y=>a u u s₀ s b m G ⟨rfl,Y⟩
noncomputable abbrev P0:Program:=PySem.Challenge.pw_qd0117_01
noncomputable abbrev uS(s:Shared)(h:Heap)(t:Nat):Shared:={s with heap:=h,toks:=t}
abbrev Sb(H H':Addr->Obj->Prop):Prop:=∀a o,H a o->H' a o
abbrev Hk(h h':Heap):Prop:=∀a o,h.get? a=some o->h'.get? a=some o
set_option genInjectivity true in set_option genCtorIdx true in inductive D where|none|bool(b:Bool)|int(i:Int)|sym(i:Int)|str(x:PySem.Str)|bytes(b:Array UInt8)|tuple(ds:List D)|list(ds:List D)|slist(ds:List D)|dict(es:List (Int×D))|dictT(es:List (List Int×D))|inst(C:Addr)(fs:List (PySem.Str×D))|recd(c:String)(ds:List D)|atom(v:Value)|any
theorem lk[BEq a][LawfulBEq a]{l:List (a×b)}(h:((y,v)::l).lookup x=some r):(x=y/\v=r)\/l.lookup x=some r:=by rw[AK]at h;cases q:x==y with|true=>rw[q]at h;exact .inl ⟨Ac.mp q,A0 h⟩|false=>rw[q]at h;exact .inr h
theorem cI{B:Prop}(k:∀G:Prop,(B->G)->G):B:=k B id
theorem N4{B:b->Prop}(a:b)(k:∀G:b->Prop,(∀a,B a->G a)->G a):B a:=k B λU=>id
theorem DN{I B:c->d->Prop}(k:∀G:c->d->Prop,(∀a b,B a b->G a b)->∀a b,I a b->G a b):∀a b,I a b->B a b:=k B λU U=>id
noncomputable abbrev dQ(vs:List Value)(n:Nat):Obj:={cls:=.type "tuple",data:=.seq vs.toArray n}
noncomputable abbrev za(c:String)(vs:List Value):Obj:={cls:=.type c,data:=.fields vs.toArray}
noncomputable abbrev bA(vs:List Value)(n:Nat):Obj:={cls:=.type "list",data:=.seq vs.toArray n}
inductive Rd where|v(v:Value)(d:D)|l(vs:List Value)(ds:List D)|e(es:List DictEntry)(ds:List (Int×D))|t(es:List DictEntry)(ds:List (List Int×D))|f(es:List DictEntry)(ds:List (PySem.Str×D))
inductive Dn(H:Addr->Obj->Prop):Rd->Prop|none:Dn H (.v .none .none)|bool(b:Bool):Dn H (.v (.bool b) (.bool b))|int(i:Int)(t:Tok):Dn H (.v (.int i t) (.int i))|sym(i:Int)(t:Tok):Dn H (.v (.int i t) (.sym i))|str(x:PySem.Str)(t:Tok):Dn H (.v (.str x t) (.str x))|bytes(b:Array UInt8)(t:Tok):Dn H (.v (.bytes b t) (.bytes b))|tuple{a:Addr}{vs:List Value}{n:Nat}{ds:List D}:H a (dQ vs n)->Dn H (.l vs ds)->Dn H (.v (.ref a) (.tuple ds))|list{a:Addr}{vs:List Value}{n:Nat}{ds:List D}:H a (bA vs n)->Dn H (.l vs ds)->Dn H (.v (.ref a) (.list ds))|slist{a:Addr}{vs:List Value}{n:Nat}{ds:List D}:H a (bA vs n)->Dn H (.l vs ds)->Dn H (.v (.ref a) (.slist ds))|dict{a:Addr}{es:List DictEntry}{n:Nat}{ds:List (Int×D)}:H a (dictOf es n)->Dn H (.e es ds)->(ds.map (·.1)).Nodup/\(a==sysModules)=false->Dn H (.v (.ref a) (.dict ds))|dictT{a:Addr}{es:List DictEntry}{n:Nat}{ds:List (List Int×D)}:H a (dictOf es n)->Dn H (.t es ds)->(ds.map (·.1)).Nodup/\(a==sysModules)=false->Dn H (.v (.ref a) (.dictT ds))|inst{x C dx:Addr}{es:List DictEntry}{n:Nat}{fs:List (PySem.Str×D)}:H x (instObj C dx)->H dx (dictOf es n)->Dn H (.f es fs)->Dn H (.v (.ref x) (.inst C fs))|recd{a:Addr}{c:String}{vs:List Value}{ds:List D}:H a (za c vs)->Dn H (.l vs ds)->Dn H (.v (.ref a) (.recd c ds))|atom(v:Value):Dn H (.v v (.atom v))|any(v:Value):Dn H (.v v .any)|nil:Dn H (.l [] [])|cons{v:Value}{vs:List Value}{d:D}{ds:List D}:Dn H (.v v d)->Dn H (.l vs ds)->Dn H (.l (v::vs) (d::ds))|enil:Dn H (.e [] [])|econs{i:Int}{t:Tok}{v:Value}{es:List DictEntry}{d:D}{ds:List (Int×D)}:Dn H (.v v d)->Dn H (.e es ds)->Dn H (.e (⟨hashInt i,.int i t,v⟩::es) ((i,d)::ds))|tnil:Dn H (.t [] [])|tcons{ks:List Int}{a:Addr}{us:List Value}{n:Nat}{v:Value}{es:List DictEntry}{d:D}{ds:List (List Int×D)}:H a (dQ us n)->IntsAre us ks->Dn H (.v v d)->Dn H (.t es ds)->Dn H (.t (⟨tupleKeyHash (intKind P0 w) ks,.ref a,v⟩::es) ((ks,d)::ds))|fnil:Dn H (.f [] [])|fcons{h:Int}{x:PySem.Str}{t:Tok}{v:Value}{es:List DictEntry}{d:D}{ds:List (PySem.Str×D)}:Dn H (.v v d)->Dn H (.f es ds)->Dn H (.f (⟨h,.str x t,v⟩::es) ((x,d)::ds))
abbrev cx(H:Addr->Obj->Prop)(v:Value)(d:D):Prop:=Dn H (.v v d)
abbrev bM(H:Addr->Obj->Prop)(vs:List Value)(ds:List D):Prop:=Dn H (.l vs ds)
abbrev hB(H:Addr->Obj->Prop)(es:List DictEntry)(ds:List (Int×D)):Prop:=Dn H (.e es ds)
abbrev kW(H:Addr->Obj->Prop)(es:List DictEntry)(ds:List (List Int×D)):Prop:=Dn H (.t es ds)
abbrev cQ(H:Addr->Obj->Prop)(es:List DictEntry)(ds:List (PySem.Str×D)):Prop:=Dn H (.f es ds)
theorem hB.nil:hB H [] []:=Dn.enil
theorem hB.cons(a:cx H v d)(b:hB H es ds):hB H (⟨hashInt i,.int i t,v⟩::es) ((i,d)::ds):=Dn.econs a b
theorem kW.nil:kW H [] []:=Dn.tnil
theorem kW.cons{n:Nat}(h:H a (dQ u n))(i:IntsAre u k)(b:cx H v d)(c:kW H es ds):kW H (⟨tupleKeyHash (intKind P0 w) k,.ref a,v⟩::es) ((k,d)::ds):=Dn.tcons h i b c
theorem cQ.nil:cQ H [] []:=Dn.fnil
theorem cQ.cons{x:PySem.Str}(a:cx H v d)(b:cQ H es ds):cQ H (⟨h,.str x t,v⟩::es) ((x,d)::ds):=Dn.fcons a b
inductive Lx(H:Addr->Obj->Prop)(v:Value)(ds:List D):Prop|mk(a:Addr)(vs:List Value)(n:Nat)(e:v=.ref a)(h:H a (dQ vs n))(d:bM H vs ds)
inductive F2(H:Addr->Obj->Prop)(v:Value)(ds:List D):Prop|mk(a:Addr)(vs:List Value)(n:Nat)(e:v=.ref a)(h:H a (bA vs n))(d:bM H vs ds)
inductive Kr(H:Addr->Obj->Prop)(v:Value)(P:List DictEntry->Prop)(N:Prop):Prop|mk(a:Addr)(es:List DictEntry)(n:Nat)(e:v=.ref a)(h:H a (dictOf es n))(d:P es)(c:N/\(a==sysModules)=false)
inductive K2(H:Addr->Obj->Prop)(v:Value)(C:Addr)(fs:List (PySem.Str×D)):Prop|mk(x dx:Addr)(es:List DictEntry)(n:Nat)(e:v=.ref x)(h:H x (instObj C dx))(k:H dx (dictOf es n))(d:cQ H es fs)
inductive KU(H:Addr->Obj->Prop)(v:Value)(c:String)(ds:List D):Prop|mk(a:Addr)(vs:List Value)(e:v=.ref a)(h:H a (za c vs))(d:bM H vs ds)
def JD(H:Addr->Obj->Prop)(v:Value):D->Prop|.none=>v=.none|.bool b=>v=.bool b|.int i=>∃t,v=.int i t|.sym i=>∃t,v=.int i t|.str x=>∃t,v=.str x t|.bytes b=>∃t,v=.bytes b t|.tuple ds=>Lx H v ds|.list ds=>F2 H v ds|.slist ds=>F2 H v ds|.dict ds=>Kr H v (λes=>hB H es ds) (ds.map (·.1)).Nodup|.dictT ds=>Kr H v (λes=>kW H es ds) (ds.map (·.1)).Nodup|.inst C fs=>K2 H v C fs|.recd c ds=>KU H v c ds|.atom u=>v=u|.any=>True
def Fu(H:Addr->Obj->Prop)(vs:List Value):List D->Prop|[]=>vs=[]|d::ds=>∃v u,vs=v::u/\cx H v d/\bM H u ds
inductive Mt(H:Addr->Obj->Prop)(es:List DictEntry)(x:PySem.Str)(d:D)(ds:List (PySem.Str×D)):Prop|mk(h:Int)(t:Tok)(v:Value)(r:List DictEntry)(e:es=⟨h,.str x t,v⟩::r)(k:cx H v d)(l:cQ H r ds)
def FH(H:Addr->Obj->Prop)(es:List DictEntry):List (PySem.Str×D)->Prop|[]=>es=[]|p::ds=>Mt H es p.1 p.2 ds
inductive MD(H:Addr->Obj->Prop)(es:List DictEntry)(i:Int)(d:D)(ds:List (Int×D)):Prop|mk(t:Tok)(v:Value)(r:List DictEntry)(e:es=⟨hashInt i,.int i t,v⟩::r)(k:cx H v d)(l:hB H r ds)
def FN(H:Addr->Obj->Prop)(es:List DictEntry):List (Int×D)->Prop|[]=>es=[]|p::ds=>MD H es p.1 p.2 ds
inductive Lk(H:Addr->Obj->Prop)(es:List DictEntry)(ks:List Int)(d:D)(ds:List (List Int×D)):Prop|mk(a:Addr)(us:List Value)(n:Nat)(v:Value)(r:List DictEntry)(e:es=⟨tupleKeyHash (intKind P0 w) ks,.ref a,v⟩::r)(h:H a (dQ us n))(i:IntsAre us ks)(k:cx H v d)(l:kW H r ds)
def Fg(H:Addr->Obj->Prop)(es:List DictEntry):List (List Int×D)->Prop|[]=>es=[]|p::ds=>Lk H es p.1 p.2 ds
def M7(H:Addr->Obj->Prop):Rd->Prop|.v v d=>JD H v d|.l vs ds=>Fu H vs ds|.e es ds=>FN H es ds|.t es ds=>Fg H es ds|.f es ds=>FH H es ds
theorem Dn.inv(h:Dn H k):M7 H k:=by cases h with|tuple a b=>exact⟨_,_,_,rfl,a,b⟩|list a b=>exact⟨_,_,_,rfl,a,b⟩|slist a b=>exact⟨_,_,_,rfl,a,b⟩|dict a b c=>exact⟨_,_,_,rfl,a,b,c⟩|dictT a b c=>exact⟨_,_,_,rfl,a,b,c⟩|inst a b c=>exact⟨_,_,_,_,rfl,a,b,c⟩|recd a b=>exact⟨_,_,rfl,a,b⟩|any=>trivial|none=>rfl|bool=>rfl|atom=>rfl|int=>exact⟨_,rfl⟩|sym=>exact⟨_,rfl⟩|str=>exact⟨_,rfl⟩|bytes=>exact⟨_,rfl⟩|cons a b=>exact⟨_,_,rfl,a,b⟩|econs a b=>exact⟨_,_,_,rfl,a,b⟩|tcons a b c d=>exact⟨_,_,_,_,_,rfl,a,b,c,d⟩|fcons a b=>exact⟨_,_,_,_,rfl,a,b⟩|_=>rfl
theorem cx.inv(h:cx H v d):JD H v d:=Dn.inv h
theorem bM.inv(h:bM H vs ds):Fu H vs ds:=Dn.inv h
theorem hB.inv(h:hB H es ds):FN H es ds:=Dn.inv h
theorem kW.inv(h:kW H es ds):Fg H es ds:=Dn.inv h
theorem cQ.inv(h:cQ H es ds):FH H es ds:=Dn.inv h
section
variable{H H':Addr->Obj->Prop}
theorem Dn.mono(hs:Sb H H')(h:Dn H k):Dn H' k:=Dn.rec (motive:=λk U=>Dn H' k) (.none) .bool .int .sym .str .bytes (λh U r=>.tuple (hs _ _ h) r) (λh U r=>.list (hs _ _ h) r) (λh U r=>.slist (hs _ _ h) r) (λh U k r=>.dict (hs _ _ h) r k) (λh U k r=>.dictT (hs _ _ h) r k) (λh k U r=>.inst (hs _ _ h) (hs _ _ k) r) (λh U r=>.recd (hs _ _ h) r) .atom .any .nil (λU U a b=>.cons a b) .enil (λU U a b=>.econs a b) .tnil (λh i U U a b=>.tcons (hs _ _ h) i a b) .fnil (λU U a b=>.fcons a b) h
theorem cx.mono(hs:Sb H H')(h:cx H v d):cx H' v d:=Dn.mono hs h
theorem bM.mono(hs:Sb H H')(h:bM H v d):bM H' v d:=Dn.mono hs h
theorem hB.mono(hs:Sb H H')(h:hB H v d):hB H' v d:=Dn.mono hs h
theorem cQ.mono(hs:Sb H H')(h:cQ H v d):cQ H' v d:=Dn.mono hs h
theorem bM.length(h:bM H vs ds):vs.length=ds.length:=by induction ds generalizing vs with|nil=>exact h.inv▸rfl|cons d ds i=>obtain⟨v,u,rfl,a,b⟩:=h.inv;exact congrArg (·+1) (i b)
theorem bM.append(h:bM H vs ds)(k:bM H u es):bM H (vs++u) (ds++es):=by induction ds generalizing vs with|nil=>exact h.inv▸k|cons d ds i=>obtain⟨v,u,rfl,a,b⟩:=h.inv;exact .cons a (i b)
theorem bM.get{vs:List Value}{ds:List D}(h:bM H vs ds){i:Nat}{d:D}(c:ds[i]?=some d):∃v,vs[i]?=some v/\cx H v d:=by induction ds generalizing vs i with|nil=>exact nomatch c|cons e ds f=>obtain⟨v,u,rfl,a,b⟩:=h.inv;cases i with|zero=>exact⟨v,rfl,A0 c▸a⟩|succ i=>exact f b c
end
noncomputable def l0(a b:Option c):Option c:=match a with|some r=>some r|none=>b
theorem cU(h:l0 a b=some r):a=some r\/b=some r:=by cases a with|none=>exact .inr h|some x=>exact .inl h
theorem x9[Decidable c](h:(if c then a else b)=some r):c/\a=some r\/b=some r:=by
 by_cases k:c;·rw[if_pos k]at h;exact .inl ⟨k,h⟩
 ·rw[if_neg k]at h;exact .inr h
theorem lR[Decidable c](h:(if c then a else none)=some r):c/\a=some r:=(x9 h).elim id λh=>nomatch h
theorem ew(h:o.bind f=some r):∃x,o=some x/\f x=some r:=Option.bind_eq_some_iff.mp h
theorem wn(h:o.map f=some r):∃x,o=some x/\f x=r:=AD.mp h
theorem jl{o:Option b}{f:b->d×i}(h:o.map f=some (c,k)):∃x,o=some x/\c=(f x).1/\k=(f x).2:=by obtain⟨x,a,e⟩:=AD.mp h;exact⟨x,a,congrArg Prod.fst e.symm,congrArg Prod.snd e.symm⟩
theorem Ix(h:some (a,b)=some (c,d)):c=a/\d=b:=⟨congrArg Prod.fst (A0 h.symm),congrArg Prod.snd (A0 h.symm)⟩
theorem ca{P:Prop}(h:Option.none=some x):P:=nomatch h
noncomputable def D.str?:D->Option PySem.Str|.str x=>some x|_=>Option.none
theorem D.str?_eq{d:D}(h:d.str?=some x):d=.str x:=by cases d<;>first|exact ca h|exact congrArg D.str (A0 h)
noncomputable def D.bool?:D->Option Bool|.bool x=>some x|_=>Option.none
theorem D.bool?_eq{d:D}(h:d.bool?=some x):d=.bool x:=by cases d<;>first|exact ca h|exact congrArg D.bool (A0 h)
noncomputable def D.bytes?:D->Option (Array UInt8)|.bytes x=>some x|_=>Option.none
theorem D.bytes?_eq{d:D}(h:d.bytes?=some x):d=.bytes x:=by cases d<;>first|exact ca h|exact congrArg D.bytes (A0 h)
noncomputable def D.dict?:D->Option (List (Int×D))|.dict x=>some x|_=>Option.none
theorem D.dict?_eq{d:D}(h:d.dict?=some x):d=.dict x:=by cases d<;>first|exact ca h|exact congrArg D.dict (A0 h)
noncomputable def D.int?:D->Option Int|.int x=>some x|_=>Option.none
theorem D.int?_eq{d:D}(h:d.int?=some x):d=.int x:=by cases d<;>first|exact ca h|exact congrArg D.int (A0 h)
noncomputable def D.lst?:D->Option (List D)|.list x=>some x|.slist x=>some x|_=>Option.none
theorem D.lst?_eq{d:D}(h:d.lst?=some x):d=.list x\/d=.slist x:=by cases d<;>first|exact ca h|exact .inl (congrArg D.list (A0 h))|exact .inr (congrArg D.slist (A0 h))
noncomputable def D.isNone:D->Bool|.none=>true|_=>false
theorem D.isNone_eq{d:D}(h:d.isNone=true):d=.none:=by cases d<;>first|rfl|exact Bool.noConfusion h
noncomputable def J3:List D->Option (D×D×D)|[x,y,z]=>some (x,y,z)|_=>none
theorem Do{p:D×D×D}(h:J3 ds=some p):ds=[p.1,p.2.1,p.2.2]:=by rcases ds with U|⟨U,U|⟨U,U|⟨U,U|⟨U,U⟩⟩⟩⟩<;>first|exact ca h|exact A0 h▸rfl
noncomputable def D.slc?:D->Option (D×D×D)|.recd c ds=>if c="slice"then J3 ds else Option.none|_=>Option.none
theorem D.slc?_eq{d:D}{p:D×D×D}(h:d.slc?=some p):d=.recd "slice" [p.1,p.2.1,p.2.2]:=by
 cases d<;>first|exact ca h|skip
 obtain⟨e,h⟩:=lR h;rw[Do h,e]
def Fz(h:Heap)(E:Addr->Prop)(a:Addr)(o:Obj):Prop:=h.get? a=some o/\¬E a
theorem Fz.mono{h h':Heap}{b E:Addr->Prop}(d:∀a o,h.get? a=some o->¬b a->h'.get? a=some o)(c:∀a,E a->b a\/h.get? a=none):Sb (Fz h b) (Fz h' E):=λa o x=>⟨d a o x.1 x.2,λq=>(c a q).elim x.2 λz=>by rw[x.1]at z;exact ca z.symm⟩
inductive js where|list(ds:List D)|dict(es:List (Int×D))|inst(C:Addr)(fs:List (PySem.Str×D))
set_option genInjectivity true in set_option genCtorIdx true in inductive Slot where|v(d:D)|o(k:js)(p:Option (Addr×Value))
abbrev Sig:=List (PySem.Str×Slot)
noncomputable def bq(σ:Sig)(x:PySem.Str):Option Slot:=σ.lookup x
noncomputable def bO:Sig->PySem.Str->Slot->Sig|[],x,s=>[(x,s)]|(y,t)::r,x,s=>match x==y with|true=>(y,s)::r|false=>(y,t)::bO r x s
theorem eP(σ:Sig)(x y:PySem.Str)(s:Slot):bq (bO σ x s) y=if y=x then some s else bq σ y:=by
 induction σ with|nil=>
   unfold bO bq;by_cases h:y=x;·subst h;simp[List.lookup]
   · have:(y==x)=false:=by simpa using h
     simp[List.lookup,this,h]|cons p r ih=>
   obtain⟨z,t⟩:=p
   unfold bO;cases a:x==z with|true=>
     have:=Ac.mp a;subst this;by_cases h:y=x;·subst h;simp[bq,List.lookup]
     · have h':(y==x)=false:=by simpa using h
       simp[bq,List.lookup,h',h]|false=>show bq ((z,t)::bO r x s) y=_;unfold bq at ih⊢;rw[AK,AK];cases b:y==z with
     |true=>
       have:=Ac.mp b;subst this;have:¬y=x:=λe=>by subst e;simp at a
       simp[this]|false=>simpa using ih
inductive Ld(h:Heap)(H:Addr->Obj->Prop)(v:Option Value)(a:Addr)(ds:List D):Prop|mk(e:v=some (.ref a))(vs:List Value)(n:Nat)(g:h.get? a=some (bA vs n))(d:bM H vs ds)
inductive Mx(h:Heap)(H:Addr->Obj->Prop)(v:Option Value)(a:Addr)(ds:List (Int×D)):Prop|mk(e:v=some (.ref a))(es:List DictEntry)(n:Nat)(g:h.get? a=some (dictOf es n))(d:hB H es ds)(c:(ds.map (·.1)).Nodup/\(a==sysModules)=false)
inductive LQ(h:Heap)(H:Addr->Obj->Prop)(v:Option Value)(a C:Addr)(fs:List (PySem.Str×D)):Prop|mk(x:Addr)(e:v=some (.ref x))(i:H x (instObj C a))(es:List DictEntry)(n:Nat)(g:h.get? a=some (dictOf es n))(d:cQ H es fs)
def ej(h:Heap)(H:Addr->Obj->Prop)(v:Option Value)(a:Addr):js->Prop|.list ds=>Ld h H v a ds|.dict ds=>Mx h H v a ds|.inst C fs=>LQ h H v a C fs
theorem ej.mono(hs:Sb H H')(b:∀o,h.get? a=some o->h'.get? a=some o)(x:ej h H v a k):ej h' H' v a k:=by cases k with|list ds=>obtain⟨e,vs,n,g,d⟩:=x;exact⟨e,vs,n,b _ g,d.mono hs⟩|dict ds=>obtain⟨e,vs,n,g,d,k⟩:=x;exact⟨e,vs,n,b _ g,d.mono hs,k⟩|inst C fs=>obtain⟨y,e,i,es,n,g,d⟩:=x;exact⟨y,e,hs _ _ i,es,n,b _ g,d.mono hs⟩
theorem ej.there(x:ej h H v a k):∃o,h.get? a=some o:=by cases k with|list ds=>obtain⟨U,U,U,g,U⟩:=x;exact⟨_,g⟩|dict ds=>obtain⟨U,U,U,g,U⟩:=x;exact⟨_,g⟩|inst C fs=>obtain⟨U,U,U,U,U,g,U⟩:=x;exact⟨_,g⟩
noncomputable def cu(env:Env)(m cm:PySem.Str->Option Value)(x:PySem.Str):Option Value:=match env.kindOf x with
 |some .local=>m x|some .cell=>match env.cells.lookup x with|some _=>cm x|none=>none
 |_=>none
def c5(env:Env)(σ:Sig)(ad:PySem.Str->Addr)(X:Addr->Prop)(a:Addr):Prop:=a=env.locals\/(∃x,env.cells.lookup x=some a)\/(∃x k p,bq σ x=some (.o k p)/\ad x=a)\/X a
abbrev Yd:=Addr->Obj->Prop
def dY(Y:Yd)(a:Addr):Prop:=∃o,Y a o
noncomputable def yU(Y Z:Yd):Yd:=λa o=>Y a o\/Z a o
noncomputable def y1(a:Addr)(o:Obj):Yd:=λb q=>b=a/\q=o
noncomputable def y0:Yd:=λU U=>False
theorem bX:dY (yU Y Z) a↔dY Y a\/dY Z a:=⟨λ⟨o,q⟩=>q.elim (λq=>.inl ⟨o,q⟩) λq=>.inr ⟨o,q⟩,λq=>q.elim (λ⟨o,q⟩=>⟨o,.inl q⟩) λ⟨o,q⟩=>⟨o,.inr q⟩⟩
theorem dI:dY (y1 a o) b↔b=a:=⟨λ⟨_,q⟩=>q.1,λq=>⟨o,q,rfl⟩⟩
theorem ve{P:Addr->Obj->Prop}(h:P a o):∀b q,y1 a o b q->P b q:=λU U q=>q.1▸q.2▸h
theorem jF{P:Addr->Prop}(h:P a):∀b,dY (y1 a o) b->P b:=λU q=>dI.mp q▸h
theorem ym:¬dY y0 a:=λ⟨_,q⟩=>q
def Up(fs:List Addr)(h:Heap)(a:Addr)(o:Obj):Prop:=∃b,h.get? a=some b/\(b=o\/(a∈fs/\∃s,b={o with slots:=s}))
def Kp(fs:List Addr)(h h':Heap):Prop:=∀b o,h.get? b=some o->Up fs h' b o
theorem Up.at(x:Up fs h a o)(n:a∉fs):h.get? a=some o:=by
 obtain⟨b,e,q|⟨q,U⟩⟩:=x;·rw[e,q]
 ·exact(n q).elim
theorem Up.there(x:Up fs h a o):∃b,h.get? a=some b:=let⟨b,e,_⟩:=x;⟨b,e⟩
theorem Up.mono(x:Up fs h a o)(k:∀b,h.get? a=some b->h'.get? a=some b):Up fs h' a o:=let⟨b,e,q⟩:=x;⟨b,k _ e,q⟩
theorem Up.of(e:h.get? a=some o):Up fs h a o:=⟨o,e,.inl rfl⟩
theorem Kp.of(k:Hk h h'):Kp fs h h':=λb o e=>.of (k b o e)
theorem Up.trans(x:Up fs h a o)(k:∀o,h.get? a=some o->Up fs h' a o):Up fs h' a o:=by
 obtain⟨d,e,q⟩:=x;obtain⟨f,c,b⟩:=k d e;refine⟨f,c,?_⟩;rcases q with rfl|⟨m,i,rfl⟩;·exact b
 · rcases b with rfl|⟨U,s,rfl⟩;·exact .inr ⟨m,i,rfl⟩
   ·exact .inr ⟨m,s,rfl⟩
theorem Up.ns{h h':Heap}{m:PySem.Str->Option Value}(n:h.Ns L m)(k:∀o,h.get? L=some o->Up fs h' L o):h'.Ns L m:=by
 obtain⟨o,es,ep,b,a,r⟩:=n;obtain⟨c,e,q⟩:=k o b;rcases q with rfl|⟨U,s,rfl⟩;·exact⟨_,es,ep,e,a,r⟩
 ·exact⟨_,es,ep,e,a,r⟩
structure Gr where
 b:Heap
 e:Heap
 fs:List Addr
 sub:∀a o,b.get? a=some o->∃o',e.get? a=some o'
noncomputable abbrev Gr.get?(g:Gr)(a:Addr):Option Obj:=g.e.get? a
theorem Gr.nb(g:Gr)(h:g.get? a=none):g.b.get? a=none:=by cases q:g.b.get? a with|none=>rfl|some o=>obtain⟨b,e⟩:=g.sub a o q;rw[show g.e.get? a=none from h]at e;exact ca e
theorem Up.cell{h h':Heap}(n:h.IsCell c v)(k:∀o,h.get? c=some o->Up fs h' c o):h'.IsCell c v:=by obtain⟨o,a,q⟩:=n;obtain⟨b,e,z⟩:=k o a;refine⟨b,e,?_⟩;rcases z with rfl|⟨U,s,rfl⟩<;>exact q
structure LT(g:Gr)(L:Addr)(h:Heap)(m:PySem.Str->Option Value):Prop where
 ns:h.Ns L m
 keep:∀b o,g.b.get? b=some o->h.get? b=some o
 old:∀b o,g.e.get? b=some o->∃o',h.get? b=some o'
 above:g.e.objs.size<=L
structure qw(env:Env)(g:Gr)(Y:Yd)(m cm:PySem.Str->Option Value)(h:Heap)(H:Addr->Obj->Prop)(ad:PySem.Str->Addr)(x:PySem.Str)(k:js)(p:Option (Addr×Value)):Prop where
 ok:ej h H (cu env m cm x) (ad x) k
 g0:g.get? (ad x)=none
 nl:ad x≠env.locals
 nc:∀y,env.cells.lookup y≠some (ad x)ny:¬dY Y (ad x)nf:ad x∉g.fs
 pin:∀a v,p=some (a,v)->ad x=a/\cu env m cm x=some v
structure bD(env:Env)(g:Gr)(Y:Yd)(σ:Sig)(m cm:PySem.Str->Option Value)(h:Heap)(H:Addr->Obj->Prop)(ad:PySem.Str->Addr):Prop where
 fr:LT g env.locals h m
 ff:∃Lf,env.frame=some Lf/\Lf∈g.fs
 frs:∀a∈g.fs,(a=env.locals\/dY Y a)/\g.b.get? a=none/\∃mm,h.Ns a mm
 cell:∀n c,env.cells.lookup n=some c->h.IsCell c (cm n)/\c≠env.locals/\g.get? c=none
 apart:env.cells.Pairwise λx y=>x.2≠y.2
 isH:H=Fz h (c5 env σ ad (dY Y))held:∀a o,Y a o->Up g.fs h a o/\a≠env.locals/\(∀n,env.cells.lookup n≠some a)fro:∀x d,bq σ x=some (.v d)->∃v,cu env m cm x=some v/\cx H v d
 own:∀x k p,bq σ x=some (.o k p)->qw env g Y m cm h H ad x k p
 one:∀x y k k' p p',bq σ x=some (.o k p)->bq σ y=some (.o k' p')->ad x=ad y->x=y
theorem qw.to{Y c:Yd}{m cm m' cm':PySem.Str->Option Value}{h h':Heap}{H H':Addr->Obj->Prop}{ad b:PySem.Str->Addr}(q:qw env g Y m cm h H ad x k p)(d:cu env m' cm' x=cu env m cm x)(a:b x=ad x)(hs:Sb H H')(e:∀o,h.get? (ad x)=some o->h'.get? (ad x)=some o)(n:dY c (ad x)->dY Y (ad x)):qw env g c m' cm' h' H' b x k p:=⟨d▸a▸q.ok.mono hs e,a▸q.g0,a▸q.nl,a▸q.nc,λz=>q.ny (n (a▸z)),a▸q.nf,d▸a▸q.pin⟩
theorem qw.new{env:Env}{g:Gr}{Y:Yd}{m cm:PySem.Str->Option Value}{H:Addr->Obj->Prop}{ad:PySem.Str->Addr}(e:ad x=a)(c:ej h H (cu env m cm x) a k)(b:g.get? a=none)(f:a≠env.locals)(n:∀y,env.cells.lookup y≠some a)(i:¬dY Y a)(d:a∉g.fs):qw env g Y m cm h H ad x k none:=by subst e;exact⟨c,b,f,n,i,d,λU U z=>nomatch z⟩
inductive gP(env:Env)(g:Gr)(Y:Yd)(σ:Sig)(h:Heap)(H:Addr->Obj->Prop):Prop|mk(m cm:PySem.Str->Option Value)(ad:PySem.Str->Addr)(r:bD env g Y σ m cm h H ad)
section
variable{env:Env}{g:Gr}{h h':Heap}{Y Z Z':Yd}{σ:Sig}{m cm:PySem.Str->Option Value}{H:Addr->Obj->Prop}{ad:PySem.Str->Addr}
theorem bD.exThere(r:bD env g Y σ m cm h H ad)(q:c5 env σ ad (dY Y) a):∃o,h.get? a=some o:=by
 rcases q with q|⟨x,q⟩|⟨x,k,p,e,q⟩|⟨o,q⟩;·obtain⟨d,es,ep,c,U⟩:=r.fr.ns;exact⟨d,q▸c⟩
 ·obtain⟨⟨o,b,U⟩,U⟩:=r.cell x a q;exact⟨o,b⟩
 ·obtain⟨o,b⟩:=(r.own x k p e).ok.there;exact⟨o,q▸b⟩
 ·exact(r.held a o q).1.there
theorem bD.exLow(r:bD env g Y σ m cm h H ad)(q:c5 env σ ad (dY Y) a):a<h.objs.size:=let⟨_,e⟩:=r.exThere q;AG e
theorem bD.exFs(r:bD env g Y σ m cm h H ad)(q:a∈g.fs):c5 env σ ad (dY Y) a:=(r.frs a q).1.elim .inl λq=>.inr (.inr (.inr q))
theorem bD.fsCell(r:bD env g Y σ m cm h H ad)(q:a∈g.fs)(n:PySem.Str):env.cells.lookup n≠some a:=λe=>by obtain⟨⟨j,c,b⟩,U⟩:=r.cell n a e;obtain⟨U,U,i,o,es,ep,f,d,U⟩:=r.frs a q;rw[f]at c;obtain rfl:=A0 c;rw[d]at b;exact nomatch b
theorem bD.turnK(r:bD env g (yU Y Z) σ m cm h H ad)(i:∀a o,h.get? a=some o->¬dY Z a->Up g.fs h' a o)(y:∀a,dY Z a->g.get? a=none/\¬dY Y a/\a∉g.fs)(l:∀a o,Z' a o->h'.get? a=some o/\(dY Z a\/h.get? a=none)):bD env g (yU Y Z') σ m cm h' (Fz h' (c5 env σ ad (dY (yU Y Z')))) ad/\Sb H (Fz h' (c5 env σ ad (dY (yU Y Z')))):=by
 have up:∀a,c5 env σ ad (dY (yU Y Z')) a->c5 env σ ad (dY (yU Y Z)) a\/h.get? a=none:=by
   rintro a(q|q|q|q);·exact .inl (.inl q)
   ·exact .inl (.inr (.inl q))
   ·exact .inl (.inr (.inr (.inl q)))
   · rcases bX.mp q with q|⟨o,q⟩;·exact .inl (.inr (.inr (.inr (bX.mpr (.inl q)))))
     ·exact(l a o q).2.elim (λq=>.inl (.inr (.inr (.inr (bX.mpr (.inr q)))))) .inr
 have hs:Sb H (Fz h' (c5 env σ ad (dY (yU Y Z')))):=by rw[r.isH];rintro a o⟨e,C⟩;refine⟨(i a o e λz=>C (.inr (.inr (.inr (bX.mpr (.inr z)))))).at λz=>C (r.exFs z),λq=>(up a q).elim C λz=>?_⟩;rw[e]at z;exact ca z.symm
 have O:¬dY Z env.locals:=λ⟨o,z⟩=>(r.held _ o (.inr z)).2.1 rfl;have Q:∀n c,env.cells.lookup n=some c->¬dY Z c:=λn c e⟨o,z⟩=>(r.held _ o (.inr z)).2.2 n e;have t:Hk g.b h':=λb o e=>(i b o (r.fr.keep b o e) λz=>by rw[g.nb (y b z).1]at e;exact ca e).at λz=>by rw[(r.frs b z).2.1]at e;exact ca e
 have E:∀b o,g.e.get? b=some o->∃s,h'.get? b=some s:=λb o e=>by obtain⟨s,J⟩:=r.fr.old b o e;exact(i b s J λz=>by have:=(y b z).1;rw[show g.e.get? b=none from this]at e;exact ca e).there
 have u:∀{L A},h.Ns L A->¬dY Z L->h'.Ns L A:=λn B=>Up.ns n λo e=>i _ o e B;refine⟨⟨⟨u r.fr.ns O,t,E,r.fr.above⟩,r.ff,λa q=>?_,λn c e=>?_,r.apart,rfl,λa o q=>?_,λx d e=>?_,λx k p e=>?_,r.one⟩,hs⟩;·obtain⟨T,f,A,V⟩:=r.frs a q;have B:¬dY Z a:=λz=>(y a z).2.2 q;exact⟨T.imp id λz=>(bX.mp z).elim (λz=>bX.mpr (.inl z)) λz=>(B z).elim,f,A,u V B⟩
 ·obtain⟨q,b,G⟩:=r.cell n c e;exact⟨Up.cell q λo j=>i _ _ j (Q n c e),b,G⟩
 · rcases q with q|q;·obtain⟨e,f⟩:=r.held a o (.inl q);exact⟨e.trans λs e=>i _ _ e λz=>(y a z).2.1 ⟨o,q⟩,f⟩
   · obtain⟨e,f⟩:=l a o q;refine⟨.of e,?_⟩;rcases f with⟨s,f⟩|f;·exact(r.held a s (.inr f)).2
     · refine⟨λz=>?_,λn z=>?_⟩;·obtain⟨oL,es,ep,M,U⟩:=r.fr.ns;rw[z,M]at f;exact ca f.symm
       ·obtain⟨⟨o,j,U⟩,U⟩:=r.cell n a z;rw[j]at f;exact ca f.symm
 ·obtain⟨v,N,I⟩:=r.fro x d e;exact⟨v,N,I.mono hs⟩
 · have q:=r.own x k p e;refine q.to rfl rfl hs (λo j=>(i _ _ j λz=>q.ny (bX.mpr (.inr z))).at q.nf) λz=>?_;rcases bX.mp z with z|⟨o,z⟩;·exact bX.mpr (.inl z)
   ·exact bX.mpr ((l _ o z).2.elim .inr λz=>by obtain⟨s,j⟩:=q.ok.there;exact nomatch j.symm.trans z)
theorem bD.turn(r:bD env g (yU Y Z) σ m cm h H ad)(d:∀a o,h.get? a=some o->¬dY Z a->h'.get? a=some o)(c:∀a,dY Z a->g.get? a=none/\¬dY Y a/\a∉g.fs)(b:∀a o,Z' a o->h'.get? a=some o/\(dY Z a\/h.get? a=none)):bD env g (yU Y Z') σ m cm h' (Fz h' (c5 env σ ad (dY (yU Y Z')))) ad/\Sb H (Fz h' (c5 env σ ad (dY (yU Y Z')))):=r.turnK (λa o e n=>.of (d a o e n)) c b
theorem pB:yU Y y0=Y:=by funext a o;exact propext ⟨λq=>q.elim id False.elim,.inl⟩
theorem bD.growK(r:bD env g Y σ m cm h H ad)(b:Kp g.fs h h'):bD env g Y σ m cm h' (Fz h' (c5 env σ ad (dY Y))) ad/\Sb H (Fz h' (c5 env σ ad (dY Y))):=by have q:=bD.turnK (Y:=Y) (Z:=y0) (Z':=y0) (h':=h') (by rw[pB];exact r) (λa o e U=>b a o e) (λa z=>(ym z).elim) λa o z=>z.elim;rw[pB]at q;exact q
theorem bD.grow(r:bD env g Y σ m cm h H ad)(a:Hk h h'):bD env g Y σ m cm h' (Fz h' (c5 env σ ad (dY Y))) ad/\Sb H (Fz h' (c5 env σ ad (dY Y))):=r.growK (.of a)
theorem bD.fresh(r:bD env g Y σ m cm h H ad)(n:h.get? a=none):g.get? a=none/\¬dY Y a/\a∉g.fs:=by
 refine⟨?_,λ⟨o,z⟩=>?_,λz=>?_⟩;·cases q:g.e.get? a with|none=>exact q|some o=>obtain⟨U,e⟩:=r.fr.old a o q;rw[n]at e;exact ca e
 ·obtain⟨U,e⟩:=(r.held a o z).1.there;rw[n]at e;exact ca e
 ·obtain⟨U,U,c,d,U,U,b,U⟩:=r.frs a z;rw[n]at b;exact ca b
theorem bD.dropY(r:bD env g (yU Y Z) σ m cm h H ad)(f:∀a,dY Z a->¬dY Y a)(b:∀a,dY Z a->a∉g.fs):bD env g Y σ m cm h (Fz h (c5 env σ ad (dY Y))) ad/\(Sb H (Fz h (c5 env σ ad (dY Y))))/\Sb Z (Fz h (c5 env σ ad (dY Y))):=by
 have u:∀a,c5 env σ ad (dY Y) a->c5 env σ ad (dY (yU Y Z)) a:=by
   rintro a(q|q|q|q);·exact .inl q
   ·exact .inr (.inl q)
   ·exact .inr (.inr (.inl q))
   ·exact .inr (.inr (.inr (bX.mpr (.inl q))))
 have hs:Sb H (Fz h (c5 env σ ad (dY Y))):=by rw[r.isH];exactλa o q=>⟨q.1,λz=>q.2 (u a z)⟩
 refine⟨⟨r.fr,r.ff,λa q=>?_,r.cell,r.apart,rfl,λa o q=>r.held a o (.inl q),λx d e=>?_,λx k p e=>?_,r.one⟩,hs,λa o q=>⟨(r.held a o (.inr q)).1.at (b a ⟨o,q⟩),?_⟩⟩;·obtain⟨j,l⟩:=r.frs a q;exact⟨j.imp id λz=>(bX.mp z).elim id λz=>(b a z q).elim,l⟩
 ·obtain⟨v,i,c⟩:=r.fro x d e;exact⟨v,i,c.mono hs⟩
 ·exact(r.own x k p e).to rfl rfl hs (λU=>id) λz=>bX.mpr (.inl z)
 · rintro(z|⟨x,z⟩|⟨x,k,p,e,z⟩|z);·exact(r.held a o (.inr q)).2.1 z
   ·exact(r.held a o (.inr q)).2.2 x z
   ·exact(r.own x k p e).ny (z▸bX.mpr (.inr ⟨o,q⟩))
   ·exact f a ⟨o,q⟩ z
theorem lz(e:bq (bO σ x (.v d)) y=some (.v a)):(y=x/\a=d)\/(y≠x/\bq σ y=some (.v a)):=by
 rw[eP]at e;by_cases h:y=x;·rw[if_pos h]at e;cases e;exact .inl ⟨h,rfl⟩
 ·rw[if_neg h]at e;exact .inr ⟨h,e⟩
theorem dD(e:bq (bO σ x (.v d)) y=some (.o k p)):y≠x/\bq σ y=some (.o k p):=by
 rw[eP]at e;by_cases h:y=x;·rw[if_pos h]at e;cases e
 ·rw[if_neg h]at e;exact⟨h,e⟩
theorem lX(e:bq (bO σ x (.o k p)) y=some (.v d)):y≠x/\bq σ y=some (.v d):=by
 rw[eP]at e;by_cases h:y=x;·rw[if_pos h]at e;cases e
 ·rw[if_neg h]at e;exact⟨h,e⟩
theorem dE(e:bq (bO σ x (.o k p)) y=some (.o k' p')):(y=x/\k'=k/\p'=p)\/(y≠x/\bq σ y=some (.o k' p')):=by
 rw[eP]at e;by_cases h:y=x;·rw[if_pos h]at e;cases e;exact .inl ⟨h,rfl,rfl⟩
 ·rw[if_neg h]at e;exact .inr ⟨h,e⟩
structure w3(env:Env)(x:PySem.Str)(v:Value)(m cm m' cm':PySem.Str->Option Value)(h h':Heap):Prop where
 at_:∀y,cu env m' cm' y=if y=x then some v else cu env m cm y
 ns:h'.Ns env.locals m'
 cell:∀n c,env.cells.lookup n=some c->h'.IsCell c (cm' n)same:∃a,(a=env.locals\/env.cells.lookup x=some a)/\Ai a h h'
theorem w3.local(r:bD env g Y σ m cm h H ad)(d:env.kindOf x=some .local)(f:h'.Ns env.locals (λy=>if y=x then some v else m y))(hs:Ai env.locals h h'):w3 env x v m cm (λy=>if y=x then some v else m y) cm h h':=by
 refine⟨λy=>?_,f,λn c e=>?_,_,.inl rfl,hs⟩
 · by_cases h:y=x;·subst h;simp[cu,d]
   ·simp[cu,h]
 ·obtain⟨a,b,i⟩:=r.cell n c e;exact a.sameBut hs b
theorem w3.celled(r:bD env g Y σ m cm h H ad)(j:env.kindOf x=some .cell)(d:env.cells.lookup x=some c)(k:h'.IsCell c (some v))(hs:Ai c h h'):w3 env x v m cm m (λy=>if y=x then some v else cm y) h h':=by
 refine⟨λy=>?_,r.fr.ns.sameBut hs (Ne.symm (r.cell x c d).2.1),λn i e=>?_,_,.inr d,hs⟩
 · by_cases h:y=x;·subst h;simp[cu,j,d]
   ·simp[cu,h]
 · obtain⟨a,b,l⟩:=r.cell n i e;by_cases f:n=x;·subst f;rw[d]at e;obtain rfl:=A0 e;simpa using k
   ·have:i≠c:=λq=>f (name_of_addr r.apart (mem_of_lookup e) (q▸mem_of_lookup d));simpa[f]using a.sameBut hs this
section
variable{m' cm':PySem.Str->Option Value}{x:PySem.Str}{v:Value}
theorem w3.keep(p:w3 env x v m cm m' cm' h h')(r:bD env g Y σ m cm h H ad):LT g env.locals h' m'/\(∀a o,h.get? a=some o->a≠env.locals->(∀n,env.cells.lookup n≠some a)->h'.get? a=some o)/\(∀a∈g.fs,(a=env.locals\/dY Y a)/\g.b.get? a=none/\∃f,h'.Ns a f)/\h'.objs.size=h.objs.size:=by
 obtain⟨a,c,hs⟩:=p.same;have k:g.get? a=none:=by
   rcases c with rfl|c;·exact Heap.get?_none_of_le r.fr.above
   ·exact(r.cell x a c).2.2
 have l:∀a o,h.get? a=some o->a≠env.locals->(∀n,env.cells.lookup n≠some a)->h'.get? a=some o:=λb o e i j=>(hs.2 b λz=>by
   rcases c with q|q;·exact i (z.trans q)
   ·exact j x (z▸q)).trans e;refine⟨⟨p.ns,λb o e=>?_,λb o e=>?_,r.fr.above⟩,l,λb q=>?_,hs.1⟩
 · have:b≠a:=λz=>by rw[z,g.nb k]at e;exact ca e
   exact(hs.2 b this).trans (r.fr.keep b o e)
 · have:b≠a:=λz=>by rw[z,show g.e.get? a=none from k]at e;exact ca e
   obtain⟨A,t⟩:=r.fr.old b o e;exact⟨A,(hs.2 b this).trans t⟩
 · obtain⟨d,B,f,C⟩:=r.frs b q;refine⟨d,B,?_⟩;rcases d with rfl|⟨o,d⟩;·exact⟨_,p.ns⟩
   ·obtain⟨U,i,j⟩:=r.held b o d;obtain⟨s,es,ep,u,y⟩:=C;exact⟨f,s,es,ep,l b s u i j,y⟩
theorem bD.store(r:bD env g Y σ m cm h H ad)(J:cx H v d)(p:w3 env x v m cm m' cm' h h'):bD env g Y (bO σ x (.v d)) m' cm' h' (Fz h' (c5 env (bO σ x (.v d)) ad (dY Y))) ad/\Sb H (Fz h' (c5 env (bO σ x (.v d)) ad (dY Y))):=by
 obtain⟨L,j,i,U⟩:=p.keep r;have sub:∀a,c5 env (bO σ x (.v d)) ad (dY Y) a->c5 env σ ad (dY Y) a:=by
   rintro a(q|q|⟨y,k,pp,e,q⟩|q);·exact .inl q
   ·exact .inr (.inl q)
   ·exact .inr (.inr (.inl ⟨y,k,pp,(dD e).2,q⟩))
   ·exact .inr (.inr (.inr q))
 have b:Sb H (Fz h' (c5 env (bO σ x (.v d)) ad (dY Y))):=by rw[r.isH];exact Fz.mono (λa o e t=>j a o e (λz=>t (.inl z)) λn z=>t (.inr (.inl ⟨n,z⟩))) (λa q=>.inl (sub a q))
 refine⟨⟨L,r.ff,i,λn c e=>⟨p.cell n c e,(r.cell n c e).2⟩,r.apart,rfl,λa o q=>?_,λy A e=>?_,λy k pp e=>?_,λy z k k' p1 p2 C E=>r.one y z k k' p1 p2 (dD C).2 (dD E).2⟩,b⟩;·obtain⟨e,l,s⟩:=r.held a o q;exact⟨e.mono λM e=>j a M e l s,l,s⟩
 · rw[p.at_];rcases lz e with⟨rfl,rfl⟩|⟨f,e⟩;·exact⟨v,by simp,J.mono b⟩
   ·obtain⟨u,I,B⟩:=r.fro y A e;exact⟨u,by simpa[f]using I,B.mono b⟩
 ·obtain⟨f,e⟩:=dD e;have q:=r.own y k pp e;exact q.to (by rw[p.at_,if_neg f]) rfl b (λo G=>j _ o G q.nl q.nc) id
theorem bD.storeO(r:bD env g (yU Y (y1 b o)) σ m cm h H ad)(hk:ej h H (some v) b k)(hg:g.get? b=none)(hY:¬dY Y b)(G:b∉g.fs)(p:w3 env x v m cm m' cm' h h'):∃s H',bD env g Y (bO σ x (.o k none)) m' cm' h' H' s/\Sb H H':=by
 obtain⟨kf,l,t,U⟩:=p.keep r;obtain⟨eb,A,B⟩:=r.held b o (.inr ⟨rfl,rfl⟩);have L:∀y k' pp,bq σ y=some (.o k' pp)->ad y≠b:=λy k' pp e z=>(r.own y k' pp e).ny (z▸bX.mpr (.inr (dI.mpr rfl)));have sub:∀a,c5 env (bO σ x (.o k none)) (λy=>if y=x then b else ad y) (dY Y) a->c5 env σ ad (dY (yU Y (y1 b o))) a:=by
   rintro a(q|q|⟨y,k',pp,e,q⟩|q);·exact .inl q
   ·exact .inr (.inl q)
   · rcases dE e with⟨rfl,rfl,rfl⟩|⟨f,e⟩;·dsimp only at q;rw[if_pos rfl]at q;exact .inr (.inr (.inr (bX.mpr (.inr (dI.mpr q.symm)))))
     ·dsimp only at q;rw[if_neg f]at q;exact .inr (.inr (.inl ⟨y,k',pp,e,q⟩))
   ·exact .inr (.inr (.inr (bX.mpr (.inl q))))
 have d:∀a i,H a i->Fz h' (c5 env (bO σ x (.o k none)) (λy=>if y=x then b else ad y) (dY Y)) a i:=by rw[r.isH];exact Fz.mono (λa o e M=>l a o e (λz=>M (.inl z)) λn z=>M (.inr (.inl ⟨n,z⟩))) (λa q=>.inl (sub a q))
 refine⟨λy=>if y=x then b else ad y,_,⟨kf,r.ff,λa q=>(t a q).imp (λz=>z.imp id λz=>(bX.mp z).elim id λz=>absurd q (by rw[dI.mp z];exact G)) id,λn c e=>⟨p.cell n c e,(r.cell n c e).2⟩,r.apart,rfl,λa o q=>?_,λy N e=>?_,λy k' pp e=>?_,λy z k1 k2 p1 p2 T V q=>?_⟩,d⟩;·obtain⟨e,I,J⟩:=r.held a o (.inl q);exact⟨e.mono λi e=>l a i e I J,I,J⟩
 ·obtain⟨f,e⟩:=lX e;rw[p.at_,if_neg f];obtain⟨u,hu,O⟩:=r.fro y N e;exact⟨u,hu,O.mono d⟩
 · rcases dE e with⟨rfl,rfl,rfl⟩|⟨f,e⟩;·exact .new (if_pos rfl) (by rw[p.at_,if_pos rfl];exact hk.mono d λi Q=>l b i Q A B) hg A B hY G
   ·have q:=r.own y k' pp e;exact q.to (by rw[p.at_,if_neg f]) (if_neg f) d (λo ho=>l _ o ho q.nl q.nc) λz=>bX.mpr (.inl z)
 · rcases dE T with⟨f,U⟩|⟨f,C⟩<;>rcases dE V with⟨j,_⟩|⟨j,E⟩;·exact f.trans j.symm
   ·rw[if_pos f,if_neg j]at q;exact(L z k2 p2 E q.symm).elim
   ·rw[if_neg f,if_pos j]at q;exact(L y k1 p1 C q).elim
   ·rw[if_neg f,if_neg j]at q;exact r.one y z k1 k2 p1 p2 C E q
end
theorem bD.mutK(r:bD env g Y σ m cm h H ad)(e:bq σ x=some (.o k p))(hs:∀a o,a≠ad x->h.get? a=some o->Up g.fs h' a o)(hk:ej h' (Fz h' (c5 env σ ad (dY Y))) (cu env m cm x) (ad x) k'):bD env g Y (bO σ x (.o k' p)) m cm h' (Fz h' (c5 env σ ad (dY Y))) ad/\Sb H (Fz h' (c5 env σ ad (dY Y))):=by
 obtain⟨U,C,O,Q,T,V,a6⟩:=r.own x k p e;have i:Sb H (Fz h' (c5 env σ ad (dY Y))):=by rw[r.isH];exactλa o q=>⟨(hs a o (λz=>q.2 (.inr (.inr (.inl ⟨x,k,p,e,z.symm⟩)))) q.1).at λz=>q.2 (r.exFs z),q.2⟩
 have N:c5 env (bO σ x (.o k' p)) ad (dY Y)=c5 env σ ad (dY Y):=by
   funext a;refine propext ⟨?_,?_⟩
   · rintro(q|q|⟨y,k1,p1,l,q⟩|q);·exact .inl q
     ·exact .inr (.inl q)
     · rcases dE l with⟨rfl,rfl,rfl⟩|⟨U,l⟩;·exact .inr (.inr (.inl ⟨y,k,p1,e,q⟩))
       ·exact .inr (.inr (.inl ⟨y,k1,p1,l,q⟩))
     ·exact .inr (.inr (.inr q))
   · rintro(q|q|⟨y,k1,p1,l,q⟩|q);·exact .inl q
     ·exact .inr (.inl q)
     · by_cases j:y=x;·subst j;exact .inr (.inr (.inl ⟨y,k',p,by rw[eP,if_pos rfl],q⟩))
       ·exact .inr (.inr (.inl ⟨y,k1,p1,by rw[eP,if_neg j];exact l,q⟩))
     ·exact .inr (.inr (.inr q))
 have s:Hk g.b h':=λb o f=>(hs b o (λz=>by rw[z,g.nb C]at f;exact ca f) (r.fr.keep b o f)).at λz=>by rw[(r.frs b z).2.1]at f;exact ca f
 have J:∀b o,g.e.get? b=some o->∃B,h'.get? b=some B:=λb o f=>by obtain⟨B,E⟩:=r.fr.old b o f;exact(hs b B (λz=>by rw[z,show g.e.get? (ad x)=none from C]at f;exact ca f) E).there
 have t:∀{L A},h.Ns L A->L≠ad x->h'.Ns L A:=λn nz=>Up.ns n λo e=>hs _ o nz e;refine⟨⟨⟨t r.fr.ns (Ne.symm O),s,J,r.fr.above⟩,r.ff,λa q=>?_,λn c f=>?_,r.apart,by rw[N],λa o q=>?_,λy d f=>?_,λy k1 pp f=>?_,λy z k1 k2 p1 p2 l E q=>?_⟩,i⟩;·obtain⟨q1,M,A,q3⟩:=r.frs a q;exact⟨q1,M,A,t q3 λz=>V (z▸q)⟩
 ·obtain⟨q,b,c'⟩:=r.cell n c f;exact⟨Up.cell q λo G=>hs _ _ (λz=>Q n (z▸f)) G,b,c'⟩
 ·obtain⟨f,M⟩:=r.held a o q;exact⟨f.trans λB f=>hs _ _ (λz=>T (z▸⟨o,q⟩)) f,M⟩
 ·obtain⟨j,f⟩:=lX f;obtain⟨u,hu,du⟩:=r.fro y d f;exact⟨u,hu,du.mono i⟩
 · rcases dE f with⟨rfl,rfl,rfl⟩|⟨j,f⟩;·exact⟨hk,C,O,Q,T,V,a6⟩
   ·have q:=r.own y k1 pp f;exact q.to rfl rfl i (λo G=>(hs _ o (λz=>j (r.one y x k1 k _ _ f e z)) G).at q.nf) id
 · rcases dE l with⟨j,U⟩|⟨j,f1⟩<;>rcases dE E with⟨I,_⟩|⟨I,f2⟩;·exact j.trans I.symm
   ·subst j;exact r.one _ _ _ _ _ _ e f2 q
   ·subst I;exact r.one _ _ _ _ _ _ f1 e q
   ·exact r.one y z k1 k2 _ _ f1 f2 q
theorem bD.mutO(r:bD env g Y σ m cm h H ad)(e:bq σ x=some (.o k p))(hs:∀a o,a≠ad x->h.get? a=some o->h'.get? a=some o)(b:ej h' (Fz h' (c5 env σ ad (dY Y))) (cu env m cm x) (ad x) k'):bD env g Y (bO σ x (.o k' p)) m cm h' (Fz h' (c5 env σ ad (dY Y))) ad/\Sb H (Fz h' (c5 env σ ad (dY Y))):=r.mutK e (λa o n e=>.of (hs a o n e)) b
noncomputable def D.ofOwn:js->D|.list ds=>.list ds|.dict es=>.dict es|.inst C fs=>.inst C fs
theorem bD.freeze(r:bD env g Y σ m cm h H ad)(e:bq σ x=some (.o k p)):bD env g Y (bO σ x (.v (D.ofOwn k))) m cm h (Fz h (c5 env (bO σ x (.v (D.ofOwn k))) ad (dY Y))) ad/\(∀a o,H a o->Fz h (c5 env (bO σ x (.v (D.ofOwn k))) ad (dY Y)) a o)/\∃v,cu env m cm x=some v/\cx (Fz h (c5 env (bO σ x (.v (D.ofOwn k))) ad (dY Y))) v (D.ofOwn k):=by
 have sub:∀a,c5 env (bO σ x (.v (D.ofOwn k))) ad (dY Y) a->c5 env σ ad (dY Y) a/\a≠ad x:=by
   obtain⟨U,U,I,J,L,U⟩:=r.own x k p e;rintro a(q|⟨y,q⟩|⟨y,k',pp,c,q⟩|q);·exact⟨.inl q,λz=>I (z▸q)⟩
   ·exact⟨.inr (.inl ⟨y,q⟩),λz=>J y (z▸q)⟩
   ·obtain⟨G,c⟩:=dD c;exact⟨.inr (.inr (.inl ⟨y,k',pp,c,q⟩)),λz=>G (r.one y x k' k _ _ c e (q.trans z))⟩
   ·exact⟨.inr (.inr (.inr q)),λz=>L (z▸q)⟩
 have b:∀a o,H a o->Fz h (c5 env (bO σ x (.v (D.ofOwn k))) ad (dY Y)) a o:=by rw[r.isH];exact Fz.mono (λa o e U=>e) (λa q=>.inl (sub a q).1)
 have l:¬c5 env (bO σ x (.v (D.ofOwn k))) ad (dY Y) (ad x):=λq=>(sub _ q).2 rfl;have j:∃v,cu env m cm x=some v/\cx (Fz h (c5 env (bO σ x (.v (D.ofOwn k))) ad (dY Y))) v (D.ofOwn k):=by have o:=(r.own x k p e).ok;cases k with|list ds=>obtain⟨f,vs,n,g,d⟩:=o;exact⟨_,f,.list ⟨g,l⟩ (d.mono b)⟩|dict ds=>obtain⟨f,vs,n,g,d,k⟩:=o;exact⟨_,f,.dict ⟨g,l⟩ (d.mono b) k⟩|inst C fs=>obtain⟨y,f,i,es,n,g,d⟩:=o;exact⟨_,f,.inst (b _ _ i) ⟨g,l⟩ (d.mono b)⟩
 refine⟨⟨r.fr,r.ff,r.frs,r.cell,r.apart,rfl,r.held,λy s c=>?_,λy k' pp c=>?_,λy z k k' p1 p2 A B=>r.one y z k k' p1 p2 (dD A).2 (dD B).2⟩,b,j⟩
 · rcases lz c with⟨rfl,rfl⟩|⟨U,c⟩;·exact j
   ·obtain⟨u,E,t⟩:=r.fro y s c;exact⟨u,E,t.mono b⟩
 ·obtain⟨U,c⟩:=dD c;exact(r.own y k' pp c).to rfl rfl b (λU=>id) id
end
def Gd(g:Heap):Prop:=(cA w.params).In g/\∃p l m b a,Top p l m b a g
structure Cx(k:Nat)(A:Around)(g:Gr)(fr:Option Addr):Prop where
 below:∃fs,A.frames=some fs/\fs.map (·.frame)=g.fs.map some/\∀e∈fs,e.scope.kind=.function
 good:Gd g.b
 hand:A.handled=none
 depth:A.depth+12*k<=900
 units:A.units+60*k<=9000
structure kz(g:Gr)(X:Addr->Prop)(h:Heap):Prop where
 keep:∀b o,g.b.get? b=some o->h.get? b=some o
 frs:∀a∈g.fs,X a/\g.b.get? a=none/\∃mm,h.Ns a mm
 there:∀a,X a->∃o,h.get? a=some o
structure cj(env:Env):Prop where
 kind:env.scope.kind=.function
 glob:env.globals=mainGlobals
 blt:env.builtins=builtinsNs
def br(k:Nat)(f:Addr)(ds:List D)(d:D):Prop:=∀(A:Around)(g:Gr)(fr:Option Addr)(s:Shared)(X:Addr->Prop)(args:List Value)(R:Result->Shared->Prop),Cx k A g fr->kz g X s.heap->bM (Fz s.heap X) args ds->(∀v h' t,Kp g.fs s.heap h'->cx (Fz h' X) v d->R (.ok (.ret v)) (uS s h' t))->codeAny (model P0 w) A (.call (.ref f) ⟨args,[]⟩) R s
structure Lay where
 Y:Yd
 m:PySem.Str->Option Value
 cm:PySem.Str->Option Value
 ad:PySem.Str->Addr
abbrev RL(env:Env)(g:Gr)(l:Lay)(σ:Sig)(h:Heap)(H:Addr->Obj->Prop):Prop:=bD env g l.Y σ l.m l.cm h H l.ad
abbrev ut(env:Env)(g:Gr)(Y:Lay)(σ':Sig)(s:Shared)(H:Addr->Obj->Prop)(d:D)(Q:Value->Shared->Prop):Prop:=∀v h' t H',RL env g Y σ' h' H'->Sb H H'->cx H' v d->Q v (uS s h' t)
def Ev(A:Around)(env:Env)(g:Gr)(e:Expr)(σ:Sig)(d:D)(σ':Sig):Prop:=∀(Y:Lay)(s:Shared)(H:Addr->Obj->Prop)(Q:Value->Shared->Prop)(E:Value->Shared->Prop),RL env g Y σ s.heap H->ut env g Y σ' s H d Q->wpAny (model P0 w) A (eval e env) Q E s
def Tr(A:Around)(env:Env)(g:Gr)(e:Expr)(σ:Sig)(b:Bool)(σ':Sig):Prop:=∀(Y:Lay)(s:Shared)(H:Addr->Obj->Prop)(Q:Bool->Shared->Prop)(E:Value->Shared->Prop),RL env g Y σ s.heap H->(∀h' t H',RL env g Y σ' h' H'->Sb H H'->Q b (uS s h' t))->wpAny (model P0 w) A (isTrue e env (eval e env)) Q E s
def et(A:Around)(t:Value->Value->Sem Value)(a b d:D):Prop:=∀(s:Shared)(c:Addr->Prop)(u v:Value)(Q:Value->Shared->Prop)(E:Value->Shared->Prop),(∀x,c x->∃o,s.heap.get? x=some o)->cx (Fz s.heap c) u a->cx (Fz s.heap c) v b->(∀r h' e,Hk s.heap h'->cx (Fz h' c) r d->Q r (uS s h' e))->wpAny (model P0 w) A (t u v) Q E s
section
variable{A:Around}{env:Env}{g:Gr}{σ σ' σ₁:Sig}
theorem RL.use(R:RL env g Y σ h H):∃E:Addr->Prop,H=Fz h E/\(∀x,E x->∃o,h.get? x=some o)/\∀h',Hk h h'->RL env g Y σ h' (Fz h' E)/\Sb H (Fz h' E):=by have r:bD _ _ _ _ _ _ _ _ _:=R;exact⟨c5 env σ Y.ad (dY Y.Y),r.isH,λx q=>r.exThere q,λh' a=>⟨(r.grow a).1,(r.grow a).2⟩⟩
theorem RL.useK(R:RL env g Y σ h H):∃E:Addr->Prop,H=Fz h E/\kz g E h/\∀h',Kp g.fs h h'->RL env g Y σ h' (Fz h' E)/\Sb H (Fz h' E):=by have r:bD _ _ _ _ _ _ _ _ _:=R;exact⟨c5 env σ Y.ad (dY Y.Y),r.isH,⟨r.fr.keep,λa q=>⟨r.exFs q,(r.frs a q).2⟩,λx q=>r.exThere q⟩,λh' b=>⟨(r.growK b).1,(r.growK b).2⟩⟩
theorem GT(i:Int)(n:Nat)(p:Pos):Ev A env g (.Constant (.int i) n p) σ (.int i) σ:=λU s U U U R K=>wpAny_Constant_int (K _ s.heap _ _ R (λU U=>id) (.int i _))
theorem uB(x:PySem.Str)(n:Nat)(p:Pos):Ev A env g (.Constant (.str x) n p) σ (.str x) σ:=λU s U U U R K=>Constant_str (K _ s.heap _ _ R (λU U=>id) (.str x _))
theorem CH(n:Nat)(p:Pos):Ev A env g (.Constant .none n p) σ .none σ:=λU s U U U R K=>wpAny_Constant_none (K _ s.heap s.toks _ R (λU U=>id) .none)
theorem Dt(b:Bool)(n:Nat)(p:Pos):Ev A env g (.Constant (.bool b) n p) σ (.bool b) σ:=λU s U U U R K=>wpAny_Constant_bool (K _ s.heap s.toks _ R (λU U=>id) (.bool b))
set_option tactic.hygienic true in theorem ri{Y:Yd}{m a:PySem.Str->Option Value}{H:Addr->Obj->Prop}{ad:PySem.Str->Addr}{s:Shared}{Q:Value->Shared->Prop}{E:Value->Shared->Prop}(O:cj env)(r:bD env g Y σ m a s.heap H ad)(hv:cu env m a x=some v)(e:(x==("__debug__":PySem.Str))=false)(d:Q v s):wpAny M A (eval (.Name x p) env) Q E s:=by
 refine wpAny_Name ?_ e;unfold cu at hv;split at hv;·rename_i h;exact wpAny_loadName_local O.kind h r.fr.ns hv d
 · rename_i h;split at hv;·rename_i c b;exact wpAny_loadName_cell O.kind h b (hv▸(r.cell x c b).1) d
   ·exact ca hv
 ·exact ca hv
theorem bI(O:cj env)(c:bq σ x=some (.v d))(h:(x==("__debug__":PySem.Str))=false):Ev A env g (.Name x p) σ d σ:=by intro Y s H Q E R K;obtain⟨v,b,a⟩:=bD.fro R x d c;exact ri O R b h (K v s.heap s.toks H R (λU U=>id) a)
theorem gi(O:cj env)(b:bq σ x=some (.o k pp))(h:(x==("__debug__":PySem.Str))=false):Ev A env g (.Name x p) σ (D.ofOwn k) (bO σ x (.v (D.ofOwn k))):=by intro Y s H Q E R K;obtain⟨r,hs,v,a,d⟩:=bD.freeze R b;exact ri O R a h (K v s.heap s.toks _ r hs d)
theorem g1(O:cj env)(C:Cx k A g env.frame)(e:env.kindOf x=some .globalImplicit)(c:nsIn (cA w.params) mainGlobals x=some (some v))(b:(x==("__debug__":PySem.Str))=false):Ev A env g (.Name x p) σ (.atom v) σ:=by intro Y s H Q E R K;refine cI λG h=>?_;obtain⟨a,U,U,U,f,m,T⟩:=C.good;refine h ?_;have d:=mg_of a T.g c;have r:bD _ _ _ _ _ _ _ _ _:=R;refine Name_function_global O.kind e (loadGlobal_global (by rw[O.glob];exact T.g.keeps r.fr.keep) d (K v s.heap s.toks H R (λU U=>id) (.atom v))) b
theorem tH(O:cj env)(C:Cx k A g env.frame)(f:env.kindOf x=some .globalImplicit)(c:nsIn (cA w.params) mainGlobals x=some none)(hb:bootBuiltins x=some v)(e:x≠"__name__")(b:(x==("__debug__":PySem.Str))=false):Ev A env g (.Name x p) σ (.atom v) σ:=by intro Y s H Q E R K;refine cI λG h=>?_;obtain⟨a,U,U,U,i,m,T⟩:=C.good;refine h ?_;have d:=mg_none_of a T.g c;have r:bD _ _ _ _ _ _ _ _ _:=R;refine Name_function_global O.kind f (loadGlobal_builtin (by rw[O.glob];exact T.g.keeps r.fr.keep) d (by rw[O.blt];exact T.b.keeps r.fr.keep) ((T.builtins x e).trans hb) (K v s.heap s.toks H R (λU U=>id) (.atom v))) b
theorem cv(h:isStarred e=false):starEach (e::es) env=(false,eval e env)::starEach es env:=by cases e<;>first|rfl|exact nomatch h
inductive il(A:Around)(env:Env)(g:Gr):List Expr->Sig->List D->Sig->Prop|nil{σ:Sig}:il A env g [] σ [] σ|cons{e:Expr}{es:List Expr}{σ σ₁ σ':Sig}{d:D}{ds:List D}:isStarred e=false->Ev A env g e σ d σ₁->il A env g es σ₁ ds σ'->il A env g (e::es) σ (d::ds) σ'
abbrev Fp(env:Env)(g:Gr)(Y:Lay)(σ':Sig)(s:Shared)(H:Addr->Obj->Prop)(ds:List D)(Q:List Value->Shared->Prop):Prop:=∀vs h' t H',RL env g Y σ' h' H'->Sb H H'->bM H' vs ds->Q vs (uS s h' t)
theorem il.run(h:il A env g es σ ds σ'):∀(pos:Pos)(Y:Lay)(s:Shared)(H:Addr->Obj->Prop)(Q:List Value->Shared->Prop)(E:Value->Shared->Prop),RL env g Y σ s.heap H->Fp env g Y σ' s H ds Q->wpAny (model P0 w) A (spliced (backTo pos (starEach es env))) Q E s:=by induction h with|nil=>intro pos Y s H Q E R K;exact spliced_nil (K [] s.heap s.toks H R (λU U=>id) .nil)|cons l k _ m=>intro pos Y s H Q E R K;rw[cv l];refine spliced_cons (k Y s H _ E R λv h' n H' e sub i=>?_);refine m pos Y _ H' _ E e λvs j t c f b d=>?_;exact K (v::vs) j t c f (λa o q=>b a o (sub a o q)) (.cons (i.mono b) d)
theorem il.args(h:il A env g es σ ds σ')(f:Value)(pos:Pos)(Y:Lay)(s:Shared)(H:Addr->Obj->Prop)(Q:Args->Shared->Prop)(E:Value->Shared->Prop)(R:RL env g Y σ s.heap H)(K:Fp env g Y σ' s H ds (λvs a=>Q ⟨vs,[]⟩ a)):wpAny (model P0 w) A (evalArgs f true (backTo pos (starEach es env)) []) Q E s:=by cases h with|nil=>exact evalArgs_nil3 (K [] s.heap s.toks H R (λU U=>id) .nil)|cons b c r=>have q:=(il.cons b c r).run pos Y s H (λvs a=>Q ⟨vs,[]⟩ a) E R K;rw[cv b]at q⊢;exact evalArgs_plain q
inductive Fl where|next|ret(d:D)|reto(k:js)|brk|cont
def HT(g:Gr)(h:Heap)(H:Addr->Obj->Prop):Flow->Fl->Prop|.next,.next=>True|.ret v,.ret d=>cx H v d|.ret v,.reto k=>∃a,ej h H (some v) a k/\g.get? a=none/\∀o,¬H a o|.brk,.brk=>True|.cont,.cont=>True|_,_=>False
abbrev Fh(env:Env)(g:Gr)(Y:Yd)(σ':Sig)(s:Shared)(H:Addr->Obj->Prop)(r:Fl)(Q:Flow->Shared->Prop):Prop:=∀fl h' t H',gP env g Y σ' h' H'->Sb H H'->HT g h' H' fl r->Q fl (uS s h' t)
def kx(A:Around)(env:Env)(g:Gr)(st:Stmt)(σ:Sig)(r:Fl)(σ':Sig):Prop:=∀(Y:Yd)(s:Shared)(H:Addr->Obj->Prop)(Q:Flow->Shared->Prop)(E:Value->Shared->Prop),gP env g Y σ s.heap H->Fh env g Y σ' s H r Q->wpAny (model P0 w) A (exec st env) Q E s
def dW(A:Around)(env:Env)(g:Gr)(st:List Stmt)(σ:Sig)(r:Fl)(σ':Sig):Prop:=∀(Y:Yd)(s:Shared)(H:Addr->Obj->Prop)(Q:Flow->Shared->Prop)(E:Value->Shared->Prop),gP env g Y σ s.heap H->Fh env g Y σ' s H r Q->wpAny (model P0 w) A (execs st env) Q E s
theorem DY:dW A env g [] σ .next σ:=λU s H U U R K=>wpAny_execs_nil (K .next s.heap s.toks H R (λU U=>id) trivial)
theorem sA{st:Stmt}{r:List Stmt}{fl:Fl}(j:kx A env g st σ .next σ₁)(h:dW A env g r σ₁ fl σ'):dW A env g (st::r) σ fl σ':=by
 intro Y s H Q E R K;refine wpAny_execs_cons (j Y s H _ E R λf h' l H' e sub k=>?_);cases f<;>first|exact k.elim|skip
 exact h Y _ H' _ E e λfl h t d i b c=>K fl h t d i (λa o q=>b a o (sub a o q)) c
theorem iI{st:Stmt}{r:List Stmt}{fl:Fl}(c:fl≠.next)(b:kx A env g st σ fl σ'):dW A env g (st::r) σ fl σ':=by intro Y s H Q E R K;refine wpAny_execs_cons (b Y s H _ E R λf h' t H' a sub h=>?_);cases f with
 |next=>cases fl<;>first|exact h.elim|exact absurd rfl c
 |_=>exact K _ h' t H' a sub h
theorem pO(h:Ev A env g e σ d σ'):kx A env g (.Return (some e) p) σ (.ret d) σ':=λY s H Q E⟨m,c,ad,R⟩K=>wpAny_Return_some (h ⟨Y,m,c,ad⟩ s H _ E R λv h' t H' a sub b=>K (.ret v) h' t H' ⟨_,_,_,a⟩ sub b)
theorem tX:kx A env g (.Return none p) σ (.ret .none) σ:=λU s H U U R K=>wpAny_Return_none (K (.ret .none) s.heap s.toks H R (λU U=>id) .none)
theorem EC:kx A env g (.Continue p) σ .cont σ:=λU s H U U R K=>wpAny_Continue (K .cont s.heap s.toks H R (λU U=>id) trivial)
theorem FM(r:Tr A env g t σ b σ₁)(h:dW A env g (if b then k else l) σ₁ fl σ'):kx A env g (.If t k l p) σ fl σ':=by rintro Y s H Q E⟨m,n,ad,R⟩K;refine wpAny_If (r ⟨Y,m,n,ad⟩ s H _ E R λh' u H' i sub=>?_);have z:=h Y (uS s h' u) H' Q E ⟨_,_,_,i⟩ λfl h e f j c d=>K fl h e f j (λa o q=>c a o (sub a o q)) d;cases b<;>exact z
theorem nH{s:Shared}{Y:Yd}{m e:PySem.Str->Option Value}{ad:PySem.Str->Addr}{H:Addr->Obj->Prop}{Q:Unit->Shared->Prop}{E:Value->Shared->Prop}(O:cj env)(f:env.kindOf x=some .local\/(env.kindOf x=some .cell/\(env.cells.lookup x).isSome=true))(r:bD env g Y σ m e s.heap H ad)(K:∀h' t i b,w3 env x v m e i b s.heap h'->Q () (uS s h' t)):wpAny (model P0 w) A (storeName env x v) Q E s:=by
 rcases f with a|⟨a,h⟩;·exact wpAny_storeName_local a r.fr.ns (λh' d hs=>K h' _ _ _ (w3.local r a d hs)) (by rw[O.kind];rfl)
 ·obtain⟨c,h⟩:=Option.isSome_iff_exists.mp h;exact wpAny_storeName_cell O.kind a h (r.cell x c h).1 λh' d hs=>K h' s.toks _ _ (w3.celled r a h d hs)
theorem tu(O:cj env)(h:env.kindOf x=some .local\/(env.kindOf x=some .cell/\(env.cells.lookup x).isSome=true))(R:gP env g Y σ s.heap H)(a:cx H v d)(K:∀h' t H',gP env g Y (bO σ x (.v d)) h' H'->Sb H H'->Q () (uS s h' t)):wpAny (model P0 w) A (storeName env x v) Q E s:=by obtain⟨m,b,ad,r⟩:=R;refine nH O h r λh' t e c p=>?_;have q:=r.store a p;exact K h' t _ ⟨_,_,_,q.1⟩ q.2
def k6(env:Env)(x:PySem.Str):Prop:=env.kindOf x=some .local\/(env.kindOf x=some .cell/\(env.cells.lookup x).isSome=true)
theorem wX(O:cj env)(n:k6 env x)(h:Ev A env g e σ d σ')(hs:swapsWith e (some (.Name x p')) p.line env=pure false):kx A env g (.Assign [.Name x p'] e p) σ .next (bO σ' x (.v d)):=by rintro Y s H Q E⟨m,j,ad,R⟩K;refine wpAny_Assign_Name (h ⟨Y,m,j,ad⟩ s H _ E R λv h' r H' f sub k=>?_) hs;refine tu O n ⟨_,_,_,f⟩ k λl t c i b=>?_;exact K .next l t c i (λa o q=>b a o (sub a o q)) trivial
theorem Du(h:Ev A env g e σ d σ')(b:interactive env=false)(hs:swapsWith e none p.line env=pure false):kx A env g (.Expr e p) σ .next σ':=λY s H Q E⟨m,c,ad,R⟩K=>wpAny_Expr_any (h ⟨Y,m,c,ad⟩ s H _ E R λU h' t H' a sub U=>K .next h' t H' ⟨_,_,_,a⟩ sub trivial) b hs
end
structure Rn(k:Nat)(sc:Scope)(A:Around)(env:Env)(g:Gr):Prop where
 O:cj env
 C:Cx k A g env.frame
 scope:env.scope=sc
 cells:∀x,sc.names.lookup x=some .cell->(env.cells.lookup x).isSome=true
 top:∃outer,A.frames=some (env::outer)
section
theorem fB:∀{xs:List PySem.Str}{vs:List Value}{ds:List D},bM H vs ds->∀x d,bq (xs.zip (ds.map Slot.v)) x=some (.v d)->∃v,(xs.zip vs).lookup x=some v/\cx H v d:=by intro xs;induction xs with|nil=>exactλU x d e=>ca e|cons y xs i=>intro vs ds h x d e;cases ds with|nil=>exact ca e|cons a ds=>obtain⟨v,c,rfl,b,r⟩:=h.inv;have e:List.lookup x ((y,Slot.v a)::xs.zip (ds.map Slot.v))=some (.v d):=e;show∃u,List.lookup x ((y,v)::xs.zip c)=some u/\_;rw[AK]at e⊢;cases q:x==y with|true=>rw[q]at e;exact⟨v,rfl,Slot.v.inj (A0 e)▸b⟩|false=>rw[q]at e;exact i r x d e
theorem cX:∀{xs:List PySem.Str}{ds:List D}{x:PySem.Str}{k:js}{p:Option (Addr×Value)},bq (xs.zip (ds.map Slot.v)) x≠some (.o k p)|[],ds,x,k,p=>by simp[bq]|_::_,[],x,k,p=>by simp[bq]|y::xs,d::ds,x,k,p=>by simp only[AS,List.zip_cons_cons,bq,AK];cases q:x==y with|true=>simp|false=>exact cX
theorem oy:∀(names:List (PySem.Str×NameKind))(n:Nat)(acc:List (PySem.Str×Addr))(x:PySem.Str),(x,NameKind.cell)∈names\/(acc.lookup x).isSome=true->((cellsFrom n names acc).lookup x).isSome=true:=by intro z;induction z with
 |nil=>
   intro n acc x h;rcases h with h|h;·exact absurd h A3
   ·exact h|cons p r i=>
   obtain⟨y,kd⟩:=p;intro n acc x h;unfold cellsFrom;by_cases a:(kd==NameKind.cell)=true
   · rw[if_pos a];refine i _ _ x ?_;rcases h with h|h
     · rcases A6.mp h with h|h;·obtain⟨rfl,rfl⟩:=Prod.mk.inj h;exact .inr (by simp[List.lookup])
       ·exact .inl h
     ·refine .inr ?_;rw[AK];cases q:x==y<;>trivial
   · rw[if_neg a];refine i _ _ x ?_;rcases h with h|h
     · rcases A6.mp h with h|h;·obtain⟨rfl,rfl⟩:=Prod.mk.inj h;exact(a rfl).elim
       ·exact .inl h
     ·exact .inr h
theorem zK(kd:PySem.Str->Option NameKind)(x:PySem.Str)(d:kd x=some .local):∀(xs:List PySem.Str)(vs:List Value)(m:PySem.Str->Option Value),xs.Nodup->bindL kd (xs.zip vs) m x=match(xs.zip vs).lookup x with|some v=>some v|none=>m x:=by intro xs;induction xs with|nil=>exactλU U U=>rfl|cons y xs i=>intro vs m a;cases vs with|nil=>rfl|cons v vs=>
   obtain⟨f,a⟩:=List.nodup_cons.mp a;rw[List.zip_cons_cons,AK];show bindL kd (xs.zip vs) _ x=_;rw[i vs _ a];by_cases h:x=y
   · subst h;have:(xs.zip vs).lookup x=none:=List.lookup_eq_none_iff.mpr λp c=>by have:=(List.of_mem_zip (show(p.1,p.2)∈xs.zip vs from c)).1;simp;intro e;exact f (e▸this)
     simp[this,d]
   · have h':(x==y)=false:=by simpa using h
     rw[h'];cases(xs.zip vs).lookup x with|some u=>rfl|none=>by_cases b:kd y=some .local<;>simp[b,h]
theorem z8(kd:PySem.Str->Option NameKind)(x:PySem.Str)(d:kd x=some .cell):∀(xs:List PySem.Str)(vs:List Value)(m:PySem.Str->Option Value),xs.Nodup->bindC kd (xs.zip vs) m x=match(xs.zip vs).lookup x with|some v=>some v|none=>m x:=by intro xs;induction xs with|nil=>exactλU U U=>rfl|cons y xs i=>intro vs m a;cases vs with|nil=>rfl|cons v vs=>
   obtain⟨f,a⟩:=List.nodup_cons.mp a;rw[List.zip_cons_cons,AK];show bindC kd (xs.zip vs) _ x=_;rw[i vs _ a];by_cases h:x=y
   · subst h;have:(xs.zip vs).lookup x=none:=List.lookup_eq_none_iff.mpr λp c=>by have:=(List.of_mem_zip (show(p.1,p.2)∈xs.zip vs from c)).1;simp;intro e;exact f (e▸this)
     simp[this,d]
   · have h':(x==y)=false:=by simpa using h
     rw[h'];cases(xs.zip vs).lookup x with|some u=>rfl|none=>by_cases b:kd y=some .local<;>simp[b,h]
structure yt(f:Addr)(fd:FuncData)(body:List Stmt):Prop where
 at_:∃o,(cA w.params).lookup f=some o/\o.data=.func fd
 code:∃c,fd.code=.ref c/\codeIn (cA w.params) (.ref c) fd.qualname=true
 body:fd.body=.stmts body
 clo:fd.closure=[]glob:fd.globals=mainGlobals
 blt:fd.builtins=builtinsNs
 co:fd.scope.isCoroutine=false
 gen:fd.scope.isGenerator=false
 kind:fd.scope.kind=.function
set_option backward.match.sparseCases true in theorem fS{r:FuncData}{xs:List PySem.Str}{ad0:PySem.Str->Addr}{X:Addr->Prop}{g:Gr}{s:Shared}{R:Result->Shared->Prop}(H:yt f r Y)(ab:xs.Nodup)(hb:(cA w.params).In s.heap->BindsTo s r args (xs.zip vs))(u:∀x∈xs,r.scope.names.lookup x=some .local\/r.scope.names.lookup x=some .cell)(C:Cx (k+1) A g fr)(S:kz g X s.heap)(aa:∀a∈hid,g.b.get? a=none)(hv:∀x d,bq σ0 x=some (.v d)->∃v,(xs.zip vs).lookup x=some v/\cx (Fz s.heap (λa=>X a\/a∈hid)) v d)(ho:∀x k p,bq σ0 x=some (.o k p)->ej s.heap (Fz s.heap (λa=>X a\/a∈hid)) ((xs.zip vs).lookup x) (ad0 x) k/\ad0 x∈hid/\¬X (ad0 x)/\∀a v,p=some (a,v)->ad0 x=a/\(xs.zip vs).lookup x=some v)(h1:∀x y k k' p p',bq σ0 x=some (.o k p)->bq σ0 y=some (.o k' p')->ad0 x=ad0 y->x=y)(L:∀(A':Around)(env:Env)(E:Gr)(j:Shared)(H₁:Addr->Obj->Prop),Rn k r.scope A' env E->E.e=hideAll s.heap hid/\E.b=g.b/\E.fs=env.locals::g.fs/\env.locals=s.heap.objs.size->env.frame=some env.locals->(∃h tk,j=(uS s h tk))->Hk s.heap j.heap->Sb (Fz s.heap (λa=>X a\/a∈hid)) H₁->gP env E (λa o=>X a/\s.heap.get? a=some o) σ0 j.heap H₁->wpAny (model P0 w) A' (execs Y env) (λf s'=>R (.ok (.ret (match f with|.ret v=>v|_=>.none))) s') (λe s'=>wpAny (model P0 w) A' (leaving env e) (λU Q=>R (.error e) Q) (λe' Q=>R (.error e') Q) s') j):codeAny (model P0 w) A (.call (.ref f) args) R s:=by
 refine cI λG hG=>?_;obtain⟨m,hA,aj,ai⟩:=C.below;obtain⟨KI,p,l,me,mg,mb,T⟩:=C.good;obtain⟨o,al,hd⟩:=H.at_;obtain⟨c,af,ag⟩:=H.code;refine hG ?_;have KH:(cA w.params).In s.heap:=Frag.In.keeps KI S.keep;have I:∀x∈xs.zip vs,r.scope.names.lookup x.1=some .local\/(r.scope.names.lookup x.1=some .cell/\((cellsFrom (s.heap.objs.size+1) r.scope.names []).lookup x.1).isSome=true):=λx hx=>(u x.1 (List.of_mem_zip (show(x.1,x.2)∈xs.zip vs from hx)).1).elim .inl λq=>.inr ⟨q,oy _ _ _ _ (.inl (mem_of_lookup q))⟩;refine codeAny_call_function (by have:=C.depth;show A.depth<1000;exact wk (AE (A1 (A7 _ _) this)) rfl) (KH _ _ al) hd H.co H.gen H.body (by rw[af];exact codeRec_of KH ag) (hb KH _ _ _ _ ?_);rw[H.clo];refine wpAny_newFunctionEnv_cells H.kind I λenv he j x=>?_;have ah:env=callEnvC r s.heap.objs.size f:=he;subst ah;refine⟨(T.nolimit.keeps S.keep).keeps x.toInCall.keep,codeAny_func ?_⟩;generalize hE:callEnvC r s.heap.objs.size f=env at*;have t:env.locals=s.heap.objs.size:=by rw[<-hE];rfl
 have ef:env.frame=some s.heap.objs.size:=by rw[<-hE];rfl
 have es:env.scope=r.scope:=by rw[<-hE];rfl
 have ec:env.cells=cellsFrom (s.heap.objs.size+1) r.scope.names []:=by rw[<-hE];rfl
 have O:cj env:=by subst hE;exact⟨H.kind,H.glob,H.blt⟩
 have st:Hk g.b (hideAll s.heap hid):=λb o e=>hideAll_get _ (S.keep b o e) λq=>by rw[aa b q]at e;exact ca e
 let E:Gr:=⟨g.b,hideAll s.heap hid,env.locals::g.fs,λa o e=>⟨o,st a o e⟩⟩;have C':Cx k (A.deeper env) E env.frame:=by
   refine⟨⟨env::m,Around.frames_deeper hA,?_,λe he=>?_⟩,C.good,C.hand,?_,?_⟩;·show env.frame::m.map (·.frame)=some env.locals::g.fs.map some;rw[aj,ef,t]
   · rcases A6.mp he with rfl|he;·exact O.kind
     ·exact ai e he
   ·have:=C.depth;show A.depth+1+12*k<=900;exact bu this (by decide)
   ·have:=C.units;show A.units+3+60*k<=9000;exact bu this (by decide)
 have B':Rn k r.scope (A.deeper env) env E:=⟨O,C',es,λy hy=>by rw[ec];exact oy _ _ _ _ (.inl (mem_of_lookup hy)),m,Around.frames_deeper hA⟩;obtain⟨B,tk,rfl⟩:=x.toInCall.same;have Fn:LT E env.locals B _:=⟨x.toInCall.ns,λb o e=>x.toInCall.keep b o (S.keep b o e),λb o e=>⟨o,x.toInCall.keep b o (of_hideAll _ e)⟩,by show(hideAll s.heap hid).objs.size<=_;rw[t,hideAll_size];exact AT _⟩;have fresh:∀a,s.heap.objs.size<=a->s.heap.get? a=none:=λa ha=>Heap.get?_none_of_le ha;have i:∀n c,env.cells.lookup n=some c->s.heap.objs.size<c:=λn c e=>by rw[<-t];exact x.above n c (mem_of_lookup e)
 have am:∀y v,(xs.zip vs).lookup y=some v->y∈xs:=λy v e=>(List.of_mem_zip (mem_of_lookup e)).1;have V:∀y v,(xs.zip vs).lookup y=some v->cu env (bindL env.kindOf (xs.zip vs) λU=>none) (bindC env.kindOf (xs.zip vs) λU=>none) y=some v:=by
   intro y v e;have ek:env.kindOf y=r.scope.names.lookup y:=by unfold Env.kindOf;rw[es]
   unfold cu;rcases u y (am y v e)with q|q;·rw[ek.trans q];show bindL env.kindOf (xs.zip vs) (λU=>none) y=some v;rw[zK _ _ (ek.trans q) _ _ _ ab,e]
   ·rw[ek.trans q];obtain⟨c',ae⟩:=Option.isSome_iff_exists.mp (B'.cells y q);show(match env.cells.lookup y with|some _=>bindC env.kindOf (xs.zip vs) (λU=>none) y|none=>none)=some v;rw[ae];show bindC env.kindOf (xs.zip vs) (λU=>none) y=some v;rw[z8 _ _ (ek.trans q) _ _ _ ab,e]
 have hH:Sb (Fz s.heap (λa=>X a\/a∈hid)) (Fz B (c5 env σ0 ad0 (dY λa o=>X a/\s.heap.get? a=some o))):=by
   rintro a o⟨J,N⟩;refine⟨x.toInCall.keep a o J,?_⟩;rintro(q|⟨y,q⟩|⟨y,k',p',q,e⟩|⟨o',q⟩);·rw[q,t]at J;exact absurd (AG J) (AU _)
   ·exact absurd (AG J) (Nat.not_lt_of_lt (i y a q))
   ·exact N (.inr (e▸(ho y k' p' q).2.1))
   ·exact N (.inl q.1)
 refine L _ env E (uS s B tk) _ B' ⟨rfl,rfl,rfl,t⟩ (by rw[ef,t]) ⟨_,_,rfl⟩ x.toInCall.keep hH ⟨_,_,ad0,⟨Fn,⟨_,ef,by show _∈env.locals::g.fs;rw[t];exact A4⟩,λa q=>?_,λn c e=>⟨x.cell n c e,?_,?_⟩,x.apart,rfl,λa o q=>⟨.of (x.toInCall.keep a o q.2),?_,λn e=>?_⟩,λy d e=>?_,λy k' p' e=>?_,h1⟩⟩
 · rcases A6.mp q with rfl|q;·refine⟨.inl rfl,?_,_,Fn.ns⟩;cases z:g.b.get? env.locals with|none=>exact rfl|some o'=>have:=S.keep _ o' z;rw[t,fresh _ (AT _)]at this;exact ca this
   ·obtain⟨J,N,mm,oL,ac,ep,hL,hq⟩:=S.frs a q;exact⟨.inr ⟨oL,J,hL⟩,N,mm,oL,ac,ep,x.toInCall.keep _ _ hL,hq⟩
 ·intro z;have:=i n c e;rw[z,t]at this;exact AU _ this
 ·show(hideAll s.heap hid).get? c=none;cases q:(hideAll s.heap hid).get? c with|none=>rfl|some o'=>exact absurd (AG (of_hideAll _ q)) (Nat.not_lt_of_lt (i n c e))
 ·intro z;have:=AG q.2;rw[z,t]at this;exact AU _ this
 ·exact absurd (AG q.2) (Nat.not_lt_of_lt (i n a e))
 ·obtain⟨v,e,dv⟩:=hv y d e;exact⟨v,V y v e,dv.mono hH⟩
 · obtain⟨q,J,N,q3⟩:=ho y k' p' e;obtain⟨oa,ak⟩:=q.there;have M:ad0 y<s.heap.objs.size:=AG ak;have ev:∃v,(xs.zip vs).lookup y=some v:=by cases k' with|list ds=>exact⟨_,q.1⟩|dict ds=>exact⟨_,q.1⟩|inst C fs=>obtain⟨z,q,U⟩:=q;exact⟨_,q⟩
   obtain⟨v,ev⟩:=ev;have hv:=(V y v ev).trans ev.symm;refine⟨hv▸q.mono hH λo e=>x.toInCall.keep _ o e,hideAll_none _ J,?_,λn e=>?_,λ⟨o,z⟩=>N z.1,λz=>?_,hv▸q3⟩;·rw[t];exact AY M
   ·exact absurd M (Nat.not_lt_of_lt (i n _ e))
   · rcases A6.mp z with z|z;·rw[t]at z;exact AY M z
     ·exact N (S.frs _ z).1
theorem gP.out{env:Env}{j:Gr}{fs hid:List Addr}{h h':Heap}{X:Addr->Prop}{σ':Sig}{H₁ H':Addr->Obj->Prop}(n:env.locals=h.objs.size)(d:j.fs=env.locals::fs)(p:∀a,X a->∃o,h.get? a=some o)(c:Sb (Fz h (λa=>X a\/a∈hid)) H₁)(sub:Sb H₁ H')(R:gP env j (λa o=>X a/\h.get? a=some o) σ' h' H'):(∀b o,b∉hid->h.get? b=some o->Up fs h' b o)/\Sb H' (Fz h' X):=by
 obtain⟨m,t,ad,r⟩:=R;refine⟨λb o hb e=>?_,?_⟩
 · by_cases k:X b
   · obtain⟨i,l,q⟩:=(r.held b o ⟨k,e⟩).1;refine⟨i,l,q.imp id λq=>⟨?_,q.2⟩⟩;have:=q.1;rw[d]at this;rcases A6.mp this with z|z;·rw[z,n]at e;exact absurd (AG e) (AU _)
     ·exact z
   ·have:=sub b o (c b o ⟨e,λz=>z.elim k hb⟩);rw[r.isH]at this;exact .of this.1
 ·rw[r.isH];rintro a o⟨e,s⟩;refine⟨e,λz=>?_⟩;obtain⟨i,f⟩:=p a z;exact s (.inr (.inr (.inr ⟨i,z,f⟩)))
theorem sr{k:Nat}{f:Addr}{t:FuncData}{i:List Stmt}{xs:List PySem.Str}{ds dds:List D}{dvals:List Value}{d:D}{fl:Fl}(hF:yt f t i)(I:xs.Nodup)(hb:∀s:Shared,(cA w.params).In s.heap->∀vs:List Value,vs.length=ds.length->BindsTo s t ⟨vs,[]⟩ (xs.zip (vs++dvals)))(u:∀H,bM H dvals dds)(l:∀x∈xs,t.scope.names.lookup x=some .local\/t.scope.names.lookup x=some .cell)(G:fl=.ret d\/(fl=.next/\d=.none))(h:∀(A:Around)(env:Env)(g:Gr),Rn k t.scope A env g->∃σ',dW A env g i (xs.zip ((ds++dds).map Slot.v)) fl σ'):br (k+1) f ds d:=by
 intro A g fr s X args R C S c K;refine fS (hid:=[]) (X:=X) (vs:=args++dvals) (σ0:=xs.zip ((ds++dds).map Slot.v)) (ad0:=λU=>0) hF I (λT=>hb s T args c.length) l C S (λa z=>by exact absurd z A3) (λx Y e=>?_) (λx k p e=>absurd e cX) (λx y k k' p p' e=>absurd e cX) λA' env g' O H₁ B L U m U hH n=>?_;·have r:bM (Fz s.heap (λa=>X a\/a∈([]:List Addr))) (args++dvals) (ds++dds):=(c.mono λa o q=>⟨q.1,λz=>q.2 (z.elim id λz=>by exact absurd z A3)⟩).append (u _);exact fB r x Y e
 · obtain⟨σ',j⟩:=h _ _ _ B;obtain⟨N,J,rfl⟩:=m;refine j _ _ _ _ _ n λM h' Q H' V sub E=>?_;obtain⟨kp,out⟩:=V.out L.2.2.2 L.2.2.1 S.there hH sub;have fin:∀v,cx H' v d->R (.ok (.ret v)) (uS s h' Q):=λv dv=>K v h' Q (λb o e=>kp b o (by simp) e) (dv.mono out);rcases G with rfl|⟨rfl,rfl⟩;·cases M<;>first|exact E.elim|exact fin _ E
   ·cases M<;>first|exact E.elim|exact fin _ .none
def bP(k:Nat)(f:Addr)(ds:List D)(o:js):Prop:=∀(A:Around)(g:Gr)(fr:Option Addr)(s:Shared)(X:Addr->Prop)(args:List Value)(R:Result->Shared->Prop),Cx k A g fr->kz g X s.heap->bM (Fz s.heap X) args ds->(∀v h' t a,Kp g.fs s.heap h'->ej h' (Fz h' (λb=>X b\/b=a)) (some v) a o->s.heap.get? a=none->R (.ok (.ret v)) (uS s h' t))->codeAny (model P0 w) A (.call (.ref f) ⟨args,[]⟩) R s
theorem qP{k:Nat}{f:Addr}{r:FuncData}{c:List Stmt}{xs:List PySem.Str}{ds dds:List D}{dvals:List Value}{o:js}(hF:yt f r c)(v:xs.Nodup)(hb:∀s:Shared,(cA w.params).In s.heap->∀vs:List Value,vs.length=ds.length->BindsTo s r ⟨vs,[]⟩ (xs.zip (vs++dvals)))(u:∀H,bM H dvals dds)(j:∀x∈xs,r.scope.names.lookup x=some .local\/r.scope.names.lookup x=some .cell)(h:∀(A:Around)(env:Env)(g:Gr),Rn k r.scope A env g->∃σ',dW A env g c (xs.zip ((ds++dds).map Slot.v)) (.reto o) σ'):bP (k+1) f ds o:=by
 intro A g fr s X args R C S d K;refine fS (hid:=[]) (X:=X) (vs:=args++dvals) (σ0:=xs.zip ((ds++dds).map Slot.v)) (ad0:=λU=>0) hF v (λN=>hb s N args d.length) j C S (λa z=>by exact absurd z A3) (λx Q e=>?_) (λx k p e=>absurd e cX) (λx y k k' p p' e=>absurd e cX) λA' env V M H₁ B t U l U hH m=>?_;·have n:bM (Fz s.heap (λa=>X a\/a∈([]:List Addr))) (args++dvals) (ds++dds):=(d.mono λa o q=>⟨q.1,λz=>q.2 (z.elim id λz=>by exact absurd z A3)⟩).append (u _);exact fB n x Q e
 · obtain⟨σ',i⟩:=h _ _ _ B;obtain⟨L,I,rfl⟩:=l;refine i _ _ _ _ _ m λT h' tk H' O sub J=>?_;obtain⟨kp,out⟩:=O.out t.2.2.2 t.2.2.1 S.there hH sub;cases T<;>try exact J.elim
   refine cI λG hG=>?_;obtain⟨a,ok,Y,na⟩:=J;refine hG ?_;refine K _ h' tk a (λb o e=>kp b o (by simp) e) (ok.mono (λb E q=>⟨(out b E q).1,λz=>z.elim (out b E q).2 λz=>na E (z▸q)⟩) λU e=>e) ?_;have e:V.e.get? a=none:=Y;rw[t.1]at e;exact e
def cq(k:Nat)(f:Addr)(o:js)(ds:List D)(d:D)(c:js):Prop:=∀(A:Around)(g:Gr)(fr:Option Addr)(s:Shared)(X:Addr->Prop)(v:Value)(a:Addr)(args:List Value)(R:Result->Shared->Prop),Cx k A g fr->kz g X s.heap->g.b.get? a=none->¬X a->ej s.heap (Fz s.heap (λb=>X b\/b=a)) (some v) a o->bM (Fz s.heap (λb=>X b\/b=a)) args ds->(∀r h' t,(∀b o,b≠a->s.heap.get? b=some o->Up g.fs h' b o)->ej h' (Fz h' (λb=>X b\/b=a)) (some v) a c->cx (Fz h' (λb=>X b\/b=a)) r d->R (.ok (.ret r)) (uS s h' t))->codeAny (model P0 w) A (.call (.ref f) ⟨v::args,[]⟩) R s
theorem rz{k:Nat}{f:Addr}{E:FuncData}{i:List Stmt}{x₀:PySem.Str}{xs:List PySem.Str}{ds dds:List D}{dvals:List Value}{d:D}{fl:Fl}{o o':js}(hF:yt f E i)(G:(x₀::xs).Nodup)(hb:∀s:Shared,(cA w.params).In s.heap->∀vs:List Value,vs.length=ds.length+1->BindsTo s E ⟨vs,[]⟩ ((x₀::xs).zip (vs++dvals)))(M:∀H,bM H dvals dds)(m:∀x∈x₀::xs,E.scope.names.lookup x=some .local\/E.scope.names.lookup x=some .cell)(O:fl=.ret d\/(fl=.next/\d=.none))(h:∀(a:Addr)(v:Value)(A:Around)(env:Env)(g:Gr),Rn k E.scope A env g->∃σ',bq σ' x₀=some (.o o' (some (a,v)))/\dW A env g i ((x₀,Slot.o o (some (a,v)))::xs.zip ((ds++dds).map Slot.v)) fl σ'):cq (k+1) f o ds d o':=by
 intro A g fr s X v a args R C S ga aX ok c K;obtain⟨nx,af⟩:=List.nodup_cons.mp G;have er:(x₀::xs).zip (v::args++dvals)=(x₀,v)::xs.zip (args++dvals):=rfl;refine fS (hid:=[a]) (X:=X) (vs:=v::args++dvals) (σ0:=(x₀,Slot.o o (some (a,v)))::xs.zip ((ds++dds).map Slot.v)) (ad0:=λU=>a) hF G (λKH=>hb s KH (v::args) (by rw[AJ,c.length])) m C S (λb z=>?_) (λx d' e=>?_) (λx k p e=>?_) (λx y k k' p p' e1 e2 U=>?_) λA' env g' ab H₁ B Y U n U hH t=>?_;·rw[AF.mp z];exact ga
 ·rw[er,AK];unfold bq at e;rw[AK]at e;cases q:x==x₀ with|true=>rw[q]at e;cases e|false=>rw[q]at e;have u:bM (Fz s.heap (λb=>X b\/b∈[a])) (args++dvals) (ds++dds):=(c.mono λa o q=>⟨q.1,λz=>q.2 (z.elim .inl λz=>.inr (AF.mp z))⟩).append (M _);exact fB u x d' e
 ·unfold bq at e;rw[AK]at e;rw[er,AK];cases q:x==x₀ with|false=>rw[q]at e;exact absurd e cX|true=>rw[q]at e;cases e;exact⟨ok.mono (λb o q=>⟨q.1,λz=>q.2 (z.elim .inl λz=>.inr (AF.mp z))⟩) λU e=>e,AF.mpr rfl,aX,λa' v' z=>by cases z;exact⟨rfl,rfl⟩⟩
 · have J:∀x k p,bq ((x₀,Slot.o o (some (a,v)))::xs.zip ((ds++dds).map Slot.v)) x=some (.o k p)->x=x₀:=by intro x k p e;unfold bq at e;rw[AK]at e;cases q:x==x₀ with|true=>exact Ac.mp q|false=>rw[q]at e;exact absurd e cX
   exact(J x _ _ e1).trans (J y _ _ e2).symm
 · obtain⟨σ',I,l⟩:=h a v _ _ _ B;obtain⟨aa,Q,rfl⟩:=n;refine l _ _ _ _ _ t λf' h' tk H' T sub N=>?_;obtain⟨kp,out⟩:=T.out Y.2.2.2 Y.2.2.1 S.there hH sub;obtain⟨m',ae,ac,r'⟩:=T;obtain⟨L,q1,U,U,U,U,q6⟩:=r'.own _ _ _ I;obtain⟨V,ev⟩:=q6 _ _ rfl;rw[ev,V]at L;have j:∀b o,H' b o->Fz h' (λb=>X b\/b=a) b o:=λb o q=>by obtain⟨e,nX⟩:=out b o q;refine⟨e,λz=>z.elim nX λz=>?_⟩;rw[r'.isH]at q;exact q.2 (.inr (.inr (.inl ⟨x₀,_,_,I,V.trans z.symm⟩)))
   have fin:∀r,cx H' r d->R (.ok (.ret r)) (uS s h' tk):=λr dv=>K r h' tk (λb o hb e=>kp b o (by simpa using hb) e) (L.mono j λU e=>e) (dv.mono j);rcases O with rfl|⟨rfl,rfl⟩;·cases f'<;>first|exact N.elim|exact fin _ N
   ·cases f'<;>first|exact N.elim|exact fin _ .none
end
noncomputable def D.isI(d:D):Option (Int×Bool):=match d with|.int i=>some (i,false)|.sym i=>some (i,true)|_=>Option.none
noncomputable def ku(b:Bool)(i:Int):D:=match b with|true=>.sym i|false=>.int i
theorem D.isI_eq{d:D}(e:d.isI=some (i,b)):d=.int i\/d=.sym i:=by cases d<;>first|exact ca e|exact .inl (congrArg D.int (congrArg Prod.fst (A0 e)))|exact .inr (congrArg D.sym (congrArg Prod.fst (A0 e)))
section
variable{A:Around}
theorem ct(e:d.isI=some (i,b))(h:cx H v d):∃t,v=.int i t:=by rcases D.isI_eq e with rfl|rfl<;>exact h.inv
theorem di:cx H (.int i t) (ku b i):=by
 cases b;·exact .int i t
 ·exact .sym i t
def Eo:List Prop->Prop|[]=>True|p::r=>p/\Eo r
noncomputable def vd(o:Operator)(a b:Int)(s:Bool):Option (Int×List Prop):=match o with
 |.Add=>some (a+b,[])|.Sub=>some (a-b,[])|.Mult=>some (a*b,[IntMulOk a b])|.FloorDiv=>match s with|true=>some (a.fdiv b,[b≠0/\b.natAbs<1073741824])|false=>match b !=0&&Nat.blt b.natAbs 1073741824 with|true=>some (a.fdiv b,[])|false=>none
 |.Mod=>match s with|true=>some (a.fmod b,[b≠0])|false=>match b !=0 with|true=>some (a.fmod b,[])|false=>none
 |.Pow=>some (a^b.toNat,[0<=b/\(Builtin.Int.intBits a:Int)*b<=2^27])|.LShift=>some (a*2^b.toNat,[0<=b/\(Builtin.Int.intBits a:Int)+b<=2^27])|.RShift=>some (a.fdiv (2^b.toNat),[0<=b])|.BitAnd=>some (Builtin.bitAnd a b,[])|.BitOr=>some (Builtin.bitOr a b,[])|_=>none
theorem CV(i:x.isI=some (a,l))(j:y.isI=some (b,d))(h:vd o a b d=some p)(c:Eo p.2):et A (binaryOp o) x y (ku sc p.1):=by intro s k u v Q E lo f g K;obtain⟨t,rfl⟩:=ct i f;obtain⟨m,rfl⟩:=ct j g;have fin:∀e,Q (.int p.1 s.toks) {s with toks:=e}:=λe=>K (.int p.1 s.toks) s.heap e (λU U=>id) di;clear K f g lo i j;cases o with
 |Add=>obtain rfl:=A0 h;exact P.add_int (fin _)|Sub=>obtain rfl:=A0 h;exact P.sub_int (fin _)|Mult=>obtain rfl:=A0 h;exact P.mul_int (fin _) c.1|FloorDiv=>cases d with
  |false=>cases q:(b !=0&&Nat.blt b.natAbs 1073741824)with|false=>unfold vd at h;dsimp only at h;rw[q]at h;exact ca h|true=>unfold vd at h;dsimp only at h;rw[q]at h;obtain rfl:=A0 h;have q:=Bool.and_eq_true_iff.mp q;exact floordiv_int (bne_iff_ne.mp q.1) (fin _) (.inl (PyProof.noPylong_small (Nat.le_of_ble_eq_true q.2)))
  |true=>obtain rfl:=A0 h;exact floordiv_int c.1.1 (fin _) (.inl (PyProof.noPylong_small c.1.2))
 |Mod=>cases d with
  |false=>cases q:(b !=0)with|false=>unfold vd at h;dsimp only at h;rw[q]at h;exact ca h|true=>unfold vd at h;dsimp only at h;rw[q]at h;obtain rfl:=A0 h;exact mod_int' (bne_iff_ne.mp q) (fin _)
  |true=>obtain rfl:=A0 h;exact mod_int' c.1 (fin _)
 |Pow=>obtain rfl:=A0 h;exact pow_int c.1.1 c.1.2 (fin _)|LShift=>obtain rfl:=A0 h;exact lshift_int c.1.1 c.1.2 (fin _)|RShift=>obtain rfl:=A0 h;exact rshift_int c.1 (fin _)|BitAnd=>obtain rfl:=A0 h;exact and_int (fin _)|BitOr=>obtain rfl:=A0 h;exact or_int (fin _)|_=>exact ca h
theorem Dj(e:x.isI=some (a,g))(f:y.isI=some (b,s))(h:vd o a b s=some (c,cl))(d:Eo cl):et A (binaryOp o) x y (ku sc c):=CV (p:=(c,cl)) e f h d
noncomputable def Kt(o:CmpOp)(a b:Int):Option Bool:=match o with|.Eq=>some (a==b)|.NotEq=>some (a !=b)|.Lt=>some (decide (a<b))|.LtE=>some (decide (a<=b))|.Gt=>some (decide (a>b))|.GtE=>some (decide (a>=b))|_=>none
theorem Ck(f:x.isI=some (a,j))(g:y.isI=some (b,k))(h:Kt o a b=some c):et A (compareOp o) x y (.bool c):=by intro s i u v Q E lo d e K;obtain⟨t,rfl⟩:=ct f d;obtain⟨l,rfl⟩:=ct g e;have fin:Q (.bool c) s:=K (.bool c) s.heap s.toks (λU U=>id) (.bool c);clear K d e lo f g;cases o with|Eq=>obtain rfl:=A0 h;exact P.eq_int fin|NotEq=>obtain rfl:=A0 h;exact P.ne_int fin|Lt=>obtain rfl:=A0 h;exact P.lt_int fin|LtE=>obtain rfl:=A0 h;exact P.le_int fin|Gt=>obtain rfl:=A0 h;exact P.gt_int fin|GtE=>obtain rfl:=A0 h;exact P.ge_int fin|_=>exact ca h
noncomputable def CC(o:CmpOp)(a b:PySem.Str):Option Bool:=match o with|.Eq=>some (a.cps.toList==b.cps.toList)|.NotEq=>some (a.cps.toList !=b.cps.toList)|_=>none
theorem rH(h:CC o a b=some c):et A (compareOp o) (.str a) (.str b) (.bool c):=by intro s f u v Q E lo d e K;obtain⟨U,rfl⟩:=d.inv;obtain⟨_,rfl⟩:=e.inv;have fin:Q (.bool c) s:=K (.bool c) s.heap s.toks (λU U=>id) (.bool c);clear K d e lo;cases o with|Eq=>obtain rfl:=A0 h;exact P.eq_str fin|NotEq=>obtain rfl:=A0 h;exact P.ne_str fin|_=>exact ca h
theorem wg(h:(match o with|.Eq=>some (a==b)|.NotEq=>some (a !=b)|_=>none)=some c):et A (compareOp o) (.bool a) (.bool b) (.bool c):=by intro s f u v Q E lo d e K;obtain rfl:=d.inv;obtain rfl:=e.inv;have fin:Q (.bool c) s:=K (.bool c) s.heap s.toks (λU U=>id) (.bool c);clear K d e lo;cases o with|Eq=>obtain rfl:=A0 h;exact eq_bool fin|NotEq=>obtain rfl:=A0 h;exact ne_bool fin|_=>exact ca h
noncomputable def D.noneness(d:D):Option Bool:=match d with|.none=>some true|.atom _=>Option.none|.any=>Option.none|_=>some false
theorem vK(h:d.noneness=some b)(a:cx H u d):(u==Value.none)=b:=by cases d with|none=>obtain rfl:=a.inv;exact A0 h|atom=>exact ca h|any=>exact ca h|bool=>obtain rfl:=a.inv;exact A0 h|int=>obtain⟨U,rfl⟩:=a.inv;exact A0 h|sym=>obtain⟨U,rfl⟩:=a.inv;exact A0 h|str=>obtain⟨U,rfl⟩:=a.inv;exact A0 h|bytes=>obtain⟨U,rfl⟩:=a.inv;exact A0 h|tuple=>obtain⟨U,U,U,rfl,U⟩:=a.inv;exact A0 h|list=>obtain⟨U,U,U,rfl,U⟩:=a.inv;exact A0 h|slist=>obtain⟨U,U,U,rfl,U⟩:=a.inv;exact A0 h|dict=>obtain⟨U,U,U,rfl,U⟩:=a.inv;exact A0 h|dictT=>obtain⟨U,U,U,rfl,U⟩:=a.inv;exact A0 h|inst=>obtain⟨U,U,U,U,rfl,U⟩:=a.inv;exact A0 h|recd=>obtain⟨U,U,rfl,U⟩:=a.inv;exact A0 h
theorem Kf(h:d.noneness=some b):et A (compareOp .Is) d .none (.bool b):=by intro s e u v Q E lo a c K;obtain rfl:=c.inv;refine is_none_gen ?_;rw[vK h a];exact K (.bool b) s.heap s.toks (λU U=>id) (.bool b)
theorem y8(h:d.noneness=some b):et A (compareOp .IsNot) d .none (.bool (!b)):=by intro s e u v Q E lo a c K;obtain rfl:=c.inv;refine isnot_none_gen ?_;rw[vK h a];exact K (.bool (!b)) s.heap s.toks (λU U=>id) (.bool _)
end
section
variable{A:Around}{env:Env}{g:Gr}{σ σ' σ₁ σ₂:Sig}
def KN(A:Around)(d:D)(b:Bool):Prop:=∀(s:Shared)(H:Addr->Obj->Prop)(v:Value)(Q:Bool->Shared->Prop)(E:Value->Shared->Prop),(∀a o,H a o->s.heap.get? a=some o)->cx H v d->(∀t,Q b {s with toks:=t})->wpAny (model P0 w) A (truthy v) Q E s
noncomputable def Bi(d:D):Option Bool:=match d with
 |.none=>some false|.bool b=>some b|.int i=>some (i !=0)|.str x=>match Nat.blt x.length 4611686018427387904 with|true=>some ((x.length:Int)!=0)|false=>Option.none
 |_=>Option.none
set_option tactic.hygienic true in theorem qO(h:Bi d=some b):KN A d b:=by
 intro s H v Q E _ a K;cases d<;>first|exact ca h|skip
 ·obtain rfl:=A0 h;obtain rfl:=a.inv;exact truthy_none (K s.toks)
 ·obtain rfl:=A0 h;obtain rfl:=a.inv;exact wpAny_truthy_bool (K s.toks)
 ·obtain rfl:=A0 h;obtain⟨_,rfl⟩:=a.inv;exact P.truthy_int (K s.toks)
 ·rename_i x;obtain⟨U,rfl⟩:=a.inv;unfold Bi at h;dsimp only at h;cases q:Nat.blt x.length 4611686018427387904 with|false=>rw[q]at h;exact ca h|true=>rw[q]at h;obtain rfl:=A0 h;exact P.truthy_str (by have:=Nat.le_of_ble_eq_true q;exact Int.not_le.2 (Int.lt_of_lt_of_le (Aa.2 this) (by decide))) (K _)
theorem RL.live(R:RL env g Y σ h H):∀a o,H a o->h.get? a=some o:=by intro a o q;rw[R.isH]at q;exact q.1
noncomputable def qq:Expr->Bool|.UnaryOp .Not _ _|.BoolOp ..|.IfExp ..|.Compare ..=>false|_=>true
theorem H0(c:qq e=true)(h:Ev A env g e σ d σ')(i:KN A d b):Tr A env g e σ b σ':=by
 intro Y s H Q E R K;refine isTrue_plain (h Y s H _ E R λv h' j H' a sub f=>?_) ?_;·exact i _ H' v Q E a.live f λt=>K h' t H' a sub
 ·cases e with
  |UnaryOp o x p=>cases o<;>first|rfl|(exact Bool.noConfusion c)
  |_=>first|rfl|(exact Bool.noConfusion c)
theorem Hz(h:Tr A env g e σ b σ'):Tr A env g (.UnaryOp .Not e p) σ (!b) σ':=by intro Y s H Q E R K;exact wpAny_isTrue_Not (h Y s H _ E R K)
theorem tn(h1:Ev A env g l σ a σ₁)(O:Ev A env g r σ₁ b σ₂)(ho:et A (compareOp d) a b (.bool t))(z:(t=false/\u=false/\σ'=σ₂)\/(t=true/\Ev A env g j σ₂ c σ'/\et A (compareOp f) b c (.bool u)))(hm:lastMarks [d,f] [r,j]=false):Tr A env g (.Compare l [d,f] [r,j] p) σ u σ':=by
 intro Y s H Q E R K;refine isTrue_chain (h1 Y s H _ E R λv1 h' tk H' R' sub d1=>?_) hm;refine test_link (O Y _ H' _ E R' λV O aa H2 R2 h d2=>?_);refine cI λG C=>?_;obtain⟨Ex,e,lo,U⟩:=R2.use;subst e;refine C ?_;refine ho _ Ex v1 V _ E lo (d1.mono h) d2 λr' m L T dr=>?_;obtain rfl:=dr.inv;refine wpAny_truthy_bool ?_;have N:=(U m T).1;have i:=(U m T).2;rcases z with⟨rfl,rfl,rfl⟩|⟨rfl,z,I⟩;·exact K m L _ N (λa o q=>i a o (h a o (sub a o q)))
 ·refine test_last (z Y _ _ _ E N λv3 h4 ab H4 R4 k d3=>?_);refine cI λG C=>?_;obtain⟨x,e4,J,v⟩:=R4.use;subst e4;refine C ?_;refine I _ x V v3 _ E J ((d2.mono i).mono k) d3 λr5 B M n y=>?_;obtain rfl:=y.inv;exact wpAny_truthy_bool (K B M _ (v B n).1 (λa o q=>(v B n).2 a o (k a o (i a o (h a o (sub a o q))))))
def sx(A:Around)(env:Env)(g:Gr)(o:BoolOp)(es:List Expr)(σ:Sig)(b:Bool)(σ':Sig):Prop:=∀(Y:Lay)(s:Shared)(H:Addr->Obj->Prop)(Q:Bool->Shared->Prop)(E:Value->Shared->Prop),RL env g Y σ s.heap H->(∀h' t H',RL env g Y σ' h' H'->Sb H H'->Q b (uS s h' t))->wpAny (model P0 w) A (allTrue o es env) Q E s
theorem xh:sx A env g o [] σ (o==.And) σ:=by
 intro Y s H Q E R K;cases o;·exact wpAny_allTrue_And_nil (K s.heap s.toks H R (λU U=>id))
 ·exact wpAny_allTrue_Or_nil (K s.heap s.toks H R (λU U=>id))
theorem ou(m:Tr A env g e σ b σ₁)(h:(b=(i==.Or)/\c=b/\σ'=σ₁)\/(b=(i==.And)/\sx A env g i es σ₁ c σ')):sx A env g i (e::es) σ c σ':=by
 intro Y s H Q E R K;cases i
 · refine wpAny_allTrue_And_cons (m Y s H _ E R λh' l H' f sub=>?_);rcases h with⟨rfl,rfl,rfl⟩|⟨rfl,h⟩;·exact K h' l H' f sub
   ·exact h Y _ H' _ E f λh t j k d=>K h t j k (λa o q=>d a o (sub a o q))
 · refine wpAny_allTrue_Or_cons (m Y s H _ E R λh' l H' f sub=>?_);rcases h with⟨rfl,rfl,rfl⟩|⟨rfl,h⟩;·exact K h' l H' f sub
   ·exact h Y _ H' _ E f λh t j k d=>K h t j k (λa o q=>d a o (sub a o q))
theorem Hs(h:sx A env g o es σ b σ'):Tr A env g (.BoolOp o es p) σ b σ':=λY s H Q E R K=>wpAny_isTrue_BoolOp (h Y s H Q E R K)
theorem r0(n:Tr A env g t σ b σ₁)(h:Ev A env g (match b with|true=>k|false=>l) σ₁ d σ'):Ev A env g (.IfExp t k l p) σ d σ':=by intro Y s H Q E R K;refine IfExp_ (n Y s H _ E R λh' r H' i sub=>?_);have z:=h Y (uS s h' r) H' Q E i λv h e f j c m=>K v h e f j (λa o q=>c a o (sub a o q)) m;cases b<;>exact z
theorem He(h:Ev A env g e σ d σ')(c:d.isI=some (i,j)):Ev A env g (.UnaryOp .USub e p) σ (ku f (-i)) σ':=by intro Y s H Q E R K;refine wpAny_UnaryOp (h Y s H _ E R λv h' k H' a sub b=>?_);obtain⟨t,rfl⟩:=ct c b;exact P.neg_int (K _ h' _ H' a sub di)
theorem Ey(h:Ev A env g e σ d σ')(f:KN A d b):Ev A env g (.UnaryOp .Not e p) σ (.bool (!b)) σ':=by intro Y s H Q E R K;refine wpAny_UnaryOp (h Y s H _ E R λv h' i H' a sub c=>not_of ?_);exact f _ H' v _ E a.live c λt=>K _ h' t H' a sub (.bool _)
def J1(A:Around)(env:Env)(g:Gr)(p:Pos)(o:BoolOp)(es:List Expr)(σ:Sig)(d:D)(σ':Sig):Prop:=∀(Y:Lay)(s:Shared)(H:Addr->Obj->Prop)(Q:Value->Shared->Prop)(E:Value->Shared->Prop),RL env g Y σ s.heap H->ut env g Y σ' s H d Q->wpAny (model P0 w) A (boolOp p o (evalEach es env)) Q E s
theorem C9(h:Ev A env g e σ d σ'):J1 A env g p o [e] σ d σ':=λY s H Q E R K=>h Y s H Q E R K
set_option backward.match.sparseCases true in theorem sO(x:Ev A env g e σ d σ₁)(y:KN A d b)(h:(b=(c==.Or)/\m=d/\σ'=σ₁)\/(b=(c==.And)/\J1 A env g p c (n::es) σ₁ m σ')):J1 A env g p c (e::n::es) σ m σ':=by
 intro Y s H Q E R K;show wpAny (model P0 w) A (do
  let v<-eval e env
  standAt p let t<-holding [v] (truthy v)match c,t with|.And,false|.Or,true=>pure v|_,_=>boolOp p c (evalEach (n::es) env)) Q E s;refine A9 (x Y s H _ E R λv h' B H' k sub j=>A9 (wpAny_standAt (A9 (wpAny_holding (y _ H' v _ E k.live j λi=>?_)))));rcases h with⟨rfl,rfl,rfl⟩|⟨rfl,h⟩;·cases c<;>exact AC (K v h' i H' k sub j)
 ·have z:=h Y (uS s h' i) H' Q E k λv h l r u f j=>K v h l r u (λa o q=>f a o (sub a o q)) j;cases c<;>exact z
theorem x3(h:J1 A env g p o es σ d σ'):Ev A env g (.BoolOp o es p) σ d σ':=λY s H Q E R K=>h Y s H Q E R K
end
noncomputable def D.scalar:D->Bool|.none|.bool _|.int _|.sym _|.str _|.bytes _|.atom _|.any=>true|_=>false
theorem uC(hs:d.scalar=true)(h:cx H v d):cx H' v d:=by cases d with|none=>obtain rfl:=h.inv;exact .none|bool=>obtain rfl:=h.inv;exact .bool _|atom=>obtain rfl:=h.inv;exact .atom _|any=>exact .any _|int=>obtain⟨t,rfl⟩:=h.inv;exact .int _ _|sym=>obtain⟨t,rfl⟩:=h.inv;exact .sym _ _|str=>obtain⟨t,rfl⟩:=h.inv;exact .str _ _|bytes=>obtain⟨t,rfl⟩:=h.inv;exact .bytes _ _|_=>exact Bool.noConfusion hs
inductive rK where|val(d:D)|own(x:PySem.Str)
noncomputable def rK.isVal:rK->Bool|.val _=>true|.own _=>false
def m7(env:Env)(l:Lay)(H:Addr->Obj->Prop)(v:Value):rK->Prop|.val d=>cx H v d|.own x=>cu env l.m l.cm x=some v
noncomputable def IV:Option Slot->Option D|some (.o k _)=>some (D.ofOwn k)|_=>none
theorem rq(h:IV o=some d):∃k p,o=some (.o k p)/\d=D.ofOwn k:=by
 rcases o with U|U|⟨k,p⟩;·exact ca h
 ·exact ca h
 ·exact⟨k,p,rfl,(A0 h).symm⟩
noncomputable def eZ(σ:Sig):rK->Option D|.val d=>some d|.own x=>IV (bq σ x)
theorem m7.mono(hs:Sb H H')(h:m7 env l H v r):m7 env l H' v r:=by cases r with|val d=>exact cx.mono hs h|own x=>exact h
abbrev Jn(env:Env)(g:Gr)(l:Lay)(σ':Sig)(s:Shared)(H:Addr->Obj->Prop)(r:rK)(Q:Value->Shared->Prop):Prop:=∀v h' t H',RL env g l σ' h' H'->Sb H H'->m7 env l H' v r->Q v (uS s h' t)
def tP(A:Around)(env:Env)(g:Gr)(e:Expr)(σ:Sig)(r:rK)(σ':Sig):Prop:=∀(l:Lay)(s:Shared)(H:Addr->Obj->Prop)(Q:Value->Shared->Prop)(E:Value->Shared->Prop),RL env g l σ s.heap H->Jn env g l σ' s H r Q->wpAny (model P0 w) A (eval e env) Q E s
def MB(A:Around)(t:List Value->Sem Value)(ds:List D)(d:D):Prop:=∀(s:Shared)(a:Addr->Prop)(vs:List Value)(Q:Value->Shared->Prop)(E:Value->Shared->Prop),(∀x,a x->∃o,s.heap.get? x=some o)->bM (Fz s.heap a) vs ds->(∀r h' b,Hk s.heap h'->cx (Fz h' a) r d->Q r (uS s h' b))->wpAny (model P0 w) A (t vs) Q E s
noncomputable def t2(t:Value->Value->Sem Value):List Value->Sem Value|[u,v]=>t u v|_=>pure .none
inductive ro(env:Env)(l:Lay)(H:Addr->Obj->Prop):List Value->List rK->Prop|nil:ro env l H [] []|cons{v:Value}{vs:List Value}{r:rK}{rs:List rK}:m7 env l H v r->ro env l H vs rs->ro env l H (v::vs) (r::rs)
inductive vv(σ:Sig):List rK->List D->Prop|nil:vv σ [] []|cons{r:rK}{rs:List rK}{d:D}{ds:List D}:eZ σ r=some d->vv σ rs ds->vv σ (r::rs) (d::ds)
section
variable{A:Around}{env:Env}{g:Gr}{σ σ' σ₁ σ₂:Sig}{l:Lay}{H:Addr->Obj->Prop}{s:Shared}
theorem et.n(h:et A t a b d):MB A (t2 t) [a,b] d:=by intro s e vs Q E lo c K;obtain⟨U,U,rfl,f,c⟩:=c.inv;obtain⟨U,U,rfl,d2,c⟩:=c.inv;obtain rfl:=c.inv;exact h s e _ _ Q E lo f d2 K
theorem vO(h:Ev A env g e σ d σ'):tP A env g e σ (.val d) σ':=h
theorem dT(O:cj env)(b:bq σ x=some (.o k pp))(h:(x==("__debug__":PySem.Str))=false):tP A env g (.Name x p) σ (.own x) σ:=by
 intro l s H Q E R K;have a:=(bD.own R x k pp b).ok;have e:∃v,cu env l.m l.cm x=some v:=by cases k with|list ds=>exact⟨_,a.1⟩|dict ds=>exact⟨_,a.1⟩|inst C fs=>obtain⟨z,q,U⟩:=a;exact⟨_,q⟩
 obtain⟨v,e⟩:=e;exact ri O R e h (K v s.heap s.toks H R (λU U=>id) e)
theorem ej.den(j:ej h (Fz h m) (some v) a k)(hs:∀b,E b->m b)(f:¬E a):cx (Fz h E) v (D.ofOwn k):=by have sub:∀b o,Fz h m b o->Fz h E b o:=λb o q=>⟨q.1,λz=>q.2 (hs b z)⟩;cases k with|list ds=>obtain⟨e,vs,n,c,d⟩:=j;obtain rfl:=A0 e;exact .list ⟨c,f⟩ (d.mono sub)|dict ds=>obtain⟨e,vs,n,c,d,k⟩:=j;obtain rfl:=A0 e;exact .dict ⟨c,f⟩ (d.mono sub) k|inst C fs=>obtain⟨y,e,i,es,n,c,d⟩:=j;obtain rfl:=A0 e;exact .inst (sub _ _ i) ⟨c,f⟩ (d.mono sub)
set_option tactic.hygienic true in theorem RL.op(R:RL env g l σ s.heap H)(M:ro env l H vs G)(m:vv σ G ds)(n:MB A t ds d)(hs:d.scalar=true\/G.all rK.isVal=true)(K:ut env g l σ s H d Q):wpAny (model P0 w) A (t vs) Q E s:=by
 obtain⟨J,e,lo,u⟩:=RL.use R;by_cases h:G.all rK.isVal=true
 · have y:bM H vs ds:=by clear K n u;induction M generalizing ds with|nil=>cases m;exact .nil|cons j _ C=>cases m with|cons i d2=>rw[List.all_cons,A8]at h;refine .cons ?_ (C d2 (.inr h.2) h.2);rename_i r _ _ _ _;cases r with|val x=>obtain rfl:=A0 i;exact j|own x=>cases h.1
   subst e;refine n s J vs Q E lo y λr h' I f v=>?_;exact K r h' I _ (u h' f).1 (u h' f).2 v
 · have sc:d.scalar=true:=hs.elim id λq=>(h q).elim;let c:Addr->Prop:=λa=>J a/\∀x k p,bq σ x=some (.o k p)->l.ad x≠a;have y:bM (Fz s.heap c) vs ds:=by clear K n u hs h;induction M generalizing ds with|nil=>cases m;exact .nil|cons j _ C=>cases m with|cons i d2=>refine .cons ?_ (C d2);rename_i O _ r _ _ _ _;cases r with|val x=>obtain rfl:=A0 i;subst e;exact cx.mono (λa o q=>⟨q.1,λz=>q.2 z.1⟩) j|own x=>obtain⟨k,p,L,rfl⟩:=rq i;have N:=(bD.own R x k p L).ok;have B:cu env l.m l.cm x=some O:=j;rw[B,e]at N;exact N.den (λb q=>q.1) λz=>z.2 x k p L rfl
   refine n s c vs Q E (λx q=>lo x q.1) y λr h' I f v=>?_;subst e;exact K r h' I _ (u h' f).1 (u h' f).2 (uC sc v)
theorem v5(J:tP A env g G σ j σ₁)(h:tP A env g I σ₁ k σ')(M:eZ σ' j=some a)(hb:eZ σ' k=some b)(N:et A (binaryOp i) a b d)(hs:d.scalar=true\/(j.isVal&&k.isVal)=true):Ev A env g (.BinOp G i I p) σ d σ':=by intro l s H Q E R K;refine wpAny_BinOp (J l s H _ E R λu h' U H' n sub B=>?_);refine h l _ H' _ E n λv h O T x c C=>?_;exact RL.op (t:=t2 (binaryOp i)) x (.cons (B.mono c) (.cons C .nil)) (.cons M (.cons hb .nil)) N.n (hs.imp id λq=>by simpa using q) λr L f m y e z=>K r L f m y (λa o q=>e a o (c a o (sub a o q))) z
theorem vF(J:tP A env g I σ k σ₁)(j:tP A env g i σ₁ m σ')(M:eZ σ' k=some a)(hb:eZ σ' m=some b)(O:et A (compareOp f) a b d)(hs:d.scalar=true\/(k.isVal&&m.isVal)=true)(N:behindInMarks f i=false):Ev A env g (.Compare I [f] [i] p) σ d σ':=by intro l s H Q E R K;refine wpAny_Compare1 (J l s H _ E R λu h' V H' x sub C=>?_) N;refine j l _ H' _ E x λv j T U y c G=>?_;exact RL.op (t:=t2 (compareOp f)) y (.cons (C.mono c) (.cons G .nil)) (.cons M (.cons hb .nil)) O.n (hs.imp id λq=>by simpa using q) λr L h n z e B=>K r L h n z (λa o q=>e a o (c a o (sub a o q))) B
theorem vJ(G:tP A env g C σ N σ₁)(j:tP A env g i σ₁ O σ')(J:eZ σ' N=some a)(hb:eZ σ' O=some b)(M:et A (compareOp f) a b (.bool c))(L:behindInMarks f i=false):Tr A env g (.Compare C [f] [i] p) σ c σ':=by intro l s H Q E R K;refine wpAny_isTrue_Compare1 (G l s H _ E R λu h' V H' m sub z=>?_) L;refine j l _ H' _ E m λv j T U n d B=>?_;refine RL.op (t:=t2 (compareOp f)) n (.cons (z.mono d) (.cons B .nil)) (.cons J (.cons hb .nil)) M.n (.inl rfl) λr I h k x e y=>?_;obtain rfl:=y.inv;exact wpAny_truthy_bool (K I h k x (λa o q=>e a o (d a o (sub a o q))))
theorem RL.pushed(R:RL env g l σ s.heap H)(b:o.isFreed=false)(h:∀H',Sb H H'->H' s.heap.objs.size o->cx H' (.ref s.heap.objs.size) d)(K:ut env g l σ s H d Q):Q (.ref s.heap.objs.size) {s with heap:=s.heap.push o}:=by have q:=bD.grow (h':=s.heap.push o) R (λa c e=>A2 _ e);refine K _ _ s.toks _ q.1 q.2 (h _ q.2 ⟨AH _ b,λz=>AU _ (bD.exLow R z)⟩)
theorem Bo(h:il A env g es σ ds σ')(j:Nat.ble ds.length sizeLine=true):Ev A env g (.Tuple es k p) σ (.tuple ds) σ':=by intro l s H Q E R K;refine Tuple_ (h.run p l s H _ E R λvs h' m H' e sub d=>?_);refine wpAny_newTuple ?_ (by rw[d.length];exact Nat.le_of_ble_eq_true j);refine RL.pushed (s:=(uS s h' m)) e rfl (λc b q=>.tuple q (d.mono b)) λv i t c f b d2=>K v i t c f (λa o q=>b a o (sub a o q)) d2
end
section
variable{A:Around}
set_option tactic.hygienic true in theorem ng(slice:Expr)(o i:Value):∃ops,subscripted slice false o i=operate ops (getItem o i):=by cases slice<;>first|exact⟨_,rfl⟩|(rename_i a b c p;cases c<;>exact⟨_,rfl⟩)
theorem gG{value slice:Expr}{o i:Value}{T id:String}{s:Shared}{Q:Value->Shared->Prop}{E:Value->Shared->Prop}(c:s.TypeIs o T)(d:typeLookup (.type T) "__getitem__"=pure (some (.builtin id)))(h:wpAny (model P0 w) A (getItem o i) Q E s):wpAny (model P0 w) A (subscriptTail value slice o i) Q E s:=by
 have fin:wpAny (model P0 w) A (subscripted slice false o i) (λr a=>wpAny (model P0 w) A (letTemporaryGo value o r>>=λU=>pure r) Q E a) E s:=by have k:∀ops,wpAny (model P0 w) A (operate ops (getItem o i)) (λr a=>wpAny (model P0 w) A (letTemporaryGo value o r>>=λU=>pure r) Q E a) E s:=λops=>wpAny_operating (wpAny_mono h (λr a b=>A9 (wpAny_letTemporaryGo (AC b))) λU U x=>x);obtain⟨ops,e⟩:=ng slice o i;rw[e];exact k ops
 unfold subscriptTail;refine A9 ?_;rw[getitemInPython_of_ne c.not_modules];refine A9 (wpAny_specialOf c d ?_);first|exact AC (A9 fin)|exact A9 (AC (A9 fin))|exact A9 fin
noncomputable def D.items:D->Option (List D)|.tuple ds=>some ds|.list ds=>some ds|.slist ds=>some ds|_=>Option.none
theorem ge(e:d.items=some ds)(h:cx H v d):∃a vs n,v=.ref a/\bM H vs ds/\(H a (bA vs n)\/H a (dQ vs n)):=by
 cases d<;>first|exact ca e|skip
 all_goals obtain rfl:=A0 e;obtain⟨U,U,U,rfl,g,dl⟩:=h.inv;first|exact⟨_,_,_,rfl,dl,.inr g⟩|exact⟨_,_,_,rfl,dl,.inl g⟩
def gX(i:Int):Prop:=-(2^62)<=i/\i<2^62
theorem my(z:a.items=some ds)(hb:b.isI=some (i,J))(C:gX i)(G:seqIndex? i ds.length=some j)(B:ds[j]?=some d):et A (subscriptTail value slice) a b d:=by
 intro s I u v Q E lo p r K;obtain⟨t,rfl⟩:=ct hb r;obtain⟨l,vs,n,rfl,f,k⟩:=ge z p;obtain⟨x,H,y⟩:=f.get B;have fin:Q x s:=K x s.heap s.toks (λU U=>id) y;obtain⟨m,g⟩:=C;have h:vs.toArray[j]?=some x:=by simpa using H
 have hj':seqIndex? i vs.toArray.size=some j:=by rw[AA,f.length];exact G
 rcases k with k|k
 · have c:s.heap.IsList l vs.toArray:=⟨_,k.1,rfl,n,rfl⟩;refine gG c.typeIs slot_list_getitem.lookup ?_;unfold seqIndex? at hj';by_cases o:i<0
   · rw[if_pos o]at hj';dsimp only at hj';split at hj';·rename_i q;simp only[A8,decide_eq_true_eq]at q;have e:(i+vs.toArray.size).toNat=j:=A0 hj';exact wpAny_getItem_list_neg c o (by omega) (by exact Int.le_trans (by decide) m) (by rw[e];exact h) fin
     ·exact ca hj'
   · rw[if_neg o]at hj';dsimp only at hj';split at hj';·have e:i.toNat=j:=A0 hj';exact wpAny_getItem_list c (by exact Int.not_lt.1 o) (by exact Int.lt_trans g (by decide)) (by rw[e];exact h) fin
     ·exact ca hj'
 ·have c:IsTup s.heap l vs.toArray:=⟨_,k.1,rfl,n,rfl⟩;exact gG c.typeIs slot_tuple_getitem.lookup (PyProof.Rows.getItem_tuple c (by exact Int.le_trans (by decide) m) (by exact Int.lt_trans g (by decide)) hj' h fin)
theorem Dw(j:c.isI=some (i,l))(g:0<=i)(h:i<b.size)(d:b.size<=16777216):et A (subscriptTail value slice) (.bytes b) c (ku sc ((b.toList.getD i.toNat 0).toNat:Int)):=by intro s k u v Q E lo e f K;obtain⟨t,rfl⟩:=ct j f;obtain⟨m,rfl⟩:=e.inv;refine gG (typeIs_bytes s _ _) FB.slot_bytes_getitem.lookup ?_;obtain⟨a,rfl⟩:∃a:List UInt8,b=a.toArray:=⟨b.toList,by simp⟩;simp only[AA]at h d;refine getItem_bytes (by exact wk d rfl) g h ?_;exact K _ s.heap _ (λU U=>id) di
noncomputable def gF:D->Option (Option Int)|.none=>some Option.none|.int i=>some (some i)|.sym i=>some (some i)|_=>Option.none
theorem gv(e:gF d=some p)(h:cx H v d):IsPart v p:=by
 cases d<;>first|exact ca e|skip
 ·obtain rfl:=A0 e;obtain rfl:=h.inv;exact .none
 ·obtain rfl:=A0 e;obtain⟨_,rfl⟩:=h.inv;exact .int _ _
 ·obtain rfl:=A0 e;obtain⟨_,rfl⟩:=h.inv;exact .int _ _
theorem nE(h:IsPart v p):∃q:Option (Int×Tok),v=partValue q/\q.map (·.1)=p:=by cases h with|none=>exact⟨none,rfl,rfl⟩|int i t=>exact⟨some (i,t),rfl,rfl⟩
noncomputable def cH(xs:List a)(lo h st:Option Int):List a:=(sliceRange (sliceBounds lo h st xs.length).1 (sliceBounds lo h st xs.length).2.1 (sliceBounds lo h st xs.length).2.2).filterMap (xs[·]?)
theorem bM.pick(h:bM H vs ds)(is:List Nat):bM H (is.filterMap (vs[·]?)) (is.filterMap (ds[·]?)):=by induction is with|nil=>exact .nil|cons i is a=>rw[List.filterMap_cons,List.filterMap_cons];cases e:ds[i]? with
 |none=>
  have:vs[i]?=none:=by rw[List.getElem?_eq_none_iff]at e⊢;rw[h.length];exact e
  rw[this];exact a|some d=>obtain⟨v,c,b⟩:=h.get e;rw[c];exact .cons b a
theorem kH(h:cx H v (.recd "slice" [a,b,c])):∃x d e vs,v=.ref x/\H x {cls:=.type "slice",data:=.fields #[d,e,vs]}/\cx H d a/\cx H e b/\cx H vs c:=by obtain⟨U,U,rfl,i,dl⟩:=h.inv;obtain⟨U,U,rfl,f,dl⟩:=dl.inv;obtain⟨U,U,rfl,d2,dl⟩:=dl.inv;obtain⟨U,U,rfl,g,dl⟩:=dl.inv;obtain rfl:=dl.inv;exact⟨_,_,_,_,rfl,i,f,d2,g⟩
theorem pM{value slice:Expr}{x a b c:D}{ds:List D}{lo h st:Option Int}(L:x=.list ds\/x=.slist ds)(G:gF a=some lo)(hb:gF b=some h)(H:gF c=some st)(C:st≠some 0)(M:ds.length<=16777216):et A (subscriptTail value slice) x (.recd "slice" [a,b,c]) (.slist (cH ds lo h st)):=by
 intro s f u v Q E i r t K;obtain⟨y,T,U,O,rfl,J,m,d2,p⟩:=kH t;obtain⟨l,vs,n,rfl,d,I⟩:∃l vs n,u=.ref l/\bM (Fz s.heap f) vs ds/\Fz s.heap f l (bA vs n):=by rcases L with rfl|rfl<;>(obtain⟨_,_,_,rfl,g,dl⟩:=r.inv;exact⟨_,_,_,rfl,dl,g⟩)
 have j:s.heap.IsList l vs.toArray:=⟨_,I.1,rfl,n,rfl⟩;refine gG j.typeIs slot_list_getitem.lookup ?_;refine wpAny_getItem_list_slice j ⟨_,J.1,rfl,rfl⟩ (gv G m) (gv hb d2) (gv H p) C ?_ (by rw[AA,d.length,sizeLine_eq];exact M);refine K _ _ s.toks (λb o e=>A2 _ e) ?_;have k:Sb (Fz s.heap f) (Fz (s.heap.push {cls:=.type "list",data:=.seq (slicePick vs.toArray lo h st)}) f):=λa o q=>⟨A2 _ q.1,q.2⟩;have e:slicePick vs.toArray lo h st=(cH vs lo h st).toArray:=by unfold slicePick cH;simp
 have B:bM (Fz s.heap f) (cH vs lo h st) (cH ds lo h st):=by unfold cH;rw[d.length];exact d.pick _
 have q:=AH s.heap (o:={cls:=.type "list",data:=.seq (slicePick vs.toArray lo h st)}) rfl;have N:¬f s.heap.objs.size:=λz=>by obtain⟨o,q⟩:=i _ z;exact AU _ (AG q)
 rw[e]at q k⊢;exact Dn.slist ⟨q,N⟩ (B.mono k)
noncomputable def tJ(x:PySem.Str)(lo h:Option Int):PySem.Str:=match(Builtin.Str.strSliceIndices lo h 1 x.length).length==x.length with|true=>x|false=>⟨((Builtin.Str.strSliceIndices lo h 1 x.length).filterMap (x.cps[·]?)).toArray⟩
theorem qW{value slice:Expr}{x:PySem.Str}{a b:D}{lo h:Option Int}(j:gF a=some lo)(hb:gF b=some h)(hz:Nat.ble (tJ x lo h).length 16777216=true):et A (subscriptTail value slice) (.str x) (.recd "slice" [a,b,.none]) (.str (tJ x lo h)):=by intro s r u v Q E m e f K;obtain⟨y,z,B,p,rfl,k,d,d2,c⟩:=kH f;obtain rfl:=c.inv;obtain⟨n,rfl,g⟩:=nE (gv j d);obtain⟨o,rfl,i⟩:=nE (gv hb d2);obtain⟨t,rfl⟩:=e.inv;refine gG (typeIs_str s x t) PySem.F.slot_str_getitem.lookup ?_;refine wpAny_getItem_str_slice (l:=n) (u:=o) (st:=none) ⟨_,k.1,rfl,rfl⟩ rfl ?_;unfold tJ at hz K;unfold sliceMade slicePicked;rw[g,i];simp only[Option.map_none,Option.getD_none,Af,Bool.true_and];cases q:(Builtin.Str.strSliceIndices lo h 1 x.length).length==x.length with|true=>simp only[q]at K;rw[if_pos rfl];exact K _ s.heap s.toks (λU U=>id) (.str _ _)|false=>simp only[q]at K hz;rw[if_neg (by simp)];exact⟨by rw[sizeLine_eq];exact Nat.le_of_ble_eq_true hz,K _ s.heap _ (λU U=>id) (.str _ _)⟩
theorem te(b:Array UInt8)(t:Tok)(a:Addr){l u:Value}{lo d:Int}{s:Shared}{Q:Value->Shared->Prop}{E:Value->Shared->Prop}(q:IsPart l (some lo))(v:IsPart u (some d))(hs:s.heap.IsSliceOf a l u .none)(H:(KBy.picked b (some lo) (some d)).size<=16777216)(G:KBy.whole b (some lo) (some d)=true->KBy.picked b (some lo) (some d)=b)(h:∀J k,Q (.bytes (KBy.picked b (some lo) (some d)) J) {s with toks:=k}):wpAny (model P0 w) A (getItem (.bytes b t) (.ref a)) Q E s:=by cases f:KBy.whole b (some lo) (some d)with|false=>exact getItem_meets (typeIs_bytes _ _ _) (by decide) FB.slot_bytes_getitem FB.entry_bytes_getitem (FB.args_bytes_getitem_2 _ _) (KBy.meets_slice b t a q v f) ⟨hs,by rw[sizeLine_eq];exact H,h _ _⟩|true=>
 have m:Meets (Builtin.«bytes.__getitem__» ⟨[.bytes b t,.ref a],[]⟩) (λU R s=>s.heap.IsSliceOf a l u .none/\R (.ok (.ret (.bytes b t))) s):=by
  refine .of_wp λp w A R s B=>?_;obtain⟨⟨o,i,g,j⟩,h⟩:=B;have n:s.TypeIs (.ref a) "slice":=⟨o,i,g⟩;show wpAny _ _ (Builtin.Bytes.payload (.bytes b t)>>=λr=>_) _ _ s;refine A9 (wpAny_of_eq (a:=b) rfl ?_);show wpAny _ _ (Builtin.Bytes.subscript? (.ref a)>>=λr=>_) _ _ s;refine A9 ?_;unfold Builtin.Bytes.subscript?;refine A9 (wpAny_specialOf n slice_no_index (AC ?_));refine A9 (wpAny_typeOf n ?_);show wpAny _ _ (Builtin.Bytes.sliceParts (.ref a)>>=λr=>_) _ _ s;refine A9 ?_;unfold Builtin.Bytes.sliceParts;have go:wpAny (model p w) A.in1 (sliceIndices (rawPart (some lo)) (rawPart (some d)) (rawPart none) b.size) (λr z=>r=sliceBounds (some lo) (some d) none b.size/\z=s) (λU U=>False) s:=wpAny_of_eq (sliceIndices_raw (some lo) (some d) none b.size (λe=>nomatch e)) ⟨rfl,rfl⟩;have y:∀{c:Prop}[Decidable c]{X Y:Prop},c->X->if c then X else Y:=λg h=>by rw[if_pos g];exact h
  have I:∀{c:Prop}[Decidable c]{X Y:Prop},¬c->Y->if c then X else Y:=λg h=>by rw[if_neg g];exact h
  refine A9 (wpAny_field (x:=.none) i j rfl ?_);refine A9 (wpAny_of_eq (a:=Value.none) rfl ?_);refine wpAny_ite (I (show¬((Value.none==rawInt 0)=true)from Bool.false_ne_true) ?_);refine A9 (wpAny_field (x:=l) i j rfl ?_);cases q;cases v;kby_int;refine A9 (wpAny_field (x:=.int _ _) i j rfl ?_);kby_int;refine AC ?_;refine A9 (wpAny_mono go (λr z C=>?_) λU U e=>e.elim);obtain⟨rfl,rfl⟩:=C;refine wpAny_ite (y f ?_);refine A9 (wpAny_typeOf (typeIs_bytes _ b t) ?_);exact A9 (wpAny_rule (AC ⟨_,rfl,h⟩))
 refine getItem_meets (typeIs_bytes _ _ _) (by decide) FB.slot_bytes_getitem FB.entry_bytes_getitem (FB.args_bytes_getitem_2 _ _) m ⟨hs,?_⟩;have:=h t s.toks;rw[G f]at this;exact this
end
noncomputable def rJ:List (PySem.Str×D)->PySem.Str->D->List (PySem.Str×D)|[],x,d=>[(x,d)]|(y,e)::r,x,d=>match x==y with|true=>(y,d)::r|false=>(y,e)::rJ r x d
theorem k9(x y:PySem.Str)(t:Tok):(Value.str x t).isStr y=(y==x):=by show(x==y)=(y==x);exact Bool.eq_iff_iff.mpr ⟨λh=>by simpa using(Ac.mp h).symm,λh=>by simpa using(Ac.mp h).symm⟩
theorem cQ.noRef(h:cQ H es fs):es.any (·.refKey)=false:=by induction fs generalizing es with|nil=>obtain rfl:=h.inv;rfl|cons p fs i=>obtain⟨U,U,U,r,rfl,U,l⟩:=h.inv;rw[List.any_cons,i l];rfl
theorem cQ.find(a:cQ H es fs)(h:fs.lookup x=some d):∃e,es.find? (·.key.isStr x)=some e/\cx H e.val d:=by induction fs generalizing es with|nil=>exact nomatch h|cons p fs i=>obtain⟨U,U,v,r,rfl,b,l⟩:=a.inv;rw[List.find?_cons];dsimp only;rw[k9];rw[AK]at h;cases q:x==p.1 with|true=>rw[q]at h;obtain rfl:=A0 h;exact⟨_,rfl,b⟩|false=>rw[q]at h;exact i l h
theorem cQ.findN(a:cQ H es fs)(h:fs.lookup x=none):es.find? (·.key.isStr x)=none:=by induction fs generalizing es with|nil=>obtain rfl:=a.inv;rfl|cons p fs i=>obtain⟨U,U,v,r,rfl,b,l⟩:=a.inv;rw[List.find?_cons];dsimp only;rw[k9];rw[AK]at h;cases q:x==p.1 with|true=>rw[q]at h;exact ca h.symm|false=>rw[q]at h;exact i l h
theorem cQ.get(h:cQ H es fs)(e:fs.lookup x=some d):∃v,getL x es=some (some v)/\cx H v d:=by obtain⟨b,c,a⟩:=h.find e;exact⟨b.val,by unfold getL;rw[c],a⟩
theorem cQ.got(h:cQ H es fs)(e:fs.lookup x=none):getL x es=some none:=by unfold getL;rw[h.findN e,h.noRef];rfl
theorem cQ.looked(h:cQ H es fs):(getL x es).isSome=true:=by cases e:fs.lookup x with|none=>rw[h.got e];rfl|some d=>obtain⟨v,a,U⟩:=h.get e;rw[a];rfl
theorem cQ.put(a:cx H u d)(h:cQ H es fs):cQ H (putL x f (.str x t) u es) (rJ fs x d):=by induction fs generalizing es with|nil=>obtain rfl:=h.inv;exact .cons a .nil|cons p fs i=>obtain⟨y,e⟩:=p;obtain⟨U,U,U,r,rfl,c,b⟩:=h.inv;unfold putL rJ;rw[k9];cases q:x==y with|true=>exact .cons a b|false=>exact .cons c (i b)
theorem cQ.length(h:cQ H es fs):es.length=fs.length:=by induction fs generalizing es with|nil=>obtain rfl:=h.inv;rfl|cons p fs i=>obtain⟨U,U,U,r,rfl,b,a⟩:=h.inv;exact congrArg (·+1) (i a)
noncomputable def gq(C:Addr)(name:PySem.Str):Bool:=plainGet (cA w.params) C name&&hasDictIn (cA w.params) C&&(match findIn (cA w.params) (.ref C) name with|some a=>noGet (cA w.params) a|none=>false)
noncomputable def D.handed:D->Bool|.atom v=>handedIn v|.any=>false|_=>true
theorem mN(h:cx H v d)(a:d.handed=true):handedIn v=true:=by cases d with|any=>exact Bool.noConfusion a|atom=>obtain rfl:=h.inv;exact a|none|bool=>obtain rfl:=h.inv;rfl|int|sym|str|bytes=>obtain⟨U,rfl⟩:=h.inv;rfl|tuple|list|slist|dict|dictT=>obtain⟨U,U,U,rfl,U⟩:=h.inv;rfl|inst=>obtain⟨U,U,U,U,rfl,U⟩:=h.inv;rfl|recd=>obtain⟨U,U,rfl,U⟩:=h.inv;rfl
noncomputable def sN:Option (Option a)->Bool|some none=>true|_=>false
theorem Kg(h:sN o=true):o=some none:=by rcases o with U|U|v<;>first|rfl|exact Bool.noConfusion h
noncomputable def pW(C:Addr)(name:PySem.Str):Bool:=(findIn (cA w.params) (.ref C) "__setattr__"==some (some (.builtin "object.__setattr__")))&&plainOver (cA w.params) C&&hasDictIn (cA w.params) C&&sN (takerIn (cA w.params) C name)
section
variable{A:Around}{s:Shared}{x C dx:Addr}{es:List DictEntry}{n:Nat}{name:PySem.Str}{E:Value->Shared->Prop}
set_option tactic.hygienic true in theorem vC(f:(cA w.params).In s.heap)(l:s.heap.get? x=some (instObj C dx))(b:s.heap.get? dx=some (dictOf es n))(ha:gq C name=true)(j:getL name es=some (some v))(k:handedIn v=true)(h:∀t,Q v {s with toks:=t}):wpAny (model P0 w) A (getAttr (.ref x) name d) Q E s:=by
 unfold gq at ha;simp only[A8]at ha;obtain⟨⟨g,i⟩,a⟩:=ha;split at a;·rename_i c e;exact get_value f (⟨l,rfl,rfl,b⟩:InstAt s.heap x (instObj C dx) C (some (dictOf es n))) (plainGet_of g).1 (findObj_own i e a j) k (h _)
 ·exact Bool.noConfusion a
set_option tactic.hygienic true in theorem EF(k:(cA w.params).In s.heap)(m:s.heap.get? x=some (instObj C dx))(d:s.heap.get? dx=some (dictOf es n))(q:plainOver (cA w.params) C=true)(u:hasDictIn (cA w.params) C=true)(B:takerIn (cA w.params) C name=some none)(hl:(getL name es).isSome=true)(o:es.length<=900)(h:∀h' H t,h'.get? dx=some (dictOf (putL name (PyData.keyHash w.params name) (.str name t) v es) (putN name es n))->Ai dx s.heap h'->R (.ok (.ret .none)) (uS s h' H)):codeAny (model P0 w) A (.call (.builtin "object.__setattr__") ⟨[.ref x,.str name j,v],[]⟩) R s:=by
 have I:InstAt s.heap x (instObj C dx) C (some (dictOf es n)):=⟨m,rfl,rfl,d⟩;refine osa_open k I q B λb=>?_;obtain⟨cd,y,g⟩:=any_some u;refine A9 (AC (A9 (A9 (wpAny_loadPart m (A9 ((looks_clsIn k y).here ?_))))));rw[g];refine AC (a:=some dx) (A9 (AC (A9 ?_)));unfold nsSet;refine A9 (A9 (wpAny_askSetting (AC (A9 (wpAny_mkText (A9 (wpAny_loadPart d ?_)))))));have c:aRefKeyMayBeTheName name es.toArray=false:=by
   rw[aRefKeyMayBeTheName_at];unfold getL at hl;rw[<-Array.any_toList,<-Array.any_toList];split at hl;·rename_i p l;rw[List.any_eq_true.mpr ⟨p,List.mem_of_find?_eq_some l,List.find?_some l⟩];rfl
   · split at hl;·exact Bool.noConfusion hl
     ·rename_i z;rw[Bool.not_eq_true]at z;rw[z,Bool.and_false]
 dsimp only[dictOf];rw[c];refine wpAny_updatePart d ?_;have f:(s.heap.update dx (Obj.putName name (PyData.keyHash w.params name) (.str name s.toks) v)).get? dx=some (dictOf (putL name (PyData.keyHash w.params name) (.str name s.toks) v es) (putN name es n)):=by rw[<-putName_dict];exact Heap.get?_update_self _ d (by rw[putName_dict];rfl)
 have i:(putL name (PyData.keyHash w.params name) (.str name s.toks) v es).length<=es.length+1:=by clear f c hl d I o h;induction es with|nil=>exact AT _|cons e r G=>
     unfold putL;split;·exact AV _
     ·rw[AJ,AJ];exact AE G
 refine A9 (wpAny_lookBehind f (pastItsLine_dict (by rw[AA,sizeLine_eq];exact wk (A1 i (AE o)) rfl)) ?_);exact AC (h _ _ _ f (Heap.SameBut.update ..))
theorem qU(e:(cA w.params).In s.heap)(f:s.heap.get? x=some (instObj C dx))(c:s.heap.get? dx=some (dictOf es n))(ha:pW C name=true)(l:(getL name es).isSome=true)(m:es.length<=900)(h:∀h' d t,h'.get? dx=some (dictOf (putL name (PyData.keyHash w.params name) (.str name t) v es) (putN name es n))->Ai dx s.heap h'->Q () (uS s h' d)):wpAny (model P0 w) A (setAttr (.ref x) name v) Q E s:=by unfold pW at ha;simp only[A8,Ac]at ha;obtain⟨⟨⟨g,i⟩,j⟩,k⟩:=ha;exact set_plain e (⟨f,rfl,rfl,c⟩:InstAt s.heap x (instObj C dx) C (some (dictOf es n))) g (EF (s:={s with toks:=s.toks+1}) e f c i j (Kg k) l m λh' d t a b=>h h' d t a b)
end
section
variable{A:Around}{env:Env}{g:Gr}{σ σ' σ₁ σ₂:Sig}{l:Lay}{H:Addr->Obj->Prop}{s:Shared}{k:Nat}
theorem RL.kin(C:Cx k A g env.frame)(R:RL env g l σ s.heap H):(cA w.params).In s.heap:=Frag.In.keeps C.good.1 R.fr.keep
theorem RL.instV(R:RL env g l σ s.heap H)(c:m7 env l H v r)(a:eZ σ r=some (.inst C fs)):∃x b es n,v=.ref x/\s.heap.get? x=some (instObj C b)/\s.heap.get? b=some (dictOf es n)/\cQ H es fs:=by cases r with|val d=>obtain rfl:=A0 a;have h:cx H v (.inst C fs):=c;obtain⟨U,U,U,U,e,m,q,d⟩:=h.inv;exact⟨_,_,_,_,e,RL.live R _ _ m,RL.live R _ _ q,d⟩|own x=>obtain⟨k,p,f,a⟩:=rq a;have o:=(bD.own R x k p f).ok;have h:cu env l.m l.cm x=some v:=c;rw[h]at o;cases k with|list ds=>exact nomatch a|dict ds=>exact nomatch a|inst C' j=>obtain⟨rfl,rfl⟩:=D.inst.inj a;obtain⟨y,e,i,es,n,t,d⟩:=o;exact⟨y,_,es,n,A0 e,RL.live R _ _ i,t,d⟩
noncomputable def jX:Expr->Bool|.Call (.Name id _) [] [] _=>id !=("super":PySem.Str)|_=>true
set_option tactic.hygienic true in theorem d8(h:jX o=true)(b:PySem.Str)(env:Env)(a:Sem Value):attributeBase o b env a=a:=by
 cases o<;>first|rfl|skip
 rename_i f c d pos;cases f<;>first|rfl|skip
 rename_i id p;cases c<;>first|rfl|skip
 cases d<;>first|rfl|skip
 refine if_pos ?_;rw[show(id !=("super":PySem.Str))=true from h];rfl
theorem qN(X:Cx k A g env.frame)(h:tP A env g o σ r σ')(m:eZ σ' r=some (.inst C fs))(q:fs.lookup name=some d)(j:gq C name=true)(y:d.handed=true)(hb:jX o=true):Ev A env g (.Attribute o name p) σ d σ':=by intro l s H Q E R K;refine Attribute_any_ (h l s H _ E R λv h' t H' a sub i=>?_) (by show(attributeBase o name env (eval o env)>>=_)=_;rw[d8 hb]);obtain⟨x,G,es,n,rfl,B,b,f⟩:=RL.instV (s:=(uS s h' t)) a i m;obtain⟨u,z,e⟩:=f.get q;exact vC (s:=(uS s h' t)) (RL.kin (s:=(uS s h' t)) X a) B b j z (mN e y) λc=>K u h' c H' a sub e
noncomputable def rf?:Option (Option Value)->Option Addr|some (some (.ref f))=>some f|_=>none
theorem rf?_eq(h:rf? o=some f):o=some (some (.ref f)):=by
 rcases o with U|U|v;·exact ca h
 ·exact ca h
 ·cases v<;>first|exact ca h|exact congrArg (λf=>some (some (Value.ref f))) (A0 h)
noncomputable def jz(C:Addr)(name:PySem.Str):Option Addr:=if plainGet (cA w.params) C name=true then(rf? (findIn (cA w.params) (.ref C) name)).bind λf=>if(isFn (cA w.params) (.ref f)&&keepIn (cA w.params) (.ref f))=true then some f else none else none
theorem pY(h:jz C name=some f):plainGet (cA w.params) C name=true/\findIn (cA w.params) (.ref C) name=some (some (.ref f))/\isFn (cA w.params) (.ref f)=true/\keepIn (cA w.params) (.ref f)=true:=by obtain⟨a,h⟩:=lR h;obtain⟨g,e,h⟩:=ew h;obtain⟨b,h⟩:=lR h;obtain rfl:=A0 h;exact⟨a,rf?_eq e,(A8 _ _).mp b⟩
theorem pP(h:jz C name=some f):keepIn (cA w.params) (.ref f)=true:=(pY h).2.2.2
theorem wi(c:(cA w.params).In s.heap)(p:s.heap.get? x=some (instObj C d))(a:s.heap.get? d=some (dictOf es n))(e:cQ H es fs)(m:fs.lookup name=none)(o:jz C name=some f)(h:Q (.ref f,[.ref x]) s):wpAny (model P0 w) A (getMethod (.ref x) name pl) Q E s:=by obtain⟨b,i,j,U⟩:=pY o;exact method_fn c (⟨p,rfl,rfl,a⟩:InstAt s.heap x (instObj C d) C (some (dictOf es n))) (plainGet_of b).1 (plainGet_of b).2 i (Ac.mp j) (by show(lookIn name (dictOf es n)).map _=_;rw[lookIn_dict,e.got m];rfl) h
theorem RL.callV(X:Cx k A g env.frame)(R:RL env g l σ s.heap H)(a:bM H vs ds)(m:br k f ds d)(K:ut env g l σ s H d (λv n=>c (.ok (.ret v)) n)):codeAny (model P0 w) A (.call (.ref f) ⟨vs,[]⟩) c s:=by refine cI λG j=>?_;obtain⟨E,e,S,u⟩:=RL.useK R;subst e;refine j ?_;refine m A g _ s E vs _ X S a λv h t b i=>?_;exact K v h t _ (u h b).1 (u h b).2 i
theorem RL.callO(X:Cx k A g env.frame)(R:RL env g l σ s.heap H)(j:bq σ x=some (.o o p))(u:cu env l.m l.cm x=some v)(e:bM H vs ds)(I:cq k f o ds d L)(K:ut env g l (bO σ x (.o L p)) s H d (λv N=>B (.ok (.ret v)) N)):codeAny (model P0 w) A (.call (.ref f) ⟨v::vs,[]⟩) B s:=by
 obtain⟨M,E,O,T,Q,C,U⟩:=bD.own R x o p j;have n:∀b,((c5 env σ l.ad (dY l.Y) b/\b≠l.ad x)\/b=l.ad x)↔c5 env σ l.ad (dY l.Y) b:=λb=>⟨λq=>q.elim (λq=>q.1) λq=>q▸.inr (.inr (.inl ⟨x,o,p,j,rfl⟩)),λq=>(Decidable.em (b=l.ad x)).elim .inr λz=>.inl ⟨q,z⟩⟩;have i:∀h:Heap,Fz h (λb=>(c5 env σ l.ad (dY l.Y) b/\b≠l.ad x)\/b=l.ad x)=Fz h (c5 env σ l.ad (dY l.Y)):=λh=>by funext b q;exact propext ⟨λz=>⟨z.1,λy=>z.2 ((n b).mpr y)⟩,λz=>⟨z.1,λy=>z.2 ((n b).mp y)⟩⟩
 refine I A g _ s (λb=>c5 env σ l.ad (dY l.Y) b/\b≠l.ad x) v (l.ad x) vs _ X ⟨R.fr.keep,λa q=>⟨⟨bD.exFs R q,λz=>C (z▸q)⟩,(R.frs a q).2⟩,λb q=>bD.exThere R q.1⟩ (g.nb E) (λq=>q.2 rfl) ?_ ?_ λr G t J c m=>?_;·rw[i,<-R.isH,<-u];exact M
 ·rw[i,<-R.isH];exact e
 ·rw[i]at c m;have q:=bD.mutK R j J (by rw[u];exact c);exact K r G t _ q.1 q.2 m
abbrev Bg(env:Env)(g:Gr)(l:Lay)(σ':Sig)(s:Shared)(H:Addr->Obj->Prop)(k:js)(Q:Value->Shared->Prop):Prop:=∀v h' t H' a o,RL env g {l with Y:=yU l.Y (y1 a o)} σ' h' H'->Sb H H'->ej h' H' (some v) a k->g.get? a=none->¬dY l.Y a->a∉g.fs->Q v (uS s h' t)
def x5(A:Around)(env:Env)(g:Gr)(e:Expr)(σ:Sig)(k:js)(σ':Sig):Prop:=∀(l:Lay)(s:Shared)(H:Addr->Obj->Prop)(Q:Value->Shared->Prop)(E:Value->Shared->Prop),RL env g l σ s.heap H->Bg env g l σ' s H k Q->wpAny (model P0 w) A (eval e env) Q E s
theorem RL.callN(X:Cx k A g env.frame)(R:RL env g l σ s.heap H)(d:bM H vs ds)(u:bP k f ds o)(K:Bg env g l σ s H o (λv G=>m (.ok (.ret v)) G)):codeAny (model P0 w) A (.call (.ref f) ⟨vs,[]⟩) m s:=by
 have r:=R.isH;refine u A g _ s (c5 env σ l.ad (dY l.Y)) vs _ X ⟨R.fr.keep,λa q=>⟨bD.exFs R q,(R.frs a q).2⟩,λb q=>bD.exThere R q⟩ (by rw[<-r];exact d) λv c t a x j n=>?_;obtain⟨p,B,C⟩:=bD.fresh R n;obtain⟨i,h⟩:=j.there;have q:=bD.turnK (Y:=l.Y) (Z:=y0) (Z':=y1 a i) (h':=c) (by rw[pB];exact R) (λa o e U=>x a o e) (λa z=>(ym z).elim) (by rintro b E⟨rfl,rfl⟩;exact⟨h,.inr n⟩);refine K v c t _ a i q.1 q.2 (j.mono (λb E z=>⟨z.1,λy=>?_⟩) λU e=>e) p B C;rcases y with y|y|y|y;·exact z.2 (.inl (.inl y))
 ·exact z.2 (.inl (.inr (.inl y)))
 ·exact z.2 (.inl (.inr (.inr (.inl y))))
 · rcases bX.mp y with y|y;·exact z.2 (.inl (.inr (.inr (.inr y))))
   ·exact z.2 (.inr (dI.mp y))
theorem HI{e:Expr}{k:js}(h:x5 A env g e σ k σ'):Ev A env g e σ (D.ofOwn k) σ':=by intro l s H Q E R K;refine h l s H Q E R λv h' x H' a o p sub m B t r=>?_;obtain⟨u,b,z⟩:=bD.dropY p (jF t) (jF r);have j:=z a o ⟨rfl,rfl⟩;refine K v h' x _ u (λa o q=>b a o (sub a o q)) ?_;have f:=(p.held a o (.inr ⟨rfl,rfl⟩)).1.at r;cases k with|list ds=>obtain⟨e,vs,n,c,d⟩:=m;obtain rfl:=A0 e;rw[f]at c;obtain rfl:=A0 c;exact .list j (d.mono b)|dict ds=>obtain⟨e,vs,n,c,d,k⟩:=m;obtain rfl:=A0 e;rw[f]at c;obtain rfl:=A0 c;exact .dict j (d.mono b) k|inst C fs=>obtain⟨y,e,i,es,n,c,d⟩:=m;obtain rfl:=A0 e;rw[f]at c;obtain rfl:=A0 c;exact .inst (b _ _ i) j (d.mono b)
theorem RL.made(R:RL env g l σ s.heap H)(h:o.isFreed=false)(d:∀H',Sb H H'->ej (s.heap.push o) H' (some (.ref s.heap.objs.size)) s.heap.objs.size kk)(K:Bg env g l σ s H kk Q):Q (.ref s.heap.objs.size) {s with heap:=s.heap.push o}:=by have n:s.heap.get? s.heap.objs.size=none:=Heap.get?_none_of_le (AT _);have q:=bD.turn (Y:=l.Y) (Z:=y0) (Z':=y1 s.heap.objs.size o) (h':=s.heap.push o) (by rw[pB];exact R) (λa o e U=>A2 _ e) (λa z=>(ym z).elim) (by rintro b j⟨rfl,rfl⟩;exact⟨AH _ h,.inr n⟩);obtain⟨c,f,i⟩:=bD.fresh R n;exact K _ _ s.toks _ _ o q.1 q.2 (d _ q.2) c f i
theorem oj(h:il A env g es σ ds σ')(j:Nat.ble ds.length sizeLine=true):x5 A env g (.List es p) σ (.list ds) σ':=by intro l s H Q E R K;refine List_ (h.run p l s H _ E R λvs h' m H' e sub d=>?_);refine wpAny_newObj_type ?_ (by show vs.toArray.size<=sizeLine;rw[AA,d.length];exact Nat.le_of_ble_eq_true j);exact RL.made (kk:=.list ds) (s:=(uS s h' m)) e rfl (λc b=>⟨rfl,vs,_,AH _ rfl,d.mono b⟩) λv i t c a o f b=>K v i t c a o f λa o q=>b a o (sub a o q)
theorem RL.past(X:Cx k A g env.frame)(R:RL env g l σ s.heap H):(s.heap.objs.size==sysModules)=false:=by refine cI λG a=>?_;obtain⟨b,U,U,U,c,m,T⟩:=X.good;refine a ?_;have:mainGlobals<s.heap.objs.size:=(T.g.keeps R.fr.keep).lt;have h:(3:Nat)<s.heap.objs.size:=this;exact beq_eq_false_iff_ne.mpr λz=>by have z:s.heap.objs.size=1:=z;exact absurd h (z▸by decide)
theorem lh(X:Cx k A g env.frame):x5 A env g (.Dict [] [] p) σ (.dict []) σ:=by intro l s H Q E R K;have h:=RL.past X R;refine wpAny_Dict_empty ?_;exact RL.made (kk:=.dict []) R rfl (λb a=>⟨rfl,[],_,AH _ rfl,.nil,List.nodup_nil,h⟩) K
theorem dK(d:keepIn (cA w.params) f=true)(e:(backTo pos (starEach es env)).any (·.1)=false)(h:wpAny M A (evalArgs f true (backTo pos (starEach es env)) []) (λa b=>(cA w.params).In b.heap/\wpAny M A (call f (c++a.pos) a.kw) Q E b) E s):wpAny M A (callWith pos f c (backTo pos (starEach es env)) []) Q E s:=callWith_of (by rw[e];rfl) (keeps_K d) h
theorem bZ(h:il A env g es σ ds σ'):(backTo pos (starEach es env)).any (·.1)=false:=by induction h with|nil=>rfl|cons a _ _ i=>rw[cv a];show(false||_)=false;rw[Bool.false_or];exact i
theorem Bd(X:Cx k A g env.frame)(C:Ev A env g (.Name f p) σ (.atom (.ref a)) σ₁)(G:keepIn (cA w.params) (.ref a)=true)(m:il A env g es σ₁ ds σ')(B:br k a ds d):Ev A env g (.Call (.Name f p) es [] pos) σ d σ':=by intro l s H Q E R K;refine Call_Name rfl (C l s H _ E R λv h' J H' r sub y=>?_);obtain rfl:=y.inv;refine dK G (bZ m) (m.args _ pos l _ H' _ E r λvs j t I i b e=>⟨RL.kin (s:=(uS s j t)) X i,wpAny_call ?_⟩);exact RL.callV (s:=(uS s j t)) X i e B λv z h n u c x=>K v z h n u (λa o q=>c a o (b a o (sub a o q))) x
theorem xk(X:Cx k A g env.frame)(z:Ev A env g (.Name f p) σ (.atom (.ref a)) σ₁)(B:keepIn (cA w.params) (.ref a)=true)(j:il A env g es σ₁ ds σ')(y:bP k a ds o):x5 A env g (.Call (.Name f p) es [] pos) σ o σ':=by intro l s H Q E R K;refine Call_Name rfl (z l s H _ E R λv h' G H' n sub u=>?_);obtain rfl:=u.inv;refine dK B (bZ j) (j.args _ pos l _ H' _ E n λvs i t C h b d=>⟨RL.kin (s:=(uS s i t)) X h,wpAny_call ?_⟩);exact RL.callN (s:=(uS s i t)) X h d y λv x e m a o r c=>K v x e m a o r λa o q=>c a o (b a o (sub a o q))
theorem zx(X:Cx k A g env.frame)(T:Ev A env g (.Name f p) σ (.atom (.ref a)) σ₁)(U:keepIn (cA w.params) (.ref a)=true)(Y:tP A env g (.Name x px) σ₁ (.own x) σ₂)(r:il A env g es σ₂ ds σ')(V:bq σ' x=some (.o o pp))(O:cq k a o ds d o'):Ev A env g (.Call (.Name f p) (.Name x px::es) [] pos) σ d (bO σ' x (.o o' pp)):=by intro l s H Q E R K;refine Call_Name rfl (T l s H _ E R λv h' tk H' B sub L=>?_);obtain rfl:=L.inv;refine dK U (by show(false||_)=false;rw[Bool.false_or];exact bZ r) (evalArgs_plain (spliced_cons (Y l (uS s h' tk) H' _ E B λu M i y C b J=>?_)));refine r.run pos l (uS s M i) y _ E C λvs n t H3 m c h=>⟨RL.kin (s:=(uS s n t)) X m,wpAny_call ?_⟩;exact RL.callO (s:=(uS s n t)) X m V J h O λv N j z G e I=>K v N j z G (λa o q=>e a o (c a o (b a o (sub a o q)))) I
noncomputable def bV(o:Expr)(a pos:Pos)(es:List Expr):Bool:=jX o&&(a.endLine==pos.line)&&Nat.blt es.length 29
theorem fV(t:il A env g es σ ds σ')(hp:bV o a pos es=true)(h:wpAny (model P0 w) A (eval o env) (λov b=>∀pl,wpAny (model P0 w) A (getMethod ov name pl) (λf c=>wpAny (model P0 w) A (callWith pos f.1 f.2 (backTo pos (starEach es env)) []) Q E c) E b) E s):wpAny (model P0 w) A (eval (.Call (.Attribute o name a) es [] pos) env) Q E s:=by
 unfold bV at hp;simp only[A8]at hp;obtain⟨⟨q,r⟩,n⟩:=hp;have n:es.length<29:=Nat.le_of_ble_eq_true n;show wpAny (model P0 w) A (attributeBase o name env (eval o env)>>=λov=>standAt a.atName>>=λU=>methodCall o name a pos env ov (es.length+0) (backTo pos (starEach es env)) (backToKw pos [])) Q E s;rw[d8 q];refine A9 (wpAny_mono h (λov b i=>A9 (wpAny_standAt ?_)) λU U x=>x);have d:(backTo pos (starEach es env)).all (!·.1)=true:=by have:=bZ (pos:=pos) t;rw[List.all_eq_not_any_not];simpa using this
 have m:methodCallForm (es.length+0) (backTo pos (starEach es env)) (backToKw pos [])=true:=by unfold methodCallForm;rw[d];show(true&&true&&decide (es.length+0+0<30))=true;simp only[Bool.true_and,decide_eq_true_eq];exact wk n rfl
 unfold methodCall;rw[m];show wpAny (model P0 w) A (holding [ov] (getMethod ov name (do return(<-importBound o env).getD true))>>=λf=>methodCallPos true o env a pos>>=λp=>callWith p f.1 f.2 _ _) Q E b;refine A9 (wpAny_holding (wpAny_mono (i _) (λf c j=>?_) λU U x=>x));have e:methodCallPos true o env a pos=pure pos:=by unfold methodCallPos;rw[r];rfl
 rw[e];exact A9 (AC j)
theorem yj(X:Cx k A g env.frame)(U:Ev A env g o σ (.inst C fs) σ₁)(G:jz C name=some f)(T:fs.lookup name=none)(j:il A env g es σ₁ ds σ')(V:bV o c pos es=true)(O:br k f (.inst C fs::ds) d):Ev A env g (.Call (.Attribute o name c) es [] pos) σ d σ':=by intro l s H Q E R K;refine fV j V (U l s H _ E R λv h' p H' h sub z pl=>?_);obtain⟨x,dx,en,n,rfl,Y,m,L⟩:=RL.instV (s:=(uS s h' p)) (r:=.val (.inst C fs)) h z rfl;refine wi (s:=(uS s h' p)) (RL.kin (s:=(uS s h' p)) X h) Y m L T G ?_;refine dK (pP G) (bZ j) (j.args _ pos l _ H' _ E h λvs B t H2 y b i=>⟨RL.kin (s:=(uS s B t)) X y,wpAny_call ?_⟩);exact RL.callV (s:=(uS s B t)) X y (.cons (z.mono b) i) O λv N u I J e M=>K v N u I J (λa o q=>e a o (b a o (sub a o q))) M
theorem zJ(X:Cx k A g env.frame)(O:cj env)(hd:(x==("__debug__":PySem.Str))=false)(T:bq σ x=some (.o (.inst C fs) pp))(N:jz C name=some f)(hf:fs.lookup name=none)(p:il A env g es σ ds σ')(z:bq σ' x=some (.o (.inst C m) B))(hp:bV (.Name x px) b pos es=true)(hc:cq k f (.inst C m) ds d o'):Ev A env g (.Call (.Attribute (.Name x px) name b) es [] pos) σ d (bO σ' x (.o o' B)):=by intro l s H Q E R K;refine fV p hp (dT O T hd l s H _ E R λv h' G H' h sub L pl=>?_);have i:cu env l.m l.cm x=some v:=L;obtain⟨y,dx,en,n,rfl,hy,u,Y⟩:=RL.instV (s:=(uS s h' G)) (r:=.own x) h L (by simp only[eZ,T];rfl);refine wi (s:=(uS s h' G)) (RL.kin (s:=(uS s h' G)) X h) hy u Y hf N ?_;refine dK (pP N) (bZ p) (p.args _ pos l _ H' _ E h λvs M t H2 J c j=>⟨RL.kin (s:=(uS s M t)) X J,wpAny_call ?_⟩);exact RL.callO (s:=(uS s M t)) X J z i j hc λv h3 I U V e dr=>K v h3 I U V (λa o q=>e a o (c a o (sub a o q))) dr
theorem oT(O:cj env)(y:k6 env x)(h:x5 A env g e σ o σ')(hs:swapsWith e (some (.Name x p')) p.line env=pure false):kx A env g (.Assign [.Name x p'] e p) σ .next (bO σ' x (.o o none)):=by rintro Y s H Q E⟨m,j,ad,R⟩K;refine wpAny_Assign_Name (h ⟨Y,m,j,ad⟩ s H _ E R λv h' J H' a I c sub C r z B=>?_) hs;refine nH O y c λu t G n pt=>?_;obtain⟨i,d,f,b⟩:=bD.storeO c C r z B pt;exact K .next u t d ⟨_,_,_,f⟩ (λa o q=>b a o (sub a o q)) trivial
theorem D0(X:Cx k A g env.frame)(O:cj env)(hd:(x==("__debug__":PySem.Str))=false)(h:Ev A env g e σ d σ')(r:bq σ' x=some (.o (.inst C fs) pp))(ha:pW C name=true)(hz:Nat.ble fs.length 900=true)(hs:swapsWith e (some (.Attribute (.Name x px) name pa)) p.line env=pure false):kx A env g (.Assign [.Attribute (.Name x px) name pa] e p) σ .next (bO σ' x (.o (.inst C (rJ fs name d)) pp)):=by
 rintro Y s H Q E⟨m,B,ad,R⟩K;refine plainObj_wpAny_Assign_Attribute (h ⟨Y,m,B,ad⟩ s H _ E R λv h' tk H' R' sub dv=>?_) hs;refine dT O r hd ⟨Y,m,B,ad⟩ (uS s h' tk) H' _ E R' λu I j H2 f c du=>?_;have i:cu env m B x=some u:=du;have V:=(bD.own f x _ pp r).ok;rw[i]at V;obtain⟨y,ey,T,en,n,hg,G⟩:=V;obtain rfl:=A0 ey;refine qU (s:=(uS s I j)) (RL.kin (s:=(uS s I j)) X f) (RL.live f _ _ T) hg ha G.looked (by rw[G.length];exact Nat.le_of_ble_eq_true hz) λJ N t L M=>?_;have U:∀a o,a≠ad x->I.get? a=some o->J.get? a=some o:=λa o ne e=>(M.2 a ne).trans e;have b:Sb H2 (Fz J (c5 env σ' ad (dY Y))):=by have:=f.isH;rw[this];exactλa o q=>⟨U a o (λz=>q.2 (.inr (.inr (.inl ⟨x,_,pp,r,z.symm⟩)))) q.1,q.2⟩
 have q:=bD.mutO (k':=.inst C (rJ fs name d)) f r U (by rw[i];exact⟨y,rfl,b _ _ T,_,_,L,cQ.put (t:=t) ((dv.mono c).mono b) (G.mono b)⟩);exact K .next J N _ ⟨_,_,_,q.1⟩ (λa o z=>q.2 a o (c a o (sub a o z))) trivial
end
theorem rA(T:makesIn (cA w.params) C=true)(O:findIn (cA w.params) (.ref C) "__init__"=some (some (.ref y)))(N:typeIn (cA w.params) (.ref y)=some (.type "function"))(M:cq k y (.inst C []) ds .none o):bP (k+1) C ds o:=by
 intro A g fr s X args R x S d K;have j:(cA w.params).In s.heap:=Frag.In.keeps x.good.1 S.keep;obtain⟨h,J,t,tk,os⟩:=s;dsimp only at S d j K;refine make_core (makes_of j T) (looks_findIn j O) (λi=>bind_fn j i N) (.inl rfl) ?_;have k1:Hk h ((h.push emptyDict).push (instObj C h.objs.size)):=λb o e=>A2 _ (A2 _ e);have sz:(h.push emptyDict).objs.size=h.objs.size+1:=Heap.size_push ..;have V:((h.push emptyDict).push (instObj C h.objs.size)).get? (h.objs.size+1)=some (instObj C h.objs.size):=by have:=AH (h.push emptyDict) (o:=instObj C h.objs.size) rfl;rwa[sz]at this
 have u:((h.push emptyDict).push (instObj C h.objs.size)).get? h.objs.size=some emptyDict:=A2 _ (AH _ rfl);have n:h.get? h.objs.size=none:=Heap.get?_none_of_le (AT _);have B:∀b,X b->b<h.objs.size:=λb z=>by obtain⟨o,e⟩:=S.there b z;exact AG e
 have I:g.b.get? h.objs.size=none:=by cases q:g.b.get? h.objs.size with|none=>rfl|some o'=>have:=S.keep _ o' q;rw[n]at this;exact ca this
 have E:kz g X ((h.push emptyDict).push (instObj C h.objs.size)):=⟨λb o e=>k1 b o (S.keep b o e),λa q=>by obtain⟨q1,q2,Y,oL,es,ep,L,U⟩:=S.frs a q;exact⟨q1,q2,Y,oL,es,ep,k1 _ _ L,U⟩,λa q=>by obtain⟨o,e⟩:=S.there a q;exact⟨o,k1 _ _ e⟩⟩;have m:Cx k (A.under (.builtin "type.__call__" ⟨.ref C::args,[]⟩)) g fr:=by
   obtain⟨p,c,f,G,un⟩:=x;refine⟨p,c,f,?_,?_⟩;·have:(A.under (.builtin "type.__call__" ⟨.ref C::args,[]⟩)).depth=A.depth+1:=rfl;rw[this];exact bu G (by decide)
   ·have:(A.under (.builtin "type.__call__" ⟨.ref C::args,[]⟩)).units=A.units+1:=rfl;rw[this];exact bu un (by decide)
 refine M _ g fr ⟨(h.push emptyDict).push (instObj C h.objs.size),J,t,tk,os⟩ X (.ref (h.objs.size+1)) h.objs.size args _ m E I ?_ ?_ ?_ λr h' v Q ok t=>?_;·exactλz=>AU _ (B _ z)
 · refine⟨_,rfl,⟨V,λz=>?_⟩,[],0,u,.nil⟩;rcases z with z|z;·exact AU _ (Nat.lt_of_succ_lt (B _ z))
   ·exact Nat.succ_ne_self _ z
 ·refine d.mono λa o q=>⟨k1 a o q.1,λz=>z.elim q.2 λz=>?_⟩;have e:=q.1;rw[z,n]at e;exact ca e
 ·obtain rfl:=t.inv;exact⟨rfl,K _ h' v h.objs.size (λb o e=>Q b o (λz=>by rw[z,n]at e;exact ca e) (k1 b o e)) ok n⟩
noncomputable def yL(zs:List (Addr×Obj)):Yd:=λa o=>(a,o)∈zs
noncomputable def Lay.plus(l:Lay)(Z:Yd):Lay:={l with Y:=yU l.Y Z}
theorem DX{Y:Yd}{a:Addr}{o:Obj}{zs:List (Addr×Obj)}:yU (yU Y (y1 a o)) (yL zs)=yU Y (yL ((a,o)::zs)):=by
 funext b q;refine propext ⟨?_,?_⟩
 · rintro((z|⟨rfl,rfl⟩)|z);·exact .inl z
   ·exact .inr (.head _)
   ·exact .inr (.tail _ z)
 · rintro(z|z);·exact .inl (.inl z)
   · rcases A6.mp z with z|z;·obtain⟨rfl,rfl⟩:=Prod.mk.inj z;exact .inl (.inr ⟨rfl,rfl⟩)
     ·exact .inr z
theorem z9{Y:Yd}{a:Addr}{o:Obj}{zs:List (Addr×Obj)}:yU Y (yL ((a,o)::zs))=yU (yU Y (yL zs)) (y1 a o):=by
 funext b q;refine propext ⟨?_,?_⟩
 · rintro(z|z);·exact .inl (.inl z)
   · rcases A6.mp z with z|z;·obtain⟨rfl,rfl⟩:=Prod.mk.inj z;exact .inr ⟨rfl,rfl⟩
     ·exact .inl (.inr z)
 · rintro((z|z)|⟨rfl,rfl⟩);·exact .inl z
   ·exact .inr (.tail _ z)
   ·exact .inr (.head _)
theorem qz:yU Y (yL [])=Y:=by funext b q;exact propext ⟨λz=>z.elim id (λz=>by cases z),.inl⟩
inductive cM(env:Env)(g:Gr)(Y:Yd)(h:Heap)(H:Addr->Obj->Prop):List Value->List Slot->List (Addr×Obj)->Prop|nil:cM env g Y h H [] [] []|d{v:Value}{d:D}{vs:List Value}{is:List Slot}{zs:List (Addr×Obj)}:cx H v d->cM env g Y h H vs is zs->cM env g Y h H (v::vs) (.v d::is) zs|o{v:Value}{k:js}{a:Addr}{o:Obj}{vs:List Value}{is:List Slot}{zs:List (Addr×Obj)}:ej h H (some v) a k->g.get? a=none->¬dY Y a->a∉g.fs->(∀p∈zs,p.1≠a)->cM env g Y h H vs is zs->cM env g Y h H (v::vs) (.o k none::is) ((a,o)::zs)
theorem cM.mono{env:Env}{g:Gr}{Y e:Yd}{h h':Heap}{H H':Addr->Obj->Prop}{vs:List Value}{is:List Slot}{zs:List (Addr×Obj)}(l:∀a,dY e a->dY Y a)(hs:Sb H H')(c:∀a,(∃o,(a,o)∈zs)->∀o,h.get? a=some o->h'.get? a=some o)(x:cM env g Y h H vs is zs):cM env g e h' H' vs is zs:=by induction x with|nil=>exact .nil|d f _ i=>exact .d (f.mono hs) (i c)|o s j n p r _ i=>exact .o (s.mono hs (c _ ⟨_,.head _⟩)) j (λz=>n (l _ z)) p r (i λb⟨q,m⟩=>c b ⟨q,.tail _ m⟩)
theorem cM.off{env:Env}{g:Gr}{Y:Yd}{h:Heap}{H:Addr->Obj->Prop}{vs:List Value}{is:List Slot}{zs:List (Addr×Obj)}{a:Addr}(c:dY Y a)(x:cM env g Y h H vs is zs):∀p∈zs,p.1≠a:=by induction x with|nil=>intro p b;exact absurd b A3|d _ _ i=>exact i|o _ _ n _ _ _ i=>
 intro p b;rcases A6.mp b with rfl|b;·intro z;dsimp only at z;exact n (z.symm▸c)
 ·exact i p b
theorem cM.length{env:Env}{g:Gr}{Y:Yd}{h:Heap}{H:Addr->Obj->Prop}{vs:List Value}{is:List Slot}{zs:List (Addr×Obj)}(x:cM env g Y h H vs is zs):vs.length=is.length:=by induction x with|nil=>rfl|d _ _ i=>rw[AJ,AJ,i]|o _ _ _ _ _ _ i=>rw[AJ,AJ,i]
theorem bM.itemsOK(a:bM H vs ds):cM env g Y h H vs (ds.map Slot.v) []:=by induction ds generalizing vs with|nil=>obtain rfl:=a.inv;exact .nil|cons d ds i=>obtain⟨v,u,rfl,b,r⟩:=a.inv;exact .d b (i r)
inductive qY(A:Around)(env:Env)(g:Gr):List Expr->Sig->List Slot->Sig->Prop|nil{σ:Sig}:qY A env g [] σ [] σ|d{e:Expr}{es:List Expr}{σ σ₁ σ':Sig}{d:D}{is:List Slot}:isStarred e=false->Ev A env g e σ d σ₁->qY A env g es σ₁ is σ'->qY A env g (e::es) σ (.v d::is) σ'|o{e:Expr}{es:List Expr}{σ σ₁ σ':Sig}{k:js}{is:List Slot}:isStarred e=false->x5 A env g e σ k σ₁->qY A env g es σ₁ is σ'->qY A env g (e::es) σ (.o k none::is) σ'
section
variable{A:Around}{env:Env}{g:Gr}{σ σ' σ₁ σ₂:Sig}{k:Nat}
theorem qY.run(h:qY A env g es σ is σ'):∀(pos:Pos)(l:Lay)(s:Shared)(H:Addr->Obj->Prop)(Q:List Value->Shared->Prop)(E:Value->Shared->Prop),RL env g l σ s.heap H->(∀vs h' x H' zs,RL env g (l.plus (yL zs)) σ' h' H'->Sb H H'->cM env g l.Y h' H' vs is zs->Q vs (uS s h' x))->wpAny (model P0 w) A (spliced (backTo pos (starEach es env))) Q E s:=by induction h with|nil=>intro pos l s H Q E R K;exact spliced_nil (K [] s.heap s.toks H [] (by unfold Lay.plus;rw[qz];exact R) (λU U=>id) .nil)|d n m _ r=>intro pos l s H Q E R K;rw[cv n];refine spliced_cons (m l s H _ E R λv h' x H' e sub y=>?_);refine r pos l _ H' _ E e λvs j t f zs R2 c i=>?_;exact K (v::vs) j t f zs R2 (λa o q=>c a o (sub a o q)) (.d (y.mono c) i)|o n m _ r=>intro pos l s H Q E R K;rw[cv n];refine spliced_cons (m l s H _ E R λv h' x H' a o e sub L G I u=>?_);refine r pos {l with Y:=yU l.Y (y1 a o)} _ H' _ E e λvs j t f zs R2 c i=>?_;unfold Lay.plus at R2;dsimp only at R2;rw[DX]at R2;have B:=(bD.held e a o (.inr ⟨rfl,rfl⟩)).1.at u;have C:=(bD.held R2 a o (.inr (.head _))).1.at u;have J:∀p∈zs,p.1≠a:=i.off (bX.mpr (.inr (dI.mpr rfl)));refine K (v::vs) j t f ((a,o)::zs) R2 (λa o q=>c a o (sub a o q)) (.o (L.mono c λM z=>by rw[B]at z;obtain rfl:=A0 z;exact C) G I u J (i.mono (λb z=>bX.mpr (.inl z)) (λU U=>id) λU U U=>id))
noncomputable def fJ:Sig->List PySem.Str->List Slot->Sig|σ,x::xs,i::is=>fJ (bO σ x i) xs is|σ,_,_=>σ
inductive gc(env:Env):List (Value->Sem Unit)->List PySem.Str->Prop|nil:gc env [] []|cons{t:Value->Sem Unit}{ts:List (Value->Sem Unit)}{x:PySem.Str}{xs:List PySem.Str}:k6 env x->(∀(M:Model)(A:Around)(v:Value)(Q:Unit->Shared->Prop)(E:Value->Shared->Prop)(s:Shared),wpAny M A (storeName env x v) Q E s->wpAny M A (t v) Q E s)->gc env ts xs->gc env (t::ts) (x::xs)
set_option tactic.hygienic true in theorem g9(O:cj env){N:List (Value->Sem Unit)}{xs:List PySem.Str}(ht:gc env N xs):∀{σ:Sig}{Y:Yd}{s:Shared}{H:Addr->Obj->Prop}{vs:List Value}{is:List Slot}{zs:List (Addr×Obj)}{Q:Unit->Shared->Prop}{E:Value->Shared->Prop},vs.length=xs.length->gP env g (yU Y (yL zs)) σ s.heap H->cM env g Y s.heap H vs is zs->(∀h' j H',gP env g Y (fJ σ xs is) h' H'->Sb H H'->Q () (uS s h' j))->wpAny (model P0 w) A (assignInOrder N vs) Q E s:=by induction ht with
 |nil=>intro σ Y s H vs is zs Q E h R i K;obtain rfl:=List.eq_nil_of_length_eq_zero h;cases i with|nil=>rw[qz]at R;exact AC (K s.heap s.toks H R λU U=>id)
 |cons L J _ M=>intro σ Y s H vs is zs Q E h R i K;obtain⟨m,cm,ad,r⟩:=R;cases i with|nil=>exact nomatch h|d dv i=>refine A9 (wpAny_holding (J _ _ _ _ _ _ (nH O L r λh' j m' v p=>?_)));obtain⟨U,B,U,U⟩:=p.keep r;have q:=r.store dv p;refine M (s:=(uS s h' j)) (by exact Nat.succ.inj h) ⟨_,_,_,q.1⟩ (i.mono (λU=>id) q.2 λa⟨o,y⟩l e=>?_) λx t n u c=>K x t n u λa o z=>c a o (q.2 a o z);obtain⟨U,C,G⟩:=r.held a o (.inr y);exact B a l e C G|o ok ga nY nf nz i=>refine A9 (wpAny_holding (J _ _ _ _ _ _ (nH O L r λh' j m' v p=>?_)));rename_i a ob _ _ I;obtain⟨U,B,U,U⟩:=p.keep r;rw[z9]at r;have hY:¬dY (yU Y (yL I)) a:=λz=>(bX.mp z).elim nY λ⟨l,z⟩=>nz _ z rfl;obtain⟨V,H',T,f⟩:=bD.storeO r ok ga hY nf p;refine M (s:=(uS s h' j)) (by exact Nat.succ.inj h) ⟨_,_,_,T⟩ (i.mono (λU=>id) f λb⟨o,y⟩l e=>?_) λx t n u c=>K x t n u λa o z=>c a o (f a o z);obtain⟨U,C,G⟩:=r.held b o (.inl (.inr y));exact B b l e C G
end
set_option backward.match.sparseCases true in noncomputable def i8(sc:Scope)(t:List Expr):List PySem.Str:=t.filterMap λ|.Name id pos=>if sc.names.lookup id==some .local&&pos.line==(t.head?.map (·.pos.line)).getD 0 then some id else none|_=>none
set_option backward.match.sparseCases true in noncomputable def gr(env:Env)(t:List Expr):List PySem.Str:=t.filterMap λ|.Name id pos=>if env.kindOf id==some .local&&pos.line==(t.head?.map (·.pos.line)).getD 0 then some id else none|_=>none
noncomputable def KK(sc:Scope)(t vs:List Expr):Option (Option (List PySem.Str)):=if(!(t.length==2||t.length==3)||vs.length !=t.length)=true then some none else if(vs.any isStarred)=true then some none else if((i8 sc t).length !=t.length||(i8 sc t).eraseDups.length !=(i8 sc t).length)=true then some none else if vs.all (foldedForSure 8)=true then some none else if vs.all (constantsAlone 8)=true then none else some (some (i8 sc t))
set_option backward.match.sparseCases true in theorem Hg(hs:env.scope=sc)(b:sc.kind=.function)(h:KK sc t vs=some r):swappedStores [.Tuple t k p] (.Tuple vs k' p') env=pure r:=by
 unfold KK at h;have hb:env.blockKind=.function:=by unfold Env.blockKind;rw[hs,b];rfl
 have c:∀id,env.kindOf id=sc.names.lookup id:=λid=>by unfold Env.kindOf;rw[hs]
 have a:gr env t=i8 sc t:=by unfold gr i8;congr 1;funext e;cases e<;>first|rfl|(dsimp only;rw[c])
 show(if(!(t.length==2||t.length==3)||vs.length !=t.length||env.blockKind !=ScopeKind.function)=true then pure none else if(vs.any isStarred)=true then pure none else if((gr env t).length !=t.length||(gr env t).eraseDups.length !=(gr env t).length)=true then pure none else if vs.all (foldedForSure 8)=true then pure none else if vs.all (constantsAlone 8)=true then do unsupported "assign.tuple-of-constant-expressions:order-of-the-stores"pure (some (gr env t))else pure (some (gr env t)))=_;rw[a,hb,show(ScopeKind.function !=ScopeKind.function)=false from rfl,Bool.or_false];split at h;·rename_i q;obtain rfl:=A0 h;rw[if_pos q]
 · rename_i d;rw[if_neg d];split at h;·rename_i q;obtain rfl:=A0 h;rw[if_pos q]
   · rename_i f;rw[if_neg f];split at h;·rename_i q;obtain rfl:=A0 h;rw[if_pos q]
     · rename_i i;rw[if_neg i];split at h;·rename_i q;obtain rfl:=A0 h;rw[if_pos q]
       · rename_i j;rw[if_neg j];split at h;·exact ca h
         ·rename_i l;obtain rfl:=A0 h;rw[if_neg l]
noncomputable def Aq:Expr->Option PySem.Str|.Name x _=>some x|_=>none
noncomputable def f8:List Expr->Option (List PySem.Str)|[]=>some []|e::r=>(Aq e).bind λx=>(f8 r).map λxs=>x::xs
theorem xw(h:Aq e=some x):∃p,e=.Name x p:=by cases e<;>first|exact ca h|exact⟨_,congrArg (λx=>Expr.Name x _) (A0 h)⟩
section
variable{A:Around}{env:Env}{g:Gr}{σ σ' σ₁ σ₂:Sig}{k:Nat}
theorem jt(h:f8 t=some xs)(d:∀x∈xs,k6 env x):gc env ((assignEach t env).map (·.2)) xs/\(assignEach t env).findIdx? (·.1)=none/\(assignEach t env).length=xs.length:=by induction t generalizing xs with|nil=>obtain rfl:=A0 h;exact⟨.nil,rfl,rfl⟩|cons e r l=>
 unfold f8 at h;obtain⟨x,f,h⟩:=ew h;obtain⟨m,i,rfl⟩:=wn h;obtain⟨p,rfl⟩:=xw f;obtain⟨a,b,c⟩:=l i λy j=>d y (A5 _ j);refine⟨.cons (d _ A4) (λM A v Q E s h=>PyProof.Rows.assign_Name h) a,?_,?_⟩;·show List.findIdx? _ ((false,_)::assignEach r env)=none;rw[List.findIdx?_cons,b];rfl
 ·show(assignEach r env).length+1=_;rw[c];rfl
theorem rx(a:∀x∈xs,k6 env x):gc env (xs.map λn=>bindName env n) xs:=by induction xs with|nil=>exact .nil|cons x xs i=>exact .cons (a x A4) (λM A v Q E s h=>bindName_ h) (i λy b=>a y (A5 _ b))
theorem cM.rev{Y:Yd}{h:Heap}{H:Addr->Obj->Prop}{vs:List Value}{is:List Slot}{zs:List (Addr×Obj)}(x:cM env g Y h H vs is zs):∀{u:List Value}{j:List Slot}{ws:List (Addr×Obj)},cM env g Y h H u j ws->(∀p∈ws,∀q∈zs,p.1≠q.1)->∃b,(∀p,p∈b↔p∈zs\/p∈ws)/\cM env g Y h H (vs.reverse++u) (is.reverse++j) b:=by induction x with|nil=>intro u j ws y _;exact⟨ws,λp=>⟨.inr,λz=>z.elim (λz=>by exact absurd z A3) id⟩,y⟩|d n _ l=>intro u j ws y e;obtain⟨b,f,i⟩:=l (.d n y) e;exact⟨b,f,by simpa using i⟩|@o v k a C vs is zs E r s t B _ l=>
 intro u j ws y e;obtain⟨b,f,i⟩:=l (.o E r s t (λp c=>(e p c (a,C) (.head _))) y) (by
  intro p c q m;rcases A6.mp c with rfl|c;·exact(B q m).symm
  ·exact e p c q (.tail _ m));refine⟨b,λp=>?_,by simpa using i⟩;rw[f,A6,A6];exact⟨λz=>z.elim (λz=>.inl (.inr z)) λz=>z.elim (λz=>.inl (.inl z)) .inr,λz=>z.elim (λz=>z.elim (λz=>.inr (.inl z)) .inl) λz=>.inr (.inr z)⟩
theorem z0{zs ws:List (Addr×Obj)}(h:∀p,p∈zs↔p∈ws):yL zs=yL ws:=by funext a o;exact propext (h (a,o))
theorem tZ{ts es:List Expr}{k1 k2:Nat}{p1 p2 p:Pos}{xs:List PySem.Str}{is:List Slot}{sc:Scope}{v:Option (List PySem.Str)}(O:cj env)(j:env.scope=sc)(hh:A.handled=none)(hx:f8 ts=some xs)(l:∀x∈xs,k6 env x)(h:qY A env g es σ is σ')(hz:Nat.ble is.length 1000=true)(hw:KK sc ts es=some v)(y:is.length=xs.length)(N:v=none\/v=some xs):kx A env g (.Assign [.Tuple ts k1 p1] (.Tuple es k2 p2) p) σ .next (match v with|none=>fJ σ' xs is|some _=>fJ σ' xs.reverse is.reverse):=by
 rintro Y s H Q E⟨m,cm,ad,R⟩K;have n:=Hg (k:=k1) (k':=k2) (p:=p1) (p':=p2) j (j▸O.kind) hw;have run:∀{C:Value->Shared->Prop},(∀T vs h' t H' zs,gP env g (yU Y (yL zs)) σ' h' H'->Sb H H'->cM env g Y h' H' vs is zs->IsTup h' T vs.toArray->C (.ref T) (uS s h' t))->wpAny (model P0 w) A (eval (.Tuple es k2 p2) env) C E s:=by
  intro C K';refine Tuple_ (h.run p2 ⟨Y,m,cm,ad⟩ s H _ E R λvs h' t H' zs f sub i=>?_);have lv:vs.length<=sizeLine:=by rw[i.length,sizeLine_eq];exact A1 (Nat.le_of_ble_eq_true hz) (by decide)
  refine wpAny_newTuple ?_ lv;have q:=bD.grow (h':=h'.push {cls:=.type "tuple",data:=.seq vs.toArray}) f (λa o' e=>A2 _ e);exact K' _ vs _ t _ zs ⟨_,_,_,q.1⟩ (λa o z=>q.2 a o (sub a o z)) (i.mono (λU=>id) q.2 λa U o e=>A2 _ e) ⟨_,AH _ rfl,rfl,_,rfl⟩
 cases v with|none=>refine PyProof.Rows.Assign_Tuple (run λT vs h' t H' zs f sub i V=>?_) rfl n;obtain⟨e1,e2,e3⟩:=jt hx l;refine PyProof.Rows.assign_Tuple_tuple hh (s:=(uS s h' t)) V (by rw[e3,<-y,AA,i.length]) e2 λc M=>?_;obtain⟨m',J,I,r'⟩:=f;have u:Hk h' c:=λa o e=>M a o (AY (AG e)) e;have q:=bD.grow (h':=c) r' u;refine g9 (s:=(uS s c t)) O e1 (by rw[List.toList_toArray,i.length,y]) ⟨_,_,_,q.1⟩ (by rw[List.toList_toArray];exact i.mono (λU=>id) q.2 λa U=>u a) λL d B G b=>?_;exact K .next L d B G (λa o z=>b a o (q.2 a o (sub a o z))) trivial|some ys=>
  have hy:ys=xs:=by rcases N with z|z<;>cases z;rfl
  subst hy;refine Assign_Tuple_swapped (run λT vs h' t H' zs f sub i V=>?_) rfl n;have en:ys.length=vs.toArray.size:=by rw[AA,i.length,y]
  rw[en];refine unpackItems_tuple hh (s:=(uS s h' t)) V λc M=>?_;obtain⟨m',J,I,r'⟩:=f;have u:Hk h' c:=λa o e=>M a o (AY (AG e)) e;have q:=bD.grow (h':=c) r' u;obtain⟨aa,z1,r⟩:=(i.mono (λU=>id) q.2 λa U=>u a).rev .nil (λp hp=>by exact absurd hp A3);have ez:yL aa=yL zs:=z0 λp=>(z1 p).trans ⟨λz=>z.elim id (λz=>by exact absurd z A3),.inl⟩;rw[List.append_nil,List.append_nil]at r;refine g9 (s:=(uS s c t)) O (rx λx hx=>l x (List.mem_reverse.mp hx)) (by rw[List.toList_toArray,List.length_reverse,List.length_reverse,i.length,y]) (by rw[ez];exact⟨_,_,_,q.1⟩) (by rw[List.toList_toArray];exact r) λL d B G b=>?_;exact K .next L d B G (λa o z=>b a o (q.2 a o (sub a o z))) trivial
theorem t6(O:cj env)(M:A.handled=none)(V:f8 f=some xs)(d:∀x∈xs,k6 env x)(h:Ev A env g e σ (.tuple ds) σ')(j:ds.length=xs.length)(hs:swapsWithSole [.Tuple f k1 p1] e p.line env=pure false)(U:swappedStores [.Tuple f k1 p1] e env=pure none):kx A env g (.Assign [.Tuple f k1 p1] e p) σ .next (fJ σ' xs (ds.map Slot.v)):=by rintro Y s H Q E⟨m,y,ad,R⟩K;refine PyProof.Rows.Assign_Tuple (h ⟨Y,m,y,ad⟩ s H _ E R λv h' l H' i sub B=>?_) hs U;obtain⟨C,G,I⟩:=jt V d;obtain⟨T,vs,n,rfl,N,dl⟩:=B.inv;refine PyProof.Rows.assign_Tuple_tuple M (s:=(uS s h' l)) (⟨_,RL.live i _ _ N,rfl,n,rfl⟩:IsTup h' T vs.toArray) (by rw[I,<-j,AA,dl.length]) G λc L=>?_;have kp:Hk h' c:=λa o e=>L a o (AY (AG e)) e;have q:=bD.grow (h':=c) i kp;refine g9 (s:=(uS s c l)) (zs:=[]) (is:=ds.map Slot.v) O C (by rw[List.toList_toArray,dl.length,j]) (by rw[qz];exact⟨_,_,_,q.1⟩) (by rw[List.toList_toArray];exact(dl.mono q.2).itemsOK) λJ t r u b=>?_;exact K .next J t r u (λa o z=>b a o (q.2 a o (sub a o z))) trivial
end
def gz(env:Env)(g:Gr)(Y Z:Yd):Prop:=∀a,dY Z a->g.get? a=none/\¬dY Y a/\a∉g.fs
def vV(A:Around)(env:Env)(g:Gr)(target:Expr)(i:Value)(F:Addr->Obj->Prop):List D->Yd->Prop|[],Z=>∀(l:Lay)(s:Shared)(H:Addr->Obj->Prop)(σ:Sig)(Q:Option Value->Shared->Prop)(E:Value->Shared->Prop),RL env g (l.plus Z) σ s.heap H->gz env g l.Y Z->Sb F H->(∀h' t H',RL env g l σ h' H'->Sb H H'->Q none (uS s h' t))->wpAny (model P0 w) A (pyNext i) Q E s|d::ds,Z=>∀(l:Lay)(s:Shared)(H:Addr->Obj->Prop)(σ:Sig)(Q:Option Value->Shared->Prop)(E:Value->Shared->Prop),RL env g (l.plus Z) σ s.heap H->gz env g l.Y Z->Sb F H->(∀v a,(∀(Q₁:Unit->Shared->Prop)(b:Value->Shared->Prop),(∀h' t H' Z',vV A env g target i F ds Z'->gz env g l.Y Z'->RL env g (l.plus Z') σ h' H'->Sb H H'->cx H' v d->Q₁ () (uS s h' t))->wpAny (model P0 w) A (letOwnedTupleGo target i v) Q₁ b a)->Q (some v) a)->wpAny (model P0 w) A (pyNext i) Q E s
def nt(A:Around)(g:Gr)(i:Value)(F:Addr->Obj->Prop)(Z:Yd):Prop:=∀(env:Env)(l:Lay)(s:Shared)(H:Addr->Obj->Prop)(σ:Sig)(Q:Value->Shared->Prop)(E:Value->Shared->Prop),RL env g (l.plus Z) σ s.heap H->gz env g l.Y Z->Sb F H->Q i s->wpAny (model P0 w) A (pyIter i) Q E s
def tV(A:Around)(env:Env)(g:Gr)(target:Expr)(d:D)(σ σ':Sig):Prop:=∀(Y:Yd)(s:Shared)(H:Addr->Obj->Prop)(v:Value)(Q:Unit->Shared->Prop)(E:Value->Shared->Prop),gP env g Y σ s.heap H->cx H v d->(∀h' t H',gP env g Y σ' h' H'->Sb H H'->Q () (uS s h' t))->wpAny (model P0 w) A (assign target env v) Q E s
inductive d6(A:Around)(env:Env)(g:Gr)(target:Expr)(body:List Stmt):List D->Sig->Fl->Sig->Prop|nil{σ:Sig}:d6 A env g target body [] σ .next σ|next{d:D}{ds:List D}{σ σ₁ σ₂ σ':Sig}{f fl:Fl}:tV A env g target d σ σ₁->dW A env g body σ₁ f σ₂->(f=.next\/f=.cont)->d6 A env g target body ds σ₂ fl σ'->d6 A env g target body (d::ds) σ fl σ'|ret{d r:D}{ds:List D}{σ σ₁ σ':Sig}:tV A env g target d σ σ₁->dW A env g body σ₁ (.ret r) σ'->d6 A env g target body (d::ds) σ (.ret r) σ'
inductive c0(A:Around)(env:Env)(g:Gr)(test:Expr)(body:List Stmt):Nat->Sig->Fl->Sig->Prop|done{σ σ':Sig}:Tr A env g test σ false σ'->c0 A env g test body 0 σ .next σ'|next{n:Nat}{σ σ₁ σ₂ σ':Sig}{f fl:Fl}:Tr A env g test σ true σ₁->dW A env g body σ₁ f σ₂->(f=.next\/f=.cont)->c0 A env g test body n σ₂ fl σ'->c0 A env g test body (n+1) σ fl σ'|ret{r:D}{σ σ₁ σ':Sig}:Tr A env g test σ true σ₁->dW A env g body σ₁ (.ret r) σ'->c0 A env g test body 0 σ (.ret r) σ'
section
variable{A:Around}{env:Env}{g:Gr}{σ σ' σ₁ σ₂:Sig}{k:Nat}
theorem gP.unY(R:gP env g (yU Y Z) σ h H)(b:gz env g Y Z):∃H',gP env g Y σ h H'/\Sb H H':=by refine cI λG c=>?_;obtain⟨m,e,ad,r⟩:=R;obtain⟨d,s,U⟩:=r.dropY (λa z=>(b a z).2.1) λa z=>(b a z).2.2;refine c ?_;exact⟨_,⟨_,_,_,d⟩,s⟩
inductive JM(A:Around)(env:Env)(g:Gr)(target:Expr)(body:List Stmt)(it:Value)(F:Addr->Obj->Prop)(Y:Yd)(s₀:Shared)(fl:Fl)(σ':Sig)(n:Nat)(s:Shared):Prop|mk(ds:List D)(Z:Yd)(σ:Sig)(H:Addr->Obj->Prop)(e:n=ds.length)(hL:d6 A env g target body ds σ fl σ')(hS:vV A env g target it F ds Z)(hZ:gz env g Y Z)(R:gP env g (yU Y Z) σ s.heap H)(hH:Sb F H)(hs:∃h tk,s=(uS s₀ h tk))
inductive Jy(A:Around)(env:Env)(g:Gr)(test:Expr)(body:List Stmt)(Y:Yd)(s₀:Shared)(H₀:Addr->Obj->Prop)(fl:Fl)(σ':Sig)(n:Nat)(s:Shared):Prop|mk(σ:Sig)(H:Addr->Obj->Prop)(hL:c0 A env g test body n σ fl σ')(R:gP env g Y σ s.heap H)(hH:Sb H₀ H)(hs:∃h tk,s=(uS s₀ h tk))
set_option tactic.hygienic true in theorem Be{F:Addr->Obj->Prop}{R':Result->Shared->Prop}{Y:Yd}{s₀:Shared}{H₀:Addr->Obj->Prop}(hF:Sb H₀ F){Z:Yd}{s:Shared}{H:Addr->Obj->Prop}(Q:d6 A env g target b ds σ fl σ')(u:vV A env g target U F ds Z)(x:gz env g Y Z)(R:gP env g (yU Y Z) σ s.heap H)(i:Sb F H)(hs:∃h t,s=(uS s₀ h t))(K:∀f h' t H',gP env g Y σ' h' H'->Sb H₀ H'->HT g h' H' f fl->R' (.ok f) (uS s₀ h' t)):codeAny (model P0 w) A (.forLoop target U b [] env) R' s:=by refine codeAny_forLoop_any (JM A env g target b U F Y s₀ fl σ') ?_ ds.length ⟨ds,Z,σ,H,rfl,Q,u,x,R,i,hs⟩;refine DN λG O=>?_;rintro n s⟨ds,Z,σ,H,rfl,Q,u,x,⟨m,J,ad,R⟩,i,aa,V,rfl⟩;cases Q with
 |nil=>refine O _ _ ?_;refine u ⟨Y,m,J,ad⟩ _ H _ _ _ R x i λh' t H' r sub=>?_;exact wpAny_execs_nil (K .next h' t H' ⟨_,_,_,r⟩ (λa o q=>sub a o (i a o (hF a o q))) trivial)|next T hb hf hr=>rename_i d1 ds1 ab ac f1;refine O _ _ ?_;refine u ⟨Y,m,J,ad⟩ _ H _ _ _ R x i λv y go=>?_;refine go _ _ λh' t H' Z' S' I r sub L=>?_;refine T (yU Y Z') (uS s₀ h' t) H' v _ _ ⟨_,_,_,r⟩ L λM l z C c=>?_;refine hb (yU Y Z') (uS s₀ M l) z _ _ C λf N p B E d e=>?_;have fin:∃m,m<(d1::ds1).length/\JM A env g target b U F Y s₀ fl σ' m (uS s₀ N p):=⟨_,Nat.lt_succ_self _,_,Z',_,B,rfl,hr,S',I,E,λa o q=>d a o (c a o (sub a o (i a o q))),_,_,rfl⟩;rcases hf with rfl|rfl<;>cases f<;>first|exact e.elim|exact fin
 |ret T hb=>
  refine O _ _ ?_;refine u ⟨Y,m,J,ad⟩ _ H _ _ _ R x i λv y go=>?_;refine go _ _ λh' t H' Z' S' I r sub L=>?_;refine T (yU Y Z') (uS s₀ h' t) H' v _ _ ⟨_,_,_,r⟩ L λM l z C c=>?_;refine hb (yU Y Z') (uS s₀ M l) z _ _ C λf N p B E d e=>?_;obtain⟨H4,R5,j⟩:=E.unY I;cases f<;>first|exact e.elim|skip
  have dr:cx B _ _:=e;exact K _ N p H4 R5 (λa o q=>j a o (d a o (c a o (sub a o (i a o (hF a o q)))))) (dr.mono j)
def KO(A:Around)(env:Env)(g:Gr)(target:Expr)(d:D)(ds:List D):Prop:=∀(l:Lay)(s:Shared)(H:Addr->Obj->Prop)(σ:Sig)(v:Value)(Q:Value->Shared->Prop)(E:Value->Shared->Prop),RL env g l σ s.heap H->cx H v d->(∀i h' t H' Z F,Sb H F->Sb F H'->(∀e,vV A e g target i F ds Z)->nt A g i F Z->gz env g l.Y Z->RL env g (l.plus Z) σ h' H'->Q i (uS s h' t))->wpAny (model P0 w) A (pyIter v) Q E s
noncomputable def iG:Expr->Bool|.Set ..=>false|_=>true
theorem gd(h:iG e=true)(env:Env)(x:Value):foldedSetIterable e env x=pure x:=by cases e<;>first|rfl|exact Bool.noConfusion h
def Er(A:Around)(env:Env)(g:Gr)(target e:Expr)(σ:Sig)(ds:List D)(σ':Sig):Prop:=∀(l:Lay)(s:Shared)(H:Addr->Obj->Prop)(Q:Value->Shared->Prop)(E:Value->Shared->Prop),RL env g l σ s.heap H->(∀i h' t H' Z F,Sb H F->Sb F H'->(∀a,vV A a g target i F ds Z)->nt A g i F Z->gz env g l.Y Z->RL env g (l.plus Z) σ' h' H'->Q i (uS s h' t))->wpAny (model P0 w) A (eval e env) (λx b=>wpAny (model P0 w) A (pyIter x) Q E b) E s
theorem qJ(h:Ev A env g e σ d σ')(u:KO A env g target d ds):Er A env g target e σ ds σ':=by intro l s H Q E R K;refine h l s H _ E R λv h' y H' f sub n=>?_;refine u l (uS s h' y) H' _ v _ E f n λx p t c Z F r b S j m i=>?_;exact K x p t c Z F (λa o q=>r a o (sub a o q)) b S j m i
theorem Hb(y:iG i=true)(x:Er A env g target i σ ds σ₁)(u:d6 A env g target b ds σ₁ fl σ'):kx A env g (.For target i b [] p) σ fl σ':=by rintro Y s H Q E⟨m,d,ad,R⟩K;refine wpAny_For (x ⟨Y,m,d,ad⟩ s H _ E R λB e t z Z F r h S U o l=>?_) (gd y env);refine Be (s₀:=(uS s e t)) (Y:=Y) r u (S env) o (s:=(uS s e t)) ⟨m,d,ad,l⟩ h ⟨_,_,rfl⟩ λf q c j n a v=>?_;exact K f q c j n a v
set_option tactic.hygienic true in theorem xN{C:Result->Shared->Prop}{Y:Yd}{s₀:Shared}{H₀:Addr->Obj->Prop}{s:Shared}{H:Addr->Obj->Prop}(z:c0 A env g t b n σ fl σ')(R:gP env g Y σ s.heap H)(l:Sb H₀ H)(hs:∃h e,s=(uS s₀ h e))(K:∀f h' e H',gP env g Y σ' h' H'->Sb H₀ H'->HT g h' H' f fl->C (.ok f) (uS s₀ h' e)):codeAny (model P0 w) A (.whileLoop t b [] env) C s:=by refine codeAny_whileLoop (Jy A env g t b Y s₀ H₀ fl σ') ?_ n ⟨σ,H,z,R,l,hs⟩;refine DN λG y=>?_;rintro n s⟨σ,H,z,⟨m,v,ad,R⟩,l,E,B,rfl⟩;cases z with
 |done p=>refine y _ _ ?_;refine p ⟨Y,m,v,ad⟩ _ H _ _ R λh' e H' j sub=>?_;exact wpAny_execs_nil (K .next h' e H' ⟨_,_,_,j⟩ (λa o q=>sub a o (l a o q)) trivial)|next p hb I J=>rename_i L M N O;refine y _ _ ?_;refine p ⟨Y,m,v,ad⟩ _ H _ _ R λh' e H' j sub=>?_;show wpAny _ _ _ _ _ _;refine hb Y (uS s₀ h' e) H' _ _ ⟨_,_,_,j⟩ λf x i r u c d=>?_;have fin:∃m,m<L+1/\Jy A env g t b Y s₀ H₀ fl σ' m (uS s₀ x i):=⟨_,Nat.lt_succ_self _,_,r,J,u,λa o q=>c a o (sub a o (l a o q)),_,_,rfl⟩;rcases I with rfl|rfl<;>cases f<;>first|exact d.elim|exact fin
 |ret p hb=>
  refine y _ _ ?_;refine p ⟨Y,m,v,ad⟩ _ H _ _ R λh' e H' j sub=>?_;show wpAny _ _ _ _ _ _;refine hb Y (uS s₀ h' e) H' _ _ ⟨_,_,_,j⟩ λf x i r u c d=>?_;cases f<;>first|exact d.elim|skip
  exact K _ x i r u (λa o q=>c a o (sub a o (l a o q))) d
theorem yY(h:c0 A env g t b n σ fl σ'):kx A env g (.While t b [] p) σ fl σ':=by intro Y s H Q E R K;exact wpAny_While (xN (s₀:=s) h R (λU U=>id) ⟨_,_,rfl⟩ λf h' d H' a sub c=>K f h' d H' a sub c)
theorem nv(O:cj env)(h:k6 env x):tV A env g (.Name x p) d σ (bO σ x (.v d)):=by intro Y s H v Q E R a K;exact PyProof.Rows.assign_Name (tu O h R a K)
theorem xj(O:cj env)(C:A.handled=none)(G:f8 J=some xs)(c:∀x∈xs,k6 env x)(d:ds.length=xs.length):tV A env g (.Tuple J k1 p1) (.tuple ds) σ (fJ σ xs (ds.map Slot.v)):=by intro Y s H v Q E R l K;obtain⟨m,L,ad,R⟩:=R;obtain⟨p,r,u⟩:=jt G c;obtain⟨T,vs,n,rfl,f,dl⟩:=l.inv;refine PyProof.Rows.assign_Tuple_tuple C (⟨_,(by have:=R.isH;rw[this]at f;exact f.1),rfl,n,rfl⟩:IsTup s.heap T vs.toArray) (by rw[u,<-d,AA,dl.length]) r λh B=>?_;have I:Hk s.heap h:=λa o e=>B a o (AY (AG e)) e;have q:=bD.grow (h':=h) R I;refine g9 (s:={s with heap:=h}) (zs:=[]) (is:=ds.map Slot.v) O p (by rw[List.toList_toArray,dl.length,d]) (by rw[qz];exact⟨_,_,_,q.1⟩) (by rw[List.toList_toArray];exact(dl.mono q.2).itemsOK) λy t i j b=>?_;exact K y t i j (λa o z=>b a o (q.2 a o z))
end
noncomputable def gR:List String:=["enumerate","zip","dict_itemiterator","dict_reverseitemiterator","odict_iterator","itertools.zip_longest","itertools.pairwise"]
section
variable{A:Around}{env:Env}{g:Gr}{σ σ' σ₁ σ₂:Sig}{k:Nat}
set_option backward.match.sparseCases true in theorem wM(f:s.heap.get? I=some o)(c:o.cls=.type n)(e:gR.contains n=false)(h:Q () s):wpAny (model P0 w) A (letOwnedTupleGo target (.ref I) v) Q E s:=by
 have b:wpAny (model P0 w) A (do
   let(.ref r,.ref a):=(Value.ref I,v)|return
   let o<-load r match o.cls,o.data with|.type n,.fields vs=>if gR.contains n&&vs[0]?==some (rawInt a)then rule "for.unpacks-the-owned-tuple"updateField r 0 .none|_,_=>pure ():Sem Unit) Q E s:=by
  cases v<;>first|exact AC h|skip
  refine A9 (wpAny_load f ?_);rw[c];generalize o.data=d;cases d<;>first|exact AC h|(dsimp only;rw[e,Bool.false_and,if_neg (by decide)];exact AC h)
 cases target<;>first|exact b|exact AC h
theorem i9{P:Nat->Value->Prop}{St:Nat->Heap->Prop}{F:Addr->Obj->Prop}{ds:List D}(W:Walks P0 w A I fp [I] n P St)(M:∀i h,St i h->∃o c,h.get? I=some o/\o.cls=.type c/\gR.contains c=false)(T:∀b∈fp,b=I\/∃o,F b o)(hP:∀i v d,ds[i]?=some d->P i v->cx F v d)(hn:n=ds.length)(j:Nat):
 ∀i x,i+j=n->(∀h,h.get? I=some x->(∀a o,F a o->h.get? a=some o)->St i h)->vV A env g target (.ref I) F (ds.drop i) (y1 I x):=by induction j with|zero=>
 intro i x U p;have e:ds.drop i=[]:=List.drop_eq_nil_of_le (by exact AL (U.trans hn).symm);rw[e];intro l s H σ Q E R u t K;have st:=p s.heap ((R.held I x (.inr ⟨rfl,rfl⟩)).1.at (u I (dI.mpr rfl)).2.2) λa o q=>RL.live R a o (t a o q);have V:i=n:=by assumption
 refine W.done s _ E (V▸st) λh' J G=>?_;have q:=bD.turn (Z':=y0) (h':=h') R (λa o e Y=>G a o (λm=>Y (dI.mpr (AF.mp m))) e) (λa z=>u a z) λa o z=>z.elim;rw[pB]at q;exact K h' J _ q.1 q.2|succ j ih=>
 intro i x U p;have B:i<ds.length:=by exact Nat.lt_of_lt_of_eq (Nat.lt_add_of_pos_right (Nat.succ_pos _)) (U.trans hn)
 rw[List.drop_eq_getElem_cons B];intro l s H σ Q E R u t K;have st:=p s.heap ((R.held I x (.inr ⟨rfl,rfl⟩)).1.at (u I (dI.mpr rfl)).2.2) λa o q=>RL.live R a o (t a o q);refine W.item i s _ E (by omega) st λv h' J N C G=>?_;obtain⟨r,c,f,hc,O⟩:=M _ _ C;have nI:∀a o,F a o->a≠I:=λa o q z=>by have:=t a o q;rw[R.isH]at this;exact this.2 (.inr (.inr (.inr (bX.mpr (.inr (dI.mpr z))))))
 refine K v _ λQ₁ aa y=>wM (s:=(uS s h' J)) f hc O ?_;have q:=bD.turn (Z':=y1 I r) (h':=h') R (λa o e Y=>G a o (λm=>Y (dI.mpr (AF.mp m))) e) (λa z=>u a z) (ve ⟨f,.inl (dI.mpr rfl)⟩);have L:∀a o,F a o->h'.get? a=some o:=λa o q=>G a o (λm=>nI a o q (AF.mp m)) (RL.live R a o (t a o q));refine y h' J _ (y1 I r) (ih (i+1) r (by omega) λh e1 e2=>?_) (λa z=>u a (dI.mpr (dI.mp z))) q.1 q.2 (cx.mono (λa o z=>q.2 a o (t a o z)) (hP i v _ (AN B) N));refine W.frame _ _ _ C λb hb o e=>?_;rcases T b hb with e0|⟨o',z⟩;·rw[e0]at e⊢;exact A0 (f.symm.trans e)▸e1
 ·exact A0 ((L b o' z).symm.trans e)▸e2 b _ z
theorem ig{P:Nat->Value->Prop}{St:Nat->Heap->Prop}{F:Addr->Obj->Prop}(W:Walks P0 w A I j [I] n P St)(b:∀h,h.get? I=some c->(∀a o,F a o->h.get? a=some o)->St i h):nt A g (.ref I) F (y1 I c):=by intro env l s H σ Q E R f d e;exact W.self i s Q E (b s.heap ((R.held I c (.inr ⟨rfl,rfl⟩)).1.at (f I (dI.mpr rfl)).2.2) λa o q=>RL.live R a o (d a o q)) e
theorem RL.iter{l:Lay}{s:Shared}{H:Addr->Obj->Prop}{o:Obj}(R:RL env g l σ s.heap H)(h:o.isFreed=false):∃H',RL env g (l.plus (y1 s.heap.objs.size o)) σ (s.heap.push o) H'/\(Sb H H')/\gz env g l.Y (y1 s.heap.objs.size o):=by have n:s.heap.get? s.heap.objs.size=none:=Heap.get?_none_of_le (AT _);have q:=bD.turn (Y:=l.Y) (Z:=y0) (Z':=y1 s.heap.objs.size o) (h':=s.heap.push o) (by rw[pB];exact R) (λa o e U=>A2 _ e) (λa z=>(ym z).elim) (by rintro b c⟨rfl,rfl⟩;exact⟨AH _ h,.inr n⟩);refine⟨_,q.1,q.2,λa z=>?_⟩;have:=dI.mp z;subst this;exact bD.fresh R n
theorem s4(r:A.handled=none)(N:d.items=some ds):KO A env g target d ds:=by
 intro l s H σ v Q E R L K;obtain⟨a,vs,n,rfl,dl,j⟩:=ge N L;have C:a<s.heap.objs.size:=by rcases j with z|z<;>exact AG (RL.live R _ _ z)
 have m:a≠s.heap.objs.size:=AY C;have I:∀i v d,ds[i]?=some d->vs.toArray[i]?=some v->cx H v d:=λi v d M G=>by obtain⟨u,O,J⟩:=dl.get M;rw[List.getElem?_toArray,O]at G;obtain rfl:=A0 G;exact J
 rcases j with j|j
 · have B:s.heap.IsList a vs.toArray:=⟨_,RL.live R _ _ j,rfl,n,rfl⟩;refine wpAny_pyIter_list B ?_;obtain⟨H',t,sub,p⟩:=RL.iter (o:={cls:=.type "list_iterator",data:=.fields #[.ref a,.int 0 0]}) R rfl;have f:∀h:Heap,h.get? s.heap.objs.size=some {cls:=.type "list_iterator",data:=.fields #[.ref a,.int 0 0]}->(∀a o,H a o->h.get? a=some o)->h.IsListIter s.heap.objs.size a 0/\h.IsList a vs.toArray:=λh x y=>⟨⟨_,x,rfl,rfl⟩,⟨_,y _ _ j,rfl,n,rfl⟩⟩;refine K _ _ s.toks H' _ H (λU U=>id) sub (λq=>i9 (Walks.list r s.heap.objs.size a m vs.toArray) (λi h st=>?_) (λb hb=>?_) I (by rw[AA,dl.length]) ds.length 0 _ (by rw[AA,dl.length];exact Nat.zero_add _) f) (ig (Walks.list r s.heap.objs.size a m vs.toArray) f) p t;·obtain⟨o,e,c,U⟩:=st.1;exact⟨o,_,e,c,by decide⟩
   · rcases A6.mp hb with rfl|hb;·exact .inl rfl
     ·rw[AF.mp hb];exact .inr ⟨_,j⟩
 · have B:s.heap.IsTuple a vs.toArray:=⟨_,RL.live R _ _ j,rfl,n,rfl⟩;refine wpAny_pyIter_tuple B ?_;obtain⟨H',t,sub,p⟩:=RL.iter (o:={cls:=.type "tuple_iterator",data:=.fields #[.ref a,.int 0 0]}) R rfl;have f:∀h:Heap,h.get? s.heap.objs.size=some {cls:=.type "tuple_iterator",data:=.fields #[.ref a,.int 0 0]}->(∀a o,H a o->h.get? a=some o)->h.IsTupleIter s.heap.objs.size a 0/\h.IsTuple a vs.toArray:=λh x y=>⟨⟨_,x,rfl,rfl⟩,⟨_,y _ _ j,rfl,n,rfl⟩⟩;refine K _ _ s.toks H' _ H (λU U=>id) sub (λq=>i9 (Walks.tuple r s.heap.objs.size a m vs.toArray) (λi h st=>?_) (λb hb=>?_) I (by rw[AA,dl.length]) ds.length 0 _ (by rw[AA,dl.length];exact Nat.zero_add _) f) (ig (Walks.tuple r s.heap.objs.size a m vs.toArray) f) p t;·obtain⟨o,e,c,U⟩:=st.1;exact⟨o,_,e,c,by decide⟩
   · rcases A6.mp hb with rfl|hb;·exact .inl rfl
     ·rw[AF.mp hb];exact .inr ⟨_,j⟩
end
abbrev Bc(A:Around)(f:Value)(ds:List D)(d:D):Prop:=MB A (λvs=>call f vs) ds d
section
variable{A:Around}
theorem gA(h:bM H vs [d]):∃v,vs=[v]/\cx H v d:=by obtain⟨U,U,rfl,a,r⟩:=h.inv;obtain rfl:=r.inv;exact⟨_,rfl,a⟩
theorem uH(h:bM H vs [d,e]):∃u v,vs=[u,v]/\cx H u d/\cx H v e:=by obtain⟨U,U,rfl,a,r⟩:=h.inv;obtain⟨v,rfl,b⟩:=gA r;exact⟨_,_,rfl,a,b⟩
theorem uP(i:d.items=some ds)(f:ds.length<=16777216):Bc A (.builtin "len") [d] (ku b ds.length):=by
 intro s j u Q E lo c K;obtain⟨v,rfl,g⟩:=gA c;obtain⟨a,vs,n,rfl,dl,h⟩:=ge i g;have e:(vs.toArray.size:Int)=ds.length:=by rw[AA,dl.length]
 rcases h with h|h;·refine call_len_list (⟨_,h.1,rfl,n,rfl⟩:s.heap.IsList a vs.toArray) (by rw[e];exact AQ (Ab.2 f) (by decide)) ?_;rw[e];exact K _ s.heap _ (λU U=>id) di
 ·refine len_tuple (⟨_,h.1,rfl,n,rfl⟩:IsTup s.heap a vs.toArray) (by rw[e];exact AQ (Ab.2 f) (by decide)) ?_;rw[e];exact K _ s.heap _ (λU U=>id) di
theorem Dm(h:Nat.ble x.length 16777216=true):Bc A (.builtin "len") [.str x] (ku b x.length):=by intro s c u Q E lo d K;obtain⟨v,rfl,a⟩:=gA d;(first|obtain rfl:=a.inv|obtain⟨_,rfl⟩:=a.inv);have:=Nat.le_of_ble_eq_true h;exact len_str (by exact Int.not_le.2 (AQ (Ab.2 this) (by decide))) (K _ s.heap _ (λU U=>id) di)
theorem DV(h:x.size<=16777216):Bc A (.builtin "len") [.bytes x] (ku b x.size):=by intro s c u Q E lo d K;obtain⟨v,rfl,a⟩:=gA d;(first|obtain rfl:=a.inv|obtain⟨_,rfl⟩:=a.inv);exact call_len_gives (typeIs_bytes _ _ _) FB.slot_bytes_len FB.entry_bytes_len (FB.args_bytes_len_1 _) (gives_bytes_len _ _) (by exact Int.not_lt.2 (AP _)) (by exact Int.not_le.2 (AQ (Ab.2 h) (by decide))) (K _ s.heap _ (λU U=>id) di)
theorem Ih(i:A.handled=none)(j:x.isI=some (a,m))(k:y.isI=some (b,n)):Bc A (.builtin "max") [x,y] (ku sc (if b>a then b else a)):=by
 intro s l p Q E lo d K;obtain⟨u,v,rfl,f,g⟩:=uH d;obtain⟨t,rfl⟩:=ct j f;obtain⟨o,rfl⟩:=ct k g;refine max_two_ints i λh' e h=>?_;by_cases c:b>a;·rw[if_pos c]at K⊢;exact K _ h' e h di
 ·rw[if_neg c]at K⊢;exact K _ h' e h di
theorem GB(i:A.handled=none)(j:x.isI=some (a,m))(k:y.isI=some (b,n)):Bc A (.builtin "min") [x,y] (ku sc (if b<a then b else a)):=by
 intro s l p Q E lo d K;obtain⟨u,v,rfl,f,g⟩:=uH d;obtain⟨t,rfl⟩:=ct j f;obtain⟨o,rfl⟩:=ct k g;refine min_two_ints i λh' e h=>?_;by_cases c:b<a;·rw[if_pos c]at K⊢;exact K _ h' e h di
 ·rw[if_neg c]at K⊢;exact K _ h' e h di
theorem Il(h:x.isI=some (a,e)):Bc A (.type "int") [x] (ku f a):=by intro s c u Q E lo d K;obtain⟨v,rfl,b⟩:=gA d;obtain⟨t,rfl⟩:=ct h b;exact call_int_int (K _ s.heap s.toks (λU U=>id) di)
theorem EJ(j:d.items=some ds)(l:ds.length<=16777216):Bc A (.type "list") [d] (.slist ds):=by
 intro s m u Q E lo e K;obtain⟨v,rfl,i⟩:=gA e;obtain⟨a,vs,n,rfl,dl,h⟩:=ge j i;have z:vs.toArray.size<=sizeLine:=by rw[AA,dl.length,sizeLine_eq];exact l
 have fin:∀(h':Heap)c,(∀b g,s.heap.get? b=some g->h'.get? b=some g)->h'.get? s.heap.objs.size=some {cls:=.type "list",dict:=none,data:=.seq vs.toArray c,slots:=#[]}->Q (.ref s.heap.objs.size) {s with heap:=h'}:=λh' c f k=>K _ h' s.toks f (.slist (n:=c) ⟨k,λz=>by obtain⟨o,q⟩:=lo _ z;exact AU _ (AG q)⟩ (dl.mono λa o q=>⟨f a o q.1,q.2⟩));rcases h with h|h;·exact call_list_seq a (.inl rfl) h.1 rfl rfl fin z
 ·exact call_list_seq a (.inr rfl) h.1 rfl rfl fin z
theorem zb(j:d.items=some ds)(k:ds.length<=16777216):Bc A (.type "tuple") [d] (.tuple ds):=by
 intro s l u Q E lo f K;obtain⟨v,rfl,i⟩:=gA f;obtain⟨a,vs,n,rfl,dl,h⟩:=ge j i;have z:vs.toArray.size<=sizeLine:=by rw[AA,dl.length,sizeLine_eq];exact k
 rcases h with h|h;·refine call_tuple_list (⟨_,h.1,rfl,n,rfl⟩:s.heap.IsList a vs.toArray) (λh' g=>?_) z;have c:Hk s.heap (h'.push {cls:=.type "tuple",data:=.seq vs.toArray}):=λb o e=>A2 _ (g b o e);refine K _ _ s.toks c (.tuple ⟨AH _ rfl,λz=>?_⟩ (dl.mono λa o q=>⟨c a o q.1,q.2⟩));obtain⟨o,q⟩:=lo _ z;exact AU _ (AG (g _ _ q))
 ·exact call_tuple_same (⟨_,h.1,rfl,n,rfl⟩:s.heap.IsTuple a vs.toArray) (K _ s.heap s.toks (λU U=>id) (.tuple h dl))
noncomputable def D.ints:List D->Option (List Int)|[]=>some []|d::r=>match d.isI,D.ints r with|some (i,_),some is=>some (i::is)|_,_=>Option.none
theorem g3(c:bM H vs ds)(h:D.ints ds=some ns):IntsAre vs ns:=by induction ds generalizing vs ns with|nil=>obtain rfl:=c.inv;obtain rfl:=A0 h;exact .nil|cons d ds i=>obtain⟨v,u,rfl,e,r⟩:=c.inv;unfold D.ints at h;cases a:d.isI with|none=>rw[a]at h;exact ca h|some q=>cases b:D.ints ds with|none=>rw[a,b]at h;exact ca h|some j=>rw[a,b]at h;obtain rfl:=A0 h;obtain⟨t,rfl⟩:=ct a e;exact .cons _ _ (i r b)
theorem tc(e:A.handled=none)(h:d=.list ds\/d=.slist ds)(j:D.ints ds=some ns)(m:∀n∈ns,0<=n/\n<256)(o:ds.length<=16777216):Bc A (.type "bytes") [d] (.bytes (ns.map λn=>n.toNat.toUInt8).toArray):=by
 intro s b u Q E lo a K;obtain⟨v,rfl,c⟩:=gA a;obtain⟨l,vs,n,rfl,dl,i⟩:∃l vs n,v=.ref l/\bM (Fz s.heap b) vs ds/\Fz s.heap b l (bA vs n):=by rcases h with rfl|rfl<;>(obtain⟨_,_,_,rfl,g,dl⟩:=c.inv;exact⟨_,_,_,rfl,dl,g⟩)
 exact call_bytes_ints (⟨_,i.1,rfl,n,rfl⟩:s.heap.IsList l vs.toArray) (g3 dl j) m (by rw[dl.length,sizeLine_eq];exact o) e λh' t k f=>K _ h' k f (.bytes _ _)
end
section
open PySem.SeqAt
inductive SK where|i(n:Int)|s(x:PySem.Str)|b(c:Bool)|n
noncomputable def D.sk(d:D):Option SK:=l0 (d.isI.map λp=>SK.i p.1) (l0 (d.str?.map SK.s) (l0 (d.bool?.map SK.b) (if d.isNone=true then some .n else Option.none)))
noncomputable def K4:SK->SK->Option Bool
 |.i n,l=>match l with|.i m=>some (n==m)|.b _=>none|_=>some false
 |.s x,l=>match l with|.s y=>some (x==y)|.b _=>none|_=>some false
 |.n,l=>match l with|.n=>some true|.b _=>none|_=>some false
 |.b c,l=>match l with|.b e=>some (c==e)|_=>none
def Lr(v:Value):SK->Prop|.i n=>∃t,v=.int n t|.s x=>∃t,v=.str x t|.b c=>v=.bool c|.n=>v=.none
theorem rr(h:d.sk=some k)(a:cx H v d):Lr v k:=by
 rcases cU h with h|h;·obtain⟨p,f,rfl⟩:=wn h;exact ct (i:=p.1) (b:=p.2) f a
 rcases cU h with h|h;·obtain⟨x,c,rfl⟩:=wn h;exact(D.str?_eq c▸a).inv
 rcases cU h with h|h;·obtain⟨x,c,rfl⟩:=wn h;exact(D.bool?_eq c▸a).inv
 ·obtain⟨e,h⟩:=lR h;obtain rfl:=A0 h;exact(D.isNone_eq e▸a).inv
noncomputable def qB(d e:D):Option Bool:=d.sk.bind λk=>e.sk.bind λl=>K4 k l
noncomputable def D.seqK:D->Option (Bool×List D)|.tuple ds=>some (true,ds)|.list ds=>some (false,ds)|.slist ds=>some (false,ds)|_=>Option.none
noncomputable def pq(f:D->D->Option Bool):List D->List D->Option Bool|[],ys=>some ys.isEmpty|x::xs,ys=>match ys with|[]=>some false|y::ys=>(f x y).bind λa=>(pq f xs ys).map λc=>a&&c
noncomputable def l7:Nat->D->D->Option Bool|0,d,e=>qB d e|n+1,d,e=>match d.seqK,e.seqK with|some p,some q=>if p.1=q.1 then pq (l7 n) p.2 q.2 else none|some _,none=>if e.isNone=true then some false else none|none,some _=>if d.isNone=true then some false else none|none,none=>qB d e
section
theorem i7:∀{ys:List D}{b:Bool},pq f xs ys=some b->xs.length≠ys.length->b=false:=by induction xs with
 |nil=>intro ys b h n;cases ys with|nil=>exact absurd rfl n|cons=>exact(A0 h).symm
 |cons x xs i=>intro ys b h n;cases ys with|nil=>exact(A0 h).symm|cons y ys=>obtain⟨a,U,h⟩:=ew h;obtain⟨c,d,rfl⟩:=wn h;rw[i d λz=>n (congrArg (·+1) z),Bool.and_false]
theorem nw:∀{ys:List D}{b:Bool},pq f xs ys=some b->∀(j:Nat)(x y:D),xs[j]?=some x->ys[j]?=some y->∃c,f x y=some c/\(b=true->c=true):=by induction xs with|nil=>intro ys b h j x y d;exact nomatch d|cons x xs n=>intro ys b h j o p d e;cases ys with|nil=>exact nomatch e|cons y ys=>obtain⟨a,l,h⟩:=ew h;obtain⟨c,m,rfl⟩:=wn h;cases j with|zero=>obtain rfl:=A0 d;obtain rfl:=A0 e;exact⟨a,l,λz=>(Bool.and_eq_true_iff.mp z).1⟩|succ j=>obtain⟨g,i,k⟩:=n m j o p d e;exact⟨g,i,λz=>k (Bool.and_eq_true_iff.mp z).2⟩
theorem wq:∀{ys:List D}{b:Bool},pq f xs ys=some b->xs.length=ys.length->(∀(j:Nat)(x y:D),xs[j]?=some x->ys[j]?=some y->f x y=some true)->b=true:=by induction xs with
 |nil=>intro ys b h n _;cases ys with|nil=>exact(A0 h).symm|cons=>exact nomatch n
 |cons x xs l=>intro ys b h n d;cases ys with|nil=>exact nomatch n|cons y ys=>obtain⟨a,i,h⟩:=ew h;obtain⟨c,k,rfl⟩:=wn h;obtain rfl:a=true:=A0 (i.symm.trans (d 0 x y rfl rfl));rw[Bool.true_and];exact l k (Nat.succ.inj n) λj m o e g=>d (j+1) m o e g
noncomputable def B5(f:D->D->Option Bool)(xs ys:List D)(j:Nat):Bool:=match xs[j]?,ys[j]? with|some x,some y=>(f x y).getD false|_,_=>false
theorem jf(h:pq f xs ys=some b)(g:xs.length=ys.length):(List.range xs.length).all (B5 f xs ys)=b:=by cases hb:b with|true=>subst hb;rw[List.all_eq_true];intro j a;have a:=List.mem_range.mp a;obtain⟨c,e,k⟩:=nw h j _ _ (AN a) (AN (g▸a));unfold B5;rw[AN a,AN (g▸a)];dsimp only;rw[e,k rfl];rfl|false=>cases l:(List.range xs.length).all (B5 f xs ys)with|false=>rfl|true=>
 exfalso;have:b=true:=wq h g λj x y d i=>by
  have a:j<xs.length:=by rw[List.getElem?_eq_some_iff]at d;exact d.1
  have:=List.all_eq_true.mp l j (List.mem_range.mpr a);unfold B5 at this;rw[d,i]at this;dsimp only at this;obtain⟨c,e,U⟩:=nw h j x y d i;rw[e]at this⊢;exact congrArg some this
 rw[hb]at this;exact Bool.noConfusion this
theorem eX(e:d.seqK=some (k,ds))(h:cx H v d):∃a vs n,v=.ref a/\bM H vs ds/\H a (match k with|true=>dQ vs n|false=>bA vs n):=by
 cases d<;>first|exact ca e|skip
 all_goals obtain rfl:=(congrArg Prod.fst (A0 e));obtain rfl:=(congrArg Prod.snd (A0 e));obtain⟨U,U,U,rfl,g,dl⟩:=h.inv;exact⟨_,_,_,rfl,dl,g⟩
theorem rl(h:qB d e=some b)(f:cx H u d)(a:cx H v e):EqAt A s u v b/\(u=v->b=true):=by obtain⟨k,g,h⟩:=ew h;obtain⟨l,j,h⟩:=ew h;have f:=rr g f;have a:=rr j a;cases k with
 |i n=>obtain⟨t,rfl⟩:=f;cases l with|i m=>obtain⟨U,rfl⟩:=a;obtain rfl:=A0 h;exact⟨EqAt.int_int _ _ _ _,λz=>Ac.mpr (Value.int.inj z).1⟩|s y=>obtain⟨U,rfl⟩:=a;obtain rfl:=A0 h;exact⟨EqAt.int_str _ _ _ _,λz=>Value.noConfusion z⟩|n=>obtain rfl:=a;obtain rfl:=A0 h;exact⟨EqAt.int_none _ _,λz=>Value.noConfusion z⟩|b=>exact ca h
 |s x=>obtain⟨t,rfl⟩:=f;cases l with|i m=>obtain⟨U,rfl⟩:=a;obtain rfl:=A0 h;exact⟨EqAt.str_int _ _ _ _,λz=>Value.noConfusion z⟩|s y=>obtain⟨U,rfl⟩:=a;obtain rfl:=A0 h;exact⟨EqAt.str_str _ _ _ _,λz=>Ac.mpr (Value.str.inj z).1⟩|n=>obtain rfl:=a;obtain rfl:=A0 h;exact⟨EqAt.str_none _ _,λz=>Value.noConfusion z⟩|b=>exact ca h
 |n=>obtain rfl:=f;cases l with|i m=>obtain⟨U,rfl⟩:=a;obtain rfl:=A0 h;exact⟨EqAt.none_int _ _,λz=>Value.noConfusion z⟩|s y=>obtain⟨U,rfl⟩:=a;obtain rfl:=A0 h;exact⟨EqAt.none_str _ _,λz=>Value.noConfusion z⟩|n=>obtain rfl:=a;obtain rfl:=A0 h;exact⟨EqAt.same _,λU=>rfl⟩|b=>exact ca h
 |b c=>obtain rfl:=f;cases l with|b e=>obtain rfl:=a;obtain rfl:=A0 h;exact⟨EqAt.bool_bool _ _,λz=>Ac.mpr (Value.bool.inj z)⟩|_=>exact ca h
theorem bM.at{H:Addr->Obj->Prop}{vs:List Value}{ds:List D}(h:bM H vs ds){j:Nat}{v:Value}(c:vs[j]?=some v):∃d,ds[j]?=some d/\cx H v d:=by
 have a:j<ds.length:=by rw[<-h.length];exact(List.getElem?_eq_some_iff.mp c).1
 obtain⟨u,b,e⟩:=h.get (AN a);rw[c]at b;obtain rfl:=A0 b;exact⟨_,AN a,e⟩
theorem yJ(n:Nat):∀{A:Around}{s:Shared}{I:Addr->Prop}{u v:Value}{d e:D}{b:Bool},l7 n d e=some b->cx (Fz s.heap I) u d->cx (Fz s.heap I) v e->A.units+n<cLine->EqAt A s u v b/\(u=v->b=true):=by induction n with|zero=>exactλh N L U=>rl h N L|succ n ih=>
   intro A s I u v d e b h N L E;have same:∀{xs ys:List D}{vs l:List Value},bM (Fz s.heap I) vs xs->bM (Fz s.heap I) l ys->pq (l7 n) xs ys=some b->vs=l->b=true:=by intro xs ys vs l t m Y e;subst e;refine wq Y (by rw[<-t.length,m.length]) λj x y Q T=>?_;obtain⟨a,o,da⟩:=t.get Q;obtain⟨M,g,aa⟩:=m.get T;rw[o]at g;obtain rfl:=A0 g;obtain⟨c,O,U⟩:=nw Y j x y Q T;rw[O,(ih (A:=A) O da aa (by exact AR (AV _) E)).2 rfl]
   have H:∀{xs ys:List D}{vs l:List Value},bM (Fz s.heap I) vs xs->bM (Fz s.heap I) l ys->pq (l7 n) xs ys=some b->∀j(t:j<vs.toArray.size)(m:j<l.toArray.size),EqAt A.in1 s vs.toArray[j] l.toArray[j] (B5 (l7 n) xs ys j):=by
     intro xs ys vs l t m Y j j1 j2;have j1:j<vs.length:=by simpa using j1
     have j2:j<l.length:=by simpa using j2
     refine cI λG hG=>?_;obtain⟨x,Q,dx⟩:=t.at (AN j1);obtain⟨y,T,dy⟩:=m.at (AN j2);obtain⟨c,O,U⟩:=nw Y j x y Q T;refine hG ?_;have:=(ih (A:=A.in1) O dx dy (by show A.units+1+n<cLine;exact AR (AL (Nat.succ_add_eq_add_succ _ _)) E)).1;unfold B5;rw[Q,T];dsimp only;rw[O];simpa using this
   unfold l7 at h;cases t:d.seqK with
   |some p=>obtain⟨k,xs⟩:=p;obtain⟨a,vs,J,rfl,dl,o⟩:=eX t N;rw[t]at h;cases m:e.seqK with
     |some q=>
       obtain⟨k',ys⟩:=q;rw[m]at h;obtain⟨rfl,h⟩:=lR h;have h:pq (l7 n) xs ys=some b:=h;obtain⟨M,l,V,rfl,f,g⟩:=eX m L
       cases k with|true=>
         have ht:s.heap.IsTuple a vs.toArray:=⟨_,o.1,rfl,J,rfl⟩;have C:s.heap.IsTuple M l.toArray:=⟨_,g.1,rfl,V,rfl⟩;by_cases i:a=M
         · subst i;have e:=o.1.symm.trans g.1;have e2:vs=l:=by injection e with e;injection e with _ _ e;injection e with e _;simpa using e
           rw[same dl f h e2];exact⟨EqAt.same _,λU=>rfl⟩
         · refine⟨EqAt.of_refs i ?_,λz=>by obtain rfl:=PySem.Value.ref.inj z;exact absurd rfl i⟩;have r:=RcAt.tuples (e:=B5 (l7 n) xs ys) ht C (A:=A) (s:=s) (by exact AR (A7 _ _) E) (H dl f h);simp only[AA,dl.length,f.length]at r;by_cases B:xs.length=ys.length;·rw[<-B,Nat.min_self,jf h B]at r;simpa using r
           · rw[i7 h B];have:(xs.length==ys.length)=false:=by simpa using B
             rw[this,Bool.and_false]at r;exact r|false=>
         have ht:s.heap.IsList a vs.toArray:=⟨_,o.1,rfl,J,rfl⟩;have C:s.heap.IsList M l.toArray:=⟨_,g.1,rfl,V,rfl⟩;by_cases i:a=M
         · subst i;have e:=o.1.symm.trans g.1;have e2:vs=l:=by injection e with e;injection e with _ _ e;injection e with e _;simpa using e
           rw[same dl f h e2];exact⟨EqAt.same _,λU=>rfl⟩
         · refine⟨EqAt.of_refs i ?_,λz=>by obtain rfl:=PySem.Value.ref.inj z;exact absurd rfl i⟩;by_cases B:xs.length=ys.length;·have r:=RcAt.lists (e:=B5 (l7 n) xs ys) ht C (by simp only[AA,dl.length,f.length];exact B) (A:=A) (s:=s) (by exact AR (A7 _ _) E) (H dl f h);simp only[AA,dl.length]at r;rw[jf h B]at r;exact r
           ·rw[i7 h B];exact RcAt.lists_lengths ht C (by simp only[AA,dl.length,f.length];simpa using B) (by exact AR (A7 _ _) E)
     |none=>rw[m]at h;obtain⟨e,h⟩:=lR h;obtain rfl:=A0 h;obtain rfl:=(D.isNone_eq e▸L).inv;refine⟨?_,λz=>Value.noConfusion z⟩;cases k with|true=>exact EqAt.tuple_none (⟨_,o.1,rfl,J,rfl⟩:s.heap.IsTuple a vs.toArray) (by exact AR (A7 _ _) E)|false=>exact EqAt.list_none (⟨_,o.1,rfl,J,rfl⟩:s.heap.IsList a vs.toArray) (by exact AR (A7 _ _) E)
   |none=>rw[t]at h;cases m:e.seqK with
     |some q=>obtain⟨k,ys⟩:=q;obtain⟨a,vs,J,rfl,dl,o⟩:=eX m L;rw[m]at h;obtain⟨e,h⟩:=lR h;obtain rfl:=A0 h;obtain rfl:=(D.isNone_eq e▸N).inv;refine⟨?_,λz=>Value.noConfusion z⟩;cases k with|true=>exact EqAt.none_tuple (⟨_,o.1,rfl,J,rfl⟩:s.heap.IsTuple a vs.toArray) (by exact AR (A7 _ _) E)|false=>exact EqAt.none_list (⟨_,o.1,rfl,J,rfl⟩:s.heap.IsList a vs.toArray) (by exact AR (A7 _ _) E)
     |none=>rw[m]at h;exact rl h N L
end
end
section
open PySem.SeqAt
section
variable{A:Around}
theorem qd(p:A.units+1+n<cLine)(h:bM (Fz s.heap E) vs xs)(f:bM (Fz s.heap E) u ys)(m:pq (l7 n) xs ys=some b):∀j(h:j<vs.toArray.size)(f:j<u.toArray.size),EqAt A.in1 s vs.toArray[j] u.toArray[j] (B5 (l7 n) xs ys j):=by
 intro j a d;have a:j<vs.length:=by simpa using a
 have d:j<u.length:=by simpa using d
 refine cI λG o=>?_;obtain⟨x,g,k⟩:=h.at (AN a);obtain⟨y,i,l⟩:=f.at (AN d);obtain⟨c,e,U⟩:=nw m j x y g i;refine o ?_;have:=(yJ n (A:=A.in1) e k l (by show A.units+1+n<cLine;assumption)).1;unfold B5;rw[g,i];dsimp only;rw[e];simpa using this
theorem Ao(j:A.units+8<cLine)(y:a.seqK=some (k,xs))(z:c.seqK=some (k,ys))(h:pq (l7 5) xs ys=some b):et A (compareOp .Eq) a c (.bool b):=by
 intro s B u v Q E lo t x K;obtain⟨l,vs,n,rfl,dl,m⟩:=eX y t;obtain⟨p,r,q,rfl,e,g⟩:=eX z x;have fin:Q (.bool b) s:=K _ s.heap s.toks (λU U=>id) (.bool b)
 have o:=qd (A:=A) (s:=s) (n:=5) (by exact AR (A7 _ 2) j) dl e h;cases k with|false=>
   have i:s.heap.IsList l vs.toArray:=⟨_,m.1,rfl,n,rfl⟩;have f:s.heap.IsList p r.toArray:=⟨_,g.1,rfl,q,rfl⟩;by_cases d:xs.length=ys.length;·refine eq_listAt i f (by simp only[AA,dl.length,e.length];exact d) (by exact AR (A7 _ 8) j) o ?_;rw[AA,dl.length,jf h d];exact fin
   ·rw[i7 h d]at fin;exact eq_list_lengthsAt i f (by simp only[AA,dl.length,e.length];simpa using d) (by exact AR (A7 _ 8) j) fin|true=>
   have i:s.heap.IsTuple l vs.toArray:=⟨_,m.1,rfl,n,rfl⟩;have f:s.heap.IsTuple p r.toArray:=⟨_,g.1,rfl,q,rfl⟩;refine eq_tupleAt i f (by exact AR (A7 _ 8) j) o ?_;simp only[AA,dl.length,e.length];by_cases d:xs.length=ys.length;·rw[<-d,Nat.min_self,jf h d];simpa using fin
   · have:(xs.length==ys.length)=false:=by simpa using d
     rw[this,Bool.and_false];rw[i7 h d]at fin;exact fin
theorem oG(j:A.units+8<cLine)(y:a.seqK=some (k,xs))(z:c.seqK=some (k,ys))(h:pq (l7 5) xs ys=some b):et A (compareOp .NotEq) a c (.bool (!b)):=by
 intro s B u v Q E lo t x K;obtain⟨l,vs,n,rfl,dl,m⟩:=eX y t;obtain⟨p,r,q,rfl,e,g⟩:=eX z x;have fin:Q (.bool (!b)) s:=K _ s.heap s.toks (λU U=>id) (.bool _)
 have o:=qd (A:=A) (s:=s) (n:=5) (by exact AR (A7 _ 2) j) dl e h;cases k with|false=>
   have i:s.heap.IsList l vs.toArray:=⟨_,m.1,rfl,n,rfl⟩;have f:s.heap.IsList p r.toArray:=⟨_,g.1,rfl,q,rfl⟩;by_cases d:xs.length=ys.length;·refine RcNeAt.lists i f (by simp only[AA,dl.length,e.length];exact d) (by exact AR (A7 _ 8) j) o P0 w E Q ?_;rw[AA,dl.length,jf h d];exact fin
   ·rw[i7 h d]at fin;exact RcNeAt.lists_lengths i f (by simp only[AA,dl.length,e.length];simpa using d) (by exact AR (A7 _ 8) j) P0 w E Q fin|true=>
   have i:s.heap.IsTuple l vs.toArray:=⟨_,m.1,rfl,n,rfl⟩;have f:s.heap.IsTuple p r.toArray:=⟨_,g.1,rfl,q,rfl⟩;refine RcNeAt.tuples i f (by exact AR (A7 _ 8) j) o P0 w E Q ?_;simp only[AA,dl.length,e.length];by_cases d:xs.length=ys.length;·rw[<-d,Nat.min_self,jf h d];simpa using fin
   · have:(xs.length==ys.length)=false:=by simpa using d
     rw[this,Bool.and_false];rw[i7 h d]at fin;exact fin
theorem FX:et A (compareOp .Eq) (.bytes x) (.bytes y) (.bool (x.toList==y.toList)):=by intro s b u v Q E lo d a K;obtain⟨U,rfl⟩:=d.inv;obtain⟨_,rfl⟩:=a.inv;exact eq_bytes (K _ s.heap s.toks (λU U=>id) (.bool _))
noncomputable def LM(a b:D):Option Bool:=match a.isNone,b.isNone with|true,true=>some false|false,true=>a.isI.map λU=>true|true,false=>b.isI.map λU=>true|false,false=>none
theorem Hv(h:LM a b=some c):et A (compareOp .NotEq) a b (.bool c):=by
 intro s g u v Q E lo d f K;have fin:Q (.bool c) s:=K _ s.heap s.toks (λU U=>id) (.bool c);unfold LM at h;cases p:a.isNone<;>cases q:b.isNone<;>rw[p,q]at h;·exact ca h
 ·obtain⟨i,e,rfl⟩:=wn h;obtain rfl:=D.isNone_eq q;obtain rfl:=f.inv;obtain⟨t,rfl⟩:=ct (i:=i.1) (b:=i.2) e d;exact EqNone.ne_int_none fin
 ·obtain⟨i,e,rfl⟩:=wn h;obtain rfl:=D.isNone_eq p;obtain rfl:=d.inv;obtain⟨t,rfl⟩:=ct (i:=i.1) (b:=i.2) e f;exact EqNone.ne_none_int fin
 ·obtain rfl:=A0 h;obtain rfl:=D.isNone_eq p;obtain rfl:=D.isNone_eq q;obtain rfl:=d.inv;obtain rfl:=f.inv;exact EqNone.ne_none_none fin
noncomputable def Iv(v x:Value):Bool:=match v,x with|.int a _,.int b _=>a==b|.str a _,.str b _=>a==b|.bool a,.bool b=>a==b|.none,.none=>true|_,_=>false
theorem BV(h:qB d e=some b)(f:cx H u d)(a:cx H v e):Iv u v=b:=by obtain⟨k,g,h⟩:=ew h;obtain⟨l,j,h⟩:=ew h;have f:=rr g f;have a:=rr j a;cases k with
 |i n=>obtain⟨t,rfl⟩:=f;cases l<;>first|exact ca h|(obtain⟨_,rfl⟩:=a;exact A0 h)|(obtain rfl:=a;exact A0 h)
 |s n=>obtain⟨t,rfl⟩:=f;cases l<;>first|exact ca h|(obtain⟨_,rfl⟩:=a;exact A0 h)|(obtain rfl:=a;exact A0 h)
 |n=>obtain rfl:=f;cases l<;>first|exact ca h|(obtain⟨_,rfl⟩:=a;exact A0 h)|(obtain rfl:=a;exact A0 h)
 |b c=>obtain rfl:=f;cases l<;>first|exact ca h|(obtain rfl:=a;exact A0 h)
noncomputable def B7(e:D):List D->Option Bool|[]=>some false|d::r=>(qB d e).bind λa=>(B7 e r).map λb=>a||b
theorem Co(j:cx H x e):∀{vs:List Value}{b:Bool},bM H vs ds->B7 e ds=some b->vs.any (λy=>Iv y x)=b/\∀y∈vs,∃d c,cx H y d/\qB d e=some c:=by induction ds with|nil=>intro vs b f h;obtain rfl:=f.inv;obtain rfl:=A0 h;exact⟨rfl,λy n=>absurd n A3⟩|cons d ds o=>intro vs b f h;obtain⟨v,u,rfl,i,r⟩:=f.inv;obtain⟨a,g,h⟩:=ew h;obtain⟨c,m,rfl⟩:=wn h;obtain⟨k,l⟩:=o r m;refine⟨by rw[List.any_cons,k,BV g i j],List.forall_mem_cons.mpr ⟨⟨_,_,i,g⟩,l⟩⟩
theorem qt(r:c.items=some ds)(h:B7 e ds=some b):et A (compareOp .In) e c (.bool b)/\et A (compareOp .NotIn) e c (.bool (!b)):=by
 have go:∀(s:Shared)(f:Addr->Prop)(u v:Value),cx (Fz s.heap f) u e->cx (Fz s.heap f) v c->∃(l:Addr)(vs:List Value),v=.ref l/\(s.heap.IsList l vs.toArray\/s.heap.IsTuple l vs.toArray)/\(∀y,y∈vs.toArray->EqAt A.in1 s y u (Iv y u))/\vs.toArray.any (λy=>Iv y u)=b:=by intro s f u v g i;obtain⟨l,vs,n,rfl,dl,a⟩:=ge r i;obtain⟨p,q⟩:=Co g dl h;refine⟨l,vs,rfl,a.imp (λz=>⟨_,z.1,rfl,n,rfl⟩) λz=>⟨_,z.1,rfl,n,rfl⟩,λy t=>?_,by rw[<-Array.any_toList,List.toList_toArray];exact p⟩;obtain⟨d,x,m,o⟩:=q y (by simpa using t);rw[BV o m g];exact(rl o m g).1
 constructor
 · intro s f u v Q E lo g i K;obtain⟨l,vs,rfl,a,j,k⟩:=go s f u v g i;have fin:Q (.bool (vs.toArray.any λy=>Iv y u)) s:=by rw[k];exact K _ s.heap s.toks (λU U=>id) (.bool b)
   rcases a with a|a;·exact in_listAt _ a j fin
   ·exact in_tupleAt _ a j fin
 · intro s f u v Q E lo g i K;obtain⟨l,vs,rfl,a,j,k⟩:=go s f u v g i;have fin:Q (.bool (!vs.toArray.any λy=>Iv y u)) s:=by rw[k];exact K _ s.heap s.toks (λU U=>id) (.bool _)
   rcases a with a|a;·exact notIn_listAt _ a j fin
   ·exact notIn_tupleAt _ a j fin
noncomputable def M3(x y:PySem.Str):Bool:=!(Builtin.Str.occurrences x y 0 x.length 1).isEmpty
theorem HK:et A (compareOp .In) (.str y) (.str x) (.bool (M3 x y)):=by intro s b u v Q E lo d a K;obtain⟨U,rfl⟩:=d.inv;obtain⟨_,rfl⟩:=a.inv;exact in_str (K _ s.heap s.toks (λU U=>id) (.bool _))
theorem Ei(h:Nat.ble (x.length+y.length) 16777216=true):et A (binaryOp .Add) (.str x) (.str y) (.str (x++y)):=by intro s b u v Q E lo d a K;obtain⟨U,rfl⟩:=d.inv;obtain⟨_,rfl⟩:=a.inv;exact add_str (λt c=>K _ s.heap _ (λU U=>id) (.str _ _)) (by rw[sizeLine_eq];exact Nat.le_of_ble_eq_true h)
theorem Dg(p:a=.list xs\/a=.slist xs)(r:c=.list ys\/c=.slist ys)(t:xs.length+ys.length<=16777216):et A (binaryOp .Add) a c (.slist (xs++ys)):=by
 intro s f u v Q E lo k m K;obtain⟨l,vs,n,rfl,dl,j⟩:∃l vs n,u=.ref l/\bM (Fz s.heap f) vs xs/\Fz s.heap f l (bA vs n):=by rcases p with rfl|rfl<;>(obtain⟨_,_,_,rfl,g,dl⟩:=k.inv;exact⟨_,_,_,rfl,dl,g⟩)
 obtain⟨x,i,y,rfl,d,h⟩:∃l vs n,v=.ref l/\bM (Fz s.heap f) vs ys/\Fz s.heap f l (bA vs n):=by rcases r with rfl|rfl<;>(obtain⟨_,_,_,rfl,g,dl⟩:=m.inv;exact⟨_,_,_,rfl,dl,g⟩)
 have e:vs.toArray++i.toArray=(vs++i).toArray:=by simp
 refine concat_meets ⟨_,j.1,rfl⟩ ⟨_,h.1,rfl⟩ noFill_list_add seq_list_add PySem.F.slot_list_add PySem.F.entry_list_add (PySem.F.args_list_add_2 _ _) (list_addW l x vs.toArray i.toArray n y none none #[] #[] (by rw[AA,AA,dl.length,d.length,sizeLine_eq];exact t)) ⟨j.1,h.1,?_⟩;rw[e];refine K _ _ s.toks (λb o e=>A2 _ e) (.slist ⟨AH _ rfl,λz=>?_⟩ ((dl.append d).mono λa o q=>⟨A2 _ q.1,q.2⟩));obtain⟨o,q⟩:=lo _ z;exact AU _ (AG q)
end
end
inductive jK(H:Addr->Obj->Prop):List (Int×Value)->List (Int×D)->Prop|nil:jK H [] []|cons{i:Int}{v:Value}{d:D}{kvs:List (Int×Value)}{ds:List (Int×D)}:cx H v d->jK H kvs ds->jK H ((i,v)::kvs) ((i,d)::ds)
noncomputable def bL(ds:List (Int×D))(k:Int)(d:D):List (Int×D):=if ds.any (λp=>p.1=k)then ds.map (λp=>if p.1=k then(p.1,d)else p)else ds++[(k,d)]
noncomputable def dc(ds:List (Int×D))(k:Int):Option D:=(ds.find? λp=>p.1=k).map (·.2)
section
variable{H H':Addr->Obj->Prop}
theorem jK.mono(hs:Sb H H')(h:jK H kvs ds):jK H' kvs ds:=by induction h with|nil=>exact .nil|cons d _ i=>exact .cons (d.mono hs) i
theorem jK.keys(h:jK H kvs ds):kvs.map (·.1)=ds.map (·.1):=by induction h with|nil=>rfl|cons _ _ i=>rw[AS,AS,i]
theorem jK.any(h:jK H kvs ds)(k:Int):kvs.any (λp=>p.1=k)=ds.any (λp=>p.1=k):=by induction h with|nil=>rfl|cons _ _ i=>rw[List.any_cons,List.any_cons,i]
theorem jK.get(h:jK H kvs ds)(k:Int):(dc ds k=none/\valueAt kvs k=none)\/∃d v,dc ds k=some d/\valueAt kvs k=some v/\cx H v d:=by induction h with|nil=>exact .inl ⟨rfl,rfl⟩|@cons i v d kvs ds b _ c=>
 unfold dc valueAt at*;rw[List.find?_cons,List.find?_cons];dsimp only;by_cases a:i=k;·simp only[a,decide_true];exact .inr ⟨d,v,rfl,rfl,b⟩
 ·simp only[a,decide_false];exact c
theorem jK.app(h:jK H kvs ds)(a:jK H u es):jK H (kvs++u) (ds++es):=by induction h with|nil=>exact a|cons d _ i=>exact .cons d i
theorem jK.stored(h:jK H kvs ds)(c:cx H v d):jK H (stored kvs k v) (bL ds k d):=by
 unfold PySem.stored bL;rw[h.any];split;·rename_i f;clear f;induction h with|nil=>exact .nil|@cons i j g _ _ b _ e=>
  rw[AS,AS];dsimp only;by_cases a:i=k;·rw[if_pos a,if_pos a];exact .cons c e
  ·rw[if_neg a,if_neg a];exact .cons b e
 ·exact h.app (.cons c .nil)
theorem ee(h:(ds.map (·.1)).Nodup):((bL ds k d).map (·.1)).Nodup:=by
 unfold bL;split
 · have:(ds.map (λp=>if p.1=k then(p.1,d)else p)).map (·.1)=ds.map (·.1):=by rw[List.map_map];apply List.map_congr_left;intro p _;show(if p.1=k then(p.1,d)else p).1=p.1;split<;>rfl
   rw[this];exact h
 ·rename_i f;rw[List.map_append,List.nodup_append];refine⟨h,by simp,λa c b hb=>?_⟩;simp at hb;subst hb;intro z;subst z;obtain⟨p,e,rfl⟩:=Ag.mp c;exact f (List.any_eq_true.mpr ⟨p,e,by simp⟩)
theorem hB.pairs(a:hB H es ds):∃kvs,(∀e∈es,∃k,(intKind P0 w).is k e.key=true/\e.hash=(intKind P0 w).hash k)/\Pairs (intKind P0 w) es kvs/\jK H kvs ds:=by induction ds generalizing es with|nil=>obtain rfl:=a.inv;exact⟨[],λe h=>absurd h A3,.nil,.nil⟩|cons p ds i=>
 obtain⟨t,v,r,rfl,d,l⟩:=a.inv;obtain⟨kvs,b,c,f⟩:=i l;refine⟨(p.1,v)::kvs,λe h=>?_,.cons (by show(p.1==p.1)=true;exact Af _) rfl c,.cons d f⟩;rcases A6.mp h with rfl|h;·exact⟨p.1,by show(p.1==p.1)=true;exact Af _,rfl⟩
 ·exact b e h
theorem eH{h:Heap}{ds:List (Int×D)}(f:h.get? a=some (dictOf es n))(g:hB H es ds)(j:(ds.map (·.1)).Nodup):∃kvs,h.DictOf (intKind P0 w) a kvs/\jK H kvs ds:=by obtain⟨kvs,c,d,b⟩:=g.pairs;refine⟨kvs,⟨_,es.toArray,n,f,⟨rfl,rfl,rfl⟩,rfl,λe i=>c e (by simpa using i),d,by rw[b.keys];exact j⟩,b⟩
theorem DI(c:∀e∈es,∃k,(intKind P0 w).is k e.key=true/\e.hash=(intKind P0 w).hash k)(m:Pairs (intKind P0 w) es kvs)(h:jK H kvs ds):hB H es ds:=by induction m generalizing ds with|nil=>cases h;exact .nil|@cons e r es kvs a b _ n=>cases h with|@cons i v d _ f g h=>obtain⟨k,k1,k2⟩:=c e A4;obtain⟨q,o,p⟩:=e;dsimp only at a b k1 k2;obtain⟨t,rfl⟩:=Value.isInt_shape a;have k1:Value.isInt k (.int i t)=true:=k1;obtain⟨s,j⟩:=Value.isInt_shape k1;obtain⟨rfl,rfl⟩:=PySem.Value.int.inj j;subst b k2;exact .cons g (n (λe l=>c e (A5 _ l)) h)
theorem jw{h:Heap}(x:h.DictOf (intKind P0 w) a kvs)(k:jK H kvs ds):∃es n,h.get? a=some (dictOf es n)/\hB H es ds:=by refine cI λG i=>?_;obtain⟨o,es,ep,p,j,b,m,q,t⟩:=x;obtain⟨c,r,s,u⟩:=o;obtain⟨d,f,g⟩:=j;dsimp only at d f g b;subst d f g b;refine i ?_;exact⟨es.toList,ep,by rw[p],DI (λe l=>m e (by simpa using l)) q k⟩
variable{A:Around}
theorem jC:(intKind P0 w).is k (.int k t)=true:=Af k
theorem Bl{e:D}(i:e.isI=some (k,n)):et A (compareOp .In) e (.dict ds) (.bool (dc ds k).isSome)/\et A (compareOp .NotIn) e (.dict ds) (.bool (!(dc ds k).isSome)):=by
 have go:∀(s:Shared)(b:Addr->Prop)(v:Value),cx (Fz s.heap b) v (.dict ds)->∃a kvs,v=.ref a/\(a==sysModules)=false/\s.heap.DictOf (intKind P0 w) a kvs/\(valueAt kvs k).isSome=(dc ds k).isSome:=by intro s b v c;obtain⟨U,U,U,rfl,l,m,j⟩:=c.inv;obtain⟨kvs,x,y⟩:=eH l.1 m j.1;refine⟨_,kvs,rfl,j.2,x,?_⟩;rcases y.get k with⟨g,h⟩|⟨d,v,g,h,U⟩<;>rw[g,h]<;>rfl
 constructor;·intro s b u v Q E lo f c K;obtain⟨t,rfl⟩:=ct i f;obtain⟨a,kvs,rfl,hs,x,e⟩:=go s b v c;refine wpAny_in_of jC hs x.mapOf ?_;rw[e];exact K _ s.heap _ (λU U=>id) (.bool _)
 ·intro s b u v Q E lo f c K;obtain⟨t,rfl⟩:=ct i f;obtain⟨a,kvs,rfl,hs,x,e⟩:=go s b v c;refine wpAny_notIn_of jC hs x.mapOf ?_;rw[e];exact K _ s.heap _ (λU U=>id) (.bool _)
theorem Id{e f:D}(n:e.isI=some (k,p)):Bc A (.builtin "dict.get") [.dict ds,e,f] ((dc ds k).getD f):=by
 intro s o u Q E lo a K;obtain⟨U,U,rfl,g,a⟩:=a.inv;obtain⟨U,U,rfl,d2,a⟩:=a.inv;obtain⟨U,U,rfl,i,a⟩:=a.inv;obtain rfl:=a.inv;obtain⟨t,rfl⟩:=ct n d2;obtain⟨U,U,U,rfl,l,m,h⟩:=g.inv;obtain⟨kvs,x,y⟩:=eH l.1 m h.1;refine call_meetsIn PySem.F.slot_dict_get x.typeIs PySem.F.entry_dict_get (PySem.F.args_dict_get_3 _ _ _) (meets_dict_get_default (intKind P0 w) _ jC h.2 _) ⟨_,x.mapOf,?_⟩;refine K _ s.heap _ (λU U=>id) ?_;rcases y.get k with⟨b,c⟩|⟨d,v,b,c,j⟩;·rw[b,c];exact i
 ·rw[b,c];exact j
end
section
variable{A:Around}{env:Env}{g:Gr}{σ σ' σ₁ σ₂:Sig}{k:Nat}{l:Lay}{H:Addr->Obj->Prop}{s:Shared}
theorem RL.mutL(R:RL env g l σ s.heap H)(h:bq σ x=some (.o (.list ds) p))(f:cu env l.m l.cm x=some (.ref a))(hs:Ai a s.heap h')(r:h'.get? a=some (bA v n))(m:bM H v d):∃H',RL env g l (bO σ x (.o (.list d) p)) h' H'/\Sb H H':=by
 have j:=(bD.own R x _ p h).ok;rw[f]at j;have c:l.ad x=a:=by have:=j.1;injection this with this;injection this with this;exact this.symm
 have i:∀b o,b≠l.ad x->s.heap.get? b=some o->h'.get? b=some o:=λb o t e=>(hs.2 b (c▸t)).trans e;have sub:Sb H (Fz h' (c5 env σ l.ad (dY l.Y))):=by have:=R.isH;rw[this];exactλb o q=>⟨i b o (λz=>q.2 (.inr (.inr (.inl ⟨x,_,p,h,z.symm⟩)))) q.1,q.2⟩
 have q:=bD.mutO (k':=.list d) R h i (by rw[f,c];exact⟨rfl,v,n,r,m.mono sub⟩);exact⟨_,q.1,q.2⟩
theorem RL.ownL(R:RL env g l σ s.heap H)(f:bq σ x=some (.o (.list ds) p))(c:cu env l.m l.cm x=some v):∃a vs n,v=.ref a/\s.heap.get? a=some (bA vs n)/\bM H vs ds:=by have b:=(bD.own R x _ p f).ok;rw[c]at b;obtain⟨e,vs,n,h,d⟩:=b;obtain rfl:=A0 e;exact⟨_,vs,n,rfl,h,d⟩
theorem lj{x name:PySem.Str}{px c pos:Pos}{es:List Expr}{I ds j args:List D}{d:D}{Y pp:Option (Addr×Value)}{id:String}(O:cj env)(hd:(x==("__debug__":PySem.Str))=false)(hx:bq σ x=some (.o (.list I) Y))(p:PySem.Slot "list" name id)(V:typeOf (.builtin id)=pure (.type "method_descriptor"))(N:il A env g es σ args σ')(m:bq σ' x=some (.o (.list ds) pp))(hp:bV (.Name x px) c pos es=true)(run:∀(s:Shared)(H:Addr->Obj->Prop)(a:Addr)(vs z:List Value)(n:Nat)(Q:Value->Shared->Prop)(E:Value->Shared->Prop),(∀a o,H a o->s.heap.get? a=some o)->s.heap.get? a=some (bA vs n)->bM H vs ds->bM H z args->(∀r h' y i n',Ai a s.heap h'->h'.get? a=some (bA i n')->bM H i j->cx H r d->Q r (uS s h' y))->wpAny (model P0 w) A (call (.builtin id) (.ref a::z)) Q E s):Ev A env g (.Call (.Attribute (.Name x px) name c) es [] pos) σ d (bO σ' x (.o (.list j) pp)):=by intro l s H Q E R K;refine fV N hp (dT O hx hd l s H _ E R λv h' y H' R' sub dv pl=>?_);have h:cu env l.m l.cm x=some v:=dv;obtain⟨a,vs,n,rfl,hg,dl⟩:=RL.ownL (s:=(uS s h' y)) R' hx h;refine getMethod_builtin (s:=(uS s h' y)) (⟨_,hg,rfl⟩:Shared.TypeIs _ (.ref a) "list") PySem.F.plainAttrs_list p V (λb e=>by obtain rfl:=PySem.Value.ref.inj e;exact⟨_,hg,rfl⟩) ?_;refine Calls.callWith_builtin (bZ N) (N.args _ pos l (uS s h' y) H' _ E R' λz L t H2 B u J=>?_);refine cI λG M=>?_;obtain⟨a',vs2,n2,e2,U,C⟩:=RL.ownL (s:=(uS s L t)) B m h;obtain rfl:=PySem.Value.ref.inj e2;refine M ?_;refine run (uS s L t) H2 a vs2 z n2 Q E (RL.live B) U C J λr h3 aa i n' hs ho T dr=>?_;refine cI λG M=>?_;obtain⟨H3,R3,f⟩:=RL.mutL (s:=(uS s L t)) B m h hs ho T;refine M ?_;exact K r h3 aa H3 R3 (λa o q=>f a o (u a o (sub a o q))) (dr.mono f)
theorem wO(O:cj env)(p:(x==("__debug__":PySem.Str))=false)(y:bq σ x=some (.o (.list i) C))(m:il A env g [e] σ [d] σ')(h:bq σ' x=some (.o (.list ds) pp))(v:bV (.Name x G) b pos [e]=true)(z:ds.length<=16777216):Ev A env g (.Call (.Attribute (.Name x G) "append" b) [e] [] pos) σ .none (bO σ' x (.o (.list (ds++[d])) pp)):=by refine lj O p y slot_list_append type_list_append m h v λs H a vs I n Q E f q dl c K=>?_;obtain⟨u,rfl,j⟩:=gA c;refine wpAny_list_append_plain (⟨n,q⟩:s.heap.PlainList a vs.toArray) (λh' r hs=>?_) (by rw[AA,dl.length,sizeLine_eq];exact z);obtain⟨B,t⟩:=r;exact K _ h' s.toks (vs++[u]) B hs (by rw[t];simp) (dl.append (.cons j .nil)) .none
theorem eN(f:Array Value->Array Value)(vs:List Value)(n:Nat):∃a,Obj.mapSeq f (bA vs n)={cls:=.type "list",data:=.seq (f vs.toArray) a}:=by unfold Obj.mapSeq;exact⟨_,rfl⟩
theorem xz(O:cj env)(C:(x==("__debug__":PySem.Str))=false)(J:bq σ x=some (.o (.list y) L))(B:il A env g [e] σ [d] σ')(i:d=.list es\/d=.slist es)(p:bq σ' x=some (.o (.list ds) pp))(I:bV (.Name x M) c pos [e]=true)(q:Nat.ble (ds.length+es.length) 4096=true):Ev A env g (.Call (.Attribute (.Name x M) "extend" c) [e] [] pos) σ .none (bO σ' x (.o (.list (ds++es)) pp)):=by
 have q:=Nat.le_of_ble_eq_true q;refine lj O C J PySem.F.slot_list_extend PySem.F.type_list_extend B p I λs H a vs N n Q E f j dl h K=>?_;obtain⟨u,rfl,z⟩:=gA h;obtain⟨b,ws,m,rfl,t,hb⟩:∃l vs n,u=.ref l/\bM H vs es/\H l (bA vs n):=by rcases i with rfl|rfl<;>(obtain⟨_,_,_,rfl,g,dl⟩:=z.inv;exact⟨_,_,_,rfl,dl,g⟩)
 have r:vs.toArray.size+ws.toArray.size<=4096:=by rw[AA,AA,dl.length,t.length];exact q
 refine call_meets PySem.F.slot_list_extend (⟨_,j,rfl⟩:s.TypeIs (.ref a) "list") PySem.F.entry_list_extend (PySem.F.args_list_extend_2 _ _) (AutoSeq1.list_extend_list_list_0 a vs.toArray n b ws.toArray m ?_ (by rw[sizeLine_eq];exact wk (A1 (A7 _ _) r) rfl) (by rw[sizeLine_eq];exact wk r rfl)) ⟨j,f _ _ hb,?_⟩
 · have:Builtin.List.listTooLong (vs.toArray.size+ws.toArray.size)=false:=by unfold Builtin.List.listTooLong;simp only[decide_eq_false_iff_not,sizeLine_eq];exact Nat.not_lt_of_le (wk r rfl)
   rw[this,Bool.and_false];exact Bool.false_ne_true
 · obtain⟨v,e⟩:=eN (λx=>x++ws.toArray) vs n;have G:(s.heap.update a (Obj.mapSeq λx=>x++ws.toArray)).get? a=some (bA (vs++ws) v):=by rw[Heap.get?_update_self _ j (by rw[e];rfl),e];simp
   exact K .none _ s.toks (vs++ws) v (Heap.SameBut.update ..) G (dl.append t) .none
theorem zN(O:cj env)(z:(x==("__debug__":PySem.Str))=false)(t:bq σ x=some (.o (.list (ds++[d])) pp))(B:bV (.Name x I) c pos []=true)(u:ds.length<=16777215):Ev A env g (.Call (.Attribute (.Name x I) "pop" c) [] [] pos) σ d (bO σ x (.o (.list ds) pp)):=by
 refine lj (args:=[]) O z t PySem.F.slot_list_pop PySem.F.type_list_pop .nil t B λs H a vs J n Q E f j dl p K=>?_;obtain rfl:=p.inv;obtain⟨b,v,rfl,i,d2⟩:∃b v,vs=b++[v]/\bM H b ds/\cx H v d:=by clear K t j u f;induction ds generalizing vs with|nil=>obtain⟨U,U,rfl,h,r⟩:=dl.inv;obtain rfl:=r.inv;exact⟨[],_,rfl,.nil,h⟩|cons e es C=>obtain⟨U,U,rfl,h,r⟩:=dl.inv;obtain⟨b,v,rfl,i,d2⟩:=C _ r;exact⟨_::b,v,rfl,.cons h i,d2⟩
 have G:(b++[v]).length=ds.length+1:=by rw[AX,i.length];rfl
 refine call_meets PySem.F.slot_list_pop (⟨_,j,rfl⟩:s.TypeIs (.ref a) "list") PySem.F.entry_list_pop (PySem.F.args_list_pop_1 _) (MeetsSeq.list_pop_last a (b++[v]).toArray n v (by simp) (by rw[AA,G,sizeLine_eq];exact AE u)) ⟨j,?_⟩;have q:∃m,(s.heap.update a (Obj.mapSeq λxs=>xs.eraseIdxIfInBounds ((b++[v]).toArray.size-1))).get? a=some (bA b m):=by
  have y:(b++[v]).toArray.eraseIdxIfInBounds ((b++[v]).toArray.size-1)=b.toArray:=by rw[AA];apply Array.toList_inj.mp;rw[Array.eraseIdxIfInBounds_eq,dif_pos (by simp),Array.toList_eraseIdx];rw[List.toList_toArray,List.toList_toArray,AX];show(b++[v]).eraseIdx (b.length+1-1)=b;rw[Nat.add_sub_cancel,List.eraseIdx_append_of_length_le (AT _),Nat.sub_self];simp
  obtain⟨m,e⟩:=eN (λxs=>xs.eraseIdxIfInBounds ((b++[v]).toArray.size-1)) (b++[v]) n;refine⟨m,?_⟩;rw[Heap.get?_update_self _ j (by rw[e];rfl),e,y]
 obtain⟨m,q⟩:=q;exact K v _ s.toks b _ (Heap.SameBut.update ..) q i d2
theorem ER{px pa p:Pos}{ds:List (Int×D)}{d kd:D}(O:cj env)(hd:(x==("__debug__":PySem.Str))=false)(h:Ev A env g e σ d σ₁)(j:∃o p,bq σ₁ x=some (.o o p))(hk:Ev A env g ke σ₁ kd σ')(hi:kd.isI=some (i,si))(T:bq σ' x=some (.o (.dict ds) pp))(hz:ds.length<=16777216)(hs:swapsWith e (some (.Subscript (.Name x px) ke pa)) p.line env=pure false):kx A env g (.Assign [.Subscript (.Name x px) ke pa] e p) σ .next (bO σ' x (.o (.dict (bL ds i d)) pp)):=by
 rintro Y s H Q E⟨m,B,ad,R⟩K;obtain⟨o0,p0,j⟩:=j;refine wpAny_Assign_Subscript (h ⟨Y,m,B,ad⟩ s H _ E R λv h' tk H' R' sub dv=>?_) hs;refine dT O j hd ⟨Y,m,B,ad⟩ (uS s h' tk) H' _ E R' λu h2 U H2 R2 b du=>?_;have r:cu env m B x=some u:=du;refine hk ⟨Y,m,B,ad⟩ (uS s h2 U) H2 _ E R2 λkv h3 V H3 C c dk=>?_;obtain⟨t,rfl⟩:=ct hi dk;have ok:=(bD.own C x _ pp T).ok;rw[r]at ok;obtain⟨e1,es,n,hg,dl,hn,y⟩:=ok;obtain rfl:=A0 e1;obtain⟨kvs,xd,yd⟩:=eH hg dl hn;refine wpAny_setItem_pairs (s:=(uS s h3 V)) jC xd (λL aa N=>?_) (by have:=yd.keys;have e:=congrArg List.length this;simp only[AM]at e;rw[e,sizeLine_eq];exact hz);have kp:∀a o,a≠ad x->h3.get? a=some o->L.get? a=some o:=λa o ne e=>(N.2 a ne).trans e;have f:Sb H3 (Fz L (c5 env σ' ad (dY Y))):=by have:=C.isH;rw[this];exactλa o q=>⟨kp a o (λz=>q.2 (.inr (.inr (.inl ⟨x,_,pp,T,z.symm⟩)))) q.1,q.2⟩
 have I:=((dv.mono b).mono c).mono f;obtain⟨J,n',M,G⟩:=jw aa ((yd.mono f).stored I);have q:=bD.mutO (k':=.dict (bL ds i d)) C T kp (by rw[r];exact⟨rfl,J,n',M,G,ee hn,y⟩);exact K .next L _ _ ⟨_,_,_,q.1⟩ (λa o z=>q.2 a o (c a o (b a o (sub a o z)))) trivial
theorem ty{vs:List Value}{k:Int}{Q:Unit->Shared->Prop}{E:Value->Shared->Prop}(b:s.heap.get? a=some (bA vs n))(f:0<=k)(h:k<2^63)(p:k<vs.length)(i:∀h' d,h'.get? a=some (bA (vs.set k.toNat v) d)->Ai a s.heap h'->Q () {s with heap:=h'}):wpAny (model P0 w) A (setItem (.ref a) (.int k t) v) Q E s:=by
 have c:s.TypeIs (.ref a) "list":=⟨_,b,rfl⟩;unfold setItem;try with_reducible refine wpAny_holding ?_
 first|refine A9 (AC ?_)|skip
 refine A9 (wpAny_sequenceKey c (by decide) ?_);refine A9 (wpAny_callSpecial?_slot (name:=Str.ofString "__setitem__") c slot_list_setitem (wpAny_call_entry slot_list_setitem c entry_list_setitem ?_ (args_list_setitem _ _ _)));show wpAny _ _ (Builtin.List.listSubscript? (.int k t)>>=_) _ _ s;refine A9 (wpAny_listSubscript_int (fitsIndex_of f h) ?_);clear h;obtain⟨j,rfl⟩:=Int.eq_ofNat_of_zero_le f;have o:j<vs.length:=by exact Aa.1 p
 show wpAny _ _ ((seqItemAt a j>>=λr=>pure (r.map (j,·)))>>=_) _ _ s;refine A9 (A9 (wpAny_seqItemAt b rfl (AC ?_)));rw[show vs.toArray[j]?=some vs[j]by simp[o]];show wpAny _ _ (setSeqItemAt a j v>>=_) _ _ s;obtain⟨d,e⟩:=eN (λxs=>xs.setIfInBounds j v) vs n;have m:(s.heap.update a (Obj.mapSeq (·.setIfInBounds j v))).get? a=some (bA (vs.set j v) d):=by rw[Heap.get?_update_self _ b (by rw[e];rfl),e];simp
 refine A9 (wpAny_setSeqItemAt b rfl ?_);first|exact A9 (AC (AC ⟨.none,rfl,AC (i _ _ m (Heap.SameBut.update ..))⟩))|exact AC ⟨.none,rfl,AC (i _ _ m (Heap.SameBut.update ..))⟩
theorem bM.set(h:bM H vs ds)(b:cx H v d):∀i:Nat,bM H (vs.set i v) (ds.set i d):=by intro i;induction ds generalizing vs i with|nil=>obtain rfl:=h.inv;exact .nil|cons e ds f=>obtain⟨u,j,rfl,c,a⟩:=h.inv;cases i with|zero=>exact .cons b a|succ i=>exact .cons c (f a i)
theorem C4{T N p:Pos}{ds:List D}{d kd:D}{i:Int}(O:cj env)(hd:(x==("__debug__":PySem.Str))=false)(h:Ev A env g e σ d σ₁)(j:∃o p,bq σ₁ x=some (.o o p))(hk:Ev A env g M σ₁ kd σ')(hi:kd.isI=some (i,si))(L:bq σ' x=some (.o (.list ds) pp))(h0:0<=i)(J:i<ds.length)(hz:ds.length<=16777216)(hs:swapsWith e (some (.Subscript (.Name x T) M N)) p.line env=pure false):kx A env g (.Assign [.Subscript (.Name x T) M N] e p) σ .next (bO σ' x (.o (.list (ds.set i.toNat d)) pp)):=by rintro Y s H Q E⟨m,q,ad,R⟩K;obtain⟨o0,p0,j⟩:=j;refine wpAny_Assign_Subscript (h ⟨Y,m,q,ad⟩ s H _ E R λv h' tk H' R' sub dv=>?_) hs;refine dT O j hd ⟨Y,m,q,ad⟩ (uS s h' tk) H' _ E R' λu h2 G U R2 c du=>?_;have r:cu env m q x=some u:=du;refine hk ⟨Y,m,q,ad⟩ (uS s h2 G) U _ E R2 λkv B b H3 I f dk=>?_;obtain⟨t,rfl⟩:=ct hi dk;obtain⟨a,vs,n,rfl,hg,dl⟩:=RL.ownL (s:=(uS s B b)) I L r;refine ty (s:=(uS s B b)) hg h0 (by exact Int.lt_of_lt_of_le J (Int.le_trans (Ab.2 hz) (by decide))) (by rw[dl.length];exact J) λh4 n4 ho C=>?_;obtain⟨V,R4,y⟩:=RL.mutL (s:=(uS s B b)) (l:=⟨Y,m,q,ad⟩) I L r C ho (dl.set ((dv.mono c).mono f) _);exact K .next h4 b V ⟨_,_,_,R4⟩ (λa o z=>y a o (f a o (c a o (sub a o z)))) trivial
end
section
variable{A:Around}{env:Env}{g:Gr}{σ σ' σ₁ σ₂:Sig}{k:Nat}
theorem se(h:x.isI=some (a,i)):Bc A (.type "range") [x] (.recd "range" [.int 0,.int a,.int 1]):=by intro s f u Q E lo d K;obtain⟨v,rfl,c⟩:=gA d;obtain⟨t,rfl⟩:=ct h c;refine call_range_1 ?_;refine K _ _ _ (λb o e=>A2 _ e) (.recd (vs:=[.int 0 s.toks,.int a t,.int 1 (s.toks+1)]) ⟨AH _ rfl,λz=>?_⟩ (.cons (.int _ _) (.cons (.int _ _) (.cons (.int _ _) .nil))));obtain⟨o,q⟩:=lo _ z;exact AU _ (AG q)
noncomputable def eI(b:Bool):Nat->Nat->List D|0,_=>[]|n+1,i=>ku b (i:Int)::eI b n (i+1)
theorem oq(b:Bool):∀n i,(eI b n i).length=n|0,_=>rfl|n+1,i=>by rw[eI,AJ,oq b n (i+1)]
theorem qb(b:Bool):∀n i j d,(eI b n i)[j]?=some d->d=ku b ((i+j:Nat):Int)|0,i,j,d,h=>by simp[eI]at h|n+1,i,0,d,h=>by simp[eI]at h;rw[<-h];simp|n+1,i,j+1,d,h=>by simp[eI]at h;rw[qb b n (i+1) j d h];congr 1;exact congrArg Nat.cast (Nat.succ_add_eq_add_succ _ _)
theorem pZ{target:Expr}{n:Nat}{b:Bool}(x:A.handled=none)(L:n<=16777216):KO A env g target (.recd "range" [.int 0,ku b (n:Int),.int 1]) (eI b n 0):=by
 intro l s H σ v Q E R z K;obtain⟨r,t1,t2,m,rfl,N⟩:∃r t1 t2 m,v=.ref r/\H r {cls:=.type "range",data:=.fields #[.int 0 t1,.int n t2,.int 1 m]}:=by obtain⟨U,U,rfl,M,dl⟩:=z.inv;obtain⟨U,U,rfl,p,dl⟩:=dl.inv;obtain⟨U,U,rfl,d2,dl⟩:=dl.inv;obtain⟨U,U,rfl,q,dl⟩:=dl.inv;(first|obtain rfl:=dl.inv|obtain⟨_,rfl⟩:=dl.inv);(first|obtain rfl:=p.inv|obtain⟨_,rfl⟩:=p.inv);(first|obtain rfl:=q.inv|obtain⟨_,rfl⟩:=q.inv);refine cI λG e=>?_;obtain⟨t,rfl⟩:=ct (i:=n) (b:=b) (by cases b<;>rfl) d2;refine e ?_;exact⟨_,_,_,_,rfl,M⟩
 have J:IsRange s.heap r 0 n 1 t1 t2 m:=RL.live R _ _ N;have f:Builtin.Range.rangeSize 0 (n:Int) 1=n:=by
  unfold Builtin.Range.rangeSize;rw[if_pos (by decide)];split;·rw[Int.ediv_one];omega
  ·omega
 refine wpAny_pyIter_range J (small_one (by decide) (by decide) (by exact Int.le_trans (by decide) (AP _)) (by exact AQ (Ab.2 L) (by decide))) ?_;rw[f];refine cI λG e=>?_;obtain⟨H',y,sub,j⟩:=RL.iter (o:={cls:=.type "range_iterator",data:=.fields #[rawInt 0,rawInt n,rawInt 1]}) R rfl;refine e ?_;have c:∀h:Heap,h.get? s.heap.objs.size=some {cls:=.type "range_iterator",data:=.fields #[rawInt 0,rawInt n,rawInt 1]}->(∀a o,H a o->h.get? a=some o)->IsRangeIter h s.heap.objs.size (0+((0:Nat):Int)*1) ((n:Int)-((0:Nat):Int)) 1:=λh B U=>by show h.get? _=_;exact B
 refine K _ _ s.toks H' _ H (λU U=>id) sub (λu=>i9 (n:=n) (LCg.range_walks x 0 n) (λi h st=>⟨_,_,st,rfl,by decide⟩) (λb hb=>.inl (AF.mp hb)) (λi v d C I=>?_) (oq b n 0).symm n 0 _ (by exact Nat.zero_add _) c) (ig (LCg.range_walks x 0 n) c) j y;·obtain⟨t,rfl⟩:=I;rw[qb b n 0 i d C];simp only[Nat.zero_add,Int.zero_add];exact di
noncomputable def rB(x:Bool)(b:Array UInt8):List D:=b.toList.map λc=>ku x (c.toNat:Int)
theorem xf(m:A.handled=none):KO A env g target (.bytes b) (rB x b):=by
 intro l s H σ v Q E R p K;obtain⟨t,rfl⟩:=p.inv;refine KBw.pyIter_bytes ?_;obtain⟨H',n,sub,f⟩:=RL.iter (o:={cls:=.type "bytes_iterator",data:=.fields #[.bytes b t,.int 0 0]}) R rfl;have y:(rB x b).length=b.size:=by exact AM _
 refine K _ _ s.toks H' _ H (λU U=>id) sub (λj=>i9 (KBw.walks m s.heap.objs.size b t) (λi h st=>?_) (λb hb=>.inl (AF.mp hb)) (λi v d h1 r=>?_) y.symm b.size 0 _ (by exact Nat.zero_add _) λh a q=>⟨_,a,rfl,rfl⟩) (ig (KBw.walks m s.heap.objs.size b t) λh a q=>⟨_,a,rfl,rfl⟩) f n;·obtain⟨o,e,c,U⟩:=st;exact⟨o,_,e,c,by decide⟩
 ·obtain⟨c,u,e,rfl⟩:=r;unfold rB at h1;rw[List.getElem?_map,Array.getElem?_toList,e]at h1;simp only[Option.map_some,Option.some.injEq]at h1;subst h1;exact di
end
section
variable{A:Around}
theorem iO{h:Heap}{f:Obj->Obj}(n:b≠a)(e:h.get? b=some o):(h.update a f).get? b=some o:=((Heap.SameBut.update h a f).2 b n).trans e
theorem nK(e:h.get? b=some o):(sortedAll h vs out).get? b=some o:=by have l:b<h.objs.size:=AG e;have a:b≠h.objs.size:=AY l;have n:b≠h.objs.size+1:=AY (Nat.lt_succ_of_lt l);unfold sortedAll sortedHeap;exact iO n (A2 _ (A2 _ (iO n (A2 _ (iO a (A2 _ e))))))
theorem rF:∃n,(sortedAll h vs out).get? (h.objs.size+1)=some (bA out.toList n):=by
 unfold sortedAll sortedHeap;have s1:((h.push (seqObj "list" #[] 0)).update h.objs.size (Obj.mapSeq (·++vs.toArray))).objs.size=h.objs.size+1:=by rw[Heap.size_update,Heap.size_push]
 have g:=AH ((h.push (seqObj "list" #[] 0)).update h.objs.size (Obj.mapSeq (·++vs.toArray))) (o:=seqObj "list" vs.toArray 0) rfl;rw[s1]at g;obtain⟨d,a⟩:=eN (λU=>#[]) vs 0;have f:=Heap.get?_update_self (Obj.mapSeq λU=>#[]) g (by show(Obj.mapSeq (λU=>#[]) (bA vs 0)).isFreed=false;rw[a];rfl);have c:=A2 (seqObj "list" #[] 0) (A2 (seqObj "tuple" vs.toArray 0) f);have e:Obj.mapSeq (λU=>#[]) (seqObj "list" vs.toArray 0)=bA [] d:=a;rw[e]at c;obtain⟨j,b⟩:=eN (λU=>out) [] d;have i:=Heap.get?_update_self (Obj.mapSeq λU=>out) c (by rw[b];rfl);refine⟨j,i.trans ?_⟩;rw[b]
noncomputable def cY(ns:List Int):List Int:=ns.mergeSort (λa b=>decide (a<=b))
theorem th(f:n.Perm ns)(hs:n.Pairwise (·<=·)):n=cY ns:=by
 have d:(cY ns).Pairwise (·<=·):=by have:=List.pairwise_mergeSort (le:=λa b:Int=>decide (a<=b)) (by intro a b c d e;simp at*;exact Int.le_trans d e) (by intro a b;simp;exact Int.le_total _ _) ns;exact this.imp λh=>by simpa using h
 exact List.Perm.eq_of_pairwise (λa b U U d e=>Int.le_antisymm d e) hs d (f.trans (List.mergeSort_perm ns _).symm)
theorem nZ(h:IntsAre vs ns):bM H vs (ns.map (ku b)):=by induction h with|nil=>exact .nil|cons n t r i=>exact .cons di i
theorem pQ(m:d=.list ds\/d=.slist ds)(r:D.ints ds=some ns)(t:ds.length<64):Bc A (.builtin "sorted") [d] (.slist ((cY ns).map (ku b))):=by
 intro s c y Q E lo a K;obtain⟨v,rfl,k⟩:=gA a;obtain⟨l,vs,n,rfl,dl,p⟩:∃l vs n,v=.ref l/\bM (Fz s.heap c) vs ds/\Fz s.heap c l (bA vs n):=by rcases m with rfl|rfl<;>(obtain⟨_,_,_,rfl,g,dl⟩:=k.inv;exact⟨_,_,_,rfl,dl,g⟩)
 refine sorted_ints (⟨_,p.1,rfl,n,rfl⟩:s.heap.IsList l vs.toArray) (g3 dl r) (by rw[dl.length];exact t) λout u f i j=>?_;obtain⟨x,e⟩:=rF (h:=s.heap) (vs:=vs) (out:=out);refine K _ _ s.toks (λb o e=>nK e) (.slist ⟨e,λz=>?_⟩ ?_);·obtain⟨o,q⟩:=lo _ z;exact absurd (AG q) (Nat.not_lt_of_lt (Nat.lt_succ_self _))
 ·rw[th i j]at f;exact nZ f
end
section
variable{A:Around}
theorem tx:∀(xs:List PySem.Str)(t:Nat),bM H (strsFrom t xs) (xs.map D.str)|[],_=>.nil|x::xs,t=>.cons (.str _ _) (tx xs (t+1))
noncomputable def tR(x y:PySem.Str):List PySem.Str:=Builtin.Str.partsBetween x (Builtin.Str.occurrences x y 0 x.length (x.length+1)) y.length
noncomputable def re(x y:PySem.Str):Bool:=!(decide (x.length<y.length)||decide (Builtin.Str.strKind x<Builtin.Str.strKind y))&&!(y.length==0)&&!(Builtin.Str.occurrences x y 0 x.length (x.length+1)).isEmpty&&Nat.ble x.length 16777216&&Nat.ble (tR x y).length 16777216
theorem Bb(h:re x y=true):Bc A (.builtin "str.split") [.str x,.str y] (.list ((tR x y).map D.str)):=by intro s m n Q E lo d K;obtain⟨u,v,rfl,a,c⟩:=uH d;(first|obtain rfl:=a.inv|obtain⟨_,rfl⟩:=a.inv);(first|obtain rfl:=c.inv|obtain⟨_,rfl⟩:=c.inv);unfold re at h;simp only[A8,Bool.not_eq_true']at h;refine cI λG l=>?_;obtain⟨⟨⟨⟨f,g⟩,i⟩,j⟩,k⟩:=h;refine l ?_;refine call_meets PySem.F.slot_str_split (typeIs_str _ _ _) PySem.F.entry_str_split (PySem.F.args_str_split_2 _ _) (meets_str_split_sep x y _ _ f g i (by rw[sizeLine_eq];exact Nat.le_of_ble_eq_true j) (by rw[sizeLine_eq];exact Nat.le_of_ble_eq_true k)) ?_;refine K _ _ _ (λb o e=>A2 _ e) (.list ⟨AH _ rfl,λz=>?_⟩ (tx _ _));obtain⟨o,q⟩:=lo _ z;exact AU _ (AG q)
theorem xb:Bc A (.builtin "str.startswith") [.str x,.str y] (.bool (Txt.startswith x y)):=by intro s c e Q E lo d K;obtain⟨u,v,rfl,a,b⟩:=uH d;(first|obtain rfl:=a.inv|obtain⟨_,rfl⟩:=a.inv);(first|obtain rfl:=b.inv|obtain⟨_,rfl⟩:=b.inv);exact call_gives PySem.F.slot_str_startswith (typeIs_str _ _ _) PySem.F.entry_str_startswith (PySem.F.args_str_startswith_2 _ _) (gives_str_startswith x y _ _) (K _ s.heap s.toks (λU U=>id) (.bool _))
theorem wE(bs:List Bool):(List.range bs.length).any (λi=>(bs[i]?).getD false)=bs.any id:=by
 rw[Bool.eq_iff_iff,List.any_eq_true,List.any_eq_true];constructor;·rintro⟨i,a,h⟩;have a:=List.mem_range.mp a;rw[AN a]at h;exact⟨bs[i],List.getElem_mem a,h⟩
 ·rintro⟨b,hb,h⟩;obtain⟨i,a,rfl⟩:=List.mem_iff_getElem.mp hb;exact⟨i,List.mem_range.mpr a,by rw[AN a];exact h⟩
theorem G8{bs:List Bool}(u:A.handled=none)(t:d=.list ds\/d=.slist ds)(hb:ds=bs.map D.bool):Bc A (.builtin "any") [d] (.bool (bs.any id)):=by
 intro s j J Q E lo a K;obtain⟨v,rfl,r⟩:=gA a;obtain⟨l,vs,n,rfl,dl,p⟩:∃l vs n,v=.ref l/\bM (Fz s.heap j) vs ds/\Fz s.heap j l (bA vs n):=by rcases t with rfl|rfl<;>(obtain⟨_,_,_,rfl,g,dl⟩:=r.inv;exact⟨_,_,_,rfl,dl,g⟩)
 have k:s.heap.IsList l vs.toArray:=⟨_,p.1,rfl,n,rfl⟩;have z:bs.length=vs.toArray.size:=by rw[AA,dl.length,hb,AM]
 refine call_any_walk (wpAny_pyIter_list k ⟨_,_,_,_,_,_,λi=>(bs[i]?).getD false,rfl,Walks.list (A:=A.in1) u s.heap.objs.size l (AY (AG p.1)) vs.toArray,⟨⟨_,AH _ rfl,rfl,rfl⟩,k.push _⟩,λi v I G C y c=>?_,λh' B x=>?_⟩)
 · have f:vs[i]?=some v:=by simpa using y
   obtain⟨H,h,q⟩:=dl.at f;rw[hb,List.getElem?_map]at h;cases e:bs[i]? with|none=>rw[e]at h;exact ca h|some b=>dsimp only at c;rw[e]at h c;simp only[Option.map_some,Option.some.injEq]at h;subst h;obtain rfl:=q.inv;exact wpAny_truthy_bool c
 ·rw[<-z,wE];exact K _ h' B (λb o e=>x b o (λm=>by rw[AF.mp m]at e;exact absurd (AG e) (AU _)) (A2 _ e)) (.bool _)
end
noncomputable def eT(a:List (PySem.Str×Addr)):List (PySem.Str×NameKind)->List (PySem.Str×Addr)->List (PySem.Str×Addr)|[],cs=>cs|(n,k)::r,cs=>match k==NameKind.free,a.lookup n with|true,some c=>eT a r ((n,c)::cs)|_,_=>eT a r cs
noncomputable def bB(names:List (PySem.Str×NameKind)):List PySem.Str:=(names.filter (λp=>p.2==NameKind.free)).map (·.1)
theorem uy(h:∀x∈bB scope.names,(env.cells.lookup x).isSome=true):closureFor scope env=pure (eT env.cells scope.names []):=by
 unfold closureFor;have go:∀(names:List (PySem.Str×NameKind))(cs:List (PySem.Str×Addr)),(∀x∈bB names,(env.cells.lookup x).isSome=true)->(forIn names cs (λ(p:PySem.Str×NameKind)(r:List (PySem.Str×Addr))=>if p.2==NameKind.free then(do let a<-cellOf env p.1;pure (ForInStep.yield ((p.1,a)::r)))else pure (ForInStep.yield r)):Sem _)=pure (eT env.cells names cs):=by intro names;induction names with
  |nil=>intro cs _;rfl
  |cons p r i=>intro cs f;obtain⟨n,k⟩:=p;rw[List.forIn_cons];cases b:k==NameKind.free with|false=>
   have:eT env.cells ((n,k)::r) cs=eT env.cells r cs:=by show(match k==NameKind.free,env.cells.lookup n with|true,some c=>eT env.cells r ((n,c)::cs)|_,_=>eT env.cells r cs)=_;rw[b]
   rw[this,<-i cs λx e=>f x (by unfold bB at*;rw[List.filter_cons];simp only[b];exact e)];rfl|true=>
   have d:=f n (by unfold bB;rw[List.filter_cons];simp only[b,if_true,AS];exact A4);obtain⟨c,d⟩:=Option.isSome_iff_exists.mp d;have:eT env.cells ((n,k)::r) cs=eT env.cells r ((n,c)::cs):=by show(match k==NameKind.free,env.cells.lookup n with|true,some c=>eT env.cells r ((n,c)::cs)|_,_=>eT env.cells r cs)=_;rw[b,d]
   rw[this,<-i ((n,c)::cs) λx e=>f x (by unfold bB at*;rw[List.filter_cons];simp only[b,if_true,AS];exact A5 _ e)];simp[b,cellOf,d]
 have:=go scope.names [] h;simpa using this
set_option tactic.hygienic true in theorem y4:∀{names:List (PySem.Str×NameKind)}{cs:List (PySem.Str×Addr)}{x:PySem.Str}{c:Addr},(x,c)∈eT a names cs->(x,c)∈cs\/a.lookup x=some c:=by intro z;induction z with|nil=>intro cs x c h;exact .inl h|cons p r i=>
   obtain⟨n,k⟩:=p;intro cs x c h;unfold eT at h;split at h
   · rename_i d e b;rcases i h with h|h
     · rcases A6.mp h with h|h;·obtain⟨rfl,rfl⟩:=Prod.mk.inj h;exact .inr b
       ·exact .inl h
     ·exact .inr h
   ·exact i h
set_option tactic.hygienic true in theorem xH{env:Env}(u:env.cells.Pairwise λx y=>x.2≠y.2):∀{names:List (PySem.Str×NameKind)}{cs:List (PySem.Str×Addr)},(bB names).Nodup->(∀x∈bB names,∀c,(x,c)∉cs)->(∀x c,(x,c)∈cs->env.cells.lookup x=some c)->(cs.Pairwise λx y=>x.2≠y.2)->(eT env.cells names cs).Pairwise λx y=>x.2≠y.2:=by intro G;induction G with|nil=>intro cs _ _ _ h;exact h|cons E r o=>
   obtain⟨n,k⟩:=E;intro cs hn d i h;unfold eT;split
   · rename_i c q j;have s:k==NameKind.free:=q;have e:bB ((n,k)::r)=n::bB r:=by unfold bB;rw[List.filter_cons];simp only[s,if_true,AS]
     rw[e]at hn d;obtain⟨v,B⟩:=List.nodup_cons.mp hn;refine o B (λx b f a=>?_) (λx f a=>?_) (List.pairwise_cons.mpr ⟨λy m z=>?_,h⟩)
     · rcases A6.mp a with a|a;·cases a;exact v b
       ·exact d x (A5 _ b) f a
     · rcases A6.mp a with a|a;·cases a;exact j
       ·exact i x f a
     ·have p:=i y.1 y.2 m;have:n=y.1:=name_of_addr u (mem_of_lookup j) (by rw[show c=y.2 from z];exact mem_of_lookup p);exact d n A4 y.2 (by rw[this];exact m)
   · rename_i t;have sub:∀x∈bB r,x∈bB ((n,k)::r):=λx b=>by
       unfold bB at*;rw[List.filter_cons];split;·exact A5 _ b
       ·exact b
     refine o ?_ (λx b=>d x (sub x b)) i h;unfold bB at hn⊢;rw[List.filter_cons]at hn;split at hn;·exact(List.nodup_cons.mp hn).2
     ·exact hn
def t7(cl:List (PySem.Str×Addr))(σ:Sig)(ad:PySem.Str->Addr)(a:Addr):Prop:=(∃x,cl.lookup x=some a)\/∃x k p,(cl.lookup x).isSome=true/\bq σ x=some (.o k p)/\ad x=a
noncomputable def ya(env:Env)(cl:List (PySem.Str×Addr))(σ:Sig)(ad:PySem.Str->Addr)(Y:Yd)(h:Heap):Yd:=λa o=>c5 env σ ad (dY Y) a/\¬t7 cl σ ad a/\h.get? a=some o
section
variable{A:Around}{env cenv:Env}{g:Gr}{σ σi:Sig}{l:Lay}{H:Addr->Obj->Prop}{h h':Heap}{C D:Addr}{oD:Obj}{m0:PySem.Str->Option Value}
theorem kg:yU (yU Y Z) W=yU (yU Y W) Z:=by funext a o;exact propext ⟨λq=>q.elim (λq=>q.elim (λq=>.inl (.inl q)) .inr) λq=>.inl (.inr q),λq=>q.elim (λq=>q.elim (λq=>.inl (.inl q)) .inr) λq=>.inl (.inr q)⟩
theorem zv{ad:PySem.Str->Addr}{Y Z:Yd}(q:c5 env σ ad (dY Y) a):c5 env σ ad (dY (yU Y Z)) a:=by
 rcases q with q|q|q|q;·exact .inl q
 ·exact .inr (.inl q)
 ·exact .inr (.inr (.inl q))
 ·exact .inr (.inr (.inr (bX.mpr (.inl q))))
theorem RL.inner(R:RL env g (l.plus Z) σ h H)(hZ:gz env g l.Y Z)(i:∀x c,cenv.cells.lookup x=some c->env.cells.lookup x=some c/\env.kindOf x=some .cell/\cenv.kindOf x=some .cell)(Q:cenv.cells.Pairwise λx y=>x.2≠y.2)(hf:cenv.frame=env.frame)(m:cenv.locals=C)(B:∀x sl,bq σi x=some sl->bq σ x=some sl/\(cenv.cells.lookup x).isSome=true)(r:Hk h h')(I:h.get? C=none)(V:h.get? D=none)(O:D≠C)(T:h'.Ns C m0)(hD:h'.get? D=some oD)(hz:h.objs.size<=C):∃H',RL cenv g ⟨yU (yU (ya env cenv.cells σ l.ad l.Y h) (y1 D oD)) Z,m0,l.cm,l.ad⟩ σi h' H'/\Sb H H':=by
 have G:Hk g.b h':=λb o e=>r b o (R.fr.keep b o e);have L:∀b o,g.e.get? b=some o->∃u,h'.get? b=some u:=λb o e=>let⟨u,M⟩:=R.fr.old b o e;⟨u,r b u M⟩;have up:∀a,c5 cenv σi l.ad (dY (yU (yU (ya env cenv.cells σ l.ad l.Y h) (y1 D oD)) Z)) a->c5 env σ l.ad (dY (yU l.Y Z)) a\/h.get? a=none:=by
   rintro a(q|⟨x,q⟩|⟨x,k,p,q,e⟩|q);·rw[m]at q;exact .inr (q▸I)
   ·exact .inl (.inr (.inl ⟨x,(i x a q).1⟩))
   ·exact .inl (.inr (.inr (.inl ⟨x,k,p,(B x _ q).1,e⟩)))
   · rcases bX.mp q with q|q
     · rcases bX.mp q with⟨o,q⟩|q;·exact .inl (zv q.1)
       ·exact .inr (dI.mp q▸V)
     ·exact .inl (.inr (.inr (.inr (bX.mpr (.inr q)))))
 have sub:∀a o,H a o->Fz h' (c5 cenv σi l.ad (dY (yU (yU (ya env cenv.cells σ l.ad l.Y h) (y1 D oD)) Z))) a o:=by have:=R.isH;rw[this];exactλa o q=>⟨r a o q.1,λz=>(up a z).elim q.2 λn=>by rw[q.1]at n;exact ca n.symm⟩
 have s:∀x,(cenv.cells.lookup x).isSome=true->cu cenv m0 l.cm x=cu env l.m l.cm x:=by intro x t;obtain⟨c,hc⟩:=Option.isSome_iff_exists.mp t;obtain⟨j,N,e3⟩:=i x c hc;unfold cu;rw[N,e3,j,hc]
 have J:∀a o,ya env cenv.cells σ l.ad l.Y h a o->h.get? a=some o:=λa o q=>q.2.2;refine⟨_,⟨⟨m▸T,G,L,m▸A1 (by have:=R.fr.above;exact A1 this (Nat.le_of_lt R.fr.ns.lt)) hz⟩,hf▸R.ff,λa q=>?_,λn c e=>?_,Q,rfl,λa o q=>?_,λx d e=>?_,λx k p e=>?_,λx y k k' p p' j N=>R.one x y k k' p p' (B x _ j).1 (B y _ N).1⟩,sub⟩
 · obtain⟨q1,q2,mm,oL,es,ep,hL,hq⟩:=R.frs a q;have qe:c5 env σ l.ad (dY l.Y) a:=q1.elim .inl λz=>.inr (.inr (.inr ((bX.mp z).elim id λz=>((hZ a z).2.2 q).elim)));refine⟨.inr (bX.mpr (.inl (bX.mpr (.inl ⟨oL,qe,?_,hL⟩)))),q2,mm,oL,es,ep,r _ _ hL,hq⟩;rintro(⟨x,z⟩|⟨x,k,p,U,e,z⟩);·exact bD.fsCell R q x (i x _ z).1
   ·exact(R.own x k p e).nf (z▸q)
 ·obtain⟨j,U⟩:=i n c e;obtain⟨a,b,c'⟩:=R.cell n c j;refine⟨a.keeps r,?_,c'⟩;obtain⟨o,ho,U⟩:=a;rw[m];intro z;rw[z,I]at ho;exact ca ho
 · rcases q with(q|⟨rfl,rfl⟩)|q;·refine⟨.of (r _ _ (J a o q)),?_,λn e=>q.2.1 (.inl ⟨n,e⟩)⟩;rw[m];intro z;have:=J a o q;rw[z,I]at this;exact ca this
   ·refine⟨.of hD,m▸O,λn e=>?_⟩;obtain⟨⟨u,E,U⟩,U⟩:=R.cell n a (i n a e).1;rw[V]at E;exact ca E
   ·obtain⟨e,n1,n2⟩:=R.held a o (.inr q);obtain⟨u,M⟩:=e.there;refine⟨e.mono λu e=>r _ _ e,?_,λn z=>n2 n (i n a z).1⟩;rw[m];intro z;rw[z,I]at M;exact ca M
 ·obtain⟨j,t⟩:=B x _ e;obtain⟨v,hv,dv⟩:=R.fro x d j;exact⟨v,(s x t).trans hv,dv.mono sub⟩
 · obtain⟨j,t⟩:=B x _ e;obtain⟨ok,a1,a2,a3,a4,a5,a6⟩:=R.own x k p j;obtain⟨oa,f⟩:=ok.there;have Y:ej h' (Fz h' (c5 cenv σi l.ad (dY (yU (yU (ya env cenv.cells σ l.ad l.Y h) (y1 D oD)) Z)))) (cu cenv m0 l.cm x) (l.ad x) k:=by rw[s x t];exact ok.mono sub λo e=>r _ o e
   refine⟨Y,a1,?_,λy e=>a3 y (i y _ e).1,λz=>?_,a5,λa v e=>?_⟩;·rw[m];intro z;have z':l.ad x=C:=z;have f:h.get? (l.ad x)=some oa:=f;rw[z',I]at f;exact ca f
   · rcases bX.mp z with z|q
     · rcases bX.mp z with⟨o,q⟩|q;·exact q.2.1 (.inr ⟨x,k,p,t,j,rfl⟩)
       ·have z':l.ad x=D:=dI.mp q;have f:h.get? (l.ad x)=some oa:=f;rw[z',V]at f;exact ca f
     ·exact a4 (bX.mpr (.inr q))
   ·rw[s x t];exact a6 a v e
theorem RL.outer(R:RL env g (l.plus Z) σ h H)(m:∀x c,cenv.cells.lookup x=some c->env.cells.lookup x=some c/\env.kindOf x=some .cell/\cenv.kindOf x=some .cell)(s:bD cenv g (yU (ya env cenv.cells σ l.ad l.Y h) (y1 D r)) σi' mi l.cm h2 Hi l.ad)(nD:h.get? D=none)(hC:cenv.locals=C)(T:h.get? C=none)(E:Sb H Hi)(h1:∀x,(cenv.cells.lookup x).isSome=true->bq σ' x=bq σi' x)(h0:∀x,(cenv.cells.lookup x).isSome=false->bq σ' x=bq σ x)(i:∀x k p,(cenv.cells.lookup x).isSome=true->bq σi' x=some (.o k p)->∃k' p',bq σ x=some (.o k' p')):∃G H2,(∃mC,h2.Ns C mC)/\C≠D/\RL env g ⟨yU (yU l.Y (y1 D r)) (y1 C G),l.m,l.cm,l.ad⟩ σ' h2 H2/\(Sb Hi H2):=by
 have J:∀x,(cenv.cells.lookup x).isSome=true->cu cenv mi l.cm x=cu env l.m l.cm x:=by intro x f;obtain⟨c,B⟩:=Option.isSome_iff_exists.mp f;obtain⟨e1,N,e3⟩:=m x c B;unfold cu;rw[N,e3,e1,B]
 have u:∀a,c5 env σ l.ad (dY l.Y) a->¬t7 cenv.cells σ l.ad a->∀o,h.get? a=some o->Up g.fs h2 a o:=λa q n o e=>(s.held a o (.inl ⟨q,n,e⟩)).1;have nL:¬t7 cenv.cells σ l.ad env.locals:=by
   rintro(⟨x,q⟩|⟨x,k,p,U,e,q⟩);·exact(R.cell x _ (m x _ q).1).2.1 rfl
   ·exact(R.own x k p e).nl q
 have nY:∀a o,l.Y a o->¬t7 cenv.cells σ l.ad a:=by
   rintro a o q(⟨x,z⟩|⟨x,k,p,U,e,z⟩);·exact(R.held a o (.inl q)).2.2 x (m x _ z).1
   ·exact(R.own x k p e).ny (z▸⟨o,.inl q⟩)
 have nc:∀n c,env.cells.lookup n=some c->(cenv.cells.lookup n).isSome=false->¬t7 cenv.cells σ l.ad c:=by
   rintro n c e O(⟨x,z⟩|⟨x,k,p,U,e',z⟩);·have:=name_of_addr R.apart (mem_of_lookup e) (mem_of_lookup (m x _ z).1);rw[this,z]at O;exact Bool.noConfusion O
   ·exact(R.own x k p e').nc n (z▸e)
 have no:∀x k p,bq σ x=some (.o k p)->(cenv.cells.lookup x).isSome=false->¬t7 cenv.cells σ l.ad (l.ad x):=by
   rintro x k p e O(⟨y,z⟩|⟨y,k',p',hy,e',z⟩);·exact(R.own x k p e).nc y (m y _ z).1
   ·have:=R.one y x k' k p' p e' e z;rw[<-this,hy]at O;exact Bool.noConfusion O
 have yi:∀a,c5 env σ l.ad (dY l.Y) a->¬t7 cenv.cells σ l.ad a->c5 cenv σi' l.ad (dY (yU (ya env cenv.cells σ l.ad l.Y h) (y1 D r))) a:=λa q n=>by obtain⟨o,e⟩:=bD.exThere R (zv q);exact .inr (.inr (.inr (bX.mpr (.inl ⟨o,q,n,e⟩))))
 obtain⟨G,ab,aa,eC,rC⟩:=id s.fr.ns;rw[hC]at eC;have hD:=s.held D r (.inr ⟨rfl,rfl⟩);have ac:C≠D:=λz=>hD.2.1 (by rw[hC,z]);have ah:∀a,c5 env σ l.ad (dY l.Y) a->a≠C:=λa q z=>by obtain⟨o,e⟩:=bD.exThere R (zv (Z:=Z) q);rw[z,T]at e;exact ca e
 have M:∀a,c5 env σ' l.ad (dY (yU (yU l.Y (y1 D r)) (y1 C G))) a->c5 cenv σi' l.ad (dY (yU (ya env cenv.cells σ l.ad l.Y h) (y1 D r))) a:=by
   rintro a(q|⟨x,q⟩|⟨x,k,p,e,q⟩|q);·rw[q];exact yi _ (.inl rfl) nL
   ·cases f:(cenv.cells.lookup x).isSome with|true=>obtain⟨c,B⟩:=Option.isSome_iff_exists.mp f;have:=(m x c B).1;rw[q]at this;obtain rfl:=A0 this;exact .inr (.inl ⟨x,B⟩)|false=>exact yi a (.inr (.inl ⟨x,q⟩)) (nc x a q f)
   ·cases f:(cenv.cells.lookup x).isSome with|true=>rw[h1 x f]at e;exact .inr (.inr (.inl ⟨x,k,p,e,q⟩))|false=>rw[h0 x f]at e;exact q▸yi _ (.inr (.inr (.inl ⟨x,k,p,e,rfl⟩))) (no x k p e f)
   · rcases bX.mp q with q|q
     · rcases bX.mp q with⟨o,q⟩|q;·exact yi a (.inr (.inr (.inr ⟨o,q⟩))) (nY a o q)
       ·exact .inr (.inr (.inr (bX.mpr (.inr q))))
     ·exact .inl (by rw[dI.mp q,hC])
 have sub:∀a o,Hi a o->Fz h2 (c5 env σ' l.ad (dY (yU (yU l.Y (y1 D r)) (y1 C G)))) a o:=by have:=s.isH;rw[this];exactλa o q=>⟨q.1,λz=>q.2 (M a z)⟩
 obtain⟨oL,es,ep,hL,hq⟩:=id R.fr.ns;have ag:∀a,h.get? a=none->∀o,h.get? a≠some o:=λa e o z=>by rw[e]at z;exact ca z
 refine⟨G,_,⟨mi,G,ab,aa,eC,rC⟩,ac,⟨⟨Up.ns R.fr.ns (u _ (.inl rfl) nL),s.fr.keep,s.fr.old,R.fr.above⟩,R.ff,λa q=>⟨(R.frs a q).1.imp id λz=>?_,(s.frs a q).2⟩,λn c e=>?_,R.apart,rfl,λa o q=>?_,λx d e=>?_,λx k p e=>?_,λx y k k' p p' e1 N q=>?_⟩,sub⟩
 · rcases bX.mp z with z|⟨o,z⟩;·exact bX.mpr (.inl (bX.mpr (.inl z)))
   · have t:=(s.frs a q).1;rcases t with t|t;·exact bX.mpr (.inr (dI.mpr (by rw[t,hC])))
     · rcases bX.mp t with⟨o',t⟩|t
       · rcases t.1 with y|⟨x,y⟩|⟨x,k,p,e,y⟩|y;·exact((R.held a o (.inr z)).2.1 y).elim
         ·exact((R.held a o (.inr z)).2.2 x y).elim
         ·exact((R.own x k p e).ny (y▸⟨o,.inr z⟩)).elim
         ·exact bX.mpr (.inl (bX.mpr (.inl y)))
       ·exact bX.mpr (.inl (bX.mpr (.inr t)))
 ·obtain⟨ae,b,c'⟩:=R.cell n c e;cases f:(cenv.cells.lookup n).isSome with|true=>obtain⟨c2,B⟩:=Option.isSome_iff_exists.mp f;have:=(m n c2 B).1;rw[e]at this;obtain rfl:=A0 this;exact⟨(s.cell n c B).1,b,c'⟩|false=>exact⟨Up.cell ae (u c (.inr (.inl ⟨n,e⟩)) (nc n c e f)),b,c'⟩
 · rcases q with(q|⟨rfl,rfl⟩)|⟨rfl,rfl⟩;·obtain⟨e,n1,n2⟩:=R.held a o (.inl q);exact⟨e.trans (u a (.inr (.inr (.inr ⟨o,q⟩))) (nY a o q)),n1,n2⟩
   · refine⟨hD.1,λz=>?_,λn z=>?_⟩;·rw[z,hL]at nD;exact ca nD.symm
     ·obtain⟨⟨o',i,U⟩,U⟩:=R.cell n a z;rw[nD]at i;exact ca i
   · refine⟨.of eC,λz=>?_,λn z=>?_⟩;·rw[z,hL]at T;exact ca T.symm
     ·obtain⟨⟨o',i,U⟩,U⟩:=R.cell n _ z;rw[T]at i;exact ca i
 ·cases f:(cenv.cells.lookup x).isSome with|true=>rw[h1 x f]at e;obtain⟨v,hv,dv⟩:=s.fro x d e;exact⟨v,(J x f).symm.trans hv,dv.mono sub⟩|false=>rw[h0 x f]at e;obtain⟨v,hv,dv⟩:=R.fro x d e;exact⟨v,hv,dv.mono λa o q=>sub a o (E a o q)⟩
 · have Q:∀I,h.get? (l.ad x)=some I->¬dY l.Y (l.ad x)->¬dY (yU (yU l.Y (y1 D r)) (y1 C G)) (l.ad x):=λI j L z=>by
     rcases bX.mp z with z|z
     · rcases bX.mp z with z|z;·exact L z
       ·have z':l.ad x=D:=dI.mp z;rw[z',nD]at j;exact ca j
     ·have z':l.ad x=C:=dI.mp z;rw[z',T]at j;exact ca j
   cases f:(cenv.cells.lookup x).isSome with|true=>rw[h1 x f]at e;obtain⟨V,a1,a2,a3,a4,a5,a6⟩:=s.own x k p e;obtain⟨k0,p0,e0⟩:=i x k p f e;obtain⟨af,b1,b2,b3,L,b5,b6⟩:=R.own x k0 p0 e0;obtain⟨I,j⟩:=af.there;rw[J x f]at V a6;exact⟨V.mono sub λU=>id,b1,b2,b3,Q I j λz=>L (bX.mpr (.inl z)),b5,a6⟩|false=>rw[h0 x f]at e;obtain⟨V,b1,b2,b3,L,b5,b6⟩:=R.own x k p e;obtain⟨I,j⟩:=V.there;exact⟨V.mono (λa o q=>sub a o (E a o q)) λo N=>(u _ (.inr (.inr (.inl ⟨x,k,p,e,rfl⟩))) (no x k p e f) o N).at b5,b1,b2,b3,Q I j λz=>L (bX.mpr (.inl z)),b5,b6⟩
 · have Y:∀x k p,bq σ' x=some (.o k p)->∃k' p',bq σ x=some (.o k' p'):=λx k p e=>by cases f:(cenv.cells.lookup x).isSome with|true=>rw[h1 x f]at e;exact i x k p f e|false=>rw[h0 x f]at e;exact⟨_,_,e⟩
   obtain⟨U,U,f1⟩:=Y x _ _ e1;obtain⟨U,U,f2⟩:=Y y _ _ N;exact R.one x y _ _ _ _ f1 f2 q
end
def iy(A:Around)(env:Env)(g:Gr)(i:List Expr)(σ:Sig)(b:Bool)(σ':Sig):Prop:=match i with|[]=>b=true/\σ'=σ|[c]=>Tr A env g c σ b σ'|_=>False
inductive eA(A:Around)(env:Env)(g:Gr)(x:PySem.Str)(ifs:List Expr)(elt:Expr):List D->Sig->List D->Sig->Prop|nil{σ:Sig}:eA A env g x ifs elt [] σ [] σ|take{d e:D}{ds es:List D}{σ σ₁ σ₂ σ':Sig}:iy A env g ifs (bO σ x (.v d)) true σ₁->Ev A env g elt σ₁ e σ₂->eA A env g x ifs elt ds σ₂ es σ'->eA A env g x ifs elt (d::ds) σ (e::es) σ'|skip{d:D}{ds es:List D}{σ σ₁ σ':Sig}:iy A env g ifs (bO σ x (.v d)) false σ₁->eA A env g x ifs elt ds σ₁ es σ'->eA A env g x ifs elt (d::ds) σ es σ'
set_option tactic.hygienic true in theorem lc:∀{names:List (PySem.Str×NameKind)}{cs:List (PySem.Str×Addr)}{x:PySem.Str},((eT a names cs).lookup x).isSome=true↔(cs.lookup x).isSome=true\/(x∈bB names/\(a.lookup x).isSome=true):=by intro z;induction z with|nil=>intro cs x;simp[eT,bB]|cons p r l=>
   obtain⟨n,k⟩:=p;intro cs x;have i:bB ((n,k)::r)=if(k==NameKind.free)=true then n::bB r else bB r:=by unfold bB;rw[List.filter_cons];split<;>simp_all
   unfold eT;split;·rename_i c b d;rw[l,i,if_pos b,AK];cases j:x==n with|true=>have:=Ac.mp j;subst this;simp[d]|false=>
       have:x≠n:=by simpa using j
       simp[this]
   · rename_i f;rw[l,i];by_cases e:(k==NameKind.free)=true
     · rw[if_pos e];have:a.lookup n=none:=by cases q:a.lookup n with|none=>rfl|some c=>exact(f c e q).elim
       constructor
       · rintro(h|⟨b,d⟩);·exact .inl h
         ·exact .inr ⟨A5 _ b,d⟩
       · rintro(h|⟨b,d⟩);·exact .inl h
         · rcases A6.mp b with rfl|b;·rw[this]at d;exact Bool.noConfusion d
           ·exact .inr ⟨b,d⟩
     ·rw[if_neg e]
section
variable{A:Around}{env:Env}{g:Gr}{σ σ' σi σi':Sig}{k:Nat}
structure oH(env:Env)(scope:Scope)(x:PySem.Str)(cl:List (PySem.Str×Addr)):Prop where
 clos:closureFor scope env=pure cl
 cells:∀y c,cl.lookup y=some c->env.cells.lookup y=some c/\env.kindOf y=some .cell/\(relabel scope env).names.lookup y=some .cell
 apart:cl.Pairwise λx y=>x.2≠y.2
 nocell:∀y∈scope.names,y.2≠.cell
 kind:scope.kind=.function
 names:∀y∈scope.names,y.2=.local->scope.names.lookup y.1=some .local
 var:scope.names.lookup x=some .local
theorem ta(vs:List Value)(n:Nat)(u:Value):bA (vs++[u]) n={cls:=.type "list",data:=.seq (vs.toArray.push u) n}:=by simp
theorem wm{Q:n->Shared->Prop}{E:Value->Shared->Prop}{F:Addr->Obj->Prop}{l:Lay}{s a:Shared}{H:Addr->Obj->Prop}(go:∀(Q₁:Unit->Shared->Prop)(b:Value->Shared->Prop),(∀h' c H' Z',vV A cenv g (.Name x f) i F ds Z'->gz cenv g l.Y Z'->RL cenv g (l.plus Z') e h' H'->Sb H H'->cx H' v d->Q₁ () (uS s h' c))->wpAny (model P0 w) A (letOwnedTupleGo (.Name x f) i v) Q₁ b a)(K:∀h' c H' Z',vV A cenv g (.Name x f) i F ds Z'->gz cenv g l.Y Z'->RL cenv g (l.plus Z') e h' H'->Sb H H'->cx H' v d->wpAny (model P0 w) A t Q E (uS s h' c)):wpAny (model P0 w) A t Q E a:=by have q:=go (λU m=>wpAny (model P0 w) A t Q E m) (λU U=>True) K;exactλj p h=>(show wpAny (model P0 w) A t Q E a from q j p h) j p h
inductive LL(A:Around)(ce env:Env)(g:Gr)(x:PySem.Str)(ifs:List Expr)(elt:Expr)(σ':Sig)(tg:Expr)(it:Value)(F:Addr->Obj->Prop)(Yi:Yd)(Da:Addr)(cm:PySem.Str->Option Value)(ad:PySem.Str->Addr)(H₀:Addr->Obj->Prop)(al:List D)(s₀:Shared)(nn:Nat)(s:Shared):Prop|mk(ds done es:List D)(Z:Yd)(mi:PySem.Str->Option Value)(vs:List Value)(n:Nat)(Hi:Addr->Obj->Prop)(σi:Sig)(e:nn=ds.length)(hL:eA A ce g x ifs elt ds σi es σ')(hes:al=done++es)(hS:vV A ce g tg it F ds Z)(hZ:gz env g (yU Yi (y1 Da (bA vs n))) Z)(R:bD ce g (yU (yU Yi (y1 Da (bA vs n))) Z) σi mi cm s.heap Hi ad)(hH:Sb F Hi)(h0:Sb H₀ Hi)(hd:bM Hi vs done)(hs:∃h tk,s=(uS s₀ h tk))
set_option tactic.hygienic true in theorem wC{F:Addr->Obj->Prop}{Yi:Yd}{t:PySem.Str->Option Value}{ad:PySem.Str->Addr}{R:Result->Shared->Prop}{s₀:Shared}{H₀:Addr->Obj->Prop}{esAll:List D}(ag:oH env scope x cl)(aA:C≠Da)(ap:g.get? Da=none)(ac:Da∉g.fs)(ao:¬dY Yi Da)(ah:esAll.length<=16777216)(ae:∀m vs n h tk H,bD (compEnvC scope cl C env) g (yU Yi (y1 Da (bA vs n))) σi' m t h H ad->Sb H₀ H->bM H vs esAll->R (.ok .next) (uS s₀ h tk)){Z:Yd}{m:PySem.Str->Option Value}{s:Shared}{H:Addr->Obj->Prop}(hL:eA A (compEnvC scope cl C env) g x Y ab ds σi es σi')(i:esAll=done++es)(hS:vV A (compEnvC scope cl C env) g (.Name x px) it F ds Z)(hZ:gz env g (yU Yi (y1 Da (bA vs n))) Z)(Ri:bD (compEnvC scope cl C env) g (yU (yU Yi (y1 Da (bA vs n))) Z) σi m t s.heap H ad)(N:Sb F H)(B:Sb H₀ H)(O:bM H vs done)(hs:∃h tk,s=(uS s₀ h tk)):codeAny (model P0 w) A (.compLoop (.ListComp ab [⟨.Name x px,az,Y,0⟩] scope pos) 0 it (.ref Da) (compEnvC scope cl C env)) R s:=by
 refine codeAny_compLoop_tests (LL A (compEnvC scope cl C env) env g x Y ab σi' (.Name x px) it F Yi Da t ad H₀ esAll s₀) ?_ ds.length ⟨ds,done,es,Z,m,vs,n,H,σi,rfl,hL,i,hS,hZ,Ri,N,B,O,hs⟩;clear hL i hS hZ Ri N B O hs;refine DN λG hG=>?_;rintro nn s⟨ds,done,es,Z,m,vs,n,H,σi,rfl,hL,i,hS,hZ,Ri,N,B,O,ay,ax,rfl⟩;have j:(compEnvC scope cl C env).kindOf x=some .local:=lookup_relabel_local ag.var;have l:((compEnvC scope cl C env).scope.kind==.class||((compEnvC scope cl C env).scope.kind==.module&&(compEnvC scope cl C env).locals !=(compEnvC scope cl C env).globals))=false:=by simp[compEnvC,relabel,ag.kind]
 cases hL with|nil=>refine hG _ _ ?_;refine hS ⟨yU Yi (y1 Da (bA vs n)),m,t,ad⟩ _ H _ _ _ Ri hZ N λh' tk H' p sub=>?_;rw[List.append_nil]at i;subst i;exact ae m vs n h' tk H' p (λa o q=>sub a o (B a o q)) (O.mono sub)|take ht he hr=>
  rename_i d e I am aa ak;refine hG _ _ ?_;refine hS ⟨yU Yi (y1 Da (bA vs n)),m,t,ad⟩ _ H _ _ _ Ri hZ N λv ai go=>?_;refine wm go λh2 aw H2 Z' S' Z1 p f dv=>?_;have p:bD (compEnvC scope cl C env) g (yU (yU Yi (y1 Da (bA vs n))) Z') σi m t h2 H2 ad:=p;refine PyProof.Rows.assign_Name (wpAny_storeName_local j p.fr.ns (λh3 T V=>?_) l);have L:=bD.store p dv (w3.local p j T V);have ar:∀{Q:Bool->Shared->Prop}{E:Value->Shared->Prop}{aj:Nat},(∀h' tk H',bD (compEnvC scope cl C env) g (yU (yU Yi (y1 Da (bA vs n))) Z') aa (λy=>if y=x then some v else m y) t h' H' ad->(∀a o,Fz h3 (c5 (compEnvC scope cl C env) (bO σi x (Slot.v d)) ad (dY (yU (yU Yi (y1 Da (bA vs n))) Z'))) a o->H' a o)->Q true (uS s₀ h' tk))->wpAny (model P0 w) A (forIn Y true λc r=>if r=true then do let ok<-PySem.isTrue c (compEnvC scope cl C env) (eval c (compEnvC scope cl C env));pure (ForInStep.yield ok)else pure (ForInStep.yield r)) Q E (uS s₀ h3 aj):=by
   intro Q E aj K;unfold iy at ht;split at ht;·obtain⟨U,rfl⟩:=ht;exact wpAny_tests_nil (K h3 _ _ L.1 λa o(z:Fz h3 _ a o)=>z)
   ·refine wpAny_tests_one (ht ⟨yU (yU Yi (y1 Da (bA vs n))) Z',λy=>if y=x then some v else m y,t,ad⟩ _ _ _ _ L.1 λh4 M H4 R4 b=>K h4 M H4 R4 b)
   ·exact ht.elim
  refine ar λh4 M H4 R4 b=>?_;rw[if_pos rfl];refine he ⟨yU (yU Yi (y1 Da (bA vs n))) Z',λy=>if y=x then some v else m y,t,ad⟩ (uS s₀ h4 M) H4 _ _ R4 λu h5 aB H5 R5 J du=>?_;have an:h5.get? Da=some (bA vs n):=(R5.held Da _ (.inl (.inr ⟨rfl,rfl⟩))).1.at ac;have aq:=(((O.mono f).mono L.2).mono b).mono J;refine wpAny_list_append_plain (⟨n,an⟩:h5.PlainList Da vs.toArray) (λh6 as av=>?_) (by rw[AA,O.length,sizeLine_eq];rw[i,AX]at ah;exact A1 (A7 _ _) ah);obtain⟨n',au⟩:=as;have af:h6.get? Da=some (bA (vs++[u]) n'):=by rw[au,ta]
  have al:bD (compEnvC scope cl C env) g (yU (yU Yi Z') (y1 Da (bA vs n))) ak (λy=>if y=x then some v else m y) t h5 H5 ad:=by rw[kg];exact R5
  have q6:=bD.turn (Z':=y1 Da (bA (vs++[u]) n')) (h':=h6) al (λa o e nz=>(av.2 a λz=>nz (dI.mpr z)).trans e) (jF ⟨ap,λy=>(bX.mp y).elim ao λy=>(Z1 Da y).2.1 (bX.mpr (.inr (dI.mpr rfl))),ac⟩) (ve ⟨af,.inl (dI.mpr rfl)⟩);rw[kg]at q6;refine⟨I.length,Nat.lt_succ_self _,I,done++[e],am,Z',_,vs++[u],n',_,ak,rfl,hr,by rw[i];simp,S',λa z=>?_,q6.1,λa o q=>q6.2 a o (J a o (b a o (L.2 a o (f a o (N a o q))))),λa o q=>q6.2 a o (J a o (b a o (L.2 a o (f a o (B a o q))))),(aq.append (.cons du .nil)).mono q6.2,_,_,rfl⟩;obtain⟨z1,z2,z3⟩:=Z1 a z;exact⟨z1,λy=>z2 ((bX.mp y).elim (λy=>bX.mpr (.inl y)) λy=>bX.mpr (.inr (dI.mpr (dI.mp y)))),z3⟩|skip ht hr=>
  rename_i d I aa;refine hG _ _ ?_;refine hS ⟨yU Yi (y1 Da (bA vs n)),m,t,ad⟩ _ H _ _ _ Ri hZ N λv ai go=>?_;refine wm go λh2 aw H2 Z' S' Z1 p f dv=>?_;have p:bD (compEnvC scope cl C env) g (yU (yU Yi (y1 Da (bA vs n))) Z') σi m t h2 H2 ad:=p;refine PyProof.Rows.assign_Name (wpAny_storeName_local j p.fr.ns (λh3 T V=>?_) l);have L:=bD.store p dv (w3.local p j T V);unfold iy at ht;split at ht;·cases ht.1
  ·refine wpAny_tests_one (ht ⟨yU (yU Yi (y1 Da (bA vs n))) Z',λy=>if y=x then some v else m y,t,ad⟩ _ _ _ _ L.1 λh4 M H4 R4 b=>?_);rw[if_neg (by decide)];exact⟨I.length,Nat.lt_succ_self _,I,done,es,Z',_,vs,n,_,aa,rfl,hr,i,S',Z1,R4,λa o q=>b a o (L.2 a o (f a o (N a o q))),λa o q=>b a o (L.2 a o (f a o (B a o q))),((O.mono f).mono L.2).mono b,_,_,rfl⟩
  ·exact ht.elim
end
section
variable{A:Around}{env:Env}{g:Gr}{σ σ' σ₁ σi σi':Sig}{k:Nat}
theorem mW{F:Addr->Obj->Prop}{cl:List (PySem.Str×Addr)}{RR:Value->Addr->Result->Shared->Prop}{s:Shared}{H:Addr->Obj->Prop}{ds es:List D}{Z:Yd}{l:Lay}{E:Value->Shared->Prop}(j:oH env scope x cl)(hc:∀C,eA A (compEnvC scope cl C env) g x T J ds σi es σi')(hS:∀L,vV A L g (.Name x px) it F ds Z)(hI:nt A g it F Z)(hZ:gz env g l.Y Z)(R:RL env g (l.plus Z) σ₁ s.heap H)(hF:Sb F H)(ai:∀y sl,bq σi y=some sl->bq σ₁ y=some sl/\(cl.lookup y).isSome=true)(h1:∀y,(cl.lookup y).isSome=true->bq σ' y=bq σi' y)(h0:∀y,(cl.lookup y).isSome=false->bq σ' y=bq σ₁ y)(ho:∀y k p,(cl.lookup y).isSome=true->bq σi' y=some (.o k p)->∃k' p',bq σ₁ y=some (.o k' p'))(aj:es.length<=16777216)(af:∀Da C oC vs n h tk i,RL env g ⟨yU (yU l.Y (y1 Da (bA vs n))) (y1 C oC),l.m,l.cm,l.ad⟩ σ' h i->Sb H i->bM i vs es->(∃mC,h.Ns C mC)->C≠Da->(g.get? C=none/\¬dY l.Y C/\C∉g.fs)->(g.get? Da=none/\¬dY l.Y Da/\Da∉g.fs)->RR (.ref Da) C (.ok .next) (uS s h tk)):wpAny (model P0 w) A (newList []) (λacc f=>wpAny (model P0 w) A (newFunctionEnv scope env.globals cl [] env.qual none .none (some env)) (λcenv ab=>codeAny (model P0 w) A (.compStart (.ListComp J [⟨.Name x px,U,T,0⟩] scope pos) 0 it acc {cenv with scope:=relabel scope env}) (RR acc cenv.locals) ab) E f) E s:=by
 refine wpAny_newObj_type (wpAny_newFunctionEnv j.nocell (by intro y hy;simp at hy) (λm d c=>?_) j.kind);dsimp only at d c⊢;generalize I:s.heap.push {cls:=.type "list",dict:=none,data:=.seq ([]:List Value).toArray}=i at d c⊢;have hC:i.objs.size=s.heap.objs.size+1:=by rw[<-I,Heap.size_push]
 have G:s.heap.objs.size≠i.objs.size:=by rw[hC];exact AY (Nat.lt_succ_self _)
 have r:s.heap.objs.size<=i.objs.size:=by rw[hC];exact AV _
 have ak:Hk s.heap m:=λb o e=>c.extBut b o (by rw[hC];exact AY (Nat.lt_succ_of_lt (AG e))) (A2 _ (I▸A2 _ e));have O:m.get? s.heap.objs.size=some (bA [] 0):=c.extBut _ _ G (A2 _ (I▸AH _ rfl));have V:s.heap.get? s.heap.objs.size=none:=Heap.get?_none_of_le (AT _);have nC:s.heap.get? i.objs.size=none:=Heap.get?_none_of_le r;have M:=bD.fresh R V;have fC:=bD.fresh R nC;have v:∀{a:Addr},¬dY (l.plus Z).Y a->¬dY l.Y a:=λn z=>n (bX.mpr (.inl z));obtain⟨Hi,Ri,sub⟩:=RL.inner (cenv:=compEnvC scope cl i.objs.size env) (D:=s.heap.objs.size) R hZ j.cells j.apart rfl rfl ai ak nC V G d O r;have aa:¬dY (ya env cl σ₁ l.ad l.Y s.heap) s.heap.objs.size:=λ⟨o,q⟩=>by have:=q.2.2;rw[V]at this;exact ca this
 have N:gz env g (yU (ya env cl σ₁ l.ad l.Y s.heap) (y1 s.heap.objs.size (bA [] 0))) Z:=by
   intro a z;obtain⟨z1,z2,z3⟩:=hZ a z;refine⟨z1,λy=>?_,z3⟩;obtain⟨oz,Q⟩:=z;have hz:=R.held a oz (.inr Q);rcases bX.mp y with⟨o,y⟩|y
   · rcases y.1 with y|⟨n,y⟩|⟨n,k',p,e,y⟩|y;·exact hz.2.1 y
     ·exact hz.2.2 n y
     ·exact(R.own n k' p e).ny (y▸⟨oz,.inr Q⟩)
     ·exact z2 y
   ·obtain⟨o',e⟩:=hz.1.there;rw[dI.mp y,V]at e;exact ca e
 have u:∀f:Shared,f=(uS s m (s.toks+([]:List (PySem.Str×Value)).length))->codeAny (model P0 w) A (.compLoop (.ListComp J [⟨.Name x px,U,T,0⟩] scope pos) 0 it (.ref s.heap.objs.size) (compEnvC scope cl i.objs.size env)) (RR (.ref s.heap.objs.size) i.objs.size) f:=by rintro f rfl;refine wC (s₀:=s) (H₀:=H) (F:=F) (Yi:=ya env cl σ₁ l.ad l.Y s.heap) (esAll:=es) (done:=[]) j G.symm M.1 M.2.2 aa aj (λmi vs n h tk al ae t hd=>?_) (hc _) rfl (hS _) N Ri (λa o q=>sub a o (hF a o q)) sub .nil ⟨_,_,rfl⟩;obtain⟨oC,ac,ah,ag,R2,B⟩:=RL.outer (C:=i.objs.size) R j.cells ae V rfl nC t h1 h0 ho;exact af _ _ oC vs n h tk ac R2 (λa o q=>B a o (t a o q)) (hd.mono B) ah ag ⟨fC.1,v fC.2.1,fC.2.2⟩ ⟨M.1,v M.2.1,M.2.2⟩
 refine codeAny_compStart_list (u _ rfl) (hI (compEnvC scope cl i.objs.size env) ⟨yU (ya env cl σ₁ l.ad l.Y s.heap) (y1 s.heap.objs.size (bA [] 0)),_,l.cm,l.ad⟩ _ _ _ _ _ Ri N (λa o q=>sub a o (hF a o q)) (u _ rfl))
theorem BX{cl:List (PySem.Str×Addr)}{ds es:List D}(hn:iG i=true)(hi:Er A env g (.Name x px) i σ ds σ₁)(b:oH env scope x cl)(hc:∀C,eA A (compEnvC scope cl C env) g x G m ds σi es σi')(v:∀y I,bq σi y=some I->bq σ₁ y=some I/\(cl.lookup y).isSome=true)(U:∀y,(cl.lookup y).isSome=true->bq σ' y=bq σi' y)(T:∀y,(cl.lookup y).isSome=false->bq σ' y=bq σ₁ y)(ho:∀y k p,(cl.lookup y).isSome=true->bq σi' y=some (.o k p)->∃k' p',bq σ₁ y=some (.o k' p'))(B:es.length<=16777216):x5 A env g (.ListComp m [⟨.Name x px,i,G,0⟩] scope pos) σ (.list es) σ':=by intro l s H Q E R K;rw[eval_ListComp];refine wpAny_comprehension_free (use:=none) rfl (gd hn env) b.clos b.kind b.names (hi l s H _ E R λit h2 aa J Z F V d S N O L=>?_);refine mW (RR:=λacc C=>compPost (model P0 w) A E none Q acc C) (H:=J) b hc S N O L d v U T ho B λDa C oC vs n h tk H3 M f hd c t r j=>?_;obtain⟨mC,c⟩:=c;refine⟨mC,c,λh' u=>?_⟩;have q:=bD.turn (Y:=yU l.Y (y1 Da (bA vs n))) (Z:=y1 C oC) (Z':=y0) (h':=h') M (λa o e nz=>(u.2 a λz=>nz (dI.mpr z)).trans e) (λa z=>by rw[dI.mp z];exact⟨r.1,λy=>(bX.mp y).elim r.2.1 λy=>t (dI.mp y),r.2.2⟩) (λa o z=>z.elim);rw[pB]at q;refine K (.ref Da) h' tk _ Da (bA vs n) q.1 (λa o z=>q.2 a o (f a o (d a o (V a o z)))) ⟨rfl,vs,n,?_,hd.mono q.2⟩ j.1 j.2.1 j.2.2;exact(q.1.held Da _ (.inr ⟨rfl,rfl⟩)).1.at j.2.2
theorem pJ{pos d:Pos}{cl:List (PySem.Str×Addr)}{ds es:List D}(O:cj env)(hn:iG i=true)(hy:k6 env y)(ag:swapsWith (.ListComp f [⟨.Name x px,i,r,0⟩] scope pos) (some (.Name y v)) d.line env=pure true)(hi:Er A env g (.Name x px) i σ ds σ₁)(c:oH env scope x cl)(hc:∀C,eA A (compEnvC scope cl C env) g x r f ds σi es σi')(af:∀y sl,bq σi y=some sl->bq σ₁ y=some sl/\(cl.lookup y).isSome=true)(h1:∀y,(cl.lookup y).isSome=true->bq σ' y=bq σi' y)(h0:∀y,(cl.lookup y).isSome=false->bq σ' y=bq σ₁ y)(ho:∀y k p,(cl.lookup y).isSome=true->bq σi' y=some (.o k p)->∃k' p',bq σ₁ y=some (.o k' p'))(ah:es.length<=16777216):kx A env g (.Assign [.Name y v] (.ListComp f [⟨.Name x px,i,r,0⟩] scope pos) d) σ .next (bO σ' y (.o (.list es) none)):=by
 rintro Y s H Q E⟨m,N,ad,R⟩K;rw[exec_Assign_Name_used _ _ _ _ ag];refine A9 (wpAny_standAt (A9 ?_));show wpAny _ A (do let _<-comprehension (.ListComp f [⟨.Name x px,i,r,0⟩] scope pos) scope env _ (newList []) false (eval i env) (some (assign (.Name y v) env))) _ _ s;refine A9 (wpAny_mono (wpAny_comprehension_free (use:=some (assign (.Name y v) env)) (Q:=λU L=>Q .next L) rfl (gd hn env) c.clos c.kind c.names (hi ⟨Y,m,N,ad⟩ s H _ E R λit h2 ak H2 Z F hF u S S1 Z1 R2=>?_)) (λU L hq=>AC (AC hq)) λU U e=>e);refine mW (l:=⟨Y,m,N,ad⟩) (RR:=λacc C=>compPost (model P0 w) A E (some (assign (.Name y v) env)) (λU L=>Q .next L) acc C) (H:=H2) c hc S S1 Z1 R2 u af h1 h0 ho ah λDa C oC vs n h tk H3 R3 B hd ac ab fC J=>?_;refine cI λG hG=>?_;obtain⟨mC,aj,aa,V,eC,rC⟩:=ac;refine hG ?_;have j:=(R3.held C oC (.inr ⟨rfl,rfl⟩));have t:=j.1.at fC.2.2;rw[t]at eC;obtain rfl:=A0 eC;show wpAny _ A (assign (.Name y v) env (.ref Da)) _ _ _;have b:bD env g (yU (yU Y (y1 C oC)) (y1 Da (bA vs n))) σ' m N h H3 ad:=by rw[kg];exact R3
 refine PyProof.Rows.assign_Name (nH (s:=(uS s h tk)) O hy b λh3 ai m' T p=>?_);refine cI λG hG=>?_;obtain⟨U,kh,U,U⟩:=p.keep b;obtain⟨M,H4,R4,I⟩:=bD.storeO (k:=.list es) b ⟨rfl,vs,n,(b.held Da _ (.inr ⟨rfl,rfl⟩)).1.at J.2.2,hd⟩ J.1 (λz=>(bX.mp z).elim J.2.1 λz=>ab (dI.mp z).symm) J.2.2 p;refine hG ?_;refine⟨mC,⟨_,aa,V,kh C _ t j.2.1 j.2.2,rC⟩,λh5 ae=>?_⟩;have q:=bD.turn (Y:=Y) (Z:=y1 C oC) (Z':=y0) (h':=h5) R4 (λa o e nz=>(ae.2 a λz=>nz (dI.mpr z)).trans e) (λa z=>by rw[dI.mp z];exact fC) (λa o z=>z.elim);rw[pB]at q;exact K .next h5 ai _ ⟨m',T,M,q.1⟩ (λa o z=>q.2 a o (I a o (B a o (u a o (hF a o z))))) trivial
end
noncomputable def B4(n:Nat)(ds2:List (Int×D)):List (Int×D)->Option Bool|[]=>some true|(k,d)::r=>match dc ds2 k with|none=>some false|some e=>match l7 n d e,B4 n ds2 r with|some a,some b=>some (a&&b)|_,_=>none
section
variable{A:Around}
set_option tactic.hygienic true in theorem y2{s:Shared}{E:Addr->Prop}{n:Nat}{kb:List (Int×Value)}{ds2:List (Int×D)}(hb:jK (Fz s.heap E) kb ds2)(q:A.units+n<cLine){l:List (Int×Value)}{ds1:List (Int×D)}{b:Bool}(p:jK (Fz s.heap E) l ds1):B4 n ds2 ds1=some b->KeqHits A s kb l b:=by induction p generalizing b with|nil=>exactλh=>A0 h▸.nil|cons o r t=>
 rename_i i v d kvs ds;intro h;unfold B4 at h;rcases hb.get i with⟨g,j⟩|⟨m,u,g,j,f⟩;·rw[g]at h;obtain rfl:=A0 h;exact .miss j
 ·rw[g]at h;dsimp only at h;cases e:l7 n d m with|none=>rw[e]at h;exact ca h|some a=>cases k:B4 n ds2 ds with|none=>rw[e,k]at h;exact ca h|some c=>rw[e,k]at h;obtain rfl:=A0 h;exact .hit j (yJ n e o f q).1 (t k)
theorem ln{ds1 ds2:List (Int×D)}{b:Bool}(i:A.units+8<cLine)(h:B4 5 ds2 ds1=some b):et A (compareOp .NotEq) (.dict ds1) (.dict ds2) (.bool (!(ds1.length==ds2.length&&b)))/\et A (compareOp .Eq) (.dict ds1) (.dict ds2) (.bool (ds1.length==ds2.length&&b)):=by
 have go:∀(s:Shared)(a:Addr->Prop)(u v:Value),cx (Fz s.heap a) u (.dict ds1)->cx (Fz s.heap a) v (.dict ds2)->∃x y k kb,u=.ref x/\v=.ref y/\(x==sysModules)=false/\(y==sysModules)=false/\s.heap.DictOf (intKind P0 w) x k/\s.heap.DictOf (intKind P0 w) y kb/\KeqHits A.in1 s kb k b/\k.length=ds1.length/\kb.length=ds2.length:=by
  intro s a u v d c;obtain⟨U,U,U,rfl,z,r,o⟩:=d.inv;obtain⟨U,U,U,rfl,B,t,p⟩:=c.inv;obtain⟨k,C,y1⟩:=eH z.1 r o.1;obtain⟨kb,G,q⟩:=eH B.1 t p.1;refine⟨_,_,k,kb,rfl,rfl,o.2,p.2,C,G,y2 q (by show A.units+1+5<cLine;exact AR (A7 _ 2) i) y1 h,?_,?_⟩;·have:=congrArg List.length y1.keys;simpa using this
  ·have:=congrArg List.length q.keys;simpa using this
 constructor;·intro s a u v Q E lo d c K;obtain⟨x,y,k,kb,rfl,rfl,j,l,e,f,g,m,n⟩:=go s a u v d c;refine keq_ne j l e f (by exact AR (A7 _ 8) i) (λU=>g) ?_;rw[m,n];exact K _ s.heap s.toks (λU U=>id) (.bool _)
 ·intro s a u v Q E lo d c K;obtain⟨x,y,k,kb,rfl,rfl,j,l,e,f,g,m,n⟩:=go s a u v d c;refine keq_eq j l e f (by exact AR (A7 _ 8) i) (λU=>g) ?_;rw[m,n];exact K _ s.heap s.toks (λU U=>id) (.bool _)
theorem mj(n:b≠l)(e:h.get? b=some o):(sortedHeap h l vs out).get? b=some o:=by unfold sortedHeap;exact iO n (A2 _ (A2 _ (iO n e)))
theorem pv(e:h.get? l=some (bA vs 0)):∃n,(sortedHeap h l vs out).get? l=some (bA out.toList n):=by unfold sortedHeap;obtain⟨f,a⟩:=eN (λU=>#[]) vs 0;have c:=Heap.get?_update_self (Obj.mapSeq λU=>#[]) e (by rw[a];rfl);have g:=A2 (seqObj "list" #[] 0) (A2 (seqObj "tuple" vs.toArray 0) c);rw[a]at g;obtain⟨i,b⟩:=eN (λU=>out) [] f;have d:=Heap.get?_update_self (Obj.mapSeq λU=>out) g (by rw[b];rfl);refine⟨i,d.trans ?_⟩;rw[b]
theorem xI{kvs:List (Int×Value)}(b:kvs.map (·.1)=c):∀{vs:List Value},vs.length=kvs.length->(∀(j:Nat)(v:Value),vs[j]?=some v->∃k x,kvs[j]?=some (k,x)/\(intKind P0 w).is k v=true)->IntsAre vs c:=by subst b;induction kvs with
 |nil=>intro vs a _;cases vs with|nil=>exact .nil|cons _ _=>exact nomatch a
 |cons p r i=>intro vs a h;cases vs with|nil=>exact nomatch a|cons v vs=>obtain⟨k,x,e,b⟩:=h 0 v rfl;simp at e;subst e;obtain⟨t,rfl⟩:=Value.isInt_shape b;exact .cons _ _ (i (by exact Nat.succ.inj a) λj u e=>by simpa using h (j+1) u (by exact e))
theorem vf{ds:List (Int×D)}(I:A.handled=none)(i:ds.length<64):Bc A (.builtin "sorted") [.dict ds] (.slist ((cY (ds.map (·.1))).map (ku b))):=by
 intro s M O Q E lo d K;obtain⟨v,rfl,B⟩:=gA d;obtain⟨a,es,n,rfl,G,H,r⟩:=B.inv;obtain⟨kvs,L,y⟩:=eH G.1 H r.1;obtain⟨ep,c⟩:=L.dictAt;have lk:kvs.length=ds.length:=by have:=congrArg List.length y.keys;simpa using this
 refine call_function_entry kind_sorted plain_sorted entry_sorted (args_sorted1 _) ?_;unfold Builtin.«sorted»;refine A9 (m:=checkCount "sorted" 1 1 _) (AC ?_);refine A9 (kdu_collect (A:=A.in1) (kdl_dict (knd:=intKind P0 w) (kvs:=kvs) (ep:=ep) r.2) I c (by rw[lk,sizeLine_eq];exact wk (Nat.le_of_lt i) rfl) λh' t acc p h=>?_);have f:acc.toList.length=kvs.length:=by rw[Array.length_toList];exact h.1
 have C:IntsAre acc.toList (ds.map (·.1)):=xI y.keys f λj v e=>h.2 j v (by rw[<-Array.getElem?_toList];exact e);refine A9 (wpAny_newList ?_ (by rw[f,lk,sizeLine_eq];exact wk (Nat.le_of_lt i) rfl));have g:(h'.push {cls:=.type "list",data:=.seq acc.toList.toArray}).get? h'.objs.size=some (seqObj "list" acc.toList.toArray 0):=AH _ rfl;refine A9 (wpAny_holding (wpAny_call_entry slot_list_sort ⟨_,g,rfl⟩ entry_list_sort (list_sort_tree (s:=(uS s (h'.push {cls:=.type "list",data:=.seq acc.toList.toArray}) t)) g C (by rw[f,lk];exact i) λout J k u x=>⟨_,rfl,?_⟩) (args_list_sort _)));refine AC ⟨_,rfl,?_⟩;obtain⟨N,e⟩:=pv (out:=out) g;refine K _ _ t (λb o e=>?_) (.slist ⟨e,λz=>?_⟩ ?_);·have l:=p b o e;exact mj (AY (AG l)) (A2 _ l)
 ·obtain⟨o,q⟩:=lo _ z;exact absurd (AG (p _ _ q)) (AU _)
 ·rw[th u x]at k;exact nZ k
noncomputable def gw:List Int->Int|[]=>0|n::r=>n+gw r
theorem lP:∀ns:List Int,preSum (λi=>ns.getD i 0) ns.length=gw ns|[]=>rfl|n::r=>by show preSum _ (r.length+1)=n+gw r;rw[kdu_shift,<-lP r];rfl
theorem GZ(y:A.handled=none)(x:d=.list ds\/d=.slist ds)(r:D.ints ds=some ns):Bc A (.builtin "sum") [d] (ku b (gw ns)):=by
 intro s m G Q E lo f K;obtain⟨v,rfl,p⟩:=gA f;obtain⟨l,vs,n,rfl,dl,c⟩:∃l vs n,v=.ref l/\bM (Fz s.heap m) vs ds/\Fz s.heap m l (bA vs n):=by rcases x with rfl|rfl<;>(obtain⟨_,_,_,rfl,g,dl⟩:=p.inv;exact⟨_,_,_,rfl,dl,g⟩)
 have a:=g3 dl r;have j:s.heap.IsList l vs.toArray:=⟨_,c.1,rfl,n,rfl⟩;refine call_sum_walkAnyS (wpAny_pyIter_list j ?_);refine⟨s.heap.objs.size,_,_,_,_,_,_,λi=>ns.getD i 0,rfl,(Walks.list (A:=A.in1) y s.heap.objs.size l (AY (AG c.1)) vs.toArray).toS,⟨⟨_,AH _ rfl,rfl,rfl⟩,j.push _⟩,λb hb=>?_,λi v h=>?_,λk C q=>?_⟩
 · show b<(s.heap.push _).objs.size;rw[size_push'];rcases A6.mp hb with e|hb;·rw[e];exact Nat.lt_succ_self _
   ·rw[AF.mp hb];exact Nat.lt_succ_of_lt (AG c.1)
 · have h:vs[i]?=some v:=by simpa using h
   clear K j c dl r p lo;induction a generalizing i with|nil=>simp at h|cons n t _ B=>cases i with|zero=>simp at h;subst h;exact⟨t,rfl⟩|succ i=>simpa using B i (by simpa using h) (by simpa using h)
 · have z:Hk s.heap k.heap:=λb o e=>q.heap b o (λa=>absurd (AG e) (by rw[AF.mp a];exact AU _)) (A2 _ e);rw[Moved.eq_with q];have u:vs.toArray.size=ns.length:=by rw[AA,a.length]
   rw[u,lP];exact K _ k.heap k.toks z di
theorem CS(b:PySem.intText? x=some n)(h:Nat.ble x.length 640=true):Bc A (.type "int") [.str x] (.int n):=by intro s c u Q E lo d K;obtain⟨v,rfl,a⟩:=gA d;(first|obtain rfl:=a.inv|obtain⟨_,rfl⟩:=a.inv);exact KIN.call_text b (Nat.le_of_ble_eq_true h) (K _ s.heap _ (λU U=>id) (.int _ _))
end
theorem li:typeLookup (.type "bytes") "__bytes__"=pure (some (.builtin "bytes.__bytes__")):=by rw[typeLookup_type,builtinLookup_eq_fast];kernel_rfl
section
variable{A:Around}
theorem xp(h:Q (.bytes b t) s):codeAny (model P0 w) A (.call (.builtin "bytes.__new__") ⟨[.type "bytes",.bytes b t],[]⟩) (wants Q E) s:=by refine codeAny_of_tree ?_;show wpAny _ A.in1 (do checkBuiltinCall "bytes.__new__" ⟨[.type "bytes",.bytes b t],[]⟩;again (.builtin "bytes.__new__" ⟨[.type "bytes",.bytes b t],[]⟩)) _ _ s;refine A9 (wpAny_of_eq (F.bm_newCall _) (AC ⟨plainId_quiet F.bm_plain _,codeAny_builtin F.bm_entry ?_⟩));rw[Around.under_plainId F.bm_plain _];unfold Builtin.«bytes.__new__»;refine A9 (wpAny_of_eq (a:=true) rfl ?_);refine bm_if_false rfl ?_;refine A9 (wpAny_of_eq F.bm_sub ?_);refine bm_if_false rfl ?_;refine A9 (wpAny_of_eq (F.bm_bind _) ?_);refine A9 (wpAny_of_eq (a:=()) rfl ?_);refine A9 (wpAny_of_eq (a:=()) rfl ?_);refine bm_if_false rfl ?_;refine A9 (wpAny_specialOf (typeIs_bytes s b t) li ?_);dsimp only;refine A9 (wpAny_rule ?_);refine A9 (wpAny_typeOf (typeIs_bytes s b t) ?_);refine bm_if_true rfl ?_;exact AC h
theorem wZ:Bc A (.type "bytes") [.bytes b] (.bytes b):=by intro s e u Q E lo d K;obtain⟨v,rfl,c⟩:=gA d;obtain⟨t,rfl⟩:=c.inv;refine callType_codes (Q₁:=λo a=>a.TypeIs o "bytes"/\Q o a) F.bm_called (F.bm_typeCall _) F.entry_object_init (xp ⟨typeIs_bytes _ _ _,K _ s.heap s.toks (λU U=>id) (.bytes _ _)⟩) λo a h=>?_;exact⟨h.1,F.args_object_init_2 o _,object_init_meets F.bm_called.init.lookup F.bm_called.made (by decide) P0 w A.in1 _ a ⟨h.1,rfl,h.2⟩⟩
end
section
variable{A:Around}{env:Env}{g:Gr}{σ σ' σ₁ σ₂:Sig}{k:Nat}
noncomputable def KG:Value->Bool|.builtin _=>true|.type _=>true|_=>false
theorem qD(d:KG v=true)(c:args.any (·.1)=false)(h:wpAny (model P0 w) A (evalArgs v true args []) (λa b=>wpAny (model P0 w) A (call v (f++a.pos) a.kw) Q E b) E s):wpAny (model P0 w) A (callWith pos v f args []) Q E s:=by cases v with|builtin=>exact Calls.callWith_builtin c h|type=>exact PyProof.Rows.callWith_type c h|_=>exact Bool.noConfusion d
theorem rR(M:Ev A env g (.Name f p) σ (.atom v) σ₁)(N:KG v=true)(j:il A env g es σ₁ ds σ')(L:Bc A v ds d):Ev A env g (.Call (.Name f p) es [] pos) σ d σ':=by intro l s H Q E R K;refine Call_Name rfl (M l s H _ E R λu h' T H' y sub C=>?_);obtain rfl:=C.inv;refine qD N (bZ j) (j.args _ pos l _ H' _ E y λvs I t O z b c=>?_);refine cI λG J=>?_;obtain⟨x,e,lo,n⟩:=z.use;subst e;refine J ?_;refine L (uS s I t) x vs Q E lo c λr h i m B=>?_;exact K r h i _ (n h m).1 (λa o q=>(n h m).2 a o (b a o (sub a o q))) B
theorem tL{o:Expr}{name:PySem.Str}{id:String}{c pos:Pos}{es:List Expr}{x:PySem.Str}{ds:List D}{d:D}(U:Ev A env g o σ (.str x) σ₁)(f:PySem.Slot "str" name id)(n:typeOf (.builtin id)=pure (.type "method_descriptor"))(m:il A env g es σ₁ ds σ')(V:bV o c pos es=true)(T:Bc A (.builtin id) (.str x::ds) d):Ev A env g (.Call (.Attribute o name c) es [] pos) σ d σ':=by intro l s H Q E R K;refine fV m V (U l s H _ E R λv h' z H' I sub M pl=>?_);obtain⟨t,rfl⟩:=M.inv;refine getMethod_builtin (s:=(uS s h' z)) (typeIs_str _ _ _) PySem.F.plainAttrs_str f n (λb e=>by exact nomatch e) ?_;refine Calls.callWith_builtin (bZ m) (m.args _ pos l (uS s h' z) H' _ E I λY N p H2 J h i=>?_);refine cI λG O=>?_;obtain⟨C,e,lo,B⟩:=J.use;subst e;refine O ?_;refine T (uS s N p) C (.str x t::Y) Q E lo (.cons (.str _ _) i) λr j u y L=>?_;exact K r j u _ (B j y).1 (λa o q=>(B j y).2 a o (h a o (sub a o q))) L
theorem rN{o:Expr}{name:PySem.Str}{id:String}{c pos:Pos}{es:List Expr}{i d:D}{ds:List D}(x:(∃ps,i=.dict ps)\/∃ps,i=.dictT ps)(ho:Ev A env g o σ i σ₁)(h:PySem.Slot "dict" name id)(y:typeOf (.builtin id)=pure (.type "method_descriptor"))(u:il A env g es σ₁ ds σ')(hp:bV o c pos es=true)(hc:Bc A (.builtin id) (i::ds) d):Ev A env g (.Call (.Attribute o name c) es [] pos) σ d σ':=by
 intro l s H Q E R K;refine fV u hp (ho l s H _ E R λv h' L H' m sub C pl=>?_);obtain⟨a,I,n,rfl,j⟩:∃a I n,v=.ref a/\H' a (dictOf I n):=by rcases x with⟨ps,rfl⟩|⟨ps,rfl⟩<;>(obtain⟨U,U,U,rfl,j,U,U⟩:=C.inv;exact⟨_,_,_,rfl,j⟩)
 refine getMethod_builtin (s:=(uS s h' L)) (⟨_,RL.live m _ _ j,rfl⟩:Shared.TypeIs _ (.ref a) "dict") PySem.F.plainAttrs_dict h y (λb e=>by obtain rfl:=PySem.Value.ref.inj e;exact⟨_,RL.live m _ _ j,rfl⟩) ?_;refine Calls.callWith_builtin (bZ u) (u.args _ pos l (uS s h' L) H' _ E m λus V z H2 O f p=>?_);refine cI λG Y=>?_;obtain⟨N,e,lo,M⟩:=O.use;subst e;refine Y ?_;refine hc (uS s V z) N (.ref a::us) Q E lo (.cons (C.mono f) p) λr t B J T=>?_;exact K r t B _ (M t J).1 (λa o q=>(M t J).2 a o (f a o (sub a o q))) T
theorem Cv{kd f:D}(O:cj env)(hd:(x==("__debug__":PySem.Str))=false)(hx:bq σ x=some (.o (.dict aa) L))(B:il A env g es σ [kd,f] σ')(hi:kd.isI=some (i,si))(J:bq σ' x=some (.o (.dict ds) pp))(hp:bV (.Name x px) c pos es=true):Ev A env g (.Call (.Attribute (.Name x px) "get" c) es [] pos) σ ((dc ds i).getD f) σ':=by
 intro l s H Q E R K;refine fV B hp (dT O hx hd l s H _ E R λv h' tk H' N sub dv pl=>?_);have h:cu env l.m l.cm x=some v:=dv;have ok:=(bD.own N x _ L hx).ok;rw[h]at ok;obtain⟨ev,en,n,Y,U⟩:=ok;obtain rfl:=A0 ev;refine getMethod_builtin (s:=(uS s h' tk)) (⟨_,Y,rfl⟩:Shared.TypeIs _ (.ref _) "dict") PySem.F.plainAttrs_dict PySem.F.slot_dict_get PySem.F.type_dict_get (λb e=>by obtain rfl:=PySem.Value.ref.inj e;exact⟨_,Y,rfl⟩) ?_;refine Calls.callWith_builtin (bZ B) (B.args _ pos l (uS s h' tk) H' _ E N λus V M H2 T m d=>?_);obtain⟨j,U⟩:=bD.own T x _ pp J;rw[h]at j;obtain⟨z,ab,n2,C,p,G,I⟩:=j;cases z;obtain⟨U,U,rfl,d2,d⟩:=d.inv;obtain⟨U,U,rfl,d3,d⟩:=d.inv;obtain rfl:=d.inv;obtain⟨t,rfl⟩:=ct hi d2;obtain⟨kvs,x',y'⟩:=eH C p G;refine call_meetsIn (s:=(uS s V M)) PySem.F.slot_dict_get x'.typeIs PySem.F.entry_dict_get (PySem.F.args_dict_get_3 _ _ _) (meets_dict_get_default (intKind P0 w) _ jC I _) ⟨_,x'.mapOf,?_⟩;refine K _ V _ H2 T (λa o q=>m a o (sub a o q)) ?_;rcases y'.get i with⟨u,y⟩|⟨d',v',u,y,r⟩;·rw[u,y];exact d3
 ·rw[u,y];exact r
end
noncomputable def BO:Bool->String|true=>"tuple_iterator"|false=>"list_iterator"
noncomputable def I0:Bool->Builtin|true=>Builtin.«tuple_iterator.__next__»|false=>Builtin.«list_iterator.__next__»
def fM(b:Bool)(h:Heap)(i l:Addr)(k:Nat):Prop:=∃o,h.get? i=some o/\o.cls=.type (BO b)/\o.data=.fields #[.ref l,.int k 0]
theorem fM.ext(x:fM b h i l k)(hs:Heap.ExtBut c h h')(n:i≠c):fM b h' i l k:=let⟨o,a,r⟩:=x;⟨o,hs i o n a,r⟩
def fi(h:Heap)(l:Addr)(xs:Array Value):Prop:=∃o,h.get? l=some o/\∃n,o.data=.seq xs n
theorem fi.ext(x:fi h l xs)(hs:Heap.ExtBut c h h')(n:l≠c):fi h' l xs:=let⟨o,a,r⟩:=x;⟨o,hs l o n a,r⟩
section
variable{A:Around}{s:Shared}{E:Value->Shared->Prop}
theorem qo(c:fM b s.heap i l k)(h:wpAny (model P0 w) A.in1 (I0 b ⟨[.ref i],[]⟩) (λfin d=>∃v,fin=PySem.Fin.done (.ret v)/\Q v d) E s):wpAny (model P0 w) A (Builtin.SmallTypes.nextOf (.ref i)) Q E s:=by unfold Builtin.SmallTypes.nextOf;obtain⟨o,g,f,U⟩:=c;cases b with|true=>have a:s.TypeIs (.ref i) "tuple_iterator":=⟨o,g,f⟩;refine A9 (wpAny_callSpecial?_slot (name:=Str.ofString "__next__") a F.slot_tuple_iterator_next (wpAny_call_entry F.slot_tuple_iterator_next a F.entry_tuple_iterator_next (wpAny_mono h (λfin d z=>?_) λU U e=>e) (F.args_tuple_iterator_next_1 _)));obtain⟨v,e,q⟩:=z;exact⟨v,e,AC q⟩|false=>have a:s.TypeIs (.ref i) "list_iterator":=⟨o,g,f⟩;refine A9 (wpAny_callSpecial?_slot (name:=Str.ofString "__next__") a slot_listiter_next (wpAny_call_entry slot_listiter_next a entry_listiter_next (wpAny_mono h (λfin d z=>?_) λU U e=>e) (args_listiter_next _)));obtain⟨v,e,q⟩:=z;exact⟨v,e,AC q⟩
theorem kB(a:fM b s.heap i l k)(j:fi s.heap l xs)(m:xs[k]?=some x)(f:∀h',fM b h' i l (k+1)->Ai i s.heap h'->Q x {s with heap:=h'}):wpAny (model P0 w) A (Builtin.SmallTypes.nextOf (.ref i)) Q E s:=by refine qo a ?_;obtain⟨o,c,g,h⟩:=id a;obtain⟨p,e,n,d⟩:=j;cases b;all_goals show wpAny _ _ (field (.ref i) 0>>=_) _ _ s;refine A9 (wpAny_field c h (x:=.ref l) rfl ?_);show wpAny _ _ (if(Value.ref l==Value.none)=true then _ else _) _ _ s;rw[if_neg (show¬((Value.ref l==Value.none)=true)from Bool.false_ne_true)];show wpAny _ _ (field (.ref i) 1>>=_) _ _ s;refine A9 (wpAny_field c h (x:=.int k 0) rfl ?_);show wpAny _ _ (seqItems? (.ref l)>>=_) _ _ s;refine A9 (wpAny_seqItems e d ?_);simp only[Int.toNat_natCast,m];refine A9 (wpAny_setField c h (by simp) (AC ⟨x,rfl,f _ ?_ (Heap.SameBut.update ..)⟩));exact⟨_,Heap.get?_update_self _ c (Obj.isFreed_of_fields (Obj.data_mapFields h _)),(Obj.cls_mapFields ..).trans g,by rw[Obj.data_mapFields h];simp[rawInt]⟩
theorem s8(n:A.handled=none)(h:fM b s.heap i l k)(p:fi s.heap l xs)(q:xs[k]?=none)(j:∀h' e,Heap.ExtBut i s.heap h'->(∃o,h'.get? e=some o/\o.cls=.type "StopIteration")->E (.ref e) {s with heap:=h'}):wpAny (model P0 w) A (Builtin.SmallTypes.nextOf (.ref i)) Q E s:=by refine qo h ?_;obtain⟨o,f,r,c⟩:=id h;obtain⟨u,g,t,d⟩:=p;cases b;all_goals show wpAny _ _ (field (.ref i) 0>>=_) _ _ s;refine A9 (wpAny_field f c (x:=.ref l) rfl ?_);show wpAny _ _ (if(Value.ref l==Value.none)=true then _ else _) _ _ s;rw[if_neg (show¬((Value.ref l==Value.none)=true)from Bool.false_ne_true)];show wpAny _ _ (field (.ref i) 1>>=_) _ _ s;refine A9 (wpAny_field f c (x:=.int k 0) rfl ?_);show wpAny _ _ (seqItems? (.ref l)>>=_) _ _ s;refine A9 (wpAny_seqItems g d ?_);simp only[Int.toNat_natCast,q];refine A9 (wpAny_rule (A9 (wpAny_setField f c (by simp) ?_)));show wpAny _ _ (newExc (.type "StopIteration") []>>=_) _ _ _;refine A9 ?_;simp only[newExc,newTuple];refine A9 (wpAny_newObj_type ?_ (by size_fits));refine A9 (m:=firstArgMember _ _) (wpAny_of_eq (a:=Value.none) (by first|rfl|(simp only[firstArgMember];rfl)) ?_);refine wpAny_newObj_type ?_ (by size_fits);simp only[raiseNew];refine A9 (wpAny_handled ?_);rw[show A.in1.handled=none from n];refine A9 (AC (wpAny_throw ?_));exact j _ _ (((Heap.SameBut.update ..).extBut.push _).push _) ⟨_,AH _ rfl,rfl⟩
structure Zp(b:Bool)(z TI TO i1 i2 l1 l2:Addr)(k:Nat)(h:Heap):Prop where
 z:IsZip h z TI TO .none
 ti:IsPair h TI (.ref i1) (.ref i2)to:∃x y,IsPair h TO x y
 r1:fM b h i1 l1 k
 r2:fM false h i2 l2 k
theorem De(D:ZipApart z TI T Y i2 l1 l2)(Z:Zp b z TI T Y i2 l1 l2 k s.heap)(aj:fi s.heap l1 xs)(ak:fi s.heap l2 ys)(hx:xs[k]?=some x)(hy:ys[k]?=some y)(hQ:∀h',IsZip h' z TI T (rawInt s.heap.objs.size)->IsPair h' T x y->fM b h' Y l1 (k+1)->fM false h' i2 l2 (k+1)->IsPair h' s.heap.objs.size x y->(∀c o,c≠z->c≠T->c≠Y->c≠i2->s.heap.get? c=some o->h'.get? c=some o)->Q (some (.ref s.heap.objs.size)) {s with heap:=h'}):wpAny (model P0 w) A (pyNext (.ref z)) Q E s:=by
 obtain⟨V,ah,⟨a0,b0,ai⟩,h1,h2⟩:=Z;have hT:s.TypeIs (.ref z) "zip":=⟨_,V,rfl⟩;unfold pyNext;refine A9 (wpAny_attempt (wpAny_callSpecial?_slot (name:=Str.ofString "__next__") hT F.slot_zip_next (wpAny_call_entry F.slot_zip_next hT F.entry_zip_next ?_ (F.args_zip_next_1 _))));show wpAny _ _ (field (.ref z) 2>>=_) _ _ _;refine A9 (wpAny_field V rfl (x:=.bool false) rfl ?_);show wpAny _ _ (field (.ref z) 3>>=_) _ _ _;refine A9 (wpAny_field V rfl (x:=.ref TI) rfl ?_);refine A9 (wpAny_seqItems ah rfl ?_);show wpAny _ _ (Builtin.SmallTypes.ownedTupleIsFree (.ref z)>>=_) _ _ _;refine A9 ?_;unfold Builtin.SmallTypes.ownedTupleIsFree;refine A9 (wpAny_field V rfl (x:=.none) rfl (AC ?_));simp only[if_true];refine A9 (wpAny_rule ?_);refine A9 (wpAny_field V rfl (x:=.ref T) rfl ?_);refine A9 (wpAny_setField_rec V (by simp) λab n a=>?_);replace n:IsZip ab z TI T .ellipsis:=n;refine A9 ?_;simp only[List.zipIdx_cons,List.zipIdx_nil,List.forIn_cons,List.forIn_nil];refine A9 (A9 (wpAny_onRaise ?_));show wpAny _ _ (Builtin.SmallTypes.nextOf (.ref Y)>>=_) _ _ _;refine A9 (kB (h1.ext a.extBut D.i1z) (aj.ext a.extBut D.l1z) hx λac J d=>AC ?_);have q:IsPair ac T a0 b0:=d.extBut _ _ D.TOi1 (a.extBut _ _ D.TOz ai);refine A9 (wpAny_seqItems q rfl ?_);refine A9 (wpAny_updateSeq_pair q λae l f=>?_);replace l:IsPair ae T x b0:=l;refine A9 (wpAny_letGo (AC ?_));refine A9 (A9 (wpAny_onRaise ?_));show wpAny _ _ (Builtin.SmallTypes.nextOf (.ref i2)>>=_) _ _ _;refine A9 (kB (((h2.ext a.extBut D.i2z).ext d.extBut D.i12.symm).ext f.extBut D.TOi2.symm) (((ak.ext a.extBut D.l2z).ext d.extBut D.l2i1).ext f.extBut D.l2TO) hy λaf M i=>AC ?_);have t:IsPair af T x b0:=i.extBut _ _ D.TOi2 l;refine A9 (wpAny_seqItems t rfl ?_);refine A9 (wpAny_updateSeq_pair t λh g j=>?_);replace g:IsPair h T x y:=g;refine A9 (wpAny_letGo (AC (AC ?_)));refine A9 (wpAny_seqItems g rfl ?_);refine A9 (wpAny_newTuple ?_);have aa:h.objs.size=s.heap.objs.size:=by rw[j.1,i.1,f.1,d.1,a.1]
 have G:IsZip h z TI T .ellipsis:=j.extBut _ _ D.TOz.symm (i.extBut _ _ D.i2z.symm (f.extBut _ _ D.TOz.symm (d.extBut _ _ D.i1z.symm n)));have O:∀c o,c≠z->c≠T->c≠Y->c≠i2->s.heap.get? c=some o->h.get? c=some o:=λc o I c2 c3 c4 e=>j.extBut _ _ c2 (i.extBut _ _ c4 (f.extBut _ _ c2 (d.extBut _ _ c3 (a.extBut _ _ I e))));have L:fM b h Y l1 (k+1):=((J.ext f.extBut D.TOi1.symm).ext i.extBut D.i12).ext j.extBut D.TOi1.symm;have N:fM false h i2 l2 (k+1):=M.ext j.extBut D.TOi2.symm;have H:z<h.objs.size:=AG G;show wpAny _ _ (Builtin.SmallTypes.ownedTupleHandOut (.ref z) (.ref h.objs.size)>>=_) _ _ _;refine A9 ?_;unfold Builtin.SmallTypes.ownedTupleHandOut;have U:IsZip (h.push {cls:=.type "tuple",data:=.seq #[x,y]}) z TI T .ellipsis:=A2 _ G;refine A9 (wpAny_setField_rec U (by simp) λag p B=>?_);replace p:IsZip ag z TI T (rawInt h.objs.size):=p;refine wpAny_setField_rec p (by simp) λu m C=>?_;replace m:IsZip u z TI T (rawInt h.objs.size):=m;have up:∀c o,c≠z->h.get? c=some o->u.get? c=some o:=λc o I e=>C.extBut _ _ I (B.extBut _ _ I (A2 _ e));have v:IsPair u h.objs.size x y:=C.extBut _ _ (Nat.ne_of_gt H) (B.extBut _ _ (Nat.ne_of_gt H) (AH _ rfl));rw[aa]at m v;refine AC ⟨_,rfl,AC ?_⟩;show Q (some (.ref h.objs.size)) _;rw[aa];exact hQ u m (up _ _ D.TOz g) (let⟨o,ho,r⟩:=L;⟨o,up _ o D.i1z ho,r⟩) (let⟨o,ho,r⟩:=N;⟨o,up _ o D.i2z ho,r⟩) v λc o I c2 c3 c4 e=>up c o I (O c o I c2 c3 c4 e)
theorem G1(hh:A.handled=none)(D:ZipApart z TI u O V l1 l2)(Z:Zp b z TI u O V l1 l2 k s.heap)(I:fi s.heap l1 xs)(ae:fi s.heap l2 ys)(H:xs[k]?=none\/ys[k]?=none)(hQ:∀h',(∀c o,c≠z->c≠u->c≠O->c≠V->s.heap.get? c=some o->h'.get? c=some o)->Q none {s with heap:=h'}):wpAny (model P0 w) A (pyNext (.ref z)) Q E s:=by
 obtain⟨B,ab,⟨a0,b0,ac⟩,h1,h2⟩:=Z;have hT:s.TypeIs (.ref z) "zip":=⟨_,B,rfl⟩;unfold pyNext;have fin:∀h' e,(∀c o,c≠z->c≠u->c≠O->c≠V->s.heap.get? c=some o->h'.get? c=some o)->(∃o,h'.get? e=some o/\o.cls=.type "StopIteration")->wpAny (model P0 w) A (match(Except.error (.ref e):Except Value (Option Value))with|.ok r=>pure r|.error e=>do if<-isInstance e (.type "StopIteration")then pure none else throw e) Q E {s with heap:=h'}:=λh' e hk G=>by obtain⟨o,ho,hc⟩:=G;refine A9 (wpAny_isInstance (T:="StopIteration") (b:=true) ⟨o,ho,hc⟩ isSubtype_stop ?_);exact AC (hQ _ hk)
 refine A9 (wpAny_attempt (wpAny_callSpecial?_slot (name:=Str.ofString "__next__") hT F.slot_zip_next (wpAny_call_entry F.slot_zip_next hT F.entry_zip_next ?_ (F.args_zip_next_1 _))));show wpAny _ _ (field (.ref z) 2>>=_) _ _ _;refine A9 (wpAny_field B rfl (x:=.bool false) rfl ?_);show wpAny _ _ (field (.ref z) 3>>=_) _ _ _;refine A9 (wpAny_field B rfl (x:=.ref TI) rfl ?_);refine A9 (wpAny_seqItems ab rfl ?_);show wpAny _ _ (Builtin.SmallTypes.ownedTupleIsFree (.ref z)>>=_) _ _ _;refine A9 ?_;unfold Builtin.SmallTypes.ownedTupleIsFree;refine A9 (wpAny_field B rfl (x:=.none) rfl (AC ?_));simp only[if_true];refine A9 (wpAny_rule ?_);refine A9 (wpAny_field B rfl (x:=.ref u) rfl ?_);refine A9 (wpAny_setField_rec B (by simp) λJ g a=>?_);replace g:IsZip J z TI u .ellipsis:=g;refine A9 ?_;simp only[List.zipIdx_cons,List.zipIdx_nil,List.forIn_cons,List.forIn_nil]
 refine A9 (A9 (wpAny_onRaise ?_));show wpAny _ _ (Builtin.SmallTypes.nextOf (.ref O)>>=_) _ _ _;cases hx:xs[k]? with|none=>
  refine A9 (s8 hh (h1.ext a.extBut D.i1z) (I.ext a.extBut D.l1z) hx λt e d G=>?_);obtain⟨oe,i,l⟩:=G;have p:IsZip t z TI u .ellipsis:=d _ _ D.i1z.symm g;have y:e≠z:=λx=>by subst x;rw[p]at i;obtain rfl:=A0 i;simp at l
  refine wpAny_setField_rec p (by simp) λv U f=>?_;have:=fin v e (λc o C U Y U x=>f.extBut _ _ C (d _ _ Y (a.extBut _ _ C x))) ⟨oe,f.extBut _ _ y i,l⟩;exact this|some x=>
  have hy:ys[k]?=none:=by rcases H with h|h;rw[hx]at h;exact ca h.symm;exact h
  refine A9 (kB (h1.ext a.extBut D.i1z) (I.ext a.extBut D.l1z) hx λt aa d=>AC ?_);have j:IsPair t u a0 b0:=d.extBut _ _ D.TOi1 (a.extBut _ _ D.TOz ac);refine A9 (wpAny_seqItems j rfl ?_);refine A9 (wpAny_updateSeq_pair j λv N f=>?_);refine A9 (wpAny_letGo (AC ?_));refine A9 (A9 (wpAny_onRaise ?_));show wpAny _ _ (Builtin.SmallTypes.nextOf (.ref V)>>=_) _ _ _;refine A9 (s8 hh (((h2.ext a.extBut D.i2z).ext d.extBut D.i12.symm).ext f.extBut D.TOi2.symm) (((ae.ext a.extBut D.l2z).ext d.extBut D.l2i1).ext f.extBut D.l2TO) hy λL e m G=>?_);obtain⟨oe,i,l⟩:=G;have q:IsZip L z TI u .ellipsis:=m _ _ D.i2z.symm (f.extBut _ _ D.TOz.symm (d.extBut _ _ D.i1z.symm g));have y:e≠z:=λx=>by subst x;rw[q]at i;obtain rfl:=A0 i;simp at l
  refine wpAny_setField_rec q (by simp) λM U n=>?_;have:=fin M e (λc o C c2 Y c4 x=>n.extBut _ _ C (m _ _ c4 (f.extBut _ _ c2 (d.extBut _ _ Y (a.extBut _ _ C x))))) ⟨oe,n.extBut _ _ y i,l⟩;exact this
end
noncomputable def zH(b:List Addr)(h:Heap):Yd:=λa o=>a∈b/\h.get? a=some o
noncomputable def pD(xs ys:List D):List D:=List.zipWith (λx y=>.tuple [x,y]) xs ys
theorem tB(xs ys:List D):(pD xs ys).length=min xs.length ys.length:=List.length_zipWith
section
variable{A:Around}{g:Gr}
theorem DZ(hh:A.handled=none)(v:ZipApart z TI T i f B C)(ag:∃o n,F B o/\o.data=.seq vs1.toArray n)(ah:∃o n,F C o/\o.data=.seq vs2.toArray n)(hd1:bM F vs1 ds1)(DN:bM F vs2 ds2)(env:Env):∀(j k:Nat)(h:Heap),j=(pD (ds1.drop k) (ds2.drop k)).length->Zp b z TI T i f B C k h->vV A env g (.Tuple ts k1 p1) (.ref z) F (pD (ds1.drop k) (ds2.drop k)) (zH [z,TI,T,i,f] h):=by
 have V:∀{k:Nat}{h:Heap},Zp b z TI T i f B C k h->∀{l:Lay}{s:Shared}{H:Addr->Obj->Prop}{σ:Sig},RL env g (l.plus (zH [z,TI,T,i,f] h)) σ s.heap H->gz env g l.Y (zH [z,TI,T,i,f] h)->Sb F H->Zp b z TI T i f B C k s.heap/\fi s.heap B vs1.toArray/\fi s.heap C vs2.toArray:=by intro k h Z l s H σ R d I;have up:∀a o,a∈[z,TI,T,i,f]->h.get? a=some o->s.heap.get? a=some o:=λa o Y e=>(R.held a o (.inr ⟨Y,e⟩)).1.at (d a ⟨o,Y,e⟩).2.2;refine cI λG M=>?_;obtain⟨a1,a2,⟨x,y,a3⟩,⟨o4,a4,r4⟩,⟨o5,a5,r5⟩⟩:=Z;obtain⟨o6,n6,f6,e6⟩:=ag;obtain⟨o7,n7,f7,e7⟩:=ah;refine M ?_;exact⟨⟨up _ _ (by exact A4) a1,up _ _ (by exact .tail _ (.head _)) a2,⟨x,y,up _ _ (by simp) a3⟩,⟨o4,up _ _ (by simp) a4,r4⟩,⟨o5,up _ _ (by simp) a5,r5⟩⟩,⟨o6,RL.live R _ _ (I _ _ f6),n6,e6⟩,⟨o7,RL.live R _ _ (I _ _ f7),n7,e7⟩⟩
 have c:∀{k:Nat}{h:Heap},Zp b z TI T i f B C k h->∀a∈[z,TI,T,i,f],∃o,h.get? a=some o:=by
   intro k h Z a Y;refine cI λG M=>?_;obtain⟨a1,a2,⟨x,y,a3⟩,⟨o4,a4,r4⟩,⟨o5,a5,r5⟩⟩:=Z;refine M ?_;simp only[A6,A3,or_false]at Y;rcases Y with rfl|rfl|rfl|rfl|rfl;·exact⟨_,a1⟩
   ·exact⟨_,a2⟩
   ·exact⟨_,a3⟩
   ·exact⟨_,a4⟩
   ·exact⟨_,a5⟩
 intro j;induction j with|zero=>
   intro k h hj Z;have e:pD (ds1.drop k) (ds2.drop k)=[]:=List.eq_nil_of_length_eq_zero hj.symm;rw[e];intro l s H σ Q E R d I K;refine cI λG M=>?_;obtain⟨Z',I1,I2⟩:=V Z R d I;refine M ?_;have aa:vs1.toArray[k]?=none\/vs2.toArray[k]?=none:=by
     have:=congrArg List.length e;rw[tB]at this;simp only[List.length_drop,List.length_nil]at this;have B:=hd1.length;have C:=DN.length;by_cases q:ds1.length<=k;·exact .inl (by simp;exact A1 (AL B) q)
     ·exact .inr (by simp;exact C▸mz this q)
   refine G1 hh v Z' I1 I2 aa λh' hk=>?_;have q:=bD.turn (Z':=y0) (h':=h') R (λa o e nz=>by have t:a∉[z,TI,T,i,f]:=λm=>nz (by obtain⟨N,J⟩:=c Z a m;exact⟨N,m,J⟩);simp only[A6,A3,or_false,not_or]at t;exact hk a o t.1 t.2.2.1 t.2.2.2.1 t.2.2.2.2 e) (λa z=>d a z) λa o z=>z.elim;rw[pB]at q;exact K h' s.toks _ q.1 q.2|succ j ih=>
   intro k h hj Z;have p:=hj;rw[tB]at p;simp only[List.length_drop]at p;have ab:k<ds1.length:=by exact MU (p.trans (Nat.min_comm _ _))
   have ac:k<ds2.length:=by exact MU p
   have e1:ds1.drop k=ds1[k]::ds1.drop (k+1):=List.drop_eq_getElem_cons ab;have e2:ds2.drop k=ds2[k]::ds2.drop (k+1):=List.drop_eq_getElem_cons ac;rw[e1,e2,pD,List.zipWith_cons_cons];intro l s H σ Q E R d I K;refine cI λG M=>?_;obtain⟨Z',I1,I2⟩:=V Z R d I;obtain⟨x,hx,dx⟩:=hd1.get (AN ab);obtain⟨y,hy,dy⟩:=DN.get (AN ac);refine M ?_;refine De v Z' I1 I2 (by simpa using hx) (by simpa using hy) λh' b1 b2 b3 b4 b5 hk=>?_;refine K (.ref s.heap.objs.size) _ λQ₁ aj O=>?_;refine wpAny_letOwnedTupleGo_zip (s:={s with heap:=h'}) b1 λL c1 r=>?_;have so:=c Z';have ae:∀a∈[z,TI,T,i,f],a≠s.heap.objs.size:=λa m=>by obtain⟨o,e⟩:=so a m;exact AY (AG e)
   have af:∀a o,a∉[z,TI,T,i,f]->s.heap.get? a=some o->L.get? a=some o:=λa o t e=>by simp only[A6,A3,or_false,not_or]at t;exact r.extBut _ _ t.1 (hk a o t.1 t.2.2.1 t.2.2.2.1 t.2.2.2.2 e)
   have Z2:Zp b z TI T i f B C (k+1) L:=by refine⟨c1,r.extBut _ _ v.TIz (hk _ _ v.TIz v.TITO v.TIi1 v.TIi2 Z'.ti),⟨x,y,r.extBut _ _ v.TOz b2⟩,b3.ext r.extBut v.i1z,b4.ext r.extBut v.i2z⟩
   have q:=bD.turn (Z':=zH [z,TI,T,i,f] L) (h':=L) R (λa o e nz=>af a o (λm=>nz (by obtain⟨N,J⟩:=c Z a m;exact⟨N,m,J⟩)) e) (λa z=>d a z) (λa o q=>⟨q.2,.inl (by obtain⟨N,J⟩:=c Z a q.1;exact⟨N,q.1,J⟩)⟩);refine O L s.toks _ _ (ih (k+1) L (by rw[e1,e2,pD,List.zipWith_cons_cons,AJ]at hj;exact Nat.succ.inj hj) Z2) (λa q=>d a (by obtain⟨o,m,U⟩:=q;obtain⟨N,J⟩:=c Z a m;exact⟨N,m,J⟩)) q.1 q.2 ?_;have hT:L.get? s.heap.objs.size=some (dQ [x,y] 0):=r.extBut _ _ (Ne.symm (ae z (by exact A4))) b5;refine .tuple (vs:=[x,y]) (n:=0) ⟨hT,λu=>?_⟩ (.cons (cx.mono (λa o z=>q.2 a o (I a o z)) dx) (.cons (cx.mono (λa o z=>q.2 a o (I a o z)) dy) .nil));have ai:c5 env σ l.ad (dY (yU l.Y (zH [z,TI,T,i,f] h))) s.heap.objs.size:=by
     rcases u with u|u|u|u;·exact .inl u
     ·exact .inr (.inl u)
     ·exact .inr (.inr (.inl u))
     · rcases bX.mp u with u|⟨o,m,U⟩;·exact .inr (.inr (.inr (bX.mpr (.inl u))))
       ·exact(ae _ m rfl).elim
   exact AU _ (bD.exLow R ai)
theorem yB(Z:Zp b z TI T i c e f k h):nt A g (.ref z) F (zH [z,TI,T,i,c] h):=by intro env l s H σ Q E R o d a;exact wpAny_pyIter_zip ((R.held z _ (.inr ⟨by exact A4,Z.z⟩)).1.at (o z ⟨_,by exact A4,Z.z⟩).2.2) a
end
section
variable{A:Around}{s:Shared}{E:Value->Shared->Prop}
noncomputable abbrev CR(b:Bool)(h:Heap)(l:Addr):Heap:=h.push {cls:=.type (BO b),data:=.fields #[.ref l,.int 0 0]}
noncomputable abbrev Db(b:Bool)(h:Heap)(l a:Addr):Heap:=(CR b h l).push {cls:=.type "list_iterator",data:=.fields #[.ref a,.int 0 0]}
noncomputable abbrev Eu(b:Bool)(h:Heap)(l a:Addr):Heap:=(Db b h l a).push {cls:=.type "tuple",data:=.seq #[.ref h.objs.size,.ref (CR b h l).objs.size]}
noncomputable abbrev Bp(b:Bool)(h:Heap)(l a:Addr):Heap:=(Eu b h l a).push {cls:=.type "tuple",data:=.seq #[.none,.none]}
noncomputable abbrev jS(b:Bool)(h:Heap)(l a:Addr):Heap:=(Bp b h l a).push {cls:=.type "zip",data:=.fields #[.none,.bool false,.bool false,.ref (Db b h l a).objs.size,.ref (Eu b h l a).objs.size]}
theorem vr(l a:Addr)(xs ys:Array Value):Meets (Builtin.«zip.__new__» ⟨[.type "zip",.ref l,.ref a],[]⟩) (λU R s=>s.heap.IsTuple l xs/\s.heap.IsList a ys/\R (.ok (.ret (.ref (Bp true s.heap l a).objs.size))) {s with heap:=jS true s.heap l a}):=.of_wp λp w A R s h=>by obtain⟨i,g,d,t,os⟩:=s;obtain⟨e,f,h⟩:=h;have j:=sub_zip;have b:Heap.IsTuple (Shared.heap ⟨i,g,d,t,os⟩) l xs:=e;have c:Heap.IsList (Shared.heap ⟨i.push {cls:=.type "tuple_iterator",data:=.fields #[.ref l,.int 0 0]},g,d,t,os⟩) a ys:=Heap.IsList.push f _;wp_walk using wpAny_pyIter_tuple b,wpAny_pyIter_list c;exact⟨_,rfl,h⟩
theorem w9(d:match b with|true=>s.heap.IsTuple l xs|false=>s.heap.IsList l xs)(f:s.heap.IsList a ys)(h:Zp b (s.heap.objs.size+4) (s.heap.objs.size+2) (s.heap.objs.size+3) s.heap.objs.size (s.heap.objs.size+1) l a 0 (jS b s.heap l a)->Q (.ref (s.heap.objs.size+4)) {s with heap:=jS b s.heap l a}):wpAny (model P0 w) A (call (.type "zip") [.ref l,.ref a]) Q E s:=by
 have j:(CR b s.heap l).objs.size=s.heap.objs.size+1:=Heap.size_push ..;have m:(Db b s.heap l a).objs.size=s.heap.objs.size+2:=by rw[Heap.size_push,j]
 have n:(Eu b s.heap l a).objs.size=s.heap.objs.size+3:=by rw[Heap.size_push,m]
 have z:(Bp b s.heap l a).objs.size=s.heap.objs.size+4:=by rw[Heap.size_push,n]
 have i:(jS b s.heap l a).get? (Bp b s.heap l a).objs.size=some _:=AH _ rfl;have r:(jS b s.heap l a).get? (Eu b s.heap l a).objs.size=some _:=A2 _ (AH _ rfl);have q:(jS b s.heap l a).get? (Db b s.heap l a).objs.size=some _:=A2 _ (A2 _ (AH _ rfl));have p:(jS b s.heap l a).get? (CR b s.heap l).objs.size=some _:=A2 _ (A2 _ (A2 _ (AH _ rfl)));have u:(jS b s.heap l a).get? s.heap.objs.size=some _:=A2 _ (A2 _ (A2 _ (A2 _ (AH _ rfl))));rw[m,n,z]at i;rw[j,m]at q;rw[n]at r;rw[j]at p;have t:Zp b (s.heap.objs.size+4) (s.heap.objs.size+2) (s.heap.objs.size+3) s.heap.objs.size (s.heap.objs.size+1) l a 0 (jS b s.heap l a):=⟨i,q,⟨_,_,r⟩,⟨_,u,rfl,rfl⟩,⟨_,p,rfl,rfl⟩⟩;have fin:∃o,(jS b s.heap l a).get? (Bp b s.heap l a).objs.size=some o/\o.cls=.type "zip":=⟨_,by rw[z];exact i,rfl⟩;cases b with|true=>refine callType_new F.called_zip (by decide) (F.typeCall_zip_2 _ _) (F.newCall_zip_2 _ _) (λc=>F.args_object_init_3 c _ _) F.entry_zip_new (vr l a xs ys) ⟨d,f,?_⟩;show _/\_;refine⟨fin,?_⟩;have:=h t;rw[z];exact this|false=>refine callType_new F.called_zip (by decide) (F.typeCall_zip_2 _ _) (F.newCall_zip_2 _ _) (λc=>F.args_object_init_3 c _ _) F.entry_zip_new (meets_zip_new l a xs ys) ⟨d,f,?_⟩;show _/\_;refine⟨fin,?_⟩;have:=h t;have e:(zipH4 s.heap l a).objs.size=s.heap.objs.size+4:=z;rw[e];exact this
end
section
variable{A:Around}{env:Env}{g:Gr}{σ σ' σ₁ σ₂:Sig}{k:Nat}
theorem Dx{n l a:Nat}(h:l<n)(b:a<n):ZipApart (n+4) (n+2) (n+3) n (n+1) l a:=by constructor<;>first|exact AY (by omega)|exact Nat.ne_of_gt (by omega)
theorem Ch{V d2:D}(hh:A.handled=none)(hf:Ev A env g (.Name f p) σ (.atom (.type "zip")) σ₁)(ha:il A env g [e1,e2] σ₁ [V,d2] σ')(h1:V.seqK=some (b,ds1))(h2:d2.seqK=some (false,ds2)):Er A env g (.Tuple ts k1 p1) (.Call (.Name f p) [e1,e2] [] pos) σ (pD ds1 ds2) σ':=by
 intro l s H Q E R K;refine Call_Name rfl (hf l s H _ E R λu h' tk H' R' sub I=>?_);obtain rfl:=I.inv;refine qD rfl (bZ ha) (ha.args _ pos l _ H' _ E R' λvs h O T r B J=>?_);obtain⟨u,v,rfl,du,I⟩:=uH J;obtain⟨i,vs1,n1,rfl,C,x⟩:=eX h1 du;obtain⟨j,vs2,N,rfl,G,y⟩:=eX h2 I;have c:∃o n,T i o/\o.data=.seq vs1.toArray n:=by cases b<;>exact⟨_,n1,x,rfl⟩
 have d:h.get? j=some (bA vs2 N):=RL.live r _ _ y;have L:i<h.objs.size:=by obtain⟨o,n,z,U⟩:=c;exact AG (RL.live r _ _ z)
 have M:=AG d;refine w9 (s:=(uS s h O)) (b:=b) (xs:=vs1.toArray) (ys:=vs2.toArray) (by cases b<;>exact⟨_,RL.live r _ _ x,rfl,n1,rfl⟩) ⟨_,d,rfl,N,rfl⟩ λZ=>?_;have up:Hk h (jS b h i j):=λa o e=>A2 _ (A2 _ (A2 _ (A2 _ (A2 _ e))));have hn:∀a∈[h.objs.size+4,h.objs.size+2,h.objs.size+3,h.objs.size,h.objs.size+1],h.get? a=none:=λa m=>Heap.get?_none_of_le (by simp only[A6,A3,or_false]at m;omega);have q:=bD.turn (Y:=l.Y) (Z:=y0) (Z':=zH [h.objs.size+4,h.objs.size+2,h.objs.size+3,h.objs.size,h.objs.size+1] (jS b h i j)) (h':=jS b h i j) (by rw[pB];exact r) (λa o e U=>up a o e) (λa z=>(ym z).elim) (λa o m=>⟨m.2,.inr (hn a m.1)⟩);refine wpAny_pyIter_zip Z.z ?_;have D':ZipApart (h.objs.size+4) (h.objs.size+2) (h.objs.size+3) h.objs.size (h.objs.size+1) i j:=Dx L M;refine K _ _ _ _ (zH [h.objs.size+4,h.objs.size+2,h.objs.size+3,h.objs.size,h.objs.size+1] (jS b h i j)) T (λa o z=>B a o (sub a o z)) q.2 (λt=>?_) (yB Z) (λa z=>?_) q.1;·exact DZ (vs1:=vs1) (vs2:=vs2) (ds1:=ds1) (ds2:=ds2) hh D' c ⟨_,N,y,rfl⟩ C G t _ 0 _ rfl Z
 ·obtain⟨o,m,U⟩:=z;exact bD.fresh r (hn a m)
end
noncomputable def Hy:Expr->Option (Const×Nat×Pos)|.Constant c a b=>some (c,a,b)|_=>none
theorem wx(h:Hy e=some p):e=.Constant p.1 p.2.1 p.2.2:=by cases e<;>first|exact ca h|exact congrArg (λp:Const×Nat×Pos=>Expr.Constant p.1 p.2.1 p.2.2) (A0 h)
noncomputable def Ff:Const->Option Int|.int i=>some i|_=>none
theorem Ba(h:Ff c=some i):c=.int i:=by cases c<;>first|exact ca h|exact congrArg Const.int (A0 h)
noncomputable def Fs:Const->Option PySem.Str|.str i=>some i|_=>none
theorem yC(h:Fs c=some i):c=.str i:=by cases c<;>first|exact ca h|exact congrArg Const.str (A0 h)
noncomputable def oN(k:Option Expr)(v:Expr):Option (Int×D):=k.bind λe=>(Hy e).bind λc=>(Ff c.1).bind λi=>(Hy v).bind λc=>(Fs c.1).map λx=>(i,.str x)
noncomputable def gJ:List (Option Expr)->List Expr->Option (List (Int×D))|[],vs=>if vs.isEmpty=true then some []else none|k::a,vs=>match vs with|[]=>none|v::vs=>(oN k v).bind λp=>(gJ a vs).map λr=>p::r
theorem lW(h:oN k v=some p):∃i x a b c d,k=some (.Constant (.int i) a b)/\v=.Constant (.str x) c d/\p=(i,.str x):=by refine cI λG o=>?_;obtain⟨e,f,h⟩:=ew h;obtain⟨c,j,h⟩:=ew h;obtain⟨i,l,h⟩:=ew h;obtain⟨q,m,h⟩:=ew h;obtain⟨x,n,h⟩:=wn h;refine o ?_;exact⟨i,x,_,_,_,_,by rw[f,wx j,Ba l],by rw[wx m,yC n],h.symm⟩
theorem jM(h:gJ (k::d) (v::vs)=some ps):∃p r,oN k v=some p/\gJ d vs=some r/\ps=p::r:=by refine cI λG c=>?_;obtain⟨p,a,h⟩:=ew h;obtain⟨r,b,h⟩:=wn h;refine c ?_;exact⟨p,r,a,b,h.symm⟩
theorem lG(h:gJ [] vs=some ps):vs=[]/\ps=[]:=by obtain⟨e,h⟩:=lR h;exact⟨List.isEmpty_iff.mp e,(A0 h).symm⟩
theorem wP:typeLookup (.type "list") "keys"=pure none:=by rw[typeLookup_type,builtinLookup_eq_fast];kernel_rfl
section
variable{A:Around}{env:Env}{g:Gr}{σ σ' σ₁ σ₂:Sig}{k:Nat}
theorem tG:∀{e:List Expr}{ps:List (Int×D)}{s:Shared}{Q:List (Value×Value)->Shared->Prop},gJ f e=some ps->(∀vs t kvs,Carries (intKind P0 w) vs kvs->jK H kvs ps->Q vs {s with toks:=t})->wpAny (model P0 w) A (evalPairs (pairTrees f e env pos)) Q E s:=by induction f with|nil=>intro e ps s Q h K;obtain⟨rfl,rfl⟩:=lG h;exact pairTrees_nil_walk (K [] s.toks [] trivial .nil)|cons k q o=>intro e ps s Q h K;cases e with|nil=>exact ca h|cons v vs=>obtain⟨p,r,j,l,rfl⟩:=jM h;obtain⟨i,x,a,b,c,d,rfl,rfl,rfl⟩:=lW j;refine pairTrees_cons_walk (wpAny_Constant_int (Constant_str (o l λu t kvs m n=>?_)));exact K _ t ((i,.str x _)::kvs) ⟨Af i,rfl,m⟩ (.cons (.str _ _) n)
theorem jK.nodupV(h:jK H kvs ps)(a:(ps.map (·.1)).Nodup):(kvs.map (·.1)).Nodup:=by rw[h.keys];exact a
theorem pf:∀{e:List Expr}{ps:List (Int×D)},gJ f e=some ps->f.all (·.isSome)=true/\f.length=e.length/\f.length=ps.length:=by induction f with|nil=>intro e ps h;obtain⟨rfl,rfl⟩:=lG h;exact⟨rfl,rfl,rfl⟩|cons k n m=>intro e ps h;cases e with|nil=>exact ca h|cons v vs=>obtain⟨p,r,j,l,rfl⟩:=jM h;obtain⟨i,x,a,b,c,d,rfl,rfl,rfl⟩:=lW j;obtain⟨a,b,c⟩:=m l;exact⟨a,congrArg (·+1) b,congrArg (·+1) c⟩
noncomputable def oS:List Int->Bool|[]=>true|i::r=>!r.contains i&&oS r
theorem wK:∀{is:List Int},oS is=true->is.Nodup:=by intro z;induction z with|nil=>intro _;exact List.nodup_nil|cons i r a=>intro h;simp only[oS,A8,Bool.not_eq_true']at h;refine List.nodup_cons.mpr ⟨λm=>?_,a h.2⟩;have:=List.contains_iff_mem.mpr m;rw[h.1]at this;exact Bool.noConfusion this
theorem zu(X:Cx k A g env.frame)(h:gJ d v=some ps)(u:oS (ps.map (·.1))=true)(f:(ps.length !=0&&Nat.ble ps.length 15)=true):Ev A env g (.Dict d v pos) σ (.dict ps) σ:=by
 intro l s H Q E R K;obtain⟨a,b,c⟩:=pf h;rw[A8]at f;have t:=Nat.le_of_ble_eq_true f.2;have y:ps.length≠0:=by have:=f.1;simpa using this
 have x:=RL.past X R;refine wpAny_Dict_walk (knd:=intKind P0 w) a b (λz=>y (by rw[<-c,z];rfl)) (by rw[c];exact t) ?_;refine tG (H:=H) h λvs C kvs p i=>⟨kvs,p,Heap.DictOf.new s.heap,λh' j hs=>?_⟩;have nd:=wK u;rw[merged_nil_of_nodup kvs (i.nodupV nd)]at j;have B:Hk s.heap h':=λb o e=>(hs.2 b (AY (AG e))).trans (A2 _ e);have q:=bD.grow (h':=h') R B;obtain⟨es,n,r,m⟩:=jw j (i.mono q.2);exact K _ h' _ _ q.1 q.2 (.dict ⟨r,λz=>AU _ (bD.exLow R z)⟩ m ⟨nd,x⟩)
end
section
variable{A:Around}
theorem E0(j:A.handled=none)(f:s.heap.get? a=some (bA vs n))(h:∀h' i,Hk s.heap h'->Q none (uS s h' i)):wpAny (model P0 w) A (getAttr? (.ref a) "keys") Q E s:=by
 obtain⟨l,g,d,i,os⟩:=s;have c:∀t,(⟨l,g,d,t,os⟩:Shared).TypeIs (.ref a) "list":=λU=>⟨_,f,rfl⟩;have m:=sub_AttributeError;have o:=F.slot_list_getattribute.lookup;have p:=F.slot_list_getattribute.bind (.ref a);have q:=am_list_getattr_none;unfold getAttr? getAttrBy? getAttrBy;repeat(any_goals(first|assumption|exact c _|((with_reducible show wpAny _ _ (call (Value.builtin "list.__getattribute__") _ _) _ _ _);refine call_meets F.slot_list_getattribute (c _) am_entry_list_getattribute (F.args_list_getattribute_2 _ _) (meets_getattribute_miss_list a vs.toArray n #[] "keys" _ wP (by decide+kernel) (by decide+kernel)) ⟨f,j,λh' t e b=>?_⟩)|wp_step))
 obtain⟨u,v,r⟩:=b.there;show wpAny _ _ (getattributeRaised _ _ _ _ _ _ _) _ _ _;unfold getattributeRaised;repeat(any_goals(first|assumption|wp_step))
 exact h _ _ b.keeps
theorem pT:entryFor table "dict.update.loop"=some Builtin.«dict.update.loop»:=by first|exact entryFor_of_fast (by kernel_rfl)|exact entryFor_of_tree (by kernel_rfl)
theorem i5:plainId "dict.update.loop"=true:=by decide+kernel
noncomputable def MY:D->Option (D×D)
 |.tuple ds=>match ds with|[a,b]=>some (a,b)|_=>none
 |_=>none
set_option tactic.hygienic true in theorem G9(h:MY d=some p):d=.tuple [p.1,p.2]:=by
 cases d<;>first|exact ca h|skip
 rename_i ds;rcases ds with U|⟨U,U|⟨U,U|⟨U,U⟩⟩⟩<;>first|exact ca h|exact congrArg (λp:D×D=>D.tuple [p.1,p.2]) (A0 h)
noncomputable def g6:List D->List (Int×D)->Option (List (Int×D))|[],acc=>some acc|x::r,acc=>(MY x).bind λp=>p.1.isI.bind λq=>g6 r (bL acc q.1 p.2)
theorem lZ(h:g6 (x::r) acc=some fin):∃kd d i b,x=.tuple [kd,d]/\kd.isI=some (i,b)/\g6 r (bL acc i d)=some fin:=by refine cI λG e=>?_;obtain⟨p,a,h⟩:=ew h;obtain⟨q,c,h⟩:=ew h;refine e ?_;exact⟨_,_,_,_,G9 a,c,h⟩
theorem vq{kvs:List (Int×Value)}:(stored kvs k v).length<=kvs.length+1:=stored_length_le kvs k v
theorem zr(hh:A.handled=none){H:Addr->Obj->Prop}{R:Result->Shared->Prop}(V:l≠I)(hd1:y≠I)(DN:y≠l)(ae:∀o,¬H y o)(ac:∀o,¬H I o)(u:bM H vs its)(s₀:Shared)(hR:∀h' J C,h'.DictOf (intKind P0 w) y C->jK H C fin->(∀b o,b≠y->b≠I->s₀.heap.get? b=some o->h'.get? b=some o)->R (.ok (.ret .none)) (uS s₀ h' J)):∀(j k:Nat)(s:Shared)(kvs:List (Int×Value))(acc:List (Int×D)),j+k=vs.length->(∃h J,s=(uS s₀ h J))->(∀b o,b≠y->b≠I->s₀.heap.get? b=some o->s.heap.get? b=some o)->s.heap.IsListIter I l k/\s.heap.IsList l vs.toArray->(∀a o,H a o->s.heap.get? a=some o)->
  s.heap.DictOf (intKind P0 w) y kvs->jK H kvs acc->kvs.length+j<=16777216->g6 (its.drop k) acc=some fin->codeAny (model P0 w) A (.builtin "dict.update.loop" ⟨[.ref y,.ref I,rawInt k,.none],[]⟩) R s:=by intro j;induction j with|zero=>
 rintro k s kvs acc Q⟨B,O,rfl⟩N st E hD L hz M;have e:its.drop k=[]:=List.drop_eq_nil_of_le (by rw[<-u.length];exact AL (Q.symm.trans (Nat.zero_add _)));rw[e]at M;obtain rfl:=A0 M;refine codeAny_builtin pT ?_;rw[Around.under_plainId i5 _];show wpAny _ _ (pyNext (.ref I)>>=_) _ _ _;have af:k=vs.toArray.size:=by simp;exact(Nat.zero_add _).symm.trans Q
 refine A9 ((Walks.list (A:=A.in1) hh I l V vs.toArray).done _ _ _ (af▸st) λh' J f=>?_);refine AC ?_;refine hR h' J kvs ?_ L λb o n1 Y e=>f b o (by simpa using Y) (N b o n1 Y e);refine cI λG T=>?_;obtain⟨o,es,ep,ho,r⟩:=hD;refine T ?_;exact⟨o,es,ep,f _ _ (by simpa using hd1) ho,r⟩|succ j ih=>
 rintro k s kvs acc Q⟨B,O,rfl⟩N st E hD L hz M;have U:k<its.length:=by rw[<-u.length];exact Nat.lt_of_lt_of_eq (Nat.lt_add_of_pos_left (Nat.succ_pos _)) Q
 rw[List.drop_eq_getElem_cons U]at M;refine cI λG T=>?_;obtain⟨kd,d,i,b,ex,ei,M⟩:=lZ M;obtain⟨x,hx,dx⟩:=u.get (AN U);refine T ?_;rw[ex]at dx;refine codeAny_builtin pT ?_;rw[Around.under_plainId i5 _];show wpAny _ _ (pyNext (.ref I)>>=_) _ _ _;refine A9 ((Walks.list (A:=A.in1) hh I l V vs.toArray).item k _ _ _ (by simp;exact Nat.lt_of_lt_of_eq (Nat.lt_add_of_pos_left (Nat.succ_pos _)) Q) st λv h' J hv aa f=>?_);have ag:v=x:=by
  have:vs[k]?=some v:=by simpa using hv
  rw[hx]at this;obtain rfl:=A0 this;rfl
 subst ag;have m:∀c o,c≠I->B.get? c=some o->h'.get? c=some o:=λc o n e=>f c o (by simpa using n) e;have p:∀a o,H a o->h'.get? a=some o:=λa o q=>m a o (λz=>ac o (z▸q)) (E a o q);obtain⟨a,us,n,rfl,ha,dl⟩:=dx.inv;obtain⟨kv,dv,rfl,dk,dd⟩:=uH dl;obtain⟨t,rfl⟩:=ct ei dk;have hT:((uS s₀ h' J):Shared).TypeIs (.ref a) "tuple":=⟨_,p _ _ ha,rfl⟩;show wpAny _ _ (holding [.ref a] _>>=_) _ _ _;refine A9 (wpAny_holding (A9 (wpAny_tryCatch ?_)));unfold Builtin.Dict.pairItems;refine A9 (wpAny_typeOf hT ?_);refine bm_if_true (by decide) ?_;refine A9 (wpAny_seqItems (p _ _ ha) rfl ?_);refine AC ?_;dsimp only[Option.getD];have ab:h'.DictOf (intKind P0 w) y kvs:=by refine cI λG T=>?_;obtain⟨o,es,ep,ho,r⟩:=hD;refine T ?_;exact⟨o,es,ep,m _ _ hd1 ho,r⟩
 refine wpAny_holding (wpAny_dictSet_pairs (s:=(uS s₀ h' J)) jC ab (λh2 hm hs=>?_) (by rw[sizeLine_eq];exact A1 (A7 _ _) hz));refine AC ⟨plainId_quiet i5 _,?_⟩;have e1:rawInt ((k:Int)+1)=rawInt ((k+1:Nat):Int):=by push_cast;rfl
 rw[e1];refine ih (k+1) _ (stored kvs i dv) (bL acc i d) (by exact(Nat.succ_add_eq_add_succ _ _).symm.trans Q) ⟨_,_,rfl⟩ (λc o n1 Y e=>(hs.2 c n1).trans (m c o Y (N c o n1 Y e))) ?_ (λc o q=>(hs.2 c λz=>ae o (z▸q)).trans (p c o q)) hm (L.stored dd) (by have:=vq (kvs:=kvs) (k:=i) (v:=dv);exact A1 (Ae this _) (A1 (AL (Nat.succ_add_eq_add_succ _ _)) hz)) M;exact⟨aa.1.extBut hs.extBut hd1.symm,aa.2.extBut hs.extBut DN.symm⟩
theorem rt:∀{its:List D}{acc fin:List (Int×D)},(acc.map (·.1)).Nodup->g6 its acc=some fin->(fin.map (·.1)).Nodup:=by intro z;induction z with|nil=>intro acc fin a h;obtain rfl:=A0 h;exact a|cons x r e=>intro acc fin a h;obtain⟨kd,d,i,b,rfl,f,c⟩:=lZ h;exact e (ee a) c
def Io(A:Around)(f:Value)(ds:List D)(d:D):Prop:=∀(s:Shared)(a:Addr->Prop)(vs:List Value)(Q:Value->Shared->Prop)(E:Value->Shared->Prop),(s.heap.objs.size==sysModules)=false->(∀x,a x->∃o,s.heap.get? x=some o)->bM (Fz s.heap a) vs ds->(∀r h' t,Hk s.heap h'->cx (Fz h' a) r d->Q r (uS s h' t))->wpAny (model P0 w) A (call f vs) Q E s
theorem sy(N:A.handled=none)(hd:d=.list its\/d=.slist its)(V:g6 its []=some fin)(hz:its.length<=16777216):Io A (.type "dict") [d] (.dict fin):=by
 intro s p us Q E y lo B K;obtain⟨v,rfl,dv⟩:=gA B;obtain⟨l,vs,n,rfl,dl,O⟩:∃l vs n,v=.ref l/\bM (Fz s.heap p) vs its/\Fz s.heap p l (bA vs n):=by rcases hd with rfl|rfl<;>(obtain⟨_,_,_,rfl,g,dl⟩:=dv.inv;exact⟨_,_,_,rfl,dl,g⟩)
 refine callType_codes (Q₁:=λx j=>x=.ref s.heap.objs.size/\j={s with heap:=s.heap.push {cls:=.type "dict",data:=.dict #[]}}) F.kt_called_dict (F.kt_typeCall_dict_1 _) F.entry_dict_init (kt_code_dict_new _ ⟨rfl,rfl⟩) ?_;rintro x j⟨rfl,rfl⟩;have c:(s.heap.push {cls:=.type "dict",data:=.dict #[]}).DictOf (intKind P0 w) s.heap.objs.size []:=Heap.DictOf.new s.heap;have m:(s.heap.push {cls:=.type "dict",data:=.dict #[]}).get? l=some (bA vs n):=A2 _ O.1;have u:l<s.heap.objs.size:=AG O.1;refine⟨c.typeIs,F.args_dict_init_2 _ _,?_⟩;unfold Builtin.«dict.__init__»;refine A9 ?_;unfold Builtin.Dict.selfAndRest;refine A9 (wpAny_notOrdered_dict c.typeIs ?_);show wpAny _ _ (pure (s.heap.objs.size,[Value.ref l])) _ _ _;refine AC ?_;show wpAny _ _ (Builtin.Dict.updateFrom "dict.__init__" s.heap.objs.size (.ref l) [] .none) _ _ _;unfold Builtin.Dict.updateFrom;refine A9 (wpAny_typeOf (T:="list") ⟨_,m,rfl⟩ ?_);refine bm_if_true (by decide) ?_;refine A9 (E0 (A:=A.in1.in1) N m λh' tk J=>?_);refine bm_if_true rfl ?_;refine A9 (wpAny_rule ?_);have t:h'.get? l=some (bA vs n):=J _ _ m;refine A9 (wpAny_pyIter_list (s:=(uS s h' tk)) (⟨_,t,rfl,n,rfl⟩:h'.IsList l vs.toArray) ?_);refine AC ?_;have up:Hk s.heap (h'.push {cls:=.type "list_iterator",data:=.fields #[.ref l,.int 0 0]}):=λb o e=>A2 _ (J _ _ (A2 _ e));have r:h'.get? s.heap.objs.size=some {cls:=.type "dict",data:=.dict #[]}:=J _ _ (AH _ rfl);have h:s.heap.objs.size<h'.objs.size:=AG r;refine⟨plainId_quiet i5 _,?_⟩;have i:∀a o,Fz s.heap p a o->a<s.heap.objs.size:=λa o q=>AG q.1;refine zr (A:=A.in1) (H:=Fz s.heap p) (its:=its) (vs:=vs) (l:=l) (fin:=fin) N (AY (Nat.lt_trans u h)) (AY h) (Nat.ne_of_gt u) (λo q=>AU _ (i _ _ q)) (λo q=>Nat.lt_asymm h (i _ _ q)) dl (uS s (h'.push {cls:=.type "list_iterator",data:=.fields #[.ref l,.int 0 0]}) tk) (λC M Y hD hK L=>?_) vs.length 0 _ [] [] (by exact rfl) ⟨_,_,rfl⟩ (λU U U U e=>e) ⟨⟨_,AH _ rfl,rfl,rfl⟩,Heap.IsList.push ⟨_,t,rfl,n,rfl⟩ _⟩ (λa o q=>up a o q.1) ?_ .nil (by rw[dl.length];simpa using hz) (by exact V);·have f:Hk s.heap C:=λb o e=>L b o (AY (AG e)) (AY (Nat.lt_trans (AG e) h)) (up b o e);refine cI λG hG=>?_;obtain⟨es,n',I,de⟩:=jw hD (hK.mono λa o q=>(⟨f a o q.1,q.2⟩:Fz C p a o));refine hG ?_;refine⟨rfl,K _ C M f (.dict ⟨I,λz=>?_⟩ de ⟨rt (acc:=[]) List.nodup_nil V,y⟩)⟩;obtain⟨o,q⟩:=lo _ z;exact AU _ (AG q)
 ·exact⟨_,#[],_,A2 _ r,⟨rfl,rfl,rfl⟩,rfl,λe I=>absurd I (by simp),.nil,List.nodup_nil⟩
end
section
variable{A:Around}{env:Env}{g:Gr}{σ σ' σ₁ σ₂:Sig}{k:Nat}
theorem tK(X:Cx k A g env.frame)(N:Ev A env g (.Name f p) σ (.atom v) σ₁)(O:KG v=true)(x:il A env g es σ₁ ds σ')(M:Io A v ds d):Ev A env g (.Call (.Name f p) es [] pos) σ d σ':=by intro l s H Q E R K;refine Call_Name rfl (N l s H _ E R λu h' U H' C sub J=>?_);obtain rfl:=J.inv;refine qD O (bZ x) (x.args _ pos l _ H' _ E C λvs n t T m b h=>?_);have c:=RL.past (s:=(uS s n t)) X m;refine cI λG L=>?_;obtain⟨B,e,lo,z⟩:=m.use;subst e;refine L ?_;refine M (uS s n t) B vs Q E c lo h λr i j y I=>?_;exact K r i j _ (z i y).1 (λa o q=>(z i y).2 a o (b a o (sub a o q))) I
end
noncomputable def f4:List Value:=[.ref 46,.type "Exception",.type "BaseException",.type "object"]
noncomputable abbrev decObj:Obj:=excClassObj "DecodeError" "DecodeError" 83 82 [.ref 46] f4 true [] [] false none none (some (.ref 74)) none (some (.str "DecodeError" 266)) (some (.str "DecodeError" 274)) (some (.bool true)) "Exception.__new__"
theorem kU(X:(cA w.params).In h):h.get? 83=some decObj:=X _ _ (by kernel_rfl)
theorem BQ:findIn (cA w.params) (.ref 83) "__init__"=some (some (.ref 36)):=by kernel_rfl
theorem CI:findIn (cA w.params) (.ref 83) "__setattr__"=some (some (.builtin "object.__setattr__")):=by kernel_rfl
theorem Mv:typeIn (cA w.params) (.ref 36)=some (.type "function"):=by kernel_rfl
theorem d4:f4.contains (.type "Exception")=true/\f4.contains (.type "BaseException")=true/\f4.contains (.type "object")=true/\f4.contains (.type "AttributeError")=false/\f4.contains (.type "NameError")=false:=by decide+kernel
noncomputable abbrev ip(a:Option Addr)(a0 b:Value):Obj:={cls:=.ref 83,dict:=a,data:=.fields #[a0,b,.none,.none,.bool false,.none]}
section
variable{A:Around}{E:Value->Shared->Prop}{h:Heap}{g:Array GenState}{d:Drawn}{t:Nat}{os:OsState}
theorem pG(b:h.get? 83=some decObj)(e:Q () ⟨h,g,d,t,os⟩):wpAny M A (checkBuiltinCall "Exception.__new__" ⟨.ref 83::rest,[]⟩) Q E ⟨h,g,d,t,os⟩:=by
 have F:=PySem.F.excBase_Exception;have a:(Value.ref 83::f4).contains (.type "Exception")=true:=by rw[List.contains_cons,d4.1,Bool.or_true]
 have c:=F.noStar;simp only[checkBuiltinCall,F.newKind,F.newSplit,F.newRow];repeat(first|refine wpAny_loadPart_at b ?_|(refine wpAny_isSubtype_exc b ?_;rw[a])|refine wpAny_staticBase_exc b ?_|refine wpAny_madeBy_exc b ?_|simp only[bne_self_eq_false,Bool.false_eq_true,if_false]|wp_step)
 exact e
theorem C5(a:h.get? 83=some decObj)(j:rest.length<=sizeLine)(k:R (.ok (.ret (.ref (h.objs.size+1)))) ⟨(h.push {cls:=.type "tuple",data:=.seq rest.toArray}).push (ip none (.ref h.objs.size) .none),g,d,t,os⟩):codeAny (model P0 w) A (.builtin "Exception.__new__" ⟨.ref 83::rest,[]⟩) R ⟨h,g,d,t,os⟩:=by
 have F:=PySem.F.excBase_Exception;have i:=F.ends;have e:(Value.ref 83::f4).contains (.type "Exception")=true:=by rw[List.contains_cons,d4.1,Bool.or_true]
 have c:(Value.ref 83::f4).contains (.type "AttributeError")=false:=by rw[List.contains_cons,d4.2.2.2.1];rfl
 have f:(Value.ref 83::f4).contains (.type "NameError")=false:=by rw[List.contains_cons,d4.2.2.2.2];rfl
 refine codeAny_builtinAt F.entry ?_;unfold Builtin.«BaseException.__new__»;refine PySem.wpAt_bind ?_;show PySem.wpAt _ _ _ (stack>>=_) _ _ _;refine PySem.wpAt_bind (PySem.wpAt_stack λp b=>wpAt_of_wpAny ?_);wp_walk;refine PySem.wpAt_of_wpAny ?_;rw[F.owner];repeat(first|with_reducible refine wpAny_madeHere_exc F.canon a ?_|with_reducible refine wpAny_loadPart_at a ?_|(with_reducible refine wpAny_isSubtype_exc a ?_;first|rw[e]|rw[c]|rw[f])|wp_step)
 show R _ _;rw[Heap.size_push];exact k
set_option backward.match.sparseCases true in theorem Bw(X:(cA w.params).In h)(j:rest.length<=sizeLine)(n:∀h' e k,Hk h h'->h.get? e=none->h'.get? e=some (ip none (.ref k) .none)->codeAny (model P0 w) (A.under (.builtin "type.__call__" ⟨.ref 83::rest,[]⟩)) (.call (.ref 36) ⟨.ref e::rest,[]⟩) (λr s=>match r with|.ok (.ret v)=>v=.none/\Q (.ref e) s|.ok _=>False|.error x=>E x s) ⟨h',g,d,t,os⟩):wpAny (model P0 w) A (call (.ref 83) rest) Q E ⟨h,g,d,t,os⟩:=by
 have f:=kU X;have p:=tc_lookup;have q:=tc_bind (.ref 83);have y:(⟨h,g,d,t,os⟩:Shared).TypeIs (.ref 83) "type":=⟨_,f,rfl⟩;refine wpAny_call (codeAny_of_tree ?_);show wpAny _ _ (callAny (.ref 83) _) _ _ _;repeat(any_goals(first|assumption|with_reducible refine wpAny_loadPart_at f ?_|wp_step))
 refine⟨rfl,?_⟩;refine codeAny_call_builtin_at (Code.quiet_builtin _ (by decide+kernel)) entry_typeCall (wpAny_check_type_call_sub f ?_);have F:=PySem.F.excBase_Exception;repeat(first|with_reducible refine wpAny_loadPart_at f ?_|with_reducible refine wpAny_madeBy_exc f ?_|wp_step)
 refine codeAny_call_builtin_code (Code.quiet_builtin _ F.quiet) (pG f ?_);refine C5 f j ?_;show wpAny _ _ _ _ _ _;have u:Hk h ((h.push {cls:=.type "tuple",data:=.seq rest.toArray}).push (ip none (.ref h.objs.size) .none)):=λb o e=>A2 _ (A2 _ e);have a:(cA w.params).In ((h.push {cls:=.type "tuple",data:=.seq rest.toArray}).push (ip none (.ref h.objs.size) .none)):=Frag.In.keeps X u;have i:=kU a;have c:((h.push {cls:=.type "tuple",data:=.seq rest.toArray}).push (ip none (.ref h.objs.size) .none)).get? (h.objs.size+1)=some (ip none (.ref h.objs.size) .none):=by heap_get
 have l:(Value.ref 83::f4).contains (.ref 83)=true:=by rfl
 unfold isInstance;repeat(first|with_reducible refine wpAny_loadPart_at c ?_|wp_step)
 show wpAny _ _ (isSubtype (.ref 83) (.ref 83)) _ _ _;refine wpAny_isSubtype_exc i ?_;rw[l];wp_walk;show wpAny _ _ (typeLookup (.ref 83) _) _ _ _;refine(looks_findIn a (BQ)).here ?_;refine wpAny_holding (A9 ?_);rw[show bindSpecial (.ref 36) (.ref (h.objs.size+1))=bindSpecial (.ref 36) (.ref (h.objs.size+1))from rfl];refine(bind_fn a (.ref (h.objs.size+1)) (Mv)).here ?_;refine A9 (wpAny_call (codeAny_mono (n _ (h.objs.size+1) _ u (Heap.get?_none_of_le (AV _)) c) λr s z=>?_));rcases r with x|(v|U|U|_)<;>first|exact z|exact z.elim|skip
 obtain⟨rfl,m⟩:=z;wp_walk;exact m
end
section
open Builtin Builtin.ObjectAttr Builtin.Getset_descriptor
theorem D9:findCls (cA w.params) (.type "Exception") (.type "type") "__init__"=some (.val (.builtin "Exception.__init__")):=by kernel_rfl
theorem xD:typeOf (.type "Exception")=pure (.type "type"):=by kernel_rfl
theorem wc:Looks M h (typeOf (.type "Exception")) (.type "type"):=by rw[xD];exact .now
theorem FI:findIn (cA w.params) (.type "type") "__getattribute__"=some (some (.builtin "type.__getattribute__")):=by kernel_rfl
theorem EB:(if onTheHeap (.type "type")then findIn (cA w.params) (.type "type") "__getattr__"else some none)=some none:=by kernel_rfl
theorem Ge:subIn (cA w.params) (.type "type") (.type "type")=some true:=by kernel_rfl
theorem vj:findIn (cA w.params) (.ref 83) "what"=some none:=by kernel_rfl
theorem BS:findIn (cA w.params) (.ref 83) "at"=some none:=by kernel_rfl
theorem Cb:Looks M h (opaqueClassAbove (.type "Exception")) none:=by
 have e:opaqueClassAbove (.type "Exception")=pure none:=by show(pure (if Manifest.isStub "Exception"then some (("Exception":String):PySem.Str)else none):Sem (Option PySem.Str))=pure none;rw[show Manifest.isStub "Exception"=false from by decide+kernel];rfl
 rw[e];exact .now
section
variable{A:Around}{E:Value->Shared->Prop}{s:Shared}
theorem yo(X:(cA w.params).In s.heap)(h:∀t,Q (.builtin "Exception.__init__",[]) {s with toks:=t}):wpAny (model P0 w) A (getMethod (.type "Exception") "__init__" pl) Q E s:=by unfold getMethod;refine A9 (((wc (M:=model P0 w) (h:=s.heap)).andThen (looks_findIn X (FI))).here ?_);dsimp only;rw[if_pos canon_tga];refine A9 ?_;refine cls_open X Cb wc (FI) (looks_hook X (EB)) (Ge) (D9) (AC ?_);show wpAny _ _ (handedOut _) _ _ _;rw[handedOut_of (by decide+kernel)];exact AC (AC (h _))
theorem z6(X:(cA w.params).In s.heap)(k:s.heap.get? e=some (ip m (.ref l) .none))(i:rest.length<=sizeLine)(h:∀h' t,(∀b o,b≠e->s.heap.get? b=some o->h'.get? b=some o)->h'.get? e=some (ip m (.ref t) .none)->R (.ok (.ret .none)) {s with heap:=h'}):codeAny (model P0 w) A (.call (.builtin "Exception.__init__") ⟨.ref e::rest,[]⟩) R s:=by
 have F:=PySem.F.excBase_Exception;obtain⟨p,g,d,t,os⟩:=s;have j:=kU X;have f:(Value.ref 83::f4).contains (.type "Exception")=true:=by rw[List.contains_cons,d4.1,Bool.or_true]
 have c:=F.noStar;refine codeAny_call_builtin F.init.plain F.initEntry ?_;simp only[checkBuiltinCall,F.initKind,F.initSplit,F.initRow];repeat(first|(with_reducible refine wpAny_loadPart_at k ?_)|with_reducible refine wpAny_loadPart_at j ?_|(with_reducible refine wpAny_isSubtype_exc j ?_;rw[f])|wp_step)
 refine wpAny_onRaise ?_;rw[show∀(a b:String)(n:Nat),Bind.check ⟨.positional,"*","Exception",.self,[⟨"args",.varPos,false⟩]⟩ a b n (List.map (λx=>x.fst) ({pos:=Value.ref e::rest}:Args).kw)=pure ()fromλa b n=>check_star_args _ _ _ _ _ _];refine AC ?_;wp_walk;refine h _ p.objs.size (λb o hb e=>?_) ?_;·rw[Heap.get?_update_other _ _ hb.symm];exact A2 _ e
 ·rw[Heap.get?_update_self _ (A2 _ k) rfl];rfl
theorem EO:subIn (cA w.params) (.ref 83) (.type "object")=some true:=by kernel_rfl
theorem Cr:(clsIn (cA w.params) 83).map (·.mro)=some (.ref 83::f4):=by kernel_rfl
set_option backward.match.sparseCases true in theorem wo(X:(cA w.params).In s.heap)(H:findIn (cA w.params) (.ref 83) name=some none)(I:s.heap.Inst e 83 mA)(hq:∀h' an,h'.Inst e 83 (λy=>if y=name then some v else mA y)->(∀b o,b≠e->(∀a k,s.heap.get? e=some a->a.dict=some k->b≠k)->s.heap.get? b=some o->h'.get? b=some o)->(∀a,s.heap.get? e=some a->∃i,h'.get? e=some i/\i.cls=a.cls/\i.data=a.data/\i.slots=a.slots/\(∀k,a.dict=some k->i.dict=some k)/\(a.dict=none->∃k,i.dict=some k/\s.heap.get? k=none))->Q () (uS s h' an))(hw:Within mA ns)(al:ns.length<=sizeLine):wpAny (model P0 w) A (setAttr (.ref e) name v) Q E s:=by
 have x:=PySem.F.store_Exception;refine N4 s λG T=>?_;obtain⟨h,g,d,t,os⟩:=s;obtain⟨o,n,hc,J,hd⟩:=I;dsimp only at X n hd hq;have hT:Looks (model P0 w) h (typeOf (.ref e)) (.ref 83):=by have:=Looks.ld (M:=model P0 w) (part:=some headPart) n;exact this.andThen (by rw[hc];exact .now)
 obtain⟨cd,l,af⟩:=AD.mp (Cr);refine T _ ?_;have hm:Looks (model P0 w) h (mroOf (.ref 83)) (.ref 83::f4):=(looks_clsIn X l).andThen (by rw[af];exact .now);refine A9 (wpAny_mkText (A9 (A9 (A9 (hT _ _ _ _ (λU U e=>e) (looks_findIn X (CI) _ _ _ _ (λU U e=>e) (wpAny_holding ?_)))))));rw[x.slot.bind];refine A9 (AC (A9 (wpAny_call ?_)));refine codeAny_mono (codeAny_call_builtin (R:=λr s'=>match r with|.ok (.ret _)=>Q () s'|.ok _=>False|.error e=>E e s') x.slot.plain x.entry ?_) λr s' z=>?_
 · refine@check_slot (model P0 w) _ _ ⟨h,g,d,t+1,os⟩ "object.__setattr__" "object" "__setattr__" (.ref e) [.str name t,v] [] _ x.kind x.split (hT.andThen (looks_subIn X (EO))) (x.args (.ref e) (.str name t) v) ?_;show wpAny _ _ (Builtin.«object.__setattr__» ⟨[.ref e,.str name t,v],[]⟩) _ _ _;rw[osa_eq,refuse_eq];refine A9 (A9 (hT.here (A9 (hm.here ?_))));rw[show f4=.ref 46::[.type "Exception",.type "BaseException",.type "object"]from rfl,refuseLoop_ref,refuseLoop_ref,x.passes];refine AC (A9 (hT.here (A9 ((looks_findIn X H).here (A9 (AC ?_))))));dsimp only;have hC:=kU X;unfold storeInOwnDict;repeat(first|(with_reducible refine wpAny_loadPart_at n ?_;rw[hc])|with_reducible refine wpAny_loadPart_at n ?_|with_reducible refine wpAny_loadPart_at hC ?_|wp_step)
   rcases hd with⟨V,ai⟩|⟨k,u,L,ak⟩
   · rw[V,if_neg (by simp[typeHasDict])];split;·rename_i l;exact ca l
     split;·rename_i c l;exact absurd l (J c)
     · have p:(h.push {cls:=.type "dict",data:=.dict #[]}).get? e=some o:=A2 _ n;have O:e≠h.objs.size:=AY (AG n);refine A9 (wpAny_alloc' ?_);refine A9 (wpAny_update' p ?_);refine AC ?_;have ah:((h.push {cls:=.type "dict",data:=.dict #[]}).update e λo=>{cls:=o.cls,dict:=some h.objs.size,data:=o.data,slots:=o.slots}).get? h.objs.size=some {cls:=.type "dict",data:=.dict #[]}:=(Heap.get?_update_ne _ _ _ _ O.symm).trans (Heap.get?_push_at rfl rfl);have aj:((h.push {cls:=.type "dict",data:=.dict #[]}).update e λo=>{cls:=o.cls,dict:=some h.objs.size,data:=o.data,slots:=o.slots}).Ns h.objs.size (λU=>none):=⟨_,#[],_,ah,rfl,λe he=>absurd he (by simp),λU=>rfl⟩;show wpAny _ _ (storeInDict h.objs.size (.str name t) name v) _ _ _;unfold storeInDict newKeyGuard;refine A9 (AC (A9 (wpAny_nsSet1 (Heap.Ns1.of_empty aj) λh' m hs=>?_)));refine cI λG T=>?_;obtain⟨oD,ab,aa,N,C,B⟩:=m.count (Within.cons name v Within.nil);refine T ?_;refine A9 (wpAny_lookBehind N (by rw[C];exact pastItsLine_dict (A1 B (by rw[AJ,List.length_nil,sizeLine_eq];omega))) ?_);wp_walk;have Y:h'.get? e=some {cls:=o.cls,dict:=some h.objs.size,data:=o.data,slots:=o.slots}:=?_;refine hq h' _ ⟨{cls:=o.cls,dict:=some h.objs.size,data:=o.data,slots:=o.slots},Y,hc,J,.inr ⟨h.objs.size,rfl,O.symm,?_⟩⟩ (λb ob ae U hb=>?_) (λa j=>by obtain rfl:o=a:=A0 (n.symm.trans j);exact⟨_,Y,rfl,rfl,rfl,⟨λk e=>(by rw[V]at e;exact ca e),λU=>⟨h.objs.size,rfl,Heap.get?_none_of_le (AT _)⟩⟩⟩);·obtain⟨o',es,ep,e1,e2,e3,eu,e4⟩:=m;exact⟨o',es,ep,e1,e2,e3,eu,λy=>by rw[e4 y];by_cases hy:y=name<;>simp[hy,ai]⟩
       ·exact(hs.2 b (AY (AG hb))).trans ((Heap.get?_update_ne _ _ _ _ ae).trans (A2 _ hb))
       ·refine(hs.2 e O).trans (Heap.get?_update_self _ p ?_);have ag:=(Heap.get?_some_iff.mp n).2;obtain⟨oc,od,am,ao⟩:=o;cases am<;>first|rfl|exact ag
   ·rw[u];refine AC ?_;show wpAny _ _ (storeInDict k (.str name t) name v) _ _ _;unfold storeInDict newKeyGuard;refine A9 (AC (A9 (wpAny_nsSet1 ak λh' m hs=>?_)));refine cI λG T=>?_;obtain⟨oD,ab,aa,N,C,B⟩:=m.count (Within.cons name v hw);refine T ?_;refine A9 (wpAny_lookBehind N (by rw[C];exact pastItsLine_dict (A1 B (by rw[AJ];exact AE al))) ?_);wp_walk;refine hq h' _ ⟨o,(hs.2 e L.symm).trans n,hc,J,.inr ⟨k,u,L,m⟩⟩ (λb ob U ac hb=>?_) (λa j=>⟨a,(hs.2 e L.symm).trans j,rfl,rfl,rfl,⟨λU e=>e,λq=>by rw[n]at j;obtain rfl:=A0 j;rw[u]at q;exact ca q.symm⟩⟩);exact(hs.2 b (ac o k n u)).trans hb
 ·cases r with|error e=>exact z|ok f=>cases f with|ret v=>exact AC (AC z)|_=>exact z.elim
end
end
noncomputable def ot:Value->D|.none=>.none|.bool b=>.bool b|.str x _=>.str x|.int i _=>.int i|v=>.atom v
theorem sB(v:Value):cx H v (ot v):=by cases v<;>first|exact .none|exact .bool _|exact .str _ _|exact .int _ _|exact .atom _
theorem kY:∀vs:List Value,bM H vs (vs.map ot)|[]=>.nil|v::vs=>.cons (sB v) (kY vs)
structure Jo(f:Addr)(st:Stmt)(qual:PySem.Str)(dv pm:Value)(c:Nat):Prop where at_:(cA w.params).lookup f=some (kF st qual dv pm c)code:codeIn (cA w.params) (.ref c) qual=true
noncomputable def vW(a:Option Addr)(k:Nat):List Value:=match a with|none=>[]|some a=>match(cA w.params).lookup a with|some ⟨_,_,.seq i _,_⟩=>i.toList.drop (i.toList.length-k)|_=>[]
noncomputable def n3(st:Stmt)(xs:List PySem.Str):Bool:=xs.all (λx=>(cb st).names.lookup x==some .local||(cb st).names.lookup x==some .cell)&&decide xs.Nodup&&!(cb st).isCoroutine&&!(cb st).isGenerator&&(cb st).kind==.function
inductive NG(f:Addr)(n:Nat)(sc:Scope)(body:List Stmt)(xs:List PySem.Str)(dds:List D):Prop|mk(fd:FuncData)(dvs:List Value)(hF:yt f fd body)(hsc:fd.scope=sc)(hxs:xs.Nodup)(hbd:∀s:Shared,(cA w.params).In s.heap->∀vs:List Value,vs.length=n->BindsTo s fd ⟨vs,[]⟩ (xs.zip (vs++dvs)))(hdd:∀H,bM H dvs dds)(hk:∀x∈xs,sc.names.lookup x=some .local\/sc.names.lookup x=some .cell)
structure DC where
 f:Addr
 n:Nat
 sc:Scope
 body:List Stmt
 xs:List PySem.Str
 dds:List D
 ok:NG f n sc body xs dds
noncomputable def Me{f:Addr}{st:Stmt}{q:PySem.Str}{a p:Value}{c:Nat}(h:Jo f st q a p c)(n:Nat)(xs:List PySem.Str)(d:List Value)(hp:n3 st xs=true)(hb:∀s:Shared,(cA w.params).In s.heap->∀vs:List Value,vs.length=n->BindsTo s (DQ st q a p c) ⟨vs,[]⟩ (xs.zip (vs++d))):DC where f:=f;n:=n;sc:=cb st;body:=bz st;xs:=xs;dds:=d.map ot;ok:=by unfold n3 at hp;simp only[A8,Bool.not_eq_true',List.all_eq_true,Ac,decide_eq_true_eq,Bool.or_eq_true]at hp;obtain⟨⟨⟨⟨p2,b⟩,e⟩,g⟩,i⟩:=hp;exact⟨DQ st q a p c,d,⟨⟨_,h.at_,rfl⟩,⟨c,rfl,h.code⟩,rfl,rfl,rfl,rfl,e,g,i⟩,rfl,b,hb,λH=>kY d,p2⟩
noncomputable def MW:Option Addr->Value|none=>.none|some a=>.ref a
abbrev Lc(T:Type):Nat->Type|0=>T|n+1=>Value->Lc T n
noncomputable def JU:(n:Nat)->(List Value->T)->Lc T n|0,f=>f []|n+1,f=>λa=>JU n λr=>f (a::r)
theorem HW{f g:List Value->T}(h:JU n f=JU n g){vs:List Value}(e:vs.length=n):f vs=g vs:=by induction n generalizing f g vs with|zero=>rw[List.length_eq_zero_iff.mp e];exact h|succ n i=>obtain⟨a,r,rfl⟩:=List.exists_cons_of_length_eq_add_one e;exact i (f:=λr=>f (a::r)) (g:=λr=>g (a::r)) (congrFun h a) (Nat.succ.inj e)
abbrev DT(n:Nat):Type:=Option Obj×Bool×Bool×Lc (Setting->Option (List (PySem.Str×Value))) n
noncomputable def DL(f:Addr)(st:Stmt)(q m:PySem.Str)(t:Nat)(a:Option Addr)(n:Nat)(xs:List PySem.Str):DT n:=((cA w.params).lookup f,codeIn (cA w.params) (.ref (f-1)) q,n3 st xs,JU n λvs S=>peek (cA w.params) S (bindArgs (DQ st q (MW a) (kS m t) (f-1)) ⟨vs,[]⟩))
noncomputable def DR(f:Addr)(st:Stmt)(q m:PySem.Str)(t:Nat)(a:Option Addr)(k n:Nat)(xs:List PySem.Str):DT n:=(some (kF st q (MW a) (kS m t) (f-1)),true,true,JU n λvs S=>some (xs.zip (vs++vW a k)))
noncomputable def mA(f:Addr)(st:Stmt)(q m:PySem.Str)(t:Nat)(a:Option Addr)(k n:Nat)(xs:List PySem.Str)(h:DL f st q m t a n xs=DR f st q m t a k n xs:=by kernel_rfl):DC:=Me ⟨congrArg (·.1) h,congrArg (·.2.1) h⟩ n xs (vW a k) (congrArg (·.2.2.1) h) λU X vs e=>kp_binds X λS=>congrFun (HW (congrArg (·.2.2.2) h) e) S
noncomputable def dh:DC:=mA 36 (kM 2 0) "MintError.__init__" "octetmint.basics" 194 (some 29) 1 2 ["self","what","at"]
noncomputable def wL:DC:=mA 92 (kT 6) "mask" "octetmint.basics" 194 none 0 1 ["size"]
noncomputable def w7:DC:=mA 99 (kT 7) "wrap" "octetmint.basics" 194 none 0 2 ["worth","size"]
noncomputable def sK:DC:=mA 106 (kT 8) "signed" "octetmint.basics" 194 none 0 2 ["worth","size"]
noncomputable def k7:DC:=mA 113 (kT 9) "from_little" "octetmint.basics" 194 none 0 1 ["octets"]
noncomputable def bJ:DC:=mA 120 (kT 10) "from_little_signed" "octetmint.basics" 194 none 0 1 ["octets"]
noncomputable def iY:DC:=mA 127 (kT 16) "condition_names" "octetmint.forms" 323 none 0 0 []
noncomputable def ph:DC:=mA 134 (kT 17) "is_fixed" "octetmint.forms" 323 none 0 1 ["kind"]
noncomputable def jQ:DC:=mA 141 (kT 18) "is_immediate" "octetmint.forms" 323 none 0 1 ["kind"]
noncomputable def lg:DC:=mA 148 (kT 19) "is_relative" "octetmint.forms" 323 none 0 1 ["kind"]
noncomputable def jO:DC:=mA 155 (kT 20) "takes_memory" "octetmint.forms" 323 none 0 1 ["kind"]
noncomputable def mv:DC:=mA 169 (kT 22) "kind_width" "octetmint.forms" 323 none 0 1 ["kind"]
noncomputable def ru:DC:=mA 176 (kT 23) "slot_of" "octetmint.forms" 323 none 0 1 ["kind"]
noncomputable def oJ:DC:=mA 189 (kM 24 0) "Form.__init__" "octetmint.forms" 323 (some 184) 5 4 ["self","name","kinds","opcode","escape","digit","size","must","is_wide"]
noncomputable def m8:DC:=mA 189 (kM 24 0) "Form.__init__" "octetmint.forms" 323 (some 184) 4 5 ["self","name","kinds","opcode","escape","digit","size","must","is_wide"]
noncomputable def oO:DC:=mA 189 (kM 24 0) "Form.__init__" "octetmint.forms" 323 (some 184) 2 7 ["self","name","kinds","opcode","escape","digit","size","must","is_wide"]
noncomputable def nT:DC:=mA 189 (kM 24 0) "Form.__init__" "octetmint.forms" 323 (some 184) 0 9 ["self","name","kinds","opcode","escape","digit","size","must","is_wide"]
noncomputable def mh:DC:=mA 203 (kM 24 2) "Form.slots" "octetmint.forms" 323 none 0 1 ["self"]
noncomputable def jh:DC:=mA 210 (kM 24 3) "Form.has_modrm" "octetmint.forms" 323 none 0 1 ["self"]
noncomputable def jv:DC:=mA 217 (kM 24 4) "Form.has_plus" "octetmint.forms" 323 none 0 1 ["self"]
noncomputable def jN:DC:=mA 266 (kM 28 0) "Operand.__init__" "octetmint.operands" 485 none 0 2 ["self","kind"]
noncomputable def pj:DC:=mA 376 (kM 31 0) "Rel.__init__" "octetmint.operands" 485 (some 369) 1 2 ["self","worth","name"]
noncomputable def ir:DC:=mA 470 (kM 33 0) "Instruction.__init__" "octetmint.operands" 485 (some 463) 0 4 ["self","name","operands","prefix"]
noncomputable def pd:DC:=mA 664 (kT 66) "rex_bits" "octetmint.prefixes" 1022 none 0 1 ["octet"]
noncomputable def sU:DC:=mA 671 (kT 67) "is_rex" "octetmint.prefixes" 1022 none 0 1 ["octet"]
noncomputable def rm:DC:=mA 685 (kT 69) "sort_of" "octetmint.prefixes" 1022 none 0 1 ["octet"]
noncomputable def jy:DC:=mA 700 (kM 70 0) "Prefixes.__init__" "octetmint.prefixes" 1022 (some 693) 5 1 ["self","segment","is_data","repeat","is_lock","rex"]
noncomputable def io:DC:=mA 714 (kM 70 2) "Prefixes.has_rex" "octetmint.prefixes" 1022 none 0 1 ["self"]
noncomputable def jq:DC:=mA 763 (kT 73) "read_prefixes" "octetmint.prefixes" 1022 none 0 2 ["octets","at"]
noncomputable def j9:DC:=mA 777 (kM 80 0) "Decoded.__init__" "octetmint.decoder" 1169 none 0 5 ["self","instruction","length","form","prefixes"]
noncomputable def l5:DC:=mA 805 (kM 81 0) "Frame.__init__" "octetmint.decoder" 1169 none 0 4 ["self","begin","prefixes","code_at"]
noncomputable def iS:DC:=mA 819 (kM 81 2) "Frame.is_narrow" "octetmint.decoder" 1169 none 0 1 ["self"]
noncomputable def iH:DC:=mA 826 (kM 81 3) "Frame.take_code" "octetmint.decoder" 1169 none 0 2 ["self","octets"]
noncomputable def iM:DC:=mA 833 (kM 81 4) "Frame.take_must" "octetmint.decoder" 1169 none 0 2 ["self","iset"]
noncomputable def oV:DC:=mA 854 (kT 82) "fits_size" "octetmint.decoder" 1169 none 0 2 ["form","frame"]
noncomputable def pi:DC:=mA 859 (kT 83) "fits_mod" "octetmint.decoder" 1169 none 0 2 ["form","mod"]
noncomputable def pK:DC:=mA 866 (kT 84) "fits_nop" "octetmint.decoder" 1169 none 0 2 ["form","frame"]
noncomputable def iw:DC:=mA 873 (kT 85) "picked" "octetmint.decoder" 1169 none 0 2 ["forms","frame"]
noncomputable def gV:DC:=mA 915 (kT 91) "field_at" "octetmint.decoder" 1169 none 0 3 ["octets","at","width"]
noncomputable def iX:DC:=mA 922 (kT 92) "written_operand" "octetmint.decoder" 1169 none 0 3 ["kind","slot","field"]
noncomputable def cG:DC:=mA 929 (kT 93) "operands_of" "octetmint.decoder" 1169 none 0 3 ["form","frame","octets"]
noncomputable def mw:DC:=mA 934 (kT 94) "check_used" "octetmint.decoder" 1169 none 0 3 ["form","frame","operands"]
noncomputable def lu:DC:=mA 941 (kT 95) "prefix_word" "octetmint.decoder" 1169 none 0 2 ["form","frame"]
noncomputable def bS:DC:=mA 946 (kT 96) "read_frame" "octetmint.decoder" 1169 none 0 3 ["iset","octets","at"]
noncomputable def cK:DC:=mA 954 (kT 97) "decode" "octetmint.decoder" 1169 (some 947) 0 3 ["iset","octets","at"]
noncomputable def bF:DC:=mA 962 (kT 98) "decode_or_none" "octetmint.decoder" 1169 (some 955) 0 3 ["iset","octets","at"]
noncomputable def mc:DC:=mA 969 (kT 100) "jump_forms" "octetmint.flow" 1470 none 0 0 []
noncomputable def mq:DC:=mA 976 (kT 101) "call_forms" "octetmint.flow" 1470 none 0 0 []
noncomputable def ma:DC:=mA 983 (kT 102) "loop_forms" "octetmint.flow" 1470 none 0 0 []
noncomputable def md:DC:=mA 990 (kT 103) "trap_forms" "octetmint.flow" 1470 none 0 0 []
noncomputable def lm:DC:=mA 997 (kT 104) "carry_forms" "octetmint.flow" 1470 none 0 0 []
noncomputable def j6:DC:=mA 1004 (kT 105) "string_forms" "octetmint.flow" 1470 none 0 0 []
noncomputable def mV:DC:=mA 1011 (kT 106) "nop_forms" "octetmint.flow" 1470 none 0 0 []
noncomputable def ik:DC:=mA 1018 (kT 107) "flow_forms" "octetmint.flow" 1470 none 0 0 []
noncomputable def km:DC:=mA 1025 (kT 108) "condition_of" "octetmint.flow" 1470 none 0 1 ["name"]
noncomputable def fX:DC:=mA 1032 (kT 109) "where_next" "octetmint.flow" 1470 none 0 1 ["name"]
noncomputable def pL:DC:=mA 1046 (kM 111 0) "Row.__init__" "octetmint.sweep" 1542 none 0 5 ["self","at","octets","text","instruction"]
noncomputable def ic:DC:=mA 1053 (kM 111 1) "Row.end" "octetmint.sweep" 1542 none 0 1 ["self"]
noncomputable def cW:DC:=mA 1074 (kT 112) "distance_of" "octetmint.sweep" 1542 none 0 1 ["instruction"]
noncomputable def cZ:DC:=mA 1081 (kT 113) "target_of" "octetmint.sweep" 1542 none 0 1 ["row"]
noncomputable def dO:DC:=mA 1088 (kT 114) "next_start" "octetmint.sweep" 1542 none 0 3 ["iset","octets","at"]
noncomputable def iD:DC:=mA 1096 (kT 115) "starts" "octetmint.sweep" 1542 (some 1089) 1 2 ["iset","octets","at"]
noncomputable def iE:DC:=mA 1096 (kT 115) "starts" "octetmint.sweep" 1542 (some 1089) 0 3 ["iset","octets","at"]
noncomputable def d0:DC:=mA 1103 (kT 116) "resync" "octetmint.sweep" 1542 none 0 4 ["iset","octets","one","other"]
noncomputable def fW:DC:=mA 1110 (kT 117) "plain_rows" "octetmint.sweep" 1542 none 0 2 ["iset","octets"]
noncomputable def gm:DC:=mA 1117 (kT 118) "labels_of" "octetmint.sweep" 1542 none 0 2 ["iset","octets"]
noncomputable def fY:DC:=mA 1124 (kT 119) "references" "octetmint.sweep" 1542 none 0 2 ["iset","octets"]
noncomputable def dJ:DC:=mA 1131 (kT 120) "way_behind" "octetmint.sweep" 1542 none 0 1 ["row"]
noncomputable def fk:DC:=mA 1136 (kT 121) "leaders" "octetmint.sweep" 1542 none 0 2 ["iset","octets"]
noncomputable def mt:DC:=mA 1150 (kM 122 0) "Block.__init__" "octetmint.sweep" 1542 none 0 4 ["self","begin","end","follows"]
noncomputable def mn:DC:=mA 1157 (kM 122 1) "Block.told" "octetmint.sweep" 1542 none 0 1 ["self"]
noncomputable def bG:DC:=mA 1171 (kT 123) "follows_of" "octetmint.sweep" 1542 none 0 2 ["row","begins"]
noncomputable def fU:DC:=mA 1176 (kT 124) "blocks" "octetmint.sweep" 1542 none 0 2 ["iset","octets"]
noncomputable def gu:DC:=mA 1183 (kT 125) "flow_from" "octetmint.sweep" 1542 none 0 3 ["iset","octets","at"]
noncomputable def gY:DC:=mA 1188 (kT 127) "codes_of" "octetmint.iset" 1760 none 0 1 ["form"]
noncomputable def c9:DC:=mA 1202 (kM 128 0) "InstructionSet.__init__" "octetmint.iset" 1760 none 0 2 ["self","forms"]
noncomputable def g5:DC:=mA 1228 (kM 128 4) "InstructionSet.at" "octetmint.iset" 1760 none 0 4 ["self","must","escape","opcode"]
noncomputable def oU:DC:=mA 1270 (kT 130) "_law_base" "law_qd0117_01" 1864 none 0 0 []
noncomputable def l6:DC:=mA 1278 (kT 132) "_law_plain" "law_qd0117_01" 1864 none 0 0 []
noncomputable def gS:DC:=mA 1285 (kT 133) "_law_pen" "law_qd0117_01" 1864 none 0 1 ["script"]
noncomputable def bW:DC:=mA 1292 (kT 134) "_law_take" "law_qd0117_01" 1864 none 0 2 ["pen","many"]
noncomputable def bn:DC:=mA 1297 (kT 135) "_law_row" "law_qd0117_01" 1864 none 0 2 ["octets","at"]
noncomputable def dB:DC:=mA 1304 (kT 136) "_law_starts" "law_qd0117_01" 1864 none 0 2 ["octets","at"]
noncomputable def c6:DC:=mA 1309 (kT 137) "_law_leaders" "law_qd0117_01" 1864 none 0 2 ["octets","begins"]
noncomputable def fF:DC:=mA 1314 (kT 138) "_law_blocks" "law_qd0117_01" 1864 none 0 3 ["octets","begins","heads"]
noncomputable def eW:DC:=mA 1321 (kT 139) "_law_reached" "law_qd0117_01" 1864 none 0 2 ["octets","begin"]
noncomputable def nW:DC:=mA 1326 (kT 140) "law" "law_qd0117_01" 1864 none 0 1 ["script"]
noncomputable def Na:List (DC):=[dh,wL,w7,sK,k7,bJ,iY,ph,jQ,lg,jO,mv,ru,oJ,m8,oO,nT,mh,jh,jv,jN,pj,ir,pd,sU,rm,jy,io,jq,j9,l5,iS,iH,iM,oV,pi,pK,iw,gV,iX,cG,mw,lu,bS,cK,bF,mc,mq,ma,md,lm,j6,mV,ik,km,fX,pL,ic,cW,cZ,dO,iD,iE,d0,fW,gm,fY,dJ,fk,mt,mn,bG,fU,gu,gY,c9,g5,oU,l6,gS,bW,bn,dB,c6,fF,eW,nW]
section
variable{env:Env}{g:Gr}{h h':Heap}{Y:Yd}{σ:Sig}{m cm:PySem.Str->Option Value}{H:Addr->Obj->Prop}{ad:PySem.Str->Addr}
theorem bD.turnZ(r:bD env g (yU Y Z) σ m cm h H ad)(i:∀a o,h.get? a=some o->¬dY Z a->Up g.fs h' a o)(B:∀a,dY Z a->g.b.get? a=none/\¬dY Y a/\a∉g.fs/\∃o,h'.get? a=some o)(l:∀a o,Z' a o->h'.get? a=some o/\(dY Z a\/h.get? a=none)):bD env g (yU Y Z') σ m cm h' (Fz h' (c5 env σ ad (dY (yU Y Z')))) ad/\Sb H (Fz h' (c5 env σ ad (dY (yU Y Z')))):=by
 have up:∀a,c5 env σ ad (dY (yU Y Z')) a->c5 env σ ad (dY (yU Y Z)) a\/h.get? a=none:=by
   rintro a(q|q|q|q);·exact .inl (.inl q)
   ·exact .inl (.inr (.inl q))
   ·exact .inl (.inr (.inr (.inl q)))
   · rcases bX.mp q with q|⟨o,q⟩;·exact .inl (.inr (.inr (.inr (bX.mpr (.inl q)))))
     ·exact(l a o q).2.elim (λq=>.inl (.inr (.inr (.inr (bX.mpr (.inr q)))))) .inr
 have hs:Sb H (Fz h' (c5 env σ ad (dY (yU Y Z')))):=by rw[r.isH];rintro a o⟨e,I⟩;refine⟨(i a o e λz=>I (.inr (.inr (.inr (bX.mpr (.inr z)))))).at λz=>I (r.exFs z),λq=>(up a q).elim I λz=>?_⟩;rw[e]at z;exact ca z.symm
 have nL:¬dY Z env.locals:=λ⟨o,z⟩=>(r.held _ o (.inr z)).2.1 rfl;have nc:∀n c,env.cells.lookup n=some c->¬dY Z c:=λn c e⟨o,z⟩=>(r.held _ o (.inr z)).2.2 n e;have u:Hk g.b h':=λb o e=>(i b o (r.fr.keep b o e) λz=>by rw[(B b z).1]at e;exact ca e).at λz=>by rw[(r.frs b z).2.1]at e;exact ca e
 have J:∀b o,g.e.get? b=some o->∃t,h'.get? b=some t:=λb o e=>by
   by_cases z:dY Z b;·exact(B b z).2.2.2
   ·obtain⟨t,e'⟩:=r.fr.old b o e;exact(i b t e' z).there
 have y:∀{L C},h.Ns L C->¬dY Z L->h'.Ns L C:=λn E=>Up.ns n λo e=>i _ o e E;refine⟨⟨⟨y r.fr.ns nL,u,J,r.fr.above⟩,r.ff,λa q=>?_,λn c e=>?_,r.apart,rfl,λa o q=>?_,λx d e=>?_,λx k p e=>?_,r.one⟩,hs⟩;·obtain⟨q1,f,C,q3⟩:=r.frs a q;have E:¬dY Z a:=λz=>(B a z).2.2.1 q;exact⟨q1.imp id λz=>(bX.mp z).elim (λz=>bX.mpr (.inl z)) λz=>(E z).elim,f,C,y q3 E⟩
 ·obtain⟨q,b,V⟩:=r.cell n c e;exact⟨Up.cell q λo j=>i _ _ j (nc n c e),b,V⟩
 · rcases q with q|q;·obtain⟨e,f⟩:=r.held a o (.inl q);exact⟨e.trans λt e=>i _ _ e λz=>(B a z).2.1 ⟨o,q⟩,f⟩
   · obtain⟨e,f⟩:=l a o q;refine⟨.of e,?_⟩;rcases f with⟨t,f⟩|f;·exact(r.held a t (.inr f)).2
     · refine⟨λz=>?_,λn z=>?_⟩;·obtain⟨oL,es,ep,hL,U⟩:=r.fr.ns;rw[z,hL]at f;exact ca f.symm
       ·obtain⟨⟨o,j,U⟩,U⟩:=r.cell n a z;rw[j]at f;exact ca f.symm
 ·obtain⟨v,hv,dv⟩:=r.fro x d e;exact⟨v,hv,dv.mono hs⟩
 · obtain⟨q,N,O,Q,G,M,T⟩:=r.own x k p e;refine⟨q.mono hs λo j=>(i _ _ j λz=>G (bX.mpr (.inr z))).at M,N,O,Q,λz=>?_,M,T⟩;rcases bX.mp z with z|⟨o,z⟩;·exact G (bX.mpr (.inl z))
   · rcases(l _ o z).2 with z|z;·exact G (bX.mpr (.inr z))
     ·obtain⟨t,j⟩:=q.there;rw[j]at z;exact ca z.symm
end
noncomputable def nP(l:List Pos)(i:Nat):Pos:=(vh l i).getD ⟨0,0,0,0⟩
noncomputable def nd[Inhabited a](l:List a)(i:Nat):a:=(vh l i).getD default
def wr(P:Nat->Pos):Prop:=bz (kM 2 0)=[.Expr (.Call (.Attribute (.Name "Exception" (P 0)) "__init__" (P 1)) [.Name "self" (P 2),.Name "what" (P 3)] [] (P 4)) (P 5),.Assign [.Attribute (.Name "self" (P 6)) "what" (P 7)] (.Name "what" (P 8)) (P 9),.Assign [.Attribute (.Name "self" (P 10)) "at" (P 11)] (.Name "at" (P 12)) (P 13)]/\bV (.Name "Exception" (P 0)) (P 1) (P 4) [.Name "self" (P 2),.Name "what" (P 3)]=true
theorem vZ:∃P,wr P:=⟨nP [_,_,_,_,_,_,_,_,_,_,_,_,_,_],rfl,rfl⟩
noncomputable def b6P:Nat->Pos:=vZ.choose
theorem zO:wr b6P:=vZ.choose_spec
theorem LW:(cb (kM 2 0)).names.lookup ("Exception":PySem.Str)=some .globalImplicit:=by kernel_rfl
theorem GR:nsIn (cA w.params) mainGlobals "Exception"=some none:=by kernel_rfl
theorem IW:bootBuiltins "Exception"=some (.type "Exception"):=by kernel_rfl
section
variable{k:Nat}{A:Around}{g:Gr}{s:Shared}
theorem rO(h:cx H v (.atom u)):v=u:=by obtain rfl:=h.inv;rfl
theorem Jl(h:bM H vs [a,b]):∃u v,vs=[u,v]/\cx H u a/\cx H v b:=by exact uH h
theorem Ev.at(x:Ev A env g e σ (.atom u) σ')(R:RL env g Y σ s.heap H)(K:∀h' t H',RL env g Y σ' h' H'->Sb H H'->Q u (uS s h' t)):wpAny (model P0 w) A (eval e env) Q E s:=x Y s H Q E R λv h t H' r sub d=>by obtain rfl:=d.inv;exact K h t H' r sub
theorem Ii(C:Cx (k+1) A g fr)(S:kz g X s.heap)(he:s.heap.get? e=some (ip none (.ref aj) .none))(hb:g.b.get? e=none)(hX:¬X e)(d:D)(dv:cx (Fz s.heap X) v d)(hR:∀h' tk f t,(∀b o,b≠e->s.heap.get? b=some o->Up g.fs h' b o)->h'.get? e=some (ip (some f) (.ref t) .none)->(s.heap.get? f=none)->R (.ok (.ret .none)) (uS s h' tk)):codeAny (model P0 w) A (.call (.ref 36) ⟨[.ref e,v],[]⟩) R s:=by
 refine cI λG I=>?_;obtain⟨fd,al,hF,aC,aZ,aV,aX,hk⟩:=dh.ok;refine I ?_;have e1:dh.dds=[D.none]:=by kernel_rfl
 have hd1:=aX (λU U=>False);rw[e1]at hd1;have ev:al=[Value.none]:=by obtain⟨U,rfl,a⟩:=gA hd1;obtain rfl:=a.inv;rfl
 subst ev;let i:Yd:=λa o=>X a/\s.heap.get? a=some o;have S':kz g (λa=>X a\/a=e) s.heap:=⟨S.keep,λa q=>⟨.inl (S.frs a q).1,(S.frs a q).2⟩,λa q=>q.elim (S.there a) λq=>⟨_,q▸he⟩⟩;have a2:e∉g.fs:=λq=>hX (S.frs e q).1;refine fS (hid:=[]) (X:=λa=>X a\/a=e) (vs:=[.ref e,v,.none]) (σ0:=[("self",.v (.atom (.ref e))),("what",.v .any),("at",.v .none)]) (ad0:=λU=>0) hF aZ (λKH=>aV s KH [.ref e,v] rfl) (by rw[aC];exact hk) C S' (λa z=>by exact absurd z A3) (λx d' q=>?_) (λx k p q=>absurd q (cX (xs:=["self","what","at"]) (ds:=[.atom (.ref e),.any,.none]))) (λx y k k' p p' q=>absurd q (cX (xs:=["self","what","at"]) (ds:=[.atom (.ref e),.any,.none]))) λA' env L be H₁ B eg ef ao bi hH aa=>?_;·exact fB (xs:=["self","what","at"]) (ds:=[.atom (.ref e),.any,.none]) (.cons (.atom _) (.cons (.any _) (.cons .none .nil))) x d' q
 have eY:(λa o=>(X a\/a=e)/\s.heap.get? a=some o)=yU i (y1 e (ip none (.ref aj) .none)):=by
   funext a o;refine propext ⟨λ⟨q,z⟩=>q.elim (λq=>.inl ⟨q,z⟩) λq=>.inr ⟨q,?_⟩,λq=>q.elim (λq=>⟨.inl q.1,q.2⟩) λq=>⟨.inr q.1,?_⟩⟩;·rw[q,he]at z;exact(A0 z).symm
   ·rw[q.1,q.2];exact he
 rw[eY]at aa;obtain⟨bc,bb,rfl⟩:=ao;obtain⟨m,cm,ad,aG⟩:=aa;have hD:dh.body=bz (kM 2 0):=rfl;rw[hD,zO.1];refine cI λG I=>?_;obtain⟨bh,aU,ax,ay⟩:=eg;refine I ?_;have aB:e<s.heap.objs.size:=AG he;have j:e∉L.fs:=by
   rw[ax];intro q;rcases A6.mp q with q|q;·rw[q,ay]at aB;exact AU _ aB
   ·exact a2 q
 have nY:¬dY i e:=λ⟨o,q⟩=>hX q.1;have nb:L.b.get? e=none:=by rw[aU];exact hb
 have aA:interactive env=false:=by show(env.scope.kind==.module&&_)=false;rw[B.O.kind];rfl
 have ha:il A' env L [.Name "self" (b6P 2),.Name "what" (b6P 3)] [("self",.v (.atom (.ref e))),("what",.v .any),("at",.v .none)] [.atom (.ref e),.any] [("self",.v (.atom (.ref e))),("what",.v .any),("at",.v .none)]:=.cons rfl (bI B.O rfl rfl) (.cons rfl (bI B.O rfl rfl) .nil);have kd:env.kindOf "Exception"=some .globalImplicit:=by unfold Env.kindOf;rw[B.scope,aC];exact LW
 have fin:∀(Z:Yd)(h':Heap)(H':Addr->Obj->Prop)(m' av:PySem.Str->Option Value)(au:PySem.Str->Addr)(σ':Sig),bD env L (yU i Z) σ' m' av h' H' au->Sb H₁ H'->∀b o,b≠e->s.heap.get? b=some o->Up g.fs h' b o:=by
   intro Z h' H' m' av au σ' r sub b o aW q;by_cases hx:X b
   · obtain⟨T,e',z⟩:=(r.held b o (.inl ⟨hx,q⟩)).1;refine⟨T,e',z.imp id λz=>⟨?_,z.2⟩⟩;have:=z.1;rw[ax]at this;rcases A6.mp this with z|z;·rw[z,ay]at q;exact absurd (AG q) (AU _)
     ·exact z
   ·have:=sub b o (hH b o ⟨q,λz=>z.elim (λz=>z.elim hx aW) λz=>by exact absurd z A3⟩);rw[r.isH]at this;exact .of this.1
 refine wpAny_execs_cons (wpAny_Expr_any (fV ha zO.2 ?_) aA rfl);refine tH B.O B.C kd (GR) IW (by decide) rfl ⟨_,m,cm,ad⟩ _ _ _ _ aG λv0 h2 aK H2 r2 ac aS pl=>?_;obtain rfl:=rO aS;refine yo (s:=(uS s h2 aK)) (RL.kin (s:=(uS s h2 aK)) B.C r2) λa7=>?_;refine qD rfl (bZ ha) (ha.args _ (b6P 4) ⟨_,m,cm,ad⟩ (uS s h2 a7) _ _ _ r2 λvs h4 ar H4 r4 ae al=>?_);obtain⟨u2,v2,rfl,d1,d2⟩:=Jl al;obtain rfl:=rO d1;have r4:bD env L (yU i (y1 e (ip none (.ref aj) .none))) _ m cm h4 H4 ad:=r4;have aY:=(r4.held e _ (.inr ⟨rfl,rfl⟩)).1.at j;have aP:=RL.kin (s:=(uS s h4 ar)) (l:=⟨_,m,cm,ad⟩) B.C r4;refine wpAny_call (z6 (s:=(uS s h4 ar)) (rest:=[v2]) aP aY (by rw[sizeLine_eq];simp) λh5 t5 k5 e5=>?_);obtain⟨r5,af⟩:=bD.turnZ (Z':=y1 e (ip none (.ref t5) .none)) r4 (h':=h5) (λa o q z=>.of (k5 a o (λz'=>z (dI.mpr z')) q)) (jF ⟨nb,nY,j,_,e5⟩) (ve ⟨e5,.inl (dI.mpr rfl)⟩);refine wpAny_execs_cons ?_;refine plainObj_wpAny_Assign_Attribute (bI B.O rfl rfl ⟨_,m,cm,ad⟩ (uS s h5 ar) _ _ _ r5 λv6 h6 a8 H6 r6 ag bf=>?_) rfl;refine(bI B.O rfl rfl).at (Y:=⟨_,m,cm,ad⟩) (s:=(uS s h6 a8)) r6 λh7 aL H7 r7 ah=>?_;have r7:bD env L (yU i (y1 e (ip none (.ref t5) .none))) _ m cm h7 H7 ad:=r7;have Q:=(r7.held e _ (.inr ⟨rfl,rfl⟩)).1.at j;have aQ:=RL.kin (s:=(uS s h7 aL)) (l:=⟨_,m,cm,ad⟩) B.C r7;refine wo (s:=(uS s h7 aL)) (ns:=[]) (mA:=λU=>none) aQ (vj) ⟨_,Q,rfl,λc=>(by rintro⟨⟩),.inl ⟨rfl,λU=>rfl⟩⟩ (λh8 a9 I8 k8 o8=>?_) (λy z=>(z rfl).elim) (AW _);refine cI λG I=>?_;obtain⟨o1,e8,q1,V,q3,-,q4⟩:=o8 _ Q;obtain⟨f,ed,u⟩:=q4 rfl;refine I ?_;have eo:o1=ip (some f) (.ref t5) .none:=by obtain⟨c1,d1,aR,a6⟩:=o1;simp only at q1 V q3 ed;rw[q1,V,q3,ed]
 subst eo;have aD:f≠e:=λz=>by rw[z]at u;rw[show h7.get? e=_ from Q]at u;exact ca u.symm
 obtain⟨a4,ab⟩:∃od,h8.get? f=some od:=by
   refine cI λG I=>?_;obtain⟨T,E,U,U,z⟩:=I8;refine I ?_;rw[e8]at E;obtain rfl:=A0 E;rcases z with⟨z,U⟩|⟨d,z,U,n⟩;·exact ca z.symm
   ·obtain rfl:=A0 z;refine cI λG I=>?_;obtain⟨U,U,U,z,U⟩:=n;refine I ?_;exact⟨_,z⟩
 let Z8:Yd:=λa o=>(a=e/\o=ip (some f) (.ref t5) .none)\/(a=f/\o=a4);have ak:∀a,dY Z8 a↔a=e\/a=f:=λa=>⟨λ⟨o,z⟩=>z.imp (·.1) (·.1),λz=>z.elim (λz=>⟨_,.inl ⟨z,rfl⟩⟩) λz=>⟨_,.inr ⟨z,rfl⟩⟩⟩;obtain⟨r8,aH⟩:=bD.turnZ (Z':=Z8) r7 (h':=h8) (λa o q z=>.of (k8 a o (λz'=>z (dI.mpr z')) (λaF aT q' V=>by rw[show h7.get? e=_ from Q]at q';obtain rfl:=A0 q';exact ca V) q)) (jF ⟨nb,nY,j,_,e8⟩) (λa o z=>z.elim (λz=>z.1.symm▸z.2.symm▸⟨e8,.inl (dI.mpr rfl)⟩) λz=>z.1.symm▸z.2.symm▸⟨ab,.inr u⟩);have aE:f∉L.fs:=λq=>by obtain⟨U,U,mm,oL,es,ep,hL,U⟩:=r7.frs f q;rw[hL]at u;exact ca u.symm
 have aO:h8.Ns1 f (λy=>if y="what"then some v6 else none):=by
   refine cI λG I=>?_;obtain⟨T,E,U,U,z⟩:=I8;refine I ?_;rw[e8]at E;obtain rfl:=A0 E;rcases z with⟨z,U⟩|⟨d,z,U,n⟩;·exact ca z.symm
   ·obtain rfl:=A0 z;exact n
 refine wpAny_execs_cons ?_;refine plainObj_wpAny_Assign_Attribute (bI B.O rfl rfl ⟨_,m,cm,ad⟩ (uS s h8 a9) _ _ _ r8 λv9 h9 ba H9 r9 aI bg=>?_) rfl;refine(bI B.O rfl rfl).at (Y:=⟨_,m,cm,ad⟩) (s:=(uS s h9 ba)) r9 λN ai aM J ap=>?_;have J:bD env L (yU i Z8) _ m cm N aM ad:=J;have M:=(J.held e _ (.inr (.inl ⟨rfl,rfl⟩))).1.at j;have az:=(J.held f _ (.inr (.inr ⟨rfl,rfl⟩))).1.at aE;have as:=RL.kin (s:=(uS s N ai)) (l:=⟨_,m,cm,ad⟩) B.C J;refine wo (s:=(uS s N ai)) (ns:=["what"]) (mA:=λy=>if y="what"then some v6 else none) as (BS) ⟨_,M,rfl,λc=>(by rintro⟨⟩),.inr ⟨f,rfl,aD,aO.at λo q=>by rw[ab]at q;obtain rfl:=A0 q;exact az⟩⟩ (λO aJ aN a0 a3=>?_) (λy z=>?_) (by rw[sizeLine_eq];simp)
 · obtain⟨o2,am,q1,V,q3,q5,-⟩:=a3 _ M;have aw:=q5 f rfl;have eo:o2=ip (some f) (.ref t5) .none:=by obtain⟨c1,d1,aR,a6⟩:=o2;simp only at q1 V q3 aw;rw[q1,V,q3,aw]
   subst eo;obtain⟨bd,an⟩:∃od,O.get? f=some od:=by
     refine cI λG I=>?_;obtain⟨T,E,U,U,z⟩:=aN;refine I ?_;rw[am]at E;obtain rfl:=A0 E;rcases z with⟨z,U⟩|⟨d,z,U,n⟩;·exact ca z.symm
     ·obtain rfl:=A0 z;refine cI λG I=>?_;obtain⟨U,U,U,z,U⟩:=n;refine I ?_;exact⟨_,z⟩
   have a1:∀a,dY Z8 a->L.b.get? a=none/\¬dY i a/\a∉L.fs/\∃o,O.get? a=some o:=λa z=>by
     refine((ak a).mp z).elim (λz=>z.symm▸⟨nb,nY,j,_,am⟩) λz=>z.symm▸⟨?_,λ⟨o,q⟩=>?_,aE,_,an⟩;·cases q:L.b.get? f with|none=>rfl|some T=>exact nomatch u.symm.trans (r7.fr.keep f T q)
     ·obtain⟨T,q',U⟩:=(r7.held f o (.inl q)).1;exact nomatch u.symm.trans q'
   obtain⟨a5,aq⟩:=bD.turnZ (Z':=y0) J (h':=O) (λa o q z=>.of (a0 a o (λz'=>z ((ak a).mpr (.inl z'))) (λaF aT q' V=>by rw[show N.get? e=_ from M]at q';obtain rfl:=A0 q';obtain rfl:=A0 V;exactλz'=>z ((ak a).mpr (.inr z'))) q)) a1 (λa o z=>z.elim);refine wpAny_execs_nil ?_;have kk:=fin _ _ _ _ _ _ _ a5 λa o q=>aq a o (ap a o (aI a o (aH a o (ah a o (ag a o (af a o (ae a o (ac a o q))))))));refine hR O aJ f t5 kk am ?_;cases q:s.heap.get? f with|none=>rfl|some T=>have:=fin _ _ _ _ _ _ _ r7 (λa o q=>ah a o (ag a o (af a o (ae a o (ac a o q))))) f T aD q;obtain⟨o2,this,U⟩:=this;rw[show h7.get? f=none from u]at this;exact ca this
 · by_cases h:y="what";·rw[h];exact AF.mpr rfl
   ·exact(z (if_neg h)).elim
end
theorem ki{h c:Heap}:∀(l:List Env)(fs:List Addr),l.map (·.frame)=fs.map some->(∀e∈l,e.scope.kind=.function)->(∀a∈fs,c.get? a=none/\∃m,h.Ns a m)->h.FunFrames c l:=by intro z;induction z with|nil=>intro _ _ _ _;exact trivial|cons env l r=>intro fs d i f;cases fs with|nil=>exact nomatch d|cons a fs=>simp only[AS,List.cons.injEq]at d;obtain⟨s,m,o,es,ep,p,j,U⟩:=f a A4;exact⟨by rw[i env A4];decide,⟨a,o,d.1,s,p,λvs q=>by rw[j]at q;exact nomatch q⟩,r fs d.2 (λe n=>i e (A5 _ n)) λb hb=>f b (A5 _ hb)⟩
def MT(h:Heap)(e:Addr):Prop:=∃d t,h.get? e=some (ip d (.ref t) .none)
def IA(b h:Heap)(e:Addr):Prop:=∃a0,h.TracedW b e (.ref 83) a0
def Ju(b h:Heap)(L e:Addr):Prop:=∃a0,h.TracedAtW b e (.ref 83) a0 (rawInt L)
theorem IA.base(x:IA b h e)(k:∀T,b.get? T=none->b'.get? T=none):IA b' h e:=by obtain⟨a0,l,vs,T,o,t,a,c,d,f,i,j⟩:=x;exact⟨a0,l,vs,T,o,t,a,c,d,f,k _ i,j⟩
theorem Ju.base(x:Ju b h L e)(k:∀T,b.get? T=none->b'.get? T=none):Ju b' h L e:=by obtain⟨a0,l,vs,T,o,t,a,c,d,f,i,j⟩:=x;exact⟨a0,l,vs,T,o,t,a,c,d,f,k _ i,j⟩
abbrev zB(env:Env)(g:Gr)(l:Lay)(s:Shared)(H:Addr->Obj->Prop)(P:Heap->Heap->Addr->Prop)(E:Value->Shared->Prop):Prop:=∀x h h' t a b,RL env g l a h b->Sb H b->Kp g.fs h h'->h.get? x=none->P h h' x->E (.ref x) (uS s h' t)
abbrev Au(env:Env)(g:Gr)(Y:Yd)(s:Shared)(H:Addr->Obj->Prop)(P:Heap->Heap->Addr->Prop)(E:Value->Shared->Prop):Prop:=∀x h h' t a b,gP env g Y a h b->Sb H b->Kp g.fs h h'->h.get? x=none->P h h' x->E (.ref x) (uS s h' t)
abbrev sv(g:Gr)(h h':Heap)(x:Addr):Prop:=IA (hideAll h g.fs) h' x
abbrev LN(g:Gr)(L:Addr)(h h':Heap)(x:Addr):Prop:=Ju (hideAll h g.fs) h' L x
abbrev pRaw(_ h':Heap)(x:Addr):Prop:=MT h' x
def Fd(A:Around)(env:Env)(g:Gr)(e:Expr)(σ:Sig):Prop:=∀(l:Lay)(s:Shared)(H:Addr->Obj->Prop)(Q:Value->Shared->Prop)(E:Value->Shared->Prop),RL env g l σ s.heap H->zB env g l s H (sv g) E->wpAny (model P0 w) A (eval e env) Q E s
def o9(A:Around)(env:Env)(g:Gr)(st:Stmt)(σ:Sig)(P:Heap->Heap->Addr->Prop):Prop:=∀(Y:Yd)(s:Shared)(H:Addr->Obj->Prop)(Q:Flow->Shared->Prop)(E:Value->Shared->Prop),gP env g Y σ s.heap H->Au env g Y s H P E->wpAny (model P0 w) A (exec st env) Q E s
def qA(A:Around)(env:Env)(g:Gr)(a:List Stmt)(σ:Sig)(P:Heap->Heap->Addr->Prop):Prop:=∀(Y:Yd)(s:Shared)(H:Addr->Obj->Prop)(Q:Flow->Shared->Prop)(E:Value->Shared->Prop),gP env g Y σ s.heap H->Au env g Y s H P E->wpAny (model P0 w) A (execs a env) Q E s
def cS(k:Nat)(f:Addr)(ds:List D):Prop:=∀(A:Around)(g:Gr)(fr:Option Addr)(s:Shared)(X:Addr->Prop)(args:List Value)(R:Result->Shared->Prop),Cx k A g fr->kz g X s.heap->bM (Fz s.heap X) args ds->(∀x h' t,Kp g.fs s.heap h'->s.heap.get? x=none->IA (hideAll s.heap g.fs) h' x->R (.error (.ref x)) (uS s h' t))->codeAny (model P0 w) A (.call (.ref f) ⟨args,[]⟩) R s
section
variable{A:Around}{env:Env}{g:Gr}{σ σ' σ₁ σ₂:Sig}{k:Nat}{P:Heap->Heap->Addr->Prop}
theorem bU{st:Stmt}{r:List Stmt}(h:o9 A env g st σ P):qA A env g (st::r) σ P:=λY s H U E R K=>wpAny_execs_cons (h Y s H _ E R K)
theorem eR{st:Stmt}{r:List Stmt}(l:kx A env g st σ .next σ₁)(h:qA A env g r σ₁ P):qA A env g (st::r) σ P:=by
 intro Y s H Q E R K;refine wpAny_execs_cons (l Y s H _ E R λf h' v H' e sub n=>?_);cases f<;>first|exact n.elim|skip
 exact h Y _ H' Q E e λx h m t c d i b u j p=>K x h m t c d i (λa o q=>b a o (sub a o q)) u j p
theorem ib(v:Tr A env g t σ b σ₁)(h:qA A env g (if b then l else n) σ₁ P):o9 A env g (.If t l n p) σ P:=by rintro Y s H Q E⟨m,r,ad,R⟩K;refine wpAny_If (v ⟨Y,m,r,ad⟩ s H _ E R λh' C H' i sub=>?_);have z:=h Y (uS s h' C) H' Q E ⟨_,_,_,i⟩ λx h y d e f j c B u p=>K x h y d e f j (λa o q=>c a o (sub a o q)) B u p;cases b<;>exact z
theorem eK(h:Fd A env g e σ):o9 A env g (.Return (some e) p) σ (sv g):=λY s H Q E⟨m,f,ad,R⟩K=>wpAny_Return_some (h ⟨Y,m,f,ad⟩ s H _ E R λx j l t b c d a n i p=>K x j l t b c ⟨_,_,_,d⟩ a n i p)
theorem sQ(h:Fd A env g e σ)(n:interactive env=false)(hs:swapsWith e none p.line env=pure false):o9 A env g (.Expr e p) σ (sv g):=λY s H Q E⟨m,f,ad,R⟩K=>wpAny_Expr_any (h ⟨Y,m,f,ad⟩ s H _ E R λx j l t b c d a o i p=>K x j l t b c ⟨_,_,_,d⟩ a o i p) n hs
theorem lx(h:Fd A env g e σ)(hs:swapsWithSole [.Tuple c k1 p1] e p.line env=pure false)(o:swappedStores [.Tuple c k1 p1] e env=pure none):o9 A env g (.Assign [.Tuple c k1 p1] e p) σ (sv g):=λY s H Q E⟨m,i,ad,R⟩K=>PyProof.Rows.Assign_Tuple (h ⟨Y,m,i,ad⟩ s H _ E R λx l n t b d f a q j p=>K x l n t b d ⟨_,_,_,f⟩ a q j p) hs o
theorem dw(X:Cx k A g env.frame)(C:Ev A env g (.Name f p) σ (.atom (.ref a)) σ₁)(I:keepIn (cA w.params) (.ref a)=true)(j:il A env g es σ₁ ds σ')(B:cS k a ds):Fd A env g (.Call (.Name f p) es [] pos) σ:=by intro l s H Q E R K;refine Call_Name rfl (C l s H _ E R λv h' N H' n sub r=>?_);obtain rfl:=r.inv;refine dK I (bZ j) (j.args _ pos l _ H' _ E n λvs h t M c b d=>⟨RL.kin (s:=(uS s h t)) X c,wpAny_call ?_⟩);refine cI λG z=>?_;obtain⟨m,e,S,O⟩:=RL.useK c;subst e;refine z ?_;exact B A g _ (uS s h t) m vs _ X S d λx y i J u L=>K x h y i _ _ c (λa o q=>b a o (sub a o q)) J u L
inductive mu(A:Around)(env:Env)(g:Gr):List Expr->Sig->Prop|here{e:Expr}{es:List Expr}{σ:Sig}:isStarred e=false->Fd A env g e σ->mu A env g (e::es) σ|there{e:Expr}{es:List Expr}{σ σ₁:Sig}{d:D}:isStarred e=false->Ev A env g e σ d σ₁->mu A env g es σ₁->mu A env g (e::es) σ
theorem mu.run(h:mu A env g es σ):∀(pos:Pos)(l:Lay)(s:Shared)(H:Addr->Obj->Prop)(Q:List Value->Shared->Prop)(E:Value->Shared->Prop),RL env g l σ s.heap H->zB env g l s H (sv g) E->wpAny (model P0 w) A (spliced (backTo pos (starEach es env))) Q E s:=by induction h with|here d c=>intro pos l s H Q E R K;rw[cv d];exact spliced_cons (c l s H _ E R K)|there d c _ u=>intro pos l s H Q E R K;rw[cv d];refine spliced_cons (c l s H _ E R λv h' B H' i sub z=>?_);exact u pos l _ H' _ E i λx n r t e f j b y m p=>K x n r t e f j (λa o q=>b a o (sub a o q)) y m p
theorem mu.args(h:mu A env g es σ)(f:Value)(pos:Pos)(l:Lay)(s:Shared)(H:Addr->Obj->Prop)(Q:Args->Shared->Prop)(E:Value->Shared->Prop)(R:RL env g l σ s.heap H)(K:zB env g l s H (sv g) E):wpAny (model P0 w) A (evalArgs f true (backTo pos (starEach es env)) []) Q E s:=by cases h with|@here d e _ a b=>have q:=(mu.here (es:=e) a b).run pos l s H (λvs c=>Q ⟨vs,[]⟩ c) E R K;rw[cv a]at q⊢;exact evalArgs_plain q|there a b r=>have q:=(mu.there a b r).run pos l s H (λvs c=>Q ⟨vs,[]⟩ c) E R K;rw[cv a]at q⊢;exact evalArgs_plain q
noncomputable def gM(es:List Expr):Bool:=es.all λe=>!isStarred e
theorem oQ(h:gM es=true):(backTo pos (starEach es env)).any (·.1)=false:=by induction es with|nil=>rfl|cons e es i=>unfold gM at h;rw[List.all_cons,A8,Bool.not_eq_true']at h;rw[cv h.1];show(false||_)=false;rw[Bool.false_or];exact i h.2
theorem gb(h:mu A env g es σ):Fd A env g (.Tuple es n p) σ:=λl s H U E R K=>Tuple_ (h.run p l s H _ E R K)
theorem j0(u:Ev A env g (.Name f p) σ (.atom (.ref a)) σ₁)(y:keepIn (cA w.params) (.ref a)=true)(z:gM es=true)(r:mu A env g es σ₁):Fd A env g (.Call (.Name f p) es [] pos) σ:=by intro l s H Q E R K;refine Call_Name rfl (u l s H _ E R λv h' C H' e sub i=>?_);obtain rfl:=i.inv;exact dK y (oQ z) (r.args _ pos l _ H' _ E e λx m n t c d h b B j p=>K x m n t c d h (λa o q=>b a o (sub a o q)) B j p)
theorem qi(r:gM es=true)(hp:bV o a pos es=true)(h:wpAny (model P0 w) A (eval o env) (λov b=>∀pl,wpAny (model P0 w) A (getMethod ov name pl) (λf c=>wpAny (model P0 w) A (callWith pos f.1 f.2 (backTo pos (starEach es env)) []) Q E c) E b) E s):wpAny (model P0 w) A (eval (.Call (.Attribute o name a) es [] pos) env) Q E s:=by
 unfold bV at hp;simp only[A8]at hp;obtain⟨⟨p,q⟩,m⟩:=hp;have m:es.length<29:=Nat.le_of_ble_eq_true m;show wpAny (model P0 w) A (attributeBase o name env (eval o env)>>=λov=>standAt a.atName>>=λU=>methodCall o name a pos env ov (es.length+0) (backTo pos (starEach es env)) (backToKw pos [])) Q E s;rw[d8 p];refine A9 (wpAny_mono h (λov b i=>A9 (wpAny_standAt ?_)) λU U x=>x);have d:(backTo pos (starEach es env)).all (!·.1)=true:=by have:=oQ (env:=env) (pos:=pos) r;rw[List.all_eq_not_any_not];simpa using this
 have l:methodCallForm (es.length+0) (backTo pos (starEach es env)) (backToKw pos [])=true:=by unfold methodCallForm;rw[d];show(true&&true&&decide (es.length+0+0<30))=true;simp only[Bool.true_and,decide_eq_true_eq];exact wk m rfl
 unfold methodCall;rw[l];show wpAny (model P0 w) A (holding [ov] (getMethod ov name (do return(<-importBound o env).getD true))>>=λf=>methodCallPos true o env a pos>>=λn=>callWith n f.1 f.2 _ _) Q E b;refine A9 (wpAny_holding (wpAny_mono (i _) (λf c j=>?_) λU U x=>x));have e:methodCallPos true o env a pos=pure pos:=by unfold methodCallPos;rw[q];rfl
 rw[e];exact A9 (AC j)
theorem mQ(O:cj env)(M:(x==("__debug__":PySem.Str))=false)(u:bq σ x=some (.o (.list B) U))(r:gM es=true)(L:mu A env g es σ)(N:bV (.Name x V) c pos es=true):Fd A env g (.Call (.Attribute (.Name x V) "append" c) es [] pos) σ:=by intro l s H Q E R K;refine qi r N (dT O u M l s H _ E R λv h' t H' j sub C pl=>?_);have f:cu env l.m l.cm x=some v:=C;obtain⟨a,vs,n,rfl,m,dl⟩:=RL.ownL (s:=(uS s h' t)) j u f;refine getMethod_builtin (s:=(uS s h' t)) (⟨_,m,rfl⟩:Shared.TypeIs _ (.ref a) "list") PySem.F.plainAttrs_list slot_list_append type_list_append (λb e=>by obtain rfl:=PySem.Value.ref.inj e;exact⟨_,m,rfl⟩) ?_;exact Calls.callWith_builtin (oQ r) (L.args _ pos l (uS s h' t) H' _ E j λx I J h i y z d T G p=>K x I J h i y z (λa o q=>d a o (sub a o q)) T G p)
end
theorem G2:keepIn (cA w.params) (.ref 83)=true:=by kernel_rfl
section
variable{A:Around}{env:Env}{g:Gr}{σ σ' σ₁ σ₂:Sig}{k:Nat}{P:Heap->Heap->Addr->Prop}
theorem pN(X:Cx (k+2) A g env.frame)(hf:Ev A env g (.Name f p) σ (.atom (.ref 83)) σ₁)(ha:il A env g [J] σ₁ [d] σ'):o9 A env g (.Raise (some (.Call (.Name f p) [J] [] pos)) none ab) σ pRaw:=by
 rintro Y s H Q E⟨m,cm,ad,R⟩K;rw[arm_exec_Raise];rw[arm_evalOpt_some,show evalOpt none env=none from rfl];dsimp only[Option.map];refine A9 (wpAny_standAt ?_);unfold raiseStmt;refine A9 (A9 ?_);refine Call_Name rfl (hf ⟨Y,m,cm,ad⟩ s H _ E R λv h' tk H' R' sub dv=>?_);obtain rfl:=dv.inv;refine dK (G2) (bZ ha) (ha.args _ pos ⟨Y,m,cm,ad⟩ _ H' _ E R' λvs i t H2 x n N=>⟨RL.kin (s:=(uS s i t)) X x,?_⟩);obtain⟨C,U,rfl,d1,M⟩:=N.inv;obtain rfl:=M.inv;obtain⟨Ex,e,S,up⟩:=RL.useK x;subst e;have KH:=RL.kin (s:=(uS s i t)) X x;show wpAny _ _ (call (.ref 83) [C]) _ _ _;refine Bw (h:=i) KH (by rw[sizeLine_eq];simp) λh3 e ac u y he=>?_;have I:Cx (k+1) (A.under (.builtin "type.__call__" ⟨.ref 83::[C],[]⟩)) g env.frame:=by
  refine cI λG O=>?_;obtain⟨L,c,l,dp,un⟩:=X;refine O ?_;refine⟨L,c,l,?_,?_⟩;·have:(A.under (.builtin "type.__call__" ⟨.ref 83::[C],[]⟩)).depth=A.depth+1:=rfl;rw[this];exact bu dp (by decide)
  ·have:(A.under (.builtin "type.__call__" ⟨.ref 83::[C],[]⟩)).units=A.units+1:=rfl;rw[this];exact bu un (by decide)
 have S3:kz g Ex h3:=⟨λb o q=>u b o (S.keep b o q),λa q=>by refine cI λG O=>?_;obtain⟨q1,q2,mm,oL,es,ep,hL,hq⟩:=S.frs a q;refine O ?_;exact⟨q1,q2,mm,oL,es,ep,u _ _ hL,hq⟩,λa q=>by obtain⟨o,z⟩:=S.there a q;exact⟨o,u _ _ z⟩⟩;have aa:¬Ex e:=λq=>by obtain⟨o,z⟩:=S.there e q;rw[y]at z;exact ca z
 have V:g.b.get? e=none:=by cases q:g.b.get? e with|none=>rfl|some o=>have:=S.keep e o q;rw[y]at this;exact ca this
 refine Ii (s:=⟨h3,s.gens,s.drawn,t,s.os⟩) I S3 he V aa d (d1.mono λa o q=>⟨u a o q.1,q.2⟩) λB r dx t4 k4 e4 ae=>⟨rfl,?_⟩;have kp:Kp g.fs i B:=λb o q=>k4 b o (λz=>by rw[z,y]at q;exact ca q) (u b o q);have j:=kU (RL.kin (s:=⟨B,s.gens,s.drawn,r,s.os⟩) X (up B kp).1);have T:(Value.ref 83::f4).contains (.type "BaseException")=true:=by rw[List.contains_cons,d4.2.1,Bool.or_true]
 refine A9 (wpAny_standAt (AC ?_));repeat(first|with_reducible refine wpAny_loadPart_at e4 ?_|with_reducible refine wpAny_loadPart_at j ?_|(with_reducible refine wpAny_isSubtype_exc j ?_;rw[T])|wp_step)
 exact wpAny_raiseNew_none X.hand (K e i B r σ' _ ⟨_,_,_,x⟩ (λa o q=>n a o (sub a o q)) kp y ⟨some dx,t4,e4⟩)
end
abbrev Lv(g:Gr)(L:Addr)(h h':Heap)(x:Addr):Prop:=MT h' x\/IA (hideAll h g.fs) h' x\/Ju (hideAll h g.fs) h' L x
section
variable{A:Around}{env:Env}{g:Gr}{σ σ' σ₁ σ₂:Sig}{k:Nat}{P P':Heap->Heap->Addr->Prop}
theorem o9.mono{st:Stmt}(h:o9 A env g st σ P)(j:∀b h' x,P b h' x->P' b h' x):o9 A env g st σ P':=λY s H Q E R K=>h Y s H Q E R λx b i t c d e a l f p=>K x b i t c d e a l f (j _ _ _ p)
theorem cw(j:DC)(hn:ds.length=j.n)(h:∀(A:Around)(env:Env)(g:Gr),Rn k j.sc A env g->env.frame=some env.locals->qA A env g j.body (j.xs.zip ((ds++j.dds).map Slot.v)) (Lv g env.locals)):cS (k+1) j.f ds:=by
 intro A g fr s X args R C S i K;obtain⟨fd,V,hF,ab,aj,ag,ah,hk⟩:=j.ok;refine fS (hid:=[]) (X:=X) (vs:=args++V) (σ0:=j.xs.zip ((ds++j.dds).map Slot.v)) (ad0:=λU=>0) hF aj (λKH=>ag s KH args (i.length.trans hn)) (by rw[ab];exact hk) C S (λa z=>by exact absurd z A3) (λx d' e=>?_) (λx k p e=>absurd e cX) (λx y k k' p p' e=>absurd e cX) λA' env N am H₁ B eg ef L U hH O=>?_;·have Q:bM (Fz s.heap (λa=>X a\/a∈([]:List Addr))) (args++V) (ds++j.dds):=(i.mono λa o q=>⟨q.1,λz=>q.2 (z.elim id λz=>by exact absurd z A3)⟩).append (ah _);exact fB Q x d' e
 obtain⟨al,ak,rfl⟩:=L;obtain⟨an,ao,E,Y⟩:=eg;have B':Rn k j.sc A' env N:=ab▸B;refine h _ _ _ B' ef _ _ _ _ _ O λx h2 h' tk as H2 H sub kp fx st=>?_;obtain⟨m,cm,ad,H⟩:=H;obtain⟨v,I⟩:=B.top;have M:∀b o,s.heap.get? b=some o->b∉g.fs->b∉N.fs:=λb o e hb q=>by
   rw[E]at q;rcases A6.mp q with z|z;·rw[z,Y]at e;exact absurd (AG e) (AU _)
   ·exact hb z
 have G:∀b o,s.heap.get? b=some o->b∉g.fs->h2.get? b=some o:=λb o e hb=>by
   by_cases hx:X b;·exact(H.held b o ⟨hx,e⟩).1.at (M b o e hb)
   ·have:=sub b o (hH b o ⟨e,λz=>z.elim hx λz=>by exact absurd z A3⟩);rw[H.isH]at this;exact this.1
 have f:∀b o,(hideAll s.heap g.fs).get? b=some o->s.heap.get? b=some o/\b∉g.fs:=λb o e=>⟨of_hideAll _ e,λq=>by rw[hideAll_none _ q]at e;exact ca e⟩;have d:(hideAll s.heap g.fs).StaysIn h':=λb o e=>by obtain⟨e,hb⟩:=f b o e;exact(kp b o (G b o e hb)).at (M b o e hb)
 have u:∀T,(hideAll h2 N.fs).get? T=none->(hideAll s.heap g.fs).get? T=none:=λT e=>by cases q:(hideAll s.heap g.fs).get? T with|none=>rfl|some o=>obtain⟨q,hb⟩:=f T o q;rw[hideAll_get _ (G T o q hb) (M T o q hb)]at e;exact ca e.symm
 have J:(hideAll s.heap g.fs).get? x=none:=by cases q:(hideAll s.heap g.fs).get? x with|none=>rfl|some o=>obtain⟨q,hb⟩:=f x o q;rw[G x o q hb]at fx;exact ca fx.symm
 have ac:∀a∈N.fs,∃mm,h'.Ns a mm:=λa q=>by obtain⟨U,U,mm,n⟩:=H.frs a q;exact⟨mm,Up.ns n λo e=>kp a o e⟩
 have FF:h'.FunFrames (hideAll s.heap g.fs) (env::v):=by
   obtain⟨ap,l,aa,ai⟩:=B.C.below;rw[I]at l;injection l with l;refine ki _ N.fs (l▸aa) (l▸ai) λa q=>⟨?_,ac a q⟩;rw[E]at q;rcases A6.mp q with z|z;·cases q2:(hideAll s.heap g.fs).get? a with|none=>rfl|some o=>have:=(f a o q2).1;rw[z,Y]at this;exact absurd (AG this) (AU _)
   ·exact hideAll_none _ z
 have fin:∀c:Heap,(hideAll s.heap g.fs).StaysIn c->(∃a0,c.TracedW (hideAll s.heap g.fs) x (.ref 83) a0)->h'.UpToSlots c->R (.error (.ref x)) (uS s c tk):=λc k1 k2 k3=>by
   refine K x c tk (λb o e=>?_) ?_ k2
   · by_cases hb:b∈g.fs
     · obtain⟨ae,U⟩:=S.frs b hb;have af:b∈N.fs:=by rw[E];exact A5 _ hb
       obtain⟨o2,e2,z2⟩:=(H.held b o ⟨ae,e⟩).1;obtain⟨o3,e3,z3⟩:=kp b o2 e2;obtain⟨mm,n⟩:=ac b af;obtain⟨o4,es,ep,e4,hd,U⟩:=n;rw[e3]at e4;obtain rfl:=A0 e4;obtain⟨sl,e5⟩:=k3 b o3 e3 λvs q=>by rw[hd]at q;exact nomatch q
       refine⟨_,e5,.inr ⟨hb,sl,?_⟩⟩;rcases z2 with rfl|⟨U,aq,rfl⟩<;>rcases z3 with rfl|⟨_,ar,rfl⟩<;>rfl
     ·exact .of (k1 b o (hideAll_get _ e hb))
   ·cases q:s.heap.get? x with|none=>rfl|some o=>
       by_cases hb:x∈g.fs;·obtain⟨U,U,mm,n⟩:=H.frs x (by rw[E];exact A5 _ hb);obtain⟨oo,U,U,ho,U⟩:=n;rw[fx]at ho;exact ca ho
       ·rw[G x o q hb]at fx;exact ca fx.symm
 rcases st with⟨dx,t,he⟩|st|st;·refine wpAny_leaving_firstW (s:=(uS s h' tk)) (a0:=.ref t) I FF ef he d J rfl rfl rfl λc hL=>?_;obtain⟨k1,U,k3,k4⟩:=hL;exact fin c k1 ⟨_,k3⟩ k4
 ·obtain⟨a0,tr⟩:=st.base u;exact wpAny_leaves_onW (s:=(uS s h' tk)) I ef ⟨d,J,FF,tr⟩ λc r us=>fin c r.1 ⟨_,r.2.2.2⟩ us
 ·obtain⟨a0,tr⟩:=st.base u;have hh:Heap.HeldW (hideAll s.heap g.fs) (env::v) x (.ref 83) a0 env.locals h':=⟨d,J,FF,tr⟩;unfold leaving;refine A9 (wpAny_noteFrame_againW (s:=(uS s h' tk)) ef hh.2.2.2 ?_);exact wpAny_landsW hh λc r us=>fin c r.1 ⟨_,r.2.2.2⟩ us
theorem zU(J:env.frame=some L)(M:Heap.HeldW j l e t a0 L s.heap)(I:∀h',Heap.HeldW j l e t a0 L h'->s.heap.UpToSlots h'->E (.ref e) {s with heap:=h'}):cameBackBy (model P0 w) A env E (.ref e) s:=by
 obtain⟨B,C,G,O,vs,T,Q,z,y,p,x,u,r,m,v,h,H⟩:=M;have c:3<z.size:=(Array.getElem?_eq_some_iff.mp H).1;have a:∀b,b≠T->(s.heap.update T (Obj.mapFields (·.setIfInBounds 3 ((some L:Option Addr).elim Value.none λf=>rawInt f)))).get? b=s.heap.get? b:=λb hb=>Heap.get?_update_other _ _ (Ne.symm hb);have n:∀b o,s.heap.get? b=some o->(∀vs,o.data≠.fields vs)->b≠T:=λb o hb i q=>by rw[q,v]at hb;injection hb with hb;subst hb;exact i z h
 unfold cameBackBy;refine A9 (wpAny_field y x u ?_);rw[if_neg (show¬((Value.ref T==Value.none)=true)from by simp)];rw[J];unfold setFlight;refine A9 (wpAny_field y x u ?_);rw[if_pos (show(Value.ref T !=Value.none)=true from by rfl)];refine wpAny_setField v h c (I _ ⟨λb o d=>(a b λq=>by rw[q,r]at d;exact ca d).trans (B b o d),C,G.of_keeps λb o hb i=>⟨o,(a b (n b o hb i)).trans hb,rfl⟩,?_⟩ λb o hb N=>⟨o.slots,(a b (n b o hb N)).trans hb⟩);exact⟨O,vs,T,_,_,(a e (Ne.symm m)).trans y,p,x,u,r,m,Heap.get?_update_self _ v (Obj.isFreed_of_fields (Obj.data_mapFields h _)),Obj.data_mapFields h _,by simp[c]⟩
end
section
variable{A:Around}{env:Env}{g:Gr}{σ σ' σ₁ σ₂:Sig}{k:Nat}{P P':Heap->Heap->Addr->Prop}{sc:Scope}
theorem j5(n:Kp fs h f)(ns:∀a∈fs,∃m,f.Ns a m)(st:(hideAll h fs).StaysIn i)(u:f.UpToSlots i):Kp fs h i:=λb o e=>by
 by_cases hb:b∈fs
 · obtain⟨p,c,z⟩:=n b o e;obtain⟨m,t,es,ep,d,l,U⟩:=ns b hb;rw[c]at d;obtain rfl:=A0 d;obtain⟨s,j⟩:=u b p c λvs q=>by rw[l]at q;exact nomatch q
   refine⟨_,j,.inr ⟨hb,s,?_⟩⟩;rcases z with rfl|⟨U,r,rfl⟩<;>rfl
 ·exact .of (st b o (hideAll_get _ e hb))
theorem rQ(c:Kp fs h a):(hideAll h fs).StaysIn a:=λb o e=>by
 have hb:b∉fs:=λq=>by rw[hideAll_none _ q]at e;exact ca e
 exact(c b o (of_hideAll _ e)).at hb
theorem Rn.funF(B:Rn k sc A env g){c h:Heap}(i:A.frames=some (env::o))(hb:∀a∈g.fs,c.get? a=none)(ns:∀a∈g.fs,∃m,h.Ns a m):h.FunFrames c (env::o):=by obtain⟨f,b,d,e⟩:=B.C.below;rw[i]at b;injection b with b;exact ki _ g.fs (b▸d) (b▸e) λa q=>⟨hb a q,ns a q⟩
theorem pV(e:h.get? x=none):(hideAll h fs).get? x=none:=by cases q:(hideAll h fs).get? x with|none=>rfl|some o=>rw[of_hideAll _ q]at e;exact ca e.symm
theorem wz(B:Rn k sc A env g)(ef:env.frame=some env.locals)(hn:iG i=true)(hi:Er A env g target i σ (d::ds) σ₁)(ha:tV A env g target d σ₁ σ₂)(hb:qA A env g f σ₂ (sv g)):o9 A env g (.For target i f [] p) σ (LN g env.locals):=by
 rintro Y s H Q E⟨m,cm,ad,R⟩K;obtain⟨b,hA⟩:=B.top;refine wpAny_For (hi ⟨Y,m,cm,ad⟩ s H _ E R λit h2 z H2 Z F hF h S U Z1 R2=>?_) (gd hn env);refine codeAny_forLoop_any (λn s'=>s'=(uS s h2 z)) ?_ 0 rfl;rintro n s' rfl;refine S env ⟨Y,m,cm,ad⟩ (uS s h2 z) H2 _ _ _ R2 Z1 h λv af go=>?_;refine go _ _ λh' tk H' Z' S' J R3 r dv=>?_;refine ha (yU Y Z') (uS s h' tk) H' v _ _ ⟨_,_,_,R3⟩ dv λh4 aa H4 R4 u=>?_;refine hb (yU Y Z') (uS s h4 aa) H4 _ _ R4 λx h5 M t ae H5 R5 y T fx L=>?_;refine cI λG N=>?_;obtain⟨C,I,c⟩:=gP.unY R5 J;obtain⟨m5,ah,ag,r5⟩:=I;refine N ?_;have l:∀a∈g.fs,∃V,M.Ns a V:=λa q=>by refine cI λG N=>?_;obtain⟨U,U,V,n⟩:=r5.frs a q;refine N ?_;exact⟨V,Up.ns n λo e=>T a o e⟩
 obtain⟨a0,tr⟩:=L;have FF:M.FunFrames (hideAll h5 g.fs) (env::b):=B.funF hA (λa q=>hideAll_none _ q) l;refine wpAny_looks_onW (s:=(uS s M t)) hA ef ⟨rQ T,pV fx,FF,tr⟩ λh7 O ab=>?_;refine zU (s:=(uS s h7 t)) ef O λh8 j ac=>?_;exact K x h5 h8 t ae C ⟨_,_,_,r5⟩ (λa o q=>c a o (y a o (u a o (r a o (h a o (hF a o q)))))) (j5 T l j.1 (ab.trans ac)) fx ⟨a0,j.2.2.2⟩
theorem gP.forget(R:gP env g Y σ h H):∃H',gP env g Y [] h H'/\Sb H H':=by
 refine cI λG b=>?_;obtain⟨m,c,ad,r⟩:=R;refine b ?_;refine⟨Fz h (c5 env [] ad (dY Y)),⟨m,c,ad,⟨r.fr,r.ff,r.frs,r.cell,r.apart,rfl,r.held,λx d e=>?_,λx k p e=>?_,λx y k k' p p' e=>?_⟩⟩,?_⟩;·exact ca e
 ·exact ca e
 ·exact ca e
 · rw[r.isH];rintro a o⟨e,n⟩;refine⟨e,λq=>n ?_⟩;rcases q with q|q|⟨x,k,p,q,U⟩|q;·exact .inl q
   ·exact .inr (.inl q)
   ·exact ca q
   ·exact .inr (.inr (.inr q))
theorem Cy{Y:Yd}{m c:PySem.Str->Option Value}{ad:PySem.Str->Addr}{s:Shared}{H:Addr->Obj->Prop}{Q:Value->Shared->Prop}{E:Value->Shared->Prop}(O:cj env)(G:Gd g.b)(f:env.kindOf x=some .globalImplicit)(d:nsIn (cA w.params) mainGlobals x=some (some v))(b:(x==("__debug__":PySem.Str))=false)(r:bD env g Y σ m c s.heap H ad)(h:Q v s):wpAny (model P0 w) i (eval (.Name x p) env) Q E s:=by obtain⟨a,U,U,U,l,j,T⟩:=G;have e:=mg_of a T.g d;exact Name_function_global O.kind f (loadGlobal_global (by rw[O.glob];exact T.g.keeps r.fr.keep) e h) b
theorem Bk(e:fl≠.next)(h:dW A env g b σ fl σ'):kx A env g (.Try b (c::hs) [] [] p) σ fl σ':=by intro Y s H Q E R K;refine wpAny_Try_except (h Y s H _ _ R λf h' t H' d sub a=>?_);cases f with
 |next=>cases fl<;>first|exact a.elim|exact absurd rfl e
 |_=>exact K _ h' t H' d sub a
theorem EA(B:Rn k sc A env g)(ef:env.frame=some env.locals)(h:qA A env g m σ (sv g))(hx:sc.names.lookup x=some .globalImplicit)(hk:nsIn (cA w.params) mainGlobals x=some (some (.ref 83)))(hd:(x==("__debug__":PySem.Str))=false):kx A env g (.Try m [.ExceptHandler (some (.Name x np)) none [.Return (some (.Constant .none cn cp)) rp] pos] [] [] p) σ (.ret .none) []:=by
 intro Y s H Q E R K;obtain⟨f,hA⟩:=B.top;have aa:env.kindOf x=some .globalImplicit:=by unfold Env.kindOf;rw[B.scope];exact hx
 refine wpAny_Try_except (h Y s H _ _ R λe h2 h3 t aj H2 R2 z j fx N=>?_);refine cI λG r=>?_;obtain⟨ai,J,i⟩:=R2.forget;obtain⟨m2,M,L,r2⟩:=J;obtain⟨a0,tr⟩:=N;refine r ?_;have b:∀{I:Heap},Kp g.fs h2 I->∀a∈g.fs,∃mm,I.Ns a mm:=λj a q=>by refine cI λG r=>?_;obtain⟨U,U,mm,n⟩:=r2.frs a q;refine r ?_;exact⟨mm,Up.ns n λo e=>j a o e⟩
 have FF:h3.FunFrames (hideAll h2 g.fs) (env::f):=B.funF hA (λa q=>hideAll_none _ q) (b j);refine wpAny_looks_onW (s:=(uS s h3 t)) hA ef ⟨rQ j,pV fx,FF,tr⟩ λh4 u ae=>?_;have y:=j5 j (b j) u.1 ae;refine wpAny_landsW (s:=(uS s h4 t)) u λO c af=>?_;have d:=j5 y (b y) c.1 af;refine cI λG r=>?_;obtain⟨r5,ah⟩:=r2.growK d;have T:=kU (RL.kin (s:=(uS s O t)) (l:=⟨Y,m2,M,L⟩) B.C r5);obtain⟨ob,ab,v⟩:=c.there;refine r ?_;refine wpAny_handleBy_cons (codeAny_handlers_test (Cy (s:=(uS s O t)) B.O B.C.good aa hk hd r5 ?_)) (by intro q;exact nomatch q);refine wpAny_excMatches_sub_self T ab v d4.2.1 (codeAny_handlers_suite ?_);refine lands_againW (s:=(uS s O t)) c λI V ag=>?_;have ac:=j5 d (b d) V.1 ag;obtain⟨r6,C⟩:=r2.growK ac;refine wpAny_execs_cons (wpAny_Return_some (wpAny_Constant_none ?_));exact K (.ret .none) I t _ ⟨_,_,_,r6⟩ (λa o q=>C a o (i a o (z a o q))) .none
end
section
variable{A:Around}{env:Env}{g:Gr}{σ σ' σ₁ σ₂:Sig}{k:Nat}{l:Lay}{H:Addr->Obj->Prop}{s:Shared}
theorem qG(J:tP A env g f σ m σ₁)(j:tP A env g h σ₁ n σ')(M:eZ σ' m=some a)(hb:eZ σ' n=some b)(N:et A (subscriptTail f h) a b d)(hs:d.scalar=true\/(m.isVal&&n.isVal)=true):Ev A env g (.Subscript f h p) σ d σ':=by intro l s H Q E R K;refine PyProof.Rows.Subscript_ (J l s H _ E R λu h' U H' y sub G=>?_);refine j l _ H' _ E y λv j O T z c I=>?_;exact RL.op (t:=t2 (subscriptTail f h)) z (.cons (G.mono c) (.cons I .nil)) (.cons M (.cons hb .nil)) N.n (hs.imp id λq=>by simpa using q) λr L i x B e C=>K r L i x B (λa o q=>e a o (c a o (sub a o q))) C
def xW(A:Around)(env:Env)(g:Gr)(e:Option Expr)(σ:Sig)(d:D)(σ':Sig):Prop:=∀(l:Lay)(s:Shared)(H:Addr->Obj->Prop)(Q:Value->Shared->Prop)(E:Value->Shared->Prop),RL env g l σ s.heap H->ut env g l σ' s H d Q->wpAny (model P0 w) A (evalPart e env) Q E s
theorem wB:xW A env g none σ .none σ:=λl s H Q E R K=>AC (K .none s.heap s.toks H R (λU U=>id) .none)
theorem wD(h:Ev A env g e σ d σ'):xW A env g (some e) σ d σ':=h
theorem y5{lo n st:Option Expr}{p:Pos}{a b c:D}(N:xW A env g lo σ a σ₁)(m:xW A env g n σ₁ b σ₂)(h:xW A env g st σ₂ c σ'):Ev A env g (.Slice lo n st p) σ (.recd "slice" [a,b,c]) σ':=by intro l s H Q E R K;refine wpAny_Slice (N l s H _ E R λu h' Y H' y sub J=>?_);refine m l _ H' _ E y λv m T r B f L=>?_;refine h l _ r _ E B λx h t V C e M=>?_;refine RL.pushed (s:=(uS s h t)) (o:={cls:=.type "slice",data:=.fields #[u,v,x]}) C rfl (λj d q=>.recd q (.cons ((J.mono f).mono λa o z=>d a o (e a o z)) (.cons (L.mono λa o z=>d a o (e a o z)) (.cons (M.mono d) .nil)))) λU O i j G d I=>K U O i j G (λa o q=>d a o (e a o (f a o (sub a o q)))) I
theorem mK{value slice:Expr}{x:Array UInt8}{a b:D}{lo h:Int}(j:gF a=some (some lo))(hb:gF b=some (some h))(o:(KBy.picked x (some lo) (some h)).size<=16777216)(n:KBy.whole x (some lo) (some h)=true->KBy.picked x (some lo) (some h)=x):et A (subscriptTail value slice) (.bytes x) (.recd "slice" [a,b,.none]) (.bytes (KBy.picked x (some lo) (some h))):=by intro s r u v Q E p c i K;(first|obtain rfl:=c.inv|obtain⟨_,rfl⟩:=c.inv);obtain⟨y,z,B,q,rfl,m,f,d2,d⟩:=kH i;(first|obtain rfl:=d.inv|obtain⟨_,rfl⟩:=d.inv);refine gG (typeIs_bytes _ _ _) FB.slot_bytes_getitem.lookup ?_;exact te x _ y (gv j f) (gv hb d2) ⟨_,m.1,rfl,rfl⟩ o n λt k=>K _ _ _ (λU U e=>e) (.bytes _ _)
theorem uY{x:PySem.Str}{j p:Pos}{k:js}(O:cj env)(i:(x==("__debug__":PySem.Str))=false)(h:bq σ x=some (.o k none)):kx A env g (.Return (some (.Name x j)) p) σ (.reto k) σ:=by rintro Y s H Q E⟨m,c,ad,R⟩K;refine wpAny_Return_some (dT O h i ⟨Y,m,c,ad⟩ s H _ E R λv h' t H' a sub e=>?_);have d:cu env m c x=some v:=e;obtain⟨b,f,U⟩:=bD.own a x k _ h;rw[d]at b;refine K (.ret v) h' t H' ⟨_,_,_,a⟩ sub ⟨ad x,b,f,λo q=>?_⟩;rw[bD.isH a]at q;exact q.2 (.inr (.inr (.inl ⟨x,k,_,h,rfl⟩)))
end
noncomputable def s7(ds:List (List Int×D))(a:List Int):Option D:=(ds.find? λp=>decide (p.1=a)).map (·.2)
section
variable{A:Around}{env:Env}{g:Gr}{σ σ' σ₁ σ₂:Sig}{k:Nat}{l:Lay}{H:Addr->Obj->Prop}{s:Shared}
theorem fO:∀{u:List Value},IntsAre u a->ItemsAre (intKind P0 w) a u:=by intro u h;induction h with|nil=>exact .nil|cons n t _ i=>exact .cons jC i
theorem kW.entries(f:∀a o,H a o->h.get? a=some o)(i:kW H es ds):∃xs:List (List Int×Addr×Value),es=xs.map (entryOfKey (tupleKind (intKind P0 w)))/\(∀x∈xs,(tupleKind (intKind P0 w)).is h x.1 x.2.1)/\xs.map (·.1)=ds.map (·.1)/\∀c,(s7 ds c=none/\(atKey xs c).map (·.2)=none)\/∃d v,s7 ds c=some d/\(atKey xs c).map (·.2)=some v/\cx H v d:=by induction ds generalizing es with|nil=>obtain rfl:=i.inv;exact⟨[],rfl,λx b=>absurd b A3,rfl,λc=>.inl ⟨rfl,rfl⟩⟩|cons p j C=>
   obtain⟨a,E,n,v,r,rfl,B,u,m,l⟩:=i.inv;obtain⟨xs,rfl,y,z,t⟩:=C l;refine⟨(p.1,a,v)::xs,rfl,λx b=>?_,by rw[AS,AS,z],λe=>?_⟩
   · rcases A6.mp b with rfl|b;·exact⟨_,_,n,f _ _ B,rfl,rfl,by rw[List.toList_toArray];exact fO u⟩
     ·exact y x b
   ·unfold s7 atKey;rw[List.find?_cons,List.find?_cons];dsimp only;cases q:decide (p.1=e)with|true=>exact .inr ⟨p.2,v,rfl,rfl,m⟩|false=>exact t e
theorem En(O:A.units+8<cLine)(C:D.ints r=some j):Bc A (.builtin "dict.get") [.dictT ds,.tuple r,f] ((s7 ds j).getD f):=by
 intro s N T Q E lo c K;obtain⟨U,U,rfl,u,c⟩:=c.inv;obtain⟨U,U,rfl,d2,c⟩:=c.inv;obtain⟨U,U,rfl,x,c⟩:=c.inv;(first|obtain rfl:=c.inv|obtain⟨_,rfl⟩:=c.inv);obtain⟨a,vs,n,rfl,L,dl⟩:=d2.inv;obtain⟨b,es,M,rfl,z,B,t⟩:=u.inv;obtain⟨xs,e,I,J,G⟩:=kW.entries (h:=s.heap) (λa o q=>q.1) B;have X:s.heap.DictOfH (tupleKind (intKind P0 w)) b xs:=⟨_,es.toArray,M,z.1,⟨rfl,rfl,rfl⟩,rfl,by rw[List.toList_toArray,e],I,by rw[J];exact t.1⟩;have i:(tupleKind (intKind P0 w)).is s.heap j a:=⟨_,_,n,L.1,rfl,rfl,by rw[List.toList_toArray];exact fO (g3 dl C)⟩;refine call_meetsIn PySem.F.slot_dict_get X.typeIs PySem.F.entry_dict_get (PySem.F.args_dict_get_3 _ _ _) (meetsH_dict_get_default (tupleKind (intKind P0 w)) b a t.2 _) ⟨?_,j,xs,i,X,?_⟩;·show A.units+1<cLine;omega
 · refine K _ s.heap _ (λU U=>id) ?_;rcases G j with⟨m,p⟩|⟨d,v,m,p,y⟩;·rw[m,p];exact x
   ·rw[m,p];exact y
noncomputable def vA(C:Addr)(name:PySem.Str):Option Addr:=if(readsIn (cA w.params) C (.type "type")&&(specialIn (cA w.params) (.ref C) "__getattribute__"==some (some (.builtin "type.__getattribute__"))))=true then(rf? (findIn (cA w.params) (.ref C) name)).bind λf=>if(isFn (cA w.params) (.ref f)&&keepIn (cA w.params) (.ref f))=true then some f else none else none
noncomputable def qR(C f:Addr)(name:PySem.Str):Bool:=match findCls (cA w.params) (.ref C) (.type "type") name with|some (.val v)=>v==.ref f|_=>false
theorem x0(h:qR C f name=true):findCls (cA w.params) (.ref C) (.type "type") name=some (.val (.ref f)):=by unfold qR at h;cases q:findCls (cA w.params) (.ref C) (.type "type") name with|none=>rw[q]at h;exact Bool.noConfusion h|some x=>rw[q]at h;cases x<;>first|exact Bool.noConfusion h|exact congrArg (λv=>some (CFound.val v)) (Ac.mp h)
theorem D8(X:Cx k A g env.frame)(O:cj env)(hf:Ev A env g (.Name c p) σ (.atom (.ref C)) σ₁)(h:vA C name=some f)(hv:qR C f name=true)(hh:handedIn (.ref f)=true)(hp:bV (.Name c p) b pos (.Name x N::es)=true)(hx:tP A env g (.Name x N) σ₁ (.own x) σ₂)(M:il A env g es σ₂ ds σ')(hn:gM es=true)(ho:bq σ' x=some (.o o pp))(hc:cq k f o ds d o'):Ev A env g (.Call (.Attribute (.Name c p) name b) (.Name x N::es) [] pos) σ d (bO σ' x (.o o' pp)):=by intro l s H Q E R K;refine cI λG hG=>?_;obtain⟨r,h⟩:=lR h;obtain⟨f',U,h⟩:=ew h;obtain⟨e,h⟩:=lR h;obtain rfl:=A0 h;refine hG ?_;simp only[A8,Ac]at r e;refine qi (by unfold gM at hn⊢;rw[List.all_cons,hn];rfl) hp (hf l s H _ E R λv h' y H' J sub dv pl=>?_);obtain rfl:=dv.inv;have I:=RL.kin (s:=(uS s h' y)) X J;refine method_cls (s:=(uS s h' y)) I r.2 (cls_value I r.1 (x0 hv) hh ?_);refine dK e.2 (by show(false||_)=false;rw[Bool.false_or];exact bZ M) (evalArgs_plain (spliced_cons (hx l (uS s h' (y+1)) H' _ E J λu h2 z T Y i du=>?_)));refine M.run pos l (uS s h2 z) T _ E Y λvs e t H3 L j n=>⟨RL.kin (s:=(uS s e t)) X L,wpAny_call ?_⟩;exact RL.callO (s:=(uS s e t)) X L ho du n hc λv h4 B V R4 m dr=>K v h4 B V R4 (λa o q=>m a o (j a o (i a o (sub a o q)))) dr
end
inductive Orc where|b(v:Bool)|d(d:D)|o(d:D)(o:js)|w(f:Fl)(σ:Sig)|l(ds:List D)(σ:Sig)|t(v:Bool)|td(d:D)|e(d:D)
inductive Claim where|le(n m:Nat)|b(b:Bool)|p(P:Prop)
def Claim.holds:Claim->Prop|.le n m=>n<=m|.b v=>v=true|.p P=>P
def bx:List Claim->Prop|[]=>True|c::r=>c.holds/\bx r
theorem bx.app:bx (a++b)↔bx a/\bx b:=by induction a with|nil=>simp[bx]|cons p r i=>simp only[List.cons_append,bx,i,and_assoc]
noncomputable def Claim.ok:Claim->Bool|.le n m=>Nat.ble n m|.b v=>v|.p _=>false
theorem D3:∀{cl:List Claim},cl.all Claim.ok=true->bx cl:=by intro z;induction z with|nil=>intro _;exact trivial|cons c r i=>intro h;rw[List.all_cons,A8]at h;refine⟨?_,i h.2⟩;cases c with|le n m=>exact Nat.le_of_ble_eq_true h.1|b b=>exact h.1|p P=>exact Bool.noConfusion h.1
theorem sV:∀{ps:List Prop},bx (ps.map Claim.p)->Eo ps|[],_=>trivial|_::_,h=>⟨h.1,sV h.2⟩
structure Rs(α:Type)(P:α->Sig->Prop)where
 a:α
 σ:Sig
 o:List Orc
 c:List Claim
 h:bx c->P a σ
def CM(α:Type)(P:α->Sig->Prop):Type:=List Orc->Option (Rs α P)
section
variable{α β:Type}{P:α->Sig->Prop}{Q:β->Sig->Prop}
noncomputable def CM.ret(a:α)(σ:Sig)(h:P a σ):CM α P:=λo=>some ⟨a,σ,o,[],λU=>h⟩
noncomputable def CM.fail:CM α P:=λU=>none
noncomputable def CM.bind(x:CM α P)(f:(a:α)->(σ:Sig)->CM β (λb σ'=>P a σ->Q b σ')):CM β Q:=λo=>match x o with|none=>none|some r=>match f r.a r.σ r.o with|none=>none|some t=>some ⟨t.a,t.σ,t.o,r.c++t.c,λh=>t.h (bx.app.mp h).2 (r.h (bx.app.mp h).1)⟩
noncomputable def CM.guard(b:Bool)(f:b=true->CM β Q):CM β Q:=match b,f with|true,f=>f rfl|false,_=>CM.fail
noncomputable def CM.opt(x:Option α)(f:(a:α)->x=some a->CM β Q):CM β Q:=match x,f with|some a,f=>f a rfl|none,_=>CM.fail
noncomputable def CM.need(p:Prop)(f:CM β (λb σ=>p->Q b σ)):CM β Q:=λo=>match f o with|none=>none|some r=>some ⟨r.a,r.σ,r.o,.p p::r.c,λh=>r.h h.2 h.1⟩
noncomputable def CM.le(n m:Nat)(f:CM β (λb σ=>n<=m->Q b σ)):CM β Q:=λo=>match f o with|none=>none|some r=>some ⟨r.a,r.σ,r.o,.le n m::r.c,λh=>r.h h.2 h.1⟩
noncomputable def CM.needs(ps:List Claim)(f:CM β (λb σ=>bx ps->Q b σ)):CM β Q:=λo=>match f o with|none=>none|some r=>some ⟨r.a,r.σ,r.o,ps++r.c,λh=>r.h (bx.app.mp h).2 (bx.app.mp h).1⟩
noncomputable def CM.askB(f:Bool->CM β Q):CM β Q:=λo=>match o with|.b v::r=>f v r|_=>none
noncomputable def CM.askD(f:D->CM β Q):CM β Q:=λo=>match o with|.d v::r=>f v r|_=>none
noncomputable def CM.askO(f:D->js->CM β Q):CM β Q:=λo=>match o with|.o d k::r=>f d k r|_=>none
noncomputable def CM.orW(f:Fl->Sig->CM β Q)(g:CM β Q):CM β Q:=λo=>match o with|.w fl τ::r=>f fl τ r|o=>g o
noncomputable def CM.orL(f:List D->Sig->CM β Q)(g:CM β Q):CM β Q:=λo=>match o with|.l ds τ::r=>f ds τ r|o=>g o
noncomputable def CM.orT(f:Bool->CM β Q)(g:CM β Q):CM β Q:=λo=>match o with|.t v::r=>f v r|o=>g o
noncomputable def CM.orTD(f:D->CM β Q)(g:CM β Q):CM β Q:=λo=>match o with|.td d::r=>f d r|o=>g o
noncomputable def CM.orE(f:D->CM β Q)(g:CM β Q):CM β Q:=λo=>match o with|.e d::r=>f d r|o=>g o
noncomputable def CM.orO(f:D->js->CM β Q)(g:CM β Q):CM β Q:=λo=>match o with|.o d k::r=>f d k r|o=>g o
noncomputable def CM.bool(ask:Bool)(c:Bool)(f:(v:Bool)->CM β (λb σ=>c=v->Q b σ)):CM β Q:=match ask with
 |false=>λo=>match f c o with|none=>none|some r=>some ⟨r.a,r.σ,r.o,r.c,λh=>r.h h rfl⟩
 |true=>CM.askB λv=>CM.need (c=v) (f v)
end
structure Ct where
 k:Nat
 sc:Scope
 pn:List PySem.Str
 ask:List Addr
structure Fm(c:Ct)where
 A:Around
 env:Env
 g:Gr
 π:PySem.Str->Option (Addr×Value)O:cj env
 C:Cx c.k A g env.frame
 scope:env.scope=c.sc
 cells:∀x,c.sc.names.lookup x=some .cell->(env.cells.lookup x).isSome=true
 pk:∀x,c.pn.contains x=false->π x=none
noncomputable def pin(π:PySem.Str->Option (Addr×Value))(σ:Sig):Sig:=σ.map λp=>(p.1,match p.2 with|.v d=>.v d|.o k _=>.o k (π p.1))
section
variable{π:PySem.Str->Option (Addr×Value)}
theorem dX(σ:Sig)(x:PySem.Str):bq (pin π σ) x=(bq σ x).map λs=>match s with|.v d=>.v d|.o k _=>.o k (π x):=by induction σ with|nil=>rfl|cons p r ih=>obtain⟨y,s⟩:=p;unfold bq pin at ih⊢;rw[AS,AK,AK];cases q:x==y with|true=>have:=Ac.mp q;subst this;rfl|false=>exact ih
theorem Mr(h:bq σ x=some (.v d)):bq (pin π σ) x=some (.v d):=by rw[dX,h];rfl
theorem gy(h:bq σ x=some (.o k p)):bq (pin π σ) x=some (.o k (π x)):=by rw[dX,h];rfl
theorem qM(σ:Sig)(x:PySem.Str)(s:Slot):pin π (bO σ x s)=bO (pin π σ) x (match s with|.v d=>.v d|.o k _=>.o k (π x)):=by induction σ with|nil=>rfl|cons p r i=>obtain⟨y,t⟩:=p;unfold bO;cases q:x==y with|true=>have:=Ac.mp q;subst this;show pin π ((x,s)::r)=bO ((x,_)::pin π r) x _;unfold bO;rw[Af];rfl|false=>
 show pin π ((y,t)::bO r x s)=bO ((y,_)::pin π r) x _;conv=>rhs;unfold bO
 rw[q];show(y,_)::pin π (bO r x s)=(y,_)::bO (pin π r) x _;rw[i]
theorem i3(σ:Sig)(x:PySem.Str)(d:D):pin π (bO σ x (.v d))=bO (pin π σ) x (.v d):=qM σ x (.v d)
theorem dA(σ:Sig)(x:PySem.Str)(k:js)(p:Option (Addr×Value)):pin π (bO σ x (.o k p))=bO (pin π σ) x (.o k (π x)):=qM σ x (.o k p)
theorem ii:∀{σ:Sig}{is:List Slot},(∀x∈xs,π x=none)->(∀s∈is,∀k p,s=.o k p->p=none)->pin π (fJ σ xs is)=fJ (pin π σ) xs is:=by induction xs with|nil=>intro σ is _ _;cases is<;>rfl|cons x xs i=>intro σ is h a;cases is with|nil=>rfl|cons s is=>unfold fJ;rw[i (λy e=>h y (A5 _ e)) (λt b=>a t (A5 _ b)),qM];congr 1;cases s with|v d=>rfl|o k p=>rw[a _ A4 k p rfl,h x A4]
theorem nq(xs:List PySem.Str)(ds:List D):pin π (xs.zip (ds.map Slot.v))=xs.zip (ds.map Slot.v):=by induction xs generalizing ds with|nil=>rfl|cons x xs i=>cases ds with|nil=>rfl|cons d ds=>show(x,Slot.v d)::pin π (xs.zip (ds.map Slot.v))=_;rw[i];rfl
theorem Ay(σ:Sig)(r:rK):eZ (pin π σ) r=eZ σ r:=by cases r with|val d=>rfl|own x=>unfold eZ;dsimp only;rw[dX];cases bq σ x with|none=>rfl|some s=>cases s<;>rfl
end
section
variable(c:Ct)
abbrev pe(e:Expr)(σ:Sig)(d:D)(σ':Sig):Prop:=∀a:Fm c,Ev a.A a.env a.g e (pin a.π σ) d (pin a.π σ')
abbrev pr(e:Expr)(σ:Sig)(r:rK)(σ':Sig):Prop:=∀a:Fm c,tP a.A a.env a.g e (pin a.π σ) r (pin a.π σ')
abbrev po(e:Expr)(σ:Sig)(k:js)(σ':Sig):Prop:=∀a:Fm c,x5 a.A a.env a.g e (pin a.π σ) k (pin a.π σ')
abbrev pl(es:List Expr)(σ:Sig)(ds:List D)(σ':Sig):Prop:=∀a:Fm c,il a.A a.env a.g es (pin a.π σ) ds (pin a.π σ')
abbrev pI(es:List Expr)(σ:Sig)(is:List Slot)(σ':Sig):Prop:=∀a:Fm c,qY a.A a.env a.g es (pin a.π σ) is (pin a.π σ')
abbrev pt(e:Expr)(σ:Sig)(b:Bool)(σ':Sig):Prop:=∀a:Fm c,Tr a.A a.env a.g e (pin a.π σ) b (pin a.π σ')
abbrev pb(p:Pos)(o:BoolOp)(es:List Expr)(σ:Sig)(d:D)(σ':Sig):Prop:=∀a:Fm c,J1 a.A a.env a.g p o es (pin a.π σ) d (pin a.π σ')
abbrev MX(o:BoolOp)(es:List Expr)(σ:Sig)(b:Bool)(σ':Sig):Prop:=∀a:Fm c,sx a.A a.env a.g o es (pin a.π σ) b (pin a.π σ')
abbrev ps(st:Stmt)(σ:Sig)(f:Fl)(σ':Sig):Prop:=∀a:Fm c,kx a.A a.env a.g st (pin a.π σ) f (pin a.π σ')
abbrev Ic(s:List Stmt)(σ:Sig)(f:Fl)(σ':Sig):Prop:=∀a:Fm c,dW a.A a.env a.g s (pin a.π σ) f (pin a.π σ')
abbrev MJ(target e:Expr)(σ:Sig)(ds:List D)(σ':Sig):Prop:=∀a:Fm c,Er a.A a.env a.g target e (pin a.π σ) ds (pin a.π σ')
abbrev x8(target:Expr)(b:List Stmt)(ds:List D)(σ:Sig)(f:Fl)(σ':Sig):Prop:=∀a:Fm c,d6 a.A a.env a.g target b ds (pin a.π σ) f (pin a.π σ')
abbrev um(t:Expr)(b:List Stmt)(σ:Sig)(f:Fl)(σ':Sig):Prop:=∀a:Fm c,∃n,c0 a.A a.env a.g t b n (pin a.π σ) f (pin a.π σ')
abbrev uT(x:PySem.Str)(i:List Expr)(e:Expr)(ds:List D)(σ:Sig)(es:List D)(σ':Sig):Prop:=∀a:Fm c,eA a.A a.env a.g x i e ds (pin a.π σ) es (pin a.π σ')
inductive DO where|d(d:D)|o(k:js)
def p2(e:Expr)(σ:Sig)(r:DO)(σ':Sig):Prop:=match r with|.d d=>pe c e σ d σ'|.o k=>po c e σ k σ'
end
structure Eng where e:(c:Ct)->(e:Expr)->(σ:Sig)->CM DO (p2 c e σ)l:(c:Ct)->(es:List Expr)->(σ:Sig)->CM (List D) (pl c es σ)i:(c:Ct)->(es:List Expr)->(σ:Sig)->CM (List Slot) (pI c es σ)t:(c:Ct)->(e:Expr)->(σ:Sig)->CM Bool (pt c e σ)b:(c:Ct)->(p:Pos)->(op:BoolOp)->(es:List Expr)->(σ:Sig)->CM D (pb c p op es σ)ts:(c:Ct)->(op:BoolOp)->(es:List Expr)->(σ:Sig)->CM Bool (MX c op es σ)s:(c:Ct)->(st:Stmt)->(σ:Sig)->CM Fl (ps c st σ)ss:(c:Ct)->(sts:List Stmt)->(σ:Sig)->CM Fl (Ic c sts σ)fo:(c:Ct)->(target:Expr)->(body:List Stmt)->(ds:List D)->(σ:Sig)->CM Fl (x8 c target body ds σ)wh:(c:Ct)->(test:Expr)->(body:List Stmt)->(σ:Sig)->CM Fl (um c test body σ)cp:(c:Ct)->(x:PySem.Str)->(ifs:List Expr)->(elt:Expr)->(ds:List D)->(σ:Sig)->CM (List D) (uT c x ifs elt ds σ)
noncomputable def Eng.none:Eng:=⟨λU U U=>.fail,λU U U=>.fail,λU U U=>.fail,λU U U=>.fail,λU U U U U=>.fail,λU U U U=>.fail,λU U U=>.fail,λU U U=>.fail,λU U U U U=>.fail,λU U U U=>.fail,λU U U U U U=>.fail⟩
section
variable{c:Ct}
theorem Fm.hand(a:Fm c):a.A.handled=Option.none:=a.C.hand
theorem Fm.units(a:Fm c):a.A.units+8<cLine:=by have:=a.C.units;show a.A.units+8<9900;exact wk (Ae (A1 (A7 _ _) this) 9) rfl
theorem Fm.inter(a:Fm c):interactive a.env=false:=by show(a.env.scope.kind==.module&&_)=false;rw[a.O.kind];rfl
theorem Fm.kind(a:Fm c)(x:PySem.Str):a.env.kindOf x=c.sc.names.lookup x:=by unfold Env.kindOf;rw[a.scope]
noncomputable def qg(sc:Scope)(x:PySem.Str):Bool:=match sc.names.lookup x with|some .local=>true|some .cell=>true|_=>false
theorem Fm.stor(a:Fm c)(h:qg c.sc x=true):k6 a.env x:=by unfold qg at h;cases e:c.sc.names.lookup x with|none=>rw[e]at h;exact Bool.noConfusion h|some k=>rw[e]at h;cases k<;>first|exact Bool.noConfusion h|exact .inl ((a.kind x).trans e)|exact .inr ⟨(a.kind x).trans e,a.cells x e⟩
noncomputable def eE(x:PySem.Str):Bool:=!(x==("__debug__":PySem.Str))
theorem bY(h:eE x=true):(x==("__debug__":PySem.Str))=false:=by simpa[eE]using h
noncomputable def Eng.d(I:Eng)(c:Ct)(e:Expr)(σ:Sig):CM D (pe c e σ):=CM.bind (I.e c e σ) λr σ'=>match r with|.d d=>CM.ret d σ' id|.o k=>CM.ret (D.ofOwn k) σ' λh a=>HI (h a)
end
noncomputable def D.plain:D->Bool|.none|.bool _|.int _|.str _=>true|_=>false
noncomputable def vi(ds:List D):Bool:=ds.all D.plain
noncomputable def HQ(a b:D)(f:Bool->Bool):Option (Bool×Bool):=a.seqK.bind λp=>b.seqK.bind λq=>if p.1=q.1 then(pq (l7 5) p.2 q.2).map λc=>(f c,!(p.2.isEmpty||q.2.isEmpty||(vi p.2&&vi q.2)))else none
theorem we(h:HQ a b f=some (c,k)):∃kk xs ys x,a.seqK=some (kk,xs)/\b.seqK=some (kk,ys)/\pq (l7 5) xs ys=some x/\f x=c:=by refine cI λG i=>?_;obtain⟨⟨k1,xs⟩,d,h⟩:=ew h;obtain⟨⟨k2,ys⟩,g,h⟩:=ew h;obtain⟨e,h⟩:=lR h;obtain⟨x,j,h⟩:=wn h;refine i ?_;exact⟨k1,xs,ys,x,d,g.trans (congrArg (λk=>some (k,ys)) e.symm),j,congrArg Prod.fst h⟩
noncomputable def MO(a b:D):Option (Bool×Bool):=l0 (a.str?.bind λx=>b.str?.bind λy=>(CC .Eq x y).map (·,false))<|l0 (a.bool?.bind λx=>b.bool?.map λy=>(x==y,false))<|l0 (a.bytes?.bind λx=>b.bytes?.map λy=>(x.toList==y.toList,true))<|l0 (a.dict?.bind λx=>b.dict?.bind λy=>(B4 5 y x).map λc=>(x.length==y.length&&c,true)) (HQ a b λc=>c)
noncomputable def MR(a b:D):Option (Bool×Bool):=l0 (a.str?.bind λx=>b.str?.bind λy=>(CC .NotEq x y).map (·,false))<|l0 (a.bool?.bind λx=>b.bool?.map λy=>(x !=y,false))<|l0 (a.dict?.bind λx=>b.dict?.bind λy=>(B4 5 y x).map λc=>(!(x.length==y.length&&c),true))<|l0 (HQ a b λc=>!c) ((LM a b).map (·,false))
noncomputable def Mq(a b:D):Option (Bool×Bool):=l0 (b.str?.bind λx=>a.str?.map λy=>(M3 x y,false))<|l0 (b.dict?.bind λds=>a.isI.map λp=>((dc ds p.1).isSome,true))<|b.items.bind λds=>(B7 a ds).map (·,!(a.plain&&vi ds))
noncomputable def Kc(o:CmpOp)(a b:D):Option (Bool×Bool):=match o with|.Is=>if b.isNone=true then a.noneness.map (·,false)else none|.IsNot=>if b.isNone=true then a.noneness.map λc=>(!c,false)else none|.In=>Mq a b|.NotIn=>if b.str?.isSome=false then(Mq a b).map λp=>(!p.1,p.2)else none|.Eq=>MO a b|.NotEq=>MR a b|_=>none
noncomputable def yT(o:CmpOp)(a b:D):Option (Bool×Bool):=l0 (a.isI.bind λp=>b.isI.bind λq=>(Kt o p.1 q.1).map (·,p.2||q.2)) (Kc o a b)
section
variable{A:Around}
theorem FY(g:A.units+8<cLine)(h:MO a b=some (c,k)):et A (compareOp .Eq) a b (.bool c):=by
 rcases cU h with h|h;·obtain⟨x,d,h⟩:=ew h;obtain⟨y,e,h⟩:=ew h;obtain⟨z,f,rfl,rfl⟩:=jl h;rw[D.str?_eq d,D.str?_eq e];exact rH f
 rcases cU h with h|h;·obtain⟨x,d,h⟩:=ew h;obtain⟨y,e,rfl,rfl⟩:=jl h;rw[D.bool?_eq d,D.bool?_eq e];exact wg rfl
 rcases cU h with h|h;·obtain⟨x,d,h⟩:=ew h;obtain⟨y,e,rfl,rfl⟩:=jl h;rw[D.bytes?_eq d,D.bytes?_eq e];exact FX
 rcases cU h with h|h;·obtain⟨x,d,h⟩:=ew h;obtain⟨y,e,h⟩:=ew h;obtain⟨z,f,rfl,rfl⟩:=jl h;rw[D.dict?_eq d,D.dict?_eq e];exact(ln g f).2
 ·obtain⟨U,U,U,U,i,j,d,rfl⟩:=we h;exact Ao g i j d
theorem Ho(g:A.units+8<cLine)(h:MR a b=some (c,k)):et A (compareOp .NotEq) a b (.bool c):=by
 rcases cU h with h|h;·obtain⟨x,d,h⟩:=ew h;obtain⟨y,e,h⟩:=ew h;obtain⟨z,f,rfl,rfl⟩:=jl h;rw[D.str?_eq d,D.str?_eq e];exact rH f
 rcases cU h with h|h;·obtain⟨x,d,h⟩:=ew h;obtain⟨y,e,rfl,rfl⟩:=jl h;rw[D.bool?_eq d,D.bool?_eq e];exact wg rfl
 rcases cU h with h|h;·obtain⟨x,d,h⟩:=ew h;obtain⟨y,e,h⟩:=ew h;obtain⟨z,f,rfl,rfl⟩:=jl h;rw[D.dict?_eq d,D.dict?_eq e];exact(ln g f).1
 rcases cU h with h|h;·obtain⟨U,U,U,U,i,j,d,rfl⟩:=we h;exact oG g i j d
 ·obtain⟨z,f,rfl,rfl⟩:=jl h;exact Hv f
theorem yM(h:Mq a b=some (c,k)):et A (compareOp .In) a b (.bool c)/\(b.str?.isSome=false->et A (compareOp .NotIn) a b (.bool (!c))):=by
 rcases cU h with h|h;·obtain⟨x,e,h⟩:=ew h;obtain⟨y,d,rfl,rfl⟩:=jl h;rw[D.str?_eq e,D.str?_eq d];exact⟨HK,λn=>nomatch n⟩
 rcases cU h with h|h;·obtain⟨x,e,h⟩:=ew h;obtain⟨y,d,rfl,rfl⟩:=jl h;rw[D.dict?_eq e];exact⟨(Bl d).1,λU=>(Bl d).2⟩
 ·obtain⟨x,e,h⟩:=ew h;obtain⟨y,d,rfl,rfl⟩:=jl h;exact⟨(qt e d).1,λU=>(qt e d).2⟩
theorem E9(f:A.units+8<cLine)(h:Kc o a b=some (c,k)):et A (compareOp o) a b (.bool c):=by cases o with|Is=>obtain⟨e,h⟩:=lR h;obtain⟨z,d,rfl,rfl⟩:=jl h;rw[D.isNone_eq e];exact Kf d|IsNot=>obtain⟨e,h⟩:=lR h;obtain⟨z,d,rfl,rfl⟩:=jl h;rw[D.isNone_eq e];exact y8 d|In=>exact(yM h).1|NotIn=>obtain⟨e,h⟩:=lR h;obtain⟨z,d,rfl,rfl⟩:=jl h;exact(yM d).2 e|Eq=>exact FY f h|NotEq=>exact Ho f h|_=>exact nomatch h
theorem f5(f:A.units+8<cLine)(h:yT o a b=some (c,k)):et A (compareOp o) a b (.bool c):=by
 rcases cU h with h|h;·obtain⟨p,d,h⟩:=ew h;obtain⟨q,e,h⟩:=ew h;obtain⟨z,g,rfl,rfl⟩:=jl h;exact Ck d e g
 ·exact E9 f h
noncomputable def Ka(a b:D):Option (D×List Claim):=l0 (a.str?.bind λx=>b.str?.bind λy=>if Nat.ble (x.length+y.length) 16777216=true then some (.str (x++y),[])else none)<|a.lst?.bind λxs=>b.lst?.map λys=>(.slist (xs++ys),[.le (xs.length+ys.length) 16777216])
noncomputable def Mp(o:Operator)(a b:D):Option (D×List Claim):=match o with|.Add=>Ka a b|_=>none
noncomputable def IT(o:Operator)(a b:D):Option (D×List Claim):=l0 (a.isI.bind λp=>b.isI.bind λq=>(vd o p.1 q.1 q.2).map λr=>(ku (p.2||q.2) r.1,r.2.map Claim.p)) (Mp o a b)
theorem C0(h:Ka a b=some (d,cl))(g:bx cl):et A (binaryOp .Add) a b d:=by
 rcases cU h with h|h;·obtain⟨x,c,h⟩:=ew h;obtain⟨y,f,h⟩:=ew h;obtain⟨e,h⟩:=lR h;obtain⟨rfl,rfl⟩:=Ix h;rw[D.str?_eq c,D.str?_eq f];exact Ei e
 ·obtain⟨x,c,h⟩:=ew h;obtain⟨y,f,rfl,rfl⟩:=jl h;exact Dg (D.lst?_eq c) (D.lst?_eq f) g.1
theorem vy(h:IT o a b=some (d,cl))(c:bx cl):et A (binaryOp o) a b d:=by
 rcases cU h with h|h;·obtain⟨p,e,h⟩:=ew h;obtain⟨q,f,h⟩:=ew h;obtain⟨z,g,rfl,rfl⟩:=jl h;exact Dj e f g (sV c)
 ·cases o with|Add=>exact C0 h c|_=>exact nomatch h
noncomputable def wj(i:Int):Bool:=decide (-(2^62)<=i)&&decide (i<2^62)
theorem y3(h:wj i=true):gX i:=by unfold wj at h;simp only[A8,decide_eq_true_eq]at h;exact h
noncomputable def J7(a z:D)(lo h st:Option Int):Option (D×List Claim):=l0 (a.str?.bind λs=>if z.isNone=true then if Nat.ble (tJ s lo h).length 16777216=true then some (.str (tJ s lo h),[])else none else none)<|l0 (a.bytes?.bind λv=>lo.bind λi=>h.bind λj=>if z.isNone=true then some (.bytes (KBy.picked v (some i) (some j)),[.le v.size 16777216])else none)<|a.lst?.bind λds=>if(st !=some 0)=true then some (.slist (cH ds lo h st),[.le ds.length 16777216])else none
noncomputable def IX(a b:D):Option (D×List Claim):=l0 (b.int?.bind λi=>a.items.bind λds=>if wj i=true then(seqIndex? i ds.length).bind λj=>(ds[j]?).map λd=>(d,[])else none)<|b.slc?.bind λp=>(gF p.1).bind λlo=>(gF p.2.1).bind λh=>(gF p.2.2).bind λst=>J7 a p.2.2 lo h st
theorem D6{k l:Expr}{a x y z d:D}{cl:List Claim}{lo g st:Option Int}(b:gF x=some lo)(c:gF y=some g)(m:gF z=some st)(h:J7 a z lo g st=some (d,cl))(f:bx cl):et A (subscriptTail k l) a (.recd "slice" [x,y,z]) d:=by
 rcases cU h with h|h;·obtain⟨s,hs,h⟩:=ew h;obtain⟨e,h⟩:=lR h;obtain⟨q,h⟩:=lR h;obtain⟨rfl,rfl⟩:=Ix h;rw[D.str?_eq hs,D.isNone_eq e];exact qW b c q
 rcases cU h with h|h;·obtain⟨s,hs,h⟩:=ew h;obtain⟨i,rfl,n⟩:=ew h;obtain⟨j,rfl,o⟩:=ew n;obtain⟨e,p⟩:=lR o;obtain⟨rfl,rfl⟩:=Ix p;rw[D.bytes?_eq hs,D.isNone_eq e];exact mK b c (A1 (KBc.size_picked_le _ _ _) f.1) KBc.whole_picked
 ·obtain⟨s,hs,h⟩:=ew h;obtain⟨e,h⟩:=lR h;obtain⟨rfl,rfl⟩:=Ix h;exact pM (D.lst?_eq hs) b c m (by simpa using e) f.1
theorem vM{c f:Expr}{a b d:D}{cl:List Claim}(h:IX a b=some (d,cl))(m:bx cl):et A (subscriptTail c f) a b d:=by
 rcases cU h with h|h;·obtain⟨i,o,h⟩:=ew h;obtain⟨ds,n,h⟩:=ew h;obtain⟨e,h⟩:=lR h;obtain⟨j,q,h⟩:=ew h;obtain⟨x,s,rfl,rfl⟩:=jl h;rw[D.int?_eq o];exact my n rfl (y3 e) q s
 ·obtain⟨p,r,h⟩:=ew h;obtain⟨_,g,h⟩:=ew h;obtain⟨_,k,h⟩:=ew h;obtain⟨_,l,h⟩:=ew h;rw[D.slc?_eq r];exact D6 g k l h m
end
noncomputable def D.isL:D->Option (List D×Bool)|.tuple ds=>some (ds,false)|.list ds=>some (ds,false)|.slist ds=>some (ds,true)|_=>Option.none
theorem D.isL_items{d:D}(h:d.isL=some (ds,b)):d.items=some ds:=by cases d<;>first|exact ca h|exact congrArg some (congrArg Prod.fst (A0 h))
noncomputable def JJ(d:D):Option (D×List Claim):=l0 (d.str?.bind λx=>if Nat.ble x.length 16777216=true then some (.int x.length,[])else none)<|l0 (d.bytes?.map λx=>(.sym x.size,[.le x.size 16777216]))<|d.isL.map λp=>(ku p.2 p.1.length,[.le p.1.length 16777216])
noncomputable def Kd(d:D):Option (D×List Claim):=l0 (d.str?.bind λx=>(PySem.intText? x).bind λn=>if Nat.ble x.length 640=true then some (.int n,[])else none)<|d.isI.map λp=>(ku p.2 p.1,[])
noncomputable def FC(d:D):Option (D×List Claim):=d.isL.map λp=>(.slist p.1,[.le p.1.length 16777216])
noncomputable def Aw(d:D):Option (D×List Claim):=d.isL.map λp=>(.tuple p.1,[.le p.1.length 16777216])
noncomputable def BA(d:D):Option (D×List Claim):=l0 (d.bytes?.map λx=>(.bytes x,[]))<|d.lst?.bind λds=>(D.ints ds).map λns=>(.bytes (ns.map λn=>n.toNat.toUInt8).toArray,[.b (ns.all λn=>decide (0<=n)&&decide (n<256)),.le ds.length 16777216])
noncomputable def Ib(d:D):Option (D×List Claim):=d.isI.map λp=>(.recd "range" [.int 0,.int p.1,.int 1],[])
noncomputable def uE:List D->Option (List Bool)|[]=>some []|d::r=>d.bool?.bind λb=>(uE r).map (b::·)
theorem wT:∀{bs:List Bool},uE ds=some bs->ds=bs.map D.bool:=by induction ds with|nil=>intro bs h;obtain rfl:=A0 h;rfl|cons d r i=>intro bs h;obtain⟨b,hb,h⟩:=ew h;obtain⟨x,a,rfl⟩:=wn h;rw[D.bool?_eq hb,i a];rfl
noncomputable def Ke(d:D):Option (D×List Claim):=d.lst?.bind λds=>(uE ds).map λbs=>(.bool (bs.any id),[])
noncomputable def Jw(d:D):Option (D×List Claim):=d.lst?.bind λds=>(D.ints ds).map λns=>(.sym (gw ns),[])
noncomputable def wy(d:D):Option (D×List Claim):=l0 (d.lst?.bind λds=>(D.ints ds).map λns=>(.slist ((cY ns).map D.sym),[.le (ds.length+1) 64]))<|d.dict?.map λds=>(.slist ((cY (ds.map (·.1))).map D.sym),[.le (ds.length+1) 64])
noncomputable def LA(x y:D):Option (D×List Claim):=x.isI.bind λp=>y.isI.map λq=>(ku (p.2||q.2) (if q.1>p.1 then q.1 else p.1),[])
noncomputable def Ml(x y:D):Option (D×List Claim):=x.isI.bind λp=>y.isI.map λq=>(ku (p.2||q.2) (if q.1<p.1 then q.1 else p.1),[])
noncomputable def one(ds:List D)(f:D->Option (D×List Claim)):Option (D×List Claim):=match ds with|[d]=>f d|_=>none
noncomputable def KE(ds:List D)(f:D->D->Option (D×List Claim)):Option (D×List Claim):=match ds with|[x,y]=>f x y|_=>none
theorem g7(h:one ds f=some r):∃d,ds=[d]/\f d=some r:=match ds,h with|[d],h=>⟨d,rfl,h⟩
theorem yy(h:KE ds f=some r):∃x y,ds=[x,y]/\f x y=some r:=match ds,h with|[x,y],h=>⟨x,y,rfl,h⟩
noncomputable def L1(n:String)(ds:List D):Option (D×List Claim):=if n="len"then one ds JJ else if n="any"then one ds Ke else if n="sum"then one ds Jw else if n="sorted"then one ds wy else if n="max"then KE ds LA else if n="min"then KE ds Ml else none
noncomputable def L0(n:String)(ds:List D):Option (D×List Claim):=if n="int"then one ds Kd else if n="list"then one ds FC else if n="tuple"then one ds Aw else if n="bytes"then one ds BA else if n="range"then one ds Ib else none
noncomputable def MK(f:Value)(ds:List D):Option (D×List Claim):=match f with|.builtin n=>L1 n ds|.type n=>L0 n ds|_=>none
section
variable{A:Around}{d r:D}{cl:List Claim}
theorem D7(h:JJ d=some (r,cl))(c:bx cl):Bc A (.builtin "len") [d] r:=by
 rcases cU h with h|h;·obtain⟨x,a,h⟩:=ew h;obtain⟨e,h⟩:=lR h;obtain⟨rfl,rfl⟩:=Ix h;rw[D.str?_eq a];exact Dm (b:=false) e
 rcases cU h with h|h;·obtain⟨x,a,rfl,rfl⟩:=jl h;rw[D.bytes?_eq a];exact DV (b:=true) c.1
 ·obtain⟨x,a,rfl,rfl⟩:=jl h;exact uP (D.isL_items a) c.1
theorem ED(h:Kd d=some (r,cl))(c:bx cl):Bc A (.type "int") [d] r:=by
 rcases cU h with h|h;·obtain⟨x,a,h⟩:=ew h;obtain⟨n,b,h⟩:=ew h;obtain⟨e,h⟩:=lR h;obtain⟨rfl,rfl⟩:=Ix h;rw[D.str?_eq a];exact CS b e
 ·obtain⟨x,a,rfl,rfl⟩:=jl h;exact Il a
theorem yq(h:FC d=some (r,cl))(a:bx cl):Bc A (.type "list") [d] r:=by obtain⟨x,b,rfl,rfl⟩:=jl h;exact EJ (D.isL_items b) a.1
theorem wV(h:Aw d=some (r,cl))(a:bx cl):Bc A (.type "tuple") [d] r:=by obtain⟨x,b,rfl,rfl⟩:=jl h;exact zb (D.isL_items b) a.1
theorem Lg{ns:List Int}(h:(ns.all λn=>decide (0<=n)&&decide (n<256))=true):∀n∈ns,0<=n/\n<256:=by intro n a;have:=List.all_eq_true.mp h n a;simpa using this
theorem xx(c:A.handled=none)(h:BA d=some (r,cl))(b:bx cl):Bc A (.type "bytes") [d] r:=by
 rcases cU h with h|h;·obtain⟨x,a,rfl,rfl⟩:=jl h;rw[D.bytes?_eq a];exact wZ
 ·obtain⟨x,a,h⟩:=ew h;obtain⟨n,e,rfl,rfl⟩:=jl h;exact tc c (D.lst?_eq a) e (Lg b.1) b.2.1
theorem EW(a:A.handled=none)(h:Ke d=some (r,cl)):Bc A (.builtin "any") [d] r:=by obtain⟨x,c,h⟩:=ew h;obtain⟨n,b,rfl,rfl⟩:=jl h;exact G8 a (D.lst?_eq c) (wT b)
theorem Cw(a:A.handled=none)(h:Jw d=some (r,cl)):Bc A (.builtin "sum") [d] r:=by obtain⟨x,e,h⟩:=ew h;obtain⟨n,c,rfl,rfl⟩:=jl h;exact GZ (b:=true) a (D.lst?_eq e) c
theorem ud(e:A.handled=none)(h:wy d=some (r,cl))(c:bx cl):Bc A (.builtin "sorted") [d] r:=by
 rcases cU h with h|h;·obtain⟨x,a,h⟩:=ew h;obtain⟨n,f,rfl,rfl⟩:=jl h;exact pQ (b:=true) (D.lst?_eq a) f c.1
 ·obtain⟨x,a,rfl,rfl⟩:=jl h;rw[D.dict?_eq a];exact vf (b:=true) e c.1
theorem HB(a:A.handled=none)(h:L1 n ds=some (r,cl))(f:bx cl):Bc A (.builtin n) ds r:=by
 unfold L1 at h;rcases x9 h with⟨e,h⟩|h;·obtain⟨U,rfl,h⟩:=g7 h;exact e.symm▸D7 h f
 rcases x9 h with⟨e,h⟩|h;·obtain⟨U,rfl,h⟩:=g7 h;exact e.symm▸EW a h
 rcases x9 h with⟨e,h⟩|h;·obtain⟨U,rfl,h⟩:=g7 h;exact e.symm▸Cw a h
 rcases x9 h with⟨e,h⟩|h;·obtain⟨U,rfl,h⟩:=g7 h;exact e.symm▸ud a h f
 rcases x9 h with⟨e,h⟩|h;·obtain⟨U,U,rfl,h⟩:=yy h;obtain⟨x,b,h⟩:=ew h;obtain⟨y,c,rfl,rfl⟩:=jl h;exact e.symm▸Ih a b c
 rcases x9 h with⟨e,h⟩|h;·obtain⟨U,U,rfl,h⟩:=yy h;obtain⟨x,b,h⟩:=ew h;obtain⟨y,c,rfl,rfl⟩:=jl h;exact e.symm▸GB a b c
 exact ca h
theorem Gi(b:A.handled=none)(h:L0 n ds=some (r,cl))(a:bx cl):Bc A (.type n) ds r:=by
 unfold L0 at h;rcases x9 h with⟨e,h⟩|h;·obtain⟨U,rfl,h⟩:=g7 h;exact e.symm▸ED h a
 rcases x9 h with⟨e,h⟩|h;·obtain⟨U,rfl,h⟩:=g7 h;exact e.symm▸yq h a
 rcases x9 h with⟨e,h⟩|h;·obtain⟨U,rfl,h⟩:=g7 h;exact e.symm▸wV h a
 rcases x9 h with⟨e,h⟩|h;·obtain⟨U,rfl,h⟩:=g7 h;exact e.symm▸xx b h a
 rcases x9 h with⟨e,h⟩|h;·obtain⟨U,rfl,h⟩:=g7 h;obtain⟨x,c,rfl,rfl⟩:=jl h;exact e.symm▸se c
 exact ca h
theorem Im(b:A.handled=none)(h:MK f ds=some (r,cl))(a:bx cl):Bc A f ds r:=by cases f<;>first|exact ca h|exact HB b h a|exact Gi b h a
end
section
variable{α β:Type}{P:α->Sig->Prop}{Q:β->Sig->Prop}
noncomputable def CM.imp(h:p->q)(x:CM β (λb σ=>q->Q b σ)):CM β (λb σ=>p->Q b σ):=λo=>match x o with|none=>none|some r=>some ⟨r.a,r.σ,r.o,r.c,λa d=>r.h a (h d)⟩
end
section
variable{c:Ct}{σ σ' σ₁ σ₂:Sig}
theorem Ie(h:Ev A env g e σ (.atom v) σ'):Ev A env g e σ (ot v) σ':=λl s H Q E R K=>h l s H Q E R λb h' t H' a sub d=>K b h' t H' a sub (by obtain rfl:=d.inv;exact sB _)
noncomputable def Kv(c:Ct)(x:PySem.Str)(p:Pos)(σ:Sig):CM D (pe c (.Name x p) σ):=CM.guard (eE x) λb=>match h:bq σ x with|some (.v d)=>CM.ret d σ λa=>bI a.O (Mr h) (bY b)|some (.o k q)=>CM.ret (D.ofOwn k) (bO σ x (.v (D.ofOwn k))) λa=>by rw[i3];exact gi a.O (gy h) (bY b)|none=>match f:c.sc.names.lookup x with
 |some .globalImplicit=>match e:nsIn (cA w.params) mainGlobals x with
  |some (some v)=>CM.ret (ot v) σ λa=>Ie (g1 a.O a.C ((a.kind x).trans f) e (bY b))|some none=>match g:bootBuiltins x with|some v=>CM.guard (!(x==("__name__":PySem.Str))) λi=>CM.ret (.atom v) σ λa=>tH a.O a.C ((a.kind x).trans f) e g (λz=>by subst z;simp at i) (bY b)|none=>CM.fail
  |none=>CM.fail
 |_=>CM.fail
noncomputable def rd(I:Eng)(c:Ct)(e:Expr)(σ:Sig):CM rK (pr c e σ):=match e with
 |.Name x p=>match h:bq σ x with|some (.o k q)=>CM.guard (eE x) λb=>CM.ret (.own x) σ λa=>dT a.O (gy h) (bY b)|_=>CM.bind (I.d c (.Name x p) σ) λd σ'=>CM.ret (.val d) σ' λh a=>vO (h a)
 |e=>CM.bind (I.d c e σ) λd σ'=>CM.ret (.val d) σ' λh a=>vO (h a)
noncomputable def oP(d:D):Option (List D):=match d with|.list its=>some its|.slist its=>some its|_=>none
theorem i4(h:oP d=some its):d=.list its\/d=.slist its:=by cases d<;>first|exact ca h|exact .inl (congrArg D.list (A0 h))|exact .inr (congrArg D.slist (A0 h))
noncomputable def Fj:Operator->Bool|.Add=>true|_=>false
theorem BB(h:Fj o=true):o=.Add:=by cases o<;>first|rfl|exact Bool.noConfusion h
theorem RL.lstOf{l:Lay}{s:Shared}{H:Addr->Obj->Prop}(R:RL env g l σ s.heap H)(h:m7 env l H v r)(f:eZ σ r=some d)(b:d=.list xs\/d=.slist xs):∃a vs n,v=.ref a/\s.heap.get? a=some (bA vs n)/\bM H vs xs:=by
 have m:=R.isH;cases r with|val i=>
  obtain rfl:=A0 f;have h:cx H v i:=h;have h:F2 H v xs:=by rcases b with rfl|rfl<;>exact h.inv
  obtain⟨a,vs,n,rfl,q,dl⟩:=h;rw[m]at q;exact⟨a,vs,n,rfl,q.1,dl⟩|own x=>obtain⟨k,p,j,rfl⟩:=rq f;have o:=(bD.own R x k p j).ok;have h:cu env l.m l.cm x=some v:=h;rw[h]at o;cases k with|list ds=>obtain rfl:ds=xs:=b.elim (λz=>D.list.inj z) nofun;obtain⟨e,vs,n,t,dl⟩:=o;exact⟨_,vs,n,A0 e,t,dl⟩|dict ds=>exact b.elim nofun nofun|inst C fs=>exact b.elim nofun nofun
theorem EU{xs ys:List D}(N:tP A env g L σ ra σ₁)(h:tP A env g M σ₁ rb σ')(T:eZ σ' ra=some a)(hb:eZ σ' rb=some b)(U:a=.list xs\/a=.slist xs)(V:b=.list ys\/b=.slist ys)(Y:xs.length+ys.length<=16777216):x5 A env g (.BinOp L .Add M p) σ (.list (xs++ys)) σ':=by
 intro l s H Q E R K;refine wpAny_BinOp (N l s H _ E R λu h' tk H' z sub I=>?_);refine h l _ H' _ E z λv h t H2 i f J=>?_;obtain⟨C,vs,n,rfl,x,r⟩:=RL.lstOf (s:=(uS s h t)) i (I.mono f) T U;obtain⟨G,k,n',rfl,y,d2⟩:=RL.lstOf (s:=(uS s h t)) i J hb V;have e:vs.toArray++k.toArray=(vs++k).toArray:=by simp
 refine concat_meets ⟨_,x,rfl⟩ ⟨_,y,rfl⟩ noFill_list_add seq_list_add PySem.F.slot_list_add PySem.F.entry_list_add (PySem.F.args_list_add_2 _ _) (list_addW C G vs.toArray k.toArray n n' none none #[] #[] (by rw[AA,AA,r.length,d2.length,sizeLine_eq];exact Y)) ⟨x,y,?_⟩;rw[e];exact RL.made (kk:=.list (xs++ys)) (s:=(uS s h t)) i rfl (λm d=>⟨rfl,_,_,AH _ rfl,(r.append d2).mono d⟩) λv O j m a o B d=>K v O j m a o B λa o q=>d a o (f a o (sub a o q))
theorem sI{d:D}{r a:rK}(h:(d.scalar||(r.isVal&&a.isVal))=true):d.scalar=true\/(r.isVal&&a.isVal)=true:=by simpa using h
theorem gn(h:eZ σ r=some d):eZ (pin π σ) r=some d:=(Ay σ r).trans h
noncomputable def Lh(I:Eng)(c:Ct)(l r:Expr)(g:Operator)(p:Pos)(σ:Sig):CM DO (p2 c (.BinOp l g r p) σ):=CM.bind (rd I c l σ) λm σ₁=>CM.bind (rd I c r σ₁) λn σ₂=>CM.opt (eZ σ₂ m) λa i=>CM.opt (eZ σ₂ n) λb j=>CM.orO (λU U=>CM.guard (Fj g) λk=>CM.opt (oP a) λxs t=>CM.opt (oP b) λys u=>CM.le (xs.length+ys.length) 16777216 (CM.ret (.o (.list (xs++ys))) σ₂ λy f h e=>by rw[BB k];exact EU (h e) (f e) (gn i) (gn j) (i4 t) (i4 u) y))<|CM.orTD (λd=>CM.need (∀A:Around,A.handled=none->A.units+8<cLine->et A (binaryOp g) a b d) (CM.guard (d.scalar||(m.isVal&&n.isVal)) λhs=>CM.ret (.d d) σ₂ λx f h e=>v5 (h e) (f e) (gn i) (gn j) (x _ e.hand e.units) (sI hs)))<|CM.opt (IT g a b) λq s=>CM.needs q.2 (CM.guard (q.1.scalar||(m.isVal&&n.isVal)) λhs=>CM.ret (.d q.1) σ₂ λv f h e=>v5 (h e) (f e) (gn i) (gn j) (vy s v) (sI hs))
noncomputable def LJ(I:Eng)(c:Ct)(l r:Expr)(o:CmpOp)(p:Pos)(σ:Sig):CM DO (p2 c (.Compare l [o] [r] p) σ):=CM.bind (rd I c l σ) λs σ₁=>CM.bind (rd I c r σ₁) λt σ₂=>CM.opt (eZ σ₂ s) λa i=>CM.opt (eZ σ₂ t) λb j=>CM.orT (λv=>CM.need (∀A:Around,A.handled=none->A.units+8<cLine->et A (compareOp o) a b (.bool v)) (CM.guard (!behindInMarks o r) λg=>CM.ret (.d (.bool v)) σ₂ λm f h e=>vF (h e) (f e) (gn i) (gn j) (m _ e.hand e.units) (.inl rfl) (by simpa using g)))<|CM.opt (yT o a b) λq k=>CM.bool q.2 q.1 λv=>CM.guard (!behindInMarks o r) λg=>CM.ret (.d (.bool v)) σ₂ λn f h e=>vF (h e) (f e) (gn i) (gn j) (by rw[<-n];exact f5 e.units k) (.inl rfl) (by simpa using g)
theorem BD(hb:b.isI=some (i,d))(h:0<=i/\i<v.size/\v.size<=16777216/\((v.toList.getD i.toNat 0).toNat:Int)=n):et A (subscriptTail e a) (.bytes v) b (ku s n):=by have:=Dw (A:=A) (value:=e) (slice:=a) (sc:=s) hb h.1 h.2.1 h.2.2.1;rw[h.2.2.2]at this;exact this
noncomputable def qQ:D->Option (Array UInt8)|.bytes v=>some v|_=>none
theorem nr(h:qQ a=some v):a=.bytes v:=by cases a<;>first|exact ca h|exact congrArg D.bytes (A0 h)
noncomputable def IG:D->Option Int|.sym i=>some i|_=>none
theorem CF(h:IG a=some i):a.isI=some (i,true):=by cases a<;>first|exact ca h|exact congrArg (λi=>some (i,true)) (A0 h)
theorem uq(s:Bool)(n:Int):(ku s n).scalar=true:=by cases s<;>rfl
noncomputable def Value.rf?:Value->Option Addr|.ref a=>some a|_=>none
theorem Value.rf?_eq(h:Value.rf? v=some a):v=.ref a:=by cases v<;>first|exact ca h|exact congrArg Value.ref (A0 h)
noncomputable def D.at?:D->Option Value|.atom v=>some v|_=>Option.none
theorem D.at?_eq(h:D.at? d=some v):d=.atom v:=by cases d<;>first|exact ca h|exact congrArg D.atom (A0 h)
noncomputable def FD:Data->Option (Array Value×Nat)|.seq vs n=>some (vs,n)|_=>none
theorem yv(h:FD d=some p):d=.seq p.1 p.2:=by cases d<;>first|exact ca h|exact congrArg (λp:Array Value×Nat=>Data.seq p.1 p.2) (A0 h)
noncomputable def Jq(o:Obj):Option (List Value):=(FD o.data).bind λp=>if(o.cls==.type "tuple"&&o.dict.isNone&&o.slots.isEmpty)=true then some p.1.toList else none
theorem Et(h:Jq o=some vs):∃n,o=dQ vs n:=by obtain⟨p,e,h⟩:=ew h;obtain⟨c,h⟩:=lR h;obtain rfl:=A0 h;obtain⟨a,b,d,s⟩:=o;obtain rfl:=yv e;simp only[A8,Ac,Option.isNone_iff_eq_none,Array.isEmpty_iff]at c;obtain⟨⟨rfl,rfl⟩,rfl⟩:=c;exact⟨p.2,rfl⟩
noncomputable def F7(d:D):Option (List Value):=(D.at? d).bind λv=>(Value.rf? v).bind λa=>((cA w.params).lookup a).bind Jq
theorem Dd(X:Cx k A g env.frame)(h1:Ev A env g J σ d σ₁)(h:Ev A env g L σ₁ b σ')(ha:F7 d=some vs)(hb:b.isI=some (i,sb))(hm:gX i/\∃j,seqIndex? i vs.length=some j/\(vs.map ot)[j]?=some (.int m)):Ev A env g (.Subscript J L p) σ (.sym m) σ':=by refine cI λG hG=>?_;obtain⟨hi,j,hj,hd⟩:=hm;obtain⟨v,q1,x⟩:=ew ha;obtain⟨a,q2,y⟩:=ew x;obtain⟨o,ho,B⟩:=ew y;obtain rfl:=D.at?_eq q1;obtain rfl:=Value.rf?_eq q2;obtain⟨n,rfl⟩:=Et B;refine hG ?_;intro l s H Q E R K;refine PyProof.Rows.Subscript_ (h1 l s H _ E R λu h' tk H' O sub V=>?_);obtain rfl:=V.inv;refine h l _ H' _ E O λv h f H2 I e Y=>?_;have N:=RL.kin (s:=(uS s h f)) X I;obtain⟨t,rfl⟩:=ct hb Y;have hH:Fz h (λU=>False) a (dQ vs n):=⟨N _ _ ho,id⟩;refine my (value:=J) (slice:=L) (a:=.tuple (vs.map ot)) (b:=b) (d:=.int m) rfl hb hi (by rw[AM];exact hj) hd (uS s h f) (λU=>False) _ _ Q E (λU z=>z.elim) (.tuple hH (kY _)) (by rcases D.isI_eq hb with rfl|rfl;exact .int _ _;exact .sym _ _) λr M C hk T=>?_;obtain⟨U,rfl⟩:=T.inv;have q:=bD.grow (h':=M) I hk;exact K _ M C _ q.1 (λa o z=>q.2 a o (e a o (sub a o z))) (.sym _ _)
noncomputable def J8(I:Eng)(c:Ct)(l r:Expr)(p:Pos)(σ:Sig):CM DO (p2 c (.Subscript l r p) σ):=CM.bind (rd I c l σ) λn σ₁=>CM.bind (rd I c r σ₁) λo σ₂=>CM.opt (eZ σ₂ n) λa g=>CM.opt (eZ σ₂ o) λb k=>CM.orTD (λd=>CM.need (∀A:Around,A.handled=none->A.units+8<cLine->et A (subscriptTail l r) a b d) (CM.guard (d.scalar||(n.isVal&&o.isVal)) λhs=>CM.ret (.d d) σ₂ λB f h e=>qG (h e) (f e) (gn g) (gn k) (B _ e.hand e.units) (sI hs)))<|match C:qQ a,z:b.isI with|some v,some q=>CM.askD λd=>CM.opt d.isI λm J=>CM.need (0<=q.1/\q.1<v.size/\v.size<=16777216/\((v.toList.getD q.1.toNat 0).toNat:Int)=m.1) (CM.ret (.d (ku m.2 m.1)) σ₂ λt f h e=>qG (h e) (f e) (gn g) (gn k) (by rw[nr C];exact BD z t) (.inl (uq _ _)))|_,_=>match hs:IG b,x:a.items with|some i,some ds=>CM.askD λd=>CM.need (gX i/\∃j,seqIndex? i ds.length=some j/\ds[j]?=some d) (CM.guard (d.scalar||(n.isVal&&o.isVal)) λs=>CM.ret (.d d) σ₂ λt f h e=>qG (h e) (f e) (gn g) (gn k) (by obtain⟨E,j,G,H⟩:=t;exact my x (CF hs) E G H) (sI s))|_,_=>CM.opt (IX a b) λq u=>CM.needs q.2 (CM.guard (q.1.scalar||(n.isVal&&o.isVal)) λs=>CM.ret (.d q.1) σ₂ λy f h e=>qG (h e) (f e) (gn g) (gn k) (vM u y) (sI s))
noncomputable def MH(l:Expr):Bool:=match l with
 |.Name x _=>match nsIn (cA w.params) mainGlobals x with|some (some v)=>(F7 (ot v)).isSome|_=>false
 |_=>false
noncomputable def KQ(I:Eng)(c:Ct)(l r:Expr)(p:Pos)(σ:Sig):CM DO (p2 c (.Subscript l r p) σ):=match MH l with|false=>J8 I c l r p σ|true=>CM.bind (I.d c l σ) λd σ₁=>CM.bind (I.d c r σ₁) λb σ₂=>CM.opt (F7 d) λvs h=>CM.opt b.isI λq hb=>CM.askD λm=>CM.opt m.isI λe k=>CM.need (gX q.1/\∃j,seqIndex? q.1 vs.length=some j/\(vs.map ot)[j]?=some (.int e.1)) (CM.ret (.d (.sym e.1)) σ₂ λi g f a=>Dd a.C (f a) (g a) h hb i)
end
section
variable{c:Ct}{σ σ' σ₁ σ₂:Sig}
noncomputable def GP(c:Ct)(k:Const)(n:Nat)(p:Pos)(σ:Sig):CM DO (p2 c (.Constant k n p) σ):=match k with|.none=>CM.ret (.d .none) σ λa=>CH n p|.bool b=>CM.ret (.d (.bool b)) σ λa=>Dt b n p|.int i=>CM.ret (.d (.int i)) σ λa=>GT i n p|.str x=>CM.ret (.d (.str x)) σ λa=>uB x n p|_=>CM.fail
noncomputable def NR(I:Eng)(c:Ct)(o:UnaryOp)(x:Expr)(p:Pos)(σ:Sig):CM DO (p2 c (.UnaryOp o x p) σ):=match o with|.USub=>CM.bind (I.d c x σ) λa σ₁=>CM.opt a.isI λq e=>CM.ret (.d (ku q.2 (-q.1))) σ₁ λh f=>He (h f) e|.Not=>CM.bind (I.d c x σ) λa σ₁=>CM.opt (Bi a) λb e=>CM.ret (.d (.bool (!b))) σ₁ λh f=>Ey (h f) (qO e)|_=>CM.fail
noncomputable def JV(I:Eng)(c:Ct)(o:Expr)(name:PySem.Str)(p:Pos)(σ:Sig):CM DO (p2 c (.Attribute o name p) σ):=CM.bind (rd I c o σ) λr σ₁=>CM.opt (eZ σ₁ r) λd e=>match d,e with|.inst C fs,e=>CM.opt (fs.lookup name) λb g=>CM.guard (gq C name&&(b.handed&&jX o)) λa=>CM.ret (.d b) σ₁ λh f=>qN f.C (h f) (gn e) g (by simp only[A8]at a;exact a.1) (by simp only[A8]at a;exact a.2.1) (by simp only[A8]at a;exact a.2.2)|_,_=>CM.fail
noncomputable def K7(I:Eng)(c:Ct)(e:Option Expr)(σ:Sig):CM D (λd σ'=>∀a:Fm c,xW a.A a.env a.g e (pin a.π σ) d (pin a.π σ')):=match e with|none=>CM.ret .none σ λa=>wB|some e=>CM.bind (I.d c e σ) λd σ'=>CM.ret d σ' λh a=>wD (h a)
noncomputable def Gk(I:Eng)(c:Ct)(lo h st:Option Expr)(p:Pos)(σ:Sig):CM DO (p2 c (.Slice lo h st p) σ):=CM.bind (K7 I c lo σ) λa σ₁=>CM.bind (K7 I c h σ₁) λb σ₂=>CM.bind (K7 I c st σ₂) λd e=>CM.ret (.d (.recd "slice" [a,b,d])) e λj i g f=>y5 (g f) (i f) (j f)
noncomputable def Jt(c:Ct)(k:List (Option Expr))(v:List Expr)(p:Pos)(σ:Sig):CM DO (p2 c (.Dict k v p) σ):=match k,v with|[],[]=>CM.ret (.o (.dict [])) σ λa=>lh a.C|k,v=>CM.opt (gJ k v) λps e=>CM.guard (oS (ps.map (·.1))&&(ps.length !=0&&Nat.ble ps.length 15)) λh=>CM.ret (.d (.dict ps)) σ λa=>zu a.C e (by simp only[A8]at h;exact h.1) (by simp only[A8]at h⊢;exact h.2)
noncomputable def GK(I:Eng)(c:Ct)(es:List Expr)(n:Nat)(p:Pos)(σ:Sig):CM DO (p2 c (.Tuple es n p) σ):=CM.bind (I.l c es σ) λds σ'=>CM.guard (Nat.ble ds.length sizeLine) λa=>CM.ret (.d (.tuple ds)) σ' λh b=>Bo (h b) a
noncomputable def IJ(I:Eng)(c:Ct)(es:List Expr)(p:Pos)(σ:Sig):CM DO (p2 c (.List es p) σ):=CM.bind (I.l c es σ) λds σ'=>CM.guard (Nat.ble ds.length sizeLine) λa=>CM.ret (.o (.list ds)) σ' λh b=>oj (h b) a
noncomputable def NU(I:Eng)(c:Ct)(t f g:Expr)(p:Pos)(σ:Sig):CM DO (p2 c (.IfExp t f g p) σ):=CM.bind (I.t c t σ) λb σ₁=>match b with|true=>CM.bind (I.d c f σ₁) λd σ₂=>CM.ret (.d d) σ₂ λe h a=>r0 (b:=true) (h a) (e a)|false=>CM.bind (I.d c g σ₁) λd σ₂=>CM.ret (.d d) σ₂ λe h a=>r0 (b:=false) (h a) (e a)
noncomputable def Ki(I:Eng)(c:Ct)(es:List Expr)(σ:Sig):CM (List D) (pl c es σ):=match es with|[]=>CM.ret [] σ λa=>.nil|e::es=>CM.guard (!isStarred e) λhs=>CM.bind (I.d c e σ) λd σ₁=>CM.bind (I.l c es σ₁) λds σ₂=>CM.ret (d::ds) σ₂ λb h a=>.cons (by simpa using hs) (h a) (b a)
noncomputable def J4(I:Eng)(c:Ct)(es:List Expr)(σ:Sig):CM (List Slot) (pI c es σ):=match es with|[]=>CM.ret [] σ λa=>.nil|e::es=>CM.guard (!isStarred e) λhs=>CM.bind (I.e c e σ) λr σ₁=>match r with|.d d=>CM.bind (I.i c es σ₁) λis σ₂=>CM.ret (.v d::is) σ₂ λb h a=>.d (by simpa using hs) (h a) (b a)|.o k=>CM.bind (I.i c es σ₁) λis σ₂=>CM.ret (.o k none::is) σ₂ λb h a=>.o (by simpa using hs) (h a) (b a)
noncomputable def FT:BoolOp->Bool|.Or=>true|_=>false
theorem vL(h:FT o=b):b=(o==.Or)/\(!b)=(o==.And):=by cases o<;>subst h<;>exact⟨rfl,rfl⟩
noncomputable def Ji(I:Eng)(c:Ct)(p:Pos)(o:BoolOp)(es:List Expr)(σ:Sig):CM D (pb c p o es σ):=match es with|[]=>CM.fail|[e]=>CM.bind (I.d c e σ) λd σ₁=>CM.ret d σ₁ λh a=>C9 (h a)|e::i::es=>CM.bind (I.d c e σ) λd σ₁=>CM.opt (Bi d) λb f=>match hb:b==FT o with|true=>CM.ret d σ₁ λh a=>sO (h a) (qO f) (.inl ⟨(vL (Ac.mp hb).symm).1,rfl,rfl⟩)|false=>CM.bind (I.b c p o (i::es) σ₁) λg σ₂=>CM.ret g σ₂ λk j a=>sO (j a) (qO f) (.inr ⟨by cases b<;>cases o<;>first|rfl|(exact absurd hb (by decide)),k a⟩)
noncomputable def G5(I:Eng)(c:Ct)(o:BoolOp)(es:List Expr)(σ:Sig):CM Bool (MX c o es σ):=match es with|[]=>CM.ret (o==.And) σ λa=>xh|e::es=>CM.bind (I.t c e σ) λb σ₁=>match hb:b==FT o with|true=>CM.ret b σ₁ λh a=>ou (h a) (.inl ⟨(vL (Ac.mp hb).symm).1,rfl,rfl⟩)|false=>CM.bind (I.ts c o es σ₁) λd σ₂=>CM.ret d σ₂ λg f a=>ou (f a) (.inr ⟨by cases b<;>cases o<;>first|rfl|(exact absurd hb (by decide)),g a⟩)
noncomputable def Mh(I:Eng)(c:Ct)(l r:Expr)(o:CmpOp)(p:Pos)(σ:Sig):CM Bool (pt c (.Compare l [o] [r] p) σ):=CM.bind (rd I c l σ) λn σ₁=>CM.bind (rd I c r σ₁) λs σ₂=>CM.opt (eZ σ₂ n) λa g=>CM.opt (eZ σ₂ s) λb i=>CM.orT (λv=>CM.need (∀A:Around,A.handled=none->A.units+8<cLine->et A (compareOp o) a b (.bool v)) (CM.guard (!behindInMarks o r) λf=>CM.ret v σ₂ λk e h d=>vJ (h d) (e d) (gn g) (gn i) (k _ d.hand d.units) (by simpa using f)))<|CM.opt (yT o a b) λq j=>CM.bool q.2 q.1 λv=>CM.guard (!behindInMarks o r) λf=>CM.ret v σ₂ λm e h d=>vJ (h d) (e d) (gn g) (gn i) (by rw[<-m];exact f5 d.units j) (by simpa using f)
noncomputable def Gm(I:Eng)(c:Ct)(l r f:Expr)(o e:CmpOp)(p:Pos)(σ:Sig):CM Bool (pt c (.Compare l [o,e] [r,f] p) σ):=CM.guard (!lastMarks [o,e] [r,f]) λs=>CM.bind (I.d c l σ) λa σ₁=>CM.bind (I.d c r σ₁) λb σ₂=>CM.opt (yT o a b) λq n=>CM.bool q.2 q.1 λv=>match v with|false=>CM.ret false σ₂ λm k j g=>tn (c:=.none) (j g) (k g) (t:=false) (by rw[<-m];exact f5 g.units n) (.inl ⟨rfl,rfl,rfl⟩) (by simpa using s)|true=>CM.bind (I.d c f σ₂) λd h=>CM.opt (yT e b d) λx i=>CM.bool x.2 x.1 λu=>CM.ret u h λz y m k j g=>tn (j g) (k g) (t:=true) (by rw[<-m];exact f5 g.units n) (.inr ⟨rfl,y g,by rw[<-z];exact f5 g.units i⟩) (by simpa using s)
noncomputable def L4(I:Eng)(c:Ct)(e:Expr)(σ:Sig):CM Bool (pt c e σ):=CM.guard (qq e) λf=>CM.bind (I.d c e σ) λd σ₁=>CM.opt (Bi d) λb a=>CM.ret b σ₁ λh g=>H0 f (h g) (qO a)
noncomputable def JP(I:Eng)(c:Ct)(e:Expr)(σ:Sig):CM Bool (pt c e σ):=match e with|.UnaryOp .Not x p=>CM.bind (I.t c x σ) λb σ₁=>CM.ret (!b) σ₁ λh i=>Hz (h i)|.BoolOp g es p=>CM.bind (I.ts c g es σ) λb σ₁=>CM.ret b σ₁ λh i=>Hs (h i)|.Compare l [g] [r] p=>Mh I c l r g p σ|.Compare l [o,a] [d,f] p=>Gm I c l d f o a p σ|e=>L4 I c e σ
end
noncomputable def Fi(f:Addr)(n:Nat):List (DC)->Option {d:DC//d.f=f/\d.n=n}|[]=>none|d::r=>if h:d.f=f/\d.n=n then some ⟨d,h⟩else Fi f n r
noncomputable def FK(f:Addr)(n:Nat):Option {d:DC//d.f=f/\d.n=n}:=Fi f n (Na)
section
variable{c:Ct}{σ σ' σ₁ σ₂:Sig}{k:Nat}{ask:List Addr}
noncomputable def yp(B:Rn k sc A env g)(h:sc=s)(p:List PySem.Str)(ask:List Addr)(π:PySem.Str->Option (Addr×Value))(a:∀x,p.contains x=false->π x=none):Fm ⟨k,s,p,ask⟩:=⟨A,env,g,π,B.O,B.C,B.scope.trans h,λx e=>B.cells x (by rw[h];exact e),a⟩
theorem nB(a:DC)(p:a.n=ds.length)(h:Ic ⟨k,a.sc,[],ask⟩ a.body (a.xs.zip ((ds++a.dds).map Slot.v)) fl σ')(j:fl=.ret d\/(fl=.next/\d=.none)):br (k+1) a.f ds d:=by obtain⟨q,e,m,b,l,f,i,n⟩:=a.ok;refine sr (dvals:=e) (dds:=a.dds) (xs:=a.xs) m l (λs X vs o=>f s X vs (o.trans p.symm)) i (by rw[b];exact n) j λA env g B=>?_;have:=h (yp B b [] ask (λU=>none) λU U=>rfl);rw[nq]at this;exact⟨_,this⟩
theorem kA(d:DC)(n:d.n=ds.length)(h:Ic ⟨k,d.sc,[],ask⟩ d.body (d.xs.zip ((ds++d.dds).map Slot.v)) (.reto kk) σ'):bP (k+1) d.f ds kk:=by obtain⟨o,b,j,a,i,e,f,l⟩:=d.ok;refine qP (dvals:=b) (dds:=d.dds) (xs:=d.xs) j i (λs X vs m=>e s X vs (m.trans n.symm)) f (by rw[a];exact l) λA env g B=>?_;have:=h (yp B a [] ask (λU=>none) λU U=>rfl);rw[nq]at this;exact⟨_,this⟩
theorem lq(b:DC)(E:b.n=ds.length+1)(n:b.xs=x₀::xs)(h:Ic ⟨k,b.sc,[x₀],ask⟩ b.body ((x₀,.o o none)::xs.zip ((ds++b.dds).map Slot.v)) fl σ')(m:fl=.ret d\/(fl=.next/\d=.none))(u:bq σ' x₀=some (.o H q)):cq (k+1) b.f o ds d H:=by
 obtain⟨I,i,t,f,p,j,l,y⟩:=b.ok;refine rz (dvals:=i) (dds:=b.dds) (x₀:=x₀) (xs:=xs) t (n▸p) (λs X vs C=>n▸j s X vs (C.trans E.symm)) l (by rw[f,<-n];exact y) m λa v A env g B=>?_;obtain⟨π,r,G⟩:∃π:PySem.Str->Option (Addr×Value),π x₀=some (a,v)/\∀x,[x₀].contains x=false->π x=none:=⟨λx=>if x=x₀ then some (a,v)else none,if_pos rfl,λx e=>by exact if_neg λz=>by subst z;simp at e⟩;have:=h (yp B f [x₀] ask π G);refine⟨pin π σ',?_,?_⟩;·rw[gy u,r]
 · have e:pin π ((x₀,Slot.o o none)::xs.zip ((ds++b.dds).map Slot.v))=(x₀,Slot.o o (some (a,v)))::xs.zip ((ds++b.dds).map Slot.v):=by show(x₀,Slot.o o (π x₀))::pin π (xs.zip ((ds++b.dds).map Slot.v))=_;rw[r,nq]
   rw[<-e];exact this
end
section
variable{β:Type}{Q:β->Sig->Prop}
def MS(k:Nat)(f:Addr)(ds:List D):DO->Prop|.d d=>br k f ds d|.o kk=>bP k f ds kk
noncomputable def Kw(I:Eng)(k:Nat)(ask:List Addr)(f:Addr)(o:js)(ds:List D)(go:(d:D)->(e:js)->CM β (λb σ=>cq k f o ds d e->Q b σ)):CM β Q:=match ask.contains f with|true=>CM.askO λd e=>CM.need (cq k f o ds d e) (go d e)|false=>match k,go with|0,_=>CM.fail|k+1,go=>CM.opt (FK f (ds.length+1)) λa U=>match i:a.1.xs with|[]=>CM.fail|x₀::xs=>CM.bind (I.ss ⟨k,a.1.sc,[x₀],ask⟩ a.1.body ((x₀,.o o none)::xs.zip ((ds++a.1.dds).map Slot.v))) λfl σ'=>match g:bq σ' x₀ with
 |some (.o e q)=>match fl with|.ret d=>CM.imp (λh=>by have:=lq a.1 a.2.2 i h (.inl rfl) g;rw[a.2.1]at this;exact this) (go d e)|.next=>CM.imp (λh=>by have:=lq (d:=.none) a.1 a.2.2 i h (.inr ⟨rfl,rfl⟩) g;rw[a.2.1]at this;exact this) (go .none e)|_=>CM.fail
 |_=>CM.fail
noncomputable def LE(I:Eng)(k:Nat)(ask:List Addr)(C:Addr)(ds:List D)(go:(r:DO)->CM β (λb σ=>MS k C ds r->Q b σ)):CM β Q:=match k,go with|0,_=>CM.fail|k+1,go=>CM.guard (makesIn (cA w.params) C) λg=>match e:findIn (cA w.params) (.ref C) "__init__"with
 |some (some (.ref f))=>CM.guard (typeIn (cA w.params) (.ref f)==some (.type "function")) λa=>Kw I k ask f (.inst C []) ds λd i=>match d with|.none=>CM.imp (λh=>rA g e (Ac.mp a) h) (go (.o i))|_=>CM.fail
 |_=>CM.fail
noncomputable def MN(I:Eng)(k:Nat)(ask:List Addr)(f:Addr)(ds:List D)(go:(r:DO)->CM β (λb σ=>MS k f ds r->Q b σ)):CM β Q:=match ask.contains f with
 |true=>λo=>match o with|.d d::r=>CM.need (br k f ds d) (go (.d d)) r|.o _ kk::r=>CM.need (bP k f ds kk) (go (.o kk)) r|_=>none
 |false=>match FK f ds.length with
  |some a=>match k,go with|0,_=>CM.fail|k+1,go=>CM.bind (I.ss ⟨k,a.1.sc,[],ask⟩ a.1.body (a.1.xs.zip ((ds++a.1.dds).map Slot.v))) λfl σ'=>match fl with|.ret d=>CM.imp (λh=>by have:=nB a.1 a.2.2 h (.inl rfl);rw[a.2.1]at this;exact this) (go (.d d))|.next=>CM.imp (λh=>by have:=nB (d:=.none) a.1 a.2.2 h (.inr ⟨rfl,rfl⟩);rw[a.2.1]at this;exact this) (go (.d .none))|.reto kk=>CM.imp (λh=>by have:=kA a.1 a.2.2 h;rw[a.2.1]at this;exact this) (go (.o kk))|_=>CM.fail
  |none=>LE I k ask f ds go
end
noncomputable def zq:(xs:List a)->Option {p:List a×a//xs=p.1++[p.2]}|[]=>none|x::xs=>match xs,zq xs with|[],_=>some ⟨([],x),rfl⟩|y::ys,some ⟨(i,l),h⟩=>some ⟨(x::i,l),by rw[h];rfl⟩|y::ys,none=>none
section
variable{c:Ct}{σ σ' σ₁ σ₂:Sig}
noncomputable def zc(I:Eng)(c:Ct)(f:PySem.Str)(p:Pos)(args:List Expr)(pos:Pos)(σ:Sig):CM DO (p2 c (.Call (.Name f p) args [] pos) σ):=CM.bind (I.d c (.Name f p) σ) λs σ₁=>match s with
 |.atom v=>match v with
  |.ref a=>CM.guard (keepIn (cA w.params) (.ref a)) λl=>CM.bind (I.l c args σ₁) λds σ₂=>MN I c.k c.ask a ds λr=>match r with|.d d=>CM.ret (.d d) σ₂ λi g h b=>Bd b.C (h b) l (g b) i|.o kk=>CM.ret (.o kk) σ₂ λi g h b=>xk b.C (h b) l (g b) i
  |v=>CM.guard (KG v) λhb=>CM.bind (I.l c args σ₁) λds σ₂=>match v==.type "dict"with
   |true=>match ds with|[d]=>CM.orTD (λr=>CM.need (∀A:Around,A.handled=none->A.units+8<cLine->Io A (.type "dict") [d] r) (CM.guard (v==.type "dict") λk=>CM.ret (.d r) σ₂ λj g h b=>tK b.C (h b) hb (g b) (by rw[Ac.mp k];exact j _ b.hand b.units)))<|CM.opt (oP d) λits m=>CM.opt (g6 its []) λfin n=>CM.le its.length 16777216 (CM.guard (v==.type "dict") λk=>CM.ret (.d (.dict fin)) σ₂ λt g h b=>tK b.C (h b) hb (g b) (by rw[Ac.mp k];exact sy b.hand (i4 m) n t))|_=>CM.fail
   |false=>CM.orTD (λd=>CM.need (∀A:Around,A.handled=none->A.units+8<cLine->Bc A v ds d) (CM.ret (.d d) σ₂ λj g h b=>rR (h b) hb (g b) (j _ b.hand b.units)))<|CM.opt (MK v ds) λq e=>CM.needs q.2 (CM.ret (.d q.1) σ₂ λi g h b=>rR (h b) hb (g b) (Im b.hand e i))
 |_=>CM.fail
noncomputable def Hc(I:Eng)(c:Ct)(f:PySem.Str)(p:Pos)(x:PySem.Str)(n:Pos)(args:List Expr)(pos:Pos)(σ:Sig):CM DO (p2 c (.Call (.Name f p) (.Name x n::args) [] pos) σ):=CM.bind (I.d c (.Name f p) σ) λe σ₁=>match e with
 |.atom (.ref a)=>CM.guard (keepIn (cA w.params) (.ref a)&&eE x) λh=>match l:bq σ₁ x with
  |some (.o r s)=>CM.bind (I.l c args σ₁) λds σ₂=>match k:bq σ₂ x with|some (.o o q)=>Kw I c.k c.ask a o ds λd m=>CM.ret (.d d) (bO σ₂ x (.o m none)) λj i g b=>by simp only[A8]at h;rw[dA];exact zx b.C (g b) h.1 (dT b.O (gy l) (bY h.2)) (i b) (gy k) j|_=>CM.fail
  |_=>CM.fail
 |_=>CM.fail
noncomputable def rG(I:Eng)(c:Ct)(o:Expr)(name:PySem.Str)(g:Pos)(args:List Expr)(pos:Pos)(σ:Sig):CM DO (p2 c (.Call (.Attribute o name g) args [] pos) σ):=CM.guard (bV o g pos args) λj=>CM.bind (I.d c o σ) λd σ₁=>match d with
 |.inst C fs=>CM.opt (jz C name) λf m=>CM.guard (fs.lookup name).isNone λn=>CM.bind (I.l c args σ₁) λds σ₂=>MN I c.k c.ask f (.inst C fs::ds) λr=>match r with|.d d=>CM.ret (.d d) σ₂ λl b h a=>yj a.C (h a) m (by simpa using n) (b a) j l|.o kk=>CM.fail
 |.str x=>CM.bind (I.l c args σ₁) λds σ₂=>match ds with
  |[.str y]=>match hs:name==("startswith":PySem.Str)with|true=>CM.ret (.d (.bool (Txt.startswith x y))) σ₂ λb h a=>by have:=Ac.mp hs;subst this;exact tL (h a) PySem.F.slot_str_startswith PySem.F.type_str_startswith (b a) j xb|false=>CM.guard (name==("split":PySem.Str)&&re x y) λi=>CM.ret (.d (.list ((tR x y).map D.str))) σ₂ λb h a=>by rw[A8]at i;have:=Ac.mp i.1;subst this;exact tL (h a) PySem.F.slot_str_split PySem.F.type_str_split (b a) j (Bb i.2)
  |_=>CM.fail
 |.dict ps=>CM.bind (I.l c args σ₁) λds σ₂=>match ds with|[kd,f]=>CM.opt kd.isI λq e=>CM.guard (name==("get":PySem.Str)) λi=>CM.ret (.d ((dc ps q.1).getD f)) σ₂ λb h a=>by have:=Ac.mp i;subst this;exact rN (.inl ⟨_,rfl⟩) (h a) PySem.F.slot_dict_get PySem.F.type_dict_get (b a) j (Id e)|_=>CM.fail
 |.dictT ps=>CM.bind (I.l c args σ₁) λds σ₂=>match ds with|[.tuple k,f]=>CM.opt (D.ints k) λp e=>CM.guard (name==("get":PySem.Str)) λi=>CM.ret (.d ((s7 ps p).getD f)) σ₂ λb h a=>by have:=Ac.mp i;subst this;exact rN (.inr ⟨_,rfl⟩) (h a) PySem.F.slot_dict_get PySem.F.type_dict_get (b a) j (En a.units e)|_=>CM.fail
 |_=>CM.fail
noncomputable def Hw(I:Eng)(c:Ct)(x:PySem.Str)(u:Pos)(name:PySem.Str)(m:Pos)(args:List Expr)(pos:Pos)(σ:Sig):CM DO (p2 c (.Call (.Attribute (.Name x u) name m) args [] pos) σ):=CM.guard (bV (.Name x u) m pos args&&eE x) λh=>match g:bq σ x with
 |some (.o G J)=>match G,g with
  |.list n,g=>match args,h with
   |[],h=>CM.orO (λl k=>match k with|.list i=>CM.need (n=i++[l]) (CM.guard (name==("pop":PySem.Str)) λj=>CM.le i.length 16777215 (CM.ret (.d l) (bO σ x (.o (.list i) none)) λr s a=>by simp only[A8]at h;have:=Ac.mp j;subst this;subst s;rw[dA];exact zN a.O (bY h.2) (gy g) h.1 r))|_=>CM.fail)<|CM.opt (zq n) λ⟨(i,l),s⟩_=>CM.guard (name==("pop":PySem.Str)) λj=>CM.le i.length 16777215 (CM.ret (.d l) (bO σ x (.o (.list i) none)) λr a=>by simp only[A8]at h;have:=Ac.mp j;subst this;dsimp only at s;subst s;rw[dA];exact zN a.O (bY h.2) (gy g) h.1 r)|[e],h=>CM.bind (I.l c [e] σ) λds σ₁=>match ds with
    |[d]=>match b:bq σ₁ x with
     |some (.o (.list ds1) q)=>match hs:name==("append":PySem.Str)with|true=>CM.le ds1.length 16777216 (CM.ret (.d .none) (bO σ₁ x (.o (.list (ds1++[d])) none)) λr p a=>by simp only[A8]at h;have:=Ac.mp hs;subst this;rw[dA];exact wO a.O (bY h.2) (gy g) (p a) (gy b) h.1 r)|false=>CM.opt (oP d) λes A=>CM.guard (name==("extend":PySem.Str)&&Nat.ble (ds1.length+es.length) 4096) λj=>CM.ret (.d .none) (bO σ₁ x (.o (.list (ds1++es)) none)) λp a=>by simp only[A8]at h j;have:=Ac.mp j.1;subst this;rw[dA];exact xz a.O (bY h.2) (gy g) (p a) (i4 A) (gy b) h.1 j.2
     |_=>CM.fail
    |_=>CM.fail
   |_,_=>CM.fail
  |.dict n,g=>CM.bind (I.l c args σ) λds σ₁=>match ds with
   |[kd,f]=>CM.opt kd.isI λq e=>match b:bq σ₁ x with|some (.o (.dict ds1) _)=>CM.guard (name==("get":PySem.Str)) λj=>CM.askD λd=>CM.need ((dc ds1 q.1).getD f=d) (CM.ret (.d d) σ₁ λz p a=>by simp only[A8]at h;have:=Ac.mp j;subst this;rw[<-z];exact Cv a.O (bY h.2) (gy g) (p a) e (gy b) h.1)|_=>CM.fail
   |_=>CM.fail
  |.inst C fs,g=>CM.opt (jz C name) λf B=>CM.guard (fs.lookup name).isNone λE=>CM.bind (I.l c args σ) λds σ₁=>match b:bq σ₁ x with|some (.o (.inst C' t) q)=>if v:C'=C then Kw I c.k c.ask f (.inst C t) ds λd H=>CM.ret (.d d) (bO σ₁ x (.o H none)) λy p a=>by simp only[A8]at h;subst v;rw[dA];exact zJ a.C a.O (bY h.2) (gy g) B (by simpa using E) (p a) (gy b) h.1 y else CM.fail|_=>CM.fail
 |_=>CM.fail
noncomputable def HD(I:Eng)(c:Ct)(e:PySem.Str)(p:Pos)(name:PySem.Str)(a:Pos)(x:PySem.Str)(i:Pos)(args:List Expr)(pos:Pos)(σ:Sig):CM DO (p2 c (.Call (.Attribute (.Name e p) name a) (.Name x i::args) [] pos) σ):=CM.guard (bV (.Name e p) a pos (.Name x i::args)&&(gM args&&eE x)) λh=>CM.bind (I.d c (.Name e p) σ) λj σ₁=>match j with
 |.atom (.ref C)=>CM.opt (vA C name) λf n=>CM.guard (qR C f name&&handedIn (.ref f)) λg=>match s:bq σ₁ x with
  |some (.o u v)=>CM.bind (I.l c args σ₁) λds σ₂=>match r:bq σ₂ x with|some (.o o q)=>Kw I c.k c.ask f o ds λd t=>CM.ret (.d d) (bO σ₂ x (.o t none)) λm l k b=>by simp only[A8]at h g;rw[dA];exact D8 b.C b.O (k b) n g.1 g.2 h.1 (dT b.O (gy s) (bY h.2.2)) (l b) h.2.1 (gy r) m|_=>CM.fail
  |_=>CM.fail
 |_=>CM.fail
end
noncomputable def Fk:D->Bool|d=>D.at? d==some (.type "zip")
theorem zE(h:Fk d=true):d=.atom (.type "zip"):=by exact D.at?_eq (Ac.mp h)
noncomputable def Kl:Int->Option Nat|.ofNat n=>some n|_=>none
theorem Df(h:Kl i=some n):i=n:=by cases i<;>first|exact ca h|exact congrArg Int.ofNat (A0 h)
noncomputable def Jd:List D->Option Nat|[a,b,c]=>if a.int?=some 0 then if c.int?=some 1 then b.int?.bind Kl else none else none|_=>none
theorem E4(h:Jd ds=some n):ds=[.int 0,.int n,.int 1]:=by
 rcases ds with U|⟨U,U|⟨U,U|⟨U,U|⟨U,U⟩⟩⟩⟩<;>first|exact ca h|skip
 obtain⟨a,h⟩:=lR h;obtain⟨b,h⟩:=lR h;obtain⟨i,d,h⟩:=ew h;rw[D.int?_eq a,D.int?_eq b,D.int?_eq d,Df h]
noncomputable def BI(d:D):Option Nat:=match d with|.recd c ds=>if c="range"then Jd ds else none|_=>none
theorem qu(h:BI d=some n):d=.recd "range" [.int 0,ku false (n:Int),.int 1]:=by
 cases d<;>first|exact ca h|skip
 obtain⟨e,h⟩:=lR h;rw[E4 h,e];rfl
section
variable{c:Ct}{σ σ' σ₁ σ₂:Sig}
noncomputable def IF(I:Eng)(c:Ct)(target e:Expr)(σ:Sig):CM (List D) (MJ c target e σ):=CM.bind (I.d c e σ) λd σ₁=>match g:d.items with|some ds=>CM.ret ds σ₁ λh a=>qJ (h a) (s4 a.hand g)|none=>match hb:qQ d with|some v=>CM.ret (rB true v) σ₁ λh a=>qJ (h a) (by rw[nr hb];exact xf a.hand)|none=>CM.opt (BI d) λn f=>CM.orTD (λU=>CM.le n 16777216 (CM.ret (eI false n 0) σ₁ λb h a=>qJ (h a) (by rw[qu f];exact pZ a.hand b)))<|CM.guard (Nat.ble n 16777216) λb=>CM.ret (eI false n 0) σ₁ λh a=>qJ (h a) (by rw[qu f];exact pZ a.hand (Nat.le_of_ble_eq_true b))
noncomputable def ID(I:Eng)(c:Ct)(target e:Expr)(σ:Sig):CM (List D) (MJ c target e σ):=match target,e with
 |.Tuple t k1 p1,.Call (.Name f p) [b,d] [] pos=>match f==("zip":PySem.Str)with
  |true=>CM.bind (I.d c (.Name f p) σ) λi σ₁=>CM.guard (Fk i) λl=>CM.bind (I.l c [b,d] σ₁) λds σ₂=>match ds with|[g,d2]=>CM.opt g.seqK λn j=>CM.opt d2.seqK λq k=>CM.guard (!q.1) λm=>CM.ret (pD n.2 q.2) σ₂ λh' h a=>Ch a.hand (by rw[<-zE l];exact h a) (h' a) j (by rw[k];have:q.1=false:=(by simpa using m);rw[<-this])|_=>CM.fail
  |false=>IF I c (.Tuple t k1 p1) (.Call (.Name f p) [b,d] [] pos) σ
 |target,e=>IF I c target e σ
noncomputable def IR(scope sc:Scope):Scope:={scope with names:=scope.names.map λ(n,k)=>if(k==NameKind.free&&sc.kind==.function&&sc.names.lookup n==some .cell)=true then(n,NameKind.cell)else(n,k)}
theorem mR(scope:Scope)(env:Env):relabel scope env=IR scope env.scope:=rfl
noncomputable def qX:List PySem.Str->Bool|[]=>true|x::r=>!r.contains x&&qX r
theorem qs:∀{xs:List PySem.Str},qX xs=true->xs.Nodup|[],_=>List.nodup_nil|x::r,h=>by simp only[qX,A8,Bool.not_eq_true']at h;refine List.nodup_cons.mpr ⟨λm=>?_,qs h.2⟩;have:=h.1;rw[List.contains_iff_mem.mpr m]at this;cases this
noncomputable def fP(sc scope:Scope)(x:PySem.Str):Bool:=(bB scope.names).all (λn=>sc.names.lookup n==some .cell&&scope.names.lookup n==some .free)&&qX (bB scope.names)&&scope.names.all (λp=>p.2 !=.cell)&&scope.kind==.function&&scope.names.all (λp=>p.2 !=.local||scope.names.lookup p.1==some .local)&&scope.names.lookup x==some .local&&sc.kind==.function
theorem jH{names:List (PySem.Str×NameKind)}{f:PySem.Str×NameKind->PySem.Str×NameKind}(h:∀p,(f p).1=p.1)(x:PySem.Str):(names.map f).lookup x=((names.find? λp=>x==p.1).map λp=>(f p).2):=by induction names with|nil=>rfl|cons p r i=>
 rw[AS,List.find?_cons];have e:f p=(p.1,(f p).2):=by rw[<-h p]
 rw[e,AK];cases x==p.1 with|true=>rfl|false=>exact i
theorem s2{names:List (PySem.Str×NameKind)}(x:PySem.Str):names.lookup x=((names.find? λp=>x==p.1).map λp=>p.2):=by have:=jH (names:=names) (f:=id) (λU=>rfl) x;rw[List.map_id]at this;exact this
theorem vE{env:Env}{scope:Scope}{x:PySem.Str}(h:fP env.scope scope x=true)(u:∀y,env.scope.names.lookup y=some .cell->(env.cells.lookup y).isSome=true)(t:env.cells.Pairwise λx y=>x.2≠y.2):oH env scope x (eT env.cells scope.names []):=by
 unfold fP at h;simp only[A8,List.all_eq_true,Ac,bne_iff_ne,Bool.or_eq_true]at h;refine cI λG f=>?_;obtain⟨⟨⟨⟨⟨⟨b,k⟩,l⟩,m⟩,o⟩,r⟩,s⟩:=h;refine f ?_;have hs:∀y∈bB scope.names,(env.cells.lookup y).isSome=true:=λy a=>u y (b y a).1;have nd:=qs k;have A:=xH t (names:=scope.names) (cs:=[]) nd (λU U U=>A3) (λU U q=>by exact absurd q A3) List.Pairwise.nil;refine⟨uy hs,λy B e=>?_,A,l,m,λp d v=>(o p d).resolve_left λn=>n v,r⟩;have z:=mem_of_lookup e;have a:y∈bB scope.names/\(env.cells.lookup y).isSome=true:=by
  have:((eT env.cells scope.names []).lookup y).isSome=true:=by rw[e];rfl
  rcases lc.mp this with q|q;·exact Bool.noConfusion q
  ·exact q
 refine⟨(y4 z).resolve_left (λq=>by exact absurd q A3),(b y a.1).1,?_⟩;rw[mR];show(scope.names.map _).lookup y=_;rw[jH (λp=>by obtain⟨n,kd⟩:=p;dsimp only;split<;>rfl)];have i:=(b y a.1).2;rw[s2]at i;refine cI λG f=>?_;obtain⟨⟨n,kd⟩,d,g⟩:=AD.mp i;have g:kd=.free:=g;subst g;refine f ?_;rw[d];have j:y=n:=by have:=List.find?_some d;exact Ac.mp this
 subst j;show some (if(NameKind.free==NameKind.free&&env.scope.kind==.function&&env.scope.names.lookup y==some .cell)=true then(y,NameKind.cell)else(y,NameKind.free)).2=_;rw[s,(b y a.1).1];rfl
noncomputable def Fa(fr:List PySem.Str)(σ σi:Sig):Sig:=σi.filter (λp=>fr.contains p.1)++σ.filter (λp=>!fr.contains p.1)
theorem iR(p:PySem.Str->Bool)(σ:Sig)(y:PySem.Str):bq (σ.filter λq=>p q.1) y=if p y=true then bq σ y else none:=by induction σ with|nil=>simp[bq]|cons q r ih=>
 obtain⟨z,s⟩:=q;unfold bq at ih⊢;rw[List.filter_cons,AK]
 cases e:y==z with|true=>
  have:=Ac.mp e;subst this;by_cases h:p y=true;·rw[if_pos h,if_pos h,AK,e]
  ·rw[if_neg h,if_neg h,ih,if_neg h]|false=>
  by_cases h:p z=true;·rw[if_pos h,AK,e,ih]
  ·rw[if_neg h,ih]
theorem sY(a b:Sig)(y:PySem.Str):bq (a++b) y=match bq a y with|some s=>some s|none=>bq b y:=by induction a with|nil=>rfl|cons q r ih=>obtain⟨z,s⟩:=q;unfold bq at ih⊢;rw[List.cons_append,AK,AK];cases y==z with|true=>rfl|false=>exact ih
theorem sD(fr:List PySem.Str)(σ σi:Sig)(y:PySem.Str):bq (Fa fr σ σi) y=if fr.contains y=true then bq σi y else bq σ y:=by
 unfold Fa;rw[sY,iR (λy=>fr.contains y),iR (λy=>!fr.contains y)];by_cases h:fr.contains y=true;·rw[if_pos h,if_pos h,if_neg (by rw[h];decide)];cases bq σi y<;>rfl
 ·rw[if_neg h,if_neg h,if_pos (by simpa using h)]
noncomputable def vQ(fr:List PySem.Str)(σ σi:Sig):Bool:=fr.all λy=>match bq σi y with
 |some (.o _ _)=>match bq σ y with|some (.o _ _)=>true|_=>false
 |_=>true
noncomputable def M0(a:Fm c)(hk:fP c.sc scope x=true)(C:Addr):Fm ⟨c.k,IR scope c.sc,c.pn,c.ask⟩where
 A:=a.A;env:=compEnvC scope (eT a.env.cells scope.names []) C a.env;g:=a.g;π:=a.π;O:=⟨by unfold fP at hk;simp only[A8,Ac]at hk;exact hk.1.1.1.2,a.O.glob,a.O.blt⟩;C:=a.C;scope:=by show relabel scope a.env=_;rw[mR,a.scope]
 cells:=λy e=>by
  unfold fP at hk;simp only[A8,List.all_eq_true,Ac,bne_iff_ne,Bool.or_eq_true]at hk;obtain⟨⟨⟨⟨⟨⟨j,m⟩,l⟩,o⟩,r⟩,s⟩,t⟩:=hk;show((eT a.env.cells scope.names []).lookup y).isSome=true;have e:(scope.names.map λ(n,k)=>if(k==NameKind.free&&c.sc.kind==.function&&c.sc.names.lookup n==some .cell)=true then(n,NameKind.cell)else(n,k)).lookup y=some .cell:=e;rw[jH (λp=>by obtain⟨n,kd⟩:=p;dsimp only;split<;>rfl)]at e;obtain⟨⟨n,kd⟩,d,hk⟩:=AD.mp e;have i:y=n:=by have:=List.find?_some d;exact Ac.mp this
  subst i;have b:=List.mem_of_find?_eq_some d;have h:kd=.free:=by
   by_cases q:kd=.free;·exact q
   ·have hk:(if(kd==NameKind.free&&c.sc.kind==.function&&c.sc.names.lookup y==some .cell)=true then(y,NameKind.cell)else(y,kd)).2=.cell:=hk;rw[if_neg (by simp[q])]at hk;exact(l _ b hk).elim
  subst h;have f:y∈bB scope.names:=by unfold bB;exact Ag.mpr ⟨(y,.free),List.mem_filter.mpr ⟨b,rfl⟩,rfl⟩
  exact lc.mpr (.inr ⟨f,a.cells y (j y f).1⟩)
 pk:=a.pk
end
noncomputable abbrev wG(fr:List PySem.Str)(σ:Sig):Sig:=σ.filter λp=>fr.contains p.1
section
variable{c:Ct}{σ σ' σ₁ σ₂ σi':Sig}
theorem jc(a:Fm c)(hk:fP c.sc scope x=true)(y:PySem.Str):((eT a.env.cells scope.names []).lookup y).isSome=(bB scope.names).contains y:=by
 unfold fP at hk;simp only[A8,List.all_eq_true,Ac]at hk;refine Bool.eq_iff_iff.mpr ?_;rw[lc,List.contains_iff_mem];constructor
 · rintro(q|q);·exact Bool.noConfusion q
   ·exact q.1
 ·exactλq=>.inr ⟨q,a.cells y (hk.1.1.1.1.1.1 y q).1⟩
theorem qv(a:Fm c)(b:fP c.sc scope x=true)(ho:vQ (bB scope.names) σ₁ σi'=true):(∀y f,bq (pin a.π (wG (bB scope.names) σ₁)) y=some f->bq (pin a.π σ₁) y=some f/\((eT a.env.cells scope.names []).lookup y).isSome=true)/\(∀y,((eT a.env.cells scope.names []).lookup y).isSome=true->bq (pin a.π (Fa (bB scope.names) σ₁ σi')) y=bq (pin a.π σi') y)/\(∀y,((eT a.env.cells scope.names []).lookup y).isSome=false->bq (pin a.π (Fa (bB scope.names) σ₁ σi')) y=bq (pin a.π σ₁) y)/\∀y k p,((eT a.env.cells scope.names []).lookup y).isSome=true->bq (pin a.π σi') y=some (.o k p)->∃k' p',bq (pin a.π σ₁) y=some (.o k' p'):=by
 refine⟨λy f h=>?_,λy h=>?_,λy h=>?_,λy k p h e=>?_⟩
 · rw[jc a b];rw[dX,wG,iR (λy=>(bB scope.names).contains y)]at h;by_cases q:(bB scope.names).contains y=true;·rw[if_pos q,<-dX]at h;exact⟨h,q⟩
   ·rw[if_neg q]at h;exact ca h
 ·rw[jc a b]at h;rw[dX,dX,sD,if_pos h]
 ·rw[jc a b]at h;rw[dX,dX,sD,if_neg (by rw[h];decide)]
 ·rw[jc a b]at h;unfold vQ at ho;have:=List.all_eq_true.mp ho y (List.contains_iff_mem.mp h);rw[dX]at e⊢;cases q:bq σi' y with|none=>rw[q]at e;exact ca e|some s=>rw[q]at e this;cases s with|v d=>cases e|o k2 p2=>dsimp only at this;cases g:bq σ₁ y with|none=>rw[g]at this;exact Bool.noConfusion this|some i=>cases i with|v d=>rw[g]at this;exact Bool.noConfusion this|o j l=>exact⟨_,_,rfl⟩
noncomputable def IH(I:Eng)(c:Ct)(b:Expr)(x:PySem.Str)(p:Pos)(i:Expr)(d:List Expr)(scope:Scope)(pos:Pos)(σ:Sig):CM DO (p2 c (.ListComp b [⟨.Name x p,i,d,0⟩] scope pos) σ):=CM.guard (iG i&&fP c.sc scope x) λh=>CM.bind (ID I c (.Name x p) i σ) λds σ₁=>CM.bind (I.cp ⟨c.k,IR scope c.sc,c.pn,c.ask⟩ x d b ds (wG (bB scope.names) σ₁)) λes σi'=>CM.guard (vQ (bB scope.names) σ₁ σi') λj=>CM.le es.length 16777216 (CM.ret (.o (.list es)) (Fa (bB scope.names) σ₁ σi') λk f g a=>by rw[A8]at h;obtain⟨s1,m,s3,n⟩:=qv a h.2 j;intro l s H Q E R K;exact BX (scope:=scope) (cl:=eT a.env.cells scope.names []) (σi:=pin a.π (wG (bB scope.names) σ₁)) (σi':=pin a.π σi') (σ':=pin a.π (Fa (bB scope.names) σ₁ σi')) h.1 (g a) (vE (by rw[a.scope];exact h.2) (λy e=>a.cells y (by rw[<-a.scope];exact e)) (bD.apart R)) (λC=>f (M0 a h.2 C)) s1 m s3 n k l s H Q E R K)
noncomputable def Mi(I:Eng)(c:Ct)(i:List Expr)(σ:Sig):CM Bool (λb σ'=>∀a:Fm c,iy a.A a.env a.g i (pin a.π σ) b (pin a.π σ')):=match i with|[]=>CM.ret true σ λa=>⟨rfl,rfl⟩|[e]=>CM.bind (I.t c e σ) λb σ'=>CM.ret b σ' λh a=>h a|_=>CM.fail
noncomputable def FU(I:Eng)(c:Ct)(x:PySem.Str)(i:List Expr)(f:Expr)(ds:List D)(σ:Sig):CM (List D) (uT c x i f ds σ):=CM.orL (λes τ=>CM.need (uT c x i f ds σ es τ) (CM.ret es τ id))<|match ds with|[]=>CM.ret [] σ λg=>.nil|d::ds=>CM.bind (Mi I c i (bO σ x (.v d))) λb σ₁=>match b with|true=>CM.bind (I.d c f σ₁) λe σ₂=>CM.bind (I.cp c x i f ds σ₂) λes a=>CM.ret (e::es) a λj k h g=>.take (by rw[<-i3];exact h g) (k g) (j g)|false=>CM.bind (I.cp c x i f ds σ₁) λes a=>CM.ret es a λj h g=>.skip (by rw[<-i3];exact h g) (j g)
noncomputable def JT(x:PySem.Str):Option Addr:=match nsIn (cA w.params) mainGlobals x with|some (some (.ref a))=>some a|_=>none
noncomputable def Jf(σ:Sig)(x:PySem.Str):Bool:=match bq σ x with|some (.o _ _)=>true|_=>false
noncomputable def Ce:List Addr:=[1292]
noncomputable def IO(I:Eng)(c:Ct)(f:Expr)(args:List Expr)(pos:Pos)(σ:Sig):CM DO (p2 c (.Call f args [] pos) σ):=match f with
 |.Name g p=>match args with
  |.Name y e::rest=>match Jf σ y&&(match JT g with|some a=>Ce.contains a|none=>false)with|true=>Hc I c g p y e rest pos σ|false=>zc I c g p (.Name y e::rest) pos σ
  |args=>zc I c g p args pos σ
 |.Attribute o name b=>match o with
  |.Name x d=>match bq σ x with|some (.o _ _)=>Hw I c x d name b args pos σ|some (.v _)=>rG I c (.Name x d) name b args pos σ|none=>match args with
   |.Name y e::rest=>match Jf σ y with|true=>HD I c x d name b y e rest pos σ|false=>rG I c (.Name x d) name b (.Name y e::rest) pos σ
   |args=>rG I c (.Name x d) name b args pos σ
  |o=>rG I c o name b args pos σ
 |_=>CM.fail
noncomputable def IU(I:Eng)(c:Ct)(e:Expr)(σ:Sig):CM DO (p2 c e σ):=match e with|.Constant k n p=>GP c k n p σ|.Name x p=>CM.bind (Kv c x p σ) λd σ₁=>CM.ret (.d d) σ₁ λh m=>h m|.BinOp l a r p=>Lh I c l r a p σ|.UnaryOp a x p=>NR I c a x p σ|.BoolOp a es p=>CM.bind (I.b c p a es σ) λd σ₁=>CM.ret (.d d) σ₁ λh m=>x3 (h m)|.IfExp t q s p=>NU I c t q s p σ|.Compare l [a] [r] p=>LJ I c l r a p σ|.Call f args [] pos=>CM.orE (λd=>CM.need (pe c (.Call f args [] pos) σ d σ) (CM.ret (.d d) σ id)) (IO I c f args pos σ)|.Attribute o name p=>JV I c o name p σ|.Subscript l r p=>KQ I c l r p σ|.Slice lo u st p=>Gk I c lo u st p σ|.Tuple es n p=>GK I c es n p σ|.List es p=>IJ I c es p σ|.Dict b v p=>Jt c b v p σ|.ListComp g [⟨.Name x y,i,j,0⟩] scope pos=>IH I c g x y i j scope pos σ|_=>CM.fail
end
noncomputable def kl:Expr->Bool|.ListComp ..|.SetComp ..|.DictComp ..=>false|_=>true
theorem cR(h:kl e=true)(t:Option Expr)(l:Nat)(env:Env):swapsWith e t l env=pure false:=by cases e<;>first|rfl|exact Bool.noConfusion h
noncomputable def K9(sc scope:Scope)(x:PySem.Str)(p pos:Pos):Bool:=sc.kind==.function&&sc.names.lookup x==some .local&&p.line==pos.line&&!(scope.names.any λ(n,k)=>n==x&&(k==.local||k==.cell))
theorem zo(hs:env.scope=sc)(h:K9 sc scope x p pos=b)(a:sc.kind=.function):swapsWith (.ListComp e g scope pos) (some (.Name x p)) l env=pure b:=by
 have hb:env.blockKind=.function:=by unfold Env.blockKind;rw[hs,a];rfl
 show(pure (env.blockKind==.function&&env.kindOf x==some .local&&p.line==pos.line&&!(scope.names.any λ(n,k)=>n==x&&(k==.local||k==.cell))):Sem Bool)=_;rw[hb,show env.kindOf x=sc.names.lookup x from by unfold Env.kindOf;rw[hs],<-h];unfold K9;rw[a]
section
variable{c:Ct}{σ σ' σ₁ σ₂ σi':Sig}
theorem Fm.fn(a:Fm c):c.sc.kind=.function:=by rw[<-a.scope];exact a.O.kind
theorem I7(a:Fm c)(h:(!c.pn.contains x)=true):a.π x=none:=a.pk x (by simpa using h)
noncomputable def JX(I:Eng)(c:Ct)(y:PySem.Str)(l:Pos)(f:Expr)(x:PySem.Str)(p:Pos)(i:Expr)(g:List Expr)(scope:Scope)(pos k:Pos)(σ:Sig):CM Fl (ps c (.Assign [.Name y l] (.ListComp f [⟨.Name x p,i,g,0⟩] scope pos) k) σ):=CM.guard (iG i&&fP c.sc scope x&&(qg c.sc y&&!c.pn.contains y)) λb=>match j:K9 c.sc scope y l pos with|true=>CM.bind (ID I c (.Name x p) i σ) λds σ₁=>CM.bind (I.cp ⟨c.k,IR scope c.sc,c.pn,c.ask⟩ x g f ds (wG (bB scope.names) σ₁)) λes σi'=>CM.guard (vQ (bB scope.names) σ₁ σi') λu=>CM.le es.length 16777216 (CM.ret .next (bO (Fa (bB scope.names) σ₁ σi') y (.o (.list es) none)) λv q t a=>by simp only[A8]at b;obtain⟨s1,z,s3,A⟩:=qv a b.1.2 u;rw[dA,I7 a b.2.2];intro Y s H Q E R K;obtain⟨m,n,ad,R⟩:=R;exact pJ (scope:=scope) (cl:=eT a.env.cells scope.names []) (σi:=pin a.π (wG (bB scope.names) σ₁)) (σi':=pin a.π σi') (σ':=pin a.π (Fa (bB scope.names) σ₁ σi')) a.O b.1.1 (a.stor b.2.1) (zo a.scope j a.fn) (t a) (vE (by rw[a.scope];exact b.1.2) (λy e=>a.cells y (by rw[<-a.scope];exact e)) (bD.apart R)) (λC=>q (M0 a b.1.2 C)) s1 z s3 A v Y s H Q E ⟨m,n,ad,R⟩ K)|false=>CM.bind (I.e c (.ListComp f [⟨.Name x p,i,g,0⟩] scope pos) σ) λr σ₁=>match r with|.d d=>CM.fail|.o kk=>CM.ret .next (bO σ₁ y (.o kk none)) λh a=>by simp only[A8]at b;rw[dA,I7 a b.2.2];exact oT a.O (a.stor b.2.1) (h a) (zo a.scope j a.fn)
noncomputable def Jp(I:Eng)(c:Ct)(x:PySem.Str)(g:Pos)(e:Expr)(p:Pos)(σ:Sig):CM Fl (ps c (.Assign [.Name x g] e p) σ):=CM.guard (kl e&&qg c.sc x) λb=>CM.bind (I.e c e σ) λr σ₁=>match r with|.d d=>CM.ret .next (bO σ₁ x (.v d)) λh a=>by rw[A8]at b;rw[i3];exact wX a.O (a.stor b.2) (h a) (cR b.1 _ _ _)|.o kk=>CM.guard (!c.pn.contains x) λf=>CM.ret .next (bO σ₁ x (.o kk none)) λh a=>by rw[A8]at b;rw[dA,I7 a f];exact oT a.O (a.stor b.2) (h a) (cR b.1 _ _ _)
noncomputable def Kk(I:Eng)(c:Ct)(x:PySem.Str)(j:Pos)(name:PySem.Str)(i:Pos)(e:Expr)(p:Pos)(σ:Sig):CM Fl (ps c (.Assign [.Attribute (.Name x j) name i] e p) σ):=CM.guard (kl e&&eE x) λb=>CM.bind (I.d c e σ) λd σ₁=>match g:bq σ₁ x with|some (.o (.inst C fs) q)=>CM.guard (pW C name&&Nat.ble fs.length 900) λa=>CM.ret .next (bO σ₁ x (.o (.inst C (rJ fs name d)) none)) λh f=>by rw[A8]at b a;rw[dA];exact D0 f.C f.O (bY b.2) (h f) (gy g) a.1 a.2 (cR b.1 _ _ _)|_=>CM.fail
noncomputable def I6(I:Eng)(c:Ct)(x:PySem.Str)(n:Pos)(l:Expr)(m:Pos)(e:Expr)(p:Pos)(σ:Sig):CM Fl (ps c (.Assign [.Subscript (.Name x n) l m] e p) σ):=CM.guard (kl e&&eE x) λh=>CM.bind (I.d c e σ) λd σ₁=>match b:bq σ₁ x with
 |some (.o r s)=>CM.bind (I.d c l σ₁) λkd σ₂=>CM.opt kd.isI λq j=>match k:bq σ₂ x with|some (.o (.dict ds) _)=>CM.le ds.length 16777216 (CM.ret .next (bO σ₂ x (.o (.dict (bL ds q.1 d)) none)) λf i g a=>by rw[A8]at h;rw[dA];exact ER a.O (bY h.2) (g a) ⟨_,_,gy b⟩ (i a) j (gy k) f (cR h.1 _ _ _))|some (.o (.list ds) _)=>CM.need (0<=q.1/\q.1<ds.length/\ds.length<=16777216) (CM.ret .next (bO σ₂ x (.o (.list (ds.set q.1.toNat d)) none)) λf i g a=>by rw[A8]at h;rw[dA];exact C4 a.O (bY h.2) (g a) ⟨_,_,gy b⟩ (i a) j (gy k) f.1 f.2.1 f.2.2 (cR h.1 _ _ _))|_=>CM.fail
 |_=>CM.fail
noncomputable def jL(c:Ct)(xs:List PySem.Str):Bool:=xs.all λx=>qg c.sc x&&!c.pn.contains x
theorem eJ(a:Fm c)(h:jL c xs=true):(∀x∈xs,k6 a.env x)/\∀x∈xs,a.π x=none:=by unfold jL at h;rw[List.all_eq_true]at h;exact⟨λx b=>by have:=h x b;rw[A8]at this;exact a.stor this.1,λx b=>by have:=h x b;rw[A8]at this;exact I7 a this.2⟩
noncomputable def uh(is:List Slot):Bool:=is.all λs=>match s with|.o _ (some _)=>false|_=>true
theorem pS(h:uh is=true):∀s∈is,∀k p,s=.o k p->p=none:=by unfold uh at h;rw[List.all_eq_true]at h;rintro s hs k p rfl;have:=h _ hs;cases p with|none=>rfl|some _=>exact Bool.noConfusion this
noncomputable def Fo(σ:Sig)(xs:List PySem.Str)(is:List Slot)(s:Option (List PySem.Str)):Sig:=match s with|none=>fJ σ xs is|some _=>fJ σ xs.reverse is.reverse
noncomputable def JB(I:Eng)(c:Ct)(t:List Expr)(k1:Nat)(p1:Pos)(es:List Expr)(k2:Nat)(p2 p:Pos)(σ:Sig):CM Fl (ps c (.Assign [.Tuple t k1 p1] (.Tuple es k2 p2) p) σ):=CM.opt (f8 t) λxs f=>CM.guard (jL c xs) λe=>CM.bind (I.i c es σ) λis σ₁=>CM.opt (KK c.sc t es) λd i=>CM.guard (uh is&&(Nat.ble is.length 1000&&(is.length==xs.length&&(d==none||d==some xs)))) λb=>CM.ret .next (Fo σ₁ xs is d) λh a=>by simp only[A8,Ac,Bool.or_eq_true]at b;have g:=tZ (k1:=k1) (p1:=p1) (k2:=k2) (p2:=p2) (p:=p) a.O a.scope a.hand f (eJ a e).1 (h a) b.2.1 i b.2.2.1 b.2.2.2;unfold Fo;cases d with|none=>rw[ii (eJ a e).2 (pS b.1)];exact g|some ys=>rw[ii (λx f=>(eJ a e).2 x (List.mem_reverse.mp f)) (λs hs=>pS b.1 s (List.mem_reverse.mp hs))];exact g
noncomputable def Hx:D->Option (List D)|.tuple ds=>some ds|_=>none
theorem wA(h:Hx d=some ds):d=.tuple ds:=by cases d<;>first|exact ca h|exact congrArg D.tuple (A0 h)
theorem sG(ds:List D):∀s∈ds.map Slot.v,∀k p,s=.o k p->p=none:=by rintro s hs k p rfl;obtain⟨d,U,e⟩:=Ag.mp hs;exact nomatch e
noncomputable def Jm(I:Eng)(c:Ct)(t:List Expr)(k1:Nat)(p1:Pos)(f:Expr)(b:List Expr)(k:List Keyword)(p2 p:Pos)(σ:Sig):CM Fl (ps c (.Assign [.Tuple t k1 p1] (.Call f b k p2) p) σ):=CM.opt (f8 t) λxs j=>CM.guard (jL c xs) λe=>CM.bind (I.d c (.Call f b k p2) σ) λd σ₁=>CM.opt (Hx d) λds g=>CM.guard (ds.length==xs.length) λi=>CM.ret .next (fJ σ₁ xs (ds.map Slot.v)) λh a=>by rw[ii (eJ a e).2 (sG ds)];exact t6 a.O a.hand j (eJ a e).1 (by rw[<-wA g];exact h a) (Ac.mp i) rfl rfl
end
section
variable{c:Ct}{σ σ' σ₁ σ₂ σi':Sig}
noncomputable def L2(I:Eng)(c:Ct)(e:Expr)(p:Pos)(σ:Sig):CM Fl (ps c (.Return (some e) p) σ):=match e with
 |.Name x g=>match f:bq σ x with
  |some (.o kk q)=>match b:!c.pn.contains x&&eE x with|true=>CM.ret (.reto kk) σ λa=>by rw[A8]at b;have h:=gy (π:=a.π) f;rw[I7 a b.1]at h;exact uY a.O (bY b.2) h|false=>CM.fail
  |_=>CM.bind (I.d c (.Name x g) σ) λd σ₁=>CM.ret (.ret d) σ₁ λh a=>pO (h a)
 |e=>CM.bind (I.d c e σ) λd σ₁=>CM.ret (.ret d) σ₁ λh a=>pO (h a)
noncomputable def kO:Fl->Bool|.next=>true|_=>false
noncomputable def IS(I:Eng)(c:Ct)(st:Stmt)(σ:Sig):CM Fl (ps c st σ):=match st with
 |.Return (some e) p=>L2 I c e p σ|.Return none p=>CM.ret (.ret .none) σ λg=>tX|.Continue p=>CM.ret .cont σ λg=>EC|.If t C E p=>CM.bind (I.t c t σ) λb σ₁=>match b with|true=>CM.bind (I.ss c C σ₁) λf σ₂=>CM.ret f σ₂ λl k g=>FM (b:=true) (k g) (l g)|false=>CM.bind (I.ss c E σ₁) λf σ₂=>CM.ret f σ₂ λl k g=>FM (b:=false) (k g) (l g)
 |.Expr e p=>CM.guard (kl e) λG=>CM.bind (I.d c e σ) λd σ₁=>CM.ret .next σ₁ λh g=>Du (h g) g.inter (cR G _ _ _)|.Assign [.Name x j] (.ListComp o [⟨.Name y L,i,r,0⟩] scope pos) p=>JX I c x j o y L i r scope pos p σ|.Assign [.Name x j] e p=>Jp I c x j e p σ|.Assign [.Attribute (.Name x j) name s] e p=>Kk I c x j name s e p σ|.Assign [.Subscript (.Name x j) H s] e p=>I6 I c x j H s e p σ|.Assign [.Tuple u k1 p1] (.Tuple es k2 p2) p=>JB I c u k1 p1 es k2 p2 p σ|.Assign [.Tuple u k1 p1] (.Call f B J p2) p=>Jm I c u k1 p1 f B J p2 p σ|.For target i a [] p=>CM.guard (iG i) λq=>CM.bind (ID I c target i σ) λds σ₁=>CM.bind (I.fo c target a ds σ₁) λf σ₂=>CM.ret f σ₂ λl k g=>Hb q (k g) (l g)|.While m a [] p=>CM.bind (I.wh c m a σ) λf σ₂=>CM.ret f σ₂ λh g=>(h g).elim λn q=>yY q|.Try a (A::hs) [] [] p=>CM.bind (I.ss c a σ) λf σ₂=>CM.guard (!kO f) λv=>CM.ret f σ₂ λh g=>Bk (λz=>by rw[z]at v;cases v) (h g)|_=>CM.fail
noncomputable def Gf(I:Eng)(c:Ct)(s:List Stmt)(σ:Sig):CM Fl (Ic c s σ):=match s with|[]=>CM.ret .next σ λa=>DY|st::r=>CM.bind (I.s c st σ) λf σ₁=>match f with|.next=>CM.bind (I.ss c r σ₁) λf σ₂=>CM.ret f σ₂ λe b a=>sA (b a) (e a)|.ret d=>CM.ret (.ret d) σ₁ λh a=>iI (λz=>Bool.noConfusion (congrArg kO z)) (h a)|.reto k=>CM.ret (.reto k) σ₁ λh a=>iI (λz=>Bool.noConfusion (congrArg kO z)) (h a)|.cont=>CM.ret .cont σ₁ λh a=>iI (λz=>Bool.noConfusion (congrArg kO z)) (h a)|.brk=>CM.ret .brk σ₁ λh a=>iI (λz=>Bool.noConfusion (congrArg kO z)) (h a)
noncomputable def nV(c:Ct)(target:Expr)(d:D)(σ:Sig):CM Unit (λU σ₁=>∀a:Fm c,tV a.A a.env a.g target d (pin a.π σ) (pin a.π σ₁)):=match target with|.Name x p=>CM.guard (qg c.sc x) λhs=>CM.ret () (bO σ x (.v d)) λa=>by rw[i3];exact nv a.O (a.stor hs)|.Tuple t k1 p1=>CM.opt (f8 t) λxs f=>CM.guard (jL c xs) λh=>CM.opt (Hx d) λds b=>CM.guard (ds.length==xs.length) λe=>CM.ret () (fJ σ xs (ds.map Slot.v)) λa=>by rw[ii (eJ a h).2 (sG ds),wA b];exact xj a.O a.hand f (eJ a h).1 (Ac.mp e)|_=>CM.fail
noncomputable def Hh(I:Eng)(c:Ct)(target:Expr)(b:List Stmt)(ds:List D)(σ:Sig):CM Fl (x8 c target b ds σ):=CM.orW (λfl τ=>CM.need (x8 c target b ds σ fl τ) (CM.ret fl τ id))<|match ds with|[]=>CM.ret .next σ λe=>.nil|d::ds=>CM.bind (nV c target d σ) λU σ₁=>CM.bind (I.ss c b σ₁) λf σ₂=>match f with|.next=>CM.bind (I.fo c target b ds σ₂) λfl a=>CM.ret fl a λi g h e=>.next (h e) (g e) (.inl rfl) (i e)|.cont=>CM.bind (I.fo c target b ds σ₂) λfl a=>CM.ret fl a λi g h e=>.next (h e) (g e) (.inr rfl) (i e)|.ret r=>CM.ret (.ret r) σ₂ λg h e=>.ret (h e) (g e)|_=>CM.fail
noncomputable def HY(I:Eng)(c:Ct)(t:Expr)(a:List Stmt)(σ:Sig):CM Fl (um c t a σ):=CM.orW (λfl τ=>CM.need (um c t a σ fl τ) (CM.ret fl τ id))<|CM.bind (I.t c t σ) λb σ₁=>match b with|false=>CM.ret .next σ₁ λh e=>⟨0,.done (h e)⟩|true=>CM.bind (I.ss c a σ₁) λf σ₂=>match f with|.next=>CM.bind (I.wh c t a σ₂) λfl d=>CM.ret fl d λj i g e=>(j e).elim λn k=>⟨n+1,.next (g e) (i e) (.inl rfl) k⟩|.cont=>CM.bind (I.wh c t a σ₂) λfl d=>CM.ret fl d λj i g e=>(j e).elim λn k=>⟨n+1,.next (g e) (i e) (.inr rfl) k⟩|.ret r=>CM.ret (.ret r) σ₂ λi g e=>⟨0,.ret (g e) (i e)⟩|_=>CM.fail
end
noncomputable def cr:Nat->Eng|0=>Eng.none|n+1=>⟨IU (cr n),Ki (cr n),J4 (cr n),JP (cr n),Ji (cr n),G5 (cr n),IS (cr n),Gf (cr n),Hh (cr n),HY (cr n),FU (cr n)⟩
noncomputable def b8(n k:Nat)(ask:List Addr)(d:DC)(ds:List D)(o:List Orc):Option (Rs Fl (Ic ⟨k,d.sc,[],ask⟩ d.body (d.xs.zip ((ds++d.dds).map Slot.v)))):=(cr n).ss ⟨k,d.sc,[],ask⟩ d.body (d.xs.zip ((ds++d.dds).map Slot.v)) o
theorem bp{n k:Nat}{ask:List Addr}(a:DC){ds:List D}{o:List Orc}{d:D}{cl:List Claim}(f:a.n=ds.length)(h:(b8 n k ask a ds o).map (λr=>(r.a,r.c))=some (.ret d,cl))(b:bx cl):br (k+1) a.f ds d:=by obtain⟨r,e,q⟩:=AD.mp h;simp only[Prod.mk.injEq]at q;have:=r.h (by rw[q.2];exact b);rw[q.1]at this;exact nB a f this (.inl rfl)
theorem dF{n k:Nat}{ask:List Addr}(d:DC){ds:List D}{o:List Orc}{kk:js}{cl:List Claim}(b:d.n=ds.length)(h:(b8 n k ask d ds o).map (λr=>(r.a,r.c))=some (.reto kk,cl))(a:bx cl):bP (k+1) d.f ds kk:=by obtain⟨r,e,q⟩:=AD.mp h;simp only[Prod.mk.injEq]at q;have:=r.h (by rw[q.2];exact a);rw[q.1]at this;exact kA d b this
theorem rU{n k:Nat}{ask:List Addr}(d:DC){ds:List D}{o:List Orc}{kk:js}(a:d.n=ds.length)(h:(b8 n k ask d ds o).map (λr=>(r.a,r.c.all Claim.ok))=some (.reto kk,true)):bP (k+1) d.f ds kk:=by obtain⟨r,e,q⟩:=AD.mp h;simp only[Prod.mk.injEq]at q;have:=r.h (D3 q.2);rw[q.1]at this;exact kA d a this
noncomputable def fy(n:D)(r:PySem.Str×List PySem.Str×Int×Int×Int×Int×Int×Bool×List PySem.Str):D:=.inst 234 [("name",.str r.1),("kinds",.tuple (r.2.1.map D.str)),("opcode",.int r.2.2.1),("escape",.int r.2.2.2.1),("digit",.int r.2.2.2.2.1),("size",.int r.2.2.2.2.2.1),("must",.int r.2.2.2.2.2.2.1),("is_wide",.bool r.2.2.2.2.2.2.2.1),("number",n),("places",.tuple (r.2.2.2.2.2.2.2.2.map D.str))]
abbrev FormR:Type:=PySem.Str×List PySem.Str×Int×Int×Int×Int×Int×Bool×List PySem.Str
noncomputable def fr(n:PySem.Str)(k:List PySem.Str)(o es d s m:Int)(wd:Bool)(pl:List PySem.Str):FormR:=(n,k,o,es,d,s,m,wd,pl)
noncomputable def formRs:List FormR:=[fr "jmp" ["rel8"] 235 0 (-1) 0 0 false ["rel"],fr "jmp" ["rel32"] 233 0 (-1) 0 0 false ["rel"],fr "jmp" ["rm64"] 255 0 4 64 0 true ["rm"],fr "jo" ["rel8"] 112 0 (-1) 0 0 false ["rel"],fr "jo" ["rel32"] 128 1 (-1) 0 0 false ["rel"],fr "jno" ["rel8"] 113 0 (-1) 0 0 false ["rel"],fr "jno" ["rel32"] 129 1 (-1) 0 0 false ["rel"],fr "jb" ["rel8"] 114 0 (-1) 0 0 false ["rel"],fr "jb" ["rel32"] 130 1 (-1) 0 0 false ["rel"],fr "jae" ["rel8"] 115 0 (-1) 0 0 false ["rel"],fr "jae" ["rel32"] 131 1 (-1) 0 0 false ["rel"],fr "je" ["rel8"] 116 0 (-1) 0 0 false ["rel"],fr "je" ["rel32"] 132 1 (-1) 0 0 false ["rel"],fr "jne" ["rel8"] 117 0 (-1) 0 0 false ["rel"],fr "jne" ["rel32"] 133 1 (-1) 0 0 false ["rel"],fr "jbe" ["rel8"] 118 0 (-1) 0 0 false ["rel"],fr "jbe" ["rel32"] 134 1 (-1) 0 0 false ["rel"],fr "ja" ["rel8"] 119 0 (-1) 0 0 false ["rel"],fr "ja" ["rel32"] 135 1 (-1) 0 0 false ["rel"],fr "js" ["rel8"] 120 0 (-1) 0 0 false ["rel"],fr "js" ["rel32"] 136 1 (-1) 0 0 false ["rel"],fr "jns" ["rel8"] 121 0 (-1) 0 0 false ["rel"],fr "jns" ["rel32"] 137 1 (-1) 0 0 false ["rel"],fr "jp" ["rel8"] 122 0 (-1) 0 0 false ["rel"],fr "jp" ["rel32"] 138 1 (-1) 0 0 false ["rel"],fr "jnp" ["rel8"] 123 0 (-1) 0 0 false ["rel"],fr "jnp" ["rel32"] 139 1 (-1) 0 0 false ["rel"],fr "jl" ["rel8"] 124 0 (-1) 0 0 false ["rel"],fr "jl" ["rel32"] 140 1 (-1) 0 0 false ["rel"],fr "jge" ["rel8"] 125 0 (-1) 0 0 false ["rel"],fr "jge" ["rel32"] 141 1 (-1) 0 0 false ["rel"],fr "jle" ["rel8"] 126 0 (-1) 0 0 false ["rel"],fr "jle" ["rel32"] 142 1 (-1) 0 0 false ["rel"],fr "jg" ["rel8"] 127 0 (-1) 0 0 false ["rel"],fr "jg" ["rel32"] 143 1 (-1) 0 0 false ["rel"],fr "call" ["rel32"] 232 0 (-1) 0 0 false ["rel"],fr "call" ["rm64"] 255 0 2 64 0 true ["rm"],fr "ret" [] 195 0 (-1) 0 0 false [],fr "ret" ["uimm16"] 194 0 (-1) 0 0 false ["imm"],fr "leave" [] 201 0 (-1) 64 0 true [],fr "loopne" ["rel8"] 224 0 (-1) 0 0 false ["rel"],fr "loope" ["rel8"] 225 0 (-1) 0 0 false ["rel"],fr "loop" ["rel8"] 226 0 (-1) 0 0 false ["rel"],fr "jrcxz" ["rel8"] 227 0 (-1) 0 0 false ["rel"],fr "int3" [] 204 0 (-1) 0 0 false [],fr "int" ["uimm8"] 205 0 (-1) 0 0 false ["imm"],fr "hlt" [] 244 0 (-1) 0 0 false [],fr "ud2" [] 11 1 (-1) 0 0 false [],fr "syscall" [] 5 1 (-1) 0 0 false [],fr "cpuid" [] 162 1 (-1) 0 0 false [],fr "cmc" [] 245 0 (-1) 0 0 false [],fr "clc" [] 248 0 (-1) 0 0 false [],fr "stc" [] 249 0 (-1) 0 0 false [],fr "cld" [] 252 0 (-1) 0 0 false [],fr "std" [] 253 0 (-1) 0 0 false [],fr "movsb" [] 164 0 (-1) 8 0 false [],fr "movsw" [] 165 0 (-1) 16 0 false [],fr "movsd" [] 165 0 (-1) 32 0 false [],fr "movsq" [] 165 0 (-1) 64 0 false [],fr "cmpsb" [] 166 0 (-1) 8 0 false [],fr "cmpsw" [] 167 0 (-1) 16 0 false [],fr "cmpsd" [] 167 0 (-1) 32 0 false [],fr "cmpsq" [] 167 0 (-1) 64 0 false [],fr "stosb" [] 170 0 (-1) 8 0 false [],fr "stosw" [] 171 0 (-1) 16 0 false [],fr "stosd" [] 171 0 (-1) 32 0 false [],fr "stosq" [] 171 0 (-1) 64 0 false [],fr "lodsb" [] 172 0 (-1) 8 0 false [],fr "lodsw" [] 173 0 (-1) 16 0 false [],fr "lodsd" [] 173 0 (-1) 32 0 false [],fr "lodsq" [] 173 0 (-1) 64 0 false [],fr "scasb" [] 174 0 (-1) 8 0 false [],fr "scasw" [] 175 0 (-1) 16 0 false [],fr "scasd" [] 175 0 (-1) 32 0 false [],fr "scasq" [] 175 0 (-1) 64 0 false [],fr "nop" [] 144 0 (-1) 0 0 false [],fr "nop" ["rm16"] 31 1 0 16 0 false ["rm"],fr "nop" ["rm32"] 31 1 0 32 0 false ["rm"]]
theorem pu:bP 9 1018 [] (.list (formRs.map (fy (.int (-1))))):=rU (n:=120) (k:=8) (ask:=[]) (o:=[]) ik rfl (by kernel_rfl)
noncomputable def bR(r:FormR):List Int:=[r.2.2.2.2.2.2.1,r.2.2.2.1,r.2.2.1]
noncomputable def cN(acc:List (List Int×List FormR))(r:FormR):List (List Int×List FormR):=match acc with|[]=>[(bR r,[r])]|(k,a)::rest=>if k=bR r then(k,a++[r])::rest else(k,a)::cN rest r
noncomputable def q0:List (List Int×List FormR):=formRs.foldl cN []
noncomputable def bv:D:=.inst 1259 [("forms",.any),("by_name",.any),("by_code",.dictT (q0.map λp=>(p.1,.list (p.2.map (fy .any)))))]
noncomputable abbrev NN:Nat:=16777216
noncomputable def nF(v:Array UInt8)(i n:Int)(m:Nat):List Claim:=[.le v.size NN,.p (decide (i<v.size)=true),.p (0<=i/\i<v.size/\v.size<=NN/\((v.toList.getD i.toNat 0).toNat:Int)=n),.le v.size NN,.b true,.le 1 NN,.p (((KBy.picked v (some i) (some (i+1))).toList==[(15:UInt8)])=false),.le v.size NN,.p (decide (i>=v.size)=false),.p (0<=i/\i<v.size/\v.size<=NN/\((v.toList.getD i.toNat 0).toNat:Int)=n),.le 1 NN,.le 1 NN]
noncomputable def lK:D:=.inst 738 [("segment",.str ""),("is_data",.bool false),("repeat",.int 0),("is_lock",.bool false),("rex",.int (-1))]
noncomputable def fe(r:FormR)(ops:List D)(len:Int):D:=.inst 787 [("instruction",.inst 506 [("name",.str r.1),("operands",.tuple ops),("prefix",.str "")]),("length",.sym len),("form",fy .any r),("prefixes",lK)]
noncomputable def og(n:Int):List Orc:=[.b true,.d (.int n),.b false,.b false,.d (.int n)]
noncomputable def vU:FormR:=fr "nop" [] 144 0 (-1) 0 0 false []
noncomputable def wp:FormR:=fr "cld" [] 252 0 (-1) 0 0 false []
noncomputable def vR:FormR:=fr "ret" [] 195 0 (-1) 0 0 false []
noncomputable def v4:FormR:=fr "hlt" [] 244 0 (-1) 0 0 false []
noncomputable def sE:FormR:=fr "jmp" ["rel8"] 235 0 (-1) 0 0 false ["rel"]
noncomputable def By:FormR:=fr "je" ["rel8"] 116 0 (-1) 0 0 false ["rel"]
noncomputable def oB:FormR:=fr "loop" ["rel8"] 226 0 (-1) 0 0 false ["rel"]
noncomputable def oY:FormR:=fr "call" ["rel32"] 232 0 (-1) 0 0 false ["rel"]
noncomputable def eS(dist:Int):D:=.inst 400 [("kind",.str "rel"),("worth",.sym dist),("name",.str "")]
noncomputable def sW(v:Array UInt8)(i n wd dist:Int):List Claim:=nF v i n 1++[.le 1 NN,.le v.size NN,.le (KBy.picked v (some (i+1)) (some (i+1+wd))).size NN,.p (decide (((KBy.picked v (some (i+1)) (some (i+1+wd))).size:Int)<wd)=false),.p (br 6 120 [.bytes (KBy.picked v (some (i+1)) (some (i+1+wd)))] (.sym dist)),.le 0 NN,.p (decide (i+1+wd-i>15)=false),.le 1 NN]
section
variable{v:Array UInt8}{i:Int}
theorem CL:(b8 60 9 [] bF [bv,.bytes v,.sym i] (og 144++[.b false])).map (λr=>(r.a,r.c))=some (.ret (fe vU [] (i+1-i)),nF v i 144 0++[.le 0 NN,.p (decide (i+1-i>15)=false),.le 0 NN]):=by kernel_rfl
theorem Ds:(b8 60 9 [] bF [bv,.bytes v,.sym i] (og 252++[.b false])).map (λr=>(r.a,r.c))=some (.ret (fe wp [] (i+1-i)),nF v i 252 0++[.le 0 NN,.p (decide (i+1-i>15)=false),.le 0 NN]):=by kernel_rfl
theorem Ee:(b8 60 9 [] bF [bv,.bytes v,.sym i] (og 195++[.b false])).map (λr=>(r.a,r.c))=some (.ret (fe vR [] (i+1-i)),nF v i 195 0++[.le 0 NN,.p (decide (i+1-i>15)=false),.le 0 NN]):=by kernel_rfl
theorem Dv:(b8 60 9 [] bF [bv,.bytes v,.sym i] (og 244++[.b false])).map (λr=>(r.a,r.c))=some (.ret (fe v4 [] (i+1-i)),nF v i 244 0++[.le 0 NN,.p (decide (i+1-i>15)=false),.le 0 NN]):=by kernel_rfl
theorem C3(dist:Int):(b8 60 9 [120] bF [bv,.bytes v,.sym i] (og 235++[.b false,.d (.sym dist),.b false])).map (λr=>(r.a,r.c))=some (.ret (fe sE [eS dist] (i+1+1-i)),sW v i 235 1 dist):=by kernel_rfl
theorem Gw(dist:Int):(b8 60 9 [120] bF [bv,.bytes v,.sym i] (og 116++[.b false,.d (.sym dist),.b false])).map (λr=>(r.a,r.c))=some (.ret (fe By [eS dist] (i+1+1-i)),sW v i 116 1 dist):=by kernel_rfl
theorem zZ(dist:Int):(b8 60 9 [120] bF [bv,.bytes v,.sym i] (og 226++[.b false,.d (.sym dist),.b false])).map (λr=>(r.a,r.c))=some (.ret (fe oB [eS dist] (i+1+1-i)),sW v i 226 1 dist):=by kernel_rfl
theorem Al(dist:Int):(b8 60 9 [120] bF [bv,.bytes v,.sym i] (og 232++[.b false,.d (.sym dist),.b false])).map (λr=>(r.a,r.c))=some (.ret (fe oY [eS dist] (i+1+4-i)),sW v i 232 4 dist):=by kernel_rfl
end
theorem Bs{i:Int}{n j:Nat}(e:(if i<0 then i+(n:Int)else i)=(j:Int))(h:j<n):seqIndex? i n=some j:=by unfold seqIndex?;rw[e];exact if_pos (Bool.and_eq_true_iff.mpr ⟨AB (AP j),AB (Aa.2 h)⟩)
theorem GM{n j:Nat}(h:j<n):seqIndex? (j:Int) n=some j:=Bs (if_neg (Int.not_lt.2 (AP j))) h
theorem LP{i:Int}{n:Nat}(a:0<=i)(h:i<(n:Int)):seqIndex? i n=some i.toNat:=Bs ((if_neg (Int.not_lt.2 a)).trans (Int.toNat_of_nonneg a).symm) (Aa.1 ((Int.toNat_of_nonneg a).symm▸h))
theorem Lu{n:Nat}(h:n≠0):seqIndex? (-1) n=some (n-1):=Bs ((if_pos (by decide)).trans (by rw[Int.natCast_sub (Nat.pos_of_ne_zero h),Int.add_comm];rfl)) (Nat.sub_lt (Nat.pos_of_ne_zero h) Nat.one_pos)
theorem MI{x:Nat}(t:Nat)(a:x<t+t):(x:Int)/(t:Int)=1↔2*x>=t+t:=by
 rw[<-Int.natCast_ediv,<-Nat.two_mul];have b:0<t:=Nat.pos_of_ne_zero λz=>by subst z;exact Nat.not_lt_zero _ a
 refine⟨λh=>Ah 2 (Nat.le_of_not_lt λz=>?_),λh=>?_⟩;·rw[Nat.div_eq_of_lt z]at h;exact nomatch h
 ·have h:t<=x:=Nat.le_of_mul_le_mul_left h (by decide);rw[Nat.div_eq_of_lt_le (by rw[Nat.one_mul];exact h) (by rw[Nat.two_mul];exact a)];rfl
theorem iT(a b:Nat):Builtin.bitOr (a:Int) (b:Int)=((a|||b:Nat):Int):=by
 have h:∀n:Nat,Builtin.bitNot (Builtin.bitNot (n:Int))=(n:Int):=λn=>by unfold Builtin.bitNot;omega
 have c:∀n:Nat,decide (0<=Builtin.bitNot (n:Int))=false:=λn=>AI (by unfold Builtin.bitNot;omega);unfold Builtin.bitOr Builtin.bitAnd;rw[c,c];dsimp only;rw[h,h,h];rfl
theorem xC(a b:Nat):Builtin.bitAnd (a:Int) (b:Int)=((a&&&b:Nat):Int):=by unfold Builtin.bitAnd;rw[AB (AP a),AB (AP b)];rfl
noncomputable def xm(x m:Nat):Int:=if 2*x>=m then(x:Int)-m else x
theorem Fv:∀b:Fin 256,Builtin.Int.intBits ((b.val:Nat):Int)<=8:=by decide+kernel
theorem D1(b:UInt8):Builtin.Int.intBits ((b.toNat:Nat):Int)<=8:=Fv ⟨b.toNat,b.toNat_lt⟩
noncomputable def jn(bs:List Nat):Nat:=match bs with|[]=>0|b::r=>b+256*jn r
noncomputable abbrev HN(x:Int)(s:Nat):Int:=Builtin.bitAnd x (1*2^(8*((s:Nat):Int)).toNat-1)
noncomputable def F3(x:Int)(s:Nat)(n:Bool):List Claim:=[.le s NN,.p (IntMulOk 8 ((s:Nat):Int)),.p (0<=8*((s:Nat):Int)/\((Builtin.Int.intBits 1:Nat):Int)+8*((s:Nat):Int)<=2^27),.p (0<=8*((s:Nat):Int)-1),.p (((HN x s).fdiv (2^(8*((s:Nat):Int)-1).toNat)==1)=n)]++(match n with|true=>[.p (0<=8*((s:Nat):Int)/\((Builtin.Int.intBits 1:Nat):Int)+8*((s:Nat):Int)<=2^27)]|false=>[])
noncomputable def pU(x:Int)(s:Nat)(n:Bool):Int:=match n with|true=>HN x s-1*2^(8*((s:Nat):Int)).toNat|false=>HN x s
noncomputable abbrev sh(b:UInt8)(k:Int):Int:=((b.toNat:Nat):Int)*2^k.toNat
noncomputable abbrev uD(b:UInt8)(k:Int):Claim:=.p (0<=k/\((Builtin.Int.intBits ((b.toNat:Nat):Int):Nat):Int)+k<=2^27)
noncomputable abbrev w1(b0:UInt8):Int:=Builtin.bitOr 0 (sh b0 0)
noncomputable abbrev w4(b0 b a c:UInt8):Int:=Builtin.bitOr (Builtin.bitOr (Builtin.bitOr (Builtin.bitOr 0 (sh b0 0)) (sh b (0+8))) (sh a (0+8+8))) (sh c (0+8+8+8))
section
theorem C6(b0:UInt8):(b8 60 5 [] bJ [.bytes #[b0]] [.b false,.b true]).map (λr=>(r.a,r.c))=some (.ret (.sym (pU (w1 b0) (#[b0]).size true)),[.le 1 NN,.p (((((#[b0]).size:Nat):Int)==0)=false),uD b0 0]++F3 (w1 b0) (#[b0]).size true):=by kernel_rfl
theorem Cl(b0:UInt8):(b8 60 5 [] bJ [.bytes #[b0]] [.b false,.b false]).map (λr=>(r.a,r.c))=some (.ret (.sym (pU (w1 b0) (#[b0]).size false)),[.le 1 NN,.p (((((#[b0]).size:Nat):Int)==0)=false),uD b0 0]++F3 (w1 b0) (#[b0]).size false):=by kernel_rfl
theorem Cs(b0 a c d:UInt8):(b8 60 5 [] bJ [.bytes #[b0,a,c,d]] [.b false,.b true]).map (λr=>(r.a,r.c))=some (.ret (.sym (pU (w4 b0 a c d) (#[b0,a,c,d]).size true)),[.le 4 NN,.p (((((#[b0,a,c,d]).size:Nat):Int)==0)=false),uD b0 0,uD a (0+8),uD c (0+8+8),uD d (0+8+8+8)]++F3 (w4 b0 a c d) (#[b0,a,c,d]).size true):=by kernel_rfl
theorem ES(b0 a c d:UInt8):(b8 60 5 [] bJ [.bytes #[b0,a,c,d]] [.b false,.b false]).map (λr=>(r.a,r.c))=some (.ret (.sym (pU (w4 b0 a c d) (#[b0,a,c,d]).size false)),[.le 4 NN,.p (((((#[b0,a,c,d]).size:Nat):Int)==0)=false),uD b0 0,uD a (0+8),uD c (0+8+8),uD d (0+8+8+8)]++F3 (w4 b0 a c d) (#[b0,a,c,d]).size false):=by kernel_rfl
theorem J9:Builtin.Int.intBits 1=1:=by decide+kernel
theorem Fb(n:Int):IntMulOk 8 n:=.of_left (by decide+kernel)
theorem BR{x s:Nat}(d:x<256^s)(c:s=1\/s=4):bx (F3 (x:Int) s (decide (2*x>=256^s)))/\pU (x:Int) s (decide (2*x>=256^s))=xm x (256^s):=by
 have e:(8*((s:Nat):Int)).toNat=8*s:=by exact rfl
 have i:(1:Int)*2^(8*((s:Nat):Int)).toNat-1=((2^(8*s)-1:Nat):Int):=by
   rw[e,Int.one_mul];have:0<2^(8*s):=Nat.pos_of_ne_zero (by simp);have f:((2^(8*s):Nat):Int)=(2:Int)^(8*s):=by norm_cast
   rw[<-f];generalize 2^(8*s)=t at this⊢;exact(Int.natCast_sub this).symm
 have p:2^(8*s)=256^s:=by rw[Nat.pow_mul]
 have b:HN (x:Int) s=(x:Int):=by unfold HN;rw[i,xC,Nat.and_two_pow_sub_one_eq_mod,p,Nat.mod_eq_of_lt d]
 have g:((HN (x:Int) s).fdiv (2^(8*((s:Nat):Int)-1).toNat)==1)=decide (2*x>=256^s):=by
   rw[b];refine Bool.eq_iff_iff.mpr ?_;rw[Ac,decide_eq_true_iff];rcases c with rfl|rfl;·show Int.fdiv (x:Int) (2^7)=1↔_;rw[Int.fdiv_eq_ediv_of_nonneg _ (by decide)];exact MI (2^7) d
   ·show Int.fdiv (x:Int) (2^31)=1↔_;rw[Int.fdiv_eq_ediv_of_nonneg _ (by decide)];exact MI (2^31) d
 have hb:0<=8*((s:Nat):Int)/\((Builtin.Int.intBits 1:Nat):Int)+8*((s:Nat):Int)<=2^27:=by rw[J9];rcases c with rfl|rfl<;>decide
 have hs:s<=NN:=by rcases c with rfl|rfl<;>decide
 have a:0<=8*((s:Nat):Int)-1:=by rcases c with rfl|rfl<;>decide
 refine⟨?_,?_⟩
 · have k:∀n,((HN (x:Int) s).fdiv (2^(8*((s:Nat):Int)-1).toNat)==1)=n->bx (F3 (x:Int) s n):=by intro n h;unfold F3;cases n with|true=>exact⟨hs,Fb _,hb,a,h,hb,trivial⟩|false=>exact⟨hs,Fb _,hb,a,h,trivial⟩
   exact k _ g
 · unfold xm pU;by_cases h:2*x>=256^s
   · rw[if_pos h,AB h];dsimp only;rw[b,e,Int.one_mul];have:((2^(8*s):Nat):Int)=(2:Int)^(8*s):=by norm_cast
     rw[<-this,p]
   ·rw[if_neg h,AI h];exact b
theorem tD(b:UInt8)(k:Nat):sh b (k:Int)=((b.toNat*2^k:Nat):Int):=by unfold sh;rw[Int.toNat_natCast];norm_cast
theorem t8(h:b<2^k):b|||a*2^k=b+a*2^k:=by rw[Nat.or_comm,Nat.mul_comm,<-Nat.two_pow_add_eq_or_of_lt h,Nat.add_comm]
theorem JG(b0:UInt8):w1 b0=((jn [b0.toNat]:Nat):Int):=by unfold w1;have:=tD b0 0;rw[show((0:Nat):Int)=(0:Int)from rfl]at this;rw[this,show(0:Int)=((0:Nat):Int)from rfl,iT];simp[jn]
theorem JE(b0 b a c:UInt8):w4 b0 b a c=((jn [b0.toNat,b.toNat,a.toNat,c.toNat]:Nat):Int):=by have h:=b0.toNat_lt;have i:=b.toNat_lt;have j:=a.toNat_lt;have l:=c.toNat_lt;unfold w4;have e:=tD b0 0;have d:=tD b 8;have f:=tD a 16;have g:=tD c 24;rw[show((0:Nat):Int)=(0:Int)from rfl]at e;rw[show sh b (0+8)=_ from d,show sh a (0+8+8)=_ from f,show sh c (0+8+8+8)=_ from g,e,show(0:Int)=((0:Nat):Int)from rfl,iT,iT,iT,iT,Nat.zero_or];rw[show b0.toNat*2^0=b0.toNat from by omega,t8 (k:=8) (by assumption),t8 (k:=16) (by omega),t8 (k:=24) (by omega)];simp only[jn];congr 1;omega
theorem n9(b:UInt8)(k:Nat)(h:k<=24):0<=((k:Nat):Int)/\((Builtin.Int.intBits ((b.toNat:Nat):Int):Nat):Int)+(k:Int)<=2^27:=by
 have:=D1 b;refine⟨by exact AP _,?_⟩;have:((2:Int)^27)=134217728:=by decide
 exact Int.le_trans (Int.add_le_add (Ab.2 (by assumption)) (Ab.2 h)) (by decide)
theorem LX(b0:UInt8):br 6 120 [.bytes #[b0]] (.sym (xm (jn [b0.toNat]) 256)):=by
 have d:jn [b0.toNat]<256^1:=by have:=b0.toNat_lt;simp only[jn];assumption
 obtain⟨c,a⟩:=BR d (.inl rfl);rw[<-JG]at c a;have h:bx ([.le 1 NN,.p (((((#[b0]).size:Nat):Int)==0)=false),uD b0 0]):=⟨by show 1<=16777216;decide,by show(((1:Nat):Int)==0)=false;decide,n9 b0 0 (by decide),trivial⟩;have k:∀n,decide (2*jn [b0.toNat]>=256^1)=n->br 6 120 [.bytes #[b0]] (.sym (xm (jn [b0.toNat]) 256)):=by intro n b;rw[b]at c a;rw[show(256:Nat)=256^1 from rfl,<-a];cases n with|true=>exact bp bJ rfl (C6 b0) (bx.app.mpr ⟨h,c⟩)|false=>exact bp bJ rfl (Cl b0) (bx.app.mpr ⟨h,c⟩)
 exact k _ rfl
theorem Mg(b0 b a c:UInt8):br 6 120 [.bytes #[b0,b,a,c]] (.sym (xm (jn [b0.toNat,b.toNat,a.toNat,c.toNat]) (256^4))):=by
 have g:=b0.toNat_lt;have i:=b.toNat_lt;have j:=a.toNat_lt;have l:=c.toNat_lt;have o:jn [b0.toNat,b.toNat,a.toNat,c.toNat]<256^4:=by simp only[jn];exact hb g (hb i (hb j (hb (k:=1) l (by decide))))
 obtain⟨d,e⟩:=BR o (.inr rfl);rw[<-JE]at d e;have h:bx ([.le 4 NN,.p (((((#[b0,b,a,c]).size:Nat):Int)==0)=false),uD b0 0,uD b (0+8),uD a (0+8+8),uD c (0+8+8+8)]):=⟨by show 4<=16777216;decide,by show(((4:Nat):Int)==0)=false;decide,n9 b0 0 (by decide),n9 b 8 (by decide),n9 a 16 (by decide),n9 c 24 (by decide),trivial⟩;have f:∀n,decide (2*jn [b0.toNat,b.toNat,a.toNat,c.toNat]>=256^4)=n->br 6 120 [.bytes #[b0,b,a,c]] (.sym (xm (jn [b0.toNat,b.toNat,a.toNat,c.toNat]) (256^4))):=by intro n m;rw[m]at d e;rw[<-e];cases n with|true=>exact bp bJ rfl (Cs b0 b a c) (bx.app.mpr ⟨h,d⟩)|false=>exact bp bJ rfl (ES b0 b a c) (bx.app.mpr ⟨h,d⟩)
 exact f _ rfl
end
theorem Cx.down{k:Nat}{A:Around}{g:Gr}{fr:Option Addr}(x:Cx (k+1) A g fr):Cx k A g fr:=⟨x.below,x.good,x.hand,by have:=x.depth;exact A1 (Ad (Ah _ (AV _)) _) this,by have:=x.units;exact A1 (Ad (Ah _ (AV _)) _) this⟩
theorem br.up(h:br k f ds d):br (k+1) f ds d:=λA g fr s X args R C=>h A g fr s X args R C.down
theorem cS.up(h:cS k f ds):cS (k+1) f ds:=λA g fr s X args R C=>h A g fr s X args R C.down
theorem br.ups(h:br k f ds d):∀m,br (k+m) f ds d|0=>h|m+1=>(h.ups m).up
theorem cS.ups(h:cS k f ds):∀m,cS (k+m) f ds|0=>h|m+1=>(h.ups m).up
noncomputable def bT(σ:Sig):Bool:=σ.all λp=>match p.2 with|.o _ (some _)=>false|_=>true
theorem eO:∀{σ:Sig},bT σ=true->pin (λU=>none) σ=σ:=by intro z;induction z with|nil=>intro _;exact rfl|cons a r i=>obtain⟨x,s⟩:=a;intro h;unfold bT at h;rw[List.all_cons,A8]at h;show(x,_)::pin (λU=>none) r=_;rw[i h.2];cases s with|v d=>rfl|o k p=>cases p with|none=>rfl|some q=>exact absurd h.1 (by simp)
noncomputable abbrev tU(B:Rn k sc A env g)(ask:List Addr):Fm ⟨k,sc,[],ask⟩:=yp B rfl [] ask (λU=>none) λU U=>rfl
section
variable{k n:Nat}{sc:Scope}{A:Around}{env:Env}{g:Gr}{ask:List Addr}{σ τ:Sig}{o:List Orc}{cl:List Claim}{P:Heap->Heap->Addr->Prop}
theorem ry(B:Rn k sc A env g)(h:((cr n).t ⟨k,sc,[],ask⟩ e σ o).map (λr=>(r.a,r.σ,r.c))=some (b,τ,cl))(i:bx cl)(d:bT σ=true)(f:bT τ=true):Tr A env g e σ b τ:=by obtain⟨r,j,q⟩:=AD.mp h;simp only[Prod.mk.injEq]at q;have:=r.h (by rw[q.2.2];exact i) (tU B ask);rw[q.1,q.2.1]at this;have a:=eO d;have c:=eO f;rw[show pin (tU B ask).π σ=σ from a,show pin (tU B ask).π τ=τ from c]at this;exact this
theorem tj(B:Rn k sc A env g)(h:(ID (cr n) ⟨k,sc,[],ask⟩ t e σ o).map (λr=>(r.a,r.σ,r.c))=some (ds,τ,cl))(f:bx cl)(c:bT σ=true)(d:bT τ=true):Er A env g t e σ ds τ:=by obtain⟨r,i,q⟩:=AD.mp h;simp only[Prod.mk.injEq]at q;have:=r.h (by rw[q.2.2];exact f) (tU B ask);rw[q.1,q.2.1]at this;have a:=eO c;have b:=eO d;rw[show pin (tU B ask).π σ=σ from a,show pin (tU B ask).π τ=τ from b]at this;exact this
theorem jA{st:Stmt}{fl:Fl}(B:Rn k sc A env g)(h:((cr n).s ⟨k,sc,[],ask⟩ st σ o).map (λr=>(r.a,r.σ,r.c))=some (fl,τ,cl))(f:bx cl)(c:bT σ=true)(d:bT τ=true):kx A env g st σ fl τ:=by obtain⟨r,e,q⟩:=AD.mp h;simp only[Prod.mk.injEq]at q;have:=r.h (by rw[q.2.2];exact f) (tU B ask);rw[q.1,q.2.1]at this;have a:=eO c;have b:=eO d;rw[show pin (tU B ask).π σ=σ from a,show pin (tU B ask).π τ=τ from b]at this;exact this
theorem Ar(B:Rn k sc A env g)(hs:sc.names.lookup ("DecodeError":PySem.Str)=some .globalImplicit)(h:nsIn (cA w.params) mainGlobals "DecodeError"=some (some (.ref 83))):Ev A env g (.Name "DecodeError" p) σ (.atom (.ref 83)) σ:=g1 B.O B.C (by unfold Env.kindOf;rw[B.scope];exact hs) h rfl
theorem vc:nsIn (cA w.params) mainGlobals "DecodeError"=some (some (.ref 83)):=by kernel_rfl
noncomputable def kj(i a:Int):D:=.inst 843 [("begin",.sym i),("prefixes",lK),("code_at",.sym i),("w",.int 0),("r",.int 0),("x",.int 0),("b",.int 0),("escape",.int 0),("opcode",.int a),("must",.int 0),("modrm_at",.sym (i+1)),("mod",.int (-1)),("reg",.int 0),("rm",.int 0),("sib",.int (-1)),("disp",.int 0),("width",.int 0),("rest_at",.sym (i+1))]
def jm(P:Nat->Pos)(S:Nat->Stmt)(M:Nat->PySem.Str)(N:Nat->Nat):Prop:=(bz (kT 85))=[(S 0),.Raise (some (.Call (.Name "DecodeError" (P 0)) [.Constant (.str (M 0)) (N 0) (P 1)] [] (P 2))) none (P 3)]/\(S 0)=((bz (kT 85))[0]?).getD (.Pass (P 0))
theorem eB:∃P S M N,jm P S M N:=⟨nP [_,_,_,_],nd [_],nd [_],nd [_],rfl,rfl⟩
noncomputable def Nz:Nat->Pos:=eB.choose
noncomputable def Nu:Nat->Stmt:=eB.choose_spec.choose
noncomputable def NT:Nat->PySem.Str:=eB.choose_spec.choose_spec.choose
noncomputable def pkN:Nat->Nat:=eB.choose_spec.choose_spec.choose_spec.choose
theorem jV:jm Nz Nu NT pkN:=eB.choose_spec.choose_spec.choose_spec.choose_spec
theorem eh(f:D):cS 3 873 [.slist [],f]:=by refine cw (k:=2) iw rfl λA env g B e=>?_;rw[show iw.body=bz (kT 85)from rfl,jV.1];refine eR (σ₁:=[("forms",.v (.slist [])),("frame",.v f)]) ?_ (bU (o9.mono (pN B.C (Ar B (by kernel_rfl) (vc)) (.cons rfl (uB _ _ _) .nil)) λU U U z=>.inl z));rw[jV.2];exact jA (n:=20) (o:=[]) (ask:=[]) (cl:=[]) B (by kernel_rfl) trivial rfl rfl
end
noncomputable def cJ(b:List Stmt)(i:Nat)(p:Pos):Stmt:=(b[i]?).getD (.Pass p)
noncomputable def Kb(s:Stmt)(p:Pos):PySem.Expr:=match s with|.If t _ _ _=>t|_=>.Name "" p
noncomputable def pg(s:Stmt):List Stmt:=match s with|.If _ _ b _=>b|_=>[]
section
def kt(P:Nat->Pos)(X:Nat->PySem.Expr)(S:Nat->Stmt)(B:Nat->List Stmt)(M:Nat->PySem.Str)(N:Nat->Nat):Prop:=(bz (kT 91))=[(S 0),.If (X 0) [.Raise (some (.Call (.Name "DecodeError" (P 0)) [.Constant (.str (M 0)) (N 0) (P 1)] [] (P 2))) none (P 3)] (B 0) (P 4),(S 1)]/\(S 0)=cJ (bz (kT 91)) 0 (P 0)/\(X 0)=Kb (cJ (bz (kT 91)) 1 (P 0)) (P 0)
theorem dG:∃P X S B M N,kt P X S B M N:=⟨nP [_,_,_,_,_],nd [_],nd [_,_],nd [_],nd [_],nd [_],rfl,rfl,rfl⟩
noncomputable def Np:Nat->Pos:=dG.choose
noncomputable def NJ:Nat->PySem.Expr:=dG.choose_spec.choose
noncomputable def M5:Nat->Stmt:=dG.choose_spec.choose_spec.choose
noncomputable def NM:Nat->List Stmt:=dG.choose_spec.choose_spec.choose_spec.choose
noncomputable def Nd:Nat->PySem.Str:=dG.choose_spec.choose_spec.choose_spec.choose_spec.choose
noncomputable def fsN:Nat->Nat:=dG.choose_spec.choose_spec.choose_spec.choose_spec.choose_spec.choose
theorem iN:kt Np NJ M5 NM Nd fsN:=dG.choose_spec.choose_spec.choose_spec.choose_spec.choose_spec.choose_spec
theorem lE(a:v.size<=NN)(h:decide (((KBy.picked v (some i) (some (i+wd))).size:Int)<wd)=true):cS 3 915 [.bytes v,.sym i,.int wd]:=by
 refine cw (k:=2) gV rfl λA env g B e=>?_;rw[show gV.body=bz (kT 91)from rfl,iN.1];refine eR (σ₁:=[("octets",.v (.bytes v)),("at",.v (.sym i)),("width",.v (.int wd)),("field",.v (.bytes (KBy.picked v (some i) (some (i+wd)))))]) ?_ (bU (ib (b:=true) (σ₁:=[("octets",.v (.bytes v)),("at",.v (.sym i)),("width",.v (.int wd)),("field",.v (.bytes (KBy.picked v (some i) (some (i+wd)))))]) ?_ (bU (o9.mono (pN B.C (Ar B (by kernel_rfl) (vc)) (.cons rfl (uB _ _ _) .nil)) λU U U z=>.inl z))));·rw[iN.2.1];exact jA (n:=20) (o:=[]) (ask:=[]) (cl:=[.le v.size NN]) B (by kernel_rfl) ⟨a,trivial⟩ rfl rfl
 ·rw[iN.2.2];exact ry (n:=20) (o:=[.b true]) (ask:=[]) (cl:=[.le (KBy.picked v (some i) (some (i+wd))).size NN,.p (decide (((KBy.picked v (some i) (some (i+wd))).size:Int)<wd)=true)]) B (by kernel_rfl) ⟨A1 (KBc.size_picked_le _ _ _) a,h,trivial⟩ rfl rfl
end
inductive fc(A:Around)(env:Env)(g:Gr):List Stmt->Sig->Sig->Prop|nil{σ:Sig}:fc A env g [] σ σ|cons{st:Stmt}{r:List Stmt}{σ σ₁ τ:Sig}:kx A env g st σ .next σ₁->fc A env g r σ₁ τ->fc A env g (st::r) σ τ
noncomputable def dj(I:Eng)(c:Ct):(s:List Stmt)->(σ:Sig)->CM Unit (λU τ=>∀a:Fm c,fc a.A a.env a.g s (pin a.π σ) (pin a.π τ))|[],σ=>CM.ret () σ λa=>.nil|st::r,σ=>CM.bind (I.s c st σ) λf σ₁=>match f with|.next=>CM.bind (dj I c r σ₁) λU τ=>CM.ret () τ λb h a=>.cons (h a) (b a)|_=>CM.fail
section
variable{k n:Nat}{sc:Scope}{A:Around}{env:Env}{g:Gr}{ask:List Addr}{σ τ:Sig}{o:List Orc}{cl:List Claim}{P:Heap->Heap->Addr->Prop}
theorem fL(b:fc A env g p σ τ)(a:qA A env g r τ P):qA A env g (p++r) σ P:=by induction b with|nil=>exact a|cons h _ i=>exact eR h (i a)
theorem dz(b:fc A env g p σ τ)(a:dW A env g r τ fl σ'):dW A env g (p++r) σ fl σ':=by induction b with|nil=>exact a|cons h _ i=>exact sA h (i a)
theorem fA(B:Rn k sc A env g)(h:(dj (cr n) ⟨k,sc,[],ask⟩ s σ o).map (λr=>(r.σ,r.c))=some (τ,cl))(f:bx cl)(c:bT σ=true)(d:bT τ=true):fc A env g s σ τ:=by obtain⟨r,e,q⟩:=AD.mp h;simp only[Prod.mk.injEq]at q;have:=r.h (by rw[q.2];exact f) (tU B ask);rw[q.1]at this;have a:=eO c;have b:=eO d;rw[show pin (tU B ask).π σ=σ from a,show pin (tU B ask).π τ=τ from b]at this;exact this
theorem sS(B:Rn k sc A env g)(h:(nV ⟨k,sc,[],ask⟩ t d σ o).map (λr=>(r.σ,r.c))=some (τ,cl))(i:bx cl)(c:bT σ=true)(f:bT τ=true):tV A env g t d σ τ:=by obtain⟨r,e,q⟩:=AD.mp h;simp only[Prod.mk.injEq]at q;have:=r.h (by rw[q.2];exact i) (tU B ask);rw[q.1]at this;have a:=eO c;have b:=eO f;rw[show pin (tU B ask).π σ=σ from a,show pin (tU B ask).π τ=τ from b]at this;exact this
theorem gZ(B:Rn k sc A env g)(hs:sc.names.lookup x=some .globalImplicit)(b:nsIn (cA w.params) mainGlobals x=some (some (.ref a)))(h:(x==("__debug__":PySem.Str))=false):Ev A env g (.Name x p) σ (.atom (.ref a)) σ:=g1 B.O B.C (by unfold Env.kindOf;rw[B.scope];exact hs) b h
def lF(P:Nat->Pos)(N:Nat->Nat):Prop:=(bz (kT 96))=(bz (kT 96)).take 6++[.Return (some (.Tuple [.Name "frame" (P 0),.Call (.Name "picked" (P 1)) [.Name "forms" (P 2),.Name "frame" (P 3)] [] (P 4)] (N 0) (P 5))) (P 6)]
theorem iu:∃P N,lF P N:=⟨nP [_,_,_,_,_,_,_],nd [_],rfl⟩
noncomputable def NP:Nat->Pos:=iu.choose
noncomputable def rsN:Nat->Nat:=iu.choose_spec.choose
theorem fG:lF NP rsN:=iu.choose_spec.choose_spec
noncomputable def wH(i a:Int):List (PySem.Str×D):=match kj i a with|.inst _ fs=>fs|_=>[]
noncomputable def g2(v:Array UInt8)(i n:Int):List Claim:=[.le v.size NN,.p (decide (i<v.size)=true),.p (0<=i/\i<v.size/\v.size<=NN/\((v.toList.getD i.toNat 0).toNat:Int)=n),.le v.size NN,.b true,.le 1 NN,.p (((KBy.picked v (some i) (some (i+1))).toList==[(15:UInt8)])=false),.le v.size NN,.p (decide (i>=v.size)=false),.p (0<=i/\i<v.size/\v.size<=NN/\((v.toList.getD i.toNat 0).toNat:Int)=n),.le 0 NN,.le 0 NN]
theorem fK:keepIn (cA w.params) (.ref 873)=true:=by kernel_rfl
theorem fI:nsIn (cA w.params) mainGlobals "picked"=some (some (.ref 873)):=by kernel_rfl
theorem ox(h:bx (g2 v i 254)):cS 6 946 [bv,.bytes v,.sym i]:=by refine cw (k:=5) bS rfl λA env g B e=>?_;rw[show bS.body=bz (kT 96)from rfl,fG];refine fL (τ:=[("iset",.v bv),("octets",.v (.bytes v)),("at",.v (.sym i)),("prefixes",.v lK),("end",.v (.sym i)),("frame",.o (.inst 843 (wH i 254)) none),("forms",.v (.slist []))]) (fA (n:=40) (o:=og 254) (ask:=[]) (cl:=g2 v i 254) B (by kernel_rfl) h rfl rfl) (bU ?_);refine o9.mono (eK (gb (.there rfl (gi B.O rfl rfl) (.here rfl (dw B.C (gZ B (by kernel_rfl) (fI) rfl) (fK) (.cons rfl (bI B.O rfl rfl) (.cons rfl (bI B.O rfl rfl) .nil)) ((eh (kj i 254)).ups 2)))))) λU U U z=>.inr (.inl z)
theorem rj(h:bx (g2 v i 0)):cS 6 946 [bv,.bytes v,.sym i]:=by refine cw (k:=5) bS rfl λA env g B e=>?_;rw[show bS.body=bz (kT 96)from rfl,fG];refine fL (τ:=[("iset",.v bv),("octets",.v (.bytes v)),("at",.v (.sym i)),("prefixes",.v lK),("end",.v (.sym i)),("frame",.o (.inst 843 (wH i 0)) none),("forms",.v (.slist []))]) (fA (n:=40) (o:=og 0) (ask:=[]) (cl:=g2 v i 0) B (by kernel_rfl) h rfl rfl) (bU ?_);refine o9.mono (eK (gb (.there rfl (gi B.O rfl rfl) (.here rfl (dw B.C (gZ B (by kernel_rfl) (fI) rfl) (fK) (.cons rfl (bI B.O rfl rfl) (.cons rfl (bI B.O rfl rfl) .nil)) ((eh (kj i 0)).ups 2)))))) λU U U z=>.inr (.inl z)
theorem qH(h:bx (g2 v i 2)):cS 6 946 [bv,.bytes v,.sym i]:=by refine cw (k:=5) bS rfl λA env g B e=>?_;rw[show bS.body=bz (kT 96)from rfl,fG];refine fL (τ:=[("iset",.v bv),("octets",.v (.bytes v)),("at",.v (.sym i)),("prefixes",.v lK),("end",.v (.sym i)),("frame",.o (.inst 843 (wH i 2)) none),("forms",.v (.slist []))]) (fA (n:=40) (o:=og 2) (ask:=[]) (cl:=g2 v i 2) B (by kernel_rfl) h rfl rfl) (bU ?_);refine o9.mono (eK (gb (.there rfl (gi B.O rfl rfl) (.here rfl (dw B.C (gZ B (by kernel_rfl) (fI) rfl) (fK) (.cons rfl (bI B.O rfl rfl) (.cons rfl (bI B.O rfl rfl) .nil)) ((eh (kj i 2)).ups 2)))))) λU U U z=>.inr (.inl z)
theorem rn(h:bx (g2 v i 6)):cS 6 946 [bv,.bytes v,.sym i]:=by refine cw (k:=5) bS rfl λA env g B e=>?_;rw[show bS.body=bz (kT 96)from rfl,fG];refine fL (τ:=[("iset",.v bv),("octets",.v (.bytes v)),("at",.v (.sym i)),("prefixes",.v lK),("end",.v (.sym i)),("frame",.o (.inst 843 (wH i 6)) none),("forms",.v (.slist []))]) (fA (n:=40) (o:=og 6) (ask:=[]) (cl:=g2 v i 6) B (by kernel_rfl) h rfl rfl) (bU ?_);refine o9.mono (eK (gb (.there rfl (gi B.O rfl rfl) (.here rfl (dw B.C (gZ B (by kernel_rfl) (fI) rfl) (fK) (.cons rfl (bI B.O rfl rfl) (.cons rfl (bI B.O rfl rfl) .nil)) ((eh (kj i 6)).ups 2)))))) λU U U z=>.inr (.inl z)
theorem rE(h:bx (g2 v i 1)):cS 6 946 [bv,.bytes v,.sym i]:=by refine cw (k:=5) bS rfl λA env g B e=>?_;rw[show bS.body=bz (kT 96)from rfl,fG];refine fL (τ:=[("iset",.v bv),("octets",.v (.bytes v)),("at",.v (.sym i)),("prefixes",.v lK),("end",.v (.sym i)),("frame",.o (.inst 843 (wH i 1)) none),("forms",.v (.slist []))]) (fA (n:=40) (o:=og 1) (ask:=[]) (cl:=g2 v i 1) B (by kernel_rfl) h rfl rfl) (bU ?_);refine o9.mono (eK (gb (.there rfl (gi B.O rfl rfl) (.here rfl (dw B.C (gZ B (by kernel_rfl) (fI) rfl) (fK) (.cons rfl (bI B.O rfl rfl) (.cons rfl (bI B.O rfl rfl) .nil)) ((eh (kj i 1)).ups 2)))))) λU U U z=>.inr (.inl z)
theorem oi(h:bx (g2 v i 250)):cS 6 946 [bv,.bytes v,.sym i]:=by refine cw (k:=5) bS rfl λA env g B e=>?_;rw[show bS.body=bz (kT 96)from rfl,fG];refine fL (τ:=[("iset",.v bv),("octets",.v (.bytes v)),("at",.v (.sym i)),("prefixes",.v lK),("end",.v (.sym i)),("frame",.o (.inst 843 (wH i 250)) none),("forms",.v (.slist []))]) (fA (n:=40) (o:=og 250) (ask:=[]) (cl:=g2 v i 250) B (by kernel_rfl) h rfl rfl) (bU ?_);refine o9.mono (eK (gb (.there rfl (gi B.O rfl rfl) (.here rfl (dw B.C (gZ B (by kernel_rfl) (fI) rfl) (fK) (.cons rfl (bI B.O rfl rfl) (.cons rfl (bI B.O rfl rfl) .nil)) ((eh (kj i 250)).ups 2)))))) λU U U z=>.inr (.inl z)
end
noncomputable def Ik(s:Stmt)(p:Pos):PySem.Expr:=match s with|.For _ i _ _ _=>i|_=>.Name "" p
noncomputable def eU(s:Stmt)(p:Pos):PySem.Expr:=match s with|.For t _ _ _ _=>t|_=>.Name "" p
noncomputable def jB(s:Stmt):List Stmt:=match s with|.For _ _ b _ _=>b|_=>[]
section
def lT(P:Nat->Pos)(X:Nat->PySem.Expr)(S:Nat->Stmt)(B:Nat->List Stmt):Prop:=(bz (kT 93))=[(S 0),.For (X 0) (X 1) [.If (X 2) (B 0) [.If (X 3) (B 1) [.If (X 4) (B 2) [.If (X 5) (B 3) [(S 1),.Expr (.Call (.Attribute (.Name "found" (P 4)) "append" (P 5)) [.Call (.Name "written_operand" (P 6)) [.Name "kind" (P 7),.Name "slot" (P 8),.Call (.Name "field_at" (P 9)) [.Name "octets" (P 10),.Name "end" (P 11),.Name "width" (P 12)] [] (P 13)] [] (P 14)] [] (P 15)) (P 16),(S 2)] (P 3)] (P 2)] (P 1)] (P 0)] [] (P 17),(S 3)]/\bV (.Name "found" (P 4)) (P 5) (P 15) [.Call (.Name "written_operand" (P 6)) [.Name "kind" (P 7),.Name "slot" (P 8),.Call (.Name "field_at" (P 9)) [.Name "octets" (P 10),.Name "end" (P 11),.Name "width" (P 12)] [] (P 13)] [] (P 14)]=true/\(S 0)=cJ (bz (kT 93)) 0 (P 4)/\(X 0)=eU (cJ (bz (kT 93)) 1 (P 4)) (P 4)/\(X 1)=Ik (cJ (bz (kT 93)) 1 (P 4)) (P 4)/\(X 2)=Kb (cJ (jB (cJ (bz (kT 93)) 1 (P 4))) 0 (P 4)) (P 4)/\(X 3)=Kb (cJ (pg (cJ (jB (cJ (bz (kT 93)) 1 (P 4))) 0 (P 4))) 0 (P 4)) (P 4)/\(X 4)=Kb (cJ (pg (cJ (pg (cJ (jB (cJ (bz (kT 93)) 1 (P 4))) 0 (P 4))) 0 (P 4))) 0 (P 4)) (P 4)/\(X 5)=Kb (cJ (pg (cJ (pg (cJ (pg (cJ (jB (cJ (bz (kT 93)) 1 (P 4))) 0 (P 4))) 0 (P 4))) 0 (P 4))) 0 (P 4)) (P 4)/\(S 1)=cJ (pg (cJ (pg (cJ (pg (cJ (pg (cJ (jB (cJ (bz (kT 93)) 1 (P 4))) 0 (P 4))) 0 (P 4))) 0 (P 4))) 0 (P 4))) 0 (P 4)
theorem fR:∃P X S B,lT P X S B:=⟨nP [_,_,_,_,_,_,_,_,_,_,_,_,_,_,_,_,_,_],nd [_,_,_,_,_,_],nd [_,_,_,_],nd [_,_,_,_],rfl,rfl,rfl,rfl,rfl,rfl,rfl,rfl,rfl,rfl⟩
noncomputable def NQ:Nat->Pos:=fR.choose
noncomputable def NB:Nat->PySem.Expr:=fR.choose_spec.choose
noncomputable def Ng:Nat->Stmt:=fR.choose_spec.choose_spec.choose
noncomputable def opB:Nat->List Stmt:=fR.choose_spec.choose_spec.choose_spec.choose
theorem bQ:lT NQ NB Ng opB:=fR.choose_spec.choose_spec.choose_spec.choose_spec
theorem n5:keepIn (cA w.params) (.ref 922)=true/\keepIn (cA w.params) (.ref 915)=true/\keepIn (cA w.params) (.ref 929)=true/\keepIn (cA w.params) (.ref 946)=true/\keepIn (cA w.params) (.ref 954)=true:=⟨by kernel_rfl,by kernel_rfl,by kernel_rfl,by kernel_rfl,by kernel_rfl⟩
theorem oX:nsIn (cA w.params) mainGlobals "written_operand"=some (some (.ref 922))/\nsIn (cA w.params) mainGlobals "field_at"=some (some (.ref 915))/\nsIn (cA w.params) mainGlobals "operands_of"=some (some (.ref 929))/\nsIn (cA w.params) mainGlobals "read_frame"=some (some (.ref 946))/\nsIn (cA w.params) mainGlobals "decode"=some (some (.ref 954)):=⟨by kernel_rfl,by kernel_rfl,by kernel_rfl,by kernel_rfl,by kernel_rfl⟩
noncomputable abbrev Kz(f fr:D)(v:Array UInt8)(i:Int):Sig:=[("form",.v f),("frame",.v fr),("octets",.v (.bytes v)),("end",.v (.sym (i+1))),("found",.o (.list []) none)]
noncomputable abbrev pC(f fr:D)(v:Array UInt8)(i:Int)(kd:PySem.Str):Sig:=[("form",.v f),("frame",.v fr),("octets",.v (.bytes v)),("end",.v (.sym (i+1))),("found",.o (.list []) none),("kind",.v (.str kd)),("slot",.v (.str "rel"))]
noncomputable abbrev Km(f fr:D)(v:Array UInt8)(i:Int)(kd:PySem.Str)(wd:Int):Sig:=[("form",.v f),("frame",.v fr),("octets",.v (.bytes v)),("end",.v (.sym (i+1))),("found",.o (.list []) none),("kind",.v (.str kd)),("slot",.v (.str "rel")),("width",.v (.int wd))]
theorem gk(j:PySem.Str)(a:Int)(p:v.size<=NN)(h:decide (((KBy.picked v (some (i+1)) (some (i+1+1))).size:Int)<1)=true):cS 5 929 [fy .any (fr j ["rel8"] a 0 (-1) 0 0 false ["rel"]),kj i a,.bytes v]:=by
 refine cw (k:=4) cG rfl λA env g B l=>?_;rw[show cG.body=bz (kT 93)from rfl,bQ.1];let f:=fy .any (fr j ["rel8"] a 0 (-1) 0 0 false ["rel"]);let fr:=kj i a;refine eR (σ₁:=Kz f fr v i) (by rw[bQ.2.2.1];exact jA (n:=20) (o:=[]) (ask:=[]) (cl:=[]) B (by kernel_rfl) trivial rfl rfl) (bU (o9.mono (wz (d:=.tuple [.str "rel8",.str "rel"]) (ds:=[]) (σ₁:=Kz f fr v i) (σ₂:=pC f fr v i "rel8") B l (by rw[bQ.2.2.2.2.1];rfl) ?_ ?_ ?_) λU U U z=>.inr (.inr z)));·rw[bQ.2.2.2.1,bQ.2.2.2.2.1];exact tj (n:=20) (o:=[]) (ask:=[]) (cl:=[.le 1 NN]) B (by kernel_rfl) ⟨by show 1<=16777216;decide,trivial⟩ rfl rfl
 ·rw[bQ.2.2.2.1];exact sS (o:=[]) (ask:=[]) (cl:=[]) B (by kernel_rfl) trivial rfl rfl
 have e:∀c:PySem.Expr,((cr 20).t ⟨4,cG.sc,[],[]⟩ c (pC f fr v i "rel8") []).map (λr=>(r.a,r.σ,r.c))=some (false,pC f fr v i "rel8",[])->Tr A env g c (pC f fr v i "rel8") false (pC f fr v i "rel8"):=λc m=>ry B m trivial rfl rfl;refine bU (ib (b:=false) (e _ (by rw[bQ.2.2.2.2.2.1];kernel_rfl)) (bU (ib (b:=false) (e _ (by rw[bQ.2.2.2.2.2.2.1];kernel_rfl)) (bU (ib (b:=false) (e _ (by rw[bQ.2.2.2.2.2.2.2.1];kernel_rfl)) (bU (ib (b:=false) (e _ (by rw[bQ.2.2.2.2.2.2.2.2.1];kernel_rfl)) ?_)))))));refine eR (σ₁:=Km f fr v i "rel8" 1) (by rw[bQ.2.2.2.2.2.2.2.2.2];exact jA (n:=30) (o:=[]) (ask:=[]) (cl:=[]) B (by kernel_rfl) trivial rfl rfl) (bU (sQ ?_ (by show(env.scope.kind==.module&&_)=false;rw[B.O.kind];rfl) rfl));refine mQ B.O rfl rfl rfl (.here rfl (j0 (gZ B (by kernel_rfl) (oX).1 rfl) (n5).1 rfl (.there rfl (bI B.O rfl rfl) (.there rfl (bI B.O rfl rfl) (.here rfl (dw B.C (gZ B (by kernel_rfl) (oX).2.1 rfl) (n5).2.1 (.cons rfl (bI B.O rfl rfl) (.cons rfl (bI B.O rfl rfl) (.cons rfl (bI B.O rfl rfl) .nil))) ((lE p h).ups 1))))))) bQ.2.1
theorem l8(j:PySem.Str)(a:Int)(p:v.size<=NN)(h:decide (((KBy.picked v (some (i+1)) (some (i+1+4))).size:Int)<4)=true):cS 5 929 [fy .any (fr j ["rel32"] a 0 (-1) 0 0 false ["rel"]),kj i a,.bytes v]:=by
 refine cw (k:=4) cG rfl λA env g B l=>?_;rw[show cG.body=bz (kT 93)from rfl,bQ.1];let f:=fy .any (fr j ["rel32"] a 0 (-1) 0 0 false ["rel"]);let fr:=kj i a;refine eR (σ₁:=Kz f fr v i) (by rw[bQ.2.2.1];exact jA (n:=20) (o:=[]) (ask:=[]) (cl:=[]) B (by kernel_rfl) trivial rfl rfl) (bU (o9.mono (wz (d:=.tuple [.str "rel32",.str "rel"]) (ds:=[]) (σ₁:=Kz f fr v i) (σ₂:=pC f fr v i "rel32") B l (by rw[bQ.2.2.2.2.1];rfl) ?_ ?_ ?_) λU U U z=>.inr (.inr z)));·rw[bQ.2.2.2.1,bQ.2.2.2.2.1];exact tj (n:=20) (o:=[]) (ask:=[]) (cl:=[.le 1 NN]) B (by kernel_rfl) ⟨by show 1<=16777216;decide,trivial⟩ rfl rfl
 ·rw[bQ.2.2.2.1];exact sS (o:=[]) (ask:=[]) (cl:=[]) B (by kernel_rfl) trivial rfl rfl
 have e:∀c:PySem.Expr,((cr 20).t ⟨4,cG.sc,[],[]⟩ c (pC f fr v i "rel32") []).map (λr=>(r.a,r.σ,r.c))=some (false,pC f fr v i "rel32",[])->Tr A env g c (pC f fr v i "rel32") false (pC f fr v i "rel32"):=λc m=>ry B m trivial rfl rfl;refine bU (ib (b:=false) (e _ (by rw[bQ.2.2.2.2.2.1];kernel_rfl)) (bU (ib (b:=false) (e _ (by rw[bQ.2.2.2.2.2.2.1];kernel_rfl)) (bU (ib (b:=false) (e _ (by rw[bQ.2.2.2.2.2.2.2.1];kernel_rfl)) (bU (ib (b:=false) (e _ (by rw[bQ.2.2.2.2.2.2.2.2.1];kernel_rfl)) ?_)))))));refine eR (σ₁:=Km f fr v i "rel32" 4) (by rw[bQ.2.2.2.2.2.2.2.2.2];exact jA (n:=30) (o:=[]) (ask:=[]) (cl:=[]) B (by kernel_rfl) trivial rfl rfl) (bU (sQ ?_ (by show(env.scope.kind==.module&&_)=false;rw[B.O.kind];rfl) rfl));refine mQ B.O rfl rfl rfl (.here rfl (j0 (gZ B (by kernel_rfl) (oX).1 rfl) (n5).1 rfl (.there rfl (bI B.O rfl rfl) (.there rfl (bI B.O rfl rfl) (.here rfl (dw B.C (gZ B (by kernel_rfl) (oX).2.1 rfl) (n5).2.1 (.cons rfl (bI B.O rfl rfl) (.cons rfl (bI B.O rfl rfl) (.cons rfl (bI B.O rfl rfl) .nil))) ((lE p h).ups 1))))))) bQ.2.1
end
theorem sm(f:DC)(hn:f.n=ds.length)(G:fl=.ret d\/(fl=.next/\d=.none))(h:∀(A:Around)(env:Env)(g:Gr),Rn k f.sc A env g->env.frame=some env.locals->∃σ',dW A env g f.body (f.xs.zip ((ds++f.dds).map Slot.v)) fl σ'):br (k+1) f.f ds d:=by
 intro A g fr s X args R C S c K;obtain⟨fd,n,hF,r,H,t,u,hk⟩:=f.ok;refine fS (hid:=[]) (X:=X) (vs:=args++n) (σ0:=f.xs.zip ((ds++f.dds).map Slot.v)) (ad0:=λU=>0) hF H (λQ=>t s Q args (c.length.trans hn.symm)) (by rw[r];exact hk) C S (λa z=>by exact absurd z A3) (λx V e=>?_) (λx k p e=>absurd e cX) (λx y k k' p p' e=>absurd e cX) λA' env g' N H₁ B J ef j U hH l=>?_;·have m:bM (Fz s.heap (λa=>X a\/a∈([]:List Addr))) (args++n) (ds++f.dds):=(c.mono λa o q=>⟨q.1,λz=>q.2 (z.elim id λz=>by exact absurd z A3)⟩).append (u _);exact fB m x V e
 · obtain⟨σ',i⟩:=h _ _ _ (r▸B) ef;obtain⟨M,I,rfl⟩:=j;refine i _ _ _ _ _ l λL h' O H' T sub E=>?_;obtain⟨kp,out⟩:=T.out J.2.2.2 J.2.2.1 S.there hH sub;have fin:∀v,cx H' v d->R (.ok (.ret v)) (uS s h' O):=λv Y=>K v h' O (λb o e=>kp b o (by simp) e) (Y.mono out);rcases G with rfl|⟨rfl,rfl⟩;·cases L<;>first|exact E.elim|exact fin _ E
   ·cases L<;>first|exact E.elim|exact fin _ .none
section
def nh(P:Nat->Pos)(B:Nat->List Stmt)(L:Nat->List PySem.Expr)(N:Nat->Nat):Prop:=(bz (kT 97))=.Assign [.Tuple (L 0) (N 0) (P 0)] (.Call (.Name "read_frame" (P 1)) [.Name "iset" (P 2),.Name "octets" (P 3),.Name "at" (P 4)] [] (P 5)) (P 6)::.Assign [.Tuple (L 1) (N 1) (P 7)] (.Call (.Name "operands_of" (P 8)) [.Name "form" (P 9),.Name "frame" (P 10),.Name "octets" (P 11)] [] (P 12)) (P 13)::(B 0)/\.Assign [.Tuple (L 0) (N 0) (P 0)] (.Call (.Name "read_frame" (P 1)) [.Name "iset" (P 2),.Name "octets" (P 3),.Name "at" (P 4)] [] (P 5)) (P 6)=cJ (bz (kT 97)) 0 (P 1)
theorem gp:∃P B L N,nh P B L N:=⟨nP [_,_,_,_,_,_,_,_,_,_,_,_,_,_],nd [_],nd [_,_],nd [_,_],rfl,rfl⟩
noncomputable def MQ:Nat->Pos:=gp.choose
noncomputable def NC:Nat->List Stmt:=gp.choose_spec.choose
noncomputable def Nj:Nat->List PySem.Expr:=gp.choose_spec.choose_spec.choose
noncomputable def deN:Nat->Nat:=gp.choose_spec.choose_spec.choose_spec.choose
theorem kJ:nh MQ NC Nj deN:=gp.choose_spec.choose_spec.choose_spec.choose_spec
def nQ(P:Nat->Pos)(N:Nat->Nat):Prop:=(bz (kT 98))=[.Try [.Return (some (.Call (.Name "decode" (P 0)) [.Name "iset" (P 1),.Name "octets" (P 2),.Name "at" (P 3)] [] (P 4))) (P 5)] [.ExceptHandler (some (.Name "DecodeError" (P 6))) none [.Return (some (.Constant .none (N 0) (P 7))) (P 8)] (P 9)] [] [] (P 10)]
theorem jx:∃P N,nQ P N:=⟨nP [_,_,_,_,_,_,_,_,_,_,_],nd [_],rfl⟩
noncomputable def NA:Nat->Pos:=jx.choose
noncomputable def dnN:Nat->Nat:=jx.choose_spec.choose
theorem xS:nQ NA dnN:=jx.choose_spec.choose_spec
theorem pA(h:cS 6 946 [bv,.bytes v,.sym i]):cS 7 954 [bv,.bytes v,.sym i]:=by refine cw (k:=6) cK rfl λA env g B e=>?_;rw[show cK.body=bz (kT 97)from rfl,kJ.1];exact bU (o9.mono (lx (dw B.C (gZ B (by kernel_rfl) (oX).2.2.2.1 rfl) (n5).2.2.2.1 (.cons rfl (bI B.O rfl rfl) (.cons rfl (bI B.O rfl rfl) (.cons rfl (bI B.O rfl rfl) .nil))) h) rfl rfl) λU U U z=>.inr (.inl z))
noncomputable abbrev Iq(v:Array UInt8)(i o:Int)(r:FormR):Sig:=[("iset",.v bv),("octets",.v (.bytes v)),("at",.v (.sym i)),("frame",.v (kj i o)),("form",.v (fy .any r))]
noncomputable abbrev IB(v:Array UInt8)(i:Int):Sig:=[("iset",.v bv),("octets",.v (.bytes v)),("at",.v (.sym i))]
theorem pw(hs:∀p,((cr 60).s ⟨6,cK.sc,[],[]⟩ (cJ (bz (kT 97)) 0 p) (IB v i) (og o)).map (λr=>(r.a,r.σ,r.c))=some (Fl.next,Iq v i o r,cl))(a:bx cl)(h:cS 5 929 [fy .any r,kj i o,.bytes v]):cS 7 954 [bv,.bytes v,.sym i]:=by refine cw (k:=6) cK rfl λA env g B e=>?_;rw[show cK.body=bz (kT 97)from rfl,kJ.1];refine eR (by rw[kJ.2];exact jA B (hs (MQ 1)) a rfl rfl) (bU (o9.mono (lx (dw B.C (gZ B (by kernel_rfl) (oX).2.2.1 rfl) (n5).2.2.1 (.cons rfl (bI B.O rfl rfl) (.cons rfl (bI B.O rfl rfl) (.cons rfl (bI B.O rfl rfl) .nil))) (h.ups 1)) rfl rfl) λU U U z=>.inr (.inl z)))
theorem tw(h:cS 7 954 [bv,.bytes v,.sym i]):br 10 962 [bv,.bytes v,.sym i] .none:=by refine sm (k:=9) (fl:=.ret .none) bF rfl (.inl rfl) λA env g B e=>⟨[],?_⟩;rw[show bF.body=bz (kT 98)from rfl,xS];exact iI (λz=>Bool.noConfusion (congrArg kO z)) (EA B e (bU (eK (dw B.C (gZ B (by kernel_rfl) (oX).2.2.2.2 rfl) (n5).2.2.2.2 (.cons rfl (bI B.O rfl rfl) (.cons rfl (bI B.O rfl rfl) (.cons rfl (bI B.O rfl rfl) .nil))) (h.ups 2)))) (by kernel_rfl) (vc) rfl)
end
noncomputable def bj(vs:List Nat):Array UInt8:=(vs.map Nat.toUInt8).toArray
theorem bw(vs:List Nat):(bj vs).size=vs.length:=by unfold bj;rw[AA,AM]
theorem jG(h:x<256):(Nat.toUInt8 x).toNat=x:=by show(UInt8.ofNat x).toNat=x;first|exact UInt8.toNat_ofNat_of_lt' h|(rw[UInt8.toNat_ofNat'];exact Nat.mod_eq_of_lt h)
theorem dS{l:List a}(h:n<l.length):l.getD n d=l[n]:=by rw[List.getD_eq_getElem?_getD,AN h];rfl
theorem va{vs:List Nat}(a:∀x∈vs,x<256)(h:n<vs.length):((bj vs).toList.getD ((n:Int)).toNat 0).toNat=vs.getD n 0:=by unfold bj;rw[Int.toNat_natCast,List.toList_toArray,dS (by rw[AM];exact h),List.getElem_map,dS h];exact jG (a _ (List.getElem_mem h))
theorem f9(vs:List Nat){n m:Nat}:KBy.picked (bj vs) (some (n:Int)) (some (m:Int))=bj ((vs.drop n).take (m-n)):=by
 rw[KBc.picked_eq];simp only[Option.elim,clipAt_nat,bw];unfold bj;rw[List.toList_toArray,List.map_take,List.map_drop];congr 1;apply List.ext_getElem?;intro j;simp only[List.getElem?_take,List.getElem?_drop,List.getElem?_map];by_cases h:j<m-n
 · by_cases a:n<=vs.length
   · rw[if_pos h,Nat.min_eq_left a];by_cases b:j<min m vs.length-n;·rw[if_pos b]
     ·rw[if_neg b,List.getElem?_eq_none (by exact NY h b)];rfl
   ·rw[if_pos h,if_neg (by exact Ny a),List.getElem?_eq_none (by exact A1 (Nat.le_of_not_le a) (A7 _ _))];rfl
 ·rw[if_neg h,if_neg (by exactλz=>h (AO z Nr))]
noncomputable def pool:List Nat:=[144,235,116,254,0,2,226,195,244,252,6,232,1,250]
theorem qF{vs:List Nat}(h:∀x∈vs,x∈pool):∀x∈vs,x<256:=λx a=>(by decide+kernel:∀x∈pool,x<256) x (h x a)
noncomputable def vT:Nat->Option (FormR×Nat)|144=>some (vU,0)|252=>some (wp,0)|195=>some (vR,0)|244=>some (v4,0)|235=>some (sE,1)|116=>some (By,1)|226=>some (oB,1)|232=>some (oY,4)|_=>none
noncomputable def cP(vs:List Nat)(n wd:Nat):Int:=xm (jn ((vs.drop (n+1)).take wd)) (256^wd)
noncomputable def kL(vs:List Nat)(n:Nat):D:=match vT (vs.getD n 0)with|none=>.none|some (r,wd)=>if n+1+wd<=vs.length then fe r (if wd=0 then[]else[eS (cP vs n wd)]) (1+wd)else .none
section
variable{vs:List Nat}{n:Nat}
theorem jT(g:∀x∈vs,x<256)(a:n<vs.length)(q:vs.length<=NN)(d:vs.getD n 0=o)(c:o≠15)(m i:Nat)(k:m<=NN)(l:i<=NN):bx [.le (bj vs).size NN,.p (decide ((n:Int)<(bj vs).size)=true),.p (0<=(n:Int)/\(n:Int)<(bj vs).size/\(bj vs).size<=NN/\(((bj vs).toList.getD ((n:Int)).toNat 0).toNat:Int)=(o:Int)),.le (bj vs).size NN,.b true,.le 1 NN,.p (((KBy.picked (bj vs) (some (n:Int)) (some ((n:Int)+1))).toList==[(15:UInt8)])=false),.le (bj vs).size NN,.p (decide ((n:Int)>=(bj vs).size)=false),.p (0<=(n:Int)/\(n:Int)<(bj vs).size/\(bj vs).size<=NN/\(((bj vs).toList.getD ((n:Int)).toNat 0).toNat:Int)=(o:Int)),.le m NN,.le i NN]:=by
 have hs:(bj vs).size<=NN:=by rw[bw];exact q
 have h:(n:Int)<(bj vs).size:=by rw[bw];exact Aa.2 a
 have hb:0<=(n:Int)/\(n:Int)<(bj vs).size/\(bj vs).size<=NN/\(((bj vs).toList.getD ((n:Int)).toNat 0).toNat:Int)=(o:Int):=⟨by exact AP _,h,hs,by rw[va g a,d]⟩;refine⟨hs,AB h,hb,hs,rfl,by show 1<=16777216;decide,?_,hs,AI (by exact Int.not_le.2 h),hb,k,l,trivial⟩;show((KBy.picked (bj vs) (some (n:Int)) (some ((n:Int)+1))).toList==[(15:UInt8)])=false;rw[show(n:Int)+1=((n+1:Nat):Int)from rfl,f9];have e:(vs.drop n).take (n+1-n)=[o]:=by rw[show n+1-n=1 from by exact Nat.add_sub_cancel_left _ _,List.drop_eq_getElem_cons a];rw[<-d,dS a];rfl
 rw[e];have f:o<256:=by rw[<-d,dS a];exact g _ (List.getElem_mem a)
 show([Nat.toUInt8 o]==[(15:UInt8)])=false;refine Bool.eq_false_iff.mpr λz=>c ?_;have:=Ac.mp z;have j:Nat.toUInt8 o=15:=by injection this
 have:=congrArg UInt8.toNat j;rw[jG f]at this;exact this
end
section
variable{vs:List Nat}{n:Nat}
theorem jb(e:∀x∈vs,x<256)(c:n<vs.length)(f:vs.length<=NN)(d:vs.getD n 0=o)(a:o≠15)(run:∀(v:Array UInt8)(i:Int),(b8 60 9 [] bF [bv,.bytes v,.sym i] (og o++[.b false])).map (λr=>(r.a,r.c))=some (.ret (fe r [] (i+1-i)),nF v i o 0++[.le 0 NN,.p (decide (i+1-i>15)=false),.le 0 NN])):br 10 962 [bv,.bytes (bj vs),.sym n] (fe r [] 1):=by have h:=bp bF rfl (run (bj vs) n) (bx.app.mpr ⟨jT e c f d a 1 1 (by decide) (by decide),AW _,AI (by omega),AW _,trivial⟩);rw[show(n:Int)+1-n=1 from by rw[Int.add_comm,Int.add_sub_cancel]]at h;exact h
theorem xe(h:n+1+wd<=vs.length):((vs.drop (n+1)).take wd).length=wd:=by rw[List.length_take,List.length_drop];exact Nat.min_eq_left (Nat.le_sub_of_add_le' h)
theorem mF(k:∀x∈vs,x<256)(s:n<vs.length)(p:vs.length<=NN)(t:vs.getD n 0=o)(g:o≠15)(l:wd=1\/wd=4)(q:n+1+wd<=vs.length)(run:∀(v:Array UInt8)(i dist:Int),(b8 60 9 [120] bF [bv,.bytes v,.sym i] (og o++[.b false,.d (.sym dist),.b false])).map (λr=>(r.a,r.c))=some (.ret (fe r [eS dist] (i+1+wd-i)),sW v i o wd dist)):br 10 962 [bv,.bytes (bj vs),.sym n] (fe r [eS (cP vs n wd)] (1+wd)):=by
 have j:KBy.picked (bj vs) (some ((n:Int)+1)) (some ((n:Int)+1+wd))=bj ((vs.drop (n+1)).take wd):=by have:=f9 vs (n:=n+1) (m:=n+1+wd);rw[show n+1+wd-(n+1)=wd from by exact Nat.add_sub_cancel_left _ _]at this;exact this
 have hs:(bj vs).size<=NN:=by rw[bw];exact p
 have e:=xe q;have f:br 6 120 [.bytes (bj ((vs.drop (n+1)).take wd))] (.sym (cP vs n wd)):=by
  have hb:∀x∈(vs.drop (n+1)).take wd,x<256:=λx u=>k x (List.mem_of_mem_drop (List.mem_of_mem_take u));unfold cP;generalize(vs.drop (n+1)).take wd=bs at*;rcases l with rfl|rfl;·match bs,e with|[a],_=>have:=LX (Nat.toUInt8 a);rw[jG (hb a (by simp))]at this;exact this
  ·match bs,e with|[a,b,c,d],_=>have:=Mg (Nat.toUInt8 a) (Nat.toUInt8 b) (Nat.toUInt8 c) (Nat.toUInt8 d);rw[jG (hb a (by simp)),jG (hb b (by simp)),jG (hb c (by simp)),jG (hb d (by simp))]at this;exact this
 have h:=bp bF rfl (run (bj vs) n (cP vs n wd)) (bx.app.mpr ⟨jT k s p t g 1 1 (by decide) (by decide),by show 1<=16777216;decide,hs,A1 (KBc.size_picked_le _ _ _) hs,AI (by rw[j,bw,e];exact Int.lt_irrefl _),by show br _ _ _ _;rw[j];exact f,AW _,AI (by rcases l with rfl|rfl<;>omega),by show 1<=16777216;decide,trivial⟩);rw[show(n:Int)+1+wd-n=1+wd from by rw[Int.add_assoc,Int.add_comm,Int.add_sub_cancel]]at h;exact h
theorem ja(j:∀x∈vs,x<256)(c:n<vs.length)(d:vs.length<=NN)(g:vs.getD n 0=o)(a:o≠15)(f:¬n+1+wd<=vs.length)(hs:∀(v:Array UInt8)(i:Int)p,((cr 60).s ⟨6,cK.sc,[],[]⟩ (cJ (bz (kT 97)) 0 p) (IB v i) (og o)).map (λr=>(r.a,r.σ,r.c))=some (Fl.next,Iq v i o r,nF v i o 0))(h:∀(v:Array UInt8)(i:Int),v.size<=NN->decide (((KBy.picked v (some (i+1)) (some (i+1+wd))).size:Int)<wd)=true->cS 5 929 [fy .any r,kj i o,.bytes v]):br 10 962 [bv,.bytes (bj vs),.sym n] .none:=by
 have b:(bj vs).size<=NN:=by rw[bw];exact d
 refine tw (pw (hs (bj vs) n) (jT j c d g a 1 1 (by decide) (by decide)) (h _ _ b (AB ?_)));have:=f9 vs (n:=n+1) (m:=n+1+wd);rw[show n+1+wd-(n+1)=wd from by exact Nat.add_sub_cancel_left _ _]at this;have e:KBy.picked (bj vs) (some ((n:Int)+1)) (some ((n:Int)+1+wd))=bj ((vs.drop (n+1)).take wd):=this;rw[e,bw,List.length_take,List.length_drop];exact Aa.2 (AR (Nat.min_le_right _ _) (Nat.sub_lt_left_of_lt_add c (Nat.lt_of_not_le f)))
theorem HF(v:Array UInt8)(i:Int)(p:Pos):((cr 60).s ⟨6,cK.sc,[],[]⟩ (cJ (bz (kT 97)) 0 p) (IB v i) (og 235)).map (λr=>(r.a,r.σ,r.c))=some (Fl.next,Iq v i 235 sE,nF v i 235 0):=by kernel_rfl
theorem Kh(v:Array UInt8)(i:Int)(p:Pos):((cr 60).s ⟨6,cK.sc,[],[]⟩ (cJ (bz (kT 97)) 0 p) (IB v i) (og 116)).map (λr=>(r.a,r.σ,r.c))=some (Fl.next,Iq v i 116 By,nF v i 116 0):=by kernel_rfl
theorem EI(v:Array UInt8)(i:Int)(p:Pos):((cr 60).s ⟨6,cK.sc,[],[]⟩ (cJ (bz (kT 97)) 0 p) (IB v i) (og 226)).map (λr=>(r.a,r.σ,r.c))=some (Fl.next,Iq v i 226 oB,nF v i 226 0):=by kernel_rfl
theorem EV(v:Array UInt8)(i:Int)(p:Pos):((cr 60).s ⟨6,cK.sc,[],[]⟩ (cJ (bz (kT 97)) 0 p) (IB v i) (og 232)).map (λr=>(r.a,r.σ,r.c))=some (Fl.next,Iq v i 232 oY,nF v i 232 0):=by kernel_rfl
theorem gf(h:vT (vs.getD n 0)=none):kL vs n=.none:=by unfold kL;rw[h]
theorem eQ(h:vT (vs.getD n 0)=some (r,wd)):kL vs n=if n+1+wd<=vs.length then fe r (if wd=0 then[]else[eS (cP vs n wd)]) (1+wd)else .none:=by unfold kL;rw[h]
theorem uJ(k:∀x∈vs,x∈pool)(b:n<vs.length)(d:vs.length<=NN):br 10 962 [bv,.bytes (bj vs),.sym n] (kL vs n):=by
 have hb:=qF k;have j:vs.getD n 0∈pool:=by rw[dS b];exact k _ (List.getElem_mem b)
 have c:∀o:Nat,vs.getD n 0=o->o≠15->(∀(v:Array UInt8)(i:Int),bx (g2 v i o)->cS 6 946 [bv,.bytes v,.sym i])->br 10 962 [bv,.bytes (bj vs),.sym n] .none:=λo l g h=>tw (pA (h _ _ (jT hb b d l g 0 0 (AW _) (AW _))));simp only[pool,A6,A3,or_false]at j;rcases j with h|h|h|h|h|h|h|h|h|h|h|h|h|h;·rw[eQ (r:=vU) (wd:=0) (by rw[h];rfl),if_pos (by exact b),if_pos rfl];exact jb hb b d h (by decide) λv i=>CL
 · rw[eQ (r:=sE) (wd:=1) (by rw[h];rfl)];by_cases a:n+1+1<=vs.length;·rw[if_pos a,if_neg (by decide)];exact mF (wd:=1) hb b d h (by decide) (by decide) a λv i dist=>C3 dist
   ·rw[if_neg a];exact ja (wd:=1) hb b d h (by decide) a HF λv i hs f=>gk "jmp" 235 hs f
 · rw[eQ (r:=By) (wd:=1) (by rw[h];rfl)];by_cases a:n+1+1<=vs.length;·rw[if_pos a,if_neg (by decide)];exact mF (wd:=1) hb b d h (by decide) (by decide) a λv i dist=>Gw dist
   ·rw[if_neg a];exact ja (wd:=1) hb b d h (by decide) a Kh λv i hs f=>gk "je" 116 hs f
 ·rw[gf (by rw[h];rfl)];exact c 254 h (by decide) λv i e=>ox e
 ·rw[gf (by rw[h];rfl)];exact c 0 h (by decide) λv i e=>rj e
 ·rw[gf (by rw[h];rfl)];exact c 2 h (by decide) λv i e=>qH e
 · rw[eQ (r:=oB) (wd:=1) (by rw[h];rfl)];by_cases a:n+1+1<=vs.length;·rw[if_pos a,if_neg (by decide)];exact mF (wd:=1) hb b d h (by decide) (by decide) a λv i dist=>zZ dist
   ·rw[if_neg a];exact ja (wd:=1) hb b d h (by decide) a EI λv i hs f=>gk "loop" 226 hs f
 ·rw[eQ (r:=vR) (wd:=0) (by rw[h];rfl),if_pos (by exact b),if_pos rfl];exact jb hb b d h (by decide) λv i=>Ee
 ·rw[eQ (r:=v4) (wd:=0) (by rw[h];rfl),if_pos (by exact b),if_pos rfl];exact jb hb b d h (by decide) λv i=>Dv
 ·rw[eQ (r:=wp) (wd:=0) (by rw[h];rfl),if_pos (by exact b),if_pos rfl];exact jb hb b d h (by decide) λv i=>Ds
 ·rw[gf (by rw[h];rfl)];exact c 6 h (by decide) λv i e=>rn e
 · rw[eQ (r:=oY) (wd:=4) (by rw[h];rfl)];by_cases a:n+1+4<=vs.length;·rw[if_pos a,if_neg (by decide)];exact mF (wd:=4) hb b d h (by decide) (by decide) a λv i dist=>Al dist
   ·rw[if_neg a];exact ja (wd:=4) hb b d h (by decide) a EV λv i hs f=>l8 "call" 232 hs f
 ·rw[gf (by rw[h];rfl)];exact c 1 h (by decide) λv i e=>rE e
 ·rw[gf (by rw[h];rfl)];exact c 250 h (by decide) λv i e=>oi e
end
section
variable{k n:Nat}{sc:Scope}{A:Around}{env:Env}{g:Gr}{ask:List Addr}{σ σ' τ:Sig}
theorem gP.weak(R:gP env g Y σ h H)(hs:∀x s,bq τ x=some s->bq σ x=some s):∃H',gP env g Y τ h H'/\Sb H H':=by
 obtain⟨m,c,ad,r⟩:=R;have sub:Sb H (Fz h (c5 env τ ad (dY Y))):=by
  rw[r.isH];rintro a o⟨e,l⟩;refine⟨e,λq=>l ?_⟩;rcases q with q|q|⟨x,k,p,q,z⟩|q;·exact .inl q
  ·exact .inr (.inl q)
  ·exact .inr (.inr (.inl ⟨x,k,p,hs _ _ q,z⟩))
  ·exact .inr (.inr (.inr q))
 refine⟨_,⟨m,c,ad,⟨r.fr,r.ff,r.frs,r.cell,r.apart,rfl,r.held,λx d e=>?_,λx k p e=>?_,λx y k k' p p' f i=>r.one x y k k' p p' (hs _ _ f) (hs _ _ i)⟩⟩,sub⟩;·obtain⟨v,j,b⟩:=r.fro x d (hs _ _ e);exact⟨v,j,b.mono sub⟩
 ·exact(r.own x k p (hs _ _ e)).to rfl rfl sub (λU=>id) id
noncomputable def mG:Fl->Bool|.reto _=>false|_=>true
theorem dW.weak(h:dW A env g d σ fl σ')(hs:∀x s,bq τ x=some s->bq σ' x=some s)(l:mG fl=true):dW A env g d σ fl τ:=by intro Y s H Q E R K;refine h Y s H Q E R λf h' t H' i sub c=>?_;obtain⟨e,j,b⟩:=i.weak hs;refine K f h' t e j (λa o q=>b a o (sub a o q)) ?_;cases f<;>cases fl<;>first|exact c.elim|trivial|exact cx.mono b c|(cases l)
theorem mU:∀x s,bq τ x=some s->bq (τ++e) x=some s:=λx s h=>by rw[sY,h]
theorem dW.pre(h:dW A env g s σ fl (τ++e))(a:mG fl=true):dW A env g s σ fl τ:=h.weak mU a
theorem br.to(h:br k f ds d)(a:k<=m):br m f ds d:=by have:=h.ups (m-k);rwa[show k+(m-k)=m from by exact Nat.add_sub_of_le a]at this
theorem bP.up(h:bP k f ds o):bP (k+1) f ds o:=λA g fr s X args R C=>h A g fr s X args R C.down
theorem bP.to(h:bP k f ds o)(a:k<=m):bP m f ds o:=by induction m with|zero=>rw[show k=0 from by exact Nat.le_zero.1 a]at h;exact h|succ m i=>
 by_cases q:k=m+1;·exact q▸h
 ·exact(i (by exact Nat.le_of_lt_succ (Nat.lt_of_le_of_ne a q))).up
end
noncomputable def bC(vs:List Nat)(n:Nat):Nat:=match vT (vs.getD n 0)with|none=>1|some (r,wd)=>if n+1+wd<=vs.length then 1+wd else 1
noncomputable def cV(r:FormR)(ops:List D):D:=.inst 506 [("name",.str r.1),("operands",.tuple ops),("prefix",.str "")]
noncomputable def fZ(vs:List Nat)(n:Nat):D:=match vT (vs.getD n 0)with|none=>.none|some (r,wd)=>if n+1+wd<=vs.length then cV r (if wd=0 then[]else[eS (cP vs n wd)])else .none
noncomputable def dg(vs:List Nat)(n:Nat):D:=.inst 1063 [("at",.sym n),("octets",.bytes (bj ((vs.drop n).take (bC vs n)))),("text",.str ""),("instruction",fZ vs n)]
theorem cD(vs:List Nat)(n:Nat):0<bC vs n:=by
 unfold bC;split;·decide
 ·split<;>omega
noncomputable def bo(vs:List Nat)(n:Nat):List Nat:=if h:n<vs.length then n::bo vs (n+bC vs n)else[]termination_by vs.length-n decreasing_by have:=cD vs n;exact qr this h
theorem pR(vs:List Nat)(n:Nat):(kL vs n=.none/\fZ vs n=.none/\bC vs n=1)\/∃r ops wd,vT (vs.getD n 0)=some (r,wd)/\n+1+wd<=vs.length/\ops=(if wd=0 then[]else[eS (cP vs n wd)])/\kL vs n=fe r ops (1+wd)/\fZ vs n=cV r ops/\bC vs n=1+wd:=by unfold kL fZ bC;cases h:vT (vs.getD n 0)with|none=>exact .inl ⟨rfl,rfl,rfl⟩|some p=>
 obtain⟨r,wd⟩:=p;by_cases a:n+1+wd<=vs.length;·dsimp only;rw[if_pos a,if_pos a,if_pos a];exact .inr ⟨r,_,wd,rfl,a,rfl,rfl,rfl,rfl⟩
 ·dsimp only;rw[if_neg a,if_neg a,if_neg a];exact .inl ⟨rfl,rfl,rfl⟩
noncomputable def Fr(s:Stmt)(p:Pos):PySem.Expr:=match s with|.While t _ _ _=>t|_=>.Name "" p
noncomputable def B6(s:Stmt):List Stmt:=match s with|.While _ b _ _=>b|_=>[]
def MV(a s:Slot):Prop:=a=s\/(∃i,a=.v (.int i)/\s=.v (.sym i))\/(∃d,a=.v d/\s=.v .any)
def xF(σ τ:Sig):Prop:=∀x s,bq τ x=some s->∃a,bq σ x=some a/\MV a s
section
variable{k n:Nat}{sc:Scope}{A:Around}{env:Env}{g:Gr}{ask:List Addr}{σ σ' τ:Sig}
theorem bD.less{Y:Yd}{m s:PySem.Str->Option Value}{H:Addr->Obj->Prop}{ad:PySem.Str->Addr}(r:bD env g Y σ m s h H ad)(hs:xF σ τ):bD env g Y τ m s h (Fz h (c5 env τ ad (dY Y))) ad/\Sb H (Fz h (c5 env τ ad (dY Y))):=by
 have j:∀x k p,bq τ x=some (.o k p)->bq σ x=some (.o k p):=λx k p e=>by
   obtain⟨C,b,q|⟨i,U,q⟩|⟨d,U,q⟩⟩:=hs x _ e;·rw[b,q]
   ·exact nomatch q
   ·exact nomatch q
 have sub:Sb H (Fz h (c5 env τ ad (dY Y))):=by
   rw[r.isH];rintro a o⟨e,B⟩;refine⟨e,λq=>B ?_⟩;rcases q with q|q|⟨x,k,p,q,z⟩|q;·exact .inl q
   ·exact .inr (.inl q)
   ·exact .inr (.inr (.inl ⟨x,k,p,j _ _ _ q,z⟩))
   ·exact .inr (.inr (.inr q))
 refine⟨⟨r.fr,r.ff,r.frs,r.cell,r.apart,rfl,r.held,λx d e=>?_,λx k p e=>?_,λx y k k' p p' t u=>r.one x y k k' p p' (j _ _ _ t) (j _ _ _ u)⟩,sub⟩
 · obtain⟨C,b,q|⟨i,l,q⟩|⟨E,l,q⟩⟩:=hs x _ e;·subst q;obtain⟨v,c,f⟩:=r.fro x d b;exact⟨v,c,f.mono sub⟩
   ·subst l;obtain rfl:=Mine.Slot.v.inj q;obtain⟨v,c,f⟩:=r.fro x _ b;obtain⟨U,rfl⟩:=f.inv;exact⟨_,c,.sym _ _⟩
   ·subst l;obtain rfl:=Mine.Slot.v.inj q;obtain⟨v,c,f⟩:=r.fro x _ b;exact⟨v,c,.any _⟩
 ·exact(r.own x k p (j _ _ _ e)).to rfl rfl sub (λU=>id) id
theorem Tr.pre(h:Tr A env g e τ b σ')(hs:xF σ τ):Tr A env g e σ b σ':=by intro l s H Q E R K;obtain⟨r,sub⟩:=bD.less R hs;exact h l s _ Q E r λh' t H' d c=>K h' t H' d λa o q=>c a o (sub a o q)
theorem dW.preS(h:dW A env g c τ fl σ')(hs:xF σ τ):dW A env g c σ fl σ':=by rintro Y s H Q E⟨m,e,ad,R⟩K;obtain⟨r,sub⟩:=bD.less R hs;exact h Y s _ Q E ⟨m,e,ad,r⟩ λf h' t H' d b i=>K f h' t H' d (λa o q=>b a o (sub a o q)) i
theorem tV.pre(h:tV A env g t d τ σ')(hs:xF σ τ):tV A env g t d σ σ':=by rintro Y s H v Q E⟨m,e,ad,R⟩f K;obtain⟨r,sub⟩:=bD.less R hs;exact h Y s _ v Q E ⟨m,e,ad,r⟩ (f.mono sub) λh' i H' c b=>K h' i H' c λa o q=>b a o (sub a o q)
theorem c0.pre(h:c0 A env g t b n τ fl σ')(hs:xF σ τ):c0 A env g t b n σ fl σ':=by cases h with|done a=>exact .done (a.pre hs)|next a hb c d=>exact .next (a.pre hs) hb c d|ret a hb=>exact .ret (a.pre hs) hb
theorem fh(h:c.pn=[])(a:Fm c):a.π=λU=>none:=funext λx=>a.pk x (by rw[h];rfl)
theorem i0(c:bT σ=true)(d:bT τ=true)(h:∀a:Fm ⟨k,sc,[],ask⟩,∃n,c0 a.A a.env a.g t b n σ fl τ):um ⟨k,sc,[],ask⟩ t b σ fl τ:=λa=>by rw[fh rfl a,eO c,eO d];exact h a
theorem iF(c:bT σ=true)(d:bT τ=true)(h:∀a:Fm ⟨k,sc,[],ask⟩,d6 a.A a.env a.g t b ds σ fl τ):x8 ⟨k,sc,[],ask⟩ t b ds σ fl τ:=λa=>by rw[fh rfl a,eO c,eO d];exact h a
variable{o:List Orc}{cl:List Claim}
theorem cc(a:Fm ⟨k,sc,[],ask⟩)(h:((cr n).ss ⟨k,sc,[],ask⟩ s σ o).map (λr=>(r.a,r.σ,r.c))=some (fl,τ,cl))(d:bx cl)(b:bT σ=true)(c:bT τ=true):dW a.A a.env a.g s σ fl τ:=by obtain⟨r,e,q⟩:=AD.mp h;simp only[Prod.mk.injEq]at q;have:=r.h (by rw[q.2.2];exact d) a;rw[q.1,q.2.1,fh rfl a,eO b,eO c]at this;exact this
theorem fv(a:Fm ⟨k,sc,[],ask⟩)(h:((cr n).t ⟨k,sc,[],ask⟩ e σ o).map (λr=>(r.a,r.σ,r.c))=some (b,τ,cl))(f:bx cl)(c:bT σ=true)(d:bT τ=true):Tr a.A a.env a.g e σ b τ:=by obtain⟨r,i,q⟩:=AD.mp h;simp only[Prod.mk.injEq]at q;have:=r.h (by rw[q.2.2];exact f) a;rw[q.1,q.2.1,fh rfl a,eO c,eO d]at this;exact this
end
noncomputable abbrev x6(v:Array UInt8)(i:Int)(rows:List D):Sig:=[("iset",.v bv),("octets",.v (.bytes v)),("at",.v (.sym i)),("found",.o (.list rows) none)]
noncomputable abbrev M4(o:D)(e:Int):Sig:=[("one",.v o),("end",.v (.sym e))]
noncomputable def DG(v:Array UInt8)(i e:Int)(ins:D):D:=.inst 1063 [("at",.sym i),("octets",.bytes (KBy.picked v (some i) (some e))),("text",.str ""),("instruction",ins)]
noncomputable def pz:Pos:=⟨0,0,0,0⟩
section
variable{v:Array UInt8}{rows ops:List D}{r:FormR}{i len:Int}
theorem yW:((cr 40).ss ⟨11,cb (kT 117),[],[962]⟩ (B6 (cJ (bz (kT 117)) 1 pz)) (x6 v i rows) [.d .none]).map (λr=>(r.a,r.σ,r.c))=some (.next,x6 v (i+1) (rows++[DG v i (i+1) .none])++M4 .none (i+1),[.p (br 11 962 [bv,.bytes v,.sym i] .none),.le v.size NN,.le rows.length NN]):=by kernel_rfl
theorem xX:((cr 40).ss ⟨11,cb (kT 117),[],[962]⟩ (B6 (cJ (bz (kT 117)) 1 pz)) (x6 v i rows) [.d (fe r ops len)]).map (λr=>(r.a,r.σ,r.c))=some (.next,x6 v (i+len) (rows++[DG v i (i+len) (cV r ops)])++M4 (fe r ops len) (i+len),[.p (br 11 962 [bv,.bytes v,.sym i] (fe r ops len)),.le v.size NN,.le rows.length NN]):=by kernel_rfl
theorem lr(b:Bool):((cr 40).t ⟨11,cb (kT 117),[],[962]⟩ (Fr (cJ (bz (kT 117)) 1 pz) pz) (x6 v i rows) [.b b]).map (λr=>(r.a,r.σ,r.c))=some (b,x6 v i rows,[.le v.size NN,.p (decide (i<v.size)=b)]):=by kernel_rfl
end
section
variable{vs:List Nat}
theorem CQ(vs:List Nat)(n:Nat):DG (bj vs) n ((n:Int)+bC vs n) (fZ vs n)=dg vs n:=by unfold DG dg;rw[show(n:Int)+bC vs n=((n+bC vs n:Nat):Int)from rfl,f9,show n+bC vs n-n=bC vs n from by exact Nat.add_sub_cancel_left _ _]
theorem w0(o:∀x∈vs,x∈pool)(f:vs.length<=11)(l:n<vs.length)(m:rows.length<=11)(a:Fm ⟨11,cb (kT 117),[],[962]⟩):dW a.A a.env a.g (B6 (cJ (bz (kT 117)) 1 pz)) (x6 (bj vs) n rows) .next (x6 (bj vs) ((n+bC vs n:Nat):Int) (rows++[dg vs n])):=by
 have hs:(bj vs).size<=NN:=by rw[bw];exact A1 f (by decide)
 have b:=(uJ o l (A1 f (by decide))).up;have h:rows.length<=NN:=A1 m (by decide);rw[<-CQ,show((n+bC vs n:Nat):Int)=(n:Int)+bC vs n from rfl];rcases pR vs n with⟨c,d,e⟩|⟨r,ops,wd,c,d,e,g,j,k⟩;·rw[c]at b;rw[d,e];exact dW.pre (cc a yW ⟨b,hs,h,trivial⟩ rfl rfl) rfl
 ·rw[g]at b;rw[j,k];have:=dW.pre (cc a (xX (v:=bj vs) (rows:=rows) (ops:=ops) (r:=r) (i:=n) (len:=1+wd)) ⟨b,hs,h,trivial⟩ rfl rfl) rfl;rw[show(1:Int)+wd=((1+wd:Nat):Int)from rfl]at this;exact this
noncomputable def fq(vs:List Nat)(n:Nat):Nat:=if h:n<vs.length then fq vs (n+bC vs n)else n termination_by vs.length-n decreasing_by have:=cD vs n;exact qr this h
theorem wF(j:∀x∈vs,x∈pool)(f:vs.length<=11)(a:Fm ⟨11,cb (kT 117),[],[962]⟩):∀(m n:Nat)(rows:List D),vs.length-n<=m->rows.length<=n->∃N,c0 a.A a.env a.g (Fr (cJ (bz (kT 117)) 1 pz) pz) (B6 (cJ (bz (kT 117)) 1 pz)) N (x6 (bj vs) n rows) .next (x6 (bj vs) (fq vs n:Nat) (rows++(bo vs n).map (dg vs))):=by
 have hs:(bj vs).size<=NN:=by rw[bw];exact A1 f (by decide)
 intro m;induction m with|zero=>
   intro n rows b e;have d:bo vs n=[]:=by rw[bo,dif_neg (by exact Nat.not_lt_of_le (Nat.le_of_sub_eq_zero (Nat.le_zero.1 b)))]
   have c:fq vs n=n:=by rw[fq,dif_neg (by exact Nat.not_lt_of_le (Nat.le_of_sub_eq_zero (Nat.le_zero.1 b)))]
   refine⟨0,?_⟩;rw[d,c,List.map_nil,List.append_nil];exact .done (fv a (lr false) ⟨hs,AI (by rw[bw];exactλz=>Nat.not_le_of_gt (Aa.1 z) (Nat.le_of_sub_eq_zero (Nat.le_zero.1 b))),trivial⟩ rfl rfl)|succ m l=>
   intro n rows b e;by_cases h:n<vs.length
   · have g:=cD vs n;obtain⟨N,k⟩:=l (n+bC vs n) (rows++[dg vs n]) (by exact Nat.le_of_lt_succ (AO (qr g h) b)) (by rw[AX];show rows.length+1<=_;exact Nat.add_le_add e g);have d:bo vs n=n::bo vs (n+bC vs n):=by rw[bo,dif_pos h]
     have c:fq vs n=fq vs (n+bC vs n):=by rw[fq,dif_pos h]
     refine⟨N+1,?_⟩;rw[d,c,AS,show rows++dg vs n::(bo vs (n+bC vs n)).map (dg vs)=(rows++[dg vs n])++(bo vs (n+bC vs n)).map (dg vs)from by simp];exact .next (fv a (lr true) ⟨hs,AB (by rw[bw];exact Aa.2 h),trivial⟩ rfl rfl) (w0 j f h (by exact A1 e (A1 (Nat.le_of_lt h) f)) a) (.inl rfl) k
   · have d:bo vs n=[]:=by rw[bo,dif_neg h]
     have c:fq vs n=n:=by rw[fq,dif_neg h]
     refine⟨0,?_⟩;rw[d,c,List.map_nil,List.append_nil];exact .done (fv a (lr false) ⟨hs,AI (by rw[bw];exactλz=>h (Aa.1 z)),trivial⟩ rfl rfl)
noncomputable abbrev LY(v:Array UInt8):Sig:=[("iset",.v bv),("octets",.v (.bytes v)),("at",.v (.int 0)),("found",.o (.list []) none)]
theorem y9(v:Array UInt8)(i:Int)(rows:List D):(b8 40 11 [962] fW [bv,.bytes v] [.w .next (x6 v i rows)]).map (λr=>(r.a,r.c))=some (.reto (.list rows),[.p (um ⟨11,cb (kT 117),[],[962]⟩ (Fr (cJ (bz (kT 117)) 1 pz) pz) (B6 (cJ (bz (kT 117)) 1 pz)) (LY v) .next (x6 v i rows))]):=by kernel_rfl
theorem xF.refl(σ:Sig):xF σ σ:=λx s h=>⟨s,h,.inl rfl⟩
theorem xF.cons(c:MV a b)(d:xF σ τ):xF ((y,a)::σ) ((y,b)::τ):=by intro x s h;unfold bq at h⊢;rw[AK]at h⊢;cases q:x==y with|true=>rw[q]at h;obtain rfl:=A0 h;exact⟨a,rfl,c⟩|false=>rw[q]at h;exact d x s h
theorem IM(v:Array UInt8)(f:Slot):xF [("iset",.v bv),("octets",.v (.bytes v)),("at",.v (.int 0)),("found",f)] [("iset",.v bv),("octets",.v (.bytes v)),("at",.v (.sym 0)),("found",f)]:=.cons (.inl rfl) (.cons (.inl rfl) (.cons (.inr (.inl ⟨0,rfl,rfl⟩)) (.refl _)))
theorem eF(a:∀x∈vs,x∈pool)(b:vs.length<=11):bP 12 1110 [bv,.bytes (bj vs)] (.list ((bo vs 0).map (dg vs))):=by refine dF fW rfl (y9 (bj vs) (fq vs 0:Nat) _) ⟨i0 rfl rfl λc=>?_,trivial⟩;obtain⟨N,h⟩:=wF a b c vs.length 0 [] (by exact Nat.sub_le _ _) (by decide);rw[List.nil_append]at h;exact⟨N,h.pre (IM _ _)⟩
end
section
variable{σ τ:Sig}{o:List Orc}{cl:List Claim}
theorem ie{k:Nat}{sc:Scope}{ask:List Addr}{t:PySem.Expr}{d:D}(a:Fm ⟨k,sc,[],ask⟩)(h:(nV ⟨k,sc,[],ask⟩ t d σ o).map (λr=>(r.σ,r.c))=some (τ,cl))(f:bx cl)(b:bT σ=true)(c:bT τ=true):tV a.A a.env a.g t d σ τ:=by obtain⟨r,e,q⟩:=AD.mp h;simp only[Prod.mk.injEq]at q;have:=r.h (by rw[q.2];exact f) a;rw[q.1,fh rfl a,eO b,eO c]at this;exact this
end
noncomputable def bK(i:Int)(bs:Array UInt8)(ins:D):D:=.inst 1063 [("at",.sym i),("octets",.bytes bs),("text",.str ""),("instruction",ins)]
noncomputable abbrev mx(v:Array UInt8)(acc:List (Int×D)):Sig:=[("iset",.v bv),("octets",.v (.bytes v)),("found",.o (.dict acc) none)]
noncomputable abbrev jo(v:Array UInt8)(acc:List (Int×D))(a:D):Sig:=[("iset",.v bv),("octets",.v (.bytes v)),("found",.o (.dict acc) none),("row",.v a)]
noncomputable abbrev Bf(a t:D):Sig:=[("row",.v a),("target",.v t)]
noncomputable abbrev B1:Ct:=⟨14,cb (kT 119),[],[1110]⟩
noncomputable abbrev Eg:List Stmt:=jB (cJ (bz (kT 119)) 1 pz)
section
variable{v bs:Array UInt8}{acc:List (Int×D)}{ops xs:List D}{r:FormR}{i dist:Int}
theorem DE:((cr 40).ss B1 Eg (jo v acc (bK i bs .none)) []).map (λr=>(r.a,r.σ,r.c))=some (.next,mx v acc++Bf (bK i bs .none) .none,[]):=by kernel_rfl
theorem w2:((cr 40).ss B1 Eg (jo v acc (bK i bs (cV r []))) []).map (λr=>(r.a,r.σ,r.c))=some (.next,mx v acc++Bf (bK i bs (cV r [])) .none,[]):=by kernel_rfl
theorem Cz:((cr 40).ss B1 Eg (jo v acc (bK i bs (cV r [eS dist]))) [.b false]).map (λr=>(r.a,r.σ,r.c))=some (.next,mx v acc++Bf (bK i bs (cV r [eS dist])) (.sym (i+bs.size+dist)),[.le bs.size NN,.p (decide (0<=i+bs.size+dist)=false)]):=by kernel_rfl
theorem yX:((cr 40).ss B1 Eg (jo v acc (bK i bs (cV r [eS dist]))) [.b true,.b false]).map (λr=>(r.a,r.σ,r.c))=some (.next,mx v acc++Bf (bK i bs (cV r [eS dist])) (.sym (i+bs.size+dist)),[.le bs.size NN,.p (decide (0<=i+bs.size+dist)=true),.le v.size NN,.p (decide (i+bs.size+dist<v.size)=false)]):=by kernel_rfl
theorem EH:((cr 40).ss B1 Eg (jo v acc (bK i bs (cV r [eS dist]))) [.b true,.b true,.d (.list [])]).map (λr=>(r.a,r.σ,r.c))=some (.next,mx v (bL acc (i+bs.size+dist) (.slist ([]++[.sym i])))++Bf (bK i bs (cV r [eS dist])) (.sym (i+bs.size+dist)),[.le bs.size NN,.p (decide (0<=i+bs.size+dist)=true),.le v.size NN,.p (decide (i+bs.size+dist<v.size)=true),.p ((dc acc (i+bs.size+dist)).getD (.list [])=.list []),.le (0+1) NN,.le acc.length NN]):=by kernel_rfl
theorem BE:((cr 40).ss B1 Eg (jo v acc (bK i bs (cV r [eS dist]))) [.b true,.b true,.d (.slist xs)]).map (λr=>(r.a,r.σ,r.c))=some (.next,mx v (bL acc (i+bs.size+dist) (.slist (xs++[.sym i])))++Bf (bK i bs (cV r [eS dist])) (.sym (i+bs.size+dist)),[.le bs.size NN,.p (decide (0<=i+bs.size+dist)=true),.le v.size NN,.p (decide (i+bs.size+dist<v.size)=true),.p ((dc acc (i+bs.size+dist)).getD (.list [])=.slist xs),.le (xs.length+1) NN,.le acc.length NN]):=by kernel_rfl
theorem Cd(a:D):(nV B1 (eU (cJ (bz (kT 119)) 1 pz) pz) a (mx v acc) []).map (λr=>(r.σ,r.c))=some (jo v acc a,[]):=by kernel_rfl
end
noncomputable def cB(vs:List Nat)(n:Nat):Option Int:=match vT (vs.getD n 0)with|none=>none|some (r,wd)=>if n+1+wd<=vs.length then(if wd=0 then none else some ((n:Int)+(1+wd)+cP vs n wd))else none
noncomputable def gh(m:List (Int×List D))(k:Int)(d:List D):List (Int×List D):=if m.any (λp=>p.1=k)then m.map (λp=>if p.1=k then(p.1,d)else p)else m++[(k,d)]
noncomputable def gW(m:List (Int×List D))(k:Int):Option (List D):=(m.find? λp=>p.1=k).map (·.2)
noncomputable def dP(m:List (Int×List D)):List (Int×D):=m.map λp=>(p.1,.slist p.2)
theorem oE(m:List (Int×List D))(k:Int)(d:List D):bL (dP m) k (.slist d)=dP (gh m k d):=by
 unfold bL gh dP;have e:(m.map λp:Int×List D=>((p.1,D.slist p.2):Int×D)).any (λp=>decide (p.1=k))=m.any λp=>decide (p.1=k):=by rw[List.any_map];rfl
 rw[e];cases m.any λp=>decide (p.1=k)with|false=>rw[if_neg (by decide),if_neg (by decide),List.map_append];rfl|true=>
  rw[if_pos rfl,if_pos rfl,List.map_map,List.map_map];refine List.map_congr_left λp U=>?_;simp only[Function.comp_apply];by_cases h:p.1=k;·rw[if_pos h,if_pos h]
  ·rw[if_neg h,if_neg h]
theorem iQ(m:List (Int×List D))(k:Int):dc (dP m) k=(gW m k).map D.slist:=by unfold dc gW dP;rw[List.find?_map];cases h:List.find? ((λp:Int×D=>decide (p.1=k))∘λp:Int×List D=>(p.1,D.slist p.2)) m with|none=>have:List.find? (λp:Int×List D=>decide (p.1=k)) m=none:=h;rw[this];rfl|some q=>have:List.find? (λp:Int×List D=>decide (p.1=k)) m=some q:=h;rw[this];rfl
noncomputable def cO(vs:List Nat)(m:List (Int×List D))(n:Nat):List (Int×List D):=match cB vs n with|none=>m|some t=>if 0<=t/\t<vs.length then gh m t ((gW m t).getD []++[.sym n])else m
theorem lf(vs:List Nat)(n:Nat):(fZ vs n=.none/\cB vs n=none)\/(∃r,fZ vs n=cV r []/\cB vs n=none)\/∃r dist,fZ vs n=cV r [eS dist]/\cB vs n=some ((n:Int)+bC vs n+dist):=by unfold fZ cB bC;cases h:vT (vs.getD n 0)with|none=>exact .inl ⟨rfl,rfl⟩|some p=>
   obtain⟨r,wd⟩:=p;dsimp only;by_cases a:n+1+wd<=vs.length
   · rw[if_pos a,if_pos a,if_pos a];by_cases b:wd=0;·rw[if_pos b,if_pos b];exact .inr (.inl ⟨r,rfl,rfl⟩)
     ·rw[if_neg b,if_neg b];exact .inr (.inr ⟨r,_,rfl,rfl⟩)
   ·rw[if_neg a,if_neg a];exact .inl ⟨rfl,rfl⟩
theorem oW(vs:List Nat)(h:n<vs.length):n+bC vs n<=vs.length:=by
 unfold bC;split;·exact h
 ·split<;>omega
theorem iz(vs:List Nat)(h:n<vs.length):((bj ((vs.drop n).take (bC vs n))).size:Int)=bC vs n:=by have:=oW vs h;rw[bw,List.length_take,List.length_drop];exact congrArg Nat.cast (Nat.min_eq_left (Nat.le_sub_of_add_le' this))
theorem ur(m:List (Int×List D))(k:Int)(d:List D):(gh m k d).length<=m.length+1:=by
 unfold gh;split;·rw[AM];exact AV _
 ·rw[AX];exact AT _
section
variable{vs:List Nat}
theorem yh(x:vs.length<=11)(u:n<vs.length)(A:m.length<=11)(B:∀k xs,gW m k=some xs->xs.length<=11)(b:Fm B1):dW b.A b.env b.g Eg (jo (bj vs) (dP m) (dg vs n)) .next (mx (bj vs) (dP (cO vs m n))):=by
 have hs:(bj vs).size<=NN:=by rw[bw];exact A1 x (by decide)
 have j:=iz vs u;have a:(bj ((vs.drop n).take (bC vs n))).size<=NN:=by
   have:=oW vs u;have d:(bj ((vs.drop n).take (bC vs n))).size=bC vs n:=by exact Int.ofNat.inj j
   rw[d];show _<=16777216;exact wk (A1 (Nat.le_add_left _ _) (A1 this x)) rfl
 have c:(dP m).length<=NN:=by unfold dP;rw[AM];show _<=16777216;exact wk A rfl
 have y:dg vs n=bK n (bj ((vs.drop n).take (bC vs n))) (fZ vs n):=rfl;rw[y];unfold cO;rcases lf vs n with⟨f,d⟩|⟨r,f,d⟩|⟨r,dist,f,d⟩;·rw[f,d];exact dW.pre (cc b DE trivial rfl rfl) rfl
 ·rw[f,d];exact dW.pre (cc b w2 trivial rfl rfl) rfl
 · rw[f,d,<-j];dsimp only;generalize h:(n:Int)+((bj ((vs.drop n).take (bC vs n))).size:Int)+dist=t;by_cases e:0<=t
   · by_cases l:t<vs.length;·rw[if_pos ⟨e,l⟩];have p:decide (0<=(n:Int)+((bj ((vs.drop n).take (bC vs n))).size:Int)+dist)=true:=AB (by rw[h];exact e);have s:decide ((n:Int)+((bj ((vs.drop n).take (bC vs n))).size:Int)+dist<(bj vs).size)=true:=AB (by rw[h,bw];exact l);rw[<-oE,<-h];cases g:gW m t with|none=>rw[h,g];have:=dW.pre (cc b (EH (v:=bj vs) (bs:=bj ((vs.drop n).take (bC vs n))) (acc:=dP m) (r:=r) (i:=n) (dist:=dist)) ⟨a,p,hs,s,by show(dc _ _).getD _=_;rw[h,iQ,g];rfl,by show 0+1<=16777216;decide,c,trivial⟩ rfl rfl) rfl;rw[h]at this;exact this|some xs=>rw[h,g];have z:=B t xs g;have:=dW.pre (cc b (BE (v:=bj vs) (bs:=bj ((vs.drop n).take (bC vs n))) (acc:=dP m) (xs:=xs) (r:=r) (i:=n) (dist:=dist)) ⟨a,p,hs,s,by show(dc _ _).getD _=_;rw[h,iQ,g];rfl,by show xs.length+1<=16777216;exact wk (AE z) rfl,c,trivial⟩ rfl rfl) rfl;rw[h]at this;exact this
     ·rw[if_neg (λq=>l q.2)];exact dW.pre (cc b yX ⟨a,AB (by rw[h];exact e),hs,AI (by rw[h,bw];exact l),trivial⟩ rfl rfl) rfl
   ·rw[if_neg (λq=>e q.1)];exact dW.pre (cc b Cz ⟨a,AI (by rw[h];exact e),trivial⟩ rfl rfl) rfl
end
theorem d9(vs:List Nat)(n:Nat):∀x∈bo vs n,x<vs.length:=by suffices h:∀m n,vs.length-n<=m->∀x∈bo vs n,x<vs.length from h _ n (AT _);intro m;induction m with|zero=>intro n c x a;rw[bo,dif_neg (by exact Nat.not_lt_of_le (Nat.le_of_sub_eq_zero (Nat.le_zero.1 c)))]at a;exact absurd a A3|succ m i=>
   intro n c x a;by_cases b:n<vs.length
   · rw[bo,dif_pos b]at a;have d:=cD vs n;rcases A6.mp a with rfl|a;·exact b
     ·exact i _ (by exact Nat.le_of_lt_succ (AO (qr d b) c)) x a
   ·rw[bo,dif_neg b]at a;exact absurd a A3
theorem eD(vs:List Nat)(n:Nat):(bo vs n).length<=vs.length-n:=by suffices h:∀m n,vs.length-n<=m->(bo vs n).length<=vs.length-n from h _ n (AT _);intro m;induction m with|zero=>intro n b;rw[bo,dif_neg (by exact Nat.not_lt_of_le (Nat.le_of_sub_eq_zero (Nat.le_zero.1 b)))];exact AW _|succ m i=>
 intro n b;by_cases a:n<vs.length;·have c:=cD vs n;have:=i (n+bC vs n) (by exact Nat.le_of_lt_succ (AO (qr c a) b));rw[bo,dif_pos a,AJ];exact AR this (qr c a)
 ·rw[bo,dif_neg a];exact AW _
theorem ub(m:List (Int×List D))(k j:Int)(d:List D):gW (gh m k d) j=if j=k then some d else gW m j:=by
 unfold gh gW;induction m with|nil=>
   by_cases h:j=k;·subst h;simp
   ·have:¬k=j:=λe=>h e.symm;simp[h,this]|cons p r i=>
   by_cases a:p.1=k
   · have b:((p::r).any λq=>decide (q.1=k))=true:=by simp[a]
     rw[if_pos b,AS,if_pos a,List.find?_cons,List.find?_cons];by_cases h:j=k;·subst h;rw[if_pos rfl,show decide (p.1=j)=true from AB a];rfl
     ·have g:¬p.1=j:=λe=>h (e.symm.trans a);rw[if_neg h,show decide (p.1=j)=false from AI g];dsimp only;clear i b;induction r with|nil=>rfl|cons q r i=>
         rw[AS,List.find?_cons,List.find?_cons];by_cases c:q.1=k;·have l:¬q.1=j:=λe=>h (e.symm.trans c);rw[if_pos c,show decide (q.1=j)=false from AI l];exact i
         ·rw[if_neg c];cases decide (q.1=j)with|true=>rfl|false=>exact i
   · have b:((p::r).any λq=>decide (q.1=k))=r.any λq=>decide (q.1=k):=by simp[a]
     rw[b];cases f:r.any λq=>decide (q.1=k)with|true=>
       rw[f,if_pos rfl]at i;rw[if_pos rfl,AS,if_neg a,List.find?_cons,List.find?_cons];by_cases h:p.1=j;·have:¬j=k:=λe=>a (h.trans e);rw[show decide (p.1=j)=true from AB h,if_neg this]
       ·rw[show decide (p.1=j)=false from AI h];exact i|false=>
       rw[f,if_neg (by decide)]at i;rw[if_neg (by decide),List.cons_append,List.find?_cons,List.find?_cons];by_cases h:p.1=j;·have:¬j=k:=λe=>a (h.trans e);rw[show decide (p.1=j)=true from AB h,if_neg this]
       ·rw[show decide (p.1=j)=false from AI h];exact i
theorem iU(vs:List Nat)(m:List (Int×List D))(n:Nat):(cO vs m n).length<=m.length+1:=by
 unfold cO;split;·exact AV _
 · split;·exact ur _ _ _
   ·exact AV _
set_option tactic.hygienic true in theorem l4(vs:List Nat)(m:List (Int×List D))(n:Nat)(h:∀k xs,gW m k=some xs->xs.length<=c):∀k xs,gW (cO vs m n) k=some xs->xs.length<=c+1:=by
 intro k xs hk;unfold cO at hk;split at hk;·exact Nat.le_succ_of_le (h k xs hk)
 · rename_i t _;split at hk
   · rw[ub]at hk;split at hk;·obtain rfl:=A0 hk;rw[AX];cases a:gW m t with|none=>show 0+1<=c+1;omega|some ys=>have:=h t ys a;show ys.length+1<=c+1;exact AE this
     ·exact Nat.le_succ_of_le (h k xs hk)
   ·exact Nat.le_succ_of_le (h k xs hk)
section
variable{vs:List Nat}
theorem ye(i:vs.length<=11)(a:Fm B1):∀(ns:List Nat)(m:List (Int×List D))(c:Nat),(∀x∈ns,x<vs.length)->m.length<=c->(∀k xs,gW m k=some xs->xs.length<=c)->c+ns.length<=11->d6 a.A a.env a.g (eU (cJ (bz (kT 119)) 1 pz) pz) Eg (ns.map (dg vs)) (mx (bj vs) (dP m)) .next (mx (bj vs) (dP (ns.foldl (cO vs) m))):=by intro ns;induction ns with|nil=>intro m c _ _ _ _;exact .nil|cons n ns j=>intro m c b d f h;rw[AJ]at h;rw[AS,List.foldl_cons];exact .next (ie a (Cd (dg vs n)) trivial rfl rfl) (yh i (b n A4) (by exact A1 d (A1 (A7 _ _) h)) (λk xs e=>by have:=f k xs e;exact A1 this (A1 (A7 _ _) h)) a) (.inl rfl) (j _ (c+1) (λx g=>b x (A5 _ g)) (by have:=iU vs m n;exact A1 this (AE d)) (l4 vs m n f) (by exact A1 (AL (Nat.succ_add_eq_add_succ _ _)) h))
theorem BF(v:Array UInt8)(rows:List D)(acc:List (Int×D)):(b8 40 14 [1110] fY [bv,.bytes v] [.o .none (.list rows),.w .next (mx v acc)]).map (λr=>(r.a,r.c))=some (.reto (.dict acc),[.p (bP 14 1110 [bv,.bytes v] (.list rows)),.p (x8 B1 (eU (cJ (bz (kT 119)) 1 pz) pz) Eg rows (mx v []) .next (mx v acc))]):=by kernel_rfl
noncomputable def ju(vs:List Nat):List (Int×List D):=(bo vs 0).foldl (cO vs) []
theorem pH(b:∀x∈vs,x∈pool)(h:vs.length<=11):bP 15 1124 [bv,.bytes (bj vs)] (.dict (dP (ju vs))):=by refine dF fY rfl (BF (bj vs) _ _) ⟨(eF b h).to (by decide),iF rfl rfl λc=>?_,trivial⟩;have a:=eD vs 0;exact ye h c (bo vs 0) [] 0 (d9 vs 0) (by decide) (λk xs e=>by exact ca e) (by exact A1 (AL (Nat.zero_add _)) (A1 a h))
end
section
variable{v:Array UInt8}{r:FormR}{ops rows:List D}{i len:Int}
theorem BM:(b8 40 11 [962] dO [bv,.bytes v,.sym i] [.d .none]).map (λr=>(r.a,r.c))=some (.ret (.sym (i+1)),[.p (br 11 962 [bv,.bytes v,.sym i] .none)]):=by kernel_rfl
theorem x2:(b8 40 11 [962] dO [bv,.bytes v,.sym i] [.d (fe r ops len)]).map (λr=>(r.a,r.c))=some (.ret (.sym (i+len)),[.p (br 11 962 [bv,.bytes v,.sym i] (fe r ops len))]):=by kernel_rfl
noncomputable abbrev Ku:Ct:=⟨13,cb (kT 115),[],[1088]⟩
noncomputable abbrev IE:PySem.Expr:=Fr (cJ (bz (kT 115)) 1 pz) pz
noncomputable abbrev Ir:List Stmt:=B6 (cJ (bz (kT 115)) 1 pz)
noncomputable abbrev tO(v:Array UInt8)(a:Slot)(rows:List D):Sig:=[("iset",.v bv),("octets",.v (.bytes v)),("at",a),("found",.o (.list rows) none)]
theorem vI(b:Bool):((cr 40).t Ku IE (tO v (.v (.sym i)) rows) [.b b]).map (λr=>(r.a,r.σ,r.c))=some (b,tO v (.v (.sym i)) rows,[.le v.size NN,.p (decide (i<v.size)=b)]):=by kernel_rfl
theorem Cg(j:Int):((cr 40).ss Ku Ir (tO v (.v (.sym i)) rows) [.d (.sym j)]).map (λr=>(r.a,r.σ,r.c))=some (.next,tO v (.v (.sym j)) (rows++[.sym i]),[.le rows.length NN,.p (br 13 1088 [bv,.bytes v,.sym i] (.sym j))]):=by kernel_rfl
theorem Dr:(b8 40 13 [1088] iD [bv,.bytes v] [.w .next (tO v (.v (.sym i)) rows)]).map (λr=>(r.a,r.c))=some (.reto (.list rows),[.p (um Ku IE Ir (tO v (.v (.int 0)) []) .next (tO v (.v (.sym i)) rows))]):=by kernel_rfl
theorem Ci(n:Int):(b8 40 13 [1088] iE [bv,.bytes v,.sym n] [.w .next (tO v (.v (.sym i)) rows)]).map (λr=>(r.a,r.c))=some (.reto (.list rows),[.p (um Ku IE Ir (tO v (.v (.sym (if 0>n then 0 else n))) []) .next (tO v (.v (.sym i)) rows))]):=by kernel_rfl
end
section
variable{vs:List Nat}
theorem qy(g:∀x∈vs,x∈pool)(j:vs.length<=11)(f:n<vs.length):br 12 1088 [bv,.bytes (bj vs),.sym n] (.sym ((n+bC vs n:Nat):Int)):=by
 have h:=(uJ g f (A1 j (by decide))).up;rw[show((n+bC vs n:Nat):Int)=(n:Int)+bC vs n from rfl];rcases pR vs n with⟨a,c,b⟩|⟨r,ops,wd,a,c,b,d,k,e⟩;·rw[a]at h;rw[b];exact bp dO rfl BM ⟨h,trivial⟩
 ·rw[d]at h;rw[e];have:=bp dO rfl (x2 (v:=bj vs) (r:=r) (ops:=ops) (i:=n) (len:=1+wd)) ⟨h,trivial⟩;exact this
noncomputable def bm(ns:List Nat):List D:=ns.map λn=>.sym ((n:Nat):Int)
theorem wl(k:∀x∈vs,x∈pool)(j:vs.length<=11)(a:Fm Ku):∀(m n:Nat)(rows:List D),vs.length-n<=m->rows.length+(vs.length-n)<=11->∃N,c0 a.A a.env a.g IE Ir N (tO (bj vs) (.v (.sym n)) rows) .next (tO (bj vs) (.v (.sym (fq vs n:Nat))) (rows++bm (bo vs n))):=by
 have hs:(bj vs).size<=NN:=by rw[bw];exact A1 j (by decide)
 have s:∀(n:Nat)(rows:List D),¬n<vs.length->∃N,c0 a.A a.env a.g IE Ir N (tO (bj vs) (.v (.sym n)) rows) .next (tO (bj vs) (.v (.sym (fq vs n:Nat))) (rows++bm (bo vs n))):=by
   intro n rows h;have f:bo vs n=[]:=by rw[bo,dif_neg h]
   have d:fq vs n=n:=by rw[fq,dif_neg h]
   refine⟨0,?_⟩;rw[f,d];show c0 a.A a.env a.g IE Ir 0 (tO (bj vs) (.v (.sym n)) rows) .next (tO (bj vs) (.v (.sym n)) (rows++[]));rw[List.append_nil];exact .done (fv a (vI false) ⟨hs,AI (by rw[bw];exactλz=>h (Aa.1 z)),trivial⟩ rfl rfl)
 intro m;induction m with|zero=>intro n rows b c;exact s n rows (by exact Nat.not_lt_of_le (Nat.le_of_sub_eq_zero (Nat.le_zero.1 b)))|succ m o=>
   intro n rows b c;by_cases h:n<vs.length
   · have g:=cD vs n;obtain⟨N,l⟩:=o (n+bC vs n) (rows++[.sym n]) (by exact Nat.le_of_lt_succ (AO (qr g h) b)) (by rw[AX];show rows.length+1+_<=11;exact st (qr g h) c);have f:bo vs n=n::bo vs (n+bC vs n):=by rw[bo,dif_pos h]
     have d:fq vs n=fq vs (n+bC vs n):=by rw[fq,dif_pos h]
     refine⟨N+1,?_⟩;rw[f,d];have e:rows++bm (n::bo vs (n+bC vs n))=(rows++[.sym ((n:Nat):Int)])++bm (bo vs (n+bC vs n)):=by unfold bm;simp
     rw[e];exact .next (fv a (vI true) ⟨hs,AB (by rw[bw];exact Aa.2 h),trivial⟩ rfl rfl) (cc a (Cg _) ⟨by show rows.length<=16777216;exact wk (A1 (A7 _ _) c) rfl,(qy k j h).up,trivial⟩ rfl rfl) (.inl rfl) l
   ·exact s n rows h
theorem xg(b:∀x∈vs,x∈pool)(a:vs.length<=11):bP 14 1096 [bv,.bytes (bj vs)] (.list (bm (bo vs 0))):=by refine dF iD rfl (Dr (i:=(fq vs 0:Nat))) ⟨i0 rfl rfl λc=>?_,trivial⟩;obtain⟨N,h⟩:=wl b a c vs.length 0 [] (by exact Nat.sub_le _ _) (by show 0+_<=11;exact A1 (AL (Nat.zero_add _)) a);exact⟨N,h.pre (IM _ _)⟩
theorem uj(b:∀x∈vs,x∈pool)(a:vs.length<=11)(n:Nat):bP 14 1096 [bv,.bytes (bj vs),.sym n] (.list (bm (bo vs n))):=by refine dF iE rfl (Ci (i:=(fq vs n:Nat)) n) ⟨i0 rfl rfl λc=>?_,trivial⟩;obtain⟨N,h⟩:=wl b a c (vs.length-n) n [] (by exact AT _) (by show 0+_<=11;exact A1 (AL (Nat.zero_add _)) (A1 (Nat.sub_le _ _) a));rw[if_neg (by exact Int.not_lt.2 (AP _))];exact⟨N,h⟩
end
noncomputable abbrev DJ:Ct:=⟨14,cb (kT 118),[],[1110]⟩
noncomputable abbrev Ft:List Stmt:=jB (cJ (bz (kT 118)) 1 pz)
section
variable{v bs:Array UInt8}{acc:List (Int×D)}{ops xs:List D}{r:FormR}{i dist:Int}
theorem Ez:((cr 40).ss DJ Ft (jo v acc (bK i bs .none)) []).map (λr=>(r.a,r.σ,r.c))=some (.next,mx v acc++Bf (bK i bs .none) .none,[]):=by kernel_rfl
theorem wY:((cr 40).ss DJ Ft (jo v acc (bK i bs (cV r []))) []).map (λr=>(r.a,r.σ,r.c))=some (.next,mx v acc++Bf (bK i bs (cV r [])) .none,[]):=by kernel_rfl
theorem CD:((cr 40).ss DJ Ft (jo v acc (bK i bs (cV r [eS dist]))) [.b false]).map (λr=>(r.a,r.σ,r.c))=some (.next,mx v acc++Bf (bK i bs (cV r [eS dist])) (.sym (i+bs.size+dist)),[.le bs.size NN,.p (decide (0<=i+bs.size+dist)=false)]):=by kernel_rfl
theorem yu:((cr 40).ss DJ Ft (jo v acc (bK i bs (cV r [eS dist]))) [.b true,.b false]).map (λr=>(r.a,r.σ,r.c))=some (.next,mx v acc++Bf (bK i bs (cV r [eS dist])) (.sym (i+bs.size+dist)),[.le bs.size NN,.p (decide (0<=i+bs.size+dist)=true),.le v.size NN,.p (decide (i+bs.size+dist<v.size)=false)]):=by kernel_rfl
theorem HP:((cr 40).ss DJ Ft (jo v acc (bK i bs (cV r [eS dist]))) [.b true,.b true]).map (λr=>(r.a,r.σ,r.c))=some (.next,mx v (bL acc (i+bs.size+dist) (.bool true))++Bf (bK i bs (cV r [eS dist])) (.sym (i+bs.size+dist)),[.le bs.size NN,.p (decide (0<=i+bs.size+dist)=true),.le v.size NN,.p (decide (i+bs.size+dist<v.size)=true),.le acc.length NN]):=by kernel_rfl
theorem E3(a:D):(nV DJ (eU (cJ (bz (kT 118)) 1 pz) pz) a (mx v acc) []).map (λr=>(r.σ,r.c))=some (jo v acc a,[]):=by kernel_rfl
theorem ze(rows:List D):(b8 40 14 [1110] gm [bv,.bytes v] [.o .none (.list rows),.w .next (mx v acc)]).map (λr=>(r.a,r.c))=some (.ret (.slist ((cY (acc.map (·.1))).map D.sym)),[.p (bP 14 1110 [bv,.bytes v] (.list rows)),.p (x8 DJ (eU (cJ (bz (kT 118)) 1 pz) pz) Ft rows (mx v []) .next (mx v acc)),.le (acc.length+1) 64]):=by kernel_rfl
end
noncomputable def fN(vs:List Nat)(m:List (Int×D))(n:Nat):List (Int×D):=match cB vs n with|none=>m|some t=>if 0<=t/\t<vs.length then bL m t (.bool true)else m
theorem db(m:List (Int×D))(k:Int)(d:D):(bL m k d).length<=m.length+1:=by
 unfold bL;split;·rw[AM];exact AV _
 ·rw[AX];exact AT _
theorem lS(vs:List Nat)(m:List (Int×D))(n:Nat):(fN vs m n).length<=m.length+1:=by
 unfold fN;split;·exact AV _
 · split;·exact db _ _ _
   ·exact AV _
theorem sd(vs:List Nat):∀(ns:List Nat)(m:List (Int×D)),(ns.foldl (fN vs) m).length<=m.length+ns.length|[],m=>AT _|n::ns,m=>by have:=sd vs ns (fN vs m n);have:=lS vs m n;rw[List.foldl_cons,AJ];exact A1 (by assumption) (A1 (Ae this _) (AL (Nat.succ_add_eq_add_succ _ _)))
section
variable{vs:List Nat}
theorem zF(k:vs.length<=11)(j:n<vs.length)(o:m.length<=11)(a:Fm DJ):dW a.A a.env a.g Ft (jo (bj vs) m (dg vs n)) .next (mx (bj vs) (fN vs m n)):=by
 have hs:(bj vs).size<=NN:=by rw[bw];exact A1 k (by decide)
 have f:=iz vs j;have b:(bj ((vs.drop n).take (bC vs n))).size<=NN:=by
   have:=oW vs j;have h:(bj ((vs.drop n).take (bC vs n))).size=bC vs n:=by exact Int.ofNat.inj f
   rw[h];show _<=16777216;exact wk (A1 (Nat.le_add_left _ _) (A1 this k)) rfl
 have e:m.length<=NN:=by show _<=16777216;exact wk o rfl
 have l:dg vs n=bK n (bj ((vs.drop n).take (bC vs n))) (fZ vs n):=rfl;rw[l];unfold fN;rcases lf vs n with⟨d,h⟩|⟨r,d,h⟩|⟨r,dist,d,h⟩;·rw[d,h];exact dW.pre (cc a Ez trivial rfl rfl) rfl
 ·rw[d,h];exact dW.pre (cc a wY trivial rfl rfl) rfl
 · rw[d,h,<-f];dsimp only;by_cases c:0<=(n:Int)+((bj ((vs.drop n).take (bC vs n))).size:Int)+dist
   · by_cases g:(n:Int)+((bj ((vs.drop n).take (bC vs n))).size:Int)+dist<vs.length;·rw[if_pos ⟨c,g⟩];exact dW.pre (cc a HP ⟨b,AB c,hs,AB (by rw[bw vs];exact g),e,trivial⟩ rfl rfl) rfl
     ·rw[if_neg (λq=>g q.2)];exact dW.pre (cc a yu ⟨b,AB c,hs,AI (by rw[bw vs];exact g),trivial⟩ rfl rfl) rfl
   ·rw[if_neg (λq=>c q.1)];exact dW.pre (cc a CD ⟨b,AI c,trivial⟩ rfl rfl) rfl
theorem Bh(f:vs.length<=11)(a:Fm DJ):∀(ns:List Nat)(m:List (Int×D))(c:Nat),(∀x∈ns,x<vs.length)->m.length<=c->c+ns.length<=11->d6 a.A a.env a.g (eU (cJ (bz (kT 118)) 1 pz) pz) Ft (ns.map (dg vs)) (mx (bj vs) m) .next (mx (bj vs) (ns.foldl (fN vs) m)):=by intro ns;induction ns with|nil=>intro m c _ _ _;exact .nil|cons n ns g=>intro m c b d h;rw[AJ]at h;rw[AS,List.foldl_cons];exact .next (ie a (E3 (dg vs n)) trivial rfl rfl) (zF f (b n A4) (by exact A1 d (A1 (A7 _ _) h)) a) (.inl rfl) (g _ (c+1) (λx e=>b x (A5 _ e)) (by have:=lS vs m n;exact A1 this (AE d)) (by exact A1 (AL (Nat.succ_add_eq_add_succ _ _)) h))
noncomputable def Eb(vs:List Nat):List (Int×D):=(bo vs 0).foldl (fN vs) []
theorem wJ(b:∀x∈vs,x∈pool)(h:vs.length<=11):br 15 1117 [bv,.bytes (bj vs)] (.slist ((cY ((Eb vs).map (·.1))).map D.sym)):=by
 have a:=eD vs 0;refine bp gm rfl (ze _) ⟨(eF b h).to (by decide),iF rfl rfl λc=>?_,?_,trivial⟩;·exact Bh h c (bo vs 0) [] 0 (d9 vs 0) (by decide) (by exact A1 (AL (Nat.zero_add _)) (A1 a h))
 ·have:=sd vs (bo vs 0) [];show(Eb vs).length+1<=64;unfold Eb;rw[List.length_nil]at this;exact wk (AE (A1 this (A1 (AL (Nat.zero_add _)) (A1 a h)))) rfl
end
noncomputable abbrev B0:Ct:=⟨13,cb (kT 116),[],[1088]⟩
noncomputable abbrev B8:PySem.Expr:=Fr (cJ (bz (kT 116)) 1 pz) pz
noncomputable abbrev Fw:List Stmt:=B6 (cJ (bz (kT 116)) 1 pz)
noncomputable abbrev lb(v:Array UInt8)(a b:Int):Sig:=[("iset",.v bv),("octets",.v (.bytes v)),("one",.v (.sym a)),("other",.v (.sym b))]
section
variable{v:Array UInt8}{a b j:Int}
theorem Jk:((cr 40).t B0 B8 (lb v a b) [.b false]).map (λr=>(r.a,r.σ,r.c))=some (false,lb v a b,[.p ((a !=b)=false)]):=by kernel_rfl
theorem HR:((cr 40).t B0 B8 (lb v a b) [.b true,.b true]).map (λr=>(r.a,r.σ,r.c))=some (true,lb v a b,[.p ((a !=b)=true),.le v.size NN,.p (decide ((if b<a then b else a)<v.size)=true)]):=by kernel_rfl
theorem Gu:((cr 40).t B0 B8 (lb v a b) [.b true,.b false]).map (λr=>(r.a,r.σ,r.c))=some (false,lb v a b,[.p ((a !=b)=true),.le v.size NN,.p (decide ((if b<a then b else a)<v.size)=false)]):=by kernel_rfl
theorem JH:((cr 40).ss B0 Fw (lb v a b) [.b true,.d (.sym j)]).map (λr=>(r.a,r.σ,r.c))=some (.next,lb v j b,[.p (decide (a<b)=true),.p (br 13 1088 [bv,.bytes v,.sym a] (.sym j))]):=by kernel_rfl
theorem Jx:((cr 40).ss B0 Fw (lb v a b) [.b false,.d (.sym j)]).map (λr=>(r.a,r.σ,r.c))=some (.next,lb v a j,[.p (decide (a<b)=false),.p (br 13 1088 [bv,.bytes v,.sym b] (.sym j))]):=by kernel_rfl
theorem Cn(x y:Int):(b8 40 13 [1088] d0 [bv,.bytes v,.sym x,.sym y] [.w .next (lb v a b),.b false]).map (λr=>(r.a,r.c))=some (.ret .none,[.p (um B0 B8 Fw (lb v (if 0>x then 0 else x) (if 0>y then 0 else y)) .next (lb v a b)),.p ((a==b)=false)]):=by kernel_rfl
theorem CW(x y:Int):(b8 40 13 [1088] d0 [bv,.bytes v,.sym x,.sym y] [.w .next (lb v a b),.b true,.b false]).map (λr=>(r.a,r.c))=some (.ret .none,[.p (um B0 B8 Fw (lb v (if 0>x then 0 else x) (if 0>y then 0 else y)) .next (lb v a b)),.p ((a==b)=true),.le v.size NN,.p (decide (a<v.size)=false)]):=by kernel_rfl
theorem Dz(x y:Int):(b8 40 13 [1088] d0 [bv,.bytes v,.sym x,.sym y] [.w .next (lb v a b),.b true,.b true]).map (λr=>(r.a,r.c))=some (.ret (.sym a),[.p (um B0 B8 Fw (lb v (if 0>x then 0 else x) (if 0>y then 0 else y)) .next (lb v a b)),.p ((a==b)=true),.le v.size NN,.p (decide (a<v.size)=true)]):=by kernel_rfl
end
noncomputable def ow(vs:List Nat)(a b:Nat):Nat×Nat:=if h:a≠b/\min a b<vs.length then(if a<b then ow vs (a+bC vs a) b else ow vs a (b+bC vs b))else(a,b)termination_by(vs.length-a)+(vs.length-b)decreasing_by
 ·have:=cD vs a;exact Nat.add_lt_add_right (qr this (ml h.2 (by assumption))) _
 ·have:=cD vs b;exact Nat.add_lt_add_left (qr this (mr h.2 (by assumption))) _
noncomputable def Ip(vs:List Nat)(p:Nat×Nat):D:=if p.1=p.2/\p.1<vs.length then .sym ((p.1:Nat):Int)else .none
section
variable{vs:List Nat}
theorem CO(o:∀x∈vs,x∈pool)(l:vs.length<=11)(c:Fm B0):∀(m a b:Nat),(vs.length-a)+(vs.length-b)<=m->∃N,c0 c.A c.env c.g B8 Fw N (lb (bj vs) a b) .next (lb (bj vs) ((ow vs a b).1:Nat) ((ow vs a b).2:Nat)):=by
 have hs:(bj vs).size<=NN:=by rw[bw];exact A1 l (by decide)
 have s:∀a b:Nat,¬(a≠b/\min a b<vs.length)->∃N,c0 c.A c.env c.g B8 Fw N (lb (bj vs) a b) .next (lb (bj vs) ((ow vs a b).1:Nat) ((ow vs a b).2:Nat)):=by
   intro a b h;have f:ow vs a b=(a,b):=by rw[ow,dif_neg h]
   rw[f];refine⟨0,?_⟩;by_cases e:a=b;·exact .done (fv c Jk ⟨by show((a:Int)!=(b:Int))=false;simp[e],trivial⟩ rfl rfl)
   ·have r:¬min a b<vs.length:=λq=>h ⟨e,q⟩;exact .done (fv c Gu ⟨by show((a:Int)!=(b:Int))=true;simp;exactλz=>e (Int.ofNat.inj z),hs,AI (by rw[bw];split<;>omega),trivial⟩ rfl rfl)
 intro m;induction m with|zero=>intro a b g;exact s a b (by exact m0 g)|succ m p=>
   intro a b g;by_cases h:a≠b/\min a b<vs.length
   · have n:Tr c.A c.env c.g B8 (lb (bj vs) a b) true (lb (bj vs) a b):=fv c HR ⟨by show((a:Int)!=(b:Int))=true;simp;exactλz=>h.1 (Int.ofNat.inj z),hs,AB (by rw[bw];split<;>omega),trivial⟩ rfl rfl;by_cases d:a<b
     · have i:=cD vs a;have f:ow vs a b=ow vs (a+bC vs a) b:=by rw[ow,dif_pos h,if_pos d]
       obtain⟨N,k⟩:=p (a+bC vs a) b (by exact Nat.le_of_lt_succ (AO (Nat.add_lt_add_right (qr i (ml h.2 d)) _) g));rw[f];exact⟨N+1,.next n (cc c JH ⟨AB (by exact Aa.2 d),(qy o l (by exact ml h.2 d)).up,trivial⟩ rfl rfl) (.inl rfl) k⟩
     · have i:=cD vs b;have f:ow vs a b=ow vs a (b+bC vs b):=by rw[ow,dif_pos h,if_neg d]
       obtain⟨N,k⟩:=p a (b+bC vs b) (by exact Nat.le_of_lt_succ (AO (Nat.add_lt_add_left (qr i (mr h.2 d)) _) g));rw[f];exact⟨N+1,.next n (cc c Jx ⟨AI (by exactλz=>d (Aa.1 z)),(qy o l (by exact mr h.2 d)).up,trivial⟩ rfl rfl) (.inl rfl) k⟩
   ·exact s a b h
theorem xK(f:∀x∈vs,x∈pool)(e:vs.length<=11)(a b:Nat):br 14 1103 [bv,.bytes (bj vs),.sym a,.sym b] (Ip vs (ow vs a b)):=by
 have hs:(bj vs).size<=NN:=by rw[bw];exact A1 e (by decide)
 have d:um B0 B8 Fw (lb (bj vs) (if 0>(a:Int)then 0 else a) (if 0>(b:Int)then 0 else b)) .next (lb (bj vs) ((ow vs a b).1:Nat) ((ow vs a b).2:Nat)):=by rw[if_neg (by exact Int.not_lt.2 (AP _)),if_neg (by exact Int.not_lt.2 (AP _))];exact i0 rfl rfl λg=>CO f e g _ a b (AT _)
 unfold Ip;generalize ow vs a b=p at*;by_cases h:p.1=p.2
 · by_cases c:p.1<vs.length;·rw[if_pos ⟨h,c⟩];exact bp d0 rfl (Dz a b) ⟨d,by show((p.1:Int)==(p.2:Int))=true;simp[h],hs,AB (by rw[bw];exact Aa.2 c),trivial⟩
   ·rw[if_neg (λq=>c q.2)];exact bp d0 rfl (CW a b) ⟨d,by show((p.1:Int)==(p.2:Int))=true;simp[h],hs,AI (by rw[bw];exactλz=>c (Aa.1 z)),trivial⟩
 ·rw[if_neg (λq=>h q.1)];exact bp d0 rfl (Cn a b) ⟨d,by show((p.1:Int)==(p.2:Int))=false;simp;exactλz=>h (Int.ofNat.inj z),trivial⟩
end
noncomputable def d5(vs:List Nat)(i x:Int):Claim:=.p (gX i/\∃j,seqIndex? i (bm vs).length=some j/\(bm vs)[j]?=some (.sym x))
noncomputable def Ej(k:Int):Claim:=.p (0<=k/\((Builtin.Int.intBits 256:Nat):Int)*k<=2^27)
noncomputable def gj(vs:List Nat)(i b:Int)(k:Nat):List Claim:=[d5 vs (i+1+((k:Nat):Int)) b,Ej ((k:Nat):Int),.p (IntMulOk b (256^(((k:Nat):Int)).toNat))]
noncomputable abbrev jg(b:Int)(k:Nat):Int:=b*256^(((k:Nat):Int)).toNat
noncomputable def nu(S wd:Int)(n:Bool)(m:Nat):List Claim:=[.le m NN,.p (IntMulOk 2 S),Ej wd,.p (decide (2*S>=256^wd.toNat)=n)]++(match n with|true=>[Ej wd]|false=>[])
noncomputable def gT(S wd:Int)(n:Bool):Int:=match n with|true=>S-256^wd.toNat|false=>S
section
variable{vs:List Nat}{i b0 b1 b2 b3:Int}
theorem BJ:(b8 40 9 [] bn [.list (bm vs),.sym i] [.d (.sym 144)]).map (λr=>(r.a,r.c))=some (.ret (.tuple [.str "on",.sym (i+1),.none]),[d5 vs i 144]):=by kernel_rfl
theorem zP:(b8 40 9 [] bn [.list (bm vs),.sym i] [.d (.sym 252)]).map (λr=>(r.a,r.c))=some (.ret (.tuple [.str "on",.sym (i+1),.none]),[d5 vs i 252]):=by kernel_rfl
theorem yx:(b8 40 9 [] bn [.list (bm vs),.sym i] [.d (.sym 250)]).map (λr=>(r.a,r.c))=some (.ret (.tuple [.str "none",.sym (i+1),.none]),[d5 vs i 250]):=by kernel_rfl
theorem Bu:(b8 40 9 [] bn [.list (bm vs),.sym i] [.d (.sym 195)]).map (λr=>(r.a,r.c))=some (.ret (.tuple [.str "return",.sym (i+1),.none]),[d5 vs i 195]):=by kernel_rfl
theorem zg:(b8 40 9 [] bn [.list (bm vs),.sym i] [.d (.sym 244)]).map (λr=>(r.a,r.c))=some (.ret (.tuple [.str "stop",.sym (i+1),.none]),[d5 vs i 244]):=by kernel_rfl
theorem Bz:(b8 40 9 [] bn [.list (bm vs),.sym i] [.d (.sym 254)]).map (λr=>(r.a,r.c))=some (.ret (.tuple [.str "none",.sym (i+1),.none]),[d5 vs i 254]):=by kernel_rfl
theorem Ga:(b8 40 9 [] bn [.list (bm vs),.sym i] [.d (.sym 0)]).map (λr=>(r.a,r.c))=some (.ret (.tuple [.str "none",.sym (i+1),.none]),[d5 vs i 0]):=by kernel_rfl
theorem Gn:(b8 40 9 [] bn [.list (bm vs),.sym i] [.d (.sym 2)]).map (λr=>(r.a,r.c))=some (.ret (.tuple [.str "none",.sym (i+1),.none]),[d5 vs i 2]):=by kernel_rfl
theorem H8:(b8 40 9 [] bn [.list (bm vs),.sym i] [.d (.sym 6)]).map (λr=>(r.a,r.c))=some (.ret (.tuple [.str "none",.sym (i+1),.none]),[d5 vs i 6]):=by kernel_rfl
theorem FQ:(b8 40 9 [] bn [.list (bm vs),.sym i] [.d (.sym 1)]).map (λr=>(r.a,r.c))=some (.ret (.tuple [.str "none",.sym (i+1),.none]),[d5 vs i 1]):=by kernel_rfl
theorem t3:(b8 40 9 [] bn [.list (bm vs),.sym i] [.d (.sym 235),.b true]).map (λr=>(r.a,r.c))=some (.ret (.tuple [.str "none",.sym (i+1),.none]),[d5 vs i 235,.le (bm vs).length NN,.p (decide (i+1+1>(bm vs).length)=true)]):=by kernel_rfl
theorem vk:(b8 40 9 [] bn [.list (bm vs),.sym i] [.d (.sym 235),.b false,.d (.sym b0),.b true]).map (λr=>(r.a,r.c))=some (.ret (.tuple [.str "jump",.sym (i+1+1),.sym (i+1+1+gT (gw [jg b0 0]) 1 true)]),[d5 vs i 235,.le (bm vs).length NN,.p (decide (i+1+1>(bm vs).length)=false)]++gj vs i b0 0++nu (gw [jg b0 0]) 1 true 1):=by kernel_rfl
theorem uG:(b8 40 9 [] bn [.list (bm vs),.sym i] [.d (.sym 235),.b false,.d (.sym b0),.b false]).map (λr=>(r.a,r.c))=some (.ret (.tuple [.str "jump",.sym (i+1+1),.sym (i+1+1+gT (gw [jg b0 0]) 1 false)]),[d5 vs i 235,.le (bm vs).length NN,.p (decide (i+1+1>(bm vs).length)=false)]++gj vs i b0 0++nu (gw [jg b0 0]) 1 false 1):=by kernel_rfl
theorem uk:(b8 40 9 [] bn [.list (bm vs),.sym i] [.d (.sym 116),.b true]).map (λr=>(r.a,r.c))=some (.ret (.tuple [.str "none",.sym (i+1),.none]),[d5 vs i 116,.le (bm vs).length NN,.p (decide (i+1+1>(bm vs).length)=true)]):=by kernel_rfl
theorem vp:(b8 40 9 [] bn [.list (bm vs),.sym i] [.d (.sym 116),.b false,.d (.sym b0),.b true]).map (λr=>(r.a,r.c))=some (.ret (.tuple [.str "branch",.sym (i+1+1),.sym (i+1+1+gT (gw [jg b0 0]) 1 true)]),[d5 vs i 116,.le (bm vs).length NN,.p (decide (i+1+1>(bm vs).length)=false)]++gj vs i b0 0++nu (gw [jg b0 0]) 1 true 1):=by kernel_rfl
theorem vt:(b8 40 9 [] bn [.list (bm vs),.sym i] [.d (.sym 116),.b false,.d (.sym b0),.b false]).map (λr=>(r.a,r.c))=some (.ret (.tuple [.str "branch",.sym (i+1+1),.sym (i+1+1+gT (gw [jg b0 0]) 1 false)]),[d5 vs i 116,.le (bm vs).length NN,.p (decide (i+1+1>(bm vs).length)=false)]++gj vs i b0 0++nu (gw [jg b0 0]) 1 false 1):=by kernel_rfl
theorem uL:(b8 40 9 [] bn [.list (bm vs),.sym i] [.d (.sym 226),.b true]).map (λr=>(r.a,r.c))=some (.ret (.tuple [.str "none",.sym (i+1),.none]),[d5 vs i 226,.le (bm vs).length NN,.p (decide (i+1+1>(bm vs).length)=true)]):=by kernel_rfl
theorem uX:(b8 40 9 [] bn [.list (bm vs),.sym i] [.d (.sym 226),.b false,.d (.sym b0),.b true]).map (λr=>(r.a,r.c))=some (.ret (.tuple [.str "branch",.sym (i+1+1),.sym (i+1+1+gT (gw [jg b0 0]) 1 true)]),[d5 vs i 226,.le (bm vs).length NN,.p (decide (i+1+1>(bm vs).length)=false)]++gj vs i b0 0++nu (gw [jg b0 0]) 1 true 1):=by kernel_rfl
theorem vo:(b8 40 9 [] bn [.list (bm vs),.sym i] [.d (.sym 226),.b false,.d (.sym b0),.b false]).map (λr=>(r.a,r.c))=some (.ret (.tuple [.str "branch",.sym (i+1+1),.sym (i+1+1+gT (gw [jg b0 0]) 1 false)]),[d5 vs i 226,.le (bm vs).length NN,.p (decide (i+1+1>(bm vs).length)=false)]++gj vs i b0 0++nu (gw [jg b0 0]) 1 false 1):=by kernel_rfl
theorem uU:(b8 40 9 [] bn [.list (bm vs),.sym i] [.d (.sym 232),.b true]).map (λr=>(r.a,r.c))=some (.ret (.tuple [.str "none",.sym (i+1),.none]),[d5 vs i 232,.le (bm vs).length NN,.p (decide (i+1+4>(bm vs).length)=true)]):=by kernel_rfl
theorem u9:(b8 40 9 [] bn [.list (bm vs),.sym i] [.d (.sym 232),.b false,.d (.sym b0),.d (.sym b1),.d (.sym b2),.d (.sym b3),.b true]).map (λr=>(r.a,r.c))=some (.ret (.tuple [.str "call",.sym (i+1+4),.sym (i+1+4+gT (gw [jg b0 0,jg b1 1,jg b2 2,jg b3 3]) 4 true)]),[d5 vs i 232,.le (bm vs).length NN,.p (decide (i+1+4>(bm vs).length)=false)]++gj vs i b0 0++gj vs i b1 1++gj vs i b2 2++gj vs i b3 3++nu (gw [jg b0 0,jg b1 1,jg b2 2,jg b3 3]) 4 true 4):=by kernel_rfl
theorem ux:(b8 40 9 [] bn [.list (bm vs),.sym i] [.d (.sym 232),.b false,.d (.sym b0),.d (.sym b1),.d (.sym b2),.d (.sym b3),.b false]).map (λr=>(r.a,r.c))=some (.ret (.tuple [.str "call",.sym (i+1+4),.sym (i+1+4+gT (gw [jg b0 0,jg b1 1,jg b2 2,jg b3 3]) 4 false)]),[d5 vs i 232,.le (bm vs).length NN,.p (decide (i+1+4>(bm vs).length)=false)]++gj vs i b0 0++gj vs i b1 1++gj vs i b2 2++gj vs i b3 3++nu (gw [jg b0 0,jg b1 1,jg b2 2,jg b3 3]) 4 false 4):=by kernel_rfl
end
theorem bH(vs:List Nat):(bm vs).length=vs.length:=by unfold bm;rw[AM]
theorem cg{vs:List Nat}(b:vs.length<=11)(h:n<vs.length)(a:vs.getD n 0=x):gX (n:Int)/\∃j,seqIndex? (n:Int) (bm vs).length=some j/\(bm vs)[j]?=some (.sym ((x:Nat):Int)):=by
 refine⟨⟨by exact Int.le_trans (by decide) (AP _),by exact Int.lt_of_lt_of_le (Aa.2 (AO h b)) (by decide)⟩,n,?_,?_⟩;·rw[bH];exact GM h
 ·unfold bm;rw[List.getElem?_map,AN h,<-a,dS h];rfl
noncomputable def oZ:Nat->PySem.Str×Nat|144=>("on",0)|252=>("on",0)|195=>("return",0)|244=>("stop",0)|235=>("jump",1)|116=>("branch",1)|226=>("branch",1)|232=>("call",4)|_=>("none",0)
noncomputable def hV(vs:List Nat)(n:Nat):D:=if(oZ (vs.getD n 0)).2=0 then .tuple [.str (oZ (vs.getD n 0)).1,.sym ((n:Int)+1),.none]else if n+1+(oZ (vs.getD n 0)).2<=vs.length then .tuple [.str (oZ (vs.getD n 0)).1,.sym ((n:Int)+1+(oZ (vs.getD n 0)).2),.sym ((n:Int)+1+(oZ (vs.getD n 0)).2+cP vs n (oZ (vs.getD n 0)).2)]else .tuple [.str "none",.sym ((n:Int)+1),.none]
theorem E6(h:x<256):Builtin.Int.intBits ((x:Nat):Int)<=64:=A1 (Fv ⟨x,h⟩) (by decide)
theorem Ea:Builtin.Int.intBits 256=9:=by decide+kernel
theorem mE(h:k<=4):(Ej ((k:Nat):Int)).holds:=by
 show 0<=((k:Nat):Int)/\((Builtin.Int.intBits 256:Nat):Int)*(k:Int)<=2^27;rw[Ea];have:((2:Int)^27)=134217728:=by decide
 exact⟨AP _,Int.le_trans (Int.mul_le_mul_of_nonneg_left (Ab.2 h) (by decide)) (by decide)⟩
theorem c7{vs:List Nat}(b:vs.length<=11)(hb:∀x∈vs,x<256)(a:k<=4)(h:n+1+k<vs.length):bx (gj vs n ((vs.getD (n+1+k) 0:Nat):Int) k):=by
 refine⟨?_,mE a,?_,trivial⟩;·show gX _/\_;rw[show(n:Int)+1+((k:Nat):Int)=((n+1+k:Nat):Int)from rfl];exact cg b h rfl
 ·exact .of_left (E6 (by rw[dS h];exact hb _ (List.getElem_mem h)))
theorem mH(d:wd=1\/wd=4)(b:m<=NN):bx (nu ((x:Nat):Int) ((wd:Nat):Int) (decide (2*x>=256^wd)) m)/\gT ((x:Nat):Int) ((wd:Nat):Int) (decide (2*x>=256^wd))=xm x (256^wd):=by
 have a:wd<=4:=by exact d.elim (λz=>wk (AL z) rfl) λz=>wk (AL z) rfl
 have e:((256^wd:Nat):Int)=(256:Int)^wd:=by norm_cast
 have c:decide (2*((x:Nat):Int)>=256^(((wd:Nat):Int)).toNat)=decide (2*x>=256^wd):=by rw[Int.toNat_natCast,<-e];refine Bool.eq_iff_iff.mpr ?_;rw[decide_eq_true_iff,decide_eq_true_iff];omega
 refine⟨?_,?_⟩
 · have k:∀n,decide (2*((x:Nat):Int)>=256^(((wd:Nat):Int)).toNat)=n->bx (nu ((x:Nat):Int) ((wd:Nat):Int) n m):=by intro n h;unfold nu;cases n with|true=>exact⟨b,.of_left (by decide+kernel),mE a,h,mE a,trivial⟩|false=>exact⟨b,.of_left (by decide+kernel),mE a,h,trivial⟩
   exact k _ c
 · unfold gT xm;by_cases h:2*x>=256^wd;·rw[if_pos h,AB h];dsimp only;rw[Int.toNat_natCast,<-e]
   ·rw[if_neg h,AI h]
theorem Gs(a:Nat):gw [jg ((a:Nat):Int) 0]=((jn [a]:Nat):Int):=by show(a:Int)*256^0+0=_;simp only[jn];omega
theorem L7(a b c d:Nat):gw [jg ((a:Nat):Int) 0,jg ((b:Nat):Int) 1,jg ((c:Nat):Int) 2,jg ((d:Nat):Int) 3]=((jn [a,b,c,d]:Nat):Int):=by show(a:Int)*256^0+((b:Int)*256^1+((c:Int)*256^2+((d:Int)*256^3+0)))=_;simp only[jn];omega
theorem jY{vs:List Nat}(h:n<vs.length):vs.drop n=vs.getD n 0::vs.drop (n+1):=by rw[List.drop_eq_getElem_cons h,dS h]
theorem ug{vs:List Nat}(h:n+1+1<=vs.length):(vs.drop (n+1)).take 1=[vs.getD (n+1+0) 0]:=by rw[jY (by exact h)];rfl
theorem G4{vs:List Nat}(h:n+1+4<=vs.length):(vs.drop (n+1)).take 4=[vs.getD (n+1+0) 0,vs.getD (n+1+1) 0,vs.getD (n+1+2) 0,vs.getD (n+1+3) 0]:=by rw[jY (n:=n+1) (by exact A1 (A7 _ 3) h),jY (n:=n+1+1) (by exact A1 (A7 _ 2) h),jY (n:=n+1+1+1) (by exact A1 (A7 _ 1) h),jY (n:=n+1+1+1+1) (by exact h)];rfl
section
variable{vs:List Nat}{n:Nat}
theorem rZ(hb:∀x∈vs,x<256)(c:vs.length<=11)(l:n<vs.length)(h:vs.getD n 0=235)(e:n+1+1<=vs.length):br 10 1297 [.list (bm vs),.sym n] (.tuple [.str "jump",.sym ((n:Int)+1+1),.sym ((n:Int)+1+1+cP vs n 1)]):=by
 unfold cP;rw[ug e];obtain⟨d,f⟩:=mH (x:=jn [vs.getD (n+1+0) 0]) (wd:=1) (m:=1) (by decide) (by show _<=16777216;decide);rw[<-Gs]at d f;have a:(bm vs).length<=NN:=by rw[bH];show _<=16777216;exact wk c rfl
 have j:decide ((n:Int)+1+1>(bm vs).length)=false:=AI (by rw[bH];exact Int.not_lt.2 (Ab.2 e));have i:∀b,decide (2*jn [vs.getD (n+1+0) 0]>=256^1)=b->br 10 1297 [.list (bm vs),.sym n] (.tuple [.str "jump",.sym ((n:Int)+1+1),.sym ((n:Int)+1+1+xm (jn [vs.getD (n+1+0) 0]) (256^1))]):=by intro b g;rw[g]at d f;rw[<-f];cases b with|true=>exact bp bn rfl vk (bx.app.mpr ⟨(bx.app.mpr ⟨⟨cg c l h,a,j,trivial⟩,c7 c hb (k:=0) (by decide) (by exact e)⟩),d⟩)|false=>exact bp bn rfl uG (bx.app.mpr ⟨(bx.app.mpr ⟨⟨cg c l h,a,j,trivial⟩,c7 c hb (k:=0) (by decide) (by exact e)⟩),d⟩)
 exact i _ rfl
theorem rM(hb:∀x∈vs,x<256)(c:vs.length<=11)(l:n<vs.length)(h:vs.getD n 0=116)(e:n+1+1<=vs.length):br 10 1297 [.list (bm vs),.sym n] (.tuple [.str "branch",.sym ((n:Int)+1+1),.sym ((n:Int)+1+1+cP vs n 1)]):=by
 unfold cP;rw[ug e];obtain⟨d,f⟩:=mH (x:=jn [vs.getD (n+1+0) 0]) (wd:=1) (m:=1) (by decide) (by show _<=16777216;decide);rw[<-Gs]at d f;have a:(bm vs).length<=NN:=by rw[bH];show _<=16777216;exact wk c rfl
 have j:decide ((n:Int)+1+1>(bm vs).length)=false:=AI (by rw[bH];exact Int.not_lt.2 (Ab.2 e));have i:∀b,decide (2*jn [vs.getD (n+1+0) 0]>=256^1)=b->br 10 1297 [.list (bm vs),.sym n] (.tuple [.str "branch",.sym ((n:Int)+1+1),.sym ((n:Int)+1+1+xm (jn [vs.getD (n+1+0) 0]) (256^1))]):=by intro b g;rw[g]at d f;rw[<-f];cases b with|true=>exact bp bn rfl vp (bx.app.mpr ⟨(bx.app.mpr ⟨⟨cg c l h,a,j,trivial⟩,c7 c hb (k:=0) (by decide) (by exact e)⟩),d⟩)|false=>exact bp bn rfl vt (bx.app.mpr ⟨(bx.app.mpr ⟨⟨cg c l h,a,j,trivial⟩,c7 c hb (k:=0) (by decide) (by exact e)⟩),d⟩)
 exact i _ rfl
theorem rW(hb:∀x∈vs,x<256)(c:vs.length<=11)(l:n<vs.length)(h:vs.getD n 0=226)(e:n+1+1<=vs.length):br 10 1297 [.list (bm vs),.sym n] (.tuple [.str "branch",.sym ((n:Int)+1+1),.sym ((n:Int)+1+1+cP vs n 1)]):=by
 unfold cP;rw[ug e];obtain⟨d,f⟩:=mH (x:=jn [vs.getD (n+1+0) 0]) (wd:=1) (m:=1) (by decide) (by show _<=16777216;decide);rw[<-Gs]at d f;have a:(bm vs).length<=NN:=by rw[bH];show _<=16777216;exact wk c rfl
 have j:decide ((n:Int)+1+1>(bm vs).length)=false:=AI (by rw[bH];exact Int.not_lt.2 (Ab.2 e));have i:∀b,decide (2*jn [vs.getD (n+1+0) 0]>=256^1)=b->br 10 1297 [.list (bm vs),.sym n] (.tuple [.str "branch",.sym ((n:Int)+1+1),.sym ((n:Int)+1+1+xm (jn [vs.getD (n+1+0) 0]) (256^1))]):=by intro b g;rw[g]at d f;rw[<-f];cases b with|true=>exact bp bn rfl uX (bx.app.mpr ⟨(bx.app.mpr ⟨⟨cg c l h,a,j,trivial⟩,c7 c hb (k:=0) (by decide) (by exact e)⟩),d⟩)|false=>exact bp bn rfl vo (bx.app.mpr ⟨(bx.app.mpr ⟨⟨cg c l h,a,j,trivial⟩,c7 c hb (k:=0) (by decide) (by exact e)⟩),d⟩)
 exact i _ rfl
theorem sX(hb:∀x∈vs,x<256)(a:vs.length<=11)(l:n<vs.length)(h:vs.getD n 0=232)(b:n+1+4<=vs.length):br 10 1297 [.list (bm vs),.sym n] (.tuple [.str "call",.sym ((n:Int)+1+4),.sym ((n:Int)+1+4+cP vs n 4)]):=by
 unfold cP;rw[G4 b];obtain⟨e,f⟩:=mH (x:=jn [vs.getD (n+1+0) 0,vs.getD (n+1+1) 0,vs.getD (n+1+2) 0,vs.getD (n+1+3) 0]) (wd:=4) (m:=4) (by decide) (by show _<=16777216;decide);rw[<-L7]at e f;have c:(bm vs).length<=NN:=by rw[bH];show _<=16777216;exact wk a rfl
 have j:decide ((n:Int)+1+4>(bm vs).length)=false:=AI (by rw[bH];exact Int.not_lt.2 (Ab.2 b));have i:∀d,decide (2*jn [vs.getD (n+1+0) 0,vs.getD (n+1+1) 0,vs.getD (n+1+2) 0,vs.getD (n+1+3) 0]>=256^4)=d->br 10 1297 [.list (bm vs),.sym n] (.tuple [.str "call",.sym ((n:Int)+1+4),.sym ((n:Int)+1+4+xm (jn [vs.getD (n+1+0) 0,vs.getD (n+1+1) 0,vs.getD (n+1+2) 0,vs.getD (n+1+3) 0]) (256^4))]):=by intro d g;rw[g]at e f;rw[<-f];cases d with|true=>exact bp bn rfl u9 (bx.app.mpr ⟨(bx.app.mpr ⟨(bx.app.mpr ⟨(bx.app.mpr ⟨(bx.app.mpr ⟨⟨cg a l h,c,j,trivial⟩,c7 a hb (k:=0) (by decide) (by exact A1 (A7 _ 3) b)⟩),c7 a hb (k:=1) (by decide) (by exact A1 (A7 _ 2) b)⟩),c7 a hb (k:=2) (by decide) (by exact A1 (A7 _ 1) b)⟩),c7 a hb (k:=3) (by decide) (by exact b)⟩),e⟩)|false=>exact bp bn rfl ux (bx.app.mpr ⟨(bx.app.mpr ⟨(bx.app.mpr ⟨(bx.app.mpr ⟨(bx.app.mpr ⟨⟨cg a l h,c,j,trivial⟩,c7 a hb (k:=0) (by decide) (by exact A1 (A7 _ 3) b)⟩),c7 a hb (k:=1) (by decide) (by exact A1 (A7 _ 2) b)⟩),c7 a hb (k:=2) (by decide) (by exact A1 (A7 _ 1) b)⟩),c7 a hb (k:=3) (by decide) (by exact b)⟩),e⟩)
 exact i _ rfl
theorem rD(f:∀x∈vs,x∈pool)(c:vs.length<=11)(a:n<vs.length):br 10 1297 [.list (bm vs),.sym n] (hV vs n):=by
 have hb:=qF f;have e:vs.getD n 0∈pool:=by rw[dS a];exact f _ (List.getElem_mem a)
 have d:(bm vs).length<=NN:=by rw[bH];show _<=16777216;exact wk c rfl
 simp only[pool,A6,A3,or_false]at e;unfold hV;rcases e with h|h|h|h|h|h|h|h|h|h|h|h|h|h;·rw[h,if_pos (by decide)];exact bp bn rfl BJ ⟨cg c a h,trivial⟩
 · rw[h,if_neg (by decide),show(oZ 235).2=1 from rfl,show(oZ 235).1="jump"from rfl];by_cases b:n+1+1<=vs.length;·rw[if_pos b];exact rZ hb c a h b
   ·rw[if_neg b];exact bp bn rfl t3 ⟨cg c a h,d,AB (by rw[bH];exact Int.lt_of_not_ge λz=>b (Ab.1 z)),trivial⟩
 · rw[h,if_neg (by decide),show(oZ 116).2=1 from rfl,show(oZ 116).1="branch"from rfl];by_cases b:n+1+1<=vs.length;·rw[if_pos b];exact rM hb c a h b
   ·rw[if_neg b];exact bp bn rfl uk ⟨cg c a h,d,AB (by rw[bH];exact Int.lt_of_not_ge λz=>b (Ab.1 z)),trivial⟩
 ·rw[h,if_pos (by decide)];exact bp bn rfl Bz ⟨cg c a h,trivial⟩
 ·rw[h,if_pos (by decide)];exact bp bn rfl Ga ⟨cg c a h,trivial⟩
 ·rw[h,if_pos (by decide)];exact bp bn rfl Gn ⟨cg c a h,trivial⟩
 · rw[h,if_neg (by decide),show(oZ 226).2=1 from rfl,show(oZ 226).1="branch"from rfl];by_cases b:n+1+1<=vs.length;·rw[if_pos b];exact rW hb c a h b
   ·rw[if_neg b];exact bp bn rfl uL ⟨cg c a h,d,AB (by rw[bH];exact Int.lt_of_not_ge λz=>b (Ab.1 z)),trivial⟩
 ·rw[h,if_pos (by decide)];exact bp bn rfl Bu ⟨cg c a h,trivial⟩
 ·rw[h,if_pos (by decide)];exact bp bn rfl zg ⟨cg c a h,trivial⟩
 ·rw[h,if_pos (by decide)];exact bp bn rfl zP ⟨cg c a h,trivial⟩
 ·rw[h,if_pos (by decide)];exact bp bn rfl H8 ⟨cg c a h,trivial⟩
 · rw[h,if_neg (by decide),show(oZ 232).2=4 from rfl,show(oZ 232).1="call"from rfl];by_cases b:n+1+4<=vs.length;·rw[if_pos b];exact sX hb c a h b
   ·rw[if_neg b];exact bp bn rfl uU ⟨cg c a h,d,AB (by rw[bH];exact Int.lt_of_not_ge λz=>b (Ab.1 z)),trivial⟩
 ·rw[h,if_pos (by decide)];exact bp bn rfl FQ ⟨cg c a h,trivial⟩
 ·rw[h,if_pos (by decide)];exact bp bn rfl yx ⟨cg c a h,trivial⟩
end
theorem DP(k:∀x∈vs,x∈pool)(e:n<vs.length):∃word t,hV vs n=.tuple [.str word,.sym ((n+bC vs n:Nat):Int),t]:=by
 have f:vs.getD n 0∈pool:=by rw[dS e];exact k _ (List.getElem_mem e)
 simp only[pool,A6,A3,or_false]at f;have z:∀o,vs.getD n 0=o->(oZ o).2=0->(vT o=none\/∃r,vT o=some (r,0))->∃word t,hV vs n=.tuple [.str word,.sym ((n+bC vs n:Nat):Int),t]:=by
  intro o h d b;unfold hV bC;rw[h,if_pos d];rcases b with b|⟨r,b⟩;·rw[b];exact⟨_,_,rfl⟩
  ·rw[b];dsimp only;rw[if_pos (by exact e)];exact⟨_,_,rfl⟩
 have a:∀o wd r,vs.getD n 0=o->(oZ o).2=wd->wd≠0->vT o=some (r,wd)->∃word t,hV vs n=.tuple [.str word,.sym ((n+bC vs n:Nat):Int),t]:=by
  intro o wd r h d b g;unfold hV bC;rw[h,d,if_neg b,g];dsimp only;by_cases c:n+1+wd<=vs.length;·rw[if_pos c,if_pos c,<-Nat.add_assoc];exact⟨_,_,rfl⟩
  ·rw[if_neg c,if_neg c];exact⟨_,_,rfl⟩
 rcases f with h|h|h|h|h|h|h|h|h|h|h|h|h|h;·exact z _ h rfl (.inr ⟨_,rfl⟩)
 ·exact a _ 1 _ h rfl (by decide) rfl
 ·exact a _ 1 _ h rfl (by decide) rfl
 ·exact z _ h rfl (.inl rfl)
 ·exact z _ h rfl (.inl rfl)
 ·exact z _ h rfl (.inl rfl)
 ·exact a _ 1 _ h rfl (by decide) rfl
 ·exact z _ h rfl (.inr ⟨_,rfl⟩)
 ·exact z _ h rfl (.inr ⟨_,rfl⟩)
 ·exact z _ h rfl (.inr ⟨_,rfl⟩)
 ·exact z _ h rfl (.inl rfl)
 ·exact a _ 4 _ h rfl (by decide) rfl
 ·exact z _ h rfl (.inl rfl)
 ·exact z _ h rfl (.inl rfl)
noncomputable abbrev Jg:Ct:=⟨11,cb (kT 136),[],[1297]⟩
noncomputable abbrev Iz:PySem.Expr:=Fr (cJ (bz (kT 136)) 1 pz) pz
noncomputable abbrev Iu:List Stmt:=B6 (cJ (bz (kT 136)) 1 pz)
noncomputable abbrev tQ(os:List D)(a:Slot)(rows:List D):Sig:=[("octets",.v (.list os)),("at",a),("found",.o (.list rows) none)]
section
variable{os rows:List D}{i j:Int}{word:PySem.Str}{t:D}
theorem tq(b:Bool):((cr 40).t Jg Iz (tQ os (.v (.sym i)) rows) [.b b]).map (λr=>(r.a,r.σ,r.c))=some (b,tQ os (.v (.sym i)) rows,[.le os.length NN,.p (decide (i<os.length)=b)]):=by kernel_rfl
theorem zA:((cr 40).ss Jg Iu (tQ os (.v (.sym i)) rows) [.d (.tuple [.str word,.sym j,t])]).map (λr=>(r.a,r.σ,r.c))=some (.next,tQ os (.v (.sym j)) (rows++[.sym i]),[.le rows.length NN,.p (br 11 1297 [.list os,.sym i] (.tuple [.str word,.sym j,t]))]):=by kernel_rfl
theorem CY(n:Int):(b8 40 11 [1297] dB [.list os,.sym n] [.w .next (tQ os (.v (.sym i)) rows)]).map (λr=>(r.a,r.c))=some (.reto (.list rows),[.p (um Jg Iz Iu (tQ os (.v (.sym n)) []) .next (tQ os (.v (.sym i)) rows))]):=by kernel_rfl
theorem zm:(b8 40 11 [1297] dB [.list os,.int 0] [.w .next (tQ os (.v (.sym i)) rows)]).map (λr=>(r.a,r.c))=some (.reto (.list rows),[.p (um Jg Iz Iu (tQ os (.v (.int 0)) []) .next (tQ os (.v (.sym i)) rows))]):=by kernel_rfl
end
section
variable{vs:List Nat}
theorem sj(l:∀x∈vs,x∈pool)(o:vs.length<=11)(a:Fm Jg):∀(m n:Nat)(rows:List D),vs.length-n<=m->rows.length+(vs.length-n)<=11->∃N,c0 a.A a.env a.g Iz Iu N (tQ (bm vs) (.v (.sym n)) rows) .next (tQ (bm vs) (.v (.sym (fq vs n:Nat))) (rows++bm (bo vs n))):=by
 have hs:(bm vs).length<=NN:=by rw[bH];exact A1 o (by decide)
 have s:∀(n:Nat)(rows:List D),¬n<vs.length->∃N,c0 a.A a.env a.g Iz Iu N (tQ (bm vs) (.v (.sym n)) rows) .next (tQ (bm vs) (.v (.sym (fq vs n:Nat))) (rows++bm (bo vs n))):=by
   intro n rows h;have f:bo vs n=[]:=by rw[bo,dif_neg h]
   have d:fq vs n=n:=by rw[fq,dif_neg h]
   refine⟨0,?_⟩;rw[f,d];show c0 a.A a.env a.g Iz Iu 0 (tQ (bm vs) (.v (.sym n)) rows) .next (tQ (bm vs) (.v (.sym n)) (rows++[]));rw[List.append_nil];exact .done (fv a (tq false) ⟨hs,AI (by rw[bH];exactλz=>h (Aa.1 z)),trivial⟩ rfl rfl)
 intro m;induction m with|zero=>intro n rows b c;exact s n rows (by exact Nat.not_lt_of_le (Nat.le_of_sub_eq_zero (Nat.le_zero.1 b)))|succ m u=>
   intro n rows b c;by_cases h:n<vs.length
   · have k:=cD vs n;obtain⟨N,r⟩:=u (n+bC vs n) (rows++[.sym n]) (by exact Nat.le_of_lt_succ (AO (qr k h) b)) (by rw[AX];show rows.length+1+_<=11;exact st (qr k h) c);have f:bo vs n=n::bo vs (n+bC vs n):=by rw[bo,dif_pos h]
     have d:fq vs n=fq vs (n+bC vs n):=by rw[fq,dif_pos h]
     refine⟨N+1,?_⟩;rw[f,d];have e:rows++bm (n::bo vs (n+bC vs n))=(rows++[.sym ((n:Nat):Int)])++bm (bo vs (n+bC vs n)):=by unfold bm;simp
     rw[e];refine cI λG p=>?_;obtain⟨word,t,q⟩:=DP l h;refine p ?_;have g:=(rD l o h).up;rw[q]at g;exact .next (fv a (tq true) ⟨hs,AB (by rw[bH];exact Aa.2 h),trivial⟩ rfl rfl) (cc a zA ⟨by show rows.length<=16777216;exact wk (A1 (A7 _ _) c) rfl,g,trivial⟩ rfl rfl) (.inl rfl) r
   ·exact s n rows h
theorem nR(a:∀x∈vs,x∈pool)(h:vs.length<=11)(n:Nat):bP 12 1304 [.list (bm vs),.sym n] (.list (bm (bo vs n))):=by refine dF dB rfl (CY (i:=(fq vs n:Nat)) n) ⟨i0 rfl rfl λb=>?_,trivial⟩;exact sj a h b (vs.length-n) n [] (by exact AT _) (by show 0+_<=11;exact A1 (AL (Nat.zero_add _)) (A1 (Nat.sub_le _ _) h))
theorem sP(b:∀x∈vs,x∈pool)(a:vs.length<=11):bP 12 1304 [.list (bm vs),.int 0] (.list (bm (bo vs 0))):=by refine dF dB rfl (zm (i:=(fq vs 0:Nat))) ⟨i0 rfl rfl λc=>?_,trivial⟩;obtain⟨N,h⟩:=sj b a c vs.length 0 [] (by exact Nat.sub_le _ _) (by show 0+_<=11;exact A1 (AL (Nat.zero_add _)) a);exact⟨N,h.pre (.cons (.inl rfl) (.cons (.inr (.inl ⟨0,rfl,rfl⟩)) (.refl _)))⟩
end
noncomputable def u0(n k:Nat)(ask:List Addr)(d:DC)(x₀:PySem.Str)(xs:List PySem.Str)(o:js)(ds:List D)(e:List Orc):Option (Rs Fl (Ic ⟨k,d.sc,[x₀],ask⟩ d.body ((x₀,.o o none)::xs.zip ((ds++d.dds).map Slot.v)))):=(cr n).ss ⟨k,d.sc,[x₀],ask⟩ d.body ((x₀,.o o none)::xs.zip ((ds++d.dds).map Slot.v)) e
theorem fD{n k:Nat}{ask:List Addr}(f:DC){x₀:PySem.Str}{xs:List PySem.Str}{o i:js}{ds:List D}{g:List Orc}{d:D}{cl:List Claim}(l:f.n=ds.length+1)(p:f.xs=x₀::xs)(h:(u0 n k ask f x₀ xs o ds g).map (λr=>(r.a,bq r.σ x₀,r.c))=some (.ret d,some (.o i none),cl))(j:bx cl):cq (k+1) f.f o ds d i:=by obtain⟨r,e,q⟩:=AD.mp h;simp only[Prod.mk.injEq]at q;have:=r.h (by rw[q.2.2];exact j);rw[q.1]at this;exact lq f l p this (.inl rfl) q.2.1
section
variable{a b c:Int}{m:Nat}
noncomputable def Dy(b c:Int):Int:=(b*48271+(c+1)*(c+1)).fmod 2147483647
noncomputable abbrev p5(i:Int):Claim:=.p (0<=i/\i<((3:Nat):Int)/\3<=16777216)
noncomputable abbrev vz(b c:Int):List Claim:=[p5 2,.p (IntMulOk b 48271),.p (IntMulOk (c+1) (c+1)),p5 1]
theorem xq:(u0 40 9 [] bW "pen" ["many"] (.list [.sym a,.sym b,.int c]) [.int 14] [.b true]).map (λr=>(r.a,bq r.σ "pen",r.c))=some (.ret (.sym (a.fmod 14)),some (.o (.list [.sym (a.fdiv 14),.sym b,.int c]) none),[.p (decide (a>0)=true),p5 0]):=by kernel_rfl
theorem xr:(u0 40 9 [] bW "pen" ["many"] (.list [.sym a,.sym b,.int c]) [.int 14] [.b false]).map (λr=>(r.a,bq r.σ "pen",r.c))=some (.ret (.sym (((Dy b c).fdiv 32).fmod 14)),some (.o (.list [.sym a,.sym (Dy b c),.int (c+1)]) none),[.p (decide (a>0)=false)]++vz b c):=by kernel_rfl
theorem w5:(u0 40 9 [] bW "pen" ["many"] (.list [.sym a,.sym b,.int c]) [.int 12] [.b true]).map (λr=>(r.a,bq r.σ "pen",r.c))=some (.ret (.sym (a.fmod 12)),some (.o (.list [.sym (a.fdiv 12),.sym b,.int c]) none),[.p (decide (a>0)=true),p5 0]):=by kernel_rfl
theorem xB:(u0 40 9 [] bW "pen" ["many"] (.list [.sym a,.sym b,.int c]) [.int 12] [.b false]).map (λr=>(r.a,bq r.σ "pen",r.c))=some (.ret (.sym (((Dy b c).fdiv 32).fmod 12)),some (.o (.list [.sym a,.sym (Dy b c),.int (c+1)]) none),[.p (decide (a>0)=false)]++vz b c):=by kernel_rfl
theorem y6(m:Int):(u0 40 9 [] bW "pen" ["many"] (.list [.sym a,.sym b,.int c]) [.sym m] [.b true]).map (λr=>(r.a,bq r.σ "pen",r.c))=some (.ret (.sym (a.fmod m)),some (.o (.list [.sym (a.fdiv m),.sym b,.int c]) none),[.p (decide (a>0)=true),.p (m≠0),.p (m≠0/\m.natAbs<1073741824),p5 0]):=by kernel_rfl
theorem zM(m:Int):(u0 40 9 [] bW "pen" ["many"] (.list [.sym a,.sym b,.int c]) [.sym m] [.b false]).map (λr=>(r.a,bq r.σ "pen",r.c))=some (.ret (.sym (((Dy b c).fdiv 32).fmod m)),some (.o (.list [.sym a,.sym (Dy b c),.int (c+1)]) none),[.p (decide (a>0)=false)]++vz b c++[.p (m≠0)]):=by kernel_rfl
end
noncomputable def jj(m a b c:Int):Int:=if a>0 then a.fmod m else((Dy b c).fdiv 32).fmod m
noncomputable def lA(m a b c:Int):List D:=if a>0 then[.sym (a.fdiv m),.sym b,.int c]else[.sym a,.sym (Dy b c),.int (c+1)]
theorem mL(a:0<=c)(h:c<1000000):bx (vz b c):=⟨⟨by decide,by decide,by decide⟩,IntMulOk.of_right (intBits_le_64 (by omega) (by omega)),IntMulOk.of_right (intBits_le_64 (by omega) (by exact AQ h (by decide))),⟨by decide,by decide,by decide⟩,trivial⟩
theorem oh(h:0<=i)(a:i<3):(p5 i).holds:=⟨h,a,by decide⟩
theorem xc(d:0<=c)(e:c<1000000):cq 10 1292 (.list [.sym a,.sym b,.int c]) [.int 14] (.sym (jj 14 a b c)) (.list (lA 14 a b c)):=by
 unfold jj lA;by_cases h:a>0;·rw[if_pos h,if_pos h];exact fD bW rfl rfl xq ⟨AB h,oh (by decide) (by decide),trivial⟩
 ·rw[if_neg h,if_neg h];exact fD bW rfl rfl xr (bx.app.mpr ⟨⟨AI h,trivial⟩,mL d e⟩)
theorem xR(d:0<=c)(e:c<1000000):cq 10 1292 (.list [.sym a,.sym b,.int c]) [.int 12] (.sym (jj 12 a b c)) (.list (lA 12 a b c)):=by
 unfold jj lA;by_cases h:a>0;·rw[if_pos h,if_pos h];exact fD bW rfl rfl w5 ⟨AB h,oh (by decide) (by decide),trivial⟩
 ·rw[if_neg h,if_neg h];exact fD bW rfl rfl xB (bx.app.mpr ⟨⟨AI h,trivial⟩,mL d e⟩)
theorem zQ(m0:0<m)(f:m<1000000)(d:0<=c)(e:c<1000000):cq 10 1292 (.list [.sym a,.sym b,.int c]) [.sym m] (.sym (jj m a b c)) (.list (lA m a b c)):=by
 unfold jj lA;by_cases h:a>0;·rw[if_pos h,if_pos h];exact fD bW rfl rfl (y6 m) ⟨AB h,(by show m≠0;exact Int.ne_of_gt m0),(by show m≠0/\m.natAbs<1073741824;omega),oh (by decide) (by decide),trivial⟩
 ·rw[if_neg h,if_neg h];exact fD bW rfl rfl (zM m) (bx.app.mpr ⟨bx.app.mpr ⟨⟨AI h,trivial⟩,mL d e⟩,(by show m≠0;exact Int.ne_of_gt m0),trivial⟩)
theorem sZ(h:0<m)(a b c:Int):0<=jj m a b c/\jj m a b c<m:=by unfold jj;split<;>exact⟨Int.fmod_nonneg_of_pos _ h,Int.fmod_lt_of_pos _ h⟩
noncomputable abbrev Bx:Ct:=⟨11,cb (kT 137),[],[1297]⟩
noncomputable abbrev B2:List Stmt:=jB (cJ (bz (kT 137)) 1 pz)
noncomputable abbrev GN(os bs fs:List D):Sig:=[("octets",.v (.list os)),("begins",.v (.list bs)),("found",.v (.slist fs))]
noncomputable abbrev rk(os bs fs:List D)(d:D):Sig:=[("octets",.v (.list os)),("begins",.v (.list bs)),("found",.v (.slist fs)),("at",.v d)]
noncomputable abbrev tY(os bs fs:List D)(i:Int)(a:PySem.Str)(j:Int)(t:D):Sig:=[("octets",.v (.list os)),("begins",.v (.list bs)),("found",.v (.slist fs)),("at",.v (.sym i)),("word",.v (.str a)),("end",.v (.sym j)),("target",.v t)]
section
variable{os bs fs:List D}{i j:Int}{t:D}
theorem GW:((cr 40).ss Bx B2 (rk os bs fs (.sym i)) [.d (.tuple [.str "on",.sym j,t])]).map (λr=>(r.a,r.σ,r.c))=some (.next,tY os bs (fs++[t]++[]) i "on" j t,[.p (br 11 1297 [.list os,.sym i] (.tuple [.str "on",.sym j,t])),.le (fs.length+1) NN,.le ((fs++[t]).length+0) NN]):=by kernel_rfl
theorem Ax:((cr 40).ss Bx B2 (rk os bs fs (.sym i)) [.d (.tuple [.str "call",.sym j,t])]).map (λr=>(r.a,r.σ,r.c))=some (.next,tY os bs (fs++[t]++[]) i "call" j t,[.p (br 11 1297 [.list os,.sym i] (.tuple [.str "call",.sym j,t])),.le (fs.length+1) NN,.le ((fs++[t]).length+0) NN]):=by kernel_rfl
theorem uF:((cr 40).ss Bx B2 (rk os bs fs (.sym i)) [.d (.tuple [.str "return",.sym j,t])]).map (λr=>(r.a,r.σ,r.c))=some (.next,tY os bs (fs++[t]++[.sym j]) i "return" j t,[.p (br 11 1297 [.list os,.sym i] (.tuple [.str "return",.sym j,t])),.le (fs.length+1) NN,.le ((fs++[t]).length+1) NN]):=by kernel_rfl
theorem yr:((cr 40).ss Bx B2 (rk os bs fs (.sym i)) [.d (.tuple [.str "stop",.sym j,t])]).map (λr=>(r.a,r.σ,r.c))=some (.next,tY os bs (fs++[t]++[.sym j]) i "stop" j t,[.p (br 11 1297 [.list os,.sym i] (.tuple [.str "stop",.sym j,t])),.le (fs.length+1) NN,.le ((fs++[t]).length+1) NN]):=by kernel_rfl
theorem Bn:((cr 40).ss Bx B2 (rk os bs fs (.sym i)) [.d (.tuple [.str "jump",.sym j,t])]).map (λr=>(r.a,r.σ,r.c))=some (.next,tY os bs (fs++[t]++[.sym j]) i "jump" j t,[.p (br 11 1297 [.list os,.sym i] (.tuple [.str "jump",.sym j,t])),.le (fs.length+1) NN,.le ((fs++[t]).length+1) NN]):=by kernel_rfl
theorem vg:((cr 40).ss Bx B2 (rk os bs fs (.sym i)) [.d (.tuple [.str "branch",.sym j,t])]).map (λr=>(r.a,r.σ,r.c))=some (.next,tY os bs (fs++[t]++[.sym j]) i "branch" j t,[.p (br 11 1297 [.list os,.sym i] (.tuple [.str "branch",.sym j,t])),.le (fs.length+1) NN,.le ((fs++[t]).length+1) NN]):=by kernel_rfl
theorem Aj:((cr 40).ss Bx B2 (rk os bs fs (.sym i)) [.d (.tuple [.str "none",.sym j,t])]).map (λr=>(r.a,r.σ,r.c))=some (.next,tY os bs (fs++[t]++[.sym j]) i "none" j t,[.p (br 11 1297 [.list os,.sym i] (.tuple [.str "none",.sym j,t])),.le (fs.length+1) NN,.le ((fs++[t]).length+1) NN]):=by kernel_rfl
theorem CT(d:D):(nV Bx (eU (cJ (bz (kT 137)) 1 pz) pz) d (GN os bs fs) []).map (λr=>(r.σ,r.c))=some (rk os bs fs d,[]):=by kernel_rfl
end
noncomputable def Gb:Stmt->PySem.Expr|.Return (some e) _=>e|_=>.Name default ⟨0,0,0,0⟩
noncomputable def dR:PySem.Expr->PySem.Expr|.ListComp e _ _ _=>e|e=>e
noncomputable def f0:PySem.Expr->List PySem.Expr|.ListComp _ [g] _ _=>g.ifs|_=>[]
noncomputable def sR(sc:Scope):PySem.Expr->Scope|.ListComp _ _ s _=>IR s sc|_=>sc
noncomputable abbrev x1:PySem.Expr:=Gb (cJ (bz (kT 137)) 2 pz)
noncomputable abbrev zj:Ct:=⟨11,sR (cb (kT 137)) x1,[],[1297]⟩
noncomputable def ll(bs:List D):List D:=let b:=sliceBounds none (some 1) none bs.length;(sliceRange b.1 b.2.1 b.2.2).filterMap (λx=>bs[x]?)
noncomputable abbrev MP(fs:List D):Sig:=[("found",.v (.slist fs))]
noncomputable abbrev nj(fs:List D)(d:D):Sig:=[("found",.v (.slist fs)),("at",.v d)]
section
variable{os bs fs es:List D}{i j:Int}{t:D}
theorem Es(d:D):(b8 40 11 [1297] c6 [.list os,.list bs] [.w .next (GN os bs fs),.l es (nj fs d)]).map (λr=>(r.a,r.c))=some (.ret (.list es),[.le bs.length NN,.p (x8 Bx (eU (cJ (bz (kT 137)) 1 pz) pz) B2 bs (GN os bs (ll bs)) .next (GN os bs fs)),.p (uT zj "at" (f0 x1) (dR x1) bs (MP fs) es (nj fs d)),.le es.length NN]):=by kernel_rfl
end
theorem lp(b:D)(bs:List D):ll (b::bs)=[b]:=by
 have e:sliceBounds none (some 1) none (b::bs).length=(0,1,1):=by unfold sliceBounds;simp;try omega
 unfold ll;rw[e];rfl
theorem Am:ll []=[]:=by kernel_rfl
noncomputable def c8(vs:List Nat)(fs:List D)(n:Nat):List D:=match hV vs n with|.tuple [.str a,j,t]=>fs++[t]++(if a="on"\/a="call"then[]else[j])|_=>fs
theorem zz(e:∀x∈vs,x∈pool)(c:n<vs.length):∃(a:PySem.Str)(j:Int)(t:D),hV vs n=.tuple [.str a,.sym j,t]/\a∈(["on","call","return","stop","jump","branch","none"]:List PySem.Str):=by
 have b:vs.getD n 0∈pool:=by rw[dS c];exact e _ (List.getElem_mem c)
 have d:(oZ (vs.getD n 0)).1∈(["on","call","return","stop","jump","branch","none"]:List PySem.Str):=by simp only[pool,A6,A3,or_false]at b;rcases b with h|h|h|h|h|h|h|h|h|h|h|h|h|h<;>rw[h]<;>exact List.contains_iff_mem.mp rfl
 unfold hV;split;·exact⟨_,_,_,rfl,d⟩
 · split;·exact⟨_,_,_,rfl,d⟩
   ·exact⟨_,_,_,rfl,by simp⟩
section
variable{vs:List Nat}
theorem zV(k:∀x∈vs,x∈pool)(p:vs.length<=11)(i:n<vs.length)(g:fs.length<=1000)(c:Fm Bx):dW c.A c.env c.g B2 (rk (bm vs) bs fs (.sym n)) .next (GN (bm vs) bs (c8 vs fs n)):=by
 have d:=(rD k p i).up;refine cI λG o=>?_;obtain⟨m,j,t,e,l⟩:=zz k i;refine o ?_;have a:fs.length+1<=NN:=by show _<=16777216;exact wk (AE g) rfl
 have f:(fs++[t]).length+0<=NN:=by rw[AX];show fs.length+1+0<=16777216;assumption
 have b:(fs++[t]).length+1<=NN:=by rw[AX];show fs.length+1+1<=16777216;exact wk (AE (AE g)) rfl
 unfold c8;rw[e]at d⊢;dsimp only;simp only[A6,A3,or_false]at l;rcases l with h|h|h|h|h|h|h<;>subst h;·rw[if_pos (by simp)];exact dW.pre (cc c GW ⟨d,a,f,trivial⟩ rfl rfl) rfl
 ·rw[if_pos (by simp)];exact dW.pre (cc c Ax ⟨d,a,f,trivial⟩ rfl rfl) rfl
 ·rw[if_neg (by decide)];exact dW.pre (cc c uF ⟨d,a,b,trivial⟩ rfl rfl) rfl
 ·rw[if_neg (by decide)];exact dW.pre (cc c yr ⟨d,a,b,trivial⟩ rfl rfl) rfl
 ·rw[if_neg (by decide)];exact dW.pre (cc c Bn ⟨d,a,b,trivial⟩ rfl rfl) rfl
 ·rw[if_neg (by decide)];exact dW.pre (cc c vg ⟨d,a,b,trivial⟩ rfl rfl) rfl
 ·rw[if_neg (by decide)];exact dW.pre (cc c Aj ⟨d,a,b,trivial⟩ rfl rfl) rfl
end
section
variable{vs:List Nat}
set_option tactic.hygienic true in theorem lO(vs:List Nat)(fs:List D)(n:Nat):(c8 vs fs n).length<=fs.length+2:=by
 have a:fs.length<=fs.length+2:=A7 _ _;unfold c8;cases hV vs n<;>first|exact a|skip
 rename_i ds;rcases ds with U|⟨x,U|⟨j,U|⟨t,U|⟨U,U⟩⟩⟩⟩<;>first|exact a|(cases x<;>exact a)|skip
 cases x<;>first|exact a|skip
 dsimp only;rw[AX,AX];split;·exact AV _
 ·exact AT _
theorem yg(e:∀x∈vs,x∈pool)(g:vs.length<=11)(a:Fm Bx):∀(ns:List Nat)(fs:List D)(c:Nat),(∀x∈ns,x<vs.length)->fs.length<=c->c+2*ns.length<=1000->d6 a.A a.env a.g (eU (cJ (bz (kT 137)) 1 pz) pz) B2 (bm ns) (GN (bm vs) bs fs) .next (GN (bm vs) bs (ns.foldl (c8 vs) fs)):=by intro ns;induction ns with|nil=>intro fs c _ _ _;exact .nil|cons n ns i=>intro fs c b d h;rw[AJ]at h;rw[List.foldl_cons];exact .next (ie a (CT (.sym n)) trivial rfl rfl) (zV e g (b n A4) (by exact A1 d (A1 (A7 _ _) h)) a) (.inl rfl) (i _ (c+2) (λx f=>b x (A5 _ f)) (by have:=lO vs fs n;exact A1 this (Ae d 2)) (by exact bu h (by decide)))
end
def eG(d:D):Prop:=(∃i,d=.sym i)\/d=.none
noncomputable def dU(i:Int):List D->Bool|[]=>false|.sym j::r=>(j==i)||dU i r|_::r=>dU i r
theorem vw(i:Int):∀{ds:List D},(∀d∈ds,eG d)->B7 (.sym i) ds=some (dU i ds):=by intro z;induction z with|nil=>intro _;exact rfl|cons d r c=>
 intro h;have c:=c λx e=>h x (A5 _ e);rcases h d A4 with⟨j,rfl⟩|rfl;·show(qB (.sym j) (.sym i)).bind (λa=>(B7 (.sym i) r).map λb=>a||b)=_;rw[c];rfl
 ·show(qB .none (.sym i)).bind (λa=>(B7 (.sym i) r).map λb=>a||b)=_;rw[c];rfl
theorem yE(h:∀d∈ds,eG d):et A (compareOp .In) (.sym i) (.slist ds) (.bool (dU i ds)):=(qt (c:=.slist ds) rfl (vw i h)).1
theorem yI(vs:List Nat)(n:Nat):∃(a:PySem.Str)(j:Int)(t:D),hV vs n=.tuple [.str a,.sym j,t]/\eG t:=by
 unfold hV;split;·exact⟨_,_,_,rfl,.inr rfl⟩
 · split;·exact⟨_,_,_,rfl,.inl ⟨_,rfl⟩⟩
   ·exact⟨_,_,_,rfl,.inr rfl⟩
theorem rS(h:∀d∈fs,eG d):∀d∈c8 vs fs n,eG d:=by
 refine cI λG b=>?_;obtain⟨a,j,t,e,c⟩:=yI vs n;refine b ?_;intro d hd;unfold c8 at hd;rw[e]at hd;dsimp only at hd;rw[AZ,AZ,AF]at hd;rcases hd with(hd|rfl)|hd;·exact h d hd
 ·exact c
 · split at hd;·cases hd
   ·rw[AF]at hd;subst hd;exact .inl ⟨_,rfl⟩
theorem ly:∀(ns:List Nat){fs:List D},(∀d∈fs,eG d)->∀d∈ns.foldl (c8 vs) fs,eG d|[],_,h=>h|n::ns,_,h=>ly ns (rS h)
section
variable{σ τ:Sig}{o:List Orc}{cl:List Claim}{k n:Nat}{sc:Scope}{ask:List Addr}
theorem lL(a:Fm ⟨k,sc,[],ask⟩)(h:((cr n).d ⟨k,sc,[],ask⟩ e σ o).map (λr=>(r.a,r.σ,r.c))=some (d,τ,cl))(f:bx cl)(b:bT σ=true)(c:bT τ=true):Ev a.A a.env a.g e σ d τ:=by obtain⟨r,g,q⟩:=AD.mp h;simp only[Prod.mk.injEq]at q;have:=r.h (by rw[q.2.2];exact f) a;rw[q.1,q.2.1,fh rfl a,eO b,eO c]at this;exact this
theorem ia(c:bT σ=true)(d:bT τ=true)(h:∀a:Fm ⟨k,sc,[],ask⟩,eA a.A a.env a.g x b e ds σ es τ):uT ⟨k,sc,[],ask⟩ x b e ds σ es τ:=λa=>by rw[fh rfl a,eO c,eO d];exact h a
end
noncomputable abbrev ci(c:CmpOp)(a b:D)(v:Bool):Claim:=.p (∀A:Around,A.handled=none->A.units+8<cLine->et A (compareOp c) a b (.bool v))
noncomputable def vB:List Nat->D->D|[],d=>d|n::ns,_=>vB ns (.sym (n:Int))
section
variable{os bs fs es:List D}{i:Int}
theorem CE(b:Bool):((cr 40).t zj ((f0 x1).headD x1) (nj fs (.sym i)) [.t b]).map (λr=>(r.a,r.σ,r.c))=some (b,nj fs (.sym i),[ci .In (.sym i) (.slist fs) b]):=by kernel_rfl
theorem Eh:((cr 40).d zj (dR x1) (nj fs (.sym i)) []).map (λr=>(r.a,r.σ,r.c))=some (.sym i,nj fs (.sym i),[]):=by kernel_rfl
theorem Av:(b8 40 11 [1297] c6 [.list os,.list []] []).map (λr=>(r.a,r.c))=some (.ret (.list []),[.le 0 NN,.le 0 NN]):=by kernel_rfl
theorem yn(f:∀d∈fs,eG d)(a:Fm zj):∀(ns:List Nat)(b:D),eA a.A a.env a.g "at" (f0 x1) (dR x1) (bm ns) (nj fs b) (bm (ns.filter λn=>dU n fs)) (nj fs (vB ns b)):=by intro z;induction z with|nil=>intro b;exact .nil|cons n ns e=>intro b;have e:=e (.sym n);have c:iy a.A a.env a.g (f0 x1) (bO (nj fs b) "at" (.v (.sym n))) (dU n fs) (nj fs (.sym n)):=show Tr a.A a.env a.g ((f0 x1).headD x1) _ _ _ from fv a (CE (dU n fs)) ⟨λA U U=>yE f,trivial⟩ rfl rfl;rw[List.filter_cons];cases h:dU n fs with|true=>rw[h]at c;exact .take c (lL a Eh trivial rfl rfl) e|false=>rw[h]at c;exact .skip c e
theorem xo(f:∀d∈fs,eG d)(a:Fm zj)(n:Nat)(ns:List Nat):eA a.A a.env a.g "at" (f0 x1) (dR x1) (bm (n::ns)) (MP fs) (bm ((n::ns).filter λn=>dU n fs)) (nj fs (vB (n::ns) .none)):=by have h:=yn f a (n::ns) .none;generalize bm ((n::ns).filter λn=>dU n fs)=es at h⊢;cases h with|take b c e=>exact .take b c e|skip b c=>exact .skip b c
end
noncomputable def cf(vs:List Nat):List Nat:=(bo vs 0).filter λn=>dU n ((bo vs 0).foldl (c8 vs) (ll (bm (bo vs 0))))
theorem lM(vs:List Nat):∀(ns:List Nat)(fs:List D),(ns.foldl (c8 vs) fs).length<=fs.length+2*ns.length|[],fs=>AT _|n::ns,fs=>by have:=lM vs ns (c8 vs fs n);have:=lO vs fs n;rw[List.foldl_cons,AJ];exact d2 (by assumption) this
theorem Bj(ns:List Nat):(∀d∈ll (bm ns),eG d)/\(ll (bm ns)).length<=1:=by cases ns with|nil=>rw[show bm []=[]from rfl,Am];exact⟨λd h=>(by cases h),AW _⟩|cons n ns=>rw[show bm (n::ns)=.sym (n:Int)::bm ns from rfl,lp];exact⟨λd h=>(by rw[AF.mp h];exact .inl ⟨_,rfl⟩),AT _⟩
theorem rX(l:∀x∈vs,x∈pool)(a:vs.length<=11):br 12 1309 [.list (bm vs),.list (bm (bo vs 0))] (.list (bm (cf vs))):=by have d:=eD vs 0;unfold cf;cases f:bo vs 0 with|nil=>exact bp c6 rfl Av ⟨AW _,AW _,trivial⟩|cons n ns=>
 rw[<-f];obtain⟨g,j⟩:=Bj (bo vs 0);have b:=ly (vs:=vs) (bo vs 0) g;have h:(bm (bo vs 0)).length<=NN:=by unfold bm;rw[AM];show _<=16777216;exact wk (A1 d a) rfl
 have hb:=lM vs (bo vs 0) (ll (bm (bo vs 0)));generalize c:(bo vs 0).foldl (c8 vs) (ll (bm (bo vs 0)))=fs at*;refine bp c6 rfl (Es (fs:=fs) (vB (bo vs 0) .none)) ⟨h,iF rfl rfl λe=>?_,ia rfl rfl λe=>?_,?_,trivial⟩;·rw[<-c];exact yg l a e (bo vs 0) _ 1 (d9 vs 0) j (by exact wk (Ad (Ah 2 (A1 d a)) 1) rfl)
 ·have:=xo b e n ns;rw[f];exact this
 ·show(bm _).length<=16777216;unfold bm;rw[AM];have:=List.length_filter_le (λn:Nat=>dU n fs) (bo vs 0);exact wk (A1 this (A1 d a)) rfl
noncomputable def yA(Zs:List Addr)(h:Heap):Yd:=λa o=>a∈Zs/\h.get? a=some o
structure wR(g:Gr)(Y:Yd)(Zs:List Addr)(h:Heap):Prop where
 off:∀a∈Zs,g.get? a=none/\¬dY Y a/\a∉g.fs
 there:∀a∈Zs,∃o,h.get? a=some o
def RZ(env:Env)(g:Gr)(Y:Yd)(Zs:List Addr)(σ:Sig)(h:Heap)(H:Addr->Obj->Prop):Prop:=wR g Y Zs h/\gP env g (yU Y (yA Zs h)) σ h H
section
variable{A:Around}{env:Env}{g:Gr}{Y:Yd}{Zs:List Addr}{σ σ':Sig}{h h':Heap}{H H':Addr->Obj->Prop}{k:Nat}
theorem qZ(hs:∀a∈Zs,h'.get? a=h.get? a):yA Zs h=yA Zs h':=by funext a o;exact propext ⟨λq=>⟨q.1,(hs a q.1).trans q.2⟩,λq=>⟨q.1,(hs a q.1).symm.trans q.2⟩⟩
theorem wR.same(z:wR g Y Zs h)(R:gP env g (yU Y (yA Zs h)) σ h' H):∀a∈Zs,h'.get? a=h.get? a:=by obtain⟨m,c,ad,R⟩:=R;intro a b;obtain⟨o,e⟩:=z.there a b;rw[(R.held a o (.inr ⟨b,e⟩)).1.at (z.off a b).2.2,e]
theorem wR.move(z:wR g Y Zs h)(hs:∀a∈Zs,h'.get? a=h.get? a):wR g Y Zs h':=⟨z.off,λa b=>by rw[hs a b];exact z.there a b⟩
theorem RZ.on(z:wR g Y Zs h)(R:gP env g (yU Y (yA Zs h)) σ h' H):RZ env g Y Zs σ h' H/\∀a∈Zs,h'.get? a=h.get? a:=by have e:=z.same R;refine⟨⟨z.move e,?_⟩,e⟩;rw[<-qZ e];exact R
theorem RZ.turn(z:RZ env g Y Zs σ h H)(hb:b∈Zs)(hs:Ai b h h')(j:∃o,h'.get? b=some o):∃H',RZ env g Y Zs σ h' H'/\Sb H H':=by
 refine cI λG f=>?_;obtain⟨c,m,d,ad,R⟩:=z;refine f ?_;have t:∀a∈Zs,∃o,h'.get? a=some o:=λa i=>by
  by_cases e:a=b;·rw[e];exact j
  ·rw[hs.2 a e];exact c.there a i
 have q:=bD.turn (Z':=yA Zs h') (h':=h') R (λa o e n=>(hs.2 a λz=>n ⟨o,z▸hb,e⟩).trans e) (λa⟨o,q⟩=>c.off a q.1) (λa o q=>⟨q.2,.inl ⟨_,q.1,(c.there a q.1).choose_spec⟩⟩);exact⟨_,⟨⟨c.off,t⟩,m,d,ad,q.1⟩,q.2⟩
theorem RZ.new(z:wR g Y Zs h)(R:gP env g (yU (yU Y (yA Zs h)) (y1 a o)) σ h' H)(j:g.get? a=none)(n:¬dY (yU Y (yA Zs h)) a)(i:a∉g.fs):RZ env g Y (a::Zs) σ h' H/\(∀b∈Zs,h'.get? b=h.get? b)/\h'.get? a=some o/\a∉Zs:=by
 have l:a∉Zs:=λq=>n (bX.mpr (.inr ⟨_,q,(z.there a q).choose_spec⟩));have c:h'.get? a=some o/\∀b∈Zs,h'.get? b=h.get? b:=by obtain⟨m,r,ad,R⟩:=R;refine⟨(R.held a o (.inr ⟨rfl,rfl⟩)).1.at i,λb hb=>?_⟩;obtain⟨p,e⟩:=z.there b hb;rw[(R.held b p (.inl (.inr ⟨hb,e⟩))).1.at (z.off b hb).2.2,e]
 have e:yU (yU Y (yA Zs h)) (y1 a o)=yU Y (yA (a::Zs) h'):=by
   funext b q;refine propext ⟨λz=>?_,λz=>?_⟩
   · rcases z with(z|z)|z;·exact .inl z
     ·exact .inr ⟨A5 _ z.1,(c.2 b z.1).trans z.2⟩
     ·obtain⟨rfl,rfl⟩:=z;exact .inr ⟨A4,c.1⟩
   · rcases z with z|⟨d,f⟩;·exact .inl (.inl z)
     · rcases A6.mp d with rfl|d;·rw[c.1]at f;obtain rfl:=A0 f;exact .inr ⟨rfl,rfl⟩
       ·exact .inl (.inr ⟨d,(c.2 b d).symm.trans f⟩)
 refine⟨⟨⟨λb hb=>?_,λb hb=>?_⟩,e▸R⟩,c.2,c.1,l⟩
 · rcases A6.mp hb with rfl|hb;·exact⟨j,λq=>n (bX.mpr (.inl q)),i⟩
   ·exact z.off b hb
 · rcases A6.mp hb with rfl|hb;·exact⟨_,c.1⟩
   ·rw[c.2 b hb];exact z.there b hb
theorem RZ.less(z:RZ env g Y Zs σ h H)(hs:∀x s,bq τ x=some s->bq σ x=some s):∃H',RZ env g Y Zs τ h H'/\Sb H H':=by refine cI λG b=>?_;obtain⟨c,R⟩:=z;obtain⟨H',a,sub⟩:=R.weak hs;refine b ?_;exact⟨H',⟨c,a⟩,sub⟩
theorem RZ.live(z:RZ env g Y Zs σ h H):∀a o,H a o->h.get? a=some o:=by obtain⟨U,m,c,ad,R⟩:=z;intro a o q;rw[R.isH]at q;exact q.1
end
noncomputable def f3(n:D)(r:FormR):List (PySem.Str×D):=[("name",.str r.1),("kinds",.tuple (r.2.1.map D.str)),("opcode",.int r.2.2.1),("escape",.int r.2.2.2.1),("digit",.int r.2.2.2.2.1),("size",.int r.2.2.2.2.2.1),("must",.int r.2.2.2.2.2.2.1),("is_wide",.bool r.2.2.2.2.2.2.2.1),("number",n),("places",.tuple (r.2.2.2.2.2.2.2.2.map D.str))]
abbrev FA:Type:=Addr×Addr×FormR
abbrev CA:Type:=List Int×Addr×Addr×List FA
noncomputable def jD(q:CA):DictEntry:=⟨tupleKeyHash (intKind P0 w) q.1,.ref q.2.1,.ref q.2.2.1⟩
noncomputable def eL(p:PySem.Str×Addr):PySem.Str×Value:=(p.1,.ref p.2)
structure ch(Zs:List Addr)(ms:List FA)(nd cd:Addr)(b:Nat)(N:List (PySem.Str×Addr))(C:List CA)(h:Heap)(H:Addr->Obj->Prop):Prop where
 fm:∀p∈ms,H p.1 (instObj 234 p.2.1)/\p.2.1∈Zs/\∃es n,h.get? p.2.1=some (dictOf es n)/\cQ H es (f3 .any p.2.2)nz:nd∈Zs/\(nd==sysModules)=false
 nN:h.DictOf (strKind P0 w) nd (N.map eL)lN:∀p∈N,p.2∈Zs/\∃vs n,h.get? p.2=some (bA vs n)/\vs.length<=b
 cz:cd∈Zs/\(cd==sysModules)=false
 cC:∃n,h.get? cd=some (dictOf (C.map (jD)) n)kC:(C.map (·.1)).Nodup
 tC:∀q∈C,∃us n,H q.2.1 (dQ us n)/\IntsAre us q.1
 lC:∀q∈C,q.2.2.1∈Zs/\∃n,h.get? q.2.2.1=some (bA (q.2.2.2.map λp=>Value.ref p.1) n)off:cd≠nd/\∀p∈ms,p.2.1≠nd/\p.2.1≠cd
 offL:∀p∈N,∀q∈C,p.2≠q.2.2.1
 one:(C.map (·.2.2.1)).Nodup
 few:N.length<=1000/\C.length<=1000/\∀q∈C,q.2.2.2.length<=1000
 mem:∀q∈C,∀p∈q.2.2.2,p∈ms
section
variable{Zs Zs':List Addr}{ms:List FA}{nd cd:Addr}{b:Nat}{N:List (PySem.Str×Addr)}{C:List CA}{h h':Heap}{H H':Addr->Obj->Prop}
theorem kr(x:h.DictOf (strKind P0 w) nd kvs)(e:h'.get? nd=h.get? nd):h'.DictOf (strKind P0 w) nd kvs:=by obtain⟨o,es,ep,a,r⟩:=x;exact⟨o,es,ep,e.trans a,r⟩
theorem ch.move(I:ch Zs ms nd cd b N C h H)(hs:∀a∈Zs,h'.get? a=h.get? a)(sub:Sb H H')(c:∀a∈Zs,a∈Zs'):ch Zs' ms nd cd b N C h' H' where
 fm:=λp g=>by refine cI λG f=>?_;obtain⟨a,b,es,n,e,d⟩:=I.fm p g;refine f ?_;exact⟨sub _ _ a,c _ b,es,n,(hs _ b).trans e,d.mono sub⟩
 nz:=⟨c _ I.nz.1,I.nz.2⟩;nN:=kr I.nN (hs _ I.nz.1);lN:=λp g=>by refine cI λG f=>?_;obtain⟨a,vs,n,e,l⟩:=I.lN p g;refine f ?_;exact⟨c _ a,vs,n,(hs _ a).trans e,l⟩
 cz:=⟨c _ I.cz.1,I.cz.2⟩;cC:=by obtain⟨n,e⟩:=I.cC;exact⟨n,(hs _ I.cz.1).trans e⟩
 kC:=I.kC;tC:=λq j=>by obtain⟨u,n,e,i⟩:=I.tC q j;exact⟨u,n,sub _ _ e,i⟩
 lC:=λq j=>by obtain⟨a,n,e⟩:=I.lC q j;exact⟨c _ a,n,(hs _ a).trans e⟩
 off:=I.off;offL:=I.offL;one:=I.one;few:=I.few;mem:=I.mem
theorem dH(c:h.get? a=some (bA vs n))(e:h.get? b=some (dictOf es m)):a≠b:=by rintro rfl;rw[c]at e;exact absurd (Value.type.inj (congrArg Obj.cls (A0 e))) (by decide)
theorem g4(e:h.get? a=some (bA vs n))(d:h.DictOf (strKind P0 w) b kvs):a≠b:=by rintro rfl;obtain⟨o,es,ep,c,f,U⟩:=d;rw[e]at c;obtain rfl:=A0 c;exact absurd (Value.type.inj f.1) (by decide)
theorem ch.setForm(I:ch Zs ms nd cd b N C h H)(o:p∈ms)(e:h.get? p.2.1=some (dictOf es n))(hs:Ai p.2.1 h h')(s:h'.get? p.2.1=some (dictOf j u))(sub:Sb H H')(t:∀r,cQ H es (f3 .any r)->cQ H' j (f3 .any r)):ch Zs ms nd cd b N C h' H' where
 fm:=λq f=>by
   refine cI λG m=>?_;obtain⟨a,b,k,g,c,d⟩:=I.fm q f;refine m ?_;refine⟨sub _ _ a,b,?_⟩;by_cases z:q.2.1=p.2.1
   · rw[z]at c⊢;rw[e]at c;have:es=k:=by have:=congrArg Obj.data (A0 c);injection this with this;simpa using this
     subst this;exact⟨j,u,s,t _ d⟩
   ·exact⟨k,g,(hs.2 _ z).trans c,d.mono sub⟩
 nz:=I.nz;nN:=kr I.nN (hs.2 _ (I.off.2 p o).1.symm);lN:=λq f=>by refine cI λG m=>?_;obtain⟨a,vs,g,c,l⟩:=I.lN q f;refine m ?_;exact⟨a,vs,g,(hs.2 _ (dH c e)).trans c,l⟩
 cz:=I.cz;cC:=by obtain⟨g,c⟩:=I.cC;exact⟨g,(hs.2 _ (I.off.2 p o).2.symm).trans c⟩
 kC:=I.kC;tC:=λq f=>by obtain⟨v,n,e,i⟩:=I.tC q f;exact⟨v,n,sub _ _ e,i⟩
 lC:=λq f=>by obtain⟨a,g,c⟩:=I.lC q f;exact⟨a,g,(hs.2 _ (dH c e)).trans c⟩
 off:=I.off;offL:=I.offL;one:=I.one;few:=I.few;mem:=I.mem
theorem ch.appN(I:ch Zs ms nd cd b N C h H)(o:p∈N)(hs:Ai p.2 h h')(r:h'.get? p.2=some (bA vs n))(s:vs.length<=b+1)(sub:Sb H H'):ch Zs ms nd cd (b+1) N C h' H':=by refine cI λG j=>?_;obtain⟨t,v,x,k,U⟩:=I.lN p o;refine j ?_;exact{
 fm:=λq f=>by refine cI λG j=>?_;obtain⟨a,b,m,g,c,d⟩:=I.fm q f;refine j ?_;exact⟨sub _ _ a,b,m,g,(hs.2 _ (dH k c).symm).trans c,d.mono sub⟩
 nz:=I.nz
 nN:=kr I.nN (hs.2 _ (g4 k I.nN).symm)
 lN:=λq f=>by
  refine cI λG j=>?_;obtain⟨a,vs2,g,c,l⟩:=I.lN q f;refine j ?_;by_cases z:q.2=p.2;·rw[z];exact⟨t,vs,n,r,s⟩
  ·exact⟨a,vs2,g,(hs.2 _ z).trans c,Nat.le_succ_of_le l⟩
 cz:=I.cz
 cC:=by obtain⟨g,c⟩:=I.cC;exact⟨g,(hs.2 _ (dH k c).symm).trans c⟩
 kC:=I.kC
 tC:=λq f=>by obtain⟨u,n,e,i⟩:=I.tC q f;exact⟨u,n,sub _ _ e,i⟩
 lC:=λq f=>by obtain⟨a,g,c⟩:=I.lC q f;exact⟨a,g,(hs.2 _ (I.offL p o q f).symm).trans c⟩
 off:=I.off
 offL:=I.offL
 one:=I.one
 few:=I.few
 mem:=I.mem}
theorem ch.newN(I:ch Zs ms nd cd b N C h H)(t:a∈Zs)(e:h.get? a=some (bA [] n))(r:∀q∈C,a≠q.2.2.1)(hs:Ai nd h h')(u:h'.DictOf (strKind P0 w) nd ((N++[(x,a)]).map eL))(v:(N++[(x,a)]).length<=1000)(sub:Sb H H'):ch Zs ms nd cd b (N++[(x,a)]) C h' H' where
 fm:=λq c=>by refine cI λG s=>?_;obtain⟨m,o,k,g,f,d⟩:=I.fm q c;refine s ?_;exact⟨sub _ _ m,o,k,g,(hs.2 _ (I.off.2 q c).1).trans f,d.mono sub⟩
 nz:=I.nz;nN:=u;lN:=λq c=>by
  rcases AZ.mp c with c|c;·obtain⟨b,vs2,g,f,l⟩:=I.lN q c;exact⟨b,vs2,g,(hs.2 _ (g4 f I.nN)).trans f,l⟩
  ·rw[AF.mp c];exact⟨t,[],n,(hs.2 _ (g4 e I.nN)).trans e,AW _⟩
 cz:=I.cz;cC:=by obtain⟨g,f⟩:=I.cC;exact⟨g,(hs.2 _ I.off.1).trans f⟩
 kC:=I.kC;tC:=λq c=>by obtain⟨y,n,e,i⟩:=I.tC q c;exact⟨y,n,sub _ _ e,i⟩
 lC:=λq c=>by obtain⟨b,g,f⟩:=I.lC q c;exact⟨b,g,(hs.2 _ (g4 f I.nN)).trans f⟩
 off:=I.off;offL:=λp j q c=>by
  rcases AZ.mp j with j|j;·exact I.offL p j q c
  ·rw[AF.mp j];exact r q c
 one:=I.one;few:=⟨v,I.few.2⟩;mem:=I.mem
end
noncomputable def vS(C:List CA):List (List Int×Addr×Value):=C.map λq=>(q.1,q.2.1,.ref q.2.2.1)
noncomputable def dq(C:List CA):List (List Int×List FormR):=C.map λq=>(q.1,q.2.2.2.map (·.2.2))
noncomputable def j7(k:List Int)(p:FA)(C:List CA):List CA:=C.map λq=>if q.1=k then(q.1,q.2.1,q.2.2.1,q.2.2.2++[p])else q
section
variable{Zs Zs':List Addr}{ms:List FA}{nd cd:Addr}{b:Nat}{N:List (PySem.Str×Addr)}{C:List CA}{h h':Heap}{H H':Addr->Obj->Prop}
theorem mM(C:List CA):(vS C).map (·.1)=C.map (·.1):=by unfold vS;rw[List.map_map];rfl
theorem ch.dictH(I:ch Zs ms nd cd b N C h H)(l:∀a o,H a o->h.get? a=some o):h.DictOfH (tupleKind (intKind P0 w)) cd (vS C):=by
 obtain⟨n,e⟩:=I.cC;refine⟨_,(C.map (jD)).toArray,n,e,⟨rfl,rfl,rfl⟩,rfl,?_,λx d=>?_,by rw[mM];exact I.kC⟩;·rw[List.toList_toArray];unfold vS;rw[List.map_map];rfl
 ·obtain⟨q,c,rfl⟩:=Ag.mp d;obtain⟨u,m,t,i⟩:=I.tC q c;exact⟨_,_,m,l _ _ t,rfl,rfl,by rw[List.toList_toArray];exact fO i⟩
theorem zW(x:h.DictOfH (tupleKind (intKind P0 w)) cd (vS C)):∃n,h.get? cd=some (dictOf (C.map (jD)) n):=by
 refine cI λG g=>?_;obtain⟨o,es,ep,k,i,a,j,U⟩:=x;obtain⟨c,l,m,s⟩:=o;obtain⟨d,e,f⟩:=i;dsimp only at d e f a;subst d e f a;refine g ?_;refine⟨ep,?_⟩;have:es=(C.map (jD)).toArray:=by apply Array.toList_inj.mp;rw[j,List.toList_toArray];unfold vS;rw[List.map_map];rfl
 rw[k,this]
theorem mJ(h:k∉C.map (·.1)):atKey (vS C) k=none:=by unfold atKey;rw[Option.map_eq_none_iff,List.find?_eq_none];intro x a z;refine h ?_;rw[<-mM];exact Ag.mpr ⟨x,a,of_decide_eq_true z⟩
theorem mS(d:(C.map (·.1)).Nodup)(a:q∈C):atKey (vS C) q.1=some (q.2.1,.ref q.2.2.1):=by unfold atKey;induction C with|nil=>exact absurd a A3|cons c r i=>
 unfold vS;rw[AS,List.find?_cons];rw[AS,List.nodup_cons]at d;rcases A6.mp a with rfl|a;·rw[show decide (q.1=q.1)=true from AB rfl];rfl
 ·have:c.1≠q.1:=λz=>d.1 (z▸Ag.mpr ⟨q,a,rfl⟩);rw[show decide (c.1=q.1)=false from AI this];exact i d.2 a
theorem ch.newC(I:ch Zs ms nd cd b N C h H)(L:H t (dQ u m))(J:IntsAre u k)(Q:k∉C.map (·.1))(M:la∈Zs)(e:h.get? la=some (bA [] n))(B:∀p∈N,p.2≠la)(A:la∉C.map (·.2.2.1))(hs:Ai cd h h')(v:h'.DictOfH (tupleKind (intKind P0 w)) cd (vS (C++[(k,t,la,[])])))(O:(C++[(k,t,la,([]:List FA))]).length<=1000)(sub:Sb H H'):ch Zs ms nd cd b N (C++[(k,t,la,[])]) h' H':=by obtain⟨T,o⟩:=I.cC;exact{
 fm:=λq c=>by refine cI λG s=>?_;obtain⟨x,y,r,g,f,d⟩:=I.fm q c;refine s ?_;exact⟨sub _ _ x,y,r,g,(hs.2 _ (I.off.2 q c).2).trans f,d.mono sub⟩
 nz:=I.nz
 nN:=kr I.nN (hs.2 _ I.off.1.symm)
 lN:=λq c=>by refine cI λG s=>?_;obtain⟨b,vs2,g,f,l⟩:=I.lN q c;refine s ?_;exact⟨b,vs2,g,(hs.2 _ (dH f o)).trans f,l⟩
 cz:=I.cz
 cC:=zW v
 kC:=by rw[<-mM];exact v.choose_spec.choose_spec.choose_spec.2.2.2.2.2
 tC:=λq c=>by
  rcases AZ.mp c with c|c;·obtain⟨u,n,e,i⟩:=I.tC q c;exact⟨u,n,sub _ _ e,i⟩
  ·rw[AF.mp c];exact⟨u,m,sub _ _ L,J⟩
 lC:=λq c=>by
  rcases AZ.mp c with c|c;·obtain⟨b,g,f⟩:=I.lC q c;exact⟨b,g,(hs.2 _ (dH f o)).trans f⟩
  ·rw[AF.mp c];exact⟨M,n,(hs.2 _ (dH e o)).trans e⟩
 off:=I.off
 offL:=λp j q c=>by
  rcases AZ.mp c with c|c;·exact I.offL p j q c
  ·rw[AF.mp c];exact B p j
 one:=by rw[List.map_append,List.nodup_append];refine⟨I.one,by simp,λa E b hb=>?_⟩;have hb:b=la:=AF.mp hb;subst hb;exactλz=>A (by rw[<-z];exact E)
 few:=⟨I.few.1,O,λq c=>by
  rcases AZ.mp c with c|c;·exact I.few.2.2 q c
  ·rw[AF.mp c];exact AW _⟩
 mem:=λq c=>by
  rcases AZ.mp c with c|c;·exact I.mem q c
  ·rw[AF.mp c];exactλp j=>by exact absurd j A3}
theorem xP(h:(C.map (·.2.2.1)).Nodup)(g:q∈C)(i:c∈C)(e:q.2.2.1=c.2.2.1):q=c:=by induction C with|nil=>exact absurd g A3|cons d r j=>
 rw[AS,List.nodup_cons]at h;rcases A6.mp g with rfl|f<;>rcases A6.mp i with rfl|a;·rfl
 ·exact(h.1 (e▸Ag.mpr ⟨c,a,rfl⟩)).elim
 ·exact(h.1 (e▸Ag.mpr ⟨q,f,rfl⟩)).elim
 ·exact j h.2 f a
theorem Bq(h:(C.map (·.1)).Nodup)(g:q∈C)(i:c∈C)(e:q.1=c.1):q=c:=by induction C with|nil=>exact absurd g A3|cons d r j=>
 rw[AS,List.nodup_cons]at h;rcases A6.mp g with rfl|f<;>rcases A6.mp i with rfl|a;·rfl
 ·exact(h.1 (e▸Ag.mpr ⟨c,a,rfl⟩)).elim
 ·exact(h.1 (e▸Ag.mpr ⟨q,f,rfl⟩)).elim
 ·exact j h.2 f a
theorem p4(k:List Int)(p:FA)(C:List CA):(j7 k p C).map (·.1)=C.map (·.1):=by unfold j7;rw[List.map_map];exact List.map_congr_left λq U=>by simp only[Function.comp_apply];split<;>rfl
theorem uN(k:List Int)(p:FA)(C:List CA):(j7 k p C).map (·.2.2.1)=C.map (·.2.2.1):=by unfold j7;rw[List.map_map];exact List.map_congr_left λq U=>by simp only[Function.comp_apply];split<;>rfl
theorem rc(k:List Int)(p:FA)(C:List CA):(j7 k p C).map (jD)=C.map (jD):=by unfold j7;rw[List.map_map];exact List.map_congr_left λq U=>by simp only[Function.comp_apply];split<;>rfl
theorem ch.appC(I:ch Zs ms nd cd b N C h H)(g:c∈C)(t:p∈ms)(hs:Ai c.2.2.1 h h')(E:h'.get? c.2.2.1=some (bA (c.2.2.2.map (λp=>Value.ref p.1)++[.ref p.1]) n))(J:c.2.2.2.length<1000)(sub:Sb H H'):ch Zs ms nd cd b N (j7 c.1 p C) h' H':=by
 obtain⟨M,O,o⟩:=I.lC c g;have m:∀q∈j7 c.1 p C,(q=(c.1,c.2.1,c.2.2.1,c.2.2.2++[p]))\/(q∈C/\q.2.2.1≠c.2.2.1):=λq a=>by
   obtain⟨L,s,rfl⟩:=Ag.mp a;by_cases z:L.1=c.1;·have:=Bq I.kC s g z;subst this;exact .inl (if_pos rfl)
   ·rw[if_neg z];exact .inr ⟨s,λy=>z (by rw[xP I.one s g y])⟩
 obtain⟨j,f⟩:=I.cC;exact{
   fm:=λq a=>by obtain⟨A,B,r,j,f,d⟩:=I.fm q a;exact⟨sub _ _ A,B,r,j,(hs.2 _ (dH o f).symm).trans f,d.mono sub⟩
   nz:=I.nz
   nN:=kr I.nN (hs.2 _ (g4 o I.nN).symm)
   lN:=λq a=>by obtain⟨b,vs2,j,f,l⟩:=I.lN q a;exact⟨b,vs2,j,(hs.2 _ (I.offL q a c g)).trans f,l⟩
   cz:=I.cz
   cC:=⟨j,by rw[rc];exact(hs.2 _ (dH o f).symm).trans f⟩
   kC:=by rw[p4];exact I.kC
   tC:=λq a=>by
     rcases m q a with rfl|⟨a,U⟩;·obtain⟨u,n,e,i⟩:=I.tC c g;exact⟨u,n,sub _ _ e,i⟩
     ·obtain⟨u,n,e,i⟩:=I.tC q a;exact⟨u,n,sub _ _ e,i⟩
   lC:=λq a=>by
     rcases m q a with rfl|⟨a,G⟩;·exact⟨M,n,by rw[List.map_append];exact E⟩
     ·obtain⟨b,j,f⟩:=I.lC q a;exact⟨b,j,(hs.2 _ G).trans f⟩
   off:=I.off
   offL:=λp' v q a=>by
     rcases m q a with rfl|⟨a,U⟩;·exact I.offL p' v c g
     ·exact I.offL p' v q a
   one:=by rw[uN];exact I.one
   few:=⟨I.few.1,by have:=congrArg List.length (p4 c.1 p C);rw[AM,AM]at this;rw[this];exact I.few.2.1,λq a=>by
     rcases m q a with rfl|⟨a,U⟩;·rw[AX];exact J
     ·exact I.few.2.2 q a⟩
   mem:=λq a=>by
     rcases m q a with rfl|⟨a,U⟩
     · intro x k;rcases AZ.mp k with k|k;·exact I.mem c g x k
       ·rw[AF.mp k];exact t
     ·exact I.mem q a}
end
section
variable{A:Around}{env:Env}{g:Gr}{Y:Yd}{Zs:List Addr}{σ σ':Sig}{H:Addr->Obj->Prop}{k:Nat}{s:Shared}{ms:List FA}{nd cd:Addr}{b:Nat}{N:List (PySem.Str×Addr)}{C C':List CA}{E:Value->Shared->Prop}
theorem RZ.kin(X:Cx k A g env.frame)(z:RZ env g Y Zs σ s.heap H):(cA w.params).In s.heap:=by obtain⟨U,m,c,ad,R⟩:=z;exact RL.kin (l:=⟨_,m,c,ad⟩) X R
theorem Ev.z(h:Ev A env g e σ d σ')(z:RZ env g Y Zs σ s.heap H)(I:ch Zs ms nd cd b N C s.heap H)(K:∀v h' t H',RZ env g Y Zs σ' h' H'->ch Zs ms nd cd b N C h' H'->Sb H H'->(∀a∈Zs,h'.get? a=s.heap.get? a)->cx H' v d->Q v (uS s h' t)):wpAny (model P0 w) A (eval e env) Q E s:=by obtain⟨l,m,c,ad,R⟩:=z;refine h ⟨_,m,c,ad⟩ s H _ E R λv h' t H' f sub i=>?_;obtain⟨j,e⟩:=RZ.on l ⟨m,c,ad,f⟩;exact K v h' t H' j (I.move e sub λU q=>q) sub e i
theorem il.z(h:il A env g es σ ds σ')(z:RZ env g Y Zs σ s.heap H)(I:ch Zs ms nd cd b N C s.heap H)(K:∀vs h' t H',RZ env g Y Zs σ' h' H'->ch Zs ms nd cd b N C h' H'->Sb H H'->(∀a∈Zs,h'.get? a=s.heap.get? a)->bM H' vs ds->Q ⟨vs,[]⟩ (uS s h' t)):wpAny (model P0 w) A (evalArgs f true (backTo pos (starEach es env)) []) Q E s:=by obtain⟨l,m,c,ad,R⟩:=z;refine h.args _ pos ⟨_,m,c,ad⟩ s H _ E R λvs h' t H' d sub i=>?_;obtain⟨j,e⟩:=RZ.on l ⟨m,c,ad,d⟩;exact K vs h' t H' j (I.move e sub λU q=>q) sub e i
theorem Gp(X:Cx k A g env.frame)(O:cj env)(J:(x==("__debug__":PySem.Str))=false)(z:RZ env g Y Zs σ s.heap H)(I:ch Zs ms nd cd b N C s.heap H)(V:bq σ x=some (.v (.atom (.ref p.1))))(T:p∈ms)(L:(f3 .any p.2.2).lookup c=some d)(B:gq 234 c=true)(M:d.handed=true)(K:∀u h' t H',RZ env g Y Zs σ h' H'->ch Zs ms nd cd b N C h' H'->Sb H H'->(∀a∈Zs,h'.get? a=s.heap.get? a)->cx H' u d->Q u (uS s h' t)):wpAny (model P0 w) A (eval (.Attribute (.Name x l) c pa) env) Q E s:=by refine Attribute_any_ (Ev.z (bI O V J) z I λv h' t H' f h sub o j=>?_) (by show(attributeBase (.Name x l) c env (eval (.Name x l) env)>>=_)=_;rw[d8 rfl]);(first|obtain rfl:=j.inv|obtain⟨_,rfl⟩:=j.inv);refine cI λG y=>?_;obtain⟨q,hz,es,n,r,m⟩:=h.fm p T;obtain⟨u,U,i⟩:=m.get L;refine y ?_;exact vC (s:=(uS s h' t)) (RZ.kin (s:=(uS s h' t)) X f) (f.live _ _ q) r B U (mN i M) λe=>K u h' e H' f h sub o i
theorem Mf(X:Cx k A g env.frame)(O:cj env)(hd:(x==("__debug__":PySem.Str))=false)(l:(y==("__debug__":PySem.Str))=false)(z:RZ env g Y Zs σ s.heap H)(I:ch Zs ms nd cd b N C s.heap H)(hx:bq σ x=some (.v (.atom (.ref f.1))))(hy:bq σ y=some (.v dn))(hp:f∈ms)(hm:∀r,rJ (f3 .any r) nm .any=f3 .any r)(ha:pW 234 nm=true)(K:∀h' m H',RZ env g Y Zs σ h' H'->ch Zs ms nd cd b N C h' H'->Sb H H'->Q .next (uS s h' m)):wpAny (model P0 w) A (exec (.Assign [.Attribute (.Name x px) nm pa] (.Name y py) p) env) Q E s:=by refine plainObj_wpAny_Assign_Attribute (Ev.z (bI O hy l) z I λv h' m H' z' I' sub eq dv=>?_) (cR rfl _ _ _);refine Ev.z (s:=(uS s h' m)) (bI O hx hd) z' I' λu U i H2 J L e aa T=>?_;(first|obtain rfl:=T.inv|obtain⟨_,rfl⟩:=T.inv);refine cI λG j=>?_;obtain⟨h1,hz,es,n,V,M⟩:=L.fm f hp;refine j ?_;refine qU (s:=(uS s U i)) (RZ.kin (s:=(uS s U i)) X J) (J.live _ _ h1) V ha M.looked (by rw[M.length];exact Nat.le_of_ble_eq_true rfl) λh3 B t h d=>?_;refine cI λG j=>?_;obtain⟨H3,z3,c⟩:=J.turn hz d ⟨_,h⟩;refine j ?_;refine K h3 B H3 z3 (L.setForm hp V d h c λr dr=>?_) λa o q=>c a o (e a o (sub a o q));rw[<-hm r];exact cQ.put (Dn.any v) (dr.mono c)
theorem Hm(X:Cx k A g env.frame)(O:cj env)(L:(x==("__debug__":PySem.Str))=false)(z:RZ env g Y Zs σ s.heap H)(I:ch Zs ms nd cd b N C s.heap H)(U:bq σ x=some (.v (.atom (.ref f.1))))(T:f∈ms)(M:(f3 .any f.2.2).lookup h=some (.str f.2.2.1))(J:gq 234 h=true)(hs:Ev A env g (.Attribute (.Name y l) n c) σ (.atom (.ref nd)) σ)(K:∀h' t H',RZ env g Y Zs σ h' H'->ch Zs ms nd cd b N C h' H'->Sb H H'->Q (!(valueAt (N.map eL) f.2.2.1).isSome) (uS s h' t)):wpAny (model P0 w) A (isTrue (.Compare (.Attribute (.Name x px) h V) [.NotIn] [.Attribute (.Name y l) n c] p) env (eval (.Compare (.Attribute (.Name x px) h V) [.NotIn] [.Attribute (.Name y l) n c] p) env)) Q E s:=by refine wpAny_isTrue_Compare1 (Gp X O L z I U T M J rfl λu h' t H' z' r sub eq i=>?_) rfl;refine Ev.z (s:=(uS s h' t)) hs z' r λv G aa m z2 e d B j=>?_;(first|obtain rfl:=i.inv|obtain⟨_,rfl⟩:=i.inv);(first|obtain rfl:=j.inv|obtain⟨_,rfl⟩:=j.inv);refine wpAny_notIn_of (strKind_is _ _ _ _) e.nz.2 e.nN.mapOf ?_;exact wpAny_truthy_bool (K G _ m z2 e λa o q=>d a o (sub a o q))
theorem F6{x J y i:PySem.Str}{px pa py j p p2 p3:Pos}{f:FA}{Q:Flow->Shared->Prop}(X:Cx k A g env.frame)(O:cj env)(hd:(x==("__debug__":PySem.Str))=false)(z:RZ env g Y Zs σ s.heap H)(I:ch Zs ms nd cd b N C s.heap H)(hx:bq σ x=some (.v (.atom (.ref f.1))))(hp:f∈ms)(hf:(f3 .any f.2.2).lookup J=some (.str f.2.2.1))(ha:gq 234 J=true)(hs:Ev A env g (.Attribute (.Name y py) i j) σ (.atom (.ref nd)) σ)(hn:(valueAt (N.map eL) f.2.2.1).isSome=false)(hl:N.length<1000)(K:∀a h' L H',RZ env g Y (a::Zs) σ h' H'->ch (a::Zs) ms nd cd b (N++[(f.2.2.1,a)]) C h' H'->Sb H H'->Q .next (uS s h' L)):wpAny (model P0 w) A (exec (.Assign [.Subscript (.Attribute (.Name y py) i j) (.Attribute (.Name x px) J pa) p2] (.List [] p3) p) env) Q E s:=by
 obtain⟨zk,m,U,ad,R⟩:=z;refine wpAny_Assign_Subscript (oj .nil rfl ⟨_,m,U,ad⟩ s H _ E R λv h' L H' a o R' sub ok ga nY nf=>?_) (cR rfl _ _ _);obtain⟨z1,e1,e2,na⟩:=RZ.new zk ⟨m,U,ad,R'⟩ ga nY nf;have I1:=I.move (Zs':=a::Zs) e1 sub λb q=>A5 _ q;obtain⟨ev,vs,n,hg,dl⟩:=ok;obtain rfl:=A0 ev;(first|obtain rfl:=dl.inv|obtain⟨_,rfl⟩:=dl.inv);refine Ev.z (s:=(uS s h' L)) hs z1 I1 λu h2 M H2 z2 I2 l B e=>?_;(first|obtain rfl:=e.inv|obtain⟨_,rfl⟩:=e.inv);refine Gp (s:=(uS s h2 M)) X O hd z2 I2 hx hp hf ha rfl λu V T H3 z3 t r G e=>?_;(first|obtain rfl:=e.inv|obtain⟨_,rfl⟩:=e.inv);refine wpAny_setItem_pairs (s:=(uS s V T)) (strKind_is _ _ _ _) t.nN (λh4 d h=>?_) (by rw[AM,sizeLine_eq];exact wk (Nat.le_of_lt hl) rfl);have ea:V.get? a=some (bA [] n):=(G a A4).trans ((B a A4).trans hg);obtain⟨H4,z4,c⟩:=z3.turn (b:=nd) t.nz.1 h (by obtain⟨o,_,_,ho,_⟩:=d;exact⟨o,ho⟩);refine K a h4 _ H4 z4 (t.newN A4 ea (λq hq=>?_) h ?_ (by rw[AX];exact hl) c) λb o q=>c b o (r b o (l b o (sub b o q)));·intro z;exact na (z▸(I.lC q hq).1)
 ·rw[List.map_append];have:stored (N.map eL) f.2.2.1 (.ref a)=N.map eL++[(f.2.2.1,.ref a)]:=stored_absent (by simpa using hn) _;rw[this]at d;exact d
theorem wb{f:FA}{vs:List Value}{Q:Flow->Shared->Prop}(O:cj env)(hd:(x==("__debug__":PySem.Str))=false)(hx:bq σ x=some (.v (.atom (.ref f.1))))(hi:interactive env=false)(hp:bV e i pos [.Name x px]=true)(hz:vs.length<=1000)(he:∀(Q:Value->Shared->Prop)(E:Value->Shared->Prop),(∀h' t H',RZ env g Y Zs σ h' H'->ch Zs ms nd cd b N C h' H'->Sb H H'->(la∈Zs/\h'.get? la=some (bA vs n))->Q (.ref la) (uS s h' t))->wpAny (model P0 w) A (eval e env) Q E s)(hm:∀(h h':Heap)(H H':Addr->Obj->Prop)(y:Nat),ch Zs ms nd cd b N C h H->h.get? la=some (bA vs n)->Ai la h h'->h'.get? la=some (bA (vs++[.ref f.1]) y)->Sb H H'->ch Zs ms nd cd b' N C' h' H')(K:∀h' t H',RZ env g Y Zs σ h' H'->ch Zs ms nd cd b' N C' h' H'->Sb H H'->Q .next (uS s h' t)):wpAny (model P0 w) A (exec (.Expr (.Call (.Attribute e "append" i) [.Name x px] [] pos) p) env) Q E s:=by
 have J:il A env g [.Name x px] σ [.atom (.ref f.1)] σ:=.cons rfl (bI O hx hd) .nil;refine wpAny_Expr_any (fV J hp (he _ _ λh' t H' z I sub c pl=>?_)) hi (cR rfl _ _ _);refine getMethod_builtin (s:=(uS s h' t)) (⟨_,c.2,rfl⟩:Shared.TypeIs _ (.ref la) "list") PySem.F.plainAttrs_list slot_list_append type_list_append (λb e=>by obtain rfl:=PySem.Value.ref.inj e;exact⟨_,c.2,rfl⟩) ?_;refine Calls.callWith_builtin (bZ J) (il.z (s:=(uS s h' t)) J z I λus U M H2 z2 I2 m G B=>?_);obtain⟨u,rfl,T⟩:=gA B;(first|obtain rfl:=T.inv|obtain⟨_,rfl⟩:=T.inv);have j:=(G la c.1).trans c.2;refine wpAny_list_append_plain (s:=(uS s U M)) (⟨n,j⟩:U.PlainList la vs.toArray) (λV L l=>?_) (by rw[AA,sizeLine_eq];exact wk hz rfl);obtain⟨y,r⟩:=L;have r:V.get? la=some (bA (vs++[.ref f.1]) y):=by rw[r];simp
 obtain⟨H3,z3,d⟩:=z2.turn c.1 l ⟨_,r⟩;exact K V _ H3 z3 (hm _ _ _ _ y I2 j l r d) λa o q=>d a o (m a o (sub a o q))
end
section
variable{A:Around}{env:Env}{g:Gr}{Y:Yd}{Zs:List Addr}{σ σ':Sig}{H:Addr->Obj->Prop}{k:Nat}{s:Shared}{ms:List FA}{nd cd:Addr}{b:Nat}{N:List (PySem.Str×Addr)}{C C':List CA}{E:Value->Shared->Prop}
theorem IP(X:Cx k A g env.frame)(O:cj env)(V:(x==("__debug__":PySem.Str))=false)(z:RZ env g Y Zs σ s.heap H)(I:ch Zs ms nd cd b N C s.heap H)(hx:bq σ x=some (.v (.atom (.ref f.1))))(hp:f∈ms)(hf:(f3 .any f.2.2).lookup m=some (.str f.2.2.1))(M:gq 234 m=true)(hs:Ev A env g (.Attribute (.Name y py) n i) σ (.atom (.ref nd)) σ)(hn:valueAt (N.map eL) f.2.2.1=some (.ref la))(K:∀h' t H',RZ env g Y Zs σ h' H'->ch Zs ms nd cd b N C h' H'->Sb H H'->(∀a∈Zs,h'.get? a=s.heap.get? a)->Q (.ref la) (uS s h' t)):wpAny (model P0 w) A (eval (.Subscript (.Attribute (.Name y py) n i) (.Attribute (.Name x px) m pa) p) env) Q E s:=by refine PyProof.Rows.Subscript_ (Ev.z hs z I λu h' t H' z1 B sub J d=>?_);(first|obtain rfl:=d.inv|obtain⟨_,rfl⟩:=d.inv);refine Gp (s:=(uS s h' t)) X O V z1 B hx hp hf M rfl λu l j r z2 e c h d=>?_;(first|obtain rfl:=d.inv|obtain⟨_,rfl⟩:=d.inv);refine cI λG L=>?_;obtain⟨o,es,ep,ho,T,U⟩:=e.nN;refine L ?_;refine gG (s:=(uS s l j)) (⟨o,ho,T.1⟩:Shared.TypeIs _ (.ref nd) "dict") slot_dict_getitem.lookup ?_;exact wpAny_getItem_of (strKind_is _ _ _ _) e.nN.mapOf hn (K l _ r z2 e (λa o q=>c a o (sub a o q)) λa q=>(h a q).trans (J a q))
theorem ni:∀a:List Int,D.ints (a.map D.int)=some a|[]=>rfl|i::r=>by rw[AS];unfold D.ints;rw[ni r];rfl
theorem HE(O:cj env)(o:(c==("__debug__":PySem.Str))=false)(z:RZ env g Y Zs σ s.heap H)(I:ch Zs ms nd cd b N C s.heap H)(l:bq σ c=some (.v (.tuple (e.map D.int))))(K:∀d f m h' t H',RZ env g Y Zs σ h' H'->ch Zs ms nd cd b N C h' H'->Sb H H'->(∀a∈Zs,h'.get? a=s.heap.get? a)->H' d (dQ f m)->IntsAre f e->Q (.ref d) (uS s h' t)):wpAny (model P0 w) A (eval (.Name c r) env) Q E s:=by refine Ev.z (bI O l o) z I λu h' t H' q h sub j i=>?_;obtain⟨a,vs,n,rfl,p,dl⟩:=i.inv;exact K _ _ _ h' t H' q h sub j p (g3 dl (ni e))
theorem uZ(a:h.get? d=some (dQ u m))(c:IntsAre u e):(tupleKind (intKind P0 w)).is h e d:=⟨_,_,m,a,rfl,rfl,by rw[List.toList_toArray];exact fO c⟩
theorem Cx.room(X:Cx k A g env.frame):(tupleKind (intKind P0 w)).room A.in1:=by have:=X.units;exact tupleKind_room_in1 (by show A.units+1<9900;exact wk (AE (AE (A1 (A7 _ _) this))) rfl)
theorem GV(X:Cx k A g env.frame)(O:cj env)(J:(c==("__debug__":PySem.Str))=false)(z:RZ env g Y Zs σ s.heap H)(I:ch Zs ms nd cd b N C s.heap H)(G:bq σ c=some (.v (.tuple (T.map D.int))))(hs:Ev A env g (.Attribute (.Name y r) n e) σ (.atom (.ref cd)) σ)(K:∀h' t H',RZ env g Y Zs σ h' H'->ch Zs ms nd cd b N C h' H'->Sb H H'->Q (!(atKey (vS C) T).isSome) (uS s h' t)):wpAny (model P0 w) A (isTrue (.Compare (.Name c U) [.NotIn] [.Attribute (.Name y r) n e] p) env (eval (.Compare (.Name c U) [.NotIn] [.Attribute (.Name y r) n e] p) env)) Q E s:=by refine wpAny_isTrue_Compare1 (HE O J z I G λka us m h' t H' V x sub eq M L=>?_) rfl;refine Ev.z (s:=(uS s h' t)) hs V x λv l h u i f d B j=>?_;(first|obtain rfl:=j.inv|obtain⟨_,rfl⟩:=j.inv);refine wpAny_notIn_heap (s:=(uS s l h)) (knd:=tupleKind (intKind P0 w)) X.room (uZ (i.live _ _ (d _ _ M)) L) f.cz.2 (f.dictH i.live) ?_;exact wpAny_truthy_bool (K l _ u i f λa o q=>d a o (sub a o q))
theorem HL{c y f:PySem.Str}{pc py i p p2 p3:Pos}{t:List Int}{Q:Flow->Shared->Prop}(X:Cx k A g env.frame)(O:cj env)(hd:(c==("__debug__":PySem.Str))=false)(z:RZ env g Y Zs σ s.heap H)(I:ch Zs ms nd cd b N C s.heap H)(hc:bq σ c=some (.v (.tuple (t.map D.int))))(hs:Ev A env g (.Attribute (.Name y py) f i) σ (.atom (.ref cd)) σ)(hn:t∉C.map (·.1))(hl:C.length<1000)(K:∀r a h' J H',RZ env g Y (a::Zs) σ h' H'->ch (a::Zs) ms nd cd b N (C++[(t,r,a,[])]) h' H'->Sb H H'->Q .next (uS s h' J)):wpAny (model P0 w) A (exec (.Assign [.Subscript (.Attribute (.Name y py) f i) (.Name c pc) p2] (.List [] p3) p) env) Q E s:=by
 obtain⟨zk,m,V,ad,R⟩:=z;refine wpAny_Assign_Subscript (oj .nil rfl ⟨_,m,V,ad⟩ s H _ E R λv h' J H' a o R' sub ok ga nY nf=>?_) (cR rfl _ _ _);obtain⟨z1,e1,e2,na⟩:=RZ.new zk ⟨m,V,ad,R'⟩ ga nY nf;have I1:=I.move (Zs':=a::Zs) e1 sub λb q=>A5 _ q;obtain⟨ev,vs,n,hg,dl⟩:=ok;obtain rfl:=A0 ev;(first|obtain rfl:=dl.inv|obtain⟨_,rfl⟩:=dl.inv);refine Ev.z (s:=(uS s h' J)) hs z1 I1 λu h2 L H2 z2 I2 j B du=>?_;(first|obtain rfl:=du.inv|obtain⟨_,rfl⟩:=du.inv);refine HE (s:=(uS s h2 L)) O hd z2 I2 hc λr us m h3 M H3 U x l G ht hi=>?_;refine wpAny_setItem_heap (s:=(uS s h3 M)) (knd:=tupleKind (intKind P0 w)) X.room (uZ (U.live _ _ ht) hi) (x.dictH U.live) (λh4 xd4 h=>?_) (by unfold vS;rw[AM,sizeLine_eq];exact wk (Nat.le_of_lt hl) rfl);have ea:h3.get? a=some (bA [] n):=(G a A4).trans ((B a A4).trans hg);obtain⟨H4,z4,d⟩:=U.turn (b:=cd) x.cz.1 h (by obtain⟨o,_,_,ho,_⟩:=xd4;exact⟨o,ho⟩);have T:h4.DictOfH (tupleKind (intKind P0 w)) cd (vS (C++[(t,r,a,[])])):=by rw[storedH_new (mJ hn)]at xd4;unfold vS at xd4⊢;rw[List.map_append];exact xd4
 refine K r a h4 _ H4 z4 (x.newC ht hi hn A4 ea (λp hp e=>na (e▸(I.lN p hp).1)) (λq=>?_) h T (by rw[AX];exact hl) d) λb o q=>d b o (l b o (j b o (sub b o q)));obtain⟨q,hq,e⟩:=Ag.mp q;exact na (e▸(I.lC q hq).1)
theorem HU(X:Cx k A g env.frame)(O:cj env)(M:(c==("__debug__":PySem.Str))=false)(z:RZ env g Y Zs σ s.heap H)(I:ch Zs ms nd cd b N C s.heap H)(L:bq σ c=some (.v (.tuple (q.1.map D.int))))(hs:Ev A env g (.Attribute (.Name y py) n h) σ (.atom (.ref cd)) σ)(U:q∈C)(K:∀h' t H',RZ env g Y Zs σ h' H'->ch Zs ms nd cd b N C h' H'->Sb H H'->(∀a∈Zs,h'.get? a=s.heap.get? a)->Q (.ref q.2.2.1) (uS s h' t)):wpAny (model P0 w) A (eval (.Subscript (.Attribute (.Name y py) n h) (.Name c pc) p) env) Q E s:=by refine PyProof.Rows.Subscript_ (Ev.z hs z I λu h' t H' z1 G sub J l=>?_);(first|obtain rfl:=l.inv|obtain⟨_,rfl⟩:=l.inv);refine HE (s:=(uS s h' t)) O M z1 G L λka us m r i B j e d f V T=>?_;have x:=e.dictH j.live;refine gG (s:=(uS s r i)) x.typeIs slot_dict_getitem.lookup ?_;exact wpAny_getItem_heap (knd:=tupleKind (intKind P0 w)) X.room (uZ (j.live _ _ V) T) x (mS e.kC U) (K r _ B j e (λa o q=>d a o (sub a o q)) λa q=>(f a q).trans (J a q))
end
inductive LV(env:Env)(g:Gr)(A:Around)(target:PySem.Expr)(it:Value)(F:Addr->Obj->Prop)(Y:Yd)(ms:List FA)(nd cd:Addr)(J:List D->Nat->List (PySem.Str×Addr)->List CA->Sig->Prop)(s₀:Shared)(n:Nat)(s:Shared):Prop|mk(ds:List D)(Z:Yd)(Zs:List Addr)(b:Nat)(N:List (PySem.Str×Addr))(C:List CA)(σ:Sig)(H:Addr->Obj->Prop)(e:n=ds.length)(hJ:J ds b N C σ)(hS:vV A env g target it F ds Z)(zk:wR g Y Zs s.heap)(hZ:gz env g (yU Y (yA Zs s.heap)) Z)(R:gP env g (yU (yU Y (yA Zs s.heap)) Z) σ s.heap H)(I:ch Zs ms nd cd b N C s.heap H)(hH:Sb F H)(hs:∃h tk,s=(uS s₀ h tk))
section
variable{A:Around}{env:Env}{g:Gr}{Y:Yd}{Zs:List Addr}{σ:Sig}{H:Addr->Obj->Prop}{ms:List FA}{nd cd:Addr}{b:Nat}{N:List (PySem.Str×Addr)}{C:List CA}
theorem BN{F H₀:Addr->Obj->Prop}{R':Result->Shared->Prop}{s₀:Shared}(J:List D->Nat->List (PySem.Str×Addr)->List CA->Sig->Prop)(step:∀d ds b N C σ Yb Zs s H v(Q:Flow->Shared->Prop)(E1 E2:Value->Shared->Prop),J (d::ds) b N C σ->RZ env g Yb Zs σ s.heap H->ch Zs ms nd cd b N C s.heap H->cx H v d->(∀Zs' b' u C' σ' h' t H',J ds b' u C' σ'->RZ env g Yb Zs' σ' h' H'->ch Zs' ms nd cd b' u C' h' H'->Sb H H'->Q .next (uS s h' t))->wpAny (model P0 w) A (assign target env v) (λU s'=>wpAny (model P0 w) A (execs l env) Q E1 s') E2 s)(K:∀Zs b N C σ h' t H',J [] b N C σ->RZ env g Y Zs σ h' H'->ch Zs ms nd cd b N C h' H'->Sb H₀ H'->R' (.ok .next) (uS s₀ h' t)){Z:Yd}{s:Shared}(B:J ds b N C σ)(E:vV A env g target it F ds Z)(z:wR g Y Zs s.heap)(L:gz env g (yU Y (yA Zs s.heap)) Z)(R:gP env g (yU (yU Y (yA Zs s.heap)) Z) σ s.heap H)(I:ch Zs ms nd cd b N C s.heap H)(hF:Sb H₀ F)(j:Sb F H)(hs:∃h t,s=(uS s₀ h t)):codeAny (model P0 w) A (.forLoop target it l [] env) R' s:=by refine codeAny_forLoop_any (LV env g A target it F Y ms nd cd J s₀) ?_ ds.length ⟨ds,Z,Zs,b,N,C,σ,H,rfl,B,E,z,L,R,I,j,hs⟩;refine DN λG hG=>?_;rintro n s⟨ds,Z,Zs,b,N,C,σ,H,rfl,B,E,z,L,⟨m,p,ad,R⟩,I,j,c,O,rfl⟩;cases ds with|nil=>refine hG _ _ ?_;refine E ⟨yU Y (yA Zs c),m,p,ad⟩ _ H _ _ _ R L j λh' t H' i sub=>?_;obtain⟨T,e⟩:=RZ.on (h:=c) z ⟨m,p,ad,i⟩;exact wpAny_execs_nil (K Zs b N C σ h' t H' B T (I.move e sub λU q=>q) λa o q=>sub a o (j a o (hF a o q)))|cons d ds=>
 refine hG _ _ ?_;refine E ⟨yU Y (yA Zs c),m,p,ad⟩ _ H _ _ _ R L j λv ab go=>?_;refine go _ _ λh' t H' Z' S' x i sub dv=>?_;have i:bD env g (yU (yU Y (yA Zs c)) Z') σ m p h' H' ad:=i;rw[kg]at i;have V:wR g (yU Y Z') Zs c:=⟨λa f=>⟨(z.off a f).1,λq=>(bX.mp q).elim (z.off a f).2.1 λq=>(x a q).2.1 (bX.mpr (.inr ⟨_,f,(z.there a f).choose_spec⟩)),(z.off a f).2.2⟩,z.there⟩;obtain⟨T,e⟩:=RZ.on (h:=c) V ⟨m,p,ad,i⟩;refine step d ds b N C σ (yU Y Z') Zs (uS s₀ h' t) H' v _ _ _ B T (I.move e sub λU q=>q) dv λZs' b' u C' σ' h3 ac H3 M k I3 r=>?_;have aa:wR g Y Zs' h3:=⟨λa f=>⟨(k.1.off a f).1,λq=>(k.1.off a f).2.1 (bX.mpr (.inl q)),(k.1.off a f).2.2⟩,k.1.there⟩;have R3:=k.2;rw[kg]at R3;refine⟨_,Nat.lt_succ_self _,ds,Z',Zs',b',u,C',σ',H3,rfl,M,S',aa,λa q=>⟨(x a q).1,λy=>?_,(x a q).2.2⟩,R3,I3,λa o q=>r a o (sub a o (j a o q)),_,_,rfl⟩;rcases bX.mp y with y|⟨o,y⟩;·exact(x a q).2.1 (bX.mpr (.inl y))
 ·exact(k.1.off a y.1).2.1 (bX.mpr (.inr q))
theorem zG{fa:FA}{ks:List Int}{s:Shared}{Q:Value->Shared->Prop}{E:Value->Shared->Prop}(X:Cx k A g env.frame)(O:cj env)(hd:(x==("__debug__":PySem.Str))=false)(z:RZ env g Y Zs σ s.heap H)(I:ch Zs ms nd cd b N C s.heap H)(hf:Ev A env g (.Name fn p) σ (.atom (.ref f)) σ)(hk:keepIn (cA w.params) (.ref f)=true)(hx:bq σ x=some (.v (.atom (.ref fa.1))))(hp:fa∈ms)(hc:br k f [fy .any fa.2.2] (.list [.tuple (ks.map D.int)]))(K:∀v h' tk H',RZ env g Y Zs σ h' H'->ch Zs ms nd cd b N C h' H'->Sb H H'->cx H' v (.list [.tuple (ks.map D.int)])->Q v (uS s h' tk)):wpAny (model P0 w) A (eval (.Call (.Name fn p) [.Name x px] [] pos) env) Q E s:=by
 have hl:il A env g [.Name x px] σ [.atom (.ref fa.1)] σ:=.cons rfl (bI O hx hd) .nil;refine Call_Name rfl (Ev.z hf z I λv h' tk H' z1 I1 sub eq dv=>?_);(first|obtain rfl:=dv.inv|obtain⟨_,rfl⟩:=dv.inv);refine dK hk (bZ hl) (il.z (s:=(uS s h' tk)) hl z1 I1 λus j r H2 z2 I2 l ab L=>⟨RZ.kin (s:=(uS s j r)) X z2,wpAny_call ?_⟩);obtain⟨u,rfl,du⟩:=gA L;(first|obtain rfl:=du.inv|obtain⟨_,rfl⟩:=du.inv);refine cI λG M=>?_;obtain⟨zk,m,cm,ad,R⟩:=z2;obtain⟨h1,hz,es,n,hg,df⟩:=I2.fm fa hp;refine M ?_;have hH:=R.isH;have V:=zk.off _ hz;let B:Addr->Prop:=λa=>c5 env σ ad (dY (yU Y (yA Zs j))) a/\a≠fa.2.1;have up:Sb H2 (Fz j B):=λa o q=>by rw[hH]at q;exact⟨q.1,λz=>q.2 z.1⟩
 refine hc A g _ (uS s j r) B _ _ X ⟨R.fr.keep,λa q=>⟨⟨R.exFs q,λz=>V.2.2 (z▸q)⟩,(R.frs a q).2⟩,λa q=>R.exThere q.1⟩ (.cons (.inst (up _ _ h1) ⟨hg,λz=>z.2 rfl⟩ (df.mono up)) .nil) λv y aa T dr=>?_;refine cI λG M=>?_;obtain⟨R3,d⟩:=R.growK T;obtain⟨z3,e3⟩:=RZ.on (h:=j) zk ⟨m,cm,ad,R3⟩;refine M ?_;refine K v y aa _ z3 (I2.move e3 d λU q=>q) (λa o q=>d a o (l a o (sub a o q))) ?_;have i:y.get? fa.2.1=some (dictOf es n):=(e3 _ hz).trans hg;have c:∀a o,Fz y B a o->a≠fa.2.1->Fz y (c5 env σ ad (dY (yU Y (yA Zs j)))) a o:=λa o q ne=>⟨q.1,λz=>q.2 ⟨z,ne⟩⟩;obtain⟨U,U,U,rfl,ha,dl⟩:=dr.inv;have n1:=dH ha.1 i;obtain⟨t,rfl,dt⟩:=gA dl;obtain⟨U,U,U,rfl,hb,J⟩:=dt.inv;refine .list (c _ _ ha n1) (.cons (.tuple (c _ _ hb λe=>?_) (nZ (b:=false) (g3 J (ni ks)))) .nil);rw[e]at hb;rw[hb.1]at i;exact absurd (Value.type.inj (congrArg Obj.cls (A0 i))) (by decide)
end
theorem t0:∀{acc:List (List Int×List FormR)},bR r∈acc.map (·.1)->(acc.map (·.1)).Nodup->cN acc r=acc.map λx=>if x.1=bR r then(x.1,x.2++[r])else x:=by intro d;induction d with|nil=>intro h _;exact absurd h A3|cons p rest i=>
 obtain⟨k,f⟩:=p;intro h a;rw[AS,List.nodup_cons]at a;unfold cN;rw[AS];by_cases e:k=bR r;·rw[if_pos e,if_pos e];congr 1;refine(List.map_id _).symm.trans (List.map_congr_left λx c=>?_);have:x.1≠bR r:=λz=>a.1 (by rw[e,<-z];exact Ag.mpr ⟨x,c,rfl⟩);rw[if_neg this];rfl
 ·rw[if_neg e,if_neg e,i ((A6.mp h).resolve_left λz=>e z.symm) a.2]
theorem sL:∀{acc:List (List Int×List FormR)},bR r∉acc.map (·.1)->cN acc r=acc++[(bR r,[r])]:=by intro a;induction a with|nil=>intro _;exact rfl|cons p rest i=>obtain⟨k,c⟩:=p;intro h;rw[AS,A6,not_or]at h;unfold cN;rw[if_neg λz=>h.1 z.symm,i h.2];rfl
theorem gt(C:List CA):(dq C).map (·.1)=C.map (·.1):=by unfold dq;rw[List.map_map];rfl
theorem pX(a:List Int)(p:FA)(C:List CA):dq (j7 a p C)=(dq C).map λx=>if x.1=a then(x.1,x.2++[p.2.2])else x:=by
 unfold dq j7;rw[List.map_map,List.map_map];refine List.map_congr_left λq U=>?_;simp only[Function.comp_apply];split;·rw[List.map_append];rfl
 ·rfl
theorem yc(h:bR p.2.2∈C.map (·.1))(a:(C.map (·.1)).Nodup):dq (j7 (bR p.2.2) p C)=cN (dq C) p.2.2:=by rw[pX,t0 (by rw[gt];exact h) (by rw[gt];exact a)]
theorem xT(h:bR p.2.2∉C.map (·.1)):dq (j7 (bR p.2.2) p (C++[(bR p.2.2,c,la,[])]))=cN (dq C) p.2.2:=by
 rw[pX,sL (by rw[gt];exact h)];have e:dq (C++[(bR p.2.2,c,la,[])])=dq C++[(bR p.2.2,[])]:=by unfold dq;rw[List.map_append];rfl
 rw[e,List.map_append];congr 1;·refine Eq.trans (List.map_congr_left λx a=>?_) (List.map_id _);have:x.1≠bR p.2.2:=λz=>h (by rw[<-gt,<-z];exact Ag.mpr ⟨x,a,rfl⟩);rw[if_neg this];rfl
 ·rw[AS,if_pos rfl];rfl
theorem tF(acc:List (List Int×List FormR))(r:FormR):(cN acc r).length<=acc.length+1:=by induction acc with|nil=>exact AT _|cons x rest i=>
 obtain⟨k,a⟩:=x;unfold cN;split;·exact AV _
 ·rw[AJ,AJ];exact AE i
theorem tv(h:∀x∈acc,x.2.length<=c):∀x∈cN acc r,x.2.length<=c+1:=by induction acc with|nil=>intro x a;rw[AF.mp a];exact AE (AW _)|cons y rest i=>
   obtain⟨k,d⟩:=y;unfold cN;intro x a;split at a
   · rcases A6.mp a with rfl|a;·rw[AX];exact AE (h _ A4)
     ·exact Nat.le_succ_of_le (h x (A5 _ a))
   · rcases A6.mp a with rfl|a;·exact Nat.le_succ_of_le (h _ A4)
     ·exact i (λx a=>h x (A5 _ a)) x a
theorem rI:∀(a:List FormR)(acc:List (List Int×List FormR))(c:Nat),acc.length<=c->(∀x∈acc,x.2.length<=c)->(a.foldl cN acc).length<=c+a.length/\∀x∈a.foldl cN acc,x.2.length<=c+a.length:=by intro z;induction z with|nil=>intro acc c h d;exact⟨h,d⟩|cons r a i=>intro acc c h d;rw[List.foldl_cons,AJ];have:=i (cN acc r) (c+1) (A1 (tF acc r) (AE h)) (tv d);rw[show c+(a.length+1)=c+1+a.length from by exact(Nat.succ_add_eq_add_succ _ _).symm];exact this
section
variable{A:Around}{env:Env}{g:Gr}{Y:Yd}{Zs:List Addr}{σ σ':Sig}{H:Addr->Obj->Prop}{ms:List FA}{nd cd:Addr}{b:Nat}{N:List (PySem.Str×Addr)}{C:List CA}{s:Shared}{k:Nat}{E:Value->Shared->Prop}
theorem tV.z(h:tV A env g t d σ σ')(z:RZ env g Y Zs σ s.heap H)(I:ch Zs ms nd cd b N C s.heap H)(f:cx H v d)(K:∀h' a H',RZ env g Y Zs σ' h' H'->ch Zs ms nd cd b N C h' H'->Sb H H'->Q () (uS s h' a)):wpAny (model P0 w) A (assign t env v) Q E s:=by obtain⟨j,R⟩:=z;refine h _ s H v Q E R f λh' a H' c sub=>?_;obtain⟨i,e⟩:=RZ.on j c;exact K h' a H' i (I.move e sub λU q=>q) sub
theorem kx.z{st:Stmt}{Q:Flow->Shared->Prop}(h:kx A env g st σ .next σ')(z:RZ env g Y Zs σ s.heap H)(I:ch Zs ms nd cd b N C s.heap H)(K:∀h' t H',RZ env g Y Zs σ' h' H'->ch Zs ms nd cd b N C h' H'->Sb H H'->Q .next (uS s h' t)):wpAny (model P0 w) A (exec st env) Q E s:=by obtain⟨i,R⟩:=z;refine h _ s H Q E R λf h' t H' a sub c=>?_;obtain⟨d,e⟩:=RZ.on i a;cases f<;>first|exact c.elim|exact K h' t H' d (I.move e sub λU q=>q) sub
theorem BZ(X:Cx k A g env.frame)(O:cj env)(hi:interactive env=false)(ao:k6 env "code")(aa:fa∈ms)(z:RZ env g Y Zs σ s.heap H)(I:ch Zs ms nd cd b N C s.heap H)(G:bq σ "self"=some (.o (.inst 1259 fs) pp))(al:fs.lookup ("by_code":PySem.Str)=some (D.atom (.ref cd)))(y:bq σ "form"=some (.v (.atom (.ref fa.1))))(hl:C.length<999)(hm:∀q∈C,q.2.2.2.length<999)(an:bV (.Subscript (.Attribute (.Name "self" q8) "by_code" q9) (.Name "code" ac) ae) af ag [.Name "form" ah]=true)(hb:T=[.If (.Compare (.Name "code" q1) [.NotIn] [.Attribute (.Name "self" q2) "by_code" q3] q4) [.Assign [.Subscript (.Attribute (.Name "self" q5) "by_code" q6) (.Name "code" q7) as] (.List [] au) av] [] aw,.Expr (.Call (.Attribute (.Subscript (.Attribute (.Name "self" q8) "by_code" q9) (.Name "code" ac) ae) "append" af) [.Name "form" ah] [] ag) aq])(dv:cx H v (.tuple ((bR fa.2.2).map D.int)))(K:∀Zs' C' h' J H',dq C'=cN (dq C) fa.2.2->RZ env g Y Zs' (bO σ "code" (.v (.tuple ((bR fa.2.2).map D.int)))) h' H'->ch Zs' ms nd cd b N C' h' H'->Sb H H'->Q .next (uS s h' J)):wpAny (model P0 w) A (assign (.Name "code" pc) env v) (λU s'=>wpAny (model P0 w) A (execs T env) Q E1 s') E s:=by
 subst hb;have nS:∀x:PySem.Str,(x==("code":PySem.Str))=false->bq (bO σ "code" (.v (.tuple ((bR fa.2.2).map D.int)))) x=bq σ x:=λx hx=>by rw[eP,if_neg λe=>by subst e;simp at hx]
 have hc:bq (bO σ "code" (.v (.tuple ((bR fa.2.2).map D.int)))) "code"=some (.v (.tuple ((bR fa.2.2).map D.int))):=by rw[eP,if_pos rfl]
 have ab:bq (bO σ "code" (.v (.tuple ((bR fa.2.2).map D.int)))) "self"=some (.o (.inst 1259 fs) pp):=by rw[nS _ (by decide+kernel)];exact G
 have am:bq (bO σ "code" (.v (.tuple ((bR fa.2.2).map D.int)))) "form"=some (.v (.atom (.ref fa.1))):=by rw[nS _ (by decide+kernel)];exact y
 generalize ap:bO σ "code" (.v (.tuple ((bR fa.2.2).map D.int)))=τ at*;have ha:gq 1259 "by_code"=true:=by kernel_rfl
 have B:∀p p',Ev A env g (.Attribute (.Name "self" p) "by_code" p') τ (.atom (.ref cd)) τ:=λp p'=>qN X (dT O ab (by decide+kernel)) (by show(match bq τ "self"with|some (.o k _)=>some (D.ofOwn k)|_=>none)=_;rw[ab];rfl) al ha rfl rfl;refine tV.z (σ':=τ) (by rw[<-ap];exact nv O ao) z I dv λh' J H' z1 I1 sub=>?_;have u:∀(L:List CA)(i:List Addr)(c:CA)(M:Heap)(t:Nat)(H1:Addr->Obj->Prop),RZ env g Y i τ M H1->ch i ms nd cd b N L M H1->Sb H H1->c∈L->c.1=bR fa.2.2->c.2.2.2.length<999->dq (j7 (bR fa.2.2) fa L)=cN (dq C) fa.2.2->wpAny (model P0 w) A (execs [.Expr (.Call (.Attribute (.Subscript (.Attribute (.Name "self" q8) "by_code" q9) (.Name "code" ac) ae) "append" af) [.Name "form" ah] [] ag) aq] env) Q E1 (uS s M t):=by
  intro L i c M t H1 z1 I1 ai d f V hM;obtain⟨l,n,hg⟩:=I1.lC c d;refine wpAny_execs_cons (wb (s:=(uS s M t)) (g:=g) (Y:=Y) (Zs:=i) (H:=H1) (ms:=ms) (nd:=nd) (cd:=cd) (b:=b) (b':=b) (N:=N) (C:=L) (C':=j7 (bR fa.2.2) fa L) (la:=c.2.2.1) (vs:=c.2.2.2.map λp=>Value.ref p.1) (n:=n) O (by decide+kernel) am hi an (by rw[AM];exact wk (Nat.le_of_lt V) rfl) (λQ' E' K'=>?_) (λh h' H H' n' I e hs ho sub=>?_) λh' J H' z' I' m=>?_);·refine HU (s:=(uS s M t)) (q:=c) X O (by decide+kernel) z1 I1 (by rw[f];exact hc) (B _ _) d λh' J H' z' I' m eq=>?_;exact K' h' J H' z' I' m ⟨l,(eq _ l).trans hg⟩
  ·have:=I.appC d aa hs ho (by exact wk V rfl) sub;rw[f]at this;exact this
  ·exact wpAny_execs_nil (K i _ h' J H' hM z' I' λa o q=>m a o (ai a o q))
 refine wpAny_execs_cons (wpAny_If (GV (s:=(uS s h' J)) X O (by decide+kernel) z1 I1 hc (B _ _) λh2 ak H2 z2 I2 r=>?_));by_cases j:bR fa.2.2∈C.map (·.1);·obtain⟨c,d,f⟩:=Ag.mp j;have f:c.1=bR fa.2.2:=f;rw[<-f,mS I2.kC d];refine wpAny_execs_nil ?_;exact u C Zs c h2 ak H2 z2 I2 (λa o q=>r a o (sub a o q)) d f (hm c d) (yc j I2.kC)
 ·rw[mJ j];refine wpAny_execs_cons (HL (s:=(uS s h2 ak)) X O (by decide+kernel) z2 I2 hc (B _ _) j (by exact wk hl rfl) λka a h3 ar H3 z3 I3 aj=>wpAny_execs_nil ?_);exact u _ _ (bR fa.2.2,ka,a,[]) h3 ar H3 z3 I3 (λa o q=>aj a o (r a o (sub a o q))) (List.mem_append_right _ A4) rfl (by show 0<999;decide) (xT j)
end
noncomputable abbrev JK:List Stmt:=jB (cJ (bz (kM 128 0)) 3 pz)
def lY(P:Nat->Pos):Prop:=JK=[cJ JK 0 pz,.Assign [.Attribute (.Name "form" (P 0)) "number" (P 1)] (.Name "number" (P 2)) (P 3),.If (.Compare (.Attribute (.Name "form" (P 4)) "name" (P 5)) [.NotIn] [.Attribute (.Name "self" (P 6)) "by_name" (P 7)] (P 8)) [.Assign [.Subscript (.Attribute (.Name "self" (P 9)) "by_name" (P 10)) (.Attribute (.Name "form" (P 11)) "name" (P 12)) (P 13)] (.List [] (P 14)) (P 15)] [] (P 16),.Expr (.Call (.Attribute (.Subscript (.Attribute (.Name "self" (P 17)) "by_name" (P 18)) (.Attribute (.Name "form" (P 19)) "name" (P 20)) (P 21)) "append" (P 22)) [.Name "form" (P 23)] [] (P 24)) (P 25),.For (.Name "code" (P 26)) (.Call (.Name "codes_of" (P 27)) [.Name "form" (P 28)] [] (P 29)) [.If (.Compare (.Name "code" (P 30)) [.NotIn] [.Attribute (.Name "self" (P 31)) "by_code" (P 32)] (P 33)) [.Assign [.Subscript (.Attribute (.Name "self" (P 34)) "by_code" (P 35)) (.Name "code" (P 36)) (P 44)] (.List [] (P 45)) (P 46)] [] (P 47),.Expr (.Call (.Attribute (.Subscript (.Attribute (.Name "self" (P 37)) "by_code" (P 38)) (.Name "code" (P 39)) (P 40)) "append" (P 41)) [.Name "form" (P 43)] [] (P 42)) (P 48)] [] (P 49)]/\bV (.Subscript (.Attribute (.Name "self" (P 37)) "by_code" (P 38)) (.Name "code" (P 39)) (P 40)) (P 41) (P 42) [.Name "form" (P 43)]=true/\bV (.Subscript (.Attribute (.Name "self" (P 17)) "by_name" (P 18)) (.Attribute (.Name "form" (P 19)) "name" (P 20)) (P 21)) (P 22) (P 24) [.Name "form" (P 23)]=true
theorem lJ:∃P,lY P:=⟨nP [_,_,_,_,_,_,_,_,_,_,_,_,_,_,_,_,_,_,_,_,_,_,_,_,_,_,_,_,_,_,_,_,_,_,_,_,_,_,_,_,_,_,_,_,_,_,_,_,_,_],rfl,rfl,rfl⟩
noncomputable def iSP:Nat->Pos:=lJ.choose
theorem jI:lY iSP:=lJ.choose_spec
theorem yF(a:r∈formRs):br 4 1188 [fy .any r] (.list [.tuple ((bR r).map D.int)]):=by
 refine bp gY rfl (show(b8 40 3 [] gY [fy .any r] [.t false]).map (λr=>(r.a,r.c))=some (.ret (.list [.tuple ((bR r).map D.int)]),[.p (∀A:Around,A.handled=none->A.units+8<cLine->et A (compareOp .In) (.str "plus") (.tuple (r.2.2.2.2.2.2.2.2.map D.str)) (.bool false))])from by kernel_rfl) ⟨λA U U=>?_,trivial⟩;have h:formRs.all (λr=>match B7 (.str "plus") (r.2.2.2.2.2.2.2.2.map D.str)with|some false=>true|_=>false)=true:=by kernel_rfl
 have:=List.all_eq_true.mp h r a;split at this;·rename_i e;exact(qt (c:=.tuple (r.2.2.2.2.2.2.2.2.map D.str)) rfl e).1
 ·exact Bool.noConfusion this
noncomputable def p6(x:PySem.Str)(q:Option (Addr×Value))(σ:Sig):Sig:=σ.map λp=>(p.1,match p.2 with|.v d=>.v d|.o k _=>.o k (if p.1=x then q else none))
theorem qL{k:Nat}{sc:Scope}{ask:List Addr}{x:PySem.Str}{q:Option (Addr×Value)}(a:Fm ⟨k,sc,[x],ask⟩)(b:a.π x=q)(σ:Sig):pin a.π σ=p6 x q σ:=by unfold pin p6;refine List.map_congr_left λp U=>?_;obtain⟨y,s⟩:=p;cases s with|v d=>rfl|o k' p'=>
 by_cases h:y=x;·subst h;simp only[if_pos,b]
 ·have:a.π y=none:=a.pk y (by simp[h]);simp only[if_neg h,this]
noncomputable abbrev ctV:Ct:=⟨5,cb (kM 128 0),["self"],[]⟩
noncomputable abbrev FW(ms:List FA)(nd cd:Addr):List (PySem.Str×D):=[("forms",.slist (ms.map λp=>D.atom (.ref p.1))),("by_name",.atom (.ref nd)),("by_code",.atom (.ref cd))]
noncomputable abbrev Di(q:Option (Addr×Value))(ms:List FA)(nd cd:Addr):Sig:=[("self",.o (.inst 1259 (FW ms nd cd)) q),("forms",.v .any)]
noncomputable abbrev Jz(q:Option (Addr×Value))(ms:List FA)(nd cd:Addr)(d:D):Sig:=[("self",.o (.inst 1259 (FW ms nd cd)) q),("forms",.v .any),("number",.v d)]
noncomputable abbrev pF(q:Option (Addr×Value))(ms:List FA)(nd cd:Addr)(d f:D):Sig:=[("self",.o (.inst 1259 (FW ms nd cd)) q),("forms",.v .any),("number",.v d),("form",.v f)]
section
variable{ms:List FA}{nd cd x:Addr}{i:Int}
theorem Cu:((cr 40).s ctV (cJ JK 0 pz) (Jz none ms nd cd (.sym i)) [.d (.atom (.ref x))]).map (λr=>(r.a,r.σ,r.c))=some (.next,pF none ms nd cd (.sym i) (.atom (.ref x)),[.p (gX i/\∃j,seqIndex? i (ms.map λp=>D.atom (.ref p.1)).length=some j/\(ms.map λp=>D.atom (.ref p.1))[j]?=some (.atom (.ref x)))]):=by kernel_rfl
theorem zT{k n:Nat}{sc:Scope}{ask:List Addr}{y:PySem.Str}{q:Option (Addr×Value)}{st:Stmt}{σ τ:Sig}{o:List Orc}{cl:List Claim}(a:Fm ⟨k,sc,[y],ask⟩)(d:a.π y=q)(h:((cr n).s ⟨k,sc,[y],ask⟩ st σ o).map (λr=>(r.a,r.σ,r.c))=some (.next,τ,cl))(f:bx cl):kx a.A a.env a.g st (p6 y q σ) .next (p6 y q τ):=by obtain⟨r,e,c⟩:=AD.mp h;simp only[Prod.mk.injEq]at c;have:=r.h (by rw[c.2.2];exact f) a;rw[c.1,c.2.1,qL a d,qL a d]at this;exact this
end
section
variable{env:Env}{g:Gr}{Y:Yd}{Zs:List Addr}{σ τ:Sig}{h:Heap}{H:Addr->Obj->Prop}{N:List (PySem.Str×Addr)}
theorem RZ.lessS(z:RZ env g Y Zs σ h H)(hs:xF σ τ):∃H',RZ env g Y Zs τ h H'/\Sb H H':=by refine cI λG d=>?_;obtain⟨e,m,c,ad,R⟩:=z;obtain⟨a,sub⟩:=R.less hs;refine d ?_;exact⟨_,⟨e,m,c,ad,a⟩,sub⟩
theorem lI(h:valueAt (N.map eL) x=some v):∃p∈N,p.1=x/\v=.ref p.2:=by unfold valueAt at h;refine cI λG d=>?_;obtain⟨k,a,c⟩:=AD.mp h;obtain⟨p,f,e⟩:=Ag.mp (List.mem_of_find?_eq_some a);refine d ?_;have:=List.find?_some a;subst e;exact⟨p,f,of_decide_eq_true this,c.symm⟩
theorem uo(h:(valueAt (N.map eL) x).isSome=false):valueAt ((N++[(x,a)]).map eL) x=some (.ref a):=by
 unfold valueAt at h⊢;have e:List.find? (λk=>decide (k.1=x)) (N.map eL)=none:=by cases q:List.find? (λk=>decide (k.1=x)) (N.map eL)with|none=>rfl|some v=>rw[q]at h;exact Bool.noConfusion h
 rw[List.map_append,List.find?_append,e];simp[eL]
end
def oK(P:Nat->Pos):Prop:=eU (cJ (bz (kM 128 0)) 3 pz) pz=.Name "number" (P 0)
theorem m6:∃P,oK P:=⟨nP [_],rfl⟩
noncomputable def nuP:Nat->Pos:=m6.choose
theorem xV:oK nuP:=m6.choose_spec
section
variable{Y:Yd}{Zs:List Addr}{ms:List FA}{nd cd:Addr}{b:Nat}{N:List (PySem.Str×Addr)}{C:List CA}{s:Shared}{H:Addr->Obj->Prop}
theorem yz{q:Option (Addr×Value)}{i:Nat}{fa:FA}{v:Value}{Q:Flow->Shared->Prop}{E1 E:Value->Shared->Prop}(c:Fm ctV)(hq:c.π "self"=q)(ab:ms[i]?=some fa)(hr:fa.2.2∈formRs)(hi:i<900)(z:RZ c.env c.g Y Zs (Di q ms nd cd) s.heap H)(I:ch Zs ms nd cd b N C s.heap H)(hN:N.length<900)(hC:C.length<900)(hm:∀q∈C,q.2.2.2.length<900)(dv:cx H v (.int (i:Int)))(hb:b<900)(K:∀Zs' V C' h' tk H',V.length<=N.length+1->dq C'=cN (dq C) fa.2.2->RZ c.env c.g Y Zs' (Di q ms nd cd) h' H'->ch Zs' ms nd cd (b+1) V C' h' H'->Sb H H'->Q .next (uS s h' tk)):wpAny (model P0 w) c.A (assign (eU (cJ (bz (kM 128 0)) 3 pz) pz) c.env v) (λU s'=>wpAny (model P0 w) c.A (execs JK c.env) Q E1 s') E s:=by
 have aj:interactive c.env=false:=c.inter;have j:fa∈ms:=List.mem_of_getElem? ab;have X:=c.C;have O:=c.O;have ar:∀nm,nm=("by_name":PySem.Str)\/nm="by_code"->gq 1259 nm=true:=by rintro nm(rfl|rfl)<;>kernel_rfl
 have af:∀(d:D)p p',Ev c.A c.env c.g (.Attribute (.Name "self" p) "by_name" p') (pF q ms nd cd d (.atom (.ref fa.1))) (.atom (.ref nd)) (pF q ms nd cd d (.atom (.ref fa.1))):=λd p p'=>qN X (dT (k:=.inst 1259 (FW ms nd cd)) (pp:=q) O rfl (by decide+kernel)) rfl (show(FW ms nd cd).lookup ("by_name":PySem.Str)=_ from rfl) (ar _ (.inl rfl)) rfl rfl;have ac:gq 234 "name"=true:=by kernel_rfl
 rw[xV,jI.1];refine tV.z (nv O (c.stor (by kernel_rfl))) z I dv λh' tk H' z1 I1 u=>?_;refine cI λG hG=>?_;obtain⟨H1,z1,sb⟩:=z1.lessS (τ:=Jz q ms nd cd (.sym (i:Int))) (.cons (.inl rfl) (.cons (.inl rfl) (.cons (.inr (.inl ⟨_,rfl,rfl⟩)) (.refl _))));refine hG ?_;have I1:=I1.move (λU U=>rfl) sb λU q=>q;refine wpAny_execs_cons (kx.z (s:=(uS s h' tk)) (zT c hq (Cu (x:=fa.1) (i:=i)) ⟨⟨?_,i,?_,?_⟩,trivial⟩) z1 I1 λh2 L H2 z2 I2 l=>?_);·exact⟨by exact Int.le_trans (by decide) (AP _),by exact Int.lt_of_lt_of_le (Aa.2 hi) (by decide)⟩
 · have hl:i<(ms.map λp=>D.atom (.ref p.1)).length:=by rw[AM];exact(List.getElem?_eq_some_iff.mp ab).1
   exact GM hl
 ·rw[List.getElem?_map,ab];rfl
 refine wpAny_execs_cons (Mf (s:=(uS s h2 L)) (f:=fa) X O (by decide+kernel) (by decide+kernel) z2 I2 rfl rfl j (λr=>by kernel_rfl) (by kernel_rfl) λh3 ag H3 z3 I3 A=>?_);have ak:∀(a:Addr)(o:Obj),H a o->H3 a o:=λa o q=>A a o (l a o (sb a o (u a o q)));clear u l A sb z1 I1 z2 I2;have au:∀p,Ev c.A c.env c.g (.Name "codes_of" p) (pF q ms nd cd (.sym (i:Int)) (.atom (.ref fa.1))) (.atom (.ref 1188)) (pF q ms nd cd (.sym (i:Int)) (.atom (.ref fa.1))):=λp=>g1 O X ((c.kind _).trans (by kernel_rfl)) (by kernel_rfl) (by decide+kernel);have aa:∀(N1:List (PySem.Str×Addr))(t:List Addr)(la:Addr)(h1:Heap)(T:Nat)(H1:Addr->Obj->Prop),N1.length<=N.length+1->RZ c.env c.g Y t (pF q ms nd cd (.sym (i:Int)) (.atom (.ref fa.1))) h1 H1->ch t ms nd cd b N1 C h1 H1->Sb H H1->valueAt (N1.map eL) fa.2.2.1=some (.ref la)->wpAny (model P0 w) c.A (execs [.Expr (.Call (.Attribute (.Subscript (.Attribute (.Name "self" (iSP 17)) "by_name" (iSP 18)) (.Attribute (.Name "form" (iSP 19)) "name" (iSP 20)) (iSP 21)) "append" (iSP 22)) [.Name "form" (iSP 23)] [] (iSP 24)) (iSP 25),.For (.Name "code" (iSP 26)) (.Call (.Name "codes_of" (iSP 27)) [.Name "form" (iSP 28)] [] (iSP 29)) [.If (.Compare (.Name "code" (iSP 30)) [.NotIn] [.Attribute (.Name "self" (iSP 31)) "by_code" (iSP 32)] (iSP 33)) [.Assign [.Subscript (.Attribute (.Name "self" (iSP 34)) "by_code" (iSP 35)) (.Name "code" (iSP 36)) (iSP 44)] (.List [] (iSP 45)) (iSP 46)] [] (iSP 47),.Expr (.Call (.Attribute (.Subscript (.Attribute (.Name "self" (iSP 37)) "by_code" (iSP 38)) (.Name "code" (iSP 39)) (iSP 40)) "append" (iSP 41)) [.Name "form" (iSP 43)] [] (iSP 42)) (iSP 48)] [] (iSP 49)] c.env) Q E1 (uS s h1 T):=by
   intro N1 t la h1 T H1 as z1 I1 u hv;refine cI λG hG=>?_;obtain⟨pn,ae,en,el⟩:=lI hv;obtain rfl:=PySem.Value.ref.inj el;obtain⟨am,vs,n,hg,al⟩:=I1.lN pn ae;refine hG ?_;refine wpAny_execs_cons (wb (s:=(uS s h1 T)) (g:=c.g) (Y:=Y) (Zs:=t) (H:=H1) (ms:=ms) (nd:=nd) (cd:=cd) (N:=N1) (C:=C) (C':=C) (b:=b) (b':=b+1) (σ:=pF q ms nd cd (.sym (i:Int)) (.atom (.ref fa.1))) (f:=fa) (la:=pn.2) (vs:=vs) (n:=n) O (by decide+kernel) rfl aj jI.2.2 (by exact wk (A1 al (Nat.le_of_lt hb)) rfl) (λQ' E' K'=>?_) (λh h' H H' n' I e hs ho sub=>I.appN ae hs ho (by rw[AX];exact AE al) sub) λh2 L H2 z2 I2 l=>?_);·refine IP (s:=(uS s h1 T)) (f:=fa) X O (by decide+kernel) z1 I1 rfl j rfl ac (af _ _ _) hv λh2 L H2 z2 I2 l aq=>?_;exact K' h2 L H2 z2 I2 l ⟨am,(aq _ am).trans hg⟩
   refine wpAny_execs_cons (wpAny_For (zG (s:=(uS s h2 L)) (fa:=fa) X O (by decide+kernel) z2 I2 (au _) (by kernel_rfl) rfl j ((yF hr).to (by decide)) λv h3 ag H3 z3 I3 A dv=>?_) (gd rfl _));refine cI λG hG=>?_;obtain⟨zk,m,cm,ad,R⟩:=z3;refine hG ?_;refine s4 (target:=.Name "code" (iSP 26)) c.hand (d:=.list [.tuple ((bR fa.2.2).map D.int)]) rfl ⟨_,m,cm,ad⟩ (uS s h3 ag) H3 _ v _ _ R dv λit h4 M H4 Z F hF ai S U Z1 R4=>?_;have zs:∀a∈t,h4.get? a=h3.get? a:=λa ha=>by obtain⟨o,e⟩:=zk.there a ha;have R4:bD c.env c.g (yU (yU Y (yA t h3)) Z) _ m cm h4 H4 ad:=R4;rw[(R4.held a o (.inl (.inr ⟨ha,e⟩))).1.at (zk.off a ha).2.2,e]
   have B:Sb H3 H4:=λa o q=>ai a o (hF a o q);have e4:=qZ zs;have Z1:gz c.env c.g (yU Y (yA t h3)) Z:=Z1;have R4:gP c.env c.g (yU (yU Y (yA t h3)) Z) (pF q ms nd cd (.sym (i:Int)) (.atom (.ref fa.1))) h4 H4:=⟨m,cm,ad,R4⟩;rw[e4]at Z1 R4;refine BN (s₀:=(uS s h4 M)) (s:=(uS s h4 M)) (H₀:=H3) (λds b' V C' σ'=>(ds=[.tuple ((bR fa.2.2).map D.int)]/\C'=C/\σ'=pF q ms nd cd (.sym (i:Int)) (.atom (.ref fa.1))\/ds=[]/\dq C'=cN (dq C) fa.2.2/\σ'=bO (pF q ms nd cd (.sym (i:Int)) (.atom (.ref fa.1))) "code" (.v (.tuple ((bR fa.2.2).map D.int))))/\b'=b+1/\V=N1) (λd ds b' V C' σ' Yb Zs' s' H' v' Q' aw ax hJ z' I' ap K'=>?_) (λZs' b' V C' σ' h' av H' hJ z' I' an=>?_) ⟨.inl ⟨rfl,rfl,rfl⟩,rfl,rfl⟩ (S c.env) (zk.move zs) Z1 R4 (I3.move zs B λU q=>q) hF ai ⟨_,_,rfl⟩
   · obtain⟨hJ,rfl,rfl⟩:=hJ;rcases hJ with⟨e1,rfl,rfl⟩|⟨e1,U⟩;·obtain⟨rfl,rfl⟩:=List.cons.inj e1;refine BZ (fa:=fa) (fs:=FW ms nd cd) (pp:=q) X O aj (c.stor (by kernel_rfl)) j z' I' rfl rfl rfl (by exact wk hC rfl) (λq hq=>by have:=hm q hq;exact wk this rfl) jI.2.1 rfl ap λao C2 h5 ah H5 hM z5 I5 J=>?_;exact K' ao _ V C2 _ h5 ah H5 ⟨.inr ⟨rfl,hM,rfl⟩,rfl,rfl⟩ z5 I5 J
     ·exact nomatch e1
   · obtain⟨hJ,rfl,rfl⟩:=hJ;rcases hJ with⟨e1,U⟩|⟨U,hM,rfl⟩;·exact nomatch e1
     ·obtain⟨H5,z5,s5⟩:=z'.less (τ:=Di q ms nd cd) λy sl e=>mU (e:=[("number",.v (.sym (i:Int))),("form",.v (.atom (.ref fa.1))),("code",.v (.tuple ((bR fa.2.2).map D.int)))]) y sl e;exact wpAny_execs_nil (K Zs' V C' h' av H5 as hM z5 (I'.move (λU U=>rfl) s5 λU q=>q) λa o q=>s5 a o (an a o (A a o (l a o (u a o q)))))
 refine wpAny_execs_cons (wpAny_If (Hm (s:=(uS s h3 ag)) (f:=fa) X O (by decide+kernel) z3 I3 rfl j rfl ac (af _ _ _) λh4 M H4 z4 I4 B=>?_));cases hv:valueAt (N.map eL) fa.2.2.1 with|some v=>obtain⟨pn,ae,en,el⟩:=lI hv;subst el;exact wpAny_execs_nil (aa N Zs pn.2 h4 M H4 (AV _) z4 I4 (λa o q=>B a o (ak a o q)) hv)|none=>refine wpAny_execs_cons (F6 (s:=(uS s h4 M)) (f:=fa) X O (by decide+kernel) z4 I4 rfl j rfl ac (af _ _ _) (by rw[hv];rfl) (by omega) λa h5 ah H5 z5 I5 J=>wpAny_execs_nil ?_);exact aa _ _ a h5 ah H5 (by rw[AX];exact AT _) z5 I5 (λa o q=>J a o (B a o (ak a o q))) (uo (by rw[hv];rfl))
end
section
variable{A:Around}{env:Env}{g:Gr}{Y:Yd}{Zs:List Addr}{σ σ':Sig}{H:Addr->Obj->Prop}{s:Shared}{k:Nat}{E:Value->Shared->Prop}
theorem Fq(X:Cx k A g env.frame)(O:cj env)(hd:(x==("__debug__":PySem.Str))=false)(h:x5 A env g e σ kk σ)(B:bq σ x=some (.o (.inst C fs) pp))(ha:pW C name=true)(hz:Nat.ble fs.length 900=true)(hs:swapsWith e (some (.Attribute (.Name x px) name pa)) p.line env=pure false)(z:RZ env g Y Zs σ s.heap H)(K:∀a h' tk H',RZ env g Y (a::Zs) (bO σ x (.o (.inst C (rJ fs name (.atom (.ref a)))) pp)) h' H'->(∀b∈Zs,h'.get? b=s.heap.get? b)->ej h' H' (some (.ref a)) a kk->a∉Zs->Sb H H'->Q .next (uS s h' tk))(hk:match kk with|.inst _ _=>False|_=>True):wpAny (model P0 w) A (exec (.Assign [.Attribute (.Name x px) name pa] e p) env) Q E s:=by
 refine cI λG N=>?_;obtain⟨zk,m,r,ad,R⟩:=z;refine N ?_;refine plainObj_wpAny_Assign_Attribute (h ⟨_,m,r,ad⟩ s H _ E R λv h' tk H' a o R' sub ok ga nY nf=>?_) hs;have ev:v=.ref a:=by cases kk with|list ds=>have:=ok.1;exact A0 this|dict ds=>have:=ok.1;exact A0 this|inst _ _=>exact hk.elim
 subst ev;refine dT O B hd ⟨_,m,r,ad⟩ (uS s h' tk) H' _ E R' λu L l H2 f c du=>?_;have i:cu env m r x=some u:=du;obtain⟨j,gx,U⟩:=bD.own f x _ pp B;rw[i]at j;obtain⟨y,ey,hy,en,n,hg,J⟩:=j;obtain rfl:=A0 ey;refine qU (s:=(uS s L l)) (RL.kin (s:=(uS s L l)) X f) (RL.live f _ _ hy) hg ha J.looked (by rw[J.length];exact Nat.le_of_ble_eq_true hz) λM aa t T V=>?_;have kp:∀a o,a≠ad x->L.get? a=some o->M.get? a=some o:=λa o ne e=>(V.2 a ne).trans e;have d:∀b I,H2 b I->Fz M (c5 env σ ad (dY (yU (yU Y (yA Zs s.heap)) (y1 a o)))) b I:=by have:=f.isH;rw[this];exactλb I q=>⟨kp b I (λz=>q.2 (.inr (.inr (.inl ⟨x,_,pp,B,z.symm⟩)))) q.1,q.2⟩
 have q:=bD.mutO (k':=.inst C (rJ fs name (.atom (.ref a)))) f B kp (by rw[i];exact⟨y,rfl,d _ _ hy,_,_,T,cQ.put (t:=t) (.atom _) (J.mono d)⟩);refine cI λG N=>?_;obtain⟨z4,e4,e5,na⟩:=RZ.new zk ⟨m,r,ad,q.1⟩ ga nY nf;refine N ?_;refine K a M aa _ z4 e4 (ok.mono (λa o z=>q.2 a o (c a o z)) λo' e=>?_) na λa o z=>q.2 a o (c a o (sub a o z));have e1:h'.get? a=some o:=(bD.held R' a o (.inr ⟨rfl,rfl⟩)).1.at nf;rw[e1]at e;obtain rfl:=A0 e;exact e5
theorem tI(h:hB H es []):es=[]:=by obtain rfl:=h.inv;rfl
end
noncomputable abbrev BW(q:Option (Addr×Value))(ds:List D)(fs:List (PySem.Str×D)):Sig:=[("self",.o (.inst 1259 fs) q),("forms",.v (.list ds))]
def m3(P:Nat->Pos):Prop:=bz (kM 128 0)=[cJ (bz (kM 128 0)) 0 pz,.Assign [.Attribute (.Name "self" (P 0)) "by_name" (P 1)] (.Dict [] [] (P 2)) (P 3),.Assign [.Attribute (.Name "self" (P 4)) "by_code" (P 5)] (.Dict [] [] (P 6)) (P 7),.For (eU (cJ (bz (kM 128 0)) 3 pz) pz) (Ik (cJ (bz (kM 128 0)) 3 pz) pz) JK [] (P 8)]
theorem m9:∃P,m3 P:=⟨nP [_,_,_,_,_,_,_,_,_],rfl⟩
noncomputable def ibP:Nat->Pos:=m9.choose
theorem wI:m3 ibP:=m9.choose_spec
section
variable{ds:List D}{nd cd:Addr}
theorem Hj:((cr 40).s ctV (cJ (bz (kM 128 0)) 0 pz) (BW none ds []) []).map (λr=>(r.a,r.σ,r.c))=some (.next,BW none ds [("forms",.slist ds)],[.le ds.length NN]):=by kernel_rfl
theorem HG:(ID (cr 40) ctV (eU (cJ (bz (kM 128 0)) 3 pz) pz) (Ik (cJ (bz (kM 128 0)) 3 pz) pz) (Di none ms nd cd) [.td (.int 78)]).map (λr=>(r.a,r.σ,r.c))=some (eI false 78 0,Di none ms nd cd,[.p (∀A:Around,A.handled=none->A.units+8<cLine->Bc A (.builtin "len") [.slist (ms.map λp=>D.atom (.ref p.1))] (.int 78))]):=by kernel_rfl
theorem Hn{k n:Nat}{sc:Scope}{ask:List Addr}{y:PySem.Str}{q:Option (Addr×Value)}{t e:Expr}{σ τ:Sig}{o:List Orc}{cl:List Claim}{es:List D}(a:Fm ⟨k,sc,[y],ask⟩)(c:a.π y=q)(h:(ID (cr n) ⟨k,sc,[y],ask⟩ t e σ o).map (λr=>(r.a,r.σ,r.c))=some (es,τ,cl))(d:bx cl):Er a.A a.env a.g t e (p6 y q σ) es (p6 y q τ):=by obtain⟨r,e,b⟩:=AD.mp h;simp only[Prod.mk.injEq]at b;have:=r.h (by rw[b.2.2];exact d) a;rw[b.1,b.2.1,qL a c,qL a c]at this;exact this
end
section
variable{Y:Yd}{ms:List FA}{s:Shared}{H:Addr->Obj->Prop}
theorem w6(h1:(dq C).length<=c)(h2:∀x∈dq C,x.2.length<=c):C.length<=c/\∀q∈C,q.2.2.2.length<=c:=by unfold dq at h1 h2;rw[AM]at h1;refine⟨h1,λq h=>?_⟩;have:=h2 _ (Ag.mpr ⟨q,h,rfl⟩);rw[AM]at this;exact this
theorem E5{q:Option (Addr×Value)}{Q:Flow->Shared->Prop}{E:Value->Shared->Prop}(j:Fm ctV)(k:j.π "self"=q)(af:ms.map (·.2.2)=formRs)(z:RZ j.env j.g Y (ms.map (·.2.1)) (BW q (ms.map λp=>D.atom (.ref p.1)) []) s.heap H)(aq:∀p∈ms,H p.1 (instObj 234 p.2.1)/\∃es n,s.heap.get? p.2.1=some (dictOf es n)/\cQ H es (f3 .any p.2.2))(K:∀nd cd Zs N C h' tk H',dq C=q0->RZ j.env j.g Y Zs (Di q ms nd cd) h' H'->ch Zs ms nd cd 78 N C h' H'->Sb H H'->Q .next (uS s h' tk)):wpAny (model P0 w) j.A (execs (bz (kM 128 0)) j.env) Q E s:=by
 have l:ms.length=78:=by have:=congrArg List.length af;rw[AM]at this;rw[this];rfl
 have X:=j.C;have O:=j.O;have aa:(ms.map λp=>D.atom (.ref p.1)).length<=NN:=by rw[AM,l];decide
 have ab:bx [.le (ms.map λp=>D.atom (.ref p.1)).length NN]:=⟨aa,trivial⟩;rw[wI];refine wpAny_execs_cons ?_;obtain⟨zk,R⟩:=z;refine zT j k (Hj (ds:=ms.map λp=>D.atom (.ref p.1))) ab _ s H _ E R λf h1 ax H1 R1 v hf=>?_;cases f<;>first|exact hf.elim|skip
 obtain⟨z1,r⟩:=RZ.on zk R1;refine wpAny_execs_cons (Fq (s:=(uS s h1 ax)) (fs:=[("forms",.slist (ms.map λp=>D.atom (.ref p.1)))]) (kk:=.dict []) (pp:=q) X O (by decide+kernel) (lh X) rfl (by kernel_rfl) rfl (cR rfl _ _ _) z1 (λnd h2 ay H2 z2 e2 au as y=>?_) trivial);refine wpAny_execs_cons (Fq (s:=(uS s h2 ay)) (fs:=[("forms",.slist (ms.map λp=>D.atom (.ref p.1))),("by_name",.atom (.ref nd))]) (kk:=.dict []) (pp:=q) X O (by decide+kernel) (lh X) rfl (by kernel_rfl) rfl (cR rfl _ _ _) z2 (λcd L az H3 z3 e3 av ah B=>?_) trivial);refine cI λG t=>?_;obtain⟨U,aE,nN,gN,dN,U,sN⟩:=au;obtain⟨U,aD,nC,gC,dC,U,sC⟩:=av;refine t ?_;have:=tI dN;subst this;have:=tI dC;subst this;have an:L.get? nd=some (dictOf [] nN):=(e3 nd A4).trans gN;have g:Sb H H3:=λa o q=>B a o (y a o (v a o q));have I3:ch (cd::nd::ms.map (·.2.1)) ms nd cd 0 [] [] L H3:={
   fm:=λp u=>by refine cI λG t=>?_;obtain⟨a,es,n,e,d⟩:=aq p u;refine t ?_;have hz:p.2.1∈ms.map (·.2.1):=Ag.mpr ⟨p,u,rfl⟩;exact⟨g _ _ a,A5 _ (A5 _ hz),es,n,(e3 _ (A5 _ hz)).trans ((e2 _ hz).trans ((r _ hz).trans e)),d.mono g⟩
   nz:=⟨A5 _ A4,sN⟩
   nN:=⟨_,#[],nN,an,⟨rfl,rfl,rfl⟩,rfl,λe he=>by simp at he,.nil,List.nodup_nil⟩
   lN:=λU u=>absurd u A3
   cz:=⟨A4,sC⟩
   cC:=⟨nC,gC⟩
   kC:=List.nodup_nil
   tC:=λU k=>absurd k A3
   lC:=λU k=>absurd k A3
   off:=⟨λe=>ah (e▸A4),λp u=>⟨λe=>as (e▸Ag.mpr ⟨p,u,rfl⟩),λe=>ah (e▸A5 _ (Ag.mpr ⟨p,u,rfl⟩))⟩⟩
   offL:=λU u=>absurd u A3
   one:=List.nodup_nil
   few:=⟨AW _,AW _,λU k=>absurd k A3⟩
   mem:=λU k=>absurd k A3};refine cI λG t=>?_;obtain⟨I,z3,sb⟩:=z3.lessS (τ:=Di q ms nd cd) (.cons (.inl rfl) (.cons (.inr (.inr ⟨_,rfl,rfl⟩)) (.refl _)));refine t ?_;have I3:=I3.move (λU U=>rfl) sb λU q=>q;have g:Sb H I:=λa o q=>sb a o (g a o q);clear z1 z2 r e2 e3 v y B;refine wpAny_execs_cons (wpAny_For ?_ (gd rfl _));refine cI λG t=>?_;obtain⟨M,m,cm,ad,R3⟩:=z3;refine t ?_;refine Hn j k (HG (ms:=ms) (nd:=nd) (cd:=cd)) ⟨λA U U=>?_,trivial⟩ ⟨_,m,cm,ad⟩ (uS s L az) I _ E R3 λit T ak H4 Z F hF V S U Z1 J=>?_;·have:=uP (A:=A) (b:=false) (d:=.slist (ms.map λp=>D.atom (.ref p.1))) rfl aa;rw[AM,l]at this;exact this
 have zs:∀a∈cd::nd::ms.map (·.2.1),T.get? a=L.get? a:=λa ha=>by obtain⟨o,e⟩:=M.there a ha;have J:bD j.env j.g (yU (yU Y (yA (cd::nd::ms.map (·.2.1)) L)) Z) _ m cm T H4 ad:=J;rw[(J.held a o (.inl (.inr ⟨ha,e⟩))).1.at (M.off a ha).2.2,e]
 have e4:=qZ zs;have Z1:gz j.env j.g (yU Y (yA (cd::nd::ms.map (·.2.1)) L)) Z:=Z1;have J:gP j.env j.g (yU (yU Y (yA (cd::nd::ms.map (·.2.1)) L)) Z) (Di q ms nd cd) T H4:=⟨m,cm,ad,J⟩;rw[e4]at Z1 J;have I4:=I3.move zs (λa o q=>V a o (hF a o q)) λU q=>q;refine BN (s₀:=(uS s T ak)) (s:=(uS s T ak)) (H₀:=I) (λds b' N' C' σ'=>∃i,i<=78/\ds=eI false (78-i) i/\b'=i/\N'.length<=i/\dq C'=(formRs.take i).foldl cN []/\σ'=Di q ms nd cd) (λd ds b' N' C' σ' Yb Zs' s' H' v' Q' aB aC hJ z' I' am K'=>?_) (λZs' b' N' C' σ' h' aw H' hJ z' I' ai=>?_) ⟨0,by decide,rfl,rfl,AT _,rfl,rfl⟩ (S j.env) (M.move zs) Z1 J I4 hF V ⟨_,_,rfl⟩
 · obtain⟨i,hi,r,eb,hN,hM,rfl⟩:=hJ;obtain rfl:i=b':=eb.symm;have h:i<78:=by
     rcases Nat.lt_or_ge i 78 with q|q;·exact q
     ·rw[show 78-i=0 from by exact Nat.sub_eq_zero_of_le q]at r;exact nomatch r
   rw[show 78-i=(78-(i+1))+1 from by exact sn h]at r;refine cI λG t=>?_;obtain⟨rfl,rfl⟩:=List.cons.inj r;have ar:i<ms.length:=by rw[l];exact h
   have ac:ms[i]?=some ms[i]:=AN ar;have ae:formRs[i]?=some (ms[i]).2.2:=by rw[<-af,List.getElem?_map,ac];rfl
   have hr:(ms[i]).2.2∈formRs:=List.mem_of_getElem? ae;obtain⟨c1,c2⟩:=rI (formRs.take i) [] 0 (AT _) (λx hx=>by exact absurd hx A3);have ag:(formRs.take i).length<=i:=by rw[List.length_take];exact Nat.min_le_left _ _
   obtain⟨c3,c4⟩:=w6 (C:=C') (c:=i) (by rw[hM];exact A1 c1 (A1 (AL (Nat.zero_add _)) ag)) (λx hx=>by rw[hM]at hx;have:=c2 x hx;exact A1 this (A1 (AL (Nat.zero_add _)) ag));refine t ?_;refine yz (q:=q) (i:=i) (fa:=ms[i]) j k ac hr (by exact wk h rfl) z' I' (by exact wk (AR hN h) rfl) (by exact wk (AR c3 h) rfl) (λq k=>by have:=c4 q k;exact wk (AR this h) rfl) am (by exact wk h rfl) λal N2 C2 h5 aA H5 ap ao z5 I5 aj=>?_;refine K' al _ N2 C2 _ h5 aA H5 ⟨i+1,h,rfl,rfl,by exact A1 ap (AE hN),?_,rfl⟩ z5 I5 aj;rw[ao,hM,List.take_add_one,ae,List.foldl_append];rfl
 · obtain⟨i,hi,r,eb,hN,hM,rfl⟩:=hJ;obtain rfl:i=b':=eb.symm;have h:i=78:=by
     rcases Nat.lt_or_ge i 78 with q|q;·rw[show 78-i=(78-(i+1))+1 from by exact sn q]at r;exact nomatch r
     ·exact Nat.le_antisymm hi q
   subst h;refine wpAny_execs_nil (K nd cd Zs' N' C' h' aw H' ?_ z' I' λa o q=>ai a o (g a o q));rw[hM,show formRs.take 78=formRs from by kernel_rfl];rfl
end
section
variable{H H':Addr->Obj->Prop}
theorem ML(x:PySem.Str)(v:Value)(h:cx H v (.str x)):cx H' v (.str x):=by obtain⟨U,rfl⟩:=h.inv;exact .str _ _
theorem xZ{xs:List PySem.Str}:∀{vs:List Value},bM H vs (xs.map D.str)->bM H' vs (xs.map D.str):=by induction xs with|nil=>intro vs h;obtain rfl:=h.inv;exact .nil|cons x xs i=>intro vs h;obtain⟨U,U,rfl,d,r⟩:=h.inv;exact .cons (ML _ _ d) (i r)
theorem cQ.step(k:∀v,cx H v d->cx H' v e)(r:∀es,cQ H es ds->cQ H' es c)(es:List DictEntry)(h:cQ H es ((x,d)::ds)):cQ H' es ((x,e)::c):=by obtain⟨U,U,U,U,rfl,a,b⟩:=h.inv;exact .cons (k _ a) (r _ b)
theorem IL(i:Int)(v:Value)(h:cx H v (.int i)):cx H' v (.int i):=by obtain⟨U,rfl⟩:=h.inv;exact .int _ _
theorem NI(b:Bool)(v:Value)(h:cx H v (.bool b)):cx H' v (.bool b):=by obtain rfl:=h.inv;exact .bool _
theorem M2(c:∀a vs n,H a (dQ vs n)->H' a (dQ vs n))(xs:List PySem.Str)(v:Value)(h:cx H v (.tuple (xs.map D.str))):cx H' v (.tuple (xs.map D.str)):=by obtain⟨U,U,U,rfl,a,b⟩:=h.inv;exact .tuple (c _ _ _ a) (xZ b)
theorem wN(c:∀a vs n,H a (dQ vs n)->H' a (dQ vs n)):cQ H es (f3 d r)->cQ H' es (f3 .any r):=.step (ML _) (.step (M2 c _) (.step (IL _) (.step (IL _) (.step (IL _) (.step (IL _) (.step (IL _) (.step (NI _) (.step (λU U=>.any _) (.step (M2 c _) λU h=>by obtain rfl:=h.inv;exact .nil))))))))) es
theorem su:∀{vs:List Value},bM H vs (a.map (fy d))->∃ms:List FA,vs=ms.map (λp=>Value.ref p.1)/\ms.map (·.2.2)=a/\∀p∈ms,H p.1 (instObj 234 p.2.1)/\∃es n,H p.2.1 (dictOf es n)/\cQ H es (f3 d p.2.2):=by induction a with|nil=>intro vs h;obtain rfl:=h.inv;exact⟨[],rfl,rfl,λp k=>nomatch k⟩|cons r a l=>intro vs h;obtain⟨v,u,rfl,e,rest⟩:=h.inv;obtain⟨ms,rfl,rfl,g⟩:=l rest;obtain⟨x,f,es,n,rfl,i,j,c⟩:=(show cx H _ (.inst 234 (f3 d r))from e).inv;exact⟨(x,f,r)::ms,rfl,rfl,List.forall_mem_cons.mpr ⟨⟨i,es,n,j,c⟩,g⟩⟩
theorem zD(ms:List FA):bM H (ms.map λp=>Value.ref p.1) (ms.map λp=>D.atom (.ref p.1)):=by induction ms with|nil=>exact .nil|cons p r i=>exact .cons (.atom _) i
end
section
variable{Zs:List Addr}{ms:List FA}{nd cd:Addr}{b:Nat}{N:List (PySem.Str×Addr)}{C:List CA}{h:Heap}{H H':Addr->Obj->Prop}
theorem wW(I:ch Zs ms nd cd b N C h H)(j:∀a o,a∈Zs->h.get? a=some o->H' a o)(sub:Sb H H'){fs:List FA}:(∀p∈fs,p∈ms)->bM H' (fs.map λp=>Value.ref p.1) ((fs.map (·.2.2)).map (fy .any)):=by induction fs with|nil=>exactλU=>.nil|cons p r k=>intro c;refine cI λG g=>?_;obtain⟨f,z,es,n,e,d⟩:=I.fm p (c p A4);refine g ?_;exact .cons (.inst (sub _ _ f) (j _ _ z e) (d.mono sub)) (k λq i=>c q (A5 _ i))
theorem xy(I:ch Zs ms nd cd b N C h H)(f:∀a o,a∈Zs->h.get? a=some o->H' a o)(sub:Sb H H'){cs:List CA}:(∀q∈cs,q∈C)->kW H' (cs.map (jD)) ((dq cs).map λp=>(p.1,.list (p.2.map (fy .any)))):=by induction cs with|nil=>exactλU=>.nil|cons q r k=>intro d;refine cI λG g=>?_;obtain⟨u,n,t,i⟩:=I.tC q (d q A4);obtain⟨z,m,e⟩:=I.lC q (d q A4);refine g ?_;exact .cons (sub _ _ t) i (.list (f _ _ z e) (wW I f sub (I.mem q (d q A4)))) (k λc j=>d c (A5 _ j))
theorem Ap(I:ch Zs ms nd cd b N C h H)(c:∀a o,a∈Zs->h.get? a=some o->H' a o)(sub:Sb H H')(d:dq C=q0):cx H' (.ref cd) (.dictT (q0.map λp=>(p.1,.list (p.2.map (fy .any))))):=by obtain⟨n,e⟩:=I.cC;rw[<-d];refine .dictT (c _ _ I.cz.1 e) (xy I c sub λU q=>q) ⟨?_,I.cz.2⟩;rw[List.map_map];have:((λx:List Int×D=>x.1)∘λp:List Int×List FormR=>(p.1,D.list (p.2.map (fy .any))))=λp=>p.1:=rfl;rw[this,gt];exact I.kC
end
theorem om(e:bq (BW q ds fs) x=some (.o k p)):x="self"/\k=.inst 1259 fs/\p=q:=by unfold bq at e;rw[AK]at e;cases z:x==("self":PySem.Str)with|true=>rw[z]at e;cases e;exact⟨Ac.mp z,rfl,rfl⟩|false=>rw[z]at e;dsimp only at e;rw[AK]at e;cases a:x==("forms":PySem.Str)with|true=>rw[a]at e;cases e|false=>rw[a]at e;exact ca e
section
variable{A:Around}{g:Gr}
theorem LR{H H':Addr->Obj->Prop}{es:List DictEntry}{a b c:PySem.Str}{f d2 d:D}{v:Value}(h:cQ H es [(a,f),(b,d2),(c,.atom v)])(k:cx H' v d):cQ H' es [(a,.any),(b,.any),(c,d)]:=by obtain⟨U,U,U,U,rfl,U,i⟩:=h.inv;obtain⟨U,U,U,U,rfl,U,j⟩:=i.inv;obtain⟨U,U,U,U,rfl,e,l⟩:=j.inv;obtain rfl:=l.inv;obtain rfl:=e.inv;exact .cons (.any _) (.cons (.any _) (.cons k .nil))
theorem xE{fr:Option Addr}{h:Heap}{gs:_}{dr:_}{tk:_}{os:_}{la:Addr}{X:Addr->Prop}{ms:List FA}{n:Nat}{R:Result->Shared->Prop}(CX:Cx 7 A g fr)(S:kz g X h)(hl:h.get? la=some (bA (ms.map λp=>Value.ref p.1) n))(ar:ms.map (·.2.2)=formRs)(hf:∀p∈ms,(h.get? p.1=some (instObj 234 p.2.1)/\¬X p.1)/\∃es n,h.get? p.2.1=some (dictOf es n)/\¬X p.2.1/\cQ (Fz h X) es (f3 (.int (-1)) p.2.2))(hg:∀p∈ms,g.b.get? p.2.1=none)(hX:¬X la)(K:∀v h' T,(∀b o,(∀p∈ms,b≠p.2.1)->h.get? b=some o->Up g.fs h' b o)->cx (Fz h' X) v bv->R (.ok (.ret v)) ⟨h',gs,dr,T,os⟩):codeAny (model P0 w) A (.call (.ref 1259) ⟨[.ref la],[]⟩) R ⟨h,gs,dr,tk,os⟩:=by
 have Y:(cA w.params).In h:=Frag.In.keeps CX.good.1 S.keep;have hm:makesIn (cA w.params) 1259=true:=by kernel_rfl
 have hi:findIn (cA w.params) (.ref 1259) "__init__"=some (some (.ref 1202)):=by kernel_rfl
 have ao:typeIn (cA w.params) (.ref 1202)=some (.type "function"):=by kernel_rfl
 obtain⟨j,l⟩:∃j,j=(h.push emptyDict).push (instObj 1259 h.objs.size):=⟨_,rfl⟩;refine make_core (makes_of Y hm) (looks_findIn Y hi) (λah=>bind_fn Y ah ao) (.inl rfl) ?_;rw[<-l];have k1:Hk h j:=λb o e=>l▸A2 _ (A2 _ e);have sz:(h.push emptyDict).objs.size=h.objs.size+1:=Heap.size_push ..;have ix:j.get? (h.objs.size+1)=some (instObj 1259 h.objs.size):=by rw[l];have:=AH (h.push emptyDict) (o:=instObj 1259 h.objs.size) rfl;rwa[sz]at this
 have au:j.get? h.objs.size=some emptyDict:=l▸A2 _ (AH _ rfl);have na:h.get? h.objs.size=none:=Heap.get?_none_of_le (AT _);have nX:∀b,X b->b<h.objs.size:=λb z=>by obtain⟨o,e⟩:=S.there b z;exact AG e
 have ga:g.b.get? h.objs.size=none:=by cases q:g.b.get? h.objs.size with|none=>rfl|some o'=>have:=S.keep _ o' q;rw[na]at this;exact ca this
 have c:∀a∈ms.map (·.2.1),a<h.objs.size/\(∃es n,h.get? a=some (dictOf es n))/\¬X a/\g.b.get? a=none:=λa i=>by obtain⟨p,J,rfl⟩:=Ag.mp i;obtain⟨U,es,m,e,nx,U⟩:=hf p J;exact⟨AG e,⟨es,m,e⟩,nx,hg p J⟩
 have ai:Cx 6 (A.under (.builtin "type.__call__" ⟨.ref 1259::[.ref la],[]⟩)) g fr:=by
   refine cI λG E=>?_;obtain⟨aj,aa,ab,dp,un⟩:=CX;refine E ?_;refine⟨aj,aa,ab,?_,?_⟩;·have:(A.under (.builtin "type.__call__" ⟨.ref 1259::[.ref la],[]⟩)).depth=A.depth+1:=rfl;rw[this];exact bu dp (by decide)
   ·have:(A.under (.builtin "type.__call__" ⟨.ref 1259::[.ref la],[]⟩)).units=A.units+1:=rfl;rw[this];exact bu un (by decide)
 refine cI λG E=>?_;obtain⟨fd,ak,hF,O,as,al,am,hk⟩:=c9.ok;have an:ak=[]:=by have:=(am λU U=>False).length;exact List.eq_nil_of_length_eq_zero this
 subst an;refine E ?_;have S':kz g (λb=>X b\/b∈ms.map (·.2.1)) j:=⟨λb o e=>k1 b o (S.keep b o e),λa q=>by refine cI λG E=>?_;obtain⟨q1,q2,mm,oL,es,ep,hL,hq⟩:=S.frs a q;refine E ?_;exact⟨.inl q1,q2,mm,oL,es,ep,k1 _ _ hL,hq⟩,λa q=>by
   rcases q with q|q;·obtain⟨o,e⟩:=S.there a q;exact⟨o,k1 _ _ e⟩
   ·obtain⟨U,⟨es,m,e⟩,U⟩:=c a q;exact⟨_,k1 _ _ e⟩⟩;refine fS (hid:=h.objs.size::ms.map (·.2.1)) (X:=λb=>X b\/b∈ms.map (·.2.1)) (vs:=[.ref (h.objs.size+1),.ref la]++[]) (σ0:=BW (some (h.objs.size,.ref (h.objs.size+1))) (ms.map λp=>D.atom (.ref p.1)) []) (ad0:=λU=>h.objs.size) hF as (λY=>al _ Y [.ref (h.objs.size+1),.ref la] rfl) (by rw[O];exact hk) ai S' (λa i=>?_) (λx d e=>?_) (λx k p e=>?_) (λx y k k' p p' e1 u U=>?_) λA' env g' ax H₁ B eg ay Q f hH H=>?_
 · rcases A6.mp i with rfl|i;·exact ga
   ·exact(c a i).2.2.2
 · obtain⟨rfl,rfl⟩:x="forms"/\d=.list (ms.map λp=>D.atom (.ref p.1)):=by unfold bq at e;rw[AK]at e;cases q:x==("self":PySem.Str)with|true=>rw[q]at e;cases e|false=>rw[q]at e;dsimp only at e;rw[AK]at e;cases q2:x==("forms":PySem.Str)with|true=>rw[q2]at e;cases e;exact⟨Ac.mp q2,rfl⟩|false=>rw[q2]at e;exact ca e
   refine⟨.ref la,rfl,.list ⟨k1 _ _ hl,λz=>?_⟩ (zD ms)⟩;rcases z with(z|z)|z;·exact hX z
   ·obtain⟨U,⟨es,m,e⟩,U⟩:=c la z;exact dH hl e rfl
   · rcases A6.mp z with z|z;·exact AU _ (z▸AG hl)
     ·obtain⟨U,⟨es,m,e⟩,U⟩:=c la z;exact dH hl e rfl
 · obtain⟨rfl,rfl,rfl⟩:=om e;refine⟨⟨h.objs.size+1,rfl,⟨ix,λz=>?_⟩,[],0,au,.nil⟩,A4,λz=>?_,λa v z=>by cases z;exact⟨rfl,rfl⟩⟩
   · rcases z with(z|z)|z;·exact AU _ (Nat.lt_of_succ_lt (nX _ z))
     ·exact AU _ (Nat.lt_of_succ_lt (c _ z).1)
     · rcases A6.mp z with z|z;·exact Nat.succ_ne_self _ z
       ·exact AU _ (Nat.lt_of_succ_lt (c _ z).1)
   · rcases z with z|z;·exact AU _ (nX _ z)
     ·exact AU _ (c _ z).1
 ·rw[(om e1).1,(om u).1]
 · obtain⟨t,V,rfl⟩:=Q;dsimp only at*;let q:Option (Addr×Value):=some (h.objs.size,.ref (h.objs.size+1));have J:∀x:PySem.Str,(["self"]:List PySem.Str).contains x=false->(λx:PySem.Str=>if x="self"then q else none) x=none:=λx e=>if_neg λz=>by subst z;simp at e
   let φ:Fm ctV:=⟨A',env,g',_,B.O,by have:=B.C;exact⟨this.below,this.good,this.hand,by have:=this.depth;show _+12*5<=_;assumption,by have:=this.units;show _+60*5<=_;assumption⟩,B.scope.trans O,λx e=>B.cells x (by rw[O];exact e),J⟩;have hq:φ.π "self"=q:=by show(if("self":PySem.Str)="self"then q else none)=q;exact if_pos rfl
   have eY:(λa o=>(X a\/a∈ms.map (·.2.1))/\j.get? a=some o)=yU (λa o=>X a/\j.get? a=some o) (yA (ms.map (·.2.1)) t):=by
     funext a o;refine propext ⟨λz=>?_,λz=>?_⟩
     · rcases z with⟨z|z,e⟩;·exact .inl ⟨z,e⟩
       ·exact .inr ⟨z,f _ _ e⟩
     · rcases z with z|⟨z,e⟩;·exact⟨.inl z.1,z.2⟩
       ·obtain⟨U,⟨es,m,u⟩,U⟩:=c a z;have e3:=f _ _ (k1 _ _ u);rw[e]at e3;obtain rfl:=A0 e3;exact⟨.inr z,k1 _ _ u⟩
   rw[eY]at H;have aw:wR g' (λa o=>X a/\j.get? a=some o) (ms.map (·.2.1)) t:=⟨λa i=>⟨?_,?_,?_⟩,λa i=>?_⟩;rotate_left;·show g'.e.get? a=none;rw[eg.1];exact hideAll_none _ (A5 _ i)
   ·rintro⟨o,z,U⟩;exact(c a i).2.2.1 z
   · rw[eg.2.2.1];intro z;rcases A6.mp z with z|z
     · rw[z,eg.2.2.2]at i;have:=(c _ i).1;have aq:h.objs.size<=j.objs.size:=by rw[l,Heap.size_push,sz];exact A7 _ 2
       exact Nat.not_le_of_gt this aq
     ·exact(c a i).2.2.1 (S.frs a z).1
   ·obtain⟨U,⟨es,m,e⟩,U⟩:=c a i;exact⟨_,f _ _ (k1 _ _ e)⟩
   have ac:∀a o,h.get? a=some o->¬X a->a∉ms.map (·.2.1)->H₁ a o:=λa o e n1 n2=>hH a o ⟨k1 _ _ e,λz=>by
     rcases z with(z|z)|z;·exact n1 z
     ·exact n2 z
     · rcases A6.mp z with z|z;·rw[z,na]at e;exact ca e
       ·exact n2 z⟩;have ae:∀a o,h.get? a=some o->o.cls≠.type "dict"->a∉ms.map (·.2.1):=λa o e nd z=>by obtain⟨U,⟨es,m,u⟩,U⟩:=c a z;rw[e]at u;obtain rfl:=A0 u;exact nd rfl
   have M:c9.body=bz (kM 128 0):=rfl;rw[M];refine E5 (s:=⟨t,gs,dr,V,os⟩) (ms:=ms) φ hq ar ⟨aw,H⟩ (λp J=>?_) λnd cd Zs N C h' T H' hM z I sub=>?_;·obtain⟨⟨e1,n1⟩,es,m,u,n2,df⟩:=hf p J;refine⟨ac _ _ e1 n1 (ae _ _ e1 λz=>by exact nomatch z),es,m,f _ _ (k1 _ _ u),wN (λa vs n z=>ac _ _ z.1 z.2 (ae _ _ z.1 λz=>?_)) df⟩;exact absurd (Value.type.inj z) (by decide)
   · obtain⟨zk,m,cm,ad,r⟩:=z;refine cI λG E=>?_;obtain⟨r2,L,av⟩:=r.dropY (λa⟨o,q⟩=>(zk.off a q.1).2.1) λa⟨o,q⟩=>(zk.off a q.1).2.2;refine E ?_;have hid:Sb (Fz j (λa=>X a\/a∈h.objs.size::ms.map (·.2.1))) H₁:=λa o q=>hH a o ⟨q.1,λz=>q.2 (by
       rcases z with(z|z)|z;·exact .inl z
       ·exact .inr (A5 _ z)
       ·exact .inr z)⟩;refine cI λG E=>?_;obtain⟨kp,out⟩:=gP.out (X:=X) (fs:=g.fs) eg.2.2.2 eg.2.2.1 (λa z=>(S.there a z).imp λo e=>k1 _ _ e) hid (λa o q=>L a o (sub a o q)) ⟨m,cm,ad,r2⟩;obtain⟨ok,U,U,U,U,U,ag⟩:=r2.own "self" (.inst 1259 (FW ms nd cd)) q rfl;obtain⟨ea,ev⟩:=ag _ _ rfl;rw[ev,ea]at ok;obtain⟨y,ey,hy,es,n',ap,df⟩:=ok;cases ey;refine E ?_;have af:=Ap I (H':=Fz h' X) (λa o z e=>out _ _ (av a o ⟨z,e⟩)) (λa o q=>out _ _ (L a o q)) hM;refine⟨rfl,K (.ref (h.objs.size+1)) h' T (λb o hb e=>kp b o (λz=>?_) (k1 _ _ e)) (.inst (out _ _ hy) ⟨ap,λz=>AU _ (nX _ z)⟩ ?_)⟩
     · rcases A6.mp z with z|z;·rw[z,na]at e;exact ca e
       ·obtain⟨p,J,e⟩:=Ag.mp z;exact hb p J e.symm
     ·exact LR df af
theorem xG{fr:Option Addr}{h:Heap}{la:Addr}{X:Addr->Prop}{ms:List FA}{n:Nat}{R:Result->Shared->Prop}{s:Shared}(hs:s.heap=h)(C:Cx 7 A g fr)(S:kz g X h)(f:h.get? la=some (bA (ms.map λp=>Value.ref p.1) n))(a:ms.map (·.2.2)=formRs)(d:∀p∈ms,(h.get? p.1=some (instObj 234 p.2.1)/\¬X p.1)/\∃es n,h.get? p.2.1=some (dictOf es n)/\¬X p.2.1/\cQ (Fz h X) es (f3 (.int (-1)) p.2.2))(e:∀p∈ms,g.b.get? p.2.1=none)(c:¬X la)(K:∀v h' t,(∀b o,(∀p∈ms,b≠p.2.1)->h.get? b=some o->Up g.fs h' b o)->cx (Fz h' X) v bv->R (.ok (.ret v)) (uS s h' t)):codeAny (model P0 w) A (.call (.ref 1259) ⟨[.ref la],[]⟩) R s:=by subst hs;obtain⟨h,j,i,k,os⟩:=s;exact xE C S f a d e c K
end
theorem Cx.to{A:Around}{g:Gr}{fr:Option Addr}{k m:Nat}(X:Cx k A g fr)(h:m<=k):Cx m A g fr:=⟨X.below,X.good,X.hand,by have:=X.depth;exact A1 (Ad (Ah _ h) _) this,by have:=X.units;exact A1 (Ad (Ah _ h) _) this⟩
section
variable{A:Around}{env:Env}{g:Gr}{σ:Sig}{k:Nat}
theorem EG{c f:PySem.Str}{p p2 G q:Pos}(hk:9<=k)(X:Cx k A g env.frame)(h1:Ev A env g (.Name c p) σ (.atom (.ref 1259)) σ)(h2:Ev A env g (.Name f p2) σ (.atom (.ref 1018)) σ):Ev A env g (.Call (.Name c p) [.Call (.Name f p2) [] [] G] [] q) σ bv σ:=by
 intro l s H Q E R K;refine Call_Name rfl (h1 l s H _ E R λv ha ae H1 R1 L t=>?_);(first|obtain rfl:=t.inv|obtain⟨_,rfl⟩:=t.inv);refine dK (by kernel_rfl) rfl (evalArgs_plain (spliced_cons ?_));refine Call_Name rfl (h2 l (uS s ha ae) H1 _ E R1 λv hb af H2 R2 M t=>?_);(first|obtain rfl:=t.inv|obtain⟨_,rfl⟩:=t.inv);refine dK (by kernel_rfl) rfl (il.nil.args _ G l (uS s hb af) H2 _ E R2 λvs j T H3 i N I=>⟨RL.kin (s:=(uS s j T)) X i,wpAny_call ?_⟩);(first|obtain rfl:=I.inv|obtain⟨_,rfl⟩:=I.inv);have d:bD _ _ _ _ _ _ _ _ _:=i;refine pu A g _ (uS s j T) (λa=>∃o,j.get? a=some o) [] _ (X.to hk) ⟨i.fr.keep,λa z=>?_,λa z=>z⟩ .nil λv V ag la h ok na=>?_;·obtain⟨q1,G,mm,q3⟩:=i.frs a z;exact⟨d.exThere (d.exFs z),G,mm,q3⟩
 obtain⟨ev,vs,n,hl,dl⟩:=ok;obtain rfl:=A0 ev;obtain⟨ms,rfl,aa,Y⟩:=su dl;have B:∀a,c5 env σ l.ad (dY l.Y) a->∃o,j.get? a=some o:=λa z=>d.exThere z;have x:Sb (Fz V (λb=>(∃o,j.get? b=some o)\/b=la)) (Fz V (c5 env σ l.ad (dY l.Y))):=λa o z=>⟨z.1,λy=>z.2 (.inl (B a y))⟩;refine spliced_nil ?_;have KI:(cA w.params).In V:=Frag.In.keeps X.good.1 λb o e=>(h b o (i.fr.keep b o e)).at λz=>by rw[(i.frs b z).2.1]at e;exact ca e
 refine⟨KI,wpAny_call ?_⟩;have u:∀a,j.get? a=none->g.b.get? a=none:=λa e=>by cases z:g.b.get? a with|none=>rfl|some o=>have:=i.fr.keep a o z;rw[e]at this;exact ca this
 have r:∀a,(¬∃o,j.get? a=some o)->j.get? a=none:=λa z=>by cases y:j.get? a with|none=>rfl|some o=>exact(z ⟨o,y⟩).elim
 refine xG (s:=(uS s V ag)) (X:=c5 env σ l.ad (dY l.Y)) (ms:=ms) (fr:=env.frame) rfl (X.to (A1 (by decide) hk)) ⟨λb o e=>(h b o (i.fr.keep b o e)).at (λz=>by rw[(i.frs b z).2.1]at e;exact ca e),λa z=>?_,λa z=>?_⟩ hl aa (λp J=>?_) (λp J=>?_) (λz=>?_) λv h' ac ab t=>?_;·obtain⟨q1,G,mm,q3⟩:=i.frs a z;exact⟨d.exFs z,G,mm,Up.ns q3 λo e=>h a o e⟩
 ·obtain⟨o,e⟩:=B a z;exact(h a o e).there
 ·obtain⟨e1,es,m,C,df⟩:=Y p J;exact⟨⟨e1.1,(x _ _ e1).2⟩,es,m,C.1,(x _ _ C).2,df.mono x⟩
 ·obtain⟨U,es,m,C,U⟩:=Y p J;exact u _ (r _ λz=>C.2 (.inl z))
 ·obtain⟨o,e⟩:=B la z;rw[na]at e;exact ca e
 ·have kp:Kp g.fs j h':=λb o e=>(h b o e).trans λo' e'=>ab b o' (λp J z=>by obtain⟨U,es,m,C,U⟩:=Y p J;exact C.2 (.inl ⟨o,z▸e⟩)) e';obtain⟨R6,O⟩:=d.growK kp;exact K v h' ac _ R6 (λa o z=>O a o (N a o (M a o (L a o z)))) t
end
noncomputable def ck(vs:List Nat)(n:Nat):PySem.Str:=if n+1+(oZ (vs.getD n 0)).2<=vs.length then(oZ (vs.getD n 0)).1 else"none"
noncomputable def gB(vs:List Nat)(n:Nat):PySem.Str:=if ck vs n="none"then"stop"else ck vs n
noncomputable def mf:Option Int->D|none=>.none|some t=>.sym t
inductive iJ:FormR->Nat->PySem.Str->Prop|nop:iJ vU 0 "on"|cld:iJ wp 0 "on"|ret:iJ vR 0 "return"|hlt:iJ v4 0 "stop"|jmp:iJ sE 1 "jump"|je:iJ By 1 "branch"|loop:iJ oB 1 "branch"|call:iJ oY 4 "call"
theorem uA(h:x∈pool):(vT x=none/\oZ x=(("none":PySem.Str),0))\/∃r wd a,vT x=some (r,wd)/\oZ x=(a,wd)/\iJ r wd a:=by
 simp only[pool,A6,A3,or_false]at h;rcases h with rfl|rfl|rfl|rfl|rfl|rfl|rfl|rfl|rfl|rfl|rfl|rfl|rfl|rfl;·exact .inr ⟨_,_,_,rfl,rfl,.nop⟩
 ·exact .inr ⟨_,_,_,rfl,rfl,.jmp⟩
 ·exact .inr ⟨_,_,_,rfl,rfl,.je⟩
 ·exact .inl ⟨rfl,rfl⟩
 ·exact .inl ⟨rfl,rfl⟩
 ·exact .inl ⟨rfl,rfl⟩
 ·exact .inr ⟨_,_,_,rfl,rfl,.loop⟩
 ·exact .inr ⟨_,_,_,rfl,rfl,.ret⟩
 ·exact .inr ⟨_,_,_,rfl,rfl,.hlt⟩
 ·exact .inr ⟨_,_,_,rfl,rfl,.cld⟩
 ·exact .inl ⟨rfl,rfl⟩
 ·exact .inr ⟨_,_,_,rfl,rfl,.call⟩
 ·exact .inl ⟨rfl,rfl⟩
 ·exact .inl ⟨rfl,rfl⟩
theorem iJ.way(h:iJ r wd a):a≠"none"/\(wd=0↔a="on"\/a="return"\/a="stop")/\a∈(["on","call","return","stop","jump","branch"]:List PySem.Str):=by cases h<;>refine⟨by decide+kernel,by decide+kernel,by decide+kernel⟩
theorem mD(o:∀x∈vs,x∈pool)(e:n<vs.length):(ck vs n="none"/\fZ vs n=.none/\bC vs n=1/\cB vs n=none/\kL vs n=.none/\hV vs n=.tuple [.str "none",.sym ((n+1:Nat):Int),.none])\/∃r wd c ops,iJ r wd c/\ck vs n=c/\gB vs n=c/\n+1+wd<=vs.length/\ops=(if wd=0 then[]else[eS (cP vs n wd)])/\fZ vs n=cV r ops/\bC vs n=1+wd/\cB vs n=(if wd=0 then none else some ((n:Int)+(1+wd)+cP vs n wd))/\kL vs n=fe r ops (1+wd)/\hV vs n=.tuple [.str c,.sym ((n+(1+wd):Nat):Int),mf (cB vs n)]:=by
 have m:vs.getD n 0∈pool:=by rw[dS e];exact o _ (List.getElem_mem e)
 rcases uA m with⟨a,b⟩|⟨r,wd,c,a,b,f⟩
 · refine .inl ⟨?_,?_,?_,?_,?_,?_⟩;·unfold ck;rw[b];split<;>rfl
   ·unfold fZ;rw[a]
   ·unfold bC;rw[a]
   ·unfold cB;rw[a]
   ·unfold kL;rw[a]
   ·unfold hV;rw[b];rfl
 · by_cases h:n+1+wd<=vs.length
   · have j:ck vs n=c:=by unfold ck;rw[b];exact if_pos h
     have g:cB vs n=(if wd=0 then none else some ((n:Int)+(1+wd)+cP vs n wd)):=by unfold cB;rw[a];exact if_pos h
     refine .inr ⟨r,wd,c,_,f,j,?_,h,rfl,?_,?_,g,?_,?_⟩;·unfold gB;rw[j,if_neg f.way.1]
     ·unfold fZ;rw[a];exact if_pos h
     ·unfold bC;rw[a];exact if_pos h
     ·unfold kL;rw[a];exact if_pos h
     · rw[g];unfold hV;rw[b];dsimp only;by_cases d:wd=0;·rw[if_pos d,if_pos d,d];rfl
       · rw[if_neg d,if_neg d,if_pos h];have k:(n:Int)+1+(wd:Int)=((n+(1+wd):Nat):Int):=by omega
         have l:(n:Int)+(1+(wd:Int))=((n+(1+wd):Nat):Int):=by omega
         rw[k,l];rfl
   · refine .inl ⟨?_,?_,?_,?_,?_,?_⟩;·unfold ck;rw[b];exact if_neg h
     ·unfold fZ;rw[a];exact if_neg h
     ·unfold bC;rw[a];exact if_neg h
     ·unfold cB;rw[a];exact if_neg h
     ·unfold kL;rw[a];exact if_neg h
     ·unfold hV;rw[b];dsimp only;rw[if_neg (by exactλz=>h (A1 (AL (congrArg (_+·) z)) e)),if_neg h];rfl
theorem vH(j:∀x∈vs,x∈pool)(g:n<vs.length):hV vs n=.tuple [.str (ck vs n),.sym ((n+bC vs n:Nat):Int),mf (cB vs n)]:=by
 rcases mD j g with⟨a,U,c,d,U,e⟩|⟨r,wd,k,ops,U,b,U,U,U,U,f,U,U,h⟩;·rw[e,a,c,d];rfl
 ·rw[h,b,f]
section
variable{i:Int}{bs:Array UInt8}{dist:Int}{ops:List D}
theorem Cp:(b8 40 9 [] dJ [bK i bs .none] []).map (λr=>(r.a,r.c))=some (.ret (.str "stop"),[]):=by kernel_rfl
theorem BP(h:iJ r wd a):(b8 60 9 [] dJ [bK i bs (cV r ops)] []).map (λr=>(r.a,r.c))=some (.ret (.str a),[]):=by cases h<;>kernel_rfl
theorem vm(h:iJ r wd a):(b8 60 9 [] fX [.str r.1] []).map (λr=>(r.a,r.c))=some (.ret (.str a),[]):=by cases h<;>kernel_rfl
theorem DM:(b8 40 9 [] cZ [bK i bs .none] []).map (λr=>(r.a,r.c))=some (.ret .none,[]):=by kernel_rfl
theorem xL:(b8 40 9 [] cZ [bK i bs (cV r [])] []).map (λr=>(r.a,r.c))=some (.ret .none,[]):=by kernel_rfl
theorem E8:(b8 40 9 [] cZ [bK i bs (cV r [eS dist])] []).map (λr=>(r.a,r.c))=some (.ret (.sym (i+bs.size+dist)),[.le bs.size NN]):=by kernel_rfl
theorem Dl:(b8 40 9 [] ic [bK i bs ins] []).map (λr=>(r.a,r.c))=some (.ret (.sym (i+bs.size)),[.le bs.size NN]):=by kernel_rfl
end
section
variable{vs:List Nat}{n:Nat}
theorem yD(h:iJ r wd a):br 10 1032 [.str r.1] (.str a):=bp fX rfl (vm h) trivial
theorem yS(f:∀x∈vs,x∈pool)(d:n<vs.length):br 10 1131 [dg vs n] (.str (gB vs n)):=by
 have e:dg vs n=bK n (bj ((vs.drop n).take (bC vs n))) (fZ vs n):=rfl;rw[e];rcases mD f d with⟨h,a,U⟩|⟨r,wd,g,ops,h,U,b,U,U,c,U⟩;·rw[a,show gB vs n="stop"from by unfold gB;rw[if_pos h]];exact bp dJ rfl Cp trivial
 ·rw[c,b];exact bp dJ rfl (BP h) trivial
theorem vD(h:n<vs.length)(b:vs.length<=11):(bj ((vs.drop n).take (bC vs n))).size<=NN:=by have:=oW vs h;have a:=iz vs h;show _<=16777216;exact wk (A1 (AL (Int.ofNat.inj a)) (A1 (Nat.le_add_left _ _) (A1 this b))) rfl
theorem uv(h:n<vs.length)(a:vs.length<=11):br 10 1053 [dg vs n] (.sym ((n+bC vs n:Nat):Int)):=by have e:dg vs n=bK n (bj ((vs.drop n).take (bC vs n))) (fZ vs n):=rfl;rw[e];have:=bp ic rfl (Dl (i:=n) (bs:=bj ((vs.drop n).take (bC vs n))) (ins:=fZ vs n)) ⟨vD h a,trivial⟩;rw[iz vs h]at this;exact this
theorem Ak(b:n<vs.length)(c:vs.length<=11):br 10 1081 [dg vs n] (mf (cB vs n)):=by
 have e:dg vs n=bK n (bj ((vs.drop n).take (bC vs n))) (fZ vs n):=rfl;rw[e];rcases lf vs n with⟨h,a⟩|⟨r,h,a⟩|⟨r,dist,h,a⟩;·rw[h,a];exact bp cZ rfl DM trivial
 ·rw[h,a];exact bp cZ rfl xL trivial
 ·rw[h,a];have:=bp cZ rfl (E8 (i:=n) (bs:=bj ((vs.drop n).take (bC vs n))) (r:=r) (dist:=dist)) ⟨vD b c,trivial⟩;rw[iz vs b]at this;exact this
end
noncomputable def jk(f:α->D):List α->D->D|[],d=>d|n::ns,_=>jk f ns (f n)
section
variable{A:Around}{env:Env}{g:Gr}{α:Type}{x:PySem.Str}{elt c:PySem.Expr}{f gg:α->D}{sg:D->Sig}{s0:Sig}
theorem wU(e:∀d b,bO (sg d) x (.v b)=sg b):∀(ns:List α)(a:D),(∀n∈ns,Ev A env g elt (sg (f n)) (gg n) (sg (f n)))->eA A env g x [] elt (ns.map f) (sg a) (ns.map gg) (sg (jk f ns a)):=by intro z;induction z with|nil=>intro a _;exact .nil|cons n ns j=>intro a h;exact .take (show iy A env g [] (bO (sg a) x (.v (f n))) true (sg (f n))from⟨rfl,(e _ _).symm⟩) (h n A4) (j (f n) λm i=>h m (A5 _ i))
theorem jJ(e:∀d a,bO (sg d) x (.v a)=sg a)(b:∀a,bO s0 x (.v a)=sg a)(n:α)(ns:List α)(h:∀m∈n::ns,Ev A env g elt (sg (f m)) (gg m) (sg (f m))):eA A env g x [] elt ((n::ns).map f) s0 ((n::ns).map gg) (sg (jk f (n::ns) .none)):=.take (show iy A env g [] (bO s0 x (.v (f n))) true (sg (f n))from⟨rfl,(b _).symm⟩) (h n A4) (wU e ns (f n) λm i=>h m (A5 _ i))
theorem ui(k:∀d e,bO (sg d) x (.v e)=sg e):∀(ns:List α)(a:D),(∀n∈ns,Tr A env g c (sg (f n)) (b n) (sg (f n))/\Ev A env g elt (sg (f n)) (f n) (sg (f n)))->eA A env g x [c] elt (ns.map f) (sg a) ((ns.filter b).map f) (sg (jk f ns a)):=by intro z;induction z with|nil=>intro a _;exact .nil|cons n ns i=>
 intro a j;obtain⟨h,l⟩:=j n A4;have i:=i (f n) λm o=>j m (A5 _ o);have h:iy A env g [c] (bO (sg a) x (.v (f n))) (b n) (sg (f n)):=by rw[k];exact h
 rw[List.filter_cons];cases hb:b n with|true=>rw[hb]at h;exact .take h l i|false=>rw[hb]at h;exact .skip h i
theorem iK(j:∀d e,bO (sg d) x (.v e)=sg e)(k:∀e,bO s0 x (.v e)=sg e)(n:α)(ns:List α)(o:∀m∈n::ns,Tr A env g c (sg (f m)) (b m) (sg (f m))/\Ev A env g elt (sg (f m)) (f m) (sg (f m))):eA A env g x [c] elt ((n::ns).map f) s0 (((n::ns).filter b).map f) (sg (jk f (n::ns) .none)):=by have h:=ui (b:=b) j (n::ns) .none o;generalize((n::ns).filter b).map f=es at h⊢;cases h with|take a i l=>rw[j]at a;exact .take (by rw[k];exact a) i l|skip a i=>rw[j]at a;exact .skip (by rw[k];exact a) i
end
theorem qm(h:k∉m.map (·.1)):bL m k d=m++[(k,d)]:=by unfold bL;rw[if_neg];intro z;obtain⟨p,a,e⟩:=List.any_eq_true.mp z;exact h (Ag.mpr ⟨p,a,of_decide_eq_true e⟩)
theorem vu(b:D):∀(ns:List Nat)(acc:List (Int×D)),ns.Nodup->(∀n∈ns,(n:Int)∉acc.map (·.1))->g6 (ns.map λn=>.tuple [.sym ((n:Nat):Int),b]) acc=some (acc++ns.map λn=>(((n:Nat):Int),b)):=by intro k;induction k with|nil=>intro acc _ _;rw[List.map_nil,List.map_nil,List.append_nil];rfl|cons n ns j=>
   intro acc i h;obtain⟨d,e⟩:=List.nodup_cons.mp i;rw[AS];show g6 (ns.map _) (bL acc (n:Int) b)=_;rw[qm (h n A4),j _ e λm a z=>?_];·rw[List.append_assoc];rfl
   · rw[List.map_append,AZ]at z;rcases z with z|z;·exact h m (A5 _ a) z
     · have:(m:Int)=(n:Int):=AF.mp z;have:m=n:=by exact Int.ofNat.inj this
       exact d (this▸a)
theorem gO(vs:List Nat)(n:Nat):(bo vs n).Pairwise (·<·)/\∀x∈bo vs n,n<=x:=by suffices h:∀m n,vs.length-n<=m->(bo vs n).Pairwise (·<·)/\∀x∈bo vs n,n<=x from h _ n (AT _);intro m;induction m with|zero=>intro n b;rw[bo,dif_neg (by exact Nat.not_lt_of_le (Nat.le_of_sub_eq_zero (Nat.le_zero.1 b)))];exact⟨.nil,λx a=>(by exact absurd a A3)⟩|succ m k=>
   intro n b;by_cases d:n<vs.length
   · have e:=cD vs n;obtain⟨j,i⟩:=k (n+bC vs n) (by exact Nat.le_of_lt_succ (AO (qr e d) b));rw[bo,dif_pos d];refine⟨.cons (λx a=>by have:=i x a;exact AO (Nat.lt_add_of_pos_right e) this) j,λx a=>?_⟩;rcases A6.mp a with rfl|a;·exact AT _
     ·have:=i x a;exact A1 (A7 _ _) this
   ·rw[bo,dif_neg d];exact⟨.nil,λx a=>(by exact absurd a A3)⟩
theorem tz{ns:List Nat}(h:ns.Pairwise (·<·)):ns.Nodup:=h.imp λh=>AY h
noncomputable def cy(ns:List Nat):List (Int×D):=ns.map λn=>(((n:Nat):Int),D.bool true)
theorem qa(ns:List Nat):(cy ns).length=ns.length:=by unfold cy;rw[AM]
theorem fz(ns:List Nat)(k:Int):(dc (cy ns) k).isSome=ns.any λn=>decide (((n:Nat):Int)=k):=by unfold dc cy;induction ns with|nil=>rfl|cons n ns i=>rw[AS,List.find?_cons,List.any_cons];cases decide (((n:Nat):Int)=k)with|true=>rfl|false=>rw[Bool.false_or];exact i
theorem lU(h:A.handled=none)(b:ns.Nodup)(a:ns.length<=11):Io A (.type "dict") [.list (ns.map λn=>.tuple [.sym ((n:Nat):Int),.bool true])] (.dict (cy ns)):=by have e:=vu (.bool true) ns [] b λn U=>A3;rw[List.nil_append]at e;exact sy h (.inl rfl) e (by rw[AM];show _<=16777216;exact wk a rfl)
theorem vX(x:PySem.Str):∀ws:List PySem.Str,B7 (.str x) (ws.map D.str)=some (ws.any λy=>y==x)|[]=>rfl|y::r=>by have i:=vX x r;show(qB (.str y) (.str x)).bind (λa=>(B7 (.str x) (r.map D.str)).map λb=>a||b)=_;rw[i];rfl
theorem tA(ws:List PySem.Str):et A (compareOp .In) (.str x) (.tuple (ws.map D.str)) (.bool (ws.any λy=>y==x))/\et A (compareOp .NotIn) (.str x) (.tuple (ws.map D.str)) (.bool (!(ws.any λy=>y==x))):=qt (c:=.tuple (ws.map D.str)) rfl (vX x ws)
noncomputable def sT:Stmt->PySem.Expr|.Assign _ e _=>e|_=>.Name default pz
noncomputable def w8(e:PySem.Expr)(i:Nat):PySem.Expr:=match e with|.Tuple es _ _=>(es[i]?).getD e|.Call _ a _ _=>(a[i]?).getD e|.BinOp l _ r _=>if i=0 then l else r|.Subscript l r _=>if i=0 then l else r|e=>e
noncomputable abbrev Cm:List Addr:=[1110,1131,1081,1053]
noncomputable abbrev B3:Ct:=⟨14,cb (kT 121),[],Cm⟩
noncomputable abbrev zt:List Stmt:=jB (cJ (bz (kT 121)) 3 pz)
noncomputable abbrev GH(v:Array UInt8)(rows:List D)(acc bg:List (Int×D)):Sig:=[("iset",.v bv),("octets",.v (.bytes v)),("rows",.v (.list rows)),("found",.o (.dict acc) none),("begins",.v (.dict bg))]
noncomputable abbrev xi(v:Array UInt8)(rows:List D)(acc bg:List (Int×D))(r:D):Sig:=[("iset",.v bv),("octets",.v (.bytes v)),("rows",.v (.list rows)),("found",.o (.dict acc) none),("begins",.v (.dict bg)),("row",.v r)]
noncomputable abbrev mo(v:Array UInt8)(rows:List D)(acc bg:List (Int×D))(r t:D):Sig:=[("iset",.v bv),("octets",.v (.bytes v)),("rows",.v (.list rows)),("found",.o (.dict acc) none),("begins",.v (.dict bg)),("row",.v r),("target",.v t)]
noncomputable abbrev yf(d:D):Sig:=[("row",.v d)]
noncomputable abbrev KT:PySem.Expr:=w8 (w8 (sT (cJ (bz (kT 121)) 1 pz)) 0) 0
section
variable{v:Array UInt8}{rows es:List D}{acc bg:List (Int×D)}{r:D}{t:Int}{way:PySem.Str}
noncomputable abbrev e9(bg:List (Int×D))(t:Int)(b:Bool):Claim:=.p ((dc bg t).isSome=b)
theorem BH:(dj (cr 40) B3 (zt.take 2) (xi v rows acc bg r) [.d .none]).map (λr=>(r.σ,r.c))=some (mo v rows acc bg r .none,[.p (br 14 1081 [r] .none)]):=by kernel_rfl
theorem Ek:(dj (cr 40) B3 (zt.take 2) (xi v rows acc bg r) [.d (.sym t),.b false]).map (λr=>(r.σ,r.c))=some (mo v rows acc bg r (.sym t),[.p (br 14 1081 [r] (.sym t)),e9 bg t false]):=by kernel_rfl
theorem Gv:(dj (cr 40) B3 (zt.take 2) (xi v rows acc bg r) [.d (.sym t),.b true]).map (λr=>(r.σ,r.c))=some (mo v rows (bL acc t (.bool true)) bg r (.sym t),[.p (br 14 1081 [r] (.sym t)),e9 bg t true,.le acc.length NN]):=by kernel_rfl
noncomputable abbrev jP:List PySem.Str:=["on","call"]
theorem FV:((cr 40).ss B3 (zt.drop 2) (mo v rows acc bg r d) [.d (.str way),.t false]).map (λr=>(r.a,r.σ,r.c))=some (.next,mo v rows acc bg r d,[.p (br 14 1131 [r] (.str way)),ci .NotIn (.str way) (.tuple (jP.map D.str)) false]):=by kernel_rfl
theorem C1:((cr 40).ss B3 (zt.drop 2) (mo v rows acc bg (bK i bs ins) d) [.d (.str way),.t true,.d (.sym t),.b false]).map (λr=>(r.a,r.σ,r.c))=some (.next,mo v rows acc bg (bK i bs ins) d,[.p (br 14 1131 [bK i bs ins] (.str way)),ci .NotIn (.str way) (.tuple (jP.map D.str)) true,.p (br 14 1053 [bK i bs ins] (.sym t)),e9 bg t false]):=by kernel_rfl
theorem HV:((cr 40).ss B3 (zt.drop 2) (mo v rows acc bg (bK i bs ins) d) [.d (.str way),.t true,.d (.sym t),.b true,.d (.sym t)]).map (λr=>(r.a,r.σ,r.c))=some (.next,mo v rows (bL acc t (.bool true)) bg (bK i bs ins) d,[.p (br 14 1131 [bK i bs ins] (.str way)),ci .NotIn (.str way) (.tuple (jP.map D.str)) true,.p (br 14 1053 [bK i bs ins] (.sym t)),e9 bg t true,.p (br 14 1053 [bK i bs ins] (.sym t)),.le acc.length NN]):=by kernel_rfl
theorem Hu(d:D):(nV B3 (eU (cJ (bz (kT 121)) 3 pz) pz) d (GH v rows acc bg) []).map (λr=>(r.σ,r.c))=some (xi v rows acc bg d,[]):=by kernel_rfl
noncomputable abbrev JO:Ct:=⟨14,sR (cb (kT 121)) KT,[],Cm⟩
theorem G7:((cr 40).d JO (dR KT) (yf (bK i bs ins)) []).map (λr=>(r.a,r.σ,r.c))=some (D.tuple [.sym i,.bool true],(yf (bK i bs ins)),[]):=by kernel_rfl
theorem HO(d:D):(b8 40 14 Cm fk [bv,.bytes v] [.o .none (.list rows),.l es (yf d),.td (.dict bg),.t true,.w .next (GH v rows acc bg)]).map (λr=>(r.a,r.c))=some (.ret (.slist ((cY (acc.map (·.1))).map D.sym)),[.p (bP 14 1110 [bv,.bytes v] (.list rows)),.p (uT JO "row" [] (dR KT) rows [] es (yf d)),.le es.length NN,.p (∀A:Around,A.handled=none->A.units+8<cLine->Io A (.type "dict") [.list es] (.dict bg)),ci .NotEq (.list rows) (.list []) true,.le 0 NN,.p (x8 B3 (eU (cJ (bz (kT 121)) 3 pz) pz) zt rows (GH v rows [(0,.bool true)] bg) .next (GH v rows acc bg)),.le (acc.length+1) 64]):=by kernel_rfl
end
theorem cL{k n:Nat}{sc:Scope}{ask:List Addr}{σ τ:Sig}{o:List Orc}{cl:List Claim}{s:List Stmt}(a:Fm ⟨k,sc,[],ask⟩)(h:(dj (cr n) ⟨k,sc,[],ask⟩ s σ o).map (λr=>(r.σ,r.c))=some (τ,cl))(d:bx cl)(b:bT σ=true)(c:bT τ=true):fc a.A a.env a.g s σ τ:=by obtain⟨r,e,q⟩:=AD.mp h;simp only[Prod.mk.injEq]at q;have:=r.h (by rw[q.2];exact d) a;rw[q.1,fh rfl a,eO b,eO c]at this;exact this
noncomputable def eM(ns:List Nat)(t:Int):Bool:=ns.any λn=>decide (((n:Nat):Int)=t)
noncomputable def iC(ns:List Nat)(acc:List (Int×D)):Option Int->List (Int×D)|none=>acc|some t=>if eM ns t=true then bL acc t (.bool true)else acc
noncomputable def eV(ws:List PySem.Str)(x:PySem.Str):Bool:=ws.any λy=>y==x
noncomputable def xM(ns:List Nat)(acc:List (Int×D))(a:PySem.Str)(e:Int):List (Int×D):=if eV jP a=true then acc else if eM ns e=true then bL acc e (.bool true)else acc
noncomputable def fb(vs:List Nat)(acc:List (Int×D))(n:Nat):List (Int×D):=xM (bo vs 0) (iC (bo vs 0) acc (cB vs n)) (gB vs n) ((n+bC vs n:Nat):Int)
theorem oR(ns:List Nat)(acc:List (Int×D))(t:Option Int):(iC ns acc t).length<=acc.length+1:=by cases t with|none=>exact AV _|some t=>
 by_cases h:eM ns t=true;·show(if eM ns t=true then _ else _:List (Int×D)).length<=_;rw[if_pos h];exact db _ _ _
 ·show(if eM ns t=true then _ else _:List (Int×D)).length<=_;rw[if_neg h];exact AV _
theorem z7(ns:List Nat)(acc:List (Int×D))(a:PySem.Str)(e:Int):(xM ns acc a e).length<=acc.length+1:=by
 unfold xM;split;·exact AV _
 · split;·exact db _ _ _
   ·exact AV _
theorem mO(vs:List Nat)(acc:List (Int×D))(n:Nat):(fb vs acc n).length<=acc.length+2:=by unfold fb;have:=z7 (bo vs 0) (iC (bo vs 0) acc (cB vs n)) (gB vs n) ((n+bC vs n:Nat):Int);have:=oR (bo vs 0) acc (cB vs n);exact A1 (by assumption) (AE this)
theorem oF(vs:List Nat):∀(ns:List Nat)(acc:List (Int×D)),(ns.foldl (fb vs) acc).length<=acc.length+2*ns.length|[],acc=>AT _|n::ns,acc=>by have:=oF vs ns (fb vs acc n);have:=mO vs acc n;rw[List.foldl_cons,AJ];exact d2 (by assumption) this
theorem qp:cY []=[]:=by unfold cY;first|rfl|simp
section
variable{vs:List Nat}
theorem EX(s:∀x∈vs,x∈pool)(q:vs.length<=11){n:Nat}(k:n<vs.length){acc:List (Int×D)}(l:acc.length<=1000){rows:List D}(a:Fm B3):dW a.A a.env a.g zt (xi (bj vs) rows acc (cy (bo vs 0)) (dg vs n)) .next (GH (bj vs) rows (fb vs acc n) (cy (bo vs 0))):=by
 have c:=(Ak k q).to (m:=14) (by decide);have f:=(yS s k).to (m:=14) (by decide);have d:=(uv k q).to (m:=14) (by decide);have g:acc.length<=NN:=by show _<=16777216;exact wk l rfl
 have j:(iC (bo vs 0) acc (cB vs n)).length<=NN:=by have:=oR (bo vs 0) acc (cB vs n);show _<=16777216;exact wk (A1 this (AE l)) rfl
 have r:dg vs n=bK n (bj ((vs.drop n).take (bC vs n))) (fZ vs n):=rfl;have p1:fc a.A a.env a.g (zt.take 2) (xi (bj vs) rows acc (cy (bo vs 0)) (dg vs n)) (mo (bj vs) rows (iC (bo vs 0) acc (cB vs n)) (cy (bo vs 0)) (dg vs n) (mf (cB vs n))):=by cases o:cB vs n with|none=>rw[o]at c;exact cL a BH ⟨c,trivial⟩ rfl rfl|some t=>rw[o]at c;unfold iC;dsimp only;cases h:eM (bo vs 0) t with|true=>rw[if_pos rfl];exact cL a Gv ⟨c,(fz _ _).trans h,g,trivial⟩ rfl rfl|false=>rw[if_neg (by decide)];exact cL a Ek ⟨c,(fz _ _).trans h,trivial⟩ rfl rfl
 have p2:dW a.A a.env a.g (zt.drop 2) (mo (bj vs) rows (iC (bo vs 0) acc (cB vs n)) (cy (bo vs 0)) (dg vs n) (mf (cB vs n))) .next (mo (bj vs) rows (fb vs acc n) (cy (bo vs 0)) (dg vs n) (mf (cB vs n))):=by
  have i:∀b,eV jP (gB vs n)=b->(ci .NotIn (.str (gB vs n)) (.tuple (jP.map D.str)) (!b)).holds:=λb e A U U=>by rw[<-e];exact(tA jP).2
  unfold fb xM;cases h:eV jP (gB vs n)with|true=>rw[if_pos rfl];exact cc a FV ⟨f,i _ h,trivial⟩ rfl rfl|false=>rw[if_neg (by decide)];rw[r]at f d⊢;cases p:eM (bo vs 0) ((n+bC vs n:Nat):Int)with|true=>rw[if_pos rfl];exact cc a HV ⟨f,i _ h,d,(fz _ _).trans p,d,j,trivial⟩ rfl rfl|false=>rw[if_neg (by decide)];exact cc a C1 ⟨f,i _ h,d,(fz _ _).trans p,trivial⟩ rfl rfl
 have:=dz p1 p2;exact dW.pre this rfl
theorem Ca(e:∀x∈vs,x∈pool)(g:vs.length<=11)(a:Fm B3){rows:List D}:∀(ns:List Nat)(acc:List (Int×D))(c:Nat),(∀x∈ns,x<vs.length)->acc.length<=c->c+2*ns.length<=1000->d6 a.A a.env a.g (eU (cJ (bz (kT 121)) 3 pz) pz) zt (ns.map (dg vs)) (GH (bj vs) rows acc (cy (bo vs 0))) .next (GH (bj vs) rows (ns.foldl (fb vs) acc) (cy (bo vs 0))):=by intro ns;induction ns with|nil=>intro acc c _ _ _;exact .nil|cons n ns i=>intro acc c b d h;rw[AJ]at h;rw[AS,List.foldl_cons];exact .next (ie a (Hu (dg vs n)) trivial rfl rfl) (EX e g (b n A4) (by exact A1 d (A1 (A7 _ _) h)) a) (.inl rfl) (i _ (c+2) (λx f=>b x (A5 _ f)) (by have:=mO vs acc n;exact A1 this (Ae d 2)) (by exact bu h (by decide)))
theorem DB:(b8 40 14 Cm fk [bv,.bytes #[]] [.o .none (.list [])]).map (λr=>(r.a,r.c))=some (.ret (.slist []),[.p (bP 14 1110 [bv,.bytes #[]] (.list [])),.le 0 NN,.le 0 NN,.le 1 64]):=by kernel_rfl
noncomputable def IC(vs:List Nat):List (Int×D):=(bo vs 0).foldl (fb vs) [(0,.bool true)]
theorem nO(h:A.units+8<cLine):et A (compareOp .NotEq) (.list (d::ds)) (.list []) (.bool true):=oG (xs:=d::ds) (ys:=[]) (b:=false) h rfl rfl rfl
theorem uW(e:∀x∈vs,x∈pool)(h:vs.length<=11):br 15 1136 [bv,.bytes (bj vs)] (.slist ((cY ((if vs=[]then[]else IC vs).map (·.1))).map D.sym)):=by
 have b:=eD vs 0;cases vs with|nil=>
  have:=(eF e h).to (m:=14) (by decide);have a:bo [] 0=[]:=by rw[bo,dif_neg (by decide)]
  rw[a]at this;rw[if_pos rfl,List.map_nil,qp,List.map_nil];show br 15 1136 [bv,.bytes #[]] (.slist []);exact bp fk rfl DB ⟨this,AW _,AW _,by show 1<=64;decide,trivial⟩|cons v g=>
  rw[if_neg (by simp)];generalize f:v::g=vs at*;have l:0<vs.length:=by rw[<-f];exact Nat.succ_pos _
  have a:bo vs 0=0::bo vs (0+bC vs 0):=by rw[bo,dif_pos l]
  have q:=(gO vs 0).1;have c:=d9 vs 0;have o:=oF vs (bo vs 0) [(0,.bool true)];refine bp fk rfl (HO (rows:=(bo vs 0).map (dg vs)) (es:=(bo vs 0).map λn=>.tuple [.sym ((n:Nat):Int),.bool true]) (bg:=cy (bo vs 0)) (acc:=IC vs) (jk (dg vs) (bo vs 0) .none)) ⟨(eF e h).to (by decide),ia rfl rfl λj=>?_,?_,λA p U=>lU p (tz q) (by exact A1 b h),λA U r=>?_,AW _,iF rfl rfl λj=>?_,?_,trivial⟩;·rw[a];exact jJ (sg:=yf) (s0:=[]) (λd k=>rfl) (λk=>rfl) 0 _ λm U=>lL j (G7 (i:=m)) trivial rfl rfl
  ·rw[AM];show _<=16777216;exact wk (A1 b h) rfl
  ·rw[a];exact nO r
  ·exact Ca e h j (bo vs 0) _ 1 c (by decide) (by exact wk (Ad (Ah 2 (A1 b h)) 1) rfl)
  ·show(IC vs).length+1<=64;unfold IC;rw[List.length_singleton]at o;omega
end
theorem FJ:∀{a b:List Int},a.Pairwise (·<·)->b.Pairwise (·<·)->(∀x,x∈a↔x∈b)->a=b:=by intro a;induction a with
 |nil=>intro b _ _ h;cases b with|nil=>rfl|cons y b=>exact absurd ((h y).mpr A4) A3
 |cons x a k=>intro b j hb h;cases b with|nil=>exact absurd ((h x).mp A4) A3|cons y b=>
   obtain⟨d,g⟩:=List.pairwise_cons.mp j;obtain⟨f,i⟩:=List.pairwise_cons.mp hb;have e:x=y:=by
     rcases A6.mp ((h x).mp A4)with q|q;·exact q
     · rcases A6.mp ((h y).mpr A4)with p|p;·exact p.symm
       ·exact absurd (d y p) (Int.lt_asymm (f x q))
   subst e;congr 1;refine k g i λz=>⟨λc=>?_,λc=>?_⟩;·exact(A6.mp ((h z).mp (A5 _ c))).resolve_left λq=>Int.ne_of_gt (d z c) q
   ·exact(A6.mp ((h z).mpr (A5 _ c))).resolve_left λq=>Int.ne_of_gt (f z c) q
theorem xn(k:List Int)(x:Int):x∈cY k↔x∈k:=(List.mergeSort_perm k _).mem_iff
theorem zR(h:k.Nodup):(cY k).Pairwise (·<·):=by have d:(cY k).Pairwise λa b=>decide (a<=b)=true:=List.pairwise_mergeSort (λa b c p q=>by simp only[decide_eq_true_eq]at*;exact Int.le_trans p q) (λa b=>by simp only[Bool.or_eq_true,decide_eq_true_eq];exact Int.le_total _ _) k;have e:(cY k).Nodup:=(List.mergeSort_perm k _).nodup_iff.mpr h;exact(d.and e).imp λ⟨p,q⟩=>by simp only[decide_eq_true_eq]at p;omega
noncomputable def dZ(ns:List Nat):List Int:=ns.map λn=>((n:Nat):Int)
theorem mY(h:ns.Pairwise (·<·)):(dZ ns).Pairwise (·<·):=by unfold dZ;rw[List.pairwise_map];exact h.imp λh=>by exact Aa.2 h
theorem i6(ns:List Nat)(x:Int):x∈dZ ns↔∃n∈ns,((n:Nat):Int)=x:=by unfold dZ;exact Ag
theorem p7(ns:List Nat):(dZ ns).map D.sym=bm ns:=by unfold dZ bm;rw[List.map_map];rfl
theorem mZ(h:k.Nodup)(b:ns.Pairwise (·<·))(a:∀x,x∈k↔∃n∈ns,((n:Nat):Int)=x):cY k=dZ ns:=FJ (zR h) (mY b) λx=>by rw[xn,a,i6]
theorem gH(m:List (Int×D))(k:Int)(d:D)(x:Int):x∈(bL m k d).map (·.1)↔x∈m.map (·.1)\/x=k:=by
 unfold bL;by_cases h:(m.any λp=>decide (p.1=k))=true
 · rw[if_pos h];have e:(m.map λp=>if p.1=k then(p.1,d)else p).map (·.1)=m.map (·.1):=by rw[List.map_map];exact List.map_congr_left λp U=>by simp only[Function.comp_apply];split<;>rfl
   rw[e];refine⟨.inl,λq=>q.elim id λq=>?_⟩;obtain⟨p,a,e⟩:=List.any_eq_true.mp h;exact Ag.mpr ⟨p,a,by rw[q];exact of_decide_eq_true e⟩
 ·rw[if_neg h,List.map_append,AZ];exact⟨λq=>q.imp id λq=>AF.mp q,λq=>q.imp id λq=>AF.mpr q⟩
theorem gI:eM ns t=true↔∃n∈ns,((n:Nat):Int)=t:=by unfold eM;rw[List.any_eq_true];exact⟨λ⟨n,a,b⟩=>⟨n,a,of_decide_eq_true b⟩,λ⟨n,a,b⟩=>⟨n,a,AB b⟩⟩
def rY(vs:List Nat)(n:Nat)(x:Int):Prop:=cB vs n=some x\/(eV jP (ck vs n)=false/\x=((n+bC vs n:Nat):Int))
theorem Dc(vs:List Nat)(n:Nat):eV jP (gB vs n)=eV jP (ck vs n):=by
 unfold gB;by_cases h:ck vs n="none";·rw[if_pos h,h];decide+kernel
 ·rw[if_neg h]
theorem rV(vs:List Nat)(acc:List (Int×D))(n:Nat)(x:Int):x∈(fb vs acc n).map (·.1)↔x∈acc.map (·.1)\/(rY vs n x/\eM (bo vs 0) x=true):=by
 have b:x∈(iC (bo vs 0) acc (cB vs n)).map (·.1)↔x∈acc.map (·.1)\/(cB vs n=some x/\eM (bo vs 0) x=true):=by cases d:cB vs n with|none=>exact⟨.inl,λq=>q.elim id λq=>by cases q.1⟩|some t=>
     unfold iC;dsimp only;by_cases h:eM (bo vs 0) t=true;·rw[if_pos h,gH];exact⟨λq=>q.imp id λq=>(by subst q;exact⟨rfl,h⟩),λq=>q.imp id λq=>(A0 q.1).symm⟩
     ·rw[if_neg h];exact⟨.inl,λq=>q.elim id λq=>by cases q.1;exact(h q.2).elim⟩
 unfold fb xM;rw[Dc];by_cases a:eV jP (ck vs n)=true;·rw[if_pos a,b];unfold rY;rw[a];exact⟨λq=>q.imp id λq=>⟨.inl q.1,q.2⟩,λq=>q.imp id λq=>⟨q.1.resolve_right λz=>(by cases z.1),q.2⟩⟩
 · rw[if_neg a];have c:eV jP (ck vs n)=false:=by simpa using a
   by_cases h:eM (bo vs 0) ((n+bC vs n:Nat):Int)=true
   · rw[if_pos h,gH,b];unfold rY;constructor
     · rintro((q|q)|rfl);·exact .inl q
       ·exact .inr ⟨.inl q.1,q.2⟩
       ·exact .inr ⟨.inr ⟨c,rfl⟩,h⟩
     · rintro(q|⟨q|q,p⟩);·exact .inl (.inl q)
       ·exact .inl (.inr ⟨q,p⟩)
       ·exact .inr q.2
   ·rw[if_neg h,b];unfold rY;exact⟨λq=>q.imp id λq=>⟨.inl q.1,q.2⟩,λq=>q.imp id λ⟨q,p⟩=>⟨q.resolve_right λz=>h (z.2▸p),p⟩⟩
theorem sq(vs:List Nat)(x:Int):∀(ns:List Nat)(acc:List (Int×D)),x∈(ns.foldl (fb vs) acc).map (·.1)↔x∈acc.map (·.1)\/((∃n∈ns,rY vs n x)/\eM (bo vs 0) x=true):=by intro z;induction z with|nil=>intro acc;exact⟨.inl,λq=>q.elim id λq=>by obtain⟨⟨n,h,U⟩,U⟩:=q;exact absurd h A3⟩|cons n ns i=>
   intro acc;rw[List.foldl_cons,i,rV];constructor
   · rintro((q|q)|⟨⟨m,a,q⟩,p⟩);·exact .inl q
     ·exact .inr ⟨⟨n,A4,q.1⟩,q.2⟩
     ·exact .inr ⟨⟨m,A5 _ a,q⟩,p⟩
   · rintro(q|⟨⟨m,a,q⟩,p⟩);·exact .inl (.inl q)
     · rcases A6.mp a with rfl|a;·exact .inl (.inr ⟨q,p⟩)
       ·exact .inr ⟨⟨m,a,q⟩,p⟩
theorem qS(vs:List Nat):∀(ns:List Nat)(acc:List (Int×D)),(acc.map (·.1)).Nodup->((ns.foldl (fb vs) acc).map (·.1)).Nodup:=by intro z;induction z with|nil=>intro acc h;exact h|cons n ns i=>
   intro acc h;rw[List.foldl_cons];refine i _ ?_;have a:((iC (bo vs 0) acc (cB vs n)).map (·.1)).Nodup:=by cases cB vs n with|none=>exact h|some t=>unfold iC;dsimp only;split;exact ee h;exact h
   unfold fb xM;split;·exact a
   · split;·exact ee a
     ·exact a
theorem n8(i:Int):∀(a b:List D),dU i (a++b)=(dU i a||dU i b):=by intro z;induction z with|nil=>intro b;rw[List.nil_append];exact(Bool.false_or _).symm|cons d a c=>intro b;rw[List.cons_append];cases d<;>first|exact c b|(show(_==i||dU i (a++b))=((_==i||dU i a)||dU i b);rw[c b,Bool.or_assoc])
theorem sF(i:∀x∈vs,x∈pool)(g:n<vs.length)(fs:List D)(x:Int):dU x (c8 vs fs n)=true↔dU x fs=true\/rY vs n x:=by
 unfold c8;rw[vH i g];dsimp only;rw[n8,n8,Bool.or_eq_true,Bool.or_eq_true,or_assoc];refine or_congr Iff.rfl ?_;unfold rY;have e:dU x [mf (cB vs n)]=true↔cB vs n=some x:=by cases cB vs n with|none=>exact⟨λh=>(by exact Bool.noConfusion h),λh=>(by exact ca h)⟩|some t=>show((t==x)||false)=true↔_;rw[Bool.or_false,Ac];exact⟨λh=>h▸rfl,λh=>A0 h⟩
 have f:eV jP (ck vs n)=decide (ck vs n="on"\/ck vs n="call"):=by
   unfold eV;show((("on":PySem.Str)==ck vs n)||((("call":PySem.Str)==ck vs n)||false))=_;rw[Bool.or_false];by_cases a:ck vs n="on";·rw[a];decide+kernel
   · by_cases b:ck vs n="call";·rw[b];decide+kernel
     · have c:(("on":PySem.Str)==ck vs n)=false:=by simpa usingλh=>a h.symm
       have d:(("call":PySem.Str)==ck vs n)=false:=by simpa usingλh=>b h.symm
       rw[c,d];simp[a,b]
 rw[e,f];refine or_congr Iff.rfl ?_;by_cases h:ck vs n="on"\/ck vs n="call";·rw[if_pos h,AB h];exact⟨λh=>(by exact Bool.noConfusion h),λh=>(by cases h.1)⟩
 ·rw[if_neg h,AI h];show(((_:Int)==x)||false)=true↔_;rw[Bool.or_false,Ac];exact⟨λh=>⟨rfl,h.symm⟩,λh=>h.2.symm⟩
theorem gL(b:∀x∈vs,x∈pool)(x:Int):∀(ns:List Nat)(fs:List D),(∀n∈ns,n<vs.length)->(dU x (ns.foldl (c8 vs) fs)=true↔dU x fs=true\/∃n∈ns,rY vs n x):=by intro z;induction z with|nil=>intro fs _;exact⟨.inl,λq=>q.elim id λ⟨n,h,_⟩=>by exact absurd h A3⟩|cons n ns i=>
   intro fs h;rw[List.foldl_cons,i _ λm a=>h m (A5 _ a),sF b (h n A4)];constructor
   · rintro((q|q)|⟨m,a,q⟩);·exact .inl q
     ·exact .inr ⟨n,A4,q⟩
     ·exact .inr ⟨m,A5 _ a,q⟩
   · rintro(q|⟨m,a,q⟩);·exact .inl (.inl q)
     · rcases A6.mp a with rfl|a;·exact .inl (.inr q)
       ·exact .inr ⟨m,a,q⟩
theorem C8(d:∀x∈vs,x∈pool):cY ((if vs=[]then[]else IC vs).map (·.1))=dZ (cf vs):=by
 have c:(cf vs).Pairwise (·<·):=by unfold cf;exact(gO vs 0).1.filter _
 cases vs with|nil=>
   have a:bo [] 0=[]:=by rw[bo,dif_neg (by decide)]
   rw[if_pos rfl,List.map_nil,qp];unfold cf;rw[a];rfl|cons v g=>
   rw[if_neg (by simp)];generalize f:v::g=vs at*;have i:0<vs.length:=by rw[<-f];exact Nat.succ_pos _
   have a:bo vs 0=0::bo vs (0+bC vs 0):=by rw[bo,dif_pos i]
   refine mZ (qS vs _ _ (by simp)) c λx=>?_;unfold IC;rw[sq];have hs:ll (bm (bo vs 0))=[.sym 0]:=by rw[a];exact lp _ _
   unfold cf;constructor
   · rintro(q|⟨⟨n,k,q⟩,p⟩);·have:x=0:=AF.mp q;subst this;refine⟨0,List.mem_filter.mpr ⟨by rw[a];exact A4,?_⟩,rfl⟩;rw[gL d _ _ _ (d9 vs 0),hs];exact .inl rfl
     ·obtain⟨m,b,e⟩:=gI.mp p;refine⟨m,List.mem_filter.mpr ⟨b,?_⟩,e⟩;rw[e,gL d _ _ _ (d9 vs 0)];exact .inr ⟨n,k,q⟩
   · rintro⟨m,b,rfl⟩;obtain⟨j,h⟩:=List.mem_filter.mp b;rw[gL d _ _ _ (d9 vs 0),hs]at h;rcases h with h|h;·have h:(((0:Int)==(m:Int))||false)=true:=h;rw[Bool.or_false,Ac]at h;exact .inl (AF.mpr h.symm)
     ·exact .inr ⟨h,gI.mpr ⟨m,j,rfl⟩⟩
theorem lV(h:∀x∈vs,x∈pool)(a:vs.length<=11):br 15 1136 [bv,.bytes (bj vs)] (.slist (bm (cf vs))):=by have:=uW h a;rw[C8 h,p7]at this;exact this
noncomputable abbrev qx:List Addr:=[1131,1081,1053]
noncomputable abbrev ft:List PySem.Str:=["jump","branch"]
noncomputable abbrev fH:List PySem.Str:=["branch","on","call"]
noncomputable abbrev Az(acc:List (Int×D)):D:=.tuple ((cY (acc.map (·.1))).map D.sym)
section
variable{bg:List (Int×D)}{i t e:Int}{bs:Array UInt8}{ins d:D}{way:PySem.Str}
noncomputable abbrev DU(r:D)(way:PySem.Str)(d:D)(v:Bool):List Claim:=[.p (br 14 1131 [r] (.str way)),.p (br 14 1081 [r] d),ci .In (.str way) (.tuple (ft.map D.str)) v]
noncomputable abbrev Dk(r:D)(way:PySem.Str)(v:Bool):List Claim:=[ci .In (.str way) (.tuple (fH.map D.str)) v]
noncomputable abbrev B9(acc:List (Int×D)):List Claim:=[.le (acc.length+1) 64,.le ((cY (acc.map (·.1))).map D.sym).length NN]
theorem IQ:(b8 40 14 qx bG [bK i bs ins,.dict bg] [.d (.str way),.d d,.t false,.t false]).map (λr=>(r.a,r.c))=some (.ret (Az []),DU (bK i bs ins) way d false++Dk (bK i bs ins) way false++B9 []):=by kernel_rfl
theorem JY:(b8 40 14 qx bG [bK i bs ins,.dict bg] [.d (.str way),.d d,.t false,.t true,.d (.sym e),.b false]).map (λr=>(r.a,r.c))=some (.ret (Az []),DU (bK i bs ins) way d false++Dk (bK i bs ins) way true++[.p (br 14 1053 [bK i bs ins] (.sym e)),e9 bg e false]++B9 []):=by kernel_rfl
theorem JA:(b8 40 14 qx bG [bK i bs ins,.dict bg] [.d (.str way),.d d,.t false,.t true,.d (.sym e),.b true,.d (.sym e)]).map (λr=>(r.a,r.c))=some (.ret (Az (bL [] e (.bool true))),DU (bK i bs ins) way d false++Dk (bK i bs ins) way true++[.p (br 14 1053 [bK i bs ins] (.sym e)),e9 bg e true,.p (br 14 1053 [bK i bs ins] (.sym e)),.le 0 NN]++B9 (bL [] e (.bool true))):=by kernel_rfl
theorem JR:(b8 40 14 qx bG [bK i bs ins,.dict bg] [.d (.str way),.d (.sym t),.t true,.b false,.t false]).map (λr=>(r.a,r.c))=some (.ret (Az []),DU (bK i bs ins) way (.sym t) true++[e9 bg t false]++Dk (bK i bs ins) way false++B9 []):=by kernel_rfl
theorem II:(b8 40 14 qx bG [bK i bs ins,.dict bg] [.d (.str way),.d (.sym t),.t true,.b false,.t true,.d (.sym e),.b false]).map (λr=>(r.a,r.c))=some (.ret (Az []),DU (bK i bs ins) way (.sym t) true++[e9 bg t false]++Dk (bK i bs ins) way true++[.p (br 14 1053 [bK i bs ins] (.sym e)),e9 bg e false]++B9 []):=by kernel_rfl
theorem Kq:(b8 40 14 qx bG [bK i bs ins,.dict bg] [.d (.str way),.d (.sym t),.t true,.b false,.t true,.d (.sym e),.b true,.d (.sym e)]).map (λr=>(r.a,r.c))=some (.ret (Az (bL [] e (.bool true))),DU (bK i bs ins) way (.sym t) true++[e9 bg t false]++Dk (bK i bs ins) way true++[.p (br 14 1053 [bK i bs ins] (.sym e)),e9 bg e true,.p (br 14 1053 [bK i bs ins] (.sym e)),.le 0 NN]++B9 (bL [] e (.bool true))):=by kernel_rfl
theorem JL:(b8 40 14 qx bG [bK i bs ins,.dict bg] [.d (.str way),.d (.sym t),.t true,.b true,.t false]).map (λr=>(r.a,r.c))=some (.ret (Az (bL [] t (.bool true))),DU (bK i bs ins) way (.sym t) true++[e9 bg t true,.le 0 NN]++Dk (bK i bs ins) way false++B9 (bL [] t (.bool true))):=by kernel_rfl
theorem JQ:(b8 40 14 qx bG [bK i bs ins,.dict bg] [.d (.str way),.d (.sym t),.t true,.b true,.t true,.d (.sym e),.b false]).map (λr=>(r.a,r.c))=some (.ret (Az (bL [] t (.bool true))),DU (bK i bs ins) way (.sym t) true++[e9 bg t true,.le 0 NN]++Dk (bK i bs ins) way true++[.p (br 14 1053 [bK i bs ins] (.sym e)),e9 bg e false]++B9 (bL [] t (.bool true))):=by kernel_rfl
theorem J0:(b8 40 14 qx bG [bK i bs ins,.dict bg] [.d (.str way),.d (.sym t),.t true,.b true,.t true,.d (.sym e),.b true,.d (.sym e)]).map (λr=>(r.a,r.c))=some (.ret (Az (bL (bL [] t (.bool true)) e (.bool true))),DU (bK i bs ins) way (.sym t) true++[e9 bg t true,.le 0 NN]++Dk (bK i bs ins) way true++[.p (br 14 1053 [bK i bs ins] (.sym e)),e9 bg e true,.p (br 14 1053 [bK i bs ins] (.sym e)),.le (bL [] t (.bool true)).length NN]++B9 (bL (bL [] t (.bool true)) e (.bool true))):=by kernel_rfl
end
noncomputable def iq(vs:List Nat)(n:Nat):List D:=(if eV ft (ck vs n)=true then[mf (cB vs n)]else[])++(if eV fH (ck vs n)=true then[.sym ((n+bC vs n:Nat):Int)]else[])
noncomputable def xY(hs:List Nat)(vs:List Nat)(n:Nat):List (Int×D):=if eV ft (gB vs n)=true then iC hs [] (cB vs n)else[]
noncomputable def Cj(hs:List Nat)(vs:List Nat)(n:Nat)(acc:List (Int×D)):List (Int×D):=if eV fH (gB vs n)=true then(if eM hs ((n+bC vs n:Nat):Int)=true then bL acc ((n+bC vs n:Nat):Int) (.bool true)else acc)else acc
theorem qK(vs:List Nat)(n:Nat):eV ft (gB vs n)=eV ft (ck vs n)/\eV fH (gB vs n)=eV fH (ck vs n):=by
 unfold gB;by_cases h:ck vs n="none";·rw[if_pos h,h];exact⟨by decide+kernel,by decide+kernel⟩
 ·rw[if_neg h];exact⟨rfl,rfl⟩
theorem fj(h:eV ws x=b):(ci .In (.str x) (.tuple (ws.map D.str)) b).holds:=λA U U=>by rw[<-h];exact(tA ws).1
theorem j4(e:∀x∈vs,x∈pool)(d:n<vs.length)(h:eV ft (gB vs n)=true):∃t,cB vs n=some t:=by
 rw[(qK vs n).1]at h;rcases mD e d with⟨a,U⟩|⟨r,wd,f,ops,a,b,U,U,U,U,U,c,U⟩;·rw[a]at h;exact absurd h (by decide+kernel)
 ·rw[b]at h;cases a<;>first|(exact absurd h (by decide+kernel))|exact⟨_,c⟩
theorem zh(hs vs:List Nat)(n:Nat):(xY hs vs n).length<=1/\∀acc,(Cj hs vs n acc).length<=acc.length+1:=by
 constructor
 · unfold xY;split;·exact oR hs [] _
   ·exact AW _
 · intro acc;unfold Cj;split
   · split;·exact db _ _ _
     ·exact AV _
   ·exact AV _
theorem ij(h:acc.length<=2):bx (B9 acc):=by refine⟨by show acc.length+1<=64;exact wk (AE h) rfl,?_,trivial⟩;show((cY (acc.map (·.1))).map D.sym).length<=16777216;rw[AM,show(cY (acc.map (·.1))).length=(acc.map (·.1)).length from(List.mergeSort_perm _ _).length_eq,AM];exact wk h rfl
section
variable{vs hs:List Nat}{n:Nat}
theorem r3(k:∀x∈vs,x∈pool)(o:vs.length<=11)(j:n<vs.length):br 15 1171 [dg vs n,.dict (cy hs)] (Az (Cj hs vs n (xY hs vs n))):=by have a:=(Ak j o).to (m:=14) (by decide);have c:=(yS k j).to (m:=14) (by decide);have b:=(uv j o).to (m:=14) (by decide);obtain⟨s1,s⟩:=zh hs vs n;have s3:=s (xY hs vs n);have s0:=s [];have p:dg vs n=bK n (bj ((vs.drop n).take (bC vs n))) (fZ vs n):=rfl;have z:(0:Nat)<=NN:=AW _;have g:=fz hs;rw[p]at a c b⊢;unfold xY Cj at*;cases d:eV fH (gB vs n)with
 |false=>rw[if_neg (by decide)];cases h:eV ft (gB vs n)with|false=>rw[if_neg (by decide)];exact bp bG rfl IQ (bx.app.mpr ⟨bx.app.mpr ⟨⟨c,a,fj h,trivial⟩,fj d,trivial⟩,ij (by decide)⟩)|true=>obtain⟨t,e⟩:=j4 k j h;rw[if_pos rfl,e];rw[e]at a;unfold iC;dsimp only;cases f:eM hs t with|false=>rw[if_neg (by decide)];exact bp bG rfl JR (bx.app.mpr ⟨bx.app.mpr ⟨bx.app.mpr ⟨⟨c,a,fj h,trivial⟩,(g t).trans f,trivial⟩,fj d,trivial⟩,ij (by decide)⟩)|true=>rw[if_pos rfl];exact bp bG rfl JL (bx.app.mpr ⟨bx.app.mpr ⟨bx.app.mpr ⟨⟨c,a,fj h,trivial⟩,(g t).trans f,z,trivial⟩,fj d,trivial⟩,ij (Nat.le_succ_of_le (db _ _ _))⟩)
 |true=>rw[if_pos rfl];cases i:eM hs ((n+bC vs n:Nat):Int)with
  |false=>rw[if_neg (by decide)];cases h:eV ft (gB vs n)with|false=>rw[if_neg (by decide)];exact bp bG rfl JY (bx.app.mpr ⟨bx.app.mpr ⟨bx.app.mpr ⟨⟨c,a,fj h,trivial⟩,fj d,trivial⟩,b,(g _).trans i,trivial⟩,ij (by decide)⟩)|true=>obtain⟨t,e⟩:=j4 k j h;rw[if_pos rfl,e];rw[e]at a;unfold iC;dsimp only;cases f:eM hs t with|false=>rw[if_neg (by decide)];exact bp bG rfl II (bx.app.mpr ⟨bx.app.mpr ⟨bx.app.mpr ⟨bx.app.mpr ⟨⟨c,a,fj h,trivial⟩,(g t).trans f,trivial⟩,fj d,trivial⟩,b,(g _).trans i,trivial⟩,ij (by decide)⟩)|true=>rw[if_pos rfl];exact bp bG rfl JQ (bx.app.mpr ⟨bx.app.mpr ⟨bx.app.mpr ⟨bx.app.mpr ⟨⟨c,a,fj h,trivial⟩,(g t).trans f,z,trivial⟩,fj d,trivial⟩,b,(g _).trans i,trivial⟩,ij (Nat.le_succ_of_le (db _ _ _))⟩)
  |true=>rw[if_pos rfl];cases h:eV ft (gB vs n)with|false=>rw[if_neg (by decide)];exact bp bG rfl JA (bx.app.mpr ⟨bx.app.mpr ⟨bx.app.mpr ⟨⟨c,a,fj h,trivial⟩,fj d,trivial⟩,b,(g _).trans i,b,z,trivial⟩,ij (Nat.le_succ_of_le (db _ _ _))⟩)|true=>obtain⟨t,e⟩:=j4 k j h;rw[if_pos rfl,e];rw[e]at a;unfold iC;dsimp only;cases f:eM hs t with|false=>rw[if_neg (by decide)];exact bp bG rfl Kq (bx.app.mpr ⟨bx.app.mpr ⟨bx.app.mpr ⟨bx.app.mpr ⟨⟨c,a,fj h,trivial⟩,(g t).trans f,trivial⟩,fj d,trivial⟩,b,(g _).trans i,b,z,trivial⟩,ij (Nat.le_succ_of_le (db _ _ _))⟩)|true=>rw[if_pos rfl];have l:=db [] t (.bool true);have q:=db (bL [] t (.bool true)) ((n+bC vs n:Nat):Int) (.bool true);rw[List.length_nil]at l;exact bp bG rfl J0 (bx.app.mpr ⟨bx.app.mpr ⟨bx.app.mpr ⟨bx.app.mpr ⟨⟨c,a,fj h,trivial⟩,(g t).trans f,z,trivial⟩,fj d,trivial⟩,b,(g _).trans i,b,by show _<=16777216;exact wk l rfl,trivial⟩,ij (by exact A1 q (AE l))⟩)
theorem HH(u:∀x∈vs,x∈pool)(s:n<vs.length)(o:hs.Pairwise (·<·)):cY ((Cj hs vs n (xY hs vs n)).map (·.1))=dZ (hs.filter λh=>dU h (iq vs n)):=by
 have f:((xY hs vs n).map (·.1)).Nodup:=by
   unfold xY;split;·cases cB vs n with|none=>exact List.nodup_nil|some t=>unfold iC;dsimp only;split;exact ee List.nodup_nil;exact List.nodup_nil
   ·exact List.nodup_nil
 have j:((Cj hs vs n (xY hs vs n)).map (·.1)).Nodup:=by
   unfold Cj;split
   · split;·exact ee f
     ·exact f
   ·exact f
 have p:∀x,x∈(xY hs vs n).map (·.1)↔eV ft (ck vs n)=true/\cB vs n=some x/\eM hs x=true:=by
   intro x;unfold xY;rw[(qK vs n).1];by_cases h:eV ft (ck vs n)=true;·rw[if_pos h];cases cB vs n with|none=>exact⟨λq=>(by exact absurd q A3),λq=>(by cases q.2.1)⟩|some t=>
       unfold iC;dsimp only;by_cases d:eM hs t=true;·rw[if_pos d,gH];exact⟨λq=>q.elim (λq=>by exact absurd q A3) λq=>(by subst q;exact⟨h,rfl,d⟩),λq=>.inr (A0 q.2.1).symm⟩
       ·rw[if_neg d];exact⟨λq=>(by exact absurd q A3),λq=>(by cases q.2.1;exact(d q.2.2).elim)⟩
   ·rw[if_neg h];exact⟨λq=>(by exact absurd q A3),λq=>(h q.1).elim⟩
 have r:∀x,x∈(Cj hs vs n (xY hs vs n)).map (·.1)↔x∈(xY hs vs n).map (·.1)\/(eV fH (ck vs n)=true/\x=((n+bC vs n:Nat):Int)/\eM hs x=true):=by
   intro x;unfold Cj;rw[(qK vs n).2];by_cases h:eV fH (ck vs n)=true
   · rw[if_pos h];by_cases d:eM hs ((n+bC vs n:Nat):Int)=true;·rw[if_pos d,gH];exact⟨λq=>q.imp id λq=>⟨h,q,q▸d⟩,λq=>q.imp id λq=>q.2.1⟩
     ·rw[if_neg d];exact⟨.inl,λq=>q.elim id λq=>(d (q.2.1▸q.2.2)).elim⟩
   ·rw[if_neg h];exact⟨.inl,λq=>q.elim id λq=>(h q.1).elim⟩
 have i:∀x:Int,dU x (iq vs n)=true↔(eV ft (ck vs n)=true/\cB vs n=some x)\/(eV fH (ck vs n)=true/\x=((n+bC vs n:Nat):Int)):=by
   intro x;unfold iq;rw[n8,Bool.or_eq_true];refine or_congr ?_ ?_
   · by_cases h:eV ft (ck vs n)=true;·rw[if_pos h];cases cB vs n with|none=>exact⟨λq=>(by exact Bool.noConfusion q),λq=>(by cases q.2)⟩|some t=>show((t==x)||false)=true↔_;rw[Bool.or_false,Ac];exact⟨λq=>⟨h,q▸rfl⟩,λq=>A0 q.2⟩
     ·rw[if_neg h];exact⟨λq=>(by exact Bool.noConfusion q),λq=>(h q.1).elim⟩
   · by_cases h:eV fH (ck vs n)=true;·rw[if_pos h];show(((_:Int)==x)||false)=true↔_;rw[Bool.or_false,Ac];exact⟨λq=>⟨h,q.symm⟩,λq=>q.2.symm⟩
     ·rw[if_neg h];exact⟨λq=>(by exact Bool.noConfusion q),λq=>(h q.1).elim⟩
 refine mZ j (o.filter _) λx=>?_;rw[r,p];constructor
 · rintro(⟨a,b,c⟩|⟨a,b,c⟩);·obtain⟨m,g,e⟩:=gI.mp c;exact⟨m,List.mem_filter.mpr ⟨g,by rw[e,i];exact .inl ⟨a,b⟩⟩,e⟩
   ·obtain⟨m,g,e⟩:=gI.mp c;exact⟨m,List.mem_filter.mpr ⟨g,by rw[e,i];exact .inr ⟨a,b⟩⟩,e⟩
 ·rintro⟨m,g,rfl⟩;obtain⟨k,l⟩:=List.mem_filter.mp g;rw[i]at l;exact l.imp (λq=>⟨q.1,q.2,gI.mpr ⟨m,k,rfl⟩⟩) λq=>⟨q.1,q.2,gI.mpr ⟨m,k,rfl⟩⟩
theorem tT(b:∀x∈vs,x∈pool)(d:vs.length<=11)(a:n<vs.length)(c:hs.Pairwise (·<·)):br 15 1171 [dg vs n,.dict (cy hs)] (.tuple (bm (hs.filter λh=>dU h (iq vs n)))):=by have:=r3 (hs:=hs) b d a;unfold Az at this;rw[HH b a c,p7]at this;exact this
end
noncomputable abbrev askB:List Addr:=[1110,1136,1053,1171]
noncomputable abbrev Cq:Ct:=⟨16,cb (kT 124),[],askB⟩
noncomputable abbrev El:List Stmt:=jB (cJ (bz (kT 124)) 2 pz)
noncomputable abbrev HA(v:Array UInt8)(bg:List (Int×D))(b:D)(fs:List D):Sig:=[("iset",.v bv),("octets",.v (.bytes v)),("begins",.v (.dict bg)),("begin",.v b),("found",.o (.list fs) none)]
noncomputable abbrev ko(v:Array UInt8)(bg:List (Int×D))(b:D)(fs:List D)(r:D):Sig:=[("iset",.v bv),("octets",.v (.bytes v)),("begins",.v (.dict bg)),("begin",.v b),("found",.o (.list fs) none),("row",.v r)]
noncomputable def uK(b e:Int)(f:D):D:=.inst 1160 [("begin",.sym b),("end",.sym e),("follows",f)]
noncomputable abbrev yb(d:D):Sig:=[("at",.v d)]
noncomputable abbrev KV:PySem.Expr:=w8 (sT (cJ (bz (kT 124)) 0 pz)) 0
noncomputable abbrev JN:Ct:=⟨16,sR (cb (kT 124)) KV,[],askB⟩
section
variable{v:Array UInt8}{fs es hs rows:List D}{bg:List (Int×D)}{b i e:Int}{bs:Array UInt8}{ins f:D}
theorem GI:(dj (cr 40) Cq (El.take 1) (ko v bg (.sym b) fs (bK i bs ins)) [.b true]).map (λr=>(r.σ,r.c))=some (ko v bg (.sym i) fs (bK i bs ins),[e9 bg i true]):=by kernel_rfl
theorem CU:(dj (cr 40) Cq (El.take 1) (ko v bg (.sym b) fs (bK i bs ins)) [.b false]).map (λr=>(r.σ,r.c))=some (ko v bg (.sym b) fs (bK i bs ins),[e9 bg i false]):=by kernel_rfl
theorem GG:((cr 40).ss Cq (El.drop 1) (ko v bg (.sym b) fs (bK i bs ins)) [.d (.sym e),.b true,.d (.sym e),.d f]).map (λr=>(r.a,r.σ,r.c))=some (.next,ko v bg (.sym b) (fs++[uK b e f]) (bK i bs ins),[.p (br 16 1053 [bK i bs ins] (.sym e)),e9 bg e true,.p (br 16 1053 [bK i bs ins] (.sym e)),.p (br 16 1171 [bK i bs ins,.dict bg] f),.le fs.length NN]):=by kernel_rfl
theorem Cf:((cr 40).ss Cq (El.drop 1) (ko v bg (.sym b) fs (bK i bs ins)) [.d (.sym e),.b false,.d (.sym e),.b true,.d (.sym e),.d f]).map (λr=>(r.a,r.σ,r.c))=some (.next,ko v bg (.sym b) (fs++[uK b e f]) (bK i bs ins),[.p (br 16 1053 [bK i bs ins] (.sym e)),e9 bg e false,.p (br 16 1053 [bK i bs ins] (.sym e)),.le v.size NN,.p ((e==(v.size:Int))=true),.p (br 16 1053 [bK i bs ins] (.sym e)),.p (br 16 1171 [bK i bs ins,.dict bg] f),.le fs.length NN]):=by kernel_rfl
theorem F5:((cr 40).ss Cq (El.drop 1) (ko v bg (.sym b) fs (bK i bs ins)) [.d (.sym e),.b false,.d (.sym e),.b false]).map (λr=>(r.a,r.σ,r.c))=some (.next,ko v bg (.sym b) fs (bK i bs ins),[.p (br 16 1053 [bK i bs ins] (.sym e)),e9 bg e false,.p (br 16 1053 [bK i bs ins] (.sym e)),.le v.size NN,.p ((e==(v.size:Int))=false)]):=by kernel_rfl
theorem GJ(d:D):(nV Cq (eU (cJ (bz (kT 124)) 2 pz) pz) d (HA v bg (.sym b) fs) []).map (λr=>(r.σ,r.c))=some (ko v bg (.sym b) fs d,[]):=by kernel_rfl
theorem GQ:((cr 40).d JN (dR KV) (yb (.sym i)) []).map (λr=>(r.a,r.σ,r.c))=some (D.tuple [.sym i,.bool true],yb (.sym i),[]):=by kernel_rfl
theorem GX(d:D):(b8 40 16 askB fU [bv,.bytes v] [.d (.slist hs),.l es (yb d),.td (.dict bg),.o .none (.list rows),.w .next (HA v bg (.sym b) fs)]).map (λr=>(r.a,r.c))=some (.reto (.list fs),[.p (br 16 1136 [bv,.bytes v] (.slist hs)),.p (uT JN "at" [] (dR KV) hs [] es (yb d)),.le es.length NN,.p (∀A:Around,A.handled=none->A.units+8<cLine->Io A (.type "dict") [.list es] (.dict bg)),.p (bP 16 1110 [bv,.bytes v] (.list rows)),.p (x8 Cq (eU (cJ (bz (kT 124)) 2 pz) pz) El rows (HA v bg (.int 0) []) .next (HA v bg (.sym b) fs))]):=by kernel_rfl
theorem EL:(b8 40 16 askB fU [bv,.bytes #[]] [.d (.slist []),.o .none (.list [])]).map (λr=>(r.a,r.c))=some (.reto (.list []),[.p (br 16 1136 [bv,.bytes #[]] (.slist [])),.le 0 NN,.le 0 NN,.p (bP 16 1110 [bv,.bytes #[]] (.list []))]):=by kernel_rfl
end
noncomputable def vl(vs hs:List Nat)(n:Nat):D:=.tuple (bm (hs.filter λh=>dU h (iq vs n)))
noncomputable def gU(vs hs:List Nat)(p:Int×List D)(n:Nat):Int×List D:=let b:=if eM hs n=true then(n:Int)else p.1;if eM hs ((n+bC vs n:Nat):Int)=true\/n+bC vs n=vs.length then(b,p.2++[uK b ((n+bC vs n:Nat):Int) (vl vs hs n)])else(b,p.2)
theorem uO(vs hs:List Nat)(p:Int×List D)(n:Nat):(gU vs hs p n).2.length<=p.2.length+1:=by
 unfold gU;dsimp only;split;·rw[AX];exact AT _
 ·exact AV _
section
variable{vs hs:List Nat}
theorem Ew(y:∀x∈vs,x∈pool)(l:vs.length<=11)(u:hs.Pairwise (·<·))(r:n<vs.length)(t:p.2.length<=1000)(a:Fm Cq):dW a.A a.env a.g El (ko (bj vs) (cy hs) (.sym p.1) p.2 (dg vs n)) .next (HA (bj vs) (cy hs) (.sym (gU vs hs p n).1) (gU vs hs p n).2):=by
 have h:=(uv r l).to (m:=16) (by decide);have j:=(tT y l r u).to (m:=16) (by decide);have q:p.2.length<=NN:=by show _<=16777216;exact wk t rfl
 have c:(bj vs).size<=NN:=by rw[bw];exact A1 l (by decide)
 have s:dg vs n=bK n (bj ((vs.drop n).take (bC vs n))) (fZ vs n):=rfl;have g:=fz hs;rw[s]at h j⊢;have p1:fc a.A a.env a.g (El.take 1) (ko (bj vs) (cy hs) (.sym p.1) p.2 (bK n (bj ((vs.drop n).take (bC vs n))) (fZ vs n))) (ko (bj vs) (cy hs) (.sym (if eM hs n=true then(n:Int)else p.1)) p.2 (bK n (bj ((vs.drop n).take (bC vs n))) (fZ vs n))):=by cases o:eM hs n with|true=>rw[if_pos rfl];exact cL a GI ⟨(g _).trans o,trivial⟩ rfl rfl|false=>rw[if_neg (by decide)];exact cL a CU ⟨(g _).trans o,trivial⟩ rfl rfl
 unfold gU;dsimp only;generalize(if eM hs n=true then(n:Int)else p.1)=b at*;cases k:eM hs ((n+bC vs n:Nat):Int)with|true=>rw[if_pos (.inl rfl)];exact dW.pre (dz p1 (cc a GG ⟨h,(g _).trans k,h,j,q,trivial⟩ rfl rfl)) rfl|false=>
  by_cases d:n+bC vs n=vs.length;·rw[if_pos (.inr d)];exact dW.pre (dz p1 (cc a Cf ⟨h,(g _).trans k,h,c,by show(((n+bC vs n:Nat):Int)==((bj vs).size:Int))=true;rw[bw,d];exact Af _,h,j,q,trivial⟩ rfl rfl)) rfl
  ·rw[if_neg (by simp[d])];exact dW.pre (dz p1 (cc a F5 ⟨h,(g _).trans k,h,c,by show(((n+bC vs n:Nat):Int)==((bj vs).size:Int))=false;rw[bw];exact beq_eq_false_iff_ne.mpr (by exactλz=>d (Int.ofNat.inj z)),trivial⟩ rfl rfl)) rfl
theorem CN(k:∀x∈vs,x∈pool)(m:vs.length<=11)(j:hs.Pairwise (·<·))(a:Fm Cq):∀(ns:List Nat)(p:Int×List D)(c:Nat),(∀x∈ns,x<vs.length)->p.2.length<=c->c+ns.length<=1000->d6 a.A a.env a.g (eU (cJ (bz (kT 124)) 2 pz) pz) El (ns.map (dg vs)) (HA (bj vs) (cy hs) (.sym p.1) p.2) .next (HA (bj vs) (cy hs) (.sym (ns.foldl (gU vs hs) p).1) (ns.foldl (gU vs hs) p).2):=by intro ns;induction ns with|nil=>intro p c _ _ _;exact .nil|cons n ns o=>intro p c d g h;rw[AJ]at h;rw[AS,List.foldl_cons];exact .next (ie a (GJ (dg vs n)) trivial rfl rfl) (Ew k m j (d n A4) (by exact A1 g (A1 (A7 _ _) h)) a) (.inl rfl) (o _ (c+1) (λx l=>d x (A5 _ l)) (by have:=uO vs hs p n;exact A1 this (AE g)) (by exact A1 (AL (Nat.succ_add_eq_add_succ _ _)) h))
noncomputable def D2(vs:List Nat):Int×List D:=(bo vs 0).foldl (gU vs (cf vs)) (0,[])
theorem d6.preS(h:d6 A env g t b (d::ds) τ fl σ')(hs:xF σ τ):d6 A env g t b (d::ds) σ fl σ':=by cases h with|next a hb c j=>exact .next (a.pre hs) hb c j|ret a hb=>exact .ret (a.pre hs) hb
theorem jU(vs:List Nat):(cf vs).Pairwise (·<·):=by unfold cf;exact(gO vs 0).1.filter _
theorem qc(vs:List Nat):(cf vs).length<=vs.length:=by have:=eD vs 0;unfold cf;exact A1 (List.length_filter_le _ _) (by assumption)
theorem ol(d:∀x∈vs,x∈pool)(a:0<vs.length):∃hs,cf vs=0::hs:=by
 have h:bo vs 0=0::bo vs (0+bC vs 0):=by rw[bo,dif_pos a]
 have hs:ll (bm (bo vs 0))=[.sym 0]:=by rw[h];exact lp _ _
 have c:dU ((0:Nat):Int) ((bo vs 0).foldl (c8 vs) (ll (bm (bo vs 0))))=true:=by rw[gL d _ _ _ (d9 vs 0),hs];exact .inl rfl
 unfold cf;generalize(bo vs 0).foldl (c8 vs) (ll (bm (bo vs 0)))=fs at*;rw[h,List.filter_cons,if_pos c];exact⟨_,rfl⟩
theorem wQ(k:∀x∈vs,x∈pool)(c:vs.length<=11):bP 17 1176 [bv,.bytes (bj vs)] (.list (D2 vs).2):=by
 have y:=eD vs 0;have g:=qc vs;have h:=(lV k c).to (m:=16) (by decide);have a:=(eF k c).to (m:=16) (by decide);by_cases l:0<vs.length
 · have j:bo vs 0=0::bo vs (0+bC vs 0):=by rw[bo,dif_pos l]
   obtain⟨z,p⟩:=ol k l;refine dF fU rfl (GX (hs:=bm (cf vs)) (rows:=(bo vs 0).map (dg vs)) (es:=(cf vs).map λn=>.tuple [.sym ((n:Nat):Int),.bool true]) (bg:=cy (cf vs)) (b:=(D2 vs).1) (fs:=(D2 vs).2) (jk (λn:Nat=>D.sym (n:Int)) (cf vs) .none)) ⟨h,ia rfl rfl λs=>?_,?_,λA u U=>lU u (tz (jU vs)) (by exact A1 g c),a,iF rfl rfl λs=>?_,trivial⟩;·rw[p];exact jJ (sg:=yb) (s0:=[]) (f:=λn:Nat=>D.sym (n:Int)) (λd t=>rfl) (λt=>rfl) 0 _ λm U=>lL s (GQ (i:=m)) trivial rfl rfl
   ·rw[AM];show _<=16777216;exact wk (A1 g c) rfl
   ·have:=CN k c (jU vs) s (bo vs 0) (0,[]) 0 (d9 vs 0) (AT _) (by exact wk (A1 (AL (Nat.zero_add _)) (A1 y c)) rfl);unfold D2;rw[j,AS]at this⊢;refine d6.preS this (.cons (.inl rfl) (.cons (.inl rfl) (.cons (.inl rfl) (.cons (.inr (.inl ⟨0,rfl,rfl⟩)) (.refl _)))))
 · have q:vs=[]:=by cases vs with|nil=>rfl|cons v r=>exact(l (Nat.succ_pos _)).elim
   subst q;have j:bo [] 0=[]:=by rw[bo,dif_neg (by decide)]
   have o:cf []=[]:=by unfold cf;rw[j];rfl
   have hb:D2 []=(0,[]):=by unfold D2;rw[j];rfl
   rw[o]at h;rw[j]at a;rw[hb];exact dF fU rfl EL ⟨h,AW _,AW _,a,trivial⟩
end
theorem xO:∀x s,bq (σ.take m) x=some s->bq σ x=some s:=λx s h=>by have:=mU (e:=σ.drop m) x s h;rwa[List.take_append_drop]at this
theorem cT{σ τ:Sig}{o:List Orc}{cl:List Claim}{k n m:Nat}{sc:Scope}{ask:List Addr}{a:List Stmt}{fl:Fl}(b:Fm ⟨k,sc,[],ask⟩)(h:((cr n).ss ⟨k,sc,[],ask⟩ a σ o).map (λr=>(r.a,r.σ.take m,r.c))=some (fl,τ,cl))(g:bx cl)(d:bT σ=true)(f:bT τ=true)(j:mG fl=true):dW b.A b.env b.g a σ fl τ:=by
 obtain⟨r,e,q⟩:=AD.mp h;simp only[Prod.mk.injEq]at q;have:=r.h (by rw[q.2.2];exact g) b;rw[q.1,fh rfl b,eO d]at this;refine this.weak (λx s e=>?_) j;have c:(pin (λU=>none) r.σ).take m=τ:=by rw[<-eO f,<-q.2.1];unfold pin;rw[List.map_take]
 exact xO (m:=m) x s (by rw[c];exact e)
noncomputable abbrev FE:List Addr:=[962,1032,1074]
noncomputable abbrev jr:Ct:=⟨15,cb (kT 125),[],FE⟩
noncomputable abbrev Dp:PySem.Expr:=Fr (cJ (bz (kT 125)) 1 pz) pz
noncomputable abbrev jZ:List Stmt:=B6 (cJ (bz (kT 125)) 1 pz)
noncomputable abbrev d7(v:Array UInt8)(i:Int)(td:List D)(acc:List (Int×D)):Sig:=[("iset",.v bv),("octets",.v (.bytes v)),("at",.v (.sym i)),("todo",.o (.list td) none),("found",.o (.dict acc) none)]
section
variable{v:Array UInt8}{i t len dist:Int}{td r ops:List D}{dd:D}{acc:List (Int×D)}{fr:FormR}{way:PySem.Str}
noncomputable abbrev ue(td r:List D)(t:Int):List Claim:=[.p (td=r++[.sym t]),.le r.length 16777215]
noncomputable abbrev Jv(v:Array UInt8)(t:Int):List Claim:=[.p (decide (0<=t)=true),.le v.size NN,.p (decide (t<(v.size:Int))=true)]
noncomputable abbrev KB(v:Array UInt8)(t:Int)(d:D):Claim:=.p (br 15 962 [bv,.bytes v,.sym t] d)
theorem BG(b:Bool):((cr 40).t jr Dp (d7 v i td acc) [.t b]).map (λr=>(r.a,r.σ,r.c))=some (b,d7 v i td acc,[ci .NotEq (.list td) (.list []) b]):=by kernel_rfl
theorem Hd:((cr 40).ss jr jZ (d7 v i td acc) [.o (.sym t) (.list r),.b false,.b true]).map (λr=>(r.a,r.σ.take 5,r.c))=some (.cont,d7 v i r acc,ue td r t++[.p (decide (0<=t)=false),e9 acc t true]):=by kernel_rfl
theorem Gh:((cr 40).ss jr jZ (d7 v i td acc) [.o (.sym t) (.list r),.b false,.b false]).map (λr=>(r.a,r.σ.take 5,r.c))=some (.cont,d7 v i r acc,ue td r t++[.p (decide (0<=t)=false),e9 acc t false]):=by kernel_rfl
theorem Dh:((cr 40).ss jr jZ (d7 v i td acc) [.o (.sym t) (.list r),.b true,.b false,.b true]).map (λr=>(r.a,r.σ.take 5,r.c))=some (.cont,d7 v i r acc,ue td r t++[.p (decide (0<=t)=true),.le v.size NN,.p (decide (t<(v.size:Int))=false),e9 acc t true]):=by kernel_rfl
theorem CK:((cr 40).ss jr jZ (d7 v i td acc) [.o (.sym t) (.list r),.b true,.b false,.b false]).map (λr=>(r.a,r.σ.take 5,r.c))=some (.cont,d7 v i r acc,ue td r t++[.p (decide (0<=t)=true),.le v.size NN,.p (decide (t<(v.size:Int))=false),e9 acc t false]):=by kernel_rfl
theorem EP:((cr 40).ss jr jZ (d7 v i td acc) [.o (.sym t) (.list r),.b true,.b true,.d .none,.b true]).map (λr=>(r.a,r.σ.take 5,r.c))=some (.cont,d7 v i r acc,ue td r t++Jv v t++[KB v t .none,e9 acc t true]):=by kernel_rfl
theorem Ed:((cr 40).ss jr jZ (d7 v i td acc) [.o (.sym t) (.list r),.b true,.b true,.d .none,.b false]).map (λr=>(r.a,r.σ.take 5,r.c))=some (.cont,d7 v i r acc,ue td r t++Jv v t++[KB v t .none,e9 acc t false]):=by kernel_rfl
theorem Go:((cr 40).ss jr jZ (d7 v i td acc) [.o (.sym t) (.list r),.b true,.b true,.d (fe fr ops len),.b true]).map (λr=>(r.a,r.σ.take 5,r.c))=some (.cont,d7 v i r acc,ue td r t++Jv v t++[KB v t (fe fr ops len),e9 acc t true]):=by kernel_rfl
noncomputable abbrev It(v:Array UInt8)(td r:List D)(t:Int)(acc:List (Int×D))(fr:FormR)(ops:List D)(len:Int)(way:PySem.Str)(dd:D)(a:Bool):List Claim:=ue td r t++Jv v t++[KB v t (fe fr ops len),e9 acc t false,.le acc.length NN,.p (br 15 1032 [.str fr.1] (.str way)),.p (br 15 1074 [cV fr ops] dd),ci .In (.str way) (.tuple (ft.map D.str)) a]
noncomputable abbrev Jj(way:PySem.Str)(a:Bool):Claim:=ci .In (.str way) (.tuple ((["branch","call","on"]:List PySem.Str).map D.str)) a
theorem MG:((cr 40).ss jr jZ (d7 v i td acc) [.o (.sym t) (.list r),.b true,.b true,.d (fe fr ops len),.b false,.d (.str way),.d dd,.t false,.t false]).map (λr=>(r.a,r.σ.take 5,r.c))=some (.next,d7 v i r (bL acc t (.bool true)),It v td r t acc fr ops len way dd false++[Jj way false]):=by kernel_rfl
theorem L5:((cr 40).ss jr jZ (d7 v i td acc) [.o (.sym t) (.list r),.b true,.b true,.d (fe fr ops len),.b false,.d (.str way),.d dd,.t false,.t true]).map (λr=>(r.a,r.σ.take 5,r.c))=some (.next,d7 v i (r++[.sym (t+len)]) (bL acc t (.bool true)),It v td r t acc fr ops len way dd false++[Jj way true,.le r.length NN]):=by kernel_rfl
theorem Mk:((cr 40).ss jr jZ (d7 v i td acc) [.o (.sym t) (.list r),.b true,.b true,.d (fe fr ops len),.b false,.d (.str way),.d (.sym dist),.t true,.t true,.t false]).map (λr=>(r.a,r.σ.take 5,r.c))=some (.next,d7 v i (r++[.sym (t+len+dist)]) (bL acc t (.bool true)),It v td r t acc fr ops len way (.sym dist) true++[ci .IsNot (.sym dist) .none true,.le r.length NN,Jj way false]):=by kernel_rfl
theorem LS:((cr 40).ss jr jZ (d7 v i td acc) [.o (.sym t) (.list r),.b true,.b true,.d (fe fr ops len),.b false,.d (.str way),.d (.sym dist),.t true,.t true,.t true]).map (λr=>(r.a,r.σ.take 5,r.c))=some (.next,d7 v i (r++[D.sym (t+len+dist)]++[.sym (t+len)]) (bL acc t (.bool true)),It v td r t acc fr ops len way (.sym dist) true++[ci .IsNot (.sym dist) .none true,.le r.length NN,Jj way true,.le (r++[D.sym (t+len+dist)]).length NN]):=by kernel_rfl
theorem xQ{r:FormR}:(b8 40 9 [] cW [cV r []] []).map (λr=>(r.a,r.c))=some (.ret .none,[]):=by kernel_rfl
theorem p9{r:FormR}:(b8 40 9 [] cW [cV r [eS dist]] []).map (λr=>(r.a,r.c))=some (.ret (.sym dist),[]):=by kernel_rfl
theorem Kj:(b8 40 15 FE gu [bv,.bytes v,.sym i] [.w .next (d7 v i [] acc)]).map (λr=>(r.a,r.c))=some (.ret (.slist ((cY (acc.map (·.1))).map D.sym)),[.p (um jr Dp jZ (d7 v i [.sym i] []) .next (d7 v i [] acc)),.le (acc.length+1) 64]):=by kernel_rfl
end
noncomputable def fg(vs f:List Nat)(t:Int):Bool:=decide (0<=t)&&(decide (t<vs.length)&&(!eM f t&&!(ck vs t.toNat=="none")))
noncomputable def gl(vs:List Nat)(n:Nat)(r:List Int):List Int:=let a:=if eV ft (ck vs n)=true then(match cB vs n with|some t=>t::r|none=>r)else r;if eV fH (ck vs n)=true then((n+bC vs n:Nat):Int)::a else a
noncomputable def iB(vs:List Nat):Nat->List Nat->List Int->Option (List Nat)|0,_,_=>none|_+1,f,[]=>some f|k+1,f,t::r=>if fg vs f t=true then iB vs k (f++[t.toNat]) (gl vs t.toNat r)else iB vs k f r
noncomputable def ji(st:List Int):List D:=(st.map D.sym).reverse
theorem dM(t:Int)(r:List Int):ji (t::r)=ji r++[.sym t]:=by unfold ji;rw[AS,List.reverse_cons]
theorem hU(st:List Int):(ji st).length=st.length:=by unfold ji;rw[List.length_reverse,AM]
theorem kG(vs:List Nat)(n:Nat)(r:List Int):(gl vs n r).length<=r.length+2:=by
 unfold gl;dsimp only;have h:(if eV ft (ck vs n)=true then(match cB vs n with|some t=>t::r|none=>r)else r).length<=r.length+1:=by
  split;·cases cB vs n with|none=>exact AV _|some t=>exact AT _
  ·exact AV _
 split;·rw[AJ];exact AE h
 ·exact Nat.le_succ_of_le h
theorem tt(h:eV ft (ck vs n)=false)(a:eV fH (ck vs n)=false):gl vs n r=r:=by unfold gl;rw[h,a];rfl
theorem tf(h:eV ft (ck vs n)=false)(a:eV fH (ck vs n)=true):gl vs n r=((n+bC vs n:Nat):Int)::r:=by unfold gl;rw[h,a];rfl
theorem sp(a:eV ft (ck vs n)=true)(b:eV fH (ck vs n)=false)(h:cB vs n=some t):gl vs n r=t::r:=by unfold gl;rw[a,b,h];rfl
theorem tm(a:eV ft (ck vs n)=true)(b:eV fH (ck vs n)=true)(h:cB vs n=some t):gl vs n r=((n+bC vs n:Nat):Int)::t::r:=by unfold gl;rw[a,b,h];rfl
theorem iJ.kinds(h:iJ r wd a):eV ["branch","call","on"] a=eV fH a/\(eV ft a=true->wd≠0)/\(eV ft a=false->eV fH a=false->wd=0):=by cases h<;>refine⟨by decide+kernel,by decide+kernel,by decide+kernel⟩
theorem qI{f:List Nat}{n:Nat}(h:eM f (n:Int)=false):bL (cy f) (n:Int) (.bool true)=cy (f++[n]):=by
 rw[qm];·unfold cy;rw[List.map_append];rfl
 ·intro z;unfold cy at z;rw[List.map_map]at z;obtain⟨m,a,e⟩:=Ag.mp z;have:eM f (n:Int)=true:=gI.mpr ⟨m,a,e⟩;rw[h]at this;exact Bool.noConfusion this
section
variable{vs f:List Nat}{i:Int}
theorem nk(h:A.units+8<cLine):et A (compareOp .IsNot) (.sym d) .none (.bool true):=f5 h (k:=false) rfl
theorem FZ(Y:∀x∈vs,x∈pool)(hz:vs.length<=11)(M:r.length<=1000)(hf:f.length<=1000)(a:Fm jr):∃fl,(fl=.next\/fl=.cont)/\dW a.A a.env a.g jZ (d7 (bj vs) i (ji (t::r)) (cy f)) fl (if fg vs f t=true then d7 (bj vs) i (ji (gl vs t.toNat r)) (cy (f++[t.toNat]))else d7 (bj vs) i (ji r) (cy f)):=by
 have s:(bj vs).size<=NN:=by rw[bw];exact A1 hz (by decide)
 have c:bx (ue (ji (t::r)) (ji r) t):=⟨dM t r,by show _<=16777215;rw[hU];exact wk M rfl,trivial⟩;generalize ji (t::r)=td at c⊢;have g:=fz f t;have g:(dc (cy f) t).isSome=eM f t:=g;by_cases k:0<=t
 · by_cases E:t<vs.length
   · obtain⟨n,rfl⟩:∃n:Nat,t=(n:Int):=⟨t.toNat,by exact(Int.toNat_of_nonneg k).symm⟩;rw[Int.toNat_natCast];have V:n<vs.length:=by exact Aa.1 E
     have v:bx (Jv (bj vs) n):=⟨AB k,s,AB (by rw[bw];assumption),trivial⟩;have d:=(uJ Y V (A1 hz (by decide))).to (m:=15) (by decide);have z:fg vs f (n:Int)=(!eM f (n:Int)&&!(ck vs n=="none")):=by unfold fg;rw[AB k,AB E,Int.toNat_natCast];rfl
     rw[z];rcases mD Y V with⟨a1,a2,a3,a4,a5,a6⟩|⟨C,wd,u,ops,H,O,b3,b4,I,b6,b7,J,b9,aa⟩
     · rw[a5]at d;have:(ck vs n==("none":PySem.Str))=true:=by rw[a1];exact Af _
       rw[this,Bool.not_true,Bool.and_false,if_neg (by decide)];refine⟨.cont,.inr rfl,?_⟩;cases h:eM f (n:Int)with|true=>exact cT a EP (bx.app.mpr ⟨bx.app.mpr ⟨c,v⟩,d,g.trans h,trivial⟩) rfl rfl rfl|false=>exact cT a Ed (bx.app.mpr ⟨bx.app.mpr ⟨c,v⟩,d,g.trans h,trivial⟩) rfl rfl rfl
     · rw[b9]at d;have d:br 15 962 [bv,.bytes (bj vs),.sym (n:Int)] (fe C ops (1+(wd:Int))):=d;have nn:(ck vs n==("none":PySem.Str))=false:=by rw[O];exact beq_eq_false_iff_ne.mpr H.way.1
       rw[nn,Bool.not_false,Bool.and_true];cases h:eM f (n:Int)with|true=>rw[Bool.not_true,if_neg (by decide)];exact⟨.cont,.inr rfl,cT a Go (bx.app.mpr ⟨bx.app.mpr ⟨c,v⟩,d,g.trans h,trivial⟩) rfl rfl rfl⟩|false=>
         rw[Bool.not_false,if_pos rfl,<-qI h];refine⟨.next,.inl rfl,?_⟩;refine cI λG hG=>?_;obtain⟨k1,k2,k3⟩:=H.kinds;refine hG ?_;have hw:=(yD H).to (m:=15) (by decide);have T:(cy f).length<=NN:=by rw[qa];show _<=16777216;exact wk hf rfl
         have q:(ji r).length<=NN:=by rw[hU];show _<=16777216;exact wk M rfl
         have Q:(n:Int)+(1+(wd:Int))=((n+bC vs n:Nat):Int):=by rw[b7];omega
         have j:∀b,eV fH u=b->(Jj u b).holds:=λb e=>fj (k1.trans e);have l:=O;cases p:eV ft u with
         |true=>have B:=k2 p;rw[if_neg B]at I;subst I;have o:br 15 1074 [cV C [eS (cP vs n wd)]] (.sym (cP vs n wd)):=(bp cW rfl p9 trivial).to (by decide);have y:bx (It (bj vs) td (ji r) n (cy f) C [eS (cP vs n wd)] (1+(wd:Int)) u (.sym (cP vs n wd)) true):=bx.app.mpr ⟨bx.app.mpr ⟨c,v⟩,d,g.trans h,T,hw,o,fj p,trivial⟩;rw[if_neg B]at J;cases hb:eV fH u with|true=>rw[tm (by rw[l];exact p) (by rw[l];exact hb) J,dM,dM,<-Q];exact cT a LS (bx.app.mpr ⟨y,λA U N=>nk N,q,j _ hb,by rw[AX];show(ji r).length+1<=16777216;rw[hU];exact wk (AE M) rfl,trivial⟩) rfl rfl rfl|false=>rw[sp (by rw[l];exact p) (by rw[l];exact hb) J,dM];exact cT a Mk (bx.app.mpr ⟨y,λA U N=>nk N,q,j _ hb,trivial⟩) rfl rfl rfl
         |false=>
           obtain⟨L,o⟩:∃L,br 15 1074 [cV C ops] L:=by
             rw[I];split;·exact⟨_,(bp cW rfl xQ trivial).to (by decide)⟩
             ·exact⟨_,(bp cW rfl p9 trivial).to (by decide)⟩
           have y:bx (It (bj vs) td (ji r) n (cy f) C ops (1+(wd:Int)) u L false):=bx.app.mpr ⟨bx.app.mpr ⟨c,v⟩,d,g.trans h,T,hw,o,fj p,trivial⟩;cases hb:eV fH u with|true=>rw[tf (by rw[l];exact p) (by rw[l];exact hb),dM,<-Q];exact cT a L5 (bx.app.mpr ⟨y,j _ hb,q,trivial⟩) rfl rfl rfl|false=>rw[tt (by rw[l];exact p) (by rw[l];exact hb)];exact cT a MG (bx.app.mpr ⟨y,j _ hb,trivial⟩) rfl rfl rfl
   · have z:fg vs f t=false:=by unfold fg;rw[AI E];simp
     rw[z,if_neg (by decide)];refine⟨.cont,.inr rfl,?_⟩;have hd1:decide (t<((bj vs).size:Int))=false:=AI (by rw[bw];exact E);cases h:eM f t with|true=>exact cT a Dh (bx.app.mpr ⟨c,AB k,s,hd1,g.trans h,trivial⟩) rfl rfl rfl|false=>exact cT a CK (bx.app.mpr ⟨c,AB k,s,hd1,g.trans h,trivial⟩) rfl rfl rfl
 · have z:fg vs f t=false:=by unfold fg;rw[AI k];rfl
   rw[z,if_neg (by decide)];refine⟨.cont,.inr rfl,?_⟩;cases h:eM f t with|true=>exact cT a Hd (bx.app.mpr ⟨c,AI k,g.trans h,trivial⟩) rfl rfl rfl|false=>exact cT a Gh (bx.app.mpr ⟨c,AI k,g.trans h,trivial⟩) rfl rfl rfl
theorem vP(h:A.units+8<cLine):et A (compareOp .NotEq) (.list []) (.list []) (.bool false):=oG (xs:=[]) (ys:=[]) (b:=true) h rfl rfl rfl
theorem wu(h:A.units+8<cLine):et A (compareOp .NotEq) (.list (r++[d])) (.list []) (.bool true):=by cases r with|nil=>exact nO h|cons x r=>exact nO h
theorem GO(s:∀x∈vs,x∈pool)(u:vs.length<=11)(a:Fm jr):∀(k:Nat)(f:List Nat)(st:List Int)(b:List Nat)(c:Nat),iB vs k f st=some b->st.length<=c->f.length<=c->c+2*k<=1000->∃N,c0 a.A a.env a.g Dp jZ N (d7 (bj vs) i (ji st) (cy f)) .next (d7 (bj vs) i [] (cy b)):=by intro k;induction k with|zero=>intro f st b c h;exact ca h|succ k p=>intro f st b c h e j g;cases st with|nil=>obtain rfl:=A0 h;exact⟨0,.done (fv a (BG false) ⟨λA U l=>vP l,trivial⟩ rfl rfl)⟩|cons t r=>rw[AJ]at e;have o:Tr a.A a.env a.g Dp (d7 (bj vs) i (ji (t::r)) (cy f)) true (d7 (bj vs) i (ji (t::r)) (cy f)):=fv a (BG true) ⟨λA U l=>by rw[dM];exact wu l,trivial⟩ rfl rfl;refine cI λG q=>?_;obtain⟨fl,d,hb⟩:=FZ (i:=i) s u (t:=t) (r:=r) (f:=f) (by exact A1 (Nat.le_of_succ_le e) (A1 (A7 _ _) g)) (by exact A1 j (A1 (A7 _ _) g)) a;refine q ?_;unfold iB at h;cases n:fg vs f t with|true=>rw[n,if_pos rfl]at h hb;have:=kG vs t.toNat r;obtain⟨N,m⟩:=p (f++[t.toNat]) (gl vs t.toNat r) b (c+2) h (by exact A1 this (Ae (Nat.le_of_succ_le e) 2)) (by rw[AX];show f.length+1<=_;exact Nat.add_le_add j (by decide)) (by exact bu g (by decide));exact⟨N+1,.next o hb d m⟩|false=>rw[n,if_neg (by decide)]at h hb;obtain⟨N,m⟩:=p f r b c h (by exact Nat.le_of_succ_le e) j (by exact A1 (Ad (Ah _ (AV _)) _) g);exact⟨N+1,.next o hb d m⟩
theorem uV(f:List Nat):(cy f).map (·.1)=dZ f:=by unfold cy dZ;rw[List.map_map];rfl
theorem vG(d:∀x∈vs,x∈pool)(e:vs.length<=11)(b:k<=400)(h:iB vs k [] [i]=some a)(c:a.length<=60):br 16 1183 [bv,.bytes (bj vs),.sym i] (.slist ((cY (dZ a)).map D.sym)):=by
 have:=bp gu rfl (Kj (v:=bj vs) (i:=i) (acc:=cy a)) ⟨i0 rfl rfl λg=>?_,by show _+1<=64;rw[qa];exact wk (AE c) rfl,trivial⟩;·rw[uV]at this;exact this
 ·exact GO d e g k [] [i] a 1 h (AT _) (AW _) (by exact wk (Ad (Ah 2 b) 1) rfl)
end
noncomputable abbrev x7:Ct:=⟨11,cb (kT 139),[],[1297]⟩
noncomputable abbrev KD:PySem.Expr:=Fr (cJ (bz (kT 139)) 1 pz) pz
noncomputable abbrev zL:List Stmt:=B6 (cJ (bz (kT 139)) 1 pz)
noncomputable abbrev ky(os:List D)(i:Int)(td fs:List D):Sig:=[("octets",.v (.list os)),("begin",.v (.sym i)),("found",.o (.list fs) none),("waiting",.o (.list td) none)]
section
variable{os td r fs:List D}{i t e:Int}{g:D}{way:PySem.Str}
noncomputable abbrev Ky(os:List D)(t:Int):List Claim:=[.p (decide (0<=t)=true),.le os.length NN,.p (decide (t<(os.length:Int))=true)]
noncomputable abbrev Lw(os:List D)(t:Int)(way:PySem.Str)(e:Int)(g:D):Claim:=.p (br 11 1297 [.list os,.sym t] (.tuple [.str way,.sym e,g]))
theorem zy(b:Bool):((cr 40).t x7 KD (ky os i td fs) [.t b]).map (λr=>(r.a,r.σ,r.c))=some (b,ky os i td fs,[ci .NotEq (.list td) (.list []) b]):=by kernel_rfl
theorem JC:((cr 40).ss x7 zL (ky os i td fs) [.o (.sym t) (.list r),.b false]).map (λr=>(r.a,r.σ.take 4,r.c))=some (.cont,ky os i r fs,ue td r t++[.p (decide (0<=t)=false)]):=by kernel_rfl
theorem Ia:((cr 40).ss x7 zL (ky os i td fs) [.o (.sym t) (.list r),.b true,.b false]).map (λr=>(r.a,r.σ.take 4,r.c))=some (.cont,ky os i r fs,ue td r t++[.p (decide (0<=t)=true),.le os.length NN,.p (decide (t<(os.length:Int))=false)]):=by kernel_rfl
theorem GE:((cr 40).ss x7 zL (ky os i td fs) [.o (.sym t) (.list r),.b true,.b true,.t true]).map (λr=>(r.a,r.σ.take 4,r.c))=some (.cont,ky os i r fs,ue td r t++Ky os t++[ci .In (.sym t) (.list fs) true]):=by kernel_rfl
theorem GL:((cr 40).ss x7 zL (ky os i td fs) [.o (.sym t) (.list r),.b true,.b true,.t false,.d (.tuple [.str way,.sym e,g]),.t true]).map (λr=>(r.a,r.σ.take 4,r.c))=some (.cont,ky os i r fs,ue td r t++Ky os t++[ci .In (.sym t) (.list fs) false,Lw os t way e g,ci .Eq (.str way) (.str "none") true]):=by kernel_rfl
noncomputable abbrev Iy(os td r:List D)(t:Int)(fs:List D)(way:PySem.Str)(e:Int)(g:D)(v:Bool):List Claim:=ue td r t++Ky os t++[ci .In (.sym t) (.list fs) false,Lw os t way e g,ci .Eq (.str way) (.str "none") false,.le fs.length NN,Lw os t way e g,ci .In (.str way) (.tuple (ft.map D.str)) v]
noncomputable abbrev Kx(way:PySem.Str)(v:Bool):Claim:=ci .In (.str way) (.tuple (fH.map D.str)) v
theorem Ms:((cr 40).ss x7 zL (ky os i td fs) [.o (.sym t) (.list r),.b true,.b true,.t false,.d (.tuple [.str way,.sym e,g]),.t false,.d (.tuple [.str way,.sym e,g]),.t false,.o .none (.list []),.t false,.o .none (.list [])]).map (λr=>(r.a,r.σ.take 4,r.c))=some (.next,ky os i ((r++[])++[]) (fs++[.sym t]),Iy os td r t fs way e g false++[.le (r.length+0) NN,Kx way false,.le ((r++[]).length+0) NN]):=by kernel_rfl
theorem Ls:((cr 40).ss x7 zL (ky os i td fs) [.o (.sym t) (.list r),.b true,.b true,.t false,.d (.tuple [.str way,.sym e,g]),.t false,.d (.tuple [.str way,.sym e,g]),.t false,.o .none (.list []),.t true,.o .none (.list [])]).map (λr=>(r.a,r.σ.take 4,r.c))=some (.next,ky os i ((r++[])++[.sym e]) (fs++[.sym t]),Iy os td r t fs way e g false++[.le (r.length+0) NN,Kx way true,.le ((r++[]).length+1) NN]):=by kernel_rfl
theorem LU:((cr 40).ss x7 zL (ky os i td fs) [.o (.sym t) (.list r),.b true,.b true,.t false,.d (.tuple [.str way,.sym e,g]),.t false,.d (.tuple [.str way,.sym e,g]),.t true,.o .none (.list []),.t false,.o .none (.list [])]).map (λr=>(r.a,r.σ.take 4,r.c))=some (.next,ky os i ((r++[g])++[]) (fs++[.sym t]),Iy os td r t fs way e g true++[.le (r.length+1) NN,Kx way false,.le ((r++[g]).length+0) NN]):=by kernel_rfl
theorem L3:((cr 40).ss x7 zL (ky os i td fs) [.o (.sym t) (.list r),.b true,.b true,.t false,.d (.tuple [.str way,.sym e,g]),.t false,.d (.tuple [.str way,.sym e,g]),.t true,.o .none (.list []),.t true,.o .none (.list [])]).map (λr=>(r.a,r.σ.take 4,r.c))=some (.next,ky os i ((r++[g])++[.sym e]) (fs++[.sym t]),Iy os td r t fs way e g true++[.le (r.length+1) NN,Kx way true,.le ((r++[g]).length+1) NN]):=by kernel_rfl
theorem JF:(b8 40 11 [1297] eW [.list os,.sym i] [.w .next (ky os i [] fs),.td g]).map (λr=>(r.a,r.c))=some (.ret g,[.p (um x7 KD zL (ky os i [.sym i] []) .next (ky os i [] fs)),.p (∀A:Around,A.handled=none->A.units+8<cLine->Bc A (.builtin "sorted") [.list fs] g)]):=by kernel_rfl
end
theorem rT(t:Int):∀f:List Nat,dU t (bm f)=eM f t|[]=>rfl|n::f=>by show(((n:Int)==t)||dU t (bm f))=(decide ((n:Int)=t)||eM f t);rw[rT t f];congr 1
theorem yk(f:List Nat):∀d∈bm f,eG d:=λd h=>by obtain⟨n,U,rfl⟩:=Ag.mp h;exact .inl ⟨_,rfl⟩
theorem qf(f:List Nat):D.ints (bm f)=some (dZ f):=by induction f with|nil=>rfl|cons n f a=>show D.ints (.sym (n:Int)::bm f)=some ((n:Int)::dZ f);unfold D.ints;rw[a];rfl
section
variable{vs f:List Nat}{i:Int}
theorem m1(a:∀x∈vs,x∈pool)(b:vs.length<=11)(h:n<vs.length):br 10 1297 [.list (bm vs),.sym n] (.tuple [.str (ck vs n),.sym ((n+bC vs n:Nat):Int),mf (cB vs n)]):=by have:=rD a b h;rw[vH a h]at this;exact this
theorem kq(h:eM f t=b):et A (compareOp .In) (.sym t) (.list (bm f)) (.bool b):=by rw[<-h,<-rT];exact(qt (c:=.list (bm f)) rfl (vw t (yk f))).1
theorem Em(x y:PySem.Str):CC .Eq x y=some (x==y):=by
 show some (x.cps.toList==y.cps.toList)=_;congr 1;by_cases h:x=y;·rw[h,Af,Af]
 ·rw[beq_eq_false_iff_ne.mpr h];refine beq_eq_false_iff_ne.mpr λz=>h ?_;obtain⟨⟨a⟩⟩:=x;obtain⟨⟨b⟩⟩:=y;have z:a=b:=z;rw[z]
theorem rv(h:(x==("none":PySem.Str))=b):et A (compareOp .Eq) (.str x) (.str "none") (.bool b):=rH (by rw[<-h];exact Em _ _)
theorem Ig(C:∀x∈vs,x∈pool)(E:vs.length<=11)(v:r.length<=1000)(J:f.length<=1000)(a:Fm x7):∃fl,(fl=.next\/fl=.cont)/\dW a.A a.env a.g zL (ky (bm vs) i (ji (t::r)) (bm f)) fl (if fg vs f t=true then ky (bm vs) i (ji (gl vs t.toNat r)) (bm (f++[t.toNat]))else ky (bm vs) i (ji r) (bm f)):=by
 have p:(bm vs).length<=NN:=by rw[bH];exact A1 E (by decide)
 have c:bx (ue (ji (t::r)) (ji r) t):=⟨dM t r,by show _<=16777215;rw[hU];exact wk v rfl,trivial⟩;generalize ji (t::r)=I at c⊢;by_cases k:0<=t
 · by_cases s:t<vs.length
   · obtain⟨n,rfl⟩:∃n:Nat,t=(n:Int):=⟨t.toNat,by exact(Int.toNat_of_nonneg k).symm⟩;rw[Int.toNat_natCast];have B:n<vs.length:=by exact Aa.1 s
     have q:bx (Ky (bm vs) n):=⟨AB k,p,AB (by rw[bH];assumption),trivial⟩;have g:=(m1 C E B).to (m:=11) (by decide);have o:fg vs f (n:Int)=(!eM f (n:Int)&&!(ck vs n=="none")):=by unfold fg;rw[AB k,AB s,Int.toNat_natCast];rfl
     rw[o];cases u:eM f (n:Int)with|true=>rw[Bool.not_true,Bool.false_and,if_neg (by decide)];exact⟨.cont,.inr rfl,cT a GE (bx.app.mpr ⟨bx.app.mpr ⟨c,q⟩,λA U U=>kq u,trivial⟩) rfl rfl rfl⟩|false=>rw[Bool.not_false,Bool.true_and];cases y:(ck vs n==("none":PySem.Str))with|true=>rw[Bool.not_true,if_neg (by decide)];exact⟨.cont,.inr rfl,cT a GL (bx.app.mpr ⟨bx.app.mpr ⟨c,q⟩,λA U U=>kq u,g,λA U U=>rv y,trivial⟩) rfl rfl rfl⟩|false=>
         rw[Bool.not_false,if_pos rfl];refine⟨.next,.inl rfl,?_⟩;have z:(bm f).length<=NN:=by rw[bH];show _<=16777216;exact wk J rfl
         have l:bm (f++[n])=bm f++[.sym (n:Int)]:=by unfold bm;rw[List.map_append];rfl
         have G:(ji r).length+0<=NN:=by rw[hU];show _<=16777216;exact wk v rfl
         have H:(ji r).length+1<=NN:=by rw[hU];show _<=16777216;exact wk (AE v) rfl
         have m0:∀d:List D,d.length<=1->∀j,j<=1->(ji r++d).length+j<=NN:=λd g j h=>by rw[AX,hU];show _<=16777216;exact wk (Nat.add_le_add (Nat.add_le_add v g) h) rfl
         rw[l];cases h:eV ft (ck vs n)with
         |true=>obtain⟨L,e⟩:=j4 C B (by rw[(qK vs n).1];exact h);have b:bx (Iy (bm vs) I (ji r) n (bm f) (ck vs n) ((n+bC vs n:Nat):Int) (mf (cB vs n)) true):=bx.app.mpr ⟨bx.app.mpr ⟨c,q⟩,λA U U=>kq u,g,λA U U=>rv y,z,g,fj h,trivial⟩;cases hb:eV fH (ck vs n)with|true=>rw[tm h hb e,dM,dM];rw[e]at b;exact cT a L3 (bx.app.mpr ⟨b,H,fj hb,m0 _ (AT _) 1 (AT _),trivial⟩) rfl rfl rfl|false=>rw[sp h hb e,dM];rw[e]at b;have:=cT a (LU (i:=i)) (bx.app.mpr ⟨b,H,fj hb,m0 _ (AT _) 0 (AW _),trivial⟩) rfl rfl rfl;rw[List.append_nil]at this;exact this
         |false=>have b:bx (Iy (bm vs) I (ji r) n (bm f) (ck vs n) ((n+bC vs n:Nat):Int) (mf (cB vs n)) false):=bx.app.mpr ⟨bx.app.mpr ⟨c,q⟩,λA U U=>kq u,g,λA U U=>rv y,z,g,fj h,trivial⟩;cases hb:eV fH (ck vs n)with|true=>rw[tf h hb,dM];have:=cT a (Ls (i:=i)) (bx.app.mpr ⟨b,G,fj hb,m0 [] (AW _) 1 (AT _),trivial⟩) rfl rfl rfl;rw[List.append_nil]at this;exact this|false=>rw[tt h hb];have:=cT a (Ms (i:=i)) (bx.app.mpr ⟨b,G,fj hb,m0 [] (AW _) 0 (AW _),trivial⟩) rfl rfl rfl;rw[List.append_nil,List.append_nil]at this;exact this
   · have o:fg vs f t=false:=by unfold fg;rw[AI s];simp
     rw[o,if_neg (by decide)];exact⟨.cont,.inr rfl,cT a Ia (bx.app.mpr ⟨c,AB k,p,AI (by rw[bH];exact s),trivial⟩) rfl rfl rfl⟩
 · have o:fg vs f t=false:=by unfold fg;rw[AI k];rfl
   rw[o,if_neg (by decide)];exact⟨.cont,.inr rfl,cT a JC (bx.app.mpr ⟨c,AI k,trivial⟩) rfl rfl rfl⟩
theorem Gz(s:∀x∈vs,x∈pool)(u:vs.length<=11)(a:Fm x7):∀(k:Nat)(f:List Nat)(st:List Int)(b:List Nat)(c:Nat),iB vs k f st=some b->st.length<=c->f.length<=c->c+2*k<=1000->∃N,c0 a.A a.env a.g KD zL N (ky (bm vs) i (ji st) (bm f)) .next (ky (bm vs) i [] (bm b)):=by intro k;induction k with|zero=>intro f st b c h;exact ca h|succ k p=>intro f st b c h e j g;cases st with|nil=>obtain rfl:=A0 h;exact⟨0,.done (fv a (zy false) ⟨λA U l=>vP l,trivial⟩ rfl rfl)⟩|cons t r=>rw[AJ]at e;have o:Tr a.A a.env a.g KD (ky (bm vs) i (ji (t::r)) (bm f)) true (ky (bm vs) i (ji (t::r)) (bm f)):=fv a (zy true) ⟨λA U l=>by rw[dM];exact wu l,trivial⟩ rfl rfl;refine cI λG q=>?_;obtain⟨fl,d,hb⟩:=Ig (i:=i) s u (t:=t) (r:=r) (f:=f) (by exact A1 (Nat.le_of_succ_le e) (A1 (A7 _ _) g)) (by exact A1 j (A1 (A7 _ _) g)) a;refine q ?_;unfold iB at h;cases n:fg vs f t with|true=>rw[n,if_pos rfl]at h hb;have:=kG vs t.toNat r;obtain⟨N,m⟩:=p (f++[t.toNat]) (gl vs t.toNat r) b (c+2) h (by exact A1 this (Ae (Nat.le_of_succ_le e) 2)) (by rw[AX];show f.length+1<=_;exact Nat.add_le_add j (by decide)) (by exact bu g (by decide));exact⟨N+1,.next o hb d m⟩|false=>rw[n,if_neg (by decide)]at h hb;obtain⟨N,m⟩:=p f r b c h (by exact Nat.le_of_succ_le e) j (by exact A1 (Ad (Ah _ (AV _)) _) g);exact⟨N+1,.next o hb d m⟩
theorem n0(e:∀x∈vs,x∈pool)(j:vs.length<=11)(c:k<=400)(h:iB vs k [] [i]=some a)(d:a.length<=60):br 12 1321 [.list (bm vs),.sym i] (.slist ((cY (dZ a)).map D.sym)):=bp eW rfl (JF (os:=bm vs) (i:=i) (fs:=bm a) (g:=.slist ((cY (dZ a)).map D.sym))) ⟨i0 rfl rfl λl=>Gz e j l k [] [i] a 1 h (AT _) (AW _) (by exact wk (Ad (Ah 2 c) 1) rfl),λA U U=>pQ (b:=true) (.inl rfl) (qf a) (by rw[bH];exact wk (AE d) rfl),trivial⟩
end
noncomputable def iZ(vs f:List Nat):Nat:=((List.range vs.length).filter λn:Nat=>!eM f (n:Int)).length
theorem tb{vs f:List Nat}(s:n<vs.length)(h:eM f (n:Int)=false):iZ vs (f++[n])<iZ vs f:=by
 unfold iZ;have k:∀(l:List Nat),l.Nodup->(l.filter λm:Nat=>!eM (f++[n]) (m:Int)).length+(if n∈l then 1 else 0)<=(l.filter λm:Nat=>!eM f (m:Int)).length:=by intro l;induction l with|nil=>intro _;exact AT _|cons a l b=>
     intro r;obtain⟨o,p⟩:=List.nodup_cons.mp r;have b:=b p;have e:eM (f++[n]) (a:Int)=(eM f (a:Int)||decide ((n:Int)=(a:Int))):=by unfold eM;rw[List.any_append];simp
     rw[List.filter_cons,List.filter_cons,e];by_cases c:a=n;·subst c;rw[h,if_pos A4];rw[if_neg o]at b;simp only[decide_true,Bool.or_true,Bool.not_true,Bool.not_false,if_true];rw[if_neg (by decide),AJ];exact AE b
     · have d:decide ((n:Int)=(a:Int))=false:=AI (by exactλt=>c (Int.ofNat.inj t).symm);rw[d,Bool.or_false];have g:(n∈a::l)↔n∈l:=⟨λq=>(A6.mp q).resolve_left λz=>c z.symm,λq=>A5 _ q⟩;have j:(if n∈a::l then 1 else 0)=if n∈l then 1 else 0:=by
         by_cases q:n∈l;·rw[if_pos q,if_pos (g.mpr q)]
         ·rw[if_neg q,if_neg λz=>q (g.mp z)]
       rw[j];split;·rw[AJ,AJ];exact A1 (AL (Nat.succ_add _ _)) (AE b)
       ·exact b
 have:=k (List.range vs.length) List.nodup_range;rw[if_pos (List.mem_range.mpr s)]at this;exact this
theorem xJ(vs:List Nat):∀(k:Nat)(f:List Nat)(st:List Int),3*iZ vs f+st.length<k->f.length+iZ vs f<=vs.length->∃b,iB vs k f st=some b/\b.length<=vs.length:=by intro k;induction k with|zero=>exactλf st h U=>absurd h (Nat.not_lt_zero _)|succ k c=>intro f st h a;cases st with|nil=>exact⟨f,rfl,A1 (A7 _ _) a⟩|cons t r=>rw[AJ]at h;unfold iB;cases hg:fg vs f t with|false=>rw[if_neg (by decide)];exact c f r (by exact Nat.lt_of_succ_lt_succ h) a|true=>
 rw[if_pos rfl];unfold fg at hg;simp only[A8,decide_eq_true_eq,Bool.not_eq_true']at hg;refine cI λG j=>?_;obtain⟨g,d,e,U⟩:=hg;refine j ?_;have l:t.toNat<vs.length:=by exact(Int.toNat_lt g).2 d
 have:=tb (f:=f) l (by rw[Int.toNat_of_nonneg g];exact e);have:=kG vs t.toNat r;exact c _ _ (by omega) (by rw[AX];show f.length+1+_<=_;exact st (by assumption) a)
theorem qh(b:vs.length<=11)(i:Int):∃a,iB vs 40 [] [i]=some a/\a.length<=vs.length:=by
 have h:iZ vs []<=vs.length:=by unfold iZ;exact A1 (List.length_filter_le _ _) (by rw[List.length_range];exact AT _)
 exact xJ vs 40 [] [i] (by show 3*iZ vs []+1<40;exact wk (AE (AE (Ah 3 (A1 h b)))) rfl) (by rw[List.length_nil];omega)
theorem x4:bT τ=true->(τ.map (·.1)).map (bq σ)=τ.map (λp=>some p.2)->∀x s,bq τ x=some s->bq (pin (λU=>none) σ) x=some s:=by induction τ with|nil=>intro _ _ x s h;exact nomatch h|cons p τ l=>
 obtain⟨y,u⟩:=p;intro a i x s h;have a:=Bool.and_eq_true_iff.mp a;obtain⟨c,f⟩:=List.cons.inj i;rcases lk h with⟨rfl,rfl⟩|h;·rw[dX,show bq σ x=some u from c];cases u with|v d=>rfl|o k p=>cases p with|none=>rfl|some _=>exact absurd a.1 (by simp)
 ·exact l a.2 f x s h
theorem mI{σ τ:Sig}{o:List Orc}{cl:List Claim}{k n:Nat}{sc:Scope}{ask:List Addr}{s:List Stmt}{fl:Fl}(a:Fm ⟨k,sc,[],ask⟩)(h:((cr n).ss ⟨k,sc,[],ask⟩ s σ o).map (λr=>(r.a,(τ.map (·.1)).map (bq r.σ),r.c))=some (fl,τ.map (λp=>some p.2),cl))(f:bx cl)(c:bT σ=true)(d:bT τ=true)(i:mG fl=true):dW a.A a.env a.g s σ fl τ:=by obtain⟨r,e,q⟩:=AD.mp h;simp only[Prod.mk.injEq]at q;have:=r.h (by rw[q.2.2];exact f) a;rw[q.1,fh rfl a,eO c]at this;exact this.weak (x4 d q.2.1) i
noncomputable def NX:Stmt->PySem.Expr|.Expr e _=>e|_=>.Name default pz
noncomputable abbrev Fx:Ct:=⟨11,cb (kT 138),[],[1297]⟩
noncomputable abbrev EQ:List Stmt:=jB (cJ (bz (kT 138)) 1 pz)
noncomputable abbrev uw(os bs hs fs:List D):Sig:=[("octets",.v (.list os)),("begins",.v (.list bs)),("heads",.v (.list hs)),("found",.o (.list fs) none)]
noncomputable abbrev xu(os bs hs fs:List D)(b e:D):Sig:=[("octets",.v (.list os)),("begins",.v (.list bs)),("heads",.v (.list hs)),("found",.o (.list fs) none),("begin",.v b),("end",.v e)]
noncomputable abbrev K6:PySem.Expr:=w8 (sT (cJ EQ 0 pz)) 1
noncomputable abbrev sw:PySem.Expr:=w8 K6 0
noncomputable abbrev tM:PySem.Expr:=w8 (w8 (w8 (NX (cJ EQ 2 pz)) 0) 2) 0
noncomputable abbrev DS:Ct:=⟨11,sR (cb (kT 138)) sw,[],[1297]⟩
noncomputable abbrev CJ:Ct:=⟨11,sR (cb (kT 138)) tM,[],[1297]⟩
noncomputable abbrev HM(e:Int):Sig:=[("end",.v (.sym e))]
noncomputable abbrev iv(e:Int)(d:D):Sig:=[("end",.v (.sym e)),("at",.v d)]
noncomputable abbrev F8(gs:List D):Sig:=[("goals",.v (.slist gs))]
noncomputable abbrev iP(gs:List D)(d:D):Sig:=[("goals",.v (.slist gs)),("at",.v d)]
section
variable{os bs hs fs es1 es2 gs:List D}{b e m j:Int}{g d1 d2:D}{way:PySem.Str}
noncomputable abbrev qC(os bs es1:List D)(e m j:Int)(g d1:D)(way:PySem.Str)(v c:Bool)(n a:Nat):List Claim:=[.p (uT DS "at" (f0 sw) (dR sw) bs (HM e) es1 (iv e d1)),.le es1.length NN,.p (∀A:Around,A.handled=none->A.units+8<cLine->et A (subscriptTail (w8 K6 0) (w8 K6 1)) (.list es1) (.int (-1)) (.sym m)),.p (br 11 1297 [.list os,.sym m] (.tuple [.str way,.sym j,g])),ci .In (.str way) (.tuple (ft.map D.str)) v,ci .In (.str way) (.tuple (fH.map D.str)) c,.le (n+a) NN]
noncomputable abbrev KA(hs es2 fs gs:List D)(d2:D):List Claim:=[.p (uT CJ "at" (f0 tM) (dR tM) hs (F8 gs) es2 (iP gs d2)),.le es2.length NN,.le es2.length NN,.le fs.length NN]
theorem LZ:((cr 40).ss Fx EQ (xu os bs hs fs (.sym b) (.sym e)) [.l es1 (iv e d1),.td (.sym m),.d (.tuple [.str way,.sym j,g]),.t false,.t false,.l es2 (iP ([]++[]) d2)]).map (λr=>(r.a,((uw os bs hs (fs++[.tuple [.sym b,.sym e,.tuple es2]])).map (·.1)).map (bq r.σ),r.c))=some (.next,(uw os bs hs (fs++[.tuple [.sym b,.sym e,.tuple es2]])).map (λp=>some p.2),qC os bs es1 e m j g d1 way false false 0 0++KA hs es2 fs ([]++[]) d2):=by kernel_rfl
theorem K3:((cr 40).ss Fx EQ (xu os bs hs fs (.sym b) (.sym e)) [.l es1 (iv e d1),.td (.sym m),.d (.tuple [.str way,.sym j,g]),.t false,.t true,.l es2 (iP ([]++[.sym j]) d2)]).map (λr=>(r.a,((uw os bs hs (fs++[.tuple [.sym b,.sym e,.tuple es2]])).map (·.1)).map (bq r.σ),r.c))=some (.next,(uw os bs hs (fs++[.tuple [.sym b,.sym e,.tuple es2]])).map (λp=>some p.2),qC os bs es1 e m j g d1 way false true 0 1++KA hs es2 fs ([]++[.sym j]) d2):=by kernel_rfl
theorem MF:((cr 40).ss Fx EQ (xu os bs hs fs (.sym b) (.sym e)) [.l es1 (iv e d1),.td (.sym m),.d (.tuple [.str way,.sym j,g]),.t true,.t false,.l es2 (iP ([g]++[]) d2)]).map (λr=>(r.a,((uw os bs hs (fs++[.tuple [.sym b,.sym e,.tuple es2]])).map (·.1)).map (bq r.σ),r.c))=some (.next,(uw os bs hs (fs++[.tuple [.sym b,.sym e,.tuple es2]])).map (λp=>some p.2),qC os bs es1 e m j g d1 way true false 1 0++KA hs es2 fs ([g]++[]) d2):=by kernel_rfl
theorem L9:((cr 40).ss Fx EQ (xu os bs hs fs (.sym b) (.sym e)) [.l es1 (iv e d1),.td (.sym m),.d (.tuple [.str way,.sym j,g]),.t true,.t true,.l es2 (iP ([g]++[.sym j]) d2)]).map (λr=>(r.a,((uw os bs hs (fs++[.tuple [.sym b,.sym e,.tuple es2]])).map (·.1)).map (bq r.σ),r.c))=some (.next,(uw os bs hs (fs++[.tuple [.sym b,.sym e,.tuple es2]])).map (λp=>some p.2),qC os bs es1 e m j g d1 way true true 1 1++KA hs es2 fs ([g]++[.sym j]) d2):=by kernel_rfl
theorem J6(v:Bool):((cr 40).t DS ((f0 sw).headD sw) (iv e (.sym b)) [.t v]).map (λr=>(r.a,r.σ,r.c))=some (v,iv e (.sym b),[ci .Lt (.sym b) (.sym e) v]):=by kernel_rfl
theorem FS:((cr 40).d DS (dR sw) (iv e (.sym b)) []).map (λr=>(r.a,r.σ,r.c))=some (.sym b,iv e (.sym b),[]):=by kernel_rfl
theorem IN(v:Bool):((cr 40).t CJ ((f0 tM).headD tM) (iP gs (.sym b)) [.t v]).map (λr=>(r.a,r.σ,r.c))=some (v,iP gs (.sym b),[ci .In (.sym b) (.slist gs) v]):=by kernel_rfl
theorem FO:((cr 40).d CJ (dR tM) (iP gs (.sym b)) []).map (λr=>(r.a,r.σ,r.c))=some (.sym b,iP gs (.sym b),[]):=by kernel_rfl
theorem Fy(x y:D):(nV Fx (eU (cJ (bz (kT 138)) 1 pz) pz) (.tuple [x,y]) (uw os bs hs fs) []).map (λr=>(r.σ,r.c))=some (xu os bs hs fs x y,[]):=by kernel_rfl
theorem IZ:(b8 40 11 [1297] fF [.list os,.list bs,.list hs] [.w .next (uw os bs hs fs)]).map (λr=>(r.a,r.c))=some (.reto (.list fs),[.le hs.length NN,.le os.length NN,.le ((cH hs (some 1) none none).length+1) NN,.p (x8 Fx (eU (cJ (bz (kT 138)) 1 pz) pz) EQ (pD hs (cH hs (some 1) none none++[.int os.length])) (uw os bs hs []) .next (uw os bs hs fs))]):=by kernel_rfl
end
noncomputable def lH(vs:List Nat)(e:Nat):Nat:=(((bo vs 0).filter λn=>decide (n<e)).getLast?).getD 0
noncomputable def tN(L:Nat):List Nat->List (Nat×Nat)|[]=>[]|[h]=>[(h,L)]|h::h'::r=>(h,h')::tN L (h'::r)
noncomputable def yQ(vs hs:List Nat)(p:Nat×Nat):D:=.tuple [.sym ((p.1:Nat):Int),.sym ((p.2:Nat):Int),vl vs hs (lH vs p.2)]
theorem xU(h:fl.getLast?=some m)(c:fl.length<=1000):et A (subscriptTail e b) (.list (bm fl)) (.int (-1)) (.sym ((m:Nat):Int)):=by
 have a:fl.length≠0:=λz=>by rw[List.eq_nil_of_length_eq_zero z]at h;exact ca h
 refine my (ds:=bm fl) (i:=-1) (j:=fl.length-1) rfl rfl ⟨by decide,by decide⟩ ?_ ?_;·rw[bH];exact Lu a
 ·unfold bm;rw[List.getElem?_map];rw[List.getLast?_eq_getElem?]at h;rw[h];rfl
section
variable{vs hs:List Nat}
theorem Gq(c:A.units+8<cLine)(h:decide (a<b)=v):et A (compareOp .Lt) (.sym ((a:Nat):Int)) (.sym ((b:Nat):Int)) (.bool v):=by refine f5 c (k:=true) ?_;show some (decide (((a:Nat):Int)<((b:Nat):Int)),true)=some (v,true);rw[<-h];congr 2;exact decide_eq_decide.mpr (by exact Aa)
theorem zI(hv:∀x∈vs,x∈pool)(T:vs.length<=11)(hl:hs.length<=11)(L:hs≠[])(hb:b∈bo vs 0)(E:b<e)(hf:fs.length<=1000)(g:Fm Fx):dW g.A g.env g.g EQ (xu (bm vs) (bm (bo vs 0)) (bm hs) fs (.sym b) (.sym e)) .next (uw (bm vs) (bm (bo vs 0)) (bm hs) (fs++[yQ vs hs (b,e)])):=by
 have M:=eD vs 0;have l:b∈(bo vs 0).filter λn=>decide (n<e):=List.mem_filter.mpr ⟨hb,AB E⟩;obtain⟨m,H⟩:∃m,((bo vs 0).filter λn=>decide (n<e)).getLast?=some m:=by cases q:((bo vs 0).filter λn=>decide (n<e)).getLast? with|some m=>exact⟨m,rfl⟩|none=>rw[List.getLast?_eq_none_iff]at q;rw[q]at l;exact absurd l A3
 have J:m∈bo vs 0:=(List.mem_filter.mp (List.mem_of_getLast? H)).1;have I:=d9 vs 0 m J;have p:lH vs e=m:=by unfold lH;rw[H];rfl
 have hr:=(m1 hv T I).to (m:=11) (by decide);have s:((bo vs 0).filter λn=>decide (n<e)).length<=11:=A1 (List.length_filter_le _ _) (by exact A1 M T);have C:∀(i:List D),i=iq vs m->∀d∈i,eG d:=λi e d hd=>by
   rw[e]at hd;unfold iq at hd;rcases AZ.mp hd with hd|hd
   · split at hd;·rw[AF.mp hd];cases cB vs m with|none=>exact .inr rfl|some t=>exact .inl ⟨_,rfl⟩
     ·exact absurd hd A3
   · split at hd;·rw[AF.mp hd];exact .inl ⟨_,rfl⟩
     ·exact absurd hd A3
 have G:uT DS "at" (f0 sw) (dR sw) (bm (bo vs 0)) (HM e) (bm ((bo vs 0).filter λn=>decide (n<e))) (iv e (jk (λn:Nat=>D.sym (n:Int)) (bo vs 0) .none)):=ia rfl rfl λg=>by cases ho:bo vs 0 with|nil=>rw[ho]at hb;exact absurd hb A3|cons a r=>exact iK (sg:=iv e) (s0:=HM e) (f:=λn:Nat=>D.sym (n:Int)) (b:=λn=>decide (n<e)) (λd B=>rfl) (λB=>rfl) a r λn U=>⟨fv g (J6 (b:=n) (decide (n<e))) ⟨λA U hu=>Gq hu rfl,trivial⟩ rfl rfl,lL g FS trivial rfl rfl⟩
 have j:∀i,i=iq vs m->uT CJ "at" (f0 tM) (dR tM) (bm hs) (F8 i) (bm (hs.filter λh=>dU h (iq vs m))) (iP i (jk (λn:Nat=>D.sym (n:Int)) hs .none)):=λi Q=>ia rfl rfl λg=>by cases hs with|nil=>exact(L rfl).elim|cons a r=>exact iK (sg:=iP i) (s0:=F8 i) (f:=λn:Nat=>D.sym (n:Int)) (b:=λh=>dU h (iq vs m)) (λd B=>rfl) (λB=>rfl) a r λn U=>⟨fv g (IN (b:=n) (dU n (iq vs m))) ⟨λA U U=>by rw[<-Q];exact yE (C i Q),trivial⟩ rfl rfl,lL g FO trivial rfl rfl⟩
 have l1:(bm ((bo vs 0).filter λn=>decide (n<e))).length<=NN:=by rw[bH];show _<=16777216;exact wk s rfl
 have o:(bm (hs.filter λh=>dU h (iq vs m))).length<=NN:=by have:=List.length_filter_le (λh:Nat=>dU h (iq vs m)) hs;rw[bH];show _<=16777216;exact wk (A1 this hl) rfl
 have v:fs.length<=NN:=by show _<=16777216;exact wk hf rfl
 have V:yQ vs hs (b,e)=.tuple [.sym (b:Int),.sym (e:Int),.tuple (bm (hs.filter λh=>dU h (iq vs m)))]:=by unfold yQ vl;rw[p]
 rw[V];have u:∀N O y z,eV ft (ck vs m)=N->eV fH (ck vs m)=O->y<=1->z<=1->bx (qC (bm vs) (bm (bo vs 0)) (bm ((bo vs 0).filter λn=>decide (n<e))) e m ((m+bC vs m:Nat):Int) (mf (cB vs m)) (jk (λn:Nat=>D.sym (n:Int)) (bo vs 0) .none) (ck vs m) N O y z):=λN O y z Y h2 k1 k2=>⟨G,l1,λA U U=>xU H (by exact wk s rfl),hr,fj Y,fj h2,by show y+z<=16777216;exact wk (Nat.add_le_add k1 k2) rfl,trivial⟩;cases k:eV ft (ck vs m)with
 |false=>cases c:eV fH (ck vs m)with|false=>exact mI g LZ (bx.app.mpr ⟨u _ _ 0 0 k c (by decide) (by decide),j _ (by unfold iq;rw[k,c];rfl),o,o,v,trivial⟩) rfl rfl rfl|true=>exact mI g K3 (bx.app.mpr ⟨u _ _ 0 1 k c (by decide) (by decide),j _ (by unfold iq;rw[k,c];rfl),o,o,v,trivial⟩) rfl rfl rfl
 |true=>cases c:eV fH (ck vs m)with|false=>exact mI g MF (bx.app.mpr ⟨u _ _ 1 0 k c (by decide) (by decide),j _ (by unfold iq;rw[k,c];rfl),o,o,v,trivial⟩) rfl rfl rfl|true=>exact mI g L9 (bx.app.mpr ⟨u _ _ 1 1 k c (by decide) (by decide),j _ (by unfold iq;rw[k,c];rfl),o,o,v,trivial⟩) rfl rfl rfl
theorem FR(l:∀x∈vs,x∈pool)(m:vs.length<=11)(j:hs.length<=11)(b:Fm Fx):∀(a:List Nat)(fs:List D)(c:Nat),(∀k∈a,k∈bo vs 0/\k∈hs)->a.Pairwise (·<·)->fs.length<=c->c+a.length<=1000->d6 b.A b.env b.g (eU (cJ (bz (kT 138)) 1 pz) pz) EQ (pD (bm a) (bm a.tail++[.int ((vs.length:Nat):Int)])) (uw (bm vs) (bm (bo vs 0)) (bm hs) fs) .next (uw (bm vs) (bm (bo vs 0)) (bm hs) (fs++(tN vs.length a).map (yQ vs hs))):=by intro a;induction a with|nil=>intro fs c _ _ _ _;rw[show(tN vs.length []).map (yQ vs hs)=[]from rfl,List.append_nil];exact .nil|cons k r i=>intro fs c e n f h;obtain⟨d,p⟩:=e k A4;have kn:hs≠[]:=λz=>A3 (z▸p);have g:fs.length<=1000:=A1 f (A1 (A7 _ _) h);cases r with|nil=>refine .next (ie b (Fy (.sym (k:Int)) (.int ((vs.length:Nat):Int))) trivial rfl rfl) ((zI l m j kn d (d9 vs 0 k d) g b).preS ?_) (.inl rfl) .nil;exact .cons (.inl rfl) (.cons (.inl rfl) (.cons (.inl rfl) (.cons (.inl rfl) (.cons (.inl rfl) (.cons (.inr (.inl ⟨_,rfl,rfl⟩)) (.refl _))))))|cons k' r=>obtain⟨p1,p2⟩:=List.pairwise_cons.mp n;rw[AJ]at h;have i:=i (fs++[yQ vs hs (k,k')]) (c+1) (λx o=>e x (A5 _ o)) p2 (by rw[AX];show fs.length+1<=_;exact AE f) (by exact A1 (AL (Nat.succ_add_eq_add_succ _ _)) h);rw[List.append_assoc]at i;exact .next (ie b (Fy (.sym (k:Int)) (.sym (k':Int))) trivial rfl rfl) (zI l m j kn d (p1 k' A4) g b) (.inl rfl) i
theorem m4:∀l:List D,(List.range l.length).filterMap (λi=>l[i]?)=l|[]=>rfl|x::l=>by rw[AJ,List.range_succ_eq_map,List.filterMap_cons,List.filterMap_map];have a:=m4 l;show x::(List.range l.length).filterMap (λi=>l[i]?)=x::l;rw[a]
theorem lB(a:List Nat):cH (bm a) (some 1) none none=bm a.tail:=by cases a with|nil=>rfl|cons k r=>
 have e:sliceBounds (some 1) none none (bm (k::r)).length=(((1:Nat):Int),((r.length+1:Nat):Int),1):=by rw[bH,AJ];unfold sliceBounds;simp;omega
 unfold cH;rw[e];dsimp only;rw[sliceRange_one,List.filterMap_map,show r.length+1-1=(bm r).length from by rw[bH];rfl];have:((λx=>(bm (k::r))[x]?)∘λx=>1+x)=λi=>(bm r)[i]?:=by funext i;show(D.sym (k:Int)::bm r)[1+i]?=_;rw[Nat.add_comm];rfl
 rw[this,m4];rfl
theorem uM(c:∀x∈vs,x∈pool)(b:vs.length<=11):bP 12 1314 [.list (bm vs),.list (bm (bo vs 0)),.list (bm (cf vs))] (.list ((tN vs.length (cf vs)).map (yQ vs (cf vs)))):=by
 have h:=qc vs;have a:∀k∈cf vs,k∈bo vs 0/\k∈cf vs:=λk hk=>⟨by unfold cf at hk;exact(List.mem_filter.mp hk).1,hk⟩;refine dF fF rfl (IZ (fs:=(tN vs.length (cf vs)).map (yQ vs (cf vs)))) ⟨?_,?_,?_,iF rfl rfl λd=>?_,trivial⟩;·rw[bH];show _<=16777216;exact wk (A1 h b) rfl
 ·rw[bH];show _<=16777216;exact wk b rfl
 ·rw[lB,bH,List.length_tail];show _<=16777216;omega
 ·rw[lB,bH];exact FR c b (by exact A1 h b) d (cf vs) [] 0 a (jU vs) (AT _) (by exact wk (A1 (AL (Nat.zero_add _)) (A1 h b)) rfl)
end
theorem GY{a b:List Nat}(d:a.Pairwise (·<·))(hb:b.Pairwise (·<·))(h:∀x,x∈a↔x∈b):a=b:=by
 have e:dZ a=dZ b:=FJ (mY d) (mY hb) λx=>by rw[i6,i6];exact⟨λ⟨n,c,q⟩=>⟨n,(h n).mp c,q⟩,λ⟨n,c,q⟩=>⟨n,(h n).mpr c,q⟩⟩
 unfold dZ at e;exact(List.map_inj_right λx y h=>by exact Int.ofNat.inj h).mp e
theorem vx:∀{l:List Nat}{n:Nat},l.Pairwise (·<·)->n∈l->(∀x∈l,x<=n)->l.getLast?=some n|[],n,_,h,_=>by cases h|[a],n,_,h,_=>by rw[AF.mp h];rfl|a::b::l,n,f,h,c=>by obtain⟨d,e⟩:=List.pairwise_cons.mp f;rw[List.getLast?_cons_cons];refine vx e ((A6.mp h).resolve_left λz=>?_) λx g=>c x (A5 _ g);have:=d b A4;have:=c b (A5 _ A4);exact Nat.not_le_of_gt (by assumption) (A1 this (AL z))
theorem ql(vs:List Nat):∀(m a:Nat),vs.length-a<=m->n∈bo vs a->x∈bo vs a->n<x->n+bC vs n<=x:=by intro m;induction m with|zero=>intro a c h;rw[bo,dif_neg (by exact Nat.not_lt_of_le (Nat.le_of_sub_eq_zero (Nat.le_zero.1 c)))]at h;exact absurd h A3|succ m i=>
   intro a c h b d;by_cases e:a<vs.length
   · have f:=cD vs a;rw[bo,dif_pos e]at h b;rcases A6.mp h with rfl|h
     · rcases A6.mp b with rfl|b;·exact absurd d (AU _)
       ·exact(gO vs _).2 x b
     · rcases A6.mp b with rfl|b;·have:=(gO vs _).2 n h;exact absurd this (Nat.not_le_of_gt (AO d (A7 _ _)))
       ·exact i (a+bC vs a) (by exact Nat.le_of_lt_succ (AO (qr f e) c)) h b d
   ·rw[bo,dif_neg e]at h;exact absurd h A3
theorem As(b:n∈bo vs 0):lH vs (n+bC vs n)=n:=by
 have d:=cD vs n;have h:((bo vs 0).filter λx=>decide (x<n+bC vs n)).getLast?=some n:=by
  refine vx ((gO vs 0).1.filter _) (List.mem_filter.mpr ⟨b,AB (by exact Nat.lt_add_of_pos_right d)⟩) λx e=>?_;obtain⟨c,a⟩:=List.mem_filter.mp e;have a:=of_decide_eq_true a;rcases Nat.lt_or_ge n x with q|q;·have:=ql vs _ 0 (AT _) b c q;exact absurd this (Nat.not_le_of_gt a)
  ·exact q
 unfold lH;rw[h];rfl
theorem jd{hs:List Nat}{n:Nat}:eM hs (n:Int)=true↔n∈hs:=by
 rw[gI]
 exact ⟨fun ⟨m, hm, e⟩ => by have:m=n:=by omega
                             exact this▸hm,λh=>⟨n,h,rfl⟩⟩
noncomputable def gQ(hs:List Nat)(n:Nat):List Nat:=hs.filter λh=>decide (n<=h)
noncomputable def ua(vs hs:List Nat)(p:Nat×Nat):D:=uK ((p.1:Nat):Int) ((p.2:Nat):Int) (vl vs hs (lH vs p.2))
noncomputable def nA(hs:List Nat)(L n b:Nat):List (Nat×Nat):=if n∈hs then tN L (gQ hs n)else tN L (b::gQ hs n)
section
variable{vs hs:List Nat}
theorem nM(c:∀h∈hs,h∈bo vs 0)(f:hs.Pairwise (·<·))(g:n∈bo vs 0):gQ hs n=(if n∈hs then[n]else[])++gQ hs (n+bC vs n):=by
 have i:=cD vs n;have d:(gQ hs (n+bC vs n)).Pairwise (·<·):=f.filter _;have m:∀k x,x∈gQ hs k↔x∈hs/\k<=x:=λk x=>by unfold gQ;rw[List.mem_filter];exact and_congr Iff.rfl ⟨of_decide_eq_true,AB⟩
 have next:∀x∈hs,n<=x->x=n\/n+bC vs n<=x:=λx e h=>by
   rcases Nat.lt_or_ge n x with q|q;·exact .inr (ql vs _ 0 (AT _) g (c x e) q)
   ·exact .inl (by exact Nat.le_antisymm q h)
 refine GY (f.filter _) ?_ λx=>?_
 · split;·exact List.pairwise_cons.mpr ⟨λx e=>by have:=((m _ x).mp e).2;exact AO (Nat.lt_add_of_pos_right i) this,d⟩
   ·exact d
 · rw[AZ,m,m];by_cases h:n∈hs
   · rw[if_pos h,AF];constructor;·rintro⟨a,b⟩;exact(next x a b).imp id λq=>⟨a,q⟩
     · rintro(rfl|⟨a,b⟩);·exact⟨h,AT _⟩
       ·exact⟨a,by exact A1 (A7 _ _) b⟩
   · rw[if_neg h];constructor;·rintro⟨a,b⟩;exact .inr ⟨a,(next x a b).resolve_left λq=>h (q▸a)⟩
     · rintro(q|⟨a,b⟩);·exact absurd q A3
       ·exact⟨a,by exact A1 (A7 _ _) b⟩
theorem wS(L a:Nat):tN L (a::b::r)=(a,b)::tN L (b::r):=rfl
theorem sf(a:∀h∈hs,h∈bo vs 0)(A:hs.Pairwise (·<·)):∀(m n b:Nat)(acc:List D),vs.length-n<=m->n<vs.length->(∀x∈bo vs n,x∈bo vs 0)->((bo vs n).foldl (gU vs hs) (((b:Nat):Int),acc)).2=acc++(nA hs vs.length n b).map (ua vs hs):=by intro m;induction m with|zero=>intro n b acc l f;omega|succ m B=>
   intro n b acc l f v;have y:=cD vs n;have q:=oW vs f;have r:bo vs n=n::bo vs (n+bC vs n):=by rw[bo,dif_pos f]
   have j:n∈bo vs 0:=v n (by rw[r];exact A4);have o:=nM a A j;have G:(if eM hs (n:Int)=true then((n:Nat):Int)else((b:Nat):Int))=(((if n∈hs then n else b):Nat):Int):=by
     by_cases h:n∈hs;·rw[if_pos (jd.mpr h),if_pos h]
     ·rw[if_neg λz=>h (jd.mp z),if_neg h]
   have C:nA hs vs.length n b=tN vs.length ((if n∈hs then n else b)::gQ hs (n+bC vs n)):=by
     unfold nA;rw[o];by_cases h:n∈hs;·rw[if_pos h,if_pos h,if_pos h];rfl
     ·rw[if_neg h,if_neg h,if_neg h];rfl
   rw[r,List.foldl_cons,C];have E:gU vs hs (((b:Nat):Int),acc) n=if eM hs ((n+bC vs n:Nat):Int)=true\/n+bC vs n=vs.length then((if eM hs (n:Int)=true then((n:Nat):Int)else((b:Nat):Int)),acc++[uK (if eM hs (n:Int)=true then((n:Nat):Int)else((b:Nat):Int)) ((n+bC vs n:Nat):Int) (vl vs hs n)])else((if eM hs (n:Int)=true then((n:Nat):Int)else((b:Nat):Int)),acc):=rfl;rw[E,G];generalize(if n∈hs then n else b)=b';have u:=As j;by_cases e:n+bC vs n=vs.length
   · rw[if_pos (.inr e)];have k:bo vs (n+bC vs n)=[]:=by rw[bo,dif_neg (by exactλH=>AY H e)]
     have p:gQ hs (n+bC vs n)=[]:=by unfold gQ;rw[List.filter_eq_nil_iff];intro x t z;have:=d9 vs 0 x (a x t);have:=of_decide_eq_true z;exact Nat.not_le_of_gt (by assumption) (A1 (AL e.symm) this)
     rw[k,p];show acc++[_]=acc++[ua vs hs (b',vs.length)];unfold ua;rw[<-e,u]
   · have d:n+bC vs n<vs.length:=by exact Nat.lt_of_le_of_ne q e
     have c:∀x∈bo vs (n+bC vs n),x∈bo vs 0:=λx t=>v x (by rw[r];exact A5 _ t);by_cases i:n+bC vs n∈hs
     · rw[if_pos (.inl (jd.mpr i)),B (n+bC vs n) b' _ (by exact Nat.le_of_lt_succ (AO (qr y f) l)) d c];have g:gQ hs (n+bC vs n)=(n+bC vs n)::(gQ hs (n+bC vs n)).tail:=by
         have s:bo vs (n+bC vs n)=(n+bC vs n)::bo vs (n+bC vs n+bC vs (n+bC vs n)):=by rw[bo,dif_pos d]
         rw[nM a A (c _ (by rw[s];exact A4)),if_pos i];rfl
       unfold nA;rw[if_pos i];generalize gQ hs (n+bC vs n)=F at g;rw[g,wS,AS,List.append_assoc];show acc++([_]++_)=acc++(ua vs hs (b',n+bC vs n)::_);unfold ua;rw[u];rfl
     ·rw[if_neg (by rw[jd];simp[i,e]),B (n+bC vs n) b' _ (by exact Nat.le_of_lt_succ (AO (qr y f) l)) d c];unfold nA;rw[if_neg i]
theorem Gc(j:∀x∈vs,x∈pool):(D2 vs).2=(tN vs.length (cf vs)).map (ua vs (cf vs)):=by
 have a:∀h∈cf vs,h∈bo vs 0:=λh hh=>by unfold cf at hh;exact(List.mem_filter.mp hh).1
 by_cases b:0<vs.length
 · obtain⟨i,g⟩:=ol j b;have:=sf a (jU vs) vs.length 0 0 [] (by exact Nat.sub_le _ _) b λx k=>k;unfold D2;rw[show((0:Int),([]:List D))=(((0:Nat):Int),[])from rfl,this,List.nil_append];have e:nA (cf vs) vs.length 0 0=tN vs.length (cf vs):=by unfold nA;rw[if_pos (by rw[g];exact A4)];congr 1;unfold gQ;rw[List.filter_eq_self];exactλx U=>AB (AW _)
   rw[e]
 · have d:vs=[]:=by cases vs with|nil=>rfl|cons v r=>exact(b (Nat.succ_pos _)).elim
   subst d;have f:bo [] 0=[]:=by rw[bo,dif_neg (by decide)]
   have c:cf []=[]:=by unfold cf;rw[f];rfl
   unfold D2;rw[c,f];rfl
theorem uR(h:∀x∈vs,x∈pool)(a:vs.length<=11):bP 17 1176 [bv,.bytes (bj vs)] (.list ((tN vs.length (cf vs)).map (ua vs (cf vs)))):=by rw[<-Gc h];exact wQ h a
end
theorem uQ(m:List (Int×D))(k:Int)(d:D):(bL m k d).map (·.1)=if k∈m.map (·.1)then m.map (·.1)else m.map (·.1)++[k]:=by
 unfold bL;have e:(m.any λp=>decide (p.1=k))=true↔k∈m.map (·.1):=by rw[List.any_eq_true,Ag];exact⟨λ⟨p,a,b⟩=>⟨p,a,of_decide_eq_true b⟩,λ⟨p,a,b⟩=>⟨p,a,AB b⟩⟩
 by_cases h:k∈m.map (·.1);·rw[if_pos h,if_pos (e.mpr h),List.map_map];exact List.map_congr_left λp U=>by simp only[Function.comp_apply];split<;>rfl
 ·rw[if_neg h,if_neg λz=>h (e.mp z),List.map_append];rfl
theorem oI(m:List (Int×List D))(k:Int)(d:List D):(gh m k d).map (·.1)=if k∈m.map (·.1)then m.map (·.1)else m.map (·.1)++[k]:=by
 unfold gh;have e:(m.any λp=>decide (p.1=k))=true↔k∈m.map (·.1):=by rw[List.any_eq_true,Ag];exact⟨λ⟨p,a,b⟩=>⟨p,a,of_decide_eq_true b⟩,λ⟨p,a,b⟩=>⟨p,a,AB b⟩⟩
 by_cases h:k∈m.map (·.1);·rw[if_pos h,if_pos (e.mpr h),List.map_map];exact List.map_congr_left λp U=>by simp only[Function.comp_apply];split<;>rfl
 ·rw[if_neg h,if_neg λz=>h (e.mp z),List.map_append];rfl
theorem BU(m:List (Int×List D)):(dP m).map (·.1)=m.map (·.1):=by unfold dP;rw[List.map_map];rfl
theorem DF(vs:List Nat):∀(ns:List Nat)(a:List (Int×D))(b:List (Int×List D)),a.map (·.1)=b.map (·.1)->(ns.foldl (fN vs) a).map (·.1)=(ns.foldl (cO vs) b).map (·.1):=by intro z;induction z with|nil=>intro a b h;exact h|cons n ns i=>intro a b h;rw[List.foldl_cons,List.foldl_cons];refine i _ _ ?_;unfold fN cO;cases cB vs n with|none=>exact h|some t=>
 dsimp only;split;·rw[uQ,oI,h]
 ·exact h
theorem yV(vs:List Nat):(Eb vs).map (·.1)=(dP (ju vs)).map (·.1):=by rw[BU];exact DF vs _ [] [] rfl
noncomputable def j8(vs:List Nat)(a b:Nat):List Nat:=(bo vs a).filter λx=>eM (bo vs b) (x:Int)
noncomputable def yK:List Nat->D|[]=>.none|x::_=>.sym ((x:Nat):Int)
theorem IK(vs:List Nat):∀(m a b:Nat),(vs.length-a)+(vs.length-b)<=m->Ip vs (ow vs a b)=yK (j8 vs a b):=by
 have s:∀a b,¬(a≠b/\min a b<vs.length)->Ip vs (ow vs a b)=yK (j8 vs a b):=by
   intro a b h;rw[ow,dif_neg h];unfold Ip j8;dsimp only;by_cases e:a=b
   · subst e;by_cases d:a<vs.length
     · rw[if_pos ⟨rfl,d⟩];have c:bo vs a=a::bo vs (a+bC vs a):=by rw[bo,dif_pos d]
       have n:eM (bo vs a) (a:Int)=true:=jd.mpr (by rw[c];exact A4);generalize l:(λx:Nat=>eM (bo vs a) (x:Int))=p at*;have i:p a=true:=by rw[<-l];exact n
       rw[c,List.filter_cons,if_pos i];rfl
     · have c:bo vs a=[]:=by rw[bo,dif_neg d]
       rw[if_neg (λz=>d z.2),c];rfl
   · have d:¬a<vs.length:=λz=>h ⟨e,by exact AR (Nat.min_le_left _ _) z⟩;have c:bo vs a=[]:=by rw[bo,dif_neg d]
     rw[if_neg (λz=>e z.1),c];rfl
 intro m;induction m with|zero=>intro a b h;exact s a b (by exact m0 h)|succ m k=>
   intro a b h;by_cases f:a≠b/\min a b<vs.length
   · rw[ow,dif_pos f];by_cases g:a<b
     · have i:=cD vs a;have d:a<vs.length:=by exact ml f.2 g
       rw[if_pos g,k (a+bC vs a) b (by exact Nat.le_of_lt_succ (AO (Nat.add_lt_add_right (qr i (ml f.2 g)) _) h))];have c:bo vs a=a::bo vs (a+bC vs a):=by rw[bo,dif_pos d]
       have o:eM (bo vs b) (a:Int)=false:=by cases q:eM (bo vs b) (a:Int)with|false=>rfl|true=>have:=(gO vs b).2 a (jd.mp q);omega
       unfold j8;rw[c,List.filter_cons,if_neg (by rw[o];decide)]
     · have i:=cD vs b;have hb:b<vs.length:=by exact mr f.2 g
       rw[if_neg g,k a (b+bC vs b) (by exact Nat.le_of_lt_succ (AO (Nat.add_lt_add_left (qr i hb) _) h))];have c:bo vs b=b::bo vs (b+bC vs b):=by rw[bo,dif_pos hb]
       unfold j8;congr 1;refine List.filter_congr λx r=>?_;have j:=(gO vs a).2 x r;rw[c];have:decide (((b:Nat):Int)=(x:Int))=false:=AI (by exactλt=>f.1 (Nat.le_antisymm (A1 j (AL (Int.ofNat.inj t).symm)) (Nat.le_of_not_lt g)));show eM _ _=(decide (((b:Nat):Int)=(x:Int))||eM _ _);rw[this,Bool.false_or]
   ·exact s a b f
theorem F9(vs:List Nat)(a b:Nat):Ip vs (ow vs a b)=yK (j8 vs a b):=IK vs _ a b (AT _)
noncomputable abbrev baseI:Int:=10^Int.toNat 30+57
noncomputable abbrev ctP:Ct:=⟨9,cb (kT 133),[],[]⟩
noncomputable abbrev KF:List Stmt:=jB (cJ (bz (kT 133)) 1 pz)
noncomputable abbrev j3(cs:List D)(s:D):Sig:=[("script",.v (.list cs)),("store",.v s)]
noncomputable abbrev zl(cs:List D)(s c:D):Sig:=[("script",.v (.list cs)),("store",.v s),("cell",.v c)]
section
variable{cs:List D}{s c:Int}
noncomputable abbrev GA:Claim:=.p (0<=(30:Int)/\((Builtin.Int.intBits 10:Nat):Int)*30<=2^27)
theorem zY:((cr 40).ss ctP KF (zl cs (.sym s) (.sym c)) []).map (λr=>(r.a,r.σ,r.c))=some (.next,zl cs (.sym (s*baseI+c.fmod baseI)) (.sym c),[GA,.p (IntMulOk s baseI),GA]):=by kernel_rfl
theorem EY(d:D):(nV ctP (eU (cJ (bz (kT 133)) 1 pz) pz) d (j3 cs (.sym s)) []).map (λr=>(r.σ,r.c))=some (zl cs (.sym s) d,[]):=by kernel_rfl
theorem EM:(dj (cr 40) ctP ((bz (kT 133)).take 2) [("script",.v (.list cs))] [.w .next (j3 cs d)]).map (λr=>(r.σ,r.c))=some (j3 cs d,[.le cs.length NN,.le (cH cs none (some 40) none).length NN,.p (x8 ctP (eU (cJ (bz (kT 133)) 1 pz) pz) KF (cH (cH cs none (some 40) none) none none (some (-1))) (j3 cs (.int 0)) .next (j3 cs d))]):=by kernel_rfl
def mX(P:Nat->Pos)(X:Nat->PySem.Expr):Prop:=bz (kT 133)=(bz (kT 133)).take 2++[.Return (some (X 0)) (P 0)]/\(X 0)=Gb (cJ (bz (kT 133)) 2 pz)
theorem jp:∃P X,mX P X:=⟨nP [_],nd [_],rfl,rfl⟩
noncomputable def M6:Nat->Pos:=jp.choose
noncomputable def peX:Nat->PySem.Expr:=jp.choose_spec.choose
theorem qj:mX M6 peX:=jp.choose_spec.choose_spec
theorem E7:((cr 40).e ctP (Gb (cJ (bz (kT 133)) 2 pz)) (j3 cs d) []).map (λr=>(match r.a with|.o k=>some k|.d _=>none,r.σ,r.c))=some (some (.list [d,.int (127+((cs.length:Nat):Int).fmod 1000),.int 0]),j3 cs d,[.le cs.length NN]):=by kernel_rfl
end
theorem Hp{σ τ:Sig}{o:List Orc}{cl:List Claim}{k n:Nat}{sc:Scope}{ask:List Addr}{e:PySem.Expr}{kk:js}(b:Fm ⟨k,sc,[],ask⟩)(h:((cr n).e ⟨k,sc,[],ask⟩ e σ o).map (λr=>(match r.a with|.o k=>some k|.d _=>none,r.σ,r.c))=some (some kk,τ,cl))(j:bx cl)(g:bT σ=true)(i:bT τ=true):x5 b.A b.env b.g e σ kk τ:=by obtain⟨r,m,q⟩:=AD.mp h;simp only[Prod.mk.injEq]at q;have:=r.h (by rw[q.2.2];exact j);obtain⟨a,l,u,p,t⟩:=r;dsimp only at q this;cases a with|d d=>cases q.1|o k'=>have f:k'=kk:=A0 q.1;subst f;have:=this b;rw[q.2.1,fh rfl b,eO g,eO i]at this;exact this
noncomputable def JI:List D->Int->Int|.sym c::r,s=>JI r (s*baseI+c.fmod baseI)|_,s=>s
theorem yO(h:fc A env g p σ τ):∀(Y:Yd)(s:Shared)(H:Addr->Obj->Prop)(Q:Flow->Shared->Prop)(E:Value->Shared->Prop),gP env g Y σ s.heap H->(∀h' n H',gP env g Y τ h' H'->Sb H H'->wpAny (model P0 w) A (execs r env) Q E (uS s h' n))->wpAny (model P0 w) A (execs (p++r) env) Q E s:=by induction h with|nil=>intro Y s H Q E R K;exact K s.heap s.toks H R λU U q=>q|cons h _ m=>intro Y s H Q E R K;refine wpAny_execs_cons (h Y s H _ E R λf v u H1 i b l=>?_);cases f<;>first|exact l.elim|exact m Y _ H1 Q E i λk t e j d=>K k t e j λa o q=>d a o (b a o q)
theorem mB:baseI<2^100/\0<baseI:=⟨by decide+kernel,by decide+kernel⟩
section
theorem yZ(a:Fm ctP):∀(ds:List D)(s:Int)(m:Nat),(∀d∈ds,∃c,d=.sym c)->0<=s->s<2^(100*m)->m+ds.length<=1000->d6 a.A a.env a.g (eU (cJ (bz (kT 133)) 1 pz) pz) KF ds (j3 cs (.sym s)) .next (j3 cs (.sym (JI ds s))):=by intro E;induction E with|nil=>intro s m _ _ _ _;exact .nil|cons d ds B=>
   intro s m i g u b;obtain⟨c,rfl⟩:=i d A4;rw[AJ]at b;have q:=Int.fmod_nonneg_of_pos c mB.2;have r:=Int.fmod_lt_of_pos c mB.2;have y:=mB.1;have h:=mB.2;have o:(2:Int)^(100*(m+1))=2^(100*m)*2^100:=by rw[Nat.mul_add,Int.pow_add]
   have C:s*baseI+c.fmod baseI<2^(100*(m+1)):=by
     have j:s*baseI+c.fmod baseI<(s+1)*baseI:=by rw[Int.add_mul,Int.one_mul];exact Int.add_lt_add_left r _
     have l:(s+1)*baseI<=2^(100*m)*baseI:=Int.mul_le_mul_of_nonneg_right (by exact u) (by exact Int.le_of_lt h);have n:(2:Int)^(100*m)*baseI<=2^(100*m)*2^100:=Int.mul_le_mul_of_nonneg_left (by exact Int.le_of_lt y) (by omega);rw[o];exact Int.lt_of_lt_of_le j (Int.le_trans l n)
   have t:0<=s*baseI+c.fmod baseI:=by have:=Int.mul_nonneg g (Int.le_of_lt h);exact Int.add_nonneg this q
   have z:=B (s*baseI+c.fmod baseI) (m+1) (λx A=>i x (A5 _ A)) t C (by exact A1 (AL (Nat.succ_add_eq_add_succ _ _)) b);have f:IntMulOk s baseI:=by
     refine IntMulOk.of_bits (A1 (intBits_le (k:=100*m) ?_) ?_) (A1 (intBits_le (k:=100) ?_) (by decide))
     · have:(s.natAbs:Int)=s:=Int.natAbs_of_nonneg g;have:((2^(100*m):Nat):Int)=2^(100*m):=by rw[Int.natCast_pow];rfl
       omega
     · have:(2:Nat)^20=1048576:=by decide
       exact wk (Ah 100 (A1 (A7 _ _) b)) rfl
     ·decide+kernel
   have p:GA.holds:=by show 0<=(30:Int)/\((Builtin.Int.intBits 10:Nat):Int)*30<=2^27;decide+kernel
   have hb:=cc a (zY (cs:=cs) (s:=s) (c:=c)) ⟨p,f,p,trivial⟩ rfl rfl;exact .next (ie a (EY (.sym c)) trivial rfl rfl) (dW.pre (e:=[("cell",.v (.sym c))]) hb rfl) (.inl rfl) z
theorem oM{xs:List D}{lo h st:Option Int}:∀d∈cH xs lo h st,d∈xs:=λd hd=>by unfold cH at hd;obtain⟨i,U,e⟩:=List.mem_filterMap.mp hd;exact List.mem_of_getElem? e
theorem qk:(cH xs none (some 40) none).length<=xs.length/\(cH xs none none (some (-1))).length<=xs.length:=by
 constructor;·unfold cH;refine A1 (List.length_filterMap_le _ _) (sliceRange_length_le _ _ _ _ (λU=>⟨?_,?_⟩) λh=>(h ?_).elim)<;>(unfold sliceBounds;simp;try exact Int.max_le.2 ⟨AP _,Int.min_le_right _ _⟩)
 ·unfold cH;refine A1 (List.length_filterMap_le _ _) (sliceRange_length_le _ _ _ _ (λh=>?_) λU=>⟨?_,?_⟩)<;>(unfold sliceBounds at*;simp at*)
theorem I9(h:bM H vs [d,.int i,.int j])(g:d=.int x\/d=.sym x):bM H' vs [.sym x,.sym i,.int j]:=by obtain⟨U,U,rfl,a,h⟩:=h.inv;obtain⟨U,U,rfl,d2,e⟩:=h.inv;obtain⟨U,U,rfl,b,f⟩:=e.inv;obtain rfl:=f.inv;obtain⟨U,rfl⟩:=d2.inv;obtain⟨U,rfl⟩:=b.inv;refine .cons ?_ (.cons (.sym _ _) (.cons (.int _ _) .nil));rcases g with rfl|rfl<;>(obtain⟨_,rfl⟩:=a.inv;exact .sym _ _)
theorem Hl{cs:List D}(hc:∀d∈cs,∃c,d=.sym c)(Q:cs.length<=63):∃S b,bP 10 1285 [.list cs] (.list [.sym S,.sym b,.int 0]):=by
 obtain⟨l1,l2⟩:=qk (xs:=cs);have l3:=(qk (xs:=cH cs none (some 40) none)).2;have ag:∃d x,(d=.int x\/d=.sym x)/\∀f:Fm ctP,d6 f.A f.env f.g (eU (cJ (bz (kT 133)) 1 pz) pz) KF (cH (cH cs none (some 40) none) none none (some (-1))) (j3 cs (.int 0)) .next (j3 cs d):=by have hm:∀d∈cH (cH cs none (some 40) none) none none (some (-1)),∃c,d=.sym c:=λd hd=>hc d (oM d (oM d hd));cases ac:cH (cH cs none (some 40) none) none none (some (-1))with|nil=>exact⟨.int 0,0,.inl rfl,λf=>.nil⟩|cons d r=>rw[ac]at hm l3;exact⟨_,_,.inr rfl,λf=>d6.preS (yZ (cs:=cs) f (d::r) 0 0 hm (Int.le_refl _) (by decide) (by exact wk (A1 (AL (Nat.zero_add _)) (A1 l3 (A1 l1 Q))) rfl)) (.cons (.inl rfl) (.cons (.inr (.inl ⟨0,rfl,rfl⟩)) (.refl _)))⟩
 refine cI λG H=>?_;obtain⟨d,x,i,hL⟩:=ag;refine H ?_;refine⟨x,127+((cs.length:Nat):Int).fmod 1000,?_⟩;refine cI λG H=>?_;obtain⟨fd,V,hF,L,af,aa,ab,hk⟩:=gS.ok;have ae:V=[]:=by have:=(ab λU U=>False).length;exact List.eq_nil_of_length_eq_zero this
 subst ae;refine H ?_;intro A g fr s X args R C S h K;refine fS (hid:=[]) (X:=X) (vs:=args++[]) (σ0:=[("script",.v (.list cs))]) (ad0:=λU=>0) hF af (λKH=>aa s KH args (h.length)) (by rw[L];exact hk) C S (λa z=>by exact absurd z A3) (λy d' e'=>?_) (λy k p e'=>?_) (λy z k k' p p' e'=>?_) λA' env g' ai H₁ B Y U l U hH u=>?_;·have E:bM (Fz s.heap (λa=>X a\/a∈([]:List Addr))) (args++[]) ([.list cs]++[]):=(h.mono λa o q=>⟨q.1,λz=>q.2 (z.elim id λz=>by exact absurd z A3)⟩).append .nil;exact fB (xs:=["script"]) E y d' e'
 ·unfold bq at e';rw[AK]at e';split at e'<;>cases e'
 ·unfold bq at e';rw[AK]at e';split at e'<;>cases e'
 · obtain⟨M,t,rfl⟩:=l;let f:Fm ctP:=yp B L [] [] (λU=>none) λU U=>rfl;have I:fc f.A f.env f.g ((bz (kT 133)).take 2) [("script",.v (.list cs))] (j3 cs d):=cL f (EM (cs:=cs) (d:=d)) ⟨by show _<=16777216;exact wk Q rfl,by show _<=16777216;exact wk (A1 l1 Q) rfl,iF rfl (by rcases i with rfl|rfl<;>rfl) hL,trivial⟩ rfl (by rcases i with rfl|rfl<;>rfl);have J:x5 f.A f.env f.g (peX 0) (j3 cs d) (.list [d,.int (127+((cs.length:Nat):Int).fmod 1000),.int 0]) (j3 cs d):=by rw[qj.2];exact Hp f E7 ⟨by show _<=16777216;exact wk Q rfl,trivial⟩ (by rcases i with rfl|rfl<;>rfl) (by rcases i with rfl|rfl<;>rfl)
   have j:gS.body=bz (kT 133):=rfl;rw[j,qj.1];refine yO I _ (uS s M t) H₁ _ _ u λh1 ah H1 T N=>?_;refine cI λG H=>?_;obtain⟨m,cm,ad,T⟩:=T;refine H ?_;refine wpAny_execs_cons (wpAny_Return_some (J ⟨_,m,cm,ad⟩ (uS s h1 ah) H1 _ _ T λv h' tk H' a o R' sub ok ga nY nf=>?_));obtain⟨R2,O,U⟩:=bD.dropY R' (jF nY) (jF nf);obtain⟨kp,out⟩:=gP.out (X:=X) Y.2.2.2 Y.2.2.1 S.there hH (λa o q=>O a o (sub a o (N a o q))) ⟨m,cm,ad,R2⟩;obtain⟨ev,vs,n,hg,dl⟩:=ok;obtain rfl:=A0 ev;refine K _ h' tk a (λb o e=>kp b o (by simp) e) ⟨rfl,vs,n,hg,I9 dl i⟩ ?_;·have e:g'.e.get? a=none:=ga;rw[Y.1]at e;exact e
end
noncomputable abbrev rh:List Addr:=[1285,1292,1304,1297,1124,1117,1309,1136,1176,1314,1096,1103,1183,1321]
noncomputable abbrev ctLaw:Ct:=⟨20,cb (kT 140),[],rh⟩
noncomputable abbrev dm:List Stmt:=bz (kT 140)
noncomputable abbrev GU(cs:List D):Sig:=[("script",.v (.list cs))]
noncomputable abbrev An(pl cs es:List D):Sig:=[("pen",.o (.list pl) none),("script",.v (.list cs)),("octets",.o (.list es) none)]
noncomputable abbrev DK(pl cs es bg:List D)(bt:Array UInt8):Sig:=[("pen",.o (.list pl) none),("script",.v (.list cs)),("octets",.v (.list es)),("begins",.o (.list bg) none),("iset",.v bv),("held",.v (.bytes bt)),("leads",.o (.dict []) none)]
noncomputable abbrev l9(pl cs es bg:List D)(bt:Array UInt8)(ld:List (Int×D)):Sig:=[("pen",.o (.list pl) none),("script",.v (.list cs)),("octets",.v (.list es)),("begins",.v (.list bg)),("iset",.v bv),("held",.v (.bytes bt)),("leads",.o (.dict ld) none)]
noncomputable abbrev nJ(pl cs es bg:List D)(bt:Array UInt8)(ld:List (Int×D))(a:D):Sig:=[("pen",.o (.list pl) none),("script",.v (.list cs)),("octets",.v (.list es)),("begins",.v (.list bg)),("iset",.v bv),("held",.v (.bytes bt)),("leads",.o (.dict ld) none),("at",.v a)]
noncomputable abbrev rL(pl cs es bg:List D)(bt:Array UInt8)(ld:List (Int×D))(a t:D):Sig:=[("pen",.o (.list pl) none),("script",.v (.list cs)),("octets",.v (.list es)),("begins",.v (.list bg)),("iset",.v bv),("held",.v (.bytes bt)),("leads",.o (.dict ld) none),("at",.v a),("target",.v t)]
noncomputable abbrev zX(pl cs es bg hs:List D)(bt:Array UInt8)(ld:List (Int×D)):Sig:=[("pen",.o (.list pl) none),("script",.v (.list cs)),("octets",.v (.list es)),("begins",.v (.list bg)),("iset",.v bv),("held",.v (.bytes bt)),("leads",.v (.dict ld)),("heads",.v (.list hs))]
noncomputable abbrev Iw:PySem.Expr:=sT (cJ dm 1 pz)
noncomputable abbrev Bv:Ct:=⟨20,sR (cb (kT 140)) Iw,[],rh⟩
noncomputable abbrev Hq(pl:List D):Sig:=[("pen",.o (.list pl) none)]
noncomputable abbrev im(pl:List D)(d:D):Sig:=[("pen",.o (.list pl) none),("turn",.v d)]
noncomputable abbrev yR(n:Nat):D:=.recd "range" [.int 0,.int ((n:Nat):Int),.int 1]
noncomputable def ww:List Value:=match(cA w.params).lookup 1271 with|some ⟨_,_,.seq a _,_⟩=>a.toList|_=>[]
section
variable{cs pl pl1 pl2 es bg:List D}{n:Nat}{i t e v x:Int}{d:D}{bt:Array UInt8}{way:PySem.Str}{ld:List (Int×D)}{xs:List D}
theorem Hr:(dj (cr 40) ctLaw (dm.take 2) (GU cs) [.o .none (.list pl),.o (.int ((n:Nat):Int)) (.list pl1),.td (yR n),.td .none,.l es (im pl2 d)]).map (λr=>(r.σ,r.c))=some (An pl2 cs es,[.p (bP 20 1285 [.list cs] (.list pl)),.p (cq 20 1292 (.list pl) [.int 12] (.int ((n:Nat):Int)) (.list pl1)),.p (∀A:Around,A.handled=none->A.units+8<cLine->Bc A (.type "range") [.int ((n:Nat):Int)] (yR n)),.le n NN,.p (uT Bv "turn" [] (dR Iw) (eI false n 0) (Hq pl1) es (im pl2 d)),.le es.length NN]):=by kernel_rfl
theorem CB:(dj (cr 40) ctLaw (dm.take 2) (GU cs) [.o .none (.list pl),.o (.int ((0:Nat):Int)) (.list pl1),.td (yR 0),.td .none]).map (λr=>(r.σ,r.c))=some (An pl1 cs [],[.p (bP 20 1285 [.list cs] (.list pl)),.p (cq 20 1292 (.list pl) [.int 12] (.int ((0:Nat):Int)) (.list pl1)),.p (∀A:Around,A.handled=none->A.units+8<cLine->Bc A (.type "range") [.int ((0:Nat):Int)] (yR 0)),.le 0 NN,.le 0 NN]):=by kernel_rfl
theorem DW:((cr 40).d Bv (dR Iw) (im pl d) [.o (.sym v) (.list pl1),.d (.sym x)]).map (λr=>(r.a,r.σ,r.c))=some (.sym x,im pl1 d,[.p (cq 20 1292 (.list pl) [.int 14] (.sym v) (.list pl1)),.p (gX v/\∃j,seqIndex? v (ww).length=some j/\((ww).map ot)[j]?=some (.int x))]):=by kernel_rfl
theorem p8:(ww).map ot=pool.map λx=>D.int ((x:Nat):Int):=by kernel_rfl
theorem GD:(dj (cr 40) ctLaw ((dm.drop 2).take 2) (An pl cs es) [.td (.bytes bt),.e bv,.o .none (.list bg)]).map (λr=>(r.σ,r.c))=some (DK pl cs es bg bt,[.p (∀A:Around,A.handled=none->A.units+8<cLine->Bc A (.type "bytes") [.list es] (.bytes bt)),.p (pe ctLaw (w8 (sT (cJ dm 2 pz)) 1) [("pen",.o (.list pl) none),("script",.v (.list cs)),("octets",.v (.list es))] bv [("pen",.o (.list pl) none),("script",.v (.list cs)),("octets",.v (.list es))]),.p (bP 20 1304 [.list es,.int 0] (.list bg))]):=by kernel_rfl
theorem F1:(dj (cr 40) ctLaw ((dm.drop 4).take 1) (DK pl cs es bg bt) [.w .next (l9 pl cs es bg bt ld)]).map (λr=>(r.σ,r.c))=some (l9 pl cs es bg bt ld,[.p (x8 ctLaw (eU (cJ dm 4 pz) pz) (jB (cJ dm 4 pz)) bg (l9 pl cs es bg bt []) .next (l9 pl cs es bg bt ld))]):=by kernel_rfl
noncomputable abbrev tW:List Stmt:=jB (cJ dm 4 pz)
noncomputable abbrev sM(es:List D)(i:Int)(way:PySem.Str)(e:Int)(d:D):Claim:=.p (br 20 1297 [.list es,.sym i] (.tuple [.str way,.sym e,d]))
theorem yl:((cr 40).ss ctLaw tW (nJ pl cs es bg bt ld (.sym i)) [.d (.tuple [.str way,.sym e,.none])]).map (λr=>(r.a,r.σ,r.c))=some (.next,rL pl cs es bg bt ld (.sym i) .none,[sM es i way e .none]):=by kernel_rfl
theorem DH:((cr 40).ss ctLaw tW (nJ pl cs es bg bt ld (.sym i)) [.d (.tuple [.str way,.sym e,.sym t]),.b false]).map (λr=>(r.a,r.σ,r.c))=some (.next,rL pl cs es bg bt ld (.sym i) (.sym t),[sM es i way e (.sym t),.p (decide (0<=t)=false)]):=by kernel_rfl
theorem yw:((cr 40).ss ctLaw tW (nJ pl cs es bg bt ld (.sym i)) [.d (.tuple [.str way,.sym e,.sym t]),.b true,.b false]).map (λr=>(r.a,r.σ,r.c))=some (.next,rL pl cs es bg bt ld (.sym i) (.sym t),[sM es i way e (.sym t),.p (decide (0<=t)=true),.le es.length NN,.p (decide (t<(es.length:Int))=false)]):=by kernel_rfl
theorem D5:((cr 40).ss ctLaw tW (nJ pl cs es bg bt ld (.sym i)) [.d (.tuple [.str way,.sym e,.sym t]),.b true,.b true,.d (.list [])]).map (λr=>(r.a,r.σ,r.c))=some (.next,rL pl cs es bg bt (bL ld t (.slist ([]++[.sym i]))) (.sym i) (.sym t),[sM es i way e (.sym t),.p (decide (0<=t)=true),.le es.length NN,.p (decide (t<(es.length:Int))=true),.p ((dc ld t).getD (.list [])=.list []),.le (0+1) NN,.le ld.length NN]):=by kernel_rfl
theorem yP:((cr 40).ss ctLaw tW (nJ pl cs es bg bt ld (.sym i)) [.d (.tuple [.str way,.sym e,.sym t]),.b true,.b true,.d (.slist xs)]).map (λr=>(r.a,r.σ,r.c))=some (.next,rL pl cs es bg bt (bL ld t (.slist (xs++[.sym i]))) (.sym i) (.sym t),[sM es i way e (.sym t),.p (decide (0<=t)=true),.le es.length NN,.p (decide (t<(es.length:Int))=true),.p ((dc ld t).getD (.list [])=.slist xs),.le (xs.length+1) NN,.le ld.length NN]):=by kernel_rfl
theorem CP(d:D):(nV ctLaw (eU (cJ dm 4 pz) pz) d (l9 pl cs es bg bt ld) []).map (λr=>(r.σ,r.c))=some (nJ pl cs es bg bt ld d,[]):=by kernel_rfl
end
abbrev PenT:Type:=Int×Int×Int
noncomputable def gE(p:PenT):List D:=[.sym p.1,.sym p.2.1,.int p.2.2]
noncomputable def fw(m:Int)(p:PenT):PenT:=if p.1>0 then(p.1.fdiv m,p.2.1,p.2.2)else(p.1,Dy p.2.1 p.2.2,p.2.2+1)
noncomputable def fu(m:Int)(p:PenT):Int:=jj m p.1 p.2.1 p.2.2
theorem nU(m:Int)(p:PenT):lA m p.1 p.2.1 p.2.2=gE (fw m p):=by unfold lA fw gE;split<;>rfl
def gK(p:PenT)(N:Int):Prop:=0<=p.2.2/\p.2.2<=N
theorem iL(h:gK p N):gK (fw m p) (N+1):=by
 unfold gK fw at*;split;·exact⟨h.1,by show p.2.2<=N+1;exact Int.le_trans h.2 (Int.le_of_lt (Int.lt_succ _))⟩
 ·exact⟨by show 0<=p.2.2+1;exact Int.add_nonneg h.1 (by decide),by show p.2.2+1<=N+1;exact Int.add_le_add_right h.2 1⟩
section
variable{k:Nat}{f:Addr}{o o':js}{d:D}{m v:Int}{ds:List D}
theorem cq.up(h:cq k f o ds d o'):cq (k+1) f o ds d o':=λA g fr s X v a args R C=>h A g fr s X v a args R C.down
theorem cq.to(h:cq k f o ds d o')(a:k<=j):cq j f o ds d o':=by induction j with|zero=>rw[show k=0 from by exact Nat.le_zero.1 a]at h;exact h|succ m i=>
 by_cases q:k=m+1;·exact q▸h
 ·exact(i (by exact Nat.le_of_lt_succ (Nat.lt_of_le_of_ne a q))).up
theorem vb{H:Addr->Obj->Prop}{v:Value}{i:Int}(h:cx H v (.int i)):cx H v (.sym i):=by obtain⟨U,rfl⟩:=h.inv;exact .sym _ _
theorem uu{H:Addr->Obj->Prop}{v:Value}{i:Int}(h:cx H v (.sym i)):cx H v (.int i):=by obtain⟨U,rfl⟩:=h.inv;exact .int _ _
theorem zS:∀{vs:List Value},bM H vs (ds++[.int m])->bM H vs (ds++[.sym m]):=by induction ds with|nil=>intro vs h;obtain⟨U,U,rfl,a,b⟩:=h.inv;obtain rfl:=b.inv;exact .cons (vb a) .nil|cons d r i=>intro vs h;obtain⟨U,U,rfl,a,b⟩:=h.inv;exact .cons a (i b)
theorem cq.arg(h:cq k f o [.sym m] d o'):cq k f o [.int m] d o':=λA g fr s X v a args R C S c b e dl K=>h A g fr s X v a _ R C S c b e (zS (ds:=[]) dl) K
theorem cq.res(h:cq k f o ds (.sym v) o'):cq k f o ds (.int v) o':=λA g fr s X u a args R C S c b l dl K=>h A g fr s X u a args R C S c b l dl λr h' t e i j=>K r h' t e i (uu j)
theorem br.arg3(h:br k f [a,b,.sym m] d):br k f [a,b,.int m] d:=λA g fr s X args R C S dl K=>h A g fr s X _ R C S (zS (ds:=[a,b]) dl) K
theorem br.arg2(h:br k f [a,.sym m] d):br k f [a,.int m] d:=λA g fr s X args R C S dl K=>h A g fr s X _ R C S (zS (ds:=[a]) dl) K
end
section
variable{p:PenT}{N:Int}
theorem DD(h:gK p N)(e:N<1000000):cq 20 1292 (.list (gE p)) [.int 12] (.int (fu 12 p)) (.list (gE (fw 12 p))):=by have:=(xR (a:=p.1) (b:=p.2.1) (c:=p.2.2) h.1 (by have:=h.2;exact AQ this e)).to (j:=20) (by decide);rw[nU]at this;exact this.res
theorem CZ(h:gK p N)(e:N<1000000):cq 20 1292 (.list (gE p)) [.int 14] (.sym (fu 14 p)) (.list (gE (fw 14 p))):=by have:=(xc (a:=p.1) (b:=p.2.1) (c:=p.2.2) h.1 (by have:=h.2;exact AQ this e)).to (j:=20) (by decide);rw[nU]at this;exact this
theorem zn(m0:0<m)(g:m<1000000)(h:gK p N)(e:N<1000000):cq 20 1292 (.list (gE p)) [.int m] (.sym (fu m p)) (.list (gE (fw m p))):=by have:=(zQ (m:=m) (a:=p.1) (b:=p.2.1) (c:=p.2.2) m0 g h.1 (by have:=h.2;exact AQ this e)).to (j:=20) (by decide);rw[nU]at this;exact this.arg
theorem fQ(h:0<m)(p:PenT):0<=fu m p/\fu m p<m:=sZ h _ _ _
end
noncomputable def jE:Nat->PenT->List Nat×PenT|0,p=>([],p)|k+1,p=>(pool.getD (fu 14 p).toNat 0::(jE k (fw 14 p)).1,(jE k (fw 14 p)).2)
theorem mP:∀(k:Nat)(p:PenT),(jE k p).1.length=k|0,p=>rfl|k+1,p=>by unfold jE;rw[AJ,mP k]
theorem xA:∀(k:Nat)(p:PenT),∀x∈(jE k p).1,x∈pool:=by intro z;induction z with|zero=>intro p x h;exact absurd h A3|succ k i=>
   intro p x h;unfold jE at h;rcases A6.mp h with rfl|h
   · obtain⟨b,c⟩:=fQ (m:=14) (by decide) p;have a:(fu 14 p).toNat<pool.length:=by show _<14;exact(Int.toNat_lt b).2 c
     rw[dS a];exact List.getElem_mem a
   ·exact i _ x h
theorem wv:∀(k:Nat)(p:PenT)(N:Int),gK p N->gK (jE k p).2 (N+k)|0,p,N,h=>by unfold jE;simpa using h|k+1,p,N,h=>by have:=wv k (fw 14 p) (N+1) (iL h);unfold jE;rw[show N+((k+1:Nat):Int)=N+1+(k:Int)from by omega];exact this
noncomputable def Bm:Nat->Nat->D->D|0,_,d=>d|k+1,i,_=>Bm k (i+1) (.int ((i:Nat):Int))
section
theorem vY(h:gK p N)(i:N<1000000)(a:Fm Bv):Ev a.A a.env a.g (dR Iw) (im (gE p) d) (.sym ((pool.getD (fu 14 p).toNat 0:Nat):Int)) (im (gE (fw 14 p)) d):=by
 obtain⟨b,c⟩:=fQ (m:=14) (by decide) p;have g:(fu 14 p).toNat<pool.length:=by show _<14;exact(Int.toNat_lt b).2 c
 have e:(ww).length=14:=by have:=congrArg List.length (p8);rw[AM,AM]at this;exact this
 refine lL a (DW (v:=fu 14 p) (x:=((pool.getD (fu 14 p).toNat 0:Nat):Int))) ⟨CZ h i,⟨⟨by exact Int.le_trans (by decide) b,by exact Int.lt_trans c (by decide)⟩,(fu 14 p).toNat,?_,?_⟩,trivial⟩ rfl rfl;·rw[e];exact LP b c
 ·rw[p8,List.getElem?_map,AN g,dS g];rfl
theorem Bt(a:Fm Bv):∀(k i:Nat)(p:PenT)(N:Int)(b:D),gK p N->N+k<1000000->eA a.A a.env a.g "turn" [] (dR Iw) (eI false k i) (im (gE p) b) (bm (jE k p).1) (im (gE (jE k p).2) (Bm k i b)):=by intro z;induction z with|zero=>intro i p N b _ _;exact .nil|succ k c=>intro i p N b h e;exact .take (show iy a.A a.env a.g [] (bO (im (gE p) b) "turn" (.v (.int ((i:Nat):Int)))) true (im (gE p) (.int ((i:Nat):Int)))from⟨rfl,rfl⟩) (vY h (by omega) a) (c (i+1) (fw 14 p) (N+1) _ (iL h) (by omega))
theorem xv(a:Fm Bv)(k:Nat)(p:PenT)(N:Int)(h:gK p N)(b:N+(k+1:Nat)<1000000):eA a.A a.env a.g "turn" [] (dR Iw) (eI false (k+1) 0) (Hq (gE p)) (bm (jE (k+1) p).1) (im (gE (jE (k+1) p).2) (Bm (k+1) 0 .none)):=.take (show iy a.A a.env a.g [] (bO (Hq (gE p)) "turn" (.v (.int ((0:Nat):Int)))) true (im (gE p) (.int ((0:Nat):Int)))from⟨rfl,rfl⟩) (vY h (by omega) a) (Bt a k 1 (fw 14 p) (N+1) _ (iL h) (by omega))
theorem HZ(g:gK p 0)(h:bP 20 1285 [.list cs] (.list (gE p)))(a:Fm ctLaw):∃vs q,(∀x∈vs,x∈pool)/\vs.length<=11/\gK q 20/\fc a.A a.env a.g (dm.take 2) (GU cs) (An (gE q) cs (bm vs)):=by
 obtain⟨l,c⟩:=fQ (m:=12) (by decide) p;obtain⟨n,b⟩:∃n:Nat,fu 12 p=(n:Int):=⟨(fu 12 p).toNat,by exact(Int.toNat_of_nonneg l).symm⟩;have e:=DD g (by decide);rw[b]at e;have i:=iL (m:=12) g;have j:∀A:Around,A.handled=none->A.units+8<cLine->Bc A (.type "range") [.int ((n:Nat):Int)] (yR n):=λA U U=>se rfl;refine⟨(jE n (fw 12 p)).1,(jE n (fw 12 p)).2,xA _ _,by rw[mP];exact Ab.1 (Int.le_of_lt_add_one (b▸c)),?_,?_⟩;·have:=wv n _ _ i;exact⟨this.1,by have:=this.2;exact Int.le_trans this (Int.le_trans (Int.add_le_add_left (Int.le_of_lt (b▸c)) _) (by decide))⟩
 ·cases n with|zero=>exact cL a CB ⟨h,e,j,AW _,AW _,trivial⟩ rfl rfl|succ n=>refine cL a Hr ⟨h,e,j,by show n+1<=16777216;exact wk (Nat.le_of_lt (Aa.1 (b▸c))) rfl,ia rfl rfl λa=>xv a n _ _ i (by exact AQ (Int.add_le_add_left (Int.le_of_lt (b▸c)) _) (by decide)),?_,trivial⟩ rfl rfl;rw[bH,mP];show n+1<=16777216;exact wk (Nat.le_of_lt (Aa.1 (b▸c))) rfl
end
def lD(P:Nat->Pos):Prop:=w8 (sT (cJ dm 2 pz)) 1=.Call (.Name "InstructionSet" (P 0)) [.Call (.Name "flow_forms" (P 1)) [] [] (P 2)] [] (P 3)
theorem lQ:∃P,lD P:=⟨nP [_,_,_,_],rfl⟩
noncomputable def isP:Nat->Pos:=lQ.choose
theorem uf:lD isP:=lQ.choose_spec
theorem uI(vs:List Nat):((dZ vs).map λn=>n.toNat.toUInt8).toArray=bj vs:=by unfold dZ bj;rw[List.map_map];congr 1
section
variable{vs:List Nat}{pl cs bg:List D}
theorem FP(h:∀x∈vs,x∈pool)(b:vs.length<=11)(a:Fm ctLaw):fc a.A a.env a.g ((dm.drop 2).take 2) (An pl cs (bm vs)) (DK pl cs (bm vs) (bm (bo vs 0)) (bj vs)):=by
 have hb:=qF h;refine cL a GD ⟨λA c U=>?_,λa=>?_,(sP h b).to (by decide),trivial⟩ rfl rfl;·rw[<-uI];refine tc c (.inl rfl) (qf vs) (λn e=>?_) (by rw[bH];exact wk b rfl);obtain⟨m,d,rfl⟩:=(i6 vs n).mp e;have:=hb m d;exact⟨AP _,Aa.2 this⟩
 ·rw[uf];exact EG (k:=20) (by decide) a.C (g1 a.O a.C ((a.kind _).trans (by kernel_rfl)) (by kernel_rfl) (by decide+kernel)) (g1 a.O a.C ((a.kind _).trans (by kernel_rfl)) (by kernel_rfl) (by decide+kernel))
theorem yN(r:∀x∈vs,x∈pool)(j:vs.length<=11)(p:n<vs.length)(o:m.length<=11)(s:∀k xs,gW m k=some xs->xs.length<=11)(a:Fm ctLaw):dW a.A a.env a.g tW (nJ pl cs (bm vs) bg (bj vs) (dP m) (.sym n)) .next (l9 pl cs (bm vs) bg (bj vs) (dP (cO vs m n))):=by
 have hs:(bm vs).length<=NN:=by rw[bH];exact A1 j (by decide)
 have h:(dP m).length<=NN:=by unfold dP;rw[AM];show _<=16777216;exact wk o rfl
 have b:=(m1 r j p).to (m:=20) (by decide);unfold cO;cases i:cB vs n with|none=>rw[i]at b;exact dW.pre (e:=[("at",.v (.sym (n:Int))),("target",.v .none)]) (cc a yl ⟨b,trivial⟩ rfl rfl) rfl|some t=>
   rw[i]at b;dsimp only;by_cases c:0<=t
   · by_cases d:t<vs.length;·rw[if_pos ⟨c,d⟩,<-oE];have g:decide (t<((bm vs).length:Int))=true:=AB (by rw[bH];exact d);cases f:gW m t with|none=>exact dW.pre (e:=[("at",.v (.sym (n:Int))),("target",.v (.sym t))]) (cc a D5 ⟨b,AB c,hs,g,by show(dc _ _).getD _=_;rw[iQ,f];rfl,by show 0+1<=16777216;decide,h,trivial⟩ rfl rfl) rfl|some xs=>have l:=s t xs f;exact dW.pre (e:=[("at",.v (.sym (n:Int))),("target",.v (.sym t))]) (cc a yP ⟨b,AB c,hs,g,by show(dc _ _).getD _=_;rw[iQ,f];rfl,by show xs.length+1<=16777216;exact wk (AE l) rfl,h,trivial⟩ rfl rfl) rfl
     ·rw[if_neg (λq=>d q.2)];exact dW.pre (e:=[("at",.v (.sym (n:Int))),("target",.v (.sym t))]) (cc a yw ⟨b,AB c,hs,AI (by rw[bH];exact d),trivial⟩ rfl rfl) rfl
   ·rw[if_neg (λq=>c q.1)];exact dW.pre (e:=[("at",.v (.sym (n:Int))),("target",.v (.sym t))]) (cc a DH ⟨b,AI c,trivial⟩ rfl rfl) rfl
theorem yH(g:∀x∈vs,x∈pool)(j:vs.length<=11)(a:Fm ctLaw):∀(ns:List Nat)(m:List (Int×List D))(c:Nat),(∀x∈ns,x<vs.length)->m.length<=c->(∀k xs,gW m k=some xs->xs.length<=c)->c+ns.length<=11->d6 a.A a.env a.g (eU (cJ dm 4 pz) pz) tW (bm ns) (l9 pl cs (bm vs) bg (bj vs) (dP m)) .next (l9 pl cs (bm vs) bg (bj vs) (dP (ns.foldl (cO vs) m))):=by intro ns;induction ns with|nil=>intro m c _ _ _ _;exact .nil|cons n ns l=>intro m c b d f h;rw[AJ]at h;rw[List.foldl_cons];exact .next (ie a (CP (.sym (n:Int))) trivial rfl rfl) (yN g j (b n A4) (by exact A1 d (A1 (A7 _ _) h)) (λk xs e=>by have:=f k xs e;exact A1 this (A1 (A7 _ _) h)) a) (.inl rfl) (l _ (c+1) (λx i=>b x (A5 _ i)) (by have:=iU vs m n;exact A1 this (AE d)) (l4 vs m n f) (by exact A1 (AL (Nat.succ_add_eq_add_succ _ _)) h))
theorem Gg(c:∀x∈vs,x∈pool)(h:vs.length<=11)(a:Fm ctLaw):fc a.A a.env a.g ((dm.drop 4).take 1) (DK pl cs (bm vs) (bm (bo vs 0)) (bj vs)) (l9 pl cs (bm vs) (bm (bo vs 0)) (bj vs) (dP (ju vs))):=by have b:=eD vs 0;exact cL a F1 ⟨iF rfl rfl λa=>yH c h a (bo vs 0) [] 0 (d9 vs 0) (by decide) (λk xs e=>by exact ca e) (by exact A1 (AL (Nat.zero_add _)) (A1 b h)),trivial⟩ rfl rfl
end
noncomputable abbrev BY(pl cs es bg hs:List D)(bt:Array UInt8)(ld:List (Int×D))(one other:Int)(mine yours:List D):Sig:=[("pen",.o (.list pl) none),("script",.v (.list cs)),("octets",.v (.list es)),("begins",.v (.list bg)),("iset",.v bv),("held",.v (.bytes bt)),("leads",.v (.dict ld)),("heads",.v (.list hs)),("other",.v (.sym other)),("one",.v (.sym one)),("mine",.o (.list mine) none),("yours",.o (.list yours) none)]
noncomputable abbrev jW(pl cs es bg hs:List D)(bt:Array UInt8)(ld:List (Int×D))(one other:Int)(mine yours com:List D):Sig:=[("yours",.o (.list yours) none),("pen",.o (.list pl) none),("script",.v (.list cs)),("octets",.v (.list es)),("begins",.v (.list bg)),("iset",.v bv),("held",.v (.bytes bt)),("leads",.v (.dict ld)),("heads",.v (.list hs)),("other",.v (.sym other)),("one",.v (.sym one)),("mine",.v (.list mine)),("common",.o (.list com) none)]
noncomputable def Nx:PySem.Expr->Nat->PySem.Expr|.BoolOp _ es p,i=>(vh es i).getD (.BoolOp .Or [] p)|e,_=>e
noncomputable def Lz:PySem.Expr->PySem.Expr|.Compare l _ _ _=>l|e=>e
noncomputable def JZ:Stmt->PySem.Expr|.If t _ _ _=>t|_=>w8 (sT (cJ [] 0 pz)) 0
noncomputable abbrev EN:PySem.Expr:=Lz (Nx (JZ (cJ dm 7 pz)) 1)
noncomputable abbrev Kn:Ct:=⟨20,sR (cb (kT 140)) EN,[],rh⟩
noncomputable abbrev FG:PySem.Expr:=sT (cJ dm 11 pz)
noncomputable abbrev C7:Ct:=⟨20,sR (cb (kT 140)) FG,[],rh⟩
noncomputable abbrev KC(yours:List D):Sig:=[("yours",.o (.list yours) none)]
noncomputable abbrev uc(yours:List D)(d:D):Sig:=[("yours",.o (.list yours) none),("at",.v d)]
noncomputable abbrev Js(f:Value)(ds:List D)(d:D):Claim:=.p (∀A:Around,A.handled=none->A.units+8<cLine->Bc A f ds d)
noncomputable abbrev JW(o:Operator)(a b d:D):Claim:=.p (∀A:Around,A.handled=none->A.units+8<cLine->et A (binaryOp o) a b d)
section
variable{cs pl pl3 pl4 es bg hs ls rs bk bl tl mine yours st0 st1 com:List D}{n m i t e v x one other:Int}{d F F0 R:D}{bt:Array UInt8}{ld rf:List (Int×D)}{xs:List D}
theorem F4:(dj (cr 40) ctLaw ((dm.drop 8).take 2) (zX pl cs es bg hs bt ld) [.td (.int n),.td (.int m),.o (.sym one) (.list pl3),.td (.int n),.td (.int m),.o (.sym other) (.list pl4),.o .none (.list mine),.o .none (.list yours)]).map (λr=>(r.σ,r.c))=some (BY pl4 cs es bg hs bt ld one other mine yours,[Js (.builtin "len") [.list es] (.int n),JW .Add (.int n) (.int 1) (.int m),.p (cq 20 1292 (.list pl) [.int m] (.sym one) (.list pl3)),Js (.builtin "len") [.list es] (.int n),JW .Add (.int n) (.int 1) (.int m),.p (cq 20 1292 (.list pl3) [.int m] (.sym other) (.list pl4)),.p (bP 20 1304 [.list es,.sym one] (.list mine)),.p (bP 20 1304 [.list es,.sym other] (.list yours))]):=by kernel_rfl
theorem Ht:(dj (cr 40) ctLaw ((dm.drop 10).take 2) (BY pl cs es bg hs bt ld one other mine yours) [.o .none (.list st0),.t false,.o .none (.list st1),.t false,.l com (uc xs d)]).map (λr=>(r.σ,r.c))=some (jW pl cs es bg hs bt ld one other mine xs com,[.p (bP 20 1096 [bv,.bytes bt] (.list st0)),ci .NotEq (.list st0) (.list bg) false,.p (bP 20 1096 [bv,.bytes bt,.sym one] (.list st1)),ci .NotEq (.list st1) (.list mine) false,.p (uT C7 "at" (f0 FG) (dR FG) mine (KC yours) com (uc xs d)),.le com.length NN]):=by kernel_rfl
theorem Ef:(dj (cr 40) ctLaw ((dm.drop 10).take 2) (BY pl cs es bg hs bt ld one other mine yours) [.o .none (.list st0),.t false,.o .none (.list st1),.t false,.l com (KC xs)]).map (λr=>(r.σ,r.c))=some (jW pl cs es bg hs bt ld one other mine xs com,[.p (bP 20 1096 [bv,.bytes bt] (.list st0)),ci .NotEq (.list st0) (.list bg) false,.p (bP 20 1096 [bv,.bytes bt,.sym one] (.list st1)),ci .NotEq (.list st1) (.list mine) false,.p (uT C7 "at" (f0 FG) (dR FG) mine (KC yours) com (KC xs)),.le com.length NN]):=by kernel_rfl
theorem G3(b:Bool):((cr 40).t C7 ((f0 FG).headD FG) (uc yours (.sym i)) [.t b]).map (λr=>(r.a,r.σ,r.c))=some (b,uc yours (.sym i),[ci .In (.sym i) (.list yours) b]):=by kernel_rfl
theorem EK:((cr 40).d C7 (dR FG) (uc yours (.sym i)) []).map (λr=>(r.a,r.σ,r.c))=some (.sym i,uc yours (.sym i),[]):=by kernel_rfl
end
noncomputable def Mo:PySem.Expr->PySem.Expr|.Compare _ _ rs _=>(vh rs 0).getD (.BoolOp .Or [] pz)|e=>e
noncomputable def Nf:PySem.Expr->PySem.Expr|.IfExp _ b _ _=>b|e=>e
noncomputable def Nb:PySem.Expr->PySem.Expr|.Subscript l _ _=>l|e=>e
noncomputable def NV:PySem.Expr->PySem.Expr|.Subscript _ r _=>r|e=>e
noncomputable abbrev Jb:PySem.Expr:=Nf (Mo (JZ (cJ dm 12 pz)))
noncomputable abbrev JS(d:D):Sig:=[("block",.v d)]
section
variable{cs pl pl3 pl4 es bg hs ls rs bk bl tl mine yours st0 st1 com:List D}{n m i t e v x one other a b:Int}{d F F0 R:D}{bt:Array UInt8}{ld rf:List (Int×D)}{xs fs:List D}{o:D}
theorem HX:(dj (cr 40) ctLaw ((dm.drop 5).take 3) (l9 pl cs es bg bt ld) [.o .none (.dict rf),.t false,.d (.slist ls),.t false,.d (.list hs),.d (.slist rs),.t false,.o .none (.list bk),.l tl (JS d),.o .none (.list bl),.t false]).map (λr=>(r.σ,r.c))=some (zX pl cs es bg hs bt ld,[.p (bP 20 1124 [bv,.bytes bt] (.dict rf)),ci .NotEq (.dict rf) (.dict ld) false,.p (br 20 1117 [bv,.bytes bt] (.slist ls)),.le (ld.length+1) 64,ci .NotEq (.slist ls) (.slist ((cY (ld.map (·.1))).map D.sym)) false,.p (br 20 1309 [.list es,.list bg] (.list hs)),.p (br 20 1136 [bv,.bytes bt] (.slist rs)),ci .NotEq (.slist rs) (.list hs) false,.p (bP 20 1176 [bv,.bytes bt] (.list bk)),.p (uT Kn "block" (f0 EN) (dR EN) bk [] tl (JS d)),.le tl.length NN,.p (bP 20 1314 [.list es,.list bg,.list hs] (.list bl)),ci .NotEq (.list tl) (.list bl) false]):=by kernel_rfl
theorem D4:(dj (cr 40) ctLaw ((dm.drop 5).take 3) (l9 pl cs es bg bt ld) [.o .none (.dict rf),.t false,.d (.slist ls),.t false,.d (.list hs),.d (.slist rs),.t false,.o .none (.list []),.o .none (.list bl),.t false]).map (λr=>(r.σ,r.c))=some (zX pl cs es bg hs bt ld,[.p (bP 20 1124 [bv,.bytes bt] (.dict rf)),ci .NotEq (.dict rf) (.dict ld) false,.p (br 20 1117 [bv,.bytes bt] (.slist ls)),.le (ld.length+1) 64,ci .NotEq (.slist ls) (.slist ((cY (ld.map (·.1))).map D.sym)) false,.p (br 20 1309 [.list es,.list bg] (.list hs)),.p (br 20 1136 [bv,.bytes bt] (.slist rs)),ci .NotEq (.slist rs) (.list hs) false,.p (bP 20 1176 [bv,.bytes bt] (.list [])),.le 0 NN,.p (bP 20 1314 [.list es,.list bg,.list hs] (.list bl)),ci .NotEq (.list []) (.list bl) false]):=by kernel_rfl
theorem Ep:(dj (cr 40) ctLaw ((dm.drop 12).take 1) (jW pl cs es bg hs bt ld one other mine xs com) [.d R,.t true,.td (.sym i),.t false]).map (λr=>(r.σ,r.c))=some (jW pl cs es bg hs bt ld one other mine xs com,[.p (br 20 1103 [bv,.bytes bt,.sym one,.sym other] R),ci .NotEq (.list com) (.list []) true,.p (∀A:Around,A.handled=none->A.units+8<cLine->et A (subscriptTail (Nb Jb) (NV Jb)) (.list com) (.int 0) (.sym i)),ci .NotEq R (.sym i) false]):=by kernel_rfl
theorem Dq:(dj (cr 40) ctLaw ((dm.drop 12).take 1) (jW pl cs es bg hs bt ld one other mine xs com) [.d R,.t false,.t false]).map (λr=>(r.σ,r.c))=some (jW pl cs es bg hs bt ld one other mine xs com,[.p (br 20 1103 [bv,.bytes bt,.sym one,.sym other] R),ci .NotEq (.list com) (.list []) false,ci .NotEq R .none false]):=by kernel_rfl
theorem GF:((cr 40).ss ctLaw ((dm.drop 13).take 1) (jW pl cs es bg hs bt ld one other mine xs com) [.d F,.d F,.t true,.d F0,.d F0,.t true]).map (λr=>(r.a,r.σ,r.c))=some (.ret (.bool true),jW pl cs es bg hs bt ld one other mine xs com,[.p (br 20 1183 [bv,.bytes bt,.sym one] F),.p (br 20 1321 [.list es,.sym one] F),ci .Eq F F true,.p (br 20 1183 [bv,.bytes bt,.int 0] F0),.p (br 20 1321 [.list es,.int 0] F0),ci .Eq F0 F0 true]):=by kernel_rfl
theorem Br:((cr 40).d Kn (dR EN) (JS (uK a b (.tuple fs))) []).map (λr=>(r.a,r.σ,r.c))=some (.tuple [.sym a,.sym b,.tuple fs],JS (uK a b (.tuple fs)),[]):=by kernel_rfl
end
theorem iW:(∀x∈xs,f x x=some true)->pq f xs xs=some true:=by induction xs with|nil=>exactλU=>rfl|cons x xs i=>intro h;show(f x x).bind _=_;rw[h x A4];show(pq f xs xs).map _=_;rw[i λy a=>h y (A5 _ a)];rfl
theorem jR(n:Nat)(i:Int):l7 n (.sym i) (.sym i)=some true:=by
 have h:some (i==i)=some true:=by rw[Af]
 cases n<;>exact h
theorem rg(n:Nat)(l:List Int):pq (l7 n) (l.map D.sym) (l.map D.sym)=some true:=iW λx h=>by obtain⟨i,U,rfl⟩:=Ag.mp h;exact jR n i
theorem g8(n:Nat)(l:List Nat):pq (l7 n) (bm l) (bm l)=some true:=iW λx h=>by obtain⟨i,U,rfl⟩:=Ag.mp h;exact jR n i
theorem HJ(vs hs:List Nat)(l:List (Nat×Nat)):pq (l7 5) (l.map (yQ vs hs)) (l.map (yQ vs hs))=some true:=iW λx a=>by
 obtain⟨p,U,rfl⟩:=Ag.mp a;show pq (l7 4) [.sym _,.sym _,vl vs hs (lH vs p.2)] [.sym _,.sym _,vl vs hs (lH vs p.2)]=some true;refine iW λy h=>?_;rcases A6.mp h with rfl|h;·exact jR _ _
 · rcases A6.mp h with rfl|h;·exact jR _ _
   · rcases A6.mp h with rfl|h;·exact g8 3 _
     ·exact absurd h A3
theorem mT(vs:List Nat):∀(ns:List Nat)(m:List (Int×List D)),(m.map (·.1)).Nodup->((ns.foldl (cO vs) m).map (·.1)).Nodup|[],m,h=>h|n::ns,m,h=>by rw[List.foldl_cons];refine mT vs ns _ ?_;unfold cO;cases cB vs n with|none=>exact h|some t=>
     dsimp only;split
     · rw[oI];split;·exact h
       ·rename_i d;rw[List.nodup_append];refine⟨h,by simp,λa c b hb e=>?_⟩;rw[AF]at hb;exact d (hb▸e▸c)
     ·exact h
theorem rP:∀{m:List (Int×List D)}{k:Int}{xs:List D},(m.map (·.1)).Nodup->(k,xs)∈m->gW m k=some xs
 |p::m,k,xs,a,h=>by
   rw[AS,List.nodup_cons]at a;unfold gW;rw[List.find?_cons];by_cases e:p.1=k
   · rw[AB e];rcases A6.mp h with rfl|h;·rfl
     ·exact absurd (Ag.mpr ⟨_,h,e.symm⟩) a.1
   · rw[AI e];rcases A6.mp h with rfl|h;·exact absurd rfl e
     ·exact rP a.2 h
theorem sH:∀{r:List (Int×D)},(∀p∈r,dc ds p.1=some p.2/\l7 n p.2 p.2=some true)->B4 n ds r=some true|[],_=>rfl|(k,d)::r,h=>by obtain⟨a,b⟩:=h (k,d) A4;unfold B4;rw[a];dsimp only;rw[b,sH λp c=>h p (A5 _ c)];rfl
def wf(m:List (Int×List D)):Prop:=∀p∈m,∀d∈p.2,∃i,d=D.sym i
theorem sJ(h:wf m)(b:∀d∈xs,∃i,d=D.sym i):wf (gh m k xs):=by
 unfold gh;split
 · intro p a;obtain⟨q,c,rfl⟩:=Ag.mp a;split;·exact b
   ·exact h q c
 · intro p a;rcases AZ.mp a with a|a;·exact h p a
   ·rw[AF]at a;subst a;exact b
theorem xl(h:gW m k=some xs):∃p∈m,p.2=xs:=by unfold gW at h;obtain⟨p,a,e⟩:=AD.mp h;exact⟨p,List.mem_of_find?_eq_some a,e⟩
theorem qn(vs:List Nat):∀(ns:List Nat)(m:List (Int×List D)),wf m->wf (ns.foldl (cO vs) m)|[],m,h=>h|n::ns,m,h=>by rw[List.foldl_cons];refine qn vs ns _ ?_;unfold cO;cases cB vs n with|none=>exact h|some t=>
     dsimp only;split
     · refine sJ h λd a=>?_;rcases AZ.mp a with a|a;·cases b:gW m t with|none=>rw[b]at a;cases a|some xs=>rw[b]at a;obtain⟨p,c,e⟩:=xl b;exact h p c d (e▸a)
       ·rw[AF]at a;exact⟨_,a⟩
     ·exact h
theorem EZ(vs:List Nat):B4 5 (dP (ju vs)) (dP (ju vs))=some true:=sH λp hp=>by
 unfold dP at hp;obtain⟨q,h,rfl⟩:=Ag.mp hp;refine⟨?_,?_⟩;·have e:gW (ju vs) q.1=some q.2:=rP (mT vs (bo vs 0) [] List.nodup_nil) h;show dc (dP (ju vs)) q.1=some (.slist q.2);rw[iQ,e];rfl
 ·exact iW (f:=l7 4) λd a=>by obtain⟨i,rfl⟩:=qn vs _ _ (λp hp=>by exact absurd hp A3) q h d a;exact jR 4 i
theorem sa(vs:List Nat):∀(ns:List Nat)(m:List (Int×List D)),(ns.foldl (cO vs) m).length<=m.length+ns.length|[],m=>AT _|n::ns,m=>by have:=sa vs ns (cO vs m n);have:=iU vs m n;rw[List.foldl_cons,AJ];exact A1 (by assumption) (A1 (Ae this _) (AL (Nat.succ_add_eq_add_succ _ _)))
theorem wa(L:Nat):∀l:List Nat,(tN L l).length<=l.length|[]=>AT _|[a]=>AT _|a::b::r=>AE (wa L (b::r))
section
variable{vs:List Nat}{pl cs:List D}
theorem iA(c:a.seqK=some (k,xs))(hb:b.seqK=some (k,xs))(h:pq (l7 5) xs xs=some true):∀A:Around,A.handled=none->A.units+8<cLine->et A (compareOp .NotEq) a b (.bool false):=λA U d=>oG d c hb h
theorem BK(vs:List Nat):∀A:Around,A.handled=none->A.units+8<cLine->et A (compareOp .NotEq) (.dict (dP (ju vs))) (.dict (dP (ju vs))) (.bool false):=λA U a=>by have h:=(ln (A:=A) a (EZ vs)).1;rw[Af]at h;exact h
theorem Gl(b:∀x∈vs,x∈pool)(h:vs.length<=11)(a:Fm ctLaw):fc a.A a.env a.g ((dm.drop 5).take 3) (l9 pl cs (bm vs) (bm (bo vs 0)) (bj vs) (dP (ju vs))) (zX pl cs (bm vs) (bm (bo vs 0)) (bm (cf vs)) (bj vs) (dP (ju vs))):=by
 have n:=eD vs 0;have r:(dP (ju vs)).length<=11:=by have:=sa vs (bo vs 0) [];unfold dP;rw[AM];show((bo vs 0).foldl (cO vs) []).length<=11;simp only[List.length_nil]at this;exact A1 this (A1 (AL (Nat.zero_add _)) (A1 n h))
 have g:=(pH b h).to (m:=20) (by decide);have f:=(wJ b h).to (m:=20) (by decide);rw[yV]at f;have i:=(rX b h).to (m:=20) (by decide);have j:=(lV b h).to (m:=20) (by decide);have c:=(uR b h).to (m:=20) (by decide);have e:=(uM b h).to (m:=20) (by decide);have o:(tN vs.length (cf vs)).length<=NN:=by have:=wa vs.length (cf vs);have:(cf vs).length<=(bo vs 0).length:=List.length_filter_le _ _;show _<=16777216;exact wk (A1 (by assumption) (A1 this (A1 n h))) rfl
 have k:(dP (ju vs)).length+1<=64:=by exact wk (AE r) rfl
 cases hb:tN vs.length (cf vs)with|nil=>rw[hb]at c e;exact cL a D4 ⟨g,BK vs,f,k,iA rfl rfl (rg 5 _),i,j,iA rfl rfl (g8 5 _),c,AW _,e,iA rfl rfl rfl,trivial⟩ rfl rfl|cons p l=>
  rw[hb]at c e o;refine cL a HX ⟨g,BK vs,f,k,iA rfl rfl (rg 5 _),i,j,iA rfl rfl (g8 5 _),c,ia rfl rfl λa=>jJ (sg:=JS) (gg:=yQ vs (cf vs)) (λd q=>rfl) (λq=>rfl) p l λm U=>?_,?_,e,iA rfl rfl (HJ _ _ _),trivial⟩ rfl rfl;·exact lL a Br trivial rfl rfl
  ·rw[AM];exact o
end
section
variable{vs:List Nat}{pl cs hs:List D}{ld:List (Int×D)}{a b:Nat}
theorem Ha(l:∀x∈vs,x∈pool)(c:vs.length<=11)(k:gK q 20)(e:Fm ctLaw):∃a b p,fc e.A e.env e.g ((dm.drop 8).take 2) (zX (gE q) cs (bm vs) (bm (bo vs 0)) hs (bj vs) ld) (BY p cs (bm vs) (bm (bo vs 0)) hs (bj vs) ld ((a:Nat):Int) ((b:Nat):Int) (bm (bo vs a)) (bm (bo vs b))):=by
 have h:(0:Int)<(vs.length:Int)+1:=by exact Int.lt_add_one_of_le (AP _)
 have g:(vs.length:Int)+1<1000000:=by exact AQ (Int.add_le_add_right (Ab.2 c) 1) (by decide)
 obtain⟨o,t⟩:=fQ h q;have f:=iL (m:=(vs.length:Int)+1) k;obtain⟨n,s⟩:=fQ h (fw ((vs.length:Int)+1) q);obtain⟨a,r⟩:∃a:Nat,fu ((vs.length:Int)+1) q=(a:Int):=⟨(fu ((vs.length:Int)+1) q).toNat,by exact(Int.toNat_of_nonneg o).symm⟩;obtain⟨b,hb⟩:∃b:Nat,fu ((vs.length:Int)+1) (fw ((vs.length:Int)+1) q)=(b:Int):=⟨(fu ((vs.length:Int)+1) (fw ((vs.length:Int)+1) q)).toNat,by exact(Int.toNat_of_nonneg n).symm⟩;have t1:=zn h g k (by decide);have t2:=zn h g f (by decide);rw[r]at t1;rw[hb]at t2;have i:∀A:Around,A.handled=none->A.units+8<cLine->Bc A (.builtin "len") [.list (bm vs)] (.int (vs.length:Int)):=λA U U=>by have:=uP (A:=A) (d:=.list (bm vs)) (b:=false) rfl (by rw[bH];exact wk c rfl);rw[bH]at this;exact this
 have j:∀A:Around,A.handled=none->A.units+8<cLine->et A (binaryOp .Add) (.int (vs.length:Int)) (.int 1) (.int ((vs.length:Int)+1)):=λA U U=>vy (cl:=[]) rfl trivial;exact⟨a,b,_,cL e F4 ⟨i,j,t1,i,j,t2,(nR l c a).to (by decide),(nR l c b).to (by decide),trivial⟩ rfl rfl⟩
theorem G0(i:∀x∈vs,x∈pool)(e:vs.length<=11)(c:Fm ctLaw):fc c.A c.env c.g ((dm.drop 10).take 2) (BY pl cs (bm vs) (bm (bo vs 0)) hs (bj vs) ld ((a:Nat):Int) ((b:Nat):Int) (bm (bo vs a)) (bm (bo vs b))) (jW pl cs (bm vs) (bm (bo vs 0)) hs (bj vs) ld ((a:Nat):Int) ((b:Nat):Int) (bm (bo vs a)) (bm (bo vs b)) (bm (j8 vs a b))):=by
 have f:=(xg i e).to (m:=20) (by decide);have h:=(uj i e a).to (m:=20) (by decide);have hl:(bm (j8 vs a b)).length<=NN:=by have:=eD vs a;have:(j8 vs a b).length<=(bo vs a).length:=List.length_filter_le _ _;rw[bH];show _<=16777216;exact wk (A1 this (A1 (by assumption) (A1 (Nat.sub_le _ _) e))) rfl
 unfold j8 at hl⊢;cases g:bo vs a with|nil=>rw[g]at h hl;exact cL c Ef ⟨f,iA rfl rfl (g8 5 _),h,iA rfl rfl (g8 5 _),ia rfl rfl λc=>eA.nil,hl,trivial⟩ rfl rfl|cons n ns=>
  rw[g]at h hl;refine cL c Ht ⟨f,iA rfl rfl (g8 5 _),h,iA rfl rfl (g8 5 _),ia rfl rfl λc=>iK (sg:=uc (bm (bo vs b))) (λd j=>rfl) (λj=>rfl) n ns λm U=>⟨?_,?_⟩,hl,trivial⟩ rfl rfl;·exact fv c (G3 _) ⟨λA U U=>kq rfl,trivial⟩ rfl rfl
  ·exact lL c EK trivial rfl rfl
theorem HC(n:∀x∈vs,x∈pool)(o:vs.length<=11)(g:Fm ctLaw):fc g.A g.env g.g ((dm.drop 12).take 1) (jW pl cs (bm vs) (bm (bo vs 0)) hs (bj vs) ld ((a:Nat):Int) ((b:Nat):Int) f y (bm (j8 vs a b))) (jW pl cs (bm vs) (bm (bo vs 0)) hs (bj vs) ld ((a:Nat):Int) ((b:Nat):Int) f y (bm (j8 vs a b))):=by have h:=(xK n o a b).to (m:=20) (by decide);rw[F9]at h;cases l:j8 vs a b with|nil=>rw[l]at h;exact cL g Dq ⟨h,iA rfl rfl rfl,λA U c=>f5 (k:=false) c rfl,trivial⟩ rfl rfl|cons x xs=>
   rw[l]at h;refine cL g (Ep (i:=((x:Nat):Int))) ⟨h,λA U c=>oG (b:=false) (k:=false) (xs:=bm (x::xs)) (ys:=[]) c rfl rfl rfl,λA U U=>vM (cl:=[]) ?_ trivial,λA U c=>f5 (k:=true) c ?_,trivial⟩ rfl rfl
   · have e:seqIndex? 0 (bm (x::xs)).length=some 0:=by rw[bH];exact GM (j:=0) (Nat.succ_pos _)
     show l0 (if wj 0=true then(seqIndex? 0 (bm (x::xs)).length).bind (λj=>((bm (x::xs))[j]?).map λd=>(d,[]))else none) _=_;rw[e];rfl
   ·show some ((!(((x:Nat):Int)==((x:Nat):Int))),true)=some (false,true);rw[Af];rfl
theorem G6(d:∀x∈vs,x∈pool)(h:vs.length<=11)(g:Fm ctLaw):dW g.A g.env g.g ((dm.drop 13).take 1) (jW pl cs (bm vs) (bm (bo vs 0)) hs (bj vs) ld ((a:Nat):Int) ((b:Nat):Int) c y i) (.ret (.bool true)) (jW pl cs (bm vs) (bm (bo vs 0)) hs (bj vs) ld ((a:Nat):Int) ((b:Nat):Int) c y i):=by refine cI λG t=>?_;obtain⟨f,j,k⟩:=qh h (a:Int);obtain⟨s,l,n⟩:=qh h (0:Int);refine t ?_;have o:=(vG d h (by decide) j (by exact wk (A1 k h) rfl)).to (m:=20) (by decide);have p:=(n0 d h (by decide) j (by exact wk (A1 k h) rfl)).to (m:=20) (by decide);have q:=(vG d h (by decide) l (by exact wk (A1 n h) rfl)).to (m:=20) (by decide);have r:=(n0 d h (by decide) l (by exact wk (A1 n h) rfl)).to (m:=20) (by decide);have e:∀(f:List Nat)(A:Around),A.handled=none->A.units+8<cLine->et A (compareOp .Eq) (.slist ((cY (dZ f)).map D.sym)) (.slist ((cY (dZ f)).map D.sym)) (.bool true):=λf A U u=>Ao u rfl rfl (rg 5 _);exact cc g GF ⟨o,p,e f,q.arg3,r.arg2,e s,trivial⟩ rfl rfl
theorem xa:dm=dm.take 2++((dm.drop 2).take 2++((dm.drop 4).take 1++((dm.drop 5).take 3++((dm.drop 8).take 2++((dm.drop 10).take 2++((dm.drop 12).take 1++(dm.drop 13).take 1)))))):=by kernel_rfl
theorem Gx(m:∀d∈cs,∃c,d=.sym c)(n:cs.length<=63):br 21 1326 [.list cs] (.bool true):=by refine sm (k:=20) (fl:=.ret (.bool true)) nW rfl (.inl rfl) λA env g B s=>?_;let e:Fm ctLaw:=⟨A,env,g,λU=>none,B.O,B.C,B.scope,B.cells,λU U=>rfl⟩;refine cI λG l=>?_;obtain⟨S,b,i⟩:=Hl m n;have i:bP 20 1285 [.list cs] (.list (gE (S,b,0))):=i.to (by decide);obtain⟨vs,q,h,f,o,p1⟩:=HZ (p:=(S,b,0)) ⟨Int.le_refl _,Int.le_refl _⟩ i e;obtain⟨a,b',j,r⟩:=Ha (cs:=cs) (hs:=bm (cf vs)) (ld:=dP (ju vs)) h f o e;refine l ?_;refine⟨jW j cs (bm vs) (bm (bo vs 0)) (bm (cf vs)) (bj vs) (dP (ju vs)) ((a:Nat):Int) ((b':Nat):Int) (bm (bo vs a)) (bm (bo vs b')) (bm (j8 vs a b')),?_⟩;rw[show nW.body=dm from rfl,xa];show dW e.A e.env e.g _ _ _ _;exact dz p1 (dz (FP h f e) (dz (Gg h f e) (dz (Gl h f e) (dz r (dz (G0 h f e) (dz (HC h f e) (G6 h f e)))))))
end
theorem Gj : LeftO pE qV lsN KJ t9.obs t9.val 20000 :=
  LeftO.of_pieces (H₀ := boot_heap) (H₁ := H1) (gs₀ := #[]) (gs₁ := #[]) (d₀ := boot_drawn) (d₁ := {}) (k₀ := boot_toks) (k₁ := 1958) (m₀ := 11) (ann := EE) (M := 12 + (1 + (3933 + (2266 + (2629 + 2))))) Ij GS J5 (by decide) fun w => funext fun os => by
    have e : (staticsOk (importedModules pE.main.body) (boot_heap w.params) (H1 w.params) && namesBound pE (H1 w.params) && gensDone (s1 w.params os) && laidKept (boot_heap w.params) (H1 w.params)) = true := by rw [No, Ni, Nl, NS]; rfl
    have c : openSeen qV lsN (importedModules pE.main.body) KJ true (s1 w.params os) = openGood qV lsN := by
      have a := ND w
      have b : ((s1 w.params os).heap.keysOk (looseW qV lsN) ((recsOf qV).map (·.name)) ((litsOf qV).map (·.1)) ((clssOf qV (looseW qV lsN)).map (·.name)) && (s1 w.params os).heap.accountedOkI (importedModules pE.main.body) && (s1 w.params os).heap.isNs mainGlobals && (s1 w.params os).heap.isNs builtinsNs && tablesOk qV (s1 w.params os).heap && KJ (s1 w.params os) && (if true then (s1 w.params os).gens.size == 0 else !leftWithCleanup (s1 w.params os).gens)) = true := by
        simp only [A8] at a ⊢
        exact ⟨⟨⟨⟨⟨⟨NZ w, Nm w⟩, a.1.1⟩, a.1.2⟩, a.2⟩, MC w os⟩, rfl⟩
      unfold openSeen openGood
      rw [b, N5 w os, LG w os, K1 w os, My w os, Ln w os, KZ w os, MA w os]
      rw [show (s1 w.params os).heap.bltView = bltViewBooted from Nq w]
    exact Prod.ext e (Prod.ext c (Li w))
theorem wt(a:WellAll P h vs []):vs=[]:=by refine cI λG b=>?_;cases a;exact b rfl
theorem y7(a:Well P h v (.list xs)):∃a vs,v=.ref a/\h.get? a=some (bA vs 0)/\WellAll P h vs xs:=by refine cI λG c=>?_;cases a with|list a b=>exact c ⟨_,_,rfl,a,b⟩
theorem uz:∀{vs:List Value},WellAll w.params h vs xs->WShape.hasItems R xs .int=true->∃cs,bM H vs cs/\(∀d∈cs,∃c,d=D.sym c)/\cs.length=xs.length:=by induction xs with|nil=>exactλa U=>⟨[],wt a▸.nil,λd f=>absurd f A3,rfl⟩|cons x xs k=>intro vs a q;obtain⟨v,u,rfl,b,c⟩:=wellAll_cons_inv a;obtain⟨l,m⟩:=Bool.and_eq_true_iff.mp q;obtain⟨i,rfl⟩:=hasW_int l;obtain⟨t,rfl⟩:=Value.isInt_shape ((encInt P0 w).is b).1;obtain⟨cs,g,d2,j⟩:=k c m;exact⟨.sym i::cs,.cons (.sym _ _) g,λd f=>(A6.mp f).elim (λe=>⟨_,e⟩) (d2 d),congrArg (·+1) j⟩
theorem ul(p:WTm.holds [] (.and (.not (.lt (.lit (.int 63)) (.len (.arg 0)))) (.lit (.bool true))) {args:=[.list xs]}=true):xs.length<=63:=Nat.le_of_not_lt λz=>by have p:WTm.holds [] (.and (.not (.arg 0)) (.lit (.bool true))) {args:=[.bool (decide ((63:Int)<(xs.length:Int)))]}=true:=p;have q:(63:Int)<(xs.length:Int):=Aa.2 z;rw[AB q]at p;exact Bool.noConfusion p
theorem Mz:WalkO qV lsN (XL qV []) t9.says Hf dL [] λf vs=>PySem.call f vs:=IY<|by intro w' s₀ s q mb G Y a o pm cd y dV kV ho hd E hD h J args t as g p N k L;obtain⟨rfl,Y⟩:=Y;have l:(cA w.params).In s.heap:=Y;have T:=G.T;have M:q "law"=some (.ref 1326):=mg_of l T.g (by kernel_rfl);have h:q "law"=some (.ref a):=h;rw[M]at h;cases h;obtain⟨p1,p2⟩:=pre_splitW g;obtain⟨d,r,rfl,Q,V⟩:=hasAllW_cons p1;obtain rfl:=hasAllW_nil V;obtain⟨xs,rfl,q3⟩:=hasW_list Q;obtain⟨v0,us,rfl,i,j⟩:=wellAll_cons_inv k;have B:=wt j;subst B;obtain⟨la,lv,rfl,z,A⟩:=y7 i;refine cI λG C=>?_;obtain⟨cs,u,d2,x⟩:=uz (H:=Fz s.heap λU=>False) A q3;refine C ?_;refine wpAny_call ?_;refine Gx d2 (A1 (AL x) (ul p2)) callerA ⟨s.heap,s.heap,[],λa o e=>⟨o,e⟩⟩ none s (λU=>False) _ _ ⟨⟨[],rfl,rfl,λe I=>by exact absurd I A3⟩,⟨l,_,_,_,_,_,T⟩,rfl,by decide,by decide⟩ ⟨λb o e=>e,(λa c=>by exact absurd c A3),(λa c=>c.elim)⟩ (.cons (.list (n:=0) ⟨z,id⟩ u) .nil) λv h' tk O m=>?_;(first|obtain rfl:=m.inv|obtain⟨_,rfl⟩:=m.inv);refine⟨.inl ⟨.bool true,.bool true,[],rfl,λU=>rfl,.bool true,?_,λU=>⟨List.nodup_nil,λa c=>by exact absurd c A3⟩⟩,.of_keep λb o e=>(O b o e).at (by simp),rfl,.of_eq J⟩;kernel_rfl
noncomputable abbrev lw:OpenLaw:=PySem.Challenge.rw_qd0117_01
theorem u1:sreFenced pE.main=true:=by kernel_rfl
theorem u2:((moduleNames pE.main.body).isEmpty||lookedIntoSs (moduleNames pE.main.body) pE.main.body)=true:=by kernel_rfl
theorem u3:namesResolve pE=true:=by kernel_rfl
theorem u4:pE.boundNames.all (λn=>!worldNames.contains n)=true:=by kernel_rfl
theorem u5:noRoadLSs {strict:=!(importedModules pE.main.body).all cThrough.contains,foot:=none,bare:=(["vars","dir","locals"]:List PySem.Str).filter (readsOut pE pE.main.body)} pE.main.body=true:=by kernel_rfl
theorem u6:namesMeet pE pE.main.body (λ_ n=>attrL n)=true:=by kernel_rfl
theorem u7:looksOpen pE=true:=by unfold looksOpen;rw[u1,u2,u3,u4,u5,u6];rfl
theorem u8:lw.row.wellSaid=true:=by
 have p:lw.row.partSaid=true:=by unfold OpenRow.partSaid;rw[show looksOpen lw.row.prog=true from u7];kernel_rfl
 unfold OpenRow.wellSaid;rw[p];kernel_rfl
theorem v7:noRoadLSs {strict:=true,foot:=some lw.bound',writes:=lw.writes,may:=lw.may} lw.footing=true:=by kernel_rfl
theorem v8:defStands lw.about lw.above=true:=by kernel_rfl
theorem NE:namesMeet lw.prog lw.above (λ_ n=>!lw.own.contains n)=true:=by kernel_rfl
theorem NL:namesMeet lw.prog lw.footing (λsc n=>sc.kind==.module||sc.names.lookup n !=some .globalExplicit)=true:=by kernel_rfl
theorem ws:lw.wellSaid=true:=by unfold OpenLaw.wellSaid;rw[u8,v7,v8,NE,NL];kernel_rfl
theorem J2:Hf.promised:=⟨[.list []],by decide+kernel,by decide+kernel⟩
theorem HS:Hf.prog.bare:=⟨rfl,rfl,rfl,rfl,rfl,by decide+kernel⟩
theorem LI:(chainsOk qV&&opensWell PySem.Challenge.rw_qd0117_01.row.prog&&(frees Hf&&PySem.Challenge.rw_qd0117_01.row.within.isEmpty))=true:=by kernel_rfl
theorem Ko:defOf qV PySem.Challenge.rw_qd0117_01.row.name=some (dL,[]):=by kernel_rfl
theorem Ks:PySem.Challenge.rw_qd0117_01.row.prog.theDef PySem.Challenge.rw_qd0117_01.row.name=some (dL.params,dL.body,dL.scope):=by kernel_rfl
theorem LH:kwWritten? dL.params.kwonlyargs dL.params.kw_defaults=some []:=by kernel_rfl
theorem M1:PySem.Challenge.rw_qd0117_01.Holds:=holds_law ws λa=>holds_open Gj t9.of t9.keeps (λs e=>xl_of s (Bool.and_eq_true_iff.mp e).1) XL.keeps Ko Ks LH (λs e=>recFacts_of (Bool.and_eq_true_iff.mp e).2) rfl a LI HS J2 Mz
end Mine
theorem PySem.Challenge.cw_qd0117_01_holds : PySem.Challenge.rw_qd0117_01.Holds := by
 exact Mine.M1
