import PyProof.Rows.All
import Wide.All
import OpenK.AllK
import Wide.FinOn
import Open.Tops
import KE.BytesMake
import PySem.Challenge.RW_sa0257_01
-- Printed by small programs (wip/tools: mini.py, squeeze.py, trans.py) from the texts under wip/: joined into one file, names shortened, spaces that the grammar does not need taken out.
-- Short forms, defined below: 1. is (by decide), 2. is (by kernel_rfl), 3. is (by omega), 4. is rfl, -"x" is Str.ofString "x"; show t does refine t, change t does refine (?_ : t); rewriting goes by the lemma RW where it can.
set_option Elab.async false
set_option linter.all false
set_option compiler.extract_closed false
set_option genSizeOf false
open PySem PySem.W PySem.Calls PyProof.Rows
open PySem.Builtin (bitAnd bitOr)
set_option maxRecDepth 100000
set_option maxHeartbeats 4000000
noncomputable section
namespace Mine.Internal
@[elab_as_elim] theorem RW{α:Sort _}{a b:α}{P:α->Prop}(h:a=b)(p:P b):P a:=h▸p
set_option hygiene false
set_option tactic.hygienic false
local macro_rules | `(term|$a → $b) => `(∀ O : $a, $b)
local macro_rules | `(tactic|exists $t) => `(tactic|((with_reducible refine $t ?_);rfl))
local macro_rules | `(tactic|change $t) => `(tactic|refine (?_ : $t))
local macro_rules | `(tactic|show $t) => `(tactic|refine $t)
local macro_rules | `(1.) => `(by decide) | `(2.) => `(by kernel_rfl) | `(3.) => `(by omega) | `(4.) => `(rfl) | `(-$s:str) => `(Str.ofString $s)
local macro_rules | `(tactic|rewrite [$a,$b,*]) => `(tactic|(rewrite [$a]; rewrite [$b,*]))
local macro_rules | `(tactic|rewrite [$e:term]) => `(tactic|first|refine RW ($e ..) ?_|fail)
noncomputable def J6:=@List.getElem?_eq_getElem
noncomputable def J7:=@List.getD_eq_getElem?_getD
noncomputable def J8:=@wpAny_bind
noncomputable def J9:=@Nat.le_of_ble_eq_true
noncomputable def Ka:=@List.length_map
noncomputable def Kb:=@wpAny_pure
noncomputable def Kc:=@Nat.le_trans
noncomputable def Kd:=@List.length_append
noncomputable def Ke:=@F.type_list_append
noncomputable def Kf:=@F.slot_list_append
noncomputable def Kg:=@Heap.get?_push_of_some
noncomputable def Kh:=@List.getElem?_map
noncomputable def Ki:=@List.map_append
noncomputable def Kj:=@Nat.le_refl
namespace Kl
noncomputable def sAt(i:Nat):Stmt:=(PySem.Challenge.pw_sa0257_01.main.body[i]?).getD<|.Pass ⟨0,0,0,0⟩
def mAt(i j:Nat):Stmt:=match sAt i with
 | .ClassDef _ _ _ b _ _ _ _ _ _ _=>(b[j]?).getD (.Pass ⟨0,0,0,0⟩)
 |s=>s
noncomputable def fd(s:Stmt)(q:Str)(g:Addr)(c:List<|Str×Addr)(d k doc m:Value)(an:Option Addr)(co ct:Value)(bi:Addr):FuncData:=match s with
 | .FunctionDef n a b _ _ _ sc _ _ _=>⟨n,q,a,.stmts b,sc,g,c,d,k,doc,m,an,co,ct,bi⟩
 |_=>⟨q,q,⟨[],[],none,[],[],none,[]⟩,.stmts [],⟨.module,[],false,false,[]⟩,g,c,d,k,doc,m,an,co,ct,bi⟩
noncomputable def de(P:Params)(x:Str)(t:Tok)(v:Value):DictEntry:=⟨PyData.keyHash P x,.str x t,v⟩
noncomputable def tu(l:List Value):Obj:=⟨.type "tuple",none,.seq l.toArray 0,#[]⟩
noncomputable def fi(l:List Value):Obj:=⟨.none,none,.fields l.toArray,#[]⟩
def ff(a:Nat)(q:Str)(g:Addr)(m:Str)(t c b:Nat):Obj:=⟨.type "function",none,.func<|fd (sAt a) q g [] .none .none .none (.str m t) none (.ref c) .none b,#[]⟩
def fm(i a:Nat)(q:Str)(g:Addr)(m:Str)(t c b:Nat):Obj:=⟨.type "function",none,.func<|fd (mAt i a) q g [] .none .none .none (.str m t) none (.ref c) .none b,#[]⟩
def f0(a:Nat)(q:Str):Obj:=⟨.none,none,.func<|fd (sAt a) q 0 [] .none .none .none .none none .none .none 0,#[]⟩
def f1(i a:Nat)(q:Str):Obj:=⟨.none,none,.func<|fd (mAt i a) q 0 [] .none .none .none .none none .none .none 0,#[]⟩
noncomputable def sl:Nat->List Str->List Value
 |_,[]=>[]
 |t,x::l=>.str x t::sl (t+1) l
def ts(t:Nat)(l:List Str):Obj:=tu<|sl t l
noncomputable def cc(n:Str)(t l f x t' t'':Nat):Obj:=⟨.type "code",none,.fields #[.str n t,.str n<|t+1,.str "/claim/cut.py"<|t+2,.int l 0,.int 0 0,.int 0 0,.int 0 0,.int 0 0,.ref f,.bool false,.int 181 0,.ref x,.none,.none,.none,.none,.int t' 0,.int l 0,.str "/claim/cut.py" t''],#[]⟩
noncomputable def fs(T:String)(l:List Value):Obj:=⟨.type T,none,.fields l.toArray,#[]⟩
noncomputable def di(l:List DictEntry)(n:Nat):Obj:=⟨.type "dict",none,.dict l.toArray n,#[]⟩
noncomputable def pl(T:String)(l:List<|Option Value):Obj:=⟨.type T,none,.plain,l.toArray⟩
noncomputable abbrev nd:=BT.node
noncomputable abbrev ni:=BT.nil
noncomputable abbrev lf(o:Obj):BT:=.node o .nil .nil
def cd(n q:Str)(t l a b f x y:Nat)(z u v:Value)(t' t'':Nat)(e:Value):Obj:=fs "code" [.str n t,.str q<|t+1,.str "/claim/cut.py"<|t+2,.int l 0,.int a 0,.int 0 0,.int 0 0,.int b 0,.ref f,.bool true,.int 181 0,.ref x,e,z,u,v,.int t' 0,.int l 0,.str "/claim/cut.py" t'']
def es(P:Params):List DictEntry:=[de P "__name__" 165<|.str "law_sa0257_01" 1837,de P "__doc__" 166 .none,de P "__package__" 167 .none,de P "__loader__" 168<|.builtin "__main__.__loader__#opaque",de P "__spec__" 169 .none,de P "__annotations__" 170<|.ref 6,de P "__builtins__" 171<|.ref 4,de P "__file__" 173<|.str "/claim/cut.py" 172,de P "__cached__" 174 .none,de P "TB_MODULE" 188<|.int 0 187,de P "TB_TYPEREF" 190<|.int 1 189,de P "TB_TYPEDEF" 192<|.int 2 191,de P "TB_FIELD" 194<|.int 4 193,de P "TB_METHODDEF" 196<|.int 6 195,de P "TB_PARAM" 198<|.int 8 197,de P "TB_INTERFACEIMPL" 200<|.int 9 199,de P "TB_MEMBERREF" 202<|.int 10 201,de P "TB_CONSTANT" 204<|.int 11 203,de P "TB_STANDALONESIG" 206<|.int 17 205,de P "TB_EVENTMAP" 208<|.int 18 207,de P "TB_EVENT" 210<|.int 20 209,de P "TB_PROPERTYMAP" 212<|.int 21 211,de P "TB_PROPERTY" 214<|.int 23 213,de P "TB_METHODSEMANTICS" 216<|.int 24 215,de P "TB_METHODIMPL" 218<|.int 25 217,de P "TB_TYPESPEC" 220<|.int 27 219,de P "TB_ASSEMBLY" 222<|.int 32 221,de P "TB_ASSEMBLYREF" 224<|.int 35 223,de P "TB_NESTEDCLASS" 226<|.int 41 225,de P "TB_GENERICPARAM" 228<|.int 42 227,de P "TB_METHODSPEC" 230<|.int 43 229,de P "TB_GENERICPARAMCONSTRAINT" 232<|.int 44 231,de P "TOKEN_BASE" 234<|.int 16777216 233,de P "E_VOID" 236<|.int 1 235,de P "E_BOOLEAN" 238<|.int 2 237,de P "E_CHAR" 240<|.int 3 239,de P "E_I1" 242<|.int 4 241,de P "E_U1" 244<|.int 5 243,de P "E_I2" 246<|.int 6 245,de P "E_U2" 248<|.int 7 247,de P "E_I4" 250<|.int 8 249,de P "E_U4" 252<|.int 9 251,de P "E_I8" 254<|.int 10 253,de P "E_U8" 256<|.int 11 255,de P "E_STRING" 258<|.int 14 257,de P "E_BYREF" 260<|.int 16 259,de P "E_VALUETYPE" 262<|.int 17 261,de P "E_CLASS" 264<|.int 18 263,de P "E_VAR" 266<|.int 19 265,de P "E_GENERICINST" 268<|.int 21 267,de P "E_I" 270<|.int 24 269,de P "E_OBJECT" 272<|.int 28 271,de P "E_SZARRAY" 274<|.int 29 273,de P "E_MVAR" 276<|.int 30 275,de P "SIG_FIELD" 278<|.int 6 277,de P "TA_PUBLIC" 280<|.int 1 279,de P "TA_NESTEDPUBLIC" 282<|.int 2 281,de P "TA_NESTEDASSEMBLY" 284<|.int 5 283,de P "TA_INTERFACE" 286<|.int 32 285,de P "TA_ABSTRACT" 288<|.int 128 287,de P "TA_SEALED" 290<|.int 256 289,de P "TA_MADE" 292<|.int 1024 291,de P "TA_BEFOREFIELDINIT" 294<|.int 1048576 293,de P "FA_STATIC" 296<|.int 16 295,de P "FA_INITONLY" 298<|.int 32 297,de P "FA_LITERAL" 300<|.int 64 299,de P "FA_HASDEFAULT" 302<|.int 32768 301,de P "RuneError" 335<|.ref 31,de P "BadImage" 351<|.ref 44,de P "BadSig" 367<|.ref 56,de P "BadKind" 383<|.ref 68,de P "CS_U16" 387<|.int 1 386,de P "CS_U32" 389<|.int 2 388,de P "CS_U8PAD" 391<|.int 3 390,de P "CS_TEXT" 393<|.int 4 392,de P "CS_BLOB" 395<|.int 5 394,de P "CS_GUID" 397<|.int 6 396,de P "CS_ROW" 399<|.int 256 398,de P "CS_CODED" 401<|.int 512 400,de P "CD_TYPEDEFORREF" 403<|.int 0 402,de P "CD_HASCONSTANT" 405<|.int 1 404,de P "CD_MEMBERREFPARENT" 407<|.int 2 406,de P "CD_HASSEMANTICS" 409<|.int 3 408,de P "CD_METHODDEFORREF" 411<|.int 4 410,de P "CD_RESOLUTIONSCOPE" 413<|.int 5 412,de P "CD_TYPEORMETHODDEF" 415<|.int 6 414,de P "CODED" 434<|.ref 71,de P "COLUMNS" 563<|.ref 86,de P "need_row" 570<|.ref 197,de P "make_coded" 582<|.ref 204,de P "split_coded" 592<|.ref 211,de P "make_token" 600<|.ref 218,de P "split_token" 607<|.ref 225,de P "column_place" 617<|.ref 232,de P "LISTS" 625<|.ref 238,de P "NAMED" 637<|.ref 250,de P "rows_of" 645<|.ref 257,de P "table_text" 653<|.ref 264,de P "table_blob" 661<|.ref 271,de P "rule_lists" 677<|.ref 278,de P "list_range" 689<|.ref 285,de P "rule_names" 703<|.ref 292,de P "rule_twice" 718<|.ref 299,de P "twice_members" 742<|.ref 306,de P "is_interface" 749<|.ref 313,de P "rule_iface" 762<|.ref 320,de P "rule_constants" 777<|.ref 327,de P "VOID" 781<|.int 0 780,de P "BOOL" 783<|.int 1 782,de P "CHAR" 785<|.int 2 784,de P "I1" 787<|.int 3 786,de P "U1" 789<|.int 4 788,de P "I2" 791<|.int 5 790,de P "U2" 793<|.int 6 792,de P "I4" 795<|.int 7 794,de P "U4" 797<|.int 8 796,de P "I8" 799<|.int 9 798,de P "U8" 801<|.int 10 800,de P "NINT" 803<|.int 11 802,de P "OBJECT" 805<|.int 12 804,de P "STRING" 807<|.int 13 806,de P "NULLK" 809<|.int 14 808,de P "PRIM_END" 811<|.int 16 810,de P "R_PRIM" 813<|.int 1 812,de P "R_CLASS" 815<|.int 2 814,de P "R_VALUE" 817<|.int 3 816,de P "R_ARRAY" 819<|.int 4 818,de P "R_BYREF" 821<|.int 5 820,de P "R_VAR" 823<|.int 6 822,de P "R_MVAR" 825<|.int 7 824,de P "R_BOXED" 827<|.int 8 826,de P "R_ROREF" 829<|.int 9 828,de P "R_FTN" 831<|.int 10 830,de P "R_RAW" 833<|.int 11 832,de P "DEEPEST_KIND" 835<|.int 24 834,de P "HEAVIEST_KIND" 837<|.int 4096 836,de P "PRIM_TID" 866<|.ref 328,de P "TID_PRIM" 895<|.ref 329,de P "ARRAY_TID" 897<|.int 5 896,de P "INT_RANGES" 936<|.ref 330,de P "KindTable" 993<|.ref 372,de P "inner_kinds" 1001<|.ref 383,de P "row_level" 1008<|.ref 390,de P "row_length" 1015<|.ref 397,de P "check_kind_row" 1025<|.ref 404,de P "check_named" 1033<|.ref 411,de P "check_args" 1042<|.ref 418,de P "may_stand" 1051<|.ref 425,de P "class_kind" 1060<|.ref 432,de P "prim_kind" 1068<|.ref 439,de P "array_kind" 1076<|.ref 446,de P "var_kind" 1084<|.ref 453,de P "kind_sort" 1092<|.ref 460,de P "tid_of" 1101<|.ref 467,de P "args_of" 1110<|.ref 474,de P "is_value" 1118<|.ref 481,de P "is_ref" 1127<|.ref 488,de P "is_var" 1136<|.ref 495,de P "int_range" 1143<|.ref 502,de P "SG_TYPESPEC" 1147<|.int 0 1146,de P "SG_FIELD" 1149<|.int 2 1148,de P "PlainHeap" 1195<|.ref 533,de P "PlainTables" 1249<|.ref 575,de P "Pages" 1307<|.ref 603,de P "S_CLASS" 1311<|.int 1 1310,de P "S_STRUCT" 1313<|.int 2 1312,de P "S_IFACE" 1315<|.int 3 1314,de P "S_DELEGATE" 1317<|.int 4 1316,de P "S_ENUM" 1319<|.int 5 1318,de P "TF_ABSTRACT" 1321<|.int 1 1320,de P "TF_SEALED" 1323<|.int 2 1322,de P "TF_BEFORE" 1325<|.int 4 1324,de P "TF_INTERNAL" 1327<|.int 8 1326,de P "TF_MADE" 1329<|.int 16 1328,de P "VA_NONE" 1331<|.int 0 1330,de P "FF_STATIC" 1333<|.int 1 1332,de P "FF_INITONLY" 1335<|.int 2 1334,de P "FF_LITERAL" 1337<|.int 4 1336,de P "T_VALUETYPE" 1339<|.int 2 1338,de P "T_ENUM" 1341<|.int 3 1340,de P "T_DELEGATE" 1343<|.int 6 1342,de P "TypeDef" 1397<|.ref 624,de P "FieldDef" 1437<|.ref 645,de P "Store" 1471<|.ref 666,de P "put_shell" 1482<|.ref 677,de P "usual_base" 1490<|.ref 684,de P "sort_flags" 1498<|.ref 691,de P "add_type" 1513<|.ref 698,de P "add_field" 1527<|.ref 705,de P "type_of" 1536<|.ref 712,de P "need_as_defined" 1547<|.ref 719,de P "need_asm" 1555<|.ref 726,de P "split_letter" 1564<|.ref 733,de P "utf16_units" 1573<|.ref 740,de P "units_octets" 1582<|.ref 747,de P "utf16_of" 1589<|.ref 754,de P "il_put_number" 1601<|.ref 761,de P "NULL_OCTETS" 1605<|.bytes #[0,0,0,0] 1604,de P "PRIM_ELEMENT" 1620<|.ref 762,de P "CONST_WIDTH" 1643<|.ref 763,de P "const_octets" 1656<|.ref 770,de P "other_const" 1665<|.ref 777,de P "floor_type" 1677<|.ref 784,de P "FIELD_BITS" 1681<|.ref 788,de P "TYPE_BITS" 1682<|.ref 793,de P "turned_bits" 1693<|.ref 800,de P "number_rows" 1708<|.ref 807,de P "enum_fields" 1715<|.ref 814,de P "row_name" 1722<|.ref 821,de P "asm_ref_row" 1731<|.ref 828,de P "type_token" 1741<|.ref 835,de P "sig_tree" 1751<|.ref 842,de P "named_tree" 1763<|.ref 849,de P "is_plain" 1772<|.ref 856,de P "kind_token" 1782<|.ref 863,de P "kind_coded" 1793<|.ref 870,de P "field_blob" 1801<|.ref 877,de P "type_flags" 1810<|.ref 884,de P "pack_types" 1822<|.ref 891,de P "pack_field" 1836<|.ref 898,de P "_law_fields" 1850<|.ref 905,de P "_law_turned" 1856<|.ref 910,de P "law" 1862<|.ref 915]
noncomputable def ls:List Value:=[(.int 60 0),(.int 0 0),(.ref 20),(.int 65 0),(.int 0 0),(.ref 40),(.int 67 0),(.int 0 0),(.ref 52),(.int 69 0),(.int 0 0),(.ref 64),(.int 89 0),(.int 0 0),(.ref 196),(.int 92 0),(.int 0 0),(.ref 203),(.int 99 0),(.int 0 0),(.ref 210),(.int 105 0),(.int 0 0),(.ref 217),(.int 108 0),(.int 0 0),(.ref 224),(.int 110 0),(.int 0 0),(.ref 231),(.int 118 0),(.int 0 0),(.ref 256),(.int 120 0),(.int 0 0),(.ref 263),(.int 122 0),(.int 0 0),(.ref 270),(.int 124 0),(.int 0 0),(.ref 277),(.int 136 0),(.int 0 0),(.ref 284),(.int 141 0),(.int 0 0),(.ref 291),(.int 147 0),(.int 0 0),(.ref 298),(.int 167 0),(.int 0 0),(.ref 305),(.int 179 0),(.int 0 0),(.ref 312),(.int 181 0),(.int 0 0),(.ref 319),(.int 191 0),(.int 0 0),(.ref 326),(.int 237 0),(.int 0 0),(.ref 347),(.int 286 0),(.int 0 0),(.ref 382),(.int 295 0),(.int 0 0),(.ref 389),(.int 299 0),(.int 0 0),(.ref 396),(.int 305 0),(.int 0 0),(.ref 403),(.int 327 0),(.int 0 0),(.ref 410),(.int 331 0),(.int 0 0),(.ref 417),(.int 335 0),(.int 0 0),(.ref 424),(.int 340 0),(.int 0 0),(.ref 431),(.int 344 0),(.int 0 0),(.ref 438),(.int 348 0),(.int 0 0),(.ref 445),(.int 350 0),(.int 0 0),(.ref 452),(.int 352 0),(.int 0 0),(.ref 459),(.int 354 0),(.int 0 0),(.ref 466),(.int 363 0),(.int 0 0),(.ref 473),(.int 368 0),(.int 0 0),(.ref 480),(.int 372 0),(.int 0 0),(.ref 487),(.int 377 0),(.int 0 0),(.ref 494),(.int 380 0),(.int 0 0),(.ref 501),(.int 387 0),(.int 0 0),(.ref 508),(.int 403 0),(.int 0 0),(.ref 543),(.int 419 0),(.int 0 0),(.ref 585),(.int 463 0),(.int 0 0),(.ref 613),(.int 489 0),(.int 0 0),(.ref 634),(.int 499 0),(.int 0 0),(.ref 655),(.int 509 0),(.int 0 0),(.ref 676),(.int 518 0),(.int 0 0),(.ref 683),(.int 526 0),(.int 0 0),(.ref 690),(.int 532 0),(.int 0 0),(.ref 697),(.int 541 0),(.int 0 0),(.ref 704),(.int 547 0),(.int 0 0),(.ref 711),(.int 553 0),(.int 0 0),(.ref 718),(.int 561 0),(.int 0 0),(.ref 725),(.int 565 0),(.int 0 0),(.ref 732),(.int 569 0),(.int 0 0),(.ref 739),(.int 574 0),(.int 0 0),(.ref 746),(.int 580 0),(.int 0 0),(.ref 753),(.int 583 0),(.int 0 0),(.ref 760),(.int 590 0),(.int 0 0),(.ref 769),(.int 606 0),(.int 0 0),(.ref 776),(.int 612 0),(.int 0 0),(.ref 783),(.int 623 0),(.int 0 0),(.ref 799),(.int 629 0),(.int 0 0),(.ref 806),(.int 653 0),(.int 0 0),(.ref 813),(.int 659 0),(.int 0 0),(.ref 820),(.int 663 0),(.int 0 0),(.ref 827),(.int 669 0),(.int 0 0),(.ref 834),(.int 683 0),(.int 0 0),(.ref 841),(.int 699 0),(.int 0 0),(.ref 848),(.int 711 0),(.int 0 0),(.ref 855),(.int 716 0),(.int 0 0),(.ref 862),(.int 725 0),(.int 0 0),(.ref 869),(.int 728 0),(.int 0 0),(.ref 876),(.int 730 0),(.int 0 0),(.ref 883),(.int 742 0),(.int 0 0),(.ref 890),(.int 754 0),(.int 0 0),(.ref 897),(.int 767 0),(.int 0 0),(.ref 904),(.int 776 0),(.int 0 0),(.ref 909),(.int 801 0),(.int 0 0),(.ref 914)]
def gv(P:Params)(k:Nat)(x:String)(t:Nat):Obj:=⟨.type "dict",none,.dict (de P "__name__" 165 (.str (Str.ofString x) t)::((es P).take k).drop 1).toArray k,#[]⟩
noncomputable def lv(k:Nat):Obj:=⟨.none,none,.fields (ls.take k).toArray,#[]⟩
def o_2:Obj:=fi []
noncomputable def o_5(P:Params):Obj:=gv P 53 "__main__" 164
noncomputable def o_8(P:Params):Obj:=gv P 68 "framerune.faults" 303
def o_9:Obj:=lv 3
noncomputable def o_22:Obj:=cd "__init__" "RuneError.__init__" 317 62 3 3 22 23 0 (.ref 24) (.ref 25) (.ref 26) 323 324 .none
noncomputable def o_23:Obj:=fm 59 0 "RuneError.__init__" 3 "framerune.faults" 303 27 0
def o_25(P:Params):Obj:=di [de P "__module__" 312<|.str "framerune.faults" 303,de P "__firstlineno__" 316<|.int 60 315,de P "__init__" 325<|.ref 28,de P "__static_attributes__" 328<|.ref 29,de P "__weakref__" 330<|.ref 32,de P "__doc__" 331 .none] 3
noncomputable def IH:Obj:=⟨(.type "type"),none,(.cls<|.mk "RuneError" [(.type "Exception")] [(.ref 31),(.type "Exception"),(.type "BaseException"),(.type "object")] 30 "RuneError" true [] [] false none false),#[(some<|.ref 15),none,(some<|.str "RuneError" 305),(some<|.str "RuneError" 313),(some<|.builtin "Exception.__new__"),(some<|.bool true)]⟩
noncomputable def II(P:Params):Obj:=gv P 69 "framerune.faults" 303
def IJ:Obj:=lv 6
noncomputable def IK:Obj:=⟨(.type "type"),none,(.cls<|.mk "RuneError" [(.type "Exception")] [(.ref 31),(.type "Exception"),(.type "BaseException"),(.type "object")] 30 "RuneError" true [] [(.ref 44)] false none false),#[(some<|.ref 15),none,(some<|.str "RuneError" 305),(some<|.str "RuneError" 313),(some<|.builtin "Exception.__new__"),(some<|.bool true)]⟩
def o_42(P:Params):Obj:=di [de P "__module__" 343<|.str "framerune.faults" 303,de P "__firstlineno__" 347<|.int 65 346,de P "__static_attributes__" 348<|.ref 42,de P "__doc__" 349 .none] 2
noncomputable def o_43:Obj:=⟨(.type "type"),none,(.cls<|.mk "BadImage" [(.ref 31)] [(.ref 44),(.ref 31),(.type "Exception"),(.type "BaseException"),(.type "object")] 43 "BadImage" true [] [] false none false),#[(some<|.ref 35),none,(some<|.str "BadImage" 336),(some<|.str "BadImage" 344),(some<|.builtin "Exception.__new__"),(some<|.bool true)]⟩
noncomputable def IL(P:Params):Obj:=gv P 70 "framerune.faults" 303
def IM:Obj:=lv 9
noncomputable def IN:Obj:=⟨(.type "type"),none,(.cls<|.mk "RuneError" [(.type "Exception")] [(.ref 31),(.type "Exception"),(.type "BaseException"),(.type "object")] 30 "RuneError" true [] [(.ref 44),(.ref 56)] false none false),#[(some<|.ref 15),none,(some<|.str "RuneError" 305),(some<|.str "RuneError" 313),(some<|.builtin "Exception.__new__"),(some<|.bool true)]⟩
def o_58(P:Params):Obj:=di [de P "__module__" 359<|.str "framerune.faults" 303,de P "__firstlineno__" 363<|.int 67 362,de P "__static_attributes__" 364<|.ref 54,de P "__doc__" 365 .none] 2
noncomputable def o_59:Obj:=⟨(.type "type"),none,(.cls<|.mk "BadSig" [(.ref 31)] [(.ref 56),(.ref 31),(.type "Exception"),(.type "BaseException"),(.type "object")] 55 "BadSig" true [] [] false none false),#[(some<|.ref 47),none,(some<|.str "BadSig" 352),(some<|.str "BadSig" 360),(some<|.builtin "Exception.__new__"),(some<|.bool true)]⟩
noncomputable def IO(P:Params):Obj:=gv P 86 "framerune.schema" 384
def DL:Obj:=lv 12
noncomputable def o_65:Obj:=⟨(.type "type"),none,(.cls<|.mk "RuneError" [(.type "Exception")] [(.ref 31),(.type "Exception"),(.type "BaseException"),(.type "object")] 30 "RuneError" true [] [(.ref 44),(.ref 56),(.ref 68)] false none false),#[(some<|.ref 15),none,(some<|.str "RuneError" 305),(some<|.str "RuneError" 313),(some<|.builtin "Exception.__new__"),(some<|.bool true)]⟩
def o_74(P:Params):Obj:=di [de P "__module__" 375<|.str "framerune.faults" 303,de P "__firstlineno__" 379<|.int 69 378,de P "__static_attributes__" 380<|.ref 66,de P "__doc__" 381 .none] 2
noncomputable def o_75:Obj:=⟨(.type "type"),none,(.cls<|.mk "BadKind" [(.ref 31)] [(.ref 68),(.ref 31),(.type "Exception"),(.type "BaseException"),(.type "object")] 67 "BadKind" true [] [] false none false),#[(some<|.ref 59),none,(some<|.str "BadKind" 368),(some<|.str "BadKind" 376),(some<|.builtin "Exception.__new__"),(some<|.bool true)]⟩
noncomputable def IP(P:Params):Obj:=gv P 87 "framerune.schema" 384
def o_80:Obj:=di [⟨0,(.int 0 402),(.ref 73)⟩,⟨1,(.int 1 404),(.ref 75)⟩,⟨2,(.int 2 406),(.ref 77)⟩,⟨3,(.int 3 408),(.ref 79)⟩,⟨4,(.int 4 410),(.ref 81)⟩,⟨5,(.int 5 412),(.ref 83)⟩,⟨6,(.int 6 414),(.ref 85)⟩] 7
def IQ:Obj:=tu [(.int 2 191),(.int 1 189),(.int 27 219)]
def IR:Obj:=tu [(.int 2 416),(.ref 72)]
def IS:Obj:=tu [(.int 4 193),(.int 8 197),(.int 23 213)]
def IU:Obj:=tu [(.int 2 417),(.ref 74)]
def IV:Obj:=tu [(.int 2 191),(.int 1 189),(.int (-1) 420),(.int 6 195),(.int 27 219)]
def IW:Obj:=tu [(.int 3 418),(.ref 76)]
def IX:Obj:=tu [(.int 20 209),(.int 23 213)]
def IY:Obj:=tu [(.int 1 421),(.ref 78)]
def IZ:Obj:=tu [(.int 6 195),(.int 10 201)]
def I0:Obj:=tu [(.int 1 422),(.ref 80)]
def I1:Obj:=tu [(.int 0 187),(.int (-1) 425),(.int 35 223),(.int 1 189)]
def I2:Obj:=tu [(.int 2 423),(.ref 82)]
def I3:Obj:=tu [(.int 2 191),(.int 6 195)]
def I4:Obj:=tu [(.int 1 426),(.ref 84)]
noncomputable def I5(P:Params):Obj:=gv P 88 "framerune.schema" 384
def o_99:Obj:=di [⟨0,(.int 0 187),(.ref 92)⟩,⟨1,(.int 1 189),(.ref 96)⟩,⟨2,(.int 2 191),(.ref 103)⟩,⟨4,(.int 4 193),(.ref 107)⟩,⟨6,(.int 6 195),(.ref 114)⟩,⟨8,(.int 8 197),(.ref 118)⟩,⟨9,(.int 9 199),(.ref 121)⟩,⟨10,(.int 10 201),(.ref 125)⟩,⟨11,(.int 11 203),(.ref 129)⟩,⟨17,(.int 17 205),(.ref 131)⟩,⟨18,(.int 18 207),(.ref 134)⟩,⟨20,(.int 20 209),(.ref 138)⟩,⟨21,(.int 21 211),(.ref 141)⟩,⟨23,(.int 23 213),(.ref 145)⟩,⟨24,(.int 24 215),(.ref 149)⟩,⟨25,(.int 25 217),(.ref 153)⟩,⟨27,(.int 27 219),(.ref 155)⟩,⟨32,(.int 32 221),(.ref 166)⟩,⟨35,(.int 35 223),(.ref 176)⟩,⟨41,(.int 41 225),(.ref 179)⟩,⟨42,(.int 42 227),(.ref 184)⟩,⟨43,(.int 43 229),(.ref 187)⟩,⟨44,(.int 44 231),(.ref 190)⟩] 23
def DM:Obj:=tu [(.str "Generation" 435),(.int 1 386)]
def DN:Obj:=tu [(.str "Name" 436),(.int 4 392)]
def DO:Obj:=tu [(.str "Mvid" 437),(.int 6 396)]
def DP:Obj:=tu [(.str "EncId" 438),(.int 6 396)]
def DQ:Obj:=tu [(.str "EncBaseId" 439),(.int 6 396)]
def DT:Obj:=tu [(.ref 87),(.ref 88),(.ref 89),(.ref 90),(.ref 91)]
def DU:Obj:=tu [(.str "ResolutionScope" 441),(.int 517 442)]
def DV:Obj:=tu [(.str "TypeName" 443),(.int 4 392)]
def DW:Obj:=tu [(.str "TypeNamespace" 444),(.int 4 392)]
def DX:Obj:=tu [(.ref 93),(.ref 94),(.ref 95)]
def DY:Obj:=tu [(.str "Flags" 446),(.int 2 388)]
def DZ:Obj:=tu [(.str "TypeName" 447),(.int 4 392)]
def D0:Obj:=tu [(.str "TypeNamespace" 448),(.int 4 392)]
def D1:Obj:=tu [(.str "Extends" 449),(.int 512 450)]
def D2:Obj:=tu [(.str "FieldList" 451),(.int 260 452)]
def D3:Obj:=tu [(.str "MethodList" 453),(.int 262 454)]
def D4:Obj:=tu [(.ref 97),(.ref 98),(.ref 99),(.ref 100),(.ref 101),(.ref 102)]
def D5:Obj:=tu [(.str "Flags" 456),(.int 1 386)]
def D6:Obj:=tu [(.str "Name" 457),(.int 4 392)]
def D7:Obj:=tu [(.str "Signature" 458),(.int 5 394)]
def D8:Obj:=tu [(.ref 104),(.ref 105),(.ref 106)]
def D9:Obj:=tu [(.str "RVA" 460),(.int 2 388)]
def Ea:Obj:=tu [(.str "ImplFlags" 461),(.int 1 386)]
def Eb:Obj:=tu [(.str "Flags" 462),(.int 1 386)]
def Ec:Obj:=tu [(.str "Name" 463),(.int 4 392)]
def Ed:Obj:=tu [(.str "Signature" 464),(.int 5 394)]
def Ee:Obj:=tu [(.str "ParamList" 465),(.int 264 466)]
def Ef:Obj:=tu [(.ref 108),(.ref 109),(.ref 110),(.ref 111),(.ref 112),(.ref 113)]
def Eg:Obj:=tu [(.str "Flags" 468),(.int 1 386)]
def Eh:Obj:=tu [(.str "Sequence" 469),(.int 1 386)]
def Ei:Obj:=tu [(.str "Name" 470),(.int 4 392)]
def Ej:Obj:=tu [(.ref 115),(.ref 116),(.ref 117)]
def Ek:Obj:=tu [(.str "Class" 472),(.int 258 473)]
def El:Obj:=tu [(.str "Interface" 474),(.int 512 475)]
def Em:Obj:=tu [(.ref 119),(.ref 120)]
def En:Obj:=tu [(.str "Class" 477),(.int 514 478)]
def Eo:Obj:=tu [(.str "Name" 479),(.int 4 392)]
def Ep:Obj:=tu [(.str "Signature" 480),(.int 5 394)]
def Er:Obj:=tu [(.ref 122),(.ref 123),(.ref 124)]
def Es:Obj:=tu [(.str "Type" 482),(.int 3 390)]
def Et:Obj:=tu [(.str "Parent" 483),(.int 513 484)]
def Eu:Obj:=tu [(.str "Value" 485),(.int 5 394)]
def Ev:Obj:=tu [(.ref 126),(.ref 127),(.ref 128)]
def Ew:Obj:=tu [(.str "Signature" 487),(.int 5 394)]
def Ex:Obj:=tu [(.ref 130)]
def Ey:Obj:=tu [(.str "Parent" 489),(.int 258 490)]
def Ez:Obj:=tu [(.str "EventList" 491),(.int 276 492)]
def EA:Obj:=tu [(.ref 132),(.ref 133)]
def EB:Obj:=tu [(.str "EventFlags" 494),(.int 1 386)]
def EC:Obj:=tu [(.str "Name" 495),(.int 4 392)]
def ED:Obj:=tu [(.str "EventType" 496),(.int 512 497)]
def EE:Obj:=tu [(.ref 135),(.ref 136),(.ref 137)]
def EF:Obj:=tu [(.str "Parent" 499),(.int 258 500)]
def EG:Obj:=tu [(.str "PropertyList" 501),(.int 279 502)]
def EH:Obj:=tu [(.ref 139),(.ref 140)]
def EI:Obj:=tu [(.str "Flags" 504),(.int 1 386)]
def EJ:Obj:=tu [(.str "Name" 505),(.int 4 392)]
def EK:Obj:=tu [(.str "Type" 506),(.int 5 394)]
def EL:Obj:=tu [(.ref 142),(.ref 143),(.ref 144)]
def EM:Obj:=tu [(.str "Semantics" 508),(.int 1 386)]
def EN:Obj:=tu [(.str "Method" 509),(.int 262 510)]
def EO:Obj:=tu [(.str "Association" 511),(.int 515 512)]
def EP:Obj:=tu [(.ref 146),(.ref 147),(.ref 148)]
def EQ:Obj:=tu [(.str "Class" 514),(.int 258 515)]
def ER:Obj:=tu [(.str "MethodBody" 516),(.int 516 517)]
def ES:Obj:=tu [(.str "MethodDeclaration" 518),(.int 516 519)]
def ET:Obj:=tu [(.ref 150),(.ref 151),(.ref 152)]
def EU:Obj:=tu [(.str "Signature" 521),(.int 5 394)]
def EV:Obj:=tu [(.ref 154)]
def EW:Obj:=tu [(.str "HashAlgId" 523),(.int 2 388)]
def EX:Obj:=tu [(.str "MajorVersion" 524),(.int 1 386)]
def EY:Obj:=tu [(.str "MinorVersion" 525),(.int 1 386)]
def EZ:Obj:=tu [(.str "BuildNumber" 526),(.int 1 386)]
def E0:Obj:=tu [(.str "RevisionNumber" 527),(.int 1 386)]
def E1:Obj:=tu [(.str "Flags" 528),(.int 2 388)]
def E2:Obj:=tu [(.str "PublicKey" 529),(.int 5 394)]
def E3:Obj:=tu [(.str "Name" 530),(.int 4 392)]
def E4:Obj:=tu [(.str "Culture" 531),(.int 4 392)]
def E5:Obj:=tu [(.ref 157),(.ref 158),(.ref 159),(.ref 160),(.ref 161),(.ref 162),(.ref 163),(.ref 164),(.ref 165)]
def E6:Obj:=tu [(.str "MajorVersion" 532),(.int 1 386)]
def E7:Obj:=tu [(.str "MinorVersion" 533),(.int 1 386)]
def E8:Obj:=tu [(.str "BuildNumber" 534),(.int 1 386)]
def E9:Obj:=tu [(.str "RevisionNumber" 535),(.int 1 386)]
def Fa:Obj:=tu [(.str "Flags" 536),(.int 2 388)]
def Fb:Obj:=tu [(.str "PublicKeyOrToken" 537),(.int 5 394)]
def Fc:Obj:=tu [(.str "Name" 538),(.int 4 392)]
def Fd:Obj:=tu [(.str "Culture" 539),(.int 4 392)]
def Fe:Obj:=tu [(.str "HashValue" 540),(.int 5 394)]
def Ff:Obj:=tu [(.ref 167),(.ref 168),(.ref 169),(.ref 170),(.ref 171),(.ref 172),(.ref 173),(.ref 174),(.ref 175)]
def Fg:Obj:=tu [(.str "NestedClass" 541),(.int 258 542)]
def Fh:Obj:=tu [(.str "EnclosingClass" 543),(.int 258 544)]
def Fi:Obj:=tu [(.ref 177),(.ref 178)]
def Fj:Obj:=tu [(.str "Number" 545),(.int 1 386)]
def Fk:Obj:=tu [(.str "Flags" 546),(.int 1 386)]
def Fl:Obj:=tu [(.str "Owner" 547),(.int 518 548)]
def Fm:Obj:=tu [(.str "Name" 549),(.int 4 392)]
def Fn:Obj:=tu [(.ref 180),(.ref 181),(.ref 182),(.ref 183)]
def Fo:Obj:=tu [(.str "Method" 550),(.int 516 551)]
def Fp:Obj:=tu [(.str "Instantiation" 552),(.int 5 394)]
def Fq:Obj:=tu [(.ref 185),(.ref 186)]
def Fs:Obj:=tu [(.str "Owner" 553),(.int 298 554)]
def Ft:Obj:=tu [(.str "Constraint" 555),(.int 512 556)]
def Fu:Obj:=tu [(.ref 188),(.ref 189)]
noncomputable def Fv(P:Params):Obj:=gv P 99 "framerune.metacheck" 618
def Fw:Obj:=lv 39
noncomputable def o_214:Obj:=cd "need_row" "need_row" 564 89 1 3 191 192 0 (.ref 193) (.ref 194) (.ref 195) 568 569 .none
noncomputable def o_215:Obj:=ff 81 "need_row" 3 "framerune.schema" 384 196 0
noncomputable def o_221:Obj:=cd "make_coded" "make_coded" 571 92 3 3 198 199 0 (.ref 200) (.ref 201) (.ref 202) 580 581 .none
noncomputable def o_222:Obj:=ff 82 "make_coded" 3 "framerune.schema" 384 203 0
noncomputable def o_228:Obj:=cd "split_coded" "split_coded" 583 99 2 3 205 206 0 (.ref 207) (.ref 208) (.ref 209) 590 591 .none
noncomputable def o_229:Obj:=ff 83 "split_coded" 3 "framerune.schema" 384 210 0
noncomputable def o_235:Obj:=cd "make_token" "make_token" 593 105 2 3 212 213 0 (.ref 214) (.ref 215) (.ref 216) 598 599 .none
noncomputable def o_236:Obj:=ff 84 "make_token" 3 "framerune.schema" 384 217 0
noncomputable def o_242:Obj:=cd "split_token" "split_token" 601 108 1 3 219 220 0 (.ref 221) (.ref 222) (.ref 223) 605 606 .none
noncomputable def o_243:Obj:=ff 85 "split_token" 3 "framerune.schema" 384 224 0
noncomputable def o_249:Obj:=cd "column_place" "column_place" 608 110 2 3 226 227 0 (.ref 228) (.ref 229) (.ref 230) 615 616 .none
noncomputable def o_250:Obj:=ff 86 "column_place" 3 "framerune.schema" 384 231 0
def o_251:Obj:=tu [(.int 2 191),(.int 4 620),(.int 4 193)]
def o_252:Obj:=tu [(.int 2 191),(.int 5 621),(.int 6 195)]
def o_253:Obj:=tu [(.int 6 195),(.int 5 622),(.int 8 197)]
def o_254:Obj:=tu [(.int 18 207),(.int 1 623),(.int 20 209)]
def o_255:Obj:=tu [(.int 21 211),(.int 1 624),(.int 23 213)]
def o_256:Obj:=tu [(.ref 233),(.ref 234),(.ref 235),(.ref 236),(.ref 237)]
def o_257:Obj:=tu [(.int 0 187),(.str "Name" 626)]
def o_258:Obj:=tu [(.int 1 189),(.str "TypeName" 627)]
def o_259:Obj:=tu [(.int 2 191),(.str "TypeName" 628)]
def o_260:Obj:=tu [(.int 4 193),(.str "Name" 629)]
def o_261:Obj:=tu [(.int 6 195),(.str "Name" 630)]
def o_262:Obj:=tu [(.int 10 201),(.str "Name" 631)]
def o_263:Obj:=tu [(.int 20 209),(.str "Name" 632)]
def o_264:Obj:=tu [(.int 23 213),(.str "Name" 633)]
def o_265:Obj:=tu [(.int 32 221),(.str "Name" 634)]
def o_266:Obj:=tu [(.int 35 223),(.str "Name" 635)]
def o_267:Obj:=tu [(.int 42 227),(.str "Name" 636)]
def o_268:Obj:=tu [(.ref 239),(.ref 240),(.ref 241),(.ref 242),(.ref 243),(.ref 244),(.ref 245),(.ref 246),(.ref 247),(.ref 248),(.ref 249)]
noncomputable def o_274:Obj:=cd "rows_of" "rows_of" 638 118 2 3 251 252 0 (.ref 253) (.ref 254) (.ref 255) 643 644 .none
noncomputable def o_275:Obj:=ff 90 "rows_of" 3 "framerune.metacheck" 618 256 0
noncomputable def o_281:Obj:=cd "table_text" "table_text" 646 120 2 3 258 259 0 (.ref 260) (.ref 261) (.ref 262) 651 652 .none
noncomputable def o_282:Obj:=ff 91 "table_text" 3 "framerune.metacheck" 618 263 0
noncomputable def o_288:Obj:=cd "table_blob" "table_blob" 654 122 2 3 265 266 0 (.ref 267) (.ref 268) (.ref 269) 659 660 .none
noncomputable def o_289:Obj:=ff 92 "table_blob" 3 "framerune.metacheck" 618 270 0
noncomputable def Fx(P:Params):Obj:=gv P 118 "framerune.kinds" 778
def yc:Obj:=lv 63
noncomputable def o_298:Obj:=cd "rule_lists" "rule_lists" 662 124 2 3 272 273 0 (.ref 274) (.ref 275) (.ref 276) 675 676 .none
noncomputable def o_299:Obj:=ff 93 "rule_lists" 3 "framerune.metacheck" 618 277 0
noncomputable def o_305:Obj:=cd "list_range" "list_range" 678 136 5 3 279 280 0 (.ref 281) (.ref 282) (.ref 283) 687 688 .none
noncomputable def o_306:Obj:=ff 94 "list_range" 3 "framerune.metacheck" 618 284 0
noncomputable def o_312:Obj:=cd "rule_names" "rule_names" 690 141 3 3 286 287 0 (.ref 288) (.ref 289) (.ref 290) 701 702 .none
noncomputable def o_313:Obj:=ff 95 "rule_names" 3 "framerune.metacheck" 618 291 0
noncomputable def o_319:Obj:=cd "rule_twice" "rule_twice" 704 147 4 3 293 294 0 (.ref 295) (.ref 296) (.ref 297) 716 717 .none
noncomputable def o_320:Obj:=ff 96 "rule_twice" 3 "framerune.metacheck" 618 298 0
noncomputable def o_326:Obj:=cd "twice_members" "twice_members" 719 167 7 3 300 301 0 (.ref 302) (.ref 303) (.ref 304) 740 741 .none
noncomputable def o_327:Obj:=ff 97 "twice_members" 3 "framerune.metacheck" 618 305 0
noncomputable def o_333:Obj:=cd "is_interface" "is_interface" 743 179 1 3 307 308 0 (.ref 309) (.ref 310) (.ref 311) 747 748 .none
noncomputable def o_334:Obj:=ff 98 "is_interface" 3 "framerune.metacheck" 618 312 0
noncomputable def o_340:Obj:=cd "rule_iface" "rule_iface" 750 181 2 3 314 315 0 (.ref 316) (.ref 317) (.ref 318) 760 761 .none
noncomputable def o_341:Obj:=ff 99 "rule_iface" 3 "framerune.metacheck" 618 319 0
noncomputable def o_347:Obj:=cd "rule_constants" "rule_constants" 763 191 2 3 321 322 0 (.ref 323) (.ref 324) (.ref 325) 775 776 .none
noncomputable def o_348:Obj:=ff 100 "rule_constants" 3 "framerune.metacheck" 618 326 0
noncomputable def Fy(P:Params):Obj:=gv P 137 "framerune.kinds" 778
def o_351:Obj:=di [⟨0,(.int 0 780),(.int 20 838)⟩,⟨1,(.int 1 782),(.int 9 839)⟩,⟨2,(.int 2 784),(.int 10 840)⟩,⟨3,(.int 3 786),(.int 11 841)⟩,⟨4,(.int 4 788),(.int 12 842)⟩,⟨5,(.int 5 790),(.int 13 843)⟩,⟨6,(.int 6 792),(.int 14 844)⟩,⟨7,(.int 7 794),(.int 15 845)⟩,⟨8,(.int 8 796),(.int 16 846)⟩,⟨9,(.int 9 798),(.int 17 847)⟩,⟨10,(.int 10 800),(.int 18 848)⟩,⟨11,(.int 11 802),(.int 19 849)⟩,⟨12,(.int 12 804),(.int 1 850)⟩,⟨13,(.int 13 806),(.int 4 851)⟩] 14
noncomputable def Fz(P:Params):Obj:=gv P 139 "framerune.kinds" 778
def o_356:Obj:=di [⟨20,(.int 20 867),(.int 0 780)⟩,⟨9,(.int 9 868),(.int 1 782)⟩,⟨10,(.int 10 869),(.int 2 784)⟩,⟨11,(.int 11 870),(.int 3 786)⟩,⟨12,(.int 12 871),(.int 4 788)⟩,⟨13,(.int 13 872),(.int 5 790)⟩,⟨14,(.int 14 873),(.int 6 792)⟩,⟨15,(.int 15 874),(.int 7 794)⟩,⟨16,(.int 16 875),(.int 8 796)⟩,⟨17,(.int 17 876),(.int 9 798)⟩,⟨18,(.int 18 877),(.int 10 800)⟩,⟨19,(.int 19 878),(.int 11 802)⟩,⟨1,(.int 1 879),(.int 12 804)⟩,⟨4,(.int 4 880),(.int 13 806)⟩] 14
noncomputable def FA(P:Params):Obj:=gv P 140 "framerune.kinds" 778
def o_361:Obj:=di [⟨1,(.int 1 782),(.ref 331)⟩,⟨2,(.int 2 784),(.ref 332)⟩,⟨3,(.int 3 786),(.ref 333)⟩,⟨4,(.int 4 788),(.ref 334)⟩,⟨5,(.int 5 790),(.ref 335)⟩,⟨6,(.int 6 792),(.ref 336)⟩,⟨7,(.int 7 794),(.ref 337)⟩,⟨8,(.int 8 796),(.ref 338)⟩,⟨9,(.int 9 798),(.ref 339)⟩,⟨10,(.int 10 800),(.ref 340)⟩,⟨11,(.int 11 802),(.ref 341)⟩] 11
def FC:Obj:=tu [(.int 0 898),(.int 255 899)]
def FD:Obj:=tu [(.int 0 900),(.int 65535 901)]
def FE:Obj:=tu [(.int (-128) 903),(.int 127 904)]
def FF:Obj:=tu [(.int 0 905),(.int 255 906)]
def FG:Obj:=tu [(.int (-32768) 908),(.int 32767 909)]
def FH:Obj:=tu [(.int 0 910),(.int 65535 911)]
def FI:Obj:=tu [(.int (-2147483648) 913),(.int 2147483647 914)]
def FJ:Obj:=tu [(.int 0 915),(.int 4294967295 916)]
def FK:Obj:=tu [(.int (-9223372036854775808) 918),(.int 9223372036854775807 919)]
def FM:Obj:=tu [(.int 0 920),(.int 18446744073709551615 921)]
def FN:Obj:=tu [(.int (-2147483648) 923),(.int 2147483647 924)]
noncomputable def FO(P:Params):Obj:=gv P 144 "framerune.kinds" 778
def FP:Obj:=lv 75
noncomputable def o_390:Obj:=cd "__init__" "KindTable.__init__" 949 239 1 3 349 350 0 (.ref 351) (.ref 352) (.ref 353) 955 956 .none
noncomputable def o_391:Obj:=fm 135 0 "KindTable.__init__" 3 "framerune.kinds" 778 354 0
noncomputable def o_397:Obj:=cd "row" "KindTable.row" 958 253 2 3 356 357 0 (.ref 358) (.ref 359) (.ref 360) 963 964 .none
noncomputable def o_398:Obj:=fm 135 1 "KindTable.row" 3 "framerune.kinds" 778 361 0
noncomputable def o_404:Obj:=cd "put" "KindTable.put" 966 258 2 3 363 364 0 (.ref 365) (.ref 366) (.ref 367) 978 979 .none
noncomputable def o_405:Obj:=fm 135 2 "KindTable.put" 3 "framerune.kinds" 778 368 0
def o_407(P:Params):Obj:=di [de P "__module__" 944<|.str "framerune.kinds" 778,de P "__firstlineno__" 948<|.int 237 947,de P "__init__" 957<|.ref 355,de P "row" 965<|.ref 362,de P "put" 980<|.ref 369,de P "__static_attributes__" 986<|.ref 370,de P "__dict__" 988<|.ref 373,de P "__weakref__" 990<|.ref 374,de P "__doc__" 991 .none] 4
noncomputable def o_408:Obj:=⟨(.type "type"),none,(.cls<|.mk "KindTable" [(.type "object")] [(.ref 372),(.type "object")] 371 "KindTable" true [] [] false none false),#[none,none,(some<|.str "KindTable" 937),(some<|.str "KindTable" 945),(some<|.builtin "object.__new__"),(some<|.bool true)]⟩
noncomputable def o_418:Obj:=cd "inner_kinds" "inner_kinds" 994 286 1 3 377 378 0 (.ref 379) (.ref 380) (.ref 381) 999 1000 .none
noncomputable def o_419:Obj:=ff 136 "inner_kinds" 3 "framerune.kinds" 778 382 0
noncomputable def o_425:Obj:=cd "row_level" "row_level" 1002 295 1 3 384 385 0 (.ref 386) (.ref 387) (.ref 388) 1006 1007 .none
noncomputable def o_426:Obj:=ff 137 "row_level" 3 "framerune.kinds" 778 389 0
noncomputable def o_432:Obj:=cd "row_length" "row_length" 1009 299 1 3 391 392 0 (.ref 393) (.ref 394) (.ref 395) 1013 1014 .none
noncomputable def o_433:Obj:=ff 138 "row_length" 3 "framerune.kinds" 778 396 0
noncomputable def FQ(P:Params):Obj:=gv P 157 "framerune.kinds" 778
def FR:Obj:=lv 114
noncomputable def o_442:Obj:=cd "check_kind_row" "check_kind_row" 1016 305 2 3 398 399 0 (.ref 400) (.ref 401) (.ref 402) 1023 1024 .none
noncomputable def o_443:Obj:=ff 139 "check_kind_row" 3 "framerune.kinds" 778 403 0
noncomputable def o_449:Obj:=cd "check_named" "check_named" 1026 327 2 3 405 406 0 (.ref 407) (.ref 408) (.ref 409) 1031 1032 .none
noncomputable def o_450:Obj:=ff 140 "check_named" 3 "framerune.kinds" 778 410 0
noncomputable def o_456:Obj:=cd "check_args" "check_args" 1034 331 2 3 412 413 0 (.ref 414) (.ref 415) (.ref 416) 1040 1041 .none
noncomputable def o_457:Obj:=ff 141 "check_args" 3 "framerune.kinds" 778 417 0
noncomputable def o_463:Obj:=cd "may_stand" "may_stand" 1043 335 2 3 419 420 0 (.ref 421) (.ref 422) (.ref 423) 1049 1050 .none
noncomputable def o_464:Obj:=ff 142 "may_stand" 3 "framerune.kinds" 778 424 0
noncomputable def o_470:Obj:=cd "class_kind" "class_kind" 1052 340 3 3 426 427 0 (.ref 428) (.ref 429) (.ref 430) 1058 1059 .none
noncomputable def o_471:Obj:=ff 143 "class_kind" 3 "framerune.kinds" 778 431 0
noncomputable def o_477:Obj:=cd "prim_kind" "prim_kind" 1061 344 2 3 433 434 0 (.ref 435) (.ref 436) (.ref 437) 1066 1067 .none
noncomputable def o_478:Obj:=ff 144 "prim_kind" 3 "framerune.kinds" 778 438 0
noncomputable def o_484:Obj:=cd "array_kind" "array_kind" 1069 348 2 3 440 441 0 (.ref 442) (.ref 443) (.ref 444) 1074 1075 .none
noncomputable def o_485:Obj:=ff 145 "array_kind" 3 "framerune.kinds" 778 445 0
noncomputable def o_491:Obj:=cd "var_kind" "var_kind" 1077 350 2 3 447 448 0 (.ref 449) (.ref 450) (.ref 451) 1082 1083 .none
noncomputable def o_492:Obj:=ff 146 "var_kind" 3 "framerune.kinds" 778 452 0
noncomputable def o_498:Obj:=cd "kind_sort" "kind_sort" 1085 352 2 3 454 455 0 (.ref 456) (.ref 457) (.ref 458) 1090 1091 .none
noncomputable def o_499:Obj:=ff 147 "kind_sort" 3 "framerune.kinds" 778 459 0
noncomputable def o_505:Obj:=cd "tid_of" "tid_of" 1093 354 2 3 461 462 0 (.ref 463) (.ref 464) (.ref 465) 1099 1100 .none
noncomputable def o_506:Obj:=ff 148 "tid_of" 3 "framerune.kinds" 778 466 0
noncomputable def o_512:Obj:=cd "args_of" "args_of" 1102 363 2 3 468 469 0 (.ref 470) (.ref 471) (.ref 472) 1108 1109 .none
noncomputable def o_513:Obj:=ff 149 "args_of" 3 "framerune.kinds" 778 473 0
noncomputable def o_519:Obj:=cd "is_value" "is_value" 1111 368 2 3 475 476 0 (.ref 477) (.ref 478) (.ref 479) 1116 1117 .none
noncomputable def o_520:Obj:=ff 150 "is_value" 3 "framerune.kinds" 778 480 0
noncomputable def o_526:Obj:=cd "is_ref" "is_ref" 1119 372 2 3 482 483 0 (.ref 484) (.ref 485) (.ref 486) 1125 1126 .none
noncomputable def o_527:Obj:=ff 151 "is_ref" 3 "framerune.kinds" 778 487 0
noncomputable def FS(P:Params):Obj:=gv P 162 "framerune.pages" 1144
def FT:Obj:=lv 123
noncomputable def o_536:Obj:=cd "is_var" "is_var" 1128 377 2 3 489 490 0 (.ref 491) (.ref 492) (.ref 493) 1134 1135 .none
noncomputable def o_537:Obj:=ff 152 "is_var" 3 "framerune.kinds" 778 494 0
noncomputable def o_543:Obj:=cd "int_range" "int_range" 1137 380 1 3 496 497 0 (.ref 498) (.ref 499) (.ref 500) 1141 1142 .none
noncomputable def o_544:Obj:=ff 153 "int_range" 3 "framerune.kinds" 778 501 0
noncomputable def o_557:Obj:=cd "__init__" "PlainHeap.__init__" 1162 389 2 3 510 511 0 (.ref 512) (.ref 513) (.ref 514) 1167 1168 .none
noncomputable def o_558:Obj:=fm 157 0 "PlainHeap.__init__" 3 "framerune.pages" 1144 515 0
noncomputable def o_564:Obj:=cd "put" "PlainHeap.put" 1170 392 2 3 517 518 0 (.ref 519) (.ref 520) (.ref 521) 1176 1177 .none
noncomputable def o_565:Obj:=fm 157 1 "PlainHeap.put" 3 "framerune.pages" 1144 522 0
noncomputable def o_571:Obj:=cd "get" "PlainHeap.get" 1179 399 2 3 524 525 0 (.ref 526) (.ref 527) (.ref 528) 1184 1185 .none
noncomputable def o_572:Obj:=fm 157 2 "PlainHeap.get" 3 "framerune.pages" 1144 529 0
def o_574(P:Params):Obj:=di [de P "__module__" 1157<|.str "framerune.pages" 1144,de P "__firstlineno__" 1161<|.int 387 1160,de P "__init__" 1169<|.ref 516,de P "put" 1178<|.ref 523,de P "get" 1186<|.ref 530,de P "__static_attributes__" 1188<|.ref 531,de P "__dict__" 1190<|.ref 534,de P "__weakref__" 1192<|.ref 535,de P "__doc__" 1193 .none] 4
noncomputable def o_575:Obj:=⟨(.type "type"),none,(.cls<|.mk "PlainHeap" [(.type "object")] [(.ref 533),(.type "object")] 532 "PlainHeap" true [] [] false none false),#[none,none,(some<|.str "PlainHeap" 1150),(some<|.str "PlainHeap" 1158),(some<|.builtin "object.__new__"),(some<|.bool true)]⟩
noncomputable def FU(P:Params):Obj:=gv P 163 "framerune.pages" 1144
def FV:Obj:=lv 126
noncomputable def o_595:Obj:=cd "__init__" "PlainTables.__init__" 1208 405 1 3 545 546 0 (.ref 547) (.ref 548) (.ref 549) 1212 1213 .none
noncomputable def o_596:Obj:=fm 158 0 "PlainTables.__init__" 3 "framerune.pages" 1144 550 0
noncomputable def o_602:Obj:=cd "add" "PlainTables.add" 1215 408 3 3 552 553 0 (.ref 554) (.ref 555) (.ref 556) 1221 1222 .none
noncomputable def o_603:Obj:=fm 158 1 "PlainTables.add" 3 "framerune.pages" 1144 557 0
noncomputable def o_609:Obj:=cd "get" "PlainTables.get" 1224 412 3 3 559 560 0 (.ref 561) (.ref 562) (.ref 563) 1230 1231 .none
noncomputable def o_610:Obj:=fm 158 2 "PlainTables.get" 3 "framerune.pages" 1144 564 0
noncomputable def o_616:Obj:=cd "count" "PlainTables.count" 1233 417 2 3 566 567 0 (.ref 568) (.ref 569) (.ref 570) 1238 1239 .none
noncomputable def o_617:Obj:=fm 158 3 "PlainTables.count" 3 "framerune.pages" 1144 571 0
def o_619(P:Params):Obj:=di [de P "__module__" 1203<|.str "framerune.pages" 1144,de P "__firstlineno__" 1207<|.int 403 1206,de P "__init__" 1214<|.ref 551,de P "add" 1223<|.ref 558,de P "get" 1232<|.ref 565,de P "count" 1240<|.ref 572,de P "__static_attributes__" 1242<|.ref 573,de P "__dict__" 1244<|.ref 576,de P "__weakref__" 1246<|.ref 577,de P "__doc__" 1247 .none] 4
noncomputable def o_620:Obj:=⟨(.type "type"),none,(.cls<|.mk "PlainTables" [(.type "object")] [(.ref 575),(.type "object")] 574 "PlainTables" true [] [] false none false),#[none,none,(some<|.str "PlainTables" 1196),(some<|.str "PlainTables" 1204),(some<|.builtin "object.__new__"),(some<|.bool true)]⟩
noncomputable def FW(P:Params):Obj:=gv P 176 "framerune.store" 1308
def FX:Obj:=lv 129
noncomputable def o_640:Obj:=cd "__init__" "Pages.__init__" 1262 421 3 3 587 588 0 (.ref 589) (.ref 590) (.ref 591) 1268 1269 .none
noncomputable def o_641:Obj:=fm 159 0 "Pages.__init__" 3 "framerune.pages" 1144 592 0
noncomputable def o_647:Obj:=cd "sig" "Pages.sig" 1271 443 3 3 594 595 0 (.ref 596) (.ref 597) (.ref 598) 1277 1278 .none
noncomputable def o_648:Obj:=fm 159 1 "Pages.sig" 3 "framerune.pages" 1144 599 0
def o_650(P:Params):Obj:=di [de P "__module__" 1257<|.str "framerune.pages" 1144,de P "__firstlineno__" 1261<|.int 419 1260,de P "__init__" 1270<|.ref 593,de P "sig" 1279<|.ref 600,de P "__static_attributes__" 1300<|.ref 601,de P "__dict__" 1302<|.ref 604,de P "__weakref__" 1304<|.ref 605,de P "__doc__" 1305 .none] 4
noncomputable def o_651:Obj:=⟨(.type "type"),none,(.cls<|.mk "Pages" [(.type "object")] [(.ref 603),(.type "object")] 602 "Pages" true [] [] false none false),#[none,none,(some<|.str "Pages" 1250),(some<|.str "Pages" 1258),(some<|.builtin "object.__new__"),(some<|.bool true)]⟩
noncomputable def FY(P:Params):Obj:=gv P 182 "framerune.store" 1308
def FZ:Obj:=lv 132
noncomputable def o_671:Obj:=cd "__init__" "TypeDef.__init__" 1356 465 8 3 615 616 0 (.ref 617) (.ref 618) (.ref 619) 1368 1369 .none
noncomputable def o_672:Obj:=fm 178 0 "TypeDef.__init__" 3 "framerune.store" 1308 620 0
def o_674(P:Params):Obj:=di [de P "__module__" 1351<|.str "framerune.store" 1308,de P "__firstlineno__" 1355<|.int 463 1354,de P "__init__" 1370<|.ref 621,de P "__static_attributes__" 1390<|.ref 622,de P "__dict__" 1392<|.ref 625,de P "__weakref__" 1394<|.ref 626,de P "__doc__" 1395 .none] 4
noncomputable def o_675:Obj:=⟨(.type "type"),none,(.cls<|.mk "TypeDef" [(.type "object")] [(.ref 624),(.type "object")] 623 "TypeDef" true [] [] false none false),#[none,none,(some<|.str "TypeDef" 1344),(some<|.str "TypeDef" 1352),(some<|.builtin "object.__new__"),(some<|.bool true)]⟩
noncomputable def F0(P:Params):Obj:=gv P 183 "framerune.store" 1308
def F1:Obj:=lv 135
noncomputable def o_695:Obj:=cd "__init__" "FieldDef.__init__" 1410 491 7 3 636 637 0 (.ref 638) (.ref 639) (.ref 640) 1420 1421 .none
noncomputable def o_696:Obj:=fm 179 0 "FieldDef.__init__" 3 "framerune.store" 1308 641 0
def o_698(P:Params):Obj:=di [de P "__module__" 1405<|.str "framerune.store" 1308,de P "__firstlineno__" 1409<|.int 489 1408,de P "__init__" 1422<|.ref 642,de P "__static_attributes__" 1430<|.ref 643,de P "__dict__" 1432<|.ref 646,de P "__weakref__" 1434<|.ref 647,de P "__doc__" 1435 .none] 4
noncomputable def o_699:Obj:=⟨(.type "type"),none,(.cls<|.mk "FieldDef" [(.type "object")] [(.ref 645),(.type "object")] 644 "FieldDef" true [] [] false none false),#[none,none,(some<|.str "FieldDef" 1398),(some<|.str "FieldDef" 1406),(some<|.builtin "object.__new__"),(some<|.bool true)]⟩
noncomputable def F2(P:Params):Obj:=gv P 189 "framerune.store" 1308
def F3:Obj:=lv 153
noncomputable def o_719:Obj:=cd "__init__" "Store.__init__" 1450 501 1 3 657 658 0 (.ref 659) (.ref 660) (.ref 661) 1454 1455 .none
noncomputable def o_720:Obj:=fm 180 0 "Store.__init__" 3 "framerune.store" 1308 662 0
def o_722(P:Params):Obj:=di [de P "__module__" 1445<|.str "framerune.store" 1308,de P "__firstlineno__" 1449<|.int 499 1448,de P "__init__" 1456<|.ref 663,de P "__static_attributes__" 1464<|.ref 664,de P "__dict__" 1466<|.ref 667,de P "__weakref__" 1468<|.ref 668,de P "__doc__" 1469 .none] 4
noncomputable def o_723:Obj:=⟨(.type "type"),none,(.cls<|.mk "Store" [(.type "object")] [(.ref 666),(.type "object")] 665 "Store" true [] [] false none false),#[none,none,(some<|.str "Store" 1438),(some<|.str "Store" 1446),(some<|.builtin "object.__new__"),(some<|.bool true)]⟩
noncomputable def o_733:Obj:=cd "put_shell" "put_shell" 1472 509 2 3 671 672 0 (.ref 673) (.ref 674) (.ref 675) 1480 1481 .none
noncomputable def o_734:Obj:=ff 181 "put_shell" 3 "framerune.store" 1308 676 0
noncomputable def o_740:Obj:=cd "usual_base" "usual_base" 1483 518 2 3 678 679 0 (.ref 680) (.ref 681) (.ref 682) 1488 1489 .none
noncomputable def o_741:Obj:=ff 182 "usual_base" 3 "framerune.store" 1308 683 0
noncomputable def o_747:Obj:=cd "sort_flags" "sort_flags" 1491 526 2 3 685 686 0 (.ref 687) (.ref 688) (.ref 689) 1496 1497 .none
noncomputable def o_748:Obj:=ff 183 "sort_flags" 3 "framerune.store" 1308 690 0
noncomputable def o_754:Obj:=cd "add_type" "add_type" 1499 532 7 3 692 693 0 (.ref 694) (.ref 695) (.ref 696) 1511 1512 .none
noncomputable def o_755:Obj:=ff 184 "add_type" 3 "framerune.store" 1308 697 0
noncomputable def o_761:Obj:=cd "add_field" "add_field" 1514 541 6 3 699 700 0 (.ref 701) (.ref 702) (.ref 703) 1525 1526 .none
noncomputable def o_762:Obj:=ff 185 "add_field" 3 "framerune.store" 1308 704 0
noncomputable def F4(P:Params):Obj:=gv P 198 "framerune.packparts" 1602
def Bs:Obj:=lv 177
noncomputable def o_771:Obj:=cd "type_of" "type_of" 1528 547 2 3 706 707 0 (.ref 708) (.ref 709) (.ref 710) 1534 1535 .none
noncomputable def o_772:Obj:=ff 186 "type_of" 3 "framerune.store" 1308 711 0
noncomputable def o_778:Obj:=cd "need_as_defined" "need_as_defined" 1539 553 2 3 713 714 0 (.ref 715) (.ref 716) (.ref 717) 1545 1546 .none
noncomputable def o_779:Obj:=ff 188 "need_as_defined" 3 "framerune.packcheck" 1537 718 0
noncomputable def o_785:Obj:=cd "need_asm" "need_asm" 1548 561 2 3 720 721 0 (.ref 722) (.ref 723) (.ref 724) 1553 1554 .none
noncomputable def o_786:Obj:=ff 189 "need_asm" 3 "framerune.packcheck" 1537 725 0
noncomputable def o_792:Obj:=cd "split_letter" "split_letter" 1558 565 1 3 727 728 0 (.ref 729) (.ref 730) (.ref 731) 1562 1563 .none
noncomputable def o_793:Obj:=ff 191 "split_letter" 3 "framerune.heaps" 1556 732 0
noncomputable def o_799:Obj:=cd "utf16_units" "utf16_units" 1565 569 1 3 734 735 0 (.ref 736) (.ref 737) (.ref 738) 1571 1572 .none
noncomputable def o_800:Obj:=ff 192 "utf16_units" 3 "framerune.heaps" 1556 739 0
noncomputable def o_806:Obj:=cd "units_octets" "units_octets" 1574 574 1 3 741 742 0 (.ref 743) (.ref 744) (.ref 745) 1580 1581 .none
noncomputable def o_807:Obj:=ff 193 "units_octets" 3 "framerune.heaps" 1556 746 0
noncomputable def o_813:Obj:=cd "utf16_of" "utf16_of" 1583 580 1 3 748 749 0 (.ref 750) (.ref 751) (.ref 752) 1587 1588 .none
noncomputable def o_814:Obj:=ff 194 "utf16_of" 3 "framerune.heaps" 1556 753 0
noncomputable def o_820:Obj:=cd "il_put_number" "il_put_number" 1592 583 3 3 755 756 0 (.ref 757) (.ref 758) (.ref 759) 1599 1600 .none
noncomputable def o_821:Obj:=ff 196 "il_put_number" 3 "framerune.ilcode" 1590 760 0
noncomputable def F5(P:Params):Obj:=gv P 200 "framerune.packparts" 1602
def o_824:Obj:=di [⟨0,(.int 0 780),(.int 1 235)⟩,⟨1,(.int 1 782),(.int 2 237)⟩,⟨2,(.int 2 784),(.int 3 239)⟩,⟨3,(.int 3 786),(.int 4 241)⟩,⟨4,(.int 4 788),(.int 5 243)⟩,⟨5,(.int 5 790),(.int 6 245)⟩,⟨6,(.int 6 792),(.int 7 247)⟩,⟨7,(.int 7 794),(.int 8 249)⟩,⟨8,(.int 8 796),(.int 9 251)⟩,⟨9,(.int 9 798),(.int 10 253)⟩,⟨10,(.int 10 800),(.int 11 255)⟩,⟨11,(.int 11 802),(.int 24 269)⟩,⟨12,(.int 12 804),(.int 28 271)⟩,⟨13,(.int 13 806),(.int 14 257)⟩] 14
def o_825:Obj:=di [⟨1,(.int 1 782),(.int 1 1621)⟩,⟨2,(.int 2 784),(.int 2 1622)⟩,⟨3,(.int 3 786),(.int 1 1623)⟩,⟨4,(.int 4 788),(.int 1 1624)⟩,⟨5,(.int 5 790),(.int 2 1625)⟩,⟨6,(.int 6 792),(.int 2 1626)⟩,⟨7,(.int 7 794),(.int 4 1627)⟩,⟨8,(.int 8 796),(.int 4 1628)⟩,⟨9,(.int 9 798),(.int 8 1629)⟩,⟨10,(.int 10 800),(.int 8 1630)⟩,⟨11,(.int 11 802),(.int 4 1631)⟩] 11
noncomputable def F6(P:Params):Obj:=gv P 211 "framerune.pack" 1678
def F7:Obj:=lv 204
noncomputable def o_836:Obj:=cd "const_octets" "const_octets" 1644 590 3 3 764 765 0 (.ref 766) (.ref 767) (.ref 768) 1654 1655 .none
noncomputable def o_837:Obj:=ff 201 "const_octets" 3 "framerune.packparts" 1602 769 0
noncomputable def o_843:Obj:=cd "other_const" "other_const" 1657 606 3 3 771 772 0 (.ref 773) (.ref 774) (.ref 775) 1663 1664 .none
noncomputable def o_844:Obj:=ff 202 "other_const" 3 "framerune.packparts" 1602 776 0
noncomputable def o_850:Obj:=cd "floor_type" "floor_type" 1666 612 4 3 778 779 0 (.ref 780) (.ref 781) (.ref 782) 1675 1676 .none
noncomputable def o_851:Obj:=ff 203 "floor_type" 3 "framerune.packparts" 1602 783 0
def o_852:Obj:=tu [(.int 1 1332),(.int 16 295)]
def o_853:Obj:=tu [(.int 2 1334),(.int 32 297)]
def o_854:Obj:=tu [(.int 4 1336),(.int 32832 1680)]
def o_855:Obj:=tu [(.ref 785),(.ref 786),(.ref 787)]
def o_856:Obj:=tu [(.int 1 1320),(.int 128 287)]
def o_857:Obj:=tu [(.int 2 1322),(.int 256 289)]
def o_858:Obj:=tu [(.int 4 1324),(.int 1048576 293)]
def o_859:Obj:=tu [(.int 16 1328),(.int 1024 291)]
def o_860:Obj:=tu [(.ref 789),(.ref 790),(.ref 791),(.ref 792)]
noncomputable def o_866:Obj:=cd "turned_bits" "turned_bits" 1683 623 2 3 794 795 0 (.ref 796) (.ref 797) (.ref 798) 1691 1692 .none
noncomputable def o_867:Obj:=ff 207 "turned_bits" 3 "framerune.pack" 1678 799 0
noncomputable def o_873:Obj:=cd "number_rows" "number_rows" 1694 629 1 3 801 802 0 (.ref 803) (.ref 804) (.ref 805) 1706 1707 .none
noncomputable def o_874:Obj:=ff 208 "number_rows" 3 "framerune.pack" 1678 806 0
noncomputable def o_880:Obj:=cd "enum_fields" "enum_fields" 1709 653 1 3 808 809 0 (.ref 810) (.ref 811) (.ref 812) 1713 1714 .none
noncomputable def o_881:Obj:=ff 209 "enum_fields" 3 "framerune.pack" 1678 813 0
noncomputable def o_887:Obj:=cd "row_name" "row_name" 1716 659 1 3 815 816 0 (.ref 817) (.ref 818) (.ref 819) 1720 1721 .none
noncomputable def o_888:Obj:=ff 210 "row_name" 3 "framerune.pack" 1678 820 0
noncomputable def o_894:Obj:=cd "asm_ref_row" "asm_ref_row" 1723 663 2 3 822 823 0 (.ref 824) (.ref 825) (.ref 826) 1729 1730 .none
noncomputable def o_895:Obj:=ff 211 "asm_ref_row" 3 "framerune.pack" 1678 827 0
noncomputable def o_901:Obj:=cd "type_token" "type_token" 1732 669 2 3 829 830 0 (.ref 831) (.ref 832) (.ref 833) 1739 1740 .none
noncomputable def o_902:Obj:=ff 212 "type_token" 3 "framerune.pack" 1678 834 0
noncomputable def o_904(P:Params):Obj:=⟨.type "dict",none,.dict (es P).toArray 223,#[]⟩
noncomputable def o_911:Obj:=cd "sig_tree" "sig_tree" 1742 683 2 3 836 837 0 (.ref 838) (.ref 839) (.ref 840) 1749 1750 .none
noncomputable def o_912:Obj:=ff 213 "sig_tree" 3 "framerune.pack" 1678 841 0
noncomputable def o_918:Obj:=cd "named_tree" "named_tree" 1752 699 2 3 843 844 0 (.ref 845) (.ref 846) (.ref 847) 1761 1762 .none
noncomputable def o_919:Obj:=ff 214 "named_tree" 3 "framerune.pack" 1678 848 0
noncomputable def o_925:Obj:=cd "is_plain" "is_plain" 1764 711 2 3 850 851 0 (.ref 852) (.ref 853) (.ref 854) 1770 1771 .none
noncomputable def o_926:Obj:=ff 215 "is_plain" 3 "framerune.pack" 1678 855 0
noncomputable def o_932:Obj:=cd "kind_token" "kind_token" 1773 716 2 3 857 858 0 (.ref 859) (.ref 860) (.ref 861) 1780 1781 .none
noncomputable def o_933:Obj:=ff 216 "kind_token" 3 "framerune.pack" 1678 862 0
noncomputable def o_939:Obj:=cd "kind_coded" "kind_coded" 1783 725 3 3 864 865 0 (.ref 866) (.ref 867) (.ref 868) 1791 1792 .none
noncomputable def o_940:Obj:=ff 217 "kind_coded" 3 "framerune.pack" 1678 869 0
noncomputable def o_946:Obj:=cd "field_blob" "field_blob" 1794 728 2 3 871 872 0 (.ref 873) (.ref 874) (.ref 875) 1799 1800 .none
noncomputable def o_947:Obj:=ff 218 "field_blob" 3 "framerune.pack" 1678 876 0
noncomputable def o_953:Obj:=cd "type_flags" "type_flags" 1802 730 1 3 878 879 0 (.ref 880) (.ref 881) (.ref 882) 1808 1809 .none
noncomputable def o_954:Obj:=ff 219 "type_flags" 3 "framerune.pack" 1678 883 0
noncomputable def o_960:Obj:=cd "pack_types" "pack_types" 1811 742 1 3 885 886 0 (.ref 887) (.ref 888) (.ref 889) 1820 1821 .none
noncomputable def o_961:Obj:=ff 220 "pack_types" 3 "framerune.pack" 1678 890 0
noncomputable def o_967:Obj:=cd "pack_field" "pack_field" 1823 754 2 3 892 893 0 (.ref 894) (.ref 895) (.ref 896) 1834 1835 .none
noncomputable def o_968:Obj:=ff 221 "pack_field" 3 "framerune.pack" 1678 897 0
noncomputable def o_974:Obj:=cd "_law_fields" "_law_fields" 1839 767 2 3 899 900 0 (.ref 901) (.ref 902) (.ref 903) 1848 1849 .none
noncomputable def o_975:Obj:=ff 223 "_law_fields" 3 "law_sa0257_01" 1837 904 0
noncomputable def o_979:Obj:=cd "_law_turned" "_law_turned" 1851 776 3 3 906 907 0 .none .none (.ref 908) 1854 1855 .none
noncomputable def o_980:Obj:=ff 224 "_law_turned" 3 "law_sa0257_01" 1837 909 0
noncomputable def o_984:Obj:=cd "law" "law" 1857 801 1 3 911 912 0 .none .none (.ref 913) 1860 1861 .none
noncomputable def o_985:Obj:=ff 225 "law" 3 "law_sa0257_01" 1837 914 0
def TF(P:Params):BT:=nd (boot_o_0 P) (nd (boot_o_1 P) (nd (o_904 P) (nd (boot_o_7 P) (nd (tu [(.type "Exception")]) (nd o_65 (nd (fi []) (nd Et (nd (f0 90 "rows_of") (lf<|fi [])<|lf<|tu [])<|nd o_419 (lf<|tu [])<|lf<|tu [])<|nd (tu []) (nd o_340 (lf o_620)<|lf<|ts 1735 ["p","tid","t","scope"])<|nd (tu []) (lf<|f0 185 "add_field") ni)<|nd DW (nd EY (nd (fi []) (lf<|cc "PlainTables" 1198 403 541 542 1201 1202)<|lf o_866)<|nd (tu []) (lf<|tu []) ni)<|nd (f0 85 "split_token") (nd (ts 952 ["self","number","row"]) (lf<|fs "builtin_function_or_method" [(.builtin "object.__init_subclass__"),(.ref 603)])<|lf o_933)<|nd (f0 150 "is_value") (lf<|fi []) ni)<|nd (tu [(.ref 31)]) (nd IY (nd EJ (nd o_289 (lf<|tu [])<|lf o_850)<|nd (fi []) (lf<|cc "Store" 1440 499 653 654 1443 1444)<|lf<|tu [])<|nd (ts 586 ["coded","n","pair","tag"]) (nd FG (lf<|f1 159 0 "Pages.__init__")<|lf<|f0 214 "named_tree")<|nd (ts 1096 ["kt","k","row"]) (lf o_779) ni)<|nd Ec (nd Fe (nd (tu []) (lf<|tu [])<|lf<|tu [])<|nd o_470 (lf<|ts 1494 ["sort","flags"]) ni)<|nd o_257 (nd (f1 135 2 "KindTable.put") (lf<|o_674 P)<|lf<|fi [])<|nd o_537 (lf<|tu []) ni)<|nd (fi []) (nd (fi []) (nd o_80 (nd EB (nd o_281 (lf<|ts 1173 ["self","value","place"])<|lf<|f0 202 "other_const")<|nd (tu []) (lf<|fs "getset_descriptor" [(.str "__weakref__" 1433),(.ref 645),(.builtin "ExceptionGroup.__weakref__"),.none])<|lf<|f0 223 "_law_fields")<|nd (fi []) (nd o_348 (lf<|tu [])<|lf<|tu [])<|nd (fi []) (lf o_771) ni)<|nd D4 (nd E6 (nd (ts 707 ["ts","texts","blobs","told","enclosed","row","seen","number","key"]) (lf o_596)<|lf o_874)<|nd (f0 142 "may_stand") (lf<|fi []) ni)<|nd o_249 (nd (tu []) (lf<|tu [])<|lf<|tu [])<|nd o_526 (lf<|ts 1577 ["units","data","unit"]) ni)<|nd (o_58 P) (nd DM (nd ER (nd (tu []) (lf<|fs "getset_descriptor" [(.str "__weakref__" 1191),(.ref 533),(.builtin "ExceptionGroup.__weakref__"),.none])<|lf o_858)<|nd (ts 1029 ["kt","row"]) (lf o_720) ni)<|nd (tu []) (nd (fs "builtin_function_or_method" [(.builtin "type.__prepare__"),(.type "type")]) (lf o_647)<|lf o_925)<|nd (tu []) (lf<|tu []) ni)<|nd Ek (nd Fm (nd (f0 98 "is_interface") (lf<|fi [])<|lf<|fi [])<|nd o_478 (lf<|tu []) ni)<|nd o_265 (nd (fs "super" [(.ref 372),(.ref 372),(.ref 372)]) (lf<|di [de P "__module__" 1405<|.str "framerune.store" 1308,de P "__qualname__" 1407<|.str "FieldDef" 1406,de P "__firstlineno__" 1409<|.int 489 1408,de P "__init__" 1422<|.ref 642,de P "__static_attributes__" 1430<|.ref 643] 5)<|lf<|ts 1814 ["p","fields","methods","tid","t","base"])<|nd (tu []) (lf<|f0 196 "il_put_number") ni)<|nd (tu []) (nd (fi [(.int 62 0),(.int 4 0),(.ref 27)]) (nd (tu [(.ref 31)]) (nd (o_74 P) (nd Ex (nd (fi []) (lf o_557)<|lf<|tu [])<|nd (tu []) (lf<|ts 1423 ["access","fid","flags","kind","name","owner","value"])<|lf<|tu [])<|nd (f0 81 "need_row") (nd (ts 766 ["ts","told","seen","number","row","table","n","given","unfit"]) (lf<|fs "builtin_function_or_method" [(.builtin "object.__init_subclass__"),(.ref 575)])<|lf o_902)<|nd (f0 146 "var_kind") (lf<|fi []) ni)<|nd D0 (nd E2 (nd o_312 (lf<|ts 1211 ["self"])<|lf<|ts 1697 ["p","names","fields","methods","tid","t","key","fid","mid"])<|nd (tu []) (lf<|f0 181 "put_shell") ni)<|nd (fi []) (nd o_391 (lf<|tu [])<|lf<|tu [])<|nd (fi []) (lf o_799) ni)<|nd (fi []) (nd I2 (nd EN (nd (tu []) (lf<|ts 1187 ["rows"])<|lf o_854)<|nd o_442 (lf<|ts 1453 ["self"])<|lf o_985)<|nd o_229 (nd FK (lf<|fi [])<|lf<|fi [])<|nd o_506 (lf<|tu []) ni)<|nd Eg (nd Fi (nd (tu []) (lf<|f1 158 2 "PlainTables.get")<|lf<|f0 210 "row_name")<|nd (ts 1064 ["tid","args"]) (lf o_748) ni)<|nd o_261 (nd (o_407 P) (lf<|fs "super" [(.ref 624),(.ref 624),(.ref 624)])<|lf o_953)<|nd (tu []) (lf<|tu []) ni)<|nd o_22 (nd (o_42 P) (nd IU (nd EF (nd (ts 657 ["blobs","offset"]) (lf o_565)<|lf<|fi [])<|nd (f0 138 "row_length") (lf<|fs "builtin_function_or_method" [(.builtin "type.__prepare__"),(.type "type")])<|lf<|fi [])<|nd o_221 (nd FC (lf<|tu [])<|lf<|tu [])<|nd o_498 (lf<|ts 1542 ["store","row","t"]) ni)<|nd D8 (nd Fa (nd o_320 (lf<|tu [])<|lf<|tu [])<|nd (fi []) (lf o_740) ni)<|nd o_253 (nd (tu []) (lf<|f1 178 0 "TypeDef.__init__")<|lf<|f0 218 "field_blob")<|nd (ts 1131 ["kt","k","sort"]) (lf o_807) ni)<|nd (tu [(.ref 31)]) (nd DQ (nd EV (nd (f0 94 "list_range") (lf<|fs "builtin_function_or_method" [(.builtin "type.__prepare__"),(.type "type")])<|lf<|fi [])<|nd o_450 (lf ⟨(.type "getset_descriptor"),none,(.fields #[(.str "__dict__" 1465),(.ref 666),(.builtin "function.__dict__"),(.builtin "function.__dict__#set")]),#[]⟩) ni)<|nd (tu []) (nd (cc "KindTable" 939 237 345 346 942 943) (lf o_651)<|lf<|ts 1776 ["p","k","token","blob"])<|nd (tu []) (lf<|f0 191 "split_letter") ni)<|nd Eo (nd Fq (nd (fi []) (lf o_616)<|lf o_894)<|nd (tu []) (lf<|tu []) ni)<|nd (tu []) (nd (ts 997 ["row","sort"]) (lf<|pl "frame" [(some<|.ref 634),(some<|.ref 3),(some<|.ref 631),none,(some<|.str "framerune.store" 1308),none,(some<|.ref 0)])<|lf o_961)<|nd (fi [(.int 389 0),(.int 4 0),(.ref 515),(.int 392 0),(.int 4 0),(.ref 522),(.int 399 0),(.int 4 0),(.ref 529)]) (lf o_825) ni)<|nd (boot_o_5 P) (nd (boot_o_9 P) (nd (di [de P "__module__" 312<|.str "framerune.faults" 303,de P "__qualname__" 314<|.str "RuneError" 313,de P "__firstlineno__" 316<|.int 60 315,de P "__init__" 325<|.ref 28,de P "__static_attributes__" 328<|.ref 29] 5) (nd (fs "super" [(.ref 31),(.ref 31),(.ref 31)]) (nd (pl "frame" [(some<|.ref 64),(some<|.ref 3),(some<|.ref 61),none,(some<|.str "framerune.faults" 303),none,(some<|.ref 0)]) (nd Ev (nd o_275 (lf<|tu [])<|lf o_836)<|nd (fi []) (lf o_695)<|lf o_967)<|nd (ts 567 ["row"]) (nd (tu []) (lf<|fs "getset_descriptor" [(.str "__weakref__" 1245),(.ref 575),(.builtin "ExceptionGroup.__weakref__"),.none])<|lf<|f0 212 "type_token")<|nd (ts 1080 ["kt","i"]) (lf o_762) ni)<|nd DY (nd E0 (nd (tu []) (lf<|tu [])<|lf<|tu [])<|nd o_456 (lf<|ts 1475 ["store","row","base","shell","place"]) ni)<|nd o_243 (nd (f1 135 0 "KindTable.__init__") (lf<|fs "builtin_function_or_method" [(.builtin "type.__prepare__"),(.type "type")])<|lf<|fi [])<|nd o_520 (lf<|tu []) ni)<|nd (di [de P "__module__" 359<|.str "framerune.faults" 303,de P "__qualname__" 361<|.str "BadSig" 360,de P "__firstlineno__" 363<|.int 67 362,de P "__static_attributes__" 364<|.ref 54] 4) (nd I0 (nd EL (nd (fi []) (lf o_571)<|lf o_852)<|nd (tu []) (lf<|tu [])<|lf<|f0 225 "law")<|nd (f0 83 "split_coded") (nd FI (lf o_641)<|lf o_919)<|nd (f0 148 "tid_of") (lf<|fi []) ni)<|nd Ee (nd Fg (nd o_326 (lf<|ts 1227 ["self","table","n"])<|lf<|ts 1719 ["t"])<|nd (tu []) (lf<|f0 183 "sort_flags") ni)<|nd o_259 (nd o_405 (lf ⟨(.type "getset_descriptor"),none,(.fields #[(.str "__dict__" 1391),(.ref 624),(.builtin "function.__dict__"),(.builtin "function.__dict__#set")]),#[]⟩)<|lf<|tu [])<|nd (fi []) (lf o_813) ni)<|nd (tu []) (nd (pl "frame" [(some<|.ref 40),(some<|.ref 3),(some<|.ref 37),none,(some<|.str "framerune.faults" 303),none,(some<|.ref 0)]) (nd IR (nd ED (nd (tu []) (lf<|f1 157 1 "PlainHeap.put")<|lf o_844)<|nd (ts 1012 ["sort"]) (lf<|fs "builtin_function_or_method" [(.builtin "object.__init_subclass__"),(.ref 645)])<|lf o_975)<|nd (tu []) (nd o_356 (lf<|cc "Pages" 1252 419 583 584 1255 1256)<|lf o_911)<|nd (tu []) (lf<|tu []) ni)<|nd D6 (nd E8 (nd (f0 96 "rule_twice") (lf<|fi [])<|lf<|fi [])<|nd o_464 (lf<|tu []) ni)<|nd o_251 (nd o_397 (lf<|ts 1359 ["self","tid","name","sort","flags","base","params","asm","word"])<|lf<|ts 1797 ["p","fid"])<|nd (tu []) (lf<|f0 193 "units_octets") ni)<|nd (fs "super" [(.ref 56),(.ref 56),(.ref 56)]) (nd DO (nd ET (nd (ts 681 ["ts","table","place","other","number","first"]) (lf<|fs "builtin_function_or_method" [(.builtin "object.__init_subclass__"),(.ref 533)])<|lf o_860)<|nd (f0 140 "check_named") (lf<|o_722 P) ni)<|nd o_235 (nd (tu []) (lf<|ts 1280 ["asm","asm_refs","blobs","code","field_rows","guids","locals_sigs","members","method_rows","method_specs","rvas","specs","store","texts","tids","tokens","ts","type_refs","type_rows","users"])<|lf<|tu [])<|nd o_512 (lf<|ts 1561 ["n"]) ni)<|nd Em (nd Fo (nd o_334 (lf<|tu [])<|lf<|tu [])<|nd (fi []) (lf o_754) ni)<|nd o_267 (nd (tu []) (lf<|fi [(.int 491 0),(.int 4 0),(.ref 641)])<|lf<|f0 220 "pack_types")<|nd (di [de P "__module__" 1157<|.str "framerune.pages" 1144,de P "__qualname__" 1159<|.str "PlainHeap" 1158,de P "__firstlineno__" 1161<|.int 387 1160,de P "__init__" 1169<|.ref 516,de P "put" 1178<|.ref 523,de P "get" 1186<|.ref 530,de P "__static_attributes__" 1188<|.ref 531] 7) (lf o_821) ni)<|nd (cc "<module>" 182 1 11 12 185 186) (nd (pl "frame" [(some<|.ref 20),(some<|.ref 3),(some<|.ref 17),none,(some<|.str "framerune.faults" 303),none,(some<|.ref 0)]) (nd (di [de P "__module__" 343<|.str "framerune.faults" 303,de P "__qualname__" 345<|.str "BadImage" 344,de P "__firstlineno__" 347<|.int 65 346,de P "__static_attributes__" 348<|.ref 42] 4) (nd (fs "super" [(.ref 68),(.ref 68),(.ref 68)]) (nd Ez (nd (tu []) (lf<|tu [])<|lf<|ts 1660 ["p","k","value"])<|nd o_425 (lf o_699)<|lf<|ts 1842 ["script","count","out","v","kind","flags"])<|nd o_215 (nd (f0 100 "rule_constants") (lf<|fs "builtin_function_or_method" [(.builtin "type.__prepare__"),(.type "type")])<|lf<|fi [])<|nd o_492 (lf<|tu []) ni)<|nd D2 (nd E4 (nd (tu []) (lf<|f1 158 0 "PlainTables.__init__")<|lf<|f0 208 "number_rows")<|nd (ts 1046 ["kt","k","sort"]) (lf o_734) ni)<|nd (tu []) (nd (fi []) (lf<|cc "TypeDef" 1346 463 611 612 1349 1350)<|lf o_939)<|nd (tu []) (lf<|tu []) ni)<|nd (pl "frame" [(some<|.ref 52),(some<|.ref 3),(some<|.ref 49),none,(some<|.str "framerune.faults" 303),none,(some<|.ref 0)]) (nd I4 (nd EP (nd o_298 (lf o_575)<|lf o_856)<|nd (tu []) (lf<|f1 180 0 "Store.__init__") ni)<|nd (fi []) (nd FN (lf<|tu [])<|lf<|tu [])<|nd (fi []) (lf o_785) ni)<|nd Ei (nd Fk (nd (ts 746 ["row"]) (lf o_610)<|lf o_888)<|nd (f0 144 "prim_kind") (lf<|fi []) ni)<|nd o_263 (nd ⟨(.type "getset_descriptor"),none,(.fields #[(.str "__dict__" 987),(.ref 372),(.builtin "function.__dict__"),(.builtin "function.__dict__#set")]),#[]⟩ (lf<|tu [])<|lf<|tu [])<|nd o_543 (lf<|ts 1595 ["out","n","width","place"]) ni)<|nd (ts 326 ["at","code"]) (nd (fs "super" [(.ref 44),(.ref 44),(.ref 44)]) (nd IW (nd EH (nd (f0 92 "table_blob") (lf<|fi [])<|lf<|tu [])<|nd o_433 (lf<|tu [])<|lf o_979)<|nd (tu []) (nd FE (lf<|ts 1265 ["self","store","asm"])<|lf<|ts 1755 ["p","row","element","token","inner","arg"])<|nd (tu []) (lf<|f0 188 "need_as_defined") ni)<|nd Ea (nd Fc (nd (fi []) (lf o_602)<|lf o_880)<|nd (tu []) (lf<|tu []) ni)<|nd o_255 (nd (ts 969 ["self","row","found","depth","weight","opened","level","inner","k"]) (lf o_672)<|lf o_947)<|nd (f0 152 "is_var") (lf<|fi []) ni)<|nd (di [de P "__module__" 375<|.str "framerune.faults" 303,de P "__qualname__" 377<|.str "BadKind" 376,de P "__firstlineno__" 379<|.int 69 378,de P "__static_attributes__" 380<|.ref 66] 4) (nd DU (nd EW (nd o_306 (lf<|tu [])<|lf<|tu [])<|nd (fi []) (lf<|fs "super" [(.ref 666),(.ref 666),(.ref 666)]) ni)<|nd (ts 604 ["token"]) (nd (tu []) (lf<|fs "getset_descriptor" [(.str "__weakref__" 1303),(.ref 603),(.builtin "ExceptionGroup.__weakref__"),.none])<|lf<|f0 216 "kind_token")<|nd (ts 1114 ["kt","k"]) (lf o_793) ni)<|nd Er (nd Ft (nd (tu []) (lf<|ts 1241 ["rows"])<|lf<|tu [])<|nd o_484 (lf<|ts 1517 ["store","tid","name","kind","access","flags","t","fid"]) ni)<|nd (ts 641 ["ts","table"]) (nd (f0 136 "inner_kinds") (lf<|fi [])<|lf<|fi [])<|nd (pl "frame" [(some<|.ref 508),(some<|.ref 3),(some<|.ref 505),none,(some<|.str "framerune.pages" 1144),none,(some<|.ref 0)]) (lf<|fi []) ni)<|nd ⟨.none,none,(.dict #[de P "type.__subclasses__.Exception.0" 332<|.int 31 0,de P "type.__subclasses__.Exception.n" 333<|.int 1 0] 2),#[]⟩ (nd (boot_o_4 P) (nd (boot_o_8 P) (nd (fs "builtin_function_or_method" [(.builtin "type.__prepare__"),(.type "type")]) (nd (fs "getset_descriptor" [(.str "__weakref__" 329),(.ref 31),(.builtin "ExceptionGroup.__weakref__"),.none]) (nd (cc "BadKind" 370 69 62 63 373 374) (nd Eu (nd o_274 (lf<|ts 1165 ["self","zero"])<|lf<|f0 201 "const_octets")<|nd (tu []) (lf<|f1 179 0 "FieldDef.__init__")<|lf<|f0 221 "pack_field")<|nd (fi []) (nd o_341 (lf ⟨(.type "getset_descriptor"),none,(.fields #[(.str "__dict__" 1243),(.ref 575),(.builtin "function.__dict__"),(.builtin "function.__dict__#set")]),#[]⟩)<|lf<|tu [])<|nd (fi []) (lf o_761) ni)<|nd DX (nd EZ (nd (ts 693 ["ts","texts","told","table","word","place","number","row"]) (lf<|pl "frame" [(some<|.ref 543),(some<|.ref 3),(some<|.ref 540),none,(some<|.str "framerune.pages" 1144),none,(some<|.ref 0)])<|lf o_867)<|nd (f0 141 "check_args") (lf<|fi []) ni)<|nd o_242 (nd (tu []) (lf<|tu [])<|lf<|tu [])<|nd o_519 (lf<|ts 1568 ["text","units","letter"]) ni)<|nd (fs "builtin_function_or_method" [(.builtin "type.__prepare__"),(.type "type")]) (nd IZ (nd EK (nd (tu []) (lf<|f1 157 2 "PlainHeap.get")<|lf o_851)<|nd (ts 1019 ["kt","row","sort","inner"]) (lf<|pl "frame" [(some<|.ref 655),(some<|.ref 3),(some<|.ref 652),none,(some<|.str "framerune.store" 1308),none,(some<|.ref 0)])<|lf<|fi [])<|nd (tu []) (nd FH (lf o_640)<|lf o_918)<|nd (tu []) (lf<|tu []) ni)<|nd Ed (nd Ff (nd (f0 97 "twice_members") (lf<|fi [])<|lf<|fi [])<|nd o_471 (lf<|tu []) ni)<|nd o_258 (nd o_404 (lf o_675)<|lf<|ts 1805 ["t","flags","internal"])<|nd (tu []) (lf<|f0 194 "utf16_of") ni)<|nd (ts 320 ["self","code","at"]) (nd (cc "BadImage" 338 65 38 39 341 342) (nd IQ (nd EC (nd o_282 (lf<|tu [])<|lf o_843)<|nd (fi []) (lf<|fs "super" [(.ref 645),(.ref 645),(.ref 645)])<|lf o_974)<|nd (ts 574 ["coded","table","row","pair","tag","named"]) (nd o_351 (lf<|fi [(.int 421 0),(.int 4 0),(.ref 592),(.int 443 0),(.int 4 0),(.ref 599)])<|lf<|f0 213 "sig_tree")<|nd (ts 1088 ["kt","k"]) (lf o_772) ni)<|nd D5 (nd E7 (nd (tu []) (lf<|tu [])<|lf<|tu [])<|nd o_463 (lf<|ts 1486 ["store","sort"]) ni)<|nd o_250 (nd (f1 135 1 "KindTable.row") (lf<|fi [])<|lf<|fi [])<|nd o_527 (lf<|tu []) ni)<|nd o_59 (nd DN (nd ES (nd (fi []) (lf<|fs "super" [(.ref 533),(.ref 533),(.ref 533)])<|lf o_859)<|nd (tu []) (lf<|ts 1457 ["asms","entry","fields_","kt","methods","names","types"]) ni)<|nd (f0 84 "make_token") (nd (di [de P "__module__" 944<|.str "framerune.kinds" 778,de P "__qualname__" 946<|.str "KindTable" 945,de P "__firstlineno__" 948<|.int 237 947,de P "__init__" 957<|.ref 355,de P "row" 965<|.ref 362,de P "put" 980<|.ref 369,de P "__static_attributes__" 986<|.ref 370] 7) (lf o_648)<|lf o_926)<|nd (f0 149 "args_of") (lf<|fi []) ni)<|nd El (nd Fn (nd o_333 (lf<|ts 1236 ["self","table"])<|lf<|ts 1726 ["p","asm","name"])<|nd (tu []) (lf<|f0 184 "add_type") ni)<|nd o_266 (nd (fs "builtin_function_or_method" [(.builtin "object.__init_subclass__"),(.ref 372)]) (lf<|tu [])<|lf<|tu [])<|nd (fs "builtin_function_or_method" [(.builtin "type.__prepare__"),(.type "type")]) (lf o_820) ni)<|nd ⟨.none,none,.fields ls.toArray,#[]⟩ (nd (cc "RuneError" 307 60 18 19 310 311) (nd (fs "builtin_function_or_method" [(.builtin "type.__prepare__"),(.type "type")]) (nd o_75 (nd Ey (nd (ts 649 ["texts","offset"]) (lf o_558)<|lf<|fi [])<|nd (f0 137 "row_level") (lf<|o_698 P)<|lf<|fi [])<|nd o_214 (nd (tu []) (lf<|tu [])<|lf<|tu [])<|nd o_491 (lf<|ts 1531 ["store","k","tid"]) ni)<|nd D1 (nd E3 (nd o_313 (lf<|tu [])<|lf<|tu [])<|nd (fi []) (lf o_733) ni)<|nd (ts 611 ["table","name","place","column"]) (nd (tu []) (lf<|fi [(.int 465 0),(.int 4 0),(.ref 620)])<|lf<|f0 217 "kind_coded")<|nd (ts 1122 ["kt","k","sort"]) (lf o_800) ni)<|nd (cc "BadSig" 354 67 50 51 357 358) (nd I3 (nd EO (nd (f0 93 "rule_lists") (lf<|o_574 P)<|lf o_855)<|nd o_443 (lf<|tu []) ni)<|nd (tu []) (nd FM (lf<|ts 1274 ["self","sort","tree"])<|lf<|ts 1767 ["p","k","sort"])<|nd (tu []) (lf<|f0 189 "need_asm") ni)<|nd Eh (nd Fj (nd (fi []) (lf o_609)<|lf o_887)<|nd (tu []) (lf<|tu []) ni)<|nd o_262 (nd o_408 (lf<|fs "builtin_function_or_method" [(.builtin "object.__init_subclass__"),(.ref 624)])<|lf o_954)<|nd (f0 153 "int_range") (lf<|fi []) ni)<|nd o_23 (nd o_43 (nd IV (nd EG (nd (tu []) (lf<|tu [])<|lf<|ts 1669 ["store","asm","name","count","tid","t"])<|nd o_432 (lf<|di [de P "__module__" 1445<|.str "framerune.store" 1308,de P "__qualname__" 1447<|.str "Store" 1446,de P "__firstlineno__" 1449<|.int 499 1448,de P "__init__" 1456<|.ref 663,de P "__static_attributes__" 1464<|.ref 664] 5)<|lf<|f0 224 "_law_turned")<|nd o_222 (nd FD (lf<|fi [])<|lf<|fi [])<|nd o_499 (lf<|tu []) ni)<|nd D9 (nd Fb (nd (tu []) (lf<|f1 158 1 "PlainTables.add")<|lf<|f0 209 "enum_fields")<|nd (ts 1055 ["kt","tid","args"]) (lf o_741) ni)<|nd o_254 (nd (fi []) (lf o_671)<|lf o_946)<|nd (tu []) (lf<|tu []) ni)<|nd (fs "builtin_function_or_method" [(.builtin "type.__prepare__"),(.type "type")]) (nd DT (nd (di [⟨32,(.int 32 221),(.ref 166)⟩,⟨35,(.int 35 223),(.ref 176)⟩,⟨41,(.int 41 225),(.ref 179)⟩,⟨42,(.int 42 227),(.ref 184)⟩,⟨43,(.int 43 229),(.ref 187)⟩,⟨44,(.int 44 231),(.ref 190)⟩] 6) (nd o_305 (lf<|di [de P "__module__" 1203<|.str "framerune.pages" 1144,de P "__qualname__" 1205<|.str "PlainTables" 1204,de P "__firstlineno__" 1207<|.int 403 1206,de P "__init__" 1214<|.ref 551,de P "add" 1223<|.ref 558,de P "get" 1232<|.ref 565,de P "count" 1240<|.ref 572,de P "__static_attributes__" 1242<|.ref 573] 8)<|lf<|ts 1686 ["flags","pairs","out","own","theirs"])<|nd (tu []) (lf<|fs "getset_descriptor" [(.str "__weakref__" 1467),(.ref 666),(.builtin "ExceptionGroup.__weakref__"),.none]) ni)<|nd (fi []) (nd (pl "frame" [(some<|.ref 347),(some<|.ref 3),(some<|.ref 344),none,(some<|.str "framerune.kinds" 778),none,(some<|.ref 0)]) (lf ⟨(.type "getset_descriptor"),none,(.fields #[(.str "__dict__" 1301),(.ref 603),(.builtin "function.__dict__"),(.builtin "function.__dict__#set")]),#[]⟩)<|lf<|tu [])<|nd (fi []) (lf o_792) ni)<|nd Ep (nd Fs (nd (ts 753 ["ts","told","number","row","first","end","n"]) (lf o_617)<|lf o_895)<|nd (f0 145 "array_kind") (lf<|fi []) ni)<|nd (fi []) (nd (tu []) (lf<|tu [])<|lf<|tu [])<|nd (cc "PlainHeap" 1152 387 506 507 1155 1156) (lf<|tu []) ni)<|nd (boot_o_6 P) (nd (boot_o_10 P) (nd (tu []) (nd (fs "builtin_function_or_method" [(.builtin "object.__init_subclass__"),(.ref 31)]) (nd (tu []) (nd Ew (nd (tu []) (lf<|f1 157 0 "PlainHeap.__init__")<|lf o_837)<|nd (ts 1005 ["sort"]) (lf o_696)<|lf o_968)<|nd (tu []) (nd (fi []) (lf<|fs "super" [(.ref 575),(.ref 575),(.ref 575)])<|lf o_901)<|nd (tu []) (lf<|tu []) ni)<|nd DZ (nd E1 (nd (f0 95 "rule_names") (lf<|fi [])<|lf<|fi [])<|nd o_457 (lf<|tu []) ni)<|nd (tu []) (nd o_390 (lf<|di [de P "__module__" 1351<|.str "framerune.store" 1308,de P "__qualname__" 1353<|.str "TypeDef" 1352,de P "__firstlineno__" 1355<|.int 463 1354,de P "__init__" 1370<|.ref 621,de P "__static_attributes__" 1390<|.ref 622] 5)<|lf<|ts 1786 ["p","coded","k","table","row"])<|nd (tu []) (lf<|f0 192 "utf16_units") ni)<|nd (tu []) (nd I1 (nd EM (nd (ts 665 ["ts","told","table","place","other","rows","last","number","row","n"]) (lf o_572)<|lf o_853)<|nd (f0 139 "check_kind_row") (lf<|fi [])<|lf o_984)<|nd o_228 (nd FJ (lf<|tu [])<|lf<|tu [])<|nd o_505 (lf<|ts 1551 ["store","asm"]) ni)<|nd Ef (nd Fh (nd o_327 (lf<|tu [])<|lf<|tu [])<|nd (fi []) (lf o_747) ni)<|nd o_260 (nd (ts 981 ["depths","index","opens","rows","weights"]) (lf<|fs "getset_descriptor" [(.str "__weakref__" 1393),(.ref 624),(.builtin "ExceptionGroup.__weakref__"),.none])<|lf<|f0 219 "type_flags")<|nd (ts 1140 ["k"]) (lf o_814) ni)<|nd (f1 59 0 "RuneError.__init__") (nd (tu []) (nd IS (nd EE (nd (fi []) (lf o_564)<|lf<|tu [])<|nd (tu []) (lf<|tu [])<|lf<|tu [])<|nd (f0 82 "make_coded") (nd o_361 (lf<|pl "frame" [(some<|.ref 585),(some<|.ref 3),(some<|.ref 582),none,(some<|.str "framerune.pages" 1144),none,(some<|.ref 0)])<|lf o_912)<|nd (f0 147 "kind_sort") (lf<|fi []) ni)<|nd D7 (nd E9 (nd o_319 (lf<|ts 1218 ["self","table","row"])<|lf<|ts 1712 ["t"])<|nd (tu []) (lf<|f0 182 "usual_base") ni)<|nd o_252 (nd o_398 (lf<|tu [])<|lf<|tu [])<|nd (fi []) (lf o_806) ni)<|nd (fs "builtin_function_or_method" [(.builtin "object.__init_subclass__"),(.ref 56)]) (nd DP (nd EU (nd (tu []) (lf<|tu [])<|lf<|tu [])<|nd o_449 (lf o_723) ni)<|nd o_236 (nd (fi [(.int 239 0),(.int 4 0),(.ref 354),(.int 253 0),(.int 4 0),(.ref 361),(.int 258 0),(.int 4 0),(.ref 368)]) (lf<|o_650 P)<|lf<|fi [])<|nd o_513 (lf<|tu []) ni)<|nd En (nd Fp (nd (tu []) (lf<|f1 158 3 "PlainTables.count")<|lf<|f0 211 "asm_ref_row")<|nd (ts 1072 ["kt","elem"]) (lf o_755) ni)<|nd o_268 (nd (fi []) (lf<|cc "FieldDef" 1400 489 632 633 1403 1404)<|lf o_960)<|nd (tu []) (lf o_824) ni)<|nd (pl "frame" [(some<|.ref 13),(some<|.ref 3),(some<|.ref 3),none,(some<|.str "__main__" 164),none,(some<|.ref 0)]) (nd (tu []) (nd (tu []) (nd (fs "builtin_function_or_method" [(.builtin "object.__init_subclass__"),(.ref 68)]) (nd EA (nd (f0 91 "table_text") (lf<|fi [])<|lf<|tu [])<|nd o_426 (lf ⟨(.type "getset_descriptor"),none,(.fields #[(.str "__dict__" 1431),(.ref 645),(.builtin "function.__dict__"),(.builtin "function.__dict__#set")]),#[]⟩)<|lf<|tu [])<|nd (tu []) (nd o_347 (lf<|di [de P "__module__" 1257<|.str "framerune.pages" 1144,de P "__qualname__" 1259<|.str "Pages" 1258,de P "__firstlineno__" 1261<|.int 419 1260,de P "__init__" 1270<|.ref 593,de P "sig" 1279<|.ref 600,de P "__static_attributes__" 1300<|.ref 601] 6)<|lf<|ts 1745 ["p","k","row","sort"])<|nd (tu []) (lf<|f0 186 "type_of") ni)<|nd D3 (nd E5 (nd (fi []) (lf o_595)<|lf o_873)<|nd (tu []) (lf<|tu []) ni)<|nd (f0 86 "column_place") (nd (ts 961 ["self","k"]) (lf<|pl "frame" [(some<|.ref 613),(some<|.ref 3),(some<|.ref 610),none,(some<|.str "framerune.store" 1308),none,(some<|.ref 0)])<|lf o_940)<|nd (f0 151 "is_ref") (lf<|fi []) ni)<|nd (tu []) (nd o_99 (nd EQ (nd o_299 (lf ⟨(.type "getset_descriptor"),none,(.fields #[(.str "__dict__" 1189),(.ref 533),(.builtin "function.__dict__"),(.builtin "function.__dict__#set")]),#[]⟩)<|lf o_857)<|nd (fi []) (lf o_719) ni)<|nd (ts 596 ["table","row"]) (nd (tu []) (lf<|f1 159 1 "Pages.sig")<|lf<|f0 215 "is_plain")<|nd (ts 1105 ["kt","k","row"]) (lf o_786) ni)<|nd Ej (nd Fl (nd (tu []) (lf<|tu [])<|lf<|tu [])<|nd o_477 (lf<|ts 1502 ["store","asm","name","sort","flags","base","params","tid","key"]) ni)<|nd o_264 (nd (fs "getset_descriptor" [(.str "__weakref__" 989),(.ref 372),(.builtin "ExceptionGroup.__weakref__"),.none]) (lf<|fs "builtin_function_or_method" [(.builtin "type.__prepare__"),(.type "type")])<|lf<|fi [])<|nd o_544 (lf<|tu []) ni)<|nd (o_25 P) (nd (fs "builtin_function_or_method" [(.builtin "object.__init_subclass__"),(.ref 44)]) (nd IX (nd EI (nd o_288 (lf<|ts 1182 ["self","place"])<|lf<|f0 203 "floor_type")<|nd (tu []) (lf<|fi [(.int 501 0),(.int 4 0),(.ref 662)])<|lf o_980)<|nd (fi []) (nd FF (lf<|tu [])<|lf<|tu [])<|nd (fi []) (lf o_778) ni)<|nd Eb (nd Fd (nd (ts 722 ["ts","texts","blobs","told","lists","name_place","sig_place","table","place","other","number","first","end","seen","n","row","sig","key"]) (lf o_603)<|lf o_881)<|nd (f0 143 "class_kind") (lf<|fi []) ni)<|nd o_256 (nd (tu []) (lf<|ts 1371 ["asm","base","bounds","cctor","events","fields","finaliser","flags","home","ifaces","impls","methods","name","params","props","sort","tid","under","variances"])<|lf<|tu [])<|nd o_536 (lf<|ts 1586 ["text"]) ni)<|nd (tu []) (nd DV (nd EX (nd (tu []) (lf<|fi [(.int 405 0),(.int 4 0),(.ref 550),(.int 408 0),(.int 4 0),(.ref 557),(.int 412 0),(.int 4 0),(.ref 564),(.int 417 0),(.int 4 0),(.ref 571)])<|lf<|f0 207 "turned_bits")<|nd (ts 1037 ["kt","args","arg"]) (lf<|fs "builtin_function_or_method" [(.builtin "object.__init_subclass__"),(.ref 666)]) ni)<|nd (tu []) (nd (fi []) (lf<|fs "super" [(.ref 603),(.ref 603),(.ref 603)])<|lf o_932)<|nd (tu []) (lf<|tu []) ni)<|nd Es (nd Fu (nd (f0 99 "rule_iface") (lf<|o_619 P)<|lf<|fi [])<|nd o_485 (lf<|tu []) ni)<|nd (tu []) (nd o_418 (lf<|ts 1413 ["self","fid","owner","name","kind","access","flags"])<|lf<|ts 1826 ["p","f","is_shared","flags","row","element","octets","parent"])<|nd (tu []) (lf<|ts 1647 ["p","k","value","t","low","high","out"]) ni
def cut(n:Nat)(t:BT):Nat->Nat->BT:=@BT.rec (λO=>Nat->Nat->BT) (λO O=>.nil) (λo O O il ir a b=>@Bool.rec (λO=>BT) .nil (.node o (il (Nat.mul 2 a)<|Nat.add a b)<|ir (Nat.mul 2 a)<|Nat.add (Nat.mul 2 a) b)<|Nat.ble (Nat.succ b) n) t
def tree_4(P:Params):BT:=(((cut 15 (TF P) 1 0).set 2 λO=>boot_o_2 P).set 3 λO=>boot_o_3 P).set 12 λO=>o_2
def zw(P:Params):BT:=(((cut 15 (TF P) 1 0).set 2 λO=>boot_o_2 P).set 3 λO=>o_5 P).set 12 λO=>o_2
def v9(P:Params):BT:=(((cut 35 (TF P) 1 0).set 3 λO=>o_8 P).set 12 λO=>o_9).set 31 λO=>IH
def wa(P:Params):BT:=(((cut 47 (TF P) 1 0).set 3 λO=>II P).set 12 λO=>IJ).set 31 λO=>IK
def wb(P:Params):BT:=(((cut 59 (TF P) 1 0).set 3 λO=>IL P).set 12 λO=>IM).set 31 λO=>IN
def lu(P:Params):BT:=((cut 71 (TF P) 1 0).set 3 λO=>IO P).set 12 λO=>DL
def gg(P:Params):BT:=((cut 86 (TF P) 1 0).set 3 λO=>IP P).set 12 λO=>DL
def iC(P:Params):BT:=((cut 191 (TF P) 1 0).set 3 λO=>I5 P).set 12 λO=>DL
def t9(P:Params):BT:=((cut 272 (TF P) 1 0).set 3 λO=>Fv P).set 12 λO=>Fw
def iD(P:Params):BT:=((cut 328 (TF P) 1 0).set 3 λO=>Fx P).set 12 λO=>yc
def eJ(P:Params):BT:=((cut 329 (TF P) 1 0).set 3 λO=>Fy P).set 12 λO=>yc
def eK(P:Params):BT:=((cut 330 (TF P) 1 0).set 3 λO=>Fz P).set 12 λO=>yc
def iE(P:Params):BT:=((cut 342 (TF P) 1 0).set 3 λO=>FA P).set 12 λO=>yc
def ua(P:Params):BT:=((cut 398 (TF P) 1 0).set 3 λO=>FO P).set 12 λO=>FP
def ub(P:Params):BT:=((cut 489 (TF P) 1 0).set 3 λO=>FQ P).set 12 λO=>FR
def uc(P:Params):BT:=((cut 538 (TF P) 1 0).set 3 λO=>FS P).set 12 λO=>FT
def ud(P:Params):BT:=((cut 580 (TF P) 1 0).set 3 λO=>FU P).set 12 λO=>FV
def ue(P:Params):BT:=((cut 608 (TF P) 1 0).set 3 λO=>FW P).set 12 λO=>FX
def uf(P:Params):BT:=((cut 629 (TF P) 1 0).set 3 λO=>FY P).set 12 λO=>FZ
def ug(P:Params):BT:=((cut 650 (TF P) 1 0).set 3 λO=>F0 P).set 12 λO=>F1
def uh(P:Params):BT:=((cut 706 (TF P) 1 0).set 3 λO=>F2 P).set 12 λO=>F3
def iF(P:Params):BT:=((cut 762 (TF P) 1 0).set 3 λO=>F4 P).set 12 λO=>Bs
def iG(P:Params):BT:=((cut 764 (TF P) 1 0).set 3 λO=>F5 P).set 12 λO=>Bs
def ui(P:Params):BT:=((cut 836 (TF P) 1 0).set 3 λO=>F6 P).set 12 λO=>F7
def tree_985(P:Params):BT:=TF P
noncomputable def env_1:Env:={scope:=PySem.Challenge.pw_sa0257_01.main.scope,locals:=mainNs,globals:=mainNs,cells:=[],code:=.ref 13,frame:=some 14}
noncomputable def sts_4:List Stmt:=(PySem.Challenge.pw_sa0257_01.main.body.drop 0).take 44
noncomputable def sts_7:List Stmt:=(PySem.Challenge.pw_sa0257_01.main.body.drop 44).take 16
noncomputable def sts_31:List Stmt:=(PySem.Challenge.pw_sa0257_01.main.body.drop 60).take 1
noncomputable def sts_47:List Stmt:=(PySem.Challenge.pw_sa0257_01.main.body.drop 61).take 1
noncomputable def sts_63:List Stmt:=(PySem.Challenge.pw_sa0257_01.main.body.drop 62).take 17
noncomputable def sts_79:List Stmt:=(PySem.Challenge.pw_sa0257_01.main.body.drop 79).take 1
noncomputable def sts_98:List Stmt:=(PySem.Challenge.pw_sa0257_01.main.body.drop 80).take 1
noncomputable def sts_207:List Stmt:=(PySem.Challenge.pw_sa0257_01.main.body.drop 81).take 12
noncomputable def sts_291:List Stmt:=(PySem.Challenge.pw_sa0257_01.main.body.drop 93).take 20
noncomputable def sts_350:List Stmt:=(PySem.Challenge.pw_sa0257_01.main.body.drop 113).take 19
noncomputable def sts_355:List Stmt:=(PySem.Challenge.pw_sa0257_01.main.body.drop 132).take 2
noncomputable def sts_360:List Stmt:=(PySem.Challenge.pw_sa0257_01.main.body.drop 134).take 1
noncomputable def sts_376:List Stmt:=(PySem.Challenge.pw_sa0257_01.main.body.drop 135).take 4
noncomputable def sts_435:List Stmt:=(PySem.Challenge.pw_sa0257_01.main.body.drop 139).take 13
noncomputable def sts_529:List Stmt:=(PySem.Challenge.pw_sa0257_01.main.body.drop 152).take 6
noncomputable def sts_581:List Stmt:=(PySem.Challenge.pw_sa0257_01.main.body.drop 158).take 1
noncomputable def sts_626:List Stmt:=(PySem.Challenge.pw_sa0257_01.main.body.drop 159).take 14
noncomputable def sts_657:List Stmt:=(PySem.Challenge.pw_sa0257_01.main.body.drop 173).take 6
noncomputable def sts_681:List Stmt:=(PySem.Challenge.pw_sa0257_01.main.body.drop 179).take 1
noncomputable def sts_705:List Stmt:=(PySem.Challenge.pw_sa0257_01.main.body.drop 180).take 6
noncomputable def sts_764:List Stmt:=(PySem.Challenge.pw_sa0257_01.main.body.drop 186).take 13
noncomputable def sts_823:List Stmt:=(PySem.Challenge.pw_sa0257_01.main.body.drop 199).take 2
noncomputable def sts_829:List Stmt:=(PySem.Challenge.pw_sa0257_01.main.body.drop 201).take 12
noncomputable def sts_904:List Stmt:=(PySem.Challenge.pw_sa0257_01.main.body.drop 213).take 13
abbrev TW:=@PySem.W.Fast.tw10110043849684766642
abbrev TT:=PySem.W.Fast.tw14364793385576792824
def pcL(T:Params->BT)(n tk N:Nat)(l:List Stmt)(q:Pos)(w:World):Program->List Stmt->OsState->Option (Flow×SharedT×Code×Pos):=λp b os=>TW TT p w 11 (some<|.ref 6) 1 N ⟨T w.params,n,{},⟨[]⟩,{},tk,os⟩<|piecesOf l env_1 (.body b env_1) q [topFrame ⟨0,0,0,0⟩]
def pcR(T:Params->BT)(n tk:Nat)(q:Pos)(w:World):Program->List Stmt->OsState->Option (Flow×SharedT×Code×Pos):=λO b os=>some (.next,⟨T w.params,n,{},⟨[]⟩,{},tk,os⟩,.body b env_1,q)
noncomputable def sh(T:Params->BT)(n tk:Nat)(w:World)(os:OsState):Shared:=(SharedT.mk (T w.params) n {} ⟨[]⟩ {} tk os).abs
theorem li{T T':Params->BT}{n n' tk tk' N:Nat}{l rest:List Stmt}{q q':Pos}{w:World}{os:OsState}{p:Program}{b:List Stmt}{M:Nat}{r:Shared}(h:pcL T n tk N l q w=pcR T' n' tk' q' w)
 (k:topRun treeTable p w 11 (some<|.ref 6) M (sh T' n' tk' w os) (restOf rest env_1 (.body b env_1) q' [topFrame ⟨0,0,0,0⟩])=some r):
 topRun treeTable p w 11 (some<|.ref 6) (N+M) (sh T n tk w os) (restOf (l++rest) env_1 (.body b env_1) q [topFrame ⟨0,0,0,0⟩])=some r:=
 piece_app (segRun_of (by rw[PySem.W.Fast.te10110043849684766642,PySem.W.Fast.te14364793385576792824];show congrFun (congrFun (congrFun h p) b) os)) k
theorem I6(w:World):pcL tree_4 15 187 397 sts_4 ⟨0,0,0,0⟩ w=pcR zw 15 275 ⟨44,0,44,9⟩ w:=by kernel_rfl
theorem I7(w:World):pcL zw 15 275 366 sts_7 ⟨44,0,44,9⟩ w=pcR v9 35 336 ⟨60,0,64,20⟩ w:=by kernel_rfl
theorem I8(w:World):pcL v9 35 336 214 sts_31 ⟨60,0,64,20⟩ w=pcR wa 47 352 ⟨65,0,66,8⟩ w:=by kernel_rfl
theorem I9(w:World):pcL wa 47 352 214 sts_47 ⟨65,0,66,8⟩ w=pcR wb 59 368 ⟨67,0,68,8⟩ w:=by kernel_rfl
theorem Ja(w:World):pcL wb 59 368 358 sts_63 ⟨67,0,68,8⟩ w=pcR lu 71 416 ⟨86,0,86,18⟩ w:=by kernel_rfl
theorem F8(w:World):pcL lu 71 416 187 sts_79 ⟨86,0,86,18⟩ (w.withFollow "special-get-raises" false)=pcR gg 86 435 ⟨87,0,87,5⟩ (w.withFollow "special-get-raises" false):=by kernel_rfl
theorem F9(w:World):pcL lu 71 416 187 sts_79 ⟨86,0,86,18⟩ (w.withFollow "special-get-raises" true)=pcR gg 86 435 ⟨87,0,87,5⟩ (w.withFollow "special-get-raises" true):=by kernel_rfl
theorem Jb(w:World):pcL lu 71 416 187 sts_79 ⟨86,0,86,18⟩ w=pcR gg 86 435 ⟨87,0,87,5⟩ w:=byRow2 "special-get-raises" (P:=λw=>pcL lu 71 416 187 sts_79 ⟨86,0,86,18⟩ w=pcR gg 86 435 ⟨87,0,87,5⟩ w) F8 F9 w
theorem Ga(w:World):pcL gg 86 435 974 sts_98 ⟨87,0,87,5⟩ (w.withFollow "special-get-raises" false)=pcR iC 191 564 ⟨88,0,88,7⟩ (w.withFollow "special-get-raises" false):=by kernel_rfl
theorem Gb(w:World):pcL gg 86 435 974 sts_98 ⟨87,0,87,5⟩ (w.withFollow "special-get-raises" true)=pcR iC 191 564 ⟨88,0,88,7⟩ (w.withFollow "special-get-raises" true):=by kernel_rfl
theorem Jc(w:World):pcL gg 86 435 974 sts_98 ⟨87,0,87,5⟩ w=pcR iC 191 564 ⟨88,0,88,7⟩ w:=byRow2 "special-get-raises" (P:=λw=>pcL gg 86 435 974 sts_98 ⟨87,0,87,5⟩ w=pcR iC 191 564 ⟨88,0,88,7⟩ w) Ga Gb w
theorem Jd(w:World):pcL iC 191 564 396 sts_207 ⟨88,0,88,7⟩ w=pcR t9 272 662 ⟨122,0,123,35⟩ w:=by kernel_rfl
theorem Je(w:World):pcL t9 272 662 401 sts_291 ⟨122,0,123,35⟩ w=pcR iD 328 802 ⟨214,0,214,2⟩ w:=by kernel_rfl
theorem Gc(w:World):pcL iD 328 802 369 sts_350 ⟨214,0,214,2⟩ (w.withFollow "special-get-raises" false)=pcR eJ 329 867 ⟨233,0,233,8⟩ (w.withFollow "special-get-raises" false):=by kernel_rfl
theorem Gd(w:World):pcL iD 328 802 369 sts_350 ⟨214,0,214,2⟩ (w.withFollow "special-get-raises" true)=pcR eJ 329 867 ⟨233,0,233,8⟩ (w.withFollow "special-get-raises" true):=by kernel_rfl
theorem Jf(w:World):pcL iD 328 802 369 sts_350 ⟨214,0,214,2⟩ w=pcR eJ 329 867 ⟨233,0,233,8⟩ w:=byRow2 "special-get-raises" (P:=λw=>pcL iD 328 802 369 sts_350 ⟨214,0,214,2⟩ w=pcR eJ 329 867 ⟨233,0,233,8⟩ w) Gc Gd w
theorem Bt(w:World):pcL eJ 329 867 216 sts_355 ⟨233,0,233,8⟩ (w.withFollow "special-get-raises" false)=pcR eK 330 898 ⟨235,0,235,9⟩ (w.withFollow "special-get-raises" false):=by kernel_rfl
theorem Bu(w:World):pcL eJ 329 867 216 sts_355 ⟨233,0,233,8⟩ (w.withFollow "special-get-raises" true)=pcR eK 330 898 ⟨235,0,235,9⟩ (w.withFollow "special-get-raises" true):=by kernel_rfl
theorem Ge(w:World):pcL eJ 329 867 216 sts_355 ⟨233,0,233,8⟩ w=pcR eK 330 898 ⟨235,0,235,9⟩ w:=byRow2 "special-get-raises" (P:=λw=>pcL eJ 329 867 216 sts_355 ⟨233,0,233,8⟩ w=pcR eK 330 898 ⟨235,0,235,9⟩ w) Bt Bu w
theorem Bv(w:World):pcL eK 330 898 223 sts_360 ⟨235,0,235,9⟩ (w.withFollow "special-get-raises" false)=pcR iE 342 937 ⟨236,0,236,10⟩ (w.withFollow "special-get-raises" false):=by kernel_rfl
theorem Bw(w:World):pcL eK 330 898 223 sts_360 ⟨235,0,235,9⟩ (w.withFollow "special-get-raises" true)=pcR iE 342 937 ⟨236,0,236,10⟩ (w.withFollow "special-get-raises" true):=by kernel_rfl
theorem Gf(w:World):pcL eK 330 898 223 sts_360 ⟨235,0,235,9⟩ w=pcR iE 342 937 ⟨236,0,236,10⟩ w:=byRow2 "special-get-raises" (P:=λw=>pcL eK 330 898 223 sts_360 ⟨235,0,235,9⟩ w=pcR iE 342 937 ⟨236,0,236,10⟩ w) Bv Bw w
theorem Gg(w:World):pcL iE 342 937 387 sts_376 ⟨236,0,236,10⟩ w=pcR ua 398 1016 ⟨299,0,304,12⟩ w:=by kernel_rfl
theorem Gh(w:World):pcL ua 398 1016 399 sts_435 ⟨299,0,304,12⟩ w=pcR ub 489 1128 ⟨372,0,376,64⟩ w:=by kernel_rfl
theorem Gi(w:World):pcL ub 489 1128 375 sts_529 ⟨372,0,376,64⟩ w=pcR uc 538 1196 ⟨387,0,402,31⟩ w:=by kernel_rfl
theorem Gj(w:World):pcL uc 538 1196 320 sts_581 ⟨387,0,402,31⟩ w=pcR ud 580 1250 ⟨403,0,418,44⟩ w:=by kernel_rfl
theorem Gk(w:World):pcL ud 580 1250 393 sts_626 ⟨403,0,418,44⟩ w=pcR ue 608 1334 ⟨457,0,457,9⟩ w:=by kernel_rfl
theorem Gm(w:World):pcL ue 608 1334 293 sts_657 ⟨457,0,457,9⟩ w=pcR uf 629 1398 ⟨463,0,488,21⟩ w:=by kernel_rfl
theorem Gn(w:World):pcL uf 629 1398 234 sts_681 ⟨463,0,488,21⟩ w=pcR ug 650 1438 ⟨489,0,498,25⟩ w:=by kernel_rfl
theorem Go(w:World):pcL ug 650 1438 394 sts_705 ⟨489,0,498,25⟩ w=pcR uh 706 1528 ⟨541,0,546,14⟩ w:=by kernel_rfl
theorem Gp(w:World):pcL uh 706 1528 290 sts_764 ⟨541,0,546,14⟩ w=pcR iF 762 1606 ⟨587,0,587,11⟩ w:=by kernel_rfl
theorem Bx(w:World):pcL iF 762 1606 385 sts_823 ⟨587,0,587,11⟩ (w.withFollow "special-get-raises" false)=pcR iG 764 1644 ⟨589,0,589,11⟩ (w.withFollow "special-get-raises" false):=by kernel_rfl
theorem By(w:World):pcL iF 762 1606 385 sts_823 ⟨587,0,587,11⟩ (w.withFollow "special-get-raises" true)=pcR iG 764 1644 ⟨589,0,589,11⟩ (w.withFollow "special-get-raises" true):=by kernel_rfl
theorem Gq(w:World):pcL iF 762 1606 385 sts_823 ⟨587,0,587,11⟩ w=pcR iG 764 1644 ⟨589,0,589,11⟩ w:=byRow2 "special-get-raises" (P:=λw=>pcL iF 762 1606 385 sts_823 ⟨587,0,587,11⟩ w=pcR iG 764 1644 ⟨589,0,589,11⟩ w) Bx By w
theorem Gr(w:World):pcL iG 764 1644 370 sts_829 ⟨589,0,589,11⟩ w=pcR ui 836 1742 ⟨669,0,682,51⟩ w:=by kernel_rfl
theorem Gs(w:World):pcL ui 836 1742 389 sts_904 ⟨669,0,682,51⟩ w=pcR tree_985 916 1863 ⟨801,0,843,26⟩ w:=by kernel_rfl
theorem chain(p:Program)(b:List Stmt)(w:World)(os:OsState)(rest:List Stmt)(N:Nat)(r:Shared)(h:topRun treeTable p w 11 (some<|.ref 6) N (sh tree_985 916 1863 w os) (restOf rest env_1 (.body b env_1) ⟨801,0,843,26⟩ [topFrame ⟨0,0,0,0⟩])=some r):
 topRun treeTable p w 11 (some<|.ref 6) (397+(366+(214+(214+(358+(187+(974+(396+(401+(369+(216+(223+(387+(399+(375+(320+(393+(293+(234+(394+(290+(385+(370+(389+N)))))))))))))))))))))))) (sh tree_4 15 187 w os) (restOf (sts_4++(sts_7++(sts_31++(sts_47++(sts_63++(sts_79++(sts_98++(sts_207++(sts_291++(sts_350++(sts_355++(sts_360++(sts_376++(sts_435++(sts_529++(sts_581++(sts_626++(sts_657++(sts_681++(sts_705++(sts_764++(sts_823++(sts_829++(sts_904++rest)))))))))))))))))))))))) env_1 (.body b env_1) ⟨0,0,0,0⟩ [topFrame ⟨0,0,0,0⟩])=some r:=(li (I6 w)<|li (I7 w)<|li (I8 w)<|li (I9 w)<|li (Ja w)<|li (Jb w)<|li (Jc w)<|li (Jd w)<|li (Je w)<|li (Jf w)<|li (Ge w)<|li (Gf w)<|li (Gg w)<|li (Gh w)<|li (Gi w)<|li (Gj w)<|li (Gk w)<|li (Gm w)<|li (Gn w)<|li (Go w)<|li (Gp w)<|li (Gq w)<|li (Gr w)<|li (Gs w) h)
end Kl
section
set_option maxHeartbeats 0
noncomputable abbrev pE:Program:=PySem.Challenge.pw_sa0257_01
noncomputable abbrev Ab:Option Value:=some<|.ref 6
noncomputable abbrev p0:Pos:=⟨0,0,0,0⟩
noncomputable abbrev pK:Pos:=⟨801,0,843,26⟩
abbrev cE:Code:=.body (behindTheImports pE) Kl.env_1
abbrev H1(P:Params):Heap:=absHeap (Kl.tree_985 P) 916 {}
abbrev SB(w:World)(os:OsState):Shared:=(SharedT.mk (Kl.tree_4 w.params) 15 {} ⟨[]⟩ {} 187 os).abs
abbrev SK(w:World)(os:OsState):Shared:=(SharedT.mk (Kl.tree_985 w.params) 916 {} ⟨[]⟩ {} 1863 os).abs
theorem pre(w:World)(os:OsState):topGo treeTable pE w 11 Ab 12 ⟨boot_heap w.params,⟨[]⟩,boot_drawn,boot_toks,os⟩ (topStub pE)=some (SB w os,⟨denote treeTable cE,cE,p0,[topFrame p0]⟩):=by kernel_rfl
theorem Bz(w:World)(os:OsState):segRun treeTable pE w 11 Ab 1 1 (SB w os) (blockOf (behindTheImports pE) Kl.env_1 cE p0 [topFrame p0])=some (.next,SB w os,cE,p0):=by kernel_rfl
theorem zx(w:World)(os:OsState):topRun treeTable pE w 11 Ab 2 (SK w os) ⟨doneF .next,cE,pK,[topFrame p0]⟩=some (SK w os):=by kernel_rfl
def BB:List Stmt:=(Kl.sts_4++
 (Kl.sts_7++
  (Kl.sts_31++
   (Kl.sts_47++
    (Kl.sts_63++
     (Kl.sts_79++
      (Kl.sts_98++
       (Kl.sts_207++
        (Kl.sts_291++
         (Kl.sts_350++
          (Kl.sts_355++
           (Kl.sts_360++
            (Kl.sts_376++
             (Kl.sts_435++
              (Kl.sts_529++
               (Kl.sts_581++
                (Kl.sts_626++
                 (Kl.sts_657++
                  (Kl.sts_681++
                   (Kl.sts_705++
                    (Kl.sts_764++
                     (Kl.sts_823++
                      (Kl.sts_829++(Kl.sts_904++[]))))))))))))))))))))))))
theorem qH:behindTheImports pE=BB:=by kernel_rfl
theorem Io(w:World)(os:OsState): ∃M,Nat.ble M 20000=true/\topRun treeTable pE w 11 Ab M ⟨boot_heap w.params,⟨[]⟩,boot_drawn,boot_toks,os⟩ (topStub pE)=some (SK w os):=by
 have c:=Kl.chain pE (behindTheImports pE) w os [] 2 (SK w os)<|piece_nil<|zx w os;have k:=go_top (pre w os)<|piece_block (Bz w os) (by rw[qH];show c);show⟨_,by rfl,k⟩
end
section
set_option maxHeartbeats 0
def qV:Program:={pE with main:={pE.main with body:=pE.main.body.drop 225}}
def qI:List Str:=pE.boundNames.filter (· !=("law":Str))
def HK:Hook:=⟨Heap,λs=>s.heap,λw=>H1 w.params,λw h=> ∀b o,(H1 w.params).get? b=some o->h.get? b=some o,λw s e=>by rw[<-e];show λO O x=>x,λw h h' y k b o e=>k _ _<|y b o e⟩
theorem size(w:World):((boot_heap w.params).isNs mainGlobals&&(⟨[]⟩:Array GenState).size==0,(boot_heap w.params).objs.size,(boot_heap w.params).nsMap mainGlobals "__annotations__")=(true,11,Ab):=by kernel_rfl
theorem Gu(N:Nat)(h:Nat.ble 600 N=true): ∀w:World,(fencedOpening treeTable pE w N).map (λs=>(s.heap,s.gens,s.drawn,s.toks))=some (boot_heap w.params,Array.mk [],boot_drawn,boot_toks):=
 boot_open 2. h (λs=>by kernel_rfl)
theorem Gv(w:World)(os:OsState):(staticsOk (importedModules pE.main.body) (boot_heap w.params) (H1 w.params)&&namesBound pE (H1 w.params)&&gensDone ⟨H1 w.params,⟨[]⟩,{},1863,os⟩&&laidKept (boot_heap w.params) (H1 w.params))=true:=by kernel_rfl
theorem Gw(w:World)(os:OsState):openSeen qV qI (importedModules pE.main.body) (λO=>true) true ⟨H1 w.params,⟨[]⟩,{},1863,os⟩=openGood qV qI:=by kernel_rfl
end
section
set_option maxHeartbeats 0
theorem left(N:Nat)(hN:Nat.ble 20000 N=true):LeftO pE qV qI (λO=>true) HK.obs HK.val N true:=by
 intro w;obtain⟨M,hM,hr⟩: ∃M,Nat.ble M 20000=true/\ ∀(w:World) (os:OsState),topRun treeTable pE w 11 Ab M ⟨boot_heap w.params,⟨[]⟩,boot_drawn,boot_toks,os⟩ (topStub pE)=some (SK w os):=by
  show⟨_,?_,λw os=>go_top (pre w os)<|piece_block (Bz w os) (by rw[qH];show Kl.chain pE (behindTheImports pE) w os [] 2 (SK w os)<|piece_nil<|zx w os)⟩;rfl
 have hN':Nat.ble M N=true:=by
  have:=J9 hM;have:=J9 hN;show Nat.ble_eq.mpr 3.
 have h6:Nat.ble 600 N=true:=by
  have:=J9 hN;show Nat.ble_eq.mpr 3.
 show LeftO.of_pieces (H₀:=boot_heap) (H₁:=H1) (gs₀:=⟨[]⟩) (gs₁:=⟨[]⟩) (d₀:=boot_drawn) (d₁:={}) (k₀:=boot_toks) (k₁:=1863) (m₀:=11) (ann:=Ab) (M:=M)
  (Gu N h6) size hr hN' (λw=>funext λos=>by rw[Gv w os,Gw w os];rfl) w
theorem zy:(defOf qV ("law":Str)).isSome=true:=by kernel_rfl
def yd:DefRec×List (Str×Expr):=(defOf qV ("law":Str)).get zy
theorem Ac:defOf qV PySem.Challenge.rw_sa0257_01.row.name=some (yd.1,yd.2):=by
 change defOf qV ("law":Str)=some yd;show(Option.some_get zy).symm
end
section
set_option maxHeartbeats 0
section
variable(l:OpenLaw)
noncomputable def sd0:Bool:=sreFenced l.row.prog.main
noncomputable def sd1:Bool:=((moduleNames l.row.prog.main.body).isEmpty||lookedIntoSs (moduleNames l.row.prog.main.body) l.row.prog.main.body)
noncomputable def sd2:Bool:=(namesResolve l.row.prog)&&(l.row.prog.boundNames.all<|λn=> !worldNames.contains n)
noncomputable def sd3:Bool:=noRoadLSs {strict:= !(importedModules l.row.prog.main.body).all cThrough.contains,foot:=none,bare:=(["vars","dir","locals"]:List Str).filter<|readsOut l.row.prog l.row.prog.main.body} l.row.prog.main.body
noncomputable def sd4:Bool:=namesMeet l.row.prog l.row.prog.main.body λO n=>attrL n
noncomputable def sd5:Bool:=((l.row.loose.isEmpty&&l.row.makers.isEmpty&&(l.row.records.isEmpty||l.row.raises.all λct=>ct.1 !=.builtin "AttributeError"&&ct.1 !=.builtin "TypeError")&&(l.row.raises.all λct=>match ct.1 with| .builtin n=> !l.row.prog.boundNames.contains (Str.ofString n)&& !ofTheWorld.contains n| .own _=>true)&&decide (l.row.records.map (·.1)).Nodup&&(l.row.records.all λx=> !x.1.opensWith "__"&& !builtinNamed x.1&&l.row.prog.boundNames.contains x.1&&x.2.all λf=> !f.1.opensWith "__")))&&((l.row.toRowW.solid&&l.row.pre.litsOk&&l.row.post.litsOk&&l.row.raises.all (·.2.litsOk)&&l.row.mutates.all (λi=>match l.row.args[i]? with|some sh=> !sh.arms.any WShape.isObj|none=>false)&&l.row.within.all (λi=>decide<|i<l.row.args.length)&&l.row.same.all (λi=>decide<|i<l.row.args.length)))&&(l.row.prog.boundNames.contains l.row.name&& !startupNames.contains l.row.name)&&(decide (l.foot<=(behindTheImports l.prog).length)&&l.footing.all footLine&&noClassBlock l.prog l.footing)&&(l.most.all (λn=>decide<|63<=n)&&l.bound.all (λn=>decide<|2^63<=n))
noncomputable def sd6:Bool:=noRoadLSs {strict:=true,foot:=some l.bound',writes:=l.writes,may:=l.may} l.footing
noncomputable def sd7:Bool:=(defStands l.about l.above)&&(l.namesIt)
noncomputable def sd8:Bool:=(["type","isinstance","issubclass","getattr","hasattr"]:List Str).all (λn=>l.about !=[n])&&l.bound'.all (λn=> !builtinNamed n||l.about==[n]|| !l.reads n)
noncomputable def sd9:Bool:=((!l.writes||(l.prog.main.body.flatMap importedNames).all λn=> !l.reads n))&&((l.prog.main.body.flatMap importedNames).all<|λn=> !l.reads n||(drawsOf n l.prog.main.body).all λmn=>mn.2 !=("attrgetter":Str)&&mn.2 !=("methodcaller":Str))&&(namesMeet l.prog l.footing<|λsc n=>(!(["type","isinstance","issubclass","getattr","hasattr"]:List Str).contains n||sc.names.lookup n==some .globalImplicit)&&(l.may !=some n||sc.kind==.module||sc.names.lookup n==some .globalImplicit))&&(l.own.contains l.name&&l.own.eraseDups.length==l.own.length&&l.own.all (λn=> !builtinNamed n))&&(namesMeet l.prog l.above<|λO n=> !l.own.contains n)&&(namesMeet l.prog l.footing λsc n=>sc.kind==.module||sc.names.lookup n !=some .globalExplicit)
theorem Ad:l.wellSaid=(sd0 l&&sd1 l&&sd2 l&&sd3 l&&sd4 l&&sd5 l&&sd6 l&&sd7 l&&sd8 l&&sd9 l):=by
 simp only[OpenLaw.wellSaid,OpenRow.wellSaid,OpenRow.partSaid,looksOpen,sd0,sd1,sd2,sd3,sd4,sd5,sd6,sd7,sd8,sd9,Bool.and_assoc];rfl
end
theorem sp0:sd0 PySem.Challenge.rw_sa0257_01=true:=by kernel_rfl
theorem sp1:sd1 PySem.Challenge.rw_sa0257_01=true:=by kernel_rfl
theorem sp2:sd2 PySem.Challenge.rw_sa0257_01=true:=by kernel_rfl
theorem sp3:sd3 PySem.Challenge.rw_sa0257_01=true:=by kernel_rfl
theorem sp4:sd4 PySem.Challenge.rw_sa0257_01=true:=by kernel_rfl
theorem sp5:sd5 PySem.Challenge.rw_sa0257_01=true:=by kernel_rfl
theorem sp6:sd6 PySem.Challenge.rw_sa0257_01=true:=by kernel_rfl
theorem sp7:sd7 PySem.Challenge.rw_sa0257_01=true:=by kernel_rfl
theorem sp8:sd8 PySem.Challenge.rw_sa0257_01=true:=by kernel_rfl
theorem sp9:sd9 PySem.Challenge.rw_sa0257_01=true:=by kernel_rfl
theorem Jg:OpenLaw.wellSaid PySem.Challenge.rw_sa0257_01=true:=(Ad _).trans<|look_both (look_both (look_both (look_both (look_both (look_both (look_both (look_both (look_both sp0 sp1) sp2) sp3) sp4) sp5) sp6) sp7) sp8) sp9
end
section
set_option maxHeartbeats 0
noncomputable abbrev rowL:OpenRow:=PySem.Challenge.rw_sa0257_01.row
theorem ye:rowL.prog.theDef rowL.name=some (yd.1.params,yd.1.body,yd.1.scope):=by kernel_rfl
theorem Ae:kwWritten? yd.1.params.kwonlyargs yd.1.params.kw_defaults=some yd.2:=by kernel_rfl
theorem uV:chainsOk qV=true:=by kernel_rfl
theorem uW:opensWell rowL.prog=true:=by kernel_rfl
theorem uX:frees rowL.toRowW=true:=by kernel_rfl
section
open PySem.TablesWhole
theorem wc(top:Scope)(cx:TablesWhole.Ctx)(sc:Scope): ∀l,wSs holds top cx sc l=l.all (wS holds top cx sc)
 |[]=>rfl
 |s::l=>by rw[List.all_cons,<-wc top cx sc l];rfl
abbrev xZ(p:Program):TablesWhole.Ctx:=⟨p.main.scope,[],[],[],none⟩
theorem wd(p:Program)(hm:p.modules=[])(hp:p.parses=[])(hh:p.harvested=[])(t:wSs gather p.main.scope (xZ p) p.main.scope p.main.body=[])(n:noTwice p.main.scope=true)
 (w1:(p.main.body.take 100).all (wS holds p.main.scope (xZ p) p.main.scope)=true)(w2:((p.main.body.drop 100).take 50).all (wS holds p.main.scope (xZ p) p.main.scope)=true)(w3:((p.main.body.drop 100).drop 50).all (wS holds p.main.scope (xZ p) p.main.scope)=true):p.tablesWhole=true:=by
 have w:wSs holds p.main.scope (xZ p) p.main.scope p.main.body=true:=by
  rw[wc,<-List.take_append_drop 100 p.main.body,List.all_append,w1,<-List.take_append_drop 50<|p.main.body.drop 100,List.all_append,w2,w3];rfl
 have e:wModule holds p.main=(true&&(noTwice p.main.scope&&(wSs holds p.main.scope ⟨p.main.scope,[],wSs gather p.main.scope (xZ p) p.main.scope p.main.body,[],none⟩ p.main.scope p.main.body&&true))):=4.;rw[t,n,w]at e;unfold Program.tablesWhole wProgram;rw[e,hm,hp,hh];rfl
theorem Gx:wSs gather rowL.prog.main.scope (xZ rowL.prog) rowL.prog.main.scope rowL.prog.main.body=[]:=by kernel_rfl
theorem Gy:(rowL.prog.main.body.take 100).all (wS holds rowL.prog.main.scope (xZ rowL.prog) rowL.prog.main.scope)=true:=by kernel_rfl
theorem Gz:((rowL.prog.main.body.drop 100).take 50).all (wS holds rowL.prog.main.scope (xZ rowL.prog) rowL.prog.main.scope)=true:=by kernel_rfl
theorem GA:((rowL.prog.main.body.drop 100).drop 50).all (wS holds rowL.prog.main.scope (xZ rowL.prog) rowL.prog.main.scope)=true:=by kernel_rfl
end
theorem we:rowL.prog.bare:=⟨4.,4.,4.,4.,4.,wd _ 4. 4. 4. Gx 2. Gy Gz GA⟩
end
abbrev Nm:=Sum Addr<|Nat×Nat
inductive MV where
 |none
 |bool (b:Bool)
 |int (i:Int)
 |str (x:Str)
 |bytes (b:Array UInt8)
 |tup (vs:List MV)
 |ref (a:Nm)
 |blt (id:String)
 |typ (n:String)
 |rng (a b:Int)
structure Imm where
 im:Addr->Option Obj
 nm:Nat×Nat->Option Addr
noncomputable def Imm.at(I:Imm):Nm->Option Addr
 | .inl a=>some a
 | .inr p=>I.nm p
structure Sub(I J:Imm):Prop where
 im: ∀a o,I.im a=some o->J.im a=some o
 nm: ∀p a,I.nm p=some a->J.nm p=some a
theorem Sub.refl(I:Imm):Sub I I:=⟨λO O e=>e,λO O e=>e⟩
theorem Sub.trans{I J K:Imm}(x:Sub I J)(y:Sub J K):Sub I K:=⟨λa o e=>y.im a o<|x.im a o e,λa o e=>y.nm a o<|x.nm a o e⟩
theorem Sub.at{I J:Imm}(x:Sub I J){n:Nm}{a:Addr}(h:I.at n=some a):J.at n=some a:=by
 cases n with
 |inl b=>show h
 |inr p=>show x.nm _ _ h
mutual
inductive VR(I:Imm):MV->Value->Prop
 |none:VR I .none .none
 |bool (b:Bool):VR I (.bool b)<|.bool b
 |int (i:Int) (t:Tok):VR I (.int i)<|.int i t
 |str (x:Str) (t:Tok):VR I (.str x)<|.str x t
 |bytes (b:Array UInt8) (t:Tok):VR I (.bytes b)<|.bytes b t
 |tup {a:Addr} {n:Nat} {vs:List Value} {ms:List MV}:I.im a=some {cls:=.type "tuple",data:=.seq vs.toArray n}->VRs I ms vs->VR I (.tup ms) (.ref a)
 |ref {n:Nm} {a:Addr}:I.at n=some a->VR I (.ref n) (.ref a)
 |blt (id:String):VR I (.blt id)<|.builtin id
 |typ (n:String):VR I (.typ n)<|.type n
 |rng {r:Addr} {a b:Int} {t u v:Tok}:I.im r=some {cls:=.type "range",dict:=none,data:=.fields #[.int a t,.int b u,.int 1 v],slots:=#[]}->VR I (.rng a b) (.ref r)
inductive VRs(I:Imm):List MV->List Value->Prop
 |nil:VRs I [] []
 |cons {m:MV} {v:Value} {ms:List MV} {vs:List Value}:VR I m v->VRs I ms vs->VRs I (m::ms) (v::vs)
end
theorem VR.mono{I J:Imm}(s:Sub I J){m:MV}{v:Value}(h:VR I m v):VR J m v:=
 VR.rec (motive_1:=λm v O=>VR J m v) (motive_2:=λms vs O=>VRs J ms vs) .none .bool .int .str .bytes (λh O ih=>.tup (s.im _ _ h) ih) (λh=>.ref<|s.at h) .blt .typ (λh=>.rng<|s.im _ _ h) .nil (λO O a b=>.cons a b) h
theorem VRs.mono{I J:Imm}(s:Sub I J){ms:List MV}{vs:List Value}(h:VRs I ms vs):VRs J ms vs:=
 VRs.rec (motive_1:=λm v O=>VR J m v) (motive_2:=λms vs O=>VRs J ms vs) .none .bool .int .str .bytes (λh O ih=>.tup (s.im _ _ h) ih) (λh=>.ref<|s.at h) .blt .typ (λh=>.rng<|s.im _ _ h) .nil (λO O a b=>.cons a b) h
section
variable{I:Imm}{m:MV}{v:Value}{ms ns:List MV}{vs ws:List Value}
theorem VR.n_(V:VR I .none v):v=.none:=by cases V;rfl
theorem VR.o_{b:Bool}(V:VR I (.bool b) v):v=.bool b:=by cases V;rfl
theorem VR.i_{i:Int}(V:VR I (.int i) v): ∃t,v=.int i t:=by cases V;show⟨_,4.⟩
theorem VR.s_{x:Str}(V:VR I (.str x) v): ∃t,v=.str x t:=by cases V;show⟨_,4.⟩
theorem VR.b_{x:Array UInt8}(V:VR I (.bytes x) v): ∃t,v=.bytes x t:=by cases V;show⟨_,4.⟩
theorem VR.t_(V:VR I (.tup ms) v): ∃a n vs,v=.ref a/\I.im a=some {cls:=.type "tuple",data:=.seq (List.toArray vs) n}/\VRs I ms vs:=by cases V with|tup h r=>show⟨_,_,_,4.,h,r⟩
theorem VR.r_{n:Nm}(V:VR I (.ref n) v): ∃a,v=.ref a/\I.at n=some a:=by cases V with|ref h=>show⟨_,4.,h⟩
theorem VR.k_{x:String}(V:VR I (.blt x) v):v=.builtin x:=by cases V;rfl
theorem VR.y_{x:String}(V:VR I (.typ x) v):v=.type x:=by cases V;rfl
theorem VR.g_{a b:Int}(V:VR I (.rng a b) v): ∃r t u w,v=.ref r/\I.im r=some {cls:=.type "range",dict:=Option.none,data:=.fields #[.int a t,.int b u,.int 1 w],slots:=#[]}:=by cases V with|rng h=>show⟨_,_,_,_,4.,h⟩
theorem VRs.e_(V:VRs I [] vs):vs=[]:=by cases V;rfl
theorem VRs.c_(V:VRs I (m::ms) vs): ∃v ws,vs=v::ws/\VR I m v/\VRs I ms ws:=by cases V with|cons a b=>show⟨_,_,4.,a,b⟩
theorem VRs.c1(V:VRs I [m] vs): ∃v,vs=[v]/\VR I m v:=by obtain⟨O,O,rfl,a,b⟩:=V.c_;cases b.e_;show⟨_,4.,a⟩
theorem VRs.c2{n:MV}(V:VRs I [m,n] vs): ∃v u,vs=[v,u]/\VR I m v/\VR I n u:=by obtain⟨O,O,rfl,a,b⟩:=V.c_;obtain⟨O,rfl,c⟩:=b.c1;show⟨_,_,4.,a,c⟩
theorem VRs.c3{n p:MV}(V:VRs I [m,n,p] vs): ∃v u w,vs=[v,u,w]/\VR I m v/\VR I n u/\VR I p w:=by obtain⟨O,O,rfl,a,b⟩:=V.c_;obtain⟨O,O,rfl,c⟩:=b.c2;show⟨_,_,_,4.,a,c⟩
@[elab_as_elim] theorem VR.kn{P:Value->Prop}(V:VR I .none v)(h:P .none):P v:=V.n_▸h
@[elab_as_elim] theorem VR.ko{P:Value->Prop}{b:Bool}(V:VR I (.bool b) v)(h:P<|.bool b):P v:=V.o_▸h
@[elab_as_elim] theorem VR.ki{P:Value->Prop}{i:Int}(V:VR I (.int i) v)(h: ∀t,P (.int i t)):P v:=by obtain⟨O,e⟩:=V.i_;show e▸h _
@[elab_as_elim] theorem VR.ks{P:Value->Prop}{x:Str}(V:VR I (.str x) v)(h: ∀t,P (.str x t)):P v:=by obtain⟨O,e⟩:=V.s_;show e▸h _
@[elab_as_elim] theorem VR.kb{P:Value->Prop}{x:Array UInt8}(V:VR I (.bytes x) v)(h: ∀t,P (.bytes x t)):P v:=by obtain⟨O,e⟩:=V.b_;show e▸h _
@[elab_as_elim] theorem VR.kt{P:Value->Prop}(V:VR I (.tup ms) v)(h: ∀a n vs,I.im a=some {cls:=.type "tuple",data:=.seq (List.toArray vs) n}->VRs I ms vs->P (.ref a)):P v:=by obtain⟨O,O,O,e,c,d⟩:=V.t_;show e▸h _ _ _ c d
@[elab_as_elim] theorem VR.kr{P:Value->Prop}{n:Nm}(V:VR I (.ref n) v)(h: ∀a,I.at n=some a->P (.ref a)):P v:=by obtain⟨O,e,c⟩:=V.r_;show e▸h _ c
@[elab_as_elim] theorem VR.kk{P:Value->Prop}{x:String}(V:VR I (.blt x) v)(h:P<|.builtin x):P v:=V.k_▸h
@[elab_as_elim] theorem VR.ky{P:Value->Prop}{x:String}(V:VR I (.typ x) v)(h:P<|.type x):P v:=V.y_▸h
@[elab_as_elim] theorem VR.kg{P:Value->Prop}{a b:Int}(V:VR I (.rng a b) v)(h: ∀r t u w,I.im r=some {cls:=.type "range",dict:=Option.none,data:=.fields #[.int a t,.int b u,.int 1 w],slots:=#[]}->P (.ref r)):P v:=by obtain⟨O,O,O,O,e,c⟩:=V.g_;show e▸h _ _ _ _ c
@[elab_as_elim] theorem VRs.ke{P:List Value->Prop}(V:VRs I [] vs)(h:P []):P vs:=V.e_▸h
@[elab_as_elim] theorem VRs.kc{P:List Value->Prop}(V:VRs I (m::ms) vs)(h: ∀v ws,VR I m v->VRs I ms ws->P (v::ws)):P vs:=by obtain⟨O,O,e,c,d⟩:=V.c_;show e▸h _ _ c d
@[elab_as_elim] theorem VRs.k1{P:List Value->Prop}(V:VRs I [m] vs)(h: ∀v,VR I m v->P [v]):P vs:=by obtain⟨O,e,c⟩:=V.c1;show e▸h _ c
@[elab_as_elim] theorem VRs.k2{P:List Value->Prop}{n:MV}(V:VRs I [m,n] vs)(h: ∀v u,VR I m v->VR I n u->P [v,u]):P vs:=by obtain⟨O,O,e,c,d⟩:=V.c2;show e▸h _ _ c d
@[elab_as_elim] theorem VRs.k3{P:List Value->Prop}{n p:MV}(V:VRs I [m,n,p] vs)(h: ∀v u w,VR I m v->VR I n u->VR I p w->P [v,u,w]):P vs:=by obtain⟨O,O,O,e,c,d,f⟩:=V.c3;show e▸h _ _ _ c d f
theorem VRs.length(h:VRs I ms vs):vs.length=ms.length:=by
 induction vs generalizing ms with
 |nil=>cases h;rfl
 |cons v vs ih=>cases h with|cons _ r=>simp[ih r]
theorem VRs.append(h:VRs I ms vs)(k:VRs I ns ws):VRs I (ms++ns)<|vs++ws:=by
 induction vs generalizing ms with
 |nil=>cases h;show k
 |cons v vs ih=>cases h with|cons h r=>show .cons h<|ih r
theorem VRs.one(h:VR I m v):VRs I [m] [v]:=.cons h .nil
theorem VRs.get(h:VRs I ms vs){k:Nat}{m:MV}(hk:ms[k]? =some m): ∃v,vs[k]? =some v/\VR I m v:=by
 induction vs generalizing ms k with
 |nil=>cases h;simp at hk
 |cons v vs ih=>
  cases h with
  |cons h r=>
   cases k with
   |zero=>simp at hk;subst hk;show⟨v,4.,h⟩
   |succ k=>simp at hk;simpa using ih r hk
theorem VRs.getV(h:VRs I ms vs){k:Nat}{v:Value}(hk:vs[k]? =some v): ∃m,ms[k]? =some m/\VR I m v:=by
 induction vs generalizing ms k with
 |nil=>simp at hk
 |cons v vs ih=>
  cases h with
  |cons h r=>
   cases k with
   |zero=>simp at hk;subst hk;show⟨_,4.,h⟩
   |succ k=>simp at hk;simpa using ih r hk
theorem VRs.set(h:VRs I ms vs)(k:Nat)(hm:VR I m v):VRs I (ms.set k m)<|vs.set k v:=by
 induction vs generalizing ms k with
 |nil=>cases h;show .nil
 |cons v vs ih=>
  cases h with
  |cons h r=>cases k with
   |zero=>show .cons hm r
   |succ k=>show .cons h<|ih r k
theorem VRs.take(h:VRs I ms vs)(k:Nat):VRs I (ms.take k)<|vs.take k:=by
 induction vs generalizing ms k with
 |nil=>cases h;simpa using VRs.nil
 |cons v vs ih=>cases h with|cons h r=>cases k with
  |zero=>show .nil
  |succ k=>show .cons h<|ih r k
theorem VRs.drop(h:VRs I ms vs)(k:Nat):VRs I (ms.drop k)<|vs.drop k:=by
 induction vs generalizing ms k with
 |nil=>cases h;simpa using VRs.nil
 |cons v vs ih=>cases h with|cons h r=>cases k with
  |zero=>show .cons h r
  |succ k=>show ih r k
theorem VR.handed(h:VR I m v)(hm: ∀id,m≠.blt id):handedIn v=true:=by
 cases h with
 |blt id=>show absurd 4.<|hm id
 |_=>rfl
end
theorem gh{a b:String}(h:Str.ofString a=Str.ofString b):a=b:=by
 rw[Str.ofString_eq_toList,Str.ofString_eq_toList]at h;have h1:(a.toList.map Char.toNat)=(b.toList.map Char.toNat):=by
  have:=congrArg (λx:Str=>x.cps.toList) h;simpa using this
 have h2:a.toList=b.toList:=by
  have inj: ∀(x y:List Char),x.map Char.toNat=y.map Char.toNat->x=y:=by
   intro x;induction x with
   |nil=>intro y e;cases y with|nil=>rfl|cons _ _=>cases e
   |cons c r ih=>
    intro y e;cases y with
    |nil=>cases e
    |cons d q=>
     simp only[List.map_cons,List.cons.injEq]at e;rw[ih q e.2,Char.toNat_inj.mp e.1]
  show inj _ _ h1
 show String.toList_inj.mp h2
inductive Own where
 |of (n:Nm)|hid (n:Nm)|fr (i:Nat)|raw (i:Nat)
inductive Con where
 |l (x:List MV)|d (x:List<|MV×MV)|n (C:Addr) (x:List<|String×MV)|b (x:Array UInt8)|c (x:Option MV)
structure Kk where
 m:Nm->Option Con
 fr:List<|Addr×List (String×MV)
 raw:List<|Addr×Obj
noncomputable def mhash(P:Params):MV->Int
 | .int i=>hashInt i
 | .str x=>PyData.keyHash P x
 | .tup ms=>reduceHash (Builtin.Tuple.tupleHashOf<|mhashes P ms)
 |_=>0
where
 mhashes (P:Params):List MV->List Int
 |[]=>[]
 |m::r=>mhash P m::mhashes P r
inductive DRs(P:Params)(I:Imm):List (MV×MV)->List DictEntry->Prop
 |nil:DRs P I [] []
 |cons {k m:MV} {kv v:Value} {es:List<|MV×MV} {ds:List DictEntry}:VR I k kv->VR I m v->DRs P I es ds->DRs P I ((k,m)::es) (⟨mhash P k,kv,v⟩::ds)
inductive LR(I:Imm)(h:Heap)(a:Addr)(ms:List MV):Prop
 |mk (vs:Array Value) (n:Nat) (g:h.get? a=some {cls:=.type "list",data:=.seq vs n}) (v:VRs I ms vs.toList):LR I h a ms
inductive DR(P:Params)(I:Imm)(h:Heap)(a:Addr)(es:List<|MV×MV):Prop
 |mk (ds:Array DictEntry) (n:Nat) (g:h.get? a=some {cls:=.type "dict",data:=.dict ds n}) (v:DRs P I es ds.toList):DR P I h a es
noncomputable def lk(x:String):List (String×MV)->Option MV
 |[]=>none
 |(y,m)::r=>if x=y then some m else lk x r
noncomputable def pt(x:String)(v:MV):List (String×MV)->List (String×MV)
 |[]=>[(x,v)]
 |(y,m)::r=>if x=y then(y,v)::r else(y,m)::pt x v r
theorem gi{x y:String}{m:MV}{r:List<|String×MV}:lk x ((y,m)::r)=if x=y then some m else lk x r:=4.
theorem jq{x y:String}{v m:MV}{r:List<|String×MV}:pt x v ((y,m)::r)=if x=y then(y,v)::r else(y,m)::pt x v r:=4.
theorem lkE:(∀x,lk x []=none)/\ ∀x y m r,lk x ((y,m)::r)=if x=y then some m else lk x r:=⟨λO=>4.,λO O O O=>4.⟩
theorem ptE:(∀x v,pt x v []=[(x,v)])/\ ∀x v y m r,pt x v ((y,m)::r)=if x=y then(y,v)::r else(y,m)::pt x v r:=⟨λO O=>4.,λO O O O O=>4.⟩
def SayS(I:Imm)(m:Str->Option Value)(fs:List<|String×MV):Prop:= ∀x mv,lk x fs=some mv-> ∃v,m (Str.ofString x)=some v/\VR I mv v
def NsR(I:Imm)(h:Heap)(a:Addr)(fs:List<|String×MV):Prop:=
 ∃m,h.Ns1 a m/\SayS I m fs/\ ∀y v,m y=some v-> ∃p∈fs,y=Str.ofString p.1
def FRm(I:Imm)(h:Heap)(a:Addr)(fs:List<|String×MV):Prop:= ∃m,h.Ns a m/\SayS I m fs
def BR(h:Heap)(a:Addr)(b:Array UInt8):Prop:=h.get? a=some {cls:=.type "bytearray",data:=.bytearray b 0}
def OVR(I:Imm):Option MV->Option Value->Prop
 |none,none=>True
 |some m,some v=>VR I m v
 |_,_=>False
theorem OVR.mono{I J:Imm}(s:Sub I J){m:Option MV}{v:Option Value}(h:OVR I m v):OVR J m v:=by
 cases m<;>cases v<;>first|show h|show VR.mono s h
def CR(I:Imm)(h:Heap)(a:Addr)(m:Option MV):Prop:= ∃o v,h.get? a=some o/\o.data=.cell v/\OVR I m v
def ConR(P:Params)(I:Imm)(h:Heap)(ow:Addr->Option Own)(n:Nm)(a:Addr):Con->Prop
 | .l x=>LR I h a x
 | .d x=>DR P I h a x
 | .n C x=> ∃dx,ow dx=some (.hid n)/\h.get? a=some (instObj C dx)/\NsR I h dx x
 | .b x=>BR h a x
 | .c x=>CR I h a x
noncomputable def FrsR(I:Imm)(h:Heap)(ow:Addr->Option Own):List (Addr×List (String×MV))->Prop
 |[]=>True
 |(L,ρ)::r=>ow L=some (.fr r.length)/\FRm I h L ρ/\FrsR I h ow r
noncomputable def RawsR(h:Heap)(ow:Addr->Option Own):List (Addr×Obj)->Prop
 |[]=>True
 |(L,o)::r=>ow L=some (.raw r.length)/\h.get? L=some o/\RawsR h ow r
structure Rel'(P:Params)(I:Imm)(st:Kk)(h:Heap)(ow:Addr->Option Own):Prop where
 free: ∀a k,ow a=some k->I.im a=none/\ ∃o,h.get? a=some o
 m: ∀n x,st.m n=some x-> ∃a,I.at n=some a/\ow a=some (.of n)/\ConR P I h ow n a x
 nm: ∀p a,I.nm p=some a-> ∃x,st.m (.inr p)=some x
 fr:FrsR I h ow st.fr
 raw:RawsR h ow st.raw
structure Rel(hb:Heap)(o₀:OsState)(P:Params)(I:Imm)(st:Kk)(s:Shared):Prop where
 base: ∀b o,hb.get? b=some o->I.im b=some o
 keep: ∀b o,I.im b=some o->s.heap.get? b=some o
 gens:s.gens=#[]
 os:s.os=o₀
 own: ∃ow,Rel' P I st s.heap ow
section
variable{hb:Heap}{o₀:OsState}{P:Params}{I J:Imm}{st:Kk}{s:Shared}{h h':Heap}{ow:Addr->Option Own}
theorem LR.keeps{a:Addr}{x:List MV}(r:LR I h a x)(s:Sub I J)(e: ∀o,h.get? a=some o->h'.get? a=some o):LR J h' a x:=
 let⟨vs,n,q,r⟩:=r;⟨vs,n,e _ q,r.mono s⟩
theorem DRs.mono(s:Sub I J){es:List<|MV×MV}{ds:List DictEntry}(r:DRs P I es ds):DRs P J es ds:=by
 induction r with
 |nil=>show .nil
 |cons a b _ ih=>show .cons (a.mono s) (b.mono s) ih
theorem DR.keeps{a:Addr}{x:List<|MV×MV}(r:DR P I h a x)(s:Sub I J)(e: ∀o,h.get? a=some o->h'.get? a=some o):DR P J h' a x:=
 let⟨vs,n,q,r⟩:=r;⟨vs,n,e _ q,r.mono s⟩
theorem BC{a:Addr}{m:Str->Option Value}(hn:h.Ns a m)(e: ∀o,h.get? a=some o->h'.get? a=some o):h'.Ns a m:=
 let⟨o,es,ep,x,r⟩:=hn;⟨o,es,ep,e _ x,r⟩
theorem NsR.keeps{a:Addr}{x:List<|String×MV}(r:NsR I h a x)(s:Sub I J)(e: ∀o,h.get? a=some o->h'.get? a=some o):NsR J h' a x:=
 let⟨m,q,r,z⟩:=r;⟨m,q.at e,λy mv hy=>let⟨v,a,b⟩:=r y mv hy;⟨v,a,b.mono s⟩,z⟩
theorem FRm.keeps{a:Addr}{x:List<|String×MV}(r:FRm I h a x)(s:Sub I J)(e: ∀o,h.get? a=some o->h'.get? a=some o):FRm J h' a x:=
 let⟨m,q,r⟩:=r;⟨m,BC q e,λy mv hy=>let⟨v,a,b⟩:=r y mv hy;⟨v,a,b.mono s⟩⟩
theorem CR.keeps{a:Addr}{x:Option MV}(r:CR I h a x)(s:Sub I J)(e: ∀o,h.get? a=some o->h'.get? a=some o):CR J h' a x:=
 let⟨o,v,q,d,r⟩:=r;⟨o,v,e _ q,d,r.mono s⟩
theorem ConR.keeps{ow':Addr->Option Own}{n:Nm}{a:Addr}{x:Con}(r:ConR P I h ow n a x)(s:Sub I J)(so: ∀b,ow b=some (.hid n)->ow' b=some (.hid n))(ha:ow a=some (.of n))
 (e: ∀b o,(ow b=some (.of n)\/ow b=some (.hid n))->h.get? b=some o->h'.get? b=some o):ConR P J h' ow' n a x:=by
 cases x with
 |l x=>show LR.keeps r s λo=>e a o<|.inl ha
 |d x=>show DR.keeps r s λo=>e a o<|.inl ha
 |n C x=>obtain⟨dx,u,v,w⟩:=r;show⟨dx,so _ u,e a _ (.inl ha) v,w.keeps s λo=>e dx o<|.inr u⟩
 |b x=>show e a _ (.inl ha) r
 |c x=>show CR.keeps r s λo=>e a o<|.inl ha
theorem FrsR.keeps{ow':Addr->Option Own}{l:List<|Addr×List (String×MV)}(r:FrsR I h ow l)(s:Sub I J)(so: ∀b i,ow b=some (.fr i)->ow' b=some (.fr i))
 (e: ∀b i o,i<l.length->ow b=some (.fr i)->h.get? b=some o->h'.get? b=some o):FrsR J h' ow' l:=by
 induction l with
 |nil=>trivial
 |cons p q ih=>
  obtain⟨u,v,w⟩:=r;show⟨so _ _ u,v.keeps s λo=>e _ _ o (Nat.lt_succ_self _) u,ih w λb i o hi=>e b i o<|Nat.lt_succ_of_lt hi⟩
theorem RawsR.keeps{ow':Addr->Option Own}{l:List<|Addr×Obj}(r:RawsR h ow l)(so: ∀b i,i<l.length->ow b=some (.raw i)->ow' b=some (.raw i))
 (e: ∀b i o,i<l.length->ow b=some (.raw i)->h.get? b=some o->h'.get? b=some o):RawsR h' ow' l:=by
 induction l with
 |nil=>trivial
 |cons p q ih=>
  obtain⟨u,v,w⟩:=r;show⟨so _ _ (Nat.lt_succ_self _) u,e _ _ _ (Nat.lt_succ_self _) u v,ih w (λb i hi=>so b i<|Nat.lt_succ_of_lt hi) λb i o hi=>e b i o<|Nat.lt_succ_of_lt hi⟩
theorem Rel'.move{st':Kk}{ow':Addr->Option Own}(R:Rel' P I st h ow)(sub:Sub I J)(so: ∀b k,ow b=some k->ow' b=some k)
 (free: ∀a k,ow' a=some k->J.im a=none/\ ∃o,h'.get? a=some o)
 (m: ∀n x,st'.m n=some x->(st.m n=some x/\ ∀b o,(ow b=some (.of n)\/ow b=some (.hid n))->h.get? b=some o->h'.get? b=some o)\/ ∃a,J.at n=some a/\ow' a=some (.of n)/\ConR P J h' ow' n a x)
 (nm: ∀p a,J.nm p=some a-> ∃x,st'.m (.inr p)=some x)(fr:FrsR J h' ow' st'.fr)(raw:RawsR h' ow' st'.raw):Rel' P J st' h' ow' where
 free:=free
 m:=λn x q=>by
  rcases m n x q with⟨q,e⟩|y
  ·obtain⟨a,u,v,w⟩:=R.m n x q;show⟨a,sub.at u,so _ _ v,w.keeps sub (λb=>so b _) v e⟩
  ·show y
 nm:=nm
 fr:=fr
 raw:=raw
theorem Rel'.still(R:Rel' P I st h ow)(s:Sub I J)(hf: ∀a k,ow a=some k->J.im a=none)(e: ∀a k o,ow a=some k->h.get? a=some o->h'.get? a=some o)(hn:J.nm=I.nm):Rel' P J st h' ow:=
 R.move s (λO O e=>e) (λa k q=>⟨hf a k q,let⟨o,ho⟩:=(R.free a k q).2;⟨o,e a k o q ho⟩⟩) (λn x q=>.inl ⟨q,λb o w=>w.elim (λw=>e b _ o w) λw=>e b _ o w⟩)
  (λp a q=>R.nm p a<|hn▸q) (R.fr.keeps s (λO O e=>e) λb i o O w=>e b _ o w)<|R.raw.keeps (λO O O e=>e) λb i o O w=>e b _ o w
theorem Rel.toks(R:Rel hb o₀ P I st s)(t:Nat):Rel hb o₀ P I st {s with toks:=t}:=⟨R.base,R.keep,R.gens,R.os,R.own⟩
theorem Rel.grown(R:Rel hb o₀ P I st s){t:Nat}(e: ∀b o,s.heap.get? b=some o->h'.get? b=some o):Rel hb o₀ P I st {s with heap:=h',toks:=t}:=
 ⟨R.base,λb o q=>e b o<|R.keep b o q,R.gens,R.os,let⟨ow,R'⟩:=R.own;⟨ow,R'.still (Sub.refl I) (λa k q=>(R'.free a k q).1) (λa O o O ho=>e a o ho) 4.⟩⟩
noncomputable def Imm.put(I:Imm)(a:Addr)(o:Obj):Imm:=⟨λb=>if b=a then some o else I.im b,I.nm⟩
theorem Imm.put_self(I:Imm)(a:Addr)(o:Obj):(I.put a o).im a=some o:=if_pos 4.
theorem Imm.put_sub{I:Imm}{a:Addr}(o:Obj)(h:I.im a=none):Sub I<|I.put a o:=⟨λb x e=>by
 change(if b=a then some o else I.im b)=_;split
 ·rename_i q;subst q;rw[h]at e;cases e
 ·show e,λO O e=>e⟩
theorem Rel.size_none(R:Rel hb o₀ P I st s):I.im s.heap.objs.size=none:=by
 cases e:I.im s.heap.objs.size with
 |none=>rfl
 |some o=>show absurd (Heap.lt_size<|R.keep _ _ e)<|Nat.lt_irrefl _
theorem Rel'.size_none(R:Rel' P I st h ow):ow h.objs.size=none:=by
 cases e:ow h.objs.size with
 |none=>rfl
 |some o=>obtain⟨O,x,hx⟩:=R.free _ _ e;show absurd (Heap.lt_size hx)<|Nat.lt_irrefl _
theorem Rel.push(R:Rel hb o₀ P I st s)(o:Obj)(hf:o.isFreed=false){t:Nat}:Rel hb o₀ P (I.put s.heap.objs.size o) st {s with heap:=s.heap.push o,toks:=t}:=by
 show⟨λb x e=>(Imm.put_sub o R.size_none).im _ _<|R.base b x e,λb x e=>?_,R.gens,R.os,?_⟩
 ·change(if b=_ then some o else I.im b)=_ at e;split at e
  ·rename_i q;subst q;cases e;show Heap.get?_push_size _ hf
  ·show Kg _<|R.keep b x e
 ·obtain⟨ow,R'⟩:=R.own;show⟨ow,R'.still (Imm.put_sub o R.size_none) (λa k q=>?_) (λa O x O ho=>Kg _ ho) 4.⟩;have:a≠s.heap.objs.size:=by rintro rfl;rw[R'.size_none]at q;cases q
  change(if a=_ then _ else _)=_;rw[if_neg this];show(R'.free a k q).1
noncomputable def upd{α β:Type}[DecidableEq α](f:α->Option β)(a:α)(x:β):α->Option β:=λb=>if b=a then some x else f b
theorem ak{α β:Type}[DecidableEq α](f:α->Option β)(a:α)(x:β):upd f a x a=some x:=if_pos 4.
theorem bO{α β:Type}[DecidableEq α](f:α->Option β){a b:α}(x:β)(h:b≠a):upd f a x b=f b:=if_neg h
def Kk.set(st:Kk)(n:Nm)(x:Con):Kk:={st with m:=upd st.m n x}
noncomputable def Kk.push(st:Kk)(L:Addr)(ρ:List<|String×MV):Kk:={st with fr:=(L,ρ)::st.fr}
noncomputable def Kk.pushR(st:Kk)(L:Addr)(o:Obj):Kk:={st with raw:=(L,o)::st.raw}
noncomputable def Kk.loc(st:Kk)(ρ:List<|String×MV):Kk:={st with fr:=match st.fr with|[]=>[]|(L,_)::r=>(L,ρ)::r}
noncomputable def Kk.pop(st:Kk):Kk:={st with fr:=st.fr.tail}
noncomputable def jU(ow:Addr->Option Own)(a:Addr)(k:Own):Addr->Option Own:=λb=>if b=a then some k else ow b
theorem dF(ow:Addr->Option Own)(a:Addr)(k:Own):jU ow a k a=some k:=if_pos 4.
theorem cT{ow:Addr->Option Own}{a:Addr}{k:Own}(h:ow a=none)(b:Addr)(k':Own)(e:ow b=some k'):jU ow a k b=some k':=by
 unfold jU;split
 ·rename_i q;subst q;rw[h]at e;cases e
 ·show e
theorem gj{a:Addr}{k:Own}{o:Obj}(R:Rel' P I st h ow)(hJ:J.im=I.im)(hI:I.im a=none)(ho:h'.get? a=some o)(e: ∀b o,h.get? b=some o->h'.get? b=some o):
 ∀b k',jU ow a k b=some k'->J.im b=none/\ ∃o,h'.get? b=some o:=λb k' q=>by
 unfold jU at q;rw[hJ];split at q
 ·rename_i z;subst z;show⟨hI,o,ho⟩
 ·obtain⟨u,o',v⟩:=R.free b k' q;show⟨u,o',e b o' v⟩
def Fr(st:Kk)(a:Addr)(n:Nm):Prop:=n=.inl a\/ ∃p,n=.inr p/\st.m n=none
def Imm.named(I:Imm)(n:Nm)(a:Addr):Imm:=match n with
 | .inl _=>I
 | .inr p=>⟨I.im,upd I.nm p a⟩
theorem Imm.named_im(I:Imm)(n:Nm)(a:Addr):(I.named n a).im=I.im:=by cases n<;>rfl
theorem Imm.named_at{I:Imm}{n:Nm}{a:Addr}(f:Fr st a n):(I.named n a).at n=some a:=by
 rcases f with rfl|⟨p,rfl,O⟩
 ·rfl
 ·show ak ..
theorem Rel'.named_sub(R:Rel' P I st h ow){n:Nm}{a:Addr}(f:Fr st a n):Sub I<|I.named n a:=by
 rcases f with rfl|⟨p,rfl,f⟩
 ·show Sub.refl I
 ·show⟨λO O e=>e,λq b e=>?_⟩;change upd I.nm p a q=some b;rw[bO _ _ (by rintro rfl;obtain⟨x,hx⟩:=R.nm _ _ e;rw[f]at hx;cases hx)];show e
theorem Rel'.named_nm(R:Rel' P I st h ow){n:Nm}{a:Addr}{x:Con}(f:Fr st a n): ∀p b,(I.named n a).nm p=some b-> ∃y,(st.set n x).m (.inr p)=some y:=λp b e=>by
 change∃y,upd st.m n x (.inr p)=some y;by_cases q:(.inr p:Nm)=n
 ·show⟨x,by rw[q,ak]⟩
 ·rw[bO _ _ q];show R.nm p b ?_;rcases f with rfl|⟨p',rfl,O⟩
  ·show e
  ·show(bO _ _<|λz=>q (by rw[z])).symm.trans e
theorem Rel.new(R:Rel hb o₀ P I st s){o:Obj}{t:Nat}{n:Nm}(f:Fr st s.heap.objs.size n)(e: ∀b o,s.heap.get? b=some o->h'.get? b=some o)(ho:h'.get? s.heap.objs.size=some o){x:Con}
 (hx: ∀ow J,Sub I J->J.im=I.im->ConR P J h' ow n s.heap.objs.size x): ∃J,Sub I J/\J.at n=some s.heap.objs.size/\Rel hb o₀ P J (st.set n x) {s with heap:=h',toks:=t}:=by
 obtain⟨ow,R'⟩:=R.own;have S:=R'.named_sub f;show⟨I.named n s.heap.objs.size,S,Imm.named_at f,λb o q=>S.im _ _<|R.base b o q,λb o q=>e b o<|R.keep b o<|Imm.named_im .. ▸q,R.gens,R.os,jU ow s.heap.objs.size<|.of n,?_⟩;show R'.move S (cT R'.size_none) (gj R' (Imm.named_im ..) R.size_none ho e) (λn' x' q=>?_) (R'.named_nm f) (R'.fr.keeps S (λb i=>cT R'.size_none b _) λb O o O O=>e b o)<|R'.raw.keeps (λb i O=>cT R'.size_none b _) λb O o O O=>e b o;by_cases c:n'=n
 ·subst c;cases(ak st.m n' x).symm.trans q;show .inr ⟨_,Imm.named_at f,dF ..,hx _ _ S<|Imm.named_im ..⟩
 ·show .inl ⟨(bO _ _ c).symm.trans q,λb o O=>e b o⟩
theorem Rel.newL(R:Rel hb o₀ P I st s){x:List MV}{vs:Array Value}{k t:Nat}{n:Nm}(f:Fr st s.heap.objs.size n)(hv:VRs I x vs.toList):
 ∃J,Sub I J/\J.at n=some s.heap.objs.size/\Rel hb o₀ P J (st.set n<|.l x) {s with heap:=s.heap.push {cls:=.type "list",data:=.seq vs k},toks:=t}:=
 R.new f (λb o=>Kg _) (Heap.get?_push_size _ 4.) λow J S O=>⟨vs,k,Heap.get?_push_size _ 4.,hv.mono S⟩
theorem Rel.newD(R:Rel hb o₀ P I st s){x:List<|MV×MV}{vs:Array DictEntry}{k t:Nat}{n:Nm}(f:Fr st s.heap.objs.size n)(hv:DRs P I x vs.toList):
 ∃J,Sub I J/\J.at n=some s.heap.objs.size/\Rel hb o₀ P J (st.set n<|.d x) {s with heap:=s.heap.push {cls:=.type "dict",data:=.dict vs k},toks:=t}:=
 R.new f (λb o=>Kg _) (Heap.get?_push_size _ 4.) λow J S O=>⟨vs,k,Heap.get?_push_size _ 4.,hv.mono S⟩
theorem Rel.newN(R:Rel hb o₀ P I st s){C:Addr}{t:Nat}{n:Nm}(f:Fr st (s.heap.objs.size+1) n):
 ∃J,Sub I J/\J.at n=some (s.heap.objs.size+1)/\Rel hb o₀ P J (st.set n<|.n C []) {s with heap:=(s.heap.push emptyDict).push<|instObj C s.heap.objs.size,toks:=t}:=by
 obtain⟨ow,R'⟩:=R.own;have g:=Heap.get?_push_size s.heap (o:=emptyDict) 4.;have z:(s.heap.push emptyDict).objs.size=s.heap.objs.size+1:=Heap.size_push _ _;have g2:((s.heap.push emptyDict).push<|instObj C s.heap.objs.size).get? (s.heap.objs.size+1)=some (instObj C s.heap.objs.size):=z▸Heap.get?_push_size (s.heap.push emptyDict) (o:=instObj C s.heap.objs.size) 4.;have e: ∀b o,s.heap.get? b=some o->((s.heap.push emptyDict).push<|instObj C s.heap.objs.size).get? b=some o:=λb o q=>Kg _<|Kg _ q;have n1:ow (s.heap.objs.size+1)=none:=by
  cases q:ow (s.heap.objs.size+1)with
  |none=>rfl
  |some o=>obtain⟨O,x,hx⟩:=R'.free _ _ q;show absurd (Heap.lt_size hx)<|Nat.not_lt.mpr<|Nat.le_succ _
 have i1:I.im (s.heap.objs.size+1)=none:=by
  cases q:I.im (s.heap.objs.size+1)with
  |none=>rfl
  |some o=>show absurd (Heap.lt_size<|R.keep _ _ q)<|Nat.not_lt.mpr<|Nat.le_succ _
 have S:=R'.named_sub f;have n2:jU ow s.heap.objs.size (.hid n) (s.heap.objs.size+1)=none:=by
  unfold jU;rw[if_neg<|Nat.succ_ne_self _];show n1
 have so: ∀b k,ow b=some k->jU (jU ow s.heap.objs.size<|.hid n) (s.heap.objs.size+1) (.of n) b=some k:=λb k q=>cT n2 b k<|cT R'.size_none b k q;show⟨I.named n<|s.heap.objs.size+1,S,Imm.named_at f,λb o q=>S.im _ _<|R.base b o q,λb o q=>e b o<|R.keep b o<|Imm.named_im .. ▸q,R.gens,R.os,jU (jU ow s.heap.objs.size<|.hid n) (s.heap.objs.size+1)<|.of n,?_⟩;show R'.move S so (λb k q=>?_) (λn' x' q=>?_) (R'.named_nm f) (R'.fr.keeps S (λb i=>so b _) λb O o O O=>e b o)<|R'.raw.keeps (λb i O=>so b _) λb O o O O=>e b o
 ·rw[Imm.named_im];unfold jU at q;split at q
  ·rename_i z;subst z;show⟨i1,_,g2⟩
  ·split at q
   ·rename_i z;subst z;show⟨R.size_none,_,Kg _ g⟩
   ·obtain⟨u,o,v⟩:=R'.free b k q;show⟨u,o,e b o v⟩
 ·by_cases c:n'=n
  ·subst c;cases(ak st.m n' _).symm.trans q;show .inr ⟨_,Imm.named_at f,dF ..,_,cT n2 _ _<|dF ..,g2,⟨λO=>Option.none,Heap.Ns1.of_empty ⟨emptyDict,_,_,Kg _ g,4.,λe he=>by simp at he,λO=>4.⟩,⟨λx mv q=>?_,λy v q=>?_⟩⟩⟩
   ·cases q
   ·cases q
  ·show .inl ⟨(bO _ _ c).symm.trans q,λb o O=>e b o⟩
theorem Rel'.turn(R:Rel' P I st h ow){b:Addr}{k:Own}{n:Nm}{x:Con}{o:Obj}(hk:ow b=some k)(hn:k=.of n\/k=.hid n)(ho:h'.get? b=some o)(e: ∀c,c≠b->h'.get? c=h.get? c)
 (hx: ∃a,I.at n=some a/\ow a=some (.of n)/\ConR P I h' ow n a x):Rel' P I (st.set n x) h' ow:=by
 have ne: ∀c k',ow c=some k'->k'≠k->c≠b:=λc k' q z=>by rintro rfl;rw[hk]at q;cases q;show z 4.
 show R.move (Sub.refl I) (λO O e=>e) (λa k' q=>?_) (λn' x' q=>?_) (λp a q=>?_) (R.fr.keeps (Sub.refl I) (λO O e=>e) λc i o O w q=>?_)<|R.raw.keeps (λO O O e=>e) λc i o O w q=>?_
 ·obtain⟨u,o',v⟩:=R.free a k' q;by_cases c:a=b
  ·show⟨u,o,c▸ho⟩
  ·show⟨u,o',(e a c).trans v⟩
 ·by_cases c:n'=n
  ·subst c;cases(ak st.m n' _).symm.trans q;show .inr hx
  ·show .inl ⟨(bO _ _ c).symm.trans q,λa o w y=>(e a ?_).trans y⟩;rcases w with w|w
   ·show ne a _ w λz=>?_;rcases hn with hn|hn<;>rw[hn]at z<;>cases z;show c 4.
   ·show ne a _ w λz=>?_;rcases hn with hn|hn<;>rw[hn]at z<;>cases z;show c 4.
 ·change∃y,upd st.m n x (.inr p)=some y;by_cases c:(.inr p:Nm)=n
  ·show⟨x,by rw[c,ak]⟩
  ·rw[bO _ _ c];show R.nm p a q
 ·show(e c<|ne c _ w (by rcases hn with rfl|rfl<;>nofun)).trans q
 ·show(e c<|ne c _ w (by rcases hn with rfl|rfl<;>nofun)).trans q
theorem Rel.keepBut(R:Rel hb o₀ P I st s){a:Addr}{k:Own}(R':Rel' P I st s.heap ow)(hk:ow a=some k)(e: ∀b,b≠a->h'.get? b=s.heap.get? b): ∀b o,I.im b=some o->h'.get? b=some o:=λb o q=>by
 have:b≠a:=by rintro rfl;rw[(R'.free _ _ hk).1]at q;cases q
 show(e b this).trans<|R.keep b o q
theorem Rel.turn(R:Rel hb o₀ P I st s)(R':Rel' P I st s.heap ow){b:Addr}{k:Own}{n:Nm}{x:Con}{o:Obj}{t:Nat}(hk:ow b=some k)(hn:k=.of n\/k=.hid n)(ho:h'.get? b=some o)(e: ∀c,c≠b->h'.get? c=s.heap.get? c)
 (hx: ∃a,I.at n=some a/\ow a=some (.of n)/\ConR P I h' ow n a x):Rel hb o₀ P I (st.set n x) {s with heap:=h',toks:=t}:=
 ⟨R.base,R.keepBut R' hk e,R.gens,R.os,ow,R'.turn hk hn ho e hx⟩
theorem Rel.find(R:Rel hb o₀ P I st s){n:Nm}{x:Con}(hx:st.m n=some x){a:Addr}(ha:I.at n=some a): ∃ow,Rel' P I st s.heap ow/\ow a=some (.of n)/\ConR P I s.heap ow n a x:=by
 obtain⟨ow,R'⟩:=R.own;obtain⟨a',u,v,w⟩:=R'.m n x hx;cases u.symm.trans ha;show⟨ow,R',v,w⟩
theorem Rel.fl(R:Rel hb o₀ P I st s){n:Nm}{a:Addr}{x:List MV}(hd:st.m n=some (.l x))(ha:I.at n=some a):LR I s.heap a x:=by obtain⟨O,O,O,h⟩:=R.find hd ha;show h
theorem Rel.fd(R:Rel hb o₀ P I st s){n:Nm}{a:Addr}{x:List<|MV×MV}(hd:st.m n=some (.d x))(ha:I.at n=some a):DR P I s.heap a x:=by obtain⟨O,O,O,h⟩:=R.find hd ha;show h
theorem Rel.put(R:Rel hb o₀ P I st s){n:Nm}{x y:Con}(hx:st.m n=some x){a:Addr}(ha:I.at n=some a){o:Obj}{t:Nat}(ho:h'.get? a=some o)(e: ∀c,c≠a->h'.get? c=s.heap.get? c)
 (hy: ∀ow,ConR P I h' ow n a y):Rel hb o₀ P I (st.set n y) {s with heap:=h',toks:=t}:=by
 obtain⟨ow,R',v,O⟩:=R.find hx ha;show R.turn R' v (.inl 4.) ho e ⟨a,ha,v,hy ow⟩
theorem Rel.newF(R:Rel hb o₀ P I st s){x:List<|String×MV}{t:Nat}(e: ∀b o,s.heap.get? b=some o->h'.get? b=some o)(hv:FRm I h' s.heap.objs.size x):Rel hb o₀ P I (st.push s.heap.objs.size x) {s with heap:=h',toks:=t}:=by
 obtain⟨ow,R'⟩:=R.own;obtain⟨m,⟨o,O,O,h1,O⟩,O⟩:=id hv;have so:=cT (k:=.fr st.fr.length) R'.size_none;show⟨R.base,λb o q=>e b o<|R.keep b o q,R.gens,R.os,jU ow s.heap.objs.size<|.fr st.fr.length,?_⟩;show R'.move (st':=st.push s.heap.objs.size x) (Sub.refl I) so (gj R' 4. R.size_none h1 e) (λn x q=>.inl ⟨q,λb o O=>e b o⟩) R'.nm ⟨dF ..,hv,R'.fr.keeps (Sub.refl I) (λb i=>so b _) λb O o O O=>e b o⟩<|R'.raw.keeps (λb i O=>so b _) λb O o O O=>e b o
theorem Rel.newR(R:Rel hb o₀ P I st s){o:Obj}{t:Nat}(e: ∀b o,s.heap.get? b=some o->h'.get? b=some o)(ho:h'.get? s.heap.objs.size=some o):Rel hb o₀ P I (st.pushR s.heap.objs.size o) {s with heap:=h',toks:=t}:=by
 obtain⟨ow,R'⟩:=R.own;have so:=cT (k:=.raw st.raw.length) R'.size_none;show⟨R.base,λb o q=>e b o<|R.keep b o q,R.gens,R.os,jU ow s.heap.objs.size<|.raw st.raw.length,?_⟩;show R'.move (st':=st.pushR s.heap.objs.size o) (Sub.refl I) so (gj R' 4. R.size_none ho e) (λn x q=>.inl ⟨q,λb o O=>e b o⟩) R'.nm (R'.fr.keeps (Sub.refl I) (λb i=>so b _) λb O o O O=>e b o) ⟨dF ..,ho,R'.raw.keeps (λb i O=>so b _) λb O o O O=>e b o⟩
theorem Rel.pop(R:Rel hb o₀ P I st s):Rel hb o₀ P I st.pop s:=
 let⟨ow,R'⟩:=R.own
 ⟨R.base,R.keep,R.gens,R.os,ow,R'.free,R'.m,R'.nm,by
  have:=R'.fr;change FrsR I s.heap ow st.fr.tail;cases q:st.fr with
  |nil=>trivial
  |cons p r=>rw[q]at this;show this.2.2,R'.raw⟩
theorem Rel.putF(R:Rel hb o₀ P I st s){L:Addr}{ρ ρ':List<|String×MV}{r:List<|Addr×List (String×MV)}{t:Nat}(hf:st.fr=(L,ρ)::r)(e: ∀b,b≠L->h'.get? b=s.heap.get? b)(hv:FRm I h' L ρ'):
 Rel hb o₀ P I (st.loc ρ') {s with heap:=h',toks:=t}:=by
 obtain⟨ow,R'⟩:=R.own;obtain⟨m,⟨o,O,O,h1,O⟩,O⟩:=id hv;have F:=R'.fr;rw[hf]at F;obtain⟨hL,O,Fr⟩:=F;have ne: ∀c k',ow c=some k'->k'≠.fr r.length->c≠L:=λc k' q z=>by rintro rfl;rw[hL]at q;cases q;show z 4.
 show⟨R.base,R.keepBut R' hL e,R.gens,R.os,ow,?_⟩;show R'.move (st':=st.loc ρ') (Sub.refl I) (λO O e=>e) (λa k q=>?_) (λn x q=>.inl ⟨q,λb o w y=>(e b ?_).trans y⟩) R'.nm ?_<|R'.raw.keeps (λO O O e=>e) λb i o O w y=>(e b (ne b _ w nofun)).trans y
 ·obtain⟨u,o',v⟩:=R'.free a k q;by_cases c:a=L
  ·show⟨u,o,c▸h1⟩
  ·show⟨u,o',(e a c).trans v⟩
 ·rcases w with w|w<;>show ne b _ w nofun
 ·change FrsR I h' ow (match st.fr with|[]=>[]|(L,_)::r=>(L,ρ')::r);rw[hf];show⟨hL,hv,Fr.keeps (Sub.refl I) (λO O e=>e) λb i o hi w y=>(e b (ne b _ w λz=>by cases z;show absurd hi<|Nat.lt_irrefl _)).trans y⟩
theorem Rel.raw{L:Addr}{o:Obj}(R:Rel hb o₀ P I (st.pushR L o) s):s.heap.get? L=some o:=let⟨_,R'⟩:=R.own;R'.raw.2.1
noncomputable def Kk.pushRs(st:Kk)(rs:List<|Addr×Obj):Kk:={st with raw:=rs++st.raw}
def mO(b:Addr)(rs:List<|Addr×Obj):Prop:= ∀p∈rs,b≠p.1
theorem RawsR.turn{ow:Addr->Option Own}{r:List<|Addr×Obj}(hr:RawsR h' ow r): ∀{rs rs':List<|Addr×Obj},RawsR h ow (rs++r)->rs'.map (·.1)=rs.map (·.1)->(∀p∈rs',h'.get? p.1=some p.2)->RawsR h' ow (rs'++r)
 |[],[],_,_,_=>hr
 |[],_::_,_,e,_=>by simp at e
 |_::_,[],_,e,_=>by simp at e
 |p::q,p'::q',F,e,ho=>by
  simp only[List.map_cons,List.cons.injEq]at e;obtain⟨u,v,w⟩:=F;have l:(q'++r).length=(q++r).length:=by
   have:=congrArg List.length e.2;simp only[Ka]at this;simp[this]
  show⟨?_,ho p'<|.head _,RawsR.turn hr w e.2 λp hp=>ho p<|.tail _ hp⟩;change ow p'.1=some (.raw (q'++r).length);rw[e.1,l];show u
theorem RawsR.tails{ow:Addr->Option Own}{r:List<|Addr×Obj}: ∀{rs:List<|Addr×Obj},RawsR h ow (rs++r)->RawsR h ow r
 |[],F=>F
 |_::_,F=>RawsR.tails F.2.2
theorem RawsR.mem{ow:Addr->Option Own}{r:List<|Addr×Obj}: ∀{rs:List<|Addr×Obj},RawsR h ow (rs++r)-> ∀p∈rs,∃i,r.length<=i/\ow p.1=some (.raw i)/\h.get? p.1=some p.2
 |[],_,p,hp=>by cases hp
 |q::rs,F,p,hp=>by
  rcases List.mem_cons.mp hp with rfl|hp
  ·show⟨_,by simp,F.1,F.2.1⟩
  ·show RawsR.mem F.2.2 p hp
theorem Rel.putRs{rs rs':List<|Addr×Obj}{t:Nat}(R:Rel hb o₀ P I (st.pushRs rs) s)(sub:Sub I J)(nm:J.nm=I.nm)(new: ∀b o,J.im b=some o->I.im b=some o\/(s.heap.objs.size<=b/\h'.get? b=some o))
 (e: ∀b o,mO b rs->s.heap.get? b=some o->h'.get? b=some o)(hs:rs'.map (·.1)=rs.map (·.1))(ho: ∀p∈rs',h'.get? p.1=some p.2):Rel hb o₀ P J (st.pushRs rs') {s with heap:=h',toks:=t}:=by
 obtain⟨ow,R'⟩:=R.own;have F:=R'.raw;have M:=RawsR.mem F;have ne: ∀b k,ow b=some k->(∀i,st.raw.length<=i->k≠.raw i)->mO b rs:=λb k q z p hp=>by
  rintro rfl;obtain⟨i,hi,u,O⟩:=M p hp;rw[u]at q;cases q;show z i hi 4.
 have im: ∀b o,I.im b=some o->mO b rs:=λb o q p hp=>by
  rintro rfl;obtain⟨i,hi,u,O⟩:=M p hp;rw[(R'.free _ _ u).1]at q;cases q
 show⟨λb o q=>sub.im _ _<|R.base b o q,λb o q=>?_,R.gens,R.os,ow,?_⟩
 ·rcases new b o q with q|⟨O,q⟩
  ·show e b o (im b o q)<|R.keep b o q
  ·show q
 ·have raw0:RawsR h' ow st.raw:=(RawsR.tails F).keeps (λO O O e=>e) λb i o hi w y=>e b o (ne b _ w λj hj=>by rintro⟨⟩;show absurd hi<|Nat.not_lt.mpr hj) y;show R'.move (st':=st.pushRs rs') sub (λO O e=>e) (λa k q=>?_) (λn x q=>.inl ⟨q,λb o w y=>e b o ?_ y⟩) (λp a q=>R'.nm p a<|nm▸q) (R'.fr.keeps sub (λO O e=>e) λb i o O w y=>e b o (ne b _ w nofun) y)<|raw0.turn F hs ho
  ·obtain⟨u,o',v⟩:=R'.free a k q;show⟨?_,?_⟩
   ·cases z:J.im a with
    |none=>rfl
    |some o=>
     rcases new a o z with z|⟨z,O⟩
     ·rw[u]at z;cases z
     ·show absurd (Heap.lt_size v)<|Nat.not_lt.mpr z
   ·by_cases c:mO a rs
    ·show⟨o',e a o' c v⟩
    ·simp only[mO,Classical.not_forall]at c;obtain⟨p,hp,hap⟩:=c;have hap:=Classical.not_not.mp hap;have:p.1∈rs'.map (·.1):=hs▸List.mem_map.mpr ⟨p,hp,4.⟩;obtain⟨p',hp',e'⟩:=List.mem_map.mp this;show⟨_,by rw[hap,<-e'];show ho p' hp'⟩
  ·rcases w with w|w<;>show ne b _ w nofun
theorem Rel.endRs{rs:List<|Addr×Obj}{t:Nat}(R:Rel hb o₀ P I (st.pushRs rs) s)(e: ∀b o,mO b rs->s.heap.get? b=some o->h'.get? b=some o):Rel hb o₀ P I st {s with heap:=h',toks:=t}:=by
 obtain⟨ow,R'⟩:=R.own;have F:=R'.raw;have M:=RawsR.mem F;have ne: ∀b k,ow b=some k->(∀i,st.raw.length<=i->k≠.raw i)->mO b rs:=λb k q z p hp=>by
  rintro rfl;obtain⟨i,hi,u,O⟩:=M p hp;rw[u]at q;cases q;show z i hi 4.
 have im: ∀b o,I.im b=some o->mO b rs:=λb o q p hp=>by
  rintro rfl;obtain⟨i,hi,u,O⟩:=M p hp;rw[(R'.free _ _ u).1]at q;cases q
 show⟨R.base,λb o q=>e b o (im b o q)<|R.keep b o q,R.gens,R.os,λb=>if(rs.map (·.1)).contains b then none else ow b,?_⟩;have old: ∀b k,mO b rs->ow b=some k->(if(rs.map (·.1)).contains b then none else ow b)=some k:=λb k n q=>by
  rw[if_neg,q];intro c;have:=List.contains_iff_mem.mp c;obtain⟨p,hp,e⟩:=List.mem_map.mp this;show n p hp e.symm
 constructor
 ·intro a k q;have c:mO a rs/\ow a=some k:=by
   split at q
   ·cases q
   ·rename_i c;show⟨λp hp=>?_,q⟩;rintro rfl;show c<|List.contains_iff_mem.mpr<|List.mem_map.mpr ⟨p,hp,4.⟩
  obtain⟨u,o',v⟩:=R'.free a k c.2;show⟨u,o',e a o' c.1 v⟩
 ·intro n x q;obtain⟨a,u,v,w⟩:=R'.m n x q;show⟨a,u,old a _ (ne a _ v nofun) v,w.keeps (Sub.refl I) (λb z=>old b _ (ne b _ z nofun) z) v λb o z y=>e b o ?_ y⟩;rcases z with z|z<;>show ne b _ z nofun
 ·show R'.nm
 ·show R'.fr.keeps (Sub.refl I) (λb i z=>old b _ (ne b _ z nofun) z) λb i o O w y=>e b o (ne b _ w nofun) y
 ·show(RawsR.tails F).keeps (λb i hi z=>old b _ (ne b _ z λj hj=>by rintro⟨⟩;show absurd hi<|Nat.not_lt.mpr hj) z) λb i o hi w y=>e b o (ne b _ w λj hj=>by rintro⟨⟩;show absurd hi<|Nat.not_lt.mpr hj) y
theorem Rel.rawAt{rs:List<|Addr×Obj}(R:Rel hb o₀ P I (st.pushRs rs) s){p:Addr×Obj}(hp:p∈rs):s.heap.get? p.1=some p.2:=
 let⟨_,R'⟩:=R.own;let⟨_,_,_,q⟩:=RawsR.mem R'.raw p hp;q
theorem Rel.newR2{o1 o2:Obj}{t:Nat}(R:Rel hb o₀ P I st s)(e: ∀b o,s.heap.get? b=some o->h'.get? b=some o)(h1:h'.get? s.heap.objs.size=some o1)(h2:h'.get? (s.heap.objs.size+1)=some o2):
 Rel hb o₀ P I (st.pushRs [(s.heap.objs.size+1,o2),(s.heap.objs.size,o1)]) {s with heap:=h',toks:=t}:=by
 obtain⟨ow,R'⟩:=R.own;have n1:ow (s.heap.objs.size+1)=none:=by
  cases q:ow (s.heap.objs.size+1)with
  |none=>rfl
  |some o=>obtain⟨O,x,hx⟩:=R'.free _ _ q;show absurd (Heap.lt_size hx)<|Nat.not_lt.mpr<|Nat.le_succ _
 have i1:I.im (s.heap.objs.size+1)=none:=by
  cases q:I.im (s.heap.objs.size+1)with
  |none=>rfl
  |some o=>show absurd (Heap.lt_size<|R.keep _ _ q)<|Nat.not_lt.mpr<|Nat.le_succ _
 have n2:jU ow s.heap.objs.size (.raw st.raw.length) (s.heap.objs.size+1)=none:=by
  unfold jU;rw[if_neg<|Nat.succ_ne_self _];show n1
 have so: ∀b k,ow b=some k->jU (jU ow s.heap.objs.size<|.raw st.raw.length) (s.heap.objs.size+1) (.raw<|st.raw.length+1) b=some k:=λb k q=>cT n2 b k<|cT R'.size_none b k q;show⟨R.base,λb o q=>e b o<|R.keep b o q,R.gens,R.os,jU (jU ow s.heap.objs.size<|.raw st.raw.length) (s.heap.objs.size+1)<|.raw<|st.raw.length+1,?_⟩;show R'.move (st':=st.pushRs [(s.heap.objs.size+1,o2),(s.heap.objs.size,o1)]) (Sub.refl I) so (λb k q=>?_) (λn x q=>.inl ⟨q,λb o O=>e b o⟩) R'.nm (R'.fr.keeps (Sub.refl I) (λb i=>so b _) λb O o O O=>e b o)
  ⟨dF ..,h2,cT n2 _ _<|dF ..,h1,R'.raw.keeps (λb i O=>so b _) λb O o O O=>e b o⟩
 unfold jU at q;split at q
 ·rename_i z;subst z;show⟨i1,_,h2⟩
 ·split at q
  ·rename_i z;subst z;show⟨R.size_none,_,h1⟩
  ·obtain⟨u,o,v⟩:=R'.free b k q;show⟨u,o,e b o v⟩
noncomputable def Kk.cells(st:Kk)(cs:List<|Addr×Option MV):Kk:=cs.foldl (λst p=>st.set (.inl p.1)<|.c p.2) st
theorem Rel'.cells: ∀(cs:List<|Addr×Option MV) (st:Kk) (ow:Addr->Option Own),Rel' P I st h ow->(∀p∈cs,ow p.1=none/\I.im p.1=none/\CR I h p.1 p.2)->cs.Pairwise (λp q=>p.1≠q.1)-> ∃ow',Rel' P I (st.cells cs) h ow'
 |[],st,ow,R,_,_=>⟨ow,R⟩
 |p::r,st,ow,R,hp,hd=>by
  obtain⟨h1,h2,h3⟩:=hp p (.head _);have so:=cT (k:=.of<|.inl p.1) h1;obtain⟨o,O,ho,O⟩:=id h3;obtain⟨hd1,hd2⟩:=List.pairwise_cons.mp hd;show Rel'.cells r (st.set (.inl p.1)<|.c p.2) (jU ow p.1<|.of<|.inl p.1) ?_ (λq hq=>?_) hd2
  ·show R.move (Sub.refl I) so (gj R 4. h2 ho λO O e=>e) (λn x q=>?_) (λq a e=>?_) (R.fr.keeps (Sub.refl I) (λb i=>so b _) λO O O O O e=>e)<|R.raw.keeps (λb i O=>so b _) λO O O O O e=>e
   ·by_cases c:n=.inl p.1
    ·subst c;cases(ak st.m _ _).symm.trans q;show .inr ⟨p.1,4.,dF ..,h3⟩
    ·show .inl ⟨(bO _ _ c).symm.trans q,λO O O e=>e⟩
   ·obtain⟨x,hx⟩:=R.nm q a e;show⟨x,(bO st.m (a:=.inl p.1) (b:=.inr q) (.c p.2) (λe=>by cases e)).trans hx⟩
  ·obtain⟨a,b,c⟩:=hp q (.tail _ hq);show⟨?_,b,c⟩;unfold jU;rw[if_neg (hd1 q hq).symm];show a
theorem Rel.newFC(R:Rel hb o₀ P I st s){x:List<|String×MV}{t:Nat}{cs:List<|Addr×Option MV}(e: ∀b o,s.heap.get? b=some o->h'.get? b=some o)(hv:FRm I h' s.heap.objs.size x)
 (hc: ∀p∈cs,s.heap.objs.size<p.1/\CR I h' p.1 p.2)(hd:cs.Pairwise λp q=>p.1≠q.1):Rel hb o₀ P I ((st.push s.heap.objs.size x).cells cs) {s with heap:=h',toks:=t}:=by
 obtain⟨ow,R'⟩:=R.own;obtain⟨m,⟨o,O,O,h1,O⟩,O⟩:=id hv;have so:=cT (k:=.fr st.fr.length) R'.size_none;show⟨R.base,λb o q=>e b o<|R.keep b o q,R.gens,R.os,?_⟩;have R'':Rel' P I (st.push s.heap.objs.size x) h'<|jU ow s.heap.objs.size<|.fr st.fr.length:=
  R'.move (st':=st.push s.heap.objs.size x) (Sub.refl I) so (gj R' 4. R.size_none h1 e) (λn x q=>.inl ⟨q,λb o O=>e b o⟩) R'.nm ⟨dF ..,hv,R'.fr.keeps (Sub.refl I) (λb i=>so b _) λb O o O O=>e b o⟩<|R'.raw.keeps (λb i O=>so b _) λb O o O O=>e b o
 show Rel'.cells cs _ _ R'' (λp hp=>?_) hd;obtain⟨lt,hcr⟩:=hc p hp;show⟨?_,?_,hcr⟩
 ·unfold jU;rw[if_neg<|Nat.ne_of_gt lt];cases q:ow p.1 with
  |none=>rfl
  |some k=>obtain⟨O,y,hy⟩:=R'.free _ _ q;show absurd (Nat.lt_trans (Heap.lt_size hy) lt)<|Nat.lt_irrefl _
 ·cases q:I.im p.1 with
  |none=>rfl
  |some k=>show absurd (Nat.lt_trans (Heap.lt_size<|R.keep _ _ q) lt)<|Nat.lt_irrefl _
end
theorem o_0{k b:Nat}:k<=k+b:=Nat.le_add_right k b
theorem o_k{k a b:Nat}(h:Nat.ble a b=true):k+a<=k+b:=Nat.add_le_add_left (J9 h) k
theorem JZ{k b:Nat}(h:Nat.ble 1 b=true):k<k+b:=Nat.lt_add_of_pos_right<|J9 h
theorem o_n{a b:Nat}(h:Nat.ble a b=true):a<=b:=J9 h
theorem x4{x a b:Nat}(h:x<=a)(e:Nat.ble a b=true):x<=b:=Kc h<|J9 e
theorem GB{x a b:Nat}(h:x<=a)(e:Nat.ble (a+1) b=true):x<b:=Nat.lt_of_le_of_lt h<|J9 e
theorem Af{x a b:Nat}(h:x<a)(e:Nat.ble a b=true):x<b:=Nat.lt_of_lt_of_le h<|J9 e
theorem GC{x a b:Nat}(h:x<a)(e:Nat.ble a (b+1)=true):x<=b:=Nat.le_of_lt_succ<|Af h e
theorem o_s{x a c b:Nat}(h:x<=a)(e:Nat.ble (a+c) b=true):x+c<=b:=Kc (Nat.add_le_add_right h c)<|J9 e
theorem Jh{x:Nat}:(0:Int)<=(x:Int):=Int.natCast_nonneg x
theorem Ji{x a b:Nat}(h:x<a)(e:Nat.ble a b=true):(x:Int)<(b:Int):=Int.ofNat_lt.mpr<|Af h e
theorem Ip{x a b:Nat}(h:x<=a)(e:Nat.ble (a+1) b=true):(x:Int)<(b:Int):=Int.ofNat_lt.mpr<|GB h e
theorem GD{x a:Nat}(h:x<a)(e:Nat.ble a 1152921504606846976=true):(x:Int)<2^60:=Ji (b:=1152921504606846976) h e
theorem BD{x a:Nat}(h:x<=a)(e:Nat.ble (a+1) 1152921504606846976=true):(x:Int)<2^60:=Ip (b:=1152921504606846976) h e
theorem J0{x a:Nat}(h:x<=a)(e:Nat.ble (a+1) 16777216=true):(x:Int)<16777216:=Ip (b:=16777216) h e
theorem o_t{x y a b:Nat}(h:x<y)(h':y<=a)(e:Nat.ble a b=true):x<b:=Nat.lt_of_lt_of_le h<|x4 h' e
theorem Jj{x y a:Nat}(h:x<y)(h':y<=a)(e:Nat.ble a 1152921504606846976=true):(x:Int)<2^60:=GD (Nat.lt_of_lt_of_le h h') e
theorem J1{i:Int}:0+i-0=i:=by rw[Int.sub_zero,Int.zero_add]
theorem Jk{i:Nat}:(0+(i:Int)).toNat=i:=by rw[Int.zero_add];rfl
theorem Jl{i:Int}:i-0=i:=Int.sub_zero i
theorem J2{i:Nat}:(i:Int).toNat=i:=4.
theorem Jm{a i:Nat}:a+i-a=i:=Nat.add_sub_cancel_left a i
theorem o_p{i:Nat}:0<i+1:=Nat.succ_pos i
theorem Jn{i n:Nat}(h:i<n):i<n+1:=Nat.lt_succ_of_lt h
theorem J3{i n:Nat}(h:i<=n)(h': ¬i=n):i+1<=n:=Nat.lt_of_le_of_ne h h'
theorem J4{i n:Nat}(h:i<=n)(h': ¬i=n):i<n:=Nat.lt_of_le_of_ne h h'
theorem Jo{a i n:Nat}(h:i<n):a+i<a+n:=Nat.add_lt_add_left h a
theorem hid{G:Prop}(h: ∀X:Prop,(G->X)->X):G:=h G id
theorem gD{α:Type}{l:List α}{i:Nat}{d x:α}(h:l[i]? =some x):l.getD i d=x:=by rw[J7,h];rfl
theorem gDl{α:Type}{l:List α}{i:Nat}{d:α}(h:i<l.length):l.getD i d=l[i]:=gD<|J6 h
theorem GE{α β:Type}{l:List α}{f:α->β}{i:Nat}{d:β}{x:α}(h:l[i]? =some x):(l.map f).getD i d=f x:=gD (by rw[Kh,h];rfl)
theorem gDm{α β:Type}{l:List α}{f:α->β}{i:Nat}{d:β}(h:i<l.length):(l.map f).getD i d=f l[i]:=GE<|J6 h
section
variable{i j k l m n x y a b c d q z A:Nat}
theorem yf(h:1<=l)(h2:l<=n):l-1<n:=Nat.lt_of_lt_of_le (Nat.sub_lt h Nat.one_pos) h2
theorem sK(h:1<=l)(h2:l<=n)(h3:m=n):l-1<m:=h3▸yf h h2
theorem BE:((l:Int)-1).toNat=l-1:=Int.toNat_sub l 1
theorem BF(h:1<=l)(h2:l<=n)(h3:m=n):((l:Int)-1).toNat<m:=Nat.lt_of_le_of_lt (Nat.le_of_eq BE)<|sK h h2 h3
theorem Jp{n:Int}(h:1<=n):(n-1).toNat=n.toNat-1:=by
 obtain⟨m,rfl⟩:=Int.eq_ofNat_of_zero_le (Int.le_trans 1. h);show BE
theorem Jq:((1:Int)+(i:Int)).toNat=i+1:=by rw[Int.add_comm];rfl
theorem GF:((1:Int)+(0+(i:Int))).toNat=1+i:=by rw[Int.zero_add];rfl
theorem GG:((n:Int)+1).toNat-1=n:=4.
theorem GH:((8:Int)*(0+(i:Int))).toNat=8*i:=by rw[Int.zero_add];rfl
theorem GJ:((n:Int)).toNat-1=n-1:=4.
theorem GK:(((A+1:Nat):Int)+(i:Int)).toNat-1=A+i:=congrArg (· -1)<|Nat.add_right_comm A 1 i
theorem GL:(((1+A:Nat):Int)+(i:Int)).toNat-1=A+i:=congrArg (· -1)<|(Nat.add_assoc 1 A i).trans<|Nat.add_comm 1<|A+i
theorem Jr(h:x=y)(h2:y<=c):x<=c:=h▸h2
theorem ic(h:x=y)(h2:i<x):i<y:=h▸h2
theorem Ag(h:x=y)(h2:i<y):i<x:=h▸h2
theorem g3(h:x=y)(h2:y<=a)(e:Nat.ble a b=true):x<=b:=h▸x4 h2 e
theorem BG(h:x=y)(h2:y<=a)(e:Nat.ble (a+1) b=true):x<b:=h▸GB h2 e
theorem yg(h:x<=y)(h2:y<=a)(e:Nat.ble a b=true):x<=b:=Kc h<|x4 h2 e
theorem oH(h:x<y)(h2:y<=a)(e:Nat.ble a b=true):x<=b:=yg (Nat.le_of_lt h) h2 e
theorem GN:i-k<=i:=Nat.sub_le i k
theorem BH:i-k<=i+m:=Kc GN<|Nat.le_add_right i m
theorem yh(h:1<=l):l-1+1=l:=Nat.sub_add_cancel h
theorem Bo(h:a<=b):a+(b-a)=b:=Nat.add_sub_of_le h
theorem BI(h:a<=b):a+(b-a)<=b:=Nat.le_of_eq<|Bo h
theorem Ah(h:q<a+m)(h2:a<=q):q-a<m:=Nat.sub_lt_left_of_lt_add h2 h
theorem Js(h:i<63):i+1-63=i-63:=(Nat.sub_eq_zero_of_le h).trans (Nat.sub_eq_zero_of_le<|Nat.le_of_lt h).symm
theorem GO(h: ¬i<63):i=63+(i-63):=(Bo<|Nat.not_lt.mp h).symm
theorem Ai(h:i<n):n-(i+1)<n-i:=Nat.sub_succ_lt_self _ _ h
theorem wf{x:Int}(h:0<=x)(h2:x<(n:Int)):x.toNat<n:=(Int.toNat_lt h).mpr h2
theorem zz{x:Int}(h:0<=x/\x<4):x.toNat<4:=wf h.1 h.2
theorem BJ{x:Int}(h:0<=x/\x<6):x.toNat<6:=wf h.1 h.2
theorem BK{x:Int}(h:0<=x/\x<3):x.toNat<3:=wf h.1 h.2
theorem wg{v k:Int}:0<=v/k%4/\v/k%4<4:=⟨Int.emod_nonneg _ 1.,Int.emod_lt_of_pos _ 1.⟩
theorem BL{v k:Int}:(v/k%4).toNat<4:=zz wg
theorem Aj(h:0<c): ¬(c:Int)=0:=λe=>Nat.ne_of_gt h<|Int.ofNat.inj e
theorem qJ(h:0<c):(0:Int)<(c:Int):=Int.ofNat_lt.mpr h
theorem zA(h:0<c): ¬c=0:=Nat.ne_of_gt h
theorem BM(h:i<n):(i:Int)<(n:Int):=Int.ofNat_lt.mpr h
theorem wh{i:Int}(h:0<=i)(h2:i.toNat<n):i<(n:Int):=(Int.toNat_lt h).mp h2
theorem gl(h:i<n)(h2:n<=a)(e:Nat.ble a 1152921504606846976=true):0+(i:Int)<2^60:=(Int.zero_add (i:Int)).symm▸GD (Nat.lt_of_lt_of_le h h2) e
theorem g9{i:Int}(h:n<=a)(h2:i<(n:Int))(e:Nat.ble a 1152921504606846976=true):i<2^60:=Int.lt_of_lt_of_le h2 (Int.ofNat_le.mpr (x4 h e):(n:Int)<=((1152921504606846976:Nat):Int))
theorem uY(h:i<=n)(h2: ¬i<n):i=n:=Nat.le_antisymm h<|Nat.not_lt.mp h2
theorem n9(h:i<n+1)(h2: ¬i=n):i<n:=Nat.lt_of_le_of_ne (Nat.le_of_lt_succ h) h2
theorem oa(h:i<n): ¬i=n:=Nat.ne_of_lt h
theorem jV(h:i+1<=n):i<=n:=Nat.le_of_succ_le h
theorem BN(h:i<j)(h2:j<n):i<n:=Nat.lt_trans h h2
theorem zB(h:i<=j)(h2:j<n):i<n:=Nat.lt_of_le_of_lt h h2
theorem uj(h:i<=j)(h2:j<=n):i<=n:=Kc h h2
theorem zC(h:i<m)(h2:a+(m+1)<=n):a+i<n:=Nat.lt_of_lt_of_le (Nat.add_lt_add_left (Nat.lt_succ_of_lt h) a) h2
theorem yi(h:i+d<c):i<c:=Nat.lt_of_le_of_lt (Nat.le_add_right i d) h
theorem zD(h:i+(d+1)<c):i+1+d<c:=Nat.lt_of_le_of_lt (Nat.le_of_eq<|Nat.add_right_comm i 1 d) h
theorem wi(h:i+(d+1)<c):i+d<c:=Nat.lt_of_succ_lt h
theorem GP{a k:Nat}(h:a+60*k+60<=9900):a+60<=9900:=Kc (Nat.add_le_add_right (Nat.le_add_right a<|60*k) 60) h
theorem wj(h:a+60*k+60<=9900):a+8<9900:=Nat.lt_of_lt_of_le (Nat.add_lt_add_left 1. a)<|GP h
theorem uk(h:a+60*(k+1)+60<=9900):a+3+60*k+60<=9900:=Kc (Nat.add_le_add_right (Kc (Nat.le_of_eq<|Nat.add_right_comm a 3<|60*k)<|Nat.add_le_add_left (by decide:3<=60)<|a+60*k) 60) h
theorem og(h:a+5*(k+1)+5<=990):a+1+5*k+5<=990:=Kc (Nat.add_le_add_right (Kc (Nat.le_of_eq<|Nat.add_right_comm a 1<|5*k)<|Nat.add_le_add_left (by decide:1<=5)<|a+5*k) 5) h
theorem ul(h:a+5*(k+1)+5<=990):a<1000:=Nat.lt_of_le_of_lt (Kc (Nat.le_add_right a _)<|Kc (Nat.le_add_right _ 5) h) 1.
theorem GQ{i:Int}(h0:0<=i)(h:i.toNat<x)(h2:x<=a)(e:Nat.ble a 1152921504606846976=true):i<2^63:=Int.lt_trans (g9 (Kj _) (wh h0<|Nat.lt_of_lt_of_le h<|x4 h2 e) 4.) 1.
theorem um(h:z<=a+n)(h2:a<=c)(e:Nat.ble (c+n) b=true):z<=b:=Kc h<|o_s h2 e
theorem wk(h:z<=a+n)(h2:a<=c+i)(e:c+n=b):z<=b+i:=Kc h<|e▸Nat.add_right_comm c i n▸Nat.add_le_add_right h2 n
theorem zE(h2:z<=c+4*i)(e:Nat.ble c b=true):z<=b+4*i:=Kc h2<|Nat.add_le_add_right (J9 e) _
end
theorem Iq{m n:Nat}(h:m=n):((-1:Int)+(m:Int)).toNat=n-1:=by rw[h,Int.add_comm];show Int.toNat_sub n 1
theorem Ir{i t:Nat}(h:i+5≠t+105)(h2: ¬i<100): ¬i-100=t:=λe=>h (by rw[<-Nat.add_sub_of_le<|Nat.not_lt.mp h2,e,Nat.add_comm 100 t])
theorem Jt{t n:Nat}(h:64<=t/\t<64+n):t-64<n:=Nat.sub_lt_left_of_lt_add h.1 h.2
theorem Ju{x j t n:Nat}(h:x=j)(h2: ¬t=64+j)(h3:64<=t/\t<n): ¬x=t-64:=λe=>h2<|(Nat.add_sub_of_le h3.1).symm.trans (by rw[<-e,h])
theorem Iu{a c n m:Nat}(h:a<=n)(h2:n<=m)(h3:c<=m-n):a+c<=m:=Kc (Nat.add_le_add h h3)<|Nat.le_of_eq<|Nat.add_sub_of_le h2
theorem Jv{p q:Prop}{x l:Nat}(h:1<=l)(h2:p/\x≠l)(h3:1<=x/\q): ¬x-1=l-1:=λe=>h2.2<|(Nat.sub_add_cancel h3.1).symm.trans<|e▸Nat.sub_add_cancel h
theorem Iv{a k d e:Nat}(h:d<=50)(h2:a+60*k+60<=9900):a+min d e<9900:=Nat.lt_of_lt_of_le (Nat.add_lt_add_left (Nat.lt_of_le_of_lt (Kc (Nat.min_le_left d e) h) 1.) a)<|GP h2
theorem Jw{L N a b i:Nat}(h:L=N)(h2:b<=N)(h3:i<b-a):((1+a:Nat):Int)+(i:Int)<=(L:Int):=Int.ofNat_le.mpr<|Kc (Kc (Nat.le_of_eq (by rw[Nat.add_assoc,Nat.add_comm 1,Nat.add_comm a]))<|Nat.succ_le_of_lt<|Nat.lt_sub_iff_add_lt.mp h3)<|h▸h2
theorem GR{L N A m b i u:Nat}(h:L=N)(h2:b<=N)(h3:A+m=b)(h4:i<m)(h5:u<=i):A+u<L:=Nat.lt_of_lt_of_le (Nat.add_lt_add_left (Nat.lt_of_le_of_lt h5 h4) A)<|h3▸h▸h2
theorem BO{L n j:Nat}(h:L=n+1)(h2:j<L):j-1<=n:=Kc (Nat.sub_le j 1)<|Nat.le_of_lt_succ<|Nat.lt_of_lt_of_le h2<|Nat.le_of_eq h
theorem GS{n:Nat}(h:4<n):0<min 10 (n-4):=Nat.lt_min.mpr ⟨by decide,Nat.sub_pos_of_lt h⟩
theorem GT{n:Nat}:n<=n-1+1:=Nat.sub_le_iff_le_add.mp<|Kj _
theorem GU{b:Int}(h:0<b): ¬b.natAbs=0:=λe=>Int.ne_of_gt h<|Int.natAbs_eq_zero.mp e
theorem GV{a b:Nat}(h:a<=b):((1+b:Nat):Int)-((1+a:Nat):Int)=((b-a:Nat):Int):=(Int.ofNat_sub<|Nat.add_le_add_left h 1).symm.trans<|congrArg _<|Nat.add_sub_add_left 1 b a
theorem GW{a b c:Nat}(h:a<=1)(h2:b<=1)(h3:c<=1):max a (max b c)<=48:=Nat.max_le.mpr ⟨x4 h 4.,Nat.max_le.mpr ⟨x4 h2 4.,x4 h3 4.⟩⟩
theorem GX{i n:Nat}(h: ¬i=n)(h2: ¬i<n):1<=i-n:=Nat.sub_pos_of_lt<|Nat.lt_of_le_of_ne (Nat.not_lt.mp h2)<|Ne.symm h
theorem GY{m n:Nat}(h0:0<n)(h:m=n):n-1<m:=Nat.lt_of_lt_of_le (Nat.sub_lt h0 Nat.one_pos)<|Nat.le_of_eq h.symm
theorem BP{c r l:Nat}(h:c=r)(h2:r=l+1):c-1=l:=by rw[h,h2];rfl
theorem Iw{c r l i:Nat}(h:c=r)(h2:r=l+1)(h3:i<c-1):i<l:=BP h h2▸h3
theorem BQ{l q:Nat}(h:1<=l)(h2: ¬q+1<=l):l-1<q:=Nat.lt_of_lt_of_le (Nat.sub_lt h Nat.one_pos)<|Nat.le_of_lt_succ<|Nat.not_le.mp h2
theorem wl{l j:Nat}(h2: ¬j=l-1): ¬j+1=l:=λe=>h2<|e▸rfl
theorem GZ{x:Int}{n:Nat}(h:0<=x/\x<(n:Int)):x.toNat<n:=wf h.1 h.2
theorem BS{n i:Nat}(h:n<=3)(h2:i<63+n):((1+i:Nat):Int)<2^60:=BD (a:=66) (Kc (Nat.le_of_eq<|Nat.add_comm 1 i)<|Kc (Nat.succ_le_of_lt h2)<|Nat.add_le_add_left h 63) 4.
theorem G1{n j:Nat}(h:n<=3)(h2:63+j<63+n):((64+j:Nat):Int)<2^60:=BD (a:=67) (Nat.add_le_add_left (Kc (Nat.le_of_lt<|Nat.lt_of_add_lt_add_left h2) h) 64) 4.
theorem G2{i n:Nat}(h:n<=10):min i n<=1000:=x4 (Kc (Nat.min_le_right i n) h) 4.
theorem G3{i:Nat}{p:Prop}(h:0<i/\p):i-1+1=i:=Nat.sub_add_cancel h.1
theorem G4{x:Nat}:((4*x:Nat):Int)/4=(x:Int):=congrArg Int.ofNat<|Nat.mul_div_cancel_left x 1.
theorem G5{a b:Int}{n:Nat}(h:b-a=(n:Int))(ha:0<=a)(hb:b<2^60):(((-9223372036854775808<=a/\a<9223372036854775808)/\ -9223372036854775808<=b/\b<9223372036854775808)/\(n:Int)<9223372036854775808)/\(n=0\/ -9223372036854775808<=b/\b<9223372036854775808):=by
 have hab:a<=b:=Int.le_of_sub_nonneg<|h▸Int.natCast_nonneg n;have hb':b<9223372036854775808:=Int.lt_trans hb 1.;have hb0: -9223372036854775808<=b:=Int.le_trans 1.<|Int.le_trans ha hab;show⟨⟨⟨⟨Int.le_trans 1. ha,Int.lt_of_le_of_lt hab hb'⟩,hb0,hb'⟩,h▸Int.lt_of_le_of_lt (Int.sub_le_self b ha) hb'⟩,.inr ⟨hb0,hb'⟩⟩
theorem G6{a b:Nat}:min (a+1) (b+1)=min a b+1:=Nat.add_min_add_right a b 1
theorem G7{v k:Int}:(((1+v/k%3).toNat:Nat):Int)=1+v/k%3/\0<(1+v/k%3).toNat/\(1+v/k%3).toNat<=3:=by
 have h1:=Int.emod_lt_of_pos (v/k) (show(0:Int)<3 by decide);obtain⟨n,e⟩:=Int.eq_ofNat_of_zero_le (Int.emod_nonneg (v/k) (show(3:Int)≠0 by decide));rw[e]at h1 ⊢;show⟨4.,Nat.lt_of_lt_of_le Nat.one_pos<|Nat.le_add_right 1 n,Nat.add_le_add_left (Nat.le_of_lt_succ<|Int.ofNat_lt.mp h1) 1⟩
theorem G8{a c d:Nat}(h:a+c<=d):a+1+c<=d+1:=Kc (Nat.le_of_eq<|Nat.add_right_comm a 1 c)<|Nat.succ_le_succ h
theorem G9{b n:Nat}(h:b<=n):min (b:Int) (n:Int)=b:=Int.min_eq_left<|Int.ofNat_le.mpr h
theorem Ha{b x S:Nat}(h:x<=S):min b x<=S:=Kc (Nat.min_le_right b x) h
theorem BU{x a i n:Nat}(h:x<=300)(h1:a<=i)(h2:i<n)(h3:n<=100):x+a<=1000:=Kc (Nat.add_le_add h<|Kc h1<|Nat.le_of_lt<|Nat.lt_of_lt_of_le h2 h3) 1.
theorem Hb{l n i s f:Nat}(h:l<=n+i)(h1:n<=s)(h2:s<=500)(h3:i<f)(h4:f<=100):l<=1000:=Kc h<|Kc (Nat.add_le_add (Kc h1 h2)<|Nat.le_of_lt<|Nat.lt_of_lt_of_le h3 h4) 1.
theorem BV{z i m N b A:Nat}(h:z<=i)(h2:i<m)(h3:A+m=b)(h4:b<=N)(h5:N<=100):z<=1000:=Kc h<|Kc (Nat.le_of_lt h2)<|Kc (Nat.le_add_left m A)<|Kc (h3▸h4)<|Kc h5 1.
theorem Hc{L N A m b i:Nat}(h:L=N)(h2:b<=N)(h3:A+m=b)(h4:i<m):((A+1:Nat):Int)+(i:Int)<=(L:Int):=Int.ofNat_le.mpr<|Kc (Nat.le_of_eq<|Nat.add_right_comm A 1 i)<|GR h h2 h3 h4<|Kj i
theorem Hd{u k j:Nat}(h0:j<=k)(h:u+60*k+60<=9900):u+60*j+60<=9900:=Kc (Nat.add_le_add_right (Nat.add_le_add_left (Nat.mul_le_mul_left 60 h0) u) 60) h
theorem He{u k j:Nat}(h0:j<=k)(h:u+5*k+5<=990):u+5*j+5<=990:=Kc (Nat.add_le_add_right (Nat.add_le_add_left (Nat.mul_le_mul_left 5 h0) u) 5) h
theorem Ak{n:Nat}:(n:Int).toNat=n:=4.
theorem Ix{L N a b i:Nat}(h:L=N)(h2:b<=N)(h3:i<b-a):a+i<L:=Nat.lt_of_lt_of_le (Nat.lt_of_le_of_lt (Nat.le_of_eq<|Nat.add_comm a i)<|Nat.lt_sub_iff_add_lt.mp h3)<|h▸h2
theorem Jx{l q:Nat}(h2:q+1≠l)(h3:q+1<=l):q<l-1:=Nat.lt_sub_of_add_lt<|Nat.lt_of_le_of_ne h3 h2
theorem Iy{a k:Nat}(h:a+60*(k+1)+60<=9900):a+1+60*k+60<=9900:=Kc (Nat.add_le_add_right (Kc (Nat.le_of_eq<|Nat.add_right_comm a 1<|60*k)<|Nat.add_le_add_left (by decide:1<=60)<|a+60*k) 60) h
theorem Jy{L N A m b i:Nat}(h:L=N)(h2:b<=N)(h3:A+m=b)(h4:i<m):A+i<L:=GR h h2 h3 h4<|Kj i
theorem Jz{A i:Nat}:(1:Int)<=((A+1:Nat):Int)+(i:Int):=Int.ofNat_le.mpr<|Kc (Nat.le_add_left 1 A)<|Nat.le_add_right (A+1) i
theorem JA{q i n:Nat}(h:q<min i n):q<n:=Nat.lt_of_lt_of_le h<|Nat.min_le_right i n
theorem JB{a m b c u:Nat}(h:u<m)(h1:a+(m+1)<=b)(h2:b<=c):a+u<c:=zC h<|Kc h1 h2
theorem Hf{v c i n:Nat}(h:v=c)(h1:c<=i)(h2:i<n)(h3:n<=1000):v<=16777216:=h▸Kc h1 (Kc (Nat.le_of_lt h2)<|Kc h3 1.)
theorem Hg{x a i n:Nat}(h:x<=100)(h1:a<=i)(h2:i<n)(h3:n<=100):x+a<=1000:=BU (Kc h 1.) h1 h2 h3
theorem JC{n:Nat}{x:Int}(h:n<=10)(h2:0<=x/\x<(n:Int)):x<2^60:=g9 h h2.2 4.
theorem Hh{T n:Nat}(h:T=64+n):(T:Int)-1=((63+n:Nat):Int):=by rw[h,show 64+n=(63+n)+1 from Nat.add_right_comm 63 1 n];show Int.add_sub_cancel ((63+n:Nat):Int) 1
theorem Hi{c r i:Nat}(h:c=r)(h1:i<c+1)(h2: ¬i=r):i<r:=n9 (h▸h1) h2
theorem yj{L n:Nat}(h:L=n+1)(h2:n<=3):L<=900:=Kc (Nat.le_of_eq h)<|Kc (Nat.succ_le_succ h2) 1.
theorem BX{N a:Nat}(h:N<=100)(h2:a<=N):((1+a:Nat):Int)<2^60:=BD (a:=101) (Kc (Nat.le_of_eq<|Nat.add_comm 1 a)<|Nat.succ_le_succ<|Kc h2 h) 4.
theorem Hj{d:Nat}(h:d<=1):max 1 d<=1:=Nat.max_le.mpr ⟨Kj 1,h⟩
theorem Hk{i:Int}(h:0<=i)(h2:i<2^60): -9223372036854775808<=i/\i<9223372036854775808:=⟨Int.le_trans 1. h,Int.lt_trans h2 1.⟩
theorem Hl{a b c:Nat}(h:b<=a+1)(h2:c<=b+1):c<=a+2:=Kc h2<|Nat.succ_le_succ h
theorem Hm{c j n:Nat}(h:c+j<c+n):j<n:=Nat.lt_of_add_lt_add_left h
theorem Hn{i n:Nat}(h:i<n)(h2:n<=3):((64+i:Nat):Int)<2^60:=BD (a:=67) (Nat.add_le_add_left (Kc (Nat.le_of_lt h) h2) 64) 4.
theorem Ho{a k:Nat}(h:a+60*k+60<=9900):a<9900:=Nat.lt_of_le_of_lt (Nat.le_add_right a 8)<|wj h
theorem BY{a k:Nat}(h:a+60*k+60<=9900):a+0<9900:=Ho h
theorem BZ{a k:Nat}(h:a+60*k+60<=9900):a+1+8<9900:=Nat.lt_of_lt_of_le (Nat.add_lt_add_left (by decide:9<60) a)<|GP h
theorem Hq{b:Int}(h:0<b)(h2:b<2^60):b.natAbs<2^60:=Int.ofNat_lt.mp (show((b.natAbs:Nat):Int)<((2^60:Nat):Int)from(Int.natAbs_of_nonneg<|Int.le_of_lt h).symm▸h2)
theorem JD{x:Nat}(h:x<60): ¬300<x/30+1:=Nat.not_lt.mpr<|Kc (Nat.succ_le_of_lt<|Nat.div_lt_of_lt_mul (show x<30*2 from h)) 1.
theorem Hr{k:Nat}:((0:Int)+(k:Int)*1).toNat=0+k:=by rw[Int.mul_one,Int.zero_add,Nat.zero_add];rfl
theorem Hs{n:Nat}:4*n%2^2=0:=Nat.mul_mod_right 4 n
local macro_rules | `(tactic| omega) => `(tactic| first | (with_reducible first | assumption | exact o_0 | exact Jh | exact Kj _ | exact Jk | exact Jl | exact Jm | exact Jn ‹_› | exact Jo ‹_› | exact Nat.succ_le_of_lt ‹_› | exact Nat.lt_of_succ_le ‹_› | exact Nat.le_of_lt ‹_›) | exists o_k | exists o_n | exists x4 ‹_› | exists GB ‹_› | exists Af ‹_› | exists GC ‹_› | exists o_s ‹_› | exists GD ‹_› | exists BD ‹_› | exists o_t ‹_› ‹_› | exists Jj ‹_› ‹_› | lia)
set_option genInjectivity false in
structure Wd where
 prog:Program
 w:World
 hb:Heap
 o:OsState
 K:Frag
 mg:Str->Option Value
 mb:Str->Option Value
 inK:K.In hb
 hg:hb.Ns mainGlobals mg
 hbn:hb.Ns builtinsNs mb
 lim:hb.NoLimit
 low: ∃o,hb.get? sysModules=some o
def Room(k:Nat)(A:Around):Prop:=A.handled=none/\A.depth+5*k+5<=990/\A.units+60*k+60<=9900
theorem Room.le{k j:Nat}{A:Around}(h:Room k A)(e:j<=k):Room j A:=by
 obtain⟨a,b,c⟩:=h;show⟨a,by show He ‹_› ‹_›,by show Hd ‹_› ‹_›⟩
abbrev Ko(D:Wd)(I:Imm)(st:Kk)(s:Shared):Prop:=Rel D.hb D.o D.w.params I st s
inductive Post(D:Wd){α β:Type}(T:Imm->β->α->Prop)(I:Imm)(Q:β->Kk->Prop)(v:α)(s':Shared):Prop
 |mk (I':Imm) (m:β) (st':Kk) (e:Sub I I') (R:Ko D I' st' s') (t:T I' m v) (q:Q m st'):Post D T I Q v s'
def WP(D:Wd){α β:Type}(T:Imm->β->α->Prop)(k:Nat)(st:Kk)(t:Sem α)(Q:β->Kk->Prop):Prop:=
 ∀(A:Around) (I:Imm) (s:Shared),Room k A->Ko D I st s->wpAny (model D.prog D.w) A t (Post D T I Q) (λO O=>False) s
def TB(_:Imm)(b v:Bool):Prop:=b=v
def TU(_:Imm)(_:Unit)(_:Unit):Prop:=True
inductive MF where|next|brk|cont|ret (m:MV)
inductive TF(I:Imm):MF->Flow->Prop
 |next:TF I .next .next
 |brk:TF I .brk .brk
 |cont:TF I .cont .cont
 |ret {m:MV} {v:Value}:VR I m v->TF I (.ret m) (.ret v)
abbrev WV(D:Wd)(k:Nat)(st:Kk)(t:Sem Value)(Q:MV->Kk->Prop):Prop:=WP D VR k st t Q
abbrev WB(D:Wd)(k:Nat)(st:Kk)(t:Sem Bool)(Q:Bool->Kk->Prop):Prop:=WP D TB k st t Q
abbrev WF(D:Wd)(k:Nat)(st:Kk)(t:Sem Flow)(Q:MF->Kk->Prop):Prop:=WP D TF k st t Q
abbrev WL(D:Wd)(k:Nat)(st:Kk)(t:Sem<|List Value)(Q:List MV->Kk->Prop):Prop:=WP D VRs k st t Q
def OP(D:Wd){α β:Type}(T:Imm->β->α->Prop)(k:Nat)(st:Kk)(ms:List MV)(f:List Value->Sem α)(Q:β->Kk->Prop):Prop:=
 ∀(A:Around) (I:Imm) (s:Shared) (vs:List Value),Room k A->Ko D I st s->VRs I ms vs->wpAny (model D.prog D.w) A (f vs) (Post D T I Q) (λO O=>False) s
def LAt(D:Wd)(st:Kk)(n:Nm)(xs:List MV):Prop:= ∀(I:Imm) (s:Shared) (a:Addr),Ko D I st s->I.at n=some a-> ∃us,s.heap.IsList a us/\VRs I xs us.toList
theorem LAt.of{D:Wd}{st:Kk}{n:Nm}{xs:List MV}(hd:st.m n=some (.l xs)):LAt D st n xs:=λI s a R ha=>let⟨_,_,_,us,c,hg,V⟩:=R.find hd ha;⟨us,⟨_,hg,4.,c,4.⟩,V⟩
theorem LAt.im{D:Wd}{st:Kk}{a:Addr}{xs:List MV}{us:Array Value}(hg:D.hb.IsList a us)(V: ∀I,VRs I xs us.toList):LAt D st (.inl a) xs:=λI s b R hb=>by
 cases hb;obtain⟨o,h1,h2⟩:=hg;show⟨us,⟨o,R.keep _ _<|R.base _ _ h1,h2⟩,V I⟩
section
variable{D:Wd}{α β:Type}{T:Imm->β->α->Prop}{k:Nat}{st:Kk}{I J:Imm}{env:Env}
theorem Post.sub{Q:β->Kk->Prop}{v:α}{s:Shared}(x:Sub I J)(p:Post D T J Q v s):Post D T I Q v s:=by
 obtain⟨I',m,st',a,b,c,d⟩:=p;show⟨I',m,st',x.trans a,b,c,d⟩
theorem Post.mono{Q Q':β->Kk->Prop}{v:α}{s:Shared}(p:Post D T I Q v s)(h: ∀m st,Q m st->Q' m st):Post D T I Q' v s:=by
 obtain⟨I',m,st',a,b,c,d⟩:=p;show⟨I',m,st',a,b,c,h _ _ d⟩
theorem pon{t:Sem α}{Q:β->Kk->Prop}{A:Around}{s:Shared}{Qx:α->Shared->Prop}{E:Value->Shared->Prop}(h:wpAny (model D.prog D.w) A t (Post D T I Q) (λO O=>False) s)
 (k: ∀v s1 I1 m st1,Sub I I1->Ko D I1 st1 s1->T I1 m v->Q m st1->Qx v s1):wpAny (model D.prog D.w) A t Qx E s:=
 wpAny_mono h (λO O ⟨_,_,_,a,b,c,d⟩=>k _ _ _ _ _ a b c d) λO O x=>x.elim
theorem jW{t:Sem α}{Q:β->Kk->Prop}{A:Around}{s:Shared}{E:Value->Shared->Prop}(e:Sub I J)(h:wpAny (model D.prog D.w) A t (Post D T J Q) E s):wpAny (model D.prog D.w) A t (Post D T I Q) E s:=
 wpAny_mono h (λO O x=>x.sub e) λO O x=>x
theorem WP.mono{t:Sem α}{Q Q':β->Kk->Prop}(p:WP D T k st t Q)(h: ∀m st,Q m st->Q' m st):WP D T k st t Q':=
 λA I s hA R=>wpAny_mono (p A I s hA R) (λO O x=>x.mono h) λO O x=>x
theorem OP.mono{f:List Value->Sem α}{ms:List MV}{Q Q':β->Kk->Prop}(p:OP D T k st ms f Q)(h: ∀m st,Q m st->Q' m st):OP D T k st ms f Q':=
 λA I s vs hA R V=>wpAny_mono (p A I s vs hA R V) (λO O x=>x.mono h) λO O x=>x
theorem aE{Q:β->Kk->Prop}{m:β}{v:α}{s:Shared}(R:Ko D I st s)(t:T I m v)(q:Q m st):Post D T I Q v s:=⟨I,m,st,Sub.refl I,R,t,q⟩
def Alloc(st:Kk)(q:Nm->Prop):Prop:=(∃p,st.m (.inr p)=none/\q (.inr p))\/ ∀a,st.m (.inl a)=none->q (.inl a)
theorem Rel'.inl_none{P:Params}{h:Heap}{ow:Addr->Option Own}(R:Rel' P I st h ow){a:Addr}(e:ow a=none):st.m (.inl a)=none:=by
 cases q:st.m (.inl a)with
 |none=>rfl
 |some x=>obtain⟨b,u,v,O⟩:=R.m _ _ q;cases u;rw[e]at v;cases v
theorem Alloc.take{hb:Heap}{o₀:OsState}{P:Params}{s:Shared}{q:Nm->Prop}(h:Alloc st q)(R:Rel hb o₀ P I st s): ∃n,Fr st s.heap.objs.size n/\q n:=by
 obtain⟨ow,R'⟩:=R.own;rcases h with⟨p,u,v⟩|h
 ·show⟨.inr p,.inr ⟨p,4.,u⟩,v⟩
 ·show⟨_,.inl 4.,h _<|R'.inl_none R'.size_none⟩
theorem Alloc.take1{hb:Heap}{o₀:OsState}{P:Params}{s:Shared}{q:Nm->Prop}(h:Alloc st q)(R:Rel hb o₀ P I st s): ∃n,Fr st (s.heap.objs.size+1) n/\q n:=by
 obtain⟨ow,R'⟩:=R.own;rcases h with⟨p,u,v⟩|h
 ·show⟨.inr p,.inr ⟨p,4.,u⟩,v⟩
 ·show⟨_,.inl 4.,h _<|R'.inl_none ?_⟩;cases q:ow (s.heap.objs.size+1)with
  |none=>rfl
  |some o=>obtain⟨O,x,hx⟩:=R'.free _ _ q;show absurd (Heap.lt_size hx)<|Nat.not_lt.mpr<|Nat.le_succ _
theorem aA{i:Int}{kd pos}{Q:MV->Kk->Prop}(h:Q (.int i) st):WV D k st (eval (.Constant (.int i) kd pos) env) Q:=
 λA I s hA R=>wpAny_Constant_int<|aE (R.toks _) (.int i _) h
theorem du{x:Str}{kd pos}{Q:MV->Kk->Prop}(h:Q (.str x) st):WV D k st (eval (.Constant (.str x) kd pos) env) Q:=
 λA I s hA R=>wpAny_Constant_str<|aE (R.toks _) (.str x _) h
theorem dR{kd pos}{Q:MV->Kk->Prop}(h:Q .none st):WV D k st (eval (.Constant .none kd pos) env) Q:=
 λA I s hA R=>wpAny_Constant_none<|aE R .none h
theorem wm{b:List UInt8}{kd pos}{Q:MV->Kk->Prop}(h:Q (.bytes b.toArray) st):WV D k st (eval (.Constant (.bytes b) kd pos) env) Q:=
 λA I s hA R=>λO O O=>(aE (R.toks<|s.toks+1) (VR.bytes b.toArray s.toks) h:Post D VR I Q _ _)
theorem Ko.hk{I:Imm}{st:Kk}{s:Shared}(R:Ko D I st s): ∀b o,D.hb.get? b=some o->s.heap.get? b=some o:=λb o e=>R.keep b o<|R.base b o e
theorem Ko.inK{I:Imm}{st:Kk}{s:Shared}(R:Ko D I st s):D.K.In s.heap:=D.inK.keeps<|Ko.hk R
abbrev uZ(D:Wd)(k:Nat)(op:Operator)(Q:MV->Kk->Prop)(a:MV)(b:MV)(st2:Kk):Prop:=OP D VR k st2 [a,b] (λvs=>binaryOp op (vs.getD 0 .none)<|vs.getD 1 .none) Q
abbrev u0(D:Wd)(k:Nat)(env:Env)(op:Operator)(r:Expr)(Q:MV->Kk->Prop)(a:MV)(st1:Kk):Prop:=WV D k st1 (eval r env)<|uZ D k op Q a
theorem aC{l op r pos}{Q:MV->Kk->Prop}(h:WV D k st (eval l env)<|u0 D k env op r Q):
 WV D k st (eval (.BinOp l op r pos) env) Q:=λA I s hA R=>by
 show wpAny_BinOp<|pon (h A I s hA R) λv s1 I1 a st1 e1 R1 V1 h1=>?_;show pon (h1 A I1 s1 hA R1) λu s2 I2 b st2 e2 R2 V2 h2=>?_;show jW e1<|jW e2<|h2 A I2 s2 [v,u] hA R2<|.cons (V1.mono e2)<|.cons V2 .nil
abbrev qK(D:Wd)(k:Nat)(op:CmpOp)(Q:MV->Kk->Prop)(a:MV)(b:MV)(st2:Kk):Prop:=OP D VR k st2 [a,b] (λvs=>compareOp op (vs.getD 0 .none)<|vs.getD 1 .none) Q
abbrev qL(D:Wd)(k:Nat)(env:Env)(op:CmpOp)(r:Expr)(Q:MV->Kk->Prop)(a:MV)(st1:Kk):Prop:=WV D k st1 (eval r env)<|qK D k op Q a
theorem b6{l op r pos}{Q:MV->Kk->Prop}(h:WV D k st (eval l env)<|qL D k env op r Q)
 (hm:behindInMarks op r=false:=by rfl):WV D k st (eval (.Compare l [op] [r] pos) env) Q:=λA I s hA R=>by
 show wpAny_Compare1 (pon (h A I s hA R) λv s1 I1 a st1 e1 R1 V1 h1=>?_) hm;show pon (h1 A I1 s1 hA R1) λu s2 I2 b st2 e2 R2 V2 h2=>?_;show jW e1<|jW e2<|h2 A I2 s2 [v,u] hA R2<|.cons (V1.mono e2)<|.cons V2 .nil
abbrev qM(D:Wd)(k:Nat)(op:UnaryOp)(Q:MV->Kk->Prop)(a:MV)(st1:Kk):Prop:=OP D VR k st1 [a] (λvs=>unaryOp op<|vs.getD 0 .none) Q
theorem bT{op x pos}{Q:MV->Kk->Prop}(h:WV D k st (eval x env)<|qM D k op Q):
 WV D k st (eval (.UnaryOp op x pos) env) Q:=λA I s hA R=>by
 show wpAny_UnaryOp<|pon (h A I s hA R) λv s1 I1 a st1 e1 R1 V1 h1=>?_;show jW e1<|h1 A I1 s1 [v] hA R1<|.cons V1 .nil
abbrev u1(D:Wd)(k:Nat)(env:Env)(body:Expr)(orelse:Expr)(Q:MV->Kk->Prop)(b:Bool)(st1:Kk):Prop:=if b then WV D k st1 (eval body env) Q else WV D k st1 (eval orelse env) Q
theorem jr{test body orelse pos}{Q:MV->Kk->Prop}(h:WB D k st (isTrue test env<|eval test env)<|u1 D k env body orelse Q):
 WV D k st (eval (.IfExp test body orelse pos) env) Q:=λA I s hA R=>by
 show wpAny_IfExp<|pon (h A I s hA R) λv s1 I1 a st1 e1 R1 V1 h1=>?_;obtain rfl:a=v:=V1;cases a
 ·show jW e1<|h1 A I1 s1 hA R1
 ·show jW e1<|h1 A I1 s1 hA R1
theorem ab{pos:Pos}{Q:List MV->Kk->Prop}(h:Q [] st):WL D k st (spliced<|backTo pos<|starEach [] env) Q:=
 λA I s hA R=>wpAny_items_nil<|aE R .nil h
abbrev cr(Q:List MV->Kk->Prop)(m:MV)(ms:List MV)(st2:Kk):Prop:=Q (m::ms) st2
abbrev lw(D:Wd)(k:Nat)(env:Env)(pos:Pos)(rest:List Expr)(Q:List MV->Kk->Prop)(m:MV)(st1:Kk):Prop:=WL D k st1 (spliced<|backTo pos<|starEach rest env)<|cr Q m
theorem aa{pos:Pos}{e:Expr}{rest:List Expr}{Q:List MV->Kk->Prop}(h:WV D k st (eval e env)<|lw D k env pos rest Q)
 (he:starEach (e::rest) env=(false,eval e env)::starEach rest env:=by rfl):WL D k st (spliced<|backTo pos<|starEach (e::rest) env) Q:=λA I s hA R=>by
 show wpAny_items_cons (pon (h A I s hA R) λv s1 I1 a st1 e1 R1 V1 h1=>?_) he;show pon (h1 A I1 s1 hA R1) λu s2 I2 b st2 e2 R2 V2 h2=>?_;show⟨I2,_,st2,e1.trans e2,R2,.cons (V1.mono e2) V2,h2⟩
abbrev u2(Q:MV->Kk->Prop)(ms:List MV)(st1:Kk):Prop:=ms.length<=1000/\Q (.tup ms) st1
theorem aI{elts n pos}{Q:MV->Kk->Prop}(h:WL D k st (spliced<|backTo pos<|starEach elts env)<|u2 Q):WV D k st (eval (.Tuple elts n pos) env) Q:=λA I s hA R=>by
 show wpAny_Tuple<|pon (h A I s hA R) λvs s1 I1 ms st1 e1 R1 V1 z=>?_;obtain⟨h1,h2⟩:=z;show⟨by have:=V1.length;rw[sizeLine_eq];show g3 ‹_› ‹_› 4.,?_⟩;show⟨_,.tup ms,st1,e1.trans<|Imm.put_sub _ R1.size_none,R1.push {cls:=.type "tuple",data:=.seq vs.toArray} 4.,.tup (Imm.put_self ..)<|V1.mono<|Imm.put_sub _ R1.size_none,h2⟩
abbrev wn(Q:MV->Kk->Prop)(ms:List MV)(st1:Kk):Prop:=ms.length<=1000/\Alloc st1 λn=>Q (.ref n)<|st1.set n<|.l ms
theorem dS{elts pos}{Q:MV->Kk->Prop}(h:WL D k st (spliced<|backTo pos<|starEach elts env)<|wn Q):WV D k st (eval (.List elts pos) env) Q:=λA I s hA R=>by
 show wpAny_List<|pon (h A I s hA R) λvs s1 I1 ms st1 e1 R1 V1 z=>?_;obtain⟨h1,h2⟩:=z;show⟨by have:=V1.length;rw[sizeLine_eq];show g3 ‹_› ‹_› 4.,?_⟩;obtain⟨n,f,q⟩:=h2.take R1;obtain⟨J,S,hn,R2⟩:=R1.newL (vs:=vs.toArray) (t:=s1.toks) f (by simpa using V1);show⟨J,.ref n,_,e1.trans S,R2,.ref hn,q⟩
theorem oI{x:String}{pos}{ρ:List<|String×MV}{r:List<|Addr×List (String×MV)}{m:MV}{Q:MV->Kk->Prop}(hf:st.fr=(env.locals,ρ)::r)(hx:lk x ρ=some m)(h:Q m st)
 (hl:env.kindOf (Str.ofString x)=some .local:=by kernel_rfl)(hk:env.scope.kind=.function:=by rfl)(hd:(Str.ofString x==("__debug__":Str))=false:=by kernel_rfl):
 WV D k st (eval (.Name (Str.ofString x) pos) env) Q:=λA I s hA R=>by
 obtain⟨ow,R'⟩:=R.own;have F:=R'.fr;rw[hf]at F;obtain⟨O,⟨mm,hn,hs⟩,O⟩:=F;obtain⟨v,hv,V⟩:=hs x m hx;show wpAny_Name (wpAny_loadName_local hk hl hn hv<|aE R V h) hd
theorem SayS.put{I:Imm}{mm:Str->Option Value}{ρ:List<|String×MV}{x:String}{m:MV}{v:Value}(h:SayS I mm ρ)(V:VR I m v):SayS I (λy=>if y=Str.ofString x then some v else mm y)<|pt x m ρ:=by
 intro y my hy;dsimp only;by_cases e:y=x
 ·subst e;rw[if_pos 4.];have:lk y (pt y m ρ)=some m:=by
   clear hy h;induction ρ with
   |nil=>simp[ptE,lkE]
   |cons p r ih=>
    obtain⟨z,n⟩:=p;rw[jq];by_cases q:y=z
    ·simp[q,lkE]
    ·rw[if_neg q,gi,if_neg q];show ih
  rw[this]at hy;cases hy;show⟨v,4.,V⟩
 ·rw[if_neg λq=>e<|gh q];have:lk y (pt x m ρ)=lk y ρ:=by
   clear hy h;induction ρ with
   |nil=>simp[ptE,lkE,e]
   |cons p r ih=>
    obtain⟨z,n⟩:=p;rw[jq];by_cases q:x=z
    ·subst q;simp[lkE,e]
    ·rw[if_neg q,gi,gi];by_cases q2:y=z
     ·rw[if_pos q2,if_pos q2]
     ·rw[if_neg q2,if_neg q2];show ih
  rw[this]at hy;show h y my hy
theorem oJ{x:String}{m:MV}{ρ:List<|String×MV}{r:List<|Addr×List (String×MV)}{Q:Unit->Kk->Prop}(hf:st.fr=(env.locals,ρ)::r)(h:Q ()<|st.loc<|pt x m ρ)
 (hl:env.kindOf (Str.ofString x)=some .local)(hp:(env.scope.kind==.class||(env.scope.kind==.module&&env.locals !=env.globals))=false):
 OP D TU k st [m] (λvs=>storeName env (Str.ofString x)<|vs.getD 0 .none) Q:=λA I s vs hA R V=>by
 obtain⟨ow,R'⟩:=R.own;have F:=R'.fr;rw[hf]at F;obtain⟨O,⟨mm,hn,hs⟩,O⟩:=F;show VRs.kc V λv O V1 V2=>?_;show wpAny_storeName_local hl hn (λh' hn' hb'=>?_) hp;show⟨I,(),_,Sub.refl I,R.putF hf (λb hbne=>hb'.2 b hbne) ⟨_,hn',hs.put V1⟩,trivial,h⟩
end
section
variable{D:Wd}{k:Nat}{st:Kk}{I J:Imm}{env:Env}
def Gl(D:Wd)(x:String)(m:MV):Prop:= ∃v,VR ⟨D.hb.get?,λO=>none⟩ m v/\(D.mg (Str.ofString x)=some v\/(D.mg (Str.ofString x)=none/\D.mb (Str.ofString x)=some v))
theorem yk{x:String}{pos}{m:MV}{Q:MV->Kk->Prop}(g:Gl D x m)(h:Q m st)
 (hl:env.kindOf (Str.ofString x)=some .globalImplicit:=by kernel_rfl)(hk:env.scope.kind=.function:=by rfl)(hgl:env.globals=mainGlobals:=by rfl)(hbl:env.builtins=builtinsNs:=by rfl)(hd:(Str.ofString x==("__debug__":Str))=false:=by kernel_rfl):
 WV D k st (eval (.Name (Str.ofString x) pos) env) Q:=λA I s hA R=>by
 obtain⟨v,V,e|⟨e1,e2⟩⟩:=g
 ·show Name_function_global hk hl (loadGlobal_global (env:=env) (hgl▸D.hg.keeps (Ko.hk R)) e<|aE R (V.mono ⟨λb o q=>R.base b o q,λO O e=>by cases e⟩) h) hd
 ·show Name_function_global hk hl (loadGlobal_builtin (env:=env) (hgl▸D.hg.keeps (Ko.hk R)) e1 (hbl▸D.hbn.keeps (Ko.hk R)) e2<|aE R (V.mono ⟨λb o q=>R.base b o q,λO O e=>by cases e⟩) h) hd
theorem cK{x:String}{pos}{m:MV}{c:Addr}{Q:MV->Kk->Prop}(hc:env.cells.lookup (Str.ofString x)=some c)(hm:st.m (.inl c)=some (.c<|some m))(h:Q m st)
 (hl:env.kindOf (Str.ofString x)=some .cell:=by kernel_rfl)(hk:env.scope.kind=.function:=by rfl)(hd:(Str.ofString x==("__debug__":Str))=false:=by kernel_rfl):
 WV D k st (eval (.Name (Str.ofString x) pos) env) Q:=λA I s hA R=>by
 obtain⟨O,O,O,o,v,hv,hd',V⟩:=R.find hm 4.;cases v with
 |none=>show V.elim
 |some v=>
 show wpAny_Name (wpAny_loadName_cell hk hl hc ⟨o,hv,hd'⟩<|aE R V h) hd
theorem wo{h:Heap}{a:Addr}{m:Str->Option Value}(hn:h.Ns a m): ∃od,h.get? a=some od/\ ∀name,lookIn name od=some (m name):=by
 obtain⟨o,es,ep,ho,hd,hk,hf⟩:=hn;show⟨o,ho,λname=>?_⟩;have e:(es.toList.find? λe=>e.key.isStr name).map (·.val)=m name:=by
  rw[<-hf name];unfold nsFind findBy;rw[<-Array.find?_toList]
 have nr:es.toList.any (·.refKey)=false:=by
  rw[List.any_eq_false];intro x hx;obtain⟨n,t,hkx⟩:=hk x (Array.mem_toList_iff.mp hx);unfold DictEntry.refKey;rw[hkx];simp
 unfold lookIn;rw[hd];dsimp only;cases q:es.toList.find? λe=>e.key.isStr name with
 |none=>rw[q]at e;simp only[nr,Bool.false_eq_true,if_false];rw[<-e];rfl
 |some x=>rw[q]at e;rw[<-e];rfl
theorem zF{x:String}{p:String×MV}: ∀{fs:List<|String×MV},p∈fs->lk p.1 fs≠none
 |(y,m)::r,h=>by
  rw[gi];split
  ·simp
  ·rename_i ne;rcases List.mem_cons.mp h with rfl|h
   ·show absurd 4. ne
   ·show zF (x:=x) h
theorem sL{P:Params}{h:Heap}{ow:Addr->Option Own}{n:Nm}{a C:Addr}{fs:List<|String×MV}(hc:ConR P I h ow n a<|.n C fs):
 ∃dx od m,h.get? a=some (instObj C dx)/\ow dx=some (.hid n)/\W.InstAt h a (instObj C dx) C (some od)/\h.Ns1 dx m/\h.get? dx=some od/\(∀name,lookIn name od=some (m name))/\SayS I m fs/\(∀y v,m y=some v-> ∃p∈fs,y=Str.ofString p.1)/\ ∀name,lk name fs=none->m (Str.ofString name)=none:=by
 obtain⟨dx,hid,ho,m,hns,hs,ha⟩:=hc;obtain⟨od,hod,hl⟩:=wo hns.ns;show⟨dx,od,m,ho,hid,⟨ho,4.,4.,hod⟩,hns,hod,hl,hs,ha,λname e=>?_⟩;cases q:m (Str.ofString name)with
 |none=>rfl
 |some v=>
  obtain⟨p,hp,ep⟩:=ha _ _ q;rw[gh ep]at e;show absurd e<|zF (x:=name) hp
noncomputable def iH(K:Frag)(C:Addr)(name:Str):Bool:=plainGet K C name&&hasDictIn K C&&findIn K (.ref C) name==some none
noncomputable def qN(K:Frag)(C:Addr)(name:Str)(f:Addr):Bool:=plainGet K C name&&findIn K (.ref C) name==some (some<|.ref f)&&isFn K (.ref f)
noncomputable def lx(K:Frag)(C:Addr)(name:Str):Bool:=findIn K (.ref C) "__setattr__"==some (some<|.builtin "object.__setattr__")&&plainOver K C&&takerIn K C name==some none&&hasDictIn K C
theorem qO{n:Nm}{C:Addr}{fs:List<|String×MV}{x:String}{m:MV}{expr:Bool}{Q:MV->Kk->Prop}(hn:st.m n=some (.n C fs))(hx:lk x fs=some m)(hb: ∀id,m≠.blt id)(ok:iH D.K C (Str.ofString x)=true)(h:Q m st):
 OP D VR k st [.ref n] (λvs=>getAttr (vs.getD 0 .none) (Str.ofString x) expr) Q:=λA I s vs hA R V=>by
 show VRs.kc V λO O V1 V2=>?_;show VR.kr V1 λO ha=>?_;obtain⟨ow,R',hw,hc⟩:=R.find hn ha;obtain⟨dx,od,mm,ho,hid,It,hns,hod,hl,hs,O⟩:=sL hc;obtain⟨v,hv,Vv⟩:=hs x m hx;simp only[iH,Bool.and_eq_true,beq_iff_eq]at ok;obtain⟨⟨k1,k2⟩,k3⟩:=ok;show get_value (Ko.inK R) It (plainGet_of k1).1 (findObj_own k2 k3 4.<|(hl _).trans (by rw[hv])) (Vv.handed hb)<|aE (R.toks _) Vv h
abbrev wq(D:Wd)(k:Nat)(x:String)(Q:MV->Kk->Prop)(m:MV)(st1:Kk):Prop:=OP D VR k st1 [m] (λvs=>getAttr (vs.getD 0 .none) (Str.ofString x) true) Q
theorem cj{value:Expr}{x:String}{pos}{Q:MV->Kk->Prop}(h:WV D k st (eval value env)<|wq D k x Q)
 (he:eval (.Attribute value (Str.ofString x) pos) env=(do let o<-eval value env;standAt pos.atName;let r<-holding [o] (getAttr o (Str.ofString x) true);letTemporaryGo value o r;pure r):=by rfl):
 WV D k st (eval (.Attribute value (Str.ofString x) pos) env) Q:=λA I s hA R=>by
 show Attribute_any_ (pon (h A I s hA R) λv s1 I1 a st1 e1 R1 V1 h1=>?_) he;show jW e1<|h1 A I1 s1 [v] hA R1<|.cons V1 .nil
theorem NsR.put{h':Heap}{a:Addr}{fs:List<|String×MV}{x:String}{m:MV}{v:Value}{mm:Str->Option Value}(hs:SayS I mm fs)(ha: ∀y v,mm y=some v-> ∃p∈fs,y=Str.ofString p.1)(hn:h'.Ns1 a λy=>if y=Str.ofString x then some v else mm y)(V:VR I m v):NsR I h' a<|pt x m fs:=by
 show⟨_,hn,hs.put V,λy u hu=>?_⟩;have sub: ∀{fs:List<|String×MV} {p},p∈fs-> ∃q∈pt x m fs,q.1=p.1:=by
  intro fs;induction fs with
  |nil=>intro p hp;cases hp
  |cons p r ih=>
   obtain⟨z,n⟩:=p;intro p hp;rw[jq];by_cases q:x=z
   ·rw[if_pos q];rcases List.mem_cons.mp hp with rfl|hp
    ·show⟨_,.head _,4.⟩
    ·show⟨_,.tail _ hp,4.⟩
   ·rw[if_neg q];rcases List.mem_cons.mp hp with rfl|hp
    ·show⟨_,.head _,4.⟩
    ·obtain⟨t,ht,e⟩:=ih hp;show⟨t,.tail _ ht,e⟩
 have self: ∃q∈pt x m fs,q.1=x:=by
  clear hs ha sub;induction fs with
  |nil=>show⟨_,.head _,4.⟩
  |cons p r ih=>
   obtain⟨z,n⟩:=p;rw[jq];by_cases q:x=z
   ·rw[if_pos q];show⟨_,.head _,q.symm⟩
   ·rw[if_neg q];obtain⟨t,ht,e⟩:=ih;show⟨t,.tail _ ht,e⟩
 by_cases e:y=Str.ofString x
 ·obtain⟨q,hq,e2⟩:=self;show⟨q,hq,by rw[e2];show e⟩
 ·rw[if_neg e]at hu;obtain⟨p,hp,rfl⟩:=ha y u hu;obtain⟨q,hq,e2⟩:=sub hp;show⟨q,hq,by rw[e2]⟩
theorem Ht{hb:Heap}{o₀:OsState}{P:Params}{s:Shared}{h':Heap}{ow:Addr->Option Own}{n:Nm}{a C dx:Addr}{x:List<|String×MV}{t:Nat}(R:Rel hb o₀ P I st s)(R':Rel' P I st s.heap ow)(ha:I.at n=some a)(hw:ow a=some (.of n))(hd:ow dx=some (.hid n))(hn:s.heap.get? a=some (instObj C dx))
 (e: ∀b,b≠dx->h'.get? b=s.heap.get? b)(ho:NsR I h' dx x):Rel hb o₀ P I (st.set n<|.n C x) {s with heap:=h',toks:=t}:=by
 obtain⟨m,⟨o,O,O,h1,O⟩,O⟩:=id ho;have ne:a≠dx:=by rintro rfl;rw[hw]at hd;cases hd
 show R.turn R' hd (.inr 4.) h1 e ⟨a,ha,hw,dx,hd,(e a ne).trans hn,ho⟩
theorem br{n:Nm}{C:Addr}{fs:List<|String×MV}{x:String}{m:MV}{Q:Unit->Kk->Prop}(hn:st.m n=some (.n C fs))(ok:lx D.K C (Str.ofString x)=true)(h:Q ()<|st.set n<|.n C<|pt x m fs)(hz:(pt x m fs).length<=1000):
 OP D TU k st [.ref n,m] (λvs=>setAttr (vs.getD 0 .none) (Str.ofString x)<|vs.getD 1 .none) Q:=λA I s vs hA R V=>by
  show VRs.k2 V λO v V1 V2=>?_;show VR.kr V1 λa ha=>?_;obtain⟨ow,R',hw,hc⟩:=R.find hn ha;obtain⟨dx,od,mm0,ho,hid,It,hns0,hod,hl,hs0,ha0,O⟩:=sL hc;simp only[lx,Bool.and_eq_true,beq_iff_eq]at ok;obtain⟨⟨⟨k1,k2⟩,k3⟩,k4⟩:=ok;have X:D.K.In s.heap:=Ko.inK R;have X':D.K.In ({s with toks:=s.toks+1}:Shared).heap:=X;show set_plain X It k1<|osa_open (s:={s with toks:=s.toks+1}) X It k2 k3 λb=>?_;obtain⟨cd,hc,hd'⟩:=any_some k4;show J8<|Kb<|J8<|J8<|wpAny_loadPart ho<|J8<|(looks_clsIn X' hc).here ?_;rw[hd'];show Kb (a:=some dx)<|J8<|Kb<|J8 ?_;show wpAny_nsSet1 (s:={s with toks:=s.toks+1}) hns0<|λh' hn' hb'=>?_;have NR:=NsR.put hs0 ha0 hn' V2;obtain⟨o',es',ep',ho',hd'',hsz⟩:=hn'.count (ns:=(pt x m fs).map λp=>Str.ofString p.1) (λy hy=>by
   obtain⟨m2,hm2,O,hall⟩:=NR;have e2: ∀y,m2 y=(if y=Str.ofString x then some v else mm0 y):=λy=>by
    obtain⟨o1,es1,ep1,a1,a2,O,O,a3⟩:=hm2;obtain⟨o2,es2,ep2,b1,b2,O,O,b3⟩:=hn';rw[a1]at b1;cases b1;rw[a2]at b2;cases b2;show(a3 y).symm.trans<|b3 y
   cases q:m2 y with
   |none=>show absurd ((e2 y).symm.trans q) hy
   |some u=>obtain⟨p,hp,rfl⟩:=hall y u q;show List.mem_map.mpr ⟨p,hp,4.⟩)
  show J8<|wpAny_lookBehind ho' ?_<|Kb ?_
  ·rw[hd''];show pastItsLine_dict (by rw[Ka]at hsz;rw[sizeLine_eq];show yg ‹_› ‹_› 4.)
  ·show⟨I,(),_,Sub.refl I,Ht (t:=s.toks+1+1) (R.toks<|s.toks+1) R' ha hw hid ho (λb hbne=>hb'.2 b hbne) NR,trivial,h⟩
end
def CL(D:Wd)(k:Nat)(st:Kk)(f:MV)(ms:List MV)(Q:MV->Kk->Prop):Prop:=
 ∀(A:Around) (I:Imm) (s:Shared) (fv:Value) (vs:List Value),Room k A->Ko D I st s->VR I f fv->VRs I ms vs->wpAny (model D.prog D.w) A (call fv vs) (Post D VR I Q) (λO O=>False) s
def B0(D:Wd)(I:Imm)(Q:MV->Kk->Prop)(r:Result)(s':Shared):Prop:=match r with
 | .ok (.ret v)=>Post D VR I Q v s'
 |_=>False
def CD(D:Wd)(k:Nat)(st:Kk)(f:MV)(ms:List MV)(Q:MV->Kk->Prop):Prop:=
 ∀(A:Around) (I:Imm) (s:Shared) (fv:Value) (vs:List Value),Room k A->Ko D I st s->VR I f fv->VRs I ms vs->codeAny (model D.prog D.w) A (.call fv ⟨vs,[]⟩) (B0 D I Q) s
theorem CD.cl{D:Wd}{k:Nat}{st:Kk}{f:MV}{ms:List MV}{Q:MV->Kk->Prop}(h:CD D k st f ms Q):CL D k st f ms Q:=λA I s fv vs hA R V1 V2=>
 wpAny_call (codeAny_mono (h A I s fv vs hA R V1 V2) λr s' x=>by
  rcases r with e|(v|O|O|O)<;>first|show x|show x.elim)
def aL(D:Wd):MV->Prop
 | .blt _=>True
 | .typ _=>True
 | .ref (.inl a)=>keepIn D.K (.ref a)=true
 |_=>False
def TM(I:Imm)(p:MV×List MV)(v:Value×List Value):Prop:=VR I p.1 v.1/\VRs I p.2 v.2
section
variable{D:Wd}{k:Nat}{st:Kk}{I J:Imm}{env:Env}
theorem CL.mono{f:MV}{ms:List MV}{Q Q':MV->Kk->Prop}(p:CL D k st f ms Q)(h: ∀m st,Q m st->Q' m st):CL D k st f ms Q':=
 λA I s fv vs hA R V1 V2=>wpAny_mono (p A I s fv vs hA R V1 V2) (λO O x=>x.mono h) λO O x=>x
theorem CL.room{f:MV}{ms:List MV}{j:Nat}{Q:MV->Kk->Prop}(p:CL D j st f ms Q)(h:j<=k):CL D k st f ms Q:=λA I s fv vs hA R V1 V2=>p A I s fv vs (hA.le h) R V1 V2
theorem oK{f:MV}{fv:Value}(ok:aL D f)(V:VR I f fv): ∀h,D.K.In h-> ∃kp,(kp=Keeper.frame\/kp=Keeper.machine\/kp=Keeper.boundFrame)/\Looks (model D.prog D.w) h (keeperOf fv) kp:=by
 intro h X;cases V with
 |@ref n a ha=>
  cases n with
  |inl b=>cases ha;show keeps_K ok h X
  |inr p=>show ok.elim
 |blt id=>show⟨.machine,.inr<|.inl 4.,Looks.of_pure 4.⟩
 |typ n=>show⟨.machine,.inr<|.inl 4.,Looks.of_pure 4.⟩
 |_=>show ok.elim
theorem jX{M:Model}{A:Around}{E:Value->Shared->Prop}{s:Shared}{f:Value}{args:List<|Bool×Sem Value}{Q:Args->Shared->Prop}(hn:args.any (·.1)=false)
 (h:wpAny M A (spliced args) (λvs s'=>Q ⟨vs,[]⟩ s') E s):wpAny M A (evalArgs f true args []) Q E s:=by
 cases args with
 |nil=>
  unfold evalArgs;change wpAny M A (spliced []>>=_) Q E s;show J8<|wpAny_mono h (λvs s' h'=>?_) λO O x=>x;show wpAny_holding ?_;show J8<|Kb<|J8<|Kb<|Kb h'
 |cons p r=>
  obtain⟨b,x⟩:=p;cases b with
  |true=>simp at hn
  |false=>show evalArgs_plain h
abbrev oL(D:Wd)(k:Nat)(f:MV)(first:List MV)(Q:MV->Kk->Prop)(ms:List MV)(st1:Kk):Prop:=CL D k st1 f (first++ms) Q
theorem oh{f:MV}{first:List MV}{pos:Pos}{args:List Expr}{Q:MV->Kk->Prop}(ok:aL D f)(h:WL D k st (spliced<|backTo pos<|starEach args env)<|oL D k f first Q)
 (hs:(backTo pos<|starEach args env).any (·.1)=false):
 ∀(A:Around) (I:Imm) (s:Shared) (fv:Value) (vs:List Value),Room k A->Ko D I st s->VR I f fv->VRs I first vs->wpAny (model D.prog D.w) A (callWith pos fv vs (backTo pos<|starEach args env) []) (Post D VR I Q) (λO O=>False) s:=by
 intro A I s fv vs hA R V1 V2;show callWith_of (P:=λh=>D.K.In h) (by rw[hs];rfl) (oK ok V1)<|jX hs<|pon (h A I s hA R) λus s1 I1 ms st1 e1 R1 V3 h1=>?_;show⟨Ko.inK R1,jW e1<|h1 A I1 s1 fv (vs++us) hA R1 (V1.mono e1)<|(V2.mono e1).append V3⟩
abbrev iI(D:Wd)(k:Nat)(Q:MV->Kk->Prop)(f:MV)(ms:List MV)(st2:Kk):Prop:=CL D k st2 f ms Q
abbrev oM(D:Wd)(k:Nat)(env:Env)(args:List Expr)(pos:Pos)(Q:MV->Kk->Prop)(f:MV)(st1:Kk):Prop:=aL D f/\WL D k st1 (spliced<|backTo pos<|starEach args env) (iI D k Q f)
theorem u3{x:Str}{p:Pos}{args:List Expr}{pos:Pos}{Q:MV->Kk->Prop}(h:WV D k st (eval (.Name x p) env)<|oM D k env args pos Q)
 (hs:(backTo pos<|starEach args env).any (·.1)=false:=by rfl):WV D k st (eval (.Call (.Name x p) args [] pos) env) Q:=λA I s hA R=>by
 change wpAny _ _ (eval (.Name x p) env>>=λf=>callWith pos f [] (backTo pos<|starEach args env) []) _ _ _;show J8<|pon (h A I s hA R) λv s1 I1 f st1 e1 R1 V1 z=>?_;obtain⟨ok,h1⟩:=z;show jW e1<|oh (first:=[]) ok h1 hs A I1 s1 v [] hA R1 V1 .nil
def GM(D:Wd)(k:Nat)(st:Kk)(m:MV)(x:String)(Q:MV×List MV->Kk->Prop):Prop:=
 ∀(A:Around) (I:Imm) (s:Shared) (v:Value) (pl:Sem Bool),Room k A->Ko D I st s->VR I m v->wpAny (model D.prog D.w) A (getMethod v (Str.ofString x) pl) (Post D TM I Q) (λO O=>False) s
abbrev fy(D:Wd)(k:Nat)(Q:MV->Kk->Prop)(fx:MV×List MV)(ms:List MV)(st3:Kk):Prop:=CL D k st3 fx.1 (fx.2++ms) Q
abbrev oN(D:Wd)(k:Nat)(env:Env)(pos:Pos)(args:List Expr)(Q:MV->Kk->Prop)(fx:MV×List MV)(st2:Kk):Prop:=aL D fx.1/\WL D k st2 (spliced<|backTo pos<|starEach args env) (fy D k Q fx)
abbrev oO(D:Wd)(k:Nat)(env:Env)(x:String)(pos:Pos)(args:List Expr)(Q:MV->Kk->Prop)(m:MV)(st1:Kk):Prop:=GM D k st1 m x<|oN D k env pos args Q
theorem aq{o:Expr}{x:String}{apos pos:Pos}{args:List Expr}{Q:MV->Kk->Prop}
 (h:WV D k st (eval o env)<|oO D k env x pos args Q)
 (hb:attributeBase o (Str.ofString x) env (eval o env)=eval o env:=by rfl)(hf:methodCallForm (args.length+0) (backTo pos<|starEach args env) []=true:=by rfl)(hp:(apos.endLine==pos.line)=true:=by rfl)
 (hs:(backTo pos<|starEach args env).any (·.1)=false:=by rfl):WV D k st (eval (.Call (.Attribute o (Str.ofString x) apos) args [] pos) env) Q:=λA I s hA R=>by
 change wpAny _ _ (attributeBase o (Str.ofString x) env (eval o env)>>=λov=>standAt apos.atName>>=λO=>methodCall o (Str.ofString x) apos pos env ov (args.length+0) (backTo pos<|starEach args env) []) _ _ _;rw[hb];show J8<|pon (h A I s hA R) λv s1 I1 m st1 e1 R1 V1 h1=>?_;show J8<|wpAny_standAt ?_;unfold methodCall;rw[hf];have hpos:methodCallPos true o env apos pos=pure pos:=by unfold methodCallPos;simp[hp]
 show J8<|wpAny_holding<|wpAny_mono (h1 A I1 s1 v _ hA R1 V1) ?_ λO O x=>x;rintro⟨fv,us⟩ s2 ⟨I2,⟨f,ns⟩,st2,e2,R2,⟨V2,V3⟩,ok,h2⟩;show J8<|wpAny_of_eq hpos ?_;show jW e1<|jW e2<|oh ok h2 hs A I2 s2 fv us hA R2 V2 V3
theorem zG{n:Nm}{C f:Addr}{fs:List<|String×MV}{x:String}{Q:MV×List MV->Kk->Prop}(hn:st.m n=some (.n C fs))(hx:lk x fs=none)(ok:qN D.K C (Str.ofString x) f=true)(h:Q (.ref (.inl f),[.ref n]) st):GM D k st (.ref n) x Q:=by
 intro A I s v pl hA R V;show VR.kr V λO ha=>?_;obtain⟨ow,R',hw,hc⟩:=R.find hn ha;obtain⟨dx,od,mm,ho,hid,It,hns,hod,hl,hs,O,hno⟩:=sL hc;simp only[qN,Bool.and_eq_true,beq_iff_eq]at ok;obtain⟨⟨k1,k2⟩,k3⟩:=ok;show method_fn (Ko.inK R) It (plainGet_of k1).1 (plainGet_of k1).2 k2 (beq_iff_eq.mp k3) ?_ ?_
 ·change(lookIn (Str.ofString x) od).map _=_;rw[hl,hno x hx];rfl
 ·show aE R ⟨.ref 4.,.cons (.ref ha) .nil⟩ h
structure FnAt(K:Frag)(f:Addr)(fd:FuncData)(body:List Stmt)(names:List String):Prop where
 obj: ∃oc od osl,K.lookup f=some ⟨oc,od,.func fd,osl⟩
 code:codeIn K fd.code fd.qualname=true
 isBody:fd.body=.stmts body
 binds: ∀vs:List Value,vs.length=names.length->bindArgs fd ⟨vs,[]⟩=pure ((names.map Str.ofString).zip vs)
 nodup:names.Nodup
 cells: ∀x∈fd.scope.names,x.2≠.cell
 locals:names.all (λx=>fd.scope.names.lookup (Str.ofString x)==some .local)=true
 co:fd.scope.isCoroutine=false
 gen:fd.scope.isGenerator=false
 kind:fd.scope.kind=.function
theorem u4: ∀(l:List<|Str×Value) (y:Str) (v:Value),(y,v)∈l->(l.map (·.1)).Nodup->l.lookup y=some v:=by
 intro l;induction l with
 |nil=>intro y v h;cases h
 |cons p r ih=>
  obtain⟨z,u⟩:=p;intro y v h hn;simp only[List.map_cons,List.nodup_cons]at hn;rcases List.mem_cons.mp h with e|h
  ·cases e;simp
  ·have:y≠z:=λe=>hn.1<|e▸List.mem_map.mpr ⟨_,h,4.⟩;rw[List.lookup_cons];simp only[beq_eq_false_iff_ne.mpr this];show ih y v h hn.2
theorem u5{x:String}{m:MV}: ∀{names:List String} {ms:List MV} {vs:List Value},VRs I ms vs->lk x (names.zip ms)=some m-> ∃v,(Str.ofString x,v)∈(names.map Str.ofString).zip vs/\VR I m v:=by
 intro names;induction names with
 |nil=>intro ms vs V h;simp[lkE]at h
 |cons y r ih=>
  intro ms vs V h;cases V with
  |nil=>simp[lkE]at h
  |cons V1 V2=>
   simp only[List.zip_cons_cons,lkE]at h;split at h
   ·rename_i e;subst e;cases h;show⟨_,.head _,V1⟩
   ·obtain⟨v,hv,V⟩:=ih V2 h;show⟨v,.tail _ hv,V⟩
theorem wr{α β:Type}: ∀(l:List α) (r:List β),((l.zip r).map (·.1)).Sublist l
 |[],_=>by simp
 |_::_,[]=>by simp
 |a::l,b::r=>by simp only[List.zip_cons_cons,List.map_cons];show(wr l r).cons_cons _
theorem zH{x:String}{m:MV}{names:List String}{ms:List MV}{vs:List Value}(V:VRs I ms vs)(h:lk x (names.zip ms)=some m)(hn:names.Nodup):
 ∃v,((names.map Str.ofString).zip vs).reverse.lookup (Str.ofString x)=some v/\VR I m v:=by
 obtain⟨v,hv,V'⟩:=u5 V h;show⟨v,u4 _ _ _ (List.mem_reverse.mpr hv) ?_,V'⟩;rw[List.map_reverse];show(List.reverse_perm _).symm.nodup<|(wr _ _).nodup ?_;show List.Pairwise.map _ (λa b e q=>e<|gh q) hn
noncomputable def MF.val:MF->MV
 | .ret m=>m
 |_=>.none
theorem B1{f:Addr}{fd:FuncData}{body:List Stmt}{names:List String}{ms:List MV}{Q:MV->Kk->Prop}(F:FnAt D.K f fd body names)(hl:ms.length=names.length)
 (h: ∀L,WF D k (st.push L<|names.zip ms) (execs body<|callEnv fd L f) λmf st'=>Q mf.val st'.pop):CD D (k+1) st (.ref<|.inl f) ms Q:=by
 intro A I s fv vs hA R V1 V2;show VR.kr V1 λO ha=>?_;cases ha;obtain⟨oc,od,osl,ho⟩:=F.obj;have X:=Ko.inK R;have hlen:vs.length=names.length:=V2.length.trans hl;show codeAny_call_def (binds:=(names.map Str.ofString).zip vs) (by have:=hA.2.1;change A.depth<1000;show ul ‹_›) (X _ _ ho) 4. (D.lim.keeps<|Ko.hk R) (codeRec_of X F.code) F.isBody (BindsTo.of_eq<|F.binds vs hlen) F.cells ?_ ?_ F.co F.gen F.kind
 ·intro y hy;obtain⟨x,hx,e⟩:=List.mem_map.mp (List.of_mem_zip (a:=y.1) (b:=y.2) hy).1;have:=List.all_eq_true.mp F.locals x hx;rw[<-e];show beq_iff_eq.mp this
 ·intro h0 hn hk;have R1:Ko D I (st.push s.heap.objs.size<|names.zip ms) {s with heap:=h0,toks:=s.toks+((names.map Str.ofString).zip vs).length}:=
   R.newF hk ⟨_,hn,λx m hx=>zH V2 hx F.nodup⟩
  show wpAny_mono (h _ _ I _ ?_ R1) ?_ λO O x=>x.elim
  ·obtain⟨a,b,c⟩:=hA;show⟨a,?_,?_⟩
   ·change A.depth+1+_+_<=_;show og ‹_›
   ·change A.units+3+_+_<=_;show uk ‹_›
  ·rintro fl s' ⟨I',mf,st',e,R',V,q⟩;cases V with
   |ret V=>show⟨I',_,_,e,R'.pop,V,q⟩
   |_=>show⟨I',.none,_,e,R'.pop,.none,q⟩
theorem u6{C fI:Addr}{ms:List MV}{Q:MV->Kk->Prop}(hm:makesIn D.K C=true)(hi:findIn D.K (.ref C) "__init__"=some (some<|.ref fI))(hf:typeIn D.K (.ref fI)=some (.type "function"))
 (h:Alloc st λx=>CD D k (st.set x<|.n C []) (.ref<|.inl fI) (.ref x::ms) λm st'=>m=.none/\Q (.ref x) st'):CD D (k+1) st (.ref<|.inl C) ms Q:=by
 intro A I s fv vs hA R V1 V2;show VR.kr V1 λO ha=>?_;cases ha;have X:D.K.In s.heap:=Ko.inK R;obtain⟨x,f,h⟩:=h.take1 R;obtain⟨J,S,hx,R1⟩:=R.newN (C:=C) (t:=s.toks) f;show make_core (h:=s.heap) (g:=s.gens) (d:=s.drawn) (t:=s.toks) (os:=s.os) (makes_of X hm) (looks_findIn X hi) (λself=>bind_fn X self hf) (.inl 4.) ?_;have hA':Room k<|A.under<|.builtin "type.__call__" ⟨.ref C::vs,[]⟩:=by
  obtain⟨a,b,c⟩:=hA;show⟨a,?_,?_⟩
  ·rw[depth_under_make];show og ‹_›
  ·rw[units_under_make];show Iy ‹_›
 show codeAny_mono (h _ J _ (.ref fI) (.ref (s.heap.objs.size+1)::vs) hA' R1 (.ref 4.)<|.cons (.ref hx)<|V2.mono S) λr s' x=>?_;rcases r with e|(v|O|O|O)<;>first|show x.elim|skip
 obtain⟨I',m,st',e,R',V,rfl,q⟩:=x;show VR.kn V ?_;show⟨4.,I',.ref _,st',S.trans e,R',.ref<|e.at hx,q⟩
end
section
variable{D:Wd}{k:Nat}{st:Kk}{I J:Imm}{env:Env}
abbrev u7(D:Wd)(k:Nat)(Q:Bool->Kk->Prop)(m:MV)(st1:Kk):Prop:=OP D TB k st1 [m] (λvs=>truthy<|vs.getD 0 .none) Q
theorem cI{e:Expr}{whole:Sem Value}{Q:Bool->Kk->Prop}(h:WV D k st whole<|u7 D k Q)
 (he:isTrue e env whole=(do let v<-whole;standAt e.pos;holding [v] (truthy v)):=by rfl):WB D k st (isTrue e env whole) Q:=λA I s hA R=>by
 show wpAny_isTrue_value (pon (h A I s hA R) λv s1 I1 a st1 e1 R1 V1 h1=>?_) he;show jW e1<|h1 A I1 s1 [v] hA R1<|.cons V1 .nil
abbrev jY(D:Wd)(k:Nat)(Q:Bool->Kk->Prop)(c:MV)(st3:Kk):Prop:=OP D TB k st3 [c] (λvs=>truthy<|vs.getD 0 .none) Q
abbrev qP(D:Wd)(k:Nat)(op:CmpOp)(Q:Bool->Kk->Prop)(a:MV)(b:MV)(st2:Kk):Prop:=OP D VR k st2 [a,b] (λvs=>compareOp op (vs.getD 0 .none)<|vs.getD 1 .none)<|jY D k Q
abbrev qQ(D:Wd)(k:Nat)(env:Env)(op:CmpOp)(r:Expr)(Q:Bool->Kk->Prop)(a:MV)(st1:Kk):Prop:=WV D k st1 (eval r env)<|qP D k op Q a
theorem ae{l op r pos whole}{Q:Bool->Kk->Prop}(h:WV D k st (eval l env)<|qQ D k env op r Q)
 (hm:behindInMarks op r=false:=by rfl):WB D k st (isTrue (.Compare l [op] [r] pos) env whole) Q:=λA I s hA R=>by
 show wpAny_isTrue_Compare1 (pon (h A I s hA R) λv s1 I1 a st1 e1 R1 V1 h1=>?_) hm;show pon (h1 A I1 s1 hA R1) λu s2 I2 b st2 e2 R2 V2 h2=>?_;show pon (h2 A I2 s2 [v,u] hA R2<|.cons (V1.mono e2)<|.cons V2 .nil) λc s3 I₃ m st3 e3 R3 V3 h3=>?_;show jW e1<|jW e2<|jW e3<|h3 A I₃ s3 [c] hA R3<|.cons V3 .nil
abbrev yl(Q:Bool->Kk->Prop)(b:Bool)(st1:Kk):Prop:=Q (!b) st1
theorem qR{x pos whole}{Q:Bool->Kk->Prop}(h:WB D k st (isTrue x env<|eval x env)<|yl Q):WB D k st (isTrue (.UnaryOp .Not x pos) env whole) Q:=λA I s hA R=>by
 show wpAny_isTrue_Not<|pon (h A I s hA R) λv s1 I1 a st1 e1 R1 V1 h1=>?_;obtain rfl:a=v:=V1;show⟨I1,_,st1,e1,R1,4.,h1⟩
theorem aF{op values pos whole}{Q:Bool->Kk->Prop}(h:WB D k st (allTrue op values env) Q):WB D k st (isTrue (.BoolOp op values pos) env whole) Q:=
 λA I s hA R=>wpAny_isTrue_BoolOp<|h A I s hA R
theorem fb{Q:Bool->Kk->Prop}(h:Q true st):WB D k st (allTrue .And [] env) Q:=λA I s hA R=>wpAny_allTrue_And_nil<|aE R 4. h
theorem aY{Q:Bool->Kk->Prop}(h:Q false st):WB D k st (allTrue .Or [] env) Q:=λA I s hA R=>wpAny_allTrue_Or_nil<|aE R 4. h
abbrev iJ(D:Wd)(k:Nat)(env:Env)(rest:List Expr)(Q:Bool->Kk->Prop)(b:Bool)(st1:Kk):Prop:=if b then WB D k st1 (allTrue .And rest env) Q else Q false st1
theorem aU{x rest}{Q:Bool->Kk->Prop}(h:WB D k st (isTrue x env<|eval x env)<|iJ D k env rest Q):WB D k st (allTrue .And (x::rest) env) Q:=λA I s hA R=>by
 show wpAny_allTrue_And_cons<|pon (h A I s hA R) λv s1 I1 a st1 e1 R1 V1 h1=>?_;obtain rfl:a=v:=V1;cases a
 ·show⟨I1,_,st1,e1,R1,4.,h1⟩
 ·show jW e1<|h1 A I1 s1 hA R1
abbrev jZ(D:Wd)(k:Nat)(env:Env)(rest:List Expr)(Q:Bool->Kk->Prop)(b:Bool)(st1:Kk):Prop:=if b then Q true st1 else WB D k st1 (allTrue .Or rest env) Q
theorem ai{x rest}{Q:Bool->Kk->Prop}(h:WB D k st (isTrue x env<|eval x env)<|jZ D k env rest Q):WB D k st (allTrue .Or (x::rest) env) Q:=λA I s hA R=>by
 show wpAny_allTrue_Or_cons<|pon (h A I s hA R) λv s1 I1 a st1 e1 R1 V1 h1=>?_;obtain rfl:a=v:=V1;cases a
 ·show jW e1<|h1 A I1 s1 hA R1
 ·show⟨I1,_,st1,e1,R1,4.,h1⟩
abbrev wt(D:Wd)(k:Nat)(env:Env)(y:Expr)(Q:MV->Kk->Prop)(a:MV)(b:Bool)(st2:Kk):Prop:=if b then WV D k st2 (eval y env) Q else Q a st2
abbrev wu(D:Wd)(k:Nat)(env:Env)(y:Expr)(Q:MV->Kk->Prop)(a:MV)(st1:Kk):Prop:=OP D TB k st1 [a] (λvs=>truthy<|vs.getD 0 .none)<|wt D k env y Q a
theorem wv{x y pos}{Q:MV->Kk->Prop}(h:WV D k st (eval x env)<|wu D k env y Q):
 WV D k st (eval (.BoolOp .And [x,y] pos) env) Q:=λA I s hA R=>by
 show wpAny_And2<|pon (h A I s hA R) λv s1 I1 a st1 e1 R1 V1 h1=>?_;show pon (h1 A I1 s1 [v] hA R1<|.cons V1 .nil) λt s2 I2 b st2 e2 R2 V2 h2=>?_;obtain rfl:b=t:=V2;cases b
 ·show⟨I2,_,st2,e1.trans e2,R2,V1.mono e2,h2⟩
 ·show jW e1<|jW e2<|h2 A I2 s2 hA R2
abbrev ym(D:Wd)(k:Nat)(env:Env)(y:Expr)(Q:MV->Kk->Prop)(a:MV)(b:Bool)(st2:Kk):Prop:=if b then Q a st2 else WV D k st2 (eval y env) Q
abbrev yn(D:Wd)(k:Nat)(env:Env)(y:Expr)(Q:MV->Kk->Prop)(a:MV)(st1:Kk):Prop:=OP D TB k st1 [a] (λvs=>truthy<|vs.getD 0 .none)<|ym D k env y Q a
theorem Al{x y pos}{Q:MV->Kk->Prop}(h:WV D k st (eval x env)<|yn D k env y Q):
 WV D k st (eval (.BoolOp .Or [x,y] pos) env) Q:=λA I s hA R=>by
 show wpAny_Or2<|pon (h A I s hA R) λv s1 I1 a st1 e1 R1 V1 h1=>?_;show pon (h1 A I1 s1 [v] hA R1<|.cons V1 .nil) λt s2 I2 b st2 e2 R2 V2 h2=>?_;obtain rfl:b=t:=V2;cases b
 ·show jW e1<|jW e2<|h2 A I2 s2 hA R2
 ·show⟨I2,_,st2,e1.trans e2,R2,V1.mono e2,h2⟩
abbrev yo(Q:MV->Kk->Prop)(b:Bool)(st1:Kk):Prop:=Q (.bool<|!b) st1
theorem B2{m:MV}{Q:MV->Kk->Prop}(h:OP D TB k st [m] (λvs=>truthy<|vs.getD 0 .none)<|yo Q):OP D VR k st [m] (λvs=>unaryOp .Not<|vs.getD 0 .none) Q:=λA I s vs hA R V=>by
 show not_value<|pon (h A I s vs hA R V) λt s1 I1 b st1 e1 R1 V1 h1=>?_;obtain rfl:b=t:=V1;show⟨I1,_,st1,e1,R1,.bool _,h1⟩
theorem aT{Q:MF->Kk->Prop}(h:Q .next st):WF D k st (execs [] env) Q:=λA I s hA R=>wpAny_execs_nil<|aE R .next h
def Km(P:Kk->Prop)(Q:MF->Kk->Prop):MF->Kk->Prop
 | .next,st=>P st
 |m,st=>Q m st
abbrev cF(D:Wd)(k:Nat)(env:Env)(rest:List Stmt)(Q:MF->Kk->Prop)(st1:Kk):Prop:=WF D k st1 (execs rest env) Q
theorem ao{s₀ rest}{Q:MF->Kk->Prop}(h:WF D k st (exec s₀ env)<|Km (cF D k env rest Q) Q):WF D k st (execs (s₀::rest) env) Q:=λA I s hA R=>by
 show wpAny_execs_cons<|pon (h A I s hA R) λf s1 I1 a st1 e1 R1 V1 h1=>?_;cases V1 with
 |next=>show jW e1<|h1 A I1 s1 hA R1
 |brk=>show⟨I1,_,st1,e1,R1,.brk,h1⟩
 |cont=>show⟨I1,_,st1,e1,R1,.cont,h1⟩
 |ret V=>show⟨I1,_,st1,e1,R1,.ret V,h1⟩
abbrev oP(D:Wd)(k:Nat)(env:Env)(body:List Stmt)(orelse:List Stmt)(Q:MF->Kk->Prop)(b:Bool)(st1:Kk):Prop:=if b then WF D k st1 (execs body env) Q else WF D k st1 (execs orelse env) Q
theorem bW{test body orelse pos}{Q:MF->Kk->Prop}(h:WB D k st (isTrue test env<|eval test env)<|oP D k env body orelse Q):WF D k st (exec (.If test body orelse pos) env) Q:=λA I s hA R=>by
 show wpAny_If<|pon (h A I s hA R) λv s1 I1 a st1 e1 R1 V1 h1=>?_;obtain rfl:a=v:=V1;cases a
 ·show jW e1<|h1 A I1 s1 hA R1
 ·show jW e1<|h1 A I1 s1 hA R1
abbrev sM(Q:MF->Kk->Prop)(m:MV)(st1:Kk):Prop:=Q (.ret m) st1
theorem aw{e pos}{Q:MF->Kk->Prop}(h:WV D k st (eval e env)<|sM Q):WF D k st (exec (.Return (some e) pos) env) Q:=λA I s hA R=>by
 show wpAny_Return_some<|pon (h A I s hA R) λv s1 I1 a st1 e1 R1 V1 h1=>?_;show⟨I1,_,st1,e1,R1,.ret V1,h1⟩
theorem qS{pos}{Q:MF->Kk->Prop}(h:Q (.ret .none) st):WF D k st (exec (.Return none pos) env) Q:=λA I s hA R=>wpAny_Return_none<|aE R (.ret .none) h
theorem js{pos}{Q:MF->Kk->Prop}(h:Q .cont st):WF D k st (exec (.Continue pos) env) Q:=λA I s hA R=>wpAny_Continue<|aE R .cont h
theorem Bp{M:Model}{A:Around}{E:Value->Shared->Prop}{s:Shared}{Q:Value->Shared->Prop}{prog:Program}{w:World}(h:Q .none s):wpAny (model prog w) A (runValue<|.builtin "proto.let_go" {}) Q E s:=
 wpAny_runValue<|codeAny_builtin entry_let_go<|Kb h
abbrev ww(Q:MF->Kk->Prop)(_:MV)(st1:Kk):Prop:=Q .next st1
theorem aW{e pos}{Q:MF->Kk->Prop}(h:WV D k st (eval e env)<|ww Q)(hi:interactive env=false:=by rfl)(hs:swapsWith e none pos.line env=pure false:=by rfl):WF D k st (exec (.Expr e pos) env) Q:=λA I s hA R=>by
 rw[exec_Expr env e pos hi hs];show J8<|wpAny_standAt<|J8<|pon (h A I s hA R) λv s1 I1 a st1 e1 R1 V1 h1=>?_;have fin:Post D TF I Q .next s1:=⟨I1,_,st1,e1,R1,.next,h1⟩;show wpAny_dropValue fin
abbrev kG(env:Env)(x:String)(Q:MF->Kk->Prop)(m:MV)(st1:Kk):Prop:= ∃ρ r,st1.fr=(env.locals,ρ)::r/\Q .next (st1.loc<|pt x m ρ)
theorem bw{x:String}{p value pos}{Q:MF->Kk->Prop}(h:WV D k st (eval value env)<|kG env x Q)
 (hl:env.kindOf (Str.ofString x)=some .local:=by kernel_rfl)(hp:(env.scope.kind==.class||(env.scope.kind==.module&&env.locals !=env.globals))=false:=by rfl)
 (hs:swapsWith value (some<|.Name (Str.ofString x) p) pos.line env=pure false:=by rfl):WF D k st (exec (.Assign [.Name (Str.ofString x) p] value pos) env) Q:=λA I s hA R=>by
 show wpAny_Assign_Name (pon (h A I s hA R) λv s1 I1 m st1 e1 R1 V1 z=>?_) hs;obtain⟨ρ,r,hf,h1⟩:=z;show pon (oJ (D:=D) (k:=k) (Q:=λO st=>Q .next st) hf h1 hl hp A I1 s1 [v] hA R1<|.cons V1 .nil) λu s2 I2 O st2 e2 R2 O h2=>?_;show⟨I2,_,st2,e1.trans e2,R2,.next,h2⟩
theorem ly{x:String}{m:MV}{m₀:Option MV}{c:Addr}{Q:Unit->Kk->Prop}(hc:env.cells.lookup (Str.ofString x)=some c)(hm:st.m (.inl c)=some (.c m₀))(h:Q ()<|st.set (.inl c)<|.c<|some m)
 (hl:env.kindOf (Str.ofString x)=some .cell)(hk:env.scope.kind=.function):
 OP D TU k st [m] (λvs=>storeName env (Str.ofString x)<|vs.getD 0 .none) Q:=λA I s vs hA R V=>by
 obtain⟨O,O,O,o,v0,hv,hd,V0⟩:=R.find hm 4.;show VRs.kc V λv O V1 V2=>?_;show wpAny_storeName_cell hk hl hc ⟨o,hv,hd⟩<|λh' ⟨o',ho',hd'⟩ hb'=>?_;show⟨I,(),_,Sub.refl I,R.put (y:=.c<|some m) hm 4. ho' (λb hbne=>hb'.2 b hbne) λO=>⟨o',some v,ho',hd',V1⟩,trivial,h⟩
abbrev lz(c:Addr)(Q:MF->Kk->Prop)(m:MV)(st1:Kk):Prop:= ∃m₀,st1.m (.inl c)=some (.c m₀)/\Q .next (st1.set (.inl c)<|.c<|some m)
theorem qT{x:String}{p value pos}{c:Addr}{Q:MF->Kk->Prop}(hc:env.cells.lookup (Str.ofString x)=some c)(h:WV D k st (eval value env)<|lz c Q)
 (hl:env.kindOf (Str.ofString x)=some .cell:=by kernel_rfl)(hk:env.scope.kind=.function:=by rfl)
 (hs:swapsWith value (some<|.Name (Str.ofString x) p) pos.line env=pure false:=by rfl):WF D k st (exec (.Assign [.Name (Str.ofString x) p] value pos) env) Q:=λA I s hA R=>by
 show wpAny_Assign_Name (pon (h A I s hA R) λv s1 I1 m st1 e1 R1 V1 z=>?_) hs;obtain⟨m₀,hf,h1⟩:=z;show pon (ly (D:=D) (k:=k) (Q:=λO st=>Q .next st) hc hf h1 hl hk A I1 s1 [v] hA R1<|.cons V1 .nil) λu s2 I2 O st2 e2 R2 O h2=>?_;show⟨I2,_,st2,e1.trans e2,R2,.next,h2⟩
abbrev oQ(env:Env)(x:String)(Q:MF->Kk->Prop)(r:MV)(st2:Kk):Prop:= ∃ρ t,st2.fr=(env.locals,ρ)::t/\Q .next (st2.loc<|pt x r ρ)
abbrev oR(D:Wd)(k:Nat)(env:Env)(x:String)(op:Operator)(m:MV)(Q:MF->Kk->Prop)(b:MV)(st1:Kk):Prop:=OP D VR k st1 [m,b] (λvs=>inplaceOp op (vs.getD 0 .none)<|vs.getD 1 .none)<|oQ env x Q
theorem u8{x:String}{p op value pos}{ρ:List<|String×MV}{r:List<|Addr×List (String×MV)}{m:MV}{Q:MF->Kk->Prop}(hf:st.fr=(env.locals,ρ)::r)(hx:lk x ρ=some m)
 (h:WV D k st (eval value env)<|oR D k env x op m Q)
 (hl:env.kindOf (Str.ofString x)=some .local:=by kernel_rfl)(hk:env.scope.kind=.function:=by rfl)(hp:(env.scope.kind==.class||(env.scope.kind==.module&&env.locals !=env.globals))=false:=by rfl):
 WF D k st (exec (.AugAssign (.Name (Str.ofString x) p) op value pos) env) Q:=λA I s hA R=>by
 obtain⟨ow,R'⟩:=R.own;have F:=R'.fr;rw[hf]at F;obtain⟨O,⟨mm,hn,hs⟩,O⟩:=F;obtain⟨v0,hv0,V0⟩:=hs x m hx;show wpAny_AugAssign_Name<|wpAny_loadName_local hk hl hn hv0<|pon (h A I s hA R) λv s1 I1 b st1 e1 R1 V1 h1=>?_;show pon (h1 A I1 s1 [v0,v] hA R1<|.cons (V0.mono e1)<|.cons V1 .nil) λu s2 I2 r st2 e2 R2 V2 z=>?_;obtain⟨ρ',r',hf',h2⟩:=z;show pon (oJ (D:=D) (k:=k) (Q:=λO st=>Q .next st) hf' h2 hl hp A I2 s2 [u] hA R2<|.cons V2 .nil) λO s3 I₃ O st3 e3 R3 O h3=>?_;show⟨I₃,_,st3,(e1.trans e2).trans e3,R3,.next,h3⟩
abbrev lA(Q:MF->Kk->Prop)(_:Unit)(st3:Kk):Prop:=Q .next st3
abbrev lB(D:Wd)(k:Nat)(x:String)(Q:MF->Kk->Prop)(m:MV)(a:MV)(st2:Kk):Prop:=OP D TU k st2 [a,m] (λvs=>setAttr (vs.getD 0 .none) (Str.ofString x)<|vs.getD 1 .none)<|lA Q
abbrev lC(D:Wd)(k:Nat)(env:Env)(o:Expr)(x:String)(Q:MF->Kk->Prop)(m:MV)(st1:Kk):Prop:=WV D k st1 (eval o env)<|lB D k x Q m
theorem aB{o:Expr}{x:String}{p value pos}{Q:MF->Kk->Prop}(h:WV D k st (eval value env)<|lC D k env o x Q)
 (hs:swapsWith value (some<|.Attribute o (Str.ofString x) p) pos.line env=pure false:=by rfl):WF D k st (exec (.Assign [.Attribute o (Str.ofString x) p] value pos) env) Q:=λA I s hA R=>by
 show plainObj_wpAny_Assign_Attribute (pon (h A I s hA R) λv s1 I1 m st1 e1 R1 V1 h1=>?_) hs;show pon (h1 A I1 s1 hA R1) λu s2 I2 a st2 e2 R2 V2 h2=>?_;show pon (h2 A I2 s2 [u,v] hA R2<|.cons V2<|.cons (V1.mono e2) .nil) λO s3 I₃ O st3 e3 R3 O h3=>?_;show⟨I₃,_,st3,(e1.trans e2).trans e3,R3,.next,h3⟩
abbrev mP(Q:MF->Kk->Prop)(_:Unit)(st4:Kk):Prop:=Q .next st4
abbrev mQ(D:Wd)(k:Nat)(Q:MF->Kk->Prop)(m:MV)(a:MV)(j:MV)(st3:Kk):Prop:=OP D TU k st3 [a,j,m] (λvs=>setItem (vs.getD 0 .none) (vs.getD 1 .none)<|vs.getD 2 .none)<|mP Q
abbrev mR(D:Wd)(k:Nat)(env:Env)(i:Expr)(Q:MF->Kk->Prop)(m:MV)(a:MV)(st2:Kk):Prop:=WV D k st2 (eval i env)<|mQ D k Q m a
abbrev mS(D:Wd)(k:Nat)(env:Env)(o:Expr)(i:Expr)(Q:MF->Kk->Prop)(m:MV)(st1:Kk):Prop:=WV D k st1 (eval o env)<|mR D k env i Q m
theorem aZ{o i:Expr}{p value pos}{Q:MF->Kk->Prop}(h:WV D k st (eval value env)<|mS D k env o i Q)
 (hs:swapsWith value (some<|.Subscript o i p) pos.line env=pure false:=by rfl):WF D k st (exec (.Assign [.Subscript o i p] value pos) env) Q:=λA I s hA R=>by
 show wpAny_Assign_Subscript (pon (h A I s hA R) λv s1 I1 m st1 e1 R1 V1 h1=>?_) hs;show pon (h1 A I1 s1 hA R1) λu s2 I2 a st2 e2 R2 V2 h2=>?_;show pon (h2 A I2 s2 hA R2) λt s3 I₃ j st3 e3 R3 V3 h3=>?_;show pon (h3 A I₃ s3 [u,t,v] hA R3<|.cons (V2.mono e3)<|.cons V3<|.cons ((V1.mono e2).mono e3) .nil) λO s4 I4 O st4 e4 R4 O h4=>?_;show⟨I4,_,st4,((e1.trans e2).trans e3).trans e4,R4,.next,h4⟩
end
inductive StpP(D:Wd)(st:Kk)(Z:Nat->List (Addr×Obj)->Imm->Prop)(m:MV)(i:Nat)(I:Imm)(v:Value)(u:Unit)(s'':Shared):Prop
 |mk (I':Imm) (rs':List<|Addr×Obj) (e:Sub I I') (hz:Z i rs' I') (V:VR I' m v) (R:Ko D I' (st.pushRs rs') s''):StpP D st Z m i I v u s''
structure Iter(D:Wd)(itv:Value)(tgt:Expr)(n:Nat)(item:Nat->MV)(src:Kk->Prop)(Z:Nat->List (Addr×Obj)->Imm->Prop):Prop where
 mono: ∀i rs I J,Z i rs I->Sub I J->Z i rs J
 step: ∀(i:Nat) (A:Around) (I:Imm) (s:Shared) (st:Kk) (rs:List<|Addr×Obj),i<n->A.handled=none->src st->Z i rs I->Ko D I (st.pushRs rs) s->
  wpAny (model D.prog D.w) A (pyNext itv) (λr s'=> ∃v,r=some v/\wpAny (model D.prog D.w) A (letOwnedTupleGo tgt itv v) (StpP D st Z (item i) (i+1) I v) (λO O=>False) s') (λO O=>False) s
 stop: ∀(A:Around) (I:Imm) (s:Shared) (st:Kk) (rs:List<|Addr×Obj),A.handled=none->src st->Z n rs I->Ko D I (st.pushRs rs) s->
  wpAny (model D.prog D.w) A (pyNext itv) (λr s'=>r=none/\Ko D I st s') (λO O=>False) s
 self: ∀(i:Nat) (A:Around) (I:Imm) (s:Shared) (st:Kk) (rs:List<|Addr×Obj) (Q:Value->Shared->Prop) (E:Value->Shared->Prop),Z i rs I->Ko D I (st.pushRs rs) s->Q itv s->wpAny (model D.prog D.w) A (pyIter itv) Q E s
theorem Iter.go{D:Wd}{itv:Value}{tgt:Expr}{n:Nat}{item:Nat->MV}{src:Kk->Prop}{Z:Nat->List (Addr×Obj)->Imm->Prop}(hI:Iter D itv tgt n item src Z){i:Nat}{A:Around}{I:Imm}{s:Shared}{st:Kk}{rs:List<|Addr×Obj}{Qx:Option Value->Shared->Prop}{E:Value->Shared->Prop}
 (hlt:i<n)(hA:A.handled=none)(hs:src st)(hz:Z i rs I)(R:Ko D I (st.pushRs rs) s)(k: ∀v s3,wpAny (model D.prog D.w) A (letOwnedTupleGo tgt itv v) (StpP D st Z (item i) (i+1) I v) (λO O=>False) s3->Qx (some v) s3):wpAny (model D.prog D.w) A (pyNext itv) Qx E s:=
 wpAny_mono (hI.step i A I s st rs hlt hA hs hz R) (λO O ⟨_,e,h⟩=>e▸k _ _ h) λO O x=>x.elim
theorem Iter.halt{D:Wd}{itv:Value}{tgt:Expr}{n:Nat}{item:Nat->MV}{src:Kk->Prop}{Z:Nat->List (Addr×Obj)->Imm->Prop}(hI:Iter D itv tgt n item src Z){A:Around}{I:Imm}{s:Shared}{st:Kk}{rs:List<|Addr×Obj}{Qx:Option Value->Shared->Prop}{E:Value->Shared->Prop}
 (hA:A.handled=none)(hs:src st)(hz:Z n rs I)(R:Ko D I (st.pushRs rs) s)(k: ∀s3,Ko D I st s3->Qx none s3):wpAny (model D.prog D.w) A (pyNext itv) Qx E s:=
 wpAny_mono (hI.stop A I s st rs hA hs hz R) (λO O ⟨e,h⟩=>e▸k _ h) λO O x=>x.elim
theorem son{D:Wd}{st:Kk}{Z:Nat->List (Addr×Obj)->Imm->Prop}{m:MV}{i:Nat}{I:Imm}{v:Value}{t:Sem Unit}{A:Around}{s:Shared}{Qx:Unit->Shared->Prop}{E:Value->Shared->Prop}(h:wpAny (model D.prog D.w) A t (StpP D st Z m i I v) (λO O=>False) s)
 (k: ∀u s4 I4 rs4,Sub I I4->Z i rs4 I4->VR I4 m v->Ko D I4 (st.pushRs rs4) s4->Qx u s4):wpAny (model D.prog D.w) A t Qx E s:=
 wpAny_mono h (λO O ⟨_,_,a,b,c,d⟩=>k _ _ _ _ a b c d) λO O x=>x.elim
inductive ItsP(D:Wd)(tgt:Expr)(base:Kk)(src:Kk->Prop)(n:Nat)(item:Nat->MV)(I:Imm)(itv:Value)(s':Shared):Prop
 |mk (Z:Nat->List (Addr×Obj)->Imm->Prop) (rs:List<|Addr×Obj) (I':Imm) (e:Sub I I') (hI:Iter D itv tgt n item src Z) (hz:Z 0 rs I') (R:Ko D I' (base.pushRs rs) s'):ItsP D tgt base src n item I itv s'
def u9(D:Wd)(st:Kk)(m:MV)(tgt:Expr)(base:Kk)(src:Kk->Prop)(n:Nat)(item:Nat->MV):Prop:=
 ∀(A:Around) (I:Imm) (s:Shared) (v:Value),A.handled=none->Ko D I st s->VR I m v->
  wpAny (model D.prog D.w) A (pyIter v) (ItsP D tgt base src n item I) (λO O=>False) s
theorem lj{M:Model}{A:Around}{E:Value->Shared->Prop}{s:Shared}{Q:Unit->Shared->Prop}{tgt:Expr}{it:Addr}{v:Value}{o:Obj}{nm:String}{vs:Array Value}(ho:s.heap.get? it=some o)(hc:o.cls=.type nm)(hd:o.data=.fields vs)
 (hn:(["enumerate","zip","dict_itemiterator","dict_reverseitemiterator","odict_iterator","itertools.zip_longest","itertools.pairwise"]:List String).contains nm=false)(h:Q () s):
 wpAny M A (letOwnedTupleGo tgt (.ref it) v) Q E s:=by
 unfold letOwnedTupleGo;cases tgt<;>first
  |show Kb h
  |(cases v<;>first
   |show Kb h
   |(show J8<|wpAny_load ho ?_;rw[hc,hd];simp only[hn,Bool.false_and,Bool.false_eq_true,if_false];show Kb h))
section
variable{D:Wd}{k:Nat}{st:Kk}{I J:Imm}{env:Env}
theorem Rel.stepR{hb:Heap}{o₀:OsState}{P:Params}{s:Shared}{h':Heap}{it:Addr}{o o':Obj}{t:Nat}(R:Rel hb o₀ P I (st.pushRs [(it,o)]) s)(e:Heap.SameBut it s.heap h')(ho:h'.get? it=some o'):Rel hb o₀ P I (st.pushRs [(it,o')]) {s with heap:=h',toks:=t}:=
 R.putRs (Sub.refl I) 4. (λO O e=>.inl e) (λb o n q=>(e.2 b<|n _<|.head _).trans q) 4. λp hp=>by
  cases hp with
  |head=>show ho
  |tail _ h=>cases h
theorem Rel.endR{hb:Heap}{o₀:OsState}{P:Params}{s:Shared}{h':Heap}{it:Addr}{o:Obj}{t:Nat}(R:Rel hb o₀ P I (st.pushRs [(it,o)]) s)(e:Heap.ExtBut it s.heap h'):Rel hb o₀ P I st {s with heap:=h',toks:=t}:=
 R.endRs λb o n q=>e b o (n _<|.head _) q
theorem wx{it l:Addr}{nm:Nm}{ms:List MV}{tgt:Expr}:Iter D (.ref it) tgt ms.length (λi=>ms.getD i .none) (λst=>st.m nm=some (.l ms))
 (λi rs I=>I.at nm=some l/\ ∃o,rs=[(it,o)]/\o.cls=.type "list_iterator"/\o.data=.fields #[.ref l,.int i 0]) where
 mono:=λi rs I J ⟨h,r⟩ s=>⟨s.at h,r⟩
 step:=by
  rintro i A I s st rs hi hh hs ⟨hl,o,rfl,hc,hd⟩ R;have ho:=R.rawAt (p:=(it,o))<|.head _;obtain⟨vs,n,hg,V⟩:=R.fl hs hl;have V':=V;have hlen:vs.toList.length=ms.length:=V.length;obtain⟨x,hx,Vx⟩:=V.get (k:=i) (m:=ms.getD i .none) (by rw[J7,J6 hi];rfl);show wpAny_pyNext_list_item (i:=i) (items:=vs) (x:=x) ⟨o,ho,hc,hd⟩ ⟨_,hg,4.,n,4.⟩ (by simpa using hx) λh' ⟨o',ho',hc',hd'⟩ hb'=>⟨x,4.,lj ho' hc' hd' 1. ?_⟩;show⟨I,[(it,o')],Sub.refl I,⟨hl,o',4.,hc',hd'⟩,Vx,R.stepR (t:=s.toks) hb' ho'⟩
 stop:=by
  rintro A I s st rs hh hs ⟨hl,o,rfl,hc,hd⟩ R;have ho:=R.rawAt (p:=(it,o))<|.head _;obtain⟨vs,n,hg,V⟩:=R.fl hs hl;have hlen:vs.toList.length=ms.length:=V.length;show wpAny_pyNext_list_end hh ⟨o,ho,hc,hd⟩ ⟨_,hg,4.,n,4.⟩ (Array.getElem?_eq_none (by rw[<-hlen];simp)) λh' hb'=>⟨4.,R.endR (t:=s.toks) hb'⟩
 self:=by
  rintro i A I s st rs Q E ⟨hl,o,rfl,hc,hd⟩ R h;show wpAny_pyIter_listiter ⟨o,R.rawAt (p:=(it,o))<|.head _,hc,hd⟩ h
theorem dU{nm:Nm}{ms:List MV}{tgt:Expr}(hs:st.m nm=some (.l ms)):u9 D st (.ref nm) tgt st (λst=>st.m nm=some (.l ms)) ms.length λi=>ms.getD i .none:=by
 rintro A I s v hh R V;show VR.kr V λl hl=>?_;obtain⟨vs,n,hg,V⟩:=R.fl hs hl;show wpAny_pyIter_list ⟨_,hg,4.,n,4.⟩ ?_;show⟨_,[(s.heap.objs.size,{cls:=.type "list_iterator",data:=.fields #[.ref l,.int 0 0]})],I,Sub.refl I,wx (l:=l),⟨hl,_,4.,4.,4.⟩,?_⟩;show R.newR (t:=s.toks) (λb o q=>Kg _ q)<|Heap.get?_push_size _ 4.
theorem va{it l:Addr}{vs:List Value}{ms:List MV}{c:Nat}{tgt:Expr}:Iter D (.ref it) tgt ms.length (λi=>ms.getD i .none) (λO=>True)
 (λi rs I=>(I.im l=some {cls:=.type "tuple",data:=.seq vs.toArray c}/\VRs I ms vs)/\ ∃o,rs=[(it,o)]/\o.cls=.type "tuple_iterator"/\o.data=.fields #[.ref l,.int i 0]) where
 mono:=λi rs I J ⟨⟨h,k⟩,r⟩ s=>⟨⟨s.im _ _ h,k.mono s⟩,r⟩
 step:=by
  rintro i A I s st rs hi hh hs ⟨⟨hl,V⟩,o,rfl,hc,hd⟩ R;have ho:=R.rawAt (p:=(it,o))<|.head _;have hg:=R.keep _ _ hl;obtain⟨x,hx,Vx⟩:=V.get (k:=i) (m:=ms.getD i .none) (by rw[J7,J6 hi];rfl);show wpAny_pyNext_tuple_item (i:=i) (items:=vs.toArray) (x:=x) ⟨o,ho,hc,hd⟩ ⟨_,hg,4.,c,4.⟩ (by simpa using hx) λh' ⟨o',ho',hc',hd'⟩ hb'=>⟨x,4.,lj ho' hc' hd' 1. ?_⟩;show⟨I,[(it,o')],Sub.refl I,⟨⟨hl,V⟩,o',4.,hc',hd'⟩,Vx,R.stepR (t:=s.toks) hb' ho'⟩
 stop:=by
  rintro A I s st rs hh hs ⟨⟨hl,V⟩,o,rfl,hc,hd⟩ R;have ho:=R.rawAt (p:=(it,o))<|.head _;have hlen:=V.length;show wpAny_pyNext_tuple_end hh ⟨o,ho,hc,hd⟩ ⟨_,R.keep _ _ hl,4.,c,4.⟩ (Array.getElem?_eq_none (by rw[<-hlen];simp)) λh' hb'=>⟨4.,R.endR (t:=s.toks) hb'⟩
 self:=by
  rintro i A I s st rs Q E ⟨O,o,rfl,hc,hd⟩ R h;show wpAny_pyIter_tupleiter ⟨o,R.rawAt (p:=(it,o))<|.head _,hc,hd⟩ h
theorem ev{ms:List MV}{tgt:Expr}:u9 D st (.tup ms) tgt st (λO=>True) ms.length λi=>ms.getD i .none:=by
 rintro A I s v hh R V;show VR.kt V λl n vs hl U=>?_;show wpAny_pyIter_tuple ⟨_,R.keep _ _ hl,4.,n,4.⟩ ?_;show⟨_,[(s.heap.objs.size,{cls:=.type "tuple_iterator",data:=.fields #[.ref l,.int 0 0]})],I,Sub.refl I,va (l:=l) (vs:=vs) (c:=n),⟨⟨hl,U⟩,_,4.,4.,4.⟩,?_⟩;show R.newR (t:=s.toks) (λb o q=>Kg _ q)<|Heap.get?_push_size _ 4.
theorem vb{it:Addr}{a b:Int}{n:Nat}(hn:b-a=n){tgt:Expr}:Iter D (.ref it) tgt n (λi=>.int<|a+i) (λO=>True)
 (λi rs I=>rs=[(it,{cls:=.type "range_iterator",dict:=none,data:=.fields #[rawInt<|a+i,rawInt<|(n:Int)-i,rawInt 1],slots:=#[]})]) where
 mono:=λi rs I J h s=>h
 step:=by
  rintro i A I s st rs hi hh hs rfl R;have ho:=R.rawAt<|.head _;show wpAny_pyNext_range_item (x:=a+i) (left:=(n:Int)-i) (step:=1) ho 3. λh' hit' hb'=>⟨.int (a+i) s.toks,4.,lj hit' 4. 4. 1. ?_⟩;show⟨I,_,Sub.refl I,4.,.int _ _,R.stepR (t:=s.toks+1) hb' ?_⟩;rw[show a+((i+1:Nat):Int)=a+i+1 by omega,show(n:Int)-((i+1:Nat):Int)=n-i-1 by omega];show hit'
 stop:=by
  rintro A I s st rs hh hs rfl R;have ho:=R.rawAt<|.head _;show wpAny_pyNext_range_end hh ho 3. λh' hb'=>⟨4.,R.endR (t:=s.toks) hb'⟩
 self:=by
  rintro i A I s st rs Q E rfl R h;show wpAny_pyIter_rangeiter (R.rawAt<|.head _) h
theorem vc{a b:Int}{n:Nat}(hn:b-a=n):Builtin.Range.rangeSize a b 1=n:=by
 unfold Builtin.Range.rangeSize;simp;omega
theorem bt{a b:Int}{n:Nat}(hn:b-a=n)(ha:0<=a)(hb:b<2^60){tgt:Expr}:u9 D st (.rng a b) tgt st (λO=>True) n λi=>.int<|a+i:=by
 rintro A I s v hh R V;show VR.kg V λr t u w hr=>?_;have z:=vc hn;show wpAny_pyIter_range (R.keep _ _ hr) ?_ ?_
 ·unfold Builtin.Range.small Builtin.Range.rangeFitsLong;rw[z];simp;show G5 ‹_› ‹_› ‹_›
 ·rw[z];show⟨_,[(s.heap.objs.size,_)],I,Sub.refl I,vb hn,4.,?_⟩;show R.newR (t:=s.toks) (λb o q=>Kg _ q) ?_;rw[Heap.get?_push_size _ 4.];simp
end
section
open PySem.AutoSeq1 (wpAny_loadPart')
section
variable{prog:Program}{w:World}{A:Around}{E:Value->Shared->Prop}{s:Shared}
theorem jt{it t:Addr}{i:Nat}{items}{x:Value}{Q:Value->Shared->Prop}(hit:s.heap.IsTupleIter it t i)(ht:s.heap.IsTuple t items)(hx:items[i]? =some x)
 (hQ: ∀h',h'.IsTupleIter it t (i+1)->Heap.SameBut it s.heap h'->Q x {s with heap:=h'}):wpAny (model prog w) A (Builtin.SmallTypes.nextOf<|.ref it) Q E s:=by
 obtain⟨o,ho,hc,hd⟩:=id hit;obtain⟨ol,hol,O,nl,hdl⟩:=ht;unfold Builtin.SmallTypes.nextOf;show J8<|wpAny_callSpecial?_slot (name:=-"__next__") hit.typeIs F.slot_tuple_iterator_next
  (wpAny_call_entry F.slot_tuple_iterator_next hit.typeIs F.entry_tuple_iterator_next ?_<|F.args_tuple_iterator_next_1 _)
 change wpAny _ _ (field (.ref it) 0>>=_) _ _ s;show J8<|wpAny_field ho hd (x:=.ref t) 4. ?_;change wpAny _ _ (if(Value.ref t==Value.none)=true then _ else _) _ _ s;rw[if_neg (show¬((Value.ref t==Value.none)=true)from Bool.false_ne_true)];change wpAny _ _ (field (.ref it) 1>>=_) _ _ s;show J8<|wpAny_field ho hd (x:=.int i 0) 4. ?_;change wpAny _ _ (seqItems? (.ref t)>>=_) _ _ s;show J8<|wpAny_seqItems hol hdl ?_;simp only[Int.toNat_natCast,hx];show J8<|wpAny_setField ho hd (by simp)<|Kb ⟨x,4.,Kb<|hQ _ ?_<|Heap.SameBut.update ..⟩;show⟨_,Heap.get?_update_self _ ho<|Obj.isFreed_of_fields<|Obj.data_mapFields hd _,(Obj.cls_mapFields ..).trans hc,by
  rw[Obj.data_mapFields hd];simp[rawInt]⟩
theorem kH{it t:Addr}{i:Nat}{items}{Q:Value->Shared->Prop}(hh:A.handled=none)(hit:s.heap.IsTupleIter it t i)(ht:s.heap.IsTuple t items)(hx:items[i]? =none)
 (hE: ∀h' e,Heap.ExtBut it s.heap h'->(∃o,h'.get? e=some o/\o.cls=.type "StopIteration")->E (.ref e) {s with heap:=h'}):wpAny (model prog w) A (Builtin.SmallTypes.nextOf<|.ref it) Q E s:=by
 obtain⟨o,ho,hc,hd⟩:=id hit;obtain⟨ol,hol,O,nl,hdl⟩:=ht;unfold Builtin.SmallTypes.nextOf;show J8<|wpAny_callSpecial?_slot (name:=-"__next__") hit.typeIs F.slot_tuple_iterator_next
  (wpAny_call_entry F.slot_tuple_iterator_next hit.typeIs F.entry_tuple_iterator_next ?_<|F.args_tuple_iterator_next_1 _)
 change wpAny _ _ (field (.ref it) 0>>=_) _ _ s;show J8<|wpAny_field ho hd (x:=.ref t) 4. ?_;change wpAny _ _ (if(Value.ref t==Value.none)=true then _ else _) _ _ s;rw[if_neg (show¬((Value.ref t==Value.none)=true)from Bool.false_ne_true)];change wpAny _ _ (field (.ref it) 1>>=_) _ _ s;show J8<|wpAny_field ho hd (x:=.int i 0) 4. ?_;change wpAny _ _ (seqItems? (.ref t)>>=_) _ _ s;show J8<|wpAny_seqItems hol hdl ?_;simp only[Int.toNat_natCast,hx];show J8<|wpAny_rule<|J8<|wpAny_setField ho hd (by simp) ?_;change wpAny _ _ (newExc (.type "StopIteration") []>>=_) _ _ _;show J8 ?_;simp only[newExc,newTuple];show J8<|wpAny_newObj_type ?_ (by size_fits);show J8 (m:=firstArgMember _ _)<|wpAny_of_eq (a:=Value.none) (by first|rfl|(simp only[firstArgMember];rfl)) ?_;show wpAny_newObj_type ?_ (by size_fits);unfold raiseNew;dsimp only;show J8<|wpAny_handled ?_;first|rw[show A.in1.handled=none from hh]|rw[hh]
 show J8<|Kb<|wpAny_throw ?_;show hE _ _ (((Heap.SameBut.update ..).extBut.push _).push _) ⟨_,Heap.get?_push_size _ 4.,4.⟩
theorem B3{h h':Heap}{a items}(x:h.IsTuple a items)(e: ∀o,h.get? a=some o->h'.get? a=some o):h'.IsTuple a items:=let⟨o,ho,r⟩:=x;⟨o,e _ ho,r⟩
theorem vd{h h':Heap}{a t:Addr}{i:Nat}(x:h.IsTupleIter a t i)(e: ∀o,h.get? a=some o->h'.get? a=some o):h'.IsTupleIter a t i:=let⟨o,ho,r⟩:=x;⟨o,e _ ho,r⟩
theorem sN(hh:A.handled=none)(it t:Addr)(hne:t≠it)(items:Array Value):
 Draws prog w A it [it,t] items.size (λi v=>items[i]? =some v)<|λi h=>h.IsTupleIter it t i/\h.IsTuple t items where
 live:=λO O st=>let⟨o,ho,_⟩:=st.1;⟨o,ho⟩
 frame:=λO O O st hk=>⟨vd st.1 λo e=>hk it (by simp) o e,B3 st.2 λo e=>hk t (by simp) o e⟩
 item:=λi s Q E hi st hQ=>by
  show jt st.1 st.2 (x:=items[i]) (by simp[hi]) λh' hit' hs'=>?_;show hQ _ h' s.toks (by simp[hi]) ⟨hit',st.2.extBut hs'.extBut hne⟩ hs'
 done:=λs Q E st hE=>kH hh st.1 st.2 (by simp) hE
end
theorem wy{M:Model}{A:Around}{s:Shared}{g:List (Code×Pos)->Bool}{K:Bool->Shared->Prop}{E F:Value->Shared->Prop}(h: ∀b,K b s):wpAny M A stack (λst s=>wpAny M A (pure<|g st) K E s) F s:=wpAny_stack_any λO=>Kb<|h _
theorem g5(l:Addr)(items:Array Value)(n:Nat):
 Meets (Builtin.«enumerate.__new__» ⟨[.type "enumerate",.ref l],[]⟩)<|λO R s=>s.heap.get? l=some {cls:=.type "tuple",dict:=none,data:=.seq items n,slots:=#[]}/\
  R (.ok<|.ret<|.ref (s.heap.push {cls:=.type "tuple_iterator",data:=.fields #[.ref l,.int 0 0]}).objs.size)
   {s with heap:=(s.heap.push {cls:=.type "tuple_iterator",data:=.fields #[.ref l,.int 0 0]}).push {cls:=.type "enumerate",data:=.fields #[.none,.bool false,.ref s.heap.objs.size,rawInt 0,.none,.none]}}:=
 .of_wp λprog w A R s h=>by
  obtain⟨hp,g,d,tk,os⟩:=s;obtain⟨hl,h⟩:=h;have hsub:=sub_enumerate;have hL:Heap.IsTuple (Shared.heap ⟨hp,g,d,tk,os⟩) l items:=⟨_,hl,4.,n,4.⟩
  wp_walk using wpAny_loadPart' hl
  show wy λc=>?_;cases c<;>(wp_walk using wpAny_loadPart' hl,wpAny_pyIter_tuple hL;show⟨_,4.,h⟩)
theorem g6{prog:Program}{w:World}{A:Around}{E:Value->Shared->Prop}{s:Shared}{l:Addr}{items:Array Value}{n:Nat}{Q:Value->Shared->Prop}
 (hl:s.heap.get? l=some {cls:=.type "tuple",dict:=none,data:=.seq items n,slots:=#[]})
 (h: ∀h',IsEnum h' (s.heap.objs.size+1) s.heap.objs.size 0 .none->h'.IsTupleIter s.heap.objs.size l 0->h'.objs.size=s.heap.objs.size+2->
  (∀b o,s.heap.get? b=some o->h'.get? b=some o)->Q (.ref<|s.heap.objs.size+1) {s with heap:=h'}):
 wpAny (model prog w) A (call (.type "enumerate") [.ref l]) Q E s:=by
 show callType_new F.called_enumerate 1. (F.typeCall_enumerate_1 _) (F.newCall_enumerate_1 _) (λobj=>F.args_object_init_2 obj _) F.entry_enumerate_new
  (g5 l items n) ⟨hl,?_⟩
 have hz:(s.heap.push {cls:=.type "tuple_iterator",data:=.fields #[.ref l,.int 0 0]}).objs.size=s.heap.objs.size+1:=Heap.size_push ..;change _/\_;rw[hz];have he:IsEnum ((s.heap.push {cls:=.type "tuple_iterator",data:=.fields #[.ref l,.int 0 0]}).push
  {cls:=.type "enumerate",data:=.fields #[.none,.bool false,.ref s.heap.objs.size,rawInt 0,.none,.none]}) (s.heap.objs.size+1) s.heap.objs.size 0 .none:=by
  have:=Heap.get?_push_size (s.heap.push {cls:=.type "tuple_iterator",data:=.fields #[.ref l,.int 0 0]})
   (o:={cls:=.type "enumerate",data:=.fields #[.none,.bool false,.ref s.heap.objs.size,rawInt 0,.none,.none]}) 4.
  rw[hz]at this;show this
 show⟨⟨_,he,4.⟩,h _ he ⟨_,Kg _<|Heap.get?_push_size _ 4.,4.,4.⟩ (by rw[Heap.size_push,hz]) λb o x=>Kg _<|Kg _ x⟩
section
variable{D:Wd}{k:Nat}{st:Kk}{I J:Imm}{env:Env}
noncomputable def sO(it:Addr)(i:Int)(old:Value):Obj:={cls:=.type "enumerate",dict:=none,data:=.fields #[.none,.bool false,.ref it,rawInt i,.none,old],slots:=#[]}
theorem qU{e it:Addr}{ms:List MV}{elts:List Expr}{c:Nat}{pos:Pos}{src:Kk->Prop}(hne:e≠it)(ZI:Nat->Obj->Imm->Prop)(hm: ∀i o I J,ZI i o I->Sub I J->ZI i o J)
 (hd: ∀(i:Nat) (A:Around) (I:Imm) (s:Shared) (st:Kk) (oe oi:Obj),A.handled=none->src st->ZI i oi I->Ko D I (st.pushRs [(e,oe),(it,oi)]) s->
  ∃fp P St,Draws D.prog D.w A.in1 it fp ms.length P St/\e∉fp/\St i s.heap/\(i<ms.length-> ∀x,P i x->VR I (ms.getD i .none) x)/\(∀h h':Heap,St (i+1) h->(∀b o,b≠e->h.get? b=some o->h'.get? b=some o)-> ∃oi',h'.get? it=some oi'/\ZI (i+1) oi' I)):
 Iter D (.ref e) (.Tuple elts c pos) ms.length (λi=>.tup [.int i,ms.getD i .none]) src
  (λi rs I=> ∃oi old,rs=[(e,sO it i old),(it,oi)]/\ZI i oi I) where
 mono:=by rintro i rs I J ⟨oi,old,e,h⟩ s;show⟨oi,old,e,hm _ _ _ _ h s⟩
 step:=by
  rintro i A I s st rs hi hh hs ⟨oi,old,rfl,hz⟩ R;obtain⟨fp,P,St,Dr,hef,hst,hP,hSt⟩:=hd i A I s st _ oi hh hs hz R;have he:IsEnum s.heap e it i old:=R.rawAt<|.head _;show wpAny_pyNext_enum_itemD Dr he hst hi hne hef λx h' tk hPx hout hst' hT hsz hk=>⟨.ref s.heap.objs.size,4.,?_⟩;show wpAny_letOwnedTupleGo_enum hout λh'' he'' hs''=>?_;replace hs'':Heap.SameBut e h' h'':=hs'';obtain⟨oi',hoi',hz'⟩:=hSt h' h'' hst' λb o hb q=>(hs''.2 b hb).trans q;have heT:s.heap.objs.size≠e:=Nat.ne_of_gt<|Heap.lt_size he;have hT':h''.get? s.heap.objs.size=some {cls:=.type "tuple",data:=.seq #[.int i tk,x]}:=(hs''.2 _ heT).trans hT;have sub:=Imm.put_sub (I:=I) {cls:=.type "tuple",data:=.seq #[.int i tk,x]} R.size_none;show⟨I.put s.heap.objs.size {cls:=.type "tuple",data:=.seq #[.int i tk,x]},[(e,sO it ((i+1:Nat):Int) x),(it,oi')],sub,⟨oi',x,4.,hm _ _ _ _ hz' sub⟩,?_,?_⟩
  ·show .tup (n:=0) (vs:=[.int i tk,x]) (Imm.put_self ..)<|.cons (.int _ _)<|.cons ((hP hi x hPx).mono sub) .nil
  ·show R.putRs (t:=tk+1) sub 4. (λb o q=>?_) (λb o n q=>?_) 4. λp hp=>?_
   ·change(if b=_ then _ else _)=_ at q;split at q
    ·rename_i z;subst z;cases q;show .inr ⟨Kj _,hT'⟩
    ·show .inl q
   ·have b1:b≠e:=n _<|.head _;have b2:b≠it:=n _<|.tail _<|.head _;show(hs''.2 b b1).trans<|hk b o b1 b2 q
   ·cases hp with
    |head=>show he''
    |tail _ hp=>cases hp with
     |head=>show hoi'
     |tail _ hp=>cases hp
 stop:=by
  rintro A I s st rs hh hs ⟨oi,old,rfl,hz⟩ R;obtain⟨fp,P,St,Dr,hef,hst,hP,hSt⟩:=hd ms.length A I s st _ oi hh hs hz R;have he:IsEnum s.heap e it (ms.length:Nat) old:=R.rawAt<|.head _;show wpAny_pyNext_enum_endD Dr he hst λh' hb'=>⟨4.,R.endRs (t:=s.toks) λb o n q=>hb' b o (n _<|.tail _<|.head _) q⟩
 self:=by
  rintro i A I s st rs Q E ⟨oi,old,rfl,hz⟩ R h;show wpAny_pyIter_enum (R.rawAt (p:=(e,sO it i old))<|.head _) h
theorem zI{nm:Nm}{x:Con}{l a:Addr}{rs:List<|Addr×Obj}{s:Shared}(R:Ko D I (st.pushRs rs) s)(hs:st.m nm=some x)(hl:I.at nm=some l){o:Obj}(hp:(a,o)∈rs):l≠a:=by
 rintro rfl;obtain⟨ow,R',hw,O⟩:=R.find hs hl;obtain⟨i,O,q,O⟩:=RawsR.mem R'.raw _ hp;rw[hw]at q;cases q
theorem qW{l a:Addr}{rs:List<|Addr×Obj}{s:Shared}{o':Obj}(R:Ko D I (st.pushRs rs) s)(hl:I.im l=some o'){o:Obj}(hp:(a,o)∈rs):l≠a:=by
 rintro rfl;obtain⟨ow,R'⟩:=R.own;obtain⟨i,O,q,O⟩:=RawsR.mem R'.raw _ hp;rw[(R'.free _ _ q).1]at hl;cases hl
inductive ITP(D:Wd)(tgt:Expr)(I:Imm)(Q:Kk->(Kk->Prop)->Nat->(Nat->MV)->Prop)(itv:Value)(s2:Shared):Prop
 |mk (base:Kk) (src:Kk->Prop) (n:Nat) (item:Nat->MV) (Z:Nat->List (Addr×Obj)->Imm->Prop) (rs:List<|Addr×Obj) (I':Imm) (e:Sub I I') (hI:Iter D itv tgt n item src Z) (hz:Z 0 rs I') (R:Ko D I' (base.pushRs rs) s2) (q:Q base src n item):ITP D tgt I Q itv s2
def IT(D:Wd)(k:Nat)(env:Env)(st:Kk)(iter tgt:Expr)(Q:Kk->(Kk->Prop)->Nat->(Nat->MV)->Prop):Prop:=
 ∀(A:Around) (I:Imm) (s:Shared),Room k A->Ko D I st s->wpAny (model D.prog D.w) A (eval iter env) (λx s1=>wpAny (model D.prog D.w) A (pyIter x) (ITP D tgt I Q) (λO O=>False) s1) (λO O=>False) s
def ItV(D:Wd)(tgt:Expr)(Q:Kk->(Kk->Prop)->Nat->(Nat->MV)->Prop)(m:MV)(st1:Kk):Prop:= ∃src n item,u9 D st1 m tgt st1 src n item/\Q st1 src n item
theorem itv{D:Wd}{tgt:Expr}{Q:Kk->(Kk->Prop)->Nat->(Nat->MV)->Prop}{m:MV}{st1:Kk}{src:Kk->Prop}{n:Nat}{item:Nat->MV}(hi:u9 D st1 m tgt st1 src n item)(h:Q st1 src n item):ItV D tgt Q m st1:=⟨src,n,item,hi,h⟩
theorem cb{iter tgt:Expr}{Q:Kk->(Kk->Prop)->Nat->(Nat->MV)->Prop}(h:WV D k st (eval iter env)<|ItV D tgt Q):IT D k env st iter tgt Q:=λA I s hA R=>by
 show pon (h A I s hA R) λv s1 I1 m st1 e1 R1 V1 z=>?_;obtain⟨src,n,item,h1,q⟩:=z;show wpAny_mono (h1 A I1 s1 v hA.1 R1 V1) ?_ λO O x=>x;rintro itv s2 ⟨Z,rs,I2,e2,hI,hz,R2⟩;show⟨st1,src,n,item,Z,rs,I2,e1.trans e2,hI,hz,R2,q⟩
def wz(st:Kk)(m:MV)(xs:List MV)(src:Kk->Prop):Prop:=(∃nm,m=.ref nm/\st.m nm=some (.l xs)/\src=λst=>st.m nm=some (.l xs))\/(m=.tup xs/\src=λO=>True)
def ItE(Q:Kk->(Kk->Prop)->Nat->(Nat->MV)->Prop)(ms:List MV)(st2:Kk):Prop:= ∃m xs src,ms=[m]/\wz st2 m xs src/\Q st2 src xs.length λi=>.tup [.int i,xs.getD i .none]
theorem itE{Q:Kk->(Kk->Prop)->Nat->(Nat->MV)->Prop}{m:MV}{xs:List MV}{src:Kk->Prop}{st2:Kk}(he:wz st2 m xs src)(h:Q st2 src xs.length λi=>.tup [.int i,xs.getD i .none]):ItE Q [m] st2:=⟨m,xs,src,4.,he,h⟩
theorem dW{x:Str}{p pos tpos:Pos}{arg:Expr}{elts:List Expr}{c:Nat}{Q:Kk->(Kk->Prop)->Nat->(Nat->MV)->Prop}
 (hf:WV D k st (eval (.Name x p) env) λf st1=>f=.typ "enumerate"/\WL D k st1 (spliced<|backTo pos<|starEach [arg] env) (ItE Q))
 (hs:(backTo pos<|starEach [arg] env).any (·.1)=false:=by rfl):IT D k env st (.Call (.Name x p) [arg] [] pos) (.Tuple elts c tpos) Q:=λA I s hA R=>by
 change wpAny _ _ (eval (.Name x p) env>>=λf=>callWith pos f [] (backTo pos<|starEach [arg] env) []) _ _ _;show J8<|pon (hf A I s hA R) λv s1 I1 f st1 e1 R1 V1 z=>?_;obtain⟨rfl,h1⟩:=z;show VR.ky V1 ?_;show callWith_of (P:=λh=>D.K.In h) (by rw[hs];rfl) (oK (D:=D) (I:=I1) (f:=.typ "enumerate") trivial<|.typ _)<|jX hs<|pon (h1 A I1 s1 hA R1) λus s2 I2 ms st2 e2 R2 V2 z=>?_;obtain⟨m,xs,src,rfl,hsrc,q⟩:=z;show⟨Ko.inK R2,?_⟩;show VRs.k1 V2 λO V=>?_;rcases hsrc with⟨nm,rfl,hs',rfl⟩|⟨rfl,rfl⟩
 ·show VR.kr V λl hl=>?_;obtain⟨vs,n,hg,V⟩:=R2.fl hs' hl;show call_enumerate_list ⟨_,hg,4.,n,4.⟩ λh' he ⟨oi,hoi,hc,hd⟩ hsz hk=>?_;have R3:=R2.newR2 (t:=s2.toks) hk hoi he;show wpAny_pyIter_enum he ?_;show⟨st2,_,_,_,_,_,I2,e1.trans e2,qU (Nat.succ_ne_self _) (λi o I=>I.at nm=some l/\o.cls=.type "list_iterator"/\o.data=.fields #[.ref l,.int i 0]) (λi o I J ⟨a,b⟩ s=>⟨s.at a,b⟩) ?_,⟨oi,.none,4.,hl,hc,hd⟩,R3,q⟩;rintro i A' I' s' st' oe oi' hh hsr ⟨hl',hc',hd'⟩ R';have ho':=R'.rawAt (p:=(_,oi'))<|.tail _<|.head _;obtain⟨O,O,O,vs',n',hg',V'⟩:=R'.find (show(st'.pushRs _).m nm=_ from hsr) hl';have hlen:vs'.size=xs.length:=by have:=V'.length;simpa using this
  have n1:l≠_:=zI R' hsr hl'<|.tail _<|.head _;have n2:l≠_:=zI R' hsr hl'<|.head _;show⟨_,_,_,hlen▸Draws.list (A:=A'.in1) hh s2.heap.objs.size l n1 vs',?_,⟨⟨oi',ho',hc',hd'⟩,⟨_,hg',4.,n',4.⟩⟩,λhi x hx=>?_,?_⟩
  ·simp;show λe=>n2 e.symm
  ·obtain⟨y,hy,Vy⟩:=V'.get (k:=i) (m:=xs.getD i .none) (by rw[J7,J6 hi];rfl);have:vs'[i]? =some y:=by simpa using hy
   rw[hx]at this;cases this;show Vy
  ·rintro h h'' ⟨⟨o,ho,hc,hd⟩,O⟩ e;show⟨o,e _ _ (Nat.ne_of_lt<|Nat.lt_succ_self _) ho,hl',hc,hd⟩
 ·show VR.kt V λl n vs hl U=>?_;show g6 (R2.keep _ _ hl) λh' he ⟨oi,hoi,hc,hd⟩ hsz hk=>?_;have R3:=R2.newR2 (t:=s2.toks) hk hoi he;show wpAny_pyIter_enum he ?_;show⟨st2,_,_,_,_,_,I2,e1.trans e2,qU (Nat.succ_ne_self _) (λi o I=>(I.im l=some {cls:=.type "tuple",data:=.seq vs.toArray n}/\VRs I xs vs)/\o.cls=.type "tuple_iterator"/\o.data=.fields #[.ref l,.int i 0])
   (λi o I J ⟨⟨a,a'⟩,b⟩ s=>⟨⟨s.im _ _ a,a'.mono s⟩,b⟩) ?_,⟨oi,.none,4.,⟨hl,U⟩,hc,hd⟩,R3,q⟩
  rintro i A' I' s' st' oe oi' hh hsr ⟨⟨hl',V'⟩,hc',hd'⟩ R';have ho':=R'.rawAt (p:=(_,oi'))<|.tail _<|.head _;have hlen:vs.toArray.size=xs.length:=by have:=V'.length;simpa using this
  have n1:l≠_:=qW R' hl'<|.tail _<|.head _;have n2:l≠_:=qW R' hl'<|.head _;show⟨_,_,_,hlen▸sN (A:=A'.in1) hh s2.heap.objs.size l n1 vs.toArray,?_,⟨⟨oi',ho',hc',hd'⟩,⟨_,R'.keep _ _ hl',4.,n,4.⟩⟩,λhi x hx=>?_,?_⟩
  ·simp;show λe=>n2 e.symm
  ·obtain⟨y,hy,Vy⟩:=V'.get (k:=i) (m:=xs.getD i .none) (by rw[J7,J6 hi];rfl);have:vs.toArray[i]? =some y:=by simpa using hy
   rw[hx]at this;cases this;show Vy
  ·rintro h h'' ⟨⟨o,ho,hc,hd⟩,O⟩ e;show⟨o,e _ _ (Nat.ne_of_lt<|Nat.lt_succ_self _) ho,⟨hl',V'⟩,hc,hd⟩
theorem wA{x:Str}{tgt:Expr}(ha:x.cps.all (· <128)=true):u9 D st (.str x) tgt st (λO=>True) x.cps.size λi=>.str ⟨#[x.cps.getD i 0]⟩:=by
 rintro A I s v hh R V;show VR.ks V λt=>?_;show wpAny_pyIter_ascii ha ?_;show⟨λi rs I=> ∃o,rs=[(s.heap.objs.size,o)]/\o.cls=.type "str_ascii_iterator"/\o.data=.fields #[.str x t,.int i 0],[(s.heap.objs.size,{cls:=.type "str_ascii_iterator",data:=.fields #[.str x t,.int 0 0]})],I,Sub.refl I,⟨λO O O O h O=>h,?_,?_,?_⟩,⟨_,4.,4.,4.⟩,?_⟩
 ·rintro i A I s' st rs hi hh hs ⟨o,rfl,hc,hd⟩ R;have ho:=R.rawAt (p:=(_,o))<|.head _;show wpAny_pyNext_ascii_item (c:=x.cps.getD i 0) ⟨o,ho,hc,hd⟩ (by simp[Array.getD,hi]) λh' ⟨o',ho',hc',hd'⟩ hb'=>⟨_,4.,lj ho' hc' hd' 1. ?_⟩;show⟨I,[(_,o')],Sub.refl I,⟨o',4.,hc',hd'⟩,.str _ _,R.stepR (t:=s'.toks+1) hb' ho'⟩
 ·rintro A I s' st rs hh hs ⟨o,rfl,hc,hd⟩ R;have ho:=R.rawAt (p:=(_,o))<|.head _;show wpAny_pyNext_ascii_end hh ⟨o,ho,hc,hd⟩ (by simp) λh' hb'=>⟨4.,R.endR (t:=s'.toks) hb'⟩
 ·rintro i A I s' st rs Q E ⟨o,rfl,hc,hd⟩ R h;show wpAny_pyIter_striter_ascii ⟨o,R.rawAt (p:=(_,o))<|.head _,hc,hd⟩ h
 ·show R.newR (t:=s.toks) (λb o q=>Kg _ q)<|Heap.get?_push_size _ 4.
def wB(inv:Nat->Kk->Prop)(Q:MF->Kk->Prop)(raw:List<|Addr×Obj)(i:Nat):MF->Kk->Prop
 | .next,st=>inv i st
 | .cont,st=>inv i st
 | .ret m,st=>Q (.ret m) {st with raw:=raw}
 | .brk,_=>False
inductive ForI(D:Wd)(k:Nat)(env:Env)(target:Expr)(BW:Kk->(MF->Kk->Prop)->Prop)(Q:MF->Kk->Prop)(base:Kk)(src:Kk->Prop)(n:Nat)(item:Nat->MV):Prop
 |mk (inv:Nat->Kk->Prop) (hr: ∀i st R,inv i st->inv i {st with raw:=R}) (hsrc: ∀i st,i<=n->inv i st->src st) (h0:inv 0 base)
  (hb: ∀i st,i<n->inv i st->OP D TU k st [item i] (λvs=>assign target env<|vs.getD 0 .none) λO st2=>BW st2 λmf st3=>st3.raw=st.raw/\wB inv Q base.raw (i+1) mf st3)
  (hend: ∀st,inv n st->st.raw=base.raw->Q .next st):ForI D k env target BW Q base src n item
inductive FInv(D:Wd)(I:Imm)(base:Kk)(inv:Nat->Kk->Prop)(n:Nat)(Z:Nat->List (Addr×Obj)->Imm->Prop)(j:Nat)(s':Shared):Prop
 |mk (i:Nat) (st:Kk) (rs:List<|Addr×Obj) (I':Imm) (hj:j=n-i) (hi:i<=n) (h:inv i st) (hr:st.raw=base.raw) (e:Sub I I') (hz:Z i rs I') (R:Ko D I' (st.pushRs rs) s'):FInv D I base inv n Z j s'
def Hu(D:Wd)(I:Imm)(base:Kk)(inv:Nat->Kk->Prop)(n:Nat)(Z:Nat->List (Addr×Obj)->Imm->Prop)(Q:MF->Kk->Prop)(i:Nat)(s:Shared):Flow->Prop
 | .next=> ∃m,m<n-i/\FInv D I base inv n Z m s
 | .cont=> ∃m,m<n-i/\FInv D I base inv n Z m s
 | .brk=>False
 | .ret v=>Post D TF I Q (.ret v) s
theorem un{base st6:Kk}{I6:Imm}{inv:Nat->Kk->Prop}{n i:Nat}{Z:Nat->List (Addr×Obj)->Imm->Prop}{Q:MF->Kk->Prop}{rs:List<|Addr×Obj}{mf:MF}{fl:Flow}{s:Shared}(hr: ∀i st R,inv i st->inv i {st with raw:=R})(hlt:i<n)(e:Sub I I6)(hz:Z (i+1) rs I6)(V:TF I6 mf fl)(hraw:st6.raw=rs++base.raw)
 (h:wB inv Q base.raw (i+1) mf st6)(R:Ko D I6 st6 s):Hu D I base inv n Z Q i s fl:=by
 have q6:st6=({st6 with raw:=base.raw}:Kk).pushRs rs:=by
  obtain⟨m,f,r⟩:=st6;show congrArg (Kk.mk m f) hraw
 have R6:Ko D I6 (({st6 with raw:=base.raw}:Kk).pushRs rs) s:=q6▸R;cases V with
 |next=>show⟨n-(i+1),Ai hlt,i+1,_,rs,I6,4.,hlt,hr _ _ _ h,4.,e,hz,R6⟩
 |cont=>show⟨n-(i+1),Ai hlt,i+1,_,rs,I6,4.,hlt,hr _ _ _ h,4.,e,hz,R6⟩
 |brk=>show h.elim
 |ret V=>show⟨I6,_,_,e,R6.endRs (t:=s.toks) λO O O q=>q,.ret V,h⟩
theorem wC{target iter:Expr}{body:List Stmt}{pos:Pos}{Q:MF->Kk->Prop}
 (h:IT D k env st iter target<|ForI D k env target (λst2 P=>WF D k st2 (execs body env) P) Q)
 (hs: ∀x,foldedSetIterable iter env x=pure x:=by intro O;rfl):WF D k st (exec (.For target iter body [] pos) env) Q:=λA I s hA R=>by
 show wpAny_For (wpAny_mono (h A I s hA R) (λx s1 h1=>wpAny_mono h1 ?_ λO O x=>x.elim) λO O x=>x) hs;show λitv s2 z=>hid λX hX=>?_;obtain⟨base,src,n,item,Z,rs,I2,e2,hI,hz,R2,inv,hr,hsrc,h0,hb,hend⟩:=z;show hX<|codeAny_forLoop_any (FInv D I base inv n Z) (λj s' z=>hid λY hY=>?_) n ⟨0,base,rs,I2,4.,Nat.zero_le _,h0,4.,e2,hz,R2⟩;obtain⟨i,st',rs',I',hj,hi,hinv,hraw,e',hz',R'⟩:=z;show hY ?_;by_cases hlt:i<n
 ·show hI.go hlt hA.1 (hsrc i st' hi hinv) hz' R' λv s3 h3=>son h3 λO s4 I4 rs4 e4 hz4 V4 R4=>?_;show pon (hb i (st'.pushRs rs4) hlt (hr i st' _ hinv) A I4 s4 [v] hA R4<|.cons V4 .nil) λO s5 I5 O st5 e5 R5 O h5=>pon (h5 A I5 s5 hA R5) λfl s6 I6 mf st6 e6 R6 V6 h6=>?_;have X:=un hr hlt (((e'.trans e4).trans e5).trans e6) (hI.mono _ _ _ _ hz4<|e5.trans e6) V6 (h6.1.trans (congrArg (rs4++ ·) hraw)) h6.2 R6;subst hj;cases fl<;>first|show X|show X.elim
 ·show hI.halt hA.1 (hsrc i st' hi hinv) (uY hi hlt▸hz') R' λs3 R3=>wpAny_execs_nil ⟨I',.next,st',e',R3,.next,hend st' (uY hi hlt▸hinv) hraw⟩
end
end
section
variable{D:Wd}{k:Nat}{st:Kk}{I J:Imm}{env:Env}
theorem dy{x:String}{pos:Pos}{m:MV}{Q:Unit->Kk->Prop}(h: ∃ρ r,st.fr=(env.locals,ρ)::r/\Q () (st.loc<|pt x m ρ))
 (hl:env.kindOf (Str.ofString x)=some .local:=by kernel_rfl)(hp:(env.scope.kind==.class||(env.scope.kind==.module&&env.locals !=env.globals))=false:=by rfl):
 OP D TU k st [m] (λvs=>assign (.Name (Str.ofString x) pos) env<|vs.getD 0 .none) Q:=λA I s vs hA R V=>by
 obtain⟨ρ,r,hf,h⟩:=h;show PyProof.Rows.assign_Name<|oJ hf h hl hp A I s vs hA R V
theorem qX{x:String}{pos:Pos}{m:MV}{c:Addr}{Q:Unit->Kk->Prop}(hc:env.cells.lookup (Str.ofString x)=some c)(h: ∃m₀,st.m (.inl c)=some (.c m₀)/\Q () (st.set (.inl c)<|.c<|some m))
 (hl:env.kindOf (Str.ofString x)=some .cell:=by kernel_rfl)(hk:env.scope.kind=.function:=by rfl):
 OP D TU k st [m] (λvs=>assign (.Name (Str.ofString x) pos) env<|vs.getD 0 .none) Q:=λA I s vs hA R V=>by
 obtain⟨m₀,hm,h⟩:=h;show PyProof.Rows.assign_Name<|ly hc hm h hl hk A I s vs hA R V
def AL(D:Wd)(k:Nat)(env:Env)(st:Kk)(elts:List Expr)(ms:List MV)(Q:Unit->Kk->Prop):Prop:=OP D TU k st ms (λvs=>assignInOrder ((assignEach elts env).map (·.2)) vs) Q
theorem cB{Q:Unit->Kk->Prop}(h:Q () st):AL D k env st [] [] Q:=λA I s vs hA R V=>assignInOrder_nil<|aE R trivial h
abbrev ve(D:Wd)(k:Nat)(env:Env)(elts:List Expr)(ms:List MV)(Q:Unit->Kk->Prop)(_:Unit)(st1:Kk):Prop:=AL D k env st1 elts ms Q
theorem sP{e:Expr}{elts:List Expr}{m:MV}{ms:List MV}{Q:Unit->Kk->Prop}(h:OP D TU k st [m] (λvs=>assign e env<|vs.getD 0 .none)<|ve D k env elts ms Q)
 (he:assignEach (e::elts) env=(false,assign e env)::assignEach elts env:=by rfl):AL D k env st (e::elts) (m::ms) Q:=λA I s vs hA R V=>by
 show VRs.kc V λO O U V'=>?_;rw[he];show assignInOrder_cons<|pon (h A I s [_] hA R<|.cons U .nil) λO s1 I1 O st1 e1 R1 O h1=>?_;show jW e1<|h1 A I1 s1 _ hA R1<|V'.mono e1
theorem aM{elts:List Expr}{c:Nat}{pos:Pos}{ms:List MV}{Q:Unit->Kk->Prop}(h:AL D k env st elts ms Q)
 (hn:(assignEach elts env).length=ms.length:=by rfl)(hstar:(assignEach elts env).findIdx? (·.1)=none:=by rfl):OP D TU k st [.tup ms] (λvs=>assign (.Tuple elts c pos) env<|vs.getD 0 .none) Q:=λA I s vs hA R V=>by
 show VRs.k1 V λO U=>?_;show VR.kt U λa n us hg U1=>?_;show wpAny_assign_Tuple hA.1 ⟨_,R.keep _ _ hg,4.,n,4.⟩ (by rw[hn,<-U1.length];simp) hstar λh' e'=>?_;have:=h A I {s with heap:=h'} us hA (R.grown (t:=s.toks) λb o q=>e' b o (Nat.ne_of_lt<|Heap.lt_size q) q) U1;simpa using this
abbrev kI(Q:MF->Kk->Prop)(_:Unit)(st2:Kk):Prop:=Q .next st2
abbrev kJ(D:Wd)(k:Nat)(env:Env)(elts:List Expr)(c:Nat)(tpos:Pos)(Q:MF->Kk->Prop)(m:MV)(st1:Kk):Prop:=OP D TU k st1 [m] (λvs=>assign (.Tuple elts c tpos) env<|vs.getD 0 .none)<|kI Q
theorem bL{elts:List Expr}{c:Nat}{tpos pos:Pos}{value:Expr}{Q:MF->Kk->Prop}(h:WV D k st (eval value env)<|kJ D k env elts c tpos Q)
 (hs:swapsWithSole [.Tuple elts c tpos] value pos.line env=pure false:=by rfl)(hw:swappedStores [.Tuple elts c tpos] value env=pure none:=by rfl):WF D k st (exec (.Assign [.Tuple elts c tpos] value pos) env) Q:=λA I s hA R=>by
 show Assign_Tuple (pon (h A I s hA R) λv s1 I1 m st1 e1 R1 V1 h1=>?_) hs hw;show pon (h1 A I1 s1 [v] hA R1<|.cons V1 .nil) λO s2 I2 O st2 e2 R2 O h2=>?_;show⟨I2,_,st2,e1.trans e2,R2,.next,h2⟩
theorem Rel.frRaw{hb:Heap}{o₀:OsState}{P:Params}{s:Shared}{C:Addr}{ρ:List<|String×MV}(R:Rel hb o₀ P I (st.push C ρ) s): ∃o m,s.heap.Ns C m/\s.heap.get? C=some o/\Rel hb o₀ P I (st.pushR C o) s:=by
 obtain⟨ow,R'⟩:=R.own;obtain⟨hC,⟨m,hn,hs⟩,F⟩:=R'.fr;have hn':=hn;obtain⟨o,O,O,ho,O⟩:=hn';show⟨o,m,hn,ho,R.base,R.keep,R.gens,R.os,λb=>if b=C then some (.raw st.raw.length)else ow b,?_⟩;have ne: ∀b k,ow b=some k->k≠.fr st.fr.length->b≠C:=λb k q z=>by rintro rfl;rw[hC]at q;cases q;show z 4.
 have old: ∀b k,ow b=some k->k≠.fr st.fr.length->(if b=C then some (Own.raw st.raw.length)else ow b)=some k:=λb k q z=>by rw[if_neg<|ne b k q z,q]
 constructor
 ·intro a k q;by_cases c:a=C
  ·subst c;show R'.free _ _ hC
  ·rw[if_neg c]at q;show R'.free _ _ q
 ·intro n x q;obtain⟨a,u,v,w⟩:=R'.m n x q;show⟨a,u,old a _ v nofun,w.keeps (Sub.refl I) (λb z=>old b _ z nofun) v λO O O y=>y⟩
 ·show R'.nm
 ·have aux: ∀{l:List<|Addr×List (String×MV)},l.length<=st.fr.length->FrsR I s.heap ow l->FrsR I s.heap (λb=>if b=C then some (.raw st.raw.length)else ow b) l:=by
   intro l;induction l with
   |nil=>intro O O;trivial
   |cons p r ih=>
    intro hl F;obtain⟨u,v,w⟩:=F;simp only[List.length_cons]at hl;show⟨old _ _ u (λz=>by injection z with z;omega),v,ih (by show jV ‹_›) w⟩
  show aux (Kj _) F
 ·show⟨if_pos 4.,ho,RawsR.keeps R'.raw (λb i O z=>old b _ z nofun) λO O O O O y=>y⟩
noncomputable def LCk(b:Bool)(m:MV)(ys:List MV):List MV:=if b then ys++[m]else ys
noncomputable def bj(p:Nat->Bool)(F:Nat->MV)(n:Nat):List MV:=((List.range n).filter p).map F
theorem j3(p:Nat->Bool)(F:Nat->MV)(n:Nat):bj p F (n+1)=LCk (p n) (F n) (bj p F n):=by
 unfold bj LCk;rw[List.range_succ,List.filter_append,Ki];cases h:p n<;>simp[h]
theorem oj(p:Nat->Bool)(F:Nat->MV)(n:Nat):(bj p F n).length<=n:=by
 unfold bj;rw[Ka];show Kc (List.length_filter_le _ _) (by simp)
def yp(D:Wd)(k:Nat)(env:Env)(st:Kk)(ifs:List Expr)(Q:Bool->Kk->Prop):Prop:=
 WB D k st (forIn ifs true λc r=>if r=true then do let ok<-isTrue c env (eval c env);pure (ForInStep.yield ok)else pure (ForInStep.yield r)) Q
theorem qY{Q:Bool->Kk->Prop}(h:Q true st):yp D k env st [] Q:=λA I s hA R=>Kb<|aE R 4. h
theorem iK{c:Expr}{Q:Bool->Kk->Prop}(h:WB D k st (isTrue c env<|eval c env) Q):yp D k env st [c] Q:=λA I s hA R=>wpAny_tests_one<|h A I s hA R
structure CompAt(base st:Kk)(C:Addr)(x:String)(v:MV):Prop where
 m: ∀n y,base.m n=some y->st.m n=some y
 fr:st.fr=(C,[(x,v)])::base.fr
def ll(D:Wd)(k:Nat)(env:Env)(scope:Scope)(cl:List<|Str×Addr)(base:Kk)(ifs:List Expr)(elt:Expr)(x:String)(n:Nat)(item:Nat->MV)(p:Nat->Bool)(F:Nat->MV):Prop:=
 ∀i C st,i<n->CompAt base st C x (item i)->yp D k (compEnvC scope cl C env) st ifs λb st1=>st1=st/\b=p i/\(b=true->WV D k st (eval elt<|compEnvC scope cl C env) λm st2=>st2=st/\m=F i)
theorem Alloc.pushRs{q:Nm->Prop}{rs:List<|Addr×Obj}(h:Alloc st q):Alloc (st.pushRs rs) q:=h
def cQ(I:Nat->Shared->Prop)(n:Nat)(s:Shared):Prop:= ∃m,m<n/\I m s
def cP4(prog:Program)(w:World)(A:Around)(acc:Value)(I:Nat->Shared->Prop)(n:Nat)(x:Value)(s:Shared):Prop:=wpAny (model prog w) A (call (.builtin "list.append") [acc,x]) (λO=>cQ I n) (λO O=>False) s
def cP3(prog:Program)(w:World)(A:Around)(elt:Expr)(env:Env)(acc:Value)(I:Nat->Shared->Prop)(n:Nat)(ok:Bool)(s:Shared):Prop:=if ok=true then wpAny (model prog w) A (eval elt env) (cP4 prog w A acc I n) (λO O=>False) s else cQ I n s
def cP2(prog:Program)(w:World)(A:Around)(elt:Expr)(ifs:List Expr)(env:Env)(acc:Value)(I:Nat->Shared->Prop)(n:Nat)(_:Unit)(s:Shared):Prop:=wpAny (model prog w) A (forIn ifs true λc r=>if r=true then do let ok<-isTrue c env (eval c env);pure (ForInStep.yield ok)else pure (ForInStep.yield r)) (cP3 prog w A elt env acc I n) (λO O=>False) s
def cP1(prog:Program)(w:World)(A:Around)(elt target:Expr)(ifs:List Expr)(env:Env)(acc v:Value)(I:Nat->Shared->Prop)(n:Nat)(_:Unit)(s:Shared):Prop:=wpAny (model prog w) A (assign target env v) (cP2 prog w A elt ifs env acc I n) (λO O=>False) s
def cP0(prog:Program)(w:World)(A:Around)(R:Result->Shared->Prop)(elt target:Expr)(ifs:List Expr)(it acc:Value)(env:Env)(I:Nat->Shared->Prop)(n:Nat)(r:Option Value)(s:Shared):Prop:=match r with
 |none=>R (.ok .next) s
 |some v=>wpAny (model prog w) A (letOwnedTupleGo target it v) (cP1 prog w A elt target ifs env acc v I n) (λO O=>False) s
theorem qZ{prog:Program}{w:World}{A:Around}{R:Result->Shared->Prop}{s:Shared}{elt target iter:Expr}{ifs:List Expr}{scope:Scope}{pos:Pos}{it acc:Value}{env:Env}(I:Nat->Shared->Prop)
 (turn: ∀n s,I n s->wpAny (model prog w) A (pyNext it) (cP0 prog w A R elt target ifs it acc env I n) (λO O=>False) s)
 (n:Nat)(h:I n s):codeAny (model prog w) A (.compLoop (.ListComp elt [⟨target,iter,ifs,0⟩] scope pos) 0 it acc env) R s:=by
 show codeAny_loop 4. I (λn s hI=>?_) n h;show(?_:wpAny _ A ((compTurn (.ListComp elt [⟨target,iter,ifs,0⟩] scope pos) 0 it acc env).onRaise (λx=>do noteFrame x env;theTreesLotGoes x)) _ _ s);show wpAny_noted ?_;rw[compTurn_list];show J8<|wpAny_standAt<|J8<|wpAny_mono (turn n s hI) (λr s1 h1=>?_) λO O h'=>h'.elim;cases r with
 |none=>show Kb h1
 |some v=>
  show J8<|wpAny_mono h1 (λO s1' h1'=>?_) λO O h'=>h'.elim;show J8<|wpAny_mono h1' (λO s2 h2=>J8<|wpAny_mono h2 (λok s3 h3=>?_) λO O h'=>h'.elim) λO O h'=>h'.elim;cases ok with
  |false=>show Kb ⟨4.,h3⟩
  |true=>
   show J8<|J8<|wpAny_mono h3 (λx s4 h4=>J8<|wpAny_mono h4 (λO s5 h5=>Kb<|Kb ⟨4.,h5⟩) λO O h'=>h'.elim) λO O h'=>h'.elim
theorem B4{x:String}{m:MV}{ρ:List<|String×MV}(h:ρ=[]\/ ∃m',ρ=[(x,m')]):pt x m ρ=[(x,m)]:=by
 rcases h with rfl|⟨m',rfl⟩
 ·rfl
 ·show if_pos 4.
abbrev cS(base:Kk)(a:Nm)(C:Addr)(ys:List MV)(ρ:List<|String×MV):Kk:=(base.set a<|.l ys).push C ρ
inductive CInv(D:Wd)(x:String)(base:Kk)(a:Nm)(C:Addr)(I₃:Imm)(Z:Nat->List (Addr×Obj)->Imm->Prop)(n:Nat)(p:Nat->Bool)(F:Nat->MV)(j:Nat)(s:Shared):Prop
 |mk (i:Nat) (rs:List<|Addr×Obj) (I':Imm) (ρ:List<|String×MV) (hj:j=n-i) (hi:i<=n) (e:Sub I₃ I') (hz:Z i rs I') (hρ:ρ=[]\/ ∃m',ρ=[(x,m')]) (R:Ko D I' ((cS base a C (bj p F i) ρ).pushRs rs) s):CInv D x base a C I₃ Z n p F j s
section
variable{x:String}{base:Kk}{a:Nm}{C acc:Addr}{I₃:Imm}{Z:Nat->List (Addr×Obj)->Imm->Prop}{n:Nat}{p:Nat->Bool}{F item:Nat->MV}{A:Around}{ifs:List Expr}{elt:Expr}{src:Kk->Prop}{itv:Value}{px:Pos}
theorem CInv.step{i:Nat}{ys:List MV}{rs:List<|Addr×Obj}{I':Imm}{ρ:List<|String×MV}{s:Shared}(hlt:i<n)(e:Sub I₃ I')(hz:Z (i+1) rs I')(hρ: ∃m',ρ=[(x,m')])(hy:ys=bj p F (i+1))(R:Ko D I' ((cS base a C ys ρ).pushRs rs) s):cQ (CInv D x base a C I₃ Z n p F) (n-i) s:=
 ⟨n-(i+1),by show Ai ‹_›,i+1,rs,I',ρ,4.,hlt,e,hz,.inr hρ,hy▸R⟩
theorem yq{i:Nat}{rs:List<|Addr×Obj}{I':Imm}{m:MV}{v:Value}{s:Shared}(hlt:i<n)(hn:n<=1000)(e:Sub I₃ I')(ha:I₃.at a=some acc)(hz:Z (i+1) rs I')(hp:p i=true)(V:VR I' (F i) v)(R:Ko D I' ((cS base a C (bj p F i) [(x,m)]).pushRs rs) s):cP4 D.prog D.w A (.ref acc) (CInv D x base a C I₃ Z n p F) (n-i) v s:=by
 have hma:((cS base a C (bj p F i) [(x,m)]).pushRs rs).m a=some (.l<|bj p F i):=ak ..;obtain⟨vs,c,hg,W⟩:=R.fl hma (e.at ha);have hlen:=W.length;show wpAny_list_append_plain ⟨c,hg⟩ (λh' ⟨c',hg'⟩ hb'=>?_) (by rw[sizeLine_eq];have:=oj p F i;simp at hlen;show Hf ‹_› ‹_› ‹_› ‹_›);have R9:=R.put (t:=s.toks) (y:=.l<|bj p F i++[F i]) hma (e.at ha) hg' (λb hbne=>hb'.2 b hbne) λO=>⟨_,c',hg',by simpa using W.append (.one V)⟩;show CInv.step hlt e hz ⟨m,4.⟩ (by rw[j3,hp];rfl) (ys:=bj p F i++[F i]) ?_;have:((cS base a C (bj p F i) [(x,m)]).pushRs rs).set a (.l<|bj p F i++[F i])=(cS base a C (bj p F i++[F i]) [(x,m)]).pushRs rs:=by
  have:upd (upd base.m a<|Con.l<|bj p F i) a (Con.l<|bj p F i++[F i])=upd base.m a (Con.l<|bj p F i++[F i]):=by
   funext z;unfold upd;by_cases hz:z=a<;>simp[hz]
  unfold cS Kk.set Kk.push Kk.pushRs;dsimp only;rw[this]
 show this▸R9
variable(hA:Room k A)(hn:n<=1000)(ha:I₃.at a=some acc)(hkeep: ∀(ys:List MV) (n:Nm) (y:Con),base.m n=some y->(base.set a<|.l ys).m n=some y)
 (hturn: ∀i st,i<n->CompAt base st C x (item i)->yp D k env st ifs λb st1=>st1=st/\b=p i/\(b=true->WV D k st (eval elt env) λm st2=>st2=st/\m=F i))
include hA hn ha hkeep hturn
theorem vf{i:Nat}{rs:List<|Addr×Obj}{I':Imm}{u:Unit}{s:Shared}(hI: ∀i rs I J,Z i rs I->Sub I J->Z i rs J)(hlt:i<n)(e:Sub I₃ I')(hz:Z (i+1) rs I')(R:Ko D I' ((cS base a C (bj p F i) [(x,item i)]).pushRs rs) s):cP2 D.prog D.w A elt ifs env (.ref acc) (CInv D x base a C I₃ Z n p F) (n-i) u s:=by
 show pon (hturn i ((cS base a C (bj p F i) [(x,item i)]).pushRs rs) hlt ⟨hkeep _,4.⟩ A I' s hA R) λok s6 I6 b O e6 R7 z5 z=>?_;obtain rfl:=z5;obtain⟨rfl,hb,helt⟩:=z;cases b with
 |false=>show CInv.step hlt (e.trans e6) (hI _ _ _ _ hz e6) ⟨item i,4.⟩ (by rw[j3,<-hb];rfl) R7
 |true=>
  show pon (helt 4. A I6 s6 hA R7) λx' s7 I7 m' O e7 R8 V8 z=>?_;obtain⟨rfl,rfl⟩:=z;show yq hlt hn ((e.trans e6).trans e7) ha (hI _ _ _ _ hz<|e6.trans e7) hb.symm V8 R8
theorem wD{Rz:Result->Shared->Prop}{j:Nat}{s:Shared}(hI:Iter D itv (.Name (Str.ofString x) px) n item src Z)(hsrc: ∀ys ρ,src (cS base a C ys ρ))(hE:env.locals=C)(hloc:env.kindOf (Str.ofString x)=some .local)(hpp:(env.scope.kind==.class||(env.scope.kind==.module&&env.locals !=env.globals))=false)
 (fin: ∀I' ρ s',Sub I₃ I'->Ko D I' (cS base a C (bj p F n) ρ) s'->Rz (.ok .next) s')(h:CInv D x base a C I₃ Z n p F j s):
 wpAny (model D.prog D.w) A (pyNext itv) (cP0 D.prog D.w A Rz elt (.Name (Str.ofString x) px) ifs itv (.ref acc) env (CInv D x base a C I₃ Z n p F) j) (λO O=>False) s:=by
 show hid λX hX=>?_;obtain⟨i,rs',I',ρ,hj,hi,e',hz',hρ,R'⟩:=h;subst hj;show hX ?_;by_cases hlt:i<n
 ·show hI.go hlt hA.1 (hsrc _ _) hz' R' λv s3 h3=>son h3 λO s4 I4 rs4 e4 hz4 V4 R5=>?_;show pon (dy (D:=D) (k:=k) (st:=(cS base a C (bj p F i) ρ).pushRs rs4) (env:=env) (Q:=λO st=>st=(cS base a C (bj p F i) [(x,item i)]).pushRs rs4) ⟨ρ,base.fr,by rw[hE];rfl,by rw[B4 hρ];rfl⟩ hloc hpp A I4 s4 [v] hA R5<|.cons V4 .nil) λO s5 I5 O O e5 R6 O z6=>?_;obtain rfl:=z6;show vf hA hn ha hkeep hturn hI.mono hlt ((e'.trans e4).trans e5) (hI.mono _ _ _ _ hz4 e5) R6
 ·obtain rfl:i=n:=by show uY ‹_› ‹_›
  show hI.halt hA.1 (hsrc _ _) hz' R' λO=>fin I' ρ _ e'
end
theorem yr{base:Kk}{a:Nm}{C l:Addr}{I₃ I':Imm}{use:Option<|Value->Sem Unit}{Qv:Value->Shared->Prop}{A:Around}{ys:List MV}{ρ:List<|String×MV}{s':Shared}(ha:I₃.at a=some l)(e':Sub I₃ I')(R':Ko D I' (cS base a C ys ρ) s')
 (hq: ∀C o (I:Imm) (s:Shared) (av:Value),Sub I₃ I->VR I (.ref a) av->Ko D I ((base.set a<|.l ys).pushR C o) s->
  match use with
  |none=> ∀s',Ko D I (base.set a<|.l ys) s'->Qv av s'
  |some u=>wpAny (model D.prog D.w) A (u av) (λO s''=> ∃I' st',Sub I I'/\Ko D I' (st'.pushR C o) s''/\ ∀s',Ko D I' st' s'->Qv .none s') (λO O=>False) s):compPost (model D.prog D.w) A (λO O=>False) use Qv (.ref l) C (.ok .next) s':=by
 obtain⟨o,m,hnC,hoC,R''⟩:=Rel.frRaw R';have q:=hq C o I' s' (.ref l) e' (.ref<|e'.at ha) R'';cases use with
 |none=>
  show⟨m,hnC,λh' hb=>q _ ?_⟩;show Rel.endRs (st:=base.set a<|.l ys) (rs:=[(C,o)]) (t:=s'.toks) R'' λb o n q=>(hb.2 b<|n _<|.head _).trans q
 |some u=>
  show wpAny_mono q ?_ λO O x=>x.elim;rintro O s'' ⟨I'',st'',e'',R3,q3⟩;show⟨m,?_,λh' hb=>q3 _ ?_⟩
  ·show BC hnC λo' ho'=>by
    rw[hoC]at ho';cases ho';show R3.raw
  ·show Rel.endRs (st:=st'') (rs:=[(C,o)]) (t:=s''.toks) R3 λb o n q=>(hb.2 b<|n _<|.head _).trans q
theorem q0{elt iter:Expr}{x:String}{px pos:Pos}{ifs:List Expr}{scope:Scope}{cl:List<|Str×Addr}{use:Option<|Value->Sem Unit}{Qv:Value->Shared->Prop}{A:Around}{I0:Imm}{s:Shared}(hA:Room k A)
 (hclos:closureFor scope env=pure cl)(hkind:scope.kind=.function)(hcell: ∀y∈scope.names,y.2≠.cell)(hx:scope.names.lookup (Str.ofString x)=some .local)
 (hnames: ∀x∈scope.names,x.2=.local->scope.names.lookup x.1=some .local)
 (R:Ko D I0 st s)
 (h:IT D k env st iter (.Name (Str.ofString x) px) λbase src n item=>n<=1000/\(∀st st',src st->(∀n y,st.m n=some y->st'.m n=some y)->src st')/\src base/\ ∃p F,ll D k env scope cl base ifs elt x n item p F/\
  Alloc base λa=> ∀C o (I:Imm) (s:Shared) (av:Value),Sub I0 I->VR I (.ref a) av->Ko D I ((base.set a<|.l<|bj p F n).pushR C o) s->
   match use with
   |none=> ∀s',Ko D I (base.set a<|.l<|bj p F n) s'->Qv av s'
   |some u=>wpAny (model D.prog D.w) A (u av) (λO s''=> ∃I' st',Sub I I'/\Ko D I' (st'.pushR C o) s''/\ ∀s',Ko D I' st' s'->Qv .none s') (λO O=>False) s)
 (hs: ∀x,foldedSetIterable iter env x=pure x):
 wpAny (model D.prog D.w) A (comprehension (.ListComp elt [⟨.Name (Str.ofString x) px,iter,ifs,0⟩] scope pos) scope env (firstIterPos [⟨.Name (Str.ofString x) px,iter,ifs,0⟩] pos) (newList []) false (eval iter env) use) Qv (λO O=>False) s:=by
 show wpAny_comprehension_free 4. hs hclos hkind hnames<|wpAny_mono (h A I0 s hA R) (λxv s1 h1=>wpAny_mono h1 ?_ λO O x=>x) λO O x=>x;show λitv s2 z=>hid λX hX=>?_;obtain⟨base,src,n,item,Z,rs,I2,e2,hI,hz,R2,hn,hsm,hsb,p,F,hturn,hal⟩:=z;obtain⟨a,fa,hq⟩:=(Alloc.pushRs (rs:=rs) hal).take R2;have hna:base.m a=none:=by
  rcases fa with rfl|⟨p,rfl,e⟩
  ·obtain⟨ow,R'⟩:=R2.own;show R'.inl_none R'.size_none
  ·show e
 have hkeep: ∀(ys:List MV) (n:Nm) (y:Con),base.m n=some y->(base.set a<|.l ys).m n=some y:=λys n y e=>by
  change upd base.m a _ n=_;rw[bO _ _ (by rintro rfl;rw[hna]at e;cases e)];show e
 obtain⟨I₃,e3,ha,R3⟩:=R2.newL (vs:=#[]) (k:=0) (t:=s2.toks) (x:=[]) fa .nil;show hX<|wpAny_newObj_type (hd:=by size_fits) ?_;show wpAny_newFunctionEnv hcell (by intro y hy;simp at hy) (λh1 hns1 hsb1=>?_) hkind;have R4:Ko D I₃ ((cS base a (s2.heap.push {cls:=.type "list",data:=.seq #[]}).objs.size [] []).pushRs rs) {s2 with heap:=h1,toks:=s2.toks+([]:List (Str×Value)).length}:=
  R3.newF (st:=(base.pushRs rs).set a<|.l []) (t:=s2.toks+([]:List (Str×Value)).length) (λb o q=>hsb1.extBut b o (Nat.ne_of_lt<|Heap.lt_size q)<|Kg _ q) ⟨_,hns1,λy m hy=>by cases hy⟩
 show(?_:codeAny _ A (.compStart _ 0 itv (.ref s2.heap.objs.size)<|compEnvC scope cl (s2.heap.push {cls:=.type "list",data:=.seq #[]}).objs.size env) (compPost (model D.prog D.w) A (λO O=>False) use Qv (.ref s2.heap.objs.size) (s2.heap.push {cls:=.type "list",data:=.seq #[]}).objs.size) {s2 with heap:=h1,toks:=s2.toks+([]:List (Str×Value)).length});have loop:=qZ (scope:=scope) (pos:=pos) (iter:=iter) (CInv D x base a (s2.heap.push {cls:=.type "list",data:=.seq #[]}).objs.size I₃ Z n p F) (λO O=>wD (ifs:=ifs) (elt:=elt) (env:=compEnvC scope cl _ env) hA hn ha hkeep (λi st=>hturn i _ st) hI (λys ρ=>hsm base _ hsb<|hkeep ys) 4. (lookup_relabel_local hx)
  (by
   change((relabel scope env).kind==_||((relabel scope env).kind==_&&_))=false;rw[show(relabel scope env).kind=scope.kind from 4.,hkind];rfl)
  (λI' ρ s' e' R'=>yr (use:=use) (Qv:=Qv) (A:=A) ha e' R' λC o I s av q=>hq C o I s av<|(e2.trans e3).trans q)) n ⟨0,rs,I₃,[],by omega,Nat.zero_le _,Sub.refl _,hI.mono _ _ _ _ hz e3,.inl 4.,R4⟩
 show codeAny_compStart_list loop<|hI.self 0 A I₃ _ _ rs _ _ (hI.mono _ _ _ _ hz e3) R4 loop
def sQ(D:Wd)(k:Nat)(env:Env)(st:Kk)(elt iter:Expr)(x:String)(px:Pos)(ifs:List Expr)(scope:Scope)(cl:List<|Str×Addr)(Q:Nm->Kk->Prop):Prop:=
 IT D k env st iter (.Name (Str.ofString x) px) λbase src n item=>n<=1000/\(∀st st',src st->(∀n y,st.m n=some y->st'.m n=some y)->src st')/\src base/\ ∃p F,ll D k env scope cl base ifs elt x n item p F/\
  Alloc base λa=>Q a<|base.set a<|.l<|bj p F n
theorem IT.mono{iter tgt:Expr}{Q Q':Kk->(Kk->Prop)->Nat->(Nat->MV)->Prop}(h:IT D k env st iter tgt Q)(hq: ∀a b c d,Q a b c d->Q' a b c d):IT D k env st iter tgt Q':=λA I s hA R=>
 wpAny_mono (h A I s hA R) (λO O h₁=>wpAny_mono h₁ (λO O ⟨a,b,c,d,e,f,g,h1,h2,h3,h4,h5⟩=>⟨a,b,c,d,e,f,g,h1,h2,h3,h4,hq _ _ _ _ h5⟩) λO O x=>x) λO O x=>x
theorem Alloc.mono{q q':Nm->Prop}(h:Alloc st q)(hq: ∀a,q a->q' a):Alloc st q':=by
 rcases h with⟨p,u,v⟩|h
 ·show .inl ⟨p,u,hq _ v⟩
 ·show .inr λa ha=>hq _<|h a ha
theorem B5{elt iter:Expr}{x:String}{px pos:Pos}{ifs:List Expr}{scope:Scope}{cl:List<|Str×Addr}{Q:MV->Kk->Prop}
 (h:sQ D k env st elt iter x px ifs scope cl λa st'=>Q (.ref a) st')
 (hclos:closureFor scope env=pure cl)(hkind:scope.kind=.function:=by rfl)(hcell: ∀y∈scope.names,y.2≠.cell:=by decide)(hx:scope.names.lookup (Str.ofString x)=some .local:=by kernel_rfl)
 (hnames: ∀x∈scope.names,x.2=.local->scope.names.lookup x.1=some .local:=by decide)
 (hs: ∀x,foldedSetIterable iter env x=pure x:=by intro O;rfl):WV D k st (eval (.ListComp elt [⟨.Name (Str.ofString x) px,iter,ifs,0⟩] scope pos) env) Q:=λA I s hA R=>by
 rw[eval_ListComp];show q0 (use:=none) hA hclos hkind hcell hx hnames R (h.mono ?_) hs;rintro base src n item ⟨h1,h2,h3,p,F,h4,h5⟩;show⟨h1,h2,h3,p,F,h4,h5.mono λa q C o I' s av e V R s' R'=>⟨I',.ref a,_,e,R',V,q⟩⟩
theorem g7{elt gens scope pos}{u:Value->Sem Unit}:evalThenUse (.ListComp elt gens scope pos) env u=(do
 let _<-comprehension (.ListComp elt gens scope pos) scope env (firstIterPos gens pos) (newList []) (firstAsync gens) (firstIter gens env) (some u)
 return):=4.
theorem ra{y:String}{py spos:Pos}{elt iter:Expr}{x:String}{px pos:Pos}{ifs:List Expr}{scope:Scope}{cl:List<|Str×Addr}{Q:MF->Kk->Prop}
 (h:sQ D k env st elt iter x px ifs scope cl λa st'=> ∃ρ r,st'.fr=(env.locals,ρ)::r/\Q .next (st'.loc<|pt y (.ref a) ρ))
 (hclos:closureFor scope env=pure cl)(hkind:scope.kind=.function:=by rfl)(hcell: ∀y∈scope.names,y.2≠.cell:=by decide)(hx:scope.names.lookup (Str.ofString x)=some .local:=by kernel_rfl)
 (hnames: ∀x∈scope.names,x.2=.local->scope.names.lookup x.1=some .local:=by decide)
 (hl:env.kindOf (Str.ofString y)=some .local:=by kernel_rfl)(hp:(env.scope.kind==.class||(env.scope.kind==.module&&env.locals !=env.globals))=false:=by rfl)
 (hsw:swapsWith (.ListComp elt [⟨.Name (Str.ofString x) px,iter,ifs,0⟩] scope pos) (some<|.Name (Str.ofString y) py) spos.line env=pure true:=by rfl)
 (hs: ∀x,foldedSetIterable iter env x=pure x:=by intro O;rfl):
 WF D k st (exec (.Assign [.Name (Str.ofString y) py] (.ListComp elt [⟨.Name (Str.ofString x) px,iter,ifs,0⟩] scope pos) spos) env) Q:=λA I s hA R=>by
 rw[exec_Assign_Name_used _ _ _ _ hsw,g7];show J8<|wpAny_standAt<|J8<|J8 ?_;show q0 (use:=some<|assign (.Name (Str.ofString y) py) env) hA hclos hkind hcell hx hnames R (h.mono ?_) hs;rintro base src n item ⟨h1,h2,h3,p,F,h4,h5⟩;show⟨h1,h2,h3,p,F,h4,h5.mono ?_⟩;rintro a ⟨ρ,r,hf,q⟩ C o I' s' av e V R';show pon (dy (D:=D) (k:=k) (st:=(base.set a<|.l<|bj p F n).pushR C o) (m:=.ref a) (Q:=λO st=>st=(((base.set a<|.l<|bj p F n).pushR C o)).loc (pt y (.ref a) ρ)) ⟨ρ,r,hf,4.⟩ hl hp A I' s' [av] hA R'<|.cons V .nil) λO s'' I'' O O e' R'' O z6=>?_;obtain rfl:=z6;show⟨I'',(base.set a<|.l<|bj p F n).loc<|pt y (.ref a) ρ,e',R'',λs3 R3=>Kb<|Kb ⟨I'',.next,_,e.trans e',R3,.next,q⟩⟩
end
section
variable{D:Wd}{k:Nat}{st:Kk}{I J:Imm}{env:Env}
theorem yt{test:Expr}{body:List Stmt}{pos:Pos}{Q:MF->Kk->Prop}
 (h:WB D k st (isTrue test env<|eval test env) λb st1=>if b then WF D k st1 (execs body env) λmf st2=>(∃m,mf=.ret m)/\Q mf st2 else Q .next st1):WF D k st (exec (.While test body [] pos) env) Q:=λA I s hA R=>by
 show wpAny_While<|codeAny_whileLoop (λO s'=>s'=s) ?_ 0 4.;rintro O O rfl;show pon (h A I _ hA R) λb s1 I1 b' st1 e1 R1 hb h1=>?_;obtain rfl:b'=b:=hb;cases b' with
 |false=>
  show wpAny_execs_nil ⟨I1,.next,st1,e1,R1,.next,h1⟩
 |true=>
  show pon (h1 A I1 s1 hA R1) λf s2 I2 mf st2 e2 R2 V z=>?_;obtain⟨⟨m,rfl⟩,q⟩:=z;cases V with
  |ret V=>show⟨I2,.ret m,st2,e1.trans e2,R2,.ret V,q⟩
structure FnC(K:Frag)(f:Addr)(fd:FuncData)(body:List Stmt)(names:List String):Prop where
 obj: ∃oc od osl,K.lookup f=some ⟨oc,od,.func fd,osl⟩
 code:codeIn K fd.code fd.qualname=true
 isBody:fd.body=.stmts body
 binds: ∀vs:List Value,vs.length=names.length->bindArgs fd ⟨vs,[]⟩=pure ((names.map Str.ofString).zip vs)
 clo:fd.closure=[]
 kinds: ∀n:Nat,∀x∈names,fd.scope.names.lookup (Str.ofString x)=some .local\/(fd.scope.names.lookup (Str.ofString x)=some .cell/\((cellsFrom n fd.scope.names []).lookup<|Str.ofString x).isSome=true)
 co:fd.scope.isCoroutine=false
 gen:fd.scope.isGenerator=false
 kind:fd.scope.kind=.function
end
section
open PySem.Builtin PySem.Builtin.Int
theorem Hv(a b:Int)(t u:Tok):Gives (Builtin.«int.__and__» ⟨[.int a t,.int b u],[]⟩)<|.int<|bitAnd a b:=.of_eq 4.
theorem JE(a b:Int)(t u:Tok):Gives (Builtin.«int.__or__» ⟨[.int a t,.int b u],[]⟩)<|.int<|bitOr a b:=.of_eq 4.
theorem on{a:Int}{n:Nat}(ha:0<=a)(ha':a<2^n):intBits a<=n:=by
 unfold intBits;by_cases h:a=0
 ·simp[h]
 ·rw[if_neg (by simpa using h)];have h2:a.natAbs<2^n:=by
   have:((a.natAbs:Nat):Int)<2^n:=by rw[Int.natAbs_of_nonneg ha];show ha'
   exact_mod_cast this
  have:a.natAbs.log2<n:=(Nat.log2_lt 3.).mpr h2;omega
theorem Hw(a b:Int)(t u:Tok)(ha:0<=a)(ha':a<2^60)(hb:0<=b)(hb':b<60):Gives (Builtin.«int.__lshift__» ⟨[.int a t,.int b u],[]⟩)<|.int<|a*2^b.toNat:=by
 have hbits:intBits a<=60:=on ha ha';have hc0: ¬b<0:=by omega
 by_cases h0:a=0
 ·subst h0;have hc1:((0:Int)==0)=true:=4.;have:=AutoIntG6.int___lshift___int_int_1 0 t b u hc0 hc1;simpa using this
 ·have hc1: ¬(a==0)=true:=by simpa using h0
  have hc2: ¬(((intBits a:Nat):Int)+29)/30+b/30+(if(b%30==0)=true then 0 else 1)>maxDigits:=by
   unfold maxDigits;split<;>omega
  have hc3: ¬intTooBig (((intBits a:Nat):Int)+b)=true:=by
   unfold intTooBig bitsLine;simp;omega
  show .of_wp λM A E s Q hq=>?_;change wpAny M A (if b<0 then _ else(if a==0 then _ else(if((intBits a:Int)+29)/30+b/30+(if b%30==0 then 0 else 1)>maxDigits then _ else(if intTooBig (intBits a+b)then _ else retInt (a*2^b.toNat))))) _ E s;rw[if_neg hc0,if_neg hc1,if_neg hc2,if_neg hc3];show J8<|wpAny_mkInt<|Kb ⟨_,4.,hq⟩
theorem Hx(a b:Int)(t u:Tok)(ha:0<=a)(hb:0<=b):Gives (Builtin.«int.__rshift__» ⟨[.int a t,.int b u],[]⟩)<|.int<|a/2^b.toNat:=by
 by_cases h:b≥((intBits a:Nat):Int)
 ·have hz:a/2^b.toNat=0:=by
   apply Int.ediv_eq_zero_of_lt ha;unfold intBits at h;by_cases h0:a=0
   ·subst h0;show Int.pow_pos 3.
   ·rw[if_neg (by simpa using h0)]at h;have h1:a.natAbs<2^(a.natAbs.log2+1):=Nat.lt_log2_self;have h2:2^(a.natAbs.log2+1)<=2^b.toNat:=Nat.pow_le_pow_right 3. 3.;have h3:((a.natAbs:Nat):Int)<((2^b.toNat:Nat):Int):=by exact_mod_cast Nat.lt_of_lt_of_le h1 h2
    rw[Int.natAbs_of_nonneg ha]at h3;simpa using h3
  have:=AutoIntG9.int___rshift___int_int_1 a t b u 3. h;rw[if_neg 3.]at this;rw[hz];show this
 ·have:=AutoIntG0.int___rshift___int_int_2 a t b u 3. h;rw[Int.fdiv_eq_ediv_of_nonneg _<|Int.le_of_lt<|Int.pow_pos 3.]at this;show this
section
variable{D:Wd}{k:Nat}{st:Kk}{I J:Imm}{env:Env}{a b:Int}{Q:MV->Kk->Prop}
theorem two{Qx:Value->Shared->Prop}{A:Around}{s:Shared}{m1 m2:MV}{vs:List Value}(V:VRs I [m1,m2] vs)(f:Value->Value->Sem Value)(h: ∀v w,VR I m1 v->VR I m2 w->wpAny (model D.prog D.w) A (f v w) Qx (λO O=>False) s):
 wpAny (model D.prog D.w) A (f (vs.getD 0 .none)<|vs.getD 1 .none) Qx (λO O=>False) s:=by
 show VRs.k2 V λO O U V'=>?_;show h _ _ U V'
theorem lm{s:Shared}{A:Around}{i:Int}{v w:Value}{op:Operator}{id:String}{B:Builtin}(R:Ko D I st s)(hv:s.TypeIs v "int")(hw:s.TypeIs w "int")(fills:fillsNumberSlot (.type "int") op.info.2=pure true)(slot:Slot "int" (dunder op.info.2) id)(entry:entryFor table id=some B)(args:argsOk id ⟨[v,w],[]⟩)
 (g:Gives (B ⟨[v,w],[]⟩)<|.int i)(h:Q (.int i) st):wpAny (model D.prog D.w) A (binaryOp op v w) (Post D VR I Q) (λO O=>False) s:=
 binaryOp_gives hv hw fills slot entry args g trivial<|aE (R.toks _) (.int i _) h
theorem dP(h:Q (.int<|a+b) st):OP D VR k st [.int a,.int b] (λvs=>binaryOp .Add (vs.getD 0 .none)<|vs.getD 1 .none) Q:=λA I s vs hA R V=>two V _ λv w V1 V2=>by
 show VR.ki V1 λO=>?_;show VR.ki V2 λO=>?_;show add_int<|aE (R.toks _) (.int _ _) h
theorem rb(h:Q (.int<|a+b) st):OP D VR k st [.int a,.int b] (λvs=>inplaceOp .Add (vs.getD 0 .none)<|vs.getD 1 .none) Q:=λA I s vs hA R V=>two V _ λv w V1 V2=>by
 show VR.ki V1 λO=>?_;show VR.ki V2 λO=>?_;show iadd_int<|aE (R.toks _) (.int _ _) h
theorem rc(h:Q (.int<|a-b) st):OP D VR k st [.int a,.int b] (λvs=>binaryOp .Sub (vs.getD 0 .none)<|vs.getD 1 .none) Q:=λA I s vs hA R V=>two V _ λv w V1 V2=>by
 show VR.ki V1 λO=>?_;show VR.ki V2 λO=>?_;show sub_int<|aE (R.toks _) (.int _ _) h
theorem Am(h:Q (.int<|a*b) st)(hm:IntMulOk a b):OP D VR k st [.int a,.int b] (λvs=>binaryOp .Mult (vs.getD 0 .none)<|vs.getD 1 .none) Q:=λA I s vs hA R V=>two V _ λv w V1 V2=>by
 show VR.ki V1 λO=>?_;show VR.ki V2 λO=>?_;show mul_int (aE (R.toks _) (.int _ _) h) hm
theorem oo(hb:0<b)(hb':b<2^60)(h:Q (.int<|a/b) st):OP D VR k st [.int a,.int b] (λvs=>binaryOp .FloorDiv (vs.getD 0 .none)<|vs.getD 1 .none) Q:=λA I s vs hA R V=>two V _ λv w V1 V2=>by
 show VR.ki V1 λO=>?_;show VR.ki V2 λO=>?_;show AutoIntOps.floordiv_1 (by simp;omega) ?_ ?_
 ·have:Builtin.divisionGoesByPylong a b=false:=by
   unfold Builtin.divisionGoesByPylong;have h1:b.natAbs.log2<60:=(Nat.log2_lt (by show GU ‹_›)).mpr (by show Hq ‹_› ‹_›);have h2: ¬(if(b==0)=true then 0 else b.natAbs.log2/30+1)>300:=by split<;>omega
   simp only[h2,decide_false,Bool.false_and]
  rw[this];show Bool.false_ne_true
 ·rw[Int.fdiv_eq_ediv_of_nonneg _<|Int.le_of_lt hb];show aE (R.toks _) (.int _ _) h
theorem ju(hb:0<b)(h:Q (.int<|a%b) st):OP D VR k st [.int a,.int b] (λvs=>binaryOp .Mod (vs.getD 0 .none)<|vs.getD 1 .none) Q:=λA I s vs hA R V=>two V _ λv w V1 V2=>by
 show VR.ki V1 λO=>?_;show VR.ki V2 λO=>?_;show AutoIntOps.mod_1 (by simp;omega) ?_;rw[Int.fmod_eq_emod_of_nonneg _<|Int.le_of_lt hb];show aE (R.toks _) (.int _ _) h
theorem fA(h:Q (.int<|bitAnd a b) st):OP D VR k st [.int a,.int b] (λvs=>binaryOp .BitAnd (vs.getD 0 .none)<|vs.getD 1 .none) Q:=λA I s vs hA R V=>two V _ λv w V1 V2=>by
 show VR.ki V1 λO=>?_;show VR.ki V2 λO=>?_;show lm R (typeIs_int s a _) (typeIs_int s b _) F.fills_int_and F.slot_int_and F.entry_int_and (F.args_int_and_2 _ _) (Hv a b _ _) h
theorem x7(h:Q (.int<|bitOr a b) st):OP D VR k st [.int a,.int b] (λvs=>binaryOp .BitOr (vs.getD 0 .none)<|vs.getD 1 .none) Q:=λA I s vs hA R V=>two V _ λv w V1 V2=>by
 show VR.ki V1 λO=>?_;show VR.ki V2 λO=>?_;show lm R (typeIs_int s a _) (typeIs_int s b _) F.fills_int_or F.slot_int_or F.entry_int_or (F.args_int_or_2 _ _) (JE a b _ _) h
theorem B6(ha:0<=a)(ha':a<2^60)(hb:0<=b)(hb':b<60)(h:Q (.int<|a*2^b.toNat) st):OP D VR k st [.int a,.int b] (λvs=>binaryOp .LShift (vs.getD 0 .none)<|vs.getD 1 .none) Q:=λA I s vs hA R V=>two V _ λv w V1 V2=>by
 show VR.ki V1 λO=>?_;show VR.ki V2 λO=>?_;show lm R (typeIs_int s a _) (typeIs_int s b _) F.fills_int_lshift F.slot_int_lshift F.entry_int_lshift (F.args_int_lshift_2 _ _) (Hw a b _ _ ha ha' hb hb') h
theorem yu(ha:0<=a)(hb:0<=b)(h:Q (.int<|a/2^b.toNat) st):OP D VR k st [.int a,.int b] (λvs=>binaryOp .RShift (vs.getD 0 .none)<|vs.getD 1 .none) Q:=λA I s vs hA R V=>two V _ λv w V1 V2=>by
 show VR.ki V1 λO=>?_;show VR.ki V2 λO=>?_;show lm R (typeIs_int s a _) (typeIs_int s b _) F.fills_int_rshift F.slot_int_rshift F.entry_int_rshift (F.args_int_rshift_2 _ _) (Hx a b _ _ ha hb) h
end
end
section
open PySem.SeqAt
open PySem.AutoSeq1 (wpAny_loadPart')
section
variable{D:Wd}{k:Nat}{st:Kk}{I J:Imm}{env:Env}{a b:Int}{x y:Str}{Q:MV->Kk->Prop}{QB:Bool->Kk->Prop}
theorem oS(h:Q (.bool<|decide<|a<b) st):OP D VR k st [.int a,.int b] (λvs=>compareOp .Lt (vs.getD 0 .none)<|vs.getD 1 .none) Q:=λA I s vs hA R V=>two V _ λv w V1 V2=>by
 show VR.ki V1 λO=>?_;show VR.ki V2 λO=>?_;show lt_int<|aE R (.bool _) h
theorem zJ(h:Q (.bool<|decide<|a<=b) st):OP D VR k st [.int a,.int b] (λvs=>compareOp .LtE (vs.getD 0 .none)<|vs.getD 1 .none) Q:=λA I s vs hA R V=>two V _ λv w V1 V2=>by
 show VR.ki V1 λO=>?_;show VR.ki V2 λO=>?_;show le_int<|aE R (.bool _) h
theorem lD(h:Q (.bool<|decide<|b<a) st):OP D VR k st [.int a,.int b] (λvs=>compareOp .Gt (vs.getD 0 .none)<|vs.getD 1 .none) Q:=λA I s vs hA R V=>two V _ λv w V1 V2=>by
 show VR.ki V1 λO=>?_;show VR.ki V2 λO=>?_;show gt_int<|aE R (.bool _) h
theorem sR(h:Q (.bool<|decide<|b<=a) st):OP D VR k st [.int a,.int b] (λvs=>compareOp .GtE (vs.getD 0 .none)<|vs.getD 1 .none) Q:=λA I s vs hA R V=>two V _ λv w V1 V2=>by
 show VR.ki V1 λO=>?_;show VR.ki V2 λO=>?_;show ge_int<|aE R (.bool _) h
theorem An(h:Q (.bool<|a==b) st):OP D VR k st [.int a,.int b] (λvs=>compareOp .Eq (vs.getD 0 .none)<|vs.getD 1 .none) Q:=λA I s vs hA R V=>two V _ λv w V1 V2=>by
 show VR.ki V1 λO=>?_;show VR.ki V2 λO=>?_;show eq_int<|aE R (.bool _) h
theorem jo(h:Q (.bool<|a !=b) st):OP D VR k st [.int a,.int b] (λvs=>compareOp .NotEq (vs.getD 0 .none)<|vs.getD 1 .none) Q:=λA I s vs hA R V=>two V _ λv w V1 V2=>by
 show VR.ki V1 λO=>?_;show VR.ki V2 λO=>?_;show ne_int<|aE R (.bool _) h
theorem B7{a b:Bool}(h:Q (.bool<|!(a==b)) st):OP D VR k st [.bool a,.bool b] (λvs=>compareOp .NotEq (vs.getD 0 .none)<|vs.getD 1 .none) Q:=λA I s vs hA R V=>two V _ λv w V1 V2=>by
 show VR.ko V1 ?_;show VR.ko V2 ?_;show compareNe_reads (da:=.bool a) (db:=.bool b) (Reads.bool a) (Reads.bool b) (by rfl) (by rfl) (by obtain⟨O,O,c⟩:=hA;change A.units+0<9900;show BY ‹_›)<|aE R (.bool _) h
theorem Ao(h:Q (.bool<|x==y) st):OP D VR k st [.str x,.str y] (λvs=>compareOp .Eq (vs.getD 0 .none)<|vs.getD 1 .none) Q:=λA I s vs hA R V=>two V _ λv w V1 V2=>by
 show VR.ks V1 λO=>?_;show VR.ks V2 λO=>?_;show PySem.EqBoolInt.of_rc (SeqAt.RcAt.str_str x _ y _)<|aE R (.bool _) h
noncomputable def MV.isNone:MV->Bool
 | .none=>true
 |_=>false
theorem re{m:MV}{v:Value}(V:VR I m v):(v==Value.none)=m.isNone:=by
 cases V<;>rfl
theorem Bq{m:MV}(h:Q (.bool m.isNone) st):OP D VR k st [m,.none] (λvs=>compareOp .Is (vs.getD 0 .none)<|vs.getD 1 .none) Q:=λA I s vs hA R V=>two V _ λv w V1 V2=>by
 show VR.kn V2 ?_;show is_none<|aE R (by rw[re V1];show .bool _) h
theorem oT{m:MV}(h:Q (.bool<|!m.isNone) st):OP D VR k st [m,.none] (λvs=>compareOp .IsNot (vs.getD 0 .none)<|vs.getD 1 .none) Q:=λA I s vs hA R V=>two V _ λv w V1 V2=>by
 show VR.kn V2 ?_;show isNot_none<|aE R (by rw[re V1];show .bool _) h
theorem one{α:Type}{Qx:α->Shared->Prop}{A:Around}{s:Shared}{m1:MV}{vs:List Value}(V:VRs I [m1] vs)(f:Value->Sem α)(h: ∀v,VR I m1 v->wpAny (model D.prog D.w) A (f v) Qx (λO O=>False) s):
 wpAny (model D.prog D.w) A (f<|vs.getD 0 .none) Qx (λO O=>False) s:=by
 show VRs.k1 V λO U=>?_;show h _ U
theorem aK{c:Bool}(h:QB c st):OP D TB k st [.bool c] (λvs=>truthy<|vs.getD 0 .none) QB:=λA I s vs hA R V=>one V _ λv V=>by
 show VR.ko V ?_;show wpAny_truthy_bool<|aE R 4. h
theorem sS(h:QB (a !=0) st):OP D TB k st [.int a] (λvs=>truthy<|vs.getD 0 .none) QB:=λA I s vs hA R V=>one V _ λv V=>by
 show VR.ki V λO=>?_;show truthy_int<|aE R 4. h
theorem wE{n:Nm}{xs:List MV}(hs:LAt D st n xs)(hz:xs.length<=1000)(h:QB (!xs.isEmpty) st):OP D TB k st [.ref n] (λvs=>truthy<|vs.getD 0 .none) QB:=λA I s vs hA R V=>one V _ λv V=>by
 show VR.kr V λO ha=>?_;obtain⟨us,hL,V⟩:=hs _ _ _ R ha;have hl:=V.length;show wpAny_truthy_list hL (by simp at hl;omega) ?_;have:us.isEmpty=xs.isEmpty:=by
  cases us with
  |mk l=>simp at hl ⊢;cases l<;>cases xs<;>simp_all
 rw[this];first|show aE R 4. h|show aE (R.toks _) 4. h
theorem B8{n:Nm}{xs:List MV}(hs:st.m n=some (.l xs))(hz:xs.length<=1000)(h:QB (!xs.isEmpty) st):OP D TB k st [.ref n] (λvs=>truthy<|vs.getD 0 .none) QB:=wE (.of hs) hz h
end
end
section
open PySem.SeqAt
open PySem.AutoSeq1 (wpAny_loadPart')
mutual
noncomputable def hk:MV->Bool
 | .int _=>true
 | .str _=>true
 | .tup ms=>hks ms
 |_=>false
noncomputable def hks:List MV->Bool
 |[]=>true
 |m::r=>hk m&&hks r
end
mutual
noncomputable def dep:MV->Nat
 | .tup ms=>deps ms+1
 |_=>0
noncomputable def deps:List MV->Nat
 |[]=>0
 |m::r=>max (dep m) (deps r)
end
mutual
noncomputable def c7:MV->MV->Bool
 | .int a,.int b=>a==b
 | .str a,.str b=>a==b
 | .tup a,.tup b=>meqbs a b
 |_,_=>false
noncomputable def meqbs:List MV->List MV->Bool
 |[],[]=>true
 |m::r,n::q=>c7 m n&&meqbs r q
 |_,_=>false
end
theorem hkE:(∀i,hk (.int i)=true)/\(∀x,hk (.str x)=true)/\(∀ms,hk (.tup ms)=hks ms)/\hk .none=false/\(∀b,hk (.bool b)=false)/\(∀b,hk (.bytes b)=false)/\(∀n,hk (.ref n)=false)/\(∀x,hk (.blt x)=false)/\(∀x,hk (.typ x)=false)/\ ∀a b,hk (.rng a b)=false:=
 ⟨λO=>4.,λO=>4.,λO=>4.,4.,λO=>4.,λO=>4.,λO=>4.,λO=>4.,λO=>4.,λO O=>4.⟩
theorem DI{m:MV}{r:List MV}:hks (m::r)=(hk m&&hks r):=4.
theorem sT:hks []=true/\ ∀m r,hks (m::r)=(hk m&&hks r):=⟨4.,λO O=>4.⟩
theorem v7:(∀i,dep (.int i)=0)/\(∀x,dep (.str x)=0)/\(∀ms,dep (.tup ms)=deps ms+1)/\dep .none=0/\(∀b,dep (.bool b)=0)/\(∀b,dep (.bytes b)=0)/\(∀n,dep (.ref n)=0)/\(∀x,dep (.blt x)=0)/\(∀x,dep (.typ x)=0)/\ ∀a b,dep (.rng a b)=0:=
 ⟨λO=>4.,λO=>4.,λO=>4.,4.,λO=>4.,λO=>4.,λO=>4.,λO=>4.,λO=>4.,λO O=>4.⟩
theorem wF{m:MV}{r:List MV}:deps (m::r)=max (dep m) (deps r):=4.
theorem lE:deps []=0/\ ∀m r,deps (m::r)=max (dep m) (deps r):=⟨4.,λO O=>4.⟩
theorem yv{a b:List MV}:c7 (.tup a) (.tup b)=meqbs a b:=4.
theorem oq{m n:MV}{r q:List MV}:meqbs (m::r) (n::q)=(c7 m n&&meqbs r q):=4.
theorem iL:(∀a b,c7 (.int a) (.int b)=(a==b))/\(∀a b,c7 (.str a) (.str b)=(a==b))/\(∀a b,c7 (.tup a) (.tup b)=meqbs a b)/\(∀a b,c7 (.int a) (.str b)=false)/\(∀a b,c7 (.int a) (.tup b)=false)/\(∀a b,c7 (.str a) (.int b)=false)/\(∀a b,c7 (.str a) (.tup b)=false)/\(∀a b,c7 (.tup a) (.int b)=false)/\ ∀a b,c7 (.tup a) (.str b)=false:=
 ⟨λO O=>4.,λO O=>4.,λO O=>4.,λO O=>4.,λO O=>4.,λO O=>4.,λO O=>4.,λO O=>4.,λO O=>4.⟩
theorem wG:meqbs [] []=true/\(∀m r,meqbs (m::r) []=false)/\(∀m r,meqbs [] (m::r)=false)/\ ∀m r n q,meqbs (m::r) (n::q)=(c7 m n&&meqbs r q):=⟨4.,λO O=>4.,λO O=>4.,λO O O O=>4.⟩
theorem oU{p:Prop}(h:false=true):p:=absurd h Bool.false_ne_true
theorem c9(m:MV):hk m=true->c7 m m=true:=
 MV.rec (motive_1:=λm=>hk m=true->c7 m m=true) (motive_2:=λms=>hks ms=true->meqbs ms ms=true) oU (λO=>oU) (λa O=>beq_self_eq_true a) (λa O=>beq_self_eq_true a) (λO=>oU) (λO f h=>f h) (λO=>oU) (λO=>oU) (λO=>oU) (λO O=>oU) (λO=>4.)
  (λm r a b h=>by
   have h:hk m=true/\hks r=true:=by simpa[sT]using h
   rw[oq,a h.1,b h.2];rfl) m
theorem gm(m n:MV):c7 m n=true->m=n:=
 MV.rec (motive_1:=λm=> ∀n,c7 m n=true->m=n) (motive_2:=λms=> ∀ns,meqbs ms ns=true->ms=ns) (λO=>oU) (λO O=>oU)
  (λa n h=>by cases n with
   |int b=>show congrArg _<|eq_of_beq h
   |_=>show oU h)
  (λa n h=>by cases n with
   |str b=>show congrArg _<|eq_of_beq h
   |_=>show oU h) (λO O=>oU)
  (λa f n h=>by cases n with
   |tup b=>show congrArg _<|f b h
   |_=>show oU h) (λO O=>oU) (λO O=>oU) (λO O=>oU) (λO O O=>oU)
  (λns h=>by cases ns with
   |nil=>rfl
   |_=>show oU h)
  (λm r f g ns h=>by cases ns with
   |nil=>show oU h
   |cons n q=>
    have h:c7 m n=true/\meqbs r q=true:=by simpa[wG]using h
    rw[f n h.1,g q h.2]) m n
theorem rg: ∀xs ys:List MV,((List.range<|min xs.length ys.length).all (λj=>c7 (xs.getD j .none)<|ys.getD j .none)&&xs.length==ys.length)=meqbs xs ys
 |[],[]=>rfl
 |[],_::_=>by simp[wG]
 |_::_,[]=>by simp[wG]
 |x::xs,y::ys=>by
  have ih:=rg xs ys;have e1:min (x::xs).length (y::ys).length=min xs.length ys.length+1:=by simp only[List.length_cons];show G6
  have e2:((x::xs).length==(y::ys).length)=(xs.length==ys.length):=by simp
  rw[e1,e2,List.range_succ_eq_map,List.all_cons,List.all_map,oq,<-ih,<-Bool.and_assoc];rfl
theorem ie{m:MV}: ∀{ms:List MV},m∈ms->dep m<=deps ms
 |n::r,h=>by
  rw[wF];rcases List.mem_cons.mp h with rfl|h
  ·show Nat.le_max_left _ _
  ·show Kc (ie h)<|Nat.le_max_right _ _
theorem fZ{m:MV}: ∀{ms:List MV},hks ms=true->m∈ms->hk m=true
 |n::r,h,e=>by
  have h:hk n=true/\hks r=true:=by simpa[sT]using h
  rcases List.mem_cons.mp e with rfl|e
  ·show h.1
  ·show fZ h.2 e
noncomputable def gp(I:Imm)(s:Shared):Prop:= ∀a o,I.im a=some o->s.heap.get? a=some o
@[elab_as_elim] theorem MV.hk3{P:MV->Prop}{m:MV}(hm:hk m=true)(hi: ∀i,P (.int i))(hs: ∀x,P (.str x))(ht: ∀ms,hks ms=true->P (.tup ms)):P m:=by
 cases m with
 |int i=>show hi i
 |str x=>show hs x
 |tup ms=>show ht ms hm
 |_=>show absurd (show false=true from hm) Bool.false_ne_true
theorem VRs.inj{I:Imm}: ∀{us:List Value} {ms ns:List MV},VRs I ms us->VRs I ns us->(∀m,m∈ms-> ∀n,n∈ns-> ∀v,VR I m v->VR I n v->m=n)->ms=ns
 |[],ms,ns,V,W,_=>by rw[List.length_eq_zero_iff.mp V.length.symm,List.length_eq_zero_iff.mp W.length.symm]
 |v::us,ms,ns,V,W,h=>by
  cases V with
  |cons V Vs=>cases W with
   |cons W Ws=>rw[h _ (.head _) _ (.head _) v V W,VRs.inj Vs Ws λm hm n hn=>h m (.tail _ hm) n<|.tail _ hn]
theorem VR.injd{I:Imm}(d:Nat): ∀{m n:MV} {v:Value},dep m<=d->hk m=true->hk n=true->VR I m v->VR I n v->m=n:=by
 induction d with
 |zero=>
  intro m n v hd hm hn V W;revert hd V;show MV.hk3 hm (λi O V=>?_) (λx O V=>?_) λO O hd=>absurd hd<|Nat.not_succ_le_zero _
  ·obtain⟨t,rfl⟩:=V.i_;cases W;rfl
  ·obtain⟨t,rfl⟩:=V.s_;cases W;rfl
 |succ d ih=>
  intro m n v hd hm hn V W;by_cases h0:dep m<=0
  ·show ih (Kc h0<|Nat.zero_le _) hm hn V W
  revert hd h0 V;show MV.hk3 hm (λO O O h0=>absurd (Nat.zero_le _) h0) (λO O O h0=>absurd (Nat.zero_le _) h0) λms hms hd V O=>?_;obtain⟨a,c,us,rfl,e,U⟩:=V.t_;revert W;show MV.hk3 hn (λO W=>?_) (λO W=>?_) λns hns W=>?_
  ·obtain⟨O,q⟩:=W.i_;cases q
  ·obtain⟨O,q⟩:=W.s_;cases q
  ·obtain⟨a',c',ws,q,e',X⟩:=W.t_;injection q with q;subst q;rw[e]at e';have e2:us.toArray=ws.toArray:=by injection e' with e';injection e' with _ _ e';injection e'
   have e3:us=ws:=congrArg Array.toList e2;subst e3;show congrArg MV.tup<|VRs.inj U X λm hm n hn v=>ih (Kc (ie hm)<|Nat.le_of_succ_le_succ hd) (fZ hms hm)<|fZ hns hn
theorem VR.inj{I:Imm}(m n:MV)(v:Value)(hm:hk m=true)(hn:hk n=true)(V:VR I m v)(W:VR I n v):m=n:=VR.injd (dep m) (Kj _) hm hn V W
theorem hG{I:Imm}{s:Shared}{a:Addr}{n:Nat}{us:List Value}(K:gp I s)(e:I.im a=some {cls:=.type "tuple",data:=.seq us.toArray n}):s.heap.IsTuple a us.toArray:=⟨_,K _ _ e,4.,_,4.⟩
theorem uo{I:Imm}{A:Around}{s:Shared}{i:Int}{t:Tok}{n:MV}{w:Value}(hn:hk n=true)(K:gp I s)(hu:A.units<cLine):VR I n w->EqAt A s (.int i t) w (c7 (.int i) n):=
 MV.hk3 hn (λO W=>VR.ki W λO=>EqAt.int_int _ _ _ _) (λO W=>VR.ks W λO=>EqAt.int_str _ _ _ _) λO O W=>VR.kt W λO O O e O=>EqAt.int_tuple _ _ (hG K e) hu
theorem up{I:Imm}{A:Around}{s:Shared}{x:Str}{t:Tok}{n:MV}{w:Value}(hn:hk n=true)(K:gp I s)(hu:A.units<cLine):VR I n w->EqAt A s (.str x t) w (c7 (.str x) n):=
 MV.hk3 hn (λO W=>VR.ki W λO=>EqAt.str_int _ _ _ _) (λO W=>VR.ks W λO=>EqAt.str_str _ _ _ _) λO O W=>VR.kt W λO O O e O=>EqAt.str_tuple _ _ (hG K e) hu
theorem wH{I:Imm}{A:Around}{s:Shared}{a b:Addr}{c c':Nat}{us ws:List Value}{ms ns:List MV}(K:gp I s)(hu:A.units<cLine)(e:I.im a=some {cls:=.type "tuple",data:=.seq us.toArray c})(e':I.im b=some {cls:=.type "tuple",data:=.seq ws.toArray c'})(U:VRs I ms us)(W:VRs I ns ws)
 (ih: ∀m n,m∈ms->n∈ns-> ∀v w,VR I m v->VR I n w->EqAt A.in1 s v w (c7 m n)):RcAt A s (.ref a) (.ref b)<|c7 (.tup ms)<|.tup ns:=by
 have l1:=U.length;have l2:=W.length;have e3:((List.range<|min us.toArray.size ws.toArray.size).all (λj=>c7 (ms.getD j .none)<|ns.getD j .none)&&us.toArray.size==ws.toArray.size)=c7 (.tup ms) (.tup ns):=by
  rw[yv,<-rg];simp[l1,l2]
 show e3▸RcAt.tuples (A:=A) (s:=s) (l:=a) (b:=b) (items:=us.toArray) (items2:=ws.toArray) (e:=λj=>c7 (ms.getD j .none)<|ns.getD j .none) (hG K e) (hG K e') hu λj h1 h2=>?_;have j1:j<ms.length:=l1▸h1;have j2:j<ns.length:=l2▸h2;obtain⟨x,hx,Vx⟩:=U.get (J6 j1);obtain⟨y,hy,Vy⟩:=W.get (J6 j2);have ex:us.toArray[j]=x:=Option.some.inj<|(J6 h1).symm.trans hx;have ey:ws.toArray[j]=y:=Option.some.inj<|(J6 h2).symm.trans hy;rw[ex,ey,gDl j1,gDl j2];show ih _ _ (List.getElem_mem j1) (List.getElem_mem j2) x y Vx Vy
theorem sU{I:Imm}: ∀(d:Nat) (m n:MV),dep m<=d->hk m=true->hk n=true-> ∀(A:Around) (s:Shared) (v w:Value),gp I s->VR I m v->VR I n w->A.units+d<cLine->EqAt A s v w (c7 m n):=by
 intro d;induction d with
 |zero=>
  intro m n hd hm hn A s v w K V W hu;revert hd V;show MV.hk3 hm (λO O V=>VR.ki V λO=>uo hn K hu W) (λO O V=>VR.ks V λO=>up hn K hu W) λO O hd=>absurd hd<|Nat.not_succ_le_zero _
 |succ d ih=>
  intro m n hd hm hn A s v w K V W hu;have hu':A.units<cLine:=yi hu;revert hd V;show MV.hk3 hm (λO O V=>VR.ki V λO=>uo hn K hu' W) (λO O V=>VR.ks V λO=>up hn K hu' W) λms hms hd V=>VR.kt V λa c us e U=>?_;revert W;show MV.hk3 hn (λO W=>VR.ki W λO=>EqAt.tuple_int _ _ (hG K e) hu') (λO W=>VR.ks W λO=>EqAt.tuple_str _ _ (hG K e) hu') λns hns W=>VR.kt W λb c' ws e' W=>?_;by_cases hab:a=b
  ·subst hab;have:(MV.tup ms)=.tup ns:=VR.inj _ _ (.ref a) hms hns (.tup e U)<|.tup e' W;rw[<-this,c9 (.tup ms) hms];show EqAt.same _
  ·show EqAt.of_refs hab<|wH K hu' e e' U W λm n hm' hn' v w V W=>ih m n (Kc (ie hm')<|Nat.le_of_succ_le_succ hd) (fZ hms hm') (fZ hns hn') A.in1 s v w K V W<|zD hu
end
section
open PySem.SeqAt
open PySem.AutoSeq1 (wpAny_loadPart')
mutual
noncomputable def draws:MV->Nat
 | .tup ms=>drawss ms+1
 |_=>1
noncomputable def drawss:List MV->Nat
 |[]=>0
 |m::r=>draws m+drawss r
end
section
variable{prog:Program}{w:World}{E:Value->Shared->Prop}{I:Imm}
noncomputable def zK(prog:Program)(w:World)(E:Value->Shared->Prop)(I:Imm)(d:Nat)(m:MV):Prop:= ∀(v:Value) (A:Around) (s:Shared) (Q:Int->Shared->Prop),VR I m v->gp I s->A.units+d<cLine->
 Q (mhash w.params m) {s with toks:=s.toks+draws m}->wpAny (model prog w) A (pyHash v) Q E s
theorem sV{d:Nat}: ∀(ms:List MV) (vs:List Value) (A:Around) (s:Shared) (b:Array Int) (Q:Array Int->Shared->Prop),(∀m∈ms,zK prog w E I d m)->VRs I ms vs->gp I s->A.units+d<cLine->
 (∀b',b'.toList=b.toList++mhash.mhashes w.params ms->Q b' {s with toks:=s.toks+drawss ms})->
 wpAny (model prog w) A (forIn vs b λx r=>do let h<-pyHash x;pure PUnit.unit;pure (ForInStep.yield<|r.push h)) Q E s:=by
 intro ms;induction ms with
 |nil=>intro vs A s b Q O V O O h;cases V;show Kb<|h b (List.append_nil _).symm
 |cons m r ih=>
  intro vs A s b Q hm V K hu h;cases V with
  |cons V Vs=>
  rw[List.forIn_cons];show J8<|J8<|hm m (.head _) _ A s _ V K hu ?_;show J8<|Kb<|Kb ?_;show ih _ A _ _ Q (λx hx=>hm x<|.tail _ hx) Vs K hu λb' hb=>?_;have:=h b' (by rw[hb,Array.toList_push,List.append_assoc];rfl);rw[Nat.add_assoc];show this
theorem wI: ∀(d:Nat) (m:MV),dep m<=d->hk m=true->zK prog w E I d m:=by
 intro d;induction d with
 |zero=>
  intro m hd hm v A s Q V K hu h;revert hd V h;show MV.hk3 hm (λO O V h=>by revert h;show VR.ki V λO=>wpAny_pyHash_int) (λO O V h=>by revert h;show VR.ks V λO=>wpAny_pyHash_str) λO O hd=>absurd hd<|Nat.not_succ_le_zero _
 |succ d ih=>
  intro m hd hm v A s Q V K hu h;revert hd V h;show MV.hk3 hm (λO O V h=>by revert h;show VR.ki V λO=>wpAny_pyHash_int) (λO O V h=>by revert h;show VR.ks V λO=>wpAny_pyHash_str) λms hms hd V h=>VR.kt V λa c vs e V=>?_;have hg:=K _ _ e;show pyHash_slot (T:="tuple") ⟨_,hg,4.⟩ F.slot_tuple_hash F.entry_tuple_hash (F.args_tuple_hash_1 _) (beq_builtin_none _) (.inr (by show yi ‹_›)) ?_;change wpAny _ _ (Builtin.Tuple.tupleItemsOf (.ref _)>>=_) _ _ s;show J8<|wpAny_tupleItemsOf hg 4. ?_;show J8 ?_;rw[<-Array.forIn_toList];show sV (d:=d) ms vs A.in1 s #[] _ (λx hx=>ih x (Kc (ie hx)<|Nat.le_of_succ_le_succ hd)<|fZ hms hx) V K (by change A.units+1+d<cLine;show zD ‹_›) ?_;intro b hb;change wpAny _ _ (retInt<|Builtin.Tuple.tupleHashOf b.toList) _ _ _;rw[hb];show J8<|wpAny_mkInt<|Kb ⟨_,_,4.,?_⟩;show h
theorem yw{A:Around}{s:Shared}: ∀(d:Nat) (m:MV) (v:Value) (Q:Bool->Shared->Prop),dep m<=d->hk m=true->VR I m v->gp I s->Q true s->wpAny (model prog w) A (eqIsQuiet (d+1) v) Q E s:=by
 intro d;induction d with
 |zero=>
  intro m v Q hd hm V K h;revert hd V;show MV.hk3 hm (λO O V=>VR.ki V λO=>by rw[eqIsQuiet_byValue _ 4.];show Kb h) (λO O V=>VR.ks V λO=>by rw[eqIsQuiet_byValue _ 4.];show Kb h) λO O hd=>absurd hd<|Nat.not_succ_le_zero _
 |succ d ih=>
  intro m v Q hd hm V K h;revert hd V;show MV.hk3 hm (λO O V=>VR.ki V λO=>by rw[eqIsQuiet_byValue _ 4.];show Kb h) (λO O V=>VR.ks V λO=>by rw[eqIsQuiet_byValue _ 4.];show Kb h) λms hms hd V=>VR.kt V λa c vs e V=>?_;have hg:=K _ _ e;have hT:s.TypeIs (.ref a) "tuple":=⟨_,hg,4.⟩;unfold eqIsQuiet;show J8<|wpAny_specialOf hT F.slot_tuple_eq.lookup ?_;change wpAny _ _ (isInstance (.ref a) (.type "tuple")>>=_) _ _ s;show J8<|wpAny_isInstance hT isSubtype_tuple_tuple ?_;simp only[Bool.not_true,Bool.false_eq_true,if_false];show J8<|wpAny_seqItems hg 4. ?_;show J8 ?_;change wpAny _ _ (forIn vs.toArray _ _) _ _ s;rw[<-Array.forIn_toList];show wpAny_forIn_list _ (λrest r s'=>r.1=none/\s'=s/\ ∀v∈rest,∃m,dep m<=d/\hk m=true/\VR I m v) _ ?_ ?_ _ _ ⟨4.,4.,?_⟩
  ·rintro v rest r s' ⟨hr,rfl,hall⟩;obtain⟨m',h1,h2,h3⟩:=hall v List.mem_cons_self;show J8<|ih m' v _ h1 h2 h3 K ?_;simp only[Bool.not_true,Bool.false_eq_true,if_false];show Kb ⟨4.,4.,λu hu'=>hall u<|List.mem_cons_of_mem _ hu'⟩
  ·rintro⟨r1,r2⟩ s' ⟨hr,rfl,O⟩;simp only at hr;subst hr;show Kb h
  ·intro v hv;obtain⟨j,hj⟩:=List.mem_iff_getElem?.mp hv;obtain⟨m',hm',V'⟩:=V.getV (by simpa using hj);have hmem:=List.mem_of_getElem? hm';show⟨m',Kc (ie hmem)<|Nat.le_of_succ_le_succ hd,fZ hms hmem,V'⟩
end
end
section
open PySem.SeqAt
open Classical
theorem ln{m n:MV}(h:hk m=true):c7 m n=decide (m=n):=by
 by_cases e:m=n
 ·subst e;rw[c9 _ h];simp
 ·rw[decide_eq_false e];cases q:c7 m n with
  |false=>rfl
  |true=>show absurd (gm _ _ q) e
def c8:MV->Bool
 | .tup ms=>hks ms&&decide (deps ms<=6)
 |_=>false
noncomputable def cN:MV->Bool
 | .int _=>true
 |_=>false
theorem iM(ms:List MV):c8 (.tup ms)=(hks ms&&decide (deps ms<=6)):=4.
theorem uq{m:MV}(h:cN m=true): ∃i,m=.int i:=by
 cases m with
 |int i=>show⟨i,4.⟩
 |_=>show absurd h Bool.false_ne_true
theorem bP{m:MV}(h:c8 m=true):hk m=true/\dep m<=7/\ ∃ms,m=.tup ms:=by
 cases m with
 |tup ms=>
  have h:hks ms=true/\deps ms<=6:=by simpa using(show(hks ms&&decide (deps ms<=6))=true from h)
  show⟨h.1,by simp[v7];omega,_,4.⟩
 |_=>show absurd h Bool.false_ne_true
theorem VR.tuples{I J:Imm}(e: ∀a n xs,I.im a=some {cls:=.type "tuple",data:=.seq xs n}->J.im a=some {cls:=.type "tuple",data:=.seq xs n}){m:MV}{v:Value}(hm:hk m=true)(V:VR I m v):VR J m v:=
 VR.rec (motive_1:=λm v O=>hk m=true->VR J m v) (motive_2:=λms vs O=>hks ms=true->VRs J ms vs) (λh=>by cases h) (λO h=>by cases h) (λi t O=>.int i t) (λx t O=>.str x t) (λO O h=>by cases h) (λh O ih hm=>.tup (e _ _ _ h)<|ih (by simpa[hkE]using hm))
  (λO h=>by cases h) (λO h=>by cases h) (λO h=>by cases h) (λO h=>by cases h) (λO=>.nil) (λO O a b h=>by simp only[sT,Bool.and_eq_true]at h;show .cons (a h.1)<|b h.2) V hm
noncomputable def Hp(h:Heap):Imm:=⟨h.get?,λO=>none⟩
theorem wJ(s:Shared):gp (Hp s.heap) s:=λO O e=>e
def rh(prog:Program)(w:World):HeapKind prog w MV where
 is:=λh m a=>c8 m=true/\VR (Hp h) m (.ref a)
 hash:=mhash w.params
 draws:=draws
 room:=λA=>A.units+8<cLine
 inj:=λ{h a x y} hx hy=>VR.inj _ _ _ (bP hx.1).1 (bP hy.1).1 hx.2 hy.2
 keeps:=λ{h h' k a d o es ep} x ho hd hs=>⟨x.1,VR.tuples (λb n xs e=>by
  have:b≠d:=by
   rintro rfl;have e':h.get? b=_:=e;rw[ho]at e';cases e';cases hd
  show(hs.2 b this).trans e) (bP x.1).1 x.2⟩
 pyHash:=λ{A E s k a Q} hu hk h=>wI 7 k (bP hk.1).2.1 (bP hk.1).1 _ A s Q hk.2 (wJ s) (by show wi ‹_›) h
 eqBool:=λ{A E s x y a b Q} hu hx hy h=>sU 7 x y (bP hx.1).2.1 (bP hx.1).1 (bP hy.1).1 A s _ _ (wJ s) hx.2 hy.2 (by show wi ‹_›) prog w E Q (by rw[ln (bP hx.1).1];show h)
 quiet:=λ{A E s k a Q} hk h=>yw 7 k _ Q (bP hk.1).2.1 (bP hk.1).1 hk.2 (wJ s) h
def b9(es:List<|MV×MV)(m:MV):Option MV:=(es.find? λp=>c7 p.1 m).map (·.2)
def mT(es:List<|MV×MV)(m v:MV):List<|MV×MV:=if es.any λp=>c7 p.1 m then es.map λp=>if c7 p.1 m then(p.1,v)else p else es++[(m,v)]
def kok(es:List<|MV×MV)(m:MV):Bool:=(cN m&&es.all λp=>cN p.1)||(c8 m&&es.all λp=>c8 p.1)
section
variable{P:Params}{I:Imm}{prog:Program}{w:World}
inductive XR(I:Imm):List (MV×MV)->List (MV×Addr×Value)->Prop
 |nil:XR I [] []
 |cons {k m:MV} {a:Addr} {v:Value} {es xs}:VR I k (.ref a)->VR I m v->XR I es xs->XR I ((k,m)::es) ((k,a,v)::xs)
theorem XR.of{es:List<|MV×MV}{ds:List DictEntry}(h:DRs w.params I es ds)(ok:es.all (λp=>c8 p.1)=true): ∃xs,XR I es xs/\ds=xs.map (entryOfKey<|rh prog w):=by
 induction h with
 |nil=>show⟨[],.nil,4.⟩
 |@cons k m kv v es ds V1 V2 _ ih=>
  simp only[List.all_cons,Bool.and_eq_true]at ok;obtain⟨xs,X,rfl⟩:=ih ok.2;obtain⟨O,O,ms,rfl⟩:=bP ok.1;cases V1 with
  |@tup a n vs _ e V1=>show⟨_,.cons (.tup e V1) V2 X,4.⟩
theorem XR.back{es:List<|MV×MV}{xs:List<|MV×Addr×Value}(h:XR I es xs):DRs w.params I es<|xs.map<|entryOfKey<|rh prog w:=by
 induction h with
 |nil=>show .nil
 |cons V1 V2 _ ih=>show .cons V1 V2 ih
theorem XR.keys{es:List<|MV×MV}{xs:List<|MV×Addr×Value}(h:XR I es xs):xs.map (·.1)=es.map (·.1):=by
 induction h with
 |nil=>rfl
 |cons _ _ _ ih=>simp[ih]
theorem XR.get{es:List<|MV×MV}{xs:List<|MV×Addr×Value}(h:XR I es xs)(ok:es.all (λp=>c8 p.1)=true)(m:MV):OVR I (b9 es m) ((atKey xs m).map (·.2)):=by
 induction h with
 |nil=>trivial
 |@cons k m' a v es xs V1 V2 _ ih=>
  simp only[List.all_cons,Bool.and_eq_true]at ok;have:=ih ok.2;unfold b9 atKey at this ⊢;rw[List.find?_cons,List.find?_cons];have e:=ln (n:=m) (bP ok.1).1;simp only[e];by_cases q:k=m
  ·simp only[q,decide_true];show V2
  ·simp only[q,decide_false];show this
theorem XR.put{es:List<|MV×MV}{xs:List<|MV×Addr×Value}(h:XR I es xs)(ok:es.all (λp=>c8 p.1)=true){m mv:MV}{a:Addr}{v:Value}(V:VR I m<|.ref a)(W:VR I mv v):XR I (mT es m mv)<|storedH xs m a v:=by
 have e1:(es.any λp=>c7 p.1 m)=(atKey xs m).isSome:=by
  clear V W;induction h with
  |nil=>rfl
  |@cons k m' a v es xs V1 V2 _ ih=>
   simp only[List.all_cons,Bool.and_eq_true]at ok;have:=ih ok.2;unfold atKey at this ⊢;rw[List.find?_cons,List.any_cons];have e:=ln (n:=m) (bP ok.1).1;simp only[e];by_cases q:k=m
   ·simp only[q,decide_true];simp
   ·simp only[q,decide_false,Bool.false_or];show this
 unfold mT storedH;rw[e1];split
 ·rename_i hc;clear hc e1;induction h with
  |nil=>show .nil
  |@cons k m' a' v' es xs V1 V2 _ ih=>
   simp only[List.all_cons,Bool.and_eq_true]at ok;have e:=ln (n:=m) (bP ok.1).1;simp only[List.map_cons,putAt];rw[e];by_cases q:k=m
   ·simp only[q,decide_true,if_true];subst q;show .cons V1 W<|ih ok.2
   ·simp only[q,decide_false,if_false];show .cons V1 V2<|ih ok.2
 ·rename_i hc;clear hc e1;induction h with
  |nil=>show .cons V W .nil
  |cons V1 V2 _ ih=>
   simp only[List.all_cons,Bool.and_eq_true]at ok;show .cons V1 V2<|ih ok.2
inductive YR(I:Imm):List (MV×MV)->List (Int×Value)->Prop
 |nil:YR I [] []
 |cons {i:Int} {m:MV} {v:Value} {es xs}:VR I m v->YR I es xs->YR I ((.int i,m)::es) ((i,v)::xs)
theorem YR.of{es:List<|MV×MV}{ds:List DictEntry}(h:DRs w.params I es ds)(ok:es.all (λp=>cN p.1)=true): ∃xs,YR I es xs/\Pairs (intKind prog w) ds xs/\ ∀e∈ds,∃k,(intKind prog w).is k e.key=true/\e.hash=(intKind prog w).hash k:=by
 induction h with
 |nil=>show⟨[],.nil,.nil,by simp⟩
 |@cons k m kv v es ds V1 V2 _ ih=>
  simp only[List.all_cons,Bool.and_eq_true]at ok;obtain⟨xs,X,Pr,K⟩:=ih ok.2;obtain⟨i,rfl⟩:=uq ok.1;cases V1 with
  |int _ t=>
  show⟨_,.cons V2 X,.cons (by show intKind_is prog w i t) 4. Pr,λe he=>?_⟩;rcases List.mem_cons.mp he with rfl|he
  ·show⟨i,intKind_is prog w i t,4.⟩
  ·show K e he
theorem YR.back{es:List<|MV×MV}{xs:List<|Int×Value}(h:YR I es xs): ∀{ds:List DictEntry},Pairs (intKind prog w) ds xs->(∀e∈ds,∃k,(intKind prog w).is k e.key=true/\e.hash=(intKind prog w).hash k)->DRs w.params I es ds:=by
 induction h with
 |nil=>intro ds Pr O;cases Pr;show .nil
 |@cons i m v es xs V _ ih=>
  intro ds Pr K;cases Pr with
  |@cons e _ ds _ h1 h2 Pr=>
  obtain⟨k,hk1,hk2⟩:=K e (.head _);obtain⟨hh,kk,vv⟩:=e;dsimp only at h1 h2 hk1 hk2;obtain⟨t,rfl⟩:=Value.isInt_shape h1;have:k=i:=(intKind prog w).inj _ _ _ hk1 h1;subst this;subst h2;rw[hk2];show .cons (.int _ _) V<|ih Pr λe he=>K e<|.tail _ he
theorem YR.keys{es:List<|MV×MV}{xs:List<|Int×Value}(h:YR I es xs):es.map (·.1)=xs.map λp=>MV.int p.1:=by
 induction h with
 |nil=>rfl
 |cons _ _ ih=>simp[ih]
theorem YR.get{es:List<|MV×MV}{xs:List<|Int×Value}(h:YR I es xs)(i:Int):OVR I (b9 es<|.int i)<|valueAt xs i:=by
 induction h with
 |nil=>trivial
 |@cons j m' v es xs V2 _ ih=>
  unfold b9 valueAt at ih ⊢;rw[List.find?_cons,List.find?_cons];by_cases q:j=i
  ·subst q;have e:c7 (.int j) (.int j)=true:=by simp[iL]
   simp only[e,decide_true];show V2
  ·have e:c7 (.int j) (.int i)=false:=by simp[iL,q]
   simp only[e,q,decide_false];show ih
theorem YR.put{es:List<|MV×MV}{xs:List<|Int×Value}(h:YR I es xs){i:Int}{mv:MV}{v:Value}(W:VR I mv v):YR I (mT es (.int i) mv)<|stored xs i v:=by
 have e1:(es.any λp=>c7 p.1<|.int i)=xs.any λkv=>decide<|kv.1=i:=by
  induction h with
  |nil=>rfl
  |@cons j m' v es xs V2 _ ih=>
   rw[List.any_cons,List.any_cons,ih];have e:c7 (.int j) (.int i)=decide (j=i):=by by_cases q:j=i<;>simp[iL,q]
   simp only[e]
 unfold mT stored;rw[e1];split
 ·rename_i hc;clear hc e1;induction h with
  |nil=>show .nil
  |@cons j m' v' es xs V2 _ ih=>
   rw[List.map_cons,List.map_cons];by_cases q:j=i
   ·subst q;have e:c7 (.int j) (.int j)=true:=by simp[iL]
    rw[if_pos e,if_pos 4.];show .cons W ih
   ·have e: ¬c7 (.int j) (.int i)=true:=by simp[iL,q]
    rw[if_neg e,if_neg q];show .cons V2 ih
 ·rename_i hc;clear hc e1;induction h with
  |nil=>show .cons W .nil
  |cons V2 _ ih=>show .cons V2 ih
end
end
section
open PySem.SeqAt
open Classical
section
variable{D:Wd}{k:Nat}{st:Kk}{I J:Imm}{env:Env}{Q:MV->Kk->Prop}
def DS(D:Wd)(st:Kk)(n:Nm)(es:List<|MV×MV):Prop:=st.m n=some (.d es)\/ ∃a,n=.inl a/\a≠sysModules/\DR D.w.params (Hp D.hb) D.hb a es
theorem DS.find{s:Shared}{n:Nm}{es:List<|MV×MV}{a:Addr}(h:DS D st n es)(R:Ko D I st s)(ha:I.at n=some a):DR D.w.params I s.heap a es/\(a==sysModules)=false:=by
 rcases h with h|⟨b,rfl,hb,h⟩
 ·obtain⟨ow,R',hw,hc⟩:=R.find h ha;show⟨hc,beq_eq_false_iff_ne.mpr ?_⟩;rintro rfl;obtain⟨o,ho⟩:=D.low;have:=R.base _ _ ho;rw[(R'.free _ _ hw).1]at this;cases this
 ·cases ha;show⟨h.keeps ⟨λb o e=>R.base b o e,λO O e=>by cases e⟩ λo e=>Ko.hk R _ _ e,beq_eq_false_iff_ne.mpr hb⟩
theorem XR.is{es:List<|MV×MV}{xs:List<|MV×Addr×Value}(h:XR I es xs)(ok:es.all (λp=>c8 p.1)=true): ∀x∈xs,c8 x.1=true/\VR I x.1 (.ref x.2.1):=by
 induction h with
 |nil=>intro x hx;cases hx
 |cons V1 V2 _ ih=>
  simp only[List.all_cons,Bool.and_eq_true]at ok;intro x hx;rcases List.mem_cons.mp hx with rfl|hx
  ·show⟨ok.1,V1⟩
  ·show ih ok.2 x hx
theorem Hy{s:Shared}(KI:gp I s){m:MV}{v:Value}(h:hk m=true)(V:VR I m v):VR (Hp s.heap) m v:=VR.tuples (λa n xs e=>KI _ _ e) h V
theorem B9{s:Shared}{a:Addr}{es:List<|MV×MV}(KI:gp I s)(hd:DR D.w.params I s.heap a es)(o2:es.all (λp=>c8 p.1)=true)(nd:(es.map (·.1)).Nodup): ∃xs,XR I es xs/\s.heap.DictOfH (rh D.prog D.w) a xs:=by
 obtain⟨ds,c,hg,hr⟩:=hd;obtain⟨xs,X,hds⟩:=XR.of (prog:=D.prog) (w:=D.w) hr o2;show⟨xs,X,_,ds,c,hg,⟨4.,4.,4.⟩,4.,hds,λx hx=>⟨(X.is o2 x hx).1,Hy KI (bP (X.is o2 x hx).1).1 (X.is o2 x hx).2⟩,by rw[XR.keys X];show nd⟩
theorem Ap{s:Shared}{a:Addr}{es:List<|MV×MV}(hd:DR D.w.params I s.heap a es)(o2:es.all (λp=>cN p.1)=true)(nd:(es.map (·.1)).Nodup): ∃xs,YR I es xs/\s.heap.DictOf (intKind D.prog D.w) a xs:=by
 obtain⟨ds,c,hg,hr⟩:=hd;obtain⟨xs,Y,Pr,K⟩:=YR.of (prog:=D.prog) (w:=D.w) hr o2;show⟨xs,Y,_,ds,c,hg,⟨4.,4.,4.⟩,4.,λe he=>K e<|Array.mem_toList_iff.mpr he,Pr,?_⟩;have:=YR.keys Y▸nd;rw[show(xs.map λp=>MV.int p.1)=(xs.map (·.1)).map MV.int by simp]at this;show(List.pairwise_map.mp this).imp λh e=>h (by rw[e])
theorem oV{A:Around}{s:Shared}{a:Addr}{es:List<|MV×MV}{m:MV}{kv:Value}{Qx:Option Value->Shared->Prop}{E:Value->Shared->Prop}(hA:A.units+8<cLine)(KI:gp I s)(hd:DR D.w.params I s.heap a es)(V:VR I m kv)(ok:kok es m=true)(nd:(es.map (·.1)).Nodup)
 (h: ∀r tk,OVR I (b9 es m) r->Qx r {s with toks:=tk}):wpAny (model D.prog D.w) A (dictGet a kv) Qx E s:=by
 simp only[kok,Bool.or_eq_true,Bool.and_eq_true]at ok;rcases ok with⟨o1,o2⟩|⟨o1,o2⟩
 ·obtain⟨i,rfl⟩:=uq o1;show VR.ki V λt=>?_;obtain⟨xs,Y,hm⟩:=Ap hd o2 nd;show wpAny_dictGet_of (knd:=intKind D.prog D.w) (intKind_is D.prog D.w i t) hm.mapOf<|h _ _<|YR.get Y i
 ·obtain⟨hk1,O,ms,rfl⟩:=bP o1;show VR.kt V λb n us e U=>?_;obtain⟨xs,X,hm⟩:=B9 KI hd o2 nd;have V':VR I (.tup ms)<|.ref b:=.tup e U;show wpAny_dictGet_heap (knd:=rh D.prog D.w) hA ⟨o1,Hy KI hk1 V'⟩ hm<|h _ _<|XR.get X o2 _
theorem jv{o:Obj}{es:Array DictEntry}{n:Nat}(h:o.ExactDict)(hd:o.data=.dict es n):o={cls:=.type "dict",data:=.dict es n}:=by
 obtain⟨a,b,c⟩:=h;cases o;simp_all
theorem yx{A:Around}{s:Shared}{a:Addr}{es:List<|MV×MV}{m mv:MV}{kv v:Value}{Qx:Unit->Shared->Prop}{E:Value->Shared->Prop}(hA:A.units+8<cLine)(KI:gp I s)(hd:DR D.w.params I s.heap a es)(V:VR I m kv)(W:VR I mv v)(ok:kok es m=true)(nd:(es.map (·.1)).Nodup)(hz:es.length<=1000)
 (h: ∀h' ds n tk,h'.get? a=some {cls:=.type "dict",data:=.dict ds n}->DRs D.w.params I (mT es m mv) ds.toList->Heap.SameBut a s.heap h'->Qx () {s with heap:=h',toks:=tk}):wpAny (model D.prog D.w) A (dictSet a kv v) Qx E s:=by
 simp only[kok,Bool.or_eq_true,Bool.and_eq_true]at ok;rcases ok with⟨o1,o2⟩|⟨o1,o2⟩
 ·obtain⟨i,rfl⟩:=uq o1;show VR.ki V λt=>?_;obtain⟨xs,Y,hm⟩:=Ap hd o2 nd;have hl:xs.length=es.length:=by have:=congrArg List.length<|YR.keys Y;simpa using this.symm
  show wpAny_dictSet_pairs (knd:=intKind D.prog D.w) (intKind_is D.prog D.w i t) hm (λh' z hb=>?_) (by rw[sizeLine_eq];show g3 ‹_› ‹_› 4.);obtain⟨o,es',ep,ho,hx,hd',hk',Pr,O⟩:=z;show h h' es' ep _ (ho.trans (by rw[jv hx hd'])) ((YR.put Y W).back Pr λe he=>hk' e<|Array.mem_toList_iff.mp he) hb
 ·obtain⟨hk1,O,ms,rfl⟩:=bP o1;show VR.kt V λb n us e U=>?_;obtain⟨xs,X,hm⟩:=B9 KI hd o2 nd;have V':VR I (.tup ms)<|.ref b:=.tup e U;have hl:xs.length=es.length:=by have:=congrArg List.length<|XR.keys X;simpa using this
  show wpAny_dictSet_heap (knd:=rh D.prog D.w) hA ⟨o1,Hy KI hk1 V'⟩ hm (λh' z hb=>?_) (by rw[sizeLine_eq];show g3 ‹_› ‹_› 4.);obtain⟨o,es',ep,ho,hx,hd',he',O,O⟩:=z;show h h' es' ep _ (ho.trans (by rw[jv hx hd'])) (he'▸XR.back (X.put o2 V' W)) hb
end
end
section
open PySem.SeqAt
section
variable{D:Wd}{k:Nat}{st:Kk}{I J:Imm}{env:Env}{Q:MV->Kk->Prop}{n:Nm}{es:List<|MV×MV}{m mv:MV}
theorem Ko.ki{s:Shared}(R:Ko D I st s):gp I s:=λa o e=>R.keep a o e
theorem sW{A:Around}(hA:Room k A):A.in1.units+8<cLine:=by obtain⟨O,O,c⟩:=hA;change A.units+1+8<9900;show BZ ‹_›
theorem DR.typeIs{P:Params}{s:Shared}{a:Addr}(h:DR P I s.heap a es):s.TypeIs (.ref a) "dict":=let⟨_,_,hg,_⟩:=h;⟨_,hg,4.⟩
theorem ri{A:Around}{s:Shared}{a:Addr}{kv:Value}{Qx:Bool->Shared->Prop}{E:Value->Shared->Prop}(hA:A.in1.units+8<cLine)(KI:gp I s)(hd:DR D.w.params I s.heap a es)(hs:(a==sysModules)=false)(V:VR I m kv)(ok:kok es m=true)(nd:(es.map (·.1)).Nodup)
 (h: ∀tk,Qx (b9 es m).isSome {s with toks:=tk}):wpAny (model D.prog D.w) A (contains (.ref a) kv) Qx E s:=by
 have hT:=DR.typeIs hd;unfold contains;try with_reducible show wpAny_holding ?_
 show J8<|wpAny_specialOf hT slot_dict_contains.lookup ?_;change wpAny _ _ (if(some (Value.builtin "dict.__contains__")==some Value.none)=true then _ else _) _ E s;rw[if_neg (by rw[beq_builtin_none];show Bool.false_ne_true)];show J8<|wpAny_callSpecialUnlessNone?_slot (name:=-"__contains__") hT slot_dict_contains
  (wpAny_call_entry slot_dict_contains hT entry_dict_contains ?_<|args_dict_contains _ _)
 change wpAny _ _ (dictGet a kv>>=_) _ _ s;show J8<|oV hA KI hd V ok nd λr tk hr=>?_;cases r with
 |some v=>
  change wpAny _ _ (ret<|.bool true) _ _ _;show Kb ⟨_,4.,wpAny_truthy_bool ?_⟩;have:=h tk;cases q:b9 es m with
  |none=>rw[q]at hr;show hr.elim
  |some _=>rw[q]at this;show this
 |none=>
  change wpAny _ _ (Builtin.Dict.pendingKey? a kv>>=_) _ _ _;show J8<|wpAny_pendingKey_other hs<|Kb ⟨_,4.,wpAny_truthy_bool ?_⟩;have:=h tk;cases q:b9 es m with
  |none=>rw[q]at this;show this
  |some _=>rw[q]at hr;show hr.elim
theorem rj(hd:DS D st n es)(ok:kok es m=true)(nd:(es.map (·.1)).Nodup)(h:Q (.bool (b9 es m).isSome) st):OP D VR k st [m,.ref n] (λvs=>compareOp .In (vs.getD 0 .none)<|vs.getD 1 .none) Q:=λA I s vs hA R V=>two V _ λv w V1 V2=>by
 show VR.kr V2 λO ha=>?_;obtain⟨d,hs⟩:=hd.find R ha;change wpAny _ _ (do return Value.bool (<-contains (.ref _) v)) _ _ s;show J8<|ri (sW hA) (Ko.ki R) d hs V1 ok nd λtk=>Kb<|aE (R.toks tk) (.bool _) h
theorem dX(hd:DS D st n es)(ok:kok es m=true)(nd:(es.map (·.1)).Nodup)(h:Q (.bool<|!(b9 es m).isSome) st):OP D VR k st [m,.ref n] (λvs=>compareOp .NotIn (vs.getD 0 .none)<|vs.getD 1 .none) Q:=λA I s vs hA R V=>two V _ λv w V1 V2=>by
 show VR.kr V2 λO ha=>?_;obtain⟨d,hs⟩:=hd.find R ha;change wpAny _ _ (do return Value.bool (!(<-contains (.ref _) v))) _ _ s;show J8<|ri (sW hA) (Ko.ki R) d hs V1 ok nd λtk=>Kb<|aE (R.toks tk) (.bool _) h
theorem Ca(hd:DS D st n es)(ok:kok es m=true)(nd:(es.map (·.1)).Nodup)(hg:b9 es m=some mv)(h:Q mv st):OP D VR k st [.ref n,m] (λvs=>getItem (vs.getD 0 .none)<|vs.getD 1 .none) Q:=λA I s vs hA R V=>two V _ λv w V1 V2=>by
 show VR.kr V1 λO ha=>?_;obtain⟨d,hs⟩:=hd.find R ha;have hT:=DR.typeIs d;unfold getItem;try with_reducible show wpAny_holding ?_
 show J8<|wpAny_sequenceKey hT 1. ?_;show J8<|wpAny_callSpecial?_slot (name:=-"__getitem__") hT slot_dict_getitem
  (wpAny_call_entry slot_dict_getitem hT entry_dict_getitem ?_<|args_dict_getitem _ _)
 change wpAny _ _ (dictGet _ w>>=_) _ _ s;show J8<|oV (sW hA) (Ko.ki R) d V2 ok nd λr tk hr=>?_;rw[hg]at hr;cases r with
 |none=>show hr.elim
 |some v=>show Kb ⟨v,4.,Kb<|aE (R.toks tk) hr h⟩
theorem dz{QU:Unit->Kk->Prop}(hd:st.m n=some (.d es))(ok:kok es m=true)(nd:(es.map (·.1)).Nodup)(hz:es.length<=1000)(h:QU ()<|st.set n<|.d<|mT es m mv):OP D TU k st [.ref n,m,mv] (λvs=>setItem (vs.getD 0 .none) (vs.getD 1 .none)<|vs.getD 2 .none) QU:=λA I s vs hA R V=>by
 show VRs.k3 V λO O v V1 V2 V3=>?_;show VR.kr V1 λa ha=>?_;have d:=R.fd hd ha;have hT:=DR.typeIs d;change wpAny _ _ (setItem (.ref a) _ _) _ _ s;unfold setItem;try with_reducible show wpAny_holding ?_
 show J8<|wpAny_sequenceKey hT 1. ?_;show J8<|wpAny_callSpecial?_slot (name:=-"__setitem__") hT slot_dict_setitem
  (wpAny_call_entry slot_dict_setitem hT entry_dict_setitem ?_<|args_dict_setitem _ _ _)
 change wpAny _ _ (Builtin.Dict.notOrdered "__setitem__" ⟨[.ref a,_,v],[]⟩>>=_) _ _ s;show J8<|wpAny_notOrdered_dict hT ?_;change wpAny _ _ (dictSet a _ v>>=_) _ _ s;show J8<|yx (sW hA) (Ko.ki R) d V2 V3 ok nd hz λh' ds c tk hg hr hb=>Kb ⟨.none,4.,Kb ?_⟩;show⟨I,(),_,Sub.refl I,R.put (t:=tk) (y:=.d<|mT es m mv) hd ha hg (λb hbne=>hb.2 b hbne) λO=>⟨ds,c,hg,hr⟩,trivial,h⟩
theorem fc{x id:String}{QG:MV×List MV->Kk->Prop}(hd:DS D st n es)(slot:Slot "dict" (Str.ofString x) id)(ty:typeOf (.builtin id)=pure (.type "method_descriptor"))(h:QG (.blt id,[.ref n]) st):GM D k st (.ref n) x QG:=λA I s v pl hA R V=>by
 show VR.kr V λO ha=>?_;obtain⟨d,hs⟩:=hd.find R ha;have⟨_,_,hg,_⟩:=d;show getMethod_builtin (DR.typeIs d) F.plainAttrs_dict slot ty (λb e=>by cases e;show⟨_,hg,4.⟩)<|aE R ⟨.blt _,.cons (.ref ha) .nil⟩ h
theorem gq{dflt:MV}(hd:DS D st n es)(ok:kok es m=true)(nd:(es.map (·.1)).Nodup)(h:Q ((b9 es m).getD dflt) st):CL D k st (.blt "dict.get") [.ref n,m,dflt] Q:=λA I s fv vs hA R V1 V2=>by
 show VR.kk V1 ?_;show VRs.k3 V2 λO O dv W1 W2 W3=>?_;show VR.kr W1 λa ha=>?_;obtain⟨d,hs⟩:=hd.find R ha;have hT:=DR.typeIs d;show wpAny_call_entry F.slot_dict_get hT F.entry_dict_get ?_<|F.args_dict_get_3 _ _ _;change wpAny _ _ (dictGet a _>>=_) _ _ s;show J8<|oV (sW hA) (Ko.ki R) d W2 ok nd λr tk hr=>?_;cases q:b9 es m with
 |none=>
  rw[q]at hr h;cases r with
  |some v=>show hr.elim
  |none=>
   change wpAny _ _ (Builtin.Dict.missed a _>>=_) _ _ _;show J8<|wpAny_missed_other hs<|Kb ⟨dv,4.,aE (R.toks tk) W3 h⟩
 |some mv=>
  rw[q]at hr h;cases r with
  |some v=>show Kb ⟨v,4.,aE (R.toks tk) hr h⟩
  |none=>show hr.elim
end
end
section
open PySem.SeqAt
section
variable{D:Wd}{k:Nat}{st:Kk}{I J:Imm}{env:Env}{Q:MV->Kk->Prop}{n:Nm}{es:List<|MV×MV}{m mv:MV}
theorem iN{A:Around}{s:Shared}{a:Addr}{i:Int}{t:Tok}{dm:MV}{dv:Value}{Qx:Value->Shared->Prop}{E:Value->Shared->Prop}(hd:DR D.w.params I s.heap a es)(W:VR I dm dv)(ok:es.all (λp=>cN p.1)=true)(nd:(es.map (·.1)).Nodup)(hz:es.length<=1000)(hn:b9 es (.int i)=none)
 (h: ∀h' ds n tk,h'.get? a=some {cls:=.type "dict",data:=.dict ds n}->DRs D.w.params I (es++[(.int i,dm)]) ds.toList->Heap.SameBut a s.heap h'->Qx dv {s with heap:=h',toks:=tk}):wpAny (model D.prog D.w) A (dictSetDefault a (.int i t) dv) Qx E s:=by
 obtain⟨ds,c,hg,hr⟩:=hd;obtain⟨xs,Y,Pr,K⟩:=YR.of (prog:=D.prog) (w:=D.w) hr ok;have K':KeysOf (intKind D.prog D.w) ds:=λe he=>K e<|Array.mem_toList_iff.mpr he;have hlen:es.length=ds.size:=by
  have h1:=Pr.length;have h2:=congrArg List.length<|YR.keys Y;simp at h1 h2;omega
 unfold dictSetDefault;try with_reducible show wpAny_holding ?_
 show J8<|(intKind D.prog D.w).pyHash (intKind_is D.prog D.w i t) ?_;show J8<|wpAny_dictFind_of (knd:=intKind D.prog D.w) (s:={s with toks:=s.toks+1}) (intKind_is D.prog D.w i t) hg 4. K' ?_;have hnone:ds.findIdx? (λe=>(intKind D.prog D.w).is i e.key)=none:=by
  have e1:(ds.toList.findIdx? λe=>(intKind D.prog D.w).is i e.key)=none:=by
   rw[Pr.findIdx i,List.findIdx?_eq_none_iff];intro kv hkv;have hv:=YR.get Y i;rw[hn]at hv;cases q:valueAt xs i with
   |some v=>rw[q]at hv;show hv.elim
   |none=>
    unfold valueAt at q;rw[Option.map_eq_none_iff,List.find?_eq_none]at q;have:=q kv hkv;simpa using this
  obtain⟨l⟩:=ds;simpa using e1
 rw[hnone];show J8<|wpAny_rule<|J8<|wpAny_updateDictKeys (hz:=by rw[sizeLine_eq];omega) (s:={s with toks:=s.toks+1}) hg 4.<|Kb ?_;show h _ (ds.push ⟨(intKind D.prog D.w).hash i,.int i t,dv⟩) (c+1) _ ?_ ?_<|Heap.SameBut.update ..
 ·rw[Heap.get?_update_self _ hg<|Obj.isFreed_of_dict<|Obj.data_mapDictKeys 4. _];show congrArg some<|jv (Obj.ExactDict.mapDictKeys ⟨4.,4.,4.⟩ _)<|Obj.data_mapDictKeys 4. _
 ·rw[Array.toList_push];have app: ∀{es:List<|MV×MV} {l:List DictEntry},DRs D.w.params I es l->DRs D.w.params I (es++[(.int i,dm)]) (l++[⟨hashInt i,.int i t,dv⟩]):=by
   intro es l r;induction r with
   |nil=>show .cons (.int i t) W .nil
   |cons a b _ ih=>show .cons a b ih
  show app hr
theorem cU(h:b9 es m=none):mT es m mv=es++[(m,mv)]:=by
 unfold mT;rw[if_neg];unfold b9 at h;rw[Option.map_eq_none_iff,List.find?_eq_none]at h;simpa using h
theorem j4{i:Int}{dflt:MV}(hd:st.m n=some (.d es))(ok:es.all (λp=>cN p.1)=true)(nd:(es.map (·.1)).Nodup)(hz:es.length<=1000)(h:match b9 es (.int i)with
 |some mv=>Q mv st
 |none=>Q dflt (st.set n<|.d<|es++[(.int i,dflt)])):CL D k st (.blt "dict.setdefault") [.ref n,.int i,dflt] Q:=λA I s fv vs hA R V1 V2=>by
  show VR.kk V1 ?_;show VRs.k3 V2 λO O dv W1 W2 W3=>?_;show VR.kr W1 λa ha=>?_;show VR.ki W2 λt=>?_;have d:=R.fd hd ha;obtain⟨O,hs⟩:=DS.find (.inl hd) R ha;have hT:=DR.typeIs d;show wpAny_call_entry F.slot_dict_setdefault hT F.entry_dict_setdefault ?_<|F.args_dict_setdefault_3 _ _ _;unfold Builtin.«dict.setdefault»;show J8 ?_;unfold Builtin.Dict.keyAndDefault;show J8<|wpAny_notOrdered_dict hT ?_;change wpAny _ _ (pure (a,Value.int i t,some dv)) _ _ s;show Kb ?_;change wpAny _ _ (if(a==sysModules)=true then _ else(dictSetDefault a (.int i t) dv>>=_)) _ _ s;rw[if_neg (by rw[hs];show Bool.false_ne_true)];show J8 ?_;cases q:b9 es (.int i)with
  |none=>
   rw[q]at h;show iN d W3 ok nd hz q λh' ds c tk hg hr hb=>Kb ⟨dv,4.,I,dflt,_,Sub.refl I,R.put (t:=tk) (y:=.d<|es++[(.int i,dflt)]) hd ha hg (λb hbne=>hb.2 b hbne) λO=>⟨ds,c,hg,hr⟩,W3,h⟩
  |some mv=>
   rw[q]at h;obtain⟨xs,Y,hm⟩:=Ap (D:=D) d ok nd;have hv:=YR.get Y i;rw[q]at hv;show wpAny_dictSetDefault_of (knd:=intKind D.prog D.w) (intKind_is D.prog D.w i t) hm.mapOf (λv hv'=>?_) (λhn=>?_) ?_
   ·rw[hv']at hv;show Kb ⟨v,4.,aE (R.toks _) hv h⟩
   ·rw[hn]at hv;show hv.elim
   ·intro o es' ep ho hd';obtain⟨ds,c,hg,hr⟩:=d;rw[hg]at ho;cases ho;have e:ds=es':=by injection hd'
    rw[<-e];have hlen:es.length=ds.size:=by
     obtain⟨xs,Y,Pr,K⟩:=YR.of (prog:=D.prog) (w:=D.w) hr ok;have h1:=Pr.length;have h2:=congrArg List.length<|YR.keys Y;simp at h1 h2;omega
    rw[sizeLine_eq];omega
end
end
section
open PySem.SeqAt
section
variable{D:Wd}{k:Nat}{st:Kk}{I J:Imm}{env:Env}{Q:MV->Kk->Prop}{n:Nm}{xs:List MV}{m mv:MV}
theorem bU{x id:String}{QG:MV×List MV->Kk->Prop}(hd:st.m n=some (.l xs))(slot:Slot "list" (Str.ofString x) id)(ty:typeOf (.builtin id)=pure (.type "method_descriptor"))(h:QG (.blt id,[.ref n]) st):GM D k st (.ref n) x QG:=λA I s v pl hA R V=>by
 show VR.kr V λO ha=>?_;obtain⟨vs,c,hg,V⟩:=R.fl hd ha;show getMethod_builtin ⟨_,hg,4.⟩ F.plainAttrs_list slot ty (λb e=>by cases e;show⟨_,hg,4.⟩)<|aE R ⟨.blt _,.cons (.ref ha) .nil⟩ h
theorem bf(hd:st.m n=some (.l xs))(hz:xs.length<=1000)(h:Q .none<|st.set n<|.l<|xs++[m]):CL D k st (.blt "list.append") [.ref n,m] Q:=λA I s fv vs hA R V1 V2=>by
 show VR.kk V1 ?_;show VRs.k2 V2 λO O W1 W2=>?_;show VR.kr W1 λa ha=>?_;obtain⟨us,c,hg,V⟩:=R.fl hd ha;have hl:=V.length;show wpAny_list_append_plain ⟨c,hg⟩ (λh' ⟨c',hg'⟩ hb'=>?_) (by rw[sizeLine_eq];simp at hl;show g3 ‹_› ‹_› 4.);show⟨I,.none,_,Sub.refl I,R.put (t:=s.toks) (y:=.l<|xs++[m]) hd ha hg' (λb hbne=>hb'.2 b hbne) λO=>⟨_,c',hg',by simpa using V.append (.one W2)⟩,.none,h⟩
def GI(D:Wd)(k:Nat)(st:Kk)(o i:MV)(Q:MV->Kk->Prop):Prop:=
 ∀(A:Around) (I:Imm) (s:Shared) (ov iv:Value),Room k A->Ko D I st s->VR I o ov->VR I i iv->
  (∃T id,s.TypeIs ov T/\typeLookup (.type T) "__getitem__"=pure (some<|.builtin id))/\wpAny (model D.prog D.w) A (getItem ov iv) (Post D VR I Q) (λO O=>False) s
abbrev yy(D:Wd)(k:Nat)(Q:MV->Kk->Prop)(o:MV)(i:MV)(st2:Kk):Prop:=GI D k st2 o i Q
abbrev yz(D:Wd)(k:Nat)(env:Env)(slice:Expr)(Q:MV->Kk->Prop)(o:MV)(st1:Kk):Prop:=WV D k st1 (eval slice env)<|yy D k Q o
theorem aX{value slice:Expr}{pos:Pos}(h:WV D k st (eval value env)<|yz D k env slice Q)
 (hs: ∀o i,subscripted slice false o i=operate [o,i] (getItem o i):=by intro O O;rfl):WV D k st (eval (.Subscript value slice pos) env) Q:=λA I s hA R=>by
 show Subscript_<|pon (h A I s hA R) λv s1 I1 o st1 e1 R1 V1 h1=>?_;show pon (h1 A I1 s1 hA R1) λu s2 I2 i st2 e2 R2 V2 h2=>?_;obtain⟨⟨T,id,hT,hl⟩,h3⟩:=h2 A I2 s2 v u hA R2 (V1.mono e2) V2;show tail_any hT hl (wpAny_mono h3 (λO O x=>(x.sub e2).sub e1) λO O x=>x)<|hs v u
theorem cu{es:List<|MV×MV}(hd:DS D st n es)(ok:kok es m=true)(nd:(es.map (·.1)).Nodup)(hg:b9 es m=some mv)(h:Q mv st):GI D k st (.ref n) m Q:=λA I s ov iv hA R V W=>by
 show⟨?_,Ca (k:=k) hd ok nd hg h A I s [ov,iv] hA R<|.cons V<|.cons W .nil⟩;show VR.kr V λO ha=>?_;obtain⟨d,O⟩:=hd.find R ha;show⟨"dict",_,DR.typeIs d,slot_dict_getitem.lookup⟩
theorem oW{i:Int}(hd:LAt D st n xs)(h0:0<=i)(hi:i<2^60)(hx:xs[i.toNat]? =some m)(h:Q m st):GI D k st (.ref n) (.int i) Q:=λA I s ov iv hA R V W=>by
 show VR.kr V λO ha=>?_;show VR.ki W λO=>?_;obtain⟨us,hL,V⟩:=hd _ _ _ R ha;obtain⟨v,hv,Vv⟩:=V.get hx;show⟨⟨"list",_,hL.typeIs,slot_list_getitem.lookup⟩,wpAny_getItem_list hL h0 3. (by simpa using hv)<|aE R Vv h⟩
theorem bd{i:Int}(hd:st.m n=some (.l xs))(h0:0<=i)(hi:i<2^60)(hx:xs[i.toNat]? =some m)(h:Q m st):GI D k st (.ref n) (.int i) Q:=oW (.of hd) h0 hi hx h
theorem cC(hd:st.m n=some (.l xs))(hz:xs.length<=1000)(hx:xs.getLast?=some m)(h:Q m st):GI D k st (.ref n) (.int<| -1) Q:=λA I s ov iv hA R V W=>by
 show VR.kr V λO ha=>?_;show VR.ki W λO=>?_;obtain⟨us,c,hg,V⟩:=R.fl hd ha;have hl:=V.length;simp at hl;have hne:xs≠[]:=by rintro rfl;simp at hx
 have hpos:0<xs.length:=List.length_pos_iff.mpr hne;have hx':xs[xs.length-1]? =some m:=by rw[List.getLast?_eq_getElem?]at hx;show hx
 obtain⟨v,hv,Vv⟩:=V.get hx';show⟨⟨"list",_,⟨_,hg,4.⟩,slot_list_getitem.lookup⟩,wpAny_getItem_list_neg ⟨_,hg,4.,c,4.⟩ 1. 3. 1. ?_<|aE R Vv h⟩;rw[show((-1:Int)+(us.size:Int)).toNat=xs.length-1 by show Iq ‹_›];simpa using hv
theorem cL{i:Int}(h0:0<=i)(hi:i<2^60)(hx:xs[i.toNat]? =some m)(h:Q m st):GI D k st (.tup xs) (.int i) Q:=λA I s ov iv hA R V W=>by
 show VR.kt V λa c us e U=>?_;show VR.ki W λO=>?_;have hg:=R.keep _ _ e;obtain⟨v,hv,Vv⟩:=U.get hx;have hlt:i.toNat<us.length:=(List.getElem?_eq_some_iff.mp hv).1;show⟨⟨"tuple",_,⟨_,hg,4.⟩,F.slot_tuple_getitem.lookup⟩,PySem.P.getItem_tuple (k:=i.toNat) (y:=v) hg 3. 3. (seqIndex_of h0 (by simp;show wh ‹_› ‹_›)) (by simpa using hv)<|aE R Vv h⟩
theorem ur{A:Around}{s:Shared}{l:Addr}{us:Array Value}{c j:Nat}{kx:Int}{t:Tok}{v:Value}{Qx:Unit->Shared->Prop}(hg:s.heap.get? l=some {cls:=.type "list",data:=.seq us c})(hf:Builtin.List.listFitsIndex kx=true)
 (hj:j<us.size)(hk:kx=(j:Int)\/(kx<0/\seqIndex? kx us.size=some j))
 (h: ∀h' c',h'.get? l=some {cls:=.type "list",data:=.seq (us.setIfInBounds j v) c'}->Heap.SameBut l s.heap h'->Qx () {s with heap:=h'}):wpAny (model D.prog D.w) A (setItem (.ref l) (.int kx t) v) Qx (λO O=>False) s:=by
 have hT:s.TypeIs (.ref l) "list":=⟨_,hg,4.⟩;have hx':us[j]? =some us[j]:=Array.getElem?_eq_getElem hj;unfold setItem;try with_reducible show wpAny_holding ?_
 first|show J8<|Kb ?_|skip
 show J8<|wpAny_sequenceKey hT 1. ?_;show J8<|wpAny_callSpecial?_slot (name:=-"__setitem__") hT slot_list_setitem
  (wpAny_call_entry slot_list_setitem hT entry_list_setitem ?_<|args_list_setitem _ _ _)
 change wpAny _ _ (Builtin.List.listSubscript? (.int kx t)>>=_) _ _ s;show J8<|wpAny_listSubscript_int hf ?_;obtain⟨c',e⟩: ∃c',(Obj.mapSeq (·.setIfInBounds j v) ({cls:=.type "list",data:=.seq us c}:Obj))={cls:=.type "list",data:=.seq (us.setIfInBounds j v) c'}:=⟨_,4.⟩;have fin:=h (s.heap.update l (Obj.mapSeq (·.setIfInBounds j v))) c' ((Heap.get?_update_self _ hg (by rw[e];rfl)).trans<|congrArg some e)<|Heap.SameBut.update ..;rcases hk with rfl|⟨h0,hidx⟩
 ·change wpAny _ _ ((seqItemAt l j>>=λr=>pure (r.map (j, ·)))>>=_) _ _ s;show J8<|J8<|wpAny_seqItemAt hg 4.<|Kb ?_;rw[hx'];change wpAny _ _ (setSeqItemAt l j v>>=_) _ _ s;show J8<|wpAny_setSeqItemAt hg 4. ?_;first
   |show J8<|Kb<|Kb ⟨.none,4.,Kb fin⟩
   |show Kb ⟨.none,4.,Kb fin⟩
 ·obtain⟨i,rfl⟩: ∃i:Nat,kx=Int.negSucc i:=by
   cases kx with
   |ofNat n=>show absurd h0<|Int.not_lt.mpr<|Int.natCast_nonneg n
   |negSucc n=>show⟨n,4.⟩
  change wpAny _ _ ((Builtin.List.listItems (.ref l)>>=λxs=>pure ((seqIndex? (Int.negSucc i) xs.size).bind λi=>xs[i]?.map (i, ·)))>>=_) _ _ s;show J8<|J8 ?_;change wpAny _ _ (seqItems? (.ref l)>>=_) _ _ s;show J8<|wpAny_seqItems hg 4.<|Kb<|Kb ?_;rw[hidx];simp only[Option.bind_some,hx',Option.map_some];change wpAny _ _ (setSeqItemAt l j v>>=_) _ _ s;show J8<|wpAny_setSeqItemAt hg 4. ?_;first
   |show J8<|Kb<|Kb ⟨.none,4.,Kb fin⟩
   |show Kb ⟨.none,4.,Kb fin⟩
theorem Cb{us:Array Value}{j:Nat}{v:Value}(V:VRs I xs us.toList)(W:VR I m v):VRs I (xs.set j m) (us.setIfInBounds j v).toList:=by
 simpa using V.set j W
theorem wK{i:Int}{QU:Unit->Kk->Prop}(hd:st.m n=some (.l xs))(h0:0<=i)(hi:i.toNat<xs.length)(hz:xs.length<=1000)(h:QU ()<|st.set n<|.l<|xs.set i.toNat m):OP D TU k st [.ref n,.int i,m] (λvs=>setItem (vs.getD 0 .none) (vs.getD 1 .none)<|vs.getD 2 .none) QU:=λA I s vs hA R V=>by
 show VRs.k3 V λO O v V1 V2 V3=>?_;show VR.kr V1 λa ha=>?_;show VR.ki V2 λO=>?_;obtain⟨us,c,hg,V⟩:=R.fl hd ha;have hl:=V.length;simp at hl;show ur (j:=i.toNat) hg (fitsIndex_of h0 (by show GQ ‹_› ‹_› ‹_› 4.)) (by show Ag ‹_› ‹_›) (.inl 3.) λh' c' hg' hb'=>?_;show⟨I,(),_,Sub.refl I,R.put (t:=s.toks) (y:=.l<|xs.set i.toNat m) hd ha hg' (λb hbne=>hb'.2 b hbne) λO=>⟨_,c',hg',Cb V V3⟩,trivial,h⟩
theorem sX{QU:Unit->Kk->Prop}(hd:st.m n=some (.l xs))(hne:0<xs.length)(hz:xs.length<=1000)(h:QU ()<|st.set n<|.l<|xs.set (xs.length-1) m):OP D TU k st [.ref n,.int<| -1,m] (λvs=>setItem (vs.getD 0 .none) (vs.getD 1 .none)<|vs.getD 2 .none) QU:=λA I s vs hA R V=>by
 show VRs.k3 V λO O v V1 V2 V3=>?_;show VR.kr V1 λa ha=>?_;show VR.ki V2 λO=>?_;obtain⟨us,c,hg,V⟩:=R.fl hd ha;have hl:=V.length;simp at hl;show ur (j:=xs.length-1) hg (fitsIndex_neg 1. 1.) (by show GY ‹_› ‹_›) (.inr ⟨by decide,?_⟩) λh' c' hg' hb'=>?_
 ·rw[PySem.seqIndex_neg 1. 3.,show((-1:Int)+(us.size:Int)).toNat=xs.length-1 by show Iq ‹_›]
 ·show⟨I,(),_,Sub.refl I,R.put (t:=s.toks) (y:=.l<|xs.set (xs.length-1) m) hd ha hg' (λb hbne=>hb'.2 b hbne) λO=>⟨_,c',hg',Cb V V3⟩,trivial,h⟩
end
end
section
open PySem.SeqAt
section
variable{D:Wd}{k:Nat}{st:Kk}{I J:Imm}{env:Env}{Q:MV->Kk->Prop}{n:Nm}{xs ys:List MV}{m mv:MV}
theorem ig(hd:LAt D st n xs)(hz:xs.length<=1000)(h:Q (.int xs.length) st):CL D k st (.blt "len") [.ref n] Q:=λA I s fv vs hA R V1 V2=>by
 show VR.kk V1 ?_;show VRs.k1 V2 λO W1=>?_;show VR.kr W1 λO ha=>?_;obtain⟨us,hL,V⟩:=hd _ _ _ R ha;have hl:=V.length;simp at hl;show call_len_list hL 3. ?_;rw[hl];show aE (R.toks _) (.int _ _) h
theorem aS(hd:st.m n=some (.l xs))(hz:xs.length<=1000)(h:Q (.int xs.length) st):CL D k st (.blt "len") [.ref n] Q:=ig (.of hd) hz h
theorem dc(hz:xs.length<=1000)(h:Q (.int xs.length) st):CL D k st (.blt "len") [.tup xs] Q:=λA I s fv vs hA R V1 V2=>by
 show VR.kk V1 ?_;show VRs.k1 V2 λO W1=>?_;show VR.kt W1 λa c us e V=>?_;have hl:=V.length;show PySem.P.len_tuple (R.keep _ _ e) (by simp;omega) ?_;rw[show us.toArray.size=xs.length by simp[hl]];show aE (R.toks _) (.int _ _) h
theorem rl(hd:st.m n=some (.l xs))(hz:xs.length+ys.length<=1000)(h:Q .none<|st.set n<|.l<|xs++ys):CL D k st (.blt "list.extend") [.ref n,.tup ys] Q:=λA I s fv vs hA R V1 V2=>by
 show VR.kk V1 ?_;show VRs.k2 V2 λO O W1 W2=>?_;show VR.kr W1 λa ha=>?_;show VR.kt W2 λb c2 ws e V2=>?_;obtain⟨us,c,hg,V⟩:=R.fl hd ha;have hl:=V.length;have hl2:=V2.length;simp at hl;obtain⟨c',e'⟩: ∃c',(Obj.mapSeq (λx=>x++ws.toArray) ({cls:=.type "list",data:=.seq us c}:Obj))={cls:=.type "list",data:=.seq (us++ws.toArray) c'}:=⟨_,4.⟩;show call_meets F.slot_list_extend ⟨_,hg,4.⟩ F.entry_list_extend (F.args_list_extend_2 _ _) (AutoSeq1.list_extend_list_tuple_0 a us c b ws.toArray c2 ?_ (by rw[sizeLine_eq];omega) (by rw[sizeLine_eq];simp;omega)) ⟨hg,R.keep _ _ e,?_⟩
 ·have:Builtin.List.listTooLong (us.size+ws.toArray.size)=false:=by
   unfold Builtin.List.listTooLong;rw[sizeLine_eq];simp;omega
  rw[this];simp
 ·show⟨I,.none,_,Sub.refl I,R.put (t:=s.toks) (y:=.l<|xs++ys) hd ha ((Heap.get?_update_self _ hg (by rw[e'];rfl)).trans<|congrArg some e') (λb hbne=>(Heap.SameBut.update ..).2 b hbne) λO=>⟨_,c',(Heap.get?_update_self _ hg (by rw[e'];rfl)).trans<|congrArg some e',by simpa using V.append V2⟩,.none,h⟩
theorem Cc(hd:st.m n=some (.l xs))(hz:xs.length<=1000)(hx:xs.getLast?=some m)(h:Q m<|st.set n<|.l xs.dropLast):CL D k st (.blt "list.pop") [.ref n] Q:=λA I s fv vs hA R V1 V2=>by
 show VR.kk V1 ?_;show VRs.k1 V2 λO W1=>?_;show VR.kr W1 λa ha=>?_;obtain⟨us,c,hg,V⟩:=R.fl hd ha;have hl:=V.length;simp at hl;have hx':xs[xs.length-1]? =some m:=by rw[List.getLast?_eq_getElem?]at hx;show hx
 obtain⟨v,hv,Vv⟩:=V.get hx';have hv':us[us.size-1]? =some v:=by rw[hl];simpa using hv
 obtain⟨c',e'⟩: ∃c',(Obj.mapSeq (λx=>x.eraseIdxIfInBounds<|us.size-1) ({cls:=.type "list",data:=.seq us c}:Obj))={cls:=.type "list",data:=.seq (us.eraseIdxIfInBounds<|us.size-1) c'}:=⟨_,4.⟩;show call_meets F.slot_list_pop ⟨_,hg,4.⟩ F.entry_list_pop (F.args_list_pop_1 _) (MeetsSeq.list_pop_last a us c v hv' (by rw[sizeLine_eq];show g3 ‹_› ‹_› 4.)) ⟨hg,?_⟩;show⟨I,m,_,Sub.refl I,R.put (t:=s.toks) (y:=.l xs.dropLast) hd ha ((Heap.get?_update_self _ hg (by rw[e'];rfl)).trans<|congrArg some e') (λb hbne=>(Heap.SameBut.update ..).2 b hbne) λO=>⟨_,c',(Heap.get?_update_self _ hg (by rw[e'];rfl)).trans<|congrArg some e',?_⟩,Vv,h⟩;have:(us.eraseIdxIfInBounds<|us.size-1).toList=us.toList.take (xs.length-1):=by
  have hpos:us.size-1<us.size:=by
   have:=(Array.getElem?_eq_some_iff.mp hv').1;omega
  simp only[Array.eraseIdxIfInBounds,hpos,dif_pos];rw[Array.toList_eraseIdx,List.eraseIdx_eq_take_drop_succ];have:us.toList.drop (us.size-1+1)=[]:=by rw[List.drop_eq_nil_iff];simp;show GT
  rw[this,hl];simp
 rw[this,List.dropLast_eq_take];show V.take _
theorem dG{b:Int}(h:Q (.rng 0 b) st):CL D k st (.typ "range") [.int b] Q:=λA I s fv vs hA R V1 V2=>by
 show VR.ky V1 ?_;show VRs.k1 V2 λO W1=>?_;show VR.ki W1 λO=>?_;show call_range_1 ?_;show⟨_,.rng 0 b,st,Imm.put_sub _ R.size_none,R.push {cls:=.type "range",data:=.fields #[.int 0 s.toks,.int b _,.int 1<|s.toks+1]} 4.,.rng<|Imm.put_self ..,h⟩
theorem ek{a b:Int}(h:Q (.rng a b) st):CL D k st (.typ "range") [.int a,.int b] Q:=λA I s fv vs hA R V1 V2=>by
 show VR.ky V1 ?_;show VRs.k2 V2 λO O W1 W2=>?_;show VR.ki W1 λO=>?_;show VR.ki W2 λO=>?_;show call_range_2 ?_;show⟨_,.rng a b,st,Imm.put_sub _ R.size_none,R.push {cls:=.type "range",data:=.fields #[.int a _,.int b _,.int 1 s.toks]} 4.,.rng<|Imm.put_self ..,h⟩
end
end
section
open PySem.SeqAt
section
variable{D:Wd}{k:Nat}{st:Kk}{I J:Imm}{env:Env}{Q:MV->Kk->Prop}{n n':Nm}{xs ys:List MV}{m mv:MV}{x y:Str}
theorem wL{i:Int}(h:Q (.bool true) st):CL D k st (.blt "isinstance") [.int i,.typ "int"] Q:=λA I s fv vs hA R V1 V2=>by
 show VR.kk V1 ?_;show VRs.k2 V2 λO O W1 W2=>?_;show VR.ki W1 λO=>?_;show VR.ky W2 ?_;show IsiPair.int_int<|aE R (.bool _) h
theorem Aq(h:Q (.bool true) st):CL D k st (.blt "isinstance") [.str x,.typ "str"] Q:=λA I s fv vs hA R V1 V2=>by
 show VR.kk V1 ?_;show VRs.k2 V2 λO O W1 W2=>?_;show VR.ks W1 λO=>?_;show VR.ky W2 ?_;show IsiPair.str_str<|aE R (.bool _) h
theorem Hz{c:Nat}(h:Q (.int c) st):CL D k st (.blt "ord") [.str ⟨#[c]⟩] Q:=λA I s fv vs hA R V1 V2=>by
 show VR.kk V1 ?_;show VRs.k1 V2 λO W1=>?_;show VR.ks W1 λO=>?_;show P.ord_of_char<|aE (R.toks _) (.int _ _) h
theorem Ar{i:Int}(hi:(decide (i<0)||decide (i>0x10FFFF))=false)(h:Q (.str ⟨#[i.toNat]⟩) st):CL D k st (.blt "chr") [.int i] Q:=λA I s fv vs hA R V1 V2=>by
 show VR.kk V1 ?_;show VRs.k1 V2 λO W1=>?_;show VR.ki W1 λO=>?_;show P.chr_of_int hi<|aE (R.toks _) (.str _ _) h
theorem As(h:Q (.tup xs) st):CL D k st (.typ "tuple") [.tup xs] Q:=λA I s fv vs hA R V1 V2=>by
 show VR.ky V1 ?_;show VRs.k1 V2 λO W1=>?_;show VR.kt W1 λa c us e V=>?_;show call_tuple_same ⟨_,R.keep _ _ e,4.,c,4.⟩<|aE R (.tup e V) h
theorem sY(h:Q (.bool !(PySem.Builtin.Str.occurrences x y 0 x.length 1).isEmpty) st):OP D VR k st [.str y,.str x] (λvs=>compareOp .In (vs.getD 0 .none)<|vs.getD 1 .none) Q:=λA I s vs hA R V=>two V _ λv w V1 V2=>by
 show VR.ks V1 λO=>?_;show VR.ks V2 λO=>?_;show in_str<|aE R (.bool _) h
theorem zL{us:List Value}{xs:List MV}{v:Value}{A:Around}{s:Shared}(hu:A.units+8<cLine)(KI:gp I s)(V:VRs I xs us)(W:VR I m v)(hx:hks xs=true)(hm:hk m=true)(hd:deps xs<=7):
 ∃e:Value->Bool,(∀y,y∈us.toArray->EqAt A s y v (e y))/\us.toArray.any e=xs.any λz=>c7 z m:=by
 classical
 have key: ∀y∈us,∃z∈xs,VR I z y:=by
  intro y hy;obtain⟨j,hj⟩:=List.mem_iff_getElem?.mp hy;obtain⟨z,hz,Vz⟩:=V.getV hj;show⟨z,List.mem_of_getElem? hz,Vz⟩
 let e:Value->Bool:=λy=>decide<|∃z∈xs,VR I z y/\c7 z m=true;show⟨e,λy hy=>?_,?_⟩
 ·obtain⟨z,hz,Vz⟩:=key y (by simpa using hy);have h1:=sU 7 z m (Kc (ie hz) hd) (fZ hx hz) hm A s y v KI Vz W (by show wi ‹_›);have:e y=c7 z m:=by
   change decide _=_;cases q:c7 z m with
   |true=>show decide_eq_true ⟨z,hz,Vz,q⟩
   |false=>
    show decide_eq_false ?_;rintro⟨z',hz',Vz',q'⟩;rw[VR.inj _ _ _ (fZ hx hz') (fZ hx hz) Vz' Vz,q]at q';cases q'
  rw[this];show h1
 ·rw[Bool.eq_iff_iff,List.any_toArray,List.any_eq_true,List.any_eq_true];constructor
  ·rintro⟨y,O,hy⟩;obtain⟨z,hz,O,q⟩:=of_decide_eq_true hy;show⟨z,hz,q⟩
  ·rintro⟨z,hz,q⟩;obtain⟨j,hj⟩:=List.mem_iff_getElem?.mp hz;obtain⟨y,hy,Vy⟩:=V.get hj;show⟨y,List.mem_of_getElem? hy,decide_eq_true ⟨z,hz,Vy,q⟩⟩
theorem At(hx:hks xs=true)(hm:hk m=true)(hd:deps xs<=7)(h:Q (.bool<|xs.any λz=>c7 z m) st):OP D VR k st [m,.tup xs] (λvs=>compareOp .In (vs.getD 0 .none)<|vs.getD 1 .none) Q:=λA I s vs hA R V=>two V _ λv w V1 V2=>by
 show VR.kt V2 λa c us e V=>?_;obtain⟨g,hg,he⟩:=zL (A:=A.in1) (sW hA) (Ko.ki R) V V1 hx hm hd;show in_tupleAt g ⟨_,R.keep _ _ e,4.,c,4.⟩ hg<|aE R (by rw[he];show .bool _) h
theorem yA(hl:st.m n=some (.l xs))(hx:hks xs=true)(hm:hk m=true)(hd:deps xs<=7)(h:Q (.bool<|xs.any λz=>c7 z m) st):OP D VR k st [m,.ref n] (λvs=>compareOp .In (vs.getD 0 .none)<|vs.getD 1 .none) Q:=λA I s vs hA R V=>two V _ λv w V1 V2=>by
 show VR.kr V2 λO ha=>?_;obtain⟨us,c,hgt,V⟩:=R.fl hl ha;obtain⟨g,hg,he⟩:=zL (A:=A.in1) (sW hA) (Ko.ki R) V V1 hx hm hd;show in_listAt g ⟨_,hgt,4.,c,4.⟩ hg<|aE R (by rw[show us.any g=us.toList.toArray.any g from 4.,he];show .bool _) h
theorem wM{A:Around}{s:Shared}{v w:Value}(m n:MV)(hd:dep m<=7)(hm:hk m=true)(hn:hk n=true)(K:gp I s)(V:VR I m v)(W:VR I n w)(hu:A.units+8<cLine):RcAt A s v w<|c7 m n:=by
 have hu':A.units<cLine:=yi hu;revert hd V;show MV.hk3 hm (λi O V=>VR.ki V λt=>?_) (λx O V=>VR.ks V λt=>?_) λms hms hd V=>VR.kt V λa c us e U=>?_
 ·revert W;show MV.hk3 hn (λO W=>VR.ki W λO=>RcAt.int_int _ _ _ _) (λO W=>VR.ks W λO=>RcAt.int_str _ _ _ _) λO O W=>VR.kt W λO O O e O=>RcAt.int_tuple _ _ (hG K e) hu'
 ·revert W;show MV.hk3 hn (λO W=>VR.ki W λO=>RcAt.str_int _ _ _ _) (λO W=>VR.ks W λO=>RcAt.str_str _ _ _ _) λO O W=>VR.kt W λO O O e O=>RcAt.str_tuple _ _ (hG K e) hu'
 ·revert W;show MV.hk3 hn (λO W=>VR.ki W λO=>RcAt.tuple_int _ _ (hG K e) hu') (λO W=>VR.ks W λO=>RcAt.tuple_str _ _ (hG K e) hu') λns hns W=>VR.kt W λb c' ws e' W=>
   wH K hu' e e' U W λm n hm' hn' v w V W=>sU 6 m n (Kc (ie hm')<|Nat.le_of_succ_le_succ hd) (fZ hms hm') (fZ hns hn') A.in1 s v w K V W (by change A.units+1+6<cLine;omega)
theorem Cd{m1 m2:MV}(h1:hk m1=true)(h2:hk m2=true)(hd:dep m1<=7)(h:Q (.bool<|c7 m1 m2) st):OP D VR k st [m1,m2] (λvs=>compareOp .Eq (vs.getD 0 .none)<|vs.getD 1 .none) Q:=λA I s vs hA R V=>two V _ λv w V1 V2=>by
 show PySem.EqBoolInt.of_rc (wM m1 m2 hd h1 h2 (Ko.ki R) V1 V2 (by obtain⟨O,O,c⟩:=hA;change A.units+8<9900;show wj ‹_›))<|aE R (.bool _) h
theorem wN{xs ys:List MV}(h1:st.m n=some (.l xs))(h2:st.m n'=some (.l ys))(hz:xs.length+ys.length<=1000)(h:Alloc st λa=>Q (.ref a)<|st.set a<|.l<|xs++ys):OP D VR k st [.ref n,.ref n'] (λvs=>binaryOp .Add (vs.getD 0 .none)<|vs.getD 1 .none) Q:=λA I s vs hA R V=>two V _ λv w V1 V2=>by
 show VR.kr V1 λO ha=>?_;show VR.kr V2 λO hb=>?_;obtain⟨us,c,hg,V⟩:=R.fl h1 ha;obtain⟨ws,c',hg',V'⟩:=R.fl h2 hb;have l1:=V.length;have l2:=V'.length;simp at l1 l2;show P.add_list hg hg' ?_ (by rw[sizeLine_eq];omega);obtain⟨a,f,q⟩:=h.take R;obtain⟨J,S,hn,R2⟩:=R.newL (vs:=us++ws) (k:=0) (t:=s.toks) f (by simpa using V.append V');show⟨J,.ref a,_,S,R2,.ref hn,q⟩
theorem Ce{i:Int}{c:Nat}(h0:0<=i)(hi:i<2^60)(hc:x.cps[i.toNat]? =some c)(h:Q (.str ⟨#[c]⟩) st):GI D k st (.str x) (.int i) Q:=λA I s ov iv hA R V W=>by
 show VR.ks V λO=>?_;show VR.ki W λO=>?_;have hlt:=(Array.getElem?_eq_some_iff.mp hc).1;show⟨⟨"str",_,4.,F.slot_str_getitem.lookup⟩,P.getItem_str (by simp;show Hk ‹_› ‹_›) (by rw[seqIndex_of h0 (by change i<x.cps.size;show wh ‹_› ‹_›)];show hc)<|aE (R.toks _) (.str _ _) h⟩
end
end
section
open PySem.SeqAt
open PySem.AutoSeq1 (wpAny_loadPart')
open PySem.Builtin
theorem dH(l:Addr)(items:Array Value)(n:Nat)(dd:Option Addr)(sl:Array<|Option Value)(b:Array UInt8)(u:Tok):
 Meets (Builtin.«tuple.__eq__» ⟨[.ref l,.bytes b u],[]⟩)<|λO R s=>s.heap.get? l=some {cls:=.type "tuple",dict:=dd,data:=.seq items n,slots:=sl}/\R (.ok<|.ret .notImplemented) s:=
 .of_wp λprog w A R s h=>by obtain⟨hp,g,d,tk,os⟩:=s;obtain⟨hl,h⟩:=h;have f1:=F.sub_bytes_tuple;wp_walk using wpAny_loadPart' hl;show⟨_,4.,h⟩
theorem dI(b:Array UInt8)(u:Tok)(l:Addr)(items:Array Value)(n:Nat)(dd:Option Addr)(sl:Array<|Option Value):
 Meets (Builtin.«bytes.__eq__» ⟨[.bytes b u,.ref l],[]⟩)<|λO R s=>s.heap.get? l=some {cls:=.type "tuple",dict:=dd,data:=.seq items n,slots:=sl}/\R (.ok<|.ret .notImplemented) s:=
 .of_wp λprog w A R s h=>by
  obtain⟨hl,h⟩:=h;change wpAny _ _ (isInstance (.ref l) (.type "bytes")>>=_) _ _ s;show J8<|wpAny_isInstance (T:="tuple") (b:=false) ⟨_,hl,4.⟩ F.sub_tuple_bytes ?_;simp only[Bool.not_false,if_true];show J8<|wpAny_rule ?_;show J8<|Kb<|Kb ⟨_,4.,h⟩
section
variable{D:Wd}{k:Nat}{st:Kk}{I J:Imm}{env:Env}{Q:MV->Kk->Prop}{n n':Nm}{xs ys:List MV}{m mv:MV}{x y:Str}{b c:Array UInt8}
theorem mU{A:Around}{s:Shared}{l:Addr}{items:Array Value}{n:Nat}{u:Tok}(ho:s.heap.get? l=some {cls:=.type "tuple",data:=.seq items n})(hu:A.units<cLine):RcAt A s (.bytes b u) (.ref l) false:=λprog w E Q h=>
 rc_eq_decline_or (k:=false) (typeIs_bytes s b u) ⟨_,ho,4.⟩ 1. F.sub_tuple_bytes FB.slot_bytes_eq F.slot_tuple_eq_refl
  (λO hq=>call_meets FB.slot_bytes_eq (typeIs_bytes s b u) FB.entry_bytes_eq (FB.args_bytes_eq_2 _ _) (dI b u l items n none #[]) ⟨ho,hq⟩)
  (λO hq=>call_meets F.slot_tuple_eq_refl ⟨_,ho,4.⟩ F.entry_tuple_eq (F.args_tuple_eq_2 _ _) (dH l items n none #[] b u) ⟨ho,hq⟩)
  (λO hq=>wpAny_of_eq (rfl:isSame (.bytes b u) (.ref l)=pure false) hq) (.inr hu) h
theorem mV{A:Around}{s:Shared}{l:Addr}{items:Array Value}{n:Nat}{u:Tok}(ho:s.heap.get? l=some {cls:=.type "tuple",data:=.seq items n})(hu:A.units<cLine):RcAt A s (.ref l) (.bytes b u) false:=λprog w E Q h=>
 rc_eq_decline_or (k:=false) ⟨_,ho,4.⟩ (typeIs_bytes s b u) 1. F.sub_bytes_tuple F.slot_tuple_eq FB.slot_bytes_eq
  (λO hq=>call_meets F.slot_tuple_eq ⟨_,ho,4.⟩ F.entry_tuple_eq (F.args_tuple_eq_2 _ _) (dH l items n none #[] b u) ⟨ho,hq⟩)
  (λO hq=>call_meets FB.slot_bytes_eq (typeIs_bytes s b u) FB.entry_bytes_eq (FB.args_bytes_eq_2 _ _) (dI b u l items n none #[]) ⟨ho,hq⟩)
  (λO hq=>wpAny_of_eq (rfl:isSame (.ref l) (.bytes b u)=pure false) hq) (.inr hu) h
def vg:MV->Bool
 | .bytes _=>true
 | .str _=>true
 | .tup ms=>hks ms&&decide (deps ms<=6)
 |_=>false
def qE:MV->MV->Bool
 | .bytes a,.bytes b=>a.toList==b.toList
 | .bytes _,_=>false
 |_,.bytes _=>false
 |a,b=>c7 a b
@[elab_as_elim] theorem MV.bl3{P:MV->Prop}{m:MV}(hb:vg m=true)(hB: ∀b,P (.bytes b))(hs: ∀x,P (.str x))(ht: ∀ms,hk (.tup ms)=true->dep (.tup ms)<=7->P (.tup ms)):P m:=by
 cases m with
 |bytes b=>show hB b
 |str x=>show hs x
 |tup ms=>
  obtain⟨a,c⟩:=Bool.and_eq_true_iff.mp (show(hks ms&&decide (deps ms<=6))=true from hb);show ht ms a<|Nat.succ_le_succ<|of_decide_eq_true c
 |_=>show absurd (show false=true from hb) Bool.false_ne_true
theorem HA{m1 m2:MV}(h1:vg m1=true)(h2:vg m2=true)(hs: ∀x b,¬((m1=.str x/\m2=.bytes b)\/(m1=.bytes b/\m2=.str x)))(h:Q (.bool<|qE m1 m2) st):OP D VR k st [m1,m2] (λvs=>compareOp .Eq (vs.getD 0 .none)<|vs.getD 1 .none) Q:=λA I s vs hA R V=>two V _ λv w V1 V2=>by
 have hu:A.units+8<cLine:=by obtain⟨O,O,c⟩:=hA;change A.units+8<9900;show wj ‹_›
 have hu':A.units<cLine:=yi hu;have key: ∀{m n:MV},dep m<=7->hk m=true->hk n=true->qE m n=c7 m n->Q (.bool<|qE m n) st->VR I m v->VR I n w->wpAny (model D.prog D.w) A (compareOp .Eq v w) (Post D VR I Q) (λO O=>False) s:=
  λd1 k1 k2 e h V1 V2=>PySem.EqBoolInt.of_rc (wM _ _ d1 k1 k2 (Ko.ki R) V1 V2 hu)<|aE R (.bool _)<|e▸h
 revert hs h V1 V2;show MV.bl3 h1 (λb=>?_) (λx=>?_) λms k1 d1=>?_
 ·show MV.bl3 h2 (λc O h V1 V2=>VR.kb V1 λt=>VR.kb V2 λu=>eq_bytes<|aE R (.bool _) h) (λy hs O O O=>absurd (.inr ⟨4.,4.⟩)<|hs y b) λns O O O h V1 V2=>VR.kb V1 λt=>VR.kt V2 λO O O e O=>PySem.EqBoolInt.of_rc (mU (R.keep _ _ e) hu')<|aE R (.bool _) h
 ·show MV.bl3 h2 (λc hs O O O=>absurd (.inl ⟨4.,4.⟩)<|hs x c) (λy O h V1 V2=>key (Nat.zero_le _) 4. 4. 4. h V1 V2) λns k2 O O h V1 V2=>key (Nat.zero_le _) 4. k2 4. h V1 V2
 ·show MV.bl3 h2 (λc O h V1 V2=>VR.kt V1 λO O O e O=>VR.kb V2 λu=>PySem.EqBoolInt.of_rc (mV (R.keep _ _ e) hu')<|aE R (.bool _) h) (λy O h V1 V2=>key d1 k1 4. 4. h V1 V2) λns k2 O O h V1 V2=>key d1 k1 k2 4. h V1 V2
mutual
inductive MD(st:Kk):MV->PyData->Prop
 |int (i:Int):MD st (.int i)<|.int i
 |str (x:Str):MD st (.str x)<|.str x
 |tup {ms ds}:MDs st ms ds->MD st (.tup ms) (.tuple ds)
 |lst {n xs ds}:st.m n=some (.l xs)->MDs st xs ds->MD st (.ref n) (.list ds)
inductive MDs(st:Kk):List MV->List PyData->Prop
 |nil:MDs st [] []
 |cons {m d ms ds}:MD st m d->MDs st ms ds->MDs st (m::ms) (d::ds)
end
theorem MD.reads{s:Shared}(R:Ko D I st s){m:MV}{d:PyData}{v:Value}(h:MD st m d):VR I m v-> ∃as,Reads s.heap v d as:=
 MD.rec (motive_1:=λm d O=> ∀v,VR I m v-> ∃as,Reads s.heap v d as) (motive_2:=λms ds O=> ∀vs,VRs I ms vs-> ∃as,ReadsAll s.heap vs ds as) (λi v V=>VR.ki V λO=>⟨_,.int _ _⟩) (λx v V=>VR.ks V λO=>⟨_,.str _ _⟩)
  (λO g v V=>VR.kt V λa n vs e U=>let⟨_,r⟩:=g _ U;⟨_,.tuple (R.keep _ _ e) 4. 4. (by simpa using r)⟩)
  (λhs O g v V=>VR.kr V λa ha=>let⟨_,_,hg,V⟩:=R.fl hs ha;let⟨_,r⟩:=g _ V;⟨_,.list hg 4. 4. r⟩)
  (λvs V=>VRs.ke V ⟨_,.nil⟩)
  (λO O g f vs V=>VRs.kc V λO O U Vs=>let⟨_,r⟩:=g _ U;let⟨_,q⟩:=f _ Vs;⟨_,.cons r q⟩) h v
theorem Cf{m1 m2:MV}{d₁ d₂:PyData}(h1:MD st m1 d₁)(h2:MD st m2 d₂)(c1:d₁.canLay0=true)(c2:d₂.canLay0=true)(hd:d₁.depth<=50)(h:Q (.bool<|PyData.eqv d₁ d₂) st):OP D VR k st [m1,m2] (λvs=>compareOp .Eq (vs.getD 0 .none)<|vs.getD 1 .none) Q:=λA I s vs hA R V=>two V _ λv w V1 V2=>by
 obtain⟨as,r⟩:=h1.reads R V1;obtain⟨bs,q⟩:=h2.reads R V2;show compareEq_reads r q c1 c2 (by obtain⟨O,O,c⟩:=hA;change A.units+min d₁.depth d₂.depth<9900;show Iv ‹_› ‹_›)<|aE R (.bool _) h
theorem HB{m1 m2:MV}{d₁ d₂:PyData}(h1:MD st m1 d₁)(h2:MD st m2 d₂)(c1:d₁.canLay0=true)(c2:d₂.canLay0=true)(hd:d₁.depth<=50)(h:Q (.bool<|!PyData.eqv d₁ d₂) st):OP D VR k st [m1,m2] (λvs=>compareOp .NotEq (vs.getD 0 .none)<|vs.getD 1 .none) Q:=λA I s vs hA R V=>two V _ λv w V1 V2=>by
 obtain⟨as,r⟩:=h1.reads R V1;obtain⟨bs,q⟩:=h2.reads R V2;show compareNe_reads r q c1 c2 (by obtain⟨O,O,c⟩:=hA;change A.units+min d₁.depth d₂.depth<9900;show Iv ‹_› ‹_›)<|aE R (.bool _) h
theorem gc{i:Int}(h:Q (.int<| -i) st):OP D VR k st [.int i] (λvs=>unaryOp .USub<|vs.getD 0 .none) Q:=λA I s vs hA R V=>one V _ λv V=>by
 show VR.ki V λO=>?_;show neg_int<|aE (R.toks _) (.int _ _) h
theorem wO{i:Int}(hd:st.m n=some (.l xs))(hi:0<=i)(hx:xs≠[])(hz:xs.length*i.toNat<=1000)(h:Alloc st λa=>Q (.ref a)<|st.set a<|.l (List.replicate i.toNat xs).flatten):OP D VR k st [.ref n,.int i] (λvs=>binaryOp .Mult (vs.getD 0 .none)<|vs.getD 1 .none) Q:=λA I s vs hA R V=>two V _ λv w V1 V2=>by
 show VR.ki V2 λu=>?_;show VR.kr V1 λl ha=>?_;obtain⟨us,c,hg,V⟩:=R.fl hd ha;have hl:=V.length;simp at hl;have hne:us.isEmpty=false:=by
  cases us with
  |mk l=>cases l with
   |nil=>simp at hl;show absurd (List.length_eq_zero_iff.mp hl.symm) hx
   |cons=>rfl
 have hi2:i.toNat<=1000:=by
  have:0<xs.length:=List.length_pos_iff.mpr hx;show Kc (Nat.le_mul_of_pos_left _ this) hz
 show wpAny_binaryOp_repeat_ref (T:="list") (U:="int") 1. ⟨_,hg,4.⟩ (λs'=>typeIs_int s' i u) noFill_list_mul F.fills_int_mul F.slot_int_rmul repeat_list F.slot_int_index.lookup
  (call_meets F.slot_int_rmul (typeIs_int s i u) F.entry_int_rmul (F.args_int_rmul_2 _ _) (int___rmul___int_list i u l us c)
   ⟨hg,4.,⟨_,hg,4.⟩,call_meets F.slot_list_mul ⟨_,hg,4.⟩ F.entry_list_mul (F.args_list_mul_2 _ _)
    (AutoListH.list___mul___list_int_3 l us c i u (by simp[Builtin.List.listFitsIndex];omega) (by rw[hl];omega) (by simp[Builtin.List.listTooLong,sizeLine,hl];omega))
    ⟨hg,?_⟩⟩)
 rw[hne];simp only[Bool.false_eq_true,if_false];obtain⟨a,f,q⟩:=h.take R;have hv:VRs I (List.replicate i.toNat xs).flatten (List.foldl (λx1 x2=>x1++x2) #[]<|List.replicate i.toNat us).toList:=by
  have: ∀(j:Nat) (acc:Array Value) (am:List MV),VRs I am acc.toList->VRs I (am++(List.replicate j xs).flatten) (List.foldl (λx1 x2=>x1++x2) acc<|List.replicate j us).toList:=by
   intro j;induction j with
   |zero=>intro acc am h;simpa using h
   |succ j ih=>
    intro acc am h;rw[List.replicate_succ,List.replicate_succ,List.foldl_cons,List.flatten_cons,<-List.append_assoc];show ih _ _ (by simpa using h.append V)
  simpa using this i.toNat #[] [] .nil
 obtain⟨J,S,hn,R2⟩:=R.newL (k:=0) (t:=s.toks) f hv;show⟨J,.ref a,_,S,R2,.ref hn,q⟩
end
end
section
open PySem.SeqAt
open PySem.Builtin
section
variable{prog:Program}{w:World}{A:Around}{E:Value->Shared->Prop}{s:Shared}
theorem jw{sl:Addr}{b n:Nat}{u:Tok}{Q:Int×Int×Nat->Shared->Prop}(hs:s.heap.IsSliceOf sl .none (.int b u) .none)(hb:b<=n)(h:Q (0,1,b) s):
 wpAny (model prog w) A (Builtin.Slice.sliceApplied (.ref sl)<|pure (n:Int)) Q E s:=by
 obtain⟨os,hos,hcs,hds⟩:=id hs;unfold Builtin.Slice.sliceApplied Builtin.Slice.sliceFields;show J8<|J8<|wpAny_field hos hds (x:=.none) 4.<|J8<|wpAny_field hos hds (x:=.int b u) 4.<|J8<|wpAny_field hos hds (x:=.none) 4.<|Kb ?_;show J8<|slicePart_none ?_;change wpAny _ _ (if((1:Int)==0)=true then _ else _) _ _ s;rw[if_neg 1.];show J8<|slicePart_none<|J8<|slicePart_int<|J8<|Kb ?_;change wpAny _ _ (match Builtin.Slice.sliceAdjust none (some (b:Int)) 1 (n:Int)with|(lo,hi)=>pure (lo,(1:Int),Builtin.Slice.slicePlaces lo hi 1)) _ _ s;have e:Builtin.Slice.sliceAdjust none (some (b:Int)) 1 (n:Int)=(0,(b:Int)):=by
  unfold Builtin.Slice.sliceAdjust;have h1: ¬((1:Int)<0):=by omega
  have h2: ¬((b:Int)<0):=by omega
  simp only[h1,h2,if_false];congr 1;show G9 ‹_›
 rw[e];change wpAny _ _ (pure ((0:Int),(1:Int),Builtin.Slice.slicePlaces 0 (b:Int) 1)) _ _ s;have e2:Builtin.Slice.slicePlaces 0 (b:Int) 1=b:=by
  unfold Builtin.Slice.slicePlaces;have h1:(1:Int)>0:=by omega
  simp only[h1,if_true,Int.ediv_one];split<;>omega
 rw[e2];show Kb h
theorem wP(xs:Array Value)(b:Nat):((List.range b).filterMap λ(k:Nat)=>xs[((0:Int)+(k:Int)*1).toNat]?).toArray=(xs.toList.take b).toArray:=by
 have e:(λ(k:Nat)=>xs[((0:Int)+(k:Int)*1).toNat]?)=λk=>xs[0+k]? :=by
  funext k;have:((0:Int)+(k:Int)*1).toNat=0+k:=by show Hr
  rw[this]
 rw[e];have:=pick_run xs 0 b;rw[List.filterMap_map]at this;have e2:((λx=>xs[x]?)∘λx=>0+x)=λk=>xs[0+k]? :=4.;rw[e2]at this;rw[this,List.drop_zero]
theorem iO{t sl:Addr}{items:Array Value}{b:Nat}{u:Tok}{Q:Value->Shared->Prop}(ht:s.heap.IsTuple t items)(hs:s.heap.IsSliceOf sl .none (.int b u) .none)(hb:b<items.size)
 (h:Q (.ref s.heap.objs.size) {s with heap:=s.heap.push {cls:=.type "tuple",data:=.seq (items.toList.take b).toArray}})
 (hsz:items.size<=sizeLine):wpAny (model prog w) A (getItem (.ref t)<|.ref sl) Q E s:=by
 have hdrop:sizeOk<|.seq (items.toList.take b).toArray:=by
  change(items.toList.take b).toArray.size<=sizeLine;rw[List.size_toArray,List.length_take,Array.length_toList];show Ha ‹_›
 obtain⟨os,hos,hcs,hds⟩:=id hs;have hTs:s.TypeIs (.ref sl) "slice":=⟨os,hos,hcs⟩;obtain⟨o,ho,hc,n,hd⟩:=id ht;unfold getItem;try with_reducible show wpAny_holding ?_
 first|show J8<|Kb ?_|skip
 show J8<|wpAny_sequenceKey ht.typeIs 1. ?_;show J8<|wpAny_callSpecial?_slot (name:=-"__getitem__") ht.typeIs F.slot_tuple_getitem
  (wpAny_call_entry F.slot_tuple_getitem ht.typeIs F.entry_tuple_getitem ?_<|F.args_tuple_getitem_2 _ _)
 change wpAny _ _ (Builtin.Tuple.tupleItemsOf (.ref t)>>=_) _ _ s;show J8<|wpAny_tupleItemsOf ho hd ?_;show J8<|wpAny_typeOf hTs ?_;rw[if_pos 1.];show J8<|jw hs (Nat.le_of_lt hb) ?_;have hno: ¬(((0:Int)==0&&(1:Int)==1&&b==items.size)=true):=by
  have:(b==items.size)=false:=by rw[beq_eq_false_iff_ne];show oa ‹_›
  rw[this];simp
 change wpAny _ _ (if((0:Int)==0&&(1:Int)==1&&b==items.size)=true then _ else _) _ _ s;rw[if_neg hno,wP items b];first
  |show J8 (m:=Builtin.Tuple.tupleExact _)<|wpAny_newObj_type (Kb ⟨_,4.,Kb h⟩) hdrop
  |show J8 (m:=Builtin.Tuple.tupleExact _)<|wpAny_newObj_type (J8<|Kb<|Kb ⟨_,4.,Kb h⟩) hdrop
  |show J8<|J8 (m:=Builtin.Tuple.tupleExact _)<|wpAny_newObj_type (Kb<|Kb ⟨_,4.,Kb h⟩) hdrop
  |show J8<|J8 (m:=Builtin.Tuple.tupleExact _)<|wpAny_newObj_type (Kb ⟨_,4.,Kb h⟩) hdrop
end
section
variable{D:Wd}{k:Nat}{st:Kk}{I J:Imm}{env:Env}{Q:MV->Kk->Prop}{n n':Nm}{xs ys:List MV}{m mv:MV}
def PART(D:Wd)(k:Nat)(env:Env)(st:Kk):Option Expr->(Option Int->Kk->Prop)->Prop
 |none,Q=>Q none st
 |some e,Q=>WV D k st (eval e env) λm st1=> ∃i,m=.int i/\Q (some i) st1
theorem PART.use{x:Option Expr}{QP:Option Int->Kk->Prop}{A:Around}{s:Shared}(h:PART D k env st x QP)(hA:Room k A)(R:Ko D I st s){Qx:Value->Shared->Prop}
 (hq: ∀v s' I' st' i,Sub I I'->Ko D I' st' s'->IsPart v i->QP i st'->Qx v s'):wpAny (model D.prog D.w) A (evalPart x env) Qx (λO O=>False) s:=by
 cases x with
 |none=>show Kb<|hq _ _ I st none (Sub.refl I) R .none h
 |some e=>
  show pon (h A I s hA R) λv s' I' m st' e' R' V z=>?_;obtain⟨i,rfl,q⟩:=z;show VR.ki V λO=>?_;show hq _ _ I' st' (some i) e' R' (.int _ _) q
def SL(D:Wd)(k:Nat)(st:Kk)(o:MV)(lo hi:Option Int)(Q:MV->Kk->Prop):Prop:=
 ∀(A:Around) (I:Imm) (s:Shared) (ov vl vu:Value) (sl:Addr),Room k A->Ko D I st s->VR I o ov->s.heap.IsSliceOf sl vl vu .none->IsPart vl lo->IsPart vu hi->
  (∃T id,s.TypeIs ov T/\typeLookup (.type T) "__getitem__"=pure (some<|.builtin id))/\wpAny (model D.prog D.w) A (getItem ov<|.ref sl) (Post D VR I Q) (λO O=>False) s
abbrev oX(D:Wd)(k:Nat)(Q:MV->Kk->Prop)(o:MV)(lo:Option Int)(hi:Option Int)(st3:Kk):Prop:=SL D k st3 o lo hi Q
abbrev oY(D:Wd)(k:Nat)(env:Env)(upper:Option Expr)(Q:MV->Kk->Prop)(o:MV)(lo:Option Int)(st2:Kk):Prop:=PART D k env st2 upper<|oX D k Q o lo
abbrev oZ(D:Wd)(k:Nat)(env:Env)(lower:Option Expr)(upper:Option Expr)(Q:MV->Kk->Prop)(o:MV)(st1:Kk):Prop:=PART D k env st1 lower<|oY D k env upper Q o
theorem gQ{value:Expr}{lower upper:Option Expr}{p pos:Pos}(h:WV D k st (eval value env)<|oZ D k env lower upper Q):
 WV D k st (eval (.Subscript value (.Slice lower upper none p) pos) env) Q:=λA I s hA R=>by
 show Subscript_<|pon (h A I s hA R) λv s1 I1 o st1 e1 R1 V1 h1=>?_;show wpAny_Slice<|PART.use h1 hA R1 λvl s2 I2 st2 lo e2 R2 P2 h2=>PART.use h2 hA R2 λvu s3 I₃ st3 hi e3 R3 P3 h3=>?_;rw[evalPart_none];show Kb ?_;have R4:Ko D I₃ st3 {s3 with heap:=s3.heap.push {cls:=.type "slice",data:=.fields #[vl,vu,.none]}}:=R3.grown (t:=s3.toks) λb o q=>Kg _ q;obtain⟨⟨T,id,hT,hl⟩,h4⟩:=h3 A I₃ _ v vl vu s3.heap.objs.size hA R4 (V1.mono<|e2.trans e3) (Heap.IsSliceOf.new ..) P2 P3;show tail_any hT hl (wpAny_mono h4 (λO O x=>((x.sub e3).sub e2).sub e1) λO O x=>x) 4.
noncomputable def ou(xs:List MV)(lo hi:Option Int):List MV:=(xs.drop<|lo.elim 0<|clipAt xs.length).take<|hi.elim xs.length (clipAt xs.length)-lo.elim 0 (clipAt xs.length)
theorem ut{lo hi:Option Int}(hd:LAt D st n xs)(hz:xs.length<=1000)(h:Alloc st λa=>Q (.ref a)<|st.set a<|.l<|ou xs lo hi):SL D k st (.ref n) lo hi Q:=λA I s ov vl vu sl hA R V hs pl pu=>by
 show VR.kr V λO ha=>?_;obtain⟨us,hL,V⟩:=hd _ _ _ R ha;have hl:=V.length;simp at hl;show⟨⟨"list",_,hL.typeIs,slot_list_getitem.lookup⟩,wpAny_getItem_list_slice hL hs pl pu .none (by simp) ?_ (by rw[sizeLine_eq];show g3 ‹_› ‹_› 4.)⟩;rw[slicePick_plain];obtain⟨a,f,q⟩:=h.take R;obtain⟨J,S,hn,R2⟩:=R.newL (x:=ou xs lo hi) (vs:=((us.toList.drop<|lo.elim 0<|clipAt us.size).take<|hi.elim us.size (clipAt us.size)-lo.elim 0 (clipAt us.size)).toArray) (k:=0) (t:=s.toks) f (by rw[hl];simpa[ou]using(V.drop _).take _);show⟨J,.ref a,_,S,R2,.ref hn,q⟩
theorem Au{lo hi:Option Int}(hd:st.m n=some (.l xs))(hz:xs.length<=1000)(h:Alloc st λa=>Q (.ref a)<|st.set a<|.l<|ou xs lo hi):SL D k st (.ref n) lo hi Q:=ut (.of hd) hz h
theorem zM{b:Nat}(hb:b<xs.length)(hz:xs.length<=1000)(h:Q (.tup<|xs.take b) st):SL D k st (.tup xs) none (some b) Q:=λA I s ov vl vu sl hA R V hs pl pu=>by
 cases pl;cases pu;show VR.kt V λa c us e U=>?_;have hl:=U.length;have hg:=R.keep _ _ e;show⟨⟨"tuple",_,⟨_,hg,4.⟩,F.slot_tuple_getitem.lookup⟩,iO (b:=b) ⟨_,hg,4.,c,4.⟩ hs (by simp;show Ag ‹_› ‹_›) ?_ (by rw[sizeLine_eq];simp;show g3 ‹_› ‹_› 4.)⟩;show⟨_,.tup<|xs.take b,st,Imm.put_sub _ R.size_none,R.push {cls:=.type "tuple",data:=.seq (us.toArray.toList.take b).toArray} 4.,.tup (vs:=us.take b) (n:=0) (by simpa using Imm.put_self I s.heap.objs.size _)<|(U.take b).mono<|Imm.put_sub _ R.size_none,h⟩
end
end
structure Kq(a b:Kk):Prop where
 m: ∀n x,a.m n=some x->b.m n=some x
 nm: ∀p x,b.m (.inr p)=some x-> ∃y,a.m (.inr p)=some y
 fr:a.fr=b.fr
 raw:a.raw=b.raw
theorem Kq.refl(a:Kk):Kq a a:=⟨λO O e=>e,λO x e=>⟨x,e⟩,4.,4.⟩
theorem Kq.trans{a b c:Kk}(x:Kq a b)(y:Kq b c):Kq a c:=⟨λn v e=>y.m n v<|x.m n v e,λp v e=>let⟨w,q⟩:=y.nm p v e;x.nm p w q,x.fr.trans y.fr,x.raw.trans y.raw⟩
theorem Kq.set{a b:Kk}(x:Kq a b)(n:Nm)(v:Con):Kq (a.set n v)<|b.set n v:=by
 show⟨λk y e=>?_,λp y e=>?_,x.fr,x.raw⟩
 ·change upd a.m n v k=_ at e;change upd b.m n v k=_;by_cases h:k=n
  ·subst h;rw[ak]at e ⊢;show e
  ·rw[bO _ _ h]at e ⊢;show x.m k y e
 ·change upd b.m n v (.inr p)=_ at e;change∃y,upd a.m n v (.inr p)=some y;by_cases h:(.inr p:Nm)=n
  ·show⟨v,by rw[h,ak]⟩
  ·rw[bO _ _ h]at e ⊢;show x.nm p y e
theorem Kq.tmp{st:Kk}{a:Addr}{v:Con}(h:st.m (.inl a)=none):Kq st<|st.set (.inl a) v:=
 ⟨λn x e=>by
  change upd st.m (.inl a) v n=_;rw[bO _ _ (by rintro rfl;rw[h]at e;cases e)];show e,λp x e=>⟨x,by
  change upd st.m (.inl a) v (.inr p)=_ at e;rw[bO _ _ (by intro h;cases h)]at e;show e⟩,4.,4.⟩
section
variable{D:Wd}{k:Nat}{st:Kk}{I J:Imm}{env:Env}
theorem Rel.lessen{hb:Heap}{o₀:OsState}{P:Params}{s:Shared}{st':Kk}(R:Rel hb o₀ P I st s)(h:Kq st' st):Rel hb o₀ P I st' s:=by
 obtain⟨ow,R'⟩:=R.own;show⟨R.base,R.keep,R.gens,R.os,ow,R'.free,λn x e=>R'.m n x<|h.m n x e,λp a e=>?_,by rw[h.fr];show R'.fr,by rw[h.raw];show R'.raw⟩;obtain⟨x,hx⟩:=R'.nm p a e;show h.nm p x hx
theorem Post.lessen{α β:Type}{T:Imm->β->α->Prop}{Q:β->Kk->Prop}{v:α}{s:Shared}(p:Post D T I (λm st=> ∃st',Kq st' st/\Q m st') v s):Post D T I Q v s:=
 let⟨I',m,st',a,b,c,st'',h,q⟩:=p;⟨I',m,st'',a,Rel.lessen b h,c,q⟩
theorem WP.lessen{α β:Type}{T:Imm->β->α->Prop}{t:Sem α}{Q:β->Kk->Prop}(h:WP D T k st t λm st'=> ∃st'',Kq st'' st'/\Q m st''):WP D T k st t Q:=λA I s hA R=>wpAny_mono (h A I s hA R) (λO O x=>x.lessen) λO O x=>x
theorem WP.from{α β:Type}{T:Imm->β->α->Prop}{t:Sem α}{Q:β->Kk->Prop}{st':Kk}(h:WP D T k st' t Q)(e:Kq st' st):WP D T k st t Q:=λA I s hA R=>h A I s hA<|Rel.lessen R e
theorem CD.lessen{f:MV}{ms:List MV}{Q:MV->Kk->Prop}(h:CD D k st f ms λm st'=> ∃st'',Kq st'' st'/\Q m st''):CD D k st f ms Q:=λA I s fv vs hA R V1 V2=>codeAny_mono (h A I s fv vs hA R V1 V2) λr s' x=>by
 rcases r with e|(v|O|O|O)<;>first|show Post.lessen x|show x.elim
theorem CL.from{f:MV}{ms:List MV}{Q:MV->Kk->Prop}{st':Kk}(h:CL D k st' f ms Q)(e:Kq st' st):CL D k st f ms Q:=λA I s fv vs hA R V1 V2=>h A I s fv vs hA (Rel.lessen R e) V1 V2
theorem ed{f:Addr}{fd:FuncData}{body:List Stmt}{names:List String}{ms:List MV}{Q:MV->Kk->Prop}(F:FnAt D.K f fd body names)(hl:ms.length=names.length)
 (h: ∀L,WF D k (st.push L<|names.zip ms) (execs body<|callEnv fd L f) λmf st'=> ∃st'',Kq st'' st'.pop/\Q mf.val st''):CD D (k+1) st (.ref<|.inl f) ms Q:=
 CD.lessen<|B1 F hl h
end
section
open Sem (wp)
noncomputable def badIds:List String:=Builtin.Bytes.decodersThatHold++["bytearray.__contains__","bytearray.__mod__","bytearray.__rmod__","_struct.pack_into.held","bytearray.find.held"]
noncomputable def Cg:Code->Bool
 | .builtin id _=> !badIds.contains id
 |_=>true
def Ch(Γ:Ctx):Prop:= ∀x∈Γ.below,Cg x.1=true
def Iz(Γ:Ctx):Prop:=Cg Γ.code=true/\Ch Γ
abbrev NoE:Value->Shared->Prop:=λO O=>False
def wpC{α:Type}(M:Model)(A:Around)(t:Sem α)(Q:α->Shared->Prop)(s:Shared):Prop:=
 ∀Γ p,Γ.In A->Iz Γ->wp M Γ t (λa O s'=>Q a s') (λe O s'=>NoE e s') p s
def Kp(M:Model)(A:Around)(c:Code)(R:Result->Shared->Prop)(s:Shared):Prop:=
 ∀Γ p,Γ.code=c->Γ.Below A->Ch Γ->wpCode M Γ R p s
section
variable{α β:Type}{M:Model}{A:Around}{s:Shared}{c:Code}{R:Result->Shared->Prop}
theorem wpC.of{t:Sem α}{Q:α->Shared->Prop}(h:wpAny M A t Q NoE s):wpC M A t Q s:=λΓ p hΓ O=>h Γ p hΓ
theorem Kp.of(h:codeAny M A c R s):Kp M A c R s:=λΓ p hc hΓ O=>h Γ p hc hΓ
theorem wpC.mono{t:Sem α}{Q Q':α->Shared->Prop}(h:wpC M A t Q s)(hQ: ∀a s,Q a s->Q' a s):wpC M A t Q' s:=
 λΓ p hΓ hF=>Sem.wp_mono M Γ t (λa O s=>hQ a s) (λO O O x=>x) p s<|h Γ p hΓ hF
theorem wpC.bind{m:Sem α}{f:α->Sem β}{Q:β->Shared->Prop}(h:wpC M A m (λa s'=>wpC M A (f a) Q s') s):wpC M A (m>>=f) Q s:=λΓ p hΓ hF=>by
 rw[Sem.wp_bind'];show Sem.wp_mono M Γ m (λa p' s' h'=>h' Γ p' hΓ hF) (λO O O h'=>h') p s<|h Γ p hΓ hF
theorem wpC.step{m:Sem α}{f:α->Sem β}{Q:β->Shared->Prop}(h:wpAny M A m (λa s'=>wpC M A (f a) Q s') NoE s):wpC M A (m>>=f) Q s:=wpC.bind<|wpC.of h
theorem wpC.pure{a:α}{Q:α->Shared->Prop}(h:Q a s):wpC M A (Pure.pure a) Q s:=λO O O O=>h
theorem wpC.holding{vs:List Value}{m:Sem α}{Q:α->Shared->Prop}(h:wpC M A m Q s):wpC M A (PySem.holding vs m) Q s:=λΓ p hΓ hF=>by rw[Sem.wp_holding];show h Γ p hΓ hF
theorem wpC.keep{vs:List Value}{m:Sem α}{Q:α->Shared->Prop}(h:wpC M A m Q s):wpC M A (m.keep vs) Q s:=λΓ p hΓ hF=>by rw[Sem.wp_keep];show h Γ p hΓ hF
theorem wpC.onRaise{m:Sem α}{k:Value->Sem Unit}{Q:α->Shared->Prop}(h:wpC M A m Q s):wpC M A (m.onRaise k) Q s:=λΓ p hΓ hF=>by
 rw[Sem.wp_onRaise];show Sem.wp_mono M Γ m (λO O O h'=>h') (λO O O h'=>h'.elim) p s<|h Γ p hΓ hF
theorem wpC.stand{pos:Pos}{f:Unit->Sem β}{Q:β->Shared->Prop}(h:wpC M A (f ()) Q s):wpC M A (standAt pos>>=f) Q s:=wpC.step<|wpAny_standAt h
theorem wpC.run{h:Option Value}{Q:Flow->Shared->Prop}(hc:Kp M (A.mark h) c (λr s'=>match r with| .ok f=>Q f s'| .error e=>False) s)(hnb:h≠some byPass:=by intro x;cases x):wpC M A (PySem.run c h) Q s:=
 λΓ p hΓ hF=>by
  rw[Sem.wp_run];show hc _ p 4. (hΓ.enter c h p hnb) λx hx=>by
   rcases List.mem_cons.mp hx with rfl|hx
   ·show hF.1
   ·show hF.2 x hx
theorem wpC.runValue{Q:Value->Shared->Prop}(hc:Kp M A c (λr s'=>match r with| .ok (.ret v)=>Q v s'|_=>False) s):wpC M A (PySem.runValue c) Q s:=λΓ p hΓ hF=>by
 rw[Sem.wp_runValue];show wpCode_mono ?_<|hc _ p 4. (hΓ.enter c none p (by intro x;cases x)) λx hx=>?_
 ·intro r s' h;rcases r with e|(v|O|O|O)<;>show h
 ·rcases List.mem_cons.mp hx with rfl|hx
  ·show hF.1
  ·show hF.2 x hx
theorem wpC.call{f:Value}{pos:List Value}{kw:List<|Str×Value}{Q:Value->Shared->Prop}(hc:Kp M A (.call f ⟨pos,kw⟩) (λr s'=>match r with| .ok (.ret v)=>Q v s'|_=>False) s):wpC M A (PySem.call f pos kw) Q s:=wpC.runValue hc
theorem Kp.mono{R':Result->Shared->Prop}(h:Kp M A c R s)(hR: ∀r s,R r s->R' r s):Kp M A c R' s:=λΓ p hc hΓ hF=>wpCode_mono hR<|h Γ p hc hΓ hF
theorem Kp.tree(hf:Cg c=true)(h:wpC M (A.under c) (M.den c) (λfin s'=>match fin with| .done f=>R (.ok f) s'| .again c'=>c'.quiet=true/\Kp M A c' R s') s):Kp M A c R s:=λΓ p hc hΓ hF=>by
 rw[wpCode_iff_wp,hc];show Sem.wp_mono M Γ _ (λfin p' s' h'=>?_) (λO O O h'=>h'.elim) p s<|h Γ p (hc▸hΓ.in) ⟨by rw[hc];show hf,hF⟩;cases fin with
 |done f=>show h'
 |again c'=>show⟨h'.1,h'.2 (Γ.goto c') p' 4. (hΓ.goto c') hF⟩
theorem Kp.loop(hf:Cg c=true)(hq:c.quiet=true)(I:Nat->Shared->Prop)
 (turn: ∀n s,I n s->wpC M (A.under c) (M.den c) (λfin s'=>match fin with
  | .done f=>R (.ok f) s'
  | .again c'=>(c'=c/\ ∃m,m<n/\I m s')\/(c'.quiet=true/\Kp M A c' R s')) s)(n:Nat)(h:I n s):Kp M A c R s:=by
 induction n using Nat.strongRecOn generalizing s with
 |ind n ih=>
  show Kp.tree hf<|(turn n s h).mono λfin s' hz=>?_;cases fin with
  |done f=>show hz
  |again c'=>
   rcases hz with⟨rfl,m,hm,hI⟩|hz
   ·show⟨hq,ih m hm hI⟩
   ·show hz
noncomputable def bz(a:Addr):Code×Pos->Bool
 |(.builtin "bytearray.__contains__" ⟨v::_,_⟩,_)|(.builtin "bytearray.__mod__" ⟨v::_,_⟩,_)
 |(.builtin "bytearray.__rmod__" ⟨_::v::_,_⟩,_)|(.builtin "_struct.pack_into.held" ⟨v::_,_⟩,_)=>Builtin.Bytes.sameRef v (.ref a)
 |(.builtin "bytearray.find.held" ⟨_::_::held,_⟩,_)=>held.any (Builtin.Bytes.sameRef<|.ref a)
 |(.builtin id ⟨v::_,_⟩,_)=>Builtin.Bytes.sameRef v (.ref a)&&Builtin.Bytes.decodersThatHold.contains id
 |_=>false
theorem rm{id:String}(nb:badIds.contains id=false){x:String}(h:badIds.contains x=true:=by decide+kernel): ¬id=x:=λe=>by rw[e,h]at nb;cases nb
theorem JF{a:Addr}{id:String}{as:List Value}{kw:_}{p:Pos}(nb:badIds.contains id=false):bz a (.builtin id ⟨as,kw⟩,p)=false:=by
 have h1: ¬id="bytearray.__contains__":=rm nb;have h2: ¬id="bytearray.__mod__":=rm nb;have h3: ¬id="bytearray.__rmod__":=rm nb;have h4: ¬id="_struct.pack_into.held":=rm nb;have h5: ¬id="bytearray.find.held":=rm nb;cases as with
 |nil=>delta bz bz.match_1;repeat first|show rfl|show(dif_neg h1).trans ?_|show(dif_neg h2).trans ?_|show(dif_neg h3).trans ?_|show(dif_neg h4).trans ?_|show(dif_neg h5).trans ?_
 |cons v l=>
  show Eq.trans (b:=Builtin.Bytes.sameRef v (.ref a)&&Builtin.Bytes.decodersThatHold.contains id) ?_ (by
   unfold badIds at nb;rw[List.contains_append,Bool.or_eq_false_iff]at nb;rw[nb.1,Bool.and_false])
  delta bz bz.match_1;repeat first|show rfl|show(dif_neg h1).trans ?_|show(dif_neg h2).trans ?_|show(dif_neg h3).trans ?_|show(dif_neg h4).trans ?_|show(dif_neg h5).trans ?_
theorem HD(a:Addr)(x:Code×Pos)(hb:Cg x.1=true):bz a x=false:=by
 obtain⟨c,p⟩:=x;cases c with
 |builtin id args=>show JF (by simpa using(show(!badIds.contains id)=true from hb))
 |_=>rfl
theorem sZ{a:Addr}{Q:Bool->Shared->Prop}(h:Q false s):wpC M A (Builtin.Bytes.exported<|.ref a) Q s:=λΓ p O hF=>by
 have key:((Γ.code,p)::Γ.below).any (bz a)=false:=List.any_eq_false.mpr λx hx=>by
  rw[HD a x (by
   rcases List.mem_cons.mp hx with rfl|hx
   ·show hF.1
   ·show hF.2 x hx)];show Bool.false_ne_true
 change Q _ s;show cast (congrArg (λb=>Q b s) key.symm) h
end
end
section
open Sem (wp)
namespace BA
theorem mro:mroOf (.type "bytearray")=pure [.type "bytearray",.type "object"]:=by rw[mroOf_type];kernel_rfl
theorem yB:typeLookup (.type "bytearray") "__new__"=pure (some<|.builtin "bytearray.__new__"):=by rw[typeLookup_type,builtinLookup_eq_fast];kernel_rfl
theorem sub:isSubtype (.type "bytearray") (.type "bytearray")=pure true:=by rw[isSubtype_type];kernel_rfl
theorem slot_init:Slot "bytearray" "__init__" "bytearray.__init__":=
 .of (owner:="bytearray") (n:="__init__") (by rw[typeLookup_type,builtinLookup_eq_fast];kernel_rfl) (by decide+kernel) (by decide+kernel) (by decide+kernel)
  (by first|show .inl (by decide+kernel)|show .inr (by decide+kernel)) (by rw[isSubtype_type];kernel_rfl)
theorem slot_append:Slot "bytearray" "append" "bytearray.append":=
 .of (owner:="bytearray") (n:="append") (by rw[typeLookup_type,builtinLookup_eq_fast];kernel_rfl) (by decide+kernel) (by decide+kernel) (by decide+kernel)
  (by first|show .inl (by decide+kernel)|show .inr (by decide+kernel)) (by rw[isSubtype_type];kernel_rfl)
theorem type_append:typeOf (.builtin "bytearray.append")=pure (.type "method_descriptor"):=by kernel_rfl
theorem called:TypeCalled "bytearray" "bytearray.__new__" "bytearray.__init__":=
 ⟨by decide+kernel,by decide+kernel,⟨_,_,mro⟩,madeBy_type mro yB (by decide+kernel),by decide+kernel,sub,slot_init⟩
theorem tcall:checkTypeCall "bytearray" ⟨[],[]⟩=pure ():=by kernel_rfl
theorem ncall:checkBuiltinCall "bytearray.__new__" ⟨[.type "bytearray"],[]⟩=pure ():=by kernel_rfl
theorem plain_new:plainId "bytearray.__new__"=true:=by decide+kernel
theorem plain_init:plainId "bytearray.__init__"=true:=by decide+kernel
theorem plain_app:plainId "bytearray.append"=true:=by decide+kernel
theorem entry_new:entryFor table "bytearray.__new__"=some Builtin.«list.__new__» :=entryFor_alias (id':="list.__new__") (by rw[fastTable_eq_tree];kernel_rfl) (by decide+kernel) (by decide+kernel) (by rw[fastTable_eq_tree];kernel_rfl)
theorem entry_init:entryFor table "bytearray.__init__"=some Builtin.«bytearray.__init__» :=entryFor_of_tree 2.
theorem entry_app:entryFor table "bytearray.append"=some Builtin.«bytearray.append» :=entryFor_of_tree 2.
theorem look_release:typeLookup (.type "bytearray") "__release_buffer__"=pure (some<|.builtin "bytearray.__release_buffer__"):=by rw[typeLookup_type,builtinLookup_eq_fast];kernel_rfl
theorem bindOpt:Builtin.Bytes.bindOptional "bytearray.__init__" "bytearray" ["source","encoding","errors"] [] []=pure [none,none,none]:=by kernel_rfl
end BA
set_option maxRecDepth 1000000 in
set_option maxHeartbeats 4000000 in
theorem yC:("bytearray.__new__".splitOn ".__new__").headD ""="bytearray":=by simp+decide [String.splitOn,String.splitOnAux]
noncomputable abbrev fe(x:Array UInt8):Obj:={cls:=.type "bytearray",data:=.bytearray x 0}
section
variable{prog:Program}{w:World}{A:Around}{s:Shared}{E:Value->Shared->Prop}
theorem wpC.ifF{α:Type}{M:Model}{c:Bool}{a b:Sem α}{Q:α->Shared->Prop}(hc:c=false)(h:wpC M A b Q s):wpC M A (if c=true then a else b) Q s:=by subst hc;show h
theorem wpC.ifT{α:Type}{M:Model}{c:Bool}{a b:Sem α}{Q:α->Shared->Prop}(hc:c=true)(h:wpC M A a Q s):wpC M A (if c=true then a else b) Q s:=by subst hc;show h
theorem Kp.builtin{id:String}{args:Args}{b:Builtin}{R:Result->Shared->Prop}(hb:entryFor table id=some b)(hf:badIds.contains id=false)
 (h:wpC (model prog w) (A.under<|.builtin id args) (b args) (λfin s'=>match fin with| .done f=>R (.ok f) s'| .again c'=>c'.quiet=true/\Kp (model prog w) A c' R s') s):Kp (model prog w) A (.builtin id args) R s:=by
 show Kp.tree (by change(!badIds.contains id)=true;rw[hf];rfl) ?_;change wpC _ _ (match entryFor table id with|some b=>b args|none=>unsupported ((withoutEnding? id "#data").getD id)) _ s;rw[hb];show h
theorem Kp.callBuiltin{id:String}{args:Args}{R:Result->Shared->Prop}(hq:(Code.builtin id args).quiet=true)
 (h:wpAny (model prog w) A.in1 (checkBuiltinCall id args) (λO s1=>Kp (model prog w) A (.builtin id args) R s1) NoE s):Kp (model prog w) A (.call (.builtin id) args) R s:=by
 show Kp.tree 4. ?_;change wpC _ A.in1 (do checkBuiltinCall id args;again (.builtin id args)) _ s;show wpC.step<|wpAny_mono h (λO s1 h1=>wpC.pure<|And.intro hq h1) λO O x=>x
theorem o0{Q:Value->Shared->Prop}(h:Q (.ref s.heap.objs.size) {s with heap:=s.heap.push<|fe #[]}):
 codeAny (model prog w) A (.call (.builtin "bytearray.__new__") ⟨[.type "bytearray"],[]⟩) (wants Q E) s:=by
 show codeAny_of_tree ?_;change wpAny _ A.in1 (do checkBuiltinCall "bytearray.__new__" ⟨[.type "bytearray"],[]⟩;again (.builtin "bytearray.__new__" ⟨[.type "bytearray"],[]⟩)) _ _ s;show J8<|wpAny_of_eq BA.ncall<|Kb ⟨plainId_quiet BA.plain_new _,codeAny_builtin_stack BA.entry_new 4. λp st=>?_⟩;rw[Around.under_plainId BA.plain_new _];have hsub:=BA.sub;have hown:=yC;obtain⟨hp,g,d,tk,os⟩:=s;dsimp only;rw[hown]
 wp_walk
 show h
theorem lF{a:Addr}{x:Array UInt8}{Q:Bool->Shared->Prop}(ho:s.heap.get? a=some (fe x))(h:Q false s):wpAny (model prog w) A (Builtin.Bytes.ownRelease<|.ref a) Q E s:=by
 have hT:s.TypeIs (.ref a) "bytearray":=⟨_,ho,4.⟩;unfold Builtin.Bytes.ownRelease Builtin.Bytes.slotIsOwn;show J8<|J8<|wpAny_specialOf hT BA.look_release ?_;dsimp only;have e1:("bytearray.__release_buffer__".endsWith<|"."++"__release_buffer__")=true:=by decide+kernel
 have e2:("bytearray.__release_buffer__".dropRight<|"__release_buffer__".length+1)="bytearray":=by decide+kernel
 rw[e1,e2];show wpAny_isInstance hT BA.sub<|Kb h
theorem vh{a:Addr}{x:Array UInt8}{Q:Nat->Shared->Prop}(ho:s.heap.get? a=some (fe x))(h:Q 0 s):wpAny (model prog w) A (Builtin.Bytes.exportsOf<|.ref a) Q E s:=by
 unfold Builtin.Bytes.exportsOf;show J8<|wpAny_load ho<|Kb h
theorem wQ{a:Addr}{x:Array UInt8}{Q:Bool->Shared->Prop}(ho:s.heap.get? a=some (fe x))(h:Q false s):wpC (model prog w) A (Builtin.Bytes.exported (.ref a)<||>(do return (<-Builtin.Bytes.exportsOf (.ref a))>0)) Q s:=by
 change wpC _ _ (Builtin.Bytes.exported (.ref a)>>=_) _ _;show wpC.bind<|sZ ?_;change wpC _ _ (Builtin.Bytes.exportsOf (.ref a)>>=_) _ _;show wpC.step<|vh ho<|wpC.pure h
theorem zN{a:Addr}{x:Array UInt8}{f:Array UInt8->Array UInt8}{Q:Unit->Shared->Prop}(ho:s.heap.get? a=some (fe x))(hz:(f x).size<=sizeLine)
 (h: ∀h',h'.get? a=some (fe<|f x)->Heap.SameBut a s.heap h'->Q () {s with heap:=h'}):wpAny (model prog w) A (Builtin.Bytes.write (.ref a) f) Q E s:=by
 change wpAny _ _ (updateBytearray a f) _ _ _;unfold updateBytearray;show J8<|wpAny_load ho ?_;change wpAny _ _ (update a (Obj.mapBytearray f)>>=λO=>lookBehind a) _ _ _;have h2:(s.heap.update a<|Obj.mapBytearray f).get? a=some (fe<|f x):=Heap.get?_update_self (Obj.mapBytearray f) ho 4.;show J8<|wpAny_update ho<|wpAny_lookBehind h2 ?_<|h _ h2<|Heap.SameBut.update ..;change(if(f x).size>sizeLine then some "bytearray:memory" else none)=none;rw[if_neg 3.]
theorem mW{a:Addr}{Q:Shared->Prop}(ho:s.heap.get? a=some (fe #[]))(h: ∀h',h'.get? a=some (fe #[])->Heap.SameBut a s.heap h'->Q {s with heap:=h'}):
 Kp (model prog w) A (.call (.builtin "bytearray.__init__") ⟨[.ref a],[]⟩) (λr s'=>r=.ok (.ret .none)/\Q s') s:=by
 have hT:s.TypeIs (.ref a) "bytearray":=⟨_,ho,4.⟩;show Kp.callBuiltin (plainId_quiet BA.plain_init _)<|BA.slot_init.check _ _ _ _ _ _ _ _ hT (by unfold argsOk;kernel_rfl) ?_;show Kp.builtin BA.entry_init (by decide+kernel) ?_;rw[Around.under_plainId BA.plain_init _];unfold Builtin.«bytearray.__init__»;dsimp only;show wpC.step<|lF ho ?_;show wpC.ifF 4. ?_;show wpC.step<|wpAny_of_eq BA.bindOpt ?_;show wpC.step<|wpAny_of_eq (a:=()) 4. ?_;show wpC.step<|wpAny_of_eq (a:=()) 4. ?_;show wpC.bind<|wQ ho ?_;show wpC.ifF 4. ?_;show wpC.step<|zN ho 1. λh' ho' hb=>?_;show wpC.pure ⟨4.,h h' ho' hb⟩
theorem kK{a:Addr}{x:Array UInt8}{i:Int}{u:Tok}{Q:Shared->Prop}(ho:s.heap.get? a=some (fe x))(h0:0<=i)(h1:i<256)(hz:x.size+1<=sizeLine)
 (h: ∀h',h'.get? a=some (fe<|x.push i.toNat.toUInt8)->Heap.SameBut a s.heap h'->Q {s with heap:=h'}):
 Kp (model prog w) A (.call (.builtin "bytearray.append") ⟨[.ref a,.int i u],[]⟩) (λr s'=>r=.ok (.ret .none)/\Q s') s:=by
 have hT:s.TypeIs (.ref a) "bytearray":=⟨_,ho,4.⟩;show Kp.callBuiltin (plainId_quiet BA.plain_app _)<|BA.slot_append.check _ _ _ _ _ _ _ _ hT (by unfold argsOk;kernel_rfl) ?_;show Kp.builtin BA.entry_app (by decide+kernel) ?_;rw[Around.under_plainId BA.plain_app _];unfold Builtin.«bytearray.append»;show wpC.step<|wpAny_of_eq (a:=(.ref a,.int i u)) 4. ?_;dsimp only;unfold Builtin.Bytes.byteValue;show wpC.bind<|wpC.step<|wpAny_of_eq (rfl:asIndex (.int i u)=pure i) ?_;show wpC.ifF (by simp only[Bool.or_eq_false_iff,decide_eq_false_iff_not];omega)<|wpC.pure ?_;unfold Builtin.Bytes.checkResize;show wpC.bind<|wpC.bind<|wQ ho<|wpC.ifF 4.<|wpC.pure ?_;show wpC.step (zN (f:=(·.push i.toNat.toUInt8)) ho (by rw[Array.size_push];show hz) λh' ho' hb=>?_);show wpC.pure ⟨4.,h h' ho' hb⟩
theorem mX{Q:Value->Shared->Prop}(h: ∀h',(∀b o,s.heap.get? b=some o->h'.get? b=some o)->h'.get? s.heap.objs.size=some (fe #[])->Q (.ref s.heap.objs.size) {s with heap:=h'}):
 wpC (model prog w) A (call (.type "bytearray") []) Q s:=by
 show wpC.call<|Kp.tree 4. ?_;change wpC _ _ (callAny (.type "bytearray") _) _ _;show wpC.pure ⟨Code.quiet_builtin _ (by decide+kernel),Kp.builtin entry_type_call (by decide+kernel) ?_⟩;rw[Around.under_plain (weight_type_call_type "bytearray" [] []) 4.];obtain⟨c,tl,hmro⟩:=BA.called.mro;unfold Builtin.«type.__call__»;dsimp only;show wpC.ifF BA.called.notType ?_;show wpC.ifF BA.called.canCreate ?_;show wpC.step<|wpAny_of_eq BA.tcall ?_;show wpC.step<|wpAny_of_eq hmro ?_;show wpC.ifF 4. ?_;show wpC.step<|wpAny_of_eq BA.called.made ?_;dsimp only;show wpC.step<|Kb ?_;show wpC.bind<|wpC.holding<|wpC.of<|wpAny_call<|codeAny_mono (o0 (Q:=λv s'=>v=.ref s.heap.objs.size/\s'={s with heap:=s.heap.push<|fe #[]}) (E:=NoE) ⟨4.,4.⟩) λr s' hr=>?_;rcases r with e|(v|O|O|O)<;>try show hr.elim
 obtain⟨rfl,rfl⟩:=hr;have ho:=Heap.get?_push_size s.heap (o:=fe #[]) 4.;have hT:({s with heap:=s.heap.push<|fe #[]}:Shared).TypeIs (.ref s.heap.objs.size) "bytearray":=⟨_,ho,4.⟩;show wpC.step<|wpAny_isInstance hT BA.sub ?_;show wpC.ifF 4. ?_;show wpC.bind<|wpC.holding ?_;unfold callSpecial?;show wpC.step<|wpAny_specialOf hT BA.slot_init.lookup ?_;show wpC.holding<|wpC.step<|wpAny_of_eq (BA.slot_init.bind _) ?_;dsimp only;show wpC.bind<|wpC.call<|(mW (Q:=λs'=> ∃h',s'={s with heap:=h'}/\(∀b o,s.heap.get? b=some o->h'.get? b=some o)/\h'.get? s.heap.objs.size=some (fe #[])) ho λh' ho' hb=>?_).mono λr s' hr=>?_
 ·show⟨h',4.,λb o e=>(hb.2 b<|Nat.ne_of_lt<|Heap.lt_size e).trans<|Kg _ e,ho'⟩
 ·obtain⟨rfl,h',rfl,h1,h2⟩:=hr;dsimp only;show wpC.pure ?_;dsimp only;show wpC.ifF 4.<|wpC.pure ?_;show h h' h1 h2
end
end
section
open Sem (wp)
namespace BA
theorem noBytes:typeLookup (.type "bytearray") "__bytes__"=pure none:=by rw[typeLookup_type,builtinLookup_eq_fast];kernel_rfl
theorem noIndex:typeLookup (.type "bytearray") "__index__"=pure none:=by rw[typeLookup_type,builtinLookup_eq_fast];kernel_rfl
theorem plainAttrs:PlainAttrs "bytearray":=
 ⟨⟨"bytearray.__getattribute__",by rw[typeLookup_type,builtinLookup_eq_fast];kernel_rfl,by decide+kernel⟩,by rw[typeLookup_type,builtinLookup_eq_fast];kernel_rfl⟩
theorem look_buffer:typeLookup (.type "bytearray") "__buffer__"=pure (some<|.builtin "bytearray.__buffer__"):=by rw[typeLookup_type,builtinLookup_eq_fast];kernel_rfl
end BA
section
variable{prog:Program}{w:World}{A:Around}{s:Shared}{E:Value->Shared->Prop}
theorem vi{a:Addr}{x:Array UInt8}{Q:Bool->Shared->Prop}(ho:s.heap.get? a=some (fe x))(h:Q true s):wpAny (model prog w) A (Builtin.Bytes.slotIsOwn (.ref a) "__buffer__") Q E s:=by
 have hT:s.TypeIs (.ref a) "bytearray":=⟨_,ho,4.⟩;unfold Builtin.Bytes.slotIsOwn;show J8<|wpAny_specialOf hT BA.look_buffer ?_;dsimp only;have e1:("bytearray.__buffer__".endsWith<|"."++"__buffer__")=true:=by decide+kernel
 have e2:("bytearray.__buffer__".dropRight<|"__buffer__".length+1)="bytearray":=by decide+kernel
 rw[e1,e2];show wpAny_isInstance hT BA.sub h
theorem yD{a:Addr}{x:Array UInt8}{Q:Array UInt8->Shared->Prop}(ho:s.heap.get? a=some (fe x))(h:Q x s):wpAny (model prog w) A (Builtin.Bytes.payload<|.ref a) Q E s:=by
 unfold Builtin.Bytes.payload Builtin.Bytes.payload?;show J8<|J8<|wpAny_load ho ?_;show Kb<|Kb h
theorem wR{a:Addr}{x:Array UInt8}{Q:Value->Shared->Prop}(ho:s.heap.get? a=some (fe x))(hz:x.size<=sizeLine)(h:Q (.bytes x s.toks) {s with toks:=s.toks+1}):
 codeAny (model prog w) A (.call (.builtin "bytes.__new__") ⟨[.type "bytes",.ref a],[]⟩) (wants Q E) s:=by
 show codeAny_of_tree ?_;change wpAny _ A.in1 (do checkBuiltinCall "bytes.__new__" ⟨[.type "bytes",.ref a],[]⟩;again (.builtin "bytes.__new__" ⟨[.type "bytes",.ref a],[]⟩)) _ _ s;show J8<|wpAny_of_eq (F.bm_newCall _)<|Kb ⟨plainId_quiet F.bm_plain _,codeAny_builtin F.bm_entry ?_⟩;rw[Around.under_plainId F.bm_plain _];have hT:s.TypeIs (.ref a) "bytearray":=⟨_,ho,4.⟩;unfold Builtin.«bytes.__new__»;show J8<|wpAny_of_eq (a:=true) 4. ?_;show bm_if_false 4. ?_;show J8<|wpAny_of_eq F.bm_sub ?_;show bm_if_false 4. ?_;show J8<|wpAny_of_eq (F.bm_bind _) ?_;show J8<|wpAny_of_eq (a:=()) 4. ?_;show J8<|wpAny_of_eq (a:=()) 4. ?_;show bm_if_false 4. ?_;show J8<|wpAny_specialOf hT BA.noBytes ?_;show J8<|J8 ?_;change wpAny _ _ (load a>>=_) _ _ _;show J8<|wpAny_load ho ?_;show Kb<|Kb ?_;show bm_if_false 4. ?_;show J8<|wpAny_specialOf hT BA.noIndex ?_;show bm_if_true 4. ?_;first
  |change wpAny _ _ (Builtin.Bytes.buffer? "bytes.__new__" (.ref a) true>>=_) _ _ _
  |(show J8 ?_;change wpAny _ _ (Builtin.Bytes.buffer? "bytes.__new__" (.ref a) true>>=_) _ _ _)
 show J8 ?_;unfold Builtin.Bytes.buffer?;show J8<|wpAny_specialOf hT BA.look_buffer ?_;show J8<|vi ho ?_;show bm_if_false 4. ?_;show J8<|wpAny_specialOf hT BA.look_buffer ?_;dsimp only;show J8<|lF ho ?_;show bm_if_false 4. ?_;show J8<|yD ho ?_;show Kb ?_;dsimp only;show J8<|wpAny_rule ?_;show J8<|wpAny_mkBytes ?_ hz;change wpAny _ _ (if(Value.type "bytes"==Value.type "bytes")=true then _ else _) _ _ _;show bm_if_true 1. ?_;first|show Kb h|show J8<|Kb<|Kb h
theorem vj{a:Addr}{x:Array UInt8}{Q:Value->Shared->Prop}(ho:s.heap.get? a=some (fe x))(hz:x.size<=sizeLine)(h:Q (.bytes x s.toks) {s with toks:=s.toks+1}):wpAny (model prog w) A (call (.type "bytes") [.ref a]) Q E s:=by
 show callType_codes (Q₁:=λobj s1=>s1.TypeIs obj "bytes"/\Q obj s1) F.bm_called (F.bm_typeCall _) F.entry_object_init
  (wR ho hz ⟨PySem.W.typeIs_bytes _ _ _,h⟩) λobj s1 h1=>?_
 show⟨h1.1,F.args_object_init_2 obj _,object_init_meets F.bm_called.init.lookup F.bm_called.made 1. prog w A.in1 _ s1 ⟨h1.1,4.,h1.2⟩⟩
end
section
variable{D:Wd}{k:Nat}{st:Kk}{Q:MV->Kk->Prop}
def CLc(D:Wd)(k:Nat)(st:Kk)(f:MV)(ms:List MV)(Q:MV->Kk->Prop):Prop:=
 ∀(A:Around) (I:Imm) (s:Shared) (fv:Value) (vs:List Value),Room k A->Ko D I st s->VR I f fv->VRs I ms vs->wpC (model D.prog D.w) A (call fv vs) (Post D VR I Q) s
def CDc(D:Wd)(k:Nat)(st:Kk)(f:MV)(ms:List MV)(Q:MV->Kk->Prop):Prop:=
 ∀(A:Around) (I:Imm) (s:Shared) (fv:Value) (vs:List Value),Room k A->Ko D I st s->VR I f fv->VRs I ms vs->Kp (model D.prog D.w) A (.call fv ⟨vs,[]⟩) (B0 D I Q) s
theorem CLc.of{f:MV}{ms:List MV}(h:CL D k st f ms Q):CLc D k st f ms Q:=λA I s fv vs hA R V1 V2=>wpC.of<|h A I s fv vs hA R V1 V2
theorem CDc.of{f:MV}{ms:List MV}(h:CD D k st f ms Q):CDc D k st f ms Q:=λA I s fv vs hA R V1 V2=>Kp.of<|h A I s fv vs hA R V1 V2
theorem CDc.cl{f:MV}{ms:List MV}(h:CDc D k st f ms Q):CLc D k st f ms Q:=λA I s fv vs hA R V1 V2=>
 wpC.call (Kp.mono (h A I s fv vs hA R V1 V2) λr s' x=>by
  rcases r with e|(v|O|O|O)<;>first|show x|show x.elim)
theorem CLc.room{f:MV}{ms:List MV}{j:Nat}(p:CLc D j st f ms Q)(h:j<=k):CLc D k st f ms Q:=λA I s fv vs hA R V1 V2=>p A I s fv vs (hA.le h) R V1 V2
theorem CLc.at{f:MV}{ms:List MV}{j:Nat}(h:CDc D j st f ms Q)(e:j<=k):CLc D k st f ms Q:=h.cl.room e
theorem fB(h:Alloc st λn=>Q (.ref n)<|st.set n<|.b #[]):CLc D k st (.typ "bytearray") [] Q:=λA I s fv vs hA R V1 V2=>by
 show VR.ky V1 ?_;show VRs.ke V2 ?_;show mX λh' hk ho=>?_;obtain⟨n,f,q⟩:=h.take R;obtain⟨J,S,hn,R'⟩:=R.new (h':=h') (t:=s.toks) (x:=.b #[]) f hk ho λow J O O=>ho;show⟨J,.ref n,_,S,R',.ref hn,q⟩
theorem lG{n:Nm}{x:Array UInt8}{i:Int}(hd:st.m n=some (.b x))(h0:0<=i)(h1:i<256)(hz:x.size<=1000)(h:Q .none<|st.set n<|.b<|x.push i.toNat.toUInt8):CLc D k st (.blt "bytearray.append") [.ref n,.int i] Q:=λA I s fv vs hA R V1 V2=>by
 show VR.kk V1 ?_;show VRs.k2 V2 λO O W1 W2=>?_;show VR.kr W1 λa ha=>?_;show VR.ki W2 λO=>?_;obtain⟨O,O,O,hg⟩:=R.find hd ha;show wpC.call<|(kK (Q:=λs'=>Post D VR I Q .none s') hg h0 h1 (by rw[sizeLine_eq];omega) λh' ho' hb=>?_).mono λr s' hr=>?_
 ·show⟨I,.none,_,Sub.refl I,R.put (t:=s.toks) (y:=.b<|x.push i.toNat.toUInt8) hd ha ho' (λb hbne=>hb.2 b hbne) λO=>ho',.none,h⟩
 ·obtain⟨rfl,hq⟩:=hr;show hq
theorem s4{n:Nm}{x:Array UInt8}(hd:st.m n=some (.b x))(hz:x.size<=1000)(h:Q (.bytes x) st):CL D k st (.typ "bytes") [.ref n] Q:=λA I s fv vs hA R V1 V2=>by
 show VR.ky V1 ?_;show VRs.k1 V2 λO W1=>?_;show VR.kr W1 λa ha=>?_;obtain⟨O,O,O,hg⟩:=R.find hd ha;show vj hg (by rw[sizeLine_eq];omega)<|aE (R.toks _) (.bytes x _) h
theorem ij{n:Nm}{x:Array UInt8}{QG:MV×List MV->Kk->Prop}(hd:st.m n=some (.b x))(h:QG (.blt "bytearray.append",[.ref n]) st):GM D k st (.ref n) "append" QG:=λA I s v pl hA R V=>by
 show VR.kr V λO ha=>?_;obtain⟨O,O,O,hg⟩:=R.find hd ha;show getMethod_builtin ⟨_,hg,4.⟩ BA.plainAttrs BA.slot_append BA.type_append (λb e=>by cases e;show⟨_,hg,4.⟩)<|aE R ⟨.blt _,.cons (.ref ha) .nil⟩ h
end
end
section
open Sem (wp)
section
variable{prog:Program}{w:World}{A:Around}{s:Shared}{R:Result->Shared->Prop}{env:Env}
theorem wT{D:Wd}{α β:Type}{T:Imm->β->α->Prop}{I:Imm}{t:Sem α}{Q:β->Kk->Prop}{Qx:α->Shared->Prop}(h:wpC (model D.prog D.w) A t (Post D T I Q) s)
 (k: ∀v s1 I1 m st1,Sub I I1->Ko D I1 st1 s1->T I1 m v->Q m st1->Qx v s1):wpC (model D.prog D.w) A t Qx s:=
 wpC.mono h λO O ⟨_,_,_,a,b,c,d⟩=>k _ _ _ _ _ a b c d
theorem s5{D:Wd}{α β:Type}{T:Imm->β->α->Prop}{I J:Imm}{t:Sem α}{Q:β->Kk->Prop}(e:Sub I J)(h:wpC (model D.prog D.w) A t (Post D T J Q) s):wpC (model D.prog D.w) A t (Post D T I Q) s:=
 wpC.mono h λO O x=>x.sub e
theorem Kp.func{body:List Stmt}(h:wpC (model prog w) (A.deeper env) (execs body env) (λf s'=>R (.ok<|.ret (match f with| .ret v=>v|_=>.none)) s') s):Kp (model prog w) A (.func body env) R s:=by
 show Kp.tree 4. ?_;change wpC _ (A.deeper env) (do point;match<-(execs body env).onRaise («leaving» env)with| .ret v=>ret v|_=>ret .none) _ s;show wpC.step<|wpAny_point<|wpC.bind<|wpC.onRaise<|h.mono λf s' h'=>?_;cases f<;>show wpC.pure h'
theorem Kp.callFunction{a:Addr}{args:Args}{o:Obj}{fd:FuncData}{body:List Stmt}(hroom:A.depth<recursionLimit)(ho:s.heap.get? a=some o)
 (hd':o.data=.func fd)(hco:fd.scope.isCoroutine=false)(hgen:fd.scope.isGenerator=false)(hbody:fd.body=.stmts body)(hcd:s.heap.CodeRec fd.code fd.qualname)
 (h:wpAny (model prog w) A.in1 (bindArgs fd args) (λbinds s1=>
  wpAny (model prog w) A.in1 (newFunctionEnv fd.scope fd.globals fd.closure binds (fd.qualname++".<locals>.") (some a) fd.code none fd.builtins)
   (λenv s2=>s2.heap.NoLimit/\Kp (model prog w) A (.func body env) R s2) NoE s1) NoE s):
 Kp (model prog w) A (.call (.ref a) args) R s:=by
 show Kp.tree 4. ?_;change wpC _ A.in1 (callAny (.ref a) args) _ s;unfold callAny;dsimp only;show wpC.step<|wpAny_load ho ?_;obtain⟨c,oc,vs,tq,hc,hoc,hdc,hq⟩:=hcd;rw[hd'];dsimp only;unfold PySem.callFunction;rw[hco,hgen,hbody,hc];dsimp only;rw[hc]at h;show wpC.step (m:=field (.ref c) 1)<|wpAny_field hoc hdc hq ?_;show wpC.step<|Kb ?_;show wpC.step<|wpAny_mono h (λbinds s1 h1=>wpC.step<|wpAny_mono h1 (λenv s2 h2=>wpC.step<|wpAny_enterFrame h2.1 hroom<|wpC.pure<|And.intro 4. h2.2) λO O h'=>h') λO O h'=>h'
theorem Kp.callDef{a:Addr}{o:Obj}{fd:FuncData}{body:List Stmt}{args:Args}{binds:List<|Str×Value}
 (hroom:A.depth<recursionLimit)(ho:s.heap.get? a=some o)(hdata:o.data=.func fd)(hlim:s.heap.NoLimit)(hcd:s.heap.CodeRec fd.code fd.qualname)
 (hbody:fd.body=.stmts body)(hbind:BindsTo s fd args binds)
 (hcell: ∀x∈fd.scope.names,x.2≠.cell)(hloc: ∀x∈binds,fd.scope.names.lookup x.1=some .local)
 (h: ∀h0,h0.Ns s.heap.objs.size (λx=>binds.reverse.lookup x)->(∀b o,s.heap.get? b=some o->h0.get? b=some o)->
  wpC (model prog w) (A.deeper<|callEnv fd s.heap.objs.size a) (execs body<|callEnv fd s.heap.objs.size a) (λf s'=>R (.ok<|.ret (match f with| .ret v=>v|_=>.none)) s')
   {s with heap:=h0,toks:=s.toks+binds.length})
 (hco:fd.scope.isCoroutine=false)(hgen:fd.scope.isGenerator=false)(hk:fd.scope.kind=.function):Kp (model prog w) A (.call (.ref a) args) R s:=by
 show Kp.callFunction hroom ho hdata hco hgen hbody hcd<|hbind _ _ _ _ ?_;show wpAny_newFunctionEnv hcell hloc (λh0 hns0 hsb0=>⟨hlim.fresh _ hsb0,Kp.func<|h h0 hns0 λb o e=>?_⟩) hk;show hsb0.extBut b o (Nat.ne_of_lt<|Heap.lt_size e)<|Kg _ e
theorem Kp.callCells{a:Addr}{o:Obj}{fd:FuncData}{body:List Stmt}{vals:List Value}{binds:List<|Str×Value}
 (hroom:A.depth<recursionLimit)(ho:s.heap.get? a=some o)(hdata:o.data=.func fd)(hlim:s.heap.NoLimit)(hcd:s.heap.CodeRec fd.code fd.qualname)
 (hbody:fd.body=.stmts body)(hbind:bindArgs fd ⟨vals,[]⟩=pure binds)(hclo:fd.closure=[])
 (hkind: ∀x∈binds,fd.scope.names.lookup x.1=some .local\/(fd.scope.names.lookup x.1=some .cell/\((cellsFrom (s.heap.objs.size+1) fd.scope.names []).lookup x.1).isSome=true))
 (h: ∀s1,InCallC s (callEnvC fd s.heap.objs.size a).locals (bindL (callEnvC fd s.heap.objs.size a).kindOf binds λO=>none) (callEnvC fd s.heap.objs.size a).cells
  (bindC (callEnvC fd s.heap.objs.size a).kindOf binds λO=>none) s1->
  wpC (model prog w) (A.deeper<|callEnvC fd s.heap.objs.size a) (execs body<|callEnvC fd s.heap.objs.size a) (λf s'=>R (.ok<|.ret (match f with| .ret v=>v|_=>.none)) s') s1)
 (hco:fd.scope.isCoroutine=false)(hgen:fd.scope.isGenerator=false)(hk:fd.scope.kind=.function):Kp (model prog w) A (.call (.ref a) ⟨vals,[]⟩) R s:=by
 show Kp.callFunction hroom ho hdata hco hgen hbody hcd ?_;rw[hbind,hclo];show Kb<|wpAny_newFunctionEnv_cells hk hkind λenv he s' x=>?_;subst he;show⟨hlim.keeps x.toInCall.keep,Kp.func<|h s' x⟩
theorem Kp.make{C:Addr}{h:Heap}{g:Array GenState}{d:Drawn}{t:Nat}{os:OsState}{rest:List Value}{init:Value}(Y:Makes (model prog w) h C)(hi:Looks (model prog w) h (typeLookup (.ref C) "__init__")<|some init)
 (hb: ∀self,Looks (model prog w) h (bindSpecial init self) (init,[self]))(hne:(some init !=some (Value.builtin "object.__init__"))=true)
 (hq:Kp (model prog w) (A.under<|.builtin "type.__call__" ⟨.ref C::rest,[]⟩) (.call init ⟨.ref (h.objs.size+1)::rest,[]⟩) (λr s'=>r=.ok (.ret .none)/\R (.ok<|.ret<|.ref<|h.objs.size+1) s') ⟨(h.push emptyDict).push<|instObj C h.objs.size,g,d,t,os⟩):
 Kp (model prog w) A (.call (.ref C) ⟨rest,[]⟩) R ⟨h,g,d,t,os⟩:=by
 have Y':=Y;obtain⟨⟨oc,od,cd,sl,hC,e1,e2,e4⟩,made,base,self,top,call,typ⟩:=Y;show Kp.tree 4. ?_;change wpC _ _ (callAny (.ref C) _) _ _;unfold callAny;dsimp only;show wpC.step<|wpAny_load hC ?_;change wpC _ _ (callAny.viaDunder (.ref C) _) _ _;unfold callAny.viaDunder;show wpC.step<|call.here ?_;dsimp only;rw[tc_bind];show wpC.step<|Kb<|wpC.step<|Kb ?_;show wpC.ifT 4.<|wpC.pure<|And.intro 4. ?_;show Kp.callBuiltin (Code.quiet_builtin _ (by decide+kernel))<|check_slot tc_kind tc_split typ (tc_args _ _ _) ?_;show Kp.builtin (args:=⟨.ref C::rest,[]⟩) entry_typeCall (by decide+kernel) ?_;unfold Builtin.«type.__call__»;have hm:Looks (model prog w) h (mroOf<|.ref C) cd.mro:=((Looks.ld (part:=none) hC).andThen .now).andThen .now;dsimp only;show wpC.ifF 4. ?_;show wpC.step<|hm.here ?_;show wpC.ifF e4 ?_;show wpC.step<|made.here ?_;dsimp only;show wpC.step<|Kb ?_;show wpC.bind<|wpC.holding<|wpC.of<|wpAny_call ?_;show new_K (R:=λr s'=>match r with| .ok (.ret v)=>_| .ok _=>False| .error e=>NoE e s') Y' hi (.inl hne) ?_;dsimp only;have k: ∀b o,h.get? b=some o->((h.push emptyDict).push<|instObj C h.objs.size).get? b=some o:=λb o e=>Kg _<|Kg _ e;have hx:((h.push emptyDict).push<|instObj C h.objs.size).get? (h.objs.size+1)=some (instObj C h.objs.size):=by heap_get
 have t1:Looks (model prog w) ((h.push emptyDict).push<|instObj C h.objs.size) (typeOf<|.ref<|h.objs.size+1)<|.ref C:=(Looks.ld hx).andThen .now;have s1:=self.keeps k;have i1:=hi.keeps k;have b1:=(hb<|.ref<|h.objs.size+1).keeps k;have ii:Looks (model prog w) ((h.push emptyDict).push<|instObj C h.objs.size) (isInstance (.ref<|h.objs.size+1)<|.ref C) true:=t1.andThen s1;show wpC.step<|ii.here ?_;show wpC.ifF 4. ?_;show wpC.bind<|wpC.holding ?_;unfold callSpecial? specialOf;show wpC.bind<|wpC.step<|t1.here<|wpC.of<|i1.here ?_;dsimp only;show wpC.holding<|wpC.step<|b1.here ?_;dsimp only;show wpC.bind<|wpC.call<|hq.mono λr s' z=>?_;obtain⟨rfl,z⟩:=z;show wpC.pure ?_;dsimp only;show wpC.ifF 4.<|wpC.pure z
end
theorem wpC.let_go{M:Model}{A:Around}{s:Shared}{vs ks:List Value}{Q:Unit->Shared->Prop}(h:Q () s):wpC M A (release vs ks) Q s:=λΓ p O O=>by rw[Sem.wp_release];show h
def WPc(D:Wd){α β:Type}(T:Imm->β->α->Prop)(k:Nat)(st:Kk)(t:Sem α)(Q:β->Kk->Prop):Prop:=
 ∀(A:Around) (I:Imm) (s:Shared),Room k A->Ko D I st s->wpC (model D.prog D.w) A t (Post D T I Q) s
abbrev WVc(D:Wd)(k:Nat)(st:Kk)(t:Sem Value)(Q:MV->Kk->Prop):Prop:=WPc D VR k st t Q
abbrev WFc(D:Wd)(k:Nat)(st:Kk)(t:Sem Flow)(Q:MF->Kk->Prop):Prop:=WPc D TF k st t Q
abbrev WLc(D:Wd)(k:Nat)(st:Kk)(t:Sem<|List Value)(Q:List MV->Kk->Prop):Prop:=WPc D VRs k st t Q
section
variable{D:Wd}{α β:Type}{T:Imm->β->α->Prop}{k:Nat}{st:Kk}{I J:Imm}{env:Env}
theorem WP.c{t:Sem α}{Q:β->Kk->Prop}(h:WP D T k st t Q):WPc D T k st t Q:=λA I s hA R=>wpC.of<|h A I s hA R
theorem WPc.mono{t:Sem α}{Q Q':β->Kk->Prop}(p:WPc D T k st t Q)(h: ∀m st,Q m st->Q' m st):WPc D T k st t Q':=
 λA I s hA R=>wpC.mono (p A I s hA R) λO O x=>x.mono h
theorem WPc.lessen{t:Sem α}{Q:β->Kk->Prop}(h:WPc D T k st t λm st'=> ∃st'',Kq st'' st'/\Q m st''):WPc D T k st t Q:=λA I s hA R=>wpC.mono (h A I s hA R) λO O x=>x.lessen
theorem CDc.lessen{f:MV}{ms:List MV}{Q:MV->Kk->Prop}(h:CDc D k st f ms λm st'=> ∃st'',Kq st'' st'/\Q m st''):CDc D k st f ms Q:=λA I s fv vs hA R V1 V2=>Kp.mono (h A I s fv vs hA R V1 V2) λr s' x=>by
 rcases r with e|(v|O|O|O)<;>first|show Post.lessen x|show x.elim
abbrev vk(D:Wd)(k:Nat)(env:Env)(rest:List Stmt)(Q:MF->Kk->Prop)(st1:Kk):Prop:=WFc D k st1 (execs rest env) Q
theorem aD{s₀ rest}{Q:MF->Kk->Prop}(h:WFc D k st (exec s₀ env)<|Km (vk D k env rest Q) Q):WFc D k st (execs (s₀::rest) env) Q:=λA I s hA R=>by
 rw[execs_cons];show wpC.bind<|wT (h A I s hA R) λf s1 I1 a st1 e1 R1 V1 h1=>?_;cases V1 with
 |next=>show s5 e1<|h1 A I1 s1 hA R1
 |brk=>show wpC.pure ⟨I1,_,st1,e1,R1,.brk,h1⟩
 |cont=>show wpC.pure ⟨I1,_,st1,e1,R1,.cont,h1⟩
 |ret V=>show wpC.pure ⟨I1,_,st1,e1,R1,.ret V,h1⟩
theorem j5{Q:MF->Kk->Prop}(h:Q .next st):WFc D k st (execs [] env) Q:=(aT h).c
abbrev yE(D:Wd)(k:Nat)(env:Env)(body:List Stmt)(orelse:List Stmt)(Q:MF->Kk->Prop)(b:Bool)(st1:Kk):Prop:=if b then WFc D k st1 (execs body env) Q else WFc D k st1 (execs orelse env) Q
theorem Ci{test body orelse pos}{Q:MF->Kk->Prop}(h:WB D k st (isTrue test env<|eval test env)<|yE D k env body orelse Q):WFc D k st (exec (.If test body orelse pos) env) Q:=λA I s hA R=>by
 rw[exec_If];show wpC.stand<|wpC.step<|pon (h A I s hA R) λv s1 I1 a st1 e1 R1 V1 h1=>?_;obtain rfl:a=v:=V1;cases a
 ·show wpC.ifF 4.<|s5 e1<|h1 A I1 s1 hA R1
 ·show wpC.ifT 4.<|s5 e1<|h1 A I1 s1 hA R1
abbrev ro(Q:MF->Kk->Prop)(m:MV)(st1:Kk):Prop:=Q (.ret m) st1
theorem lH{e pos}{Q:MF->Kk->Prop}(h:WVc D k st (eval e env)<|ro Q):WFc D k st (exec (.Return (some e) pos) env) Q:=λA I s hA R=>by
 rw[exec_Return_some];show wpC.stand<|wpC.bind<|wT (h A I s hA R) λv s1 I1 a st1 e1 R1 V1 h1=>?_;show wpC.pure ⟨I1,_,st1,e1,R1,.ret V1,h1⟩
abbrev vm(Q:MF->Kk->Prop)(_:MV)(st1:Kk):Prop:=Q .next st1
theorem jx{e pos}{Q:MF->Kk->Prop}(h:WVc D k st (eval e env)<|vm Q)(hi:interactive env=false:=by rfl)(hs:swapsWith e none pos.line env=pure false:=by rfl):WFc D k st (exec (.Expr e pos) env) Q:=λA I s hA R=>by
 rw[exec_Expr env e pos hi hs];show wpC.stand<|wpC.bind<|wT (h A I s hA R) λv s1 I1 a st1 e1 R1 V1 h1=>?_;have fin:Post D TF I Q .next s1:=⟨I1,_,st1,e1,R1,.next,h1⟩;show wpC.of<|wpAny_dropValue fin
abbrev jy(env:Env)(x:String)(Q:MF->Kk->Prop)(m:MV)(st1:Kk):Prop:= ∃ρ r,st1.fr=(env.locals,ρ)::r/\Q .next (st1.loc<|pt x m ρ)
theorem mY{x:String}{p value pos}{Q:MF->Kk->Prop}(h:WVc D k st (eval value env)<|jy env x Q)
 (hl:env.kindOf (Str.ofString x)=some .local:=by kernel_rfl)(hp:(env.scope.kind==.class||(env.scope.kind==.module&&env.locals !=env.globals))=false:=by rfl)
 (hs:swapsWith value (some<|.Name (Str.ofString x) p) pos.line env=pure false:=by rfl):WFc D k st (exec (.Assign [.Name (Str.ofString x) p] value pos) env) Q:=λA I s hA R=>by
 rw[exec_Assign_Name env _ p value pos hs];show wpC.stand<|wpC.bind<|wT (h A I s hA R) λv s1 I1 m st1 e1 R1 V1 z=>?_;obtain⟨ρ,r,hf,h1⟩:=z;show wpC.stand<|wpC.step<|wpAny_bindName<|pon (oJ (D:=D) (k:=k) (Q:=λO st=>Q .next st) hf h1 hl hp A I1 s1 [v] hA R1<|.cons V1 .nil) λu s2 I2 O st2 e2 R2 O h2=>?_;show wpC.pure ⟨I2,_,st2,e1.trans e2,R2,.next,h2⟩
abbrev kL(Q:MF->Kk->Prop)(_:Unit)(st3:Kk):Prop:=Q .next st3
abbrev kM(D:Wd)(k:Nat)(x:String)(Q:MF->Kk->Prop)(m:MV)(a:MV)(st2:Kk):Prop:=OP D TU k st2 [a,m] (λvs=>setAttr (vs.getD 0 .none) (Str.ofString x)<|vs.getD 1 .none)<|kL Q
abbrev kN(D:Wd)(k:Nat)(env:Env)(o:Expr)(x:String)(Q:MF->Kk->Prop)(m:MV)(st1:Kk):Prop:=WV D k st1 (eval o env)<|kM D k x Q m
theorem o3{o:Expr}{x:String}{p value pos}{Q:MF->Kk->Prop}(h:WVc D k st (eval value env)<|kN D k env o x Q)
 (hs:swapsWith value (some<|.Attribute o (Str.ofString x) p) pos.line env=pure false:=by rfl):WFc D k st (exec (.Assign [.Attribute o (Str.ofString x) p] value pos) env) Q:=λA I s hA R=>by
 rw[plainObj_exec_Assign_Attribute o _ p value pos hs];show wpC.stand<|wpC.bind<|wT (h A I s hA R) λv s1 I1 m st1 e1 R1 V1 h1=>?_;rw[assign_Attribute];show wpC.bind<|wpC.bind<|wpC.holding<|wpC.of<|pon (h1 A I1 s1 hA R1) λu s2 I2 a st2 e2 R2 V2 h2=>?_;show wpC.stand<|wpC.bind<|wpC.holding<|wpC.of<|pon (h2 A I2 s2 [u,v] hA R2<|.cons V2<|.cons (V1.mono e2) .nil) λO s3 I₃ O st3 e3 R3 O h3=>?_;show wpC.let_go<|wpC.pure ⟨I₃,_,st3,(e1.trans e2).trans e3,R3,.next,h3⟩
abbrev jz(Q:MF->Kk->Prop)(_:Unit)(st2:Kk):Prop:=Q .next st2
abbrev jA(D:Wd)(k:Nat)(env:Env)(elts:List Expr)(c:Nat)(tpos:Pos)(Q:MF->Kk->Prop)(m:MV)(st1:Kk):Prop:=OP D TU k st1 [m] (λvs=>assign (.Tuple elts c tpos) env<|vs.getD 0 .none)<|jz Q
theorem mZ{elts:List Expr}{c:Nat}{tpos pos:Pos}{value:Expr}{Q:MF->Kk->Prop}(h:WVc D k st (eval value env)<|jA D k env elts c tpos Q)
 (hs:swapsWithSole [.Tuple elts c tpos] value pos.line env=pure false:=by rfl)(hw:swappedStores [.Tuple elts c tpos] value env=pure none:=by rfl):WFc D k st (exec (.Assign [.Tuple elts c tpos] value pos) env) Q:=λA I s hA R=>by
 rw[exec_Assign];show wpC.stand ?_;rw[hs];show wpC.step<|Kb ?_;show wpC.ifF 4. ?_;show wpC.bind<|wT (h A I s hA R) λv s1 I1 m st1 e1 R1 V1 h1=>?_;rw[hw];show wpC.step<|Kb ?_;change wpC _ A (do assignAll v [assign (.Tuple elts c tpos) env];(pure Flow.next:Sem Flow)) _ s1;show wpC.step<|pon (h1 A I1 s1 [v] hA R1<|.cons V1 .nil) λO s2 I2 O st2 e2 R2 O h2=>?_;show wpC.pure ⟨I2,_,st2,e1.trans e2,R2,.next,h2⟩
end
end
section
open Sem (wp)
section
variable{D:Wd}{k:Nat}{st:Kk}{I J:Imm}{env:Env}
theorem vn{M:Model}{A:Around}{s:Shared}{f:Value}{args:List<|Bool×Sem Value}{Q:Args->Shared->Prop}(hn:args.any (·.1)=false)
 (h:wpC M A (spliced args) (λvs s'=>Q ⟨vs,[]⟩ s') s):wpC M A (evalArgs f true args []) Q s:=by
 have key: ∀args:List<|Bool×Sem Value,wpC M A (spliced args) (λvs s'=>Q ⟨vs,[]⟩ s') s->wpC M A (spliced args>>=λvs=>PySem.holding vs (do let ks<-(pure []:Sem (List<|Str×Value));pure (⟨vs,ks⟩:Args))) Q s:=λargs h=>
  wpC.bind<|wpC.mono h λvs s' h'=>wpC.holding<|wpC.step<|Kb<|wpC.pure h'
 cases args with
 |nil=>
  unfold evalArgs;change wpC M A (spliced []>>=_) Q s;show wpC.bind<|wpC.mono h λvs s' h'=>?_;show wpC.holding ?_;show wpC.step<|Kb<|wpC.step<|Kb<|wpC.pure h'
 |cons p r=>
  obtain⟨b,x⟩:=p;cases b with
  |true=>simp at hn
  |false=>
   unfold evalArgs;change wpC M A (spliced ((false,x)::r)>>=_) Q s;show wpC.bind<|wpC.mono h λvs s' h'=>?_;show wpC.holding ?_;show wpC.step<|Kb<|wpC.step<|Kb<|wpC.pure h'
abbrev m7(D:Wd)(k:Nat)(f:MV)(first:List MV)(Q:MV->Kk->Prop)(ms:List MV)(st1:Kk):Prop:=CLc D k st1 f (first++ms) Q
theorem lI{f:MV}{first:List MV}{pos:Pos}{args:List Expr}{Q:MV->Kk->Prop}(ok:aL D f)(h:WLc D k st (spliced<|backTo pos<|starEach args env)<|m7 D k f first Q)
 (hs:(backTo pos<|starEach args env).any (·.1)=false):
 ∀(A:Around) (I:Imm) (s:Shared) (fv:Value) (vs:List Value),Room k A->Ko D I st s->VR I f fv->VRs I first vs->wpC (model D.prog D.w) A (callWith pos fv vs (backTo pos<|starEach args env) []) (Post D VR I Q) s:=by
 intro A I s fv vs hA R V1 V2;unfold callWith;show wpC.bind<|wpC.holding<|vn hs<|wT (h A I s hA R) λus s1 I1 ms st1 e1 R1 V3 h1=>?_;show wpC.stand ?_;obtain⟨kp,hk',L⟩:=oK ok V1 _ (Ko.inK R1);rw[hs,List.any_nil,Bool.or_false];show wpC.step<|L.here ?_;have main:=s5 e1<|h1 A I1 s1 fv (vs++us) hA R1 (V1.mono e1)<|(V2.mono e1).append V3;have tail: ∀{t:Sem Value},wpC (model D.prog D.w) A t (Post D VR I Q) s1->wpC (model D.prog D.w) A (t>>=λr=>PySem.holding [r] point>>=λO=>pure r) (Post D VR I Q) s1:=
  λht=>wpC.bind<|wpC.mono ht λr s2 hr=>wpC.step<|wpAny_holding<|wpAny_point<|wpC.pure hr
 have marked (mk:Value):wpC (model D.prog D.w) A (callMarked mk fv (vs++us) []) (Post D VR I Q) s1:=by unfold callMarked;show wpC.keep main
 rcases hk' with rfl|rfl|rfl<;>(try dsimp only)<;>first|show tail main|(split<;>first|show tail main|show tail<|marked _)
abbrev m8(D:Wd)(k:Nat)(Q:MV->Kk->Prop)(f:MV)(ms:List MV)(st2:Kk):Prop:=CLc D k st2 f ms Q
abbrev m9(D:Wd)(k:Nat)(env:Env)(args:List Expr)(pos:Pos)(Q:MV->Kk->Prop)(f:MV)(st1:Kk):Prop:=aL D f/\WLc D k st1 (spliced<|backTo pos<|starEach args env) (m8 D k Q f)
theorem b8{x:Str}{p:Pos}{args:List Expr}{pos:Pos}{Q:MV->Kk->Prop}(h:WV D k st (eval (.Name x p) env)<|m9 D k env args pos Q)
 (hs:(backTo pos<|starEach args env).any (·.1)=false:=by rfl):WVc D k st (eval (.Call (.Name x p) args [] pos) env) Q:=λA I s hA R=>by
 change wpC _ _ (eval (.Name x p) env>>=λf=>callWith pos f [] (backTo pos<|starEach args env) []) _ _;show wpC.step<|pon (h A I s hA R) λv s1 I1 f st1 e1 R1 V1 z=>?_;obtain⟨ok,h1⟩:=z;show s5 e1<|lI (first:=[]) ok h1 hs A I1 s1 v [] hA R1 V1 .nil
abbrev na(D:Wd)(k:Nat)(Q:MV->Kk->Prop)(fx:MV×List MV)(ms:List MV)(st3:Kk):Prop:=CLc D k st3 fx.1 (fx.2++ms) Q
abbrev nf(D:Wd)(k:Nat)(env:Env)(pos:Pos)(args:List Expr)(Q:MV->Kk->Prop)(fx:MV×List MV)(st2:Kk):Prop:=aL D fx.1/\WLc D k st2 (spliced<|backTo pos<|starEach args env) (na D k Q fx)
abbrev nj(D:Wd)(k:Nat)(env:Env)(x:String)(pos:Pos)(args:List Expr)(Q:MV->Kk->Prop)(m:MV)(st1:Kk):Prop:=GM D k st1 m x<|nf D k env pos args Q
theorem ik{o:Expr}{x:String}{apos pos:Pos}{args:List Expr}{Q:MV->Kk->Prop}
 (h:WV D k st (eval o env)<|nj D k env x pos args Q)
 (hb:attributeBase o (Str.ofString x) env (eval o env)=eval o env:=by rfl)(hf:methodCallForm (args.length+0) (backTo pos<|starEach args env) []=true:=by rfl)(hp:(apos.endLine==pos.line)=true:=by rfl)
 (hs:(backTo pos<|starEach args env).any (·.1)=false:=by rfl):WVc D k st (eval (.Call (.Attribute o (Str.ofString x) apos) args [] pos) env) Q:=λA I s hA R=>by
 change wpC _ _ (attributeBase o (Str.ofString x) env (eval o env)>>=λov=>standAt apos.atName>>=λO=>methodCall o (Str.ofString x) apos pos env ov (args.length+0) (backTo pos<|starEach args env) []) _ _;rw[hb];show wpC.step<|pon (h A I s hA R) λv s1 I1 m st1 e1 R1 V1 h1=>?_;show wpC.stand ?_;unfold methodCall;rw[hf];have hpos:methodCallPos true o env apos pos=pure pos:=by unfold methodCallPos;simp[hp]
 show wpC.bind<|wpC.holding<|wpC.of<|wpAny_mono (h1 A I1 s1 v _ hA R1 V1) ?_ λO O x=>x;rintro⟨fv,us⟩ s2 ⟨I2,⟨f,ns⟩,st2,e2,R2,⟨V2,V3⟩,ok,h2⟩;show wpC.step<|wpAny_of_eq hpos ?_;show s5 e1<|s5 e2<|lI ok h2 hs A I2 s2 fv us hA R2 V2 V3
abbrev kO(Q:List MV->Kk->Prop)(m:MV)(ms:List MV)(st2:Kk):Prop:=Q (m::ms) st2
abbrev kP(D:Wd)(k:Nat)(env:Env)(pos:Pos)(rest:List Expr)(Q:List MV->Kk->Prop)(m:MV)(st1:Kk):Prop:=WLc D k st1 (spliced<|backTo pos<|starEach rest env)<|kO Q m
theorem iP{pos:Pos}{e:Expr}{rest:List Expr}{Q:List MV->Kk->Prop}(h:WVc D k st (eval e env)<|kP D k env pos rest Q)
 (he:starEach (e::rest) env=(false,eval e env)::starEach rest env:=by rfl):WLc D k st (spliced<|backTo pos<|starEach (e::rest) env) Q:=λA I s hA R=>by
 rw[he];change wpC _ A (do
  let v<-eval e env;let here<-(pure [v]:Sem (List Value))
  return here++(<-PySem.holding here (spliced<|backTo pos<|starEach rest env))) _ s
 show wpC.bind<|wT (h A I s hA R) λv s1 I1 a st1 e1 R1 V1 h1=>?_;show wpC.step<|Kb<|wpC.bind<|wpC.holding<|wT (h1 A I1 s1 hA R1) λu s2 I2 b st2 e2 R2 V2 h2=>?_;show wpC.pure ⟨I2,_,st2,e1.trans e2,R2,.cons (V1.mono e2) V2,h2⟩
abbrev s6(Q:MV->Kk->Prop)(ms:List MV)(st1:Kk):Prop:=ms.length<=1000/\Q (.tup ms) st1
theorem yF{elts n pos}{Q:MV->Kk->Prop}(h:WLc D k st (spliced<|backTo pos<|starEach elts env)<|s6 Q):WVc D k st (eval (.Tuple elts n pos) env) Q:=λA I s hA R=>by
 rw[arm_eval_Tuple];show wpC.stand<|wpC.bind<|wT (h A I s hA R) λvs s1 I1 ms st1 e1 R1 V1 z=>?_;obtain⟨h1,h2⟩:=z;show wpC.of<|wpAny_newObj_type ?_ (by change vs.toArray.size<=sizeLine;rw[List.size_toArray,sizeLine_eq];have:=V1.length;show g3 ‹_› ‹_› 4.);show⟨_,.tup ms,st1,e1.trans<|Imm.put_sub _ R1.size_none,R1.push {cls:=.type "tuple",data:=.seq vs.toArray} 4.,.tup (Imm.put_self ..)<|V1.mono<|Imm.put_sub _ R1.size_none,h2⟩
theorem zO{f:Addr}{fd:FuncData}{body:List Stmt}{names:List String}{ms:List MV}{Q:MV->Kk->Prop}(F:FnAt D.K f fd body names)(hl:ms.length=names.length)
 (h: ∀L,WFc D k (st.push L<|names.zip ms) (execs body<|callEnv fd L f) λmf st'=>Q mf.val st'.pop):CDc D (k+1) st (.ref<|.inl f) ms Q:=by
 intro A I s fv vs hA R V1 V2;show VR.kr V1 λO ha=>?_;cases ha;obtain⟨oc,od,osl,ho⟩:=F.obj;have X:=Ko.inK R;have hlen:vs.length=names.length:=V2.length.trans hl;show Kp.callDef (binds:=(names.map Str.ofString).zip vs) (by have:=hA.2.1;change A.depth<1000;show ul ‹_›) (X _ _ ho) 4. (D.lim.keeps<|Ko.hk R) (codeRec_of X F.code) F.isBody (BindsTo.of_eq<|F.binds vs hlen) F.cells ?_ ?_ F.co F.gen F.kind
 ·intro y hy;obtain⟨x,hx,e⟩:=List.mem_map.mp (List.of_mem_zip (a:=y.1) (b:=y.2) hy).1;have:=List.all_eq_true.mp F.locals x hx;rw[<-e];show beq_iff_eq.mp this
 ·intro h0 hn hk;have R1:Ko D I (st.push s.heap.objs.size<|names.zip ms) {s with heap:=h0,toks:=s.toks+((names.map Str.ofString).zip vs).length}:=
   R.newF hk ⟨_,hn,λx m hx=>zH V2 hx F.nodup⟩
  show wpC.mono (h _ _ I _ ?_ R1) ?_
  ·obtain⟨a,b,c⟩:=hA;show⟨a,?_,?_⟩
   ·change A.depth+1+_+_<=_;show og ‹_›
   ·change A.units+3+_+_<=_;show uk ‹_›
  ·rintro fl s' ⟨I',mf,st',e,R',V,q⟩;cases V with
   |ret V=>show⟨I',_,_,e,R'.pop,V,q⟩
   |_=>show⟨I',.none,_,e,R'.pop,.none,q⟩
theorem Cj{C fI:Addr}{ms:List MV}{Q:MV->Kk->Prop}(hm:makesIn D.K C=true)(hi:findIn D.K (.ref C) "__init__"=some (some<|.ref fI))(hf:typeIn D.K (.ref fI)=some (.type "function"))
 (h:Alloc st λx=>CDc D k (st.set x<|.n C []) (.ref<|.inl fI) (.ref x::ms) λm st'=>m=.none/\Q (.ref x) st'):CDc D (k+1) st (.ref<|.inl C) ms Q:=by
 intro A I s fv vs hA R V1 V2;show VR.kr V1 λO ha=>?_;cases ha;have X:D.K.In s.heap:=Ko.inK R;obtain⟨x,f,h⟩:=h.take1 R;obtain⟨J,S,hx,R1⟩:=R.newN (C:=C) (t:=s.toks) f;show Kp.make (h:=s.heap) (g:=s.gens) (d:=s.drawn) (t:=s.toks) (os:=s.os) (makes_of X hm) (looks_findIn X hi) (λself=>bind_fn X self hf) 4. ?_;have hA':Room k<|A.under<|.builtin "type.__call__" ⟨.ref C::vs,[]⟩:=by
  obtain⟨a,b,c⟩:=hA;show⟨a,?_,?_⟩
  ·rw[depth_under_make];show og ‹_›
  ·rw[units_under_make];show Iy ‹_›
 show Kp.mono (h _ J _ (.ref fI) (.ref (s.heap.objs.size+1)::vs) hA' R1 (.ref 4.)<|.cons (.ref hx)<|V2.mono S) λr s' x=>?_;rcases r with e|(v|O|O|O)<;>first|show x.elim|skip
 obtain⟨I',m,st',e,R',V,rfl,q⟩:=x;show VR.kn V ?_;show⟨4.,I',.ref _,st',S.trans e,R',.ref<|e.at hx,q⟩
theorem wU{target iter:Expr}{body:List Stmt}{pos:Pos}{Q:MF->Kk->Prop}
 (h:IT D k env st iter target<|ForI D k env target (λst2 P=>WFc D k st2 (execs body env) P) Q)
 (hs: ∀x,foldedSetIterable iter env x=pure x:=by intro O;rfl):WFc D k st (exec (.For target iter body [] pos) env) Q:=λA I s hA R=>by
 rw[exec_For];show wpC.stand<|wpC.step<|wpAny_mono (h A I s hA R) (λx s1 h1=>wpC.step<|wpAny_of_eq (hs x)<|wpC.stand<|wpC.step<|wpAny_holding<|wpAny_mono h1 ?_ λO O x=>x) λO O x=>x;show λitv s2 z=>hid λX hX=>?_;obtain⟨base,src,n,item,Z,rs,I2,e2,hI,hz,R2,inv,hr,hsrc,h0,hb,hend⟩:=z;show hX ?_;unfold runOwn;show wpC.onRaise<|wpC.run ?_;show Kp.loop 4. 4. (FInv D I base inv n Z) (λj s' z=>hid λY hY=>?_) n ⟨0,base,rs,I2,4.,Nat.zero_le _,h0,4.,e2,hz,R2⟩;obtain⟨i,st',rs',I',hj,hi,hinv,hraw,e',hz',R'⟩:=z;show hY ?_;show(?_:wpC _ A ((forTurn target itv body [] env).onRaise (λx=>do noteFrame x env;theTreesLotGoes x)) _ s');show wpC.onRaise ?_;simp only[forTurn];show wpC.stand<|wpC.bind<|wpC.onRaise<|wpC.of ?_;by_cases hlt:i<n
 ·show hI.go hlt hA.1 (hsrc i st' hi hinv) hz' R' λv s3 h3=>wpC.step<|son h3 λO s4 I4 rs4 e4 hz4 V4 R4=>wpC.step ?_;show pon (hb i (st'.pushRs rs4) hlt (hr i st' _ hinv) A I4 s4 [v] hA R4<|.cons V4 .nil) λO s5 I5 O st5 e5 R5 O h5=>wpC.bind<|wT (h5 A I5 s5 hA R5) λfl s6 I6 mf st6 e6 R6 V6 h6=>?_;have X:=un hr hlt (((e'.trans e4).trans e5).trans e6) (hI.mono _ _ _ _ hz4<|e5.trans e6) V6 (h6.1.trans (congrArg (rs4++ ·) hraw)) h6.2 R6;subst hj;cases fl with
  |next=>show wpC.pure<|.inl ⟨4.,X⟩
  |cont=>show wpC.pure<|.inl ⟨4.,X⟩
  |brk=>show X.elim
  |ret v=>show wpC.pure X
 ·show hI.halt hA.1 (hsrc i st' hi hinv) (uY hi hlt▸hz') R' λs3 R3=>wpC.pure<|.inr ⟨4.,Kp.of<|codeAny_block<|wpAny_execs_nil ⟨I',.next,st',e',R3,.next,hend st' (uY hi hlt▸hinv) hraw⟩⟩
end
end
def KK(P:Params):Frag:=[(27,Kl.o_22),(28,Kl.o_23),(30,Kl.o_25 P),(31,Kl.o_65),(43,Kl.o_42 P),(44,Kl.o_43),(55,Kl.o_58 P),(56,Kl.o_59),(67,Kl.o_74 P),(68,Kl.o_75),(196,Kl.o_214),(197,Kl.o_215),(203,Kl.o_221),(204,Kl.o_222),(210,Kl.o_228),(211,Kl.o_229),(217,Kl.o_235),(218,Kl.o_236),(224,Kl.o_242),(225,Kl.o_243),(231,Kl.o_249),(232,Kl.o_250),(256,Kl.o_274),(257,Kl.o_275),(263,Kl.o_281),(264,Kl.o_282),(270,Kl.o_288),(271,Kl.o_289),(277,Kl.o_298),(278,Kl.o_299),(284,Kl.o_305),(285,Kl.o_306),(291,Kl.o_312),(292,Kl.o_313),(298,Kl.o_319),(299,Kl.o_320),(305,Kl.o_326),(306,Kl.o_327),(312,Kl.o_333),(313,Kl.o_334),(319,Kl.o_340),(320,Kl.o_341),(326,Kl.o_347),(327,Kl.o_348),(354,Kl.o_390),(355,Kl.o_391),(361,Kl.o_397),(362,Kl.o_398),(368,Kl.o_404),(369,Kl.o_405),(371,Kl.o_407 P),(372,Kl.o_408),(382,Kl.o_418),(383,Kl.o_419),(389,Kl.o_425),(390,Kl.o_426),(396,Kl.o_432),(397,Kl.o_433),(403,Kl.o_442),(404,Kl.o_443),(410,Kl.o_449),(411,Kl.o_450),(417,Kl.o_456),(418,Kl.o_457),(424,Kl.o_463),(425,Kl.o_464),(431,Kl.o_470),(432,Kl.o_471),(438,Kl.o_477),(439,Kl.o_478),(445,Kl.o_484),(446,Kl.o_485),(452,Kl.o_491),(453,Kl.o_492),(459,Kl.o_498),(460,Kl.o_499),(466,Kl.o_505),(467,Kl.o_506),(473,Kl.o_512),(474,Kl.o_513),(480,Kl.o_519),(481,Kl.o_520),(487,Kl.o_526),(488,Kl.o_527),(494,Kl.o_536),(495,Kl.o_537),(501,Kl.o_543),(502,Kl.o_544),(515,Kl.o_557),(516,Kl.o_558),(522,Kl.o_564),(523,Kl.o_565),(529,Kl.o_571),(530,Kl.o_572),(532,Kl.o_574 P),(533,Kl.o_575),(550,Kl.o_595),(551,Kl.o_596),(557,Kl.o_602),(558,Kl.o_603),(564,Kl.o_609),(565,Kl.o_610),(571,Kl.o_616),(572,Kl.o_617),(574,Kl.o_619 P),(575,Kl.o_620),(592,Kl.o_640),(593,Kl.o_641),(599,Kl.o_647),(600,Kl.o_648),(602,Kl.o_650 P),(603,Kl.o_651),(620,Kl.o_671),(621,Kl.o_672),(623,Kl.o_674 P),(624,Kl.o_675),(641,Kl.o_695),(642,Kl.o_696),(644,Kl.o_698 P),(645,Kl.o_699),(662,Kl.o_719),(663,Kl.o_720),(665,Kl.o_722 P),(666,Kl.o_723),(676,Kl.o_733),(677,Kl.o_734),(683,Kl.o_740),(684,Kl.o_741),(690,Kl.o_747),(691,Kl.o_748),(697,Kl.o_754),(698,Kl.o_755),(704,Kl.o_761),(705,Kl.o_762),(711,Kl.o_771),(712,Kl.o_772),(718,Kl.o_778),(719,Kl.o_779),(725,Kl.o_785),(726,Kl.o_786),(732,Kl.o_792),(733,Kl.o_793),(739,Kl.o_799),(740,Kl.o_800),(746,Kl.o_806),(747,Kl.o_807),(753,Kl.o_813),(754,Kl.o_814),(760,Kl.o_820),(761,Kl.o_821),(769,Kl.o_836),(770,Kl.o_837),(776,Kl.o_843),(777,Kl.o_844),(783,Kl.o_850),(784,Kl.o_851),(799,Kl.o_866),(800,Kl.o_867),(806,Kl.o_873),(807,Kl.o_874),(813,Kl.o_880),(814,Kl.o_881),(820,Kl.o_887),(821,Kl.o_888),(827,Kl.o_894),(828,Kl.o_895),(834,Kl.o_901),(835,Kl.o_902),(841,Kl.o_911),(842,Kl.o_912),(848,Kl.o_918),(849,Kl.o_919),(855,Kl.o_925),(856,Kl.o_926),(862,Kl.o_932),(863,Kl.o_933),(869,Kl.o_939),(870,Kl.o_940),(876,Kl.o_946),(877,Kl.o_947),(883,Kl.o_953),(884,Kl.o_954),(890,Kl.o_960),(891,Kl.o_961),(897,Kl.o_967),(898,Kl.o_968),(904,Kl.o_974),(905,Kl.o_975),(909,Kl.o_979),(910,Kl.o_980),(914,Kl.o_984),(915,Kl.o_985)]
noncomputable def bc(o:Obj):FuncData:=match o.data with| .func fd=>fd|_=>default
noncomputable def aO(fd:FuncData):List Stmt:=match fd.body with| .stmts b=>b|_=>[]
noncomputable def Cur:Nat->(List Value->Prop)->Prop
 |0,P=>P []
 |n+1,P=> ∀a,Cur n λr=>P<|a::r
theorem Cur.all: ∀(n:Nat) (P:List Value->Prop),Cur n P-> ∀vs,vs.length=n->P vs
 |0,_,h,vs,e=>by cases vs with
  |nil=>show h
  |cons _ _=>cases e
 |n+1,_,h,vs,e=>by cases vs with
  |nil=>cases e
  |cons a r=>show Cur.all n _ (h a) r<|Nat.succ.inj e
theorem aJ{K:Frag}{f:Addr}{o:Obj}{names:List String}(h1:K.lookup f=some o)(h2:o.data=.func (bc o))(h4:(bc o).body=.stmts (aO<|bc o))
 (h3:(codeIn K (bc o).code (bc o).qualname,((bc o).scope.names.all λx=>x.2 !=.cell),names.all (λx=>(bc o).scope.names.lookup (Str.ofString x)==some .local),(bc o).scope.isCoroutine,(bc o).scope.isGenerator,(bc o).scope.kind)=(true,true,true,false,false,.function))
 (h5:Cur names.length λvs=>bindArgs (bc o) ⟨vs,[]⟩=pure ((names.map Str.ofString).zip vs))(h6:names.Nodup):FnAt K f (bc o) (aO<|bc o) names where
 obj:=by
  obtain⟨a,b,c,d⟩:=o;dsimp only at h2;show⟨a,b,d,by rw[h1];rw[<-h2]⟩
 code:=congrArg (·.1) h3
 isBody:=h4
 binds:=Cur.all _ _ h5
 nodup:=h6
 cells:=λx hx=>by have:=List.all_eq_true.mp (congrArg (·.2.1) h3) x hx;simpa using this
 locals:=congrArg (·.2.2.1) h3
 co:=congrArg (·.2.2.2.1) h3
 gen:=congrArg (·.2.2.2.2.1) h3
 kind:=congrArg (·.2.2.2.2.2) h3
theorem s7(P:Params):FnAt (KK P) 197 (bc Kl.o_215) (aO<|bc Kl.o_215) ["row"]:=
 aJ (o:=Kl.o_215) 2. 2. 2. 2. (λa=>by change _=_;kernel_rfl) 1.
theorem o5(P:Params):FnAt (KK P) 204 (bc Kl.o_222) (aO<|bc Kl.o_222) ["coded","table","row"]:=
 aJ (o:=Kl.o_222) 2. 2. 2. 2. (λa b c=>by change _=_;kernel_rfl) 1.
theorem nn(P:Params):FnAt (KK P) 211 (bc Kl.o_229) (aO<|bc Kl.o_229) ["coded","n"]:=
 aJ (o:=Kl.o_229) 2. 2. 2. 2. (λa b=>by change _=_;kernel_rfl) 1.
theorem o6(P:Params):FnAt (KK P) 218 (bc Kl.o_236) (aO<|bc Kl.o_236) ["table","row"]:=
 aJ (o:=Kl.o_236) 2. 2. 2. 2. (λa b=>by change _=_;kernel_rfl) 1.
theorem nq(P:Params):FnAt (KK P) 225 (bc Kl.o_243) (aO<|bc Kl.o_243) ["token"]:=
 aJ (o:=Kl.o_243) 2. 2. 2. 2. (λa=>by change _=_;kernel_rfl) 1.
theorem lJ(P:Params):FnAt (KK P) 232 (bc Kl.o_250) (aO<|bc Kl.o_250) ["table","name"]:=
 aJ (o:=Kl.o_250) 2. 2. 2. 2. (λa b=>by change _=_;kernel_rfl) 1.
theorem ox(P:Params):FnAt (KK P) 257 (bc Kl.o_275) (aO<|bc Kl.o_275) ["ts","table"]:=
 aJ (o:=Kl.o_275) 2. 2. 2. 2. (λa b=>by change _=_;kernel_rfl) 1.
theorem o7(P:Params):FnAt (KK P) 264 (bc Kl.o_282) (aO<|bc Kl.o_282) ["texts","offset"]:=
 aJ (o:=Kl.o_282) 2. 2. 2. 2. (λa b=>by change _=_;kernel_rfl) 1.
theorem o8(P:Params):FnAt (KK P) 271 (bc Kl.o_289) (aO<|bc Kl.o_289) ["blobs","offset"]:=
 aJ (o:=Kl.o_289) 2. 2. 2. 2. (λa b=>by change _=_;kernel_rfl) 1.
theorem o9(P:Params):FnAt (KK P) 278 (bc Kl.o_299) (aO<|bc Kl.o_299) ["ts","told"]:=
 aJ (o:=Kl.o_299) 2. 2. 2. 2. (λa b=>by change _=_;kernel_rfl) 1.
theorem iQ(P:Params):FnAt (KK P) 285 (bc Kl.o_306) (aO<|bc Kl.o_306) ["ts","table","place","other","number"]:=
 aJ (o:=Kl.o_306) 2. 2. 2. 2. (λa b c d e=>by change _=_;kernel_rfl) 1.
theorem pb(P:Params):FnAt (KK P) 292 (bc Kl.o_313) (aO<|bc Kl.o_313) ["ts","texts","told"]:=
 aJ (o:=Kl.o_313) 2. 2. 2. 2. (λa b c=>by change _=_;kernel_rfl) 1.
theorem pc(P:Params):FnAt (KK P) 299 (bc Kl.o_320) (aO<|bc Kl.o_320) ["ts","texts","blobs","told"]:=
 aJ (o:=Kl.o_320) 2. 2. 2. 2. (λa b c d=>by change _=_;kernel_rfl) 1.
theorem dk(P:Params):FnAt (KK P) 306 (bc Kl.o_327) (aO<|bc Kl.o_327) ["ts","texts","blobs","told","lists","name_place","sig_place"]:=
 aJ (o:=Kl.o_327) 2. 2. 2. 2. (λa b c d e f g=>by change _=_;kernel_rfl) 1.
theorem lK(P:Params):FnAt (KK P) 313 (bc Kl.o_334) (aO<|bc Kl.o_334) ["row"]:=
 aJ (o:=Kl.o_334) 2. 2. 2. 2. (λa=>by change _=_;kernel_rfl) 1.
theorem pd(P:Params):FnAt (KK P) 320 (bc Kl.o_341) (aO<|bc Kl.o_341) ["ts","told"]:=
 aJ (o:=Kl.o_341) 2. 2. 2. 2. (λa b=>by change _=_;kernel_rfl) 1.
theorem jB(P:Params):FnAt (KK P) 327 (bc Kl.o_348) (aO<|bc Kl.o_348) ["ts","told"]:=
 aJ (o:=Kl.o_348) 2. 2. 2. 2. (λa b=>by change _=_;kernel_rfl) 1.
theorem jC(P:Params):FnAt (KK P) 355 (bc Kl.o_391) (aO<|bc Kl.o_391) ["self"]:=
 aJ (o:=Kl.o_391) 2. 2. 2. 2. (λa=>by change _=_;kernel_rfl) 1.
theorem kQ(P:Params):FnAt (KK P) 362 (bc Kl.o_398) (aO<|bc Kl.o_398) ["self","k"]:=
 aJ (o:=Kl.o_398) 2. 2. 2. 2. (λa b=>by change _=_;kernel_rfl) 1.
theorem dn(P:Params):FnAt (KK P) 369 (bc Kl.o_405) (aO<|bc Kl.o_405) ["self","row"]:=
 aJ (o:=Kl.o_405) 2. 2. 2. 2. (λa b=>by change _=_;kernel_rfl) 1.
theorem eY(P:Params):FnAt (KK P) 383 (bc Kl.o_419) (aO<|bc Kl.o_419) ["row"]:=
 aJ (o:=Kl.o_419) 2. 2. 2. 2. (λa=>by change _=_;kernel_rfl) 1.
theorem gt(P:Params):FnAt (KK P) 390 (bc Kl.o_426) (aO<|bc Kl.o_426) ["sort"]:=
 aJ (o:=Kl.o_426) 2. 2. 2. 2. (λa=>by change _=_;kernel_rfl) 1.
theorem iR(P:Params):FnAt (KK P) 397 (bc Kl.o_433) (aO<|bc Kl.o_433) ["sort"]:=
 aJ (o:=Kl.o_433) 2. 2. 2. 2. (λa=>by change _=_;kernel_rfl) 1.
theorem dY(P:Params):FnAt (KK P) 404 (bc Kl.o_443) (aO<|bc Kl.o_443) ["kt","row"]:=
 aJ (o:=Kl.o_443) 2. 2. 2. 2. (λa b=>by change _=_;kernel_rfl) 1.
theorem nu(P:Params):FnAt (KK P) 411 (bc Kl.o_450) (aO<|bc Kl.o_450) ["kt","row"]:=
 aJ (o:=Kl.o_450) 2. 2. 2. 2. (λa b=>by change _=_;kernel_rfl) 1.
theorem pe(P:Params):FnAt (KK P) 418 (bc Kl.o_457) (aO<|bc Kl.o_457) ["kt","args"]:=
 aJ (o:=Kl.o_457) 2. 2. 2. 2. (λa b=>by change _=_;kernel_rfl) 1.
theorem rp(P:Params):FnAt (KK P) 425 (bc Kl.o_464) (aO<|bc Kl.o_464) ["kt","k"]:=
 aJ (o:=Kl.o_464) 2. 2. 2. 2. (λa b=>by change _=_;kernel_rfl) 1.
theorem iS(P:Params):FnAt (KK P) 432 (bc Kl.o_471) (aO<|bc Kl.o_471) ["kt","tid","args"]:=
 aJ (o:=Kl.o_471) 2. 2. 2. 2. (λa b c=>by change _=_;kernel_rfl) 1.
theorem pf(P:Params):FnAt (KK P) 446 (bc Kl.o_485) (aO<|bc Kl.o_485) ["kt","elem"]:=
 aJ (o:=Kl.o_485) 2. 2. 2. 2. (λa b=>by change _=_;kernel_rfl) 1.
theorem s8(P:Params):FnAt (KK P) 453 (bc Kl.o_492) (aO<|bc Kl.o_492) ["kt","i"]:=
 aJ (o:=Kl.o_492) 2. 2. 2. 2. (λa b=>by change _=_;kernel_rfl) 1.
theorem rq(P:Params):FnAt (KK P) 460 (bc Kl.o_499) (aO<|bc Kl.o_499) ["kt","k"]:=
 aJ (o:=Kl.o_499) 2. 2. 2. 2. (λa b=>by change _=_;kernel_rfl) 1.
theorem rr(P:Params):FnAt (KK P) 467 (bc Kl.o_506) (aO<|bc Kl.o_506) ["kt","k"]:=
 aJ (o:=Kl.o_506) 2. 2. 2. 2. (λa b=>by change _=_;kernel_rfl) 1.
theorem vo(P:Params):FnAt (KK P) 474 (bc Kl.o_513) (aO<|bc Kl.o_513) ["kt","k"]:=
 aJ (o:=Kl.o_513) 2. 2. 2. 2. (λa b=>by change _=_;kernel_rfl) 1.
theorem ru(P:Params):FnAt (KK P) 502 (bc Kl.o_544) (aO<|bc Kl.o_544) ["k"]:=
 aJ (o:=Kl.o_544) 2. 2. 2. 2. (λa=>by change _=_;kernel_rfl) 1.
theorem jD(P:Params):FnAt (KK P) 516 (bc Kl.o_558) (aO<|bc Kl.o_558) ["self","zero"]:=
 aJ (o:=Kl.o_558) 2. 2. 2. 2. (λa b=>by change _=_;kernel_rfl) 1.
theorem kR(P:Params):FnAt (KK P) 523 (bc Kl.o_565) (aO<|bc Kl.o_565) ["self","value"]:=
 aJ (o:=Kl.o_565) 2. 2. 2. 2. (λa b=>by change _=_;kernel_rfl) 1.
theorem kS(P:Params):FnAt (KK P) 530 (bc Kl.o_572) (aO<|bc Kl.o_572) ["self","place"]:=
 aJ (o:=Kl.o_572) 2. 2. 2. 2. (λa b=>by change _=_;kernel_rfl) 1.
theorem io(P:Params):FnAt (KK P) 551 (bc Kl.o_596) (aO<|bc Kl.o_596) ["self"]:=
 aJ (o:=Kl.o_596) 2. 2. 2. 2. (λa=>by change _=_;kernel_rfl) 1.
theorem eL(P:Params):FnAt (KK P) 558 (bc Kl.o_603) (aO<|bc Kl.o_603) ["self","table","row"]:=
 aJ (o:=Kl.o_603) 2. 2. 2. 2. (λa b c=>by change _=_;kernel_rfl) 1.
theorem iT(P:Params):FnAt (KK P) 565 (bc Kl.o_610) (aO<|bc Kl.o_610) ["self","table","n"]:=
 aJ (o:=Kl.o_610) 2. 2. 2. 2. (λa b c=>by change _=_;kernel_rfl) 1.
theorem ef(P:Params):FnAt (KK P) 572 (bc Kl.o_617) (aO<|bc Kl.o_617) ["self","table"]:=
 aJ (o:=Kl.o_617) 2. 2. 2. 2. (λa b=>by change _=_;kernel_rfl) 1.
theorem pg(P:Params):FnAt (KK P) 593 (bc Kl.o_641) (aO<|bc Kl.o_641) ["self","store","asm"]:=
 aJ (o:=Kl.o_641) 2. 2. 2. 2. (λa b c=>by change _=_;kernel_rfl) 1.
theorem rv(P:Params):FnAt (KK P) 600 (bc Kl.o_648) (aO<|bc Kl.o_648) ["self","sort","tree"]:=
 aJ (o:=Kl.o_648) 2. 2. 2. 2. (λa b c=>by change _=_;kernel_rfl) 1.
theorem lL(P:Params):FnAt (KK P) 621 (bc Kl.o_672) (aO<|bc Kl.o_672) ["self","tid","name","sort","flags","base","params","asm"]:=
 aJ (o:=Kl.o_672) 2. 2. 2. 2. (λa b c d e f g i=>by change _=_;kernel_rfl) 1.
theorem kT(P:Params):FnAt (KK P) 642 (bc Kl.o_696) (aO<|bc Kl.o_696) ["self","fid","owner","name","kind","access","flags"]:=
 aJ (o:=Kl.o_696) 2. 2. 2. 2. (λa b c d e f g=>by change _=_;kernel_rfl) 1.
theorem ph(P:Params):FnAt (KK P) 663 (bc Kl.o_720) (aO<|bc Kl.o_720) ["self"]:=
 aJ (o:=Kl.o_720) 2. 2. 2. 2. (λa=>by change _=_;kernel_rfl) 1.
theorem rx(P:Params):FnAt (KK P) 677 (bc Kl.o_734) (aO<|bc Kl.o_734) ["store","row"]:=
 aJ (o:=Kl.o_734) 2. 2. 2. 2. (λa b=>by change _=_;kernel_rfl) 1.
theorem fC(P:Params):FnAt (KK P) 684 (bc Kl.o_741) (aO<|bc Kl.o_741) ["store","sort"]:=
 aJ (o:=Kl.o_741) 2. 2. 2. 2. (λa b=>by change _=_;kernel_rfl) 1.
theorem fE(P:Params):FnAt (KK P) 691 (bc Kl.o_748) (aO<|bc Kl.o_748) ["sort","flags"]:=
 aJ (o:=Kl.o_748) 2. 2. 2. 2. (λa b=>by change _=_;kernel_rfl) 1.
theorem fF(P:Params):FnAt (KK P) 698 (bc Kl.o_755) (aO<|bc Kl.o_755) ["store","asm","name","sort","flags","base","params"]:=
 aJ (o:=Kl.o_755) 2. 2. 2. 2. (λa b c d e f g=>by change _=_;kernel_rfl) 1.
theorem ry(P:Params):FnAt (KK P) 705 (bc Kl.o_762) (aO<|bc Kl.o_762) ["store","tid","name","kind","access","flags"]:=
 aJ (o:=Kl.o_762) 2. 2. 2. 2. (λa b c d e f=>by change _=_;kernel_rfl) 1.
theorem vp(P:Params):FnAt (KK P) 712 (bc Kl.o_772) (aO<|bc Kl.o_772) ["store","k"]:=
 aJ (o:=Kl.o_772) 2. 2. 2. 2. (λa b=>by change _=_;kernel_rfl) 1.
theorem eM(P:Params):FnAt (KK P) 719 (bc Kl.o_779) (aO<|bc Kl.o_779) ["store","row"]:=
 aJ (o:=Kl.o_779) 2. 2. 2. 2. (λa b=>by change _=_;kernel_rfl) 1.
theorem s9(P:Params):FnAt (KK P) 726 (bc Kl.o_786) (aO<|bc Kl.o_786) ["store","asm"]:=
 aJ (o:=Kl.o_786) 2. 2. 2. 2. (λa b=>by change _=_;kernel_rfl) 1.
theorem lM(P:Params):FnAt (KK P) 733 (bc Kl.o_793) (aO<|bc Kl.o_793) ["n"]:=
 aJ (o:=Kl.o_793) 2. 2. 2. 2. (λa=>by change _=_;kernel_rfl) 1.
theorem nv(P:Params):FnAt (KK P) 740 (bc Kl.o_800) (aO<|bc Kl.o_800) ["text"]:=
 aJ (o:=Kl.o_800) 2. 2. 2. 2. (λa=>by change _=_;kernel_rfl) 1.
theorem lN(P:Params):FnAt (KK P) 747 (bc Kl.o_807) (aO<|bc Kl.o_807) ["units"]:=
 aJ (o:=Kl.o_807) 2. 2. 2. 2. (λa=>by change _=_;kernel_rfl) 1.
theorem ta(P:Params):FnAt (KK P) 754 (bc Kl.o_814) (aO<|bc Kl.o_814) ["text"]:=
 aJ (o:=Kl.o_814) 2. 2. 2. 2. (λa=>by change _=_;kernel_rfl) 1.
theorem kU(P:Params):FnAt (KK P) 761 (bc Kl.o_821) (aO<|bc Kl.o_821) ["out","n","width"]:=
 aJ (o:=Kl.o_821) 2. 2. 2. 2. (λa b c=>by change _=_;kernel_rfl) 1.
theorem ew(P:Params):FnAt (KK P) 770 (bc Kl.o_837) (aO<|bc Kl.o_837) ["p","k","value"]:=
 aJ (o:=Kl.o_837) 2. 2. 2. 2. (λa b c=>by change _=_;kernel_rfl) 1.
theorem nw(P:Params):FnAt (KK P) 777 (bc Kl.o_844) (aO<|bc Kl.o_844) ["p","k","value"]:=
 aJ (o:=Kl.o_844) 2. 2. 2. 2. (λa b c=>by change _=_;kernel_rfl) 1.
theorem pi(P:Params):FnAt (KK P) 784 (bc Kl.o_851) (aO<|bc Kl.o_851) ["store","asm","name","count"]:=
 aJ (o:=Kl.o_851) 2. 2. 2. 2. (λa b c d=>by change _=_;kernel_rfl) 1.
theorem ny(P:Params):FnAt (KK P) 800 (bc Kl.o_867) (aO<|bc Kl.o_867) ["flags","pairs"]:=
 aJ (o:=Kl.o_867) 2. 2. 2. 2. (λa b=>by change _=_;kernel_rfl) 1.
theorem nA(P:Params):FnAt (KK P) 807 (bc Kl.o_874) (aO<|bc Kl.o_874) ["p"]:=
 aJ (o:=Kl.o_874) 2. 2. 2. 2. (λa=>by change _=_;kernel_rfl) 1.
theorem nB(P:Params):FnAt (KK P) 814 (bc Kl.o_881) (aO<|bc Kl.o_881) ["t"]:=
 aJ (o:=Kl.o_881) 2. 2. 2. 2. (λa=>by change _=_;kernel_rfl) 1.
theorem tc(P:Params):FnAt (KK P) 821 (bc Kl.o_888) (aO<|bc Kl.o_888) ["t"]:=
 aJ (o:=Kl.o_888) 2. 2. 2. 2. (λa=>by change _=_;kernel_rfl) 1.
theorem hH(P:Params):FnAt (KK P) 828 (bc Kl.o_895) (aO<|bc Kl.o_895) ["p","asm"]:=
 aJ (o:=Kl.o_895) 2. 2. 2. 2. (λa b=>by change _=_;kernel_rfl) 1.
theorem fG(P:Params):FnAt (KK P) 835 (bc Kl.o_902) (aO<|bc Kl.o_902) ["p","tid"]:=
 aJ (o:=Kl.o_902) 2. 2. 2. 2. (λa b=>by change _=_;kernel_rfl) 1.
theorem ez(P:Params):FnAt (KK P) 842 (bc Kl.o_912) (aO<|bc Kl.o_912) ["p","k"]:=
 aJ (o:=Kl.o_912) 2. 2. 2. 2. (λa b=>by change _=_;kernel_rfl) 1.
theorem lO(P:Params):FnAt (KK P) 856 (bc Kl.o_926) (aO<|bc Kl.o_926) ["p","k"]:=
 aJ (o:=Kl.o_926) 2. 2. 2. 2. (λa b=>by change _=_;kernel_rfl) 1.
theorem iU(P:Params):FnAt (KK P) 863 (bc Kl.o_933) (aO<|bc Kl.o_933) ["p","k"]:=
 aJ (o:=Kl.o_933) 2. 2. 2. 2. (λa b=>by change _=_;kernel_rfl) 1.
theorem iV(P:Params):FnAt (KK P) 870 (bc Kl.o_940) (aO<|bc Kl.o_940) ["p","coded","k"]:=
 aJ (o:=Kl.o_940) 2. 2. 2. 2. (λa b c=>by change _=_;kernel_rfl) 1.
theorem pj(P:Params):FnAt (KK P) 877 (bc Kl.o_947) (aO<|bc Kl.o_947) ["p","fid"]:=
 aJ (o:=Kl.o_947) 2. 2. 2. 2. (λa b=>by change _=_;kernel_rfl) 1.
theorem fH(P:Params):FnAt (KK P) 884 (bc Kl.o_954) (aO<|bc Kl.o_954) ["t"]:=
 aJ (o:=Kl.o_954) 2. 2. 2. 2. (λa=>by change _=_;kernel_rfl) 1.
theorem pk(P:Params):FnAt (KK P) 891 (bc Kl.o_961) (aO<|bc Kl.o_961) ["p"]:=
 aJ (o:=Kl.o_961) 2. 2. 2. 2. (λa=>by change _=_;kernel_rfl) 1.
theorem iW(P:Params):FnAt (KK P) 898 (bc Kl.o_968) (aO<|bc Kl.o_968) ["p","f"]:=
 aJ (o:=Kl.o_968) 2. 2. 2. 2. (λa b=>by change _=_;kernel_rfl) 1.
theorem pn(P:Params):FnAt (KK P) 905 (bc Kl.o_975) (aO<|bc Kl.o_975) ["script","count"]:=
 aJ (o:=Kl.o_975) 2. 2. 2. 2. (λa b=>by change _=_;kernel_rfl) 1.
noncomputable def DJ(o:Obj):Array DictEntry:=match o.data with| .dict es _=>es|_=>#[]
noncomputable def lP(e:DictEntry):Nat:=match e.key with
 | .str n _=>n.cps.toList.foldl (λa c=>a*1114112+c+1) 0
 |_=>0
theorem wV{es:Array DictEntry}{i:Nat}{x:Str}{t:Tok}{v:Value}(hi':(es.toList[i]?.map λe=>(e.key,e.val))=some (.str x t,v))(hn:(es.toList.map lP).Nodup):nsFind es x=some v:=by
 obtain⟨⟨h,ky,v'⟩,hi,e⟩:=Option.map_eq_some_iff.mp hi';simp only[Prod.mk.injEq]at e;obtain⟨rfl,rfl⟩:=e;unfold nsFind findBy;rw[<-Array.find?_toList];have key: ∀(v':Value) (l:List DictEntry) (i:Nat),l[i]? =some ⟨h,.str x t,v'⟩->(l.map lP).Nodup->(l.find? λe=>e.key.isStr x).map (·.val)=some v':=by
  intro v';intro l;induction l with
  |nil=>intro i hi;simp at hi
  |cons e r ih=>
   intro i hi hn;simp only[List.map_cons,List.nodup_cons]at hn;rw[List.find?_cons];cases i with
   |zero=>
    simp at hi;subst hi;simp[Value.isStr]
   |succ i=>
    simp at hi;have hm: ¬e.key.isStr x=true:=by
     intro q;apply hn.1;show List.mem_map.mpr ⟨_,List.mem_of_getElem? hi,?_⟩;unfold lP;cases hk:e.key<;>rw[hk]at q<;>simp[Value.isStr]at q;subst q;rfl
    rw[Bool.not_eq_true]at hm;rw[hm];show ih i hi hn.2
 show key _ _ i hi hn
def gEs(P:Params):Array DictEntry:=DJ<|Kl.o_904 P
def zP(n:Str):Nat:=n.cps.toList.foldl (λa c=>a*1114112+c+1) 0
theorem Av{es:Array DictEntry}{x:Str}(h:(es.toList.map lP).contains (zP x)=false):nsFind es x=none:=by
 have z:es.toList.find? (λe=>e.key.isStr x)=none:=List.find?_eq_none.mpr λe he q=>by
  show Bool.false_ne_true<|h.symm.trans<|List.contains_iff_mem.mpr<|List.mem_map.mpr ⟨e,he,?_⟩;unfold lP;cases hk:e.key<;>rw[hk]at q<;>simp[Value.isStr]at q;subst q;rfl
 unfold nsFind findBy;rw[<-Array.find?_toList];show congrArg (Option.map _) z
def absent:List String:=["bytearray","bytes","chr","enumerate","int","isinstance","len","ord","range","sorted","str","tuple"]
theorem yG(P:Params):(absent.all λx=> !((gEs P).toList.map lP).contains (zP<|Str.ofString x))=true:=by kernel_rfl
theorem Ck(P:Params){x:String}(h:x∈absent):nsFind (gEs P) (Str.ofString x)=none:=Av<|Bool.not_eq_true' _▸List.all_eq_true.mp (yG P) x h
theorem wW(P:Params):(decide ((gEs P).toList.map lP).Nodup)=true:=by kernel_rfl
structure Lw(D:Wd):Prop where
 K:D.K=KK D.w.params
 std: ∀a o,(Kl.tree_985 D.w.params).get a=some o->o.isFreed=false->(_:Nat.blt a 916=true:=by rfl)->D.hb.get? a=some o
theorem uu{h:Heap}{a:Addr}{m:Str->Option Value}{o:Obj}(hn:h.Ns a m)(ho:h.get? a=some o)(y:Str):m y=nsFind (DJ o) y:=by
 obtain⟨o',es,ep,h1,h2,O,h3⟩:=hn;rw[ho]at h1;cases h1;rw[<-h3 y,DJ,h2]
section
variable{D:Wd}
theorem HE(W:Lw D):D.hb.get? mainGlobals=some (Kl.o_904 D.w.params):=W.std 3 (Kl.o_904 D.w.params) 2. 4.
theorem bG(W:Lw D){x:String}{m:MV}{v:Value}(i:Nat)(t:Tok)(h:((gEs D.w.params).toList[i]?.map λe=>(e.key,e.val))=some (.str (Str.ofString x) t,v))(V:VR (Hp D.hb) m v):Gl D x m:=
 ⟨v,V,.inl<|(uu D.hg (HE W) _).trans<|wV h<|of_decide_eq_true<|wW _⟩
theorem v8(W:Lw D){x:String}{m:MV}{v:Value}(h1:x∈absent)(h:nsFind (DJ<|PySem.W.boot_o_0 D.w.params) (Str.ofString x)=some v)(V:VR (Hp D.hb) m v):Gl D x m:=
 ⟨v,V,.inr ⟨(uu D.hg (HE W) _).trans<|Ck _ h1,(uu D.hbn (W.std 0 (PySem.W.boot_o_0 D.w.params) 2. 4.) _).trans h⟩⟩
theorem f5(W:Lw D):Gl D "CD_HASCONSTANT"<|.int 1:=bG W (v:=Value.int 1 404) 80 405 2.<|.int _ _
theorem eg(W:Lw D):Gl D "CD_RESOLUTIONSCOPE"<|.int 5:=bG W (v:=Value.int 5 412) 84 413 2.<|.int _ _
theorem fh(W:Lw D):Gl D "CD_TYPEDEFORREF"<|.int 0:=bG W (v:=Value.int 0 402) 79 403 2.<|.int _ _
theorem wX(W:Lw D):Gl D "CODED"<|.ref<|.inl 71:=bG W (v:=Value.ref 71) 86 434 2.<|.ref 4.
theorem wY(W:Lw D):Gl D "COLUMNS"<|.ref<|.inl 86:=bG W (v:=Value.ref 86) 87 563 2.<|.ref 4.
theorem dJ(W:Lw D):Gl D "CONST_WIDTH"<|.ref<|.inl 763:=bG W (v:=Value.ref 763) 199 1643 2.<|.ref 4.
theorem eZ(W:Lw D):Gl D "DEEPEST_KIND"<|.int 24:=bG W (v:=Value.int 24 834) 134 835 2.<|.int _ _
theorem vq(W:Lw D):Gl D "E_STRING"<|.int 14:=bG W (v:=Value.int 14 257) 44 258 2.<|.int _ _
theorem te(W:Lw D):Gl D "E_SZARRAY"<|.int 29:=bG W (v:=Value.int 29 273) 52 274 2.<|.int _ _
theorem Aw(W:Lw D):Gl D "E_VAR"<|.int 19:=bG W (v:=Value.int 19 265) 48 266 2.<|.int _ _
theorem lQ(W:Lw D):Gl D "FA_HASDEFAULT"<|.int 32768:=bG W (v:=Value.int 32768 301) 66 302 2.<|.int _ _
theorem j6(W:Lw D):Gl D "FA_LITERAL"<|.int 64:=bG W (v:=Value.int 64 299) 65 300 2.<|.int _ _
theorem lR(W:Lw D):Gl D "FA_STATIC"<|.int 16:=bG W (v:=Value.int 16 295) 63 296 2.<|.int _ _
theorem eN(W:Lw D):Gl D "FF_LITERAL"<|.int 4:=bG W (v:=Value.int 4 1336) 177 1337 2.<|.int _ _
theorem lS(W:Lw D):Gl D "FF_STATIC"<|.int 1:=bG W (v:=Value.int 1 1332) 175 1333 2.<|.int _ _
theorem j7(W:Lw D):Gl D "FIELD_BITS"<|.tup [.tup [.int 1,.int 16],.tup [.int 2,.int 32],.tup [.int 4,.int 32832]]:=bG W (v:=Value.ref 788) 203 1681 2.<|.tup (n:=0) (W.std 788 Kl.o_855 2. 4.)<|.cons (.tup (n:=0) (W.std 785 Kl.o_852 2. 4.)<|.cons (.int _ _)<|.cons (.int _ _) .nil)<|.cons (.tup (n:=0) (W.std 786 Kl.o_853 2. 4.)<|.cons (.int _ _)<|.cons (.int _ _) .nil)<|.cons (.tup (n:=0) (W.std 787 Kl.o_854 2. 4.)<|.cons (.int _ _)<|.cons (.int _ _) .nil) .nil
theorem vr(W:Lw D):Gl D "FieldDef"<|.ref<|.inl 645:=bG W (v:=Value.ref 645) 182 1437 2.<|.ref 4.
theorem eA(W:Lw D):Gl D "HEAVIEST_KIND"<|.int 4096:=bG W (v:=Value.int 4096 836) 135 837 2.<|.int _ _
theorem j8(W:Lw D):Gl D "INT_RANGES"<|.ref<|.inl 330:=bG W (v:=Value.ref 330) 139 936 2.<|.ref 4.
theorem tf(W:Lw D):Gl D "KindTable"<|.ref<|.inl 372:=bG W (v:=Value.ref 372) 140 993 2.<|.ref 4.
theorem Ax(W:Lw D):Gl D "LISTS"<|.tup [.tup [.int 2,.int 4,.int 4],.tup [.int 2,.int 5,.int 6],.tup [.int 6,.int 5,.int 8],.tup [.int 18,.int 1,.int 20],.tup [.int 21,.int 1,.int 23]]:=bG W (v:=Value.ref 238) 94 625 2.<|.tup (n:=0) (W.std 238 Kl.o_256 2. 4.)<|.cons (.tup (n:=0) (W.std 233 Kl.o_251 2. 4.)<|.cons (.int _ _)<|.cons (.int _ _)<|.cons (.int _ _) .nil)<|.cons (.tup (n:=0) (W.std 234 Kl.o_252 2. 4.)<|.cons (.int _ _)<|.cons (.int _ _)<|.cons (.int _ _) .nil)<|.cons (.tup (n:=0) (W.std 235 Kl.o_253 2. 4.)<|.cons (.int _ _)<|.cons (.int _ _)<|.cons (.int _ _) .nil)<|.cons (.tup (n:=0) (W.std 236 Kl.o_254 2. 4.)<|.cons (.int _ _)<|.cons (.int _ _)<|.cons (.int _ _) .nil)<|.cons (.tup (n:=0) (W.std 237 Kl.o_255 2. 4.)<|.cons (.int _ _)<|.cons (.int _ _)<|.cons (.int _ _) .nil) .nil
theorem Ay(W:Lw D):Gl D "NAMED"<|.tup [.tup [.int 0,.str<|-"Name"],.tup [.int 1,.str<|-"TypeName"],.tup [.int 2,.str<|-"TypeName"],.tup [.int 4,.str<|-"Name"],.tup [.int 6,.str<|-"Name"],.tup [.int 10,.str<|-"Name"],.tup [.int 20,.str<|-"Name"],.tup [.int 23,.str<|-"Name"],.tup [.int 32,.str<|-"Name"],.tup [.int 35,.str<|-"Name"],.tup [.int 42,.str<|-"Name"]]:=bG W (v:=Value.ref 250) 95 637 2.<|.tup (n:=0) (W.std 250 Kl.o_268 2. 4.)<|.cons (.tup (n:=0) (W.std 239 Kl.o_257 2. 4.)<|.cons (.int _ _)<|.cons (.str _ _) .nil)<|.cons (.tup (n:=0) (W.std 240 Kl.o_258 2. 4.)<|.cons (.int _ _)<|.cons (.str _ _) .nil)<|.cons (.tup (n:=0) (W.std 241 Kl.o_259 2. 4.)<|.cons (.int _ _)<|.cons (.str _ _) .nil)<|.cons (.tup (n:=0) (W.std 242 Kl.o_260 2. 4.)<|.cons (.int _ _)<|.cons (.str _ _) .nil)<|.cons (.tup (n:=0) (W.std 243 Kl.o_261 2. 4.)<|.cons (.int _ _)<|.cons (.str _ _) .nil)<|.cons (.tup (n:=0) (W.std 244 Kl.o_262 2. 4.)<|.cons (.int _ _)<|.cons (.str _ _) .nil)<|.cons (.tup (n:=0) (W.std 245 Kl.o_263 2. 4.)<|.cons (.int _ _)<|.cons (.str _ _) .nil)<|.cons (.tup (n:=0) (W.std 246 Kl.o_264 2. 4.)<|.cons (.int _ _)<|.cons (.str _ _) .nil)<|.cons (.tup (n:=0) (W.std 247 Kl.o_265 2. 4.)<|.cons (.int _ _)<|.cons (.str _ _) .nil)<|.cons (.tup (n:=0) (W.std 248 Kl.o_266 2. 4.)<|.cons (.int _ _)<|.cons (.str _ _) .nil)<|.cons (.tup (n:=0) (W.std 249 Kl.o_267 2. 4.)<|.cons (.int _ _)<|.cons (.str _ _) .nil) .nil
theorem zQ(W:Lw D):Gl D "NINT"<|.int 11:=bG W (v:=Value.int 11 802) 118 803 2.<|.int _ _
theorem Az(W:Lw D):Gl D "NULLK"<|.int 14:=bG W (v:=Value.int 14 808) 121 809 2.<|.int _ _
theorem bS(W:Lw D):Gl D "PRIM_ELEMENT"<|.ref<|.inl 762:=bG W (v:=Value.ref 762) 198 1620 2.<|.ref 4.
theorem vt(W:Lw D):Gl D "PRIM_END"<|.int 16:=bG W (v:=Value.int 16 810) 122 811 2.<|.int _ _
theorem vw(W:Lw D):Gl D "PRIM_TID"<|.ref<|.inl 328:=bG W (v:=Value.ref 328) 136 866 2.<|.ref 4.
theorem AA(W:Lw D):Gl D "Pages"<|.ref<|.inl 603:=bG W (v:=Value.ref 603) 163 1307 2.<|.ref 4.
theorem fJ(W:Lw D):Gl D "PlainHeap"<|.ref<|.inl 533:=bG W (v:=Value.ref 533) 161 1195 2.<|.ref 4.
theorem po(W:Lw D):Gl D "PlainTables"<|.ref<|.inl 575:=bG W (v:=Value.ref 575) 162 1249 2.<|.ref 4.
theorem d5(W:Lw D):Gl D "R_ARRAY"<|.int 4:=bG W (v:=Value.int 4 818) 126 819 2.<|.int _ _
theorem rz(W:Lw D):Gl D "R_BOXED"<|.int 8:=bG W (v:=Value.int 8 826) 130 827 2.<|.int _ _
theorem rA(W:Lw D):Gl D "R_BYREF"<|.int 5:=bG W (v:=Value.int 5 820) 127 821 2.<|.int _ _
theorem bF(W:Lw D):Gl D "R_CLASS"<|.int 2:=bG W (v:=Value.int 2 814) 124 815 2.<|.int _ _
theorem tg(W:Lw D):Gl D "R_FTN"<|.int 10:=bG W (v:=Value.int 10 830) 132 831 2.<|.int _ _
theorem pp(W:Lw D):Gl D "R_MVAR"<|.int 7:=bG W (v:=Value.int 7 824) 129 825 2.<|.int _ _
theorem fK(W:Lw D):Gl D "R_PRIM"<|.int 1:=bG W (v:=Value.int 1 812) 123 813 2.<|.int _ _
theorem pq(W:Lw D):Gl D "R_RAW"<|.int 11:=bG W (v:=Value.int 11 832) 133 833 2.<|.int _ _
theorem wZ(W:Lw D):Gl D "R_ROREF"<|.int 9:=bG W (v:=Value.int 9 828) 131 829 2.<|.int _ _
theorem cv(W:Lw D):Gl D "R_VALUE"<|.int 3:=bG W (v:=Value.int 3 816) 125 817 2.<|.int _ _
theorem gu(W:Lw D):Gl D "R_VAR"<|.int 6:=bG W (v:=Value.int 6 822) 128 823 2.<|.int _ _
theorem vx(W:Lw D):Gl D "SG_FIELD"<|.int 2:=bG W (v:=Value.int 2 1148) 160 1149 2.<|.int _ _
theorem th(W:Lw D):Gl D "SIG_FIELD"<|.int 6:=bG W (v:=Value.int 6 277) 54 278 2.<|.int _ _
theorem yH(W:Lw D):Gl D "STRING"<|.int 13:=bG W (v:=Value.int 13 806) 120 807 2.<|.int _ _
theorem rB(W:Lw D):Gl D "S_CLASS"<|.int 1:=bG W (v:=Value.int 1 1310) 164 1311 2.<|.int _ _
theorem rC(W:Lw D):Gl D "S_DELEGATE"<|.int 4:=bG W (v:=Value.int 4 1316) 167 1317 2.<|.int _ _
theorem iX(W:Lw D):Gl D "S_ENUM"<|.int 5:=bG W (v:=Value.int 5 1318) 168 1319 2.<|.int _ _
theorem fj(W:Lw D):Gl D "S_IFACE"<|.int 3:=bG W (v:=Value.int 3 1314) 166 1315 2.<|.int _ _
theorem gR(W:Lw D):Gl D "S_STRUCT"<|.int 2:=bG W (v:=Value.int 2 1312) 165 1313 2.<|.int _ _
theorem AB(W:Lw D):Gl D "Store"<|.ref<|.inl 666:=bG W (v:=Value.ref 666) 183 1471 2.<|.ref 4.
theorem hO(W:Lw D):Gl D "TA_INTERFACE"<|.int 32:=bG W (v:=Value.int 32 285) 58 286 2.<|.int _ _
theorem ip(W:Lw D):Gl D "TA_PUBLIC"<|.int 1:=bG W (v:=Value.int 1 279) 55 280 2.<|.int _ _
theorem d8(W:Lw D):Gl D "TB_ASSEMBLYREF"<|.int 35:=bG W (v:=Value.int 35 223) 27 224 2.<|.int _ _
theorem el(W:Lw D):Gl D "TB_CONSTANT"<|.int 11:=bG W (v:=Value.int 11 203) 17 204 2.<|.int _ _
theorem vy(W:Lw D):Gl D "TB_EVENT"<|.int 20:=bG W (v:=Value.int 20 209) 20 210 2.<|.int _ _
theorem pv(W:Lw D):Gl D "TB_EVENTMAP"<|.int 18:=bG W (v:=Value.int 18 207) 19 208 2.<|.int _ _
theorem cm(W:Lw D):Gl D "TB_FIELD"<|.int 4:=bG W (v:=Value.int 4 193) 12 194 2.<|.int _ _
theorem nC(W:Lw D):Gl D "TB_METHODDEF"<|.int 6:=bG W (v:=Value.int 6 195) 13 196 2.<|.int _ _
theorem kW(W:Lw D):Gl D "TB_NESTEDCLASS"<|.int 41:=bG W (v:=Value.int 41 225) 28 226 2.<|.int _ _
theorem pw(W:Lw D):Gl D "TB_PROPERTY"<|.int 23:=bG W (v:=Value.int 23 213) 22 214 2.<|.int _ _
theorem kX(W:Lw D):Gl D "TB_PROPERTYMAP"<|.int 21:=bG W (v:=Value.int 21 211) 21 212 2.<|.int _ _
theorem cO(W:Lw D):Gl D "TB_TYPEDEF"<|.int 2:=bG W (v:=Value.int 2 191) 11 192 2.<|.int _ _
theorem cP(W:Lw D):Gl D "TB_TYPEREF"<|.int 1:=bG W (v:=Value.int 1 189) 10 190 2.<|.int _ _
theorem pz(W:Lw D):Gl D "TF_ABSTRACT"<|.int 1:=bG W (v:=Value.int 1 1320) 169 1321 2.<|.int _ _
theorem fL(W:Lw D):Gl D "TF_INTERNAL"<|.int 8:=bG W (v:=Value.int 8 1326) 172 1327 2.<|.int _ _
theorem tj(W:Lw D):Gl D "TF_SEALED"<|.int 2:=bG W (v:=Value.int 2 1322) 170 1323 2.<|.int _ _
theorem jE(W:Lw D):Gl D "TID_PRIM"<|.ref<|.inl 329:=bG W (v:=Value.ref 329) 137 895 2.<|.ref 4.
theorem eO(W:Lw D):Gl D "TOKEN_BASE"<|.int 16777216:=bG W (v:=Value.int 16777216 233) 32 234 2.<|.int _ _
theorem iq(W:Lw D):Gl D "TYPE_BITS"<|.tup [.tup [.int 1,.int 128],.tup [.int 2,.int 256],.tup [.int 4,.int 1048576],.tup [.int 16,.int 1024]]:=bG W (v:=Value.ref 793) 204 1682 2.<|.tup (n:=0) (W.std 793 Kl.o_860 2. 4.)<|.cons (.tup (n:=0) (W.std 789 Kl.o_856 2. 4.)<|.cons (.int _ _)<|.cons (.int _ _) .nil)<|.cons (.tup (n:=0) (W.std 790 Kl.o_857 2. 4.)<|.cons (.int _ _)<|.cons (.int _ _) .nil)<|.cons (.tup (n:=0) (W.std 791 Kl.o_858 2. 4.)<|.cons (.int _ _)<|.cons (.int _ _) .nil)<|.cons (.tup (n:=0) (W.std 792 Kl.o_859 2. 4.)<|.cons (.int _ _)<|.cons (.int _ _) .nil) .nil
theorem iY(W:Lw D):Gl D "T_VALUETYPE"<|.int 2:=bG W (v:=Value.int 2 1338) 178 1339 2.<|.int _ _
theorem gw(W:Lw D):Gl D "TypeDef"<|.ref<|.inl 624:=bG W (v:=Value.ref 624) 181 1397 2.<|.ref 4.
theorem Cl(W:Lw D):Gl D "VOID"<|.int 0:=bG W (v:=Value.int 0 780) 107 781 2.<|.int _ _
theorem rD(W:Lw D):Gl D "_law_fields"<|.ref<|.inl 905:=bG W (v:=Value.ref 905) 220 1850 2.<|.ref 4.
theorem rE(W:Lw D):Gl D "_law_turned"<|.ref<|.inl 910:=bG W (v:=Value.ref 910) 221 1856 2.<|.ref 4.
theorem tm(W:Lw D):Gl D "add_field"<|.ref<|.inl 705:=bG W (v:=Value.ref 705) 188 1527 2.<|.ref 4.
theorem vz(W:Lw D):Gl D "add_type"<|.ref<|.inl 698:=bG W (v:=Value.ref 698) 187 1513 2.<|.ref 4.
theorem w0(W:Lw D):Gl D "args_of"<|.ref<|.inl 474:=bG W (v:=Value.ref 474) 154 1110 2.<|.ref 4.
theorem rF(W:Lw D):Gl D "array_kind"<|.ref<|.inl 446:=bG W (v:=Value.ref 446) 150 1076 2.<|.ref 4.
theorem iZ(W:Lw D):Gl D "asm_ref_row"<|.ref<|.inl 828:=bG W (v:=Value.ref 828) 209 1731 2.<|.ref 4.
theorem fM(W:Lw D):Gl D "bytearray"<|.typ "bytearray":=v8 W (v:=.type "bytearray") 1. 2.<|.typ _
theorem to(W:Lw D):Gl D "bytes"<|.typ "bytes":=v8 W (v:=.type "bytes") 1. 2.<|.typ _
theorem rG(W:Lw D):Gl D "check_args"<|.ref<|.inl 418:=bG W (v:=Value.ref 418) 146 1042 2.<|.ref 4.
theorem d9(W:Lw D):Gl D "check_kind_row"<|.ref<|.inl 404:=bG W (v:=Value.ref 404) 144 1025 2.<|.ref 4.
theorem pA(W:Lw D):Gl D "check_named"<|.ref<|.inl 411:=bG W (v:=Value.ref 411) 145 1033 2.<|.ref 4.
theorem AC(W:Lw D):Gl D "chr"<|.blt "chr":=v8 W (v:=.builtin "chr") 1. 2.<|.blt _
theorem j9(W:Lw D):Gl D "class_kind"<|.ref<|.inl 432:=bG W (v:=Value.ref 432) 148 1060 2.<|.ref 4.
theorem nE(W:Lw D):Gl D "column_place"<|.ref<|.inl 232:=bG W (v:=Value.ref 232) 93 617 2.<|.ref 4.
theorem nG(W:Lw D):Gl D "const_octets"<|.ref<|.inl 770:=bG W (v:=Value.ref 770) 200 1656 2.<|.ref 4.
theorem i0(W:Lw D):Gl D "enum_fields"<|.ref<|.inl 814:=bG W (v:=Value.ref 814) 207 1715 2.<|.ref 4.
theorem bY(W:Lw D):Gl D "enumerate"<|.typ "enumerate":=v8 W (v:=.type "enumerate") 1. 2.<|.typ _
theorem ka(W:Lw D):Gl D "field_blob"<|.ref<|.inl 877:=bG W (v:=Value.ref 877) 216 1801 2.<|.ref 4.
theorem kf(W:Lw D):Gl D "floor_type"<|.ref<|.inl 784:=bG W (v:=Value.ref 784) 202 1677 2.<|.ref 4.
theorem gx(W:Lw D):Gl D "il_put_number"<|.ref<|.inl 761:=bG W (v:=Value.ref 761) 196 1601 2.<|.ref 4.
theorem cV(W:Lw D):Gl D "inner_kinds"<|.ref<|.inl 383:=bG W (v:=Value.ref 383) 141 1001 2.<|.ref 4.
theorem Cm(W:Lw D):Gl D "int"<|.typ "int":=v8 W (v:=.type "int") 1. 2.<|.typ _
theorem lT(W:Lw D):Gl D "int_range"<|.ref<|.inl 502:=bG W (v:=Value.ref 502) 158 1143 2.<|.ref 4.
theorem nH(W:Lw D):Gl D "is_interface"<|.ref<|.inl 313:=bG W (v:=Value.ref 313) 104 749 2.<|.ref 4.
theorem oy(W:Lw D):Gl D "is_plain"<|.ref<|.inl 856:=bG W (v:=Value.ref 856) 213 1772 2.<|.ref 4.
theorem gy(W:Lw D):Gl D "isinstance"<|.blt "isinstance":=v8 W (v:=.builtin "isinstance") 1. 2.<|.blt _
theorem kh(W:Lw D):Gl D "kind_coded"<|.ref<|.inl 870:=bG W (v:=Value.ref 870) 215 1793 2.<|.ref 4.
theorem lU(W:Lw D):Gl D "kind_sort"<|.ref<|.inl 460:=bG W (v:=Value.ref 460) 152 1092 2.<|.ref 4.
theorem kl(W:Lw D):Gl D "kind_token"<|.ref<|.inl 863:=bG W (v:=Value.ref 863) 214 1782 2.<|.ref 4.
theorem bX(W:Lw D):Gl D "len"<|.blt "len":=v8 W (v:=.builtin "len") 1. 2.<|.blt _
theorem gz(W:Lw D):Gl D "list_range"<|.ref<|.inl 285:=bG W (v:=Value.ref 285) 100 689 2.<|.ref 4.
theorem d6(W:Lw D):Gl D "make_coded"<|.ref<|.inl 204:=bG W (v:=Value.ref 204) 89 582 2.<|.ref 4.
theorem gA(W:Lw D):Gl D "make_token"<|.ref<|.inl 218:=bG W (v:=Value.ref 218) 91 600 2.<|.ref 4.
theorem tp(W:Lw D):Gl D "may_stand"<|.ref<|.inl 425:=bG W (v:=Value.ref 425) 147 1051 2.<|.ref 4.
theorem fo(W:Lw D):Gl D "need_as_defined"<|.ref<|.inl 719:=bG W (v:=Value.ref 719) 190 1547 2.<|.ref 4.
theorem vA(W:Lw D):Gl D "need_asm"<|.ref<|.inl 726:=bG W (v:=Value.ref 726) 191 1555 2.<|.ref 4.
theorem oz(W:Lw D):Gl D "need_row"<|.ref<|.inl 197:=bG W (v:=Value.ref 197) 88 570 2.<|.ref 4.
theorem pB(W:Lw D):Gl D "number_rows"<|.ref<|.inl 807:=bG W (v:=Value.ref 807) 206 1708 2.<|.ref 4.
theorem HG(W:Lw D):Gl D "ord"<|.blt "ord":=v8 W (v:=.builtin "ord") 1. 2.<|.blt _
theorem pC(W:Lw D):Gl D "other_const"<|.ref<|.inl 777:=bG W (v:=Value.ref 777) 201 1665 2.<|.ref 4.
theorem rH(W:Lw D):Gl D "pack_field"<|.ref<|.inl 898:=bG W (v:=Value.ref 898) 219 1836 2.<|.ref 4.
theorem rI(W:Lw D):Gl D "pack_types"<|.ref<|.inl 891:=bG W (v:=Value.ref 891) 218 1822 2.<|.ref 4.
theorem lV(W:Lw D):Gl D "put_shell"<|.ref<|.inl 677:=bG W (v:=Value.ref 677) 184 1482 2.<|.ref 4.
theorem cw(W:Lw D):Gl D "range"<|.typ "range":=v8 W (v:=.type "range") 1. 2.<|.typ _
theorem gB(W:Lw D):Gl D "row_length"<|.ref<|.inl 397:=bG W (v:=Value.ref 397) 143 1015 2.<|.ref 4.
theorem iu(W:Lw D):Gl D "row_level"<|.ref<|.inl 390:=bG W (v:=Value.ref 390) 142 1008 2.<|.ref 4.
theorem jF(W:Lw D):Gl D "row_name"<|.ref<|.inl 821:=bG W (v:=Value.ref 821) 208 1722 2.<|.ref 4.
theorem cG(W:Lw D):Gl D "rows_of"<|.ref<|.inl 257:=bG W (v:=Value.ref 257) 96 645 2.<|.ref 4.
theorem f6(W:Lw D):Gl D "rule_constants"<|.ref<|.inl 327:=bG W (v:=Value.ref 327) 106 777 2.<|.ref 4.
theorem rJ(W:Lw D):Gl D "rule_iface"<|.ref<|.inl 320:=bG W (v:=Value.ref 320) 105 762 2.<|.ref 4.
theorem rK(W:Lw D):Gl D "rule_lists"<|.ref<|.inl 278:=bG W (v:=Value.ref 278) 99 677 2.<|.ref 4.
theorem rL(W:Lw D):Gl D "rule_names"<|.ref<|.inl 292:=bG W (v:=Value.ref 292) 101 703 2.<|.ref 4.
theorem rM(W:Lw D):Gl D "rule_twice"<|.ref<|.inl 299:=bG W (v:=Value.ref 299) 102 718 2.<|.ref 4.
theorem oA(W:Lw D):Gl D "sig_tree"<|.ref<|.inl 842:=bG W (v:=Value.ref 842) 211 1751 2.<|.ref 4.
theorem eP(W:Lw D):Gl D "sort_flags"<|.ref<|.inl 691:=bG W (v:=Value.ref 691) 186 1498 2.<|.ref 4.
theorem yI(W:Lw D):Gl D "sorted"<|.blt "sorted":=v8 W (v:=.builtin "sorted") 1. 2.<|.blt _
theorem pD(W:Lw D):Gl D "split_coded"<|.ref<|.inl 211:=bG W (v:=Value.ref 211) 90 592 2.<|.ref 4.
theorem nI(W:Lw D):Gl D "split_letter"<|.ref<|.inl 733:=bG W (v:=Value.ref 733) 192 1564 2.<|.ref 4.
theorem i2(W:Lw D):Gl D "split_token"<|.ref<|.inl 225:=bG W (v:=Value.ref 225) 92 607 2.<|.ref 4.
theorem HH(W:Lw D):Gl D "str"<|.typ "str":=v8 W (v:=.type "str") 1. 2.<|.typ _
theorem rN(W:Lw D):Gl D "table_blob"<|.ref<|.inl 271:=bG W (v:=Value.ref 271) 98 661 2.<|.ref 4.
theorem dA(W:Lw D):Gl D "table_text"<|.ref<|.inl 264:=bG W (v:=Value.ref 264) 97 653 2.<|.ref 4.
theorem lp(W:Lw D):Gl D "tid_of"<|.ref<|.inl 467:=bG W (v:=Value.ref 467) 153 1101 2.<|.ref 4.
theorem AD(W:Lw D):Gl D "tuple"<|.typ "tuple":=v8 W (v:=.type "tuple") 1. 2.<|.typ _
theorem dK(W:Lw D):Gl D "turned_bits"<|.ref<|.inl 800:=bG W (v:=Value.ref 800) 205 1693 2.<|.ref 4.
theorem dL(W:Lw D):Gl D "twice_members"<|.ref<|.inl 306:=bG W (v:=Value.ref 306) 103 742 2.<|.ref 4.
theorem rO(W:Lw D):Gl D "type_flags"<|.ref<|.inl 884:=bG W (v:=Value.ref 884) 217 1810 2.<|.ref 4.
theorem lW(W:Lw D):Gl D "type_of"<|.ref<|.inl 712:=bG W (v:=Value.ref 712) 189 1536 2.<|.ref 4.
theorem km(W:Lw D):Gl D "type_token"<|.ref<|.inl 835:=bG W (v:=Value.ref 835) 210 1741 2.<|.ref 4.
theorem nJ(W:Lw D):Gl D "units_octets"<|.ref<|.inl 747:=bG W (v:=Value.ref 747) 194 1582 2.<|.ref 4.
theorem gC(W:Lw D):Gl D "usual_base"<|.ref<|.inl 684:=bG W (v:=Value.ref 684) 185 1490 2.<|.ref 4.
theorem vB(W:Lw D):Gl D "utf16_of"<|.ref<|.inl 754:=bG W (v:=Value.ref 754) 195 1589 2.<|.ref 4.
theorem pF(W:Lw D):Gl D "utf16_units"<|.ref<|.inl 740:=bG W (v:=Value.ref 740) 193 1573 2.<|.ref 4.
theorem vC(W:Lw D):Gl D "var_kind"<|.ref<|.inl 453:=bG W (v:=Value.ref 453) 151 1084 2.<|.ref 4.
noncomputable def shp(T:String)(o:Obj):Bool:=(match o.cls with| .type n=>decide (n=T)|_=>false)&&o.dict.isNone&&o.slots.isEmpty
theorem zR{T:String}{o:Obj}(h:shp T o=true):o=⟨.type T,none,o.data,#[]⟩:=by
 obtain⟨c,d,x,s⟩:=o;cases c<;>simp[shp]at h;cases d<;>simp_all
noncomputable def rdS:Option Data->List Value
 |some (.seq vs _)=>vs.toList
 |_=>[]
noncomputable def rd(g:Addr->Option Obj):Nat->Value->MV
 |_,.int i _=>.int i
 |_,.str x _=>.str x
 |n+1,.ref a=>.tup ((rdS<|(g a).map Obj.data).map<|rd g n)
 |_,_=>.none
noncomputable def rkD(f:Value->Bool):Data->Bool
 | .seq vs _=>vs.toList.all f
 |_=>false
def rkO(f:Value->Bool):Option Obj->Bool
 |some o=>shp "tuple" o&&rkD f o.data
 |none=>false
noncomputable def rk(g:Addr->Option Obj):Nat->Value->Bool
 |_,.int _ _=>true
 |_,.str _ _=>true
 |n+1,.ref a=>Nat.blt a 916&&rkO (rk g n) (g a)
 |_,_=>false
theorem AE(W:Lw D)(n:Nat): ∀v,rk (Kl.tree_985 D.w.params).get n v=true->VR (Hp D.hb) (rd (Kl.tree_985 D.w.params).get n v) v:=by
 induction n with
 |zero=>
  intro v h;cases v with
  |int i t=>show .int i t
  |str x t=>show .str x t
  |_=>show absurd (show false=true from h) Bool.false_ne_true
 |succ n AE=>
  intro v h;cases v with
  |int i t=>show .int i t
  |str x t=>show .str x t
  |ref a=>
   obtain⟨h1,h2⟩:=Bool.and_eq_true_iff.mp (show(Nat.blt a 916&&rkO (rk (Kl.tree_985 D.w.params).get n) ((Kl.tree_985 D.w.params).get a))=true from h);change VR _ (.tup<|(rdS<|((Kl.tree_985 D.w.params).get a).map Obj.data).map<|rd (Kl.tree_985 D.w.params).get n) _;cases ho:(Kl.tree_985 D.w.params).get a with
   |none=>rw[ho]at h2;show absurd (show false=true from h2) Bool.false_ne_true
   |some o=>
    rw[ho]at h2;obtain⟨h2,h3⟩:=Bool.and_eq_true_iff.mp (show(shp "tuple" o&&rkD (rk (Kl.tree_985 D.w.params).get n) o.data)=true from h2);have e:=zR h2;change VR _ (.tup<|(rdS<|some o.data).map _) _;cases hd:o.data with
    |seq vs m=>
     rw[hd]at h3 e;show .tup (n:=m) ?_ ?_ (vs:=vs.toList)
     ·show(W.std a o ho (by rw[e];rfl) h1).trans (by rw[e])
     ·have: ∀l:List Value,l.all (rk (Kl.tree_985 D.w.params).get n)=true->VRs (Hp D.hb) (l.map<|rd (Kl.tree_985 D.w.params).get n) l:=by
       intro l;induction l with
       |nil=>show λO=>.nil
       |cons v l ih=>show λq=>.cons (AE v (Bool.and_eq_true_iff.mp q).1)<|ih (Bool.and_eq_true_iff.mp q).2
      show this _ h3
    |_=>rw[hd]at h3;show absurd (show false=true from h3) Bool.false_ne_true
  |_=>show absurd (show false=true from h) Bool.false_ne_true
noncomputable def esl(o:Obj):List DictEntry:=match o.data with| .dict ds _=>ds.toList|_=>[]
theorem tt(W:Lw D){st:Kk}{a:Addr}{es:List<|MV×MV}(o:Obj)(h:(Kl.tree_985 D.w.params).get a=some o)
 (hk:(shp "dict" o&&(match o.data with| .dict _ _=>true|_=>false)&&(esl o).all (λe=>(match e.key with| .int i _=>decide (e.hash=mhash D.w.params (.int i))|_=>false)&&rk (Kl.tree_985 D.w.params).get 3 e.val))=true)
 (he:(esl o).map (λe=>(rd (Kl.tree_985 D.w.params).get 0 e.key,rd (Kl.tree_985 D.w.params).get 3 e.val))=es)(h1:Nat.blt a 916=true:=by rfl)(h2:a≠sysModules:=by decide):DS D st (.inl a) es:=by
 simp only[Bool.and_eq_true]at hk;obtain⟨⟨k1,k2⟩,k3⟩:=hk;have e:=zR k1;cases hd:o.data with
 |dict ds n=>
  rw[hd]at e;show .inr ⟨a,4.,h2,ds,n,(W.std a o h (by rw[e];rfl) h1).trans (by rw[e]),?_⟩
  delta esl at k3 he
  rw[hd]at k3 he;dsimp only at k3 he;subst he;generalize ds.toList=l at*;induction l with
  |nil=>show .nil
  |cons x l ih=>
   simp only[List.all_cons,Bool.and_eq_true]at k3;obtain⟨⟨q1,q2⟩,q3⟩:=k3;obtain⟨hs,key,v⟩:=x;cases key with
   |int i t=>obtain rfl:hs=mhash D.w.params (.int i):=of_decide_eq_true q1;show .cons (.int i t) (AE W _ _ q2)<|ih q3
   |_=>simp at q1
 |_=>simp[hd]at k2
noncomputable def pG:List<|MV×MV:=[(.int 0,.tup [.int 2,.tup [.int 2,.int 1,.int 27]]),(.int 1,.tup [.int 2,.tup [.int 4,.int 8,.int 23]]),(.int 2,.tup [.int 3,.tup [.int 2,.int 1,.int<| -1,.int 6,.int 27]]),(.int 3,.tup [.int 1,.tup [.int 20,.int 23]]),(.int 4,.tup [.int 1,.tup [.int 6,.int 10]]),(.int 5,.tup [.int 2,.tup [.int 0,.int<| -1,.int 35,.int 1]]),(.int 6,.tup [.int 1,.tup [.int 2,.int 6]])]
theorem uv(W:Lw D)(st:Kk):DS D st (.inl 71) pG:=tt W Kl.o_80 2. 2. 2.
noncomputable def jG:List<|MV×MV:=[(.int 0,.tup [.tup [.str<|-"Generation",.int 1],.tup [.str<|-"Name",.int 4],.tup [.str<|-"Mvid",.int 6],.tup [.str<|-"EncId",.int 6],.tup [.str<|-"EncBaseId",.int 6]]),(.int 1,.tup [.tup [.str<|-"ResolutionScope",.int 517],.tup [.str<|-"TypeName",.int 4],.tup [.str<|-"TypeNamespace",.int 4]]),(.int 2,.tup [.tup [.str<|-"Flags",.int 2],.tup [.str<|-"TypeName",.int 4],.tup [.str<|-"TypeNamespace",.int 4],.tup [.str<|-"Extends",.int 512],.tup [.str<|-"FieldList",.int 260],.tup [.str<|-"MethodList",.int 262]]),(.int 4,.tup [.tup [.str<|-"Flags",.int 1],.tup [.str<|-"Name",.int 4],.tup [.str<|-"Signature",.int 5]]),(.int 6,.tup [.tup [.str<|-"RVA",.int 2],.tup [.str<|-"ImplFlags",.int 1],.tup [.str<|-"Flags",.int 1],.tup [.str<|-"Name",.int 4],.tup [.str<|-"Signature",.int 5],.tup [.str<|-"ParamList",.int 264]]),(.int 8,.tup [.tup [.str<|-"Flags",.int 1],.tup [.str<|-"Sequence",.int 1],.tup [.str<|-"Name",.int 4]]),(.int 9,.tup [.tup [.str<|-"Class",.int 258],.tup [.str<|-"Interface",.int 512]]),(.int 10,.tup [.tup [.str<|-"Class",.int 514],.tup [.str<|-"Name",.int 4],.tup [.str<|-"Signature",.int 5]]),(.int 11,.tup [.tup [.str<|-"Type",.int 3],.tup [.str<|-"Parent",.int 513],.tup [.str<|-"Value",.int 5]]),(.int 17,.tup [.tup [.str<|-"Signature",.int 5]]),(.int 18,.tup [.tup [.str<|-"Parent",.int 258],.tup [.str<|-"EventList",.int 276]]),(.int 20,.tup [.tup [.str<|-"EventFlags",.int 1],.tup [.str<|-"Name",.int 4],.tup [.str<|-"EventType",.int 512]]),(.int 21,.tup [.tup [.str<|-"Parent",.int 258],.tup [.str<|-"PropertyList",.int 279]]),(.int 23,.tup [.tup [.str<|-"Flags",.int 1],.tup [.str<|-"Name",.int 4],.tup [.str<|-"Type",.int 5]]),(.int 24,.tup [.tup [.str<|-"Semantics",.int 1],.tup [.str<|-"Method",.int 262],.tup [.str<|-"Association",.int 515]]),(.int 25,.tup [.tup [.str<|-"Class",.int 258],.tup [.str<|-"MethodBody",.int 516],.tup [.str<|-"MethodDeclaration",.int 516]]),(.int 27,.tup [.tup [.str<|-"Signature",.int 5]]),(.int 32,.tup [.tup [.str<|-"HashAlgId",.int 2],.tup [.str<|-"MajorVersion",.int 1],.tup [.str<|-"MinorVersion",.int 1],.tup [.str<|-"BuildNumber",.int 1],.tup [.str<|-"RevisionNumber",.int 1],.tup [.str<|-"Flags",.int 2],.tup [.str<|-"PublicKey",.int 5],.tup [.str<|-"Name",.int 4],.tup [.str<|-"Culture",.int 4]]),(.int 35,.tup [.tup [.str<|-"MajorVersion",.int 1],.tup [.str<|-"MinorVersion",.int 1],.tup [.str<|-"BuildNumber",.int 1],.tup [.str<|-"RevisionNumber",.int 1],.tup [.str<|-"Flags",.int 2],.tup [.str<|-"PublicKeyOrToken",.int 5],.tup [.str<|-"Name",.int 4],.tup [.str<|-"Culture",.int 4],.tup [.str<|-"HashValue",.int 5]]),(.int 41,.tup [.tup [.str<|-"NestedClass",.int 258],.tup [.str<|-"EnclosingClass",.int 258]]),(.int 42,.tup [.tup [.str<|-"Number",.int 1],.tup [.str<|-"Flags",.int 1],.tup [.str<|-"Owner",.int 518],.tup [.str<|-"Name",.int 4]]),(.int 43,.tup [.tup [.str<|-"Method",.int 516],.tup [.str<|-"Instantiation",.int 5]]),(.int 44,.tup [.tup [.str<|-"Owner",.int 298],.tup [.str<|-"Constraint",.int 512]])]
theorem vD(W:Lw D)(st:Kk):DS D st (.inl 86) jG:=tt W Kl.o_99 2. 2. 2.
noncomputable def fN:List<|MV×MV:=[(.int 0,.int 20),(.int 1,.int 9),(.int 2,.int 10),(.int 3,.int 11),(.int 4,.int 12),(.int 5,.int 13),(.int 6,.int 14),(.int 7,.int 15),(.int 8,.int 16),(.int 9,.int 17),(.int 10,.int 18),(.int 11,.int 19),(.int 12,.int 1),(.int 13,.int 4)]
theorem lX(W:Lw D)(st:Kk):DS D st (.inl 328) fN:=tt W Kl.o_351 2. 2. 2.
noncomputable def fO:List<|MV×MV:=[(.int 20,.int 0),(.int 9,.int 1),(.int 10,.int 2),(.int 11,.int 3),(.int 12,.int 4),(.int 13,.int 5),(.int 14,.int 6),(.int 15,.int 7),(.int 16,.int 8),(.int 17,.int 9),(.int 18,.int 10),(.int 19,.int 11),(.int 1,.int 12),(.int 4,.int 13)]
theorem iw(W:Lw D)(st:Kk):DS D st (.inl 329) fO:=tt W Kl.o_356 2. 2. 2.
noncomputable def i3:List<|MV×MV:=[(.int 1,.tup [.int 0,.int 255]),(.int 2,.tup [.int 0,.int 65535]),(.int 3,.tup [.int<| -128,.int 127]),(.int 4,.tup [.int 0,.int 255]),(.int 5,.tup [.int<| -32768,.int 32767]),(.int 6,.tup [.int 0,.int 65535]),(.int 7,.tup [.int<| -2147483648,.int 2147483647]),(.int 8,.tup [.int 0,.int 4294967295]),(.int 9,.tup [.int<| -9223372036854775808,.int 9223372036854775807]),(.int 10,.tup [.int 0,.int 18446744073709551615]),(.int 11,.tup [.int<| -2147483648,.int 2147483647])]
theorem i4(W:Lw D)(st:Kk):DS D st (.inl 330) i3:=tt W Kl.o_361 2. 2. 2.
noncomputable def lY:List<|MV×MV:=[(.int 0,.int 1),(.int 1,.int 2),(.int 2,.int 3),(.int 3,.int 4),(.int 4,.int 5),(.int 5,.int 6),(.int 6,.int 7),(.int 7,.int 8),(.int 8,.int 9),(.int 9,.int 10),(.int 10,.int 11),(.int 11,.int 24),(.int 12,.int 28),(.int 13,.int 14)]
theorem bI(W:Lw D)(st:Kk):DS D st (.inl 762) lY:=tt W Kl.o_824 2. 2. 2.
noncomputable def nK:List<|MV×MV:=[(.int 1,.int 1),(.int 2,.int 2),(.int 3,.int 1),(.int 4,.int 1),(.int 5,.int 2),(.int 6,.int 2),(.int 7,.int 4),(.int 8,.int 4),(.int 9,.int 8),(.int 10,.int 8),(.int 11,.int 4)]
theorem df(W:Lw D)(st:Kk):DS D st (.inl 763) nK:=tt W Kl.o_825 2. 2. 2.
end
variable{D:Wd}
variable{fid i j k kd n q so t:Nat}
variable{b b' st st' st0:Kk}
variable{C L a a0 ap f pa x5 xF xt:Addr}
variable{B E c' dd v:Con}
variable{env:Env}
variable{elt iter target tgt value:Expr}
variable{I:Imm}
variable{fg v1:Int}
variable{r:List<|Addr×List (String×MV)}
variable{ps:List<|Int×Int}
variable{cols:List<|Str×Int}
variable{fk fp fs' ρ ρ':List<|String×MV}
variable{b0 b1 b2 b3 b4 l:List Con}
variable{args elts ifs:List Expr}
variable{ss tags:List Int}
variable{as fl ks ms out r1 r2 rows2 tx xs ys zs:List MV}
variable{QL:List MV->Kk->Prop}
variable{l0 lit os os1 rest rt tys:List Nat}
variable{ds:List PyData}
variable{body orelse sts:List Stmt}
variable{names:List String}
variable{vs:List Value}
variable{mf:MF}
variable{Q' QF:MF->Kk->Prop}
variable{a1 a2 a4 a5 a6 d e m m1 m2 m5 m6 z:MV}
variable{A:MV->Prop}
variable{Q:MV->Kk->Prop}
variable{tb td tdf:Nat->List Con}
variable{item key key1 key2:Nat->MV}
variable{R R0 R1:Nat->Option (List MV)}
variable{nh nk nl np nr nts:Nm}
variable{o₀:OsState}
variable{apos p' pos px:Pos}
variable{pr:Prop}
variable{scope:Scope}
variable{whole:Sem Value}
variable{s₀:Stmt}
variable{P src:Kk->Prop}
variable{nm:Str}
variable{w x y:String}
variable{α β:Type}
variable{QU:Unit->Kk->Prop}
theorem Km.next{Q:MF->Kk->Prop}(h:P st):Km P Q .next st:=h
theorem Km.ret{Q:MF->Kk->Prop}(h:Q (.ret m) st):Km P Q (.ret m) st:=h
theorem Km.cont{Q:MF->Kk->Prop}(h:Q .cont st):Km P Q .cont st:=h
theorem IA{a b:Nat}{p:Prop}(h:a<=b)(q:p):a<=b/\p:=⟨h,q⟩
theorem az{p:Prop}(h:aL D m)(q:p):aL D m/\p:=⟨h,q⟩
theorem eQ{p:List (String×MV)->List (Addr×List (String×MV))->Prop}(h:st.fr=(L,ρ)::r)(q:p ρ r): ∃ρ r,st.fr=(L,ρ)::r/\p ρ r:=⟨ρ,r,h,q⟩
theorem cf{b:Bool}{p q:Prop}(h:b=true)(x:p):if b=true then p else q:=by rw[if_pos h];show x
theorem ck{b:Bool}{p q:Prop}(h:b=false)(x:q):if b=true then p else q:=by rw[if_neg (by rw[h];show Bool.false_ne_true)];show x
theorem bg{es:List<|MV×MV}{i:Int}(h:es.all (λp=>cN p.1)=true):kok es (.int i)=true:=by
 unfold kok;rw[h];rfl
theorem CL.of{j:Nat}{f:MV}(h:CD D j st f ms Q)(e:j<=k):CL D k st f ms Q:=h.cl.room e
section
variable{p:Pos}{rest:List Expr}
noncomputable def ix(env:Env)(x:String):Bool:=(env.kindOf (Str.ofString x)==some .local)&&(env.scope.kind==.function)&& !(Str.ofString x==("__debug__":Str))
noncomputable def w4(env:Env)(x:String):Bool:=(env.kindOf (Str.ofString x)==some .globalImplicit)&&(env.scope.kind==.function)&&(env.globals==mainGlobals)&&(env.builtins==builtinsNs)&& !(Str.ofString x==("__debug__":Str))
theorem af(hf:st.fr=(env.locals,ρ)::r)(hx:lk x ρ=some m)(h:Q m st)(ok:ix env x=true:=by kernel_rfl):WV D k st (eval (.Name (Str.ofString x) pos) env) Q:=by
 unfold ix at ok;simp only[Bool.and_eq_true,beq_iff_eq,Bool.not_eq_true']at ok;show oI hf hx h ok.1.1 ok.1.2 ok.2
theorem aP(g:Gl D x m)(h:Q m st)(ok:w4 env x=true:=by kernel_rfl):WV D k st (eval (.Name (Str.ofString x) pos) env) Q:=by
 unfold w4 at ok;simp only[Bool.and_eq_true,beq_iff_eq,Bool.not_eq_true']at ok;show yk g h ok.1.1.1.1 ok.1.1.1.2 ok.1.1.2 ok.1.2 ok.2
theorem w5{n:Nm}{fs:List<|String×MV}(hf:st.fr=(env.locals,ρ)::r)(hx:lk y ρ=some (.ref n))(hn:st.m n=some (.n C fs))(ha:lk x fs=some m)(hb: ∀id,m≠.blt id)(ok:iH D.K C (Str.ofString x)=true)(h:Q m st)(lo:ix env y=true:=by kernel_rfl):
 WV D k st (eval (.Attribute (.Name (Str.ofString y) p) (Str.ofString x) pos) env) Q:=cj<|af hf hx (qO hn ha hb ok h) lo
theorem ag{f:MV}(g:Gl D x f)(kp:aL D f)(h:WL D k st (spliced<|backTo pos<|starEach args env)<|iI D k Q f)(hs:(backTo pos<|starEach args env).any (·.1)=false:=by rfl)(ok:w4 env x=true:=by kernel_rfl):
 WV D k st (eval (.Call (.Name (Str.ofString x) p) args [] pos) env) Q:=u3 (aP g (az kp h) ok) hs
theorem bo(hf:st.fr=(env.locals,ρ)::r)(hx:lk x ρ=some m)(h:WL D k st (spliced<|backTo pos<|starEach rest env)<|cr QL m)(ok:ix env x=true:=by kernel_rfl):WL D k st (spliced<|backTo pos<|starEach (.Name (Str.ofString x) p::rest) env) QL:=
 aa<|af hf hx h ok
theorem aG(hf:st.fr=(env.locals,ρ)::r)(hx:lk x ρ=some m)(h:QL [m] st)(ok:ix env x=true:=by kernel_rfl):WL D k st (spliced<|backTo pos<|starEach [.Name (Str.ofString x) p] env) QL:=
 aa<|af hf hx (ab h) ok
theorem bp{i:Int}(h:WL D k st (spliced<|backTo pos<|starEach rest env)<|cr QL<|.int i):WL D k st (spliced<|backTo pos<|starEach (.Constant (.int i) kd p::rest) env) QL:=aa<|aA h
theorem aH{Q:MF->Kk->Prop}(h:WF D k st (exec s₀ env)<|Km (cF D k env sts Q) Q):Km (cF D k env (s₀::sts) Q) Q' .next st:=ao h
theorem g8{b:Bool}(h:b=false)(q:P st):if b=true then pr else WF D k st (execs [] env) (Km P Q'):=ck h<|aT q
theorem bk{b:Bool}{Q:MF->Kk->Prop}(h:b=false)(q:WF D k st (exec s₀ env)<|Km (cF D k env sts Q) Q):if b=true then pr else WF D k st (execs [] env) (Km (cF D k env (s₀::sts) Q) Q'):=ck h<|aT<|ao q
theorem dE{test:Expr}{Q:MF->Kk->Prop}(h:WB D k st (isTrue test env<|eval test env)<|oP D k env body orelse<|Km (cF D k env sts Q) Q):Km (cF D k env (.If test body orelse pos::sts) Q) Q' .next st:=ao<|bW h
theorem aN{i:Int}(hf:st.fr=(env.locals,ρ)::r)(hx:lk x ρ=some (.tup xs))(h0:0<=i)(hi:i<2^60)(ht:xs[i.toNat]? =some m)(h:Q m st)(lo:ix env x=true:=by kernel_rfl):
 WV D k st (eval (.Subscript (.Name (Str.ofString x) p) (.Constant (.int i) kd p') pos) env) Q:=aX<|af hf hx (aA<|cL h0 hi ht h) lo
end
section
variable{QB:Bool->Kk->Prop}{p:Pos}{rest:List Expr}{i j:Int}
theorem cA(h:QB (i==j) st):OP D VR k st [.int i,.int j] (λvs=>compareOp .Eq (vs.getD 0 .none)<|vs.getD 1 .none)<|jY D k QB:=An<|aK h
theorem bh(hf:st.fr=(env.locals,ρ)::r)(hx:lk x ρ=some (.int i))(g:Gl D y<|.int j)(h:QB (i==j) st)(lo:ix env x=true:=by kernel_rfl)(go:w4 env y=true:=by kernel_rfl):
 WB D k st (isTrue (.Compare (.Name (Str.ofString x) p) [.Eq] [.Name (Str.ofString y) p'] pos) env whole) QB:=ae<|af hf hx (aP g (cA h) go) lo
theorem Cn{n:Nm}{fs:List<|String×MV}(hf:st.fr=(env.locals,ρ)::r)(hx:lk y ρ=some (.ref n))(hn:st.m n=some (.n C fs))(ha:lk x fs=none)(ok:qN D.K C (Str.ofString x) f=true)(kp:aL D<|.ref<|.inl f)
 (h:WL D k st (spliced<|backTo pos<|starEach args env)<|fy D k Q (.ref (.inl f),[.ref n]))(hm:methodCallForm (args.length+0) (backTo pos<|starEach args env) []=true:=by rfl)(hp:(apos.endLine==pos.line)=true:=by rfl)
 (hs:(backTo pos<|starEach args env).any (·.1)=false:=by rfl)(lo:ix env y=true:=by kernel_rfl):WV D k st (eval (.Call (.Attribute (.Name (Str.ofString y) p) (Str.ofString x) apos) args [] pos) env) Q:=
 aq (af hf hx (zG hn ha ok<|az kp h) lo) (by rfl) hm hp hs
theorem bZ(h:Alloc st λn=>Q (.ref n)<|st.set n<|.l []):WV D k st (eval (.List [] pos) env) Q:=dS<|ab ⟨Nat.zero_le _,h⟩
theorem HI{n:Nm}{fs:List<|String×MV}(hf:st.fr=(env.locals,ρ)::r)(hx:lk y ρ=some (.ref n))(hn:st.m n=some (.n C fs))(ha:lk x fs=some m)(hb: ∀id,m≠.blt id)(ok:iH D.K C (Str.ofString x)=true)(h:WL D k st (spliced<|backTo pos<|starEach rest env)<|cr QL m)(lo:ix env y=true:=by kernel_rfl):
 WL D k st (spliced<|backTo pos<|starEach (.Attribute (.Name (Str.ofString y) p) (Str.ofString x) p'::rest) env) QL:=aa<|w5 hf hx hn ha hb ok h lo
theorem Co{n:Nm}{fs:List<|String×MV}(hf:st.fr=(env.locals,ρ)::r)(hx:lk y ρ=some (.ref n))(hn:st.m n=some (.n C fs))(ha:lk x fs=some m)(hb: ∀id,m≠.blt id)(ok:iH D.K C (Str.ofString x)=true)(h:QL [m] st)(lo:ix env y=true:=by kernel_rfl):
 WL D k st (spliced<|backTo pos<|starEach [.Attribute (.Name (Str.ofString y) p) (Str.ofString x) p'] env) QL:=aa<|w5 hf hx hn ha hb ok (ab h) lo
theorem bM(g:Gl D x m)(h:WL D k st (spliced<|backTo pos<|starEach rest env)<|cr QL m)(ok:w4 env x=true:=by kernel_rfl):WL D k st (spliced<|backTo pos<|starEach (.Name (Str.ofString x) p::rest) env) QL:=
 aa<|aP g h ok
theorem eS{c:Bool}(h:c=false)(q:WB D k st (allTrue .Or rest env) QB):OP D TB k st [.bool c] (λvs=>truthy<|vs.getD 0 .none)<|jZ D k env rest QB:=aK<|ck h q
theorem vE{c:Bool}(h:c=true)(q:WB D k st (allTrue .And rest env) QB):OP D TB k st [.bool c] (λvs=>truthy<|vs.getD 0 .none)<|iJ D k env rest QB:=aK<|cf h q
theorem J5{c:Bool}{Q:MF->Kk->Prop}(h:c=false)(q:WF D k st (execs orelse env) Q):OP D TB k st [.bool c] (λvs=>truthy<|vs.getD 0 .none)<|oP D k env body orelse Q:=aK<|ck h q
theorem oB{c:Bool}{Q:MF->Kk->Prop}(h:c=true)(q:WF D k st (execs body env) Q):OP D TB k st [.bool c] (λvs=>truthy<|vs.getD 0 .none)<|oP D k env body orelse Q:=aK<|cf h q
theorem JG{b:Bool}(h:QB false st):WB D k st (allTrue .Or [] env) QB:=aY h
end
section
variable{p:Pos}{rest:List Expr}{n:Nm}{fs:List<|String×MV}
theorem ce{a b:Nat}{q:Prop}(h:q)(e:Nat.ble a b=true:=by rfl):a<=b/\q:=⟨J9 e,h⟩
theorem ah(W:Lw D)(hf:st.fr=(env.locals,ρ)::r)(hx:lk y ρ=some (.ref n))(hn:st.m n=some (.n C fs))(ha:lk x fs=some m)(hb: ∀id,m≠.blt id)(h:Q m st)(ok:iH (KK D.w.params) C (Str.ofString x)=true:=by kernel_rfl)(lo:ix env y=true:=by kernel_rfl):
 WV D k st (eval (.Attribute (.Name (Str.ofString y) p) (Str.ofString x) pos) env) Q:=w5 hf hx hn ha hb (by rw[W.K];show ok) h lo
theorem b5(W:Lw D)(hf:st.fr=(env.locals,ρ)::r)(hx:lk y ρ=some (.ref n))(hn:st.m n=some (.n C fs))(ha:lk x fs=some m)(hb: ∀id,m≠.blt id)(h:WL D k st (spliced<|backTo pos<|starEach rest env)<|cr QL m)(ok:iH (KK D.w.params) C (Str.ofString x)=true:=by kernel_rfl)(lo:ix env y=true:=by kernel_rfl):
 WL D k st (spliced<|backTo pos<|starEach (.Attribute (.Name (Str.ofString y) p) (Str.ofString x) p'::rest) env) QL:=HI hf hx hn ha hb (by rw[W.K];show ok) h lo
theorem bE(W:Lw D)(hf:st.fr=(env.locals,ρ)::r)(hx:lk y ρ=some (.ref n))(hn:st.m n=some (.n C fs))(ha:lk x fs=some m)(hb: ∀id,m≠.blt id)(h:QL [m] st)(ok:iH (KK D.w.params) C (Str.ofString x)=true:=by kernel_rfl)(lo:ix env y=true:=by kernel_rfl):
 WL D k st (spliced<|backTo pos<|starEach [.Attribute (.Name (Str.ofString y) p) (Str.ofString x) p'] env) QL:=Co hf hx hn ha hb (by rw[W.K];show ok) h lo
theorem bV(W:Lw D)(hf:st.fr=(env.locals,ρ)::r)(hx:lk y ρ=some (.ref n))(hn:st.m n=some (.n C fs))(ha:lk x fs=none)(kp:aL D<|.ref<|.inl f)
 (h:WL D k st (spliced<|backTo pos<|starEach args env)<|fy D k Q (.ref (.inl f),[.ref n]))(ok:qN (KK D.w.params) C (Str.ofString x) f=true:=by kernel_rfl)(hm:methodCallForm (args.length+0) (backTo pos<|starEach args env) []=true:=by rfl)(hp:(apos.endLine==pos.line)=true:=by rfl)
 (hs:(backTo pos<|starEach args env).any (·.1)=false:=by rfl)(lo:ix env y=true:=by kernel_rfl):WV D k st (eval (.Call (.Attribute (.Name (Str.ofString y) p) (Str.ofString x) apos) args [] pos) env) Q:=
 Cn hf hx hn ha (by rw[W.K];show ok) kp h hm hp hs lo
theorem aV{expr:Bool}(W:Lw D)(hn:st.m n=some (.n C fs))(hx:lk x fs=some m)(hb: ∀id,m≠.blt id)(h:Q m st)(ok:iH (KK D.w.params) C (Str.ofString x)=true:=by kernel_rfl):
 OP D VR k st [.ref n] (λvs=>getAttr (vs.getD 0 .none) (Str.ofString x) expr) Q:=qO hn hx hb (by rw[W.K];show ok) h
theorem cq{Q:MV×List MV->Kk->Prop}(W:Lw D)(hn:st.m n=some (.n C fs))(hx:lk x fs=none)(h:Q (.ref (.inl f),[.ref n]) st)(ok:qN (KK D.w.params) C (Str.ofString x) f=true:=by kernel_rfl):GM D k st (.ref n) x Q:=zG hn hx (by rw[W.K];show ok) h
end
section
theorem lZ(W:Lw D):aL D<|.ref<|.inl 197:=by change keepIn D.K (.ref 197)=true;rw[W.K];kernel_rfl
theorem dM(W:Lw D):aL D<|.ref<|.inl 204:=by change keepIn D.K (.ref 204)=true;rw[W.K];kernel_rfl
theorem nL(W:Lw D):aL D<|.ref<|.inl 211:=by change keepIn D.K (.ref 211)=true;rw[W.K];kernel_rfl
theorem fP(W:Lw D):aL D<|.ref<|.inl 218:=by change keepIn D.K (.ref 218)=true;rw[W.K];kernel_rfl
theorem hS(W:Lw D):aL D<|.ref<|.inl 225:=by change keepIn D.K (.ref 225)=true;rw[W.K];kernel_rfl
theorem l3(W:Lw D):aL D<|.ref<|.inl 232:=by change keepIn D.K (.ref 232)=true;rw[W.K];kernel_rfl
theorem cp(W:Lw D):aL D<|.ref<|.inl 257:=by change keepIn D.K (.ref 257)=true;rw[W.K];kernel_rfl
theorem cW(W:Lw D):aL D<|.ref<|.inl 264:=by change keepIn D.K (.ref 264)=true;rw[W.K];kernel_rfl
theorem pH(W:Lw D):aL D<|.ref<|.inl 271:=by change keepIn D.K (.ref 271)=true;rw[W.K];kernel_rfl
theorem pI(W:Lw D):aL D<|.ref<|.inl 278:=by change keepIn D.K (.ref 278)=true;rw[W.K];kernel_rfl
theorem fQ(W:Lw D):aL D<|.ref<|.inl 285:=by change keepIn D.K (.ref 285)=true;rw[W.K];kernel_rfl
theorem pJ(W:Lw D):aL D<|.ref<|.inl 292:=by change keepIn D.K (.ref 292)=true;rw[W.K];kernel_rfl
theorem pL(W:Lw D):aL D<|.ref<|.inl 299:=by change keepIn D.K (.ref 299)=true;rw[W.K];kernel_rfl
theorem dp(W:Lw D):aL D<|.ref<|.inl 306:=by change keepIn D.K (.ref 306)=true;rw[W.K];kernel_rfl
theorem l5(W:Lw D):aL D<|.ref<|.inl 313:=by change keepIn D.K (.ref 313)=true;rw[W.K];kernel_rfl
theorem pM(W:Lw D):aL D<|.ref<|.inl 320:=by change keepIn D.K (.ref 320)=true;rw[W.K];kernel_rfl
theorem fq(W:Lw D):aL D<|.ref<|.inl 327:=by change keepIn D.K (.ref 327)=true;rw[W.K];kernel_rfl
theorem bD(W:Lw D):aL D<|.ref<|.inl 362:=by change keepIn D.K (.ref 362)=true;rw[W.K];kernel_rfl
theorem dq(W:Lw D):aL D<|.ref<|.inl 369:=by change keepIn D.K (.ref 369)=true;rw[W.K];kernel_rfl
theorem cH(W:Lw D):aL D<|.ref<|.inl 383:=by change keepIn D.K (.ref 383)=true;rw[W.K];kernel_rfl
theorem gE(W:Lw D):aL D<|.ref<|.inl 390:=by change keepIn D.K (.ref 390)=true;rw[W.K];kernel_rfl
theorem fR(W:Lw D):aL D<|.ref<|.inl 397:=by change keepIn D.K (.ref 397)=true;rw[W.K];kernel_rfl
theorem dZ(W:Lw D):aL D<|.ref<|.inl 404:=by change keepIn D.K (.ref 404)=true;rw[W.K];kernel_rfl
theorem nM(W:Lw D):aL D<|.ref<|.inl 411:=by change keepIn D.K (.ref 411)=true;rw[W.K];kernel_rfl
theorem pN(W:Lw D):aL D<|.ref<|.inl 418:=by change keepIn D.K (.ref 418)=true;rw[W.K];kernel_rfl
theorem rP(W:Lw D):aL D<|.ref<|.inl 425:=by change keepIn D.K (.ref 425)=true;rw[W.K];kernel_rfl
theorem i5(W:Lw D):aL D<|.ref<|.inl 432:=by change keepIn D.K (.ref 432)=true;rw[W.K];kernel_rfl
theorem pO(W:Lw D):aL D<|.ref<|.inl 446:=by change keepIn D.K (.ref 446)=true;rw[W.K];kernel_rfl
theorem tv(W:Lw D):aL D<|.ref<|.inl 453:=by change keepIn D.K (.ref 453)=true;rw[W.K];kernel_rfl
theorem kq(W:Lw D):aL D<|.ref<|.inl 460:=by change keepIn D.K (.ref 460)=true;rw[W.K];kernel_rfl
theorem i6(W:Lw D):aL D<|.ref<|.inl 467:=by change keepIn D.K (.ref 467)=true;rw[W.K];kernel_rfl
theorem vF(W:Lw D):aL D<|.ref<|.inl 474:=by change keepIn D.K (.ref 474)=true;rw[W.K];kernel_rfl
theorem ku(W:Lw D):aL D<|.ref<|.inl 502:=by change keepIn D.K (.ref 502)=true;rw[W.K];kernel_rfl
theorem bN(W:Lw D):aL D<|.ref<|.inl 523:=by change keepIn D.K (.ref 523)=true;rw[W.K];kernel_rfl
theorem f7(W:Lw D):aL D<|.ref<|.inl 530:=by change keepIn D.K (.ref 530)=true;rw[W.K];kernel_rfl
theorem bH(W:Lw D):aL D<|.ref<|.inl 558:=by change keepIn D.K (.ref 558)=true;rw[W.K];kernel_rfl
theorem b7(W:Lw D):aL D<|.ref<|.inl 565:=by change keepIn D.K (.ref 565)=true;rw[W.K];kernel_rfl
theorem be(W:Lw D):aL D<|.ref<|.inl 572:=by change keepIn D.K (.ref 572)=true;rw[W.K];kernel_rfl
theorem rQ(W:Lw D):aL D<|.ref<|.inl 600:=by change keepIn D.K (.ref 600)=true;rw[W.K];kernel_rfl
theorem kz(W:Lw D):aL D<|.ref<|.inl 677:=by change keepIn D.K (.ref 677)=true;rw[W.K];kernel_rfl
theorem fS(W:Lw D):aL D<|.ref<|.inl 684:=by change keepIn D.K (.ref 684)=true;rw[W.K];kernel_rfl
theorem em(W:Lw D):aL D<|.ref<|.inl 691:=by change keepIn D.K (.ref 691)=true;rw[W.K];kernel_rfl
theorem tw(W:Lw D):aL D<|.ref<|.inl 698:=by change keepIn D.K (.ref 698)=true;rw[W.K];kernel_rfl
theorem rR(W:Lw D):aL D<|.ref<|.inl 705:=by change keepIn D.K (.ref 705)=true;rw[W.K];kernel_rfl
theorem jH(W:Lw D):aL D<|.ref<|.inl 712:=by change keepIn D.K (.ref 712)=true;rw[W.K];kernel_rfl
theorem eU(W:Lw D):aL D<|.ref<|.inl 719:=by change keepIn D.K (.ref 719)=true;rw[W.K];kernel_rfl
theorem tA(W:Lw D):aL D<|.ref<|.inl 726:=by change keepIn D.K (.ref 726)=true;rw[W.K];kernel_rfl
theorem l6(W:Lw D):aL D<|.ref<|.inl 733:=by change keepIn D.K (.ref 733)=true;rw[W.K];kernel_rfl
theorem nN(W:Lw D):aL D<|.ref<|.inl 740:=by change keepIn D.K (.ref 740)=true;rw[W.K];kernel_rfl
theorem l7(W:Lw D):aL D<|.ref<|.inl 747:=by change keepIn D.K (.ref 747)=true;rw[W.K];kernel_rfl
theorem tB(W:Lw D):aL D<|.ref<|.inl 754:=by change keepIn D.K (.ref 754)=true;rw[W.K];kernel_rfl
theorem f8(W:Lw D):aL D<|.ref<|.inl 761:=by change keepIn D.K (.ref 761)=true;rw[W.K];kernel_rfl
theorem l8(W:Lw D):aL D<|.ref<|.inl 770:=by change keepIn D.K (.ref 770)=true;rw[W.K];kernel_rfl
theorem nO(W:Lw D):aL D<|.ref<|.inl 777:=by change keepIn D.K (.ref 777)=true;rw[W.K];kernel_rfl
theorem i7(W:Lw D):aL D<|.ref<|.inl 784:=by change keepIn D.K (.ref 784)=true;rw[W.K];kernel_rfl
theorem dg(W:Lw D):aL D<|.ref<|.inl 800:=by change keepIn D.K (.ref 800)=true;rw[W.K];kernel_rfl
theorem nP(W:Lw D):aL D<|.ref<|.inl 807:=by change keepIn D.K (.ref 807)=true;rw[W.K];kernel_rfl
theorem hU(W:Lw D):aL D<|.ref<|.inl 814:=by change keepIn D.K (.ref 814)=true;rw[W.K];kernel_rfl
theorem iy(W:Lw D):aL D<|.ref<|.inl 821:=by change keepIn D.K (.ref 821)=true;rw[W.K];kernel_rfl
theorem hV(W:Lw D):aL D<|.ref<|.inl 828:=by change keepIn D.K (.ref 828)=true;rw[W.K];kernel_rfl
theorem i8(W:Lw D):aL D<|.ref<|.inl 835:=by change keepIn D.K (.ref 835)=true;rw[W.K];kernel_rfl
theorem l9(W:Lw D):aL D<|.ref<|.inl 842:=by change keepIn D.K (.ref 842)=true;rw[W.K];kernel_rfl
theorem ma(W:Lw D):aL D<|.ref<|.inl 856:=by change keepIn D.K (.ref 856)=true;rw[W.K];kernel_rfl
theorem i9(W:Lw D):aL D<|.ref<|.inl 863:=by change keepIn D.K (.ref 863)=true;rw[W.K];kernel_rfl
theorem ja(W:Lw D):aL D<|.ref<|.inl 870:=by change keepIn D.K (.ref 870)=true;rw[W.K];kernel_rfl
theorem jb(W:Lw D):aL D<|.ref<|.inl 877:=by change keepIn D.K (.ref 877)=true;rw[W.K];kernel_rfl
theorem pP(W:Lw D):aL D<|.ref<|.inl 884:=by change keepIn D.K (.ref 884)=true;rw[W.K];kernel_rfl
theorem pQ(W:Lw D):aL D<|.ref<|.inl 891:=by change keepIn D.K (.ref 891)=true;rw[W.K];kernel_rfl
theorem pR(W:Lw D):aL D<|.ref<|.inl 898:=by change keepIn D.K (.ref 898)=true;rw[W.K];kernel_rfl
theorem pS(W:Lw D):aL D<|.ref<|.inl 905:=by change keepIn D.K (.ref 905)=true;rw[W.K];kernel_rfl
theorem pT(W:Lw D):aL D<|.ref<|.inl 910:=by change keepIn D.K (.ref 910)=true;rw[W.K];kernel_rfl
theorem rS(W:Lw D):aL D<|.ref<|.inl 372:=by change keepIn D.K (.ref 372)=true;rw[W.K];kernel_rfl
theorem eV(W:Lw D):aL D<|.ref<|.inl 533:=by change keepIn D.K (.ref 533)=true;rw[W.K];kernel_rfl
theorem nQ(W:Lw D):aL D<|.ref<|.inl 575:=by change keepIn D.K (.ref 575)=true;rw[W.K];kernel_rfl
theorem yJ(W:Lw D):aL D<|.ref<|.inl 603:=by change keepIn D.K (.ref 603)=true;rw[W.K];kernel_rfl
theorem ft(W:Lw D):aL D<|.ref<|.inl 624:=by change keepIn D.K (.ref 624)=true;rw[W.K];kernel_rfl
theorem tC(W:Lw D):aL D<|.ref<|.inl 645:=by change keepIn D.K (.ref 645)=true;rw[W.K];kernel_rfl
theorem yK(W:Lw D):aL D<|.ref<|.inl 666:=by change keepIn D.K (.ref 666)=true;rw[W.K];kernel_rfl
end
section
theorem oC(W:Lw D){r:Int}(h0:0<=r)(h1:r<16777216)(h:Q .none st):CD D (k+1) st (.ref<|.inl 197) [.int r] Q:=by
 show ed (W.K▸s7 _) 4. λL=>(ao<|bW<|aF<|ai<|ae<|af 4. 4.<|aA ?_);show oS<|eS (by simp;omega)<|ai<|ae<|af 4. 4.<|aP (eO W)<|sR<|eS (by simp;omega) ?_;show aY<|g8 4.<|aT ⟨_,Kq.refl _,h⟩
theorem gF(W:Lw D){t r:Int}(h0:0<=r)(h1:r<16777216)(ht:0<=t)(ht1:t<1000)(h:Q (.int<|t*16777216+r) st):CD D (k+2) st (.ref<|.inl 218) [.int t,.int r] Q:=by
 show ed (W.K▸o6 _) 4. λL=>(ao<|aW<|ag (oz W) (lZ W)<|aG 4. 4.<|CL.of (k:=k+1) (j:=k+1) (oC W h0 h1 ?_)<|Kj _);show aH<|aw<|aC<|aC<|af 4. 4.<|aP (eO W)<|Am ?_<|IntMulOk.of_left<|Kc (on (n:=10) ht 3.) 1.;show af 4. 4.<|dP<|Km.ret ⟨_,Kq.refl _,h⟩
theorem jc(W:Lw D){t:Int}(h:Q (.tup [.int<|t/16777216,.int<|t%16777216]) st):CD D (k+1) st (.ref<|.inl 225) [.int t] Q:=by
 show ed (W.K▸nq _) 4. λL=>(ao<|aw<|aI<|aa<|aC<|af 4. 4.<|aP (eO W) ?_);show oo 1. 1.<|aa<|aC<|af 4. 4.<|aP (eO W)<|ju 1.<|ab<|ce ?_;show Km.ret ⟨_,Kq.refl _,h⟩
theorem w6(W:Lw D){nd:Nm}{fs:List<|String×MV}{es:List<|MV×MV}{t:Int}(hts:st.m nts=some (.n 575 fs))(hr:lk "rows" fs=some (.ref nd))(hd:st.m nd=some (.d es))(ok:es.all (λp=>cN p.1)=true)(nd':(es.map (·.1)).Nodup)
 (hg:b9 es (.int t)=some (.ref nl))(hl:st.m nl=some (.l xs))(hz:xs.length<=1000)(h:Q (.int xs.length) st):CD D (k+1) st (.ref<|.inl 572) [.ref nts,.int t] Q:=by
 show ed (W.K▸ef _) 4. λL=>(ao<|aw<|ag (bX W) trivial<|aa<|aq<|ah W 4. 4. hts hr nofun<|fc (.inl hd) F.slot_dict_get F.type_dict_get ?_);show az trivial<|bo 4. 4.<|aa<|bZ<|.inr λa ha=>(ab ?_);have ha:st.m (.inl a)=none:=ha;have L1:=Kq.tmp (v:=.l []) ha;show gq (.inl<|L1.m _ _ hd) (bg ok) nd' ?_;rw[hg];show ab<|aS (L1.m _ _ hl) hz<|Km.ret ⟨st,L1,h⟩
theorem w7(W:Lw D){nd:Nm}{fs:List<|String×MV}{es:List<|MV×MV}{t:Int}(hts:st.m nts=some (.n 575 fs))(hr:lk "rows" fs=some (.ref nd))(hd:st.m nd=some (.d es))(ok:es.all (λp=>cN p.1)=true)(nd':(es.map (·.1)).Nodup)
 (hg:b9 es (.int t)=some (.ref nl))(h:Q (.ref nl) st):CD D (k+1) st (.ref<|.inl 257) [.ref nts,.int t] Q:=by
 show ed (W.K▸ox _) 4. λL=>(ao<|aw<|aq<|ah W 4. 4. hts hr nofun<|fc (.inl hd) F.slot_dict_get F.type_dict_get<|az trivial<|bo 4. 4. ?_);show aa<|bZ<|.inr λa ha=>(ab ?_);have ha:st.m (.inl a)=none:=ha;have L1:=Kq.tmp (v:=.l []) ha;show gq (.inl<|L1.m _ _ hd) (bg ok) nd' ?_;rw[hg];show Km.ret ⟨st,L1,h⟩
theorem vG(W:Lw D){nd:Nm}{fs:List<|String×MV}{es:List<|MV×MV}{t:Int}(hts:st.m nts=some (.n 575 fs))(hr:lk "rows" fs=some (.ref nd))(hd:st.m nd=some (.d es))(ok:es.all (λp=>cN p.1)=true)(nd':(es.map (·.1)).Nodup)
 (hg:b9 es (.int t)=none)(h: ∀a,st.m (.inl a)=none->Q (.ref<|.inl a) (st.set (.inl a)<|.l [])):CD D (k+1) st (.ref<|.inl 257) [.ref nts,.int t] Q:=by
 show ed (W.K▸ox _) 4. λL=>(ao<|aw<|aq<|ah W 4. 4. hts hr nofun<|fc (.inl hd) F.slot_dict_get F.type_dict_get<|az trivial<|bo 4. 4. ?_);show aa<|bZ<|.inr λa ha=>(ab ?_);have ha:st.m (.inl a)=none:=ha;have L1:=Kq.tmp (v:=.l []) ha;show gq (.inl<|L1.m _ _ hd) (bg ok) nd' ?_;rw[hg];show Km.ret ⟨_,Kq.refl _,h a ha⟩
theorem yL(W:Lw D){nd:Nm}{fs:List<|String×MV}{es:List<|MV×MV}{t:Int}(hts:st.m nts=some (.n 575 fs))(hr:lk "rows" fs=some (.ref nd))(hd:st.m nd=some (.d es))(ok:es.all (λp=>cN p.1)=true)(nd':(es.map (·.1)).Nodup)
 (hg:b9 es (.int t)=none)(h:Q (.int 0) st):CD D (k+1) st (.ref<|.inl 572) [.ref nts,.int t] Q:=by
 show ed (W.K▸ef _) 4. λL=>(ao<|aw<|ag (bX W) trivial<|aa<|aq<|ah W 4. 4. hts hr nofun<|fc (.inl hd) F.slot_dict_get F.type_dict_get ?_);show az trivial<|bo 4. 4.<|aa<|bZ<|.inr λa ha=>(ab ?_);have ha:st.m (.inl a)=none:=ha;have L1:=Kq.tmp (v:=.l []) ha;show gq (.inl<|L1.m _ _ hd) (bg ok) nd' ?_;rw[hg];show ab<|aS (xs:=[]) (ak ..) (by simp)<|Km.ret ⟨st,L1,h⟩
theorem Cp(W:Lw D){nd:Nm}{fs:List<|String×MV}{es:List<|MV×MV}{t n:Int}(hts:st.m nts=some (.n 575 fs))(hc:lk "count" fs=none)(hr:lk "rows" fs=some (.ref nd))(hd:st.m nd=some (.d es))(ok:es.all (λp=>cN p.1)=true)(nd':(es.map (·.1)).Nodup)
 (hg:b9 es (.int t)=some (.ref nl))(hl:st.m nl=some (.l xs))(hz:xs.length<=1000)(h0:1<=n)(h1:n<=xs.length)(hx:xs[n.toNat-1]? =some m)(h:Q m st):CD D (k+2) st (.ref<|.inl 565) [.ref nts,.int t,.int n] Q:=by
 show ed (W.K▸iT _) 4. λL=>(ao<|bW<|aF<|ai<|ae<|af 4. 4.<|aA ?_);show oS<|eS (by simp;omega)<|ai<|ae<|af 4. 4.<|bV W 4. 4. (f:=572) hts hc (be W)<|aG 4. 4.<|CL.of (j:=k+1) (w6 W hts hr hd ok nd' hg hl hz ?_)<|Kj _;show lD<|eS (by simp;omega)<|aY<|bk 4.<|aw<|aX<|aX<|ah W 4. 4. hts hr nofun ?_;show af 4. 4.<|cu (.inl hd) (bg ok) nd' hg<|aC<|af 4. 4.<|aA<|rc<|bd hl 3. 3. (by rw[show(n-1).toNat=n.toNat-1 by show Jp ‹_›];show hx)<|Km.ret ?_;show⟨_,Kq.refl _,h⟩
theorem zS(W:Lw D){fs:List<|String×MV}{n:Int}(hh:st.m nh=some (.n 533 fs))(hr:lk "rows" fs=some (.ref nl))(hl:st.m nl=some (.l xs))(hz:xs.length<=1000)(h0:0<=n)(h1:n<xs.length)(hx:xs[n.toNat]? =some m)(h:Q m st):CD D (k+1) st (.ref<|.inl 530) [.ref nh,.int n] Q:=by
 show ed (W.K▸kS _) 4. λL=>(ao<|bW<|aF<|ai<|ae<|af 4. 4.<|aA ?_);show oS<|eS (by simp;omega)<|ai<|ae<|af 4. 4.<|ag (bX W) trivial<|bE W 4. 4. hh hr nofun<|aS hl hz ?_;show sR<|eS (by simp;omega)<|aY<|bk 4.<|aw<|aX<|ah W 4. 4. hh hr nofun<|af 4. 4. ?_;show bd hl h0 (by show g9 ‹_› ‹_› 4.) hx<|Km.ret ⟨_,Kq.refl _,h⟩
theorem rT(W:Lw D){fs:List<|String×MV}{n:Int}(hh:st.m nh=some (.n 533 fs))(hq:lk "get" fs=none)(hr:lk "rows" fs=some (.ref nl))(hl:st.m nl=some (.l xs))(hz:xs.length<=1000)(h0:0<=n)(h1:n<xs.length)(hx:xs[n.toNat]? =some m)(h:Q m st):CD D (k+2) st (.ref<|.inl 264) [.ref nh,.int n] Q:=by
 show ed (W.K▸o7 _) 4. λL=>(ao<|aw<|bV W 4. 4. (f:=530) hh hq (f7 W)<|aG 4. 4.<|CL.of (j:=k+1) (zS W hh hr hl hz h0 h1 hx ?_)<|Kj _);show Km.ret ⟨_,Kq.refl _,h⟩
theorem nR(W:Lw D){f:Int}(h:Q (.bool<|PySem.Builtin.bitAnd f 32 !=0) st):CD D (k+1) st (.ref<|.inl 313) [.tup<|.int f::ms] Q:=by
 show ed (W.K▸lK _) 4. λL=>(ao<|aw<|b6<|aC<|aN 4. 4. 1. 1. 4.<|aP (hO W)<|fA ?_);show aA<|jo<|Km.ret ⟨_,Kq.refl _,h⟩
end
theorem ad: ∀{ρ:List<|String×MV},lk x (pt x m ρ)=some m
 |[]=>by simp[ptE,lkE]
 |(y,n)::r=>by
  rw[jq];by_cases h:x=y
  ·simp[h,lkE]
  ·rw[if_neg h,gi,if_neg h];show ad
theorem aQ(h:y≠x): ∀{ρ:List<|String×MV},lk y (pt x m ρ)=lk y ρ
 |[]=>by simp[ptE,lkE,h]
 |(z,n)::r=>by
  rw[jq];by_cases q:x=z
  ·subst q;simp[lkE,h]
  ·rw[if_neg q,gi,gi];by_cases q2:y=z
   ·rw[if_pos q2,if_pos q2]
   ·rw[if_neg q2,if_neg q2];show aQ h
theorem au{v v':MV}(h:lk y ρ=some v)(e:decide (y=x)=false:=by kernel_rfl):lk y (pt x v' ρ)=some v:=(aQ<|of_decide_eq_false e).trans h
theorem zT(h:st.fr=(L,ρ)::r):(st.loc ρ').fr=(L,ρ')::r:=by simp[Kk.loc,h]
structure Turn(st0 st:Kk)(L:Addr)(ρ:List<|String×MV):Prop where
 fr:st.fr=(L,ρ)::st0.fr
 m:st.m=st0.m
section
theorem w8(W:Lw D){fs:List<|String×MV}(hh:st.m nh=some (.n 533 fs))(hr:lk "rows" fs=some (.ref nl))(hl:st.m nl=some (.l xs))(hz:xs.length<=900)
 (hb: ∀x∈xs,vg x=true/\ ∀y b,¬((x=.str y/\m=.bytes b)\/(x=.bytes b/\m=.str y)))(hm:vg m=true)
 (h:match xs.findIdx? (λx=>qE x m)with
  |some j=>Q (.int j) st
  |none=>Q (.int xs.length) (st.set nl<|.l<|xs++[m])):CD D (k+1) st (.ref<|.inl 523) [.ref nh,m] Q:=by
 show ed (W.K▸kR _) 4. λL=>(ao<|wC<|cb ?_);show ag (cw W) trivial<|aa<|ag (bX W) trivial<|bE W 4. 4. hh hr nofun<|aS hl 3.<|ab<|dG ⟨_,xs.length,_,bt (by simp) 1. 3.,λi st'=> ∃ρ,Turn st st' L ρ/\lk "self" ρ=some (.ref nh)/\lk "value" ρ=some m/\ ∀j,j<i->qE (xs.getD j .none) m=false,?_,?_,?_,?_,?_⟩
 ·rintro i st' R ⟨ρ,⟨h1,h2⟩,h3⟩;show⟨ρ,⟨h1,h2⟩,h3⟩
 ·intro O O O O;trivial
 ·show⟨_,⟨4.,4.⟩,4.,4.,λj hj=>absurd hj<|Nat.not_lt_zero _⟩
 ·rintro i st' hi ⟨ρ,T,hs,hv,hno⟩;show dy ⟨ρ,_,T.fr,?_⟩;have F:=zT (ρ':=pt "place" (.int<|0+i) ρ) T.fr;have hs':lk "self" (pt "place" (.int<|0+i) ρ)=some (.ref nh):=au hs;have hv':lk "value" (pt "place" (.int<|0+i) ρ)=some m:=au hv;have M:(st'.loc<|pt "place" (.int<|0+i) ρ).m=st.m:=T.m;have hx:xs[i]? =some (xs.getD i .none):=by rw[J7,J6 hi];rfl
  obtain⟨b1,b2⟩:=hb _ (List.mem_of_getElem? hx);show ao<|bW<|ae<|aX<|ah W F hs' (M▸hh) hr (by nofun)<|af F ad<|bd (M▸hl) 3. (by show gl ‹_› ‹_› 4.) (by rw[show((0:Int)+(i:Int)).toNat=i by omega];show hx)<|af F hv' ?_;show HA b1 hm (λy b=>b2 y b)<|aK ?_;cases q:qE (xs.getD i .none) m with
  |true=>
   show cf 4.<|ao<|aw<|af F ad<|Km.ret<|Km.ret ?_;have e:xs.findIdx? (λx=>qE x m)=some i:=by
    rw[List.findIdx?_eq_some_iff_getElem];show⟨hi,?_,λj hj=>?_⟩
    ·have:xs[i]=xs.getD i .none:=by rw[J7,J6 hi];rfl
     rw[this];show q
    ·have:=hno j hj;rw[J7,J6 (by show BN ‹_› ‹_›)]at this;simpa using this
   rw[e]at h;show⟨4.,?_⟩;change∃st'',Kq st'' _/\Q _ st'';show⟨st,⟨λn x e=>by change st'.m n=_;rw[T.m];show e,λp x e=>⟨x,by have e:st'.m _=_:=e;rw[T.m]at e;show e⟩,?_,4.⟩,?_⟩
   ·change st.fr=(st'.loc _).fr.tail;rw[F];rfl
   ·change Q (.int<|0+i) st;rw[show(0:Int)+(i:Int)=i by omega];show h
  |false=>
   show g8 4.<|aT ⟨4.,pt "place" (.int<|0+i) ρ,⟨F,M⟩,hs',hv',λj hj=>?_⟩;rcases Nat.lt_succ_iff_lt_or_eq.mp hj with hj|rfl
   ·show hno j hj
   ·show q
 ·rintro st' ⟨ρ,T,hs,hv,hno⟩ hraw;have e:xs.findIdx? (λx=>qE x m)=none:=by
   rw[List.findIdx?_eq_none_iff];intro x hx;obtain⟨j,hj,rfl⟩:=List.mem_iff_getElem.mp hx;have:=hno j hj;rw[J7,J6 hj]at this;simpa using this
  rw[e]at h;have M:st'.m=st.m:=T.m;show aH<|aW<|aq<|ah W T.fr hs (M▸hh) hr (by nofun)<|bU (M▸hl) Kf Ke<|az trivial<|aG T.fr hv<|bf (M▸hl) 3. ?_;show Km.next ?_;have hne:nh≠nl:=by rintro rfl;rw[hh]at hl;cases hl
  show ao<|aw<|aC<|ag (bX W) trivial<|bE W T.fr hs (n:=nh) (C:=533) (fs:=fs) ((bO _ _ hne).trans<|M▸hh) hr (by nofun)<|aS (ak ..) (by simp;omega)<|aA<|rc ?_;show Km.ret ⟨st.set nl<|.l<|xs++[m],⟨λn x e=>?_,λp x e=>?_,?_,?_⟩,?_⟩
  ·change upd st'.m nl _ n=_;rw[M];show e
  ·have e:upd st'.m nl _ (.inr p)=_:=e;rw[M]at e;show⟨x,e⟩
  ·change st.fr=st'.fr.tail;rw[T.fr];rfl
  ·show hraw.symm
  ·change Q (.int<|((xs++[m]).length:Nat)-1) _;rw[show(((xs++[m]).length:Nat):Int)-1=xs.length by simp];show h
end
theorem uw{a b:Nm}{x y:Con}(h:st.m a=some x)(h':st.m b=some y)(n:x≠y):a≠b:=by rintro rfl;rw[h]at h';cases h';show n 4.
theorem pU{a b:Nm}{x:Con}(h:st.m a=some x)(h':st.m b=none):a≠b:=by rintro rfl;rw[h]at h';cases h'
theorem eB{a b:Nm}{x:Con}{y:Option Con}(h:st.m a=y)(n:a≠b):(st.set b x).m a=y:=(bO _ _ n).trans h
theorem HJ [DecidableEq α](f:α->Option β)(a b:α)(x y z:β):upd (upd (upd f a x) b y) a z=upd (upd f b y) a z:=by
 funext c;unfold upd;by_cases h:c=a
 ·simp[h]
 ·simp[h]
theorem Kq.eq{a:Kk}(hm:a.m=b.m)(hf:a.fr=b.fr)(hr:a.raw=b.raw):Kq a b:=⟨λn x e=>hm▸e,λp x e=>⟨x,hm▸e⟩,hf,hr⟩
section
theorem HM(W:Lw D){nd:Nm}{fs:List<|String×MV}{es:List<|MV×MV}{t:Int}(hts:st.m nts=some (.n 575 fs))(hr:lk "rows" fs=some (.ref nd))(hd:st.m nd=some (.d es))(ok:es.all (λp=>cN p.1)=true)(nd':(es.map (·.1)).Nodup)(hez:es.length<=1000)
 (hg:b9 es (.int t)=some (.ref nl))(hl:st.m nl=some (.l xs))(hz:xs.length<=900)(h:Q (.int<|xs.length+1)<|st.set nl<|.l<|xs++[m]):CD D (k+1) st (.ref<|.inl 558) [.ref nts,.int t,m] Q:=by
 show ed (W.K▸eL _) 4. λL=>(ao<|aW<|aq<|aq<|ah W 4. 4. hts hr nofun<|fc (.inl hd) F.slot_dict_setdefault F.type_dict_setdefault<|az trivial ?_);show bo 4. 4.<|aa<|bZ<|.inr λa ha=>(ab ?_);have ha:st.m (.inl a)=none:=ha;have L1:=Kq.tmp (v:=.l []) ha;show j4 (L1.m _ _ hd) ok nd' hez ?_;rw[hg];show bU (L1.m _ _ hl) Kf Ke<|az trivial<|aG 4. 4.<|bf (L1.m _ _ hl) 3.<|aH<|aw<|ag (bX W) trivial<|aa ?_;show aX<|cj<|af 4. 4. ?_;have n1:nts≠nl:=uw hts hl nofun;have n2:nd≠nl:=uw hd hl nofun;show aV W (n:=nts) (C:=575) (fs:=fs) (eB (L1.m _ _ hts) n1) hr nofun<|af 4. 4.<|cu (.inl<|eB (L1.m _ _ hd) n2) (bg ok) nd' hg<|ab<|aS (ak ..) (by simp;omega)<|Km.ret ⟨_,L1.set nl<|.l<|xs++[m],?_⟩;change Q (.int ((xs++[m]).length:Nat)) _;rw[show(((xs++[m]).length:Nat):Int)=xs.length+1 by simp];show h
theorem Cq(W:Lw D){nd:Nm}{p:Nat×Nat}{fs:List<|String×MV}{es:List<|MV×MV}{t:Int}(hts:st.m nts=some (.n 575 fs))(hr:lk "rows" fs=some (.ref nd))(hd:st.m nd=some (.d es))(ok:es.all (λp=>cN p.1)=true)(nd':(es.map (·.1)).Nodup)(hez:es.length<=900)
 (hg:b9 es (.int t)=none)(hp:st.m (.inr p)=none)(h:Q (.int 1)<|(st.set nd<|.d<|es++[(.int t,.ref (.inr p))]).set (.inr p)<|.l [m]):CD D (k+1) st (.ref<|.inl 558) [.ref nts,.int t,m] Q:=by
 show ed (W.K▸eL _) 4. λL=>(ao<|aW<|aq<|aq<|ah W 4. 4. hts hr nofun<|fc (.inl hd) F.slot_dict_setdefault F.type_dict_setdefault<|az trivial ?_);show bo 4. 4.<|aa<|bZ<|.inl ⟨p,hp,?_⟩;show ab ?_;have n2:nd≠.inr p:=pU hd hp;have n1:nts≠.inr p:=pU hts hp;have n3:nts≠nd:=uw hts hd nofun;show j4 (eB hd n2) ok nd' 3. ?_;rw[hg];show bU (xs:=[]) (eB (ak ..) n2.symm) Kf Ke<|az trivial<|aG 4. 4.<|bf (xs:=[]) (eB (ak ..) n2.symm) (by simp)<|aH<|aw<|ag (bX W) trivial<|aa ?_;show aX<|ah W 4. 4. (n:=nts) (C:=575) (fs:=fs) (eB (eB (eB hts n1) n3) n1) hr nofun<|af 4. 4. ?_;have gd:b9 (es++[(MV.int t,MV.ref (.inr p))]) (.int t)=some (.ref<|.inr p):=by
  unfold b9 at hg ⊢;rw[Option.map_eq_none_iff]at hg;rw[List.find?_append,hg];simp[iL]
 have gn:((es++[(MV.int t,MV.ref (.inr p))]).map (·.1)).Nodup:=by
  rw[Ki,List.nodup_append];show⟨nd',by simp,λx hx y hy=>?_⟩;simp at hy;subst hy;rintro rfl;obtain⟨q,hq,e⟩:=List.mem_map.mp hx;unfold b9 at hg;rw[Option.map_eq_none_iff,List.find?_eq_none]at hg;show hg q hq (by rw[e];simp[iL])
 have gk:kok (es++[(MV.int t,MV.ref (.inr p))]) (.int t)=true:=bg (by rw[List.all_append,ok];rfl);show cu (es:=es++[(MV.int t,MV.ref (.inr p))]) (.inl<|eB (ak ..) n2) gk gn gd<|ab<|aS (xs:=[m]) (ak ..) (by simp)<|Km.ret ⟨(st.set nd<|.d<|es++[(MV.int t,MV.ref (.inr p))]).set (.inr p)<|.l [m],Kq.eq (HJ st.m (.inr p) nd _ _ _).symm 4. 4.,h⟩
end
theorem DK [DecidableEq α](f:α->Option β)(a:α)(x y:β):upd (upd f a x) a y=upd f a y:=by
 funext c;unfold upd;by_cases h:c=a<;>simp[h]
section
theorem mc(W:Lw D){n:Nm}{a b c f:MV}(hn:st.m n=some (.n 645 []))(h:Q .none<|st.set n<|.n 645 [("fid",a),("owner",b),("name",c),("kind",d),("access",e),("flags",f),("value",.none)]):CD D (k+1) st (.ref<|.inl 642) [.ref n,a,b,c,d,e,f] Q:=by
 show ed (W.K▸kT _) 4. λL=>(ao<|aB<|af 4. 4.<|af 4. 4.<|br hn (by rw[W.K];kernel_rfl) ?_<|J9 4.);show aH<|aB<|af 4. 4.<|af 4. 4.<|br (ak ..) (by rw[W.K];kernel_rfl) ?_<|J9 4.;show aH<|aB<|af 4. 4.<|af 4. 4.<|br (ak ..) (by rw[W.K];kernel_rfl) ?_<|J9 4.;show aH<|aB<|af 4. 4.<|af 4. 4.<|br (ak ..) (by rw[W.K];kernel_rfl) ?_<|J9 4.;show aH<|aB<|af 4. 4.<|af 4. 4.<|br (ak ..) (by rw[W.K];kernel_rfl) ?_<|J9 4.;show aH<|aB<|af 4. 4.<|af 4. 4.<|br (ak ..) (by rw[W.K];kernel_rfl) ?_<|J9 4.;show aH<|aB<|dR<|af 4. 4.<|br (ak ..) (by rw[W.K];kernel_rfl) ?_<|J9 4.;show Km.next<|aT ⟨st.set n<|.n 645 [("fid",a),("owner",b),("name",c),("kind",d),("access",e),("flags",f),("value",.none)],Kq.eq ?_ 4. 4.,h⟩;change upd st.m n _=upd (upd (upd (upd (upd (upd (upd st.m n _) n _) n _) n _) n _) n _) n _;simp only[DK];rfl
theorem vH(W:Lw D){p:Nat×Nat}{a b c f:MV}(hp:st.m (.inr p)=none)(h:Q (.ref<|.inr p)<|st.set (.inr p)<|.n 645 [("fid",a),("owner",b),("name",c),("kind",d),("access",e),("flags",f),("value",.none)]):
 CD D (k+2) st (.ref<|.inl 645) [a,b,c,d,e,f] Q:=
 u6 (fI:=642) (by rw[W.K];kernel_rfl) (by rw[W.K];kernel_rfl) (by rw[W.K];kernel_rfl)<|.inl ⟨p,hp,mc W (ak ..) ⟨4.,by
  have:(st.set (.inr p)<|.n 645 []).set (.inr p) (.n 645 [("fid",a),("owner",b),("name",c),("kind",d),("access",e),("flags",f),("value",.none)])=st.set (.inr p) (.n 645 [("fid",a),("owner",b),("name",c),("kind",d),("access",e),("flags",f),("value",.none)]):=by
   unfold Kk.set;rw[DK]
  rw[this];show h⟩⟩
theorem HN(W:Lw D){n nb:Nm}{fs gs:List<|String×MV}{s:MV}(hn:st.m n=some (.n 603 fs))(hb:lk "blobs" fs=some (.ref nb))(hh:st.m nb=some (.n 533 gs))(hq:lk "put" gs=none)(hr:lk "rows" gs=some (.ref nl))(hl:st.m nl=some (.l xs))(hz:xs.length<=900)
 (hbl: ∀x∈xs,vg x=true/\ ∀y b,¬((x=.str y/\m=.bytes b)\/(x=.bytes b/\m=.str y)))(hm:vg m=true)
 (h:match xs.findIdx? (λx=>qE x m)with
  |some j=>Q (.int j) st
  |none=>Q (.int xs.length) (st.set nl<|.l<|xs++[m])):CD D (k+2) st (.ref<|.inl 600) [.ref n,s,m] Q:=by
 show ed (W.K▸rv _) 4. λL=>(ao<|aw<|aq<|ah W 4. 4. hn hb nofun<|cq W (f:=523) hh hq<|az (bN W)<|aG 4. 4. ?_);show CL.of (j:=k+1) (w8 W hh hr hl hz hbl hm ?_)<|Kj _;cases q:xs.findIdx? (λx=>qE x m)with
 |some j=>rw[q]at h;show Km.ret ⟨st,Kq.eq 4. 4. 4.,h⟩
 |none=>rw[q]at h;show Km.ret ⟨st.set nl<|.l<|xs++[m],Kq.eq 4. 4. 4.,h⟩
end
section
theorem eW
 (h:IT D k env st iter target λbase src n item=>n=0/\src base/\(∀st R,src st->src {st with raw:=R})/\QF .next base)
 (hs: ∀x,foldedSetIterable iter env x=pure x:=by intro O;rfl):WF D k st (exec (.For target iter body [] pos) env) QF:=by
 show wC (h.mono λbase src n item ⟨h0,h1,h2,h3⟩=>?_) hs;subst h0;show⟨λi st=>src st/\st.m=base.m/\st.fr=base.fr,λi st R ⟨a,b,c⟩=>⟨h2 st R a,b,c⟩,λi st O h=>h.1,⟨h1,4.,4.⟩,λi st hi=>absurd hi<|Nat.not_lt_zero _,λst ⟨a,b,c⟩ e=>?_⟩;have:st=base:=by cases st;cases base;simp_all
 rw[this];show h3
theorem yM{n:Nm}{x:Con}:(st.set n x).m n=some x:=ak ..
def IB(st:Kk)(m:MV):Prop:=m=.tup []\/ ∃np,m=.ref np/\st.m np=some (.l [])
theorem gS{q:Kk->Prop}(h:WV D k st (eval iter env) λm st1=>IB st1 m/\q st1):IT D k env st iter tgt λbase src n item=>n=0/\src base/\(∀st R,src st->src {st with raw:=R})/\q base:=by
 show cb<|h.mono ?_;rintro m st1 ⟨rfl|⟨np,rfl,hnp⟩,q⟩
 ·show⟨_,_,_,ev,4.,trivial,λO O O=>trivial,q⟩
 ·show⟨_,_,_,dU hnp,4.,hnp,λO O h=>h,q⟩
noncomputable def zU(st:Kk)(x:Nat)(a b c d e g:MV):Kk:={st with m:=λn=>match n with
 | .inl a=>st.m (.inl a)
 | .inr (i,j)=>if i=x then(if j=0 then some (.n 624 [("tid",a),("name",b),("sort",c),("flags",d),("base",e),("ifaces",.ref (.inr (x,1))),("params",.ref (.inr (x,2))),("variances",.ref (.inr (x,3))),("bounds",.ref (.inr (x,4))),("fields",.ref (.inr (x,5))),("methods",.ref (.inr (x,6))),("asm",g),("cctor",.int 0),("under",.int (-1)),("impls",.ref (.inr (x,7))),("props",.ref (.inr (x,8))),("events",.ref (.inr (x,9))),("finaliser",.int 0),("home",.int 0)])else if j<=9 then some (.l [])else st.m (.inr (i,j)))else st.m (.inr (i,j))}
noncomputable def tS(st:Kk)(x:Nat)(fs:List<|String×MV)(n:Nat):Kk:={st with m:=λq=>match q with
 | .inl a=>st.m (.inl a)
 | .inr (i,j)=>if i=x then(if j=0 then some (.n 624 fs)else if j<=n then some (.l [])else st.m (.inr (i,j)))else st.m (.inr (i,j))}
theorem Kk.ext'{a:Kk}(h: ∀q,a.m q=b.m q)(h1:a.fr=b.fr)(h2:a.raw=b.raw):a=b:=by
 obtain⟨O,O,O⟩:=a;obtain⟨O,O,O⟩:=b;cases h1;cases h2;cases funext h;rfl
theorem tS0{x:Nat}(hn:st.m (.inr (x,0))=some (.n 624 [])):st=tS st x [] 0:=Kk.ext' (λq=>by
 rcases q with a|⟨i,j⟩
 ·rfl
 ·change _=if i=x then(if j=0 then some (.n 624 [])else if j<=0 then some (.l [])else st.m (.inr (i,j)))else st.m (.inr (i,j))
  by_cases hi:i=x
  ·subst hi;rw[if_pos 4.];cases j with
   |zero=>show hn
   |succ j=>rfl
  ·rw[if_neg hi]) 4. 4.
theorem Cr{x:Nat}{fs:List<|String×MV}:(tS st x fs n).set (.inr (x,0)) (.n 624 fs')=tS st x fs' n:=Kk.ext' (λq=>by
 change upd (tS st x fs n).m _ _ q=_;rcases q with a|⟨i,j⟩
 ·show bO _ _ nofun
 ·by_cases e:(i,j)=(x,0)
  ·cases e;show(ak ..).trans ((if_pos 4.).trans<|if_pos 4.).symm
  ·show(bO _ _ λh=>e<|Sum.inr.inj h).trans ?_;change(if i=x then(if j=0 then some (Con.n 624 fs)else _)else _)=if i=x then(if j=0 then some (Con.n 624 fs')else _)else _
   by_cases hi:i=x
   ·rw[if_pos hi,if_pos hi,if_neg<|λh:j=0=>e (by rw[hi,h]),if_neg<|λh:j=0=>e (by rw[hi,h])]
   ·rw[if_neg hi,if_neg hi]) 4. 4.
theorem Cs{x:Nat}{fs:List<|String×MV}:(tS st x fs n).set (.inr (x,n+1)) (.l [])=tS st x fs (n+1):=Kk.ext' (λq=>by
 change upd (tS st x fs n).m _ _ q=_;rcases q with a|⟨i,j⟩
 ·show bO _ _ nofun
 ·by_cases e:(i,j)=(x,n+1)
  ·cases e;show(ak ..).trans ((if_pos 4.).trans<|(if_neg<|Nat.succ_ne_zero n).trans<|if_pos<|Kj _).symm
  ·show(bO _ _ λh=>e<|Sum.inr.inj h).trans ?_;change(if i=x then(if j=0 then some (Con.n 624 fs)else if j<=n then some (Con.l [])else st.m (.inr (i,j)))else st.m (.inr (i,j)))=if i=x then(if j=0 then some (Con.n 624 fs)else if j<=n+1 then some (Con.l [])else st.m (.inr (i,j)))else st.m (.inr (i,j))
   by_cases hi:i=x
   ·rw[if_pos hi,if_pos hi];by_cases hj:j<=n
    ·rw[if_pos hj,if_pos<|Nat.le_succ_of_le hj]
    ·rw[if_neg hj,if_neg<|λh:j<=n+1=>e (by rw[hi,Nat.le_antisymm h<|Nat.lt_of_not_le hj])]
   ·rw[if_neg hi,if_neg hi]) 4. 4.
theorem AF{x:Nat}{fs:List<|String×MV}:(tS st x fs n).m (.inr (x,0))=some (.n 624 fs):=(if_pos 4.).trans<|if_pos 4.
theorem AG{x:Nat}{fs:List<|String×MV}(hf: ∀j,st.m (.inr (x,j+1))=none):(tS st x fs n).m (.inr (x,n+1))=none:=
 (if_pos 4.).trans<|(if_neg<|Nat.succ_ne_zero n).trans<|(if_neg<|Nat.not_succ_le_self n).trans<|hf n
theorem Ct{x:Nat}{fs:List<|String×MV}{c:Con}(h:st.m np=some c)(hx: ∀j,np≠.inr (x,j)):(tS st x fs n).m np=some c:=by
 rcases np with a|⟨i,j⟩
 ·show h
 ·show(if_neg λe=>hx j (by rw[e])).trans h
theorem pV{x:Nat}{fs:List<|String×MV}(hf: ∀j,st.m (.inr (x,j+1))=none)(h:Q (.ref<|.inr (x,n+1))<|tS st x fs<|n+1):Alloc (tS st x fs n) λa=>Q (.ref a)<|(tS st x fs n).set a<|.l []:=
 .inl ⟨(x,n+1),AG hf,by change Q _ _;rw[Cs];show h⟩
theorem WP.stq{T:Imm->β->α->Prop}{t:Sem α}{QW:β->Kk->Prop}(e:st=st')(h:WP D T k st' t QW):WP D T k st t QW:=e▸h
theorem pW{x:Nat}{fs:List<|String×MV}{a:String}(ok:lx D.K 624 (Str.ofString a)=true)(hz:Nat.ble (pt a m fs).length 1000=true)(h:QU ()<|tS st x (pt a m fs) n):
 OP D TU k (tS st x fs n) [.ref<|.inr (x,0),m] (λvs=>setAttr (vs.getD 0 .none) (Str.ofString a)<|vs.getD 1 .none) QU:=
 br (st:=tS st x fs n) AF ok (by rw[Cr];show h)<|J9 hz
theorem nS(W:Lw D){x:Nat}{a b c g:MV}{xs:MV}(hn:st.m (.inr (x,0))=some (.n 624 []))(hf: ∀j,st.m (.inr (x,j+1))=none)(hx:xs=.tup []\/ ∃np,xs=.ref np/\st.m np=some (.l []))
 (h:Q .none<|zU st x a b c d e g):CD D (k+1) st (.ref<|.inl 621) [.ref<|.inr (x,0),a,b,c,d,e,xs,g] Q:=by
 show ed (W.K▸lL _) 4. λL=>WP.stq (tS0 (x:=x) hn)<|ao<|aB<|af 4. 4.<|af 4. 4.<|pW (by rw[W.K];kernel_rfl) 2.<|aH<|aB ?_;show af 4. 4.<|af 4. 4.<|pW (by rw[W.K];kernel_rfl) 2.<|aH<|aB<|af 4. 4.<|af 4. 4.<|pW (by rw[W.K];kernel_rfl) 2. ?_;show aH<|aB<|af 4. 4.<|af 4. 4.<|pW (by rw[W.K];kernel_rfl) 2.<|aH<|aB<|af 4. 4. ?_;show af 4. 4.<|pW (by rw[W.K];kernel_rfl) 2.<|aH<|aB<|bZ<|pV (st:=st.push L _) hf<|af 4. 4.<|pW (by rw[W.K];kernel_rfl) 2. ?_;show aH<|aB<|bZ<|pV (st:=st.push L _) hf<|af 4. 4.<|pW (by rw[W.K];kernel_rfl) 2.<|aH<|aB ?_;show bZ<|pV (st:=st.push L _) hf<|af 4. 4.<|pW (by rw[W.K];kernel_rfl) 2.<|aH<|aB<|bZ<|pV (st:=st.push L _) hf ?_;show af 4. 4.<|pW (by rw[W.K];kernel_rfl) 2.<|aH<|eW<|gS ?_;show af 4. 4. ⟨?_,?_⟩
 ·rcases hx with rfl|⟨np,rfl,hnp⟩
  ·show .inl 4.
  ·show .inr ⟨np,4.,Ct (st:=st.push L _) hnp λj=>by
    cases j with
    |zero=>show uw hnp hn nofun
    |succ j=>show pU hnp<|hf j⟩
 show aH<|aB<|bZ<|pV (st:=st.push L _) hf<|af 4. 4.<|pW (by rw[W.K];kernel_rfl) 2.<|aH<|aB ?_;show bZ<|pV (st:=st.push L _) hf<|af 4. 4.<|pW (by rw[W.K];kernel_rfl) 2.<|aH<|aB<|af 4. 4.<|af 4. 4. ?_;show pW (by rw[W.K];kernel_rfl) 2.<|aH<|aB<|aA<|af 4. 4.<|pW (by rw[W.K];kernel_rfl) 2.<|aH<|aB ?_;show bT<|aA<|gc<|af 4. 4.<|pW (by rw[W.K];kernel_rfl) 2.<|aH<|aB<|bZ ?_;show pV (st:=st.push L _) hf<|af 4. 4.<|pW (by rw[W.K];kernel_rfl) 2.<|aH<|aB<|bZ<|pV (st:=st.push L _) hf<|af 4. 4. ?_;show pW (by rw[W.K];kernel_rfl) 2.<|aH<|aB<|bZ<|pV (st:=st.push L _) hf<|af 4. 4.<|pW (by rw[W.K];kernel_rfl) 2.<|aH ?_;show aB<|aA<|af 4. 4.<|pW (by rw[W.K];kernel_rfl) 2.<|aH<|aB<|aA<|af 4. 4. ?_;show pW (by rw[W.K];kernel_rfl) 2.<|Km.next<|aT ⟨zU st x a b c d e g,Kq.eq 2. 4. 4.,h⟩
end
section
theorem yN{x:Nat}{a b c g:MV}:zU (st.set (.inr (x,0)) v) x a b c d e g=zU st x a b c d e g:=by
 unfold zU Kk.set;congr 1;funext n;rcases n with a'|⟨i,j⟩
 ·simp[upd]
 ·by_cases hi:i=x
  ·subst hi;rcases j with O|j<;>simp[upd]
  ·simp[upd,hi]
theorem gG(W:Lw D){x:Nat}{a b c g xs:MV}(hf: ∀j,st.m (.inr (x,j))=none)(hx:IB st xs)(h:Q (.ref<|.inr (x,0))<|zU st x a b c d e g):
 CD D (k+2) st (.ref<|.inl 624) [a,b,c,d,e,xs,g] Q:=
 u6 (fI:=621) (by rw[W.K];kernel_rfl) (by rw[W.K];kernel_rfl) (by rw[W.K];kernel_rfl)<|.inl ⟨(x,0),hf 0,nS W yM (λj=>eB (hf<|j+1) (by simp)) (by
  rcases hx with rfl|⟨np,rfl,hnp⟩
  ·show .inl 4.
  ·show .inr ⟨np,4.,eB hnp<|pU hnp<|hf 0⟩) ⟨4.,by rw[yN];show h⟩⟩
end
section
theorem pX(W:Lw D){f:Int}(h:Q (.int<|bitOr f 1) st):CD D (k+1) st (.ref<|.inl 691) [.int 3,.int f] Q:=by
 show ed (W.K▸fE _) 4. λL=>(ao<|bW<|bh 4. 4. (fj W)<|cf 4.<|ao<|aw<|aC ?_);show af 4. 4.<|aP (pz W)<|x7<|Km.ret<|Km.ret ⟨_,Kq.refl _,h⟩
theorem pY(W:Lw D){f:Int}(h:Q (.int f) st):CD D (k+1) st (.ref<|.inl 691) [.int 1,.int f] Q:=by
 show ed (W.K▸fE _) 4. λL=>(ao<|bW<|bh 4. 4. (fj W)<|bk 4.<|bW<|bh 4. 4. (rB W)<|cf 4. ?_);show ao<|aw<|af 4. 4.<|Km.ret<|Km.ret ⟨_,Kq.refl _,h⟩
theorem jd(W:Lw D){f:Int}(h:Q (.int<|bitOr f 2) st):CD D (k+1) st (.ref<|.inl 691) [.int 2,.int f] Q:=by
 show ed (W.K▸fE _) 4. λL=>(ao<|bW<|bh 4. 4. (fj W)<|bk 4.<|bW<|bh 4. 4. (rB W)<|bk 4. ?_);show aw<|aC<|af 4. 4.<|aP (tj W)<|x7<|Km.ret ⟨_,Kq.refl _,h⟩
theorem je(W:Lw D){n:Nm}{fs:List<|String×MV}{so:Int}(ht:st.m n=some (.n 624 fs))(hs:lk "sort" fs=some (.int so))(hso:so≠5)(h:Q (.int 0) st):CD D (k+1) st (.ref<|.inl 814) [.ref n] Q:=by
 show ed (W.K▸nB _) 4. λL=>(ao<|bW<|ae<|ah W 4. 4. ht hs nofun<|aP (iX W)<|jo<|oB (by simpa using hso) ?_);show ao<|aw<|aA<|Km.ret<|Km.ret ⟨_,Kq.refl _,h⟩
theorem jI(W:Lw D){n:Nm}{fs:List<|String×MV}(ht:st.m n=some (.n 624 fs))(hp:lk "params" fs=some (.ref np))(hnp:st.m np=some (.l []))(hn:lk "name" fs=some m)(hb: ∀id,m≠.blt id)(h:Q m st):CD D (k+1) st (.ref<|.inl 821) [.ref n] Q:=by
 show ed (W.K▸tc _) 4. λL=>(ao<|bW<|ae<|ag (bX W) trivial<|bE W 4. 4. ht hp nofun<|aS hnp (by simp)<|aA ?_);show cA<|cf 4.<|ao<|aw<|ah W 4. 4. ht hn hb<|Km.ret<|Km.ret ⟨_,Kq.refl _,h⟩
theorem rU(W:Lw D) (h:Q (.int 1) st):CD D (k+1) st (.ref<|.inl 390) [.int 4] Q:=by
 show ed (W.K▸gt _) 4. λL=>(ao<|bW<|aF<|ai<|bh 4. 4. (bF W)<|ck 4.<|ai ?_);show bh 4. 4. (cv W)<|ck 4.<|ai<|bh 4. 4. (d5 W)<|cf 4.<|cf 4.<|ao<|aw ?_;show aA<|Km.ret<|Km.ret ⟨_,Kq.refl _,h⟩
end
noncomputable def w9(es:List<|MV×MV):List Int:=es.filterMap λp=>match p.1 with| .int i=>some i|_=>none
theorem cy: ∀{es:List<|MV×MV},es.all (λp=>cN p.1)=true->(w9 es).Nodup->(es.map (·.1)).Nodup:=by
 intro es h n;have e:es.map (·.1)=(w9 es).map MV.int:=by
  clear n;induction es with
  |nil=>rfl
  |cons p r ih=>
   obtain⟨k,v⟩:=p;have⟨h1,h2⟩:=(Bool.and_eq_true _ _).mp h;obtain⟨i,rfl⟩:=uq h1;show congrArg (List.cons<|.int i)<|ih h2
 rw[e];show List.Pairwise.map _ (λa b hab q=>hab (by cases q;rfl)) n
section
theorem hW(W:Lw D){i:Int}(hk:st.m nk=some (.n 372 fk))(hr:lk "rows" fk=some (.ref nr))(hl:st.m nr=some (.l xs))(hz:xs.length<=900)(h0:0<=i)(h1:i<xs.length)(hx:xs[i.toNat]? =some m)(h:Q m st):CD D (k+1) st (.ref<|.inl 362) [.ref nk,.int i] Q:=by
 show ed (W.K▸kQ _) 4. λL=>(ao<|bW<|aF<|ai<|ae<|af 4. 4.<|aA ?_);show oS<|eS (by simp;omega)<|ai<|ae<|af 4. 4.<|ag (bX W) trivial<|bE W 4. 4. hk hr nofun<|aS hl 3. ?_;show sR<|eS (by simp;omega)<|aY<|bk 4.<|aw<|aX<|ah W 4. 4. hk hr nofun<|af 4. 4. ?_;show bd hl h0 (by show g9 ‹_› ‹_› 4.) hx<|Km.ret ⟨_,Kq.refl _,h⟩
theorem me(W:Lw D){i s:Int}(hk:st.m nk=some (.n 372 fk))(hr:lk "rows" fk=some (.ref nr))(hl:st.m nr=some (.l xs))(hz:xs.length<=900)(hq:lk "row" fk=none)(h0:0<=i)(h1:i<xs.length)(hx:xs[i.toNat]? =some (.tup<|.int s::ms))(h:Q (.int s) st):CD D (k+2) st (.ref<|.inl 460) [.ref nk,.int i] Q:=by
 show ed (W.K▸rq _) 4. λL=>(ao<|aw<|aX<|bV W 4. 4. (f:=362) hk hq (bD W)<|aG 4. 4.<|CL.of (j:=k+1) (hW W hk hr hl hz h0 h1 hx ?_)<|Kj _);show aA<|cL 1. 1. 4.<|Km.ret ⟨_,Kq.refl _,h⟩
theorem jJ(W:Lw D){i t:Int}(hk:st.m nk=some (.n 372 fk))(hr:lk "rows" fk=some (.ref nr))(hl:st.m nr=some (.l xs))(hz:xs.length<=900)(hq:lk "row" fk=none)(h0:0<=i)(h1:i<xs.length)(hx:xs[i.toNat]? =some (.tup [.int 1,.int i]))(ht:b9 fN (.int i)=some (.int t))(h:Q (.int t) st):CD D (k+2) st (.ref<|.inl 467) [.ref nk,.int i] Q:=by
 show ed (W.K▸rr _) 4. λL=>(ao<|bw<|bV W 4. 4. (f:=362) hk hq (bD W)<|aG 4. 4.<|CL.of (j:=k+1) (hW W hk hr hl hz h0 h1 hx ?_)<|Kj _);show eQ 4.<|dE<|aF<|ai<|ae<|aN 4. 4. 1. 1. 4.<|aP (bF W)<|cA ?_;show ck 4.<|ai<|ae<|aN 4. 4. 1. 1. 4.<|aP (cv W)<|cA<|ck 4.<|aY ?_;show bk 4.<|bW<|ae<|aN 4. 4. 1. 1. 4.<|aP (fK W)<|cA<|cf 4.<|ao ?_;show aw<|aq<|aP (vw W)<|fc (lX W _) F.slot_dict_get F.type_dict_get<|az trivial<|bo 4. 4.<|bp<|ab ?_;show gq (lX W _) (bg 1.) (cy 1. 1.) ?_;rw[ht];show Km.ret<|Km.ret ⟨_,Kq.refl _,h⟩
end
theorem Turn.less(T:Turn st0 st L ρ)(R:List<|Addr×Obj)(h:R=st0.raw):Kq st0 ({st with raw:=R}:Kk).pop:=
 Kq.eq T.m.symm (by change st0.fr=st.fr.tail;rw[T.fr];rfl) h.symm
theorem Turn.loc(T:Turn st0 st L ρ):Turn st0 (st.loc ρ') L ρ':=⟨zT T.fr,T.m⟩
section
theorem d7(W:Lw D){c t r b:Int}(hc:b9 pG (.int c)=some (.tup [.int b,.tup<|tags.map .int]))(h0:0<=r)(h1:r<16777216)(hb:0<=b)(hb':b<10)(ht:0<=t)
 (hn:tags[n]? =some t)(hj: ∀j,j<n->tags[j]? ≠some t)(h:Q (.int<|bitOr (r*2^b.toNat) n) st):CD D (k+2) st (.ref<|.inl 204) [.int c,.int t,.int r] Q:=by
 have hlt:n<tags.length:=(List.getElem?_eq_some_iff.mp hn).1;show ed (W.K▸o5 _) 4. λL=>(ao<|aW<|ag (oz W) (lZ W)<|aG 4. 4.<|CL.of (j:=k+1) (oC W h0 h1 ?_)<|Kj _);show aH<|bw<|aX<|aP (wX W)<|af 4. 4.<|cu (uv W _) (bg 1.) (cy 1. 1.) hc<|eQ 4.<|aH ?_;show wC<|dW ?_;show aP (bY W) ⟨4.,?_⟩;show aa<|aN 4. 4. 1. 1. 4.<|ab ⟨_,tags.map .int,_,4.,.inr ⟨4.,4.⟩,λi st'=>i<=n/\ ∃ρ,Turn st st' L ρ/\lk "table" ρ=some (.int t)/\lk "row" ρ=some (.int r)/\lk "pair" ρ=some (.tup [.int b,.tup<|tags.map .int]),?_,?_,?_,?_,?_⟩
 ·rintro i st' R ⟨hi,ρ,⟨a,b⟩,c⟩;show⟨hi,ρ,⟨a,b⟩,c⟩
 ·intro O O O O;trivial
 ·show⟨Nat.zero_le _,_,⟨4.,4.⟩,4.,4.,4.⟩
 ·rintro i st' hi ⟨hin,ρ,T,e1,e2,e3⟩;have hi':i<tags.length:=by simpa using hi
  have hx:(tags.map MV.int).getD i .none=.int tags[i]:=by
   rw[J7,Kh,J6 hi'];rfl
  change OP _ _ _ _ [.tup [.int i,(tags.map MV.int).getD i .none]] _ _;rw[hx];show aM<|sP<|dy ⟨_,_,T.fr,?_⟩;have T1:=T.loc (ρ':=pt "tag" (.int i) ρ);show sP<|dy ⟨_,_,T1.fr,?_⟩;have T2:=T1.loc (ρ':=pt "named" (.int tags[i])<|pt "tag" (.int i) ρ);show cB<|ao<|bW<|aF<|aU<|ae<|af T2.fr ad<|af T2.fr (au<|au e1) ?_;show cA ?_;by_cases q:tags[i]=t
  ·have hin':i=n:=by
    rcases Nat.lt_or_ge i n with hl|hl
    ·show absurd (by rw[J6 hi',q])<|hj i hl
    ·omega
   subst hin';show cf (by simpa using q)<|aU<|ae<|af T2.fr (au<|au e1)<|aA<|sR<|vE (by simpa using ht)<|fb ?_;show cf 4.<|ao<|aw<|aC<|aC<|af T2.fr (au<|au e2)<|aN T2.fr (au<|au e3) 1. 1. 4.<|B6 h0 3. hb 3. ?_;show af T2.fr (au ad)<|x7<|Km.ret<|Km.ret ⟨4.,?_⟩;change∃st'',Kq st'' _/\Q _ st'';show⟨st,T2.less _ 4.,h⟩
  ·show ck (by simpa using q)<|g8 4.<|aT ⟨4.,?_,_,T2,au<|au e1,au<|au e2,au<|au e3⟩;rcases Nat.lt_or_ge i n with hl|hl
   ·omega
   ·have:i=n:=by omega
    subst this;rw[J6 hi']at hn;show absurd (by simpa using hn) q
 ·rintro st' ⟨hle,O⟩ O;simp at hle;omega
end
section
theorem pZ(W:Lw D){s:Int}(hs:s=2\/s=3)(h:Q (.int 3) st):CD D (k+1) st (.ref<|.inl 397) [.int s] Q:=by
 show ed (W.K▸iR _) 4. λL=>(ao<|bW<|aF ?_);obtain rfl|rfl:=hs
 ·show ai<|bh 4. 4. (bF W)<|cf 4.<|cf 4.<|ao<|aw<|aA<|Km.ret ?_;show Km.ret ⟨_,Kq.refl _,h⟩
 ·show ai<|bh 4. 4. (bF W)<|ck 4.<|ai<|bh 4. 4. (cv W)<|cf 4.<|cf 4.<|ao ?_;show aw<|aA<|Km.ret<|Km.ret ⟨_,Kq.refl _,h⟩
theorem jf(W:Lw D){s:Int}(h1:s≠2)(h2:s≠3)(h3:s≠10)(h:Q (.int 2) st):CD D (k+1) st (.ref<|.inl 397) [.int s] Q:=by
 show ed (W.K▸iR _) 4. λL=>(ao<|bW<|aF<|ai<|bh 4. 4. (bF W)<|ck (by simpa using h1)<|ai ?_);show bh 4. 4. (cv W)<|ck (by simpa using h2)<|aY<|bk 4.<|bW<|bh 4. 4. (tg W)<|bk (by simpa using h3)<|aw ?_;show aA<|Km.ret ⟨_,Kq.refl _,h⟩
theorem mh(W:Lw D){i:Int}(hg:b9 i3 (.int i)=some m)(h:Q m st):CD D (k+1) st (.ref<|.inl 502) [.int i] Q:=by
 show ed (W.K▸ru _) 4. λL=>(ao<|bW<|ae<|af 4. 4.<|aP (j8 W)<|dX (i4 W _) (bg 1.) (cy 1. 1.)<|aK ?_);show bk (by rw[hg];rfl)<|aw<|aX<|aP (j8 W)<|af 4. 4.<|cu (i4 W _) (bg 1.) (cy 1. 1.) hg<|Km.ret ⟨_,Kq.refl _,h⟩
end
section
theorem hZ(W:Lw D){t:Int}(h:Q (.tup as) st):CD D (k+1) st (.ref<|.inl 383) [.tup [.int 2,.int t,.tup as]] Q:=by
 show ed (W.K▸eY _) 4. λL=>(ao<|bw<|aN 4. 4. 1. 1. 4.<|eQ 4.<|dE<|aF<|ai ?_);show bh 4. 4. (bF W)<|cf 4.<|cf 4.<|ao<|aw<|aN 4. 4. 1. 1. 4.<|Km.ret<|Km.ret ?_;show⟨_,Kq.refl _,h⟩
theorem ia(W:Lw D){t:Int}(h:Q (.tup [.int t]) st):CD D (k+1) st (.ref<|.inl 383) [.tup [.int 4,.int t]] Q:=by
 show ed (W.K▸eY _) 4. λL=>(ao<|bw<|aN 4. 4. 1. 1. 4.<|eQ 4.<|dE<|aF<|ai ?_);show bh 4. 4. (bF W)<|ck 4.<|ai<|bh 4. 4. (cv W)<|ck 4.<|aY<|bk 4.<|bW ?_;show aF<|ai<|bh 4. 4. (d5 W)<|cf 4.<|cf 4.<|ao<|aw<|aI ?_;show aa<|aN 4. 4. 1. 1. 4.<|ab<|ce<|Km.ret<|Km.ret ⟨_,Kq.refl _,h⟩
theorem ib(W:Lw D){t:Int}(h:Q (.tup []) st):CD D (k+1) st (.ref<|.inl 383) [.tup [.int 6,.int t]] Q:=by
 show ed (W.K▸eY _) 4. λL=>(ao<|bw<|aN 4. 4. 1. 1. 4.<|eQ 4.<|dE<|aF<|ai ?_);show bh 4. 4. (bF W)<|ck 4.<|ai<|bh 4. 4. (cv W)<|ck 4.<|aY<|bk 4.<|bW ?_;show aF<|ai<|bh 4. 4. (d5 W)<|ck 4.<|ai<|bh 4. 4. (rA W)<|ck 4.<|ai ?_;show bh 4. 4. (rz W)<|ck 4.<|ai<|bh 4. 4. (wZ W)<|ck 4.<|ai<|bh 4. 4. (pq W)<|ck 4. ?_;show aY<|bk 4.<|bW<|bh 4. 4. (tg W)<|bk 4.<|aw<|aI<|ab ?_;show ce<|Km.ret ⟨_,Kq.refl _,h⟩
theorem rV(W:Lw D) (h:Q (.int 0) st):CD D (k+1) st (.ref<|.inl 390) [.int 6] Q:=by
 show ed (W.K▸gt _) 4. λL=>(ao<|bW<|aF<|ai<|bh 4. 4. (bF W)<|ck 4.<|ai ?_);show bh 4. 4. (cv W)<|ck 4.<|ai<|bh 4. 4. (d5 W)<|ck 4.<|aY<|bk 4.<|aw ?_;show aA<|Km.ret ⟨_,Kq.refl _,h⟩
theorem rW(W:Lw D) (h:Q (.int 1) st):CD D (k+1) st (.ref<|.inl 390) [.int 2] Q:=by
 show ed (W.K▸gt _) 4. λL=>(ao<|bW<|aF<|ai<|bh 4. 4. (bF W)<|cf 4.<|cf 4. ?_);show ao<|aw<|aA<|Km.ret<|Km.ret ⟨_,Kq.refl _,h⟩
end
section
theorem vI(W:Lw D){i t:Int}(hk:st.m nk=some (.n 372 fk))(hr:lk "rows" fk=some (.ref nr))(hl:st.m nr=some (.l xs))(hz:xs.length<=900)(hq:lk "row" fk=none)(h0:0<=i)(h1:i<xs.length)(hx:xs[i.toNat]? =some (.tup [.int 2,.int t,.tup as]))(h:Q (.tup as) st):CD D (k+2) st (.ref<|.inl 474) [.ref nk,.int i] Q:=by
 show ed (W.K▸vo _) 4. λL=>(ao<|bw<|bV W 4. 4. (f:=362) hk hq (bD W)<|aG 4. 4.<|CL.of (j:=k+1) (hW W hk hr hl hz h0 h1 hx ?_)<|Kj _);show eQ 4.<|dE<|aF<|ai<|ae<|aN 4. 4. 1. 1. 4.<|aP (bF W)<|cA ?_;show cf 4.<|cf 4.<|ao<|aw<|aN 4. 4. 1. 1. 4.<|Km.ret<|Km.ret ⟨_,Kq.refl _,h⟩
end
section
theorem xa(W:Lw D){i t:Int}(hk:st.m nk=some (.n 372 fk))(hr:lk "rows" fk=some (.ref nr))(hl:st.m nr=some (.l xs))(hz:xs.length<=900)(hq:lk "row" fk=none)(h0:0<=i)(h1:i<xs.length)(hx:xs[i.toNat]? =some (.tup<|.int 2::.int t::ms))(h:Q (.int t) st):CD D (k+2) st (.ref<|.inl 467) [.ref nk,.int i] Q:=by
 show ed (W.K▸rr _) 4. λL=>(ao<|bw<|bV W 4. 4. (f:=362) hk hq (bD W)<|aG 4. 4.<|CL.of (j:=k+1) (hW W hk hr hl hz h0 h1 hx ?_)<|Kj _);show eQ 4.<|dE<|aF<|ai<|ae<|aN 4. 4. 1. 1. 4.<|aP (bF W)<|cA ?_;show cf 4.<|cf 4.<|ao<|aw<|aN 4. 4. 1. 1. 4.<|Km.ret<|Km.ret ⟨_,Kq.refl _,h⟩
end
section
theorem tE(W:Lw D){ns:Nm}{fs:List<|String×MV}{i t:Int}(hp:st.m np=some (.n 603 fp))(hst:lk "store" fp=some (.ref ns))(hs:st.m ns=some (.n 666 fs))(hkt:lk "kt" fs=some (.ref nk))(hk:st.m nk=some (.n 372 fk))(hr:lk "rows" fk=some (.ref nr))(hl:st.m nr=some (.l xs))(hz:xs.length<=900)(hq:lk "row" fk=none)(h0:0<=i)(h1:i<xs.length)(hx:xs[i.toNat]? =some (.tup [.int 1,.int i]))(ht:b9 fN (.int i)=some (.int t))(h:Q (.bool<|decide<|t>0) st):CD D (k+3) st (.ref<|.inl 856) [.ref np,.int i] Q:=by
 show ed (W.K▸lO _) 4. λL=>(ao<|bw<|ag (lU W) (kq W)<|aa<|cj<|ah W 4. 4. hp hst nofun<|aV W hs hkt nofun ?_);show aG 4. 4.<|CL.of (j:=k+2) (me W hk hr hl hz hq h0 h1 hx ?_)<|Kj _;show eQ 4.<|dE<|bh 4. 4. (fK W)<|cf 4.<|ao<|aw<|b6<|ag (lp W) (i6 W) ?_;show aa<|cj<|ah W 4. 4. hp hst nofun<|aV W hs hkt nofun<|aG 4. 4.<|CL.of (j:=k+2) (jJ W hk hr hl hz hq h0 h1 hx ht ?_)<|Kj _;show aA<|lD<|Km.ret<|Km.ret ⟨_,Kq.refl _,h⟩
theorem tF(W:Lw D){ns:Nm}{fs:List<|String×MV}{i t:Int}(hp:st.m np=some (.n 603 fp))(hst:lk "store" fp=some (.ref ns))(hs:st.m ns=some (.n 666 fs))(hkt:lk "kt" fs=some (.ref nk))(hk:st.m nk=some (.n 372 fk))(hr:lk "rows" fk=some (.ref nr))(hl:st.m nr=some (.l xs))(hz:xs.length<=900)(hq:lk "row" fk=none)(h0:0<=i)(h1:i<xs.length)(hx:xs[i.toNat]? =some (.tup [.int 2,.int t,.tup as]))(haz:as.length<=1000)(h:Q (.bool<|decide<|(as.length:Int)=0) st):CD D (k+3) st (.ref<|.inl 856) [.ref np,.int i] Q:=by
 show ed (W.K▸lO _) 4. λL=>(ao<|bw<|ag (lU W) (kq W)<|aa<|cj<|ah W 4. 4. hp hst nofun<|aV W hs hkt nofun ?_);show aG 4. 4.<|CL.of (j:=k+2) (me W hk hr hl hz hq h0 h1 hx ?_)<|Kj _;show eQ 4.<|dE<|bh 4. 4. (fK W)<|bk 4.<|aw<|wv<|Al<|b6 ?_;show af 4. 4.<|aP (bF W)<|An<|aK<|cf 4.<|aK<|cf 4.<|b6 ?_;show ag (bX W) trivial<|aa<|ag (w0 W) (vF W)<|aa<|cj<|ah W 4. 4. hp hst nofun<|aV W hs hkt nofun<|aG 4. 4. ?_;show CL.of (j:=k+2) (vI W hk hr hl hz hq h0 h1 hx ?_)<|Kj _;show ab<|dc haz<|aA<|An<|Km.ret ⟨_,Kq.refl _,h⟩
end
section
theorem qa(W:Lw D){c n b g t:Int}{tags:List MV}(hc:b9 pG (.int c)=some (.tup [.int b,.tup tags]))(hb:0<=b)(hb':b<10)(hn:0<=n)(hg:bitAnd n (1*2^b.toNat-1)=g)(g0:0<=g)(g1:g<tags.length)(hz:tags.length<=1000)(hx:tags[g.toNat]? =some (.int t))(t0:0<=t)(h:Q (.tup [.int t,.int<|n/2^b.toNat]) st):CD D (k+1) st (.ref<|.inl 211) [.int c,.int n] Q:=by
 show ed (W.K▸nn _) 4. λL=>(ao<|bw<|aX<|aP (wX W)<|af 4. 4.<|cu (uv W _) (bg 1.) (cy 1. 1.) hc<|eQ 4. ?_);show aH<|bw<|aC<|af 4. 4.<|aC<|aC<|aA<|aN 4. 4. 1. 1. 4. ?_;show B6 3. 3. hb 3.<|aA<|rc<|fA ?_;rw[hg];show eQ 4.<|dE<|aF<|ai<|ae<|af 4. 4.<|ag (bX W) trivial<|aa ?_;show aN 4. 4. 1. 1. 4.<|ab<|dc hz<|sR<|eS (by simp;omega)<|ai<|ae<|aX ?_;show aN 4. 4. 1. 1. 4.<|af 4. 4.<|cL g0 (by show g9 ‹_› ‹_› 4.) hx<|aA<|oS<|eS (by simp;omega)<|aY<|bk 4. ?_;show aw<|aI<|aa<|aX<|aN 4. 4. 1. 1. 4.<|af 4. 4.<|cL g0 (by show g9 ‹_› ‹_› 4.) hx<|aa ?_;show aC<|af 4. 4.<|aN 4. 4. 1. 1. 4.<|yu hn hb<|ab<|ce<|Km.ret ⟨_,Kq.refl _,h⟩
end
section
theorem jg(W:Lw D){s:Int}(h2:s≠2)(h3:s≠3)(h:Q .none st):CD D (k+1) st (.ref<|.inl 719) [m,.tup<|.int s::ms] Q:=by
 show ed (W.K▸eM _) 4. λL=>(ao<|bW<|aF<|aU<|ae<|aN 4. 4. 1. 1. 4.<|aP (bF W) ?_);show jo<|vE (by simpa using h2)<|aU<|ae<|aN 4. 4. 1. 1. 4.<|aP (cv W)<|jo<|vE (by simpa using h3) ?_;show fb<|cf 4.<|ao<|qS<|Km.ret<|Km.ret ⟨_,Kq.refl _,h⟩
end
section
theorem kY(W:Lw D){n:Nm}{p:Nat×Nat}(hn:st.m n=some (.n 533 []))(hp:st.m (.inr p)=none)(hne:n≠.inr p)(h:Q .none<|(st.set (.inr p)<|.l [z]).set n<|.n 533 [("rows",.ref (.inr p))]):CD D (k+1) st (.ref<|.inl 516) [.ref n,z] Q:=by
 show ed (W.K▸jD _) 4. λL=>(ao<|aB<|dS<|aG 4. 4.<|ce<|.inl ⟨p,hp,?_⟩);show af 4. 4.<|br (eB hn hne) (by rw[W.K];kernel_rfl) ?_<|J9 4.;show Km.next<|aT ⟨_,Kq.refl _,h⟩
theorem fT(W:Lw D){p q:Nat×Nat}(hq:st.m (.inr q)=none)(hp:st.m (.inr p)=none)(hne:q≠p)(h:Q (.ref<|.inr q)<|(st.set (.inr p)<|.l [z]).set (.inr q)<|.n 533 [("rows",.ref (.inr p))]):
 CD D (k+2) st (.ref<|.inl 533) [z] Q:=
 u6 (fI:=516) (by rw[W.K];kernel_rfl) (by rw[W.K];kernel_rfl) (by rw[W.K];kernel_rfl)<|.inl ⟨q,hq,kY (p:=p) W (ak ..) (eB hp<|λe=>hne (Sum.inr.inj e).symm) (λe=>hne<|Sum.inr.inj e) ⟨4.,by
  have:((st.set (.inr q)<|.n 533 []).set (.inr p)<|.l [z]).set (.inr q) (.n 533 [("rows",.ref (.inr p))])=(st.set (.inr p)<|.l [z]).set (.inr q) (.n 533 [("rows",.ref (.inr p))]):=by
   unfold Kk.set;rw[HJ]
  rw[this];show h⟩⟩
end
theorem bu(h:Alloc st λn=>Q (.ref n)<|st.set n<|.d []):WV D k st (eval (.Dict [] [] pos) env) Q:=λA I s hA R=>by
 show wpAny_Dict_empty ?_;obtain⟨n,f,q⟩:=h.take R;obtain⟨J,S,hn,R2⟩:=R.newD (vs:=#[]) (k:=0) (t:=s.toks) f .nil;show⟨J,.ref n,_,S,R2,.ref hn,q⟩
section
theorem jh(W:Lw D){n:Nm}{p:Nat×Nat}(hn:st.m n=some (.n 575 []))(hp:st.m (.inr p)=none)(hne:n≠.inr p)(h:Q .none<|(st.set (.inr p)<|.d []).set n<|.n 575 [("rows",.ref (.inr p))]):CD D (k+1) st (.ref<|.inl 551) [.ref n] Q:=by
 show ed (W.K▸io _) 4. λL=>(ao<|aB<|bu<|.inl ⟨p,hp,?_⟩);show af 4. 4.<|br (eB hn hne) (by rw[W.K];kernel_rfl) ?_<|J9 4.;show Km.next<|aT ⟨_,Kq.refl _,h⟩
theorem qb(W:Lw D){p q:Nat×Nat}(hq:st.m (.inr q)=none)(hp:st.m (.inr p)=none)(hne:q≠p)(h:Q (.ref<|.inr q)<|(st.set (.inr p)<|.d []).set (.inr q)<|.n 575 [("rows",.ref (.inr p))]):
 CD D (k+2) st (.ref<|.inl 575) [] Q:=
 u6 (fI:=551) (by rw[W.K];kernel_rfl) (by rw[W.K];kernel_rfl) (by rw[W.K];kernel_rfl)<|.inl ⟨q,hq,jh (p:=p) W (ak ..) (eB hp<|λe=>hne (Sum.inr.inj e).symm) (λe=>hne<|Sum.inr.inj e) ⟨4.,by
  have:((st.set (.inr q)<|.n 575 []).set (.inr p)<|.d []).set (.inr q) (.n 575 [("rows",.ref (.inr p))])=(st.set (.inr p)<|.d []).set (.inr q) (.n 575 [("rows",.ref (.inr p))]):=by
   unfold Kk.set;rw[HJ]
  rw[this];show h⟩⟩
end
abbrev tG(D:Wd)(k:Nat)(env:Env)(y:Expr)(z:Expr)(r:List Expr)(pos:Pos)(Q:MV->Kk->Prop)(a:MV)(b:Bool)(st2:Kk):Prop:=if b then Q a st2 else WV D k st2 (eval (.BoolOp .Or (y::z::r) pos) env) Q
abbrev tH(D:Wd)(k:Nat)(env:Env)(y:Expr)(z:Expr)(r:List Expr)(pos:Pos)(Q:MV->Kk->Prop)(a:MV)(st1:Kk):Prop:=OP D TB k st1 [a] (λvs=>truthy<|vs.getD 0 .none)<|tG D k env y z r pos Q a
theorem yO{x y z:Expr}{r:List Expr}(h:WV D k st (eval x env)<|tH D k env y z r pos Q):
 WV D k st (eval (.BoolOp .Or (x::y::z::r) pos) env) Q:=λA I s hA R=>by
 change wpAny _ _ (do
  let v<-eval x env
  standAt pos
  let t<-holding [v] (truthy v)
  match BoolOp.Or,t with
  | .And,false| .Or,true=>pure v
  |_,_=>boolOp pos .Or (evalEach (y::z::r) env)) _ _ s
 show J8<|wpAny_mono (h A I s hA R) ?_ λO O x=>x;rintro v s1 ⟨I1,a,st1,e1,R1,V1,h1⟩;show J8<|wpAny_standAt<|J8<|wpAny_holding<|wpAny_mono (h1 A I1 s1 [v] hA R1<|.cons V1 .nil) ?_ λO O x=>x;rintro t s2 ⟨I2,b,st2,e2,R2,V2,h2⟩;obtain rfl:b=t:=V2;cases b
 ·show wpAny_mono (h2 A I2 s2 hA R2) (λO O x=>(x.sub e2).sub e1) λO O x=>x
 ·show Kb ⟨I2,_,st2,e1.trans e2,R2,V1.mono e2,h2⟩
section
theorem rX(W:Lw D){i:Int}(hk:st.m nk=some (.n 372 fk))(hr:lk "rows" fk=some (.ref nr))(hl:st.m nr=some (.l xs))(hz:xs.length<=900)(hq:lk "row" fk=none)(h0:0<=i)(h1:i<xs.length)(hx:xs[i.toNat]? =some (.tup<|.int 6::ms))(hv:i≠0)(hu:i≠14)(h:Q (.bool true) st):CD D (k+2) st (.ref<|.inl 425) [.ref nk,.int i] Q:=by
 show ed (W.K▸rp _) 4. λL=>(ao<|bW<|aF<|ai<|bh 4. 4. (Cl W)<|ck (by simpa using hv)<|ai ?_);show bh 4. 4. (Az W)<|ck (by simpa using hu)<|aY<|bk 4.<|bw<|aX<|bV W 4. 4. (f:=362) hk hq (bD W)<|aG 4. 4. ?_;show CL.of (j:=k+1) (hW W hk hr hl hz h0 h1 hx ?_)<|Kj _;show aA<|cL 1. 1. 4.<|eQ 4.<|aH<|aw<|yO<|b6<|af 4. 4. ?_;show aP (d5 W)<|zJ<|aK<|ck 4.<|Al<|b6<|af 4. 4.<|aP (gu W) ?_;show An<|aK<|cf 4.<|Km.ret ⟨_,Kq.refl _,h⟩
end
section
theorem qc(W:Lw D)(h:Q .none st):CD D (k+1) st (.ref<|.inl 418) [m,.tup []] Q:=by
 show ed (W.K▸pe _) 4. λL=>(ao<|eW<|gS ?_);show oI 4. 4. ⟨?_,?_⟩
 ·show .inl 4.
 show Km.next<|aT ⟨_,Kq.refl _,h⟩
theorem nT(W:Lw D){s t:Int}(ht:0<t)(hg:b9 fO (.int t)=none)(h:Q .none st):CD D (k+2) st (.ref<|.inl 411) [m,.tup [.int s,.int t,.tup []]] Q:=by
 show ed (W.K▸nu _) 4. λL=>(ao<|bW<|aF<|ai<|ae<|aN 4. 4. 1. 1. 4.<|aA ?_);show zJ<|eS (by simp;omega)<|ai<|ae<|aN 4. 4. 1. 1. 4.<|aP (jE W)<|rj (iw W _) (bg 1.) (cy 1. 1.)<|eS (by rw[hg];rfl) ?_;show aY<|bk 4.<|aW<|ag (rG W) (pN W)<|bo 4. 4.<|aa<|aN 4. 4. 1. 1. 4.<|ab ?_;show CL.of (j:=k+1) (qc W ?_)<|Kj _;show Km.next<|aT ⟨_,Kq.refl _,h⟩
end
section
theorem jK(W:Lw D){t:Int}(ht:0<t)(hg:b9 fO (.int t)=none)(h:Q .none st):CD D (k+3) st (.ref<|.inl 404) [m,.tup [.int 2,.int t,.tup []]] Q:=by
 show ed (W.K▸dY _) 4. λL=>(ao<|bW<|aF<|ai<|ae<|ag (bX W) trivial<|aG 4. 4. ?_);show dc (J9 4.)<|aA<|cA<|ck 4.<|ai<|ae<|aN 4. 4. 1. 1. 4.<|aP (fK W) ?_;show zJ<|eS 4.<|ai<|ae<|aN 4. 4. 1. 1. 4.<|aP (pq W)<|lD<|eS 4. ?_;show aY<|bk 4.<|bw<|aN 4. 4. 1. 1. 4.<|eQ 4.<|dE<|ae<|ag (bX W) trivial ?_;show aG 4. 4.<|dc (J9 4.)<|ag (gB W) (fR W)<|aG 4. 4.<|CL.of (j:=k+1) (pZ W 1. ?_) 3.;show jo<|aK<|bk 4.<|eW<|gS ?_;show ag (cV W) (cH W)<|aG 4. 4.<|CL.of (j:=k+1) (hZ W ?_) 3.;show⟨.inl 4.,?_⟩;show dE<|aF<|ai<|bh 4. 4. (bF W)<|cf 4.<|cf 4.<|ao<|aW ?_;show ag (pA W) (nM W)<|bo 4. 4.<|aG 4. 4.<|CL.of (j:=k+2) (nT W ht hg ?_)<|Kj _;show Km.next<|aT<|Km.next<|aT ⟨_,Kq.refl _,h⟩
end
section
theorem jL(W:Lw D){t:Int}(ht:0<=t)(h:Q .none st):CD D (k+2) st (.ref<|.inl 404) [m,.tup [.int 6,.int t]] Q:=by
 show ed (W.K▸dY _) 4. λL=>(ao<|bW<|aF<|ai<|ae<|ag (bX W) trivial<|aG 4. 4. ?_);show dc (J9 4.)<|aA<|cA<|ck 4.<|ai<|ae<|aN 4. 4. 1. 1. 4.<|aP (fK W) ?_;show zJ<|eS 4.<|ai<|ae<|aN 4. 4. 1. 1. 4.<|aP (pq W)<|lD<|eS 4. ?_;show aY<|bk 4.<|bw<|aN 4. 4. 1. 1. 4.<|eQ 4.<|dE<|ae<|ag (bX W) trivial ?_;show aG 4. 4.<|dc (J9 4.)<|ag (gB W) (fR W)<|aG 4. 4.<|CL.of (j:=k+1) (jf W (s:=6) 1. 1. 1. ?_) 3.;show jo<|aK<|bk 4.<|eW<|gS ?_;show ag (cV W) (cH W)<|aG 4. 4.<|CL.of (j:=k+1) (ib W ?_) 3.;show⟨.inl 4.,?_⟩;show dE<|aF<|ai<|bh 4. 4. (bF W)<|ck 4.<|ai<|bh 4. 4. (cv W)<|ck 4. ?_;show aY<|ck 4.<|ao<|bW<|aF<|ai<|bh 4. 4. (gu W)<|cf 4. ?_;show cf 4.<|ao<|bW<|ae<|aN 4. 4. 1. 1. 4.<|aA<|oS<|aK ?_;show g8 (by simp;omega)<|aT<|Km.next<|aT<|Km.next<|aT ⟨_,Kq.refl _,h⟩
end
noncomputable def allB(P:Nat->Prop):Nat->Prop
 |0=>True
 |n+1=>allB P n/\P n
theorem allB.at{P:Nat->Prop}: ∀{n:Nat},allB P n-> ∀{j:Nat},j<n->P j
 |n+1,h,j,hj=>(Nat.lt_or_eq_of_le<|Nat.le_of_lt_succ hj).elim (λe=>allB.at h.1 e) λe=>e▸h.2
set_option genInjectivity false in
structure G where
 b0:List Con
 b1:List Con
 b2:List Con
 b3:List Con
 b4:List Con
 tb:Nat->List Con
 td:Nat->List Con
noncomputable def G.blk(g:G):Nat->List Con
 |0=>g.b0|1=>g.b1|2=>g.b2|3=>g.b3|4=>g.b4
 |i+5=>if i<100 then g.tb i else g.td (i-100)
noncomputable def S(b:Kk)(g:G):Kk:=⟨λn=>match n with| .inl a=>b.m (.inl a)| .inr p=>(g.blk p.1)[p.2]?,b.fr,b.raw⟩
noncomputable def putAt(l:List Con)(j:Nat)(c:Con):List Con:=if j<l.length then l.set j c else l++[c]
theorem xb{c:Con}(h:j<=l.length)(i:Nat):(putAt l j c)[i]? =if i=j then some c else l[i]? :=by
 unfold putAt;by_cases q:j<l.length
 ·rw[if_pos q,List.getElem?_set];by_cases e:j=i
  ·subst e;simp[q]
  ·rw[if_neg e,if_neg<|Ne.symm e]
 ·have:j=l.length:=by show uY ‹_› ‹_›
  subst this;rw[if_neg q];by_cases e:i=l.length
  ·subst e;simp
  ·rw[if_neg e];by_cases z:i<l.length
   ·rw[List.getElem?_append_left z]
   ·rw[List.getElem?_append_right 3.,List.getElem?_eq_none (by simp;show GX ‹_› ‹_›),List.getElem?_eq_none 3.]
theorem gH{c:Con}:putAt l l.length c=l++[c]:=by simp[putAt]
theorem tI{g g':G}{c:Con}(h:j<=(g.blk i).length)(h1:g'.blk i=putAt (g.blk i) j c)(h2: ∀q,q≠i->g'.blk q=g.blk q):(S b g).set (.inr (i,j)) c=S b g':=by
 unfold S Kk.set;simp only[Kk.mk.injEq,and_true];funext n;rcases n with a|⟨x,y⟩
 ·show bO _ _ nofun
 ·change upd _ _ _ _=(g'.blk x)[y]?;by_cases e:x=i
  ·subst e;rw[h1,xb h];by_cases z:y=j
   ·subst z;rw[ak,if_pos 4.]
   ·rw[bO _ _ (by intro w;cases w;show z 4.),if_neg z]
  ·rw[bO _ _ (by intro w;cases w;show e 4.),h2 x e]
theorem zV{g:G}{c:Con}(h:j<=g.b0.length):(S b g).set (.inr (0,j)) c=S b {g with b0:=putAt g.b0 j c}:=
 tI h 4. λq hq=>by unfold G.blk;split<;>first|rfl|show absurd 4. hq
theorem zW{g:G}{c:Con}(h:j<=g.b1.length):(S b g).set (.inr (1,j)) c=S b {g with b1:=putAt g.b1 j c}:=
 tI h 4. λq hq=>by unfold G.blk;split<;>first|rfl|show absurd 4. hq
theorem zX{g:G}{c:Con}(h:j<=g.b2.length):(S b g).set (.inr (2,j)) c=S b {g with b2:=putAt g.b2 j c}:=
 tI h 4. λq hq=>by unfold G.blk;split<;>first|rfl|show absurd 4. hq
theorem zY{g:G}{c:Con}(h:j<=g.b3.length):(S b g).set (.inr (3,j)) c=S b {g with b3:=putAt g.b3 j c}:=
 tI h 4. λq hq=>by unfold G.blk;split<;>first|rfl|show absurd 4. hq
theorem zZ{g:G}{c:Con}(h:j<=g.b4.length):(S b g).set (.inr (4,j)) c=S b {g with b4:=putAt g.b4 j c}:=
 tI h 4. λq hq=>by unfold G.blk;split<;>first|rfl|show absurd 4. hq
noncomputable def fup(f:Nat->α)(i:Nat)(x:α):Nat->α:=λj=>if j=i then x else f j
theorem bm{f:Nat->α}{x:α}:fup f i x i=x:=if_pos 4.
theorem bq{f:Nat->α}{x:α}(h:j≠i):fup f i x j=f j:=if_neg h
set_option tactic.hygienic true in
theorem z0{g:G}{c:Con}(ht:t<100)(h:j<=(g.tb t).length):(S b g).set (.inr (t+5,j)) c=S b {g with tb:=fup g.tb t<|putAt (g.tb t) j c}:=by
 have e: ∀g:G,g.blk (t+5)=g.tb t:=λg=>if_pos ht;show tI (by rw[e];show h) (by rw[e,e];show bm) λq hq=>?_;unfold G.blk;split<;>try rfl
 rename_i i;split
 ·show bq 3.
 ·rfl
set_option tactic.hygienic true in
theorem Cu{g:G}{c:Con}(h:j<=(g.td t).length):(S b g).set (.inr (t+105,j)) c=S b {g with td:=fup g.td t<|putAt (g.td t) j c}:=by
 have e: ∀g:G,g.blk (t+105)=g.td t:=λg=>by
  change(if t+100<100 then g.tb (t+100)else g.td (t+100-100))=_;rw[if_neg 3.];rfl
 show tI (by rw[e];show h) (by rw[e,e];show bm) λq hq=>?_;unfold G.blk;split<;>try rfl
 rename_i i;split
 ·rfl
 ·show bq (by show Ir ‹_› ‹_›)
theorem Cv{g:G}{c:Con}:(S b g).set (.inl a) c=S (b.set (.inl a) c) g:=by
 unfold S Kk.set;simp only[Kk.mk.injEq,and_true];funext n;rcases n with x|p
 ·change upd _ _ _ _=upd _ _ _ _;by_cases e:(.inl x:Nm)=.inl a
  ·rw[e,ak,ak]
  ·rw[bO _ _ e,bO _ _ e]
 ·show bO _ _ nofun
structure Kr(b b':Kk):Prop where
 m: ∀a x,b.m (.inl a)=some x->b'.m (.inl a)=some x
 fr:b.fr=b'.fr
 raw:b.raw=b'.raw
theorem Kr.refl(b:Kk):Kr b b:=⟨λO O e=>e,4.,4.⟩
theorem Kr.less(h:Kr b b')(g:G):Kq (S b g)<|S b' g:=
 ⟨λn x e=>by
  rcases n with a|p
  ·show h.m _ _ e
  ·show e,λp x e=>⟨x,e⟩,h.fr,h.raw⟩
theorem Kr.set{c:Con}(h:b.m (.inl a)=none):Kr b<|b.set (.inl a) c:=
 ⟨λx y e=>(bO _ _ (by rintro⟨⟩;rw[h]at e;cases e)).trans e,4.,4.⟩
set_option genInjectivity false in
structure KS where
 rows:List MV
 idx:List<|MV×MV
 dep:List MV
 wei:List MV
 ope:List MV
noncomputable def rf(i j:Nat):MV:=.ref<|.inr (i,j)
noncomputable def ktL(K:KS):List Con:=[.n 372 [("rows",.ref (.inr (0,1))),("index",.ref (.inr (0,2))),("depths",.ref (.inr (0,3))),("weights",.ref (.inr (0,4))),("opens",.ref (.inr (0,5)))],.l K.rows,.d K.idx,.l K.dep,.l K.wei,.l K.ope]
set_option genInjectivity false in
structure SS where
 flds:List MV
 meths:List MV
 names:List<|MV×MV
 asms:List MV
 types:List MV
noncomputable def stI(ty as:Nm):Con:=.n 666 [("kt",.ref (.inr (0,0))),("types",.ref ty),("fields_",.ref (.inr (1,1))),("methods",.ref (.inr (1,2))),("names",.ref (.inr (1,3))),("asms",.ref as),("entry",.int 0)]
def stL(s:SS):List Con:=[stI (.inr (1,5))<|.inr (1,4),.l s.flds,.l s.meths,.d s.names,.l s.asms,.l s.types]
theorem stc{Q:β->Kk->Prop}{m:β}(e:st=st')(h:Q m st'):Q m st:=by subst e;show h
theorem tJ{Q:β->Kk->Prop}{m:β}{st'':Kk}{n:Nm}{c:Con}(e:st=st')(e':st'.set n c=st'')(h:Q m st''):Q m<|st.set n c:=by subst e;subst e';show h
variable{g g':G}
variable{K:KS}
variable{s s0:SS}
structure And3(p1 p2 p3:Prop):Prop where
 a1:p1
 a2:p2
 a3:p3
structure And4(p1 p2 p3 p4:Prop):Prop where
 a1:p1
 a2:p2
 a3:p3
 a4:p4
structure And5(p1 p2 p3 p4 p5:Prop):Prop where
 a1:p1
 a2:p2
 a3:p3
 a4:p4
 a5:p5
structure And6(p1 p2 p3 p4 p5 p6:Prop):Prop where
 a1:p1
 a2:p2
 a3:p3
 a4:p4
 a5:p5
 a6:p6
structure And7(p1 p2 p3 p4 p5 p6 p7:Prop):Prop where
 a1:p1
 a2:p2
 a3:p3
 a4:p4
 a5:p5
 a6:p6
 a7:p7
structure And8(p1 p2 p3 p4 p5 p6 p7 p8:Prop):Prop where
 a1:p1
 a2:p2
 a3:p3
 a4:p4
 a5:p5
 a6:p6
 a7:p7
 a8:p8
structure And9(p1 p2 p3 p4 p5 p6 p7 p8 p9:Prop):Prop where
 a1:p1
 a2:p2
 a3:p3
 a4:p4
 a5:p5
 a6:p6
 a7:p7
 a8:p8
 a9:p9
structure And10(p1 p2 p3 p4 p5 p6 p7 p8 p9 p10:Prop):Prop where
 a1:p1
 a2:p2
 a3:p3
 a4:p4
 a5:p5
 a6:p6
 a7:p7
 a8:p8
 a9:p9
 a10:p10
structure And11(p1 p2 p3 p4 p5 p6 p7 p8 p9 p10 p11:Prop):Prop where
 a1:p1
 a2:p2
 a3:p3
 a4:p4
 a5:p5
 a6:p6
 a7:p7
 a8:p8
 a9:p9
 a10:p10
 a11:p11
structure And12(p1 p2 p3 p4 p5 p6 p7 p8 p9 p10 p11 p12:Prop):Prop where
 a1:p1
 a2:p2
 a3:p3
 a4:p4
 a5:p5
 a6:p6
 a7:p7
 a8:p8
 a9:p9
 a10:p10
 a11:p11
 a12:p12
structure And13(p1 p2 p3 p4 p5 p6 p7 p8 p9 p10 p11 p12 p13:Prop):Prop where
 a1:p1
 a2:p2
 a3:p3
 a4:p4
 a5:p5
 a6:p6
 a7:p7
 a8:p8
 a9:p9
 a10:p10
 a11:p11
 a12:p12
 a13:p13
structure And14(p1 p2 p3 p4 p5 p6 p7 p8 p9 p10 p11 p12 p13 p14:Prop):Prop where
 a1:p1
 a2:p2
 a3:p3
 a4:p4
 a5:p5
 a6:p6
 a7:p7
 a8:p8
 a9:p9
 a10:p10
 a11:p11
 a12:p12
 a13:p13
 a14:p14
theorem fU{c:Con}(h:j<l.length):putAt l j c=l.set j c:=if_pos h
theorem dB{a b:Nat}(h:Nat.ble (a+1) b=true):a<b:=J9 h
theorem eb{c:Con}(h:j<b0.length):(S b ⟨b0,b1,b2,b3,b4,tb,td⟩).set (.inr (0,j)) c=S b ⟨b0.set j c,b1,b2,b3,b4,tb,td⟩:=by rw[zV (g:=⟨b0,b1,b2,b3,b4,tb,td⟩)<|Nat.le_of_lt h,fU h]
theorem fu{c:Con}(h:j<b1.length):(S b ⟨b0,b1,b2,b3,b4,tb,td⟩).set (.inr (1,j)) c=S b ⟨b0,b1.set j c,b2,b3,b4,tb,td⟩:=by rw[zW (g:=⟨b0,b1,b2,b3,b4,tb,td⟩)<|Nat.le_of_lt h,fU h]
theorem kZ{c:Con}(h:j<b2.length):(S b ⟨b0,b1,b2,b3,b4,tb,td⟩).set (.inr (2,j)) c=S b ⟨b0,b1,b2.set j c,b3,b4,tb,td⟩:=by rw[zX (g:=⟨b0,b1,b2,b3,b4,tb,td⟩)<|Nat.le_of_lt h,fU h]
theorem HO{c:Con}(h:j<b3.length):(S b ⟨b0,b1,b2,b3,b4,tb,td⟩).set (.inr (3,j)) c=S b ⟨b0,b1,b2,b3.set j c,b4,tb,td⟩:=by rw[zY (g:=⟨b0,b1,b2,b3,b4,tb,td⟩)<|Nat.le_of_lt h,fU h]
theorem Cw{c:Con}(h:j<b4.length):(S b ⟨b0,b1,b2,b3,b4,tb,td⟩).set (.inr (4,j)) c=S b ⟨b0,b1,b2,b3,b4.set j c,tb,td⟩:=by rw[zZ (g:=⟨b0,b1,b2,b3,b4,tb,td⟩)<|Nat.le_of_lt h,fU h]
theorem vJ{c:Con}(h:b0.length=j):(S b ⟨b0,b1,b2,b3,b4,tb,td⟩).set (.inr (0,j)) c=S b ⟨b0++[c],b1,b2,b3,b4,tb,td⟩:=by subst h;rw[zV (g:=⟨b0,b1,b2,b3,b4,tb,td⟩)<|Kj _,gH]
theorem vK{c:Con}(h:b1.length=j):(S b ⟨b0,b1,b2,b3,b4,tb,td⟩).set (.inr (1,j)) c=S b ⟨b0,b1++[c],b2,b3,b4,tb,td⟩:=by subst h;rw[zW (g:=⟨b0,b1,b2,b3,b4,tb,td⟩)<|Kj _,gH]
theorem eG{c:Con}(h:b2.length=j):(S b ⟨b0,b1,b2,b3,b4,tb,td⟩).set (.inr (2,j)) c=S b ⟨b0,b1,b2++[c],b3,b4,tb,td⟩:=by subst h;rw[zX (g:=⟨b0,b1,b2,b3,b4,tb,td⟩)<|Kj _,gH]
theorem HP{c:Con}(h:b3.length=j):(S b ⟨b0,b1,b2,b3,b4,tb,td⟩).set (.inr (3,j)) c=S b ⟨b0,b1,b2,b3++[c],b4,tb,td⟩:=by subst h;rw[zY (g:=⟨b0,b1,b2,b3,b4,tb,td⟩)<|Kj _,gH]
theorem vL{c:Con}(h:b4.length=j):(S b ⟨b0,b1,b2,b3,b4,tb,td⟩).set (.inr (4,j)) c=S b ⟨b0,b1,b2,b3,b4++[c],tb,td⟩:=by subst h;rw[zZ (g:=⟨b0,b1,b2,b3,b4,tb,td⟩)<|Kj _,gH]
theorem yP{c:Con}(ht:t<100)(h:j<(tb t).length):(S b ⟨b0,b1,b2,b3,b4,tb,td⟩).set (.inr (t+5,j)) c=S b ⟨b0,b1,b2,b3,b4,fup tb t<|(tb t).set j c,td⟩:=by rw[z0 (g:=⟨b0,b1,b2,b3,b4,tb,td⟩) ht<|Nat.le_of_lt h,fU h]
theorem HQ{c:Con}(ht:t<100)(h:tb t=[]):(S b ⟨b0,b1,b2,b3,b4,tb,td⟩).set (.inr (t+5,0)) c=S b ⟨b0,b1,b2,b3,b4,fup tb t [c],td⟩:=by rw[z0 (g:=⟨b0,b1,b2,b3,b4,tb,td⟩) ht<|Nat.zero_le _];dsimp only;rw[h];rfl
theorem HS{c:Con}(h:j<(td t).length):(S b ⟨b0,b1,b2,b3,b4,tb,td⟩).set (.inr (t+105,j)) c=S b ⟨b0,b1,b2,b3,b4,tb,fup td t<|(td t).set j c⟩:=by rw[Cu (g:=⟨b0,b1,b2,b3,b4,tb,td⟩)<|Nat.le_of_lt h,fU h]
theorem bv{c:Con}:(S (b.push L ρ) g).set (.inl a) c=S ((b.set (.inl a) c).push L ρ) g:=Cv
theorem Kr.trans{a c:Kk}(x:Kr a b)(y:Kr b c):Kr a c:=⟨λn v e=>y.m n v<|x.m n v e,x.fr.trans y.fr,x.raw.trans y.raw⟩
theorem Kr.push(h:Kr b b')(L:Addr)(ρ:List<|String×MV):Kr (b.push L ρ)<|b'.push L ρ:=⟨h.m,by change _::_=_::_;rw[h.fr],h.raw⟩
theorem lb{q:Nm->Prop}(i j:Nat)(h:st.m (.inr (i,j))=none)(x:q<|.inr (i,j)):Alloc st q:=.inl ⟨(i,j),h,x⟩
theorem f9{q:Nm->Prop}(x: ∀a,b.m (.inl a)=none->q (.inl a)):Alloc (S b g) q:=.inr x
section
def Asg(env:Env)(x:String)(Q:Kk->Prop)(m:MV)(st1:Kk):Prop:= ∃(b':Kk) (L:Addr) (ρ:List (String×MV)) (g':G) (ρ':List (String×MV)),st1=S (b'.push L ρ) g'/\L=env.locals/\pt x m ρ=ρ'/\Q (S (b'.push L ρ') g')
theorem asg{Q:Kk->Prop}(ρ':List<|String×MV)(hr:pt x m ρ=ρ')(hL:L=env.locals)(h:Q<|S (b.push L ρ') g):Asg env x Q m<|S (b.push L ρ) g:=⟨b,L,ρ,g,ρ',4.,hL,hr,h⟩
def End(b:Kk)(Q:MV->Kk->Prop)(mf:MF)(st':Kk):Prop:= ∃(b':Kk) (L:Addr) (ρ:List (String×MV)) (g':G),st'=S (b'.push L ρ) g'/\Kr b b'/\Q mf.val (S b g')
theorem fin(T:Kr b b')(h:Q mf.val<|S b g):End b Q mf<|S (b'.push L ρ) g:=⟨b',L,ρ,g,4.,T,h⟩
theorem bR{fd:FuncData}(F:FnAt D.K f fd body names)(hl:ms.length=names.length)
 (h: ∀L,WF D k (S (b.push L<|names.zip ms) g) (execs body<|callEnv fd L f) (End b Q)):CD D (k+1) (S b g) (.ref<|.inl f) ms Q:=by
 show ed F hl λL=>WP.mono (h L) ?_;rintro mf st' ⟨b',L',ρ,g',rfl,t,q⟩;show⟨S b g',t.less g',q⟩
theorem aR{p value pos}{Q:MF->Kk->Prop}(h:WV D k (S b g) (eval value env)<|Asg env x<|Q .next)
 (hl:env.kindOf (Str.ofString x)=some .local:=by kernel_rfl)(hp:(env.scope.kind==.class||(env.scope.kind==.module&&env.locals !=env.globals))=false:=by rfl)
 (hs:swapsWith value (some<|.Name (Str.ofString x) p) pos.line env=pure false:=by rfl):WF D k (S b g) (exec (.Assign [.Name (Str.ofString x) p] value pos) env) Q:=by
 show bw (WP.mono h ?_) hl hp hs;rintro m st1 ⟨b',L,ρ,g',ρ',rfl,rfl,rfl,q⟩;show⟨ρ,b'.fr,4.,q⟩
abbrev xc(D:Wd)(k:Nat)(env:Env)(x:String)(op:Operator)(m:MV)(Q:MF->Kk->Prop)(c:MV)(st1:Kk):Prop:=OP D VR k st1 [m,c] (λvs=>inplaceOp op (vs.getD 0 .none)<|vs.getD 1 .none)<|Asg env x<|Q .next
theorem rY{p op value pos}{Q:MF->Kk->Prop}(hx:lk x ρ=some m)
 (h:WV D k (S (b.push L ρ) g) (eval value env)<|xc D k env x op m Q)(hL:L=env.locals:=by rfl)
 (hl:env.kindOf (Str.ofString x)=some .local:=by kernel_rfl)(hk:env.scope.kind=.function:=by rfl)(hp:(env.scope.kind==.class||(env.scope.kind==.module&&env.locals !=env.globals))=false:=by rfl):
 WF D k (S (b.push L ρ) g) (exec (.AugAssign (.Name (Str.ofString x) p) op value pos) env) Q:=by
 subst hL;show u8 (st:=S (b.push env.locals ρ) g) 4. hx (WP.mono h λc st1 w=>OP.mono w ?_) hl hk hp;rintro r st2 ⟨b',L,ρ',g',ρ2,rfl,rfl,rfl,q⟩;show⟨ρ',b'.fr,4.,q⟩
theorem cJ{Q:Unit->Kk->Prop}(ρ':List<|String×MV)(hr:pt x m ρ=ρ')(h:Q ()<|S (b.push L ρ') g)(hL:L=env.locals:=by rfl)
 (hl:env.kindOf (Str.ofString x)=some .local:=by kernel_rfl)(hp:(env.scope.kind==.class||(env.scope.kind==.module&&env.locals !=env.globals))=false:=by rfl):
 OP D TU k (S (b.push L ρ) g) [m] (λvs=>assign (.Name (Str.ofString x) pos) env<|vs.getD 0 .none) Q:=by
 subst hr;show dy ⟨ρ,b.fr,by rw[hL];rfl,h⟩ hl hp
theorem dC(ρ':List<|String×MV)(hr:pt x m ρ=ρ')(hL:L=env.locals)(h:P<|S (b.push L ρ') g):Asg env x (Km P Q' .next) m<|S (b.push L ρ) g:=asg ρ' hr hL h
theorem gf{Q:MF->Kk->Prop}(ρ':List<|String×MV)(hr:pt x m ρ=ρ')(hL:L=env.locals)(h:WF D k (S (b.push L ρ') g) (exec s₀ env)<|Km (cF D k env sts Q) Q):
 Asg env x (Km (cF D k env (s₀::sts) Q) Q' .next) m<|S (b.push L ρ) g:=asg ρ' hr hL<|ao h
theorem bx{p:Pos}{Q:MF->Kk->Prop}(h:WV D k (S b g) (eval value env)<|Asg env x<|Km (cF D k env sts Q) Q .next)
 (hl:env.kindOf (Str.ofString x)=some .local:=by kernel_rfl)(hp:(env.scope.kind==.class||(env.scope.kind==.module&&env.locals !=env.globals))=false:=by rfl)
 (hs:swapsWith value (some<|.Name (Str.ofString x) p) pos.line env=pure false:=by rfl):WF D k (S b g) (execs (.Assign [.Name (Str.ofString x) p] value pos::sts) env) Q:=ao<|aR h hl hp hs
theorem ge{p:Pos}{Q:MF->Kk->Prop}(h:WV D k (S b g) (eval value env)<|Asg env x<|Km (cF D k env sts Q) Q .next)
 (hl:env.kindOf (Str.ofString x)=some .local:=by kernel_rfl)(hp:(env.scope.kind==.class||(env.scope.kind==.module&&env.locals !=env.globals))=false:=by rfl)
 (hs:swapsWith value (some<|.Name (Str.ofString x) p) pos.line env=pure false:=by rfl):Km (cF D k env (.Assign [.Name (Str.ofString x) p] value pos::sts) Q) Q' .next<|S b g:=ao<|aR h hl hp hs
theorem dT{Q:Unit->Kk->Prop}(ρ':List<|String×MV)(hr:pt x m ρ=ρ')(h:AL D k env (S (b.push L ρ') g) elts ms Q)(hL:L=env.locals:=by rfl)
 (hl:env.kindOf (Str.ofString x)=some .local:=by kernel_rfl)(hp:(env.scope.kind==.class||(env.scope.kind==.module&&env.locals !=env.globals))=false:=by rfl):
 AL D k env (S (b.push L ρ) g) (.Name (Str.ofString x) pos::elts) (m::ms) Q:=sP (cJ ρ' hr h hL hl hp) (by rfl)
theorem Cx{α β:Type}{T:Imm->β->α->Prop}{f:List Value->Sem α}{Q:β->Kk->Prop}{m m':MV}(e:m=m')(h:OP D T k st [m'] f Q):OP D T k st [m] f Q:=e▸h
theorem tK{α β:Type}{T:Imm->β->α->Prop}{f:List Value->Sem α}{Q:β->Kk->Prop}{m m':MV}{i:Int}(e:m=m')(h:OP D T k st [.tup [.int i,m']] f Q):OP D T k st [.tup [.int i,m]] f Q:=e▸h
def tL(b:Kk)(R:List<|Addr×Obj)(L:Addr)(P:List (String×MV)->G->Prop)(Q:MF->Kk->Prop):MF->Kk->Prop
 | .ret m,st=> ∃(b':Kk) (ρ:List (String×MV)) (g:G),st=S (b'.push L ρ) g/\Kr {b with raw:=R} b'/\Q (.ret m) (S (b.push L ρ) g)
 | .brk,_=>False
 |_,st=> ∃(b':Kk) (ρ:List (String×MV)) (g:G),st=S (b'.push L ρ) g/\Kr {b with raw:=R} b'/\P ρ g
theorem en{R:List<|Addr×Obj}{P:List (String×MV)->G->Prop}{Q:MF->Kk->Prop}(T:Kr {b with raw:=R} b')(h:P ρ g):tL b R L P Q .next<|S (b'.push L ρ) g:=⟨b',ρ,g,4.,T,h⟩
theorem AH{R:List<|Addr×Obj}{P:List (String×MV)->G->Prop}{Q:MF->Kk->Prop}(T:Kr {b with raw:=R} b')(h:P ρ g):tL b R L P Q .cont<|S (b'.push L ρ) g:=⟨b',ρ,g,4.,T,h⟩
def AI(R:List<|Addr×Obj)(L:Addr)(r:List<|Addr×Obj)(P:Kk->List (String×MV)->G->Prop)(Q:MF->Kk->Prop):MF->Kk->Prop
 | .ret m,st=> ∃(c c':Kk) (ρ:List (String×MV)) (g:G),st=S (c'.push L ρ) g/\Kr ({c with raw:=R}:Kk) c'/\Q (.ret m) (S (({c with raw:=r}:Kk).push L ρ) g)
 | .brk,_=>False
 |_,st=> ∃(c c':Kk) (ρ:List (String×MV)) (g:G),st=S (c'.push L ρ) g/\Kr ({c with raw:=R}:Kk) c'/\P c ρ g
theorem lc{R:List<|Addr×Obj}{r:List<|Addr×Obj}{P:Kk->List (String×MV)->G->Prop}{Q:MF->Kk->Prop}{c':Kk}(c:Kk)(T:Kr {c with raw:=R} c')(h:P c ρ g):AI R L r P Q .next<|S (c'.push L ρ) g:=⟨c,c',ρ,g,4.,T,h⟩
inductive ForBI(D:Wd)(k:Nat)(env:Env)(target:Expr)(BW:Kk->(MF->Kk->Prop)->Prop)(L:Addr)(Q:MF->Kk->Prop)(base:Kk)(src:Kk->Prop)(n:Nat)(item:Nat->MV):Prop
 |mk (P:Nat->Kk->List (String×MV)->G->Prop) (b':Kk) (ρ':List<|String×MV) (g':G) (hb:base=S (b'.push L ρ') g') (h1: ∀i c ρ g R,P i c ρ g->src (S (({c with raw:=R}:Kk).push L ρ) g)) (h2:P 0 b' ρ' g')
  (h3: ∀i c ρ g R,i<n->P i c ρ g->OP D TU k (S (({c with raw:=R}:Kk).push L ρ) g) [item i] (λvs=>assign target env<|vs.getD 0 .none) λO st2=>BW st2<|AI R L b'.raw (P<|i+1) Q)
  (h4: ∀c ρ g,P n c ρ g->Q .next (S (({c with raw:=b'.raw}:Kk).push L ρ) g)):ForBI D k env target BW L Q base src n item
inductive ForSI(D:Wd)(k:Nat)(env:Env)(target:Expr)(BW:Kk->(MF->Kk->Prop)->Prop)(L:Addr)(Q:MF->Kk->Prop)(base:Kk)(src:Kk->Prop)(n:Nat)(item:Nat->MV):Prop
 |mk (P:Nat->List (String×MV)->G->Prop) (b':Kk) (ρ':List<|String×MV) (g':G) (hb:base=S (b'.push L ρ') g') (h1: ∀i ρ g R,P i ρ g->src (S (({b' with raw:=R}:Kk).push L ρ) g)) (h2:P 0 ρ' g')
  (h3: ∀i ρ g R,i<n->P i ρ g->OP D TU k (S (({b' with raw:=R}:Kk).push L ρ) g) [item i] (λvs=>assign target env<|vs.getD 0 .none) λO st2=>BW st2<|tL b' R L (P<|i+1) Q)
  (h4: ∀ρ g,P n ρ g->Q .next (S (b'.push L ρ) g)):ForSI D k env target BW L Q base src n item
theorem Cy{BW:Kk->(MF->Kk->Prop)->Prop}{Q:MF->Kk->Prop}{base:Kk}{src:Kk->Prop}{n:Nat}{item:Nat->MV}(hm: ∀{st:Kk} {P P':MF->Kk->Prop},BW st P->(∀mf st3,P mf st3-> ∃st',Kq st' st3/\P' mf st')->BW st P')
 (h:ForBI D k env target BW L Q base src n item):ForI D k env target BW Q base src n item:=by
 obtain⟨P,b',ρ',g',rfl,hsrc,h0,hstep,hend⟩:=h;show⟨λi st=> ∃R c ρ g,st=S (({c with raw:=R}:Kk).push L ρ) g/\P i c ρ g,λi st R h=>?_,λi st O h=>?_,⟨b'.raw,b',ρ',g',4.,h0⟩,?_,?_⟩
 ·obtain⟨O,c,ρ,g,rfl,p⟩:=h;show⟨R,c,ρ,g,4.,p⟩
 ·obtain⟨R,c,ρ,g,rfl,p⟩:=h;show hsrc i c ρ g R p
 ·rintro i st hi ⟨R,c,ρ,g,rfl,p⟩;show OP.mono (hstep i c ρ g R hi p) λO st2 w=>hm w λmf st3 q=>?_;have nx:(∃(c c':Kk) (ρ:List (String×MV)) (g:G),st3=S (c'.push L ρ) g/\Kr ({c with raw:=R}:Kk) c'/\P (i+1) c ρ g)-> ∃st',Kq st' st3/\st'.raw=R/\ ∃R c ρ g,st'=S (({c with raw:=R}:Kk).push L ρ) g/\P (i+1) c ρ g:=
   λh=>by obtain⟨c2,O,ρ2,g2,rfl,t,p⟩:=h;show⟨S (({c2 with raw:=R}:Kk).push L ρ2) g2,(t.push L ρ2).less g2,4.,R,c2,ρ2,g2,4.,p⟩
  cases mf with
  |next=>show nx q
  |cont=>show nx q
  |brk=>show q.elim
  |ret m=>
   obtain⟨c2,c3,ρ2,g2,rfl,t,p⟩:=q;show⟨S (({c2 with raw:=R}:Kk).push L ρ2) g2,(t.push L ρ2).less g2,4.,p⟩
 ·rintro st ⟨R,c,ρ,g,rfl,p⟩ (rfl:R=b'.raw);show hend c ρ g p
theorem Cz{BW:Kk->(MF->Kk->Prop)->Prop}{Q:MF->Kk->Prop}{base:Kk}{src:Kk->Prop}{n:Nat}{item:Nat->MV}(hm: ∀{st:Kk} {P P':MF->Kk->Prop},BW st P->(∀mf st3,P mf st3-> ∃st',Kq st' st3/\P' mf st')->BW st P')
 (h:ForSI D k env target BW L Q base src n item):ForBI D k env target BW L Q base src n item:=by
 obtain⟨P,b',ρ',g',hb,hsrc,h0,hstep,hend⟩:=h;show⟨λi c ρ g=>c.raw=b'.raw/\{c with raw:=b'.raw}=b'/\P i ρ g,b',ρ',g',hb,λi c ρ g R h=>?_,⟨4.,4.,h0⟩,λi c ρ g R hi h=>?_,λc ρ g h=>h.2.1.symm▸hend ρ g h.2.2⟩
 ·have E:({c with raw:=R}:Kk)={b' with raw:=R}:=by have:=congrArg (λb:Kk=>({b with raw:=R}:Kk)) h.2.1;show this
  rw[E];show hsrc i ρ g R h.2.2
 ·have E:({c with raw:=R}:Kk)={b' with raw:=R}:=by have:=congrArg (λb:Kk=>({b with raw:=R}:Kk)) h.2.1;show this
  rw[E];show OP.mono (hstep i ρ g R hi h.2.2) λO st2 w=>hm w λmf st3 q=>⟨st3,Kq.refl _,?_⟩;have nx:(∃(b'':Kk) (ρ:List (String×MV)) (g:G),st3=S (b''.push L ρ) g/\Kr {b' with raw:=R} b''/\P (i+1) ρ g)-> ∃(c c':Kk) (ρ:List (String×MV)) (g:G),st3=S (c'.push L ρ) g/\Kr ({c with raw:=R}:Kk) c'/\c.raw=b'.raw/\{c with raw:=b'.raw}=b'/\P (i+1) ρ g:=
   λh=>by obtain⟨b'',ρ2,g2,e,t,p⟩:=h;show⟨b',b'',ρ2,g2,e,t,4.,4.,p⟩
  cases mf with
  |next=>show nx q
  |cont=>show nx q
  |brk=>show q.elim
  |ret m=>show let⟨b'',ρ2,g2,e,t,p⟩:=q;⟨b',b'',ρ2,g2,e,t,p⟩
abbrev IC(D:Wd)(k:Nat)(env:Env)(target:Expr)(body:List Stmt)(L:Addr)(Q:MF->Kk->Prop):Kk->(Kk->Prop)->Nat->(Nat->MV)->Prop:=ForBI D k env target (λst2 P=>WF D k st2 (execs body env) P) L Q
abbrev ID(D:Wd)(k:Nat)(env:Env)(target:Expr)(body:List Stmt)(L:Addr)(Q:MF->Kk->Prop):Kk->(Kk->Prop)->Nat->(Nat->MV)->Prop:=ForSI D k env target (λst2 P=>WF D k st2 (execs body env) P) L Q
theorem gI{Q:MF->Kk->Prop}(h:IT D k env st iter target<|IC D k env target body L Q)
 (hs: ∀x,foldedSetIterable iter env x=pure x:=by intro O;rfl):WF D k st (exec (.For target iter body [] pos) env) Q:=
 wC (IT.mono h λO O O O z=>Cy (λw q=>WP.lessen<|WP.mono w q) z) hs
theorem eX{Q:MF->Kk->Prop}(h:IT D k env st iter target<|ID D k env target body L Q)
 (hs: ∀x,foldedSetIterable iter env x=pure x:=by intro O;rfl):WF D k st (exec (.For target iter body [] pos) env) Q:=
 gI (IT.mono h λO O O O z=>Cz (λw q=>WP.lessen<|WP.mono w q) z) hs
theorem x8{Q:MF->Kk->Prop}(P:Nat->Kk->List (String×MV)->G->Prop)
 (h1: ∀i c ρ g R,P i c ρ g->src (S (({c with raw:=R}:Kk).push L ρ) g))(h2:P 0 b' ρ' g')
 (h3: ∀i c ρ g R,i<n->P i c ρ g->OP D TU k (S (({c with raw:=R}:Kk).push L ρ) g) [item i] (λvs=>assign target env<|vs.getD 0 .none) λO st2=>WF D k st2 (execs body env)<|AI R L b'.raw (P<|i+1) Q)
 (h4: ∀c ρ g,P n c ρ g->Q .next (S (({c with raw:=b'.raw}:Kk).push L ρ) g)):IC D k env target body L Q (S (b'.push L ρ') g') src n item:=⟨P,b',ρ',g',4.,h1,h2,h3,h4⟩
theorem forS{Q:MF->Kk->Prop}(P:Nat->List (String×MV)->G->Prop)
 (h1: ∀i ρ g R,P i ρ g->src (S (({b' with raw:=R}:Kk).push L ρ) g))(h2:P 0 ρ' g')
 (h3: ∀i ρ g R,i<n->P i ρ g->OP D TU k (S (({b' with raw:=R}:Kk).push L ρ) g) [item i] (λvs=>assign target env<|vs.getD 0 .none) λO st2=>WF D k st2 (execs body env)<|tL b' R L (P<|i+1) Q)
 (h4: ∀ρ g,P n ρ g->Q .next (S (b'.push L ρ) g)):ID D k env target body L Q (S (b'.push L ρ') g') src n item:=⟨P,b',ρ',g',4.,h1,h2,h3,h4⟩
noncomputable def UL(D:Wd)(k:Nat)(env:Env)(target:Expr)(body:List Stmt)(b:Kk)(L:Addr)(Q:MF->Kk->Prop):List MV->List (String×MV)->G->Prop
 |[],ρ,g=>Q .next (S (b.push L ρ) g)
 |x::r,ρ,g=> ∀R,OP D TU k (S (({b with raw:=R}:Kk).push L ρ) g) [x] (λvs=>assign target env<|vs.getD 0 .none) λO st2=>WF D k st2 (execs body env)<|tL b R L (UL D k env target body b L Q r) Q
theorem xe{Q:MF->Kk->Prop}{x:MV}{r:List MV}
 (h: ∀R,OP D TU k (S (({b with raw:=R}:Kk).push L ρ) g) [x] (λvs=>assign target env<|vs.getD 0 .none) λO st2=>WF D k st2 (execs body env)<|tL b R L (UL D k env target body b L Q r) Q):UL D k env target body b L Q (x::r) ρ g:=h
theorem ux{Q:MF->Kk->Prop}(h:Q .next<|S (b.push L ρ) g):UL D k env target body b L Q [] ρ g:=h
theorem uy{Q:MF->Kk->Prop}
 (h:IT D k env st iter target λbase src n item=> ∃(xs:List MV) (b':Kk) (ρ':List (String×MV)) (g':G),base=S (b'.push L ρ') g'/\n=xs.length/\(∀i,item i=xs.getD i .none)/\
  (∀st R,src st->src {st with raw:=R})/\(∀ρ g R,src (S (({b' with raw:=R}:Kk).push L ρ) g))/\UL D k env target body b' L Q xs ρ' g')
 (hs: ∀x,foldedSetIterable iter env x=pure x:=by intro O;rfl):WF D k st (exec (.For target iter body [] pos) env) Q:=by
 show eX (L:=L) (IT.mono h λbase src n item z=>?_) hs;obtain⟨xs,b',ρ',g',hb,rfl,hit,hr,hsrc,hu⟩:=z;show⟨λi ρ g=>UL D k env target body b' L Q (xs.drop i) ρ g,b',ρ',g',hb,λi ρ g R O=>hsrc ρ g R,hu,?_,?_⟩
 ·intro i ρ g R hi p;rw[List.drop_eq_getElem_cons hi]at p;have:=p R;rw[hit i,J7,J6 hi];show this
 ·intro ρ g p;rw[List.drop_length]at p;show p
theorem qd{Q:MF->Kk->Prop}(h:WV D k st (eval iter env) λm st1=> ∃(xs:List MV) (b':Kk) (ρ':List (String×MV)) (g':G),m=.tup xs/\st1=S (b'.push L ρ') g'/\UL D k env tgt body b' L Q xs ρ' g'):
 IT D k env st iter tgt λbase src n item=> ∃(xs:List MV) (b':Kk) (ρ':List (String×MV)) (g':G),base=S (b'.push L ρ') g'/\n=xs.length/\(∀i,item i=xs.getD i .none)/\
  (∀st R,src st->src {st with raw:=R})/\(∀ρ g R,src (S (({b' with raw:=R}:Kk).push L ρ) g))/\UL D k env tgt body b' L Q xs ρ' g':=by
 show cb<|WP.mono h ?_;rintro m st1 ⟨xs,b',ρ',g',rfl,rfl,u⟩;show⟨_,_,_,ev,xs,b',ρ',g',4.,4.,λO=>4.,λO O x=>x,λO O O=>trivial,u⟩
end
noncomputable def Kn(i:Nat):KS:=⟨(List.range i).map λ(j:Nat)=>.tup [.int 1,.int j],(List.range i).map λ(j:Nat)=>(.tup [.int 1,.int j],.int j),List.replicate i<|.int 1,List.replicate i<|.int 1,List.replicate i<|.int 0⟩
theorem AJ(i:Nat):Kn (i+1)=⟨(Kn i).rows++[.tup [.int 1,.int i]],(Kn i).idx++[(.tup [.int 1,.int i],.int i)],(Kn i).dep++[.int 1],(Kn i).wei++[.int 1],(Kn i).ope++[.int 0]⟩:=by
 simp[Kn,List.range_succ,List.replicate_succ']
theorem AK(i:Nat):(Kn i).rows.length=i:=by simp[Kn]
theorem CB(i:Nat):(Kn i).dep.length=i:=by simp[Kn]
theorem CC(i:Nat):(Kn i).wei.length=i:=by simp[Kn]
theorem CE(i:Nat):(Kn i).ope.length=i:=by simp[Kn]
theorem CF(i:Nat):(Kn i).idx.length=i:=by simp[Kn]
theorem CG(i:Nat):((Kn i).idx.all λp=>c8 p.1)=true:=by
 simp[Kn,iM,sT,hkE,lE,v7]
theorem CH(i:Nat)(j:Int):kok (Kn i).idx (.tup [.int 1,.int j])=true:=by
 unfold kok;rw[CG];simp[iM,sT,hkE,lE,v7]
theorem CI(i:Nat):((Kn i).idx.map (·.1)).Nodup:=by
 simp only[Kn,List.map_map];show List.Pairwise.map _ (R:=λa b=>a≠b) (λa b h e=>h ?_) List.nodup_range;simp at e;omega
theorem eC{es:List<|MV×MV}(h: ∀p∈es,p.1≠m):b9 es m=none:=by
 unfold b9;rw[Option.map_eq_none_iff,List.find?_eq_none];intro p hp e;show h p hp<|gm _ _ e
theorem AM(i:Nat):b9 (Kn i).idx (.tup [.int 1,.int i])=none:=by
 show eC λp hp=>?_;simp only[Kn,List.mem_map,List.mem_range]at hp;obtain⟨j,hj,rfl⟩:=hp;intro e;simp at e;omega
section
theorem lg(W:Lw D)(h0:g.b0=[.n 372 []])(h:Q .none<|S b ⟨ktL<|Kn 16,g.b1,g.b2,g.b3,g.b4,g.tb,g.td⟩):CD D (k+1) (S b g) (.ref<|.inl 355) [rf 0 0] Q:=by
 obtain⟨b0,b1,b2,b3,b4,tb,td⟩:=g;dsimp only at h0 h;subst h0;show bR (W.K▸jC _) 4. λL=>(ao<|aB<|bZ<|.inl ⟨(0,1),4.,?_⟩);show af 4. 4.<|br 4. (by rw[W.K];kernel_rfl) ?_ 1.;show tJ (vJ (by rfl)) (eb (by show dB 4.))<|aH<|aB<|bu<|.inl ⟨(0,2),4.,?_⟩;show af 4. 4.<|br 4. (by rw[W.K];kernel_rfl) ?_ 1.;show tJ (vJ (by rfl)) (eb (by show dB 4.))<|aH<|aB<|bZ<|.inl ⟨(0,3),4.,?_⟩;show af 4. 4.<|br 4. (by rw[W.K];kernel_rfl) ?_ 1.;show tJ (vJ (by rfl)) (eb (by show dB 4.))<|aH<|aB<|bZ<|.inl ⟨(0,4),4.,?_⟩;show af 4. 4.<|br 4. (by rw[W.K];kernel_rfl) ?_ 1.;show tJ (vJ (by rfl)) (eb (by show dB 4.))<|aH<|aB<|bZ<|.inl ⟨(0,5),4.,?_⟩;show af 4. 4.<|br 4. (by rw[W.K];kernel_rfl) ?_ 1.;show tJ (vJ (by rfl)) (eb (by show dB 4.))<|aH<|eX (L:=L)<|cb ?_;show ag (cw W) trivial<|bM (vt W)<|ab<|dG<|itv (n:=16) (bt 1. 1. 1.)<|forS (λi ρ g'=>lk "self" ρ=some (rf 0 0)/\g'=⟨ktL<|Kn i,b1,b2,b3,b4,tb,td⟩) (λO O O O O=>trivial) ⟨4.,4.⟩ ?_ ?_
 ·rintro i ρ g' R hi ⟨hs,rfl⟩;show cJ _ 4. ?_;have hs:lk "self" (pt "number" (.int<|0+i) ρ)=some (rf 0 0):=au hs;rw[show(0:Int)+(i:Int)=i by omega]at hs ⊢;show bx<|aI<|bM (fK W) ?_;show aG 4. (by first|show ad|(rw[aQ 1.];show ad)) ?_;show ce<|gf _ 4. 4.<|aW<|aq ?_;show ah W 4. (by first|show hs|(rw[aQ 1.];show hs)) 4. 4. (by nofun) ?_;show bU 4. Kf Ke<|az trivial<|aG 4. ad<|bf 4. (by rw[AK];omega)<|stc (eb (by show dB 4.))<|aH<|aZ ?_;show af 4. (by first|show ad|(rw[aQ 1.];show ad)) ?_;show ah W 4. (by first|show hs|(rw[aQ 1.];show hs)) 4. 4. (by nofun) ?_;show af 4. ad<|dz 4. (CH _ _) (CI _) (by rw[CF];omega) ?_;rw[cU<|AM _];show stc (eb (by show dB 4.))<|aH<|aW<|aq ?_;show ah W 4. (by first|show hs|(rw[aQ 1.];show hs)) 4. 4. (by nofun) ?_;show bU 4. Kf Ke<|az trivial<|bp<|ab<|bf 4. (by rw[CB];omega)<|stc (eb (by show dB 4.))<|aH<|aW ?_;show aq ?_;show ah W 4. (by first|show hs|(rw[aQ 1.];show hs)) 4. 4. (by nofun) ?_;show bU 4. Kf Ke<|az trivial<|bp<|ab<|bf 4. (by rw[CC];omega)<|stc (eb (by show dB 4.))<|aH<|aW ?_;show aq ?_;show ah W 4. (by first|show hs|(rw[aQ 1.];show hs)) 4. 4. (by nofun) ?_;show bU 4. Kf Ke<|az trivial<|bp<|ab<|bf 4. (by rw[CE];omega)<|stc (eb (by show dB 4.))<|Km.next<|aT ?_;show en (Kr.refl _) ⟨au hs,?_⟩;rw[AJ];rfl
 rintro ρ g' ⟨O,rfl⟩;show Km.next<|aT<|fin (Kr.refl _) h
end
section
theorem tM(W:Lw D)(h:Q (rf 0 0)<|S b ⟨ktL<|Kn 16,b1,b2,b3,b4,tb,td⟩):CD D (k+2) (S b ⟨[],b1,b2,b3,b4,tb,td⟩) (.ref<|.inl 372) [] Q:=
 u6 (fI:=355) (by rw[W.K];kernel_rfl) (by rw[W.K];kernel_rfl) (by rw[W.K];kernel_rfl)<|lb 0 0 4. (by
  rw[vJ (by rfl)];show lg W 4. ⟨4.,h⟩)
theorem rZ(W:Lw D)(h: ∀a a',Q .none (S b ⟨ktL<|Kn 16,[stI (.inl a)<|.inl a',.l [.none],.l [.none],.d []],b2,b3,b4,tb,td⟩)):CD D (k+3) (S b ⟨[],[.n 666 []],b2,b3,b4,tb,td⟩) (.ref<|.inl 663) [rf 1 0] Q:=by
 show bR (W.K▸ph _) 4. λL=>(ao<|aB<|ag (tf W) (rS W)<|ab<|CL.of (j:=k+2) (tM W ?_) 3.);show af 4. 4.<|br 4. (by rw[W.K];kernel_rfl) ?_<|J9 4.;show stc (fu (by show dB 4.))<|aH<|aB<|dS<|aa<|dR<|ab<|ce ?_;show f9 λa ha=>(stc bv<|af 4. 4.<|br 4. (by rw[W.K];kernel_rfl) ?_<|J9 4.);show stc (fu (by show dB 4.))<|aH<|aB<|dS<|aa<|dR<|ab<|ce ?_;show lb 1 1 4.<|af 4. 4.<|br 4. (by rw[W.K];kernel_rfl) ?_<|J9 4.;show tJ (vK (by rfl)) (fu (by show dB 4.))<|aH<|aB<|dS<|aa<|dR<|ab<|ce ?_;show lb 1 2 4.<|af 4. 4.<|br 4. (by rw[W.K];kernel_rfl) ?_<|J9 4.;show tJ (vK (by rfl)) (fu (by show dB 4.))<|aH<|aB<|bu<|lb 1 3 4.<|af 4. 4.<|br 4. (by rw[W.K];kernel_rfl) ?_<|J9 4.;show tJ (vK (by rfl)) (fu (by show dB 4.))<|aH<|aB<|bZ<|f9 λa' ha'=>(stc bv<|af 4. 4.<|br 4. (by rw[W.K];kernel_rfl) ?_<|J9 4.);show stc (fu (by show dB 4.))<|aH<|aB<|aA<|af 4. 4.<|br 4. (by rw[W.K];kernel_rfl) ?_<|J9 4.;show stc (fu (by show dB 4.))<|Km.next<|aT<|fin ((Kr.set (b:=b) ha).trans<|Kr.set ha')<|h a a'
theorem AN(W:Lw D)(h: ∀a a',Q (rf 1 0) (S b ⟨ktL<|Kn 16,[stI (.inl a)<|.inl a',.l [.none],.l [.none],.d []],b2,b3,b4,tb,td⟩)):CD D (k+4) (S b ⟨[],[],b2,b3,b4,tb,td⟩) (.ref<|.inl 666) [] Q:=
 u6 (fI:=663) (by rw[W.K];kernel_rfl) (by rw[W.K];kernel_rfl) (by rw[W.K];kernel_rfl)<|lb 1 0 4. (by
  rw[vK (by rfl)];show rZ W λa a'=>⟨4.,h a a'⟩)
end
section
theorem jM(W:Lw D){e:Int}(hz:K.rows.length<=900)(h0:0<=e)(h1:e<K.rows.length)(hx:K.rows[e.toNat]? =some (.tup<|.int 6::ms))(hv:e≠0)(hu:e≠14)(h:Q .none<|S b ⟨ktL K,b1,b2,b3,b4,tb,td⟩):CD D (k+3) (S b ⟨ktL K,b1,b2,b3,b4,tb,td⟩) (.ref<|.inl 404) [rf 0 0,.tup [.int 4,.int e]] Q:=by
 show bR (W.K▸dY _) 4. λL=>(ao<|bW<|aF<|ai<|ae<|ag (bX W) trivial<|aG 4. 4. ?_);show dc (J9 4.)<|aA<|cA<|ck 4.<|ai<|ae<|aN 4. 4. 1. 1. 4.<|aP (fK W) ?_;show zJ<|eS 4.<|ai<|ae<|aN 4. 4. 1. 1. 4.<|aP (pq W)<|lD<|eS 4. ?_;show aY<|bk 4.<|aR<|aN 4. 4. 1. 1. 4.<|asg [("kt",_),("row",_),("sort",_)] 4. 4.<|dE<|ae<|ag (bX W) trivial ?_;show aG 4. 4.<|dc (J9 4.)<|ag (gB W) (fR W)<|aG 4. 4.<|CL.of (j:=k+1) (jf W (s:=4) 1. 1. 1. ?_) 3.;show jo<|aK<|bk 4.<|uy (L:=L)<|qd ?_;show ag (cV W) (cH W)<|aG 4. 4.<|CL.of (j:=k+1) (ia W ?_) 3.;show⟨_,_,_,_,4.,4.,?_⟩;show xe λR=>(cJ [("kt",_),("row",_),("sort",_),("inner",_)] 4.<|ao<|aW<|bV W 4. 4. (f:=362) 4. 4. (bD W)<|aG 4. 4.<|CL.of (j:=k+1) (hW W 4. 4. 4. hz h0 h1 hx ?_) 3.);show Km.next<|aT<|en (Kr.refl _)<|ux<|dE<|aF<|ai<|bh 4. 4. (bF W) ?_;show ck 4.<|ai<|bh 4. 4. (cv W)<|ck 4.<|aY<|ck 4.<|ao<|bW ?_;show aF<|ai<|bh 4. 4. (gu W)<|ck 4.<|ai<|bh 4. 4. (pp W)<|ck 4.<|aY ?_;show ck 4.<|ao<|bW<|bh 4. 4. (tg W)<|ck 4.<|ao<|bW<|bh 4. 4. (rz W) ?_;show ck 4.<|ao<|bW<|qR<|cI<|ag (tp W) (rP W)<|bo 4. 4.<|aa ?_;show aN 4. 4. 1. 1. 4.<|ab<|CL.of (j:=k+2) (rX W 4. 4. 4. hz 4. h0 h1 hx hv hu ?_) 3.;show aK<|g8 4.<|aT<|Km.next<|aT<|Km.next<|aT<|Km.next ?_;show aT<|Km.next<|aT<|fin (Kr.refl _) h
end
structure KOk(K:KS)(row:MV):Prop where
 hz:K.rows.length<=900
 hi:K.idx.length<=900
 hd:K.dep.length<=900
 hw:K.wei.length<=900
 ho:K.ope.length<=900
 kk:kok K.idx row=true
 nd:(K.idx.map (·.1)).Nodup
section
theorem CJ(W:Lw D){t:Int}(ht:0<=t)(H:KOk K<|.tup [.int 6,.int t])(hn:b9 K.idx (.tup [.int 6,.int t])=none)(h:Q (.int K.rows.length)<|S b ⟨ktL ⟨K.rows++[.tup [.int 6,.int t]],K.idx++[(.tup [.int 6,.int t],.int K.rows.length)],K.dep++[.int 1],K.wei++[.int 1],K.ope++[.int 1]⟩,b1,b2,b3,b4,tb,td⟩):CD D (k+4) (S b ⟨ktL K,b1,b2,b3,b4,tb,td⟩) (.ref<|.inl 369) [rf 0 0,.tup [.int 6,.int t]] Q:=by
 show bR (W.K▸dn _) 4. λL=>?_;show bx ?_;show aq ?_;show ah W 4. 4. 4. 4. nofun ?_;show fc (.inl 4.) F.slot_dict_get F.type_dict_get ?_;show az trivial ?_;show bo 4. 4. ?_;show aa ?_;show bT<|aA<|gc<|ab<|gq (.inl 4.) H.kk H.nd ?_;rw[hn];show asg [("self",_),("row",_),("found",_)] 4. 4.<|dE<|ae<|af 4. 4.<|aA<|sR (a:= -1)<|aK<|bk 4. ?_;show aW<|ag (d9 W) (dZ W)<|bo 4. 4.<|aG 4. 4.<|CL.of (j:=k+2) (jL W ht ?_) 3.;show ge<|aA<|dC [("self",_),("row",_),("found",_),("depth",_)] 4. 4.<|bx<|aA<|dC [("self",_),("row",_),("found",_),("depth",_),("weight",_)] 4. 4.<|bx<|aA ?_;show asg [("self",_),("row",_),("found",_),("depth",_),("weight",_),("opened",_)] 4. 4.<|dE<|aF<|ai<|ae<|aN 4. 4. 1. 1. 4.<|aP (gu W)<|cA ?_;show cf 4.<|cf 4.<|bx<|aA<|dC [("self",_),("row",_),("found",_),("depth",_),("weight",_),("opened",_)] 4. 4.<|aT<|ge<|ag (iu W) (gE W) ?_;show aa<|aN 4. 4. 1. 1. 4.<|ab<|CL.of (j:=k+1) (rV W ?_) 3.;show gf [("self",_),("row",_),("found",_),("depth",_),("weight",_),("opened",_),("level",_)] 4. 4.<|uy (L:=L)<|qd ?_;show ag (cV W) (cH W)<|aG 4. 4.<|CL.of (j:=k+1) (ib W ?_) 3.;show⟨_,_,_,_,4.,4.,?_⟩;show ux<|dE<|ae<|af 4. 4.<|aP (eZ W)<|lD<|aK<|bk 4. ?_;show bW<|ae<|af 4. 4.<|aP (eA W)<|lD<|aK<|bk 4.<|aR ?_;show ag (bX W) trivial<|bE W 4. 4. 4. 4. nofun<|aS 4. (by have:=H.hz;omega)<|gf [("self",_),("row",_),("found",_),("depth",_),("weight",_),("opened",_),("level",_),("k",_)] 4. 4.<|aW<|aq<|ah W 4. 4. 4. 4. nofun<|bU 4. Kf Ke ?_;show az trivial<|aG 4. 4.<|bf 4. (by have:=H.hz;omega)<|stc (eb (by show dB 4.))<|aH<|aZ<|af 4. 4.<|ah W 4. 4. 4. 4. nofun ?_;show af 4. 4.<|dz 4. H.kk H.nd (by have:=H.hi;omega) ?_;rw[cU hn];show stc (eb (by show dB 4.))<|aH<|aW<|aq<|ah W 4. 4. 4. 4. nofun<|bU 4. Kf Ke<|az trivial<|aG 4. 4. ?_;show bf 4. (by have:=H.hd;omega)<|stc (eb (by show dB 4.))<|aH<|aW<|aq<|ah W 4. 4. 4. 4. nofun<|bU 4. Kf Ke<|az trivial ?_;show aG 4. 4.<|bf 4. (by have:=H.hw;omega)<|stc (eb (by show dB 4.))<|aH<|aW<|aq<|ah W 4. 4. 4. 4. nofun<|bU 4. Kf Ke ?_;show az trivial<|aG 4. 4.<|bf 4. (by have:=H.ho;omega)<|stc (eb (by show dB 4.))<|aH<|aw<|af 4. 4.<|Km.ret ?_;show fin (Kr.refl _) h
theorem CK(W:Lw D){t:Int}(ht:0<t)(hg:b9 fO (.int t)=none)(H:KOk K<|.tup [.int 2,.int t,.tup []])(hn:b9 K.idx (.tup [.int 2,.int t,.tup []])=none)(h:Q (.int K.rows.length)<|S b ⟨ktL ⟨K.rows++[.tup [.int 2,.int t,.tup []]],K.idx++[(.tup [.int 2,.int t,.tup []],.int K.rows.length)],K.dep++[.int 1],K.wei++[.int 1],K.ope++[.int 0]⟩,b1,b2,b3,b4,tb,td⟩):CD D (k+4) (S b ⟨ktL K,b1,b2,b3,b4,tb,td⟩) (.ref<|.inl 369) [rf 0 0,.tup [.int 2,.int t,.tup []]] Q:=by
 show bR (W.K▸dn _) 4. λL=>?_;show bx ?_;show aq ?_;show ah W 4. 4. 4. 4. nofun ?_;show fc (.inl 4.) F.slot_dict_get F.type_dict_get ?_;show az trivial ?_;show bo 4. 4. ?_;show aa ?_;show bT<|aA<|gc<|ab<|gq (.inl 4.) H.kk H.nd ?_;rw[hn];show asg [("self",_),("row",_),("found",_)] 4. 4.<|dE<|ae<|af 4. 4.<|aA<|sR (a:= -1)<|aK<|bk 4. ?_;show aW<|ag (d9 W) (dZ W)<|bo 4. 4.<|aG 4. 4.<|CL.of (j:=k+3) (jK W ht hg ?_) 3.;show ge<|aA<|dC [("self",_),("row",_),("found",_),("depth",_)] 4. 4.<|bx<|aA<|dC [("self",_),("row",_),("found",_),("depth",_),("weight",_)] 4. 4.<|bx<|aA ?_;show asg [("self",_),("row",_),("found",_),("depth",_),("weight",_),("opened",_)] 4. 4.<|dE<|aF<|ai<|ae<|aN 4. 4. 1. 1. 4.<|aP (gu W)<|cA ?_;show ck 4.<|ai<|ae<|aN 4. 4. 1. 1. 4.<|aP (pp W)<|cA<|ck 4.<|aY ?_;show bk 4.<|aR<|ag (iu W) (gE W)<|aa<|aN 4. 4. 1. 1. 4.<|ab<|CL.of (j:=k+1) (rW W ?_) 3.;show gf [("self",_),("row",_),("found",_),("depth",_),("weight",_),("opened",_),("level",_)] 4. 4.<|uy (L:=L)<|qd ?_;show ag (cV W) (cH W)<|aG 4. 4.<|CL.of (j:=k+1) (hZ W ?_) 3.;show⟨_,_,_,_,4.,4.,?_⟩;show ux<|dE<|ae<|af 4. 4.<|aP (eZ W)<|lD<|aK<|bk 4. ?_;show bW<|ae<|af 4. 4.<|aP (eA W)<|lD<|aK<|bk 4.<|aR ?_;show ag (bX W) trivial<|bE W 4. 4. 4. 4. nofun<|aS 4. (by have:=H.hz;omega)<|gf [("self",_),("row",_),("found",_),("depth",_),("weight",_),("opened",_),("level",_),("k",_)] 4. 4.<|aW<|aq<|ah W 4. 4. 4. 4. nofun<|bU 4. Kf Ke ?_;show az trivial<|aG 4. 4.<|bf 4. (by have:=H.hz;omega)<|stc (eb (by show dB 4.))<|aH<|aZ<|af 4. 4.<|ah W 4. 4. 4. 4. nofun ?_;show af 4. 4.<|dz 4. H.kk H.nd (by have:=H.hi;omega) ?_;rw[cU hn];show stc (eb (by show dB 4.))<|aH<|aW<|aq<|ah W 4. 4. 4. 4. nofun<|bU 4. Kf Ke<|az trivial<|aG 4. 4. ?_;show bf 4. (by have:=H.hd;omega)<|stc (eb (by show dB 4.))<|aH<|aW<|aq<|ah W 4. 4. 4. 4. nofun<|bU 4. Kf Ke<|az trivial ?_;show aG 4. 4.<|bf 4. (by have:=H.hw;omega)<|stc (eb (by show dB 4.))<|aH<|aW<|aq<|ah W 4. 4. 4. 4. nofun<|bU 4. Kf Ke ?_;show az trivial<|aG 4. 4.<|bf 4. (by have:=H.ho;omega)<|stc (eb (by show dB 4.))<|aH<|aw<|af 4. 4.<|Km.ret ?_;show fin (Kr.refl _) h
theorem CM(W:Lw D){t:Int}(h0:0<=t)(h1:t<K.rows.length)(hx:K.rows[t.toNat]? =some (.tup<|.int 6::ms))(hv:t≠0)(hu:t≠14)(e1:K.dep[t.toNat]? =some (.int 1))(e2:K.wei[t.toNat]? =some (.int 1))(e3:K.ope[t.toNat]? =some (.int 1))(H:KOk K<|.tup [.int 4,.int t])(hn:b9 K.idx (.tup [.int 4,.int t])=none)(h:Q (.int K.rows.length)<|S b ⟨ktL ⟨K.rows++[.tup [.int 4,.int t]],K.idx++[(.tup [.int 4,.int t],.int K.rows.length)],K.dep++[.int 2],K.wei++[.int 2],K.ope++[.int 1]⟩,b1,b2,b3,b4,tb,td⟩):CD D (k+4) (S b ⟨ktL K,b1,b2,b3,b4,tb,td⟩) (.ref<|.inl 369) [rf 0 0,.tup [.int 4,.int t]] Q:=by
 show bR (W.K▸dn _) 4. λL=>?_;show bx ?_;show aq ?_;show ah W 4. 4. 4. 4. nofun ?_;show fc (.inl 4.) F.slot_dict_get F.type_dict_get ?_;show az trivial ?_;show bo 4. 4. ?_;show aa ?_;show bT<|aA<|gc<|ab<|gq (.inl 4.) H.kk H.nd ?_;rw[hn];show asg [("self",_),("row",_),("found",_)] 4. 4.<|dE<|ae<|af 4. 4.<|aA<|sR (a:= -1)<|aK<|bk 4. ?_;show aW<|ag (d9 W) (dZ W)<|bo 4. 4.<|aG 4. 4.<|CL.of (j:=k+3) (jM W H.hz h0 h1 hx hv hu ?_) 3.;show ge<|aA<|dC [("self",_),("row",_),("found",_),("depth",_)] 4. 4.<|bx<|aA<|dC [("self",_),("row",_),("found",_),("depth",_),("weight",_)] 4. 4.<|bx<|aA ?_;show asg [("self",_),("row",_),("found",_),("depth",_),("weight",_),("opened",_)] 4. 4.<|dE<|aF<|ai<|ae<|aN 4. 4. 1. 1. 4.<|aP (gu W)<|cA ?_;show ck 4.<|ai<|ae<|aN 4. 4. 1. 1. 4.<|aP (pp W)<|cA<|ck 4.<|aY ?_;show bk 4.<|aR<|ag (iu W) (gE W)<|aa<|aN 4. 4. 1. 1. 4.<|ab<|CL.of (j:=k+1) (rU W ?_) 3.;show gf [("self",_),("row",_),("found",_),("depth",_),("weight",_),("opened",_),("level",_)] 4. 4.<|uy (L:=L)<|qd ?_;show ag (cV W) (cH W)<|aG 4. 4.<|CL.of (j:=k+1) (ia W ?_) 3.;show⟨_,_,_,_,4.,4.,?_⟩;show xe λR=>(cJ [("self",_),("row",_),("found",_),("depth",_),("weight",_),("opened",_),("level",_),("inner",_)] 4.<|ao<|bW<|ae<|aC<|aX<|ah W 4. 4. 4. 4. nofun ?_);show af 4. 4.<|bd 4. h0 (by have:=H.hz;show g9 ‹_› ‹_› 4.) e1<|af 4. 4.<|dP<|af 4. 4.<|lD<|oB 4.<|bx ?_;show aC<|aX<|ah W 4. 4. 4. 4. nofun<|af 4. 4.<|bd 4. h0 (by have:=H.hz;show g9 ‹_› ‹_› 4.) e1<|af 4. 4.<|dP<|dC [("self",_),("row",_),("found",_),("depth",_),("weight",_),("opened",_),("level",_),("inner",_)] 4. 4. ?_;show aT<|aH<|rY 4.<|aX<|ah W 4. 4. 4. 4. nofun<|af 4. 4.<|bd 4. h0 (by have:=H.hz;show g9 ‹_› ‹_› 4.) e2<|rb ?_;show asg [("self",_),("row",_),("found",_),("depth",_),("weight",_),("opened",_),("level",_),("inner",_)] 4. 4.<|dE<|ae<|aX<|ah W 4. 4. 4. 4. nofun<|af 4. 4.<|bd 4. h0 (by have:=H.hz;show g9 ‹_› ‹_› 4.) e3<|aA ?_;show cA<|cf 4.<|bx<|aA<|dC [("self",_),("row",_),("found",_),("depth",_),("weight",_),("opened",_),("level",_),("inner",_)] 4. 4.<|aT<|Km.next<|aT ?_;show en (Kr.refl _)<|ux<|dE<|ae<|af 4. 4.<|aP (eZ W)<|lD<|aK ?_;show bk 4.<|bW<|ae<|af 4. 4.<|aP (eA W)<|lD<|aK<|bk 4. ?_;show aR<|ag (bX W) trivial<|bE W 4. 4. 4. 4. nofun<|aS 4. (by have:=H.hz;omega)<|gf [("self",_),("row",_),("found",_),("depth",_),("weight",_),("opened",_),("level",_),("inner",_),("k",_)] 4. 4.<|aW<|aq<|ah W 4. 4. 4. 4. nofun ?_;show bU 4. Kf Ke<|az trivial<|aG 4. 4.<|bf 4. (by have:=H.hz;omega)<|stc (eb (by show dB 4.))<|aH<|aZ<|af 4. 4. ?_;show ah W 4. 4. 4. 4. nofun<|af 4. 4.<|dz 4. H.kk H.nd (by have:=H.hi;omega) ?_;rw[cU hn];show stc (eb (by show dB 4.))<|aH<|aW<|aq<|ah W 4. 4. 4. 4. nofun<|bU 4. Kf Ke<|az trivial<|aG 4. 4. ?_;show bf 4. (by have:=H.hd;omega)<|stc (eb (by show dB 4.))<|aH<|aW<|aq<|ah W 4. 4. 4. 4. nofun<|bU 4. Kf Ke<|az trivial ?_;show aG 4. 4.<|bf 4. (by have:=H.hw;omega)<|stc (eb (by show dB 4.))<|aH<|aW<|aq<|ah W 4. 4. 4. 4. nofun<|bU 4. Kf Ke ?_;show az trivial<|aG 4. 4.<|bf 4. (by have:=H.ho;omega)<|stc (eb (by show dB 4.))<|aH<|aw<|af 4. 4.<|Km.ret ?_;show fin (Kr.refl _) h
theorem xg(W:Lw D){row:MV}{i:Int}(h0:0<=i)(H:KOk K row)(hn:b9 K.idx row=some (.int i))(h:Q (.int i)<|S b ⟨ktL K,b1,b2,b3,b4,tb,td⟩):CD D (k+1) (S b ⟨ktL K,b1,b2,b3,b4,tb,td⟩) (.ref<|.inl 369) [rf 0 0,row] Q:=by
 show bR (W.K▸dn _) 4. λL=>?_;show bx ?_;show aq ?_;show ah W 4. 4. 4. 4. nofun ?_;show fc (.inl 4.) F.slot_dict_get F.type_dict_get ?_;show az trivial ?_;show bo 4. 4. ?_;show aa ?_;show bT<|aA<|gc<|ab<|gq (.inl 4.) H.kk H.nd ?_;rw[hn];show asg [("self",_),("row",_),("found",_)] 4. 4.<|dE<|ae<|af 4. 4.<|aA<|sR (a:=i)<|oB (by simp;omega)<|ao ?_;show aw<|af 4. 4.<|Km.ret<|Km.ret<|fin (Kr.refl _) h
end
theorem qe{es:List<|MV×MV}{v:MV}(hm:c8 m=true)(hn:b9 es m=none)(nd:(es.map (·.1)).Nodup):((es++[(m,v)]).map (·.1)).Nodup:=by
 rw[Ki];show List.nodup_append.mpr ⟨nd,by simp,λa ha c hc e=>?_⟩;simp at hc;subst hc;obtain⟨p,hp,rfl⟩:=List.mem_map.mp ha;unfold b9 at hn;rw[Option.map_eq_none_iff,List.find?_eq_none]at hn;show hn p hp (by rw[e];show c9 _ (bP hm).1)
noncomputable def CN:MV:=.tup [.int 6,.int 0]
noncomputable def CO:MV:=.tup [.int 4,.int 16]
noncomputable def x9:MV:=.tup [.int 2,.int 2,.tup []]
def K1:KS:=⟨(Kn 16).rows++[CN],(Kn 16).idx++[(CN,.int 16)],(Kn 16).dep++[.int 1],(Kn 16).wei++[.int 1],(Kn 16).ope++[.int 1]⟩
def K2:KS:=⟨K1.rows++[CO],K1.idx++[(CO,.int 17)],K1.dep++[.int 2],K1.wei++[.int 2],K1.ope++[.int 1]⟩
def K3:KS:=⟨K2.rows++[x9],K2.idx++[(x9,.int 18)],K2.dep++[.int 1],K2.wei++[.int 1],K2.ope++[.int 0]⟩
theorem K0n:b9 (Kn 16).idx CN=none:=by kernel_rfl
theorem K1n:b9 K1.idx CO=none:=by kernel_rfl
theorem K2n:b9 K2.idx x9=none:=by kernel_rfl
theorem K3n:b9 K3.idx x9=some (.int 18):=by kernel_rfl
theorem K0d:((Kn 16).idx.map (·.1)).Nodup:=CI 16
theorem K1d:(K1.idx.map (·.1)).Nodup:=qe 2. K0n K0d
theorem K2d:(K2.idx.map (·.1)).Nodup:=qe 2. K1n K1d
theorem K3d:(K3.idx.map (·.1)).Nodup:=qe 2. K2n K2d
theorem JH:KOk (Kn 16) CN:=⟨by decide,by decide,by decide,by decide,by decide,by kernel_rfl,K0d⟩
theorem JI:KOk K1 CO:=⟨by decide,by decide,by decide,by decide,by decide,by kernel_rfl,K1d⟩
theorem JJ:KOk K2 x9:=⟨by decide,by decide,by decide,by decide,by decide,by kernel_rfl,K2d⟩
theorem JK:KOk K3 x9:=⟨by decide,by decide,by decide,by decide,by decide,by kernel_rfl,K3d⟩
section
theorem vM(W:Lw D)(h:Q (.int 16)<|S b ⟨ktL K1,b1,b2,b3,b4,tb,td⟩):CD D (k+5) (S b ⟨ktL<|Kn 16,b1,b2,b3,b4,tb,td⟩) (.ref<|.inl 453) [rf 0 0,.int 0] Q:=by
 show bR (W.K▸s8 _) 4. λL=>(ao<|aw<|bV W 4. 4. (f:=369) 4. 4. (dq W)<|aa<|aI<|bM (gu W)<|aG 4. 4. ?_);show ce<|ab<|CL.of (j:=k+4) (CJ W 1. JH K0n ?_) 3.;show Km.ret<|fin (Kr.refl _) h
theorem r0(W:Lw D)(h:Q (.int 17)<|S b ⟨ktL K2,b1,b2,b3,b4,tb,td⟩):CD D (k+5) (S b ⟨ktL K1,b1,b2,b3,b4,tb,td⟩) (.ref<|.inl 446) [rf 0 0,.int 16] Q:=by
 show bR (W.K▸pf _) 4. λL=>(ao<|aw<|bV W 4. 4. (f:=369) 4. 4. (dq W)<|aa<|aI<|bM (d5 W)<|aG 4. 4. ?_);show ce<|ab<|CL.of (j:=k+4) (CM W (ms:=[.int 0]) 1. 1. 4. 1. 1. 4. 4. 4. JI K1n ?_) 3.;show Km.ret<|fin (Kr.refl _) h
theorem qf(W:Lw D)(h:Q (.int 18)<|S b ⟨ktL K3,b1,b2,b3,b4,tb,td⟩):CD D (k+5) (S b ⟨ktL K2,b1,b2,b3,b4,tb,td⟩) (.ref<|.inl 432) [rf 0 0,.int 2,.tup []] Q:=by
 show bR (W.K▸iS _) 4. λL=>(ao<|bW<|ae<|af 4. 4.<|aP (jE W)<|rj (iw W _) (bg 1.) (cy 1. 1.)<|aK ?_);show bk 4.<|aw<|bV W 4. 4. (f:=369) 4. 4. (dq W)<|aa<|aI<|bM (bF W)<|bo 4. 4.<|aG 4. 4. ?_;show ce<|ab<|CL.of (j:=k+4) (CK W 1. 4. JJ K2n ?_) 3.;show Km.ret<|fin (Kr.refl _) h
theorem nU(W:Lw D)(h:Q (.int 18)<|S b ⟨ktL K3,b1,b2,b3,b4,tb,td⟩):CD D (k+5) (S b ⟨ktL K3,b1,b2,b3,b4,tb,td⟩) (.ref<|.inl 432) [rf 0 0,.int 2,.tup []] Q:=by
 show bR (W.K▸iS _) 4. λL=>(ao<|bW<|ae<|af 4. 4.<|aP (jE W)<|rj (iw W _) (bg 1.) (cy 1. 1.)<|aK ?_);show bk 4.<|aw<|bV W 4. 4. (f:=369) 4. 4. (dq W)<|aa<|aI<|bM (bF W)<|bo 4. 4.<|aG 4. 4. ?_;show ce<|ab<|CL.of (j:=k+1) (xg W 1. JK K3n ?_) 3.;show Km.ret<|fin (Kr.refl _) h
theorem qg(W:Lw D)(h:Q (.int 18)<|S b ⟨ktL K3,stL s,b2,b3,b4,tb,td⟩):CD D (k+6) (S b ⟨ktL K2,stL s,b2,b3,b4,tb,td⟩) (.ref<|.inl 684) [rf 1 0,.int 2] Q:=by
 show bR (W.K▸fC _) 4. λL=>(ao<|bW<|bh 4. 4. (gR W)<|cf 4.<|ao<|aw<|ag (j9 W) (i5 W) ?_);show b5 W 4. 4. 4. 4. nofun<|bM (iY W)<|aa<|aI<|ab<|ce<|ab<|CL.of (j:=k+5) (qf W ?_) 3.;show Km.ret<|Km.ret<|fin (Kr.refl _) h
theorem nV(W:Lw D)(h:Q (.int 18)<|S b ⟨ktL K3,stL s,b2,b3,b4,tb,td⟩):CD D (k+6) (S b ⟨ktL K3,stL s,b2,b3,b4,tb,td⟩) (.ref<|.inl 684) [rf 1 0,.int 2] Q:=by
 show bR (W.K▸fC _) 4. λL=>(ao<|bW<|bh 4. 4. (gR W)<|cf 4.<|ao<|aw<|ag (j9 W) (i5 W) ?_);show b5 W 4. 4. 4. 4. nofun<|bM (iY W)<|aa<|aI<|ab<|ce<|ab<|CL.of (j:=k+5) (nU W ?_) 3.;show Km.ret<|Km.ret<|fin (Kr.refl _) h
theorem qh(W:Lw D)(h:Q (.int<| -1)<|S b ⟨ktL K,stL s,b2,b3,b4,tb,td⟩):CD D (k+6) (S b ⟨ktL K,stL s,b2,b3,b4,tb,td⟩) (.ref<|.inl 684) [rf 1 0,.int 3] Q:=by
 show bR (W.K▸fC _) 4. λL=>(ao<|bW<|bh 4. 4. (gR W)<|bk 4.<|bW<|bh 4. 4. (iX W)<|bk 4. ?_);show bW<|bh 4. 4. (rC W)<|bk 4.<|aw<|bT<|aA<|gc<|Km.ret ?_;show fin (Kr.refl _) h
end
noncomputable def tdL(x:Nat)(a b c d e:MV)(fl:List MV)(g:MV):List Con:=[.n 624 [("tid",a),("name",b),("sort",c),("flags",d),("base",e),("ifaces",.ref (.inr (x,1))),("params",.ref (.inr (x,2))),("variances",.ref (.inr (x,3))),("bounds",.ref (.inr (x,4))),("fields",.ref (.inr (x,5))),("methods",.ref (.inr (x,6))),("asm",g),("cctor",.int 0),("under",.int (-1)),("impls",.ref (.inr (x,7))),("props",.ref (.inr (x,8))),("events",.ref (.inr (x,9))),("finaliser",.int 0),("home",.int 0)],.l [],.l [],.l [],.l [],.l fl,.l [],.l [],.l [],.l []]
theorem cM:(S b ⟨b0,b1,b2,b3,b4,tb,td⟩).m (.inr (t+105,j))=(td t)[j]? :=by
 change(if t+100<100 then tb (t+100)else td (t+100-100))[j]? =_;rw[if_neg 3.];rfl
theorem mi(h:t<100):(S b ⟨b0,b1,b2,b3,b4,tb,td⟩).m (.inr (t+5,j))=(tb t)[j]? :=by
 change(if t<100 then tb t else td (t-100))[j]? =_;rw[if_pos h]
set_option tactic.hygienic true in
theorem CP{a3:MV}(h:td t=[]):
 zU (S b ⟨b0,b1,b2,b3,b4,tb,td⟩) (t+105) a1 a2 a3 a4 a5 a6=S b ⟨b0,b1,b2,b3,b4,tb,fup td t<|tdL (t+105) a1 a2 a3 a4 a5 [] a6⟩:=by
 unfold zU;simp only[S,Kk.mk.injEq,and_true];funext n;rcases n with a|⟨i,j⟩
 ·rfl
 ·change(if i=t+105 then _ else(G.blk ⟨b0,b1,b2,b3,b4,tb,td⟩ i)[j]?)=(G.blk ⟨b0,b1,b2,b3,b4,tb,fup td t<|tdL (t+105) a1 a2 a3 a4 a5 [] a6⟩ i)[j]?;by_cases e:i=t+105
  ·subst e;rw[if_pos 4.];have hb: ∀td:Nat->List Con,G.blk ⟨b0,b1,b2,b3,b4,tb,td⟩ (t+105)=td t:=λtd=>by
    change(if t+100<100 then tb (t+100)else td (t+100-100))=_;rw[if_neg 3.];rfl
   rw[hb,hb,bm,h];rcases j with O|O|O|O|O|O|O|O|O|O|j
   ·rfl
   ·rfl
   ·rfl
   ·rfl
   ·rfl
   ·rfl
   ·rfl
   ·rfl
   ·rfl
   ·rfl
   ·rw[if_neg 3.,if_neg 3.];rfl
  ·rw[if_neg e];unfold G.blk;split<;>try rfl
   rename_i i;split
   ·rfl
   ·change(td<|i-100)[j]? =(fup td t _<|i-100)[j]?;rw[bq (by show Ir ‹_› ‹_›)]
theorem gJ{n:Nm}(h:st.m n=some (.l []))(q:Q (.int 0) st):CL D k st (.blt "len") [.ref n] Q:=aS h 1. q
theorem xh(q:Q (.int 0) st):CL D k st (.blt "len") [.tup []] Q:=dc 1. q
noncomputable def fdC(fid owner name kind access flags value:MV):Con:=.n 645 [("fid",fid),("owner",owner),("name",name),("kind",kind),("access",access),("flags",flags),("value",value)]
section
theorem mj(W:Lw D){so fl:Int}(ht:t<s.types.length)(hz:s.types.length<=900)(htd:td t=[])(hk:kok s.names (.tup [.int 0,.str nm,.int 0])=true)(hnd:(s.names.map (·.1)).Nodup)(hnz:s.names.length<=1000)(hnn:b9 s.names (.tup [.int 0,.str nm,.int 0])=none)(h:Q .none<|S b ⟨ktL K,stL {s with types:=s.types.set t<|rf (t+105) 0,names:=s.names++[(.tup [.int 0,.str nm,.int 0],.int t)]},b2,b3,b4,tb,(fup td t<|tdL (t+105) (.int t) (.str nm) (.int so) (.int fl) (.int<| -1) []<|.int 0)⟩):CD D (k+3) (S b ⟨ktL K,stL s,b2,b3,b4,tb,td⟩) (.ref<|.inl 677) [rf 1 0,.tup [.int t,.str nm,.int so,.int fl,.int 0,.tup [],.tup []]] Q:=by
 show bR (W.K▸rx _) 4. λL=>(bx<|bT<|aA<|gc<|asg [("store",_),("row",_),("base",_)] 4. 4.<|dE<|ae ?_);show aN 4. 4. 1. 1. 4.<|aA<|lD<|aK<|bk 4.<|aR<|ag (gw W) (ft W)<|aa ?_;show aN 4. 4. 1. 1. 4.<|aa<|aN 4. 4. 1. 1. 4.<|aa<|aN 4. 4. 1. 1. 4.<|aa<|aN 4. 4. 1. 1. 4.<|bo 4. 4. ?_;show aa<|aN 4. 4. 1. 1. 4.<|bp<|ab<|CL.of (j:=k+2) (gG (x:=t+105) W (λj=>by rw[cM,htd];rfl) (.inl 4.) ?_) 3.;show stc (CP htd)<|gf [("store",_),("row",_),("base",_),("shell",_)] 4. 4.<|eW<|cb ?_;show ag (cw W) trivial<|aa<|ag (bX W) trivial<|aa<|aN 4. 4. 1. 1. 4.<|ab<|dc (J9 4.)<|ab ?_;show dG ⟨_,0,_,bt 1. 1. 1.,4.,trivial,λO O O=>trivial,?_⟩;show aH<|aZ<|af 4. 4.<|ah W 4. 4. 4. 4. nofun<|aN 4. 4. 1. 1. 4.<|wK 4. 3. (by simpa using ht) 3.<|stc (fu (by show dB 4.))<|aH ?_;show aZ<|aN 4. 4. 1. 1. 4.<|ah W 4. 4. 4. 4. nofun<|aI<|bp<|aa<|aN 4. 4. 1. 1. 4.<|aa ?_;show ag (bX W) trivial<|aa<|aN 4. 4. 1. 1. 4.<|ab<|xh<|ab<|ce<|dz 4. hk hnd hnz ?_;rw[cU hnn];show stc (fu (by show dB 4.))<|Km.next<|aT<|fin (Kr.refl _) h
theorem tN(W:Lw D)(hp:b.m (.inl pa)=some (.l []))(hz:s.types.length<=900)(htd:td s.types.length=[])(hk:kok s.names (.tup [.int 1,.str nm,.int 0])=true)(hnd:(s.names.map (·.1)).Nodup)(hnz:s.names.length<=1000)(hnn:b9 s.names (.tup [.int 1,.str nm,.int 0])=none)(h:Q (.int s.types.length)<|S b ⟨ktL K,stL {s with types:=s.types++[rf (s.types.length+105) 0],names:=s.names++[(.tup [.int 1,.str nm,.int 0],.int s.types.length)]},b2,b3,b4,tb,(fup td s.types.length<|tdL (s.types.length+105) (.int s.types.length) (.str nm) (.int 1) (.int 0) (.int 12) []<|.int 1)⟩):CD D (k+3) (S b ⟨ktL K,stL s,b2,b3,b4,tb,td⟩) (.ref<|.inl 698) [rf 1 0,.int 1,.str nm,.int 1,.int 0,.int 12,.ref<|.inl pa] Q:=by
 show bR (W.K▸fF _) 4. λL=>(ao<|bW<|ae<|af 4. 4.<|aA<|oS<|aK ?_);show bk 4.<|aR<|ag (bX W) trivial<|bE W 4. 4. 4. 4. nofun<|aS 4. 3.<|gf [("store",_),("asm",_),("name",_),("sort",_),("flags",_),("base",_),("params",_),("tid",_)] 4. 4.<|aW<|aq ?_;show ah W 4. 4. 4. 4. nofun<|bU 4. Kf Ke<|az trivial<|aa<|ag (gw W) (ft W)<|bo 4. 4.<|bo 4. 4.<|bo 4. 4. ?_;show aa<|ag (eP W) (em W)<|bo 4. 4.<|aG 4. 4.<|CL.of (j:=k+1) (pY W ?_) 3.;show bo 4. 4.<|bo 4. 4.<|aG 4. 4.<|CL.of (j:=k+2) (gG (x:=s.types.length+105) W (λj=>by rw[cM,htd];rfl) (.inr ⟨.inl pa,4.,hp⟩) ?_) 3.;show stc (CP htd)<|ab<|bf 4. 3.<|stc (fu (by show dB 4.))<|ge<|aI<|bo 4. 4.<|bo 4. 4. ?_;show aa<|ag (bX W) trivial<|aG 4. 4.<|gJ hp<|ab<|ce<|asg [("store",_),("asm",_),("name",_),("sort",_),("flags",_),("base",_),("params",_),("tid",_),("key",_)] 4. 4.<|dE ?_;show ae<|af 4. 4.<|ah W 4. 4. 4. 4. nofun<|dX (.inl 4.) hk hnd ?_;rw[hnn];show oB 4.<|ao<|aZ<|af 4. 4.<|ah W 4. 4. 4. 4. nofun<|af 4. 4.<|dz 4. hk hnd hnz ?_;rw[cU hnn];show stc (fu (by show dB 4.))<|Km.next<|aT<|aH<|aw<|af 4. 4.<|Km.ret<|fin (Kr.refl _) h
theorem tO(W:Lw D)(hp:b.m (.inl pa)=some (.l []))(hz:s.types.length<=900)(htd:td s.types.length=[])(hk:kok s.names (.tup [.int 1,.str nm,.int 0])=true)(hnd:(s.names.map (·.1)).Nodup)(hnz:s.names.length<=1000)(hnn:b9 s.names (.tup [.int 1,.str nm,.int 0])=none)(h:Q (.int s.types.length)<|S b ⟨ktL K,stL {s with types:=s.types++[rf (s.types.length+105) 0],names:=s.names++[(.tup [.int 1,.str nm,.int 0],.int s.types.length)]},b2,b3,b4,tb,(fup td s.types.length<|tdL (s.types.length+105) (.int s.types.length) (.str nm) (.int 3) (.int 1) (.int<| -1) []<|.int 1)⟩):CD D (k+7) (S b ⟨ktL K,stL s,b2,b3,b4,tb,td⟩) (.ref<|.inl 698) [rf 1 0,.int 1,.str nm,.int 3,.int 0,.int<| -1,.ref<|.inl pa] Q:=by
 show bR (W.K▸fF _) 4. λL=>(ao<|bW<|ae<|af 4. 4.<|aA<|oS<|oB 4. ?_);show bx<|ag (gC W) (fS W)<|bo 4. 4.<|aG 4. 4.<|CL.of (j:=k+6) (qh W ?_) 3.;show dC [("store",_),("asm",_),("name",_),("sort",_),("flags",_),("base",_),("params",_)] 4. 4.<|aT<|ge<|ag (bX W) trivial<|bE W 4. 4. 4. 4. nofun<|aS 4. 3.<|gf [("store",_),("asm",_),("name",_),("sort",_),("flags",_),("base",_),("params",_),("tid",_)] 4. 4.<|aW ?_;show aq<|ah W 4. 4. 4. 4. nofun<|bU 4. Kf Ke<|az trivial<|aa<|ag (gw W) (ft W)<|bo 4. 4.<|bo 4. 4. ?_;show bo 4. 4.<|aa<|ag (eP W) (em W)<|bo 4. 4.<|aG 4. 4.<|CL.of (j:=k+1) (pX W ?_) 3.;show bo 4. 4.<|bo 4. 4.<|aG 4. 4.<|CL.of (j:=k+2) (gG (x:=s.types.length+105) W (λj=>by rw[cM,htd];rfl) (.inr ⟨.inl pa,4.,hp⟩) ?_) 3.;show stc (CP htd)<|ab<|bf 4. 3.<|stc (fu (by show dB 4.))<|ge<|aI<|bo 4. 4.<|bo 4. 4. ?_;show aa<|ag (bX W) trivial<|aG 4. 4.<|gJ hp<|ab<|ce<|asg [("store",_),("asm",_),("name",_),("sort",_),("flags",_),("base",_),("params",_),("tid",_),("key",_)] 4. 4.<|dE ?_;show ae<|af 4. 4.<|ah W 4. 4. 4. 4. nofun<|dX (.inl 4.) hk hnd ?_;rw[hnn];show oB 4.<|ao<|aZ<|af 4. 4.<|ah W 4. 4. 4. 4. nofun<|af 4. 4.<|dz 4. hk hnd hnz ?_;rw[cU hnn];show stc (fu (by show dB 4.))<|Km.next<|aT<|aH<|aw<|af 4. 4.<|Km.ret<|fin (Kr.refl _) h
theorem tP(W:Lw D)(hp:b.m (.inl pa)=some (.l []))(hz:s.types.length<=900)(htd:td s.types.length=[])(hk:kok s.names (.tup [.int 1,.str nm,.int 0])=true)(hnd:(s.names.map (·.1)).Nodup)(hnz:s.names.length<=1000)(hnn:b9 s.names (.tup [.int 1,.str nm,.int 0])=none)(h:Q (.int s.types.length)<|S b ⟨ktL K3,stL {s with types:=s.types++[rf (s.types.length+105) 0],names:=s.names++[(.tup [.int 1,.str nm,.int 0],.int s.types.length)]},b2,b3,b4,tb,(fup td s.types.length<|tdL (s.types.length+105) (.int s.types.length) (.str nm) (.int 2) (.int 2) (.int 18) []<|.int 1)⟩):CD D (k+7) (S b ⟨ktL K2,stL s,b2,b3,b4,tb,td⟩) (.ref<|.inl 698) [rf 1 0,.int 1,.str nm,.int 2,.int 0,.int<| -1,.ref<|.inl pa] Q:=by
 show bR (W.K▸fF _) 4. λL=>(ao<|bW<|ae<|af 4. 4.<|aA<|oS<|oB 4. ?_);show bx<|ag (gC W) (fS W)<|bo 4. 4.<|aG 4. 4.<|CL.of (j:=k+6) (qg W ?_) 3.;show dC [("store",_),("asm",_),("name",_),("sort",_),("flags",_),("base",_),("params",_)] 4. 4.<|aT<|ge<|ag (bX W) trivial<|bE W 4. 4. 4. 4. nofun<|aS 4. 3.<|gf [("store",_),("asm",_),("name",_),("sort",_),("flags",_),("base",_),("params",_),("tid",_)] 4. 4.<|aW ?_;show aq<|ah W 4. 4. 4. 4. nofun<|bU 4. Kf Ke<|az trivial<|aa<|ag (gw W) (ft W)<|bo 4. 4.<|bo 4. 4. ?_;show bo 4. 4.<|aa<|ag (eP W) (em W)<|bo 4. 4.<|aG 4. 4.<|CL.of (j:=k+1) (jd W ?_) 3.;show bo 4. 4.<|bo 4. 4.<|aG 4. 4.<|CL.of (j:=k+2) (gG (x:=s.types.length+105) W (λj=>by rw[cM,htd];rfl) (.inr ⟨.inl pa,4.,hp⟩) ?_) 3.;show stc (CP htd)<|ab<|bf 4. 3.<|stc (fu (by show dB 4.))<|ge<|aI<|bo 4. 4.<|bo 4. 4. ?_;show aa<|ag (bX W) trivial<|aG 4. 4.<|gJ hp<|ab<|ce<|asg [("store",_),("asm",_),("name",_),("sort",_),("flags",_),("base",_),("params",_),("tid",_),("key",_)] 4. 4.<|dE ?_;show ae<|af 4. 4.<|ah W 4. 4. 4. 4. nofun<|dX (.inl 4.) hk hnd ?_;rw[hnn];show oB 4.<|ao<|aZ<|af 4. 4.<|ah W 4. 4. 4. 4. nofun<|af 4. 4.<|dz 4. hk hnd hnz ?_;rw[cU hnn];show stc (fu (by show dB 4.))<|Km.next<|aT<|aH<|aw<|af 4. 4.<|Km.ret<|fin (Kr.refl _) h
theorem r3(W:Lw D)(hp:b.m (.inl pa)=some (.l []))(hz:s.types.length<=900)(htd:td s.types.length=[])(hk:kok s.names (.tup [.int 1,.str nm,.int 0])=true)(hnd:(s.names.map (·.1)).Nodup)(hnz:s.names.length<=1000)(hnn:b9 s.names (.tup [.int 1,.str nm,.int 0])=none)(h:Q (.int s.types.length)<|S b ⟨ktL K3,stL {s with types:=s.types++[rf (s.types.length+105) 0],names:=s.names++[(.tup [.int 1,.str nm,.int 0],.int s.types.length)]},b2,b3,b4,tb,(fup td s.types.length<|tdL (s.types.length+105) (.int s.types.length) (.str nm) (.int 2) (.int 2) (.int 18) []<|.int 1)⟩):CD D (k+7) (S b ⟨ktL K3,stL s,b2,b3,b4,tb,td⟩) (.ref<|.inl 698) [rf 1 0,.int 1,.str nm,.int 2,.int 0,.int<| -1,.ref<|.inl pa] Q:=by
 show bR (W.K▸fF _) 4. λL=>(ao<|bW<|ae<|af 4. 4.<|aA<|oS<|oB 4. ?_);show bx<|ag (gC W) (fS W)<|bo 4. 4.<|aG 4. 4.<|CL.of (j:=k+6) (nV W ?_) 3.;show dC [("store",_),("asm",_),("name",_),("sort",_),("flags",_),("base",_),("params",_)] 4. 4.<|aT<|ge<|ag (bX W) trivial<|bE W 4. 4. 4. 4. nofun<|aS 4. 3.<|gf [("store",_),("asm",_),("name",_),("sort",_),("flags",_),("base",_),("params",_),("tid",_)] 4. 4.<|aW ?_;show aq<|ah W 4. 4. 4. 4. nofun<|bU 4. Kf Ke<|az trivial<|aa<|ag (gw W) (ft W)<|bo 4. 4.<|bo 4. 4. ?_;show bo 4. 4.<|aa<|ag (eP W) (em W)<|bo 4. 4.<|aG 4. 4.<|CL.of (j:=k+1) (jd W ?_) 3.;show bo 4. 4.<|bo 4. 4.<|aG 4. 4.<|CL.of (j:=k+2) (gG (x:=s.types.length+105) W (λj=>by rw[cM,htd];rfl) (.inr ⟨.inl pa,4.,hp⟩) ?_) 3.;show stc (CP htd)<|ab<|bf 4. 3.<|stc (fu (by show dB 4.))<|ge<|aI<|bo 4. 4.<|bo 4. 4. ?_;show aa<|ag (bX W) trivial<|aG 4. 4.<|gJ hp<|ab<|ce<|asg [("store",_),("asm",_),("name",_),("sort",_),("flags",_),("base",_),("params",_),("tid",_),("key",_)] 4. 4.<|dE ?_;show ae<|af 4. 4.<|ah W 4. 4. 4. 4. nofun<|dX (.inl 4.) hk hnd ?_;rw[hnn];show oB 4.<|ao<|aZ<|af 4. 4.<|ah W 4. 4. 4. 4. nofun<|af 4. 4.<|dz 4. hk hnd hnz ?_;rw[cU hnn];show stc (fu (by show dB 4.))<|Km.next<|aT<|aH<|aw<|af 4. 4.<|Km.ret<|fin (Kr.refl _) h
theorem tQ(W:Lw D){kd ac:Int}{a3:MV}(ht:s.types[t]? =some (rf (t+105) 0))(hz:s.types.length<=900)(h1:t<s.types.length)(hf:s.flds.length<=900)(hfl:fl.length<=900)(htd:td t=tdL (t+105) a1 a2 a3 a4 a5 fl a6)(h:Q (.int s.flds.length)<|S b ⟨ktL K,stL {s with flds:=s.flds++[rf 3 b3.length]},b2,(b3++[fdC (.int s.flds.length) (.int t) (.str nm) (.int kd) (.int ac) (.int fg) .none]),b4,tb,(fup td t<|tdL (t+105) a1 a2 a3 a4 a5 (fl++[.int s.flds.length]) a6)⟩):CD D (k+3) (S b ⟨ktL K,stL s,b2,b3,b4,tb,td⟩) (.ref<|.inl 705) [rf 1 0,.int t,.str nm,.int kd,.int ac,.int fg] Q:=by
 show bR (W.K▸ry _) 4. λL=>?_;show bx ?_;show aX ?_;show ah W 4. 4. 4. 4. nofun ?_;show af 4. 4. ?_;show bd 4. 3. 3. (by simpa using ht) ?_;show dC [("store",_),("tid",_),("name",_),("kind",_),("access",_),("flags",_),("t",_)] 4. 4. ?_;show bx ?_;show ag (bX W) trivial<|bE W 4. 4. 4. 4. nofun<|aS 4. 3.<|gf [("store",_),("tid",_),("name",_),("kind",_),("access",_),("flags",_),("t",_),("fid",_)] 4. 4.<|aW<|aq<|ah W 4. 4. 4. 4. nofun<|bU 4. Kf Ke ?_;show az trivial<|aa<|ag (vr W) (tC W)<|bo 4. 4.<|bo 4. 4.<|bo 4. 4.<|bo 4. 4.<|bo 4. 4. ?_;show aG 4. 4.<|CL.of (j:=k+2) (vH (p:=(3,b3.length)) W (List.getElem?_eq_none<|Kj _) ?_) 3.;show stc (HP (by rfl))<|ab<|bf 4. 3.<|stc (fu (by show dB 4.))<|aH<|aW<|aq<|ah W 4. 4. (by rw[cM,htd];rfl) (by show rfl) (by nofun) ?_;show bU (by rw[cM,htd];rfl) Kf Ke<|az trivial<|aG 4. 4.<|bf (by rw[cM,htd];rfl) 3. ?_;rw[HS (by rw[htd];show dB 4.),htd];show aH<|aw<|af 4. 4.<|Km.ret<|fin (Kr.refl _) h
end
section
theorem kA{fd:FuncData}(F:FnAt D.K f fd body names)(hl:ms.length=names.length)
 (h: ∀L,WFc D k (S (b.push L<|names.zip ms) g) (execs body<|callEnv fd L f) (End b Q)):CDc D (k+1) (S b g) (.ref<|.inl f) ms Q:=by
 show CDc.lessen<|zO F hl λL=>WPc.mono (h L) ?_;rintro mf st' ⟨b',L',ρ,g',rfl,t,q⟩;show⟨S b g',t.less g',q⟩
theorem gT{p value pos}{Q:MF->Kk->Prop}(h:WVc D k (S b g) (eval value env)<|Asg env x<|Q .next)
 (hl:env.kindOf (Str.ofString x)=some .local:=by kernel_rfl)(hp:(env.scope.kind==.class||(env.scope.kind==.module&&env.locals !=env.globals))=false:=by rfl)
 (hs:swapsWith value (some<|.Name (Str.ofString x) p) pos.line env=pure false:=by rfl):WFc D k (S b g) (exec (.Assign [.Name (Str.ofString x) p] value pos) env) Q:=by
 show mY (WPc.mono h ?_) hl hp hs;rintro m st1 ⟨b',L,ρ,g',ρ',rfl,rfl,rfl,q⟩;show⟨ρ,b'.fr,4.,q⟩
abbrev CQ(D:Wd)(k:Nat)(env:Env)(target:Expr)(body:List Stmt)(L:Addr)(Q:MF->Kk->Prop):Kk->(Kk->Prop)->Nat->(Nat->MV)->Prop:=ForSI D k env target (λst2 P=>WFc D k st2 (execs body env) P) L Q
theorem HT{Q:MF->Kk->Prop}(P:Nat->List (String×MV)->G->Prop)
 (h1: ∀i ρ g R,P i ρ g->src (S (({b' with raw:=R}:Kk).push L ρ) g))(h2:P 0 ρ' g')
 (h3: ∀i ρ g R,i<n->P i ρ g->OP D TU k (S (({b' with raw:=R}:Kk).push L ρ) g) [item i] (λvs=>assign target env<|vs.getD 0 .none) λO st2=>WFc D k st2 (execs body env)<|tL b' R L (P<|i+1) Q)
 (h4: ∀ρ g,P n ρ g->Q .next (S (b'.push L ρ) g)):CQ D k env target body L Q (S (b'.push L ρ') g') src n item:=⟨P,b',ρ',g',4.,h1,h2,h3,h4⟩
theorem AO{Q:MF->Kk->Prop}(h:IT D k env st iter target<|CQ D k env target body L Q)
 (hs: ∀x,foldedSetIterable iter env x=pure x:=by intro O;rfl):WFc D k st (exec (.For target iter body [] pos) env) Q:=
 wU (IT.mono h λO O O O z=>Cy (λw q=>WPc.lessen<|WPc.mono w q)<|Cz (λw q=>WPc.lessen<|WPc.mono w q) z) hs
end
set_option genInjectivity false in
structure PG where
 ts:List<|MV×MV
 texts:List MV
 blobs:List MV
 tids:List MV
 trows:List<|MV×MV
 frows:List<|MV×MV
 arefs:List<|MV×MV
 trefs:List<|MV×MV
noncomputable def pgI(a:Addr):Con:=.n 603 [("store",.ref (.inr (1,0))),("asm",.int 1),("ts",.ref (.inr (2,2))),("texts",.ref (.inr (2,4))),("users",.ref (.inr (2,6))),("guids",.ref (.inr (2,8))),("blobs",.ref (.inr (2,10))),("code",.ref (.inl a)),("tokens",.none),("tids",.ref (.inr (2,11))),("type_rows",.ref (.inr (2,12))),("field_rows",.ref (.inr (2,13))),("method_rows",.ref (.inr (2,14))),("asm_refs",.ref (.inr (2,15))),("type_refs",.ref (.inr (2,16))),("specs",.ref (.inr (2,17))),("members",.ref (.inr (2,18))),("method_specs",.ref (.inr (2,19))),("locals_sigs",.ref (.inr (2,20))),("rvas",.ref (.inr (2,21)))]
def pgL(a:Addr)(p:PG):List Con:=[pgI a,.d p.ts,.n 575 [("rows",.ref (.inr (2,1)))],.l p.texts,.n 533 [("rows",.ref (.inr (2,3)))],.l [.str<|-""],.n 533 [("rows",.ref (.inr (2,5)))],.l [.bytes #[]],.n 533 [("rows",.ref (.inr (2,7)))],.l p.blobs,.n 533 [("rows",.ref (.inr (2,9)))],.l p.tids,.d p.trows,.d p.frows,.d [],.d p.arefs,.d p.trefs,.d [],.d [],.d [],.d [],.d []]
abbrev ml(env:Env)(s:String)(x:String)(C:Addr)(Q:MF->Kk->Prop)(m:MV)(st1:Kk):Prop:= ∃(b':Kk) (L:Addr) (ρ:List (String×MV)) (b0 b1 b3 b4:List Con) (tb td:Nat->List Con) (fs fs':List (String×MV)) (rest:List Con),st1=S (b'.push L ρ) ⟨b0,b1,.n C fs::rest,b3,b4,tb,td⟩/\L=env.locals/\lk s ρ=some (rf 2 0)/\
 pt x m fs=fs'/\fs'.length<=1000/\Q .next (S (b'.push L ρ) ⟨b0,b1,.n C fs'::rest,b3,b4,tb,td⟩)
theorem ca{s:String}{p:Pos}{Q:MF->Kk->Prop}(ok:lx D.K C (Str.ofString x)=true)
 (h:WV D k st (eval value env)<|ml env s x C Q)
 (hl:env.kindOf (Str.ofString s)=some .local:=by kernel_rfl)(hk:env.scope.kind=.function:=by rfl)(hd:(Str.ofString s==("__debug__":Str))=false:=by kernel_rfl)
 (hs:swapsWith value (some<|.Attribute (.Name (Str.ofString s) p') (Str.ofString x) p) pos.line env=pure false:=by rfl):WF D k st (exec (.Assign [.Attribute (.Name (Str.ofString s) p') (Str.ofString x) p] value pos) env) Q:=by
 show aB (WP.mono h ?_) hs;rintro m st1 ⟨b',L,ρ,b0,b1,b3,b4,tb,td,fs,fs',rest,rfl,rfl,hl',rfl,hz,q⟩;show oI 4. hl' ?_ hl hk hd;show br 4. ok ?_ hz;rw[kZ (by show dB 4.)];show q
abbrev r5(env:Env)(s:String)(x:String)(C:Addr)(Q:MF->Kk->Prop)(m:MV)(st1:Kk):Prop:= ∃(b':Kk) (L:Addr) (ρ:List (String×MV)) (b0 b1 b3 b4:List Con) (tb td:Nat->List Con) (fs fs':List (String×MV)) (rest:List Con),st1=S (b'.push L ρ) ⟨b0,b1,.n C fs::rest,b3,b4,tb,td⟩/\L=env.locals/\lk s ρ=some (rf 2 0)/\
 pt x m fs=fs'/\fs'.length<=1000/\Q .next (S (b'.push L ρ) ⟨b0,b1,.n C fs'::rest,b3,b4,tb,td⟩)
theorem xi{s:String}{p:Pos}{Q:MF->Kk->Prop}(ok:lx D.K C (Str.ofString x)=true)
 (h:WVc D k st (eval value env)<|r5 env s x C Q)
 (hl:env.kindOf (Str.ofString s)=some .local:=by kernel_rfl)(hk:env.scope.kind=.function:=by rfl)(hd:(Str.ofString s==("__debug__":Str))=false:=by kernel_rfl)
 (hs:swapsWith value (some<|.Attribute (.Name (Str.ofString s) p') (Str.ofString x) p) pos.line env=pure false:=by rfl):WFc D k st (exec (.Assign [.Attribute (.Name (Str.ofString s) p') (Str.ofString x) p] value pos) env) Q:=by
 show o3 (WPc.mono h ?_) hs;rintro m st1 ⟨b',L,ρ,b0,b1,b3,b4,tb,td,fs,fs',rest,rfl,rfl,hl',rfl,hz,q⟩;show oI 4. hl' ?_ hl hk hd;show br 4. ok ?_ hz;rw[kZ (by show dB 4.)];show q
theorem at2{s:String}{Q:MF->Kk->Prop}{rest:List Con}{fs:List<|String×MV}(fs':List<|String×MV)(h1:L=env.locals)(h2:lk s ρ=some (rf 2 0))(h3:pt x m fs=fs')(h4:fs'.length<=1000)
 (h:Q .next<|S (b'.push L ρ) ⟨b0,b1,.n C fs'::rest,b3,b4,tb,td⟩):ml env s x C Q m<|S (b'.push L ρ) ⟨b0,b1,.n C fs::rest,b3,b4,tb,td⟩:=⟨b',L,ρ,b0,b1,b3,b4,tb,td,fs,fs',rest,4.,h1,h2,h3,h4,h⟩
noncomputable def pg0:PG:=⟨[],[.str<|-""],[.bytes #[]],[],[],[],[],[]⟩
section
theorem r6(W:Lw D)(h: ∀a,Q .none (S b ⟨b0,b1,pgL a pg0,b3,b4,tb,td⟩)):CDc D (k+4) (S b ⟨b0,b1,[.n 603 []],b3,b4,tb,td⟩) (.ref<|.inl 593) [rf 2 0,rf 1 0,.int 1] Q:=by
 show kA (W.K▸pg _) 4. λL=>(aD<|WP.c ?_);show ca (C:=603) (by rw[W.K];kernel_rfl)<|af 4. 4.<|at2 [("store",_)] 4. 4. 4. (J9 4.)<|Km.next<|aD<|WP.c ?_;show ca (C:=603) (by rw[W.K];kernel_rfl)<|af 4. 4.<|at2 [("store",_),("asm",_)] 4. 4. 4. (J9 4.)<|Km.next<|aD<|WP.c ?_;show ca (C:=603) (by rw[W.K];kernel_rfl)<|ag (po W) (nQ W)<|ab<|CL.of (j:=k+2) (qb (p:=(2,1)) (q:=(2,2)) W 4. 4. 1. ?_) 3.;show tJ (eG (by rfl)) (eG (by rfl))<|at2 [("store",_),("asm",_),("ts",_)] 4. 4. 4. (J9 4.)<|Km.next<|aD<|WP.c ?_;show ca (C:=603) (by rw[W.K];kernel_rfl)<|ag (fJ W) (eV W)<|aa<|du<|ab<|CL.of (j:=k+2) (fT (p:=(2,3)) (q:=(2,4)) W 4. 4. 1. ?_) 3.;show tJ (eG (by rfl)) (eG (by rfl))<|at2 [("store",_),("asm",_),("ts",_),("texts",_)] 4. 4. 4. (J9 4.)<|Km.next<|aD<|WP.c ?_;show ca (C:=603) (by rw[W.K];kernel_rfl)<|ag (fJ W) (eV W)<|aa<|du<|ab<|CL.of (j:=k+2) (fT (p:=(2,5)) (q:=(2,6)) W 4. 4. 1. ?_) 3.;show tJ (eG (by rfl)) (eG (by rfl))<|at2 [("store",_),("asm",_),("ts",_),("texts",_),("users",_)] 4. 4. 4. (J9 4.)<|Km.next<|aD<|WP.c ?_;show ca (C:=603) (by rw[W.K];kernel_rfl)<|ag (fJ W) (eV W)<|aa<|wm<|ab<|CL.of (j:=k+2) (fT (p:=(2,7)) (q:=(2,8)) W 4. 4. 1. ?_) 3.;show tJ (eG (by rfl)) (eG (by rfl))<|at2 [("store",_),("asm",_),("ts",_),("texts",_),("users",_),("guids",_)] 4. 4. 4. (J9 4.)<|Km.next<|aD<|WP.c ?_;show ca (C:=603) (by rw[W.K];kernel_rfl)<|ag (fJ W) (eV W)<|aa<|wm<|ab<|CL.of (j:=k+2) (fT (p:=(2,9)) (q:=(2,10)) W 4. 4. 1. ?_) 3.;show tJ (eG (by rfl)) (eG (by rfl))<|at2 [("store",_),("asm",_),("ts",_),("texts",_),("users",_),("guids",_),("blobs",_)] 4. 4. 4. (J9 4.)<|Km.next<|aD<|xi (C:=603) (by rw[W.K];kernel_rfl)<|b8<|aP (fM W)<|az trivial ?_;show WP.c<|ab<|fB<|f9 λa ha=>?_;show stc bv<|at2 [("store",_),("asm",_),("ts",_),("texts",_),("users",_),("guids",_),("blobs",_),("code",_)] 4. 4. 4. (J9 4.)<|Km.next<|aD<|WP.c ?_;show ca (C:=603) (by rw[W.K];kernel_rfl)<|dR<|at2 [("store",_),("asm",_),("ts",_),("texts",_),("users",_),("guids",_),("blobs",_),("code",_),("tokens",_)] 4. 4. 4. (J9 4.)<|Km.next<|aD<|WP.c ?_;show ca (C:=603) (by rw[W.K];kernel_rfl)<|dS<|ab<|ce<|lb 2 11 4.<|stc (eG (by rfl))<|at2 [("store",_),("asm",_),("ts",_),("texts",_),("users",_),("guids",_),("blobs",_),("code",_),("tokens",_),("tids",_)] 4. 4. 4. (J9 4.)<|Km.next ?_;show aD<|WP.c ?_;show ca (C:=603) (by rw[W.K];kernel_rfl)<|bu<|lb 2 12 4.<|stc (eG (by rfl))<|at2 [("store",_),("asm",_),("ts",_),("texts",_),("users",_),("guids",_),("blobs",_),("code",_),("tokens",_),("tids",_),("type_rows",_)] 4. 4. 4. (J9 4.)<|Km.next<|aD<|WP.c ?_;show ca (C:=603) (by rw[W.K];kernel_rfl)<|bu<|lb 2 13 4.<|stc (eG (by rfl))<|at2 [("store",_),("asm",_),("ts",_),("texts",_),("users",_),("guids",_),("blobs",_),("code",_),("tokens",_),("tids",_),("type_rows",_),("field_rows",_)] 4. 4. 4. (J9 4.)<|Km.next<|aD<|WP.c ?_;show ca (C:=603) (by rw[W.K];kernel_rfl)<|bu<|lb 2 14 4.<|stc (eG (by rfl))<|at2 [("store",_),("asm",_),("ts",_),("texts",_),("users",_),("guids",_),("blobs",_),("code",_),("tokens",_),("tids",_),("type_rows",_),("field_rows",_),("method_rows",_)] 4. 4. 4. (J9 4.)<|Km.next<|aD<|WP.c ?_;show ca (C:=603) (by rw[W.K];kernel_rfl)<|bu<|lb 2 15 4.<|stc (eG (by rfl))<|at2 [("store",_),("asm",_),("ts",_),("texts",_),("users",_),("guids",_),("blobs",_),("code",_),("tokens",_),("tids",_),("type_rows",_),("field_rows",_),("method_rows",_),("asm_refs",_)] 4. 4. 4. (J9 4.)<|Km.next<|aD<|WP.c ?_;show ca (C:=603) (by rw[W.K];kernel_rfl)<|bu<|lb 2 16 4.<|stc (eG (by rfl))<|at2 [("store",_),("asm",_),("ts",_),("texts",_),("users",_),("guids",_),("blobs",_),("code",_),("tokens",_),("tids",_),("type_rows",_),("field_rows",_),("method_rows",_),("asm_refs",_),("type_refs",_)] 4. 4. 4. (J9 4.)<|Km.next<|aD<|WP.c ?_;show ca (C:=603) (by rw[W.K];kernel_rfl)<|bu<|lb 2 17 4.<|stc (eG (by rfl))<|at2 [("store",_),("asm",_),("ts",_),("texts",_),("users",_),("guids",_),("blobs",_),("code",_),("tokens",_),("tids",_),("type_rows",_),("field_rows",_),("method_rows",_),("asm_refs",_),("type_refs",_),("specs",_)] 4. 4. 4. (J9 4.)<|Km.next<|aD<|WP.c ?_;show ca (C:=603) (by rw[W.K];kernel_rfl)<|bu<|lb 2 18 4.<|stc (eG (by rfl))<|at2 [("store",_),("asm",_),("ts",_),("texts",_),("users",_),("guids",_),("blobs",_),("code",_),("tokens",_),("tids",_),("type_rows",_),("field_rows",_),("method_rows",_),("asm_refs",_),("type_refs",_),("specs",_),("members",_)] 4. 4. 4. (J9 4.)<|Km.next<|aD<|WP.c ?_;show ca (C:=603) (by rw[W.K];kernel_rfl)<|bu<|lb 2 19 4.<|stc (eG (by rfl))<|at2 [("store",_),("asm",_),("ts",_),("texts",_),("users",_),("guids",_),("blobs",_),("code",_),("tokens",_),("tids",_),("type_rows",_),("field_rows",_),("method_rows",_),("asm_refs",_),("type_refs",_),("specs",_),("members",_),("method_specs",_)] 4. 4. 4. (J9 4.)<|Km.next<|aD<|WP.c ?_;show ca (C:=603) (by rw[W.K];kernel_rfl)<|bu<|lb 2 20 4.<|stc (eG (by rfl))<|at2 [("store",_),("asm",_),("ts",_),("texts",_),("users",_),("guids",_),("blobs",_),("code",_),("tokens",_),("tids",_),("type_rows",_),("field_rows",_),("method_rows",_),("asm_refs",_),("type_refs",_),("specs",_),("members",_),("method_specs",_),("locals_sigs",_)] 4. 4. 4. (J9 4.)<|Km.next<|aD<|WP.c ?_;show ca (C:=603) (by rw[W.K];kernel_rfl)<|bu<|lb 2 21 4.<|stc (eG (by rfl))<|at2 [("store",_),("asm",_),("ts",_),("texts",_),("users",_),("guids",_),("blobs",_),("code",_),("tokens",_),("tids",_),("type_rows",_),("field_rows",_),("method_rows",_),("asm_refs",_),("type_refs",_),("specs",_),("members",_),("method_specs",_),("locals_sigs",_),("rvas",_)] 4. 4. 4. (J9 4.)<|Km.next<|j5<|fin (Kr.set (b:=b) ha)<|h a
theorem AP(W:Lw D)(h: ∀a,Q (rf 2 0) (S b ⟨b0,b1,pgL a pg0,b3,b4,tb,td⟩)):CDc D (k+5) (S b ⟨b0,b1,[],b3,b4,tb,td⟩) (.ref<|.inl 603) [rf 1 0,.int 1] Q:=
 Cj (fI:=593) (by rw[W.K];kernel_rfl) (by rw[W.K];kernel_rfl) (by rw[W.K];kernel_rfl)<|lb 2 0 4. (by
  rw[eG (by rfl)];show r6 W λa=>⟨4.,h a⟩)
end
variable{p p1:PG}
noncomputable def xj(v:Int)(w:Nat):Array UInt8:=(List.range w).foldl (λx j=>x.push (bitAnd (v/2^(8*j)) 255).toNat.toUInt8) #[]
theorem r7(v:Int)(w:Nat):xj v (w+1)=(xj v w).push (bitAnd (v/2^(8*w)) 255).toNat.toUInt8:=by
 unfold xj;rw[List.range_succ,List.foldl_append];rfl
theorem xk(v:Int)(w:Nat):(xj v w).size=w:=by
 induction w with
 |zero=>rfl
 |succ w ih=>rw[r7,Array.size_push,ih]
def mo(b:Kk)(a:Addr)(c:Con)(R:List<|Addr×Obj):Kk:={b.set (.inl a) c with raw:=R}
section
theorem gK(W:Lw D){v:Int}{w:Nat}(ha:b.m (.inl a)=some (.b #[]))(hw:w<=8)(hv:0<=v)(ho: ∀j,j<w->0<=bitAnd (v/2^(8*j)) 255/\bitAnd (v/2^(8*j)) 255<256)(h:Q .none<|S (b.set (.inl a)<|.b<|xj v w) g):CDc D (k+1) (S b g) (.ref<|.inl 761) [.ref<|.inl a,.int v,.int w] Q:=by
 show CDc.lessen<|zO (W.K▸kU _) 4. λL=>?_;show aD<|wU<|cb ?_;show ag (cw W) trivial<|aG 4. 4.<|dG ⟨_,w,_,bt 3. 1. 3.,λi st'=> ∃R ρ x,st'=S ((mo b a (.b x) R).push L ρ) g/\lk "out" ρ=some (.ref<|.inl a)/\lk "n" ρ=some (.int v)/\x=xj v i,?_,λO O O O=>trivial,?_,?_,?_⟩
 ·rintro i st' R ⟨R',ρ,x,rfl,h1,h2,h3⟩;show⟨R,ρ,x,4.,h1,h2,h3⟩
 ·show⟨b.raw,["out","n","width"].zip [.ref<|.inl a,.int v,.int w],#[],?_,4.,4.,4.⟩;change S (b.push L _) g=S ((mo b a (.b #[]) b.raw).push L _) g;have:mo b a (.b #[]) b.raw=b:=by
   unfold mo Kk.set;obtain⟨m,fr,raw⟩:=b;simp only[Kk.mk.injEq,and_true];funext n;by_cases e:n=.inl a
   ·subst e;rw[ak];show ha.symm
   ·rw[bO _ _ e]
  rw[this]
 ·rintro i st' hi ⟨R,ρ,x,rfl,h1,h2,rfl⟩;show cJ _ 4. ?_;have h1:lk "out" (pt "place" (.int<|0+i) ρ)=some (.ref<|.inl a):=au h1;have h2:lk "n" (pt "place" (.int<|0+i) ρ)=some (.int v):=au h2;have hm:(S ((mo b a (.b<|xj v i) R).push L<|pt "place" (.int<|0+i) ρ) g).m (.inl a)=some (.b<|xj v i):=ak ..;have hz:=xk v i;obtain⟨o1,o2⟩:=ho i hi;show aD<|jx<|ik<|af 4. h1<|ij hm<|az trivial<|WP.c<|aa ?_;show aC<|aC<|af 4. h2<|aC<|aA<|af 4. ad<|Am ?_<|IntMulOk.of_left 1.;show yu hv 3.<|aA<|fA<|ab ?_;have e:(8*((0:Int)+(i:Int))).toNat=8*i:=by show GH
  rw[e];show lG hm o1 o2 3.<|Km.next<|j5 ⟨4.,R,pt "place" (.int<|0+i) ρ,xj v<|i+1,?_,h1,h2,4.⟩;rw[bv,<-r7];congr 1;unfold mo Kk.set Kk.push;simp only[Kk.mk.injEq,and_true];show DK ..
 ·rintro st' ⟨R,ρ,x,rfl,O,O,rfl⟩ hraw;show Km.next<|j5 ?_;have:R=b.raw:=hraw;subst this;show⟨_,Kq.refl _,h⟩
end
theorem mq{c:Con}{R:List<|Addr×Obj}:(S ((mo b a c R).push L ρ) g).set (.inl a) c'=S ((mo b a c' R).push L ρ) g:=by
 rw[bv];congr 1;unfold mo Kk.set Kk.push;simp only[Kk.mk.injEq,and_true];show DK ..
noncomputable def JL(i:Nat):Array UInt8:=if i=0 then #[]else #[116,0]
noncomputable def JM(i:Nat):List MV:=if i=0 then []else [.int 116]
section
theorem nW(W:Lw D){u:Addr}(hu:b.m (.inl u)=some (.l [.int 116]))(h:Q (.bytes #[116,0])<|S b g):CDc D (k+1) (S b g) (.ref<|.inl 747) [.ref<|.inl u] Q:=by
 show kA (W.K▸lN _) 4. λL=>(aD<|gT<|b8<|aP (fM W)<|az trivial<|WP.c<|ab ?_);show fB<|f9 λa ha=>?_;show stc bv ?_;have ha:b.m (.inl a)=none:=ha;have hne:(Sum.inl u:Nm)≠.inl a:=by rintro e;rw[e,ha]at hu;cases hu
 show dC [("units",_),("data",_)] 4. 4.<|aD<|wU<|cb ?_;show af 4. 4. ⟨_,1,_,dU (ms:=[.int 116])<|(bO _ _ hne).trans hu,λi st'=> ∃R ρ x,st'=S ((mo b a (.b x) R).push L ρ) g/\lk "data" ρ=some (.ref<|.inl a)/\x=JL i,?_,?_,?_,?_,?_⟩
 ·rintro i st' R ⟨R',ρ,x,rfl,h1,h2⟩;show⟨R,ρ,x,4.,h1,h2⟩
 ·rintro i st' O ⟨R',ρ,x,rfl,O,O⟩;show(bO _ _ hne).trans hu
 ·show⟨b.raw,[("units",.ref (.inl u)),("data",.ref (.inl a))],#[],4.,4.,4.⟩
 ·rintro i st' hi ⟨R,ρ,x,rfl,h1,rfl⟩;obtain rfl:i=0:=by omega
  show cJ _ 4. ?_;have h1:lk "data" (pt "unit" (.int 116) ρ)=some (.ref<|.inl a):=au h1;show aD<|jx<|ik<|af 4. h1<|ij (x:=#[]) (ak ..)<|az trivial<|WP.c<|aa ?_;show aC<|af 4. ad<|aA<|fA<|ab<|lG (x:=#[]) (ak ..) 1. 1. 1.<|stc mq<|Km.next ?_;show aD<|jx<|ik<|af 4. h1<|ij (x:=#[116]) (ak ..)<|az trivial<|WP.c<|aa ?_;show aC<|af 4. ad<|aA<|yu 1. 1.<|ab<|lG (x:=#[116]) (ak ..) 1. 1. 1.<|stc mq<|Km.next ?_;show j5 ⟨4.,R,_,_,4.,h1,4.⟩
 ·rintro st' ⟨R,ρ,x,rfl,h1,rfl⟩ hraw;have:R=b.raw:=hraw;subst this;show Km.next<|aD<|WP.c ?_;show aw<|ag (to W) trivial<|aG 4. h1<|s4 (x:=#[116,0]) (ak ..) 1.<|Km.ret ⟨_,_,_,_,4.,?_,h⟩;show Kr.set (b:=b) ha
theorem nX(W:Lw D){c:Int}(hc:c<65536)(h:Q (.tup [.int c])<|S b g):CD D (k+1) (S b g) (.ref<|.inl 733) [.int c] Q:=by
 show bR (W.K▸lM _) 4. λL=>(ao<|bW<|ae<|af 4. 4.<|aA<|oS<|oB (by simpa using hc) ?_);show ao<|aw<|aI<|aG 4. 4.<|ce<|Km.ret<|Km.ret<|fin (Kr.refl _) h
theorem qi(W:Lw D)(h: ∀a,b.m (.inl a)=none->Q (.ref<|.inl a) (S (b.set (.inl a)<|.l [.int 116]) g)):CD D (k+2) (S b g) (.ref<|.inl 740) [.str<|-"t"] Q:=by
 show CD.lessen<|B1 (W.K▸nv _) 4. λL=>?_;change WF D (k+1) (S (b.push L _) g) _ _;show bx<|dS<|ab<|ce<|f9 λa ha=>(stc bv ?_);have ha:b.m (.inl a)=none:=ha;show gf [("text",_),("units",_)] 4. 4.<|wC<|cb ?_;show af 4. 4. ⟨_,1,_,wA (x:=-"t") (by decide+kernel),λi st'=> ∃R ρ x,st'=S ((mo b a (.l x) R).push L ρ) g/\lk "units" ρ=some (.ref<|.inl a)/\x=JM i,?_,λO O O O=>trivial,?_,?_,?_⟩
 ·rintro i st' R ⟨R',ρ,x,rfl,h1,h2⟩;show⟨R,ρ,x,4.,h1,h2⟩
 ·show⟨b.raw,[("text",.str (-"t")),("units",.ref (.inl a))],[],4.,4.,4.⟩
 ·rintro i st' hi ⟨R,ρ,x,rfl,h1,rfl⟩;obtain rfl:i=0:=by omega
  show cJ _ 4. ?_;have h1: ∀m,lk "units" (pt "letter" m ρ)=some (.ref<|.inl a):=λm=>au h1;show ao<|aW<|aq<|af 4. (h1 _)<|bU (xs:=[]) (ak ..) F.slot_list_extend F.type_list_extend<|az trivial<|aa<|ag (nI W) (l6 W) ?_;show aa<|ag (HG W) trivial<|aG 4. ad<|Hz (c:=116)<|ab<|CL.of (j:=k+1) (nX W 1. ?_) 3.;show ab<|rl (xs:=[]) (ak ..) 1.<|stc mq<|Km.next<|aT ⟨4.,R,_,_,4.,h1 _,4.⟩
 ·rintro st' ⟨R,ρ,x,rfl,h1,rfl⟩ hraw;have:R=b.raw:=hraw;subst this;show aH<|aw<|af 4. h1<|Km.ret ⟨_,Kq.refl _,h a ha⟩
theorem vN(W:Lw D)(h:Q (.bytes #[116,0])<|S b g):CDc D (k+3) (S b g) (.ref<|.inl 754) [.str<|-"t"] Q:=by
 show kA (W.K▸ta _) 4. λL=>(aD<|lH<|b8<|aP (nJ W)<|az (l7 W)<|WP.c<|aa ?_);show ag (pF W) (nN W)<|aG 4. 4.<|CL.of (j:=k+2) (qi W λa ha=>?_) 3.;rw[show((b.push L<|["text"].zip [MV.str<|-"t"]).set (.inl a)<|.l [.int 116])=(b.set (.inl a)<|.l [.int 116]).push L (["text"].zip [MV.str<|-"t"])from 4.];show ab<|CLc.at (j:=k+1) (nW W (u:=a) (ak ..) ?_) 3.;show Km.ret<|fin (Kr.set (b:=b) ha) h
end
def cg(xs:List MV)(m:MV):List MV×Nat:=match xs.findIdx? (λx=>qE x m)with|some j=>(xs,j)|none=>(xs++[m],xs.length)
def hok(xs:List MV)(m:MV):Prop:=vg m=true/\ ∀x∈xs,vg x=true/\ ∀y b,¬((x=.str y/\m=.bytes b)\/(x=.bytes b/\m=.str y))
def ei(os:List Nat):List<|MV×MV:=os.map λ(t:Nat)=>(.int t,rf (t+5) 0)
noncomputable def bQ(R:Nat->Option (List MV)):Nat->List Con:=λt=>match R t with|none=>[]|some xs=>[.l xs]
theorem gL(os:List Nat):((ei os).all λp=>cN p.1)=true:=by
 unfold ei;show List.all_map.trans<|List.all_eq_true.mpr λO O=>4.
theorem gM(h:os.Nodup):((ei os).map (·.1)).Nodup:=by
 unfold ei;rw[List.map_map];show List.Pairwise.map _ (R:=λa b=>a≠b) (λa b n e=>n (by simp at e;omega)) h
theorem ji(h:t∈os):b9 (ei os) (.int t)=some (rf (t+5) 0):=by
 induction os with
 |nil=>cases h
 |cons a r ih=>
  unfold ei b9;rw[List.map_cons,List.find?_cons];by_cases e:a=t
  ·subst e;simp[iL]
  ·have:c7 (.int (a:Int)) (.int (t:Int))=false:=by simp[iL];omega
   rw[this];show ih<|(List.mem_cons.mp h).resolve_left<|Ne.symm e
theorem mr(h:t∉os):b9 (ei os) (.int t)=none:=by
 show eC λp hp=>?_;obtain⟨a,ha,rfl⟩:=List.mem_map.mp hp;intro e;simp at e;show h (by rw[<-(by omega:a=t)];show ha)
theorem yQ(os:List Nat):(ei os).length=os.length:=by simp[ei]
structure TOk(os:List Nat)(R:Nat->Option (List MV)):Prop where
 nd:os.Nodup
 len:os.length<=50
 iff: ∀t,t∈os↔(R t).isSome=true
 lt: ∀t∈os,t<100
 sz: ∀t xs,R t=some xs->xs.length<=900
theorem ba(h:R t=some xs):bQ R t=[.l xs]:=by unfold bQ;rw[h]
theorem r8(h:R t=none):bQ R t=[]:=by unfold bQ;rw[h]
theorem jN:fup (bQ R) t [.l xs]=bQ (fup R t<|some xs):=by
 funext j;by_cases e:j=t
 ·subst e;rw[bm,ba bm]
 ·rw[bq e];unfold bQ;rw[bq e]
def eF(R:Nat->Option (List MV))(t:Nat)(m:MV):Nat->Option (List MV):=fup R t<|some<|(R t).getD []++[m]
noncomputable def gU(os:List Nat)(R:Nat->Option (List MV))(t:Nat):List Nat:=if(R t).isSome then os else os++[t]
theorem TOk.add(H:TOk os R)(ht:t<100)(ho:os.length<50)(hz:((R t).getD []).length<900):TOk (gU os R t)<|eF R t m:=by
 unfold gU eF;cases e:R t with
 |some xs=>
  simp only[Option.isSome_some,if_true];show⟨H.nd,H.len,λu=>?_,H.lt,λu ys q=>?_⟩
  ·by_cases z:u=t
   ·subst z;rw[bm];simp[H.iff,e]
   ·rw[bq z];show H.iff u
  ·by_cases z:u=t
   ·subst z;rw[bm]at q;cases q;rw[e]at hz;simp at hz ⊢;omega
   ·rw[bq z]at q;show H.sz u ys q
 |none=>
  have hn:t∉os:=λh=>by have:=(H.iff t).mp h;rw[e]at this;cases this
  simp only[Option.isSome_none,Bool.false_eq_true,if_false];show⟨?_,by rw[Kd];simp;omega,λu=>?_,λu hu=>?_,λu ys q=>?_⟩
  ·rw[List.nodup_append];show⟨H.nd,by simp,λa ha c hc q=>by simp at hc;subst hc;subst q;show hn ha⟩
  ·by_cases z:u=t
   ·subst z;rw[bm];simp
   ·rw[bq z,List.mem_append,H.iff u];simp[z]
  ·rcases List.mem_append.mp hu with h|h
   ·show H.lt u h
   ·simp at h;subst h;show ht
  ·by_cases z:u=t
   ·subst z;rw[bm]at q;cases q;simp
   ·rw[bq z]at q;show H.sz u ys q
section
theorem mu(W:Lw D)(hz:p.texts.length<=900)(ho:hok p.texts m)(h:Q (.int (cg p.texts m).2)<|S b ⟨b0,b1,pgL a {p with texts:=(cg p.texts m).1},b3,b4,tb,td⟩):
 CD D (k+1) (S b ⟨b0,b1,pgL a p,b3,b4,tb,td⟩) (.ref<|.inl 523) [rf 2 4,m] Q:=by
 show w8 W (nh:=.inr (2,4)) (nl:=.inr (2,3)) 4. 4. 4. hz ho.2 ho.1 ?_;unfold cg at h;cases e:p.texts.findIdx? (λx=>qE x m)with
 |some j=>rw[e]at h;show h
 |none=>rw[e]at h;dsimp only at h ⊢;rw[kZ (by show dB 4.)];show h
theorem CS(W:Lw D)(hz:p.blobs.length<=900)(ho:hok p.blobs m)(h:Q (.int (cg p.blobs m).2)<|S b ⟨b0,b1,pgL a {p with blobs:=(cg p.blobs m).1},b3,b4,tb,td⟩):
 CD D (k+1) (S b ⟨b0,b1,pgL a p,b3,b4,tb,td⟩) (.ref<|.inl 523) [rf 2 10,m] Q:=by
 show w8 W (nh:=.inr (2,10)) (nl:=.inr (2,9)) 4. 4. 4. hz ho.2 ho.1 ?_;unfold cg at h;cases e:p.blobs.findIdx? (λx=>qE x m)with
 |some j=>rw[e]at h;show h
 |none=>rw[e]at h;dsimp only at h ⊢;rw[kZ (by show dB 4.)];show h
theorem CT(W:Lw D){s:MV}(hz:p.blobs.length<=900)(ho:hok p.blobs m)(h:Q (.int (cg p.blobs m).2)<|S b ⟨b0,b1,pgL a {p with blobs:=(cg p.blobs m).1},b3,b4,tb,td⟩):
 CD D (k+2) (S b ⟨b0,b1,pgL a p,b3,b4,tb,td⟩) (.ref<|.inl 600) [rf 2 0,s,m] Q:=by
 show HN W (n:=.inr (2,0)) (nb:=.inr (2,10)) (nl:=.inr (2,9)) 4. 4. 4. 4. 4. 4. hz ho.2 ho.1 ?_;unfold cg at h;cases e:p.blobs.findIdx? (λx=>qE x m)with
 |some j=>rw[e]at h;show h
 |none=>rw[e]at h;dsimp only at h ⊢;rw[kZ (by show dB 4.)];show h
theorem kB(W:Lw D)(ht:t<100)(hts:p.ts=ei os)(H:TOk os R)(hz:((R t).getD []).length<900)(h:Q (.int<|((R t).getD []).length+1)<|S b ⟨b0,b1,pgL a {p with ts:=ei<|gU os R t},b3,b4,bQ<|eF R t m,td⟩):
 CD D (k+1) (S b ⟨b0,b1,pgL a p,b3,b4,bQ R,td⟩) (.ref<|.inl 558) [rf 2 2,.int t,m] Q:=by
 obtain⟨ts,p2,p3,p4,p5,p6,p7,p8⟩:=p;dsimp only at hts h;subst hts;have hl:=H.len;have e1:=yQ os;cases e:R t with
 |some xs=>
  have hm:t∈os:=(H.iff t).mpr (by rw[e];rfl);show HM W (nts:=.inr (2,2)) (nd:=.inr (2,1)) (nl:=.inr (t+5,0)) 4. 4. 4. (gL os) (gM H.nd) (by change(ei os).length<=_;show g3 ‹_› ‹_› 4.) (ji hm) (by rw[mi ht,ba e];rfl) (by rw[e]at hz;simp at hz;omega) ?_;rw[yP ht (by rw[ba e];show dB 4.),ba e];unfold gU eF at h;rw[e]at h;simp only[Option.isSome_some,if_true,Option.getD_some]at h;have:fup (bQ R) t ([Con.l xs].set 0<|Con.l<|xs++[m])=bQ (fup R t<|some<|xs++[m]):=jN;rw[this];show h
 |none=>
  have hm:t∉os:=λh=>by have:=(H.iff t).mp h;rw[e]at this;cases this
  show Cq W (nts:=.inr (2,2)) (nd:=.inr (2,1)) (p:=(t+5,0)) 4. 4. 4. (gL os) (gM H.nd) (by change(ei os).length<=_;show g3 ‹_› ‹_› 4.) (mr hm) (by rw[mi ht,r8 e];rfl) ?_;rw[kZ (by show dB 4.),HQ ht<|r8 e,jN];unfold gU eF at h;rw[e]at h;simp only[Option.isSome_none,Bool.false_eq_true,if_false,Option.getD_none,List.nil_append,List.length_nil]at h;have e2:ei os++[(MV.int t,MV.ref (Sum.inr (t+5,0)))]=ei (os++[t]):=by simp[ei,rf]
  rw[e2];show h
theorem et(W:Lw D)(ht:t<100)(hts:p.ts=ei os)(H:TOk os R)(h:Q (.int ((R t).getD []).length)<|S b ⟨b0,b1,pgL a p,b3,b4,bQ R,td⟩):
 CD D (k+1) (S b ⟨b0,b1,pgL a p,b3,b4,bQ R,td⟩) (.ref<|.inl 572) [rf 2 2,.int t] Q:=by
 obtain⟨ts,p2,p3,p4,p5,p6,p7,p8⟩:=p;dsimp only at hts h;subst hts;cases e:R t with
 |some xs=>
  rw[e]at h;have hm:t∈os:=(H.iff t).mpr (by rw[e];rfl);show w6 W (nts:=.inr (2,2)) (nd:=.inr (2,1)) (nl:=.inr (t+5,0)) 4. 4. 4. (gL os) (gM H.nd) (ji hm) (by rw[mi ht,ba e];rfl) (by have:=H.sz t xs e;show Kc this 1.) h
 |none=>
  rw[e]at h;have hm:t∉os:=λh=>by have:=(H.iff t).mp h;rw[e]at this;cases this
  show yL W (nts:=.inr (2,2)) (nd:=.inr (2,1)) 4. 4. 4. (gL os) (gM H.nd) (mr hm) h
theorem jO(W:Lw D){n:Int}(ht:t<100)(hts:p.ts=ei os)(H:TOk os R)(e:R t=some xs)(h0:1<=n)(h1:n<=xs.length)(hx:xs[n.toNat-1]? =some m)(h:Q m<|S b ⟨b0,b1,pgL a p,b3,b4,bQ R,td⟩):
 CD D (k+2) (S b ⟨b0,b1,pgL a p,b3,b4,bQ R,td⟩) (.ref<|.inl 565) [rf 2 2,.int t,.int n] Q:=by
 obtain⟨ts,p2,p3,p4,p5,p6,p7,p8⟩:=p;dsimp only at hts h;subst hts;have hm:t∈os:=(H.iff t).mpr (by rw[e];rfl);show Cp W (nts:=.inr (2,2)) (nd:=.inr (2,1)) (nl:=.inr (t+5,0)) 4. 4. 4. 4. (gL os) (gM H.nd) (ji hm) (by rw[mi ht,ba e];rfl) (by have:=H.sz t xs e;omega) h0 h1 hx h
theorem iz(W:Lw D)(ht:t<100)(hts:p.ts=ei os)(H:TOk os R)(e:R t=some xs)(h:Q (rf (t+5) 0)<|S b ⟨b0,b1,pgL a p,b3,b4,bQ R,td⟩):
 CD D (k+1) (S b ⟨b0,b1,pgL a p,b3,b4,bQ R,td⟩) (.ref<|.inl 257) [rf 2 2,.int t] Q:=by
 obtain⟨ts,p2,p3,p4,p5,p6,p7,p8⟩:=p;dsimp only at hts h;subst hts;have hm:t∈os:=(H.iff t).mpr (by rw[e];rfl);show w7 W (nts:=.inr (2,2)) (nd:=.inr (2,1)) (nl:=.inr (t+5,0)) 4. 4. 4. (gL os) (gM H.nd) (ji hm) h
theorem jj(W:Lw D)(ht:t<100)(hts:p.ts=ei os)(H:TOk os R)(e:R t=none)(h: ∀x,b.m (.inl x)=none->Q (.ref<|.inl x) (S (b.set (.inl x)<|.l []) ⟨b0,b1,pgL a p,b3,b4,bQ R,td⟩)):
 CD D (k+1) (S b ⟨b0,b1,pgL a p,b3,b4,bQ R,td⟩) (.ref<|.inl 257) [rf 2 2,.int t] Q:=by
 obtain⟨ts,p2,p3,p4,p5,p6,p7,p8⟩:=p;dsimp only at hts h;subst hts;have hm:t∉os:=λh=>by have:=(H.iff t).mp h;rw[e]at this;cases this
 show vG W (nts:=.inr (2,2)) (nd:=.inr (2,1)) 4. 4. 4. (gL os) (gM H.nd) (mr hm) λx hx=>?_;rw[Cv];show h x hx
end
structure KT(K:KS):Prop where
 z:K.rows.length<=900
 n:18<=K.rows.length
 prim: ∀i:Nat,i<16->K.rows[i]? =some (.tup [.int 1,.int i])
 v:K.rows[16]? =some CN
 a:K.rows[17]? =some CO
theorem KT2:KT K2:=⟨by decide,by decide,λi=>allB.at (P:=λi=>K2.rows[i]? =some (.tup [.int 1,.int i])) (n:=16) (by repeat first|show trivial|show⟨?_,4.⟩),4.,4.⟩
theorem KT3:KT K3:=⟨by decide,by decide,λi=>allB.at (P:=λi=>K3.rows[i]? =some (.tup [.int 1,.int i])) (n:=16) (by repeat first|show trivial|show⟨?_,4.⟩),4.,4.⟩
section
theorem jP(W:Lw D)(H:KT K)(hk:i<16)(ht:b9 fN (.int i)=some (.int t))(h0:0<t)(h1:t<s.types.length)(hz:s.types.length<=900)(hx:s.types[t]? =some .none)(h:Q .none<|S b ⟨ktL K,stL s,pgL a p,b3,b4,tb,td⟩):CD D (k+3) (S b ⟨ktL K,stL s,pgL a p,b3,b4,tb,td⟩) (.ref<|.inl 712) [rf 1 0,.int i] Q:=by
 show bR (W.K▸vp _) 4. λL=>?_;show bx ?_;show ag (lp W) (i6 W) ?_;show b5 W 4. 4. 4. 4. nofun ?_;show aG 4. 4. ?_;show CL.of (j:=k+2) (jJ W 4. 4. 4. H.z 4. 3. (by have:=H.n;omega) (H.prim i 3.) ht ?_) 3.;show asg [("store",_),("k",_),("tid",_)] 4. 4.<|dE<|aF<|ai<|ae<|af 4. 4.<|aA<|zJ ?_;show eS (by simp;show zA ‹_›)<|ai<|ae<|af 4. 4.<|ag (bX W) trivial<|bE W 4. 4. 4. 4. nofun<|aS 4. 3.<|sR ?_;show eS (by simp;omega)<|aY<|bk 4.<|aw<|aX<|ah W 4. 4. 4. 4. nofun<|af 4. 4.<|bd 4. 3. 3. hx ?_;show Km.ret<|fin (Kr.refl _) h
theorem qj(W:Lw D)(h:Q (.tup [.int 14,.bytes #[116,0]])<|S b g):CDc D (k+4) (S b g) (.ref<|.inl 777) [m,.int 13,.str<|-"t"] Q:=by
 show kA (W.K▸nw _) 4. λL=>(aD<|WP.c ?_);show bW<|aF<|aU<|ae<|af 4. 4.<|dR<|Bq<|aK ?_;show ck 4.<|g8 4.<|aD<|WP.c ?_;show bW<|aF<|ai<|ae<|af 4. 4.<|aP (yH W)<|jo<|eS 4. ?_;show ai<|qR<|cI<|ag (gy W) trivial<|bo 4. 4.<|bM (HH W)<|ab<|Aq ?_;show aK<|ck 4.<|aY<|g8 4.<|aD<|lH<|yF<|iP<|WP.c ?_;show aP (vq W)<|iP<|b8<|aP (vB W)<|az (tB W)<|WP.c<|aG 4. 4.<|CLc.at (j:=k+3) (vN W ?_) 3.;show WP.c<|ab<|ce<|Km.ret<|fin (Kr.refl _) h
end
theorem eu{n:Nm}{c:Con}:(b.push L ρ).set n c=(b.set n c).push L ρ:=4.
theorem Kr.set2{c:Con}(h:b.m (.inl a)=none):Kr b<|(b.set (.inl a) c).set (.inl a) c':=
 ⟨λx y e=>(bO _ _ (by rintro⟨⟩;rw[h]at e;cases e)).trans<|(bO _ _ (by rintro⟨⟩;rw[h]at e;cases e)).trans e,4.,4.⟩
noncomputable def coE:Nat->Int|0=>8|1=>14|_=>2
noncomputable def coO:Nat->Array UInt8|0=>#[5,0,0,0]|1=>#[116,0]|_=>#[1]
noncomputable def coV:Nat->MV|0=>.int 5|1=>.str (-"t")|_=>.int 1
noncomputable def coK:Nat->Int|0=>7|1=>13|_=>1
section
theorem mw(W:Lw D)(H:KT K)(hz:s.types.length<=900)(h1:20<s.types.length)(hx:s.types[15]? =some .none)(h:Q (.tup [.int<|coE 0,.bytes<|coO 0])<|S b ⟨ktL K,stL s,pgL a p,b3,b4,tb,td⟩):CDc D (k+5) (S b ⟨ktL K,stL s,pgL a p,b3,b4,tb,td⟩) (.ref<|.inl 770) [rf 2 0,.int 7,.int 5] Q:=by
 show kA (W.K▸ew _) 4. λL=>(aD<|WP.c ?_);show aR<|ag (lW W) (jH W)<|b5 W 4. 4. 4. 4. nofun<|aG 4. 4.<|CL.of (j:=k+3) (jP W (t:=15) H 1. 4. 1. 3. hz hx ?_) 3.;show dC [("p",_),("k",_),("value",_),("t",_)] 4. 4.<|aD<|WP.c ?_;show bW<|aF<|aU<|ae<|af 4. 4.<|dR<|oT<|aK ?_;show ck 4.<|g8 4.<|aD<|WP.c ?_;show bW<|ae<|af 4. 4.<|aP (dJ W)<|dX (df W _) (bg 1.) (cy 1. 1.)<|aK<|g8 4.<|aD<|WP.c ?_;show bW<|qR<|cI<|ag (gy W) trivial<|bo 4. 4.<|bM (Cm W)<|ab<|wL ?_;show aK<|g8 4.<|aD<|WP.c ?_;show bL<|ag (lT W) (ku W)<|aG 4. 4.<|CL.of (j:=k+1) (mh W 4. ?_) 3.;show aM<|dT [("p",_),("k",_),("value",_),("t",_),("low",_)] 4.<|dT [("p",_),("k",_),("value",_),("t",_),("low",_),("high",_)] 4.<|cB<|Km.next<|aD<|WP.c ?_;show bW<|aF<|ai<|ae<|af 4. 4.<|af 4. 4.<|oS<|eS 4. ?_;show ai<|ae<|af 4. 4.<|af 4. 4.<|lD<|eS 4.<|aY<|g8 4. ?_;show aD<|gT<|b8<|aP (fM W)<|az trivial<|WP.c<|ab<|fB<|f9 λx hx'=>?_;show stc bv<|dC [("p",_),("k",_),("value",_),("t",_),("low",_),("high",_),("out",_)] 4. 4.<|aD<|jx<|b8<|aP (gx W)<|az (f8 W)<|WP.c ?_;show bo 4. 4.<|bo 4. 4.<|aa<|aX<|aP (dJ W)<|af 4. 4.<|cu (df W _) (bg 1.) (cy 1. 1.) 4.<|ab ?_;show CLc.at (j:=k+1) (gK W (a:=x) (v:=5) (w:=4) (ak ..) 1. 1. 1. ?_) 3.;rw[eu];show Km.next<|aD<|WP.c ?_;show bW<|bh 4. 4. (zQ W)<|g8 4.<|aD<|WP.c ?_;show aw<|aI<|aa<|aX<|aP (bS W)<|af 4. 4.<|cu (bI W _) (bg 1.) (cy 1. 1.) 4.<|aa ?_;show ag (to W) trivial<|aG 4. 4.<|s4 (x:=xj 5 4) (ak ..) 1.<|ab<|ce<|Km.ret<|fin (Kr.set2 (b:=b) hx') h
theorem mx(W:Lw D)(H:KT K)(hz:s.types.length<=900)(h1:20<s.types.length)(hx:s.types[9]? =some .none)(h:Q (.tup [.int<|coE 2,.bytes<|coO 2])<|S b ⟨ktL K,stL s,pgL a p,b3,b4,tb,td⟩):CDc D (k+5) (S b ⟨ktL K,stL s,pgL a p,b3,b4,tb,td⟩) (.ref<|.inl 770) [rf 2 0,.int 1,.int 1] Q:=by
 show kA (W.K▸ew _) 4. λL=>(aD<|WP.c ?_);show aR<|ag (lW W) (jH W)<|b5 W 4. 4. 4. 4. nofun<|aG 4. 4.<|CL.of (j:=k+3) (jP W (t:=9) H 1. 4. 1. 3. hz hx ?_) 3.;show dC [("p",_),("k",_),("value",_),("t",_)] 4. 4.<|aD<|WP.c ?_;show bW<|aF<|aU<|ae<|af 4. 4.<|dR<|oT<|aK ?_;show ck 4.<|g8 4.<|aD<|WP.c ?_;show bW<|ae<|af 4. 4.<|aP (dJ W)<|dX (df W _) (bg 1.) (cy 1. 1.)<|aK<|g8 4.<|aD<|WP.c ?_;show bW<|qR<|cI<|ag (gy W) trivial<|bo 4. 4.<|bM (Cm W)<|ab<|wL ?_;show aK<|g8 4.<|aD<|WP.c ?_;show bL<|ag (lT W) (ku W)<|aG 4. 4.<|CL.of (j:=k+1) (mh W 4. ?_) 3.;show aM<|dT [("p",_),("k",_),("value",_),("t",_),("low",_)] 4.<|dT [("p",_),("k",_),("value",_),("t",_),("low",_),("high",_)] 4.<|cB<|Km.next<|aD<|WP.c ?_;show bW<|aF<|ai<|ae<|af 4. 4.<|af 4. 4.<|oS<|eS 4. ?_;show ai<|ae<|af 4. 4.<|af 4. 4.<|lD<|eS 4.<|aY<|g8 4. ?_;show aD<|gT<|b8<|aP (fM W)<|az trivial<|WP.c<|ab<|fB<|f9 λx hx'=>?_;show stc bv<|dC [("p",_),("k",_),("value",_),("t",_),("low",_),("high",_),("out",_)] 4. 4.<|aD<|jx<|b8<|aP (gx W)<|az (f8 W)<|WP.c ?_;show bo 4. 4.<|bo 4. 4.<|aa<|aX<|aP (dJ W)<|af 4. 4.<|cu (df W _) (bg 1.) (cy 1. 1.) 4.<|ab ?_;show CLc.at (j:=k+1) (gK W (a:=x) (v:=1) (w:=1) (ak ..) 1. 1. 1. ?_) 3.;rw[eu];show Km.next<|aD<|WP.c ?_;show bW<|bh 4. 4. (zQ W)<|g8 4.<|aD<|WP.c ?_;show aw<|aI<|aa<|aX<|aP (bS W)<|af 4. 4.<|cu (bI W _) (bg 1.) (cy 1. 1.) 4.<|aa ?_;show ag (to W) trivial<|aG 4. 4.<|s4 (x:=xj 1 1) (ak ..) 1.<|ab<|ce<|Km.ret<|fin (Kr.set2 (b:=b) hx') h
theorem mz(W:Lw D)(H:KT K)(hz:s.types.length<=900)(h1:20<s.types.length)(hx:s.types[4]? =some .none)(h:Q (.tup [.int<|coE 1,.bytes<|coO 1])<|S b ⟨ktL K,stL s,pgL a p,b3,b4,tb,td⟩):CDc D (k+5) (S b ⟨ktL K,stL s,pgL a p,b3,b4,tb,td⟩) (.ref<|.inl 770) [rf 2 0,.int 13,.str<|-"t"] Q:=by
 show kA (W.K▸ew _) 4. λL=>(aD<|WP.c ?_);show aR<|ag (lW W) (jH W)<|b5 W 4. 4. 4. 4. nofun<|aG 4. 4.<|CL.of (j:=k+3) (jP W (t:=4) H 1. 4. 1. 3. hz hx ?_) 3.;show dC [("p",_),("k",_),("value",_),("t",_)] 4. 4.<|aD<|WP.c ?_;show bW<|aF<|aU<|ae<|af 4. 4.<|dR<|oT<|aK ?_;show ck 4.<|g8 4.<|aD<|Ci<|ae<|af 4. 4.<|aP (dJ W)<|dX (df W _) (bg 1.) (cy 1. 1.) ?_;show aK<|cf 4.<|aD<|lH<|b8<|aP (pC W)<|az (nO W)<|WP.c ?_;show bo 4. 4.<|bo 4. 4.<|aG 4. 4.<|CLc.at (j:=k+4) (qj W ?_) 3.;show Km.ret<|Km.ret<|fin (Kr.refl _) h
theorem nY(W:Lw D)(hi:i<3)(H:KT K)(hz:s.types.length<=900)(h1:20<s.types.length)(hx: ∀j,2<j->j<20->s.types[j]? =some .none)(h:Q (.tup [.int<|coE i,.bytes<|coO i])<|S b ⟨ktL K,stL s,pgL a p,b3,b4,tb,td⟩):CDc D (k+5) (S b ⟨ktL K,stL s,pgL a p,b3,b4,tb,td⟩) (.ref<|.inl 770) [rf 2 0,.int<|coK i,coV i] Q:=by
 revert h;show allB.at (P:=λi=>Q (.tup [.int<|coE i,.bytes<|coO i]) (S b ⟨ktL K,stL s,pgL a p,b3,b4,tb,td⟩)->CDc D (k+5) (S b ⟨ktL K,stL s,pgL a p,b3,b4,tb,td⟩) (.ref<|.inl 770) [rf 2 0,.int<|coK i,coV i] Q) (n:=3)
  ⟨⟨⟨trivial,mw W H hz h1<|hx 15 1. 1.⟩,mz W H hz h1<|hx 4 1. 1.⟩,mx W H hz h1<|hx 9 1. 1.⟩ hi
end
noncomputable def kdI:Nat->Int|0=>7|1=>13|2=>1|_=>17
noncomputable def trO:Nat->MV|0=>.tup [.int 8]|1=>.tup [.int 14]|2=>.tup [.int 2]|_=>.tup [.int 29,.tup [.int 19,.int 0]]
noncomputable def r9(f:Int)(ps:List<|Int×Int):Int:=ps.foldl (λo p=>if bitAnd f p.1 !=0 then bitOr o p.2 else o) 0
theorem vO(f:Int)(ps:List<|Int×Int)(i:Nat){p:Int×Int}(h:ps[i]? =some p):r9 f (ps.take<|i+1)=if bitAnd f p.1 !=0 then bitOr (r9 f<|ps.take i) p.2 else r9 f (ps.take i):=by
 unfold r9;rw[List.take_add_one,h];simp
section
theorem tR(W:Lw D)(h:Q (trO 0)<|S b ⟨ktL K,stL s,pgL a p,b3,b4,tb,td⟩):CD D (k+5) (S b ⟨ktL K,stL s,pgL a p,b3,b4,tb,td⟩) (.ref<|.inl 842) [rf 2 0,.int 7] Q:=by
 show bR (W.K▸ez _) 4. λL=>(ao<|bW<|ae<|af 4. 4.<|aP (bS W)<|rj (bI W _) (bg 1.) (cy 1. 1.)<|oB 4. ?_);show ao<|aw<|aI<|aa<|aX<|aP (bS W)<|af 4. 4.<|cu (bI W _) (bg 1.) (cy 1. 1.) 4. ?_;show ab<|ce<|Km.ret<|Km.ret<|fin (Kr.refl _) h
theorem tT(W:Lw D)(h:Q (trO 1)<|S b ⟨ktL K,stL s,pgL a p,b3,b4,tb,td⟩):CD D (k+5) (S b ⟨ktL K,stL s,pgL a p,b3,b4,tb,td⟩) (.ref<|.inl 842) [rf 2 0,.int 13] Q:=by
 show bR (W.K▸ez _) 4. λL=>(ao<|bW<|ae<|af 4. 4.<|aP (bS W)<|rj (bI W _) (bg 1.) (cy 1. 1.)<|oB 4. ?_);show ao<|aw<|aI<|aa<|aX<|aP (bS W)<|af 4. 4.<|cu (bI W _) (bg 1.) (cy 1. 1.) 4. ?_;show ab<|ce<|Km.ret<|Km.ret<|fin (Kr.refl _) h
theorem tU(W:Lw D)(h:Q (trO 2)<|S b ⟨ktL K,stL s,pgL a p,b3,b4,tb,td⟩):CD D (k+5) (S b ⟨ktL K,stL s,pgL a p,b3,b4,tb,td⟩) (.ref<|.inl 842) [rf 2 0,.int 1] Q:=by
 show bR (W.K▸ez _) 4. λL=>(ao<|bW<|ae<|af 4. 4.<|aP (bS W)<|rj (bI W _) (bg 1.) (cy 1. 1.)<|oB 4. ?_);show ao<|aw<|aI<|aa<|aX<|aP (bS W)<|af 4. 4.<|cu (bI W _) (bg 1.) (cy 1. 1.) 4. ?_;show ab<|ce<|Km.ret<|Km.ret<|fin (Kr.refl _) h
theorem sa(W:Lw D)(H:KT K)(h:Q (.tup [.int 19,.int 0])<|S b ⟨ktL K,stL s,pgL a p,b3,b4,tb,td⟩):CD D (k+4) (S b ⟨ktL K,stL s,pgL a p,b3,b4,tb,td⟩) (.ref<|.inl 842) [rf 2 0,.int 16] Q:=by
 show bR (W.K▸ez _) 4. λL=>(ao<|bW<|ae<|af 4. 4.<|aP (bS W)<|rj (bI W _) (bg 1.) (cy 1. 1.)<|aK ?_);show bk 4.<|aR<|aq<|cj<|ah W 4. 4. 4. 4. nofun<|aV W 4. 4. nofun<|cq W (f:=362) 4. 4.<|az (bD W) ?_;show aG 4. 4.<|CL.of (j:=k+1) (hW W 4. 4. 4. H.z 1. (by have:=H.n;omega) H.v ?_) 3.;show dC [("p",_),("k",_),("row",_)] 4. 4.<|bx<|aN 4. 4. 1. 1. 4.<|asg [("p",_),("k",_),("row",_),("sort",_)] 4. 4.<|dE<|aF<|ai<|bh 4. 4. (bF W) ?_;show ck 4.<|ai<|bh 4. 4. (cv W)<|ck 4.<|aY<|bk 4.<|bW<|bh 4. 4. (d5 W) ?_;show bk 4.<|bW<|bh 4. 4. (rA W)<|bk 4.<|bW<|bh 4. 4. (gu W)<|cf 4.<|ao ?_;show aw<|aI<|bM (Aw W)<|aa<|aN 4. 4. 1. 1. 4.<|ab<|ce<|Km.ret ?_;show Km.ret<|fin (Kr.refl _) h
theorem tV(W:Lw D)(H:KT K)(h:Q (trO 3)<|S b ⟨ktL K,stL s,pgL a p,b3,b4,tb,td⟩):CD D (k+5) (S b ⟨ktL K,stL s,pgL a p,b3,b4,tb,td⟩) (.ref<|.inl 842) [rf 2 0,.int 17] Q:=by
 show bR (W.K▸ez _) 4. λL=>(ao<|bW<|ae<|af 4. 4.<|aP (bS W)<|rj (bI W _) (bg 1.) (cy 1. 1.)<|aK ?_);show bk 4.<|aR<|aq<|cj<|ah W 4. 4. 4. 4. nofun<|aV W 4. 4. nofun<|cq W (f:=362) 4. 4.<|az (bD W) ?_;show aG 4. 4.<|CL.of (j:=k+1) (hW W 4. 4. 4. H.z 1. (by have:=H.n;omega) H.a ?_) 3.;show dC [("p",_),("k",_),("row",_)] 4. 4.<|bx<|aN 4. 4. 1. 1. 4.<|asg [("p",_),("k",_),("row",_),("sort",_)] 4. 4.<|dE<|aF<|ai<|bh 4. 4. (bF W) ?_;show ck 4.<|ai<|bh 4. 4. (cv W)<|ck 4.<|aY<|bk 4.<|bW<|bh 4. 4. (d5 W) ?_;show cf 4.<|ao<|aw<|aI<|bM (te W)<|aa<|ag (oA W) (l9 W)<|bo 4. 4. ?_;show aa<|aN 4. 4. 1. 1. 4.<|ab<|CL.of (j:=k+4) (sa W H ?_) 3.;show ab<|ce<|Km.ret<|Km.ret<|fin (Kr.refl _) h
theorem vP(W:Lw D)(hi:i<4)(H:KT K)(h:Q (trO i)<|S b ⟨ktL K,stL s,pgL a p,b3,b4,tb,td⟩):CD D (k+5) (S b ⟨ktL K,stL s,pgL a p,b3,b4,tb,td⟩) (.ref<|.inl 842) [rf 2 0,.int<|kdI i] Q:=by
 revert h;show allB.at (P:=λi=>Q (trO i) (S b ⟨ktL K,stL s,pgL a p,b3,b4,tb,td⟩)->CD D (k+5) (S b ⟨ktL K,stL s,pgL a p,b3,b4,tb,td⟩) (.ref<|.inl 842) [rf 2 0,.int<|kdI i] Q) (n:=4) ⟨⟨⟨⟨trivial,tR W⟩,tT W⟩,tU W⟩,tV W H⟩ hi
abbrev CU(f:Int)(g:G)(ps:List<|Int×Int)(i:Nat)(ρ:List<|String×MV)(g':G):Prop:=And3 (g'=g) (lk "flags" ρ=some (.int f))<|lk "out" ρ=some (.int<|r9 f<|ps.take i)
theorem dN(W:Lw D){f:Int}(h:Q (.int<|r9 f ps)<|S b g):CD D (k+1) (S b g) (.ref<|.inl 800) [.int f,.tup<|ps.map λp=>.tup [.int p.1,.int p.2]] Q:=by
 show bR (W.K▸ny _) 4. λL=>(bx<|aA<|gf [("flags",_),("pairs",_),("out",_)] 4. 4.<|eX (L:=L)<|cb ?_);show af 4. 4.<|itv ev<|forS (CU f g ps) (λO O O O O=>trivial) ⟨4.,4.,4.⟩ ?_ ?_
 ·rintro i ρ g' R hi ⟨rfl,h1,h2⟩;rw[Ka]at hi;have hx:ps[i]? =some ps[i]:=J6 hi;have he:(ps.map λp=>MV.tup [.int p.1,.int p.2]).getD i .none=.tup [.int ps[i].1,.int ps[i].2]:=by
   rw[J7,Kh,hx];rfl
  rw[he];show aM<|dT _ 4.<|dT _ 4.<|cB ?_;have h1': ∀u v,lk "flags" (pt "theirs" u<|pt "own" v ρ)=some (.int f):=λu v=>au<|au h1;have h2': ∀u v,lk "out" (pt "theirs" u<|pt "own" v ρ)=some (.int<|r9 f<|ps.take i):=λu v=>au<|au h2;show ao<|bW<|ae<|aC<|af 4. (h1' _ _)<|af 4. (au ad)<|fA<|aA ?_;show jo<|aK ?_;have hs:=vO f ps i hx;cases q:(bitAnd f ps[i].1 !=0)with
  |true=>
   rw[q]at hs;show cf 4.<|bx<|aC<|af 4. (h2' _ _)<|af 4. ad<|x7<|dC _ 4. 4.<|aT ?_;show Km.next<|aT<|en (Kr.refl _) ⟨4.,au<|h1' _ _,by rw[ad,hs];rfl⟩
  |false=>
   rw[q]at hs;show g8 4.<|aT<|en (Kr.refl _) ⟨4.,h1' _ _,by rw[h2',hs];rfl⟩
 rintro ρ g' ⟨rfl,h1,h2⟩;rw[Ka,List.take_length]at h2;show aH<|aw<|af 4. h2<|Km.ret<|fin (Kr.refl _) h
theorem kC(W:Lw D){m3 m4:MV}(hi:i<4)(H:KT K)(hz:fid<900)(hf:s.flds[(fid:Int).toNat]? =some (rf 3 j))(hfd:b3[j]? =some (fdC m1 m2 m3 (.int<|kdI i) m4 m5 m6))(hbz:p.blobs.length<=900)(hok:hok p.blobs<|.tup [.int 6,trO i])(h:Q (.int (cg p.blobs<|.tup [.int 6,trO i]).2)<|S b ⟨ktL K,stL s,pgL a {p with blobs:=(cg p.blobs<|.tup [.int 6,trO i]).1},b3,b4,tb,td⟩):CD D (k+6) (S b ⟨ktL K,stL s,pgL a p,b3,b4,tb,td⟩) (.ref<|.inl 877) [rf 2 0,.int fid] Q:=by
 show bR (W.K▸pj _) 4. λL=>(ao<|aw<|bV W 4. 4. (f:=600) 4. 4. (rQ W)<|bM (vx W)<|aa<|aI<|bM (th W) ?_);show aa<|ag (oA W) (l9 W)<|bo 4. 4.<|aa<|cj<|aX<|cj<|ah W 4. 4. 4. 4. nofun ?_;show aV W 4. 4. nofun<|af 4. 4.<|bd 4. 3. 3. hf<|aV W hfd 4. nofun<|ab<|CL.of (j:=k+5) (vP W hi H ?_) 3.;show ab<|ce<|ab<|CL.of (j:=k+2) (CT W hbz hok ?_) 3.;show Km.ret<|fin (Kr.refl _) h
end
def TxOk(xs:List MV):Prop:= ∀x∈xs,∃y,x=.str y
def BbOk(xs:List MV):Prop:= ∀x∈xs,vg x=true/\ ∀y,x≠.str y
theorem TxOk.hok(h:TxOk xs)(y:Str):hok xs<|.str y:=⟨4.,λx hx=>by
 obtain⟨z,rfl⟩:=h x hx;show⟨4.,λy b=>by rintro(⟨O,q⟩|⟨q,O⟩)<;>cases q⟩⟩
theorem BbOk.hok(h:BbOk xs)(hb:vg m=true)(hm: ∀y,m≠.str y):hok xs m:=⟨hb,λx hx=>⟨(h x hx).1,λy b=>by
 rintro(⟨q,O⟩|⟨O,q⟩)
 ·show(h x hx).2 y q
 ·show hm y q⟩⟩
theorem gN(h:TxOk xs)(y:Str):TxOk (cg xs<|.str y).1:=by
 unfold cg;split
 ·show h
 ·intro x hx;rcases List.mem_append.mp hx with hx|hx
  ·show h x hx
  ·simp at hx;show⟨y,hx⟩
theorem qk(h:BbOk xs)(hb:vg m=true)(hm: ∀y,m≠.str y):BbOk (cg xs m).1:=by
 unfold cg;split
 ·show h
 ·intro x hx;rcases List.mem_append.mp hx with hx|hx
  ·show h x hx
  ·simp at hx;subst hx;show⟨hb,hm⟩
theorem dr(xs:List MV)(m:MV):(cg xs m).1.length<=xs.length+1/\xs.length<=(cg xs m).1.length:=by
 unfold cg;split
 ·show⟨Nat.le_succ _,Kj _⟩
 ·simp
theorem mA(i:Nat):vg (.tup [.int 6,trO i])=true:=by
 match i with
 |0=>rfl
 |1=>rfl
 |2=>rfl
 |n+3=>rfl
theorem CV(i:Nat): ∀id,coV i≠.blt id:=by
 match i with
 |0=>nofun
 |1=>nofun
 |n+2=>nofun
noncomputable def FB:List<|Int×Int:=[(1,16),(2,32),(4,32832)]
def dO(fg:Int):Int:=bitOr 6<|r9 fg FB
section
theorem mB(W:Lw D)(hi:i<3)(H:KT K)(hz:s.types.length<=900)(h1:20<s.types.length)(hx: ∀j,2<j->j<20->s.types[j]? =some .none)(h:Q (.tup [.int<|coE i,.bytes<|coO i])<|S b ⟨ktL K,stL s,pgL a p,b3,b4,tb,td⟩):CDc D (k+5) (S b ⟨ktL K,stL s,pgL a p,b3,b4,tb,td⟩) (.ref<|.inl 770) [rf 2 0,.int<|kdI i,coV i] Q:=by
 have:kdI i=coK i:=allB.at (P:=λi=>kdI i=coK i) (n:=3) ⟨⟨⟨trivial,4.⟩,4.⟩,4.⟩ hi;rw[this];show nY W hi H hz h1 hx h
theorem or0{x:Int}(h:0<=x):bitOr (x*2^(2:Int).toNat) ((0:Nat):Int)=4*x:=by
 rw[show((2:Int).toNat)=2 from 4.];have hy:(0:Int)<=x*2^2:=by omega
 have key: ∀y:Int,0<=y->bitOr y ((0:Nat):Int)=y:=λy hy=>by
  have e1:(decide<|0<=PySem.Builtin.bitNot y)=false:=decide_eq_false (by unfold PySem.Builtin.bitNot;omega);have e2:(decide<|0<=PySem.Builtin.bitNot ((0:Nat):Int))=false:=by decide
  unfold bitOr bitAnd;rw[e1,e2];dsimp only;have e3:PySem.Builtin.bitNot (PySem.Builtin.bitNot y)=y:=by unfold PySem.Builtin.bitNot;omega
  have e4:(PySem.Builtin.bitNot<|PySem.Builtin.bitNot ((0:Nat):Int)).toNat=0:=by decide
  rw[e3,e4,Nat.or_zero];have e5:((y.toNat:Nat):Int)=y:=Int.toNat_of_nonneg hy;rw[e5];show e3
 rw[key _ hy];omega
theorem ql(W:Lw D){ow:Nat}{so:Int}{val:MV}(hi:i<4)(H:KT K)(hfz:fid<900)(hfl:s.flds[(fid:Int).toNat]? =some (rf 3 j))(hfd:b3[j]? =some (fdC (.int fid) (.int ow) (.str nm) (.int<|kdI i) (.int 6) (.int fg) val))(htz:s.types.length<=900)(how:ow<900)(hty:s.types[(ow:Int).toNat]? =some (rf (ow+105) 0))(htd:td ow=tdL (ow+105) a1 a2 (.int so) a4 a5 fl a6)(hso:so≠5)(hts:p.ts=ei os)(TO:TOk os R)(htx:TxOk p.texts)(htl:p.texts.length<=800)(hbb:BbOk p.blobs)(hbz:p.blobs.length<=800)(h4:((R 4).getD []).length<900)(hl:bitAnd fg 4=0)(h:Q .none<|S b ⟨ktL K,stL s,pgL a {p with ts:=ei<|gU os R 4,texts:=(cg p.texts<|.str nm).1,blobs:=(cg p.blobs<|.tup [.int 6,trO i]).1},b3,b4,bQ<|eF R 4<|.tup [.int<|dO fg,.int (cg p.texts<|.str nm).2,.int (cg p.blobs<|.tup [.int 6,trO i]).2],td⟩):CD D (k+7) (S b ⟨ktL K,stL s,pgL a p,b3,b4,bQ R,td⟩) (.ref<|.inl 898) [rf 2 0,rf 3 j] Q:=by
 show bR (W.K▸iW _) 4. λL=>?_;show bx ?_;show b6 ?_;show aC ?_;show ah W 4. 4. hfd 4. nofun ?_;show aP (lS W) ?_;show fA ?_;show aA ?_;show jo<|asg [("p",_),("f",_),("is_shared",_)] 4. 4.<|dE<|aF<|aU<|ae<|aC<|ah W 4. 4. hfd 4. nofun ?_;show aP (eN W)<|fA<|aA<|jo<|aK<|ck (by simpa using hl)<|bk 4.<|bW ?_;show aF<|aU<|ae<|cj<|aX<|cj<|ah W 4. 4. 4. 4. nofun<|aV W 4. 4. nofun ?_;show ah W 4. 4. hfd 4. nofun<|bd 4. 3. 3. hty<|aV W (by rw[cM,htd];rfl) (by show rfl) (by nofun)<|aP (iX W)<|cA<|ck (by simpa using hso)<|bk 4.<|aR ?_;show aC<|ah W 4. 4. hfd 4. nofun<|ag (dK W) (dg W)<|b5 W 4. 4. hfd 4. nofun<|bM (j7 W)<|ab<|CL.of (j:=k+1) (dN W (ps:=FB) ?_) 3.;show x7<|dC [("p",_),("f",_),("is_shared",_),("flags",_)] 4. 4.<|bx<|aq<|ah W 4. 4. 4. 4. nofun<|cq W (f:=558) 4. 4.<|az (bH W)<|bM (cm W) ?_;show aa<|aI<|bo 4. 4.<|aa<|aq<|ah W 4. 4. 4. 4. nofun<|cq W (f:=523) 4. 4.<|az (bN W) ?_;show bE W 4. 4. hfd 4. nofun<|CL.of (j:=k+1) (mu W 3. (htx.hok _) ?_) 3.;show aa<|ag (ka W) (jb W)<|bo 4. 4.<|bE W 4. 4. hfd 4. nofun<|CL.of (j:=k+6) (kC W (p:={p with texts:=(cg p.texts<|.str nm).1}) hi H hfz hfl hfd (by dsimp only;omega) (hbb.hok (mA i) nofun) ?_) 3.;show ab<|ce<|ab<|CL.of (j:=k+1) (kB W (t:=4) (os:=os) (R:=R) 1. hts TO h4 ?_) 3.;show asg [("p",_),("f",_),("is_shared",_),("flags",_),("row",_)] 4. 4.<|dE<|ae<|aC<|ah W 4. 4. hfd 4. nofun<|aP (eN W)<|fA<|aA ?_;show jo<|aK<|g8 (by simpa using hl)<|aT<|fin (Kr.refl _) h
theorem qm(W:Lw D){ow:Nat}{so:Int}(hi:i<4)(H:KT K)(hfz:fid<900)(hfl:s.flds[(fid:Int).toNat]? =some (rf 3 j))(hfd:b3[j]? =some (fdC (.int fid) (.int ow) (.str nm) (.int<|kdI i) (.int 6) (.int fg)<|coV i))(htz:s.types.length<=900)(how:ow<900)(hty:s.types[(ow:Int).toNat]? =some (rf (ow+105) 0))(htd:td ow=tdL (ow+105) a1 a2 (.int so) a4 a5 fl a6)(hso:so≠5)(hts:p.ts=ei os)(TO:TOk os R)(htx:TxOk p.texts)(htl:p.texts.length<=800)(hbb:BbOk p.blobs)(hbz:p.blobs.length<=800)(h4:((R 4).getD []).length<900)(hl:bitAnd fg 4≠0)(hsh:bitAnd fg 1≠0)(hi3:i<3)(ht20:20<s.types.length)(hnone: ∀j,2<j->j<20->s.types[j]? =some .none)(ho4:os.length<50)(h11:((R 11).getD []).length<900)(h:Q .none<|S b ⟨ktL K,stL s,pgL a {p with ts:=ei<|gU (gU os R 4) (eF R 4<|.tup [.int<|dO fg,.int (cg p.texts<|.str nm).2,.int (cg p.blobs<|.tup [.int 6,trO i]).2]) 11,texts:=(cg p.texts<|.str nm).1,blobs:=(cg (cg p.blobs<|.tup [.int 6,trO i]).1<|.bytes<|coO i).1},b3,b4,bQ<|eF (eF R 4<|.tup [.int<|dO fg,.int (cg p.texts<|.str nm).2,.int (cg p.blobs<|.tup [.int 6,trO i]).2]) 11<|.tup [.int<|coE i,.int<|4*(((R 4).getD []).length+1:Nat),.int (cg (cg p.blobs<|.tup [.int 6,trO i]).1<|.bytes<|coO i).2],td⟩):CDc D (k+7) (S b ⟨ktL K,stL s,pgL a p,b3,b4,bQ R,td⟩) (.ref<|.inl 898) [rf 2 0,rf 3 j] Q:=by
 show kA (W.K▸iW _) 4. λL=>(aD<|WP.c ?_);show aR<|b6<|aC<|ah W 4. 4. hfd 4. nofun<|aP (lS W)<|fA<|aA<|jo ?_;show dC [("p",_),("f",_),("is_shared",_)] 4. 4.<|aD<|WP.c ?_;show bW<|aF<|aU<|ae<|aC<|ah W 4. 4. hfd 4. nofun<|aP (eN W)<|fA ?_;show aA<|jo<|vE (by simpa using hl)<|aU<|qR<|cI<|af 4. 4.<|aK ?_;show ck (by simpa using hsh)<|g8 4.<|aD<|WP.c ?_;show bW<|aF<|aU<|ae<|cj<|aX<|cj<|ah W 4. 4. 4. 4. nofun ?_;show aV W 4. 4. nofun<|ah W 4. 4. hfd 4. nofun<|bd 4. 3. 3. hty<|aV W (by rw[cM,htd];rfl) (by show rfl) (by nofun)<|aP (iX W)<|cA<|ck (by simpa using hso)<|g8 4. ?_;show aD<|WP.c ?_;show aR<|aC<|ah W 4. 4. hfd 4. nofun<|ag (dK W) (dg W)<|b5 W 4. 4. hfd 4. nofun<|bM (j7 W)<|ab<|CL.of (j:=k+1) (dN W (ps:=FB) ?_) 3.;show x7<|dC [("p",_),("f",_),("is_shared",_),("flags",_)] 4. 4.<|aD<|WP.c ?_;show aR<|aq<|ah W 4. 4. 4. 4. nofun<|cq W (f:=558) 4. 4.<|az (bH W)<|bM (cm W)<|aa<|aI ?_;show bo 4. 4.<|aa<|aq<|ah W 4. 4. 4. 4. nofun<|cq W (f:=523) 4. 4.<|az (bN W)<|bE W 4. 4. hfd 4. nofun<|CL.of (j:=k+1) (mu W 3. (htx.hok _) ?_) 3.;show aa<|ag (ka W) (jb W)<|bo 4. 4.<|bE W 4. 4. hfd 4. nofun<|CL.of (j:=k+6) (kC W (p:={p with texts:=(cg p.texts<|.str nm).1}) hi H hfz hfl hfd (by dsimp only;omega) (hbb.hok (mA i) nofun) ?_) 3.;show ab<|ce<|ab<|CL.of (j:=k+1) (kB W (t:=4) (os:=os) (R:=R) 1. hts TO h4 ?_) 3.;show dC [("p",_),("f",_),("is_shared",_),("flags",_),("row",_)] 4. 4.<|aD<|Ci<|ae<|aC<|ah W 4. 4. hfd 4. nofun<|aP (eN W)<|fA ?_;show aA<|jo<|aK<|cf (by simpa using hl)<|aD<|mZ<|b8<|aP (nG W) ?_;show az (l8 W)<|WP.c<|bo 4. 4.<|b5 W 4. 4. hfd 4. nofun<|bE W 4. 4. hfd 4. (CV i)<|CLc.at (j:=k+5) (mB W hi3 H htz ht20 hnone ?_) 3.;show aM<|dT [("p",_),("f",_),("is_shared",_),("flags",_),("row",_),("element",_)] 4.<|dT [("p",_),("f",_),("is_shared",_),("flags",_),("row",_),("element",_),("octets",_)] 4.<|cB<|Km.next<|aD<|WP.c ?_;show aR<|ag (d6 W) (dM W)<|bM (f5 W)<|bM (cm W)<|aG 4. 4.<|CL.of (j:=k+2) (d7 W (c:=1) (t:=4) (b:=2) (tags:=[4,8,23]) (n:=0) 4. 3. 3. 1. 1. 1. 4. (λj hj=>absurd hj<|Nat.not_lt_zero _) ?_) 3.;rw[or0 3.];show dC [("p",_),("f",_),("is_shared",_),("flags",_),("row",_),("element",_),("octets",_),("parent",_)] 4. 4.<|aD<|WP.c ?_;show aW<|aq<|ah W 4. 4. 4. 4. nofun<|cq W (f:=558) 4. 4.<|az (bH W)<|bM (el W)<|aa<|aI ?_;show bo 4. 4.<|bo 4. 4.<|aa<|aq<|ah W 4. 4. 4. 4. nofun<|cq W (f:=523) 4. 4.<|az (bN W)<|aG 4. 4. ?_;show CL.of (j:=k+1) (CS W (p:={p with ts:=ei<|gU os R 4,texts:=(cg p.texts<|.str nm).1,blobs:=(cg p.blobs<|.tup [.int 6,trO i]).1}) (by have:=(dr p.blobs<|.tup [.int 6,trO i]).1;dsimp only;show um ‹_› ‹_› 4.) ((qk hbb (mA i) nofun).hok 4. nofun) ?_) 3.;show ab<|ce<|ab<|CL.of (j:=k+1) (kB W (t:=11) (os:=gU os R 4) (R:=eF R 4<|.tup [.int<|dO fg,.int (cg p.texts<|.str nm).2,.int (cg p.blobs<|.tup [.int 6,trO i]).2]) 1. 4. (TO.add 1. ho4 h4) (by rw[show(eF R 4<|.tup [.int<|dO fg,.int (cg p.texts<|.str nm).2,.int (cg p.blobs<|.tup [.int 6,trO i]).2]) 11=R 11 from bq 1.];show h11) ?_) 3.;show Km.next<|j5<|Km.next<|j5<|fin (Kr.refl _) h
end
noncomputable def ec:Nat->Str|1=>Str.ofString "Object"|_=>Str.ofString "ValueType"
noncomputable def CW:Nat->Int|1=>0|_=>1
structure StOk(s:SS)(td:Nat->List Con):Prop where
 asms:s.asms=[.str<|-"core",.str<|-"app"]
 tz:s.types.length<=900
 t64:64<=s.types.length
 ty: ∀t,t=1\/t=2->s.types[t]? =some (rf (t+105) 0)
 td: ∀t,t=1\/t=2->td t=tdL (t+105) (.int t) (.str<|ec t) (.int 1) (.int<|CW t) (.int<| -1) [] (.int 0)
 nk:s.names.all (λp=>c8 p.1)=true
 nd:(s.names.map (·.1)).Nodup
 ng: ∀t:Nat,t=1\/t=2->b9 s.names (.tup [.int 0,.str<|ec t,.int 0])=some (.int t)
theorem AQ{es:List<|MV×MV}(h:es.all (λp=>c8 p.1)=true)(i j:Int)(x:Str):kok es (.tup [.int i,.str x,.int j])=true:=by
 unfold kok;rw[h];simp[iM,sT,hkE,lE,v7]
section
theorem kD(W:Lw D)(ht:t=1\/t=2)(H:StOk s td)(h:Q (.int t)<|S b ⟨b0,stL s,b2,b3,b4,tb,td⟩):CD D (k+2) (S b ⟨b0,stL s,b2,b3,b4,tb,td⟩) (.ref<|.inl 784) [rf 1 0,.int 0,.str<|ec t,.int 0] Q:=by
 show bR (W.K▸pi _) 4. λL=>?_;show bx ?_;show aq ?_;show ah W 4. 4. 4. 4. nofun ?_;show fc (.inl 4.) F.slot_dict_get F.type_dict_get ?_;show az trivial ?_;show aa ?_;show aI ?_;show bo 4. 4.<|bo 4. 4.<|aG 4. 4.<|ce<|bp<|ab<|gq (.inl 4.) (AQ H.nk _ _ _) H.nd ?_;rw[H.ng t ht];show gf [("store",_),("asm",_),("name",_),("count",_),("tid",_)] 4. 4.<|yt<|aF<|aU<|cI<|af 4. 4.<|sS (a:=t) ?_;show cf (by rcases ht with rfl|rfl<;>rfl) ?_;show aU<|ae<|af 4. 4.<|ag (bX W) trivial<|bE W 4. 4. 4. 4. nofun<|aS 4. (by have:=H.tz;omega)<|oS (a:=t)<|aK ?_;have ht3:t<3:=by omega
 show cf (by have:=H.t64;simp;omega)<|fb<|cf 4.<|bx<|aX<|ah W 4. 4. 4. 4. nofun<|af 4. 4.<|bd (i:=t) 4. 3. 3. (H.ty t ht) ?_;show asg [("store",_),("asm",_),("name",_),("count",_),("tid",_),("t",_)] 4. 4.<|dE<|aF<|aU<|ae<|af 4. 4.<|dR<|oT ?_;show vE 4.<|aU<|ae<|ah W 4. 4. (by rw[cM,H.td t ht];rfl) (by show rfl) (by nofun)<|aA<|cA<|cf 4.<|aU ?_;show ae<|aI<|b5 W 4. 4. (by rw[cM,H.td t ht];rfl) (by show rfl) (by nofun)<|b5 W 4. 4. (by rw[cM,H.td t ht];rfl) (by show rfl) (by nofun)<|aa<|ag (bX W) trivial<|bE W 4. 4. (by rw[cM,H.td t ht];rfl) (by show rfl) (by nofun)<|gJ (by rw[cM,H.td t ht];rfl) ?_;show ab<|ce<|aI<|bo 4. 4.<|bo 4. 4.<|aG 4. 4.<|ce<|Cd (by simp[hkE,sT]) (by simp[hkE,sT]) (by simp[v7,lE]) ?_;show vE (c9 _ (by simp[hkE,sT]))<|fb<|cf 4.<|ao<|aw<|af 4. 4.<|Km.ret<|Km.ret ?_;show⟨⟨_,4.⟩,?_⟩;show Km.ret<|fin (Kr.refl _) h
theorem vQ(W:Lw D)(H:StOk s td)(h:Q .none<|S b ⟨b0,stL s,b2,b3,b4,tb,td⟩):CD D (k+1) (S b ⟨b0,stL s,b2,b3,b4,tb,td⟩) (.ref<|.inl 726) [rf 1 0,.int 0] Q:=by
 show bR (W.K▸s9 _) 4. λL=>(ao<|bW<|aF<|ai<|ae<|af 4. 4.<|aA ?_);show oS<|eS 4.<|ai<|ae<|af 4. 4.<|ag (bX W) trivial<|bE W 4. 4. 4. 4. nofun<|aS 4. (by rw[H.asms];decide) ?_;show sR<|eS (by rw[H.asms];rfl)<|ai<|ae<|aX<|ah W 4. 4. 4. 4. nofun<|af 4. 4.<|bd 4. 1. 1. (by rw[H.asms];rfl) ?_;show gQ<|ah W 4. 4. 4. 4. nofun ?_;change WV _ _ _ _ _;show aC<|af 4. 4.<|aA<|dP ⟨_,4.,?_⟩;change _;show Au 4. (by rw[H.asms];decide)<|f9 λx hx=>?_;rw[bv,H.asms];show yA (xs:=[.str<|-"app"]) (ak ..) 4. 4. 1.<|eS (by decide+kernel)<|aY<|g8 4.<|aT<|fin (Kr.set (b:=b) hx) h
end
theorem uz{es:List<|MV×MV}{v:MV}(hn:b9 es (.int t)=none)(nd:(es.map (·.1)).Nodup):((es++[(MV.int t,v)]).map (·.1)).Nodup:=by
 rw[Ki];show List.nodup_append.mpr ⟨nd,by simp,λa ha c hc e=>?_⟩;simp at hc;subst hc;obtain⟨p,hp,rfl⟩:=List.mem_map.mp ha;unfold b9 at hn;rw[Option.map_eq_none_iff,List.find?_eq_none]at hn;show hn p hp (by rw[e];simp[iL])
theorem sb{es:List<|MV×MV}{v:MV}(hn:b9 es (.int t)=none):b9 (es++[(MV.int t,v)]) (.int t)=some v:=by
 unfold b9 at hn ⊢;rw[Option.map_eq_none_iff]at hn;rw[List.find?_append,hn];simp[iL]
noncomputable def mN:Str:=Str.ofString "core"
noncomputable def z1(j:Nat):MV:=.tup [.int 1,.int 0,.int 0,.int 0,.int 0,.int 0,.int j,.int 0,.int 0]
noncomputable def CX(j:Nat):MV:=.tup [.int 6,.int j,.int 0]
noncomputable def ar1:List<|MV×MV:=[(.int 0,.int 1)]
theorem uA(t:Nat)(ht:t=1\/t=2):(!(PySem.Builtin.Str.occurrences (ec t) ⟨#[96]⟩ 0 (ec t).length 1).isEmpty)=false:=by
 rcases ht with rfl|rfl<;>decide+kernel
section
theorem CY(W:Lw D)(H:StOk s td)(hts:p.ts=ei os)(TO:TOk os R)(htx:TxOk p.texts)(htl:p.texts.length<=800)(har:p.arefs=[])(h35:R 35=none)(h:Q (.int 1)<|S b ⟨b0,stL s,pgL a {p with ts:=ei<|gU os R 35,texts:=(cg p.texts<|.str mN).1,arefs:=ar1},b3,b4,bQ<|eF R 35<|z1 (cg p.texts<|.str mN).2,td⟩):CD D (k+2) (S b ⟨b0,stL s,pgL a p,b3,b4,bQ R,td⟩) (.ref<|.inl 828) [rf 2 0,.int 0] Q:=by
 show bR (W.K▸hH _) 4. λL=>?_;show ao ?_;show bW ?_;show ae ?_;show af 4. 4. ?_;show ah W 4. 4. 4. 4. nofun ?_;show dX (.inl 4.) (by rw[har];rfl) (by rw[har];show List.nodup_nil) ?_;rw[har];show oB 4.<|ao<|aW<|ag (vA W) (tA W)<|b5 W 4. 4. 4. 4. nofun<|aG 4. 4.<|CL.of (j:=k+1) (vQ W H ?_) 3.;show ge<|aq<|ah W 4. 4. 4. 4. nofun<|cq W (f:=523) 4. 4.<|az (bN W)<|aa<|aX<|cj ?_;show ah W 4. 4. 4. 4. nofun<|aV W 4. 4. nofun<|af 4. 4.<|bd 4. 1. 1. (by rw[H.asms];rfl)<|ab<|CL.of (j:=k+1) (mu W 3. (htx.hok _) ?_) 3.;show gf [("p",_),("asm",_),("name",_)] 4. 4.<|aZ<|aq<|ah W 4. 4. 4. 4. nofun<|cq W (f:=558) 4. 4.<|az (bH W)<|bM (d8 W)<|aa ?_;show aI<|bp<|bp<|bp<|bp<|bp<|bp<|bo 4. 4. ?_;show bp<|bp<|ab<|ce<|ab<|CL.of (j:=k+1) (kB W (t:=35) (os:=os) (R:=R) 1. hts TO (by rw[h35];decide) ?_) 3.;rw[h35];show ah W 4. 4. 4. 4. nofun<|af 4. 4.<|dz 4. (by rw[har];rfl) (by rw[har];show List.nodup_nil) (by rw[har];decide) ?_;rw[har];show stc (kZ (by show dB 4.))<|Km.next<|aT<|aH<|aw<|aX<|ah W 4. 4. 4. 4. nofun<|af 4. 4. ?_;show cu (es:=ar1) (.inl 4.) 4. (cy 4. 1.) (mv:=.int 1) 4.<|Km.ret<|fin (Kr.refl _) h
theorem CZ(W:Lw D)(har:p.arefs=ar1)(h:Q (.int 1)<|S b ⟨b0,stL s,pgL a p,b3,b4,bQ R,td⟩):CD D (k+2) (S b ⟨b0,stL s,pgL a p,b3,b4,bQ R,td⟩) (.ref<|.inl 828) [rf 2 0,.int 0] Q:=by
 show bR (W.K▸hH _) 4. λL=>?_;show ao ?_;show bW ?_;show ae ?_;show af 4. 4. ?_;show ah W 4. 4. 4. 4. nofun ?_;show dX (.inl 4.) (by rw[har];rfl) (by rw[har];show cy 4. 1.) ?_;rw[har];show aK<|bk 4.<|aw<|aX<|ah W 4. 4. 4. 4. nofun<|af 4. 4.<|cu (.inl 4.) (by rw[har];rfl) (by rw[har];show cy 4. 1.) (mv:=.int 1) (by rw[har];rfl)<|Km.ret ?_;show fin (Kr.refl _) h
theorem HU(W:Lw D)(ht:t=1\/t=2)(H:StOk s td)(hts:p.ts=ei os)(TO:TOk os R)(ho:os.length<48)(htx:TxOk p.texts)(htl:p.texts.length<=800)(hrk:p.trows.all (λx=>cN x.1)=true)(hrn:(p.trows.map (·.1)).Nodup)(hr0:b9 p.trows (.int t)=none)(hfk:p.trefs.all (λx=>cN x.1)=true)(hfn:(p.trefs.map (·.1)).Nodup)(hfl:p.trefs.length<=10)(hf0:b9 p.trefs (.int t)=none)(har:p.arefs=ar1)(h1:((R 1).getD []).length<900)(h:Q (.int<|1*16777216+(((R 1).getD []).length+1))<|S b ⟨b0,stL s,pgL a {p with ts:=ei<|gU os R 1,texts:=(cg p.texts<|.str<|ec t).1,trefs:=p.trefs++[(.int t,.int (((R 1).getD []).length+1))]},b3,b4,bQ<|eF R 1<|CX (cg p.texts<|.str<|ec t).2,td⟩):CD D (k+3) (S b ⟨b0,stL s,pgL a p,b3,b4,bQ R,td⟩) (.ref<|.inl 835) [rf 2 0,.int t] Q:=by
 show bR (W.K▸fG _) 4. λL=>?_;show ao ?_;show bW ?_;show ae ?_;show af 4. 4. ?_;show ah W 4. 4. 4. 4. nofun ?_;show rj (.inl 4.) (bg hrk) hrn ?_;rw[hr0];show aK<|bk 4.<|bW<|ae<|af 4. 4.<|ah W 4. 4. 4. 4. nofun<|dX (.inl 4.) (bg hfk) hfn ?_;rw[hf0];show oB 4.<|ao<|bW<|aF<|ai<|ae<|af 4. 4.<|aA ?_;show zJ<|eS (by simp;omega)<|ai<|ae<|af 4. 4.<|ag (bX W) trivial<|aa<|cj ?_;show ah W 4. 4. 4. 4. nofun<|aV W 4. 4. nofun<|ab<|aS 4. (by have:=H.tz;omega)<|sR<|eS (by have:=H.t64;simp;omega)<|ai<|ae ?_;show aX<|cj<|ah W 4. 4. 4. 4. nofun<|aV W 4. 4. nofun<|af 4. 4.<|bd (i:=t) 4. 3. 3. (H.ty t ht)<|dR<|Bq ?_;show eS 4.<|aY<|bk 4.<|aR<|aX<|cj<|ah W 4. 4. 4. 4. nofun<|aV W 4. 4. nofun ?_;show af 4. 4.<|bd (i:=t) 4. 3. 3. (H.ty t ht)<|asg [("p",_),("tid",_),("t",_)] 4. 4.<|dE<|ae<|ah W 4. 4. (by rw[cM,H.td t ht];rfl) (by show rfl) (by nofun)<|aA<|lD ?_;show aK<|bk 4.<|bW<|aF<|ai<|ae<|ag (kf W) (i7 W)<|b5 W 4. 4. 4. 4. nofun ?_;show b5 W 4. 4. (by rw[cM,H.td t ht];rfl) (by show rfl) (by nofun)<|b5 W 4. 4. (by rw[cM,H.td t ht];rfl) (by show rfl) (by nofun)<|aa<|ag (bX W) trivial<|bE W 4. 4. (by rw[cM,H.td t ht];rfl) (by show rfl) (by nofun)<|gJ (by rw[cM,H.td t ht];rfl)<|ab<|CL.of (j:=k+2) (kD W ht H ?_) 3.;show af 4. 4.<|jo<|eS (by simp)<|ai<|ae<|ag (AC W) trivial<|bp<|ab ?_;show Ar 1.<|ah W 4. 4. (by rw[cM,H.td t ht];rfl) (by show rfl) (by nofun)<|sY<|eS (uA t ht)<|aY<|bk 4.<|aR<|ag (d6 W) (dM W) ?_;show bM (eg W)<|bM (d8 W)<|aa<|ag (iZ W) (hV W)<|bo 4. 4.<|bE W 4. 4. (by rw[cM,H.td t ht];rfl) (by show rfl) (by nofun)<|CL.of (j:=k+2) (CZ W har ?_) 3.;show ab ?_;show CL.of (j:=k+2) (d7 W (c:=5) (t:=35) (b:=2) (tags:=[0,-1,35,1]) (n:=2) 4. 1. 1. 1. 1. 1. 4. (λj hj=>by rcases j with O|O|j<;>first|decide|omega) ?_) 3.;rw[show bitOr (1*2^(2:Int).toNat) ((2:Nat):Int)=6 from by decide];show gf [("p",_),("tid",_),("t",_),("scope",_)] 4. 4.<|aZ<|aq<|ah W 4. 4. 4. 4. nofun<|cq W (f:=558) 4. 4.<|az (bH W)<|bM (cP W)<|aa ?_;show aI<|bo 4. 4.<|aa<|aq<|ah W 4. 4. 4. 4. nofun<|cq W (f:=523) 4. 4.<|az (bN W)<|aa ?_;show ag (jF W) (iy W)<|aG 4. 4.<|CL.of (j:=k+1) (jI W (np:=.inr (t+105,2)) (by rw[cM,H.td t ht];rfl) (by show rfl) (by rw[cM,H.td t ht];rfl) (by show rfl) (by nofun) ?_) 3.;show ab<|CL.of (j:=k+1) (mu W (p:=p) 3. (htx.hok _) ?_) 3.;show bp<|ab<|ce<|ab<|CL.of (j:=k+1) (kB W (t:=1) (os:=os) (R:=R) 1. hts TO (by show h1) ?_) 3.;show ah W 4. 4. 4. 4. nofun<|af 4. 4.<|dz 4. (bg hfk) hfn (by change p.trefs.length<=1000;omega) ?_;rw[cU hf0];show stc (kZ (by show dB 4.))<|Km.next<|aT<|aH<|aw<|ag (gA W) (fP W)<|bM (cP W)<|aa ?_;show aX<|ah W 4. 4. 4. 4. nofun<|af 4. 4.<|cu (es:=p.trefs++[(.int t,.int (((R 1).getD []).length+1))]) (.inl 4.) (bg (by rw[List.all_append,hfk];rfl)) (uz hf0 hfn) (sb hf0)<|ab<|CL.of (j:=k+2) (gF W 3. 3. 1. 1. ?_) 3.;show Km.ret<|fin (Kr.refl _) h
theorem HV(W:Lw D)(ht:t=1\/t=2)(H:StOk s td)(hts:p.ts=ei os)(TO:TOk os R)(ho:os.length<48)(htx:TxOk p.texts)(htl:p.texts.length<=800)(hrk:p.trows.all (λx=>cN x.1)=true)(hrn:(p.trows.map (·.1)).Nodup)(hr0:b9 p.trows (.int t)=none)(hfk:p.trefs.all (λx=>cN x.1)=true)(hfn:(p.trefs.map (·.1)).Nodup)(hfl:p.trefs.length<=10)(hf0:b9 p.trefs (.int t)=none)(har:p.arefs=[])(h35:R 35=none)(h1:((R 1).getD []).length<900)(h:Q (.int<|1*16777216+(((R 1).getD []).length+1))<|S b ⟨b0,stL s,pgL a {p with ts:=ei<|gU (gU os R 35) (eF R 35<|z1 (cg p.texts<|.str mN).2) 1,texts:=(cg (cg p.texts<|.str mN).1<|.str<|ec t).1,arefs:=ar1,trefs:=p.trefs++[(.int t,.int (((R 1).getD []).length+1))]},b3,b4,bQ<|eF (eF R 35<|z1 (cg p.texts<|.str mN).2) 1<|CX (cg (cg p.texts<|.str mN).1<|.str<|ec t).2,td⟩):CD D (k+3) (S b ⟨b0,stL s,pgL a p,b3,b4,bQ R,td⟩) (.ref<|.inl 835) [rf 2 0,.int t] Q:=by
 show bR (W.K▸fG _) 4. λL=>?_;show ao ?_;show bW ?_;show ae ?_;show af 4. 4. ?_;show ah W 4. 4. 4. 4. nofun ?_;show rj (.inl 4.) (bg hrk) hrn ?_;rw[hr0];show aK<|bk 4.<|bW<|ae<|af 4. 4.<|ah W 4. 4. 4. 4. nofun<|dX (.inl 4.) (bg hfk) hfn ?_;rw[hf0];show oB 4.<|ao<|bW<|aF<|ai<|ae<|af 4. 4.<|aA ?_;show zJ<|eS (by simp;omega)<|ai<|ae<|af 4. 4.<|ag (bX W) trivial<|aa<|cj ?_;show ah W 4. 4. 4. 4. nofun<|aV W 4. 4. nofun<|ab<|aS 4. (by have:=H.tz;omega)<|sR<|eS (by have:=H.t64;simp;omega)<|ai<|ae ?_;show aX<|cj<|ah W 4. 4. 4. 4. nofun<|aV W 4. 4. nofun<|af 4. 4.<|bd (i:=t) 4. 3. 3. (H.ty t ht)<|dR<|Bq ?_;show eS 4.<|aY<|bk 4.<|aR<|aX<|cj<|ah W 4. 4. 4. 4. nofun<|aV W 4. 4. nofun ?_;show af 4. 4.<|bd (i:=t) 4. 3. 3. (H.ty t ht)<|asg [("p",_),("tid",_),("t",_)] 4. 4.<|dE<|ae<|ah W 4. 4. (by rw[cM,H.td t ht];rfl) (by show rfl) (by nofun)<|aA<|lD ?_;show aK<|bk 4.<|bW<|aF<|ai<|ae<|ag (kf W) (i7 W)<|b5 W 4. 4. 4. 4. nofun ?_;show b5 W 4. 4. (by rw[cM,H.td t ht];rfl) (by show rfl) (by nofun)<|b5 W 4. 4. (by rw[cM,H.td t ht];rfl) (by show rfl) (by nofun)<|aa<|ag (bX W) trivial<|bE W 4. 4. (by rw[cM,H.td t ht];rfl) (by show rfl) (by nofun)<|gJ (by rw[cM,H.td t ht];rfl)<|ab<|CL.of (j:=k+2) (kD W ht H ?_) 3.;show af 4. 4.<|jo<|eS (by simp)<|ai<|ae<|ag (AC W) trivial<|bp<|ab ?_;show Ar 1.<|ah W 4. 4. (by rw[cM,H.td t ht];rfl) (by show rfl) (by nofun)<|sY<|eS (uA t ht)<|aY<|bk 4.<|aR<|ag (d6 W) (dM W) ?_;show bM (eg W)<|bM (d8 W)<|aa<|ag (iZ W) (hV W)<|bo 4. 4.<|bE W 4. 4. (by rw[cM,H.td t ht];rfl) (by show rfl) (by nofun)<|CL.of (j:=k+2) (CY W H hts TO htx htl har h35 ?_) 3.;show ab ?_;show CL.of (j:=k+2) (d7 W (c:=5) (t:=35) (b:=2) (tags:=[0,-1,35,1]) (n:=2) 4. 1. 1. 1. 1. 1. 4. (λj hj=>by rcases j with O|O|j<;>first|decide|omega) ?_) 3.;rw[show bitOr (1*2^(2:Int).toNat) ((2:Nat):Int)=6 from by decide];show gf [("p",_),("tid",_),("t",_),("scope",_)] 4. 4.<|aZ<|aq<|ah W 4. 4. 4. 4. nofun<|cq W (f:=558) 4. 4.<|az (bH W)<|bM (cP W)<|aa ?_;show aI<|bo 4. 4.<|aa<|aq<|ah W 4. 4. 4. 4. nofun<|cq W (f:=523) 4. 4.<|az (bN W)<|aa ?_;show ag (jF W) (iy W)<|aG 4. 4.<|CL.of (j:=k+1) (jI W (np:=.inr (t+105,2)) (by rw[cM,H.td t ht];rfl) (by show rfl) (by rw[cM,H.td t ht];rfl) (by show rfl) (by nofun) ?_) 3.;show ab<|CL.of (j:=k+1) (mu W (p:={p with ts:=ei<|gU os R 35,texts:=(cg p.texts<|.str mN).1,arefs:=ar1}) (by have:=(dr p.texts<|.str mN).1;dsimp only;show um ‹_› ‹_› 4.) ((gN htx mN).hok _) ?_) 3.;show bp<|ab<|ce<|ab<|CL.of (j:=k+1) (kB W (t:=1) (os:=(gU os R 35)) (R:=eF R 35<|z1 (cg p.texts<|.str mN).2) 1. 4. (TO.add 1. 3. (by rw[h35];decide)) (by rw[show(eF R 35<|z1 (cg p.texts<|.str mN).2) 1=R 1 from bq 1.];show h1) ?_) 3.;rw[show(eF R 35<|z1 (cg p.texts<|.str mN).2) 1=R 1 from bq 1.];show ah W 4. 4. 4. 4. nofun<|af 4. 4.<|dz 4. (bg hfk) hfn (by change p.trefs.length<=1000;omega) ?_;rw[cU hf0];show stc (kZ (by show dB 4.))<|Km.next<|aT<|aH<|aw<|ag (gA W) (fP W)<|bM (cP W)<|aa ?_;show aX<|ah W 4. 4. 4. 4. nofun<|af 4. 4.<|cu (es:=p.trefs++[(.int t,.int (((R 1).getD []).length+1))]) (.inl 4.) (bg (by rw[List.all_append,hfk];rfl)) (uz hf0 hfn) (sb hf0)<|ab<|CL.of (j:=k+2) (gF W 3. 3. 1. 1. ?_) 3.;show Km.ret<|fin (Kr.refl _) h
theorem HW(W:Lw D)(ht:t=1\/t=2)(H:StOk s td)(hts:p.ts=ei os)(TO:TOk os R)(ho:os.length<48)(htx:TxOk p.texts)(htl:p.texts.length<=800)(hrk:p.trows.all (λx=>cN x.1)=true)(hrn:(p.trows.map (·.1)).Nodup)(hr0:b9 p.trows (.int t)=none)(hfk:p.trefs.all (λx=>cN x.1)=true)(hfn:(p.trefs.map (·.1)).Nodup)(hfl:p.trefs.length<=10){r:Int}(hf0:b9 p.trefs (.int t)=some (.int r))(h0:0<=r)(h1:r<1000)(h:Q (.int<|1*16777216+r)<|S b ⟨b0,stL s,pgL a p,b3,b4,bQ R,td⟩):CD D (k+3) (S b ⟨b0,stL s,pgL a p,b3,b4,bQ R,td⟩) (.ref<|.inl 835) [rf 2 0,.int t] Q:=by
 show bR (W.K▸fG _) 4. λL=>?_;show ao ?_;show bW ?_;show ae ?_;show af 4. 4. ?_;show ah W 4. 4. 4. 4. nofun ?_;show rj (.inl 4.) (bg hrk) hrn ?_;rw[hr0];show aK<|bk 4.<|bW<|ae<|af 4. 4.<|ah W 4. 4. 4. 4. nofun<|dX (.inl 4.) (bg hfk) hfn ?_;rw[hf0];show aK<|bk 4.<|aw<|ag (gA W) (fP W)<|bM (cP W)<|aa<|aX<|ah W 4. 4. 4. 4. nofun ?_;show af 4. 4.<|cu (.inl 4.) (bg hfk) hfn hf0<|ab<|CL.of (j:=k+2) (gF W 3. 3. 1. 1. ?_) 3.;show Km.ret<|fin (Kr.refl _) h
end
theorem cX(xs:List MV)(m:MV):xs<+:(cg xs m).1:=by
 unfold cg;split
 ·show List.prefix_refl _
 ·show⟨_,4.⟩
theorem fV(h:TxOk xs)(y:Str):(cg xs<|.str y).1[(cg xs<|.str y).2]? =some (.str y):=by
 unfold cg;cases e:xs.findIdx? (λx=>qE x<|.str y)with
 |some j=>
  dsimp only;rw[List.findIdx?_eq_some_iff_getElem]at e;obtain⟨hj,hb,O⟩:=e;rw[J6 hj];obtain⟨z,hz⟩:=h xs[j] (List.getElem_mem hj);rw[hz]at hb ⊢;have:c7 (.str z) (.str y)=true:=hb;rw[gm _ _ this]
 |none=>simp
theorem dw(h:xs<+:ys)(e:xs[j]? =some m):ys[j]? =some m:=by
 obtain⟨t,rfl⟩:=h;rw[List.getElem?_append_left (by
  rcases Nat.lt_or_ge j xs.length with q|q
  ·show q
  ·rw[List.getElem?_eq_none q]at e;cases e)]
 show e
noncomputable def tW(rt:List Nat):List<|MV×MV:=rt.zipIdx.map λx=>(MV.int (x.1:Nat),MV.int ((x.2:Nat)+1))
theorem xl(rt:List Nat)(t:Nat):tW (rt++[t])=tW rt++[(MV.int t,MV.int (rt.length+1))]:=by
 unfold tW;rw[List.zipIdx_append];simp
theorem tX(rt:List Nat):(tW rt).all (λx=>cN x.1)=true:=by simp[tW,cN]
theorem sd(rt:List Nat):(tW rt).map (·.1)=rt.map λt:Nat=>MV.int t:=by
 unfold tW;rw[List.map_map];have:((λx:MV×MV=>x.1)∘λx:Nat×Nat=>(MV.int (x.1:Nat),MV.int ((x.2:Nat)+1)))=(λt:Nat=>MV.int t)∘Prod.fst:=4.;rw[this,<-List.map_map,List.zipIdx_map_fst]
theorem tY(h:rt.Nodup):((tW rt).map (·.1)).Nodup:=by
 rw[sd];show List.Pairwise.map _ (R:=λa b=>a≠b) (λa b n e=>n (by simp at e;omega)) h
theorem xm(h:t∉rt):b9 (tW rt) (.int t)=none:=by
 show eC λp hp e=>h ?_;have:p.1∈(tW rt).map (·.1):=List.mem_map.mpr ⟨p,hp,4.⟩;rw[sd,e]at this;obtain⟨u,hu,q⟩:=List.mem_map.mp this;simp at q;rw[<-(by omega:u=t)];show hu
theorem xn(h:t∈rt): ∃i,i<rt.length/\b9 (tW rt) (.int t)=some (.int<|(i:Nat)+1):=by
 have key: ∀(rt:List Nat) (n:Nat),t∈rt-> ∃i,i<rt.length/\b9 ((rt.zipIdx n).map λx=>(MV.int (x.1:Nat),MV.int ((x.2:Nat)+1))) (.int t)=some (.int<|(i+n:Nat)+1):=by
  intro rt;induction rt with
  |nil=>intro n h;cases h
  |cons u r ih=>
   intro n h;rw[List.zipIdx_cons,List.map_cons];unfold b9;rw[List.find?_cons];by_cases e:u=t
   ·subst e;show⟨0,by simp,by simp[iL]⟩
   ·have:c7 (.int (u:Int)) (.int (t:Int))=false:=by simp[iL];omega
    rw[this];obtain⟨i,hi,q⟩:=ih (n+1) ((List.mem_cons.mp h).resolve_left<|Ne.symm e);show⟨i+1,by simp;omega,?_⟩;unfold b9 at q;dsimp only at q ⊢;rw[q,show i+(n+1)=i+1+n by omega]
 obtain⟨i,hi,q⟩:=key rt 0 h;show⟨i,hi,q⟩
structure PI(s:SS)(td:Nat->List Con)(p:PG)(os:List Nat)(R:Nat->Option (List MV))(rt:List Nat):Prop where
 H:StOk s td
 ts:p.ts=ei os
 TO:TOk os R
 tx:TxOk p.texts
 rnd:rt.Nodup
 rmem: ∀t∈rt,t=1\/t=2
 tr:p.trefs=tW rt
 ar:p.arefs=if rt=[]then []else ar1
 r1n:rt=[]->R 1=none/\R 35=none
 r1:rt≠[]-> ∃xs:List MV,R 1=some xs/\xs.length=rt.length/\ ∀(i t:Nat),rt[i]? =some t-> ∃j:Nat,xs[i]? =some (CX j)/\p.texts[j]? =some (.str<|ec t)
 r35:rt≠[]-> ∃j:Nat,R 35=some [z1 j]/\p.texts[j]? =some (.str mN)
structure PExt(p p':PG)(R R':Nat->Option (List MV)):Prop where
 b:p'.blobs=p.blobs
 ti:p'.tids=p.tids
 tr:p'.trows=p.trows
 fr:p'.frows=p.frows
 pre:p.texts<+:p'.texts
 len:p'.texts.length<=p.texts.length+2
 R: ∀u,u≠1->u≠35->R' u=R u
theorem xo(h:rt.Nodup)(hm: ∀t∈rt,t=1\/t=2):rt.length<=2:=by
 rcases rt with O|⟨x,O|⟨y,O|⟨z,r⟩⟩⟩
 ·simp
 ·simp
 ·simp
 ·exfalso;have h1:=hm x (by simp);have h2:=hm y (by simp);have h3:=hm z (by simp);simp only[List.nodup_cons,List.mem_cons,not_or]at h;obtain⟨⟨a1,a2,O⟩,⟨a3,O⟩,O⟩:=h;omega
section
theorem C0(W:Lw D)(ht:t=1\/t=2)(I:PI s td p os R rt)(ho:os.length<40)(htl:p.texts.length<=800)(hrk:p.trows.all (λx=>cN x.1)=true)(hrn:(p.trows.map (·.1)).Nodup)(hr0:b9 p.trows (.int t)=none)
 (h: ∀(p':PG) (os':List Nat) (R':Nat->Option (List MV)) (rt':List Nat) (r:Nat),PI s td p' os' R' rt'->PExt p p' R R'->os'.length<=os.length+2->1<=r->r<=2->Q (.int<|1*16777216+r) (S b ⟨b0,stL s,pgL a p',b3,b4,bQ R',td⟩)):
 CD D (k+3) (S b ⟨b0,stL s,pgL a p,b3,b4,bQ R,td⟩) (.ref<|.inl 835) [rf 2 0,.int t] Q:=by
 have hlen:=xo I.rnd I.rmem;by_cases hm:t∈rt
 ·obtain⟨i,hi,q⟩:=xn hm;show HW W ht I.H I.ts I.TO 3. I.tx htl hrk hrn hr0 (by rw[I.tr];show tX rt) (by rw[I.tr];show tY I.rnd) (by rw[I.tr];simp[tW];omega) (by rw[I.tr];show q) 3. 3.<|h p os R rt (i+1) I ⟨4.,4.,4.,4.,List.prefix_refl _,by omega,λO O O=>4.⟩ 3. 3. 3.
 ·have hf0:b9 p.trefs (.int t)=none:=by rw[I.tr];show xm hm
  have mem': ∀u∈rt++[t],u=1\/u=2:=λu hu=>by
   rcases List.mem_append.mp hu with h|h
   ·show I.rmem u h
   ·simp at h;subst h;show ht
  have nd':(rt++[t]).Nodup:=List.nodup_append.mpr ⟨I.rnd,by simp,λx hx c hc e=>by simp at hc;subst hc;subst e;show hm hx⟩;have hlen':=xo nd' mem';rw[Kd]at hlen';simp at hlen';by_cases he:rt=[]
  ·obtain⟨n1,n35⟩:=I.r1n he;show HV W ht I.H I.ts I.TO 3. I.tx htl hrk hrn hr0 (by rw[I.tr];show tX rt) (by rw[I.tr];show tY I.rnd) (by rw[I.tr];simp[tW];omega) hf0 (by rw[I.ar,if_pos he]) n35 (by rw[n1];decide) ?_;subst he;have tx1:=gN I.tx mN;have p1:=cX p.texts<|.str mN;have p2:=cX (cg p.texts<|.str mN).1<|.str<|ec t;have l1:=(dr p.texts<|.str mN).1;have l2:=(dr (cg p.texts<|.str mN).1<|.str<|ec t).1;rw[n1];show h _ _ _ [t] 1 ⟨I.H,4.,TOk.add (I.TO.add 1. 3. (by rw[n35];decide)) 1. ?_ ?_,gN tx1 _,by simp,λu hu=>by simp at hu;subst hu;show ht,?_,?_,λe=>by simp at e,λO=>?_,λO=>?_⟩ ⟨4.,4.,4.,4.,p1.trans p2,by dsimp only;show Hl ‹_› ‹_›,λu h1 h2=>?_⟩ ?_ 3. 3.
   ·unfold gU;rw[n35];simp;omega
   ·rw[show eF R 35 _ 1=R 1 from bq 1.,n1];decide
   ·change p.trefs++_=_;rw[I.tr];rfl
   ·rfl
   ·show⟨_,bm,?_,?_⟩
    ·rw[show eF R 35 _ 1=R 1 from bq 1.,n1];rfl
    ·intro i u hu;rcases i with O|i
     ·simp at hu;subst hu;show⟨_,?_,fV tx1 _⟩;rw[show eF R 35 _ 1=R 1 from bq 1.,n1];rfl
     ·simp at hu
   ·show⟨(cg p.texts<|.str mN).2,?_,dw p2<|fV I.tx mN⟩;rw[show eF (eF R 35 _) 1 _ 35=eF R 35 _ 35 from bq 1.];rw[show eF R 35 _ 35=some ((R 35).getD []++[_])from bm,n35];rfl
   ·rw[show eF (eF R 35 _) 1 _ u=eF R 35 _ u from bq h1];show bq h2
   ·unfold gU;split<;>split<;>simp
  ·obtain⟨xs,x1,x2,x3⟩:=I.r1 he;show HU W ht I.H I.ts I.TO 3. I.tx htl hrk hrn hr0 (by rw[I.tr];show tX rt) (by rw[I.tr];show tY I.rnd) (by rw[I.tr];simp[tW];omega) hf0 (by rw[I.ar,if_neg he]) (by rw[x1];simp;show BG ‹_› ‹_› 4.) ?_;have p1:=cX p.texts<|.str<|ec t;have l1:=(dr p.texts<|.str<|ec t).1;rw[x1];dsimp only[Option.getD_some];show h _ _ _ (rt++[t]) (xs.length+1) ⟨I.H,4.,I.TO.add 1. 3. (by rw[x1];simp;show BG ‹_› ‹_› 4.),gN I.tx _,nd',mem',?_,?_,λe=>by simp at e,λO=>?_,λO=>?_⟩ ⟨4.,4.,4.,4.,p1,by dsimp only;omega,λu h1 h2=>bq h1⟩ ?_ 3. 3.
   ·change p.trefs++_=_;rw[xl,I.tr,x2]
   ·change p.arefs=_;rw[I.ar,if_neg he,if_neg (by simp)]
   ·show⟨_,bm,by rw[x1];simp[x2],?_⟩;intro i u hu;rw[x1];dsimp only[Option.getD_some];rw[List.getElem?_append]at hu ⊢;rw[x2];split at hu
    ·rename_i hi;rw[if_pos hi];obtain⟨j,j1,j2⟩:=x3 i u hu;show⟨j,j1,dw p1 j2⟩
    ·rename_i hi;rw[if_neg hi];cases z:i-rt.length with
     |zero=>
      rw[z]at hu;simp at hu;subst hu;show⟨_,4.,fV I.tx _⟩
     |succ n=>rw[z]at hu;simp at hu
   ·obtain⟨j,j1,j2⟩:=I.r35 he;show⟨j,(bq 1.).trans j1,dw p1 j2⟩
   ·unfold gU;split<;>simp
end
noncomputable def TB4:List<|Int×Int:=[(1,128),(2,256),(4,1048576),(16,1024)]
noncomputable def sfl:Nat->Int|1=>0|2=>2|_=>1
noncomputable def IE:Nat->Int|1=>12|2=>18|_=> -1
noncomputable def tfl:Nat->Int|1=>1|2=>257|_=>161
section
theorem jk(W:Lw D)(H:StOk s td)(h:Q .none<|S b ⟨ktL K,stL s,pgL a p,b3,b4,tb,td⟩):CD D (k+2) (S b ⟨ktL K,stL s,pgL a p,b3,b4,tb,td⟩) (.ref<|.inl 719) [rf 1 0,x9] Q:=by
 show bR (W.K▸eM _) 4. λL=>(ao<|bW<|aF<|aU<|ae<|aN 4. 4. 1. 1. 4.<|aP (bF W) ?_);show jo<|aK<|ck 4.<|bk 4.<|aR<|aX<|ah W 4. 4. 4. 4. nofun<|aN 4. 4. 1. 1. 4. ?_;show bd (i:=2) 4. 1. 1. (H.ty 2<|.inr 4.)<|asg [("store",_),("row",_),("t",_)] 4. 4.<|dE<|ae<|ag (bX W) trivial<|aa<|aN 4. 4. 1. 1. 4.<|ab ?_;show xh<|ag (bX W) trivial<|bE W 4. 4. (by rw[cM,H.td 2<|.inr 4.];rfl) (by show rfl) (by nofun)<|gJ (by rw[cM,H.td 2<|.inr 4.];rfl)<|jo<|aK<|bk 4.<|bW ?_;show ae<|b6<|aN 4. 4. 1. 1. 4.<|aP (cv W)<|An<|Al<|b6<|ah W 4. 4. (by rw[cM,H.td 2<|.inr 4.];rfl) (by show rfl) (by nofun) ?_;show aP (gR W)<|An<|aK<|ck 4.<|b6<|ah W 4. 4. (by rw[cM,H.td 2<|.inr 4.];rfl) (by show rfl) (by nofun)<|aP (iX W)<|An ?_;show B7<|aK<|g8 4.<|aT<|fin (Kr.refl _) h
theorem nZ(W:Lw D)(I:PI s td p os R rt)(X:KT K)(ho:os.length<40)(htl:p.texts.length<=800)(hrk:p.trows.all (λx=>cN x.1)=true)(hrn:(p.trows.map (·.1)).Nodup)(hr0:b9 p.trows (.int 1)=none)(h: ∀(p':PG) (os':List Nat) (R':Nat->Option (List MV)) (rt':List Nat) (r:Nat),PI s td p' os' R' rt'->PExt p p' R R'->os'.length<=os.length+2->1<=r->r<=2->Q (.int<|1*16777216+r) (S b ⟨ktL K,stL s,pgL a p',b3,b4,bQ R',td⟩)):CD D (k+4) (S b ⟨ktL K,stL s,pgL a p,b3,b4,bQ R,td⟩) (.ref<|.inl 863) [rf 2 0,.int 12] Q:=by
 show bR (W.K▸iU _) 4. λL=>?_;show ao ?_;show bW ?_;show cI ?_;show ag (oy W) (ma W) ?_;show bo 4. 4. ?_;show aG 4. 4. ?_;show CL.of (j:=k+3) (tE W 4. 4. 4. 4. 4. 4. 4. X.z 4. 1. (by have:=X.n;omega) (X.prim 12 1.) (t:=1) 4. ?_) 3.;show oB 4.<|bx<|ag (km W) (i8 W)<|bo 4. 4.<|aa<|ag (lp W) (i6 W)<|aa<|cj ?_;show ah W 4. 4. 4. 4. nofun<|aV W 4. 4. nofun<|aG 4. 4.<|CL.of (j:=k+2) (jJ W 4. 4. 4. X.z 4. 1. (by have:=X.n;omega) (X.prim 12 1.) (t:=1) 4. ?_) 3.;show ab<|CL.of (j:=k+3) (C0 W (t:=1) (.inl 4.) I ho htl hrk hrn hr0 λp' os' R' rt' r I' E' o' r1 r2=>?_) 3.;show gf [("p",_),("k",_),("token",_)] 4. 4.<|aW<|ag (fo W) (eU W)<|b5 W 4. 4. 4. 4. nofun<|aa<|aq<|cj<|ah W 4. 4. 4. 4. nofun ?_;show aV W 4. 4. nofun<|cq W (f:=362) 4. 4.<|az (bD W)<|aG 4. 4.<|CL.of (j:=k+1) (hW W 4. 4. 4. X.z 1. (by have:=X.n;omega) (X.prim 12 1.) ?_) 3.;show ab<|CL.of (j:=k+1) (jg W (s:=1) 1. 1. ?_) 3.;show aH<|aw<|af 4. 4.<|Km.ret<|Km.ret<|fin (Kr.refl _)<|h p' os' R' rt' r I' E' o' r1 r2
theorem n0(W:Lw D)(I:PI s td p os R rt)(X:KT K)(ho:os.length<40)(htl:p.texts.length<=800)(hrk:p.trows.all (λx=>cN x.1)=true)(hrn:(p.trows.map (·.1)).Nodup)(hn18:19<=K.rows.length)(h18:K.rows[18]? =some x9)(hr0:b9 p.trows (.int 2)=none)(h: ∀(p':PG) (os':List Nat) (R':Nat->Option (List MV)) (rt':List Nat) (r:Nat),PI s td p' os' R' rt'->PExt p p' R R'->os'.length<=os.length+2->1<=r->r<=2->Q (.int<|1*16777216+r) (S b ⟨ktL K,stL s,pgL a p',b3,b4,bQ R',td⟩)):CD D (k+4) (S b ⟨ktL K,stL s,pgL a p,b3,b4,bQ R,td⟩) (.ref<|.inl 863) [rf 2 0,.int 18] Q:=by
 show bR (W.K▸iU _) 4. λL=>?_;show ao ?_;show bW ?_;show cI ?_;show ag (oy W) (ma W) ?_;show bo 4. 4. ?_;show aG 4. 4. ?_;show CL.of (j:=k+3) (tF W 4. 4. 4. 4. 4. 4. 4. X.z 4. 1. 3. h18 1. ?_) 3.;show oB 4.<|bx<|ag (km W) (i8 W)<|bo 4. 4.<|aa<|ag (lp W) (i6 W)<|aa<|cj ?_;show ah W 4. 4. 4. 4. nofun<|aV W 4. 4. nofun<|aG 4. 4.<|CL.of (j:=k+2) (xa W 4. 4. 4. X.z 4. 1. 3. h18 ?_) 3.;show ab<|CL.of (j:=k+3) (C0 W (t:=2) (.inr 4.) I ho htl hrk hrn hr0 λp' os' R' rt' r I' E' o' r1 r2=>?_) 3.;show gf [("p",_),("k",_),("token",_)] 4. 4.<|aW<|ag (fo W) (eU W)<|b5 W 4. 4. 4. 4. nofun<|aa<|aq<|cj<|ah W 4. 4. 4. 4. nofun ?_;show aV W 4. 4. nofun<|cq W (f:=362) 4. 4.<|az (bD W)<|aG 4. 4.<|CL.of (j:=k+1) (hW W 4. 4. 4. X.z 1. 3. h18 ?_) 3.;show ab<|CL.of (j:=k+2) (jk W I'.H ?_) 3.;show aH<|aw<|af 4. 4.<|Km.ret<|Km.ret<|fin (Kr.refl _)<|h p' os' R' rt' r I' E' o' r1 r2
theorem n5(W:Lw D)(I:PI s td p os R rt)(X:KT K)(ho:os.length<40)(htl:p.texts.length<=800)(hrk:p.trows.all (λx=>cN x.1)=true)(hrn:(p.trows.map (·.1)).Nodup)(hr0:b9 p.trows (.int 1)=none)(h: ∀(p':PG) (os':List Nat) (R':Nat->Option (List MV)) (rt':List Nat) (r:Nat),PI s td p' os' R' rt'->PExt p p' R R'->os'.length<=os.length+2->1<=r->r<=2->Q (.int<|bitOr ((r:Int)*2^(2:Int).toNat) ((1:Nat):Int)) (S b ⟨ktL K,stL s,pgL a p',b3,b4,bQ R',td⟩)):CD D (k+5) (S b ⟨ktL K,stL s,pgL a p,b3,b4,bQ R,td⟩) (.ref<|.inl 870) [rf 2 0,.int 0,.int 12] Q:=by
 show bR (W.K▸iV _) 4. λL=>(ao<|bL<|ag (i2 W) (hS W)<|aa<|ag (kl W) (i9 W)<|bo 4. 4.<|aG 4. 4. ?_);show CL.of (j:=k+4) (nZ W I X ho htl hrk hrn hr0 λp' os' R' rt' r I' E' o' r1 r2=>?_) 3.;show ab<|CL.of (j:=k+1) (jc W ?_) 3.;rw[show(1*16777216+(r:Int))/16777216=1 by omega,show(1*16777216+(r:Int))%16777216=r by omega];show aM<|dT [("p",_),("coded",_),("k",_),("table",_)] 4.<|dT [("p",_),("coded",_),("k",_),("table",_),("row",_)] 4.<|cB<|aH<|aw<|ag (d6 W) (dM W)<|bo 4. 4. ?_;show bo 4. 4.<|aG 4. 4. ?_;show CL.of (j:=k+2) (d7 W (c:=0) (t:=1) (b:=2) (tags:=[2,1,27]) (n:=1) 4. 3. 3. 1. 1. 1. 4. (λj hj=>by rcases j with O|j<;>first|decide|omega) ?_) 3.;show Km.ret<|fin (Kr.refl _)<|h p' os' R' rt' r I' E' o' r1 r2
theorem n6(W:Lw D)(I:PI s td p os R rt)(X:KT K)(ho:os.length<40)(htl:p.texts.length<=800)(hrk:p.trows.all (λx=>cN x.1)=true)(hrn:(p.trows.map (·.1)).Nodup)(hn18:19<=K.rows.length)(h18:K.rows[18]? =some x9)(hr0:b9 p.trows (.int 2)=none)(h: ∀(p':PG) (os':List Nat) (R':Nat->Option (List MV)) (rt':List Nat) (r:Nat),PI s td p' os' R' rt'->PExt p p' R R'->os'.length<=os.length+2->1<=r->r<=2->Q (.int<|bitOr ((r:Int)*2^(2:Int).toNat) ((1:Nat):Int)) (S b ⟨ktL K,stL s,pgL a p',b3,b4,bQ R',td⟩)):CD D (k+5) (S b ⟨ktL K,stL s,pgL a p,b3,b4,bQ R,td⟩) (.ref<|.inl 870) [rf 2 0,.int 0,.int 18] Q:=by
 show bR (W.K▸iV _) 4. λL=>(ao<|bL<|ag (i2 W) (hS W)<|aa<|ag (kl W) (i9 W)<|bo 4. 4.<|aG 4. 4. ?_);show CL.of (j:=k+4) (n0 W I X ho htl hrk hrn hn18 h18 hr0 λp' os' R' rt' r I' E' o' r1 r2=>?_) 3.;show ab<|CL.of (j:=k+1) (jc W ?_) 3.;rw[show(1*16777216+(r:Int))/16777216=1 by omega,show(1*16777216+(r:Int))%16777216=r by omega];show aM<|dT [("p",_),("coded",_),("k",_),("table",_)] 4.<|dT [("p",_),("coded",_),("k",_),("table",_),("row",_)] 4.<|cB<|aH<|aw<|ag (d6 W) (dM W)<|bo 4. 4. ?_;show bo 4. 4.<|aG 4. 4. ?_;show CL.of (j:=k+2) (d7 W (c:=0) (t:=1) (b:=2) (tags:=[2,1,27]) (n:=1) 4. 3. 3. 1. 1. 1. 4. (λj hj=>by rcases j with O|j<;>first|decide|omega) ?_) 3.;show Km.ret<|fin (Kr.refl _)<|h p' os' R' rt' r I' E' o' r1 r2
theorem qn(W:Lw D){g:G}(htd:td t=tdL (t+105) m1 m2 (.int 1) (.int<|sfl 1) m5 fl m6)(h:Q (.int<|tfl 1)<|S b ⟨ktL K,stL s,pgL a p,b3,b4,tb,td⟩):CD D (k+2) (S b ⟨ktL K,stL s,pgL a p,b3,b4,tb,td⟩) (.ref<|.inl 884) [rf (t+105) 0] Q:=by
 show bR (W.K▸fH _) 4. λL=>(bx<|ag (dK W) (dg W)<|b5 W 4. 4. (by rw[cM,htd];rfl) (by show rfl) (by nofun)<|bM (iq W)<|ab<|CL.of (j:=k+1) (dN W (ps:=TB4) ?_) 3.);show asg [("t",_),("flags",_)] 4. 4.<|dE<|ae<|ah W 4. 4. (by rw[cM,htd];rfl) (by show rfl) (by nofun)<|aP (fj W)<|cA<|bk 4.<|aR ?_;show b6<|aC<|ah W 4. 4. (by rw[cM,htd];rfl) (by show rfl) (by nofun)<|aP (fL W)<|fA<|aA<|jo<|asg [("t",_),("flags",_),("internal",_)] 4. 4. ?_;show dE<|ae<|ah W 4. 4. (by rw[cM,htd];rfl) (by show rfl) (by nofun)<|aA<|lD<|aK<|bk 4.<|bW ?_;show cI<|af 4. 4.<|aK<|bk 4.<|aw<|aC<|af 4. 4.<|aP (ip W) ?_;show x7<|Km.ret<|fin (Kr.refl _) h
theorem qo(W:Lw D){g:G}(htd:td t=tdL (t+105) m1 m2 (.int 2) (.int<|sfl 2) m5 fl m6)(h:Q (.int<|tfl 2)<|S b ⟨ktL K,stL s,pgL a p,b3,b4,tb,td⟩):CD D (k+2) (S b ⟨ktL K,stL s,pgL a p,b3,b4,tb,td⟩) (.ref<|.inl 884) [rf (t+105) 0] Q:=by
 show bR (W.K▸fH _) 4. λL=>(bx<|ag (dK W) (dg W)<|b5 W 4. 4. (by rw[cM,htd];rfl) (by show rfl) (by nofun)<|bM (iq W)<|ab<|CL.of (j:=k+1) (dN W (ps:=TB4) ?_) 3.);show asg [("t",_),("flags",_)] 4. 4.<|dE<|ae<|ah W 4. 4. (by rw[cM,htd];rfl) (by show rfl) (by nofun)<|aP (fj W)<|cA<|bk 4.<|aR ?_;show b6<|aC<|ah W 4. 4. (by rw[cM,htd];rfl) (by show rfl) (by nofun)<|aP (fL W)<|fA<|aA<|jo<|asg [("t",_),("flags",_),("internal",_)] 4. 4. ?_;show dE<|ae<|ah W 4. 4. (by rw[cM,htd];rfl) (by show rfl) (by nofun)<|aA<|lD<|aK<|bk 4.<|bW ?_;show cI<|af 4. 4.<|aK<|bk 4.<|aw<|aC<|af 4. 4.<|aP (ip W) ?_;show x7<|Km.ret<|fin (Kr.refl _) h
theorem qp(W:Lw D){g:G}(htd:td t=tdL (t+105) m1 m2 (.int 3) (.int<|sfl 3) m5 fl m6)(h:Q (.int<|tfl 3)<|S b ⟨ktL K,stL s,pgL a p,b3,b4,tb,td⟩):CD D (k+2) (S b ⟨ktL K,stL s,pgL a p,b3,b4,tb,td⟩) (.ref<|.inl 884) [rf (t+105) 0] Q:=by
 show bR (W.K▸fH _) 4. λL=>(bx<|ag (dK W) (dg W)<|b5 W 4. 4. (by rw[cM,htd];rfl) (by show rfl) (by nofun)<|bM (iq W)<|ab<|CL.of (j:=k+1) (dN W (ps:=TB4) ?_) 3.);show asg [("t",_),("flags",_)] 4. 4.<|dE<|ae<|ah W 4. 4. (by rw[cM,htd];rfl) (by show rfl) (by nofun)<|aP (fj W)<|cA<|cf 4.<|bx ?_;show aC<|af 4. 4.<|aP (hO W)<|x7<|dC [("t",_),("flags",_)] 4. 4.<|aT<|ge<|b6 ?_;show aC<|ah W 4. 4. (by rw[cM,htd];rfl) (by show rfl) (by nofun)<|aP (fL W)<|fA<|aA<|jo<|asg [("t",_),("flags",_),("internal",_)] 4. 4.<|dE ?_;show ae<|ah W 4. 4. (by rw[cM,htd];rfl) (by show rfl) (by nofun)<|aA<|lD<|aK<|bk 4.<|bW<|cI ?_;show af 4. 4.<|aK<|bk 4.<|aw<|aC<|af 4. 4.<|aP (ip W)<|x7 ?_;show Km.ret<|fin (Kr.refl _) h
theorem se(W:Lw D)(hso:so=1\/so=2\/so=3)(htd:td t=tdL (t+105) m1 m2 (.int so) (.int<|sfl so) m5 fl m6)(h:Q (.int<|tfl so)<|S b ⟨ktL K,stL s,pgL a p,b3,b4,tb,td⟩):CD D (k+2) (S b ⟨ktL K,stL s,pgL a p,b3,b4,tb,td⟩) (.ref<|.inl 884) [rf (t+105) 0] Q:=by
 rcases hso with rfl|rfl|rfl
 ·show qn W (g:=⟨[],[],[],[],[],tb,td⟩) htd h
 ·show qo W (g:=⟨[],[],[],[],[],tb,td⟩) htd h
 ·show qp W (g:=⟨[],[],[],[],[],tb,td⟩) htd h
end
theorem vR{s:Stmt}{Q:MF->Kk->Prop}(P:Kk->Prop)(h1:WF D k st (exec s env) λmf st'=>mf=.next/\P st')(h2: ∀st',P st'->Q .next st'):WF D k st (exec s env) Q:=
 WP.mono h1 λmf st' ⟨e,p⟩=>by subst e;show h2 st' p
noncomputable def dQ:Nat->Str|0=>Str.ofString "A"|1=>Str.ofString "B"|_=>Str.ofString "C"
noncomputable def qr:Str:=Str.ofString "<Module>"
structure TyOk(s:SS)(td:Nat->List Con)(tys:List Nat)(fs:List<|List MV):Prop where
 H:StOk s td
 len:fs.length=tys.length
 c:tys.length<=3
 so: ∀(i so:Nat),tys[i]? =some so->so=1\/so=2\/so=3
 tl:s.types.length=64+tys.length
 ty: ∀i:Nat,i<tys.length->s.types[64+i]? =some (rf (64+i+105) 0)
 td: ∀(i so:Nat) (fl:List MV),tys[i]? =some so->fs[i]? =some fl->td (64+i)=tdL (64+i+105) (.int (64+i:Nat)) (.str<|dQ i) (.int so) (.int<|sfl so) (.int<|IE so) fl (.int 1)
 none: ∀j:Nat,j≠1->j≠2->j<64->s.types[j]? =some .none
 fz: ∀fl∈fs,fl.length<=100
noncomputable def nsum(fs:List<|List MV)(i:Nat):Nat:=((fs.take i).map List.length).sum
theorem mC{fs:List<|List MV}(h:fs[i]? =some fl):nsum fs (i+1)=nsum fs i+fl.length:=by
 unfold nsum;rw[List.take_add_one,h];simp
structure R2Ok(tys:List Nat)(fs:List<|List MV)(texts:List MV)(rows:List MV)(i:Nat):Prop where
 len:rows.length=i+1
 mod: ∃j:Nat,rows[0]? =some (.tup [.int 0,.int j,.int 0,.int 0,.int 1,.int 1])/\texts[j]? =some (.str qr)
 row: ∀(j so:Nat),j<i->tys[j]? =some so-> ∃(ti:Nat) (bs:Int),rows[j+1]? =some (.tup [.int<|tfl so,.int ti,.int 0,.int bs,.int (1+nsum fs j:Nat),.int 1])/\texts[ti]? =some (.str<|dQ j)/\(so=3->bs=0)
theorem R2Ok.pre{fs:List<|List MV}{tx' rows:List MV}(H:R2Ok tys fs tx rows i)(h:tx<+:tx'):R2Ok tys fs tx' rows i:=
 ⟨H.len,H.mod.imp λO=>.imp_right<|dw h,λj so hj ht=>(H.row j so hj ht).imp λO=>.imp λO=>.imp_right<|.imp_left<|dw h⟩
theorem R2Ok.snoc{fs:List<|List MV}{rows:List MV}{ti:Nat}{bs:Int}(H:R2Ok tys fs tx rows i)(hs:tys[i]? =some so)(ht:tx[ti]? =some (.str<|dQ i))(hb:so=3->bs=0):
 R2Ok tys fs tx (rows++[.tup [.int<|tfl so,.int ti,.int 0,.int bs,.int (1+nsum fs i:Nat),.int 1]])<|i+1:=by
 have hl:=H.len;show⟨by simp[hl],?_,λj so' hj hs'=>?_⟩
 ·obtain⟨j,a,b⟩:=H.mod;show⟨j,by rw[List.getElem?_append_left 3.];show a,b⟩
 ·by_cases e:j=i
  ·subst e;rw[hs]at hs';cases hs';show⟨ti,bs,by rw[List.getElem?_append_right 3.,hl];simp,ht,hb⟩
  ·obtain⟨ti',bs',a,b,c⟩:=H.row j so' (by show n9 ‹_› ‹_›) hs';show⟨ti',bs',by rw[List.getElem?_append_left 3.];show a,b,c⟩
theorem PI.put2{y:Str}(I:PI s td p os R rt)(ho:os.length<50)(hz:((R 2).getD []).length<900):
 PI s td {p with ts:=ei<|gU os R 2,texts:=(cg p.texts<|.str y).1} (gU os R 2) (eF R 2 m) rt:=by
 have p1:=cX p.texts<|.str y;show⟨I.H,4.,I.TO.add 1. ho hz,gN I.tx _,I.rnd,I.rmem,I.tr,I.ar,λe=>?_,λe=>?_,λe=>?_⟩
 ·obtain⟨x,y⟩:=I.r1n e;show⟨(bq 1.).trans x,(bq 1.).trans y⟩
 ·obtain⟨xs,x1,x2,x3⟩:=I.r1 e;show⟨xs,(bq 1.).trans x1,x2,λi t h=>let⟨j,a,b⟩:=x3 i t h;⟨j,a,dw p1 b⟩⟩
 ·obtain⟨j,a,b⟩:=I.r35 e;show⟨j,(bq 1.).trans a,dw p1 b⟩
section
variable{fs:List<|List MV}
structure PkIn(K:KS)(s:SS)(td:Nat->List Con)(p:PG)(tys:List Nat)(fs:List<|List MV):Prop where
 T:TyOk s td tys fs
 X:KT K
 x18:2∈tys->19<=K.rows.length/\K.rows[18]? =some x9
 ti:p.tids=(List.range tys.length).map λ(i:Nat)=>.int (64+i:Nat)
 rk:p.trows.all (λx=>cN x.1)=true
 rn:(p.trows.map (·.1)).Nodup
 r1:b9 p.trows (.int 1)=none
 r2:b9 p.trows (.int 2)=none
structure PkAt(s:SS)(td:Nat->List Con)(p0 p:PG)(os:List Nat)(R0 R:Nat->Option (List MV))(rt:List Nat)(tys:List Nat)(fs:List<|List MV)(i:Nat):Prop where
 I:PI s td p os R rt
 b:p.blobs=p0.blobs
 ti:p.tids=p0.tids
 tr:p.trows=p0.trows
 fr:p.frows=p0.frows
 ol:os.length<=1+4*i
 tl:p.texts.length<=2+4*i
 rest: ∀u,u≠1->u≠2->u≠35->R u=R0 u
 r2: ∃rows,R 2=some rows/\R2Ok tys fs p.texts rows i
inductive PkX(s:SS)(td:Nat->List Con)(p0 p:PG)(os:List Nat)(R0 R:Nat->Option (List MV))(rt:List Nat)(tys:List Nat)(fs:List<|List MV)(i:Nat):Prop
 |mk (I:PI s td p os R rt) (b:p.blobs=p0.blobs) (ti:p.tids=p0.tids) (tr:p.trows=p0.trows) (fr:p.frows=p0.frows) (ol:os.length<=3+4*i) (tl:p.texts.length<=4+4*i) (rest: ∀u,u≠1->u≠2->u≠35->R u=R0 u) (rows:List MV) (r:R 2=some rows) (r2:R2Ok tys fs p.texts rows i):PkX s td p0 p os R0 R rt tys fs i
theorem PkAt.ext{p0 p':PG}{os':List Nat}{R0 R':Nat->Option (List MV)}{rt':List Nat}{fs:List<|List MV}(P:PkAt s td p0 p os R0 R rt tys fs i)(I:PI s td p' os' R' rt')(E:PExt p p' R R')(ho:os'.length<=os.length+2):
 PkX s td p0 p' os' R0 R' rt' tys fs i:=by
 have h1:=P.ol;have h2:=P.tl;have h3:=E.len;obtain⟨rows,r1,r2⟩:=P.r2;show⟨I,E.b.trans P.b,E.ti.trans P.ti,E.tr.trans P.tr,E.fr.trans P.fr,by show wk ‹_› ‹_› 4.,by show wk ‹_› ‹_› 4.,λu a b c=>(E.R u a c).trans<|P.rest u a b c,rows,(E.R 2 1. 1.).trans r1,r2.pre E.pre⟩
theorem TO0:TOk [] λO=>none:=⟨List.nodup_nil,by decide,λt=>by simp,λt h=>(nomatch h),λt xs h=>(nomatch h)⟩
inductive IF22_1(a:Addr)(p:PG)(b3:List Con)(b4:List Con)(td:Nat->List Con)(K:KS)(s:SS)(tys:List Nat)(fs:List<|List MV)(i:Nat)(ρ:List<|String×MV)(g:G):Prop
 |mk (p':PG) (os':List Nat) (R':Nat->Option (List MV)) (rt':List Nat) (h1:g=⟨ktL K,stL s,pgL a p',b3,b4,bQ R',td⟩) (h2:PkAt s td p p' os' (λO=>none) R' rt' tys fs i) (h3:lk "p" ρ=some (rf 2 0)) (h4:lk "fields" ρ=some (.int (1+nsum fs i:Nat))) (h5:lk "methods" ρ=some (.int 1)):IF22_1 a p b3 b4 td K s tys fs i ρ g
inductive IF22_2(b:Kk)(a:Addr)(p:PG)(b3:List Con)(b4:List Con)(td:Nat->List Con)(R:List<|Addr×Obj)(L:Addr)(i:Nat)(K:KS)(s:SS)(tys:List Nat)(fs:List<|List MV)(so:Nat)(st':Kk):Prop
 |mk (p':PG) (os':List Nat) (R':Nat->Option (List MV)) (rt':List Nat) (ρ':List<|String×MV) (bs:Int) (h1:st'=S (({b with raw:=R}:Kk).push L ρ') ⟨ktL K,stL s,pgL a p',b3,b4,bQ R',td⟩) (h2:PkX s td p p' os' (λO=>none) R' rt' tys fs i) (h3:lk "p" ρ'=some (rf 2 0)) (h4:lk "fields" ρ'=some (.int (1+nsum fs i:Nat))) (h5:lk "methods" ρ'=some (.int 1)) (h6:lk "t" ρ'=some (rf (64+i+105) 0)) (h7:lk "base" ρ'=some (.int bs)) (h8:(so=3->bs=0)):IF22_2 b a p b3 b4 td R L i K s tys fs so st'
theorem sf(W:Lw D)(N:PkIn K s td p tys fs)(hts:p.ts=[])(hpx:TxOk p.texts)(hpl:p.texts.length<=1)(htr:p.trefs=[])(har:p.arefs=[])(h: ∀(p':PG) (os':List Nat) (R':Nat->Option (List MV)) (rt':List Nat),PkAt s td p p' os' (λO=>none) R' rt' tys fs tys.length->Q .none (S b ⟨ktL K,stL s,pgL a p',b3,b4,bQ R',td⟩)):CD D (k+6) (S b ⟨ktL K,stL s,pgL a p,b3,b4,bQ<|λO=>none,td⟩) (.ref<|.inl 891) [rf 2 0] Q:=by
 show bR (W.K▸pk _) 4. λL=>?_;show ao ?_;show aW ?_;show aq ?_;show ah W 4. 4. 4. 4. nofun ?_;show cq W (f:=558) 4. 4. ?_;show az (bH W) ?_;show bM (cO W) ?_;show aa<|aI<|bp<|aa<|aq<|ah W 4. 4. 4. 4. nofun<|cq W (f:=523) 4. 4.<|az (bN W) ?_;show aa<|du<|ab<|CL.of (j:=k+1) (mu W 3. (hpx.hok _) ?_) 3.;show bp<|bp<|bp<|bp<|ab<|ce<|ab<|CL.of (j:=k+1) (kB W (t:=2) (os:=[]) (R:=λO=>none) 1. hts TO0 1. ?_) 3.;show ge<|aA<|dC [("p",_),("fields",_)] 4. 4.<|bx<|aA<|gf [("p",_),("fields",_),("methods",_)] 4. 4.<|eX (L:=L)<|cb ?_;show ah W 4. 4. 4. 4. nofun<|itv (dU 4.)<|forS (IF22_1 a p b3 b4 td K s tys fs) ?_ ?_ ?_ ?_
 ·rintro i ρ g R ⟨p',os',R',rt',rfl,P,O⟩;change some (Con.l p'.tids)=some (Con.l p.tids);rw[P.ti]
 ·show⟨_,_,_,[],4.,⟨⟨N.T.H,4.,TO0.add 1. 1. 1.,gN hpx _,List.nodup_nil,λO h=>(nomatch h),htr,har,λO=>⟨4.,4.⟩,λe=>absurd 4. e,λe=>absurd 4. e⟩,4.,4.,4.,4.,by decide,?_,λu O h O=>bq h,[_],4.,4.,⟨_,4.,fV hpx _⟩,λj so hj=>absurd hj<|Nat.not_lt_zero _⟩,4.,4.,4.⟩;have:=(dr p.texts<|.str qr).1;change(cg p.texts<|.str qr).1.length<=_;show um ‹_› ‹_› 4.
 ·rintro i ρ g R hi ⟨p',os',R',rt',rfl,P,hp,hfi,hme⟩;rw[show p.tids.length=tys.length by rw[N.ti];simp]at hi;obtain⟨so,hso⟩: ∃so,tys[i]? =some so:=⟨_,J6 hi⟩;obtain⟨fl,hfl⟩: ∃fl,fs[i]? =some fl:=⟨_,J6 (by rw[N.T.len];show hi)⟩;have htd:=N.T.td i so fl hso hfl;have so3:=N.T.so i so hso;have hc:=N.T.c;have htl:=N.T.tl;have hfz:=N.T.fz fl<|List.mem_of_getElem? hfl;have he:p.tids.getD i .none=.int (64+i:Nat):=by
   rw[N.ti,J7,Kh,List.getElem?_range hi];rfl
  show Cx he ?_;show cJ _ 4.<|bx<|aX<|cj<|ah W 4. (au hp) 4. 4. (by nofun)<|aV W 4. 4. nofun<|af 4. ad<|bd (i:=(64+i:Nat)) 4. 3. (by show Hn ‹_› ‹_›) (N.T.ty i hi) ?_;show dC _ 4. 4.<|bx<|aA<|dC _ 4. 4. ?_;have hq1: ∀u v w z,z≠"tid"->z≠"t"->z≠"base"->lk z (pt "base" u<|pt "t" v<|pt "tid" w ρ)=lk z ρ:=λu v w z h1 h2 h3=>by rw[aQ h3,aQ h2,aQ h1]
  show ao<|vR (IF22_2 b a p b3 b4 td R L i K s tys fs so) ?_ ?_
  ·have ol:=P.ol;have txl:=P.tl;show bW<|ae<|ah W 4. (au ad) (by rw[cM,htd];rfl) (by show rfl) (by nofun)<|aA<|sR<|aK ?_;rcases so3 with rfl|rfl|rfl
   ·show cf 4.<|bx<|ag (kh W) (ja W)<|bo 4. ((hq1 _ _ _ _ 1. 1. 1.).trans hp)<|bM (fh W)<|bE W 4. (au ad) (by rw[cM,htd];rfl) (by show rfl) (by nofun)<|CL.of (j:=k+5) (n5 W P.I N.X 3. 3. (by rw[P.tr];show N.rk) (by rw[P.tr];show N.rn) (by rw[P.tr];show N.r1) λp'' os'' R'' rt'' r I' E' o' r1 r2=>?_) 3.;show dC _ 4. 4.<|aT ⟨4.,_,_,_,_,_,_,4.,P.ext I' E' o',au<|(hq1 _ _ _ _ 1. 1. 1.).trans hp,au<|(hq1 _ _ _ _ 1. 1. 1.).trans hfi,au<|(hq1 _ _ _ _ 1. 1. 1.).trans hme,au<|au ad,ad,λe=>absurd e 1.⟩
   ·obtain⟨n18,h18⟩:=N.x18 (List.mem_of_getElem? hso);show cf 4.<|bx<|ag (kh W) (ja W)<|bo 4. ((hq1 _ _ _ _ 1. 1. 1.).trans hp)<|bM (fh W)<|bE W 4. (au ad) (by rw[cM,htd];rfl) (by show rfl) (by nofun)<|CL.of (j:=k+5) (n6 W P.I N.X 3. 3. (by rw[P.tr];show N.rk) (by rw[P.tr];show N.rn) n18 h18 (by rw[P.tr];show N.r2) λp'' os'' R'' rt'' r I' E' o' r1 r2=>?_) 3.;show dC _ 4. 4.<|aT ⟨4.,_,_,_,_,_,_,4.,P.ext I' E' o',au<|(hq1 _ _ _ _ 1. 1. 1.).trans hp,au<|(hq1 _ _ _ _ 1. 1. 1.).trans hfi,au<|(hq1 _ _ _ _ 1. 1. 1.).trans hme,au<|au ad,ad,λe=>absurd e 1.⟩
   ·obtain⟨rows,q8,q9⟩:=P.r2;show ck 4.<|aT ⟨4.,_,_,_,_,_,_,4.,⟨P.I,P.b,P.ti,P.tr,P.fr,by show zE ‹_› 4.,by show zE ‹_› 4.,P.rest,rows,q8,q9⟩,(hq1 _ _ _ _ 1. 1. 1.).trans hp,(hq1 _ _ _ _ 1. 1. 1.).trans hfi,(hq1 _ _ _ _ 1. 1. 1.).trans hme,au ad,ad,λO=>4.⟩
  rintro st' ⟨p'',os'',R'',rt'',ρ',bs,rfl,⟨I',q1,q2,q3,q4,q5,q6,q7,rows,q8,q9⟩,e1,e2,e3,e4,e5,e6⟩;show Km.next ?_;have r2l:=q9.len;have hz2:((R'' 2).getD []).length<900:=by rw[q8];simp;omega
  show ao<|aW<|aq<|ah W 4. e1 4. 4. (by nofun)<|cq W (f:=558) 4. 4.<|az (bH W)<|bM (cO W)<|aa ?_;show aI<|aa<|ag (rO W) (pP W)<|aG 4. e4<|CL.of (j:=k+2) (se W so3 htd ?_) 3.;show aa<|aq<|ah W 4. e1 4. 4. (by nofun)<|cq W (f:=523) 4. 4.<|az (bN W)<|aa<|ag (jF W) (iy W)<|aG 4. e4 ?_;show CL.of (j:=k+1) (jI W (np:=.inr (64+i+105,2)) (by rw[cM,htd];rfl) (by show rfl) (by rw[cM,htd];rfl) (by show rfl) (by nofun) ?_) 3.;show ab<|CL.of (j:=k+1) (mu W (p:=p'') 3. (I'.tx.hok _) ?_) 3.;show bp<|bo 4. e5<|bo 4. e2<|aG 4. e3<|ce<|ab<|CL.of (j:=k+1) (kB W (t:=2) (os:=os'') (R:=R'') 1. I'.ts I'.TO hz2 ?_) 3.;show aH<|rY e2<|aC<|ag (i0 W) (hU W)<|aG 4. e4<|CL.of (j:=k+1) (je W (so:=so) (by rw[cM,htd];rfl) (by show rfl) 3. ?_) 3.;show ag (bX W) trivial<|bE W 4. e4 (by rw[cM,htd];rfl) (by show rfl) (by nofun)<|aS (by rw[cM,htd];rfl) 3.<|dP<|rb<|gf _ 4. 4.<|rY (au e3)<|ag (bX W) trivial ?_;show bE W 4. (au e4) (by rw[cM,htd];rfl) (by show rfl) (by nofun)<|gJ (by rw[cM,htd];rfl)<|rb<|dC _ 4. 4.<|aT ?_;have p1:=cX p''.texts<|.str<|dQ i;have l1:=(dr p''.texts<|.str<|dQ i).1;show en (Kr.refl _) ⟨_,_,_,_,4.,⟨I'.put2 3. hz2,q1,q2,q3,q4,?_,?_,λu h1 h2 h3=>(bq h2).trans<|q7 u h1 h2 h3,_,bm,?_⟩,?_,?_,?_⟩
  ·unfold gU;split<;>(try rw[Kd,List.length_singleton])<;>omega
  ·change(cg p''.texts<|.str<|dQ i).1.length<=_;omega
  ·rw[q8];show(q9.pre p1).snoc hso (fV I'.tx _) e6
  ·rw[aQ 1.,aQ 1.];show e1
  ·rw[aQ 1.,ad,mC hfl];congr 2;omega
  ·rw[ad];rfl
 rintro ρ g ⟨p',os',R',rt',rfl,P,O,O,O⟩;rw[show p.tids.length=tys.length by rw[N.ti];simp]at P;show Km.next<|aT<|fin (Kr.refl _)<|h p' os' R' rt' P
end
noncomputable def ga(j:Nat):List MV:=(List.range j).map λ(i:Nat)=>.int (64+i:Nat)
noncomputable def cD(j:Nat):List<|MV×MV:=(List.range j).map λ(i:Nat)=>(.int (64+i:Nat),.int (i+2:Nat))
def qF(j:Nat):List<|MV×MV:=(List.range j).map λ(i:Nat)=>(.tup [.str<|dQ i,.int 0],.int (64+i:Nat))
theorem tZ(j:Nat):ga (j+1)=ga j++[.int (64+j:Nat)]:=by simp[ga,List.range_succ]
theorem sg(j:Nat):cD (j+1)=cD j++[(.int (64+j:Nat),.int (j+2:Nat))]:=by simp[cD,List.range_succ]
theorem si(j:Nat):qF (j+1)=qF j++[(.tup [.str<|dQ j,.int 0],.int (64+j:Nat))]:=by simp[qF,List.range_succ]
theorem jQ(j:Nat):(ga j).length=j:=by simp[ga]
theorem yR(j:Nat):(qF j).length=j:=by simp[qF]
theorem t3(j:Nat):(cD j).length=j:=by simp[cD]
theorem vS(j:Nat):(cD j).all (λx=>cN x.1)=true:=by simp[cD,cN]
theorem vT(j:Nat):((cD j).map (·.1)).Nodup:=by
 unfold cD;rw[List.map_map];show List.Pairwise.map _ (R:=λa b=>a≠b) (λa b n e=>n (by simp at e;omega)) List.nodup_range
theorem sj(j t:Nat)(h:t<64\/64+j<=t):b9 (cD j) (.int t)=none:=by
 show eC λp hp e=>?_;simp only[cD,List.mem_map,List.mem_range]at hp;obtain⟨i,hi,rfl⟩:=hp;simp at e;omega
theorem uB(j:Nat)(m:MV)(hm:c8 m=true):kok (qF j) m=true:=by
 unfold kok;have:((qF j).all λp=>c8 p.1)=true:=by simp[qF,iM,sT,hkE,lE,v7]
 rw[this,hm];simp
theorem yS(hj:j<3)(h:i<j):dQ i≠dQ j:=by
 rcases j with O|O|O|j
 ·omega
 ·obtain rfl:i=0:=by omega
  decide+kernel
 ·rcases i with O|O|i
  ·decide+kernel
  ·decide+kernel
  ·omega
 ·omega
theorem mD(hj:j<3):b9 (qF j) (.tup [.str<|dQ j,.int 0])=none:=by
 show eC λp hp e=>?_;simp only[qF,List.mem_map,List.mem_range]at hp;obtain⟨i,hi,rfl⟩:=hp;simp at e;show yS hj hi e
theorem xp(hj:j<=3):((qF j).map (·.1)).Nodup:=by
 induction j with
 |zero=>show List.nodup_nil
 |succ j ih=>rw[si];show qe (by simp[iM,sT,hkE,lE,v7]) (mD 3.)<|ih (by show jV ‹_›)
theorem yT(j:Nat)(hj:j<3):(!(PySem.Builtin.Str.occurrences (dQ j) ⟨#[96]⟩ 0 (dQ j).length 1).isEmpty)=false:=by
 rcases j with O|O|O|j
 ·decide+kernel
 ·decide+kernel
 ·decide+kernel
 ·omega
structure IntD(es:List<|MV×MV)(n:Nat):Prop where
 ok:es.all (λx=>cN x.1)=true
 nd:(es.map (·.1)).Nodup
 len:es.length<=n
theorem IntD.put{es:List<|MV×MV}(H:IntD es n)(i:Int)(v:MV):IntD (mT es (.int i) v)<|n+1:=by
 unfold mT;have hl:=H.len;cases e:es.any λp=>c7 p.1<|.int i with
 |true=>
  simp only[if_true];have hk:(es.map λp=>if c7 p.1 (.int i)=true then(p.1,v)else p).map (·.1)=es.map (·.1):=by
   rw[List.map_map];show List.map_congr_left λp O=>?_;simp only[Function.comp];split<;>rfl
  show⟨?_,by rw[hk];show H.nd,by simp;omega⟩;rw[List.all_eq_true];intro x hx;obtain⟨p,hp,rfl⟩:=List.mem_map.mp hx;have:=List.all_eq_true.mp H.ok p hp;split<;>show this
 |false=>
  simp only[Bool.false_eq_true,if_false];show⟨by rw[List.all_append,H.ok];rfl,?_,by simp;omega⟩;rw[Ki];show List.nodup_append.mpr ⟨H.nd,by simp,λx hx c hc q=>?_⟩;simp at hc;subst hc;subst q;obtain⟨p,hp,q⟩:=List.mem_map.mp hx;rw[List.any_eq_false]at e;show e p hp (by rw[q];simp[iL])
theorem AR(fs:List<|List MV)(i:Nat):nsum fs i<=((fs.map List.length).sum):=by
 unfold nsum;rw[List.map_take];have h:=congrArg List.sum<|List.take_append_drop i<|fs.map List.length;rw[List.sum_append]at h;omega
theorem AS{x y:Con}:(l++[x]).set l.length y=l++[y]:=by
 rw[List.set_append_right _ _<|Kj _];simp
section
variable{fs:List<|List MV}
inductive IF23_1(a:Addr)(p:PG)(b3:List Con)(b4:List Con)(td:Nat->List Con)(tb:Nat->List Con)(K:KS)(s:SS)(fs:List<|List MV)(i:Nat)(ρ:List<|String×MV)(g:G):Prop
 |mk (fr:List<|MV×MV) (x:Int) (y:Int) (h1:g=⟨ktL K,stL s,pgL a {p with tids:=ga<|i-63,trows:=cD<|i-63,frows:=fr},b3,b4++[.d<|qF<|i-63],tb,td⟩) (h2:IntD fr<|nsum fs<|i-63) (h3:lk "p" ρ=some (rf 2 0)) (h4:lk "names" ρ=some (rf 4 b4.length)) (h5:lk "fields" ρ=some (.int x)) (h6:lk "methods" ρ=some (.int y)):IF23_1 a p b3 b4 td tb K s fs i ρ g
inductive IF23_2(a:Addr)(p:PG)(b3:List Con)(b4:List Con)(td:Nat->List Con)(tb:Nat->List Con)(y:Int)(j:Nat)(K:KS)(s:SS)(fs:List<|List MV)(i':Nat)(ρ':List<|String×MV)(g:G):Prop
 |mk (fr':List<|MV×MV) (x':Int) (h1:g=⟨ktL K,stL s,pgL a {p with tids:=ga<|j+1,trows:=cD<|j+1,frows:=fr'},b3,b4++[.d<|qF<|j+1],tb,td⟩) (h2:IntD fr'<|nsum fs j+i') (h3:lk "p" ρ'=some (rf 2 0)) (h4:lk "names" ρ'=some (rf 4 b4.length)) (h5:lk "fields" ρ'=some (.int x')) (h6:lk "methods" ρ'=some (.int y)) (h7:lk "t" ρ'=some (rf (64+j+105) 0)):IF23_2 a p b3 b4 td tb y j K s fs i' ρ' g
theorem qs(W:Lw D)(T:TyOk s td tys fs)(hz:s.types.length<=900)(hp1:p.tids=[])(hp2:p.trows=[])(hp3:p.frows=[])(hnz:(fs.map List.length).sum<=500)(hints: ∀fl∈fs,∀m∈fl,∃n:Int,m=.int n)(h: ∀fr,IntD fr (nsum fs tys.length)->Q .none (S b ⟨ktL K,stL s,pgL a {p with tids:=ga tys.length,trows:=cD tys.length,frows:=fr},b3,b4++[.d<|qF tys.length],tb,td⟩)):CD D (k+3) (S b ⟨ktL K,stL s,pgL a p,b3,b4,tb,td⟩) (.ref<|.inl 807) [rf 2 0] Q:=by
 show bR (W.K▸nA _) 4. λL=>?_;have hc3:=T.c;have htl:=T.tl;show bx<|bu<|lb 4 b4.length (List.getElem?_eq_none<|Kj _) ?_;show stc (vL (by rfl))<|dC [("p",_),("names",_)] 4. 4.<|bx<|aA<|dC [("p",_),("names",_),("fields",_)] 4. 4.<|bx<|aA<|gf [("p",_),("names",_),("fields",_),("methods",_)] 4. 4. ?_;show eX (L:=L)<|cb ?_;show ag (cw W) trivial<|bp<|aa<|ag (bX W) trivial<|aa<|cj<|ah W 4. 4. 4. 4. nofun<|aV W 4. 4. nofun ?_;show ab<|aS 4. 3.<|ab<|ek<|itv (n:=63+tys.length) (bt (by show Hh ‹_›) 1. 3.)<|forS (IF23_1 a p b3 b4 td tb K s fs) (λO O O O O=>trivial) ?_ ?_ ?_
 ·show⟨[],0,0,?_,⟨4.,List.nodup_nil,Kj _⟩,4.,4.,4.,4.⟩;obtain⟨p1,p2,p3,p4,p5,p6,p7,p8⟩:=p;dsimp only at hp1 hp2 hp3;subst hp1 hp2 hp3;rfl
 ·rintro i ρ g R hi ⟨fr,x,y,rfl,hfr,hp,hnm,hfi,hme⟩;show cJ _ 4. ?_;have hq: ∀v z,z≠"tid"->lk z (pt "tid" v ρ)=lk z ρ:=λv z h=>aQ h;have hq2: ∀u v z,z≠"tid"->z≠"t"->lk z (pt "t" u<|pt "tid" v ρ)=lk z ρ:=λu v z h1 h2=>by rw[aQ h2,aQ h1]
  have e1i:(1:Int)+(i:Int)=((1+i:Nat):Int):=by omega
  rw[e1i];by_cases h64:i<63
  ·have e63:i+1-63=i-63:=by show Js ‹_›
   by_cases h12:i=0\/i=1
   ·have htd:=T.H.td (1+i) 3.;show bx<|aX<|cj<|ah W 4. ((hq _ _ 1.).trans hp) 4. 4. (by nofun)<|aV W 4. 4. nofun<|af 4. ad<|bd (i:=(1+i:Nat)) 4. 3. (by show BS ‹_› ‹_›) (T.H.ty (1+i) 3.)<|asg _ 4. 4. ?_;show dE<|aF<|ai<|ae<|af 4. ad<|dR<|Bq<|eS 4. ?_;show ai<|ae<|ah W 4. ad (by rw[cM,htd];rfl) (by show rfl) (by nofun)<|ah W 4. ((hq2 _ _ _ 1. 1.).trans hp) 4. 4. (by nofun)<|jo<|aK<|cf 4.<|cf 4. ?_;show ao<|js<|Km.cont<|Km.cont<|AH (Kr.refl _) ⟨fr,x,y,by rw[e63],by rw[e63];show hfr,(hq2 _ _ _ 1. 1.).trans hp,(hq2 _ _ _ 1. 1.).trans hnm,(hq2 _ _ _ 1. 1.).trans hfi,(hq2 _ _ _ 1. 1.).trans hme⟩
   ·show bx<|aX<|cj<|ah W 4. ((hq _ _ 1.).trans hp) 4. 4. (by nofun)<|aV W 4. 4. nofun<|af 4. ad<|bd (i:=(1+i:Nat)) 4. 3. (by show BS ‹_› ‹_›) (T.none (1+i) 3. 3. 3.)<|asg _ 4. 4. ?_;show dE<|aF<|ai<|ae<|af 4. ad<|dR<|Bq<|aK ?_;show cf 4.<|cf 4.<|ao<|js<|Km.cont<|Km.cont<|AH (Kr.refl _) ⟨fr,x,y,by rw[e63],by rw[e63];show hfr,(hq2 _ _ _ 1. 1.).trans hp,(hq2 _ _ _ 1. 1.).trans hnm,(hq2 _ _ _ 1. 1.).trans hfi,(hq2 _ _ _ 1. 1.).trans hme⟩
  ·obtain⟨j,rfl⟩: ∃j,i=63+j:=⟨i-63,by show GO ‹_›⟩;have hj:j<tys.length:=by show Hm ‹_›
   have ej:63+j-63=j:=by omega
   have ej1:63+j+1-63=j+1:=by omega
   have e64:1+(63+j)=64+j:=by omega
   rw[ej]at hfr;rw[ej,e64];obtain⟨so,hso⟩: ∃so,tys[j]? =some so:=⟨_,J6 hj⟩;obtain⟨fl,hfl⟩: ∃fl,fs[j]? =some fl:=⟨_,J6 (by rw[T.len];show hj)⟩;have htd:=T.td j so fl hso hfl;have so3:=T.so j so hso;have hfz:=T.fz fl<|List.mem_of_getElem? hfl;have hns:=mC hfl;show bx<|aX<|cj<|ah W 4. ((hq _ _ 1.).trans hp) 4. 4. (by nofun)<|aV W 4. 4. nofun<|af 4. ad<|bd (i:=(64+j:Nat)) 4. 3. (by show G1 ‹_› ‹_›) (T.ty j hj)<|asg _ 4. 4. ?_;show dE<|aF<|ai<|ae<|af 4. ad<|dR<|Bq<|eS 4. ?_;show ai<|ae<|ah W 4. ad (by rw[cM,htd];rfl) (by show rfl) (by nofun)<|ah W 4. ((hq2 _ _ _ 1. 1.).trans hp) 4. 4. (by nofun)<|jo<|eS 4.<|aY<|bk 4. ?_;show bW<|ae<|ag (AC W) trivial<|bp<|ab<|Ar 1.<|ah W 4. ad (by rw[cM,htd];rfl) (by show rfl) (by nofun)<|sY ?_;show aK<|bk (yT j 3.)<|aR<|aI<|b5 W 4. ad (by rw[cM,htd];rfl) (by show rfl) (by nofun)<|aa<|ag (bX W) trivial<|bE W 4. ad (by rw[cM,htd];rfl) (by show rfl) (by nofun) ?_;show gJ (by rw[cM,htd];rfl)<|ab<|ce<|dC _ 4. 4. ?_;have hq3: ∀w u v z,z≠"tid"->z≠"t"->z≠"key"->lk z (pt "key" w<|pt "t" u<|pt "tid" v ρ)=lk z ρ:=λw u v z h1 h2 h3=>by rw[aQ h3,aQ h2,aQ h1]
   show ao<|bW<|aF<|aU<|ae<|ah W 4. (au ad) (by rw[cM,htd];rfl) (by show rfl) (by nofun)<|aA<|cA ?_;show cf 4.<|aU<|ae<|af 4. ad<|af 4. ((hq3 _ _ _ _ 1. 1. 1.).trans hnm)<|rj (.inl (by change(b4++[Con.d<|qF j])[b4.length]? =_;simp)) (uB j _ (by simp[iM,sT,hkE,lE,v7])) (xp (by show oH ‹_› ‹_› 4.)) ?_;rw[mD 3.];show aK<|ck 4.<|bk 4.<|bW<|ae<|ah W 4. (au ad) (by rw[cM,htd];rfl) (by show rfl) (by nofun)<|aA<|cA ?_;show cf 4.<|ao<|aZ<|af 4. (au<|au ad)<|af 4. ((hq3 _ _ _ _ 1. 1. 1.).trans hnm)<|af 4. ad<|dz (by change(b4++[Con.d<|qF j])[b4.length]? =_;simp) (uB j _ (by simp[iM,sT,hkE,lE,v7])) (xp (by show oH ‹_› ‹_› 4.)) (by rw[yR];show oH ‹_› ‹_› 4.) ?_;rw[cU<|mD 3.,Cw (by simp),AS];show Km.next<|aT<|aH<|aW<|aq<|ah W 4. ((hq3 _ _ _ _ 1. 1. 1.).trans hp) 4. 4. (by nofun)<|bU 4. Kf Ke<|az trivial ?_;show aG 4. (au<|au ad)<|bf 4. (by rw[jQ];show oH ‹_› ‹_› 4.)<|stc (kZ (by show dB 4.))<|aH<|aZ<|aC<|ag (bX W) trivial<|bE W 4. ((hq3 _ _ _ _ 1. 1. 1.).trans hp) 4. 4. (by nofun) ?_;show aS 4. (by rw[Kd,jQ];simp;show oH ‹_› ‹_› 4.)<|aA<|dP<|ah W 4. ((hq3 _ _ _ _ 1. 1. 1.).trans hp) 4. 4. (by nofun)<|af 4. (au<|au ad)<|dz 4. (bg<|vS j) (vT j) (by rw[t3];show oH ‹_› ‹_› 4.) ?_;rw[cU<|sj j (64+j)<|.inr<|Kj _,kZ (by show dB 4.)];show aH<|rY ((hq3 _ _ _ _ 1. 1. 1.).trans hfi)<|ag (i0 W) (hU W)<|aG 4. (au ad)<|CL.of (j:=k+1) (je W (so:=so) (by rw[cM,htd];rfl) (by show rfl) 3. ?_) 3.;show rb<|dC _ 4. 4. ?_;have eT:(.int (64+j:Nat):MV)=.int (64+j:Nat):=4.;have eR:((ga j++[MV.int (64+j:Nat)]).length:Int)+1=((j+2:Nat):Int):=by rw[Kd,jQ];simp;omega
   rw[eR];rw[<-tZ,<-sg,<-si];change WF D _ (S _ ⟨ktL K,stL s,pgL a {p with tids:=ga<|j+1,trows:=cD<|j+1,frows:=fr},b3,b4++[.d<|qF<|j+1],tb,td⟩) _ _;show ao<|eX (L:=L)<|cb ?_;show ah W 4. (au<|au ad) (by rw[cM,htd];rfl) (by show rfl) (by nofun)<|itv (dU (by rw[cM,htd];rfl))<|forS (IF23_2 a p b3 b4 td tb y j K s fs) ?_ ?_ ?_ ?_
   ·rintro i' ρ' g R' ⟨fr',x',rfl,O⟩;rw[cM,htd];rfl
   ·show⟨fr,_,4.,hfr,au<|(hq3 _ _ _ _ 1. 1. 1.).trans hp,au<|(hq3 _ _ _ _ 1. 1. 1.).trans hnm,ad,au<|(hq3 _ _ _ _ 1. 1. 1.).trans hme,au<|au ad⟩
   ·rintro i' ρ' g R' hi' ⟨fr',x',rfl,hfr',p1,p2,p3,p4,p5⟩;obtain⟨m,hm⟩:=hints fl (List.mem_of_getElem? hfl) fl[i'] (List.getElem_mem hi');have hx:fl.getD i' .none=.int m:=by rw[J7,J6 hi'];show hm
    rw[hx];show cJ _ 4.<|ao<|rY (au p3)<|aA<|rb<|gf _ 4. 4.<|aZ<|af 4. ad ?_;show ah W 4. (au<|au p1) 4. 4. (by nofun)<|af 4. (au ad) ?_;have hns2:=AR fs j;show dz 4. (bg hfr'.ok) hfr'.nd (by have:=hfr'.len;change fr'.length<=1000;show Hb ‹_› ‹_› ‹_› ‹_› ‹_›)<|stc (kZ (by show dB 4.))<|Km.next<|aT<|en (Kr.refl _) ⟨_,_,4.,hfr'.put _ _,au<|au p1,au<|au p2,ad,au<|au p4,au<|au p5⟩
   rintro ρ' g ⟨fr',x',rfl,hfr',p1,p2,p3,p4,p5⟩;show aH<|eW<|gS ?_;show ah W 4. p5 (by rw[cM,htd];rfl) (by show rfl) (by nofun) ⟨.inr ⟨_,4.,by rw[cM,htd];rfl⟩,?_⟩;show Km.next<|aT<|en (Kr.refl _) ⟨fr',x',y,by rw[ej1],by rw[ej1,hns];show hfr',p1,p2,p3,p4⟩
 rintro ρ g ⟨fr,x,y,rfl,hfr,O⟩;have ee:63+tys.length-63=tys.length:=by omega
 rw[ee]at hfr ⊢;show Km.next<|aT<|fin (Kr.refl _)<|h fr hfr
end
section
abbrev C1(x:Str)(g:G)(n:Nat)(i:Nat)(ρ:List<|String×MV)(g':G):Prop:=And3 (g'=g) (i<=n)<|lk "name" ρ=some (.str x)
theorem n7(W:Lw D){t:Int}{x:Str}(hc:b9 jG (.int t)=some (.tup<|cols.map λc=>.tup [.str c.1,.int c.2]))(hn:(cols[n]?).map (·.1)=some x)(hj: ∀j,j<n->(cols[j]?).map (·.1)≠some x)(h:Q (.int n)<|S b g):CD D (k+1) (S b g) (.ref<|.inl 232) [.int t,.str x] Q:=by
 show bR (W.K▸lJ _) 4. λL=>(ao<|eX (L:=L)<|dW ?_);show aP (bY W) ⟨4.,?_⟩;show aa<|aX<|aP (wY W)<|af 4. 4.<|cu (vD W _) (bg 1.) (cy 1. 1.) hc<|ab<|itE (.inr ⟨4.,4.⟩)<|forS (C1 x g n) (λO O O O O=>trivial) ⟨4.,Nat.zero_le _,4.⟩ ?_ ?_
 ·rintro i ρ g' R hi ⟨rfl,hin,h1⟩;rw[Ka]at hi;have hx:(cols.map λc:Str×Int=>MV.tup [.str c.1,.int c.2]).getD i .none=.tup [.str cols[i].1,.int cols[i].2]:=by
   rw[J7,Kh,J6 hi];rfl
  show tK hx ?_;show aM<|dT _ 4.<|dT _ 4.<|cB<|ao<|bW<|ae<|aN 4. ad 1. 1. 4. ?_;show af 4. (au<|au h1)<|Ao<|aK ?_;by_cases q:i=n
  ·subst q;have hq:cols[i].1=x:=by rw[J6 hi]at hn;simpa using hn
   show cf (by simpa using hq)<|ao<|aw<|af 4. (au ad)<|Km.ret<|Km.ret ⟨_,_,_,4.,Kr.refl _,Km.ret<|fin (Kr.refl _) h⟩
  ·have hq:cols[i].1≠x:=λe=>hj i 3. (by rw[J6 hi];simpa using e);show g8 (by simpa using hq)<|aT<|en (Kr.refl _) ⟨4.,by omega,au<|au h1⟩
 rintro ρ g' ⟨rfl,hin,h1⟩;exfalso;rw[Ka]at hin;have:n<cols.length:=by
  rcases Nat.lt_or_ge n cols.length with q|q
  ·show q
  ·rw[List.getElem?_eq_none q]at hn;cases hn
 omega
theorem sk(W:Lw D)(hz:p.blobs.length<=900)(hx:p.blobs[n]? =some (.tup ms))(h:Q (.tup ms)<|S b ⟨b0,b1,pgL a p,b3,b4,bQ R,td⟩):CD D (k+2) (S b ⟨b0,b1,pgL a p,b3,b4,bQ R,td⟩) (.ref<|.inl 271) [rf 2 10,.int n] Q:=by
 have hn:n<p.blobs.length:=by
  rcases Nat.lt_or_ge n p.blobs.length with q|q
  ·show q
  ·rw[List.getElem?_eq_none q]at hx;cases hx
 show bR (W.K▸o8 _) 4. λL=>(ao<|aw<|ag (AD W) trivial<|aa<|bV W 4. 4. (f:=530) 4. 4. (f7 W)<|aG 4. 4.<|CL.of (j:=k+1) (zS W (nh:=.inr (2,10)) (nl:=.inr (2,9)) 4. 4. 4. 3. 3. (by show BM ‹_›) (by simpa using hx) ?_) 3.);show ab<|As<|Km.ret<|fin (Kr.refl _) h
theorem cY(W:Lw D){y:Str}(hz:p.texts.length<=900)(hx:p.texts[n]? =some (.str y))(h:Q (.str y)<|S b ⟨b0,b1,pgL a p,b3,b4,bQ R,td⟩):CD D (k+2) (S b ⟨b0,b1,pgL a p,b3,b4,bQ R,td⟩) (.ref<|.inl 264) [rf 2 4,.int n] Q:=by
 have hn:n<p.texts.length:=by
  rcases Nat.lt_or_ge n p.texts.length with q|q
  ·show q
  ·rw[List.getElem?_eq_none q]at hx;cases hx
 show rT W (nh:=.inr (2,4)) (nl:=.inr (2,3)) 4. 4. 4. 4. 3. 3. (by show BM ‹_›) (by simpa using hx) h
theorem C2(W:Lw D){pl ot:Nat}(hpl:pl<10)(hts:p.ts=ei os)(TO:TOk os R)(e:R 2=some xs)(h1:1<=n)(hxz:xs.length<=900)(hx:xs[n-1]? =some (.tup r1))(hp:r1[pl]? =some (.int v1)){v2:Int}(hl:n<xs.length)(hx2:xs[n]? =some (.tup r2))(hp2:r2[pl]? =some (.int v2))(h:Q (.tup [.int v1,.int v2])<|S b ⟨b0,b1,pgL a p,b3,b4,bQ R,td⟩):CD D (k+3) (S b ⟨b0,b1,pgL a p,b3,b4,bQ R,td⟩) (.ref<|.inl 285) [rf 2 2,.int 2,.int pl,.int ot,.int n] Q:=by
 show bR (W.K▸iQ _) 4. λL=>(bx<|aX<|bV W 4. 4. (f:=565) 4. 4. (b7 W)<|bo 4. 4.<|aG 4. 4.<|CL.of (j:=k+2) (jO W (t:=2) 1. hts TO e 3. 3. (by simpa using hx) ?_) 3.);show af 4. 4.<|cL 3. 3. (by simpa using hp)<|asg [("ts",_),("table",_),("place",_),("other",_),("number",_),("first",_)] 4. 4.<|dE<|ae<|af 4. 4.<|bV W 4. 4. (f:=572) 4. 4. (be W)<|aG 4. 4. ?_;show CL.of (j:=k+1) (et W (t:=2) 1. hts TO ?_) 3.;rw[e];show oS<|oB (by simp;omega)<|ao<|aw<|aI<|bo 4. 4.<|aa<|aX ?_;show bV W 4. 4. (f:=565) 4. 4. (b7 W)<|bo 4. 4.<|aa<|aC<|af 4. 4.<|aA<|dP<|ab ?_;show CL.of (j:=k+2) (jO W (t:=2) 1. hts TO e 3. 3. (by rw[show((n:Int)+1).toNat-1=n by show GG];show hx2) ?_) 3.;show af 4. 4.<|cL 3. 3. (by simpa using hp2)<|ab<|ce<|Km.ret<|Km.ret<|fin (Kr.refl _) h
theorem C3(W:Lw D){pl ot:Nat}(hpl:pl<10)(hts:p.ts=ei os)(TO:TOk os R)(e:R 2=some xs)(h1:1<=n)(hxz:xs.length<=900)(hx:xs[n-1]? =some (.tup r1))(hp:r1[pl]? =some (.int v1))(hot:ot<100)(hl:n=xs.length)(h:Q (.tup [.int v1,.int<|((R ot).getD []).length+1])<|S b ⟨b0,b1,pgL a p,b3,b4,bQ R,td⟩):CD D (k+3) (S b ⟨b0,b1,pgL a p,b3,b4,bQ R,td⟩) (.ref<|.inl 285) [rf 2 2,.int 2,.int pl,.int ot,.int n] Q:=by
 show bR (W.K▸iQ _) 4. λL=>(bx<|aX<|bV W 4. 4. (f:=565) 4. 4. (b7 W)<|bo 4. 4.<|aG 4. 4.<|CL.of (j:=k+2) (jO W (t:=2) 1. hts TO e 3. 3. (by simpa using hx) ?_) 3.);show af 4. 4.<|cL 3. 3. (by simpa using hp)<|asg [("ts",_),("table",_),("place",_),("other",_),("number",_),("first",_)] 4. 4.<|dE<|ae<|af 4. 4.<|bV W 4. 4. (f:=572) 4. 4. (be W)<|aG 4. 4. ?_;show CL.of (j:=k+1) (et W (t:=2) 1. hts TO ?_) 3.;rw[e];show oS<|aK<|bk (by simp;omega)<|aw<|aI<|bo 4. 4.<|aa<|aC ?_;show bV W 4. 4. (f:=572) 4. 4. (be W)<|aG 4. 4.<|CL.of (j:=k+1) (et W (t:=ot) hot hts TO ?_) 3.;show aA<|dP<|ab<|ce<|Km.ret<|fin (Kr.refl _) h
end
structure RC(p:PG)(os:List Nat)(R:Nat->Option (List MV))(tys:List Nat)(fs:List<|List MV)(rows2:List MV):Prop where
 ts:p.ts=ei os
 TO:TOk os R
 r2:R 2=some rows2
 ok2:R2Ok tys fs p.texts rows2 tys.length
 len:fs.length=tys.length
 c:tys.length<=3
 so: ∀(i so:Nat),tys[i]? =some so->so=1\/so=2\/so=3
 n4:((R 4).getD []).length=nsum fs tys.length
 no: ∀u,u≠1->u≠2->u≠4->u≠11->u≠35->R u=none
 nz:nsum fs tys.length<=100
theorem ne0(h:n≠0):((n:Int)==0)=false:=by simpa using h
theorem AT{T:Imm->β->α->Prop}{F:List Value->Sem α}{Q:β->Kk->Prop}{y:MV}(h: ∀x,A x->OP D T k st [x] F Q)(hy:A y):OP D T k st [y] F Q:=h y hy
def l4(fs:List<|List MV)(i:Nat):Nat:=if i=0 then 1 else 1+nsum fs (i-1)
theorem dh{fs:List<|List MV}(h:i<=j):nsum fs i<=nsum fs j:=by
 unfold nsum;have:=congrArg List.sum<|List.take_append_drop i<|(fs.take j).map List.length;rw[List.sum_append,<-List.map_take,List.take_take,Nat.min_eq_left h]at this;omega
theorem R2Ok.at{fs:List<|List MV}{rows:List MV}(H:R2Ok tys fs tx rows tys.length)(hi:i<rows.length): ∃(fl ti bs:Int),rows[i]? =some (.tup [.int fl,.int ti,.int 0,.int bs,.int (l4 fs i:Nat),.int 1]):=by
 have hl:=H.len;rcases i with O|i
 ·obtain⟨j,a,O⟩:=H.mod;show⟨0,j,0,a⟩
 ·obtain⟨so,hso⟩: ∃so,tys[i]? =some so:=⟨_,J6 3.⟩;obtain⟨ti,bs,a,O⟩:=H.row i so 3. hso;show⟨tfl so,ti,bs,a⟩
section
variable{fs:List<|List MV}
abbrev C4(gr:G)(i:Nat)(ρ:List<|String×MV)(g':G):Prop:=g'=gr/\lk "ts" ρ=some (rf 2 2)
abbrev C5(pl:Nat)(ot:Nat)(gr:G)(v:Nat->Int)(i:Nat)(ρ:List<|String×MV)(g':G):Prop:=And5 (g'=gr) (lk "ts" ρ=some (rf 2 2)) (lk "place" ρ=some (.int pl)) (lk "other" ρ=some (.int ot))<|lk "last" ρ=some (.int (if i=0 then 1 else v (i-1)))
theorem sm(W:Lw D){told:MV}(C:RC p os R tys fs rows2)(h:Q .none<|S b ⟨b0,b1,pgL a p,b3,b4,bQ R,td⟩):CD D (k+4) (S b ⟨b0,b1,pgL a p,b3,b4,bQ R,td⟩) (.ref<|.inl 278) [rf 2 2,told] Q:=by
 let gr:G:=⟨b0,b1,pgL a p,b3,b4,bQ R,td⟩;change CD _ _ (S b gr) _ _ _;show bR (W.K▸o9 _) 4. λL=>?_;have hl2:=C.ok2.len;have hc3:=C.c;show ao<|eX (L:=L)<|cb ?_;show aP (Ax W)<|itv ev<|forS (C4 gr) (λO O O O O=>trivial) ⟨4.,4.⟩ ?_ ?_
 ·rintro i ρ g' R_ hi ⟨rfl,h1⟩;show AT (A:=λx=>(∃(pl ot:Nat) (v:Nat->Int),x=.tup [.int 2,.int pl,.int ot]/\ot<100/\pl<10/\(∀i,i<rows2.length-> ∃row,rows2[i]? =some (.tup row)/\row[pl]? =some (.int<|v i))/\v 0=1/\(∀i,i<rows2.length->(if i=0 then 1 else v (i-1))<=v i)/\ ∀i,i<rows2.length->v i<=((R ot).getD []).length+1)\/ ∃(t pl ot:Nat),x=.tup [.int t,.int pl,.int ot]/\t<100/\ot<100/\R t=none/\R ot=none) ?_ ?_
  ·rintro x (⟨pl,ot,v,rfl,hot,hpl,hv,hv0,hmono,hmax⟩|⟨t,pl,ot,rfl,ht,hot,hn,hn2⟩)
   ·skip
    show aM<|dT _ 4.<|dT _ 4.<|dT _ 4.<|cB ?_;have e1: ∀u v w,lk "ts" (pt "other" w<|pt "place" v<|pt "table" u ρ)=some (rf 2 2):=λu v w=>au<|au<|au h1;have e2: ∀u v w,lk "table" (pt "other" w<|pt "place" v<|pt "table" u ρ)=some u:=λu v w=>au<|au ad;have e3: ∀u v w,lk "place" (pt "other" w<|pt "place" v<|pt "table" u ρ)=some v:=λu v w=>au ad;have e4: ∀u v w,lk "other" (pt "other" w<|pt "place" v<|pt "table" u ρ)=some w:=λu v w=>ad;show bx<|ag (cG W) (cp W)<|bo 4. (e1 _ _ _)<|aG 4. (e2 _ _ _)<|CL.of (j:=k+1) (iz W (t:=2) 1. C.ts C.TO C.r2 ?_) 3.;show asg _ 4. 4.<|dE<|aF<|aU<|ae<|ag (bX W) trivial<|aG 4. ad<|aS (xs:=rows2) (by rw[mi (t:=2) 1.,ba C.r2];rfl) 3. ?_;show aA<|cA<|ck (ne0 3.)<|bk 4.<|aR<|aA<|gf _ 4. 4.<|eX (L:=L)<|dW ?_;show aP (bY W) ⟨4.,?_⟩;show aG 4. (au ad)<|itE (xs:=rows2) (.inl ⟨_,4.,by rw[mi (t:=2) 1.,ba C.r2];rfl,4.⟩)<|forS (C5 pl ot gr v) ?_ ?_ ?_ ?_
    ·rintro i ρ g' R' ⟨rfl,O⟩;rw[mi (t:=2) 1.,ba C.r2];rfl
    ·show⟨4.,au<|au<|e1 _ _ _,au<|au<|e3 _ _ _,au<|au<|e4 _ _ _,ad⟩
    ·rintro i ρ g' R' hi ⟨rfl,f1,f2,f3,f4⟩;obtain⟨row,hrow,hval⟩:=hv i hi;show tK (gD hrow) ?_;show aM<|dT _ 4.<|dT _ 4.<|cB ?_;have q: ∀(u w:MV) (y:String),y≠"number"->y≠"row"->lk y (pt "row" w<|pt "number" u ρ)=lk y ρ:=λu w y h1 h2=>by rw[aQ h2,aQ h1]
     show bx<|aX<|af 4. ad<|af 4. ((q _ _ _ 1. 1.).trans f2)<|cL 3. 3. (by simpa using hval)<|asg _ 4. 4.<|dE<|aF ?_;show ai<|ae<|af 4. ad<|af 4. (au<|(q _ _ _ 1. 1.).trans f4)<|oS<|eS (by have:=hmono i hi;simpa using this)<|ai<|ae ?_;show af 4. ad<|aC<|bV W 4. (au<|(q _ _ _ 1. 1.).trans f1) (f:=572) 4. 4. (be W)<|aG 4. (au<|(q _ _ _ 1. 1.).trans f3)<|CL.of (j:=k+1) (et W (t:=ot) hot C.ts C.TO ?_) 3.;show aA<|dP<|lD<|eS (by have:=hmax i hi;simp;omega)<|ai<|aF<|aU<|ae ?_;show af 4. (au<|au ad)<|aA<|cA ?_;by_cases hi0:i=0
     ·show cf (by simp[hi0])<|aU<|ae<|af 4. ad<|aA<|jo<|aK<|ck (by subst hi0;simp[hv0]) ?_;show ck 4.<|aY<|ck 4.<|bx<|af 4. ad<|dC _ 4. 4.<|aT<|Km.next ?_;show aT<|en (Kr.refl _) ⟨4.,au<|au<|(q _ _ _ 1. 1.).trans f1,au<|au<|(q _ _ _ 1. 1.).trans f2,au<|au<|(q _ _ _ 1. 1.).trans f3,ad⟩
     ·show ck (by simp;omega)<|ck 4.<|aY<|ck 4.<|bx<|af 4. ad<|dC _ 4. 4.<|aT ?_;show Km.next<|aT<|en (Kr.refl _) ⟨4.,au<|au<|(q _ _ _ 1. 1.).trans f1,au<|au<|(q _ _ _ 1. 1.).trans f2,au<|au<|(q _ _ _ 1. 1.).trans f3,ad⟩
    rintro ρ g' ⟨rfl,f1,O⟩;show Km.next<|aT<|en (Kr.refl _) ⟨4.,f1⟩
   ·skip
    show aM<|dT _ 4.<|dT _ 4.<|dT _ 4.<|cB ?_;have e1: ∀u v w,lk "ts" (pt "other" w<|pt "place" v<|pt "table" u ρ)=some (rf 2 2):=λu v w=>au<|au<|au h1;have e2: ∀u v w,lk "table" (pt "other" w<|pt "place" v<|pt "table" u ρ)=some u:=λu v w=>au<|au ad;have e3: ∀u v w,lk "place" (pt "other" w<|pt "place" v<|pt "table" u ρ)=some v:=λu v w=>au ad;have e4: ∀u v w,lk "other" (pt "other" w<|pt "place" v<|pt "table" u ρ)=some w:=λu v w=>ad;show bx<|ag (cG W) (cp W)<|bo 4. (e1 _ _ _)<|aG 4. (e2 _ _ _)<|CL.of (j:=k+1) (jj W (t:=t) ht C.ts C.TO hn ?_) 3.;intro x hx;rw[show∀(c:Kk) (L:Addr) (ρ:List<|String×MV) (y:Con),(c.push L ρ).set (.inl x) y=(c.set (.inl x) y).push L ρ from λO O O O=>4.];show asg _ 4. 4.<|dE<|aF<|aU<|ae<|ag (bX W) trivial<|aG 4. ad<|gJ (ak ..) ?_;show aA<|cA<|cf 4.<|aU<|ae<|bV W 4. (au<|e1 _ _ _) (f:=572) 4. 4. (be W)<|aG 4. (au<|e4 _ _ _)<|CL.of (j:=k+1) (et W (t:=ot) hot C.ts C.TO ?_) 3.;rw[hn2];show aA<|lD<|aK<|ck 4.<|bk 4.<|aR<|aA<|gf _ 4. 4. ?_;show eW<|dW ?_;show aP (bY W) ⟨4.,?_⟩;show aG 4. (au ad) ⟨_,[],_,4.,.inl ⟨_,4.,ak ..,4.⟩,4.,ak ..,λO O h=>h,?_⟩;show Km.next<|aT<|en (Kr.set (b:={b with raw:=_}) hx) ⟨4.,au<|au<|e1 _ _ _⟩
  ·have hl2:=C.ok2.len;have hc:=C.c;have at2:=λ(j:Nat) (hj:j<rows2.length)=>C.ok2.at hj;rcases i with O|O|O|O|O|i
   ·show .inl ⟨4,4,λi=>(l4 fs i:Nat),4.,by decide,by decide,λj hj=>?_,4.,λj hj=>?_,λj hj=>?_⟩
    ·obtain⟨fl,ti,bs,hh⟩:=at2 j hj;show⟨_,hh,4.⟩
    ·change(if j=0 then 1 else((l4 fs (j-1):Nat):Int))<=(l4 fs j:Nat);unfold l4;rcases j with O|O|j
     ·simp
     ·simp;omega
     ·have:=dh (fs:=fs) (show j<=j+1 by omega);simp;omega
    ·rw[C.n4];change((l4 fs j:Nat):Int)<=_;unfold l4;split
     ·omega
     ·have:=dh (fs:=fs) (show j-1<=tys.length by show BO ‹_› ‹_›);omega
   ·show .inl ⟨5,6,λi=>1,4.,by decide,by decide,λj hj=>?_,4.,λj hj=>by simp,λj hj=>by change(1:Int)<=_;omega⟩;obtain⟨fl,ti,bs,hh⟩:=at2 j hj;show⟨_,hh,4.⟩
   ·show .inr ⟨6,5,8,4.,by decide,by decide,C.no 6 1. 1. 1. 1. 1.,C.no 8 1. 1. 1. 1. 1.⟩
   ·show .inr ⟨18,1,20,4.,by decide,by decide,C.no 18 1. 1. 1. 1. 1.,C.no 20 1. 1. 1. 1. 1.⟩
   ·show .inr ⟨21,1,23,4.,by decide,by decide,C.no 21 1. 1. 1. 1. 1.,C.no 23 1. 1. 1. 1. 1.⟩
   ·show absurd hi (by simp)
 rintro ρ g' ⟨rfl,O⟩;show Km.next<|aT<|fin (Kr.refl _) h
end
theorem g4{c:Con}(hq:q<b4.length):(S b ⟨b0,b1,b2,b3,b4.set q c,tb,td⟩).m (.inr (4,q))=some c:=by
 change(b4.set q c)[q]? =_;rw[List.getElem?_set_self hq]
theorem st4{c:Con}(hq:q<b4.length):(S b ⟨b0,b1,b2,b3,b4.set q c,tb,td⟩).set (.inr (4,q)) c'=S b ⟨b0,b1,b2,b3,b4.set q c',tb,td⟩:=by
 rw[Cw (by rw[List.length_set];show hq),List.set_set]
abbrev jp:=Int×Nat×Nat
noncomputable def kE(x:jp):MV:=.tup [.int x.1,.int x.2.1,.int x.2.2]
noncomputable def told3(t n:Nat)(w:String):MV:=.tup [.int t,.int n,.str<|Str.ofString w]
def xq(frs:List jp)(a m:Nat):List MV:=((List.range m).filter λi=>bitAnd (frs.getD (a+i) (0,0,0)).1 16==0).map λi=>told3 4 (a+i+1) "iface"
theorem sn(frs:List jp)(a m:Nat):xq frs a (m+1)=xq frs a m++if bitAnd (frs.getD (a+m) (0,0,0)).1 16==0 then [told3 4 (a+m+1) "iface"]else []:=by
 unfold xq;rw[List.range_succ,List.filter_append,Ki];congr 1;simp only[List.filter_cons,List.filter_nil];split<;>rfl
theorem uC(frs:List jp)(a m:Nat):(xq frs a m).length<=m:=by
 unfold xq;rw[Ka];show Kc (List.length_filter_le _ _) (by simp)
def jR(tys:List Nat)(fs:List<|List MV)(frs:List jp)(i:Nat):List MV:=(List.range i).flatMap λj=>if tys.getD j 0=3 then xq frs (nsum fs j) (nsum fs (j+1)-nsum fs j)else []
theorem gV(tys:List Nat)(fs:List<|List MV)(frs:List jp)(i:Nat):jR tys fs frs (i+1)=jR tys fs frs i++if tys.getD i 0=3 then xq frs (nsum fs i) (nsum fs (i+1)-nsum fs i)else []:=by
 unfold jR;rw[List.range_succ,List.flatMap_append];simp
theorem xr(tys:List Nat)(fs:List<|List MV)(frs:List jp)(i:Nat):(jR tys fs frs i).length<=nsum fs i:=by
 induction i with
 |zero=>simp[jR]
 |succ i ih=>
  rw[gV,Kd];have:=dh (fs:=fs) (show i<=i+1 by omega);split
  ·have:=uC frs (nsum fs i)<|nsum fs (i+1)-nsum fs i;show Iu ‹_› ‹_› ‹_›
  ·simp;show uj ‹_› ‹_›
section
variable{fs:List<|List MV}{frs:List jp}
theorem C6(W:Lw D)(C:RC p os R tys fs rows2)(hi:i<rows2.length)(h:Q (.tup [.int (l4 fs i:Nat),.int (1+nsum fs i:Nat)])<|S b ⟨b0,b1,pgL a p,b3,b4,bQ R,td⟩):CD D (k+3) (S b ⟨b0,b1,pgL a p,b3,b4,bQ R,td⟩) (.ref<|.inl 285) [rf 2 2,.int 2,.int 4,.int 4,.int (i+1:Nat)] Q:=by
 have hl:=C.ok2.len;have hc:=C.c;obtain⟨f1,t1,s1,a1⟩:=C.ok2.at hi;by_cases hl2:i+1<rows2.length
 ·obtain⟨f2,t2,s2,a2⟩:=C.ok2.at hl2;have e:(l4 fs (i+1):Nat)=1+nsum fs i:=by unfold l4;simp
  rw[e]at a2;show C2 W (pl:=4) (ot:=4) 1. C.ts C.TO C.r2 3. (by show yj ‹_› ‹_›) (by simpa using a1) 4. hl2 a2 4. h
 ·have e:i=tys.length:=by omega
  show C3 W (pl:=4) (ot:=4) 1. C.ts C.TO C.r2 3. (by show yj ‹_› ‹_›) (by simpa using a1) 4. 1. 3. ?_;rw[C.n4,<-e];rw[show((nsum fs i:Nat):Int)+1=((1+nsum fs i:Nat):Int) by omega];show h
theorem HX(W:Lw D)(C:RC p os R tys fs rows2)(hi:i<rows2.length)(h:Q (.tup [.int 1,.int 1])<|S b ⟨b0,b1,pgL a p,b3,b4,bQ R,td⟩):CD D (k+3) (S b ⟨b0,b1,pgL a p,b3,b4,bQ R,td⟩) (.ref<|.inl 285) [rf 2 2,.int 2,.int 5,.int 6,.int (i+1:Nat)] Q:=by
 have hl:=C.ok2.len;have hc:=C.c;obtain⟨f1,t1,s1,a1⟩:=C.ok2.at hi;by_cases hl2:i+1<rows2.length
 ·obtain⟨f2,t2,s2,a2⟩:=C.ok2.at hl2;show C2 W (pl:=5) (ot:=6) 1. C.ts C.TO C.r2 3. (by show yj ‹_› ‹_›) (by simpa using a1) 4. hl2 a2 4. h
 ·show C3 W (pl:=5) (ot:=6) 1. C.ts C.TO C.r2 3. (by show yj ‹_› ‹_›) (by simpa using a1) 4. 1. 3. ?_;rw[C.no 6 1. 1. 1. 1. 1.];show h
abbrev C7(gr:List MV->G)(q:Nat)(xs:List MV)(frs:List jp)(tys:List Nat)(fs:List<|List MV)(i:Nat)(ρ:List<|String×MV)(g':G):Prop:=And3 (g'=gr (xs++jR tys fs frs (i-1))) (lk "ts" ρ=some (rf 2 2))<|lk "told" ρ=some (rf 4 q)
abbrev C8(gr:List MV->G)(q:Nat)(xs:List MV)(frs:List jp)(i:Nat)(tys:List Nat)(fs:List<|List MV)(i':Nat)(ρ:List<|String×MV)(g':G):Prop:=And3 (g'=gr (xs++jR tys fs frs (i-1)++xq frs (nsum fs<|i-1) i')) (lk "ts" ρ=some (rf 2 2))<|lk "told" ρ=some (rf 4 q)
theorem sp(W:Lw D)(C:RC p os R tys fs rows2)(h4:R 4=some (frs.map kE))(hn4:frs.length=nsum fs tys.length)(hq:q<b4.length)(hxz:xs.length<=100)(h:Q .none<|S b ⟨b0,b1,pgL a p,b3,b4.set q<|.l<|xs++jR tys fs frs tys.length,bQ R,td⟩):CD D (k+4) (S b ⟨b0,b1,pgL a p,b3,b4.set q<|.l xs,bQ R,td⟩) (.ref<|.inl 320) [rf 2 2,rf 4 q] Q:=by
 let gr:List MV->G:=λz=>⟨b0,b1,pgL a p,b3,b4.set q<|.l z,bQ R,td⟩;change CD _ _ (S b<|gr xs) _ _ _;show bR (W.K▸pd _) 4. λL=>?_;have hl2:=C.ok2.len;have hc3:=C.c;show ao<|eX (L:=L)<|dW ?_;show aP (bY W) ⟨4.,?_⟩;show aa<|ag (cG W) (cp W)<|bo 4. 4.<|bM (cO W)<|ab<|CL.of (j:=k+1) (iz W (t:=2) 1. C.ts C.TO C.r2 ?_) 3.;show ab<|itE (xs:=rows2) (.inl ⟨_,4.,by rw[mi (t:=2) 1.,ba C.r2];rfl,4.⟩)<|forS (C7 gr q xs frs tys fs) ?_ ?_ ?_ ?_
 ·rintro i ρ g' R' ⟨rfl,O⟩;rw[mi (t:=2) 1.,ba C.r2];rfl
 ·show⟨?_,4.,4.⟩;show congrArg gr (by simp[jR])
 ·rintro i ρ g' R' hi ⟨rfl,h1,h2⟩;change OP _ _ _ _ [.tup [.int i,rows2.getD i .none]] _ _;have hin:i-1<=tys.length:=by show BO ‹_› ‹_›
  have ol:=xr tys fs frs<|i-1;have om:=dh (fs:=fs) hin;have cz:=C.nz;show AT (A:=λx=> ∃(fl ti bs:Int),x=.tup [.int i,.tup [.int fl,.int ti,.int 0,.int bs,.int (l4 fs i:Nat),.int 1]]/\(if 0<i/\tys.getD (i-1) 0=3 then bitAnd fl 32≠0/\bs=0 else bitAnd fl 32=0)) ?_ ?_
  ·rintro x ⟨fl,ti,bs,rfl,hfl⟩;show aM<|dT _ 4.<|dT _ 4.<|cB ?_;have e1: ∀u v,lk "ts" (pt "row" v<|pt "number" u ρ)=some (rf 2 2):=λu v=>au<|au h1;have e2: ∀u v,lk "told" (pt "row" v<|pt "number" u ρ)=some (rf 4 q):=λu v=>au<|au h2;have e3: ∀u v,lk "number" (pt "row" v<|pt "number" u ρ)=some u:=λu v=>au ad;show ao<|bW<|qR<|cI<|ag (nH W) (l5 W)<|aG 4. ad<|CL.of (j:=k+1) (nR W ?_) 3.;show aK ?_;by_cases h3:0<i/\tys.getD (i-1) 0=3
   ·rw[if_pos h3]at hfl;obtain⟨hf,rfl⟩:=hfl;show bk (by simpa using hf)<|bW<|cI<|aC<|aN 4. ad 1. 1. 4.<|aA<|yu 1. 1.<|sS ?_;show bk 4.<|bL<|ag (gz W) (fQ W)<|bo 4. (e1 _ _)<|bM (cO W)<|bp<|bM (cm W)<|aa ?_;show aC<|af 4. (e3 _ _)<|aA<|dP<|ab ?_;rw[show(i:Int)+1=((i+1:Nat):Int) by omega];show CL.of (j:=k+3) (C6 W C hi ?_) 3.;show aM<|dT _ 4.<|dT _ 4.<|cB ?_;have e1: ∀u v x y,lk "ts" (pt "end" y<|pt "first" x<|pt "row" v<|pt "number" u ρ)=some (rf 2 2):=λu v x y=>au<|au<|e1 u v;have e2: ∀u v x y,lk "told" (pt "end" y<|pt "first" x<|pt "row" v<|pt "number" u ρ)=some (rf 4 q):=λu v x y=>au<|au<|e2 u v;show Km.next ?_;have l4e:l4 fs i=1+nsum fs (i-1):=by unfold l4;rw[if_neg 3.]
    have nm:=dh (fs:=fs) (show i-1<=i by show GN);have ni:=dh (fs:=fs) (show i<=tys.length by omega);rw[l4e];show ao<|eX (L:=L)<|cb ?_;show ag (cw W) trivial<|bo 4. (au ad)<|aG 4. ad<|ek<|itv (n:=nsum fs i-nsum fs (i-1)) (bt (by show GV ‹_›) 3. (by show BX ‹_› ‹_›))<|forS (C8 gr q xs frs i tys fs) (λO O O O O=>trivial) ⟨congrArg gr (by simp[xq]),e1 _ _ _ _,e2 _ _ _ _⟩ ?_ ?_
    ·rintro i' ρ g' R'' hi' ⟨rfl,k1,k2⟩;show cJ _ 4. ?_;have il:=uC frs (nsum fs<|i-1) i';have hget:(frs.map kE)[nsum fs (i-1)+i']? =some (kE<|frs.getD (nsum fs (i-1)+i') (0,0,0)):=by
      rw[Kh,J6 (by show Ix ‹_› ‹_› ‹_›),J7,J6 (by show Ix ‹_› ‹_› ‹_›)];rfl
     have ios:=sn frs (nsum fs<|i-1) i';show ao<|bW<|qR<|cI<|aC<|aX<|bV W 4. (au k1) (f:=565) 4. 4. (b7 W)<|bM (cm W) ?_;show aG 4. ad<|CL.of (j:=k+2) (jO W (t:=4) 1. C.ts C.TO h4 3. (by rw[Ka];show Jw ‹_› ‹_› ‹_›) (by rw[show(((1+nsum fs (i-1):Nat):Int)+(i':Int)).toNat-1=nsum fs (i-1)+i' by show GL];show hget) ?_) 3.;show aA<|cL 1. 1. 4.<|aP (lR W)<|fA<|sS ?_;by_cases hst:bitAnd (frs.getD (nsum fs (i-1)+i') (0,0,0)).1 16=0
     ·rw[if_pos (by simpa using hst)]at ios;show cf (by simpa using hst)<|ao<|aW<|aq<|af 4. (au k2)<|bU (g4 hq) Kf Ke<|az trivial<|aa ?_;show aI<|bM (cm W)<|bo 4. ad<|aa<|du<|ab<|ce<|ab ?_;show bf (g4 hq) (by simp only[Kd];omega)<|stc (st4 hq)<|Km.next<|aT<|Km.next<|aT<|en (Kr.refl _) ⟨?_,au k1,au k2⟩;rw[ios];rw[show((1+nsum fs (i-1):Nat):Int)+(i':Int)=((nsum fs (i-1)+i'+1:Nat):Int) by omega];simp only[List.append_assoc];rfl
     ·rw[if_neg (by simpa using hst)]at ios;show g8 (by simpa using hst)<|aT<|en (Kr.refl _) ⟨?_,au k1,au k2⟩;rw[ios,List.append_nil]
    rintro ρ g' ⟨rfl,k1,k2⟩;show Km.next<|aT<|en (Kr.refl _) ⟨?_,k1,k2⟩;have:=gV tys fs frs<|i-1;rw[if_pos h3.2,show i-1+1=i by show G3 ‹_›]at this;rw[show i+1-1=i by omega,this,List.append_assoc]
   ·rw[if_neg h3]at hfl;show cf (by simpa using hfl)<|ao<|js<|Km.cont<|Km.cont<|AH (Kr.refl _) ⟨?_,e1 _ _,e2 _ _⟩;rw[show i+1-1=i by omega];rcases i with O|i
    ·rfl
    ·have:=gV tys fs frs i;have h3: ¬tys.getD i 0=3:=λe=>h3 ⟨by omega,e⟩;rw[if_neg h3,List.append_nil]at this;change _=(⟨_,_,_,_,b4.set q<|Con.l<|xs++jR tys fs frs (i+1),_,_⟩:G);rw[this];rfl
  ·rcases i with O|i
   ·obtain⟨j,aj,O⟩:=C.ok2.mod;show⟨0,j,0,by rw[J7,aj];rfl,by rw[if_neg 3.];decide⟩
   ·obtain⟨so,hso⟩: ∃so,tys[i]? =some so:=⟨_,J6 3.⟩;obtain⟨ti,bs,aj,O,hb⟩:=C.ok2.row i so 3. hso;show⟨tfl so,ti,bs,by rw[J7,aj];rfl,?_⟩;have hgd:tys.getD (i+1-1) 0=so:=by rw[J7,show i+1-1=i by omega,hso];rfl
    rw[hgd];rcases C.so i so hso with rfl|rfl|rfl
    ·rw[if_neg 3.];decide
    ·rw[if_neg 3.];decide
    ·rw[if_pos ⟨by omega,4.⟩];show⟨by decide,hb 4.⟩
 rintro ρ g' ⟨rfl,O,O⟩;rw[hl2,show tys.length+1-1=tys.length by omega];show Km.next<|aT<|fin (Kr.refl _) h
end
variable{frs frs':List jp}
structure SeenOk(es:List<|MV×MV)(ks:List MV):Prop where
 ok:es.all (λp=>c8 p.1)=true
 nd:(es.map (·.1)).Nodup
 len:es.length<=ks.length
 mem: ∀m,c8 m=true->((b9 es m).isSome=true↔m∈ks)
theorem SeenOk.nil:SeenOk [] []:=⟨4.,List.nodup_nil,Kj _,λm O=>by simp[b9]⟩
theorem SeenOk.kok{es:List<|MV×MV}(H:SeenOk es ks)(hm:c8 m=true):kok es m=true:=by
 unfold Mine.Internal.kok;rw[H.ok,hm];simp
theorem yU{es:List<|MV×MV}{m' v:MV}(hm:c8 m=true)(hm':c8 m'=true):(b9 (mT es m v) m').isSome=true↔((b9 es m').isSome=true\/m'=m):=by
 have hk:=(bP hm).1;have hk':=(bP hm').1;unfold mT;cases e:es.any λp=>c7 p.1 m with
 |true=>
  simp only[if_true];unfold b9;simp only[Option.isSome_map,List.find?_isSome,List.mem_map];constructor
  ·rintro⟨x,⟨p,hp,rfl⟩,hx⟩;left;show⟨p,hp,?_⟩;split at hx<;>show hx
  ·rintro(⟨p,hp,hx⟩|rfl)
   ·show⟨_,⟨p,hp,4.⟩,?_⟩;split<;>show hx
   ·obtain⟨p,hp,hx⟩:=List.any_eq_true.mp e;show⟨_,⟨p,hp,4.⟩,by split<;>show hx⟩
 |false=>
  simp only[Bool.false_eq_true,if_false];unfold b9;simp only[Option.isSome_map,List.find?_isSome,List.mem_append,List.mem_singleton];constructor
  ·rintro⟨x,hx|rfl,hh⟩
   ·show .inl ⟨x,hx,hh⟩
   ·show .inr (gm _ _ hh).symm
  ·rintro(⟨p,hp,hx⟩|rfl)
   ·show⟨p,.inl hp,hx⟩
   ·show⟨_,.inr 4.,c9 _ hk⟩
theorem SeenOk.put{es:List<|MV×MV}(H:SeenOk es ks)(v:MV)(hm:c8 m=true):SeenOk (mT es m v)<|ks++[m]:=by
 have mem: ∀m',c8 m'=true->((b9 (mT es m v) m').isSome=true↔m'∈ks++[m]):=λm' hm'=>by
  rw[yU hm hm',H.mem m' hm'];simp
 have hl:=H.len;have hk:=(bP hm).1;unfold mT at mem ⊢;cases e:es.any λp=>c7 p.1 m with
 |true=>
  rw[e]at mem;simp only[if_true]at mem ⊢;have hk:(es.map λp=>if c7 p.1 m=true then(p.1,v)else p).map (·.1)=es.map (·.1):=by
   rw[List.map_map];show List.map_congr_left λp O=>?_;simp only[Function.comp];split<;>rfl
  show⟨?_,by rw[hk];show H.nd,by simp;omega,mem⟩;rw[List.all_eq_true];intro x hx;obtain⟨p,hp,rfl⟩:=List.mem_map.mp hx;have:=List.all_eq_true.mp H.ok p hp;split<;>show this
 |false=>
  rw[e]at mem;simp only[Bool.false_eq_true,if_false]at mem ⊢;show⟨by rw[List.all_append,H.ok];simp[hm],?_,by simp;omega,mem⟩;rw[Ki];show List.nodup_append.mpr ⟨H.nd,by simp,λx hx c hc q=>?_⟩;simp at hc;subst hc;subst q;obtain⟨p,hp,q⟩:=List.mem_map.mp hx;rw[List.any_eq_false]at e;show e p hp (by rw[q];show c9 _ hk)
theorem Kr.turn{c:Kk}(T:Kr b c){x:Addr}(hx:b.m (.inl x)=none):Kr b<|c.set (.inl x) v:=
 ⟨λy z e=>(bO _ _ (by rintro⟨⟩;rw[hx]at e;cases e)).trans<|T.m y z e,T.fr,T.raw⟩
theorem AU{t:Sem Bool}{Q:Bool->Kk->Prop}(v:Bool)(h1:WB D k st t λb st'=>b=v/\st'=st)(h2:Q v st):WB D k st t Q:=WP.mono h1 λb st' ⟨e1,e2⟩=>by subst e1 e2;show h2
inductive MTruth:MV->Bool->Prop
 |int {i:Int} {b:Bool}:(i !=0)=b->MTruth (.int i) b
 |bool {b:Bool}:MTruth (.bool b) b
theorem yV{v:Bool}{Q:Bool->Kk->Prop}(h:MTruth m v)(q:Q v st):OP D TB k st [m] (λvs=>truthy<|vs.getD 0 .none) Q:=by
 cases h with
 |int e=>subst e;show sS q
 |bool=>show aK q
theorem AV{t:Sem Value}{c:Bool}{a:MV}(P:MV->Prop)(h1:if c=true then WV D k st t (λm st'=>P m/\st'=st)else P a)(h2: ∀m,P m->Q m st):if c=true then WV D k st t Q else Q a st:=by
 cases c with
 |false=>show h2 _ h1
 |true=>show WP.mono h1 λm st' ⟨e1,e2⟩=>by subst e2;show h2 m e1
abbrev uD:=Int×Nat×Nat
noncomputable def qG(x:uD):MV:=.tup [.int x.1,.int (4*x.2.1:Nat),.int x.2.2]
noncomputable def t4(n:Nat):MV:=.tup [.int 4,.int n]
theorem iA(n:Nat):c8 (t4 n)=true:=by simp[t4,iM,sT,hkE,lE,v7]
theorem uE{m:Nat}(h:t4 m=t4 n):m=n:=by simp[t4]at h;omega
noncomputable def sI(x:Int):Bool:=bitAnd x 64 !=0
noncomputable def AW(x:Int):Bool:=bitAnd x 16 !=0
noncomputable def AX(x:Int):Bool:=bitAnd x 32768 !=0
noncomputable def ffl(frs:List jp)(n:Nat):Int:=(frs.getD n (0,0,0)).1
def uF(ns:List Nat)(frs:List jp)(i:Nat):Bool:=(ns.take i).contains (ns.getD i 0)|| !sI (ffl frs<|ns.getD i 0-1)
def sJ(ns:List Nat)(frs:List jp)(j:Nat):Bool:=(AX (ffl frs j)!=ns.contains (j+1))||(sI (ffl frs j)&& !(ns.contains (j+1)&&AW (ffl frs j)))
def e7(ns:List Nat)(frs:List jp)(i:Nat):List MV:=((List.range i).filter<|uF ns frs).map λi=>told3 11 (i+1) "constant"
def fW(ns:List Nat)(frs:List jp)(j:Nat):List MV:=((List.range j).filter<|sJ ns frs).map λj=>told3 4 (j+1) "constant"
theorem dj(b:Nat->Bool)(F:Nat->MV)(i:Nat):((List.range<|i+1).filter b).map F=((List.range i).filter b).map F++if b i then [F i]else []:=by
 rw[List.range_succ,List.filter_append,Ki];congr 1;simp only[List.filter_cons,List.filter_nil];split<;>rfl
theorem fX(b:Nat->Bool)(F:Nat->MV)(i:Nat):(((List.range i).filter b).map F).length<=i:=by
 rw[Ka];show Kc (List.length_filter_le _ _) (by simp)
theorem JN(n:Nat):bitAnd ((4*n:Nat):Int) (1*2^(2:Int).toNat-1)=0:=by
 change bitAnd ((4*n:Nat):Int) 3=0;unfold bitAnd;rw[show(decide<|0<=((4*n:Nat):Int))=true from decide_eq_true 3.,show(decide<|(0:Int)<=3)=true from 4.];dsimp only;have:(((4*n:Nat):Int).toNat&&& (3:Int).toNat)=0:=by
  rw[show((4*n:Nat):Int).toNat=4*n by show Ak,show(3:Int).toNat=2^2-1 from 4.,Nat.and_two_pow_sub_one_eq_mod];show Hs
 rw[this];rfl
section
variable{cs:List uD}{x:Addr}
inductive IF27_1(b:Kk)(gr:List MV->G)(q:Nat)(xs:List MV)(frs:List jp)(cs:List uD)(L:Addr)(x:Addr)(st':Kk):Prop
 |mk (c:Kk) (ρ:List<|String×MV) (es:List<|MV×MV) (h1:st'=S ((c:Kk).push L ρ) (gr<|xs++e7 (cs.map λc=>c.2.1) frs cs.length)) (h2:Kr b c) (h3:c.m (.inl x)=some (.d es)) (h4:SeenOk es<|cs.map λc=>t4 c.2.1) (h5:lk "ts" ρ=some (rf 2 2)) (h6:lk "told" ρ=some (rf 4 q)) (h7:lk "seen" ρ=some (.ref<|.inl x)):IF27_1 b gr q xs frs cs L x st'
abbrev C9(b:Kk)(gr:List MV->G)(q:Nat)(xs:List MV)(frs:List jp)(cs:List uD)(x:Addr)(i:Nat)(c:Kk)(ρ:List<|String×MV)(g':G):Prop:=And6 (g'=gr (xs++e7 (cs.map λc=>c.2.1) frs i)) (Kr b c) (∃es,c.m (.inl x)=some (.d es)/\SeenOk es ((cs.take i).map λc=>t4 c.2.1)) (lk "ts" ρ=some (rf 2 2)) (lk "told" ρ=some (rf 4 q))<|lk "seen" ρ=some (.ref<|.inl x)
abbrev Da(gr:List MV->G)(q:Nat)(xs:List MV)(frs:List jp)(cs:List uD)(x:Addr)(i:Nat)(ρ:List<|String×MV)(g':G):Prop:=And3 (g'=gr (xs++e7 (cs.map λc=>c.2.1) frs cs.length++fW (cs.map λc=>c.2.1) frs i)) (lk "told" ρ=some (rf 4 q))<|lk "seen" ρ=some (.ref<|.inl x)
theorem gb(W:Lw D)(hts:p.ts=ei os)(TO:TOk os R)(h4:R 4=some (frs.map kE))(h11:(R 11=none/\cs=[])\/R 11=some (cs.map qG))(hcs: ∀c∈cs,1<=c.2.1/\c.2.1<=frs.length)(hfz:frs.length<=100)(hcz:cs.length<=100)(hq:q<b4.length)(hxz:xs.length<=100)(h:Q .none<|S b ⟨b0,b1,pgL a p,b3,b4.set q<|.l<|xs++e7 (cs.map λc=>c.2.1) frs cs.length++fW (cs.map λc=>c.2.1) frs frs.length,bQ R,td⟩):CD D (k+4) (S b ⟨b0,b1,pgL a p,b3,b4.set q<|.l xs,bQ R,td⟩) (.ref<|.inl 327) [rf 2 2,rf 4 q] Q:=by
 let gr:List MV->G:=λz=>⟨b0,b1,pgL a p,b3,b4.set q<|.l z,bQ R,td⟩;change CD _ _ (S b<|gr xs) _ _ _;show bR (W.K▸jB _) 4. λL=>(bx<|bu<|f9 λx hx=>(stc bv ?_));have hx:b.m (.inl x)=none:=hx;show gf [("ts",_),("told",_),("seen",_)] 4. 4.<|vR (IF27_1 b gr q xs frs cs L x) ?_ ?_
 ·rcases h11 with⟨h11,rfl⟩|h11
  ·show eW<|dW ?_;show aP (bY W) ⟨4.,?_⟩;show aa<|ag (cG W) (cp W)<|bo 4. 4.<|bM (el W)<|ab<|CL.of (j:=k+1) (jj W (t:=11) 1. hts TO h11 λy hy=>?_) 3.;rw[eu];show ab ⟨_,[],_,4.,.inl ⟨_,4.,ak ..,4.⟩,4.,ak ..,λO O h=>h,?_⟩;have hyx:(Sum.inl y:Nm)≠.inl x:=λe=>by cases e;rw[show(Kk.push (b.set (.inl x)<|.d []) L _).m (.inl x)=some (.d [])from ak ..]at hy;cases hy
   show⟨4.,_,[("ts",rf 2 2),("told",rf 4 q),("seen",.ref (.inl x))],[],by rw[show∀ns,e7 ns frs ([]:List uD).length=[]from λO=>4.,List.append_nil],?_,?_,SeenOk.nil,4.,4.,4.⟩
   ·show(Kr.set (b:=b) hx).trans<|Kr.set (b:=b.set (.inl x)<|.d []) hy
   ·show(bO _ _ hyx.symm).trans<|ak ..
  ·show gI (L:=L)<|dW ?_;show aP (bY W) ⟨4.,?_⟩;show aa<|ag (cG W) (cp W)<|bo 4. 4.<|bM (el W)<|ab<|CL.of (j:=k+1) (iz W (t:=11) 1. hts TO h11 ?_) 3.;show ab<|itE (xs:=cs.map qG) (.inl ⟨_,4.,by rw[mi (t:=11) 1.,ba h11];rfl,4.⟩)<|x8 (C9 b gr q xs frs cs x) ?_ ?_ ?_ ?_
   ·rintro i c ρ g' R' ⟨rfl,O⟩;rw[mi (t:=11) 1.,ba h11];rfl
   ·show⟨congrArg gr (by simp[e7]),Kr.set (b:=b) hx,⟨[],ak ..,SeenOk.nil⟩,4.,4.,4.⟩
   ·rintro i c ρ g' R' hi ⟨rfl,T,⟨es,he,H⟩,k1,k2,k3⟩;rw[Ka]at hi;have hrow:(cs.map qG).getD i .none=qG cs[i]:=gDm hi;show tK hrow ?_;obtain⟨n1,n2⟩:=hcs cs[i] (List.getElem_mem hi);have hnd:(cs.map λc=>c.2.1).getD i 0=cs[i].2.1:=gDm hi;have hsuc:=dj (uF (cs.map λc=>c.2.1) frs) (λi=>told3 11 (i+1) "constant") i;have hlen:=fX (uF (cs.map λc=>c.2.1) frs) (λi=>told3 11 (i+1) "constant") i;have hln:=H.len;rw[Ka]at hln;have hltake:(cs.take i).length<=i:=by simp;omega
    have hmem:t4 cs[i].2.1∈((cs.take i).map λc=>t4 c.2.1)↔((cs.map λc=>c.2.1).take i).contains cs[i].2.1=true:=by
     rw[List.contains_iff_mem,<-List.map_take];constructor
     ·intro h;obtain⟨c',h1,h2⟩:=List.mem_map.mp h;show List.mem_map.mpr ⟨c',h1,uE h2⟩
     ·intro h;obtain⟨c',h1,h2⟩:=List.mem_map.mp h;show List.mem_map.mpr ⟨c',h1,by rw[h2]⟩
    have htk:((cs.take<|i+1).map λc=>t4 c.2.1)=((cs.take i).map λc=>t4 c.2.1)++[t4 cs[i].2.1]:=by
     rw[List.take_add_one,J6 hi,Ki];rfl
    show aM<|dT _ 4.<|dT _ 4.<|cB<|ao<|bL<|ag (pD W) (nL W)<|bM (f5 W) ?_;show aa<|aN 4. ad 1. 1. 4.<|ab<|CL.of (j:=k+1) (qa W (c:=1) (b:=2) (g:=0) (t:=4) (tags:=[.int 4,.int 8,.int 23]) 4. 1. 1. 3. (JN _) 1. 1. 1. 4. 1. ?_) 3.;rw[show((4*cs[i].2.1:Nat):Int)/2^(2:Int).toNat=(cs[i].2.1:Nat) by rw[show(2:Int)^(2:Int).toNat=4 from 4.];show G4];show aM<|dT _ 4.<|dT _ 4.<|cB<|Km.next ?_;have m1: ∀u v w z (y:String),y≠"number"->y≠"row"->y≠"table"->y≠"n"->lk y (pt "n" z<|pt "table" w<|pt "row" v<|pt "number" u ρ)=lk y ρ:=λu v w z y a1 a2 a3 a4=>by rw[aQ a4,aQ a3,aQ a2,aQ a1]
    have m2: ∀u v w z,lk "number" (pt "n" z<|pt "table" w<|pt "row" v<|pt "number" u ρ)=some u:=λu v w z=>au<|au<|au ad;have m3: ∀u v w z,lk "table" (pt "n" z<|pt "table" w<|pt "row" v<|pt "number" u ρ)=some w:=λu v w z=>au ad;show ao<|vR (λst'=>st'=S (({c with raw:=R'}:Kk).push L<|pt "n" (.int (cs[i].2.1:Nat))<|pt "table" (.int 4)<|pt "row" (qG cs[i])<|pt "number" (.int i) ρ) (gr<|xs++e7 (cs.map λc=>c.2.1) frs (i+1))) ?_ ?_
    ·show bW<|AU (uF (cs.map λc=>c.2.1) frs i) ?_ ?_
     ·show aF<|ai<|ae<|aI<|bo 4. (m3 _ _ _ _)<|aG 4. ad<|ce<|af 4. ((m1 _ _ _ _ _ 1. 1. 1. 1.).trans k3) ?_;show rj (.inl he) (H.kok<|iA _) H.nd<|aK ?_;by_cases hs:((cs.map λc=>c.2.1).take i).contains cs[i].2.1=true
      ·show cf ((H.mem _<|iA _).mpr<|hmem.mpr hs) ⟨?_,4.⟩;unfold uF;rw[hnd,hs];rfl
      ·show ck ?_ ?_
       ·rw[<-Bool.not_eq_true];show λe=>hs<|hmem.mp<|(H.mem _<|iA _).mp e
       show ai<|ae<|af 4. (m3 _ _ _ _)<|aP (cm W)<|jo<|eS 4.<|ai<|qR ?_;show cI<|aC<|aX<|bV W 4. ((m1 _ _ _ _ _ 1. 1. 1. 1.).trans k1) (f:=565) 4. 4. (b7 W)<|bM (cm W)<|aG 4. ad<|CL.of (j:=k+2) (jO W (t:=4) 1. hts TO h4 3. (by rw[Ka];omega) (m:=kE<|frs.getD (cs[i].2.1-1) (0,0,0)) (by rw[show((cs[i].2.1:Nat):Int).toNat-1=cs[i].2.1-1 by show GJ,Kh,J6 (by show yf ‹_› ‹_›),J7,J6 (by show yf ‹_› ‹_›)];rfl) ?_) 3.;show aA<|cL 1. 1. 4.<|aP (j6 W)<|fA<|sS ?_;have hb:uF (cs.map λc=>c.2.1) frs i= !sI (ffl frs<|cs[i].2.1-1):=by
        unfold uF;rw[hnd,Bool.eq_false_iff.mpr hs];rfl
       cases hl:sI (ffl frs<|cs[i].2.1-1)with
       |true=>
        rw[hl]at hb;show ck (by change(!sI (ffl frs<|cs[i].2.1-1))=false;rw[hl];rfl)<|aY ⟨hb.symm,4.⟩
       |false=>
        rw[hl]at hb;show cf (by change(!sI (ffl frs<|cs[i].2.1-1))=true;rw[hl];rfl) ⟨hb.symm,4.⟩
     ·cases hb:uF (cs.map λc=>c.2.1) frs i with
      |true=>
       rw[hb]at hsuc;show cf 4.<|ao<|aW<|aq<|af 4. ((m1 _ _ _ _ _ 1. 1. 1. 1.).trans k2)<|bU (g4 hq) Kf Ke<|az trivial<|aa ?_;show aI<|bM (el W)<|aa<|aC<|af 4. (m2 _ _ _ _)<|aA<|dP<|aa ?_;show du<|ab<|ce<|ab<|bf (g4 hq) (by rw[Kd];unfold e7;show Hg ‹_› ‹_› ‹_› ‹_›)<|stc (st4 hq)<|Km.next<|aT ?_;show⟨4.,?_⟩;unfold e7;rw[hsuc,<-List.append_assoc];rfl
      |false=>
       rw[hb]at hsuc;show ck 4.<|aT ⟨4.,?_⟩;unfold e7;rw[hsuc];simp
    rintro st' rfl;show aH<|aZ<|aA<|af 4. ((m1 _ _ _ _ _ 1. 1. 1. 1.).trans k3)<|aI<|bo 4. (m3 _ _ _ _)<|aG 4. ad<|ce ?_;show dz he (H.kok<|iA _) H.nd 3.<|stc bv<|Km.next<|aT<|lc (c.set (.inl x)<|.d<|mT es (t4 cs[i].2.1)<|.int 1) ⟨λO O h=>h,4.,4.⟩ ⟨4.,?_,⟨_,ak ..,?_⟩,(m1 _ _ _ _ _ 1. 1. 1. 1.).trans k1,(m1 _ _ _ _ _ 1. 1. 1. 1.).trans k2,(m1 _ _ _ _ _ 1. 1. 1. 1.).trans k3⟩
    ·show T.turn hx
    ·rw[htk];show H.put _<|iA _
   rintro c ρ g' ⟨rfl,T,⟨es,he,H⟩,k1,k2,k3⟩;show⟨4.,{c with raw:=b.raw},ρ,es,?_,⟨T.m,T.fr,4.⟩,he,by rw[Ka,List.take_length]at H;show H,k1,k2,k3⟩;rw[Ka];rfl
 rintro st' ⟨c,ρ,es,rfl,T,he,H,k1,k2,k3⟩;show aH<|eX (L:=L)<|dW ?_;show aP (bY W) ⟨4.,?_⟩;show aa<|ag (cG W) (cp W)<|bo 4. k1<|bM (cm W)<|ab<|CL.of (j:=k+1) (iz W (t:=4) 1. hts TO h4 ?_) 3.;show ab<|itE (xs:=frs.map kE) (.inl ⟨_,4.,by rw[mi (t:=4) 1.,ba h4];rfl,4.⟩)<|forS (Da gr q xs frs cs x) ?_ ?_ ?_ ?_
 ·rintro i ρ g' R' ⟨rfl,O⟩;rw[mi (t:=4) 1.,ba h4];rfl
 ·show⟨congrArg gr (by simp[fW]),k2,k3⟩
 ·rintro i ρ g' R' hi ⟨rfl,k2,k3⟩;rw[Ka]at hi;have hrow:(frs.map kE).getD i .none=kE frs[i]:=gDm hi;have hff:ffl frs i=frs[i].1:=by unfold ffl;rw[J7,J6 hi];rfl
  show tK hrow ?_;have hsuc:=dj (sJ (cs.map λc=>c.2.1) frs) (λj=>told3 4 (j+1) "constant") i;have hlen:=fX (sJ (cs.map λc=>c.2.1) frs) (λj=>told3 4 (j+1) "constant") i;have hlen1:=fX (uF (cs.map λc=>c.2.1) frs) (λi=>told3 11 (i+1) "constant") cs.length;have hgiv:(b9 es<|t4<|i+1).isSome=(cs.map λc=>c.2.1).contains (i+1):=by
   rw[Bool.eq_iff_iff,H.mem _<|iA _,List.contains_iff_mem];constructor
   ·intro h;obtain⟨c',h1,h2⟩:=List.mem_map.mp h;show List.mem_map.mpr ⟨c',h1,uE h2⟩
   ·intro h;obtain⟨c',h1,h2⟩:=List.mem_map.mp h;show List.mem_map.mpr ⟨c',h1,by rw[h2]⟩
  show aM<|dT _ 4.<|dT _ 4.<|cB<|bx<|b6<|aI<|bM (cm W) ?_;show aa<|aC<|af 4. (au ad)<|aA<|dP<|ab<|ce<|af 4. (au<|au k3) ?_;rw[show(i:Int)+1=((i+1:Nat):Int) by omega];show rj (m:=t4<|i+1) (.inl he) (H.kok<|iA _) H.nd ?_;rw[hgiv];show dC _ 4. 4.<|bx<|wv<|aC<|aN 4. (au ad) 1. 1. 4.<|aP (j6 W)<|fA<|sS ?_;show AV (λm=>MTruth m<|sI (ffl frs i)&& !((cs.map λc=>c.2.1).contains (i+1)&&AW (ffl frs i))) ?_ ?_
  ·rw[hff];cases hl:sI frs[i].1 with
   |false=>
    show ck hl<|.int hl
   |true=>
    show cf hl<|bT<|wv<|af 4. ad<|aK ?_;cases hg:(cs.map λc=>c.2.1).contains (i+1)with
    |false=>
     show ck 4.<|B2<|aK ⟨.bool,4.⟩
    |true=>
     show cf 4.<|aC<|aN 4. (au ad) 1. 1. 4.<|aP (lR W)<|fA<|B2<|sS ⟨.bool,4.⟩
  rintro m hm;show asg _ 4. 4.<|dE<|AU (sJ (cs.map λc=>c.2.1) frs i) ?_ ?_
  ·show aF<|ai<|ae<|b6<|aC<|aN 4. (au<|au ad) 1. 1. 4.<|aP (lQ W)<|fA ?_;show aA<|jo<|af 4. (au ad)<|B7<|aK ?_;have hb:sJ (cs.map λc=>c.2.1) frs i=((AX frs[i].1 !=(cs.map λc=>c.2.1).contains (i+1))||(sI (ffl frs i)&& !((cs.map λc=>c.2.1).contains (i+1)&&AW (ffl frs i)))):=by unfold sJ;rw[hff]
   cases hd:(AX frs[i].1 !=(cs.map λc=>c.2.1).contains (i+1))with
   |true=>
    rw[hd]at hb;show cf hd ⟨hb.symm,4.⟩
   |false=>
    rw[hd,Bool.false_or]at hb;show ck hd<|ai<|cI<|af 4. ad<|yV hm ?_;cases hu:(sI (ffl frs i)&& !((cs.map λc=>c.2.1).contains (i+1)&&AW (ffl frs i)))with
    |true=>
     rw[hu]at hb;show cf 4. ⟨hb.symm,4.⟩
    |false=>
     rw[hu]at hb;show ck 4.<|aY ⟨hb.symm,4.⟩
  ·have m2: ∀(u v w z:MV) (y:String),y≠"number"->y≠"row"->y≠"given"->y≠"unfit"->lk y (pt "unfit" z<|pt "given" w<|pt "row" v<|pt "number" u ρ)=lk y ρ:=λu v w z y a1 a2 a3 a4=>by rw[aQ a4,aQ a3,aQ a2,aQ a1]
   cases hb:sJ (cs.map λc=>c.2.1) frs i with
   |true=>
    rw[hb]at hsuc;show cf 4.<|ao<|aW<|aq<|af 4. ((m2 _ _ _ _ _ 1. 1. 1. 1.).trans k2)<|bU (g4 hq) Kf Ke<|az trivial<|aa ?_;show aI<|bM (cm W)<|aa<|aC<|af 4. (au<|au<|au ad)<|aA<|dP<|aa ?_;show du<|ab<|ce<|ab<|bf (g4 hq) (by rw[Kd,Kd];unfold e7 fW;omega)<|stc (st4 hq)<|Km.next<|aT ?_;show Km.next<|aT<|en (Kr.refl _) ⟨?_,(m2 _ _ _ _ _ 1. 1. 1. 1.).trans k2,(m2 _ _ _ _ _ 1. 1. 1. 1.).trans k3⟩;have:fW (cs.map λc=>c.2.1) frs (i+1)=fW (cs.map λc=>c.2.1) frs i++[told3 4 (i+1) "constant"]:=by unfold fW;rw[hsuc];rfl
    rw[this,<-List.append_assoc<|xs++_];rfl
   |false=>
    rw[hb]at hsuc;show g8 4.<|aT<|en (Kr.refl _) ⟨?_,(m2 _ _ _ _ _ 1. 1. 1. 1.).trans k2,(m2 _ _ _ _ _ 1. 1. 1. 1.).trans k3⟩;have:fW (cs.map λc=>c.2.1) frs (i+1)=fW (cs.map λc=>c.2.1) frs i:=by unfold fW;rw[hsuc];simp
    rw[this]
 rintro ρ g' ⟨rfl,k2,k3⟩;show Km.next<|aT ?_;rw[Ka];show fin T h
end
variable{cs cs':List uD}
noncomputable def mt:Str:=Str.ofString ""
def mE(t n:Nat)(y:Nat->Str):List MV:=((List.range n).filter λi=>y i==mt).map λi=>told3 t (i+1) "name"
theorem mF{y:Nat->Str}(h: ∀i,i<n->y i≠mt):mE t n y=[]:=by
 unfold mE;rw[List.map_eq_nil_iff,List.filter_eq_nil_iff];intro i hi;simpa using h i (List.mem_range.mp hi)
structure NmOk(R:Nat->Option (List MV))(tx:List MV)(t pl:Nat)(rws:List MV)(y:Nat->Str):Prop where
 r:R t=some rws
 z:rws.length<=100
 row: ∀i,i<rws.length-> ∃(ms:List MV) (j:Nat),rws[i]? =some (.tup ms)/\ms[pl]? =some (.int j)/\tx[j]? =some (.str<|y i)
def lh(t:Int)(w:Str)(n:Nat):Prop:= ∃cols:List (Str×Int),b9 jG (.int t)=some (.tup<|cols.map λc=>.tup [.str c.1,.int c.2])/\(cols[n]?).map (·.1)=some w/\ ∀j,j<n->(cols[j]?).map (·.1)≠some w
theorem JO:lh 0 (-"Name") 1:=⟨[(Str.ofString "Generation",1),(Str.ofString "Name",4),(Str.ofString "Mvid",6),(Str.ofString "EncId",6),(Str.ofString "EncBaseId",6)],by kernel_rfl,by kernel_rfl,λj hj=>by rcases j with O|j<;>first|show of_decide_eq_true (by decide+kernel)|omega⟩
theorem JP:lh 1 (-"TypeName") 1:=⟨[(Str.ofString "ResolutionScope",517),(Str.ofString "TypeName",4),(Str.ofString "TypeNamespace",4)],by kernel_rfl,by kernel_rfl,λj hj=>by rcases j with O|j<;>first|show of_decide_eq_true (by decide+kernel)|omega⟩
theorem JQ:lh 2 (-"TypeName") 1:=⟨[(Str.ofString "Flags",2),(Str.ofString "TypeName",4),(Str.ofString "TypeNamespace",4),(Str.ofString "Extends",512),(Str.ofString "FieldList",260),(Str.ofString "MethodList",262)],by kernel_rfl,by kernel_rfl,λj hj=>by rcases j with O|j<;>first|show of_decide_eq_true (by decide+kernel)|omega⟩
theorem JR:lh 4 (-"Name") 1:=⟨[(Str.ofString "Flags",1),(Str.ofString "Name",4),(Str.ofString "Signature",5)],by kernel_rfl,by kernel_rfl,λj hj=>by rcases j with O|j<;>first|show of_decide_eq_true (by decide+kernel)|omega⟩
theorem JS:lh 6 (-"Name") 3:=⟨[(Str.ofString "RVA",2),(Str.ofString "ImplFlags",1),(Str.ofString "Flags",1),(Str.ofString "Name",4),(Str.ofString "Signature",5),(Str.ofString "ParamList",264)],by kernel_rfl,by kernel_rfl,λj hj=>by rcases j with O|O|O|j<;>first|show of_decide_eq_true (by decide+kernel)|omega⟩
theorem HY:lh 10 (-"Name") 1:=⟨[(Str.ofString "Class",514),(Str.ofString "Name",4),(Str.ofString "Signature",5)],by kernel_rfl,by kernel_rfl,λj hj=>by rcases j with O|j<;>first|show of_decide_eq_true (by decide+kernel)|omega⟩
theorem HZ:lh 20 (-"Name") 1:=⟨[(Str.ofString "EventFlags",1),(Str.ofString "Name",4),(Str.ofString "EventType",512)],by kernel_rfl,by kernel_rfl,λj hj=>by rcases j with O|j<;>first|show of_decide_eq_true (by decide+kernel)|omega⟩
theorem H2:lh 23 (-"Name") 1:=⟨[(Str.ofString "Flags",1),(Str.ofString "Name",4),(Str.ofString "Type",5)],by kernel_rfl,by kernel_rfl,λj hj=>by rcases j with O|j<;>first|show of_decide_eq_true (by decide+kernel)|omega⟩
theorem H3:lh 32 (-"Name") 7:=⟨[(Str.ofString "HashAlgId",2),(Str.ofString "MajorVersion",1),(Str.ofString "MinorVersion",1),(Str.ofString "BuildNumber",1),(Str.ofString "RevisionNumber",1),(Str.ofString "Flags",2),(Str.ofString "PublicKey",5),(Str.ofString "Name",4),(Str.ofString "Culture",4)],by kernel_rfl,by kernel_rfl,λj hj=>by rcases j with O|O|O|O|O|O|O|j<;>first|show of_decide_eq_true (by decide+kernel)|omega⟩
theorem H4:lh 35 (-"Name") 6:=⟨[(Str.ofString "MajorVersion",1),(Str.ofString "MinorVersion",1),(Str.ofString "BuildNumber",1),(Str.ofString "RevisionNumber",1),(Str.ofString "Flags",2),(Str.ofString "PublicKeyOrToken",5),(Str.ofString "Name",4),(Str.ofString "Culture",4),(Str.ofString "HashValue",5)],by kernel_rfl,by kernel_rfl,λj hj=>by rcases j with O|O|O|O|O|O|j<;>first|show of_decide_eq_true (by decide+kernel)|omega⟩
theorem H5:lh 42 (-"Name") 3:=⟨[(Str.ofString "Number",1),(Str.ofString "Flags",1),(Str.ofString "Owner",518),(Str.ofString "Name",4)],by kernel_rfl,by kernel_rfl,λj hj=>by rcases j with O|O|O|j<;>first|show of_decide_eq_true (by decide+kernel)|omega⟩
section
variable{nOut:List MV}
abbrev Db(gr:List MV->G)(q:Nat)(xs:List MV)(nOut:List MV)(i:Nat)(ρ:List<|String×MV)(g':G):Prop:=And4 (g'=gr (xs++if 3<i then nOut else [])) (lk "ts" ρ=some (rf 2 2)) (lk "texts" ρ=some (rf 2 4))<|lk "told" ρ=some (rf 4 q)
abbrev Dc(pl:Nat)(gr:List MV->G)(q:Nat)(xs:List MV)(nOut:List MV)(y:Nat->Str)(i:Nat)(t:Nat)(i':Nat)(ρ:List<|String×MV)(g':G):Prop:=And6 (g'=gr ((xs++if 3<i then nOut else [])++mE t i' y)) (lk "ts" ρ=some (rf 2 2)) (lk "texts" ρ=some (rf 2 4)) (lk "told" ρ=some (rf 4 q)) (lk "table" ρ=some (.int t))<|lk "place" ρ=some (.int pl)
theorem sq(W:Lw D)(hts:p.ts=ei os)(TO:TOk os R)(htz:p.texts.length<=900)(hN0:(R 0=none/\0≠3)\/ ∃rws y,NmOk R p.texts 0 1 rws y/\mE 0 rws.length y=if(0:Nat)=3 then nOut else [])(hN1:(R 1=none/\1≠3)\/ ∃rws y,NmOk R p.texts 1 1 rws y/\mE 1 rws.length y=if(1:Nat)=3 then nOut else [])(hN2:(R 2=none/\2≠3)\/ ∃rws y,NmOk R p.texts 2 1 rws y/\mE 2 rws.length y=if(2:Nat)=3 then nOut else [])(hN4:(R 4=none/\3≠3)\/ ∃rws y,NmOk R p.texts 4 1 rws y/\mE 4 rws.length y=if(3:Nat)=3 then nOut else [])(hN6:(R 6=none/\4≠3)\/ ∃rws y,NmOk R p.texts 6 3 rws y/\mE 6 rws.length y=if(4:Nat)=3 then nOut else [])(hN10:(R 10=none/\5≠3)\/ ∃rws y,NmOk R p.texts 10 1 rws y/\mE 10 rws.length y=if(5:Nat)=3 then nOut else [])(hN20:(R 20=none/\6≠3)\/ ∃rws y,NmOk R p.texts 20 1 rws y/\mE 20 rws.length y=if(6:Nat)=3 then nOut else [])(hN23:(R 23=none/\7≠3)\/ ∃rws y,NmOk R p.texts 23 1 rws y/\mE 23 rws.length y=if(7:Nat)=3 then nOut else [])(hN32:(R 32=none/\8≠3)\/ ∃rws y,NmOk R p.texts 32 7 rws y/\mE 32 rws.length y=if(8:Nat)=3 then nOut else [])(hN35:(R 35=none/\9≠3)\/ ∃rws y,NmOk R p.texts 35 6 rws y/\mE 35 rws.length y=if(9:Nat)=3 then nOut else [])(hN42:(R 42=none/\10≠3)\/ ∃rws y,NmOk R p.texts 42 3 rws y/\mE 42 rws.length y=if(10:Nat)=3 then nOut else [])(hnz:nOut.length<=100)(hq:q<b4.length)(hxz:xs.length<=100)(h:Q .none<|S b ⟨b0,b1,pgL a p,b3,b4.set q<|.l<|xs++nOut,bQ R,td⟩):CD D (k+4) (S b ⟨b0,b1,pgL a p,b3,b4.set q<|.l xs,bQ R,td⟩) (.ref<|.inl 292) [rf 2 2,rf 2 4,rf 4 q] Q:=by
 let gr:List MV->G:=λz=>⟨b0,b1,pgL a p,b3,b4.set q<|.l z,bQ R,td⟩;change CD _ _ (S b<|gr xs) _ _ _;show bR (W.K▸pb _) 4. λL=>(ao<|eX (L:=L)<|cb ?_);show aP (Ay W)<|itv ev<|forS (Db gr q xs nOut) (λO O O O O=>trivial) ⟨by simp,4.,4.,4.⟩ ?_ ?_
 ·rintro i ρ g' R_ hi ⟨rfl,h1,h2,h3⟩;show AT (A:=λx=> ∃(t pl:Nat) (w:Str),And5 (x=.tup [.int t,.str w]) (t<100) (pl<20) (lh t w pl) ((R t=none/\i≠3)\/ ∃rws y,NmOk R p.texts t pl rws y/\mE t rws.length y=if i=3 then nOut else [])) ?_ ?_
  ·rintro x ⟨t,pl,w,rfl,ht,hpl,⟨cols,c1,c2,c3⟩,hR⟩;show aM<|dT _ 4.<|dT _ 4.<|cB ?_;have e0: ∀(u v:MV) (y:String),y≠"table"->y≠"word"->lk y (pt "word" v<|pt "table" u ρ)=lk y ρ:=λu v y a1 a2=>by rw[aQ a2,aQ a1]
   show bx<|ag (nE W) (l3 W)<|bo 4. (au ad)<|aG 4. ad<|CL.of (j:=k+1) (n7 W c1 c2 c3 ?_) 3.;show dC _ 4. 4. ?_;have e1: ∀(u v w:MV) (y:String),y≠"table"->y≠"word"->y≠"place"->lk y (pt "place" w<|pt "word" v<|pt "table" u ρ)=lk y ρ:=λu v w y a1 a2 a3=>by rw[aQ a3,aQ a2,aQ a1]
   have e2: ∀(u v w:MV),lk "table" (pt "place" w<|pt "word" v<|pt "table" u ρ)=some u:=λu v w=>au<|au ad;show ao ?_;rcases hR with⟨hR,hi3⟩|⟨rws,y,N,hout⟩
   ·show eW<|dW ?_;show aP (bY W) ⟨4.,?_⟩;show aa<|ag (cG W) (cp W)<|bo 4. ((e1 _ _ _ _ 1. 1. 1.).trans h1)<|aG 4. (e2 _ _ _)<|CL.of (j:=k+1) (jj W (t:=t) ht hts TO hR λz hz=>?_) 3.;rw[eu];show ab ⟨_,[],_,4.,.inl ⟨_,4.,ak ..,4.⟩,4.,ak ..,λO O h=>h,?_⟩;show Km.next<|aT<|en (Kr.set (b:={b with raw:=R_}) hz) ⟨?_,(e1 _ _ _ _ 1. 1. 1.).trans h1,(e1 _ _ _ _ 1. 1. 1.).trans h2,(e1 _ _ _ _ 1. 1. 1.).trans h3⟩;by_cases h:3<i
    ·rw[if_pos h,if_pos 3.]
    ·rw[if_neg h,if_neg 3.]
   ·have hz:=N.z;show eX (L:=L)<|dW ?_;show aP (bY W) ⟨4.,?_⟩;show aa<|ag (cG W) (cp W)<|bo 4. ((e1 _ _ _ _ 1. 1. 1.).trans h1)<|aG 4. (e2 _ _ _)<|CL.of (j:=k+1) (iz W (t:=t) ht hts TO N.r ?_) 3.;show ab<|itE (xs:=rws) (.inl ⟨_,4.,by rw[mi ht,ba N.r];rfl,4.⟩)<|forS (Dc pl gr q xs nOut y i t) ?_ ?_ ?_ ?_
    ·rintro i' ρ g' R' ⟨rfl,O⟩;rw[mi ht,ba N.r];rfl
    ·show⟨congrArg gr (by simp[mE]),(e1 _ _ _ _ 1. 1. 1.).trans h1,(e1 _ _ _ _ 1. 1. 1.).trans h2,(e1 _ _ _ _ 1. 1. 1.).trans h3,e2 _ _ _,ad⟩
    ·rintro i' ρ g' R' hi' ⟨rfl,k1,k2,k3,k4,k5⟩;show hid λX hX=>?_;obtain⟨ms,j,m1,m2,m3⟩:=N.row i' hi';show hX ?_;have hsuc:=dj (λi=>y i==mt) (λi=>told3 t (i+1) "name") i';have hlen:=fX (λi=>y i==mt) (λi=>told3 t (i+1) "name") i';show tK (gD m1) ?_;show aM<|dT _ 4.<|dT _ 4.<|cB ?_;have e3: ∀(u v:MV) (y:String),y≠"number"->y≠"row"->lk y (pt "row" v<|pt "number" u ρ)=lk y ρ:=λu v y a1 a2=>by rw[aQ a2,aQ a1]
     show ao<|bW<|ae<|ag (dA W) (cW W)<|bo 4. ((e3 _ _ _ 1. 1.).trans k2)<|aa<|aX<|af 4. ad ?_;show af 4. ((e3 _ _ _ 1. 1.).trans k5)<|cL 3. 3. (by simpa using m2)<|ab<|CL.of (j:=k+2) (cY W htz m3 ?_) 3.;show du<|Ao<|aK ?_;cases hb:(y i'==mt)with
     |true=>
      rw[hb]at hsuc;show cf hb<|ao<|aW<|aq<|af 4. ((e3 _ _ _ 1. 1.).trans k3)<|bU (g4 hq) Kf Ke<|az trivial<|aa ?_;show aI<|bo 4. ((e3 _ _ _ 1. 1.).trans k4)<|aa<|aC<|af 4. (au ad)<|aA<|dP<|aa ?_;show du<|ab<|ce<|ab ?_;show bf (g4 hq) (by
       rw[Kd];unfold mE;have:(xs++if 3<i then nOut else []).length<=300:=by(rw[Kd];split<;>(try simp only[List.length_nil])<;>omega)
       show BU ‹_› ‹_› ‹_› ‹_›) ?_
      show stc (st4 hq)<|Km.next<|aT<|Km.next<|aT<|en (Kr.refl _) ⟨?_,(e3 _ _ _ 1. 1.).trans k1,(e3 _ _ _ 1. 1.).trans k2,(e3 _ _ _ 1. 1.).trans k3,(e3 _ _ _ 1. 1.).trans k4,(e3 _ _ _ 1. 1.).trans k5⟩;have:mE t (i'+1) y=mE t i' y++[told3 t (i'+1) "name"]:=by unfold mE;rw[hsuc];rfl
      rw[this,<-List.append_assoc<|xs++_];rfl
     |false=>
      rw[hb]at hsuc;show g8 hb<|aT<|en (Kr.refl _) ⟨?_,(e3 _ _ _ 1. 1.).trans k1,(e3 _ _ _ 1. 1.).trans k2,(e3 _ _ _ 1. 1.).trans k3,(e3 _ _ _ 1. 1.).trans k4,(e3 _ _ _ 1. 1.).trans k5⟩;have:mE t (i'+1) y=mE t i' y:=by unfold mE;rw[hsuc];simp
      rw[this]
    rintro ρ g' ⟨rfl,k1,k2,k3,O⟩;show Km.next<|aT<|en (Kr.refl _) ⟨?_,k1,k2,k3⟩;rw[hout];by_cases h:i=3
    ·subst h;simp
    ·rw[if_neg h,List.append_nil];by_cases h:3<i
     ·rw[if_pos h,if_pos 3.]
     ·rw[if_neg h,if_neg 3.]
  ·rcases i with O|O|O|O|O|O|O|O|O|O|O|i
   ·show⟨0,1,-"Name",4.,by decide,by decide,JO,hN0⟩
   ·show⟨1,1,-"TypeName",4.,by decide,by decide,JP,hN1⟩
   ·show⟨2,1,-"TypeName",4.,by decide,by decide,JQ,hN2⟩
   ·show⟨4,1,-"Name",4.,by decide,by decide,JR,hN4⟩
   ·show⟨6,3,-"Name",4.,by decide,by decide,JS,hN6⟩
   ·show⟨10,1,-"Name",4.,by decide,by decide,HY,hN10⟩
   ·show⟨20,1,-"Name",4.,by decide,by decide,HZ,hN20⟩
   ·show⟨23,1,-"Name",4.,by decide,by decide,H2,hN23⟩
   ·show⟨32,7,-"Name",4.,by decide,by decide,H3,hN32⟩
   ·show⟨35,6,-"Name",4.,by decide,by decide,H4,hN35⟩
   ·show⟨42,3,-"Name",4.,by decide,by decide,H5,hN42⟩
   ·show absurd hi (by simp)
 rintro ρ g' ⟨rfl,O⟩;show Km.next<|aT<|fin (Kr.refl _) h
end
def twb(key:Nat->MV)(j:Nat):Bool:=(List.range j).any λu=>c7 (key u)<|key j
theorem AY(hk: ∀u,u<=j->c8 (key u)=true):twb key j=true↔key j∈(List.range j).map key:=by
 unfold twb;rw[List.any_eq_true,List.mem_map];constructor
 ·rintro⟨u,h1,h2⟩;show⟨u,h1,gm _ _ h2⟩
 ·rintro⟨u,h1,h2⟩;show⟨u,h1,?_⟩;rw[h2];show c9 _ (bP<|hk j<|Kj _).1
def twR(key:Nat->MV)(a m:Nat):List MV:=((List.range m).filter<|twb λu=>key<|a+u).map λi=>told3 4 (a+i+1) "twice"
theorem xu(key:Nat->MV)(a m:Nat):(twR key a m).length<=m:=fX _ _ _
theorem uG(key:Nat->MV)(a m:Nat):twR key a (m+1)=twR key a m++if twb (λu=>key<|a+u) m then [told3 4 (a+m+1) "twice"]else []:=dj _ _ _
def twF(key:Nat->MV)(fs:List<|List MV)(i:Nat):List MV:=(List.range i).flatMap λj=>twR key (nsum fs j)<|nsum fs (j+1)-nsum fs j
theorem qt(key:Nat->MV)(fs:List<|List MV)(i:Nat):twF key fs (i+1)=twF key fs i++twR key (nsum fs i) (nsum fs (i+1)-nsum fs i):=by
 unfold twF;rw[List.range_succ,List.flatMap_append];simp
theorem AZ(key:Nat->MV)(fs:List<|List MV)(i:Nat):(twF key fs i).length<=nsum fs i:=by
 induction i with
 |zero=>simp[twF]
 |succ i ih=>
  have:=xu key (nsum fs i)<|nsum fs (i+1)-nsum fs i;have:=dh (fs:=fs) (show i<=i+1 by omega);rw[qt,Kd];show Iu ‹_› ‹_› ‹_›
structure KeyOk(p:PG)(frs:List jp)(key:Nat->MV):Prop where
 row: ∀n,n<frs.length-> ∃y z,p.texts[(frs.getD n (0,0,0)).2.1]? =some (.str y)/\p.blobs[(frs.getD n (0,0,0)).2.2]? =some (.tup z)/\key n=.tup [.str y,.tup z]
 ok: ∀n,n<frs.length->c8 (key n)=true
section
variable{fs:List<|List MV}
abbrev Dd(b:Kk)(gr:List MV->G)(q:Nat)(xs:List MV)(x:Addr)(i:Nat)(fs:List<|List MV)(key:Nat->MV)(R':List<|Addr×Obj)(A:Nat)(i':Nat)(c':Kk)(ρ:List<|String×MV)(g':G):Prop:=And13 (g'=gr (xs++twF key fs (i-1)++twR key A i')) (Kr {b with raw:=R'} c') (∃es,c'.m (.inl x)=some (.d es)/\SeenOk es ((List.range i').map λu=>key<|A+u)) (lk "ts" ρ=some (rf 2 2)) (lk "texts" ρ=some (rf 2 4)) (lk "blobs" ρ=some (rf 2 10)) (lk "told" ρ=some (rf 4 q)) (lk "name_place" ρ=some (.int 1)) (lk "sig_place" ρ=some (.int 2)) (lk "table" ρ=some (.int 2)) (lk "place" ρ=some (.int 4)) (lk "other" ρ=some (.int 4))<|lk "seen" ρ=some (.ref<|.inl x)
theorem yW(W:Lw D)(C:RC p os R tys fs rows2)(HR4:R 4=some (frs.map kE))(hn4:frs.length=nsum fs tys.length)(KY:KeyOk p frs key)(htz:p.texts.length<=900)(hbz:p.blobs.length<=900)(hq:q<b4.length)(hxz:xs.length<=100)(h:Q .none<|S b ⟨b0,b1,pgL a p,b3,b4.set q<|.l<|xs++twF key fs tys.length,bQ R,td⟩):CD D (k+4) (S b ⟨b0,b1,pgL a p,b3,b4.set q<|.l xs,bQ R,td⟩) (.ref<|.inl 306) [rf 2 2,rf 2 4,rf 2 10,rf 4 q,.tup [.int 2,.int 4,.int 4],.int 1,.int 2] Q:=by
 let gr:List MV->G:=λz=>⟨b0,b1,pgL a p,b3,b4.set q<|.l z,bQ R,td⟩;change CD _ _ (S b<|gr xs) _ _ _;show bR (W.K▸dk _) 4. λL=>(ao<|bL<|af 4. 4.<|aM<|dT [("ts",_),("texts",_),("blobs",_),("told",_),("lists",_),("name_place",_),("sig_place",_),("table",_)] 4.<|dT [("ts",_),("texts",_),("blobs",_),("told",_),("lists",_),("name_place",_),("sig_place",_),("table",_),("place",_)] 4.<|dT [("ts",_),("texts",_),("blobs",_),("told",_),("lists",_),("name_place",_),("sig_place",_),("table",_),("place",_),("other",_)] 4. ?_);show cB<|aH<|gI (L:=L)<|cb ?_;show ag (cw W) trivial<|bp<|aa<|aC<|bV W 4. 4. (f:=572) 4. 4. (be W)<|aG 4. 4.<|CL.of (j:=k+1) (et W (t:=2) 1. C.ts C.TO ?_) 3.;show aA<|dP<|ab<|ek ?_;rw[C.r2,Option.getD_some];have hl2:=C.ok2.len;have hc3:=C.c;have hnz:=C.nz;show itv (n:=rows2.length) (bt (by simp) 3. 3.)<|x8 (b':=b) (λi c ρ g'=>g'=gr (xs++twF key fs (i-1))/\Kr b c/\lk "ts" ρ=some (rf 2 2)/\lk "texts" ρ=some (rf 2 4)/\lk "blobs" ρ=some (rf 2 10)/\lk "told" ρ=some (rf 4 q)/\lk "name_place" ρ=some (.int 1)/\lk "sig_place" ρ=some (.int 2)/\lk "table" ρ=some (.int 2)/\lk "place" ρ=some (.int 4)/\lk "other" ρ=some (.int 4)) (λO O O O O O=>trivial) ⟨congrArg gr (by simp[twF]),Kr.refl _,4.,4.,4.,4.,4.,4.,4.,4.,4.⟩ ?_ ?_
 ·rintro i c ρ g' R' hi ⟨rfl,T,h0,h1,h2,h3,h4,h5,h6,h7,h8⟩;show cJ _ 4.<|ao<|bL<|ag (gz W) (fQ W)<|bo 4. (au h0)<|bo 4. (au h6)<|bo 4. (au h7)<|bo 4. (au h8) ?_;show aG 4. ad ?_;rw[show(1:Int)+(i:Int)=((i+1:Nat):Int) by omega];show CL.of (j:=k+3) (C6 W C hi ?_) 3.;show aM<|dT _ 4.<|dT _ 4.<|cB<|ge<|bu<|f9 λx hx=>(stc bv ?_);have hx:c.m (.inl x)=none:=hx;show gf _ 4. 4. ?_;have ni:=dh (fs:=fs) (show i<=tys.length by omega);have nm:=dh (fs:=fs) (show i-1<=i by show GN);obtain⟨A,m,hA,hm,hout⟩: ∃A m,l4 fs i=A+1/\A+m=nsum fs i/\twF key fs (i+1-1)=twF key fs (i-1)++twR key A m:=by
   rcases i with O|i
   ·show⟨0,0,4.,4.,by simp[twF,twR]⟩
   ·show⟨nsum fs i,nsum fs (i+1)-nsum fs i,by unfold l4;simp;omega,by have:=dh (fs:=fs) (show i<=i+1 by omega);show Bo ‹_›,qt key fs i⟩
  rw[hA];show gI (L:=L)<|cb ?_;show ag (cw W) trivial<|bo 4. (au<|au ad)<|aG 4. (au ad)<|ek ?_;have tl:=AZ key fs<|i-1;show itv (n:=m) (bt 3. 3. (by show BX ‹_› ‹_›))<|x8 (Dd b gr q xs x i fs key R' A) (λO O O O O O=>trivial) ⟨congrArg gr (by simp[twR]),⟨λy v e=>(bO _ _ (by rintro⟨⟩;rw[T.m _ _ e]at hx;cases hx)).trans<|T.m y v e,T.fr,4.⟩,⟨[],ak ..,SeenOk.nil⟩,(au<|au<|au<|au h0),(au<|au<|au<|au h1),(au<|au<|au<|au h2),(au<|au<|au<|au h3),(au<|au<|au<|au h4),(au<|au<|au<|au h5),(au<|au<|au<|au h6),(au<|au<|au<|au h7),(au<|au<|au<|au h8),ad⟩ ?_ ?_
  ·rintro i' c' ρ g' R'' hi' ⟨rfl,T',⟨es,he,H⟩,k0,k1,k2,k3,k4,k5,k6,k7,k8,k9⟩;show cJ _ 4. ?_;have hn:A+i'<frs.length:=by show Jy ‹_› ‹_› ‹_› ‹_›
   show hid λX hX=>?_;obtain⟨y,z,hy,hz,hkey⟩:=KY.row (A+i') hn;show hX ?_;have hko:=KY.ok (A+i') hn;have hrow:(frs.map kE)[A+i']? =some (kE<|frs.getD (A+i') (0,0,0)):=by
    rw[Kh,J6 hn,J7,J6 hn];rfl
   have hbx:b.m (.inl x)=none:=by
    cases e:b.m (.inl x)with
    |none=>rfl
    |some v=>rw[T.m x v e]at hx;cases hx
   have hsuc:=uG key A i';have hlen:=xu key A i';have hln:=H.len;rw[Ka,List.length_range]at hln;have hmem:twb (λu=>key<|A+u) i'=(b9 es<|key<|A+i').isSome:=by
    rw[Bool.eq_iff_iff,H.mem _ hko];show AY (key:=λu=>key<|A+u) λu hu=>KY.ok (A+u) (by show GR ‹_› ‹_› ‹_› ‹_› ‹_›)
   show bx<|bV W 4. (au k0) (f:=565) 4. 4. (b7 W)<|bo 4. (au k8)<|aG 4. ad<|CL.of (j:=k+2) (jO W (t:=4) 1. C.ts C.TO HR4 (by show Jz) (by rw[Ka];show Hc ‹_› ‹_› ‹_› ‹_›) (by rw[show(((A+1:Nat):Int)+(i':Int)).toNat-1=A+i' by show GK];show hrow) ?_) 3.;show dC _ 4. 4.<|bx<|jr<|ae<|af 4. (au<|au k5)<|aA<|sR<|aK ?_;show cf 4.<|ag (rN W) (pH W)<|bo 4. (au<|au k2)<|aa<|aX<|af 4. ad<|af 4. (au<|au k5)<|cL (i:=2) 1. 1. 4. ?_;show ab<|CL.of (j:=k+2) (sk W hbz hz ?_) 3.;show dC _ 4. 4.<|bx<|aI<|aa<|ag (dA W) (cW W)<|bo 4. (au<|au<|au k1)<|aa<|aX ?_;show af 4. (au ad)<|af 4. (au<|au<|au k4)<|cL (i:=1) 1. 1. 4.<|ab<|CL.of (j:=k+2) (cY W htz hy ?_) 3.;show aG 4. ad<|ce ?_;rw[<-hkey];show asg _ 4. 4.<|dE<|ae<|af 4. ad<|af 4. (au<|au<|au<|au k9)<|rj (.inl he) (H.kok hko) H.nd<|aK ?_;cases hb:twb (λu=>key<|A+u) i' with
   |true=>
    rw[hb]at hsuc hmem;show cf hmem.symm<|ao<|aW<|aq<|af 4. (au<|au<|au<|au k3)<|bU (g4 hq) Kf Ke<|az trivial<|aa ?_;show aI<|bo 4. (au<|au<|au<|au k8)<|bo 4. (au<|au<|au ad)<|aa<|du<|ab<|ce<|ab ?_;show bf (g4 hq) (by simp only[Kd];omega)<|stc (st4 hq)<|Km.next<|aT<|aH<|aZ<|aA<|af 4. (au<|au<|au<|au k9) ?_;show af 4. ad<|dz he (H.kok hko) H.nd (by show BV ‹_› ‹_› ‹_› ‹_› ‹_›)<|stc bv<|Km.next<|aT<|lc (c'.set (.inl x)<|.d<|mT es (key<|A+i')<|.int 1) ⟨λO O h=>h,4.,4.⟩ ⟨?_,T'.turn hbx,⟨_,ak ..,by rw[List.range_succ,Ki];show H.put _ hko⟩,(au<|au<|au<|au k0),(au<|au<|au<|au k1),(au<|au<|au<|au k2),(au<|au<|au<|au k3),(au<|au<|au<|au k4),(au<|au<|au<|au k5),(au<|au<|au<|au k6),(au<|au<|au<|au k7),(au<|au<|au<|au k8),au<|au<|au<|au k9⟩;rw[hsuc];rw[show((A+1:Nat):Int)+(i':Int)=((A+i'+1:Nat):Int) by omega];simp only[List.append_assoc];rfl
   |false=>
    rw[hb]at hsuc hmem;show bk hmem.symm<|aZ<|aA<|af 4. (au<|au<|au<|au k9)<|af 4. ad<|dz he (H.kok hko) H.nd (by show BV ‹_› ‹_› ‹_› ‹_› ‹_›)<|stc bv<|Km.next ?_;show aT<|lc (c'.set (.inl x)<|.d<|mT es (key<|A+i')<|.int 1) ⟨λO O h=>h,4.,4.⟩ ⟨?_,T'.turn hbx,⟨_,ak ..,by rw[List.range_succ,Ki];show H.put _ hko⟩,(au<|au<|au<|au k0),(au<|au<|au<|au k1),(au<|au<|au<|au k2),(au<|au<|au<|au k3),(au<|au<|au<|au k4),(au<|au<|au<|au k5),(au<|au<|au<|au k6),(au<|au<|au<|au k7),(au<|au<|au<|au k8),au<|au<|au<|au k9⟩;rw[hsuc];show congrArg gr (by simp)
  rintro c' ρ g' ⟨rfl,T',O,k0,k1,k2,k3,k4,k5,k6,k7,k8,k9⟩;show Km.next<|aT<|lc ({c' with raw:=b.raw}) ⟨λO O h=>h,4.,4.⟩ ⟨?_,⟨T'.m,T'.fr,4.⟩,k0,k1,k2,k3,k4,k5,k6,k7,k8⟩;rw[hout,List.append_assoc]
 rintro c ρ g' ⟨rfl,T,O⟩;show Km.next<|aT<|fin ⟨T.m,T.fr,4.⟩ (by rw[hl2]at*;show h)
theorem yX(W:Lw D)(C:RC p os R tys fs rows2)(h:Q .none<|S b (⟨b0,b1,pgL a p,b3,b4,bQ R,td⟩:G)):CD D (k+4) (S b (⟨b0,b1,pgL a p,b3,b4,bQ R,td⟩:G)) (.ref<|.inl 306) [rf 2 2,rf 2 4,rf 2 10,rf 4 q,.tup [.int 2,.int 5,.int 6],.int 3,.int 4] Q:=by
 show bR (W.K▸dk _) 4. λL=>(ao<|bL<|af 4. 4.<|aM<|dT [("ts",_),("texts",_),("blobs",_),("told",_),("lists",_),("name_place",_),("sig_place",_),("table",_)] 4.<|dT [("ts",_),("texts",_),("blobs",_),("told",_),("lists",_),("name_place",_),("sig_place",_),("table",_),("place",_)] 4.<|dT [("ts",_),("texts",_),("blobs",_),("told",_),("lists",_),("name_place",_),("sig_place",_),("table",_),("place",_),("other",_)] 4. ?_);show cB<|aH<|gI (L:=L)<|cb ?_;show ag (cw W) trivial<|bp<|aa<|aC<|bV W 4. 4. (f:=572) 4. 4. (be W)<|aG 4. 4.<|CL.of (j:=k+1) (et W (t:=2) 1. C.ts C.TO ?_) 3.;show aA<|dP<|ab<|ek ?_;rw[C.r2,Option.getD_some];have hl2:=C.ok2.len;have hc3:=C.c;have hnz:=C.nz;show itv (n:=rows2.length) (bt (by simp) 3. 3.)<|x8 (b':=b) (λi c ρ g'=>g'=(⟨b0,b1,pgL a p,b3,b4,bQ R,td⟩:G)/\Kr b c/\lk "ts" ρ=some (rf 2 2)/\lk "texts" ρ=some (rf 2 4)/\lk "blobs" ρ=some (rf 2 10)/\lk "told" ρ=some (rf 4 q)/\lk "name_place" ρ=some (.int 3)/\lk "sig_place" ρ=some (.int 4)/\lk "table" ρ=some (.int 2)/\lk "place" ρ=some (.int 5)/\lk "other" ρ=some (.int 6)) (λO O O O O O=>trivial) ⟨by simp[twF],Kr.refl _,4.,4.,4.,4.,4.,4.,4.,4.,4.⟩ ?_ ?_
 ·rintro i c ρ g' R' hi ⟨rfl,T,h0,h1,h2,h3,h4,h5,h6,h7,h8⟩;show cJ _ 4.<|ao<|bL<|ag (gz W) (fQ W)<|bo 4. (au h0)<|bo 4. (au h6)<|bo 4. (au h7)<|bo 4. (au h8) ?_;show aG 4. ad ?_;rw[show(1:Int)+(i:Int)=((i+1:Nat):Int) by omega];show CL.of (j:=k+3) (HX W C hi ?_) 3.;show aM<|dT _ 4.<|dT _ 4.<|cB<|ge<|bu<|f9 λx hx=>(stc bv ?_);have hx:c.m (.inl x)=none:=hx;show gf _ 4. 4.<|eW<|cb ?_;show ag (cw W) trivial<|bo 4. (au<|au ad)<|aG 4. (au ad)<|ek ⟨_,0,_,bt 3. 3. 3.,4.,trivial,λO O O=>trivial,?_⟩;show Km.next<|aT<|lc c (Kr.set (b:={c with raw:=R'}) hx) ⟨4.,T,au<|au<|au<|au h0,au<|au<|au<|au h1,au<|au<|au<|au h2,au<|au<|au<|au h3,au<|au<|au<|au h4,au<|au<|au<|au h5,au<|au<|au<|au h6,au<|au<|au<|au h7,au<|au<|au<|au h8⟩
 rintro c ρ g' ⟨rfl,T,O⟩;show Km.next<|aT<|fin ⟨T.m,T.fr,4.⟩ h
theorem yY(W:Lw D)(C:RC p os R tys fs rows2)(h:Q .none<|S b (⟨b0,b1,pgL a p,b3,b4,bQ R,td⟩:G)):CD D (k+4) (S b (⟨b0,b1,pgL a p,b3,b4,bQ R,td⟩:G)) (.ref<|.inl 306) [rf 2 2,rf 2 4,rf 2 10,rf 4 q,.tup [.int 21,.int 1,.int 23],.int 1,.int 2] Q:=by
 show bR (W.K▸dk _) 4. λL=>(ao<|bL<|af 4. 4.<|aM<|dT [("ts",_),("texts",_),("blobs",_),("told",_),("lists",_),("name_place",_),("sig_place",_),("table",_)] 4.<|dT [("ts",_),("texts",_),("blobs",_),("told",_),("lists",_),("name_place",_),("sig_place",_),("table",_),("place",_)] 4.<|dT [("ts",_),("texts",_),("blobs",_),("told",_),("lists",_),("name_place",_),("sig_place",_),("table",_),("place",_),("other",_)] 4. ?_);show cB<|aH<|eW<|cb ?_;show ag (cw W) trivial<|bp<|aa<|aC<|bV W 4. 4. (f:=572) 4. 4. (be W)<|aG 4. 4.<|CL.of (j:=k+1) (et W (t:=21) 1. C.ts C.TO ?_) 3.;rw[C.no 21 1. 1. 1. 1. 1.,Option.getD_none,List.length_nil];show aA<|dP<|ab<|ek ⟨_,0,_,bt (by rfl) 3. 3.,4.,trivial,λO O O=>trivial,?_⟩;show Km.next<|aT<|fin (Kr.refl _) h
theorem yZ(W:Lw D)(C:RC p os R tys fs rows2)(h:Q .none<|S b (⟨b0,b1,pgL a p,b3,b4,bQ R,td⟩:G)):CD D (k+4) (S b (⟨b0,b1,pgL a p,b3,b4,bQ R,td⟩:G)) (.ref<|.inl 306) [rf 2 2,rf 2 4,rf 2 10,rf 4 q,.tup [.int 18,.int 1,.int 20],.int 1,.int<| -1] Q:=by
 show bR (W.K▸dk _) 4. λL=>(ao<|bL<|af 4. 4.<|aM<|dT [("ts",_),("texts",_),("blobs",_),("told",_),("lists",_),("name_place",_),("sig_place",_),("table",_)] 4.<|dT [("ts",_),("texts",_),("blobs",_),("told",_),("lists",_),("name_place",_),("sig_place",_),("table",_),("place",_)] 4.<|dT [("ts",_),("texts",_),("blobs",_),("told",_),("lists",_),("name_place",_),("sig_place",_),("table",_),("place",_),("other",_)] 4. ?_);show cB<|aH<|eW<|cb ?_;show ag (cw W) trivial<|bp<|aa<|aC<|bV W 4. 4. (f:=572) 4. 4. (be W)<|aG 4. 4.<|CL.of (j:=k+1) (et W (t:=18) 1. C.ts C.TO ?_) 3.;rw[C.no 18 1. 1. 1. 1. 1.,Option.getD_none,List.length_nil];show aA<|dP<|ab<|ek ⟨_,0,_,bt (by rfl) 3. 3.,4.,trivial,λO O O=>trivial,?_⟩;show Km.next<|aT<|fin (Kr.refl _) h
end
structure RowKey(tx:List MV)(xs:List MV)(key:Nat->MV)(own:Bool):Prop where
 row: ∀i,i<xs.length-> ∃(f:Int) (j1 j2:Nat) (rest:List MV) (y1 y2:Str),rest.length<=9/\xs[i]? =some (.tup<|.int f::.int j1::.int j2::rest)/\tx[j1]? =some (.str y1)/\tx[j2]? =some (.str y2)/\key i=.tup [.int (if own then f else 0),.str y2,.str y1]
 inj: ∀i j,i<j->j<xs.length->key i≠key j
theorem RowKey.no{own:Bool}(K:RowKey tx xs key own)(hi:i<xs.length){es:List<|MV×MV}(H:SeenOk es<|(List.range i).map key)(hk:c8 (key i)=true):(b9 es<|key i).isSome=false:=by
 rw[<-Bool.not_eq_true,H.mem _ hk];intro h;obtain⟨u,h1,h2⟩:=List.mem_map.mp h;show K.inj u i (List.mem_range.mp h1) hi h2
theorem Kr.none{c:Kk}(T:Kr b c){x:Addr}(h:c.m (.inl x)=none):b.m (.inl x)=none:=by
 cases e:b.m (.inl x)with
 |none=>rfl
 |some v=>rw[T.m x v e]at h;cases h
section
variable{fs:List<|List MV}
abbrev De(b:Kk)(gr:List MV->G)(q:Nat)(xs:List MV)(x0:Addr)(x1:Addr)(key2:Nat->MV)(i:Nat)(c:Kk)(ρ:List<|String×MV)(g':G):Prop:=And9 (g'=(gr xs)) (Kr (b.set (.inl x0)<|.d []) c) (∃es,c.m (.inl x1)=some (.d es)/\SeenOk es ((List.range i).map key2)) (lk "ts" ρ=some (rf 2 2)) (lk "texts" ρ=some (rf 2 4)) (lk "blobs" ρ=some (rf 2 10)) (lk "told" ρ=some (rf 4 q)) (lk "enclosed" ρ=some (.ref<|.inl x0))<|lk "seen" ρ=some (.ref<|.inl x1)
abbrev Df(b:Kk)(gr:List MV->G)(q:Nat)(xs:List MV)(L:Addr)(x0:Addr)(st':Kk):Prop:= ∃c ρ,And7 (st'=S ((c:Kk).push L ρ) (gr xs)) (Kr (b.set (.inl x0)<|.d []) c) (lk "ts" ρ=some (rf 2 2)) (lk "texts" ρ=some (rf 2 4)) (lk "blobs" ρ=some (rf 2 10)) (lk "told" ρ=some (rf 4 q)) (lk "enclosed" ρ=some (.ref<|.inl x0))
abbrev Dg(b:Kk)(gr:List MV->G)(q:Nat)(xs:List MV)(x0:Addr)(x2:Addr)(key1:Nat->MV)(i:Nat)(c:Kk)(ρ:List<|String×MV)(g':G):Prop:=And9 (g'=(gr xs)) (Kr (b.set (.inl x0)<|.d []) c) (∃es,c.m (.inl x2)=some (.d es)/\SeenOk es ((List.range i).map key1)) (lk "ts" ρ=some (rf 2 2)) (lk "texts" ρ=some (rf 2 4)) (lk "blobs" ρ=some (rf 2 10)) (lk "told" ρ=some (rf 4 q)) (lk "enclosed" ρ=some (.ref<|.inl x0))<|lk "seen" ρ=some (.ref<|.inl x2)
theorem sr(W:Lw D)(C:RC p os R tys fs rows2)(K2:RowKey p.texts rows2 key2 false)(K1:R 1=none\/ ∃rows1,R 1=some rows1/\rows1.length<=9/\RowKey p.texts rows1 key1 true)(HR4:R 4=some (frs.map kE))(hn4:frs.length=nsum fs tys.length)(KY:KeyOk p frs key)(htz:p.texts.length<=900)(hbz:p.blobs.length<=900)(hq:q<b4.length)(hxz:xs.length<=100)(h:Q .none<|S b ⟨b0,b1,pgL a p,b3,b4.set q<|.l<|xs++twF key fs tys.length,bQ R,td⟩):CD D (k+5) (S b ⟨b0,b1,pgL a p,b3,b4.set q<|.l xs,bQ R,td⟩) (.ref<|.inl 299) [rf 2 2,rf 2 4,rf 2 10,rf 4 q] Q:=by
 let gr:List MV->G:=λz=>⟨b0,b1,pgL a p,b3,b4.set q<|.l z,bQ R,td⟩;change CD _ _ (S b<|gr xs) _ _ _;show bR (W.K▸pc _) 4. λL=>(bx<|bu<|f9 λx0 hx0=>(stc bv ?_));have hx0:b.m (.inl x0)=none:=hx0;show gf [("ts",_),("texts",_),("blobs",_),("told",_),("enclosed",_)] 4. 4.<|eW<|gS ?_;show ag (cG W) (cp W)<|bo 4. 4.<|bM (kW W)<|ab<|CL.of (j:=k+1) (jj W (t:=41) 1. C.ts C.TO (C.no 41 1. 1. 1. 1. 1.) λy hy=>?_) 3.;rw[eu];have hy:(b.set (.inl x0)<|.d []).m (.inl y)=none:=hy;show⟨.inr ⟨_,4.,ak ..⟩,?_⟩;show ge<|bu<|f9 λx1 hx1=>(stc bv ?_);have hx1:((b.set (.inl x0)<|.d []).set (.inl y)<|.l []).m (.inl x1)=none:=hx1;have T1:Kr (b.set (.inl x0)<|.d [])<|(b.set (.inl x0)<|.d []).set (.inl y)<|.l []:=Kr.set hy;show gf [("ts",_),("texts",_),("blobs",_),("told",_),("enclosed",_),("seen",_)] 4. 4. ?_;have hx1':=T1.none hx1;have hl2:=C.ok2.len;have hc3:=C.c;show gI (L:=L)<|dW ?_;show aP (bY W) ⟨4.,?_⟩;show aa<|ag (cG W) (cp W)<|bo 4. 4.<|bM (cO W)<|ab<|CL.of (j:=k+1) (iz W (t:=2) 1. C.ts C.TO C.r2 ?_) 3.;show ab<|itE (xs:=rows2) (.inl ⟨_,4.,by rw[mi (t:=2) 1.,ba C.r2];rfl,4.⟩)<|x8 (De b gr q xs x0 x1 key2) ?_ ?_ ?_ ?_
 ·rintro i c ρ g' R' ⟨rfl,O⟩;rw[mi (t:=2) 1.,ba C.r2];rfl
 ·show⟨4.,T1.trans<|Kr.set hx1,⟨[],ak ..,SeenOk.nil⟩,4.,4.,4.,4.,4.,4.⟩
 ·rintro i c ρ g' R' hi ⟨rfl,T,⟨es,he,H⟩,k0,k1,k2,k3,k4,k9⟩;show hid λX hX=>?_;obtain⟨f,j1,j2,rest,y1,y2,hrl,hrow,hy1,hy2,hkey⟩:=K2.row i hi;show hX ?_;have hko:c8 (key2 i)=true:=by rw[hkey];rfl
  have hno:=K2.no hi H hko;have hln:=H.len;rw[Ka,List.length_range]at hln;show tK (gD hrow) ?_;show aM<|dT _ 4.<|dT _ 4.<|cB<|bx<|aI<|aa<|aq ?_;show af 4. (au<|au k4)<|fc (.inl<|T.m _ _<|ak ..) F.slot_dict_get F.type_dict_get<|az trivial<|aa<|aC<|af 4. (au ad)<|aA<|dP ?_;show bp<|ab<|gq (.inl<|T.m _ _<|ak ..) 4. List.nodup_nil<|aa<|ag (dA W) (cW W)<|bo 4. (au<|au k1)<|aa<|aN 4. ad (i:=2) 1. 1. 4. ?_;show ab<|CL.of (j:=k+2) (cY W htz hy2 ?_) 3.;show aa<|ag (dA W) (cW W)<|bo 4. (au<|au k1)<|aa<|aN 4. ad (i:=1) 1. 1. 4.<|ab<|CL.of (j:=k+2) (cY W htz hy1 ?_) 3.;show ab<|ce ?_;have hkey':MV.tup [(b9 []<|.int<|(i:Int)+1).getD<|.int 0,.str y2,.str y1]=key2 i:=hkey.symm;rw[hkey'];show asg _ 4. 4.<|dE<|ae<|af 4. ad<|af 4. (au<|au<|au k9)<|rj (.inl he) (H.kok hko) H.nd<|aK<|bk hno ?_;show aZ<|aA<|af 4. (au<|au<|au k9)<|af 4. ad<|dz he (H.kok hko) H.nd 3.<|stc bv<|Km.next<|aT ?_;show lc (c.set (.inl x1)<|.d<|mT es (key2 i)<|.int 1) ⟨λO O h=>h,4.,4.⟩ ⟨4.,T.turn hx1',⟨_,ak ..,by rw[List.range_succ,Ki];show H.put _ hko⟩,(au<|au<|au k0),(au<|au<|au k1),(au<|au<|au k2),(au<|au<|au k3),(au<|au<|au k4),au<|au<|au k9⟩
 rintro c ρ g' ⟨rfl,T,O,k0,k1,k2,k3,k4,O⟩;show ge<|bu<|f9 λx2 hx2=>(stc bv ?_);have hx2:c.m (.inl x2)=none:=hx2;show dC _ 4. 4. ?_;have hx2':=T.none hx2;show ao ?_;have T2:Kr (b.set (.inl x0)<|.d [])<|({c with raw:=b.raw}:Kk).set (.inl x2)<|.d []:=(⟨T.m,T.fr,4.⟩:Kr _ ({c with raw:=b.raw}:Kk)).trans<|Kr.set (b:={c with raw:=b.raw}) hx2;show vR (Df b gr q xs L x0) ?_ ?_
 ·rcases K1 with h1|⟨rows1,h1,hz1,K1⟩
  ·show eW<|dW ?_;show aP (bY W) ⟨4.,?_⟩;show aa<|ag (cG W) (cp W)<|bo 4. (au k0)<|bM (cP W)<|ab<|CL.of (j:=k+1) (jj W (t:=1) 1. C.ts C.TO h1 λz hz=>?_) 3.;rw[eu];show ab ⟨_,[],_,4.,.inl ⟨_,4.,ak ..,4.⟩,4.,ak ..,λO O h=>h,?_⟩;show⟨4.,_,_,4.,T2.trans<|Kr.set hz,(au k0),(au k1),(au k2),(au k3),(au k4)⟩
  ·show gI (L:=L)<|dW ?_;show aP (bY W) ⟨4.,?_⟩;show aa<|ag (cG W) (cp W)<|bo 4. (au k0)<|bM (cP W)<|ab<|CL.of (j:=k+1) (iz W (t:=1) 1. C.ts C.TO h1 ?_) 3.;show ab<|itE (xs:=rows1) (.inl ⟨_,4.,by rw[mi (t:=1) 1.,ba h1];rfl,4.⟩)<|x8 (Dg b gr q xs x0 x2 key1) ?_ ?_ ?_ ?_
   ·rintro i c ρ g' R' ⟨rfl,O⟩;rw[mi (t:=1) 1.,ba h1];rfl
   ·show⟨4.,T2,⟨[],ak ..,SeenOk.nil⟩,(au k0),(au k1),(au k2),(au k3),(au k4),ad⟩
   ·rintro i c ρ g' R' hi ⟨rfl,T,⟨es,he,H⟩,k0,k1,k2,k3,k4,k9⟩;show hid λX hX=>?_;obtain⟨f,j1,j2,rest,y1,y2,hrl,hrow,hy1,hy2,hkey⟩:=K1.row i hi;show hX ?_;have hko:c8 (key1 i)=true:=by rw[hkey];rfl
    have hno:=K1.no hi H hko;have hln:=H.len;rw[Ka,List.length_range]at hln;show tK (gD hrow) ?_;show aM<|dT _ 4.<|dT _ 4.<|cB<|bx<|aI<|aa<|aN 4. ad (i:=0) 1. 1. 4. ?_;show aa<|ag (dA W) (cW W)<|bo 4. (au<|au k1)<|aa<|aN 4. ad (i:=2) 1. 1. 4.<|ab<|CL.of (j:=k+2) (cY W htz hy2 ?_) 3.;show aa<|ag (dA W) (cW W)<|bo 4. (au<|au k1)<|aa<|aN 4. ad (i:=1) 1. 1. 4.<|ab<|CL.of (j:=k+2) (cY W htz hy1 ?_) 3.;show ab<|ce ?_;have hkey':MV.tup [.int f,.str y2,.str y1]=key1 i:=hkey.symm;rw[hkey'];show asg _ 4. 4.<|dE<|ae<|af 4. ad<|af 4. (au<|au<|au k9)<|rj (.inl he) (H.kok hko) H.nd<|aK<|bk hno ?_;show aZ<|aA<|af 4. (au<|au<|au k9)<|af 4. ad<|dz he (H.kok hko) H.nd 3.<|stc bv<|Km.next<|aT ?_;show lc (c.set (.inl x2)<|.d<|mT es (key1 i)<|.int 1) ⟨λO O h=>h,4.,4.⟩ ⟨4.,T.turn hx2',⟨_,ak ..,by rw[List.range_succ,Ki];show H.put _ hko⟩,(au<|au<|au k0),(au<|au<|au k1),(au<|au<|au k2),(au<|au<|au k3),(au<|au<|au k4),au<|au<|au k9⟩
   rintro c ρ g' ⟨rfl,T,O,k0,k1,k2,k3,k4,O⟩;show⟨4.,{c with raw:=b.raw},ρ,4.,⟨T.m,T.fr,4.⟩,k0,k1,k2,k3,k4⟩
 rintro st' ⟨c,ρ,rfl,T,k0,k1,k2,k3,k4⟩;show aH<|aW<|ag (dL W) (dp W)<|bo 4. k0<|bo 4. k1<|bo 4. k2<|bo 4. k3<|aa ?_;show aI<|bM (cO W)<|bp<|bM (cm W)<|ab<|ce<|bp<|bp ?_;show ab<|CL.of (j:=k+4) (yW W C HR4 hn4 KY htz hbz hq hxz ?_) 3.;show aH<|aW<|ag (dL W) (dp W)<|bo 4. k0<|bo 4. k1<|bo 4. k2<|bo 4. k3<|aa ?_;show aI<|bM (cO W)<|bp<|bM (nC W)<|ab<|ce<|bp<|bp ?_;show ab<|CL.of (j:=k+4) (yX W C ?_) 3.;show aH<|aW<|ag (dL W) (dp W)<|bo 4. k0<|bo 4. k1<|bo 4. k2<|bo 4. k3<|aa ?_;show aI<|bM (kX W)<|bp<|bM (pw W)<|ab<|ce<|bp<|bp ?_;show ab<|CL.of (j:=k+4) (yY W C ?_) 3.;show aH<|aW<|ag (dL W) (dp W)<|bo 4. k0<|bo 4. k1<|bo 4. k2<|bo 4. k3<|aa ?_;show aI<|bM (pv W)<|bp<|bM (vy W)<|ab<|ce<|bp<|aa ?_;show bT<|aA<|gc<|ab<|CL.of (j:=k+4) (yZ W C ?_) 3.;show Km.next<|aT<|fin ⟨λx v e=>T.m x v<|(Kr.set hx0).m x v e,T.fr,T.raw⟩ h
end
theorem Kr.keepOne{c:Kk}{x:Addr}(T:Kr b c)(h:c.m (.inl x)=some v):Kr (b.set (.inl x) v) c:=
 ⟨λy w e=>by
  by_cases q:(Sum.inl y:Nm)=.inl x
  ·cases q;rw[show(b.set (.inl x) v).m (.inl x)=some v from ak ..]at e;rw[h,e]
  ·show T.m y w<|(bO _ _ q).symm.trans e,T.fr,T.raw⟩
def H6(Q:MV->Kk->Prop)(mf:MF)(st':Kk):Prop:= ∃(b':Kk) (L:Addr) (ρ:List (String×MV)) (g':G) (b'':Kk),st'=S (b'.push L ρ) g'/\Kr b'' b'/\Q mf.val (S b'' g')
theorem A0(b'':Kk)(T:Kr b'' b')(h:Q mf.val<|S b'' g):H6 Q mf<|S (b'.push L ρ) g:=⟨b',L,ρ,g,b'',4.,T,h⟩
theorem H7{fd:FuncData}(F:FnAt D.K f fd body names)(hl:ms.length=names.length)
 (h: ∀L,WF D k (S (b.push L<|names.zip ms) g) (execs body<|callEnv fd L f) (H6 Q)):CD D (k+1) (S b g) (.ref<|.inl f) ms Q:=by
 show ed F hl λL=>WP.mono (h L) ?_;rintro mf st' ⟨b',L',ρ,g',b'',rfl,t,q⟩;show⟨S b'' g',t.less g',q⟩
abbrev dD:=Nat×Str×Nat×Nat
noncomputable def fw(x:dD):MV:=.tup [.int x.1,.str x.2.1,.int x.2.2.1,.int x.2.2.2]
noncomputable def y5:Nat->Str|0=>Str.ofString "f"|1=>Str.ofString "g"|2=>Str.ofString "f"|3=>Str.ofString "g"|4=>Str.ofString "h"|_=>Str.ofString ""
noncomputable def flg0:Nat->Nat|0=>0|1=>1|2=>2|_=>5
def flg(v:Int):Nat:=if(v/6%4).toNat=3/\flg0 (v/24%4).toNat=5 then 1 else flg0 (v/24%4).toNat
def vU(count:Nat)(v:Int):dD:=((v%count).toNat,y5 (v/96%6).toNat,(v/6%4).toNat,flg v)
noncomputable def vals(ss:List Int):List Int:=if 4<ss.length then(ss.drop 4).take 10 else [72,5,0,47]
theorem uH(ss:List Int):(vals ss).length<=10:=by
 unfold vals;split
 ·rw[List.length_take];show Nat.min_le_left _ _
 ·decide
def drawn(ss:List Int)(count:Nat):List dD:=(vals ss).map<|vU count
theorem Dh(j:Nat)(h:j<4):([.int 0,.int 1,.int 2,.int 5]:List MV)[j]? =some (.int (flg0 j:Nat)):=
 allB.at (n:=4) (P:=λj=>([.int 0,.int 1,.int 2,.int 5]:List MV)[j]? =some (.int (flg0 j:Nat))) ⟨⟨⟨⟨trivial,4.⟩,4.⟩,4.⟩,4.⟩ h
theorem Di(j:Nat)(h:j<6):([.str<|-"f",.str<|-"g",.str<|-"f",.str<|-"g",.str<|-"h",.str<|-""]:List MV)[j]? =some (.str<|y5 j):=
 allB.at (n:=6) (P:=λj=>([.str<|-"f",.str<|-"g",.str<|-"f",.str<|-"g",.str<|-"h",.str<|-""]:List MV)[j]? =some (.str<|y5 j)) ⟨⟨⟨⟨⟨⟨trivial,4.⟩,4.⟩,4.⟩,4.⟩,4.⟩,4.⟩ h
theorem Dj(n:Nat):(max (0:Int)<|min 14 (n:Int)).toNat=min n 14:=by
 rcases Nat.le_total n 14 with h|h
 ·rw[Int.min_eq_right (show(n:Int)<=14 from Int.ofNat_le.mpr h),Int.max_eq_right<|Int.natCast_nonneg n,Nat.min_eq_left h];rfl
 ·rw[Int.min_eq_left (show(14:Int)<=n from Int.ofNat_le.mpr h),Nat.min_eq_right h];rfl
theorem vV(h:4<ss.length):ou (ss.map MV.int) (some 4) (some 14)=(vals ss).map MV.int:=by
 have e1:clipAt ss.length 4=4:=by unfold clipAt;rw[if_neg 1.,Int.min_eq_left (show(4:Int)<=ss.length from Int.ofNat_le.mpr<|Nat.le_of_lt h)];rfl
 have e2:clipAt ss.length 14=min ss.length 14:=by unfold clipAt;rw[if_neg 1.];show Dj _
 unfold ou vals;rw[if_pos h,List.map_take,List.map_drop];simp only[Option.elim,Ka];rw[e1,e2,List.take_eq_take_iff];rw[List.length_drop,Ka];rcases Nat.le_total ss.length 14 with h|h
 ·rw[Nat.min_eq_left h,Nat.min_self,Nat.min_eq_right<|Nat.sub_le_sub_right h 4]
 ·rw[Nat.min_eq_right h]
section
abbrev Dk(b:Kk)(x:Addr)(y:Addr)(count:Nat)(g:G)(ss:List Int)(i:Nat)(c:Kk)(ρ:List<|String×MV)(g':G):Prop:=And6 (g'=g) (Kr b c) (c.m (.inl y)=some (.l<|(vals ss).map .int)) (c.m (.inl x)=some (.l<|((vals ss).take i).map λv=>fw<|vU count v)) (lk "out" ρ=some (.ref<|.inl x))<|lk "count" ρ=some (.int count)
abbrev Dl(L:Addr)(x:Addr)(count:Nat)(v:Int)(c:Kk)(g':G)(R':List<|Addr×Obj)(st':Kk):Prop:= ∃ρ',And6 (st'=S (({c with raw:=R'}:Kk).push L ρ') g') (lk "out" ρ'=some (.ref<|.inl x)) (lk "count" ρ'=some (.int count)) (lk "v" ρ'=some (.int v)) (lk "kind" ρ'=some (.int<|v/6%4)) (lk "flags" ρ'=some (.int (flg v:Nat)))
theorem su(W:Lw D){count:Nat}(hs: ∀st,LAt D st (.inl a0) (ss.map .int))(hz:ss.length<=100)(hc0:0<count)(hc:count<100)(h: ∀x,b.m (.inl x)=none->Q (.ref<|.inl x) (S (b.set (.inl x)<|.l<|(drawn ss count).map fw) g)):CD D (k+1) (S b g) (.ref<|.inl 905) [.ref<|.inl a0,.int count] Q:=by
 show H7 (W.K▸pn _) 4. λL=>(bx<|bZ<|f9 λx hx=>(stc bv ?_));have hx:b.m (.inl x)=none:=hx;show dC [("script",_),("count",_),("out",_)] 4. 4. ?_;have vl:=uH ss;show ao<|gI (L:=L)<|cb<|WP.mono (Q:=λm st'=> ∃y,And3 (m=.ref (.inl y)) ((b.set (.inl x)<|.l []).m (.inl y)=none) (st'=S (((b.set (.inl x)<|.l []).set (.inl y)<|.l<|(vals ss).map .int).push L [("script",.ref (.inl a0)),("count",.int count),("out",.ref (.inl x))]) g)) ?_ ?_
 ·show jr<|ae<|ag (bX W) trivial<|aG 4. 4.<|ig (hs _) (by rw[Ka];omega)<|aA<|lD<|aK ?_;rw[Ka];by_cases h4:4<ss.length
  ·show cf (by simp;omega)<|gQ<|af 4. 4. ?_;change WV _ _ _ _ _;show aA ⟨_,4.,?_⟩;change WV _ _ _ _ _;show aA ⟨_,4.,?_⟩;show ut (hs _) (by rw[Ka];omega)<|f9 λy hy=>?_;rw[bv,vV h4];show⟨y,4.,hy,4.⟩
  ·show ck (by simp;omega)<|dS<|bp<|bp<|bp<|bp<|ab<|ce ?_;show f9 λy hy=>?_;rw[bv];show⟨y,4.,hy,?_⟩;unfold vals;rw[if_neg h4];rfl
 rintro O O ⟨y,rfl,hy,rfl⟩;have hxy:((b.set (.inl x)<|.l []).set (.inl y)<|.l<|(vals ss).map .int).m (.inl x)=some (.l []):=(Kr.set hy).m _ _<|ak ..;have T0:Kr b<|(b.set (.inl x)<|.l []).set (.inl y)<|.l<|(vals ss).map .int:=(Kr.set hx).trans<|Kr.set hy;show itv (n:=(vals ss).length) (by rw[<-Ka (f:=MV.int)];show dU<|ak ..)<|x8 (Dk b x y count g ss) ?_ ⟨4.,T0,ak ..,hxy,4.,4.⟩ ?_ ?_
 ·rintro i c ρ g' R' ⟨rfl,O,hy',O⟩;show hy'
 ·rintro i c ρ g' R' hi ⟨rfl,T,hy',hx',k1,k2⟩;obtain⟨v,hv⟩: ∃v,(vals ss)[i]? =some v:=⟨_,J6 hi⟩;have hvd:((vals ss).map MV.int).getD i .none=.int v:=GE hv;show Cx hvd ?_;show cJ _ 4. ?_;have a1:(0:Int)<=v/24%4/\v/24%4<4:=by show wg
  have a2:(0:Int)<=v/96%6/\v/96%6<6:=by omega
  have a3:(0:Int)<=v/6%4/\v/6%4<4:=by show wg
  have a4:(0:Int)<=v%count/\v%count<count:=⟨Int.emod_nonneg _ (by show Aj ‹_›),Int.emod_lt_of_pos _ (by show qJ ‹_›)⟩;show bx<|aC<|aC<|af 4. ad<|aA<|oo 3. 3.<|aA<|ju 1. ?_;show dC _ 4. 4.<|bx<|aX<|aI<|bp<|bp<|bp<|bp ?_;show ab<|ce<|aC<|aC<|af 4. (au ad)<|aA<|oo 3. 3.<|aA ?_;show ju 1.<|cL a1.1 3. (Dh _ (by show zz ‹_›))<|gf _ 4. 4.<|vR (Dl L x count v c g' R') ?_ ?_
  ·show bW<|aF<|aU<|ae<|af 4. (au ad)<|aA<|cA ?_;have fin: ∀{e:(flg v:Nat)=flg0 (v/24%4).toNat},∃ρ',And6 (S (({c with raw:=R'}:Kk).push L<|pt "flags" (.int (flg0 (v/24%4).toNat:Nat))<|pt "kind" (.int<|v/6%4)<|pt "v" (.int v) ρ) g'=S (({c with raw:=R'}:Kk).push L ρ') g') (lk "out" ρ'=some (.ref<|.inl x)) (lk "count" ρ'=some (.int count)) (lk "v" ρ'=some (.int v)) (lk "kind" ρ'=some (.int<|v/6%4)) (lk "flags" ρ'=some (.int (flg v:Nat))):=λ{e}=>
    ⟨_,4.,au<|au<|au k1,au<|au<|au k2,au<|au ad,au ad,by rw[e];show ad⟩
   by_cases h3:v/6%4=3
   ·show cf (by simpa using h3)<|aU<|ae<|af 4. ad<|aA<|cA ?_;by_cases h5:flg0 (v/24%4).toNat=5
    ·show cf (by simp[h5])<|fb<|cf 4.<|bx<|aA<|dC _ 4. 4.<|aT ⟨4.,_,4.,au<|au<|au<|au k1,au<|au<|au<|au k2,au<|au<|au ad,au<|au ad,?_⟩;rw[ad];unfold flg;rw[if_pos ⟨by omega,h5⟩];rfl
    ·show ck (by simp;omega)<|ck 4.<|aT ⟨4.,fin (e:=by unfold flg;rw[if_neg<|λq=>h5 q.2])⟩
   ·show ck (by simpa using h3)<|ck 4.<|aT ⟨4.,fin (e:=by unfold flg;rw[if_neg<|λq=>h3 3.])⟩
  rintro st' ⟨ρ',rfl,k1,k2,k3,k4,k5⟩;show aH<|aW<|aq<|af 4. k1<|bU hx' Kf Ke<|az trivial<|aa<|aI ?_;show aa<|aC<|af 4. k3<|af 4. k2<|ju (by show qJ ‹_›)<|aa<|aX<|aI ?_;show aa<|du<|aa<|du<|aa<|du<|aa<|du ?_;show aa<|du<|aa<|du<|ab<|ce<|aC<|aC ?_;show af 4. k3<|aA<|oo 3. 3.<|aA<|ju 1.<|cL a2.1 3. (Di _ (by show BJ ‹_›))<|bo 4. k4<|aG 4. k5 ?_;show ce<|ab<|bf hx' (by simp;show G2 ‹_›)<|stc bv<|Km.next<|aT ?_;have hxy':(Sum.inl y:Nm)≠.inl x:=λe=>by cases e;rw[show(b.set (.inl x)<|.l []).m (.inl x)=some (.l [])from ak ..]at hy;cases hy
  show⟨c.set (.inl x)<|.l<|((vals ss).take<|i+1).map λv=>fw<|vU count v,_,_,_,?_,⟨λO O h=>h,4.,4.⟩,4.,T.turn hx,(bO _ _ hxy').trans hy',ak ..,k1,k2⟩;rw[List.take_add_one,hv,Ki];have er:fw (vU count v)=.tup [.int<|v%count,.str<|y5 (v/96%6).toNat,.int<|v/6%4,.int (flg v:Nat)]:=by
   unfold fw vU;simp only[Int.toNat_of_nonneg a4.1,Int.toNat_of_nonneg a3.1]
  rw[<-er];rfl
 rintro c ρ g' ⟨rfl,T,O,hx',k1,k2⟩;show aH<|aw<|af 4. k1<|Km.ret ?_;rw[List.take_length]at hx';show⟨_,_,_,_,b.set (.inl x)<|.l<|(drawn ss count).map fw,4.,?_,h x hx⟩;unfold drawn;rw[List.map_map];show Kr.keepOne (⟨T.m,T.fr,4.⟩:Kr b {c with raw:=b.raw}) hx'
end
variable{DD rows:List dD}
section
variable{n:Nm}
theorem Rel.fresh{hb:Heap}{P:Params}{s:Shared}(R:Rel hb o₀ P I st s)(j:Nat):st.m (.inl<|s.heap.objs.size+j)=none:=by
 obtain⟨ow,R'⟩:=R.own;show R'.inl_none ?_;cases q:ow (s.heap.objs.size+j)with
 |none=>rfl
 |some o=>obtain⟨O,x,hx⟩:=R'.free _ _ q;show absurd (Heap.lt_size hx)<|Nat.not_lt.mpr<|Nat.le_add_right _ _
theorem xw{cs:List<|Addr×Option MV}:((S b g).push L ρ).cells cs=S ((b.cells cs).push L ρ) g:=by
 change(S (b.push L ρ) g).cells cs=_;induction cs generalizing b with
 |nil=>rfl
 |cons p r ih=>
  change((S (b.push L ρ) g).set (.inl p.1)<|.c p.2).cells r=_;rw[bv];show ih (b:=b.set (.inl p.1)<|.c p.2)
theorem H8{fd:FuncData}{cs:List<|String×Nat×Option MV}(F:FnC D.K f fd body names)(hl:ms.length=names.length)
 (hρ: ∀(I:Imm) (L:Addr) (vs:List Value),VRs I ms vs->SayS I (bindL (callEnvC fd L f).kindOf ((names.map Str.ofString).zip vs) λO=>none) ρ)
 (hcs: ∀(I:Imm) (L:Addr) (vs:List Value),VRs I ms vs-> ∀p∈cs,(callEnvC fd L f).cells.lookup (Str.ofString p.1)=some (L+1+p.2.1)/\OVR I p.2.2 (bindC (callEnvC fd L f).kindOf ((names.map Str.ofString).zip vs) (λO=>none)<|Str.ofString p.1))
 (hd:cs.Pairwise λp q=>p.2.1≠q.2.1)
 (h: ∀L,(∀j,b.m (.inl<|L+1+j)=none)->WF D k (S ((b.cells<|cs.map λp=>(L+1+p.2.1,p.2.2)).push L ρ) g) (execs body<|callEnvC fd L f) (H6 Q)):CD D (k+1) (S b g) (.ref<|.inl f) ms Q:=by
 show CD.lessen ?_;intro A I s fv vs hA R V1 V2;cases V1 with
 |ref ha=>
 cases ha;obtain⟨oc,od,osl,ho⟩:=F.obj;have X:=Ko.inK R;have hlen:vs.length=names.length:=V2.length.trans hl;show codeAny_call_cells (binds:=(names.map Str.ofString).zip vs) (by have:=hA.2.1;change A.depth<1000;show ul ‹_›) (X _ _ ho) 4. (D.lim.keeps<|Ko.hk R) (codeRec_of X F.code) F.isBody (F.binds vs hlen) F.clo ?_ ?_ F.co F.gen F.kind
 ·intro y hy;obtain⟨x,hx,e⟩:=List.mem_map.mp (List.of_mem_zip (a:=y.1) (b:=y.2) hy).1;rw[<-e];show F.kinds _ x hx
 ·intro s1 C;obtain⟨h',tk,rfl,hk⟩:=C.done;have R1:Ko D I (((S b g).push s.heap.objs.size ρ).cells<|cs.map λp=>(s.heap.objs.size+1+p.2.1,p.2.2)) {s with heap:=h',toks:=tk}:=by
   show R.newFC hk ⟨_,C.toInCall.ns,hρ I s.heap.objs.size vs V2⟩ ?_ ?_
   ·intro p hp;obtain⟨q,hq,rfl⟩:=List.mem_map.mp hp;obtain⟨h1,h2⟩:=hcs I s.heap.objs.size vs V2 q hq;obtain⟨o,ho,hd⟩:=C.cell _ _ h1;show⟨by change s.heap.objs.size<s.heap.objs.size+1+q.2.1;omega,o,_,ho,hd,h2⟩
   ·rw[List.pairwise_map];show hd.imp λh e=>h (by simpa using e)
  rw[xw]at R1;show wpAny_mono (h _ (λj=>by have:=R.fresh<|1+j;rw[<-Nat.add_assoc]at this;show this) _ I _ ?_ R1) ?_ λO O x=>x.elim
  ·obtain⟨a,b,c⟩:=hA;show⟨a,?_,?_⟩
   ·change A.depth+1+_+_<=_;show og ‹_›
   ·change A.units+3+_+_<=_;show uk ‹_›
  ·rintro fl s' ⟨I',mf,st',e,R',V,b',L',ρ',g',b'',rfl,t,q⟩;have z: ∃st'':Kk,Kq st'' (S (b'.push L' ρ') g').pop/\Q mf.val st'':=⟨S b'' g',t.less g',q⟩;cases V with
   |ret V=>show⟨I',_,_,e,R'.pop,V,z⟩
   |_=>show⟨I',.none,_,e,R'.pop,.none,z⟩
theorem Dm{fd:FuncData}{cs:List<|String×Nat×Option MV}(F:FnC D.K f fd body names)(hl:ms.length=names.length)
 (hρ: ∀(I:Imm) (L:Addr) (vs:List Value),VRs I ms vs->SayS I (bindL (callEnvC fd L f).kindOf ((names.map Str.ofString).zip vs) λO=>none) ρ)
 (hcs: ∀(I:Imm) (L:Addr) (vs:List Value),VRs I ms vs-> ∀p∈cs,(callEnvC fd L f).cells.lookup (Str.ofString p.1)=some (L+1+p.2.1)/\OVR I p.2.2 (bindC (callEnvC fd L f).kindOf ((names.map Str.ofString).zip vs) (λO=>none)<|Str.ofString p.1))
 (hd:cs.Pairwise λp q=>p.2.1≠q.2.1)
 (h: ∀L,(∀j,b.m (.inl<|L+1+j)=none)->WFc D k (S ((b.cells<|cs.map λp=>(L+1+p.2.1,p.2.2)).push L ρ) g) (execs body<|callEnvC fd L f) λmf st'=>Q mf.val st'.pop):CDc D (k+1) (S b g) (.ref<|.inl f) ms Q:=by
 intro A I s fv vs hA R V1 V2;cases V1 with
 |ref ha=>
 cases ha;obtain⟨oc,od,osl,ho⟩:=F.obj;have X:=Ko.inK R;have hlen:vs.length=names.length:=V2.length.trans hl;show Kp.callCells (binds:=(names.map Str.ofString).zip vs) (by have:=hA.2.1;change A.depth<1000;show ul ‹_›) (X _ _ ho) 4. (D.lim.keeps<|Ko.hk R) (codeRec_of X F.code) F.isBody (F.binds vs hlen) F.clo ?_ ?_ F.co F.gen F.kind
 ·intro y hy;obtain⟨x,hx,e⟩:=List.mem_map.mp (List.of_mem_zip (a:=y.1) (b:=y.2) hy).1;rw[<-e];show F.kinds _ x hx
 ·intro s1 C;obtain⟨h',tk,rfl,hk⟩:=C.done;have R1:Ko D I (((S b g).push s.heap.objs.size ρ).cells<|cs.map λp=>(s.heap.objs.size+1+p.2.1,p.2.2)) {s with heap:=h',toks:=tk}:=by
   show R.newFC hk ⟨_,C.toInCall.ns,hρ I s.heap.objs.size vs V2⟩ ?_ ?_
   ·intro p hp;obtain⟨q,hq,rfl⟩:=List.mem_map.mp hp;obtain⟨h1,h2⟩:=hcs I s.heap.objs.size vs V2 q hq;obtain⟨o,ho,hd⟩:=C.cell _ _ h1;show⟨by change s.heap.objs.size<s.heap.objs.size+1+q.2.1;omega,o,_,ho,hd,h2⟩
   ·rw[List.pairwise_map];show hd.imp λh e=>h (by simpa using e)
  rw[xw]at R1;show wpC.mono (h _ (λj=>by have:=R.fresh<|1+j;rw[<-Nat.add_assoc]at this;show this) _ I _ ?_ R1) ?_
  ·obtain⟨a,b,c⟩:=hA;show⟨a,?_,?_⟩
   ·change A.depth+1+_+_<=_;show og ‹_›
   ·change A.units+3+_+_<=_;show uk ‹_›
  ·rintro fl s' ⟨I',mf,st',e,R',V,q⟩;cases V with
   |ret V=>show⟨I',_,_,e,R'.pop,V,q⟩
   |_=>show⟨I',.none,_,e,R'.pop,.none,q⟩
theorem VRs.intsAre{is:List Int}: ∀{vs:List Value},VRs I (is.map .int) vs->IntsAre vs is:=by
 induction is with
 |nil=>intro vs V;cases V;show .nil
 |cons i r ih=>intro vs V;cases V with|cons V1 V2=>cases V1;show .cons _ _<|ih V2
theorem IntsAre.vrs{is:List Int}(h:IntsAre vs is):VRs I (is.map .int) vs:=by
 induction h with
 |nil=>show .nil
 |cons i t _ ih=>show .cons (.int i t) ih
theorem mG(h:Heap)(vs:List Value)(out:Array Value): ∃o,(sortedAll h vs out).get? h.objs.size=some o:=by
 unfold sortedAll;rw[sortedHeap_old (b:=h.objs.size) (Nat.ne_of_lt<|Nat.lt_succ_self _) (by rw[size_push',Heap.size_update,size_push'];show Nat.lt_succ_of_lt<|Nat.lt_succ_self _),Heap.get?_push_ne _ _ _ (by rw[Heap.size_update,size_push'];show Nat.ne_of_lt<|Nat.lt_succ_self _)];show⟨_,get?_update_seq (Heap.get?_push_size _ 4.) _⟩
theorem y6{is:List Int}(hd:st.m n=some (.l<|is.map .int))(hz:is.length<64)(h: ∀is':List Int,is'.Perm is->is'.Pairwise (· <= ·)-> ∀a,st.m (.inl a)=none->Q (.ref<|.inl a) (st.set (.inl a)<|.l<|is'.map .int)):CL D k st (.blt "sorted") [.ref n] Q:=λA I s fv vs hA R V1 V2=>by
 cases V1;cases V2 with
 |cons W1 V=>
 cases V;cases W1 with
 |ref ha=>
 obtain⟨us,c,hg,V⟩:=R.fl hd ha;have hl:=V.length;simp at hl;show sorted_ints (vs:=us.toList) ⟨_,hg,4.,c,by simp⟩ V.intsAre (by simp;omega) λout ns' a1 a2 a3=>?_;obtain⟨e,he⟩:=sortedAll_at s.heap us.toList out;obtain⟨o,ho⟩:=mG s.heap us.toList out;have R1:Ko D I st {s with heap:=s.heap.push o,toks:=s.toks}:=R.grown λb o q=>Kg _ q;have hz1:(s.heap.push o).objs.size=s.heap.objs.size+1:=Heap.size_push _ _;have e1: ∀b o',(s.heap.push o).get? b=some o'->(sortedAll s.heap us.toList out).get? b=some o':=λb o' q=>by
  have hb:=Heap.lt_size q;rw[hz1]at hb;by_cases hbs:b=s.heap.objs.size
  ·subst hbs;rw[Heap.get?_push_size _ (Heap.get?_some_iff.mp ho).2]at q;rw[ho,q]
  ·rw[Heap.get?_push_ne _ _ _ hbs]at q;show sortedAll_old q
 obtain⟨J,S,hn,R2⟩:=R1.new (h':=sortedAll s.heap us.toList out) (t:=s.toks) (n:=.inl<|s.heap.objs.size+1) (x:=.l<|ns'.map .int) (.inl (by rw[hz1])) e1 (by change _=some _;rw[hz1];show he) λow J S O=>⟨out,e,by rw[hz1];show he,(IntsAre.vrs a1).mono S⟩;rw[hz1]at hn;show⟨J,.ref<|.inl<|s.heap.objs.size+1,_,S,R2,.ref hn,h ns' a2 a3 _<|R.fresh 1⟩
end
theorem z2{K:Frag}{o:Obj}(h1:K.lookup f=some o)(h2:o.data=.func (bc o))(h3:codeIn K (bc o).code (bc o).qualname=true)(h4:(bc o).body=.stmts (aO<|bc o))
 (h5: ∀vs:List Value,vs.length=names.length->bindArgs (bc o) ⟨vs,[]⟩=pure ((names.map Str.ofString).zip vs))(h6:(bc o).closure=[])
 (h7: ∀n:Nat,∀x∈names,(bc o).scope.names.lookup (Str.ofString x)=some .local\/((bc o).scope.names.lookup (Str.ofString x)=some .cell/\((cellsFrom n (bc o).scope.names []).lookup<|Str.ofString x).isSome=true))
 (h9:((bc o).scope.isCoroutine,(bc o).scope.isGenerator,(bc o).scope.kind)=(false,false,.function)):FnC K f (bc o) (aO<|bc o) names where
 obj:=by
  obtain⟨a,b,c,d⟩:=o;dsimp only at h2;show⟨a,b,d,by rw[h1];rw[<-h2]⟩
 code:=h3
 isBody:=h4
 binds:=h5
 clo:=h6
 kinds:=h7
 co:=by injection h9
 gen:=by injection h9 with _ h;injection h
 kind:=by injection h9 with _ h;injection h
theorem qu(P:Params):FnC (KK P) 910 (bc Kl.o_980) (aO<|bc Kl.o_980) ["ts","fields","turn"]:=
 z2 (o:=Kl.o_980) 2. 2. 2. 2. (Cur.all 3 _ λa b c=>by change _=_;kernel_rfl) 2. (λn x hx=>by
  simp only[List.mem_cons,List.not_mem_nil,or_false]at hx;rcases hx with rfl|rfl|rfl
  ·show .inl 2.
  ·show .inr ⟨by kernel_rfl,by kernel_rfl⟩
  ·show .inl 2.) 2.
theorem Dn(P:Params):FnC (KK P) 915 (bc Kl.o_985) (aO<|bc Kl.o_985) ["script"]:=
 z2 (o:=Kl.o_985) 2. 2. 2. 2. (Cur.all 1 _ λa=>by change _=_;kernel_rfl) 2. (λn x hx=>by
  simp only[List.mem_cons,List.not_mem_nil,or_false]at hx;subst hx;show .inr ⟨by kernel_rfl,by kernel_rfl⟩) 2.
section
def CompS(D:Wd)(k:Nat)(env:Env)(scope:Scope)(cl:List<|Str×Addr)(ifs:List Expr)(elt:Expr)(x:String)(Q:Addr->Kk->Prop)(base:Kk)(src:Kk->Prop)(n:Nat)(item:Nat->MV):Prop:=
 ∃(b':Kk) (L:Addr) (ρ:List (String×MV)) (g':G) (p:Nat->Bool) (F:Nat->MV),base=S (b'.push L ρ) g'/\n<=1000/\(∀st st',src st->(∀n y,st.m n=some y->st'.m n=some y)->src st')/\src base/\
  ll D k env scope cl base ifs elt x n item p F/\ ∀a,b'.m (.inl a)=none->Q a (S ((b'.set (.inl a)<|.l<|bj p F n).push L ρ) g')
theorem vW{cl:List<|Str×Addr}{Q:Addr->Kk->Prop}(p:Nat->Bool)(F:Nat->MV)
 (hn:n<=1000)(hm: ∀st st',src st->(∀n y,st.m n=some y->st'.m n=some y)->src st')(hs:src<|S (b.push L ρ) g)(ht:ll D k env scope cl (S (b.push L ρ) g) ifs elt x n item p F)
 (h: ∀a,b.m (.inl a)=none->Q a (S ((b.set (.inl a)<|.l<|bj p F n).push L ρ) g)):CompS D k env scope cl ifs elt x Q (S (b.push L ρ) g) src n item:=⟨b,L,ρ,g,p,F,4.,hn,hm,hs,ht,h⟩
theorem CompS.pre{cl:List<|Str×Addr}{Q:Nm->Kk->Prop}
 (h:IT D k env st iter (.Name (Str.ofString x) px)<|CompS D k env scope cl ifs elt x λa=>Q<|.inl a):sQ D k env st elt iter x px ifs scope cl Q:=by
 show IT.mono h ?_;rintro base src n item ⟨b',L,ρ,g',p,F,rfl,h1,h2,h3,h4,h5⟩;show⟨h1,h2,h3,p,F,h4,?_⟩;show f9 λa ha=>(stc bv<|h5 a ha)
theorem xx{cl:List<|Str×Addr}
 (h:IT D k env st iter (.Name (Str.ofString x) px)<|CompS D k env scope cl ifs elt x λa=>Q<|.ref<|.inl a)
 (hclos:closureFor scope env=pure cl)(hkind:scope.kind=.function:=by rfl)(hcell: ∀y∈scope.names,y.2≠.cell:=by decide)(hx:scope.names.lookup (Str.ofString x)=some .local:=by kernel_rfl)
 (hnames: ∀x∈scope.names,x.2=.local->scope.names.lookup x.1=some .local:=by decide)
 (hs: ∀x,foldedSetIterable iter env x=pure x:=by intro O;rfl):WV D k st (eval (.ListComp elt [⟨.Name (Str.ofString x) px,iter,ifs,0⟩] scope pos) env) Q:=
 B5 (CompS.pre (Q:=λa=>Q<|.ref a) h) hclos hkind hcell hx hnames hs
theorem qv{py spos:Pos}{cl:List<|Str×Addr}{Q:MF->Kk->Prop}
 (h:IT D k env st iter (.Name (Str.ofString x) px)<|CompS D k env scope cl ifs elt x λa=>Asg env y (Q .next)<|.ref<|.inl a)
 (hclos:closureFor scope env=pure cl)(hkind:scope.kind=.function:=by rfl)(hcell: ∀y∈scope.names,y.2≠.cell:=by decide)(hx:scope.names.lookup (Str.ofString x)=some .local:=by kernel_rfl)
 (hnames: ∀x∈scope.names,x.2=.local->scope.names.lookup x.1=some .local:=by decide)
 (hl:env.kindOf (Str.ofString y)=some .local:=by kernel_rfl)(hp:(env.scope.kind==.class||(env.scope.kind==.module&&env.locals !=env.globals))=false:=by rfl)
 (hsw:swapsWith (.ListComp elt [⟨.Name (Str.ofString x) px,iter,ifs,0⟩] scope pos) (some<|.Name (Str.ofString y) py) spos.line env=pure true:=by rfl)
 (hs: ∀x,foldedSetIterable iter env x=pure x:=by intro O;rfl):
 WF D k st (exec (.Assign [.Name (Str.ofString y) py] (.ListComp elt [⟨.Name (Str.ofString x) px,iter,ifs,0⟩] scope pos) spos) env) Q:=by
 show ra (CompS.pre<|IT.mono h ?_) hclos hkind hcell hx hnames hl hp hsw hs;rintro base src n item ⟨b',L,ρ,g',p,F,rfl,h1,h2,h3,h4,h5⟩;show⟨b',L,ρ,g',p,F,4.,h1,h2,h3,h4,λa ha=>?_⟩;obtain⟨b'',L',ρ',g'',ρ2,e,rfl,rfl,q⟩:=h5 a ha;rw[e];show⟨ρ',b''.fr,4.,q⟩
theorem A1(ds:List PyData):PyData.eqv (.list ds) (.list [])=ds.isEmpty:=by cases ds<;>simp[PyData.eqv,PyData.eqvAll]
end
theorem uI{m:Str->Option Value}:SayS I m []:=λx mv h=>by cases h
theorem sv{m:Str->Option Value}{mv:MV}{v:Value}{r:List<|String×MV}(h1:m (Str.ofString x)=some v)(h2:VR I mv v)(h:SayS I m r):SayS I m<|(x,mv)::r:=λy w e=>by
 rw[gi]at e;by_cases q:y=x
 ·rw[if_pos q]at e;cases e;subst q;show⟨v,h1,h2⟩
 ·rw[if_neg q]at e;show h y w e
def d0:dD:=(0,mt,0,0)
def eH(ds:List dD)(i:Nat):Bool:=((ds.getD i d0).2.2.2:Int)==5
def uJ(ds:List dD)(i:Nat):Bool:=((ds.getD i d0).2.2.2:Int)!=5
def bJ(ds:List dD):List Nat:=((List.range ds.length).filter<|eH ds).map (· +1)
def restOf(ds:List dD):List Nat:=((List.range ds.length).filter<|uJ ds).map (· +1)
theorem sw(p:Nat->Bool)(n:Nat):bj p (λi=>.int<|0+(i:Int)+1) n=(((List.range n).filter p).map (· +1)).map λn:Nat=>MV.int n:=by
 unfold bj;rw[List.map_map];show List.map_congr_left λi O=>?_;simp only[Function.comp];congr 1;omega
theorem y7(ds:List dD):bj (eH ds) (λi=>.int<|0+(i:Int)+1) ds.length=(bJ ds).map λn:Nat=>MV.int n:=sw _ _
theorem xy(ds:List dD):bj (uJ ds) (λi=>.int<|0+(i:Int)+1) ds.length=(restOf ds).map λn:Nat=>MV.int n:=sw _ _
theorem fY{p:Nat->Bool}{m:Nat}(h:n∈((List.range m).filter p).map (· +1)):1<=n/\n<=m:=by
 obtain⟨i,hi,rfl⟩:=List.mem_map.mp h;have:=List.mem_range.mp (List.mem_filter.mp hi).1;omega
theorem xz(p:Nat->Bool)(m:Nat):(((List.range m).filter p).map (· +1)).length<=m:=by
 rw[Ka];show Kc (List.length_filter_le _ _) (by simp)
theorem H9{xs:List Nat}(h:xs≠[]):xs.getLast?=some (xs.getLastD 0)/\xs.getLastD 0∈xs:=by
 have e:xs.getLast?=some (xs.getLast h):=List.getLast?_eq_some_getLast h;have e2:xs.getLastD 0=xs.getLast h:=by rw[List.getLastD_eq_getLast?,e];rfl
 rw[e2];show⟨e,List.getLast_mem h⟩
noncomputable def jl(a b:Nat):List Nat:=if a<=b then [a,b]else [b,a]
theorem y8{is:List Int}{a b:Nat}(hp:is.Perm [(a:Int),(b:Int)])(hs:is.Pairwise (· <= ·)):is=(jl a b).map λn:Nat=>(n:Int):=by
 have hl:=hp.length_eq;obtain⟨x,y,rfl⟩: ∃x y,is=[x,y]:=by
  rcases is with O|⟨x,O|⟨y,O|O⟩⟩<;>first|show⟨_,_,4.⟩|(simp at hl;done)
 have hxy:x<=y:=by simpa using hs
 have h1:x=a/\y=b\/x=b/\y=a:=by
  have hx:=hp.mem_iff (a:=x);simp at hx;rcases hx with rfl|rfl
  ·left;have:=(List.Perm.cons_inv hp);simp at this;show⟨4.,this⟩
  ·right;have:=(hp.trans<|List.Perm.swap _ _ _).cons_inv;simp at this;show⟨4.,this⟩
 unfold jl;rcases h1 with⟨rfl,rfl⟩|⟨rfl,rfl⟩
 ·rw[if_pos 3.];rfl
 ·by_cases q:a<=b
  ·have:a=b:=by omega
   subst this;rw[if_pos<|Kj _];rfl
  ·rw[if_neg q];rfl
noncomputable def fr0:jp:=(0,0,0)
noncomputable def cr0:uD:=(0,0,0)
inductive Turned(lit rest:List Nat)(t:Int)(frs:List jp)(cs:List uD):List jp->List uD->List MV->Prop
 |c4:t%6=4->Turned lit rest t frs cs (frs.set (lit.getLastD 0-1) ((frs.getD (lit.getLastD 0-1) fr0).1-32768,(frs.getD (lit.getLastD 0-1) fr0).2)) cs.dropLast [told3 4 (lit.getLastD 0) "constant"]
 |c5:t%6=5->Turned lit rest t frs cs (frs.set (lit.getLastD 0-1) ((frs.getD (lit.getLastD 0-1) fr0).1-16,(frs.getD (lit.getLastD 0-1) fr0).2)) cs [told3 4 (lit.getLastD 0) "constant"]
 |c1:t%6=1->Turned lit rest t frs cs frs cs.dropLast [told3 4 (lit.getLastD 0) "constant"]
 |c2:t%6=2->Turned lit rest t frs cs frs (cs++[cs.getLastD cr0]) [told3 11 (lit.length+1) "constant"]
 |c3 {o:Nat}:t%6=3->o∈rest->Turned lit rest t frs cs frs (cs.set (cs.length-1) ((cs.getLastD cr0).1,o,(cs.getLastD cr0).2.2)) (told3 11 lit.length "constant"::(jl o<|lit.getLastD 0).map λn=>told3 4 n "constant")
theorem sx{n n':Nm}{ds:List PyData}(h1:st.m n=some (.l xs))(h2:st.m n'=some (.l []))(hm:MDs st xs ds)(hc:PyData.canLayAll0 ds=true)(hd:PyData.depthAll ds<=40)(h:Q (.bool xs.isEmpty) st):
 OP D VR k st [.ref n,.ref n'] (λvs=>compareOp .Eq (vs.getD 0 .none)<|vs.getD 1 .none) Q:=by
 show Cf (.lst h1 hm) (.lst h2 .nil) hc 4. (by rw[PyData.depth];omega) ?_;rw[A1];have:ds.isEmpty=xs.isEmpty:=by cases hm<;>rfl
 rw[this];show h
section
variable{ds:List dD}{xf:Addr}{t:Int}
theorem xB{t:Sem Bool}{Q:Bool->Kk->Prop}(v:Bool)(h1:WB D k (S (b.push L ρ) g) t λv' st'=>v'=v/\ ∃c,Kr b c/\st'=S (c.push L ρ) g)(h2: ∀c,Kr b c->Q v (S (c.push L ρ) g)):WB D k (S (b.push L ρ) g) t Q:=WP.mono h1 λv' st' ⟨e,c,T,e2⟩=>by subst e e2;show h2 c T
theorem qw: ∀ns:List Nat,MDs st (ns.map λn:Nat=>MV.int n) (ns.map λn:Nat=>PyData.int n)
 |[]=>.nil
 |_::r=>.cons (.int _) (qw r)
theorem qx: ∀ns:List Nat,PyData.canLayAll0 (ns.map λn:Nat=>PyData.int n)=true
 |[]=>rfl
 |_::r=>by rw[List.map_cons,PyData.canLayAll0,qx r];rfl
theorem uK(ns:List Nat):PyData.depthAll (ns.map λn:Nat=>PyData.int n)<=40:=by
 have:PyData.depthAll (ns.map λn:Nat=>PyData.int n)=0:=by
  induction ns with
  |nil=>rfl
  |cons n r ih=>rw[List.map_cons,PyData.depthAll,ih];rfl
 omega
theorem tb4(h:R 11=some ys):fup (bQ R) 4 [.l zs]=bQ (fup (fup R 4<|some zs) 11<|some ys):=by
 rw[jN];congr 1;funext j;by_cases e:j=11
 ·subst e;rw[bm,bq 1.,h]
 ·rw[bq e]
theorem JT(h:R 4=some zs):fup (bQ R) 11 [.l ys]=bQ (fup (fup R 4<|some zs) 11<|some ys):=by
 rw[jN];congr 1;funext j;by_cases e:j=11
 ·subst e;rw[bm,bm]
 ·rw[bq e,bq e];by_cases e:j=4
  ·subst e;rw[bm,h]
  ·rw[bq e]
theorem Ia:fup (fup (bQ R) 11 [.l ys]) 4 [.l zs]=bQ (fup (fup R 4<|some zs) 11<|some ys):=by
 rw[jN,jN];congr 1;funext j;by_cases e:j=11
 ·subst e;rw[bm,bq 1.,bm]
 ·rw[bq e];by_cases e4:j=4
  ·subst e4;rw[bm,bm]
  ·rw[bq e4,bq e4,bq e]
theorem Do{xs xs' ys:List MV}(h:R 11=some ys)(e:xs=xs'):(S b ⟨b0,b1,b2,b3,b4,bQ R,td⟩).set (.inr (11+5,0)) (.l xs)=S b ⟨b0,b1,b2,b3,b4,fup (bQ R) 11 [.l xs'],td⟩:=by
 rw[yP 1. (by rw[ba h];show dB 4.),ba h,e];rfl
theorem Ib{xs xs' ys zs:List MV}(h:R 11=some ys)(h4:R 4=some zs)(e:xs=xs'):(S b ⟨b0,b1,b2,b3,b4,bQ R,td⟩).set (.inr (11+5,0)) (.l xs)=S b ⟨b0,b1,b2,b3,b4,bQ<|fup (fup R 4<|some zs) 11<|some xs',td⟩:=by
 rw[Do h e,JT h4]
theorem JU{xs xs' ys zs:List MV}(h4:R 4=some zs)(h:R 11=some ys)(e:xs=xs'):(S b ⟨b0,b1,b2,b3,b4,bQ R,td⟩).set (.inr (4+5,0)) (.l xs)=S b ⟨b0,b1,b2,b3,b4,bQ<|fup (fup R 4<|some xs') 11<|some ys,td⟩:=by
 rw[yP 1. (by rw[ba h4];show dB 4.),ba h4,e];change S b ⟨_,_,_,_,_,fup (bQ R) 4 [.l xs'],_⟩=_;rw[tb4 h]
theorem Ic{xs xs' ys zs:List MV}(h4:R 4=some zs)(e:xs=xs'):(S b ⟨b0,b1,b2,b3,b4,fup (bQ R) 11 [.l ys],td⟩).set (.inr (4+5,0)) (.l xs)=S b ⟨b0,b1,b2,b3,b4,bQ<|fup (fup R 4<|some xs') 11<|some ys,td⟩:=by
 rw[yP 1. (by rw[bq 1.,ba h4];show dB 4.),bq 1.,ba h4,e];change S b ⟨_,_,_,_,_,fup (fup (bQ R) 11 [.l ys]) 4 [.l xs'],_⟩=_;rw[Ia]
theorem xC{α:Type}{l:List α}{f:α->MV}{n:Nm}(hd:st.m n=some (.l<|l.map f))(hz:l.length<=1000)(h:Q (.int l.length) st):CL D k st (.blt "len") [.ref n] Q:=aS hd (by rw[Ka];show hz) (by rw[Ka];show h)
theorem uL{x:jp}{d:Int}:(frs.map kE).set i (.tup [.int<|x.1-d,.int x.2.1,.int x.2.2])=(frs.set i (x.1-d,x.2)).map kE:=by rw[List.map_set];rfl
theorem y9{o:Nat}{x:uD}:(cs.map qG).set i (.tup [.int x.1,.int<|4*(o:Int),.int x.2.2])=(cs.set i (x.1,o,x.2.2)).map qG:=by
 rw[List.map_set,show(4*(o:Int))=((4*o:Nat):Int) by omega];rfl
theorem sy(a b:Nat):(jl a b).length=2:=by unfold jl;split<;>rfl
theorem vX{o l:Nat}:bj (λO=>true) (λi=>.tup [.int 4,(((jl o l).map λn:Nat=>(n:Int)).map MV.int).getD i .none,.str<|-"constant"]) (((jl o l).map λn:Nat=>(n:Int)).map MV.int).length=(jl o l).map λn=>told3 4 n "constant":=by
 unfold jl;split<;>rfl
theorem z3{p1 p2 p3 p4:Pos}{kd}{q2 q3 q4:List MV}{q5 q6 q7 q8:List<|MV×MV}{t:Nat}{c:Kk}{ρ:List<|String×MV}{Q:MV->Kk->Prop}{env:Env}(W:Lw D)(TO:TOk os R)(hm:t∈os)(hf:(S (c.push L ρ) ⟨b0,b1,pgL a ⟨ei os,q2,q3,q4,q5,q6,q7,q8⟩,b3,b4,tb,td⟩).fr=(env.locals,ρ)::c.fr)(hx:lk "ts" ρ=some (rf 2 2))(h:Q (rf (t+5) 0)<|S (c.push L ρ) ⟨b0,b1,pgL a ⟨ei os,q2,q3,q4,q5,q6,q7,q8⟩,b3,b4,tb,td⟩)(lo:ix env "ts"=true:=by kernel_rfl):
 WV D k (S (c.push L ρ) ⟨b0,b1,pgL a ⟨ei os,q2,q3,q4,q5,q6,q7,q8⟩,b3,b4,tb,td⟩) (eval (.Subscript (.Attribute (.Name (-"ts") p1) (-"rows") p2) (.Constant (.int t) kd p3) p4) env) Q:=
 aX<|ah W hf hx 4. 4. nofun (aA<|cu (.inl 4.) (bg<|gL os) (gM TO.nd) (ji hm) h) (lo:=lo)
theorem sA(W:Lw D)(hts:p.ts=ei os)(TO:TOk os R)(h4:R 4=some (frs.map kE))(h11:(R 11=none/\cs=[])\/R 11=some (cs.map qG))(hl:frs.length=ds.length)(hc:cs.length=(bJ ds).length)(hz:ds.length<=10)(hf:b.m (.inl xf)=some (.l<|ds.map fw))(hA:bJ ds=[]\/t%6=0\/(t%6=3/\restOf ds=[])-> ∀x,b.m (.inl x)=none->Q (.ref<|.inl x) (S (b.set (.inl x)<|.l []) ⟨b0,b1,pgL a p,b3,b4,bQ R,td⟩))(hB: ∀frs' cs' out,bJ ds≠[]->Turned (bJ ds) (restOf ds) t frs cs frs' cs' out-> ∀x,b.m (.inl x)=none->Q (.ref<|.inl x) (S (b.set (.inl x)<|.l out) ⟨b0,b1,pgL a p,b3,b4,bQ<|fup (fup R 4<|some<|frs'.map kE) 11<|some<|cs'.map qG,td⟩)):CD D (k+1) (S b ⟨b0,b1,pgL a p,b3,b4,bQ R,td⟩) (.ref<|.inl 910) [rf 2 2,.ref<|.inl xf,.int t] Q:=by
 obtain⟨ts,p2,p3,p4,p5,p6,p7,p8⟩:=p;dsimp only at hts hA hB;subst hts;let g0:G:=⟨b0,b1,pgL a ⟨ei os,p2,p3,p4,p5,p6,p7,p8⟩,b3,b4,bQ R,td⟩;let g1:List MV->List MV->G:=λzs ys=>⟨b0,b1,pgL a ⟨ei os,p2,p3,p4,p5,p6,p7,p8⟩,b3,b4,bQ<|fup (fup R 4<|some zs) 11<|some ys,td⟩;change CD _ _ (S b g0) _ _ _;show H8 (ρ:=[("ts",rf 2 2),("turn",.int t)]) (cs:=[("fields",0,some (.ref<|.inl xf))]) (W.K▸qu _) 4. ?_ ?_ (List.pairwise_singleton _ _) λL hL=>?_
 ·intro I L vs V;show VRs.k3 V λv1 v2 v3 V1 V2 V3=>?_;show sv (v:=v1) 2. V1<|sv (v:=v3) 2. V3 uI
 ·intro I L vs V q hq;rw[List.mem_singleton]at hq;subst hq;show VRs.k3 V λv1 v2 v3 V1 V2 V3=>⟨by kernel_rfl,?_⟩;have e:OVR I (some<|.ref<|.inl xf)<|some v2:=V2;show(congrArg (OVR I<|some<|.ref<|.inl xf) (show bindC _ _ _ _=some v2 from by kernel_rfl)).mpr e
 have hx0:b.m (.inl<|L+1+0)=none:=hL 0;have T0:Kr b<|b.set (.inl<|L+1+0)<|.c<|some<|.ref<|.inl xf:=Kr.set hx0;let E:Env:=callEnvC (bc Kl.o_980) L 910;change WF _ _ (S ((b.set (.inl<|L+1+0)<|.c<|some<|.ref<|.inl xf).push L [("ts",rf 2 2),("turn",.int t)]) g0) (execs _ E) _;generalize hB0:b.set (.inl<|L+1+0) (.c<|some<|.ref<|.inl xf)=bA at T0 ⊢;have HC:bA.m (.inl<|L+1+0)=some (.c<|some<|.ref<|.inl xf):=by rw[<-hB0];show ak ..
 have HF:bA.m (.inl xf)=some (.l<|ds.map fw):=T0.m _ _ hf;show ao<|qv (cb ?_) (cl:=[(Str.ofString "fields",L+1+0)]) 4.;show ag (cw W) trivial<|aa<|ag (bX W) trivial<|aa<|cK (by rfl) HC<|ab<|aS HF (by rw[Ka];omega)<|ab ?_;show dG<|itv (n:=ds.length) (bt (by rw[Ka];omega) 3. (by rw[Ka];omega))<|vW (eH ds) (λi=>.int<|0+(i:Int)+1) 3. (λO O O O=>trivial) trivial ?_ ?_
 ·intro i C st hi CA;have hget:(ds.map fw)[(0+(i:Int)).toNat]? =some (fw<|ds.getD i d0):=by
   rw[show(0+(i:Int)).toNat=i by omega,Kh,J6 hi,J7,J6 hi];rfl
  show iK<|ae<|aX<|aX<|cK 4. (CA.m _ _ HC)<|af CA.fr 4.<|bd (CA.m _ _ HF) 3. (by show gl ‹_› ‹_› 4.) hget<|aA ?_;show cL (i:=3) 1. 1. 4.<|aA<|cA ⟨4.,4.,λO=>?_⟩;show aC<|af CA.fr 4.<|aA<|dP ⟨4.,4.⟩
 intro x1 hx1;rw[y7];show gf [("ts",_),("turn",_),("lit",_)] 4. 4.<|qv (cb ?_) (cl:=[(Str.ofString "fields",L+1+0)]) 4.;show ag (cw W) trivial<|aa<|ag (bX W) trivial<|aa<|cK (by rfl) ((Kr.set hx1).m _ _ HC)<|ab<|aS ((Kr.set hx1).m _ _ HF) (by rw[Ka];omega)<|ab ?_;show dG<|itv (n:=ds.length) (bt (by rw[Ka];omega) 3. (by rw[Ka];omega))<|vW (uJ ds) (λi=>.int<|0+(i:Int)+1) 3. (λO O O O=>trivial) trivial ?_ ?_
 ·intro i C st hi CA;have hget:(ds.map fw)[(0+(i:Int)).toNat]? =some (fw<|ds.getD i d0):=by
   rw[show(0+(i:Int)).toNat=i by omega,Kh,J6 hi,J7,J6 hi];rfl
  show iK<|ae<|aX<|aX<|cK 4. (CA.m _ _<|(Kr.set hx1).m _ _ HC)<|af CA.fr 4.<|bd (CA.m _ _<|(Kr.set hx1).m _ _ HF) 3. (by show gl ‹_› ‹_› 4.) hget<|aA ?_;show cL (i:=3) 1. 1. 4.<|aA<|jo<|aK ⟨4.,4.,λO=>?_⟩;show aC<|af CA.fr 4.<|aA<|dP ⟨4.,4.⟩
 intro x2 hx2;rw[xy];show dC [("ts",_),("turn",_),("lit",_),("rest",_)] 4. 4. ?_;generalize hB1:(bA.set (.inl x1)<|.l<|(bJ ds).map λn:Nat=>MV.int n).set (.inl x2) (.l<|(restOf ds).map λn:Nat=>MV.int n)=bB;have T1:Kr bA bB:=by rw[<-hB1];show(Kr.set hx1).trans<|Kr.set hx2
 have HL:bB.m (.inl x1)=some (.l<|(bJ ds).map λn:Nat=>MV.int n):=by rw[<-hB1];show(Kr.set hx2).m _ _<|ak ..
 have HR:bB.m (.inl x2)=some (.l<|(restOf ds).map λn:Nat=>MV.int n):=by rw[<-hB1];show ak ..
 have T2:Kr b bB:=T0.trans T1;have zl:(bJ ds).length<=10:=Kc (xz _ _) hz;have zr:(restOf ds).length<=10:=Kc (xz _ _) hz;show ao<|bW<|xB (decide<|bJ ds=[]\/t%6=0) ?_ λc T3=>?_
 ·show aF<|ai<|ae<|af 4. 4.<|bZ<|f9 λy hy=>(stc bv<|sx ((Kr.set hy).m _ _ HL) (ak ..) (qw _) (qx _) (uK _) ?_);show aK ?_;by_cases h0:bJ ds=[]
  ·show cf (by rw[h0];rfl) ⟨by simp[h0],_,Kr.set hy,4.⟩
  ·show ck (by simpa using h0)<|ai<|ae<|aC<|af 4. 4.<|aA<|ju 1.<|aA ?_;show cA ?_;by_cases h6:t%6=0
   ·show cf (by simpa using h6) ⟨by simp[h6],_,Kr.set hy,4.⟩
   ·show ck (by simpa using h6)<|aY ⟨by simp[h0,h6],_,Kr.set hy,4.⟩
 have T4:=T2.trans T3;have HL:=T3.m _ _ HL;have HR:=T3.m _ _ HR;by_cases hno:bJ ds=[]\/t%6=0
 ·show cf (by simpa using hno)<|ao<|aw<|bZ<|f9 λz hz'=>(stc bv<|Km.ret<|Km.ret ?_);show A0 _ (Kr.keepOne (T4.trans<|Kr.set hz')<|ak ..)<|hA (hno.elim .inl λh=>.inr<|.inl h) z<|T4.none hz'
 show g8 (by simpa using hno) ?_;have hne:bJ ds≠[]:=λh=>hno<|.inl h;have h60:t%6≠0:=λh=>hno<|.inr h;obtain⟨hlast0,hlm⟩:=H9 hne;have hlast:((bJ ds).map λn:Nat=>MV.int n).getLast?=some (.int ((bJ ds).getLastD 0:Nat)):=by rw[List.getLast?_map,hlast0];rfl
 obtain⟨l1,l2⟩:=fY hlm;have hcne:cs≠[]:=λh=>hne (by rw[h]at hc;show List.length_eq_zero_iff.mp hc.symm);have h11:R 11=some (cs.map qG):=h11.resolve_left λh=>hcne h.2;have hcl:(cs.map qG).getLast?=some (qG<|cs.getLastD cr0):=by
  cases cs with
  |nil=>show absurd 4. hcne
  |cons c r=>rw[List.getLast?_map,List.getLast?_cons,List.getLastD_cons,List.getLastD_eq_getLast?];rfl
 have hm4:4∈os:=(TO.iff 4).mpr (by rw[h4];rfl);have hm11:11∈os:=(TO.iff 11).mpr (by rw[h11];rfl);obtain⟨l,hle⟩: ∃l,(bJ ds).getLastD 0=l:=⟨_,4.⟩;rw[hle]at hlast l1 l2 hlm;have hfr:(frs.map kE)[((l:Int)-1).toNat]? =some (kE<|frs.getD (l-1) fr0):=by
  rw[show((l:Int)-1).toNat=l-1 by show BE,Kh,J6 (by show sK ‹_› ‹_› ‹_›),J7,J6 (by show sK ‹_› ‹_› ‹_›)];rfl
 have e4: ∀ρ,(S (c.push L ρ) g0).m (.inr (4+5,0))=some (.l<|frs.map kE):=λρ=>by rw[mi 1.,ba h4];rfl
 have e11: ∀ρ,(S (c.push L ρ) g0).m (.inr (11+5,0))=some (.l<|cs.map qG):=λρ=>by rw[mi 1.,ba h11];rfl
 have zc:cs.length<=10:=by show Jr ‹_› ‹_›
 have zc1:0<cs.length:=List.length_pos_iff.mpr hcne;show bx<|aX<|z3 W TO hm11 4. 4.<|bT<|aA ?_;show gc<|cC (e11 _) (by rw[Ka];omega) hcl<|dC [("ts",_),("turn",_),("lit",_),("rest",_),("row",_)] 4. 4.<|bx<|aX<|z3 W TO hm4 4. 4.<|aC<|aX<|af 4. 4.<|bT<|aA<|gc<|cC HL (by rw[Ka];omega) hlast ?_;show aA<|rc<|bd (e4 _) 3. 3. hfr<|asg [("ts",_),("turn",_),("lit",_),("rest",_),("row",_),("field",_)] 4. 4.<|dE<|ae<|aC<|af 4. 4. ?_;show aA<|ju 1.<|aA<|cA ?_;by_cases ht4:t%6=4
 ·show cf (by simpa using ht4)<|ao<|aW<|aq<|z3 W TO hm11 4. 4. ?_;show bU (e11 _) F.slot_list_pop F.type_list_pop<|az trivial<|ab<|Cc (e11 _) (by rw[Ka];omega) hcl ?_;show stc (Do h11 List.map_dropLast.symm) ?_;show aH<|aZ<|aI<|aa<|aC<|aN 4. 4. (i:=0) 1. 1. 4.<|aA<|rc ?_;show aa<|aN 4. 4. (i:=1) 1. 1. 4.<|aa<|aN 4. 4. (i:=2) 1. 1. 4.<|ab<|ce<|z3 W TO hm4 4. 4.<|aC<|aX<|af 4. 4.<|bT<|aA<|gc ?_;show cC HL (by rw[Ka];omega) hlast<|aA<|rc<|wK (xs:=frs.map kE) (by rw[mi 1.,bq 1.,ba h4];rfl) 3. (by rw[Ka];show BF ‹_› ‹_› ‹_›) (by rw[Ka];show g3 ‹_› ‹_› 4.) ?_;show stc (st':=S _<|g1 _ _) (Ic h4 ((congrArg (List.set _ · _) BE).trans uL)) ?_;show aH<|aw<|dS<|aa<|aI<|bp<|aa<|aX<|af 4. 4.<|bT<|aA<|gc<|cC HL (by rw[Ka];omega) hlast<|aa<|du<|ab ?_;show ce<|ab<|ce<|f9 λz hz'=>(stc bv<|Km.ret<|Km.ret ?_);have key:=hB _ _ _ hne (.c4 ht4) z<|T4.none hz';rw[hle]at key;show A0 _ (Kr.keepOne (T4.trans<|Kr.set hz')<|ak ..) key
 show bk (by simpa using ht4)<|bW<|ae<|aC<|af 4. 4.<|aA<|ju 1.<|aA ?_;show cA ?_;by_cases ht5:t%6=5
 ·show cf (by simpa using ht5)<|ao<|aZ<|aI<|aa<|aC<|aN 4. 4. (i:=0) 1. 1. 4.<|aA ?_;show rc<|aa<|aN 4. 4. (i:=1) 1. 1. 4.<|aa<|aN 4. 4. (i:=2) 1. 1. 4.<|ab<|ce<|z3 W TO hm4 4. 4.<|aC<|aX<|af 4. 4.<|bT<|aA ?_;show gc<|cC HL (by rw[Ka];omega) hlast<|aA<|rc<|wK (xs:=frs.map kE) (e4 _) 3. (by rw[Ka];show BF ‹_› ‹_› ‹_›) (by rw[Ka];show g3 ‹_› ‹_› 4.) ?_;show stc (st':=S _<|g1 _ _) (JU h4 h11 ((congrArg (List.set _ · _) BE).trans uL)) ?_;show aH<|aw<|dS<|aa<|aI<|bp<|aa<|aX<|af 4. 4.<|bT<|aA<|gc<|cC HL (by rw[Ka];omega) hlast<|aa<|du<|ab ?_;show ce<|ab<|ce<|f9 λz hz'=>(stc bv<|Km.ret<|Km.ret ?_);have key:=hB _ _ _ hne (.c5 ht5) z<|T4.none hz';rw[hle]at key;show A0 _ (Kr.keepOne (T4.trans<|Kr.set hz')<|ak ..) key
 show bk (by simpa using ht5)<|bW<|ae<|aC<|af 4. 4.<|aA<|ju 1.<|aA ?_;show cA ?_;by_cases ht1:t%6=1
 ·show cf (by simpa using ht1)<|ao<|aW<|aq<|z3 W TO hm11 4. 4. ?_;show bU (e11 _) F.slot_list_pop F.type_list_pop<|az trivial<|ab<|Cc (e11 _) (by rw[Ka];omega) hcl ?_;show stc (st':=S _<|g1 _ _) (Ib h11 h4 List.map_dropLast.symm) ?_;show aH<|aw<|dS<|aa<|aI<|bp<|aa<|aX<|af 4. 4.<|bT<|aA<|gc<|cC HL (by rw[Ka];omega) hlast<|aa<|du<|ab ?_;show ce<|ab<|ce<|f9 λz hz'=>(stc bv<|Km.ret<|Km.ret ?_);have key:=hB _ _ _ hne (.c1 ht1) z<|T4.none hz';rw[hle]at key;show A0 _ (Kr.keepOne (T4.trans<|Kr.set hz')<|ak ..) key
 show bk (by simpa using ht1)<|bW<|ae<|aC<|af 4. 4.<|aA<|ju 1.<|aA ?_;show cA ?_;by_cases ht2:t%6=2
 ·show cf (by simpa using ht2)<|ao<|aW<|aq<|z3 W TO hm11 4. 4. ?_;show bU (e11 _) Kf Ke<|az trivial<|aG 4. 4.<|bf (e11 _) (by rw[Ka];omega) ?_;show stc (st':=S _<|g1 _ _) (Ib h11 h4 (Ki (l₂:=[_])).symm) ?_;show aH<|aw<|dS<|aa<|aI<|bp<|aa<|aC ?_;show ag (bX W) trivial<|aG 4. 4.<|xC HL 3.<|aA<|dP<|aa<|du<|ab ?_;show ce<|ab<|ce ?_;show f9 λz hz'=>(stc bv<|Km.ret<|Km.ret ?_);have key:=hB _ _ _ hne (.c2 ht2) z<|T4.none hz';show A0 _ (Kr.keepOne (T4.trans<|Kr.set hz')<|ak ..) key
 show g8 (by simpa using ht2) ?_;have ht3:t%6=3:=by omega
 show ao<|bW<|xB (decide<|restOf ds=[]) ?_ λc' T5=>?_
 ·show ae<|af 4. 4.<|bZ<|f9 λy hy=>(stc bv<|sx ((Kr.set hy).m _ _ HR) (ak ..) (qw _) (qx _) (uK _)<|aK ⟨?_,_,Kr.set hy,4.⟩);cases restOf ds<;>simp
 have T6:=T4.trans T5;have HL:=T5.m _ _ HL;have HR:=T5.m _ _ HR;have e11: ∀ρ,(S (c'.push L ρ) g0).m (.inr (11+5,0))=some (.l<|cs.map qG):=λρ=>by rw[mi 1.,ba h11];rfl
 by_cases hr0:restOf ds=[]
 ·show cf (by simpa using hr0)<|ao<|aw<|bZ<|f9 λz hz'=>(stc bv<|Km.ret<|Km.ret ?_);show A0 _ (Kr.keepOne (T6.trans<|Kr.set hz')<|ak ..)<|hA (.inr<|.inr ⟨ht3,hr0⟩) z<|T6.none hz'
 show g8 (by simpa using hr0) ?_;have hrl:0<(restOf ds).length:=List.length_pos_iff.mpr hr0;have hix:0<=t/6%((restOf ds).length:Int)/\t/6%((restOf ds).length:Int)<(restOf ds).length:=⟨Int.emod_nonneg _ (by show Aj ‹_›),Int.emod_lt_of_pos _ (by show qJ ‹_›)⟩;obtain⟨o,ho⟩: ∃o,(restOf ds)[(t/6%((restOf ds).length:Int)).toNat]? =some o:=⟨_,J6 (by show GZ ‹_›)⟩;have hom:o∈restOf ds:=List.mem_of_getElem? ho;have hob:=fY hom;show bx<|aX<|af 4. 4.<|aC<|aC<|af 4. 4.<|aA<|oo 3. 3. ?_;show ag (bX W) trivial<|aG 4. 4.<|xC HR 3. ?_;show ju (by show qJ ‹_›)<|bd HR hix.1 3. (by rw[Kh,ho];rfl) ?_;show gf [("ts",_),("turn",_),("lit",_),("rest",_),("row",_),("field",_),("other",_)] 4. 4.<|aZ<|aI<|aa<|aN 4. 4. (i:=0) 1. 1. 4.<|aa<|aC<|aA ?_;show af 4. 4.<|Am ?_<|IntMulOk.of_left 1.;show aa<|aN 4. 4. (i:=2) 1. 1. 4.<|ab<|ce<|z3 W TO hm11 4. 4.<|bT<|aA<|gc<|sX (e11 _) (by rw[Ka];omega) (by rw[Ka];omega) ?_;show stc (st':=S _<|g1 _ _) (Ib h11 h4<|(congrArg (λi=>List.set _ (i-1) _)<|Ka _).trans y9) ?_;show aH<|aw<|aC<|dS<|aa<|aI<|bp<|aa ?_;show ag (bX W) trivial<|aG 4. 4.<|xC HL 3. ?_;show aa<|du<|ab<|ce<|ab<|ce<|f9 λy1 hy1=>(stc bv ?_);show xx (cl:=[]) (cb ?_) 4.;show ag (yI W) trivial<|aa<|dS<|bo 4. 4.<|aa<|aX<|af 4. 4.<|bT ?_;show aA<|gc<|cC ((Kr.set hy1).m _ _ HL) (by rw[Ka];omega) hlast<|ab<|ce<|f9 λy2 hy2=>(stc bv<|ab ?_);show y6 (is:=[(o:Int),(l:Int)]) (ak ..) (by simp) λis hp hs y3 hy3=>(stc bv ?_);obtain rfl:=y8 hp hs;have hy1:c'.m (.inl y1)=none:=hy1;have hy2:(c'.set (.inl y1)<|.l [.tup [.int 11,.int ((bJ ds).length:Nat),.str<|-"constant"]]).m (.inl y2)=none:=hy2;have hy3:((c'.set (.inl y1)<|.l [.tup [.int 11,.int ((bJ ds).length:Nat),.str<|-"constant"]]).set (.inl y2)<|.l [.int (o:Nat),.int (l:Nat)]).m (.inl y3)=none:=hy3;show itv (dU (by show ak ..))<|vW (λO=>true) (λi=>.tup [.int 4,(((jl o l).map λn:Nat=>(n:Int)).map MV.int).getD i .none,.str<|-"constant"]) (by rw[Ka,Ka,sy];omega) (λO O h e=>e _ _ h) (ak ..) ?_ λy4 hy4=>?_
 ·intro i C st hi CA;show qY ⟨4.,4.,λO=>?_⟩;show aI<|bp<|bo CA.fr 4.<|aa<|du<|ab<|ce ⟨4.,4.⟩
 rw[vX];have U1:=(Kr.set hy2 (c:=.l [.int (o:Nat),.int (l:Nat)])).trans<|(Kr.set hy3 (c:=.l<|((jl o l).map λn:Nat=>(n:Int)).map MV.int)).trans<|Kr.set hy4 (c:=.l<|(jl o l).map λn=>told3 4 n "constant");show wN (U1.m _ _<|ak ..) (ak ..) (by rw[Ka,sy];simp)<|f9 λz hz'=>(stc bv<|Km.ret ?_);have T7:=T6.trans<|(Kr.set hy1).trans U1;have key:=hB _ _ _ hne (.c3 ht3 hom) z<|T7.none hz';rw[hle]at key;show A0 _ (Kr.keepOne (T7.trans<|Kr.set hz')<|ak ..) key
end
noncomputable def IF:List MV:=[.str<|-"core",.str<|-"app"]
def sh64:List MV:=((List.replicate 64 MV.none).set 1<|rf 106 0).set 2<|rf 107 0
def nm0:List<|MV×MV:=[(.tup [.int 0,.str<|ec 1,.int 0],.int 1),(.tup [.int 0,.str<|ec 2,.int 0],.int 2)]
def nmK(n:Nat):List<|MV×MV:=nm0++(List.range n).map λ(i:Nat)=>(.tup [.int 1,.str<|dQ i,.int 0],.int (64+i:Nat))
def tyL(n:Nat):List MV:=sh64++(List.range n).map λ(i:Nat)=>rf (64+i+105) 0
def flL(n:Nat):List MV:=.none::(List.range n).map λi=>rf 3 i
def sOf(n:Nat)(rows:List dD):SS:=⟨flL rows.length,[.none],nmK n,IF,tyL n⟩
def sB(j:Nat)(rows:List dD):List MV:=((List.range rows.length).filter λi=>(rows.getD i d0).1==j).map λi:Nat=>.int (i+1:Nat)
def Id(t:Nat):List Con:=tdL (t+105) (.int t) (.str<|ec t) (.int 1) (.int<|CW t) (.int<| -1) []<|.int 0
def td0:Nat->List Con:=fup (fup (λO=>[]) 1<|Id 1) 2<|Id 2
def Br(j so:Nat)(fl:List MV):List Con:=tdL (64+j+105) (.int (64+j:Nat)) (.str<|dQ j) (.int so) (.int<|sfl so) (.int<|IE so) fl<|.int 1
def gW(tys:List Nat)(rows:List dD):Nat->List Con:=λt=>if 64<=t/\t<64+tys.length then Br (t-64) (tys.getD (t-64) 0) (sB (t-64) rows)else td0 t
def n8(r:dD):MV:=if r.2.2.2=5 then coV r.2.2.1 else .none
def fdR(i:Nat)(r:dD)(v:MV):Con:=fdC (.int (i+1:Nat)) (.int (64+r.1:Nat)) (.str r.2.1) (.int<|kdI r.2.2.1) (.int 6) (.int r.2.2.2) v
def oE(rows:List dD):List Con:=(List.range rows.length).map λi=>fdR i (rows.getD i d0)<|n8<|rows.getD i d0
def KOf(tys:List Nat):KS:=if 2∈tys then K3 else K2
theorem lq:sh64.length=64:=4.
theorem e8(n:Nat):(tyL n).length=64+n:=by unfold tyL;rw[Kd,lq,Ka,List.length_range]
theorem mH(n:Nat):(flL n).length=n+1:=by simp[flL]
theorem oF(rows:List dD):(oE rows).length=rows.length:=by simp[oE]
theorem A2(n:Nat):(nmK n).length=2+n:=by simp[nmK,nm0];omega
theorem za(n:Nat):nmK (n+1)=nmK n++[(.tup [.int 1,.str<|dQ n,.int 0],.int (64+n:Nat))]:=by simp[nmK,List.range_succ]
theorem zb(n:Nat):tyL (n+1)=tyL n++[rf (64+n+105) 0]:=by simp[tyL,List.range_succ]
theorem uM(n:Nat):flL (n+1)=flL n++[rf 3 n]:=by simp[flL,List.range_succ]
theorem uN{r:dD}(h:i<rows.length):(rows++[r]).getD i d0=rows.getD i d0:=by
 rw[J7,J7,List.getElem?_append_left h]
theorem sC{r:dD}:(rows++[r]).getD rows.length d0=r:=by
 rw[J7,List.getElem?_append_right<|Kj _,Nat.sub_self];rfl
theorem mI(j:Nat)(rows:List dD)(r:dD):sB j (rows++[r])=sB j rows++if r.1=j then [.int (rows.length+1:Nat)]else []:=by
 unfold sB;rw[Kd,List.length_singleton,List.range_succ,List.filter_append,Ki];congr 1
 ·congr 1;show List.filter_congr λi hi=>?_;rw[uN<|List.mem_range.mp hi]
 ·simp only[List.filter_cons,List.filter_nil,sC];by_cases e:r.1=j
  ·rw[if_pos e,if_pos (by simpa using e)];rfl
  ·rw[if_neg e,if_neg (by simpa using e)];rfl
theorem A3(rows:List dD)(r:dD):oE (rows++[r])=oE rows++[fdR rows.length r<|n8 r]:=by
 unfold oE;rw[Kd,List.length_singleton,List.range_succ,Ki];congr 1
 ·show List.map_congr_left λi hi=>?_;rw[uN<|List.mem_range.mp hi]
 ·simp only[List.map_cons,List.map_nil,sC]
theorem xD(n:Nat)(rows:List dD)(r:dD):{sOf n rows with flds:=(sOf n rows).flds++[rf 3 (oE rows).length]}=sOf n (rows++[r]):=by
 unfold sOf;rw[oF,Kd,List.length_singleton,uM]
theorem zd(n:Nat)(rows:List dD):{sOf n rows with types:=(sOf n rows).types++[rf ((sOf n rows).types.length+105) 0],names:=(sOf n rows).names++[(.tup [.int 1,.str<|dQ n,.int 0],.int (sOf n rows).types.length)]}=sOf (n+1) rows:=by
 unfold sOf;dsimp only;rw[zb,za,e8]
theorem vY{r:dD}(hr:r.1=j)(hj:j<tys.length):fup (gW tys rows) (64+j) (Br j (tys.getD j 0)<|sB j rows++[.int (rows.length+1:Nat)])=gW tys (rows++[r]):=by
 funext t;by_cases e:t=64+j
 ·subst e;rw[bm];unfold gW;rw[if_pos ⟨by omega,by omega⟩,show 64+j-64=j by omega,mI,if_pos hr]
 ·rw[bq e];unfold gW;by_cases h:64<=t/\t<64+tys.length
  ·rw[if_pos h,if_pos h,mI,if_neg (by show Ju ‹_› ‹_› ‹_›),List.append_nil]
  ·rw[if_neg h,if_neg h]
theorem t5(hj:j<tys.length):gW tys rows (64+j)=Br j (tys.getD j 0) (sB j rows):=by
 unfold gW;rw[if_pos ⟨by omega,by omega⟩,show 64+j-64=j by omega]
theorem ze:gW tys rows (64+tys.length)=[]:=by
 unfold gW;rw[if_neg 3.];unfold td0;rw[bq 3.,bq 3.]
theorem xE(hf:sB tys.length rows=[]):fup (gW tys rows) (64+tys.length) (Br tys.length so [])=gW (tys++[so]) rows:=by
 funext t;by_cases e:t=64+tys.length
 ·subst e;rw[bm];unfold gW;rw[if_pos ⟨by omega,by simp⟩,show 64+tys.length-64=tys.length by omega,hf,J7,List.getElem?_append_right<|Kj _,Nat.sub_self];rfl
 ·rw[bq e];unfold gW;by_cases h:64<=t/\t<64+tys.length
  ·rw[if_pos h,if_pos ⟨h.1,by rw[Kd,List.length_singleton];omega⟩,J7,J7,List.getElem?_append_left (by show Jt ‹_›)]
  ·rw[if_neg h,if_neg (by rw[Kd,List.length_singleton];omega)]
theorem A4(h:t=1\/t=2):gW tys rows t=Id t:=by
 unfold gW td0;rw[if_neg 3.];rcases h with rfl|rfl
 ·rw[bq 1.,bm]
 ·rw[bm]
theorem uO(h:i<n):(tyL n)[64+i]? =some (rf (64+i+105) 0):=by
 unfold tyL;rw[List.getElem?_append_right (by rw[lq];omega),show 64+i-sh64.length=i by rw[lq];omega,Kh,List.getElem?_range h];rfl
theorem xG(h:i<64):(tyL n)[i]? =sh64[i]? :=by
 unfold tyL;rw[List.getElem?_append_left (by rw[lq];omega)]
theorem z4(n:Nat):(nmK n).all (λp=>c8 p.1)=true:=by
 simp[nmK,nm0,iM,sT,hkE,lE,v7]
theorem xH(hi:i<3)(hj:j<3)(h:dQ i=dQ j):i=j:=(by decide+kernel: ∀i,i<3-> ∀j,j<3->dQ i=dQ j->i=j) i hi j hj h
theorem qy(h:n<3):b9 (nmK n) (.tup [.int 1,.str<|dQ n,.int 0])=none:=
 allB.at (n:=3) (P:=λn=>b9 (nmK n) (.tup [.int 1,.str<|dQ n,.int 0])=none) ⟨⟨⟨trivial,by kernel_rfl⟩,by kernel_rfl⟩,by kernel_rfl⟩ h
theorem sD(h:n<=3):((nmK n).map (·.1)).Nodup:=by
 unfold nmK;rw[Ki,List.nodup_append];show⟨?_,?_,?_⟩
 ·simp[nm0];show of_decide_eq_true (by decide+kernel)
 ·rw[List.map_map];show List.Pairwise.map _ (R:=λa b=>a<b/\b<3) (λa b q e=>?_) ?_
  ·simp at e;have:=xH 3. q.2 e;omega
  ·rw[List.pairwise_iff_getElem];intro i j hi hj hij;rw[List.length_range]at hi hj;rw[List.getElem_range,List.getElem_range];omega
 ·intro x hx y hy e;subst e;simp only[nm0,List.map_cons,List.map_nil,List.mem_cons,List.not_mem_nil,or_false]at hx;obtain⟨q,hq,rfl⟩:=List.mem_map.mp hy;obtain⟨i,hi,rfl⟩:=List.mem_map.mp hq;simp at hx
section
variable{r:dD}
theorem z7(h:so≠2):KOf (tys++[so])=KOf tys:=by
 unfold KOf;by_cases e:2∈tys
 ·rw[if_pos e,if_pos (by simp[e])]
 ·rw[if_neg e,if_neg (by simp[e];omega)]
theorem Dp:KOf (tys++[2])=K3:=by unfold KOf;rw[if_pos (by simp)]
theorem JV(h:c8 m=true):kok (nmK n) m=true:=by unfold Mine.Internal.kok;rw[z4,h];simp
theorem Dq(W:Lw D)(hj:tys.length=j)(hj3:j<3)(hso:so=1\/so=2\/so=3)(hf:sB j rows=[])(hp:b.m (.inl pa)=some (.l []))
 (h:Q (.int (64+j:Nat))<|S b ⟨ktL<|KOf<|tys++[so],stL<|sOf (j+1) rows,b2,b3,b4,tb,gW (tys++[so]) rows⟩):
 CD D (k+7) (S b ⟨ktL<|KOf tys,stL<|sOf j rows,b2,b3,b4,tb,gW tys rows⟩) (.ref<|.inl 698) [rf 1 0,.int 1,.str<|dQ j,.int so,.int 0,.int (if so=1 then 12 else-1),.ref<|.inl pa] Q:=by
 subst hj;have hz:(sOf tys.length rows).types.length=64+tys.length:=e8 _;have e1:=zd tys.length rows;have e2:=λso=>xE (tys:=tys) (rows:=rows) (so:=so) hf;have hk:kok (sOf tys.length rows).names (.tup [.int 1,.str<|dQ tys.length,.int 0])=true:=JV (by rfl);have hnl:(sOf tys.length rows).names.length<=1000:=by change(nmK _).length<=_;rw[A2];omega
 have hnew:gW tys rows (sOf tys.length rows).types.length=[]:=by rw[hz];show ze
 rcases hso with rfl|rfl|rfl
 ·show tN (k:=k+4) W hp 3. hnew hk (sD 3.) hnl (qy hj3) ?_;rw[e1,hz];rw[z7 1.,<-e2 1]at h;show h
 ·by_cases q:2∈tys
  ·rw[show KOf tys=K3 from if_pos q];show r3 W hp 3. hnew hk (sD 3.) hnl (qy hj3) ?_;rw[e1,hz];rw[Dp,<-e2 2]at h;show h
  ·rw[show KOf tys=K2 from if_neg q];show tP W hp 3. hnew hk (sD 3.) hnl (qy hj3) ?_;rw[e1,hz];rw[Dp,<-e2 2]at h;show h
 ·show tO W hp 3. hnew hk (sD 3.) hnl (qy hj3) ?_;rw[e1,hz];rw[z7 1.,<-e2 3]at h;show h
theorem Ds(W:Lw D)(htl:tys.length=n)(hr:r.1=j)(hj:j<n)(hn:n<=3)(hz:rows.length<=50)
 (h:Q (.int (rows.length+1:Nat))<|S b ⟨ktL K,stL<|sOf n<|rows++[r],b2,oE rows++[fdR rows.length r .none],b4,tb,gW tys<|rows++[r]⟩):
 CD D (k+3) (S b ⟨ktL K,stL<|sOf n rows,b2,oE rows,b4,tb,gW tys rows⟩) (.ref<|.inl 705) [rf 1 0,.int (64+j:Nat),.str r.2.1,.int<|kdI r.2.2.1,.int 6,.int r.2.2.2] Q:=by
 subst htl;have hz2:(sOf tys.length rows).types.length=64+tys.length:=e8 _;have hz3:(sOf tys.length rows).flds.length=rows.length+1:=mH _;have hfl:(sB j rows).length<=900:=by
  unfold sB;rw[Ka];show Kc (List.length_filter_le _ _) (by simp;omega)
 show tQ W (t:=64+j) (uO hj) 3. 3. 3. hfl (t5 hj) ?_;rw[xD,hz3];have e:=vY (rows:=rows) hr hj;unfold Br at e;rw[e];unfold fdR at h;rw[hr]at h;show h
end
abbrev cZ(P:Params)(L:Addr):Env:=callEnvC (bc Kl.o_985) L 915
def mJ(P:Params)(i:Nat):Stmt:=(aO<|bc Kl.o_985).getD i default
structure KeepX(x:Addr)(b c:Kk):Prop where
 m: ∀a v,a≠x->b.m (.inl a)=some v->c.m (.inl a)=some v
 fr:b.fr=c.fr
 raw:b.raw=c.raw
theorem KeepX.refl(x:Addr)(b:Kk):KeepX x b b:=⟨λO O O h=>h,4.,4.⟩
theorem KeepX.set{x y:Addr}{c:Kk}(T:KeepX x b c)(h:c.m (.inl y)=none\/y=x):KeepX x b<|c.set (.inl y) v:=
 ⟨λa w ha e=>(bO _ _ (by
  rintro⟨⟩;rcases h with h|h
  ·rw[T.m _ _ ha e]at h;cases h
  ·show ha h)).trans<|T.m a w ha e,T.fr,T.raw⟩
noncomputable def allR(DD:List dD)(j:Nat):List dD:=(List.range j).flatMap λu=>DD.filter λr=>r.1==u
theorem eD(DD:List dD)(j:Nat):allR DD (j+1)=allR DD j++DD.filter λr=>r.1==j:=by
 unfold allR;rw[List.range_succ,List.flatMap_append];simp
theorem zf(DD:List dD)(j:Nat):(allR DD j).length<=j*DD.length:=by
 induction j with
 |zero=>simp[allR]
 |succ j ih=>
  rw[eD,Kd,Nat.succ_mul];show Nat.add_le_add ih<|List.length_filter_le _ _
theorem lr{r:dD}(h:r∈allR DD j):r∈DD/\r.1<j:=by
 obtain⟨u,hu,h⟩:=List.mem_flatMap.mp h;obtain⟨h1,h2⟩:=List.mem_filter.mp h;have:r.1=u:=by simpa using h2
 show⟨h1,by rw[this];show List.mem_range.mp hu⟩
theorem xI(h: ∀r∈rows,r.1≠j):sB j rows=[]:=by
 unfold sB;rw[List.map_eq_nil_iff,List.filter_eq_nil_iff];intro i hi;have hi:=List.mem_range.mp hi;rw[J7,J6 hi];simpa using h _ (List.getElem_mem hi)
theorem Dt(h:j<4):([.int 7,.int 13,.int 1,.int 17]:List MV)[j]? =some (.int<|kdI j):=by
 show allB.at (P:=λj=>([.int 7,.int 13,.int 1,.int 17]:List MV)[j]? =some (.int<|kdI j)) (n:=4) ⟨⟨⟨⟨trivial,4.⟩,4.⟩,4.⟩,4.⟩ h
theorem Du(h:j<3):([.int 5,.str<|-"t",.int 1,.none]:List MV)[j]? =some (coV j):=by
 show allB.at (P:=λj=>([.int 5,.str<|-"t",.int 1,.none]:List MV)[j]? =some (coV j)) (n:=3) ⟨⟨⟨trivial,4.⟩,4.⟩,4.⟩ h
theorem A5(h:j<3): ∃c,(-"ABC").cps[j]? =some c/\(⟨#[c]⟩:Str)=dQ j:=by
 show allB.at (P:=λj=> ∃c,(-"ABC").cps[j]? =some c/\(⟨#[c]⟩:Str)=dQ j) (n:=3) ⟨⟨⟨trivial,65,by decide+kernel,by decide+kernel⟩,66,by decide+kernel,by decide+kernel⟩,67,by decide+kernel,by decide+kernel⟩ h
section
variable{xd:Addr}
abbrev Dv(b:Kk)(xF:Addr)(tys:List Nat)(DD:List dD)(ρ:List<|String×MV)(j:Nat)(c:Kk)(ρ':List<|String×MV)(g':G):Prop:=And4 (g'=(⟨ktL<|KOf<|tys.take j,stL<|sOf j<|allR DD j,[],oE<|allR DD j,[],λO=>[],gW (tys.take j)<|allR DD j⟩:G)) (KeepX xF b c) (c.m (.inl xF)=some (.l<|(allR DD j).map fw)) (∀y,y≠"j"->y≠"tid"->y≠"row"->y≠"fid"->lk y ρ'=lk y ρ)
abbrev Dw(b:Kk)(xF:Addr)(j:Nat)(tys:List Nat)(DD:List dD)(ρ:List<|String×MV)(i:Nat)(c':Kk)(ρ'':List<|String×MV)(g':G):Prop:=And6 (g'=(⟨ktL<|KOf<|tys.take<|j+1,stL<|sOf (j+1)<|allR DD j++(DD.take i).filter λr=>r.1==j,[],oE<|allR DD j++(DD.take i).filter λr=>r.1==j,[],λO=>[],gW (tys.take<|j+1)<|allR DD j++(DD.take i).filter λr=>r.1==j⟩:G)) (KeepX xF b {c' with raw:=b.raw}) (c'.m (.inl xF)=some (.l<|(allR DD j++(DD.take i).filter λr=>r.1==j).map fw)) (∀y,y≠"j"->y≠"tid"->y≠"row"->y≠"fid"->lk y ρ''=lk y ρ) (lk "j" ρ''=some (.int j))<|lk "tid" ρ''=some (.int (64+j:Nat))
theorem A6(W:Lw D)(hn:tys.length<=3)(hso: ∀so∈tys,so=1\/so=2\/so=3)(hD:DD.length<=10)(hDD: ∀r∈DD,r.2.2.1<4/\(r.2.2.2=5->r.2.2.1<3))
 (h1:lk "store" ρ=some (rf 1 0))(h2:lk "types" ρ=some (.ref<|.inl xt))(h3:lk "drawn" ρ=some (.ref<|.inl xd))(h4:lk "kinds" ρ=some (.tup [.int 7,.int 13,.int 1,.int 17]))(h5:lk "count" ρ=some (.int tys.length))
 (exF:xd≠xF/\xt≠xF/\L+1+1≠xF)(hc:b.m (.inl<|L+1+1)=some (.c<|some<|.ref<|.inl xF))(hF:b.m (.inl xF)=some (.l []))(hd:b.m (.inl xd)=some (.l<|DD.map fw))(ht:b.m (.inl xt)=some (.l<|tys.map λn:Nat=>MV.int n))
 (h: ∀(c:Kk) (ρ':List<|String×MV),KeepX xF b c->c.m (.inl xF)=some (.l<|(allR DD tys.length).map fw)->(∀y,y≠"j"->y≠"tid"->y≠"row"->y≠"fid"->lk y ρ'=lk y ρ)->QF .next (S (c.push L ρ') (⟨ktL<|KOf tys,stL<|sOf tys.length<|allR DD tys.length,[],oE<|allR DD tys.length,[],λO=>[],gW tys<|allR DD tys.length⟩:G))):
 WF D (k+8) (S (b.push L ρ) ⟨ktL K2,stL<|sOf 0 [],[],[],[],λO=>[],td0⟩) (exec (mJ D.w.params 11)<|cZ D.w.params L) QF:=by
 show gI (L:=L)<|cb ?_;show ag (cw W) trivial<|aG 4. h5<|dG<|itv (n:=tys.length) (bt 3. 3. 3.)<|x8 (Dv b xF tys DD ρ) (λO O O O O O=>trivial) ⟨?_,KeepX.refl _ _,hF,λO O O O O=>4.⟩ ?_ ?_
 ·have e:gW (tys.take 0) (allR DD 0)=td0:=by
   funext t;unfold gW;rw[if_neg (by simp)]
  rw[e];rfl
 ·rintro j c ρ' g' R' hj ⟨rfl,T,hF',hk⟩;have al:=zf DD j;have al2:j*DD.length<=30:=Kc (Nat.mul_le_mul (show j<=3 by show oH ‹_› ‹_› 4.) hD) 1.;obtain⟨so,hso'⟩: ∃so,tys[j]? =some so:=⟨_,J6 hj⟩;have hs3:=hso so<|List.mem_of_getElem? hso';have htk:tys.take (j+1)=tys.take j++[so]:=by rw[List.take_add_one,hso'];rfl
  have htl:(tys.take j).length=j:=by rw[List.length_take];omega
  obtain⟨ch,hch,hcn⟩:=A5 (show j<3 by omega);show cJ _ 4.<|bx<|ag (vz W) (tw W)<|bo 4. (au<|(hk _ 1. 1. 1. 1.).trans h1)<|bp<|aa<|aX<|du ?_;show af 4. ad<|Ce 3. (by show gl ‹_› ‹_› 4.) (by rw[show(0+(j:Int)).toNat=j by omega];show hch)<|aa<|aX<|af 4. (au<|(hk _ 1. 1. 1. 1.).trans h2)<|af 4. ad<|bd (xs:=tys.map λn:Nat=>MV.int n) (T.m _ _ exF.2.1 ht) 3. (by show gl ‹_› ‹_› 4.) (by rw[show(0+(j:Int)).toNat=j by omega,Kh,hso'];rfl) ?_;show bp<|aa<|WP.mono (Q:=λm st'=>m=.int (if so=1 then 12 else-1)/\st'=S (({c with raw:=R'}:Kk).push L<|pt "j" (.int<|0+(j:Int)) ρ') (⟨ktL<|KOf<|tys.take j,stL<|sOf j<|allR DD j,[],oE<|allR DD j,[],λO=>[],gW (tys.take j)<|allR DD j⟩:G)) ?_ ?_
  ·show jr<|ae<|aX<|af 4. (au<|(hk _ 1. 1. 1. 1.).trans h2)<|af 4. ad<|bd (xs:=tys.map λn:Nat=>MV.int n) (T.m _ _ exF.2.1 ht) 3. (by show gl ‹_› ‹_› 4.) (by rw[show(0+(j:Int)).toNat=j by omega,Kh,hso'];rfl) ?_;show aA<|cA ?_;by_cases q:so=1
   ·show cf (by simp[q])<|aA ⟨by rw[if_pos q],4.⟩
   ·show ck (by simp;omega)<|bT<|aA<|gc ⟨by rw[if_neg q],4.⟩
  rintro O O ⟨rfl,rfl⟩;show aa<|bZ<|f9 λpa hpa=>?_;rw[bv,hcn];have hpa:c.m (.inl pa)=none:=hpa;show ab<|CL.of (j:=k+7) (Dq W htl 3. hs3 (xI λr hr=>by have:=(lr hr).2;show oa ‹_›) (ak ..) ?_) 3.;rw[<-htk];show dC _ 4. 4. ?_;have hpx:pa≠xF:=by rintro rfl;rw[hF']at hpa;cases hpa
  have T1:KeepX xF b<|{c with raw:=b.raw}.set (.inl pa)<|.l []:=(⟨T.m,T.fr,4.⟩:KeepX xF b {c with raw:=b.raw}).set<|.inl hpa;have hF1:(c.set (.inl pa)<|.l []).m (.inl xF)=some (.l<|(allR DD j).map fw):=(bO _ _ (by rintro⟨⟩;show hpx 4.)).trans hF';show ao<|gI (L:=L)<|cb ?_;show af 4. (au<|au<|(hk _ 1. 1. 1. 1.).trans h3)<|itv (n:=(DD.map fw).length) (dU (by show T1.m _ _ exF.1 hd))<|x8 (Dw b xF j tys DD ρ) (λi c' ρ'' g' R'' q=>q.2.m _ _ exF.1 hd) ⟨by simp,T1,by rw[List.take_zero,List.filter_nil,List.append_nil];show hF1,λy e1 e2 e3 e4=>by rw[aQ e2,aQ e1];show hk y e1 e2 e3 e4,?_,ad⟩ ?_ ?_
  ·rw[aQ 1.,ad];congr 2;omega
  ·rintro i c' ρ'' g' R'' hi ⟨rfl,T',hF'',hk',kj,kt⟩;rw[Ka]at hi;obtain⟨r,hr⟩: ∃r,DD[i]? =some r:=⟨_,J6 hi⟩;obtain⟨hr4,hr5⟩:=hDD r (List.mem_of_getElem? hr);have hrd:(DD.map fw).getD i .none=fw r:=GE hr;have htk2:(DD.take<|i+1).filter (λr=>r.1==j)=(DD.take i).filter (λr=>r.1==j)++if r.1==j then [r]else []:=by
    rw[List.take_add_one,hr,List.filter_append];simp only[Option.toList,List.filter_cons,List.filter_nil]
   have hzr:(allR DD j++(DD.take i).filter λr=>r.1==j).length<=40:=by
    rw[Kd];have:=List.length_filter_le (λr:dD=>r.1==j)<|DD.take i;rw[List.length_take]at this;omega
   rw[hrd];show cJ _ 4.<|ao<|bW<|ae<|aN 4. ad (i:=0) 1. 1. 4.<|af 4. (au kj)<|cA ?_;by_cases hrj:r.1=j
   ·show cf (by simp[hrj]) ?_;rw[if_pos (by simpa using hrj)]at htk2;have hlen':(tys.take<|j+1).length=j+1:=by rw[List.length_take];omega
    show bx<|ag (tm W) (rR W)<|bo 4. (au<|(hk' _ 1. 1. 1. 1.).trans h1)<|bo 4. (au kt)<|aa<|aN 4. ad (i:=1) 1. 1. 4.<|aa<|aX ?_;show af 4. (au<|(hk' _ 1. 1. 1. 1.).trans h4)<|aN 4. ad (i:=2) 1. 1. 4.<|cL 3. 3. (Dt hr4)<|bp<|aa<|aN 4. ad (i:=3) 1. 1. 4.<|ab ?_;obtain⟨rs,hrs⟩: ∃rs,(allR DD j++(DD.take i).filter λr=>r.1==j)=rs:=⟨_,4.⟩;rw[hrs]at hzr hF'' ⊢;show CL.of (j:=k+3) (Ds W (tys:=tys.take<|j+1) (j:=j) (n:=j+1) hlen' hrj 3. 3. 3. ?_) 3.;show gf _ 4. 4.<|aB<|WP.mono (Q:=λm st'=>m=n8 r/\st'=S (({c' with raw:=R''}:Kk).push L<|pt "fid" (.int (rs.length+1:Nat))<|pt "row" (fw r) ρ'') (⟨ktL<|KOf<|tys.take<|j+1,stL<|sOf (j+1)<|rs++[r],[],oE rs++[fdR rs.length r .none],[],λO=>[],gW (tys.take<|j+1)<|rs++[r]⟩:G)) ?_ ?_
    ·show jr<|ae<|aN 4. (au ad) (i:=3) 1. 1. 4.<|aA<|cA ?_;by_cases h5:r.2.2.2=5
     ·show cf (by simp[h5])<|aX<|aI<|bp<|aa<|du<|bp<|aa ?_;show dR<|ab<|ce<|aN 4. (au ad) (i:=2) 1. 1. 4.<|cL 3. 3. (Du<|hr5 h5) ⟨by unfold n8;rw[if_pos h5];rfl,4.⟩
     ·show ck (by simp;omega)<|dR ⟨by unfold n8;rw[if_neg h5],4.⟩
    rintro O O ⟨rfl,rfl⟩;show aX<|ah W 4. (au<|au<|(hk' _ 1. 1. 1. 1.).trans h1) 4. 4. (by nofun)<|af 4. ad<|bd (xs:=flL (rs++[r]).length) 4. 3. 3. (m:=rf 3 rs.length) (by rw[show((rs.length+1:Nat):Int).toNat=rs.length+1 by show Ak,Kd,List.length_singleton,uM,List.getElem?_append_right (by rw[mH];omega),mH,Nat.sub_self];rfl) ?_;show br (show(oE rs++[fdR rs.length r .none])[rs.length]? =_ by rw[List.getElem?_append_right (by rw[oF];omega),oF,Nat.sub_self];rfl) (by rw[W.K];kernel_rfl) ?_<|J9 4.;rw[HO (by rw[Kd,oF];show Nat.lt_succ_self _),List.set_append_right _ _ (by rw[oF];omega),oF,Nat.sub_self];rw[show([fdR rs.length r .none].set 0<|.n 645<|pt "value" (n8 r) [("fid",.int (rs.length+1:Nat)),("owner",.int (64+r.1:Nat)),("name",.str r.2.1),("kind",.int (kdI r.2.2.1)),("access",.int 6),("flags",.int r.2.2.2),("value",.none)])=[fdR rs.length r<|n8 r]from 4.,<-A3];show aH<|aW<|aq<|cK (by rfl) (T'.m _ _ exF.2.2 hc)<|bU hF'' Kf Ke<|az trivial<|aG 4. (au ad)<|bf hF'' (by rw[Ka];omega) ?_;show stc bv<|Km.next<|aT<|Km.next<|aT ?_;have hrs2:(allR DD j++(DD.take<|i+1).filter λr=>r.1==j)=rs++[r]:=by rw[htk2,<-List.append_assoc,hrs]
    show lc (c'.set (.inl xF)<|.l<|(rs.map fw)++[fw r]) ⟨λO O h=>h,4.,4.⟩ ⟨by rw[hrs2],?_,by rw[hrs2,Ki];show ak ..,λy e1 e2 e3 e4=>by rw[aQ e4,aQ e3];show hk' y e1 e2 e3 e4,au<|au kj,au<|au kt⟩;show KeepX.set T'<|.inr 4.
   ·show ck (by simp;omega) ?_;rw[if_neg (by simpa using hrj),List.append_nil]at htk2;show aT<|Km.next<|aT<|lc c' ⟨λO O h=>h,4.,4.⟩ ⟨by rw[htk2],T',by rw[htk2];show hF'',λy e1 e2 e3 e4=>by rw[aQ e3];show hk' y e1 e2 e3 e4,au kj,au kt⟩
  ·rintro c' ρ'' g' ⟨rfl,T',hF'',hk',kj,kt⟩;show Km.next<|aT ?_;rw[Ka,List.take_length,<-eD]at*;show lc {c' with raw:=b.raw} ⟨λO O h=>h,4.,4.⟩ ⟨4.,T',hF'',hk'⟩
 ·rintro c ρ' g' ⟨rfl,T,hF',hk⟩;rw[List.take_length];show h {c with raw:=b.raw} ρ' ⟨T.m,T.fr,4.⟩ hF' hk
end
section
theorem zg{x:MV}(h:qE x (.tup ms)=true):x=.tup ms:=by
 cases x<;>first|show gm _ _ h|show absurd h (by simp[qE])
theorem sE(xs:List MV)(ms:List MV):(cg xs<|.tup ms).1[(cg xs<|.tup ms).2]? =some (.tup ms):=by
 unfold cg;cases e:xs.findIdx? (λx=>qE x<|.tup ms)with
 |some j=>
  dsimp only;rw[List.findIdx?_eq_some_iff_getElem]at e;obtain⟨hj,hb,O⟩:=e;rw[J6 hj,zg hb]
 |none=>simp
structure PF(rows:List dD)(p0:PG)(R0:Nat->Option (List MV))(i:Nat)(p:PG)(os:List Nat)(R:Nat->Option (List MV))(frs:List jp)(cs:List uD):Prop where
 ts:p.ts=ei os
 TO:TOk os R
 tx:TxOk p.texts
 bb:BbOk p.blobs
 tl:p.texts.length<=20+i
 bl:p.blobs.length<=1+2*i
 ol:os.length<=13+(if i=0 then 0 else 1)+(if cs=[]then 0 else 1)
 len:frs.length=i
 cz:cs.length<=i
 r4:R 4=if i=0 then none else some (frs.map kE)
 r11:R 11=if cs=[]then none else some (cs.map qG)
 fr: ∀n,n<i-> ∃tn bn,frs[n]? =some (dO (rows.getD n d0).2.2.2,tn,bn)/\p.texts[tn]? =some (.str (rows.getD n d0).2.1)/\p.blobs[bn]? =some (.tup [.int 6,trO (rows.getD n d0).2.2.1])
 cc:cs.map (λc=>c.2.1)=((List.range i).filter<|eH rows).map (· +1)
 rest: ∀u,u≠4->u≠11->R u=R0 u
 pre:p0.texts<+:p.texts
 td:p.tids=p0.tids
variable{p0:PG}
theorem PF.g4(H:PF rows p0 R0 i p os R frs cs):(R 4).getD []=frs.map kE:=by
 rw[H.r4];by_cases e:i=0
 ·rw[if_pos e];have:=H.len;have:frs=[]:=List.length_eq_zero_iff.mp 3.;rw[this];rfl
 ·rw[if_neg e];rfl
theorem PF.g11(H:PF rows p0 R0 i p os R frs cs):(R 11).getD []=cs.map qG:=by
 rw[H.r11];by_cases e:cs=[]
 ·rw[if_pos e,e];rfl
 ·rw[if_neg e];rfl
theorem qz(os:List Nat)(R:Nat->Option (List MV))(t:Nat):(gU os R t).length<=os.length+if(R t).isSome then 0 else 1:=by
 unfold gU;split<;>simp
theorem PF.step0(H:PF rows p0 R0 i p os R frs cs)(hi:i<40)(hl:eH rows i=false):
 PF rows p0 R0 (i+1) {p with ts:=ei<|gU os R 4,texts:=(cg p.texts<|.str (rows.getD i d0).2.1).1,blobs:=(cg p.blobs<|.tup [.int 6,trO (rows.getD i d0).2.2.1]).1} (gU os R 4)
  (eF R 4<|.tup [.int<|dO (rows.getD i d0).2.2.2,.int (cg p.texts<|.str (rows.getD i d0).2.1).2,.int (cg p.blobs<|.tup [.int 6,trO (rows.getD i d0).2.2.1]).2])
  (frs++[(dO (rows.getD i d0).2.2.2,(cg p.texts<|.str (rows.getD i d0).2.1).2,(cg p.blobs<|.tup [.int 6,trO (rows.getD i d0).2.2.1]).2)]) cs where
 ts:=4.
 TO:=H.TO.add 1. (by have:=H.ol;split at this<;>split at this<;>omega) (by rw[H.g4,Ka,H.len];omega)
 tx:=gN H.tx _
 bb:=qk H.bb (mA _) nofun
 tl:=by have:=(dr p.texts<|.str (rows.getD i d0).2.1).1;have:=H.tl;change(cg _ _).1.length<=_;omega
 bl:=by have:=(dr p.blobs<|.tup [.int 6,trO (rows.getD i d0).2.2.1]).1;have:=H.bl;change(cg _ _).1.length<=_;omega
 ol:=by
  have h1:=qz os R 4;have h2:=H.ol;rw[H.r4]at h1;rw[if_neg<|Nat.succ_ne_zero i];by_cases e:i=0
  ·rw[if_pos e]at h1 h2;simp at h1;show wk ‹_› ‹_› 4.
  ·rw[if_neg e]at h1 h2;simp at h1;show uj ‹_› ‹_›
 len:=by rw[Kd,H.len];rfl
 cz:=by have:=H.cz;omega
 r4:=by unfold eF;rw[bm,H.g4,if_neg<|Nat.succ_ne_zero i,Ki];rfl
 r11:=by unfold eF;rw[bq 1.];show H.r11
 fr:=λn hn=>by
  by_cases e:n=i
  ·subst e;show⟨_,_,?_,fV H.tx _,sE _ _⟩;rw[List.getElem?_append_right (by rw[H.len];omega),H.len,Nat.sub_self];rfl
  ·obtain⟨tn,bn,h1,h2,h3⟩:=H.fr n (by show n9 ‹_› ‹_›);show⟨tn,bn,?_,dw (cX _ _) h2,dw (cX _ _) h3⟩;rw[List.getElem?_append_left (by rw[H.len];show n9 ‹_› ‹_›)];show h1
 cc:=by
  rw[List.range_succ,List.filter_append,Ki,H.cc];simp[hl]
 rest:=λu h1 h2=>by unfold eF;rw[bq h1];show H.rest u h1 h2
 pre:=H.pre.trans<|cX _ _
 td:=H.td
theorem PF.step1(H:PF rows p0 R0 i p os R frs cs)(hi:i<40)(hl:eH rows i=true):
 PF rows p0 R0 (i+1) {p with ts:=ei<|gU (gU os R 4) (eF R 4<|.tup [.int<|dO (rows.getD i d0).2.2.2,.int (cg p.texts<|.str (rows.getD i d0).2.1).2,.int (cg p.blobs<|.tup [.int 6,trO (rows.getD i d0).2.2.1]).2]) 11,texts:=(cg p.texts<|.str (rows.getD i d0).2.1).1,blobs:=(cg (cg p.blobs<|.tup [.int 6,trO (rows.getD i d0).2.2.1]).1<|.bytes<|coO (rows.getD i d0).2.2.1).1}
  (gU (gU os R 4) (eF R 4<|.tup [.int<|dO (rows.getD i d0).2.2.2,.int (cg p.texts<|.str (rows.getD i d0).2.1).2,.int (cg p.blobs<|.tup [.int 6,trO (rows.getD i d0).2.2.1]).2]) 11)
  (eF (eF R 4<|.tup [.int<|dO (rows.getD i d0).2.2.2,.int (cg p.texts<|.str (rows.getD i d0).2.1).2,.int (cg p.blobs<|.tup [.int 6,trO (rows.getD i d0).2.2.1]).2]) 11
   (.tup [.int<|coE (rows.getD i d0).2.2.1,.int<|4*(((R 4).getD []).length+1:Nat),.int (cg (cg p.blobs<|.tup [.int 6,trO (rows.getD i d0).2.2.1]).1<|.bytes<|coO (rows.getD i d0).2.2.1).2]))
  (frs++[(dO (rows.getD i d0).2.2.2,(cg p.texts<|.str (rows.getD i d0).2.1).2,(cg p.blobs<|.tup [.int 6,trO (rows.getD i d0).2.2.1]).2)])
  (cs++[(coE (rows.getD i d0).2.2.1,i+1,(cg (cg p.blobs<|.tup [.int 6,trO (rows.getD i d0).2.2.1]).1<|.bytes<|coO (rows.getD i d0).2.2.1).2)]):=by
 have o1:=H.ol;have l4:((R 4).getD []).length=i:=by rw[H.g4,Ka,H.len]
 have l11:((R 11).getD []).length<=i:=by rw[H.g11,Ka];show H.cz
 have e11: ∀m,eF R 4 m 11=R 11:=λm=>by unfold eF;rw[bq 1.]
 have a1:=qz os R 4;have o4:(gU os R 4).length<=15:=by
  rw[H.r4]at a1;by_cases e:i=0
  ·rw[if_pos e]at a1 o1;simp at a1;split at o1<;>show um ‹_› ‹_› 4.
  ·rw[if_neg e]at a1 o1;simp at a1;split at o1<;>omega
 show{
  ts:=4.
  TO:=(H.TO.add 1. (by split at o1<;>split at o1<;>omega) 3.).add 1. 3. (by rw[e11];omega)
  tx:=gN H.tx _
  bb:=qk (qk H.bb (mA _) nofun) 4. nofun
  tl:=by have:=(dr p.texts<|.str (rows.getD i d0).2.1).1;have:=H.tl;change(cg _ _).1.length<=_;omega
  bl:=by
   have h1:=(dr p.blobs<|.tup [.int 6,trO (rows.getD i d0).2.2.1]).1;have h2:=(dr (cg p.blobs<|.tup [.int 6,trO (rows.getD i d0).2.2.1]).1<|.bytes<|coO (rows.getD i d0).2.2.1).1;have:=H.bl;change(cg _ _).1.length<=_;omega
  ol:=by
   have a2:=qz (gU os R 4) (eF R 4<|.tup [.int<|dO (rows.getD i d0).2.2.2,.int (cg p.texts<|.str (rows.getD i d0).2.1).2,.int (cg p.blobs<|.tup [.int 6,trO (rows.getD i d0).2.2.1]).2]) 11;rw[e11,H.r11]at a2;rw[H.r4]at a1;rw[if_neg<|Nat.succ_ne_zero i,if_neg (by simp)];generalize(gU (gU os R 4) _ 11).length=z at a2 ⊢;by_cases e:i=0<;>by_cases e2:cs=[]
   ·rw[if_pos e]at a1 o1;rw[if_pos e2]at a2 o1;simp at a1 a2;omega
   ·rw[if_pos e]at a1 o1;rw[if_neg e2]at a2 o1;simp at a1 a2;show uj ‹_› ‹_›
   ·rw[if_neg e]at a1 o1;rw[if_pos e2]at a2 o1;simp at a1 a2;omega
   ·rw[if_neg e]at a1 o1;rw[if_neg e2]at a2 o1;simp at a1 a2;show uj ‹_› ‹_›
  len:=by rw[Kd,H.len];rfl
  cz:=by have:=H.cz;rw[Kd,List.length_singleton];omega
  r4:=by
   change eF _ 11 _ 4=_;unfold eF;rw[bq 1.,bm,H.g4,if_neg<|Nat.succ_ne_zero i,Ki];rfl
  r11:=by
   change eF _ 11 _ 11=_;rw[if_neg (by simp),eF,bm,e11,H.g11,Ki,l4];rfl
  fr:=λn hn=>by
   by_cases e:n=i
   ·subst e;show⟨_,_,?_,fV H.tx _,dw (cX _ _)<|sE _ _⟩;rw[List.getElem?_append_right (by rw[H.len];omega),H.len,Nat.sub_self];rfl
   ·obtain⟨tn,bn,h1,h2,h3⟩:=H.fr n (by show n9 ‹_› ‹_›);show⟨tn,bn,?_,dw (cX _ _) h2,dw (cX _ _)<|dw (cX _ _) h3⟩;rw[List.getElem?_append_left (by rw[H.len];show n9 ‹_› ‹_›)];show h1
  cc:=by
   rw[List.range_succ,List.filter_append,Ki,Ki,H.cc];simp[hl]
  rest:=λu h1 h2=>by unfold eF;rw[bq h2,bq h1];show H.rest u h1 h2
  pre:=H.pre.trans<|cX _ _
  td:=H.td}
end
theorem xJ(h:i<n):(flL n)[i+1]? =some (rf 3 i):=by
 unfold flL;rw[List.getElem?_cons_succ,Kh,List.getElem?_range h];rfl
theorem Ie(h:i<rows.length):(oE rows)[i]? =some (fdR i (rows.getD i d0)<|n8<|rows.getD i d0):=by
 unfold oE;rw[Kh,List.getElem?_range h];rfl
structure RowOk(tys:List Nat)(r:dD):Prop where
 own:r.1<tys.length
 kd:r.2.2.1<4
 fl:r.2.2.2=0\/r.2.2.2=1\/r.2.2.2=2\/r.2.2.2=5
 lit:r.2.2.2=5->r.2.2.1<3
theorem Ig(tys:List Nat):KT<|KOf tys:=by
 unfold KOf;split
 ·show KT3
 ·show KT2
theorem xK(h1:2<j)(h2:j<64):sh64[j]? =some .none:=by
 unfold sh64;rw[List.getElem?_set_ne (by show oa ‹_›),List.getElem?_set_ne 3.,List.getElem?_replicate,if_pos h2]
section
variable{p0:PG}{os0:List Nat}
inductive IF39_1(a:Addr)(b4:List Con)(R0:Nat->Option (List MV))(tys:List Nat)(rows:List dD)(ρ:List<|String×MV)(p0:PG)(i:Nat)(ρ':List<|String×MV)(g':G):Prop
 |mk (p:PG) (os:List Nat) (R:Nat->Option (List MV)) (frs:List jp) (cs:List uD) (h1:g'=(⟨ktL<|KOf tys,stL<|sOf tys.length rows,pgL a p,oE rows,b4,bQ R,gW tys rows⟩:G)) (h2:PF rows p0 R0 i p os R frs cs) (h3: ∀y,y≠"fid"->lk y ρ'=lk y ρ):IF39_1 a b4 R0 tys rows ρ p0 i ρ' g'
theorem A7(W:Lw D)(hn:tys.length<=3)(hso: ∀so∈tys,so=1\/so=2\/so=3)(hr: ∀r∈rows,RowOk tys r)(hz:rows.length<=30)
 (h1:lk "store" ρ=some (rf 1 0))(h2:lk "p" ρ=some (rf 2 0))(H0:PF rows p0 R0 0 p0 os0 R0 [] [])
 (h: ∀p os R frs cs (ρ':List<|String×MV),PF rows p0 R0 rows.length p os R frs cs->(∀y,y≠"fid"->lk y ρ'=lk y ρ)->QF .next (S (b.push L ρ') (⟨ktL<|KOf tys,stL<|sOf tys.length rows,pgL a p,oE rows,b4,bQ R,gW tys rows⟩:G))):
 WFc D (k+8) (S (b.push L ρ) (⟨ktL<|KOf tys,stL<|sOf tys.length rows,pgL a p0,oE rows,b4,bQ R0,gW tys rows⟩:G)) (exec (mJ D.w.params 15)<|cZ D.w.params L) QF:=by
 show AO (L:=L)<|cb ?_;show ag (cw W) trivial<|bp<|aa<|ag (bX W) trivial<|bE W 4. h1 4. 4. (by nofun)<|aS (xs:=flL rows.length) 4. (by rw[mH];omega) ?_;rw[mH];show ab<|ek<|itv (n:=rows.length) (bt 3. 3. 3.)<|HT (IF39_1 a b4 R0 tys rows ρ p0) (λO O O O O=>trivial) ⟨p0,os0,R0,[],[],4.,H0,λO O=>4.⟩ ?_ ?_
 ·rintro i ρ' g' R' hi ⟨p,os,R,frs,cs,rfl,H,hk⟩;show cJ _ 4. ?_;obtain⟨r,hri⟩: ∃r,rows[i]? =some r:=⟨_,J6 hi⟩;have hrd:rows.getD i d0=r:=gD hri;have ok:=hr r<|List.mem_of_getElem? hri;have hb3:=Ie hi;have s0:=λhl=>PF.step0 H (show i<40 by omega) hl;have s1:=λhl=>PF.step1 H (show i<40 by omega) hl;rw[hrd]at hb3 s0 s1;obtain⟨so,hso'⟩: ∃so,tys[r.1]? =some so:=⟨_,J6 ok.own⟩;have hs5:=hso so<|List.mem_of_getElem? hso';have htd:gW tys rows (64+r.1)=Br r.1 so (sB r.1 rows):=by
   have:=t5 (rows:=rows) ok.own;rw[J7,hso']at this;show this
  have hown:=ok.own;have htl:=H.tl;have hbl:=H.bl;have hol:=H.ol;have hol:os.length<50:=by split at hol<;>split at hol<;>omega
  have hcz:=H.cz;have hg4:((R 4).getD []).length<900:=by rw[H.g4,Ka,H.len];omega
  have hg11:((R 11).getD []).length<900:=by rw[H.g11,Ka];omega
  show aD<|jx<|b8<|aP (rH W)<|az (pR W)<|WP.c<|bo 4. (au<|(hk _ 1.).trans h2)<|aa ?_;show aX<|ah W 4. (au<|(hk _ 1.).trans h1) 4. 4. (by nofun)<|af 4. ad<|bd (xs:=flL rows.length) 4. 3. 3. (by rw[show((1:Int)+(i:Int)).toNat=i+1 by show Jq];show xJ hi)<|ab ?_;cases hl:eH rows i with
  |false=>
   have hf:(r.2.2.2:Int)≠5:=by
    intro e;unfold eH at hl;rw[hrd,e]at hl;simp at hl
   show CLc.of<|CL.of (j:=k+7) (ql W (i:=r.2.2.1) (fid:=i+1) (ow:=64+r.1) ok.kd (Ig tys) 3. (xJ hi) hb3 (by change(tyL _).length<=_;rw[e8];omega) 3. (uO ok.own) htd 3. H.ts H.TO H.tx 3. H.bb 3. hg4 (by rcases ok.fl with e|e|e|e<;>rw[e]<;>first|rfl|show absurd (by rw[e];rfl) hf) ?_) 3.;show Km.next<|j5<|en (Kr.refl _) ⟨_,_,_,_,_,4.,s0 hl,λy e=>by rw[aQ e];show hk y e⟩
  |true=>
   have hf:r.2.2.2=5:=by
    unfold eH at hl;rw[hrd]at hl;have:(r.2.2.2:Int)=5:=by simpa using hl
    omega
   have hval:n8 r=coV r.2.2.1:=by unfold n8;rw[if_pos hf]
   rw[hval]at hb3;show CLc.at (j:=k+7) (qm W (i:=r.2.2.1) (fid:=i+1) (ow:=64+r.1) ok.kd (Ig tys) 3. (xJ hi) hb3 (by change(tyL _).length<=_;rw[e8];omega) 3. (uO ok.own) htd 3. H.ts H.TO H.tx 3. H.bb 3. hg4 (by rw[hf];decide) (by rw[hf];decide) (ok.lit hf) (by change _<(tyL _).length;rw[e8];omega) (λj h1 h2=>by change(tyL _)[j]? =_;rw[xG 3.];show xK h1 3.) hol hg11 ?_) 3.;show Km.next<|j5<|en (Kr.refl _) ⟨_,_,_,_,_,4.,s1 hl,λy e=>by rw[aQ e];show hk y e⟩
 ·rintro ρ' g' ⟨p,os,R,frs,cs,rfl,H,hk⟩;show h p os R frs cs ρ' H hk
end
noncomputable def tyV(ss:List Int)(j:Nat):Int:=if 1+j<ss.length then ss.getD (1+j) 0 else j
noncomputable def ty3:Nat->Nat|0=>1|1=>3|_=>2
def tyOf(ss:List Int)(j:Nat):Nat:=ty3 (tyV ss j%3).toNat
noncomputable def tysOf(ss:List Int)(n:Nat):List Nat:=(List.range n).map<|tyOf ss
theorem xL(ss:List Int)(n:Nat):(tysOf ss n).length=n:=by simp[tysOf]
theorem A8(h:j<3):([.int 1,.int 3,.int 2]:List MV)[j]? =some (.int (ty3 j:Nat)):=by
 match j,h with
 |0,_|1,_|2,_=>rfl
theorem zh(h:so∈tysOf ss n):so=1\/so=2\/so=3:=by
 obtain⟨j,O,rfl⟩:=List.mem_map.mp h;unfold tyOf;generalize(tyV ss j%3).toNat=q
 match q with
 |0=>show .inl 4.
 |1=>show .inr<|.inr 4.
 |_+2=>show .inr<|.inl 4.
theorem zi(F:Nat->MV)(n:Nat):bj (λO=>true) F n=(List.range n).map F:=by
 unfold bj;congr 1;show List.filter_eq_self.mpr λO O=>4.
section
theorem A9(W:Lw D)(hz:ss.length<=100)(hn:n<=3)(h1:lk "count" ρ=some (.int n))(hc:b.m (.inl<|L+1+0)=some (.c<|some<|.ref<|.inl a0))(hs: ∀st,LAt D st (.inl a0) (ss.map .int))
 (h: ∀x,b.m (.inl x)=none->QF .next (S ((b.set (.inl x)<|.l<|(tysOf ss n).map λt:Nat=>MV.int t).push L<|pt "types" (.ref<|.inl x) ρ) g)):
 WF D (k+1) (S (b.push L ρ) g) (exec (mJ D.w.params 2)<|cZ D.w.params L) QF:=by
 show qv (cb ?_) (cl:=[(Str.ofString "script",L+1+0)]) 4.;show ag (cw W) trivial<|aG 4. h1<|dG<|itv (n:=n) (bt 3. 3. 3.)<|vW (λO=>true) (λj=>.int (tyOf ss j:Nat)) 3. (λO O O O=>trivial) trivial ?_ ?_
 ·intro i C st hi CA;show qY ⟨4.,4.,λO=>?_⟩;have b1:(0:Int)<=tyV ss i%3/\tyV ss i%3<3:=by omega
  show aX<|aI<|bp<|bp<|bp<|ab<|ce<|aC ?_;show WP.mono (Q:=λm st'=>m=.int (tyV ss i)/\st'=st) ?_ ?_
  ·show jr<|ae<|aC<|aA<|af CA.fr 4.<|dP<|ag (bX W) trivial<|aa ?_;show cK 4. (CA.m _ _ hc)<|ab<|ig (hs _) (by rw[Ka];omega)<|oS<|aK ?_;rw[Ka];by_cases q:1+i<ss.length
   ·show cf (by simp;omega)<|aX<|cK 4. (CA.m _ _ hc)<|aC<|aA<|af CA.fr 4.<|dP<|oW (hs _) 3. 3. (by rw[show((1:Int)+(0+(i:Int))).toNat=1+i by show GF,Kh,J6 q];rfl) ?_;show⟨?_,4.⟩;unfold tyV;rw[if_pos q,J7,J6 q];rfl
   ·show ck (by simp;omega)<|af CA.fr 4. ⟨?_,4.⟩;unfold tyV;rw[if_neg q];change MV.int (0+(i:Int))=_;rw[Int.zero_add]
  rintro O O ⟨rfl,rfl⟩;show aA<|ju 1.<|cL b1.1 3. (A8 (by show BK ‹_›)) ⟨4.,4.⟩
 intro x hx;rw[zi,show((List.range n).map λj=>MV.int (tyOf ss j:Nat))=(tysOf ss n).map λt:Nat=>MV.int t by rw[tysOf,List.map_map];rfl];show asg _ 4. 4.<|h x hx
def ci(rows:List dD):List MV:=((List.range rows.length).filter λi=>(rows.getD i d0).2.1==mt).map λi=>told3 4 (i+1) "name"
theorem Ba(W:Lw D)(hz:rows.length<=100)(hc:b.m (.inl<|L+1+1)=some (.c<|some<|.ref<|.inl xF))(hs:b.m (.inl xF)=some (.l<|rows.map fw))
 (h: ∀x,b.m (.inl x)=none->QF .next (S ((b.set (.inl x)<|.l<|ci rows).push L<|pt "names" (.ref<|.inl x) ρ) g)):
 WF D (k+1) (S (b.push L ρ) g) (exec (mJ D.w.params 16)<|cZ D.w.params L) QF:=by
 show qv (cb ?_) (cl:=[(Str.ofString "fields",L+1+1)]) 4.;show ag (cw W) trivial<|aa<|ag (bX W) trivial<|aa<|cK (by rfl) hc<|ab<|aS hs (by rw[Ka];omega) ?_;rw[Ka];show ab<|dG<|itv (n:=rows.length) (bt 3. 3. 3.)<|vW (λi=>(rows.getD i d0).2.1==mt) (λi=>.tup [.int 4,.int<|0+(i:Int)+1,.str<|-"name"]) 3. (λO O O O=>trivial) trivial ?_ ?_
 ·intro i C st hi CA;have hget:(rows.map fw)[(0+(i:Int)).toNat]? =some (fw<|rows.getD i d0):=by
   rw[show(0+(i:Int)).toNat=i by omega,Kh,J6 hi,J7,J6 hi];rfl
  show iK<|ae<|aX<|aX<|cK 4. (CA.m _ _ hc)<|af CA.fr 4.<|bd (CA.m _ _ hs) 3. (by show gl ‹_› ‹_› 4.) hget<|aA ?_;show cL (i:=1) 1. 1. 4.<|du<|Ao<|aK ⟨4.,4.,λO=>?_⟩;show aI<|bp<|aa<|aC<|af CA.fr 4.<|aA<|dP<|aa ?_;show du<|ab<|ce ⟨4.,4.⟩
 intro x hx;have e:bj (λi=>(rows.getD i d0).2.1==mt) (λi=>.tup [.int 4,.int<|0+(i:Int)+1,.str<|-"name"]) rows.length=ci rows:=by
  unfold bj ci;show List.map_congr_left λi O=>?_;unfold told3;rw[show(0+(i:Int)+1)=((i+1:Nat):Int) by omega];rfl
 rw[e];show asg _ 4. 4.<|h x hx
end
structure KeepL(xs:List Addr)(b c:Kk):Prop where
 m: ∀a v,a∉xs->b.m (.inl a)=some v->c.m (.inl a)=some v
 fr:b.fr=c.fr
 raw:b.raw=c.raw
theorem KeepL.refl(xs:List Addr)(b:Kk):KeepL xs b b:=⟨λO O O h=>h,4.,4.⟩
theorem KeepL.set{xs:List Addr}{y:Addr}{c:Kk}(T:KeepL xs b c)(h:c.m (.inl y)=none\/y∈xs):KeepL xs b<|c.set (.inl y) v:=
 ⟨λa w ha e=>(bO _ _ (by
  rintro⟨⟩;rcases h with h|h
  ·rw[T.m _ _ ha e]at h;cases h
  ·show ha h)).trans<|T.m a w ha e,T.fr,T.raw⟩
theorem bK{x y:Addr}{w:Option Con}(h:y≠x)(e:b.m (.inl y)=w):(b.set (.inl x) v).m (.inl y)=w:=(bO _ _ (by rintro⟨⟩;show h 4.)).trans e
noncomputable def ya(r:dD):MV:=.tup [.int r.1,.str r.2.1,.int r.2.2.1]
def rw3(rows:List dD)(i:Nat):dD:=rows.getD i d0
def twP(rows:List dD)(n:Nat):Bool:=(List.range n).any λm=>c7 (ya<|rw3 rows m)<|ya<|rw3 rows n
def faP(tys:List Nat)(rows:List dD)(n:Nat):Bool:=((tys.getD (rw3 rows n).1 0:Nat):Int)==3&&[MV.int 0,.int 2].any λz=>c7 z<|.int (rw3 rows n).2.2.2
def eI(rows:List dD)(i:Nat):List MV:=((List.range i).filter<|twP rows).map λn=>told3 4 (n+1) "twice"
def e9(tys:List Nat)(rows:List dD)(i:Nat):List MV:=((List.range i).filter<|faP tys rows).map λn=>told3 4 (n+1) "iface"
theorem vZ(p:Nat->Bool)(F:Nat->MV)(n:Nat):(!(bj p F n).isEmpty)=(List.range n).any p:=by
 unfold bj;generalize List.range n=l;induction l with
 |nil=>rfl
 |cons x r ih=>
  rw[List.filter_cons,List.any_cons,<-ih];cases p x<;>simp
section
variable{xT xA:Addr}
abbrev Dx(b:Kk)(L:Addr)(xT:Addr)(xA:Addr)(tys:List Nat)(rows:List dD)(g:G)(ρ:List<|String×MV)(i:Nat)(c:Kk)(ρ':List<|String×MV)(g':G):Prop:=And6 (g'=g) (ρ'=ρ) (KeepL [xT,xA,L+1+2] b {c with raw:=b.raw}) (c.m (.inl xT)=some (.l<|eI rows i)) (c.m (.inl xA)=some (.l<|e9 tys rows i))<|∃m,c.m (.inl<|L+1+2)=some (.c m)
abbrev Dy(b:Kk)(L:Addr)(xT:Addr)(xA:Addr)(i:Nat)(tys:List Nat)(rows:List dD)(g':G)(R':List<|Addr×Obj)(ρ':List<|String×MV)(st':Kk):Prop:= ∃c2:Kk,And6 (st'=S (c2.push L ρ') g') (KeepL [xT,xA,L+1+2] b {c2 with raw:=b.raw}) (c2.raw=R') (c2.m (.inl xT)=some (.l<|eI rows<|i+1)) (c2.m (.inl xA)=some (.l<|e9 tys rows i)) (c2.m (.inl<|L+1+2)=some (.c<|some<|.int<|0+(i:Int)))
theorem Bb(W:Lw D)(hz:rows.length<=100)(hn:tys.length<=3)(hr: ∀r∈rows,r.1<tys.length)
 (k1:lk "twice" ρ=some (.ref<|.inl xT))(k2:lk "faces" ρ=some (.ref<|.inl xA))(k3:lk "types" ρ=some (.ref<|.inl xt))
 (hT:b.m (.inl xT)=some (.l []))(hA:b.m (.inl xA)=some (.l []))(hcn: ∃m,b.m (.inl<|L+1+2)=some (.c m))(hc:b.m (.inl<|L+1+1)=some (.c<|some<|.ref<|.inl xF))(hs:b.m (.inl xF)=some (.l<|rows.map fw))(ht:b.m (.inl xt)=some (.l<|tys.map λn:Nat=>MV.int n))
 (d1:xT≠xA/\xT≠L+1+2/\xA≠L+1+2)(d2:xF≠xT/\xF≠xA/\xF≠L+1+2)(d3:xt≠xT/\xt≠xA/\xt≠L+1+2)(d4:L+1+1≠xT/\L+1+1≠xA)
 (h: ∀c,KeepL [xT,xA,L+1+2] b c->c.m (.inl xT)=some (.l<|eI rows rows.length)->c.m (.inl xA)=some (.l<|e9 tys rows rows.length)->QF .next (S (c.push L ρ) g)):
 WF D (k+1) (S (b.push L ρ) g) (exec (mJ D.w.params 19)<|cZ D.w.params L) QF:=by
 have nF:xF∉[xT,xA,L+1+2]:=by simp;show d2
 have nt:xt∉[xT,xA,L+1+2]:=by simp;show d3
 have nc:L+1+1∉[xT,xA,L+1+2]:=by simp;show d4
 show gI (L:=L)<|cb ?_;show ag (cw W) trivial<|aa<|ag (bX W) trivial<|aa<|cK (by rfl) hc<|ab<|aS hs (by rw[Ka];omega) ?_;rw[Ka];show ab<|dG<|itv (n:=rows.length) (bt 3. 3. 3.)<|x8 (Dx b L xT xA tys rows g ρ) (λO O O O O O=>trivial) ⟨4.,4.,KeepL.refl _ _,hT,hA,hcn⟩ ?_ ?_
 ·rintro i c ρ' g' R' hi ⟨rfl,rfl,T,hT,hA,m0,hm0⟩;show qX (c:=L+1+2) (by rfl) ⟨m0,hm0,?_⟩;show WP.stq bv ?_;generalize hc1:({c with raw:=R'}:Kk).set (.inl<|L+1+2) (.c<|some<|.int<|0+(i:Int))=c1;have T1:KeepL [xT,xA,L+1+2] b {c1 with raw:=b.raw}:=by rw[<-hc1];show KeepL.set (c:={c with raw:=b.raw}) T<|.inr (by simp)
  have r1:c1.raw=R':=by rw[<-hc1];rfl
  have cn:c1.m (.inl<|L+1+2)=some (.c<|some<|.int<|0+(i:Int)):=by rw[<-hc1];show ak ..
  have hT1:c1.m (.inl xT)=some (.l<|eI rows i):=by rw[<-hc1];show bK d1.2.1 hT
  have hA1:c1.m (.inl xA)=some (.l<|e9 tys rows i):=by rw[<-hc1];show bK d1.2.2 hA
  have hcF:c1.m (.inl<|L+1+1)=some (.c<|some<|.ref<|.inl xF):=T1.m _ _ nc hc;have hF1:c1.m (.inl xF)=some (.l<|rows.map fw):=T1.m _ _ nF hs;have hget: ∀m:Nat,m<=i->(rows.map fw)[(0+(m:Int)).toNat]? =some (fw<|rw3 rows m):=λm hm=>by
   unfold rw3;rw[show(0+(m:Int)).toNat=m by omega,Kh,J6 (by show zB ‹_› ‹_›),J7,J6 (by show zB ‹_› ‹_›)];rfl
  have s1:=dj (twP rows) (λn=>told3 4 (n+1) "twice") i;have s2:=dj (faP tys rows) (λn=>told3 4 (n+1) "iface") i;have l1:=fX (twP rows) (λn=>told3 4 (n+1) "twice") i;have l2:=fX (faP tys rows) (λn=>told3 4 (n+1) "iface") i;have hown:(rw3 rows i).1<tys.length:=by
   unfold rw3;rw[J7,J6 hi];show hr _<|List.getElem_mem hi
  show ao<|vR (Dy b L xT xA i tys rows g' R' ρ') ?_ ?_
  ·show bW<|cI<|xx (cl:=[(Str.ofString "n",L+1+2),(Str.ofString "fields",L+1+1)]) (cb ?_) 4.;show ag (cw W) trivial<|aa<|cK (by rfl) cn<|ab<|dG<|itv (n:=i) (bt 3. 3. (by show gl ‹_› ‹_› 4.))<|vW (λm=>c7 (ya<|rw3 rows m)<|ya<|rw3 rows i) (λm=>.int<|0+(m:Int)) (by show oH ‹_› ‹_› 4.) (λO O O O=>trivial) trivial ?_ λx hx=>?_
   ·intro m C st hm CA;show iK<|ae<|gQ<|aX<|cK 4. (CA.m _ _ hcF)<|af CA.fr 4.<|bd (CA.m _ _ hF1) 3. 3. (hget m 3.) ?_;change WV _ _ _ _ _;show aA ⟨_,4.,?_⟩;show zM (b:=3) (by simp) (by simp)<|gQ<|aX<|cK 4. (CA.m _ _ hcF)<|cK 4. (CA.m _ _ cn)<|bd (CA.m _ _ hF1) 3. (by show gl ‹_› ‹_› 4.) (hget i<|Kj _) ?_;change WV _ _ _ _ _;show aA ⟨_,4.,?_⟩;show zM (b:=3) (by simp) (by simp)<|Cd 4. 4. (by simp[v7,lE])<|aK ⟨4.,4.,λO=>?_⟩;show af CA.fr 4. ⟨4.,4.⟩
   have hx:c1.m (.inl x)=none:=hx;have U:KeepL [xT,xA,L+1+2] b {c1.set (.inl x) (.l<|bj (λm=>c7 (ya<|rw3 rows m)<|ya<|rw3 rows i) (λm=>.int<|0+(m:Int)) i)with raw:=b.raw}:=KeepL.set (c:={c1 with raw:=b.raw}) T1<|.inl hx;have ne: ∀{y v},c1.m (.inl y)=some v->y≠x:=λe q=>by subst q;rw[hx]at e;cases e
   show B8 (ak ..) (Kc (oj _ _ _) (by show oH ‹_› ‹_› 4.)) ?_;rw[vZ];change if twP rows i=true then _ else _
   cases hb:twP rows i with
   |true=>
    rw[hb]at s1;show cf 4.<|ao<|aW<|aq<|af 4. k1<|bU (bK (ne hT1) hT1) Kf Ke<|az trivial<|aa ?_;show aI<|bp<|aa<|aC<|cK (by rfl) (bK (ne cn) cn)<|aA<|dP<|aa ?_;show du<|ab<|ce<|ab<|bf (bK (ne hT1) hT1) (by unfold eI;omega)<|stc bv<|Km.next<|aT ?_;show⟨4.,_,4.,KeepL.set (c:={c1.set (.inl x) _ with raw:=b.raw}) U<|.inr (by simp),r1,?_,bK d1.1.symm<|bK (ne hA1) hA1,bK d1.2.1.symm<|bK (ne cn) cn⟩;have e:eI rows (i+1)=eI rows i++[told3 4 (i+1) "twice"]:=by unfold eI;rw[s1];rfl
    rw[e];unfold told3;rw[show((i+1:Nat):Int)=0+(i:Int)+1 by omega];show ak ..
   |false=>
    rw[hb]at s1;show ck 4.<|aT ⟨4.,_,4.,U,r1,?_,bK (ne hA1) hA1,bK (ne cn) cn⟩;have e:eI rows (i+1)=eI rows i:=by unfold eI;rw[s1];simp
    rw[e];show bK (ne hT1) hT1
  rintro st' ⟨c2,rfl,T2,r2,hT2,hA2,cn2⟩;have hcF:c2.m (.inl<|L+1+1)=some (.c<|some<|.ref<|.inl xF):=T2.m _ _ nc hc;have hF2:c2.m (.inl xF)=some (.l<|rows.map fw):=T2.m _ _ nF hs;have ht2:c2.m (.inl xt)=some (.l<|tys.map λn:Nat=>MV.int n):=T2.m _ _ nt ht;show dE<|AU (faP tys rows i) ?_ ?_
  ·show aF<|aU<|ae<|aX<|af 4. k3<|aX<|aX<|cK (by rfl) hcF ?_;show cK (by rfl) cn2<|bd hF2 3. (by show gl ‹_› ‹_› 4.) (hget i<|Kj _)<|aA<|cL (i:=0) 1. 1. 4.<|bd ht2 3. 3. (m:=.int (tys.getD (rw3 rows i).1 0:Nat)) (by rw[show(((rw3 rows i).1:Nat):Int).toNat=(rw3 rows i).1 by show Ak,Kh,J6 hown,J7,J6 hown];rfl) ?_;show aA<|cA ?_;cases hq:(((tys.getD (rw3 rows i).1 0:Nat):Int)==3)with
   |false=>
    show ck 4. ⟨by unfold faP;rw[hq];rfl,4.⟩
   |true=>
    show cf 4.<|aU<|ae<|aX<|aX<|cK (by rfl) hcF<|cK (by rfl) cn2<|bd hF2 3. (by show gl ‹_› ‹_› 4.) (hget i<|Kj _) ?_;show aA<|cL (i:=3) 1. 1. 4.<|aI<|bp<|bp<|ab<|ce<|At 4. 4. 1. ?_;show aK ?_;cases hw:[MV.int 0,.int 2].any λz=>c7 z<|.int (rw3 rows i).2.2.2 with
    |false=>
     show ck 4. ⟨by unfold faP;rw[hq,hw];rfl,4.⟩
    |true=>
     show cf 4.<|fb ⟨by unfold faP;rw[hq,hw];rfl,4.⟩
  cases hb:faP tys rows i with
  |true=>
   rw[hb]at s2;show cf 4.<|ao<|aW<|aq<|af 4. k2<|bU hA2 Kf Ke<|az trivial<|aa ?_;show aI<|bp<|aa<|aC<|cK (by rfl) cn2<|aA<|dP<|aa ?_;show du<|ab<|ce<|ab<|bf hA2 (by unfold e9;omega)<|stc bv<|Km.next<|aT ?_;show Km.next<|aT ?_;have e:e9 tys rows (i+1)=e9 tys rows i++[.tup [.int 4,.int<|0+(i:Int)+1,.str<|-"iface"]]:=by
    unfold e9;rw[s2];unfold told3;rw[show((i+1:Nat):Int)=0+(i:Int)+1 by omega];rfl
   show lc (c2.set (.inl xA)<|.l<|e9 tys rows i++[.tup [.int 4,.int<|0+(i:Int)+1,.str<|-"iface"]]) ⟨λO O h=>h,4.,r2.symm⟩ ⟨4.,4.,KeepL.set (c:={c2 with raw:=b.raw}) T2<|.inr (by simp),bK d1.1 hT2,by rw[e];show ak ..,_,bK d1.2.2.symm cn2⟩
  |false=>
   rw[hb]at s2;show g8 4.<|aT ?_;have e:e9 tys rows (i+1)=e9 tys rows i:=by unfold e9;rw[s2];simp
   show lc c2 ⟨λO O h=>h,4.,r2.symm⟩ ⟨4.,4.,T2,hT2,by rw[e];show hA2,_,cn2⟩
 ·rintro c ρ' g' ⟨rfl,rfl,T,hT,hA,O⟩;show h _ T hT hA
end
noncomputable def sF(ss:List Int):Int:=if ss=[]then 1 else ss.getD 0 0
def cntOf(ss:List Int):Nat:=(1+sF ss/16%3).toNat
theorem zj(ss:List Int):((cntOf ss:Nat):Int)=1+sF ss/16%3/\0<cntOf ss/\cntOf ss<=3:=by unfold cntOf;show G7
def cR(P:Params)(n:Nat):List Stmt:=(aO<|bc Kl.o_985).drop n
section
theorem Bc(W:Lw D){n:Nat}(hl1: ∃m,b.m (.inl<|L+1+1)=some (.c m))
 (h: ∀c xF,KeepL [L+1+1] b c->b.m (.inl xF)=none->c.m (.inl xF)=some (.l [])->c.m (.inl<|L+1+1)=some (.c<|some<|.ref<|.inl xF)->WFc D (k+8) (S (c.push L<|pt "kinds" (.tup [.int 7,.int 13,.int 1,.int 17])<|pt "store" (rf 1 0) ρ) ⟨ktL K2,stL<|sOf 0 [],[],[],[],λO=>[],td0⟩) (execs (cR D.w.params 11)<|cZ D.w.params L) QF):
 WFc D (k+8) (S (b.push L ρ) ⟨[],[],[],[],[],λO=>[],λO=>[]⟩) (execs (cR D.w.params 4)<|cZ D.w.params L) QF:=by
 show aD<|WP.c ?_;show aR<|ag (AB W) (yK W)<|ab<|CL.of (j:=k+4) (AN W λax ay=>?_) 3.;show dC _ 4. 4. ?_;have q1:lk "store" (pt "store" (rf 1 0) ρ)=some (rf 1 0):=ad;show aD<|WP.c ?_;show aB<|dS<|aa<|du<|aa<|du<|ab<|ce ?_;show lb 1 4 4.<|af 4. q1<|br 4. (by rw[W.K];kernel_rfl) ?_<|J9 4.;show tJ (vK (by rfl)) (fu (by show dB 4.))<|Km.next<|aD<|WP.c ?_;show aB<|aC<|dS<|aa<|dR<|ab<|ce<|f9 λy hy=>?_;show stc bv ?_;have hy:b.m (.inl y)=none:=hy;show aA<|wO (ak ..) 1. (by simp) 1.<|lb 1 5 4.<|af 4. q1<|br 4. (by rw[W.K];kernel_rfl) ?_<|J9 4.;show tJ (vK (by rfl)) (fu (by show dB 4.))<|Km.next ?_;change WFc D (k+8) (S ((b.set (.inl y)<|.l [.none]).push L<|pt "store" (rf 1 0) ρ) ⟨ktL<|Kn 16,stL ⟨[.none],[.none],[],IF,List.replicate 64 .none⟩,[],[],[],λO=>[],λO=>[]⟩) (execs (cR D.w.params 7)<|cZ D.w.params L) QF;show aD<|WP.c ?_;show aW<|ag (lV W) (kz W)<|bo 4. q1<|@aa _ _ _ _ _ _ _ _ (@aI _ _ _ _ _ _ _ _<|bp<|aa<|du ?_) 4.;show bp<|bp<|bp<|aa<|aI<|ab<|ce<|aa ?_;show aI<|ab<|ce<|ab<|ce<|ab<|CL.of (j:=k+3) (mj W (t:=1) 1. 1. 4. 2. List.nodup_nil 1. 2. ?_) 3.;show Km.next<|aD<|WP.c ?_;show aW<|ag (lV W) (kz W)<|bo 4. q1<|@aa _ _ _ _ _ _ _ _ (@aI _ _ _ _ _ _ _ _<|bp<|aa<|du ?_) 4.;show bp<|bp<|bp<|aa<|aI<|ab<|ce<|aa ?_;show aI<|ab<|ce<|ab<|ce<|ab<|CL.of (j:=k+3) (mj W (t:=2) 1. 1. (bq 1.) 2. (List.pairwise_singleton _ _) 1. 2. ?_) 3.;show Km.next ?_;change WFc D (k+8) (S ((b.set (.inl y)<|.l [.none]).push L<|pt "store" (rf 1 0) ρ) ⟨ktL<|Kn 16,stL<|sOf 0 [],[],[],[],λO=>[],td0⟩) (execs (cR D.w.params 9)<|cZ D.w.params L) QF;show aD<|WP.c ?_;show aR<|aI<|bp<|bp<|bp<|aa<|ag (rF W) (pO W)<|b5 W 4. q1 4. 4. (by nofun) ?_;show aa<|ag (vC W) (tv W)<|b5 W 4. q1 4. 4. (by nofun)<|bp<|ab<|CL.of (j:=k+5) (vM W ?_) 3.;show ab<|CL.of (j:=k+5) (r0 W ?_) 3.;show ab<|ce<|dC _ 4. 4.<|aD<|WP.c ?_;show qT (c:=L+1+1) (by rfl)<|bZ<|f9 λxF hxF=>(stc bv ?_);have hxF:(b.set (.inl y)<|.l [.none]).m (.inl xF)=none:=hxF;obtain⟨m0,hm0⟩:=hl1;have hLy:L+1+1≠y:=by rintro q;rw[<-q]at hy;rw[hm0]at hy;cases hy
 have hLF:L+1+1≠xF:=by rintro q;rw[<-q,bK hLy hm0]at hxF;cases hxF
 show⟨m0,bK hLF<|bK hLy hm0,?_⟩;show stc bv<|Km.next ?_;have hbF:b.m (.inl xF)=none:=(Kr.set hy).none hxF;show h _ xF (KeepL.set (KeepL.set (KeepL.set (KeepL.refl _ _)<|.inl hy)<|.inl hxF)<|.inr (by simp)) hbF (bK hLF.symm<|ak ..)<|ak ..
end
def xM(tys:List Nat)(rows:List dD):List<|List MV:=(List.range tys.length).map λj=>sB j rows
theorem qA(tys:List Nat)(rows:List dD):(xM tys rows).length=tys.length:=by simp[xM]
theorem xN(h:j<tys.length):(xM tys rows)[j]? =some (sB j rows):=by
 unfold xM;rw[Kh,List.getElem?_range h];rfl
theorem uP(j:Nat)(rows:List dD):(sB j rows).length=(rows.filter λr=>r.1==j).length:=by
 have: ∀i,i<=rows.length->(sB j<|rows.take i).length=((rows.take i).filter λr=>r.1==j).length:=by
  intro i;induction i with
  |zero=>intro O;rw[List.take_zero];rfl
  |succ i ih=>
   intro hi;have hr:rows[i]? =some rows[i]:=J6 3.;rw[List.take_add_one,hr,Option.toList,mI,Kd,List.filter_append,Kd,ih (by show jV ‹_›)];congr 1;simp only[List.filter_cons,List.filter_nil];by_cases e:rows[i].1=j
   ·rw[if_pos e,if_pos (by simpa using e)];rfl
   ·rw[if_neg e,if_neg (by simpa using e)];rfl
 have h:=this rows.length<|Kj _;rw[List.take_length]at h;show h
theorem xO(DD:List dD)(n u:Nat):(allR DD n).filter (λr=>r.1==u)=if u<n then DD.filter λr=>r.1==u else []:=by
 induction n with
 |zero=>simp[allR]
 |succ n ih=>
  rw[eD,List.filter_append,ih,List.filter_filter];by_cases e:u=n
  ·subst e;rw[if_neg<|Nat.lt_irrefl _,if_pos<|Nat.lt_succ_self _,List.nil_append];show List.filter_congr λr O=>?_;simp
  ·have:DD.filter (λa=>(a.1==u)&&(a.1==n))=[]:=by
    rw[List.filter_eq_nil_iff];intro r O h;simp at h;omega
   rw[this,List.append_nil];by_cases q:u<n
   ·rw[if_pos q,if_pos 3.]
   ·rw[if_neg q,if_neg 3.]
theorem oG(DD:List dD)(n:Nat):(allR DD n).length<=DD.length:=by
 have:(allR DD n).length<=(DD.filter λr=>decide<|r.1<n).length:=by
  induction n with
  |zero=>simp[allR]
  |succ n ih=>
   rw[eD,Kd];show Kc (Nat.add_le_add_right ih _) ?_;clear ih;induction DD with
   |nil=>simp
   |cons r q ih=>
    simp only[List.filter_cons];by_cases h1:r.1<n
    ·have h2: ¬r.1=n:=by show oa ‹_›
     have h3:r.1<n+1:=by omega
     simp[h1,h2,h3];show G8 ‹_›
    ·by_cases h2:r.1=n
     ·simp[h2];omega
     ·have h3: ¬r.1<n+1:=by omega
      simp[h1,h2,h3];omega
 show Kc this<|List.length_filter_le _ _
theorem eE(hj:j<=tys.length):nsum (xM tys<|allR DD tys.length) j=(allR DD j).length:=by
 induction j with
 |zero=>simp[nsum,allR]
 |succ j ih=>
  rw[mC<|xN 3.,ih (by show jV ‹_›),eD,Kd,uP,xO,if_pos 3.]
theorem Bd(hn:n<=3):StOk (sOf n rows)<|gW tys rows where
 asms:=4.
 tz:=by change(tyL n).length<=_;rw[e8];omega
 t64:=by change _<=(tyL n).length;rw[e8];omega
 ty:=λt ht=>by
  change(tyL n)[t]? =_;rw[xG 3.];rcases ht with rfl|rfl<;>rfl
 td:=λt ht=>A4 ht
 nk:=z4 n
 nd:=sD hn
 ng:=λt ht=>by
  change b9 (nmK n) _=_
  match n,hn with
  |0,_|1,_|2,_|3,_=>rcases ht with rfl|rfl<;>kernel_rfl
theorem Be(hn:tys.length<=3)(hso: ∀so∈tys,so=1\/so=2\/so=3)(hz:rows.length<=100):TyOk (sOf tys.length rows) (gW tys rows) tys<|xM tys rows where
 H:=Bd hn
 len:=qA _ _
 c:=hn
 so:=λi so h=>hso so<|List.mem_of_getElem? h
 tl:=e8 _
 ty:=λi h=>uO h
 td:=λi so fl h1 h2=>by
  have hi:i<tys.length:=by
   rcases Nat.lt_or_ge i tys.length with q|q
   ·show q
   ·rw[List.getElem?_eq_none q]at h1;cases h1
  rw[xN hi]at h2;cases h2;rw[t5 hi,J7,h1];rfl
 none:=λj h1 h2 h3=>by
  change(tyL _)[j]? =_;rw[xG h3];unfold sh64;rw[List.getElem?_set_ne 3.,List.getElem?_set_ne 3.,List.getElem?_replicate,if_pos h3]
 fz:=λfl hfl=>by
  obtain⟨j,O,rfl⟩:=List.mem_map.mp hfl;rw[uP];show Kc (List.length_filter_le _ _) hz
theorem Dz{p':PG}{fs:List<|List MV}(P:PkAt s td p p' os (λO=>none) R rt tys fs tys.length)(hb:p.blobs=pg0.blobs)(hn:tys.length<=3):PF rows p' R 0 p' os R [] [] where
 ts:=P.I.ts
 TO:=P.I.TO
 tx:=P.I.tx
 bb:=by
  rw[P.b,hb];intro x hx;rw[show pg0.blobs=[.bytes #[]]from 4.,List.mem_singleton]at hx;subst hx;show⟨4.,nofun⟩
 tl:=by have:=P.tl;omega
 bl:=by rw[P.b,hb];decide
 ol:=by have:=P.ol;simp;omega
 len:=4.
 cz:=Kj _
 r4:=by rw[P.rest 4 1. 1. 1.];rfl
 r11:=by rw[P.rest 11 1. 1. 1.];rfl
 fr:=λn h=>absurd h<|Nat.not_lt_zero _
 cc:=4.
 rest:=λO O O=>4.
 pre:=List.prefix_refl _
 td:=4.
section
variable{xd:Addr}
theorem Ih(W:Lw D)(hn:tys.length<=3)(hso: ∀so∈tys,so=1\/so=2\/so=3)(hD:DD.length<=10)(hDD: ∀r∈DD,RowOk tys r)
 (h1:lk "store" ρ=some (rf 1 0))(h2:lk "types" ρ=some (.ref<|.inl xt))(h3:lk "drawn" ρ=some (.ref<|.inl xd))(h4:lk "kinds" ρ=some (.tup [.int 7,.int 13,.int 1,.int 17]))(h5:lk "count" ρ=some (.int tys.length))
 (exF:xd≠xF/\xt≠xF/\L+1+1≠xF)(hc:b.m (.inl<|L+1+1)=some (.c<|some<|.ref<|.inl xF))(hF:b.m (.inl xF)=some (.l []))(hd:b.m (.inl xd)=some (.l<|DD.map fw))(ht:b.m (.inl xt)=some (.l<|tys.map λn:Nat=>MV.int n))
 (h: ∀(c:Kk) (ρ':List<|String×MV) ap fr p1 os1 R1 rt p os R frs cs,KeepX xF b c->c.m (.inl xF)=some (.l<|(allR DD tys.length).map fw)->(∀y,y≠"j"->y≠"tid"->y≠"row"->y≠"fid"->y≠"p"->lk y ρ'=lk y ρ)->lk "p" ρ'=some (rf 2 0)->
  PkAt (sOf tys.length<|allR DD tys.length) (gW tys<|allR DD tys.length) {pg0 with tids:=ga tys.length,trows:=cD tys.length,frows:=fr} p1 os1 (λO=>none) R1 rt tys (xM tys<|allR DD tys.length) tys.length->PF (allR DD tys.length) p1 R1 (allR DD tys.length).length p os R frs cs->
  WFc D (k+8) (S (c.push L ρ') (⟨ktL<|KOf tys,stL<|sOf tys.length<|allR DD tys.length,pgL ap p,oE<|allR DD tys.length,[.d<|qF tys.length],bQ R,gW tys<|allR DD tys.length⟩:G)) (execs (cR D.w.params 16)<|cZ D.w.params L) QF):
 WFc D (k+8) (S (b.push L ρ) ⟨ktL K2,stL<|sOf 0 [],[],[],[],λO=>[],td0⟩) (execs (cR D.w.params 11)<|cZ D.w.params L) QF:=by
 show aD<|WP.c<|A6 W hn hso hD (λr hr=>⟨(hDD r hr).kd,(hDD r hr).lit⟩) h1 h2 h3 h4 h5 exF hc hF hd ht λc ρ' hK hF' hk=>?_;have hz:(allR DD tys.length).length<=10:=Kc (oG _ _) hD;have TY:=Be (rows:=(allR DD tys.length)) hn hso 3.;show Km.next<|aD<|gT<|b8<|aP (AA W)<|az (yJ W)<|WP.c<|bo 4. ((hk _ 1. 1. 1. 1.).trans h1) ?_;show bp<|ab<|CLc.at (j:=k+5) (AP W λap=>?_) 3.;show dC _ 4. 4.<|aD<|WP.c ?_;show aW<|ag (pB W) (nP W)<|aG 4. ad<|CL.of (j:=k+3) (qs W TY (by change(tyL _).length<=_;rw[e8];omega) 4. 4. 4. ?_ ?_ λfr hfr=>?_) 3.
 ·have:=eE (DD:=DD) (tys:=tys)<|Kj _;unfold nsum at this;rw[List.take_of_length_le (by rw[qA];show Kj _)]at this;show g3 ‹_› ‹_› 4.
 ·intro fl hfl m hm;obtain⟨j,O,rfl⟩:=List.mem_map.mp hfl;obtain⟨i,O,rfl⟩:=List.mem_map.mp hm;show⟨_,4.⟩
 show Km.next<|aD<|WP.c ?_;show aW<|ag (rI W) (pQ W)<|aG 4. ad<|CL.of (j:=k+6) (sf W (p:={pg0 with tids:=ga tys.length,trows:=cD tys.length,frows:=fr}) ⟨TY,Ig tys,λh2=>?_,4.,?_,?_,?_,?_⟩ 4. ?_ (Kj 1) 4. 4. λp1 os1 R1 rt P=>?_) 3.
 ·unfold KOf;rw[if_pos h2];show⟨by decide,4.⟩
 ·simp[cD,cN]
 ·unfold cD;rw[List.map_map];show List.Pairwise.map _ (R:=λa b=>a≠b) (λa b n e=>n (by simp at e;omega)) List.nodup_range
 ·show eC λq hq=>?_;obtain⟨i,O,rfl⟩:=List.mem_map.mp hq;intro e;simp at e;omega
 ·show eC λq hq=>?_;obtain⟨i,O,rfl⟩:=List.mem_map.mp hq;intro e;simp at e;omega
 ·intro x hx;rw[show pg0.texts=[.str<|-""]from 4.,List.mem_singleton]at hx;show⟨_,hx⟩
 show Km.next<|aD<|A7 W hn hso (λr hr=>hDD r (lr hr).1) 3. (au<|(hk _ 1. 1. 1. 1.).trans h1) ad (Dz P 4. hn) λp os R frs cs ρ2 H hk2=>(Km.next<|h c ρ2 ap fr p1 os1 R1 rt p os R frs cs hK hF' (λy e1 e2 e3 e4 e5=>?_) ((hk2 _ 1.).trans ad) P H);rw[hk2 y e4,aQ e5];show hk y e1 e2 e3 e4
end
theorem gX(h:j<=n):allR DD j<+:allR DD n:=by
 induction n with
 |zero=>rw[show j=0 by omega];show List.prefix_refl _
 |succ n ih=>
  by_cases e:j=n+1
  ·rw[e];show List.prefix_refl _
  ·rw[eD];show(ih 3.).trans ⟨_,4.⟩
theorem uQ{xs ys:List dD}(h:xs<+:ys)(hi:i<xs.length):ys.getD i d0=xs.getD i d0:=by
 obtain⟨t,rfl⟩:=h;rw[J7,J7,List.getElem?_append_left hi]
theorem DA(hj:j<=n)(h:i<(allR DD j).length):(rw3 (allR DD n) i).1<j:=by
 unfold rw3;rw[uQ (gX hj) h,J7,J6 h];show(lr<|List.getElem_mem h).2
theorem xP(hj:j<n)(h1:(allR DD j).length<=i)(h2:i<(allR DD<|j+1).length):(rw3 (allR DD n) i).1=j:=by
 unfold rw3;rw[uQ (gX (show j+1<=n by omega)) h2,J7];rw[eD]at h2 ⊢;rw[Kd]at h2;rw[List.getElem?_append_right h1,J6 (by show Ah ‹_› ‹_›)];have:=List.mem_filter.mp<|List.getElem_mem (l:=DD.filter λr=>r.1==j) (n:=i-(allR DD j).length) (by show Ah ‹_› ‹_›);simpa using this.2
theorem Bf(hi:i<4)(hj:j<4)(h:trO i=trO j):i=j:=
 (by decide+kernel: ∀i,i<4-> ∀j,j<4->c7 (trO i) (trO j)=true->i=j) i hi j hj<|h▸c9 _ ((by decide+kernel: ∀i,i<4->hk (trO i)=true) i hi)
theorem key3_iff{r q:dD}:c7 (ya r) (ya q)=true↔r.1=q.1/\r.2.1=q.2.1/\r.2.2.1=q.2.2.1:=by
 constructor
 ·intro h;have:=gm _ _ h;simp[ya]at this;show⟨Int.ofNat.inj this.1,this.2.1,Int.ofNat.inj this.2.2⟩
 ·rintro⟨a,b,c⟩;unfold ya;rw[a,b,c];show c9 _ 4.
def jS(rows:List dD)(i:Nat):MV:=.tup [.str (rw3 rows i).2.1,.tup [.int 6,trO (rw3 rows i).2.2.1]]
theorem uR(rows:List dD)(i:Nat):c8 (jS rows i)=true:=by
 unfold jS;generalize(rw3 rows i).2.2.1=q
 match q with
 |0|1|2|_+3=>rfl
theorem xQ(hk: ∀i,i<(allR DD n).length->(rw3 (allR DD n) i).2.2.1<4)(hj:j<n): ∀m,(allR DD j).length+m<=(allR DD<|j+1).length->eI (allR DD n) ((allR DD j).length+m)=eI (allR DD n) (allR DD j).length++twR (jS<|allR DD n) (allR DD j).length m:=by
 intro m;induction m with
 |zero=>intro O;simp[twR]
 |succ m ih=>
  intro hm;have hlen:=(gX (DD:=DD) (show j+1<=n by omega)).length_le;rw[uG,<-Nat.add_assoc,show eI (allR DD n) ((allR DD j).length+m+1)=eI (allR DD n) ((allR DD j).length+m)++if twP (allR DD n) ((allR DD j).length+m)then [told3 4 ((allR DD j).length+m+1) "twice"]else []from dj _ _ _,ih 3.,List.append_assoc];congr 2;have ho:=xP (DD:=DD) hj (Nat.le_add_right (allR DD j).length m) 3.;have:twP (allR DD n) ((allR DD j).length+m)=twb (λu=>jS (allR DD n)<|(allR DD j).length+u) m:=by
   rw[Bool.eq_iff_iff];unfold twP twb;rw[List.any_eq_true,List.any_eq_true];constructor
   ·rintro⟨q,hq,e⟩;have hq:=List.mem_range.mp hq;obtain⟨e1,e2,e3⟩:=key3_iff.mp e;have hqa:(allR DD j).length<=q:=by
     rcases Nat.lt_or_ge q (allR DD j).length with w|w
     ·have:=DA (n:=n) 3. w;omega
     ·show w
    show⟨q-(allR DD j).length,List.mem_range.mpr (by show Ah ‹_› ‹_›),?_⟩;change c7 (jS _ _) (jS _ _)=true;rw[show(allR DD j).length+(q-(allR DD j).length)=q by show Bo ‹_›];unfold jS;rw[e2,e3];show c9 _ (bP<|uR (allR DD n)<|(allR DD j).length+m).1
   ·rintro⟨u,hu,e⟩;have hu:=List.mem_range.mp hu;show⟨(allR DD j).length+u,List.mem_range.mpr 3.,key3_iff.mpr ?_⟩;have e:jS (allR DD n) ((allR DD j).length+u)=jS (allR DD n) ((allR DD j).length+m):=gm _ _ e;unfold jS at e;simp only[MV.tup.injEq,List.cons.injEq,MV.str.injEq,true_and,and_true]at e;show⟨by rw[ho];show xP hj (Nat.le_add_right _ _) (by show zC ‹_› ‹_›),e.1,Bf (hk _ (by show JB ‹_› ‹_› ‹_›)) (hk _ 3.) e.2⟩
  rw[this]
theorem DB(hk: ∀i,i<(allR DD tys.length).length->(rw3 (allR DD tys.length) i).2.2.1<4): ∀j,j<=tys.length->twF (jS<|allR DD tys.length) (xM tys<|allR DD tys.length) j=eI (allR DD tys.length) (allR DD j).length:=by
 intro j;induction j with
 |zero=>intro O;simp[twF,eI,allR]
 |succ j ih=>
  intro hj;have hl:=(gX (DD:=DD) (show j<=j+1 by omega)).length_le;rw[qt,ih (by show jV ‹_›),eE (by show jV ‹_›),eE hj,<-xQ hk 3. _ (by show BI ‹_›)];congr 1;show Bo ‹_›
def yb(rows:List dD)(frs:List jp):Prop:=frs.length=rows.length/\ ∀i,i<rows.length->(frs.getD i (0,0,0)).1=dO (rw3 rows i).2.2.2/\((rw3 rows i).2.2.2=0\/(rw3 rows i).2.2.2=1\/(rw3 rows i).2.2.2=2\/(rw3 rows i).2.2.2=5)
theorem Ii{x:Nat}(h:x=0\/x=1\/x=2\/x=5):(bitAnd (dO x) 16==0)=[MV.int 0,.int 2].any λz=>c7 z<|.int x:=by
 rcases h with rfl|rfl|rfl|rfl<;>kernel_rfl
theorem DC{x:Nat}(h:x=0\/x=1\/x=2\/x=5):sI (dO x)=((x:Int)==5):=by
 rcases h with rfl|rfl|rfl|rfl<;>kernel_rfl
theorem DE{x:Nat}(h:x=0\/x=1\/x=2\/x=5):AX (dO x)=((x:Int)==5):=by
 rcases h with rfl|rfl|rfl|rfl<;>kernel_rfl
theorem DF:AW (dO (5:Nat))=true:=by kernel_rfl
theorem xR(hf:yb (allR DD n) frs)(hj:j<n): ∀m,(allR DD j).length+m<=(allR DD<|j+1).length->e9 tys (allR DD n) ((allR DD j).length+m)=e9 tys (allR DD n) (allR DD j).length++if tys.getD j 0=3 then xq frs (allR DD j).length m else []:=by
 intro m;induction m with
 |zero=>intro O;simp[xq]
 |succ m ih=>
  intro hm;have hlen:=(gX (DD:=DD) (show j+1<=n by omega)).length_le;rw[sn,<-Nat.add_assoc,show e9 tys (allR DD n) ((allR DD j).length+m+1)=e9 tys (allR DD n) ((allR DD j).length+m)++if faP tys (allR DD n) ((allR DD j).length+m)then [told3 4 ((allR DD j).length+m+1) "iface"]else []from dj _ _ _,ih 3.,List.append_assoc];congr 1;have ho:=xP (DD:=DD) hj (Nat.le_add_right (allR DD j).length m) 3.;obtain⟨h1,h2⟩:=hf.2 ((allR DD j).length+m) 3.;unfold faP;rw[ho,<-Ii h2,<-h1];by_cases e:tys.getD j 0=3
  ·rw[if_pos e,if_pos e,e];simp
  ·rw[if_neg e,if_neg e];have:(((tys.getD j 0:Nat):Int)==3)=false:=by
    generalize tys.getD j 0=z at e ⊢;simp;omega
   rw[this];simp
theorem zk(hf:yb (allR DD tys.length) frs): ∀j,j<=tys.length->jR tys (xM tys<|allR DD tys.length) frs j=e9 tys (allR DD tys.length) (allR DD j).length:=by
 intro j;induction j with
 |zero=>intro O;simp[jR,e9,allR]
 |succ j ih=>
  intro hj;have hl:=(gX (DD:=DD) (show j<=j+1 by omega)).length_le;rw[gV,ih (by show jV ‹_›),eE (by show jV ‹_›),eE hj,<-xR hf 3. _ (by show BI ‹_›)];congr 1;show Bo ‹_›
theorem kF(hf:yb rows frs)(hi:i<rows.length):sI (ffl frs i)=eH rows i/\AX (ffl frs i)=eH rows i/\(eH rows i=true->AW (ffl frs i)=true):=by
 obtain⟨h1,h2⟩:=hf.2 i hi;have e:ffl frs i=dO (rw3 rows i).2.2.2:=h1;rw[e,DC h2,DE h2];show⟨4.,4.,λh=>?_⟩;have:(rw3 rows i).2.2.2=5:=by
  have:(((rw3 rows i).2.2.2:Nat):Int)=5:=eq_of_beq h;omega
 rw[this];show DF
theorem iB:(bJ rows).contains (i+1)=(decide (i<rows.length)&&eH rows i):=by
 rw[Bool.eq_iff_iff,List.contains_iff_mem,Bool.and_eq_true,decide_eq_true_iff];unfold bJ;rw[List.mem_map];constructor
 ·rintro⟨q,hq,e⟩;obtain⟨h1,h2⟩:=List.mem_filter.mp hq;have:q=i:=by omega
  subst this;show⟨List.mem_range.mp h1,h2⟩
 ·rintro⟨h1,h2⟩;show⟨i,List.mem_filter.mpr ⟨List.mem_range.mpr h1,h2⟩,4.⟩
theorem gO:(bJ rows).Nodup:=by
 unfold bJ;show List.Pairwise.map _ (R:=λa b=>a≠b) (λa b h e=>h 3.)<|List.Pairwise.filter _ List.nodup_range
theorem gY{xs:List Nat}(h:xs.Nodup)(hi:i<xs.length):(xs.take i).contains (xs.getD i 0)=false:=by
 rw[<-Bool.not_eq_true,List.contains_iff_mem];intro hm;obtain⟨q,hq,e⟩:=List.mem_iff_getElem.mp hm;rw[List.length_take]at hq;rw[List.getElem_take,J7,J6 hi]at e;show(List.pairwise_iff_getElem.mp h) q i (by show JA ‹_›) hi 3. e
theorem sG(hf:yb rows frs):e7 (bJ rows) frs (bJ rows).length=[]:=by
 unfold e7;rw[List.map_eq_nil_iff,List.filter_eq_nil_iff];intro i hi;have hi:=List.mem_range.mp hi;unfold uF;rw[gY gO hi];have hm:(bJ rows).getD i 0∈bJ rows:=by
  rw[J7,J6 hi];show List.getElem_mem hi
 obtain⟨q,hq,e⟩:=List.mem_map.mp hm;obtain⟨h1,h2⟩:=List.mem_filter.mp hq;rw[<-e,Nat.add_sub_cancel,(kF hf<|List.mem_range.mp h1).1,h2];decide
theorem sH(hf:yb rows frs):fW (bJ rows) frs frs.length=[]:=by
 unfold fW;rw[List.map_eq_nil_iff,List.filter_eq_nil_iff];intro i hi;have hi:=List.mem_range.mp hi;rw[hf.1]at hi;obtain⟨e1,e2,e3⟩:=kF hf hi;unfold sJ;rw[e1,e2,iB];cases h:eH rows i with
 |false=>simp
 |true=>rw[e3 h];simp[hi]
section
variable{a c:Nat}{p:Nat->Bool}{F:Nat->MV}
theorem gP(h: ∀j,j<n->p j=false):((List.range n).filter p).map F=[]:=by
 rw[List.map_eq_nil_iff,List.filter_eq_nil_iff];intro j hj;rw[h j<|List.mem_range.mp hj];decide
theorem gZ(ha:a<n)(h: ∀j,j<n->p j=(j==a)):((List.range n).filter p).map F=[F a]:=by
 induction n with
 |zero=>omega
 |succ n ih=>
  rw[dj,h n<|Nat.lt_succ_self n];by_cases e:n=a
  ·subst e;rw[gP λj hj=>by rw[h j 3.];simp;show oa ‹_›];simp
  ·rw[ih 3. λj hj=>h j 3.];have:(n==a)=false:=by simpa using e
   rw[this];simp
theorem uS(hac:a<c)(hc:c<n)(h: ∀j,j<n->p j=(j==a||j==c)):((List.range n).filter p).map F=[F a,F c]:=by
 induction n with
 |zero=>omega
 |succ n ih=>
  rw[dj,h n<|Nat.lt_succ_self n];by_cases e:n=c
  ·subst e;have h2: ∀j,j<n->p j=(j==a):=λj hj=>by
    have:(j==n)=false:=by simp;show oa ‹_›
    rw[h j 3.,this,Bool.or_false]
   rw[gZ (a:=a) 3. h2];simp
  ·rw[ih 3. λj hj=>h j 3.];have h1:(n==c)=false:=by simpa using e
   have h2:(n==a)=false:=by simp;omega
   rw[h1,h2];simp
theorem jT{x:jp}(ha:a<frs.length):ffl (frs.set a x) j=if j=a then x.1 else ffl frs j:=by
 unfold ffl;rw[J7,J7,List.getElem?_set];by_cases e:j=a
 ·rw[if_pos e,if_pos e.symm,if_pos ha];rfl
 ·rw[if_neg e,if_neg<|Ne.symm e]
theorem mK{ns:List Nat}(hf:yb rows frs)(hj:j<rows.length)(h1:ffl frs' j=ffl frs j)(h2:ns.contains (j+1)=eH rows j):sJ ns frs' j=false:=by
 obtain⟨e1,e2,e3⟩:=kF hf hj;unfold sJ;rw[h1,e1,e2,h2];cases h:eH rows j with
 |false=>rfl
 |true=>rw[e3 h];rfl
theorem zm(h:bJ rows≠[]): ∃l0 l,bJ rows=l0++[l]/\(bJ rows).getLastD 0=l/\(bJ rows).dropLast=l0/\1<=l/\l<=rows.length/\eH rows (l-1)=true/\l∉l0:=by
 show⟨(bJ rows).dropLast,(bJ rows).getLast h,(List.dropLast_concat_getLast h).symm,?_,4.,?_⟩
 ·rw[List.getLastD_eq_getLast?,List.getLast?_eq_some_getLast h];rfl
 ·obtain⟨b1,b2⟩:=fY (List.getLast_mem h);have hm:(bJ rows).contains ((bJ rows).getLast h-1+1)=true:=by
   rw[show(bJ rows).getLast h-1+1=(bJ rows).getLast h by show yh ‹_›];show List.contains_iff_mem.mpr<|List.getLast_mem h
  rw[iB,Bool.and_eq_true]at hm;show⟨b1,b2,hm.2,λq=>?_⟩;have nd:=gO (rows:=rows);rw[<-List.dropLast_concat_getLast h,List.nodup_append]at nd;show nd.2.2 _ q _ (List.mem_singleton.mpr 4.) 4.
theorem uT{l:Nat}(h:bJ rows=l0++[l])(hn:l∉l0)(hj:j<rows.length):l0.contains (j+1)=(eH rows j&& !(j+1==l)):=by
 have:=iB (rows:=rows) (i:=j);rw[h]at this;have e2:(l0++[l]).contains (j+1)=(l0.contains (j+1)||(j+1==l)):=by
  rw[Bool.eq_iff_iff];simp
 rw[e2]at this;simp only[hj,decide_true,Bool.true_and]at this;rw[<-this];by_cases e:j+1=l
 ·have:l0.contains (j+1)=false:=by rw[<-Bool.not_eq_true,List.contains_iff_mem,e];show hn
  rw[this];simp[e]
 ·have:(j+1==l)=false:=by simpa using e
  rw[this];simp
theorem mL{l:Nat}(h:bJ rows=l0++[l])(hn:l∉l0)(hj:j<rows.length)(hne:j+1≠l):l0.contains (j+1)=eH rows j:=by
 have:(j+1==l)=false:=by simpa using hne
 rw[uT h hn hj,this];simp
theorem mM{ns:List Nat}(nd:(ns.take i).contains (ns.getD i 0)=false)(h:sI (ffl frs'<|ns.getD i 0-1)=true):uF ns frs' i=false:=by
 unfold uF;rw[nd,h];rfl
theorem jm(hf:yb rows frs){m:Nat}(h:m∈bJ rows):sI (ffl frs<|m-1)=true:=by
 obtain⟨q,hq,rfl⟩:=List.mem_map.mp h;obtain⟨h1,h2⟩:=List.mem_filter.mp hq;rw[Nat.add_sub_cancel,(kF hf<|List.mem_range.mp h1).1,h2]
theorem jn{xs:List Nat}(h:i<xs.length):xs.getD i 0∈xs:=by
 rw[J7,J6 h];show List.getElem_mem h
theorem Bg(hf:yb rows frs)(hj:j<rows.length)(h:eH rows j=true):ffl frs j=dO (5:Nat):=by
 have e:((rw3 rows j).2.2.2:Int)=5:=eq_of_beq h;have:(rw3 rows j).2.2.2=5:=by omega
 have h1:=(hf.2 j hj).1;rw[this]at h1;show h1
theorem v0{t:Int}(hf:yb rows frs)(hc:cs.map (λc=>c.2.1)=bJ rows)(hne:bJ rows≠[])(h:Turned (bJ rows) (restOf rows) t frs cs frs' cs' out):
 e7 (cs'.map λc=>c.2.1) frs' cs'.length++fW (cs'.map λc=>c.2.1) frs' frs'.length=out:=by
 obtain⟨l0,l,e1,e2,e3,b1,b2,b3,b4⟩:=zm hne;have hl:cs.length=(bJ rows).length:=by rw[<-hc,Ka]
 have hll:(bJ rows).length=l0.length+1:=by rw[e1];simp
 have nd0:l0.Nodup:=by have:=gO (rows:=rows);rw[e1,List.nodup_append]at this;show this.1
 have v5:=Bg hf (show l-1<rows.length by show yf ‹_› ‹_›) b3;have m0: ∀m,m∈l0->m∈bJ rows/\m≠l:=λm hm=>⟨by rw[e1];show List.mem_append_left _ hm,λq=>b4<|q▸hm⟩;have hlen:=hf.1;cases h with
 |c4 ht=>
  rw[e2,List.map_dropLast,hc,e3];have la:l-1<frs.length:=by show sK ‹_› ‹_› ‹_›
  have c1:e7 l0 (frs.set (l-1) ((frs.getD (l-1) fr0).1-32768,(frs.getD (l-1) fr0).2)) cs.dropLast.length=[]:=by
   show gP λi hi=>?_;rw[List.length_dropLast]at hi;have hm:=m0 _<|jn (xs:=l0) (show i<l0.length by omega);have:=fY hm.1;show mM (gY nd0 3.) ?_;rw[jT la,if_neg (by show Jv ‹_› ‹_› ‹_›)];show jm hf hm.1
  rw[c1,List.nil_append];unfold fW;rw[gZ (a:=l-1) (by rw[List.length_set];omega) λj hj=>?_,show l-1+1=l by show yh ‹_›]at ⊢;rw[List.length_set]at hj;by_cases q:j=l-1
  ·subst q;unfold sJ;rw[jT la,if_pos 4.,show(frs.getD (l-1) fr0).1=dO (5:Nat)from v5,uT e1 b4 (by show yf ‹_› ‹_›),show l-1+1=l by show yh ‹_›];rw[show AX (dO (5:Nat)-32768)=false from by kernel_rfl,show sI (dO (5:Nat)-32768)=true from by kernel_rfl];simp
  ·rw[mK hf (by show ic ‹_› ‹_›) (by rw[jT la,if_neg q])<|mL e1 b4 (by show ic ‹_› ‹_›) (by show wl ‹_›)];simp;omega
 |c5 ht=>
  rw[e2,hc];have la:l-1<frs.length:=by show sK ‹_› ‹_› ‹_›
  have c1:e7 (bJ rows) (frs.set (l-1) ((frs.getD (l-1) fr0).1-16,(frs.getD (l-1) fr0).2)) cs.length=[]:=by
   show gP λi hi=>?_;have hm:=jn (xs:=bJ rows) (show i<(bJ rows).length by show ic ‹_› ‹_›);show mM (gY gO (by show ic ‹_› ‹_›)) ?_;rw[jT la];by_cases q:(bJ rows).getD i 0-1=l-1
   ·rw[if_pos q,show(frs.getD (l-1) fr0).1=dO (5:Nat)from v5];kernel_rfl
   ·rw[if_neg q];show jm hf hm
  rw[c1,List.nil_append];unfold fW;rw[gZ (a:=l-1) (by rw[List.length_set];omega) λj hj=>?_,show l-1+1=l by show yh ‹_›]at ⊢;rw[List.length_set]at hj;by_cases q:j=l-1
  ·subst q;unfold sJ;rw[jT la,if_pos 4.,show(frs.getD (l-1) fr0).1=dO (5:Nat)from v5,iB,b3];rw[show AX (dO (5:Nat)-16)=true from by kernel_rfl,show sI (dO (5:Nat)-16)=true from by kernel_rfl,show AW (dO (5:Nat)-16)=false from by kernel_rfl];simp
  ·rw[mK hf (by show ic ‹_› ‹_›) (by rw[jT la,if_neg q]) (by rw[iB];simp;omega)];simp;omega
 |c1 ht=>
  rw[e2,List.map_dropLast,hc,e3];have c1:e7 l0 frs cs.dropLast.length=[]:=by
   show gP λi hi=>?_;rw[List.length_dropLast]at hi;have hm:=m0 _<|jn (xs:=l0) (show i<l0.length by omega);show mM (gY nd0 3.)<|jm hf hm.1
  rw[c1,List.nil_append];unfold fW;rw[gZ (a:=l-1) (by show sK ‹_› ‹_› ‹_›) λj hj=>?_,show l-1+1=l by show yh ‹_›]at ⊢;by_cases q:j=l-1
  ·subst q;unfold sJ;rw[(kF hf (show l-1<rows.length by show yf ‹_› ‹_›)).2.1,b3,uT e1 b4 (by show yf ‹_› ‹_›),show l-1+1=l by show yh ‹_›];simp
  ·rw[mK hf (by show ic ‹_› ‹_›) 4.<|mL e1 b4 (by show ic ‹_› ‹_›) (by show wl ‹_›)];simp;omega
 |c2 ht=>
  have hlast:(cs.getLastD cr0).2.1=l:=by
   have:(cs.map λc:uD=>c.2.1).getLastD 0=(cs.getLastD cr0).2.1:=by
    rw[List.getLastD_eq_getLast?,List.getLastD_eq_getLast?,List.getLast?_map];cases cs.getLast?<;>rfl
   rw[hc,e2]at this;show this.symm
  have hns:(cs++[cs.getLastD cr0]).map (λc=>c.2.1)=bJ rows++[l]:=by rw[Ki,hc,List.map_singleton,hlast]
  rw[hns];have hlm:l∈bJ rows:=by rw[e1];simp
  have c2:fW (bJ rows++[l]) frs frs.length=[]:=by
   show gP λj hj=>mK hf (by show ic ‹_› ‹_›) 4. ?_;have:(bJ rows++[l]).contains (j+1)=(bJ rows).contains (j+1):=by
    rw[Bool.eq_iff_iff,List.contains_iff_mem,List.contains_iff_mem,List.mem_append,List.mem_singleton];show⟨λh=>h.elim id λe=>e▸hlm,.inl⟩
   rw[this,iB];simp;omega
  rw[c2,List.append_nil];unfold e7;rw[gZ (a:=(bJ rows).length) (by rw[Kd,List.length_singleton];omega) λi hi=>?_]at ⊢;rw[Kd,List.length_singleton]at hi;by_cases q:i=(bJ rows).length
  ·subst q;unfold uF;rw[List.take_left,J7,List.getElem?_append_right<|Kj _,Nat.sub_self];have:(bJ rows).contains (([l]:List Nat)[0]?.getD 0)=true:=List.contains_iff_mem.mpr hlm;rw[this];simp
  ·have hi2:i<(bJ rows).length:=by show Hi ‹_› ‹_› ‹_›
   have g:(bJ rows++[l]).getD i 0=(bJ rows).getD i 0:=by rw[J7,J7,List.getElem?_append_left hi2]
   rw[mM (by rw[g,List.take_append_of_le_length 3.];show gY gO hi2) (by rw[g];show jm hf<|jn hi2)];simp;omega
 |@c3 o ht ho=>
  obtain⟨q,hq,hqo⟩:=List.mem_map.mp ho;obtain⟨hq1,hq2⟩:=List.mem_filter.mp hq;have hq1:=List.mem_range.mp hq1;subst hqo;have hnl:eH rows q=false:=by
   unfold uJ at hq2;unfold eH;rw[<-Bool.not_eq_true,beq_iff_eq];intro e;rw[e]at hq2;simp at hq2
  have hol:q+1≠l:=λe=>by rw[<-e,Nat.add_sub_cancel,hnl]at b3;cases b3
  have ho0:q+1∉l0:=λe=>by
   have:=iB (rows:=rows) (i:=q);rw[hnl,Bool.and_false,<-Bool.not_eq_true,List.contains_iff_mem]at this;show this (m0 _ e).1
  have hns:(cs.set (cs.length-1) ((cs.getLastD cr0).1,q+1,(cs.getLastD cr0).2.2)).map (λc=>c.2.1)=l0++[q+1]:=by
   rw[List.map_set,hc,e1,show cs.length-1=l0.length by show BP ‹_› ‹_›,List.set_append_right _ _<|Kj _,Nat.sub_self];rfl
  rw[hns,List.length_set,e2];have hcon: ∀j,(l0++[q+1]).contains (j+1)=(l0.contains (j+1)||(j==q)):=λj=>by
   rw[Bool.eq_iff_iff];simp
  have o1:e7 (l0++[q+1]) frs cs.length=[told3 11 (bJ rows).length "constant"]:=by
   unfold e7;rw[gZ (a:=l0.length) 3. λi hi=>?_,hll]at ⊢;by_cases w:i=l0.length
   ·subst w;unfold uF;have g:(l0++[q+1]).getD l0.length 0=q+1:=by rw[J7,List.getElem?_append_right<|Kj _,Nat.sub_self];rfl
    rw[g,Nat.add_sub_cancel,(kF hf hq1).1,hnl];simp
   ·have hi2:i<l0.length:=by omega
    have g:(l0++[q+1]).getD i 0=l0.getD i 0:=by rw[J7,J7,List.getElem?_append_left hi2]
    rw[mM (by rw[g,List.take_append_of_le_length 3.];show gY nd0 hi2) (by rw[g];show jm hf (m0 _<|jn hi2).1)];simp;omega
  rw[o1];change [_]++_=_;rw[List.singleton_append];congr 1;have hb: ∀j,j<frs.length->sJ (l0++[q+1]) frs j=(j==q||j==l-1):=λj hj=>by
   by_cases w1:j=q
   ·subst w1;unfold sJ;rw[(kF hf hq1).2.1,hnl,hcon];simp
   ·have f1:(j==q)=false:=by simpa using w1
    by_cases w2:j=l-1
    ·subst w2;unfold sJ;rw[(kF hf (by show yf ‹_› ‹_›)).2.1,b3,hcon,uT e1 b4 (by show yf ‹_› ‹_›),show l-1+1=l by show yh ‹_›,f1];simp
    ·rw[mK hf (by show ic ‹_› ‹_›) 4. (by rw[hcon,f1,Bool.or_false];show mL e1 b4 (by show ic ‹_› ‹_›) (by show wl ‹_›)),f1];simp;omega
  unfold fW jl;by_cases w:q+1<=l
  ·rw[if_pos w,uS (a:=q) (c:=l-1) (by show Jx ‹_› ‹_›) (by show sK ‹_› ‹_› ‹_›) hb,show l-1+1=l by show yh ‹_›];rfl
  ·rw[if_neg w,uS (a:=l-1) (c:=q) (by show BQ ‹_› ‹_›) (by show Ag ‹_› ‹_›) λj hj=>by rw[hb j hj,Bool.or_comm],show l-1+1=l by show yh ‹_›];rfl
end
section
variable{q:PG}
theorem Ij(P:PkAt s td q p1 os1 (λO=>none) R1 rt tys (xM tys<|allR DD tys.length) tys.length)(H:PF (allR DD tys.length) p1 R1 (allR DD tys.length).length p os R frs cs)(hn:tys.length<=3)(hso: ∀so∈tys,so=1\/so=2\/so=3)(hz:(allR DD tys.length).length<=100):
 ∃rows2,RC p os R tys (xM tys<|allR DD tys.length) rows2:=by
 obtain⟨rows2,r1,r2⟩:=P.r2;have e:=eE (DD:=DD) (tys:=tys)<|Kj _;show⟨rows2,H.ts,H.TO,(H.rest 2 1. 1.).trans r1,r2.pre H.pre,qA _ _,hn,λi so h=>hso so<|List.mem_of_getElem? h,by rw[H.g4,Ka,H.len,e],
  λu h1 h2 h3 h4 h5=>(H.rest u h3 h4).trans<|P.rest u h1 h2 h5,by rw[e];show hz⟩
theorem z8(H:PF rows p1 R0 rows.length p os R frs cs)(hn:n<rows.length): ∃tn bn,frs.getD n (0,0,0)=(dO (rw3 rows n).2.2.2,tn,bn)/\p.texts[tn]? =some (.str (rw3 rows n).2.1)/\p.blobs[bn]? =some (.tup [.int 6,trO (rw3 rows n).2.2.1]):=by
 obtain⟨tn,bn,h1,h2,h3⟩:=H.fr n hn;show⟨tn,bn,by rw[J7,h1];rfl,h2,h3⟩
theorem zn(H:PF rows p1 R0 rows.length p os R frs cs):KeyOk p frs<|jS rows where
 row:=λn hn=>by
  obtain⟨tn,bn,h1,h2,h3⟩:=z8 H (n:=n) (by rw[<-H.len];show hn);rw[h1];show⟨_,_,h2,h3,4.⟩
 ok:=λn O=>uR rows n
theorem z9(hr: ∀r∈rows,RowOk tys r)(hn:n<rows.length):RowOk tys<|rw3 rows n:=by
 unfold rw3;rw[J7,J6 hn];show hr _<|List.getElem_mem hn
theorem t6(H:PF rows p1 R0 rows.length p os R frs cs)(hr: ∀r∈rows,RowOk tys r):yb rows frs:=
 ⟨H.len,λi hi=>by
  obtain⟨tn,bn,h1,O,O⟩:=z8 H hi;show⟨by rw[h1],(z9 hr hi).fl⟩⟩
theorem t7(H:PF rows p1 R0 rows.length p os R frs cs)(h0:0<rows.length):R 4=some (frs.map kE):=by rw[H.r4,if_neg (by show zA ‹_›)]
theorem uU(H:PF rows p1 R0 rows.length p os R frs cs):(R 11=none/\cs=[])\/R 11=some (cs.map qG):=by
 rw[H.r11];by_cases e:cs=[]
 ·show .inl ⟨if_pos e,e⟩
 ·show .inr<|if_neg e
def qB:Nat->Str|0=>qr|j+1=>dQ j
theorem xS(hij:i<j)(hj:j<4):qB i≠qB j:=(by decide+kernel: ∀j,j<4-> ∀i,i<j->qB i≠qB j) j hj i hij
theorem zo(i:Nat):qB i≠mt:=by
 match i with
 |0|1|2=>show of_decide_eq_true (by decide+kernel)
 |_+3=>change Str.ofString "C"≠mt;show of_decide_eq_true (by decide+kernel)
theorem zp(t:Nat):ec t≠mt:=by
 match t with
 |0|1=>show of_decide_eq_true (by decide+kernel)
 |_+2=>change Str.ofString "ValueType"≠mt;show of_decide_eq_true (by decide+kernel)
theorem Aa{fs:List<|List MV}(K:R2Ok tys fs tx rows2 tys.length)(hi:i<rows2.length): ∃(f:Int) (j:Nat) (rest:List MV),rest.length=3/\rows2[i]? =some (.tup<|.int f::.int j::.int (0:Nat)::rest)/\tx[j]? =some (.str<|qB i):=by
 have hl:=K.len;rcases i with O|i
 ·obtain⟨j,h1,h2⟩:=K.mod;show⟨0,j,_,4.,h1,h2⟩
 ·have hi':i<tys.length:=by omega
  obtain⟨ti,bs,h1,h2,O⟩:=K.row i tys[i] hi' (J6 hi');show⟨_,ti,_,4.,h1,h2⟩
theorem tx0(h:TxOk tx)(hj:tx[j]? =some m): ∃y,tx[0]? =some (.str y):=by
 cases tx with
 |nil=>cases hj
 |cons x r=>obtain⟨y,rfl⟩:=h x (List.mem_cons_self ..);show⟨y,4.⟩
theorem Bh{fs:List<|List MV}(K:R2Ok tys fs tx rows2 tys.length)(hn:tys.length<=3)(ht:TxOk tx): ∃key,RowKey tx rows2 key false:=by
 obtain⟨j0,O,h0⟩:=K.mod;obtain⟨y0,hy0⟩:=tx0 ht h0;show⟨λi=>.tup [.int 0,.str y0,.str<|qB i],λi hi=>?_,λi j hij hj e=>?_⟩
 ·obtain⟨f,j,rest,h1,h2,h3⟩:=Aa K hi;show⟨f,j,0,rest,qB i,y0,by omega,h2,h3,hy0,4.⟩
 ·have hl:=K.len;simp at e;show xS hij 3. e
theorem xU(I:PI s td p1 os1 R1 rt)(hr:R 1=R1 1)(hp:p1.texts<+:p.texts)(ht:TxOk p.texts):R 1=none\/ ∃rows1,R 1=some rows1/\rows1.length<=9/\(∃key,RowKey p.texts rows1 key true)/\ ∀i,i<rows1.length-> ∃(t j:Nat),rows1[i]? =some (CX j)/\p.texts[j]? =some (.str<|ec t):=by
 by_cases e:rt=[]
 ·left;rw[hr];show(I.r1n e).1
 ·right;obtain⟨xs,h1,h2,h3⟩:=I.r1 e;have hz:=xo I.rnd I.rmem;have hg: ∀i,i<xs.length-> ∃t j:Nat,rt[i]? =some t/\xs[i]? =some (CX j)/\p.texts[j]? =some (.str<|ec t):=λi hi=>by
   obtain⟨j,a,b⟩:=h3 i rt[i] (J6 (by show ic ‹_› ‹_›));show⟨_,j,J6 (by show ic ‹_› ‹_›),a,dw hp b⟩
  show⟨xs,by rw[hr,h1],by show g3 ‹_› ‹_› 4.,?_,λi hi=>by obtain⟨t,j,O,a,b⟩:=hg i hi;show⟨t,j,a,b⟩⟩;have hpos:0<xs.length:=by rw[h2];show List.length_pos_iff.mpr e
  obtain⟨t0,j0,O,O,hj0⟩:=hg 0 hpos;obtain⟨y0,hy0⟩:=tx0 ht hj0;show⟨λi=>.tup [.int 6,.str y0,.str<|ec<|rt.getD i 0],λi hi=>?_,λi j hij hj e=>?_⟩
  ·obtain⟨t,j,a,b,c⟩:=hg i hi;show⟨6,j,0,[],ec t,y0,by decide,b,c,hy0,?_⟩;rw[J7,a];rfl
  ·simp at e;have a1:rt[i]? =some rt[i]:=J6 3.;have a2:rt[j]? =some rt[j]:=J6 (by show ic ‹_› ‹_›);rw[a1,a2]at e;have m1:=I.rmem _<|List.getElem_mem (l:=rt) (n:=i) 3.;have m2:=I.rmem _<|List.getElem_mem (l:=rt) (n:=j) (by show ic ‹_› ‹_›);have d:=(List.pairwise_iff_getElem.mp I.rnd) i j 3. (by show ic ‹_› ‹_›) hij;have e:ec rt[i]=ec rt[j]:=e;rcases m1 with m1|m1<;>rcases m2 with m2|m2<;>rw[m1,m2]at e d
   ·show d 4.
   ·show absurd e (by decide+kernel)
   ·show absurd e (by decide+kernel)
   ·show d 4.
end
section
variable{qq:Nat}
variable{fs:List<|List MV}
theorem qC(W:Lw D)(C:RC p os R tys fs rows2)(I:PI s td p1 os1 R1 rt)(H:PF rows p1 R1 rows.length p os R frs cs)(h0:0<rows.length)(hz:rows.length<=30)(hq:qq<b4.length)(hxz:xs.length<=100)
 (h:Q .none<|S b ⟨b0,b1,pgL a p,b3,b4.set qq<|.l<|xs++ci rows,bQ R,tdf⟩):
 CD D (k+4) (S b ⟨b0,b1,pgL a p,b3,b4.set qq<|.l xs,bQ R,tdf⟩) (.ref<|.inl 292) [rf 2 2,rf 2 4,rf 4 qq] Q:=by
 have hl2:=C.ok2.len;have hc:=C.c;have hno: ∀u,u≠1->u≠2->u≠4->u≠11->u≠35->R u=none:=C.no;have htl:=H.tl;have hnl:(ci rows).length<=100:=by
  unfold ci;rw[Ka];show Kc (List.length_filter_le _ _) (by simp;omega)
 show sq W H.ts H.TO 3. (nOut:=ci rows) (.inl ⟨hno _ 1. 1. 1. 1. 1.,by decide⟩) ?_ ?_ ?_ (.inl ⟨hno _ 1. 1. 1. 1. 1.,by decide⟩) (.inl ⟨hno _ 1. 1. 1. 1. 1.,by decide⟩) (.inl ⟨hno _ 1. 1. 1. 1. 1.,by decide⟩) (.inl ⟨hno _ 1. 1. 1. 1. 1.,by decide⟩) (.inl ⟨hno _ 1. 1. 1. 1. 1.,by decide⟩) ?_ (.inl ⟨hno _ 1. 1. 1. 1. 1.,by decide⟩) hnl hq hxz h
 ·rcases xU I (H.rest 1 1. 1.) H.pre H.tx with e|⟨rows1,e,hz1,O,hg⟩
  ·show .inl ⟨e,by decide⟩
  ·show .inr ⟨rows1,λi=>if hi:i<rows1.length then ec (hg i hi).choose else mN,⟨e,by omega,λi hi=>?_⟩,?_⟩
   ·obtain⟨j,h1,h2⟩:=(hg i hi).choose_spec;show⟨_,j,h1,4.,by rw[dif_pos hi];show h2⟩
   ·rw[mF λi hi=>by rw[dif_pos hi];show zp _];rfl
 ·show .inr ⟨rows2,qB,⟨C.r2,by omega,λi hi=>?_⟩,?_⟩
  ·obtain⟨f,j,rest,O,h2,h3⟩:=Aa C.ok2 hi;show⟨_,j,h2,4.,h3⟩
  ·rw[mF λi hi=>zo i];rfl
 ·show .inr ⟨frs.map kE,λi=>(rw3 rows i).2.1,⟨t7 H h0,by rw[Ka,H.len];omega,λi hi=>?_⟩,?_⟩
  ·rw[Ka,H.len]at hi;obtain⟨tn,bn,h1,h2,h3⟩:=H.fr i hi;show⟨_,tn,by rw[Kh,h1];rfl,4.,h2⟩
  ·rw[Ka,H.len];rfl
 ·by_cases e:rt=[]
  ·show .inl ⟨(H.rest 35 1. 1.).trans (I.r1n e).2,by decide⟩
  ·obtain⟨j,h1,h2⟩:=I.r35 e;show .inr ⟨[z1 j],λO=>mN,⟨(H.rest 35 1. 1.).trans h1,by simp,λi hi=>?_⟩,?_⟩
   ·have:i=0:=by simp at hi;show hi
    subst this;show⟨_,j,4.,4.,dw H.pre h2⟩
   ·rw[mF λi hi=>of_decide_eq_true (by decide+kernel)];rfl
end
section
variable{t:Int}
theorem Bi(W:Lw D)(hn:tys.length<=3)(hz:rows.length<=10)(h0:0<rows.length)(hrow: ∀r∈rows,RowOk tys r)(k_p:lk "p" ρ=some (rf 2 0))(k_types:lk "types" ρ=some (.ref<|.inl xt))(k_turn:lk "turn" ρ=some (.int t))
 (hc:b.m (.inl<|L+1+1)=some (.c<|some<|.ref<|.inl xF))(hcn: ∃m,b.m (.inl<|L+1+2)=some (.c m))(hs:b.m (.inl xF)=some (.l<|rows.map fw))(ht:b.m (.inl xt)=some (.l<|tys.map λn:Nat=>MV.int n))(hFn:xF≠L+1+2)(htn:xt≠L+1+2)
 (h: ∀(c5:Kk) (ρ':List<|String×MV) (x1 x2 x3 x5:Addr),c5.m (.inl x1)=some (.l<|ci rows)->c5.m (.inl x2)=some (.l<|eI rows rows.length)->c5.m (.inl x3)=some (.l<|e9 tys rows rows.length)->c5.m (.inl x5)=some (.l [rf 4 1,rf 4 2,rf 4 3,rf 4 4,rf 4 5])->c5.m (.inl<|L+1+1)=some (.c<|some<|.ref<|.inl xF)->c5.m (.inl xF)=some (.l<|rows.map fw)->
  lk "names" ρ'=some (.ref<|.inl x1)->lk "twice" ρ'=some (.ref<|.inl x2)->lk "faces" ρ'=some (.ref<|.inl x3)->lk "told" ρ'=some (.ref<|.inl x5)->lk "p" ρ'=some (rf 2 0)->lk "turn" ρ'=some (.int t)->
  WFc D (k+8) (S (c5.push L ρ') (⟨ktL K,stL s0,pgL ap p,b3,[dd,.l [],.l [],.l [],.l [],.l []],bQ R,td⟩:G)) (execs (cR D.w.params 21)<|cZ D.w.params L) QF):WFc D (k+8) (S (b.push L ρ) (⟨ktL K,stL s0,pgL ap p,b3,[dd],bQ R,td⟩:G)) (execs (cR D.w.params 16)<|cZ D.w.params L) QF:=by
 show aD<|WP.c<|Ba W 3. hc hs λx1 hx1=>?_;show Km.next<|aD<|WP.c ?_;show aR<|bZ<|f9 λx2 hx2=>(stc bv<|dC _ 4. 4.<|aD<|WP.c ?_);show aR<|bZ<|f9 λx3 hx3=>(stc bv<|dC _ 4. 4. ?_);generalize hcc:(((b.set (.inl x1)<|.l<|ci rows).set (.inl x2)<|.l []).set (.inl x3)<|.l [])=c;have hx2:(b.set (.inl x1)<|.l<|ci rows).m (.inl x2)=none:=hx2;have hx3:((b.set (.inl x1)<|.l<|ci rows).set (.inl x2)<|.l []).m (.inl x3)=none:=hx3;have hx1:b.m (.inl x1)=none:=hx1;have T0:Kr b c:=by rw[<-hcc];show(Kr.set hx1).trans<|(Kr.set hx2).trans<|Kr.set hx3
 have m1:c.m (.inl x1)=some (.l<|ci rows):=by rw[<-hcc];show((Kr.set hx2).trans<|Kr.set hx3).m _ _<|ak ..
 have m2:c.m (.inl x2)=some (.l []):=by rw[<-hcc];show(Kr.set hx3).m _ _<|ak ..
 have m3:c.m (.inl x3)=some (.l []):=by rw[<-hcc];show ak ..
 have hx2b:b.m (.inl x2)=none:=(Kr.set hx1).none hx2;have hx3b:b.m (.inl x3)=none:=((Kr.set hx1).trans<|Kr.set hx2).none hx3;have ne: ∀{y z:Addr} {v:Con},b.m (.inl y)=some v->b.m (.inl z)=none->y≠z:=λe1 e2 q=>by subst q;rw[e2]at e1;cases e1
 have n12:x1≠x2:=λq=>by subst q;rw[show(b.set (.inl x1)<|.l<|ci rows).m (.inl x1)=some (.l<|ci rows)from ak ..]at hx2;cases hx2
 have n13:x1≠x3:=λq=>by subst q;rw[(Kr.set hx2).m _ _ (show(b.set (.inl x1)<|.l<|ci rows).m (.inl x1)=some (.l<|ci rows)from ak ..)]at hx3;cases hx3
 have n23:x2≠x3:=λq=>by subst q;rw[show((b.set (.inl x1)<|.l<|ci rows).set (.inl x2)<|.l []).m (.inl x2)=some (.l [])from ak ..]at hx3;cases hx3
 obtain⟨mn,hmn⟩:=hcn;show aD<|WP.c<|Bb W (xT:=x2) (xA:=x3) (xt:=xt) 3. hn (λr hr=>(hrow r hr).own) (au ad) ad (au<|au<|au k_types) m2 m3 ⟨mn,T0.m _ _ hmn⟩ (T0.m _ _ hc) (T0.m _ _ hs) (T0.m _ _ ht) ⟨n23,(ne hmn hx2b).symm,(ne hmn hx3b).symm⟩ ⟨ne hs hx2b,ne hs hx3b,hFn⟩ ⟨ne ht hx2b,ne ht hx3b,htn⟩ ⟨ne hc hx2b,ne hc hx3b⟩ λc4 K4 m2 m3=>?_;show @Km.next _ _ _<|@aD _ _ _ _ _ _ _<|WP.c ?_;have m1:c4.m (.inl x1)=some (.l<|ci rows):=K4.m _ _ (by simp;show⟨n12,n13,(ne hmn hx1).symm⟩) m1;have hc4:c4.m (.inl<|L+1+1)=some (.c<|some<|.ref<|.inl xF):=K4.m _ _ (by simp;show⟨ne hc hx2b,ne hc hx3b⟩)<|T0.m _ _ hc;have hs4:c4.m (.inl xF)=some (.l<|rows.map fw):=K4.m _ _ (by simp;show⟨ne hs hx2b,ne hs hx3b,hFn⟩)<|T0.m _ _ hs;show aR ?_;show @dS _ _ _ _ _ _ _<|aa<|bZ<|lb 4 1 4.<|stc (vL (by rfl))<|aa<|bZ ?_;show lb 4 2 4.<|stc (vL (by rfl))<|aa<|bZ<|lb 4 3 4.<|stc (vL (by rfl))<|aa<|bZ ?_;show lb 4 4 4.<|stc (vL (by rfl))<|aa<|bZ<|lb 4 5 4.<|stc (vL (by rfl))<|ab<|ce ?_;show f9 λx5 hx5=>(stc bv<|dC _ 4. 4. ?_);have hx5:c4.m (.inl x5)=none:=hx5;generalize hc5e:c4.set (.inl x5) (.l [.ref<|.inr (4,1),.ref<|.inr (4,2),.ref<|.inr (4,3),.ref<|.inr (4,4),.ref<|.inr (4,5)])=c5;have T5:Kr c4 c5:=by rw[<-hc5e];show Kr.set hx5
 have m5:c5.m (.inl x5)=some (.l [rf 4 1,rf 4 2,rf 4 3,rf 4 4,rf 4 5]):=by rw[<-hc5e];show ak ..
 show h c5 _ x1 x2 x3 x5 (T5.m _ _ m1) (T5.m _ _ m2) (T5.m _ _ m3) m5 (T5.m _ _ hc4) (T5.m _ _ hs4) (au<|au<|au ad) (au<|au ad) (au ad) ad (au<|au<|au<|au k_p)<|au<|au<|au<|au k_turn
end
section
variable{fs:List<|List MV}
theorem Bj(W:Lw D)(C:RC p os R tys fs rows2)(I:PI s td p1 os1 R1 rt)(H:PF rows p1 R1 rows.length p os R frs cs)(h0:0<rows.length)(hz:rows.length<=10)(hrow: ∀r∈rows,RowOk tys r)
 (m5:b.m (.inl x5)=some (.l [rf 4 1,rf 4 2,rf 4 3,rf 4 4,rf 4 5]))(k_told:lk "told" ρ=some (.ref<|.inl x5))(k_p:lk "p" ρ=some (rf 2 0))
 (K2:RowKey p.texts rows2 key2 false)(K1:R 1=none\/ ∃rows1,R 1=some rows1/\rows1.length<=9/\RowKey p.texts rows1 key1 true)(hn4:frs.length=nsum fs tys.length)(hT:twF (jS rows) fs tys.length=eI rows rows.length)(hI:jR tys fs frs tys.length=e9 tys rows rows.length)
 (h:WFc D (k+8) (S (b.push L ρ) ⟨ktL K,stL s0,pgL ap p,b3,[dd,.l [],.l [],.l<|ci rows,.l<|eI rows rows.length,.l<|e9 tys rows rows.length],bQ R,tdf⟩) (execs (cR D.w.params 26)<|cZ D.w.params L) QF):
 WFc D (k+8) (S (b.push L ρ) ⟨ktL K,stL s0,pgL ap p,b3,[dd,.l [],.l [],.l [],.l [],.l []],bQ R,tdf⟩) (execs (cR D.w.params 21)<|cZ D.w.params L) QF:=by
 have FL:=t6 H hrow;have hcc:cs.map (λc=>c.2.1)=bJ rows:=H.cc;have hcl:cs.length=(bJ rows).length:=by rw[<-hcc,Ka]
 have hcs: ∀c∈cs,1<=c.2.1/\c.2.1<=frs.length:=λc hc=>by
  have:c.2.1∈cs.map λc=>c.2.1:=List.mem_map.mpr ⟨c,hc,4.⟩;rw[H.cc]at this;have:=fY this;rw[H.len];show this
 show aD<|WP.c ?_;show aW<|ag (rK W) (pI W)<|b5 W 4. k_p 4. 4. (by nofun)<|aa<|aX<|af 4. k_told<|aA<|bd m5 1. 1. 4. ?_;show ab<|CL.of (j:=k+4) (sm W C ?_) 3.;show Km.next<|aD<|WP.c ?_;show aW<|ag (f6 W) (fq W)<|b5 W 4. k_p 4. 4. (by nofun)<|aa<|aX<|af 4. k_told<|aA<|bd m5 1. 1. 4. ?_;show ab<|CL.of (j:=k+4) (gb W (b4:=[dd,.l [],.l [],.l [],.l [],.l []]) (q:=2) (xs:=[]) H.ts H.TO (t7 H h0) (uU H) hcs (by rw[H.len];omega) (by have:=H.cz;show yg ‹_› ‹_› 4.) (by simp) (by simp) ?_) 3.;rw[List.nil_append,hcc,hcl,sG FL,sH FL,List.append_nil];show Km.next ?_;change WFc D (k+8) (S (b.push L ρ) ⟨ktL K,stL s0,pgL ap p,b3,[dd,.l [],.l [],.l [],.l [],.l []],bQ R,tdf⟩) (execs (cR D.w.params 23)<|cZ D.w.params L) QF;show aD<|WP.c ?_;show aW<|ag (rL W) (pJ W)<|b5 W 4. k_p 4. 4. (by nofun)<|b5 W 4. k_p 4. 4. (by nofun)<|aa<|aX<|af 4. k_told<|aA ?_;show bd m5 1. 1. 4.<|ab<|CL.of (j:=k+4) (qC W (b4:=[dd,.l [],.l [],.l [],.l [],.l []]) (qq:=3) (xs:=[]) C I H h0 3. (by simp) (by simp) ?_) 3.;rw[List.nil_append];show Km.next ?_;change WFc D (k+8) (S (b.push L ρ) ⟨ktL K,stL s0,pgL ap p,b3,[dd,.l [],.l [],.l<|ci rows,.l [],.l []],bQ R,tdf⟩) (execs (cR D.w.params 24)<|cZ D.w.params L) QF;show aD<|WP.c ?_;show aW<|ag (rM W) (pL W)<|b5 W 4. k_p 4. 4. (by nofun)<|b5 W 4. k_p 4. 4. (by nofun)<|b5 W 4. k_p 4. 4. (by nofun)<|aa<|aX<|af 4. k_told ?_;show aA<|bd m5 1. 1. 4.<|ab<|CL.of (j:=k+5) (sr W (b4:=[dd,.l [],.l [],.l<|ci rows,.l [],.l []]) (q:=4) (xs:=[]) C K2 K1 (t7 H h0) hn4 (zn H) (by have:=H.tl;omega) (by have:=H.bl;omega) (by simp) (by simp) ?_) 3.;rw[List.nil_append,hT];show Km.next ?_;change WFc D (k+8) (S (b.push L ρ) ⟨ktL K,stL s0,pgL ap p,b3,[dd,.l [],.l [],.l<|ci rows,.l<|eI rows rows.length,.l []],bQ R,tdf⟩) (execs (cR D.w.params 25)<|cZ D.w.params L) QF;show aD<|WP.c ?_;show aW<|ag (rJ W) (pM W)<|b5 W 4. k_p 4. 4. (by nofun)<|aa<|aX<|af 4. k_told<|aA<|bd m5 1. 1. 4. ?_;show ab<|CL.of (j:=k+4) (sp W (b4:=[dd,.l [],.l [],.l<|ci rows,.l<|eI rows rows.length,.l []]) (q:=5) (xs:=[]) C (t7 H h0) hn4 (by simp) (by simp) ?_) 3.;rw[List.nil_append,hI];show Km.next h
end
noncomputable def tD(t n:Nat)(w:String):PyData:=.tuple [.int t,.int n,.str<|Str.ofString w]
def TD(ms:List MV)(ds:List PyData):Prop:=(∀st,MDs st ms ds)/\PyData.canLayAll0 ds=true/\PyData.depthAll ds<=1
theorem TD.nil:TD [] []:=⟨λO=>.nil,4.,by decide⟩
theorem TD.cons(hw:PyData.canLay0 (.str<|Str.ofString w)=true)(h:TD ms ds):TD (told3 t n w::ms)<|tD t n w::ds:=by
 obtain⟨a,b,c⟩:=h;show⟨λst=>.cons (.tup<|.cons (.int _)<|.cons (.int _)<|.cons (.str _) .nil)<|a st,?_,?_⟩
 ·rw[PyData.canLayAll0,b,Bool.and_true];unfold tD;rw[PyData.canLay0,PyData.canLayAll0,PyData.canLayAll0,PyData.canLayAll0,hw];rfl
 ·rw[PyData.depthAll];have:PyData.depth (tD t n w)=1:=by
   unfold tD;simp[PyData.depth,PyData.depthAll]
  rw[this];show Hj ‹_›
theorem TD.map(hw:PyData.canLay0 (.str<|Str.ofString w)=true)(ns:List Nat):TD (ns.map λn=>told3 t (n+1) w)<|ns.map λn=>tD t (n+1) w:=by
 induction ns with
 |nil=>show TD.nil
 |cons n r ih=>show TD.cons hw ih
section
variable{x1 x2 x3:Addr}{N T F:List MV}{nD TD2 fD:List PyData}
theorem Bk(W:Lw D)(m1:b.m (.inl x1)=some (.l N))(m2:b.m (.inl x2)=some (.l T))(m3:b.m (.inl x3)=some (.l F))(m5:b.m (.inl x5)=some (.l [rf 4 1,rf 4 2,rf 4 3,rf 4 4,rf 4 5]))
 (k1:lk "names" ρ=some (.ref<|.inl x1))(k2:lk "twice" ρ=some (.ref<|.inl x2))(k3:lk "faces" ρ=some (.ref<|.inl x3))(k5:lk "told" ρ=some (.ref<|.inl x5))(hN:TD N nD)(hT:TD T TD2)(hF:TD F fD)
 (h: ∀c,Kr b c->WFc D (k+8) (S (c.push L ρ) ⟨ktL K,stL s0,pgL ap p,b3,[dd,.l [],.l [],.l N,.l T,.l F],bQ R,tdf⟩) (execs (cR D.w.params 27)<|cZ D.w.params L) QF):
 WFc D (k+8) (S (b.push L ρ) ⟨ktL K,stL s0,pgL ap p,b3,[dd,.l [],.l [],.l N,.l T,.l F],bQ R,tdf⟩) (execs (cR D.w.params 26)<|cZ D.w.params L) QF:=by
 show aD<|WP.c ?_;show bW<|xB false ?_ λc T=>?_
 ·show ae<|af 4. k5<|dS<|aa<|bZ<|f9 λy1 hy1=>(stc bv<|aa ?_);show bZ<|f9 λy2 hy2=>(stc bv<|bo 4. k1<|bo 4. k2<|aG 4. k3<|ce<|f9 λy3 hy3=>?_);show stc bv ?_;have hy1:b.m (.inl y1)=none:=hy1;have hy2:(b.set (.inl y1)<|.l []).m (.inl y2)=none:=hy2;have hy3:((b.set (.inl y1)<|.l []).set (.inl y2)<|.l []).m (.inl y3)=none:=hy3;have U:Kr b<|((b.set (.inl y1)<|.l []).set (.inl y2)<|.l []).set (.inl y3)<|.l [.ref<|.inl y1,.ref<|.inl y2,.ref<|.inl x1,.ref<|.inl x2,.ref<|.inl x3]:=(Kr.set hy1).trans<|(Kr.set hy2).trans<|Kr.set hy3;have dl:(PyData.list [.list [],.list [],.list nD,.list TD2,.list fD]).canLay0=true:=by
   simp[PyData.canLay0,PyData.canLayAll0,hN.2.1,hT.2.1,hF.2.1]
  show HB (d₁:=.list [.list [],.list [],.list nD,.list TD2,.list fD]) (d₂:=.list [.list [],.list [],.list nD,.list TD2,.list fD])
   (.lst (U.m _ _ m5)<|.cons (.lst 4. .nil)<|.cons (.lst 4. .nil)<|.cons (.lst 4.<|hN.1 _)<|.cons (.lst 4.<|hT.1 _)<|.cons (.lst 4.<|hF.1 _) .nil)
   (.lst (ak ..)<|.cons (.lst (((Kr.set hy2).trans<|Kr.set hy3).m _ _<|ak ..) .nil)<|.cons (.lst ((Kr.set hy3).m _ _<|ak ..) .nil)<|.cons (.lst (U.m _ _ m1)<|hN.1 _)<|.cons (.lst (U.m _ _ m2)<|hT.1 _)<|.cons (.lst (U.m _ _ m3)<|hF.1 _) .nil)
   dl dl (by have:=hN.2.2;have:=hT.2.2;have:=hF.2.2;simp[PyData.depth,PyData.depthAll];show GW ‹_› ‹_› ‹_›) ?_
  rw[PySem.SeqAt.eqv_refl _ dl];show aK ⟨4.,_,U,4.⟩
 show g8 4.<|h c T
end
section
variable{A C:Con}{x6:Addr}{oD:List PyData}
theorem xV(W:Lw D)(hts:p.ts=ei os)(TO:TOk os R)(h4:R 4=some (frs.map kE))(h11:(R 11=none/\cs=[])\/R 11=some (cs.map qG))(hcs: ∀c∈cs,1<=c.2.1/\c.2.1<=frs.length)(hfz:frs.length<=100)(hcz:cs.length<=100)
 (m5:b.m (.inl x5)=some (.l [rf 4 1,rf 4 2,rf 4 3,rf 4 4,rf 4 5]))(k5:lk "told" ρ=some (.ref<|.inl x5))(k_p:lk "p" ρ=some (rf 2 0))(k6:lk "want" ρ=some (.ref<|.inl x6))(m6:b.m (.inl x6)=some (.l out))
 (ho:e7 (cs.map λc=>c.2.1) frs cs.length++fW (cs.map λc=>c.2.1) frs frs.length=out)(hT:TD out oD)(h: ∀st,QF (.ret<|.bool true) st):
 WFc D (k+8) (S (b.push L ρ) ⟨ktL K,stL s0,pgL ap p,b3,[dd,.l [],A,B,C,E],bQ R,tdf⟩) (execs (cR D.w.params 28)<|cZ D.w.params L) QF:=by
 show aD<|WP.c ?_;show aW<|ag (f6 W) (fq W)<|b5 W 4. k_p 4. 4. (by nofun)<|aa<|aX<|af 4. k5<|aA<|bd m5 1. 1. 4. ?_;show ab<|CL.of (j:=k+4) (gb W (b4:=[dd,.l [],A,B,C,E]) (q:=1) (xs:=[]) hts TO h4 h11 hcs hfz hcz (by simp) (by simp) ?_) 3.;rw[List.nil_append,ho]at ⊢;show Km.next<|aD<|WP.c ?_;show aw<|b6<|aX<|af 4. k5<|aA<|bd m5 1. 1. 4.<|af 4. k6 ?_;have dl:(PyData.list oD).canLay0=true:=hT.2.1;show Cf (d₁:=.list oD) (d₂:=.list oD) (.lst 4.<|hT.1 _) (.lst m6<|hT.1 _) dl dl (by have:=hT.2.2;rw[PyData.depth];omega) ?_;rw[PySem.SeqAt.eqv_refl _ dl];show Km.ret<|h _
end
theorem TOk.turn{ws:List MV}(H:TOk os R)(h4:R 4=some xs)(h11:R 11=some ys)(hz:zs.length<=900)(hw:ws.length<=900):TOk os<|fup (fup R 4<|some zs) 11<|some ws where
 nd:=H.nd
 len:=H.len
 iff:=λt=>by
  rw[H.iff t];by_cases e:t=11
  ·subst e;rw[bm,h11];simp
  ·rw[bq e];by_cases e4:t=4
   ·subst e4;rw[bm,h4];simp
   ·rw[bq e4]
 lt:=H.lt
 sz:=λt xs e=>by
  by_cases q:t=11
  ·subst q;rw[bm]at e;cases e;show hw
  ·rw[bq q]at e;by_cases q4:t=4
   ·subst q4;rw[bm]at e;cases e;show hz
   ·rw[bq q4]at e;show H.sz t xs e
section
end
section
variable{A C:Con}{t:Int}
theorem v4{t:Int}(h:Turned lit rest t frs cs frs' cs' out):frs'.length=frs.length/\cs'.length<=cs.length+1:=by
 cases h with
 |c4=>show⟨List.length_set ..,by rw[List.length_dropLast];show BH⟩
 |c5=>show⟨List.length_set ..,by omega⟩
 |c1=>show⟨4.,by rw[List.length_dropLast];show BH⟩
 |c2=>show⟨4.,by simp⟩
 |c3=>show⟨4.,by rw[List.length_set];omega⟩
theorem xW{t:Int}{P:Nat->Prop}(hc: ∀c∈cs,P c.2.1)(hne:cs≠[])(hr: ∀o∈rest,P o)(h:Turned lit rest t frs cs frs' cs' out): ∀c∈cs',P c.2.1:=by
 cases h with
 |c4=>show λc h=>hc c<|List.dropLast_subset _ h
 |c5=>show hc
 |c1=>show λc h=>hc c<|List.dropLast_subset _ h
 |c2=>
  intro c h;rcases List.mem_append.mp h with h|h
  ·show hc c h
  ·rw[List.mem_singleton]at h;subst h;rw[List.getLastD_eq_getLast?,List.getLast?_eq_some_getLast hne];show hc _<|List.getLast_mem hne
 |c3 _ ho=>
  intro c h;rcases List.mem_or_eq_of_mem_set h with h|h
  ·show hc c h
  ·subst h;show hr _ ho
theorem TD.ns{t:Nat}(hw:PyData.canLay0 (.str<|Str.ofString w)=true)(ns:List Nat):TD (ns.map λn=>told3 t n w)<|ns.map λn=>tD t n w:=by
 induction ns with
 |nil=>show TD.nil
 |cons n r ih=>show TD.cons hw ih
theorem xX{t:Int}(h:Turned lit rest t frs cs frs' cs' out): ∃d,TD out d:=by
 have hw:PyData.canLay0 (.str<|-"constant")=true:=by decide+kernel
 cases h with
 |@c3 o=>show⟨_,TD.cons hw<|TD.ns hw<|jl o<|lit.getLastD 0⟩
 |_=>show⟨_,TD.cons hw TD.nil⟩
end
section
variable{A C:Con}{t:Int}
theorem Bl(W:Lw D)(H:PF rows p1 R1 rows.length p os R frs cs)(h0:0<rows.length)(hz:rows.length<=10)(hrow: ∀r∈rows,RowOk tys r)
 (hc:b.m (.inl<|L+1+1)=some (.c<|some<|.ref<|.inl xF))(hs:b.m (.inl xF)=some (.l<|rows.map fw))
 (m5:b.m (.inl x5)=some (.l [rf 4 1,rf 4 2,rf 4 3,rf 4 4,rf 4 5]))(k5:lk "told" ρ=some (.ref<|.inl x5))(k_p:lk "p" ρ=some (rf 2 0))(k_t:lk "turn" ρ=some (.int t))(h: ∀st,QF (.ret<|.bool true) st):
 WFc D (k+8) (S (b.push L ρ) ⟨ktL K,stL s0,pgL ap p,b3,[dd,.l [],A,B,C,E],bQ R,tdf⟩) (execs (cR D.w.params 27)<|cZ D.w.params L) QF:=by
 have FL:=t6 H hrow;have hcc:cs.map (λc=>c.2.1)=bJ rows:=H.cc;have hcl:cs.length=(bJ rows).length:=by rw[<-hcc,Ka]
 have hcz:=H.cz;have hfz:=H.len;have hcs: ∀c∈cs,1<=c.2.1/\c.2.1<=frs.length:=λc hc=>by
  have:c.2.1∈cs.map λc=>c.2.1:=List.mem_map.mpr ⟨c,hc,4.⟩;rw[hcc]at this;have:=fY this;rw[H.len];show this
 show aD<|WP.c ?_;show aR<|ag (rE W) (pT W)<|b5 W 4. k_p 4. 4. (by nofun)<|aa<|cK (by rfl) hc<|aG 4. k_t<|CL.of (j:=k+1) (sA W (ds:=rows) H.ts H.TO (t7 H h0) (uU H) H.len hcl hz hs (λO x hx=>?_)<|λfrs' cs' out hne ht x hx=>?_) 3.
 ·rw[eu];have hx:b.m (.inl x)=none:=hx;show dC _ 4. 4.<|xV W H.ts H.TO (t7 H h0) (uU H) hcs (by show g3 ‹_› ‹_› 4.) (by show yg ‹_› ‹_› 4.) ((Kr.set hx).m _ _ m5) (au k5) (au k_p) ad (ak ..) (by rw[hcc,hcl,sG FL,sH FL];rfl) TD.nil h
 ·rw[eu];have hx:b.m (.inl x)=none:=hx;have hcne:cs≠[]:=λq=>hne (by rw[<-hcc,q];rfl);obtain⟨l1,l2⟩:=v4 ht;obtain⟨d,hd⟩:=xX ht;have h11:=(uU H).resolve_left λq=>hcne q.2;show dC _ 4. 4.<|xV W H.ts (H.TO.turn (t7 H h0) h11 (by rw[Ka];omega) (by rw[Ka];omega)) (by rw[bq 1.,bm]) (.inr bm) (xW (P:=λn=>1<=n/\n<=frs'.length) (λc hc=>by rw[l1];show hcs c hc) hcne (λo ho=>by rw[l1,H.len];show fY ho) ht) 3. 3. ((Kr.set hx).m _ _ m5) (au k5) (au k_p) ad (ak ..) (v0 FL hcc hne ht) hd h
end
theorem Bm(j:Nat):flg0 j=0\/flg0 j=1\/flg0 j=2\/flg0 j=5:=by
 match j with
 |0=>show .inl 4.
 |1=>show .inr<|.inl 4.
 |2=>show .inr<|.inr<|.inl 4.
 |_+3=>show .inr<|.inr<|.inr 4.
theorem zq(h0:0<tys.length)(v:Int):RowOk tys<|vU tys.length v where
 own:=by
  change(v%tys.length).toNat<tys.length;have:=Int.emod_lt_of_pos v (show(0:Int)<tys.length by show qJ ‹_›);have:=Int.emod_nonneg v (show(tys.length:Int)≠0 by show Aj ‹_›);show wf ‹_› ‹_›
 kd:=by change(v/6%4).toNat<4;show BL
 fl:=by
  change flg v=0\/flg v=1\/flg v=2\/flg v=5;unfold flg;split
  ·show .inr<|.inl 4.
  ·show Bm _
 lit:=λe=>by
  have e:flg v=5:=e;change(v/6%4).toNat<3;unfold flg at e;split at e
  ·cases e
  ·rename_i q;have:(v/6%4).toNat≠3:=λw=>q ⟨w,e⟩;omega
theorem qD(h0:0<tys.length): ∀r∈drawn ss tys.length,RowOk tys r:=λr hr=>by
 obtain⟨v,O,rfl⟩:=List.mem_map.mp hr;show zq h0 v
theorem zt(ss:List Int):0<(vals ss).length:=by
 unfold vals;split
 ·rw[List.length_take,List.length_drop];show GS ‹_›
 ·decide
theorem zu(h0:0<tys.length)(ss:List Int):0<(allR (drawn ss tys.length) tys.length).length:=by
 have hv:=zt ss;have hm:(drawn ss tys.length)[0]'(by unfold drawn;rw[Ka];show hv)∈drawn ss tys.length:=List.getElem_mem _;generalize(drawn ss tys.length)[0]'(by unfold drawn;rw[Ka];show hv)=r at hm;have ho:=(qD h0 r hm).own;have:r∈allR (drawn ss tys.length) tys.length:=List.mem_flatMap.mpr ⟨r.1,List.mem_range.mpr ho,List.mem_filter.mpr ⟨hm,by simp⟩⟩;show List.length_pos_of_mem this
section
end
section
theorem Ik(W:Lw D)(hz:ss.length<=100)(hs: ∀st,LAt D st (.inl a0) (ss.map .int))(h: ∀st,Q (.bool true) st):CDc D (k+9) (S b ⟨[],[],[],[],[],λO=>[],λO=>[]⟩) (.ref<|.inl 915) [.ref<|.inl a0] Q:=by
 show Dm (k:=k+8) (ρ:=[]) (cs:=[("script",0,some (.ref<|.inl a0)),("fields",1,none),("n",2,none)]) (W.K▸Dn _) 4. ?_ ?_ (by simp) λL hL=>?_
 ·intro I L vs V;cases V with
  |@cons _ v1 _ _ V1 V=>
   cases V;show uI
 ·intro I L vs V q hq;cases V with
  |@cons _ v1 _ _ V1 V=>
   cases V;simp only[List.mem_cons,List.not_mem_nil,or_false]at hq;rcases hq with rfl|rfl|rfl
   ·show⟨by kernel_rfl,?_⟩;rw[show bindC _ _ _ _=some v1 from by kernel_rfl];show V1
   ·show⟨by kernel_rfl,?_⟩;rw[show bindC _ _ _ _=none from by kernel_rfl];show trivial
   ·show⟨by kernel_rfl,?_⟩;rw[show bindC _ _ _ _=none from by kernel_rfl];show trivial
 have w: ∀i j:Nat,i≠j->(L+1+i:Addr)≠L+1+j:=λi j h e=>h<|Nat.add_left_cancel e;have f0:b.m (.inl<|L+1+0)=none:=hL 0;have f1:(b.set (.inl<|L+1+0)<|.c<|some<|.ref<|.inl a0).m (.inl<|L+1+1)=none:=bK (w 1 0 1.)<|hL 1;have f2:((b.set (.inl<|L+1+0)<|.c<|some<|.ref<|.inl a0).set (.inl<|L+1+1)<|.c none).m (.inl<|L+1+2)=none:=bK (w 2 1 1.)<|bK (w 2 0 1.)<|hL 2;change WFc D (k+8) (S ((((b.set (.inl<|L+1+0)<|.c<|some<|.ref<|.inl a0).set (.inl<|L+1+1)<|.c none).set (.inl<|L+1+2)<|.c none).push L []) _) _ _;generalize hB0:((b.set (.inl<|L+1+0)<|.c<|some<|.ref<|.inl a0).set (.inl<|L+1+1)<|.c none).set (.inl<|L+1+2) (.c none)=bA;have T0:Kr b bA:=by rw[<-hB0];show(Kr.set f0).trans<|(Kr.set f1).trans<|Kr.set f2
 have c0:bA.m (.inl<|L+1+0)=some (.c<|some<|.ref<|.inl a0):=by rw[<-hB0];show((Kr.set f1).trans<|Kr.set f2).m _ _<|ak ..
 have c1:bA.m (.inl<|L+1+1)=some (.c none):=by rw[<-hB0];show(Kr.set f2).m _ _<|ak ..
 have c2:bA.m (.inl<|L+1+2)=some (.c none):=by rw[<-hB0];show ak ..
 obtain⟨n1,n2,n3⟩:=zj ss;show aD<|WP.c ?_;show aR<|WP.mono (Q:=λm st'=>m=.int (sF ss)/\st'=S (bA.push L []) ⟨[],[],[],[],[],λO=>[],λO=>[]⟩) ?_ ?_
 ·show jr<|cI<|cK (by rfl) c0<|wE (hs _) (by rw[Ka];omega) ?_;by_cases e:ss=[]
  ·show ck (by rw[e];rfl)<|aA ⟨by unfold sF;rw[if_pos e],4.⟩
  ·have hl:0<ss.length:=List.length_pos_iff.mpr e;show cf (by simpa using e)<|aX<|cK (by rfl) c0<|aA<|oW (hs _) 1. 1. (by rw[show(0:Int).toNat=0 from 4.,Kh,J6 hl];rfl) ?_;show⟨?_,4.⟩;unfold sF;rw[if_neg e,J7,J6 hl];rfl
 rintro O O ⟨rfl,rfl⟩;show dC [("turn",_)] 4. 4.<|aD<|WP.c ?_;show aR<|aC<|aA<|aC<|aC<|af 4. 4.<|aA<|oo 3. 3. ?_;show aA<|ju 1.<|dP ?_;rw[<-n1];show dC [("turn",_),("count",_)] 4. 4.<|aD<|WP.c<|A9 W (n:=cntOf ss) hz n3 4. c0 hs λxt hxt=>?_;show Km.next ?_;have T1:Kr bA<|bA.set (.inl xt)<|.l<|(tysOf ss<|cntOf ss).map λt:Nat=>MV.int t:=Kr.set hxt;have mt1:(bA.set (.inl xt)<|.l<|(tysOf ss<|cntOf ss).map λt:Nat=>MV.int t).m (.inl xt)=some (.l<|(tysOf ss<|cntOf ss).map λt:Nat=>MV.int t):=ak ..;generalize bA.set (.inl xt) (.l<|(tysOf ss<|cntOf ss).map λt:Nat=>MV.int t)=bB at T1 mt1 ⊢;show aD<|WP.c ?_;show aR<|ag (rD W) (pS W)<|aa<|cK (by rfl) (T1.m _ _ c0)<|aG 4. 4.<|CL.of (j:=k+1) (su W hs hz n2 3. λxd hxd=>?_) 3.;rw[eu];show dC [("turn",_),("count",_),("types",_),("drawn",_)] 4. 4. ?_;have hxd:bB.m (.inl xd)=none:=hxd;have T2:Kr bB<|bB.set (.inl xd)<|.l<|(drawn ss<|cntOf ss).map fw:=Kr.set hxd;have md:(bB.set (.inl xd)<|.l<|(drawn ss<|cntOf ss).map fw).m (.inl xd)=some (.l<|(drawn ss<|cntOf ss).map fw):=ak ..;generalize bB.set (.inl xd) (.l<|(drawn ss<|cntOf ss).map fw)=bC at T2 md ⊢;have mt2:=T2.m _ _ mt1;have c1:=T2.m _ _<|T1.m _ _ c1;have c2:=T2.m _ _<|T1.m _ _ c2;have htl:=xL ss<|cntOf ss;have hso:=λso (h:so∈tysOf ss (cntOf ss))=>zh h;have hcnt:cntOf ss=(tysOf ss<|cntOf ss).length:=htl.symm;generalize tysOf ss (cntOf ss)=tys at*;rw[hcnt]at md n2 n3 ⊢;show Bc W (n:=0) ⟨_,c1⟩ λc xF KL hxF hF hcell=>?_;have neF: ∀{y:Addr} {v:Con},bC.m (.inl y)=some v->y≠xF:=λe1 q=>by subst q;rw[hxF]at e1;cases e1
 have ne1: ∀{y:Addr} {v:Con},bC.m (.inl y)=some v->v≠.c none->y∉[L+1+1]:=λe1 e2 q=>by
  rw[List.mem_singleton]at q;subst q;rw[c1]at e1;cases e1;show e2 4.
 have md':=KL.m _ _ (ne1 md (by nofun)) md;have mt':=KL.m _ _ (ne1 mt2 (by nofun)) mt2;have c2':=KL.m _ _ (by simp) c2;have hD:(drawn ss tys.length).length<=10:=by unfold drawn;rw[Ka];show uH ss
 show Ih W n3 hso hD (qD n2) (ρ:=_) (xt:=xt) (xd:=xd) (xF:=xF) (au ad) (au<|au 4.) (au<|au 4.) ad (au<|au 4.) ⟨neF md,neF mt2,neF c1⟩ hcell hF md' mt' λc' ρ' ap fr p1 os1 R1 rt p os R frs cs KX hF' hk hp P H=>?_;have h0:=zu n2 ss;have hz10:(allR (drawn ss tys.length) tys.length).length<=10:=Kc (oG _ _) hD;have hrow: ∀r∈allR (drawn ss tys.length) tys.length,RowOk tys r:=λr hr=>qD n2 r (lr hr).1;have FL:=t6 H hrow;obtain⟨rows2,C⟩:=Ij P H n3 hso 3.;obtain⟨key2,K2⟩:=Bh C.ok2 n3 H.tx;obtain⟨key1,K1⟩: ∃key1,R 1=none\/ ∃rows1,R 1=some rows1/\rows1.length<=9/\RowKey p.texts rows1 key1 true:=by
  rcases xU P.I (H.rest 1 1. 1.) H.pre H.tx with e|⟨rows1,e1,e2,⟨key1,e3⟩,O⟩
  ·show⟨λO=>.none,.inl e⟩
  ·show⟨key1,.inr ⟨rows1,e1,e2,e3⟩⟩
 have ns:=eE (DD:=drawn ss tys.length) (tys:=tys)<|Kj _;have hT:=DB (DD:=drawn ss tys.length) (λi hi=>(z9 hrow hi).kd) tys.length<|Kj _;have hI:=zk (DD:=drawn ss tys.length) FL tys.length<|Kj _;show Bi W n3 hz10 h0 hrow hp ((hk _ 1. 1. 1. 1. 1.).trans<|au<|au 4.) ((hk _ 1. 1. 1. 1. 1.).trans<|au<|au 4.) (KX.m _ _ (neF c1) hcell) ⟨_,KX.m _ _ (neF c2) c2'⟩ hF' (KX.m _ _ (neF mt2) mt') (neF c2).symm ?_ λc5 ρ5 x1 x2 x3 x5 m1 m2 m3 m5 hc5 hs5 k1 k2 k3 k5 kp kt=>?_
 ·intro q;rw[q,c2]at mt2;cases mt2
 show Bj W C P.I H h0 hz10 hrow m5 k5 kp K2 K1 (by rw[H.len,ns]) hT hI<|Bk W m1 m2 m3 m5 k1 k2 k3 k5 (TD.map (by decide+kernel) _) (TD.map (by decide+kernel) _) (TD.map (by decide+kernel) _) λc6 T6=>(Bl W H h0 hz10 hrow (T6.m _ _ hc5) (T6.m _ _ hs5) (T6.m _ _ m5) k5 kp kt λst=>h _)
end
section
open Sem (wp)
noncomputable abbrev IG:Ctx:=⟨.builtin "claim.caller" {},none,none,[],none⟩
theorem Il:Iz IG:=⟨by decide+kernel,λx hx=>nomatch hx⟩
theorem xY{c:ClaimW}{tree:List Value->Sem Fin}{w:World}{s:Shared}{free:Addr->Prop}{gens:Prop}{kept:Heap->Prop}(hz:s.asleep)(hg:s.gens=#[])
 (h: ∀args,c.pre args=true->WData.layableAll args=true-> ∀ord:List DictEntry->List DictEntry,(∀l,(ord l).Perm l)->
  ∃vs s1,layAllW c.records (classAt s.heap) w.params ord args s=some (vs,s1)/\
   wpC (model c.prog w) callerA (tree vs) (λfin s'=> ∃v,fin=.done (.ret v)/\c.Ends s args vs s1 (.ok<|.ret v) s'/\s'.os=s.os/\AllBare s'.gens/\kept s'.heap) s1):
 c.CallFrom (λvs=>⟨tree vs,.builtin "claim.caller" {},default,[]⟩) w free gens kept s:=by
 intro args hpre hlay ord hord;obtain⟨vs,s1,hl,hw⟩:=h args hpre hlay ord hord;have rest:=layAllW_rest _ _ _ hl;have z1:s1.asleep:=Shared.asleep_of_life rest.2.2.2 hz;obtain⟨n,r,s',s'',hs,hr,hf,⟨v,rfl,he,ho,hk⟩⟩:=wp_halts_full (M:=model c.prog w) (c:=.builtin "claim.caller" {}) (p:=default) (t:=tree vs)
  (R:=λr s'=> ∃v,r=.ok (.ret v)/\c.Ends s args vs s1 r s'/\s'.os=s.os/\kept s'.heap) z1
  (Sem.wp_mono _ _ _ (λfin p' s' x=>by
   obtain⟨v,rfl,a,b,g,k⟩:=x;show⟨⟨v,4.,a,b,k⟩,leftWithCleanup_false_of_bare g⟩) (λO O O x=>x.elim) _ _<|hw IG default caller_in Il)
 obtain⟨eh,O,O,eo,O⟩:=Shared.forget_eq hf;have he':c.Ends s args vs s1 (.ok<|.ret v) s'':=he.congr eh;have hlife:s''.heap.life=s.heap.life:=(runN_life _ _ _ hr).trans rest.2.2.2;show⟨vs,s1,hl,n,_,s'',hs,?_,(λO i x q=>by rw[hg]at q;simp at q),eh▸hk,by rw[hlife],Shared.rest_eq<|eo.trans ho⟩;rcases he' with⟨v',e,a,b,d,f,g⟩|⟨e,ob,cls,q,O⟩
 ·cases e;show .inl ⟨v,4.,a,b,d,λb o y O=>f b o y,g⟩
 ·cases q
theorem DG{r:OpenRow}{q:Program}{loose:List Str}{H:Hook}{d:DefRec}{kwd:List<|Str×Expr}{N:Nat}
 (left:LeftO r.prog q loose (λO=>true) H.obs H.val N true)(hdef:defOf q r.name=some (d,kwd))(hp:r.prog.theDef r.name=some (d.params,d.body,d.scope))(hk:kwWritten? d.params.kwonlyargs d.params.kw_defaults=some kwd)
 (hR:r.records=[])(hwr:r.writes=false)(k1:r.wellSaid=true)(c1:chainsOk q=true)(c2:opensWell r.prog=true)(c3:frees r.toRowW=true)(c4:r.within=[])(hb:r.prog.bare)(hw:r.toRowW.promised)
 (call: ∀(w:World) (s₀ s1:Shared) (mg mb:Str->Option Value),Ground q loose r.records (λO O=>True) w s₀ mg mb s1.heap->H.says w s1.heap->s1.gens=#[]-> ∀(a:Addr) (args:List WData) (vs:List Value) (as:List Addr),mg r.name=some (.ref a)->
  r.claim.pre args=true->WData.layableAll args=true->ReadsAllW r.records (classAt s₀.heap) s1.heap vs args as->WellAll w.params s1.heap vs args->(∀a∈as,(a==sysModules)=false)->sysModules<s₀.heap.objs.size->
  wpC (model r.prog w) callerA (PySem.call (.ref a) vs) (λv s'=>GoodWG r.claim (classAt s₀.heap) (ExcName.means s₀.heap) args s1 (.ok<|.ret v) s') s1):r.Holds:=by
 obtain⟨hsame,hu,ha,hap,hm⟩:=frees_parts c3;show⟨k1,hw,⟨hb,c2,by change r.makers.map _=[];rw[hm];rfl⟩,hw.witness,λw=>?_⟩;have B:=left.behind (XP:=λO h=>True/\RecFacts r.records h) (λs O=>⟨trivial,recFacts_nil hR⟩) c1 w;show⟨B.1,λs' hs'=>?_⟩;obtain⟨s₀,hf,hg0,s,T,z,hgens,hg,G00,y⟩:=B.2 s' hs';have RF:RecFacts r.records s.heap:=recFacts_nil hR;have G0:Ground q loose [] (λO O=>True) w s (s.heap.nsMap mainGlobals) (s.heap.nsMap builtinsNs) s.heap:=⟨G00.T,G00.B,G00.D,G00.TE,G00.TD,G00.W,trivial,G00.cls,G00.has,G00.apart,G00.once,G00.K⟩;have G:Ground q loose r.records (λO O=>True) w s _ _ s.heap:=RF.ground G0;have hgens:s.gens=#[]:=Array.eq_empty_of_size_eq_zero<|beq_iff_eq.mp hgens;show⟨s₀,hf,hg0,s,T,λn hn=>?_,RF.1,RF.2.1,?_⟩
 ·obtain rfl:n=r.name:=by split at hn<;>simp_all
  show pinned_of_view hg G0 hdef hp hk
 show xY (c:=r.claim) z hgens λargs hpre hlay ord hord=>?_;obtain⟨⟨vs,s1⟩,hlaid⟩:=Option.isSome_iff_exists.mp (layAllW_isSome (P:=w.params) (ord:=ord) G.has args r.args s (pre_splitW hpre).1);have keeps:=layAllW_keeps _ _ _ hlaid;have rest:=layAllW_rest _ _ _ hlaid;obtain⟨as,hrd,hin,hold⟩:=reads_layAllW hord _ _ _ hlaid hlay s1.heap (λO O e=>e);have L:Laid r.records w s s1 args vs as:=⟨⟨ord,hord,hlaid⟩,hrd,hin,hold,keeps,rest.1.trans hgens,rest.2.2.1⟩;have G1:=G.keeps (λO O O O O=>trivial) keeps;obtain⟨a,o,pm,cd,doc,dV,kV,h1,h2,h3,h4,h5⟩:=G1.fn hdef;have hh:s.heap.nsMap mainGlobals r.name=some (.ref a):=defOf_name hdef▸h1;show⟨vs,s1,hlaid,?_⟩;have main:=call w s s1 _ _ G1 (H.keeps _ _ _ (H.of w s y) keeps) L.gens a args vs as hh hpre hlay L.reads L.well (L.low G.low) G.low;have fin:wpC (model r.prog w) callerA (do ret (<-PySem.call (.ref a) vs)) (λfin s'=> ∃v,fin=.done (.ret v)/\r.claim.Ends s args vs s1 (.ok<|.ret v) s'/\s'.os=s.os/\AllBare s'.gens/\
  (r.writes=true->namesKept r.prog r.keeps s.heap s'.heap/\ ∀x∈r.claim.records,∀a,classAt s.heap x.1=some a->recordClass s'.heap a x.1 (x.2.map (·.1))=true)) s1:=
  wpC.bind<|main.mono λv s' g=>wpC.pure ⟨v,4.,by
   have e:=g.laid (c:=r.claim) hsame c4 (ident_freeW hu ha hap) L;show⟨e.1,e.2.1,e.2.2,λq=>by rw[hwr]at q;cases q⟩⟩
 show wpC.step (m:=nsGet mainNs r.name)<|wpAny_nsGet G1.T.g ?_;rw[hh];show fin
end
section
set_option maxHeartbeats 0
theorem t8{P:Params}{h:Heap}(Y: ∀b o,(H1 P).get? b=some o->h.get? b=some o)(a:Addr)(o:Obj)(ha:Nat.blt a 916=true)(h1:(Kl.tree_985 P).get a=some o)(hf:o.isFreed=false):h.get? a=some o:=by
 show Y a o ?_;change(absHeap _ 916 _).get? a=_;rw[abs_get (Nat.blt_eq.mp ha) h1];obtain⟨c,d,dt,sl⟩:=o;cases dt<;>first|rfl|cases hf
theorem Bn(P:Params):((KK P).map λx=>((Kl.tree_985 P).get x.1,Nat.blt x.1 916,x.2.isFreed))=((KK P).map λx=>(some x.2,true,false)):=by kernel_rfl
theorem v6{K:Frag}{a:Addr}{o:Obj}(h:K.lookup a=some o):(a,o)∈K:=by
 induction K with
 |nil=>cases h
 |cons p r ih=>
  obtain⟨b,x⟩:=p;rw[List.lookup_cons]at h;by_cases e:a=b
  ·subst e;simp at h;subst h;show List.mem_cons_self
  ·rw[show(a==b)=false from beq_false_of_ne e]at h;show List.mem_cons_of_mem _<|ih h
theorem Im{P:Params}{h:Heap}(Y: ∀b o,(H1 P).get? b=some o->h.get? b=some o):(KK P).In h:=λa o e=>by
 have:=List.map_inj_left.mp (Bn P) _<|v6 e;simp only[Prod.mk.injEq]at this;show t8 Y _ _ this.2.1 this.1 this.2.2
theorem JW{D:Wd}{s:Shared}(hb:D.hb=s.heap)(ho:D.o=s.os)(hg:s.gens=#[]):Ko D (Hp D.hb) (S ⟨λO=>none,[],[]⟩ ⟨[],[],[],[],[],λO=>[],λO=>[]⟩) s:=by
 show⟨λb o e=>e,λb o e=>hb▸e,hg,ho.symm,λO=>none,⟨λa k e=>(nomatch e),λn x e=>?_,λp a e=>(nomatch e),trivial,trivial⟩⟩;exfalso;rcases n with a|⟨i,j⟩
 ·cases e
 ·have h: ∀i,G.blk ⟨[],[],[],[],[],λO=>[],λO=>[]⟩ i=[]:=λi=>by
   unfold G.blk;split<;>first|rfl|(split<;>rfl)
  have e':(G.blk ⟨[],[],[],[],[],λO=>[],λO=>[]⟩ i)[j]? =some x:=e;rw[h]at e';cases e'
theorem zv{D:Wd}(W:Lw D){s:Shared}(hb:D.hb=s.heap)(ho:D.o=s.os)(hg:s.gens=#[]){l:Addr}{us:List Value}{ss:List Int}(hl:s.heap.IsList l us.toArray)(hi:IntsAre us ss)(hz:ss.length<=63):
 wpC (model D.prog D.w) callerA (PySem.call (.ref 915) [.ref l]) (λv s'=>v=.bool true/\(∀b o,s.heap.get? b=some o->s'.heap.get? b=some o)/\s'.os=s.os/\s'.gens=#[]) s:=by
 have main:=Ik (k:=0) (b:=⟨λO=>none,[],[]⟩) (a0:=l) (ss:=ss) (Q:=λm O=>m=.bool true) W 3. (λst=>LAt.im (hb▸hl) λI=>Mine.Internal.IntsAre.vrs hi)<|λO=>4.;show wpC.call<|Kp.mono (main callerA (Hp D.hb) s (.ref 915) [.ref l] ⟨4.,by decide+kernel,by decide+kernel⟩ (JW hb ho hg) (.ref 4.)<|.cons (.ref 4.) .nil) λr s' x=>?_;rcases r with e|(v|O|O|O)<;>try show x.elim
 obtain⟨I',m,st',e,R',V,rfl⟩:=x;cases V;show⟨4.,λb o q=>R'.keep _ _<|R'.base _ _<|hb▸q,R'.os.trans ho,R'.gens⟩
theorem DH{D:Wd}(W:Lw D):D.mg ("law":Str)=some (.ref 915):=by
 have h:((gEs D.w.params).toList[222]?.map λe=>(e.key,e.val))=some (.str (-"law") 1862,.ref 915):=by kernel_rfl
 show(uu D.hg (HE W) _).trans<|wV h<|of_decide_eq_true<|wW _
set_option tactic.hygienic true in
theorem JX(w:World)(s₀ s1:Shared)(mg mb:Str->Option Value)(G:Ground qV qI rowL.records (λO O=>True) w s₀ mg mb s1.heap)(Y:HK.says w s1.heap)(hg:s1.gens=#[])(a:Addr)(args:List WData)(vals:List Value)(as:List Addr)
 (hmg:mg rowL.name=some (.ref a))(hpre:rowL.claim.pre args=true)(hlay:WData.layableAll args=true)(hrd:ReadsAllW rowL.records (classAt s₀.heap) s1.heap vals args as)(hwl:WellAll w.params s1.heap vals args)(hlo: ∀a∈as,(a==sysModules)=false)(low:sysModules<s₀.heap.objs.size):
 wpC (model rowL.prog w) callerA (PySem.call (.ref a) vals) (λv s'=>GoodWG rowL.claim (classAt s₀.heap) (ExcName.means s₀.heap) args s1 (.ok<|.ret v) s') s1:=by
 wrow_args hpre hlay hrd hwl hlo
 rename_i ss _ _ _ _ _ _ _ l us _ hL _ _ _ hI _ hz _;have Y': ∀b o,(H1 w.params).get? b=some o->s1.heap.get? b=some o:=Y;let D:Wd:={prog:=rowL.prog,w:=w,hb:=s1.heap,o:=s1.os,K:=KK w.params,mg:=mg,mb:=mb,inK:=Im Y',hg:=G.T.g,hbn:=G.T.b,lim:=G.T.nolimit,low:=⟨_,t8 Y' sysModules _ 4. (by kernel_rfl:(Kl.tree_985 w.params).get sysModules=some (PySem.W.boot_o_1 w.params)) 4.⟩};have W:Lw D:=⟨4.,λa o h hf ha=>t8 Y' a o ha h hf⟩;have ea:a=915:=by
  have h:=DH W;have h':mg ("law":Str)=some (.ref a):=hmg;rw[show D.mg=mg from 4.,h']at h;injection h with h;injection h
 subst ea;show wpC.mono (zv W (s:=s1) 4. 4. hg hL hI 3.) λv s' x=>?_;obtain⟨rfl,h1,h2,h3⟩:=x;show⟨.inl ⟨_,.bool true,[],4.,λO=>4.,.bool true,by first|rfl|decide|wrow_post,λO=>⟨List.nodup_nil,λO h=>nomatch h⟩⟩,.of_keep h1,h2,.of_eq h3⟩
theorem JY:PySem.Challenge.rw_sa0257_01.Holds:=by
 w_on
 show holds_law Jg λO=>?_;show DG (H:=HK) (q:=qV) (loose:=qI) (N:=20000) (left 20000 4.) Ac ye Ae 4. 4. (by assumption) uV uW uX 4. we ?hw JX
 case hw=>w_witness2
end
end Mine.Internal
end
theorem PySem.Challenge.cw_sa0257_01_holds : PySem.Challenge.rw_sa0257_01.Holds :=
 Mine.Internal.JY
