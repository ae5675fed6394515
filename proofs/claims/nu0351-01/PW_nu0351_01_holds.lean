import PyProof.Rows.All
import Wide.All
import OpenK.AllK
import Wide.FinOn
import Lean
import PySem.Challenge.RW_nu0351_01
open PySem PySem.W PyProof.Rows PySem.Calls
set_option Elab.async false
set_option maxRecDepth 100000
set_option bootstrap.genMatcherCode false
set_option genInjectivity false
set_option genSizeOf false
set_option linter.all false
set_option compiler.extract_closed false
set_option tactic.hygienic false
section
set_option maxHeartbeats 0
namespace Mine
noncomputable section
noncomputable abbrev pw:Program:=PySem.Challenge.pw_nu0351_01
noncomputable def stT (i:Nat):Stmt:=(pw.main.body[i]?).getD (.Pass default)
noncomputable def stM (i j:Nat):Stmt:=match stT i with
 | .ClassDef _ _ _ b _ _ _ _ _ _ _=>(b[j]?).getD (.Pass default)
 | _=>.Pass default
noncomputable def fO (st:Stmt) (qual:Str) (dV kV doc pm:Value) (an:Option Addr) (cdv ct:Value):Obj:=match st with
 | .FunctionDef name args body _ _ _ scope _ _ _=>⟨.type "function",none,.func (fnOf name qual args body scope dV kV doc pm an cdv ct),#[]⟩
 | _=>default
noncomputable def K0 (P:Params):Obj:=⟨(.type "dict"),none,(.dict #[⟨PyData.keyHash P "__name__",(.str "__name__" 165),(.str "law_nu0351_01" 1640)⟩,⟨PyData.keyHash P "__doc__",(.str "__doc__" 166),.none⟩,⟨PyData.keyHash P "__package__",(.str "__package__" 167),.none⟩,⟨PyData.keyHash P "__loader__",(.str "__loader__" 168),(.builtin "__main__.__loader__#opaque")⟩,⟨PyData.keyHash P "__spec__",(.str "__spec__" 169),.none⟩,⟨PyData.keyHash P "__annotations__",(.str "__annotations__" 170),(.ref 6)⟩,⟨PyData.keyHash P "__builtins__",(.str "__builtins__" 171),(.ref 4)⟩,⟨PyData.keyHash P "__file__",(.str "__file__" 173),(.str "/claim/cut.py" 172)⟩,⟨PyData.keyHash P "__cached__",(.str "__cached__" 174),.none⟩,⟨PyData.keyHash P "_wall",(.str "_wall" 193),(.ref 21)⟩,⟨PyData.keyHash P "YardError",(.str "YardError" 215),(.ref 31)⟩,⟨PyData.keyHash P "TrapError",(.str "TrapError" 244),(.ref 51)⟩,⟨PyData.keyHash P "FormatError",(.str "FormatError" 271),(.ref 70)⟩,⟨PyData.keyHash P "BadRow",(.str "BadRow" 296),(.ref 89)⟩,⟨PyData.keyHash P "MOST_CODE",(.str "MOST_CODE" 300),(.int 1114111 299)⟩,⟨PyData.keyHash P "ByteWriter",(.str "ByteWriter" 363),(.ref 136)⟩,⟨PyData.keyHash P "ByteReader",(.str "ByteReader" 450),(.ref 204)⟩,⟨PyData.keyHash P "conditions",(.str "conditions" 458),(.ref 215)⟩,⟨PyData.keyHash P "operations",(.str "operations" 464),(.ref 222)⟩,⟨PyData.keyHash P "memory_names",(.str "memory_names" 470),(.ref 229)⟩,⟨PyData.keyHash P "is_whole",(.str "is_whole" 479),(.ref 236)⟩,⟨PyData.keyHash P "is_register",(.str "is_register" 486),(.ref 243)⟩,⟨PyData.keyHash P "immediate_operation",(.str "immediate_operation" 493),(.ref 250)⟩,⟨PyData.keyHash P "operation_fault",(.str "operation_fault" 504),(.ref 257)⟩,⟨PyData.keyHash P "memory_fault",(.str "memory_fault" 511),(.ref 264)⟩,⟨PyData.keyHash P "branch_fault",(.str "branch_fault" 522),(.ref 271)⟩,⟨PyData.keyHash P "row_fault",(.str "row_fault" 530),(.ref 278)⟩,⟨PyData.keyHash P "operation_word",(.str "operation_word" 542),(.ref 285)⟩,⟨PyData.keyHash P "branch_word",(.str "branch_word" 554),(.ref 292)⟩,⟨PyData.keyHash P "encode",(.str "encode" 564),(.ref 299)⟩,⟨PyData.keyHash P "signed",(.str "signed" 572),(.ref 736)⟩,⟨PyData.keyHash P "signed_isa",(.str "signed_isa" 573),(.ref 306)⟩,⟨PyData.keyHash P "operation_row",(.str "operation_row" 586),(.ref 313)⟩,⟨PyData.keyHash P "branch_row",(.str "branch_row" 595),(.ref 320)⟩,⟨PyData.keyHash P "decode",(.str "decode" 604),(.ref 327)⟩,⟨PyData.keyHash P "OFFSETS",(.str "OFFSETS" 608),(.int 20 607)⟩,⟨PyData.keyHash P "END",(.str "END" 610),(.int 4294967295 609)⟩,⟨PyData.keyHash P "MARK",(.str "MARK" 613),(.int (-4) 612)⟩,⟨PyData.keyHash P "TAG",(.str "TAG" 616),(.int (-8) 615)⟩,⟨PyData.keyHash P "first_offset",(.str "first_offset" 624),(.ref 334)⟩,⟨PyData.keyHash P "is_fresh",(.str "is_fresh" 632),(.ref 341)⟩,⟨PyData.keyHash P "mark_from",(.str "mark_from" 648),(.ref 348)⟩,⟨PyData.keyHash P "mark",(.str "mark" 659),(.ref 355)⟩,⟨PyData.keyHash P "WORD_roots",(.str "WORD_roots" 663),(.int 4294967296 662)⟩,⟨PyData.keyHash P "FP",(.str "FP" 665),(.int 11 664)⟩,⟨PyData.keyHash P "module_at",(.str "module_at" 674),(.ref 362)⟩,⟨PyData.keyHash P "map_at",(.str "map_at" 683),(.ref 369)⟩,⟨PyData.keyHash P "stack_roots",(.str "stack_roots" 696),(.ref 376)⟩,⟨PyData.keyHash P "global_roots",(.str "global_roots" 706),(.ref 383)⟩,⟨PyData.keyHash P "GRAIN_heap",(.str "GRAIN_heap" 710),(.int 16 709)⟩,⟨PyData.keyHash P "HEADER",(.str "HEADER" 712),(.int 8 711)⟩,⟨PyData.keyHash P "LISTS",(.str "LISTS" 714),(.int 4 713)⟩,⟨PyData.keyHash P "block_size",(.str "block_size" 721),(.ref 390)⟩,⟨PyData.keyHash P "list_number",(.str "list_number" 728),(.ref 397)⟩,⟨PyData.keyHash P "Heap",(.str "Heap" 841),(.ref 470)⟩,⟨PyData.keyHash P "free_runs",(.str "free_runs" 859),(.ref 481)⟩,⟨PyData.keyHash P "sweep",(.str "sweep" 869),(.ref 488)⟩,⟨PyData.keyHash P "collect",(.str "collect" 879),(.ref 497)⟩,⟨PyData.keyHash P "make_record",(.str "make_record" 889),(.ref 504)⟩,⟨PyData.keyHash P "MASK",(.str "MASK" 893),(.int 4294967295 892)⟩,⟨PyData.keyHash P "SIGN",(.str "SIGN" 895),(.int 2147483648 894)⟩,⟨PyData.keyHash P "to_signed",(.str "to_signed" 902),(.ref 511)⟩,⟨PyData.keyHash P "flagged",(.str "flagged" 912),(.ref 519)⟩,⟨PyData.keyHash P "add",(.str "add" 924),(.ref 526)⟩,⟨PyData.keyHash P "sub",(.str "sub" 935),(.ref 533)⟩,⟨PyData.keyHash P "mul",(.str "mul" 946),(.ref 540)⟩,⟨PyData.keyHash P "div",(.str "div" 957),(.ref 547)⟩,⟨PyData.keyHash P "shift_left",(.str "shift_left" 965),(.ref 554)⟩,⟨PyData.keyHash P "shift_arith",(.str "shift_arith" 973),(.ref 561)⟩,⟨PyData.keyHash P "rotate",(.str "rotate" 982),(.ref 568)⟩,⟨PyData.keyHash P "bitwise",(.str "bitwise" 991),(.ref 575)⟩,⟨PyData.keyHash P "operate",(.str "operate" 1000),(.ref 582)⟩,⟨PyData.keyHash P "condition_number",(.str "condition_number" 1008),(.ref 589)⟩,⟨PyData.keyHash P "holds",(.str "holds" 1022),(.ref 596)⟩,⟨PyData.keyHash P "WORD_cpu",(.str "WORD_cpu" 1026),(.int 4294967296 1025)⟩,⟨PyData.keyHash P "LINK",(.str "LINK" 1028),(.int 15 1027)⟩,⟨PyData.keyHash P "Cpu",(.str "Cpu" 1132),(.ref 662)⟩,⟨PyData.keyHash P "register_names",(.str "register_names" 1138),(.ref 673)⟩,⟨PyData.keyHash P "WORD_memory",(.str "WORD_memory" 1142),(.int 4294967296 1141)⟩,⟨PyData.keyHash P "Memory",(.str "Memory" 1216),(.ref 725)⟩,⟨PyData.keyHash P "signed_memory",(.str "signed_memory" 1224),(.ref 736)⟩,⟨PyData.keyHash P "SP_hostcalls",(.str "SP_hostcalls" 1228),(.int 14 1227)⟩,⟨PyData.keyHash P "WIDEST",(.str "WIDEST" 1230),(.int 80 1229)⟩,⟨PyData.keyHash P "argument",(.str "argument" 1238),(.ref 743)⟩,⟨PyData.keyHash P "character",(.str "character" 1248),(.ref 750)⟩,⟨PyData.keyHash P "compare_texts",(.str "compare_texts" 1254),(.ref 755)⟩,⟨PyData.keyHash P "out_int",(.str "out_int" 1263),(.ref 762)⟩,⟨PyData.keyHash P "out_char",(.str "out_char" 1270),(.ref 769)⟩,⟨PyData.keyHash P "out_string",(.str "out_string" 1282),(.ref 776)⟩,⟨PyData.keyHash P "take_number",(.str "take_number" 1292),(.ref 783)⟩,⟨PyData.keyHash P "in_int",(.str "in_int" 1300),(.ref 790)⟩,⟨PyData.keyHash P "in_char",(.str "in_char" 1308),(.ref 797)⟩,⟨PyData.keyHash P "host_call",(.str "host_call" 1316),(.ref 804)⟩,⟨PyData.keyHash P "DATA_START",(.str "DATA_START" 1320),(.int 64 1319)⟩,⟨PyData.keyHash P "GRAIN_machine",(.str "GRAIN_machine" 1322),(.int 16 1321)⟩,⟨PyData.keyHash P "SP_machine",(.str "SP_machine" 1324),(.int 14 1323)⟩,⟨PyData.keyHash P "COMMAND_END",(.str "COMMAND_END" 1326),(.int 9 1325)⟩,⟨PyData.keyHash P "rounded",(.str "rounded" 1333),(.ref 811)⟩,⟨PyData.keyHash P "Machine",(.str "Machine" 1456),(.ref 892)⟩,⟨PyData.keyHash P "CHECK_PRIME",(.str "CHECK_PRIME" 1460),(.int 2305843009213693951 1459)⟩,⟨PyData.keyHash P "CHECK_BYTES",(.str "CHECK_BYTES" 1462),(.int 8 1461)⟩,⟨PyData.keyHash P "KeptModule",(.str "KeptModule" 1500),(.ref 913)⟩,⟨PyData.keyHash P "check_number",(.str "check_number" 1509),(.ref 924)⟩,⟨PyData.keyHash P "write_machine",(.str "write_machine" 1515),(.ref 929)⟩,⟨PyData.keyHash P "write_image",(.str "write_image" 1521),(.ref 934)⟩,⟨PyData.keyHash P "checked_body",(.str "checked_body" 1531),(.ref 941)⟩,⟨PyData.keyHash P "read_machine",(.str "read_machine" 1543),(.ref 948)⟩,⟨PyData.keyHash P "read_modules",(.str "read_modules" 1549),(.ref 953)⟩,⟨PyData.keyHash P "read_image",(.str "read_image" 1555),(.ref 958)⟩,⟨PyData.keyHash P "Loaded",(.str "Loaded" 1595),(.ref 975)⟩,⟨PyData.keyHash P "ObjectFile",(.str "ObjectFile" 1639),(.ref 996)⟩,⟨PyData.keyHash P "_law_row",(.str "_law_row" 1652),(.ref 1007)⟩,⟨PyData.keyHash P "_law_next",(.str "_law_next" 1659),(.ref 1014)⟩,⟨PyData.keyHash P "_law_rows",(.str "_law_rows" 1671),(.ref 1021)⟩,⟨PyData.keyHash P "_law_state",(.str "_law_state" 1677),(.ref 1026)⟩,⟨PyData.keyHash P "_law_refused",(.str "_law_refused" 1685),(.ref 1033)⟩,⟨PyData.keyHash P "law",(.str "law" 1707),(.ref 1040)⟩] 117),#[]⟩
noncomputable def KK (P:Params):Frag:=[(3,K0 P),
 (30,⟨(.type "dict"),none,(.dict #[⟨PyData.keyHash P "__module__",(.str "__module__" 203),(.str "moduleyard.errors" 194)⟩,⟨PyData.keyHash P "__firstlineno__",(.str "__firstlineno__" 207),(.int 5 206)⟩,⟨PyData.keyHash P "__static_attributes__",(.str "__static_attributes__" 208),(.ref 29)⟩,⟨PyData.keyHash P "__weakref__",(.str "__weakref__" 210),(.ref 32)⟩,⟨PyData.keyHash P "__doc__",(.str "__doc__" 211),.none⟩] 3),#[]⟩),
 (31,⟨(.type "type"),none,(.cls {name := "YardError",bases:=[(.type "Exception")],mro:=[(.ref 31),(.type "Exception"),(.type "BaseException"),(.type "object")],ns:=30,qualname := "YardError",hasDict:=true,slotNames:=[],subclasses:=[(.ref 51),(.ref 70),(.ref 89)],abstract:=false,collection:=none,hasDel:=false}),#[(some (.ref 22)),none,(some (.str "YardError" 196)),(some (.str "YardError" 204)),(some (.builtin "Exception.__new__")),(some (.bool true))]⟩),
 (50,⟨(.type "dict"),none,(.dict #[⟨PyData.keyHash P "__module__",(.str "__module__" 223),(.str "moduleyard.errors" 194)⟩,⟨PyData.keyHash P "__firstlineno__",(.str "__firstlineno__" 227),(.int 7 226)⟩,⟨PyData.keyHash P "__init__",(.str "__init__" 237),(.ref 48)⟩,⟨PyData.keyHash P "__static_attributes__",(.str "__static_attributes__" 241),(.ref 49)⟩,⟨PyData.keyHash P "__doc__",(.str "__doc__" 242),.none⟩] 2),#[]⟩),
 (51,⟨(.type "type"),none,(.cls {name := "TrapError",bases:=[(.ref 31)],mro:=[(.ref 51),(.ref 31),(.type "Exception"),(.type "BaseException"),(.type "object")],ns:=50,qualname := "TrapError",hasDict:=true,slotNames:=[],subclasses:=[],abstract:=false,collection:=none,hasDel:=false}),#[(some (.ref 35)),none,(some (.str "TrapError" 216)),(some (.str "TrapError" 224)),(some (.builtin "Exception.__new__")),(some (.bool true))]⟩),
 (66,⟨(.type "code"),none,(.fields #[(.str "__init__" 257),(.str "FormatError.__init__" 258),(.str "/claim/cut.py" 259),(.int 15 0),(.int 3 0),(.int 0 0),(.int 0 0),(.int 3 0),(.ref 61),(.bool true),(.int 181 0),(.ref 62),.none,(.ref 63),(.ref 64),(.ref 65),(.int 263 0),(.int 15 0),(.str "/claim/cut.py" 264)]),#[]⟩),
 (67,fO (stM 4 0) "FormatError.__init__" .none .none .none (.str "moduleyard.errors" 194) none (.ref 66) .none),
 (69,⟨(.type "dict"),none,(.dict #[⟨PyData.keyHash P "__module__",(.str "__module__" 252),(.str "moduleyard.errors" 194)⟩,⟨PyData.keyHash P "__firstlineno__",(.str "__firstlineno__" 256),(.int 13 255)⟩,⟨PyData.keyHash P "__init__",(.str "__init__" 265),(.ref 67)⟩,⟨PyData.keyHash P "__static_attributes__",(.str "__static_attributes__" 268),(.ref 68)⟩,⟨PyData.keyHash P "__doc__",(.str "__doc__" 269),.none⟩] 2),#[]⟩),
 (70,⟨(.type "type"),none,(.cls {name := "FormatError",bases:=[(.ref 31)],mro:=[(.ref 70),(.ref 31),(.type "Exception"),(.type "BaseException"),(.type "object")],ns:=69,qualname := "FormatError",hasDict:=true,slotNames:=[],subclasses:=[],abstract:=false,collection:=none,hasDel:=false}),#[(some (.ref 54)),none,(some (.str "FormatError" 245)),(some (.str "FormatError" 253)),(some (.builtin "Exception.__new__")),(some (.bool true))]⟩),
 (88,⟨(.type "dict"),none,(.dict #[⟨PyData.keyHash P "__module__",(.str "__module__" 279),(.str "moduleyard.errors" 194)⟩,⟨PyData.keyHash P "__firstlineno__",(.str "__firstlineno__" 283),(.int 18 282)⟩,⟨PyData.keyHash P "__init__",(.str "__init__" 291),(.ref 86)⟩,⟨PyData.keyHash P "__static_attributes__",(.str "__static_attributes__" 293),(.ref 87)⟩,⟨PyData.keyHash P "__doc__",(.str "__doc__" 294),.none⟩] 2),#[]⟩),
 (89,⟨(.type "type"),none,(.cls {name := "BadRow",bases:=[(.ref 31)],mro:=[(.ref 89),(.ref 31),(.type "Exception"),(.type "BaseException"),(.type "object")],ns:=88,qualname := "BadRow",hasDict:=true,slotNames:=[],subclasses:=[],abstract:=false,collection:=none,hasDel:=false}),#[(some (.ref 73)),none,(some (.str "BadRow" 272)),(some (.str "BadRow" 280)),(some (.builtin "Exception.__new__")),(some (.bool true))]⟩),
 (104,⟨(.type "code"),none,(.fields #[(.str "__init__" 313),(.str "ByteWriter.__init__" 314),(.str "/claim/cut.py" 315),(.int 26 0),(.int 1 0),(.int 0 0),(.int 0 0),(.int 3 0),(.ref 99),(.bool true),(.int 181 0),(.ref 100),.none,(.ref 101),(.ref 102),(.ref 103),(.int 317 0),(.int 26 0),(.str "/claim/cut.py" 318)]),#[]⟩),
 (105,fO (stM 8 0) "ByteWriter.__init__" .none .none .none (.str "moduleyard.bytesio" 297) none (.ref 104) .none),
 (111,⟨(.type "code"),none,(.fields #[(.str "byte" 320),(.str "ByteWriter.byte" 321),(.str "/claim/cut.py" 322),(.int 29 0),(.int 2 0),(.int 0 0),(.int 0 0),(.int 3 0),(.ref 106),(.bool true),(.int 181 0),(.ref 107),.none,(.ref 108),(.ref 109),(.ref 110),(.int 325 0),(.int 29 0),(.str "/claim/cut.py" 326)]),#[]⟩),
 (112,fO (stM 8 1) "ByteWriter.byte" .none .none .none (.str "moduleyard.bytesio" 297) none (.ref 111) .none),
 (118,⟨(.type "code"),none,(.fields #[(.str "number" 328),(.str "ByteWriter.number" 329),(.str "/claim/cut.py" 330),(.int 32 0),(.int 2 0),(.int 0 0),(.int 0 0),(.int 3 0),(.ref 113),(.bool true),(.int 181 0),(.ref 114),.none,(.ref 115),(.ref 116),(.ref 117),(.int 334 0),(.int 32 0),(.str "/claim/cut.py" 335)]),#[]⟩),
 (119,fO (stM 8 2) "ByteWriter.number" .none .none .none (.str "moduleyard.bytesio" 297) none (.ref 118) .none),
 (125,⟨(.type "code"),none,(.fields #[(.str "text" 337),(.str "ByteWriter.text" 338),(.str "/claim/cut.py" 339),(.int 39 0),(.int 2 0),(.int 0 0),(.int 0 0),(.int 3 0),(.ref 120),(.bool true),(.int 181 0),(.ref 121),.none,(.ref 122),(.ref 123),(.ref 124),(.int 343 0),(.int 39 0),(.str "/claim/cut.py" 344)]),#[]⟩),
 (126,fO (stM 8 3) "ByteWriter.text" .none .none .none (.str "moduleyard.bytesio" 297) none (.ref 125) .none),
 (132,⟨(.type "code"),none,(.fields #[(.str "numbers" 346),(.str "ByteWriter.numbers" 347),(.str "/claim/cut.py" 348),(.int 44 0),(.int 2 0),(.int 0 0),(.int 0 0),(.int 3 0),(.ref 127),(.bool true),(.int 181 0),(.ref 128),.none,(.ref 129),(.ref 130),(.ref 131),(.int 352 0),(.int 44 0),(.str "/claim/cut.py" 353)]),#[]⟩),
 (133,fO (stM 8 4) "ByteWriter.numbers" .none .none .none (.str "moduleyard.bytesio" 297) none (.ref 132) .none),
 (135,⟨(.type "dict"),none,(.dict #[⟨PyData.keyHash P "__module__",(.str "__module__" 308),(.str "moduleyard.bytesio" 297)⟩,⟨PyData.keyHash P "__firstlineno__",(.str "__firstlineno__" 312),(.int 24 311)⟩,⟨PyData.keyHash P "__init__",(.str "__init__" 319),(.ref 105)⟩,⟨PyData.keyHash P "byte",(.str "byte" 327),(.ref 112)⟩,⟨PyData.keyHash P "number",(.str "number" 336),(.ref 119)⟩,⟨PyData.keyHash P "text",(.str "text" 345),(.ref 126)⟩,⟨PyData.keyHash P "numbers",(.str "numbers" 354),(.ref 133)⟩,⟨PyData.keyHash P "__static_attributes__",(.str "__static_attributes__" 356),(.ref 134)⟩,⟨PyData.keyHash P "__dict__",(.str "__dict__" 358),(.ref 137)⟩,⟨PyData.keyHash P "__weakref__",(.str "__weakref__" 360),(.ref 138)⟩,⟨PyData.keyHash P "__doc__",(.str "__doc__" 361),.none⟩] 4),#[]⟩),
 (136,⟨(.type "type"),none,(.cls {name := "ByteWriter",bases:=[(.type "object")],mro:=[(.ref 136),(.type "object")],ns:=135,qualname := "ByteWriter",hasDict:=true,slotNames:=[],subclasses:=[],abstract:=false,collection:=none,hasDel:=false}),#[none,none,(some (.str "ByteWriter" 301)),(some (.str "ByteWriter" 309)),(some (.builtin "object.__new__")),(some (.bool true))]⟩),
 (153,⟨(.type "code"),none,(.fields #[(.str "__init__" 376),(.str "ByteReader.__init__" 377),(.str "/claim/cut.py" 378),(.int 50 0),(.int 2 0),(.int 0 0),(.int 0 0),(.int 3 0),(.ref 148),(.bool true),(.int 181 0),(.ref 149),.none,(.ref 150),(.ref 151),(.ref 152),(.int 381 0),(.int 50 0),(.str "/claim/cut.py" 382)]),#[]⟩),
 (154,fO (stM 9 0) "ByteReader.__init__" .none .none .none (.str "moduleyard.bytesio" 297) none (.ref 153) .none),
 (160,⟨(.type "code"),none,(.fields #[(.str "fail" 384),(.str "ByteReader.fail" 385),(.str "/claim/cut.py" 386),(.int 54 0),(.int 2 0),(.int 0 0),(.int 0 0),(.int 3 0),(.ref 155),(.bool true),(.int 181 0),(.ref 156),.none,(.ref 157),(.ref 158),(.ref 159),(.int 389 0),(.int 54 0),(.str "/claim/cut.py" 390)]),#[]⟩),
 (161,fO (stM 9 1) "ByteReader.fail" .none .none .none (.str "moduleyard.bytesio" 297) none (.ref 160) .none),
 (167,⟨(.type "code"),none,(.fields #[(.str "done" 392),(.str "ByteReader.done" 393),(.str "/claim/cut.py" 394),(.int 57 0),(.int 1 0),(.int 0 0),(.int 0 0),(.int 3 0),(.ref 162),(.bool true),(.int 181 0),(.ref 163),.none,(.ref 164),(.ref 165),(.ref 166),(.int 396 0),(.int 57 0),(.str "/claim/cut.py" 397)]),#[]⟩),
 (168,fO (stM 9 2) "ByteReader.done" .none .none .none (.str "moduleyard.bytesio" 297) none (.ref 167) .none),
 (174,⟨(.type "code"),none,(.fields #[(.str "byte" 399),(.str "ByteReader.byte" 400),(.str "/claim/cut.py" 401),(.int 60 0),(.int 1 0),(.int 0 0),(.int 0 0),(.int 3 0),(.ref 169),(.bool true),(.int 181 0),(.ref 170),.none,(.ref 171),(.ref 172),(.ref 173),(.int 404 0),(.int 60 0),(.str "/claim/cut.py" 405)]),#[]⟩),
 (175,fO (stM 9 3) "ByteReader.byte" .none .none .none (.str "moduleyard.bytesio" 297) none (.ref 174) .none),
 (181,⟨(.type "code"),none,(.fields #[(.str "number" 407),(.str "ByteReader.number" 408),(.str "/claim/cut.py" 409),(.int 69 0),(.int 1 0),(.int 0 0),(.int 0 0),(.int 3 0),(.ref 176),(.bool true),(.int 181 0),(.ref 177),.none,(.ref 178),(.ref 179),(.ref 180),(.int 414 0),(.int 69 0),(.str "/claim/cut.py" 415)]),#[]⟩),
 (182,fO (stM 9 4) "ByteReader.number" .none .none .none (.str "moduleyard.bytesio" 297) none (.ref 181) .none),
 (188,⟨(.type "code"),none,(.fields #[(.str "count" 417),(.str "ByteReader.count" 418),(.str "/claim/cut.py" 419),(.int 84 0),(.int 1 0),(.int 0 0),(.int 0 0),(.int 3 0),(.ref 183),(.bool true),(.int 181 0),(.ref 184),.none,(.ref 185),(.ref 186),(.ref 187),(.int 422 0),(.int 84 0),(.str "/claim/cut.py" 423)]),#[]⟩),
 (189,fO (stM 9 5) "ByteReader.count" .none .none .none (.str "moduleyard.bytesio" 297) none (.ref 188) .none),
 (195,⟨(.type "code"),none,(.fields #[(.str "text" 425),(.str "ByteReader.text" 426),(.str "/claim/cut.py" 427),(.int 90 0),(.int 1 0),(.int 0 0),(.int 0 0),(.int 3 0),(.ref 190),(.bool true),(.int 181 0),(.ref 191),.none,(.ref 192),(.ref 193),(.ref 194),(.int 432 0),(.int 90 0),(.str "/claim/cut.py" 433)]),#[]⟩),
 (196,fO (stM 9 6) "ByteReader.text" .none .none .none (.str "moduleyard.bytesio" 297) none (.ref 195) .none),
 (200,⟨(.type "code"),none,(.fields #[(.str "numbers" 435),(.str "ByteReader.numbers" 436),(.str "/claim/cut.py" 437),(.int 99 0),(.int 1 0),(.int 0 0),(.int 0 0),(.int 3 0),(.ref 197),(.bool true),(.int 181 0),(.ref 198),.none,.none,.none,(.ref 199),(.int 438 0),(.int 99 0),(.str "/claim/cut.py" 439)]),#[]⟩),
 (201,fO (stM 9 7) "ByteReader.numbers" .none .none .none (.str "moduleyard.bytesio" 297) none (.ref 200) .none),
 (203,⟨(.type "dict"),none,(.dict #[⟨PyData.keyHash P "__module__",(.str "__module__" 371),(.str "moduleyard.bytesio" 297)⟩,⟨PyData.keyHash P "__firstlineno__",(.str "__firstlineno__" 375),(.int 48 374)⟩,⟨PyData.keyHash P "__init__",(.str "__init__" 383),(.ref 154)⟩,⟨PyData.keyHash P "fail",(.str "fail" 391),(.ref 161)⟩,⟨PyData.keyHash P "done",(.str "done" 398),(.ref 168)⟩,⟨PyData.keyHash P "byte",(.str "byte" 406),(.ref 175)⟩,⟨PyData.keyHash P "number",(.str "number" 416),(.ref 182)⟩,⟨PyData.keyHash P "count",(.str "count" 424),(.ref 189)⟩,⟨PyData.keyHash P "text",(.str "text" 434),(.ref 196)⟩,⟨PyData.keyHash P "numbers",(.str "numbers" 440),(.ref 201)⟩,⟨PyData.keyHash P "__static_attributes__",(.str "__static_attributes__" 443),(.ref 202)⟩,⟨PyData.keyHash P "__dict__",(.str "__dict__" 445),(.ref 205)⟩,⟨PyData.keyHash P "__weakref__",(.str "__weakref__" 447),(.ref 206)⟩,⟨PyData.keyHash P "__doc__",(.str "__doc__" 448),.none⟩] 4),#[]⟩),
 (204,⟨(.type "type"),none,(.cls {name := "ByteReader",bases:=[(.type "object")],mro:=[(.ref 204),(.type "object")],ns:=203,qualname := "ByteReader",hasDict:=true,slotNames:=[],subclasses:=[],abstract:=false,collection:=none,hasDel:=false}),#[none,none,(some (.str "ByteReader" 364)),(some (.str "ByteReader" 372)),(some (.builtin "object.__new__")),(some (.bool true))]⟩),
 (214,⟨(.type "code"),none,(.fields #[(.str "conditions" 453),(.str "conditions" 454),(.str "/claim/cut.py" 455),(.int 102 0),(.int 0 0),(.int 0 0),(.int 0 0),(.int 3 0),(.ref 209),(.bool true),(.int 181 0),(.ref 210),.none,(.ref 211),(.ref 212),(.ref 213),(.int 456 0),(.int 102 0),(.str "/claim/cut.py" 457)]),#[]⟩),
 (215,fO (stT 11) "conditions" .none .none .none (.str "moduleyard.isa" 451) none (.ref 214) .none),
 (221,⟨(.type "code"),none,(.fields #[(.str "operations" 459),(.str "operations" 460),(.str "/claim/cut.py" 461),(.int 104 0),(.int 0 0),(.int 0 0),(.int 0 0),(.int 3 0),(.ref 216),(.bool true),(.int 181 0),(.ref 217),.none,(.ref 218),(.ref 219),(.ref 220),(.int 462 0),(.int 104 0),(.str "/claim/cut.py" 463)]),#[]⟩),
 (222,fO (stT 12) "operations" .none .none .none (.str "moduleyard.isa" 451) none (.ref 221) .none),
 (228,⟨(.type "code"),none,(.fields #[(.str "memory_names" 465),(.str "memory_names" 466),(.str "/claim/cut.py" 467),(.int 106 0),(.int 0 0),(.int 0 0),(.int 0 0),(.int 3 0),(.ref 223),(.bool true),(.int 181 0),(.ref 224),.none,(.ref 225),(.ref 226),(.ref 227),(.int 468 0),(.int 106 0),(.str "/claim/cut.py" 469)]),#[]⟩),
 (229,fO (stT 13) "memory_names" .none .none .none (.str "moduleyard.isa" 451) none (.ref 228) .none),
 (235,⟨(.type "code"),none,(.fields #[(.str "is_whole" 471),(.str "is_whole" 472),(.str "/claim/cut.py" 473),(.int 108 0),(.int 3 0),(.int 0 0),(.int 0 0),(.int 3 0),(.ref 230),(.bool true),(.int 181 0),(.ref 231),.none,(.ref 232),(.ref 233),(.ref 234),(.int 477 0),(.int 108 0),(.str "/claim/cut.py" 478)]),#[]⟩),
 (236,fO (stT 14) "is_whole" .none .none .none (.str "moduleyard.isa" 451) none (.ref 235) .none),
 (242,⟨(.type "code"),none,(.fields #[(.str "is_register" 480),(.str "is_register" 481),(.str "/claim/cut.py" 482),(.int 110 0),(.int 1 0),(.int 0 0),(.int 0 0),(.int 3 0),(.ref 237),(.bool true),(.int 181 0),(.ref 238),.none,(.ref 239),(.ref 240),(.ref 241),(.int 484 0),(.int 110 0),(.str "/claim/cut.py" 485)]),#[]⟩),
 (243,fO (stT 15) "is_register" .none .none .none (.str "moduleyard.isa" 451) none (.ref 242) .none),
 (249,⟨(.type "code"),none,(.fields #[(.str "immediate_operation" 487),(.str "immediate_operation" 488),(.str "/claim/cut.py" 489),(.int 112 0),(.int 1 0),(.int 0 0),(.int 0 0),(.int 3 0),(.ref 244),(.bool true),(.int 181 0),(.ref 245),.none,(.ref 246),(.ref 247),(.ref 248),(.int 491 0),(.int 112 0),(.str "/claim/cut.py" 492)]),#[]⟩),
 (250,fO (stT 16) "immediate_operation" .none .none .none (.str "moduleyard.isa" 451) none (.ref 249) .none),
 (256,⟨(.type "code"),none,(.fields #[(.str "operation_fault" 494),(.str "operation_fault" 495),(.str "/claim/cut.py" 496),(.int 116 0),(.int 1 0),(.int 0 0),(.int 0 0),(.int 3 0),(.ref 251),(.bool true),(.int 181 0),(.ref 252),.none,(.ref 253),(.ref 254),(.ref 255),(.int 502 0),(.int 116 0),(.str "/claim/cut.py" 503)]),#[]⟩),
 (257,fO (stT 17) "operation_fault" .none .none .none (.str "moduleyard.isa" 451) none (.ref 256) .none),
 (263,⟨(.type "code"),none,(.fields #[(.str "memory_fault" 505),(.str "memory_fault" 506),(.str "/claim/cut.py" 507),(.int 129 0),(.int 1 0),(.int 0 0),(.int 0 0),(.int 3 0),(.ref 258),(.bool true),(.int 181 0),(.ref 259),.none,(.ref 260),(.ref 261),(.ref 262),(.int 509 0),(.int 129 0),(.str "/claim/cut.py" 510)]),#[]⟩),
 (264,fO (stT 18) "memory_fault" .none .none .none (.str "moduleyard.isa" 451) none (.ref 263) .none),
 (270,⟨(.type "code"),none,(.fields #[(.str "branch_fault" 512),(.str "branch_fault" 513),(.str "/claim/cut.py" 514),(.int 133 0),(.int 1 0),(.int 0 0),(.int 0 0),(.int 3 0),(.ref 265),(.bool true),(.int 181 0),(.ref 266),.none,(.ref 267),(.ref 268),(.ref 269),(.int 520 0),(.int 133 0),(.str "/claim/cut.py" 521)]),#[]⟩),
 (271,fO (stT 19) "branch_fault" .none .none .none (.str "moduleyard.isa" 451) none (.ref 270) .none),
 (277,⟨(.type "code"),none,(.fields #[(.str "row_fault" 523),(.str "row_fault" 524),(.str "/claim/cut.py" 525),(.int 148 0),(.int 1 0),(.int 0 0),(.int 0 0),(.int 3 0),(.ref 272),(.bool true),(.int 181 0),(.ref 273),.none,(.ref 274),(.ref 275),(.ref 276),(.int 528 0),(.int 148 0),(.str "/claim/cut.py" 529)]),#[]⟩),
 (278,fO (stT 20) "row_fault" .none .none .none (.str "moduleyard.isa" 451) none (.ref 277) .none),
 (284,⟨(.type "code"),none,(.fields #[(.str "operation_word" 531),(.str "operation_word" 532),(.str "/claim/cut.py" 533),(.int 159 0),(.int 1 0),(.int 0 0),(.int 0 0),(.int 3 0),(.ref 279),(.bool true),(.int 181 0),(.ref 280),.none,(.ref 281),(.ref 282),(.ref 283),(.int 540 0),(.int 159 0),(.str "/claim/cut.py" 541)]),#[]⟩),
 (285,fO (stT 21) "operation_word" .none .none .none (.str "moduleyard.isa" 451) none (.ref 284) .none),
 (291,⟨(.type "code"),none,(.fields #[(.str "branch_word" 543),(.str "branch_word" 544),(.str "/claim/cut.py" 545),(.int 172 0),(.int 1 0),(.int 0 0),(.int 0 0),(.int 3 0),(.ref 286),(.bool true),(.int 181 0),(.ref 287),.none,(.ref 288),(.ref 289),(.ref 290),(.int 552 0),(.int 172 0),(.str "/claim/cut.py" 553)]),#[]⟩),
 (292,fO (stT 22) "branch_word" .none .none .none (.str "moduleyard.isa" 451) none (.ref 291) .none),
 (298,⟨(.type "code"),none,(.fields #[(.str "encode" 555),(.str "encode" 556),(.str "/claim/cut.py" 557),(.int 182 0),(.int 1 0),(.int 0 0),(.int 0 0),(.int 3 0),(.ref 293),(.bool true),(.int 181 0),(.ref 294),.none,(.ref 295),(.ref 296),(.ref 297),(.int 562 0),(.int 182 0),(.str "/claim/cut.py" 563)]),#[]⟩),
 (299,fO (stT 23) "encode" .none .none .none (.str "moduleyard.isa" 451) none (.ref 298) .none),
 (305,⟨(.type "code"),none,(.fields #[(.str "signed" 565),(.str "signed" 566),(.str "/claim/cut.py" 567),(.int 193 0),(.int 2 0),(.int 0 0),(.int 0 0),(.int 3 0),(.ref 300),(.bool true),(.int 181 0),(.ref 301),.none,(.ref 302),(.ref 303),(.ref 304),(.int 570 0),(.int 193 0),(.str "/claim/cut.py" 571)]),#[]⟩),
 (306,fO (stT 24) "signed" .none .none .none (.str "moduleyard.isa" 451) none (.ref 305) .none),
 (312,⟨(.type "code"),none,(.fields #[(.str "operation_row" 574),(.str "operation_row" 575),(.str "/claim/cut.py" 576),(.int 198 0),(.int 1 0),(.int 0 0),(.int 0 0),(.int 3 0),(.ref 307),(.bool true),(.int 181 0),(.ref 308),.none,(.ref 309),(.ref 310),(.ref 311),(.int 584 0),(.int 198 0),(.str "/claim/cut.py" 585)]),#[]⟩),
 (313,fO (stT 26) "operation_row" .none .none .none (.str "moduleyard.isa" 451) none (.ref 312) .none),
 (319,⟨(.type "code"),none,(.fields #[(.str "branch_row" 587),(.str "branch_row" 588),(.str "/claim/cut.py" 589),(.int 216 0),(.int 1 0),(.int 0 0),(.int 0 0),(.int 3 0),(.ref 314),(.bool true),(.int 181 0),(.ref 315),.none,(.ref 316),(.ref 317),(.ref 318),(.int 593 0),(.int 216 0),(.str "/claim/cut.py" 594)]),#[]⟩),
 (320,fO (stT 27) "branch_row" .none .none .none (.str "moduleyard.isa" 451) none (.ref 319) .none),
 (326,⟨(.type "code"),none,(.fields #[(.str "decode" 596),(.str "decode" 597),(.str "/claim/cut.py" 598),(.int 224 0),(.int 1 0),(.int 0 0),(.int 0 0),(.int 3 0),(.ref 321),(.bool true),(.int 181 0),(.ref 322),.none,(.ref 323),(.ref 324),(.ref 325),(.int 602 0),(.int 224 0),(.str "/claim/cut.py" 603)]),#[]⟩),
 (327,fO (stT 28) "decode" .none .none .none (.str "moduleyard.isa" 451) none (.ref 326) .none),
 (361,⟨(.type "code"),none,(.fields #[(.str "module_at" 666),(.str "module_at" 667),(.str "/claim/cut.py" 668),(.int 289 0),(.int 2 0),(.int 0 0),(.int 0 0),(.int 3 0),(.ref 356),(.bool true),(.int 181 0),(.ref 357),.none,(.ref 358),(.ref 359),(.ref 360),(.int 672 0),(.int 289 0),(.str "/claim/cut.py" 673)]),#[]⟩),
 (362,fO (stT 41) "module_at" .none .none .none (.str "moduleyard.roots" 660) none (.ref 361) .none),
 (396,⟨(.type "code"),none,(.fields #[(.str "list_number" 722),(.str "list_number" 723),(.str "/claim/cut.py" 724),(.int 324 0),(.int 1 0),(.int 0 0),(.int 0 0),(.int 3 0),(.ref 391),(.bool true),(.int 181 0),(.ref 392),.none,(.ref 393),(.ref 394),(.ref 395),(.int 726 0),(.int 324 0),(.str "/claim/cut.py" 727)]),#[]⟩),
 (397,fO (stT 50) "list_number" .none .none .none (.str "moduleyard.heap" 707) none (.ref 396) .none),
 (410,⟨(.type "code"),none,(.fields #[(.str "__init__" 741),(.str "Heap.__init__" 742),(.str "/claim/cut.py" 743),(.int 334 0),(.int 4 0),(.int 0 0),(.int 0 0),(.int 3 0),(.ref 405),(.bool true),(.int 181 0),(.ref 406),.none,(.ref 407),(.ref 408),(.ref 409),(.int 748 0),(.int 334 0),(.str "/claim/cut.py" 749)]),#[]⟩),
 (411,fO (stM 51 0) "Heap.__init__" .none .none .none (.str "moduleyard.heap" 707) none (.ref 410) .none),
 (417,⟨(.type "code"),none,(.fields #[(.str "put_free" 751),(.str "Heap.put_free" 752),(.str "/claim/cut.py" 753),(.int 342 0),(.int 3 0),(.int 0 0),(.int 0 0),(.int 3 0),(.ref 412),(.bool true),(.int 181 0),(.ref 413),.none,(.ref 414),(.ref 415),(.ref 416),(.int 758 0),(.int 342 0),(.str "/claim/cut.py" 759)]),#[]⟩),
 (418,fO (stM 51 1) "Heap.put_free" .none .none .none (.str "moduleyard.heap" 707) none (.ref 417) .none),
 (469,⟨(.type "dict"),none,(.dict #[⟨PyData.keyHash P "__module__",(.str "__module__" 736),(.str "moduleyard.heap" 707)⟩,⟨PyData.keyHash P "__firstlineno__",(.str "__firstlineno__" 740),(.int 332 739)⟩,⟨PyData.keyHash P "__init__",(.str "__init__" 750),(.ref 411)⟩,⟨PyData.keyHash P "put_free",(.str "put_free" 760),(.ref 418)⟩,⟨PyData.keyHash P "is_free",(.str "is_free" 768),(.ref 425)⟩,⟨PyData.keyHash P "descriptor",(.str "descriptor" 776),(.ref 432)⟩,⟨PyData.keyHash P "size_of",(.str "size_of" 785),(.ref 439)⟩,⟨PyData.keyHash P "take_free",(.str "take_free" 797),(.ref 446)⟩,⟨PyData.keyHash P "alloc",(.str "alloc" 809),(.ref 453)⟩,⟨PyData.keyHash P "blocks",(.str "blocks" 819),(.ref 460)⟩,⟨PyData.keyHash P "block_of",(.str "block_of" 829),(.ref 467)⟩,⟨PyData.keyHash P "__static_attributes__",(.str "__static_attributes__" 834),(.ref 468)⟩,⟨PyData.keyHash P "__dict__",(.str "__dict__" 836),(.ref 471)⟩,⟨PyData.keyHash P "__weakref__",(.str "__weakref__" 838),(.ref 472)⟩,⟨PyData.keyHash P "__doc__",(.str "__doc__" 839),.none⟩] 4),#[]⟩),
 (470,⟨(.type "type"),none,(.cls {name := "Heap",bases:=[(.type "object")],mro:=[(.ref 470),(.type "object")],ns:=469,qualname := "Heap",hasDict:=true,slotNames:=[],subclasses:=[],abstract:=false,collection:=none,hasDel:=false}),#[none,none,(some (.str "Heap" 729)),(some (.str "Heap" 737)),(some (.builtin "object.__new__")),(some (.bool true))]⟩),
 (512,⟨(.type "tuple"),none,(.seq #[.none] 0),#[]⟩),
 (518,⟨(.type "code"),none,(.fields #[(.str "flagged" 903),(.str "flagged" 904),(.str "/claim/cut.py" 905),(.int 458 0),(.int 4 0),(.int 0 0),(.int 0 0),(.int 3 0),(.ref 513),(.bool true),(.int 181 0),(.ref 514),.none,(.ref 515),(.ref 516),(.ref 517),(.int 910 0),(.int 458 0),(.str "/claim/cut.py" 911)]),#[]⟩),
 (519,fO (stT 62) "flagged" (.ref 512) .none .none (.str "moduleyard.alu" 890) none (.ref 518) .none),
 (525,⟨(.type "code"),none,(.fields #[(.str "add" 913),(.str "add" 914),(.str "/claim/cut.py" 915),(.int 460 0),(.int 2 0),(.int 0 0),(.int 0 0),(.int 3 0),(.ref 520),(.bool true),(.int 181 0),(.ref 521),.none,(.ref 522),(.ref 523),(.ref 524),(.int 922 0),(.int 460 0),(.str "/claim/cut.py" 923)]),#[]⟩),
 (526,fO (stT 63) "add" .none .none .none (.str "moduleyard.alu" 890) none (.ref 525) .none),
 (581,⟨(.type "code"),none,(.fields #[(.str "operate" 992),(.str "operate" 993),(.str "/claim/cut.py" 994),(.int 499 0),(.int 3 0),(.int 0 0),(.int 0 0),(.int 3 0),(.ref 576),(.bool true),(.int 181 0),(.ref 577),.none,(.ref 578),(.ref 579),(.ref 580),(.int 998 0),(.int 499 0),(.str "/claim/cut.py" 999)]),#[]⟩),
 (582,fO (stT 71) "operate" .none .none .none (.str "moduleyard.alu" 890) none (.ref 581) .none),
 (588,⟨(.type "code"),none,(.fields #[(.str "condition_number" 1001),(.str "condition_number" 1002),(.str "/claim/cut.py" 1003),(.int 517 0),(.int 1 0),(.int 0 0),(.int 0 0),(.int 3 0),(.ref 583),(.bool true),(.int 181 0),(.ref 584),.none,(.ref 585),(.ref 586),(.ref 587),(.int 1006 0),(.int 517 0),(.str "/claim/cut.py" 1007)]),#[]⟩),
 (589,fO (stT 72) "condition_number" .none .none .none (.str "moduleyard.alu" 890) none (.ref 588) .none),
 (595,⟨(.type "code"),none,(.fields #[(.str "holds" 1009),(.str "holds" 1010),(.str "/claim/cut.py" 1011),(.int 520 0),(.int 2 0),(.int 0 0),(.int 0 0),(.int 3 0),(.ref 590),(.bool true),(.int 181 0),(.ref 591),.none,(.ref 592),(.ref 593),(.ref 594),(.int 1020 0),(.int 520 0),(.str "/claim/cut.py" 1021)]),#[]⟩),
 (596,fO (stT 73) "holds" .none .none .none (.str "moduleyard.alu" 890) none (.ref 595) .none),
 (609,⟨(.type "code"),none,(.fields #[(.str "__init__" 1041),(.str "Cpu.__init__" 1042),(.str "/claim/cut.py" 1043),(.int 530 0),(.int 2 0),(.int 0 0),(.int 0 0),(.int 3 0),(.ref 604),(.bool true),(.int 181 0),(.ref 605),.none,(.ref 606),(.ref 607),(.ref 608),(.int 1046 0),(.int 530 0),(.str "/claim/cut.py" 1047)]),#[]⟩),
 (610,fO (stM 77 0) "Cpu.__init__" .none .none .none (.str "moduleyard.cpu" 1023) none (.ref 609) .none),
 (616,⟨(.type "code"),none,(.fields #[(.str "step" 1049),(.str "Cpu.step" 1050),(.str "/claim/cut.py" 1051),(.int 541 0),(.int 1 0),(.int 0 0),(.int 0 0),(.int 3 0),(.ref 611),(.bool true),(.int 181 0),(.ref 612),.none,(.ref 613),(.ref 614),(.ref 615),(.int 1056 0),(.int 541 0),(.str "/claim/cut.py" 1057)]),#[]⟩),
 (617,fO (stM 77 1) "Cpu.step" .none .none .none (.str "moduleyard.cpu" 1023) none (.ref 616) .none),
 (623,⟨(.type "code"),none,(.fields #[(.str "transfer" 1059),(.str "Cpu.transfer" 1060),(.str "/claim/cut.py" 1061),(.int 563 0),(.int 4 0),(.int 0 0),(.int 0 0),(.int 3 0),(.ref 618),(.bool true),(.int 181 0),(.ref 619),.none,(.ref 620),(.ref 621),(.ref 622),(.int 1066 0),(.int 563 0),(.str "/claim/cut.py" 1067)]),#[]⟩),
 (624,fO (stM 77 2) "Cpu.transfer" .none .none .none (.str "moduleyard.cpu" 1023) none (.ref 623) .none),
 (630,⟨(.type "code"),none,(.fields #[(.str "flags" 1069),(.str "Cpu.flags" 1070),(.str "/claim/cut.py" 1071),(.int 573 0),(.int 1 0),(.int 0 0),(.int 0 0),(.int 3 0),(.ref 625),(.bool true),(.int 181 0),(.ref 626),.none,(.ref 627),(.ref 628),(.ref 629),(.int 1073 0),(.int 573 0),(.str "/claim/cut.py" 1074)]),#[]⟩),
 (631,fO (stM 77 3) "Cpu.flags" .none .none .none (.str "moduleyard.cpu" 1023) none (.ref 630) .none),
 (637,⟨(.type "code"),none,(.fields #[(.str "branch" 1076),(.str "Cpu.branch" 1077),(.str "/claim/cut.py" 1078),(.int 576 0),(.int 3 0),(.int 0 0),(.int 0 0),(.int 3 0),(.ref 632),(.bool true),(.int 181 0),(.ref 633),.none,(.ref 634),(.ref 635),(.ref 636),(.int 1083 0),(.int 576 0),(.str "/claim/cut.py" 1084)]),#[]⟩),
 (638,fO (stM 77 4) "Cpu.branch" .none .none .none (.str "moduleyard.cpu" 1023) none (.ref 637) .none),
 (651,⟨(.type "code"),none,(.fields #[(.str "calculate" 1095),(.str "Cpu.calculate" 1096),(.str "/claim/cut.py" 1097),(.int 597 0),(.int 3 0),(.int 0 0),(.int 0 0),(.int 3 0),(.ref 646),(.bool true),(.int 181 0),(.ref 647),.none,(.ref 648),(.ref 649),(.ref 650),(.int 1105 0),(.int 597 0),(.str "/claim/cut.py" 1106)]),#[]⟩),
 (652,fO (stM 77 6) "Cpu.calculate" .none .none .none (.str "moduleyard.cpu" 1023) none (.ref 651) .none),
 (661,⟨(.type "dict"),none,(.dict #[⟨PyData.keyHash P "__module__",(.str "__module__" 1036),(.str "moduleyard.cpu" 1023)⟩,⟨PyData.keyHash P "__firstlineno__",(.str "__firstlineno__" 1040),(.int 528 1039)⟩,⟨PyData.keyHash P "__init__",(.str "__init__" 1048),(.ref 610)⟩,⟨PyData.keyHash P "step",(.str "step" 1058),(.ref 617)⟩,⟨PyData.keyHash P "transfer",(.str "transfer" 1068),(.ref 624)⟩,⟨PyData.keyHash P "flags",(.str "flags" 1075),(.ref 631)⟩,⟨PyData.keyHash P "branch",(.str "branch" 1085),(.ref 638)⟩,⟨PyData.keyHash P "set_result",(.str "set_result" 1094),(.ref 645)⟩,⟨PyData.keyHash P "calculate",(.str "calculate" 1107),(.ref 652)⟩,⟨PyData.keyHash P "run",(.str "run" 1115),(.ref 659)⟩,⟨PyData.keyHash P "__static_attributes__",(.str "__static_attributes__" 1125),(.ref 660)⟩,⟨PyData.keyHash P "__dict__",(.str "__dict__" 1127),(.ref 663)⟩,⟨PyData.keyHash P "__weakref__",(.str "__weakref__" 1129),(.ref 664)⟩,⟨PyData.keyHash P "__doc__",(.str "__doc__" 1130),.none⟩] 4),#[]⟩),
 (662,⟨(.type "type"),none,(.cls {name := "Cpu",bases:=[(.type "object")],mro:=[(.ref 662),(.type "object")],ns:=661,qualname := "Cpu",hasDict:=true,slotNames:=[],subclasses:=[],abstract:=false,collection:=none,hasDel:=false}),#[none,none,(some (.str "Cpu" 1029)),(some (.str "Cpu" 1037)),(some (.builtin "object.__new__")),(some (.bool true))]⟩),
 (672,⟨(.type "code"),none,(.fields #[(.str "register_names" 1133),(.str "register_names" 1134),(.str "/claim/cut.py" 1135),(.int 616 0),(.int 0 0),(.int 0 0),(.int 0 0),(.int 3 0),(.ref 667),(.bool true),(.int 181 0),(.ref 668),.none,(.ref 669),(.ref 670),(.ref 671),(.int 1136 0),(.int 616 0),(.str "/claim/cut.py" 1137)]),#[]⟩),
 (673,fO (stT 78) "register_names" .none .none .none (.str "moduleyard.cpu" 1023) none (.ref 672) .none),
 (686,⟨(.type "code"),none,(.fields #[(.str "__init__" 1155),(.str "Memory.__init__" 1156),(.str "/claim/cut.py" 1157),(.int 622 0),(.int 2 0),(.int 0 0),(.int 0 0),(.int 3 0),(.ref 681),(.bool true),(.int 181 0),(.ref 682),.none,(.ref 683),(.ref 684),(.ref 685),(.int 1160 0),(.int 622 0),(.str "/claim/cut.py" 1161)]),#[]⟩),
 (687,fO (stM 81 0) "Memory.__init__" .none .none .none (.str "moduleyard.memory" 1139) none (.ref 686) .none),
 (693,⟨(.type "code"),none,(.fields #[(.str "place" 1163),(.str "Memory.place" 1164),(.str "/claim/cut.py" 1165),(.int 626 0),(.int 2 0),(.int 0 0),(.int 0 0),(.int 3 0),(.ref 688),(.bool true),(.int 181 0),(.ref 689),.none,(.ref 690),(.ref 691),(.ref 692),(.int 1168 0),(.int 626 0),(.str "/claim/cut.py" 1169)]),#[]⟩),
 (694,fO (stM 81 1) "Memory.place" .none .none .none (.str "moduleyard.memory" 1139) none (.ref 693) .none),
 (700,⟨(.type "code"),none,(.fields #[(.str "word" 1171),(.str "Memory.word" 1172),(.str "/claim/cut.py" 1173),(.int 631 0),(.int 2 0),(.int 0 0),(.int 0 0),(.int 3 0),(.ref 695),(.bool true),(.int 181 0),(.ref 696),.none,(.ref 697),(.ref 698),(.ref 699),(.int 1176 0),(.int 631 0),(.str "/claim/cut.py" 1177)]),#[]⟩),
 (701,fO (stM 81 2) "Memory.word" .none .none .none (.str "moduleyard.memory" 1139) none (.ref 700) .none),
 (707,⟨(.type "code"),none,(.fields #[(.str "put_word" 1179),(.str "Memory.put_word" 1180),(.str "/claim/cut.py" 1181),(.int 634 0),(.int 3 0),(.int 0 0),(.int 0 0),(.int 3 0),(.ref 702),(.bool true),(.int 181 0),(.ref 703),.none,(.ref 704),(.ref 705),(.ref 706),(.int 1185 0),(.int 634 0),(.str "/claim/cut.py" 1186)]),#[]⟩),
 (708,fO (stM 81 3) "Memory.put_word" .none .none .none (.str "moduleyard.memory" 1139) none (.ref 707) .none),
 (714,⟨(.type "code"),none,(.fields #[(.str "byte" 1188),(.str "Memory.byte" 1189),(.str "/claim/cut.py" 1190),(.int 637 0),(.int 2 0),(.int 0 0),(.int 0 0),(.int 3 0),(.ref 709),(.bool true),(.int 181 0),(.ref 710),.none,(.ref 711),(.ref 712),(.ref 713),(.int 1193 0),(.int 637 0),(.str "/claim/cut.py" 1194)]),#[]⟩),
 (715,fO (stM 81 4) "Memory.byte" .none .none .none (.str "moduleyard.memory" 1139) none (.ref 714) .none),
 (724,⟨(.type "dict"),none,(.dict #[⟨PyData.keyHash P "__module__",(.str "__module__" 1150),(.str "moduleyard.memory" 1139)⟩,⟨PyData.keyHash P "__firstlineno__",(.str "__firstlineno__" 1154),(.int 620 1153)⟩,⟨PyData.keyHash P "__init__",(.str "__init__" 1162),(.ref 687)⟩,⟨PyData.keyHash P "place",(.str "place" 1170),(.ref 694)⟩,⟨PyData.keyHash P "word",(.str "word" 1178),(.ref 701)⟩,⟨PyData.keyHash P "put_word",(.str "put_word" 1187),(.ref 708)⟩,⟨PyData.keyHash P "byte",(.str "byte" 1195),(.ref 715)⟩,⟨PyData.keyHash P "put_byte",(.str "put_byte" 1206),(.ref 722)⟩,⟨PyData.keyHash P "__static_attributes__",(.str "__static_attributes__" 1209),(.ref 723)⟩,⟨PyData.keyHash P "__dict__",(.str "__dict__" 1211),(.ref 726)⟩,⟨PyData.keyHash P "__weakref__",(.str "__weakref__" 1213),(.ref 727)⟩,⟨PyData.keyHash P "__doc__",(.str "__doc__" 1214),.none⟩] 4),#[]⟩),
 (725,⟨(.type "type"),none,(.cls {name := "Memory",bases:=[(.type "object")],mro:=[(.ref 725),(.type "object")],ns:=724,qualname := "Memory",hasDict:=true,slotNames:=[],subclasses:=[],abstract:=false,collection:=none,hasDel:=false}),#[none,none,(some (.str "Memory" 1143)),(some (.str "Memory" 1151)),(some (.builtin "object.__new__")),(some (.bool true))]⟩),
 (810,⟨(.type "code"),none,(.fields #[(.str "rounded" 1327),(.str "rounded" 1328),(.str "/claim/cut.py" 1329),(.int 730 0),(.int 1 0),(.int 0 0),(.int 0 0),(.int 3 0),(.ref 805),(.bool true),(.int 181 0),(.ref 806),.none,(.ref 807),(.ref 808),(.ref 809),(.int 1331 0),(.int 730 0),(.str "/claim/cut.py" 1332)]),#[]⟩),
 (811,fO (stT 102) "rounded" .none .none .none (.str "moduleyard.machine" 1317) none (.ref 810) .none),
 (819,⟨(.type "tuple"),none,(.seq #[(.int 4096 1346),(.int 4096 1347),(.int 60000 1348),(.int 4096 1349)] 0),#[]⟩),
 (825,⟨(.type "code"),none,(.fields #[(.str "__init__" 1350),(.str "Machine.__init__" 1351),(.str "/claim/cut.py" 1352),(.int 734 0),(.int 5 0),(.int 0 0),(.int 0 0),(.int 3 0),(.ref 820),(.bool true),(.int 181 0),(.ref 821),.none,(.ref 822),(.ref 823),(.ref 824),(.int 1359 0),(.int 734 0),(.str "/claim/cut.py" 1360)]),#[]⟩),
 (826,fO (stM 103 0) "Machine.__init__" (.ref 819) .none .none (.str "moduleyard.machine" 1317) none (.ref 825) .none),
 (832,⟨(.type "code"),none,(.fields #[(.str "add_rows" 1362),(.str "Machine.add_rows" 1363),(.str "/claim/cut.py" 1364),(.int 749 0),(.int 2 0),(.int 0 0),(.int 0 0),(.int 3 0),(.ref 827),(.bool true),(.int 181 0),(.ref 828),.none,(.ref 829),(.ref 830),(.ref 831),(.int 1369 0),(.int 749 0),(.str "/claim/cut.py" 1370)]),#[]⟩),
 (833,fO (stM 103 1) "Machine.add_rows" .none .none .none (.str "moduleyard.machine" 1317) none (.ref 832) .none),
 (839,⟨(.type "code"),none,(.fields #[(.str "add_data" 1372),(.str "Machine.add_data" 1373),(.str "/claim/cut.py" 1374),(.int 755 0),(.int 2 0),(.int 0 0),(.int 0 0),(.int 3 0),(.ref 834),(.bool true),(.int 181 0),(.ref 835),.none,(.ref 836),(.ref 837),(.ref 838),(.int 1378 0),(.int 755 0),(.str "/claim/cut.py" 1379)]),#[]⟩),
 (840,fO (stM 103 2) "Machine.add_data" .none .none .none (.str "moduleyard.machine" 1317) none (.ref 839) .none),
 (867,⟨(.type "code"),none,(.fields #[(.str "prepare" 1403),(.str "Machine.prepare" 1404),(.str "/claim/cut.py" 1405),(.int 771 0),(.int 2 0),(.int 0 0),(.int 0 0),(.int 3 0),(.ref 862),(.bool true),(.int 181 0),(.ref 863),.none,(.ref 864),(.ref 865),(.ref 866),(.int 1409 0),(.int 771 0),(.str "/claim/cut.py" 1410)]),#[]⟩),
 (868,fO (stM 103 6) "Machine.prepare" .none .none .none (.str "moduleyard.machine" 1317) none (.ref 867) .none),
 (874,⟨(.type "code"),none,(.fields #[(.str "call" 1412),(.str "Machine.call" 1413),(.str "/claim/cut.py" 1414),(.int 782 0),(.int 2 0),(.int 0 0),(.int 0 0),(.int 3 0),(.ref 869),(.bool true),(.int 181 0),(.ref 870),.none,(.ref 871),(.ref 872),(.ref 873),(.int 1418 0),(.int 782 0),(.str "/claim/cut.py" 1419)]),#[]⟩),
 (875,fO (stM 103 7) "Machine.call" .none .none .none (.str "moduleyard.machine" 1317) none (.ref 874) .none),
 (881,⟨(.type "code"),none,(.fields #[(.str "running_module" 1421),(.str "Machine.running_module" 1422),(.str "/claim/cut.py" 1423),(.int 797 0),(.int 1 0),(.int 0 0),(.int 0 0),(.int 3 0),(.ref 876),(.bool true),(.int 181 0),(.ref 877),.none,(.ref 878),(.ref 879),(.ref 880),(.int 1426 0),(.int 797 0),(.str "/claim/cut.py" 1427)]),#[]⟩),
 (882,fO (stM 103 8) "Machine.running_module" .none .none .none (.str "moduleyard.machine" 1317) none (.ref 881) .none),
 (891,⟨(.type "dict"),none,(.dict #[⟨PyData.keyHash P "__module__",(.str "__module__" 1341),(.str "moduleyard.machine" 1317)⟩,⟨PyData.keyHash P "__firstlineno__",(.str "__firstlineno__" 1345),(.int 732 1344)⟩,⟨PyData.keyHash P "__init__",(.str "__init__" 1361),(.ref 826)⟩,⟨PyData.keyHash P "add_rows",(.str "add_rows" 1371),(.ref 833)⟩,⟨PyData.keyHash P "add_data",(.str "add_data" 1380),(.ref 840)⟩,⟨PyData.keyHash P "state",(.str "state" 1387),(.ref 847)⟩,⟨PyData.keyHash P "back_to",(.str "back_to" 1395),(.ref 854)⟩,⟨PyData.keyHash P "most_frames",(.str "most_frames" 1402),(.ref 861)⟩,⟨PyData.keyHash P "prepare",(.str "prepare" 1411),(.ref 868)⟩,⟨PyData.keyHash P "call",(.str "call" 1420),(.ref 875)⟩,⟨PyData.keyHash P "running_module",(.str "running_module" 1428),(.ref 882)⟩,⟨PyData.keyHash P "kernel",(.str "kernel" 1437),(.ref 889)⟩,⟨PyData.keyHash P "__static_attributes__",(.str "__static_attributes__" 1449),(.ref 890)⟩,⟨PyData.keyHash P "__dict__",(.str "__dict__" 1451),(.ref 893)⟩,⟨PyData.keyHash P "__weakref__",(.str "__weakref__" 1453),(.ref 894)⟩,⟨PyData.keyHash P "__doc__",(.str "__doc__" 1454),.none⟩] 4),#[]⟩),
 (892,⟨(.type "type"),none,(.cls {name := "Machine",bases:=[(.type "object")],mro:=[(.ref 892),(.type "object")],ns:=891,qualname := "Machine",hasDict:=true,slotNames:=[],subclasses:=[],abstract:=false,collection:=none,hasDel:=false}),#[none,none,(some (.str "Machine" 1334)),(some (.str "Machine" 1342)),(some (.builtin "object.__new__")),(some (.bool true))]⟩),
 (909,⟨(.type "code"),none,(.fields #[(.str "__init__" 1475),(.str "KeptModule.__init__" 1476),(.str "/claim/cut.py" 1477),(.int 817 0),(.int 6 0),(.int 0 0),(.int 0 0),(.int 3 0),(.ref 904),(.bool true),(.int 181 0),(.ref 905),.none,(.ref 906),(.ref 907),(.ref 908),(.int 1484 0),(.int 817 0),(.str "/claim/cut.py" 1485)]),#[]⟩),
 (910,fO (stM 107 0) "KeptModule.__init__" .none .none .none (.str "moduleyard.image" 1457) none (.ref 909) .none),
 (912,⟨(.type "dict"),none,(.dict #[⟨PyData.keyHash P "__module__",(.str "__module__" 1470),(.str "moduleyard.image" 1457)⟩,⟨PyData.keyHash P "__firstlineno__",(.str "__firstlineno__" 1474),(.int 815 1473)⟩,⟨PyData.keyHash P "__init__",(.str "__init__" 1486),(.ref 910)⟩,⟨PyData.keyHash P "__static_attributes__",(.str "__static_attributes__" 1493),(.ref 911)⟩,⟨PyData.keyHash P "__dict__",(.str "__dict__" 1495),(.ref 914)⟩,⟨PyData.keyHash P "__weakref__",(.str "__weakref__" 1497),(.ref 915)⟩,⟨PyData.keyHash P "__doc__",(.str "__doc__" 1498),.none⟩] 4),#[]⟩),
 (913,⟨(.type "type"),none,(.cls {name := "KeptModule",bases:=[(.type "object")],mro:=[(.ref 913),(.type "object")],ns:=912,qualname := "KeptModule",hasDict:=true,slotNames:=[],subclasses:=[],abstract:=false,collection:=none,hasDel:=false}),#[none,none,(some (.str "KeptModule" 1463)),(some (.str "KeptModule" 1471)),(some (.builtin "object.__new__")),(some (.bool true))]⟩),
 (923,⟨(.type "code"),none,(.fields #[(.str "check_number" 1501),(.str "check_number" 1502),(.str "/claim/cut.py" 1503),(.int 824 0),(.int 1 0),(.int 0 0),(.int 0 0),(.int 3 0),(.ref 918),(.bool true),(.int 181 0),(.ref 919),.none,(.ref 920),(.ref 921),(.ref 922),(.int 1507 0),(.int 824 0),(.str "/claim/cut.py" 1508)]),#[]⟩),
 (924,fO (stT 108) "check_number" .none .none .none (.str "moduleyard.image" 1457) none (.ref 923) .none),
 (928,⟨(.type "code"),none,(.fields #[(.str "write_machine" 1510),(.str "write_machine" 1511),(.str "/claim/cut.py" 1512),(.int 829 0),(.int 2 0),(.int 0 0),(.int 0 0),(.int 3 0),(.ref 925),(.bool true),(.int 181 0),(.ref 926),.none,.none,.none,(.ref 927),(.int 1513 0),(.int 829 0),(.str "/claim/cut.py" 1514)]),#[]⟩),
 (929,fO (stT 109) "write_machine" .none .none .none (.str "moduleyard.image" 1457) none (.ref 928) .none),
 (933,⟨(.type "code"),none,(.fields #[(.str "write_image" 1516),(.str "write_image" 1517),(.str "/claim/cut.py" 1518),(.int 838 0),(.int 1 0),(.int 0 0),(.int 0 0),(.int 3 0),(.ref 930),(.bool true),(.int 181 0),(.ref 931),.none,.none,.none,(.ref 932),(.int 1519 0),(.int 838 0),(.str "/claim/cut.py" 1520)]),#[]⟩),
 (934,fO (stT 110) "write_image" .none .none .none (.str "moduleyard.image" 1457) none (.ref 933) .none),
 (940,⟨(.type "code"),none,(.fields #[(.str "checked_body" 1522),(.str "checked_body" 1523),(.str "/claim/cut.py" 1524),(.int 858 0),(.int 1 0),(.int 0 0),(.int 0 0),(.int 3 0),(.ref 935),(.bool true),(.int 181 0),(.ref 936),.none,(.ref 937),(.ref 938),(.ref 939),(.int 1529 0),(.int 858 0),(.str "/claim/cut.py" 1530)]),#[]⟩),
 (941,fO (stT 111) "checked_body" .none .none .none (.str "moduleyard.image" 1457) none (.ref 940) .none),
 (947,⟨(.type "code"),none,(.fields #[(.str "read_machine" 1532),(.str "read_machine" 1533),(.str "/claim/cut.py" 1534),(.int 871 0),(.int 1 0),(.int 0 0),(.int 0 0),(.int 3 0),(.ref 942),(.bool true),(.int 181 0),(.ref 943),.none,(.ref 944),(.ref 945),(.ref 946),(.int 1541 0),(.int 871 0),(.str "/claim/cut.py" 1542)]),#[]⟩),
 (948,fO (stT 112) "read_machine" .none .none .none (.str "moduleyard.image" 1457) none (.ref 947) .none),
 (952,⟨(.type "code"),none,(.fields #[(.str "read_modules" 1544),(.str "read_modules" 1545),(.str "/claim/cut.py" 1546),(.int 887 0),(.int 3 0),(.int 0 0),(.int 0 0),(.int 3 0),(.ref 949),(.bool true),(.int 181 0),(.ref 950),.none,.none,.none,(.ref 951),(.int 1547 0),(.int 887 0),(.str "/claim/cut.py" 1548)]),#[]⟩),
 (953,fO (stT 113) "read_modules" .none .none .none (.str "moduleyard.image" 1457) none (.ref 952) .none),
 (957,⟨(.type "code"),none,(.fields #[(.str "read_image" 1550),(.str "read_image" 1551),(.str "/claim/cut.py" 1552),(.int 899 0),(.int 2 0),(.int 0 0),(.int 0 0),(.int 3 0),(.ref 954),(.bool true),(.int 181 0),(.ref 955),.none,.none,.none,(.ref 956),(.int 1553 0),(.int 899 0),(.str "/claim/cut.py" 1554)]),#[]⟩),
 (958,fO (stT 114) "read_image" .none .none .none (.str "moduleyard.image" 1457) none (.ref 957) .none),
 (971,⟨(.type "code"),none,(.fields #[(.str "__init__" 1570),(.str "Loaded.__init__" 1571),(.str "/claim/cut.py" 1572),(.int 918 0),(.int 6 0),(.int 0 0),(.int 0 0),(.int 3 0),(.ref 966),(.bool true),(.int 181 0),(.ref 967),.none,(.ref 968),(.ref 969),(.ref 970),(.int 1579 0),(.int 918 0),(.str "/claim/cut.py" 1580)]),#[]⟩),
 (972,fO (stM 116 0) "Loaded.__init__" .none .none .none (.str "moduleyard.loader" 1556) none (.ref 971) .none),
 (974,⟨(.type "dict"),none,(.dict #[⟨PyData.keyHash P "__module__",(.str "__module__" 1565),(.str "moduleyard.loader" 1556)⟩,⟨PyData.keyHash P "__firstlineno__",(.str "__firstlineno__" 1569),(.int 916 1568)⟩,⟨PyData.keyHash P "__init__",(.str "__init__" 1581),(.ref 972)⟩,⟨PyData.keyHash P "__static_attributes__",(.str "__static_attributes__" 1588),(.ref 973)⟩,⟨PyData.keyHash P "__dict__",(.str "__dict__" 1590),(.ref 976)⟩,⟨PyData.keyHash P "__weakref__",(.str "__weakref__" 1592),(.ref 977)⟩,⟨PyData.keyHash P "__doc__",(.str "__doc__" 1593),.none⟩] 4),#[]⟩),
 (975,⟨(.type "type"),none,(.cls {name := "Loaded",bases:=[(.type "object")],mro:=[(.ref 975),(.type "object")],ns:=974,qualname := "Loaded",hasDict:=true,slotNames:=[],subclasses:=[],abstract:=false,collection:=none,hasDel:=false}),#[none,none,(some (.str "Loaded" 1558)),(some (.str "Loaded" 1566)),(some (.builtin "object.__new__")),(some (.bool true))]⟩),
 (992,⟨(.type "code"),none,(.fields #[(.str "__init__" 1610),(.str "ObjectFile.__init__" 1611),(.str "/claim/cut.py" 1612),(.int 928 0),(.int 3 0),(.int 0 0),(.int 0 0),(.int 3 0),(.ref 987),(.bool true),(.int 181 0),(.ref 988),.none,(.ref 989),(.ref 990),(.ref 991),(.int 1616 0),(.int 928 0),(.str "/claim/cut.py" 1617)]),#[]⟩),
 (993,fO (stM 118 0) "ObjectFile.__init__" .none .none .none (.str "moduleyard.objfile" 1596) none (.ref 992) .none),
 (995,⟨(.type "dict"),none,(.dict #[⟨PyData.keyHash P "__module__",(.str "__module__" 1605),(.str "moduleyard.objfile" 1596)⟩,⟨PyData.keyHash P "__firstlineno__",(.str "__firstlineno__" 1609),(.int 926 1608)⟩,⟨PyData.keyHash P "__init__",(.str "__init__" 1618),(.ref 993)⟩,⟨PyData.keyHash P "__static_attributes__",(.str "__static_attributes__" 1632),(.ref 994)⟩,⟨PyData.keyHash P "__dict__",(.str "__dict__" 1634),(.ref 997)⟩,⟨PyData.keyHash P "__weakref__",(.str "__weakref__" 1636),(.ref 998)⟩,⟨PyData.keyHash P "__doc__",(.str "__doc__" 1637),.none⟩] 4),#[]⟩),
 (996,⟨(.type "type"),none,(.cls {name := "ObjectFile",bases:=[(.type "object")],mro:=[(.ref 996),(.type "object")],ns:=995,qualname := "ObjectFile",hasDict:=true,slotNames:=[],subclasses:=[],abstract:=false,collection:=none,hasDel:=false}),#[none,none,(some (.str "ObjectFile" 1598)),(some (.str "ObjectFile" 1606)),(some (.builtin "object.__new__")),(some (.bool true))]⟩),
 (1006,⟨(.type "code"),none,(.fields #[(.str "_law_row" 1642),(.str "_law_row" 1643),(.str "/claim/cut.py" 1644),(.int 943 0),(.int 1 0),(.int 0 0),(.int 0 0),(.int 3 0),(.ref 1001),(.bool true),(.int 181 0),(.ref 1002),.none,(.ref 1003),(.ref 1004),(.ref 1005),(.int 1650 0),(.int 943 0),(.str "/claim/cut.py" 1651)]),#[]⟩),
 (1007,fO (stT 120) "_law_row" .none .none .none (.str "law_nu0351_01" 1640) none (.ref 1006) .none),
 (1013,⟨(.type "code"),none,(.fields #[(.str "_law_next" 1653),(.str "_law_next" 1654),(.str "/claim/cut.py" 1655),(.int 956 0),(.int 1 0),(.int 0 0),(.int 0 0),(.int 3 0),(.ref 1008),(.bool true),(.int 181 0),(.ref 1009),.none,(.ref 1010),(.ref 1011),(.ref 1012),(.int 1657 0),(.int 956 0),(.str "/claim/cut.py" 1658)]),#[]⟩),
 (1014,fO (stT 121) "_law_next" .none .none .none (.str "law_nu0351_01" 1640) none (.ref 1013) .none),
 (1020,⟨(.type "code"),none,(.fields #[(.str "_law_rows" 1660),(.str "_law_rows" 1661),(.str "/claim/cut.py" 1662),(.int 958 0),(.int 1 0),(.int 0 0),(.int 0 0),(.int 3 0),(.ref 1015),(.bool true),(.int 181 0),(.ref 1016),.none,(.ref 1017),(.ref 1018),(.ref 1019),(.int 1669 0),(.int 958 0),(.str "/claim/cut.py" 1670)]),#[]⟩),
 (1021,fO (stT 122) "_law_rows" .none .none .none (.str "law_nu0351_01" 1640) none (.ref 1020) .none),
 (1025,⟨(.type "code"),none,(.fields #[(.str "_law_state" 1672),(.str "_law_state" 1673),(.str "/claim/cut.py" 1674),(.int 978 0),(.int 1 0),(.int 0 0),(.int 0 0),(.int 3 0),(.ref 1022),(.bool true),(.int 181 0),(.ref 1023),.none,.none,.none,(.ref 1024),(.int 1675 0),(.int 978 0),(.str "/claim/cut.py" 1676)]),#[]⟩),
 (1026,fO (stT 123) "_law_state" .none .none .none (.str "law_nu0351_01" 1640) none (.ref 1025) .none),
 (1032,⟨(.type "code"),none,(.fields #[(.str "_law_refused" 1678),(.str "_law_refused" 1679),(.str "/claim/cut.py" 1680),(.int 985 0),(.int 2 0),(.int 0 0),(.int 0 0),(.int 3 0),(.ref 1027),(.bool true),(.int 181 0),(.ref 1028),.none,(.ref 1029),(.ref 1030),(.ref 1031),(.int 1683 0),(.int 985 0),(.str "/claim/cut.py" 1684)]),#[]⟩),
 (1033,fO (stT 124) "_law_refused" .none .none .none (.str "law_nu0351_01" 1640) none (.ref 1032) .none),
 (1039,⟨(.type "code"),none,(.fields #[(.str "law" 1686),(.str "law" 1687),(.str "/claim/cut.py" 1688),(.int 991 0),(.int 1 0),(.int 0 0),(.int 0 0),(.int 3 0),(.ref 1034),(.bool true),(.int 181 0),(.ref 1035),.none,(.ref 1036),(.ref 1037),(.ref 1038),(.int 1705 0),(.int 991 0),(.str "/claim/cut.py" 1706)]),#[]⟩),
 (1040,fO (stT 125) "law" .none .none .none (.str "law_nu0351_01" 1640) none (.ref 1039) .none)]
end
end Mine
end
section
set_option maxHeartbeats 0
namespace Mine
noncomputable abbrev rw0:OpenLaw:=PySem.Challenge.rw_nu0351_01
theorem s1:sreFenced rw0.row.prog.main=true:=by rw [PySem.W.Fast.te11788848310118352699]; kernel_rfl
theorem s2:((moduleNames rw0.row.prog.main.body).isEmpty||lookedIntoSs (moduleNames rw0.row.prog.main.body) rw0.row.prog.main.body)=true:=by
 rw [PySem.W.Fast.te9807087744658564304,PySem.W.Fast.te12862048085361865435]; kernel_rfl
theorem s3:namesResolve rw0.row.prog=true:=by rw [PySem.W.Fast.te8377067652309620493]; kernel_rfl
theorem s4:rw0.row.prog.boundNames.all (fun n=>!worldNames.contains n)=true:=by
 have e:@Program.boundNames=PySem.W.Fast.tw18344453789297297638:=PySem.W.Fast.te18344453789297297638
 rw [e]; kernel_rfl
theorem s5a:({strict:=!(importedModules rw0.row.prog.main.body).all cThrough.contains,foot:=none,bare:=(["vars","dir","locals"]:List Str).filter (readsOut rw0.row.prog rw0.row.prog.main.body)}:Look)={strict:=false,foot:=none,bare:=[]}:=by
 rw [PySem.W.Fast.te13343964577679436407]; kernel_rfl
theorem s5:noRoadLSs {strict:=!(importedModules rw0.row.prog.main.body).all cThrough.contains,foot:=none,bare:=(["vars","dir","locals"]:List Str).filter (readsOut rw0.row.prog rw0.row.prog.main.body)} rw0.row.prog.main.body=true:=by
 rw [s5a,PySem.W.Fast.te8326940854005059898]; kernel_rfl
theorem s6:namesMeet rw0.row.prog rw0.row.prog.main.body (fun Z n=>attrL n)=true:=by
 rw [PySem.W.Fast.te17119622794617984870,PySem.W.Fast.te17868728402115742887]; kernel_rfl
theorem s_looks:looksOpen rw0.row.prog=true:=look_both (look_both (look_both (look_both (look_both s1 s2) s3) s4) s5) s6
end Mine
namespace Mine
theorem p1:rw0.row.loose.isEmpty=true:=by kernel_rfl
theorem p2:rw0.row.makers.isEmpty=true:=by kernel_rfl
theorem p3:(rw0.row.records.isEmpty||rw0.row.raises.all fun ct=>ct.1 != .builtin "AttributeError" && ct.1 != .builtin "TypeError")=true:=by kernel_rfl
theorem p4:(rw0.row.raises.all fun ct=>match ct.1 with | .builtin n=>!rw0.row.prog.boundNames.contains (Str.ofString n)&&!ofTheWorld.contains n | .own _=>true)=true:=by kernel_rfl
theorem p5:decide (rw0.row.records.map (·.1)).Nodup=true:=by kernel_rfl
theorem p6:(rw0.row.records.all fun x=>!x.1.opensWith "__" && !builtinNamed x.1&&rw0.row.prog.boundNames.contains x.1&&x.2.all fun f=>!f.1.opensWith "__")=true:=by kernel_rfl
theorem p7:rw0.row.toRowW.solid=true:=by rw [PySem.W.Fast.te13582783067957832011]; kernel_rfl
theorem p8:rw0.row.pre.litsOk=true:=by rw [PySem.W.Fast.te5318747976498570220]; kernel_rfl
theorem p9:rw0.row.post.litsOk=true:=by rw [PySem.W.Fast.te5318747976498570220]; kernel_rfl
theorem p10:rw0.row.raises.all (·.2.litsOk)=true:=by kernel_rfl
theorem p11:(rw0.row.mutates.all fun i=>match rw0.row.args[i]? with
  | some sh=>!sh.arms.any WShape.isObj
  | none=>false)=true:=by kernel_rfl
theorem p12:(rw0.row.within.all fun i=>decide (i < rw0.row.args.length))=true:=by kernel_rfl
theorem p13:(rw0.row.same.all fun i=>decide (i < rw0.row.args.length))=true:=by kernel_rfl
theorem s_part:rw0.row.partSaid=true:=
 look_both (look_both (look_both (look_both (look_both (look_both (look_both (look_both (look_both (look_both (look_both (look_both (look_both s_looks p1) p2) p3) p4) p5) p6) p7) p8) p9) p10) p11) p12) p13
theorem r1:rw0.row.prog.boundNames.contains rw0.row.name=true:=by rw [PySem.W.Fast.te3471404346716756564,PySem.W.Fast.te18344453789297297638]; kernel_rfl
theorem r2:(!startupNames.contains rw0.row.name)=true:=by rw [PySem.W.Fast.te3471404346716756564,PySem.W.Fast.te12749700546528644094]; kernel_rfl
theorem s_row:rw0.row.wellSaid=true:=look_both (look_both s_part r1) r2
theorem t1:decide (rw0.foot<=(behindTheImports rw0.prog).length)=true:=by kernel_rfl
theorem t2:rw0.footing.all footLine=true:=by rw [PySem.W.Fast.te10501279942588096481]; kernel_rfl
theorem s8:noClassBlock rw0.prog rw0.footing=true:=by rw [PySem.W.Fast.te8179353310426384613]; kernel_rfl
theorem t3:rw0.most.all (fun n=>decide (63<=n))=true:=by kernel_rfl
theorem t4:rw0.bound.all (fun n=>decide (2 ^ 63<=n))=true:=by kernel_rfl
theorem s9:noRoadLSs {strict:=true,foot:=some rw0.bound',writes:=rw0.writes,may:=rw0.may} rw0.footing=true:=by
 rw [PySem.W.Fast.te8326940854005059898,PySem.W.Fast.te797321630700447069,PySem.W.Fast.te9572597257264208301]; kernel_rfl
theorem t5:defStands rw0.about rw0.above=true:=by rw [PySem.W.Fast.te9558739934217749035]; kernel_rfl
theorem s10:rw0.namesIt=true:=by rw [PySem.W.Fast.te16286561074155671207]; kernel_rfl
theorem t6:(["type","isinstance","issubclass","getattr","hasattr"]:List Str).all (fun n=>rw0.about != [n])=true:=by kernel_rfl
theorem s11:(rw0.bound'.all fun n=>!builtinNamed n||rw0.about==[n]||!rw0.reads n)=true:=by
 rw [PySem.W.Fast.te797321630700447069,PySem.W.Fast.named_eq,PySem.W.Fast.te6984425678791042302]; kernel_rfl
theorem t7:(!rw0.writes||(rw0.prog.main.body.flatMap importedNames).all fun n=>!rw0.reads n)=true:=by kernel_rfl
theorem t8:((rw0.prog.main.body.flatMap importedNames).all fun n=>!rw0.reads n||(drawsOf n rw0.prog.main.body).all fun mn=>mn.2 != ("attrgetter" : Str)&&mn.2 != ("methodcaller" : Str))=true:=by
 rw [PySem.W.Fast.te17095254045102204799,PySem.W.Fast.te6984425678791042302,PySem.W.Fast.te482687673346738481]; kernel_rfl
theorem s14:namesMeet rw0.prog rw0.footing (fun sc n=>(!(["type","isinstance","issubclass","getattr","hasattr"]:List Str).contains n||sc.names.lookup n==some .globalImplicit) &&
  (rw0.may != some n||sc.kind==.module||sc.names.lookup n==some .globalImplicit))=true:=by
 rw [PySem.W.Fast.te17119622794617984870,PySem.W.Fast.te3471404346716756564,PySem.W.Fast.te9572597257264208301]; kernel_rfl
theorem t9:rw0.own.contains rw0.name=true:=by rw [PySem.W.Fast.te3471404346716756564,PySem.W.Fast.te10792542408131684335]; kernel_rfl
theorem t10:(rw0.own.eraseDups.length==rw0.own.length)=true:=by rw [PySem.W.Fast.te7723801398212525404,PySem.W.Fast.te10792542408131684335]; kernel_rfl
theorem s12:(rw0.own.all fun n=>!builtinNamed n)=true:=by rw [PySem.W.Fast.named_eq,PySem.W.Fast.te10792542408131684335]; kernel_rfl
theorem s13:namesMeet rw0.prog rw0.above (fun Z n=>!rw0.own.contains n)=true:=by
 rw [PySem.W.Fast.te17119622794617984870,PySem.W.Fast.te3471404346716756564,PySem.W.Fast.te10792542408131684335]; kernel_rfl
theorem s15:namesMeet rw0.prog rw0.footing (fun sc n=>sc.kind==.module||sc.names.lookup n != some .globalExplicit)=true:=by rw [PySem.W.Fast.te17119622794617984870]; kernel_rfl
theorem said:rw0.wellSaid=true:=
 look_both (look_both (look_both (look_both (look_both (look_both (look_both (look_both (look_both (look_both (look_both (look_both (look_both (look_both (look_both (look_both (look_both (look_both s_row t1) t2) s8) t3) t4) s9) t5) s10) t6) s11) t7) t8) s14) t9) t10) s12) s13) s15
end Mine
end
section
set_option maxHeartbeats 0
namespace Mine
noncomputable section
noncomputable def qw:Program:={pw with main:={pw.main with body:=pw.main.body.drop 125}}
noncomputable def lsw:List Str:=pw.boundNames.filter fun n=>n != ("law" : Str)
noncomputable def bootTree (P:Params):BT:=
 ((((((((((BT.nil.ins 0 (boot_o_0 P)).ins 1 (boot_o_1 P)).ins 2 (boot_o_2 P)).ins 3 (boot_o_3 P)).ins 4 (boot_o_4 P)).ins 5 (boot_o_5 P)).ins 6 (boot_o_6 P)).ins 7 (boot_o_7 P)).ins 8 (boot_o_8 P)).ins 9 (boot_o_9 P)).ins 10 (boot_o_10 P)
theorem bootTree_abs (P:Params):absHeap (bootTree P) 11 {}=boot_heap P:=by kernel_rfl
noncomputable def goT (tb:String->Option Builtin) (p:Program) (w:World) (n₀:Nat) (ann:Option Value):Nat->SharedT->Thread->Option SharedT
 | 0,_,_=>none
 | n+1,s,t=>match through t with
  | true=>some s
  | false=>match stepOk n₀ ann t with
   | false=>none
   | true=>match stepT (denote tb) p w s t with
    | some (s',t')=>goT tb p w n₀ ann n s' t'
    | none=>none
theorem goT_spec {tb p w n₀ ann}:∀ {n:Nat} {s r:SharedT} {t:Thread},goT tb p w n₀ ann n s t=some r->topRun tb p w n₀ ann n s.abs t=some r.abs
 | 0,_,_,_,h=>by simp [goT] at h
 | n+1,s,r,t,h=>by
  unfold goT at h
  unfold topRun
  cases ht:through t with
  | true=>rw [ht] at h; cases h; rfl
  | false=>
   rw [ht] at h
   cases hk:stepOk n₀ ann t with
   | false=>rw [hk] at h; cases h
   | true=>
    rw [hk] at h
    cases hs:stepT (denote tb) p w s t with
    | none=>rw [hs] at h; cases h
    | some q=>obtain ⟨s₂,t₂⟩:=q; rw [hs] at h; dsimp only; rw [stepT_spec hs]; exact goT_spec h
noncomputable def goF (p:Program) (w:World) (n₀:Nat) (ann:Option Value):Nat->SharedT->Thread->Option SharedT
 | 0,_,_=>none
 | n+1,s,t=>match through t with
  | true=>some s
  | false=>match PySem.W.Fast.tw6613529449190102663 n₀ ann t with
   | false=>none
   | true=>match PySem.W.Fast.tw10156331382660048174 (PySem.W.Fast.tw11892475500146522536 PySem.W.Fast.tw14364793385576792824) p w s t with
    | some (s',t')=>goF p w n₀ ann n s' t'
    | none=>none
theorem goF_eq (p w n₀ ann):∀ n s t,goT treeTable p w n₀ ann n s t=goF p w n₀ ann n s t
 | 0,_,_=>rfl
 | n+1,s,t=>by
  unfold goT goF
  rw [<- PySem.W.Fast.te6613529449190102663,<- PySem.W.Fast.te10156331382660048174,<- PySem.W.Fast.te11892475500146522536,<- PySem.W.Fast.te14364793385576792824]
  simp only [goF_eq p w n₀ ann n]
noncomputable def start0 (w:World) (os:OsState):SharedT:=⟨bootTree w.params,11,{},Array.mk [],boot_drawn,boot_toks,os⟩
noncomputable def getA (s:SharedT) (a:Addr):Option Obj:=match Nat.blt a s.n with
 | true=>(s.tree.get a).bind alive
 | false=>none
theorem getA_abs {s:SharedT} {a:Addr} {o:Obj} (h:getA s a=some o):s.abs.heap.get? a=some o:=by
 unfold getA at h
 cases e:Nat.blt a s.n with
 | false=>rw [e] at h; cases h
 | true=>
  rw [e] at h
  have lt:a < s.n:=Nat.le_of_ble_eq_true e
  obtain ⟨o',g,al⟩:=Option.bind_eq_some_iff.mp h
  exact (abs_get lt g).trans al
theorem getAs_abs {s:SharedT}:∀ {as:List Addr} {os:List Obj},as.map (getA s)=os.map some->as.map s.abs.heap.get?=os.map some
 | [],os,h=>h
 | a::r,[],h=>by cases h
 | a::r,o::os,h=>by
  simp only [List.map_cons,List.cons.injEq] at h ⊢
  exact ⟨getA_abs h.1,getAs_abs h.2⟩
noncomputable def asK:List Addr:=[3,30,31,50,51,66,67,69,70,88,89,104,105,111,112,118,119,125,126,132,133,135,136,153,154,160,161,167,168,174,175,181,182,188,189,195,196,200,201,203,204,214,215,221,222,228,229,235,236,242,243,249,250,256,257,263,264,270,271,277,278,284,285,291,292,298,299,305,306,312,313,319,320,326,327,361,362,396,397,410,411,417,418,469,470,512,518,519,525,526,581,582,588,589,595,596,609,610,616,617,623,624,630,631,637,638,651,652,661,662,672,673,686,687,693,694,700,701,707,708,714,715,724,725,810,811,819,825,826,832,833,839,840,867,868,874,875,881,882,891,892,909,910,912,913,923,924,928,929,933,934,940,941,947,948,952,953,957,958,971,972,974,975,992,993,995,996,1006,1007,1013,1014,1020,1021,1025,1026,1032,1033,1039,1040]
theorem asK_eq:∀ P,asK=(KK P).map (·.1):=fun Z=>by kernel_rfl
noncomputable def looksG (p:Program) (H:Heap) (s:Shared):Bool:=staticsOk (importedModules p.main.body) H s.heap&&namesBound p s.heap&&gensDone s&&laidKept H s.heap
theorem left_of_tree {p q:Program} {loose:List Str} {Xt:Shared->Bool} {α:Type} {Yf:Shared->α} {Ya:World->α} {N:Nat} {g0:Bool} {H₀:Params->Heap} {gs₀:Array GenState} {d₀:Drawn} {k₀:Nat} {m₀:Nat} {ann:Option Value}
  (open_:∀ w:World,(fencedOpening treeTable p w N).map (fun s=>(s.heap,s.gens,s.drawn,s.toks))=some (H₀ w.params,gs₀,d₀,k₀))
  (size:∀ w:World,((H₀ w.params).isNs mainGlobals&&gs₀.size==0,(H₀ w.params).objs.size,(H₀ w.params).nsMap mainGlobals "__annotations__")=(true,m₀,ann))
  (run:∀ (w:World) (os:OsState),∃ s:Shared,topRun treeTable p w m₀ ann N ⟨H₀ w.params,gs₀,d₀,k₀,os⟩ (topStub p)=some s/\looksG p (H₀ w.params) s=true/\openSeen q loose (importedModules p.main.body) Xt g0 s=openGood q loose/\Yf s=Ya w) :
  LeftO p q loose Xt Yf Ya N g0:=fun w=>by
 obtain ⟨⟨h,gs,d,k,os⟩,e,e'⟩:=Option.map_eq_some_iff.mp (open_ w)
 obtain ⟨rfl,rfl,rfl,rfl⟩:h=H₀ w.params/\gs=gs₀/\d=d₀/\k=k₀:=by simpa using e'
 obtain ⟨z1,z2,z3⟩:_/\_/\_:=by simpa only [Prod.mk.injEq] using size w
 obtain ⟨s,r,l1,l2,l3⟩:=run w os
 have t:topFrom treeTable p w N ⟨H₀ w.params,gs,d,k,os⟩=some s:=by
  unfold topFrom
  dsimp only
  rw [z1,z2,z3,r]
  show (match looksG p (H₀ w.params) s with | true=>_ | false=>_)=_
  rw [l1]
 unfold openEnds
 rw [e]
 show (topFrom treeTable p w N _).map _=_
 rw [t]
 exact congrArg some (Prod.ext l2 l3)
theorem run_of {p:Program} {w:World} {m₀:Nat} {ann:Option Value} {N:Nat} {s₀:SharedT} {S:Shared} {α:Type} {f:SharedT->α} {a:α} {t:Thread}
  (e:s₀.abs=S) (h:(goF p w m₀ ann N s₀ t).map f=some a):∃ s:SharedT,topRun treeTable p w m₀ ann N S t=some s.abs/\f s=a:=by
 obtain ⟨s,hs,he⟩:=Option.map_eq_some_iff.mp h
 rw [<- goF_eq] at hs
 exact ⟨s,e▸goT_spec hs,he⟩
theorem run0:∀ (w:World) (os:OsState),((goF pw w 11 (some (.ref 6)) 7000 (start0 w os) (topStub pw)).map fun s=>
  (looksG pw (boot_heap w.params) s.abs,PySem.W.Fast.tw4187177175401517315 qw lsw (importedModules pw.main.body) (fun Z=>true) true s.abs,asK.map (getA s),(getA s sysModules).isSome))=some (true,openGood qw lsw,((KK w.params).map (·.2)).map some,true):=by
 intro w os; kernel_rfl
theorem boot_fence:∀ s,fenceModules? pw s=some s:=fun s=>by kernel_rfl
theorem boot_opening:opening pw=plainProg pw.main.scope.names:=by kernel_rfl
theorem boot_size:∀ w:World,((boot_heap w.params).isNs mainGlobals&&(Array.mk []:Array GenState).size==0,(boot_heap w.params).objs.size,(boot_heap w.params).nsMap mainGlobals "__annotations__")=(true,11,some (.ref 6)):=fun w=>by kernel_rfl
theorem start0_abs (w:World) (os:OsState):(start0 w os).abs=⟨boot_heap w.params,Array.mk [],boot_drawn,boot_toks,os⟩:=by
 unfold start0 SharedT.abs
 exact congrArg (fun h=>(⟨h,Array.mk [],boot_drawn,boot_toks,os⟩:Shared)) (bootTree_abs w.params)
theorem obs_of {w:World} {s:SharedT} (h:asK.map (getA s)=((KK w.params).map (·.2)).map some):asK.map s.abs.heap.get?=(KK w.params).map fun p=>some p.2:=by
 have:=getAs_abs h
 rw [List.map_map] at this
 exact this
noncomputable def hookS:Hook:=⟨List (Option Obj) × Bool,fun s=>(asK.map s.heap.get?,(s.heap.get? sysModules).isSome),fun w=>((KK w.params).map fun p=>some p.2,true),fun w h=>InK KK w h/\∃ o,h.get? sysModules=some o,
 fun w s e=>⟨InK.of asK_eq w s (congrArg Prod.fst e),Option.isSome_iff_exists.mp (congrArg Prod.snd e)⟩,fun w h h' x k=>⟨InK.keeps w h h' x.1 k,let ⟨o,e⟩:=x.2; ⟨o,k _ _ e⟩⟩⟩
theorem sys_of {s:SharedT} (h:(getA s sysModules).isSome=true):(s.abs.heap.get? sysModules).isSome=true:=by
 obtain ⟨o,e⟩:=Option.isSome_iff_exists.mp h
 rw [getA_abs e]; rfl
theorem left:LeftO pw qw lsw (fun Z=>true) hookS.obs hookS.val 7000 true:=
 left_of_tree (boot_open (p:=pw) (N:=7000) boot_opening (by decide) boot_fence) boot_size fun w os=>by
  obtain ⟨s,r,h⟩:=run_of (start0_abs w os) (run0 w os)
  rw [<- PySem.W.Fast.te4187177175401517315] at h
  exact ⟨s.abs,r,congrArg (fun x=>x.1) h,congrArg (fun x=>x.2.1) h,Prod.ext (obs_of (congrArg (fun x=>x.2.2.1) h)) (sys_of (congrArg (fun x=>x.2.2.2) h))⟩
end
end Mine
end
namespace Mine
section
theorem L0:∀ {a:Nat},-1000000<=(↑a:Int):=by intros; lia
theorem L1:∀ {a:Nat},¬(↑a:Int) < 0:=by intros; lia
theorem L2:∀ {a:Int},0<=a->¬a < 0:=by intros; lia
theorem L3:∀ {a:Nat},0<=(↑a:Int):=by intros; lia
theorem L9:∀ {a:Int},a < 4->a<=15:=by intros; lia
theorem L18:∀ {a:Nat},a<=255->¬255 < (↑a:Int):=by intros; lia
theorem L25:∀ {a:Int},64<=a->-524288<=a:=by intros; lia
theorem L26:∀ {a:Int},a<=460->a<=524287:=by intros; lia
theorem L97:∀ {a b:Nat},a+(b+1)<=1000000->a+(0+1)+b<=1000000:=by intros; lia
theorem L99:∀ {a b c:Nat},a+b<=1000000->c+(0+1)=a+b->c < 1000000:=by intros; lia
theorem L100:∀ {a:Int},0<=a->2*a=(↑(2*a).toNat:Int):=by intros; lia
theorem L101:∀ {a:Int},¬0<=a->-2*a - 1=(↑(-2*a - 1).toNat:Int):=by intros; lia
theorem L102:∀ {a b:Nat},a < b->¬(↑b:Int)<=(↑a:Int):=by intros; lia
theorem L105:∀ {a:Nat},128+a%128<=255:=by intros; lia
theorem L106:∀ {a b c:Nat},a*b=128*(a / 128)*b+a%128*b->c+a%128*b+a / 128*(b*128)=c+a*b:=by intros; lia
theorem L107:∀ {a:Nat},a < 128->¬127 < (↑a:Int):=by intros; lia
theorem L108:∀ {a:Nat},127 < (↑(128+a%128):Int):=by intros; lia
theorem L109:∀ {a:Nat},((↑(128+a%128):Int) - 128).natAbs < 2 ^ 64:=by intros; lia
theorem L110:∀ {a:Nat},(↑(128+a%128):Int) - 128=(↑(a%128):Int):=by intros; lia
theorem L111:∀ {a b:Nat},a < b+1->¬a < 128->a / 128 < b:=by intros; lia
theorem L112:∀ {a:Nat},1<=a->1<=a*128:=by intros; lia
theorem L113:∀ {a:Nat},¬a < 128->1<=a / 128:=by intros; lia
theorem L115:∀ {a:Int},¬0<=a->(↑(-2*a - 1).toNat:Int)=-2*a - 1:=by intros; lia
theorem L116:∀ {a:Int},(-2*a - 1)%2=1/\-(-2*a - 1+1) / 2=a:=by intros; lia
theorem L117:∀ {a:Int},0<=a->(↑(2*a).toNat:Int)=2*a:=by intros; lia
theorem L118:∀ {a:Int},2*a%2=0/\2*a / 2=a:=by intros; lia
theorem L119:∀ {a:Nat},1 < 1->1<=a:=by intros; lia
theorem L120:∀ {a:Nat},(1 < a->1<=0)->¬1 < (↑a:Int):=by intros; lia
theorem L121:∀ {a:Nat},a<=127->(↑a:Int).natAbs < 2 ^ 64:=by intros; lia
theorem L122:∀ {a b c d e:Nat},a<=b->c - d=e+b->1<=e->¬(↑c:Int) - (↑(d+e):Int) < (↑a:Int):=by intros; lia
theorem L127:∀ {a b:Int},a < b->¬b<=a:=by intros; lia
theorem L128:∀ {a:Int},(16*a+16 - 1) / 16*16=16*a:=by intros; lia
theorem L131:∀ {a:Int},0<=a->0<=a / 4:=by intros; lia
theorem L132:∀ {a:Int},a < 4294967296->a / 4 < 4294967296:=by intros; lia
theorem L136:∀ {a:Int},0<=a->0<=64+16*a:=by intros; lia
theorem L137:∀ {a b:Int},1<=a->64+16*b < 64+16*b+16*a:=by intros; lia
theorem L138:∀ {a b c:Int},1<=a->0<=b->64+16*c+4 < 64+16*c+16*a+16+16*b:=by intros; lia
theorem L139:∀ {a b c:Int},1<=a->0<=b->16*a+16*b+16*c < 4294967000->64+16*c+4 < 4294967296:=by intros; lia
theorem L154:∀ {a:Int},-30000<=a->-65536<=a:=by intros; lia
theorem L155:∀ {a:Int},a<=34845->a<=65535:=by intros; lia
theorem L156:∀ {a:Int},a < 100->a<=65535:=by intros; lia
theorem L157:∀ {a:Int},1<=a->0<=a:=by intros; lia
theorem L158:∀ {a b:Int},1342177280+(a*16777216+0*1048576+(↑0:Int)*65536)+b+65536=1342177280+a*16777216+b+65536:=by intros; lia
theorem L159:∀ {a b:Int},1073741824+(a*16777216+0*1048576+(↑0:Int)*65536)+b=1073741824+a*16777216+b:=by intros; lia
theorem L160:∀ {a:Int},a*16777216+a*1048576+(↑(0+1+1+1+1+1+1+1+1):Int)*65536+1=a*16777216+a*1048576+524289:=by intros; lia
theorem L161:∀ {a b:Int},64<=a->a<=460->2147483648+(↑(0+1+1):Int)*268435456+b*16777216+13*1048576+a%1048576=2684354560+b*16777216+13631488+a:=by intros; lia
theorem L162:∀ {a b:Int},64<=a->a<=460->2147483648+(↑(0+1):Int)*268435456+b*16777216+13*1048576+a%1048576=2415919104+b*16777216+13631488+a:=by intros; lia
theorem L163:∀ {a b:Int},3221225472+(↑(0+1):Int)*16777216+268435456+a*256+b*16+12=3506438156+a*256+b*16:=by intros; lia
theorem L164:∀ {a b c:Int},1<=a->0<=b->3506438156+b*256+a*16=c->3221225472<=c:=by intros; lia
theorem L165:∀ {a b c:Int},1<=a->a<=15->0<=b->b < 100->3506438156+b*256+a*16=c->c / 16777216%16=1:=by intros; lia
theorem L166:∀ {a b c:Int},1<=a->a<=15->0<=b->b < 100->3506438156+b*256+a*16=c->c / 268435456%2=1:=by intros; lia
theorem L167:∀ {a b c:Int},1<=a->a<=15->0<=b->b < 100->3506438156+b*256+a*16=c->c / 536870912%2=0:=by intros; lia
theorem L168:∀ {a b c:Int},3506438156+a*256+b*16=c->c%16=12:=by intros; lia
theorem L169:∀ {a b c:Int},1<=a->a<=15->3506438156+b*256+a*16=c->c / 16%16=a:=by intros; lia
theorem L170:∀ {a b c:Int},1<=a->a<=15->0<=b->b < 100->3506438156+b*256+a*16=c->c / 256%65536=b:=by intros; lia
theorem L171:∀ {a b c:Int},a < 4->b<=34845->b < 0/\c=1342177280+a*16777216+b+65536\/¬b < 0/\c=1073741824+a*16777216+b->¬3221225472<=c:=by intros; lia
theorem L172:∀ {a b c:Int},a < 4->b<=34845->b < 0/\c=1342177280+a*16777216+b+65536\/¬b < 0/\c=1073741824+a*16777216+b->¬2147483648<=c:=by intros; lia
theorem L173:∀ {a b c:Int},0<=a->a < 4->-30000<=b->b<=34845->b < 0/\c=1342177280+a*16777216+b+65536\/¬b < 0/\c=1073741824+a*16777216+b->c / 16777216%16=a:=by intros; lia
theorem L174:∀ {a b c:Int},0<=a->a < 4->-30000<=b->b<=34845->b < 0/\c=1342177280+a*16777216+b+65536\/¬b < 0/\c=1073741824+a*16777216+b->c / 536870912%2=0:=by intros; lia
theorem L175:∀ {a b c:Int},0<=a->-30000<=b->b < 0/\c=1342177280+a*16777216+b+65536\/¬b < 0/\c=1073741824+a*16777216+b->¬c < 1073741824:=by intros; lia
theorem L176:∀ {a b c:Int},0<=a->a < 4->-30000<=b->b<=34845->b < 0/\c=1342177280+a*16777216+b+65536\/¬b < 0/\c=1073741824+a*16777216+b->c / 268435456%2=1/\c%65536 - 65536=b\/c / 268435456%2=0/\c%65536=b:=by intros; lia
theorem L177:∀ {a b:Int},a < 4->a*16777216+a*1048576+524289=b->¬3221225472<=b:=by intros; lia
theorem L178:∀ {a b:Int},a < 4->a*16777216+a*1048576+524289=b->¬2147483648<=b:=by intros; lia
theorem L181:∀ {a b c:Int},a < 4->b<=460->2684354560+a*16777216+13631488+b=c->¬3221225472<=c:=by intros; lia
theorem L182:∀ {a b c:Int},0<=a->64<=b->2684354560+a*16777216+13631488+b=c->2147483648<=c:=by intros; lia
theorem L183:∀ {a b c:Int},0<=a->a < 4->64<=b->b<=460->2684354560+a*16777216+13631488+b=c->c / 268435456%4=2:=by intros; lia
theorem L184:∀ {a b c:Int},0<=a->a < 4->64<=b->b<=460->2684354560+a*16777216+13631488+b=c->c / 16777216%16=a:=by intros; lia
theorem L185:∀ {a b c:Int},64<=a->a<=460->2684354560+b*16777216+13631488+a=c->c / 1048576%16=13:=by intros; lia
theorem L186:∀ {a b c:Int},64<=a->a<=460->2684354560+b*16777216+13631488+a=c->c%1048576=a:=by intros; lia
theorem L187:∀ {a b c:Int},a < 4->b<=460->2415919104+a*16777216+13631488+b=c->¬3221225472<=c:=by intros; lia
theorem L188:∀ {a b c:Int},0<=a->64<=b->2415919104+a*16777216+13631488+b=c->2147483648<=c:=by intros; lia
theorem L189:∀ {a b c:Int},0<=a->a < 4->64<=b->b<=460->2415919104+a*16777216+13631488+b=c->c / 268435456%4=1:=by intros; lia
theorem L190:∀ {a b c:Int},0<=a->a < 4->64<=b->b<=460->2415919104+a*16777216+13631488+b=c->c / 16777216%16=a:=by intros; lia
theorem L191:∀ {a b c:Int},64<=a->a<=460->2415919104+b*16777216+13631488+a=c->c / 1048576%16=13:=by intros; lia
theorem L192:∀ {a b c:Int},64<=a->a<=460->2415919104+b*16777216+13631488+a=c->c%1048576=a:=by intros; lia
theorem L194:∀ {a:Int},0<=a->a < 6->a=0\/a=1\/a=2\/a=3\/a=4\/a=5:=by intros; lia
theorem L195:∀ {a:Int},0<=a->-30000<=a*655 - 30000:=by intros; lia
theorem L196:∀ {a:Int},a < 100->a*655 - 30000<=34845:=by intros; lia
theorem L197:∀ {a:Int},0<=a->64<=64+4*a:=by intros; lia
theorem L198:∀ {a:Int},a < 100->64+4*a<=460:=by intros; lia
theorem L199:∀ {a:Int},0<=a->64<=64+a:=by intros; lia
theorem L200:∀ {a:Int},a < 100->64+a<=460:=by intros; lia
theorem L201:∀ {a:Int},0<=a->1<=1+a:=by intros; lia
theorem L207:∀ {a:Int},0<=a->0<=(a+16 - 1) / 16*16:=by intros; lia
theorem L208:∀ {a:Int},(a+16 - 1) / 16*16 < a+16:=by intros; lia
inductive GV where
 | none | int (i:Int) | str (s:List Nat) | tup (l:List GV)
inductive AV where
 | g (v:GV) | bool (b:Bool) | tup (l:List AV) | obj (n:Nat) | frz (l:List GV) | any
noncomputable abbrev AV.i (i:Int):AV:=.g (.int i)
noncomputable abbrev AV.s (s:List Nat):AV:=.g (.str s)
noncomputable abbrev AV.no:AV:=.g .none
inductive AO where
 | gl (l:List GV) | ol (l:List AV) | inst (c:Nat) (fs:List (Nat × AV)) | di (l:List (Int × Int)) | ds (l:List (List Nat × AV))
structure St where
 sto:List (Nat × AO)
 nx:Nat
noncomputable abbrev A2:=List (Nat × AV)
noncomputable def B2 {α:Type} (k:Nat):List (Nat × α)->Option α
 | []=>none
 | (j,v)::r=>match k==j with | true=>some v | false=>B2 k r
noncomputable def put {α:Type} (k:Nat) (v:α):List (Nat × α)->List (Nat × α)
 | []=>[(k,v)]
 | (j,w)::r=>match k==j with | true=>(j,v)::r | false=>(j,w)::put k v r
noncomputable def St.get (st:St) (i:Nat):Option AO:=B2 i st.sto
noncomputable def St.set (st:St) (i:Nat) (o:AO):St:=⟨put i o st.sto,st.nx⟩
noncomputable def St.add (st:St) (o:AO):St:=⟨(st.nx,o)::st.sto,st.nx+1⟩
mutual
noncomputable def AV.within (n:Nat):AV->Bool
 | .obj i=>Nat.blt i n
 | .tup l=>A5 n l
 | _=>true
noncomputable def A5 (n:Nat):List AV->Bool
 | []=>true
 | v::r=>match v.within n with | true=>A5 n r | false=>false
end
noncomputable def AV.cut (n:Nat) (v:AV):AV:=match v.within n with | true=>v | false=>.any
noncomputable def E1 (n:Nat):A2->A2
 | []=>[]
 | (x,v)::r=>(x,v.cut n)::E1 n r
noncomputable def cutDs (n:Nat):List (List Nat × AV)->List (List Nat × AV)
 | []=>[]
 | (x,v)::r=>(x,v.cut n)::cutDs n r
noncomputable def AO.cut (n:Nat):AO->AO
 | .ol l=>.ol (l.map (AV.cut n))
 | .inst c fs=>.inst c (E1 n fs)
 | .ds l=>.ds (cutDs n l)
 | o=>o
noncomputable def G9 (n:Nat):List (Nat × AO)->List (Nat × AO)
 | []=>[]
 | (i,o)::r=>match Nat.blt i n with | true=>(i,o.cut n)::G9 n r | false=>G9 n r
noncomputable def St.cut (n:Nat) (st:St):St:=⟨G9 n st.sto,n⟩
inductive Cm where | eq | ne | lt | le | gt | ge
inductive Ty where | int | bool | tuple | str
mutual
inductive ME where
 | none | bool (b:Bool) | int (i:Int) | str (l:List Nat)
 | var (x:Nat) | gint (x:Nat)
 | attr (e:ME) (a:Nat)
 | bin (op:Operator) (l r:ME)
 | neg (e:ME) | not (e:ME)
 | and (l r:ME) | or (l r:ME)
 | cmp (op:Cm) (l r:ME) | cmp2 (o1 o2:Cm) (l m r:ME)
 | isNone (e:ME) | notNone (e:ME)
 | inn (l r:ME) | notIn (l r:ME)
 | ite (t a b:ME)
 | call (f:Nat) (args:MEs) | new (c:Nat) (args:MEs) | meth (o:ME) (m:Nat) (args:MEs)
 | len (e:ME) | chr (e:ME) | ord (e:ME) | sorted (e:ME) | listOf (e:ME) | dictOf (e:ME) | isinst (e:ME) (t:Ty)
 | rep (e k:ME)
 | sub (o i:ME) | upto (o hi:ME) | from_ (o lo:ME)
 | list (es:MEs) | tuple (es:MEs) | dict0
 | comp (cut ground:Bool) (elt:ME) (x:Nat) (it:MI)
 | compIf (cut ground:Bool) (elt:ME) (x:Nat) (it:MI) (cnd:ME)
inductive MEs where
 | nil | cons (e:ME) (r:MEs)
inductive MI where
 | range1 (a:ME) | range2 (a b:ME) | range3 (a b c:ME) | over (e:ME)
end
inductive MT where
 | var (x:Nat) | attr (e:ME) (a:Nat) | sub (o i:ME) | tup (l:List (Nat ⊕ (Nat × Nat)))
mutual
inductive MS where
 | expr (e:ME) | assign (t:MT) (e:ME)
 | augVar (x:Nat) (op:Operator) (e:ME) | augAttr (o:ME) (a:Nat) (op:Operator) (e:ME)
 | ite (t:ME) (a b:MSs)
 | whil (t:ME) (b:MSs) | for_ (cut:Bool) (x:Nat) (it:MI) (b:MSs)
 | ret0 | ret (e:ME)
 | raise (c:Nat) (args:MEs)
 | try_ (b:MSs) (c:Nat) (n:Option Nat) (h:MSs)
 | del (o i:ME)
inductive MSs where
 | nil | cons (s:MS) (r:MSs)
end
noncomputable def chk (b:Bool) (Q:Prop):Prop:=match b with
 | true=>Q
 | false=>False
theorem cB {a b:Nat} {Q:Prop} (h:chk (Nat.ble a b) Q):a<=b/\Q:=by
 cases e:Nat.ble a b with
 | true=>rw [e] at h; exact ⟨Nat.le_of_ble_eq_true e,h⟩
 | false=>rw [e] at h; exact h.elim
theorem cE {a b:Nat} {Q:Prop} (h:chk (a==b) Q):a=b/\Q:=by
 cases e:a==b with
 | true=>rw [e] at h; exact ⟨beq_iff_eq.mp e,h⟩
 | false=>rw [e] at h; exact h.elim
theorem cD {p:Prop} [Decidable p] {Q:Prop} (h:chk (decide p) Q):p/\Q:=by
 by_cases e:p
 ·rw [decide_eq_true e] at h; exact ⟨e,h⟩
 ·rw [decide_eq_false e] at h; exact h.elim
noncomputable def MulOk (a b:Int):Prop:=a.natAbs < 2 ^ 64\/b.natAbs < 2 ^ 64
theorem cM {a b:Int} {Q:Prop} (h:chk (decide (b.natAbs < 2 ^ 64)||decide (a.natAbs < 2 ^ 64)) Q):MulOk a b/\Q:=by
 by_cases e:b.natAbs < 2 ^ 64
 ·rw [decide_eq_true e] at h; exact ⟨.inr e,h⟩
 ·rw [decide_eq_false e] at h; exact ⟨.inl (cD h).1,(cD h).2⟩
noncomputable def nilL {α:Type} (l:List α) (k:Prop):Prop:=match l with
 | []=>k
 | _=>False
theorem nilL_e {α:Type} {l:List α} {k:Prop} (h:nilL l k):l=[]/\k:=by
 cases l with
 | nil=>exact ⟨rfl,h⟩
 | cons=>exact h.elim
noncomputable def intV (v:AV) (k:Int->Prop):Prop:=match v with
 | .g (.int i)=>k i
 | _=>False
noncomputable def strV (v:AV) (k:List Nat->Prop):Prop:=match v with
 | .g (.str i)=>k i
 | _=>False
noncomputable def objV (v:AV) (k:Nat->Prop):Prop:=match v with
 | .obj i=>k i
 | _=>False
noncomputable def tupV (v:AV) (k:List GV->Prop):Prop:=match v with
 | .g (.tup i)=>k i
 | _=>False
noncomputable def gvV (v:AV) (k:GV->Prop):Prop:=match v with
 | .g w=>k w
 | _=>False
noncomputable def arg0 (l:List AV) (k:Prop):Prop:=match l with
 | []=>k
 | _=>False
noncomputable def arg1 (l:List AV) (k:AV->Prop):Prop:=match l with
 | v::r=>arg0 r (k v)
 | _=>False
noncomputable def arg2 (l:List AV) (k:AV->AV->Prop):Prop:=match l with
 | v::r=>arg1 r (k v)
 | _=>False
noncomputable def arith (op:Operator) (a b:Int) (Q:AV->Prop):Prop:=match op with
 | .Add=>Q (.i (a+b))
 | .Sub=>Q (.i (a - b))
 | .Mult=>chk (decide (b.natAbs < 2 ^ 64)||decide (a.natAbs < 2 ^ 64)) (Q (.i (a*b)))
 | .FloorDiv=>chk (decide (b≠0/\b.natAbs < 1073741824)) (Q (.i (a.fdiv b)))
 | .Mod=>chk (decide (b≠0)) (Q (.i (a.fmod b)))
 | .LShift=>chk (decide (0<=b/\b<=1000/\a.natAbs < 2 ^ 64)) (Q (.i (a*2 ^ b.toNat)))
 | .RShift=>chk (decide (0<=b)) (Q (.i (a.fdiv (2 ^ b.toNat))))
 | .BitAnd=>Q (.i (Builtin.bitAnd a b))
 | .BitOr=>Q (.i (Builtin.bitOr a b))
 | .BitXor=>Q (.i (Builtin.bitXor a b))
 | .Pow=>chk (decide (0<=b/\b<=1000/\a.natAbs < 2 ^ 64)) (Q (.i (a ^ b.toNat)))
 | _=>False
noncomputable def catS (op:Operator) (a b:List Nat) (Q:AV->Prop):Prop:=match op with
 | .Add=>chk (Nat.ble (a.length+b.length) 1000000) (Q (.s (a++b)))
 | _=>False
noncomputable def binop (op:Operator) (u v:AV) (Q:AV->Prop):Prop:=match u with
 | .g (.int a)=>intV v fun b=>arith op a b Q
 | .g (.str a)=>strV v fun b=>catS op a b Q
 | _=>False
noncomputable def F0:List Nat->List Nat->Bool
 | [],[]=>true
 | a::l,b::r=>match a==b with | true=>F0 l r | false=>false
 | _,_=>false
noncomputable def I3:List GV->Option (List (List Nat))
 | []=>some []
 | .str x::r=>match I3 r with | some l=>some (x::l) | none=>none
 | _::_=>none
noncomputable def idxS (s:List Nat):List (List Nat)->Nat->Option Nat
 | [],_=>none
 | x::r,k=>match F0 x s with | true=>some k | false=>idxS s r (k+1)
noncomputable def idxStrs (s:List Nat) (l:List GV):Option Nat:=match I3 l with
 | some ys=>idxS s ys 0
 | none=>none
mutual
noncomputable def gP:GV->PyData
 | .none=>.none
 | .int i=>.int i
 | .str l=>.str ⟨l.toArray⟩
 | .tup l=>.tuple (gPs l)
noncomputable def gPs:List GV->List PyData
 | []=>[]
 | v::r=>gP v::gPs r
end
noncomputable def listO {α β:Type} (f:α->Option β):List α->Option (List β)
 | []=>some []
 | v::r=>match f v,listO f r with
  | some a,some l=>some (a::l)
  | _,_=>none
noncomputable def toP:Nat->St->AV->Option PyData
 | 0,_,_=>none
 | n+1,st,v=>match v with
  | .g v=>some (gP v)
  | .tup l=>match listO (toP n st) l with | some l=>some (.tuple l) | none=>none
  | .obj i=>match st.get i with
   | some (.gl l)=>some (.list (gPs l))
   | some (.ol l)=>match listO (toP n st) l with | some l=>some (.list l) | none=>none
   | _=>none
  | _=>none
noncomputable def okD (d:PyData):Bool:=d.canLay0&&decide (d.depth<=64)
noncomputable def ofO {α:Type} (o:Option α) (k:α->Prop):Prop:=match o with
 | some v=>k v
 | none=>False
theorem ofO_c {α:Type} {o:Option α} {k:α->Prop} (h:ofO o k):∃ v,o=some v/\k v:=by
 cases o with
 | some v=>exact ⟨v,rfl,h⟩
 | none=>exact h.elim
noncomputable def eqP (st:St) (a b:AV) (Q:Bool->Prop):Prop:=ofO (toP 6 st a) fun d=>ofO (toP 6 st b) fun e=>(okD d=true/\okD e=true)/\∀ r:Bool,(d=e->r=true)->(r=true->e=.list []->d=.list [])->Q r
noncomputable def eqO (st:St) (i j:Nat) (Q:Bool->Prop):Prop:=match st.get i,st.get j with
 | some (.ol (_::_)),some (.gl [])=>Q false
 | _,_=>eqP st (.obj i) (.obj j) Q
noncomputable def eqop (st:St) (a b:AV) (Q:Bool->Prop):Prop:=match a with
 | .g (.int a)=>intV b fun b=>Q (a==b)
 | .g (.str a)=>strV b fun b=>Q (F0 a b)
 | .obj i=>objV b fun j=>eqO st i j Q
 | .g (.tup a)=>tupV b fun b=>eqP st (.g (.tup a)) (.g (.tup b)) Q
 | _=>False
noncomputable def ordI (op:Cm) (a b:Int) (Q:Bool->Prop):Prop:=match op with
 | .lt=>Q (decide (a < b))
 | .le=>Q (decide (a<=b))
 | .gt=>Q (decide (b < a))
 | .ge=>Q (decide (b<=a))
 | _=>False
noncomputable def ordop (op:Cm) (a b:AV) (Q:Bool->Prop):Prop:=intV a fun a=>intV b fun b=>ordI op a b Q
noncomputable def cmpop (op:Cm) (st:St) (a b:AV) (Q:Bool->Prop):Prop:=match op with
 | .eq=>eqop st a b Q
 | .ne=>eqop st a b fun r=>Q (!r)
 | .lt=>ordop .lt a b Q
 | .le=>ordop .le a b Q
 | .gt=>ordop .gt a b Q
 | .ge=>ordop .ge a b Q
noncomputable def instO (o:Option AO) (k:Nat->A2->Prop):Prop:=match o with
 | some (.inst c fs)=>k c fs
 | _=>False
noncomputable def glO (o:Option AO) (k:List GV->Prop):Prop:=match o with
 | some (.gl l)=>k l
 | _=>False
noncomputable def getAttrV (st:St) (v:AV) (a:Nat) (Q:AV->Prop):Prop:=objV v fun i=>instO (st.get i) fun Z fs=>ofO (B2 a fs) Q
structure Tabs where
 meth:Nat->Nat->Option Nat
 glob:Nat->Option Int
 init:Nat->Option Nat
 field:Nat->Nat->Bool
noncomputable def setAttrV (T:Tabs) (st:St) (v:AV) (a:Nat) (w:AV) (Q:St->Prop):Prop:=objV v fun i=>instO (st.get i) fun c fs=>chk (T.field c a) (Q (st.set i (.inst c (put a w fs))))
noncomputable def ix (k:Int) (n:Nat):Int:=if k < 0 then k+n else k
noncomputable abbrev ixOk (k:Int) (n:Nat):Prop:=-1000000<=k/\k<=1000000/\0<=ix k n
noncomputable def E2 (k:Int):List (Int × Int)->Option Int
 | []=>none
 | (j,v)::r=>if j=k then some v else E2 k r
noncomputable def subG (l:List GV) (k:Int) (Q:AV->Prop):Prop:=chk (decide (ixOk k l.length)) (ofO l[(ix k l.length).toNat]? fun v=>Q (.g v))
noncomputable def subA (l:List AV) (k:Int) (Q:AV->Prop):Prop:=chk (decide (ixOk k l.length)) (ofO l[(ix k l.length).toNat]? Q)
noncomputable def subV (st:St) (o i:AV) (Q:AV->Prop):Prop:=intV i fun k=>match o with
 | .obj a=>match st.get a with
  | some (.gl l)=>subG l k Q
  | some (.ol l)=>subA l k Q
  | some (.di l)=>∃ v,E2 k l=some v/\Q (.i v)
  | _=>False
 | .g (.tup l)=>subG l k Q
 | .tup l=>subA l k Q
 | _=>False
noncomputable def takeTo {α:Type} (hi:Int) (l:List α):List α:=if hi < 0 then l.take (l.length - (-hi).toNat) else l.take hi.toNat
noncomputable def dropFrom {α:Type} (lo:Int) (l:List α):List α:=if lo < 0 then l.drop (l.length - (-lo).toNat) else l.drop lo.toNat
noncomputable def slc {α:Type} (up:Bool) (k:Int) (l:List α):List α:=match up with | true=>takeTo k l | false=>dropFrom k l
noncomputable def sliceV (up:Bool) (st:St) (o i:AV) (Q:AV->St->Prop):Prop:=intV i fun k=>chk (decide (-1000000<=k/\k<=1000000)) (match o with
 | .g (.str s)=>chk (Nat.ble s.length 1000000) (Q (.s (slc up k s)) st)
 | .frz l=>chk (Nat.ble l.length 1000000) (Q (.obj st.nx) (st.add (.gl (slc up k l))))
 | .obj a=>match st.get a with
  | some (.gl l)=>chk (Nat.ble l.length 1000000) (Q (.obj st.nx) (st.add (.gl (slc up k l))))
  | some (.ol l)=>chk (Nat.ble l.length 1000000) (Q (.obj st.nx) (st.add (.ol (slc up k l))))
  | _=>False
 | _=>False)
noncomputable def H7 (k w:Int) (l:List (Int × Int)):List (Int × Int):=if l.any (fun p=>decide (p.1=k)) then l.map (fun p=>if p.1=k then (p.1,w) else p) else l++[(k,w)]
noncomputable def storeDs (x:List Nat) (v:AV) (l:List (List Nat × AV)):List (List Nat × AV):=if l.any (fun p=>F0 p.1 x) then l.map (fun p=>if F0 p.1 x then (p.1,v) else p) else l++[(x,v)]
noncomputable def setSubI (st:St) (a:Nat) (k:Int) (v:AV) (Q:St->Prop):Prop:=match st.get a with
 | some (.gl l)=>gvV v fun w=>chk (decide (0<=k/\k.toNat < l.length/\k<=1000000)) (Q (st.set a (.gl (l.set k.toNat w))))
 | some (.di l)=>intV v fun w=>chk (Nat.ble (l.length+1) 1000000) (Q (st.set a (.di (H7 k w l))))
 | _=>False
noncomputable def setSubS (st:St) (a:Nat) (x:List Nat) (v:AV) (Q:St->Prop):Prop:=match st.get a with
 | some (.ds l)=>chk (Nat.ble (l.length+1) 1000000) (Q (st.set a (.ds (storeDs x v l))))
 | some (.di l)=>nilL l (Q (st.set a (.ds [(x,v)])))
 | _=>False
noncomputable def setSubV (st:St) (o i v:AV) (Q:St->Prop):Prop:=objV o fun a=>match i with
 | .g (.int k)=>setSubI st a k v Q
 | .g (.str x)=>setSubS st a x v Q
 | _=>False
noncomputable def lookDs (x:List Nat):List (List Nat × AV)->Option AV
 | []=>none
 | (y,v)::r=>match F0 y x with | true=>some v | false=>lookDs x r
noncomputable def delDs (x:List Nat):List (List Nat × AV)->List (List Nat × AV)
 | []=>[]
 | (y,v)::r=>match F0 y x with | true=>r | false=>(y,v)::delDs x r
noncomputable def J1:List AV->Option (List GV)
 | []=>some []
 | .g v::r=>match J1 r with | some l=>some (v::l) | none=>none
 | _::_=>none
noncomputable def mkList (l:List AV):AO:=match J1 l with | some g=>.gl g | none=>.ol l
noncomputable def mkTup (l:List AV):AV:=match J1 l with | some g=>.g (.tup g) | none=>.tup l
inductive Src where
 | lst (i:Nat) (o:AO) | vals (l:List AV)
noncomputable def Src.items:Src->List AV
 | .lst _ (.gl l)=>l.map .g
 | .lst _ (.ol l)=>l
 | .lst _ _=>[]
 | .vals l=>l
noncomputable def Src.still (st:St):Src->Prop
 | .lst i o=>st.get i=some o
 | .vals _=>True
noncomputable def J0 (a:Int) (n:Nat):List AV:=(List.range n).map fun k:Nat=>.i (a+(k:Int))
noncomputable def rangeDown (a:Int) (n:Nat):List AV:=(List.range n).map fun k:Nat=>.i (a - (k:Int))
noncomputable def srcOf (st:St) (v:AV) (Q:Src->Prop):Prop:=match v with
 | .obj i=>match st.get i with
  | some (.gl l)=>Q (.lst i (.gl l))
  | some (.ol l)=>Q (.lst i (.ol l))
  | _=>False
 | .g (.str s)=>chk (Nat.ble s.length 1000000) (Q (.vals (s.map fun c=>.s [c])))
 | _=>False
noncomputable def Src.go (st:St) (s:Src) (k:Prop):Prop:=match s with
 | .lst i o=>st.get i=some o/\k
 | .vals _=>k
theorem Src.go_e {st:St} {s:Src} {k:Prop} (h:s.go st k):s.still st/\k:=by
 cases s with
 | lst i o=>exact h
 | vals l=>exact ⟨trivial,h⟩
noncomputable def kpVs (k:A2):A2->A2
 | []=>[]
 | (x,v)::r=>match B2 x k with
  | some _=>(x,v)::kpVs k r
  | none=>kpVs k r
noncomputable def H4 (src:Src) (x:Nat) (cut:Bool) (n:Nat) (body:A2->St->(A2->St->Prop)->Prop) (N:A2->St->Prop):List AV->A2->St->Prop
 | [],vs,st=>N vs st
 | v::r,vs,st=>body (put x v vs) st fun vs' st'=>src.go st' (match cut with
  | true=>H4 src x cut n body N r (E1 n (kpVs vs vs')) (st'.cut n)
  | false=>H4 src x cut n body N r (kpVs vs vs') st')
noncomputable def J6 (src:Src) (x:Nat) (cut:Bool) (n:Nat) (vs:A2) (elt:A2->St->(Option AV->St->Prop)->Prop) (k:List AV->St->Prop):List AV->List AV->St->Prop
 | [],acc,st=>k acc st
 | v::r,acc,st=>elt (put x v vs) st fun w st'=>src.go st' (match cut with
  | true=>J6 src x cut n vs elt k r (match w with | some w=>acc++[w.cut n] | none=>acc) (st'.cut n)
  | false=>J6 src x cut n vs elt k r (match w with | some w=>acc++[w] | none=>acc) st')
noncomputable def WhileN (n:Nat) (test:A2->St->(Bool->St->Prop)->Prop) (body:A2->St->(A2->St->Prop)->Prop) (N:A2->St->Prop):Nat->A2->St->Prop
 | 0,_,_=>False
 | f+1,vs,st=>test vs st fun b st'=>cond b
  (body vs st' fun vs' st''=>WhileN n test body N f (E1 n (kpVs vs vs')) (st''.cut n))
  (N vs st')
noncomputable abbrev A7:=Nat->List AV->St->(AV->St->Prop)->(St->Prop)->Prop
noncomputable def inS (x:List Nat) (l:List GV) (Q:Bool->Prop):Prop:=match I3 l with
 | some ys=>Q (ys.any fun y=>F0 y x)
 | none=>False
noncomputable def inV (a b:AV) (st:St) (Q:Bool->Prop):Prop:=strV a fun x=>match b with
 | .g (.tup l)=>inS x l Q
 | .obj i=>glO (st.get i) fun l=>inS x l Q
 | _=>False
noncomputable def isInstV (t:Ty) (v:AV) (Q:Bool->Prop):Prop:=match t with
 | .int=>intV v fun Z=>Q true
 | .bool=>intV v fun Z=>Q false
 | .tuple=>tupV v fun Z=>Q true
 | .str=>strV v fun Z=>Q true
noncomputable def joinG:List GV->Option (List Nat)
 | []=>some []
 | .str s::r=>match joinG r with | some t=>some (s++t) | none=>none
 | _::_=>none
noncomputable def ixV (x:List Nat) (l:List GV) (Q:AV->Prop):Prop:=match idxStrs x l with
 | some k=>chk (Nat.blt k 1000) (Q (.i k))
 | none=>False
noncomputable def oneS (l:List Nat) (k:Nat->Prop):Prop:=match l with
 | [x]=>k x
 | _=>False
noncomputable def bmeth (m:Nat) (i:Nat) (o:AO) (args:List AV) (st:St) (Q:AV->St->Prop):Prop:=match o with
 | .gl l=>match m with
  | 0=>arg1 args fun v=>match v with
   | .g w=>chk (Nat.ble (l.length+1) 1000000) (Q .no (st.set i (.gl (l++[w]))))
   | .obj j=>nilL l (Q .no (st.set i (.ol [.obj j])))
   | _=>False
  | 1=>arg0 args (∃ r w,(l=r++[w]/\r.length < 1000000)/\Q (.g w) (st.set i (.gl r)))
  | 2=>arg0 args (chk (Nat.ble (l.length+1) 1000000) (Q .no (st.set i (.gl l.reverse))))
  | 3=>arg1 args fun v=>strV v fun x=>ixV x l fun w=>Q w st
  | _=>False
 | .ol l=>match m with
  | 0=>arg1 args fun w=>chk (Nat.ble (l.length+1) 1000000) (Q .no (st.set i (.ol (l++[w]))))
  | _=>False
 | .di l=>match m with
  | 4=>arg2 args fun k d=>intV k fun k=>intV d fun d=>Q (.i ((E2 k l).getD d)) st
  | _=>False
 | .ds l=>match m with
  | 4=>arg1 args fun v=>strV v fun x=>Q (match lookDs x l with | some w=>w | none=>.no) st
  | _=>False
 | .inst _ _=>False
noncomputable def gmeth (m:Nat) (v:GV) (args:List AV) (st:St) (Q:AV->St->Prop):Prop:=match v with
 | .tup l=>match m with
  | 3=>arg1 args fun v=>strV v fun x=>ixV x l fun w=>Q w st
  | _=>False
 | .str s=>match m with
  | 5=>arg1 args fun v=>strV v fun x=>oneS x fun x=>Q (.bool (match s.getLast? with | some y=>y==x | none=>false)) st
  | 6=>arg1 args fun v=>objV v fun j=>match s with
   | []=>glO (st.get j) fun l=>ofO (joinG l) fun t=>chk (Nat.ble t.length 1000000) (Q (.s t) st)
   | _=>False
  | _=>False
 | _=>False
noncomputable def insInt (k:Int):List Int->List Int
 | []=>[k]
 | a::r=>if k<=a then k::a::r else a::insInt k r
noncomputable def K1:List Int->List Int
 | []=>[]
 | a::r=>insInt a (K1 r)
noncomputable def compEnd (ground:Bool) (Q:AV->St->Prop) (acc:List AV) (st:St):Prop:=match ground with
 | true=>ofO (J1 acc) fun l=>Q (.obj st.nx) (st.add (.gl l))
 | false=>Q (.obj st.nx) (st.add (.ol acc))
noncomputable def boolV (v:AV) (k:Bool->Prop):Prop:=match v with
 | .bool b=>k b
 | _=>False
noncomputable def isNoneV' (v:AV) (k:Bool->Prop):Prop:=match v with
 | .g .none=>k true | .g (.int _)=>k false | .g (.str _)=>k false | .g (.tup _)=>k false | .tup _=>k false | .obj _=>k false | _=>False
inductive Tgt where
 | fn (f:Nat) (i:Nat) | lst (i:Nat) | dct (i:Nat) | gv (v:GV)
noncomputable def noF (T:Tabs) (m c:Nat) (fs:A2) (k:Nat->Prop):Prop:=ofO (T.meth c m) fun f=>match B2 m fs with | none=>k f | some _=>False
noncomputable def resV (T:Tabs) (st:St) (m:Nat) (v:AV) (k:Tgt->Prop):Prop:=match v with
 | .obj i=>match st.get i with
  | some (.inst c fs)=>noF T m c fs fun f=>k (.fn f i)
  | some (.gl _)=>chk (Nat.ble m 3) (k (.lst i))
  | some (.ol _)=>chk (Nat.ble m 3) (k (.lst i))
  | some (.di _)=>chk (m==4) (k (.dct i))
  | some (.ds _)=>chk (m==4) (k (.dct i))
  | none=>False
 | .g (.tup l)=>chk (m==3) (k (.gv (.tup l)))
 | .g (.str l)=>chk (m==5||m==6) (k (.gv (.str l)))
 | _=>False
noncomputable def runV (cl:A7) (X:St->Prop) (m:Nat) (t:Tgt) (l:List AV) (st:St) (Q:AV->St->Prop):Prop:=match t with
 | .fn f i=>cl f (.obj i::l) st Q X
 | .lst i=>match st.get i with
  | some (.gl x)=>bmeth m i (.gl x) l st Q
  | some (.ol x)=>bmeth m i (.ol x) l st Q
  | _=>False
 | .dct i=>match st.get i with
  | some (.di x)=>bmeth m i (.di x) l st Q
  | some (.ds x)=>bmeth m i (.ds x) l st Q
  | _=>False
 | .gv v=>gmeth m v l st Q
noncomputable def newV (T:Tabs) (cl:A7) (X:St->Prop) (c:Nat) (l:List AV) (st:St) (Q:AV->St->Prop):Prop:=ofO (T.init c) fun f=>
 cl f (.obj st.nx::l) (st.add (.inst c [])) (fun v st'=>isNoneV' v fun b=>cond b (Q (.obj st.nx) st') False) X
noncomputable def seqL (o:Option AO) (k:Nat->Prop):Prop:=match o with
 | some (.gl l)=>k l.length
 | some (.ol l)=>k l.length
 | _=>False
noncomputable def lenV (v:AV) (st:St) (Q:AV->St->Prop):Prop:=match v with
 | .obj i=>seqL (st.get i) fun n=>chk (Nat.ble n 1000000) (Q (.i n) st)
 | .g (.tup l)=>chk (Nat.ble l.length 1000000) (Q (.i l.length) st)
 | .g (.str l)=>chk (Nat.ble l.length 1000000) (Q (.i l.length) st)
 | _=>False
noncomputable def ordV (v:AV) (k:Nat->Prop):Prop:=strV v fun l=>oneS l k
noncomputable def diO (o:Option AO) (k:List (Int × Int)->Prop):Prop:=match o with
 | some (.di l)=>k l
 | _=>False
noncomputable def dsO (o:Option AO) (k:List (List Nat × AV)->Prop):Prop:=match o with
 | some (.ds l)=>k l
 | _=>False
noncomputable def sortedV (v:AV) (st:St) (Q:AV->St->Prop):Prop:=objV v fun i=>diO (st.get i) fun l=>chk (Nat.ble (l.length+1) 64) (Q (.obj st.nx) (st.add (.gl ((K1 (l.map (·.1))).map .int))))
noncomputable def listOfV (v:AV) (st:St) (Q:AV->St->Prop):Prop:=objV v fun i=>glO (st.get i) fun l=>chk (Nat.ble l.length 1000000) (Q (.obj st.nx) (st.add (.gl l)))
noncomputable def dictOfV (v:AV) (st:St) (Q:AV->St->Prop):Prop:=objV v fun i=>dsO (st.get i) fun l=>chk (Nat.ble l.length 1000000) (Q (.obj st.nx) (st.add (.ds l)))
noncomputable def repV (v w:AV) (st:St) (Q:AV->St->Prop):Prop:=gvV v fun v=>intV w fun n=>chk (decide (0<=n/\n<=1000)) (Q (.obj st.nx) (st.add (.gl (List.replicate n.toNat v))))
noncomputable abbrev KQ:=AV->St->Prop
noncomputable abbrev KF:=St->KQ->Prop
noncomputable def kV (Q:KQ) (st:St):AV->Prop:=fun v=>Q v st
noncomputable def kB (Q:KQ) (st:St):Bool->Prop:=fun b=>Q (.bool b) st
noncomputable def kI (Q:KQ) (st:St):Int->Prop:=fun i=>Q (.i i) st
noncomputable def kThen (f:KF) (g:AV->KQ):KQ:=fun a st=>f st (g a)
noncomputable def kAttr (a:Nat) (Q:KQ):KQ:=fun v st=>getAttrV st v a (kV Q st)
noncomputable def kBin (op:Operator) (Q:KQ) (a:AV):KQ:=fun b st=>binop op a b (kV Q st)
noncomputable def kNegI (Q:KQ) (st:St):Int->Prop:=fun i=>Q (.i (-i)) st
noncomputable def kNeg (Q:KQ):KQ:=fun v st=>intV v (kNegI Q st)
noncomputable def kBk (k:Bool->St->Prop) (st:St):Bool->Prop:=fun b=>k b st
noncomputable def kBool (k:Bool->St->Prop):KQ:=fun c st=>boolV c (kBk k st)
noncomputable def kNotB (Q:KQ) (st:St):Bool->Prop:=fun b=>Q (.bool (!b)) st
noncomputable def kNot (Q:KQ):KQ:=fun v st=>boolV v (kNotB Q st)
noncomputable def kAndB (f:KF) (Q:KQ) (st:St):Bool->Prop:=fun b=>cond b (f st Q) (Q (.bool false) st)
noncomputable def kAnd (f:KF) (Q:KQ):KQ:=fun v st=>boolV v (kAndB f Q st)
noncomputable def kOrB (f:KF) (Q:KQ) (st:St):Bool->Prop:=fun b=>cond b (Q (.bool true) st) (f st Q)
noncomputable def kOr (f:KF) (Q:KQ):KQ:=fun v st=>boolV v (kOrB f Q st)
noncomputable def kCmp (op:Cm) (Q:KQ) (a:AV):KQ:=fun b st=>cmpop op st a b (kB Q st)
noncomputable def kOrd (op:Cm) (b:AV) (Q:KQ):KQ:=fun c st=>ordop op b c (kB Q st)
noncomputable def kCmp2B (op:Cm) (f:KF) (Q:KQ) (b:AV) (st:St):Bool->Prop:=fun t=>cond t (f st (kOrd op b Q)) (Q (.bool false) st)
noncomputable def kCmp2 (o1 o2:Cm) (f:KF) (Q:KQ) (a:AV):KQ:=fun b st=>ordop o1 a b (kCmp2B o2 f Q b st)
noncomputable def kIsN (Q:KQ):KQ:=fun v st=>isNoneV' v (kB Q st)
noncomputable def kNotN (Q:KQ):KQ:=fun v st=>isNoneV' v (kNotB Q st)
noncomputable def kIn (Q:KQ) (a:AV):KQ:=fun b st=>inV a b st (kB Q st)
noncomputable def kNotIn (Q:KQ) (a:AV):KQ:=fun b st=>inV a b st (kNotB Q st)
noncomputable def kIteB (f g:KF) (Q:KQ) (st:St):Bool->Prop:=fun t=>cond t (f st Q) (g st Q)
noncomputable def kIte (f g:KF) (Q:KQ):KQ:=fun c st=>boolV c (kIteB f g Q st)
noncomputable abbrev KL:=List AV->St->Prop
noncomputable def kCall (cl:A7) (X:St->Prop) (f:Nat) (Q:KQ):KL:=fun l st=>cl f l st Q X
noncomputable def kNew (T:Tabs) (cl:A7) (X:St->Prop) (c:Nat) (Q:KQ):KL:=fun l st=>newV T cl X c l st Q
noncomputable def kRun (cl:A7) (X:St->Prop) (m:Nat) (t:Tgt) (Q:KQ):KL:=fun l st=>runV cl X m t l st Q
noncomputable def kMethT (cl:A7) (X:St->Prop) (m:Nat) (f:St->KL->Prop) (Q:KQ) (st:St):Tgt->Prop:=fun t=>f st (kRun cl X m t Q)
noncomputable def kMeth (T:Tabs) (cl:A7) (X:St->Prop) (m:Nat) (f:St->KL->Prop) (Q:KQ):KQ:=fun v st=>resV T st m v (kMethT cl X m f Q st)
noncomputable def kLen (Q:KQ):KQ:=fun v st=>lenV v st Q
noncomputable def kChrI (Q:KQ) (st:St):Int->Prop:=fun i=>chk (decide (0<=i/\i<=1114111)) (Q (.s [i.toNat]) st)
noncomputable def kChr (Q:KQ):KQ:=fun v st=>intV v (kChrI Q st)
noncomputable def kOrdN (Q:KQ) (st:St):Nat->Prop:=fun c=>Q (.i c) st
noncomputable def kOrdV (Q:KQ):KQ:=fun v st=>ordV v (kOrdN Q st)
noncomputable def kSorted (Q:KQ):KQ:=fun v st=>sortedV v st Q
noncomputable def kListOf (Q:KQ):KQ:=fun v st=>listOfV v st Q
noncomputable def kDictOf (Q:KQ):KQ:=fun v st=>dictOfV v st Q
noncomputable def kInst (t:Ty) (Q:KQ):KQ:=fun v st=>isInstV t v (kB Q st)
noncomputable def kSub (Q:KQ) (a:AV):KQ:=fun b st=>subV st a b (kV Q st)
noncomputable def kSlc (up:Bool) (Q:KQ) (a:AV):KQ:=fun b st=>sliceV up st a b Q
noncomputable def kRep (Q:KQ) (v:AV):KQ:=fun w st=>repV v w st Q
noncomputable def kList (Q:KQ):KL:=fun l st=>Q (.obj st.nx) (st.add (mkList l))
noncomputable def kTup (Q:KQ):KL:=fun l st=>Q (mkTup l) st
noncomputable def kSome (k:Option AV->St->Prop):KQ:=fun v st=>k (some v) st
noncomputable abbrev KW:=A2->KF
noncomputable def kElt (f:KW):A2->St->(Option AV->St->Prop)->Prop:=fun vs st k=>f vs st (kSome k)
noncomputable def kIfT (f:KW) (vs:A2) (k:Option AV->St->Prop) (st:St):Bool->Prop:=fun t=>cond t (f vs st (kSome k)) (k none st)
noncomputable def kIfB (f:KW) (vs:A2) (k:Option AV->St->Prop):KQ:=fun b st=>boolV b (kIfT f vs k st)
noncomputable def kEltIf (c f:KW):A2->St->(Option AV->St->Prop)->Prop:=fun vs st k=>c vs st (kIfB f vs k)
noncomputable def kComp (cut ground:Bool) (x:Nat) (g:A2->St->(Option AV->St->Prop)->Prop) (vs:A2) (Q:KQ):Src->St->Prop:=fun src st=>chk (Nat.ble src.items.length 1000000) (J6 src x cut st.nx vs g (compEnd ground Q) src.items [] st)
noncomputable def kCons2 (v:AV) (Q:KL):KL:=fun l st=>Q (v::l) st
noncomputable def kCons1 (f:St->KL->Prop) (Q:KL):KQ:=fun v st=>f st (kCons2 v Q)
noncomputable abbrev KS:=Src->St->Prop
noncomputable def kS (Q:KS) (st:St):Src->Prop:=fun src=>Q src st
noncomputable def kR1I (Q:KS) (st:St):Int->Prop:=fun n=>chk (decide (-1000000<=n/\n<=1000000)) (Q (.vals (J0 0 n.toNat)) st)
noncomputable def kR1 (Q:KS):KQ:=fun v st=>intV v (kR1I Q st)
noncomputable def kR2 (Q:KS) (v:AV):KQ:=fun w st=>intV v fun a=>intV w fun n=>chk (decide (-1000000<=a/\a<=1000000/\-1000000<=n/\n<=1000000)) (Q (.vals (J0 a (n - a).toNat)) st)
noncomputable def kR3 (Q:KS) (v w:AV):KQ:=fun u st=>intV v fun a=>intV w fun n=>intV u fun m=>
   chk (decide (m=-1/\-1000000<=a/\a<=1000000/\-1000000<=n/\n<=1000000)) (Q (.vals (rangeDown a (a - n).toNat)) st)
noncomputable def kR3a (f:KF) (Q:KS) (v:AV):KQ:=kThen f (kR3 Q v)
noncomputable def kOver (Q:KS):KQ:=fun v st=>srcOf st v (kS Q st)
mutual
noncomputable def vcE (T:Tabs) (cl:A7) (X:St->Prop):ME->A2->St->(AV->St->Prop)->Prop
 | .none,_,st,Q=>Q .no st
 | .bool b,_,st,Q=>Q (.bool b) st
 | .int i,_,st,Q=>Q (.i i) st
 | .str l,_,st,Q=>Q (.s l) st
 | .var x,vs,st,Q=>ofO (B2 x vs) (kV Q st)
 | .gint x,_,st,Q=>ofO (T.glob x) (kI Q st)
 | .attr e a,vs,st,Q=>vcE T cl X e vs st (kAttr a Q)
 | .bin op l r,vs,st,Q=>vcE T cl X l vs st (kThen (vcE T cl X r vs) (kBin op Q))
 | .neg e,vs,st,Q=>vcE T cl X e vs st (kNeg Q)
 | .not e,vs,st,Q=>vcE T cl X e vs st (kNot Q)
 | .and l r,vs,st,Q=>vcE T cl X l vs st (kAnd (vcE T cl X r vs) Q)
 | .or l r,vs,st,Q=>vcE T cl X l vs st (kOr (vcE T cl X r vs) Q)
 | .cmp op l r,vs,st,Q=>vcE T cl X l vs st (kThen (vcE T cl X r vs) (kCmp op Q))
 | .cmp2 o1 o2 l m r,vs,st,Q=>vcE T cl X l vs st (kThen (vcE T cl X m vs) (kCmp2 o1 o2 (vcE T cl X r vs) Q))
 | .isNone e,vs,st,Q=>vcE T cl X e vs st (kIsN Q)
 | .notNone e,vs,st,Q=>vcE T cl X e vs st (kNotN Q)
 | .inn l r,vs,st,Q=>vcE T cl X l vs st (kThen (vcE T cl X r vs) (kIn Q))
 | .notIn l r,vs,st,Q=>vcE T cl X l vs st (kThen (vcE T cl X r vs) (kNotIn Q))
 | .ite t a b,vs,st,Q=>vcE T cl X t vs st (kIte (vcE T cl X a vs) (vcE T cl X b vs) Q)
 | .call f args,vs,st,Q=>vcEs T cl X args vs st (kCall cl X f Q)
 | .new c args,vs,st,Q=>vcEs T cl X args vs st (kNew T cl X c Q)
 | .meth o m args,vs,st,Q=>vcE T cl X o vs st (kMeth T cl X m (vcEs T cl X args vs) Q)
 | .len e,vs,st,Q=>vcE T cl X e vs st (kLen Q)
 | .chr e,vs,st,Q=>vcE T cl X e vs st (kChr Q)
 | .ord e,vs,st,Q=>vcE T cl X e vs st (kOrdV Q)
 | .sorted e,vs,st,Q=>vcE T cl X e vs st (kSorted Q)
 | .listOf e,vs,st,Q=>vcE T cl X e vs st (kListOf Q)
 | .dictOf e,vs,st,Q=>vcE T cl X e vs st (kDictOf Q)
 | .isinst e t,vs,st,Q=>vcE T cl X e vs st (kInst t Q)
 | .sub o i,vs,st,Q=>vcE T cl X o vs st (kThen (vcE T cl X i vs) (kSub Q))
 | .upto o i,vs,st,Q=>vcE T cl X o vs st (kThen (vcE T cl X i vs) (kSlc true Q))
 | .from_ o i,vs,st,Q=>vcE T cl X o vs st (kThen (vcE T cl X i vs) (kSlc false Q))
 | .rep e k,vs,st,Q=>vcE T cl X e vs st (kThen (vcE T cl X k vs) (kRep Q))
 | .list es,vs,st,Q=>vcEs T cl X es vs st (kList Q)
 | .tuple es,vs,st,Q=>vcEs T cl X es vs st (kTup Q)
 | .dict0,_,st,Q=>Q (.obj st.nx) (st.add (.di []))
 | .comp cut ground elt x it,vs,st,Q=>vcI T cl X it vs st (kComp cut ground x (kElt (vcE T cl (fun Z=>False) elt)) vs Q)
 | .compIf cut ground elt x it c,vs,st,Q=>vcI T cl X it vs st (kComp cut ground x (kEltIf (vcE T cl (fun Z=>False) c) (vcE T cl (fun Z=>False) elt)) vs Q)
noncomputable def vcEs (T:Tabs) (cl:A7) (X:St->Prop):MEs->A2->St->(List AV->St->Prop)->Prop
 | .nil,_,st,Q=>Q [] st
 | .cons e r,vs,st,Q=>vcE T cl X e vs st (kCons1 (vcEs T cl X r vs) Q)
noncomputable def vcI (T:Tabs) (cl:A7) (X:St->Prop):MI->A2->St->(Src->St->Prop)->Prop
 | .range1 a,vs,st,Q=>vcE T cl X a vs st (kR1 Q)
 | .range2 a b,vs,st,Q=>vcE T cl X a vs st (kThen (vcE T cl X b vs) (kR2 Q))
 | .range3 a b c,vs,st,Q=>vcE T cl X a vs st (kThen (vcE T cl X b vs) (kR3a (vcE T cl X c vs) Q))
 | .over e,vs,st,Q=>vcE T cl X e vs st (kOver Q)
end
noncomputable def unpackV (v:AV) (n:Nat) (st:St) (Q:List AV->Prop):Prop:=match v with
 | .g (.tup l)=>chk (l.length==n) (Q (l.map .g))
 | .tup l=>chk (l.length==n) (Q l)
 | _=>False
noncomputable def asgAll (T:Tabs):List (Nat ⊕ (Nat × Nat))->List AV->A2->St->(A2->St->Prop)->Prop
 | [],_,vs,st,N=>N vs st
 | .inl x::r,v::l,vs,st,N=>asgAll T r l (put x v vs) st N
 | .inr (x,a)::r,v::l,vs,st,N=>ofO (B2 x vs) fun o=>setAttrV T st o a v fun st=>asgAll T r l vs st N
 | _::_,[],_,_,_=>False
noncomputable abbrev KN:=A2->St->Prop
noncomputable def kTAttr (T:Tabs) (a:Nat) (v:AV) (N:St->Prop):KQ:=fun o st=>setAttrV T st o a v N
noncomputable def kTSub (v:AV) (N:St->Prop) (a:AV):KQ:=fun b st=>setSubV st a b v N
noncomputable def vcT (T:Tabs) (cl:A7) (X:St->Prop):MT->AV->A2->St->(A2->St->Prop)->Prop
 | .var x,v,vs,st,N=>N (put x v vs) st
 | .attr e a,v,vs,st,N=>vcE T cl X e vs st (kTAttr T a v (N vs))
 | .sub o i,v,vs,st,N=>vcE T cl X o vs st (kThen (vcE T cl X i vs) (kTSub v (N vs)))
 | .tup l,v,vs,st,N=>unpackV v l.length st fun ws=>asgAll T l ws vs st N
noncomputable def raiseV (c:Nat) (l:List AV) (k:Prop):Prop:=chk (c==70) (arg2 l fun Z Z=>k)
noncomputable def delV (a b:AV) (st:St) (k:St->Prop):Prop:=objV a fun i=>strV b fun x=>dsO (st.get i) fun l=>chk (decide (l.length < 1000000/\(lookDs x l).isSome=true)) (k (st.set i (.ds (delDs x l))))
noncomputable abbrev KX:=St->Prop
noncomputable abbrev KG:=A2->St->KN->KQ->KX->Prop
noncomputable def kExpr (N:St->Prop):KQ:=fun Z st=>N st
noncomputable def kAsg (f:AV->A2->St->KN->Prop) (vs:A2) (N:KN):KQ:=fun v st=>f v vs st N
noncomputable def kPut (x:Nat) (vs:A2) (N:KN) (st:St):AV->Prop:=fun w=>N (put x w vs) st
noncomputable def kAug2 (op:Operator) (x:Nat) (vs:A2) (N:KN) (a:AV):KQ:=fun b st=>binop op a b (kPut x vs N st)
noncomputable def kAug1 (f:KF) (op:Operator) (x:Nat) (vs:A2) (N:KN) (st:St):AV->Prop:=fun a=>f st (kAug2 op x vs N a)
noncomputable def kAugA3 (T:Tabs) (ov:AV) (a:Nat) (N:St->Prop) (st:St):AV->Prop:=fun w=>setAttrV T st ov a w N
noncomputable def kAugA2 (T:Tabs) (op:Operator) (ov:AV) (a:Nat) (N:St->Prop) (old:AV):KQ:=fun b st=>binop op old b (kAugA3 T ov a N st)
noncomputable def kAugA1 (T:Tabs) (f:KF) (op:Operator) (ov:AV) (a:Nat) (N:St->Prop) (st:St):AV->Prop:=fun old=>f st (kAugA2 T op ov a N old)
noncomputable def kAugA (T:Tabs) (f:KF) (op:Operator) (a:Nat) (N:St->Prop):KQ:=fun ov st=>getAttrV st ov a (kAugA1 T f op ov a N st)
noncomputable def kIfS (f g:KG) (vs:A2) (N:KN) (R:KQ) (X:KX) (st:St):Bool->Prop:=fun t=>cond t (f vs st N R X) (g vs st N R X)
noncomputable def kIf (f g:KG) (vs:A2) (N:KN) (R:KQ) (X:KX):KQ:=fun c st=>boolV c (kIfS f g vs N R X st)
noncomputable def kTest (f:KW):A2->St->(Bool->St->Prop)->Prop:=fun vs st k=>f vs st (kBool k)
noncomputable def E8 (g:KG) (R:KQ) (X:KX):A2->St->KN->Prop:=fun vs st k=>g vs st k R X
noncomputable def kFor (x:Nat) (cut:Bool) (g:KG) (N:KN) (R:KQ) (X:KX) (vs:A2):KS:=fun src st=>H4 src x cut st.nx (E8 g R X) N src.items vs st
noncomputable def kRaise (c:Nat) (X:KX):KL:=fun l st=>raiseV c l (X st)
noncomputable def kHand (g:KG) (N:KN) (R:KQ) (X:KX):KX:=fun st=>g [] st N R X
noncomputable def kDel (N:St->Prop) (a:AV):KQ:=fun b st=>delV a b st N
noncomputable def kSeq (g:KG) (N:KN) (R:KQ) (X:KX):KN:=fun vs st=>g vs st N R X
mutual
noncomputable def vcS (T:Tabs) (cl:A7):MS->A2->St->(A2->St->Prop)->(AV->St->Prop)->(St->Prop)->Prop
 | .expr e,vs,st,N,_,X=>vcE T cl X e vs st (kExpr (N vs))
 | .assign t e,vs,st,N,_,X=>vcE T cl X e vs st (kAsg (vcT T cl X t) vs N)
 | .augVar x op e,vs,st,N,_,X=>ofO (B2 x vs) (kAug1 (vcE T cl X e vs) op x vs N st)
 | .augAttr o a op e,vs,st,N,_,X=>vcE T cl X o vs st (kAugA T (vcE T cl X e vs) op a (N vs))
 | .ite t a b,vs,st,N,R,X=>vcE T cl X t vs st (kIf (B4 T cl a) (B4 T cl b) vs N R X)
 | .whil t b,vs,st,N,R,X=>∃ f,WhileN st.nx (kTest (vcE T cl X t)) (E8 (B4 T cl b) R X) N f vs st
 | .for_ cut x it b,vs,st,N,R,X=>vcI T cl X it vs st (kFor x cut (B4 T cl b) N R X vs)
 | .ret0,_,st,_,R,_=>R .no st
 | .ret e,vs,st,_,R,X=>vcE T cl X e vs st R
 | .raise c args,vs,st,_,_,X=>vcEs T cl X args vs st (kRaise c X)
 | .try_ b c n h,vs,st,N,R,X=>cond (c==70)
  (cond n.isNone (B4 T cl b vs st N R (kHand (B4 T cl h) N R X)) False)
  (B4 T cl b vs st N R fun Z=>False)
 | .del o i,vs,st,N,_,X=>vcE T cl X o vs st (kThen (vcE T cl X i vs) (kDel (N vs)))
noncomputable def B4 (T:Tabs) (cl:A7):MSs->A2->St->(A2->St->Prop)->(AV->St->Prop)->(St->Prop)->Prop
 | .nil,vs,st,N,_,_=>N vs st
 | .cons s r,vs,st,N,R,X=>vcS T cl s vs st (kSeq (B4 T cl r) N R X) R X
end
structure Fn where
 pars:List Nat
 body:MSs
noncomputable def bindV:List Nat->List AV->Option A2
 | [],[]=>some []
 | x::r,v::l=>match bindV r l with | some vs=>some ((x,v)::vs) | none=>none
 | _,_=>none
noncomputable def lastNone (f:Nat):Bool:=f==519
noncomputable def inl (T:Tabs) (fn:Nat->Option Fn) (cl:A7):A7:=fun f args st Q X=>match fn f with
 | some F=>match bindV F.pars (cond (lastNone f) (args++[.no]) args) with
  | some vs=>B4 T cl F.body vs st (fun Z st=>Q .no st) Q X
  | none=>False
 | none=>False
theorem byG {T:Prop} (f:∀ G:Prop,(T->G)->G):T:=f T id
theorem iteG {c:Prop} [Decidable c] {A B:Prop} (h:c->A) (k:¬ c->B):if c then A else B:=by
 by_cases q:c
 ·rw [if_pos q]; exact h q
 ·rw [if_neg q]; exact k q
theorem iteB {b:Bool} {α:Sort u} (m:α->Prop) {x y:α} (h:b=true->m x) (k:b=false->m y):m (if b=true then x else y):=by
 cases b with
 | true=>exact h rfl
 | false=>exact k rfl
theorem iteT {b:Bool} {A B:Prop} (h:if b=true then A else B) (q:b=true):A:=by subst q; exact h
theorem iteF {b:Bool} {A B:Prop} (h:if b=true then A else B) (q:¬ b=true):B:=by rw [if_neg q] at h; exact h
section
variable {a b c k l n:Nat}
theorem zq (h:a=b):a<=b:=Nat.le_of_eq h
theorem zqs (h:a=b):b<=a:=Nat.le_of_eq h.symm
theorem zsu (h:a=b+1):b < a:=Nat.le_of_eq h.symm
theorem zll (h:a<=b) (q:b<=c):a<=c:=Nat.le_trans h q
theorem ztl (h:a < b) (q:b<=c):a < c:=Nat.lt_of_lt_of_le h q
theorem zlt (h:a<=b) (q:b < c):a < c:=Nat.lt_of_le_of_lt h q
theorem ztt (h:a < b) (q:b < c):a < c:=Nat.lt_trans h q
theorem zg {i j:Nat} (h:a+i<=b+j) (q:b+k<=c+l):a+(i+k)<=c+(j+l):=by omega
theorem zgw {i j:Nat} (h:a+i<=b+j) (q:Nat.ble (k+j) (i+l)=true):a+k<=b+l:=by have:=Nat.le_of_ble_eq_true q; omega
theorem zle (h:a < b):a<=b:=Nat.le_of_lt h
theorem zup (h:k<=n) (q:Nat.ble l k=true):l<=n:=Nat.le_trans (Nat.le_of_ble_eq_true q) h
end
noncomputable def nmL:List Str:=[("append" : Str),("pop" : Str),("reverse" : Str),("index" : Str),("get" : Str),("endswith" : Str),("join" : Str),("self" : Str),("what" : Str),("at" : Str),("__init__" : Str),("out" : Str),("value" : Str),("byte" : Str),("rest" : Str),("n" : Str),("number" : Str),("s" : Str),("char" : Str),("text" : Str),("row" : Str),("numbers" : Str),("data" : Str),("fail" : Str),("done" : Str),("total" : Str),("weight" : Str),("group" : Str),("count" : Str),("letters" : Str),("place" : Str),("code" : Str),("MOST_CODE" : Str),("low" : Str),("high" : Str),("name" : Str),("a" : Str),("b" : Str),("c" : Str),("cond" : Str),("last" : Str),("fields" : Str),("word" : Str),("fault" : Str),("bits" : Str),("op" : Str),("upper" : Str),("im" : Str),("linked" : Str),("machine" : Str),("loaded" : Str),("code_base" : Str),("object" : Str),("rows" : Str),("size" : Str),("memory" : Str),("start" : Str),("limit" : Str),("free" : Str),("LISTS" : Str),("put_free" : Str),("put_word" : Str),("block" : Str),("result" : Str),("v" : Str),("h" : Str),("x" : Str),("y" : Str),("MASK" : Str),("names" : Str),("z" : Str),("flags" : Str),("truths" : Str),("regs" : Str),("pc" : Str),("transfer" : Str),("WORD_cpu" : Str),("trap" : Str),("branch" : Str),("set_result" : Str),("calculate" : Str),("step" : Str),("register" : Str),("address" : Str),("put_byte" : Str),("target" : Str),("LINK" : Str),("right" : Str),("found" : Str),("words" : Str),("WORD_memory" : Str),("GRAIN_machine" : Str),("data_top" : Str),("DATA_START" : Str),("data_limit" : Str),("data_bytes" : Str),("heap_limit" : Str),("heap_bytes" : Str),("stack_low" : Str),("stack_bytes" : Str),("heap" : Str),("cpu" : Str),("COMMAND_END" : Str),("given" : Str),("steps" : Str),("base" : Str),("add_rows" : Str),("add_data" : Str),("SP_machine" : Str),("prepare" : Str),("kernel" : Str),("running_module" : Str),("call" : Str),("key" : Str),("data_base" : Str),("clients" : Str),("CHECK_PRIME" : Str),("writer" : Str),("places" : Str),("client" : Str),("check" : Str),("CHECK_BYTES" : Str),("_" : Str),("end" : Str),("sizes" : Str),("reader" : Str),("objects" : Str),("kept" : Str),("made" : Str),("imports" : Str),("data_size" : Str),("data_fixups" : Str),("fixups" : Str),("entries" : Str),("pointers" : Str),("maps" : Str),("commands" : Str),("body" : Str),("script" : Str),("cell" : Str),("figure" : Str),("lap" : Str),("draw" : Str),("reg" : Str),("many" : Str),("held" : Str),("mods" : Str),("one" : Str),("area" : Str),("bytes_told" : Str),("bottom" : Str),("other" : Str),("spoiled" : Str),("fewer" : Str),("strange" : Str)]
noncomputable def b_FormatError___init:MSs:=(.cons (.assign (.attr (.var 7) 8) (.var 8)) (.cons (.assign (.attr (.var 7) 9) (.var 9)) .nil))
noncomputable def b_ByteWriter___init:MSs:=(.cons (.assign (.attr (.var 7) 11) (.list .nil)) .nil)
noncomputable def b_ByteWriter_byte:MSs:=(.cons (.expr (.meth (.attr (.var 7) 11) 0 (.cons (.var 12) .nil))) .nil)
noncomputable def wt_ByteWriter_number_0:ME:=(.cmp .gt (.var 14) (.int 127))
noncomputable def wb_ByteWriter_number_0:MSs:=(.cons (.expr (.meth (.attr (.var 7) 11) 0 (.cons (.bin .Add (.int 128) (.bin .Mod (.var 14) (.int 128))) .nil))) (.cons (.assign (.var 14) (.bin .FloorDiv (.var 14) (.int 128))) .nil))
noncomputable def b_ByteWriter_number:MSs:=(.cons (.assign (.var 14) (.ite (.cmp .ge (.var 15) (.int 0)) (.bin .Mult (.int 2) (.var 15)) (.bin .Sub (.bin .Mult (.neg (.int 2)) (.var 15)) (.int 1)))) (.cons (.whil wt_ByteWriter_number_0 wb_ByteWriter_number_0) (.cons (.expr (.meth (.attr (.var 7) 11) 0 (.cons (.var 14) .nil))) .nil)))
noncomputable def fb_ByteWriter_text_0:MSs:=(.cons (.expr (.meth (.var 7) 16 (.cons (.ord (.var 18)) .nil))) .nil)
noncomputable def b_ByteWriter_text:MSs:=(.cons (.expr (.meth (.var 7) 16 (.cons (.len (.var 17)) .nil))) (.cons (.for_ true 18 (.over (.var 17)) fb_ByteWriter_text_0) .nil))
noncomputable def fb_ByteWriter_numbers_0:MSs:=(.cons (.expr (.meth (.var 7) 16 (.cons (.var 15) .nil))) .nil)
noncomputable def b_ByteWriter_numbers:MSs:=(.cons (.expr (.meth (.var 7) 16 (.cons (.len (.var 20)) .nil))) (.cons (.for_ true 15 (.over (.var 20)) fb_ByteWriter_numbers_0) .nil))
noncomputable def b_ByteReader___init:MSs:=(.cons (.assign (.attr (.var 7) 22) (.var 22)) (.cons (.assign (.attr (.var 7) 9) (.int 0)) .nil))
noncomputable def b_ByteReader_fail:MSs:=(.cons (.raise 70 (.cons (.var 8) (.cons (.attr (.var 7) 9) .nil))) .nil)
noncomputable def b_ByteReader_done:MSs:=(.cons (.ret (.cmp .ge (.attr (.var 7) 9) (.len (.attr (.var 7) 22)))) .nil)
noncomputable def b_ByteReader_byte:MSs:=(.cons (.ite (.meth (.var 7) 24 .nil) (.cons (.expr (.meth (.var 7) 23 (.cons (.str [99,117,116,95,111,102,102]) .nil))) .nil) .nil) (.cons (.assign (.var 12) (.sub (.attr (.var 7) 22) (.attr (.var 7) 9))) (.cons (.ite (.or (.cmp .lt (.var 12) (.int 0)) (.cmp .gt (.var 12) (.int 255))) (.cons (.expr (.meth (.var 7) 23 (.cons (.str [98,97,100,95,98,121,116,101]) .nil))) .nil) .nil) (.cons (.augAttr (.var 7) 9 .Add (.int 1)) (.cons (.ret (.var 12)) .nil)))))
noncomputable def wt_ByteReader_number_0:ME:=(.cmp .gt (.var 27) (.int 127))
noncomputable def wb_ByteReader_number_0:MSs:=(.cons (.augVar 25 .Add (.bin .Mult (.bin .Sub (.var 27) (.int 128)) (.var 26))) (.cons (.assign (.var 26) (.bin .Mult (.var 26) (.int 128))) (.cons (.assign (.var 27) (.meth (.var 7) 13 .nil)) .nil)))
noncomputable def b_ByteReader_number:MSs:=(.cons (.assign (.var 25) (.int 0)) (.cons (.assign (.var 26) (.int 1)) (.cons (.assign (.var 27) (.meth (.var 7) 13 .nil)) (.cons (.whil wt_ByteReader_number_0 wb_ByteReader_number_0) (.cons (.ite (.and (.cmp .eq (.var 27) (.int 0)) (.cmp .gt (.var 26) (.int 1))) (.cons (.expr (.meth (.var 7) 23 (.cons (.str [108,111,110,103,95,110,117,109,98,101,114]) .nil))) .nil) .nil) (.cons (.augVar 25 .Add (.bin .Mult (.var 27) (.var 26))) (.cons (.ite (.cmp .eq (.bin .Mod (.var 25) (.int 2)) (.int 1)) (.cons (.ret (.bin .FloorDiv (.neg (.bin .Add (.var 25) (.int 1))) (.int 2))) .nil) .nil) (.cons (.ret (.bin .FloorDiv (.var 25) (.int 2))) .nil))))))))
noncomputable def b_ByteReader_count:MSs:=(.cons (.assign (.var 15) (.meth (.var 7) 16 .nil)) (.cons (.ite (.or (.cmp .lt (.var 15) (.int 0)) (.cmp .gt (.var 15) (.bin .Sub (.len (.attr (.var 7) 22)) (.attr (.var 7) 9)))) (.cons (.expr (.meth (.var 7) 23 (.cons (.str [98,97,100,95,99,111,117,110,116]) .nil))) .nil) .nil) (.cons (.ret (.var 15)) .nil)))
noncomputable def fb_ByteReader_text_0:MSs:=(.cons (.assign (.var 31) (.meth (.var 7) 16 .nil)) (.cons (.ite (.or (.cmp .lt (.var 31) (.int 0)) (.cmp .gt (.var 31) (.gint 32))) (.cons (.expr (.meth (.var 7) 23 (.cons (.str [98,97,100,95,99,104,97,114]) .nil))) .nil) .nil) (.cons (.expr (.meth (.var 29) 0 (.cons (.chr (.var 31)) .nil))) .nil)))
noncomputable def b_ByteReader_text:MSs:=(.cons (.assign (.var 29) (.list .nil)) (.cons (.for_ true 30 (.range1 (.meth (.var 7) 28 .nil)) fb_ByteReader_text_0) (.cons (.ret (.meth (.str []) 6 (.cons (.var 29) .nil))) .nil)))
noncomputable def ce_ByteReader_numbers_0:ME:=(.meth (.var 7) 16 .nil)
noncomputable def b_ByteReader_numbers:MSs:=(.cons (.ret (.comp true true ce_ByteReader_numbers_0 30 (.range1 (.meth (.var 7) 28 .nil)))) .nil)
noncomputable def b_conditions:MSs:=(.cons (.ret (.list (.cons (.str [77,73]) (.cons (.str [69,81]) (.cons (.str [67,83]) (.cons (.str [86,83]) (.cons (.str [76,83]) (.cons (.str [76,84]) (.cons (.str [76,69]) (.cons (.str [65,76]) (.cons (.str [80,76]) (.cons (.str [78,69]) (.cons (.str [67,67]) (.cons (.str [86,67]) (.cons (.str [72,73]) (.cons (.str [71,69]) (.cons (.str [71,84]) (.cons (.str [78,86]) .nil)))))))))))))))))) .nil)
noncomputable def b_operations:MSs:=(.cons (.ret (.list (.cons (.str [77,79,86]) (.cons (.str [76,83,76]) (.cons (.str [65,83,82]) (.cons (.str [82,79,82]) (.cons (.str [65,78,68]) (.cons (.str [65,78,78]) (.cons (.str [73,79,82]) (.cons (.str [88,79,82]) (.cons (.str [65,68,68]) (.cons (.str [83,85,66]) (.cons (.str [77,85,76]) (.cons (.str [68,73,86]) .nil)))))))))))))) .nil)
noncomputable def b_memory_names:MSs:=(.cons (.ret (.list (.cons (.str [76,68,82]) (.cons (.str [76,68,66]) (.cons (.str [83,84,82]) (.cons (.str [83,84,66]) .nil)))))) .nil)
noncomputable def b_is_whole:MSs:=(.cons (.ret (.and (.isinst (.var 12) .int) (.and (.not (.isinst (.var 12) .bool)) (.and (.cmp .le (.var 33) (.var 12)) (.cmp .le (.var 12) (.var 34)))))) .nil)
noncomputable def b_is_register:MSs:=(.cons (.ret (.call 236 (.cons (.var 12) (.cons (.int 0) (.cons (.int 15) .nil))))) .nil)
noncomputable def b_immediate_operation:MSs:=(.cons (.ite (.and (.meth (.var 35) 5 (.cons (.str [73]) .nil)) (.inn (.upto (.var 35) (.neg (.int 1))) (.call 222 .nil))) (.cons (.ret (.upto (.var 35) (.neg (.int 1)))) .nil) .nil) (.cons (.ret (.str [])) .nil))
noncomputable def b_operation_fault:MSs:=(.cons (.assign (.tup [.inl 35,.inl 36,.inl 37,.inl 38]) (.var 20)) (.cons (.ite (.or (.not (.call 243 (.cons (.var 36) .nil))) (.not (.call 243 (.cons (.var 37) .nil)))) (.cons (.ret (.str [98,97,100,32,114,101,103,105,115,116,101,114])) .nil) .nil) (.cons (.ite (.and (.inn (.var 35) (.tuple (.cons (.str [77,79,86]) (.cons (.str [77,79,86,73]) (.cons (.str [77,79,86,72]) (.cons (.str [71,69,84,72]) .nil)))))) (.cmp .ne (.var 37) (.int 0))) (.cons (.ret (.str [98,97,100,32,114,101,103,105,115,116,101,114])) .nil) .nil) (.cons (.ite (.cmp .eq (.var 35) (.str [71,69,84,72])) (.cons (.ret (.ite (.call 236 (.cons (.var 38) (.cons (.int 0) (.cons (.int 0) .nil)))) (.str []) (.str [98,97,100,32,111,112,101,114,97,110,100]))) .nil) .nil) (.cons (.ite (.cmp .eq (.var 35) (.str [77,79,86,72])) (.cons (.ret (.ite (.call 236 (.cons (.var 38) (.cons (.int 0) (.cons (.int 65535) .nil)))) (.str []) (.str [98,97,100,32,105,109,109,101,100,105,97,116,101]))) .nil) .nil) (.cons (.ite (.inn (.var 35) (.call 222 .nil)) (.cons (.ret (.ite (.call 243 (.cons (.var 38) .nil)) (.str []) (.str [98,97,100,32,114,101,103,105,115,116,101,114]))) .nil) .nil) (.cons (.ret (.ite (.call 236 (.cons (.var 38) (.cons (.neg (.int 65536)) (.cons (.int 65535) .nil)))) (.str []) (.str [98,97,100,32,105,109,109,101,100,105,97,116,101]))) .nil)))))))
noncomputable def b_memory_fault:MSs:=(.cons (.ite (.or (.not (.call 243 (.cons (.sub (.var 20) (.int 1)) .nil))) (.not (.call 243 (.cons (.sub (.var 20) (.int 2)) .nil)))) (.cons (.ret (.str [98,97,100,32,114,101,103,105,115,116,101,114])) .nil) .nil) (.cons (.ret (.ite (.call 236 (.cons (.sub (.var 20) (.int 3)) (.cons (.neg (.int 524288)) (.cons (.int 524287) .nil)))) (.str []) (.str [98,97,100,32,111,102,102,115,101,116]))) .nil))
noncomputable def b_branch_fault:MSs:=(.cons (.assign (.tup [.inl 35,.inl 39,.inl 38,.inl 40]) (.var 20)) (.cons (.ite (.notIn (.var 39) (.call 215 .nil)) (.cons (.ret (.str [98,97,100,32,99,111,110,100,105,116,105,111,110])) .nil) .nil) (.cons (.ite (.cmp .eq (.var 35) (.str [84,82,65,80])) (.cons (.ite (.not (.call 236 (.cons (.var 38) (.cons (.int 0) (.cons (.int 15) .nil))))) (.cons (.ret (.str [98,97,100,32,116,114,97,112])) .nil) .nil) (.cons (.ret (.ite (.call 236 (.cons (.var 40) (.cons (.int 0) (.cons (.int 65535) .nil)))) (.str []) (.str [98,97,100,32,112,108,97,99,101]))) .nil)) .nil) (.cons (.ite (.not (.call 236 (.cons (.var 40) (.cons (.int 0) (.cons (.int 0) .nil))))) (.cons (.ret (.str [98,97,100,32,111,112,101,114,97,110,100])) .nil) .nil) (.cons (.ite (.or (.cmp .eq (.var 35) (.str [66])) (.cmp .eq (.var 35) (.str [66,76]))) (.cons (.ret (.ite (.call 236 (.cons (.var 38) (.cons (.neg (.int 8388608)) (.cons (.int 8388607) .nil)))) (.str []) (.str [98,97,100,32,111,102,102,115,101,116]))) .nil) .nil) (.cons (.ite (.or (.not (.call 243 (.cons (.var 38) .nil))) (.and (.cmp .eq (.var 35) (.str [66,76,82])) (.cmp .eq (.var 38) (.int 12)))) (.cons (.ret (.str [98,97,100,32,114,101,103,105,115,116,101,114])) .nil) .nil) (.cons (.ret (.str [])) .nil)))))))
noncomputable def b_row_fault:MSs:=(.cons (.ite (.or (.not (.isinst (.var 20) .tuple)) (.or (.cmp .ne (.len (.var 20)) (.int 4)) (.not (.isinst (.sub (.var 20) (.int 0)) .str)))) (.cons (.ret (.str [98,97,100,32,115,104,97,112,101])) .nil) .nil) (.cons (.assign (.var 35) (.sub (.var 20) (.int 0))) (.cons (.ite (.or (.inn (.var 35) (.tuple (.cons (.str [77,79,86,72]) (.cons (.str [71,69,84,72]) .nil)))) (.or (.inn (.var 35) (.call 222 .nil)) (.cmp .ne (.call 250 (.cons (.var 35) .nil)) (.str [])))) (.cons (.ret (.call 257 (.cons (.var 20) .nil))) .nil) .nil) (.cons (.ite (.inn (.var 35) (.call 229 .nil)) (.cons (.ret (.call 264 (.cons (.var 20) .nil))) .nil) .nil) (.cons (.ite (.inn (.var 35) (.tuple (.cons (.str [66]) (.cons (.str [66,76]) (.cons (.str [66,82]) (.cons (.str [66,76,82]) (.cons (.str [84,82,65,80]) .nil))))))) (.cons (.ret (.call 271 (.cons (.var 20) .nil))) .nil) .nil) (.cons (.ret (.str [117,110,107,110,111,119,110,32,110,97,109,101])) .nil))))))
noncomputable def b_operation_word:MSs:=(.cons (.assign (.tup [.inl 35,.inl 36,.inl 37,.inl 38]) (.var 20)) (.cons (.assign (.var 41) (.bin .Add (.bin .Mult (.var 36) (.int 16777216)) (.bin .Mult (.var 37) (.int 1048576)))) (.cons (.ite (.cmp .eq (.var 35) (.str [71,69,84,72])) (.cons (.ret (.bin .Add (.int 536870912) (.var 41))) .nil) .nil) (.cons (.ite (.cmp .eq (.var 35) (.str [77,79,86,72])) (.cons (.ret (.bin .Add (.bin .Add (.int 1610612736) (.var 41)) (.var 38))) .nil) .nil) (.cons (.ite (.inn (.var 35) (.call 222 .nil)) (.cons (.ret (.bin .Add (.bin .Add (.var 41) (.bin .Mult (.meth (.call 222 .nil) 3 (.cons (.var 35) .nil)) (.int 65536))) (.var 38))) .nil) .nil) (.cons (.augVar 41 .Add (.bin .Mult (.meth (.call 222 .nil) 3 (.cons (.upto (.var 35) (.neg (.int 1))) .nil)) (.int 65536))) (.cons (.ite (.cmp .lt (.var 38) (.int 0)) (.cons (.ret (.bin .Add (.bin .Add (.bin .Add (.int 1342177280) (.var 41)) (.var 38)) (.int 65536))) .nil) .nil) (.cons (.ret (.bin .Add (.bin .Add (.int 1073741824) (.var 41)) (.var 38))) .nil))))))))
noncomputable def b_branch_word:MSs:=(.cons (.assign (.tup [.inl 35,.inl 39,.inl 38,.inl 40]) (.var 20)) (.cons (.assign (.var 42) (.bin .Add (.int 3221225472) (.bin .Mult (.meth (.call 215 .nil) 3 (.cons (.var 39) .nil)) (.int 16777216)))) (.cons (.ite (.cmp .eq (.var 35) (.str [84,82,65,80])) (.cons (.ret (.bin .Add (.bin .Add (.bin .Add (.bin .Add (.var 42) (.int 268435456)) (.bin .Mult (.var 40) (.int 256))) (.bin .Mult (.var 38) (.int 16))) (.int 12))) .nil) .nil) (.cons (.ite (.or (.cmp .eq (.var 35) (.str [66,76])) (.cmp .eq (.var 35) (.str [66,76,82]))) (.cons (.augVar 42 .Add (.int 268435456)) .nil) .nil) (.cons (.ite (.or (.cmp .eq (.var 35) (.str [66])) (.cmp .eq (.var 35) (.str [66,76]))) (.cons (.ret (.bin .Add (.bin .Add (.var 42) (.int 536870912)) (.bin .Mod (.var 38) (.int 16777216)))) .nil) .nil) (.cons (.ret (.bin .Add (.var 42) (.var 38))) .nil))))))
noncomputable def b_encode:MSs:=(.cons (.assign (.var 43) (.call 278 (.cons (.var 20) .nil))) (.cons (.ite (.cmp .ne (.var 43) (.str [])) (.cons (.raise 89 (.cons (.var 43) .nil)) .nil) .nil) (.cons (.assign (.var 35) (.sub (.var 20) (.int 0))) (.cons (.ite (.inn (.var 35) (.call 229 .nil)) (.cons (.assign (.var 42) (.bin .Add (.int 2147483648) (.bin .Mult (.meth (.call 229 .nil) 3 (.cons (.var 35) .nil)) (.int 268435456)))) (.cons (.ret (.bin .Add (.bin .Add (.bin .Add (.var 42) (.bin .Mult (.sub (.var 20) (.int 1)) (.int 16777216))) (.bin .Mult (.sub (.var 20) (.int 2)) (.int 1048576))) (.bin .Mod (.sub (.var 20) (.int 3)) (.int 1048576)))) .nil)) .nil) (.cons (.ite (.inn (.var 35) (.tuple (.cons (.str [66]) (.cons (.str [66,76]) (.cons (.str [66,82]) (.cons (.str [66,76,82]) (.cons (.str [84,82,65,80]) .nil))))))) (.cons (.ret (.call 292 (.cons (.var 20) .nil))) .nil) .nil) (.cons (.ret (.call 285 (.cons (.var 20) .nil))) .nil))))))
noncomputable def b_signed:MSs:=(.cons (.ite (.cmp .ge (.var 12) (.bin .LShift (.int 1) (.bin .Sub (.var 44) (.int 1)))) (.cons (.ret (.bin .Sub (.var 12) (.bin .LShift (.int 1) (.var 44)))) .nil) .nil) (.cons (.ret (.var 12)) .nil))
noncomputable def b_operation_row:MSs:=(.cons (.assign (.var 36) (.bin .Mod (.bin .FloorDiv (.var 42) (.int 16777216)) (.int 16))) (.cons (.assign (.var 37) (.bin .Mod (.bin .FloorDiv (.var 42) (.int 1048576)) (.int 16))) (.cons (.assign (.var 45) (.bin .Mod (.bin .FloorDiv (.var 42) (.int 65536)) (.int 16))) (.cons (.assign (.var 46) (.bin .Mod (.bin .FloorDiv (.var 42) (.int 536870912)) (.int 2))) (.cons (.ite (.cmp .ge (.var 45) (.len (.call 222 .nil))) (.cons (.raise 89 (.cons (.str [117,110,107,110,111,119,110,32,119,111,114,100]) .nil)) .nil) .nil) (.cons (.assign (.var 35) (.sub (.call 222 .nil) (.var 45))) (.cons (.ite (.cmp .lt (.var 42) (.int 1073741824)) (.cons (.ite (.and (.cmp .eq (.var 46) (.int 1)) (.cmp .eq (.var 35) (.str [77,79,86]))) (.cons (.ret (.tuple (.cons (.str [71,69,84,72]) (.cons (.var 36) (.cons (.var 37) (.cons (.int 0) .nil)))))) .nil) .nil) (.cons (.ret (.tuple (.cons (.var 35) (.cons (.var 36) (.cons (.var 37) (.cons (.bin .Mod (.var 42) (.int 16)) .nil)))))) .nil)) .nil) (.cons (.ite (.and (.cmp .eq (.var 46) (.int 1)) (.cmp .eq (.var 35) (.str [77,79,86]))) (.cons (.ret (.tuple (.cons (.str [77,79,86,72]) (.cons (.var 36) (.cons (.var 37) (.cons (.bin .Mod (.var 42) (.int 65536)) .nil)))))) .nil) .nil) (.cons (.assign (.var 47) (.bin .Mod (.var 42) (.int 65536))) (.cons (.ite (.cmp .eq (.bin .Mod (.bin .FloorDiv (.var 42) (.int 268435456)) (.int 2)) (.int 1)) (.cons (.augVar 47 .Sub (.int 65536)) .nil) .nil) (.cons (.ret (.tuple (.cons (.bin .Add (.var 35) (.str [73])) (.cons (.var 36) (.cons (.var 37) (.cons (.var 47) .nil)))))) .nil)))))))))))
noncomputable def b_branch_row:MSs:=(.cons (.assign (.var 39) (.sub (.call 215 .nil) (.bin .Mod (.bin .FloorDiv (.var 42) (.int 16777216)) (.int 16)))) (.cons (.assign (.var 48) (.cmp .eq (.bin .Mod (.bin .FloorDiv (.var 42) (.int 268435456)) (.int 2)) (.int 1))) (.cons (.ite (.cmp .eq (.bin .Mod (.bin .FloorDiv (.var 42) (.int 536870912)) (.int 2)) (.int 1)) (.cons (.ret (.tuple (.cons (.ite (.var 48) (.str [66,76]) (.str [66])) (.cons (.var 39) (.cons (.call 306 (.cons (.bin .Mod (.var 42) (.int 16777216)) (.cons (.int 24) .nil))) (.cons (.int 0) .nil)))))) .nil) .nil) (.cons (.ite (.and (.var 48) (.cmp .eq (.bin .Mod (.var 42) (.int 16)) (.int 12))) (.cons (.ret (.tuple (.cons (.str [84,82,65,80]) (.cons (.var 39) (.cons (.bin .Mod (.bin .FloorDiv (.var 42) (.int 16)) (.int 16)) (.cons (.bin .Mod (.bin .FloorDiv (.var 42) (.int 256)) (.int 65536)) .nil)))))) .nil) .nil) (.cons (.ret (.tuple (.cons (.ite (.var 48) (.str [66,76,82]) (.str [66,82])) (.cons (.var 39) (.cons (.bin .Mod (.var 42) (.int 16)) (.cons (.int 0) .nil)))))) .nil)))))
noncomputable def b_decode:MSs:=(.cons (.ite (.not (.call 236 (.cons (.var 42) (.cons (.int 0) (.cons (.int 4294967295) .nil))))) (.cons (.raise 89 (.cons (.str [98,97,100,32,119,111,114,100]) .nil)) .nil) .nil) (.cons (.ite (.cmp .ge (.var 42) (.int 3221225472)) (.cons (.assign (.var 20) (.call 320 (.cons (.var 42) .nil))) .nil) (.cons (.ite (.cmp .ge (.var 42) (.int 2147483648)) (.cons (.assign (.var 35) (.sub (.call 229 .nil) (.bin .Mod (.bin .FloorDiv (.var 42) (.int 268435456)) (.int 4)))) (.cons (.assign (.var 20) (.tuple (.cons (.var 35) (.cons (.bin .Mod (.bin .FloorDiv (.var 42) (.int 16777216)) (.int 16)) (.cons (.bin .Mod (.bin .FloorDiv (.var 42) (.int 1048576)) (.int 16)) (.cons (.call 306 (.cons (.bin .Mod (.var 42) (.int 1048576)) (.cons (.int 20) .nil))) .nil)))))) .nil)) (.cons (.assign (.var 20) (.call 313 (.cons (.var 42) .nil))) .nil)) .nil)) (.cons (.ite (.or (.cmp .ne (.call 278 (.cons (.var 20) .nil)) (.str [])) (.cmp .ne (.call 299 (.cons (.var 20) .nil)) (.var 42))) (.cons (.raise 89 (.cons (.str [117,110,107,110,111,119,110,32,119,111,114,100]) .nil)) .nil) .nil) (.cons (.ret (.var 20)) .nil))))
noncomputable def fb_module_at_0:MSs:=(.cons (.ite (.cmp2 .le .lt (.attr (.var 50) 51) (.var 20) (.bin .Add (.attr (.var 50) 51) (.len (.attr (.attr (.var 50) 52) 53)))) (.cons (.ret (.var 50)) .nil) .nil) .nil)
noncomputable def b_module_at:MSs:=(.cons (.for_ false 50 (.over (.attr (.var 49) 50)) fb_module_at_0) (.cons (.ret .none) .nil))
noncomputable def b_list_number:MSs:=(.cons (.ite (.cmp .lt (.var 54) (.int 32)) (.cons (.ret (.int 0)) .nil) .nil) (.cons (.ite (.cmp .lt (.var 54) (.int 64)) (.cons (.ret (.int 1)) .nil) .nil) (.cons (.ite (.cmp .lt (.var 54) (.int 128)) (.cons (.ret (.int 2)) .nil) .nil) (.cons (.ret (.int 3)) .nil))))
noncomputable def b_Heap___init:MSs:=(.cons (.assign (.attr (.var 7) 55) (.var 55)) (.cons (.assign (.attr (.var 7) 56) (.var 56)) (.cons (.assign (.attr (.var 7) 57) (.var 57)) (.cons (.assign (.attr (.var 7) 58) (.rep (.int 0) (.gint 59))) (.cons (.ite (.cmp .gt (.var 57) (.var 56)) (.cons (.expr (.meth (.var 7) 60 (.cons (.var 56) (.cons (.bin .Sub (.var 57) (.var 56)) .nil)))) .nil) .nil) .nil)))))
noncomputable def b_Heap_put_free:MSs:=(.cons (.assign (.var 16) (.call 397 (.cons (.var 54) .nil))) (.cons (.expr (.meth (.attr (.var 7) 55) 61 (.cons (.var 62) (.cons (.bin .Add (.var 54) (.int 1)) .nil)))) (.cons (.expr (.meth (.attr (.var 7) 55) 61 (.cons (.bin .Add (.var 62) (.int 4)) (.cons (.sub (.attr (.var 7) 58) (.var 16)) .nil)))) (.cons (.assign (.sub (.attr (.var 7) 58) (.var 16)) (.var 62)) .nil))))
noncomputable def b_flagged:MSs:=(.cons (.ret (.tuple (.cons (.var 63) (.cons (.bin .RShift (.var 63) (.int 31)) (.cons (.ite (.cmp .eq (.var 63) (.int 0)) (.int 1) (.int 0)) (.cons (.var 38) (.cons (.var 64) (.cons (.var 65) .nil)))))))) .nil)
noncomputable def b_add:MSs:=(.cons (.assign (.var 25) (.bin .Add (.var 66) (.var 67))) (.cons (.assign (.var 63) (.bin .BitAnd (.var 25) (.gint 68))) (.cons (.assign (.var 38) (.bin .RShift (.var 25) (.int 32))) (.cons (.assign (.var 64) (.bin .RShift (.bin .BitAnd (.bin .BitXor (.var 66) (.var 63)) (.bin .BitXor (.var 67) (.var 63))) (.int 31))) (.cons (.ret (.call 519 (.cons (.var 63) (.cons (.var 38) (.cons (.var 64) .nil))))) .nil)))))
noncomputable def b_operate:MSs:=(.cons (.ite (.cmp .eq (.var 35) (.str [77,79,86])) (.cons (.ret (.call 519 (.cons (.var 67) (.cons (.int 0) (.cons (.int 0) .nil))))) .nil) .nil) (.cons (.ite (.cmp .eq (.var 35) (.str [65,68,68])) (.cons (.ret (.call 526 (.cons (.var 66) (.cons (.var 67) .nil)))) .nil) .nil) (.cons (.ite (.cmp .eq (.var 35) (.str [83,85,66])) (.cons (.ret (.call 533 (.cons (.var 66) (.cons (.var 67) .nil)))) .nil) .nil) (.cons (.ite (.cmp .eq (.var 35) (.str [77,85,76])) (.cons (.ret (.call 540 (.cons (.var 66) (.cons (.var 67) .nil)))) .nil) .nil) (.cons (.ite (.cmp .eq (.var 35) (.str [68,73,86])) (.cons (.ret (.call 547 (.cons (.var 66) (.cons (.var 67) .nil)))) .nil) .nil) (.cons (.ite (.cmp .eq (.var 35) (.str [76,83,76])) (.cons (.ret (.call 554 (.cons (.var 66) (.cons (.var 67) .nil)))) .nil) .nil) (.cons (.ite (.cmp .eq (.var 35) (.str [65,83,82])) (.cons (.ret (.call 561 (.cons (.var 66) (.cons (.var 67) .nil)))) .nil) .nil) (.cons (.ite (.cmp .eq (.var 35) (.str [82,79,82])) (.cons (.ret (.call 568 (.cons (.var 66) (.cons (.var 67) .nil)))) .nil) .nil) (.cons (.ret (.call 575 (.cons (.var 35) (.cons (.var 66) (.cons (.var 67) .nil))))) .nil)))))))))
noncomputable def b_condition_number:MSs:=(.cons (.assign (.var 69) (.tuple (.cons (.str [77,73]) (.cons (.str [69,81]) (.cons (.str [67,83]) (.cons (.str [86,83]) (.cons (.str [76,83]) (.cons (.str [76,84]) (.cons (.str [76,69]) (.cons (.str [65,76]) (.cons (.str [80,76]) (.cons (.str [78,69]) (.cons (.str [67,67]) (.cons (.str [86,67]) (.cons (.str [72,73]) (.cons (.str [71,69]) (.cons (.str [71,84]) (.cons (.str [78,86]) .nil)))))))))))))))))) (.cons (.ret (.meth (.var 69) 3 (.cons (.var 39) .nil))) .nil))
noncomputable def b_holds:MSs:=(.cons (.assign (.tup [.inl 15,.inl 70,.inl 38,.inl 64]) (.var 71)) (.cons (.assign (.var 16) (.call 589 (.cons (.var 39) .nil))) (.cons (.assign (.var 72) (.tuple (.cons (.var 15) (.cons (.var 70) (.cons (.var 38) (.cons (.var 64) (.cons (.bin .BitOr (.var 38) (.var 70)) (.cons (.bin .BitXor (.var 15) (.var 64)) (.cons (.bin .BitOr (.bin .BitXor (.var 15) (.var 64)) (.var 70)) (.cons (.int 1) .nil)))))))))) (.cons (.ret (.cmp .ne (.sub (.var 72) (.bin .Mod (.var 16) (.int 8))) (.bin .FloorDiv (.var 16) (.int 8)))) .nil))))
noncomputable def b_Cpu___init:MSs:=(.cons (.assign (.attr (.var 7) 55) (.var 55)) (.cons (.assign (.attr (.var 7) 73) (.rep (.int 0) (.int 16))) (.cons (.assign (.attr (.var 7) 65) (.int 0)) (.cons (.assign (.attr (.var 7) 15) (.int 0)) (.cons (.assign (.attr (.var 7) 70) (.int 0)) (.cons (.assign (.attr (.var 7) 38) (.int 0)) (.cons (.assign (.attr (.var 7) 64) (.int 0)) (.cons (.assign (.attr (.var 7) 74) (.int 0)) (.cons (.assign (.attr (.var 7) 53) (.list .nil)) .nil)))))))))
noncomputable def b_Cpu_step:MSs:=(.cons (.ite (.or (.cmp .lt (.attr (.var 7) 74) (.int 0)) (.cmp .ge (.attr (.var 7) 74) (.len (.attr (.var 7) 53)))) (.cons (.ret (.tuple (.cons (.str [116,114,97,112]) (.cons (.int 15) (.cons (.int 0) .nil))))) .nil) .nil) (.cons (.assign (.var 20) (.sub (.attr (.var 7) 53) (.attr (.var 7) 74))) (.cons (.augAttr (.var 7) 74 .Add (.int 1)) (.cons (.assign (.var 35) (.sub (.var 20) (.int 0))) (.cons (.ite (.inn (.var 35) (.tuple (.cons (.str [76,68,82]) (.cons (.str [76,68,66]) (.cons (.str [83,84,82]) (.cons (.str [83,84,66]) .nil)))))) (.cons (.try_ (.cons (.expr (.meth (.var 7) 75 (.cons (.var 35) (.cons (.sub (.var 20) (.int 1)) (.cons (.bin .Mod (.bin .Add (.sub (.attr (.var 7) 73) (.sub (.var 20) (.int 2))) (.sub (.var 20) (.int 3))) (.gint 76)) .nil))))) .nil) 51 (some 77) (.cons (.ret (.tuple (.cons (.str [116,114,97,112]) (.cons (.attr (.var 77) 16) (.cons (.attr (.var 77) 30) .nil))))) .nil)) (.cons (.ret .none) .nil)) .nil) (.cons (.ite (.inn (.var 35) (.tuple (.cons (.str [66]) (.cons (.str [66,76]) (.cons (.str [66,82]) (.cons (.str [66,76,82]) (.cons (.str [84,82,65,80]) .nil))))))) (.cons (.ret (.meth (.var 7) 78 (.cons (.var 35) (.cons (.var 20) .nil)))) .nil) .nil) (.cons (.ite (.cmp .eq (.var 35) (.str [77,79,86,72])) (.cons (.expr (.meth (.var 7) 79 (.cons (.sub (.var 20) (.int 1)) (.cons (.bin .Mod (.bin .LShift (.sub (.var 20) (.int 3)) (.int 16)) (.gint 76)) .nil)))) (.cons (.ret .none) .nil)) .nil) (.cons (.ite (.cmp .eq (.var 35) (.str [71,69,84,72])) (.cons (.expr (.meth (.var 7) 79 (.cons (.sub (.var 20) (.int 1)) (.cons (.attr (.var 7) 65) .nil)))) (.cons (.ret .none) .nil)) .nil) (.cons (.ret (.meth (.var 7) 80 (.cons (.var 35) (.cons (.var 20) .nil)))) .nil)))))))))
noncomputable def b_Cpu_transfer:MSs:=(.cons (.ite (.cmp .eq (.var 35) (.str [76,68,82])) (.cons (.assign (.sub (.attr (.var 7) 73) (.var 82)) (.meth (.attr (.var 7) 55) 42 (.cons (.var 83) .nil))) .nil) (.cons (.ite (.cmp .eq (.var 35) (.str [76,68,66])) (.cons (.assign (.sub (.attr (.var 7) 73) (.var 82)) (.meth (.attr (.var 7) 55) 13 (.cons (.var 83) .nil))) .nil) (.cons (.ite (.cmp .eq (.var 35) (.str [83,84,82])) (.cons (.expr (.meth (.attr (.var 7) 55) 61 (.cons (.var 83) (.cons (.sub (.attr (.var 7) 73) (.var 82)) .nil)))) .nil) (.cons (.expr (.meth (.attr (.var 7) 55) 84 (.cons (.var 83) (.cons (.sub (.attr (.var 7) 73) (.var 82)) .nil)))) .nil)) .nil)) .nil)) .nil)
noncomputable def b_Cpu_flags:MSs:=(.cons (.ret (.tuple (.cons (.attr (.var 7) 15) (.cons (.attr (.var 7) 70) (.cons (.attr (.var 7) 38) (.cons (.attr (.var 7) 64) .nil)))))) .nil)
noncomputable def b_Cpu_branch:MSs:=(.cons (.ite (.not (.call 596 (.cons (.sub (.var 20) (.int 1)) (.cons (.meth (.var 7) 71 .nil) .nil)))) (.cons (.ret .none) .nil) .nil) (.cons (.ite (.cmp .eq (.var 35) (.str [84,82,65,80])) (.cons (.ret (.tuple (.cons (.str [116,114,97,112]) (.cons (.sub (.var 20) (.int 2)) (.cons (.sub (.var 20) (.int 3)) .nil))))) .nil) .nil) (.cons (.ite (.or (.cmp .eq (.var 35) (.str [66,82])) (.cmp .eq (.var 35) (.str [66,76,82]))) (.cons (.assign (.var 85) (.sub (.attr (.var 7) 73) (.sub (.var 20) (.int 2)))) .nil) (.cons (.assign (.var 85) (.bin .Add (.attr (.var 7) 74) (.sub (.var 20) (.int 2)))) .nil)) (.cons (.ite (.or (.cmp .eq (.var 35) (.str [66,76])) (.cmp .eq (.var 35) (.str [66,76,82]))) (.cons (.assign (.sub (.attr (.var 7) 73) (.gint 86)) (.attr (.var 7) 74)) .nil) .nil) (.cons (.assign (.attr (.var 7) 74) (.var 85)) (.cons (.ret .none) .nil))))))
noncomputable def b_Cpu_calculate:MSs:=(.cons (.ite (.inn (.var 35) (.call 673 .nil)) (.cons (.assign (.var 87) (.sub (.attr (.var 7) 73) (.sub (.var 20) (.int 3)))) .nil) (.cons (.ite (.and (.cmp .eq (.from_ (.var 35) (.neg (.int 1))) (.str [73])) (.inn (.upto (.var 35) (.neg (.int 1))) (.call 673 .nil))) (.cons (.assign (.var 35) (.upto (.var 35) (.neg (.int 1)))) (.cons (.assign (.var 87) (.bin .Mod (.sub (.var 20) (.int 3)) (.gint 76))) .nil)) (.cons (.raise 89 (.cons (.var 35) .nil)) .nil)) .nil)) (.cons (.assign (.var 88) (.call 582 (.cons (.var 35) (.cons (.sub (.attr (.var 7) 73) (.sub (.var 20) (.int 2))) (.cons (.var 87) .nil))))) (.cons (.ite (.isNone (.var 88)) (.cons (.ret (.tuple (.cons (.str [116,114,97,112]) (.cons (.int 6) (.cons (.int 0) .nil))))) .nil) .nil) (.cons (.assign (.tup [.inl 63,.inr (7,15),.inr (7,70),.inr (7,38),.inr (7,64),.inl 34]) (.var 88)) (.cons (.assign (.sub (.attr (.var 7) 73) (.sub (.var 20) (.int 1))) (.var 63)) (.cons (.ite (.notNone (.var 34)) (.cons (.assign (.attr (.var 7) 65) (.var 34)) .nil) .nil) (.cons (.ret .none) .nil)))))))
noncomputable def b_register_names:MSs:=(.cons (.ret (.tuple (.cons (.str [77,79,86]) (.cons (.str [76,83,76]) (.cons (.str [65,83,82]) (.cons (.str [82,79,82]) (.cons (.str [65,78,68]) (.cons (.str [65,78,78]) (.cons (.str [73,79,82]) (.cons (.str [88,79,82]) (.cons (.str [65,68,68]) (.cons (.str [83,85,66]) (.cons (.str [77,85,76]) (.cons (.str [68,73,86]) .nil)))))))))))))) .nil)
noncomputable def b_Memory___init:MSs:=(.cons (.assign (.attr (.var 7) 54) (.var 54)) (.cons (.assign (.attr (.var 7) 89) .dict0) .nil))
noncomputable def b_Memory_place:MSs:=(.cons (.ite (.or (.cmp .lt (.var 83) (.int 0)) (.cmp .ge (.var 83) (.attr (.var 7) 54))) (.cons (.raise 51 (.cons (.int 4) (.cons (.int 0) (.cons (.str []) .nil)))) .nil) .nil) (.cons (.ret (.bin .FloorDiv (.var 83) (.int 4))) .nil))
noncomputable def b_Memory_word:MSs:=(.cons (.ret (.meth (.attr (.var 7) 89) 4 (.cons (.meth (.var 7) 30 (.cons (.var 83) .nil)) (.cons (.int 0) .nil)))) .nil)
noncomputable def b_Memory_put_word:MSs:=(.cons (.assign (.sub (.attr (.var 7) 89) (.meth (.var 7) 30 (.cons (.var 83) .nil))) (.bin .Mod (.var 12) (.gint 90))) .nil)
noncomputable def b_Memory_byte:MSs:=(.cons (.ret (.bin .BitAnd (.bin .RShift (.meth (.var 7) 42 (.cons (.var 83) .nil)) (.bin .Mult (.int 8) (.bin .Mod (.var 83) (.int 4)))) (.int 255))) .nil)
noncomputable def b_rounded:MSs:=(.cons (.ret (.bin .Mult (.bin .FloorDiv (.bin .Sub (.bin .Add (.var 54) (.gint 91)) (.int 1)) (.gint 91)) (.gint 91))) .nil)
noncomputable def b_Machine___init:MSs:=(.cons (.assign (.attr (.var 7) 92) (.gint 93)) (.cons (.assign (.attr (.var 7) 94) (.bin .Add (.gint 93) (.call 811 (.cons (.var 95) .nil)))) (.cons (.assign (.var 96) (.bin .Add (.attr (.var 7) 94) (.call 811 (.cons (.var 97) .nil)))) (.cons (.assign (.attr (.var 7) 98) (.bin .Add (.var 96) (.gint 91))) (.cons (.assign (.attr (.var 7) 55) (.new 725 (.cons (.bin .Add (.attr (.var 7) 98) (.call 811 (.cons (.var 99) .nil))) .nil))) (.cons (.assign (.attr (.var 7) 100) (.new 470 (.cons (.attr (.var 7) 55) (.cons (.attr (.var 7) 94) (.cons (.var 96) .nil))))) (.cons (.assign (.attr (.var 7) 101) (.new 662 (.cons (.attr (.var 7) 55) .nil))) (.cons (.expr (.meth (.attr (.attr (.var 7) 101) 53) 0 (.cons (.tuple (.cons (.str [84,82,65,80]) (.cons (.str [65,76]) (.cons (.int 0) (.cons (.gint 102) .nil))))) .nil))) (.cons (.assign (.attr (.var 7) 50) (.list .nil)) (.cons (.assign (.attr (.var 7) 11) (.list .nil)) (.cons (.assign (.attr (.var 7) 103) (.list .nil)) (.cons (.assign (.attr (.var 7) 57) (.var 57)) (.cons (.assign (.attr (.var 7) 104) (.int 0)) .nil)))))))))))))
noncomputable def fb_Machine_add_rows_0:MSs:=(.cons (.expr (.meth (.attr (.attr (.var 7) 101) 53) 0 (.cons (.var 20) .nil))) .nil)
noncomputable def b_Machine_add_rows:MSs:=(.cons (.assign (.var 105) (.len (.attr (.attr (.var 7) 101) 53))) (.cons (.for_ true 20 (.over (.var 53)) fb_Machine_add_rows_0) (.cons (.ret (.var 105)) .nil)))
noncomputable def b_Machine_add_data:MSs:=(.cons (.assign (.var 83) (.attr (.var 7) 92)) (.cons (.ite (.or (.cmp .lt (.var 54) (.int 0)) (.cmp .gt (.bin .Add (.var 83) (.call 811 (.cons (.var 54) .nil))) (.attr (.var 7) 94))) (.cons (.raise 51 (.cons (.int 4) (.cons (.int 0) (.cons (.str []) .nil)))) .nil) .nil) (.cons (.assign (.attr (.var 7) 92) (.bin .Add (.var 83) (.call 811 (.cons (.var 54) .nil)))) (.cons (.ret (.var 83)) .nil))))
noncomputable def b_Machine_prepare:MSs:=(.cons (.assign (.var 101) (.attr (.var 7) 101)) (.cons (.assign (.attr (.var 101) 73) (.rep (.int 0) (.int 16))) (.cons (.assign (.sub (.attr (.var 101) 73) (.gint 108)) (.bin .Sub (.attr (.attr (.var 7) 55) 54) (.gint 91))) (.cons (.assign (.attr (.var 101) 15) (.int 0)) (.cons (.assign (.attr (.var 101) 70) (.int 0)) (.cons (.assign (.attr (.var 101) 38) (.int 0)) (.cons (.assign (.attr (.var 101) 64) (.int 0)) (.cons (.assign (.attr (.var 101) 65) (.int 0)) (.cons (.assign (.attr (.var 101) 74) (.var 20)) .nil)))))))))
noncomputable def H5:ME:=(.cmp .lt (.attr (.var 7) 104) (.attr (.var 7) 57))
noncomputable def wb_Machine_call_0:MSs:=(.cons (.augAttr (.var 7) 104 .Add (.int 1)) (.cons (.assign (.var 77) (.meth (.attr (.var 7) 101) 81 .nil)) (.cons (.ite (.and (.isNone (.var 77)) (.not (.cmp2 .le .le (.attr (.var 7) 98) (.sub (.attr (.attr (.var 7) 101) 73) (.gint 108)) (.attr (.attr (.var 7) 55) 54)))) (.cons (.assign (.var 77) (.tuple (.cons (.str [116,114,97,112]) (.cons (.int 10) (.cons (.int 0) .nil))))) .nil) .nil) (.cons (.ite (.and (.notNone (.var 77)) (.cmp .eq (.sub (.var 77) (.int 1)) (.int 0))) (.cons (.ite (.cmp .eq (.sub (.var 77) (.int 2)) (.gint 102)) (.cons (.ret (.tuple (.cons (.str [100,111,110,101]) (.cons (.int 0) (.cons (.int 0) (.cons (.str []) .nil)))))) .nil) .nil) (.cons (.assign (.var 77) (.meth (.var 7) 110 (.cons (.sub (.var 77) (.int 2)) .nil))) .nil)) .nil) (.cons (.ite (.notNone (.var 77)) (.cons (.ret (.tuple (.cons (.str [116,114,97,112]) (.cons (.sub (.var 77) (.int 1)) (.cons (.sub (.var 77) (.int 2)) (.cons (.meth (.var 7) 111 .nil) .nil)))))) .nil) .nil) .nil)))))
noncomputable def b_Machine_call:MSs:=(.cons (.expr (.meth (.var 7) 109 (.cons (.var 20) .nil))) (.cons (.whil H5 wb_Machine_call_0) (.cons (.ret (.tuple (.cons (.str [108,105,109,105,116]) (.cons (.int 0) (.cons (.int 0) (.cons (.str []) .nil)))))) .nil)))
noncomputable def b_Machine_running_module:MSs:=(.cons (.assign (.var 50) (.call 362 (.cons (.var 7) (.cons (.bin .Sub (.attr (.attr (.var 7) 101) 74) (.int 1)) .nil)))) (.cons (.ite (.isNone (.var 50)) (.cons (.ret (.str [])) .nil) .nil) (.cons (.ret (.attr (.var 50) 35)) .nil)))
noncomputable def b_KeptModule___init:MSs:=(.cons (.assign (.attr (.var 7) 35) (.var 35)) (.cons (.assign (.attr (.var 7) 113) (.var 113)) (.cons (.assign (.attr (.var 7) 51) (.var 51)) (.cons (.assign (.attr (.var 7) 114) (.var 114)) (.cons (.assign (.attr (.var 7) 52) (.var 88)) (.cons (.assign (.attr (.var 7) 115) (.list .nil)) .nil))))))
noncomputable def fb_check_number_0:MSs:=(.cons (.assign (.var 12) (.bin .Mod (.bin .Add (.bin .Add (.bin .Mult (.var 12) (.int 257)) (.var 13)) (.int 1)) (.gint 116))) .nil)
noncomputable def b_check_number:MSs:=(.cons (.assign (.var 12) (.int 1)) (.cons (.for_ true 13 (.over (.var 22)) fb_check_number_0) (.cons (.ret (.var 12)) .nil)))
noncomputable def ce_write_machine_0:ME:=(.var 30)
noncomputable def cc_write_machine_0:ME:=(.cmp .ne (.sub (.var 89) (.var 30)) (.int 0))
noncomputable def fb_write_machine_0:MSs:=(.cons (.expr (.meth (.var 117) 16 (.cons (.sub (.var 89) (.var 30)) .nil))) .nil)
noncomputable def b_write_machine:MSs:=(.cons (.assign (.var 100) (.attr (.var 49) 100)) (.cons (.expr (.meth (.var 117) 21 (.cons (.list (.cons (.bin .Sub (.attr (.var 49) 94) (.int 64)) (.cons (.bin .Sub (.attr (.var 100) 57) (.attr (.var 100) 56)) (.cons (.bin .Sub (.attr (.attr (.var 49) 55) 54) (.attr (.var 49) 98)) (.cons (.attr (.var 49) 92) (.cons (.attr (.var 49) 57) (.cons (.attr (.var 49) 104) .nil))))))) .nil))) (.cons (.expr (.meth (.var 117) 21 (.cons (.attr (.var 100) 58) .nil))) (.cons (.assign (.var 89) (.attr (.attr (.var 49) 55) 89)) (.cons (.assign (.var 118) (.compIf true true ce_write_machine_0 30 (.over (.sorted (.var 89))) cc_write_machine_0)) (.cons (.expr (.meth (.var 117) 21 (.cons (.var 118) .nil))) (.cons (.for_ true 30 (.over (.var 118)) fb_write_machine_0) .nil)))))))
noncomputable def ce_write_image_0:ME:=(.call 299 (.cons (.var 20) .nil))
noncomputable def fb_write_image_1:MSs:=(.cons (.expr (.meth (.var 117) 19 (.cons (.var 119) .nil))) .nil)
noncomputable def fb_write_image_0:MSs:=(.cons (.expr (.meth (.var 117) 19 (.cons (.attr (.var 50) 35) .nil))) (.cons (.expr (.meth (.var 117) 21 (.cons (.list (.cons (.attr (.var 50) 113) (.cons (.attr (.var 50) 51) (.cons (.attr (.var 50) 114) .nil)))) .nil))) (.cons (.expr (.meth (.var 117) 16 (.cons (.len (.attr (.var 50) 115)) .nil))) (.cons (.for_ true 119 (.over (.attr (.var 50) 115)) fb_write_image_1) .nil))))
noncomputable def fb_write_image_2:MSs:=(.cons (.expr (.meth (.var 117) 19 (.cons (.var 19) .nil))) .nil)
noncomputable def fb_write_image_3:MSs:=(.cons (.expr (.meth (.var 117) 13 (.cons (.bin .Mod (.var 120) (.int 256)) .nil))) (.cons (.assign (.var 120) (.bin .FloorDiv (.var 120) (.int 256))) .nil))
noncomputable def b_write_image:MSs:=(.cons (.assign (.var 117) (.new 136 .nil)) (.cons (.expr (.call 929 (.cons (.var 117) (.cons (.var 49) .nil)))) (.cons (.expr (.meth (.var 117) 21 (.cons (.comp true true ce_write_image_0 20 (.over (.attr (.attr (.var 49) 101) 53))) .nil))) (.cons (.expr (.meth (.var 117) 16 (.cons (.len (.attr (.var 49) 50)) .nil))) (.cons (.for_ true 50 (.over (.attr (.var 49) 50)) fb_write_image_0) (.cons (.expr (.meth (.var 117) 16 (.cons (.len (.attr (.var 49) 11)) .nil))) (.cons (.for_ true 19 (.over (.attr (.var 49) 11)) fb_write_image_2) (.cons (.expr (.meth (.var 117) 21 (.cons (.attr (.var 49) 103) .nil))) (.cons (.assign (.var 120) (.call 924 (.cons (.attr (.var 117) 11) .nil))) (.cons (.for_ true 122 (.range1 (.gint 121)) fb_write_image_3) (.cons (.ret (.attr (.var 117) 11)) .nil)))))))))))
noncomputable def fb_checked_body_0:MSs:=(.cons (.ite (.or (.cmp .lt (.sub (.var 22) (.var 30)) (.int 0)) (.cmp .gt (.sub (.var 22) (.var 30)) (.int 255))) (.cons (.raise 70 (.cons (.str [98,97,100,95,98,121,116,101]) (.cons (.var 30) .nil))) .nil) .nil) .nil)
noncomputable def fb_checked_body_1:MSs:=(.cons (.assign (.var 120) (.bin .Add (.bin .Mult (.var 120) (.int 256)) (.sub (.var 22) (.var 30)))) .nil)
noncomputable def b_checked_body:MSs:=(.cons (.assign (.var 123) (.bin .Sub (.len (.var 22)) (.gint 121))) (.cons (.ite (.cmp .lt (.var 123) (.int 0)) (.cons (.raise 70 (.cons (.str [99,117,116,95,111,102,102]) (.cons (.len (.var 22)) .nil))) .nil) .nil) (.cons (.for_ true 30 (.range1 (.len (.var 22))) fb_checked_body_0) (.cons (.assign (.var 120) (.int 0)) (.cons (.for_ true 30 (.range3 (.bin .Sub (.len (.var 22)) (.int 1)) (.bin .Sub (.var 123) (.int 1)) (.neg (.int 1))) fb_checked_body_1) (.cons (.ite (.cmp .ne (.var 120) (.call 924 (.cons (.upto (.var 22) (.var 123)) .nil))) (.cons (.raise 70 (.cons (.str [98,97,100,95,99,104,101,99,107]) (.cons (.var 123) .nil))) .nil) .nil) (.cons (.ret (.upto (.var 22) (.var 123))) .nil)))))))
noncomputable def fb_read_machine_0:MSs:=(.cons (.ite (.cmp .lt (.var 54) (.int 0)) (.cons (.expr (.meth (.var 125) 23 (.cons (.str [98,97,100,95,115,105,122,101]) .nil))) .nil) .nil) .nil)
noncomputable def fb_read_machine_1:MSs:=(.cons (.assign (.sub (.attr (.attr (.var 49) 55) 89) (.var 30)) (.meth (.var 125) 16 .nil)) .nil)
noncomputable def b_read_machine:MSs:=(.cons (.assign (.var 124) (.meth (.var 125) 21 .nil)) (.cons (.assign (.var 58) (.meth (.var 125) 21 .nil)) (.cons (.ite (.or (.cmp .ne (.len (.var 124)) (.int 6)) (.cmp .ne (.len (.var 58)) (.int 4))) (.cons (.expr (.meth (.var 125) 23 (.cons (.str [98,97,100,95,99,111,117,110,116]) .nil))) .nil) .nil) (.cons (.for_ true 54 (.over (.var 124)) fb_read_machine_0) (.cons (.assign (.var 49) (.new 892 (.cons (.sub (.var 124) (.int 1)) (.cons (.sub (.var 124) (.int 2)) (.cons (.sub (.var 124) (.int 4)) (.cons (.sub (.var 124) (.int 0)) .nil)))))) (.cons (.assign (.attr (.var 49) 92) (.sub (.var 124) (.int 3))) (.cons (.assign (.attr (.var 49) 104) (.sub (.var 124) (.int 5))) (.cons (.assign (.attr (.attr (.var 49) 55) 89) .dict0) (.cons (.for_ true 30 (.over (.meth (.var 125) 21 .nil)) fb_read_machine_1) (.cons (.assign (.attr (.attr (.var 49) 100) 58) (.var 58)) (.cons (.ret (.var 49)) .nil)))))))))))
noncomputable def ce_read_modules_0:ME:=(.meth (.var 125) 19 .nil)
noncomputable def fb_read_modules_0:MSs:=(.cons (.assign (.var 35) (.meth (.var 125) 19 .nil)) (.cons (.assign (.var 21) (.meth (.var 125) 21 .nil)) (.cons (.ite (.cmp .ne (.len (.var 21)) (.int 3)) (.cons (.expr (.meth (.var 125) 23 (.cons (.str [98,97,100,95,99,111,117,110,116]) .nil))) .nil) .nil) (.cons (.assign (.var 88) (.meth (.var 126) 4 (.cons (.var 35) .nil))) (.cons (.ite (.or (.isNone (.var 88)) (.cmp .ne (.attr (.var 88) 113) (.sub (.var 21) (.int 0)))) (.cons (.expr (.meth (.var 125) 23 (.cons (.str [98,97,100,95,107,101,121]) .nil))) .nil) .nil) (.cons (.assign (.var 127) (.new 913 (.cons (.var 35) (.cons (.sub (.var 21) (.int 0)) (.cons (.sub (.var 21) (.int 1)) (.cons (.sub (.var 21) (.int 2)) (.cons (.var 88) .nil))))))) (.cons (.assign (.attr (.var 127) 115) (.comp true true ce_read_modules_0 122 (.range1 (.meth (.var 125) 28 .nil)))) (.cons (.expr (.meth (.attr (.var 49) 50) 0 (.cons (.var 127) .nil))) .nil))))))))
noncomputable def b_read_modules:MSs:=(.cons (.for_ false 122 (.range1 (.meth (.var 125) 28 .nil)) fb_read_modules_0) .nil)
noncomputable def fb_read_image_0:MSs:=(.cons (.try_ (.cons (.expr (.meth (.var 53) 0 (.cons (.call 327 (.cons (.var 42) .nil)) .nil))) .nil) 89 none (.cons (.expr (.meth (.var 125) 23 (.cons (.str [98,97,100,95,114,111,119]) .nil))) .nil)) .nil)
noncomputable def ce_read_image_0:ME:=(.meth (.var 125) 19 .nil)
noncomputable def b_read_image:MSs:=(.cons (.assign (.var 125) (.new 204 (.cons (.call 941 (.cons (.var 22) .nil)) .nil))) (.cons (.assign (.var 49) (.call 948 (.cons (.var 125) .nil))) (.cons (.assign (.var 53) (.list .nil)) (.cons (.for_ true 42 (.over (.meth (.var 125) 21 .nil)) fb_read_image_0) (.cons (.assign (.attr (.attr (.var 49) 101) 53) (.var 53)) (.cons (.expr (.call 953 (.cons (.var 125) (.cons (.var 49) (.cons (.var 126) .nil))))) (.cons (.assign (.attr (.var 49) 11) (.comp true true ce_read_image_0 122 (.range1 (.meth (.var 125) 28 .nil)))) (.cons (.assign (.attr (.var 49) 103) (.meth (.var 125) 21 .nil)) (.cons (.ite (.not (.meth (.var 125) 24 .nil)) (.cons (.expr (.meth (.var 125) 23 (.cons (.str [116,111,111,95,108,111,110,103]) .nil))) .nil) .nil) (.cons (.ret (.var 49)) .nil))))))))))
noncomputable def b_Loaded___init:MSs:=(.cons (.assign (.attr (.var 7) 35) (.var 35)) (.cons (.assign (.attr (.var 7) 113) (.var 113)) (.cons (.assign (.attr (.var 7) 51) (.var 51)) (.cons (.assign (.attr (.var 7) 114) (.var 114)) (.cons (.assign (.attr (.var 7) 52) (.var 128)) (.cons (.assign (.attr (.var 7) 115) (.list .nil)) .nil))))))
noncomputable def b_ObjectFile___init:MSs:=(.cons (.assign (.attr (.var 7) 35) (.var 35)) (.cons (.assign (.attr (.var 7) 113) (.var 113)) (.cons (.assign (.attr (.var 7) 129) (.list .nil)) (.cons (.assign (.attr (.var 7) 53) (.list .nil)) (.cons (.assign (.attr (.var 7) 130) (.int 0)) (.cons (.assign (.attr (.var 7) 89) (.list .nil)) (.cons (.assign (.attr (.var 7) 131) (.list .nil)) (.cons (.assign (.attr (.var 7) 132) (.list .nil)) (.cons (.assign (.attr (.var 7) 133) (.list .nil)) (.cons (.assign (.attr (.var 7) 134) (.list .nil)) (.cons (.assign (.attr (.var 7) 135) .dict0) (.cons (.assign (.attr (.var 7) 136) .dict0) (.cons (.assign (.attr (.var 7) 137) (.int 0)) .nil)))))))))))))
noncomputable def fb_law_row_1:MSs:=(.cons (.ite (.cmp .gt (.var 140) (.int 0)) (.cons (.expr (.meth (.var 20) 0 (.cons (.bin .Mod (.var 140) (.int 1024)) .nil))) (.cons (.assign (.var 140) (.bin .FloorDiv (.var 140) (.int 1024))) .nil)) .nil) .nil)
noncomputable def fb_law_row_0:MSs:=(.cons (.assign (.var 140) (.ite (.cmp .ge (.var 139) (.int 0)) (.var 139) (.bin .Sub (.int 7) (.var 139)))) (.cons (.expr (.meth (.var 20) 0 (.cons (.bin .Mod (.var 140) (.int 1024)) .nil))) (.cons (.assign (.var 140) (.bin .FloorDiv (.var 140) (.int 1024))) (.cons (.for_ true 141 (.range1 (.int 30)) fb_law_row_1) .nil))))
noncomputable def b_law_row:MSs:=(.cons (.assign (.var 20) (.list .nil)) (.cons (.for_ true 139 (.over (.upto (.var 138) (.int 40))) fb_law_row_0) (.cons (.assign (.var 20) (.upto (.var 20) (.int 160))) (.cons (.expr (.meth (.var 20) 2 .nil)) (.cons (.ret (.var 20)) .nil)))))
noncomputable def b_law_next:MSs:=(.cons (.ret (.ite (.cmp .ne (.var 20) (.list .nil)) (.meth (.var 20) 1 .nil) (.int 0))) .nil)
noncomputable def fb_law_rows_0:MSs:=(.cons (.assign (.var 142) (.bin .Mod (.call 1014 (.cons (.var 20) .nil)) (.int 6))) (.cons (.assign (.var 143) (.bin .Mod (.call 1014 (.cons (.var 20) .nil)) (.int 4))) (.cons (.assign (.var 144) (.bin .Mod (.call 1014 (.cons (.var 20) .nil)) (.int 100))) (.cons (.ite (.cmp .eq (.var 142) (.int 0)) (.cons (.expr (.meth (.var 53) 0 (.cons (.tuple (.cons (.str [77,79,86,73]) (.cons (.var 143) (.cons (.int 0) (.cons (.bin .Sub (.bin .Mult (.var 144) (.int 655)) (.int 30000)) .nil))))) .nil))) .nil) (.cons (.ite (.cmp .eq (.var 142) (.int 1)) (.cons (.expr (.meth (.var 53) 0 (.cons (.tuple (.cons (.str [65,68,68]) (.cons (.var 143) (.cons (.var 143) (.cons (.int 1) .nil))))) .nil))) .nil) (.cons (.ite (.cmp .eq (.var 142) (.int 2)) (.cons (.expr (.meth (.var 53) 0 (.cons (.tuple (.cons (.str [83,84,82]) (.cons (.var 143) (.cons (.int 13) (.cons (.bin .Add (.int 64) (.bin .Mult (.int 4) (.var 144))) .nil))))) .nil))) .nil) (.cons (.ite (.cmp .eq (.var 142) (.int 3)) (.cons (.expr (.meth (.var 53) 0 (.cons (.tuple (.cons (.str [76,68,66]) (.cons (.var 143) (.cons (.int 13) (.cons (.bin .Add (.int 64) (.var 144)) .nil))))) .nil))) .nil) (.cons (.ite (.cmp .eq (.var 142) (.int 4)) (.cons (.expr (.meth (.var 53) 0 (.cons (.tuple (.cons (.str [84,82,65,80]) (.cons (.str [69,81]) (.cons (.bin .Add (.int 1) (.bin .Mod (.var 144) (.int 15))) (.cons (.var 144) .nil))))) .nil))) .nil) (.cons (.expr (.meth (.var 53) 0 (.cons (.tuple (.cons (.str [66]) (.cons (.str [77,73]) (.cons (.int 0) (.cons (.int 0) .nil))))) .nil))) .nil)) .nil)) .nil)) .nil)) .nil)) .nil))))
noncomputable def b_law_rows:MSs:=(.cons (.assign (.var 53) (.list .nil)) (.cons (.for_ true 141 (.range1 (.bin .Mod (.call 1014 (.cons (.var 20) .nil)) (.int 5))) fb_law_rows_0) (.cons (.expr (.meth (.var 53) 0 (.cons (.tuple (.cons (.str [66,82]) (.cons (.str [65,76]) (.cons (.int 15) (.cons (.int 0) .nil))))) .nil))) (.cons (.ret (.var 53)) .nil))))
noncomputable def ce_law_state_0:ME:=(.tuple (.cons (.var 30) (.cons (.sub (.var 89) (.var 30)) .nil)))
noncomputable def cc_law_state_0:ME:=(.cmp .ne (.sub (.var 89) (.var 30)) (.int 0))
noncomputable def ce_law_state_1:ME:=(.tuple (.cons (.attr (.var 147) 35) (.cons (.attr (.var 147) 113) (.cons (.attr (.var 147) 51) (.cons (.attr (.var 147) 114) (.cons (.attr (.var 147) 115) (.cons (.attr (.attr (.var 147) 52) 35) .nil)))))))
noncomputable def b_law_state:MSs:=(.cons (.assign (.var 89) (.attr (.attr (.var 49) 55) 89)) (.cons (.assign (.var 145) (.compIf true true ce_law_state_0 30 (.over (.sorted (.var 89))) cc_law_state_0)) (.cons (.assign (.var 124) (.list (.cons (.attr (.var 49) 92) (.cons (.attr (.var 49) 94) (.cons (.attr (.var 49) 98) (.cons (.attr (.attr (.var 49) 55) 54) (.cons (.attr (.var 49) 57) (.cons (.attr (.var 49) 104) .nil)))))))) (.cons (.assign (.var 146) (.comp false false ce_law_state_1 147 (.over (.attr (.var 49) 50)))) (.cons (.assign (.var 148) (.list (.cons (.attr (.attr (.var 49) 100) 56) (.cons (.attr (.attr (.var 49) 100) 57) (.cons (.attr (.attr (.var 49) 100) 58) .nil))))) (.cons (.ret (.list (.cons (.var 145) (.cons (.var 124) (.cons (.var 146) (.cons (.var 148) (.cons (.attr (.attr (.var 49) 101) 53) (.cons (.attr (.var 49) 11) (.cons (.attr (.var 49) 103) .nil))))))))) .nil))))))
noncomputable def b_law_refused:MSs:=(.cons (.try_ (.cons (.expr (.call 958 (.cons (.var 149) (.cons (.var 126) .nil)))) .nil) 70 none (.cons (.ret (.bool true)) .nil)) (.cons (.ret (.bool false)) .nil))
noncomputable def fb_law_0:MSs:=(.cons (.assign (.var 147) (.new 996 (.cons (.var 35) (.cons (.bin .Add (.int 3) (.bin .Mult (.call 1014 (.cons (.var 20) .nil)) (.bin .Pow (.int 10) (.int 9)))) .nil)))) (.cons (.assign (.attr (.var 147) 53) (.call 1021 (.cons (.var 20) .nil))) (.cons (.assign (.sub (.var 126) (.var 35)) (.var 147)) (.cons (.assign (.var 150) (.meth (.var 49) 107 (.cons (.bin .Mod (.call 1014 (.cons (.var 20) .nil)) (.int 60)) .nil))) (.cons (.assign (.var 105) (.meth (.var 49) 106 (.cons (.attr (.var 147) 53) .nil))) (.cons (.expr (.meth (.attr (.var 49) 50) 0 (.cons (.new 975 (.cons (.var 35) (.cons (.attr (.var 147) 113) (.cons (.var 105) (.cons (.var 150) (.cons (.var 147) .nil)))))) .nil))) (.cons (.ite (.cmp .eq (.bin .Mod (.call 1014 (.cons (.var 20) .nil)) (.int 2)) (.int 1)) (.cons (.expr (.meth (.attr (.sub (.attr (.var 49) 50) (.int 0)) 115) 0 (.cons (.var 35) .nil))) .nil) .nil) .nil)))))))
noncomputable def fb_law_1:MSs:=(.cons (.expr (.meth (.attr (.var 49) 55) 61 (.cons (.bin .Add (.int 64) (.bin .Mult (.int 4) (.bin .Mod (.call 1014 (.cons (.var 20) .nil)) (.int 200)))) (.cons (.bin .Mod (.bin .Mult (.call 1014 (.cons (.var 20) .nil)) (.int 5003)) (.bin .Pow (.int 2) (.int 32))) .nil)))) .nil)
noncomputable def b_law:MSs:=(.cons (.assign (.var 20) (.call 1007 (.cons (.var 138) .nil))) (.cons (.assign (.var 49) (.new 892 (.cons (.bin .Add (.int 64) (.bin .Mult (.int 16) (.bin .Mod (.call 1014 (.cons (.var 20) .nil)) (.int 9)))) (.cons (.int 256) (.cons (.bin .Add (.int 60) (.bin .Mod (.call 1014 (.cons (.var 20) .nil)) (.int 60))) (.cons (.int 512) .nil)))))) (.cons (.assign (.var 126) .dict0) (.cons (.for_ false 35 (.over (.upto (.list (.cons (.str [65]) (.cons (.str [66,101,101]) (.cons (.str [67]) .nil)))) (.bin .Mod (.call 1014 (.cons (.var 20) .nil)) (.int 4)))) fb_law_0) (.cons (.for_ true 141 (.range1 (.bin .Mod (.call 1014 (.cons (.var 20) .nil)) (.int 9))) fb_law_1) (.cons (.assign (.attr (.var 49) 11) (.upto (.list (.cons (.str []) (.cons (.str [120]) (.cons (.bin .Add (.chr (.int 200)) (.str [55])) .nil)))) (.bin .Mod (.call 1014 (.cons (.var 20) .nil)) (.int 4)))) (.cons (.assign (.attr (.var 49) 103) (.upto (.list (.cons (.bin .Sub (.call 1014 (.cons (.var 20) .nil)) (.int 500)) (.cons (.bin .Pow (.int 10) (.int 20)) (.cons (.neg (.bin .Pow (.int 10) (.int 9))) .nil)))) (.bin .Mod (.call 1014 (.cons (.var 20) .nil)) (.int 4)))) (.cons (.assign (.attr (.var 49) 104) (.bin .Mod (.call 1014 (.cons (.var 20) .nil)) (.int 40))) (.cons (.assign (.var 149) (.call 934 (.cons (.var 49) .nil))) (.cons (.assign (.var 151) (.call 958 (.cons (.var 149) (.cons (.var 126) .nil)))) (.cons (.ite (.cmp .ne (.call 1026 (.cons (.var 151) .nil)) (.call 1026 (.cons (.var 49) .nil))) (.cons (.ret (.bool false)) .nil) .nil) (.cons (.assign (.var 152) (.listOf (.var 149))) (.cons (.assign (.var 30) (.bin .Mod (.bin .Add (.bin .Mult (.call 1014 (.cons (.var 20) .nil)) (.int 1024)) (.call 1014 (.cons (.var 20) .nil))) (.len (.var 152)))) (.cons (.assign (.sub (.var 152) (.var 30)) (.bin .Mod (.bin .Add (.bin .Add (.sub (.var 152) (.var 30)) (.int 1)) (.bin .Mod (.call 1014 (.cons (.var 20) .nil)) (.int 255))) (.int 256))) (.cons (.ite (.not (.call 1033 (.cons (.var 152) (.cons (.var 126) .nil)))) (.cons (.ret (.bool false)) .nil) .nil) (.cons (.ite (.cmp .ne (.attr (.var 49) 50) (.list .nil)) (.cons (.assign (.var 153) (.dictOf (.var 126))) (.cons (.del (.var 153) (.attr (.sub (.attr (.var 49) 50) (.neg (.int 1))) 35)) (.cons (.ite (.not (.call 1033 (.cons (.var 149) (.cons (.var 153) .nil)))) (.cons (.ret (.bool false)) .nil) .nil) (.cons (.assign (.var 154) (.new 996 (.cons (.attr (.sub (.attr (.var 49) 50) (.int 0)) 35) (.cons (.bin .Add (.attr (.sub (.attr (.var 49) 50) (.int 0)) 113) (.int 1)) .nil)))) (.cons (.assign (.var 153) (.dictOf (.var 126))) (.cons (.assign (.sub (.var 153) (.attr (.var 154) 35)) (.var 154)) (.cons (.ite (.not (.call 1033 (.cons (.var 149) (.cons (.var 153) .nil)))) (.cons (.ret (.bool false)) .nil) .nil) .nil))))))) .nil) (.cons (.assign (.var 56) (.ite (.cmp .ne (.attr (.var 49) 50) (.list .nil)) (.attr (.sub (.attr (.var 49) 50) (.neg (.int 1))) 51) (.int 0))) (.cons (.ite (.cmp .ne (.meth (.var 49) 112 (.cons (.var 56) .nil)) (.meth (.var 151) 112 (.cons (.var 56) .nil))) (.cons (.ret (.bool false)) .nil) .nil) (.cons (.ret (.and (.cmp .eq (.call 1026 (.cons (.var 151) .nil)) (.call 1026 (.cons (.var 49) .nil))) (.cmp .eq (.attr (.attr (.var 151) 101) 73) (.attr (.attr (.var 49) 101) 73)))) .nil)))))))))))))))))))
noncomputable def globT:List (Nat × Int):=[(32,1114111),(59,4),(68,4294967295),(76,4294967296),(86,15),(90,4294967296),(91,16),(93,64),(102,9),(108,14),(116,2305843009213693951),(121,8)]
noncomputable def globL (k:Nat):Option Int:=B2 k globT
noncomputable def fnT:List (Nat × Fn):=[(67,⟨[7,8,9],b_FormatError___init⟩),(105,⟨[7],b_ByteWriter___init⟩),(112,⟨[7,12],b_ByteWriter_byte⟩),(119,⟨[7,15],b_ByteWriter_number⟩),(126,⟨[7,17],b_ByteWriter_text⟩),(133,⟨[7,20],b_ByteWriter_numbers⟩),(154,⟨[7,22],b_ByteReader___init⟩),(161,⟨[7,8],b_ByteReader_fail⟩),(168,⟨[7],b_ByteReader_done⟩),(175,⟨[7],b_ByteReader_byte⟩),(182,⟨[7],b_ByteReader_number⟩),(189,⟨[7],b_ByteReader_count⟩),(196,⟨[7],b_ByteReader_text⟩),(201,⟨[7],b_ByteReader_numbers⟩),(215,⟨[],b_conditions⟩),(222,⟨[],b_operations⟩),(229,⟨[],b_memory_names⟩),(236,⟨[12,33,34],b_is_whole⟩),(243,⟨[12],b_is_register⟩),(250,⟨[35],b_immediate_operation⟩),(257,⟨[20],b_operation_fault⟩),(264,⟨[20],b_memory_fault⟩),(271,⟨[20],b_branch_fault⟩),(278,⟨[20],b_row_fault⟩),(285,⟨[20],b_operation_word⟩),(292,⟨[20],b_branch_word⟩),(299,⟨[20],b_encode⟩),(306,⟨[12,44],b_signed⟩),(313,⟨[42],b_operation_row⟩),(320,⟨[42],b_branch_row⟩),(327,⟨[42],b_decode⟩),(362,⟨[49,20],b_module_at⟩),(397,⟨[54],b_list_number⟩),(411,⟨[7,55,56,57],b_Heap___init⟩),(418,⟨[7,62,54],b_Heap_put_free⟩),(519,⟨[63,38,64,65],b_flagged⟩),(526,⟨[66,67],b_add⟩),(582,⟨[35,66,67],b_operate⟩),(589,⟨[39],b_condition_number⟩),(596,⟨[39,71],b_holds⟩),(610,⟨[7,55],b_Cpu___init⟩),(617,⟨[7],b_Cpu_step⟩),(624,⟨[7,35,82,83],b_Cpu_transfer⟩),(631,⟨[7],b_Cpu_flags⟩),(638,⟨[7,35,20],b_Cpu_branch⟩),(652,⟨[7,35,20],b_Cpu_calculate⟩),(673,⟨[],b_register_names⟩),(687,⟨[7,54],b_Memory___init⟩),(694,⟨[7,83],b_Memory_place⟩),(701,⟨[7,83],b_Memory_word⟩),(708,⟨[7,83,12],b_Memory_put_word⟩),(715,⟨[7,83],b_Memory_byte⟩),(811,⟨[54],b_rounded⟩),(826,⟨[7,97,99,57,95],b_Machine___init⟩),(833,⟨[7,53],b_Machine_add_rows⟩),(840,⟨[7,54],b_Machine_add_data⟩),(868,⟨[7,20],b_Machine_prepare⟩),(875,⟨[7,20],b_Machine_call⟩),(882,⟨[7],b_Machine_running_module⟩),(910,⟨[7,35,113,51,114,88],b_KeptModule___init⟩),(924,⟨[22],b_check_number⟩),(929,⟨[117,49],b_write_machine⟩),(934,⟨[49],b_write_image⟩),(941,⟨[22],b_checked_body⟩),(948,⟨[125],b_read_machine⟩),(953,⟨[125,49,126],b_read_modules⟩),(958,⟨[22,126],b_read_image⟩),(972,⟨[7,35,113,51,114,128],b_Loaded___init⟩),(993,⟨[7,35,113],b_ObjectFile___init⟩),(1007,⟨[138],b_law_row⟩),(1014,⟨[20],b_law_next⟩),(1021,⟨[20],b_law_rows⟩),(1026,⟨[49],b_law_state⟩),(1033,⟨[149,126],b_law_refused⟩),(1040,⟨[138],b_law⟩)]
noncomputable def fnL (k:Nat):Option Fn:=B2 k fnT
noncomputable def methT:List (Nat × List (Nat × Nat)):=[(70,[(10,67)]),(136,[(10,105),(13,112),(16,119),(19,126),(21,133)]),(204,[(10,154),(23,161),(24,168),(13,175),(16,182),(28,189),(19,196),(21,201)]),(470,[(10,411),(60,418)]),(662,[(10,610),(81,617),(75,624),(71,631),(78,638),(80,652)]),(725,[(10,687),(30,694),(42,701),(61,708),(13,715)]),(892,[(10,826),(106,833),(107,840),(109,868),(112,875),(111,882)]),(913,[(10,910)]),(975,[(10,972)]),(996,[(10,993)])]
noncomputable def methL (c m:Nat):Option Nat:=match B2 c methT with | some l=>B2 m l | none=>none
noncomputable def initT:List (Nat × Nat):=[(70,67),(136,105),(204,154),(470,411),(662,610),(725,687),(892,826),(913,910),(975,972),(996,993)]
noncomputable def initL (c:Nat):Option Nat:=B2 c initT
noncomputable def fieldT:List (Nat × List Nat):=[(136,[11]),(204,[22,9]),(470,[55,56,57,58]),(662,[55,73,65,15,70,38,64,74,53]),(725,[54,89]),(892,[92,94,98,55,100,101,50,11,103,57,104]),(913,[35,113,51,114,52,115]),(975,[35,113,51,114,52,115]),(996,[35,113,129,53,130,89,131,132,133,134,135,136,137])]
noncomputable def fieldL (c x:Nat):Bool:=match B2 c fieldT with | some l=>l.contains x | none=>false
noncomputable def tabs:Tabs:=⟨methL,globL,initL,fieldL⟩
noncomputable def CL:Nat->A7
 | 0=>fun Z Z Z Z Z=>False
 | n+1=>inl tabs fnL (CL n)
noncomputable def A6 (l:List Nat):Str:=⟨l.toArray⟩
noncomputable def nm (k:Nat):Str:=(nmL[k]?).getD ""
noncomputable def TupD (h:Heap) (a:Addr) (vs:Array Value):Prop:=∃ o,h.get? a=some o/\o.cls=.type "tuple" /\ o.dict=none/\∃ n,o.data=.seq vs n
theorem TupD.isTup {h:Heap} {a:Addr} {vs:Array Value} (x:TupD h a vs):IsTup h a vs:=x.imp fun Z y=>⟨y.1,y.2.1,y.2.2.2⟩
theorem TupD.noDict {h:Heap} {a:Addr} {vs:Array Value} (x:TupD h a vs):∀ b,Value.ref a=.ref b->∃ ob,h.get? b=some ob/\ob.dict=none:=
 fun b e=>by cases e; exact x.imp fun Z y=>⟨y.1,y.2.2.1⟩
mutual
inductive GRep (h:Heap):GV->Value->Prop
 | none:GRep h .none .none
 | int (i:Int) (t:Tok):GRep h (.int i) (.int i t)
 | str (l:List Nat) (t:Tok):GRep h (.str l) (.str (A6 l) t)
 | tup {l:List GV} {vs:List Value} {a:Addr}:TupD h a vs.toArray->GReps h l vs->GRep h (.tup l) (.ref a)
inductive GReps (h:Heap):List GV->List Value->Prop
 | nil:GReps h [] []
 | cons {v:GV} {l:List GV} {u:Value} {vs:List Value}:GRep h v u->GReps h l vs->GReps h (v::l) (u::vs)
end
structure Wd where
 a:Nat->Addr
 d:Nat->Addr
mutual
inductive VRep (h₀:Heap) (W:Wd) (h:Heap):AV->Value->Prop
 | g {v:GV} {u:Value}:GRep h v u->VRep h₀ W h (.g v) u
 | bool (b:Bool):VRep h₀ W h (.bool b) (.bool b)
 | tup {l:List AV} {vs:List Value} {a:Addr}:TupD h a vs.toArray->VReps h₀ W h l vs->VRep h₀ W h (.tup l) (.ref a)
 | obj (i:Nat):VRep h₀ W h (.obj i) (.ref (W.a i))
 | frz {l:List GV} {vs:List Value} {a:Addr}:h₀.IsList a vs.toArray->GReps h₀ l vs->VRep h₀ W h (.frz l) (.ref a)
 | any {u:Value}:handedIn u=true->VRep h₀ W h .any u
inductive VReps (h₀:Heap) (W:Wd) (h:Heap):List AV->List Value->Prop
 | nil:VReps h₀ W h [] []
 | cons {v:AV} {l:List AV} {u:Value} {vs:List Value}:VRep h₀ W h v u->VReps h₀ W h l vs->VReps h₀ W h (v::l) (u::vs)
end
@[elab_as_elim] theorem GReps.ind {h:Heap} {M:List GV->List Value->Prop} (n:M [] []) (c:∀ {v l u vs},GRep h v u->GReps h l vs->M l vs->M (v::l) (u::vs)) {l:List GV} {vs:List Value} (r:GReps h l vs):M l vs:=
 GReps.rec (motive_1:=fun Z Z Z=>True) (motive_2:=fun l vs Z=>M l vs) trivial (fun Z Z=>trivial) (fun Z Z=>trivial) (fun Z Z Z=>trivial) n (fun a b Z d=>c a b d) r
@[elab_as_elim] theorem VReps.ind {h₀ h:Heap} {W:Wd} {M:List AV->List Value->Prop} (n:M [] []) (c:∀ {v l u vs},VRep h₀ W h v u->VReps h₀ W h l vs->M l vs->M (v::l) (u::vs)) {l:List AV} {vs:List Value} (r:VReps h₀ W h l vs):M l vs:=
 VReps.rec (motive_1:=fun Z Z Z=>True) (motive_2:=fun l vs Z=>M l vs) (fun Z=>trivial) (fun Z=>trivial) (fun Z Z Z=>trivial) (fun Z=>trivial) (fun Z Z=>trivial) (fun Z=>trivial) n (fun a b Z d=>c a b d) r
theorem noGetE {α β:Type} {i:Nat} {v:α} {P:β->Prop} (e:([]:List α)[i]?=some v):∃ u,P u:=nomatch List.getElem?_nil.symm.trans e
theorem GRep.mono {h h':Heap} (k:∀ a it,TupD h a it->TupD h' a it):∀ {v u},GRep h v u->GRep h' v u:=by
 intro v u r
 exact GRep.rec (motive_1:=fun v u Z=>GRep h' v u) (motive_2:=fun l vs Z=>GReps h' l vs) .none .int .str (fun t Z q=>.tup (k _ _ t) q) .nil (fun Z Z a b=>.cons a b) r
theorem GReps.mono {h h':Heap} (k:∀ a it,TupD h a it->TupD h' a it):∀ {l vs},GReps h l vs->GReps h' l vs:=fun r=>r.ind .nil fun a Z q=>.cons (a.mono k) q
theorem G4 {n:Nat} {v:AV} {l:List AV} (h:A5 n (v::l)=true):v.within n=true:=by
 cases e:v.within n with
 | true=>rfl
 | false=>rw [A5,e] at h; cases h
theorem J9 {n:Nat} {v:AV} {l:List AV} (h:A5 n (v::l)=true):A5 n l=true:=by rw [A5,G4 h] at h; exact h
theorem within_cons {n:Nat} {v:AV} {l:List AV} (h:v.within n=true) (k:A5 n l=true):A5 n (v::l)=true:=by rw [A5,h]; exact k
theorem VRep.mono {h₀ h h':Heap} {W W':Wd} {n:Nat} (k:∀ a it,TupD h a it->TupD h' a it) (g:∀ i,i < n->W'.a i=W.a i) :
  ∀ {v u},VRep h₀ W h v u->v.within n=true->VRep h₀ W' h' v u:=by
 intro v u r
 refine VRep.rec (motive_1:=fun v u Z=>v.within n=true->VRep h₀ W' h' v u) (motive_2:=fun l vs Z=>A5 n l=true->VReps h₀ W' h' l vs) ?_ ?_ ?_ ?_ ?_ ?_ ?_ ?_ r
 ·exact fun q Z=>.g (q.mono k)
 ·exact fun b Z=>.bool b
 ·exact fun t Z q hw=>.tup (k _ _ t) (q (hw))
 ·intro i hw
  have:W'.a i=W.a i:=g i (Nat.blt_eq.mp (hw))
  rw [<- this]; exact .obj i
 ·exact fun a b Z=>.frz a b
 ·exact fun e Z=>.any e
 ·exact fun Z=>.nil
 ·intro v l u vs _ _ a b hw
  exact .cons (a (G4 hw)) (b (J9 hw))
theorem VReps.mono {h₀ h h':Heap} {W W':Wd} {n:Nat} (k:∀ a it,TupD h a it->TupD h' a it) (g:∀ i,i < n->W'.a i=W.a i) :
  ∀ {l vs},VReps h₀ W h l vs->A5 n l=true->VReps h₀ W' h' l vs:=fun r=>r.ind (fun Z=>.nil) fun {v l Z Z} a Z q hw=>.cons (a.mono k g (G4 hw)) (q (J9 hw))
theorem GReps.length {h:Heap}:∀ {l:List GV} {vs:List Value},GReps h l vs->l.length=vs.length:=fun r=>r.ind rfl fun Z Z q=>congrArg Nat.succ q
theorem VReps.length {h₀ h:Heap} {W:Wd}:∀ {l:List AV} {vs:List Value},VReps h₀ W h l vs->l.length=vs.length:=fun r=>r.ind rfl fun Z Z q=>congrArg Nat.succ q
theorem GReps.get {h:Heap}:∀ {l:List GV} {vs:List Value},GReps h l vs->∀ {i:Nat} {v:GV},l[i]?=some v->∃ u,vs[i]?=some u/\GRep h v u:=fun r=>
 @GReps.ind h (fun l vs=>∀ {i:Nat} {v:GV},l[i]?=some v->∃ u,vs[i]?=some u/\GRep h v u) (fun e=>noGetE e) (fun {Z Z Z Z} a Z q {i Z} e=>by
  cases i with
  | zero=>cases e; exact ⟨_,rfl,a⟩
  | succ i=>exact q (i:=i) e) _ _ r
theorem VReps.get {h₀ h:Heap} {W:Wd}:∀ {l:List AV} {vs:List Value},VReps h₀ W h l vs->∀ {i:Nat} {v:AV},l[i]?=some v->∃ u,vs[i]?=some u/\VRep h₀ W h v u:=fun r=>
 @VReps.ind h₀ h W (fun l vs=>∀ {i:Nat} {v:AV},l[i]?=some v->∃ u,vs[i]?=some u/\VRep h₀ W h v u) (fun e=>noGetE e) (fun {Z Z Z Z} a Z q {i Z} e=>by
  cases i with
  | zero=>cases e; exact ⟨_,rfl,a⟩
  | succ i=>exact q (i:=i) e) _ _ r
theorem GReps.toV {h₀ h:Heap} {W:Wd}:∀ {l:List GV} {vs:List Value},GReps h l vs->VReps h₀ W h (l.map .g) vs:=fun r=>r.ind .nil fun a Z q=>.cons (.g a) q
theorem GReps.append {h:Heap}:∀ {l:List GV} {vs:List Value},GReps h l vs->∀ {l' vs'},GReps h l' vs'->GReps h (l++l') (vs++vs'):=fun r=>r.ind (fun b=>b) fun a Z q b=>.cons a (q b)
theorem VReps.append {h₀ h:Heap} {W:Wd}:∀ {l:List AV} {vs:List Value},VReps h₀ W h l vs->∀ {l' vs'},VReps h₀ W h l' vs'->VReps h₀ W h (l++l') (vs++vs'):=fun r=>r.ind (fun b=>b) fun a Z q b=>.cons a (q b)
theorem grounds_e {v:AV} {l:List AV} {g:List GV} (e:J1 (v::l)=some g):∃ x k,v=.g x/\J1 l=some k/\g=x::k:=by
 cases v with
 | g x=>
  have e:(match J1 l with | some l=>some (x::l) | none=>none)=some g:=e
  cases hl:J1 l with
  | none=>rw [hl] at e; cases e
  | some k=>rw [hl] at e; exact ⟨x,k,rfl,rfl,(Option.some.inj e).symm⟩
 | _=>cases e
theorem grounds_rep {h₀ h:Heap} {W:Wd} {l:List AV}:∀ {vs:List Value} {g:List GV},VReps h₀ W h l vs->J1 l=some g->GReps h g vs:=by
 induction l with
 | nil=>intro vs g r e; cases r; cases e; exact .nil
 | cons v l ih=>
  intro vs g r e
  obtain ⟨x,k,rfl,hl,e⟩:=grounds_e e
  rw [e]
  cases r with
  | cons a b=>cases a with
   | g a=>exact .cons a (ih b hl)
inductive FRep (P:Params) (h₀:Heap) (W:Wd) (h:Heap):List (Nat × AV)->List DictEntry->Prop
 | nil:FRep P h₀ W h [] []
 | cons {x:Nat} {v:AV} {u:Value} {t:Tok} {fs:List (Nat × AV)} {es:List DictEntry}:x < nmL.length->VRep h₀ W h v u->FRep P h₀ W h fs es->FRep P h₀ W h ((x,v)::fs) (⟨PyData.keyHash P (nm x),.str (nm x) t,u⟩::es)
inductive IRep:List (Int × Int)->List (Int × Value)->Prop
 | nil:IRep [] []
 | cons {k v:Int} {t:Tok} {l:List (Int × Int)} {kvs:List (Int × Value)}:IRep l kvs->IRep ((k,v)::l) ((k,.int v t)::kvs)
inductive SRep (h₀:Heap) (W:Wd) (h:Heap):List (List Nat × AV)->List (Str × Value)->Prop
 | nil:SRep h₀ W h [] []
 | cons {x:List Nat} {v:AV} {u:Value} {l:List (List Nat × AV)} {kvs:List (Str × Value)}:VRep h₀ W h v u->SRep h₀ W h l kvs->SRep h₀ W h ((x,v)::l) ((A6 x,u)::kvs)
noncomputable def ORep (w:World) (h₀:Heap) (W:Wd) (h:Heap) (i:Nat):AO->Prop
 | .gl l=>W.d i=W.a i/\∃ (vs:List Value) (n:Nat),IsL h (W.a i) vs.toArray n/\GReps h l vs
 | .ol l=>W.d i=W.a i/\∃ (vs:List Value) (n:Nat),IsL h (W.a i) vs.toArray n/\VReps h₀ W h l vs
 | .inst c fs=>W.d i≠W.a i/\((∀ p∈fs,fieldL c p.1=true)/\(fs.map (·.1)).Nodup)/\∃ sl es n,h.get? (W.a i)=some ⟨.ref c,some (W.d i),.plain,sl⟩/\h.get? (W.d i)=some (dictOf es n)/\FRep w.params h₀ W h fs es
 | .di l=>W.d i=W.a i/\∃ kvs,h.DictOf (intKind pw w) (W.a i) kvs/\IRep l kvs
 | .ds l=>W.d i=W.a i/\∃ kvs,h.DictOf (strKind pw w) (W.a i) kvs/\SRep h₀ W h l kvs
noncomputable def Own (W:Wd) (st:St) (b:Addr):Prop:=∃ i,(st.get i).isSome=true/\(b=W.a i\/b=W.d i)
noncomputable def Kept (b:Addr) (h h':Heap):Prop:=∀ o,h.get? b=some o->h'.get? b=some o\/((∃ es n,o.data=.dict es n)/\∃ sl,h'.get? b=some {o with slots:=sl})
theorem Kept.trans {b:Addr} {h h' h'':Heap} (x:Kept b h h') (y:Kept b h' h''):Kept b h h'':=fun o e=>by
 rcases x o e with e1 | ⟨⟨es,n,hd⟩,sl,e1⟩
 ·exact y o e1
 ·rcases y _ e1 with e2 | ⟨_,sl',e2⟩
  ·exact .inr ⟨⟨es,n,hd⟩,sl,e2⟩
  ·exact .inr ⟨⟨es,n,hd⟩,sl',e2⟩
theorem Kept.refl (b:Addr) (h:Heap):Kept b h h:=fun Z e=>.inl e
structure Step (ex:List Addr) (W:Wd) (st:St) (h:Heap) (W':Wd) (st':St) (h':Heap):Prop where
 agree:∀ i,i < st.nx->W'.a i=W.a i/\W'.d i=W.d i
 nx:st.nx<=st'.nx
 sub:∀ i,i < st.nx->(st'.get i).isSome=true->(st.get i).isSome=true
 fresh:∀ i,st.nx<=i->(st'.get i).isSome=true->h.get? (W'.a i)=none/\h.get? (W'.d i)=none
 evo:∀ b,b∉ex->¬ Own W st b->Kept b h h'
 live:∀ b o,h.get? b=some o->∃ o',h'.get? b=some o'
 tup:∀ a it,TupD h a it->TupD h' a it
theorem Step.refl (ex:List Addr) (W:Wd) (st:St) (h:Heap) (low:∀ i,(st.get i).isSome=true->i < st.nx):Step ex W st h W st h:=
 ⟨fun Z Z=>⟨rfl,rfl⟩,Nat.le_refl _,fun Z Z e=>e,fun i q e=>absurd (low i e) (Nat.not_lt.mpr q),fun b Z Z=>.refl b h,fun Z o e=>⟨o,e⟩,fun Z Z e=>e⟩
theorem Step.own_back {ex:List Addr} {W W':Wd} {st st':St} {h h':Heap} (x:Step ex W st h W' st' h') {b:Addr} (q:Own W' st' b):Own W st b\/h.get? b=none:=by
 obtain ⟨i,hi,hb⟩:=q
 by_cases lt:i < st.nx
 ·obtain ⟨e1,e2⟩:=x.agree i lt
  exact .inl ⟨i,x.sub i lt hi,by rw [<- e1,<- e2]; exact hb⟩
 ·obtain ⟨f1,f2⟩:=x.fresh i (Nat.le_of_not_lt lt) hi
  rcases hb with rfl | rfl<;>exact .inr ‹_›
theorem Step.trans' {ex₁ ex₂ ex:List Addr} {W W' W'':Wd} {st st' st'':St} {h h' h'':Heap} (x:Step ex₁ W st h W' st' h') (y:Step ex₂ W' st' h' W'' st'' h'') (hs:∀ b∈ex₁,b∈ex) (hn:∀ b∈ex₂,b∈ex\/h.get? b=none):Step ex W st h W'' st'' h'' where
 agree i hi:=⟨((y.agree i (Nat.lt_of_lt_of_le hi x.nx)).1).trans (x.agree i hi).1,((y.agree i (Nat.lt_of_lt_of_le hi x.nx)).2).trans (x.agree i hi).2⟩
 nx:=Nat.le_trans x.nx y.nx
 sub i hi e:=x.sub i hi (y.sub i (Nat.lt_of_lt_of_le hi x.nx) e)
 fresh i hi e:=by
  have dead:∀ b,h'.get? b=none->h.get? b=none:=fun b q=>by
   cases e:h.get? b with
   | none=>rfl
   | some o=>obtain ⟨o',e'⟩:=x.live b o e; rw [q] at e'; cases e'
  by_cases lt:i < st'.nx
  ·obtain ⟨e1,e2⟩:=y.agree i lt
   rw [e1,e2]
   exact x.fresh i hi (y.sub i lt e)
  ·exact ⟨dead _ (y.fresh i (Nat.le_of_not_lt lt) e).1,dead _ (y.fresh i (Nat.le_of_not_lt lt) e).2⟩
 evo b hb ho:=by
  cases e:h.get? b with
  | none=>exact fun o q=>by rw [e] at q; cases q
  | some o=>
   refine (x.evo b (fun q=>hb (hs b q)) ho).trans (y.evo b (fun q=>?_) fun q=>?_)
   ·rcases hn b q with q | q
    ·exact hb q
    ·rw [e] at q; cases q
   ·rcases x.own_back q with q | q
    ·exact ho q
    ·rw [e] at q; cases q
 live b o e:=(x.live b o e).elim fun o' e'=>y.live b o' e'
 tup a it e:=y.tup a it (x.tup a it e)
theorem Step.trans {ex:List Addr} {W W' W'':Wd} {st st' st'':St} {h h' h'':Heap} (x:Step ex W st h W' st' h') (y:Step ex W' st' h' W'' st'' h''):Step ex W st h W'' st'' h'':=
 x.trans' y (fun Z q=>q) (fun Z q=>.inl q)
theorem Step.more {ex ex':List Addr} {W W':Wd} {st st':St} {h h':Heap} (x:Step ex W st h W' st' h') (hs:∀ b∈ex,b∈ex'):Step ex' W st h W' st' h':=
 {x with evo:=fun b hb=>x.evo b fun q=>hb (hs b q)}
theorem Step.val {ex:List Addr} {W W':Wd} {st st':St} {h h' h₀:Heap} (x:Step ex W st h W' st' h') {v:AV} {u:Value} (r:VRep h₀ W h v u) (hw:v.within st.nx=true):VRep h₀ W' h' v u:=
 r.mono x.tup (fun i hi=>(x.agree i hi).1) hw
theorem Step.vals {ex:List Addr} {W W':Wd} {st st':St} {h h' h₀:Heap} (x:Step ex W st h W' st' h') {v:List AV} {u:List Value} (r:VReps h₀ W h v u) (hw:A5 st.nx v=true):VReps h₀ W' h' v u:=
 r.mono x.tup (fun i hi=>(x.agree i hi).1) hw
structure Good (w:World) (h₀:Heap) (W:Wd) (st:St) (h:Heap):Prop where
 stays:h₀.StaysIn h
 rep:∀ i o,st.get i=some o->ORep w h₀ W h i o
 low:∀ i,(st.get i).isSome=true->i < st.nx
 new:∀ b,Own W st b->h₀.get? b=none
 apart:∀ i j,(st.get i).isSome=true->(st.get j).isSome=true->i≠j->W.a i≠W.a j/\W.d i≠W.d j/\W.a i≠W.d j
 wf:st.cut st.nx=st
set_option tactic.hygienic true
theorem cut_iff {n:Nat} {v:AV}:v.cut n=v↔v.within n=true:=by
 unfold AV.cut
 cases e:v.within n with
 | true=>exact ⟨fun Z=>rfl,fun Z=>rfl⟩
 | false=>exact ⟨fun q=>((congrArg (AV.within n) q).trans e).symm,fun q=>Bool.noConfusion q⟩
theorem cut_within (n:Nat) (v:AV):(v.cut n).within n=true:=by
 unfold AV.cut
 cases e:v.within n with
 | true=>exact e
 | false=>rfl
theorem wiC {n:Nat} {v:AV} {r:List AV}:A5 n (v::r)=(v.within n&&A5 n r):=by
 show (match v.within n with | true=>A5 n r | false=>false)=_
 cases v.within n<;>rfl
theorem withinAll_iff {n:Nat} {l:List AV}:A5 n l=true↔∀ v∈l,v.within n=true:=by
 induction l with
 | nil=>exact ⟨(fun Z Z h=>nomatch h),fun Z=>rfl⟩
 | cons v r ih=>
  rw [wiC,Bool.and_eq_true,ih]
  exact ⟨fun h x hx=>(List.mem_cons.mp hx).elim (fun e=>e▸h.1) (h.2 x),fun h=>⟨h v (.head _),fun x hx=>h x (.tail _ hx)⟩⟩
mutual
theorem E9 {n m:Nat} (h:n<=m):∀ {v:AV},v.within n=true->v.within m=true
 | .obj _,e=>Nat.blt_eq.mpr (Nat.lt_of_lt_of_le (Nat.blt_eq.mp e) h)
 | .tup _,e=>I4 h e
 | .g _,_=>rfl
 | .bool _,_=>rfl
 | .frz _,_=>rfl
 | .any,_=>rfl
theorem I4 {n m:Nat} (h:n<=m):∀ {l:List AV},A5 n l=true->A5 m l=true
 | [],_=>rfl
 | v::r,e=>by
  rw [wiC,Bool.and_eq_true] at e ⊢
  exact ⟨E9 h e.1,I4 h e.2⟩
end
noncomputable def AO.In (n:Nat):AO->Prop
 | .ol l=>A5 n l=true
 | .inst _ fs=>∀ p∈fs,p.2.within n=true
 | .ds l=>∀ p∈l,p.2.within n=true
 | _=>True
theorem cut_pairs {α:Type} {n:Nat} {f:List (α × AV)->List (α × AV)} (h0:f []=[]) (h1:∀ x v r,f ((x,v)::r)=(x,v.cut n)::f r) {l:List (α × AV)}:f l=l↔∀ p∈l,p.2.within n=true:=by
 induction l with
 | nil=>exact ⟨(fun Z Z h=>nomatch h),fun Z=>h0⟩
 | cons p r ih=>
  rw [h1]
  refine ⟨fun h x hx=>?_,fun h=>?_⟩
  ·obtain ⟨h2,h3⟩:=List.cons.inj h
   exact (List.mem_cons.mp hx).elim (fun e=>e▸cut_iff.mp (congrArg Prod.snd h2)) (ih.mp h3 x)
  ·rw [cut_iff.mpr (h p (.head _)),ih.mpr fun x hx=>h x (.tail _ hx)]
theorem cutVs_iff {n:Nat} {l:A2}:E1 n l=l↔∀ p∈l,p.2.within n=true:=cut_pairs rfl fun Z Z Z=>rfl
theorem cutDs_iff {n:Nat} {l:List (List Nat × AV)}:cutDs n l=l↔∀ p∈l,p.2.within n=true:=cut_pairs rfl fun Z Z Z=>rfl
noncomputable def AO.ols (o:AO):List AV:=match o with
 | .ol l=>l
 | _=>[]
noncomputable def AO.fs (o:AO):A2:=match o with
 | .inst _ l=>l
 | _=>[]
noncomputable def AO.dss (o:AO):List (List Nat × AV):=match o with
 | .ds l=>l
 | _=>[]
theorem cutL_iff {n:Nat} {l:List AV}:l.map (AV.cut n)=l↔A5 n l=true:=by
 rw [withinAll_iff]
 induction l with
 | nil=>exact ⟨(fun Z Z h=>nomatch h),fun Z=>rfl⟩
 | cons p r ih=>
  rw [List.map_cons]
  refine ⟨fun h x hx=>?_,fun h=>?_⟩
  ·obtain ⟨h2,h3⟩:=List.cons.inj h
   exact (List.mem_cons.mp hx).elim (fun e=>e▸cut_iff.mp h2) (ih.mp h3 x)
  ·rw [cut_iff.mpr (h p (.head _)),ih.mpr fun x hx=>h x (.tail _ hx)]
theorem cutO_iff {n:Nat} {o:AO}:o.cut n=o↔o.In n:=by
 cases o with
 | gl l=>exact ⟨fun Z=>trivial,fun Z=>rfl⟩
 | di l=>exact ⟨fun Z=>trivial,fun Z=>rfl⟩
 | inst c fs=>exact ⟨fun h=>cutVs_iff.mp (congrArg AO.fs h),fun h=>congrArg (AO.inst c) (cutVs_iff.mpr h)⟩
 | ds l=>exact ⟨fun h=>cutDs_iff.mp (congrArg AO.dss h),fun h=>congrArg AO.ds (cutDs_iff.mpr h)⟩
 | ol l=>exact ⟨fun h=>cutL_iff.mp (congrArg AO.ols h),fun h=>congrArg AO.ol (cutL_iff.mpr h)⟩
theorem AO.In.mono {n m:Nat} (h:n<=m):∀ {o:AO},o.In n->o.In m
 | .gl _,_=>trivial
 | .di _,_=>trivial
 | .ol _,e=>I4 h e
 | .inst _ _,e=>fun p hp=>E9 h (e p hp)
 | .ds _,e=>fun p hp=>E9 h (e p hp)
theorem cutSto_len {n:Nat} (l:List (Nat × AO)):(G9 n l).length<=l.length:=by
 induction l with
 | nil=>exact Nat.le_refl _
 | cons p t ih=>
  have h:G9 n (p::t)=match Nat.blt p.1 n with | true=>(p.1,p.2.cut n)::G9 n t | false=>G9 n t:=rfl
  rw [h]
  cases Nat.blt p.1 n with
  | true=>exact Nat.succ_le_succ ih
  | false=>exact Nat.le_succ_of_le ih
theorem cutSto_iff {n:Nat} {l:List (Nat × AO)}:G9 n l=l↔∀ p∈l,p.1 < n/\p.2.In n:=by
 induction l with
 | nil=>exact ⟨fun Z Z h=>(nomatch h),fun Z=>rfl⟩
 | cons p r ih=>
  have h:G9 n (p::r)=match Nat.blt p.1 n with | true=>(p.1,p.2.cut n)::G9 n r | false=>G9 n r:=rfl
  rw [h,List.forall_mem_cons,<- ih,<- cutO_iff]
  cases e:Nat.blt p.1 n with
  | true=>exact ⟨fun q=>by injection q with q1 q2; exact ⟨⟨Nat.blt_eq.mp e,congrArg Prod.snd q1⟩,q2⟩,fun q=>by show (p.1,p.2.cut n)::G9 n r=_; rw [q.1.2,q.2]⟩
  | false=>exact ⟨fun q=>absurd (congrArg List.length q) (Nat.ne_of_lt (Nat.lt_succ_of_le (cutSto_len r))),fun q=>by rw [Nat.blt_eq.mpr q.1.1] at e; cases e⟩
theorem wf_iff {st:St}:st.cut st.nx=st↔∀ p∈st.sto,p.1 < st.nx/\p.2.In st.nx:=by
 refine Iff.trans ⟨fun q=>?_,fun q=>?_⟩ cutSto_iff
 ·exact congrArg St.sto q
 ·unfold St.cut; rw [q]
theorem B1 {α:Type} (j:Nat) (p:Nat × α) (r:List (Nat × α)):B2 j (p::r)=if j=p.1 then some p.2 else B2 j r:=by
 show (match j==p.1 with | true=>some p.2 | false=>B2 j r)=_
 by_cases e:j=p.1
 ·rw [if_pos e,beq_iff_eq.mpr e]
 ·rw [if_neg e,beq_false_of_ne e]
theorem C7 {α:Type} {k:Nat} {v:α} {l:List (Nat × α)} (e:B2 k l=some v):(k,v)∈l:=by
 induction l with
 | nil=>cases e
 | cons p r ih=>
  rw [B1] at e
  by_cases q:k=p.1
  ·rw [if_pos q] at e; cases e; rw [q]; exact .head _
  ·rw [if_neg q] at e; exact .tail _ (ih e)
theorem look_put {α:Type} (k j:Nat) (v:α) (l:List (Nat × α)):B2 j (put k v l)=if j=k then some v else B2 j l:=by
 induction l with
 | nil=>exact B1 j (k,v) []
 | cons p r ih=>
  have h:put k v (p::r)=match k==p.1 with | true=>(p.1,v)::r | false=>p::put k v r:=rfl
  rw [h]
  by_cases q:k=p.1
  ·rw [beq_iff_eq.mpr q]
   refine (B1 j (p.1,v) r).trans ?_
   rw [B1,q]
   by_cases e:j=p.1
   ·rw [if_pos e,if_pos e]
   ·rw [if_neg e,if_neg e,if_neg e]
  ·rw [beq_false_of_ne q]
   refine (B1 j p (put k v r)).trans ?_
   rw [B1,ih]
   by_cases e:j=p.1
   ·rw [if_pos e,if_pos e,if_neg fun z=>q (z.symm.trans e)]
   ·rw [if_neg e,if_neg e]
theorem mem_put {α:Type} {k:Nat} {v:α} {l:List (Nat × α)} {p:Nat × α} (h:p∈put k v l):p=(k,v)\/p∈l:=by
 induction l with
 | nil=>exact .inl (List.mem_singleton.mp h)
 | cons c r ih=>
  have e:put k v (c::r)=match k==c.1 with | true=>(c.1,v)::r | false=>c::put k v r:=rfl
  rw [e] at h
  by_cases q:k=c.1
  ·rw [beq_iff_eq.mpr q] at h
   exact (List.mem_cons.mp h).imp (fun z=>by rw [z,q]) fun z=>.tail _ z
  ·rw [beq_false_of_ne q] at h
   exact (List.mem_cons.mp h).elim (fun z=>.inr (z▸(.head _))) fun z=>(ih z).imp id fun z=>.tail _ z
theorem get_set (st:St) (i j:Nat) (o:AO):(st.set i o).get j=if j=i then some o else st.get j:=look_put i j o st.sto
theorem get_add (st:St) (j:Nat) (o:AO):(st.add o).get j=if j=st.nx then some o else st.get j:=by
 exact B1 j (st.nx,o) st.sto
theorem wf_in {st:St} (w:st.cut st.nx=st) {i:Nat} {o:AO} (e:st.get i=some o):i < st.nx/\o.In st.nx:=wf_iff.mp w (i,o) (C7 e)
theorem wf_set {st:St} (w:st.cut st.nx=st) {i:Nat} {o o':AO} (e:st.get i=some o) (q:o'.In st.nx):(st.set i o').cut st.nx=st.set i o':=by
 refine (wf_iff (st:=st.set i o')).mpr fun p hp=>?_
 rcases mem_put hp with rfl | hp
 ·exact ⟨(wf_in w e).1,q⟩
 ·exact wf_iff.mp w p hp
theorem wf_add {st:St} (w:st.cut st.nx=st) {o:AO} (q:o.In (st.nx+1)):(st.add o).cut (st.nx+1)=st.add o:=by
 refine (wf_iff (st:=st.add o)).mpr fun p hp=>?_
 rcases List.mem_cons.mp hp with rfl | hp
 ·exact ⟨Nat.lt_succ_self _,q⟩
 ·obtain ⟨a,b⟩:=wf_iff.mp w p hp
  exact ⟨Nat.lt_succ_of_lt a,b.mono (Nat.le_succ _)⟩
section
variable {w:World} {P:Params} {h₀ h h':Heap} {W W':Wd} {st:St} {n:Nat}
theorem FRep.mono (k:∀ a it,TupD h a it->TupD h' a it) (g:∀ i,i < n->W'.a i=W.a i):∀ {fs es},FRep P h₀ W h fs es->(∀ p∈fs,p.2.within n=true)->FRep P h₀ W' h' fs es:=fun r=>by
 induction r with
 | nil=>exact fun Z=>.nil
 | cons a b _ ih=>exact fun q=>.cons a (b.mono k g (q _ (.head _))) (ih fun p hp=>q p (.tail _ hp))
theorem SRep.mono (k:∀ a it,TupD h a it->TupD h' a it) (g:∀ i,i < n->W'.a i=W.a i):∀ {fs es},SRep h₀ W h fs es->(∀ p∈fs,p.2.within n=true)->SRep h₀ W' h' fs es:=fun r=>by
 induction r with
 | nil=>exact fun Z=>.nil
 | cons b _ ih=>exact fun q=>.cons (b.mono k g (q _ (.head _))) (ih fun p hp=>q p (.tail _ hp))
theorem ORep.mono {i:Nat} {o:AO} (k:∀ a it,TupD h a it->TupD h' a it) (g:∀ j,j < n->W'.a j=W.a j) (ga:W'.a i=W.a i) (gd:W'.d i=W.d i)
  (ka:∀ x,h.get? (W.a i)=some x->h'.get? (W.a i)=some x) (kd:∀ x,h.get? (W.d i)=some x->h'.get? (W.d i)=some x) (wi:o.In n) (r:ORep w h₀ W h i o):ORep w h₀ W' h' i o:=by
 cases o with
 | gl l=>
  obtain ⟨e,vs,n',e1,q⟩:=r
  exact ⟨by rw [ga,gd,e],vs,n',by rw [ga]; exact ka _ e1,q.mono k⟩
 | ol l=>
  obtain ⟨e,vs,n',e1,q⟩:=r
  exact ⟨by rw [ga,gd,e],vs,n',by rw [ga]; exact ka _ e1,q.mono k g wi⟩
 | inst c fs=>
  obtain ⟨e,fo,sl,es,m,e1,e2,q⟩:=r
  refine ⟨by rw [ga,gd]; exact e,fo,sl,es,m,?_,?_,q.mono k g wi⟩
  ·rw [ga,gd]; exact ka _ e1
  ·rw [gd]; exact kd _ e2
 | di l=>
  obtain ⟨e,kvs,⟨x,es,m,e1,e2⟩,q⟩:=r
  exact ⟨by rw [ga,gd,e],kvs,by rw [ga]; exact ⟨x,es,m,ka _ e1,e2⟩,q⟩
 | ds l=>
  obtain ⟨e,kvs,⟨x,es,m,e1,e2⟩,q⟩:=r
  exact ⟨by rw [ga,gd,e],kvs,by rw [ga]; exact ⟨x,es,m,ka _ e1,e2⟩,q.mono k g wi⟩
inductive OwnO (x:Obj):Prop where
 | seq (xs:Array Value) (n:Nat) (c:x.cls=.type "list") (d:x.data=.seq xs n)
 | dict (es:Array DictEntry) (n:Nat) (d:x.data=.dict es n)
 | plain (d:x.data=.plain)
theorem ORep.here {i:Nat} {o:AO} (r:ORep w h₀ W h i o):(∃ x,h.get? (W.a i)=some x/\OwnO x)/\∃ x,h.get? (W.d i)=some x/\OwnO x:=by
 cases o with
 | gl l=>exact r.2.elim fun vs r'=>r'.elim fun n r'=>by rw [r.1]; exact ⟨⟨_,r'.1,.seq _ _ rfl rfl⟩,⟨_,r'.1,.seq _ _ rfl rfl⟩⟩
 | ol l=>exact r.2.elim fun vs r'=>r'.elim fun n r'=>by rw [r.1]; exact ⟨⟨_,r'.1,.seq _ _ rfl rfl⟩,⟨_,r'.1,.seq _ _ rfl rfl⟩⟩
 | inst c fs=>obtain ⟨_,_,sl,es,m,e1,e2,_⟩:=r; exact ⟨⟨_,e1,.plain rfl⟩,⟨_,e2,.dict _ _ rfl⟩⟩
 | di l=>obtain ⟨e,_,⟨_,_,_,e1,_,e2,_⟩,_⟩:=r; rw [e]; exact ⟨⟨_,e1,.dict _ _ e2⟩,⟨_,e1,.dict _ _ e2⟩⟩
 | ds l=>obtain ⟨e,_,⟨_,_,_,e1,_,e2,_⟩,_⟩:=r; rw [e]; exact ⟨⟨_,e1,.dict _ _ e2⟩,⟨_,e1,.dict _ _ e2⟩⟩
theorem Good.ownO (G:Good w h₀ W st h) {b:Addr} (o:Own W st b):∃ x,h.get? b=some x/\OwnO x:=by
 obtain ⟨i,hi,hb⟩:=o
 obtain ⟨x,hx⟩:=Option.isSome_iff_exists.mp hi
 rcases hb with hb | hb
 ·rw [hb]; exact (G.rep i x hx).here.1
 ·rw [hb]; exact (G.rep i x hx).here.2
theorem Good.noTup (G:Good w h₀ W st h) {b:Addr} (o:Own W st b) {it:Array Value}:¬ TupD h b it:=fun t=>by
 obtain ⟨y,hy,q⟩:=G.ownO o
 obtain ⟨x,hx,hc,_,m,hd⟩:=t
 cases hx.symm.trans hy
 cases q with
 | seq _ _ c=>exact absurd (hc.symm.trans c) (by decide)
 | dict _ _ d=>cases hd.symm.trans d
 | plain d=>cases hd.symm.trans d
theorem Good.inn (G:Good w h₀ W st h) {i:Nat} {o:AO} (e:st.get i=some o):o.In st.nx:=(wf_in G.wf e).2
theorem Good.grow (G:Good w h₀ W st h) (k:∀ b o,h.get? b=some o->h'.get? b=some o):Good w h₀ W st h'/\Step [] W st h W st h':=by
 have kt:∀ a it,TupD h a it->TupD h' a it:=fun a it x=>x.imp fun o y=>⟨k _ _ y.1,y.2⟩
 refine ⟨{G with stays:=fun b o e=>k b o (G.stays b o e),rep:=fun i o e=>(G.rep i o e).mono kt (fun Z Z=>rfl) rfl rfl (k _) (k _) (G.inn e)},?_⟩
 exact ⟨fun Z Z=>⟨rfl,rfl⟩,Nat.le_refl _,fun Z Z e=>e,fun i q e=>absurd (G.low i e) (Nat.not_lt.mpr q),fun b Z Z o e=>.inl (k b o e),fun b o e=>⟨o,k b o e⟩,kt⟩
theorem Good.upd (G:Good w h₀ W st h) {i:Nat} {o o':AO} {b:Addr} (e:st.get i=some o) (hb:b=W.a i\/b=W.d i) (k:Heap.ExtBut b h h') (hl:∃ x,h'.get? b=some x)
  (r:(∀ a it,TupD h a it->TupD h' a it)->ORep w h₀ W h' i o') (wi:o'.In st.nx):Good w h₀ W (st.set i o') h'/\Step [] W st h W (st.set i o') h':=by
 have ob:Own W st b:=⟨i,by rw [e]; rfl,hb⟩
 have kt:∀ a it,TupD h a it->TupD h' a it:=fun a it t=>by
  by_cases q:a=b
  ·subst q; exact absurd t (G.noTup ob)
  ·obtain ⟨x,ex,rx⟩:=t; exact ⟨x,k a x q ex,rx⟩
 have some_of:∀ j,((st.set i o').get j).isSome=true↔(st.get j).isSome=true:=fun j=>by
  rw [get_set]; split
  ·rename_i q; subst q; simp [e]
  ·rfl
 have own_of:∀ c,Own W (st.set i o') c↔Own W st c:=fun c=>by
  constructor
  ·rintro ⟨j,hj,q⟩; exact ⟨j,(some_of j).mp hj,q⟩
  ·rintro ⟨j,hj,q⟩; exact ⟨j,(some_of j).mpr hj,q⟩
 refine ⟨⟨fun c x hc=>?_,fun j x hj=>?_,fun j hj=>G.low j ((some_of j).mp hj),fun c hc=>G.new c ((own_of c).mp hc),fun j l hj hl' ne=>G.apart j l ((some_of j).mp hj) ((some_of l).mp hl') ne,wf_set G.wf e wi⟩,?_⟩
 ·refine k c x (fun q=>?_) (G.stays c x hc)
  subst q; rw [G.new c ob] at hc; cases hc
 ·rw [get_set] at hj
  split at hj
  ·rename_i q; subst q; cases hj; exact r kt
  ·rename_i ne
   refine byG fun G_ k_=>?_
   obtain ⟨p1,p2,p3⟩:=G.apart i j (by rw [e]; rfl) (by rw [hj]; rfl) (Ne.symm ne)
   obtain ⟨_,_,p4⟩:=G.apart j i (by rw [hj]; rfl) (by rw [e]; rfl) ne
   have nb1:W.a j≠b:=by rcases hb with rfl | rfl; exact Ne.symm p1; exact p4
   have nb2:W.d j≠b:=by rcases hb with rfl | rfl; exact Ne.symm p3; exact Ne.symm p2
   refine k_ ?_
   exact (G.rep j x hj).mono kt (fun Z Z=>rfl) rfl rfl (fun y hy=>k _ y nb1 hy) (fun y hy=>k _ y nb2 hy) (G.inn hj)
 ·refine ⟨fun Z Z=>⟨rfl,rfl⟩,Nat.le_refl _,fun j Z hj=>(some_of j).mp hj,fun j q hj=>absurd (G.low j ((some_of j).mp hj)) (Nat.not_lt.mpr q),fun c Z nc x hx=>.inl (k c x (fun q=>nc (q▸ob)) hx),fun c x hx=>?_,kt⟩
  by_cases q:c=b
  ·subst q; exact hl
  ·exact ⟨x,k c x q hx⟩
noncomputable def Wd.add (W:Wd) (n:Nat) (a d:Addr):Wd:=⟨fun i=>if i=n then a else W.a i,fun i=>if i=n then d else W.d i⟩
theorem Wd.add_a {W:Wd} {n:Nat} {a d:Addr}:(W.add n a d).a n=a:=if_pos rfl
theorem Wd.add_d {W:Wd} {n:Nat} {a d:Addr}:(W.add n a d).d n=d:=if_pos rfl
theorem Wd.old_a {W:Wd} {n i:Nat} {a d:Addr} (h:i < n):(W.add n a d).a i=W.a i:=if_neg (Nat.ne_of_lt h)
theorem Wd.old_d {W:Wd} {n i:Nat} {a d:Addr} (h:i < n):(W.add n a d).d i=W.d i:=if_neg (Nat.ne_of_lt h)
theorem Good.is_add (G:Good w h₀ W st h) {o:AO} {i:Nat} (hi:((st.add o).get i).isSome=true):i=st.nx\/(i < st.nx/\(st.get i).isSome=true):=by
 rw [get_add] at hi
 by_cases q:i=st.nx
 ·exact .inl q
 ·rw [if_neg q] at hi; exact .inr ⟨G.low i hi,hi⟩
theorem Good.take (G:Good w h₀ W st h) {o:AO} {a d:Addr} (na:¬ Own W st a) (nd:¬ Own W st d) (ha:h₀.get? a=none) (hd:h₀.get? d=none)
  (r:ORep w h₀ (W.add st.nx a d) h st.nx o) (wi:o.In (st.nx+1)):Good w h₀ (W.add st.nx a d) (st.add o) h where
 stays:=G.stays
 rep i x e:=by
  rw [get_add] at e
  by_cases q:i=st.nx
  ·rw [if_pos q] at e; rw [q,<- Option.some.inj e]; exact r
  ·rw [if_neg q] at e
   have lt:=G.low i (by rw [e]; rfl)
   exact (G.rep i x e).mono (fun Z Z e=>e) (fun j hj=>Wd.old_a hj) (Wd.old_a lt) (Wd.old_d lt) (fun Z e=>e) (fun Z e=>e) (G.inn e)
 low i hi:=(G.is_add hi).elim (fun q=>q▸(Nat.lt_succ_self _)) fun q=>Nat.lt_succ_of_lt q.1
 new b hb:=by
  refine byG fun G_ k_=>?_
  obtain ⟨i,hi,hb⟩:=hb
  refine k_ ?_
  rcases G.is_add hi with q | ⟨lt,q⟩
  ·rw [q,Wd.add_a,Wd.add_d] at hb; exact hb.elim (fun e=>by rw [e]; exact ha) fun e=>by rw [e]; exact hd
  ·rw [Wd.old_a lt,Wd.old_d lt] at hb; exact G.new b ⟨i,q,hb⟩
 apart i j hi hj ne:=by
  rcases G.is_add hi with qi | ⟨li,qi⟩
  ·rcases G.is_add hj with qj | ⟨lj,qj⟩
   ·exact absurd (qi.trans qj.symm) ne
   ·rw [qi,Wd.add_a,Wd.add_d,Wd.old_a lj,Wd.old_d lj]
    exact ⟨fun q=>na ⟨j,qj,.inl q⟩,fun q=>nd ⟨j,qj,.inr q⟩,fun q=>na ⟨j,qj,.inr q⟩⟩
  ·rw [Wd.old_a li,Wd.old_d li]
   rcases G.is_add hj with qj | ⟨lj,qj⟩
   ·rw [qj,Wd.add_a,Wd.add_d]
    exact ⟨fun q=>na ⟨i,qi,.inl q.symm⟩,fun q=>nd ⟨i,qi,.inr q.symm⟩,fun q=>nd ⟨i,qi,.inl q.symm⟩⟩
   ·rw [Wd.old_a lj,Wd.old_d lj]; exact G.apart i j qi qj ne
 wf:=wf_add G.wf wi
theorem Step.take {ex:List Addr} {W₀:Wd} {st₀:St} {hs:Heap} (x:Step ex W₀ st₀ hs W st h) (G:Good w h₀ W st h) {o:AO} {a d:Addr} (ha:hs.get? a=none) (hd:hs.get? d=none):Step ex W₀ st₀ hs (W.add st.nx a d) (st.add o) h where
 agree i hi:=⟨(Wd.old_a (Nat.lt_of_lt_of_le hi x.nx)).trans (x.agree i hi).1,(Wd.old_d (Nat.lt_of_lt_of_le hi x.nx)).trans (x.agree i hi).2⟩
 nx:=Nat.le_succ_of_le x.nx
 sub i hi e:=(G.is_add e).elim (fun q=>absurd x.nx (Nat.not_le.mpr (q▸hi))) fun q=>x.sub i hi q.2
 fresh i hi e:=(G.is_add e).elim (fun q=>by rw [q,Wd.add_a,Wd.add_d]; exact ⟨ha,hd⟩) fun q=>by rw [Wd.old_a q.1,Wd.old_d q.1]; exact x.fresh i hi q.2
 evo:=x.evo
 live:=x.live
 tup:=x.tup
theorem Good.alloc (G:Good w h₀ W st h) {o:AO} {a d:Addr} (k:∀ b x,h.get? b=some x->h'.get? b=some x) (ha:h.get? a=none) (hd:h.get? d=none)
  (r:ORep w h₀ (W.add st.nx a d) h' st.nx o) (wi:o.In (st.nx+1)):Good w h₀ (W.add st.nx a d) (st.add o) h'/\Step [] W st h (W.add st.nx a d) (st.add o) h':=by
 obtain ⟨G',S⟩:=G.grow k
 have no:∀ {b:Addr},h.get? b=none->¬ Own W st b:=fun e q=>(G.ownO q).elim fun x y=>by cases e.symm.trans y.1
 have dead:∀ {b:Addr},h.get? b=none->h₀.get? b=none:=fun {b} q=>by
  cases e:h₀.get? b with
  | none=>rfl
  | some x=>cases q.symm.trans (G.stays b x e)
 exact ⟨G'.take (no ha) (no hd) (dead ha) (dead hd) r wi,S.take G' ha hd⟩
end
set_option tactic.hygienic false
noncomputable def FrsOK (h₀:Heap) (W:Wd) (st:St) (h:Heap) (fs:List Env):Prop:=
 ∀ e∈fs,e.scope.kind≠.module/\∃ f o,e.frame=some f/\h₀.get? f=none/\h.get? f=some o/\(∃ es n,o.data=.dict es n)/\¬ Own W st f
structure Frm (h₀:Heap) (env:Env) (vs:A2) (W:Wd) (st:St) (h:Heap):Prop where
 kind:env.scope.kind=.function
 glob:env.globals=mainGlobals
 bi:env.builtins=builtinsNs
 newL:h₀.get? env.locals=none
 notL:¬ Own W st env.locals
 ns:∃ m,h.Ns env.locals m/\∀ x v,B2 x vs=some v->env.kindOf (nm x)=some .local->∃ u,m (nm x)=some u/\VRep h₀ W h v u
 cell:∀ x v,B2 x vs=some v->env.kindOf (nm x)=some .cell\/env.kindOf (nm x)=some .free->∃ a u,env.cells.lookup (nm x)=some a/\(∃ o,h.get? a=some o/\o.data=.cell (some u))/\VRep h₀ W h v u
 cells:∀ p∈env.cells,(∃ o c,h.get? p.2=some o/\o.data=.cell c)/\h₀.get? p.2=none
 cellAll:∀ n,env.kindOf n=some .cell->∃ a,env.cells.lookup n=some a
 vwf:∀ p∈vs,p.2.within st.nx=true
structure Arnd (h₀:Heap) (A:Around) (W:Wd) (st:St) (h:Heap) (d:Nat) (k:Nat:=0):Prop where
 handled:A.handled=none
 frames:∃ fs,A.frames=some fs/\FrsOK h₀ W st h fs
 depth:A.depth+4*d<=900+k
 units:A.units+30*d<=9000+10*k
section
variable {w:World} {h₀ h h':Heap} {W W':Wd} {st st':St} {env:Env} {vs:A2} {A:Around} {d k:Nat} {fs:List Env}
theorem Good.notOwn (G:Good w h₀ W st h) {b:Addr} {o:Obj} (e:h.get? b=some o) (k:(∀ xs n,o.data≠.seq xs n)/\(∀ xs n,o.data≠.dict xs n)/\o.data≠.plain):¬ Own W st b:=fun q=>by
 obtain ⟨y,hy,q⟩:=G.ownO q
 cases e.symm.trans hy
 cases q with
 | seq _ _ _ d=>exact k.1 _ _ d
 | dict _ _ d=>exact k.2.1 _ _ d
 | plain d=>exact k.2.2 d
theorem Kept.cell {b:Addr} (k:Kept b h h') {o:Obj} {c:Option Value} (e:h.get? b=some o) (hd:o.data=.cell c):h'.get? b=some o:=by
 rcases k o e with q | ⟨⟨es,n,q⟩,_⟩
 ·exact q
 ·rw [hd] at q; cases q
theorem Kept.ns {b:Addr} (k:Kept b h h') {m:Str->Option Value} (e:h.Ns b m):h'.Ns b m:=by
 obtain ⟨o,es,ep,ho,hd,r⟩:=e
 rcases k o ho with q | ⟨_,sl,q⟩
 ·exact ⟨o,es,ep,q,hd,r⟩
 ·exact ⟨_,es,ep,q,hd,r⟩
theorem FrsOK.step (F:FrsOK h₀ W st h fs) (S:Step [] W st h W' st' h'):FrsOK h₀ W' st' h' fs:=fun e he=>by
 obtain ⟨k,f,o,a1,a2,a3,⟨es,n,a4⟩,a5⟩:=F e he
 refine ⟨k,f,?_⟩
 have no:¬ Own W' st' f:=fun q=>by
  rcases S.own_back q with q | q
  ·exact a5 q
  ·rw [a3] at q; cases q
 rcases S.evo f (by exact List.not_mem_nil) a5 o a3 with q | ⟨_,sl,q⟩
 ·exact ⟨o,a1,a2,q,⟨es,n,a4⟩,no⟩
 ·exact ⟨_,a1,a2,q,⟨es,n,a4⟩,no⟩
theorem Arnd.step (F:Arnd h₀ A W st h d k) (S:Step [] W st h W' st' h'):Arnd h₀ A W' st' h' d k:=
 {F with frames:=F.frames.imp fun Z y=>⟨y.1,y.2.step S⟩}
theorem Frm.step (F:Frm h₀ env vs W st h) (G:Good w h₀ W st h) (S:Step [] W st h W' st' h'):Frm h₀ env vs W' st' h':=by
 have vin:∀ x v,B2 x vs=some v->v.within st.nx=true:=fun x v e=>F.vwf _ (C7 e)
 obtain ⟨m,hm,hv⟩:=F.ns
 have ck:∀ a (o:Obj) c,h.get? a=some o->o.data=.cell c->h'.get? a=some o:=fun a o c e hd=>
  (S.evo a (by exact List.not_mem_nil) (G.notOwn e ⟨fun Z Z q=>(by rw [hd] at q; cases q),fun Z Z q=>(by rw [hd] at q; cases q),fun q=>(by rw [hd] at q; cases q)⟩)).cell e hd
 refine {F with notL:=fun q=>?_,ns:=⟨m,(S.evo _ (by exact List.not_mem_nil) F.notL).ns hm,fun x v e k=>?_⟩,cell:=fun x v e k=>?_,cells:=fun p hp=>?_,vwf:=fun p hp=>E9 S.nx (F.vwf p hp)}
 ·rcases S.own_back q with q | q
  ·exact F.notL q
  ·obtain ⟨o,_,_,ho,_⟩:=hm; rw [ho] at q; cases q
 ·obtain ⟨u,e1,r⟩:=hv x v e k
  exact ⟨u,e1,S.val r (vin x v e)⟩
 ·obtain ⟨a,u,e1,⟨o,e2,e3⟩,r⟩:=F.cell x v e k
  exact ⟨a,u,e1,⟨o,ck a o _ e2 e3,e3⟩,S.val r (vin x v e)⟩
 ·obtain ⟨⟨o,c,e1,e2⟩,e3⟩:=F.cells p hp
  exact ⟨⟨o,c,ck _ o _ e1 e2,e2⟩,e3⟩
inductive PostE (w:World) (h₀:Heap) (W:Wd) (st:St) (s:Shared) (Q:AV->St->Prop) (u:Value) (s':Shared):Prop where
 | mk (W':Wd) (st':St) (v:AV) (G:Good w h₀ W' st' s'.heap) (S:Step [] W st s.heap W' st' s'.heap) (g:s'.gens=s.gens/\s'.os=s.os) (r:VRep h₀ W' s'.heap v u) (n:v.within st'.nx=true) (q:Q v st'):PostE w h₀ W st s Q u s'
inductive PostEs (w:World) (h₀:Heap) (W:Wd) (st:St) (s:Shared) (Q:List AV->St->Prop) (us:List Value) (s':Shared):Prop where
 | mk (W':Wd) (st':St) (l:List AV) (G:Good w h₀ W' st' s'.heap) (S:Step [] W st s.heap W' st' s'.heap) (g:s'.gens=s.gens/\s'.os=s.os) (r:VReps h₀ W' s'.heap l us) (n:A5 st'.nx l=true) (q:Q l st'):PostEs w h₀ W st s Q us s'
noncomputable def Flies (hid:List Addr) (hX:Heap) (fs:List Env) (e:Addr) (h:Heap):Prop:=∃ a0,Heap.FlyingW (hideAll hX hid) fs e (.ref 70) a0 h/\hX.UpToSlots h
noncomputable def Held (hid:List Addr) (hX:Heap) (fs:List Env) (e:Addr) (L:Addr) (h:Heap):Prop:=∃ a0,Heap.HeldW (hideAll hX hid) fs e (.ref 70) a0 L h/\hX.UpToSlots h
inductive PostX (w:World) (h₀:Heap) (fs:List Env) (L:Option Addr) (W:Wd) (st:St) (s:Shared) (X:St->Prop) (u:Value) (s':Shared):Prop where
 | mk (W':Wd) (st':St) (hX:Heap) (hid:List Addr) (e:Addr) (he:u=.ref e) (G:Good w h₀ W' st' hX) (S:Step [] W st s.heap W' st' hX) (g:s'.gens=s.gens/\s'.os=s.os) (q:X st')
  (i:∀ b∈hid,h₀.get? b=none/\¬ Own W' st' b/\∃ o es n,hX.get? b=some o/\o.data=.dict es n)
  (f:Flies hid hX fs e s'.heap\/∃ l,L=some l/\Held hid hX fs e l s'.heap):PostX w h₀ fs L W st s X u s'
theorem PostX.after {L:Option Addr} {s s₁ s':Shared} {X:St->Prop} {u:Value} (S:Step [] W st s.heap W' st' s₁.heap) (hg:s₁.gens=s.gens/\s₁.os=s.os) (p:PostX w h₀ fs L W' st' s₁ X u s'):PostX w h₀ fs L W st s X u s':=by
 obtain ⟨W₂,st₂,hX,hid,e,a1,a2,a3,a4,a5,a6,a7⟩:=p
 exact ⟨W₂,st₂,hX,hid,e,a1,a2,S.trans a3,⟨a4.1.trans hg.1,a4.2.trans hg.2⟩,a5,a6,a7⟩
theorem PostE.after {s s₁ s':Shared} {Q:AV->St->Prop} {u:Value} (S:Step [] W st s.heap W' st' s₁.heap) (hg:s₁.gens=s.gens/\s₁.os=s.os) (p:PostE w h₀ W' st' s₁ Q u s'):PostE w h₀ W st s Q u s':=by
 obtain ⟨W₂,st₂,v,a1,a2,a3,a4,a5,a6⟩:=p
 exact ⟨W₂,st₂,v,a1,S.trans a2,⟨a3.1.trans hg.1,a3.2.trans hg.2⟩,a4,a5,a6⟩
theorem PostEs.after {s s₁ s':Shared} {Q:List AV->St->Prop} {u:List Value} (S:Step [] W st s.heap W' st' s₁.heap) (hg:s₁.gens=s.gens/\s₁.os=s.os) (p:PostEs w h₀ W' st' s₁ Q u s'):PostEs w h₀ W st s Q u s':=by
 obtain ⟨W₂,st₂,v,a1,a2,a3,a4,a5,a6⟩:=p
 exact ⟨W₂,st₂,v,a1,S.trans a2,⟨a3.1.trans hg.1,a3.2.trans hg.2⟩,a4,a5,a6⟩
theorem Good.refl (G:Good w h₀ W st h):Step [] W st h W st h:=.refl _ _ _ _ G.low
theorem postE_now {s:Shared} {Q:AV->St->Prop} {u:Value} {v:AV} {tk:Nat} (G:Good w h₀ W st s.heap) (r:VRep h₀ W s.heap v u) (hw:v.within st.nx=true) (q:Q v st):PostE w h₀ W st s Q u {s with toks:=tk}:=
 ⟨W,st,v,G,G.refl,⟨rfl,rfl⟩,r,hw,q⟩
end
structure Fx (w:World) (h₀:Heap):Prop where
 X:(KK w.params).In h₀
 T:∃ p loose mg mb,TopRead p loose mg mb h₀
 sys:∃ o,h₀.get? sysModules=some o
noncomputable abbrev Md (w:World):Model:=model pw w
structure CallOK (d:Nat) (cl:A7):Prop where
 fn:∀ (f:Nat) (args:List AV) (st:St) (Q:AV->St->Prop) (X:St->Prop),cl f args st Q X->(fnL f).isSome=true
 ok:∀ (w:World) (h₀:Heap),Fx w h₀->∀ (A:Around) (W:Wd) (st:St) (s:Shared) (f:Nat) (args:List AV) (us:List Value) (Q:AV->St->Prop) (X:St->Prop) (fs:List Env),
  Good w h₀ W st s.heap->Arnd h₀ A W st s.heap d 2->A.frames=some fs->VReps h₀ W s.heap args us->A5 st.nx args=true->cl f args st Q X ->
  codeAny (Md w) A (.call (.ref f) ⟨us,[]⟩) (fun r s'=>match r with
   | .ok (.ret u)=>PostE w h₀ W st s Q u s'
   | .ok _=>False
   | .error e=>PostX w h₀ fs none W st s X e s') s
set_option tactic.hygienic true
noncomputable def okGet (K:Frag) (C:Addr) (x:Str):Bool:=plainGet K C x&&hasDictIn K C&&(match findIn K (.ref C) x with | some a=>noGet K a | none=>false)
noncomputable def okSet (K:Frag) (C:Addr) (x:Str):Bool:=findIn K (.ref C) "__setattr__" == some (some (.builtin "object.__setattr__"))&&plainOver K C&&takerIn K C x==some none&&(clsIn K C).any (·.hasDict)
noncomputable def okMeth (K:Frag) (C:Addr) (x:Str) (f:Addr):Bool:=findIn K (.ref C) x==some (some (.ref f))&&typeIn K (.ref f)==some (.type "function")&&plainGet K C x&&keepIn K (.ref f)
noncomputable def okInit (K:Frag) (C:Addr) (f:Addr):Bool:=findIn K (.ref C) "__init__" == some (some (.ref f))&&typeIn K (.ref f)==some (.type "function")&&makesIn K C&&keepIn K (.ref C)
theorem okF_all (P:Params):(fieldT.all fun p=>p.2.all fun x=>okGet (KK P) p.1 (nm x)&&okSet (KK P) p.1 (nm x)&&Nat.blt x nmL.length)=true:=by kernel_rfl
theorem okM_all (P:Params):(methT.all fun p=>p.2.all fun q=>q.1==10||okMeth (KK P) p.1 (nm q.1) q.2&&Nat.blt q.1 nmL.length)=true:=by kernel_rfl
theorem okI_all (P:Params):(initT.all fun p=>p.1==70||okInit (KK P) p.1 p.2)=true:=by kernel_rfl
noncomputable def natsL:List (List Nat):=nmL.map fun s=>s.cps.toList
theorem nm_nodup:natsL.Nodup:=by decide +kernel
theorem str_eq {a b:Str} (h:a.cps.toList=b.cps.toList):a=b:=by
 obtain ⟨⟨a⟩⟩:=a; obtain ⟨⟨b⟩⟩:=b; simp only at h; rw [h]
theorem nm_at {k:Nat} (h:k < nmL.length):natsL[k]'(by rw [natsL,List.length_map]; exact h)=(nm k).cps.toList:=by
 simp [natsL,nm,h]
theorem nm_inj {i j:Nat} (hi:i < nmL.length) (hj:j < nmL.length) (e:nm i=nm j):i=j:=by
 have hi':i < natsL.length:=by rw [natsL,List.length_map]; exact hi
 have hj':j < natsL.length:=by rw [natsL,List.length_map]; exact hj
 have q:=List.pairwise_iff_getElem.mp nm_nodup
 rcases Nat.lt_trichotomy i j with lt | rfl | lt
 ·exact absurd (by rw [nm_at hi,nm_at hj,e]) (q i j hi' hj' lt)
 ·rfl
 ·exact absurd (by rw [nm_at hi,nm_at hj,e]) (q j i hj' hi' lt)
theorem isStr_nm {i j:Nat} {t:Tok} (hi:i < nmL.length) (hj:j < nmL.length):(Value.str (nm i) t).isStr (nm j)=decide (i=j):=by
 show (nm i==nm j)=_
 by_cases e:i=j
 ·subst e; simp
 ·have:nm i≠nm j:=fun q=>e (nm_inj hi hj q)
  simp [e,this]
section
variable {P:Params} {h₀ h h':Heap} {W W':Wd} {st st':St} {a:Nat} {v:AV} {u:Value} {fs:List (Nat × AV)} {es:List DictEntry}
theorem getL_cons {x:Nat} {k:Int} {t:Tok} (hx:x < nmL.length) (ha:a < nmL.length):getL (nm a) (⟨k,.str (nm x) t,u⟩::es)=if a=x then some (some u) else getL (nm a) es:=by
 have h:(Value.str (nm x) t).isStr (nm a)=decide (x=a):=isStr_nm hx ha
 unfold getL
 rw [List.find?_cons]
 dsimp only
 rw [h]
 by_cases c:a=x
 ·rw [if_pos c,decide_eq_true c.symm]
 ·rw [if_neg c,decide_eq_false fun z=>c z.symm]; rfl
theorem look_some {α:Type} {p:Nat × α} {r:List (Nat × α)} {v:α} (e:B2 a (p::r)=some v) (c:a=p.1):p.2=v:=Option.some.inj ((if_pos c).symm.trans ((B1 a p r).symm.trans e))
theorem look_tail {α:Type} {p:Nat × α} {r:List (Nat × α)} {v:Option α} (e:B2 a (p::r)=v) (c:¬ a=p.1):B2 a r=v:=(if_neg c).symm.trans ((B1 a p r).symm.trans e)
theorem FRep.get {fs:List (Nat × AV)} {es:List DictEntry} (r:FRep P h₀ W h fs es) {a:Nat} (ha:a < nmL.length) {v:AV} (e:B2 a fs=some v):∃ u,getL (nm a) es=some (some u)/\VRep h₀ W h v u:=by
 induction r with
 | nil=>cases e
 | @cons x _ _ _ _ _ hx r q ih=>
  by_cases c:a=x
  ·exact ⟨_,(getL_cons hx ha).trans (if_pos c),by cases look_some e c; exact r⟩
  ·exact (ih (look_tail e c)).imp fun Z y=>⟨((getL_cons hx ha).trans (if_neg c)).trans y.1,y.2⟩
theorem FRep.none {fs:List (Nat × AV)} {es:List DictEntry} (r:FRep P h₀ W h fs es) {a:Nat} (ha:a < nmL.length) (e:B2 a fs=.none):getL (nm a) es=some .none:=by
 induction r with
 | nil=>rfl
 | @cons x _ _ _ _ _ hx r q ih=>
  by_cases c:a=x
  ·cases ((if_pos c).symm.trans ((B1 a _ _).symm.trans e))
  ·exact ((getL_cons hx ha).trans (if_neg c)).trans (ih (look_tail e c))
theorem FRep.put {fs:List (Nat × AV)} {es:List DictEntry} (q:FRep P h₀ W h fs es) {a:Nat} (ha:a < nmL.length) {v:AV} {u:Value} {t:Tok} (r:VRep h₀ W h v u) :
  FRep P h₀ W h (Mine.put a v fs) (putL (nm a) (PyData.keyHash P (nm a)) (.str (nm a) t) u es):=by
 induction q with
 | nil=>exact .cons ha r .nil
 | @cons x w u' t' fs es hx r' q ih=>
  show FRep P h₀ W h (match a==x with | true=>(x,v)::fs | false=>(x,w)::Mine.put a v fs) (if (Value.str (nm x) t').isStr (nm a)=true then _ else _)
  rw [isStr_nm hx ha]
  by_cases c:a=x
  ·rw [beq_iff_eq.mpr c,decide_eq_true c.symm]; exact .cons hx r q
  ·rw [beq_false_of_ne c,decide_eq_false fun z=>c z.symm]; exact .cons hx r' ih
theorem FRep.length {fs:List (Nat × AV)} {es:List DictEntry} (r:FRep P h₀ W h fs es):es.length=fs.length:=by
 induction r with
 | nil=>rfl
 | cons _ _ _ ih=>exact congrArg Nat.succ ih
theorem put_keys {fs:List (Nat × AV)} (e:(fs.map (·.1)).Nodup):((Mine.put a v fs).map (·.1)).Nodup:=by
 induction fs with
 | nil=>exact List.nodup_cons.mpr ⟨List.not_mem_nil,.nil⟩
 | cons p r ih=>
  show ((match a==p.1 with | true=>(p.1,v)::r | false=>p::Mine.put a v r).map (fun q:Nat × AV=>q.1)).Nodup
  by_cases c:a=p.1
  ·rw [beq_iff_eq.mpr c]; exact e
  ·rw [beq_false_of_ne c]
   obtain ⟨e1,e2⟩:=List.nodup_cons.mp e
   refine List.nodup_cons.mpr ⟨fun q=>?_,ih e2⟩
   obtain ⟨z,hz,y⟩:=List.mem_map.mp q
   exact (mem_put hz).elim (fun k=>c ((congrArg Prod.fst k).symm.trans y)) fun k=>e1 (List.mem_map.mpr ⟨z,k,y⟩)
theorem nodup_le {l m:List Nat} (hn:l.Nodup) (hs:∀ x∈l,x∈m):l.length<=m.length:=by
 induction l generalizing m with
 | nil=>simp
 | cons x r ih=>
  obtain ⟨h1,h2⟩:=List.nodup_cons.mp hn
  have hx:=hs x (.head _)
  have:=ih (m:=m.erase x) h2 fun y hy=>(List.mem_erase_of_ne (fun q=>h1 (by rw [<- q]; exact hy))).mpr (hs y (.tail _ hy))
  rw [List.length_erase_of_mem hx] at this
  have:0 < m.length:=List.length_pos_of_mem hx
  simp only [List.length_cons]; omega
theorem field_mem {c x:Nat} (e:fieldL c x=true):∃ l,B2 c fieldT=some l/\x∈l:=by
 unfold fieldL at e
 split at e
 ·rename_i l hl; exact ⟨l,hl,by simpa using e⟩
 ·cases e
theorem fieldT_le:(fieldT.all fun p=>Nat.ble p.2.length 100)=true:=by decide +kernel
theorem fields_le {c:Nat} {fs:List (Nat × AV)} (h1:∀ p∈fs,fieldL c p.1=true) (h2:(fs.map (·.1)).Nodup):fs.length<=100:=by
 cases fs with
 | nil=>simp
 | cons p r=>
  obtain ⟨l,hl,_⟩:=field_mem (h1 p (.head _))
  have:=nodup_le (m:=l) h2 fun x hx=>by
   obtain ⟨q,hq,rfl⟩:=List.mem_map.mp hx
   obtain ⟨l',hl',hm⟩:=field_mem (h1 q hq)
   rw [hl] at hl'; cases hl'; exact hm
  have b:=List.all_eq_true.mp fieldT_le (c,l) (C7 hl)
  rw [List.length_map] at this
  exact Nat.le_trans this (Nat.le_of_ble_eq_true b)
theorem field_ok {c x:Nat} (P:Params) (e:fieldL c x=true):okGet (KK P) c (nm x)=true/\okSet (KK P) c (nm x)=true/\x < nmL.length:=by
 obtain ⟨l,hl,hx⟩:=field_mem e
 have:=List.all_eq_true.mp (List.all_eq_true.mp (okF_all P) (c,l) (C7 hl)) x hx
 simp only [Bool.and_eq_true,Nat.blt_eq] at this
 exact ⟨this.1.1,this.1.2,this.2⟩
theorem meth_ok {c m f:Nat} (P:Params) (e:methL c m=some f) (hm:m≠10):okMeth (KK P) c (nm m) f=true/\m < nmL.length:=by
 unfold methL at e
 split at e
 ·rename_i l hl
  have:=List.all_eq_true.mp (List.all_eq_true.mp (okM_all P) (c,l) (C7 hl)) (m,f) (C7 e)
  simp only [Bool.or_eq_true,Bool.and_eq_true,beq_iff_eq,Nat.blt_eq] at this
  rcases this with q | q
  ·exact absurd q hm
  ·exact q
 ·cases e
theorem init_ok {c f:Nat} (P:Params) (e:initL c=some f) (hc:c≠70):okInit (KK P) c f=true:=by
 have:=List.all_eq_true.mp (okI_all P) (c,f) (C7 e)
 simp only [Bool.or_eq_true,beq_iff_eq] at this
 rcases this with q | q
 ·exact absurd q hc
 ·exact q
end
theorem osa_heap {w:World} {A:Around} {R:Result->Shared->Prop} {s:Shared} {K:Frag} {x C dx:Addr} {sl:Array (Option Value)} {es:List DictEntry} {n:Nat} {name:Str} {tk:Tok} {v:Value} (X:K.In s.heap)
  (hx:s.heap.get? x=some ⟨.ref C,some dx,.plain,sl⟩) (hd:s.heap.get? dx=some (dictOf es n)) (hp:plainOver K C=true) (ht:takerIn K C name=some none) (hh:(clsIn K C).any (·.hasDict)=true)
  (hl:(getL name es).isSome=true) (hz:es.length<=1000)
  (h:R (.ok (.ret .none)) {s with heap:=s.heap.update dx (Obj.putName name (PyData.keyHash w.params name) (.str name s.toks) v),toks:=s.toks+1}) :
  codeAny (model pw w) A (.call (.builtin "object.__setattr__") ⟨[.ref x,.str name tk,v],[]⟩) R s:=by
 have I:InstAt s.heap x ⟨.ref C,some dx,.plain,sl⟩ C (some (dictOf es n)):=⟨hx,rfl,rfl,hd⟩
 refine osa_open X I hp ht fun b=>?_
 obtain ⟨cd,hc,hd'⟩:=any_some hh
 refine wpAny_bind (wpAny_pure (wpAny_bind (wpAny_bind (wpAny_loadPart hx (wpAny_bind ((looks_clsIn X hc).here ?_))))))
 rw [hd']
 refine wpAny_pure (a:=some dx) (wpAny_bind (wpAny_pure (wpAny_bind ?_)))
 unfold nsSet
 refine wpAny_bind (wpAny_bind (wpAny_askSetting (wpAny_pure (wpAny_bind (wpAny_mkText (wpAny_bind (wpAny_loadPart hd ?_)))))))
 dsimp only
 have c:(!es.toArray.any (·.key.isStr name)&&es.toArray.any (·.refKey))=false:=by
  rw [<- Array.any_toList,<- Array.any_toList]
  unfold getL at hl
  split at hl
  ·rename_i en he
   rw [List.any_eq_true.mpr ⟨en,List.mem_of_find?_eq_some he,List.find?_some he⟩]; rfl
  ·split at hl
   ·cases hl
   ·rename_i z; rw [Bool.not_eq_true] at z; rw [z,Bool.and_false]
 rw [aRefKeyMayBeTheName_at,c]
 have D':(s.heap.update dx (Obj.putName name (PyData.keyHash w.params name) (.str name s.toks) v)).get? dx=some (dictOf (putL name (PyData.keyHash w.params name) (.str name s.toks) v es) (putN name es n)):=by
  have:=Heap.get?_update_self (Obj.putName name (PyData.keyHash w.params name) (.str name s.toks) v) hd (by rw [putName_dict]; rfl)
  rw [putName_dict] at this; exact this
 refine wpAny_updatePart hd ?_
 have len:(putL name (PyData.keyHash w.params name) (.str name s.toks) v es).length<=es.length+1:=by
  clear D' c hl hh ht hp hd hx h X I hz hd' hc
  induction es with
  | nil=>simp [putL]
  | cons e r ih=>unfold putL; split<;>simp at*<;> exact ih
 refine wpAny_bind (wpAny_lookBehind D' (pastItsLine_dict (by rw [List.size_toArray,sizeLine_eq]; exact (zgw (b:=0) (i:=0) (j:=1001) (k:=0) (l:=16777217) (zg (c:=0) (i:=0) (j:=1) (k:=0) (l:=1000) len hz) rfl))) ?_)
 exact wpAny_pure h
set_option tactic.hygienic false
noncomputable def isLoc (sc:Scope) (id:Str):Bool:=sc.names.lookup id==some .local||(sc.names.lookup id==some .cell||sc.names.lookup id==some .free)
noncomputable def isGl (sc:Scope) (id:Str):Bool:=sc.names.lookup id==some .globalImplicit&&id != ("__debug__" : Str)
noncomputable def gRef (P:Params) (sc:Scope) (id:Str) (v:Addr):Bool:=isGl sc id&&nsIn (KK P) mainGlobals id==some (some (.ref v))
noncomputable def gBlt (P:Params) (sc:Scope) (id:Str) (n:Str):Bool:=id==n&&isGl sc id&&nsIn (KK P) mainGlobals n==some none
noncomputable def noIx (k:Nat) (x:Expr):Bool:=!(Nat.beq x.ctorIdx k)
noncomputable def noStar (x:Expr):Bool:=noIx 22 x
noncomputable def noSet (x:Expr):Bool:=noIx 7 x
noncomputable def noSD (x:Expr):Bool:=noIx 9 x&&noIx 10 x
noncomputable def noComp (x:Expr):Bool:=noIx 8 x&&(noIx 9 x&&noIx 10 x)
noncomputable def cmOf:Cm->CmpOp
 | .eq=>.Eq | .ne=>.NotEq | .lt=>.Lt | .le=>.LtE | .gt=>.Gt | .ge=>.GtE
noncomputable def tyName:Ty->Str
 | .int => "int" | .bool => "bool" | .tuple => "tuple" | .str => "str"
noncomputable def compScope (sc s:Scope) (id:Str):Bool:=s.kind==.function&&s.names.lookup id==some .local&&!s.isCoroutine &&
  s.names.all (fun p=>match p.2 with
   | .local=>true | .globalImplicit=>true
   | .free=>sc.names.lookup p.1==some .cell
   | _=>false) &&
  s.names.all (fun p=>s.names.lookup p.1==some p.2) &&
  (s.names.filter (·.2==.local)).all (fun p=>p.1==id||p.1==(".0" : Str))
noncomputable def relab (sc s:Scope):Scope:={s with names:=s.names.map fun (n,k)=>if (k==.free&&sc.kind==.function&&sc.names.lookup n==some .cell) then (n,.cell) else (n,k)}
noncomputable def okNm (x:Nat):Bool:=Nat.blt x nmL.length
noncomputable def notSl (x:Expr):Bool:=noIx 26 x
noncomputable def gIntOk (a:Option (Option Value)) (b:Option Int):Bool:=match a with
 | some (some (.int i _))=>b==some i
 | _=>false
noncomputable def eOn (x:Expr) (cst:Const->Bool:=fun Z=>false) (name:Str->Bool:=fun Z=>false) (attr:Expr->Str->Pos->Bool:=fun Z Z Z=>false) (bin:Expr->Operator->Expr->Bool:=fun Z Z Z=>false) (un:UnaryOp->Expr->Bool:=fun Z Z=>false) (bool:BoolOp->List Expr->Pos->Bool:=fun Z Z Z=>false) (cmp:Expr->List CmpOp->List Expr->Bool:=fun Z Z Z=>false) (iff:Expr->Expr->Expr->Bool:=fun Z Z Z=>false) (call:Expr->List Expr->List Keyword->Pos->Bool:=fun Z Z Z Z=>false) (sub:Expr->Expr->Bool:=fun Z Z=>false) (slice:Option Expr->Option Expr->Option Expr->Bool:=fun Z Z Z=>false) (list:List Expr->Bool:=fun Z=>false) (tuple:List Expr->Bool:=fun Z=>false) (dict:List (Option Expr)->List Expr->Bool:=fun Z Z=>false) (comp:Expr->List Comprehension->Scope->Bool:=fun Z Z Z=>false):Bool:=match x with | .Constant c _ _=>cst c | .Name id _=>name id | .Attribute v n p=>attr v n p | .BinOp a o b _=>bin a o b | .UnaryOp o v _=>un o v | .BoolOp o l p=>bool o l p | .Compare a o l _=>cmp a o l | .IfExp a b c _=>iff a b c | .Call f l w p=>call f l w p | .Subscript v s _=>sub v s | .Slice a b c _=>slice a b c | .List l _=>list l | .Tuple l _ _=>tuple l | .Dict a b _=>dict a b | .ListComp e g s _=>comp e g s | _=>false
noncomputable def noSuper (x:Expr):Bool:=!eOn x (call:=fun f Z Z Z=>eOn f (name:=fun id=>id==("super" : Str)))
noncomputable def onCst (x:Expr) (k:Const->Bool):Bool:=eOn x (cst:=k)
noncomputable def onName (x:Expr) (k:Str->Bool):Bool:=eOn x (name:=k)
noncomputable def onAttr (x:Expr) (k:Expr->Str->Pos->Bool):Bool:=eOn x (attr:=k)
noncomputable def onBin (x:Expr) (k:Expr->Operator->Expr->Bool):Bool:=eOn x (bin:=k)
noncomputable def onUn (x:Expr) (k:UnaryOp->Expr->Bool):Bool:=eOn x (un:=k)
noncomputable def onBool (x:Expr) (k:BoolOp->List Expr->Pos->Bool):Bool:=eOn x (bool:=k)
noncomputable def onCmp (x:Expr) (k:Expr->List CmpOp->List Expr->Bool):Bool:=eOn x (cmp:=k)
noncomputable def onIf (x:Expr) (k:Expr->Expr->Expr->Bool):Bool:=eOn x (iff:=k)
noncomputable def onCall (x:Expr) (k:Expr->List Expr->List Keyword->Pos->Bool):Bool:=eOn x (call:=k)
noncomputable def onSub (x:Expr) (k:Expr->Expr->Bool):Bool:=eOn x (sub:=k)
noncomputable def onSlice (x:Expr) (k:Option Expr->Option Expr->Option Expr->Bool):Bool:=eOn x (slice:=k)
noncomputable def onList (x:Expr) (k:List Expr->Bool):Bool:=eOn x (list:=k)
noncomputable def onTuple (x:Expr) (k:List Expr->Bool):Bool:=eOn x (tuple:=k)
noncomputable def onDict (x:Expr) (k:List (Option Expr)->List Expr->Bool):Bool:=eOn x (dict:=k)
noncomputable def onComp (x:Expr) (k:Expr->List Comprehension->Scope->Bool):Bool:=eOn x (comp:=k)
noncomputable def on0 {α:Type} (l:List α) (b:Bool):Bool:=match l with | []=>b | _=>false
noncomputable def on1 {α:Type} (l:List α) (k:α->List α->Bool):Bool:=match l with | a::r=>k a r | _=>false
noncomputable def onOne {α:Type} (l:List α) (k:α->Bool):Bool:=on1 l fun a r=>on0 r (k a)
noncomputable def onTwo {α:Type} (l:List α) (k:α->α->Bool):Bool:=on1 l fun a r=>onOne r (k a)
noncomputable def onThree {α:Type} (l:List α) (k:α->α->α->Bool):Bool:=on1 l fun a r=>onTwo r (k a)
noncomputable def onSome {α:Type} (o:Option α) (k:α->Bool):Bool:=match o with | some a=>k a | none=>false
noncomputable def onNo {α:Type} (o:Option α) (b:Bool):Bool:=match o with | none=>b | some _=>false
noncomputable def onFn (x:Expr) (k:Str->List Expr->Bool):Bool:=onCall x fun f l w Z=>on0 w (onName f fun id=>k id l)
noncomputable def onB1 (P:Params) (sc:Scope) (n:Str) (x:Expr) (k:Expr->Bool):Bool:=onFn x fun id l=>onOne l fun a=>gBlt P sc id n&&noStar a&&k a
noncomputable def onCmp1 (x:Expr) (k:Expr->CmpOp->Expr->Bool):Bool:=onCmp x fun a o l=>onOne o fun p=>onOne l fun b=>k a p b
noncomputable def onCmp2 (x:Expr) (k:Expr->CmpOp->CmpOp->Expr->Expr->Bool):Bool:=onCmp x fun a o l=>onTwo o fun p q=>onTwo l fun b c=>k a p q b c
noncomputable def isNo (x:Expr):Bool:=onCst x fun c=>match c with | .none=>true | _=>false
noncomputable def onGen (l:List Comprehension) (k:Str->Expr->List Expr->Bool):Bool:=onOne l fun g=>onName g.target fun id=>g.is_async==0&&k id g.iter g.ifs
mutual
noncomputable def A9 (P:Params) (sc:Scope):ME->Expr->Bool
 | .none,x=>isNo x
 | .bool b,x=>onCst x fun c=>match c with | .bool c=>b==c | _=>false
 | .int i,x=>onCst x fun c=>match c with | .int j=>i==j | _=>false
 | .str l,x=>onCst x fun c=>match c with | .str s=>s.cps.toList==l | _=>false
 | .var y,x=>onName x fun id=>id==nm y&&isLoc sc id&&id != ("__debug__" : Str)
 | .gint y,x=>onName x fun id=>isGl sc id&&gIntOk (nsIn (KK P) mainGlobals id) (globL y)
 | .attr e a,x=>onAttr x fun v n Z=>n==nm a&&noSuper v&&Nat.blt a nmL.length&&A9 P sc e v
 | .bin op l r,x=>onBin x fun a o b=>op==o&&A9 P sc l a&&A9 P sc r b
 | .neg e,x=>onUn x fun o v=>match o with | .USub=>A9 P sc e v | _=>false
 | .not e,x=>onUn x fun o v=>match o with | .Not=>A9 P sc e v | _=>false
 | .and l r,x=>onBool x fun o vs pos=>match o with | .Or=>false | .And=>on1 vs fun x vs=>on1 vs fun y rest=>A9 P sc l x&&(match rest with | []=>A9 P sc r y | _::_=>A9 P sc r (.BoolOp .And (y::rest) pos))
 | .or l r,x=>onBool x fun o vs pos=>match o with | .And=>false | .Or=>on1 vs fun x vs=>on1 vs fun y rest=>A9 P sc l x&&(match rest with | []=>A9 P sc r y | _::_=>A9 P sc r (.BoolOp .Or (y::rest) pos))
 | .cmp o l r,x=>onCmp1 x fun a p b=>p==cmOf o&&noSet b&&A9 P sc l a&&A9 P sc r b
 | .cmp2 o q l m r,x=>onCmp2 x fun a p t b c=>p==cmOf o&&t==cmOf q&&noSet c&&A9 P sc l a&&A9 P sc m b&&A9 P sc r c
 | .isNone e,x=>onCmp1 x fun a p b=>p==.Is&&isNo b&&A9 P sc e a
 | .notNone e,x=>onCmp1 x fun a p b=>p==.IsNot&&isNo b&&A9 P sc e a
 | .inn l r,x=>onCmp1 x fun a p b=>p==.In&&noSet b&&A9 P sc l a&&A9 P sc r b
 | .notIn l r,x=>onCmp1 x fun a p b=>p==.NotIn&&noSet b&&A9 P sc l a&&A9 P sc r b
 | .ite t y z,x=>onIf x fun a b c=>A9 P sc t a&&A9 P sc y b&&A9 P sc z c
 | .call f args,x=>onFn x fun id as=>gRef P sc id f&&chkEs P sc args as
 | .new c args,x=>onFn x fun id as=>gRef P sc id c&&c != 70&&chkEs P sc args as
 | .meth o m args,x=>onCall x fun f as w pos=>on0 w (onAttr f fun v n ap=>n==nm m&&m != 10&&noSuper v&&(ap.endLine==pos.line)&&Nat.blt as.length 20&&A9 P sc o v&&chkEs P sc args as)
 | .len e,x=>onB1 P sc "len" x fun a=>A9 P sc e a
 | .chr e,x=>onB1 P sc "chr" x fun a=>A9 P sc e a
 | .ord e,x=>onB1 P sc "ord" x fun a=>A9 P sc e a
 | .sorted e,x=>onB1 P sc "sorted" x fun a=>A9 P sc e a
 | .listOf e,x=>onB1 P sc "list" x fun a=>A9 P sc e a
 | .dictOf e,x=>onB1 P sc "dict" x fun a=>A9 P sc e a
 | .isinst e t,x=>onFn x fun id as=>onTwo as fun a b=>onName b fun ty=>gBlt P sc id "isinstance" && gBlt P sc ty (tyName t)&&noStar a&&A9 P sc e a
 | .sub o i,x=>onSub x fun v s=>notSl s&&A9 P sc o v&&A9 P sc i s
 | .upto o hi,x=>onSub x fun v s=>onSlice s fun a b c=>onNo a (onSome b fun u=>onNo c (A9 P sc o v&&A9 P sc hi u))
 | .from_ o lo,x=>onSub x fun v s=>onSlice s fun a b c=>onSome a fun u=>onNo b (onNo c (A9 P sc o v&&A9 P sc lo u))
 | .rep e k,x=>onBin x fun l o r=>onList l fun l=>onOne l fun x=>o==.Mult&&noStar x&&A9 P sc e x&&A9 P sc k r
 | .list es,x=>onList x fun l=>chkEs P sc es l&&Nat.blt l.length 1000
 | .tuple es,x=>onTuple x fun l=>chkEs P sc es l&&Nat.blt l.length 1000
 | .dict0,x=>onDict x fun a b=>on0 a (on0 b true)
 | .comp _ _ elt y it,x=>onComp x fun e g s=>onGen g fun id iter ifs=>on0 ifs (id==nm y&&okNm y&&compScope sc s id&&chkI P sc it iter&&A9 P (relab sc s) elt e)
 | .compIf _ _ elt y it c,x=>onComp x fun e g s=>onGen g fun id iter ifs=>onOne ifs fun f=>id==nm y&&okNm y&&compScope sc s id&&chkI P sc it iter&&A9 P (relab sc s) elt e&&A9 P (relab sc s) c f
noncomputable def chkEs (P:Params) (sc:Scope):MEs->List Expr->Bool
 | .nil,l=>on0 l true
 | .cons e r,l=>on1 l fun a l=>noStar a&&A9 P sc e a&&chkEs P sc r l
noncomputable def chkI (P:Params) (sc:Scope):MI->Expr->Bool
 | .range1 a,x=>onB1 P sc "range" x fun y=>A9 P sc a y
 | .range2 a b,x=>onFn x fun id l=>onTwo l fun x y=>gBlt P sc id "range" && noStar x&&noStar y&&A9 P sc a x&&A9 P sc b y
 | .range3 a b c,x=>onFn x fun id l=>onThree l fun x y z=>gBlt P sc id "range" && noStar x&&noStar y&&noStar z&&A9 P sc a x&&A9 P sc b y&&A9 P sc c z
 | .over e,v=>noSet v&&A9 P sc e v
end
noncomputable def chkTup:List (Nat ⊕ (Nat × Nat))->Scope->List Expr->Bool
 | [],_,l=>on0 l true
 | .inl x::r,sc,l=>on1 l fun a l=>onName a fun id=>id==nm x&&okNm x&&sc.names.lookup id==some .local&&chkTup r sc l
 | .inr (x,a)::r,sc,l=>on1 l fun t l=>onAttr t fun v n Z=>onName v fun id=>id==nm x&&isLoc sc id&&id != ("__debug__" : Str)&&n==nm a&&Nat.blt a nmL.length&&chkTup r sc l
noncomputable def chkT (P:Params) (sc:Scope):MT->Expr->Bool
 | .var x,t=>onName t fun id=>id==nm x&&okNm x&&(sc.names.lookup id==some .local||sc.names.lookup id==some .cell)
 | .attr e a,t=>onAttr t fun v n Z=>n==nm a&&noSuper v&&Nat.blt a nmL.length&&A9 P sc e v
 | .sub o i,t=>onSub t fun v s=>notSl s&&A9 P sc o v&&A9 P sc i s
 | .tup l,t=>onTuple t fun ts=>chkTup l sc ts
noncomputable def notTuple (x:Expr):Bool:=noIx 24 x&&noIx 25 x
noncomputable def isBE (e:ME):Bool:=Nat.beq e.ctorIdx (ME.bool true).ctorIdx
noncomputable def retS (m:MS):Bool:=match m with | .ret e=>isBE e | _=>false
noncomputable def nilB (l:MSs):Bool:=match l with | .nil=>true | .cons _ _=>false
noncomputable def retB (l:MSs):Bool:=match l with | .nil=>false | .cons m r=>retS m&&nilB r
noncomputable def sOn (x:Stmt) (ex:Expr->Bool:=fun Z=>false) (asg:List Expr->Expr->Bool:=fun Z Z=>false) (aug:Expr->Operator->Expr->Bool:=fun Z Z Z=>false) (iff:Expr->List Stmt->List Stmt->Bool:=fun Z Z Z=>false) (whi:Expr->List Stmt->List Stmt->Bool:=fun Z Z Z=>false) (for_:Expr->Expr->List Stmt->List Stmt->Bool:=fun Z Z Z Z=>false) (ret:Option Expr->Bool:=fun Z=>false) (rai:Option Expr->Option Expr->Bool:=fun Z Z=>false) (try_:List Stmt->List ExceptHandler->List Stmt->List Stmt->Bool:=fun Z Z Z Z=>false) (del:List Expr->Bool:=fun Z=>false):Bool:=match x with | .Expr v _=>ex v | .Assign l v _=>asg l v | .AugAssign t o v _=>aug t o v | .If c a b _=>iff c a b | .While c a b _=>whi c a b | .For t i a b _=>for_ t i a b | .Return v _=>ret v | .Raise a b _=>rai a b | .Try a b c d _=>try_ a b c d | .Delete l _=>del l | _=>false
noncomputable def onSExpr (x:Stmt) (k:Expr->Bool):Bool:=sOn x (ex:=k)
noncomputable def onAssign (x:Stmt) (k:Expr->Expr->Bool):Bool:=sOn x (asg:=fun l v=>onOne l fun a=>k a v)
noncomputable def onAug (x:Stmt) (k:Expr->Operator->Expr->Bool):Bool:=sOn x (aug:=k)
noncomputable def onSIf (x:Stmt) (k:Expr->List Stmt->List Stmt->Bool):Bool:=sOn x (iff:=k)
noncomputable def onWhile (x:Stmt) (k:Expr->List Stmt->List Stmt->Bool):Bool:=sOn x (whi:=k)
noncomputable def onFor (x:Stmt) (k:Expr->Expr->List Stmt->List Stmt->Bool):Bool:=sOn x (for_:=k)
noncomputable def onRet (x:Stmt) (k:Option Expr->Bool):Bool:=sOn x (ret:=k)
noncomputable def onRaise (x:Stmt) (k:Option Expr->Option Expr->Bool):Bool:=sOn x (rai:=k)
noncomputable def onTry (x:Stmt) (k:List Stmt->List ExceptHandler->List Stmt->List Stmt->Bool):Bool:=sOn x (try_:=k)
noncomputable def onDel (x:Stmt) (k:List Expr->Bool):Bool:=sOn x (del:=k)
noncomputable def onH (x:ExceptHandler) (k:Option Expr->Option Str->List Stmt->Bool):Bool:=match x with | .ExceptHandler t n b _=>k t n b
noncomputable def isRetB (l:List Stmt):Bool:=onOne l fun x=>onRet x fun o=>onSome o fun v=>onCst v fun c=>match c with | .bool _=>true | _=>false
mutual
noncomputable def chkS (P:Params) (sc:Scope):MS->Stmt->Bool
 | .expr e,x=>onSExpr x fun v=>noComp v&&A9 P sc e v
 | .assign t e,x=>onAssign x fun a v=>chkT P sc t a&&A9 P sc e v&&(notTuple v||notTuple a)&&noSD v
 | .augVar y op e,x=>onAug x fun t o v=>onName t fun id=>id==nm y&&okNm y&&sc.names.lookup id==some .local&&op==o&&(op==.Add||op==.Sub)&&A9 P sc e v
 | .augAttr b a op e,x=>onAug x fun t o u=>onAttr t fun v n Z=>n==nm a&&Nat.blt a nmL.length&&op==o&&(op==.Add||op==.Sub)&&A9 P sc b v&&A9 P sc e u
 | .ite t a b,x=>onSIf x fun c l r=>A9 P sc t c&&chkSs P sc a l&&chkSs P sc b r
 | .whil t b,x=>onWhile x fun c l r=>on0 r (A9 P sc t c&&chkSs P sc b l)
 | .for_ _ y it b,x=>onFor x fun t i l r=>on0 r (onName t fun id=>id==nm y&&okNm y&&sc.names.lookup id==some .local&&chkI P sc it i&&chkSs P sc b l)
 | .ret0,x=>onRet x fun v=>onNo v true
 | .ret e,x=>onRet x fun v=>onSome v fun v=>A9 P sc e v
 | .raise c args,x=>onRaise x fun e z=>onNo z (onSome e fun e=>onFn e fun id as=>gRef P sc id c&&chkEs P sc args as)
 | .try_ b c n h,x=>onTry x fun body hs o f=>on0 o (on0 f (onOne hs fun hd=>onH hd fun t name hb=>onSome t fun t=>onName t fun id=>gRef P sc id c&&n.isSome==name.isSome&&chkSs P sc b body&&chkSs P sc h hb&&(c != 70||(retB h&&isRetB hb))))
 | .del o i,x=>onDel x fun l=>onOne l fun t=>onSub t fun v s=>notSl s&&A9 P sc o v&&A9 P sc i s
noncomputable def chkSs (P:Params) (sc:Scope):MSs->List Stmt->Bool
 | .nil,l=>on0 l true
 | .cons s r,l=>on1 l fun a l=>chkS P sc s a&&chkSs P sc r l
end
noncomputable def ofB {α:Type} (o:Option α) (k:α->Bool):Bool:=match o with | some v=>k v | none=>false
noncomputable def dFunc (d:Data):Option FuncData:=match d with | .func fd=>some fd | _=>none
noncomputable def dSeq (d:Data):Option (Array Value):=match d with | .seq vs _=>some vs | _=>none
noncomputable def bStm (d:FuncBody):Option (List Stmt):=match d with | .stmts b=>some b | _=>none
noncomputable def vRef (v:Value):Option Addr:=match v with | .ref a=>some a | _=>none
noncomputable def dfIs (P:Params) (v:Value) (k:Array Value->Bool):Bool:=ofB (vRef v) fun a=>ofB ((KK P).lookup a) fun o=>ofB (dSeq o.data) k
noncomputable def dfOk (P:Params) (v:Value):Bool:=v==.none||dfIs P v fun Z=>true
noncomputable def chkFd (P:Params) (F:Fn) (fd:FuncData) (b:List Stmt):Bool:=
 (chkSs P fd.scope F.body b&&(codeIn (KK P) fd.code fd.qualname&&(fd.closure.isEmpty&&(fd.globals==mainGlobals&&(fd.builtins==builtinsNs&&(!fd.scope.isCoroutine&&(!fd.scope.isGenerator&&(fd.scope.kind==.function &&
 (fd.params.posonlyargs.isEmpty&&(fd.params.vararg.isNone&&(fd.params.kwonlyargs.isEmpty&&(fd.params.kwarg.isNone &&
 ((fd.params.args.map (·.arg))==F.pars.map nm&&(decide F.pars.Nodup&&(dfOk P fd.defaults&&(fd.scope.names.all (fun p=>p.2 != .free)&&(fd.scope.names.all (fun p=>fd.scope.names.lookup p.1==some p.2) &&
 F.pars.all (fun x=>okNm x&&(fd.scope.names.lookup (nm x)==some .local||fd.scope.names.lookup (nm x)==some .cell)))))))))))))))))))
noncomputable def chkF (P:Params) (f:Nat) (F:Fn):Bool:=ofB ((KK P).lookup f) fun o=>ofB (dFunc o.data) fun fd=>ofB (bStm fd.body) fun b=>chkFd P F fd b
set_option tactic.hygienic true
theorem J5 {C:Prop} (h:false=true):C:=Bool.noConfusion h
theorem eOn_e {C:Expr->Prop} {x:Expr} {cst:Const->Bool} {name:Str->Bool} {attr:Expr->Str->Pos->Bool} {bin:Expr->Operator->Expr->Bool} {un:UnaryOp->Expr->Bool} {bool:BoolOp->List Expr->Pos->Bool} {cmp:Expr->List CmpOp->List Expr->Bool} {iff:Expr->Expr->Expr->Bool} {call:Expr->List Expr->List Keyword->Pos->Bool} {sub:Expr->Expr->Bool} {slice:Option Expr->Option Expr->Option Expr->Bool} {list:List Expr->Bool} {tuple:List Expr->Bool} {dict:List (Option Expr)->List Expr->Bool} {comp:Expr->List Comprehension->Scope->Bool} (h:eOn x cst name attr bin un bool cmp iff call sub slice list tuple dict comp=true) (j_cst:∀ c q p,cst c=true->C (.Constant c q p)) (j_name:∀ id p,name id=true->C (.Name id p)) (j_attr:∀ v n p,attr v n p=true->C (.Attribute v n p)) (j_bin:∀ a o b p,bin a o b=true->C (.BinOp a o b p)) (j_un:∀ o v p,un o v=true->C (.UnaryOp o v p)) (j_bool:∀ o l p,bool o l p=true->C (.BoolOp o l p)) (j_cmp:∀ a o l p,cmp a o l=true->C (.Compare a o l p)) (j_iff:∀ a b c p,iff a b c=true->C (.IfExp a b c p)) (j_call:∀ f l w p,call f l w p=true->C (.Call f l w p)) (j_sub:∀ v s p,sub v s=true->C (.Subscript v s p)) (j_slice:∀ a b c p,slice a b c=true->C (.Slice a b c p)) (j_list:∀ l p,list l=true->C (.List l p)) (j_tuple:∀ l q p,tuple l=true->C (.Tuple l q p)) (j_dict:∀ a b p,dict a b=true->C (.Dict a b p)) (j_comp:∀ e g s p,comp e g s=true->C (.ListComp e g s p)):C x:=by cases x<;>first | exact Bool.noConfusion h | exact j_name _ _ h | exact j_list _ _ h | exact j_cst _ _ _ h | exact j_attr _ _ _ h | exact j_un _ _ _ h | exact j_bool _ _ _ h | exact j_sub _ _ _ h | exact j_tuple _ _ _ h | exact j_dict _ _ _ h | exact j_bin _ _ _ _ h | exact j_cmp _ _ _ _ h | exact j_iff _ _ _ _ h | exact j_call _ _ _ _ h | exact j_slice _ _ _ _ h | exact j_comp _ _ _ _ h
theorem sOn_e {C:Stmt->Prop} {x:Stmt} {ex:Expr->Bool} {asg:List Expr->Expr->Bool} {aug:Expr->Operator->Expr->Bool} {iff:Expr->List Stmt->List Stmt->Bool} {whi:Expr->List Stmt->List Stmt->Bool} {for_:Expr->Expr->List Stmt->List Stmt->Bool} {ret:Option Expr->Bool} {rai:Option Expr->Option Expr->Bool} {try_:List Stmt->List ExceptHandler->List Stmt->List Stmt->Bool} {del:List Expr->Bool} (h:sOn x ex asg aug iff whi for_ ret rai try_ del=true) (j_ex:∀ v p,ex v=true->C (.Expr v p)) (j_asg:∀ l v p,asg l v=true->C (.Assign l v p)) (j_aug:∀ t o v p,aug t o v=true->C (.AugAssign t o v p)) (j_iff:∀ c a b p,iff c a b=true->C (.If c a b p)) (j_whi:∀ c a b p,whi c a b=true->C (.While c a b p)) (j_for:∀ t i a b p,for_ t i a b=true->C (.For t i a b p)) (j_ret:∀ v p,ret v=true->C (.Return v p)) (j_rai:∀ a b p,rai a b=true->C (.Raise a b p)) (j_try:∀ a b c d p,try_ a b c d=true->C (.Try a b c d p)) (j_del:∀ l p,del l=true->C (.Delete l p)):C x:=by cases x<;>first | exact Bool.noConfusion h | exact j_ex _ _ h | exact j_ret _ _ h | exact j_del _ _ h | exact j_asg _ _ _ h | exact j_rai _ _ _ h | exact j_aug _ _ _ _ h | exact j_iff _ _ _ _ h | exact j_whi _ _ _ _ h | exact j_for _ _ _ _ _ h | exact j_try _ _ _ _ _ h
section
variable {C:Expr->Prop} {x:Expr}
@[elab_as_elim] theorem onCst_e {k:Const->Bool} (h:onCst x k=true) (j:∀ c q p,k c=true->C (.Constant c q p)):C x:=by apply eOn_e (C:=C) h<;>first | exact j | (intros; exact J5 ‹_›)
@[elab_as_elim] theorem F7 {k:Str->Bool} (h:onName x k=true) (j:∀ id p,k id=true->C (.Name id p)):C x:=by apply eOn_e (C:=C) h<;>first | exact j | (intros; exact J5 ‹_›)
@[elab_as_elim] theorem onAttr_e {k:Expr->Str->Pos->Bool} (h:onAttr x k=true) (j:∀ v n p,k v n p=true->C (.Attribute v n p)):C x:=by apply eOn_e (C:=C) h<;>first | exact j | (intros; exact J5 ‹_›)
@[elab_as_elim] theorem onBin_e {k:Expr->Operator->Expr->Bool} (h:onBin x k=true) (j:∀ a o b p,k a o b=true->C (.BinOp a o b p)):C x:=by apply eOn_e (C:=C) h<;>first | exact j | (intros; exact J5 ‹_›)
@[elab_as_elim] theorem onUn_e {k:UnaryOp->Expr->Bool} (h:onUn x k=true) (j:∀ o v p,k o v=true->C (.UnaryOp o v p)):C x:=by apply eOn_e (C:=C) h<;>first | exact j | (intros; exact J5 ‹_›)
@[elab_as_elim] theorem onBool_e {k:BoolOp->List Expr->Pos->Bool} (h:onBool x k=true) (j:∀ o l p,k o l p=true->C (.BoolOp o l p)):C x:=by apply eOn_e (C:=C) h<;>first | exact j | (intros; exact J5 ‹_›)
@[elab_as_elim] theorem onCmp_e {k:Expr->List CmpOp->List Expr->Bool} (h:onCmp x k=true) (j:∀ a o l p,k a o l=true->C (.Compare a o l p)):C x:=by apply eOn_e (C:=C) h<;>first | exact j | (intros; exact J5 ‹_›)
@[elab_as_elim] theorem onIf_e {k:Expr->Expr->Expr->Bool} (h:onIf x k=true) (j:∀ a b c p,k a b c=true->C (.IfExp a b c p)):C x:=by apply eOn_e (C:=C) h<;>first | exact j | (intros; exact J5 ‹_›)
@[elab_as_elim] theorem onCall_e {k:Expr->List Expr->List Keyword->Pos->Bool} (h:onCall x k=true) (j:∀ f l w p,k f l w p=true->C (.Call f l w p)):C x:=by apply eOn_e (C:=C) h<;>first | exact j | (intros; exact J5 ‹_›)
@[elab_as_elim] theorem onSub_e {k:Expr->Expr->Bool} (h:onSub x k=true) (j:∀ v s p,k v s=true->C (.Subscript v s p)):C x:=by apply eOn_e (C:=C) h<;>first | exact j | (intros; exact J5 ‹_›)
@[elab_as_elim] theorem onSlice_e {k:Option Expr->Option Expr->Option Expr->Bool} (h:onSlice x k=true) (j:∀ a b c p,k a b c=true->C (.Slice a b c p)):C x:=by apply eOn_e (C:=C) h<;>first | exact j | (intros; exact J5 ‹_›)
@[elab_as_elim] theorem onList_e {k:List Expr->Bool} (h:onList x k=true) (j:∀ l p,k l=true->C (.List l p)):C x:=by apply eOn_e (C:=C) h<;>first | exact j | (intros; exact J5 ‹_›)
@[elab_as_elim] theorem onTuple_e {k:List Expr->Bool} (h:onTuple x k=true) (j:∀ l q p,k l=true->C (.Tuple l q p)):C x:=by apply eOn_e (C:=C) h<;>first | exact j | (intros; exact J5 ‹_›)
@[elab_as_elim] theorem onDict_e {k:List (Option Expr)->List Expr->Bool} (h:onDict x k=true) (j:∀ a b p,k a b=true->C (.Dict a b p)):C x:=by apply eOn_e (C:=C) h<;>first | exact j | (intros; exact J5 ‹_›)
@[elab_as_elim] theorem onComp_e {k:Expr->List Comprehension->Scope->Bool} (h:onComp x k=true) (j:∀ e g s p,k e g s=true->C (.ListComp e g s p)):C x:=by apply eOn_e (C:=C) h<;>first | exact j | (intros; exact J5 ‹_›)
@[elab_as_elim] theorem on0_e {α:Type} {C:List α->Prop} {l:List α} {b:Bool} (h:on0 l b=true) (j:b=true->C []):C l:=by cases l<;>first | exact Bool.noConfusion h | exact j h
@[elab_as_elim] theorem on1_e {α:Type} {C:List α->Prop} {l:List α} {k:α->List α->Bool} (h:on1 l k=true) (j:∀ a r,k a r=true->C (a::r)):C l:=by cases l<;>first | exact Bool.noConfusion h | exact j _ _ h
@[elab_as_elim] theorem onSome_e {α:Type} {C:Option α->Prop} {l:Option α} {k:α->Bool} (h:onSome l k=true) (j:∀ a,k a=true->C (some a)):C l:=by cases l<;>first | exact Bool.noConfusion h | exact j _ h
@[elab_as_elim] theorem onNo_e {α:Type} {C:Option α->Prop} {l:Option α} {b:Bool} (h:onNo l b=true) (j:b=true->C none):C l:=by cases l<;>first | exact Bool.noConfusion h | exact j h
@[elab_as_elim] theorem one_e {α:Type} {C:List α->Prop} {l:List α} {k:α->Bool} (h:onOne l k=true) (j:∀ a,k a=true->C [a]):C l:=on1_e h fun a r h=>on0_e (C:=fun r=>C (a::r)) h fun h=>j a h
@[elab_as_elim] theorem two_e {α:Type} {C:List α->Prop} {l:List α} {k:α->α->Bool} (h:onTwo l k=true) (j:∀ a b,k a b=true->C [a,b]):C l:=on1_e h fun a r h=>one_e (C:=fun r=>C (a::r)) h fun b h=>j a b h
@[elab_as_elim] theorem three_e {α:Type} {C:List α->Prop} {l:List α} {k:α->α->α->Bool} (h:onThree l k=true) (j:∀ a b c,k a b c=true->C [a,b,c]):C l:=on1_e h fun a r h=>two_e (C:=fun r=>C (a::r)) h fun b c h=>j a b c h
@[elab_as_elim] theorem onFn_e {k:Str->List Expr->Bool} (h:onFn x k=true) (j:∀ id q l p,k id l=true->C (.Call (.Name id q) l [] p)):C x:=
 onCall_e h fun f l w p h=>on0_e (C:=fun w=>C (.Call f l w p)) h fun h=>F7 (C:=fun f=>C (.Call f l [] p)) h fun id q h=>j id q l p h
theorem ofO_e {α:Type} {o:Option α} {k:α->Prop} {C:Prop} (q:ofO o k) (j:∀ v,o=some v->k v->C):C:=by
 cases o with
 | none=>exact False.elim q
 | some v=>exact j v rfl q
theorem and2 {a b:Bool} {C:Prop} (h:(a&&b)=true) (j:a=true->b=true->C):C:=match a,b with
 | true,true=>j rfl rfl
theorem and3 {a b c:Bool} {C:Prop} (h:(a&&b&&c)=true) (j:a=true->b=true->c=true->C):C:=and2 h fun h=>and2 h j
theorem and4 {a b c d:Bool} {C:Prop} (h:(a&&b&&c&&d)=true) (j:a=true->b=true->c=true->d=true->C):C:=and2 h fun h=>and3 h j
theorem and5 {a b c d e:Bool} {C:Prop} (h:(a&&b&&c&&d&&e)=true) (j:a=true->b=true->c=true->d=true->e=true->C):C:=and2 h fun h=>and4 h j
theorem and6 {a b c d e f:Bool} {C:Prop} (h:(a&&b&&c&&d&&e&&f)=true) (j:a=true->b=true->c=true->d=true->e=true->f=true->C):C:=and2 h fun h=>and5 h j
theorem and7 {a b c d e f g:Bool} {C:Prop} (h:(a&&b&&c&&d&&e&&f&&g)=true) (j:a=true->b=true->c=true->d=true->e=true->f=true->g=true->C):C:=and2 h fun h=>and6 h j
@[elab_as_elim] theorem beq_e {α:Type} [BEq α] [LawfulBEq α] {a b:α} {C:α->Prop} (h:(a==b)=true) (j:C b):C a:=(beq_iff_eq.mp h).symm▸j
@[elab_as_elim] theorem onB1_e {P:Params} {sc:Scope} {n:Str} {k:Expr->Bool} (h:onB1 P sc n x k=true) (j:∀ id q a p,gBlt P sc id n=true->noStar a=true->k a=true->C (.Call (.Name id q) [a] [] p)):C x:=
 onFn_e h fun id q Z p h=>one_e (C:=fun l=>C (.Call (.Name id q) l [] p)) h fun a h=>and3 h fun h0 h1 h2=>j id q a p h0 h1 h2
@[elab_as_elim] theorem M0 {k:Expr->CmpOp->Expr->Bool} (h:onCmp1 x k=true) (j:∀ a o b p,k a o b=true->C (.Compare a [o] [b] p)):C x:=
 onCmp_e h fun a Z bs p h=>one_e (C:=fun l=>C (.Compare a l bs p)) h fun o h=>one_e (C:=fun l=>C (.Compare a [o] l p)) h fun b h=>j a o b p h
@[elab_as_elim] theorem onCmp2_e {k:Expr->CmpOp->CmpOp->Expr->Expr->Bool} (h:onCmp2 x k=true) (j:∀ a o q b c p,k a o q b c=true->C (.Compare a [o,q] [b,c] p)):C x:=
 onCmp_e h fun a Z bs p h=>two_e (C:=fun l=>C (.Compare a l bs p)) h fun o q h=>two_e (C:=fun l=>C (.Compare a [o,q] l p)) h fun b c h=>j a o q b c p h
@[elab_as_elim] theorem isNo_e (h:isNo x=true) (j:∀ q p,C (.Constant .none q p)):C x:=onCst_e h fun c q p h=>by
 cases c<;>first | exact Bool.noConfusion h | exact j q p
@[elab_as_elim] theorem onGen_e {C:List Comprehension->Prop} {l:List Comprehension} {k:Str->Expr->List Expr->Bool} (h:onGen l k=true) (j:∀ id q it fs,k id it fs=true->C [⟨.Name id q,it,fs,0⟩]):C l:=
 one_e (C:=C) h fun g h=>by
  obtain ⟨t,it,fs,y⟩:=g
  exact F7 (C:=fun t=>C [⟨t,it,fs,y⟩]) h fun id q h=>and2 h fun h1 h2=>beq_e (C:=fun y=>C [⟨.Name id q,it,fs,y⟩]) h1 (j id q it fs h2)
end
section
variable {C:Stmt->Prop} {x:Stmt}
@[elab_as_elim] theorem onSExpr_e {k:Expr->Bool} (h:onSExpr x k=true) (j:∀ v p,k v=true->C (.Expr v p)):C x:=by apply sOn_e (C:=C) h<;>first | exact j | (intros; exact J5 ‹_›)
@[elab_as_elim] theorem onAssign_e {k:Expr->Expr->Bool} (h:onAssign x k=true) (j:∀ a v p,k a v=true->C (.Assign [a] v p)):C x:=by
 apply sOn_e (C:=C) h<;>first | exact fun l v p h=>one_e (C:=fun l=>C (.Assign l v p)) h fun a=>j a v p | (intros; exact J5 ‹_›)
@[elab_as_elim] theorem onAug_e {k:Expr->Operator->Expr->Bool} (h:onAug x k=true) (j:∀ t o v p,k t o v=true->C (.AugAssign t o v p)):C x:=by apply sOn_e (C:=C) h<;>first | exact j | (intros; exact J5 ‹_›)
@[elab_as_elim] theorem onSIf_e {k:Expr->List Stmt->List Stmt->Bool} (h:onSIf x k=true) (j:∀ c a b p,k c a b=true->C (.If c a b p)):C x:=by apply sOn_e (C:=C) h<;>first | exact j | (intros; exact J5 ‹_›)
@[elab_as_elim] theorem onWhile_e {k:Expr->List Stmt->List Stmt->Bool} (h:onWhile x k=true) (j:∀ c a b p,k c a b=true->C (.While c a b p)):C x:=by apply sOn_e (C:=C) h<;>first | exact j | (intros; exact J5 ‹_›)
@[elab_as_elim] theorem onFor_e {k:Expr->Expr->List Stmt->List Stmt->Bool} (h:onFor x k=true) (j:∀ t i a b p,k t i a b=true->C (.For t i a b p)):C x:=by apply sOn_e (C:=C) h<;>first | exact j | (intros; exact J5 ‹_›)
@[elab_as_elim] theorem onRet_e {k:Option Expr->Bool} (h:onRet x k=true) (j:∀ v p,k v=true->C (.Return v p)):C x:=by apply sOn_e (C:=C) h<;>first | exact j | (intros; exact J5 ‹_›)
@[elab_as_elim] theorem onRaise_e {k:Option Expr->Option Expr->Bool} (h:onRaise x k=true) (j:∀ a b p,k a b=true->C (.Raise a b p)):C x:=by apply sOn_e (C:=C) h<;>first | exact j | (intros; exact J5 ‹_›)
@[elab_as_elim] theorem onTry_e {k:List Stmt->List ExceptHandler->List Stmt->List Stmt->Bool} (h:onTry x k=true) (j:∀ a b c d p,k a b c d=true->C (.Try a b c d p)):C x:=by apply sOn_e (C:=C) h<;>first | exact j | (intros; exact J5 ‹_›)
@[elab_as_elim] theorem onDel_e {k:List Expr->Bool} (h:onDel x k=true) (j:∀ l p,k l=true->C (.Delete l p)):C x:=by apply sOn_e (C:=C) h<;>first | exact j | (intros; exact J5 ‹_›)
@[elab_as_elim] theorem onH_e {C:ExceptHandler->Prop} {x:ExceptHandler} {k:Option Expr->Option Str->List Stmt->Bool} (h:onH x k=true) (j:∀ t n b p,k t n b=true->C (.ExceptHandler t n b p)):C x:=by
 cases x; exact j _ _ _ _ h
@[elab_as_elim] theorem retB_e {C:MSs->Prop} {m:MSs} (h:retB m=true) (j:∀ b,C (.cons (.ret (.bool b)) .nil)):C m:=by
 cases m with
 | nil=>exact Bool.noConfusion h
 | cons m r=>
  obtain ⟨h1,h2⟩:=Bool.and_eq_true_iff.mp h
  cases r with
  | cons=>exact Bool.noConfusion h2
  | nil=>
   cases m<;>first | exact Bool.noConfusion h1 | skip
   rename_i e
   cases e<;>first | exact Bool.noConfusion h1 | exact j _
@[elab_as_elim] theorem isRetB_e {C:List Stmt->Prop} {l:List Stmt} (h:isRetB l=true) (j:∀ b k cp p,C [.Return (some (.Constant (.bool b) k cp)) p]):C l:=
 one_e (C:=C) h fun x h=>onRet_e (C:=fun x=>C [x]) h fun o p h=>onSome_e (C:=fun o=>C [.Return o p]) h fun v h=>onCst_e (C:=fun v=>C [.Return (some v) p]) h fun c k cp h=>by
  cases c<;>first | exact Bool.noConfusion h | exact j _ k cp p
end
section
variable {C:Value->Prop} {h₀ h:Heap} {W:Wd} {u:Value}
@[elab_as_elim] theorem VRep.int_e {i:Int} (r:VRep h₀ W h (.g (.int i)) u) (j:∀ t,C (.int i t)):C u:=by cases r with | g r=>cases r with | int _ t=>exact j t
@[elab_as_elim] theorem VRep.str_e {l:List Nat} (r:VRep h₀ W h (.g (.str l)) u) (j:∀ t,C (.str (A6 l) t)):C u:=by cases r with | g r=>cases r with | str _ t=>exact j t
@[elab_as_elim] theorem VRep.tup_e {l:List GV} (r:VRep h₀ W h (.g (.tup l)) u) (j:∀ {vs:List Value} {a:Addr},TupD h a vs.toArray->GReps h l vs->C (.ref a)):C u:=by cases r with | g r=>cases r with | tup t r=>exact j t r
@[elab_as_elim] theorem VRep.obj_e {i:Nat} (r:VRep h₀ W h (.obj i) u) (j:C (.ref (W.a i))):C u:=by cases r; exact j
end
set_option tactic.hygienic false
theorem I6 {v:AV} {k:Int->Prop} (q:intV v k):∃ i,v=.i i/\k i:=by
 cases v with
 | g x=>cases x with
  | int i=>exact ⟨i,rfl,q⟩
  | _=>exact False.elim q
 | _=>exact False.elim q
theorem strV_e {v:AV} {k:List Nat->Prop} (q:strV v k):∃ i,v=.s i/\k i:=by
 cases v with
 | g x=>cases x with
  | str i=>exact ⟨i,rfl,q⟩
  | _=>exact False.elim q
 | _=>exact False.elim q
theorem tupV_e {v:AV} {k:List GV->Prop} (q:tupV v k):∃ i,v=.g (.tup i)/\k i:=by
 cases v with
 | g x=>cases x with
  | tup i=>exact ⟨i,rfl,q⟩
  | _=>exact False.elim q
 | _=>exact False.elim q
theorem objV_e {v:AV} {k:Nat->Prop} (q:objV v k):∃ i,v=.obj i/\k i:=by
 cases v with
 | obj i=>exact ⟨i,rfl,q⟩
 | _=>exact False.elim q
theorem gvV_e {v:AV} {k:GV->Prop} (q:gvV v k):∃ i,v=.g i/\k i:=by
 cases v with
 | g i=>exact ⟨i,rfl,q⟩
 | _=>exact False.elim q
theorem arg0_e {l:List AV} {k:Prop} (q:arg0 l k):l=[]/\k:=by
 cases l with
 | nil=>exact ⟨rfl,q⟩
 | cons=>exact False.elim q
theorem arg1_e {l:List AV} {k:AV->Prop} (q:arg1 l k):∃ v,l=[v]/\k v:=by
 cases l with
 | nil=>exact False.elim q
 | cons v r=>exact ⟨v,congrArg _ (arg0_e q).1,(arg0_e q).2⟩
theorem arg2_e {l:List AV} {k:AV->AV->Prop} (q:arg2 l k):∃ v w,l=[v,w]/\k v w:=by
 cases l with
 | nil=>exact False.elim q
 | cons v r=>exact ⟨v,(arg1_e q).imp fun Z y=>⟨congrArg _ y.1,y.2⟩⟩
theorem oneS_e {l:List Nat} {k:Nat->Prop} (q:oneS l k):∃ v,l=[v]/\k v:=by
 cases l with
 | nil=>exact False.elim q
 | cons v r=>cases r with
  | nil=>exact ⟨v,rfl,q⟩
  | cons=>exact False.elim q
theorem binop_e {op:Operator} {u v:AV} {Q:AV->Prop} (q:binop op u v Q):(∃ a b,u=.i a/\v=.i b/\arith op a b Q)\/∃ a b,u=.s a/\v=.s b/\catS op a b Q:=by
 cases u with
 | g x=>cases x with
  | int a=>exact .inl ⟨a,(I6 q).imp fun Z y=>⟨rfl,y⟩⟩
  | str a=>exact .inr ⟨a,(strV_e q).imp fun Z y=>⟨rfl,y⟩⟩
  | _=>exact False.elim q
 | _=>exact False.elim q
theorem catS_e {op:Operator} {a b:List Nat} {Q:AV->Prop} (q:catS op a b Q):op=.Add/\a.length+b.length<=1000000/\Q (.s (a++b)):=by
 cases op with
 | Add=>exact ⟨rfl,cB q⟩
 | _=>exact False.elim q
theorem ordop_e {op:Cm} {u v:AV} {Q:Bool->Prop} (q:ordop op u v Q):∃ a b,u=.i a/\v=.i b/\ordI op a b Q:=(I6 q).imp fun Z y=>(I6 y.2).imp fun Z z=>⟨y.1,z⟩
noncomputable def PureV (s:Shared) (Q:AV->Prop) (u:Value) (s':Shared):Prop:=∃ v tk,s'={s with toks:=tk}/\(∀ h₀ W h,VRep h₀ W h v u)/\(∀ n,v.within n=true)/\Q v
theorem H8 {s:Shared} {Q:AV->Prop} {i:Int} {t tk:Nat} (h:Q (.i i)):PureV s Q (.int i t) {s with toks:=tk}:=⟨.i i,tk,rfl,fun Z Z Z=>.g (.int i t),fun Z=>by simp [AV.within],h⟩
theorem M4 {s:Shared} {Q:AV->Prop} {b:Bool} {tk:Nat} (h:Q (.bool b)):PureV s Q (.bool b) {s with toks:=tk}:=⟨.bool b,tk,rfl,fun Z Z Z=>.bool b,fun Z=>by simp [AV.within],h⟩
theorem pure_str {s:Shared} {Q:AV->Prop} {l:List Nat} {t tk:Nat} (h:Q (.s l)):PureV s Q (.str (A6 l) t) {s with toks:=tk}:=⟨.s l,tk,rfl,fun Z Z Z=>.g (.str l t),fun Z=>by simp [AV.within],h⟩
theorem natsEq_eq {a b:List Nat}:F0 a b=decide (a=b):=by
 induction a generalizing b with
 | nil=>cases b<;>rfl
 | cons x l ih=>cases b with
  | nil=>rfl
  | cons y r=>
   show (match x==y with | true=>F0 l r | false=>false)=_
   by_cases e:x=y
   ·rw [beq_iff_eq.mpr e,e]
    exact ih.trans (decide_eq_decide.mpr ⟨fun z=>by rw [z],fun z=>List.tail_eq_of_cons_eq z⟩)
   ·rw [beq_false_of_ne e]
    exact (decide_eq_false fun z=>e (List.head_eq_of_cons_eq z)).symm
theorem strOf_eq {a b:List Nat}:A6 a=A6 b↔a=b:=by simp [A6]
theorem strOf_beq {a b:List Nat}:(A6 a==A6 b)=F0 a b:=by
 rw [natsEq_eq]
 by_cases e:a=b
 ·subst e; simp
 ·have:A6 a≠A6 b:=fun q=>e (strOf_eq.mp q)
  simp [e,this]
theorem strOf_len {a:List Nat}:(A6 a).length=a.length:=by simp [A6,Str.length]
theorem strOf_app {a b:List Nat}:A6 a++A6 b=A6 (a++b):=by
 show Str.append _ _=_
 simp [Str.append,A6]
theorem intBits_64 {a:Int} (h:a.natAbs < 2 ^ 64):Builtin.Int.intBits a<=64:=by
 exact intBits_le_64 (by omega) (by omega)
section
variable {w:World} {A:Around} {E:Value->Shared->Prop} {s:Shared} {h₀ h:Heap} {W:Wd} {v₁ v₂:AV} {u₁ u₂:Value}
theorem binop_ok {op:Operator} {Q:AV->Prop} (r₁:VRep h₀ W h v₁ u₁) (r₂:VRep h₀ W h v₂ u₂) (q:binop op v₁ v₂ Q):wpAny (Md w) A (binaryOp op u₁ u₂) (PureV s Q) E s:=by
 rcases binop_e q with ⟨a,b,rfl,rfl,q⟩ | ⟨a,b,rfl,rfl,q⟩
 ·refine VRep.int_e r₁ fun t=>?_
  refine VRep.int_e r₂ fun t'=>?_
  cases op with
  | Add=>exact PyProof.Rows.add_int (H8 q)
  | Sub=>exact PyProof.Rows.sub_int' (H8 q)
  | Mult=>have q:=cM q; exact PyProof.Rows.mul_int (H8 q.2) (q.1.elim (fun m=>.of_left (intBits_64 m)) fun m=>.of_right (intBits_64 m))
  | Mod=>exact PyProof.Rows.mod_int' (cD q).1 (H8 (cD q).2)
  | Pow=>have q:=cD q; exact PyProof.Rows.pow_int q.1.1 (Int.le_trans (Int.mul_le_mul_of_nonneg_right (Int.ofNat_le.mpr (intBits_64 q.1.2.2)) q.1.1) (Int.le_trans (Int.mul_le_mul_of_nonneg_left q.1.2.1 (by decide)) (by decide))) (H8 q.2)
  | LShift=>have q:=cD q; exact PyProof.Rows.lshift_int_small q.1.1 (Int.le_trans q.1.2.1 (by decide)) q.1.2.2 (H8 q.2)
  | RShift=>exact PyProof.Rows.rshift_int (cD q).1 (H8 (cD q).2)
  | BitOr=>exact PyProof.Rows.or_int (H8 q)
  | BitXor=>exact PyProof.Rows.xor_int (H8 q)
  | BitAnd=>exact PyProof.Rows.and_int (H8 q)
  | FloorDiv=>have q:=cD q; exact PyProof.Rows.floordiv_int q.1.1 (H8 q.2) (.inl (PyProof.noPylong_small q.1.2))
  | _=>exact False.elim q
 ·refine VRep.str_e r₁ fun t=>?_
  refine VRep.str_e r₂ fun t'=>?_
  obtain ⟨rfl,q1,q2⟩:=catS_e q
  exact PyProof.Rows.add_str (fun t' tk=>by rw [strOf_app]; exact pure_str q2) (by rw [strOf_len,strOf_len,sizeLine_eq]; exact Nat.le_trans q1 (by decide))
theorem inplace_ok {op:Operator} {Q:AV->Prop} (hop:(op==.Add||op==.Sub)=true) (r₁:VRep h₀ W h v₁ u₁) (r₂:VRep h₀ W h v₂ u₂) (q:binop op v₁ v₂ Q):wpAny (Md w) A (inplaceOp op u₁ u₂) (PureV s Q) E s:=by
 have hop:op=.Add\/op=.Sub:=by cases op<;>first | exact .inl rfl | exact .inr rfl | exact Bool.noConfusion hop
 rcases binop_e q with ⟨a,b,rfl,rfl,q⟩ | ⟨a,b,rfl,rfl,q⟩
 ·refine VRep.int_e r₁ fun t=>?_
  refine VRep.int_e r₂ fun t'=>?_
  rcases hop with rfl | rfl
  ·exact PyProof.Rows.iadd_int (H8 q)
  ·exact PyProof.Rows.isub_int (H8 q)
 ·refine VRep.str_e r₁ fun t=>?_
  refine VRep.str_e r₂ fun t'=>?_
  obtain ⟨rfl,q1,q2⟩:=catS_e q
  exact PyProof.Rows.iadd_str (fun t' tk=>by rw [strOf_app]; exact pure_str q2) (by rw [strOf_len,strOf_len,sizeLine_eq]; exact Nat.le_trans q1 (by decide))
theorem ordop_ok {op:Cm} {Q:Bool->Prop} (r₁:VRep h₀ W h v₁ u₁) (r₂:VRep h₀ W h v₂ u₂) (q:ordop op v₁ v₂ Q) :
  wpAny (Md w) A (compareOp (cmOf op) u₁ u₂) (fun u s'=>∃ b,u=.bool b/\s'=s/\Q b) E s:=by
 obtain ⟨a,b,rfl,rfl,q⟩:=ordop_e q
 refine VRep.int_e r₁ fun t=>?_
 refine VRep.int_e r₂ fun t'=>?_
 cases op with
 | eq=>exact False.elim q
 | ne=>exact False.elim q
 | lt=>exact PyProof.Rows.lt_int ⟨_,rfl,rfl,q⟩
 | le=>exact PyProof.Rows.le_int ⟨_,rfl,rfl,q⟩
 | gt=>exact PyProof.Rows.gt_int ⟨_,rfl,rfl,q⟩
 | ge=>exact PyProof.Rows.ge_int ⟨_,rfl,rfl,q⟩
end
section
variable {w:World} {A:Around} {E:Value->Shared->Prop} {s:Shared} {h₀:Heap} {W:Wd} {st:St} {v:AV} {u:Value} {a:Nat}
theorem handed_of {h:Heap} {v:AV} {u:Value} (r:VRep h₀ W h v u):handedIn u=true:=by
 cases r with
 | g r=>cases r<;>rfl
 | any e=>exact e
 | _=>rfl
theorem vs_in {n:Nat} {x:Nat} {l:A2} {w:AV} (h:∀ p∈l,p.2.within n=true) (e:B2 x l=some w):w.within n=true:=h _ (C7 e)
theorem instO_e {o:Option AO} {k:Nat->A2->Prop} (q:instO o k):∃ c fs,o=some (.inst c fs)/\k c fs:=by
 cases o with
 | none=>exact False.elim q
 | some o=>cases o with
  | inst c fs=>exact ⟨c,fs,rfl,q⟩
  | _=>exact False.elim q
theorem K5 {b:Bool} {P:Prop} (q:cond b P False):b=true/\P:=by
 cases b with
 | true=>exact ⟨rfl,q⟩
 | false=>exact False.elim q
theorem getAttr_ok {Q:AV->Prop} (fx:Fx w h₀) (G:Good w h₀ W st s.heap) (ha:a < nmL.length) (r:VRep h₀ W s.heap v u) (q:getAttrV st v a Q) :
  wpAny (Md w) A (getAttr u (nm a) true) (fun u' s'=>∃ x,s'={s with toks:=s.toks+1}/\VRep h₀ W s.heap x u'/\x.within st.nx=true/\Q x) E s:=by
 obtain ⟨i,rfl,q⟩:=objV_e q
 obtain ⟨c,fs,hi,q⟩:=instO_e q
 refine VRep.obj_e r (ofO_e q fun x hx q=>?_)
 refine byG fun G_ k_=>?_
 obtain ⟨hne,⟨hf,_⟩,sl,es,n,e1,e2,fr⟩:=G.rep i _ hi
 obtain ⟨u',e3,r'⟩:=fr.get ha hx
 have X:=fx.X.keeps G.stays
 have o1:=(field_ok w.params (hf _ (C7 hx))).1
 unfold okGet at o1
 obtain ⟨o12,o3⟩:=Bool.and_eq_true_iff.mp o1
 obtain ⟨o1,o2⟩:=Bool.and_eq_true_iff.mp o12
 cases ho:findIn (KK w.params) (.ref c) (nm a) with
 | none=>rw [ho] at o3; cases o3
 | some attr=>
  rw [ho] at o3
  exact k_ (get_value (od:=some (dictOf es n)) X ⟨e1,rfl,rfl,e2⟩ (plainGet_of o1).1 (findObj_own o2 ho o3 (by rw [lookIn_dict]; exact e3)) (handed_of r') ⟨x,rfl,r',(G.inn hi) _ (C7 hx),q⟩)
theorem setAttr_ok {Q:St->Prop} {x:AV} {ux:Value} (fx:Fx w h₀) (G:Good w h₀ W st s.heap) (r:VRep h₀ W s.heap v u) (rx:VRep h₀ W s.heap x ux) (hx:x.within st.nx=true) (q:setAttrV tabs st v a x Q) :
  wpAny (Md w) A (setAttr u (nm a) ux) (fun Z s'=>∃ st',Good w h₀ W st' s'.heap/\Step [] W st s.heap W st' s'.heap/\(s'.gens=s.gens/\s'.os=s.os)/\Q st') E s:=by
 obtain ⟨i,rfl,q⟩:=objV_e q
 obtain ⟨c,fs,hi,q⟩:=instO_e q
 obtain ⟨hF,q⟩:=K5 q
 refine VRep.obj_e r ?_
 refine byG fun G_ k_=>?_
 obtain ⟨hne,⟨hf,hnd⟩,sl,es,n,e1,e2,fr⟩:=G.rep i _ hi
 obtain ⟨_,o14,ha⟩:=field_ok w.params hF
 obtain ⟨o13,o4⟩:=Bool.and_eq_true_iff.mp o14
 obtain ⟨o12,o3⟩:=Bool.and_eq_true_iff.mp o13
 obtain ⟨o1,o2⟩:=Bool.and_eq_true_iff.mp o12
 have X:=fx.X.keeps G.stays
 have hl:(getL (nm a) es).isSome=true:=by
  cases z:B2 a fs with
  | some y=>obtain ⟨_,z',_⟩:=fr.get ha z; rw [z']; rfl
  | none=>rw [fr.none ha z]; rfl
 have hz:es.length<=1000:=by rw [fr.length]; exact Nat.le_trans (fields_le hf hnd) (by decide)
 have up:=Heap.get?_update_self (Obj.putName (nm a) (PyData.keyHash w.params (nm a)) (.str (nm a) (s.toks+1)) ux) e2 (by rw [putName_dict]; rfl)
 rw [putName_dict] at up
 have hin:(AO.inst c (put a x fs)).In st.nx:=fun p hp=>(mem_put hp).elim (fun z=>by rw [z]; exact hx) fun hp=>(G.inn hi) p hp
 obtain ⟨G',S'⟩:=G.upd (h':=s.heap.update (W.d i) (Obj.putName (nm a) (PyData.keyHash w.params (nm a)) (.str (nm a) (s.toks+1)) ux)) (o':=.inst c (put a x fs)) hi (.inr rfl)
  (fun b o hb e=>(Heap.get?_update_other _ _ (Ne.symm hb)).trans e) ⟨_,up⟩ (fun kt=>
   ⟨hne,⟨fun p hp=>(mem_put hp).elim (fun z=>by rw [z]; exact hF) fun hp=>hf p hp,put_keys hnd⟩,sl,_,_,(Heap.get?_update_other _ _ hne).trans e1,up,(fr.mono kt (fun Z Z=>rfl) (G.inn hi)).put ha (rx.mono kt (fun Z Z=>rfl) hx)⟩) hin
 exact k_ (set_plain (od:=some (dictOf es n)) X ⟨e1,rfl,rfl,e2⟩ (beq_iff_eq.mp o1) (osa_heap (s:={s with toks:=s.toks+1}) X e1 e2 o2 (beq_iff_eq.mp o3) o4 hl hz ⟨_,G',S',⟨rfl,rfl⟩,q⟩))
end
structure H (w:World) (h₀:Heap) (A:Around) (env:Env) (vs:A2) (W:Wd) (st:St) (s:Shared) (fs:List Env) (d:Nat):Prop where
 fx:Fx w h₀
 G:Good w h₀ W st s.heap
 F:Frm h₀ env vs W st s.heap
 N:Arnd h₀ A W st s.heap d
 fr:A.frames=some fs
theorem H.step {w:World} {h₀:Heap} {A:Around} {env:Env} {vs:A2} {W W':Wd} {st st':St} {s s':Shared} {fs:List Env} {d:Nat} (x:H w h₀ A env vs W st s fs d) (G:Good w h₀ W' st' s'.heap) (S:Step [] W st s.heap W' st' s'.heap) :
  H w h₀ A env vs W' st' s' fs d:=⟨x.fx,G,x.F.step x.G S,x.N.step S,x.fr⟩
theorem H.toks {w:World} {h₀:Heap} {A:Around} {env:Env} {vs:A2} {W:Wd} {st:St} {s:Shared} {fs:List Env} {d tk:Nat} (x:H w h₀ A env vs W st s fs d):H w h₀ A env vs W st {s with toks:=tk} fs d:=⟨x.fx,x.G,x.F,x.N,x.fr⟩
noncomputable abbrev JE (w:World) (h₀:Heap) (A:Around) (fs:List Env) (W:Wd) (st:St) (s:Shared) (t:Sem Value) (Q:AV->St->Prop) (X:St->Prop):Prop:=
 wpAny (Md w) A t (PostE w h₀ W st s Q) (PostX w h₀ fs none W st s X) s
noncomputable def A8 (d:Nat) (cl:A7) (m:ME):Prop:=∀ {w:World} {h₀:Heap} {A:Around} {env:Env} {vs:A2} {W:Wd} {st:St} {s:Shared} {fs:List Env} {Q:AV->St->Prop} {X:St->Prop} {e:Expr},
 H w h₀ A env vs W st s fs d->A9 w.params env.scope m e=true->vcE tabs cl X m vs st Q->JE w h₀ A fs W st s (eval e env) Q X
noncomputable def PostB (w:World) (h₀:Heap) (W:Wd) (st:St) (s:Shared) (Q:Bool->St->Prop) (b:Bool) (s':Shared):Prop:=
 ∃ W' st',Good w h₀ W' st' s'.heap/\Step [] W st s.heap W' st' s'.heap/\(s'.gens=s.gens/\s'.os=s.os)/\Q b st'
noncomputable def SemB (d:Nat) (cl:A7) (m:ME):Prop:=∀ {w:World} {h₀:Heap} {A:Around} {env:Env} {vs:A2} {W:Wd} {st:St} {s:Shared} {fs:List Env} {Q:Bool->St->Prop} {X:St->Prop} {e:Expr},
 H w h₀ A env vs W st s fs d->A9 w.params env.scope m e=true->vcE tabs cl X m vs st (kBool Q) ->
 wpAny (Md w) A (isTrue e env (eval e env)) (PostB w h₀ W st s Q) (PostX w h₀ fs none W st s X) s
noncomputable def SemEs (d:Nat) (cl:A7) (m:MEs):Prop:=∀ {w:World} {h₀:Heap} {A:Around} {env:Env} {vs:A2} {W:Wd} {st:St} {s:Shared} {fs:List Env} {Q:List AV->St->Prop} {X:St->Prop} {l:List Expr} {pos:Pos},
 H w h₀ A env vs W st s fs d->chkEs w.params env.scope m l=true->vcEs tabs cl X m vs st Q ->
 wpAny (Md w) A (spliced (backTo pos (starEach l env))) (PostEs w h₀ W st s Q) (PostX w h₀ fs none W st s X) s
section
variable {w:World} {h₀:Heap} {A:Around} {env:Env} {vs:A2} {W:Wd} {st:St} {s:Shared} {fs:List Env} {d:Nat} {cl:A7} {X:St->Prop}
theorem JE.to {t:Sem Value} {R:AV->St->Prop} {PQ:Value->Shared->Prop} (x:JE w h₀ A fs W st s t R X)
  (h:∀ W' st' s' v u,Good w h₀ W' st' s'.heap->Step [] W st s.heap W' st' s'.heap->(s'.gens=s.gens/\s'.os=s.os)->VRep h₀ W' s'.heap v u->v.within st'.nx=true->R v st'->PQ u s') :
  wpAny (Md w) A t PQ (PostX w h₀ fs none W st s X) s:=
 wpAny_mono x (fun u s' p=>p.casesOn fun W' st' v a1 a2 a3 a4 a5 a6=>h W' st' s' v u a1 a2 a3 a4 a5 a6) fun Z Z p=>p
theorem JE.on {α:Type} {k:Sem α} {W':Wd} {st':St} {s':Shared} {R:α->Shared->Prop} {PQ:α->Shared->Prop} (x:wpAny (Md w) A k R (PostX w h₀ fs none W' st' s' X) s') (S:Step [] W st s.heap W' st' s'.heap) (g:s'.gens=s.gens/\s'.os=s.os)
  (h:∀ r s₂,R r s₂->PQ r s₂):wpAny (Md w) A k PQ (PostX w h₀ fs none W st s X) s':=wpAny_mono x h fun Z Z p=>p.after S g
theorem pureE {W':Wd} {st':St} {s' s₂:Shared} {Q:AV->St->Prop} {u:Value} (G:Good w h₀ W' st' s'.heap) (S:Step [] W st s.heap W' st' s'.heap) (g:s'.gens=s.gens/\s'.os=s.os)
  (p:PureV s' (fun v=>Q v st') u s₂):PostE w h₀ W st s Q u s₂:=by
 obtain ⟨v,tk,rfl,r,n,q⟩:=p
 exact ⟨W',st',v,G,S,g,r _ _ _,n _,q⟩
theorem se_none (d cl):A8 d cl .none:=fun {Z Z Z Z Z Z Z Z Z Z Z e} x hc q=>by
 refine isNo_e hc fun Z Z=>?_
 exact wpAny_pure (postE_now (tk:=_) x.G (.g .none) rfl q)
end
set_option tactic.hygienic true
theorem nmL_ok:(nmL.all fun s=>s != ("__classdict__" : Str))=true:=by decide +kernel
theorem nm_ok (x:Nat):(nm x==("__classdict__" : Str))=false:=by
 unfold nm
 cases e:nmL[x]? with
 | none=>decide +kernel
 | some s=>
  have:=List.all_eq_true.mp nmL_ok s (List.mem_of_getElem? e)
  simpa [bne] using this
section
variable {w:World} {h₀:Heap} {A:Around} {env:Env} {vs:A2} {W:Wd} {st:St} {s:Shared} {fs:List Env} {d:Nat} {cl:A7} {X:St->Prop} {E:Value->Shared->Prop}
theorem cell_go {M:Model} {name:Str} {a:Addr} {o:Obj} {v:Value} {Q:Value->Shared->Prop} {m:Sem Value} (hc:env.cells.lookup name=some a) (ho:s.heap.get? a=some o) (hd:o.data=.cell (some v)) (h:Q v s) :
  wpAny M A (do match <- cellGet (<- cellOf env name) with
  | some v=>pure v
  | none=>m) Q E s:=by
 unfold cellOf cellGet
 rw [hc]
 refine wpAny_bind (wpAny_pure (wpAny_bind (wpAny_bind (wpAny_load ho ?_))))
 rw [hd]
 exact wpAny_pure (wpAny_pure h)
theorem loadName_cell {M:Model} {name:Str} {a:Addr} {o:Obj} {v:Value} {Q:Value->Shared->Prop} (hk:env.scope.kind=.function) (hl:env.kindOf name=some .cell\/(env.kindOf name=some .free/\(name==("__classdict__" : Str))=false))
  (hc:env.cells.lookup name=some a) (ho:s.heap.get? a=some o) (hd:o.data=.cell (some v)) (h:Q v s):wpAny M A (loadName env name) Q E s:=by
 exact hl.elim (fun hl=>wpAny_loadName_cell hk hl hc ⟨o,ho,hd⟩ h) fun hl=>wpAny_loadName_free hk hl.1 hc ⟨o,ho,hd⟩ h hl.2
theorem name_ok {M:Model} {x:Nat} {v:AV} (F:Frm h₀ env vs W st s.heap) (hl:isLoc env.scope (nm x)=true) (e:B2 x vs=some v) {Q:Value->Shared->Prop} (h:∀ u,VRep h₀ W s.heap v u->Q u s) :
  wpAny M A (loadName env (nm x)) Q E s:=by
 rcases Bool.or_eq_true_iff.mp hl with k | k
 ·have k:=beq_iff_eq.mp k
  obtain ⟨m,hm,hv⟩:=F.ns
  obtain ⟨u,e1,r⟩:=hv x v e k
  exact wpAny_loadName_local F.kind k hm e1 (h u r)
 ·have k:=(Bool.or_eq_true_iff.mp k).imp beq_iff_eq.mp beq_iff_eq.mp
  obtain ⟨a,u,e1,⟨o,e2,e3⟩,r⟩:=F.cell x v e k
  exact loadName_cell F.kind (k.imp id fun k=>⟨k,nm_ok x⟩) e1 e2 e3 (h u r)
theorem glob_ok {M:Model} {id:Str} {v:Value} {pos:Pos} (F:Frm h₀ env vs W st s.heap) (G:Good w h₀ W st s.heap) (fx:Fx w h₀) (hg:isGl env.scope id=true) (e:nsIn (KK w.params) mainGlobals id=some (some v)) {Q:Value->Shared->Prop} (h:Q v s) :
  wpAny M A (eval (.Name id pos) env) Q E s:=by
 obtain ⟨p,loose,mg,mb,T⟩:=fx.T
 simp only [isGl,Bool.and_eq_true,beq_iff_eq,bne_iff_ne,ne_eq] at hg
 exact Name_function_global F.kind hg.1 (loadGlobal_global (by rw [F.glob]; exact T.g.keeps G.stays) (mg_of fx.X T.g e) h) (by simpa using hg.2)
theorem gBlt_ok {M:Model} {id n:Str} {v:Value} {pos:Pos} (F:Frm h₀ env vs W st s.heap) (G:Good w h₀ W st s.heap) (fx:Fx w h₀) (hg:gBlt w.params env.scope id n=true) (hv:bootBuiltins n=some v) (hn:n ≠ "__name__") {Q:Value->Shared->Prop} (h:Q v s) :
  wpAny M A (eval (.Name id pos) env) Q E s:=by
 obtain ⟨p,loose,mg,mb,T⟩:=fx.T
 simp only [gBlt,isGl,Bool.and_eq_true,beq_iff_eq,bne_iff_ne,ne_eq] at hg
 obtain ⟨⟨rfl,hg⟩,hq⟩:=hg
 exact Name_function_global F.kind hg.1 (loadGlobal_builtin (by rw [F.glob]; exact T.g.keeps G.stays) (mg_none_of fx.X T.g hq) (by rw [F.bi]; exact T.b.keeps G.stays) ((T.builtins id hn).trans hv) h) (by simpa using hg.2)
theorem none_ok {h:Heap} {v:AV} {u:Value} {k:Bool->Prop} (r:VRep h₀ W h v u) (q:isNoneV' v k):k (u==.none):=by
 cases r with
 | g r=>cases r<;>exact q
 | tup _ _=>exact q
 | obj i=>exact q
 | _=>exact False.elim q
theorem boolV_e {v:AV} {k:Bool->Prop} (q:boolV v k):∃ b,v=.bool b/\k b:=by
 cases v with
 | bool i=>exact ⟨i,rfl,q⟩
 | _=>exact False.elim q
end
section
variable {d:Nat} {cl:A7}
theorem se_bool (b):A8 d cl (.bool b):=fun {Z Z Z Z Z Z Z Z Z Z Z e} x hc q=>by
 refine onCst_e hc fun c Z Z hc=>?_
 cases c<;>first | exact Bool.noConfusion hc | skip
 obtain rfl:=beq_iff_eq.mp hc
 exact wpAny_pure (postE_now (tk:=_) x.G (.bool _) rfl q)
theorem se_int (b):A8 d cl (.int b):=fun {Z Z Z Z Z Z Z Z Z Z Z e} x hc q=>by
 refine onCst_e hc fun c Z Z hc=>?_
 cases c<;>first | exact Bool.noConfusion hc | skip
 obtain rfl:=beq_iff_eq.mp hc
 exact wpAny_Constant_int (postE_now x.G (.g (.int _ _)) rfl q)
theorem se_str (b):A8 d cl (.str b):=fun {Z Z Z Z Z Z Z Z Z Z Z e} x hc q=>by
 refine onCst_e hc fun c Z Z hc=>?_
 cases c<;>first | exact Bool.noConfusion hc | skip
 rename_i c
 have e1:c.cps.toList=b:=beq_iff_eq.mp hc
 have:c=A6 b:=str_eq (by rw [e1]; simp [A6])
 subst this
 exact wpAny_Constant_str (postE_now x.G (.g (.str _ _)) rfl q)
theorem se_var (n):A8 d cl (.var n):=fun {Z Z Z Z Z Z Z Z Z Z Z e} x hc q=>by
 refine F7 hc fun id pos hc=>and3 hc fun h1 hl hd=>?_
 obtain rfl:=beq_iff_eq.mp h1
 exact ofO_e q fun v hv q=>wpAny_Name (name_ok x.F hl hv fun u r=>postE_now (tk:=_) x.G r (vs_in x.F.vwf hv) q) (by simpa using hd)
theorem gInt_e {a:Option (Option Value)} {b:Option Int} (h:gIntOk a b=true):∃ i t,a=some (some (.int i t))/\b=some i:=by
 cases a with
 | none=>cases h
 | some a=>cases a with
  | none=>cases h
  | some v=>cases v with
   | int i t=>exact ⟨i,t,rfl,beq_iff_eq.mp h⟩
   | _=>cases h
theorem se_gint (n):A8 d cl (.gint n):=fun {Z Z Z Z Z Z Z Z Z Q Z e} x hc q=>by
 refine F7 hc fun id pos hc=>and2 hc fun h1 h2=>?_
 obtain ⟨i,t,e2,e3⟩:=gInt_e h2
 refine ofO_e (o:=globL n) q fun j hj q=>?_
 cases e3.symm.trans hj
 exact glob_ok x.F x.G x.fx h1 e2 (postE_now (tk:=_) x.G (.g (.int _ _)) rfl q)
theorem base_ok {o:Expr} {n:Str} {env:Env} {whole:Sem Value} (h:noSuper o=true):attributeBase o n env whole=whole:=by
 cases o with
 | Call f a k p=>cases f with
  | Name id q=>cases a with
   | nil=>cases k with
    | nil=>
     unfold attributeBase
     dsimp only
     rw [show (id != ("super" : Str))=true from h]
     rfl
    | cons=>rfl
   | cons=>rfl
  | _=>rfl
 | _=>rfl
theorem se_attr {m:ME} (ih:A8 d cl m) (a):A8 d cl (.attr m a):=fun {Z Z Z Z Z Z Z Z Z Z Z e} x hc q=>by
 refine onAttr_e hc fun v n pos hc=>and4 hc fun h0 h1 h2 h3=>beq_e (C:=fun n=>wpAny _ _ (eval (.Attribute v n pos) _) _ _ _) h0 ?_
 skip
 refine Attribute_any_ ((ih x h3 q).to fun W' st' s' v' u G S g r hw q'=>?_) (by
  show (attributeBase v _ _ _>>=_)=_
  rw [base_ok h1])
 refine wpAny_mono (getAttr_ok x.fx G (Nat.blt_eq.mp h2) r q') (fun u' s₂ p=>?_) fun Z Z p=>p
 obtain ⟨y,rfl,ry,hy,qy⟩:=p
 exact ⟨W',st',y,G,S,g,ry,hy,qy⟩
theorem se_bin {l r:ME} (ihl:A8 d cl l) (ihr:A8 d cl r) (op):A8 d cl (.bin op l r):=fun {Z Z Z Z Z Z Z Z Z Z Z e} x hc q=>by
 refine onBin_e hc fun a o b pos hc=>and3 hc fun h0 h1 h2=>?_
 obtain rfl:=beq_iff_eq.mp h0
 skip
 refine wpAny_BinOp ((ihl x h1 q).to fun W' st' s' v' u G S g r' hw q'=>?_)
 refine JE.on (ihr (x.step G S) h2 q') S g fun u₂ s₂ p=>?_
 obtain ⟨W₂,st₂,v₂,G₂,S₂,g₂,r₂,hw₂,q₂⟩:=p
 exact wpAny_mono (binop_ok (S₂.val r' hw) r₂ q₂) (fun u₃ s₃ p=>pureE G₂ (S.trans S₂) ⟨g₂.1.trans g.1,g₂.2.trans g.2⟩ p) fun Z Z p=>p
theorem se_neg {m:ME} (ih:A8 d cl m):A8 d cl (.neg m):=fun {Z Z Z Z Z Z Z Z Z Z Z e} x hc q=>by
 refine onUn_e hc fun o v pos hc=>?_
 cases o<;>first | exact Bool.noConfusion hc | skip
 refine wpAny_UnaryOp ((ih x hc q).to fun W' st' s' v' u G S g r hw q'=>?_)
 obtain ⟨i,rfl,q'⟩:=I6 q'
 exact VRep.int_e r fun t=>PyProof.Rows.neg_int (pureE G S g (H8 q'))
theorem se_not {m:ME} (ih:A8 d cl m):A8 d cl (.not m):=fun {Z Z Z Z Z Z Z Z Z Z Z e} x hc q=>by
 refine onUn_e hc fun o v pos hc=>?_
 cases o<;>first | exact Bool.noConfusion hc | skip
 refine wpAny_UnaryOp ((ih x hc q).to fun W' st' s' v' u G S g r hw q'=>?_)
 obtain ⟨b,rfl,q'⟩:=boolV_e q'
 cases r
 exact not_value (wpAny_truthy_bool (pureE (s₂:=s') G S g (M4 (tk:=s'.toks) q')))
theorem noBehind {op:CmpOp} {e:Expr} (h:noSet e=true):behindInMarks op e=false:=by
 cases e with
 | Set=>cases h
 | _=>rfl
theorem se_isNone {m:ME} (ih:A8 d cl m):A8 d cl (.isNone m):=fun {Z Z Z Z Z Z Z Z Z Z Z e} x hc q=>by
 refine M0 hc fun a o b pos hc=>and3 hc fun h0 h1 hc=>?_
 refine beq_e h0 (isNo_e h1 fun k p=>?_)
 skip
 refine wpAny_Compare1 ((ih x hc q).to fun W' st' s' v' u G S g r hw q'=>?_) rfl
 refine wpAny_Constant_none (is_none ?_)
 exact pureE (s₂:=s') G S g (M4 (tk:=s'.toks) (none_ok r q'))
theorem se_notNone {m:ME} (ih:A8 d cl m):A8 d cl (.notNone m):=fun {Z Z Z Z Z Z Z Z Z Z Z e} x hc q=>by
 refine M0 hc fun a o b pos hc=>and3 hc fun h0 h1 hc=>?_
 refine beq_e h0 (isNo_e h1 fun k p=>?_)
 skip
 refine wpAny_Compare1 ((ih x hc q).to fun W' st' s' v' u G S g r hw q'=>?_) rfl
 refine wpAny_Constant_none (isNot_none ?_)
 exact pureE (s₂:=s') G S g (M4 (tk:=s'.toks) (none_ok r q'))
end
set_option tactic.hygienic false
theorem listO_e {α β:Type} {f:α->Option β} {v:α} {r:List α} {ds:List β} (e:listO f (v::r)=some ds):∃ a l,f v=some a/\listO f r=some l/\ds=a::l:=by
 have e:(match f v,listO f r with | some a,some l=>some (a::l) | _,_=>none)=some ds:=e
 cases h1:f v with
 | none=>rw [h1] at e; cases e
 | some a=>cases h2:listO f r with
  | none=>rw [h1,h2] at e; cases e
  | some l=>rw [h1,h2] at e; exact ⟨a,l,rfl,rfl,(Option.some.inj e).symm⟩
inductive TP (n:Nat) (st:St):AV->PyData->Prop where
 | g (x:GV):TP n st (.g x) (gP x)
 | tup (l:List AV) (ds:List PyData):listO (toP n st) l=some ds->TP n st (.tup l) (.tuple ds)
 | gl (i:Nat) (l:List GV):st.get i=some (.gl l)->TP n st (.obj i) (.list (gPs l))
 | ol (i:Nat) (l:List AV) (ds:List PyData):st.get i=some (.ol l)->listO (toP n st) l=some ds->TP n st (.obj i) (.list ds)
theorem toP_e {n:Nat} {st:St} {v:AV} {d:PyData} (e:toP (n+1) st v=some d):TP n st v d:=by
 have sub:∀ {f:List PyData->PyData} {l:List AV},(match listO (toP n st) l with | some l=>some (f l) | none=>none)=some d->∃ ds,listO (toP n st) l=some ds/\d=f ds:=fun {f l} e=>by
  cases h:listO (toP n st) l with
  | none=>rw [h] at e; cases e
  | some ds=>rw [h] at e; exact ⟨ds,rfl,(Option.some.inj e).symm⟩
 cases v with
 | g x=>cases e; exact .g x
 | tup l=>
  obtain ⟨ds,h,q⟩:=sub (f:=.tuple) e
  rw [q]; exact .tup l ds h
 | obj i=>
  have e:(match st.get i with
   | some (.gl l)=>some (.list (gPs l))
   | some (.ol l)=>match listO (toP n st) l with | some l=>some (.list l) | none=>none
   | _=>none)=some d:=e
  cases h:st.get i with
  | none=>rw [h] at e; cases e
  | some o=>
   rw [h] at e
   cases o with
   | gl l=>cases e; exact .gl i l h
   | ol l=>
    obtain ⟨ds,h',q⟩:=sub (f:=.list) e
    rw [q]; exact .ol i l ds h h'
   | _=>cases e
 | _=>cases e
theorem eqv_nil {d:PyData} (h:PyData.eqv d (.list [])=true):d=.list []:=by
 cases d with
 | list l=>cases l with
  | nil=>rfl
  | cons=>exact Bool.noConfusion h
 | _=>exact Bool.noConfusion h
section
variable {w:World} {h₀ h:Heap} {W:Wd} {st:St}
theorem gReps_reads {l:List GV} {us:List Value} (r:GReps h l us):∃ as,ReadsAll h us (gPs l) as:=
 GReps.rec (motive_1:=fun v u Z=>∃ as,Reads h u (gP v) as) (motive_2:=fun l us Z=>∃ as,ReadsAll h us (gPs l) as) ⟨_,Reads.none⟩ (fun i t=>⟨_,Reads.int i t⟩) (fun l t=>⟨_,Reads.str (A6 l) t⟩)
  (fun t Z q=>q.elim fun as q=>t.elim fun o t=>t.2.2.2.elim fun n hd=>⟨as,by rw [gP]; exact reads_tuple_at t.1 t.2.1 hd q⟩)
  ⟨_,ReadsAll.nil⟩ (fun Z Z a b=>a.elim fun as q=>b.elim fun bs p=>⟨_,by rw [gPs]; exact ReadsAll.cons q p⟩) r
theorem gRep_reads {v:GV} {u:Value} (r:GRep h v u):∃ as,Reads h u (gP v) as:=by
 cases r with
 | none=>exact ⟨_,Reads.none⟩
 | int i t=>exact ⟨_,Reads.int i t⟩
 | str l t=>exact ⟨_,Reads.str (A6 l) t⟩
 | tup t r=>exact (gReps_reads r).elim fun as q=>t.elim fun o t=>t.2.2.2.elim fun n hd=>⟨as,by rw [gP]; exact reads_tuple_at t.1 t.2.1 hd q⟩
theorem listO_reads {f:AV->Option PyData} (hf:∀ {v u d},VRep h₀ W h v u->f v=some d->∃ as,Reads h u d as) {l:List AV} {us:List Value} (r:VReps h₀ W h l us):∀ {ds:List PyData},listO f l=some ds->∃ as,ReadsAll h us ds as:=
 @VReps.ind h₀ h W (fun l us=>∀ {ds:List PyData},listO f l=some ds->∃ as,ReadsAll h us ds as) (fun e=>by cases e; exact ⟨_,ReadsAll.nil⟩) (fun {Z Z Z Z} a Z ih {ds} e=>by
  obtain ⟨_,_,h1,h2,e⟩:=listO_e e
  rw [e]
  exact (hf a h1).elim fun as q=>(ih h2).elim fun bs p=>⟨_,ReadsAll.cons q p⟩) _ _ r
theorem toP_reads (G:Good w h₀ W st h) (n:Nat):∀ {v:AV} {u:Value} {d:PyData},VRep h₀ W h v u->toP n st v=some d->∃ as,Reads h u d as:=by
 induction n with
 | zero=>intro _ _ _ _ e; cases e
 | succ n ih=>
  intro v u d r e
  cases toP_e e with
  | g x=>cases r with | g r=>exact gRep_reads r
  | tup l ds hl=>cases r with | tup t r=>exact (listO_reads ih r hl).elim fun as q=>t.elim fun o t=>t.2.2.2.elim fun n hd=>⟨as,reads_tuple_at t.1 t.2.1 hd q⟩
  | gl i l hi=>
   refine VRep.obj_e r ?_
   obtain ⟨_,vs,m,e1,r⟩:=G.rep i _ hi
   exact (gReps_reads r).elim fun as q=>⟨_,reads_list_at e1 rfl rfl q⟩
  | ol i l ds hi hl=>
   refine VRep.obj_e r ?_
   obtain ⟨_,vs,m,e1,r⟩:=G.rep i _ hi
   exact (listO_reads ih r hl).elim fun as q=>⟨_,reads_list_at e1 rfl rfl q⟩
end
section
variable {w:World} {A:Around} {E:Value->Shared->Prop} {s:Shared} {h₀ h:Heap} {W:Wd} {st:St} {v₁ v₂:AV} {u₁ u₂:Value}
theorem eqP_ok {Q:Bool->Prop} (G:Good w h₀ W st s.heap) (r₁:VRep h₀ W s.heap v₁ u₁) (r₂:VRep h₀ W s.heap v₂ u₂) (hu:A.units+64 < cLine) (q:eqP st v₁ v₂ Q) :
  wpAny (Md w) A (compareOp .Eq u₁ u₂) (fun u s'=>∃ b,u=.bool b/\s'=s/\Q b) E s/\wpAny (Md w) A (compareOp .NotEq u₁ u₂) (fun u s'=>∃ b,u=.bool (!b)/\s'=s/\Q b) E s:=by
 obtain ⟨d,h1,q⟩:=ofO_c q
 obtain ⟨e,h2,q⟩:=ofO_c q
 ·obtain ⟨as,ra⟩:=toP_reads G 6 r₁ h1
  obtain ⟨bs,rb⟩:=toP_reads G 6 r₂ h2
  have q2:=q.2 (PyData.eqv d e) (fun h=>h▸SeqAt.eqv_refl d (Bool.and_eq_true_iff.mp q.1.1).1) fun h h'=>eqv_nil (h'▸h)
  exact ⟨eq_dataH ra rb q.1.1 q.1.2 hu ⟨_,rfl,rfl,q2⟩,ne_dataH ra rb q.1.1 q.1.2 hu ⟨_,rfl,rfl,q2⟩⟩
theorem eqO_e {i j:Nat} {Q:Bool->Prop} (q:eqO st i j Q):eqP st (.obj i) (.obj j) Q\/((∃ v l,st.get i=some (.ol (v::l)))/\st.get j=some (.gl [])/\Q false):=by
 have q:(match st.get i,st.get j with | some (.ol (_::_)),some (.gl [])=>Q false | _,_=>eqP st (.obj i) (.obj j) Q):=q
 cases hi:st.get i with
 | none=>rw [hi] at q; exact .inl q
 | some o=>cases o with
  | ol l=>cases l with
   | nil=>rw [hi] at q; exact .inl q
   | cons v l=>cases hj:st.get j with
    | none=>rw [hi,hj] at q; exact .inl q
    | some o=>cases o with
     | gl r=>cases r with
      | nil=>rw [hi,hj] at q; exact .inr ⟨⟨v,l,rfl⟩,rfl,q⟩
      | cons=>rw [hi,hj] at q; exact .inl q
     | _=>rw [hi,hj] at q; exact .inl q
  | _=>rw [hi] at q; exact .inl q
theorem eqop_ok {Q:Bool->Prop} (G:Good w h₀ W st s.heap) (r₁:VRep h₀ W s.heap v₁ u₁) (r₂:VRep h₀ W s.heap v₂ u₂) (hu:A.units+64 < cLine) (q:eqop st v₁ v₂ Q) :
  wpAny (Md w) A (compareOp .Eq u₁ u₂) (fun u s'=>∃ b,u=.bool b/\s'=s/\Q b) E s/\wpAny (Md w) A (compareOp .NotEq u₁ u₂) (fun u s'=>∃ b,u=.bool (!b)/\s'=s/\Q b) E s:=by
 cases v₁ with
 | g x=>cases x with
  | int a=>
   obtain ⟨b,rfl,q⟩:=I6 q
   exact VRep.int_e r₁ fun t=>VRep.int_e r₂ fun t'=>⟨PyProof.Rows.eq_int ⟨_,rfl,rfl,q⟩,PyProof.Rows.ne_int ⟨_,rfl,rfl,q⟩⟩
  | str a=>
   obtain ⟨b,rfl,q⟩:=strV_e q
   have q:Q (F0 a b):=q
   rw [<- strOf_beq] at q
   exact VRep.str_e r₁ fun t=>VRep.str_e r₂ fun t'=>⟨PyProof.Rows.eq_str ⟨_,rfl,rfl,q⟩,PyProof.Rows.ne_str ⟨_,rfl,rfl,q⟩⟩
  | tup a=>
   obtain ⟨b,rfl,q⟩:=tupV_e q
   exact eqP_ok G r₁ r₂ hu q
  | none=>exact False.elim q
 | obj i=>
  obtain ⟨j,rfl,q⟩:=objV_e q
  rcases eqO_e q with q | ⟨⟨v,l,hi⟩,hj,q⟩
  ·exact eqP_ok G r₁ r₂ hu q
  ·refine VRep.obj_e r₁ ?_
   refine VRep.obj_e r₂ ?_
   obtain ⟨_,vs,n,e1,r⟩:=G.rep i _ hi
   obtain ⟨_,vs',n',e1',r'⟩:=G.rep j _ hj
   cases r'
   have hsz:(vs.toArray.size != ([]:List Value).toArray.size)=true:=by
    rw [List.size_toArray,<- r.length]; rfl
   have hu':A.units < cLine:=Nat.lt_of_le_of_lt (Nat.le_add_right _ 64) hu
   exact ⟨SeqAt.RcAt.lists_lengths ⟨_,e1,rfl,n,rfl⟩ ⟨_,e1',rfl,n',rfl⟩ hsz hu' pw w E _ ⟨_,rfl,rfl,q⟩,SeqAt.RcNeAt.lists_lengths ⟨_,e1,rfl,n,rfl⟩ ⟨_,e1',rfl,n',rfl⟩ hsz hu' pw w E _ ⟨_,rfl,rfl,q⟩⟩
 | _=>exact False.elim q
theorem cmp_ok {op:Cm} {Q:Bool->Prop} (G:Good w h₀ W st s.heap) (r₁:VRep h₀ W s.heap v₁ u₁) (r₂:VRep h₀ W s.heap v₂ u₂) (hu:A.units+64 < cLine) (q:cmpop op st v₁ v₂ Q) :
  wpAny (Md w) A (compareOp (cmOf op) u₁ u₂) (fun u s'=>∃ b,u=.bool b/\s'=s/\Q b) E s:=by
 cases op
 ·exact (eqop_ok G r₁ r₂ hu q).1
 ·exact wpAny_mono (eqop_ok (Q:=fun r=>Q (!r)) G r₁ r₂ hu q).2 (fun u s' p=>p.elim fun b p=>⟨_,p.1,p.2.1,p.2.2⟩) fun Z Z z=>z
 ·exact ordop_ok r₁ r₂ q
 ·exact ordop_ok r₁ r₂ q
 ·exact ordop_ok r₁ r₂ q
 ·exact ordop_ok r₁ r₂ q
theorem allStrs_e {v:GV} {l:List GV} {ys:List (List Nat)} (e:I3 (v::l)=some ys):∃ x k,v=.str x/\I3 l=some k/\ys=x::k:=by
 cases v with
 | str x=>
  have e:(match I3 l with | some l=>some (x::l) | none=>none)=some ys:=e
  cases hl:I3 l with
  | none=>rw [hl] at e; cases e
  | some k=>rw [hl] at e; exact ⟨x,k,rfl,rfl,(Option.some.inj e).symm⟩
 | _=>cases e
theorem strs_of {h:Heap} {l:List GV} {us:List Value} (r:GReps h l us):∀ {ys:List (List Nat)},I3 l=some ys->StrsAre us (ys.map A6):=
 @GReps.ind h (fun l us=>∀ {ys:List (List Nat)},I3 l=some ys->StrsAre us (ys.map A6)) (fun e=>by cases e; exact .nil) (fun {Z Z Z Z} a Z ih {ys} e=>by
  obtain ⟨x,k,ev,h,e⟩:=allStrs_e e
  rw [e]; rw [ev] at a
  cases a; exact .cons _ _ (ih h)) _ _ r
theorem any_strs {x:List Nat} {ys:List (List Nat)}:((ys.map A6).any (·==A6 x))=ys.any fun y=>F0 y x:=by
 induction ys with
 | nil=>rfl
 | cons y r ih=>rw [List.map_cons,List.any_cons,List.any_cons,ih,strOf_beq]
theorem inS_e {x:List Nat} {l:List GV} {Q:Bool->Prop} (q:inS x l Q):∃ ys,I3 l=some ys/\Q ((ys.map A6).any (·==A6 x)):=by
 have q:(match I3 l with | some ys=>Q (ys.any fun y=>F0 y x) | none=>False):=q
 cases h:I3 l with
 | none=>rw [h] at q; exact False.elim q
 | some ys=>rw [h] at q; exact ⟨ys,rfl,by rw [any_strs]; exact q⟩
theorem diO_e {o:Option AO} {k:List (Int × Int)->Prop} (q:diO o k):∃ l,o=some (.di l)/\k l:=by
 cases o with
 | none=>exact False.elim q
 | some o=>cases o with
  | di l=>exact ⟨l,rfl,q⟩
  | _=>exact False.elim q
theorem dsO_e {o:Option AO} {k:List (List Nat × AV)->Prop} (q:dsO o k):∃ l,o=some (.ds l)/\k l:=by
 cases o with
 | none=>exact False.elim q
 | some o=>cases o with
  | ds l=>exact ⟨l,rfl,q⟩
  | _=>exact False.elim q
theorem glO_e {o:Option AO} {k:List GV->Prop} (q:glO o k):∃ l,o=some (.gl l)/\k l:=by
 cases o with
 | none=>exact False.elim q
 | some o=>cases o with
  | gl l=>exact ⟨l,rfl,q⟩
  | _=>exact False.elim q
theorem in_ok {Q:Bool->Prop} (G:Good w h₀ W st s.heap) (r₁:VRep h₀ W s.heap v₁ u₁) (r₂:VRep h₀ W s.heap v₂ u₂) (q:inV v₁ v₂ st Q) :
  wpAny (Md w) A (compareOp .In u₁ u₂) (fun u s'=>∃ b,u=.bool b/\s'=s/\Q b) E s/\wpAny (Md w) A (compareOp .NotIn u₁ u₂) (fun u s'=>∃ b,u=.bool (!b)/\s'=s/\Q b) E s:=by
 obtain ⟨x,rfl,q⟩:=strV_e q
 refine VRep.str_e r₁ fun t=>?_
 cases v₂ with
 | g y=>cases y with
  | tup l=>
   obtain ⟨ys,hy,q⟩:=inS_e q
   exact VRep.tup_e r₂ fun t r=>⟨in_tuple_strs t.isTup (strs_of r hy) ⟨_,rfl,rfl,q⟩,notin_tuple_strs t.isTup (strs_of r hy) ⟨_,rfl,rfl,q⟩⟩
  | _=>exact False.elim q
 | obj i=>
  refine VRep.obj_e r₂ ?_
  obtain ⟨l,hi,q⟩:=glO_e q
  obtain ⟨ys,hy,q⟩:=inS_e q
  obtain ⟨_,vs,m,e1,r⟩:=G.rep i _ hi
  exact ⟨in_list_strs e1.isList (strs_of r hy) ⟨_,rfl,rfl,q⟩,notin_list_strs e1.isList (strs_of r hy) ⟨_,rfl,rfl,q⟩⟩
 | _=>exact False.elim q
end
section
variable {d:Nat} {cl:A7}
theorem Arnd.unitsD {h₀:Heap} {A:Around} {W:Wd} {st:St} {h:Heap} (x:Arnd h₀ A W st h d):A.units+64 < cLine:=by
 have h:A.units<=9000+10*0:=Nat.le_trans (Nat.le_add_right _ _) x.units
 exact Nat.lt_of_le_of_lt (Nat.add_le_add_right h 64) (by decide)
theorem same_bool {w:World} {h₀:Heap} {W W':Wd} {st st':St} {s s' s₂:Shared} {Q:AV->St->Prop} {u:Value} {R:Bool->Prop} (G:Good w h₀ W' st' s'.heap) (S:Step [] W st s.heap W' st' s'.heap) (g:s'.gens=s.gens/\s'.os=s.os)
  (h:∃ b,u=.bool b/\s₂=s'/\R b) (k:∀ b,R b->Q (.bool b) st'):PostE w h₀ W st s Q u s₂:=by
 obtain ⟨b,rfl,rfl,q⟩:=h
 exact pureE G S g (M4 (tk:=s₂.toks) (k b q))
theorem same_notb {w:World} {h₀:Heap} {W W':Wd} {st st':St} {s s' s₂:Shared} {Q:AV->St->Prop} {u:Value} {R:Bool->Prop} (G:Good w h₀ W' st' s'.heap) (S:Step [] W st s.heap W' st' s'.heap) (g:s'.gens=s.gens/\s'.os=s.os)
  (h:∃ b,u=.bool (!b)/\s₂=s'/\R b) (k:∀ b,R b->Q (.bool (!b)) st'):PostE w h₀ W st s Q u s₂:=by
 obtain ⟨b,rfl,rfl,q⟩:=h
 exact pureE G S g (M4 (tk:=s₂.toks) (k b q))
theorem se_cmp {l r:ME} (ihl:A8 d cl l) (ihr:A8 d cl r) (op):A8 d cl (.cmp op l r):=fun {Z Z Z Z Z Z Z Z Z Z Z e} x hc q=>by
 refine M0 hc fun a o b pos hc=>and4 hc fun hp h0 h1 h2=>beq_e hp ?_
 skip
 refine wpAny_Compare1 ((ihl x h1 q).to fun W' st' s' v' u G S g r' hw q'=>?_) (noBehind h0)
 have x':=x.step G S
 refine JE.on (ihr x' h2 q') S g fun u₂ s₂ p=>?_
 obtain ⟨W₂,st₂,v₂,G₂,S₂,g₂,r₂,hw₂,q₂⟩:=p
 exact wpAny_mono (cmp_ok G₂ (S₂.val r' hw) r₂ x'.N.unitsD q₂) (fun u₃ s₃ p=>same_bool G₂ (S.trans S₂) ⟨g₂.1.trans g.1,g₂.2.trans g.2⟩ p fun Z q=>q) fun Z Z p=>p
theorem se_inn {l r:ME} (ihl:A8 d cl l) (ihr:A8 d cl r):A8 d cl (.inn l r):=fun {Z Z Z Z Z Z Z Z Z Z Z e} x hc q=>by
 refine M0 hc fun a o b pos hc=>and4 hc fun hp h0 h1 h2=>beq_e hp ?_
 skip
 refine wpAny_Compare1 ((ihl x h1 q).to fun W' st' s' v' u G S g r' hw q'=>?_) (noBehind h0)
 refine JE.on (ihr (x.step G S) h2 q') S g fun u₂ s₂ p=>?_
 obtain ⟨W₂,st₂,v₂,G₂,S₂,g₂,r₂,hw₂,q₂⟩:=p
 exact wpAny_mono (in_ok G₂ (S₂.val r' hw) r₂ q₂).1 (fun u₃ s₃ p=>same_bool G₂ (S.trans S₂) ⟨g₂.1.trans g.1,g₂.2.trans g.2⟩ p fun Z q=>q) fun Z Z p=>p
theorem se_notIn {l r:ME} (ihl:A8 d cl l) (ihr:A8 d cl r):A8 d cl (.notIn l r):=fun {Z Z Z Z Z Z Z Z Z Z Z e} x hc q=>by
 refine M0 hc fun a o b pos hc=>and4 hc fun hp h0 h1 h2=>beq_e hp ?_
 skip
 refine wpAny_Compare1 ((ihl x h1 q).to fun W' st' s' v' u G S g r' hw q'=>?_) (noBehind h0)
 refine JE.on (ihr (x.step G S) h2 q') S g fun u₂ s₂ p=>?_
 obtain ⟨W₂,st₂,v₂,G₂,S₂,g₂,r₂,hw₂,q₂⟩:=p
 exact wpAny_mono (in_ok G₂ (S₂.val r' hw) r₂ q₂).2 (fun u₃ s₃ p=>same_notb G₂ (S.trans S₂) ⟨g₂.1.trans g.1,g₂.2.trans g.2⟩ p fun Z q=>q) fun Z Z p=>p
theorem wpAny_Compare2 {M:Model} {A:Around} {E:Value->Shared->Prop} {s:Shared} {env:Env} {l m r:Expr} {o₁ o₂:CmpOp} {pos:Pos} {Q:Value->Shared->Prop}
  (h:wpAny M A (eval l env) (fun a s₁=>wpAny M A (eval m env) (fun b s₂=>wpAny M A (compareOp o₁ a b) (fun c s₃=>wpAny M A (truthy c) (fun t s₄=>
   if t=true then wpAny M A (eval r env) (fun e s₅=>wpAny M A (compareOp o₂ b e) Q E s₅) E s₄ else Q c s₄) E s₃) E s₂) E s₁) E s)
  (h₂:behindInMarks o₂ r=false):wpAny M A (eval (.Compare l [o₁,o₂] [m,r] pos) env) Q E s:=by
 show wpAny M A (eval l env>>=fun a=>compareChain pos a [o₁,o₂] [eval m env,markedBehindIn o₂ r (eval r env)]) Q E s
 rw [markedBehindIn_of_false h₂]
 refine wpAny_bind (wpAny_mono h (fun a s₁ p=>?_) fun Z Z z=>z)
 refine wpAny_bind (wpAny_holding (wpAny_mono p (fun b s₂ p=>?_) fun Z Z z=>z))
 refine wpAny_bind (wpAny_standAt (wpAny_bind (wpAny_holding (wpAny_mono p (fun c s₃ p=>?_) fun Z Z z=>z))))
 refine wpAny_bind (wpAny_release (wpAny_bind (wpAny_holding (wpAny_mono p (fun t s₄ p=>?_) fun Z Z z=>z))))
 refine iteB (fun x=>wpAny M A x Q E s₄) (fun ht=>?_) (fun ht=>?_)
 ·replace p:=iteT p ht
  refine wpAny_bind (wpAny_holding (wpAny_mono p (fun e s₅ p=>?_) fun Z Z z=>z))
  exact wpAny_bind (wpAny_standAt (wpAny_operateT p))
 ·exact wpAny_pure (by rw [ht] at p; exact p)
theorem se_cmp2 {l m r:ME} (ihl:A8 d cl l) (ihm:A8 d cl m) (ihr:A8 d cl r) (o₁ o₂):A8 d cl (.cmp2 o₁ o₂ l m r):=fun {Z Z Z Z Z Z Z Z Z Q Z e} x hc q=>by
 refine onCmp2_e hc fun a p t b c pos hc=>and6 hc fun hp ht h0 h1 h2 h3=>beq_e hp (beq_e ht ?_)
 skip
 refine wpAny_Compare2 ((ihl x h1 q).to fun W' st' s' v' u G S g r' hw q'=>?_) (noBehind h0)
 have x':=x.step G S
 refine JE.on (ihm x' h2 q') S g fun u₂ s₂ p=>?_
 obtain ⟨W₂,st₂,v₂,G₂,S₂,g₂,r₂,hw₂,q₂⟩:=p
 have x₂:=x'.step G₂ S₂
 have g':=And.intro (g₂.1.trans g.1) (g₂.2.trans g.2)
 refine wpAny_mono (ordop_ok (S₂.val r' hw) r₂ q₂) (fun u₃ s₃ p=>?_) fun Z Z p=>p
 obtain ⟨b',rfl,rfl,q₃⟩:=p
 refine wpAny_truthy_bool ?_
 cases b' with
 | false=>
  rw [if_neg Bool.false_ne_true]
  exact pureE (s₂:=s₃) G₂ (S.trans S₂) g' (M4 (tk:=s₃.toks) q₃)
 | true=>
  rw [if_pos rfl]
  refine JE.on (ihr x₂ h3 q₃) (S.trans S₂) g' fun u₄ s₄ p=>?_
  obtain ⟨W₄,st₄,v₄,G₄,S₄,g₄,r₄,hw₄,q₄⟩:=p
  exact wpAny_mono (ordop_ok (S₄.val r₂ hw₂) r₄ q₄) (fun u₅ s₅ p=>same_bool G₄ ((S.trans S₂).trans S₄) ⟨g₄.1.trans g'.1,g₄.2.trans g'.2⟩ p fun Z q=>q) fun Z Z p=>p
theorem boolOp_cons {M:Model} {A:Around} {E:Value->Shared->Prop} {s:Shared} {op:BoolOp} {x z:Sem Value} {zs:List (Sem Value)} {pos:Pos} {Q:Value->Shared->Prop}
  (h:wpAny M A x (fun v s₁=>wpAny M A (truthy v) (fun t s₂=>match op,t with | .And,false | .Or,true=>Q v s₂ | _,_=>wpAny M A (boolOp pos op (z::zs)) Q E s₂) E s₁) E s) :
  wpAny M A (boolOp pos op (x::z::zs)) Q E s:=by
 refine wpAny_bind (wpAny_mono h (fun v s₁ p=>wpAny_bind (wpAny_standAt (wpAny_bind (wpAny_holding (wpAny_mono p (fun t s₂ p=>?_) fun Z Z z=>z))))) fun Z Z z=>z)
 cases op<;>cases t<;>first | exact wpAny_pure p | exact p
theorem se_and {l r:ME} (ihl:A8 d cl l) (ihr:A8 d cl r):A8 d cl (.and l r):=fun {w Z Z env Z Z Z Z Z Q Z e} x hc q=>by
 refine onBool_e hc fun op vs pos hc=>?_
 cases op
 case Or=>exact Bool.noConfusion hc
 refine on1_e hc fun a vs hc=>on1_e hc fun b rest hc=>and2 hc fun h1 h2=>?_
 skip
 show wpAny _ _ (boolOp pos .And (eval a _::eval b _::evalEach rest _)) _ _ _
 refine boolOp_cons ((ihl x h1 q).to fun W' st' s' v' u G S g r' hw q'=>?_)
 obtain ⟨t,rfl,q'⟩:=boolV_e q'
 cases r'
 refine wpAny_truthy_bool ?_
 cases t with
 | false=>exact pureE (s₂:=s') G S g (M4 (tk:=s'.toks) q')
 | true=>
  cases rest with
  | nil=>exact (JE.on (ihr (x.step G S) h2 q') S g fun u₂ s₂ p=>p.after S g)
  | cons c rest=>exact JE.on (ihr (x.step G S) h2 q') S g fun u₂ s₂ p=>p.after S g
theorem se_or {l r:ME} (ihl:A8 d cl l) (ihr:A8 d cl r):A8 d cl (.or l r):=fun {w Z Z env Z Z Z Z Z Q Z e} x hc q=>by
 refine onBool_e hc fun op vs pos hc=>?_
 cases op
 case And=>exact Bool.noConfusion hc
 refine on1_e hc fun a vs hc=>on1_e hc fun b rest hc=>and2 hc fun h1 h2=>?_
 skip
 show wpAny _ _ (boolOp pos .Or (eval a _::eval b _::evalEach rest _)) _ _ _
 refine boolOp_cons ((ihl x h1 q).to fun W' st' s' v' u G S g r' hw q'=>?_)
 obtain ⟨t,rfl,q'⟩:=boolV_e q'
 cases r'
 refine wpAny_truthy_bool ?_
 cases t with
 | true=>exact pureE (s₂:=s') G S g (M4 (tk:=s'.toks) q')
 | false=>
  cases rest with
  | nil=>exact (JE.on (ihr (x.step G S) h2 q') S g fun u₂ s₂ p=>p.after S g)
  | cons c rest=>exact JE.on (ihr (x.step G S) h2 q') S g fun u₂ s₂ p=>p.after S g
theorem se_ite {t a b:ME} (iht:SemB d cl t) (iha:A8 d cl a) (ihb:A8 d cl b):A8 d cl (.ite t a b):=fun {Z Z Z Z Z Z Z Z Z Q X e} x hc q=>by
 refine onIf_e hc fun e₁ e₂ e₃ pos hc=>and3 hc fun h1 h2 h3=>?_
 skip
 refine wpAny_IfExp (wpAny_mono (iht (Q:=fun t st=>cond t (vcE tabs cl X a _ st Q) (vcE tabs cl X b _ st Q)) x h1 q) (fun t s' p=>?_) fun Z Z p=>p)
 obtain ⟨W',st',G,S,g,q'⟩:=p
 cases t with
 | true=>rw [if_pos rfl]; exact JE.on (iha (x.step G S) h2 q') S g fun u₂ s₂ p=>p.after S g
 | false=>rw [if_neg Bool.false_ne_true]; exact JE.on (ihb (x.step G S) h3 q') S g fun u₂ s₂ p=>p.after S g
theorem PostB.after {w:World} {h₀:Heap} {W W':Wd} {st st':St} {s s₁ s':Shared} {Q:Bool->St->Prop} {b:Bool} (S:Step [] W st s.heap W' st' s₁.heap) (hg:s₁.gens=s.gens/\s₁.os=s.os) (p:PostB w h₀ W' st' s₁ Q b s'):PostB w h₀ W st s Q b s':=by
 obtain ⟨W₂,st₂,a1,a2,a3,a4⟩:=p
 exact ⟨W₂,st₂,a1,S.trans a2,⟨a3.1.trans hg.1,a3.2.trans hg.2⟩,a4⟩
theorem sb_plain {m:ME} (ih:A8 d cl m) {w:World} {h₀:Heap} {A:Around} {env:Env} {vs:A2} {W:Wd} {st:St} {s:Shared} {fs:List Env} {Q:Bool->St->Prop} {X:St->Prop} {e:Expr}
  (x:H w h₀ A env vs W st s fs d) (hc:A9 w.params env.scope m e=true) (q:vcE tabs cl X m vs st (kBool Q))
  (hp:PySem.isTrue e env (eval e env)=(do let v <- eval e env; standAt e.pos; holding [v] (truthy v))):wpAny (Md w) A (PySem.isTrue e env (eval e env)) (PostB w h₀ W st s Q) (PostX w h₀ fs none W st s X) s:=by
 refine wpAny_isTrue_value ((ih x hc q).to fun W' st' s' v' u G S g r' hw q'=>?_) hp
 obtain ⟨t,rfl,q'⟩:=boolV_e q'
 cases r'
 exact wpAny_truthy_bool ⟨W',st',G,S,g,q'⟩
end
section
variable {d:Nat} {cl:A7}
theorem isTrue_cmp1 {l r:Expr} {op:CmpOp} {pos:Pos} {env:Env} {whole:Sem Value} :
  PySem.isTrue (.Compare l [op] [r] pos) env whole=(eval (.Compare l [op] [r] pos) env>>=fun c=>holding [c] (truthy c)):=by
 show (eval l env>>=fun a=>testChain pos a [op] [markedBehindIn op r (eval r env)])=(eval l env>>=fun a=>compareChain pos a [op] [markedBehindIn op r (eval r env)])>>=_
 have e:∀ a x,testChain pos a [op] [x]=compareChain pos a [op] [x]>>=fun c=>holding [c] (truthy c):=fun a x=>by
  show (holding [a] x>>=fun rv=>standAt pos>>=fun Z=>operate [a,rv] (compareOp op a rv)>>=fun c=>holding [c] (truthy c))=(holding [a] x>>=fun rv=>standAt pos>>=fun Z=>operate [a,rv] (compareOp op a rv))>>=fun c=>holding [c] (truthy c)
  simp only [bind_assoc]
 rw [bind_assoc]
 exact congrArg (eval l env>>=·) (funext fun a=>e a _)
theorem sb_cmp1 {m:ME} (ih:A8 d cl m) {w:World} {h₀:Heap} {A:Around} {env:Env} {vs:A2} {W:Wd} {st:St} {s:Shared} {fs:List Env} {Q:Bool->St->Prop} {X:St->Prop} {l r:Expr} {op:CmpOp} {pos:Pos}
  (x:H w h₀ A env vs W st s fs d) (hc:A9 w.params env.scope m (.Compare l [op] [r] pos)=true) (q:vcE tabs cl X m vs st (kBool Q)) :
  wpAny (Md w) A (PySem.isTrue (.Compare l [op] [r] pos) env (eval (.Compare l [op] [r] pos) env)) (PostB w h₀ W st s Q) (PostX w h₀ fs none W st s X) s:=by
 rw [isTrue_cmp1]
 refine wpAny_bind ((ih x hc q).to fun W' st' s' v' u G S g r' hw q'=>wpAny_holding ?_)
 obtain ⟨t,rfl,q'⟩:=boolV_e q'
 cases r'
 exact wpAny_truthy_bool ⟨W',st',G,S,g,q'⟩
theorem sb_cmp {l r:ME} (op) (ih:A8 d cl (.cmp op l r)):SemB d cl (.cmp op l r):=fun {Z Z Z Z Z Z Z Z Z Z Z e} x hc q=>by
 have h0:=hc
 revert hc
 refine M0 h0 fun a o b pos Z hc=>?_
 exact sb_cmp1 ih x hc q
theorem sb_inn {l r:ME} (ih:A8 d cl (.inn l r)):SemB d cl (.inn l r):=fun {Z Z Z Z Z Z Z Z Z Z Z e} x hc q=>by
 have h0:=hc
 revert hc
 refine M0 h0 fun a o b pos Z hc=>?_
 exact sb_cmp1 ih x hc q
theorem sb_notIn {l r:ME} (ih:A8 d cl (.notIn l r)):SemB d cl (.notIn l r):=fun {Z Z Z Z Z Z Z Z Z Z Z e} x hc q=>by
 have h0:=hc
 revert hc
 refine M0 h0 fun a o b pos Z hc=>?_
 exact sb_cmp1 ih x hc q
theorem sb_isNone {l:ME} (ih:A8 d cl (.isNone l)):SemB d cl (.isNone l):=fun {Z Z Z Z Z Z Z Z Z Z Z e} x hc q=>by
 have h0:=hc
 revert hc
 refine M0 h0 fun a o b pos Z hc=>?_
 exact sb_cmp1 ih x hc q
theorem sb_notNone {l:ME} (ih:A8 d cl (.notNone l)):SemB d cl (.notNone l):=fun {Z Z Z Z Z Z Z Z Z Z Z e} x hc q=>by
 have h0:=hc
 revert hc
 refine M0 h0 fun a o b pos Z hc=>?_
 exact sb_cmp1 ih x hc q
theorem wpAny_isTrue_Compare2 {M:Model} {A:Around} {E:Value->Shared->Prop} {s:Shared} {env:Env} {l m r:Expr} {o₁ o₂:CmpOp} {pos:Pos} {whole:Sem Value} {Q:Bool->Shared->Prop}
  (h:wpAny M A (eval l env) (fun a s₁=>wpAny M A (eval m env) (fun b s₂=>wpAny M A (compareOp o₁ a b) (fun c s₃=>wpAny M A (truthy c) (fun t s₄=>
   if t=true then wpAny M A (eval r env) (fun e s₅=>wpAny M A (compareOp o₂ b e) (fun c s₆=>wpAny M A (truthy c) Q E s₆) E s₅) E s₄ else Q false s₄) E s₃) E s₂) E s₁) E s)
  (h₂:behindInMarks o₂ r=false):wpAny M A (PySem.isTrue (.Compare l [o₁,o₂] [m,r] pos) env whole) Q E s:=by
 show wpAny M A (eval l env>>=fun a=>testChain pos a [o₁,o₂] [eval m env,markedBehindIn o₂ r (eval r env)]) Q E s
 rw [markedBehindIn_of_false h₂]
 refine wpAny_bind (wpAny_mono h (fun a s₁ p=>?_) fun Z Z z=>z)
 refine wpAny_bind (wpAny_holding (wpAny_mono p (fun b s₂ p=>?_) fun Z Z z=>z))
 refine wpAny_bind (wpAny_standAt (wpAny_bind (wpAny_holding (wpAny_mono p (fun c s₃ p=>?_) fun Z Z z=>z))))
 refine wpAny_bind (wpAny_release (wpAny_bind (wpAny_holding (wpAny_mono p (fun t s₄ p=>?_) fun Z Z z=>z))))
 refine iteB (fun x=>wpAny M A x Q E s₄) (fun ht=>?_) (fun ht=>?_)
 ·replace p:=iteT p ht
  refine wpAny_bind (wpAny_holding (wpAny_mono p (fun e s₅ p=>?_) fun Z Z z=>z))
  exact wpAny_bind (wpAny_standAt (wpAny_bind (wpAny_operateT (wpAny_mono p (fun c s₆ p=>wpAny_holding p) fun Z Z z=>z))))
 ·exact wpAny_pure (by rw [ht] at p; exact p)
theorem sb_cmp2 {l m r:ME} (ihl:A8 d cl l) (ihm:A8 d cl m) (ihr:A8 d cl r) (o₁ o₂):SemB d cl (.cmp2 o₁ o₂ l m r):=fun {Z Z Z Z Z Z Z Z Z Q Z e} x hc q=>by
 refine onCmp2_e hc fun a p t b c pos hc=>and6 hc fun hp ht h0 h1 h2 h3=>beq_e hp (beq_e ht ?_)
 skip
 refine wpAny_isTrue_Compare2 ((ihl x h1 q).to fun W' st' s' v' u G S g r' hw q'=>?_) (noBehind h0)
 have x':=x.step G S
 refine JE.on (ihm x' h2 q') S g fun u₂ s₂ p=>?_
 obtain ⟨W₂,st₂,v₂,G₂,S₂,g₂,r₂,hw₂,q₂⟩:=p
 have x₂:=x'.step G₂ S₂
 have g':=And.intro (g₂.1.trans g.1) (g₂.2.trans g.2)
 refine wpAny_mono (ordop_ok (S₂.val r' hw) r₂ q₂) (fun u₃ s₃ p=>?_) fun Z Z p=>p
 obtain ⟨b',rfl,rfl,q₃⟩:=p
 refine wpAny_truthy_bool ?_
 cases b' with
 | false=>
  rw [if_neg Bool.false_ne_true]
  exact ⟨W₂,st₂,G₂,S.trans S₂,g',q₃⟩
 | true=>
  rw [if_pos rfl]
  refine JE.on (ihr x₂ h3 q₃) (S.trans S₂) g' fun u₄ s₄ p=>?_
  obtain ⟨W₄,st₄,v₄,G₄,S₄,g₄,r₄,hw₄,q₄⟩:=p
  refine wpAny_mono (ordop_ok (S₄.val r₂ hw₂) r₄ q₄) (fun u₅ s₅ p=>?_) fun Z Z p=>p
  obtain ⟨b₅,rfl,rfl,q₅⟩:=p
  exact wpAny_truthy_bool ⟨W₄,st₄,G₄,(S.trans S₂).trans S₄,⟨g₄.1.trans g'.1,g₄.2.trans g'.2⟩,q₅⟩
theorem sb_not {m:ME} (ih:SemB d cl m):SemB d cl (.not m):=fun {Z Z Z Z Z Z Z Z Z Q Z e} x hc q=>by
 refine onUn_e hc fun o v pos hc=>?_
 cases o<;>first | exact Bool.noConfusion hc | skip
 skip
 exact wpAny_isTrue_Not (ih (Q:=fun b st=>Q (!b) st) x hc q)
theorem allTrue_one {op:BoolOp} {y:Expr} {M:Model} {A:Around} {E:Value->Shared->Prop} {s:Shared} {env:Env} {Q:Bool->Shared->Prop} (h:wpAny M A (PySem.isTrue y env (eval y env)) Q E s):wpAny M A (allTrue op [y] env) Q E s:=by
 cases op
 ·refine wpAny_allTrue_And_cons (wpAny_mono h (fun b s' p=>?_) fun Z Z z=>z)
  cases b
  ·exact p
  ·exact wpAny_pure p
 ·refine wpAny_allTrue_Or_cons (wpAny_mono h (fun b s' p=>?_) fun Z Z z=>z)
  cases b
  ·exact wpAny_pure p
  ·exact p
theorem sb_and {l r:ME} (ihl:SemB d cl l) (ihr:SemB d cl r):SemB d cl (.and l r):=fun {w Z Z env Z Z Z Z Z Q X e} x hc q=>by
 refine onBool_e hc fun op vs pos hc=>?_
 cases op
 case Or=>exact Bool.noConfusion hc
 refine on1_e hc fun a vs hc=>on1_e hc fun b rest hc=>and2 hc fun h1 h2=>?_
 skip
 refine wpAny_isTrue_BoolOp (wpAny_allTrue_And_cons (wpAny_mono (ihl (Q:=fun t st=>cond t (vcE tabs cl X r _ st (kBool Q)) (Q false st)) x h1 q) (fun t s' p=>?_) fun Z Z p=>p))
 obtain ⟨W',st',G,S,g,q'⟩:=p
 cases t with
 | false=>exact ⟨W',st',G,S,g,q'⟩
 | true=>
  rw [if_pos rfl]
  cases rest with
  | nil=>exact allTrue_one (JE.on (ihr (x.step G S) h2 q') S g fun u₂ s₂ p=>p.after S g)
  | cons c rest=>exact JE.on (ihr (x.step G S) h2 q') S g fun u₂ s₂ p=>p.after S g
theorem sb_or {l r:ME} (ihl:SemB d cl l) (ihr:SemB d cl r):SemB d cl (.or l r):=fun {w Z Z env Z Z Z Z Z Q X e} x hc q=>by
 refine onBool_e hc fun op vs pos hc=>?_
 cases op
 case And=>exact Bool.noConfusion hc
 refine on1_e hc fun a vs hc=>on1_e hc fun b rest hc=>and2 hc fun h1 h2=>?_
 skip
 refine wpAny_isTrue_BoolOp (wpAny_allTrue_Or_cons (wpAny_mono (ihl (Q:=fun t st=>cond t (Q true st) (vcE tabs cl X r _ st (kBool Q))) x h1 q) (fun t s' p=>?_) fun Z Z p=>p))
 obtain ⟨W',st',G,S,g,q'⟩:=p
 cases t with
 | true=>exact ⟨W',st',G,S,g,q'⟩
 | false=>
  rw [if_neg Bool.false_ne_true]
  cases rest with
  | nil=>exact allTrue_one (JE.on (ihr (x.step G S) h2 q') S g fun u₂ s₂ p=>p.after S g)
  | cons c rest=>exact JE.on (ihr (x.step G S) h2 q') S g fun u₂ s₂ p=>p.after S g
theorem sb_ite {t a b:ME} (iht:SemB d cl t) (iha:SemB d cl a) (ihb:SemB d cl b):SemB d cl (.ite t a b):=fun {Z Z Z Z Z Z Z Z Z Q X e} x hc q=>by
 refine onIf_e hc fun e₁ e₂ e₃ pos hc=>and3 hc fun h1 h2 h3=>?_
 skip
 show wpAny _ _ (PySem.isTrue e₁ _ (eval e₁ _)>>=fun b=>if b=true then PySem.isTrue e₂ _ (eval e₂ _) else PySem.isTrue e₃ _ (eval e₃ _)) _ _ _
 refine wpAny_bind (wpAny_mono (iht (Q:=fun t st=>cond t (vcE tabs cl X a _ st _) (vcE tabs cl X b _ st _)) x h1 q) (fun t s' p=>?_) fun Z Z p=>p)
 obtain ⟨W',st',G,S,g,q'⟩:=p
 cases t with
 | true=>rw [if_pos rfl]; exact JE.on (iha (x.step G S) h2 q') S g fun u₂ s₂ p=>p.after S g
 | false=>rw [if_neg Bool.false_ne_true]; exact JE.on (ihb (x.step G S) h3 q') S g fun u₂ s₂ p=>p.after S g
end
theorem tc_units (a:Args):Code.cUnits (.builtin "type.__call__" a)=1:=by kernel_rfl
theorem tc_envs (a:Args):Code.envs (.builtin "type.__call__" a)=[]:=by kernel_rfl
theorem tc_weight (a:Args):Code.weight (.builtin "type.__call__" a)<=1:=by
 have h1:Code.frames (.builtin "type.__call__" a)=0:=by kernel_rfl
 have h2:Code.isGuard (.builtin "type.__call__" a)=false:=by kernel_rfl
 have h3:Code.isCaller (.builtin "type.__call__" a)=false:=by kernel_rfl
 unfold Code.weight
 rw [h1,h2,h3]
 simp only [Bool.false_eq_true,if_false]
 split<;>lia
theorem tc_frames (A:Around) (a:Args):(A.under (.builtin "type.__call__" a)).frames=A.frames:=by
 unfold Around.under
 simp only [tc_envs]
 rfl
theorem keep_all (P:Params):(fnT.all fun p=>keepIn (KK P) (.ref p.1))=true:=by kernel_rfl
theorem fn_keep {f:Nat} (P:Params) (h:(fnL f).isSome=true):keepIn (KK P) (.ref f)=true:=by
 obtain ⟨F,hF⟩:=Option.isSome_iff_exists.mp h
 exact List.all_eq_true.mp (keep_all P) (f,F) (C7 hF)
section
variable {d:Nat} {cl:A7}
theorem K7 {e:Expr} {rest:List Expr} {env:Env} (h:noStar e=true):starEach (e::rest) env=(false,eval e env)::starEach rest env:=by
 cases e<;>first | rfl | cases h
noncomputable def H9:List Expr->Bool
 | []=>true
 | e::r=>noStar e&&H9 r
theorem noStars_any {pos:Pos} {env:Env}:∀ {l:List Expr},H9 l=true->(backTo pos (starEach l env)).any (·.1)=false
 | [],_=>rfl
 | e::r,h=>by
  simp only [H9,Bool.and_eq_true] at h
  rw [K7 h.1]
  show (false||(backTo pos (starEach r env)).any (·.1))=false
  rw [noStars_any h.2]; rfl
theorem noStars_all {pos:Pos} {env:Env}:∀ {l:List Expr},H9 l=true->(backTo pos (starEach l env)).all (fun x=>!x.1)=true
 | [],_=>rfl
 | e::r,h=>by
  simp only [H9,Bool.and_eq_true] at h
  rw [K7 h.1]
  show (!false&&(backTo pos (starEach r env)).all (fun x=>!x.1))=true
  rw [noStars_all h.2]; rfl
theorem I9 {P:Params} {sc:Scope}:∀ {m:MEs} {l:List Expr},chkEs P sc m l=true->H9 l=true
 | .nil,_,h=>on0_e h fun Z=>rfl
 | .cons _ r,_,h=>on1_e h fun Z Z h=>and3 h fun h0 Z h2=>Bool.and_eq_true_iff.mpr ⟨h0,I9 (m:=r) h2⟩
theorem K6 {M:Model} {A:Around} {E:Value->Shared->Prop} {s:Shared} {env:Env} {pos:Pos} {f:Value} {first:List Value} {l:List Expr} {Q:Value->Shared->Prop} {P:Heap->Prop} (hs:H9 l=true)
  (hk:∀ h,P h->∃ k,(k=Keeper.frame\/k=Keeper.machine\/k=Keeper.boundFrame)/\Looks M h (keeperOf f) k)
  (h:wpAny M A (spliced (backTo pos (starEach l env))) (fun vs s₁=>P s₁.heap/\wpAny M A (call f (first++vs)) Q E s₁) E s) :
  wpAny M A (callWith pos f first (backTo pos (starEach l env)) []) Q E s:=by
 refine callWith_of (by rw [noStars_any hs]; rfl) hk ?_
 cases l with
 | nil=>
  have h':wpAny M A (pure []) (fun vs s₁=>P s₁.heap/\wpAny M A (call f (first++vs)) Q E s₁) E s:=h
  show wpAny M A (pure (⟨[],[]⟩:Args)) _ E s
  exact fun Γ p hΓ=>h' Γ p hΓ
 | cons e r=>
  simp only [H9,Bool.and_eq_true] at hs
  rw [K7 hs.1] at h ⊢
  exact evalArgs_plain h
theorem PostE.of_call {w:World} {h₀:Heap} {W W':Wd} {st st':St} {s s₁:Shared} {Q:AV->St->Prop} {X:St->Prop} {fs:List Env} (S:Step [] W st s.heap W' st' s₁.heap) (g:s₁.gens=s.gens/\s₁.os=s.os) {A:Around} {c:Code}
  (h:codeAny (Md w) A c (fun r s'=>match r with
   | .ok (.ret u)=>PostE w h₀ W' st' s₁ Q u s'
   | .ok _=>False
   | .error e=>PostX w h₀ fs none W' st' s₁ X e s') s₁) :
  codeAny (Md w) A c (fun r s'=>match r with
   | .ok (.ret u)=>PostE w h₀ W st s Q u s'
   | .ok _=>False
   | .error e=>PostX w h₀ fs none W st s X e s') s₁:=codeAny_mono h fun r s' p=>by
 rcases r with e | (v | _ | _ | _)
 ·exact p.after S g
 ·exact p
 ·exact p
 ·exact p
 ·exact p.after S g
theorem Arnd.slack {h₀:Heap} {A:Around} {W:Wd} {st:St} {h:Heap} {d:Nat} (x:Arnd h₀ A W st h d):Arnd h₀ A W st h d 2:=⟨x.handled,x.frames,Nat.le_trans x.depth (by exact (Nat.le_add_right _ _)),Nat.le_trans x.units (by lia)⟩
theorem se_call (ok:CallOK d cl) {m:MEs} (ih:SemEs d cl m) (f):A8 d cl (.call f m):=fun {w h₀ A env Z Z Z Z fs Q X e} x hc q=>by
 refine onFn_e hc fun id p as pos hc=>and2 hc fun hg h2=>and2 hg fun h0 h1=>?_
 have h1:=beq_iff_eq.mp h1
 skip
 refine wpAny_Call_Name_kw (glob_ok x.F x.G x.fx h0 h1 ?_)
 refine K6 (P:=fun h=>(KK w.params).In h/\keepIn (KK w.params) (.ref f)=true) (I9 h2) (fun h p=>keeps_K p.2 h p.1) ?_
 refine wpAny_mono (ih x h2 q) (fun us s₁ p=>?_) fun Z Z p=>p
 refine byG fun G_ k_=>?_
 obtain ⟨W₁,st₁,l,G,S,g,r,hw,q₁⟩:=p
 have x₁:=x.step G S
 refine k_ ?_
 refine ⟨⟨x.fx.X.keeps G.stays,fn_keep _ (ok.fn _ _ _ _ _ q₁)⟩,wpAny_call ?_⟩
 exact PostE.of_call S g (ok.ok w h₀ x.fx A W₁ st₁ s₁ f l us Q X fs G x₁.N.slack x.fr r hw q₁)
theorem se_new (ok:CallOK d cl) {m:MEs} (ih:SemEs d cl m) (c):A8 d cl (.new c m):=fun {w h₀ A env Z Z Z Z fs Q X e} x hc q=>by
 refine onFn_e hc fun id p as pos hc=>and3 hc fun hg h70 h2=>and2 hg fun h0 h1=>?_
 have h1:=beq_iff_eq.mp h1
 have h70:=bne_iff_ne.mp h70
 skip
 refine wpAny_Call_Name_kw (glob_ok x.F x.G x.fx h0 h1 ?_)
 refine K6 (P:=fun h=>(KK w.params).In h/\keepIn (KK w.params) (.ref c)=true) (I9 h2) (fun h p=>keeps_K p.2 h p.1) ?_
 refine wpAny_mono (ih x h2 q) (fun us s₁ p=>?_) fun Z Z p=>p
 obtain ⟨W₁,st₁,l,G,S,g,r,hw,q₁⟩:=p
 have x₁:=x.step G S
 refine ofO_e (o:=tabs.init c) q₁ fun f hf q₁=>?_
 ·have oi:=init_ok w.params hf h70
  simp only [okInit,Bool.and_eq_true,beq_iff_eq] at oi
  obtain ⟨⟨⟨o1,o2⟩,o3⟩,o4⟩:=oi
  have X₁:=x.fx.X.keeps G.stays
  refine ⟨⟨X₁,o4⟩,wpAny_call ?_⟩
  obtain ⟨h₁,gs,dr,tk,os⟩:=s₁
  refine make_core (makes_of X₁ o3) (looks_findIn X₁ o1) (fun self=>bind_fn X₁ self o2) (.inl rfl) ?_
  have k:∀ b o,h₁.get? b=some o->((h₁.push emptyDict).push (instObj c h₁.objs.size)).get? b=some o:=fun b o e=>Heap.get?_push_of_some _ (Heap.get?_push_of_some _ e)
  have hx:((h₁.push emptyDict).push (instObj c h₁.objs.size)).get? (h₁.objs.size+1)=some (instObj c h₁.objs.size):=by
   have:=Heap.get?_push_size (h₁.push emptyDict) (o:=instObj c h₁.objs.size) rfl
   rwa [Heap.size_push] at this
  have hd:((h₁.push emptyDict).push (instObj c h₁.objs.size)).get? h₁.objs.size=some emptyDict:=Heap.get?_push_of_some _ (Heap.get?_push_size h₁ rfl)
  have none_of:∀ b,h₁.objs.size<=b->h₁.get? b=none:=fun b le=>by
   cases e:h₁.get? b with
   | none=>rfl
   | some o=>exact absurd (Heap.lt_size e) (Nat.not_lt.mpr le)
  obtain ⟨G₂,S₂⟩:=Good.alloc (h':=(h₁.push emptyDict).push (instObj c h₁.objs.size)) (o:=.inst c []) G (a:=h₁.objs.size+1) (d:=h₁.objs.size) k (none_of _ (Nat.le_succ _)) (none_of _ (Nat.le_refl _)) (by
   refine ⟨?_,⟨(fun Z h=>nomatch h),.nil⟩,#[],[],0,?_,?_,.nil⟩
   ·rw [Wd.add_a,Wd.add_d]; exact Nat.ne_of_lt (Nat.lt_succ_self _)
   ·rw [Wd.add_a,Wd.add_d]; exact hx
   ·rw [Wd.add_d]; exact hd) (fun Z h=>nomatch h)
  have rs:VReps h₀ (W₁.add st₁.nx (h₁.objs.size+1) h₁.objs.size) ((h₁.push emptyDict).push (instObj c h₁.objs.size)) (.obj st₁.nx::l) (.ref (h₁.objs.size+1)::us):=by
   refine .cons ?_ (S₂.vals r hw)
   have z:=VRep.obj (h₀:=h₀) (W:=W₁.add st₁.nx (h₁.objs.size+1) h₁.objs.size) (h:=(h₁.push emptyDict).push (instObj c h₁.objs.size)) st₁.nx
   rw [Wd.add_a] at z; exact z
  have hw':A5 (st₁.add (.inst c [])).nx (.obj st₁.nx::l)=true:=by
   exact within_cons (Nat.blt_eq.mpr (Nat.lt_succ_self _)) (I4 S₂.nx hw)
  have N₂:Arnd h₀ (A.under (.builtin "type.__call__" ⟨.ref c::us,[]⟩)) (W₁.add st₁.nx (h₁.objs.size+1) h₁.objs.size) (st₁.add (.inst c [])) ((h₁.push emptyDict).push (instObj c h₁.objs.size)) d 2:=by
   have N₁:=x₁.N.step S₂
   obtain ⟨fs',hf',F'⟩:=N₁.frames
   refine ⟨N₁.handled,⟨fs',?_,F'⟩,?_,?_⟩
   ·rw [tc_frames]; exact hf'
   ·have:=tc_weight ⟨.ref c::us,[]⟩
    have:=N₁.depth
    show A.depth+Code.weight _+4*d<=900+2
    lia
   ·have:=tc_units ⟨.ref c::us,[]⟩
    have:=N₁.units
    show A.units+Code.cUnits _+30*d<=9000+10*2
    lia
  have hfr:(A.under (.builtin "type.__call__" ⟨.ref c::us,[]⟩)).frames=some fs:=by
   rw [tc_frames]; exact x.fr
  refine codeAny_mono (ok.ok w h₀ x.fx _ _ _ ⟨(h₁.push emptyDict).push (instObj c h₁.objs.size),gs,dr,tk,os⟩ f _ _ _ _ fs G₂ N₂ hfr rs hw' q₁) fun r' s' p=>?_
  have S₃:=S.trans S₂
  rcases r' with e | (v | _ | _ | _)
  ·exact PostX.after (s₁:=⟨(h₁.push emptyDict).push (instObj c h₁.objs.size),gs,dr,tk,os⟩) S₃ g p
  ·exact p
  ·exact p
  ·exact p
  ·obtain ⟨W₄,st₄,v₄,G₄,S₄,g₄,r₄,hw₄,q₄⟩:=p
   obtain ⟨hb,q₄⟩:=K5 (none_ok r₄ q₄)
   refine ⟨beq_iff_eq.mp hb,W₄,st₄,.obj st₁.nx,G₄,S₃.trans S₄,⟨g₄.1.trans g.1,g₄.2.trans g.2⟩,?_,Nat.blt_eq.mpr S₄.nx,q₄⟩
   have e:=((S₄.agree st₁.nx (Nat.lt_succ_self _)).1).trans Wd.add_a
   rw [<- e]; exact VRep.obj st₁.nx
end
section
variable {w:World} {A:Around} {E:Value->Shared->Prop} {s:Shared} {h₀:Heap} {W:Wd} {st:St}
noncomputable abbrev PostO (w:World) (h₀:Heap) (W:Wd) (st:St) (s:Shared) (Q:AV->St->Prop) (u:Value) (s':Shared):Prop:=PostE w h₀ W st s Q u s'
theorem own_sys (fx:Fx w h₀) {b:Addr} (h:h₀.get? b=none):(b==sysModules)=false:=by
 obtain ⟨o,ho⟩:=fx.sys
 by_cases e:b=sysModules
 ·subst e; rw [h] at ho; cases ho
 ·simpa using e
theorem Good.own0 (G:Good w h₀ W st s.heap) {i:Nat} {o:AO} (e:st.get i=some o):h₀.get? (W.a i)=none:=G.new _ ⟨i,by rw [e]; rfl,.inl rfl⟩
theorem GReps.unsnoc {h:Heap} {r:List GV} {w:GV}:∀ {vs:List Value},GReps h (r++[w]) vs->∃ us u,vs=us++[u]/\GReps h r us/\GRep h w u:=by
 induction r with
 | nil=>intro vs q; cases q with | cons a b=>cases b; exact ⟨[],_,rfl,.nil,a⟩
 | cons v r ih=>
  intro vs q
  cases q with
  | cons a b=>
   refine byG fun G_ k_=>?_
   obtain ⟨us,u,e,r,q⟩:=ih b
   refine k_ ?_
   exact ⟨_::us,u,congrArg _ e,.cons a r,q⟩
theorem GReps.rev {h:Heap} {l:List GV} {vs:List Value} (r:GReps h l vs):GReps h l.reverse vs.reverse:=
 r.ind .nil fun a Z q=>by rw [List.reverse_cons,List.reverse_cons]; exact q.append (.cons a .nil)
theorem Good.setList (G:Good w h₀ W st s.heap) {i:Nat} {o o':AO} {vs:List Value} {n:Nat} (e:st.get i=some o) (hi:IsL s.heap (W.a i) vs.toArray n) (hd:W.d i=W.a i) (f:Array Value->Array Value) {vs':List Value} (hf:f vs.toArray=vs'.toArray)
  (r:(∀ a it,TupD s.heap a it->TupD (s.heap.update (W.a i) (Obj.mapSeq f)) a it)->∀ n',IsL (s.heap.update (W.a i) (Obj.mapSeq f)) (W.a i) vs'.toArray n'->ORep w h₀ W (s.heap.update (W.a i) (Obj.mapSeq f)) i o') (q:o'.In st.nx) :
  Good w h₀ W (st.set i o') (s.heap.update (W.a i) (Obj.mapSeq f))/\Step [] W st s.heap W (st.set i o') (s.heap.update (W.a i) (Obj.mapSeq f)):=by
 have up:=hi.update f
 rw [hf] at up
 exact G.upd e (.inl rfl) (fun b o hb e=>(Heap.get?_update_other _ _ (Ne.symm hb)).trans e) ⟨_,up⟩ (fun kt=>r kt _ up) q
theorem append_ok {Q:AV->St->Prop} {i:Nat} {o o':AO} {v:AV} {u:Value} {vs:List Value} {n:Nat} (G:Good w h₀ W st s.heap) (e:st.get i=some o) (hi:IsL s.heap (W.a i) vs.toArray n) (hd:W.d i=W.a i) (hz:vs.length < 1000000)
  (r:∀ h',(∀ a it,TupD s.heap a it->TupD h' a it)->∀ n',IsL h' (W.a i) (vs++[u]).toArray n'->ORep w h₀ W h' i o') (hin:o'.In st.nx) (q:Q .no (st.set i o')) :
  wpAny (Md w) A (call (.builtin "list.append") [.ref (W.a i),u]) (PostO w h₀ W st s Q) E s:=by
 refine call_meets PySem.F.slot_list_append ⟨_,hi,rfl⟩ PySem.F.entry_list_append (PySem.F.args_list_append_2 _ _) (PySem.list_append (W.a i) _ n u (by rw [List.size_toArray,sizeLine_eq]; exact (zgw (b:=0) (i:=1) (j:=1000000) (k:=0) (l:=16777216) hz rfl))) ⟨hi,?_⟩
 obtain ⟨G',S'⟩:=G.setList e hi hd (·.push u) (vs':=vs++[u]) (by simp) (fun kt n' p=>r _ kt n' p) hin
 exact ⟨W,_,.no,G',S',⟨rfl,rfl⟩,.g .none,rfl,q⟩
theorem idxS_go {x:List Nat} {ys:List (List Nat)}:∀ {k j:Nat},idxS x ys k=some j->∃ m,j=k+m/\(∃ h:m < ys.length,F0 ys[m] x=true)/\∀ i (h:i < ys.length),i < m->F0 ys[i] x=false:=by
 induction ys with
 | nil=>intro k j e; cases e
 | cons y r ih=>
  intro k j e
  have e:(match F0 y x with | true=>some k | false=>idxS x r (k+1))=some j:=e
  cases hy:F0 y x with
  | true=>rw [hy] at e; cases e; exact ⟨0,rfl,⟨Nat.zero_lt_succ _,hy⟩,fun Z Z h=>absurd h (Nat.not_lt_zero _)⟩
  | false=>
   rw [hy] at e
   refine byG fun G_ k_=>?_
   obtain ⟨m,e1,⟨h1,h2⟩,h3⟩:=ih e
   refine k_ ?_
   refine ⟨m+1,by rw [e1,Nat.add_assoc,Nat.add_comm 1],⟨Nat.succ_lt_succ h1,h2⟩,fun i h lt=>?_⟩
   cases i with
   | zero=>exact hy
   | succ i=>exact h3 i (Nat.lt_of_succ_lt_succ h) (Nat.lt_of_succ_lt_succ lt)
theorem idxS_spec {x:List Nat} {ys:List (List Nat)} {j:Nat} (e:idxS x ys 0=some j):(∃ h:j < ys.length,F0 ys[j] x=true)/\∀ i (h:i < ys.length),i < j->F0 ys[i] x=false:=by
 obtain ⟨m,e1,q⟩:=idxS_go e
 rw [Nat.zero_add] at e1; subst e1; exact q
theorem strs_get {vs:List Value} {ys:List (List Nat)} (hs:StrsAre vs (ys.map A6)) {x:List Nat}:vs.length=ys.length/\∀ j (h:j < vs.length) (h':j < ys.length),isStrOf (A6 x) vs[j]=F0 ys[j] x:=by
 induction ys generalizing vs with
 | nil=>cases hs; exact ⟨rfl,fun j h=>absurd h (Nat.not_lt_zero _)⟩
 | cons y r ih=>
  cases hs with
  | cons _ t hs=>
  obtain ⟨a,b⟩:=ih hs
  refine ⟨congrArg Nat.succ a,fun j h h'=>?_⟩
  cases j with
  | zero=>exact strOf_beq
  | succ j=>exact b j (Nat.lt_of_succ_lt_succ h) (Nat.lt_of_succ_lt_succ h')
theorem index_list_ok {Q:AV->St->Prop} {i:Nat} {l:List GV} {x:List Nat} {k:Nat} {t:Tok} (G:Good w h₀ W st s.heap) (e:st.get i=some (.gl l)) (hk:idxStrs x l=some k) (hk1:k < 1000) (q:Q (.i k) st) :
  wpAny (Md w) A (call (.builtin "list.index") [.ref (W.a i),.str (A6 x) t]) (PostO w h₀ W st s Q) E s:=by
 refine byG fun G_ k_=>?_
 obtain ⟨hd,vs,n,hi,r⟩:=G.rep i _ e
 refine k_ ?_
 cases hy:I3 l with
 | none=>rw [idxStrs,hy] at hk; cases hk
 | some ys=>
  rw [idxStrs,hy] at hk
  refine byG fun G_ k_=>?_
  have hs:=strs_of r hy
  obtain ⟨⟨h1,h2⟩,h3⟩:=idxS_spec hk
  obtain ⟨hl,hg⟩:=strs_get (x:=x) hs
  refine k_ ?_
  refine call_meets PySem.F.slot_list_index ⟨_,hi,rfl⟩ PySem.F.entry_list_index (PySem.F.args_list_index_2 _ _)
    (MeetsSeq.list_index (W.a i) vs.toArray n (.str (A6 x) t) (isStrOf (A6 x)) (fun y hy=>eq_isStrOf (A6 x) t hs y (by simpa using hy)) k (by simp; exact (ztl h1 (zqs hl))) (by lia)
     ((hg k (by exact (ztl h1 (zqs hl))) h1).trans h2) (fun m hm lt=>(hg m (by exact (ztl (ztt lt h1) (zqs hl))) (by exact (ztt lt h1))).trans (h3 m (by exact (ztt lt h1)) lt))) ⟨hi,?_⟩
  exact ⟨W,st,.i k,G,G.refl,⟨rfl,rfl⟩,.g (.int _ _),rfl,q⟩
theorem pop_ok {Q:AV->St->Prop} {i:Nat} {r:List GV} {v:GV} (G:Good w h₀ W st s.heap) (e:st.get i=some (.gl (r++[v]))) (hz:r.length < 1000000) (q:Q (.g v) (st.set i (.gl r))) :
  wpAny (Md w) A (call (.builtin "list.pop") [.ref (W.a i)]) (PostO w h₀ W st s Q) E s:=by
 refine byG fun G_ k_=>?_
 obtain ⟨hd,vs,n,hi,rp⟩:=G.rep i _ e
 obtain ⟨us,u,rfl,ru,rv⟩:=rp.unsnoc
 have hl:=ru.length
 have hk:(us++[u]).toArray.size - 1=us.length:=by rw [List.size_toArray,List.length_append]; rfl
 have hy:(us++[u]).toArray[(us++[u]).toArray.size - 1]?=some u:=by rw [hk]; simp
 refine k_ ?_
 have he:(fun xs:Array Value=>xs.eraseIdxIfInBounds ((us++[u]).toArray.size - 1)) (us++[u]).toArray=us.toArray:=by
  show (us++[u]).toArray.eraseIdxIfInBounds ((us++[u]).toArray.size - 1)=us.toArray
  rw [hk,kl_erase,List.append_nil]
 refine call_meets PySem.F.slot_list_pop ⟨_,hi,rfl⟩ PySem.F.entry_list_pop (PySem.F.args_list_pop_1 _) (PySem.MeetsSeq.list_pop_last (W.a i) _ n u hy (by rw [List.size_toArray,List.length_append,sizeLine_eq]; simp; exact (zgw (b:=0) (i:=1) (j:=1000000) (k:=0) (l:=16777215) (zg (c:=0) (i:=0) (j:=0) (k:=1) (l:=1000000) (zqs hl) hz) rfl))) ⟨hi,?_⟩
 obtain ⟨G',S'⟩:=G.setList (o':=.gl r) e hi hd (fun xs:Array Value=>xs.eraseIdxIfInBounds ((us++[u]).toArray.size - 1)) he (fun kt n' p=>⟨hd,us,n',p,ru.mono kt⟩) trivial
 exact ⟨W,_,.g v,G',S',⟨rfl,rfl⟩,.g (rv.mono S'.tup),rfl,q⟩
theorem reverse_ok {Q:AV->St->Prop} {i:Nat} {l:List GV} (G:Good w h₀ W st s.heap) (e:st.get i=some (.gl l)) (hz:l.length < 1000000) (q:Q .no (st.set i (.gl l.reverse))) :
  wpAny (Md w) A (call (.builtin "list.reverse") [.ref (W.a i)]) (PostO w h₀ W st s Q) E s:=by
 obtain ⟨hd,vs,n,hi,rp⟩:=G.rep i _ e
 have hl:=rp.length
 refine call_meets PySem.F.slot_list_reverse ⟨_,hi,rfl⟩ PySem.F.entry_list_reverse (PySem.F.args_list_reverse_1 _) (PySem.AutoSeq1.list_reverse_list_0 (W.a i) _ n (by rw [List.size_toArray,sizeLine_eq]; exact (zgw (b:=0) (i:=1) (j:=1000000) (k:=0) (l:=16777216) (zg (c:=0) (i:=0) (j:=0) (k:=1) (l:=1000000) (zqs hl) hz) rfl))) ⟨hi,?_⟩
 obtain ⟨G',S'⟩:=G.setList (o':=.gl l.reverse) e hi hd (fun x=>x.reverse) (vs':=vs.reverse) (by simp) (fun kt n' p=>⟨hd,vs.reverse,n',p,(rp.mono kt).rev⟩) trivial
 exact ⟨W,_,.no,G',S',⟨rfl,rfl⟩,.g .none,rfl,q⟩
theorem index_tuple_ok {Q:Value->Shared->Prop} {a:Addr} {vs:List Value} {ys:List (List Nat)} {x:List Nat} {k:Nat} {t:Tok} (ht:IsTup s.heap a vs.toArray) (hs:StrsAre vs (ys.map A6)) (hk:idxS x ys 0=some k) (q:Q (.int k s.toks) {s with toks:=s.toks+1}) :
  wpAny (Md w) A (call (.builtin "tuple.index") [.ref a,.str (A6 x) t]) Q E s:=by
 obtain ⟨⟨h1,h2⟩,h3⟩:=idxS_spec hk
 obtain ⟨hl,hg⟩:=strs_get (x:=x) hs
 refine wpAny_call_entry PySem.F.slot_tuple_index ht.typeIs PySem.F.entry_tuple_index ?_ (PySem.F.args_tuple_index_2 _ _)
 show wpAny _ _ (Builtin.Tuple.tupleItemsOf (.ref a)>>=_) _ _ s
 refine wpAny_bind (tupleItemsOf_ ht ?_)
 dsimp only
 refine wpAny_bind (wpAny_pure (wpAny_bind (wpAny_pure ?_)))
 rw [Std.Legacy.Range.forIn_eq_forIn_range']
 have sz:(min vs.toArray.size vs.toArray.size - 0+1 - 1) / 1=vs.length:=by simp
 refine wpAny_bind ?_
 refine wpAny_forIn_list _ (fun rest b s'=>s'=s/\b=(none,())/\∃ j,j<=k/\rest=List.range' j (vs.length - j)) _ ?_ ?_ _ _ ⟨rfl,rfl,0,Nat.zero_le _,by simp [Std.Legacy.Range.size]⟩
 ·rintro y rest b s' ⟨rfl,rfl,j,hj,hr⟩
  have lt:j < vs.length:=by lia
  obtain ⟨d,hd⟩:∃ d,vs.length - j=d+1:=⟨vs.length - j - 1,by lia⟩
  rw [hd,List.range'_succ] at hr
  obtain ⟨rfl,rfl⟩:=List.cons.inj hr
  have e1:vs.toArray[y]?=some vs[y]:=by simp [lt]
  rw [e1]
  refine wpAny_bind (eq_isStrOf (A6 x) t hs vs[y] (List.getElem_mem lt) _ _ _ _ _ _ ?_)
  rw [hg y lt (by exact (zlt hj h1))]
  by_cases c:y=k
  ·subst c
   rw [h2,if_pos rfl]
   exact wpAny_bind (wpAny_bind (wpAny_mkInt (wpAny_pure (wpAny_pure (wpAny_pure ⟨_,rfl,q⟩)))))
  ·rw [h3 y (by exact (zlt hj h1)) (by lia),if_neg Bool.false_ne_true]
   exact wpAny_pure ⟨rfl,rfl,y+1,by lia,by congr 1; lia⟩
 ·rintro b s' ⟨rfl,rfl,j,hj,hr⟩
  have:=congrArg List.length hr
  simp at this
  lia
end
theorem glued_empty:∀ (ys:List (List Nat)),PySem.Txt.join (A6 []) (ys.map A6)=A6 ys.flatten
 | []=>rfl
 | y::r=>by
  show Builtin.Str.glued (A6 []) (A6 y::r.map A6)=_
  unfold Builtin.Str.glued
  simp only [List.drop_one,List.tail_cons,List.headD_cons]
  have key:∀ (l:List (List Nat)) (acc:Array Nat),(l.map A6).foldl (fun acc p=>acc++(A6 []).cps++p.cps) acc=acc++l.flatten.toArray:=by
   intro l
   induction l with
   | nil=>intro acc; simp
   | cons a l ih=>intro acc; rw [List.map_cons,List.foldl_cons,ih]; simp [A6]
  rw [key]
  simp [A6]
theorem joinG_strs {l:List GV}:∀ {t:List Nat},joinG l=some t->∃ ys,I3 l=some ys/\t=ys.flatten:=by
 induction l with
 | nil=>intro t e; cases e; exact ⟨[],rfl,rfl⟩
 | cons v r ih=>
  intro t e
  cases v with
  | str s=>
   have e:(match joinG r with | some t=>some (s++t) | none=>none)=some t:=e
   cases hu:joinG r with
   | none=>rw [hu] at e; cases e
   | some u=>
    rw [hu] at e
    obtain ⟨ys,h1,h2⟩:=ih hu
    refine ⟨s::ys,?_,?_⟩
    ·show (match I3 r with | some l=>some (s::l) | none=>none)=_
     rw [h1]
    ·rw [<- Option.some.inj e,h2]; rfl
  | _=>cases e
theorem endsOne {s:List Nat} {x:Nat}:PySem.Txt.endswith (A6 s) (A6 [x])=(match s.getLast? with | some y=>y==x | none=>false):=by
 unfold PySem.Txt.endswith
 rw [StrLaws.subAt_eq]
 have e1:(A6 [x]).length=1:=rfl
 have e2:(A6 s).length=s.length:=strOf_len
 have e3:(A6 s).cps.toList=s:=rfl
 have e4:(A6 [x]).cps.toList=[x]:=rfl
 rw [e1,e2,e3,e4]
 rcases List.eq_nil_or_concat s with rfl | ⟨r,y,rfl⟩
 ·simp
 ·simp
section
variable {w:World} {A:Around} {E:Value->Shared->Prop} {s:Shared} {h₀:Heap} {W:Wd} {st:St}
theorem IRep.at {k:Int} {l:List (Int × Int)} {kvs:List (Int × Value)} (r:IRep l kvs):(∀ v,E2 k l=some v->∃ t,valueAt kvs k=some (.int v t))/\(E2 k l=none->valueAt kvs k=none):=by
 induction r with
 | nil=>exact ⟨fun Z e=>(by cases e),fun Z=>rfl⟩
 | @cons j v t l kvs r ih=>
  have e1:E2 k ((j,v)::l)=if j=k then some v else E2 k l:=rfl
  have e2:valueAt ((j,Value.int v t)::kvs) k=if j=k then some (.int v t) else valueAt kvs k:=by
   unfold valueAt
   rw [List.find?_cons]
   by_cases e:j=k
   ·rw [if_pos e]; rw [decide_eq_true e]; rfl
   ·rw [if_neg e]; rw [decide_eq_false e]
  rw [e1,e2]
  by_cases e:j=k
  ·rw [if_pos e,if_pos e]; exact ⟨fun Z h=>(by cases h; exact ⟨t,rfl⟩),fun h=>(by cases h)⟩
  ·rw [if_neg e,if_neg e]; exact ih
theorem SRep.at {h:Heap} {x:List Nat} {l:List (List Nat × AV)} {kvs:List (Str × Value)} (r:SRep h₀ W h l kvs):(∀ v,lookDs x l=some v->(∃ y,(y,v)∈l)/\∃ u,valueAt kvs (A6 x)=some u/\VRep h₀ W h v u)/\(lookDs x l=none->valueAt kvs (A6 x)=none):=by
 induction r with
 | nil=>exact ⟨fun Z e=>(by cases e),fun Z=>rfl⟩
 | @cons y v u l kvs r _ ih=>
  have e1:lookDs x ((y,v)::l)=if y=x then some v else lookDs x l:=by
   show (match F0 y x with | true=>some v | false=>lookDs x l)=_
   rw [natsEq_eq]
   by_cases e:y=x
   ·rw [if_pos e,decide_eq_true e]
   ·rw [if_neg e,decide_eq_false e]
  have e2:valueAt ((A6 y,u)::kvs) (A6 x)=if y=x then some u else valueAt kvs (A6 x):=by
   unfold valueAt
   rw [List.find?_cons]
   by_cases e:y=x
   ·rw [if_pos e]; rw [decide_eq_true (strOf_eq.mpr e)]; rfl
   ·rw [if_neg e]; rw [decide_eq_false fun z=>e (strOf_eq.mp z)]
  rw [e1,e2]
  by_cases e:y=x
  ·rw [if_pos e,if_pos e]; exact ⟨fun Z h=>(by cases h; exact ⟨⟨y,.head _⟩,u,rfl,r⟩),fun h=>(by cases h)⟩
  ·rw [if_neg e,if_neg e]; exact ⟨fun v h=>⟨(ih.1 v h).1.imp fun Z m=>.tail _ m,(ih.1 v h).2⟩,ih.2⟩
theorem get2_ok {Q:AV->St->Prop} {i:Nat} {l:List (Int × Int)} {k d:Int} {t t':Tok} (fx:Fx w h₀) (G:Good w h₀ W st s.heap) (e:st.get i=some (.di l)) (q:Q (.i ((E2 k l).getD d)) st) :
  wpAny (Md w) A (call (.builtin "dict.get") [.ref (W.a i),.int k t,.int d t']) (PostO w h₀ W st s Q) E s:=by
 refine byG fun G_ k_=>?_
 obtain ⟨hd,kvs,hm,r⟩:=G.rep i _ e
 refine k_ ?_
 refine wpAny_call_entry PySem.F.slot_dict_get hm.typeIs PySem.F.entry_dict_get ?_ (PySem.F.args_dict_get_3 _ _ _)
 show wpAny _ _ (dictGet (W.a i) (.int k t)>>=_) _ _ s
 refine wpAny_bind (wpAny_dictGet_of (knd:=intKind pw w) (k:=k) (by simp [intKind,Value.isInt]) hm.mapOf ?_)
 have ra:=r.at (k:=k)
 cases hl:E2 k l with
 | some v=>
  rw [hl] at q
  refine byG fun G_ k_=>?_
  obtain ⟨t'',ht⟩:=ra.1 v hl
  refine k_ ?_
  rw [ht]
  exact wpAny_pure ⟨_,rfl,W,st,_,G,G.refl,⟨rfl,rfl⟩,.g (.int _ _),rfl,q⟩
 | none=>
  rw [hl] at q
  rw [ra.2 hl]
  show wpAny _ _ (Builtin.Dict.missed (W.a i) (.int k t)>>=_) _ _ _
  exact wpAny_bind (wpAny_missed_other (own_sys fx (G.own0 e)) (wpAny_pure ⟨_,rfl,W,st,_,G,G.refl,⟨rfl,rfl⟩,.g (.int _ _),rfl,q⟩))
theorem get1_ok {Q:AV->St->Prop} {i:Nat} {l:List (List Nat × AV)} {x:List Nat} {t:Tok} (fx:Fx w h₀) (G:Good w h₀ W st s.heap) (e:st.get i=some (.ds l)) (q:Q (match lookDs x l with | some w=>w | none=>.no) st) :
  wpAny (Md w) A (call (.builtin "dict.get") [.ref (W.a i),.str (A6 x) t]) (PostO w h₀ W st s Q) E s:=by
 obtain ⟨hd,kvs,hm,r⟩:=G.rep i _ e
 refine wpAny_call_entry PySem.F.slot_dict_get hm.typeIs PySem.F.entry_dict_get ?_ (PySem.F.args_dict_get_2 _ _)
 show wpAny _ _ (dictGet (W.a i) (.str (A6 x) t)>>=_) _ _ s
 refine wpAny_bind (wpAny_dictGet_of (knd:=strKind pw w) (k:=A6 x) (strKind_is pw w _ t) hm.mapOf ?_)
 have ra:=r.at (x:=x)
 cases hl:lookDs x l with
 | some v=>
  rw [hl] at q
  obtain ⟨⟨y,hy⟩,u,hu,rv⟩:=ra.1 v hl
  rw [hu]
  have hv:v.within st.nx=true:=(G.inn e) _ hy
  exact wpAny_pure ⟨_,rfl,W,st,_,G,G.refl,⟨rfl,rfl⟩,rv,hv,q⟩
 | none=>
  rw [hl] at q
  rw [ra.2 hl]
  show wpAny _ _ (Builtin.Dict.missed (W.a i) (.str (A6 x) t)>>=_) _ _ _
  exact wpAny_bind (wpAny_missed_other (own_sys fx (G.own0 e)) (wpAny_pure ⟨_,rfl,W,st,.no,G,G.refl,⟨rfl,rfl⟩,.g .none,rfl,q⟩))
theorem ends_ok {Q:AV->St->Prop} {l:List Nat} {x:Nat} {t t':Tok} (G:Good w h₀ W st s.heap) (q:Q (.bool (match l.getLast? with | some y=>y==x | none=>false)) st) :
  wpAny (Md w) A (call (.builtin "str.endswith") [.str (A6 l) t,.str (A6 [x]) t']) (PostO w h₀ W st s Q) E s:=
 SC.endswith (endsOne▸(⟨W,st,_,G,G.refl,⟨rfl,rfl⟩,.bool _,rfl,q⟩))
theorem join_ok {Q:AV->St->Prop} {i:Nat} {l:List GV} {t:List Nat} {tk:Tok} (G:Good w h₀ W st s.heap) (e:st.get i=some (.gl l)) (hj:joinG l=some t) (hz:t.length<=1000000) (q:Q (.s t) st) :
  wpAny (Md w) A (call (.builtin "str.join") [.str (A6 []) tk,.ref (W.a i)]) (PostO w h₀ W st s Q) E s:=by
 refine byG fun G_ k_=>?_
 obtain ⟨hd,vs,n,hi,r⟩:=G.rep i _ e
 obtain ⟨ys,hy,rfl⟩:=joinG_strs hj
 have hs:=strs_of r hy
 refine k_ ?_
 refine join_list hi.isList (hs) ?_ fun t' k=>?_
 ·have:((ys.map A6).map (·.length)).sum=ys.flatten.length:=by
   rw [List.length_flatten,List.map_map]
   congr 1
  rw [this]
  have z:(A6 []).length=0:=rfl
  rw [z]; lia
 ·rw [glued_empty]
  exact ⟨W,st,.s _,G,G.refl,⟨rfl,rfl⟩,.g (.str _ _),rfl,q⟩
end
theorem Call_meth {prog:Program} {w:World} {A:Around} {E:Value->Shared->Prop} {s:Shared} {env:Env} {o:Expr} {name:Str} {apos pos:Pos} {args:List Expr} {Q:Value->Shared->Prop} (hb:noSuper o=true) (hs:H9 args=true) (hn:args.length < 20) (hline:(apos.endLine==pos.line)=true)
  (h:wpAny (model prog w) A (eval o env) (fun ov s₁=>wpAny (model prog w) A (getMethod ov name (do return (<- importBound o env).getD true)) (fun p s₂=>wpAny (model prog w) A (callWith pos p.1 p.2 (backTo pos (starEach args env)) []) Q E s₂) E s₁) E s) :
  wpAny (model prog w) A (eval (.Call (.Attribute o name apos) args [] pos) env) Q E s:=by
 rw [arm_eval_Call,base_ok hb]
 refine wpAny_bind (wpAny_mono h (fun ov s₁ h₁=>wpAny_bind (wpAny_standAt ?_)) fun Z Z e=>e)
 have hform:methodCallForm (args.length+([]:List Keyword).length) (backTo pos (starEach args env)) (backToKw pos (keywordEach [] env))=true:=by
  show ((backTo pos (starEach args env)).all (fun x=>!x.1)&&true&&decide (args.length+0+0 < 30))=true
  rw [noStars_all hs,decide_eq_true (by exact (zgw (b:=0) (i:=1) (j:=20) (k:=1) (l:=30) hn rfl))]; rfl
 have hpos:methodCallPos true o env apos pos=pure pos:=by unfold methodCallPos; simp [hline]
 unfold methodCall
 rw [hform]
 refine wpAny_bind (wpAny_holding ?_)
 show wpAny _ _ (getMethod ov name _) _ _ _
 refine wpAny_mono h₁ (fun p s₂ h₂=>?_) fun Z Z e=>e
 exact wpAny_bind (wpAny_of_eq hpos h₂)
section
variable {d:Nat} {cl:A7}
theorem keeps_B (id:String) {M:Model} (h:Heap) (_:True):∃ k,(k=Keeper.frame\/k=Keeper.machine\/k=Keeper.boundFrame)/\Looks M h (keeperOf (.builtin id)) k:=⟨.machine,.inr (.inl rfl),Looks.now⟩
theorem methB {w:World} {h₀:Heap} {A:Around} {env:Env} {vs:A2} {W W':Wd} {st st':St} {s s':Shared} {fs:List Env} {Q:AV->St->Prop} {R:List AV->St->Prop} {X:St->Prop} {m:MEs} {as:List Expr} {pos:Pos} {id:String} {self:Value}
  (ih:SemEs d cl m) (x:H w h₀ A env vs W' st' s' fs d) (S:Step [] W st s.heap W' st' s'.heap) (g:s'.gens=s.gens/\s'.os=s.os) (hc:chkEs w.params env.scope m as=true) (q:vcEs tabs cl X m vs st' R)
  (h:∀ W₂ st₂ s₂ l us,Good w h₀ W₂ st₂ s₂.heap->Step [] W' st' s'.heap W₂ st₂ s₂.heap->VReps h₀ W₂ s₂.heap l us->A5 st₂.nx l=true->R l st₂->wpAny (Md w) A (call (.builtin id) (self::us)) (PostO w h₀ W₂ st₂ s₂ Q) (PostX w h₀ fs none W₂ st₂ s₂ X) s₂) :
  wpAny (Md w) A (callWith pos (.builtin id) [self] (backTo pos (starEach as env)) []) (PostE w h₀ W st s Q) (PostX w h₀ fs none W st s X) s':=by
 refine K6 (P:=fun Z=>True) (I9 hc) (fun h p=>keeps_B id h p) ?_
 refine JE.on (ih x hc q) S g fun us s₁ p=>⟨trivial,?_⟩
 obtain ⟨W₁,st₁,l,G₁,S₁,g₁,r,hw,q₁⟩:=p
 refine wpAny_mono (h W₁ st₁ s₁ l us G₁ S₁ r hw q₁) (fun u s₂ p=>?_) (fun Z Z p=>p.after (S.trans S₁) ⟨g₁.1.trans g.1,g₁.2.trans g.2⟩)
 exact PostE.after (S.trans S₁) ⟨g₁.1.trans g.1,g₁.2.trans g.2⟩ p
theorem kind_lst {w:World} {h₀ h:Heap} {W:Wd} {st:St} {i:Nat} {o:AO} (G:Good w h₀ W st h) (e:st.get i=some o) (ho:(∃ l,o=.gl l)\/(∃ l,o=.ol l)):W.d i=W.a i/\∃ vs n,IsL h (W.a i) vs n:=by
 rcases ho with ⟨l,rfl⟩ | ⟨l,rfl⟩
 ·obtain ⟨a,vs,n,b,_⟩:=G.rep i _ e; exact ⟨a,_,n,b⟩
 ·obtain ⟨a,vs,n,b,_⟩:=G.rep i _ e; exact ⟨a,_,n,b⟩
theorem getM_list {w:World} {A:Around} {E:Value->Shared->Prop} {s:Shared} {a:Addr} {vs:Array Value} {n:Nat} {name:Str} {id:String} {pl:Sem Bool} {Q:Value × List Value->Shared->Prop} (hi:IsL s.heap a vs n) (slot:Slot "list" name id) (hty:typeOf (.builtin id)=pure (.type "method_descriptor"))
  (h:Q (.builtin id,[.ref a]) s):wpAny (Md w) A (getMethod (.ref a) name pl) Q E s:=
 getMethod_builtin ⟨_,hi,rfl⟩ PySem.F.plainAttrs_list slot hty (fun b e=>by cases e; exact ⟨_,hi,rfl⟩) h
theorem vr_one {h₀ h:Heap} {W:Wd} {v:AV} {us:List Value} (r:VReps h₀ W h [v] us):∃ u,us=[u]/\VRep h₀ W h v u:=by
 cases r with | cons a b=>cases b; exact ⟨_,rfl,a⟩
theorem vr_nil {h₀ h:Heap} {W:Wd} {us:List Value} (r:VReps h₀ W h [] us):us=[]:=by cases r; rfl
inductive SeqC (st:St) (i:Nat) (k:AO->Prop):Prop where
 | gl (l:List GV) (e:st.get i=some (.gl l)) (q:k (.gl l))
 | ol (l:List AV) (e:st.get i=some (.ol l)) (q:k (.ol l))
inductive DctC (st:St) (i:Nat) (k:AO->Prop):Prop where
 | di (l:List (Int × Int)) (e:st.get i=some (.di l)) (q:k (.di l))
 | ds (l:List (List Nat × AV)) (e:st.get i=some (.ds l)) (q:k (.ds l))
theorem runL_c {m:Nat} {i:Nat} {l:List AV} {st:St} {Q:AV->St->Prop} {X:St->Prop} (q:runV cl X m (.lst i) l st Q):SeqC st i fun o=>bmeth m i o l st Q:=by
 have q:(match st.get i with | some (.gl x)=>bmeth m i (.gl x) l st Q | some (.ol x)=>bmeth m i (.ol x) l st Q | _=>False):=q
 cases h:st.get i with
 | none=>rw [h] at q; exact False.elim q
 | some o=>
  rw [h] at q
  cases o with
  | gl x=>exact .gl x h q
  | ol x=>exact .ol x h q
  | _=>exact False.elim q
theorem runD_c {m:Nat} {i:Nat} {l:List AV} {st:St} {Q:AV->St->Prop} {X:St->Prop} (q:runV cl X m (.dct i) l st Q):DctC st i fun o=>bmeth m i o l st Q:=by
 have q:(match st.get i with | some (.di x)=>bmeth m i (.di x) l st Q | some (.ds x)=>bmeth m i (.ds x) l st Q | _=>False):=q
 cases h:st.get i with
 | none=>rw [h] at q; exact False.elim q
 | some o=>
  rw [h] at q
  cases o with
  | di x=>exact .di x h q
  | ds x=>exact .ds x h q
  | _=>exact False.elim q
theorem ixV_e {x:List Nat} {l:List GV} {Q:AV->Prop} (q:ixV x l Q):∃ k,idxStrs x l=some k/\k < 1000/\Q (.i k):=by
 have q:(match idxStrs x l with | some k=>chk (Nat.blt k 1000) (Q (.i k)) | none=>False):=q
 cases h:idxStrs x l with
 | none=>rw [h] at q; exact False.elim q
 | some k=>rw [h] at q; exact ⟨k,rfl,Nat.blt_eq.mp (K5 q).1,(K5 q).2⟩
inductive AppC (v:AV) (kg:GV->Prop) (ko:Nat->Prop):Prop where
 | g (w:GV) (e:v=.g w) (q:kg w)
 | o (j:Nat) (e:v=.obj j) (q:ko j)
theorem app_c {v:AV} {kg:GV->Prop} {ko:Nat->Prop} (q:match v with | .g w=>kg w | .obj j=>ko j | _=>False):AppC v kg ko:=by
 cases v with
 | g w=>exact .g w rfl q
 | obj j=>exact .o j rfl q
 | _=>exact False.elim q
theorem vr_str1 {h₀ h:Heap} {W:Wd} {y:List Nat} {us:List Value} (r:VReps h₀ W h [.g (.str y)] us):∃ t,us=[.str (A6 y) t]:=by
 obtain ⟨u,rfl,r'⟩:=vr_one r
 cases r' with | g r'=>cases r' with | str _ t=>exact ⟨t,rfl⟩
theorem bmeth_list {w:World} {h₀:Heap} {A:Around} {W:Wd} {st:St} {s:Shared} {fs:List Env} {Q:AV->St->Prop} {X:St->Prop} {i:Nat} {l:List AV} {us:List Value} (G:Good w h₀ W st s.heap) (r:VReps h₀ W s.heap l us) (hw:A5 st.nx l=true) (m:Nat) (id:String)
  (hm:(m=0/\id = "list.append")\/(m=1/\id = "list.pop")\/(m=2/\id = "list.reverse")\/(m=3/\id = "list.index")) (q:runV cl X m (.lst i) l st Q) :
  wpAny (Md w) A (call (.builtin id) (.ref (W.a i)::us)) (PostO w h₀ W st s Q) (PostX w h₀ fs none W st s X) s:=by
 refine byG fun G_ k_=>?_
 cases runL_c q with
 | gl x hx q=>
  rcases hm with ⟨rfl,rfl⟩ | ⟨rfl,rfl⟩ | ⟨rfl,rfl⟩ | ⟨rfl,rfl⟩
  ·obtain ⟨v,rfl,q1⟩:=arg1_e q
   obtain ⟨u,rfl,ru⟩:=vr_one r
   obtain ⟨hd,vs,n,hi,rp⟩:=G.rep i _ hx
   cases app_c q1 with
   | g v e q=>
    rw [e] at ru
    cases ru with | g ru=>
    exact k_ (append_ok (o':=.gl (x++[v])) (v:=.g v) G hx hi hd (zlt (zqs rp.length) (cB q).1) (fun h' kt n' p=>⟨hd,_,n',p,(rp.mono kt).append (.cons (ru.mono kt) .nil)⟩) trivial (cB q).2)
   | o j e q=>
    rw [e] at ru hw
    have q:=nilL_e q
    rw [q.1] at rp
    cases rp
    exact k_ (append_ok (o':=.ol [.obj j]) (v:=.obj j) G hx hi hd (Nat.zero_lt_succ _) (fun h' kt n' p=>⟨hd,_,n',p,.cons (ru.mono kt (fun Z Z=>rfl) (G4 hw)) .nil⟩) hw q.2)
  ·obtain ⟨rfl,y,v,⟨rfl,hz⟩,q1⟩:=arg0_e q
   cases vr_nil r
   exact k_ (pop_ok G hx hz q1)
  ·obtain ⟨rfl,q1⟩:=arg0_e q
   cases vr_nil r
   exact k_ (reverse_ok G hx (cB q1).1 (cB q1).2)
  ·obtain ⟨v,rfl,q1⟩:=arg1_e q
   obtain ⟨y,rfl,q2⟩:=strV_e q1
   obtain ⟨k,hk,hlt,q3⟩:=ixV_e q2
   obtain ⟨t,rfl⟩:=vr_str1 r
   exact k_ (index_list_ok G hx hk hlt q3)
 | ol x hx q=>
  rcases hm with ⟨rfl,rfl⟩ | ⟨rfl,rfl⟩ | ⟨rfl,rfl⟩ | ⟨rfl,rfl⟩
  ·obtain ⟨v,rfl,q1⟩:=arg1_e q
   obtain ⟨u,rfl,ru⟩:=vr_one r
   obtain ⟨hd,vs,n,hi,rp⟩:=G.rep i _ hx
   exact k_ (append_ok (o':=.ol (x++[v])) (v:=v) G hx hi hd (zlt (zqs rp.length) (cB q1).1) (fun h' kt n' p=>⟨hd,_,n',p,(rp.mono kt (fun Z Z=>rfl) (G.inn hx)).append (.cons (ru.mono kt (fun Z Z=>rfl) (G4 hw)) .nil)⟩)
    (withinAll_iff.mpr fun y hy=>(List.mem_append.mp hy).elim (withinAll_iff.mp (G.inn hx) y) (withinAll_iff.mp hw y)) (cB q1).2)
  all_goals exact False.elim q
theorem vr_obj {h₀ h:Heap} {W:Wd} {j:Nat} {us:List Value} (r:VReps h₀ W h [.obj j] us):us=[.ref (W.a j)]:=by
 obtain ⟨u,rfl,r'⟩:=vr_one r
 cases r'; rfl
theorem vr_ints {h₀ h:Heap} {W:Wd} {k l:Int} {us:List Value} (r:VReps h₀ W h [.g (.int k),.g (.int l)] us):∃ t t',us=[.int k t,.int l t']:=by
 cases r with
 | cons a r=>
  obtain ⟨u,rfl,r'⟩:=vr_one r
  refine VRep.int_e a fun t=>?_
  cases r' with | g r'=>cases r' with | int _ t'=>exact ⟨t,t',rfl⟩
theorem bmeth_dict {w:World} {h₀:Heap} {A:Around} {W:Wd} {st:St} {s:Shared} {fs:List Env} {Q:AV->St->Prop} {X:St->Prop} {i:Nat} {l:List AV} {us:List Value} (fx:Fx w h₀) (G:Good w h₀ W st s.heap) (r:VReps h₀ W s.heap l us) (q:runV cl X 4 (.dct i) l st Q) :
  wpAny (Md w) A (call (.builtin "dict.get") (.ref (W.a i)::us)) (PostO w h₀ W st s Q) (PostX w h₀ fs none W st s X) s:=by
 cases runD_c q with
 | di y hy q=>
  refine byG fun G_ k_=>?_
  obtain ⟨a,b,rfl,q1⟩:=arg2_e q
  obtain ⟨k,rfl,q2⟩:=I6 q1
  obtain ⟨d,rfl,q3⟩:=I6 q2
  obtain ⟨t,t',rfl⟩:=vr_ints r
  refine k_ ?_
  exact get2_ok fx G hy q3
 | ds y hy q=>
  refine byG fun G_ k_=>?_
  obtain ⟨a,rfl,q1⟩:=arg1_e q
  obtain ⟨k,rfl,q2⟩:=strV_e q1
  obtain ⟨t,rfl⟩:=vr_str1 r
  refine k_ ?_
  exact get1_ok fx G hy q2
theorem gmeth_tup {w:World} {h₀:Heap} {A:Around} {W:Wd} {st:St} {s:Shared} {fs:List Env} {Q:AV->St->Prop} {X:St->Prop} {a:Addr} {x:List GV} {vs:List Value} {l:List AV} {us:List Value} (t:TupD s.heap a vs.toArray) (rx:GReps s.heap x vs) (G:Good w h₀ W st s.heap) (r:VReps h₀ W s.heap l us) (q:runV cl X 3 (.gv (.tup x)) l st Q) :
  wpAny (Md w) A (call (.builtin "tuple.index") (.ref a::us)) (PostO w h₀ W st s Q) (PostX w h₀ fs none W st s X) s:=by
 refine byG fun G_ k_=>?_
 obtain ⟨a,rfl,q1⟩:=arg1_e q
 obtain ⟨y,rfl,q2⟩:=strV_e q1
 obtain ⟨k,hk,hlt,q3⟩:=ixV_e q2
 obtain ⟨tk,rfl⟩:=vr_str1 r
 refine k_ ?_
 cases hy:I3 x with
 | none=>rw [idxStrs,hy] at hk; cases hk
 | some ys=>
  rw [idxStrs,hy] at hk
  exact index_tuple_ok t.isTup (strs_of rx hy) hk ⟨W,st,.i k,G,G.refl,⟨rfl,rfl⟩,.g (.int _ _),rfl,q3⟩
theorem gmeth_ends {w:World} {h₀:Heap} {A:Around} {W:Wd} {st:St} {s:Shared} {fs:List Env} {Q:AV->St->Prop} {X:St->Prop} {x:List Nat} {tx:Tok} {l:List AV} {us:List Value} (G:Good w h₀ W st s.heap) (r:VReps h₀ W s.heap l us) (q:runV cl X 5 (.gv (.str x)) l st Q) :
  wpAny (Md w) A (call (.builtin "str.endswith") (.str (A6 x) tx::us)) (PostO w h₀ W st s Q) (PostX w h₀ fs none W st s X) s:=by
 obtain ⟨a,rfl,q1⟩:=arg1_e q
 obtain ⟨y,rfl,q2⟩:=strV_e q1
 obtain ⟨z,rfl,q3⟩:=oneS_e q2
 obtain ⟨tk,rfl⟩:=vr_str1 r
 exact ends_ok G q3
theorem gmeth_join {w:World} {h₀:Heap} {A:Around} {W:Wd} {st:St} {s:Shared} {fs:List Env} {Q:AV->St->Prop} {X:St->Prop} {x:List Nat} {tx:Tok} {l:List AV} {us:List Value} (G:Good w h₀ W st s.heap) (r:VReps h₀ W s.heap l us) (q:runV cl X 6 (.gv (.str x)) l st Q) :
  wpAny (Md w) A (call (.builtin "str.join") (.str (A6 x) tx::us)) (PostO w h₀ W st s Q) (PostX w h₀ fs none W st s X) s:=by
 obtain ⟨a,rfl,q1⟩:=arg1_e q
 obtain ⟨j,rfl,q2⟩:=objV_e q1
 cases x with
 | cons=>exact False.elim q2
 | nil=>
  cases vr_obj r
  refine byG fun G_ k_=>?_
  obtain ⟨y,hy,q2⟩:=glO_e q2
  obtain ⟨t,h1,q3⟩:=ofO_c q2
  obtain ⟨h2,q3⟩:=cB q3
  refine k_ ?_
  exact join_ok G hy h1 h2 q3
end
section
variable {d:Nat} {cl:A7}
theorem nm_append:nm 0 = "append" := rfl
theorem nm_pop:nm 1 = "pop" := rfl
theorem nm_reverse:nm 2 = "reverse" := rfl
theorem nm_index:nm 3 = "index" := rfl
inductive ResC (st:St) (m:Nat) (v:AV) (k:Tgt->Prop):Prop where
 | fn (i c:Nat) (fs:A2) (f:Nat) (e:v=.obj i) (h:st.get i=some (.inst c fs)) (hf:methL c m=some f) (hl:B2 m fs=none) (q:k (.fn f i))
 | lst (i:Nat) (o:AO) (e:v=.obj i) (h:st.get i=some o) (ho:(∃ l,o=.gl l)\/∃ l,o=.ol l) (hm:m<=3) (q:k (.lst i))
 | dct (i:Nat) (e:v=.obj i) (h:(∃ l,st.get i=some (.di l))\/∃ l,st.get i=some (.ds l)) (hm:m=4) (q:k (.dct i))
 | tup (l:List GV) (e:v=.g (.tup l)) (hm:m=3) (q:k (.gv (.tup l)))
 | str (l:List Nat) (e:v=.g (.str l)) (hm:m=5\/m=6) (q:k (.gv (.str l)))
theorem resV_c {st:St} {m:Nat} {v:AV} {k:Tgt->Prop} (q:resV tabs st m v k):ResC st m v k:=by
 cases v with
 | g x=>cases x with
  | tup l=>exact .tup l rfl (beq_iff_eq.mp (K5 q).1) (K5 q).2
  | str l=>exact .str l rfl ((Bool.or_eq_true_iff.mp (K5 q).1).imp beq_iff_eq.mp beq_iff_eq.mp) (K5 q).2
  | _=>exact False.elim q
 | obj i=>
  have q:(match st.get i with
   | some (.inst c fs)=>noF tabs m c fs fun f=>k (.fn f i)
   | some (.gl _)=>chk (Nat.ble m 3) (k (.lst i))
   | some (.ol _)=>chk (Nat.ble m 3) (k (.lst i))
   | some (.di _)=>chk (m==4) (k (.dct i))
   | some (.ds _)=>chk (m==4) (k (.dct i))
   | none=>False):=q
  cases h:st.get i with
  | none=>rw [h] at q; exact False.elim q
  | some o=>
   rw [h] at q
   cases o with
   | inst c fs=>
    refine ofO_e q fun f hf q=>?_
    cases hl:B2 m fs with
    | none=>rw [hl] at q; exact .fn i c fs f rfl h hf hl q
    | some _=>rw [hl] at q; exact False.elim q
   | gl l=>exact .lst i _ rfl h (.inl ⟨l,rfl⟩) (Nat.le_of_ble_eq_true (K5 q).1) (K5 q).2
   | ol l=>exact .lst i _ rfl h (.inr ⟨l,rfl⟩) (Nat.le_of_ble_eq_true (K5 q).1) (K5 q).2
   | di l=>exact .dct i rfl (.inl ⟨l,h⟩) (beq_iff_eq.mp (K5 q).1) (K5 q).2
   | ds l=>exact .dct i rfl (.inr ⟨l,h⟩) (beq_iff_eq.mp (K5 q).1) (K5 q).2
 | _=>exact False.elim q
noncomputable def lstId (m:Nat):String:=match m with | 0 => "list.append" | 1 => "list.pop" | 2 => "list.reverse" | _ => "list.index"
theorem lst_slot {m:Nat} (hm:m<=3):Slot "list" (nm m) (lstId m)/\typeOf (.builtin (lstId m))=pure (.type "method_descriptor")/\((m=0/\lstId m = "list.append")\/(m=1/\lstId m = "list.pop")\/(m=2/\lstId m = "list.reverse")\/(m=3/\lstId m = "list.index")):=by
 rcases Nat.le_iff_lt_or_eq.mp hm with h | rfl
 ·rcases Nat.le_iff_lt_or_eq.mp (Nat.le_of_lt_succ h) with h | rfl
  ·rcases Nat.le_iff_lt_or_eq.mp (Nat.le_of_lt_succ h) with h | rfl
   ·cases Nat.lt_one_iff.mp h
    rw [nm_append,show lstId 0 = "list.append" from rfl]; exact ⟨PySem.F.slot_list_append,PySem.F.type_list_append,.inl ⟨rfl,rfl⟩⟩
   ·rw [nm_pop,show lstId 1 = "list.pop" from rfl]; exact ⟨PySem.F.slot_list_pop,PySem.F.type_list_pop,.inr (.inl ⟨rfl,rfl⟩)⟩
  ·rw [nm_reverse,show lstId 2 = "list.reverse" from rfl]; exact ⟨PySem.F.slot_list_reverse,PySem.F.type_list_reverse,.inr (.inr (.inl ⟨rfl,rfl⟩))⟩
 ·rw [nm_index,show lstId 3 = "list.index" from rfl]; exact ⟨PySem.F.slot_list_index,PySem.F.type_list_index,.inr (.inr (.inr ⟨rfl,rfl⟩))⟩
set_option maxHeartbeats 4000000 in
theorem se_meth (ok:CallOK d cl) {o:ME} {as:MEs} (iho:A8 d cl o) (iha:SemEs d cl as) (m):A8 d cl (.meth o m as):=fun {w h₀ A env vs W st s fs Q X e} x hc q=>by
 refine onCall_e hc fun fe args kw pos hc=>on0_e hc fun hc=>onAttr_e hc fun v n ap hc=>and7 hc fun hn h10 h1 h2 h3 h4 h5=>beq_e hn ?_
 refine Call_meth h1 (I9 h5) (Nat.blt_eq.mp h3) h2 ((iho x h4 q).to fun W' st' s' ov u G S g r hw q'=>?_)
 have x':=x.step G S
 refine byG fun G_ k_=>?_
 cases resV_c q' with
 | fn i c fs' f e hi hf hl q'=>
  rw [e] at r hw
  obtain ⟨om,hm⟩:=meth_ok w.params hf (bne_iff_ne.mp h10)
  obtain ⟨o13,o4⟩:=Bool.and_eq_true_iff.mp om
  obtain ⟨o12,o3⟩:=Bool.and_eq_true_iff.mp o13
  obtain ⟨o1,o2⟩:=Bool.and_eq_true_iff.mp o12
  obtain ⟨hne,_,sl,es,k,e1,e2,fr⟩:=G.rep i _ hi
  refine k_ (VRep.obj_e r ?_)
  refine method_fn (od:=some (dictOf es k)) (x.fx.X.keeps G.stays) ⟨e1,rfl,rfl,e2⟩ (plainGet_of o3).1 (plainGet_of o3).2 (beq_iff_eq.mp o1) (beq_iff_eq.mp o2) (by show ((lookIn (nm m) (dictOf es k)).map (·.isSome))=some false; rw [lookIn_dict,fr.none hm hl]; rfl) ?_
  refine K6 (P:=fun h=>(KK w.params).In h/\keepIn (KK w.params) (.ref f)=true) (I9 h5) (fun h p=>keeps_K p.2 h p.1) ?_
  refine JE.on (iha x' h5 q') S g fun us s₁ p=>?_
  obtain ⟨W₁,st₁,l,G₁,S₁,g₁,r₁,hw₁,q₁⟩:=p
  have x₁:=x'.step G₁ S₁
  refine ⟨⟨x.fx.X.keeps G₁.stays,o4⟩,wpAny_call ?_⟩
  exact PostE.of_call (S.trans S₁) ⟨g₁.1.trans g.1,g₁.2.trans g.2⟩ (ok.ok w h₀ x.fx A W₁ st₁ s₁ f (.obj i::l) _ Q X fs G₁ x₁.N.slack x.fr (.cons (S₁.val (VRep.obj i) hw) r₁) (within_cons (E9 S₁.nx hw) hw₁) q₁)
 | lst i o e hi ho hm q'=>
  rw [e] at r
  obtain ⟨hd,⟨vs',n,hI⟩⟩:=kind_lst G hi ho
  obtain ⟨s1,s2,s3⟩:=lst_slot hm
  refine k_ (VRep.obj_e r (getM_list hI s1 s2 (methB iha x' S g h5 q' fun W₂ st₂ s₂ l us G₂ S₂ r₂ hw₂ q₂=>?_)))
  rw [<- (S₂.agree i (G.low i (by rw [hi]; rfl))).1]
  exact bmeth_list G₂ r₂ hw₂ m _ s3 q₂
 | dct i e hi hm q'=>
  rw [e] at r
  subst hm
  rcases hi with ⟨l,hi⟩ | ⟨l,hi⟩
  ·obtain ⟨hd,kvs,hD,_⟩:=G.rep i _ hi
   refine k_ (VRep.obj_e r (getMethod_builtin hD.typeIs PySem.F.plainAttrs_dict PySem.F.slot_dict_get PySem.F.type_dict_get hD.mapOf.noDict (methB iha x' S g h5 q' fun W₂ st₂ s₂ l us G₂ S₂ r₂ hw₂ q₂=>?_)))
   rw [<- (S₂.agree i (G.low i (by rw [hi]; rfl))).1]
   exact bmeth_dict x.fx G₂ r₂ q₂
  ·obtain ⟨hd,kvs,hD,_⟩:=G.rep i _ hi
   refine k_ (VRep.obj_e r (getMethod_builtin hD.typeIs PySem.F.plainAttrs_dict PySem.F.slot_dict_get PySem.F.type_dict_get hD.mapOf.noDict (methB iha x' S g h5 q' fun W₂ st₂ s₂ l us G₂ S₂ r₂ hw₂ q₂=>?_)))
   rw [<- (S₂.agree i (G.low i (by rw [hi]; rfl))).1]
   exact bmeth_dict x.fx G₂ r₂ q₂
 | tup l e hm q'=>
  rw [e] at r
  subst hm
  refine k_ (VRep.tup_e r fun t r=>?_)
  refine getMethod_builtin t.isTup.typeIs PySem.F.plainAttrs_tuple PySem.F.slot_tuple_index PySem.F.type_tuple_index t.noDict ?_
  exact methB iha x' S g h5 q' fun W₂ st₂ s₂ l' us G₂ S₂ r₂ hw₂ q₂=>gmeth_tup (S₂.tup _ _ t) (r.mono S₂.tup) G₂ r₂ q₂
 | str l e hm q'=>
  rw [e] at r
  refine k_ (VRep.str_e r fun t=>?_)
  rcases hm with rfl | rfl
  ·refine getMethod_builtin (typeIs_str _ _ _) PySem.F.plainAttrs_str PySem.F.slot_str_endswith PySem.F.type_str_endswith (fun b e=>by cases e) ?_
   exact methB iha x' S g h5 q' fun W₂ st₂ s₂ l' us G₂ S₂ r₂ hw₂ q₂=>gmeth_ends G₂ r₂ q₂
  ·refine getMethod_builtin (typeIs_str _ _ _) PySem.F.plainAttrs_str PySem.F.slot_str_join PySem.F.type_str_join (fun b e=>by cases e) ?_
   exact methB iha x' S g h5 q' fun W₂ st₂ s₂ l' us G₂ S₂ r₂ hw₂ q₂=>gmeth_join G₂ r₂ q₂
end
section
variable {d:Nat} {cl:A7}
theorem sizeM:1000000<=sizeLine:=by rw [sizeLine_eq]; decide
theorem keeps_V (v:Value) (hv:keeperOf v=keeperOf (.builtin "len")) {M:Model} (h:Heap) (_:True):∃ k,(k=Keeper.frame\/k=Keeper.machine\/k=Keeper.boundFrame)/\Looks M h (keeperOf v) k:=by
 rw [hv]; exact ⟨.machine,.inr (.inl rfl),Looks.now⟩
theorem call1 {w:World} {h₀:Heap} {A:Around} {env:Env} {vs:A2} {W:Wd} {st:St} {s:Shared} {fs:List Env} {Q:AV->St->Prop} {X:St->Prop} {m:ME} {a:Expr} {id n:Str} {p pos:Pos} {f:Value} {R:AV->St->Prop}
  (ih:A8 d cl m) (x:H w h₀ A env vs W st s fs d) (hg:gBlt w.params env.scope id n=true) (hv:bootBuiltins n=some f) (hn:n ≠ "__name__") (hk:keeperOf f=keeperOf (.builtin "len")) (hs:noStar a=true) (hc:A9 w.params env.scope m a=true)
  (q:vcE tabs cl X m vs st R)
  (h:∀ W' st' s' v u,Good w h₀ W' st' s'.heap->VRep h₀ W' s'.heap v u->v.within st'.nx=true->R v st'->wpAny (Md w) A (call f [u]) (PostO w h₀ W' st' s' Q) (PostX w h₀ fs none W' st' s' X) s') :
  JE w h₀ A fs W st s (eval (.Call (.Name id p) [a] [] pos) env) Q X:=by
 refine wpAny_Call_Name_kw (gBlt_ok x.F x.G x.fx hg hv hn ?_)
 refine K6 (P:=fun Z=>True) (by simp [H9,hs]) (fun h p=>keeps_V f hk h p) ?_
 refine wpAny_items_cons ((ih x hc q).to fun W' st' s' v u G S g r hw q'=>?_) (K7 hs)
 refine Calls.spliced_nil ⟨trivial,?_⟩
 refine wpAny_mono (h W' st' s' v u G r hw q') (fun u₂ s₂ p=>?_) fun Z Z p=>p.after S g
 exact PostE.after S g p
theorem Good.lenOf {w:World} {h₀ h:Heap} {W:Wd} {st:St} {i:Nat} {k:Nat->Prop} (G:Good w h₀ W st h) (q:seqL (st.get i) k):∃ (vs:List Value) (n:Nat),IsL h (W.a i) vs.toArray n/\k vs.length:=by
 cases e:st.get i with
 | none=>rw [e] at q; exact False.elim q
 | some o=>
  rw [e] at q
  have r:=G.rep i _ e
  cases o with
  | gl l=>obtain ⟨_,vs,n,h1,h2⟩:=r; exact ⟨vs,n,h1,by rw [<- h2.length]; exact q⟩
  | ol l=>obtain ⟨_,vs,n,h1,h2⟩:=r; exact ⟨vs,n,h1,by rw [<- h2.length]; exact q⟩
  | _=>exact False.elim q
theorem lt63 {n m:Nat} (h:n<=1000000) (e:n=m):(m:Int) < 2 ^ 63:=by subst e; exact Int.lt_of_le_of_lt (Int.ofNat_le.mpr h) (by decide)
theorem se_len {m:ME} (ih:A8 d cl m):A8 d cl (.len m):=fun {w h₀ A env vs W st s fs Q X e} x hc q=>by
 refine onB1_e hc fun id p a pos h0 h1 h2=>?_
 refine call1 ih x h0 (f:=.builtin "len") rfl (by decide) rfl h1 h2 q fun W' st' s' v u G r hw q'=>?_
 cases v with
 | g y=>cases y with
  | tup l=>
   have q':=cB q'
   refine VRep.tup_e r fun t rp=>len_tuple t.isTup (lt63 q'.1 rp.length) ⟨W',st',_,G,G.refl,⟨rfl,rfl⟩,.g (.int _ _),rfl,?_⟩
   rw [List.size_toArray,<- rp.length]; exact q'.2
  | str l=>
   have q':=cB q'
   refine VRep.str_e r fun t=>P.len_str (Int.not_le.mpr (lt63 q'.1 strOf_len.symm)) ⟨W',st',_,G,G.refl,⟨rfl,rfl⟩,.g (.int _ _),rfl,?_⟩
   rw [strOf_len]; exact q'.2
  | _=>exact False.elim q'
 | obj i=>
  obtain ⟨vs,n,hI,q'⟩:=G.lenOf (i:=i) (k:=fun n=>chk (Nat.ble n 1000000) (Q (.i n) st')) q'
  have q':=cB q'
  refine VRep.obj_e r (call_len_list hI.isList (lt63 q'.1 rfl) ⟨W',st',_,G,G.refl,⟨rfl,rfl⟩,.g (.int _ _),rfl,?_⟩)
  rw [List.size_toArray]; exact q'.2
 | _=>exact False.elim q'
theorem se_chr {m:ME} (ih:A8 d cl m):A8 d cl (.chr m):=fun {w h₀ A env vs W st s fs Q X e} x hc q=>by
 refine onB1_e hc fun id p a pos h0 h1 h2=>?_
 refine call1 ih x h0 (f:=.builtin "chr") rfl (by decide) rfl h1 h2 q fun W' st' s' v u G r hw q'=>?_
 obtain ⟨k,rfl,q'⟩:=I6 q'
 have q':=cD q'
 exact VRep.int_e r fun t=>chr_of_range q'.1.1 q'.1.2 ⟨W',st',_,G,G.refl,⟨rfl,rfl⟩,.g (.str _ _),rfl,q'.2⟩
theorem se_ord {m:ME} (ih:A8 d cl m):A8 d cl (.ord m):=fun {w h₀ A env vs W st s fs Q X e} x hc q=>by
 refine onB1_e hc fun id p a pos h0 h1 h2=>?_
 refine call1 ih x h0 (f:=.builtin "ord") rfl (by decide) rfl h1 h2 q fun W' st' s' v u G r hw q'=>?_
 obtain ⟨k,rfl,q'⟩:=strV_e q'
 obtain ⟨c,rfl,q'⟩:=oneS_e q'
 exact VRep.str_e r fun t=>P.ord_of_char ⟨W',st',_,G,G.refl,⟨rfl,rfl⟩,.g (.int _ _),rfl,q'⟩
theorem G7 {h:Heap} {b:Addr} (le:h.objs.size<=b):h.get? b=none:=by
 cases e:h.get? b with
 | none=>rfl
 | some o=>exact absurd (Heap.lt_size e) (Nat.not_lt.mpr le)
theorem Good.newList {w:World} {h₀ h h':Heap} {W:Wd} {st:St} {o:AO} {a:Addr} {vs:List Value} {n:Nat} (G:Good w h₀ W st h) (k:∀ b x,h.get? b=some x->h'.get? b=some x) (ha:h.get? a=none) (hl:IsL h' a vs.toArray n)
  (ho:∀ W',(∀ j,j < st.nx->W'.a j=W.a j)->(∃ l,o=.gl l/\GReps h' l vs)\/(∃ l,o=.ol l/\VReps h₀ W' h' l vs)) (hin:o.In st.nx) :
  Good w h₀ (W.add st.nx a a) (st.add o) h'/\Step [] W st h (W.add st.nx a a) (st.add o) h':=by
 refine G.alloc k ha ha ?_ (hin.mono (Nat.le_succ _))
 have hl':IsL h' ((W.add st.nx a a).a st.nx) vs.toArray n:=Wd.add_a▸hl
 rcases ho (W.add st.nx a a) (fun j lt=>if_neg (Nat.ne_of_lt lt)) with ⟨l,rfl,r⟩ | ⟨l,rfl,r⟩
 ·exact ⟨Wd.add_d.trans Wd.add_a.symm,vs,n,hl',r⟩
 ·exact ⟨Wd.add_d.trans Wd.add_a.symm,vs,n,hl',r⟩
theorem objNew {h₀ h:Heap} {W:Wd} {st:St} {a d:Addr}:VRep h₀ (W.add st.nx a d) h (.obj st.nx) (.ref a):=by
 have z:=VRep.obj (h₀:=h₀) (W:=W.add st.nx a d) (h:=h) st.nx
 rw [Wd.add_a] at z; exact z
theorem K2 {st:St} {o:AO}:(AV.obj st.nx).within (st.add o).nx=true:=Nat.blt_eq.mpr (Nat.lt_succ_self _)
noncomputable def SemL (d:Nat) (cl:A7) (m:MEs):Prop:=∀ {w:World} {h₀:Heap} {A:Around} {env:Env} {vs:A2} {W:Wd} {st:St} {s:Shared} {fs:List Env} {Q:List AV->St->Prop} {X:St->Prop} {l:List Expr} {pos:Pos},
 H w h₀ A env vs W st s fs d->chkEs w.params env.scope m l=true->vcEs tabs cl X m vs st Q ->
 wpAny (Md w) A (spliced (backTo pos (starEach l env))) (fun us s'=>us.length=l.length/\PostEs w h₀ W st s Q us s') (PostX w h₀ fs none W st s X) s
theorem SemL.to {m:MEs} (h:SemL d cl m):SemEs d cl m:=fun {Z Z Z Z Z Z Z Z Z Z Z Z Z} x hc q=>wpAny_mono (h x hc q) (fun Z Z p=>p.2) fun Z Z p=>p
theorem sl_nil:SemL d cl .nil:=fun {Z Z Z Z Z Z Z Z Z Z Z l Z} x hc q=>by
 refine on0_e hc fun Z=>?_
 exact Calls.spliced_nil ⟨rfl,_,_,[],x.G,x.G.refl,⟨rfl,rfl⟩,.nil,rfl,q⟩
theorem sl_cons {e:ME} {r:MEs} (ihe:A8 d cl e) (ihr:SemL d cl r):SemL d cl (.cons e r):=fun {w Z Z env Z Z Z Z Z Z Z l Z} x hc q=>by
 refine on1_e hc fun a l hc=>and3 hc fun h0 h1 h2=>?_
 refine wpAny_items_cons ((ihe x h1 q).to fun W' st' s' v' u G S g r' hw q'=>?_) (K7 h0)
 refine JE.on (ihr (x.step G S) h2 q') S g fun us s₂ p=>?_
 obtain ⟨hl,W₂,st₂,l₂,G₂,S₂,g₂,r₂,hw₂,q₂⟩:=p
 exact ⟨congrArg Nat.succ hl,W₂,st₂,v'::l₂,G₂,S.trans S₂,⟨g₂.1.trans g.1,g₂.2.trans g.2⟩,.cons (S₂.val r' hw) r₂,within_cons (E9 S₂.nx hw) hw₂,q₂⟩
theorem mk_c {l:List AV} (P:Option (List GV)->Prop) (h:∀ gs,J1 l=some gs->P (some gs)) (k:P none):P (J1 l):=by
 cases e:J1 l with
 | none=>exact k
 | some gs=>exact h gs e
theorem mkList_in {l:List AV} {n:Nat} (h:A5 n l=true):(mkList l).In n:=mk_c (fun o=>(match o with | some g=>AO.gl g | none=>.ol l).In n) (fun Z Z=>trivial) h
theorem se_list {m:MEs} (ih:SemL d cl m):A8 d cl (.list m):=fun {w h₀ A env vs W st s fs Q X e} x hc q=>by
 refine onList_e hc fun as pos hc=>and2 hc fun h1 h2=>?_
 have h2:=Nat.blt_eq.mp h2
 refine wpAny_List (wpAny_mono (ih x h1 q) (fun us s₁ p=>?_) fun Z Z p=>p)
 obtain ⟨hl,W₁,st₁,l,G,S,g,r,hw,q₁⟩:=p
 refine ⟨by exact (zgw (i:=1000001) (j:=1000) (k:=0) (l:=0) (zg (b:=0) (i:=1) (j:=1000) (k:=1000000) (l:=0) (zg (c:=0) (i:=0) (j:=0) (k:=1) (l:=1000) (zq hl) h2) (sizeM)) rfl),?_⟩
 have k:∀ b o,s₁.heap.get? b=some o->(s₁.heap.push {cls:=.type "list",data:=.seq us.toArray}).get? b=some o:=fun b o e=>Heap.get?_push_of_some _ e
 have kt:∀ a it,TupD s₁.heap a it->TupD (s₁.heap.push {cls:=.type "list",data:=.seq us.toArray}) a it:=fun a it x=>x.imp fun o y=>⟨k _ _ y.1,y.2⟩
 obtain ⟨G',S'⟩:=G.newList (h':=s₁.heap.push {cls:=.type "list",data:=.seq us.toArray}) (o:=mkList l) (vs:=us) k (G7 (Nat.le_refl _)) (Heap.get?_push_size _ rfl) (fun W' hW=>by
  exact mk_c (fun o=>(∃ l',(match o with | some g=>AO.gl g | none=>.ol l)=.gl l'/\GReps (s₁.heap.push {cls:=.type "list",data:=.seq us.toArray}) l' us)\/∃ l',(match o with | some g=>AO.gl g | none=>.ol l)=.ol l'/\VReps h₀ W' (s₁.heap.push {cls:=.type "list",data:=.seq us.toArray}) l' us) (fun gs hg=>.inl ⟨gs,rfl,(grounds_rep r hg).mono kt⟩) (.inr ⟨l,rfl,r.mono kt hW hw⟩)) (mkList_in hw)
 exact ⟨_,_,.obj st₁.nx,G',S.trans S',g,objNew,K2,q₁⟩
theorem se_tuple {m:MEs} (ih:SemL d cl m):A8 d cl (.tuple m):=fun {w h₀ A env vs W st s fs Q X e} x hc q=>by
 refine onTuple_e hc fun as k pos hc=>and2 hc fun h1 h2=>?_
 have h2:=Nat.blt_eq.mp h2
 refine wpAny_Tuple (wpAny_mono (ih x h1 q) (fun us s₁ p=>?_) fun Z Z p=>p)
 obtain ⟨hl,W₁,st₁,l,G,S,g,r,hw,q₁⟩:=p
 refine ⟨by exact (zgw (i:=1000001) (j:=1000) (k:=0) (l:=0) (zg (b:=0) (i:=1) (j:=1000) (k:=1000000) (l:=0) (zg (c:=0) (i:=0) (j:=0) (k:=1) (l:=1000) (zq hl) h2) (sizeM)) rfl),?_⟩
 have k:∀ b o,s₁.heap.get? b=some o->(s₁.heap.push {cls:=.type "tuple",data:=.seq us.toArray}).get? b=some o:=fun b o e=>Heap.get?_push_of_some _ e
 obtain ⟨G',S'⟩:=G.grow k
 have t:TupD (s₁.heap.push {cls:=.type "tuple",data:=.seq us.toArray}) s₁.heap.objs.size us.toArray:=⟨_,Heap.get?_push_size _ rfl,rfl,rfl,_,rfl⟩
 exact ⟨W₁,st₁,mkTup l,G',S.trans S',g,mk_c (fun o=>VRep h₀ W₁ _ (match o with | some g=>AV.g (.tup g) | none=>.tup l) _) (fun gs hg=>.g (.tup t ((grounds_rep r hg).mono S'.tup))) (.tup t (S'.vals r hw)),mk_c (fun o=>(match o with | some g=>AV.g (.tup g) | none=>.tup l).within st₁.nx=true) (fun Z Z=>rfl) hw,q₁⟩
theorem mul_list1 {w:World} {A:Around} {E:Value->Shared->Prop} {s:Shared} {l:Addr} {u:Value} {x:Int} {t:Tok} {k:Nat} {Q:Value->Shared->Prop} (ho:IsL s.heap l [u].toArray k) (hlo:0<=x) (hhi:x<=1000)
  (q:Q (.ref s.heap.objs.size) {s with heap:=s.heap.push {cls:=.type "list",data:=.seq (List.replicate x.toNat u).toArray}}):wpAny (Md w) A (binaryOp .Mult (.ref l) (.int x t)) Q E s:=by
 refine wpAny_binaryOp_repeat_ref (T := "list") (U := "int") (by decide) ⟨_,ho,rfl⟩ (fun s'=>typeIs_int s' x t) noFill_list_mul PySem.F.fills_int_mul PySem.F.slot_int_rmul repeat_list PySem.F.slot_int_index.lookup
  (call_meets PySem.F.slot_int_rmul (typeIs_int s x t) PySem.F.entry_int_rmul (PySem.F.args_int_rmul_2 _ _) (lm_int_rmul_list_any x t l [u].toArray k none #[])
   ⟨ho,rfl,⟨_,ho,rfl⟩,call_meets PySem.F.slot_list_mul ⟨_,ho,rfl⟩ PySem.F.entry_list_mul (PySem.F.args_list_mul_2 _ _)
    (lm_list_mul_any l [u].toArray k none #[] x t (by simp [Builtin.List.listFitsIndex]; lia) (by rw [show [u].toArray.size=1 from rfl]; lia) (by
     simp only [Builtin.List.listTooLong,sizeLine,show [u].toArray.size=1 from rfl,Nat.one_mul]
     rw [decide_eq_true_eq]
     lia))
    ⟨ho,?_⟩⟩)
 rw [listMul_foldl_if]
 have e:(List.replicate x.toNat [u].toArray.toList).flatten=List.replicate x.toNat u:=by
  generalize x.toNat=n
  induction n with
  | zero=>rfl
  | succ n ih=>rw [List.replicate_succ,List.flatten_cons,ih]; rfl
 rw [e]
 exact q
theorem greps_replicate {h:Heap} {v:GV} {u:Value} (r:GRep h v u):∀ n:Nat,GReps h (List.replicate n v) (List.replicate n u)
 | 0=>.nil
 | n+1=>.cons r (greps_replicate r n)
end
section
variable {d:Nat} {cl:A7}
noncomputable def tyS:Ty->String
 | .int => "int" | .bool => "bool" | .tuple => "tuple" | .str => "str"
theorem isi_ok {w:World} {A:Around} {E:Value->Shared->Prop} {s:Shared} {h₀:Heap} {W:Wd} {st:St} {v:AV} {u:Value} {t:Ty} {Q:AV->St->Prop} (G:Good w h₀ W st s.heap) (r:VRep h₀ W s.heap v u) (q:isInstV t v fun b=>Q (.bool b) st) :
  wpAny (Md w) A (call (.builtin "isinstance") [u,.type (tyS t)]) (PostO w h₀ W st s Q) E s:=by
 cases t with
 | int=>obtain ⟨k,rfl,q⟩:=I6 q; exact VRep.int_e r fun t=>IsiPair.int_int ⟨W,st,_,G,G.refl,⟨rfl,rfl⟩,.bool _,rfl,q⟩
 | bool=>obtain ⟨k,rfl,q⟩:=I6 q; exact VRep.int_e r fun t=>IsiPair.int_bool ⟨W,st,_,G,G.refl,⟨rfl,rfl⟩,.bool _,rfl,q⟩
 | tuple=>obtain ⟨k,rfl,q⟩:=tupV_e q; exact VRep.tup_e r fun t Z=>t.elim fun o t=>IsiPair.tuple_tuple t.1 t.2.1 ⟨W,st,_,G,G.refl,⟨rfl,rfl⟩,.bool _,rfl,q⟩
 | str=>obtain ⟨k,rfl,q⟩:=strV_e q; exact VRep.str_e r fun t=>IsiPair.str_str ⟨W,st,_,G,G.refl,⟨rfl,rfl⟩,.bool _,rfl,q⟩
theorem se_isinst {m:ME} (ih:A8 d cl m) (t):A8 d cl (.isinst m t):=fun {w h₀ A env vs W st s fs Q X e} x hc q=>by
 refine onFn_e hc fun id p as pos hc=>two_e hc fun a b hc=>F7 hc fun ty p₂ hc=>and4 hc fun h0 h3 h1 h2=>?_
 refine wpAny_Call_Name_kw (gBlt_ok x.F x.G x.fx h0 (v:=.builtin "isinstance") rfl (by decide) ?_)
 refine K6 (P:=fun Z=>True) (by rw [H9,h1]; rfl) (fun h p=>keeps_V _ rfl h p) ?_
 refine wpAny_items_cons ((ih x h2 q).to fun W' st' s' v u G S g r hw q'=>?_) (K7 h1)
 have x':=x.step G S
 refine wpAny_items_cons (gBlt_ok x'.F x'.G x'.fx h3 (v:=.type (tyS t)) (by cases t<;>rfl) (by cases t<;>decide) ?_) rfl
 refine Calls.spliced_nil ⟨trivial,?_⟩
 exact wpAny_mono (isi_ok G r q') (fun u₂ s₂ p=>PostE.after S g p) fun Z Z p=>p
theorem se_dict0:A8 d cl .dict0:=fun {w h₀ A env vs W st s fs Q X e} x hc q=>by
 refine onDict_e hc fun ks es pos hc=>on0_e hc fun hc=>on0_e hc fun Z=>?_
 rw [eval_Dict_empty]
 refine wpAny_bind (wpAny_standAt ?_)
 unfold newDict
 refine wpAny_newObj_type ?_
 have k:∀ b o,s.heap.get? b=some o->(s.heap.push {cls:=.type "dict",data:=.dict #[]}).get? b=some o:=fun b o e=>Heap.get?_push_of_some _ e
 have hd:(s.heap.push {cls:=.type "dict",data:=.dict #[]}).DictOf (intKind pw w) s.heap.objs.size []:=Heap.DictOf.new s.heap
 obtain ⟨G',S'⟩:=x.G.alloc (o:=.di []) (a:=s.heap.objs.size) (d:=s.heap.objs.size) k (G7 (Nat.le_refl _)) (G7 (Nat.le_refl _)) (by
  refine ⟨Wd.add_d.trans Wd.add_a.symm,[],?_,.nil⟩
  rw [Wd.add_a]; exact hd) trivial
 exact ⟨_,_,.obj st.nx,G',S',⟨rfl,rfl⟩,objNew,K2,q⟩
theorem se_listOf {m:ME} (ih:A8 d cl m):A8 d cl (.listOf m):=fun {w h₀ A env vs W st s fs Q X e} x hc q=>by
 refine onB1_e hc fun id p a pos h0 h1 h2=>?_
 refine call1 ih x h0 (f:=.type "list") rfl (by decide) rfl h1 h2 q fun W' st' s' v u G r hw q'=>?_
 obtain ⟨i,rfl,q'⟩:=objV_e q'
 obtain ⟨l,hi,q'⟩:=glO_e q'
 have q':=cB q'
 refine VRep.obj_e r ?_
 obtain ⟨hd,vs',n,hI,rp⟩:=G.rep i _ hi
 refine call_list_seq (W'.a i) (.inl rfl) hI rfl rfl (fun h' c' k hn=>?_) (Nat.le_trans (zll (zqs rp.length) q'.1) sizeM)
 have kt:∀ a it,TupD s'.heap a it->TupD h' a it:=fun a it x=>x.imp fun o y=>⟨k _ _ y.1,y.2⟩
 obtain ⟨G',S'⟩:=G.newList (o:=.gl l) (vs:=vs') k (G7 (Nat.le_refl _)) hn (fun W' hW=>.inl ⟨l,rfl,rp.mono kt⟩) trivial
 exact ⟨_,_,.obj st'.nx,G',S',⟨rfl,rfl⟩,objNew,K2,q'.2⟩
theorem SRep.length {h₀ h:Heap} {W:Wd} {l:List (List Nat × AV)} {kvs:List (Str × Value)} (r:SRep h₀ W h l kvs):kvs.length=l.length:=by
 induction r with
 | nil=>rfl
 | cons _ _ ih=>exact congrArg Nat.succ ih
theorem se_dictOf {m:ME} (ih:A8 d cl m):A8 d cl (.dictOf m):=fun {w h₀ A env vs W st s fs Q X e} x hc q=>by
 refine onB1_e hc fun id p a pos h0 h1 h2=>?_
 refine call1 ih x h0 (f:=.type "dict") rfl (by decide) rfl h1 h2 q fun W' st' s' v u G r hw q'=>?_
 refine byG fun G_ k_=>?_
 obtain ⟨i,rfl,q'⟩:=objV_e q'
 obtain ⟨l,hi,q'⟩:=dsO_e q'
 have q':=cB q'
 refine k_ ?_
 refine VRep.obj_e r ?_
 obtain ⟨hd,kvs,hD,rp⟩:=G.rep i _ hi
 refine kt_call_dict (own_sys x.fx (G.own0 hi)) hD (Nat.le_trans (zll (zq rp.length) q'.1) sizeM) fun h' hd' hs=>?_
 have k:∀ b o,s'.heap.get? b=some o->h'.get? b=some o:=fun b o e=>by
  rw [hs.2 b (Nat.ne_of_lt (Heap.lt_size e))]; exact Heap.get?_push_of_some _ e
 have kt:∀ a it,TupD s'.heap a it->TupD h' a it:=fun a it x=>x.imp fun o y=>⟨k _ _ y.1,y.2⟩
 obtain ⟨G',S'⟩:=G.alloc (o:=.ds l) (a:=s'.heap.objs.size) (d:=s'.heap.objs.size) k (G7 (Nat.le_refl _)) (G7 (Nat.le_refl _)) (by
  refine ⟨Wd.add_d.trans Wd.add_a.symm,kvs,?_,rp.mono kt (fun j lt=>if_neg (Nat.ne_of_lt lt)) (G.inn hi)⟩
  rw [Wd.add_a]; exact hd') ((G.inn hi).mono (Nat.le_succ _))
 exact ⟨_,_,.obj st'.nx,G',S',⟨rfl,rfl⟩,objNew,K2,q'.2⟩
end
section
variable {prog:Program} {w:World} {A:Around} {E:Value->Shared->Prop} {s:Shared} {K:Type} [DecidableEq K] {knd:PySem.KeyKind prog w K}
theorem iadd_dict {d:Addr} {kvs:List (K × Value)} {R:Result->Shared->Prop} (hh:A.handled=none) (lo:(d==sysModules)=false) (hd:s.heap.DictOf knd d kvs) (hn:kvs.length<=sizeLine)
  (h:∀ h' tk acc' c',(∀ b o,s.heap.get? b=some o->h'.get? b=some o)->h'.get? s.heap.objs.size=some {cls:=.type "list",data:=.seq acc' c'}->ItemsOf (fun i v=>∃ k x,kvs[i]?=some (k,x)/\knd.is k v=true) acc' kvs.length->R (.ok (.ret (.ref s.heap.objs.size))) {s with heap:=h',toks:=tk}) :
  codeAny (model prog w) A (.builtin "list.__iadd__" ⟨[.ref s.heap.objs.size,.ref d],[]⟩) R {s with heap:=s.heap.push (seqObj "list" #[] 0)}:=by
 refine byG fun G_ k_=>?_
 obtain ⟨ep,hat⟩:=hd.dictAt
 have hlt:d < s.heap.objs.size:=by obtain ⟨o,_,_,ho,_⟩:=hd; exact Heap.lt_size ho
 refine k_ ?_
 refine codeAny_builtin entry_list_iadd' ?_
 show wpAny _ _ (Builtin.List.listExtendWith (.ref s.heap.objs.size) (.ref d) (.ref s.heap.objs.size)) _ _ {s with heap:=s.heap.push (seqObj "list" #[] 0)}
 rw [Around.under_plainId (by decide +kernel)]
 have KD:=kdl_dict (knd:=knd) (d:=d) (kvs:=kvs) (ep:=ep) lo
 exact kdl_extend (s:={s with heap:=s.heap.push (seqObj "list" #[] 0)}) KD hh (KD.keep _ _ hat fun b Z o e=>Heap.get?_push_of_some _ e) _ (Nat.ne_of_gt hlt) (Nat.ne_of_gt hlt) _ 0 (Heap.get?_push_size _ rfl) (fun h' tk acc' c' hk hS' hacc=>
  h h' tk acc' c' (fun b o e=>hk b o (Nat.ne_of_lt (Heap.lt_size e)) (Heap.get?_push_of_some _ e)) hS' hacc) hn
theorem collect_dict {d:Addr} {kvs:List (K × Value)} {Q:List Value->Shared->Prop} (hh:A.handled=none) (lo:(d==sysModules)=false) (hd:s.heap.DictOf knd d kvs) (hn:kvs.length<=sizeLine)
  (h:∀ h' tk (vs:List Value),(∀ b o,s.heap.get? b=some o->h'.get? b=some o)->vs.length=kvs.length->(∀ (j:Nat) v,vs[j]?=some v->∃ k x,kvs[j]?=some (k,x)/\knd.is k v=true)->Q vs {s with heap:=h',toks:=tk}) :
  wpAny (model prog w) A (collect (.ref d)) Q E s:=by
 unfold collect
 refine wpAny_bind (wpAny_runValue (codeAny_builtin entry_proto_collect' ?_))
 show wpAny _ _ (do again (.builtin "list.__iadd__" ⟨[<- newList [],.ref d],[]⟩)) _ _ s
 refine wpAny_bind (wpAny_newList (wpAny_pure ⟨Code.quiet_builtin _ (by decide +kernel),iadd_dict hh lo hd hn fun h' tk acc' c' hk hS' hacc=>?_⟩))
 show wpAny (model prog w) A (do
   let o <- load s.heap.objs.size
   match o.data with
   | .seq xs _=>pure xs.toList
   | _=>unsupported "internal:collect") Q E {s with heap:=h',toks:=tk}
 refine wpAny_bind (wpAny_load hS' ?_)
 show wpAny _ _ (pure acc'.toList) Q E _
 exact wpAny_pure (h h' tk acc'.toList hk (by rw [Array.length_toList]; exact hacc.1) fun j v e=>hacc.2 j v ((Array.getElem?_toList)▸e))
theorem sorted_dict {d:Addr} {kvs:List (Int × Value)} {Q:Value->Shared->Prop} (hh:A.handled=none) (lo:(d==sysModules)=false) (hd:s.heap.DictOf (intKind prog w) d kvs) (h64:kvs.length < 64)
  (h:∀ h' tk a (vs:List Value) (ns:List Int) n,(∀ b o,s.heap.get? b=some o->h'.get? b=some o)->s.heap.get? a=none->IsL h' a vs.toArray n->IntsAre vs ns->ns.Perm (kvs.map (·.1))->ns.Pairwise (·<=·)->Q (.ref a) {s with heap:=h',toks:=tk}) :
  wpAny (model prog w) A (call (.builtin "sorted") [.ref d]) Q E s:=by
 have:=sizeM
 refine Calls.call_function_entry kind_sorted plain_sorted entry_sorted (args_sorted1 _) ?_
 unfold Builtin.«sorted»
 refine wpAny_bind (m:=checkCount "sorted" 1 1 _) (wpAny_pure ?_)
 refine wpAny_bind (collect_dict hh lo hd (by exact (zgw (i:=1000001) (j:=64) (k:=0) (l:=0) (zg (b:=0) (i:=1) (j:=64) (k:=1000000) (l:=0) h64 this) rfl)) fun h₁ tk vs k hl hv=>?_)
 have hI:IntsAre vs (kvs.map (·.1)):=kdy_ints (by rw [hl,List.length_map]) fun j v hj=>by
  obtain ⟨k,x,hx,hk⟩:=hv j v hj
  obtain ⟨t,rfl⟩:=Value.isInt_shape hk
  exact ⟨k,by rw [List.getElem?_map,hx]; rfl,t,rfl⟩
 refine wpAny_bind (wpAny_newList ?_)
 have hoL:(h₁.push (seqObj "list" vs.toArray 0)).get? h₁.objs.size=some (seqObj "list" vs.toArray 0):=Heap.get?_push_size _ rfl
 refine wpAny_bind (wpAny_holding (wpAny_call_entry slot_list_sort ⟨_,hoL,rfl⟩ entry_list_sort (list_sort_tree hoL hI (by exact (zg (c:=0) (i:=0) (j:=0) (k:=1) (l:=64) (zq hl) h64)) fun out ns' a1 a2 a3=>⟨_,rfl,?_⟩) (args_list_sort _)))
 refine wpAny_pure ⟨_,rfl,?_⟩
 obtain ⟨e,he⟩:=sortedHeap_at (out:=out) hoL
 refine h _ _ h₁.objs.size out.toList ns' e (fun b o hb=>?_) ?_ ?_ a1 a2 a3
 ·have hb':=k b o hb
  rw [sortedHeap_old (Nat.ne_of_lt (Heap.lt_size hb')) (by rw [size_push']; exact Nat.lt_succ_of_lt (Heap.lt_size hb'))]
  exact Heap.get?_push_of_some _ hb'
 ·cases hq:s.heap.get? h₁.objs.size with
  | none=>rfl
  | some o=>exact absurd (Heap.lt_size (k _ _ hq)) (Nat.lt_irrefl _)
 ·rw [Array.toArray_toList]; exact he
end
theorem insInt_if (k a:Int) (r:List Int):insInt k (a::r)=if k<=a then k::a::r else a::insInt k r:=rfl
theorem insInt_perm (k:Int) (l:List Int):(insInt k l).Perm (k::l):=by
 induction l with
 | nil=>exact .refl _
 | cons a r ih=>
  rw [insInt_if]
  by_cases h:k<=a
  ·rw [if_pos h]
  ·rw [if_neg h]; exact (ih.cons a).trans (.swap k a r)
theorem G5 (l:List Int):(K1 l).Perm l:=by
 induction l with
 | nil=>exact .refl _
 | cons a r ih=>exact (insInt_perm a _).trans (ih.cons a)
theorem insInt_sorted (k:Int) {l:List Int} (h:l.Pairwise (·<=·)):(insInt k l).Pairwise (·<=·):=by
 induction h with
 | nil=>exact .cons (fun Z h=>nomatch h) .nil
 | @cons a r h1 h2 ih=>
  rw [insInt_if]
  by_cases hk:k<=a
  ·rw [if_pos hk]
   exact .cons (fun b hb=>(List.mem_cons.mp hb).elim (fun e=>e▸hk) fun hb=>Int.le_trans hk (h1 b hb)) (.cons h1 h2)
  ·rw [if_neg hk]
   exact .cons (fun b hb=>(List.mem_cons.mp ((insInt_perm k r).mem_iff.mp hb)).elim (fun e=>e▸(Int.le_of_lt (Int.not_le.mp hk))) (h1 b)) ih
theorem sortInts_sorted (l:List Int):(K1 l).Pairwise (·<=·):=by
 induction l with
 | nil=>exact .nil
 | cons a r ih=>exact insInt_sorted a ih
theorem sorted_unique {a b:List Int} (h:a.Perm b) (ha:a.Pairwise (·<=·)) (hb:b.Pairwise (·<=·)):a=b:=
 List.Perm.eq_of_pairwise (fun Z Z Z Z h1 h2=>Int.le_antisymm h1 h2) ha hb h
theorem ints_rep {h:Heap} {vs:List Value} {ns:List Int} (r:IntsAre vs ns):GReps h (ns.map .int) vs:=by
 induction r with
 | nil=>exact .nil
 | cons _ _ _ ih=>exact .cons (.int _ _) ih
theorem IRep.keys {l:List (Int × Int)} {kvs:List (Int × Value)} (r:IRep l kvs):kvs.map (·.1)=l.map (·.1):=by
 induction r with
 | nil=>rfl
 | cons _ ih=>exact congrArg _ ih
theorem IRep.length {l:List (Int × Int)} {kvs:List (Int × Value)} (r:IRep l kvs):kvs.length=l.length:=by
 induction r with
 | nil=>rfl
 | cons _ ih=>exact congrArg Nat.succ ih
section
variable {d:Nat} {cl:A7}
theorem se_sorted {m:ME} (ih:A8 d cl m):A8 d cl (.sorted m):=fun {w h₀ A env vs W st s fs Q X e} x hc q=>by
 refine onB1_e hc fun id p a pos h0 h1 h2=>?_
 refine call1 ih x h0 (f:=.builtin "sorted") rfl (by decide) rfl h1 h2 q fun W' st' s' v u G r hw q'=>?_
 refine byG fun G_ k_=>?_
 obtain ⟨i,rfl,q'⟩:=objV_e q'
 obtain ⟨l,hi,q'⟩:=diO_e q'
 have q':=cB q'
 refine k_ ?_
 refine VRep.obj_e r ?_
 refine byG fun G_ k_=>?_
 obtain ⟨hd,kvs,hD,rp⟩:=G.rep i _ hi
 refine k_ ?_
 refine sorted_dict x.N.handled (own_sys x.fx (G.own0 hi)) hD (zlt (zq rp.length) q'.1) fun h' tk b vs' ns n k hb hI hi' hp hs=>?_
 rw [rp.keys] at hp
 rw [sorted_unique (hp.trans (G5 _).symm) hs (sortInts_sorted _)] at hi'
 obtain ⟨G',S'⟩:=G.newList (o:=.gl ((K1 (l.map (·.1))).map .int)) (vs:=vs') k hb hI (fun W' hW=>.inl ⟨_,rfl,ints_rep hi'⟩) trivial
 exact ⟨_,_,.obj st'.nx,G',S',⟨rfl,rfl⟩,objNew,K2,q'.2⟩
end
set_option tactic.hygienic true
theorem noSlice {sl:Expr} {o i:Value} (h:notSl sl=true):subscripted sl false o i=operate [o,i] (getItem o i):=by
 cases sl with
 | Slice=>cases h
 | _=>rfl
theorem seqIdx {k:Int} {n:Nat} (h:0<=ix k n) (hl:(ix k n).toNat < n):seqIndex? k n=some (ix k n).toNat:=by
 show (if (decide (0<=ix k n)&&decide (ix k n < (n:Int)))=true then some (ix k n).toNat else none)=_
 rw [if_pos]
 simp only [Bool.and_eq_true,decide_eq_true_eq]
 lia
section
variable {w:World} {A:Around} {E:Value->Shared->Prop} {s:Shared} {h₀:Heap} {W:Wd} {st:St}
theorem item_lst {l:List Value} {a:Addr} {k:Int} {t:Tok} {u:Value} {n:Nat} {Q:Value->Shared->Prop} (hl:IsL s.heap a l.toArray n) (hk:ixOk k l.length) (hu:l[(ix k l.length).toNat]?=some u) (h:Q u s) :
  wpAny (Md w) A (getItem (.ref a) (.int k t)) Q E s:=by
 obtain ⟨h1,h2,h3⟩:=hk
 unfold ix at h3 hu
 split at h3
 ·rename_i hk
  rw [if_pos hk] at hu
  exact wpAny_getItem_list_neg hl.isList hk (by rw [List.size_toArray]; lia) (by lia) (by rw [List.size_toArray]; simpa using hu) h
 ·rename_i hk
  rw [if_neg hk] at hu
  exact wpAny_getItem_list hl.isList (by exact h3) (by lia) ((List.getElem?_toArray ..).trans (hu)) h
theorem subG_r {h:Heap} {l:List GV} {vs:List Value} {k:Int} {Q:AV->Prop} (rp:GReps h l vs) (q:subG l k Q):∃ v u,(ixOk k vs.length/\vs[(ix k vs.length).toNat]?=some u)/\GRep h v u/\Q (.g v):=by
 refine byG fun G_ k_=>?_
 obtain ⟨hk,q⟩:=cD q
 obtain ⟨v,hv,q⟩:=ofO_c q
 obtain ⟨u,hu,r⟩:=rp.get hv
 refine k_ ?_
 rw [rp.length] at hk hu
 exact ⟨v,u,⟨hk,hu⟩,r,q⟩
theorem subA_r {h:Heap} {l:List AV} {vs:List Value} {k:Int} {n:Nat} {Q:AV->Prop} (rp:VReps h₀ W h l vs) (hw:A5 n l=true) (q:subA l k Q):∃ v u,(ixOk k vs.length/\vs[(ix k vs.length).toNat]?=some u)/\VRep h₀ W h v u/\v.within n=true/\Q v:=by
 refine byG fun G_ k_=>?_
 obtain ⟨hk,q⟩:=cD q
 obtain ⟨v,hv,q⟩:=ofO_c q
 obtain ⟨u,hu,r⟩:=rp.get hv
 refine k_ ?_
 rw [rp.length] at hk hu
 exact ⟨v,u,⟨hk,hu⟩,r,withinAll_iff.mp hw v (List.mem_of_getElem? hv),q⟩
theorem item_tup {value slice:Expr} {vs:List Value} {a:Addr} {k:Int} {t:Tok} {u:Value} {Q:Value->Shared->Prop} (tt:TupD s.heap a vs.toArray) (hs:notSl slice=true) (hk:ixOk k vs.length/\vs[(ix k vs.length).toNat]?=some u) (h:Q u s):wpAny (Md w) A (subscriptTail value slice (.ref a) (.int k t)) Q E s:=by
 refine byG fun G_ k_=>?_
 obtain ⟨⟨h1,h2,h3⟩,hu⟩:=hk
 have hlt:(ix k vs.length).toNat < vs.length:=(List.getElem?_eq_some_iff.mp hu).1
 refine k_ ?_
 exact item_tupleT tt.isTup (Int.le_trans (by decide) h1) (Int.lt_of_le_of_lt h2 (by decide)) (seqIdx h3 hlt) hu h (noSlice hs)
theorem sub_ok {value slice:Expr} {o i:AV} {uo ui:Value} {Q:AV->Prop} (G:Good w h₀ W st s.heap) (hs:notSl slice=true) (ro:VRep h₀ W s.heap o uo) (ho:o.within st.nx=true) (ri:VRep h₀ W s.heap i ui) (q:subV st o i Q) :
  wpAny (Md w) A (subscriptTail value slice uo ui) (fun u' s'=>∃ x tk,s'={s with toks:=tk}/\VRep h₀ W s.heap x u'/\x.within st.nx=true/\Q x) E s:=by
 obtain ⟨k,rfl,q⟩:=I6 q
 refine VRep.int_e ri fun t=>?_
 refine byG fun G_ k_=>?_
 cases o with
 | g x=>cases x with
  | tup l=>exact k_ (VRep.tup_e ro fun tt rp=>(subG_r rp q).elim fun v y=>y.elim fun u y=>item_tup tt hs y.1 ⟨.g v,s.toks,rfl,.g y.2.1,rfl,y.2.2⟩)
  | _=>exact False.elim q
 | tup l=>
  cases ro with | tup tt rp=>
  exact k_ ((subA_r rp ho q).elim fun v y=>y.elim fun u y=>item_tup tt hs y.1 ⟨v,s.toks,rfl,y.2.1,y.2.2⟩)
 | obj a=>
  have q:(match st.get a with
   | some (.gl l)=>subG l k Q
   | some (.ol l)=>subA l k Q
   | some (.di l)=>∃ v,E2 k l=some v/\Q (.i v)
   | _=>False):=q
  cases hi:st.get a with
  | none=>rw [hi] at q; exact False.elim q
  | some o=>
   rw [hi] at q
   have r:=G.rep a _ hi
   cases o with
   | gl l=>
    obtain ⟨hd,vs,n,hI,rp⟩:=r
    exact k_ (VRep.obj_e ro ((subG_r rp q).elim fun v y=>y.elim fun u y=>tail_any hI.isList.typeIs PySem.F.slot_list_getitem.lookup (item_lst hI y.1.1 y.1.2 ⟨.g v,s.toks,rfl,.g y.2.1,rfl,y.2.2⟩) (noSlice hs)))
   | ol l=>
    obtain ⟨hd,vs,n,hI,rp⟩:=r
    exact k_ (VRep.obj_e ro ((subA_r rp (G.inn hi) q).elim fun v y=>y.elim fun u y=>tail_any hI.isList.typeIs PySem.F.slot_list_getitem.lookup (item_lst hI y.1.1 y.1.2 ⟨v,s.toks,rfl,y.2.1,y.2.2⟩) (noSlice hs)))
   | di l=>
    obtain ⟨hd,kvs,hm,r⟩:=r
    obtain ⟨v,hv,q⟩:=q
    obtain ⟨t',ht⟩:=r.at.1 v hv
    exact k_ (VRep.obj_e ro (tail_any hm.typeIs PySem.F.slot_dict_getitem.lookup (wpAny_getItem_of (knd:=intKind pw w) (k:=k) (by simp [intKind,Value.isInt]) hm.mapOf ht ⟨.i v,s.toks+1,rfl,.g (.int _ _),rfl,q⟩) (noSlice hs)))
   | _=>exact False.elim q
 | _=>exact False.elim q
theorem clip_ex (n:Nat) (j:Int):∃ a:Nat,max 0 (min (if j < 0 then j+n else j) (n:Int))=a/\a<=n/\(j < 0->a=n - (-j).toNat)/\(0<=j->a=min j.toNat n):=by
 by_cases hj:j < 0
 ·rw [if_pos hj]
  obtain ⟨m,e⟩:=Int.exists_eq_neg_ofNat (Int.le_of_lt hj)
  refine ⟨n - m,?_,Nat.sub_le _ _,fun Z=>by rw [e,Int.neg_neg,Int.toNat_natCast],fun h=>absurd hj (Int.not_lt.mpr h)⟩
  rw [Int.min_eq_left (Int.add_le_of_le_sub_right (by rw [Int.sub_self]; exact Int.le_of_lt hj)),e,Int.add_comm,<- Int.sub_eq_add_neg,<- Int.toNat_sub,Int.ofNat_toNat,Int.max_comm]
 ·rw [if_neg hj]
  obtain ⟨m,e⟩:=Int.eq_ofNat_of_zero_le (Int.not_lt.mp hj)
  refine ⟨min m n,?_,Nat.min_le_right _ _,fun h=>absurd h hj,fun Z=>by rw [e,Int.toNat_natCast]⟩
  rw [e]
  rcases Nat.le_total m n with h | h
  ·rw [Nat.min_eq_left h,Int.min_eq_left (Int.ofNat_le.mpr h),Int.max_eq_right (Int.natCast_nonneg _)]
  ·rw [Nat.min_eq_right h,Int.min_eq_right (Int.ofNat_le.mpr h),Int.max_eq_right (Int.natCast_nonneg _)]
theorem pick_eq (up:Bool) (k:Int) (items:List Value):slicePick items.toArray (match up with | true=>none | false=>some k) (match up with | true=>some k | false=>none) none=(slc up k items).toArray:=by
 have key:∀ a b:Nat,a<=items.length->b<=items.length->sliceRange (a:Int) (b:Int) 1=(List.range (b - a)).map (a+·)->(List.filterMap (fun x=>items.toArray[x]?) (sliceRange (a:Int) (b:Int) 1)).toArray=((items.drop a).take (b - a)).toArray:=fun a b Z Z e=>by
  rw [e,pick_run]
 obtain ⟨a,e1,e2,e3,e4⟩:=clip_ex items.length k
 unfold slicePick sliceBounds
 cases up with
 | true=>
  simp only [Option.getD_none,show (1:Int) > 0 by decide,if_true,List.size_toArray]
  rw [e1]
  have:=key 0 a (Nat.zero_le _) e2 (sliceRange_one 0 a)
  rw [show ((0:Nat):Int)=0 from rfl] at this
  rw [this]
  simp only [slc,takeTo,List.drop_zero,Nat.sub_zero]
  split
  ·rename_i hk; rw [e3 hk]
  ·rename_i hk; rw [e4 (Int.not_lt.mp hk)]; congr 1; rw [List.take_eq_take_iff]; simp
 | false=>
  simp only [Option.getD_none,show (1:Int) > 0 by decide,if_true,List.size_toArray]
  rw [e1]
  rw [key a items.length e2 (Nat.le_refl _) (sliceRange_one a _)]
  simp only [slc,dropFrom]
  rw [List.take_of_length_le (by simp)]
  split
  ·rename_i hk; rw [e3 hk]
  ·rename_i hk
   rw [e4 (Int.not_lt.mp hk)]
   rcases Nat.le_total k.toNat items.length with h | h
   ·rw [Nat.min_eq_left h]
   ·rw [Nat.min_eq_right h,List.drop_of_length_le h,List.drop_length]
end
noncomputable def loOf (up:Bool) (k:Int):Option Int:=match up with | true=>none | false=>some k
noncomputable def hiOf (up:Bool) (k:Int):Option Int:=match up with | true=>some k | false=>none
noncomputable def loV (up:Bool) (v:Value):Value:=match up with | true=>.none | false=>v
noncomputable def hiV (up:Bool) (v:Value):Value:=match up with | true=>v | false=>.none
noncomputable def loX (up:Bool) (u:Expr):Option Expr:=match up with | true=>none | false=>some u
noncomputable def hiX (up:Bool) (u:Expr):Option Expr:=match up with | true=>some u | false=>none
noncomputable def loT (up:Bool) (u:Int × Tok):Option (Int × Tok):=match up with | true=>none | false=>some u
noncomputable def hiT (up:Bool) (u:Int × Tok):Option (Int × Tok):=match up with | true=>some u | false=>none
theorem str_bounds (up:Bool) (k:Int) (n:Nat):∃ a b:Nat,a<=n/\b<=n/\a<=b/\Builtin.Str.strSliceIndices (loOf up k) (hiOf up k) 1 n=(List.range (b - a)).map (a+·)/\∀ (l:List Nat),l.length=n->(l.drop a).take (b - a)=slc up k l:=by
 obtain ⟨a,e1,e2,e3,e4⟩:=clip_ex n k
 unfold Builtin.Str.strSliceIndices
 cases up with
 | true=>
  refine ⟨0,a,Nat.zero_le _,e2,Nat.zero_le _,?_,fun l hl=>?_⟩
  ·simp only [loOf,hiOf,show (1:Int) > 0 by decide,if_true]
   rw [e1]; exact sliceRange_one 0 a
  ·simp only [slc,takeTo,List.drop_zero,Nat.sub_zero]
   split
   ·rename_i hk; rw [e3 hk,hl]
   ·rename_i hk; rw [e4 (Int.not_lt.mp hk),List.take_eq_take_iff,hl]; simp
 | false=>
  refine ⟨a,n,e2,Nat.le_refl _,e2,?_,fun l hl=>?_⟩
  ·simp only [loOf,hiOf,show (1:Int) > 0 by decide,if_true]
   rw [e1]; exact sliceRange_one a n
  ·simp only [slc,dropFrom]
   rw [List.take_of_length_le (by simp [hl])]
   split
   ·rename_i hk; rw [e3 hk,hl]
   ·rename_i hk
    rw [e4 (Int.not_lt.mp hk)]
    rcases Nat.le_total k.toNat n with h | h
    ·rw [Nat.min_eq_left h]
    ·rw [Nat.min_eq_right h,List.drop_of_length_le (by exact (zq hl)),List.drop_of_length_le (by exact (zll (zq hl) h))]
theorem GReps.drop {h:Heap} (n:Nat):∀ {l:List GV} {vs:List Value},GReps h l vs->GReps h (l.drop n) (vs.drop n):=by
 induction n with
 | zero=>exact fun r=>r
 | succ n ih=>
  intro l vs r
  cases r with
  | nil=>exact .nil
  | cons _ r=>exact ih r
theorem GReps.take {h:Heap} (n:Nat):∀ {l:List GV} {vs:List Value},GReps h l vs->GReps h (l.take n) (vs.take n):=by
 induction n with
 | zero=>exact fun Z=>.nil
 | succ n ih=>
  intro l vs r
  cases r with
  | nil=>exact .nil
  | cons a r=>exact .cons a (ih r)
theorem VReps.drop {h₀ h:Heap} {W:Wd} (n:Nat):∀ {l:List AV} {vs:List Value},VReps h₀ W h l vs->VReps h₀ W h (l.drop n) (vs.drop n):=by
 induction n with
 | zero=>exact fun r=>r
 | succ n ih=>
  intro l vs r
  cases r with
  | nil=>exact .nil
  | cons _ r=>exact ih r
theorem VReps.take {h₀ h:Heap} {W:Wd} (n:Nat):∀ {l:List AV} {vs:List Value},VReps h₀ W h l vs->VReps h₀ W h (l.take n) (vs.take n):=by
 induction n with
 | zero=>exact fun Z=>.nil
 | succ n ih=>
  intro l vs r
  cases r with
  | nil=>exact .nil
  | cons a r=>exact .cons a (ih r)
theorem slc_p {α β:Type} {l:List α} {m:List β} {up:Bool} {k:Int} (P:List α->List β->Prop) (e:l.length=m.length) (ht:∀ n,P (l.take n) (m.take n)) (hd:∀ n,P (l.drop n) (m.drop n)):P (slc up k l) (slc up k m):=by
 cases up with
 | true=>
  show P (if k < 0 then l.take (l.length - (-k).toNat) else l.take k.toNat) (if k < 0 then m.take (m.length - (-k).toNat) else m.take k.toNat)
  rw [e]
  by_cases h:k < 0
  ·rw [if_pos h,if_pos h]; exact ht _
  ·rw [if_neg h,if_neg h]; exact ht _
 | false=>
  show P (if k < 0 then l.drop (l.length - (-k).toNat) else l.drop k.toNat) (if k < 0 then m.drop (m.length - (-k).toNat) else m.drop k.toNat)
  rw [e]
  by_cases h:k < 0
  ·rw [if_pos h,if_pos h]; exact hd _
  ·rw [if_neg h,if_neg h]; exact hd _
theorem GReps.slc {h:Heap} {l:List GV} {vs:List Value} (r:GReps h l vs) (up:Bool) (k:Int):GReps h (slc up k l) (slc up k vs):=
 slc_p (fun f g=>GReps h f g) r.length (fun n=>r.take n) fun n=>r.drop n
theorem VReps.slc {h₀ h:Heap} {W:Wd} {l:List AV} {vs:List Value} (r:VReps h₀ W h l vs) (up:Bool) (k:Int):VReps h₀ W h (slc up k l) (slc up k vs):=
 slc_p (fun f g=>VReps h₀ W h f g) r.length (fun n=>r.take n) fun n=>r.drop n
theorem slc_mem {α:Type} {l:List α} {up:Bool} {k:Int} {x:α} (h:x∈slc up k l):x∈l:=
 slc_p (fun f Z=>x∈f->x∈l) rfl (fun Z=>List.mem_of_mem_take) (fun Z=>List.mem_of_mem_drop) (m:=l) (up:=up) (k:=k) h
theorem isPart_lo (up:Bool) (k:Int) (t:Tok):IsPart (loV up (.int k t)) (loOf up k):=by
 cases up
 ·exact .int _ _
 ·exact .none
theorem isPart_hi (up:Bool) (k:Int) (t:Tok):IsPart (hiV up (.int k t)) (hiOf up k):=by
 cases up
 ·exact .none
 ·exact .int _ _
section
variable {w:World} {A:Around} {E:Value->Shared->Prop} {s:Shared} {h₀:Heap} {W:Wd} {st:St}
theorem GReps.base {h:Heap} (S:h₀.StaysIn h) {l:List GV} {vs:List Value} (r:GReps h₀ l vs):GReps h l vs:=r.mono fun a it x=>x.imp fun o y=>⟨S _ _ y.1,y.2⟩
theorem takeDrop_run {l:List Nat} {a m:Nat}:((List.range m).map (a+·)).filterMap (l.toArray[·]?)=(l.drop a).take m:=by
 induction m with
 | zero=>rfl
 | succ m ih=>
  rw [List.range_succ,List.map_append,List.filterMap_append,ih,List.take_add_one]
  congr 1
  simp only [List.map_cons,List.map_nil,List.getElem?_drop,List.getElem?_toArray]
  cases h:l[a+m]?<;>simp [h]
theorem slice_lst {value:Expr} {lower upper:Option Expr} {p:Pos} {up:Bool} {k:Int} {t:Tok} {Q:AV->St->Prop} {O:Obj} (G:Good w h₀ W st s.heap)
  (hO:{cls:=.type "slice",data:=.fields #[(loV up (.int k t)),(hiV up (.int k t)),.none]}=O) {vs:List Value} {a:Addr} {o':AO} (hl:s.heap.IsList a vs.toArray) (hz:vs.length<=1000000) (hin:o'.In st.nx)
  (hr:∀ W' h',(∀ a it,TupD s.heap a it->TupD h' a it)->(∀ j,j < st.nx->W'.a j=W.a j)->h₀.StaysIn h'->(∃ l,o'=.gl l/\GReps h' l (slc up k vs))\/(∃ l,o'=.ol l/\VReps h₀ W' h' l (slc up k vs)))
  (q:Q (.obj st.nx) (st.add o')):wpAny (Md w) A (subscriptTail value (.Slice lower upper none p) (.ref a) (.ref s.heap.objs.size)) (PostO w h₀ W st s Q) E {s with heap:=s.heap.push O}:=by
 have k1:∀ b o,s.heap.get? b=some o->(s.heap.push O).get? b=some o:=fun b o e=>Heap.get?_push_of_some _ e
 have hS:(s.heap.push O).IsSliceOf s.heap.objs.size (loV up (.int k t)) (hiV up (.int k t)) .none:=by
  subst hO; exact Heap.IsSliceOf.new ..
 have hl':(s.heap.push O).IsList a vs.toArray:=hl.push O
 refine tail_any (ops:=[.ref s.heap.objs.size,.ref a]) hl'.typeIs PySem.F.slot_list_getitem.lookup (wpAny_getItem_list_slice hl' hS (isPart_lo up k t) (isPart_hi up k t) .none ((by decide)) ?_ (Nat.le_trans hz sizeM)) rfl
 rw [show slicePick vs.toArray (loOf up k) (hiOf up k) none=(slc up k vs).toArray from pick_eq up k vs]
 have k2:∀ b o,s.heap.get? b=some o->((s.heap.push O).push {cls:=.type "list",data:=.seq (slc up k vs).toArray}).get? b=some o:=fun b o e=>Heap.get?_push_of_some _ (k1 b o e)
 obtain ⟨G',S'⟩:=G.newList (h':=(s.heap.push O).push {cls:=.type "list",data:=.seq (slc up k vs).toArray}) (o:=o') (a:=(s.heap.push O).objs.size) (vs:=slc up k vs) k2 (G7 (by rw [Heap.size_push]; exact Nat.le_succ _)) (Heap.get?_push_size _ rfl) (fun W' hW=>hr W' _ (fun a it x=>x.imp fun o y=>⟨k2 _ _ y.1,y.2⟩) hW fun b o e=>k2 b o (G.stays b o e)) hin
 exact ⟨_,_,.obj st.nx,G',S',⟨rfl,rfl⟩,objNew,K2,q⟩
theorem slice_str {value:Expr} {lower upper:Option Expr} {p:Pos} {up:Bool} {k:Int} {t tx:Tok} {l:List Nat} {Q:AV->St->Prop} {O:Obj} (G:Good w h₀ W st s.heap)
  (hO:{cls:=.type "slice",data:=.fields #[(loV up (.int k t)),(hiV up (.int k t)),.none]}=O) (hz:l.length<=1000000) (q:Q (.s (slc up k l)) st) :
  wpAny (Md w) A (subscriptTail value (.Slice lower upper none p) (.str (A6 l) tx) (.ref s.heap.objs.size)) (PostO w h₀ W st s Q) E {s with heap:=s.heap.push O}:=by
 refine tail_any (ops:=[.ref s.heap.objs.size,.str (A6 l) tx]) (typeIs_str _ _ _) PySem.F.slot_str_getitem.lookup ?_ rfl
 refine wpAny_getItem_str_slice (l:=loT up (k,t)) (u:=hiT up (k,t)) (st:=none) ⟨O,Heap.get?_push_size _ (by subst hO; rfl),by subst hO; rfl,by subst hO; cases up<;>rfl⟩ rfl ?_
 refine byG fun G_ k_=>?_
 obtain ⟨a,b,ha,hb,hab,e1,e2⟩:=str_bounds up k (A6 l).length
 refine k_ ?_
 have ep:slicePicked (A6 l) (loT up (k,t)) (hiT up (k,t)) none=(List.range (b - a)).map (a+·):=by
  rw [<- e1]; unfold slicePicked; cases up<;>rfl
 have e3:=e2 l strOf_len.symm
 obtain ⟨G1,S1⟩:=G.grow (h':=s.heap.push O) fun b o e=>Heap.get?_push_of_some _ e
 have fin:∀ tk tt,PostO w h₀ W st s Q (.str (A6 (slc up k l)) tt) {s with heap:=s.heap.push O,toks:=tk}:=fun tk tt=>⟨W,st,.s _,G1,S1,⟨rfl,rfl⟩,.g (.str _ _),rfl,q⟩
 unfold sliceMade
 rw [ep]
 split
 ·rename_i hh
  simp only [Option.map_none,Option.getD_none,beq_self_eq_true,Bool.true_and,beq_iff_eq,List.length_map,List.length_range] at hh
  have:slc up k l=l:=by
   rw [<- e3,show a=0 from by omega,List.drop_zero,List.take_of_length_le (zll (zqs strOf_len) (by omega))]
  have f:=fin s.toks tx
  rw [this] at f
  exact f
 ·have:(((List.range (b - a)).map (a+·)).filterMap ((A6 l).cps[·]?)).toArray=(slc up k l).toArray:=by
   rw [<- e3]
   exact congrArg _ takeDrop_run
  rw [this]
  refine ⟨Nat.le_trans ?_ sizeM,fin _ _⟩
  show (slc up k l).toArray.size<=_
  rw [List.size_toArray,<- e3,List.length_take,List.length_drop]
  exact Nat.le_trans (Nat.le_trans (Nat.min_le_right _ _) (Nat.sub_le _ _)) hz
theorem slice_ok {value:Expr} {lower upper:Option Expr} {p:Pos} {o:AV} {uo:Value} {up:Bool} {k:Int} {t:Tok} {Q:AV->St->Prop} (G:Good w h₀ W st s.heap) (ro:VRep h₀ W s.heap o uo) (ho:o.within st.nx=true) (q:sliceV up st o (.g (.int k)) Q) :
  wpAny (Md w) A (subscriptTail value (.Slice lower upper none p) uo (.ref s.heap.objs.size)) (PostO w h₀ W st s Q) E
   {s with heap:=s.heap.push {cls:=.type "slice",data:=.fields #[(loV up (.int k t)),(hiV up (.int k t)),.none]}}:=by
 generalize hO:({cls:=.type "slice",data:=.fields #[(loV up (.int k t)),(hiV up (.int k t)),.none]}:Obj)=O
 obtain ⟨hk,q⟩:=cD q
 cases o with
 | g x=>cases x with
  | str l=>exact VRep.str_e ro fun tx=>slice_str G hO (cB q).1 (cB q).2
  | _=>exact False.elim q
 | frz l=>
  cases ro with | frz hl r=>
  exact slice_lst (o':=.gl (slc up k l)) G hO (hl.imp fun o y=>⟨G.stays _ _ y.1,y.2⟩) (zll (zqs r.length) (cB q).1) trivial (fun W' h' kt hW hs=>.inl ⟨_,rfl,(r.slc up k).base hs⟩) (cB q).2
 | obj i=>
  refine VRep.obj_e ro ?_
  have q:(match st.get i with
   | some (.gl l)=>chk (Nat.ble l.length 1000000) (Q (.obj st.nx) (st.add (.gl (slc up k l))))
   | some (.ol l)=>chk (Nat.ble l.length 1000000) (Q (.obj st.nx) (st.add (.ol (slc up k l))))
   | _=>False):=q
  cases hi:st.get i with
  | none=>rw [hi] at q; exact False.elim q
  | some o=>
   rw [hi] at q
   have r:=G.rep i _ hi
   cases o with
   | gl l=>
    obtain ⟨hd,vs,n,hI,rp⟩:=r
    exact slice_lst (o':=.gl (slc up k l)) G hO hI.isList (zll (zqs rp.length) (cB q).1) trivial (fun W' h' kt hW hs=>.inl ⟨_,rfl,(rp.slc up k).mono kt⟩) (cB q).2
   | ol l=>
    obtain ⟨hd,vs,n,hI,rp⟩:=r
    have hin:A5 st.nx (slc up k l)=true:=withinAll_iff.mpr fun v hv=>withinAll_iff.mp (G.inn hi) v (slc_mem hv)
    exact slice_lst (o':=.ol (slc up k l)) G hO hI.isList (zll (zqs rp.length) (cB q).1) hin (fun W' h' kt hW hs=>.inr ⟨_,rfl,(rp.slc up k).mono kt hW hin⟩) (cB q).2
   | _=>exact False.elim q
 | _=>exact False.elim q
end
section
variable {d:Nat} {cl:A7}
theorem se_sub {o i:ME} (iho:A8 d cl o) (ihi:A8 d cl i):A8 d cl (.sub o i):=fun {w h₀ A env vs W st s fs Q X e} x hc q=>by
 refine onSub_e hc fun v sl pos hc=>and3 hc fun h0 h1 h2=>?_
 refine Subscript_ ((iho x h1 q).to fun W' st' s' ov u G S g r hw q'=>?_)
 refine JE.on (ihi (x.step G S) h2 q') S g fun u₂ s₂ p=>?_
 obtain ⟨W₂,st₂,v₂,G₂,S₂,g₂,r₂,hw₂,q₂⟩:=p
 refine wpAny_mono (sub_ok G₂ h0 (S₂.val r hw) (E9 S₂.nx hw) r₂ q₂) (fun u₃ s₃ p=>?_) fun Z Z p=>p
 refine byG fun G_ k_=>?_
 obtain ⟨y,tk,rfl,ry,hy,qy⟩:=p
 refine k_ ?_
 exact ⟨W₂,st₂,y,G₂,S.trans S₂,⟨g₂.1.trans g.1,g₂.2.trans g.2⟩,ry,hy,qy⟩
theorem se_slice {o i:ME} (iho:A8 d cl o) (ihi:A8 d cl i) (up:Bool) {w:World} {h₀:Heap} {A:Around} {env:Env} {vs:A2} {W:Wd} {st:St} {s:Shared} {fs:List Env} {Q:AV->St->Prop} {X:St->Prop} {v u:Expr} {p pos:Pos}
  (x:H w h₀ A env vs W st s fs d) (h1:A9 w.params env.scope o v=true) (h2:A9 w.params env.scope i u=true)
  (q:vcE tabs cl X o vs st fun a st=>vcE tabs cl X i vs st fun b st=>sliceV up st a b Q) :
  JE w h₀ A fs W st s (eval (.Subscript v (.Slice (loX up u) (hiX up u) none p) pos) env) Q X:=by
 refine Subscript_ ((iho x h1 q).to fun W' st' s' ov uo G S g r hw q'=>?_)
 have fin:∀ W₂ st₂ v₂ u₂ (s₂:Shared),Good w h₀ W₂ st₂ s₂.heap->Step [] W' st' s'.heap W₂ st₂ s₂.heap->(s₂.gens=s'.gens/\s₂.os=s'.os)->VRep h₀ W₂ s₂.heap v₂ u₂->sliceV up st₂ ov v₂ Q ->
   wpAny (Md w) A (subscriptTail v (.Slice (loX up u) (hiX up u) none p) uo (.ref s₂.heap.objs.size)) (PostE w h₀ W st s Q) (PostX w h₀ fs none W st s X)
    {s₂ with heap:=s₂.heap.push {cls:=.type "slice",data:=.fields #[(loV up u₂),(hiV up u₂),.none]}}:=fun W₂ st₂ v₂ u₂ s₂ G₂ S₂ g₂ r₂ q₂=>by
  refine byG fun G_ k_=>?_
  obtain ⟨k,rfl,_⟩:=I6 q₂
  refine k_ ?_
  refine VRep.int_e r₂ fun t=>?_
  exact wpAny_mono (slice_ok (t:=t) G₂ (S₂.val r hw) (E9 S₂.nx hw) q₂) (fun u₃ s₃ p=>PostE.after (S.trans S₂) ⟨g₂.1.trans g.1,g₂.2.trans g.2⟩ p) fun Z Z p=>p
 cases up with
 | true=>
  refine wpAny_Slice ?_
  rw [evalPart_none]
  refine wpAny_pure ?_
  show wpAny _ _ (eval u env) _ _ _
  refine JE.on (ihi (x.step G S) h2 q') S g fun u₂ s₂ p=>?_
  obtain ⟨W₂,st₂,v₂,G₂,S₂,g₂,r₂,hw₂,q₂⟩:=p
  exact wpAny_pure (fin W₂ st₂ v₂ u₂ s₂ G₂ S₂ g₂ r₂ q₂)
 | false=>
  refine wpAny_Slice ?_
  show wpAny _ _ (eval u env) _ _ _
  refine JE.on (ihi (x.step G S) h2 q') S g fun u₂ s₂ p=>?_
  obtain ⟨W₂,st₂,v₂,G₂,S₂,g₂,r₂,hw₂,q₂⟩:=p
  rw [evalPart_none]
  refine wpAny_pure ?_
  exact wpAny_pure (fin W₂ st₂ v₂ u₂ s₂ G₂ S₂ g₂ r₂ q₂)
theorem se_upto {o i:ME} (iho:A8 d cl o) (ihi:A8 d cl i):A8 d cl (.upto o i):=fun {w h₀ A env vs W st s fs Q X e} x hc q=>by
 refine onSub_e hc fun v sl pos hc=>onSlice_e hc fun a b c p hc=>onNo_e hc fun hc=>onSome_e hc fun u hc=>onNo_e hc fun hc=>and2 hc fun h1 h2=>?_
 exact se_slice iho ihi true x h1 h2 q
theorem se_from {o i:ME} (iho:A8 d cl o) (ihi:A8 d cl i):A8 d cl (.from_ o i):=fun {w h₀ A env vs W st s fs Q X e} x hc q=>by
 refine onSub_e hc fun v sl pos hc=>onSlice_e hc fun a b c p hc=>onSome_e hc fun u hc=>onNo_e hc fun hc=>onNo_e hc fun hc=>and2 hc fun h1 h2=>?_
 exact se_slice iho ihi false x h1 h2 q
end
set_option tactic.hygienic false
theorem Kept.same {b:Addr} {h h':Heap} (k:Kept b h h') {o:Obj} (e:h.get? b=some o) (hd:∀ es n,o.data≠.dict es n):h'.get? b=some o:=
 (k o e).elim id fun q=>q.1.elim fun es q=>q.elim fun n q=>absurd q (hd es n)
noncomputable def Flat (v:AV) (u:Value):Prop:=∃ g,v=.g g/\∀ h,GRep h g u
noncomputable def ItV (w:World) (it:Addr) (l:List AV) (k:Nat) (h:Heap):Prop:=∃ (P:Nat->Value->Prop) (St:Nat->Heap->Prop),
 (∀ A':Around,A'.handled=none->Walks pw w A' it [it] [it] l.length P St)/\(∀ (j:Nat) u,P j u->∃ v,l[j]?=some v/\Flat v u)/\(∀ k h,St k h->∃ o vs,h.get? it=some o/\o.data=.fields vs)/\St k h
noncomputable def Src.ok:Src->Prop
 | .lst _ (.gl _)=>True
 | .lst _ (.ol _)=>True
 | .lst _ _=>False
 | .vals _=>True
noncomputable def ItAt (w:World) (W:Wd) (src:Src) (it:Addr) (k:Nat) (h:Heap):Prop:=match src with
 | .lst i _=>h.IsListIter it (W.a i) k
 | .vals l=>ItV w it l k h
theorem ItAt.keep {w:World} {W W':Wd} {src:Src} {it:Addr} {k:Nat} {h h':Heap} (x:ItAt w W src it k h) (e:∀ o,h.get? it=some o->h'.get? it=some o) (ea:∀ i o,src=.lst i o->W'.a i=W.a i):ItAt w W' src it k h':=by
 cases src with
 | lst i o=>
  obtain ⟨ob,h1,h2,h3⟩:=x
  refine ⟨ob,e _ h1,h2,?_⟩
  rw [ea i o rfl]; exact h3
 | vals l=>
  refine byG fun G_ k_=>?_
  obtain ⟨P,St,a1,a2,a3,a4⟩:=x
  refine k_ ?_
  exact ⟨P,St,a1,a2,a3,(a1 ⟨none,0,none,none,0⟩ rfl).frame k h h' a4 fun b hb o he=>by
   rw [List.mem_singleton.mp hb] at he ⊢; exact e o he⟩
theorem ItAt.data {w:World} {W:Wd} {src:Src} {it:Addr} {k:Nat} {h:Heap} (x:ItAt w W src it k h):∃ o vs,h.get? it=some o/\o.data=.fields vs:=by
 cases src with
 | lst i o=>obtain ⟨ob,h1,h2,h3⟩:=x; exact ⟨ob,_,h1,h3⟩
 | vals l=>obtain ⟨P,St,a1,a2,a3,a4⟩:=x; exact a3 _ _ a4
theorem G8 {β:Type} {n:Str} {b:β} {l:List (Str × β)} (h:l.lookup n=some b):(n,b)∈l:=by
 induction l with
 | nil=>cases h
 | cons p r ih=>
  have h:(match n==p.1 with | true=>some p.2 | false=>r.lookup n)=some b:=h
  cases e:n==p.1 with
  | true=>rw [e] at h; cases h; rw [beq_iff_eq.mp e]; exact .head _
  | false=>rw [e] at h; exact .tail _ (ih h)
section
variable {w:World} {h₀ h h':Heap} {W:Wd} {st:St} {it:Addr}
theorem Good.side (G:Good w h₀ W st h) (hno:¬ Own W st it) (h0:h₀.get? it=none) (hd:∀ x,¬ TupD h it x) (k:∀ b o,b≠it->h.get? b=some o->h'.get? b=some o) :
  Good w h₀ W st h'/\(∀ a x,TupD h a x->TupD h' a x):=by
 have kt:∀ a x,TupD h a x->TupD h' a x:=fun a x t=>by
  obtain ⟨o,e,c,dn,n,q⟩:=id t
  refine ⟨o,k a o (fun z=>?_) e,c,dn,n,q⟩
  subst z; exact hd _ t
 have ne:∀ i,(st.get i).isSome=true->W.a i≠it/\W.d i≠it:=fun i hi=>⟨fun z=>hno ⟨i,hi,.inl z.symm⟩,fun z=>hno ⟨i,hi,.inr z.symm⟩⟩
 refine ⟨{G with stays:=fun b o e=>k b o (fun z=>by subst z; rw [h0] at e; cases e) (G.stays b o e),rep:=fun i o e=>?_},kt⟩
 have n:=ne i (by rw [e]; rfl)
 exact (G.rep i o e).mono kt (fun Z Z=>rfl) rfl rfl (fun x=>k _ x n.1) (fun x=>k _ x n.2) (G.inn e)
theorem K9 (hd:∃ o vs,h.get? it=some o/\o.data=.fields vs):∀ x,¬ TupD h it x:=fun x t=>by
 obtain ⟨o',vs,e',d'⟩:=hd
 obtain ⟨o,e,_,_,n,q⟩:=t
 cases ((congrArg Obj.data (Option.some.inj (e'.symm.trans e))).symm.trans d').symm.trans q
structure Off (it:Addr) (env:Env) (fs:List Env):Prop where
 l:env.locals≠it
 c:∀ p∈env.cells,p.2≠it
 f:∀ e∈fs,e.frame≠some it
theorem Step.last {ex:List Addr} {W':Wd} {st':St} {h'':Heap} (x:Step ex W st h W' st' h') (hd:h.get? it=none) (k:∀ b o,b≠it->h'.get? b=some o->h''.get? b=some o) (kt:∀ a y,TupD h' a y->TupD h'' a y):Step ex W st h W' st' h'' where
 agree:=x.agree
 nx:=x.nx
 sub:=x.sub
 fresh:=x.fresh
 evo b hb ho o e:=by
  have ne:b≠it:=fun z=>by subst z; rw [hd] at e; cases e
  rcases x.evo b hb ho o e with q | ⟨q,sl,q'⟩
  ·exact .inl (k b _ ne q)
  ·exact .inr ⟨q,sl,k b _ ne q'⟩
 live b o e:=by
  refine byG fun G_ k_=>?_
  have ne:b≠it:=fun z=>by subst z; rw [hd] at e; cases e
  obtain ⟨o',e'⟩:=x.live b o e
  refine k_ ?_
  exact ⟨o',k b o' ne e'⟩
 tup a y e:=kt a y (x.tup a y e)
theorem FrsOK.side {fs:List Env} (F:FrsOK h₀ W st h fs) (hd:∀ e∈fs,e.frame≠some it) (k:∀ b o,b≠it->h.get? b=some o->h'.get? b=some o):FrsOK h₀ W st h' fs:=fun e he=>by
 refine byG fun G_ k_=>?_
 obtain ⟨kk,f,o,a1,a2,a3,⟨es,n,a4⟩,a5⟩:=F e he
 refine k_ ?_
 exact ⟨kk,f,o,a1,a2,k f o (fun z=>by subst z; exact hd e he a1) a3,⟨es,n,a4⟩,a5⟩
theorem Frm.side {env:Env} {vs:A2} (F:Frm h₀ env vs W st h) (hl:env.locals≠it) (hc:∀ p∈env.cells,p.2≠it) (k:∀ b o,b≠it->h.get? b=some o->h'.get? b=some o) (kt:∀ a y,TupD h a y->TupD h' a y):Frm h₀ env vs W st h':=by
 obtain ⟨m,hm,hv⟩:=F.ns
 have vin:∀ x v,B2 x vs=some v->v.within st.nx=true:=fun x v e=>F.vwf _ (C7 e)
 refine {F with ns:=⟨m,?_,fun x v e kk=>?_⟩,cell:=fun x v e kk=>?_,cells:=fun p hp=>?_}
 ·obtain ⟨o,es,ep,ho,hdat,r⟩:=hm
  exact ⟨o,es,ep,k _ _ hl ho,hdat,r⟩
 ·obtain ⟨u,e1,r⟩:=hv x v e kk
  exact ⟨u,e1,r.mono kt (fun Z Z=>rfl) (vin x v e)⟩
 ·obtain ⟨a,u,e1,⟨o,e2,e3⟩,r⟩:=F.cell x v e kk
  exact ⟨a,u,e1,⟨o,k _ _ (hc _ (G8 e1)) e2,e3⟩,r.mono kt (fun Z Z=>rfl) (vin x v e)⟩
 ·obtain ⟨⟨o,c,e1,e2⟩,e3⟩:=F.cells p hp
  exact ⟨⟨o,c,k _ _ (hc p hp) e1,e2⟩,e3⟩
theorem Off.of_dead {A:Around} {env:Env} {vs:A2} {s:Shared} {fs:List Env} {d:Nat} (x:H w h₀ A env vs W st s fs d) (hd:s.heap.get? it=none):Off it env fs:=by
 refine ⟨fun z=>?_,fun p hp z=>?_,fun e he z=>?_⟩
 ·obtain ⟨m,⟨o,_,_,ho,_⟩,_⟩:=x.F.ns
  rw [z,hd] at ho; cases ho
 ·obtain ⟨⟨o,c,e1,_⟩,_⟩:=x.F.cells p hp
  rw [z,hd] at e1; cases e1
 ·obtain ⟨fs',hf,F⟩:=x.N.frames
  rw [x.fr] at hf; cases hf
  obtain ⟨_,f,o,a1,_,a3,_⟩:=F e he
  rw [z] at a1; cases a1; rw [hd] at a3; cases a3
theorem Own.live (G:Good w h₀ W st h) (o:Own W st it):∃ x,h.get? it=some x:=(G.ownO o).imp fun Z y=>y.1
theorem Good.dead (G:Good w h₀ W st h) (hd:h.get? it=none):¬ Own W st it/\h₀.get? it=none:=by
 refine ⟨fun o=>?_,?_⟩
 ·obtain ⟨x,hx⟩:=o.live G; rw [hd] at hx; cases hx
 ·cases e:h₀.get? it with
  | none=>rfl
  | some o=>have:=G.stays _ _ e; rw [hd] at this; cases this
theorem Step.noOwn {ex:List Addr} {W':Wd} {st':St} (x:Step ex W st h W' st' h') (hno:¬ Own W st it) (hd:∃ o,h.get? it=some o):¬ Own W' st' it:=fun o=>by
 rcases x.own_back o with q | q
 ·exact hno q
 ·obtain ⟨o,e⟩:=hd; rw [q] at e; cases e
theorem H.side {A:Around} {env:Env} {vs:A2} {s:Shared} {fs:List Env} {d tk:Nat} (x:H w h₀ A env vs W st s fs d) (off:Off it env fs) (hno:¬ Own W st it) (h0:h₀.get? it=none) (hd:∀ y,¬ TupD s.heap it y) (k:∀ b o,b≠it->s.heap.get? b=some o->h'.get? b=some o) :
  H w h₀ A env vs W st {s with heap:=h',toks:=tk} fs d:=by
 obtain ⟨G,kt⟩:=x.G.side hno h0 hd k
 obtain ⟨fs',hf,FF⟩:=x.N.frames
 have:fs'=fs:=by rw [x.fr] at hf; exact (Option.some.inj hf).symm
 subst this
 exact ⟨x.fx,G,x.F.side off.l off.c k kt,{x.N with frames:=⟨fs',hf,FF.side off.f k⟩},x.fr⟩
end
section
variable {w:World} {A:Around} {E:Value->Shared->Prop} {s:Shared} {h₀:Heap} {W:Wd} {st:St} {it:Addr} {src:Src} {k:Nat}
theorem next_item {v:AV} {Q:Option Value->Shared->Prop} (hh:A.handled=none) (G:Good w h₀ W st s.heap) (hs:src.still st) (I:ItAt w W src it k s.heap) (hno:¬ Own W st it) (hv:src.items[k]?=some v)
  (q:∀ u h' tk,VRep h₀ W s.heap v u->v.within st.nx=true->ItAt w W src it (k+1) h'->(∀ b o,b≠it->s.heap.get? b=some o->h'.get? b=some o)->Q (some u) {s with heap:=h',toks:=tk}) :
  wpAny (Md w) A (pyNext (.ref it)) Q E s:=by
 cases src with
 | lst i o=>
  have hs:st.get i=some o:=hs
  have fin:∀ (vs:List Value) n u,IsL s.heap (W.a i) vs.toArray n->vs[k]?=some u->VRep h₀ W s.heap v u->v.within st.nx=true->wpAny (Md w) A (pyNext (.ref it)) Q E s:=fun vs n u hI hu r hw=>by
   refine wpAny_pyNext_list_item (x:=u) I hI.isList ((List.getElem?_toArray ..).trans (hu)) fun h' I' hb=>?_
   exact q u h' s.toks r hw I' fun b o hb' e=>by rw [hb.2 b hb']; exact e
  cases o with
  | gl l=>
   obtain ⟨hd,vs,n,hI,rp⟩:=G.rep i _ hs
   have hv:(l.map AV.g)[k]?=some v:=hv
   rw [List.getElem?_map] at hv
   refine byG fun G_ k_=>?_
   obtain ⟨g,hg,rfl⟩:=Option.map_eq_some_iff.mp hv
   obtain ⟨u,hu,r⟩:=rp.get hg
   refine k_ ?_
   exact fin vs n u hI hu (.g r) rfl
  | ol l=>
   obtain ⟨hd,vs,n,hI,rp⟩:=G.rep i _ hs
   have hv:l[k]?=some v:=hv
   obtain ⟨u,hu,r⟩:=rp.get hv
   exact fin vs n u hI hu r (withinAll_iff.mp (G.inn hs) v (List.mem_of_getElem? hv))
  | inst=>cases hv
  | di=>cases hv
  | ds=>cases hv
 | vals l=>
  have hv:l[k]?=some v:=hv
  obtain ⟨P,St,a1,a2,a3,a4⟩:=I
  refine (a1 A hh).item k s Q E (List.getElem?_eq_some_iff.mp hv).1 a4 fun u h' tk hP hS hb=>?_
  refine byG fun G_ k_=>?_
  obtain ⟨v',e1,g,rfl,r⟩:=a2 k u hP
  refine k_ ?_
  rw [hv] at e1; cases e1
  exact q u h' tk (.g (r _)) rfl ⟨P,St,a1,a2,a3,hS⟩ fun b o hb' e=>hb b o (by simpa using hb') e
theorem next_done {Q:Option Value->Shared->Prop} (hh:A.handled=none) (G:Good w h₀ W st s.heap) (hs:src.still st) (hk:src.ok) (I:ItAt w W src it k s.heap) (hv:src.items.length=k)
  (q:∀ h' tk,(∀ b o,b≠it->s.heap.get? b=some o->h'.get? b=some o)->Q none {s with heap:=h',toks:=tk}) :
  wpAny (Md w) A (pyNext (.ref it)) Q E s:=by
 cases src with
 | lst i o=>
  have hs:st.get i=some o:=hs
  have fin:∀ (vs:List Value) n,IsL s.heap (W.a i) vs.toArray n->vs.length=k->wpAny (Md w) A (pyNext (.ref it)) Q E s:=fun vs n hI hu=>by
   refine wpAny_pyNext_list_end hh I hI.isList (by simp [hu]) fun h' hb=>?_
   exact q h' s.toks fun b o hb' e=>hb b o hb' e
  have some_of:(st.get i).isSome=true:=by rw [hs]; rfl
  cases o with
  | gl l=>
   obtain ⟨hd,vs,n,hI,rp⟩:=G.rep i _ hs
   have hv:(l.map AV.g).length=k:=hv
   exact fin vs n hI (by rw [<- rp.length]; simpa using hv)
  | ol l=>
   obtain ⟨hd,vs,n,hI,rp⟩:=G.rep i _ hs
   have hv:l.length=k:=hv
   exact fin vs n hI (by rw [<- rp.length]; exact hv)
  | inst c fs=>exact hk.elim
  | di=>exact hk.elim
  | ds=>exact hk.elim
 | vals l=>
  have hv:l.length=k:=hv
  obtain ⟨P,St,a1,a2,a3,a4⟩:=I
  refine (a1 A hh).done s Q E (by rw [hv]; exact a4) fun h' tk hb=>?_
  exact q h' tk fun b o hb' e=>hb b o (by simpa using hb') e
end
section
variable {d:Nat} {cl:A7}
theorem se_rep {m k:ME} (ih:A8 d cl m) (ihk:A8 d cl k):A8 d cl (.rep m k):=fun {w h₀ A env vs W st s fs Q X e} x hc q=>by
 refine onBin_e hc fun l o b pos hc=>onList_e hc fun es lp hc=>one_e hc fun a hc=>and4 hc fun ho h0 h1 h2=>beq_e ho ?_
 refine wpAny_BinOp (wpAny_List (wpAny_items_cons ((ih x h1 q).to fun W' st' s' v u G S g r hw q'=>?_) (K7 h0)))
 refine Calls.spliced_nil ⟨by have:=sizeM; simp; exact (zup this rfl),?_⟩
 have k1:∀ b o,s'.heap.get? b=some o->(s'.heap.push {cls:=.type "list",data:=.seq [u].toArray}).get? b=some o:=fun b o e=>Heap.get?_push_of_some _ e
 obtain ⟨G1,S1⟩:=G.grow k1
 have hL:(s'.heap.push {cls:=.type "list",data:=.seq [u].toArray}).get? s'.heap.objs.size=some {cls:=.type "list",data:=.seq [u].toArray}:=Heap.get?_push_size _ rfl
 have nL:=(G.dead (G7 (Nat.le_refl s'.heap.objs.size))).1
 have SS:=S.trans S1
 refine JE.on (s':={s' with heap:=s'.heap.push {cls:=.type "list",data:=.seq [u].toArray}}) (ihk (x.step (s':={s' with heap:=s'.heap.push {cls:=.type "list",data:=.seq [u].toArray}}) G1 SS) h2 q') SS g fun u₂ s₂ p=>?_
 obtain ⟨W₂,st₂,v₂,G₂,S₂,g₂,r₂,hw₂,q₂⟩:=p
 obtain ⟨v,rfl,q₂⟩:=gvV_e q₂
 obtain ⟨n,rfl,q₂⟩:=I6 q₂
 have q₂:=cD q₂
 refine VRep.int_e r₂ fun t=>?_
 cases r with | g r=>
 have hL2:IsL s₂.heap s'.heap.objs.size [u].toArray 0:=(S₂.evo s'.heap.objs.size List.not_mem_nil nL).same hL fun Z Z z=>by cases z
 refine mul_list1 hL2 q₂.1.1 q₂.1.2 ?_
 have k2:∀ b o,s₂.heap.get? b=some o->(s₂.heap.push {cls:=.type "list",data:=.seq (List.replicate n.toNat u).toArray}).get? b=some o:=fun b o e=>Heap.get?_push_of_some _ e
 obtain ⟨G',S'⟩:=G₂.newList (h':=s₂.heap.push {cls:=.type "list",data:=.seq (List.replicate n.toNat u).toArray}) (o:=.gl (List.replicate n.toNat v)) (vs:=List.replicate n.toNat u) k2 (G7 (Nat.le_refl _)) (Heap.get?_push_size _ rfl)
  (fun W' hW=>.inl ⟨_,rfl,greps_replicate ((r.mono S1.tup).mono S₂.tup |>.mono fun a it x=>x.imp fun o y=>⟨k2 _ _ y.1,y.2⟩) _⟩) trivial
 exact ⟨_,_,.obj st₂.nx,G',(SS.trans S₂).trans S',⟨g₂.1.trans g.1,g₂.2.trans g.2⟩,objNew,K2,q₂.2⟩
end
noncomputable def IterBl (W:Wd) (st:St) (src:Src) (u:Value) (h:Heap):Prop:=src.ok/\src.still st/\match src with
 | .lst i _=>u=.ref (W.a i)
 | .vals l=>(∃ r a b c t t' t'',u=.ref r/\IsRange h r a b c t t' t''/\Builtin.Range.small a b c=true/\0<=Builtin.Range.rangeSize a b c/\l=(List.range (Builtin.Range.rangeSize a b c).toNat).map fun k:Nat=>.i (a+(k:Int)*c)) \/
  (∃ x t,u=.str (A6 x) t/\l=x.map fun c=>.s [c])
noncomputable def SemI (d:Nat) (cl:A7) (m:MI):Prop:=∀ {w:World} {h₀:Heap} {A:Around} {env:Env} {vs:A2} {W:Wd} {st:St} {s:Shared} {fs:List Env} {Q:Src->St->Prop} {X:St->Prop} {e:Expr},
 H w h₀ A env vs W st s fs d->chkI w.params env.scope m e=true->vcI tabs cl X m vs st Q ->
 wpAny (Md w) A (eval e env) (fun u s'=>∃ W' st' src,Good w h₀ W' st' s'.heap/\Step [] W st s.heap W' st' s'.heap/\(s'.gens=s.gens/\s'.os=s.os)/\IterBl W' st' src u s'.heap/\Q src st') (PostX w h₀ fs none W st s X) s
theorem iterstr (x:List Nat) (w:World) (it:Addr) (t:Tok) (T:String) (hT:T = "str_ascii_iterator" \/ T = "str_iterator") (h:Heap) (hi:h.IsStrIter it T (A6 x) t 0):ItV w it (x.map fun c=>.s [c]) 0 h:=by
 have e:(x.map fun c=>AV.s [c]).length=(A6 x).cps.size:=List.length_map ..
 refine ⟨SignAt (A6 x),fun i h=>h.IsStrIter it T (A6 x) t i,fun A hA=>?_,fun j u hu=>?_,fun k h hs=>?_,hi⟩
 ·rw [e]
  rcases hT with rfl | rfl
  ·exact Walks.strAscii hA it _ t
  ·exact Walks.strWide hA it _ t
 ·obtain ⟨c,t',hc,rfl⟩:=hu
  refine ⟨.s [c],?_,.str [c],rfl,fun h=>GRep.str [c] t'⟩
  rw [List.getElem?_map]
  have:x[j]?=some c:=(List.getElem?_toArray ..).symm.trans (hc)
  rw [this]; rfl
 ·obtain ⟨o,a,b,c⟩:=hs; exact ⟨o,_,a,c⟩
section
variable {w:World} {A:Around} {E:Value->Shared->Prop} {s:Shared} {h₀:Heap} {W:Wd} {st:St} {src:Src} {u:Value}
theorem iter_ok {Q:Value->Shared->Prop} (G:Good w h₀ W st s.heap) (I:IterBl W st src u s.heap) (q:∀ o,ItAt w W src s.heap.objs.size 0 (s.heap.push o)->Q (.ref s.heap.objs.size) {s with heap:=s.heap.push o}) :
  wpAny (Md w) A (pyIter u) Q E s:=by
 obtain ⟨hk,hs,I⟩:=I
 cases src with
 | lst i o=>
  have hs:st.get i=some o:=hs
  subst I
  have fin:∀ vs n,IsL s.heap (W.a i) vs n->wpAny (Md w) A (pyIter (.ref (W.a i))) Q E s:=fun vs n hI=>
   wpAny_pyIter_list hI.isList (q _ ⟨_,Heap.get?_push_size _ rfl,rfl,rfl⟩)
  cases o with
  | gl l=>obtain ⟨hd,vs,n,hI,rp⟩:=G.rep i _ hs; exact fin _ _ hI
  | ol l=>obtain ⟨hd,vs,n,hI,rp⟩:=G.rep i _ hs; exact fin _ _ hI
  | inst c fs=>exact hk.elim
  | di=>exact hk.elim
  | ds=>exact hk.elim
 | vals l=>
  rcases I with ⟨r,a,b,c,t,t',t'',rfl,hr,hsm,h0,rfl⟩ | ⟨x,t,rfl,rfl⟩
  ·refine wpAny_pyIter_range hr hsm (q _ ?_)
   have e:((List.range (Builtin.Range.rangeSize a b c).toNat).map fun k:Nat=>AV.i (a+(k:Int)*c)).length=(Builtin.Range.rangeSize a b c).toNat:=(List.length_map ..).trans List.length_range
   refine ⟨fun i v=>∃ t,v=Value.int (a+(i:Int)*c) t/\i < (Builtin.Range.rangeSize a b c).toNat,fun i h=>IsRangeIter h s.heap.objs.size (a+(i:Int)*c) (((Builtin.Range.rangeSize a b c).toNat:Int) - (i:Int)) c,fun A hA=>?_,fun j u hu=>?_,fun k h hs=>⟨_,_,hs,rfl⟩,?_⟩
   ·rw [e]
    have W:=Walks.range (prog:=pw) (w:=w) hA s.heap.objs.size a c (Builtin.Range.rangeSize a b c).toNat
    exact {W with item:=fun i s Q E hi st hQ=>W.item i s Q E hi st fun v h' tk p=>hQ v h' tk (let ⟨t,e⟩:=p; ⟨t,e,hi⟩)}
   ·obtain ⟨t,rfl,hj⟩:=hu
    refine ⟨.i (a+(j:Int)*c),?_,.int _,rfl,fun h=>GRep.int _ t⟩
    rw [List.getElem?_map,List.getElem?_range hj]; rfl
   ·show IsRangeIter _ _ _ _ _
    have:=Heap.get?_push_size s.heap (o:={cls:=.type "range_iterator",data:=.fields #[rawInt a,rawInt (Builtin.Range.rangeSize a b c),rawInt c]}) rfl
    unfold IsRangeIter
    rw [this]
    simp [Int.toNat_of_nonneg h0]
  ·refine wpAny_pyIter_strU (q _ ?_)
   refine iterstr x w _ t (strIterType (A6 x)) ?_ _ ⟨_,Heap.get?_push_size _ rfl,rfl,rfl⟩
   unfold strIterType
   split
   ·exact .inl rfl
   ·exact .inr rfl
theorem src_ok {Q:Src->Prop} {v:AV} (G:Good w h₀ W st s.heap) (r:VRep h₀ W s.heap v u) (q:srcOf st v Q):∃ src,IterBl W st src u s.heap/\Q src:=by
 cases v with
 | g y=>cases y with
  | str x=>exact VRep.str_e r fun t=>⟨.vals (x.map fun c=>.s [c]),⟨trivial,trivial,.inr ⟨x,t,rfl,rfl⟩⟩,(cB q).2⟩
  | _=>exact False.elim q
 | obj i=>
  refine VRep.obj_e r ?_
  have q:(match st.get i with | some (.gl l)=>Q (.lst i (.gl l)) | some (.ol l)=>Q (.lst i (.ol l)) | _=>False):=q
  cases hi:st.get i with
  | none=>rw [hi] at q; exact False.elim q
  | some o=>
   rw [hi] at q
   cases o with
   | gl l=>exact ⟨.lst i (.gl l),⟨trivial,hi,rfl⟩,q⟩
   | ol l=>exact ⟨.lst i (.ol l),⟨trivial,hi,rfl⟩,q⟩
   | _=>exact False.elim q
 | _=>exact False.elim q
end
theorem rangeFits {x:Int} (h1:-3000000<=x) (h2:x<=3000000):Builtin.Range.rangeFitsLong x=true:=by
 unfold Builtin.Range.rangeFitsLong
 simp only [Bool.and_eq_true,decide_eq_true_eq]
 lia
theorem small_of {a b c:Int} (ha:-1000000<=a) (ha':a<=1000000) (hb:-1000000<=b) (hb':b<=1000000) (hc:c=1\/c=-1):Builtin.Range.small a b c=true/\0<=Builtin.Range.rangeSize a b c/\(c=1->(Builtin.Range.rangeSize a b c).toNat=(b - a).toNat)/\(c=-1->(Builtin.Range.rangeSize a b c).toNat=(a - b).toNat):=by
 have hr:∀ x:Int,-3000000<=x->x<=3000000->Builtin.Range.rangeFitsLong x=true:=fun Z=>rangeFits
 rcases hc with rfl | rfl
 ·have e:Builtin.Range.rangeSize a b 1=if a < b then b - a else 0:=by
   unfold Builtin.Range.rangeSize
   simp only [show (1:Int) > 0 by decide,if_true,Int.ediv_one]
   split<;>lia
  refine ⟨?_,?_,fun Z=>?_,fun h=>absurd h (by decide)⟩
  ·unfold Builtin.Range.small
   rw [e]
   simp only [Bool.and_eq_true,Bool.or_eq_true,show (1:Int) > 0 by decide,if_true]
   refine ⟨⟨⟨⟨hr _ (by lia) (by lia),hr _ (by lia) (by lia)⟩,hr _ (by lia) (by lia)⟩,hr _ (by split<;>lia) (by split<;>lia)⟩,.inr (hr _ (by lia) (by lia))⟩
  ·rw [e]; split<;>lia
  ·rw [e]; split<;>lia
 ·have e:Builtin.Range.rangeSize a b (-1)=if a > b then a - b else 0:=by
   unfold Builtin.Range.rangeSize
   simp only [show ¬ ((-1:Int) > 0) by decide,if_false,Int.neg_neg,Int.ediv_one]
   split<;>lia
  refine ⟨?_,?_,fun h=>absurd h (by decide),fun Z=>?_⟩
  ·unfold Builtin.Range.small
   rw [e]
   simp only [Bool.and_eq_true,Bool.or_eq_true,show ¬ ((-1:Int) > 0) by decide,if_false]
   refine ⟨⟨⟨⟨hr _ (by lia) (by lia),hr _ (by lia) (by lia)⟩,hr _ (by lia) (by lia)⟩,hr _ (by split<;>lia) (by split<;>lia)⟩,.inr (hr _ (by lia) (by lia))⟩
  ·rw [e]; split<;>lia
  ·rw [e]; split<;>lia
section
variable {d:Nat} {cl:A7}
theorem made_range {w:World} {h₀:Heap} {W W':Wd} {st st':St} {s s':Shared} {a b c:Int} {t t' t'':Tok} {Q:Src->St->Prop} {l:List AV} (G:Good w h₀ W' st' s'.heap) (S:Step [] W st s.heap W' st' s'.heap) (g:s'.gens=s.gens/\s'.os=s.os)
  (ha:-1000000<=a) (ha':a<=1000000) (hb:-1000000<=b) (hb':b<=1000000) (hc:c=1\/c=-1) (hl:l=(List.range (Builtin.Range.rangeSize a b c).toNat).map fun k:Nat=>.i (a+(k:Int)*c)) (q:Q (.vals l) st') :
  ∃ W'' st'' src,Good w h₀ W'' st'' (s'.heap.push {cls:=.type "range",data:=.fields #[.int a t,.int b t',.int c t'']})/\Step [] W st s.heap W'' st'' (s'.heap.push {cls:=.type "range",data:=.fields #[.int a t,.int b t',.int c t'']})/\(s'.gens=s.gens/\s'.os=s.os) /\
   IterBl W'' st'' src (.ref s'.heap.objs.size) (s'.heap.push {cls:=.type "range",data:=.fields #[.int a t,.int b t',.int c t'']})/\Q src st'':=by
 refine byG fun G_ k_=>?_
 obtain ⟨G',S'⟩:=G.grow (h':=s'.heap.push {cls:=.type "range",data:=.fields #[.int a t,.int b t',.int c t'']}) fun b o e=>Heap.get?_push_of_some _ e
 obtain ⟨h1,h2,_⟩:=small_of ha ha' hb hb' hc
 refine k_ ?_
 exact ⟨W',st',.vals l,G',S.trans S',g,⟨trivial,trivial,.inl ⟨_,a,b,c,t,t',t'',rfl,IsRange.new ..,h1,h2,hl⟩⟩,q⟩
theorem si_range1 {a:ME} (iha:A8 d cl a):SemI d cl (.range1 a):=fun {w h₀ A env vs W st s fs Q X e} x hc q=>by
 refine onB1_e hc fun id p a₁ pos h0 h1 h2=>?_
 refine wpAny_Call_Name_kw (gBlt_ok x.F x.G x.fx h0 (v:=.type "range") rfl (by decide) ?_)
 refine K6 (P:=fun Z=>True) (by rw [H9,h1]; rfl) (fun h p=>keeps_V _ rfl h p) ?_
 refine wpAny_items_cons ((iha x h2 q).to fun W' st' s' v u G S g r hw q'=>?_) (K7 h1)
 refine Calls.spliced_nil ⟨trivial,?_⟩
 refine byG fun G_ k_=>?_
 obtain ⟨n,rfl,q'⟩:=I6 q'
 have q':=cD q'
 refine k_ ?_
 refine VRep.int_e r fun t=>call_range_1 (made_range G S g (by decide) (by decide) q'.1.1 q'.1.2 (.inl rfl) ?_ q'.2)
 rw [(small_of (by decide) (by decide) q'.1.1 q'.1.2 (.inl rfl)).2.2.1 rfl]
 simp [J0]
theorem si_range2 {a b:ME} (iha:A8 d cl a) (ihb:A8 d cl b):SemI d cl (.range2 a b):=fun {w h₀ A env vs W st s fs Q X e} x hc q=>by
 refine onFn_e hc fun id p as pos hc=>two_e hc fun a₁ a₂ hc=>and5 hc fun h0 h1 h3 h2 h4=>?_
 refine wpAny_Call_Name_kw (gBlt_ok x.F x.G x.fx h0 (v:=.type "range") rfl (by decide) ?_)
 refine K6 (P:=fun Z=>True) (by rw [H9,h1,H9,h3]; rfl) (fun h p=>keeps_V _ rfl h p) ?_
 refine wpAny_items_cons ((iha x h2 q).to fun W' st' s' v u G S g r hw q'=>?_) (K7 h1)
 have x':=x.step G S
 refine wpAny_items_cons (JE.on (ihb x' h4 q') S g fun u₂ s₂ p=>?_) (K7 h3)
 obtain ⟨W₂,st₂,v₂,G₂,S₂,g₂,r₂,hw₂,q₂⟩:=p
 refine Calls.spliced_nil ⟨trivial,?_⟩
 refine byG fun G_ k_=>?_
 obtain ⟨a,rfl,q4⟩:=I6 q₂
 obtain ⟨n,rfl,q4⟩:=I6 q4
 obtain ⟨⟨b1,b2,b3,b4⟩,q5⟩:=cD q4
 refine k_ ?_
 refine VRep.int_e r fun t=>VRep.int_e r₂ fun t'=>call_range_2 (made_range G₂ (S.trans S₂) ⟨g₂.1.trans g.1,g₂.2.trans g.2⟩ b1 b2 b3 b4 (.inl rfl) ?_ q5)
 rw [(small_of b1 b2 b3 b4 (.inl rfl)).2.2.1 rfl]
 simp [J0]
theorem si_range3 {a b c:ME} (iha:A8 d cl a) (ihb:A8 d cl b) (ihc:A8 d cl c):SemI d cl (.range3 a b c):=fun {w h₀ A env vs W st s fs Q X e} x hc q=>by
 refine onFn_e hc fun id p as pos hc=>three_e hc fun a₁ a₂ a₃ hc=>and7 hc fun h0 h1 h3 h5 h2 h4 h6=>?_
 refine wpAny_Call_Name_kw (gBlt_ok x.F x.G x.fx h0 (v:=.type "range") rfl (by decide) ?_)
 refine K6 (P:=fun Z=>True) (by rw [H9,h1,H9,h3,H9,h5]; rfl) (fun h p=>keeps_V _ rfl h p) ?_
 refine wpAny_items_cons ((iha x h2 q).to fun W' st' s' v u G S g r hw q'=>?_) (K7 h1)
 have x':=x.step G S
 refine wpAny_items_cons (JE.on (ihb x' h4 q') S g fun u₂ s₂ p=>?_) (K7 h3)
 obtain ⟨W₂,st₂,v₂,G₂,S₂,g₂,r₂,hw₂,q₂⟩:=p
 have x₂:=x'.step G₂ S₂
 refine wpAny_items_cons (JE.on (ihc x₂ h6 q₂) (S.trans S₂) ⟨g₂.1.trans g.1,g₂.2.trans g.2⟩ fun u₃ s₃ p=>?_) (K7 h5)
 obtain ⟨W₃,st₃,v₃,G₃,S₃,g₃,r₃,hw₃,q₃⟩:=p
 refine Calls.spliced_nil ⟨trivial,?_⟩
 refine byG fun G_ k_=>?_
 obtain ⟨a,rfl,q4⟩:=I6 q₃
 obtain ⟨n,rfl,q5⟩:=I6 q4
 obtain ⟨m,rfl,q5⟩:=I6 q5
 obtain ⟨⟨rfl,b1,b2,b3,b4⟩,q6⟩:=cD q5
 refine k_ ?_
 refine VRep.int_e r fun t=>VRep.int_e r₂ fun t'=>VRep.int_e r₃ fun t''=>call_range_3 (by decide) (made_range G₃ ((S.trans S₂).trans S₃) ⟨g₃.1.trans (g₂.1.trans g.1),g₃.2.trans (g₂.2.trans g.2)⟩ b1 b2 b3 b4 (.inr rfl) ?_ q6) (Or.inl (PyProof.noPylong_small (by decide)))
 rw [(small_of b1 b2 b3 b4 (.inr rfl)).2.2.2 rfl]
 simp [rangeDown,Int.sub_eq_add_neg]
theorem si_over {m:ME} (ih:A8 d cl m):SemI d cl (.over m):=fun {w h₀ A env vs W st s fs Q X e} x hc q=>by
 have hc:=Bool.and_eq_true_iff.mp (show (noSet e&&A9 w.params env.scope m e)=true from hc)
 refine (ih x hc.2 q).to fun W' st' s' v u G S g r hw q'=>?_
 obtain ⟨src,I,q'⟩:=src_ok G r q'
 exact ⟨W',st',src,G,S,g,I,q'⟩
end
section
variable {w:World} {h₀ h h':Heap} {W W':Wd} {st st':St} {n:Nat}
theorem VRep.cut {v:AV} {u:Value} (r:VRep h₀ W h v u):VRep h₀ W h (v.cut n) u:=by
 unfold AV.cut
 cases v.within n with
 | true=>exact r
 | false=>exact .any (handed_of r)
theorem VReps.cut {l:List AV} {vs:List Value} (r:VReps h₀ W h l vs):VReps h₀ W h (l.map (AV.cut n)) vs:=r.ind .nil fun a Z q=>.cons a.cut q
theorem FRep.cut {P:Params} {fs:List (Nat × AV)} {es:List DictEntry} (r:FRep P h₀ W h fs es):FRep P h₀ W h (E1 n fs) es:=by
 induction r with
 | nil=>exact .nil
 | cons a b _ ih=>exact .cons a b.cut ih
theorem SRep.cut {l:List (List Nat × AV)} {kvs:List (Str × Value)} (r:SRep h₀ W h l kvs):SRep h₀ W h (cutDs n l) kvs:=by
 induction r with
 | nil=>exact .nil
 | cons a _ ih=>exact .cons a.cut ih
theorem cutVs_keys (l:A2):(E1 n l).map (·.1)=l.map (·.1):=by
 induction l with
 | nil=>rfl
 | cons p r ih=>exact congrArg (List.cons p.1) ih
theorem mem_cutVs {l:A2} {p:Nat × AV} (h:p∈E1 n l):∃ v,(p.1,v)∈l/\p.2=v.cut n:=by
 induction l with
 | nil=>cases h
 | cons q r ih=>exact (List.mem_cons.mp h).elim (fun e=>⟨q.2,by rw [e]; exact .head _,by rw [e]⟩) fun h=>(ih h).imp fun Z y=>⟨.tail _ y.1,y.2⟩
theorem look_cutVs {l:A2} {x:Nat} {v:AV} (h:B2 x (E1 n l)=some v):∃ u,B2 x l=some u/\v=u.cut n:=by
 induction l with
 | nil=>cases h
 | cons p r ih=>
  have h:B2 x ((p.1,p.2.cut n)::E1 n r)=some v:=h
  by_cases e:x=p.1
  ·exact ⟨p.2,(B1 x p r).trans (if_pos e),(look_some h e).symm⟩
  ·exact (ih (look_tail h e)).imp fun Z y=>⟨((B1 x p r).trans (if_neg e)).trans y.1,y.2⟩
theorem look_cutSto {l:List (Nat × AO)} {i:Nat} {o:AO} (h:B2 i (G9 n l)=some o):i < n/\∃ o',B2 i l=some o'/\o=o'.cut n:=by
 induction l with
 | nil=>cases h
 | cons p r ih=>
  have h:B2 i (match Nat.blt p.1 n with | true=>(p.1,p.2.cut n)::G9 n r | false=>G9 n r)=some o:=h
  cases hj:Nat.blt p.1 n with
  | true=>
   rw [hj] at h
   have h:B2 i ((p.1,p.2.cut n)::G9 n r)=some o:=h
   by_cases e:i=p.1
   ·exact ⟨e▸(Nat.blt_eq.mp hj),p.2,(B1 i p r).trans (if_pos e),(look_some h e).symm⟩
   ·exact (ih (look_tail h e)).imp id fun y=>y.imp fun Z y=>⟨((B1 i p r).trans (if_neg e)).trans y.1,y.2⟩
  | false=>
   rw [hj] at h
   have q:=ih h
   have e:¬ i=p.1:=fun e=>by rw [<- e,Nat.blt_eq.mpr q.1] at hj; cases hj
   exact q.imp id fun y=>y.imp fun Z y=>⟨((B1 i p r).trans (if_neg e)).trans y.1,y.2⟩
theorem get_cut {i:Nat} {o:AO} (h:(st.cut n).get i=some o):i < n/\∃ o',st.get i=some o'/\o=o'.cut n:=look_cutSto h
theorem own_cut {b:Addr} (h:Own W (st.cut n) b):Own W st b:=by
 refine byG fun G_ k_=>?_
 obtain ⟨i,hi,hb⟩:=h
 obtain ⟨o,ho⟩:=Option.isSome_iff_exists.mp hi
 obtain ⟨_,o',h',_⟩:=get_cut ho
 refine k_ ?_
 exact ⟨i,by rw [h']; rfl,hb⟩
theorem mem_cutDs {l:List (List Nat × AV)} {p:List Nat × AV} (h:p∈cutDs n l):p.2.within n=true:=by
 induction l with
 | nil=>cases h
 | cons q r ih=>exact (List.mem_cons.mp h).elim (fun e=>e▸(cut_within n q.2)) ih
theorem cutO_in (o:AO):(o.cut n).In n:=by
 cases o with
 | gl l=>trivial
 | di l=>trivial
 | ol l=>exact withinAll_iff.mpr fun v hv=>(List.mem_map.mp hv).elim fun u y=>y.2▸(cut_within n u)
 | inst c fs=>exact fun p hp=>(mem_cutVs hp).elim fun v y=>y.2▸(cut_within n v)
 | ds l=>exact fun p hp=>mem_cutDs hp
theorem ORep.cut {i:Nat} {o:AO} (r:ORep w h₀ W h i o):ORep w h₀ W h i (o.cut n):=by
 cases o with
 | gl l=>exact r
 | di l=>exact r
 | ol l=>obtain ⟨e,vs,k,a,b⟩:=r; exact ⟨e,vs,k,a,b.cut⟩
 | inst c fs=>
  refine byG fun G_ k_=>?_
  obtain ⟨e,⟨f1,f2⟩,sl,es,k,a,b,c'⟩:=r
  refine k_ ?_
  refine ⟨e,⟨fun p hp=>?_,?_⟩,sl,es,k,a,b,c'.cut⟩
  ·obtain ⟨v,hv,_⟩:=mem_cutVs hp; exact f1 (p.1,v) hv
  ·rw [cutVs_keys]; exact f2
 | ds l=>obtain ⟨e,kvs,a,b⟩:=r; exact ⟨e,kvs,a,b.cut⟩
theorem mem_cutSto {l:List (Nat × AO)} {p:Nat × AO} (h:p∈G9 n l):p.1 < n/\p.2.In n:=by
 induction l with
 | nil=>cases h
 | cons q r ih=>
  have h:p∈(match Nat.blt q.1 n with | true=>(q.1,q.2.cut n)::G9 n r | false=>G9 n r):=h
  cases hj:Nat.blt q.1 n with
  | true=>rw [hj] at h; exact (List.mem_cons.mp h).elim (fun e=>e▸(⟨Nat.blt_eq.mp hj,cutO_in q.2⟩)) ih
  | false=>rw [hj] at h; exact ih h
theorem Good.cut (G:Good w h₀ W st h):Good w h₀ W (st.cut n) h where
 stays:=G.stays
 rep i o e:=by obtain ⟨_,o',h',rfl⟩:=get_cut e; exact (G.rep i o' h').cut
 low i e:=by obtain ⟨o,ho⟩:=Option.isSome_iff_exists.mp e; exact (get_cut ho).1
 new b o:=G.new b (own_cut o)
 apart i j hi hj ne:=by
  have some_of:∀ k,((st.cut n).get k).isSome=true->(st.get k).isSome=true:=fun k hk=>by
   obtain ⟨o,ho⟩:=Option.isSome_iff_exists.mp hk; obtain ⟨_,o',h',_⟩:=get_cut ho; rw [h']; rfl
  exact G.apart i j (some_of i hi) (some_of j hj) ne
 wf:=wf_iff.mpr fun p hp=>mem_cutSto hp
theorem Step.cut {ex:List Addr} (x:Step ex W st h W' st' h'):Step ex W st h W' (st'.cut st.nx) h' where
 agree:=x.agree
 nx:=Nat.le_refl _
 sub i hi e:=x.sub i hi (by obtain ⟨o,ho⟩:=Option.isSome_iff_exists.mp e; obtain ⟨_,o',h',_⟩:=get_cut ho; rw [h']; rfl)
 fresh i hi e:=by obtain ⟨o,ho⟩:=Option.isSome_iff_exists.mp e; exact absurd (get_cut ho).1 (Nat.not_lt.mpr hi)
 evo:=x.evo
 live:=x.live
 tup:=x.tup
theorem FrsOK.cut {fs:List Env} (F:FrsOK h₀ W st h fs):FrsOK h₀ W (st.cut n) h fs:=fun e he=>by
 refine byG fun G_ k_=>?_
 obtain ⟨k,f,o,a1,a2,a3,a4,a5⟩:=F e he
 refine k_ ?_
 exact ⟨k,f,o,a1,a2,a3,a4,fun q=>a5 (own_cut q)⟩
theorem Arnd.cut {A:Around} {d k:Nat} (F:Arnd h₀ A W st h d k):Arnd h₀ A W (st.cut n) h d k:=
 {F with frames:=F.frames.imp fun Z y=>⟨y.1,y.2.cut⟩}
theorem Frm.cut {env:Env} {vs:A2} (F:Frm h₀ env vs W st h):Frm h₀ env (E1 n vs) W (st.cut n) h:=by
 obtain ⟨m,hm,hv⟩:=F.ns
 refine {F with notL:=fun q=>F.notL (own_cut q),ns:=⟨m,hm,fun x v e k=>?_⟩,cell:=fun x v e k=>?_,vwf:=fun p hp=>?_}
 ·obtain ⟨u,hu,rfl⟩:=look_cutVs e
  obtain ⟨z,e1,r⟩:=hv x u hu k
  exact ⟨z,e1,r.cut⟩
 ·obtain ⟨u,hu,rfl⟩:=look_cutVs e
  refine byG fun G_ k_=>?_
  obtain ⟨a,z,e1,e2,r⟩:=F.cell x u hu k
  refine k_ ?_
  exact ⟨a,z,e1,e2,r.cut⟩
 ·obtain ⟨v,_,e⟩:=mem_cutVs hp
  rw [e]; exact cut_within n v
theorem H.cut {A:Around} {env:Env} {vs:A2} {s:Shared} {fs:List Env} {d:Nat} (x:H w h₀ A env vs W st s fs d):H w h₀ A env (E1 n vs) W (st.cut n) s fs d:=
 ⟨x.fx,x.G.cut,x.F.cut,x.N.cut,x.fr⟩
theorem Frm.low {env:Env} {vs:A2} (F:Frm h₀ env vs W st h) (hn:∀ p∈vs,p.2.within n=true):Frm h₀ env vs W (st.cut n) h:=by
 have:=F.cut (n:=n)
 rwa [cutVs_iff.mpr hn] at this
theorem H.low {A:Around} {env:Env} {vs:A2} {s:Shared} {fs:List Env} {d:Nat} (x:H w h₀ A env vs W st s fs d) (hn:∀ p∈vs,p.2.within n=true):H w h₀ A env vs W (st.cut n) s fs d:=
 ⟨x.fx,x.G.cut,x.F.low hn,x.N.cut,x.fr⟩
end
theorem nmL_ne:(nmL.all fun s=>s != ("" : Str)&&s != (".0" : Str))=true:=by decide +kernel
theorem nm_same {x y:Nat} (hx:x < nmL.length) (e:nm y=nm x):y=x:=by
 by_cases hy:y < nmL.length
 ·exact nm_inj hy hx e
 ·exfalso
  have e1:nm y = "" := by unfold nm; rw [List.getElem?_eq_none (Nat.le_of_not_lt hy)]; rfl
  have e2:nm x=nmL[x]:=by unfold nm; rw [List.getElem?_eq_getElem hx]; rfl
  have:=List.all_eq_true.mp nmL_ne nmL[x] (List.getElem_mem hx)
  rw [<- e2,<- e,e1] at this
  exact absurd this (by decide)
theorem nm_not0 (y:Nat):nm y ≠ ".0" :=by
 unfold nm
 cases e:nmL[y]? with
 | none=>decide
 | some s=>
  have:=List.all_eq_true.mp nmL_ne s (List.mem_of_getElem? e)
  simp only [Bool.and_eq_true,bne_iff_ne] at this
  exact this.2
theorem lookup_cons' {β:Type} {x:Str} {p:Str × β} {r:List (Str × β)}:(p::r).lookup x=match x==p.1 with | true=>some p.2 | false=>r.lookup x:=rfl
theorem lookup_map_snd {g:Str->NameKind->NameKind} (l:List (Str × NameKind)) (x:Str):(l.map fun p=>(p.1,g p.1 p.2)).lookup x=(l.lookup x).map (g x):=by
 induction l with
 | nil=>rfl
 | cons p r ih=>
  rw [List.map_cons,lookup_cons',lookup_cons']
  cases e:x==p.1 with
  | true=>rw [beq_iff_eq.mp e]; rfl
  | false=>exact ih
theorem relab_lookup (sc s:Scope) (x:Str):(relab sc s).names.lookup x=(s.names.lookup x).map fun k=>if (k==.free&&sc.kind==.function&&sc.names.lookup x==some .cell) then .cell else k:=by
 refine Eq.trans ?_ (lookup_map_snd (g:=fun n k=>if (k==.free&&sc.kind==.function&&sc.names.lookup n==some .cell) then .cell else k) s.names x)
 refine congrArg (List.lookup x) (List.map_congr_left fun p Z=>?_)
 by_cases h:(p.2==.free&&sc.kind==.function&&sc.names.lookup p.1==some .cell)=true
 ·rw [if_pos h]; exact if_pos h
 ·rw [if_neg h]; exact if_neg h
theorem mem_lookup {β:Type} {l:List (Str × β)} {n:Str} {b:β} (h:(n,b)∈l):∃ c,l.lookup n=some c:=by
 induction l with
 | nil=>cases h
 | cons p r ih=>
  rw [lookup_cons']
  cases e:n==p.1 with
  | true=>exact ⟨p.2,rfl⟩
  | false=>exact (List.mem_cons.mp h).elim (fun q=>by rw [<- q,beq_self_eq_true] at e; cases e) ih
theorem clos_loop {env:Env} (names:List (Str × NameKind)):∀ (cs:List (Str × Addr)),(∀ p∈names,p.2=.free->∃ a,env.cells.lookup p.1=some a)->(∀ p∈cs,env.cells.lookup p.1=some p.2) ->
   ∃ cl,(forIn names cs fun x r=>(do
    if (x.2==NameKind.free)=true then do
     let a <- cellOf env x.1
     pure (ForInStep.yield ((x.1,a)::r))
    else pure (ForInStep.yield r):Sem (ForInStep (List (Str × Addr)))))=pure cl/\(∀ p∈cl,env.cells.lookup p.1=some p.2)/\(∀ p∈cs,p∈cl)/\∀ p∈names,p.2=.free->∃ a,(p.1,a)∈cl:=by
 induction names with
 | nil=>exact fun cs Z hc=>⟨cs,List.forIn_nil,hc,fun Z h=>h,fun Z h=>nomatch h⟩
 | cons x r ih=>
  intro cs hn hc
  rw [List.forIn_cons]
  by_cases hk:x.2=.free
  ·obtain ⟨a,ha⟩:=hn x (.head _) hk
   obtain ⟨cl,e,h1,h2,h3⟩:=ih ((x.1,a)::cs) (fun p hp=>hn p (.tail _ hp)) (fun p hp=>(List.mem_cons.mp hp).elim (fun z=>z▸ha) (hc p))
   refine ⟨cl,?_,h1,fun p hp=>h2 p (.tail _ hp),fun p hp hpf=>(List.mem_cons.mp hp).elim (fun z=>z▸(⟨a,h2 _ (.head _)⟩)) fun hp=>h3 p hp hpf⟩
   have hce:cellOf env x.1=pure a:=by unfold cellOf; rw [ha]
   rw [if_pos (beq_iff_eq.mpr hk),hce,pure_bind,pure_bind]
   exact e
  ·obtain ⟨cl,e,h1,h2,h3⟩:=ih cs (fun p hp=>hn p (.tail _ hp)) hc
   refine ⟨cl,?_,h1,h2,fun p hp hpf=>(List.mem_cons.mp hp).elim (fun z=>absurd (z▸hpf) hk) fun hp=>h3 p hp hpf⟩
   rw [if_neg fun z=>hk (beq_iff_eq.mp z),pure_bind]
   exact e
theorem clos_ok {env:Env} {scope:Scope} (hf:∀ p∈scope.names,p.2=.free->∃ a,env.cells.lookup p.1=some a) :
  ∃ cl,closureFor scope env=pure cl/\(∀ p∈cl,env.cells.lookup p.1=some p.2)/\∀ p∈scope.names,p.2=.free->cl.lookup p.1=env.cells.lookup p.1:=by
 refine byG fun G_ k_=>?_
 obtain ⟨cl,e,h1,_,h3⟩:=clos_loop scope.names [] hf (fun Z h=>nomatch h)
 refine k_ ?_
 refine ⟨cl,?_,h1,fun p hp hpf=>?_⟩
 ·unfold closureFor
  simpa using e
 ·obtain ⟨a,ha⟩:=h3 p hp hpf
  obtain ⟨c,hc⟩:=mem_lookup ha
  rw [hc]
  exact (h1 _ (G8 hc)).symm
structure CompOK (env:Env) (scope:Scope) (x:Nat):Prop where
 kind:scope.kind=.function
 loc:scope.names.lookup (nm x)=some .local
 co:scope.isCoroutine=false
 all:∀ p∈scope.names,p.2=.local\/p.2=.globalImplicit\/(p.2=.free/\env.scope.names.lookup p.1=some .cell)
 same:∀ p∈scope.names,scope.names.lookup p.1=some p.2
 only:∀ p∈scope.names,p.2=.local->p.1=nm x\/p.1 = ".0"
theorem comp_ok {env:Env} {scope:Scope} {x:Nat} (h:compScope env.scope scope (nm x)=true):CompOK env scope x:=by
 unfold compScope at h
 simp only [Bool.and_eq_true,beq_iff_eq,Bool.not_eq_true',List.all_eq_true] at h
 obtain ⟨⟨⟨⟨⟨h1,h2⟩,h3⟩,h4⟩,h5⟩,h6⟩:=h
 refine ⟨h1,h2,h3,fun p hp=>?_,fun p hp=>h5 p hp,fun p hp hl=>?_⟩
 ·have:=h4 p hp
  cases e:p.2 with
  | «local»=>exact .inl rfl
  | globalImplicit=>exact .inr (.inl rfl)
  | free=>rw [e] at this; exact .inr (.inr ⟨rfl,by simpa using this⟩)
  | _=>rw [e] at this; cases this
 ·have:=h6 p (List.mem_filter.mpr ⟨hp,by rw [hl]; rfl⟩)
  simpa using this
noncomputable def compEnv (scope:Scope) (cl:List (Str × Addr)) (C:Addr) (env:Env):Env:=compEnvC scope cl C env
section
variable {w:World} {h₀ h:Heap} {W:Wd} {st:St} {env:Env} {vs:A2} {scope:Scope} {x:Nat} {cl:List (Str × Addr)} {C:Addr}
theorem CompOK.loc_of (c:CompOK env scope x) (hx:x < nmL.length) {y:Nat} (k:(relab env.scope scope).names.lookup (nm y)=some .local):y=x:=by
 rw [relab_lookup] at k
 obtain ⟨k',e1,e2⟩:=Option.map_eq_some_iff.mp k
 have h:k'=.local:=by
  by_cases z:(k'==.free&&env.scope.kind==.function&&env.scope.names.lookup (nm y)==some .cell)=true
  ·rw [if_pos z] at e2; cases e2
  ·rw [if_neg z] at e2; exact e2
 rw [h] at e1
 exact (c.only _ (G8 e1) rfl).elim (nm_same hx) fun q=>absurd q (nm_not0 y)
theorem CompOK.cell_of (c:CompOK env scope x) {n:Str} (k:(relab env.scope scope).names.lookup n=some .cell\/(relab env.scope scope).names.lookup n=some .free):scope.names.lookup n=some .free/\env.scope.names.lookup n=some .cell:=by
 rw [relab_lookup] at k
 cases q:scope.names.lookup n with
 | none=>rw [q] at k; rcases k with k | k<;>cases k
 | some kk=>
  rw [q] at k
  have a:kk=.local\/kk=.globalImplicit\/(kk=.free/\env.scope.names.lookup n=some .cell):=c.all _ (G8 q)
  rcases a with rfl | rfl | ⟨rfl,b⟩
  ·rcases k with k | k<;>cases k
  ·rcases k with k | k<;>cases k
  ·exact ⟨rfl,b⟩
theorem Frm.comp {v:AV} {u:Value} {m:Str->Option Value} (F:Frm h₀ env vs W st h) (c:CompOK env scope x) (hx:x < nmL.length) (h1:∀ p∈cl,env.cells.lookup p.1=some p.2) (h2:∀ p∈scope.names,p.2=.free->cl.lookup p.1=env.cells.lookup p.1)
  (hC:h₀.get? C=none) (hno:¬ Own W st C) (hm:h.Ns C m) (hu:m (nm x)=some u) (r:VRep h₀ W h v u) (hw:v.within st.nx=true):Frm h₀ (compEnv scope cl C env) (put x v vs) W st h where
 kind:=c.kind
 glob:=F.glob
 bi:=F.bi
 newL:=hC
 notL:=hno
 ns:=⟨m,hm,fun y z e k=>by
  have hy:=c.loc_of hx k
  rw [hy] at e ⊢
  rw [look_put,if_pos rfl] at e
  rw [<- Option.some.inj e]
  exact ⟨u,hu,r⟩⟩
 cell y z e k:=by
  have fr:=c.cell_of k
  have hy:y≠x:=fun q=>by rw [q,c.loc] at fr; cases fr.1
  rw [look_put,if_neg hy] at e
  exact (F.cell y z e (.inl fr.2)).imp fun a p=>p.imp fun u' p=>⟨(h2 _ (G8 fr.1) rfl).trans p.1,p.2⟩
 cells p hp:=F.cells (p.1,p.2) (G8 (h1 p hp))
 cellAll n k:=by
  have fr:=c.cell_of (.inl k)
  exact (F.cellAll n fr.2).imp fun z hz=>(h2 _ (G8 fr.1) rfl).trans hz
 vwf p hp:=(mem_put hp).elim (fun z=>z▸hw) (F.vwf p)
theorem Good.adopt {W₀:Wd} {st₀:St} {hs:Heap} {o:AO} {D:Addr} {vs:List Value} {n:Nat} (G:Good w h₀ W st h) (S:Step [] W₀ st₀ hs W st h) (hd:hs.get? D=none) (hno:¬ Own W st D) (h0:h₀.get? D=none) (hl:IsL h D vs.toArray n)
  (ho:∀ W',(∀ j,j < st.nx->W'.a j=W.a j)->(∃ l,o=.gl l/\GReps h l vs)\/(∃ l,o=.ol l/\VReps h₀ W' h l vs)) (hin:o.In st.nx) :
  Good w h₀ (W.add st.nx D D) (st.add o) h/\Step [] W₀ st₀ hs (W.add st.nx D D) (st.add o) h:=by
 refine ⟨G.take hno hno h0 h0 ?_ (hin.mono (Nat.le_succ _)),S.take G hd hd⟩
 have hl':IsL h ((W.add st.nx D D).a st.nx) vs.toArray n:=Wd.add_a▸hl
 rcases ho (W.add st.nx D D) (fun j lt=>if_neg (Nat.ne_of_lt lt)) with ⟨l,rfl,r⟩ | ⟨l,rfl,r⟩
 ·exact ⟨Wd.add_d.trans Wd.add_a.symm,vs,n,hl',r⟩
 ·exact ⟨Wd.add_d.trans Wd.add_a.symm,vs,n,hl',r⟩
end
theorem cutSto_look {n:Nat} {l:List (Nat × AO)} {i:Nat} {o:AO} (h:B2 i l=some o) (lt:i < n):B2 i (G9 n l)=some (o.cut n):=by
 induction l with
 | nil=>cases h
 | cons p r ih=>
  show B2 i (match Nat.blt p.1 n with | true=>(p.1,p.2.cut n)::G9 n r | false=>G9 n r)=_
  by_cases e:i=p.1
  ·rw [<- e,Nat.blt_eq.mpr lt]
   have q:=Option.some.inj ((if_pos e).symm.trans ((B1 i p r).symm.trans h))
   rw [q]
   exact (B1 i (i,o.cut n) _).trans (if_pos rfl)
  ·have q:=ih ((if_neg e).symm.trans ((B1 i p r).symm.trans h))
   cases Nat.blt p.1 n with
   | true=>exact ((B1 i (p.1,p.2.cut n) _).trans (if_neg e)).trans q
   | false=>exact q
theorem cut_get {st:St} {n i:Nat} {o:AO} (h:st.get i=some o) (lt:i < n) (hin:o.In n):(st.cut n).get i=some o:=by
 have:=cutSto_look (n:=n) h lt
 rw [cutO_iff.mpr hin] at this
 exact this
noncomputable abbrev Ev:=A2->St->(Option AV->St->Prop)->Prop
noncomputable def TurnOK (w:World) (h₀:Heap) (A:Around) (cenv:Env) (fs:List Env) (d:Nat) (ifs:List Expr) (elt:Expr) (ev:Ev):Prop:=∀ {W:Wd} {st:St} {s:Shared} {vs:A2} {K:Option AV->St->Prop} {E:Value->Shared->Prop},
 H w h₀ A cenv vs W st s fs d->ev vs st K ->
 wpAny (Md w) A (forIn ifs true fun c r=>if r=true then do let ok <- isTrue c cenv (eval c cenv); pure (ForInStep.yield ok) else pure (ForInStep.yield r))
  (fun ok s₃=>if ok=true then wpAny (Md w) A (eval elt cenv) (PostE w h₀ W st s (kSome K)) E s₃
   else ∃ W' st',Good w h₀ W' st' s₃.heap/\Step [] W st s.heap W' st' s₃.heap/\(s₃.gens=s.gens/\s₃.os=s.os)/\K none st') E s
theorem PostX.no {w:World} {h₀:Heap} {fs:List Env} {L:Option Addr} {W:Wd} {st:St} {s s':Shared} {u:Value} (p:PostX w h₀ fs L W st s (fun Z=>False) u s'):False:=by
 obtain ⟨_,_,_,_,_,_,_,_,_,f,_⟩:=p; exact f
section
variable {d:Nat} {cl:A7}
theorem turn_plain {w:World} {h₀:Heap} {A:Around} {cenv:Env} {fs:List Env} {m:ME} {elt:Expr} (ih:A8 d cl m) (hc:A9 w.params cenv.scope m elt=true) :
  TurnOK w h₀ A cenv fs d [] elt (fun vs st k=>vcE tabs cl (fun Z=>False) m vs st fun v st=>k (some v) st):=fun {W st s vs K E} x q=>by
 rw [List.forIn_nil]
 refine wpAny_pure ?_
 rw [if_pos rfl]
 refine wpAny_mono (ih x hc q) (fun u s' p=>?_) fun Z Z p=>p.no.elim
 exact p
theorem turn_if {w:World} {h₀:Heap} {A:Around} {cenv:Env} {fs:List Env} {m c:ME} {elt f:Expr} (ih:A8 d cl m) (ihc:SemB d cl c) (hc:A9 w.params cenv.scope m elt=true) (hf:A9 w.params cenv.scope c f=true) :
  TurnOK w h₀ A cenv fs d [f] elt (fun vs st k=>vcE tabs cl (fun Z=>False) c vs st fun b st=>boolV b fun t=>cond t (vcE tabs cl (fun Z=>False) m vs st fun v st=>k (some v) st) (k none st)):=fun {W st s vs K E} x q=>by
 rw [List.forIn_cons]
 simp only [List.forIn_nil,if_true]
 refine wpAny_bind (wpAny_bind (wpAny_mono (ihc x hf q) (fun b s' p=>?_) fun Z Z p=>p.no.elim))
 refine wpAny_pure (wpAny_pure ?_)
 refine byG fun G_ k_=>?_
 obtain ⟨W',st',G,S,g,q'⟩:=p
 refine k_ ?_
 cases b with
 | false=>exact ⟨W',st',G,S,g,q'⟩
 | true=>
  rw [if_pos rfl]
  refine wpAny_mono (ih (x.step G S) hc q') (fun u s₂ p=>?_) fun Z Z p=>p.no.elim
  exact PostE.after S g p
end
noncomputable def nxOf (cut:Bool) (n m:Nat):Nat:=match cut with | true=>n | false=>m
noncomputable def stOf (cut:Bool) (n:Nat) (st:St):St:=match cut with | true=>st.cut n | false=>st
noncomputable def avOf (cut:Bool) (n:Nat) (v:AV):AV:=match cut with | true=>v.cut n | false=>v
section
variable {cut:Bool} {n m:Nat} {st:St} {v:AV}
theorem nxOf_p (P:Nat->Prop) (h:cut=true->P n) (k:P m):P (nxOf cut n m):=by
 cases cut with
 | true=>exact h rfl
 | false=>exact k
theorem stOf_p (P:St->Prop) (h:P (st.cut n)) (k:P st):P (stOf cut n st):=by
 cases cut with
 | true=>exact h
 | false=>exact k
theorem avOf_p (P:AV->Prop) (h:P (v.cut n)) (k:P v):P (avOf cut n v):=by
 cases cut with
 | true=>exact h
 | false=>exact k
theorem stOf_nx:(stOf cut n st).nx=nxOf cut n st.nx:=by cases cut<;>rfl
theorem nxOf_t (h:cut=true):nxOf cut n m=n:=by subst h; rfl
theorem avOf_in (h:v.within m=true):(avOf cut n v).within (nxOf cut n m)=true:=by
 cases cut with
 | true=>exact cut_within n v
 | false=>exact h
theorem still_at {src:Src} {i:Nat} {o:AO} (e:src=.lst i o) (h:src.still st):st.get i=some o:=by subst e; exact h
theorem still_of {src:Src} (h:src.still st) (hin:∀ i o,src=.lst i o->i < n/\o.In n):src.still (stOf cut n st):=
 stOf_p src.still (by
  cases src with
  | lst i o=>exact cut_get h (hin i o rfl).1 (hin i o rfl).2
  | vals l=>trivial) h
theorem compS_of {src:Src} {x:Nat} {vs:A2} {ev:A2->St->(Option AV->St->Prop)->Prop} {K:List AV->St->Prop} {r a b:List AV}
  (q:match cut with | true=>J6 src x cut n vs ev K r a (st.cut n) | false=>J6 src x cut n vs ev K r b st):J6 src x cut n vs ev K r (cond cut a b) (stOf cut n st):=by
 cases cut<;>exact q
theorem acc_of {acc:List AV}:cond cut (acc++[v.cut n]) (acc++[v])=acc++[avOf cut n v]:=by cases cut<;>rfl
theorem acc_no {acc:List AV}:cond cut acc acc=acc:=by cases cut<;>rfl
end
structure CI (w:World) (h₀:Heap) (W₁:Wd) (st₁:St) (s₀:Shared) (src:Src) (it D C:Addr) (x:Nat) (cut:Bool) (vs:A2) (ev:Ev) (K:List AV->St->Prop) (W':Wd) (st':St) (k:Nat) (r acc:List AV) (ys:List Value) (c:Nat) (m':Str->Option Value) (s':Shared):Prop where
 G:Good w h₀ W' st' s'.heap
 S:Step [] W₁ st₁ s₀.heap W' st' s'.heap
 g:s'.gens=s₀.gens/\s'.os=s₀.os
 I:ItAt w W' src it k s'.heap
 still:src.still st'
 drop:src.items.drop k=r
 L:IsL s'.heap D ys.toArray c
 R:VReps h₀ W' s'.heap acc ys
 wi:A5 st'.nx acc=true
 ns:s'.heap.Ns C m'
 nI:¬ Own W' st' it
 nD:¬ Own W' st' D
 nC:¬ Own W' st' C
 sz:acc.length<=k
 kl:k<=src.items.length
 cutnx:cut=true->st'.nx=st₁.nx
 Q:J6 src x cut st₁.nx vs ev K r acc st'
inductive CInv (w:World) (h₀:Heap) (W₁:Wd) (st₁:St) (s₀:Shared) (src:Src) (it D C:Addr) (x:Nat) (cut:Bool) (vs:A2) (ev:Ev) (K:List AV->St->Prop) (n:Nat) (s':Shared):Prop
 | mk (W':Wd) (st':St) (k:Nat) (r acc:List AV) (ys:List Value) (c:Nat) (m':Str->Option Value) (ci:CI w h₀ W₁ st₁ s₀ src it D C x cut vs ev K W' st' k r acc ys c m' s') (hn:n=r.length+1)
inductive Aft (w:World) (h₀:Heap) (W₁:Wd) (st₁:St) (s₀:Shared) (src:Src) (it D C:Addr) (k B:Nat) (acc:List AV) (ys:List Value) (c:Nat) (W₄:Wd) (st₄:St) (s₄:Shared):Prop
 | mk (S:Step [] W₁ st₁ s₀.heap W₄ st₄ s₄.heap) (I:ItAt w W₄ src it k s₄.heap) (L:IsL s₄.heap D ys.toArray c) (R:VReps h₀ W₄ s₄.heap acc ys) (wi:A5 B acc=true) (m:Str->Option Value) (ns:s₄.heap.Ns C m) (n1:¬ Own W₄ st₄ it) (n2:¬ Own W₄ st₄ D) (n3:¬ Own W₄ st₄ C)
section
variable {w:World} {h₀:Heap} {A:Around} {env:Env} {vs:A2} {W₁:Wd} {st₁:St} {s₀:Shared} {fs:List Env} {d:Nat}
variable {src:Src} {it D C:Addr} {x:Nat} {cut:Bool} {ev:Ev} {K:List AV->St->Prop} {scope:Scope} {cl:List (Str × Addr)} {elt iter:Expr} {px pos:Pos} {ifs:List Expr} {RR:Result->Shared->Prop}
set_option maxHeartbeats 4000000 in
theorem comp_loop (x₀:H w h₀ A env vs W₁ st₁ s₀ fs d) (hx:x < nmL.length) (co:CompOK env scope x) (h1:∀ p∈cl,env.cells.lookup p.1=some p.2) (h2:∀ p∈scope.names,p.2=.free->cl.lookup p.1=env.cells.lookup p.1)
  (turn:TurnOK w h₀ A (compEnv scope cl C env) fs d ifs elt ev)
  (dI:s₀.heap.get? it=none) (dD:s₀.heap.get? D=none) (dC:s₀.heap.get? C=none) (nID:it≠D) (nIC:it≠C) (nDC:D≠C) (hok:src.ok) (hz:src.items.length<=1000000)
  (hin:∀ i o,src=.lst i o->i < st₁.nx/\o.In st₁.nx)
  (fin:∀ W' st' k r acc ys c m' s',CI w h₀ W₁ st₁ s₀ src it D C x cut vs ev K W' st' k r acc ys c m' s'->r=[]->∀ h' tk,(∀ b o,b≠it->s'.heap.get? b=some o->h'.get? b=some o)->RR (.ok .next) {s' with heap:=h',toks:=tk})
  {n:Nat} {s:Shared} (start:CInv w h₀ W₁ st₁ s₀ src it D C x cut vs ev K n s) :
  codeAny (Md w) A (.compLoop (.ListComp elt [⟨.Name (nm x) px,iter,ifs,0⟩] scope pos) 0 (.ref it) (.ref D) (compEnv scope cl C env)) RR s:=by
 have hI0:=(x₀.G.dead dI).2
 have hD0:=(x₀.G.dead dD).2
 have hC0:=(x₀.G.dead dC).2
 refine codeAny_compLoop_tests (CInv w h₀ W₁ st₁ s₀ src it D C x cut vs ev K) ?_ n start
 intro n s' h_
 refine byG fun G_ k_=>?_
 obtain ⟨W',st',k,r,acc,ys,c,m',ci,hn⟩:=h_
 have hh:=x₀.N.handled
 cases r with
 | nil=>
  refine k_ ?_
  refine next_done hh ci.G ci.still hok ci.I ?_ fun h' tk kk=>fin W' st' k [] acc ys c m' s' ci rfl h' tk kk
  exact Nat.le_antisymm (List.drop_eq_nil_iff.mp ci.drop) ci.kl
 | cons v r=>
  refine k_ ?_
  have hv:src.items[k]?=some v:=by
   have:=congrArg List.head? ci.drop
   rwa [List.head?_drop] at this
  refine next_item hh ci.G ci.still ci.I ci.nI hv fun u h₁ tk₁ ru hw hI₁ k₁=>?_
  have hk:k < src.items.length:=(List.getElem?_eq_some_iff.mp hv).1
  obtain ⟨G₁,kt₁⟩:=ci.G.side (h':=h₁) ci.nI hI0 (K9 ci.I.data) k₁
  have S₁:=ci.S.last dI k₁ kt₁
  have L₁:=k₁ D _ nID.symm ci.L
  have ns₁:h₁.Ns C m':=ci.ns.at' fun o e=>k₁ C o nIC.symm e
  have R₁:=ci.R.mono kt₁ (fun Z Z=>rfl) ci.wi
  have ru₁:=ru.mono kt₁ (fun Z Z=>rfl) hw
  have hkl:(compEnv scope cl C env).kindOf (nm x)=some .local:=by
   show (relab env.scope scope).names.lookup (nm x)=some .local
   rw [relab_lookup,co.loc]; rfl
  have hkind:(compEnv scope cl C env).scope.kind=.function:=co.kind
  refine wpAny_assign_Name (wpAny_storeName_local hkl ns₁ (fun h₂ hn₂ hs₂=>?_) (by rw [hkind]; rfl))
  have k₂:∀ b o,b≠C->h₁.get? b=some o->h₂.get? b=some o:=fun b o hb e=>by rw [hs₂.2 b hb]; exact e
  have noT:∀ y,¬ TupD h₁ C y:=fun y ⟨o,e,_,_,_,q⟩=>by
   obtain ⟨o',es,ep,ho,hd,_⟩:=ns₁
   rw [ho] at e; cases e; rw [hd] at q; cases q
  obtain ⟨G₂,kt₂⟩:=G₁.side (h':=h₂) ci.nC hC0 noT k₂
  have S₂:=S₁.last dC k₂ kt₂
  have L₂:=k₂ D _ nDC L₁
  have R₂:=R₁.mono kt₂ (fun Z Z=>rfl) ci.wi
  have ru₂:=ru₁.mono kt₂ (fun Z Z=>rfl) hw
  have hI₂:ItAt w W' src it (k+1) h₂:=hI₁.keep (fun o e=>k₂ it o nIC e) fun Z Z Z=>rfl
  have q:=ci.Q
  have Hc:H w h₀ A (compEnv scope cl C env) (put x v vs) W' st' {s' with heap:=h₂,toks:=tk₁+1} fs d:=
   ⟨x₀.fx,G₂,(x₀.F.step x₀.G S₂).comp co hx h1 h2 hC0 ci.nC hn₂ (by simp) ru₂ hw,x₀.N.step S₂,x₀.fr⟩
  refine wpAny_mono (turn Hc q) (fun ok s₃ p=>?_) fun Z Z p=>p
  have after:∀ W₄ st₄ (s₄:Shared),Good w h₀ W₄ st₄ s₄.heap->Step [] W' st' h₂ W₄ st₄ s₄.heap->(s₄.gens=s'.gens/\s₄.os=s'.os)->src.still st₄ ->
    Aft w h₀ W₁ st₁ s₀ src it D C (k+1) st₄.nx acc ys c W₄ st₄ s₄:=fun W₄ st₄ s₄ G₄ S₄ g₄ hs₄=>by
   refine byG fun G_ k_=>?_
   obtain ⟨oi,vi,hi,di⟩:=hI₂.data
   obtain ⟨oc,_,_,hc,_⟩:=id hn₂
   refine k_ ?_
   refine ⟨S₂.trans S₄,hI₂.keep (fun o e=>?_) (fun i o e=>(S₄.agree i (ci.G.low i (by rw [still_at e ci.still]; rfl))).1),(S₄.evo D List.not_mem_nil ci.nD).same L₂ (fun Z Z q=>by cases q),S₄.vals R₂ ci.wi,I4 S₄.nx ci.wi,_,(S₄.evo C List.not_mem_nil ci.nC).ns hn₂,S₄.noOwn ci.nI ⟨_,hi⟩,S₄.noOwn ci.nD ⟨_,L₂⟩,S₄.noOwn ci.nC ⟨_,hc⟩⟩
   refine (S₄.evo it List.not_mem_nil ci.nI).same e fun es n q=>?_
   have q:=((congrArg Obj.data (Option.some.inj (hi.symm.trans e))).symm.trans di).symm.trans q
   cases q
  have fwd:∀ (W₅:Wd) (st₅:St) (s₅:Shared) (acc':List AV) (ys':List Value) (c':Nat),Good w h₀ W₅ st₅ s₅.heap->Aft w h₀ W₁ st₁ s₀ src it D C (k+1) (nxOf cut st₁.nx st₅.nx) acc' ys' c' W₅ st₅ s₅->(s₅.gens=s'.gens/\s₅.os=s'.os)->src.still st₅->acc'.length<=k+1->J6 src x cut st₁.nx vs ev K r acc' (stOf cut st₁.nx st₅) ->
    ∃ m,m < n/\CInv w h₀ W₁ st₁ s₀ src it D C x cut vs ev K m s₅:=fun W₅ st₅ s₅ acc' ys' c' G₅ a g₅ hs₅ sz₅ q₅=>by
   obtain ⟨S₅,I₅,L₅,R₅,wi₅,m₅,ns₅,n1,n2,n3⟩:=a
   have dr:src.items.drop (k+1)=r:=by
    rw [<- List.drop_drop,ci.drop]; rfl
   exact ⟨r.length+1,by rw [hn]; exact Nat.lt_succ_self _,W₅,stOf cut st₁.nx st₅,k+1,r,acc',ys',c',m₅,⟨stOf_p (fun s=>Good w h₀ W₅ s s₅.heap) G₅.cut G₅,stOf_p (fun s=>Step [] W₁ st₁ s₀.heap W₅ s s₅.heap) S₅.cut S₅,⟨g₅.1.trans ci.g.1,g₅.2.trans ci.g.2⟩,I₅,still_of hs₅ hin,dr,L₅,R₅,stOf_nx▸wi₅,ns₅,
    stOf_p (fun s=>¬ Own W₅ s it) (fun o=>n1 (own_cut o)) n1,stOf_p (fun s=>¬ Own W₅ s D) (fun o=>n2 (own_cut o)) n2,stOf_p (fun s=>¬ Own W₅ s C) (fun o=>n3 (own_cut o)) n3,sz₅,hk,fun h=>stOf_nx.trans (nxOf_t h),q₅⟩,rfl⟩
  refine iteG (fun hok'=>?_) (fun hok'=>?_)
  ·replace p:=iteT p hok'
   refine wpAny_mono p (fun u₄ s₄ p=>?_) fun Z Z p=>p
   obtain ⟨W₄,st₄,v₄,G₄,S₄,g₄,r₄,hw₄,q₄⟩:=p
   obtain ⟨hs₄,q₄⟩:=Src.go_e q₄
   obtain ⟨S₅,I₅,L₅,R₅,wi₅,m₅,ns₅,n1,n2,n3⟩:=after W₄ st₄ s₄ G₄ S₄ g₄ hs₄
   have hl:=R₅.length
   have hsz:=ci.sz
   have:=sizeM
   refine call_meets PySem.F.slot_list_append ⟨_,L₅,rfl⟩ PySem.F.entry_list_append (PySem.F.args_list_append_2 _ _) (PySem.list_append D _ c u₄ (List.size_toArray▸((zgw (i:=1000001) (j:=1000000) (k:=0) (l:=0) (zg (b:=0) (i:=1) (j:=1000000) (k:=1000000) (l:=0) (zg (c:=0) (i:=1) (j:=0) (k:=0) (l:=1000000) (zlt (zll (zqs hl) hsz) hk) hz) this) rfl)))) ⟨L₅,?_⟩
   have L₆:=L₅.update (·.push u₄)
   rw [show ys.toArray.push u₄=(ys++[u₄]).toArray by simp] at L₆
   have k₆:∀ b o,b≠D->s₄.heap.get? b=some o->(s₄.heap.update D (Obj.mapSeq (·.push u₄))).get? b=some o:=fun b o hb e=>(Heap.get?_update_other _ _ (Ne.symm hb)).trans e
   have noD:∀ y,¬ TupD s₄.heap D y:=fun y ⟨o,e,c,_⟩=>by
    have L₅':s₄.heap.get? D=_:=L₅
    rw [L₅'] at e; cases e; injection c with c; exact absurd c (by decide)
   obtain ⟨G₆,kt₆⟩:=G₄.side (h':=s₄.heap.update D (Obj.mapSeq (·.push u₄))) n2 hD0 noD k₆
   have S₆:=S₅.last dD k₆ kt₆
   have R₆:=R₅.mono kt₆ (fun Z Z=>rfl) wi₅
   have r₆:=r₄.mono kt₆ (fun Z Z=>rfl) hw₄
   have I₆:ItAt w W₄ src it (k+1) (s₄.heap.update D (Obj.mapSeq (·.push u₄))):=I₅.keep (fun o e=>k₆ it o nID e) fun Z Z Z=>rfl
   have ns₆:(s₄.heap.update D (Obj.mapSeq (·.push u₄))).Ns C m₅:=ns₅.at' fun o e=>k₆ C o nDC.symm e
   have q₅:J6 src x cut st₁.nx vs ev K r (acc++[avOf cut st₁.nx v₄]) (stOf cut st₁.nx st₄):=by rw [<- acc_of]; exact compS_of q₄
   refine fwd W₄ st₄ _ (acc++[avOf cut st₁.nx v₄]) (ys++[u₄]) _ G₆ ⟨S₆,I₆,L₆,R₆.append (.cons ?_ .nil),?_,m₅,ns₆,n1,n2,n3⟩ g₄ hs₄ (by simp; exact hsz) q₅
   ·exact avOf_p (fun v=>VRep h₀ W₄ _ v u₄) r₆.cut r₆
   ·rw [withinAll_iff]; intro y hy
    rcases List.mem_append.mp hy with hy | hy
    ·have h3:=withinAll_iff.mp wi₅ y hy
     have h4:=withinAll_iff.mp ci.wi y hy
     exact nxOf_p (fun n=>y.within n=true) (fun h=>by rw [<- ci.cutnx h]; exact h4) h3
    ·rw [List.mem_singleton.mp hy]; exact avOf_in hw₄
  ·replace p:=iteF p hok'
   refine byG fun G_ k_=>?_
   obtain ⟨W₄,st₄,G₄,S₄,g₄,q₄⟩:=p
   obtain ⟨hs₄,q₄⟩:=Src.go_e q₄
   obtain ⟨S₅,I₅,L₅,R₅,wi₅,m₅,ns₅,n1,n2,n3⟩:=after W₄ st₄ s₃ G₄ S₄ g₄ hs₄
   refine k_ ?_
   have hsz:=ci.sz
   refine fwd W₄ st₄ s₃ acc ys c G₄ ⟨S₅,I₅,L₅,R₅,?_,m₅,ns₅,n1,n2,n3⟩ g₄ hs₄ (by exact (zgw (i:=0) (j:=0) (k:=0) (l:=1) hsz rfl)) ?_
   ·exact nxOf_p (fun n=>A5 n acc=true) (fun h=>by rw [<- ci.cutnx h]; exact ci.wi) wi₅
   ·rw [<- acc_no (cut:=cut) (acc:=acc)]; exact compS_of q₄
end
theorem ItAt.self {w:World} {A:Around} {E:Value->Shared->Prop} {s:Shared} {W:Wd} {src:Src} {it:Addr} {k:Nat} {Q:Value->Shared->Prop} (hh:A.handled=none) (I:ItAt w W src it k s.heap) (q:Q (.ref it) s):wpAny (Md w) A (pyIter (.ref it)) Q E s:=by
 cases src with
 | lst i o=>exact wpAny_pyIter_listiter I q
 | vals l=>
  refine byG fun G_ k_=>?_
  obtain ⟨P,St,a1,a2,a3,a4⟩:=I
  refine k_ ?_
  exact (a1 A hh).self k s Q E a4 q
theorem noFold {P:Params} {sc:Scope} {m:MI} {iter:Expr} {env:Env} (h:chkI P sc m iter=true):∀ x,foldedSetIterable iter env x=pure x:=by
 intro x
 unfold foldedSetIterable
 cases iter<;>first | rfl | skip
 exfalso
 cases m<;>first | exact Bool.noConfusion h | skip
section
variable {w:World} {h₀:Heap} {A:Around} {env:Env} {vs:A2} {W₁:Wd} {st₁:St} {s₀:Shared} {fs:List Env} {d:Nat}
variable {src:Src} {it D C:Addr} {x:Nat} {cut:Bool} {ev:Ev} {K:List AV->St->Prop} {scope:Scope} {cl:List (Str × Addr)} {elt iter:Expr} {px pos:Pos} {ifs:List Expr}
theorem comp_end {ground:Bool} {Q:AV->St->Prop} {W':Wd} {st':St} {k:Nat} {acc:List AV} {ys:List Value} {c:Nat} {m':Str->Option Value} {s':Shared} {h₇ h₈:Heap} {tk:Nat} (x₀:H w h₀ A env vs W₁ st₁ s₀ fs d)
  (dI:s₀.heap.get? it=none) (dD:s₀.heap.get? D=none) (dC:s₀.heap.get? C=none) (nID:it≠D) (nIC:it≠C) (nDC:D≠C)
  (ci:CI w h₀ W₁ st₁ s₀ src it D C x cut vs ev (compEnd ground Q) W' st' k [] acc ys c m' s') (k₇:∀ b o,b≠it->s'.heap.get? b=some o->h₇.get? b=some o) (k₈:∀ b o,b≠C->h₇.get? b=some o->h₈.get? b=some o) :
  PostE w h₀ W₁ st₁ s₀ Q (.ref D) {s' with heap:=h₈,toks:=tk}:=by
 obtain ⟨G₇,kt₇⟩:=ci.G.side (h':=h₇) ci.nI (x₀.G.dead dI).2 (K9 ci.I.data) k₇
 have S₇:=ci.S.last dI k₇ kt₇
 have ns₇:h₇.Ns C m':=ci.ns.at' fun o e=>k₇ C o nIC.symm e
 have noT:∀ y,¬ TupD h₇ C y:=fun y ⟨o,e,_,_,_,q⟩=>by
  obtain ⟨o',es,ep,ho,hd,_⟩:=ns₇
  rw [ho] at e; cases e; rw [hd] at q; cases q
 obtain ⟨G₈,kt₈⟩:=G₇.side (h':=h₈) ci.nC (x₀.G.dead dC).2 noT k₈
 have S₈:=S₇.last dC k₈ kt₈
 have L₈:IsL h₈ D ys.toArray c:=k₈ D _ nDC (k₇ D _ nID.symm ci.L)
 have R₈:=(ci.R.mono kt₇ (fun Z Z=>rfl) ci.wi).mono kt₈ (fun Z Z=>rfl) ci.wi
 have q:compEnd ground Q acc st':=ci.Q
 have hD0:=(x₀.G.dead dD).2
 cases ground with
 | true=>
  obtain ⟨l,hl,q⟩:=ofO_c q
  obtain ⟨G₉,S₉⟩:=G₈.adopt S₈ dD ci.nD hD0 L₈ (o:=.gl l) (fun W' hW=>.inl ⟨l,rfl,grounds_rep R₈ hl⟩) trivial
  exact ⟨_,_,.obj st'.nx,G₉,S₉,ci.g,objNew,K2,q⟩
 | false=>
  obtain ⟨G₉,S₉⟩:=G₈.adopt S₈ dD ci.nD hD0 L₈ (o:=.ol acc) (fun W' hW=>.inr ⟨acc,rfl,R₈.mono (fun Z Z e=>e) hW ci.wi⟩) ci.wi
  exact ⟨_,_,.obj st'.nx,G₉,S₉,ci.g,objNew,K2,q⟩
set_option maxHeartbeats 4000000 in
theorem comp_block {u:Value} {E:Value->Shared->Prop} {RR:Value->Addr->Result->Shared->Prop} (x₀:H w h₀ A env vs W₁ st₁ s₀ fs d) (I:IterBl W₁ st₁ src u s₀.heap) (hz:src.items.length<=1000000) (q:J6 src x cut st₁.nx vs ev K src.items [] st₁)
  (hx:x < nmL.length) (co:CompOK env scope x) (h1:∀ p∈cl,env.cells.lookup p.1=some p.2) (h2:∀ p∈scope.names,p.2=.free->cl.lookup p.1=env.cells.lookup p.1)
  (turn:∀ C,TurnOK w h₀ A (compEnv scope cl C env) fs d ifs elt ev)
  (fin:∀ it D C,s₀.heap.get? it=none->s₀.heap.get? D=none->s₀.heap.get? C=none->it≠D->it≠C->D≠C->∀ W' st' k acc ys c m' s',CI w h₀ W₁ st₁ s₀ src it D C x cut vs ev K W' st' k [] acc ys c m' s' ->
   ∀ h' tk,(∀ b o,b≠it->s'.heap.get? b=some o->h'.get? b=some o)->RR (.ref D) C (.ok .next) {s' with heap:=h',toks:=tk}) :
  wpAny (Md w) A (pyIter u) (fun itv s₂=>wpAny (Md w) A (newList []) (fun acc s₃=>wpAny (Md w) A (newFunctionEnv scope env.globals cl [] env.qual none .none (some env)) (fun cenv s₄=>
   codeAny (Md w) A (.compStart (.ListComp elt [⟨.Name (nm x) px,iter,ifs,0⟩] scope pos) 0 itv acc {cenv with scope:=relabel scope env}) (RR acc cenv.locals) s₄) E s₃) E s₂) E s₀:=by
 refine iter_ok x₀.G I fun o It=>?_
 have hcell:∀ y∈scope.names,y.2≠.cell:=fun y hy e=>by
  rcases co.all y hy with a | a | ⟨a,_⟩<;>rw [a] at e<;>cases e
 generalize hH1:s₀.heap.push o=H1 at It
 have hs1:H1.objs.size=s₀.heap.objs.size+1:=by rw [<- hH1,Heap.size_push]
 refine wpAny_newObj_type (wpAny_newFunctionEnv hcell (by intro y hy; simp at hy) (fun h₁ hns₁ hsb₁=>?_) co.kind)
 dsimp only at hns₁ hsb₁ ⊢
 generalize hH2:H1.push {cls:=.type "list",dict:=none,data:=.seq ([]:List Value).toArray}=H2 at hns₁ hsb₁ ⊢
 have hs2:H2.objs.size=s₀.heap.objs.size+2:=by rw [<- hH2,Heap.size_push,hs1]
 have dead:∀ b,s₀.heap.objs.size<=b->s₀.heap.get? b=none:=fun b hb=>G7 hb
 have k1:∀ b o,s₀.heap.get? b=some o->H1.get? b=some o:=fun b o' e=>hH1▸(Heap.get?_push_of_some _ e)
 have k2:∀ b o,H1.get? b=some o->H2.get? b=some o:=fun b o' e=>hH2▸(Heap.get?_push_of_some _ e)
 have k3:∀ b o,b≠H2.objs.size->H2.get? b=some o->h₁.get? b=some o:=fun b o' hb e=>by
  rw [hsb₁.2 b hb]; exact Heap.get?_push_of_some _ e
 refine byG fun G_ k_=>?_
 have neI:s₀.heap.objs.size≠H2.objs.size:=by lia
 have neID:s₀.heap.objs.size≠H1.objs.size:=by lia
 have neD:H1.objs.size≠H2.objs.size:=by lia
 have old:∀ b o,s₀.heap.get? b=some o->h₁.get? b=some o:=fun b o' e=>k3 b o' (Nat.ne_of_lt (Nat.lt_of_lt_of_le (Heap.lt_size e) (by exact (zgw (i:=2) (j:=0) (k:=0) (l:=0) (zqs hs2) rfl)))) (k2 b o' (k1 b o' e))
 obtain ⟨G₁,S₁⟩:=x₀.G.grow old
 have L₁:IsL h₁ H1.objs.size ([]:List Value).toArray 0:=k3 _ _ neD (hH2▸(Heap.get?_push_size _ rfl))
 have I₁:ItAt w W₁ src s₀.heap.objs.size 0 h₁:=It.keep (fun o' e=>k3 _ o' neI (k2 _ o' e)) fun Z Z Z=>rfl
 obtain ⟨hok,hst,_⟩:=id I
 have dI:=dead s₀.heap.objs.size (Nat.le_refl _)
 have dD:=dead H1.objs.size (by exact (zle (zsu hs1)))
 have dC:=dead H2.objs.size (by exact (zgw (i:=2) (j:=0) (k:=0) (l:=0) (zqs hs2) rfl))
 refine k_ ?_
 have hin:∀ i o,src=.lst i o->i < st₁.nx/\o.In st₁.nx:=fun i o e=>by
  subst e
  have hst:st₁.get i=some o:=hst
  exact ⟨x₀.G.low i (by rw [hst]; rfl),x₀.G.inn hst⟩
 have loop:∀ s₃:Shared,s₃={s₀ with heap:=h₁,toks:=s₀.toks+([]:List (Str × Value)).length} ->
   codeAny (Md w) A (.compLoop (.ListComp elt [⟨.Name (nm x) px,iter,ifs,0⟩] scope pos) 0 (.ref s₀.heap.objs.size) (.ref H1.objs.size) (compEnv scope cl H2.objs.size env)) (RR (.ref H1.objs.size) H2.objs.size) s₃:=by
  rintro s₃ rfl
  refine comp_loop x₀ hx co h1 h2 (turn _) dI dD dC neID neI neD hok hz hin (fun W' st' k r acc ys c m' s' ci hr h' tk kk=>?_) ⟨W₁,st₁,0,src.items,[],[],0,_,⟨G₁,S₁,⟨rfl,rfl⟩,I₁,hst,rfl,L₁,.nil,rfl,hns₁,(x₀.G.dead dI).1,(x₀.G.dead dD).1,(x₀.G.dead dC).1,Nat.le_refl _,Nat.zero_le _,fun Z=>rfl,q⟩,rfl⟩
  subst hr
  exact fin _ _ _ dI dD dC neID neI neD W' st' k acc ys c m' s' ci h' tk kk
 exact codeAny_compStart_list (loop _ rfl) (ItAt.self x₀.N.handled I₁ (loop _ rfl))
end
section
variable {d:Nat} {cl:A7}
theorem names_same {env:Env} {scope:Scope} {x:Nat} (c:CompOK env scope x):∀ y∈scope.names,y.2=.local->scope.names.lookup y.1=some .local:=fun y hy e=>by rw [c.same y hy,e]
theorem frees {w:World} {h₀:Heap} {A:Around} {env:Env} {vs:A2} {W:Wd} {st:St} {s:Shared} {fs:List Env} {scope:Scope} {x:Nat} (h:H w h₀ A env vs W st s fs d) (c:CompOK env scope x):∀ p∈scope.names,p.2=.free->∃ a,env.cells.lookup p.1=some a:=fun p hp e=>by
 rcases c.all p hp with q | q | ⟨_,q⟩
 ·rw [q] at e; cases e
 ·rw [q] at e; cases e
 ·exact h.F.cellAll p.1 q
theorem se_comp {m:ME} {mi:MI} (ih:A8 d cl m) (ihi:SemI d cl mi) (cut ground x):A8 d cl (.comp cut ground m x mi):=fun {w h₀ A env vs W st s fs Q X e} h hc q=>by
 refine onComp_e hc fun elt gens scope pos hc=>onGen_e hc fun id px iter ff hc=>on0_e hc fun hc=>and5 hc fun hi hx h3 h4 h5=>?_
 obtain rfl:=beq_iff_eq.mp hi
 have hx:=Nat.blt_eq.mp hx
 have co:=comp_ok h3
 obtain ⟨cs,e1,e2,e3⟩:=clos_ok (frees h co)
 skip
 show wpAny _ _ _ _ _ _
 rw [eval_ListComp]
 refine wpAny_comprehension_free (use:=none) rfl (noFold h4) e1 co.kind (names_same co) (wpAny_mono (ihi h h4 q) (fun u s₁ p=>?_) fun Z Z p=>p)
 refine byG fun G_ k_=>?_
 obtain ⟨W',st',src,G,S,g,I,q'⟩:=p
 obtain ⟨hz,q'⟩:=cB q'
 have x':=h.step G S
 refine k_ ?_
 refine comp_block (RR:=fun acc C=>compPost (Md w) A (PostX w h₀ fs none W st s X) none (PostE w h₀ W st s Q) acc C) x' I hz q' hx co e2 e3 (fun C=>turn_plain ih h5) ?_
 intro it D C dI dD dC n1 n2 n3 W₂ st₂ k acc ys c m' s' ci h' tk kk
 exact ⟨m',ci.ns.at' fun o e=>kk C o n2.symm e,fun h'' hs=>PostE.after S g (comp_end (s':=s') (h₇:=h') (h₈:=h'') (tk:=tk) x' dI dD dC n1 n2 n3 ci kk fun b o hb e=>by rw [hs.2 b hb]; exact e)⟩
theorem se_compIf {m c₀:ME} {mi:MI} (ih:A8 d cl m) (ihc:SemB d cl c₀) (ihi:SemI d cl mi) (cut ground x):A8 d cl (.compIf cut ground m x mi c₀):=fun {w h₀ A env vs W st s fs Q X e} h hc q=>by
 refine onComp_e hc fun elt gens scope pos hc=>onGen_e hc fun id px iter ff hc=>one_e hc fun f hc=>and6 hc fun hi hx h3 h4 h5 h6=>?_
 obtain rfl:=beq_iff_eq.mp hi
 have hx:=Nat.blt_eq.mp hx
 have co:=comp_ok h3
 obtain ⟨cs,e1,e2,e3⟩:=clos_ok (frees h co)
 skip
 show wpAny _ _ _ _ _ _
 rw [eval_ListComp]
 refine wpAny_comprehension_free (use:=none) rfl (noFold h4) e1 co.kind (names_same co) (wpAny_mono (ihi h h4 q) (fun u s₁ p=>?_) fun Z Z p=>p)
 refine byG fun G_ k_=>?_
 obtain ⟨W',st',src,G,S,g,I,q'⟩:=p
 obtain ⟨hz,q'⟩:=cB q'
 have x':=h.step G S
 refine k_ ?_
 refine comp_block (RR:=fun acc C=>compPost (Md w) A (PostX w h₀ fs none W st s X) none (PostE w h₀ W st s Q) acc C) x' I hz q' hx co e2 e3 (fun C=>turn_if ih ihc h5 h6) ?_
 intro it D C dI dD dC n1 n2 n3 W₂ st₂ k acc ys c m' s' ci h' tk kk
 exact ⟨m',ci.ns.at' fun o e=>kk C o n2.symm e,fun h'' hs=>PostE.after S g (comp_end (s':=s') (h₇:=h') (h₈:=h'') (tk:=tk) x' dI dD dC n1 n2 n3 ci kk fun b o hb e=>by rw [hs.2 b hb]; exact e)⟩
end
set_option tactic.hygienic true
noncomputable def notO (o:UnaryOp):Bool:=match o with | .Not=>true | _=>false
noncomputable def E7 (e:Expr):Bool:=!eOn e (un:=fun o Z=>notO o) (bool:=fun Z Z Z=>true) (iff:=fun Z Z Z=>true) (cmp:=fun Z Z Z=>true)
theorem isTrue_plain {e:Expr} {env:Env} (h:E7 e=true):PySem.isTrue e env (eval e env)=(do let v <- eval e env; standAt e.pos; holding [v] (truthy v)):=by
 cases e<;>first | rfl | exact Bool.noConfusion h | skip
 rename_i o _ _
 cases o<;>first | rfl | exact Bool.noConfusion h
section
variable {d:Nat} {cl:A7}
theorem sb_of {m:ME} (ih:A8 d cl m) (hp:∀ P sc e,A9 P sc m e=true->E7 e=true):SemB d cl m:=fun {w Z Z env Z Z Z Z Z Z Z e} x hc q=>
 sb_plain ih x hc q (isTrue_plain (hp _ _ e hc))
theorem pl_none:∀ P sc e,A9 P sc .none e=true->E7 e=true:=fun Z Z Z hc=>isNo_e hc fun Z Z=>rfl
theorem pl_bool (b):∀ P sc e,A9 P sc (.bool b) e=true->E7 e=true:=fun Z Z Z hc=>onCst_e hc fun Z Z Z Z=>rfl
theorem pl_int (b):∀ P sc e,A9 P sc (.int b) e=true->E7 e=true:=fun Z Z Z hc=>onCst_e hc fun Z Z Z Z=>rfl
theorem pl_str (b):∀ P sc e,A9 P sc (.str b) e=true->E7 e=true:=fun Z Z Z hc=>onCst_e hc fun Z Z Z Z=>rfl
theorem pl_var (b):∀ P sc e,A9 P sc (.var b) e=true->E7 e=true:=fun Z Z Z hc=>F7 hc fun Z Z Z=>rfl
theorem pl_gint (b):∀ P sc e,A9 P sc (.gint b) e=true->E7 e=true:=fun Z Z Z hc=>F7 hc fun Z Z Z=>rfl
theorem pl_attr (a b):∀ P sc e,A9 P sc (.attr a b) e=true->E7 e=true:=fun Z Z Z hc=>onAttr_e hc fun Z Z Z Z=>rfl
theorem pl_bin (o a b):∀ P sc e,A9 P sc (.bin o a b) e=true->E7 e=true:=fun Z Z Z hc=>onBin_e hc fun Z Z Z Z Z=>rfl
theorem pl_neg (a):∀ P sc e,A9 P sc (.neg a) e=true->E7 e=true:=fun Z Z Z hc=>onUn_e hc fun o Z Z hc=>by cases o<;>first | rfl | exact Bool.noConfusion hc
theorem pl_call (a b):∀ P sc e,A9 P sc (.call a b) e=true->E7 e=true:=fun Z Z Z hc=>onFn_e hc fun Z Z Z Z Z=>rfl
theorem pl_new (a b):∀ P sc e,A9 P sc (.new a b) e=true->E7 e=true:=fun Z Z Z hc=>onFn_e hc fun Z Z Z Z Z=>rfl
theorem pl_meth (a b c):∀ P sc e,A9 P sc (.meth a b c) e=true->E7 e=true:=fun Z Z Z hc=>onCall_e hc fun Z Z Z Z Z=>rfl
theorem pl_len (a):∀ P sc e,A9 P sc (.len a) e=true->E7 e=true:=fun Z Z Z hc=>onB1_e hc fun Z Z Z Z Z Z Z=>rfl
theorem pl_chr (a):∀ P sc e,A9 P sc (.chr a) e=true->E7 e=true:=fun Z Z Z hc=>onB1_e hc fun Z Z Z Z Z Z Z=>rfl
theorem pl_ord (a):∀ P sc e,A9 P sc (.ord a) e=true->E7 e=true:=fun Z Z Z hc=>onB1_e hc fun Z Z Z Z Z Z Z=>rfl
theorem pl_sorted (a):∀ P sc e,A9 P sc (.sorted a) e=true->E7 e=true:=fun Z Z Z hc=>onB1_e hc fun Z Z Z Z Z Z Z=>rfl
theorem pl_listOf (a):∀ P sc e,A9 P sc (.listOf a) e=true->E7 e=true:=fun Z Z Z hc=>onB1_e hc fun Z Z Z Z Z Z Z=>rfl
theorem pl_dictOf (a):∀ P sc e,A9 P sc (.dictOf a) e=true->E7 e=true:=fun Z Z Z hc=>onB1_e hc fun Z Z Z Z Z Z Z=>rfl
theorem pl_isinst (a b):∀ P sc e,A9 P sc (.isinst a b) e=true->E7 e=true:=fun Z Z Z hc=>onFn_e hc fun Z Z Z Z Z=>rfl
theorem pl_sub (a b):∀ P sc e,A9 P sc (.sub a b) e=true->E7 e=true:=fun Z Z Z hc=>onSub_e hc fun Z Z Z Z=>rfl
theorem pl_upto (a b):∀ P sc e,A9 P sc (.upto a b) e=true->E7 e=true:=fun Z Z Z hc=>onSub_e hc fun Z Z Z Z=>rfl
theorem pl_from (a b):∀ P sc e,A9 P sc (.from_ a b) e=true->E7 e=true:=fun Z Z Z hc=>onSub_e hc fun Z Z Z Z=>rfl
theorem pl_rep (a b):∀ P sc e,A9 P sc (.rep a b) e=true->E7 e=true:=fun Z Z Z hc=>onBin_e hc fun Z Z Z Z Z=>rfl
theorem pl_list (a):∀ P sc e,A9 P sc (.list a) e=true->E7 e=true:=fun Z Z Z hc=>onList_e hc fun Z Z Z=>rfl
theorem pl_tuple (a):∀ P sc e,A9 P sc (.tuple a) e=true->E7 e=true:=fun Z Z Z hc=>onTuple_e hc fun Z Z Z Z=>rfl
theorem pl_dict0:∀ P sc e,A9 P sc .dict0 e=true->E7 e=true:=fun Z Z Z hc=>onDict_e hc fun Z Z Z Z=>rfl
theorem pl_comp (a b c f g):∀ P sc e,A9 P sc (.comp a b c f g) e=true->E7 e=true:=fun Z Z Z hc=>onComp_e hc fun Z Z Z Z Z=>rfl
theorem pl_compIf (a b c f g h):∀ P sc e,A9 P sc (.compIf a b c f g h) e=true->E7 e=true:=fun Z Z Z hc=>onComp_e hc fun Z Z Z Z Z=>rfl
theorem both {m:ME} (h:A8 d cl m) (hp:∀ P sc e,A9 P sc m e=true->E7 e=true):A8 d cl m/\SemB d cl m:=⟨h,sb_of h hp⟩
mutual
theorem A4 (ok:CallOK d cl):∀ m:ME,A8 d cl m/\SemB d cl m
 | .none=>both (se_none d cl) pl_none
 | .bool b=>both (se_bool b) (pl_bool b)
 | .int b=>both (se_int b) (pl_int b)
 | .str b=>both (se_str b) (pl_str b)
 | .var b=>both (se_var b) (pl_var b)
 | .gint b=>both (se_gint b) (pl_gint b)
 | .attr e a=>both (se_attr (A4 ok e).1 a) (pl_attr e a)
 | .bin op l r=>both (se_bin (A4 ok l).1 (A4 ok r).1 op) (pl_bin op l r)
 | .neg e=>both (se_neg (A4 ok e).1) (pl_neg e)
 | .not e=>⟨se_not (A4 ok e).1,sb_not (A4 ok e).2⟩
 | .and l r=>⟨se_and (A4 ok l).1 (A4 ok r).1,sb_and (A4 ok l).2 (A4 ok r).2⟩
 | .or l r=>⟨se_or (A4 ok l).1 (A4 ok r).1,sb_or (A4 ok l).2 (A4 ok r).2⟩
 | .cmp op l r=>⟨se_cmp (A4 ok l).1 (A4 ok r).1 op,sb_cmp op (se_cmp (A4 ok l).1 (A4 ok r).1 op)⟩
 | .cmp2 o1 o2 l m r=>⟨se_cmp2 (A4 ok l).1 (A4 ok m).1 (A4 ok r).1 o1 o2,sb_cmp2 (A4 ok l).1 (A4 ok m).1 (A4 ok r).1 o1 o2⟩
 | .isNone e=>⟨se_isNone (A4 ok e).1,sb_isNone (se_isNone (A4 ok e).1)⟩
 | .notNone e=>⟨se_notNone (A4 ok e).1,sb_notNone (se_notNone (A4 ok e).1)⟩
 | .inn l r=>⟨se_inn (A4 ok l).1 (A4 ok r).1,sb_inn (se_inn (A4 ok l).1 (A4 ok r).1)⟩
 | .notIn l r=>⟨se_notIn (A4 ok l).1 (A4 ok r).1,sb_notIn (se_notIn (A4 ok l).1 (A4 ok r).1)⟩
 | .ite t a b=>⟨se_ite (A4 ok t).2 (A4 ok a).1 (A4 ok b).1,sb_ite (A4 ok t).2 (A4 ok a).2 (A4 ok b).2⟩
 | .call f args=>both (se_call ok (SemL.to (sem_l ok args)) f) (pl_call f args)
 | .new c args=>both (se_new ok (SemL.to (sem_l ok args)) c) (pl_new c args)
 | .meth o m args=>both (se_meth ok (A4 ok o).1 (SemL.to (sem_l ok args)) m) (pl_meth o m args)
 | .len e=>both (se_len (A4 ok e).1) (pl_len e)
 | .chr e=>both (se_chr (A4 ok e).1) (pl_chr e)
 | .ord e=>both (se_ord (A4 ok e).1) (pl_ord e)
 | .sorted e=>both (se_sorted (A4 ok e).1) (pl_sorted e)
 | .listOf e=>both (se_listOf (A4 ok e).1) (pl_listOf e)
 | .dictOf e=>both (se_dictOf (A4 ok e).1) (pl_dictOf e)
 | .isinst e t=>both (se_isinst (A4 ok e).1 t) (pl_isinst e t)
 | .sub o i=>both (se_sub (A4 ok o).1 (A4 ok i).1) (pl_sub o i)
 | .upto o i=>both (se_upto (A4 ok o).1 (A4 ok i).1) (pl_upto o i)
 | .from_ o i=>both (se_from (A4 ok o).1 (A4 ok i).1) (pl_from o i)
 | .rep e k=>both (se_rep (A4 ok e).1 (A4 ok k).1) (pl_rep e k)
 | .list es=>both (se_list (sem_l ok es)) (pl_list es)
 | .tuple es=>both (se_tuple (sem_l ok es)) (pl_tuple es)
 | .dict0=>both se_dict0 pl_dict0
 | .comp c g e x it=>both (se_comp (A4 ok e).1 (sem_i ok it) c g x) (pl_comp c g e x it)
 | .compIf c g e x it f=>both (se_compIf (A4 ok e).1 (A4 ok f).2 (sem_i ok it) c g x) (pl_compIf c g e x it f)
theorem sem_l (ok:CallOK d cl):∀ m:MEs,SemL d cl m
 | .nil=>sl_nil
 | .cons e r=>sl_cons (A4 ok e).1 (sem_l ok r)
theorem sem_i (ok:CallOK d cl):∀ m:MI,SemI d cl m
 | .range1 a=>si_range1 (A4 ok a).1
 | .range2 a b=>si_range2 (A4 ok a).1 (A4 ok b).1
 | .range3 a b c=>si_range3 (A4 ok a).1 (A4 ok b).1 (A4 ok c).1
 | .over e=>si_over (A4 ok e).1
end
end
set_option tactic.hygienic false
noncomputable def H3 (env:Env):List Addr:=env.locals::env.cells.map (·.2)
structure HS (w:World) (h₀:Heap) (A:Around) (env:Env) (outer:List Env) (vs:A2) (W:Wd) (st:St) (s:Shared) (d:Nat):Prop where
 h:H w h₀ A env vs W st s (env::outer) d
 frame:env.frame=some env.locals
 nodup:(env.cells.map (·.2)).Nodup
noncomputable def MadeX (hid:List Addr) (hX:Heap) (fs:List Env) (e:Addr) (h:Heap):Prop:=
 (hideAll hX hid).StaysIn h/\(hideAll hX hid).get? e=none/\h.FunFrames (hideAll hX hid) fs/\(∃ oe vs a0,h.get? e=some oe/\oe.cls=.ref 70/\oe.data=.fields vs/\vs[0]?=some a0/\vs[1]?=some .none)/\hX.UpToSlots h
inductive PostXS (w:World) (h₀:Heap) (fs:List Env) (ex:List Addr) (L:Addr) (W:Wd) (st:St) (s:Shared) (X:St->Prop) (u:Value) (s':Shared):Prop where
 | mk (W':Wd) (st':St) (hX:Heap) (hid:List Addr) (e:Addr) (he:u=.ref e) (G:Good w h₀ W' st' hX) (S:Step ex W st s.heap W' st' hX) (g:s'.gens=s.gens/\s'.os=s.os) (q:X st')
  (i:∀ b∈hid,h₀.get? b=none/\¬ Own W' st' b/\∃ o es n,hX.get? b=some o/\o.data=.dict es n)
  (f:MadeX hid hX fs e s'.heap\/Flies hid hX fs e s'.heap\/Held hid hX fs e L s'.heap):PostXS w h₀ fs ex L W st s X u s'
noncomputable def FlowIs (h₀:Heap) (env:Env) (W':Wd) (st':St) (h:Heap) (N:A2->St->Prop) (R:AV->St->Prop) (f:Flow):Prop:=match f with
  | .next=>∃ vs',Frm h₀ env vs' W' st' h/\N vs' st'
  | .ret u=>∃ v,VRep h₀ W' h v u/\v.within st'.nx=true/\R v st'
  | _=>False
inductive PostF (w:World) (h₀:Heap) (env:Env) (outer:List Env) (W:Wd) (st:St) (s:Shared) (N:A2->St->Prop) (R:AV->St->Prop) (f:Flow) (s':Shared):Prop where
 | mk (W':Wd) (st':St) (G:Good w h₀ W' st' s'.heap) (S:Step (H3 env) W st s.heap W' st' s'.heap) (g:s'.gens=s.gens/\s'.os=s.os) (F:FrsOK h₀ W' st' s'.heap (env::outer)) (q:FlowIs h₀ env W' st' s'.heap N R f):PostF w h₀ env outer W st s N R f s'
section
variable {w:World} {h₀ h h':Heap} {A:Around} {env:Env} {outer fs:List Env} {vs:A2} {W W':Wd} {st st':St} {s s₁ s':Shared} {d:Nat} {ex:List Addr} {L:Addr} {X:St->Prop} {u:Value} {N:A2->St->Prop} {R:AV->St->Prop}
theorem PostX.toS (p:PostX w h₀ fs none W st s X u s'):PostXS w h₀ fs ex L W st s X u s':=by
 obtain ⟨W',st',hX,hid,e,a1,a2,a3,a4,a5,a6,a7⟩:=p
 refine ⟨W',st',hX,hid,e,a1,a2,a3.more (by simp),a4,a5,a6,.inr (.inl ?_)⟩
 rcases a7 with q | ⟨l,q,_⟩
 ·exact q
 ·cases q
theorem PostXS.after (S:Step ex W st s.heap W' st' s₁.heap) (hg:s₁.gens=s.gens/\s₁.os=s.os) (p:PostXS w h₀ fs ex L W' st' s₁ X u s'):PostXS w h₀ fs ex L W st s X u s':=by
 obtain ⟨W₂,st₂,hX,hid,e,a1,a2,a3,a4,a5,a6,a7⟩:=p
 exact ⟨W₂,st₂,hX,hid,e,a1,a2,S.trans a3,⟨a4.1.trans hg.1,a4.2.trans hg.2⟩,a5,a6,a7⟩
theorem PostF.after {f:Flow} (S:Step (H3 env) W st s.heap W' st' s₁.heap) (hg:s₁.gens=s.gens/\s₁.os=s.os) (p:PostF w h₀ env outer W' st' s₁ N R f s'):PostF w h₀ env outer W st s N R f s':=by
 obtain ⟨W₂,st₂,a1,a2,a3,a4,a5⟩:=p
 exact ⟨W₂,st₂,a1,S.trans a2,⟨a3.1.trans hg.1,a3.2.trans hg.2⟩,a4,a5⟩
theorem HS.next {vs':A2} (x:HS w h₀ A env outer vs W st s d) (G:Good w h₀ W' st' s'.heap) (F:Frm h₀ env vs' W' st' s'.heap) (FF:FrsOK h₀ W' st' s'.heap (env::outer)):HS w h₀ A env outer vs' W' st' s' d:=
 ⟨⟨x.h.fx,G,F,{x.h.N with frames:=⟨_,x.h.fr,FF⟩},x.h.fr⟩,x.frame,x.nodup⟩
theorem HS.step (x:HS w h₀ A env outer vs W st s d) (G:Good w h₀ W' st' s'.heap) (S:Step [] W st s.heap W' st' s'.heap):HS w h₀ A env outer vs W' st' s' d:=
 ⟨x.h.step G S,x.frame,x.nodup⟩
theorem HS.frs (x:HS w h₀ A env outer vs W st s d):FrsOK h₀ W st s.heap (env::outer):=by
 refine byG fun G_ k_=>?_
 obtain ⟨fs',hf,F⟩:=x.h.N.frames
 refine k_ ?_
 rw [x.h.fr] at hf; cases hf; exact F
theorem Step.wide {exs:List Addr} (S:Step [] W st h W' st' h'):Step exs W st h W' st' h':=S.more (by simp)
theorem Step.change {it:Addr} (G:Good w h₀ W st h) (hm:it∈ex) (hl:∃ o,h'.get? it=some o) (k:∀ b o,b≠it->h.get? b=some o->h'.get? b=some o) (kt:∀ a x,TupD h a x->TupD h' a x):Step ex W st h W st h' where
 agree _ _:=⟨rfl,rfl⟩
 nx:=Nat.le_refl _
 sub _ _ e:=e
 fresh i q e:=absurd (G.low i e) (Nat.not_lt.mpr q)
 evo b hb _ o e:=.inl (k b o (fun z=>hb (z▸hm)) e)
 live b o e:=by
  by_cases z:b=it
  ·subst z; exact hl
  ·exact ⟨o,k b o z e⟩
 tup:=kt
theorem noTup_data {a:Addr} {o:Obj} (ho:h.get? a=some o) (hd:∀ xs n,o.data≠.seq xs n):∀ y,¬ TupD h a y:=fun y t=>t.elim fun o' t=>t.2.2.2.elim fun n q=>hd _ _ ((congrArg Obj.data (Option.some.inj (ho.symm.trans t.1))).trans q)
theorem noTup_dict {a:Addr} {m:Str->Option Value} (hn:h.Ns a m):∀ y,¬ TupD h a y:=by
 refine byG fun G_ k_=>?_
 obtain ⟨o',es,ep,ho,hd,_⟩:=hn
 refine k_ ?_
 exact noTup_data ho fun Z Z q=>by cases hd.symm.trans q
theorem noTup_cell {a:Addr} {c:Option Value} (hn:∃ o,h.get? a=some o/\o.data=.cell c):∀ y,¬ TupD h a y:=by
 refine byG fun G_ k_=>?_
 obtain ⟨o',ho,hd⟩:=hn
 refine k_ ?_
 exact noTup_data ho fun Z Z q=>by cases hd.symm.trans q
theorem look_put_c {x y:Nat} {v z:AV} {vs:A2} (e:B2 y (put x v vs)=some z):(y=x/\v=z)\/(y≠x/\B2 y vs=some z):=by
 rw [look_put] at e
 by_cases hy:y=x
 ·rw [if_pos hy] at e; exact .inl ⟨hy,Option.some.inj e⟩
 ·rw [if_neg hy] at e; exact .inr ⟨hy,e⟩
theorem nodup_snd {l:List (Str × Addr)} (nd:(l.map (·.2)).Nodup):∀ {p q},p∈l->q∈l->p.2=q.2->p=q:=by
 induction l with
 | nil=>intro p q hp; cases hp
 | cons t r ih=>
  intro p q hp hq e
  obtain ⟨n1,n2⟩:=List.nodup_cons.mp nd
  rcases List.mem_cons.mp hp with rfl | hp'<;>rcases List.mem_cons.mp hq with rfl | hq'
  ·rfl
  ·exact absurd (List.mem_map.mpr ⟨q,hq',e.symm⟩) n1
  ·exact absurd (List.mem_map.mpr ⟨p,hp',e⟩) n1
  ·exact ih n2 hp' hq' e
theorem Frm.apart (F:Frm h₀ env vs W st h):∀ p∈env.cells,p.2≠env.locals:=fun p hp e=>by
 obtain ⟨⟨o,c,e1,e2⟩,_⟩:=F.cells p hp
 obtain ⟨m,⟨o',es,ep,ho,hd,_⟩,_⟩:=F.ns
 rw [e] at e1
 cases ((congrArg Obj.data (Option.some.inj (ho.symm.trans e1))).symm.trans hd).symm.trans e2
theorem put_within {x:Nat} {v:AV} {n:Nat} (F:∀ p∈vs,p.2.within n=true) (hw:v.within n=true):∀ p∈put x v vs,p.2.within n=true:=fun p hp=>(mem_put hp).elim (fun e=>e▸hw) (F p)
theorem store_loc {M:Model} {A':Around} {E:Value->Shared->Prop} {x:Nat} {v:AV} {Q:Unit->Shared->Prop} (hs:HS w h₀ A env outer vs W st s d) (hx:x < nmL.length) (hk:env.kindOf (nm x)=some .local) (r:VRep h₀ W s.heap v u) (hw:v.within st.nx=true)
  (q:∀ h' tk,Good w h₀ W st h'->Step (H3 env) W st s.heap W st h'->FrsOK h₀ W st h' (env::outer)->Frm h₀ env (put x v vs) W st h'->Q () {s with heap:=h',toks:=tk}) :
  wpAny M A' (storeName env (nm x) u) Q E s:=by
 have F:=hs.h.F
 obtain ⟨m,hm,hv⟩:=F.ns
 refine wpAny_storeName_local hk hm (fun h' hn' hs'=>?_) (by rw [F.kind]; rfl)
 have k:∀ b o,b≠env.locals->s.heap.get? b=some o->h'.get? b=some o:=fun b o hb e=>by rw [hs'.2 b hb]; exact e
 obtain ⟨G',kt⟩:=hs.h.G.side (h':=h') F.notL F.newL (noTup_dict hm) k
 have vin':∀ y z,B2 y vs=some z->z.within st.nx=true:=fun y z e=>F.vwf _ (C7 e)
 refine q h' _ G' (Step.change hs.h.G (.head _) (hn'.imp fun o y=>y.elim fun Z y=>y.elim fun Z y=>y.1) k kt) (fun e he=>?_) {F with ns:=⟨_,hn',fun y z e kk=>?_⟩,cell:=fun y z e kk=>?_,cells:=fun p hp=>?_,vwf:=put_within F.vwf hw}
 ·obtain ⟨kk,f,o,a1,a2,a3,⟨es,n,a4⟩,a5⟩:=hs.frs e he
  by_cases z:f=env.locals
  ·obtain ⟨o',es',ep',ho',hd',_⟩:=hn'
   exact ⟨kk,f,o',a1,a2,by rw [z]; exact ho',⟨es',ep',hd'⟩,a5⟩
  ·exact ⟨kk,f,o,a1,a2,k f o z a3,⟨es,n,a4⟩,a5⟩
 ·rcases look_put_c e with ⟨hy,ez⟩ | ⟨hy,e⟩
  ·exact ⟨u,if_pos (congrArg nm hy),by rw [<- ez]; exact r.mono kt (fun Z Z=>rfl) hw⟩
  ·exact (hv y z e kk).imp fun u' p=>⟨(if_neg fun q=>hy (nm_same hx q)).trans p.1,p.2.mono kt (fun Z Z=>rfl) (vin' y z e)⟩
 ·rcases look_put_c e with ⟨hy,_⟩ | ⟨hy,e⟩
  ·rw [hy,hk] at kk; rcases kk with q | q<;>cases q
  ·exact (F.cell y z e kk).imp fun a p=>p.imp fun u' p=>⟨p.1,p.2.1.imp fun o t=>⟨k _ _ (F.apart _ (G8 p.1)) t.1,t.2⟩,p.2.2.mono kt (fun Z Z=>rfl) (vin' y z e)⟩
 ·exact ⟨(F.cells p hp).1.imp fun o t=>t.imp fun c t=>⟨k _ _ (F.apart p hp) t.1,t.2⟩,(F.cells p hp).2⟩
theorem store_cel {M:Model} {A':Around} {E:Value->Shared->Prop} {x:Nat} {v:AV} {Q:Unit->Shared->Prop} (hs:HS w h₀ A env outer vs W st s d) (hx:x < nmL.length) (hk:env.kindOf (nm x)=some .cell) (r:VRep h₀ W s.heap v u) (hw:v.within st.nx=true)
  (q:∀ h' tk,Good w h₀ W st h'->Step (H3 env) W st s.heap W st h'->FrsOK h₀ W st h' (env::outer)->Frm h₀ env (put x v vs) W st h'->Q () {s with heap:=h',toks:=tk}) :
  wpAny M A' (storeName env (nm x) u) Q E s:=by
 have F:=hs.h.F
 obtain ⟨m,hm,hv⟩:=F.ns
 obtain ⟨a,ha⟩:=F.cellAll _ hk
 have pa:=G8 ha
 have la:a≠env.locals:=F.apart _ pa
 obtain ⟨⟨oa,c,e1,e2⟩,e3⟩:(∃ o c,s.heap.get? a=some o/\o.data=.cell c)/\h₀.get? a=none:=F.cells _ pa
 have na:¬ Own W st a:=hs.h.G.notOwn e1 ⟨fun Z Z q=>(by rw [e2] at q; cases q),fun Z Z q=>(by rw [e2] at q; cases q),fun q=>(by rw [e2] at q; cases q)⟩
 refine ((show storeName env (nm x) u=(cellOf env (nm x)>>=fun a=>cellSet a (some u)) by unfold storeName; rw [hk,F.kind]; rfl)▸wpAny_bind (wpAny_cellOf ha ?_))
 unfold cellSet
 refine wpAny_bind (wpAny_load e1 ?_)
 rw [e2]
 refine wpAny_update e1 ?_
 have up:=Heap.get?_update_self (fun o:Obj=>{o with data:=.cell (some u)}) e1 rfl
 generalize hH:s.heap.update a (fun o:Obj=>{o with data:=.cell (some u)})=H at up
 have k:∀ b o,b≠a->s.heap.get? b=some o->H.get? b=some o:=fun b o hb e=>by rw [<- hH]; exact (Heap.get?_update_other _ _ (Ne.symm hb)).trans e
 obtain ⟨G',kt⟩:=hs.h.G.side (h':=H) na e3 (noTup_cell ⟨_,e1,e2⟩) k
 have vin':∀ y z,B2 y vs=some z->z.within st.nx=true:=fun y z e=>F.vwf _ (C7 e)
 refine q H s.toks G' (Step.change hs.h.G (.tail _ (List.mem_map.mpr ⟨_,pa,rfl⟩)) ⟨_,up⟩ k kt) (hs.frs.side (fun e he z=>?_) k) {F with ns:=⟨m,hm.at' fun o e=>k _ o (Ne.symm la) e,fun y z e kk=>?_⟩,cell:=fun y z e kk=>?_,cells:=fun p hp=>?_,vwf:=put_within F.vwf hw}
 ·obtain ⟨_,f,o,a1,_,a3,⟨es,n,a4⟩,_⟩:=hs.frs e he
  rw [<- Option.some.inj (z.symm.trans a1)] at a3
  cases ((congrArg Obj.data (Option.some.inj (e1.symm.trans a3))).symm.trans e2).symm.trans a4
 ·rcases look_put_c e with ⟨hy,_⟩ | ⟨hy,e⟩
  ·rw [hy,hk] at kk; cases kk
  ·exact (hv y z e kk).imp fun u' p=>⟨p.1,p.2.mono kt (fun Z Z=>rfl) (vin' y z e)⟩
 ·rcases look_put_c e with ⟨hy,ez⟩ | ⟨hy,e⟩
  ·exact ⟨a,u,by rw [hy]; exact ha,⟨_,up,rfl⟩,by rw [<- ez]; exact r.mono kt (fun Z Z=>rfl) hw⟩
  ·obtain ⟨b,u',f1,⟨o,f2,f3⟩,r'⟩:=F.cell y z e kk
   have ne:b≠a:=fun q=>hy (nm_same hx (congrArg Prod.fst (nodup_snd hs.nodup (G8 f1) pa q)))
   exact ⟨b,u',f1,⟨o,k _ _ ne f2,f3⟩,r'.mono kt (fun Z Z=>rfl) (vin' y z e)⟩
 ·by_cases z:p.2=a
  ·rw [z]; exact ⟨⟨_,_,up,rfl⟩,e3⟩
  ·exact ⟨(F.cells p hp).1.imp fun o t=>t.imp fun c t=>⟨k _ _ z t.1,t.2⟩,(F.cells p hp).2⟩
theorem store_ok {M:Model} {A':Around} {E:Value->Shared->Prop} {x:Nat} {v:AV} {Q:Unit->Shared->Prop} (hs:HS w h₀ A env outer vs W st s d) (hx:x < nmL.length) (hk:env.kindOf (nm x)=some .local\/env.kindOf (nm x)=some .cell) (r:VRep h₀ W s.heap v u) (hw:v.within st.nx=true)
  (q:∀ h' tk,Good w h₀ W st h'->Step (H3 env) W st s.heap W st h'->FrsOK h₀ W st h' (env::outer)->Frm h₀ env (put x v vs) W st h'->Q () {s with heap:=h',toks:=tk}) :
  wpAny M A' (storeName env (nm x) u) Q E s:=hk.elim (fun hk=>store_loc hs hx hk r hw q) fun hk=>store_cel hs hx hk r hw q
end
theorem GReps.set {h:Heap} {l:List GV} {vs:List Value} (q:GReps h l vs):∀ (n:Nat) {v:GV} {u:Value},GRep h v u->GReps h (l.set n v) (vs.set n u):=
 @GReps.ind h (fun l vs=>∀ (n:Nat) {v:GV} {u:Value},GRep h v u->GReps h (l.set n v) (vs.set n u)) (fun Z {Z Z} Z=>.nil) (fun {Z Z Z Z} a b ih n {Z Z} r=>by
  cases n with
  | zero=>exact .cons r b
  | succ n=>exact .cons a (ih n r)) _ _ q
theorem IRep.store {k w:Int} {t:Tok} {l:List (Int × Int)} {kvs:List (Int × Value)} (r:IRep l kvs):IRep (H7 k w l) (stored kvs k (.int w t)):=by
 have e1:(kvs.any fun kv=>decide (kv.1=k))=l.any fun p=>decide (p.1=k):=by
  induction r with
  | nil=>rfl
  | cons _ ih=>rw [List.any_cons,List.any_cons,ih]
 unfold H7 stored
 rw [e1]
 refine iteB (fun x=>IRep x _) (fun h=>?_) (fun h=>?_)
 ·rw [if_pos h]
  clear e1 h
  induction r with
  | nil=>exact .nil
  | @cons j v tj _ _ _ ih=>
   rw [List.map_cons,List.map_cons]
   by_cases e:j=k
   ·rw [if_pos e,if_pos e]; exact .cons ih
   ·rw [if_neg e,if_neg e]; exact .cons ih
 ·rw [if_neg (Bool.eq_false_iff.mp h)]
  clear e1 h
  induction r with
  | nil=>exact .cons .nil
  | cons _ ih=>exact .cons ih
section
variable {h₀ h:Heap} {W:Wd}
theorem strOf_inj {x y:List Nat}:(A6 x=A6 y)↔x=y:=⟨fun e=>by
 have:=congrArg (fun s:Str=>s.cps.toList) e
 simpa [A6] using this,fun e=>by rw [e]⟩
theorem dec_str {x y:List Nat}:decide (A6 y=A6 x)=F0 y x:=by
 rw [natsEq_eq]; exact decide_eq_decide.mpr strOf_inj
theorem SRep.store {x:List Nat} {v:AV} {u:Value} {l:List (List Nat × AV)} {kvs:List (Str × Value)} (rv:VRep h₀ W h v u) (r:SRep h₀ W h l kvs):SRep h₀ W h (storeDs x v l) (stored kvs (A6 x) u):=by
 have e1:(kvs.any fun kv=>decide (kv.1=A6 x))=l.any fun p=>F0 p.1 x:=by
  induction r with
  | nil=>rfl
  | cons _ _ ih=>rw [List.any_cons,List.any_cons,ih,dec_str]
 unfold storeDs stored
 rw [e1]
 refine iteB (fun y=>SRep h₀ W h y _) (fun h=>?_) (fun h=>?_)
 ·rw [if_pos h]
  clear e1 h
  induction r with
  | nil=>exact .nil
  | @cons y _ _ _ _ r' _ ih=>
   rw [List.map_cons,List.map_cons]
   dsimp only
   have d:=dec_str (x:=x) (y:=y)
   by_cases e:A6 y=A6 x
   ·rw [decide_eq_true e] at d
    rw [if_pos e,if_pos d.symm]; exact .cons rv ih
   ·rw [decide_eq_false e] at d
    rw [if_neg e,if_neg (by rw [<- d]; exact Bool.false_ne_true)]; exact .cons r' ih
 ·rw [if_neg (Bool.eq_false_iff.mp h)]
  clear e1 h
  induction r with
  | nil=>exact .cons rv .nil
  | cons r' _ ih=>exact .cons r' ih
theorem SRep.del {x:List Nat} {l:List (List Nat × AV)} {kvs:List (Str × Value)} (r:SRep h₀ W h l kvs):(kvs.map (·.1)).Nodup->SRep h₀ W h (delDs x l) (without kvs (A6 x)):=by
 induction r with
 | nil=>exact fun Z=>.nil
 | @cons y v u l kvs rv rr ih=>
  intro nd
  obtain ⟨n1,n2⟩:=List.nodup_cons.mp nd
  show SRep h₀ W h (match F0 y x with | true=>l | false=>(y,v)::delDs x l) _
  rw [<- dec_str]
  unfold without
  by_cases e:A6 y=A6 x
  ·rw [decide_eq_true e,List.filter_cons,if_neg (by simp [e]),List.filter_eq_self.mpr fun p hp=>by simpa using fun q:p.1=A6 x=>n1 (List.mem_map.mpr ⟨p,hp,q.trans e.symm⟩)]
   exact rr
  ·rw [decide_eq_false e,List.filter_cons,if_pos (by simp [e])]
   exact .cons rv (ih n2)
end
theorem mem_storeDs {x:List Nat} {v:AV} {l:List (List Nat × AV)} {p:List Nat × AV} (h:p∈storeDs x v l):p.2=v\/p∈l:=by
 revert h
 unfold storeDs
 refine iteB (fun y=>p∈y->_) (fun Z h=>?_) (fun Z h=>?_)
 ·obtain ⟨q,hq,e⟩:=List.mem_map.mp h
  by_cases z:F0 q.1 x=true
  ·rw [if_pos z] at e; exact .inl (by rw [<- e])
  ·rw [if_neg z] at e; exact .inr (by rw [<- e]; exact hq)
 ·exact (List.mem_append.mp h).elim .inr fun h=>.inl (by rw [List.mem_singleton.mp h])
theorem mem_delDs {x:List Nat} {l:List (List Nat × AV)} {p:List Nat × AV} (h:p∈delDs x l):p∈l:=by
 induction l with
 | nil=>exact h
 | cons q r ih=>
  have h:p∈(match F0 q.1 x with | true=>r | false=>q::delDs x r):=h
  cases e:F0 q.1 x with
  | true=>rw [e] at h; exact .tail _ h
  | false=>rw [e] at h; exact (List.mem_cons.mp h).elim (fun z=>by rw [z]; exact .head _) fun z=>.tail _ (ih z)
theorem dict_nil {prog:Program} {w:World} {h:Heap} {a:Addr} (x:h.DictOf (intKind prog w) a []):h.DictOf (strKind prog w) a []:=by
 obtain ⟨o,es,ep,h1,h2,h3,_,hp,_⟩:=x
 cases es with
 | mk l=>cases l with
  | nil=>exact ⟨o,#[],ep,h1,h2,h3,(fun e he=>absurd he (by simp)),(by cases hp; exact .nil),.nil⟩
  | cons=>cases hp
section
variable {w:World} {A:Around} {E:Value->Shared->Prop} {s:Shared} {h₀:Heap} {W:Wd} {st:St}
noncomputable def PostU (w:World) (h₀:Heap) (W:Wd) (st:St) (s:Shared) (Q:St->Prop) (s':Shared):Prop:=
 ∃ st',Good w h₀ W st' s'.heap/\Step [] W st s.heap W st' s'.heap/\(s'.gens=s.gens/\s'.os=s.os)/\Q st'
theorem setItem_L {l:Addr} {items:Array Value} {n:Nat} {k:Int} {t:Tok} {v:Value} {Q:Unit->Shared->Prop} (hl:IsL s.heap l items n) (h0:0<=k) (hfit:k < 2 ^ 63) (hn:k.toNat < items.size)
  (hQ:Q () {s with heap:=s.heap.update l (Obj.mapSeq (·.setIfInBounds k.toNat v))}):wpAny (Md w) A (setItem (.ref l) (.int k t) v) Q E s:=by
 unfold setItem
 try with_reducible refine wpAny_holding ?_
 first | refine wpAny_bind (wpAny_pure ?_) | skip
 refine wpAny_bind (wpAny_sequenceKey hl.isList.typeIs (by decide) ?_)
 refine wpAny_bind (wpAny_callSpecial?_slot (name:=Str.ofString "__setitem__") hl.isList.typeIs slot_list_setitem
  (wpAny_call_entry slot_list_setitem hl.isList.typeIs entry_list_setitem ?_ (args_list_setitem _ _ _)))
 show wpAny _ _ (Builtin.List.listSubscript? (.int k t)>>=_) _ _ s
 refine wpAny_bind (wpAny_listSubscript_int (fitsIndex_of h0 hfit) ?_)
 clear hfit
 obtain ⟨j,rfl⟩:=Int.eq_ofNat_of_zero_le h0
 have hj:j < items.size:=by simpa using hn
 have hx':items[j]?=some items[j]:=Array.getElem?_eq_getElem hj
 show wpAny _ _ ((seqItemAt l j>>=fun r=>pure (r.map (j,·)))>>=_) _ _ s
 refine wpAny_bind (wpAny_bind (wpAny_seqItemAt hl rfl (wpAny_pure ?_)))
 rw [hx']
 show wpAny _ _ (setSeqItemAt l j v>>=_) _ _ s
 refine wpAny_bind (wpAny_setSeqItemAt hl rfl ?_)
 first
  | exact wpAny_bind (wpAny_pure (wpAny_pure ⟨.none,rfl,wpAny_pure hQ⟩))
  | exact wpAny_pure ⟨.none,rfl,wpAny_pure hQ⟩
theorem set_fin {Q:St->Prop} {a:Nat} {o o':AO} {h':Heap} {tk:Nat} (G:Good w h₀ W st s.heap) (hi:st.get a=some o) (hs:Heap.SameBut (W.a a) s.heap h') (hl:∃ x,h'.get? (W.a a)=some x) (r:(∀ b it,TupD s.heap b it->TupD h' b it)->ORep w h₀ W h' a o') (wi:o'.In st.nx) (q:Q (st.set a o')) :
  PostU w h₀ W st s Q {s with heap:=h',toks:=tk}:=by
 obtain ⟨G',S'⟩:=G.upd (h':=h') (b:=W.a a) hi (.inl rfl) (fun b o hb e=>by rw [hs.2 b hb]; exact e) hl r wi
 exact ⟨_,G',S',⟨rfl,rfl⟩,q⟩
theorem lenM {n m:Nat} (h:n < 1000000) (e:m=n):m<=sizeLine:=Nat.le_trans (Nat.le_of_lt (by rw [e]; exact h)) sizeM
theorem setSub_ok {o i v:AV} {uo ui u:Value} {Q:St->Prop} (G:Good w h₀ W st s.heap) (ro:VRep h₀ W s.heap o uo) (ri:VRep h₀ W s.heap i ui) (rv:VRep h₀ W s.heap v u) (hv:v.within st.nx=true) (q:setSubV st o i v Q) :
  wpAny (Md w) A (setItem uo ui u) (fun Z s'=>PostU w h₀ W st s Q s') E s:=by
 obtain ⟨a,rfl,q⟩:=objV_e q
 refine VRep.obj_e ro ?_
 cases i with
 | g y=>cases y with
  | int k=>
   refine VRep.int_e ri fun t=>?_
   have q:(match st.get a with
    | some (.gl l)=>gvV v fun w=>chk (decide (0<=k/\k.toNat < l.length/\k<=1000000)) (Q (st.set a (.gl (l.set k.toNat w))))
    | some (.di l)=>intV v fun w=>chk (Nat.ble (l.length+1) 1000000) (Q (st.set a (.di (H7 k w l))))
    | _=>False):=q
   cases hi:st.get a with
   | none=>rw [hi] at q; exact False.elim q
   | some o=>
    rw [hi] at q
    have r:=G.rep a _ hi
    cases o with
    | gl l=>
     obtain ⟨g,rfl,q⟩:=gvV_e q
     obtain ⟨⟨h1,h2,h3⟩,q⟩:=cD q
     cases rv with | g rv=>
     obtain ⟨hd,vs,n,hI,rp⟩:=r
     refine setItem_L hI h1 (Int.lt_of_le_of_lt h3 (by decide)) (ztl h2 (zq rp.length)) ?_
     obtain ⟨G',S'⟩:=G.setList hi hI hd (·.setIfInBounds k.toNat u) (vs':=vs.set k.toNat u) (by simp) (o':=.gl (l.set k.toNat g)) (fun kt n' p=>⟨hd,_,n',p,(rp.mono kt).set _ (rv.mono kt)⟩) trivial
     exact ⟨_,G',S',⟨rfl,rfl⟩,q⟩
    | di l=>
     obtain ⟨x,rfl,q⟩:=I6 q
     have q:=cB q
     obtain ⟨hd,kvs,hm,rp⟩:=r
     exact VRep.int_e rv fun t'=>wpAny_setItem_pairs (knd:=intKind pw w) (k:=k) (by simp [intKind,Value.isInt]) hm (fun h' hm' hs=>set_fin (o':=.di (H7 k x l)) G hi hs (hm'.imp fun o y=>y.elim fun Z y=>y.elim fun Z y=>y.1) (fun kt=>⟨hd,_,hm',rp.store⟩) trivial q.2) (lenM q.1 rp.length)
    | _=>exact False.elim q
  | str x=>
   refine VRep.str_e ri fun t=>?_
   have q:(match st.get a with
    | some (.ds l)=>chk (Nat.ble (l.length+1) 1000000) (Q (st.set a (.ds (storeDs x v l))))
    | some (.di l)=>nilL l (Q (st.set a (.ds [(x,v)])))
    | _=>False):=q
   cases hi:st.get a with
   | none=>rw [hi] at q; exact False.elim q
   | some o=>
    rw [hi] at q
    have r:=G.rep a _ hi
    cases o with
    | ds l=>
     have q:=cB q
     obtain ⟨hd,kvs,hm,rp⟩:=r
     exact wpAny_setItem_pairs (knd:=strKind pw w) (k:=A6 x) (strKind_is pw w _ t) hm (fun h' hm' hs=>set_fin (o':=.ds (storeDs x v l)) G hi hs (hm'.imp fun o y=>y.elim fun Z y=>y.elim fun Z y=>y.1)
      (fun kt=>⟨hd,_,hm',SRep.store (rv.mono kt (fun Z Z=>rfl) hv) (rp.mono kt (fun Z Z=>rfl) (G.inn hi))⟩) (fun p hp=>(mem_storeDs hp).elim (fun e=>by rw [e]; exact hv) fun hp=>(G.inn hi) p hp) q.2) (lenM q.1 rp.length)
    | di l=>
     obtain ⟨rfl,q⟩:=nilL_e q
     obtain ⟨hd,kvs,hm,rp⟩:=r
     cases rp
     exact wpAny_setItem_pairs (knd:=strKind pw w) (k:=A6 x) (strKind_is pw w _ t) (dict_nil hm) (fun h' hm' hs=>set_fin (o':=.ds [(x,v)]) G hi hs (hm'.imp fun o y=>y.elim fun Z y=>y.elim fun Z y=>y.1)
      (fun kt=>⟨hd,_,hm',SRep.store (l:=[]) (kvs:=[]) (rv.mono kt (fun Z Z=>rfl) hv) .nil⟩) (fun p hp=>by rw [List.mem_singleton.mp hp]; exact hv) q) (Nat.zero_le _)
    | _=>exact False.elim q
  | _=>exact False.elim q
 | _=>exact False.elim q
theorem del_ok {o i:AV} {uo ui:Value} {Q:St->Prop} (G:Good w h₀ W st s.heap) (ro:VRep h₀ W s.heap o uo) (ri:VRep h₀ W s.heap i ui) (q:delV o i st Q) :
  wpAny (Md w) A (delItem uo ui) (fun Z s'=>PostU w h₀ W st s Q s') E s:=by
 obtain ⟨a,rfl,q⟩:=objV_e q
 obtain ⟨x,rfl,q⟩:=strV_e q
 obtain ⟨l,hi,q⟩:=dsO_e q
 have q:=cD q
 refine VRep.obj_e ro (VRep.str_e ri fun t=>?_)
 obtain ⟨hd,kvs,hm,rp⟩:=G.rep a _ hi
 obtain ⟨y,hy⟩:=Option.isSome_iff_exists.mp q.1.2
 obtain ⟨_,u,hu,_⟩:=rp.at.1 y hy
 refine wpAny_delItem_slot hm.typeIs (by decide) PySem.F.slot_dict_delitem ?_
 refine call_meetsIn PySem.F.slot_dict_delitem hm.typeIs PySem.F.entry_dict_delitem (PySem.F.args_dict_delitem_2 _ _) (meets_dict_delitem_pairs (strKind pw w) (W.a a) (k:=A6 x) (strKind_is pw w _ t)) ⟨kvs,hm,lenM q.1.1 rp.length,by rw [hu]; rfl,fun h' hm' hs=>?_⟩
 have nd:(kvs.map (·.1)).Nodup:=by obtain ⟨_,_,_,_,_,_,_,_,z⟩:=hm; exact z
 exact set_fin (o':=.ds (delDs x l)) G hi hs (hm'.imp fun o y=>y.elim fun Z y=>y.elim fun Z y=>y.1) (fun kt=>⟨hd,_,hm',(rp.mono kt (fun Z Z=>rfl) (G.inn hi)).del nd⟩) (fun p hp=>(G.inn hi) p (mem_delDs hp)) q.2
end
inductive PostN (w:World) (h₀:Heap) (env:Env) (outer:List Env) (W:Wd) (st:St) (s:Shared) (N:A2->St->Prop) (s':Shared):Prop where
 | mk (W':Wd) (st':St) (G:Good w h₀ W' st' s'.heap) (S:Step (H3 env) W st s.heap W' st' s'.heap) (g:s'.gens=s.gens/\s'.os=s.os) (FF:FrsOK h₀ W' st' s'.heap (env::outer)) (vs':A2) (F:Frm h₀ env vs' W' st' s'.heap) (q:N vs' st'):PostN w h₀ env outer W st s N s'
noncomputable def SemT (d:Nat) (cl:A7) (m:MT):Prop:=∀ {w:World} {h₀:Heap} {A:Around} {env:Env} {outer:List Env} {vs:A2} {W:Wd} {st:St} {s:Shared} {N:A2->St->Prop} {X:St->Prop} {e:Expr} {v:AV} {u:Value},
 HS w h₀ A env outer vs W st s d->chkT w.params env.scope m e=true->VRep h₀ W s.heap v u->v.within st.nx=true->vcT tabs cl X m v vs st N ->
 wpAny (Md w) A (assign e env u) (fun Z s'=>PostN w h₀ env outer W st s N s') (PostXS w h₀ (env::outer) (H3 env) env.locals W st s X) s
noncomputable def SemS (d:Nat) (cl:A7) (m:MS):Prop:=∀ {w:World} {h₀:Heap} {A:Around} {env:Env} {outer:List Env} {vs:A2} {W:Wd} {st:St} {s:Shared} {N:A2->St->Prop} {R:AV->St->Prop} {X:St->Prop} {e:Stmt},
 HS w h₀ A env outer vs W st s d->chkS w.params env.scope m e=true->vcS tabs cl m vs st N R X ->
 wpAny (Md w) A (exec e env) (PostF w h₀ env outer W st s N R) (PostXS w h₀ (env::outer) (H3 env) env.locals W st s X) s
noncomputable def SemSs (d:Nat) (cl:A7) (m:MSs):Prop:=∀ {w:World} {h₀:Heap} {A:Around} {env:Env} {outer:List Env} {vs:A2} {W:Wd} {st:St} {s:Shared} {N:A2->St->Prop} {R:AV->St->Prop} {X:St->Prop} {l:List Stmt},
 HS w h₀ A env outer vs W st s d->chkSs w.params env.scope m l=true->B4 tabs cl m vs st N R X ->
 wpAny (Md w) A (execs l env) (PostF w h₀ env outer W st s N R) (PostXS w h₀ (env::outer) (H3 env) env.locals W st s X) s
section
variable {w:World} {h₀:Heap} {A:Around} {env:Env} {outer:List Env} {vs:A2} {W W':Wd} {st st':St} {s s₁ s':Shared} {d:Nat} {X:St->Prop} {N:A2->St->Prop} {R:AV->St->Prop}
theorem HS.ev {m:ME} {e:Expr} {cl:A7} {Q:AV->St->Prop} {PQ:Value->Shared->Prop} (x:HS w h₀ A env outer vs W st s d) (ih:A8 d cl m) (hc:A9 w.params env.scope m e=true) (q:vcE tabs cl X m vs st Q)
  (h:∀ W' st' s' v u,HS w h₀ A env outer vs W' st' s' d->Step [] W st s.heap W' st' s'.heap->(s'.gens=s.gens/\s'.os=s.os)->VRep h₀ W' s'.heap v u->v.within st'.nx=true->Q v st'->PQ u s') :
  wpAny (Md w) A (eval e env) PQ (PostXS w h₀ (env::outer) (H3 env) env.locals W st s X) s:=
 wpAny_mono (ih x.h hc q) (fun u s' p=>let ⟨W',st',v,a1,a2,a3,a4,a5,a6⟩:=p; h W' st' s' v u (x.step a1 a2) a2 a3 a4 a5 a6) fun Z Z p=>p.toS
theorem HS.on {α:Type} {k:Sem α} {R:α->Shared->Prop} {PQ:α->Shared->Prop} (p:wpAny (Md w) A k R (PostXS w h₀ (env::outer) (H3 env) env.locals W' st' s₁ X) s₁) (S:Step (H3 env) W st s.heap W' st' s₁.heap) (g:s₁.gens=s.gens/\s₁.os=s.os)
  (h:∀ r s₂,R r s₂->PQ r s₂):wpAny (Md w) A k PQ (PostXS w h₀ (env::outer) (H3 env) env.locals W st s X) s₁:=wpAny_mono p h fun Z Z p=>p.after S g
theorem PostN.after (S:Step (H3 env) W st s.heap W' st' s₁.heap) (hg:s₁.gens=s.gens/\s₁.os=s.os) (p:PostN w h₀ env outer W' st' s₁ N s'):PostN w h₀ env outer W st s N s':=by
 obtain ⟨W₂,st₂,a1,a2,a3,a4,vs',a5,a6⟩:=p
 exact ⟨W₂,st₂,a1,S.trans a2,⟨a3.1.trans hg.1,a3.2.trans hg.2⟩,a4,vs',a5,a6⟩
theorem PostN.f (p:PostN w h₀ env outer W st s N s'):PostF w h₀ env outer W st s N R .next s':=by
 obtain ⟨W₂,st₂,a1,a2,a3,a4,vs',a5,a6⟩:=p
 exact ⟨W₂,st₂,a1,a2,a3,a4,vs',a5,a6⟩
theorem HS.go (x:HS w h₀ A env outer vs W st s d) (q:N vs st):PostN w h₀ env outer W st s N s:=⟨W,st,x.h.G,x.h.G.refl.wide,⟨rfl,rfl⟩,x.frs,vs,x.h.F,q⟩
theorem PostU.n (x:HS w h₀ A env outer vs W st s d) {Q:St->Prop} (p:PostU w h₀ W st s Q s') (q:∀ st',Q st'->N vs st'):PostN w h₀ env outer W st s N s':=by
 obtain ⟨st',G,S,g,h⟩:=p
 have x':=x.step G S
 exact ⟨W,st',G,S.wide,g,x'.frs,vs,x'.h.F,q st' h⟩
theorem kindC (h:(env.scope.names.lookup (nm x)==some .local||env.scope.names.lookup (nm x)==some .cell)=true):env.kindOf (nm x)=some .local\/env.kindOf (nm x)=some .cell:=by
 simpa [Env.kindOf] using h
end
section
variable {d:Nat} {cl:A7}
theorem st_var (x):SemT d cl (.var x):=fun {w h₀ A env outer vs W st s N X e v u} h hc r hw q=>by
 refine F7 hc fun id pos hc=>and3 hc fun hi hx hk=>?_
 obtain rfl:=beq_iff_eq.mp hi
 have hx:=Nat.blt_eq.mp hx
 exact wpAny_assign_Name (store_ok h hx (kindC hk) r hw fun h' tk G S FF F=>⟨W,st,G,S,⟨rfl,rfl⟩,FF,_,F,q⟩)
theorem st_attr {m:ME} (ih:A8 d cl m) (a):SemT d cl (.attr m a):=fun {w h₀ A env outer vs W st s N X e v u} h hc r hw q=>by
 refine onAttr_e hc fun o n pos hc=>and4 hc fun hi Z ha h3=>?_
 obtain rfl:=beq_iff_eq.mp hi
 have ha:=Nat.blt_eq.mp ha
 skip
 rw [assign_Attribute]
 refine wpAny_bind (wpAny_holding (h.ev ih h3 q fun W' st' s' ov uo x' S g r' hw' q'=>?_))
 refine wpAny_bind (wpAny_standAt (wpAny_bind (wpAny_holding (wpAny_mono (setAttr_ok x'.h.fx x'.h.G r' (S.val r hw) (E9 S.nx hw) q') (fun Z s₂ p=>?_) fun Z Z p=>p))))
 exact wpAny_release ((PostU.n x' p fun Z q=>q).after S.wide g)
theorem st_sub {o i:ME} (iho:A8 d cl o) (ihi:A8 d cl i):SemT d cl (.sub o i):=fun {w h₀ A env outer vs W st s N X e v u} h hc r hw q=>by
 refine onSub_e hc fun ov sl pos hc=>and3 hc fun Z h1 h2=>?_
 skip
 rw [assign_Subscript]
 refine wpAny_bind (wpAny_holding (h.ev iho h1 q fun W' st' s' a uo x' S g r' hw' q'=>?_))
 refine wpAny_bind (wpAny_holding (HS.on (x'.ev ihi h2 q' fun W₂ st₂ s₂ b ub x₂ S₂ g₂ r₂ hw₂ q₂=>?_) S.wide g fun Z Z p=>p))
 have SS:=S.trans S₂
 refine wpAny_bind (wpAny_standAt (wpAny_bind (wpAny_holding (wpAny_mono (setSub_ok x₂.h.G (S₂.val r' hw') r₂ (SS.val r hw) (E9 SS.nx hw) q₂) (fun Z s₃ p=>?_) fun Z Z p=>p))))
 exact wpAny_release ((PostU.n x₂ p fun Z q=>q).after SS.wide ⟨g₂.1.trans g.1,g₂.2.trans g.2⟩)
end
set_option tactic.hygienic true
section
variable {d:Nat} {cl:A7}
theorem st_asg:∀ {l:List (Nat ⊕ (Nat × Nat))} {es:List Expr} {w:World} {h₀:Heap} {A:Around} {env:Env} {outer:List Env} {vs:A2} {W:Wd} {st:St} {s:Shared} {N:A2->St->Prop} {X:St->Prop} {ws:List AV} {us:List Value},
  HS w h₀ A env outer vs W st s d->chkTup l env.scope es=true->VReps h₀ W s.heap ws us->A5 st.nx ws=true->ws.length=l.length->asgAll tabs l ws vs st N ->
  wpAny (Md w) A (assignInOrder ((assignEach es env).map (·.2)) us) (fun Z s'=>PostN w h₀ env outer W st s N s') (PostXS w h₀ (env::outer) (H3 env) env.locals W st s X) s
 | [],es,w,h₀,A,env,outer,vs,W,st,s,N,X,ws,us,h,hc,r,hw,hl,q=>by
  refine on0_e hc fun Z=>?_
  exact assignInOrder_nil (h.go q)
 | .inl x::l,es,w,h₀,A,env,outer,vs,W,st,s,N,X,ws,us,h,hc,r,hw,hl,q=>by
  refine on1_e hc fun t es hc=>F7 hc fun id p hc=>and4 hc fun hi hx hk h4=>?_
  obtain rfl:=beq_iff_eq.mp hi
  have hx:=Nat.blt_eq.mp hx
  have hk:=beq_iff_eq.mp hk
  cases r with
  | nil=>cases hl
  | @cons v ws u us rv r=>
  have hv:=G4 hw
  replace hw:=J9 hw
  ·refine assignInOrder_cons (wpAny_mono (wpAny_assign_Name (store_ok (Q:=fun Z s'=>Good w h₀ W st s'.heap/\Step (H3 env) W st s.heap W st s'.heap/\FrsOK h₀ W st s'.heap (env::outer)/\Frm h₀ env (put x v vs) W st s'.heap/\(s'.gens=s.gens/\s'.os=s.os)) h hx (.inl hk) rv hv fun h' tk G S FF F=>⟨G,S,FF,F,rfl,rfl⟩)) (fun Z s₁ p=>?_) fun Z Z p=>p)
   obtain ⟨G,S,FF,F,g⟩:=p
   have h':=h.next G F FF
   refine HS.on (st_asg h' h4 (r.mono S.tup (fun Z Z=>rfl) hw) hw (Nat.succ.inj hl) q) S g fun Z s₂ p=>PostN.after S g p
 | .inr (x,a)::l,es,w,h₀,A,env,outer,vs,W,st,s,N,X,ws,us,h,hc,r,hw,hl,q=>by
  refine on1_e hc fun t es hc=>onAttr_e hc fun o n pos hc=>F7 hc fun id p hc=>and6 hc fun hi hx hd hn ha h4=>?_
  obtain rfl:=beq_iff_eq.mp hi
  obtain rfl:=beq_iff_eq.mp hn
  have ha:=Nat.blt_eq.mp ha
  cases r with
  | nil=>cases hl
  | @cons v ws u us rv r=>
  have hv:=G4 hw
  replace hw:=J9 hw
  ·have q:ofO (B2 x vs) (fun o=>setAttrV tabs st o a v fun st=>asgAll tabs l ws vs st N):=q
   obtain ⟨o,ho,q⟩:=ofO_c q
   ·refine assignInOrder_cons ?_
    show wpAny _ _ (assign (.Attribute (.Name (nm x) p) (nm a) pos) env u) _ _ s
    rw [assign_Attribute]
    refine wpAny_bind (wpAny_holding (wpAny_Name (name_ok h.h.F hx ho fun uo ro=>?_) (by simpa using hd)))
    refine wpAny_bind (wpAny_standAt (wpAny_bind (wpAny_holding (wpAny_mono (setAttr_ok h.h.fx h.h.G ro rv hv q) (fun Z s₂ p=>?_) fun Z Z p=>p))))
    refine wpAny_release ?_
    obtain ⟨st',G,S,g,q'⟩:=p
    have h':=h.step G S
    refine HS.on (st_asg h' h4 (S.vals r hw) (I4 S.nx hw) (Nat.succ.inj hl) q') S.wide g fun Z s₃ p=>PostN.after S.wide g p
theorem chkTup_each {env:Env}:∀ {l:List (Nat ⊕ (Nat × Nat))} {es:List Expr},chkTup l env.scope es=true->(assignEach es env).length=l.length/\(assignEach es env).findIdx? (·.1)=none
 | [],_,hc=>on0_e hc fun Z=>⟨rfl,rfl⟩
 | .inl x::l,es,hc=>by
  refine on1_e hc fun t es hc=>F7 hc fun id p hc=>and4 hc fun Z Z Z h4=>?_
  obtain ⟨a,b⟩:=chkTup_each h4
  have e:assignEach (.Name id p::es) env=(false,assign (.Name id p) env)::assignEach es env:=rfl
  rw [e]
  exact ⟨congrArg Nat.succ a,by rw [List.findIdx?_cons,b]; rfl⟩
 | .inr (x,a)::l,es,hc=>by
  refine on1_e hc fun t es hc=>onAttr_e hc fun o n pos hc=>F7 hc fun id p hc=>and6 hc fun Z Z Z Z Z h4=>?_
  obtain ⟨a,b⟩:=chkTup_each h4
  have e:assignEach (.Attribute (.Name id p) n pos::es) env=(false,assign (.Attribute (.Name id p) n pos) env)::assignEach es env:=rfl
  rw [e]
  exact ⟨congrArg Nat.succ a,by rw [List.findIdx?_cons,b]; rfl⟩
theorem unpackV_c {v:AV} {n:Nat} {st:St} {Q:List AV->Prop} (q:unpackV v n st Q):(∃ l,v=.g (.tup l)/\chk (l.length==n) (Q (l.map .g)))\/∃ l,v=.tup l/\chk (l.length==n) (Q l):=by
 cases v with
 | g x=>cases x with
  | tup l=>exact .inl ⟨l,rfl,q⟩
  | _=>exact False.elim q
 | tup l=>exact .inr ⟨l,rfl,q⟩
 | _=>exact False.elim q
theorem st_tup (l):SemT d cl (.tup l):=fun {w h₀ A env outer vs W st s N X e v u} h hc r hw q=>by
 refine onTuple_e hc fun ts k pos hc=>?_
 obtain ⟨c1,c2⟩:=chkTup_each hc
 have hh:=h.h.N.handled
 have go:∀ (a:Addr) (us:List Value) (ws:List AV),TupD s.heap a us.toArray->VReps h₀ W s.heap ws us->A5 st.nx ws=true->ws.length=l.length->asgAll tabs l ws vs st N ->
   wpAny (Md w) A (assign (.Tuple ts k pos) env (.ref a)) (fun Z s'=>PostN w h₀ env outer W st s N s') (PostXS w h₀ (env::outer) (H3 env) env.locals W st s X) s:=fun a us ws t r hw hl q=>by
  have hu:=r.length
  refine assign_Tuple_tuple hh t.isTup (by rw [c1,List.size_toArray]; exact (Nat.le_antisymm (zll (zqs hl) (zq hu)) (zll (zqs hu) (zq hl)))) c2 fun h' he=>?_
  have k:∀ b o,s.heap.get? b=some o->h'.get? b=some o:=fun b o e=>he b o (Nat.ne_of_lt (Heap.lt_size e)) e
  obtain ⟨G',S'⟩:=h.h.G.grow k
  refine HS.on (st_asg (s:={s with heap:=h'}) (h.step G' S') hc (S'.vals r hw) hw hl q) S'.wide ⟨rfl,rfl⟩ fun Z s₂ p=>PostN.after (s₁:={s with heap:=h'}) S'.wide ⟨rfl,rfl⟩ p
 have q:unpackV v l.length st (fun ws=>asgAll tabs l ws vs st N):=q
 rcases unpackV_c q with ⟨l',rfl,q⟩ | ⟨l',rfl,q⟩
 ·have q:=cE q
  refine VRep.tup_e r fun t rp=>?_
  exact go _ _ _ t rp.toV (withinAll_iff.mpr fun y hy=>by obtain ⟨z,_,rfl⟩:=List.mem_map.mp hy; rfl) (by simpa using q.1) q.2
 ·have q:=cE q
  cases r with | tup t rp=>
  exact go _ _ _ t rp hw q.1 q.2
theorem sem_t (ok:CallOK d cl):∀ m,SemT d cl m
 | .var x=>st_var x
 | .attr e a=>st_attr (A4 ok e).1 a
 | .sub o i=>st_sub (A4 ok o).1 (A4 ok i).1
 | .tup l=>st_tup l
theorem ss_nil:SemSs d cl .nil:=fun {w h₀ A env outer vs W st s N R X l} h hc q=>by
 refine on0_e hc fun Z=>?_
 exact wpAny_execs_nil (h.go q).f
theorem ss_cons {m:MS} {r:MSs} (ihm:SemS d cl m) (ihr:SemSs d cl r):SemSs d cl (.cons m r):=fun {w h₀ A env outer vs W st s N R X l} h hc q=>by
 refine on1_e hc fun a l hc=>and2 hc fun h1 h2=>?_
 skip
 refine wpAny_execs_cons (wpAny_mono (ihm h h1 q) (fun f s' p=>?_) fun Z Z p=>p)
 obtain ⟨W',st',G,S,g,FF,p⟩:=p
 cases f with
 | next=>
  obtain ⟨vs',F,q'⟩:=p
  exact HS.on (ihr (h.next G F FF) h2 q') S g fun f s₂ p=>PostF.after S g p
 | ret u=>exact ⟨W',st',G,S,g,FF,p⟩
 | brk=>exact p.elim
 | cont=>exact p.elim
theorem ss_expr {m:ME} (ih:A8 d cl m):SemS d cl (.expr m):=fun {w h₀ A env outer vs W st s N R X e} h hc q=>by
 refine onSExpr_e hc fun v pos hc=>and2 hc fun h1 h2=>?_
 skip
 refine wpAny_Expr_any (h.ev ih h2 q fun W' st' s' v u x' S g r hw q'=>(PostN.after S.wide g (x'.go q')).f) (by unfold interactive; rw [h.h.F.kind]; rfl) ?_
 unfold swapsWith
 cases v<;>first | rfl | exact Bool.noConfusion h1
theorem ss_ite {t:ME} {a b:MSs} (iht:SemB d cl t) (iha:SemSs d cl a) (ihb:SemSs d cl b):SemS d cl (.ite t a b):=fun {w h₀ A env outer vs W st s N R X e} h hc q=>by
 refine onSIf_e hc fun c x y pos hc=>and3 hc fun h1 h2 h3=>?_
 skip
 refine wpAny_If (wpAny_mono (iht (Q:=fun b st=>cond b (B4 tabs cl a vs st N R X) (B4 tabs cl _ vs st N R X)) h.h h1 q) (fun v s' p=>?_) fun Z Z p=>p.toS)
 obtain ⟨W',st',G,S,g,q'⟩:=p
 have x':=h.step G S
 cases v with
 | true=>rw [if_pos rfl]; exact HS.on (iha x' h2 q') S.wide g fun f s₂ p=>PostF.after S.wide g p
 | false=>rw [if_neg (by decide)]; exact HS.on (ihb x' h3 q') S.wide g fun f s₂ p=>PostF.after S.wide g p
theorem ss_ret0:SemS d cl .ret0:=fun {w h₀ A env outer vs W st s N R X e} h hc q=>by
 refine onRet_e hc fun v pos hc=>onNo_e hc fun Z=>?_
 skip
 exact wpAny_Return_none ⟨W,st,h.h.G,h.h.G.refl.wide,⟨rfl,rfl⟩,h.frs,.no,.g .none,rfl,q⟩
theorem ss_ret {m:ME} (ih:A8 d cl m):SemS d cl (.ret m):=fun {w h₀ A env outer vs W st s N R X e} h hc q=>by
 refine onRet_e hc fun v pos hc=>onSome_e hc fun v hc=>?_
 skip
 exact wpAny_Return_some (h.ev ih hc q fun W' st' s' v u x' S g r hw q'=>⟨W',st',x'.h.G,S.wide,g,x'.frs,v,r,hw,q'⟩)
theorem ss_del {o i:ME} (iho:A8 d cl o) (ihi:A8 d cl i):SemS d cl (.del o i):=fun {w h₀ A env outer vs W st s N R X e} h hc q=>by
 refine onDel_e hc fun ts pos hc=>one_e hc fun t hc=>onSub_e hc fun v sl p hc=>and3 hc fun Z h1 h2=>?_
 skip
 rw [arm_exec_Delete,arm_deleteEach_cons]
 refine wpAny_bind (wpAny_standAt (wpAny_bind (wpAny_bind ?_)))
 show wpAny _ _ (do
   let ov <- eval v env
   let iv <- holding [ov] (eval sl env)
   standAt p
   holding [ov,iv] (delItem ov iv)
   release [ov,iv] []) _ _ s
 refine wpAny_bind (h.ev iho h1 q fun W' st' s' a uo x' S g r' hw' q'=>?_)
 refine wpAny_bind (wpAny_holding (HS.on (x'.ev ihi h2 q' fun W₂ st₂ s₂ b ub x₂ S₂ g₂ r₂ hw₂ q₂=>?_) S.wide g fun Z Z p=>p))
 refine wpAny_bind (wpAny_standAt (wpAny_bind (wpAny_holding (wpAny_mono (del_ok x₂.h.G (S₂.val r' hw') r₂ q₂) (fun Z s₃ p=>?_) fun Z Z p=>p))))
 exact wpAny_release (wpAny_pure (wpAny_pure (((PostU.n x₂ p fun Z q=>q).after (S.trans S₂).wide ⟨g₂.1.trans g.1,g₂.2.trans g.2⟩).f)))
theorem ss_augVar {m:ME} (ih:A8 d cl m) (x op):SemS d cl (.augVar x op m):=fun {w h₀ A env outer vs W st s N R X e} h hc q=>by
 refine onAug_e hc fun t o v pos hc=>F7 hc fun id p hc=>and6 hc fun hi hx hk ho hop h4=>?_
 obtain rfl:=beq_iff_eq.mp hi
 obtain rfl:=beq_iff_eq.mp ho
 have hx:=Nat.blt_eq.mp hx
 have hk:=beq_iff_eq.mp hk
 refine ofO_e q fun a ha q=>?_
 ·refine wpAny_AugAssign_Name (name_ok h.h.F (Bool.or_eq_true_iff.mpr (.inl (beq_iff_eq.mpr hk))) ha fun ua ra=>?_)
  refine h.ev ih h4 q fun W' st' s' b ub x' S g rb hb q'=>?_
  have ra':=S.val ra (vs_in h.h.F.vwf ha)
  refine wpAny_mono (inplace_ok (by exact hop) ra' rb q') (fun u₃ s₃ p=>?_) fun Z Z p=>p
  obtain ⟨v₃,tk,rfl,r₃,n₃,q₃⟩:=p
  have x₃:HS w h₀ A env outer vs W' st' {s' with toks:=tk} d:=x'.next x'.h.G x'.h.F x'.frs
  exact store_ok x₃ hx (.inl hk) (r₃ _ _ _) (n₃ _) fun h' tk' G' S' FF F'=>⟨W',st',G',S.wide.trans S',g,FF,_,F',q₃⟩
end
section
variable {d:Nat} {cl:A7}
theorem ss_augAttr {o m:ME} (iho:A8 d cl o) (ih:A8 d cl m) (a op):SemS d cl (.augAttr o a op m):=fun {w h₀ A env outer vs W st s N R X e} h hc q=>by
 refine onAug_e hc fun t p v pos hc=>onAttr_e hc fun ov n apos hc=>and6 hc fun hn ha ho hop h1 h2=>?_
 obtain rfl:=beq_iff_eq.mp hn
 obtain rfl:=beq_iff_eq.mp ho
 have ha:=Nat.blt_eq.mp ha
 refine wpAny_AugAssign_AttributeAny (h.ev iho h1 q fun W' st' s' oa uo x' S g r hw q'=>?_)
 refine wpAny_mono (getAttr_ok x'.h.fx x'.h.G ha r q') (fun u₁ s₁ p=>?_) fun Z Z p=>p
 obtain ⟨y,rfl,ry,hy,qy⟩:=p
 have x₁:HS w h₀ A env outer vs W' st' {s' with toks:=s'.toks+1} d:=x'.next x'.h.G x'.h.F x'.frs
 refine HS.on (x₁.ev ih h2 qy fun W₂ st₂ s₂ b ub x₂ S₂ g₂ r₂ hw₂ q₂=>?_) (s₁:={s' with toks:=s'.toks+1}) S.wide g fun Z Z p=>p
 refine wpAny_mono (inplace_ok (by exact hop) (S₂.val ry hy) r₂ q₂) (fun u₃ s₃ p=>?_) fun Z Z p=>p
 obtain ⟨v₃,tk,rfl,r₃,n₃,q₃⟩:=p
 have x₃:HS w h₀ A env outer vs W₂ st₂ {s₂ with toks:=tk} d:=x₂.next x₂.h.G x₂.h.F x₂.frs
 refine wpAny_mono (setAttr_ok x₃.h.fx x₃.h.G (S₂.val r hw) (r₃ _ _ _) (n₃ _) q₃) (fun Z s₄ p=>?_) fun Z Z p=>p
 exact ((PostU.n x₃ p fun Z q=>q).after (s₁:={s₂ with toks:=tk}) (S.trans S₂).wide ⟨g₂.1.trans g.1,g₂.2.trans g.2⟩).f
inductive SwC (value a:Expr) (line:Nat) (env:Env):Prop where
 | no (h:swapsWith value (some a) line env=pure false)
 | yes (elt:Expr) (gens:List Comprehension) (sc:Scope) (p:Pos) (n:Str) (np:Pos) (hv:value=.ListComp elt gens sc p) (ha:a=.Name n np) (h:swapsWith value (some a) line env=pure true) (k:env.kindOf n=some .local)
 | oth (h:noSD value=false)
theorem swaps_lc {a elt:Expr} {gens:List Comprehension} {sc:Scope} {p:Pos} {line:Nat} {env:Env}:SwC (.ListComp elt gens sc p) a line env:=by
 cases a with
 | Name n np=>
  have e:swapsWith (.ListComp elt gens sc p) (some (.Name n np)) line env=pure (env.blockKind==.function&&env.kindOf n==some .local&&np.line==p.line&&!(sc.names.any fun (m,k)=>m==n&&(k==.local||k==.cell))):=rfl
  cases hb:(env.blockKind==.function&&env.kindOf n==some .local&&np.line==p.line&&!(sc.names.any fun (m,k)=>m==n&&(k==.local||k==.cell))) with
  | false=>exact .no (e.trans (congrArg pure hb))
  | true=>exact .yes elt gens sc p n np rfl rfl (e.trans (congrArg pure hb)) (beq_iff_eq.mp (Bool.and_eq_true_iff.mp (Bool.and_eq_true_iff.mp (Bool.and_eq_true_iff.mp hb).1).1).2)
 | _=>exact .no rfl
theorem swaps_cases {value a:Expr} {line:Nat} {env:Env}:SwC value a line env:=by
 cases value with
 | ListComp=>exact swaps_lc
 | SetComp=>exact .oth rfl
 | DictComp=>exact .oth rfl
 | _=>exact .no rfl
theorem noStores {a value:Expr} {env:Env} (h:(notTuple value||notTuple a)=true):swappedStores [a] value env=pure none:=by
 cases a<;>first | rfl | skip
 all_goals (cases value<;>first | rfl | exact Bool.noConfusion h)
theorem each_one {P:Params} {sc:Scope} {t:MT} {a:Expr} {env:Env} (h:chkT P sc t a=true):(assignEach [a] env).map (·.2)=[assign a env]:=by
 cases a<;>first | rfl | skip
 cases t<;>exact Bool.noConfusion h
theorem own_adopt {W:Wd} {st:St} {o:AO} {D C:Addr} (hn:¬ Own W st C) (hne:C≠D) (low:∀ i,(st.get i).isSome=true->i < st.nx):¬ Own (W.add st.nx D D) (st.add o) C:=by
 rintro ⟨i,hi,hb⟩
 rw [get_add] at hi
 split at hi
 ·rename_i e; subst e
  have ea:(W.add st.nx D D).a st.nx=D:=by simp [Wd.add]
  have ed:(W.add st.nx D D).d st.nx=D:=by simp [Wd.add]
  rw [ea,ed,or_self] at hb
  exact hne hb
 ·have lt:=low i hi
  refine hn ⟨i,hi,?_⟩
  simpa [Wd.add,Nat.ne_of_lt lt] using hb
end
section
variable {w:World} {h₀:Heap} {A:Around} {env:Env} {vs:A2} {W₁:Wd} {st₁:St} {s₀:Shared} {fs:List Env} {d:Nat}
variable {src:Src} {it D C:Addr} {x:Nat} {cut:Bool} {ev:Ev}
theorem comp_endC {ground:Bool} {Q:AV->St->Prop} {W':Wd} {st':St} {k:Nat} {acc:List AV} {ys:List Value} {c:Nat} {m':Str->Option Value} {s':Shared} {h₇:Heap} {tk:Nat} (x₀:H w h₀ A env vs W₁ st₁ s₀ fs d)
  (dI:s₀.heap.get? it=none) (dD:s₀.heap.get? D=none) (dC:s₀.heap.get? C=none) (nID:it≠D) (nIC:it≠C) (nDC:D≠C)
  (ci:CI w h₀ W₁ st₁ s₀ src it D C x cut vs ev (compEnd ground Q) W' st' k [] acc ys c m' s') (k₇:∀ b o,b≠it->s'.heap.get? b=some o->h₇.get? b=some o) :
  ∃ W'' st'' v,Good w h₀ W'' st'' h₇/\Step [] W₁ st₁ s₀.heap W'' st'' h₇/\VRep h₀ W'' h₇ v (.ref D)/\v.within st''.nx=true/\Q v st''/\¬ Own W'' st'' C/\h₇.Ns C m':=by
 obtain ⟨G₇,kt₇⟩:=ci.G.side (h':=h₇) ci.nI (x₀.G.dead dI).2 (K9 ci.I.data) k₇
 have S₇:=ci.S.last dI k₇ kt₇
 have ns₇:h₇.Ns C m':=ci.ns.at' fun o e=>k₇ C o nIC.symm e
 have L₇:IsL h₇ D ys.toArray c:=k₇ D _ nID.symm ci.L
 have R₇:=ci.R.mono kt₇ (fun Z Z=>rfl) ci.wi
 have q:compEnd ground Q acc st':=ci.Q
 have hD0:=(x₀.G.dead dD).2
 cases ground with
 | true=>
  obtain ⟨l,hl,q⟩:=ofO_c q
  obtain ⟨G₉,S₉⟩:=G₇.adopt S₇ dD ci.nD hD0 L₇ (o:=.gl l) (fun W' hW=>.inl ⟨l,rfl,grounds_rep R₇ hl⟩) trivial
  exact ⟨_,_,.obj st'.nx,G₉,S₉,objNew,K2,q,own_adopt ci.nC nDC.symm ci.G.low,ns₇⟩
 | false=>
  obtain ⟨G₉,S₉⟩:=G₇.adopt S₇ dD ci.nD hD0 L₇ (o:=.ol acc) (fun W' hW=>.inr ⟨acc,rfl,R₇.mono (fun Z Z e=>e) hW ci.wi⟩) ci.wi
  exact ⟨_,_,.obj st'.nx,G₉,S₉,objNew,K2,q,own_adopt ci.nC nDC.symm ci.G.low,ns₇⟩
end
section
variable {d:Nat} {cl:A7}
set_option maxHeartbeats 4000000 in
theorem assign_comp {mi:MI} (ihi:SemI d cl mi) {ev:Ev} {ifs:List Expr} {elt iter:Expr} {scope:Scope} {px pos np:Pos} {x y:Nat} {cut ground:Bool} {w:World} {h₀:Heap} {A:Around} {env:Env} {outer:List Env} {vs:A2} {W:Wd} {st:St} {s:Shared} {N:A2->St->Prop} {X:St->Prop}
  (h:HS w h₀ A env outer vs W st s d) (hy:y < nmL.length) (hky:env.kindOf (nm y)=some .local) (hx:x < nmL.length) (h3:compScope env.scope scope (nm x)=true) (h4:chkI w.params env.scope mi iter=true)
  (turn:∀ cs C,TurnOK w h₀ A (compEnv scope cs C env) (env::outer) d ifs elt ev)
  (q:vcI tabs cl X mi vs st fun src st=>chk (Nat.ble src.items.length 1000000) (J6 src x cut st.nx vs ev (compEnd ground fun v st=>N (put y v vs) st) src.items [] st)) :
  wpAny (Md w) A (comprehension (.ListComp elt [⟨.Name (nm x) px,iter,ifs,0⟩] scope pos) scope env (firstIterPos [⟨.Name (nm x) px,iter,ifs,0⟩] pos) (newList []) false (eval iter env) (some (assign (.Name (nm y) np) env)))
   (fun Z s'=>PostN w h₀ env outer W st s N s') (PostXS w h₀ (env::outer) (H3 env) env.locals W st s X) s:=by
 have co:=comp_ok h3
 obtain ⟨cs,e1,e2,e3⟩:=clos_ok (frees h.h co)
 refine wpAny_comprehension_free (use:=some (assign (.Name (nm y) np) env)) rfl (noFold h4) e1 co.kind (names_same co) (wpAny_mono (ihi h.h h4 q) (fun u s₁ p=>?_) fun Z Z p=>p.toS)
 obtain ⟨W',st',src,G,S,g,I,q'⟩:=p
 obtain ⟨hz,q'⟩:=cB q'
 have x':=h.step G S
 refine comp_block (RR:=fun acc C=>compPost (Md w) A (PostXS w h₀ (env::outer) (H3 env) env.locals W st s X) (some (assign (.Name (nm y) np) env)) (fun Z s'=>PostN w h₀ env outer W st s N s') acc C) x'.h I hz q' hx co e2 e3 (fun C=>turn cs C) ?_
 intro it D C dI dD dC n1 n2 n3 W₂ st₂ k acc ys c m' s' ci h' tk kk
 obtain ⟨W₃,st₃,v,G₃,S₃,r₃,hw₃,q₃,nC,nsC⟩:=comp_endC (tk:=tk) x'.h dI dD dC n1 n2 n3 ci kk
 have x₃:HS w h₀ A env outer vs W₃ st₃ {s' with heap:=h',toks:=tk} d:=x'.step G₃ S₃
 have off:=Off.of_dead x'.h dC
 show wpAny _ A (assign (.Name (nm y) np) env (.ref D)) _ _ _
 refine wpAny_assign_Name (store_ok x₃ hy (.inl hky) r₃ hw₃ fun h₈ tk₈ G₈ S₈ FF₈ F₈=>?_)
 have exC:C∉H3 env:=fun hm=>by
  rcases List.mem_cons.mp hm with e | hm
  ·exact off.l e.symm
  ·obtain ⟨p,hp,e⟩:=List.mem_map.mp hm
   exact off.c p hp e
 have ns₈:h₈.Ns C m':=(S₈.evo C exC nC).ns nsC
 refine ⟨m',ns₈,fun h₉ hs₉=>?_⟩
 have k₉:∀ b o,b≠C->h₈.get? b=some o->h₉.get? b=some o:=fun b o hb e=>by rw [hs₉.2 b hb]; exact e
 obtain ⟨G₉,kt₉⟩:=G₈.side (h':=h₉) nC (x'.h.G.dead dC).2 (noTup_dict ns₈) k₉
 have S₉:Step (H3 env) W' st' s₁.heap W₃ st₃ h₉:=((S₃.wide (exs:=H3 env)).trans S₈).last dC k₉ kt₉
 exact PostN.after S.wide g ⟨W₃,st₃,G₉,S₉,ci.g,FF₈.side off.f k₉,_,F₈.side off.l off.c k₉ kt₉,q₃⟩
theorem swap_ok (ok:CallOK d cl) (m:ME) {elt:Expr} {gens:List Comprehension} {scope:Scope} {pos np:Pos} {y:Nat} {w:World} {h₀:Heap} {A:Around} {env:Env} {outer:List Env} {vs:A2} {W:Wd} {st:St} {s:Shared} {N:A2->St->Prop} {X:St->Prop}
  (h:HS w h₀ A env outer vs W st s d) (hy:y < nmL.length) (hky:env.kindOf (nm y)=some .local) (hc:A9 w.params env.scope m (.ListComp elt gens scope pos)=true) (q:vcE tabs cl X m vs st fun v st=>N (put y v vs) st) :
  wpAny (Md w) A (comprehension (.ListComp elt gens scope pos) scope env (firstIterPos gens pos) (newList []) (firstAsync gens) (firstIter gens env) (some (assign (.Name (nm y) np) env)))
   (fun Z s'=>PostN w h₀ env outer W st s N s') (PostXS w h₀ (env::outer) (H3 env) env.locals W st s X) s:=by
 cases m<;>first | exact Bool.noConfusion hc | skip
 case comp cut ground m x mi=>
  have hc:onGen gens (fun id it fs=>on0 fs (id==nm x&&okNm x&&compScope env.scope scope id&&chkI w.params env.scope mi it&&A9 w.params (relab env.scope scope) m elt))=true:=hc
  refine onGen_e hc fun id px iter ff hc=>on0_e hc fun hc=>and5 hc fun hi hx h3 h4 h5=>?_
  obtain rfl:=beq_iff_eq.mp hi
  have hx:=Nat.blt_eq.mp hx
  exact assign_comp (sem_i ok mi) h hy hky hx h3 h4 (fun cs C=>turn_plain (A4 ok m).1 h5) q
 case compIf cut ground m x mi c₀=>
  have hc:onGen gens (fun id it fs=>onOne fs fun f=>id==nm x&&okNm x&&compScope env.scope scope id&&chkI w.params env.scope mi it&&A9 w.params (relab env.scope scope) m elt&&A9 w.params (relab env.scope scope) c₀ f)=true:=hc
  refine onGen_e hc fun id px iter ff hc=>one_e hc fun f hc=>and6 hc fun hi hx h3 h4 h5 h6=>?_
  obtain rfl:=beq_iff_eq.mp hi
  have hx:=Nat.blt_eq.mp hx
  exact assign_comp (sem_i ok mi) h hy hky hx h3 h4 (fun cs C=>turn_if (A4 ok m).1 (A4 ok c₀).2 h5 h6) q
theorem chkT_var {t:MT} {P:Params} {sc:Scope} {n:Str} {np:Pos} (h:chkT P sc t (.Name n np)=true):∃ x,t=.var x:=by
 cases t with
 | var x=>exact ⟨x,rfl⟩
 | _=>cases h
theorem ss_assign (ok:CallOK d cl) (t:MT) (m:ME):SemS d cl (.assign t m):=fun {w h₀ A env outer vs W st s N R X e} h hc q=>by
 refine onAssign_e hc fun a v pos hc=>and4 hc fun h1 h2 h3 h4=>?_
 refine byG fun G_ k_=>?_
 cases swaps_cases (value:=v) (a:=a) (line:=pos.line) (env:=env) with
 | no hs=>
  refine k_ (wpAny_Assign_stores (h.ev (A4 ok m).1 h2 q fun W' st' s' v u x' S g r hw q'=>?_) hs (noStores h3))
  rw [each_one h1]
  exact HS.on (sem_t ok t x' h1 r hw q') S.wide g fun Z s₂ p=>(PostN.after S.wide g p).f
 | yes elt gens sc p n np hv ha hs hk=>
  subst hv; subst ha
  obtain ⟨x,rfl⟩:=chkT_var h1
  have h1:(n==nm x&&okNm x&&(env.scope.names.lookup n==some .local||env.scope.names.lookup n==some .cell))=true:=h1
  obtain ⟨h12,_⟩:=Bool.and_eq_true_iff.mp h1
  obtain ⟨hn,hx⟩:=Bool.and_eq_true_iff.mp h12
  obtain rfl:=beq_iff_eq.mp hn
  refine k_ ?_
  rw [exec_Assign_Name_used _ _ _ _ hs]
  refine wpAny_bind (wpAny_standAt (wpAny_bind ?_))
  show wpAny _ A (do let _ <- comprehension (.ListComp elt gens sc p) sc env (firstIterPos gens p) (newList []) (firstAsync gens) (firstIter gens env) (some (assign (.Name (nm x) np) env))) _ _ s
  exact wpAny_bind (wpAny_mono (swap_ok ok m h (Nat.blt_eq.mp hx) hk h2 q) (fun Z s₂ p=>wpAny_pure (wpAny_pure p.f)) fun Z Z p=>p)
 | oth hs=>rw [h4] at hs; cases hs
end
set_option tactic.hygienic false
section
variable {M:Model} {A:Around} {E:Value->Shared->Prop} {s:Shared}
theorem setFlightW {base:Heap} {l:List Env} {e:Addr} {cls a0 fl:Value} {f:Option Addr} {Q:Unit->Shared->Prop} (hkb:base.StaysIn s.heap) (hl:s.heap.FunFrames base l) (ht:s.heap.TracedAtW base e cls a0 fl)
  (h:∀ h',base.StaysIn h'->h'.FunFrames base l->h'.TracedAtW base e cls a0 (f.elim Value.none fun f=>rawInt f)->(∀ b o,s.heap.get? b=some o->(∀ vs,o.data≠.fields vs)->h'.get? b=some o)->Q () {s with heap:=h'}) :
  wpAny M A (setFlight (.ref e) f) Q E s:=by
 obtain ⟨oe,vs,T,oT,ts,he,hcls,hd,h1,hnT,hTe,hT,hdT,h3⟩:=ht
 have hsz3:3 < ts.size:=(Array.getElem?_eq_some_iff.mp h3).1
 have other:∀ b,b≠T->(s.heap.update T (Obj.mapFields (·.setIfInBounds 3 (f.elim Value.none fun f=>rawInt f)))).get? b=s.heap.get? b:=
  fun b hb=>Heap.get?_update_other _ _ (Ne.symm hb)
 have noRecord:∀ b o,s.heap.get? b=some o->(∀ vs,o.data≠.fields vs)->b≠T:=fun b o hb hnf q=>by
  rw [q,hT] at hb; injection hb with hb; subst hb; exact hnf ts hdT
 unfold setFlight
 refine wpAny_bind (wpAny_field he hd h1 ?_)
 rw [if_pos (show (Value.ref T != Value.none)=true from by simp)]
 refine wpAny_setField hT hdT hsz3 (h _ (fun b o hbo=>(other b fun q=>by rw [q,hnT] at hbo; cases hbo).trans (hkb b o hbo))
  (hl.of_keeps fun b o hb hnf=>⟨o,(other b (noRecord b o hb hnf)).trans hb,rfl⟩) ?_ fun b o hb hnf=>(other b (noRecord b o hb hnf)).trans hb)
 exact ⟨oe,vs,T,_,_,(other e (Ne.symm hTe)).trans he,hcls,hd,h1,hnT,hTe,Heap.get?_update_self _ hT (Obj.isFreed_of_fields (Obj.data_mapFields hdT _)),Obj.data_mapFields hdT _,by simp [hsz3]⟩
theorem note_held {hid:List Addr} {hX:Heap} {env:Env} {outer:List Env} {e:Addr} {Q:Unit->Shared->Prop} (hfr:A.frames=some (env::outer)) (hf:env.frame=some env.locals)
  (p:MadeX hid hX (env::outer) e s.heap\/Flies hid hX (env::outer) e s.heap\/Held hid hX (env::outer) e env.locals s.heap) (q:∀ h',Held hid hX (env::outer) e env.locals h'->Q () {s with heap:=h'}) :
  wpAny M A (noteFrame (.ref e) env) Q E s:=by
 rcases p with ⟨m1,m2,m3,⟨oe,vs,a0,he,hcls,hd,h0,h1⟩,m5⟩ | ⟨a0,fl,up⟩ | ⟨a0,hl,up⟩
 ·unfold noteFrame
  simp only [hf]
  refine wpAny_bind (wpAny_field he hd h1 ?_)
  rw [if_neg (by decide)]
  refine wpAny_entryW hfr m3 hf he m1 m2 hd (Array.getElem?_eq_some_iff.mp h1).1 h0 fun h' hN=>?_
  obtain ⟨k1,k2,k3,k4⟩:=hN
  rw [hcls] at k3
  exact q h' ⟨a0,⟨k1,m2,k2,k3⟩,m5.trans k4⟩
 ·exact wpAny_looks_onW hfr hf fl fun h' hl up'=>q h' ⟨a0,hl,up.trans up'⟩
 ·exact wpAny_noteFrame_againW hf hl.2.2.2 (q s.heap ⟨a0,hl,up⟩)
theorem leave_flies {hid:List Addr} {hX:Heap} {env:Env} {outer:List Env} {e:Addr} {Q:Unit->Shared->Prop} (hfr:A.frames=some (env::outer)) (hf:env.frame=some env.locals)
  (p:MadeX hid hX (env::outer) e s.heap\/Flies hid hX (env::outer) e s.heap\/Held hid hX (env::outer) e env.locals s.heap) (q:∀ h',Flies hid hX outer e h'->Q () {s with heap:=h'}) :
  wpAny M A (leaving env (.ref e)) Q E s:=by
 rcases p with ⟨m1,m2,m3,⟨oe,vs,a0,he,hcls,hd,h0,h1⟩,m5⟩ | ⟨a0,fl,up⟩ | ⟨a0,hl,up⟩
 ·refine wpAny_leaving_firstW hfr m3 hf he m1 m2 hd h1 h0 fun h' hL=>?_
  obtain ⟨k1,⟨_,_,k2⟩,k3,k4⟩:=hL
  rw [hcls] at k3
  exact q h' ⟨a0,⟨k1,m2,k2,k3⟩,m5.trans k4⟩
 ·exact wpAny_leaves_onW hfr hf fl fun h' hl up'=>q h' ⟨a0,hl,up.trans up'⟩
 ·unfold leaving
  refine wpAny_bind (wpAny_noteFrame_againW hf hl.2.2.2 ?_)
  refine wpAny_landsW hl fun h' hfl up'=>?_
  obtain ⟨k1,k2,⟨_,_,k3⟩,k4⟩:=hfl
  exact q h' ⟨a0,⟨k1,k2,k3,k4⟩,up.trans up'⟩
theorem came_held {hid:List Addr} {hX:Heap} {env:Env} {outer:List Env} {e:Addr} (hf:env.frame=some env.locals) (p:Held hid hX (env::outer) e env.locals s.heap) (q:∀ h',Held hid hX (env::outer) e env.locals h'->E (.ref e) {s with heap:=h'}) :
  cameBackBy M A env E (.ref e) s:=by
 obtain ⟨a0,⟨h1,h2,h3,h4⟩,up⟩:=p
 unfold cameBackBy
 obtain ⟨oe,vs,T,oT,ts,he,hcls,hd,hv1,r⟩:=id h4
 refine wpAny_bind (wpAny_field he hd hv1 ?_)
 rw [if_neg (by simp)]
 rw [hf]
 refine setFlightW h1 h3 h4 fun h' k1 k2 k3 k4=>q h' ⟨a0,⟨k1,h2,k2,k3⟩,fun b o e hn=>?_⟩
 obtain ⟨sl,es⟩:=up b o e hn
 exact ⟨sl,k4 b _ es hn⟩
end
inductive PostXH (w:World) (h₀:Heap) (env:Env) (outer:List Env) (W:Wd) (st:St) (s:Shared) (X:St->Prop) (u:Value) (s':Shared):Prop where
 | mk (W':Wd) (st':St) (hX:Heap) (hid:List Addr) (e:Addr) (he:u=.ref e) (G:Good w h₀ W' st' hX) (S:Step (H3 env) W st s.heap W' st' hX) (g:s'.gens=s.gens/\s'.os=s.os) (q:X st')
  (i:∀ b∈hid,h₀.get? b=none/\¬ Own W' st' b/\∃ o es n,hX.get? b=some o/\o.data=.dict es n) (f:Held hid hX (env::outer) e env.locals s'.heap):PostXH w h₀ env outer W st s X u s'
section
variable {M:Model} {w:World} {h₀:Heap} {A:Around} {env:Env} {outer:List Env} {vs:A2} {W:Wd} {st:St} {s s':Shared} {d:Nat} {X:St->Prop} {E:Value->Shared->Prop} {u:Value}
theorem PostXH.toS (p:PostXH w h₀ env outer W st s X u s'):PostXS w h₀ (env::outer) (H3 env) env.locals W st s X u s':=by
 obtain ⟨W',st',hX,hid,e,a1,a2,a3,a4,a5,a6,a7⟩:=p
 exact ⟨W',st',hX,hid,e,a1,a2,a3,a4,a5,a6,.inr (.inr a7)⟩
theorem PostXS.noted (hfr:A.frames=some (env::outer)) (hf:env.frame=some env.locals) (p:PostXS w h₀ (env::outer) (H3 env) env.locals W st s X u s') (q:∀ u s',PostXH w h₀ env outer W st s X u s'->E u s'):notedBy M A env E u s':=by
 obtain ⟨W',st',hX,hid,e,rfl,a2,a3,a4,a5,a6,a7⟩:=p
 unfold notedBy
 exact note_held hfr hf a7 fun h' hl=>q _ _ ⟨W',st',hX,hid,e,rfl,a2,a3,a4,a5,a6,hl⟩
theorem PostXH.came (hf:env.frame=some env.locals) (p:PostXH w h₀ env outer W st s X u s') (q:∀ u s',PostXS w h₀ (env::outer) (H3 env) env.locals W st s X u s'->E u s'):cameBackBy M A env E u s':=by
 obtain ⟨W',st',hX,hid,e,rfl,a2,a3,a4,a5,a6,a7⟩:=p
 exact came_held hf a7 fun h' hl=>q _ _ (PostXH.toS ⟨W',st',hX,hid,e,rfl,a2,a3,a4,a5,a6,hl⟩)
end
section
variable {w:World} {h₀:Heap} {A:Around} {env:Env} {outer:List Env} {vs:A2} {W W':Wd} {st st':St} {s s':Shared} {d n:Nat} {X:St->Prop}
theorem HS.cut (x:HS w h₀ A env outer vs W st s d):HS w h₀ A env outer (E1 n vs) W (st.cut n) s d:=⟨x.h.cut,x.frame,x.nodup⟩
theorem kp_look {k:A2} {x:Nat} {v:AV} {l:A2} (e:B2 x (kpVs k l)=some v):B2 x l=some v:=by
 induction l with
 | nil=>cases e
 | cons p r ih=>
  have e:B2 x (match B2 p.1 k with | some _=>p::kpVs k r | none=>kpVs k r)=some v:=e
  have no:B2 p.1 k=none->∀ {t:A2},B2 p.1 (kpVs k t)=none:=fun h {t}=>by
   induction t with
   | nil=>rfl
   | cons q t ih=>
    show B2 p.1 (match B2 q.1 k with | some _=>q::kpVs k t | none=>kpVs k t)=none
    cases z:B2 q.1 k with
    | none=>exact ih
    | some _=>
     refine (B1 p.1 q _).trans ?_
     rw [if_neg fun y=>by rw [y,z] at h; cases h]; exact ih
  rw [B1]
  cases z:B2 p.1 k with
  | none=>
   rw [z] at e
   by_cases y:x=p.1
   ·rw [y,no z] at e; cases e
   ·rw [if_neg y]; exact ih e
  | some _=>
   rw [z] at e
   have e:=(B1 x p (kpVs k r)).symm.trans e
   by_cases y:x=p.1
   ·rw [if_pos y] at e ⊢; exact e
   ·rw [if_neg y] at e ⊢; exact ih e
theorem kp_mem {k:A2} {p:Nat × AV} {l:A2} (e:p∈kpVs k l):p∈l:=by
 induction l with
 | nil=>cases e
 | cons q r ih=>
  have e:p∈(match B2 q.1 k with | some _=>q::kpVs k r | none=>kpVs k r):=e
  cases z:B2 q.1 k with
  | none=>rw [z] at e; exact .tail _ (ih e)
  | some _=>rw [z] at e; exact (List.mem_cons.mp e).elim (fun y=>by rw [y]; exact .head _) fun y=>.tail _ (ih y)
theorem HS.kp (k:A2) (x:HS w h₀ A env outer vs W st s d):HS w h₀ A env outer (kpVs k vs) W st s d:=
 ⟨⟨x.h.fx,x.h.G,{x.h.F with ns:=x.h.F.ns.imp fun Z y=>⟨y.1,fun Z Z e=>y.2 _ _ (kp_look e)⟩,cell:=fun Z Z e=>x.h.F.cell _ _ (kp_look e),vwf:=fun p hp=>x.h.F.vwf p (kp_mem hp)},x.h.N,x.h.fr⟩,x.frame,x.nodup⟩
end
inductive WhI (w:World) (h₀:Heap) (A:Around) (env:Env) (outer:List Env) (d:Nat) (W:Wd) (st:St) (s:Shared) (P:Nat->A2->St->Prop) (n:Nat) (s':Shared):Prop where
 | mk (W':Wd) (st':St) (vs':A2) (x':HS w h₀ A env outer vs' W' st' s' d) (S:Step (H3 env) W st s.heap W' st' s'.heap) (g:s'.gens=s.gens/\s'.os=s.os) (q:P n vs' st')
inductive FoI (w:World) (h₀:Heap) (A:Around) (env:Env) (outer:List Env) (d:Nat) (W₁:Wd) (st₁:St) (s₁:Shared) (src:Src) (it:Addr) (P:List AV->A2->St->Prop) (n:Nat) (s':Shared):Prop where
 | mk (W':Wd) (st':St) (vs':A2) (k:Nat) (r:List AV) (x':HS w h₀ A env outer vs' W' st' s' d) (S:Step (H3 env) W₁ st₁ s₁.heap W' st' s'.heap) (g:s'.gens=s₁.gens/\s'.os=s₁.os) (It:ItAt w W' src it k s'.heap) (nI:¬ Own W' st' it) (still:src.still st') (dr:src.items.drop k=r) (kl:k<=src.items.length) (q:P r vs' st') (hn:n=r.length+1)
noncomputable def vsOf (cut:Bool) (n:Nat) (vs:A2):A2:=match cut with | true=>E1 n vs | false=>vs
theorem vst_p {cut:Bool} {n:Nat} {vs:A2} {st:St} (P:A2->St->Prop) (h:P (E1 n vs) (st.cut n)) (k:P vs st):P (vsOf cut n vs) (stOf cut n st):=by
 cases cut with
 | true=>exact h
 | false=>exact k
theorem forS_of {src:Src} {x:Nat} {cut:Bool} {n:Nat} {body:A2->St->(A2->St->Prop)->Prop} {N:A2->St->Prop} {r:List AV} {vs:A2} {st:St}
  (q:match cut with | true=>H4 src x cut n body N r (E1 n vs) (st.cut n) | false=>H4 src x cut n body N r vs st):H4 src x cut n body N r (vsOf cut n vs) (stOf cut n st):=by
 cases cut<;>exact q
section
variable {d:Nat} {cl:A7}
theorem ss_whil {t:ME} {b:MSs} (iht:SemB d cl t) (ihb:SemSs d cl b):SemS d cl (.whil t b):=fun {w h₀ A env outer vs W st s N R X e} h hc q=>by
 refine onWhile_e hc fun c x y pos hc=>on0_e hc fun hc=>and2 hc fun h1 h2=>?_
 skip
 obtain ⟨f,q⟩:=q
 refine wpAny_While (codeAny_whileLoop (WhI w h₀ A env outer d W st s
  (WhileN st.nx (fun vs st k=>vcE tabs cl X t vs st fun c st=>boolV c fun b=>k b st) (fun vs st k=>B4 tabs cl b vs st k R X) N)) ?_ f ⟨W,st,vs,h,h.h.G.refl.wide,⟨rfl,rfl⟩,q⟩)
 intro n s' h_
 refine byG fun G_ k_=>?_
 obtain ⟨W',st',vs',x',S,g,q⟩:=h_
 refine k_ ?_
 have up:∀ {u s₂},PostXS w h₀ (env::outer) (H3 env) env.locals W st s X u s₂->notedBy (Md w) A env (fun e s'=>cameBackBy (Md w) A env (PostXS w h₀ (env::outer) (H3 env) env.locals W st s X) e s') u s₂:=fun p=>
  p.noted h.h.fr h.frame fun Z Z ph=>ph.came h.frame fun Z Z px=>px
 cases n with
 | zero=>exact q.elim
 | succ f=>
  refine wpAny_mono (iht (Q:=fun b' st'=>cond b' (B4 tabs cl b vs' st' (fun vs'' st''=>WhileN st.nx (fun vs st k=>vcE tabs cl X t vs st fun c st=>boolV c fun b=>k b st) (fun vs st k=>B4 tabs cl b vs st k R X) N f (E1 st.nx (kpVs vs' vs'')) (st''.cut st.nx)) R X) (N vs' st')) x'.h h1 q) (fun v s₂ p=>?_) fun Z Z p=>up (p.toS.after S g)
  obtain ⟨W₂,st₂,G₂,S₂,g₂,q₂⟩:=p
  have x₂:=x'.step G₂ S₂
  have SS:=S.trans S₂.wide
  have gg:s₂.gens=s.gens/\s₂.os=s.os:=⟨g₂.1.trans g.1,g₂.2.trans g.2⟩
  cases v with
  | true=>
   rw [if_pos rfl]
   refine wpAny_mono (ihb x₂ h2 q₂) (fun fl s₃ p=>?_) fun Z Z p=>up (p.after SS gg)
   obtain ⟨W₃,st₃,G₃,S₃,g₃,FF₃,p⟩:=p
   have S3:=SS.trans S₃
   have g3:s₃.gens=s.gens/\s₃.os=s.os:=⟨g₃.1.trans gg.1,g₃.2.trans gg.2⟩
   cases fl with
   | next=>
    obtain ⟨vs₃,F₃,q₃⟩:=p
    exact ⟨f,Nat.lt_succ_self _,W₃,_,_,((x₂.next G₃ F₃ FF₃).kp vs').cut,S3.cut,g3,q₃⟩
   | ret u=>exact ⟨W₃,st₃,G₃,S3,g3,FF₃,p⟩
   | brk=>exact p.elim
   | cont=>exact p.elim
  | false=>
   rw [if_neg (by decide)]
   exact wpAny_execs_nil ⟨W₂,st₂,G₂,SS,gg,x₂.frs,vs',x₂.h.F,q₂⟩
set_option maxHeartbeats 4000000 in
theorem ss_for {mi:MI} {b:MSs} (ihi:SemI d cl mi) (ihb:SemSs d cl b) (cut x):SemS d cl (.for_ cut x mi b):=fun {w h₀ A env outer vs W st s N R X e} h hc q=>by
 refine onFor_e hc fun t iter body y pos hc=>on0_e hc fun hc=>F7 hc fun id p hc=>and5 hc fun hi hx hk h4 h5=>?_
 obtain rfl:=beq_iff_eq.mp hi
 have hx:=Nat.blt_eq.mp hx
 have hk:=beq_iff_eq.mp hk
 skip
 rw [arm_exec_For]
 refine wpAny_bind (wpAny_standAt (wpAny_bind (wpAny_mono (ihi h.h h4 q) (fun u s₁ p=>?_) fun Z Z p=>p.toS)))
 obtain ⟨W₁,st₁,src,G₁,S₁,g₁,I,q₁⟩:=p
 have x₁:=h.step G₁ S₁
 obtain ⟨hok,hst,_⟩:=id I
 have hin:∀ i o,src=.lst i o->i < st₁.nx/\o.In st₁.nx:=fun i o e=>⟨G₁.low i (by rw [still_at e hst]; rfl),G₁.inn (still_at e hst)⟩
 refine wpAny_bind (wpAny_of_eq (noFold h4 u) ?_)
 refine wpAny_bind (wpAny_standAt (wpAny_bind (wpAny_holding (iter_ok G₁ I fun o It=>?_))))
 have dI:s₁.heap.get? s₁.heap.objs.size=none:=G7 (Nat.le_refl _)
 generalize hit:s₁.heap.objs.size=it at dI It
 have off:=Off.of_dead x₁.h dI
 have hI0:=(G₁.dead dI).2
 have hh:=h.h.N.handled
 have k0:∀ b o',s₁.heap.get? b=some o'->(s₁.heap.push o).get? b=some o':=fun b o' e=>Heap.get?_push_of_some _ e
 obtain ⟨G₂,S₂⟩:=G₁.grow k0
 refine wpAny_runOwn (codeAny_forLoop_any (FoI w h₀ A env outer d W₁ st₁ s₁ src it (H4 src x cut st₁.nx (fun vs st k=>B4 tabs cl b vs st k R X) N)) ?_ (src.items.length+1)
  ⟨W₁,st₁,vs,0,src.items,x₁.next (s':={s₁ with heap:=s₁.heap.push o}) G₂ (x₁.h.F.step G₁ S₂) ((x₁.step (s':={s₁ with heap:=s₁.heap.push o}) G₂ S₂).frs),S₂.wide,⟨rfl,rfl⟩,It,(G₁.dead dI).1,hst,rfl,Nat.zero_le _,q₁,rfl⟩)
 intro n s' h_
 refine byG fun G_ k_=>?_
 obtain ⟨W',st',vs',k,r,x',S,g,It',nI,still,dr,kl,q,hn⟩:=h_
 have up:∀ {u s₂},PostXS w h₀ (env::outer) (H3 env) env.locals W₁ st₁ s₁ X u s₂->notedBy (Md w) A env (fun e s'=>cameBackBy (Md w) A env (PostXS w h₀ (env::outer) (H3 env) env.locals W st s X) e s') u s₂:=fun p=>
  (p.after S₁.wide g₁).noted h.h.fr h.frame fun Z Z ph=>ph.came h.frame fun Z Z px=>px
 cases r with
 | nil=>
  refine k_ ?_
  refine next_done hh x'.h.G still hok It' ?_ fun h' tk kk=>?_
  ·exact Nat.le_antisymm (List.drop_eq_nil_iff.mp dr) kl
  ·obtain ⟨G₃,kt⟩:=x'.h.G.side (h':=h') nI hI0 (K9 It'.data) kk
   refine wpAny_execs_nil ⟨W',st',G₃,S₁.wide.trans (S.last dI kk kt),⟨g.1.trans g₁.1,g.2.trans g₁.2⟩,x'.frs.side off.f kk,vs',x'.h.F.side off.l off.c kk kt,q⟩
 | cons v r=>
  refine k_ ?_
  have hv:src.items[k]?=some v:=by
   have:=congrArg List.head? dr
   rwa [List.head?_drop] at this
  have hk':k < src.items.length:=(List.getElem?_eq_some_iff.mp hv).1
  refine next_item hh x'.h.G still It' nI hv fun u' h' tk ru hw hI' kk=>?_
  obtain ⟨G₃,kt⟩:=x'.h.G.side (h':=h') nI hI0 (K9 It'.data) kk
  have S₃:=S.last dI kk kt
  have x₃:HS w h₀ A env outer vs' W' st' {s' with heap:=h',toks:=tk} d:=x'.next G₃ (x'.h.F.side off.l off.c kk kt) (x'.frs.side off.f kk)
  have ru₃:=ru.mono kt (fun Z Z=>rfl) hw
  refine wpAny_of_eq (a:=()) rfl ?_
  refine wpAny_assign_Name (store_ok x₃ hx (.inl hk) ru₃ hw fun h₄ tk₄ G₄ S₄ FF₄ F₄=>?_)
  have x₄:HS w h₀ A env outer (put x v vs') W' st' {s' with heap:=h₄,toks:=tk₄} d:=x₃.next G₄ F₄ FF₄
  have itEx:it∉H3 env:=fun hm=>by
   rcases List.mem_cons.mp hm with e | hm
   ·exact off.l e.symm
   ·obtain ⟨p,hp,e⟩:=List.mem_map.mp hm
    exact off.c p hp e
  have It₄:ItAt w W' src it (k+1) h₄:=hI'.keep (fun o e=>(S₄.evo it itEx nI).same e fun es n q=>hI'.data.elim fun oi y=>y.elim fun vi y=>by
   cases ((congrArg Obj.data (Option.some.inj (y.1.symm.trans e))).symm.trans y.2).symm.trans q) fun Z Z Z=>rfl
  refine wpAny_mono (ihb x₄ h5 q) (fun fl s₅ p=>?_) fun Z Z p=>up (PostXS.after (s₁:={s' with heap:=h₄,toks:=tk₄}) (S₃.trans S₄) g p)
  obtain ⟨W₅,st₅,G₅,S₅,g₅,FF₅,p⟩:=p
  have S5:=(S₃.trans S₄).trans S₅
  have g5:s₅.gens=s₁.gens/\s₅.os=s₁.os:=⟨g₅.1.trans g.1,g₅.2.trans g.2⟩
  cases fl with
  | next=>
   obtain ⟨vs₅,F₅,q₅⟩:=p
   obtain ⟨still₅,q₅⟩:=Src.go_e q₅
   obtain ⟨oi,vi,hi,di⟩:=It₄.data
   have It₅:ItAt w W₅ src it (k+1) s₅.heap:=It₄.keep (fun o e=>(S₅.evo it itEx nI).same e (fun es n q=>by cases ((congrArg Obj.data (Option.some.inj (hi.symm.trans e))).symm.trans di).symm.trans q)) fun i o e=>
    (S₅.agree i (x'.h.G.low i (by rw [still_at e still]; rfl))).1
   have nI₅:=S₅.noOwn nI ⟨_,hi⟩
   have dr':src.items.drop (k+1)=r:=by rw [<- List.drop_drop,dr]; rfl
   have x₅:=(x₄.next G₅ F₅ FF₅).kp vs'
   exact ⟨r.length+1,by rw [hn]; exact Nat.lt_succ_self _,W₅,stOf cut st₁.nx st₅,vsOf cut st₁.nx (kpVs vs' vs₅),k+1,r,vst_p (fun v t=>HS w h₀ A env outer v W₅ t s₅ d) x₅.cut x₅,stOf_p (fun t=>Step (H3 env) W₁ st₁ s₁.heap W₅ t s₅.heap) S5.cut S5,g5,It₅,stOf_p (fun t=>¬ Own W₅ t it) (fun o=>nI₅ (own_cut o)) nI₅,still_of still₅ hin,dr',hk',forS_of q₅,rfl⟩
  | ret u=>exact ⟨W₅,st₅,G₅,S₁.wide.trans S5,⟨g5.1.trans g₁.1,g5.2.trans g₁.2⟩,FF₅,p⟩
  | brk=>exact p.elim
  | cont=>exact p.elim
end
theorem zip_lookup:∀ {ns:List Str} {us:List Value},ns.Nodup->us.length=ns.length->ns.filterMap (fun n=>((ns.zip us).lookup n).map (n,·))=ns.zip us:=by
 have gen:∀ (ns:List Str) (us:List Value) (slots:List (Str × Value)),us.length=ns.length->(∀ p∈ns.zip us,slots.lookup p.1=some p.2)->ns.filterMap (fun n=>(slots.lookup n).map (n,·))=ns.zip us:=by
  intro ns
  induction ns with
  | nil=>intro us slots _ _; rfl
  | cons n r ih=>
   intro us slots hl h
   cases us with
   | nil=>cases hl
   | cons u us=>
    have h0:slots.lookup n=some u:=h (n,u) (.head _)
    rw [List.filterMap_cons,h0]
    show (n,u)::_=_
    rw [ih us slots (by simpa using hl) fun p hp=>h p (.tail _ hp)]
    rfl
 have self:∀ (ns:List Str) (us:List Value),ns.Nodup->us.length=ns.length->∀ p∈ns.zip us,(ns.zip us).lookup p.1=some p.2:=by
  intro ns
  induction ns with
  | nil=>intro us _ _ p hp; cases hp
  | cons n r ih=>
   intro us nd hl p hp
   cases us with
   | nil=>cases hl
   | cons u us=>
    rw [List.nodup_cons] at nd
    rw [List.zip_cons_cons] at hp ⊢
    rw [List.lookup_cons]
    rcases List.mem_cons.mp hp with rfl | hp
    ·simp
    ·have hm:p.1∈r:=(List.of_mem_zip hp).1
     have:(p.1==n)=false:=by
      rw [beq_eq_false_iff_ne]; intro e; rw [e] at hm; exact nd.1 hm
     rw [this]
     exact ih us nd.2 (by simpa using hl) p hp
 intro ns us nd hl
 exact gen ns us _ hl (self ns us nd hl)
theorem zip_some {ns:List Str} {us:List Value} (hl:us.length=ns.length) {n:Str} (h:n∈ns):((ns.zip us).lookup n).isSome=true:=by
 induction ns generalizing us with
 | nil=>cases h
 | cons m r ih=>
  cases us with
  | nil=>cases hl
  | cons u us=>
   rw [List.zip_cons_cons,List.lookup_cons]
   cases e:n==m with
   | true=>rfl
   | false=>
    rcases List.mem_cons.mp h with rfl | h
    ·simp at e
    ·exact ih (by simpa using hl) h
theorem forIn_same {α β:Type} {l:List α} {c:β} {f:α->β->Sem (ForInStep β)} (h:∀ x∈l,f x c=pure (.yield c)):forIn l c f=pure c:=by
 induction l with
 | nil=>simp
 | cons x r ih=>
  rw [List.forIn_cons,h x (.head _),pure_bind]
  exact ih fun y hy=>h y (.tail _ hy)
noncomputable def bindTail (ns:List Str) (us ds:List Value):Sem (List (Str × Value)):=do
 let sl <- forIn ((ns.drop (ns.length - ds.length)).zip ds) (ns.zip us) fun x r=>if (r.lookup x.1).isNone=true then pure (.yield (r++[(x.1,x.2)])) else pure (.yield r)
 pure ((ns++[]).filterMap fun n=>(sl.lookup n).map fun x=>(n,x))
noncomputable def bindMid (ns:List Str) (us ds:List Value) (e:Sem (List (Str × Value))):Sem (List (Str × Value)):=
 if (!((ns.take (ns.length - ds.length)).filter fun n=>((ns.zip us).lookup n).isNone).isEmpty)=true then e else bindTail ns us ds
noncomputable def dsOf (ns:List Str) (o:Option (Array Value)):List Value:=(o.getD #[]).toList.drop ((o.getD #[]).toList.length - ns.length)
theorem bind_form {fd:FuncData} (us:List Value) (hp:fd.params.posonlyargs=[]) (hk:fd.params.kwonlyargs=[]) (hv:fd.params.vararg=none) (hw:fd.params.kwarg=none):∃ (e1 e2:Option (Array Value)->Sem (List (Str × Value))),
  bindArgs fd ⟨us,[]⟩=seqItems? fd.defaults>>=fun o=>if (decide (us.length > (fd.params.args.map (·.arg)).length)&&true)=true then e1 o else bindMid (fd.params.args.map (·.arg)) us (dsOf (fd.params.args.map (·.arg)) o) (e2 o):=by
 cases fd with
 | mk a b c=>
 cases c
 dsimp only at hp hk hv hw
 subst hp; subst hk; subst hv; subst hw
 exact ⟨_,_,rfl⟩
theorem mid_ok {ns:List Str} {us ds:List Value} {e:Sem (List (Str × Value))} (h:∀ n∈ns.take (ns.length - ds.length),((ns.zip us).lookup n).isSome=true):bindMid ns us ds e=bindTail ns us ds:=by
 refine if_neg ?_
 rw [List.filter_eq_nil_iff.mpr fun n hn=>by rw [Option.isNone_eq_false_iff.mpr (h n hn)]; exact Bool.false_ne_true]
 exact Bool.false_ne_true
theorem bind_ok {M:Model} {A:Around} {E:Value->Shared->Prop} {s:Shared} {fd:FuncData} {us:List Value} {Q:List (Str × Value)->Shared->Prop}
  (hp:fd.params.posonlyargs=[]) (hk:fd.params.kwonlyargs=[]) (hv:fd.params.vararg=none) (hw:fd.params.kwarg=none) (hl:us.length=(fd.params.args.map (·.arg)).length) (nd:(fd.params.args.map (·.arg)).Nodup)
  (hd:fd.defaults=.none\/∃ a o xs n,fd.defaults=.ref a/\s.heap.get? a=some o/\o.data=.seq xs n) (q:Q ((fd.params.args.map (·.arg)).zip us) s):wpAny M A (bindArgs fd ⟨us,[]⟩) Q E s:=by
 obtain ⟨e1,e2,h⟩:=bind_form us hp hk hv hw
 rw [h]
 generalize fd.params.args.map (·.arg)=ns at hl nd q
 have fin:∀ o,wpAny M A (if (decide (us.length > ns.length)&&true)=true then e1 o else bindMid ns us (dsOf ns o) (e2 o)) Q E s:=fun o=>by
  rw [if_neg (by rw [hl]; simp),mid_ok fun n hn=>zip_some hl (List.mem_of_mem_take hn)]
  refine wpAny_bind (wpAny_of_eq (forIn_same fun x hx=>?_) (wpAny_pure ?_))
  ·have hm:=zip_some hl (List.mem_of_mem_drop (List.of_mem_zip (show (x.1,x.2)∈_ from hx)).1)
   rw [if_neg (by rw [Option.isNone_eq_false_iff.mpr hm]; exact Bool.false_ne_true)]
  ·rw [List.append_nil,zip_lookup nd hl]; exact q
 rcases hd with hd | ⟨a,o,xs,n,hd,ho,hs⟩
 ·rw [hd]
  unfold seqItems?
  exact wpAny_bind (wpAny_bind (m:=notAStandIn .none) (wpAny_pure (wpAny_pure (fin none))))
 ·rw [hd]
  exact wpAny_bind (wpAny_seqItems ho hs (fin (some xs)))
theorem zip_short {x:Str} {init:List Str}:∀ {us:List Value},us.length=init.length->(init++[x]).zip us=init.zip us:=by
 induction init with
 | nil=>intro us h; cases List.length_eq_zero_iff.mp h; rfl
 | cons a r ih=>
  intro us h
  cases us with
  | nil=>cases h
  | cons u us=>exact congrArg (List.cons (a,u)) (ih (Nat.succ.inj h))
theorem zip_last {x:Str} {v:Value} {init:List Str}:∀ {us:List Value},us.length=init.length->(init++[x]).zip (us++[v])=init.zip us++[(x,v)]:=by
 induction init with
 | nil=>intro us h; cases List.length_eq_zero_iff.mp h; rfl
 | cons a r ih=>
  intro us h
  cases us with
  | nil=>cases h
  | cons u us=>exact congrArg (List.cons (a,u)) (ih (Nat.succ.inj h))
theorem zip_none {x:Str} {init:List Str} (h:x∉init):∀ {us:List Value},(init.zip us).lookup x=none:=by
 induction init with
 | nil=>intro us; rfl
 | cons a r ih=>
  intro us
  cases us with
  | nil=>rfl
  | cons u us=>
   rw [List.zip_cons_cons,lookup_cons',beq_eq_false_iff_ne.mpr fun e=>h (by rw [e]; exact .head _)]
   exact ih fun hm=>h (.tail _ hm)
theorem bind_last {M:Model} {A:Around} {E:Value->Shared->Prop} {s:Shared} {fd:FuncData} {us:List Value} {Q:List (Str × Value)->Shared->Prop}
  (hp:fd.params.posonlyargs=[]) (hk:fd.params.kwonlyargs=[]) (hv:fd.params.vararg=none) (hw:fd.params.kwarg=none) (hl:us.length+1=(fd.params.args.map (·.arg)).length) (nd:(fd.params.args.map (·.arg)).Nodup)
  (hd:∃ a o n,fd.defaults=.ref a/\s.heap.get? a=some o/\o.data=.seq #[.none] n) (q:Q ((fd.params.args.map (·.arg)).zip (us++[.none])) s):wpAny M A (bindArgs fd ⟨us,[]⟩) Q E s:=by
 obtain ⟨e1,e2,h⟩:=bind_form us hp hk hv hw
 rw [h]
 generalize fd.params.args.map (·.arg)=ns at hl nd q
 obtain ⟨a,o,n,hd,ho,hs⟩:=hd
 rw [hd]
 refine wpAny_bind (wpAny_seqItems ho hs ?_)
 have hne:ns≠[]:=fun z=>by rw [z] at hl; cases hl
 obtain ⟨init,x,rfl⟩:∃ init x,ns=init++[x]:=⟨ns.dropLast,ns.getLast hne,(List.dropLast_concat_getLast hne).symm⟩
 have e0:(init++[x]).length=init.length+1:=List.length_append
 have hil:us.length=init.length:=Nat.succ.inj (hl.trans e0)
 have hx:x∉init:=fun hm=>(List.nodup_append.mp nd).2.2 x hm x (.head _) rfl
 have hds:dsOf (init++[x]) (some #[.none])=[.none]:=by
  show List.drop (1 - (init++[x]).length) [Value.none]=_
  rw [e0,Nat.sub_eq_zero_of_le (Nat.le_add_left 1 _)]; rfl
 have hk:(init++[x]).length - [Value.none].length=init.length:=by rw [e0]; rfl
 rw [if_neg (by rw [e0,hil]; simp),hds,mid_ok fun n hn=>by
  rw [hk,List.take_left] at hn
  rw [zip_short hil]; exact zip_some hil hn]
 unfold bindTail
 rw [hk,List.drop_left,zip_short hil]
 show wpAny M A (forIn [(x,Value.none)] (init.zip us) _>>=_) Q E s
 rw [List.forIn_cons,zip_none hx]
 show wpAny M A (pure (init.zip us++[(x,Value.none)])>>=_) Q E s
 rw [pure_bind,<- zip_last hil]
 refine wpAny_pure ?_
 rw [List.append_nil,zip_lookup nd (by rw [List.length_append,e0,hil]; rfl)]
 exact q
theorem cells_ok {M:Model} {A:Around} {E:Value->Shared->Prop}:∀ (names:List (Str × NameKind)) (s:Shared) (cs:List (Str × Addr)) (b0:Nat) {Q:List (Str × Addr)->Shared->Prop},
  b0<=s.heap.objs.size->(∀ p∈cs,b0<=p.2/\∃ o,s.heap.get? p.2=some o/\o.data=.cell none)->(cs.map (·.2)).Nodup ->
  (∀ cs' h',(∀ b o,s.heap.get? b=some o->h'.get? b=some o)->(∀ p∈cs',b0<=p.2/\∃ o,h'.get? p.2=some o/\o.data=.cell none)->(cs'.map (·.2)).Nodup->(∀ p∈cs,p∈cs')->(∀ p∈names,p.2=.cell->∃ a,(p.1,a)∈cs')->Q cs' {s with heap:=h'}) ->
  wpAny M A (forIn names cs fun x r=>(do
   if (x.2==NameKind.cell)=true then do
    let a <- alloc {cls:=.type "cell",data:=.cell none}
    pure (ForInStep.yield ((x.1,a)::r))
   else pure (ForInStep.yield r):Sem (ForInStep (List (Str × Addr))))) Q E s
 | [],s,cs,b0,Q,_,hc,nd,q=>by
  rw [List.forIn_nil]
  exact wpAny_pure (q cs s.heap (fun Z Z e=>e) hc nd (fun Z h=>h) (fun Z h=>nomatch h))
 | (n,k)::r,s,cs,b0,Q,hb,hc,nd,q=>by
  rw [List.forIn_cons]
  by_cases hk:k=.cell
  ·subst hk
   have hb':(NameKind.cell==NameKind.cell)=true:=rfl
   simp only [hb',if_true]
   refine wpAny_bind (wpAny_bind (wpAny_alloc (wpAny_pure ?_)))
   have k1:∀ b o,s.heap.get? b=some o->(s.heap.push {cls:=.type "cell",data:=.cell none}).get? b=some o:=fun b o e=>Heap.get?_push_of_some _ e
   refine cells_ok r {s with heap:=s.heap.push {cls:=.type "cell",data:=.cell none}} ((n,s.heap.objs.size)::cs) b0 (by rw [Heap.size_push]; exact (zgw (i:=0) (j:=0) (k:=0) (l:=1) hb rfl)) (fun p hp=>?_) ?_ fun cs' h' k2 a1 a2 a3 a4=>?_
   ·rcases List.mem_cons.mp hp with rfl | hp
    ·exact ⟨hb,_,Heap.get?_push_size _ rfl,rfl⟩
    ·obtain ⟨c1,o,c2,c3⟩:=hc p hp
     exact ⟨c1,o,k1 _ _ c2,c3⟩
   ·rw [List.map_cons,List.nodup_cons]
    refine ⟨fun hm=>?_,nd⟩
    obtain ⟨p,hp,e⟩:=List.mem_map.mp hm
    obtain ⟨_,o,c2,_⟩:=hc p hp
    have:=Heap.lt_size c2
    rw [e] at this
    exact Nat.lt_irrefl _ this
   ·refine q cs' h' (fun b o e=>k2 b o (k1 b o e)) a1 a2 (fun p hp=>a3 p (.tail _ hp)) fun p hp hpc=>?_
    rcases List.mem_cons.mp hp with rfl | hp
    ·exact ⟨_,a3 _ (.head _)⟩
    ·exact a4 p hp hpc
  ·have hb':(k==NameKind.cell)=false:=by simpa using hk
   simp only [hb',Bool.false_eq_true,if_false]
   refine wpAny_bind (wpAny_pure ?_)
   refine cells_ok r s cs b0 hb hc nd fun cs' h' k2 a1 a2 a3 a4=>q cs' h' k2 a1 a2 a3 fun p hp hpc=>?_
   rcases List.mem_cons.mp hp with rfl | hp
   ·exact absurd hpc hk
   ·exact a4 p hp hpc
set_option tactic.hygienic true
theorem bindV_e {x:Nat} {r:List Nat} {v:AV} {l:List AV} {vs:A2} (h:bindV (x::r) (v::l)=some vs):∃ vs',bindV r l=some vs'/\(x,v)::vs'=vs:=by
 have h:(match bindV r l with | some vs=>some ((x,v)::vs) | none=>none)=some vs:=h
 cases e:bindV r l with
 | none=>rw [e] at h; cases h
 | some q=>rw [e] at h; exact ⟨q,rfl,Option.some.inj h⟩
theorem put_c {k j:Nat} {v w:AV} {r:A2}:put k v ((j,w)::r)=cond (k==j) ((j,v)::r) ((j,w)::put k v r):=rfl
theorem put_new {x:Nat} {v:AV} {l:A2} (h:x∉l.map (·.1)):put x v l=l++[(x,v)]:=by
 induction l with
 | nil=>rfl
 | cons p r ih=>
  rw [List.map_cons,List.mem_cons,not_or] at h
  rw [put_c,beq_eq_false_iff_ne.mpr h.1]
  exact congrArg (p::·) (ih h.2)
section
variable {w:World} {h₀:Heap} {A A':Around} {env:Env} {outer:List Env} {W:Wd} {st:St} {d:Nat} {M:Model} {E:Value->Shared->Prop}
theorem store_all:∀ {ps:List Nat} {args:List AV} {vs:A2} {us:List Value} {vs₀:A2} {s:Shared} {Q:Shared->Prop},
  HS w h₀ A env outer vs₀ W st s d->bindV ps args=some vs->VReps h₀ W s.heap args us->A5 st.nx args=true->((vs₀.map (·.1))++ps).Nodup ->
  (∀ x∈ps,x < nmL.length/\(env.kindOf (nm x)=some .local\/env.kindOf (nm x)=some .cell)) ->
  (∀ s',HS w h₀ A env outer (vs₀++vs) W st s' d->Step (H3 env) W st s.heap W st s'.heap->(s'.gens=s.gens/\s'.os=s.os)->Q s') ->
  wpAny M A' (forIn ((ps.map nm).zip us) PUnit.unit fun x Z=>(do storeName env x.1 x.2; pure (ForInStep.yield PUnit.unit):Sem (ForInStep PUnit))) (fun Z s'=>Q s') E s
 | [],args,vs,us,vs₀,s,Q,hs,e,r,hw,nd,hp,q=>by
  cases args<;>first | cases e | skip
  rw [List.map_nil,List.zip_nil_left,List.forIn_nil]
  refine wpAny_pure (q s (by rw [List.append_nil]; exact hs) hs.h.G.refl.wide ⟨rfl,rfl⟩)
 | x::ps,args,vs,us,vs₀,s,Q,hs,e,r,hw,nd,hp,q=>by
  cases r with
  | nil=>cases e
  | @cons v args u us rv r=>
  obtain ⟨vs',hb,rfl⟩:=bindV_e e
  ·have hv:=G4 hw
   replace hw:=J9 hw
   ·obtain ⟨hx,hk⟩:=hp x (.head _)
    rw [List.map_cons,List.zip_cons_cons,List.forIn_cons]
    refine wpAny_bind (wpAny_bind (store_ok hs hx hk rv hv fun h' tk G S FF F=>wpAny_pure ?_))
    have hs':HS w h₀ A env outer (put x v vs₀) W st {s with heap:=h',toks:=tk} d:=hs.next G F FF
    have hn:x∉vs₀.map (·.1):=fun hm=>by
     have:=(List.nodup_append.mp nd).2.2 x hm x (.head _)
     exact this rfl
    rw [put_new hn] at hs'
    refine store_all hs' hb (r.mono S.tup (fun Z Z=>rfl) hw) hw ?_ (fun y hy=>hp y (.tail _ hy)) fun s₂ hs₂ S₂ g₂=>?_
    ·rw [List.map_append,List.map_cons,List.map_nil,List.append_assoc]; exact nd
    ·rw [List.append_assoc] at hs₂
     exact q s₂ hs₂ (Step.trans (h':=h') S S₂) g₂
end
set_option tactic.hygienic false
section
variable {w:World} {h₀:Heap} {A A':Around} {fs:List Env} {W:Wd} {st:St} {s:Shared} {d:Nat} {M:Model} {E:Value->Shared->Prop}
theorem enter_ok {scope:Scope} {ps:List Nat} {args:List AV} {vs:A2} {us:List Value} {qual:Str} {func:Option Addr} {code:Value} {Q:Env->Shared->Prop}
  (fx:Fx w h₀) (G:Good w h₀ W st s.heap) (N:Arnd h₀ A W st s.heap (d+1) 2) (hfr:A.frames=some fs) (hk:scope.kind=.function) (hfree:∀ p∈scope.names,p.2≠.free)
  (hcons:∀ p∈scope.names,scope.names.lookup p.1=some p.2)
  (e:bindV ps args=some vs) (r:VReps h₀ W s.heap args us) (hw:A5 st.nx args=true) (nd:ps.Nodup)
  (hp:∀ x∈ps,x < nmL.length/\(scope.names.lookup (nm x)=some .local\/scope.names.lookup (nm x)=some .cell))
  (q:∀ env s',HS w h₀ (A.deeper env) env fs vs W st s' d->Step [] W st s.heap W st s'.heap->(s'.gens=s.gens/\s'.os=s.os)->env.scope=scope->(∀ b∈H3 env,s.heap.get? b=none)->Q env s') :
  wpAny M A' (newFunctionEnv scope mainGlobals [] ((ps.map nm).zip us) qual func code none builtinsNs) Q E s:=by
 unfold newFunctionEnv
 simp only [Option.isSome_none,Bool.false_eq_true,if_false]
 refine wpAny_bind (wpAny_alloc ?_)
 have k1:∀ b o,s.heap.get? b=some o->(s.heap.push {cls:=.type "frame",data:=.dict #[]}).get? b=some o:=fun b o e=>Heap.get?_push_of_some _ e
 refine wpAny_bind (cells_ok scope.names {s with heap:=s.heap.push {cls:=.type "frame",data:=.dict #[]}} [] (s.heap.objs.size+1) (by rw [Heap.size_push]; exact Nat.le_refl _) (fun Z h=>nomatch h) .nil fun cs h₂ k2 c1 c2 Z c4=>?_)
 have k:∀ b o,s.heap.get? b=some o->h₂.get? b=some o:=fun b o e=>k2 b o (k1 b o e)
 obtain ⟨G₂,S₂⟩:=G.grow k
 generalize hE:({scope,locals:=s.heap.objs.size,globals:=mainGlobals,cells:=cs,qual,func,code,frame:=some s.heap.objs.size,builtins:=builtinsNs}:Env)=env
 have el:env.locals=s.heap.objs.size:=by rw [<- hE]
 have ec:env.cells=cs:=by rw [<- hE]
 have es:env.scope=scope:=by rw [<- hE]
 have dead:∀ b∈H3 env,s.heap.get? b=none:=fun b hb=>by
  rcases List.mem_cons.mp hb with rfl | hb
  ·rw [el]; exact G7 (Nat.le_refl _)
  ·rw [ec] at hb
   obtain ⟨p,hp,rfl⟩:=List.mem_map.mp hb
   exact G7 (Nat.le_of_succ_le (c1 p hp).1)
 have hL:h₂.get? s.heap.objs.size=some {cls:=.type "frame",data:=.dict #[]}:=k2 _ _ (Heap.get?_push_size _ rfl)
 have ns:h₂.Ns env.locals (fun Z=>none):=by
  rw [el]
  have n0:(s.heap.push {cls:=.type "frame",data:=.dict #[]}).Ns s.heap.objs.size (fun Z=>none):=Heap.Ns.new ..
  exact n0.at' fun o e=>k2 _ o e
 have dl:=G.dead (dead env.locals (.head _))
 have F:Frm h₀ env [] W st h₂:={
  kind:=by rw [es]; exact hk
  glob:=by rw [<- hE]
  bi:=by rw [<- hE]
  newL:=dl.2
  notL:=dl.1
  ns:=⟨_,ns,fun x v h=>nomatch h⟩
  cell:=fun x v h=>nomatch h
  cells:=fun p hp=>by
   have hp':p∈cs:=by rw [<- ec]; exact hp
   obtain ⟨_,o,a,b⟩:=c1 p hp'
   exact ⟨⟨o,_,a,b⟩,(G.dead (dead p.2 (.tail _ (List.mem_map.mpr ⟨p,hp,rfl⟩)))).2⟩
  cellAll:=fun n hn=>by
   have hn:scope.names.lookup n=some .cell:=by rw [<- es]; exact hn
   obtain ⟨a,ha⟩:=c4 _ (G8 hn) rfl
   rw [ec]
   exact mem_lookup ha
  vwf:=fun p hp=>nomatch hp}
 obtain ⟨fs',hf,FF⟩:=N.frames
 rw [hfr] at hf; cases hf
 have FF₂:FrsOK h₀ W st h₂ (env::fs):=fun e' he=>by
  rcases List.mem_cons.mp he with rfl | he
  ·exact ⟨by rw [es,hk]; decide,s.heap.objs.size,_,by rw [<- hE],by rw [<- el]; exact dl.2,hL,⟨_,_,rfl⟩,by rw [<- el]; exact dl.1⟩
  ·exact FF.step S₂ e' he
 have hs:HS w h₀ (A.deeper env) env fs [] W st {s with heap:=h₂} d:=by
  refine ⟨⟨fx,G₂,F,⟨N.handled,⟨_,Around.frames_deeper hfr,FF₂⟩,?_,?_⟩,Around.frames_deeper hfr⟩,by rw [<- hE],by rw [ec]; exact c2⟩
  ·have:=N.depth
   show A.depth+1+4*d<=900+0
   lia
  ·have:=N.units
   show A.units+3+30*d<=9000+10*0
   lia
 refine wpAny_bind (store_all (Q:=fun s'=>wpAny M A' (pure env) Q E s') hs e (S₂.vals r hw) hw (by simpa using nd) (fun x hx=>⟨(hp x hx).1,by unfold Env.kindOf; rw [es]; exact (hp x hx).2⟩) fun s' hs' S' g'=>wpAny_pure (q env s' (by simpa using hs') ?_ g' es dead))
 exact (Step.trans' (ex₁:=[]) S₂ S' (fun Z h=>h) fun b hb=>.inr (dead b hb))
end
section
variable {w:World} {h₀ hX h:Heap} {W:Wd} {st:St} {hid:List Addr}
theorem flown (G:Good w h₀ W st hX) (hc:∀ b∈hid,h₀.get? b=none/\¬ Own W st b/\∃ o es n,hX.get? b=some o/\o.data=.dict es n) (b1:(hideAll hX hid).StaysIn h) (up:hX.UpToSlots h) :
  Good w h₀ W st h/\(∀ b,Kept b hX h)/\(∀ a y,TupD hX a y->TupD h a y):=by
 have keep:∀ b o,b∉hid->hX.get? b=some o->h.get? b=some o:=fun b o hb e=>b1 b o (hideAll_get hid e hb)
 have kt:∀ a y,TupD hX a y->TupD h a y:=fun a y t=>by
  obtain ⟨o,e,c,dn,n,q⟩:=t
  refine ⟨o,keep a o (fun hm=>?_) e,c,dn,n,q⟩
  obtain ⟨_,_,o',es,m,e',d'⟩:=hc a hm
  rw [e'] at e; cases e; rw [d'] at q; cases q
 refine ⟨{G with stays:=fun b o e=>keep b o (fun hm=>by rw [(hc b hm).1] at e; cases e) (G.stays b o e),rep:=fun i o e=>?_},fun b o e=>?_,kt⟩
 ·have hs:(st.get i).isSome=true:=by rw [e]; rfl
  exact (G.rep i o e).mono kt (fun Z Z=>rfl) rfl rfl (fun x=>keep _ x fun hm=>(hc _ hm).2.1 ⟨i,hs,.inl rfl⟩) (fun x=>keep _ x fun hm=>(hc _ hm).2.1 ⟨i,hs,.inr rfl⟩) (G.inn e)
 ·by_cases hb:b∈hid
  ·obtain ⟨_,_,o',es,n,e',d'⟩:=hc b hb
   rw [e'] at e; cases e
   obtain ⟨sl,q⟩:=up b o e' fun vs z=>by rw [d'] at z; cases z
   exact .inr ⟨⟨es,n,d'⟩,sl,q⟩
  ·exact .inl (keep b o hb e)
theorem Step.flown {ex:List Addr} {W₀:Wd} {st₀:St} {hs:Heap} (S:Step ex W₀ st₀ hs W st hX) (k:∀ b,Kept b hX h) (kt:∀ a y,TupD hX a y->TupD h a y):Step ex W₀ st₀ hs W st h where
 agree:=S.agree
 nx:=S.nx
 sub:=S.sub
 fresh:=S.fresh
 evo b hb ho:=(S.evo b hb ho).trans (k b)
 live b o e:=by
  obtain ⟨o',e'⟩:=S.live b o e
  exact (k b o' e').elim (fun q=>⟨_,q⟩) fun q=>q.2.elim fun Z q=>⟨_,q⟩
 tup a y e:=kt a y (S.tup a y e)
theorem FrsOK.flown {fs:List Env} {hs:Heap} {ex:List Addr} {W₀:Wd} {st₀:St} (S:Step ex W₀ st₀ hs W st hX) (F:FrsOK h₀ W₀ st₀ hs fs) (hc:∀ b∈hid,h₀.get? b=none/\¬ Own W st b/\∃ o es n,hX.get? b=some o/\o.data=.dict es n) (hf:h.FunFrames (hideAll hX hid) fs) (up:hX.UpToSlots h) :
  FrsOK h₀ W st h fs:=fun e he=>by
 obtain ⟨kk,f,o,a1,a2,a3,_,_⟩:=F e he
 have hm:f∈fs.filterMap (·.frame):=List.mem_filterMap.mpr ⟨e,he,a1⟩
 obtain ⟨b1,_⟩:=hf.mem hm
 have hh:f∈hid:=by
  by_cases q:f∈hid
  ·exact q
  ·obtain ⟨o',e'⟩:=S.live f o a3
   rw [hideAll_get hid e' q] at b1; cases b1
 obtain ⟨c1,c2,o',es,n,c3,c4⟩:=hc f hh
 obtain ⟨sl,q⟩:=up f o' c3 fun vs z=>by rw [c4] at z; cases z
 exact ⟨kk,f,_,a1,a2,q,⟨es,n,c4⟩,c2⟩
end
theorem o70 (P:Params):(KK P).lookup 70=some ⟨(.type "type"),none,(.cls {name := "FormatError",bases:=[(.ref 31)],mro:=[(.ref 70),(.ref 31),(.type "Exception"),(.type "BaseException"),(.type "object")],ns:=69,qualname := "FormatError",hasDict:=true,slotNames:=[],subclasses:=[],abstract:=false,collection:=none,hasDel:=false}),#[(some (.ref 54)),none,(some (.str "FormatError" 245)),(some (.str "FormatError" 253)),(some (.builtin "Exception.__new__")),(some (.bool true))]⟩:=by kernel_rfl
theorem match70 {M:Model} {A:Around} {E:Value->Shared->Prop} {s:Shared} {P:Params} {e:Addr} {oe:Obj} {Q:Bool->Shared->Prop} (X:(KK P).In s.heap) (he:s.heap.get? e=some oe) (hcls:oe.cls=.ref 70) (q:Q true s) :
  wpAny M A (excMatches (.ref e) (.ref 70)) Q E s:=by
 obtain ⟨hp,g,d,t,os⟩:=s
 exact wpAny_excMatches_sub_self (X _ _ (o70 P)) he hcls rfl q
section
variable {d:Nat} {cl:A7}
theorem PostXS.no {w:World} {h₀:Heap} {fs:List Env} {ex:List Addr} {L:Addr} {W:Wd} {st:St} {s s':Shared} {u:Value} (p:PostXS w h₀ fs ex L W st s (fun Z=>False) u s'):False:=by
 obtain ⟨_,_,_,_,_,_,_,_,_,f,_⟩:=p; exact f
theorem try_body {b:MSs} (ihb:SemSs d cl b) {w:World} {h₀:Heap} {A:Around} {env:Env} {outer:List Env} {vs:A2} {W:Wd} {st:St} {s:Shared} {N:A2->St->Prop} {R:AV->St->Prop} {X:St->Prop} {l:List Stmt} {E:Value->Shared->Prop}
  (h:HS w h₀ A env outer vs W st s d) (hc:chkSs w.params env.scope b l=true) (q:B4 tabs cl b vs st N R X) (he:∀ u s',PostXS w h₀ (env::outer) (H3 env) env.locals W st s X u s'->E u s') {E':Value->Shared->Prop} :
  wpAny (Md w) A (execs l env) (fun f s₁=>match f with | .next=>wpAny (Md w) A (execs [] env) (PostF w h₀ env outer W st s N R) E' s₁ | f=>PostF w h₀ env outer W st s N R f s₁) E s:=by
 refine wpAny_mono (ihb h hc q) (fun f s' p=>?_) he
 cases f with
 | next=>exact wpAny_execs_nil p
 | ret u=>exact p
 | brk=>exact p
 | cont=>exact p
theorem caught {w:World} {h₀:Heap} {A:Around} {env:Env} {outer:List Env} {vs:A2} {W:Wd} {st:St} {s s':Shared} {N:A2->St->Prop} {R:AV->St->Prop} {E:Value->Shared->Prop} {id:Str} {p hpos rp cp:Pos} {kd:Nat} {b':Bool} {u:Value}
  (h:HS w h₀ A env outer vs W st s d) (hg:gRef w.params env.scope id 70=true) (px:PostXS w h₀ (env::outer) (H3 env) env.locals W st s (fun st'=>R (.bool b') st') u s') :
  wpAny (Md w) A (noteFrame u env) (fun Z s₂=>wpAny (Md w) A (setFlight u none) (fun Z s₃=>wpAny (Md w) A (handleBy u env [.ExceptHandler (some (.Name id p)) none [.Return (some (.Constant (.bool b') kd cp)) rp] hpos]) (PostF w h₀ env outer W st s N R) E s₃) E s₂) E s':=by
 obtain ⟨W',st',hX,hid,e,rfl,G,S,g,hR,hcs,ex⟩:=px
 refine note_held h.h.fr h.frame ex fun h₂ hl₂=>?_
 obtain ⟨a0,⟨b1,b2,b3,b4⟩,up⟩:=hl₂
 refine setFlightW b1 b3 b4 fun h₃ c1 c3 c4 ck=>?_
 have up₃:hX.UpToSlots h₃:=fun b o e hn=>by obtain ⟨sl,q⟩:=up b o e hn; exact ⟨sl,ck b _ q hn⟩
 obtain ⟨G₃,_,_⟩:=flown G hcs c1 up₃
 obtain ⟨oe,vs',T,oT,ts,he,⟨hcls,_⟩,_⟩:=_root_.id c4
 obtain ⟨pp,loose,mg,mb,TR⟩:=h.h.fx.T
 simp only [gRef,isGl,Bool.and_eq_true,beq_iff_eq,bne_iff_ne,ne_eq] at hg
 obtain ⟨⟨hg1,hg2⟩,hg3⟩:=hg
 refine wpAny_handleBy_cons (codeAny_handlers_test (Name_function_global h.h.F.kind hg1 (loadGlobal_global (by rw [h.h.F.glob]; exact TR.g.keeps G₃.stays) (mg_of h.h.fx.X TR.g hg3) ?_) (by simpa using hg2))) (by intro q; cases q)
 refine match70 (P:=w.params) (h.h.fx.X.keeps G₃.stays) he hcls ?_
 refine codeAny_handlers_suite ?_
 refine setFlightW (f:=none) c1 c3 c4 fun h₄ d1 d3 d4 dk=>?_
 have up₄:hX.UpToSlots h₄:=fun b o e hn=>by obtain ⟨sl,q⟩:=up₃ b o e hn; exact ⟨sl,dk b _ q hn⟩
 obtain ⟨G₄,k₄,kt₄⟩:=flown G hcs d1 up₄
 refine wpAny_execs_cons (wpAny_Return_some (wpAny_pure ?_))
 exact ⟨W',st',G₄,S.flown k₄ kt₄,g,FrsOK.flown S h.frs hcs d3 up₄,.bool b',.bool b',rfl,hR⟩
theorem ss_try {b hh:MSs} (ihb:SemSs d cl b) (c n):SemS d cl (.try_ b c n hh):=fun {w h₀ A env outer vs W st s N R X e} h hc q=>by
 refine onTry_e hc fun body hs orelse final pos hc=>on0_e hc fun hc=>on0_e hc fun hc=>one_e hc fun hd hc=>onH_e hc fun t name hb hpos hc=>onSome_e hc fun t hc=>F7 hc fun id p hc=>and5 hc fun h1 h2 h3 h4 h5=>?_
 have q:cond (c==70) (cond n.isNone (B4 tabs cl b vs st N R (kHand (B4 tabs cl hh) N R X)) False) (B4 tabs cl b vs st N R fun Z=>False):=q
 refine wpAny_Try_except ?_
 cases hcc:c==70 with
 | false=>
  rw [hcc] at q
  exact try_body ihb h h3 q fun u s' p=>p.no.elim
 | true=>
  rw [hcc] at q
  have h5:=(Bool.or_eq_true_iff.mp h5).resolve_left fun z=>absurd (beq_iff_eq.mp hcc) (bne_iff_ne.mp z)
  rw [beq_iff_eq.mp hcc] at h1
  obtain ⟨hn,q⟩:=K5 q
  cases n with
  | some _=>cases hn
  | none=>
  cases name with
  | some _=>cases h2
  | none=>
  refine and2 h5 fun h5 h6=>?_
  obtain ⟨b',rfl⟩:∃ b',hh=.cons (.ret (.bool b')) .nil:=retB_e (C:=fun m=>∃ b',m=.cons (.ret (.bool b')) .nil) h5 fun b=>⟨b,rfl⟩
  obtain ⟨b'',kd,cp,rp,rfl⟩:∃ b k cp p,hb=[.Return (some (.Constant (.bool b) k cp)) p]:=isRetB_e (C:=fun l=>∃ b k cp p,l=[.Return (some (.Constant (.bool b) k cp)) p]) h6 fun b k cp p=>⟨b,k,cp,p,rfl⟩
  have h4:((b'==b'')&&true)=true:=h4
  have hbb:b'=b'':=by simpa using h4
  subst hbb
  exact try_body (X:=fun st'=>R (.bool b') st') ihb h h3 q fun u s' p=>caught h h1 p
end
theorem bindV_length {ps:List Nat}:∀ {l:List AV} {vs:A2},bindV ps l=some vs->l.length=ps.length:=by
 induction ps with
 | nil=>intro l vs h; cases l with | nil=>rfl | cons=>cases h
 | cons x r ih=>
  intro l vs h
  cases l with
  | nil=>cases h
  | cons v l=>
   have h:(match bindV r l with | some vs=>_ | none=>none)=some vs:=h
   cases q:bindV r l with
   | none=>rw [q] at h; cases h
   | some _=>exact congrArg Nat.succ (ih q)
theorem map_nm_nodup {l:List Nat} (hl:∀ x∈l,x < nmL.length) (nd:l.Nodup):(l.map nm).Nodup:=by
 induction l with
 | nil=>exact .nil
 | cons x r ih=>
  rw [List.nodup_cons] at nd
  rw [List.map_cons,List.nodup_cons]
  refine ⟨fun hm=>?_,ih (fun y hy=>hl y (.tail _ hy)) nd.2⟩
  obtain ⟨y,hy,e⟩:=List.mem_map.mp hm
  have:=nm_inj (hl y (.tail _ hy)) (hl x (.head _)) e
  subst this; exact nd.1 hy
section
variable {w:World} {h₀:Heap} {A:Around} {fs:List Env} {W:Wd} {st:St} {s:Shared} {d:Nat}
structure FnOK (P:Params) (F:Fn) (fd:FuncData) (b:List Stmt):Prop where
 c1:chkSs P fd.scope F.body b=true
 c2:codeIn (KK P) fd.code fd.qualname=true
 c3:fd.closure=[]
 c4:fd.globals=mainGlobals
 c5:fd.builtins=builtinsNs
 c6:fd.scope.isCoroutine=false
 c7:fd.scope.isGenerator=false
 c8:fd.scope.kind=.function
 c9:fd.params.posonlyargs=[]
 c10:fd.params.vararg=none
 c11:fd.params.kwonlyargs=[]
 c12:fd.params.kwarg=none
 c13:fd.params.args.map (·.arg)=F.pars.map nm
 c14:F.pars.Nodup
 c15:dfOk P fd.defaults=true
 c16:∀ p∈fd.scope.names,p.2≠.free
 c17:∀ p∈fd.scope.names,fd.scope.names.lookup p.1=some p.2
 c18:∀ x∈F.pars,x < nmL.length/\(fd.scope.names.lookup (nm x)=some .local\/fd.scope.names.lookup (nm x)=some .cell)
theorem and_c {a b:Bool} {P:Prop} (h:(a&&b)=true) (k:a=true->b=true->P):P:=k (Bool.and_eq_true_iff.mp h).1 (Bool.and_eq_true_iff.mp h).2
theorem chkFd_e {P:Params} {F:Fn} {fd:FuncData} {b:List Stmt} (h:chkFd P F fd b=true):FnOK P F fd b:=
 and_c h fun c1 h=>and_c h fun c2 h=>and_c h fun c3 h=>and_c h fun c4 h=>and_c h fun c5 h=>and_c h fun c6 h=>and_c h fun c7 h=>and_c h fun c8 h=>and_c h fun c9 h=>and_c h fun c10 h=>and_c h fun c11 h=>and_c h fun c12 h=>and_c h fun c13 h=>and_c h fun c14 h=>and_c h fun c15 h=>and_c h fun c16 h=>and_c h fun c17 c18=>
  ⟨c1,c2,List.isEmpty_iff.mp c3,beq_iff_eq.mp c4,beq_iff_eq.mp c5,(Bool.not_eq_true' _).mp c6,(Bool.not_eq_true' _).mp c7,beq_iff_eq.mp c8,List.isEmpty_iff.mp c9,Option.isNone_iff_eq_none.mp c10,List.isEmpty_iff.mp c11,Option.isNone_iff_eq_none.mp c12,beq_iff_eq.mp c13,of_decide_eq_true c14,c15,
   fun p hp=>bne_iff_ne.mp (List.all_eq_true.mp c16 p hp),fun p hp=>beq_iff_eq.mp (List.all_eq_true.mp c17 p hp),fun x hx=>and_c (List.all_eq_true.mp c18 x hx) fun a b=>⟨Nat.blt_eq.mp a,(Bool.or_eq_true_iff.mp b).imp beq_iff_eq.mp beq_iff_eq.mp⟩⟩
theorem ofB_e {α:Type} {o:Option α} {k:α->Bool} (h:ofB o k=true):∃ v,o=some v/\k v=true:=by
 cases o with
 | none=>cases h
 | some v=>exact ⟨v,rfl,h⟩
theorem dFunc_e {d:Data} {fd:FuncData} (h:dFunc d=some fd):d=.func fd:=by
 cases d with
 | func f=>cases h; rfl
 | _=>cases h
theorem dSeq_e {d:Data} {vs:Array Value} (h:dSeq d=some vs):∃ n,d=.seq vs n:=by
 cases d with
 | seq vs n=>cases h; exact ⟨n,rfl⟩
 | _=>cases h
theorem bStm_e {d:FuncBody} {b:List Stmt} (h:bStm d=some b):d=.stmts b:=by
 cases d with
 | stmts b=>cases h; rfl
 | _=>cases h
theorem vRef_e {v:Value} {a:Addr} (h:vRef v=some a):v=.ref a:=by
 cases v with
 | ref a=>cases h; rfl
 | _=>cases h
theorem chkF_e {P:Params} {f:Nat} {F:Fn} (h:chkF P f F=true):∃ o fd b,(KK P).lookup f=some o/\o.data=.func fd/\fd.body=.stmts b/\FnOK P F fd b:=by
 obtain ⟨o,e1,h⟩:=ofB_e h
 obtain ⟨fd,e2,h⟩:=ofB_e h
 obtain ⟨b,e3,h⟩:=ofB_e h
 exact ⟨o,fd,b,e1,dFunc_e e2,bStm_e e3,chkFd_e h⟩
theorem dfIs_e {P:Params} {v:Value} {k:Array Value->Bool} (h:dfIs P v k=true):∃ a o vs n,v=.ref a/\(KK P).lookup a=some o/\o.data=.seq vs n/\k vs=true:=by
 obtain ⟨a,e1,h⟩:=ofB_e h
 obtain ⟨o,e2,h⟩:=ofB_e h
 obtain ⟨vs,e3,h⟩:=ofB_e h
 exact (dSeq_e e3).elim fun n e3=>⟨a,o,vs,n,vRef_e e1,e2,e3,h⟩
theorem call_gen {f:Nat} {F:Fn} {fd:FuncData} {b:List Stmt} {o:Obj} {args:List AV} {us us':List Value} {vs:A2} {R:Result->Shared->Prop} (fx:Fx w h₀) (G:Good w h₀ W st s.heap) (N:Arnd h₀ A W st s.heap (d+1) 2) (hfr:A.frames=some fs)
  (hl:(KK w.params).lookup f=some o) (hdat:o.data=.func fd) (hbody:fd.body=.stmts b) (k:FnOK w.params F fd b) (r:VReps h₀ W s.heap args us') (hw:A5 st.nx args=true) (hb:bindV F.pars args=some vs)
  (bd:∀ {M:Model} {A:Around} {E:Value->Shared->Prop} {Q:List (Str × Value)->Shared->Prop},Q ((fd.params.args.map (·.arg)).zip us') s->wpAny M A (bindArgs fd ⟨us,[]⟩) Q E s)
  (h:∀ env b s',HS w h₀ (A.deeper env) env fs vs W st s' d->Step [] W st s.heap W st s'.heap->(s'.gens=s.gens/\s'.os=s.os)->chkSs w.params env.scope F.body b=true->(∀ x∈H3 env,s.heap.get? x=none) ->
   wpAny (Md w) (A.deeper env) (execs b env) (fun f s'=>R (.ok (.ret (match f with | .ret v=>v | _=>.none))) s')
    (fun e s'=>wpAny (Md w) (A.deeper env) (leaving env e) (fun Z s''=>R (.error e) s'') (fun e' s''=>R (.error e') s'') s') s') :
  codeAny (Md w) A (.call (.ref f) ⟨us,[]⟩) R s:=by
 have X:=fx.X.keeps G.stays
 have hroom:A.depth < recursionLimit:=Nat.lt_of_le_of_lt (Nat.le_trans (Nat.le_add_right _ _) N.depth) (by show _ < 1000; decide)
 obtain ⟨p,loose,mg,mb,T⟩:=fx.T
 refine codeAny_call_function hroom (X _ _ hl) hdat k.c6 k.c7 hbody (codeRec_of X k.c2) (bd ?_)
 rw [k.c3,k.c4,k.c5,k.c13]
 exact enter_ok fx G N hfr k.c8 k.c16 k.c17 hb r hw k.c14 k.c18 fun env s' hs S g es dead=>⟨T.nolimit.keeps hs.h.G.stays,codeAny_func (h env b s' hs S g (by rw [es]; exact k.c1) dead)⟩
theorem FnOK.nd {P:Params} {F:Fn} {fd:FuncData} {b:List Stmt} (k:FnOK P F fd b):(fd.params.args.map (·.arg)).Nodup:=by rw [k.c13]; exact map_nm_nodup (fun x hx=>(k.c18 x hx).1) k.c14
theorem call_fn {f:Nat} {F:Fn} {args:List AV} {us:List Value} {vs:A2} {R:Result->Shared->Prop} (fx:Fx w h₀) (G:Good w h₀ W st s.heap) (N:Arnd h₀ A W st s.heap (d+1) 2) (hfr:A.frames=some fs)
  (hck:chkF w.params f F=true) (r:VReps h₀ W s.heap args us) (hw:A5 st.nx args=true) (hb:bindV F.pars args=some vs)
  (h:∀ env b s',HS w h₀ (A.deeper env) env fs vs W st s' d->Step [] W st s.heap W st s'.heap->(s'.gens=s.gens/\s'.os=s.os)->chkSs w.params env.scope F.body b=true->(∀ x∈H3 env,s.heap.get? x=none) ->
   wpAny (Md w) (A.deeper env) (execs b env) (fun f s'=>R (.ok (.ret (match f with | .ret v=>v | _=>.none))) s')
    (fun e s'=>wpAny (Md w) (A.deeper env) (leaving env e) (fun Z s''=>R (.error e) s'') (fun e' s''=>R (.error e') s'') s') s') :
  codeAny (Md w) A (.call (.ref f) ⟨us,[]⟩) R s:=by
 obtain ⟨o,fd,b,hl,hdat,hbody,k⟩:=chkF_e hck
 refine call_gen fx G N hfr hl hdat hbody k r hw hb (fun q=>bind_ok k.c9 k.c11 k.c10 k.c12 (by rw [k.c13,List.length_map,<- bindV_length hb,r.length]) k.nd ?_ q) h
 refine (Bool.or_eq_true_iff.mp k.c15).imp beq_iff_eq.mp fun z=>?_
 obtain ⟨a,o,vs,n,e1,e2,e3,_⟩:=dfIs_e z
 exact ⟨a,o,vs,n,e1,fx.X.keeps G.stays _ _ e2,e3⟩
theorem dflt519:∀ P,(ofB ((KK P).lookup 519) fun o=>ofB (dFunc o.data) fun fd=>dfIs P fd.defaults fun vs=>vs==#[Value.none])=true:=fun P=>by kernel_rfl
theorem call_last {f:Nat} {F:Fn} {args:List AV} {us:List Value} {vs:A2} {R:Result->Shared->Prop} (fx:Fx w h₀) (G:Good w h₀ W st s.heap) (N:Arnd h₀ A W st s.heap (d+1) 2) (hfr:A.frames=some fs)
  (hf:lastNone f=true) (hck:chkF w.params f F=true) (r:VReps h₀ W s.heap args us) (hw:A5 st.nx args=true) (hb:bindV F.pars (args++[.no])=some vs)
  (h:∀ env b s',HS w h₀ (A.deeper env) env fs vs W st s' d->Step [] W st s.heap W st s'.heap->(s'.gens=s.gens/\s'.os=s.os)->chkSs w.params env.scope F.body b=true->(∀ x∈H3 env,s.heap.get? x=none) ->
   wpAny (Md w) (A.deeper env) (execs b env) (fun f s'=>R (.ok (.ret (match f with | .ret v=>v | _=>.none))) s')
    (fun e s'=>wpAny (Md w) (A.deeper env) (leaving env e) (fun Z s''=>R (.error e) s'') (fun e' s''=>R (.error e') s'') s') s') :
  codeAny (Md w) A (.call (.ref f) ⟨us,[]⟩) R s:=by
 obtain rfl:f=519:=beq_iff_eq.mp hf
 obtain ⟨o,fd,b,hl,hdat,hbody,k⟩:=chkF_e hck
 obtain ⟨o',e0,hdf⟩:=ofB_e (dflt519 w.params)
 cases hl.symm.trans e0
 obtain ⟨fd',e0,hdf⟩:=ofB_e hdf
 cases hdat.symm.trans (dFunc_e e0)
 obtain ⟨a,o',vs,n,e1,e2,e3,e4⟩:=dfIs_e hdf
 rw [beq_iff_eq.mp e4] at e3
 have hlen:=bindV_length hb
 rw [List.length_append] at hlen
 exact call_gen fx G N hfr hl hdat hbody k (r.append (.cons (.g .none) .nil)) (withinAll_iff.mpr fun v hv=>(List.mem_append.mp hv).elim (withinAll_iff.mp hw v) fun hv=>by rw [List.mem_singleton.mp hv]; rfl) hb
  (fun q=>bind_last k.c9 k.c11 k.c10 k.c12 (by rw [k.c13,List.length_map,<- hlen,r.length]; rfl) k.nd ⟨a,o',n,e1,fx.X.keeps G.stays _ _ e2,e3⟩ q) h
end
theorem chk_all:∀ P,(fnT.all fun p=>chkF P p.1 p.2)=true:=fun P=>by kernel_rfl
set_option tactic.hygienic true
theorem fn_chk {f:Nat} {F:Fn} (P:Params) (h:fnL f=some F):chkF P f F=true:=
 List.all_eq_true.mp (chk_all P) (f,F) (C7 h)
section
variable {w:World} {h₀:Heap} {env:Env} {fs:List Env} {W:Wd} {st:St} {s s' s₁:Shared}
theorem Step.shut {ex:List Addr} {W' W₂:Wd} {st' st₂:St} {h h' h₂:Heap} (S:Step [] W st h W' st' h') (S₂:Step ex W' st' h' W₂ st₂ h₂) (dead:∀ x∈ex,h.get? x=none):Step [] W st h W₂ st₂ h₂:=
 Step.trans' S S₂ (fun Z q=>q) fun b hb=>.inr (dead b hb)
theorem call_up {d:Nat} {cl:A7} (all:∀ m:MSs,SemSs d cl m):CallOK (d+1) (inl tabs fnL cl) where
 fn f args st Q X h:=by
  unfold inl at h
  split at h
  ·rename_i F hF; rw [hF]; rfl
  ·exact h.elim
 ok w h₀ fx A W st s f args us Q X fs G N hfr r hw h:=by
  unfold inl at h
  split at h
  ·rename_i F hF
   split at h
   ·rename_i vs hb
    have go:∀ env b s₁,HS w h₀ (A.deeper env) env fs vs W st s₁ d->Step [] W st s.heap W st s₁.heap->(s₁.gens=s.gens/\s₁.os=s.os)->chkSs w.params env.scope F.body b=true->(∀ x∈H3 env,s.heap.get? x=none) ->
      wpAny (Md w) (A.deeper env) (execs b env) (fun f s'=>(fun (r:Result) (s':Shared)=>match r with | .ok (.ret u)=>PostE w h₀ W st s Q u s' | .ok _=>False | .error e=>PostX w h₀ fs none W st s X e s') (.ok (.ret (match f with | .ret v=>v | _=>.none))) s')
       (fun e s'=>wpAny (Md w) (A.deeper env) (leaving env e) (fun Z s''=>PostX w h₀ fs none W st s X e s'') (fun e' s''=>PostX w h₀ fs none W st s X e' s'') s') s₁:=fun env b s₁ hs S g hc dead=>by
     refine wpAny_mono (all F.body hs hc h) (fun fl s₂ p=>?_) fun u s₂ p=>?_
     ·obtain ⟨W₂,st₂,G₂,S₂,g₂,_,p⟩:=p
      have S':=S.shut S₂ dead
      have g':s₂.gens=s.gens/\s₂.os=s.os:=⟨g₂.1.trans g.1,g₂.2.trans g.2⟩
      cases fl with
      | next=>obtain ⟨_,_,q⟩:=p; exact ⟨W₂,st₂,.no,G₂,S',g',.g .none,rfl,q⟩
      | ret u=>obtain ⟨v,rv,hv,q⟩:=p; exact ⟨W₂,st₂,v,G₂,S',g',rv,hv,q⟩
      | brk=>exact p.elim
      | cont=>exact p.elim
     ·obtain ⟨W₂,st₂,hX,hid,e,rfl,G₂,S₂,g₂,q,hh,ex⟩:=p
      refine leave_flies (Around.frames_deeper hfr) hs.frame ex fun h' hf=>?_
      exact ⟨W₂,st₂,hX,hid,e,rfl,G₂,S.shut S₂ dead,⟨g₂.1.trans g.1,g₂.2.trans g.2⟩,q,hh,.inl hf⟩
    cases hln:lastNone f with
    | false=>
     rw [hln] at hb
     exact call_fn fx G N hfr (fn_chk _ hF) r hw hb go
    | true=>
     rw [hln] at hb
     exact call_last fx G N hfr hln (fn_chk _ hF) r hw hb go
   ·exact h.elim
  ·exact h.elim
theorem call_none (d:Nat):CallOK d (fun Z Z Z Z Z=>False):=⟨fun Z Z Z Z Z h=>h.elim,fun Z Z Z Z Z Z Z Z Z Z Z Z Z Z Z Z Z Z h=>h.elim⟩
end
set_option tactic.hygienic false
noncomputable abbrev bm70:List Value:=[.ref 31,.type "Exception",.type "BaseException",.type "object"]
noncomputable abbrev bmE:List Value:=[.type "Exception",.type "BaseException",.type "object"]
theorem cls70:∀ P,(KK P).lookup 70=some (excClassObj "FormatError" "FormatError" 70 69 [.ref 31] bm70 true [] [] false none none (some (.ref 54)) none (some (.str "FormatError" 245)) (some (.str "FormatError" 253)) (some (.bool true)) "Exception.__new__"):=fun P=>by kernel_rfl
theorem tail70:∀ P,tailIn (KK P) bmE bm70=true:=fun P=>by kernel_rfl
theorem call70_special:∀ P,specialIn (KK P) (.ref 70) "__call__" = some (some (.builtin "type.__call__")):=fun P=>by kernel_rfl
theorem type70:∀ P,instIn (KK P) (.ref 70) (.type "type")=some true:=fun P=>by kernel_rfl
theorem init70:∀ P,findIn (KK P) (.ref 70) "__init__" = some (some (.ref 67)):=fun P=>by kernel_rfl
theorem set70:∀ P,findIn (KK P) (.ref 70) "__setattr__" = some (some (.builtin "object.__setattr__")):=fun P=>by kernel_rfl
theorem fn67:∀ P,typeIn (KK P) (.ref 67)=some (.type "function"):=fun P=>by kernel_rfl
section
variable {P:Params} {prog:Program} {w:World} {A:Around} {R:Result->Shared->Prop} {h:Heap} {g:Array GenState} {d:Drawn} {t:Nat} {os:OsState}
noncomputable abbrev tupObj (rest:List Value):Obj:={cls:=.type "tuple",data:=.seq rest.toArray}
noncomputable abbrev J3 (t:Addr):Obj:={cls:=.ref 70,data:=.fields #[.ref t,.none,.none,.none,.bool false,.none]}
theorem call70 {rest:List Value} (X:(KK P).In h) (hrest:rest.length<=sizeLine)
  (hq:codeAny (model prog w) (A.under (.builtin "type.__call__" ⟨.ref 70::rest,[]⟩)) (.call (.ref 67) ⟨.ref (h.objs.size+1)::rest,[]⟩) (InitBack (h.objs.size+1) R) ⟨(h.push (tupObj rest)).push (J3 h.objs.size),g,d,t,os⟩) :
  codeAny (model prog w) A (.call (.ref 70) ⟨rest,[]⟩) R ⟨h,g,d,t,os⟩:=by
 have hC:=X _ _ (cls70 P)
 have T:=tail_of_in X (tail70 P)
 have F:=PySem.F.excBase_Exception
 have call:Looks (model prog w) h (specialOf (.ref 70) "__call__") (some (.builtin "type.__call__")):=looks_specialIn X (call70_special P)
 have typ:Looks (model prog w) h (isInstance (.ref 70) (.type "type")) true:=looks_instIn X (type70 P)
 refine codeAny_of_tree ?_
 show wpAny _ _ (callAny (.ref 70) _) _ _ _
 refine nd_load hC ?_
 show wpAny _ _ (callAny.viaDunder (.ref 70) _) _ _ _
 unfold callAny.viaDunder
 refine wpAny_bind (call.at ?_)
 dsimp only
 rw [tc_bind]
 refine wpAny_bind (wpAny_pure (wpAny_bind (wpAny_pure ?_)))
 refine wpAny_pure (a:=Fin.again (.call (.builtin "type.__call__") ⟨.ref 70::rest,[]⟩)) (And.intro rfl ?_)
 refine codeAny_call_builtin_at (Code.quiet_builtin _ (by decide +kernel)) entry_typeCall (check_slot tc_kind tc_split typ (tc_args _ _ _) ?_)
 unfold Builtin.«type.__call__»
 repeat (first | with_reducible refine wpAny_loadPart_at hC ?_ | with_reducible refine wpAny_madeBy_exc hC ?_ | wp_step)
 refine codeAny_call_builtin_code (Code.quiet_builtin _ F.quiet) (wpAny_check_new_subT F T hC ?_)
 refine codeAny_exc_new_subT F T hC ?_ hrest
 show wpAny _ _ _ _ _ _
 have k:∀ b o,h.get? b=some o->((h.push (tupObj rest)).push (J3 h.objs.size)).get? b=some o:=fun b o e=>Heap.get?_push_of_some _ (Heap.get?_push_of_some _ e)
 have hC₁:=k _ _ hC
 have X₁:=X.keeps k
 have hget:((h.push (tupObj rest)).push (J3 h.objs.size)).get? (h.objs.size+1)=some (J3 h.objs.size):=by heap_get
 have hcC:(Value.ref 70::bm70).contains (.ref 70)=true:=by simp
 unfold isInstance
 repeat (first | with_reducible refine wpAny_loadPart_at hget ?_ | (with_reducible refine wpAny_isSubtype_exc hC₁ ?_; rw [hcC]) | wp_step)
 show wpAny _ _ (typeLookup (.ref 70) _) _ _ _
 refine (looks_findIn X₁ (init70 P)).here ?_
 refine wpAny_holding (wpAny_bind ((bind_fn X₁ _ (fn67 P)).here ?_))
 refine wpAny_bind (wpAny_call (codeAny_mono hq fun r s' z=>?_))
 rcases r with e | (v | _ | _ | _)<;>first | exact z | exact z.elim | skip
 obtain ⟨rfl,z⟩:=z
 exact wpAny_pure (wpAny_pure z)
end
open PySem PySem.W PyProof.Rows PySem.Calls Builtin Builtin.ObjectAttr
theorem refuse70 (x:Addr):refuseLoop (.ref x) "__setattr__" (.ref 70::bm70)=pure ():=by kernel_rfl
theorem cl70 (P:Params):∃ cd,clsIn (KK P) 70=some cd/\cd.mro=.ref 70::bm70/\cd.hasDict=true:=by
 unfold clsIn; rw [cls70 P]; exact ⟨_,rfl,rfl,rfl⟩
theorem take8:∀ P,takerIn (KK P) 70 (nm 8)=some none:=fun P=>by kernel_rfl
theorem take9:∀ P,takerIn (KK P) 70 (nm 9)=some none:=fun P=>by kernel_rfl
section
variable {w:World} {A:Around} {R:Result->Shared->Prop} {s:Shared} {x dx:Addr} {E:Value->Shared->Prop}
theorem osa70 {ox:Obj} {od:Option Obj} {name:Str} {tk:Tok} {v:Value} (X:(KK w.params).In s.heap) (I:InstAt s.heap x ox 70 od) (ht:takerIn (KK w.params) 70 name=some none)
  (h:∀ b,wpAny (Md w) A.in1 (storeInOwnDict (.ref x) (.ref 70) (.str name tk) name v b)
   (fun fin s'=>match fin with | .done f=>R (.ok f) s' | .again c'=>c'.quiet=true/\codeAny (Md w) A c' R s') (fun e s'=>R (.error e) s') s) :
  codeAny (Md w) A (.call (.builtin "object.__setattr__") ⟨[.ref x,.str name tk,v],[]⟩) R s:=by
 have SF:=PySem.F.store_object
 obtain ⟨cd,hc,hm,hd⟩:=cl70 w.params
 have sub:Looks (Md w) s.heap (isInstance (.ref x) (.type "object")) true:=I.type.andThen (looks_mroIn X (by unfold mroIn; rw [hc,Option.bind_some,hm]; rfl))
 refine codeAny_call_builtin SF.slot.plain SF.entry (@check_slot (Md w) _ _ s "object.__setattr__" "object" "__setattr__" (.ref x) [.str name tk,v] [] _ SF.kind SF.split sub (SF.args (.ref x) (.str name tk) v) ?_)
 obtain ⟨attr,ha,hr⟩:=Option.bind_eq_some_iff.mp ht
 have hmro:Looks (Md w) s.heap (mroOf (.ref 70)) cd.mro:=(looks_clsIn X hc).andThen .now
 have L3:Looks (Md w) s.heap (storeTaker? attr) none:=by
  cases attr with
  | none=>exact .now
  | some a=>
   obtain ⟨b,hb,hr⟩:=Option.map_eq_some_iff.mp hr
   refine (looks_takesIn X hb).andThen ?_
   cases b
   ·exact .now
   ·cases hr
 rw [osa_eq,refuse_eq]
 refine wpAny_bind (wpAny_bind (I.type.here (wpAny_bind (hmro.here ?_))))
 rw [hm,refuse70]
 refine wpAny_pure (wpAny_bind (I.type.here (wpAny_bind ((looks_findIn X ha).here (wpAny_bind (L3.here ?_))))))
 exact h _
theorem store_dict {name:Str} {tk:Tok} {v:Value} {es:List DictEntry} {n:Nat} {Q:Fin->Shared->Prop} (hd:s.heap.get? dx=some (dictOf es n)) (hk:es.any (·.refKey)=false) (hz:es.length<=1000)
  (q:Q (.done (.ret .none)) {s with heap:=s.heap.update dx (Obj.putName name (PyData.keyHash w.params name) (.str name s.toks) v),toks:=s.toks+1}) :
  wpAny (Md w) A (storeInDict dx (.str name tk) name v) Q E s:=by
 refine wpAny_bind (wpAny_pure (wpAny_bind ?_))
 unfold nsSet
 refine wpAny_bind (wpAny_bind (wpAny_askSetting (wpAny_pure (wpAny_bind (wpAny_mkText (wpAny_bind (wpAny_loadPart hd ?_)))))))
 dsimp only
 have c:(!es.toArray.any (·.key.isStr name)&&es.toArray.any (·.refKey))=false:=by
  rw [<- Array.any_toList,<- Array.any_toList,hk,Bool.and_false]
 rw [aRefKeyMayBeTheName_at,c]
 have D':(s.heap.update dx (Obj.putName name (PyData.keyHash w.params name) (.str name s.toks) v)).get? dx=some (dictOf (putL name (PyData.keyHash w.params name) (.str name s.toks) v es) (putN name es n)):=by
  have:=Heap.get?_update_self (Obj.putName name (PyData.keyHash w.params name) (.str name s.toks) v) hd (by rw [putName_dict]; rfl)
  rw [putName_dict] at this; exact this
 refine wpAny_updatePart hd ?_
 have len:(putL name (PyData.keyHash w.params name) (.str name s.toks) v es).length<=es.length+1:=by
  clear D' c hk hd q hz
  induction es with
  | nil=>simp [putL]
  | cons e r ih=>unfold putL; split<;>simp at*<;> exact ih
 exact wpAny_bind (wpAny_lookBehind D' (pastItsLine_dict (by rw [List.size_toArray,sizeLine_eq]; exact (zgw (b:=0) (i:=0) (j:=1001) (k:=0) (l:=16777217) (zg (c:=0) (i:=0) (j:=1) (k:=0) (l:=1000) len hz) rfl))) (wpAny_pure q))
theorem set70a {t0:Addr} {v:Value} {Q:Unit->Shared->Prop} (X:(KK w.params).In s.heap) (hx:s.heap.get? x=some (J3 t0))
  (q:∀ h' dx es n tk,(∀ b o,b≠x->s.heap.get? b=some o->h'.get? b=some o)->h'.get? x=some {J3 t0 with dict:=some dx}->h'.get? dx=some (dictOf es n)->es.any (·.refKey)=false->es.length<=1000->s.heap.get? dx=none->dx≠x->Q () {s with heap:=h',toks:=tk}) :
  wpAny (Md w) A (setAttr (.ref x) (nm 8) v) Q E s:=by
 have I:InstAt s.heap x (J3 t0) 70 none:=⟨hx,rfl,rfl,trivial⟩
 refine set_plain X I (set70 _) (osa70 (s:={s with toks:=s.toks+1}) X I (take8 _) fun b=>?_)
 obtain ⟨cd,hc,hm,hd⟩:=cl70 w.params
 refine wpAny_bind (wpAny_pure (wpAny_bind (wpAny_bind (wpAny_loadPart hx (wpAny_bind ((looks_clsIn X hc).here (s:={s with toks:=s.toks+1}) ?_))))))
 rw [hd]
 show wpAny _ _ (do
  let d <- alloc {cls:=Value.type "dict",data:=Data.dict #[]}
  update x fun o=>{o with dict:=some d}
  pure (some d)) _ _ _
 have hx1:(s.heap.push emptyDict).get? x=some (J3 t0):=Heap.get?_push_of_some _ hx
 have lt:=Heap.lt_size hx
 refine wpAny_bind (wpAny_alloc (wpAny_bind (wpAny_update hx1 (wpAny_pure ?_))))
 have up:=Heap.get?_update_self (fun o:Obj=>{o with dict:=some s.heap.objs.size}) hx1 rfl
 have oth:∀ b,b≠x->((s.heap.push emptyDict).update x fun o:Obj=>{o with dict:=some s.heap.objs.size}).get? b=(s.heap.push emptyDict).get? b:=fun b hb=>Heap.get?_update_other _ _ (Ne.symm hb)
 have hdx:((s.heap.push emptyDict).update x fun o:Obj=>{o with dict:=some s.heap.objs.size}).get? s.heap.objs.size=some (dictOf [] 0):=by
  rw [oth _ (Nat.ne_of_gt lt)]
  exact Heap.get?_push_size _ rfl
 generalize hH:((s.heap.push emptyDict).update x fun o:Obj=>{o with dict:=some s.heap.objs.size})=H at up oth hdx
 have up2:=Heap.get?_update_self (Obj.putName (nm 8) (PyData.keyHash w.params (nm 8)) (.str (nm 8) (s.toks+1)) v) hdx (by rw [putName_dict]; rfl)
 rw [putName_dict] at up2
 refine store_dict (s:={s with heap:=H,toks:=s.toks+1}) hdx rfl (by decide) ?_
 refine q _ s.heap.objs.size _ _ _ (fun b o hb e=>?_) ?_ up2 rfl (by show 1<=1000; decide) (G7 (Nat.le_refl _)) (Nat.ne_of_gt lt)
 ·rw [Heap.get?_update_other _ _ (Nat.ne_of_gt (Heap.lt_size e)),oth b hb]
  exact Heap.get?_push_of_some _ e
 ·rw [Heap.get?_update_other _ _ (Nat.ne_of_gt lt)]; exact up
theorem set70b {t0:Addr} {v:Value} {es:List DictEntry} {n:Nat} {Q:Unit->Shared->Prop} (X:(KK w.params).In s.heap) (hx:s.heap.get? x=some {J3 t0 with dict:=some dx}) (hd:s.heap.get? dx=some (dictOf es n)) (hk:es.any (·.refKey)=false) (hz:es.length<=1000)
  (q:∀ h' tk,(∀ b o,b≠dx->s.heap.get? b=some o->h'.get? b=some o)->(∃ o,h'.get? dx=some o)->Q () {s with heap:=h',toks:=tk}) :
  wpAny (Md w) A (setAttr (.ref x) (nm 9) v) Q E s:=by
 have I:InstAt s.heap x {J3 t0 with dict:=some dx} 70 (some (dictOf es n)):=⟨hx,rfl,rfl,hd⟩
 refine set_plain X I (set70 _) (osa70 (s:={s with toks:=s.toks+1}) X I (take9 _) fun b=>?_)
 obtain ⟨cd,hc,hm,hdt⟩:=cl70 w.params
 refine wpAny_bind (wpAny_pure (wpAny_bind (wpAny_bind (wpAny_loadPart hx (wpAny_bind ((looks_clsIn X hc).here (s:={s with toks:=s.toks+1}) ?_))))))
 rw [hdt]
 refine wpAny_pure (a:=some dx) (store_dict (s:={s with toks:=s.toks+1}) hd hk hz (q _ _ (fun b o hb e=>(Heap.get?_update_other _ _ (Ne.symm hb)).trans e) ⟨_,Heap.get?_update_self _ hd (by rw [putName_dict]; rfl)⟩))
end
section
variable {w:World} {h₀ h:Heap} {A:Around} {fs:List Env} {W:Wd} {st:St} {s:Shared} {d:Nat} {E:Value->Shared->Prop}
noncomputable def bumpW (W:Wd) (n:Nat) (a:Addr):Wd:=⟨fun i=>if i=n then a else W.a i,W.d⟩
noncomputable def bumpS (st:St):St:=⟨st.sto,st.nx+1⟩
theorem Good.bump (G:Good w h₀ W st h) (a:Addr):Good w h₀ (bumpW W st.nx a) (bumpS st) h:=by
 have ag:∀ i,i < st.nx->(bumpW W st.nx a).a i=W.a i:=fun i hi=>if_neg (Nat.ne_of_lt hi)
 have own:∀ b,Own (bumpW W st.nx a) (bumpS st) b->Own W st b:=fun b ⟨i,hi,hb⟩=>⟨i,hi,by rw [ag i (G.low i hi)] at hb; exact hb⟩
 refine ⟨G.stays,fun i o e=>?_,fun i e=>Nat.lt_succ_of_lt (G.low i e),fun b hb=>G.new b (own b hb),fun i j hi hj hn=>?_,?_⟩
 ·exact (G.rep i o e).mono (fun Z Z t=>t) ag (ag i (G.low i (by rw [show st.get i=some o from e]; rfl))) rfl (fun Z x=>x) (fun Z x=>x) (G.inn e)
 ·rw [ag i (G.low i hi),ag j (G.low j hj)]; exact G.apart i j hi hj hn
 ·refine wf_iff.mpr fun p hp=>?_
  obtain ⟨a1,a2⟩:=wf_iff.mp G.wf p hp
  exact ⟨Nat.lt_succ_of_lt a1,a2.mono (Nat.le_succ _)⟩
theorem Step.bump (G:Good w h₀ W st h) (a:Addr):Step [] W st h (bumpW W st.nx a) (bumpS st) h where
 agree i hi:=⟨if_neg (Nat.ne_of_lt hi),rfl⟩
 nx:=Nat.le_succ _
 sub i _ e:=e
 fresh i hi e:=absurd (G.low i e) (Nat.not_lt.mpr hi)
 evo b _ _:=.refl b h
 live _ o e:=⟨o,e⟩
 tup _ _ e:=e
theorem asgAttr_inv {P:Params} {sc:Scope} {x a y:Nat} {e:Stmt} (h:chkS P sc (.assign (.attr (.var x) a) (.var y)) e=true) :
  ∃ p1 p2 p3 p4,e=.Assign [.Attribute (.Name (nm x) p1) (nm a) p2] (.Name (nm y) p3) p4/\isLoc sc (nm x)=true/\isLoc sc (nm y)=true/\(nm x==("__debug__" : Str))=false/\(nm y==("__debug__" : Str))=false:=
 onAssign_e h fun t v p4 h=>and4 h fun h1 h2 Z Z=>F7 h2 fun id p3 h2=>onAttr_e h1 fun o n p2 h1=>and4 h1 fun hn Z Z h1=>F7 h1 fun id' p1 h1=>and3 h2 fun e1 l1 d1=>and3 h1 fun e2 l2 d2=>by
  obtain rfl:=beq_iff_eq.mp e1
  obtain rfl:=beq_iff_eq.mp e2
  obtain rfl:=beq_iff_eq.mp hn
  exact ⟨p1,p2,p3,p4,rfl,l2,l1,(Bool.not_eq_true' _).mp d2,(Bool.not_eq_true' _).mp d1⟩
theorem init_inv {P:Params} {sc:Scope} {l:List Stmt} (h:chkSs P sc b_FormatError___init l=true):∃ e1 e2,l=[e1,e2]/\chkS P sc (.assign (.attr (.var 7) 8) (.var 8)) e1=true/\chkS P sc (.assign (.attr (.var 7) 9) (.var 9)) e2=true:=
 on1_e h fun e1 Z h=>and2 h fun h1 h=>on1_e h fun e2 Z h=>and2 h fun h2 h=>on0_e h fun Z=>⟨e1,e2,rfl,h1,h2⟩
theorem asg_self {env:Env} {vs:A2} {sc:Scope} {x a y:Nat} {e0:Addr} {i:Nat} {v:AV} {st':Stmt} {Q:Flow->Shared->Prop} (F:Frm h₀ env vs W st s.heap) (hs:env.scope=sc) (hc:chkS w.params sc (.assign (.attr (.var x) a) (.var y)) st'=true)
  (h1:B2 x vs=some (.obj i)) (h2:B2 y vs=some v) (he:W.a i=e0) (q:∀ u,VRep h₀ W s.heap v u->wpAny (Md w) A (setAttr (.ref e0) (nm a) u) (fun Z s'=>Q .next s') E s) :
  wpAny (Md w) A (exec st' env) Q E s:=by
 obtain ⟨p1,p2,p3,p4,rfl,l1,l2,d1,d2⟩:=asgAttr_inv hc
 subst hs
 refine wpAny_Assign_stores (wpAny_Name (name_ok F l2 h2 fun u r=>?_) d2) rfl rfl
 show wpAny _ _ (assign _ env u) _ _ _
 rw [assign_Attribute]
 refine wpAny_bind (wpAny_holding (wpAny_Name (name_ok F l1 h1 fun u0 r0=>?_) d1))
 refine VRep.obj_e r0 ?_
 subst he
 exact wpAny_bind (wpAny_standAt (wpAny_bind (wpAny_holding (wpAny_mono (q u r) (fun Z Z p=>wpAny_release p) fun Z Z p=>p))))
end
section
variable {w:World} {h₀ h:Heap} {A:Around} {fs:List Env} {W:Wd} {st:St} {s:Shared} {d:Nat} {E:Value->Shared->Prop}
theorem init67 {e t0:Addr} {v1 v2:AV} {u1 u2:Value} {R:Result->Shared->Prop} (fx:Fx w h₀) (G:Good w h₀ W st s.heap) (N:Arnd h₀ A W st s.heap (d+1) 2) (hfr:A.frames=some fs)
  (he:s.heap.get? e=some (J3 t0)) (h0:h₀.get? e=none) (ho:¬ Own W st e) (r1:VRep h₀ W s.heap v1 u1) (r2:VRep h₀ W s.heap v2 u2) (w1:v1.within st.nx=true) (w2:v2.within st.nx=true)
  (q:∀ hF s',Good w h₀ (bumpW W st.nx e) (bumpS st) hF->Step [] W st s.heap (bumpW W st.nx e) (bumpS st) hF->(s'.gens=s.gens/\s'.os=s.os)->hF.get? e=some (J3 t0) ->
   (∀ b o,b≠e->hF.get? b=some o->s'.heap.get? b=some o)->(∃ dx,s'.heap.get? e=some {J3 t0 with dict:=some dx})->R (.ok (.ret .none)) s') :
  codeAny (Md w) A (.call (.ref 67) ⟨[.ref e,u1,u2],[]⟩) R s:=by
 have G':=G.bump e
 have S0:=Step.bump G e
 have ae:(bumpW W st.nx e).a st.nx=e:=if_pos rfl
 have re:VRep h₀ (bumpW W st.nx e) s.heap (.obj st.nx) (.ref e):=by
  have:=VRep.obj (h₀:=h₀) (W:=bumpW W st.nx e) (h:=s.heap) st.nx
  rwa [ae] at this
 have rr:VReps h₀ (bumpW W st.nx e) s.heap [.obj st.nx,v1,v2] [.ref e,u1,u2]:=.cons re (.cons (S0.val r1 w1) (.cons (S0.val r2 w2) .nil))
 have ww:A5 (bumpS st).nx [.obj st.nx,v1,v2]=true:=withinAll_iff.mpr fun v hv=>by
  rcases List.mem_cons.mp hv with rfl | hv
  ·simp [AV.within,bumpS]
  ·rcases List.mem_cons.mp hv with rfl | hv
   ·exact E9 S0.nx w1
   ·rw [List.mem_singleton.mp hv]; exact E9 S0.nx w2
 refine call_fn (F:=⟨[7,8,9],b_FormatError___init⟩) fx G' (N.step S0) hfr (fn_chk _ rfl) rr ww rfl fun env b s₁ hs S g hc dead=>?_
 obtain ⟨e1,e2,rfl,c1,c2⟩:=init_inv hc
 have he1:s₁.heap.get? e=some (J3 t0):=by
  have noOwn:¬ Own (bumpW W st.nx e) (bumpS st) e:=fun ⟨i,hi,hb⟩=>by
   have lt:=G.low i hi
   have ag:(bumpW W st.nx e).a i=W.a i:=if_neg (Nat.ne_of_lt lt)
   rw [ag] at hb
   exact ho ⟨i,hi,hb⟩
  rcases S.evo e (by exact List.not_mem_nil) noOwn _ he with q | ⟨⟨_,_,q⟩,_⟩
  ·exact q
  ·cases q
 have hne:e∉H3 env:=fun hm=>by have:=dead e hm; rw [he] at this; cases this
 have hl:env.locals≠e:=fun z=>hne (z▸.head _)
 have hcell:∀ p∈env.cells,p.2≠e:=fun p hp z=>hne (z▸.tail _ (List.mem_map.mpr ⟨p,hp,rfl⟩))
 have X:=fx.X.keeps hs.h.G.stays
 refine wpAny_execs_cons (asg_self (v:=v1) hs.h.F rfl c1 rfl rfl ae fun u ru=>set70a X he1 fun h2 dx es n tk k2 he2 hd2 hk2 hz2 hn2 hne2=>?_)
 have kt:∀ a y,TupD s₁.heap a y->TupD h2 a y:=fun a y t=>by
  obtain ⟨o,x1,x2,x3,n,x4⟩:=t
  refine ⟨o,k2 a o (fun z=>?_) x1,x2,x3,n,x4⟩
  subst z; rw [he1] at x1; cases x1; cases x4
 have F2:=hs.h.F.side hl hcell k2 kt
 have X2:(KK w.params).In h2:=fun b o hb=>k2 b o (fun z=>by subst z; rw [fx.X _ _ hb] at h0; cases h0) (X _ _ hb)
 refine wpAny_execs_cons (asg_self (s:={s₁ with heap:=h2,toks:=tk}) (v:=v2) F2 rfl c2 rfl rfl ae fun u ru=>set70b (s:={s₁ with heap:=h2,toks:=tk}) X2 he2 hd2 hk2 hz2 fun h3 tk3 k3 hd3=>wpAny_execs_nil ?_)
 have kk:∀ b o,b≠e->s₁.heap.get? b=some o->h3.get? b=some o:=fun b o hb q=>k3 b o (fun z=>by subst z; rw [hn2] at q; cases q) (k2 b o hb q)
 refine q s₁.heap _ hs.h.G (S0.trans S) g he1 kk ⟨dx,k3 _ _ (fun z=>?_) he2⟩
 exact hne2 z.symm
end
set_option tactic.hygienic true
theorem keep70:∀ P,keepIn (KK P) (.ref 70)=true:=fun P=>by kernel_rfl
section
variable {w:World} {h₀ h:Heap} {A:Around} {env:Env} {fs:List Env} {W:Wd} {st:St} {s:Shared} {d:Nat} {E:Value->Shared->Prop}
theorem raise70 {x:Sem Value} {Q:Flow->Shared->Prop} (hh:A.handled=none)
  (h:wpAny (Md w) A x (fun v s₁=>∃ e t dd,v=.ref e/\(KK w.params).In s₁.heap/\s₁.heap.get? e=some {J3 t with dict:=dd}/\E (.ref e) s₁) E s) :
  wpAny (Md w) A (raiseStmt env (some x) none) Q E s:=by
 have hcB:(Value.ref 70::bm70).contains (.type "BaseException")=true:=by decide +kernel
 unfold raiseStmt
 refine wpAny_bind (wpAny_mono h (fun v s₁ h₁=>?_) fun Z Z x=>x)
 obtain ⟨e,t,dd,rfl,X,he,hE⟩:=h₁
 have hC:=X _ _ (cls70 w.params)
 obtain ⟨hp,g,d,tk,os⟩:=s₁
 repeat (first | with_reducible refine wpAny_loadPart_at he ?_ | with_reducible refine wpAny_loadPart_at hC ?_ | (with_reducible refine wpAny_isSubtype_exc hC ?_; rw [hcB]) | wp_step)
 exact wpAny_raiseNew_none hh hE
theorem funFrames_of {base:Heap}:∀ {fs:List Env},(∀ e∈fs,e.scope.kind≠.module/\∃ f o,e.frame=some f/\base.get? f=none/\h.get? f=some o/\(∃ es n,o.data=.dict es n))->h.FunFrames base fs
 | [],_=>trivial
 | e::r,k=>by
  obtain ⟨k1,f,o,k2,k3,k4,es,n,k5⟩:=k e (.head _)
  exact ⟨k1,⟨f,o,k2,k3,k4,fun vs z=>by rw [k5] at z; cases z⟩,funFrames_of fun e' he'=>k e' (.tail _ he')⟩
end
section
variable {d:Nat} {cl:A7}
theorem ss_raise {m:MEs} (ih:SemEs (d+1) cl m) (c):SemS (d+1) cl (.raise c m):=fun {w h₀ A env outer vs W st s N R X e} h hc q=>by
 refine onRaise_e hc fun ex cause pos hc=>onNo_e hc fun hc=>onSome_e hc fun ex hc=>onFn_e hc fun id p as cpos hc=>and2 hc fun hg h2=>and2 hg fun h0 h1=>?_
 have h1:=beq_iff_eq.mp h1
 skip
 have x:=h.h
 rw [arm_exec_Raise]
 show wpAny _ _ (do standAt pos; raiseStmt env (some (do let v <- eval (.Call (.Name id p) as [] cpos) env; standAt pos; pure v)) none) _ _ _
 refine wpAny_bind (wpAny_standAt (raise70 x.N.handled (wpAny_bind (wpAny_mono ?_ (fun v s₁ h₁=>wpAny_bind (wpAny_standAt (wpAny_pure h₁))) fun Z Z x=>x))))
 by_cases hc70:c=70
 case neg=>
  refine wpAny_Call_Name_kw (glob_ok x.F x.G x.fx h0 h1 ?_)
  refine K6 (P:=fun Z=>False) (I9 h2) (fun h p=>p.elim) ?_
  refine wpAny_mono (ih x h2 q) (fun us s₁ p=>?_) fun Z Z p=>p.toS
  obtain ⟨W₁,st₁,l,G,S,g,r,hw,q₁⟩:=p
  exact absurd (cE (show chk (c==70) (arg2 l fun Z Z=>X st₁) from q₁)).1 hc70
 subst hc70
 refine wpAny_Call_Name_kw (glob_ok x.F x.G x.fx h0 h1 ?_)
 refine K6 (P:=fun h=>(KK w.params).In h/\keepIn (KK w.params) (.ref 70)=true) (I9 h2) (fun h p=>keeps_K p.2 h p.1) ?_
 refine wpAny_mono (ih x h2 q) (fun us s₁ p=>?_) fun Z Z p=>p.toS
 obtain ⟨W₁,st₁,l,G,S,g,r,hw,q₁⟩:=p
 have x₁:=x.step G S
 obtain ⟨v1,v2,rfl,q₁⟩:=arg2_e (show arg2 l (fun Z Z=>X st₁) from q₁)
 cases r with | cons r1 r=>cases r with | cons r2 r=>cases r with | nil=>
 rename_i u1 u2
 have X₁:=x.fx.X.keeps G.stays
 refine ⟨⟨X₁,keep70 _⟩,wpAny_call ?_⟩
 obtain ⟨h₁,gs,dr,tk,os⟩:=s₁
 have w1:v1.within st₁.nx=true:=withinAll_iff.mp hw v1 (.head _)
 have w2:v2.within st₁.nx=true:=withinAll_iff.mp hw v2 (.tail _ (.head _))
 refine call70 X₁ (by show 2<=sizeLine; rw [sizeLine_eq]; decide) ?_
 have k:∀ b o,h₁.get? b=some o->((h₁.push (tupObj ([]++[u1,u2]))).push (J3 h₁.objs.size)).get? b=some o:=fun b o e=>Heap.get?_push_of_some _ (Heap.get?_push_of_some _ e)
 have hget:((h₁.push (tupObj ([]++[u1,u2]))).push (J3 h₁.objs.size)).get? (h₁.objs.size+1)=some (J3 h₁.objs.size):=by heap_get
 have hdead:h₁.get? (h₁.objs.size+1)=none:=G7 (Nat.le_succ _)
 generalize hH:(h₁.push (tupObj ([]++[u1,u2]))).push (J3 h₁.objs.size)=H at k hget
 obtain ⟨G₂,S₂⟩:=G.grow k
 have N₂:Arnd h₀ (A.under (.builtin "type.__call__" ⟨.ref 70::([]++[u1,u2]),[]⟩)) W₁ st₁ H (d+1) 2:=by
  have N₁:=x₁.N.step S₂
  obtain ⟨fs',hf',F'⟩:=N₁.frames
  refine ⟨N₁.handled,⟨fs',?_,F'⟩,?_,?_⟩
  ·rw [tc_frames]; exact hf'
  ·have:=tc_weight ⟨.ref 70::([]++[u1,u2]),[]⟩
   have:=N₁.depth
   show A.depth+Code.weight _+4*(d+1)<=900+2
   lia
  ·have:=tc_units ⟨.ref 70::([]++[u1,u2]),[]⟩
   have:=N₁.units
   show A.units+Code.cUnits _+30*(d+1)<=9000+10*2
   lia
 have hfr:(A.under (.builtin "type.__call__" ⟨.ref 70::([]++[u1,u2]),[]⟩)).frames=some (env::outer):=by
  rw [tc_frames]; exact x.fr
 have dd:=G.dead hdead
 refine init67 (s:=⟨H,gs,dr,tk,os⟩) x.fx G₂ N₂ hfr hget dd.2 dd.1 (S₂.val r1 w1) (S₂.val r2 w2) w1 w2 fun hF s' GF SF gF heF kF heX=>?_
 obtain ⟨dx,heX⟩:=heX
 have hk:∀ b o,b≠h₁.objs.size+1->hF.get? b=some o->(hF.hide (h₁.objs.size+1)).get? b=some o:=fun b o hb e=>(Heap.hide_ne hF hb).trans e
 have nT:∀ y,¬ TupD hF (h₁.objs.size+1) y:=K9 ⟨_,_,heF,rfl⟩
 have S₃:=S₂.trans SF
 have nO:¬ Own (bumpW W₁ st₁.nx (h₁.objs.size+1)) (bumpS st₁) (h₁.objs.size+1):=fun ⟨i,hi,hb⟩=>by
  have lt:=G.low i hi
  rw [show (bumpW W₁ st₁.nx (h₁.objs.size+1)).a i=W₁.a i from if_neg (Nat.ne_of_lt lt)] at hb
  exact dd.1 ⟨i,hi,hb⟩
 obtain ⟨GX,kt⟩:=GF.side nO dd.2 nT hk
 have SX:=S₃.last hdead hk kt
 have hcut:(bumpS st₁).cut st₁.nx=st₁:=G.wf
 have GC:=GX.cut (n:=st₁.nx)
 have SC:=SX.cut
 rw [hcut] at GC SC
 have FF:=((h.frs.step S).step SC)
 refine ⟨rfl,_,_,dx,rfl,?_,heX,?_⟩
 ·exact fun b o hb=>kF b o (fun z=>by subst z; rw [x.fx.X _ _ hb] at dd; cases dd.2) (by
   have:=GX.stays _ _ (x.fx.X _ _ hb)
   exact Heap.of_hide this)
 refine ⟨_,st₁,hF.hide (h₁.objs.size+1),(env::outer).filterMap (·.frame),h₁.objs.size+1,rfl,GC,(S.trans SC).wide,⟨gF.1.trans g.1,gF.2.trans g.2⟩,q₁,fun b hb=>?_,.inl ?_⟩
 ·obtain ⟨e,he,hf⟩:=List.mem_filterMap.mp hb
  obtain ⟨_,f,o,a1,a2,a3,⟨es,n,a4⟩,a5⟩:=FF e he
  rw [a1] at hf; cases hf
  exact ⟨a2,a5,o,es,n,a3,a4⟩
 ·have hkeep:∀ b o,(hF.hide (h₁.objs.size+1)).get? b=some o->s'.heap.get? b=some o:=fun b o e=>kF b o (fun z=>by subst z; rw [Heap.hide_self] at e; cases e) (Heap.of_hide e)
  refine ⟨fun b o e=>hkeep b o (of_hideAll _ e),?_,?_,⟨_,_,_,heX,rfl,rfl,rfl,rfl⟩,fun b o e Z=>⟨o.slots,hkeep b o e⟩⟩
  ·cases q:(hideAll (hF.hide (h₁.objs.size+1)) ((env::outer).filterMap (·.frame))).get? (h₁.objs.size+1) with
   | none=>rfl
   | some o=>have:=of_hideAll _ q; rw [Heap.hide_self] at this; cases this
  ·refine funFrames_of fun e he=>?_
   obtain ⟨k1,f,o,a1,a2,a3,⟨es,n,a4⟩,a5⟩:=FF e he
   exact ⟨k1,f,o,a1,hideAll_none _ (List.mem_filterMap.mpr ⟨e,he,a1⟩),hkeep _ _ a3,es,n,a4⟩
end
set_option tactic.hygienic false
section
variable {d:Nat} {cl:A7}
mutual
theorem sem_s (ok:CallOK (d+1) cl):∀ m:MS,SemS (d+1) cl m
 | .expr e=>ss_expr (A4 ok e).1
 | .assign t e=>ss_assign ok t e
 | .augVar x op e=>ss_augVar (A4 ok e).1 x op
 | .augAttr o a op e=>ss_augAttr (A4 ok o).1 (A4 ok e).1 a op
 | .ite t a b=>ss_ite (A4 ok t).2 (sem_ss ok a) (sem_ss ok b)
 | .whil t b=>ss_whil (A4 ok t).2 (sem_ss ok b)
 | .for_ cut x it b=>ss_for (sem_i ok it) (sem_ss ok b) cut x
 | .ret0=>ss_ret0
 | .ret e=>ss_ret (A4 ok e).1
 | .raise c args=>ss_raise (SemL.to (sem_l ok args)) c
 | .try_ b c n h=>ss_try (sem_ss ok b) c n
 | .del o i=>ss_del (A4 ok o).1 (A4 ok i).1
theorem sem_ss (ok:CallOK (d+1) cl):∀ m:MSs,SemSs (d+1) cl m
 | .nil=>ss_nil
 | .cons s r=>ss_cons (sem_s ok s) (sem_ss ok r)
end
end
theorem callsOK:∀ n,CallOK (n+1) (CL n)
 | 0=>call_none 1
 | n+1=>call_up (sem_ss (callsOK n))
mutual
noncomputable def AV.rn (f:Nat->Nat):AV->AV
 | .obj i=>.obj (f i)
 | .tup l=>.tup (rnAll f l)
 | v=>v
noncomputable def rnAll (f:Nat->Nat):List AV->List AV
 | []=>[]
 | v::r=>v.rn f::rnAll f r
end
noncomputable def rnVs (f:Nat->Nat):List (Nat × AV)->List (Nat × AV)
 | []=>[]
 | (x,v)::r=>(x,v.rn f)::rnVs f r
noncomputable def rnDs (f:Nat->Nat):List (List Nat × AV)->List (List Nat × AV)
 | []=>[]
 | (x,v)::r=>(x,v.rn f)::rnDs f r
noncomputable def AO.rn (f:Nat->Nat):AO->AO
 | .ol l=>.ol (rnAll f l)
 | .inst c fs=>.inst c (rnVs f fs)
 | .ds l=>.ds (rnDs f l)
 | o=>o
noncomputable def ren (b:Nat):List Nat->Nat->Nat
 | [],i=>b+i
 | x::_,0=>x
 | _::r,i+1=>ren b r i
noncomputable def fnd (j:Nat):List Nat->Nat->Option Nat
 | [],_=>none
 | x::r,k=>match j==x with | true=>some k | false=>fnd j r (k+1)
noncomputable def mgE (f:Nat->Nat) (l:List Nat) (s0 s:List (Nat × AO)) (j:Nat) (o:AO):Option AO:=match fnd j l 0 with
 | none=>some o
 | some i=>match B2 i s0 with
  | none=>some o
  | some _=>match B2 i s with
   | some o'=>some (o'.rn f)
   | none=>none
noncomputable def mgO (f:Nat->Nat) (l:List Nat) (s0 s:List (Nat × AO)):List (Nat × AO)->List (Nat × AO)
 | []=>[]
 | (j,o)::r=>match mgE f l s0 s j o with
  | some o'=>(j,o')::mgO f l s0 s r
  | none=>mgO f l s0 s r
noncomputable def mgN (f:Nat->Nat) (n:Nat) (t:List (Nat × AO)):List (Nat × AO)->List (Nat × AO)
 | []=>t
 | (i,o)::r=>match Nat.blt i n with | true=>mgN f n t r | false=>(f i,o.rn f)::mgN f n t r
noncomputable def mg (l:List Nat) (s0 st s:St):St:=⟨mgN (ren st.nx l) s0.nx (mgO (ren st.nx l) l s0.sto s.sto st.sto) s.sto,st.nx+(s.nx - s0.nx)⟩
noncomputable def got (s:St) (f:Nat->Nat):List (Nat × AO)->List (Option AO)
 | []=>[]
 | (i,_)::r=>s.get (f i)::got s f r
noncomputable def rns (f:Nat->Nat):List (Nat × AO)->List (Option AO)
 | []=>[]
 | (_,o)::r=>some (o.rn f)::rns f r
mutual
noncomputable def AV.noF:AV->Bool
 | .frz _=>false
 | .tup l=>noFs l
 | _=>true
noncomputable def noFs:List AV->Bool
 | []=>true
 | v::r=>match v.noF with | true=>noFs r | false=>false
end
noncomputable def noFv:List (Nat × AV)->Bool
 | []=>true
 | (_,v)::r=>match v.noF with | true=>noFv r | false=>false
noncomputable def noFd:List (List Nat × AV)->Bool
 | []=>true
 | (_,v)::r=>match v.noF with | true=>noFd r | false=>false
noncomputable def AO.noF:AO->Bool
 | .ol l=>noFs l
 | .inst _ fs=>noFv fs
 | .ds l=>noFd l
 | _=>true
noncomputable def noFo:List (Nat × AO)->Bool
 | []=>true
 | (_,o)::r=>match o.noF with | true=>noFo r | false=>false
noncomputable def allLt (n:Nat):List Nat->Bool
 | []=>true
 | x::r=>match Nat.blt x n with | true=>allLt n r | false=>false
noncomputable def nodupB:List Nat->Bool
 | []=>true
 | x::r=>match fnd x r 0 with | none=>nodupB r | some _=>false
noncomputable def inB (l:List Nat) (n m:Nat):Bool:=(l.length==n)&&allLt m l&&nodupB l
noncomputable def idB (n:Nat):Nat->List Nat->Bool
 | _,[]=>true
 | k,x::r=>match Nat.blt k n with | true=>x==k&&idB n (k+1) r | false=>Nat.ble n x&&idB n (k+1) r
noncomputable def Ret (n:Nat) (v:AV) (t:St):AV->St->Prop:=fun u s=>∃ l:List Nat,(u,got s (ren 0 l) t.sto,inB l t.nx s.nx&&idB n 0 l)=(v.rn (ren 0 l),rns (ren 0 l) t.sto,true)
noncomputable def Shut (args:List AV) (st:St) (v:AV) (t:St):Prop:=(A5 st.nx args,st.cut st.nx,v.within t.nx,t.cut t.nx,Nat.ble st.nx t.nx&&(v.noF&&noFo t.sto))=(true,st,true,t,true)
noncomputable def tr (cl:A7):A7:=fun f args st Q Z=>∃ (l:List Nat) (args0:List AV) (st0:St) (v:AV) (t:St),
 Shut args0 st0 v t/\cl f args0 st0 (Ret st0.nx v t) (fun Z=>False) /\
 (args,got st (ren st.nx l) st0.sto,inB l st0.nx st.nx)=(rnAll (ren st.nx l) args0,rns (ren st.nx l) st0.sto,true)/\Q (v.rn (ren st.nx l)) (mg l st0 st t)
noncomputable def upC (n:Nat) (cl:A7):A7:=fun f args st Q X=>inl tabs fnL cl f args st Q X\/tr (inl tabs fnL cl) f args st Q X\/tr (CL (n+1)) f args st Q X
inductive Wc (cl:A7) (f:Nat) (args:List AV) (st:St) (Q:AV->St->Prop) (X:St->Prop):Prop
 | mk (h:cl f args st Q X):Wc cl f args st Q X
noncomputable def CP0 (n:Nat):A7:=Nat.rec (motive:=fun Z=>A7) (fun Z Z Z Z Z=>False) (fun n c=>upC n (Wc c)) n
noncomputable abbrev CP (n:Nat):A7:=Wc (CP0 n)
noncomputable def Fun (n f:Nat) (args:List AV) (st:St) (v:AV) (t:St):Prop:=Shut args st v t/\inl tabs fnL (CP n) f args st (Ret st.nx v t) (fun Z=>False)
theorem B7 {n f:Nat} {args:List AV} {st:St} {Q:AV->St->Prop} {X:St->Prop} (h:inl tabs fnL (CP n) f args st Q X):CP (n+1) f args st Q X:=⟨.inl h⟩
noncomputable def FunC (n f:Nat) (args:List AV) (st:St) (v:AV) (t:St):Prop:=Shut args st v t/\CL n f args st (Ret st.nx v t) (fun Z=>False)
section
variable {n f:Nat} {args0:List AV} {st0:St} {v:AV} {t:St} {args:List AV} {st:St} {Q:AV->St->Prop} {X:St->Prop} {u:AV} {s:St}
theorem C8 (h:Fun n f args0 st0 v t) (l:List Nat) (e:(args,got st (ren st.nx l) st0.sto,inB l st0.nx st.nx)=(rnAll (ren st.nx l) args0,rns (ren st.nx l) st0.sto,true)) (e2:(v.rn (ren st.nx l),mg l st0 st t)=(u,s)) (q:Q u s):CP (n+1) f args st Q X:=by
 cases e2; exact ⟨.inr (.inl ⟨l,args0,st0,v,t,h.1,h.2,e,q⟩)⟩
theorem call_c (h:FunC (n+1) f args0 st0 v t) (l:List Nat) (e:(args,got st (ren st.nx l) st0.sto,inB l st0.nx st.nx)=(rnAll (ren st.nx l) args0,rns (ren st.nx l) st0.sto,true)) (e2:(v.rn (ren st.nx l),mg l st0 st t)=(u,s)) (q:Q u s):CP (n+1) f args st Q X:=by
 cases e2; exact ⟨.inr (.inr ⟨l,args0,st0,v,t,h.1,h.2,e,q⟩)⟩
end
noncomputable def Wd.via (W:Wd) (f:Nat->Nat):Wd:=⟨fun i=>W.a (f i),fun i=>W.d (f i)⟩
section
variable {w:World} {P:Params} {h₀ h₁ h h':Heap} {W W' V:Wd} {f:Nat->Nat} {n m:Nat} {st s t a b:St}
theorem rep_of (k:h₀.StaysIn h₁) {v:AV}:∀ {u:Value},VRep h₀ W h (v.rn f) u->VRep h₁ (W.via f) h v u:=
 AV.rec (motive_1:=fun v=>∀ {u:Value},VRep h₀ W h (v.rn f) u->VRep h₁ (W.via f) h v u) (motive_2:=fun l=>∀ {us:List Value},VReps h₀ W h (rnAll f l) us->VReps h₁ (W.via f) h l us)
  (fun Z Z r=>by cases r with | g r=>exact .g r) (fun Z Z r=>by cases r; exact .bool _) (fun Z ih Z r=>by cases r with | tup d r=>exact .tup d (ih r)) (fun i Z r=>by cases r; exact .obj i)
  (fun Z Z r=>by cases r with | frz d r=>exact .frz (d.imp fun Z y=>⟨k _ _ y.1,y.2⟩) (r.mono fun Z Z x=>x.imp fun Z y=>⟨k _ _ y.1,y.2⟩)) (fun r=>by cases r with | any e=>exact .any e) (fun r=>by cases r; exact .nil) (fun Z Z ih jh Z r=>by cases r with | cons a b=>exact .cons (ih a) (jh b)) v
theorem noFs_e {v:AV} {l:List AV} (h:noFs (v::l)=true):v.noF=true/\noFs l=true:=by
 have h:(match v.noF with | true=>noFs l | false=>false)=true:=h
 cases q:v.noF with
 | true=>rw [q] at h; exact ⟨rfl,h⟩
 | false=>rw [q] at h; cases h
theorem rep_to {v:AV}:∀ {u:Value},v.noF=true->VRep h₁ (W.via f) h v u->VRep h₀ W h (v.rn f) u:=
 AV.rec (motive_1:=fun v=>∀ {u:Value},v.noF=true->VRep h₁ (W.via f) h v u->VRep h₀ W h (v.rn f) u) (motive_2:=fun l=>∀ {us:List Value},noFs l=true->VReps h₁ (W.via f) h l us->VReps h₀ W h (rnAll f l) us)
  (fun Z Z Z r=>by cases r with | g r=>exact .g r) (fun Z Z Z r=>by cases r; exact .bool _) (fun Z ih Z q r=>by cases r with | tup d r=>exact .tup d (ih q r)) (fun i Z Z r=>by cases r; exact .obj (f i))
  (fun Z Z q=>nomatch q) (fun Z r=>by cases r with | any e=>exact .any e) (fun Z r=>by cases r; exact .nil) (fun Z Z ih jh Z q r=>by cases r with | cons a b=>exact .cons (ih (noFs_e q).1 a) (jh (noFs_e q).2 b)) v
theorem reps_of (k:h₀.StaysIn h₁) {l:List AV}:∀ {us:List Value},VReps h₀ W h (rnAll f l) us->VReps h₁ (W.via f) h l us:=by
 induction l with
 | nil=>intro us r; cases r; exact .nil
 | cons v l ih=>intro us r; cases r with | cons a b=>exact .cons (rep_of k a) (ih b)
theorem reps_to {l:List AV}:∀ {us:List Value},noFs l=true->VReps h₁ (W.via f) h l us->VReps h₀ W h (rnAll f l) us:=by
 induction l with
 | nil=>intro us _ r; cases r; exact .nil
 | cons v l ih=>intro us q r; cases r with | cons a b=>exact .cons (rep_to (noFs_e q).1 a) (ih (noFs_e q).2 b)
theorem freps_of (k:h₀.StaysIn h₁) {fs:A2}:∀ {es:List DictEntry},FRep P h₀ W h (rnVs f fs) es->FRep P h₁ (W.via f) h fs es:=by
 induction fs with
 | nil=>intro es r; cases r; exact .nil
 | cons p l ih=>intro es r; cases r with | cons a b c=>exact .cons a (rep_of k b) (ih c)
theorem noFv_e {p:Nat × AV} {l:A2} (h:noFv (p::l)=true):p.2.noF=true/\noFv l=true:=by
 have h:(match p.2.noF with | true=>noFv l | false=>false)=true:=h
 cases q:p.2.noF with
 | true=>rw [q] at h; exact ⟨rfl,h⟩
 | false=>rw [q] at h; cases h
theorem noFd_e {p:List Nat × AV} {l:List (List Nat × AV)} (h:noFd (p::l)=true):p.2.noF=true/\noFd l=true:=by
 have h:(match p.2.noF with | true=>noFd l | false=>false)=true:=h
 cases q:p.2.noF with
 | true=>rw [q] at h; exact ⟨rfl,h⟩
 | false=>rw [q] at h; cases h
theorem noFo_e {i:Nat} {o:AO}:∀ {l:List (Nat × AO)},noFo l=true->(i,o)∈l->o.noF=true
 | (j,p)::r,h,m=>by
  have h:(match p.noF with | true=>noFo r | false=>false)=true:=h
  cases q:p.noF with
  | false=>rw [q] at h; cases h
  | true=>rw [q] at h; exact (List.mem_cons.mp m).elim (fun e=>by rw [Prod.mk.injEq] at e; rw [e.2]; exact q) (noFo_e h)
theorem freps_to {fs:A2}:∀ {es:List DictEntry},noFv fs=true->FRep P h₁ (W.via f) h fs es->FRep P h₀ W h (rnVs f fs) es:=by
 induction fs with
 | nil=>intro es _ r; cases r; exact .nil
 | cons p l ih=>intro es q r; cases r with | cons a b c=>exact .cons a (rep_to (noFv_e q).1 b) (ih (noFv_e q).2 c)
theorem sreps_of (k:h₀.StaysIn h₁) {fs:List (List Nat × AV)}:∀ {es:List (Str × Value)},SRep h₀ W h (rnDs f fs) es->SRep h₁ (W.via f) h fs es:=by
 induction fs with
 | nil=>intro es r; cases r; exact .nil
 | cons p l ih=>intro es r; cases r with | cons b c=>exact .cons (rep_of k b) (ih c)
theorem sreps_to {fs:List (List Nat × AV)}:∀ {es:List (Str × Value)},noFd fs=true->SRep h₁ (W.via f) h fs es->SRep h₀ W h (rnDs f fs) es:=by
 induction fs with
 | nil=>intro es _ r; cases r; exact .nil
 | cons p l ih=>intro es q r; cases r with | cons b c=>exact .cons (rep_to (noFd_e q).1 b) (ih (noFd_e q).2 c)
theorem rnVs_map (g:Nat->AV->Prop) {fs:A2} (k:∀ p∈fs,g p.1 (p.2.rn f)):∀ p∈rnVs f fs,g p.1 p.2:=by
 induction fs with
 | nil=>exact fun Z h=>nomatch h
 | cons q r ih=>exact fun p hp=>(List.mem_cons.mp hp).elim (fun e=>by rw [e]; exact k q (.head _)) (ih (fun p hp=>k p (.tail _ hp)) p)
theorem rnVs_keys {fs:A2}:(rnVs f fs).map (·.1)=fs.map (·.1):=by
 induction fs with
 | nil=>rfl
 | cons q r ih=>exact congrArg (q.1::·) ih
theorem mem_rnVs {fs:A2} {p:Nat × AV} (h:p∈fs):(p.1,p.2.rn f)∈rnVs f fs:=by
 induction fs with
 | nil=>cases h
 | cons q r ih=>exact (List.mem_cons.mp h).elim (fun e=>by rw [e]; exact .head _) fun h=>.tail _ (ih h)
theorem orep_of (k:h₀.StaysIn h₁) {i:Nat} {o:AO} (r:ORep w h₀ W h (f i) (o.rn f)):ORep w h₁ (W.via f) h i o:=by
 cases o with
 | gl l=>exact r
 | di l=>exact r
 | ol l=>obtain ⟨e,vs,n,e1,q⟩:=r; exact ⟨e,vs,n,e1,reps_of k q⟩
 | ds l=>obtain ⟨e,kvs,e1,q⟩:=r; exact ⟨e,kvs,e1,sreps_of k q⟩
 | inst c fs=>obtain ⟨e,⟨k1,k2⟩,sl,es,n,e1,e2,q⟩:=r; exact ⟨e,⟨fun p hp=>k1 (p.1,p.2.rn f) (mem_rnVs hp),by rw [rnVs_keys] at k2; exact k2⟩,sl,es,n,e1,e2,freps_of k q⟩
theorem orep_to {i:Nat} {o:AO} (z:o.noF=true) (r:ORep w h₁ (W.via f) h i o):ORep w h₀ W h (f i) (o.rn f):=by
 cases o with
 | gl l=>exact r
 | di l=>exact r
 | ol l=>obtain ⟨e,vs,n,e1,q⟩:=r; exact ⟨e,vs,n,e1,reps_to z q⟩
 | ds l=>obtain ⟨e,kvs,e1,q⟩:=r; exact ⟨e,kvs,e1,sreps_to z q⟩
 | inst c fs=>obtain ⟨e,⟨k1,k2⟩,sl,es,n,e1,e2,q⟩:=r; exact ⟨e,⟨rnVs_map (fun x Z=>fieldL c x=true) k1,by rw [rnVs_keys]; exact k2⟩,sl,es,n,e1,e2,freps_to z q⟩
theorem rn_within (k:∀ i,i < n->f i < m) {v:AV}:v.within n=true->(v.rn f).within m=true:=
 AV.rec (motive_1:=fun v=>v.within n=true->(v.rn f).within m=true) (motive_2:=fun l=>A5 n l=true->A5 m (rnAll f l)=true)
  (fun Z Z=>rfl) (fun Z Z=>rfl) (fun Z ih q=>ih q) (fun i q=>Nat.blt_eq.mpr (k i (Nat.blt_eq.mp q))) (fun Z Z=>rfl) (fun Z=>rfl) (fun Z=>rfl) (fun Z Z ih jh q=>within_cons (ih (G4 q)) (jh (J9 q))) v
theorem rn_withinAll (k:∀ i,i < n->f i < m) {l:List AV} (q:A5 n l=true):A5 m (rnAll f l)=true:=by
 induction l with
 | nil=>rfl
 | cons v l ih=>exact within_cons (rn_within k (G4 q)) (ih (J9 q))
theorem rn_in (k:∀ i,i < n->f i < m) {o:AO} (q:o.In n):(o.rn f).In m:=by
 cases o with
 | gl l=>trivial
 | di l=>trivial
 | ol l=>exact rn_withinAll k q
 | inst c fs=>exact rnVs_map (fun Z v=>v.within m=true) fun p hp=>rn_within k (q p hp)
 | ds l=>
  have q0:=q
  replace q:∀ p∈l,p.2.within n=true:=q
  show ∀ p∈rnDs f l,p.2.within m=true
  clear q0
  induction l with
  | nil=>exact fun Z h=>nomatch h
  | cons p r ih=>exact fun x hx=>(List.mem_cons.mp hx).elim (fun e=>by rw [e]; exact rn_within k (q p (.head _))) (ih (fun y hy=>q y (.tail _ hy)) x)
theorem Good.emb (G:Good w h₀ W b h) (k:h₀.StaysIn h₁) (k':h₁.StaysIn h) (e:∀ p∈a.sto,b.get (f p.1)=some (p.2.rn f)) (inj:∀ i j,i < a.nx->j < a.nx->f i=f j->i=j) (wf:a.cut a.nx=a) (nw:∀ p∈a.sto,h₁.get? (W.a (f p.1))=none/\h₁.get? (W.d (f p.1))=none):Good w h₁ (W.via f) a h:=by
 have is:∀ i,(a.get i).isSome=true->i < a.nx/\(b.get (f i)).isSome=true/\∃ o,(i,o)∈a.sto:=fun i hi=>by
  obtain ⟨o,ho⟩:=Option.isSome_iff_exists.mp hi
  exact ⟨(wf_in wf ho).1,by rw [e (i,o) (C7 ho)]; rfl,o,C7 ho⟩
 exact ⟨k',fun i o ho=>orep_of k (G.rep _ _ (e (i,o) (C7 ho))),fun i hi=>(is i hi).1,fun x ⟨i,hi,q⟩=>by
  obtain ⟨_,_,o,m⟩:=is i hi
  exact q.elim (fun z=>by rw [z]; exact (nw _ m).1) fun z=>by rw [z]; exact (nw _ m).2,fun i j hi hj ne=>G.apart _ _ (is i hi).2.1 (is j hj).2.1 fun q=>ne (inj i j (is i hi).1 (is j hj).1 q),wf⟩
theorem ren_eq (B:Nat):∀ (l:List Nat) (i:Nat),ren B l i=(l[i]?).getD (B+(i - l.length))
 | [],i=>rfl
 | _::_,0=>rfl
 | x::r,i+1=>by rw [show ren B (x::r) (i+1)=ren B r i from rfl,ren_eq B r i,List.getElem?_cons_succ,List.length_cons,Nat.add_sub_add_right]
theorem allLt_e:∀ {l:List Nat},allLt n l=true->∀ x∈l,x < n
 | [],_=>fun Z h=>nomatch h
 | y::r,h=>by
  have h:(match Nat.blt y n with | true=>allLt n r | false=>false)=true:=h
  cases q:Nat.blt y n with
  | false=>rw [q] at h; cases h
  | true=>rw [q] at h; exact fun x hx=>(List.mem_cons.mp hx).elim (fun e=>by rw [e]; exact Nat.blt_eq.mp q) (allLt_e h x)
theorem fnd_none {j:Nat}:∀ {l:List Nat} {k:Nat},fnd j l k=none->j∉l
 | [],_,_=>List.not_mem_nil
 | y::r,k,h=>by
  have h:(match j==y with | true=>some k | false=>fnd j r (k+1))=none:=h
  cases q:j==y with
  | true=>rw [q] at h; cases h
  | false=>rw [q] at h; exact fun hx=>(List.mem_cons.mp hx).elim (fun e=>by rw [e,beq_self_eq_true] at q; cases q) (fnd_none h)
theorem fnd_some {j i:Nat}:∀ {l:List Nat} {k:Nat},fnd j l k=some i->∃ d,i=k+d/\l[d]?=some j
 | [],_,h=>by cases h
 | y::r,k,h=>by
  have h:(match j==y with | true=>some k | false=>fnd j r (k+1))=some i:=h
  cases q:j==y with
  | true=>rw [q] at h; cases h; exact ⟨0,rfl,by rw [beq_iff_eq.mp q]; rfl⟩
  | false=>rw [q] at h; obtain ⟨d,e,g⟩:=fnd_some h; exact ⟨d+1,by rw [e,Nat.add_assoc,Nat.add_comm 1 d],g⟩
theorem nodupB_e {x:Nat}:∀ {l:List Nat},nodupB l=true->∀ {i j:Nat},l[i]?=some x->l[j]?=some x->i=j
 | [],_,_,_,e,_=>nomatch List.getElem?_nil.symm.trans e
 | y::r,h,i,j,e,g=>by
  have h:(match fnd y r 0 with | none=>nodupB r | some _=>false)=true:=h
  cases q:fnd y r 0 with
  | some _=>rw [q] at h; cases h
  | none=>
   rw [q] at h
   cases i with
   | zero=>cases j with
    | zero=>rfl
    | succ j=>cases e; exact absurd (List.mem_of_getElem? (l:=r) g) (fnd_none q)
   | succ i=>cases j with
    | zero=>cases g; exact absurd (List.mem_of_getElem? (l:=r) e) (fnd_none q)
    | succ j=>exact congrArg Nat.succ (nodupB_e h e g)
theorem got_e {l:List (Nat × AO)} (h:got s f l=rns f l):∀ p∈l,s.get (f p.1)=some (p.2.rn f):=by
 induction l with
 | nil=>exact fun Z h=>nomatch h
 | cons p r ih=>
  have h:s.get (f p.1)::got s f r=some (p.2.rn f)::rns f r:=h
  injection h with h1 h2
  exact fun q hq=>(List.mem_cons.mp hq).elim (fun e=>by rw [e]; exact h1) (ih h2 q)
structure Pl (f:Nat->Nat) (n B m:Nat):Prop where
 lo:∀ i,i < n->f i < m
 hi:∀ i,n<=i->f i=B+(i - n)
 inj:∀ i j,i < n->j < n->f i=f j->i=j
theorem inB_e {l:List Nat} {B:Nat} (h:inB l n m=true):Pl (ren B l) n B m:=by
 obtain ⟨h1,h3⟩:=Bool.and_eq_true_iff.mp h
 obtain ⟨h1,h2⟩:=Bool.and_eq_true_iff.mp h1
 have h1:l.length=n:=beq_iff_eq.mp h1
 have at_:∀ i,i < n->∃ h:i < l.length,ren B l i=l[i]:=fun i hi=>⟨by rw [h1]; exact hi,by rw [ren_eq,List.getElem?_eq_getElem (by rw [h1]; exact hi)]; rfl⟩
 refine ⟨fun i hi=>?_,fun i hi=>?_,fun i j hi hj e=>?_⟩
 ·obtain ⟨q,e⟩:=at_ i hi; rw [e]; exact allLt_e h2 _ (List.getElem_mem q)
 ·rw [ren_eq,List.getElem?_eq_none (by rw [h1]; exact hi),h1]; rfl
 ·obtain ⟨q,e1⟩:=at_ i hi; obtain ⟨q',e2⟩:=at_ j hj
  rw [e1,e2] at e
  exact nodupB_e h3 (List.getElem?_eq_getElem q) (by rw [e]; exact List.getElem?_eq_getElem q')
theorem blt_no {i:Nat} (h:Nat.blt i n=false):n<=i:=Nat.le_of_not_lt fun q=>by rw [Nat.blt_eq.mpr q] at h; cases h
theorem idB_e:∀ {l:List Nat} {k:Nat},idB n k l=true->∀ d x,l[d]?=some x->(k+d < n->x=k+d)/\(n<=k+d->n<=x)
 | [],_,_=>fun Z Z e=>nomatch List.getElem?_nil.symm.trans e
 | y::r,k,h=>fun d x e=>by
  have h:(match Nat.blt k n with | true=>y==k&&idB n (k+1) r | false=>Nat.ble n y&&idB n (k+1) r)=true:=h
  have next:idB n (k+1) r=true:=by cases q:Nat.blt k n<;>rw [q] at h<;>exact (Bool.and_eq_true_iff.mp h).2
  cases d with
  | zero=>
   cases e
   cases q:Nat.blt k n with
   | true=>rw [q] at h; exact ⟨fun Z=>beq_iff_eq.mp (Bool.and_eq_true_iff.mp h).1,fun g=>absurd (Nat.blt_eq.mp q) (Nat.not_lt.mpr g)⟩
   | false=>rw [q] at h; exact ⟨fun g=>absurd g (Nat.not_lt.mpr (blt_no q)),fun Z=>Nat.le_of_ble_eq_true (Bool.and_eq_true_iff.mp h).1⟩
  | succ d=>have:=idB_e next d x e; rw [Nat.add_assoc,Nat.add_comm 1 d] at this; exact this
theorem mgN_c {T:List (Nat × AO)} {p:Nat × AO} {r:List (Nat × AO)}:mgN f n T (p::r)=cond (Nat.blt p.1 n) (mgN f n T r) ((f p.1,p.2.rn f)::mgN f n T r):=rfl
theorem mgN_get {T:List (Nat × AO)} {j:Nat} {o:AO} {l:List (Nat × AO)} (h:B2 j (mgN f n T l)=some o):(∃ i o',n<=i/\B2 i l=some o'/\f i=j/\o=o'.rn f)\/B2 j T=some o:=by
 induction l with
 | nil=>exact .inr h
 | cons p r ih=>
  have up:(∃ i o',n<=i/\B2 i r=some o'/\f i=j/\o=o'.rn f)->(∀ i,n<=i->f i=j->i≠p.1)->∃ i o',n<=i/\B2 i (p::r)=some o'/\f i=j/\o=o'.rn f:=fun z ne=>z.imp fun i z=>z.imp fun o' z=>⟨z.1,by rw [B1,if_neg (ne i z.1 z.2.2.1)]; exact z.2.1,z.2.2⟩
  rw [mgN_c] at h
  cases q:Nat.blt p.1 n with
  | true=>rw [q] at h; exact (ih h).imp (fun z=>up z fun i g _ e=>by rw [e] at g; exact absurd (Nat.blt_eq.mp q) (Nat.not_lt.mpr g)) id
  | false=>
   rw [q,cond_false,B1] at h
   by_cases e:j=f p.1
   ·rw [if_pos e] at h; exact .inl ⟨p.1,p.2,blt_no q,by rw [B1,if_pos rfl],e.symm,(Option.some.inj h).symm⟩
   ·rw [if_neg e] at h; exact (ih h).imp (fun z=>up z fun i _ b z=>e (by rw [<- b,z])) id
theorem mgE_e {l:List Nat} {S0 S:List (Nat × AO)} {j:Nat} {o x:AO} (h:mgE f l S0 S j x=some o):(∃ i o',fnd j l 0=some i/\B2 i S=some o'/\o=o'.rn f)\/((∀ i,fnd j l 0=some i->B2 i S0=none)/\x=o):=by
 unfold mgE at h
 cases q:fnd j l 0 with
 | none=>rw [q] at h; exact .inr ⟨(fun i z=>nomatch z),Option.some.inj h⟩
 | some i=>
  cases q1:B2 i S0 with
  | none=>rw [q] at h; dsimp only at h; rw [q1] at h; exact .inr ⟨fun i' z=>by rw [<- Option.some.inj z]; exact q1,Option.some.inj h⟩
  | some _=>
   rw [q] at h; dsimp only at h; rw [q1] at h; dsimp only at h
   cases q2:B2 i S with
   | none=>rw [q2] at h; cases h
   | some o'=>rw [q2] at h; exact .inl ⟨i,o',rfl,q2,(Option.some.inj h).symm⟩
theorem mgE_n {l:List Nat} {S0 S:List (Nat × AO)} {j:Nat} {x y:AO} (h:mgE f l S0 S j x=none):mgE f l S0 S j y=none:=by
 unfold mgE at h ⊢
 cases q:fnd j l 0 with
 | none=>rw [q] at h; cases h
 | some i=>
  cases q1:B2 i S0 with
  | none=>rw [q] at h; dsimp only at h; rw [q1] at h; cases h
  | some _=>rw [q] at h; dsimp only at h ⊢; rw [q1] at h ⊢; exact h
theorem mgO_c {l:List Nat} {S0 S:List (Nat × AO)} {p:Nat × AO} {r:List (Nat × AO)}:mgO f l S0 S (p::r)=(mgE f l S0 S p.1 p.2).elim (mgO f l S0 S r) fun o=>(p.1,o)::mgO f l S0 S r:=by
 show (match mgE f l S0 S p.1 p.2 with | some o'=>(p.1,o')::mgO f l S0 S r | none=>mgO f l S0 S r)=_
 cases mgE f l S0 S p.1 p.2<;>rfl
theorem mgO_get {l:List Nat} {S0 S:List (Nat × AO)} {j:Nat} {o:AO} {T:List (Nat × AO)} (h:B2 j (mgO f l S0 S T)=some o):∃ x,B2 j T=some x/\mgE f l S0 S j x=some o:=by
 induction T with
 | nil=>cases h
 | cons p r ih=>
  rw [mgO_c] at h
  rw [B1]
  cases q:mgE f l S0 S p.1 p.2 with
  | none=>
   rw [q] at h
   obtain ⟨x,h1,h2⟩:=ih h
   by_cases e:j=p.1
   ·rw [e,mgE_n q] at h2; cases h2
   ·rw [if_neg e]; exact ⟨x,h1,h2⟩
  | some y=>
   rw [q,Option.elim_some,B1] at h
   by_cases e:j=p.1
   ·rw [if_pos e] at h ⊢; exact ⟨_,rfl,by rw [e,q]; exact h⟩
   ·rw [if_neg e] at h ⊢; exact ih h
theorem mgN_mem {T:List (Nat × AO)} {p:Nat × AO} {l:List (Nat × AO)} (h:p∈mgN f n T l):(∃ q∈l,p=(f q.1,q.2.rn f))\/p∈T:=by
 induction l with
 | nil=>exact .inr h
 | cons x r ih=>
  have up:(∃ q∈r,p=(f q.1,q.2.rn f))\/p∈T->(∃ q∈x::r,p=(f q.1,q.2.rn f))\/p∈T:=fun z=>z.imp (fun z=>z.imp fun q a=>⟨.tail _ a.1,a.2⟩) id
  rw [mgN_c] at h
  cases q:Nat.blt x.1 n with
  | true=>rw [q] at h; exact up (ih h)
  | false=>rw [q] at h; exact (List.mem_cons.mp h).elim (fun e=>.inl ⟨_,.head _,e⟩) fun h=>up (ih h)
theorem mgO_mem {l:List Nat} {S0 S:List (Nat × AO)} {p:Nat × AO} {T:List (Nat × AO)} (h:p∈mgO f l S0 S T):∃ x,(p.1,x)∈T/\mgE f l S0 S p.1 x=some p.2:=by
 induction T with
 | nil=>cases h
 | cons k r ih=>
  have up:(∃ x,(p.1,x)∈r/\mgE f l S0 S p.1 x=some p.2)->∃ x,(p.1,x)∈k::r/\mgE f l S0 S p.1 x=some p.2:=fun z=>z.imp fun _ z=>⟨.tail _ z.1,z.2⟩
  rw [mgO_c] at h
  cases q:mgE f l S0 S k.1 k.2 with
  | none=>rw [q] at h; exact up (ih h)
  | some y=>rw [q] at h; exact (List.mem_cons.mp h).elim (fun e=>⟨k.2,by rw [e]; exact .head _,by rw [e]; exact q⟩) fun h=>up (ih h)
theorem merge_ok {st0 M:St} (G:Good w h₀ W st h) (F:Pl f st0.nx st.nx st.nx) (em:∀ p∈st0.sto,st.get (f p.1)=some (p.2.rn f)) (wf0:st0.cut st0.nx=st0) (G1:Good w h₁ V t h') (k:h₀.StaysIn h₁) (nf:noFo t.sto=true)
  (S:Step [] (W.via f) st0 h V t h') (nx:M.nx=st.nx+(t.nx - st0.nx))
  (old:∀ j,(st.get j).isSome=true->(∀ i,(st0.get i).isSome=true->f i≠j)->∀ b,b=W.a j\/b=W.d j->∀ x,h.get? b=some x->h'.get? b=some x)
  (get:∀ j o,M.get j=some o->(∃ i o',t.get i=some o'/\f i=j/\o=o'.rn f)\/(st.get j=some o/\∀ i,(st0.get i).isSome=true->f i≠j)) (wf:M.cut M.nx=M) :
  ∃ W2,Good w h₀ W2 M h'/\Step [] W st h W2 M h'/\(∀ i,i < t.nx->W2.a (f i)=V.a i)/\∀ i,i < t.nx->f i < M.nx:=by
 have lt:∀ i,i < t.nx->f i < M.nx:=fun i hi=>by
  by_cases q:i < st0.nx
  ·exact Nat.lt_of_lt_of_le (F.lo i q) (by rw [nx]; exact Nat.le_add_right _ _)
  ·have q:=Nat.le_of_not_lt q
   rw [F.hi i q,nx]; omega
 have W2:∃ W2:Wd,(∀ j,j < st.nx->W2.a j=W.a j/\W2.d j=W.d j)/\∀ i,W2.a (st.nx+i)=V.a (st0.nx+i)/\W2.d (st.nx+i)=V.d (st0.nx+i):=
  ⟨⟨fun j=>if j < st.nx then W.a j else V.a (st0.nx+(j - st.nx)),fun j=>if j < st.nx then W.d j else V.d (st0.nx+(j - st.nx))⟩,fun j hj=>⟨if_pos hj,if_pos hj⟩,fun i=>
   have ng:¬ st.nx+i < st.nx:=Nat.not_lt.mpr (Nat.le_add_right _ _)
   ⟨(if_neg ng).trans (by rw [Nat.add_sub_cancel_left]),(if_neg ng).trans (by rw [Nat.add_sub_cancel_left])⟩⟩
 obtain ⟨W2,oa,na⟩:=W2
 have va:∀ i,W2.a (f i)=V.a i/\W2.d (f i)=V.d i:=fun i=>by
  by_cases q:i < st0.nx
  ·obtain ⟨e1,e2⟩:=oa _ (F.lo i q); obtain ⟨e3,e4⟩:=S.agree i q; exact ⟨e1.trans e3.symm,e2.trans e4.symm⟩
  ·have q:=Nat.le_of_not_lt q
   have e:=na (i - st0.nx)
   rw [<- F.hi i q,Nat.add_sub_cancel' q] at e
   exact e
 have is:∀ {s:St} {i:Nat} {o:AO},s.get i=some o->(s.get i).isSome=true:=fun e=>by rw [e]; rfl
 have live:∀ b,b=W2.a\/b=W2.d->∀ j,(st.get j).isSome=true->∃ x,h.get? (b j)=some x:=fun b hb j hj=>by
  obtain ⟨o,ho⟩:=Option.isSome_iff_exists.mp hj
  rcases hb with hb | hb
  ·rw [hb,(oa j (G.low j hj)).1]; exact (G.rep j o ho).here.1.imp fun Z y=>y.1
  ·rw [hb,(oa j (G.low j hj)).2]; exact (G.rep j o ho).here.2.imp fun Z y=>y.1
 have tl:∀ i o,t.get i=some o->i < t.nx:=fun i o e=>G1.low i (is e)
 have back:∀ i,i < st0.nx->(t.get i).isSome=true->(st.get (f i)).isSome=true:=fun i hi e=>by
  obtain ⟨o,ho⟩:=Option.isSome_iff_exists.mp (S.sub i hi e)
  exact is (em _ (C7 ho))
 have new:∀ i,st0.nx<=i->(t.get i).isSome=true->h.get? (W2.a (f i))=none/\h.get? (W2.d (f i))=none:=fun i hi e=>by
  rw [(va i).1,(va i).2]; exact S.fresh i hi e
 have kind:∀ j,(M.get j).isSome=true->(j < st.nx/\(st.get j).isSome=true)\/(st.nx<=j/\h.get? (W2.a j)=none/\h.get? (W2.d j)=none/\∃ i,f i=j/\(t.get i).isSome=true):=fun j hj=>by
  obtain ⟨o,ho⟩:=Option.isSome_iff_exists.mp hj
  rcases get j o ho with ⟨i,o',e1,e2,_⟩ | ⟨e1,_⟩
  ·by_cases q:i < st0.nx
   ·exact .inl ⟨by rw [<- e2]; exact F.lo i q,by rw [<- e2]; exact back i q (is e1)⟩
   ·have q:=Nat.le_of_not_lt q
    refine .inr ⟨by rw [<- e2,F.hi i q]; exact Nat.le_add_right _ _,?_⟩
    rw [<- e2]; exact ⟨(new i q (is e1)).1,(new i q (is e1)).2,i,rfl,is e1⟩
  ·exact .inl ⟨G.low j (is e1),is e1⟩
 have go:Good w h₀ W2 M h':=by
  refine ⟨fun b o e=>G1.stays b o (k b o e),fun j o e=>?_,fun j hj=>(Option.isSome_iff_exists.mp hj).elim fun Z ho=>(wf_in wf ho).1,fun b ⟨j,hj,q⟩=>?_,fun j l hj hl ne=>?_,wf⟩
  ·rcases get j o e with ⟨i,o',e1,e2,e3⟩ | ⟨e1,no⟩
   ·rw [<- e2,e3]
    exact orep_to (noFo_e nf (C7 e1)) ((G1.rep i o' e1).mono (W':=W2.via f) (n:=t.nx) (fun Z Z x=>x) (fun k Z=>(va k).1) (va i).1 (va i).2 (fun Z x=>x) (fun Z x=>x) (G1.inn e1))
   ·have lj:=G.low j (is e1)
    exact (G.rep j o e1).mono S.tup (fun k hk=>(oa k hk).1) (oa j lj).1 (oa j lj).2 (old j (is e1) no _ (.inl rfl)) (old j (is e1) no _ (.inr rfl)) (G.inn e1)
  ·rcases kind j hj with ⟨lj,e⟩ | ⟨_,_,_,i,e1,e2⟩
   ·rw [(oa j lj).1,(oa j lj).2] at q; exact G.new b ⟨j,e,q⟩
   ·rw [<- e1,(va i).1,(va i).2] at q
    cases z:h₀.get? b with
    | none=>rfl
    | some o=>exact nomatch (G1.new b ⟨i,e2,q⟩).symm.trans (k b o z)
  ·rcases kind j hj with ⟨lj,ej⟩ | ⟨gj,dj,dj',i,e1,e2⟩
   ·obtain ⟨x,hx⟩:=live _ (.inl rfl) j ej
    obtain ⟨y,hy⟩:=live _ (.inr rfl) j ej
    rcases kind l hl with ⟨ll,el⟩ | ⟨_,dl,dl',_⟩
    ·rw [(oa j lj).1,(oa j lj).2,(oa l ll).1,(oa l ll).2]; exact G.apart j l ej el ne
    ·exact ⟨fun z=>(by rw [z,dl] at hx; cases hx),fun z=>(by rw [z,dl'] at hy; cases hy),fun z=>(by rw [z,dl'] at hx; cases hx)⟩
   ·rcases kind l hl with ⟨ll,el⟩ | ⟨_,_,_,i',e1',e2'⟩
    ·obtain ⟨x,hx⟩:=live _ (.inl rfl) l el
     obtain ⟨y,hy⟩:=live _ (.inr rfl) l el
     exact ⟨fun z=>(by rw [z,hx] at dj; cases dj),fun z=>(by rw [z,hy] at dj'; cases dj'),fun z=>(by rw [z,hy] at dj; cases dj)⟩
    ·rw [<- e1,<- e1',(va i).1,(va i).2,(va i').1,(va i').2]; exact G1.apart i i' e2 e2' fun z=>ne (by rw [<- e1,<- e1',z])
 refine ⟨W2,go,⟨oa,by rw [nx]; exact Nat.le_add_right _ _,fun j hj e=>?_,fun j hj e=>?_,fun b hb no=>S.evo b hb fun ⟨i,hi,q⟩=>no ?_,S.live,S.tup⟩,fun i Z=>(va i).1,lt⟩
 ·exact (kind j e).elim (fun q=>q.2) fun q=>absurd hj (Nat.not_lt.mpr q.1)
 ·exact (kind j e).elim (fun q=>absurd q.1 (Nat.not_lt.mpr hj)) fun q=>⟨q.2.1,q.2.2.1⟩
 ·obtain ⟨o,ho⟩:=Option.isSome_iff_exists.mp hi
  exact ⟨f i,is (em _ (C7 ho)),q⟩
end
theorem Fx.keeps {w:World} {h₀ h₁:Heap} (x:Fx w h₀) (k:h₀.StaysIn h₁):Fx w h₁:=
 ⟨fun a o e=>k _ _ (x.X a o e),x.T.imp fun Z y=>y.imp fun Z y=>y.imp fun Z y=>y.imp fun Z y=>y.keeps k,x.sys.imp fun Z y=>k _ _ y⟩
theorem shut_e {args:List AV} {st t:St} {v:AV} (h:Shut args st v t):A5 st.nx args=true/\st.cut st.nx=st/\v.within t.nx=true/\t.cut t.nx=t/\st.nx<=t.nx/\v.noF=true/\noFo t.sto=true:=by
 unfold Shut at h
 simp only [Prod.mk.injEq,Bool.and_eq_true] at h
 exact ⟨h.1,h.2.1,h.2.2.1,h.2.2.2.1,Nat.le_of_ble_eq_true h.2.2.2.2.1,h.2.2.2.2.2.1,h.2.2.2.2.2.2⟩
theorem mem_look {α:Type} {p:Nat × α} {l:List (Nat × α)} (h:p∈l):(B2 p.1 l).isSome=true:=by
 induction l with
 | nil=>cases h
 | cons q r ih=>
  rw [B1]
  by_cases e:p.1=q.1
  ·rw [if_pos e]; rfl
  ·rw [if_neg e]; exact (List.mem_cons.mp h).elim (fun z=>absurd (congrArg Prod.fst z) e) ih
section
variable {w:World} {h₀ h₁ h h':Heap} {W V:Wd} {st st0 s t:St} {l:List Nat}
theorem mg_get {j:Nat} {o:AO} (F:Pl (ren st.nx l) st0.nx st.nx st.nx) (hl:l.length=st0.nx) (wf:st0.cut st0.nx=st0) (e:(mg l st0 st t).get j=some o) :
  (∃ i o',t.get i=some o'/\ren st.nx l i=j/\o=o'.rn (ren st.nx l))\/(st.get j=some o/\∀ i,(st0.get i).isSome=true->ren st.nx l i≠j):=by
 rcases mgN_get e with ⟨i,o',_,e1,e2,e3⟩ | e
 ·exact .inl ⟨i,o',e1,e2,e3⟩
 ·obtain ⟨x,ex,z⟩:=mgO_get e
  rcases mgE_e z with ⟨i,o',e1,e2,e3⟩ | ⟨e1,e2⟩
  ·obtain ⟨d,rfl,g⟩:=fnd_some e1
   rw [Nat.zero_add] at e2
   exact .inl ⟨d,o',e2,by rw [ren_eq,g]; rfl,e3⟩
  ·refine .inr ⟨by rw [<- e2]; exact ex,fun i hi z=>?_⟩
   obtain ⟨x,hx⟩:=Option.isSome_iff_exists.mp hi
   have li:=(wf_in wf hx).1
   have li':i < l.length:=by rw [hl]; exact li
   have at0:l[i]?=some l[i]:=List.getElem?_eq_getElem li'
   have at_:l[i]?=some j:=by rw [ren_eq,at0] at z; rw [at0]; exact congrArg some z
   cases q:fnd j l 0 with
   | none=>exact fnd_none q (List.mem_of_getElem? at_)
   | some k=>
    obtain ⟨d,rfl,g⟩:=fnd_some q
    have k0:=e1 _ q
    rw [Nat.zero_add] at k0
    have:i=d:=F.inj i d li (by rw [<- hl]; exact (List.getElem?_eq_some_iff.mp g).1) (by rw [ren_eq,ren_eq,at_,g]; rfl)
    rw [<- this] at k0
    exact nomatch k0.symm.trans hx
theorem mg_wf (F:Pl (ren st.nx l) st0.nx st.nx st.nx) (hl:l.length=st0.nx) (ws:st.cut st.nx=st) (wt:t.cut t.nx=t):(mg l st0 st t).cut (mg l st0 st t).nx=mg l st0 st t:=by
 have lt:∀ i,i < t.nx->ren st.nx l i < st.nx+(t.nx - st0.nx):=fun i hi=>by
  by_cases q:i < st0.nx
  ·exact Nat.lt_of_lt_of_le (F.lo i q) (Nat.le_add_right _ _)
  ·have q:=Nat.le_of_not_lt q
   rw [F.hi i q]; omega
 have ok:∀ p∈t.sto,ren st.nx l p.1 < st.nx+(t.nx - st0.nx)/\(p.2.rn (ren st.nx l)).In (st.nx+(t.nx - st0.nx)):=fun p hp=>by
  obtain ⟨a,b⟩:=wf_iff.mp wt p hp
  exact ⟨lt _ a,rn_in lt b⟩
 refine (wf_iff (st:=mg l st0 st t)).mpr fun p hp=>?_
 rcases mgN_mem hp with ⟨q,hq,rfl⟩ | hp
 ·exact ok q hq
 ·obtain ⟨x,hx,z⟩:=mgO_mem hp
  rcases mgE_e z with ⟨i,o',e1,e2,e3⟩ | ⟨_,hp⟩
  ·obtain ⟨d,rfl,g⟩:=fnd_some e1
   rw [Nat.zero_add] at e2
   obtain ⟨a,b⟩:=ok _ (C7 e2)
   have e:ren st.nx l d=p.1:=by rw [ren_eq,g]; rfl
   exact ⟨by rw [<- e]; exact a,by rw [e3]; exact b⟩
  ·obtain ⟨a,b⟩:=wf_iff.mp ws p (by rw [show p=(p.1,p.2) from rfl,<- hp]; exact hx)
   exact ⟨Nat.lt_of_lt_of_le a (Nat.le_add_right _ _),b.mono (Nat.le_add_right _ _)⟩
theorem ret_e {v u:AV} (G:Good w h₁ V s h') (S:Step [] W st0 h V s h') (wt:t.cut t.nx=t) (le:st0.nx<=t.nx) (q:Ret st0.nx v t u s) :
  ∃ g:Nat->Nat,u=v.rn g/\Good w h₁ (V.via g) t h'/\Step [] W st0 h (V.via g) t h':=by
 obtain ⟨l,q⟩:=q
 simp only [Prod.mk.injEq,Bool.and_eq_true] at q
 obtain ⟨q1,q2,q3,q4⟩:=q
 have F:=inB_e (B:=0) q3
 have hl:l.length=t.nx:=by
  obtain ⟨h1,_⟩:=Bool.and_eq_true_iff.mp q3
  exact beq_iff_eq.mp (Bool.and_eq_true_iff.mp h1).1
 have em:=got_e q2
 have pl:∀ i,i < t.nx->(i < st0.nx->ren 0 l i=i)/\(st0.nx<=i->st0.nx<=ren 0 l i):=fun i hi=>by
  have:=idB_e q4 i _ (List.getElem?_eq_getElem (by rw [hl]; exact hi))
  rw [Nat.zero_add] at this
  rw [ren_eq,List.getElem?_eq_getElem (by rw [hl]; exact hi)]
  exact this
 have own:∀ p∈t.sto,h₁.get? (V.a (ren 0 l p.1))=none/\h₁.get? (V.d (ren 0 l p.1))=none:=fun p hp=>
  have z:(s.get (ren 0 l p.1)).isSome=true:=by rw [em p hp]; rfl
  ⟨G.new _ ⟨_,z,.inl rfl⟩,G.new _ ⟨_,z,.inr rfl⟩⟩
 refine ⟨ren 0 l,q1,G.emb (fun Z Z e=>e) G.stays em F.inj wt own,⟨fun i hi=>?_,le,fun i hi e=>?_,fun i hi e=>?_,S.evo,S.live,S.tup⟩⟩
 ·have e:=(pl i (Nat.lt_of_lt_of_le hi le)).1 hi
  show V.a (ren 0 l i)=_/\V.d (ren 0 l i)=_
  rw [e]; exact S.agree i hi
 ·obtain ⟨o,ho⟩:=Option.isSome_iff_exists.mp e
  have:=em _ (C7 ho)
  rw [(pl i (wf_in wt ho).1).1 hi] at this
  exact S.sub i hi (by rw [this]; rfl)
 ·obtain ⟨o,ho⟩:=Option.isSome_iff_exists.mp e
  exact S.fresh _ ((pl i (wf_in wt ho).1).2 hi) (by rw [em _ (C7 ho)]; rfl)
end
theorem tr_ok {d:Nat} {cl:A7} (ok:CallOK d cl):CallOK d (tr cl) where
 fn:=fun f args st Q X h=>h.elim fun l h=>h.elim fun a h=>h.elim fun s h=>h.elim fun v h=>h.elim fun t h=>ok.fn _ _ _ _ _ h.2.1
 ok:=fun w h₀ fx A W st s f args us Q X fs G N hfr r hw hh=>by
  obtain ⟨l,args0,st0,v,t,sh,h,e,q⟩:=hh
  obtain ⟨x1,x2,x3,x4,x5,x6,x7⟩:=shut_e sh
  simp only [Prod.mk.injEq] at e
  obtain ⟨e1,e2,e3⟩:=e
  have F:=inB_e (B:=st.nx) e3
  have hl:l.length=st0.nx:=by
   obtain ⟨h1,_⟩:=Bool.and_eq_true_iff.mp e3
   exact beq_iff_eq.mp (Bool.and_eq_true_iff.mp h1).1
  have em:=got_e e2
  have on:∀ p∈st0.sto,(st.get (ren st.nx l p.1)).isSome=true:=fun p hp=>by rw [em p hp]; rfl
  let H:List Addr:=st0.sto.map (fun p=>W.a (ren st.nx l p.1))++(st0.sto.map (fun p=>W.d (ren st.nx l p.1))++fs.filterMap (·.frame))
  obtain ⟨fs',hfs,FO⟩:=N.frames
  obtain rfl:fs=fs':=Option.some.inj (hfr.symm.trans hfs)
  have inH:∀ b∈H,h₀.get? b=none/\((∃ p∈st0.sto,b=W.a (ren st.nx l p.1)\/b=W.d (ren st.nx l p.1))\/¬ Own W st b):=fun b hb=>by
   rcases List.mem_append.mp hb with hb | hb
   ·obtain ⟨p,hp,rfl⟩:=List.mem_map.mp hb; exact ⟨G.new _ ⟨_,on p hp,.inl rfl⟩,.inl ⟨p,hp,.inl rfl⟩⟩
   ·rcases List.mem_append.mp hb with hb | hb
    ·obtain ⟨p,hp,rfl⟩:=List.mem_map.mp hb; exact ⟨G.new _ ⟨_,on p hp,.inr rfl⟩,.inl ⟨p,hp,.inr rfl⟩⟩
    ·obtain ⟨e,he,hb⟩:=List.mem_filterMap.mp hb
     obtain ⟨_,f,o,a1,a2,_,_,a5⟩:=FO e he
     rw [a1] at hb; cases hb; exact ⟨a2,.inr a5⟩
  have k:h₀.StaysIn (hideAll s.heap H):=fun b o e=>hideAll_get H (G.stays b o e) fun hb=>nomatch (inH b hb).1.symm.trans e
  have k':(hideAll s.heap H).StaysIn s.heap:=fun b o e=>of_hideAll H e
  have nw:∀ p∈st0.sto,(hideAll s.heap H).get? (W.a (ren st.nx l p.1))=none/\(hideAll s.heap H).get? (W.d (ren st.nx l p.1))=none:=fun p hp=>
   ⟨hideAll_none H (List.mem_append_left _ (List.mem_map.mpr ⟨p,hp,rfl⟩)),hideAll_none H (List.mem_append_right _ (List.mem_append_left _ (List.mem_map.mpr ⟨p,hp,rfl⟩)))⟩
  have G0:=G.emb k k' em F.inj x2 nw
  have N0:Arnd (hideAll s.heap H) A (W.via (ren st.nx l)) st0 s.heap d 2:=⟨N.handled,⟨fs,hfr,fun e he=>by
   obtain ⟨y1,f,o,a1,_,a3,a4,a5⟩:=FO e he
   refine ⟨y1,f,o,a1,hideAll_none H (List.mem_append_right _ (List.mem_append_right _ (List.mem_filterMap.mpr ⟨e,he,a1⟩))),a3,a4,fun ⟨i,hi,z⟩=>a5 ?_⟩
   obtain ⟨o,ho⟩:=Option.isSome_iff_exists.mp hi
   exact ⟨_,on _ (C7 ho),z⟩⟩,N.depth,N.units⟩
  rw [e1] at r hw
  refine codeAny_mono (ok.ok w _ (fx.keeps k) A _ st0 s f args0 us _ _ fs G0 N0 hfr (reps_of k r) x1 h) fun r s' p=>?_
  rcases r with e | (u | _ | _ | _)
  ·obtain ⟨_,_,_,_,_,_,_,_,_,z,_⟩:=p; exact z.elim
  ·exact p.elim
  ·exact p.elim
  ·exact p.elim
  ·obtain ⟨V,s1,u',G1,S1,g,rv,hv,q1⟩:=p
   obtain ⟨g',rfl,G2,S2⟩:=ret_e G1 S1 x4 x5 q1
   have rv:=rep_of (fun Z Z e=>e) rv
   have old:∀ j,(st.get j).isSome=true->(∀ i,(st0.get i).isSome=true->ren st.nx l i≠j)->∀ b,b=W.a j\/b=W.d j->b∉H:=fun j hj no b hb hm=>by
    rcases (inH b hm).2 with ⟨p,hp,z⟩ | z
    ·have ne:=no _ (mem_look hp)
     obtain ⟨p1,p2,p3⟩:=G.apart _ _ (on p hp) hj ne
     obtain ⟨_,_,p4⟩:=G.apart _ _ hj (on p hp) (Ne.symm ne)
     rcases hb with hb | hb<;>rcases z with z | z<;>rw [hb] at z
     ·exact p1 z.symm
     ·exact p4 z
     ·exact p3 z.symm
     ·exact p2 z.symm
    ·exact z ⟨j,hj,hb⟩
   obtain ⟨W2,G3,S3,va,lt⟩:=merge_ok (M:=mg l st0 st t) G F em x2 G2 k x7 S2 rfl (fun j hj no b hb x hx=>G1.stays b x (hideAll_get H hx (old j hj no b hb))) (fun j o e=>mg_get F hl x2 e) (mg_wf F hl G.wf x4)
   exact ⟨W2,_,_,G3,S3,g,rep_to (f:=ren st.nx l) x6 (rv.mono (W':=W2.via (ren st.nx l)) (n:=t.nx) (fun Z Z x=>x) (fun i hi=>va i hi) x3),rn_within lt x3,q⟩
theorem CallOK.or {d:Nat} {c e:A7} (a:CallOK d c) (b:CallOK d e):CallOK d fun f args st Q X=>c f args st Q X\/e f args st Q X:=
 ⟨fun Z Z Z Z Z h=>h.elim (a.fn _ _ _ _ _) (b.fn _ _ _ _ _),fun w h₀ fx A W st s f args us Q X fs G N hfr r hw h=>h.elim (a.ok w h₀ fx A W st s f args us Q X fs G N hfr r hw) (b.ok w h₀ fx A W st s f args us Q X fs G N hfr r hw)⟩
theorem CallOK.wc {d:Nat} {c:A7} (a:CallOK d c):CallOK d (Wc c):=
 ⟨fun Z Z Z Z Z h=>a.fn _ _ _ _ _ h.1,fun w h₀ fx A W st s f args us Q X fs G N hfr r hw h=>a.ok w h₀ fx A W st s f args us Q X fs G N hfr r hw h.1⟩
theorem callsP (n:Nat):CallOK (n+1) (CP n):=by
 induction n with
 | zero=>exact (call_none 1).wc (c:=CP0 0)
 | succ n ih=>
  have a:=call_up (sem_ss ih)
  exact (a.or ((tr_ok a).or (tr_ok (callsOK (n+1))))).wc (c:=CP0 (n+1))
set_option tactic.hygienic true
noncomputable def LawVC:Prop:=∃ n,n<=20/\∀ xs:List Int,xs.length<=63->CP n 1040 [.frz (xs.map .int)] ⟨[],0⟩ (fun v Z=>v=.bool true) (fun Z=>False)
noncomputable abbrev lrow:RowW:=rw0.row.toRowW
theorem has_int {R:WRecords} {x:WData} (h:WShape.has R x .int=true):∃ i:Int,x=.int i:=by
 cases x<;>first | exact ⟨_,rfl⟩ | exact Bool.noConfusion h
theorem has_ints {R:WRecords} {xs:List WData} (h:WShape.hasItems R xs .int=true):∃ is:List Int,xs=is.map .int:=by
 induction xs with
 | nil=>exact ⟨[],rfl⟩
 | cons x r ih=>
  obtain ⟨h1,h2⟩:=Bool.and_eq_true_iff.mp (show (WShape.has R x .int&&WShape.hasItems R r .int)=true from h)
  obtain ⟨is,rfl⟩:=ih h2
  obtain ⟨i,rfl⟩:=has_int h1
  exact ⟨i::is,rfl⟩
theorem has_list {R:WRecords} {x:WData} (h:WShape.has R x (.list .int)=true):∃ is:List Int,x=.list (is.map .int):=by
 cases x<;>first | exact Bool.noConfusion h | skip
 rename_i xs
 obtain ⟨is,rfl⟩:=has_ints (xs:=xs) ((Bool.or_false _).symm.trans h)
 exact ⟨is,rfl⟩
theorem reads_ints {R:WRecords} {cl:Str->Option Addr} {h:Heap} {is:List Int}:∀ {vs:List Value} {as:List Addr},ReadsAllW R cl h vs (is.map .int) as->GReps h (is.map .int) vs:=by
 induction is with
 | nil=>intro vs as r; rw [(readsAllW_nil_inv r).1]; exact .nil
 | cons i l ih=>
  intro vs as r
  obtain ⟨v,ws,_,_,e,_,a,b⟩:=readsAllW_cons_inv r
  obtain ⟨t,e',_⟩:=readsW_int_inv a
  rw [e,e']; exact .cons (.int i t) (ih b)
theorem args_of {args:List WData} (h:lrow.claim.pre args=true):∃ is:List Int,args=[.list (is.map .int)]/\is.length<=63:=by
 obtain ⟨h1,h2⟩:=pre_splitW (r:=lrow) h
 obtain ⟨d,r,rfl,a,b⟩:=hasAllW_cons (e:=.list .int) (es:=[]) h1
 obtain rfl:=hasAllW_nil b
 obtain ⟨is,rfl⟩:=has_list a
 refine ⟨is,rfl,?_⟩
 have e:lrow.pre=.and (.not (.lt (.lit (.int (63:Nat))) (.len (.arg 0)))) (.lit (.bool true)):=rfl
 rw [e] at h2
 have z:(!decide ((63:Int) < ((is.map WData.int).length:Nat)))=true:=condW_of (holds_andW h2).1 rfl
 rw [List.length_map] at z
 exact Nat.le_of_not_lt fun c=>of_decide_eq_false ((Bool.not_eq_true' _).mp z) (Int.ofNat_lt.mpr c)
theorem fx_of {q:Program} {loose:List Str} {R:WRecords} {w:World} {s₀:Shared} {mg mb:Str->Option Value} {h:Heap} {XP:(Str->Option Value)->Heap->Prop} (G:Ground q loose R XP w s₀ mg mb h) (Y:hookS.says w h):Fx w h:=
 ⟨Y.1,⟨q,looseW q loose,mg,mb,topRead_of G.T⟩,Y.2⟩
theorem run_law (H:LawVC) {w:World} {s:Shared} {a:Addr} {o:Obj} {vs:Array Value} {n:Nat} {is:List Int} (fx:Fx w s.heap) (h1:s.heap.get? a=some o) (h2:o.cls=.type "list") (h3:o.data=.seq vs n) (r:GReps s.heap (is.map .int) vs.toList) (hl:is.length<=63) :
  wpAny (Md w) callerA (PySem.call (.ref 1040) [.ref a]) (fun v s'=>v=.bool true/\(∀ b o,s.heap.get? b=some o->s'.heap.get? b=some o)/\s'.os=s.os/\s'.gens=s.gens) (fun Z Z=>False) s:=by
 obtain ⟨k,hn,H⟩:=H
 have q:=H is hl
 have G:Good w s.heap ⟨fun Z=>0,fun Z=>0⟩ ⟨[],0⟩ s.heap:=by
  refine ⟨fun Z Z e=>e,fun Z Z e=>?_,fun Z e=>?_,fun b o=>?_,fun Z Z e=>?_,rfl⟩
  ·cases e
  ·cases e
  ·obtain ⟨i,hi,_⟩:=o; cases hi
  ·cases e
 have N:Arnd s.heap callerA ⟨fun Z=>0,fun Z=>0⟩ ⟨[],0⟩ s.heap (k+1) 2:=⟨rfl,⟨[],rfl,fun Z h=>nomatch h⟩,by show 1+claimMargin+4*(k+1)<=900+2; unfold claimMargin; omega,by show 4+30*(k+1)<=9000+10*2; omega⟩
 have il:s.heap.IsList a vs.toList.toArray:=⟨o,h1,h2,n,by rw [Array.toArray_toList]; exact h3⟩
 refine wpAny_call (codeAny_mono ((callsP k).ok w s.heap fx callerA _ ⟨[],0⟩ s 1040 [.frz (is.map .int)] [.ref a] _ _ [] G N rfl (.cons (.frz il r) .nil) rfl q) fun r s' p=>?_)
 rcases r with e | (v | _ | _ | _)
 ·obtain ⟨_,_,_,_,_,_,_,_,_,f,_⟩:=p; exact f.elim
 ·exact p.elim
 ·exact p.elim
 ·exact p.elim
 ·obtain ⟨W',st',x,G',_,g,rv,_,rfl⟩:=p
  cases rv
  exact ⟨rfl,G'.stays,g.2,g.1⟩
theorem law_glob:∀ P,nsIn (KK P) mainGlobals ("law" : Str)=some (some (.ref 1040)):=fun P=>by kernel_rfl
theorem law_some:(defOf qw rw0.row.name).isSome=true:=by kernel_rfl
noncomputable def lawDef:DefRec × List (Str × Expr):=(defOf qw rw0.row.name).get law_some
theorem law_def:defOf qw rw0.row.name=some (lawDef.1,lawDef.2):=(Option.some_get law_some).symm
theorem law_the:rw0.row.prog.theDef rw0.row.name=some (lawDef.1.params,lawDef.1.body,lawDef.1.scope):=by kernel_rfl
theorem law_kw:kwWritten? lawDef.1.params.kwonlyargs lawDef.1.params.kw_defaults=some lawDef.2:=by kernel_rfl
theorem law_ok:(chainsOk qw&&opensWell rw0.row.prog&&(PySem.W.frees rw0.row.toRowW&&rw0.row.toRowW.within.isEmpty))=true:=by kernel_rfl
theorem law_bare:rw0.row.prog.bare:=⟨rfl,rfl,rfl,rfl,rfl,by decide +kernel⟩
theorem law_wit:rw0.row.toRowW.promised:=⟨[.list []],by decide +kernel,by decide +kernel⟩
theorem post_true (as ds:List WData):lrow.claim.post as (.bool true) ds=true:=by
 show (WShape.has [] (.bool true) .bool&&WTm.holds [] (.eq .res (.lit (.bool true))) {args:=as,res:=some (.bool true),after:=ds})=true
 kernel_rfl
theorem one_list {R:WRecords} {cl:Str->Option Addr} {h:Heap} {vals:List Value} {xs:List WData} {as:List Addr} (r:ReadsAllW R cl h vals [.list xs] as) :
  ∃ b vs n ob as',vals=[.ref b]/\h.get? b=some ob/\ob.cls=.type "list" /\ ob.data=.seq vs n/\ReadsAllW R cl h vs.toList xs as':=by
 obtain ⟨v,ws,_,_,e,_,a,b⟩:=readsAllW_cons_inv r
 obtain ⟨l,vs,as',e2,⟨o,ho,hc,n,hd⟩,ri,_⟩:=readsW_list_inv a
 exact ⟨l,vs,n,o,as',by rw [e,e2,(readsAllW_nil_inv b).1],ho,hc,hd,ri⟩
theorem holds (H:LawVC):rw0.Holds:=by
 refine holds_law said fun sr=>?_
 refine holds_open (q:=qw) (loose:=lsw) (Xt:=fun Z=>true) (XP:=fun Z Z=>True) (Yf:=hookS.obs) (Ya:=hookS.val) (YP:=hookS.says) (N:=7000) left hookS.of hookS.keeps (fun Z Z=>trivial) (fun Z Z Z Z Z=>trivial) law_def law_the law_kw (fun Z Z=>recFacts_of rfl) rfl sr law_ok law_bare law_wit ?_
 intro w s₀ s₁ mg mb G Y a o pm cd doc dV kV ho hd hcd hD hmg hg args vals as hpre hlay hrd hwl hlo
 obtain ⟨is,rfl,hl⟩:=args_of hpre
 clear hlay hwl hlo hD hcd hd ho hpre
 have fx:=fx_of G Y
 have hn:lawDef.1.name=("law" : Str):=defOf_name law_def
 have e1:=mg_of fx.X G.T.g (law_glob w.params)
 rw [hn,e1] at hmg
 have z:=Value.ref.inj (Option.some.inj hmg)
 rw [<- z]
 obtain ⟨b,vs,n,ob,as',rfl,x1,x2,x3,x4⟩:=one_list hrd
 refine wpAny_mono (run_law H fx x1 x2 x3 (reads_ints x4) hl) (fun v s' p=>?_) fun Z Z p=>p.elim
 obtain ⟨rfl,k,ho',hg'⟩:=p
 exact GoodW.toG ⟨.inl ⟨_,_,_,rfl,fun Z=>rfl,.bool true,post_true _ _,fun Z=>⟨.nil,fun Z h=>nomatch h⟩⟩,k,ho',hg'.trans hg⟩
local macro_rules | `(tactic| k_upd)=>`(tactic| (dsimp only [mg,mgN,mgO,mgE,ren,fnd,B2,AV.rn,rnAll,rnVs,rnDs,AO.rn,St.set,St.add,put,St.cut,G9,List.map_cons,List.map_nil,AO.cut,E1,kpVs,AV.cut,AV.within,A5,mkList,J1,Nat.blt,Nat.ble,Nat.reduceBEq,Nat.reduceSub,Nat.reduceAdd]; done))
set_option tactic.hygienic false
theorem B0 {a b:Nat} {Q:Prop} (h:a<=b) (q:Q):chk (Nat.ble a b) Q:=by rw [Nat.ble_eq_true_of_le h]; exact q
theorem I8 {p:Prop} [Decidable p] {Q:Prop} (h:p) (q:Q):chk (decide p) Q:=by rw [decide_eq_true h]; exact q
theorem at_m {a b:Int} {Q:Prop} (h:a.natAbs < 2 ^ 64) (q:Q):chk (decide (b.natAbs < 2 ^ 64)||decide (a.natAbs < 2 ^ 64)) Q:=by rw [decide_eq_true h,Bool.or_true]; exact q
theorem I7 {b:Bool} {A B:Prop} (h:b=true) (q:A):cond b A B:=by subst h; exact q
theorem C5 {b:Bool} {A B:Prop} (h:b=false) (q:B):cond b A B:=by subst h; exact q
theorem ret_i {n:Nat} {x w:Int} {t s:St} (h:x=w) (q:Ret n (.i w) t (.i w) s):Ret n (.i w) t (.i x) s:=by rw [h]; exact q
theorem ret_g {n:Nat} {x w:GV} {t s:St} (h:x=w) (q:Ret n (.g w) t (.g w) s):Ret n (.g w) t (.g x) s:=by rw [h]; exact q
theorem at_subk {l:List GV} {k:Int} {Q:AV->Prop} (c:Int) (h:k=c) (q:subG l c Q):subG l k Q:=by rw [h]; exact q
theorem nb {p:Prop} [Decidable p] (h:p):(!decide p)=false:=by rw [decide_eq_true h]; rfl
theorem at_b {b:Bool} {p:Prop} [Decidable p] {A B:Prop} (h:b=decide p) (q:p->A) (r:¬ p->B):cond b A B:=by
 subst h
 by_cases c:p
 ·rw [decide_eq_true c]; exact q c
 ·rw [decide_eq_false c]; exact r c
theorem B3 {α:Type} {o:Option α} {v:α} {k:α->Prop} (h:o=some v) (q:k v):ofO o k:=by subst h; exact q
inductive K4 (g:KG) (N:KN) (R:KQ) (X:KX) (vs:A2) (st:St):Prop
 | mk (h:g vs st N R X):K4 g N R X vs st
theorem kSeqI_eq {g:KG} {N:KN} {R:KQ} {X:KX}:K4 g N R X=kSeq g N R X:=funext fun Z=>funext fun Z=>propext ⟨fun h=>h.1,.mk⟩
theorem F6 {T:Tabs} {cl:A7} {s:MS} {r:MSs} {N:KN} {R:KQ} {X:KX} {vs:A2} {st:St} (q:vcS T cl s vs st (K4 (B4 T cl r) N R X) R X):B4 T cl (.cons s r) vs st N R X:=by rw [kSeqI_eq] at q; exact q
theorem at_q {T:Tabs} {cl:A7} {s:MS} {r:MSs} {N:KN} {R:KQ} {X:KX} {vs vs':A2} {st st':St} (e:(vs,st)=(vs',st')) (q:vcS T cl s vs' st' (K4 (B4 T cl r) N R X) R X):K4 (B4 T cl (.cons s r)) N R X vs st:=by cases e; exact .mk (F6 q)
theorem J8 {T:Tabs} {cl:A7} {r:MSs} {N:KN} {R:KQ} {X:KX} {vs vs':A2} {st st':St} (e:(vs,st)=(vs',st')) (q:B4 T cl r vs' st' N R X):K4 (B4 T cl r) N R X vs st:=by cases e; exact .mk q
theorem F9 {T:Tabs} {fn:Nat->Option Fn} {cl:A7} {f:Nat} {args:List AV} {st:St} {Q:KQ} {X:KX} {ps:List Nat} {s:MS} {r:MSs} {vs:A2} (h:fn f=some ⟨ps,.cons s r⟩) (b:bindV ps (cond (lastNone f) (args++[.no]) args)=some vs) (q:vcS T cl s vs st (K4 (B4 T cl r) (fun Z st=>Q .no st) Q X) Q X):inl T fn cl f args st Q X:=by
 unfold inl; rw [h]; show match bindV ps _ with | some vs=>_ | none=>False
 rw [b]; exact F6 q
theorem J2 {n f:Nat} {args:List AV} {st t:St} {v:AV} {ps:List Nat} {s:MS} {r:MSs} {vs:A2} (sh:Shut args st v t) (h:fnL f=some ⟨ps,.cons s r⟩) (b:bindV ps (cond (lastNone f) (args++[.no]) args)=some vs)
  (q:vcS tabs (CP n) s vs st (K4 (B4 tabs (CP n) r) (fun Z st'=>Ret st.nx v t .no st') (Ret st.nx v t) fun Z=>False) (Ret st.nx v t) fun Z=>False):Fun n f args st v t:=⟨sh,F9 h b q⟩
theorem A1 {T:Tabs} {cl:A7} {s:MS} {r:MSs} {N:KN} {R:KQ} {X:KX} {vs vs':A2} {st st':St} (q:vcS T cl s vs' st' (K4 (B4 T cl r) N R X) R X) (e:(vs,st)=(vs',st'):=by k_upd):K4 (B4 T cl (.cons s r)) N R X vs st:=at_q e q
theorem at_O {T:Tabs} {cl:A7} {r:MSs} {N:KN} {R:KQ} {X:KX} {vs vs':A2} {st st':St} (q:B4 T cl r vs' st' N R X) (e:(vs,st)=(vs',st'):=by k_upd):K4 (B4 T cl r) N R X vs st:=J8 e q
theorem A0 {n f:Nat} {args0:List AV} {st0:St} {v:AV} {t:St} {args:List AV} {st:St} {Q:AV->St->Prop} {X:St->Prop} {u:AV} {s:St} (h:Fun n f args0 st0 v t) (l:List Nat) (q:Q u s) (e:(args,got st (ren st.nx l) st0.sto,inB l st0.nx st.nx)=(rnAll (ren st.nx l) args0,rns (ren st.nx l) st0.sto,true):=by rfl) (e2:(v.rn (ren st.nx l),mg l st0 st t)=(u,s):=by k_upd):CP (n+1) f args st Q X:=C8 h l e e2 q
theorem C0 {n f:Nat} {args0:List AV} {st0:St} {v:AV} {t:St} {args:List AV} {st:St} {Q:AV->St->Prop} {X:St->Prop} {u:AV} {s:St} (h:FunC (n+1) f args0 st0 v t) (l:List Nat) (q:Q u s) (e:(args,got st (ren st.nx l) st0.sto,inB l st0.nx st.nx)=(rnAll (ren st.nx l) args0,rns (ren st.nx l) st0.sto,true):=by rfl) (e2:(v.rn (ren st.nx l),mg l st0 st t)=(u,s):=by k_upd):CP (n+1) f args st Q X:=call_c h l e e2 q
noncomputable def kLoop (src:Src) (x:Nat) (cut:Bool) (n:Nat) (body:A2->St->(A2->St->Prop)->Prop) (N:A2->St->Prop) (r:List AV) (vs:A2):A2->St->Prop:=fun vs' st'=>src.go st' (match cut with
  | true=>H4 src x cut n body N r (E1 n (kpVs vs vs')) (st'.cut n)
  | false=>H4 src x cut n body N r (kpVs vs vs') st')
theorem F1 {src:Src} {x n:Nat} {cut:Bool} {body:A2->St->(A2->St->Prop)->Prop} {N:A2->St->Prop} {vs:A2} {st:St} {v:AV} {r:List AV} (q:body (put x v vs) st (kLoop src x cut n body N r vs)):H4 src x cut n body N (v::r) vs st:=q
theorem for_it {src:Src} {x n:Nat} {cut:Bool} {body:A2->St->(A2->St->Prop)->Prop} {N:A2->St->Prop} {vs:A2} {st:St} {l:List AV} (e:src.items=l) (q:H4 src x cut n body N l vs st):H4 src x cut n body N src.items vs st:=by rw [e]; exact q
noncomputable def vencF (k:Nat):Nat->List Nat:=k.rec (fun n=>[n]) fun _ f n=>if n < 128 then [n] else (128+n%128)::f (n / 128)
noncomputable def venc (n:Nat):List Nat:=vencF n n
theorem vencF_lo {k n:Nat} (h:n < 128):vencF k n=[n]:=match k with
 | 0=>rfl
 | _+1=>if_pos h
theorem vencF_hi {k n:Nat} (h:¬ n < 128):vencF (k+1) n=(128+n%128)::vencF k (n / 128):=if_neg h
theorem venc_dv {j n:Nat} (h:¬ n < 128) (hj:n<=j+1):n / 128<=j:=Nat.le_of_lt_succ (Nat.lt_of_lt_of_le (Nat.div_lt_self (Nat.lt_of_lt_of_le (by decide) (Nat.le_of_not_lt h)) (by decide)) hj)
theorem vencF_eq (j:Nat):∀ {k n:Nat},n<=j->n<=k->vencF j n=vencF k n:=by
 induction j with
 | zero=>intro k n h _; rw [Nat.le_zero.mp h,vencF_lo (by decide),vencF_lo (by decide)]
 | succ j ih=>
  intro k n h h'
  by_cases c:n < 128
  ·rw [vencF_lo c,vencF_lo c]
  ·cases k with
   | zero=>exact absurd (Nat.lt_of_le_of_lt h' (by decide)) c
   | succ k=>rw [vencF_hi c,vencF_hi c,ih (venc_dv c h) (venc_dv c h')]
theorem venc_lo {n:Nat} (h:n < 128):venc n=[n]:=vencF_lo h
theorem venc_hi {n:Nat} (h:¬ n < 128):venc n=(128+n%128)::venc (n / 128):=by
 cases n with
 | zero=>exact absurd (by decide) h
 | succ n=>exact (vencF_hi h).trans (congrArg _ (vencF_eq _ (venc_dv h (Nat.le_refl _)) (Nat.le_refl _)))
noncomputable def gi (l:List Nat):List GV:=l.map fun n=>.int (n:Nat)
noncomputable def zig (k:Int):Nat:=if 0<=k then (2*k).toNat else (-2*k - 1).toNat
noncomputable def enc (k:Int):List Nat:=venc (zig k)
noncomputable def encs (l:List Int):List Nat:=enc l.length++l.flatMap enc
noncomputable def M2 (s:List Nat):List Int:=s.map fun c:Nat=>(c:Int)
theorem codes_length (s:List Nat):(M2 s).length=s.length:=List.length_map ..
theorem E5 (a b:List Nat):gi (a++b)=gi a++gi b:=List.map_append ..
theorem F5 (a:List Nat):(gi a).length=a.length:=List.length_map ..
theorem ints_length (a:List Int):(a.map GV.int).length=a.length:=List.length_map ..
noncomputable abbrev wrS (xs:List GV):St:=⟨[(0,.inst 136 [(11,.obj 1)]),(1,.gl xs)],2⟩
theorem num_loop {cl:A7} {X:St->Prop} {R:AV->St->Prop} {N:A2->St->Prop} {k:Int}:∀ (f m:Nat) (d:Int) (xs:List GV),d=m->m < f->xs.length+(venc m).length<=1000000 ->
  (∀ ys d,ys++[.int d]=xs++gi (venc m)->N [(7,.obj 0),(15,.i k),(14,.i d)] (wrS ys)) ->
  WhileN 2 (kTest (vcE tabs cl X wt_ByteWriter_number_0)) (E8 (B4 tabs cl wb_ByteWriter_number_0) R X) N f [(7,.obj 0),(15,.i k),(14,.i d)] (wrS xs):=fun f=>by
 induction f with
 | zero=>exact fun m Z xs Z h=>absurd h (Nat.not_lt_zero _)
 | succ f ih=>
  refine fun m d xs hd h hl q=>at_b (p:=127 < d) rfl (fun c=>?_) fun c=>?_
  ·have hm:¬ m < 128:=by lia
   rw [venc_hi hm] at hl q
   rw [List.length_cons] at hl
   refine B0 (by lia) (ih (m / 128) _ _ (by rw [hd]; exact (Int.ofNat_fdiv m 128).symm) (by lia) (by rw [List.length_append]; exact L97 hl) fun ys d' e=>q ys d' ?_)
   rw [e,List.append_assoc,show 128+d.fmod 128=((128+m%128:Nat):Int) from by rw [hd,Int.natCast_add,Int.ofNat_fmod]; rfl]; rfl
  ·rw [venc_lo (by lia)] at q
   exact q xs d (by rw [hd]; rfl)
theorem K3 {n:Nat} {k:Int} {xs:List GV} (hl:xs.length+(enc k).length<=1000000):Fun n 119 [.obj 0,.i k] (wrS xs) .no (wrS (xs++gi (enc k))):=by
 refine ⟨rfl,?_⟩
 have fin:∀ d:Int,d=(zig k:Int)->∃ f,WhileN 2 (kTest (vcE tabs (CP n) (fun Z=>False) wt_ByteWriter_number_0)) (E8 (B4 tabs (CP n) wb_ByteWriter_number_0) (Ret 2 .no (wrS (xs++gi (enc k)))) (fun Z=>False))
   (kSeq (B4 tabs (CP n) (.cons (.expr (.meth (.attr (.var 7) 11) 0 (.cons (.var 14) .nil))) .nil)) (fun Z=>Ret 2 .no (wrS (xs++gi (enc k))) .no) (Ret 2 .no (wrS (xs++gi (enc k)))) (fun Z=>False)) f [(7,.obj 0),(15,.i k),(14,.i d)] (wrS xs):=fun d hd=>by
  refine ⟨zig k+1,num_loop (zig k+1) (zig k) d xs hd (Nat.lt_succ_self _) hl fun ys d e=>?_⟩
  have hlen:=congrArg List.length e
  rw [List.length_append,List.length_append,F5] at hlen
  rw [enc,<- e]
  exact B0 (L99 hl hlen) ⟨[0,1],rfl⟩
 refine at_b (p:=0<=k) rfl (fun c=>at_m (by decide) (fin _ ?_)) fun c=>at_m (by decide) (fin _ ?_)
 ·unfold zig; rw [if_pos c]; exact L100 c
 ·unfold zig; rw [if_neg c]; exact L101 c
theorem byte_s {n:Nat} {k:Int} {xs:List GV} (hl:xs.length < 1000000):Fun n 112 [.obj 0,.i k] (wrS xs) .no (wrS (xs++[.int k])):=
 ⟨rfl,B0 hl ⟨[0,1],rfl⟩⟩
theorem lenA {a:List GV} {b c:List Nat} (h:a.length+(b++c).length<=1000000):a.length+b.length<=1000000/\(a++gi b).length+c.length<=1000000:=by
 rw [List.length_append] at h
 rw [List.length_append,F5]; exact ⟨by lia,by lia⟩
theorem text_loop {n:Nat} {is:List AV} {s:List Nat} {N:A2->St->Prop} {R:AV->St->Prop} (t:List Nat):∀ (xs:List GV),xs.length+((M2 t).flatMap enc).length<=1000000 ->
  N [(7,.obj 0),(17,.s s)] (wrS (xs++gi ((M2 t).flatMap enc)))->H4 (.vals is) 18 true 2 (E8 (B4 tabs (CP (n+1)) fb_ByteWriter_text_0) R fun Z=>False) N (t.map fun c=>.s [c]) [(7,.obj 0),(17,.s s)] (wrS xs):=by
 induction t with
 | nil=>exact fun xs Z q=>by rw [show gi ((M2 []).flatMap enc)=[] from rfl,List.append_nil] at q; exact q
 | cons c t ih=>
  refine fun xs h q=>F1 (C8 (K3 (lenA h).1) [0,1] rfl rfl (ih _ (lenA h).2 ?_))
  rw [List.append_assoc,<- E5]; exact q
theorem text_s {n:Nat} {s:List Nat} {xs:List GV} (hl:xs.length+(encs (M2 s)).length<=1000000) (hs:s.length<=1000000):Fun (n+1) 126 [.obj 0,.s s] (wrS xs) .no (wrS (xs++gi (encs (M2 s)))):=by
 unfold encs at hl ⊢
 rw [codes_length] at hl ⊢
 rw [E5,<- List.append_assoc]
 exact ⟨rfl,B0 hs (C8 (K3 (lenA hl).1) [0,1] rfl rfl (B0 hs (text_loop s _ (lenA hl).2 ⟨[0,1],rfl⟩)))⟩
noncomputable abbrev wrL (xs l:List GV):St:=⟨[(0,.inst 136 [(11,.obj 1)]),(1,.gl xs),(2,.gl l)],3⟩
theorem numbers_loop {n:Nat} {l:List GV} {N:A2->St->Prop} {R:AV->St->Prop} (t:List Int):∀ (xs:List GV),xs.length+(t.flatMap enc).length<=1000000 ->
  N [(7,.obj 0),(20,.obj 2)] (wrL (xs++gi (t.flatMap enc)) l)->H4 (.lst 2 (.gl l)) 15 true 3 (E8 (B4 tabs (CP (n+1)) fb_ByteWriter_numbers_0) R fun Z=>False) N ((t.map .int).map .g) [(7,.obj 0),(20,.obj 2)] (wrL xs l):=by
 induction t with
 | nil=>exact fun xs Z q=>by rw [show gi (([]:List Int).flatMap enc)=[] from rfl,List.append_nil] at q; exact q
 | cons c t ih=>
  refine fun xs h q=>F1 (C8 (K3 (lenA h).1) [0,1] rfl rfl (And.intro rfl (ih _ (lenA h).2 ?_)))
  rw [List.append_assoc,<- E5]; exact q
theorem K8 {n:Nat} {l:List Int} {xs:List GV} (hl:xs.length+(encs l).length<=1000000) (hs:l.length<=1000000):Fun (n+1) 133 [.obj 0,.obj 2] (wrL xs (l.map .int)) .no (wrL (xs++gi (encs l)) (l.map .int)):=by
 unfold encs at hl ⊢
 rw [E5,<- List.append_assoc]
 refine ⟨rfl,?_⟩
 rw [<- ints_length l] at hl hs ⊢
 exact B0 hs (C8 (K3 (lenA hl).1) [0,1] rfl rfl (numbers_loop l _ (lenA hl).2 ⟨[0,1,2],rfl⟩))
noncomputable abbrev rdO (d a:Nat):AO:=.inst 204 [(22,.obj d),(9,.i (a:Int))]
noncomputable abbrev rdS (l:List Nat) (a:Nat):St:=⟨[(0,rdO 1 a),(1,.gl (gi l))],2⟩
theorem ix_nat {a n:Nat}:ix (a:Int) n=a:=if_neg (Int.not_lt.mpr (Int.natCast_nonneg a))
theorem at_sub {l:List GV} {a:Nat} {v:GV} {Q:AV->Prop} (h:l[a]?=some v) (ha:a<=1000000) (q:Q (.g v)):subG l (a:Int) Q:=
 I8 ⟨by lia,by lia,by rw [ix_nat]; lia⟩ (B3 (by rw [ix_nat]; exact h) q)
theorem gi_at {l:List Nat} {i b:Nat} (h:l[i]?=some b):(gi l)[i]?=some (.int b):=by rw [gi,List.getElem?_map,h]; rfl
theorem done_s {n a:Nat} {l:List Nat} (hl:l.length<=1000000):Fun n 168 [.obj 0] (rdS l a) (.bool (decide ((l.length:Int)<=a))) (rdS l a):=by
 rw [<- F5 l] at hl ⊢
 exact ⟨rfl,B0 hl ⟨[0,1],rfl⟩⟩
theorem rbyte_s {n a b:Nat} {l:List Nat} (hb:l[a]?=some b) (h255:b<=255) (hl:l.length<=1000000):Fun (n+1) 175 [.obj 0] (rdS l a) (.i b) (rdS l (a+1)):=by
 have la:=(List.getElem?_eq_some_iff.mp hb).1
 refine ⟨rfl,C8 (done_s hl) [0,1] rfl rfl (C5 (decide_eq_false (L102 la)) (at_sub (gi_at hb) (by lia) (C5 (decide_eq_false (show ¬ (255:Int) < b from L18 h255)) ⟨[0,1],rfl⟩)))⟩
theorem venc_pos (m:Nat):1<=(venc m).length:=by
 by_cases c:m < 128
 ·rw [venc_lo c]; exact Nat.le_refl _
 ·rw [venc_hi c]; exact Nat.succ_le_succ (Nat.zero_le _)
theorem dec_step {m t w:Nat}:(t+(m%128)*w)+(m / 128)*(w*128)=t+m*w:=by
 have e:=Nat.div_add_mod m 128
 have e1:m*w=(128*(m / 128))*w+(m%128)*w:=by rw [<- Nat.add_mul,e]
 have e2:(m / 128)*(w*128)=(128*(m / 128))*w:=by rw [Nat.mul_comm w 128,<- Nat.mul_assoc,Nat.mul_comm (m / 128) 128]
 exact L106 e1
theorem drop_at {α:Type} {l:List α} {a:Nat} {x:α} {t:List α} (h:l.drop a=x::t):l[a]?=some x/\l.drop (a+1)=t:=by
 have h1:=congrArg List.head? h
 rw [List.head?_drop] at h1
 refine And.intro h1 ?_
 rw [<- List.drop_drop,h]; rfl
noncomputable def hd (m:Nat):Nat:=if m < 128 then m else 128+m%128
theorem venc_hd (m:Nat):∃ t,venc m=hd m::t:=by
 unfold hd
 by_cases c:m < 128
 ·rw [venc_lo c,if_pos c]; exact ⟨_,rfl⟩
 ·rw [venc_hi c,if_neg c]; exact ⟨_,rfl⟩
theorem hd_le (m:Nat):hd m<=255:=by
 unfold hd
 by_cases c:m < 128
 ·rw [if_pos c]; lia
 ·rw [if_neg c]; exact L105
theorem rnum_loop {n:Nat} {l rest:List Nat} {R:AV->St->Prop} {N:A2->St->Prop} (hl:l.length<=1000000):∀ (f m t w a:Nat),m < f->l.drop a=venc m++rest->1<=w->(1 < w->1<=m) ->
  (∀ t' w' g':Nat,t'+g'*w'=t+m*w->g'<=127->(1 < w'->1<=g')->N [(7,.obj 0),(25,.i t'),(26,.i w'),(27,.i g')] (rdS l (a+(venc m).length))) ->
  WhileN 2 (kTest (vcE tabs (CP (n+2)) (fun Z=>False) wt_ByteReader_number_0)) (E8 (B4 tabs (CP (n+2)) wb_ByteReader_number_0) R fun Z=>False) N f [(7,.obj 0),(25,.i t),(26,.i w),(27,.i (hd m))] (rdS l (a+1)):=fun f=>by
 induction f with
 | zero=>exact fun m Z Z Z h=>absurd h (Nat.not_lt_zero _)
 | succ f ih=>
  intro m t w a h hb hw hwm q
  by_cases c:m < 128
  ·rw [show hd m=m from if_pos c]
   refine C5 (decide_eq_false (show ¬ (127:Int) < m from L107 c)) ?_
   rw [venc_lo c] at q
   exact q t w m rfl (by lia) hwm
  ·rw [show hd m=128+m%128 from if_neg c]
   refine I7 (decide_eq_true (show (127:Int) < ((128+m%128:Nat):Int) from L108)) (at_m L109 ?_)
   rw [venc_hi c] at hb q
   obtain ⟨_,hb1⟩:=drop_at hb
   obtain ⟨z,e5⟩:=venc_hd (m / 128)
   have hb2:=hb1
   rw [e5] at hb2
   refine C8 (rbyte_s (drop_at hb2).1 (hd_le _) hl) [0,1] rfl rfl ?_
   have e3:(t:Int)+(((128+m%128:Nat):Int) - 128)*w=((t+(m%128)*w:Nat):Int):=by
    rw [show (((128+m%128:Nat):Int) - 128)=((m%128:Nat):Int) from L110,Int.natCast_add,Int.natCast_mul]
   have e4:(w:Int)*128=((w*128:Nat):Int):=by rw [Int.natCast_mul]; rfl
   have k:=ih (m / 128) (t+(m%128)*w) (w*128) (a+1) (L111 h c) hb1 (L112 hw) (fun Z=>L113 c) fun t' w' g' e6 g7 g8=>by
    have:=q t' w' g' (e6.trans dec_step) g7 g8
    rw [List.length_cons,<- Nat.add_assoc,Nat.add_right_comm] at this
    exact this
   rw [<- e3,<- e4] at k
   exact k
theorem zig_odd {k:Int} (h:¬ 0<=k):((zig k:Nat):Int).fmod 2=1/\(-((zig k:Nat)+1:Int)).fdiv 2=k:=by
 have e:((zig k:Nat):Int)=-2*k - 1:=by unfold zig; rw [if_neg h]; exact L115 h
 rw [e,Int.fmod_eq_emod_of_nonneg _ (by decide),Int.fdiv_eq_ediv_of_nonneg _ (by decide)]
 exact L116
theorem zig_even {k:Int} (h:0<=k):((zig k:Nat):Int).fmod 2=0/\((zig k:Nat):Int).fdiv 2=k:=by
 have e:((zig k:Nat):Int)=2*k:=by unfold zig; rw [if_pos h]; exact L117 h
 rw [e,Int.fmod_eq_emod_of_nonneg _ (by decide),Int.fdiv_eq_ediv_of_nonneg _ (by decide)]
 exact L118
theorem rnumber_s {n a:Nat} {k:Int} {l rest:List Nat} (hb:l.drop a=enc k++rest) (hl:l.length<=1000000):Fun (n+2) 182 [.obj 0] (rdS l a) (.i k) (rdS l (a+(enc k).length)):=by
 unfold enc at hb ⊢
 obtain ⟨t0,e0⟩:=venc_hd (zig k)
 have hb0:=hb
 rw [e0] at hb0
 refine ⟨rfl,C8 (rbyte_s (drop_at hb0).1 (hd_le _) hl) [0,1] rfl rfl ⟨zig k+1,rnum_loop hl (zig k+1) (zig k) 0 1 a (Nat.lt_succ_self _) hb (Nat.le_refl _) L119 fun t w g e6 g7 g9=>?_⟩⟩
 rw [Nat.zero_add,Nat.mul_one] at e6
 have tail:∀ e:Int,e=(zig k:Int)->B4 tabs (CP (n+2)) (.cons (.ite (.cmp .eq (.bin .Mod (.var 25) (.int 2)) (.int 1)) (.cons (.ret (.bin .FloorDiv (.neg (.bin .Add (.var 25) (.int 1))) (.int 2))) .nil) .nil) (.cons (.ret (.bin .FloorDiv (.var 25) (.int 2))) .nil)) [(7,.obj 0),(25,.i e),(26,.i w),(27,.i g)] (rdS l (a+(venc (zig k)).length))
   (fun Z=>Ret 2 (.i k) (rdS l (a+(venc (zig k)).length)) .no) (Ret 2 (.i k) (rdS l (a+(venc (zig k)).length))) fun Z=>False:=fun e he=>by
  rw [he]
  by_cases c:0<=k
  ·obtain ⟨z1,z2⟩:=zig_even c
   refine C5 (by rw [z1]; rfl) ?_
   show Ret _ _ _ (.i ((zig k:Int).fdiv 2)) _
   rw [z2]; exact ⟨[0,1],rfl⟩
  ·obtain ⟨z1,z2⟩:=zig_odd c
   refine I7 (by rw [z1]; rfl) ?_
   show Ret _ _ _ (.i ((-((zig k:Int)+1)).fdiv 2)) _
   rw [z2]; exact ⟨[0,1],rfl⟩
 have et:(t:Int)+(g:Int)*(w:Int)=(zig k:Int):=by rw [<- Int.natCast_mul,<- Int.natCast_add,e6]
 have go:=at_m (a:=g) (b:=w) (L121 g7) (tail _ et)
 refine at_b (p:=g=0) (decide_eq_decide.mpr Int.natCast_eq_zero) (fun c0=>?_) fun Z=>go
 subst c0
 exact C5 (decide_eq_false (L120 g9)) go
theorem enc_pos (k:Int):1<=(enc k).length:=venc_pos _
theorem flat_len (l:List Int):l.length<=(l.flatMap enc).length:=by
 induction l with
 | nil=>exact Nat.zero_le _
 | cons k r ih=>rw [List.flatMap_cons,List.length_append,List.length_cons,Nat.add_comm]; exact Nat.add_le_add (enc_pos k) ih
noncomputable def kCompL (src:Src) (x:Nat) (cut:Bool) (n:Nat) (vs:A2) (elt:A2->St->(Option AV->St->Prop)->Prop) (k:List AV->St->Prop) (r acc:List AV):Option AV->St->Prop:=fun w st'=>src.go st' (match cut with
  | true=>J6 src x cut n vs elt k r (match w with | some w=>acc++[w.cut n] | none=>acc) (st'.cut n)
  | false=>J6 src x cut n vs elt k r (match w with | some w=>acc++[w] | none=>acc) st')
theorem comp_cons {src:Src} {x:Nat} {cut:Bool} {n:Nat} {vs:A2} {elt:A2->St->(Option AV->St->Prop)->Prop} {k:List AV->St->Prop} {v:AV} {r acc:List AV} {st:St} (q:elt (put x v vs) st (kCompL src x cut n vs elt k r acc)):J6 src x cut n vs elt k (v::r) acc st:=q
theorem L4 {i:Nat} {l:List GV} {n:Nat} (h:l.length<=n):(Src.lst i (.gl l)).items.length<=n:=by show (l.map AV.g).length<=n; rw [List.length_map]; exact h
theorem B8 (l:List GV):J1 (l.map .g)=some l:=by
 induction l with
 | nil=>rfl
 | cons v r ih=>
  show (match J1 (r.map .g) with | some l=>some (v::l) | none=>none)=_
  rw [ih]
section
variable {n a:Nat} {l rest:List Nat}
theorem C6 {k:Nat} (hb:l.drop a=enc k++rest) (hk:k<=rest.length) (hl:l.length<=1000000):Fun (n+3) 189 [.obj 0] (rdS l a) (.i k) (rdS l (a+(enc k).length)):=by
 refine ⟨rfl,C8 (rnumber_s hb hl) [0,1] rfl rfl (B0 (by rw [F5]; exact hl) (C5 (decide_eq_false ?_) ⟨[0,1],rfl⟩))⟩
 have hlen:=congrArg List.length hb
 rw [List.length_drop,List.length_append] at hlen
 have:=enc_pos k
 rw [F5]; exact L122 hk hlen this
theorem drop_drop {b:List Nat} {c:List Nat} (h:l.drop a=b++c):l.drop (a+b.length)=c:=by rw [<- List.drop_drop,h,List.drop_left]
theorem rangeUp_len {i:Int} {k:Nat}:(J0 i (k:Int).toNat).length=k:=by rw [J0,List.length_map,List.length_range]; rfl
theorem rangeUp_e (i:Int) (k:Nat):∃ js:List Int,J0 i (k:Int).toNat=js.map AV.i/\js.length=k:=⟨(List.range k).map fun j:Nat=>i+j,by rw [List.map_map]; rfl,by rw [List.length_map,List.length_range]⟩
theorem rnums_loop {is:List AV} {K:List AV->St->Prop} (hl:l.length<=1000000) (todo:List Int):∀ (its:List AV) (done:List Int) (a:Nat),its.length=todo.length->l.drop a=todo.flatMap enc++rest ->
  K (((done++todo).map .int).map .g) (rdS l (a+(todo.flatMap enc).length))->J6 (.vals is) 30 true 2 [(7,.obj 0)] (kElt (vcE tabs (CP (n+3)) (fun Z=>False) (.meth (.var 7) 16 .nil))) K its ((done.map .int).map .g) (rdS l a):=by
 induction todo with
 | nil=>
  intro its done a h _ q
  rw [List.eq_nil_of_length_eq_zero h]
  rw [List.append_nil] at q; exact q
 | cons k todo ih=>
  intro its done a h hb q
  rw [List.flatMap_cons,List.append_assoc] at hb
  cases its with
  | nil=>cases h
  | cons v its=>
   refine comp_cons (C8 (rnumber_s hb hl) [0,1] rfl rfl ?_)
   have z:=ih its (done++[k]) _ (Nat.succ.inj h) (drop_drop hb) (by rw [List.append_assoc,Nat.add_assoc,<- List.length_append]; exact q)
   rw [List.map_append,List.map_append] at z
   exact z
theorem flat_room {ks:List Int} (h:l.drop a=encs ks++rest) (hl:l.length<=1000000):ks.length<=(ks.flatMap enc++rest).length/\ks.length<=1000000:=by
 have hlen:=congrArg List.length h
 have:=flat_len ks
 simp only [encs,List.length_drop,List.length_append] at hlen ⊢
 exact ⟨by lia,by lia⟩
noncomputable abbrev rdR (l:List Nat) (a:Nat) (x:List GV):St:=⟨[(2,.gl x),(0,rdO 1 a),(1,.gl (gi l))],3⟩
theorem rnumbers_s {ks:List Int} (hb:l.drop a=encs ks++rest) (hl:l.length<=1000000):Fun (n+4) 201 [.obj 0] (rdS l a) (.obj 2) (rdR l (a+(encs ks).length) (ks.map .int)):=by
 obtain ⟨r1,r2⟩:=flat_room hb hl
 unfold encs at hb ⊢
 rw [List.append_assoc] at hb
 rw [List.length_append,<- Nat.add_assoc]
 refine ⟨rfl,C8 (C6 hb r1 hl) [0,1] rfl rfl (I8 ⟨L0,by lia⟩ (B0 (by rw [show (Src.vals (J0 0 (ks.length:Int).toNat)).items=J0 0 (ks.length:Int).toNat from rfl,rangeUp_len]; exact r2)
  (rnums_loop hl ks _ [] _ rangeUp_len (drop_drop hb) (B3 (B8 _) ⟨[0,1,2],rfl⟩))))⟩
theorem joinG_s (l:List Nat):joinG (l.map fun c=>GV.str [c])=some l:=by
 induction l with
 | nil=>rfl
 | cons c r ih=>
  show (match joinG (r.map fun c=>GV.str [c]) with | some t=>some ([c]++t) | none=>none)=_
  rw [ih]; rfl
theorem rtext_loop {is:List AV} {R:AV->St->Prop} {N:A2->St->Prop} (hl:l.length<=1000000) (todo:List Nat):∀ (its:List Int) (done:List Nat) (a:Nat),its.length=todo.length->l.drop a=(M2 todo).flatMap enc++rest->(∀ c∈todo,c<=1114111)->done.length+todo.length<=1000000 ->
  N [(7,.obj 0),(29,.obj 2)] (rdR l (a+((M2 todo).flatMap enc).length) ((done++todo).map fun c=>GV.str [c])) ->
  H4 (.vals is) 30 true 3 (E8 (B4 tabs (CP (n+3)) fb_ByteReader_text_0) R fun Z=>False) N (its.map AV.i) [(7,.obj 0),(29,.obj 2)] (rdR l a (done.map fun c=>GV.str [c])):=by
 induction todo with
 | nil=>
  intro its done a h _ _ _ q
  rw [List.eq_nil_of_length_eq_zero h]
  rw [List.append_nil] at q; exact q
 | cons k todo ih=>
  intro its done a h hb hc hn q
  rw [M2,List.map_cons,List.flatMap_cons,List.append_assoc] at hb
  cases its with
  | nil=>cases h
  | cons v its=>
   have hk:=hc k (.head _)
   rw [List.length_cons] at hn
   refine F1 (C8 (rnumber_s hb hl) [0,1] rfl rfl (C5 (decide_eq_false (show ¬ (1114111:Int) < (k:Int) by lia)) (I8 ⟨by lia,by lia⟩ (B0 (by rw [List.length_map]; lia) ?_))))
   have z:=ih its (done++[k]) (a+(enc (k:Int)).length) (Nat.succ.inj h) (drop_drop hb) (fun c h=>hc c (.tail _ h)) (by rw [List.length_append,List.length_cons,List.length_nil]; lia) (by rw [List.append_assoc,Nat.add_assoc,<- List.length_append]; exact q)
   rw [List.map_append] at z
   exact z
theorem I1 {s:List Nat} (hb:l.drop a=encs (M2 s)++rest) (hl:l.length<=1000000) (hs:∀ c∈s,c<=1114111):Fun (n+4) 196 [.obj 0] (rdS l a) (.s s) (rdS l (a+(encs (M2 s)).length)):=by
 obtain ⟨r1,r2⟩:=flat_room hb hl
 unfold encs at hb ⊢
 rw [List.append_assoc] at hb
 rw [List.length_append,<- Nat.add_assoc]
 rw [codes_length] at hb r1 r2 ⊢
 obtain ⟨js,ej,lj⟩:=rangeUp_e 0 s.length
 refine ⟨rfl,C8 (C6 hb r1 hl) [0,1] rfl rfl (I8 ⟨L0,by lia⟩ ?_)⟩
 show H4 _ _ _ _ _ _ (J0 0 (s.length:Int).toNat) _ _
 rw [ej]
 exact rtext_loop hl s js [] _ lj (drop_drop hb) hs (by rw [List.length_nil]; lia) (B3 (joinG_s s) (B0 r2 ⟨[0,1],rfl⟩))
end
noncomputable abbrev memO (size:Int) (wd:Nat):AO:=.inst 725 [(54,.i size),(89,.obj wd)]
noncomputable abbrev meS (size:Int) (l:List (Int × Int)):St:=⟨[(0,memO size 1),(1,.di l)],2⟩
noncomputable abbrev emp:St:=⟨[],0⟩
section
variable {n:Nat} {size a v:Int} {l:List (Int × Int)}
theorem place_s (ha:0<=a) (hs:a < size):Fun n 694 [.obj 0,.i a] (meS size l) (.i (a.fdiv 4)) (meS size l):=
 ⟨rfl,C5 (decide_eq_false (L2 ha)) (C5 (decide_eq_false (L127 hs)) ⟨[0,1],rfl⟩)⟩
theorem put_word_s (ha:0<=a) (hs:a < size) (hl:l.length < 1000000):Fun (n+1) 708 [.obj 0,.i a,.i v] (meS size l) .no (meS size (H7 (a.fdiv 4) (v.fmod 4294967296) l)):=
 ⟨rfl,C8 (place_s ha hs) [0,1] rfl rfl (B0 hl ⟨[0,1],rfl⟩)⟩
theorem word_s (ha:0<=a) (hs:a < size):Fun (n+1) 701 [.obj 0,.i a] (meS size l) (.i ((E2 (a.fdiv 4) l).getD 0)) (meS size l):=
 ⟨rfl,C8 (place_s ha hs) [0,1] rfl rfl ⟨[0,1],rfl⟩⟩
theorem byte_of_s (ha:0<=a) (hs:a < size):Fun (n+2) 715 [.obj 0,.i a] (meS size l) (.i (Builtin.bitAnd (((E2 (a.fdiv 4) l).getD 0).fdiv (2 ^ (8*a.fmod 4).toNat)) 255)) (meS size l):=
 ⟨rfl,C8 (word_s ha hs) [0,1] rfl rfl (at_m (by decide) (I8 (by have:=Int.fmod_nonneg_of_pos a (show (0:Int) < 4 by decide); lia) ⟨[0,1],rfl⟩))⟩
theorem rounded_s {k:Int}:Fun n 811 [.i (16*k)] emp (.i (16*k)) emp:=by
 exact ⟨rfl,ret_i (by rw [Int.fdiv_eq_ediv_of_nonneg _ (by decide)]; exact L128) ⟨[],rfl⟩⟩
theorem list_number_s {k:Int}:∃ i:Nat,i < 4/\∀ n,Fun n 397 [.i k] emp (.i i) emp:=by
 by_cases c:k < 32
 ·exact ⟨0,by decide,fun Z=>⟨rfl,I7 (decide_eq_true c) ⟨[],rfl⟩⟩⟩
 by_cases d:k < 64
 ·exact ⟨1,by decide,fun Z=>⟨rfl,C5 (decide_eq_false c) (I7 (decide_eq_true d) ⟨[],rfl⟩)⟩⟩
 by_cases e:k < 128
 ·exact ⟨2,by decide,fun Z=>⟨rfl,C5 (decide_eq_false c) (C5 (decide_eq_false d) (I7 (decide_eq_true e) ⟨[],rfl⟩))⟩⟩
 ·exact ⟨3,by decide,fun Z=>⟨rfl,C5 (decide_eq_false c) (C5 (decide_eq_false d) (C5 (decide_eq_false e) ⟨[],rfl⟩))⟩⟩
end
noncomputable def U (x:Int):Prop:=0<=x/\x < 4294967296
noncomputable def DOK (l:List (Int × Int)):Prop:=(l.map (·.1)).Nodup/\∀ p∈l,U p.1/\U p.2
noncomputable def FOK (l:List Int):Prop:=l.length=4/\∀ x∈l,U x
theorem U_mod (v:Int):U (v.fmod 4294967296):=⟨Int.fmod_nonneg_of_pos v (by decide),Int.fmod_lt_of_pos v (by decide)⟩
theorem U_div4 {a:Int} (h0:0<=a) (h1:a < 4294967296):U (a.fdiv 4):=by
 rw [Int.fdiv_eq_ediv_of_nonneg _ (by decide)]
 exact ⟨L131 h0,L132 h1⟩
theorem storeDi_ok {k w:Int} {l:List (Int × Int)} (h:DOK l) (hk:U k) (hw:U w):DOK (H7 k w l)/\(H7 k w l).length<=l.length+1:=by
 unfold H7
 by_cases c:(l.any fun p=>decide (p.1=k))=true
 ·rw [if_pos c]
  refine ⟨⟨?_,fun p hp=>?_⟩,by rw [List.length_map]; exact Nat.le_succ _⟩
  ·rw [List.map_map]
   have:((fun x:Int × Int=>x.1) ∘ fun p:Int × Int=>if p.1=k then (p.1,w) else p)=fun x=>x.1:=funext fun p=>by
    show (if p.1=k then (p.1,w) else p).1=p.1
    by_cases c:p.1=k
    ·rw [if_pos c]
    ·rw [if_neg c]
   rw [this]; exact h.1
  ·obtain ⟨p',hp',rfl⟩:=List.mem_map.mp hp
   have:=h.2 p' hp'
   by_cases c:p'.1=k
   ·rw [if_pos c]; exact ⟨this.1,hw⟩
   ·rw [if_neg c]; exact this
 ·rw [if_neg c]
  refine ⟨⟨?_,fun p hp=>?_⟩,by rw [List.length_append]; exact Nat.le_refl _⟩
  ·rw [List.map_append,List.nodup_append]
   refine ⟨h.1,List.nodup_cons.mpr ⟨List.not_mem_nil,.nil⟩,fun a ha b hb z=>?_⟩
   obtain ⟨p,hp,e⟩:=List.mem_map.mp ha
   exact c (List.any_eq_true.mpr ⟨p,hp,decide_eq_true (by rw [e,z]; exact List.mem_singleton.mp hb)⟩)
  ·rcases List.mem_append.mp hp with hp | hp
   ·exact h.2 p hp
   ·rw [List.mem_singleton.mp hp]; exact ⟨hk,hw⟩
noncomputable abbrev heapO (m:Nat) (a b:Int) (f:Nat):AO:=.inst 470 [(55,.obj m),(56,.i a),(57,.i b),(58,.obj f)]
noncomputable abbrev hpS (a b size:Int) (l:List (Int × Int)) (fr:List Int):St:=⟨[(3,.gl (fr.map .int)),(0,heapO 1 a b 3),(1,memO size 2),(2,.di l)],4⟩
section
variable {n:Nat} {size a b blk sz:Int} {l:List (Int × Int)} {fr:List Int}
theorem put_free_s (hb:0<=blk) (hs:blk+4 < size) (hU:blk+4 < 4294967296) (hl:l.length < 999999) (D:DOK l) (F:FOK fr) :
  ∃ l' fr',(∀ n a b,Fun (n+2) 418 [.obj 0,.i blk,.i sz] (hpS a b size l fr) .no (hpS a b size l' fr'))/\DOK l'/\FOK fr'/\l'.length<=l.length+2:=by
 obtain ⟨i,hi,hf⟩:=list_number_s (k:=sz)
 have hi':i < fr.length:=by rw [F.1]; exact hi
 obtain ⟨D1,L1⟩:=storeDi_ok D (U_div4 hb (by lia)) (U_mod (sz+1))
 obtain ⟨D2,L2⟩:=storeDi_ok D1 (U_div4 (a:=blk+4) (by lia) hU) (U_mod fr[i])
 refine ⟨_,fr.set i blk,fun n a b=>⟨rfl,C8 (hf _) [] rfl rfl (C8 (put_word_s hb (by lia) (by lia)) [1,2] rfl rfl (at_sub (v:=.int fr[i]) (by rw [List.getElem?_map,List.getElem?_eq_getElem hi']; rfl) (by lia) (C8 (put_word_s (by lia) hs (by lia)) [1,2] rfl rfl
  (I8 ⟨by lia,by rw [List.length_map]; exact hi',by lia⟩ ?_))))⟩,D2,⟨by rw [List.length_set]; exact F.1,fun x hx=>?_⟩,by lia⟩
 ·have e:AO.gl ((fr.set i blk).map GV.int)=.gl ((fr.map .int).set (i:Int).toNat (.int blk)):=by rw [List.map_set]; rfl
  exact ⟨[0,1,2,3],(congrArg (fun x=>(AV.no,[some x,some (heapO 1 a b 3),some (memO size 2),some (AO.di _)],true)) e).symm⟩
 ·rcases List.mem_or_eq_of_mem_set hx with hx | hx
  ·exact F.2 x hx
  ·rw [hx]; exact ⟨hb,by lia⟩
theorem heap_init_s (hb:0<=a) (hab:a < b) (hs:a+4 < size) (hU:a+4 < 4294967296) (hl:l.length < 999999) (D:DOK l) :
  ∃ l' fr',(∀ n,Fun (n+3) 411 [.obj 0,.obj 1,.i a,.i b] ⟨[(0,.inst 470 []),(1,memO size 2),(2,.di l)],3⟩ .no (hpS a b size l' fr'))/\DOK l'/\FOK fr'/\l'.length<=l.length+2:=by
 obtain ⟨l',fr',h,q⟩:=put_free_s (sz:=b - a) (fr:=List.replicate 4 0) hb hs hU hl D ⟨rfl,fun x hx=>by rw [List.eq_of_mem_replicate hx]; exact ⟨by decide,by decide⟩⟩
 exact ⟨l',fr',fun n=>⟨rfl,I7 (decide_eq_true hab) (C8 (h n a b) [0,1,2,3] rfl rfl ⟨[0,1,2,3],rfl⟩)⟩,q⟩
end
set_option genInjectivity false in
set_option genSizeOf false in
structure KV where
 (top dl sl size limit steps ha hb:Int)
 words:List (Int × Int)
 free:List Int
 rows:List GV
 outs:List (List Nat)
 given:List Int
 regs:List Int
 (h n z c v pc:Int)
noncomputable abbrev cpuO (mem rg rw:Nat) (V:KV):AO:=.inst 662 [(55,.obj mem),(73,.obj rg),(65,.i V.h),(15,.i V.n),(70,.i V.z),(38,.i V.c),(64,.i V.v),(74,.i V.pc),(53,.obj rw)]
noncomputable abbrev machO (V:KV):AO:=.inst 892 [(92,.i V.top),(94,.i V.dl),(98,.i V.sl),(55,.obj 1),(100,.obj 3),(101,.obj 5),(50,.obj 8),(11,.obj 9),(103,.obj 10),(57,.i V.limit),(104,.i V.steps)]
noncomputable abbrev maL (V:KV) (t:List (Nat × AO)):List (Nat × AO):=(0,machO V)::(1,memO V.size 2)::(2,.di V.words)::(3,heapO 1 V.ha V.hb 4)::(4,.gl (V.free.map .int))::(5,cpuO 1 6 7 V)::(6,.gl (V.regs.map .int))::(7,.gl V.rows)::(9,.gl (V.outs.map .str))::(10,.gl (V.given.map .int))::t
noncomputable abbrev maS (V:KV):St:=⟨maL V [],11⟩
noncomputable def H6:GV:=.tup [.str [84,82,65,80],.str [65,76],.int 0,.int 9]
section
variable {n:Nat} {size:Int}
theorem mem_init_s:Fun n 687 [.obj 0,.i size] ⟨[(0,.inst 725 [])],1⟩ .no (meS size []):=⟨rfl,⟨[0,1],rfl⟩⟩
noncomputable abbrev zeroV:KV:=⟨0,0,0,0,0,0,0,0,[],[],[],[],[],List.replicate 16 0,0,0,0,0,0,0⟩
theorem cpu_init_s:Fun n 610 [.obj 0,.obj 1] ⟨[(0,.inst 662 [])],2⟩ .no ⟨[(0,cpuO 1 2 3 zeroV),(2,.gl (zeroV.regs.map .int)),(3,.gl [])],4⟩:=⟨rfl,⟨[0,1,2,3],rfl⟩⟩
noncomputable abbrev freshV (a b c L:Int) (l:List (Int × Int)) (fr:List Int):KV:=⟨64,64+16*c,64+16*c+16*a+16,64+16*c+16*a+16+16*b,L,0,64+16*c,64+16*c+16*a,l,fr,[H6],[],[],List.replicate 16 0,0,0,0,0,0,0⟩
theorem machine_init_s {a b c:Int} (ha:1<=a) (hb:0<=b) (hc:0<=c) (hU:16*a+16*b+16*c < 4294967000) :
  ∃ l fr,(∀ n L,Fun (n+4) 826 [.obj 0,.i (16*a),.i (16*b),.i L,.i (16*c)] ⟨[(0,.inst 892 [])],1⟩ .no ⟨(8,.gl [])::maL (freshV a b c L l fr) [],11⟩)/\DOK l/\FOK fr/\l.length<=2:=by
 obtain ⟨l,fr,h,q⟩:=heap_init_s (a:=64+16*c) (b:=64+16*c+16*a) (size:=64+16*c+16*a+16+16*b) (l:=[]) (L136 hc) (L137 ha) (L138 ha hb) (L139 ha hb hU) (by decide) ⟨.nil,fun Z h=>nomatch h⟩
 refine ⟨l,fr,fun n L=>⟨rfl,?_⟩,q⟩
 refine A0 rounded_s [] ?_
 refine A0 rounded_s [] ?_
 refine A0 rounded_s [] ?_
 refine A0 mem_init_s [1] ?_
 refine A0 (h n) [3,1,2] ?_
 refine A0 cpu_init_s [5,1] ?_
 exact ⟨[0,1,2,3,4,5,6,7,8,9,10],rfl⟩
end
noncomputable abbrev modO (cls:Nat) (name:List Nat) (key cb db:Int) (f cl:Nat):AO:=.inst cls [(35,.s name),(113,.i key),(51,.i cb),(114,.i db),(52,.obj f),(115,.obj cl)]
noncomputable abbrev objO (name:List Nat) (key:Int) (i:Nat):AO:=.inst 996 [(35,.s name),(113,.i key),(129,.obj i),(53,.obj (i+1)),(130,.i 0),(89,.obj (i+2)),(131,.obj (i+3)),(132,.obj (i+4)),(133,.obj (i+5)),(134,.obj (i+6)),(135,.obj (i+7)),(136,.obj (i+8)),(137,.i 0)]
section
variable {n:Nat} {name:List Nat} {key cb db:Int}
theorem loaded_s:Fun n 972 [.obj 0,.s name,.i key,.i cb,.i db,.obj 1] ⟨[(0,.inst 975 [])],2⟩ .no ⟨[(0,modO 975 name key cb db 1 2),(2,.gl [])],3⟩:=⟨rfl,⟨[0,1,2],rfl⟩⟩
theorem kept_s:Fun n 910 [.obj 0,.s name,.i key,.i cb,.i db,.obj 1] ⟨[(0,.inst 913 [])],2⟩ .no ⟨[(0,modO 913 name key cb db 1 2),(2,.gl [])],3⟩:=⟨rfl,⟨[0,1,2],rfl⟩⟩
theorem obj_s:Fun n 993 [.obj 0,.s name,.i key] ⟨[(0,.inst 996 [])],1⟩ .no ⟨[(0,objO name key 1)],10⟩:=by
 refine J2 rfl rfl rfl ?_
 repeat' refine A1 ?_
 refine at_O ?_
 exact ⟨[0,1,2,3,4,5,6,7,8,9],rfl⟩
end
noncomputable def drp:Nat->MSs->MSs
 | 0,b=>b
 | n+1,.cons _ r=>drp n r
 | _+1,.nil=>.nil
noncomputable def L5 (l:List Int):Prop:=l.length<=100000/\∀ x∈l,0<=x/\x < 1024
noncomputable def Lay (d:PyData) (k:Nat):Prop:=d.canLay0=true/\d.depth<=k
theorem Lay.int (i:Int) (k:Nat):Lay (gP (.int i)) k:=⟨rfl,Nat.zero_le _⟩
theorem lays_all {k:Nat} {xs:List PyData}:(∀ x∈xs,Lay x k)->PyData.canLayAll0 xs=true/\PyData.depthAll xs<=k:=by
 induction xs with
 | nil=>exact fun Z=>⟨rfl,Nat.zero_le _⟩
 | cons x r ih=>
  intro h
  obtain ⟨a,b⟩:=ih fun y hy=>h y (.tail _ hy)
  obtain ⟨c,d⟩:=h x (.head _)
  exact ⟨Bool.and_eq_true_iff.mpr ⟨c,a⟩,Nat.max_le.mpr ⟨d,b⟩⟩
theorem Lay.list {k:Nat} {xs:List PyData} (h:∀ x∈xs,Lay x k):Lay (.list xs) (k+1):=⟨(lays_all h).1,Nat.succ_le_succ (lays_all h).2⟩
theorem Lay.tuple {k:Nat} {xs:List PyData} (h:∀ x∈xs,Lay x k):Lay (.tuple xs) (k+1):=⟨(lays_all h).1,Nat.succ_le_succ (lays_all h).2⟩
theorem Lay.ok {k:Nat} {d:PyData} (h:Lay d k) (hk:k<=64):okD d=true:=by
 unfold okD
 rw [h.1,decide_eq_true (Nat.le_trans h.2 hk)]; rfl
theorem gPs_map {α:Type} (f:α->GV) (l:List α):gPs (l.map f)=l.map fun x=>gP (f x):=by
 induction l with
 | nil=>rfl
 | cons a r ih=>exact congrArg (gP (f a)::·) ih
theorem Lay.gl {α:Type} {k:Nat} {f:α->GV} {l:List α} (h:∀ x∈l,Lay (gP (f x)) k):Lay (.list (gPs (l.map f))) (k+1):=
 .list fun x hx=>by rw [gPs_map] at hx; obtain ⟨y,hy,rfl⟩:=List.mem_map.mp hx; exact h y hy
theorem okD_ints (l:List Int):okD (.list (gPs (l.map .int)))=true:=(Lay.gl (k:=0) fun x Z=>.int x 0).ok (by decide)
noncomputable abbrev liS (l:List Int):St:=⟨[(0,.gl (l.map .int))],1⟩
theorem I5 {l:List Int} (D:L5 l):∃ x l',(∀ n,Fun n 1014 [.obj 0] (liS l) (.i x) (liS l'))/\L5 l'/\0<=x/\x < 1024:=by
 rcases List.eq_nil_or_concat l with rfl | ⟨l',x,rfl⟩
 ·refine ⟨0,[],fun n=>⟨rfl,⟨⟨rfl,rfl⟩,fun r hr _=>?_⟩⟩,⟨by decide,fun _ h=>nomatch h⟩,by decide,by decide⟩
  rw [hr rfl]; exact ⟨[0],rfl⟩
 ·rw [List.concat_eq_append] at D ⊢
  obtain ⟨D1,D2⟩:=D
  rw [List.length_append,List.length_cons,List.length_nil] at D1
  have hx:=D2 x (List.mem_append_right _ (.head _))
  refine ⟨x,l',fun n=>⟨rfl,⟨⟨okD_ints _,rfl⟩,fun r _ hr=>?_⟩⟩,⟨by lia,fun y hy=>D2 y (List.mem_append_left _ hy)⟩,hx.1,hx.2⟩
  have:r=false:=by
   cases r with
   | false=>rfl
   | true=>
    have:=hr rfl rfl
    rw [gPs_map,List.map_append] at this
    cases l'<;>cases this
  rw [this]
  exact ⟨_,_,⟨by rw [List.map_append]; rfl,by rw [List.length_map]; lia⟩,⟨[0],rfl⟩⟩
noncomputable def Dr (l:List Int):Prop:=∀ x∈l,0<=x/\x < 1024
theorem Dr.snoc {l:List Int} (h:Dr l) (f:Int):Dr (l++[f.fmod 1024]):=fun x hx=>(List.mem_append.mp hx).elim (h x) fun hx=>by
 rw [List.mem_singleton.mp hx]; exact ⟨Int.fmod_nonneg_of_pos f (by decide),Int.fmod_lt_of_pos f (by decide)⟩
section
variable {cl:A7} {X:St->Prop} {R:KQ} {N:KN} {src:Src} {xs ys:List Int} {c:Int}
noncomputable abbrev rwV (xs:List Int):A2:=[(138,.frz (xs.map .int)),(20,.obj 0)]
noncomputable abbrev rwW (xs:List Int) (c f:Int):A2:=[(138,.frz (xs.map .int)),(20,.obj 0),(139,.i c),(140,.i f)]
noncomputable abbrev rwS (ys l:List Int):St:=⟨[(1,.gl (ys.map .int)),(0,.gl (l.map .int))],2⟩
theorem rwS_snoc (l:List Int) (x:Int):rwS ys (l++[x])=⟨[(1,.gl (ys.map .int)),(0,.gl (l.map .int++[.int x]))],2⟩:=by rw [rwS,List.map_append]; rfl
theorem row_inner (js:List Int):∀ {l:List Int} (f:Int),Dr l->l.length+js.length<=1000000->∃ l',Dr l'/\l'.length<=l.length+js.length/\∀ cl R X is N,(∀ f,N (rwW xs c f) (rwS ys l'))->H4 (.vals is) 141 true 2 (E8 (B4 tabs cl fb_law_row_1) R X) N (js.map AV.i) (rwW xs c f) (rwS ys l):=by
 induction js with
 | nil=>exact fun f h Z=>⟨_,h,Nat.le_refl _,fun cl R X is N q=>q f⟩
 | cons j js ih=>
  intro l f h hl
  rw [List.length_cons] at hl ⊢
  by_cases z:0 < f
  ·obtain ⟨l2,h2,n2,q2⟩:=ih (l:=l++[f.fmod 1024]) (f.fdiv 1024) (h.snoc f) (by rw [List.length_append,List.length_singleton]; lia)
   rw [List.length_append,List.length_singleton] at n2
   refine ⟨l2,h2,by lia,fun cl R X is N q=>F1 (I7 (decide_eq_true z) (B0 (by rw [List.length_map]; lia) ?_))⟩
   have q:=q2 cl R X is N q
   rw [rwS_snoc] at q; exact q
  ·obtain ⟨l2,h2,n2,q2⟩:=ih (l:=l) f h (by lia)
   exact ⟨l2,h2,by lia,fun cl R X is N q=>F1 (C5 (decide_eq_false z) (q2 cl R X is N q))⟩
theorem row_turn {l:List Int} (c:Int) (h:Dr l) (hl:l.length<=900000):∃ l',Dr l'/\l'.length<=l.length+31/\∀ cl R X N,(∀ f,N (rwW xs c f) (rwS ys l'))->E8 (B4 tabs cl fb_law_row_0) R X (put 139 (.i c) (rwV xs)) (rwS ys l) N:=by
 have key:∀ f:Int,∃ l',Dr l'/\l'.length<=l.length+31/\∀ cl R X N,(∀ f,N (rwW xs c f) (rwS ys l'))->B4 tabs cl (drp 1 fb_law_row_0) (rwW xs c f) (rwS ys l) N R X:=fun f=>by
  obtain ⟨js,ej,lj⟩:=rangeUp_e 0 30
  obtain ⟨l2,h2,n2,q2⟩:=row_inner (xs:=xs) (ys:=ys) (c:=c) js (f.fdiv 1024) (h.snoc f) (by rw [List.length_append,List.length_singleton]; lia)
  rw [List.length_append,List.length_singleton] at n2
  refine ⟨l2,h2,by lia,fun cl R X N q=>B0 (by rw [List.length_map]; lia) (for_it ej ?_)⟩
  have q:=q2 cl R X (J0 0 30) N q
  rw [rwS_snoc] at q; exact q
 by_cases z:0<=c
 ·obtain ⟨l',a,b,q⟩:=key c
  exact ⟨l',a,b,fun cl R X N k=>I7 (decide_eq_true z) (q cl R X N k)⟩
 ·obtain ⟨l',a,b,q⟩:=key (7 - c)
  exact ⟨l',a,b,fun cl R X N k=>C5 (decide_eq_false z) (q cl R X N k)⟩
theorem row_outer (cs:List Int):∀ {l:List Int},Dr l->l.length+31*cs.length<=900000->∃ l',Dr l'/\l'.length<=l.length+31*cs.length/\∀ cl R X N,N (rwV xs) (rwS ys l')->H4 (.lst 1 (.gl (ys.map .int))) 139 true 2 (E8 (B4 tabs cl fb_law_row_0) R X) N (cs.map AV.i) (rwV xs) (rwS ys l):=by
 induction cs with
 | nil=>exact fun h Z=>⟨_,h,Nat.le_refl _,fun cl R X N q=>q⟩
 | cons c cs ih=>
  intro l h hl
  rw [List.length_cons] at hl ⊢
  obtain ⟨l1,h1,n1,q1⟩:=row_turn (xs:=xs) (ys:=ys) c h (by lia)
  obtain ⟨l2,h2,n2,q2⟩:=ih h1 (by lia)
  exact ⟨l2,h2,by lia,fun cl R X N q=>F1 (q1 _ _ _ _ fun f=>And.intro rfl (q2 _ _ _ _ q))⟩
theorem slc_len {α:Type} {k:Int} {l:List α}:(slc true k l).length<=l.length/\∀ x∈slc true k l,x∈l:=by
 show (takeTo k l).length<=_/\∀ x∈takeTo k l,_
 unfold takeTo
 by_cases c:k < 0
 ·rw [if_pos c]; exact ⟨List.length_take_le' ..,fun x hx=>List.mem_of_mem_take hx⟩
 ·rw [if_neg c]; exact ⟨List.length_take_le' ..,fun x hx=>List.mem_of_mem_take hx⟩
theorem slc_map {α β:Type} {k:Int} {l:List α} {f:α->β}:slc true k (l.map f)=(slc true k l).map f:=by
 show takeTo k (l.map f)=(takeTo k l).map f
 unfold takeTo
 rw [List.length_map]
 by_cases c:k < 0
 ·rw [if_pos c,if_pos c,List.map_take]
 ·rw [if_neg c,if_neg c,List.map_take]
theorem law_row_s (xs:List Int) (hx:xs.length<=63):∃ l,(∀ n,Fun n 1007 [.frz (xs.map .int)] emp (.obj 0) (liS l))/\L5 l:=by
 have hy:=Nat.le_trans (slc_len (k:=40) (l:=xs)).1 hx
 obtain ⟨l,h,hn,q⟩:=row_outer (xs:=xs) (ys:=slc true 40 xs) (slc true 40 xs) (l:=[]) (fun Z h=>nomatch h) (by rw [List.length_nil]; lia)
 rw [List.length_nil] at hn
 refine ⟨(slc true 160 l).reverse,fun n=>⟨rfl,B0 (by rw [List.length_map]; lia) ?_⟩,⟨by rw [List.length_reverse]; have:=(slc_len (k:=160) (l:=l)).1; lia,fun x hx=>h x (slc_len.2 x (List.mem_reverse.mp hx))⟩⟩
 have go:∀ ys',ys'=(slc true 40 xs).map GV.int->H4 (.lst 1 (.gl ys')) 139 true 2 (E8 (B4 tabs (CP n) fb_law_row_0) (Ret 0 (.obj 0) (liS (slc true 160 l).reverse)) fun Z=>False)
   (kSeq (B4 tabs (CP n) (.cons (.assign (.var 20) (.upto (.var 20) (.int 160))) (.cons (.expr (.meth (.var 20) 2 .nil)) (.cons (.ret (.var 20)) .nil)))) (fun Z st=>Ret 0 (.obj 0) (liS (slc true 160 l).reverse) .no st) (Ret 0 (.obj 0) (liS (slc true 160 l).reverse)) fun Z=>False)
   (ys'.map .g) [(138,.frz (xs.map .int)),(20,.obj 0)] ⟨[(1,.gl ys'),(0,.gl [])],2⟩:=fun ys' e=>by
  subst e
  rw [List.map_map]
  refine q (CP n) _ _ _ ?_
  have z:(slc true 160 (l.map GV.int)).length < 1000000:=by have:=(slc_len (k:=160) (l:=l.map GV.int)).1; rw [List.length_map] at this; lia
  have fin:∀ m:List GV,m=(slc true 160 l).map .int->Ret 0 (.obj 0) (liS (slc true 160 l).reverse) (.obj 2) ⟨[(2,.gl m.reverse),(1,.gl ((slc true 40 xs).map .int)),(0,.gl (l.map .int))],3⟩:=fun m e=>by
   rw [e,<- List.map_reverse]; exact ⟨[2],rfl⟩
  exact B0 (by rw [List.length_map]; lia) (B0 z (fin _ slc_map))
 exact go _ slc_map
end
inductive Rw:GV->Int->Prop
 | trap0:Rw H6 3607103756
 | br:Rw (.tup [.str [66,82],.str [65,76],.int 15,.int 0]) 3338665999
 | movi (a k:Int):0<=a->a < 4->-30000<=k->k<=34845->Rw (.tup [.str [77,79,86,73],.int a,.int 0,.int k]) (if k < 0 then 1342177280+a*16777216+k+65536 else 1073741824+a*16777216+k)
 | add (a:Int):0<=a->a < 4->Rw (.tup [.str [65,68,68],.int a,.int a,.int 1]) (a*16777216+a*1048576+524289)
 | str (a k:Int):0<=a->a < 4->64<=k->k<=460->Rw (.tup [.str [83,84,82],.int a,.int 13,.int k]) (2684354560+a*16777216+13631488+k)
 | ldb (a k:Int):0<=a->a < 4->64<=k->k<=460->Rw (.tup [.str [76,68,66],.int a,.int 13,.int k]) (2415919104+a*16777216+13631488+k)
 | trap (t k:Int):1<=t->t<=15->0<=k->k < 100->Rw (.tup [.str [84,82,65,80],.str [69,81],.int t,.int k]) (3506438156+k*256+t*16)
 | b:Rw (.tup [.str [66],.str [77,73],.int 0,.int 0]) 3758096384
section
variable {n:Nat}
theorem fault_movi {a k:Int} (h1:0<=a) (h2:a<=15) (h3:-65536<=k) (h4:k<=65535):FunC (n+8) 278 [.g (.tup [.str [77,79,86,73],.int a,.int 0,.int k])] emp (.s []) emp:=by
 refine ⟨rfl,?_⟩
 repeat' (first | refine I7 (decide_eq_true (by assumption)) ?_ | refine C5 (decide_eq_false (by assumption)) ?_ | refine C5 (nb (by assumption)) ?_ | refine I8 (by first | assumption | exact of_decide_eq_true rfl) ?_ | refine at_m (by decide) ?_)
 exact ⟨[],rfl⟩
theorem fault_add {a:Int} (h1:0<=a) (h2:a<=15):FunC (n+8) 278 [.g (.tup [.str [65,68,68],.int a,.int a,.int 1])] emp (.s []) emp:=by
 refine ⟨rfl,?_⟩
 repeat' (first | refine I7 (decide_eq_true (by assumption)) ?_ | refine C5 (decide_eq_false (by assumption)) ?_ | refine C5 (nb (by assumption)) ?_ | refine I8 (by first | assumption | exact of_decide_eq_true rfl) ?_ | refine at_m (by decide) ?_)
 exact ⟨[],rfl⟩
theorem fault_mem {a k:Int} {m:List Nat} (hm:m=[83,84,82]\/m=[76,68,66]) (h1:0<=a) (h2:a<=15) (h3:-524288<=k) (h4:k<=524287):FunC (n+8) 278 [.g (.tup [.str m,.int a,.int 13,.int k])] emp (.s []) emp:=by
 rcases hm with rfl | rfl
 all_goals
  refine ⟨rfl,?_⟩
  repeat' (first | refine I7 (decide_eq_true (by assumption)) ?_ | refine C5 (decide_eq_false (by assumption)) ?_ | refine C5 (nb (by assumption)) ?_ | refine I8 (by first | assumption | exact of_decide_eq_true rfl) ?_ | refine at_m (by decide) ?_)
  exact ⟨[],rfl⟩
theorem fault_trap {t k:Int} {cn:List Nat} (hc:cn=[69,81]\/cn=[65,76]) (h1:0<=t) (h2:t<=15) (h3:0<=k) (h4:k<=65535):FunC (n+8) 278 [.g (.tup [.str [84,82,65,80],.str cn,.int t,.int k])] emp (.s []) emp:=by
 rcases hc with rfl | rfl
 all_goals
  refine ⟨rfl,?_⟩
  repeat' (first | refine I7 (decide_eq_true (by assumption)) ?_ | refine C5 (decide_eq_false (by assumption)) ?_ | refine C5 (nb (by assumption)) ?_ | refine I8 (by first | assumption | exact of_decide_eq_true rfl) ?_ | refine at_m (by decide) ?_)
  exact ⟨[],rfl⟩
theorem fault_s {r:GV} {w:Int} (R:Rw r w) (n:Nat):FunC (n+8) 278 [.g r] emp (.s []) emp:=by
 cases R with
 | trap0=>exact fault_trap (.inr rfl) (by decide) (by decide) (by decide) (by decide)
 | br=>exact ⟨rfl,⟨[],rfl⟩⟩
 | movi a k h1 h2 h3 h4=>exact fault_movi h1 (L9 h2) (L154 h3) (L155 h4)
 | add a h1 h2=>exact fault_add h1 (L9 h2)
 | str a k h1 h2 h3 h4=>exact fault_mem (.inl rfl) h1 (L9 h2) (L25 h3) (L26 h4)
 | ldb a k h1 h2 h3 h4=>exact fault_mem (.inr rfl) h1 (L9 h2) (L25 h3) (L26 h4)
 | trap t k h1 h2 h3 h4=>exact fault_trap (.inl rfl) (L157 h1) h2 h3 (L156 h4)
 | b=>exact ⟨rfl,⟨[],rfl⟩⟩
theorem names_s:FunC (n+1) 229 [] emp (.obj 0) ⟨[(0,.gl [.str [76,68,82],.str [76,68,66],.str [83,84,82],.str [83,84,66]])],1⟩:=⟨rfl,⟨[0],rfl⟩⟩
theorem word_movi {a k:Int}:FunC (n+8) 285 [.g (.tup [.str [77,79,86,73],.int a,.int 0,.int k])] emp (.i (if k < 0 then 1342177280+a*16777216+k+65536 else 1073741824+a*16777216+k)) emp:=by
 refine ⟨rfl,?_⟩
 repeat' (first | refine I7 (decide_eq_true (by assumption)) ?_ | refine C5 (decide_eq_false (by assumption)) ?_ | refine C5 (nb (by assumption)) ?_ | refine I8 (by first | assumption | exact of_decide_eq_true rfl) ?_ | refine at_m (by decide) ?_)
 by_cases c:k < 0
 ·rw [if_pos c]; exact I7 (decide_eq_true c) (ret_i L158 ⟨[],rfl⟩)
 ·rw [if_neg c]; exact C5 (decide_eq_false c) (ret_i L159 ⟨[],rfl⟩)
theorem word_add {a:Int}:FunC (n+8) 285 [.g (.tup [.str [65,68,68],.int a,.int a,.int 1])] emp (.i (a*16777216+a*1048576+524289)) emp:=by
 refine ⟨rfl,?_⟩
 repeat' (first | refine I7 (decide_eq_true (by assumption)) ?_ | refine C5 (decide_eq_false (by assumption)) ?_ | refine C5 (nb (by assumption)) ?_ | refine I8 (by first | assumption | exact of_decide_eq_true rfl) ?_ | refine at_m (by decide) ?_)
 exact ret_i L160 ⟨[],rfl⟩
theorem word_trap {t k:Int}:FunC (n+8) 292 [.g (.tup [.str [84,82,65,80],.str [69,81],.int t,.int k])] emp (.i (3506438156+k*256+t*16)) emp:=by
 refine ⟨rfl,?_⟩
 repeat' (first | refine I7 (decide_eq_true (by assumption)) ?_ | refine C5 (decide_eq_false (by assumption)) ?_ | refine C5 (nb (by assumption)) ?_ | refine I8 (by first | assumption | exact of_decide_eq_true rfl) ?_ | refine at_m (by decide) ?_)
 exact ret_i L163 ⟨[],rfl⟩
theorem word_lit:FunC (n+8) 292 [.g H6] emp (.i 3607103756) emp/\FunC (n+8) 292 [.g (.tup [.str [66,82],.str [65,76],.int 15,.int 0])] emp (.i 3338665999) emp/\FunC (n+8) 292 [.g (.tup [.str [66],.str [77,73],.int 0,.int 0])] emp (.i 3758096384) emp:=
 ⟨⟨rfl,⟨[],rfl⟩⟩,⟨rfl,⟨[],rfl⟩⟩,⟨rfl,⟨[],rfl⟩⟩⟩
end
theorem encode_s {r:GV} {w:Int} (R:Rw r w) (n:Nat):Fun (n+8) 299 [.g r] emp (.i w) emp:=by
 have F:=fault_s R n
 have N:=names_s (n:=n+7)
 cases R with
 | trap0=>
  refine ⟨rfl,?_⟩
  refine C0 (F) [] ?_
  refine C0 (N) [] ?_
  refine C0 (word_lit.1) [] ?_
  exact ⟨[],rfl⟩
 | br=>
  refine ⟨rfl,?_⟩
  refine C0 (F) [] ?_
  refine C0 (N) [] ?_
  refine C0 (word_lit.2.1) [] ?_
  exact ⟨[],rfl⟩
 | b=>
  refine ⟨rfl,?_⟩
  refine C0 (F) [] ?_
  refine C0 (N) [] ?_
  refine C0 (word_lit.2.2) [] ?_
  exact ⟨[],rfl⟩
 | movi a k h1 h2 h3 h4=>
  refine ⟨rfl,?_⟩
  refine C0 (F) [] ?_
  refine C0 (N) [] ?_
  refine C0 (word_movi) [] ?_
  exact ⟨[],rfl⟩
 | add a h1 h2=>
  refine ⟨rfl,?_⟩
  refine C0 (F) [] ?_
  refine C0 (N) [] ?_
  refine C0 (word_add) [] ?_
  exact ⟨[],rfl⟩
 | trap t k h1 h2 h3 h4=>
  refine ⟨rfl,?_⟩
  refine C0 (F) [] ?_
  refine C0 (N) [] ?_
  refine C0 (word_trap) [] ?_
  exact ⟨[],rfl⟩
 | str a k h1 h2 h3 h4=>
  refine ⟨rfl,?_⟩
  refine C0 (F) [] ?_
  refine C0 (N) [] ?_
  refine C0 (N) [] ?_
  exact ret_i (by rw [Int.fmod_eq_emod_of_nonneg _ (by decide)]; exact L161 h3 h4) ⟨[],rfl⟩
 | ldb a k h1 h2 h3 h4=>
  refine ⟨rfl,?_⟩
  refine C0 (F) [] ?_
  refine C0 (N) [] ?_
  refine C0 (N) [] ?_
  exact ret_i (by rw [Int.fmod_eq_emod_of_nonneg _ (by decide)]; exact L162 h3 h4) ⟨[],rfl⟩
section
variable {n:Nat}
theorem is_whole_s {k lo hi:Int} (h1:lo<=k) (h2:k<=hi):Fun n 236 [.i k,.i lo,.i hi] emp (.bool true) emp:=
 ⟨rfl,I7 (decide_eq_true h1) (by rw [<- decide_eq_true h2]; exact ⟨[],rfl⟩)⟩
theorem branch_lit:FunC (n+8) 320 [.i 3607103756] emp (.g H6) emp/\FunC (n+8) 320 [.i 3338665999] emp (.g (.tup [.str [66,82],.str [65,76],.int 15,.int 0])) emp/\FunC (n+8) 320 [.i 3758096384] emp (.g (.tup [.str [66],.str [77,73],.int 0,.int 0])) emp:=
 ⟨⟨rfl,⟨[],rfl⟩⟩,⟨rfl,⟨[],rfl⟩⟩,⟨rfl,⟨[],rfl⟩⟩⟩
theorem branch_trap {w t k:Int} (f1:(w.fdiv 16777216).fmod 16=1) (f2:(w.fdiv 268435456).fmod 2=1) (f3:(w.fdiv 536870912).fmod 2=0) (f4:w.fmod 16=12) (f5:(w.fdiv 16).fmod 16=t) (f6:(w.fdiv 256).fmod 65536=k) :
  FunC (n+4) 320 [.i w] emp (.g (.tup [.str [84,82,65,80],.str [69,81],.int t,.int k])) emp:=by
 refine ⟨rfl,at_subk 1 f1 ?_⟩
 refine C5 (by rw [f3]; rfl) ?_
 refine I7 (by rw [f2]; rfl) ?_
 refine I7 (by rw [f4]; rfl) ?_
 exact ret_g (by rw [f5,f6]) ⟨[],rfl⟩
theorem oprow_movi {w a k:Int} (f1:(w.fdiv 16777216).fmod 16=a) (f2:(w.fdiv 1048576).fmod 16=0) (f3:(w.fdiv 65536).fmod 16=0) (f4:(w.fdiv 536870912).fmod 2=0) (f5:¬ w < 1073741824)
  (f6:((w.fdiv 268435456).fmod 2=1/\w.fmod 65536 - 65536=k)\/((w.fdiv 268435456).fmod 2=0/\w.fmod 65536=k)):FunC (n+4) 313 [.i w] emp (.g (.tup [.str [77,79,86,73],.int a,.int 0,.int k])) emp:=by
 refine ⟨rfl,?_⟩
 refine C5 (by rw [f3]; rfl) ?_
 refine at_subk 0 f3 ?_
 refine C5 (decide_eq_false f5) ?_
 refine C5 (by rw [f4]; rfl) ?_
 rcases f6 with ⟨f6,f7⟩ | ⟨f6,f7⟩
 ·refine I7 (by rw [f6]; rfl) ?_
  exact ret_g (by rw [f1,f2,f7]; rfl) ⟨[],rfl⟩
 ·refine C5 (by rw [f6]; rfl) ?_
  exact ret_g (by rw [f1,f2,f7]; rfl) ⟨[],rfl⟩
theorem add_lit:∀ a:Int,0<=a->a < 4->FunC (n+8) 313 [.i (a*16777216+a*1048576+524289)] emp (.g (.tup [.str [65,68,68],.int a,.int a,.int 1])) emp:=by
 intro a h1 h2
 have ha:a=0\/a=1\/a=2\/a=3:=by lia
 rcases ha with rfl | rfl | rfl | rfl<;>exact ⟨rfl,⟨[],rfl⟩⟩
end
theorem signed_s {n:Nat} {v:Int} (h:v < 524288):Fun n 306 [.i v,.i 20] emp (.i v) emp:=⟨rfl,C5 (decide_eq_false (by show ¬ (524288:Int)<=v; lia)) ⟨[],rfl⟩⟩
theorem Rw.bnd {r:GV} {w:Int} (R:Rw r w):0<=w/\w<=4294967295:=by
 cases R<;>first | (constructor<;>decide) | (constructor<;>lia)
theorem decode_s {r:GV} {w:Int} (R:Rw r w) (n:Nat):Fun (n+9) 327 [.i w] emp (.g r) emp:=by
 obtain ⟨b1,b2⟩:=R.bnd
 have F:=fault_s R (n+1)
 have E:=encode_s R n
 have fd:∀ (x y:Int),0<=y->x.fdiv y=x / y:=fun x y h=>Int.fdiv_eq_ediv_of_nonneg x h
 have fm:∀ (x y:Int),0<=y->x.fmod y=x%y:=fun x y h=>Int.fmod_eq_emod_of_nonneg x h
 refine J2 rfl rfl rfl ?_
 refine A0 (is_whole_s b1 b2) [] ?_
 refine A1 ?_
 have fin:∀ {st} vs,B2 20 vs=some (.g r)->B2 42 vs=some (.i w)->K4 (B4 tabs (CP (n+9)) (.cons (.ite (.or (.cmp .ne (.call 278 (.cons (.var 20) .nil)) (.str [])) (.cmp .ne (.call 299 (.cons (.var 20) .nil)) (.var 42))) (.cons (.raise 89 (.cons (.str [117,110,107,110,111,119,110,32,119,111,114,100]) .nil)) .nil) .nil) (.cons (.ret (.var 20)) .nil)))
   (fun Z st=>Ret 0 (.g r) emp .no st) (Ret 0 (.g r) emp) (fun Z=>False) vs st:=fun {st} vs h1 h2=>by
  refine at_q rfl (B3 h1 ?_)
  refine C0 (F) [] ?_
  refine B3 h1 ?_
  refine A0 E [] ?_
  exact B3 h2 (C5 (by rw [beq_self_eq_true]; rfl) (J8 rfl (B3 h1 ⟨[],rfl⟩)))
 clear E F
 cases R with
 | trap0=>refine C0 (branch_lit.1) [] ?_; exact fin _ rfl rfl
 | br=>refine C0 (branch_lit.2.1) [] ?_; exact fin _ rfl rfl
 | b=>refine C0 (branch_lit.2.2) [] ?_; exact fin _ rfl rfl
 | trap t k h1 h2 h3 h4=>
  generalize hw:3506438156+k*256+t*16=w at *
  refine I7 (decide_eq_true (L164 h1 h3 hw)) ?_
  refine C0 (branch_trap (n:=n+5) (t:=t) (k:=k) (by rw [fd _ _ (by decide),fm _ _ (by decide)]; exact L165 h1 h2 h3 h4 hw) (by rw [fd _ _ (by decide),fm _ _ (by decide)]; exact L166 h1 h2 h3 h4 hw) (by rw [fd _ _ (by decide),fm _ _ (by decide)]; exact L167 h1 h2 h3 h4 hw) (by rw [fm _ _ (by decide)]; exact L168 hw) (by rw [fd _ _ (by decide),fm _ _ (by decide)]; exact L169 h1 h2 hw) (by rw [fd _ _ (by decide),fm _ _ (by decide)]; exact L170 h1 h2 h3 h4 hw)) [] ?_
  exact fin _ rfl rfl
 | movi a k h1 h2 h3 h4=>
  generalize hw:(if k < 0 then 1342177280+a*16777216+k+65536 else 1073741824+a*16777216+k)=w at *
  have hw':(k < 0/\w=1342177280+a*16777216+k+65536)\/(¬ k < 0/\w=1073741824+a*16777216+k):=by
   by_cases c:k < 0
   ·rw [if_pos c] at hw; exact .inl ⟨c,hw.symm⟩
   ·rw [if_neg c] at hw; exact .inr ⟨c,hw.symm⟩
  refine C5 (decide_eq_false (L171 h2 h4 hw')) (C5 (decide_eq_false (L172 h2 h4 hw')) ?_)
  refine C0 (oprow_movi (n:=n+5) (a:=a) (k:=k) (by rw [fd _ _ (by decide),fm _ _ (by decide)]; exact L173 h1 h2 h3 h4 hw') (by rw [fd _ _ (by decide),fm _ _ (by decide)]; lia) (by rw [fd _ _ (by decide),fm _ _ (by decide)]; lia) (by rw [fd _ _ (by decide),fm _ _ (by decide)]; exact L174 h1 h2 h3 h4 hw') (L175 h1 h3 hw') (by rw [fd _ _ (by decide),fm _ _ (by decide),fm _ _ (by decide)]; exact L176 h1 h2 h3 h4 hw')) [] ?_
  exact fin _ rfl rfl
 | add a h1 h2=>
  refine C5 (decide_eq_false (L177 h2 rfl)) (C5 (decide_eq_false (L178 h2 rfl)) ?_)
  refine C0 (add_lit a h1 h2) [] ?_
  exact fin _ rfl rfl
 | str a k h1 h2 h3 h4=>
  generalize hw:2684354560+a*16777216+13631488+k=w at *
  refine C5 (decide_eq_false (L181 h2 h4 hw)) (I7 (decide_eq_true (L182 h1 h3 hw)) ?_)
  refine C0 (names_s) [] ?_
  refine at_subk 2 (by rw [fd _ _ (by decide),fm _ _ (by decide)]; exact L183 h1 h2 h3 h4 hw) ?_
  have e3:w.fmod 1048576=k:=by rw [fm _ _ (by decide)]; exact L186 h3 h4 hw
  refine A0 (signed_s (v:=w.fmod 1048576) (by rw [e3]; lia)) [] ?_
  refine fin _ ?_ rfl
  show some (AV.g (.tup [_,.int _,.int _,.int _]))=_
  rw [fd _ _ (by decide),fm _ _ (by decide),fd _ _ (by decide),fm _ _ (by decide),e3,L184 h1 h2 h3 h4 hw,L185 h3 h4 hw]
 | ldb a k h1 h2 h3 h4=>
  generalize hw:2415919104+a*16777216+13631488+k=w at *
  refine C5 (decide_eq_false (L187 h2 h4 hw)) (I7 (decide_eq_true (L188 h1 h3 hw)) ?_)
  refine C0 (names_s) [] ?_
  refine at_subk 1 (by rw [fd _ _ (by decide),fm _ _ (by decide)]; exact L189 h1 h2 h3 h4 hw) ?_
  have e3:w.fmod 1048576=k:=by rw [fm _ _ (by decide)]; exact L192 h3 h4 hw
  refine A0 (signed_s (v:=w.fmod 1048576) (by rw [e3]; lia)) [] ?_
  refine fin _ ?_ rfl
  show some (AV.g (.tup [_,.int _,.int _,.int _]))=_
  rw [fd _ _ (by decide),fm _ _ (by decide),fd _ _ (by decide),fm _ _ (by decide),e3,L190 h1 h2 h3 h4 hw,L191 h3 h4 hw]
noncomputable def IsRw (r:GV):Prop:=∃ w,Rw r w
noncomputable def brRow:GV:=.tup [.str [66,82],.str [65,76],.int 15,.int 0]
theorem L6 (x:Int) {b:Int} (h:0 < b):0<=x.fmod b/\x.fmod b < b:=⟨Int.fmod_nonneg_of_pos x h,Int.fmod_lt_of_pos x h⟩
noncomputable abbrev drV (j d a m:Int):A2:=[(20,.obj 0),(53,.obj 1),(141,.i j),(142,.i d),(143,.i a),(144,.i m)]
noncomputable abbrev drS (rows:List GV) (l:List Int):St:=⟨[(1,.gl rows),(0,.gl (l.map .int))],2⟩
theorem rows_tail {j d a m:Int} {rows:List GV} {l:List Int} (p1:0<=d) (p2:d < 6) (q1:0<=a) (q2:a < 4) (r1:0<=m) (r2:m < 100) (hz:rows.length+1<=1000000) :
  ∃ r,IsRw r/\∀ cl R X N,N (drV j d a m) (drS (rows++[r]) l)->B4 tabs cl (drp 3 fb_law_rows_0) (drV j d a m) (drS rows l) N R X:=by
 have hd:d=0\/d=1\/d=2\/d=3\/d=4\/d=5:=L194 p1 p2
 rcases hd with rfl | rfl | rfl | rfl | rfl | rfl
 ·exact ⟨_,⟨_,.movi a (m*655 - 30000) q1 q2 (L195 r1) (L196 r2)⟩,fun cl R X N q=>B0 hz q⟩
 ·exact ⟨_,⟨_,.add a q1 q2⟩,fun cl R X N q=>B0 hz q⟩
 ·exact ⟨_,⟨_,.str a (64+4*m) q1 q2 (L197 r1) (L198 r2)⟩,fun cl R X N q=>at_m (by decide) (B0 hz q)⟩
 ·exact ⟨_,⟨_,.ldb a (64+m) q1 q2 (L199 r1) (L200 r2)⟩,fun cl R X N q=>B0 hz q⟩
 ·obtain ⟨s1,s2⟩:=L6 m (show (0:Int) < 15 by decide)
  exact ⟨_,⟨_,.trap (1+m.fmod 15) m (L201 s1) (by lia) r1 r2⟩,fun cl R X N q=>B0 hz q⟩
 ·exact ⟨_,⟨_,.b⟩,fun cl R X N q=>B0 hz q⟩
theorem rows_turn {rows:List GV} {l:List Int} (j:Int) (D:L5 l) (hz:rows.length+1<=1000000) :
  ∃ r l',IsRw r/\L5 l'/\∀ n R N,(∀ d a m,N (drV j d a m) (drS (rows++[r]) l'))->E8 (B4 tabs (CP (n+1)) fb_law_rows_0) R (fun Z=>False) [(20,.obj 0),(53,.obj 1),(141,.i j)] (drS rows l) N:=by
 obtain ⟨x1,l1,h1,D1,_⟩:=I5 D
 obtain ⟨x2,l2,h2,D2,_⟩:=I5 D1
 obtain ⟨x3,l3,h3,D3,_⟩:=I5 D2
 obtain ⟨p1,p2⟩:=L6 x1 (show (0:Int) < 6 by decide)
 obtain ⟨q1,q2⟩:=L6 x2 (show (0:Int) < 4 by decide)
 obtain ⟨r1,r2⟩:=L6 x3 (show (0:Int) < 100 by decide)
 obtain ⟨r,hr,q⟩:=rows_tail (j:=j) (l:=l3) p1 p2 q1 q2 r1 r2 hz
 refine ⟨r,l3,hr,D3,fun n R N hN=>F6 ?_⟩
 refine A0 (h1 _) [0] ?_
 refine A1 ?_
 refine A0 (h2 _) [0] ?_
 refine A1 ?_
 refine A0 (h3 _) [0] ?_
 exact J8 rfl (q (CP (n+1)) R (fun Z=>False) N (hN _ _ _))
noncomputable def RowsOK (rows:List GV):Prop:=∃ pre,rows=pre++[brRow]/\pre.length<=4/\∀ r∈pre,IsRw r
theorem rows_loop (js:List Int):∀ {rows:List GV} {l:List Int},L5 l->rows.length+js.length<=4->(∀ r∈rows,IsRw r)->∃ rows' l',rows'.length<=4/\(∀ r∈rows',IsRw r)/\L5 l'/\∀ n R is N,N [(20,.obj 0),(53,.obj 1)] (drS rows' l')->H4 (.vals is) 141 true 2 (E8 (B4 tabs (CP (n+1)) fb_law_rows_0) R fun Z=>False) N (js.map AV.i) [(20,.obj 0),(53,.obj 1)] (drS rows l):=by
 induction js with
 | nil=>exact fun {rows l} D hz hr=>⟨rows,l,hz,hr,D,fun n R is N q=>q⟩
 | cons j js ih=>
  intro rows l D hz hr
  rw [List.length_cons] at hz
  obtain ⟨r,l1,h1,D1,q1⟩:=rows_turn (rows:=rows) j D (by lia)
  obtain ⟨rows2,l2,n2,h2,D2,q2⟩:=ih (rows:=rows++[r]) D1 (by rw [List.length_append,List.length_singleton]; lia) fun x hx=>(List.mem_append.mp hx).elim (hr x) fun h=>by rw [List.mem_singleton.mp h]; exact h1
  exact ⟨rows2,l2,n2,h2,D2,fun n R is N q=>F1 (q1 n R _ fun d a m=>q2 n R is N q)⟩
theorem law_rows_s {l:List Int} (D:L5 l):∃ rows l',RowsOK rows/\L5 l'/\∀ n,Fun (n+1) 1021 [.obj 0] (liS l) (.obj 1) (drS rows l'):=by
 obtain ⟨x,l1,h1,D1,_⟩:=I5 D
 obtain ⟨p1,p2⟩:=L6 x (show (0:Int) < 5 by decide)
 obtain ⟨k,hk⟩:=Int.eq_ofNat_of_zero_le p1
 obtain ⟨js,ej,lj⟩:=rangeUp_e 0 k
 obtain ⟨pre,l2,hz,hr,D2,q⟩:=rows_loop js (rows:=[]) D1 (by rw [List.length_nil]; lia) fun Z h=>nomatch h
 refine ⟨pre++[brRow],l2,⟨pre,rfl,hz,hr⟩,D2,fun n=>J2 rfl rfl rfl (at_q rfl ?_)⟩
 refine A0 (h1 _) [0] ?_
 refine I8 ⟨by lia,by lia⟩ (for_it (by rw [hk]; exact ej) (q n _ _ _ (at_q rfl (B0 (by lia) (J8 rfl ⟨[0,1],rfl⟩)))))
theorem rounded_r {n:Nat} {s:Int}:Fun n 811 [.i s] emp (.i ((s+16 - 1).fdiv 16*16)) emp:=⟨rfl,⟨[],rfl⟩⟩
theorem rnd_b {s:Int} (h:0<=s):0<=(s+16 - 1).fdiv 16*16/\(s+16 - 1).fdiv 16*16 < s+16:=by
 rw [Int.fdiv_eq_ediv_of_nonneg _ (by decide)]; exact ⟨L207 h,L208⟩
section
variable {V:KV}
theorem add_data_s {s:Int} (h0:0<=s) (h1:V.top+s+15<=V.dl):∃ t,V.top<=t/\t<=V.top+s+15/\∀ n,Fun (n+1) 840 [.obj 0,.i s] (maS V) (.i V.top) (maS {V with top:=t}):=by
 obtain ⟨r1,r2⟩:=rnd_b h0
 refine ⟨V.top+(s+16 - 1).fdiv 16*16,by lia,by lia,fun n=>⟨rfl,C5 (decide_eq_false (by lia)) ?_⟩⟩
 refine A0 rounded_r [] ?_
 refine C5 (decide_eq_false (by lia)) ?_
 refine A0 rounded_r [] ?_
 exact ⟨[0,1,2,3,4,5,6,7,8,9,10],rfl⟩
noncomputable abbrev maR (V:KV) (rows:List GV):St:=⟨maL V [(11,.gl rows)],12⟩
theorem add_loop {cl:A7} {R:KQ} {X:KX} {N:KN} {rows:List GV} {k:Int} (cs:List GV):∀ (V:KV),V.rows.length+cs.length<=1000000->N [(7,.obj 0),(53,.obj 11),(105,.i k)] (maR {V with rows:=V.rows++cs} rows) ->
  H4 (.lst 11 (.gl rows)) 20 true 12 (E8 (B4 tabs cl fb_Machine_add_rows_0) R X) N (cs.map .g) [(7,.obj 0),(53,.obj 11),(105,.i k)] (maR V rows):=by
 induction cs with
 | nil=>intro V _ q; rw [List.append_nil] at q; exact q
 | cons c cs ih=>
  intro V hz q
  rw [List.length_cons] at hz
  refine F1 (B0 (by lia) (And.intro rfl (ih {V with rows:=V.rows++[c]} (by show (V.rows++[c]).length+_<=_; rw [List.length_append,List.length_singleton]; lia) ?_)))
  rw [List.append_assoc]; exact q
theorem add_rows_s {n:Nat} {rows:List GV} (hz:V.rows.length+rows.length<=1000):Fun n 833 [.obj 0,.obj 11] (maR V rows) (.i V.rows.length) (maR {V with rows:=V.rows++rows} rows):=
 ⟨rfl,B0 (by lia) (add_loop rows V (by lia) ⟨[0,1,2,3,4,5,6,7,8,9,10,11],rfl⟩)⟩
end
noncomputable def H0 (l:List (Int × Int)) (k:Int):Int:=(E2 k l).getD 0
noncomputable def nz (l:List (Int × Int)) (k:Int):Bool:=!(H0 l k==0)
noncomputable def places (l:List (Int × Int)):List Int:=(K1 (l.map (·.1))).filter (nz l)
noncomputable def sizes (V:KV):List Int:=[V.dl - 64,V.hb - V.ha,V.size - V.sl,V.top,V.limit,V.steps]
noncomputable def vals (l:List (Int × Int)) (ks:List Int):List Nat:=ks.flatMap fun k=>enc (H0 l k)
noncomputable def E0 (V:KV):List Nat:=encs (sizes V)++(encs V.free++(encs (places V.words)++vals V.words (places V.words)))
theorem lookDi_some {k:Int} {l:List (Int × Int)} (h:k∈l.map (·.1)):E2 k l=some (H0 l k):=by
 unfold H0
 induction l with
 | nil=>cases h
 | cons p r ih=>
  show (if p.1=k then some p.2 else E2 k r)=some ((if p.1=k then some p.2 else E2 k r).getD 0)
  by_cases e:p.1=k
  ·rw [if_pos e]; rfl
  ·rw [if_neg e]; exact ih ((List.mem_cons.mp h).elim (fun z=>absurd z.symm e) id)
noncomputable abbrev wrO:AO:=.inst 136 [(11,.obj 12)]
noncomputable abbrev wmL (V:KV) (xs:List GV):List (Nat × AO):=maL V [(11,wrO),(12,.gl xs)]
section
variable {V:KV} {xs:List GV} {s1 s2 ps:List GV}
theorem wm_comp {K:List AV->St->Prop} {cl:A7} {vs:A2} (hv:vs=[(117,.obj 11),(49,.obj 0),(100,.obj 3),(89,.obj 2)]) (ts:List Int):∀ (ds:List Int),(∀ k∈ts,k∈V.words.map (·.1)) ->
  K ((((ds++ts).filter (nz V.words)).map .int).map .g) ⟨(14,.gl s2)::(13,.gl s1)::wmL V xs,15⟩ ->
  J6 (.lst 14 (.gl s2)) 30 true 15 vs (kEltIf (vcE tabs cl (fun Z=>False) cc_write_machine_0) (vcE tabs cl (fun Z=>False) ce_write_machine_0)) K ((ts.map .int).map .g) (((ds.filter (nz V.words)).map .int).map .g) ⟨(14,.gl s2)::(13,.gl s1)::wmL V xs,15⟩:=by
 subst hv
 induction ts with
 | nil=>intro ds _ q; rw [List.append_nil] at q; exact q
 | cons k ts ih=>
  intro ds hk q
  have e:=lookDi_some (hk k (.head _))
  have z:=ih (ds++[k]) (fun x hx=>hk x (.tail _ hx)) (by rw [List.append_assoc]; exact q)
  rw [List.filter_append] at z
  cases c:nz V.words k with
  | false=>
   rw [List.filter_cons_of_neg (by rw [c]; decide),List.filter_nil,List.append_nil] at z
   exact comp_cons ⟨_,e,C5 c (And.intro rfl z)⟩
  | true=>
   rw [List.filter_cons_of_pos c,List.filter_nil,List.map_append,List.map_append] at z
   exact comp_cons ⟨_,e,I7 c (And.intro rfl z)⟩
noncomputable abbrev wmV:A2:=[(117,.obj 11),(49,.obj 0),(100,.obj 3),(89,.obj 2),(118,.obj 15)]
theorem wm_loop {n:Nat} {R:KQ} {N:KN} (ts:List Int):∀ (xs:List GV),(∀ k∈ts,k∈V.words.map (·.1))->xs.length+(vals V.words ts).length<=1000000->N wmV ⟨(15,.gl ps)::(14,.gl s2)::(13,.gl s1)::wmL V (xs++gi (vals V.words ts)),16⟩ ->
  H4 (.lst 15 (.gl ps)) 30 true 16 (E8 (B4 tabs (CP (n+1)) fb_write_machine_0) R fun Z=>False) N ((ts.map .int).map .g) wmV ⟨(15,.gl ps)::(14,.gl s2)::(13,.gl s1)::wmL V xs,16⟩:=by
 induction ts with
 | nil=>intro xs _ _ q; rw [vals,List.flatMap_nil,show gi []=[] from rfl,List.append_nil] at q; exact q
 | cons k ts ih=>
  intro xs hk hz q
  rw [vals,List.flatMap_cons] at hz q
  refine F1 ⟨_,lookDi_some (hk k (.head _)),?_⟩
  refine A0 (K3 (lenA hz).1) [11,12] ?_
  refine And.intro rfl (ih _ (fun x hx=>hk x (.tail _ hx)) (lenA hz).2 ?_)
  rw [List.append_assoc,<- E5]; exact q
theorem sortInts_len (l:List Int):(K1 l).length=l.length:=(G5 l).length_eq
theorem write_machine_s {n:Nat} (hw:V.words.length < 64) (hz:xs.length+(E0 V).length<=1000000) (hf:V.free.length<=1000):Fun (n+2) 929 [.obj 11,.obj 0] ⟨wmL V xs,13⟩ .no ⟨wmL V (xs++gi (E0 V)),13⟩:=by
 unfold E0 at hz ⊢
 have hz1:=lenA hz
 have hz2:=lenA hz1.2
 have hz3:=lenA hz2.2
 have hpl:(places V.words).length<=V.words.length:=Nat.le_trans (List.length_filter_le _ _) (by rw [sortInts_len,List.length_map]; exact Nat.le_refl _)
 refine J2 rfl rfl rfl ?_
 refine A1 ?_
 refine A0 (K8 (l:=sizes V) hz1.1 (Nat.le_of_ble_eq_true rfl)) [11,12,13] ?_
 refine A1 ?_
 refine A0 (K8 hz2.1 (by lia)) [11,12,4] ?_
 refine A1 ?_
 refine A1 ?_
 refine B0 hw ?_
 refine B0 (L4 (by rw [List.length_map,sortInts_len,List.length_map]; lia)) ?_
 refine wm_comp rfl (K1 (V.words.map (·.1))) [] (fun k hk=>(G5 _).mem_iff.mp hk) ?_
 refine B3 (B8 _) ?_
 refine A1 ?_
 refine A0 (K8 (l:=places V.words) hz3.1 (by lia)) [11,12,15] ?_
 refine A1 ?_
 refine wm_loop (places V.words) _ (fun k hk=>(G5 _).mem_iff.mp (List.mem_filter.mp hk).1) hz3.2 (J8 rfl ?_)
 rw [E5,E5,E5,<- List.append_assoc,<- List.append_assoc,<- List.append_assoc]
 exact ⟨[0,1,2,3,4,5,6,7,8,9,10,11,12],rfl⟩
end
noncomputable def ckStep (v:Int) (b:Nat):Int:=(v*257+b+1).fmod 2305843009213693951
noncomputable def ckn (l:List Nat):Int:=l.foldl ckStep 1
theorem ck_loop {cl:A7} {R:KQ} {X:KX} {N:KN} {o:List GV} (l:List Nat):∀ c:Int,N [(22,.obj 0),(12,.i (l.foldl ckStep c))] ⟨[(0,.gl o)],1⟩ ->
  H4 (.lst 0 (.gl o)) 13 true 1 (E8 (B4 tabs cl fb_check_number_0) R X) N ((gi l).map .g) [(22,.obj 0),(12,.i c)] ⟨[(0,.gl o)],1⟩:=by
 induction l with
 | nil=>exact fun c q=>q
 | cons b l ih=>exact fun c q=>F1 (And.intro rfl (ih (ckStep c b) q))
theorem check_s {n:Nat} {l:List Nat}:Fun n 924 [.obj 0] ⟨[(0,.gl (gi l))],1⟩ (.i (ckn l)) ⟨[(0,.gl (gi l))],1⟩:=⟨rfl,ck_loop l 1 ⟨[0],rfl⟩⟩
theorem writer_s {n:Nat}:Fun n 105 [.obj 0] ⟨[(0,.inst 136 [])],1⟩ .no (wrS []):=⟨rfl,⟨[0,1],rfl⟩⟩
noncomputable def ckb:Nat->Int->List Nat
 | 0,_=>[]
 | k+1,c=>(c.fmod 256).toNat::ckb k (c.fdiv 256)
noncomputable def WrOK (w l:Nat) (st:St):Prop:=∀ xs ys:List GV,((st.set l (.gl xs)).get w,mg [w,l] (wrS xs) (st.set l (.gl xs)) (wrS ys),(st.set l (.gl xs)).cut st.nx,inB [w,l] 2 st.nx)=(some (.inst 136 [(11,.obj l)]),st.set l (.gl ys),st.set l (.gl xs),true)
noncomputable abbrev B9 (s:List Nat):List Nat:=encs (M2 s)
section
variable {n w l x:Nat} {st:St} {Q:KQ} {X:KX} {xs:List GV}
theorem Fun.to {n f:Nat} {a:List AV} {st t t':St} {v:AV} (h:Fun n f a st v t) (e:t=t'):Fun n f a st v t':=e▸h
theorem gi2 {x:List GV} {a b:List Nat} (h:x=gi a):x++gi b=gi (a++b):=by rw [h,E5]
theorem WrOK.run {f:Nat} {v:AV} {ys:List GV} (W:WrOK w l st) (hv:v.rn (ren st.nx [w,l])=v) (h:Fun n f [.obj 0,v] (wrS xs) .no (wrS ys)) (q:Q .no (st.set l (.gl ys))):CP (n+1) f [.obj w,v] (st.set l (.gl xs)) Q X:=by
 have e:=W xs ys
 simp only [Prod.mk.injEq] at e
 have g:(st.set l (.gl xs)).get l=some (.gl xs):=by rw [get_set,if_pos rfl]
 refine C8 h [w,l] ?_ (congrArg (Prod.mk AV.no) e.2.1) q
 show ([AV.obj w,v],[(st.set l (.gl xs)).get w,(st.set l (.gl xs)).get l],inB [w,l] 2 st.nx)=([AV.obj w,v.rn (ren st.nx [w,l])],_,true)
 rw [e.1,g,e.2.2.2,hv]; rfl
theorem texts_w {i:Nat} {o:AO} {vs:A2} {body:A2->St->(A2->St->Prop)->Prop} {N:KN} (W:WrOK w l st) (hs:∀ xs,(st.set l (.gl xs)).get i=some o) (hv:∀ s:List Nat,E1 st.nx (kpVs vs (put x (.s s) vs))=vs)
  (B:∀ (s:List Nat) xs k,CP (n+2) 126 [.obj w,.s s] (st.set l (.gl xs)) (fun Z st'=>k (put x (.s s) vs) st') (fun Z=>False)->body (put x (.s s) vs) (st.set l (.gl xs)) k) (ts:List (List Nat)):∀ xs:List GV,xs.length+(ts.flatMap B9).length<=1000000->(∀ s∈ts,s.length<=1000000) ->
  N vs (st.set l (.gl (xs++gi (ts.flatMap B9))))->H4 (.lst i o) x true st.nx body N ((ts.map GV.str).map .g) vs (st.set l (.gl xs)):=by
 induction ts with
 | nil=>exact fun xs Z Z q=>by rw [List.flatMap_nil,show gi []=[] from rfl,List.append_nil] at q; exact q
 | cons s ts ih=>
  intro xs hl ht q
  rw [List.flatMap_cons] at hl q
  refine F1 (B s _ _ (W.run rfl (text_s (lenA hl).1 (ht s (.head _))) (And.intro (hs _) ?_)))
  have e:=W (xs++gi (B9 s)) xs
  simp only [Prod.mk.injEq] at e
  show H4 _ _ _ _ _ _ _ _ (St.cut st.nx _)
  rw [hv,e.2.2.1]
  refine ih _ (lenA hl).2 (fun s hs=>ht s (.tail _ hs)) ?_
  rw [List.append_assoc,<- E5]; exact q
theorem bytes_w {is:List AV} {vs:Int->A2} {body:A2->St->(A2->St->Prop)->Prop} {N:KN} (W:WrOK w l st) (hv:∀ (j c:Int),E1 st.nx (kpVs (vs c) (put 120 (.i (c.fdiv 256)) (put 122 (.i j) (vs c))))=vs (c.fdiv 256))
  (B:∀ (j c:Int) xs k,CP (n+1) 112 [.obj w,.i (c.fmod 256)] (st.set l (.gl xs)) (fun Z st'=>k (put 120 (.i (c.fdiv 256)) (put 122 (.i j) (vs c))) st') (fun Z=>False)->body (put 122 (.i j) (vs c)) (st.set l (.gl xs)) k) (its:List Int):∀ (c:Int) (xs:List Nat),xs.length+its.length<=1000000 ->
  (∀ c',N (vs c') (st.set l (.gl (gi (xs++ckb its.length c)))))->H4 (.vals is) 122 true st.nx body N (its.map .i) (vs c) (st.set l (.gl (gi xs))):=by
 induction its with
 | nil=>exact fun c xs Z q=>by rw [show ckb ([]:List Int).length c=[] from rfl,List.append_nil] at q; exact q c
 | cons j its ih=>
  intro c xs hl q
  rw [List.length_cons] at hl
  refine F1 (B j c _ _ (W.run (ys:=gi xs++[.int (c.fmod 256)]) rfl (byte_s (by rw [F5]; lia)) ?_))
  have e:=W (gi xs++[.int (c.fmod 256)]) []
  simp only [Prod.mk.injEq] at e
  show H4 _ _ _ _ _ _ _ _ (St.cut st.nx _)
  rw [hv,e.2.2.1]
  have f:gi (xs++[(c.fmod 256).toNat])=gi xs++[.int (c.fmod 256)]:=by
   rw [E5,show gi [(c.fmod 256).toNat]=[.int ((c.fmod 256).toNat:Nat)] from rfl,Int.toNat_of_nonneg (Int.fmod_nonneg_of_pos c (by decide))]
  rw [<- f]
  refine ih _ _ (by rw [List.length_append,List.length_singleton]; lia) fun c'=>?_
  rw [List.append_assoc]; exact q c'
end
theorem mgO_nil {f:Nat->Nat} {s0 s:List (Nat × AO)} (t:List (Nat × AO)):mgO f [] s0 s t=t:=by
 induction t with
 | nil=>rfl
 | cons p r ih=>exact congrArg (p::·) ih
theorem call_emp {n f:Nat} {args:List AV} {v:AV} (h:Fun n f args emp v emp) {st:St} {Q:KQ} {X:KX} (e:(rnAll (ren st.nx []) args,v.rn (ren st.nx []))=(args,v)) (q:Q v st):CP (n+1) f args st Q X:=by
 simp only [Prod.mk.injEq] at e
 refine C8 h [] (by rw [e.1]; rfl) (u:=v) (s:=st) ?_ q
 rw [e.2,show mg [] emp st emp=⟨mgO (ren st.nx []) [] [] [] st.sto,st.nx⟩ from rfl,mgO_nil]
noncomputable def RwL:List GV->List Int->Prop
 | [],[]=>True
 | r::R,w::W=>Rw r w/\RwL R W
 | _,_=>False
theorem RwL.len {R:List GV}:∀ {W:List Int},RwL R W->R.length=W.length:=by
 induction R with
 | nil=>intro W h; cases W with | nil=>rfl | cons=>exact h.elim
 | cons r R ih=>intro W h; cases W with | nil=>exact h.elim | cons w W=>exact congrArg Nat.succ (ih h.2)
theorem enc_comp {n i:Nat} {o:AO} {vs:A2} {K:KL} {st:St} (hs:st.get i=some o) (hc:st.cut st.nx=st) (R:List GV):∀ (W wd:List Int),RwL R W->K (((wd++W).map .int).map .g) st ->
  J6 (.lst i o) 20 true st.nx vs (kElt (vcE tabs (CP (n+9)) (fun Z=>False) ce_write_image_0)) K (R.map .g) ((wd.map .int).map .g) st:=by
 induction R with
 | nil=>intro W wd h q; cases W with | nil=>rw [List.append_nil] at q; exact q | cons=>exact h.elim
 | cons r R ih=>
  intro W wd h q
  cases W with
  | nil=>exact h.elim
  | cons w W=>
   have z:=ih W (wd++[w]) h.2 (by rw [List.append_assoc]; exact q)
   rw [List.map_append,List.map_append] at z
   refine comp_cons (B3 (by rw [look_put,if_pos rfl]) (call_emp (encode_s h.1 n) rfl (And.intro hs ?_)))
   show J6 _ _ _ _ _ _ _ _ (_++[AV.g (.int w)]) (St.cut st.nx st)
   rw [hc]; exact z
set_option genInjectivity false in
set_option genSizeOf false in
structure MdL where
 name:List Nat
 (key cb db:Int)
 clients:List (List Nat)
 rows:List GV
noncomputable def E3 (d:MdL):List Nat:=B9 d.name++(encs [d.key,d.cb,d.db]++(enc d.clients.length++d.clients.flatMap B9))
noncomputable def imgMods (ds:List MdL):List Nat:=enc ds.length++ds.flatMap E3
noncomputable def I0 (V:KV):List Nat:=enc V.outs.length++(V.outs.flatMap B9++encs V.given)
noncomputable def E4 (l:List Nat):List Nat:=l++ckb 8 (ckn l)
noncomputable def A3 (V:KV) (ws:List Int) (ds:List MdL):List Nat:=E0 V++(encs ws++(imgMods ds++I0 V))
noncomputable def MdOK (d:MdL):Prop:=d.name.length<=1000/\(∀ s∈d.clients,s.length<=1000)/\d.clients.length<=1000
noncomputable def mdS (cls:Nat):Nat->List MdL->List (Nat × AO)
 | _,[]=>[]
 | b,d::r=>(b,modO cls d.name d.key d.cb d.db (b+2) (b+1))::(b+1,.gl (d.clients.map .str))::mdS cls (b+12) r
noncomputable def ldL:Nat->List MdL->List AV
 | _,[]=>[]
 | b,_::r=>.obj b::ldL (b+12) r
noncomputable def ldO (b:Nat) (ds:List MdL):AO:=match ds with
 | []=>.gl []
 | _=>.ol (ldL b ds)
noncomputable abbrev imS (cls:Nat) (V:KV) (ds:List MdL):St:=⟨(8,ldO 11 ds)::maL V (mdS cls 11 ds),11+12*ds.length⟩
noncomputable abbrev Rm (xs:List GV) (l:List Nat):Prop:=xs.length+l.length<=1000000
theorem Rm.fst {xs:List GV} {a b:List Nat} (h:Rm xs (a++b)):Rm xs a:=(lenA h).1
theorem Rm.snd {xs:List GV} {a b:List Nat} (h:Rm xs (a++b)):Rm (xs++gi a) b:=(lenA h).2
section
variable {xs:List GV} {d:MdL} {n:Nat} {V:KV} {ws:List Int} {ds:List MdL}
theorem bm1 (h:Rm xs (E3 d)):Rm xs (encs (M2 d.name)):=h.fst
theorem bm2 (h:Rm xs (E3 d)):Rm (xs++gi (encs (M2 d.name))) (encs [d.key,d.cb,d.db]):=h.snd.fst
theorem bm3 (h:Rm xs (E3 d)):Rm (xs++gi (encs (M2 d.name))++gi (encs [d.key,d.cb,d.db])) (enc d.clients.length):=h.snd.snd.fst
theorem bm4 (h:Rm xs (E3 d)):Rm (xs++gi (encs (M2 d.name))++gi (encs [d.key,d.cb,d.db])++gi (enc d.clients.length)) (d.clients.flatMap B9):=h.snd.snd.snd
theorem mod_e:xs++gi (E3 d)=xs++gi (encs (M2 d.name))++gi (encs [d.key,d.cb,d.db])++gi (enc d.clients.length)++gi (d.clients.flatMap B9):=by
 rw [E3,E5,E5,E5,List.append_assoc,List.append_assoc,List.append_assoc]
theorem be1 (h:Rm xs (I0 V)):Rm xs (enc V.outs.length):=h.fst
theorem be2 (h:Rm xs (I0 V)):Rm (xs++gi (enc V.outs.length)) (V.outs.flatMap B9):=h.snd.fst
theorem be3 (h:Rm xs (I0 V)):Rm (xs++gi (enc V.outs.length)++gi (V.outs.flatMap B9)) (encs V.given):=h.snd.snd
theorem end_e {b:List Nat}:gi b++gi (enc V.outs.length)++gi (V.outs.flatMap B9)++gi (encs V.given)=gi (b++I0 V):=by
 rw [I0,E5,E5,E5,List.append_assoc,List.append_assoc]
end
noncomputable def fld (o:AO) (a:Nat):Option AV:=match o with | .inst _ fs=>B2 a fs | _=>none
noncomputable def mth (T:Tabs) (o:AO) (m:Nat):Option Nat:=match o with | .inst c fs=>(match B2 m fs with | none=>T.meth c m | some _=>none) | _=>none
noncomputable def lenO (o:AO):Option Nat:=match o with | .gl l=>some l.length | .ol l=>some l.length | _=>none
noncomputable def isSeq (o:AO):Bool:=match o with | .gl _=>true | .ol _=>true | _=>false
section
variable {T:Tabs} {st:St} {i a m k:Nat} {o:AO} {w:AV}
theorem B5 {Q:AV->Prop} (h:st.get i=some o) (e:fld o a=some w) (q:Q w):getAttrV st (.obj i) a Q:=by
 cases o<;>first | (cases e; done) | skip
 show instO (st.get i) _
 rw [h]
 exact B3 e q
theorem at_mth {K:Tgt->Prop} {f:Nat} (h:st.get i=some o) (e:mth T o m=some f) (q:K (.fn f i)):resV T st m (.obj i) K:=by
 cases o with
 | inst c fs=>
  show (match st.get i with | some (.inst c fs)=>noF T m c fs fun f=>K (.fn f i) | some (.gl _)=>_ | some (.ol _)=>_ | some (.di _)=>_ | some (.ds _)=>_ | none=>_)
  rw [h]
  have e:(match B2 m fs with | none=>T.meth c m | some _=>none)=some f:=e
  show ofO (T.meth c m) fun f=>match B2 m fs with | none=>K (.fn f i) | some _=>False
  cases h2:B2 m fs with
  | some _=>rw [h2] at e; cases e
  | none=>rw [h2] at e; exact B3 e q
 | _=>cases e
theorem at_len {Q:AV->St->Prop} (h:st.get i=some o) (e:lenO o=some k) (hk:k<=1000000) (q:Q (.i k) st):lenV (.obj i) st Q:=by
 show seqL (st.get i) fun n=>chk (Nat.ble n 1000000) (Q (.i n) st)
 rw [h]
 cases o<;>cases e<;>exact B0 hk q
theorem at_src {Q:Src->Prop} (h:st.get i=some o) (e:isSeq o=true) (q:Q (.lst i o)):srcOf st (.obj i) Q:=by
 cases o<;>first | (cases e; done) | skip
 all_goals
  conv=>whnf
  rw [h]; exact q
end
inductive FI (src:Src) (x:Nat) (cut:Bool) (n:Nat) (body:A2->St->(A2->St->Prop)->Prop) (N:KN) (l:List AV) (vs:A2) (st:St):Prop
 | mk (h:H4 src x cut n body N l vs st):FI src x cut n body N l vs st
theorem FI_eq {src:Src} {x n:Nat} {cut:Bool} {body:A2->St->(A2->St->Prop)->Prop} {N:KN}:FI src x cut n body N=H4 src x cut n body N:=funext fun Z=>funext fun Z=>funext fun Z=>propext ⟨fun h=>h.1,.mk⟩
noncomputable def kForI (x:Nat) (cut:Bool) (g:KG) (N:KN) (R:KQ) (X:KX) (vs:A2):KS:=fun src st=>FI src x cut st.nx (E8 g R X) N src.items vs st
theorem J4 {T:Tabs} {cl:A7} {cut:Bool} {x:Nat} {it:MI} {b:MSs} {vs:A2} {st:St} {N:KN} {R:KQ} {X:KX} (q:vcI T cl X it vs st (kForI x cut (B4 T cl b) N R X vs)):vcS T cl (.for_ cut x it b) vs st N R X:=by
 have e:kForI x cut (B4 T cl b) N R X vs=kFor x cut (B4 T cl b) N R X vs:=funext fun src=>funext fun st=>by unfold kForI kFor; rw [FI_eq]
 rw [e] at q; exact q
section
variable {src:Src} {x n:Nat} {body:A2->St->(A2->St->Prop)->Prop} {N:KN} {vs vs1:A2} {st st1:St} {v:AV} {l r:List AV} {cut:Bool}
noncomputable def kFI (src:Src) (x:Nat) (cut:Bool) (n:Nat) (body:A2->St->(A2->St->Prop)->Prop) (N:KN) (r:List AV) (vs:A2):KN:=fun vs' st'=>src.go st' (match cut with
  | true=>FI src x true n body N r (E1 n (kpVs vs vs')) (st'.cut n)
  | false=>FI src x false n body N r (kpVs vs vs') st')
theorem L7 (q:N vs st):FI src x cut n body N [] vs st:=.mk q
theorem B6 (q:body (put x v vs) st (kFI src x cut n body N r vs)):FI src x cut n body N (v::r) vs st:=by
 have e:kFI src x cut n body N r vs=kLoop src x cut n body N r vs:=by unfold kFI kLoop; cases cut<;>rw [FI_eq,FI_eq]
 rw [e] at q; exact .mk q
theorem M3 (q:FI src x cut n body N l vs1 st1) (e:(vs,st)=(vs1,st1):=by k_upd):FI src x cut n body N l vs st:=by cases e; exact q
theorem at_fi (e:(vs,st)=(vs1,st1)) (q:FI src x cut n body N l vs1 st1):FI src x cut n body N l vs st:=by cases e; exact q
end
noncomputable def WrL (w l k:Nat) (ks:List GV) (st:St):Prop:=∀ xs ys:List GV,((st.set l (.gl xs)).get w,(st.set l (.gl xs)).get k,mg [w,l,k] (wrL xs ks) (st.set l (.gl xs)) (wrL ys ks),inB [w,l,k] 3 st.nx)=(some (.inst 136 [(11,.obj l)]),some (.gl ks),st.set l (.gl ys),true)
section
variable {n w l k:Nat} {st st':St} {Q:KQ} {X:KX} {xs ks:List GV}
theorem WrL.run {f:Nat} {ys:List GV} (W:WrL w l k ks st) (h:Fun n f [.obj 0,.obj 2] (wrL xs ks) .no (wrL ys ks)) (q:Q .no (st.set l (.gl ys))):CP (n+1) f [.obj w,.obj k] (st.set l (.gl xs)) Q X:=by
 have e:=W xs ys
 simp only [Prod.mk.injEq] at e
 have g:(st.set l (.gl xs)).get l=some (.gl xs):=by rw [get_set,if_pos rfl]
 refine C8 h [w,l,k] ?_ (congrArg (Prod.mk AV.no) e.2.2.1) q
 show ([AV.obj w,.obj k],[(st.set l (.gl xs)).get w,(st.set l (.gl xs)).get l,(st.set l (.gl xs)).get k],inB [w,l,k] 3 st.nx)=_
 rw [e.1,g,e.2.1,e.2.2.2]; rfl
theorem run_eq {f:Nat} {args:List AV} (e:st=st') (q:CP n f args st' Q X):CP n f args st Q X:=e▸q
theorem WrOK.gw (W:WrOK w l st) (xs:List GV):(st.set l (.gl xs)).get w=some (.inst 136 [(11,.obj l)]):=by
 have e:=W xs xs
 simp only [Prod.mk.injEq] at e
 exact e.1
theorem mod_turn {m j c f cls:Nat} {d:MdL} {R:KQ} {N:KN} (W:WrOK w l st) (hj:∀ xs,(st.set l (.gl xs)).get j=some (modO cls d.name d.key d.cb d.db f c)) (hst:∀ xs,(st.set l (.gl xs)).add (.gl ([d.key,d.cb,d.db].map .int))=st'.set l (.gl xs)) (W':WrOK w l st') (W3:WrL w l st.nx ([d.key,d.cb,d.db].map .int) st')
  (hj':∀ xs,(st'.set l (.gl xs)).get j=some (modO cls d.name d.key d.cb d.db f c)) (hc':∀ xs,(st'.set l (.gl xs)).get c=some (.gl (d.clients.map .str))) (hv:E1 st'.nx [(49,.obj m),(117,.obj w),(50,.obj j)]=[(49,.obj m),(117,.obj w),(50,.obj j)]) (hr:Rm xs (E3 d)) (ok:MdOK d)
  (q:N [(49,.obj m),(117,.obj w),(50,.obj j)] (st'.set l (.gl (xs++gi (E3 d))))):E8 (B4 tabs (CP (n+3)) fb_write_image_0) R (fun Z=>False) [(49,.obj m),(117,.obj w),(50,.obj j)] (st.set l (.gl xs)) N:=by
 obtain ⟨o1,o2,o3⟩:=ok
 rw [mod_e] at q
 refine F6 (at_mth (W.gw _) rfl (B5 (hj _) rfl (W.run rfl (text_s (bm1 hr) (by lia)) ?_)))
 refine at_q rfl (at_mth (W.gw _) rfl (B5 (hj _) rfl (B5 (hj _) rfl (B5 (hj _) rfl (run_eq (hst _) (W3.run (K8 (l:=[d.key,d.cb,d.db]) (bm2 hr) (Nat.le_of_ble_eq_true rfl)) ?_))))))
 refine at_q rfl (at_mth (W'.gw _) rfl (B5 (hj' _) rfl (at_len (k:=d.clients.length) (hc' _) (congrArg some (List.length_map ..)) (by lia) (W'.run rfl (K3 (bm3 hr)) ?_))))
 refine at_q rfl (B5 (hj' _) rfl (at_src (hc' _) rfl (texts_w (x:=119) (vs:=[(49,.obj m),(117,.obj w),(50,.obj j)]) W' hc' (fun Z=>hv) (fun Z Z Z q=>at_mth (W'.gw _) rfl q) d.clients _ (bm4 hr) (fun s hs=>Nat.le_trans (o2 s hs) (by decide)) (J8 rfl q))))
theorem wi_tail {m:Nat} {V:KV} {b:List Nat} {R:KQ} {N:KN} (W:WrOK w l st) (hm:∀ xs,(st.set l (.gl xs)).get m=some (machO V)) (ho:∀ xs,(st.set l (.gl xs)).get 9=some (.gl (V.outs.map .str))) (W3:WrL w l 10 (V.given.map .int) st) (hck:∀ b:List Nat,mg [l] ⟨[(0,.gl (gi b))],1⟩ (st.set l (.gl (gi b))) ⟨[(0,.gl (gi b))],1⟩=st.set l (.gl (gi b)))
  (hv:∀ c:Int,E1 st.nx [(49,.obj m),(117,.obj w),(120,.i c)]=[(49,.obj m),(117,.obj w),(120,.i c)]) (hv':E1 st.nx [(49,.obj m),(117,.obj w)]=[(49,.obj m),(117,.obj w)]) (hl:inB [l] 1 st.nx=true) (hz:b.length+(I0 V).length+8<=1000000) (hout:∀ s∈V.outs,s.length<=1000000) (hgl:V.outs.length<=1000000) (hgv:V.given.length<=1000000)
  (q:R (.obj l) (st.set l (.gl (gi (E4 (b++I0 V)))))):K4 (B4 tabs (CP (n+3)) (drp 5 b_write_image)) N R (fun Z=>False) [(49,.obj m),(117,.obj w)] (st.set l (.gl (gi b))):=by
 have hr:Rm (gi b) (I0 V):=by show (gi b).length+_<=_; rw [F5]; lia
 refine at_q rfl (at_mth (W.gw _) rfl (B5 (hm _) rfl (at_len (k:=V.outs.length) (ho _) (congrArg some (List.length_map ..)) hgl (W.run rfl (K3 (be1 hr)) ?_))))
 refine at_q rfl (B5 (hm _) rfl (at_src (ho _) rfl (texts_w (x:=19) (vs:=[(49,.obj m),(117,.obj w)]) W ho (fun Z=>hv') (fun Z Z Z q=>at_mth (W.gw _) rfl q) V.outs _ (be2 hr) hout ?_)))
 refine at_q rfl (at_mth (W.gw _) rfl (B5 (hm _) rfl (W3.run ((K8 (be3 hr) hgv).to (congrArg (fun x=>wrL x _) end_e)) ?_)))
 refine at_q rfl (B5 (W.gw _) rfl (C8 check_s [l] ?_ (congrArg (Prod.mk _) (hck _)) ?_))
 ·show ([AV.obj l],[(st.set l (.gl _)).get l],inB [l] 1 st.nx)=_
  rw [get_set,if_pos rfl,hl]; rfl
 obtain ⟨js,ej,lj⟩:=rangeUp_e 0 8
 refine at_q rfl (for_it (src:=.vals _) ej (bytes_w (vs:=fun c=>[(49,.obj m),(117,.obj w),(120,.i c)]) W (fun Z c=>hv _) (fun Z Z Z Z q=>at_mth (W.gw _) rfl q) js _ _ (by rw [lj,List.length_append]; lia) fun c'=>J8 rfl (B5 (W.gw _) rfl ?_)))
 rw [lj]; exact q
end
noncomputable abbrev d3 (d:MdL):AO:=.gl ([d.key,d.cb,d.db].map .int)
theorem mod_run {n m w l j c f cls:Nat} {d:MdL} {st:St} {xs:List GV} {R:KQ} {N:KN} (hr:Rm xs (E3 d)) (ok:MdOK d) (_:st.get w=some (.inst 136 [(11,.obj l)])) (e:st.set l (.gl xs)=st) (W:WrOK w l st) (hj:∀ xs,(st.set l (.gl xs)).get j=some (modO cls d.name d.key d.cb d.db f c)) (hst:∀ xs,(st.set l (.gl xs)).add (d3 d)=(st.add (d3 d)).set l (.gl xs)) (W':WrOK w l (st.add (d3 d))) (W3:WrL w l st.nx ([d.key,d.cb,d.db].map .int) (st.add (d3 d)))
  (hj':∀ xs,((st.add (d3 d)).set l (.gl xs)).get j=some (modO cls d.name d.key d.cb d.db f c)) (hc':∀ xs,((st.add (d3 d)).set l (.gl xs)).get c=some (.gl (d.clients.map .str))) (hv:E1 (st.add (d3 d)).nx [(49,.obj m),(117,.obj w),(50,.obj j)]=[(49,.obj m),(117,.obj w),(50,.obj j)])
  (q:N [(49,.obj m),(117,.obj w),(50,.obj j)] ((st.add (d3 d)).set l (.gl (xs++gi (E3 d))))):E8 (B4 tabs (CP (n+3)) fb_write_image_0) R (fun Z=>False) [(49,.obj m),(117,.obj w),(50,.obj j)] st N:=by
 have z:=mod_turn (n:=n) (R:=R) W hj hst W' W3 hj' hc' hv hr ok q
 rw [e] at z; exact z
theorem wi_run {n m w l:Nat} {V:KV} {b B:List Nat} {st:St} {xs:List GV} {R:KQ} {N:KN} (_:st.get w=some (.inst 136 [(11,.obj l)])) (hx:xs=gi b) (eb:b++I0 V=B) (e:st.set l (.gl xs)=st) (W:WrOK w l st) (hm:∀ xs,(st.set l (.gl xs)).get m=some (machO V)) (ho:∀ xs,(st.set l (.gl xs)).get 9=some (.gl (V.outs.map .str))) (W3:WrL w l 10 (V.given.map .int) st) (hck:∀ b:List Nat,mg [l] ⟨[(0,.gl (gi b))],1⟩ (st.set l (.gl (gi b))) ⟨[(0,.gl (gi b))],1⟩=st.set l (.gl (gi b)))
  (hv:∀ c:Int,E1 st.nx [(49,.obj m),(117,.obj w),(120,.i c)]=[(49,.obj m),(117,.obj w),(120,.i c)]) (hv':E1 st.nx [(49,.obj m),(117,.obj w)]=[(49,.obj m),(117,.obj w)]) (hl:inB [l] 1 st.nx=true) (hz:B.length+8<=1000000) (hout:∀ s∈V.outs,s.length<=1000000) (hgl:V.outs.length<=1000000) (hgv:V.given.length<=1000000)
  (q:R (.obj l) (st.set l (.gl (gi (E4 B))))):K4 (B4 tabs (CP (n+3)) (drp 5 b_write_image)) N R (fun Z=>False) [(49,.obj m),(117,.obj w)] st:=by
 subst eb
 have z:=wi_tail (n:=n) (N:=N) (R:=R) W hm ho W3 hck hv hv' hl (by rw [List.length_append] at hz; exact hz) hout hgl hgv q
 rw [<- hx,e] at z; exact z
section
variable {n cls:Nat} {V:KV} {ws:List Int}
theorem bcons {xs:List GV} {d:MdL} {r:List MdL} {e:List Nat} (h:Rm xs ((d::r).flatMap E3++e)):Rm xs (E3 d)/\Rm (xs++gi (E3 d)) (r.flatMap E3++e):=by
 rw [List.flatMap_cons,List.append_assoc] at h; exact ⟨h.fst,h.snd⟩
theorem bw (ds:List MdL) (hz:(A3 V ws ds).length+8<=1000000):Rm [] (E0 V)/\Rm ([]++gi (E0 V)) (encs ws)/\Rm ([]++gi (E0 V)++gi (encs ws)) (enc ds.length)/\Rm ([]++gi (E0 V)++gi (encs ws)++gi (enc ds.length)) (ds.flatMap E3++I0 V):=by
 have h:Rm [] (A3 V ws ds):=by show 0+_<=_; lia
 have h2:=h.snd.snd
 unfold imgMods at h2
 rw [List.append_assoc (enc _)] at h2
 exact ⟨h.fst,h.snd.fst,h2.fst,h2.snd⟩
theorem ib (ds:List MdL):ds.foldl (fun b d=>b++E3 d) (E0 V++encs ws++enc ds.length)++I0 V=A3 V ws ds:=by
 have h:∀ (ds:List MdL) b,ds.foldl (fun b d=>b++E3 d) b=b++ds.flatMap E3:=fun ds=>by
  induction ds with
  | nil=>exact fun b=>(List.append_nil b).symm
  | cons d ds ih=>intro b; rw [List.foldl_cons,ih,List.flatMap_cons,List.append_assoc]
 rw [h,A3,imgMods]; simp only [List.append_assoc]
theorem write_image_s (ds:List MdL) (h3:ds.length<=3) (hR:RwL V.rows ws) (hz:(A3 V ws ds).length+8<=1000000) (hw:V.words.length < 64) (hf:V.free.length<=1000) (hrl:V.rows.length<=1000000) (hwl:ws.length<=1000000) (hd:∀ d∈ds,MdOK d) (hout:∀ s∈V.outs,s.length<=1000000) (hgl:V.outs.length<=1000000) (hgv:V.given.length<=1000000) :
  Fun (n+9) 934 [.obj 0] (imS cls V ds) (.obj (11+12*ds.length)) ⟨(11+12*ds.length,.gl (gi (E4 (A3 V ws ds))))::(imS cls V ds).sto,12+12*ds.length⟩:=by
 obtain ⟨b1,b2,b3,b4⟩:=bw ds hz
 rcases ds with _ | ⟨a,_ | ⟨b,_ | ⟨c,_ | ⟨d,r⟩⟩⟩⟩
 case nil=>
  dsimp only [List.length_cons,List.length_nil,Nat.reduceMul,Nat.reduceAdd,imS,ldO,ldL,mdS]
  refine J2 rfl rfl rfl ?_
  refine A0 writer_s [_] ?_
  refine A1 ?_
  refine A0 (write_machine_s hw b1 hf) [_,_,_,_,_,_,_,_,_,_,_,_,_] ?_
  refine A1 ?_
  refine B0 (L4 hrl) ?_
  refine enc_comp rfl rfl V.rows ws [] hR (B3 (B8 _) ?_)
  refine A0 (K8 (l:=ws) b2 hwl) [_,_,_] ?_
  refine A1 ?_
  refine A0 (K3 b3) [_,_] ?_
  refine A1 ?_
  refine J4 ?_
  refine L7 ?_
  refine wi_run (n:=n+6) rfl (gi2 (gi2 rfl)) (ib []) rfl (fun Z Z=>rfl) (fun Z=>rfl) (fun Z=>rfl) (fun Z Z=>rfl) (fun Z=>rfl) (fun Z=>rfl) rfl rfl hz hout hgl hgv ?_
  exact ⟨[0,1,2,3,4,5,6,7,8,9,10,12],rfl⟩
 case cons.nil=>
  dsimp only [List.length_cons,List.length_nil,Nat.reduceMul,Nat.reduceAdd,imS,ldO,ldL,mdS]
  refine J2 rfl rfl rfl ?_
  refine A0 writer_s [_] ?_
  refine A1 ?_
  refine A0 (write_machine_s hw b1 hf) [_,_,_,_,_,_,_,_,_,_,_,_,_] ?_
  refine A1 ?_
  refine B0 (L4 hrl) ?_
  refine enc_comp rfl rfl V.rows ws [] hR (B3 (B8 _) ?_)
  refine A0 (K8 (l:=ws) b2 hwl) [_,_,_] ?_
  refine A1 ?_
  refine A0 (K3 b3) [_,_] ?_
  refine A1 ?_
  refine J4 ?_
  refine B6 ?_
  refine mod_run (n:=n+6) (bcons b4).1 (hd _ (.head _)) rfl rfl (fun Z Z=>rfl) (fun Z=>rfl) (fun Z=>rfl) (fun Z Z=>rfl) (fun Z Z=>rfl) (fun Z=>rfl) (fun Z=>rfl) rfl ?_
  refine And.intro rfl ?_
  refine M3 ?_
  replace b4:=(bcons b4).2
  refine L7 ?_
  refine wi_run (n:=n+6) rfl (gi2 (gi2 (gi2 rfl))) (ib [a]) rfl (fun Z Z=>rfl) (fun Z=>rfl) (fun Z=>rfl) (fun Z Z=>rfl) (fun Z=>rfl) (fun Z=>rfl) rfl rfl hz hout hgl hgv ?_
  exact ⟨[0,1,2,3,4,5,6,7,8,9,10,11,12,13,14,15,16,17,18,19,20,21,22,24],rfl⟩
 case cons.cons.nil=>
  dsimp only [List.length_cons,List.length_nil,Nat.reduceMul,Nat.reduceAdd,imS,ldO,ldL,mdS]
  refine J2 rfl rfl rfl ?_
  refine A0 writer_s [_] ?_
  refine A1 ?_
  refine A0 (write_machine_s hw b1 hf) [_,_,_,_,_,_,_,_,_,_,_,_,_] ?_
  refine A1 ?_
  refine B0 (L4 hrl) ?_
  refine enc_comp rfl rfl V.rows ws [] hR (B3 (B8 _) ?_)
  refine A0 (K8 (l:=ws) b2 hwl) [_,_,_] ?_
  refine A1 ?_
  refine A0 (K3 b3) [_,_] ?_
  refine A1 ?_
  refine J4 ?_
  refine B6 ?_
  refine mod_run (n:=n+6) (bcons b4).1 (hd _ (.head _)) rfl rfl (fun Z Z=>rfl) (fun Z=>rfl) (fun Z=>rfl) (fun Z Z=>rfl) (fun Z Z=>rfl) (fun Z=>rfl) (fun Z=>rfl) rfl ?_
  refine And.intro rfl ?_
  refine M3 ?_
  replace b4:=(bcons b4).2
  refine B6 ?_
  refine mod_run (n:=n+6) (bcons b4).1 (hd _ (.tail _ (.head _))) rfl rfl (fun Z Z=>rfl) (fun Z=>rfl) (fun Z=>rfl) (fun Z Z=>rfl) (fun Z Z=>rfl) (fun Z=>rfl) (fun Z=>rfl) rfl ?_
  refine And.intro rfl ?_
  refine M3 ?_
  replace b4:=(bcons b4).2
  refine L7 ?_
  refine wi_run (n:=n+6) rfl (gi2 (gi2 (gi2 (gi2 rfl)))) (ib [a,b]) rfl (fun Z Z=>rfl) (fun Z=>rfl) (fun Z=>rfl) (fun Z Z=>rfl) (fun Z=>rfl) (fun Z=>rfl) rfl rfl hz hout hgl hgv ?_
  exact ⟨[0,1,2,3,4,5,6,7,8,9,10,11,12,13,14,15,16,17,18,19,20,21,22,23,24,25,26,27,28,29,30,31,32,33,34,36],rfl⟩
 case cons.cons.cons.nil=>
  dsimp only [List.length_cons,List.length_nil,Nat.reduceMul,Nat.reduceAdd,imS,ldO,ldL,mdS]
  refine J2 rfl rfl rfl ?_
  refine A0 writer_s [_] ?_
  refine A1 ?_
  refine A0 (write_machine_s hw b1 hf) [_,_,_,_,_,_,_,_,_,_,_,_,_] ?_
  refine A1 ?_
  refine B0 (L4 hrl) ?_
  refine enc_comp rfl rfl V.rows ws [] hR (B3 (B8 _) ?_)
  refine A0 (K8 (l:=ws) b2 hwl) [_,_,_] ?_
  refine A1 ?_
  refine A0 (K3 b3) [_,_] ?_
  refine A1 ?_
  refine J4 ?_
  refine B6 ?_
  refine mod_run (n:=n+6) (bcons b4).1 (hd _ (.head _)) rfl rfl (fun Z Z=>rfl) (fun Z=>rfl) (fun Z=>rfl) (fun Z Z=>rfl) (fun Z Z=>rfl) (fun Z=>rfl) (fun Z=>rfl) rfl ?_
  refine And.intro rfl ?_
  refine M3 ?_
  replace b4:=(bcons b4).2
  refine B6 ?_
  refine mod_run (n:=n+6) (bcons b4).1 (hd _ (.tail _ (.head _))) rfl rfl (fun Z Z=>rfl) (fun Z=>rfl) (fun Z=>rfl) (fun Z Z=>rfl) (fun Z Z=>rfl) (fun Z=>rfl) (fun Z=>rfl) rfl ?_
  refine And.intro rfl ?_
  refine M3 ?_
  replace b4:=(bcons b4).2
  refine B6 ?_
  refine mod_run (n:=n+6) (bcons b4).1 (hd _ (.tail _ (.tail _ (.head _)))) rfl rfl (fun Z Z=>rfl) (fun Z=>rfl) (fun Z=>rfl) (fun Z Z=>rfl) (fun Z Z=>rfl) (fun Z=>rfl) (fun Z=>rfl) rfl ?_
  refine And.intro rfl ?_
  refine M3 ?_
  replace b4:=(bcons b4).2
  refine L7 ?_
  refine wi_run (n:=n+6) rfl (gi2 (gi2 (gi2 (gi2 (gi2 rfl))))) (ib [a,b,c]) rfl (fun Z Z=>rfl) (fun Z=>rfl) (fun Z=>rfl) (fun Z Z=>rfl) (fun Z=>rfl) (fun Z=>rfl) rfl rfl hz hout hgl hgv ?_
  exact ⟨[0,1,2,3,4,5,6,7,8,9,10,11,12,13,14,15,16,17,18,19,20,21,22,23,24,25,26,27,28,29,30,31,32,33,34,35,36,37,38,39,40,41,42,43,44,45,46,48],rfl⟩
 case cons.cons.cons.cons=>exact absurd h3 (by rw [List.length_cons,List.length_cons,List.length_cons,List.length_cons]; lia)
end
noncomputable def led:List Nat->Int
 | []=>0
 | a::r=>a+256*led r
theorem led_ckb (k:Nat):∀ c:Int,0<=c->c < 256 ^ k->led (ckb k c)=c:=by
 induction k with
 | zero=>exact fun c h h'=>by simp only [Int.pow_zero] at h'; show (0:Int)=c; lia
 | succ k ih=>
  intro c h h'
  rw [Int.pow_succ] at h'
  have e1:=Int.fdiv_eq_ediv_of_nonneg c (b:=256) (by decide)
  have e2:=Int.fmod_eq_emod_of_nonneg c (b:=256) (by decide)
  show ((c.fmod 256).toNat:Int)+256*led (ckb k (c.fdiv 256))=c
  rw [e1,e2,ih (c / 256) (by lia) (by lia)]; lia
theorem at_subI {st:St} {i:Nat} {k:Int} {l:List GV} {Q:AV->Prop} (h:st.get i=some (.gl l)) (q:subG l k Q):subV st (.obj i) (.i k) Q:=by
 show match st.get i with | some (.gl l)=>subG l k Q | some (.ol l)=>subA l k Q | some (.di l)=>∃ v,E2 k l=some v/\Q (.i v) | _=>False
 rw [h]; exact q
theorem at_upto {st:St} {i a:Nat} {l r:List GV} {Q:KQ} (h:st.get i=some (.gl l)) (hl:l.length<=1000000) (e:l=r) (ha:r.take a=t) (hk:a<=1000000) (q:Q (.obj st.nx) (st.add (.gl t))):sliceV true st (.obj i) (.i a) Q:=by
 subst e ha
 refine I8 (p:=-1000000<=(a:Int)/\(a:Int)<=1000000) ⟨by lia,by lia⟩ ?_
 show match st.get i with | some (.gl l)=>chk (Nat.ble l.length 1000000) (Q (.obj st.nx) (st.add (.gl (slc true (a:Int) l)))) | some (.ol l)=>chk (Nat.ble l.length 1000000) (Q (.obj st.nx) (st.add (.ol (slc true (a:Int) l)))) | _=>False
 rw [h]
 refine B0 hl ?_
 rw [show slc true (a:Int) l=l.take a from by show takeTo _ _=_; unfold takeTo; rw [if_neg (by lia)]; rfl]; exact q
theorem rangeDown_e (a:Int) (n:Nat):rangeDown a (n+1)=.i a::rangeDown (a - 1) n:=by
 rw [rangeDown,List.range_succ_eq_map,List.map_cons,List.map_map,rangeDown,Int.natCast_zero,Int.sub_zero]
 refine congrArg _ (List.map_congr_left fun k Z=>congrArg AV.i ?_)
 show a - ((k+1:Nat):Int)=_
 lia
section
variable {cl:A7} {R:KQ} {X:KX} {N:KN} {d:Nat} {st:St} {l:List Nat} {k:Int} {is:List AV}
theorem ck1_loop (hg:st.get d=some (.gl (gi l))) (hc:st.cut st.nx=st) (hv:E1 st.nx [(22,.obj d),(123,.i k)]=[(22,.obj d),(123,.i k)]) (hb:∀ x∈l,x<=255) (hl:l.length<=1000000) (q:N [(22,.obj d),(123,.i k)] st) (its:List Nat):(∀ a∈its,a < l.length) ->
  H4 (.vals is) 30 true st.nx (E8 (B4 tabs cl fb_checked_body_0) R X) N (its.map fun a:Nat=>.i (0+(a:Int))) [(22,.obj d),(123,.i k)] st:=by
 induction its with
 | nil=>exact fun Z=>q
 | cons a its ih=>
  intro h
  have la:=h a (.head _)
  have g:=gi_at (List.getElem?_eq_getElem la)
  have hx:¬ (255:Int) < l[a]:=by have:=hb _ (List.getElem_mem la); lia
  refine F1 ?_
  show E8 _ _ _ (put 30 (.i (0+(a:Int))) _) _ _
  rw [Int.zero_add]
  refine at_subI hg (at_sub g (by lia) (at_subI hg (at_sub g (by lia) (C5 (decide_eq_false hx) ?_))))
  show H4 _ _ _ _ _ _ _ (E1 _ _) (St.cut _ _)
  rw [hc]
  exact hv.symm▸ih fun a ha=>h a (.tail _ ha)
theorem ck2_loop {b e:List Nat} (hg:st.get d=some (.gl (gi (b++e)))) (hc:st.cut st.nx=st) (hv:∀ j:Int,E1 st.nx [(22,.obj d),(123,.i k),(120,.i j)]=[(22,.obj d),(123,.i k),(120,.i j)]) (hl:(b++e).length<=1000000) (q:N [(22,.obj d),(123,.i k),(120,.i (led e))] st) (r:List Nat):∀ s,e=r.reverse++s ->
  H4 (.vals is) 30 true st.nx (E8 (B4 tabs cl fb_checked_body_1) R X) N (rangeDown ((b.length:Int)+r.length - 1) r.length) [(22,.obj d),(123,.i k),(120,.i (led s))] st:=by
 induction r with
 | nil=>intro s h; cases h; exact q
 | cons x r ih=>
  intro s h
  rw [List.reverse_cons,List.append_assoc] at h
  have z:=ih (x::s) h
  have g:(b++e)[b.length+r.length]?=some x:=by
   rw [h,List.getElem?_append_right (by lia),Nat.add_sub_cancel_left,<- List.length_reverse,List.getElem?_append_right (Nat.le_refl _),Nat.sub_self]; rfl
  have la:=(List.getElem?_eq_some_iff.mp g).1
  rw [List.length_cons,rangeDown_e,show (b.length:Int)+(r.length+1:Nat) - 1=(b.length+r.length:Nat) from by lia,show ((b.length+r.length:Nat):Int) - 1=b.length+r.length - 1 from by lia]
  refine F1 ?_
  refine at_subI hg (at_sub (gi_at g) (by lia) ?_)
  show H4 _ _ _ _ _ _ _ (E1 _ _) (St.cut _ _)
  rw [hc]
  rw [show led (x::s)=led s*256+x from by show (x:Int)+256*led s=_; lia] at z
  exact (hv _).symm▸z
end
section
variable {n d:Nat} {st:St} {Q:KQ} {X:KX} {b e:List Nat}
theorem checked_i (hg:st.get d=some (.gl (gi (b++e)))) (hg2:(st.add (.gl (gi b))).get d=some (.gl (gi (b++e)))) (hc:st.cut st.nx=st) (hv:∀ k j:Int,(E1 st.nx [(22,.obj d),(123,.i k)],E1 st.nx [(22,.obj d),(123,.i k),(120,.i j)])=([(22,.obj d),(123,.i k)],[(22,.obj d),(123,.i k),(120,.i j)]))
  (hm:(got (st.add (.gl (gi b))) (ren (st.nx+1) [st.nx]) [(0,.gl (gi b))],inB [st.nx] 1 (st.nx+1),mg [st.nx] ⟨[(0,.gl (gi b))],1⟩ (st.add (.gl (gi b))) ⟨[(0,.gl (gi b))],1⟩)=([some (.gl (gi b))],true,st.add (.gl (gi b))))
  (h8:e.length=8) (hb:∀ x∈b++e,x<=255) (hl:(b++e).length<=1000000)
  (q:led e=ckn b->Q (.obj (st.nx+1)) ((st.add (.gl (gi b))).add (.gl (gi b))))
  (x:led e≠ckn b->X (st.add (.gl (gi b)))):inl tabs fnL (CP (n+1)) 941 [.obj d] st Q X:=by
 have le:(b++e).length=b.length+8:=by rw [List.length_append,h8]
 obtain ⟨L,eL⟩:∃ L,L=b.length+8:=⟨_,rfl⟩
 have lg:(gi (b++e)).length=L:=by rw [F5,le,eL]
 have hk:L<=1000000:=by rw [eL,<- le]; exact hl
 refine F9 rfl rfl ?_
 refine at_len hg (congrArg some lg) hk ?_
 have hL:(L:Int) - 8=b.length:=by lia
 refine at_q (vs':=[(22,.obj d),(123,.i b.length)]) (by rw [<- hL]; rfl) ?_
 refine J8 rfl ?_
 refine F6 (at_len hg (congrArg some lg) hk ?_)
 refine I8 ⟨by lia,by lia⟩ ?_
 refine ck1_loop hg hc (congrArg Prod.fst (hv _ 0)) hb hl ?_ _ (fun a h=>by rw [le,<- eL]; exact List.mem_range.mp h)
 refine at_q rfl ?_
 refine at_q rfl (at_len hg (congrArg some lg) hk ?_)
 refine I8 ⟨rfl,by lia,by lia,by lia,by lia⟩ ?_
 rw [show ((L:Int) - 1 - (b.length - 1)).toNat=8 from by lia,<- h8]
 show H4 _ _ _ _ _ _ _ [(22,.obj d),(123,.i b.length),(120,.i (led []))] _
 rw [<- List.length_reverse (as:=e),show (L:Int) - 1=(b.length:Int)+e.reverse.length - 1 from by rw [List.length_reverse]; lia]
 refine ck2_loop hg hc (fun j=>congrArg Prod.snd (hv _ j)) hl ?_ e.reverse [] (by rw [List.reverse_reverse,List.append_nil])
 have et:(gi (b++e)).take b.length=gi b:=by rw [E5,<- F5 b,List.take_left]
 have lq:(gi (b++e)).length<=1000000:=lg.symm▸hk
 simp only [Prod.mk.injEq] at hm
 refine at_q rfl (at_upto hg lq rfl et (by lia) (C8 check_s [st.nx] ?_ (congrArg (Prod.mk _) hm.2.2) ?_))
 ·show ([AV.obj st.nx],_,_)=([AV.obj st.nx],[some (AO.gl (gi b))],true)
  rw [<- hm.1,<- hm.2.1]; rfl
 by_cases c:led e=ckn b
 ·refine C5 (b:=!(led e==ckn b)) (by rw [beq_iff_eq.mpr c]; rfl) ?_
  refine J8 rfl (at_upto hg2 lq rfl et (by lia) (q c))
 ·refine I7 (b:=!(led e==ckn b)) (by rw [beq_eq_false_iff_ne.mpr c]; rfl) ?_
  exact x c
theorem J7 (h8:e.length=8) (hb:∀ x∈b++e,x<=255) (hl:(b++e).length<=1000000) (he:led e=ckn b):Fun (n+1) 941 [.obj 0] ⟨[(0,.gl (gi (b++e)))],1⟩ (.obj 1) ⟨[(1,.gl (gi b)),(0,.gl (gi (b++e)))],2⟩:=
 ⟨rfl,checked_i rfl rfl rfl (fun Z Z=>rfl) rfl h8 hb hl (fun Z=>⟨[0,2],rfl⟩) fun h=>absurd he h⟩
end
noncomputable def rdW (d:List (Int × Int)) (ks:List Int):List (Int × Int):=ks.map fun k=>(k,H0 d k)
noncomputable abbrev bare (V:KV) (w:List (Int × Int)):KV:=⟨V.top,V.dl,V.sl,V.size,V.limit,V.steps,V.ha,V.hb,w,V.free,[H6],[],[],List.replicate 16 0,0,0,0,0,0,0⟩
noncomputable abbrev rmL (l:List Nat) (p:Nat) (V:KV):List (Nat × AO):=[(2,.inst 892 [(92,.i V.top),(94,.i V.dl),(98,.i V.sl),(55,.obj 3),(100,.obj 5),(101,.obj 7),(50,.obj 10),(11,.obj 11),(103,.obj 12),(57,.i V.limit),(104,.i V.steps)]),(3,memO V.size 4),(4,.di V.words),(5,heapO 3 V.ha V.hb 6),(6,.gl (V.free.map .int)),(7,cpuO 3 8 9 V),(8,.gl (V.regs.map .int)),(9,.gl V.rows),(10,.gl []),(11,.gl (V.outs.map .str)),(12,.gl (V.given.map .int)),(0,rdO 1 p),(1,.gl (gi l))]
section
variable {cl:A7} {R:KQ} {X:KX} {N:KN} {st:St}
theorem nonneg_loop {i:Nat} {o:AO} {vs:A2} (hs:st.get i=some o) (hc:st.cut st.nx=st) (hv:∀ z:Int,E1 st.nx (kpVs vs (put 54 (.i z) vs))=vs) (hg:∀ v:AV,B2 54 (put 54 v vs)=some v) (q:N vs st) (zs:List Int):(∀ z∈zs,0<=z) ->
  H4 (.lst i o) 54 true st.nx (E8 (B4 tabs cl fb_read_machine_0) R X) N ((zs.map .int).map .g) vs st:=by
 induction zs with
 | nil=>exact fun Z=>q
 | cons z zs ih=>
  intro h
  have hz:¬ z < 0:=by have:=h z (.head _); lia
  refine F1 (B3 (hg _) (C5 (decide_eq_false hz) (And.intro hs ?_)))
  show H4 _ _ _ _ _ _ _ (E1 _ _) (St.cut _ _)
  rw [hc,hv]
  exact ih fun z hz=>h z (.tail _ hz)
theorem store_new {d:List (Int × Int)} {k v:Int} (h:k∉d.map (·.1)):H7 k v d=d++[(k,v)]:=by
 unfold H7
 rw [if_neg]
 intro c
 obtain ⟨p,hp,e⟩:=List.any_eq_true.mp c
 exact h (List.mem_map.mpr ⟨p,hp,of_decide_eq_true e⟩)
end
section
variable {n:Nat} {R:KQ} {X:KX} {N:KN} {st:St} {l:List Nat} {i:Nat} {o om oe:AO}
noncomputable abbrev sw (st:St) (d:List (Int × Int)) (p:Nat):St:=(st.set 15 (.di d)).set 0 (rdO 1 p)
theorem at_di {a:Nat} {d:List (Int × Int)} {k v:Int} {Q:St->Prop} (h:st.get a=some (.di d)) (hk:k∉d.map (·.1)) (hd:d.length < 1000000) (q:Q (st.set a (.di (d++[(k,v)])))):setSubI st a k (.i v) Q:=by
 show (match st.get a with | some (.gl l)=>gvV (.i v) fun w=>chk (decide (0<=k/\k.toNat < l.length/\k<=1000000)) (Q (st.set a (.gl (l.set k.toNat w)))) | some (.di l)=>intV (.i v) fun w=>chk (Nat.ble (l.length+1) 1000000) (Q (st.set a (.di (H7 k w l)))) | _=>False)
 rw [h]
 refine B0 hd ?_
 rw [store_new hk]; exact q
theorem rw_loop (dd:List (Int × Int)) (hl:l.length<=1000000) (hs:∀ d p,(sw st d p).get i=some o) (hm:∀ d p,(sw st d p).get 4=some om) (he:∀ d p,(sw st d p).get 5=some oe) (em:fld om 55=some (.obj 5)) (ee:fld oe 89=some (.obj 15))
  (hg:∀ d p q,((sw st d p).get 0,(sw st d p).get 1,(sw st d p).get 15,inB [0,1] 2 st.nx,mg [0,1] (rdS l p) (sw st d p) (rdS l q),(sw st d p).cut st.nx)=(some (rdO 1 p),some (.gl (gi l)),some (.di d),true,sw st d q,sw st d p))
  (hd:∀ d e p,(sw st d p).set 15 (.di e)=sw st e p) {a b:Nat} (hv:E1 st.nx [(125,.obj 0),(124,.obj a),(58,.obj b),(49,.obj 4)]=[(125,.obj 0),(124,.obj a),(58,.obj b),(49,.obj 4)]) (ts:List Int):∀ (ds:List Int) (p:Nat) (rest:List Nat),(ds++ts).Nodup->ds.length+ts.length<=1000000->l.drop p=vals dd ts++rest ->
  N [(125,.obj 0),(124,.obj a),(58,.obj b),(49,.obj 4)] (sw st (rdW dd (ds++ts)) (p+(vals dd ts).length)) ->
  H4 (.lst i o) 30 true st.nx (E8 (B4 tabs (CP (n+3)) fb_read_machine_1) R X) N ((ts.map .int).map .g) [(125,.obj 0),(124,.obj a),(58,.obj b),(49,.obj 4)] (sw st (rdW dd ds) p):=by
 induction ts with
 | nil=>intro ds p _ _ _ _ q; rw [List.append_nil] at q; exact q
 | cons k ts ih=>
  intro ds p rest hn hz hb q
  have z:=ih (ds++[k]) (p+(enc (H0 dd k)).length) rest (by rw [List.append_assoc]; exact hn) (by rw [List.length_append,List.length_singleton]; rw [List.length_cons] at hz; lia)
  rw [vals,List.flatMap_cons,List.append_assoc] at hb
  rw [vals,List.flatMap_cons,List.length_append,<- Nat.add_assoc] at q
  rw [List.append_assoc] at z
  have z:=z (drop_drop hb) q
  rw [rdW,List.map_append] at z
  have g:=fun d p q=>hg d p q
  simp only [Prod.mk.injEq] at g
  have nk:k∉(rdW dd ds).map (·.1):=by
   rw [rdW,List.map_map]
   intro h
   obtain ⟨j,hj,e⟩:=List.mem_map.mp h
   exact (List.nodup_append.mp hn).2.2 j hj k (.head _) e
  refine F1 (at_mth (g _ p p).1 rfl (C8 (rnumber_s hb hl) [0,1] ?_ (congrArg (Prod.mk _) (g _ _ _).2.2.2.2.1) (B5 (hm _ _) em (B5 (he _ _) ee (at_di (g _ _ p).2.2.1 nk (by rw [rdW,List.length_map]; rw [List.length_cons] at hz; lia) ?_)))))
  ·show ([AV.obj 0],[(sw st (rdW dd ds) p).get 0,(sw st (rdW dd ds) p).get 1],inB [0,1] 2 st.nx)=_
   rw [(g _ p p).1,(g _ p p).2.1,(g [] p p).2.2.2.1]; rfl
  rw [hd]
  refine And.intro (hs _ _) ?_
  show H4 _ _ _ _ _ _ _ (E1 _ _) (St.cut _ _)
  rw [(g _ _ p).2.2.2.2.2]
  exact hv.symm▸z
theorem rw_run {dd:List (Int × Int)} {ts:List Int} {rest:List Nat} {p:Nat} (_:st.get 0=some (rdO 1 p)) (e:sw st [] p=st) (hl:l.length<=1000000) (hs:∀ d p,(sw st d p).get i=some o) (hm:∀ d p,(sw st d p).get 4=some om) (he:∀ d p,(sw st d p).get 5=some oe) (em:fld om 55=some (.obj 5)) (ee:fld oe 89=some (.obj 15))
  (hg:∀ d p q,((sw st d p).get 0,(sw st d p).get 1,(sw st d p).get 15,inB [0,1] 2 st.nx,mg [0,1] (rdS l p) (sw st d p) (rdS l q),(sw st d p).cut st.nx)=(some (rdO 1 p),some (.gl (gi l)),some (.di d),true,sw st d q,sw st d p))
  (hd:∀ d e p,(sw st d p).set 15 (.di e)=sw st e p) {a b:Nat} (hv:E1 st.nx [(125,.obj 0),(124,.obj a),(58,.obj b),(49,.obj 4)]=[(125,.obj 0),(124,.obj a),(58,.obj b),(49,.obj 4)]) (hn:ts.Nodup) (hz:ts.length<=1000000) (hb:l.drop p=vals dd ts++rest)
  (q:N [(125,.obj 0),(124,.obj a),(58,.obj b),(49,.obj 4)] (sw st (rdW dd ts) (p+(vals dd ts).length))):H4 (.lst i o) 30 true st.nx (E8 (B4 tabs (CP (n+3)) fb_read_machine_1) R X) N ((ts.map .int).map .g) [(125,.obj 0),(124,.obj a),(58,.obj b),(49,.obj 4)] st:=by
 have z:=rw_loop (n:=n) (R:=R) (X:=X) (N:=N) dd hl hs hm he em ee hg hd hv ts [] p rest hn (by rw [List.length_nil]; lia) hb q
 rw [show sw st (rdW dd []) p=st from e] at z; exact z
end
structure Dims (V:KV) (a b c:Int):Prop where
 dl:V.dl=64+16*c
 sl:V.sl=64+16*c+16*a+16
 size:V.size=64+16*c+16*a+16+16*b
 ha:V.ha=64+16*c
 hb:V.hb=64+16*c+16*a
section
variable {n p:Nat} {V:KV} {l rest:List Nat} {a b c:Int}
theorem Dims.sizes (D:Dims V a b c):sizes V=[16*c,16*a,16*b,V.top,V.limit,V.steps]:=by
 unfold Mine.sizes
 rw [D.dl,D.sl,D.size,D.ha,D.hb,show 64+16*c - 64=16*c from by lia,show 64+16*c+16*a - (64+16*c)=16*a from by lia,show 64+16*c+16*a+16+16*b - (64+16*c+16*a+16)=16*b from by lia]
theorem G6 {q:Nat} {ks:List Int} (e:p+(encs ks).length=q) (hb:l.drop p=encs ks++rest) (hl:l.length<=1000000):Fun (n+4) 201 [.obj 0] (rdS l p) (.obj 2) (rdR l q (ks.map .int)):=e▸rnumbers_s hb hl
theorem E6 (hb:l.drop p=E0 V++rest) (hl:l.length<=1000000) (Dm:Dims V a b c) (ha:1<=a) (hb0:0<=b) (hc:0<=c) (hU:16*a+16*b+16*c < 4294967000) (ht:0<=V.top) (hL:0<=V.limit) (hs:0<=V.steps) (F:FOK V.free) (hp:(places V.words).Nodup) (hw:V.words.length < 64) :
  Fun (n+5) 948 [.obj 0] (rdS l p) (.obj 2) ⟨rmL l (p+(E0 V).length) (bare V (rdW V.words (places V.words))),13⟩:=by
 obtain ⟨il,ifr,hM,-,-,-⟩:=machine_init_s ha hb0 hc hU
 rw [E0,List.append_assoc,List.append_assoc,List.append_assoc] at hb
 have hb1:=drop_drop hb
 have hb2:=drop_drop hb1
 have hb3:=drop_drop hb2
 have e:p+(encs (sizes V)).length+(encs V.free).length+(encs (places V.words)).length+(vals V.words (places V.words)).length=p+(E0 V).length:=by
  rw [E0,List.length_append,List.length_append,List.length_append]; lia
 rw [<- e]
 rw [Dm.sizes] at hb
 have hf:V.free.length=4:=F.1
 have hn:∀ z∈sizes V,0<=z:=by
  rw [Dm.sizes]; intro z hz
  simp only [List.mem_cons,List.not_mem_nil,or_false] at hz
  rcases hz with rfl | rfl | rfl | rfl | rfl | rfl<;>lia
 rw [Dm.sizes] at hn hb1 hb2 hb3 ⊢
 generalize e1:p+(encs [16*c,16*a,16*b,V.top,V.limit,V.steps]).length=p1 at hb1 hb2 hb3 ⊢
 generalize e2:p1+(encs V.free).length=p2 at hb2 hb3 ⊢
 generalize e3:p2+(encs (places V.words)).length=p3 at hb3 ⊢
 rw [show bare V (rdW V.words (places V.words))=⟨V.top,64+16*c,64+16*c+16*a+16,64+16*c+16*a+16+16*b,V.limit,V.steps,64+16*c,64+16*c+16*a,rdW V.words (places V.words),V.free,[H6],[],[],List.replicate 16 0,0,0,0,0,0,0⟩ from by rw [bare,Dm.dl,Dm.sl,Dm.size,Dm.ha,Dm.hb]]
 refine J2 rfl rfl rfl ?_
 refine A0 (G6 e1 hb hl) [0,1] ?_
 refine A1 ?_
 refine A0 (G6 e2 hb1 hl) [0,1] ?_
 refine A1 ?_
 have hg:(V.free.map GV.int).length=4:=(List.length_map _).trans hf
 refine B0 (a:=(V.free.map GV.int).length) (by rw [hg]; decide) ?_
 rw [hg]
 refine A1 ?_
 refine nonneg_loop rfl rfl (fun Z=>rfl) (fun Z=>rfl) ?_ _ hn
 refine A1 ?_
 refine A0 (hM n V.limit) [4] ?_
 refine A1 ?_
 refine A1 ?_
 refine A1 ?_
 refine A1 ?_
 refine A0 (G6 e3 hb2 hl) [0,1] ?_
 have hz:(places V.words).length<=1000000:=by
  have:=List.length_filter_le (nz V.words) (K1 (V.words.map (·.1)))
  rw [sortInts_len,List.length_map] at this
  exact Nat.le_trans this (by lia)
 refine rw_run (n:=n+2) rfl rfl hl (fun Z Z=>rfl) (fun Z Z=>rfl) (fun Z Z=>rfl) rfl rfl (fun Z Z Z=>rfl) (fun Z Z Z=>rfl) rfl hp hz hb3 ?_
 refine A1 ?_
 exact J8 rfl ⟨[0,1,4,5,15,7,3,9,10,11,12,13,14],rfl⟩
end
noncomputable def RdOK (r g:Nat) (l:List Nat) (st:St):Prop:=∀ p q,((st.set r (rdO g p)).get r,(st.set r (rdO g p)).get g,inB [r,g] 2 st.nx,mg [r,g] (rdS l p) (st.set r (rdO g p)) (rdS l q),(st.set r (rdO g p)).cut st.nx)=(some (rdO g p),some (.gl (gi l)),true,st.set r (rdO g q),st.set r (rdO g p))
section
variable {n r g p q f:Nat} {l:List Nat} {st:St} {Q:KQ} {X:KX}
theorem RdOK.run {v:AV} (W:RdOK r g l st) (hv:v.rn (ren st.nx [r,g])=v) (h:Fun n f [.obj 0] (rdS l p) v (rdS l q)) (k:Q v (st.set r (rdO g q))):CP (n+1) f [.obj r] (st.set r (rdO g p)) Q X:=by
 have e:=W p q
 simp only [Prod.mk.injEq] at e
 refine C8 h [r,g] ?_ (congr (congrArg Prod.mk hv) e.2.2.2.1) k
 show ([AV.obj r],[(st.set r (rdO g p)).get r,(st.set r (rdO g p)).get g],inB [r,g] 2 st.nx)=_
 rw [e.1,e.2.1,e.2.2.1]; rfl
theorem rtexts_c {vs:A2} {is:List AV} {K:KL} (W:RdOK r g l st) (hv:∀ v,B2 125 (put 122 v vs)=some (.obj r)) (hl:l.length<=1000000) (todo:List (List Nat)):∀ (its:List Int) (done:List (List Nat)) (p:Nat) (rest:List Nat),its.length=todo.length->l.drop p=todo.flatMap B9++rest->(∀ s∈todo,∀ c∈s,c<=1114111) ->
  K (((done++todo).map .str).map .g) (st.set r (rdO g (p+(todo.flatMap B9).length))) ->
  J6 (.vals is) 122 true st.nx vs (kElt (vcE tabs (CP (n+5)) X ce_read_image_0)) K (its.map .i) ((done.map .str).map .g) (st.set r (rdO g p)):=by
 induction todo with
 | nil=>intro its done p rest h _ _ q; rw [List.length_nil,List.length_eq_zero_iff] at h; subst h; rw [List.append_nil] at q; exact q
 | cons s todo ih=>
  intro its done p rest h hb hc q
  cases its with
  | nil=>exact absurd h (by rw [List.length_nil,List.length_cons]; lia)
  | cons j its=>
   rw [List.flatMap_cons,List.append_assoc] at hb
   rw [List.flatMap_cons,List.length_append,<- Nat.add_assoc] at q
   have z:=ih its (done++[s]) (p+(B9 s).length) rest (Nat.succ.inj h) (drop_drop hb) (fun s hs=>hc s (.tail _ hs)) (by rw [List.append_assoc]; exact q)
   rw [List.map_append,List.map_append] at z
   have e:=W p p
   have e':=W (p+(B9 s).length) p
   simp only [Prod.mk.injEq] at e e'
   refine comp_cons (B3 (hv _) (at_mth e.1 rfl (W.run rfl (I1 hb hl (hc s (.head _))) ?_)))
   show J6 _ _ _ _ _ _ _ _ (_++[AV.g (.str s)]) (St.cut _ _)
   rw [e'.2.2.2.2]; exact z
theorem F3 {vs:A2} {is:List AV} {K:KL} (_:st.get r=some (rdO g p)) (e:st.set r (rdO g p)=st) (W:RdOK r g l st) (hv:∀ v,B2 125 (put 122 v vs)=some (.obj r)) (hl:l.length<=1000000) {todo:List (List Nat)} {its:List AV} {js:List Int} {rest:List Nat} (hj:its=js.map .i) (h:js.length=todo.length) (hb:l.drop p=todo.flatMap B9++rest) (hc:∀ s∈todo,∀ c∈s,c<=1114111)
  (k:K ((todo.map .str).map .g) (st.set r (rdO g (p+(todo.flatMap B9).length)))):J6 (.vals is) 122 true st.nx vs (kElt (vcE tabs (CP (n+5)) X ce_read_image_0)) K its [] st:=by
 subst hj
 have z:=rtexts_c (n:=n) (is:=is) (X:=X) W hv hl todo js [] p rest h hb hc k
 rw [e] at z; exact z
end
noncomputable def Bytes (l:List Nat):Prop:=∀ x∈l,x<=255
theorem Bytes.app {a b:List Nat} (h:Bytes a) (h':Bytes b):Bytes (a++b):=fun x hx=>(List.mem_append.mp hx).elim (h x) (h' x)
theorem Bytes.flat {α:Type} {f:α->List Nat} {l:List α} (h:∀ a∈l,Bytes (f a)):Bytes (l.flatMap f):=fun x hx=>by
 obtain ⟨a,ha,hx⟩:=List.mem_flatMap.mp hx
 exact h a ha x hx
theorem venc_b (n:Nat):Bytes (venc n):=by
 induction n using Nat.strongRecOn with
 | ind n ih=>
  by_cases c:n < 128
  ·rw [venc_lo c]; intro x hx; rw [List.mem_singleton.mp hx]; lia
  ·rw [venc_hi c]; intro x hx
   rcases List.mem_cons.mp hx with rfl | hx
   ·lia
   ·exact ih _ (by lia) x hx
theorem Bytes.encs (l:List Int):Bytes (encs l):=(venc_b _).app (.flat fun Z Z=>venc_b _)
theorem ckb_b (k:Nat):∀ c,Bytes (ckb k c):=by
 induction k with
 | zero=>exact fun c x h=>nomatch h
 | succ k ih=>
  intro c x hx
  rcases List.mem_cons.mp hx with rfl | h
  ·have e2:=Int.fmod_eq_emod_of_nonneg c (b:=256) (by decide)
   rw [e2]; lia
  ·exact ih _ x h
theorem Bytes.body (V:KV) (ws:List Int) (ds:List MdL):Bytes (A3 V ws ds):=
 .app (.app (.encs _) (.app (.encs _) (.app (.encs _) (.flat fun Z Z=>venc_b _)))) (.app (.encs _) (.app (.app (venc_b _) (.flat fun Z Z=>.app (.encs _) (.app (.encs _) (.app (venc_b _) (.flat fun Z Z=>.encs _))))) (.app (venc_b _) (.app (.flat fun Z Z=>.encs _) (.encs _)))))
theorem ckn_b (l:List Nat):0<=ckn l/\ckn l < 2305843009213693951:=by
 have h:∀ (l:List Nat) (v:Int),0<=v/\v < 2305843009213693951->0<=l.foldl ckStep v/\l.foldl ckStep v < 2305843009213693951:=fun l=>by
  induction l with
  | nil=>exact fun Z h=>h
  | cons b r ih=>
   refine fun v Z=>ih _ ?_
   rw [ckStep,Int.fmod_eq_emod_of_nonneg _ (by decide)]
   exact ⟨by lia,by lia⟩
 exact h l 1 ⟨by decide,by decide⟩
theorem led_full (l:List Nat):led (ckb 8 (ckn l))=ckn l:=led_ckb 8 _ (ckn_b l).1 (Int.lt_trans (ckn_b l).2 (by decide))
theorem ckb_len (k:Nat):∀ c,(ckb k c).length=k:=by
 induction k with
 | zero=>exact fun Z=>rfl
 | succ k ih=>exact fun c=>congrArg Nat.succ (ih _)
section
variable {T:Tabs} {cl:A7} {st:St} {i m:Nat} {l:List GV} {Q:KQ} {X:KX}
theorem at_ml {K:Tgt->Prop} (h:st.get i=some (.gl l)) (hm:Nat.ble m 3=true) (q:K (.lst i)):resV T st m (.obj i) K:=by
 conv=>whnf
 rw [h]
 show chk (Nat.ble m 3) (K (.lst i))
 rw [hm]; exact q
theorem at_app {w:GV} (h:st.get i=some (.gl l)) (hl:l.length < 1000000) (q:Q .no (st.set i (.gl (l++[w])))):runV cl X 0 (.lst i) [.g w] st Q:=by
 conv=>whnf
 rw [h]
 exact B0 hl q
end
section
variable {n r i a b c d:Nat} {st:St} {R:KQ} {X:KX} {N:KN} {o:AO}
theorem dec_loop (W:∀ xs ys:List GV,((st.set r (.gl xs)).get r,(st.set r (.gl xs)).get i,(st.set r (.gl xs)).cut st.nx,(st.set r (.gl xs)).set r (.gl ys))=(some (.gl xs),some o,st.set r (.gl xs),st.set r (.gl ys))) (hv:E1 st.nx [(22,.obj a),(126,.obj b),(125,.obj c),(49,.obj d),(53,.obj r)]=[(22,.obj a),(126,.obj b),(125,.obj c),(49,.obj d),(53,.obj r)])
  (rt:List GV):∀ (rd:List GV) (wt:List Int),RwL rt wt->rd.length+rt.length<=1000000->N [(22,.obj a),(126,.obj b),(125,.obj c),(49,.obj d),(53,.obj r)] (st.set r (.gl (rd++rt))) ->
  H4 (.lst i o) 42 true st.nx (E8 (B4 tabs (CP (n+10)) fb_read_image_0) R X) N ((wt.map .int).map .g) [(22,.obj a),(126,.obj b),(125,.obj c),(49,.obj d),(53,.obj r)] (st.set r (.gl rd)):=by
 induction rt with
 | nil=>intro rd wt h _ q; cases wt with | nil=>rw [List.append_nil] at q; exact q | cons=>exact h.elim
 | cons w rt ih=>
  intro rd wt h hz q
  cases wt with
  | nil=>exact h.elim
  | cons k wt=>
   rw [List.length_cons] at hz
   have z:=ih (rd++[w]) wt h.2 (by rw [List.length_append,List.length_singleton]; lia) (by rw [List.append_assoc]; exact q)
   have e:=W rd (rd++[w])
   have e':=W (rd++[w]) []
   simp only [Prod.mk.injEq] at e e'
   refine F1 (at_ml e.1 rfl (call_emp (decode_s h.1 n) rfl (at_app (cl:=CP (n+10)) (X:=X) e.1 (by lia) ?_)))
   rw [e.2.2.2]
   refine And.intro e'.2.1 ?_
   show H4 _ _ _ _ _ _ _ (E1 _ _) (St.cut _ _)
   rw [e'.2.2.1]
   exact hv.symm▸z
theorem dec_run {rt:List GV} {wt:List Int} (e:st.set r (.gl [])=st) (W:∀ xs ys:List GV,((st.set r (.gl xs)).get r,(st.set r (.gl xs)).get i,(st.set r (.gl xs)).cut st.nx,(st.set r (.gl xs)).set r (.gl ys))=(some (.gl xs),some o,st.set r (.gl xs),st.set r (.gl ys))) (hv:E1 st.nx [(22,.obj a),(126,.obj b),(125,.obj c),(49,.obj d),(53,.obj r)]=[(22,.obj a),(126,.obj b),(125,.obj c),(49,.obj d),(53,.obj r)])
  (h:RwL rt wt) (hz:rt.length<=1000000) (q:N [(22,.obj a),(126,.obj b),(125,.obj c),(49,.obj d),(53,.obj r)] (st.set r (.gl rt))) :
  H4 (.lst i o) 42 true st.nx (E8 (B4 tabs (CP (n+10)) fb_read_image_0) R X) N ((wt.map .int).map .g) [(22,.obj a),(126,.obj b),(125,.obj c),(49,.obj d),(53,.obj r)] st:=by
 have z:=dec_loop (n:=n) (R:=R) (X:=X) (N:=N) W hv rt [] wt h (by rw [List.length_nil,Nat.zero_add]; exact hz) q
 rw [e] at z; exact z
end
theorem L8 {n:Nat}:Fun n 154 [.obj 0,.obj 1] ⟨[(0,.inst 204 [])],2⟩ .no ⟨[(0,rdO 1 0)],2⟩:=⟨rfl,⟨[0,1],rfl⟩⟩
section
variable {n:Nat} {V:KV} {ws:List Int} {a b c:Int}
structure RdV (V:KV) (ws:List Int) (a b c:Int):Prop where
 dims:Dims V a b c
 ha:1<=a
 hb:0<=b
 hc:0<=c
 hU:16*a+16*b+16*c < 4294967000
 ht:0<=V.top
 hL:0<=V.limit
 hs:0<=V.steps
 F:FOK V.free
 hp:(places V.words).Nodup
 hw:V.words.length < 64
 hr:RwL V.rows ws
 hrl:V.rows.length<=1000000
 ho:∀ s∈V.outs,∀ c∈s,c<=1114111
theorem M1 (ds:List MdL):ds.length<=(ds.flatMap E3++I0 V).length:=by
 rw [List.length_append]
 refine Nat.le_trans ?_ (Nat.le_add_right _ _)
 induction ds with
 | nil=>exact Nat.zero_le _
 | cons d ds ih=>
  have:1<=(enc (M2 d.name).length).length:=venc_pos _
  rw [List.flatMap_cons,List.length_append,List.length_cons,E3,B9,encs,List.length_append,List.length_append]
  lia
theorem F8 (ts:List (List Nat)) (r:List Nat):ts.length<=(ts.flatMap B9++r).length:=by
 rw [List.length_append]
 refine Nat.le_trans ?_ (Nat.le_add_right _ _)
 induction ts with
 | nil=>exact Nat.zero_le _
 | cons d ds ih=>
  have:1<=(enc (M2 d).length).length:=venc_pos _
  rw [List.flatMap_cons,List.length_append,List.length_cons,B9,encs,List.length_append]
  lia
theorem F4 {is:List AV} {js:List Int} {n:Nat} (e:is=js.map .i) (h:js.length<=n):(Src.vals is).items.length<=n:=by subst e; exact Nat.le_trans (Nat.le_of_eq (List.length_map _)) h
theorem C3 {B r:List Nat} {p:Nat} {ts:List (List Nat)} (h:B.drop p=ts.flatMap B9++r) (hl:B.length<=1000000):ts.length<=1000000:=by
 have:=F8 ts r
 rw [<- h,List.length_drop] at this; lia
theorem done_f {B x:List Nat} {p q:Nat} (h:B.drop p=x) (e:p+x.length=q):(!decide ((B.length:Int)<=(q:Int)))=false:=nb (by
 have:=congrArg List.length h
 rw [List.length_drop] at this; lia)
theorem at_rng {k:Nat} {Q:Prop} (h:k<=1000000) (q:Q):chk (decide (-1000000<=(k:Int)/\(k:Int)<=1000000)) Q:=I8 ⟨by lia,by lia⟩ q
inductive ImgF (V:KV) (ws:List Int) (ds:List MdL):List Nat->Prop
 | mk (B e:List Nat) (p1 p2 p3:Nat) (h8:e.length=8) (hby:Bytes (B++e)) (hle:(B++e).length<=1000000) (he:led e=ckn B) (hl:B.length<=1000000) (hb0:B.drop 0=E0 V++(encs ws++(enc ds.length++(ds.flatMap E3++I0 V)))) (e1:0+(E0 V).length=p1)
  (hb1:B.drop p1=encs ws++(enc ds.length++(ds.flatMap E3++I0 V))) (e2:p1+(encs ws).length=p2) (hb2:B.drop p2=enc ds.length++(ds.flatMap E3++I0 V)) (e3:p2+(enc ds.length).length=p3) (hb3:B.drop p3=ds.flatMap E3++I0 V):ImgF V ws ds (B++e)
theorem img_f (h:RdV V ws a b c) (ds:List MdL) (hz:(A3 V ws ds).length+8<=1000000):ImgF V ws ds (E4 (A3 V ws ds)):=by
 have hb0:(A3 V ws ds).drop 0=E0 V++(encs ws++(enc ds.length++(ds.flatMap E3++I0 V))):=by rw [List.drop_zero,A3,imgMods,List.append_assoc]
 exact .mk _ _ _ _ _ (ckb_len _ _) ((Bytes.body _ _ _).app (ckb_b _ _)) (by rw [List.length_append,ckb_len]; exact hz) (led_full _) (by lia) hb0 rfl (drop_drop hb0) rfl (drop_drop (drop_drop hb0)) rfl (drop_drop (drop_drop (drop_drop hb0)))
inductive ModF (B nm:List Nat) (k cb db:Int) (cl:List (List Nat)) (y:List Nat) (p:Nat):Prop
 | mk (q2 q3 q4 q5:Nat) (js:List Int) (x1:B.drop p=encs (M2 nm)++(encs [k,cb,db]++(enc cl.length++(cl.flatMap B9++y)))) (f2:p+(encs (M2 nm)).length=q2) (x2:B.drop q2=encs [k,cb,db]++(enc cl.length++(cl.flatMap B9++y))) (f3:q2+(encs [k,cb,db]).length=q3)
  (x3:B.drop q3=enc cl.length++(cl.flatMap B9++y)) (f4:q3+(enc cl.length).length=q4) (x4:B.drop q4=cl.flatMap B9++y) (f5:q4+(cl.flatMap B9).length=q5) (hb:B.drop q5=y) (ej:J0 0 (cl.length:Int).toNat=js.map AV.i) (lj:js.length=cl.length):ModF B nm k cb db cl y p
theorem mod_f {B x:List Nat} {p:Nat} {nm:List Nat} {k cb db:Int} {cl:List (List Nat)} {rw:List GV} {r:List MdL} (h:B.drop p=(⟨nm,k,cb,db,cl,rw⟩::r:List MdL).flatMap E3++x):ModF B nm k cb db cl (r.flatMap E3++x) p:=by
 rw [List.flatMap_cons,E3] at h
 simp only [List.append_assoc] at h
 obtain ⟨js,ej,lj⟩:=rangeUp_e 0 cl.length
 exact .mk _ _ _ _ js h rfl (drop_drop h) rfl (drop_drop (drop_drop h)) rfl (drop_drop (drop_drop (drop_drop h))) rfl (drop_drop (drop_drop (drop_drop (drop_drop h)))) ej lj
inductive TailF (V:KV) (B:List Nat) (p:Nat):Prop
 | mk (p5 p6 p7:Nat) (js:List Int) (hb4:B.drop p=enc V.outs.length++(V.outs.flatMap B9++encs V.given)) (e5:p+(enc V.outs.length).length=p5) (hb5:B.drop p5=V.outs.flatMap B9++encs V.given) (e6:p5+(V.outs.flatMap B9).length=p6) (hb6:B.drop p6=encs V.given) (e7:p6+(encs V.given).length=p7) (hb7:B.drop p6=encs V.given++[])
  (ej:J0 0 (V.outs.length:Int).toNat=js.map AV.i) (lj:js.length=V.outs.length):TailF V B p
theorem tail_f {B:List Nat} {p:Nat} (h:B.drop p=([]:List MdL).flatMap E3++I0 V):TailF V B p:=by
 obtain ⟨js,ej,lj⟩:=rangeUp_e 0 V.outs.length
 rw [List.flatMap_nil,List.nil_append,I0] at h
 exact .mk _ _ _ js h rfl (drop_drop h) rfl (drop_drop (drop_drop h)) rfl (by rw [List.append_nil]; exact drop_drop (drop_drop h)) ej lj
theorem bne_self (k:Int):(!(k==k))=false:=by rw [BEq.rfl]; rfl
theorem hn0:∀ c∈[65],c<=1114111:=by decide
theorem hn1:∀ c∈[66,101,101],c<=1114111:=by decide
theorem hn2:∀ c∈[67],c<=1114111:=by decide
end
theorem at_kR1 {k:Nat} {Q:KS} {st:St} (h:k<=1000000) (q:Q (.vals (J0 0 (k:Int).toNat)) st):kR1 Q (.i k) st:=at_rng h q
theorem fi_it {src:Src} {x k:Nat} {cut:Bool} {body:A2->St->(A2->St->Prop)->Prop} {N:KN} {l l':List AV} {vs:A2} {st:St} (e:l=l') (q:FI src x cut k body N l' vs st):FI src x cut k body N l vs st:=by cases e; exact q
noncomputable def rdT0 (V:KV) (img:List Nat):St:=⟨[(2,.inst 892 [(92,.i V.top),(94,.i V.dl),(98,.i V.sl),(55,.obj 3),(100,.obj 5),(101,.obj 7),(50,.obj 10),(11,.obj 11),(103,.obj 12),(57,.i V.limit),(104,.i V.steps)]),(3,memO V.size 4),(4,.di (rdW V.words (places V.words))),(5,heapO 3 V.ha V.hb 6),(6,.gl (V.free.map .int)),(7,cpuO 3 8 9 zeroV),(8,.gl (zeroV.regs.map .int)),(9,.gl V.rows),(10,.gl []),(11,.gl (V.outs.map .str)),(12,.gl (V.given.map .int)),(0,.gl (gi img))],13⟩
noncomputable def rdT1 (V:KV) (img:List Nat) (k0 p0 q0:Int) (c0:List (List Nat)):St:=⟨[(12,.inst 892 [(92,.i V.top),(94,.i V.dl),(98,.i V.sl),(55,.obj 13),(100,.obj 15),(101,.obj 17),(50,.obj 20),(11,.obj 21),(103,.obj 22),(57,.i V.limit),(104,.i V.steps)]),(13,memO V.size 14),(14,.di (rdW V.words (places V.words))),(15,heapO 13 V.ha V.hb 16),(16,.gl (V.free.map .int)),(17,cpuO 13 18 19 zeroV),(18,.gl (zeroV.regs.map .int)),(19,.gl V.rows),(20,.ol [.obj 23]),(21,.gl (V.outs.map .str)),(22,.gl (V.given.map .int)),(23,modO 913 [65] k0 p0 q0 2 24),(24,.gl (c0.map .str)),(0,.gl (gi img)),(1,.ds [([65],.obj 2)]),(2,objO [65] k0 3)],25⟩
noncomputable def rdT2 (V:KV) (img:List Nat) (k0 p0 q0:Int) (c0:List (List Nat)) (k1 p1 q1:Int) (c1:List (List Nat)):St:=⟨[(22,.inst 892 [(92,.i V.top),(94,.i V.dl),(98,.i V.sl),(55,.obj 23),(100,.obj 25),(101,.obj 27),(50,.obj 30),(11,.obj 31),(103,.obj 32),(57,.i V.limit),(104,.i V.steps)]),(23,memO V.size 24),(24,.di (rdW V.words (places V.words))),(25,heapO 23 V.ha V.hb 26),(26,.gl (V.free.map .int)),(27,cpuO 23 28 29 zeroV),(28,.gl (zeroV.regs.map .int)),(29,.gl V.rows),(30,.ol [.obj 33,.obj 35]),(31,.gl (V.outs.map .str)),(32,.gl (V.given.map .int)),(33,modO 913 [65] k0 p0 q0 2 34),(34,.gl (c0.map .str)),(35,modO 913 [66,101,101] k1 p1 q1 12 36),(36,.gl (c1.map .str)),(0,.gl (gi img)),(1,.ds [([65],.obj 2),([66,101,101],.obj 12)]),(2,objO [65] k0 3),(12,objO [66,101,101] k1 13)],37⟩
noncomputable def rdT3 (V:KV) (img:List Nat) (k0 p0 q0:Int) (c0:List (List Nat)) (k1 p1 q1:Int) (c1:List (List Nat)) (k2 p2 q2:Int) (c2:List (List Nat)):St:=⟨[(32,.inst 892 [(92,.i V.top),(94,.i V.dl),(98,.i V.sl),(55,.obj 33),(100,.obj 35),(101,.obj 37),(50,.obj 40),(11,.obj 41),(103,.obj 42),(57,.i V.limit),(104,.i V.steps)]),(33,memO V.size 34),(34,.di (rdW V.words (places V.words))),(35,heapO 33 V.ha V.hb 36),(36,.gl (V.free.map .int)),(37,cpuO 33 38 39 zeroV),(38,.gl (zeroV.regs.map .int)),(39,.gl V.rows),(40,.ol [.obj 43,.obj 45,.obj 47]),(41,.gl (V.outs.map .str)),(42,.gl (V.given.map .int)),(43,modO 913 [65] k0 p0 q0 2 44),(44,.gl (c0.map .str)),(45,modO 913 [66,101,101] k1 p1 q1 12 46),(46,.gl (c1.map .str)),(47,modO 913 [67] k2 p2 q2 22 48),(48,.gl (c2.map .str)),(0,.gl (gi img)),(1,.ds [([65],.obj 2),([66,101,101],.obj 12),([67],.obj 22)]),(2,objO [65] k0 3),(12,objO [66,101,101] k1 13),(22,objO [67] k2 23)],49⟩
section
variable {n:Nat} {V:KV} {ws:List Int} {a b c:Int}
theorem read0 (h:RdV V ws a b c) (hz:(A3 V ws []).length+8<=1000000):Fun (n+12) 958 [.obj 0,.obj 1] ⟨[(0,.gl (gi (E4 (A3 V ws []))))],2⟩ (.obj 2) (rdT0 V (E4 (A3 V ws []))):=by
 have hF:=img_f h _ hz
 generalize E4 (A3 V ws _)=F_ at hF ⊢
 cases hF with | mk B e p1 p2 p3 h8 hby hle he hl hb0 e1 hb1 e2 hb2 e3 hb3=>
 cases tail_f hb3 with | mk p5 p6 p7 js hb4 e5 hb5 e6 hb6 e7 hb7 ej lj=>
 refine J2 rfl rfl rfl ?_
 refine A0 (J7 h8 hby hle he) [0] ?_
 refine A0 L8 [3,2] ?_
 refine A1 ?_
 refine A0 ((E6 hb0 hl h.dims h.ha h.hb h.hc h.hU h.ht h.hL h.hs h.F h.hp h.hw).to (congrArg (fun q=>St.mk (rmL B q _) 13) e1)) [3,2] ?_
 refine A1 ?_
 refine A1 ?_
 refine A0 (G6 e2 hb1 hl) [3,2] ?_
 refine dec_run (n:=n+2) rfl (fun Z Z=>rfl) rfl h.hr h.hrl ?_
 refine A1 ?_
 refine A1 ?_
 refine B7 (n:=n+11) (F9 rfl rfl ?_)
 refine J4 ?_
 refine A0 ((C6 hb2 (M1 _) hl).to (congrArg (rdS B) e3)) [3,2] ?_
 refine L7 ?_
 refine at_O ?_
 refine A1 ?_
 refine A0 ((C6 (k:=V.outs.length) hb4 (F8 _ _) hl).to (congrArg (rdS B) e5)) [3,2] ?_
 refine at_rng (C3 hb5 hl) ?_
 refine B0 (F4 ej (Nat.le_trans (Nat.le_of_eq lj) (C3 hb5 hl))) ?_
 refine F3 rfl rfl (fun Z Z=>rfl) (fun Z=>rfl) hl ej lj hb5 h.ho ?_
 rw [e6]
 refine B3 (B8 _) ?_
 refine A1 ?_
 refine A0 (G6 e7 hb7 hl) [3,2] ?_
 refine A1 ?_
 refine A0 (done_s hl) [3,2] ?_
 refine C5 (done_f hb6 e7) ?_
 refine at_O ?_
 exact ⟨[0,1,4,5,6,7,8,9,10,15,12,17,18],rfl⟩
end
section
variable {n:Nat} {V:KV} {ws:List Int} {a b c:Int} {k0 p0 q0:Int} {c0:List (List Nat)} {s0:List GV}
theorem read1 (h:RdV V ws a b c) (hz:(A3 V ws [⟨[65],k0,p0,q0,c0,s0⟩]).length+8<=1000000) (hc0:∀ s∈c0,∀ c∈s,c<=1114111):Fun (n+12) 958 [.obj 0,.obj 1] ⟨[(0,.gl (gi (E4 (A3 V ws [⟨[65],k0,p0,q0,c0,s0⟩])))),(1,.ds [([65],.obj 2)]),(2,objO [65] k0 3)],12⟩ (.obj 12) (rdT1 V (E4 (A3 V ws [⟨[65],k0,p0,q0,c0,s0⟩])) k0 p0 q0 c0):=by
 have hF:=img_f h _ hz
 generalize E4 (A3 V ws _)=F_ at hF ⊢
 cases hF with | mk B e p1 p2 p3 h8 hby hle he hl hb0 e1 hb1 e2 hb2 e3 hb3=>
 cases mod_f hb3 with | mk q2_0 q3_0 q4_0 q5_0 js0 x1_0 f2_0 x2_0 f3_0 x3_0 f4_0 x4_0 f5_0 hb3' ej0 lj0=>
 cases tail_f hb3' with | mk p5 p6 p7 js hb4 e5 hb5 e6 hb6 e7 hb7 ej lj=>
 refine J2 rfl rfl rfl ?_
 refine A0 (J7 h8 hby hle he) [0] ?_
 refine A0 L8 [13,12] ?_
 refine A1 ?_
 refine A0 ((E6 hb0 hl h.dims h.ha h.hb h.hc h.hU h.ht h.hL h.hs h.F h.hp h.hw).to (congrArg (fun q=>St.mk (rmL B q _) 13) e1)) [13,12] ?_
 refine A1 ?_
 refine A1 ?_
 refine A0 (G6 e2 hb1 hl) [13,12] ?_
 refine dec_run (n:=n+2) rfl (fun Z Z=>rfl) rfl h.hr h.hrl ?_
 refine A1 ?_
 refine A1 ?_
 refine B7 (n:=n+11) (F9 rfl rfl ?_)
 refine J4 ?_
 refine A0 ((C6 (k:=1) hb2 (M1 [_]) hl).to (congrArg (rdS B) e3)) [13,12] ?_
 refine at_kR1 (Nat.le_of_ble_eq_true rfl) ?_
 refine fi_it (l':=[.i 0]) rfl ?_
 refine B6 ?_
 refine F6 ?_
 refine A0 ((I1 x1_0 hl hn0).to (congrArg (rdS B) f2_0)) [13,12] ?_
 refine A1 ?_
 refine A0 (G6 f3_0 x2_0 hl) [13,12] ?_
 refine A1 ?_
 refine A1 ?_
 refine A1 ?_
 refine C5 (b:=!(k0==k0)) (bne_self k0) ?_
 refine A1 ?_
 refine A0 kept_s [28,2] ?_
 refine A1 ?_
 refine A0 ((C6 x3_0 (F8 _ _) hl).to (congrArg (rdS B) f4_0)) [13,12] ?_
 refine at_rng (C3 x4_0 hl) ?_
 refine B0 (F4 ej0 (Nat.le_trans (Nat.le_of_eq lj0) (C3 x4_0 hl))) ?_
 refine F3 rfl rfl (fun Z Z=>rfl) (fun Z=>rfl) hl ej0 lj0 x4_0 hc0 ?_
 rw [f5_0]
 refine B3 (B8 _) ?_
 refine A1 ?_
 refine J8 rfl ?_
 refine M3 ?_
 refine L7 ?_
 refine at_O ?_
 refine A1 ?_
 refine A0 ((C6 (k:=V.outs.length) hb4 (F8 _ _) hl).to (congrArg (rdS B) e5)) [13,12] ?_
 refine at_rng (C3 hb5 hl) ?_
 refine B0 (F4 ej (Nat.le_trans (Nat.le_of_eq lj) (C3 hb5 hl))) ?_
 refine F3 rfl rfl (fun Z Z=>rfl) (fun Z=>rfl) hl ej lj hb5 h.ho ?_
 rw [e6]
 refine B3 (B8 _) ?_
 refine A1 ?_
 refine A0 (G6 e7 hb7 hl) [13,12] ?_
 refine A1 ?_
 refine A0 (done_s hl) [13,12] ?_
 refine C5 (done_f hb6 e7) ?_
 refine at_O ?_
 exact ⟨[0,1,2,3,4,5,6,7,8,9,10,11,14,15,16,17,18,19,20,25,22,31,32,28,30],rfl⟩
end
section
variable {n:Nat} {V:KV} {ws:List Int} {a b c:Int} {k0 p0 q0:Int} {c0:List (List Nat)} {s0:List GV} {k1 p1 q1:Int} {c1:List (List Nat)} {s1:List GV}
theorem read2 (h:RdV V ws a b c) (hz:(A3 V ws [⟨[65],k0,p0,q0,c0,s0⟩,⟨[66,101,101],k1,p1,q1,c1,s1⟩]).length+8<=1000000) (hc0:∀ s∈c0,∀ c∈s,c<=1114111) (hc1:∀ s∈c1,∀ c∈s,c<=1114111):Fun (n+12) 958 [.obj 0,.obj 1] ⟨[(0,.gl (gi (E4 (A3 V ws [⟨[65],k0,p0,q0,c0,s0⟩,⟨[66,101,101],k1,p1,q1,c1,s1⟩])))),(1,.ds [([65],.obj 2),([66,101,101],.obj 12)]),(2,objO [65] k0 3),(12,objO [66,101,101] k1 13)],22⟩ (.obj 22) (rdT2 V (E4 (A3 V ws [⟨[65],k0,p0,q0,c0,s0⟩,⟨[66,101,101],k1,p1,q1,c1,s1⟩])) k0 p0 q0 c0 k1 p1 q1 c1):=by
 have hF:=img_f h _ hz
 generalize E4 (A3 V ws _)=F_ at hF ⊢
 cases hF with | mk B e p1 p2 p3 h8 hby hle he hl hb0 e1 hb1 e2 hb2 e3 hb3=>
 cases mod_f hb3 with | mk q2_0 q3_0 q4_0 q5_0 js0 x1_0 f2_0 x2_0 f3_0 x3_0 f4_0 x4_0 f5_0 hb3' ej0 lj0=>
 cases mod_f hb3' with | mk q2_1 q3_1 q4_1 q5_1 js1 x1_1 f2_1 x2_1 f3_1 x3_1 f4_1 x4_1 f5_1 hb3'' ej1 lj1=>
 cases tail_f hb3'' with | mk p5 p6 p7 js hb4 e5 hb5 e6 hb6 e7 hb7 ej lj=>
 refine J2 rfl rfl rfl ?_
 refine A0 (J7 h8 hby hle he) [0] ?_
 refine A0 L8 [23,22] ?_
 refine A1 ?_
 refine A0 ((E6 hb0 hl h.dims h.ha h.hb h.hc h.hU h.ht h.hL h.hs h.F h.hp h.hw).to (congrArg (fun q=>St.mk (rmL B q _) 13) e1)) [23,22] ?_
 refine A1 ?_
 refine A1 ?_
 refine A0 (G6 e2 hb1 hl) [23,22] ?_
 refine dec_run (n:=n+2) rfl (fun Z Z=>rfl) rfl h.hr h.hrl ?_
 refine A1 ?_
 refine A1 ?_
 refine B7 (n:=n+11) (F9 rfl rfl ?_)
 refine J4 ?_
 refine A0 ((C6 (k:=2) hb2 (M1 [_,_]) hl).to (congrArg (rdS B) e3)) [23,22] ?_
 refine at_kR1 (Nat.le_of_ble_eq_true rfl) ?_
 refine fi_it (l':=[.i 0,.i 1]) rfl ?_
 refine B6 ?_
 refine F6 ?_
 refine A0 ((I1 x1_0 hl hn0).to (congrArg (rdS B) f2_0)) [23,22] ?_
 refine A1 ?_
 refine A0 (G6 f3_0 x2_0 hl) [23,22] ?_
 refine A1 ?_
 refine A1 ?_
 refine A1 ?_
 refine C5 (b:=!(k0==k0)) (bne_self k0) ?_
 refine A1 ?_
 refine A0 kept_s [38,2] ?_
 refine A1 ?_
 refine A0 ((C6 x3_0 (F8 _ _) hl).to (congrArg (rdS B) f4_0)) [23,22] ?_
 refine at_rng (C3 x4_0 hl) ?_
 refine B0 (F4 ej0 (Nat.le_trans (Nat.le_of_eq lj0) (C3 x4_0 hl))) ?_
 refine F3 rfl rfl (fun Z Z=>rfl) (fun Z=>rfl) hl ej0 lj0 x4_0 hc0 ?_
 rw [f5_0]
 refine B3 (B8 _) ?_
 refine A1 ?_
 refine J8 rfl ?_
 refine M3 ?_
 refine B6 ?_
 refine F6 ?_
 refine A0 ((I1 x1_1 hl hn1).to (congrArg (rdS B) f2_1)) [23,22] ?_
 refine A1 ?_
 refine A0 (G6 f3_1 x2_1 hl) [23,22] ?_
 refine A1 ?_
 refine A1 ?_
 refine A1 ?_
 refine C5 (b:=!(k1==k1)) (bne_self k1) ?_
 refine A1 ?_
 refine A0 kept_s [42,12] ?_
 refine A1 ?_
 refine A0 ((C6 x3_1 (F8 _ _) hl).to (congrArg (rdS B) f4_1)) [23,22] ?_
 refine at_rng (C3 x4_1 hl) ?_
 refine B0 (F4 ej1 (Nat.le_trans (Nat.le_of_eq lj1) (C3 x4_1 hl))) ?_
 refine F3 rfl rfl (fun Z Z=>rfl) (fun Z=>rfl) hl ej1 lj1 x4_1 hc1 ?_
 rw [f5_1]
 refine B3 (B8 _) ?_
 refine A1 ?_
 refine J8 rfl ?_
 refine M3 ?_
 refine L7 ?_
 refine at_O ?_
 refine A1 ?_
 refine A0 ((C6 (k:=V.outs.length) hb4 (F8 _ _) hl).to (congrArg (rdS B) e5)) [23,22] ?_
 refine at_rng (C3 hb5 hl) ?_
 refine B0 (F4 ej (Nat.le_trans (Nat.le_of_eq lj) (C3 hb5 hl))) ?_
 refine F3 rfl rfl (fun Z Z=>rfl) (fun Z=>rfl) hl ej lj hb5 h.ho ?_
 rw [e6]
 refine B3 (B8 _) ?_
 refine A1 ?_
 refine A0 (G6 e7 hb7 hl) [23,22] ?_
 refine A1 ?_
 refine A0 (done_s hl) [23,22] ?_
 refine C5 (done_f hb6 e7) ?_
 refine at_O ?_
 exact ⟨[0,1,2,3,4,5,6,7,8,9,10,11,12,13,14,15,16,17,18,19,20,21,24,25,26,27,28,29,30,35,32,45,46,38,40,42,44],rfl⟩
end
section
variable {n:Nat} {V:KV} {ws:List Int} {a b c:Int} {k0 p0 q0:Int} {c0:List (List Nat)} {s0:List GV} {k1 p1 q1:Int} {c1:List (List Nat)} {s1:List GV} {k2 p2 q2:Int} {c2:List (List Nat)} {s2:List GV}
theorem read3 (h:RdV V ws a b c) (hz:(A3 V ws [⟨[65],k0,p0,q0,c0,s0⟩,⟨[66,101,101],k1,p1,q1,c1,s1⟩,⟨[67],k2,p2,q2,c2,s2⟩]).length+8<=1000000) (hc0:∀ s∈c0,∀ c∈s,c<=1114111) (hc1:∀ s∈c1,∀ c∈s,c<=1114111) (hc2:∀ s∈c2,∀ c∈s,c<=1114111):Fun (n+12) 958 [.obj 0,.obj 1] ⟨[(0,.gl (gi (E4 (A3 V ws [⟨[65],k0,p0,q0,c0,s0⟩,⟨[66,101,101],k1,p1,q1,c1,s1⟩,⟨[67],k2,p2,q2,c2,s2⟩])))),(1,.ds [([65],.obj 2),([66,101,101],.obj 12),([67],.obj 22)]),(2,objO [65] k0 3),(12,objO [66,101,101] k1 13),(22,objO [67] k2 23)],32⟩ (.obj 32) (rdT3 V (E4 (A3 V ws [⟨[65],k0,p0,q0,c0,s0⟩,⟨[66,101,101],k1,p1,q1,c1,s1⟩,⟨[67],k2,p2,q2,c2,s2⟩])) k0 p0 q0 c0 k1 p1 q1 c1 k2 p2 q2 c2):=by
 have hF:=img_f h _ hz
 generalize E4 (A3 V ws _)=F_ at hF ⊢
 cases hF with | mk B e p1 p2 p3 h8 hby hle he hl hb0 e1 hb1 e2 hb2 e3 hb3=>
 cases mod_f hb3 with | mk q2_0 q3_0 q4_0 q5_0 js0 x1_0 f2_0 x2_0 f3_0 x3_0 f4_0 x4_0 f5_0 hb3' ej0 lj0=>
 cases mod_f hb3' with | mk q2_1 q3_1 q4_1 q5_1 js1 x1_1 f2_1 x2_1 f3_1 x3_1 f4_1 x4_1 f5_1 hb3'' ej1 lj1=>
 cases mod_f hb3'' with | mk q2_2 q3_2 q4_2 q5_2 js2 x1_2 f2_2 x2_2 f3_2 x3_2 f4_2 x4_2 f5_2 hb3''' ej2 lj2=>
 cases tail_f hb3''' with | mk p5 p6 p7 js hb4 e5 hb5 e6 hb6 e7 hb7 ej lj=>
 refine J2 rfl rfl rfl ?_
 refine A0 (J7 h8 hby hle he) [0] ?_
 refine A0 L8 [33,32] ?_
 refine A1 ?_
 refine A0 ((E6 hb0 hl h.dims h.ha h.hb h.hc h.hU h.ht h.hL h.hs h.F h.hp h.hw).to (congrArg (fun q=>St.mk (rmL B q _) 13) e1)) [33,32] ?_
 refine A1 ?_
 refine A1 ?_
 refine A0 (G6 e2 hb1 hl) [33,32] ?_
 refine dec_run (n:=n+2) rfl (fun Z Z=>rfl) rfl h.hr h.hrl ?_
 refine A1 ?_
 refine A1 ?_
 refine B7 (n:=n+11) (F9 rfl rfl ?_)
 refine J4 ?_
 refine A0 ((C6 (k:=3) hb2 (M1 [_,_,_]) hl).to (congrArg (rdS B) e3)) [33,32] ?_
 refine at_kR1 (Nat.le_of_ble_eq_true rfl) ?_
 refine fi_it (l':=[.i 0,.i 1,.i 2]) rfl ?_
 refine B6 ?_
 refine F6 ?_
 refine A0 ((I1 x1_0 hl hn0).to (congrArg (rdS B) f2_0)) [33,32] ?_
 refine A1 ?_
 refine A0 (G6 f3_0 x2_0 hl) [33,32] ?_
 refine A1 ?_
 refine A1 ?_
 refine A1 ?_
 refine C5 (b:=!(k0==k0)) (bne_self k0) ?_
 refine A1 ?_
 refine A0 kept_s [48,2] ?_
 refine A1 ?_
 refine A0 ((C6 x3_0 (F8 _ _) hl).to (congrArg (rdS B) f4_0)) [33,32] ?_
 refine at_rng (C3 x4_0 hl) ?_
 refine B0 (F4 ej0 (Nat.le_trans (Nat.le_of_eq lj0) (C3 x4_0 hl))) ?_
 refine F3 rfl rfl (fun Z Z=>rfl) (fun Z=>rfl) hl ej0 lj0 x4_0 hc0 ?_
 rw [f5_0]
 refine B3 (B8 _) ?_
 refine A1 ?_
 refine J8 rfl ?_
 refine M3 ?_
 refine B6 ?_
 refine F6 ?_
 refine A0 ((I1 x1_1 hl hn1).to (congrArg (rdS B) f2_1)) [33,32] ?_
 refine A1 ?_
 refine A0 (G6 f3_1 x2_1 hl) [33,32] ?_
 refine A1 ?_
 refine A1 ?_
 refine A1 ?_
 refine C5 (b:=!(k1==k1)) (bne_self k1) ?_
 refine A1 ?_
 refine A0 kept_s [52,12] ?_
 refine A1 ?_
 refine A0 ((C6 x3_1 (F8 _ _) hl).to (congrArg (rdS B) f4_1)) [33,32] ?_
 refine at_rng (C3 x4_1 hl) ?_
 refine B0 (F4 ej1 (Nat.le_trans (Nat.le_of_eq lj1) (C3 x4_1 hl))) ?_
 refine F3 rfl rfl (fun Z Z=>rfl) (fun Z=>rfl) hl ej1 lj1 x4_1 hc1 ?_
 rw [f5_1]
 refine B3 (B8 _) ?_
 refine A1 ?_
 refine J8 rfl ?_
 refine M3 ?_
 refine B6 ?_
 refine F6 ?_
 refine A0 ((I1 x1_2 hl hn2).to (congrArg (rdS B) f2_2)) [33,32] ?_
 refine A1 ?_
 refine A0 (G6 f3_2 x2_2 hl) [33,32] ?_
 refine A1 ?_
 refine A1 ?_
 refine A1 ?_
 refine C5 (b:=!(k2==k2)) (bne_self k2) ?_
 refine A1 ?_
 refine A0 kept_s [56,22] ?_
 refine A1 ?_
 refine A0 ((C6 x3_2 (F8 _ _) hl).to (congrArg (rdS B) f4_2)) [33,32] ?_
 refine at_rng (C3 x4_2 hl) ?_
 refine B0 (F4 ej2 (Nat.le_trans (Nat.le_of_eq lj2) (C3 x4_2 hl))) ?_
 refine F3 rfl rfl (fun Z Z=>rfl) (fun Z=>rfl) hl ej2 lj2 x4_2 hc2 ?_
 rw [f5_2]
 refine B3 (B8 _) ?_
 refine A1 ?_
 refine J8 rfl ?_
 refine M3 ?_
 refine L7 ?_
 refine at_O ?_
 refine A1 ?_
 refine A0 ((C6 (k:=V.outs.length) hb4 (F8 _ _) hl).to (congrArg (rdS B) e5)) [33,32] ?_
 refine at_rng (C3 hb5 hl) ?_
 refine B0 (F4 ej (Nat.le_trans (Nat.le_of_eq lj) (C3 hb5 hl))) ?_
 refine F3 rfl rfl (fun Z Z=>rfl) (fun Z=>rfl) hl ej lj hb5 h.ho ?_
 rw [e6]
 refine B3 (B8 _) ?_
 refine A1 ?_
 refine A0 (G6 e7 hb7 hl) [33,32] ?_
 refine A1 ?_
 refine A0 (done_s hl) [33,32] ?_
 refine C5 (done_f hb6 e7) ?_
 refine at_O ?_
 exact ⟨[0,1,2,3,4,5,6,7,8,9,10,11,12,13,14,15,16,17,18,19,20,21,22,23,24,25,26,27,28,29,30,31,34,35,36,37,38,39,40,45,42,59,60,48,50,52,54,56,58],rfl⟩
end
theorem bne_succ (k:Int):(!(k+1==k))=true:=by rw [beq_eq_false_iff_ne.mpr (show k+1≠k by lia)]; rfl
theorem changed {n:Nat} {b e:List Nat} (h8:e.length=8) (hb:∀ x∈b++e,x<=255) (hl:(b++e).length<=1000000) (hn:led e≠ckn b):Fun (n+4) 1033 [.obj 0,.obj 1] ⟨[(0,.gl (gi (b++e)))],2⟩ (.bool true) ⟨[(0,.gl (gi (b++e)))],2⟩:=by
 refine J2 rfl rfl rfl ?_
 refine F6 ?_
 refine B7 (n:=n+3) (F9 rfl rfl ?_)
 refine B7 (n:=n+2) (checked_i rfl rfl rfl (fun Z Z=>rfl) rfl h8 hb hl (fun h=>absurd h hn) fun Z=>?_)
 exact ⟨[0,1],rfl⟩
section
variable {n:Nat} {V:KV} {ws:List Int} {a b c:Int} {k0 p0 q0:Int} {c0:List (List Nat)} {s0:List GV}
theorem fewer1 (h:RdV V ws a b c) (hz:(A3 V ws [⟨[65],k0,p0,q0,c0,s0⟩]).length+8<=1000000):Fun (n+13) 1033 [.obj 0,.obj 1] ⟨[(0,.gl (gi (E4 (A3 V ws [⟨[65],k0,p0,q0,c0,s0⟩])))),(1,.ds [])],2⟩ (.bool true) ⟨[(0,.gl (gi (E4 (A3 V ws [⟨[65],k0,p0,q0,c0,s0⟩])))),(1,.ds [])],2⟩:=by
 have hF:=img_f h _ hz
 generalize E4 (A3 V ws _)=F_ at hF ⊢
 cases hF with | mk B e p1 p2 p3 h8 hby hle he hl hb0 e1 hb1 e2 hb2 e3 hb3=>
 cases mod_f hb3 with | mk q2_0 q3_0 q4_0 q5_0 js x1_0 f2_0 x2_0 f3_0 x3_0 f4_0 x4_0 f5_0 hb9 ej9 lj9=>
 refine J2 rfl rfl rfl ?_
 refine F6 ?_
 refine B7 (n:=n+12) (F9 rfl rfl ?_)
 refine A0 (J7 h8 hby hle he) [0] ?_
 refine A0 L8 [3,2] ?_
 refine A1 ?_
 refine A0 ((E6 hb0 hl h.dims h.ha h.hb h.hc h.hU h.ht h.hL h.hs h.F h.hp h.hw).to (congrArg (fun q=>St.mk (rmL B q _) 13) e1)) [3,2] ?_
 refine A1 ?_
 refine A1 ?_
 refine A0 (G6 e2 hb1 hl) [3,2] ?_
 refine dec_run (n:=n+2) rfl (fun Z Z=>rfl) rfl h.hr h.hrl ?_
 refine A1 ?_
 refine A1 ?_
 refine B7 (n:=n+11) (F9 rfl rfl ?_)
 refine J4 ?_
 refine A0 ((C6 (k:=1) hb2 (M1 [_]) hl).to (congrArg (rdS B) e3)) [3,2] ?_
 refine B6 ?_
 refine F6 ?_
 refine A0 ((I1 x1_0 hl hn0).to (congrArg (rdS B) f2_0)) [3,2] ?_
 refine A1 ?_
 refine A0 (G6 f3_0 x2_0 hl) [3,2] ?_
 refine A1 ?_
 refine A1 ?_
 refine A1 ?_
 refine F6 ?_
 refine B7 (F9 rfl rfl ?_)
 exact ⟨[0,1],rfl⟩
end
section
variable {n:Nat} {V:KV} {ws:List Int} {a b c:Int} {k0 p0 q0:Int} {c0:List (List Nat)} {s0:List GV} {k1 p1 q1:Int} {c1:List (List Nat)} {s1:List GV}
theorem fewer2 (h:RdV V ws a b c) (hz:(A3 V ws [⟨[65],k0,p0,q0,c0,s0⟩,⟨[66,101,101],k1,p1,q1,c1,s1⟩]).length+8<=1000000) (hc0:∀ s∈c0,∀ c∈s,c<=1114111):Fun (n+13) 1033 [.obj 0,.obj 1] ⟨[(0,.gl (gi (E4 (A3 V ws [⟨[65],k0,p0,q0,c0,s0⟩,⟨[66,101,101],k1,p1,q1,c1,s1⟩])))),(1,.ds [([65],.obj 2)]),(2,objO [65] k0 3)],12⟩ (.bool true) ⟨[(0,.gl (gi (E4 (A3 V ws [⟨[65],k0,p0,q0,c0,s0⟩,⟨[66,101,101],k1,p1,q1,c1,s1⟩])))),(1,.ds [([65],.obj 2)]),(2,objO [65] k0 3)],12⟩:=by
 have hF:=img_f h _ hz
 generalize E4 (A3 V ws _)=F_ at hF ⊢
 cases hF with | mk B e p1 p2 p3 h8 hby hle he hl hb0 e1 hb1 e2 hb2 e3 hb3=>
 cases mod_f hb3 with | mk q2_0 q3_0 q4_0 q5_0 js0 x1_0 f2_0 x2_0 f3_0 x3_0 f4_0 x4_0 f5_0 hb3' ej0 lj0=>
 cases mod_f hb3' with | mk q2_1 q3_1 q4_1 q5_1 js x1_1 f2_1 x2_1 f3_1 x3_1 f4_1 x4_1 f5_1 hb9 ej9 lj9=>
 refine J2 rfl rfl rfl ?_
 refine F6 ?_
 refine B7 (n:=n+12) (F9 rfl rfl ?_)
 refine A0 (J7 h8 hby hle he) [0] ?_
 refine A0 L8 [13,12] ?_
 refine A1 ?_
 refine A0 ((E6 hb0 hl h.dims h.ha h.hb h.hc h.hU h.ht h.hL h.hs h.F h.hp h.hw).to (congrArg (fun q=>St.mk (rmL B q _) 13) e1)) [13,12] ?_
 refine A1 ?_
 refine A1 ?_
 refine A0 (G6 e2 hb1 hl) [13,12] ?_
 refine dec_run (n:=n+2) rfl (fun Z Z=>rfl) rfl h.hr h.hrl ?_
 refine A1 ?_
 refine A1 ?_
 refine B7 (n:=n+11) (F9 rfl rfl ?_)
 refine J4 ?_
 refine A0 ((C6 (k:=2) hb2 (M1 [_,_]) hl).to (congrArg (rdS B) e3)) [13,12] ?_
 refine at_kR1 (Nat.le_of_ble_eq_true rfl) ?_
 refine fi_it (l':=[.i 0,.i 1]) rfl ?_
 refine B6 ?_
 refine F6 ?_
 refine A0 ((I1 x1_0 hl hn0).to (congrArg (rdS B) f2_0)) [13,12] ?_
 refine A1 ?_
 refine A0 (G6 f3_0 x2_0 hl) [13,12] ?_
 refine A1 ?_
 refine A1 ?_
 refine A1 ?_
 refine C5 (b:=!(k0==k0)) (bne_self k0) ?_
 refine A1 ?_
 refine A0 kept_s [28,2] ?_
 refine A1 ?_
 refine A0 ((C6 x3_0 (F8 _ _) hl).to (congrArg (rdS B) f4_0)) [13,12] ?_
 refine at_rng (C3 x4_0 hl) ?_
 refine B0 (F4 ej0 (Nat.le_trans (Nat.le_of_eq lj0) (C3 x4_0 hl))) ?_
 refine F3 rfl rfl (fun Z Z=>rfl) (fun Z=>rfl) hl ej0 lj0 x4_0 hc0 ?_
 rw [f5_0]
 refine B3 (B8 _) ?_
 refine A1 ?_
 refine J8 rfl ?_
 refine M3 ?_
 refine B6 ?_
 refine F6 ?_
 refine A0 ((I1 x1_1 hl hn1).to (congrArg (rdS B) f2_1)) [13,12] ?_
 refine A1 ?_
 refine A0 (G6 f3_1 x2_1 hl) [13,12] ?_
 refine A1 ?_
 refine A1 ?_
 refine A1 ?_
 refine F6 ?_
 refine B7 (F9 rfl rfl ?_)
 exact ⟨[0,1,2,3,4,5,6,7,8,9,10,11],rfl⟩
end
section
variable {n:Nat} {V:KV} {ws:List Int} {a b c:Int} {k0 p0 q0:Int} {c0:List (List Nat)} {s0:List GV} {k1 p1 q1:Int} {c1:List (List Nat)} {s1:List GV} {k2 p2 q2:Int} {c2:List (List Nat)} {s2:List GV}
theorem fewer3 (h:RdV V ws a b c) (hz:(A3 V ws [⟨[65],k0,p0,q0,c0,s0⟩,⟨[66,101,101],k1,p1,q1,c1,s1⟩,⟨[67],k2,p2,q2,c2,s2⟩]).length+8<=1000000) (hc0:∀ s∈c0,∀ c∈s,c<=1114111) (hc1:∀ s∈c1,∀ c∈s,c<=1114111):Fun (n+13) 1033 [.obj 0,.obj 1] ⟨[(0,.gl (gi (E4 (A3 V ws [⟨[65],k0,p0,q0,c0,s0⟩,⟨[66,101,101],k1,p1,q1,c1,s1⟩,⟨[67],k2,p2,q2,c2,s2⟩])))),(1,.ds [([65],.obj 2),([66,101,101],.obj 12)]),(2,objO [65] k0 3),(12,objO [66,101,101] k1 13)],22⟩ (.bool true) ⟨[(0,.gl (gi (E4 (A3 V ws [⟨[65],k0,p0,q0,c0,s0⟩,⟨[66,101,101],k1,p1,q1,c1,s1⟩,⟨[67],k2,p2,q2,c2,s2⟩])))),(1,.ds [([65],.obj 2),([66,101,101],.obj 12)]),(2,objO [65] k0 3),(12,objO [66,101,101] k1 13)],22⟩:=by
 have hF:=img_f h _ hz
 generalize E4 (A3 V ws _)=F_ at hF ⊢
 cases hF with | mk B e p1 p2 p3 h8 hby hle he hl hb0 e1 hb1 e2 hb2 e3 hb3=>
 cases mod_f hb3 with | mk q2_0 q3_0 q4_0 q5_0 js0 x1_0 f2_0 x2_0 f3_0 x3_0 f4_0 x4_0 f5_0 hb3' ej0 lj0=>
 cases mod_f hb3' with | mk q2_1 q3_1 q4_1 q5_1 js1 x1_1 f2_1 x2_1 f3_1 x3_1 f4_1 x4_1 f5_1 hb3'' ej1 lj1=>
 cases mod_f hb3'' with | mk q2_2 q3_2 q4_2 q5_2 js x1_2 f2_2 x2_2 f3_2 x3_2 f4_2 x4_2 f5_2 hb9 ej9 lj9=>
 refine J2 rfl rfl rfl ?_
 refine F6 ?_
 refine B7 (n:=n+12) (F9 rfl rfl ?_)
 refine A0 (J7 h8 hby hle he) [0] ?_
 refine A0 L8 [23,22] ?_
 refine A1 ?_
 refine A0 ((E6 hb0 hl h.dims h.ha h.hb h.hc h.hU h.ht h.hL h.hs h.F h.hp h.hw).to (congrArg (fun q=>St.mk (rmL B q _) 13) e1)) [23,22] ?_
 refine A1 ?_
 refine A1 ?_
 refine A0 (G6 e2 hb1 hl) [23,22] ?_
 refine dec_run (n:=n+2) rfl (fun Z Z=>rfl) rfl h.hr h.hrl ?_
 refine A1 ?_
 refine A1 ?_
 refine B7 (n:=n+11) (F9 rfl rfl ?_)
 refine J4 ?_
 refine A0 ((C6 (k:=3) hb2 (M1 [_,_,_]) hl).to (congrArg (rdS B) e3)) [23,22] ?_
 refine at_kR1 (Nat.le_of_ble_eq_true rfl) ?_
 refine fi_it (l':=[.i 0,.i 1,.i 2]) rfl ?_
 refine B6 ?_
 refine F6 ?_
 refine A0 ((I1 x1_0 hl hn0).to (congrArg (rdS B) f2_0)) [23,22] ?_
 refine A1 ?_
 refine A0 (G6 f3_0 x2_0 hl) [23,22] ?_
 refine A1 ?_
 refine A1 ?_
 refine A1 ?_
 refine C5 (b:=!(k0==k0)) (bne_self k0) ?_
 refine A1 ?_
 refine A0 kept_s [38,2] ?_
 refine A1 ?_
 refine A0 ((C6 x3_0 (F8 _ _) hl).to (congrArg (rdS B) f4_0)) [23,22] ?_
 refine at_rng (C3 x4_0 hl) ?_
 refine B0 (F4 ej0 (Nat.le_trans (Nat.le_of_eq lj0) (C3 x4_0 hl))) ?_
 refine F3 rfl rfl (fun Z Z=>rfl) (fun Z=>rfl) hl ej0 lj0 x4_0 hc0 ?_
 rw [f5_0]
 refine B3 (B8 _) ?_
 refine A1 ?_
 refine J8 rfl ?_
 refine M3 ?_
 refine B6 ?_
 refine F6 ?_
 refine A0 ((I1 x1_1 hl hn1).to (congrArg (rdS B) f2_1)) [23,22] ?_
 refine A1 ?_
 refine A0 (G6 f3_1 x2_1 hl) [23,22] ?_
 refine A1 ?_
 refine A1 ?_
 refine A1 ?_
 refine C5 (b:=!(k1==k1)) (bne_self k1) ?_
 refine A1 ?_
 refine A0 kept_s [42,12] ?_
 refine A1 ?_
 refine A0 ((C6 x3_1 (F8 _ _) hl).to (congrArg (rdS B) f4_1)) [23,22] ?_
 refine at_rng (C3 x4_1 hl) ?_
 refine B0 (F4 ej1 (Nat.le_trans (Nat.le_of_eq lj1) (C3 x4_1 hl))) ?_
 refine F3 rfl rfl (fun Z Z=>rfl) (fun Z=>rfl) hl ej1 lj1 x4_1 hc1 ?_
 rw [f5_1]
 refine B3 (B8 _) ?_
 refine A1 ?_
 refine J8 rfl ?_
 refine M3 ?_
 refine B6 ?_
 refine F6 ?_
 refine A0 ((I1 x1_2 hl hn2).to (congrArg (rdS B) f2_2)) [23,22] ?_
 refine A1 ?_
 refine A0 (G6 f3_2 x2_2 hl) [23,22] ?_
 refine A1 ?_
 refine A1 ?_
 refine A1 ?_
 refine F6 ?_
 refine B7 (F9 rfl rfl ?_)
 exact ⟨[0,1,2,3,4,5,6,7,8,9,10,11,12,13,14,15,16,17,18,19,20,21],rfl⟩
end
section
variable {n:Nat} {V:KV} {ws:List Int} {a b c:Int} {k0 p0 q0:Int} {c0:List (List Nat)} {s0:List GV}
theorem strange1 (h:RdV V ws a b c) (hz:(A3 V ws [⟨[65],k0,p0,q0,c0,s0⟩]).length+8<=1000000):Fun (n+13) 1033 [.obj 0,.obj 1] ⟨[(0,.gl (gi (E4 (A3 V ws [⟨[65],k0,p0,q0,c0,s0⟩])))),(1,.ds [([65],.obj 2)]),(2,objO [65] (k0+1) 3)],14⟩ (.bool true) ⟨[(0,.gl (gi (E4 (A3 V ws [⟨[65],k0,p0,q0,c0,s0⟩])))),(1,.ds [([65],.obj 2)]),(2,objO [65] (k0+1) 3)],14⟩:=by
 have hF:=img_f h _ hz
 generalize E4 (A3 V ws _)=F_ at hF ⊢
 cases hF with | mk B e p1 p2 p3 h8 hby hle he hl hb0 e1 hb1 e2 hb2 e3 hb3=>
 cases mod_f hb3 with | mk q2_0 q3_0 q4_0 q5_0 js x1_0 f2_0 x2_0 f3_0 x3_0 f4_0 x4_0 f5_0 hb9 ej9 lj9=>
 refine J2 rfl rfl rfl ?_
 refine F6 ?_
 refine B7 (n:=n+12) (F9 rfl rfl ?_)
 refine A0 (J7 h8 hby hle he) [0] ?_
 refine A0 L8 [15,14] ?_
 refine A1 ?_
 refine A0 ((E6 hb0 hl h.dims h.ha h.hb h.hc h.hU h.ht h.hL h.hs h.F h.hp h.hw).to (congrArg (fun q=>St.mk (rmL B q _) 13) e1)) [15,14] ?_
 refine A1 ?_
 refine A1 ?_
 refine A0 (G6 e2 hb1 hl) [15,14] ?_
 refine dec_run (n:=n+2) rfl (fun Z Z=>rfl) rfl h.hr h.hrl ?_
 refine A1 ?_
 refine A1 ?_
 refine B7 (n:=n+11) (F9 rfl rfl ?_)
 refine J4 ?_
 refine A0 ((C6 (k:=1) hb2 (M1 [_]) hl).to (congrArg (rdS B) e3)) [15,14] ?_
 refine B6 ?_
 refine F6 ?_
 refine A0 ((I1 x1_0 hl hn0).to (congrArg (rdS B) f2_0)) [15,14] ?_
 refine A1 ?_
 refine A0 (G6 f3_0 x2_0 hl) [15,14] ?_
 refine A1 ?_
 refine A1 ?_
 refine A1 ?_
 refine I7 (b:=!(k0+1==k0)) (bne_succ k0) ?_
 refine F6 ?_
 refine B7 (F9 rfl rfl ?_)
 exact ⟨[0,1,2,3,4,5,6,7,8,9,10,11,12,13],rfl⟩
end
section
variable {n:Nat} {V:KV} {ws:List Int} {a b c:Int} {k0 p0 q0:Int} {c0:List (List Nat)} {s0:List GV} {k1 p1 q1:Int} {c1:List (List Nat)} {s1:List GV}
theorem strange2 (h:RdV V ws a b c) (hz:(A3 V ws [⟨[65],k0,p0,q0,c0,s0⟩,⟨[66,101,101],k1,p1,q1,c1,s1⟩]).length+8<=1000000):Fun (n+13) 1033 [.obj 0,.obj 1] ⟨[(0,.gl (gi (E4 (A3 V ws [⟨[65],k0,p0,q0,c0,s0⟩,⟨[66,101,101],k1,p1,q1,c1,s1⟩])))),(1,.ds [([65],.obj 2),([66,101,101],.obj 12)]),(2,objO [65] (k0+1) 3)],14⟩ (.bool true) ⟨[(0,.gl (gi (E4 (A3 V ws [⟨[65],k0,p0,q0,c0,s0⟩,⟨[66,101,101],k1,p1,q1,c1,s1⟩])))),(1,.ds [([65],.obj 2),([66,101,101],.obj 12)]),(2,objO [65] (k0+1) 3)],14⟩:=by
 have hF:=img_f h _ hz
 generalize E4 (A3 V ws _)=F_ at hF ⊢
 cases hF with | mk B e p1 p2 p3 h8 hby hle he hl hb0 e1 hb1 e2 hb2 e3 hb3=>
 cases mod_f hb3 with | mk q2_0 q3_0 q4_0 q5_0 js x1_0 f2_0 x2_0 f3_0 x3_0 f4_0 x4_0 f5_0 hb9 ej9 lj9=>
 refine J2 rfl rfl rfl ?_
 refine F6 ?_
 refine B7 (n:=n+12) (F9 rfl rfl ?_)
 refine A0 (J7 h8 hby hle he) [0] ?_
 refine A0 L8 [15,14] ?_
 refine A1 ?_
 refine A0 ((E6 hb0 hl h.dims h.ha h.hb h.hc h.hU h.ht h.hL h.hs h.F h.hp h.hw).to (congrArg (fun q=>St.mk (rmL B q _) 13) e1)) [15,14] ?_
 refine A1 ?_
 refine A1 ?_
 refine A0 (G6 e2 hb1 hl) [15,14] ?_
 refine dec_run (n:=n+2) rfl (fun Z Z=>rfl) rfl h.hr h.hrl ?_
 refine A1 ?_
 refine A1 ?_
 refine B7 (n:=n+11) (F9 rfl rfl ?_)
 refine J4 ?_
 refine A0 ((C6 (k:=2) hb2 (M1 [_,_]) hl).to (congrArg (rdS B) e3)) [15,14] ?_
 refine at_kR1 (Nat.le_of_ble_eq_true rfl) ?_
 refine fi_it (l':=[.i 0,.i 1]) rfl ?_
 refine B6 ?_
 refine F6 ?_
 refine A0 ((I1 x1_0 hl hn0).to (congrArg (rdS B) f2_0)) [15,14] ?_
 refine A1 ?_
 refine A0 (G6 f3_0 x2_0 hl) [15,14] ?_
 refine A1 ?_
 refine A1 ?_
 refine A1 ?_
 refine I7 (b:=!(k0+1==k0)) (bne_succ k0) ?_
 refine F6 ?_
 refine B7 (F9 rfl rfl ?_)
 exact ⟨[0,1,2,3,4,5,6,7,8,9,10,11,12,13],rfl⟩
end
section
variable {n:Nat} {V:KV} {ws:List Int} {a b c:Int} {k0 p0 q0:Int} {c0:List (List Nat)} {s0:List GV} {k1 p1 q1:Int} {c1:List (List Nat)} {s1:List GV} {k2 p2 q2:Int} {c2:List (List Nat)} {s2:List GV}
theorem strange3 (h:RdV V ws a b c) (hz:(A3 V ws [⟨[65],k0,p0,q0,c0,s0⟩,⟨[66,101,101],k1,p1,q1,c1,s1⟩,⟨[67],k2,p2,q2,c2,s2⟩]).length+8<=1000000):Fun (n+13) 1033 [.obj 0,.obj 1] ⟨[(0,.gl (gi (E4 (A3 V ws [⟨[65],k0,p0,q0,c0,s0⟩,⟨[66,101,101],k1,p1,q1,c1,s1⟩,⟨[67],k2,p2,q2,c2,s2⟩])))),(1,.ds [([65],.obj 2),([66,101,101],.obj 12),([67],.obj 13)]),(2,objO [65] (k0+1) 3)],14⟩ (.bool true) ⟨[(0,.gl (gi (E4 (A3 V ws [⟨[65],k0,p0,q0,c0,s0⟩,⟨[66,101,101],k1,p1,q1,c1,s1⟩,⟨[67],k2,p2,q2,c2,s2⟩])))),(1,.ds [([65],.obj 2),([66,101,101],.obj 12),([67],.obj 13)]),(2,objO [65] (k0+1) 3)],14⟩:=by
 have hF:=img_f h _ hz
 generalize E4 (A3 V ws _)=F_ at hF ⊢
 cases hF with | mk B e p1 p2 p3 h8 hby hle he hl hb0 e1 hb1 e2 hb2 e3 hb3=>
 cases mod_f hb3 with | mk q2_0 q3_0 q4_0 q5_0 js x1_0 f2_0 x2_0 f3_0 x3_0 f4_0 x4_0 f5_0 hb9 ej9 lj9=>
 refine J2 rfl rfl rfl ?_
 refine F6 ?_
 refine B7 (n:=n+12) (F9 rfl rfl ?_)
 refine A0 (J7 h8 hby hle he) [0] ?_
 refine A0 L8 [15,14] ?_
 refine A1 ?_
 refine A0 ((E6 hb0 hl h.dims h.ha h.hb h.hc h.hU h.ht h.hL h.hs h.F h.hp h.hw).to (congrArg (fun q=>St.mk (rmL B q _) 13) e1)) [15,14] ?_
 refine A1 ?_
 refine A1 ?_
 refine A0 (G6 e2 hb1 hl) [15,14] ?_
 refine dec_run (n:=n+2) rfl (fun Z Z=>rfl) rfl h.hr h.hrl ?_
 refine A1 ?_
 refine A1 ?_
 refine B7 (n:=n+11) (F9 rfl rfl ?_)
 refine J4 ?_
 refine A0 ((C6 (k:=3) hb2 (M1 [_,_,_]) hl).to (congrArg (rdS B) e3)) [15,14] ?_
 refine at_kR1 (Nat.le_of_ble_eq_true rfl) ?_
 refine fi_it (l':=[.i 0,.i 1,.i 2]) rfl ?_
 refine B6 ?_
 refine F6 ?_
 refine A0 ((I1 x1_0 hl hn0).to (congrArg (rdS B) f2_0)) [15,14] ?_
 refine A1 ?_
 refine A0 (G6 f3_0 x2_0 hl) [15,14] ?_
 refine A1 ?_
 refine A1 ?_
 refine A1 ?_
 refine I7 (b:=!(k0+1==k0)) (bne_succ k0) ?_
 refine F6 ?_
 refine B7 (F9 rfl rfl ?_)
 exact ⟨[0,1,2,3,4,5,6,7,8,9,10,11,12,13],rfl⟩
end
theorem lookDi_none {k:Int} {l:List (Int × Int)} (h:k∉l.map (·.1)):E2 k l=none:=by
 induction l with
 | nil=>rfl
 | cons p r ih=>
  rw [List.map_cons,List.mem_cons,not_or] at h
  show (if p.1=k then some p.2 else E2 k r)=none
  rw [if_neg (Ne.symm h.1),ih h.2]
theorem lookDi_map {j v k:Int} {l:List (Int × Int)}:E2 k (l.map fun p=>if p.1=j then (p.1,v) else p)=if k=j then (E2 k l).map fun Z=>v else E2 k l:=by
 induction l with
 | nil=>exact (ite_self _).symm
 | cons p r ih=>
  show (if (if p.1=j then (p.1,v) else p).1=k then some (if p.1=j then (p.1,v) else p).2 else E2 k (r.map _))=if k=j then (if p.1=k then some p.2 else E2 k r).map fun Z=>v else if p.1=k then some p.2 else E2 k r
  rw [ih]
  by_cases a:p.1=j
  ·rw [if_pos a]
   by_cases b:p.1=k
   ·rw [if_pos b,if_pos b,if_pos (b.symm.trans a)]; rfl
   ·rw [if_neg b,if_neg b]
  ·rw [if_neg a]
   by_cases b:p.1=k
   ·rw [if_pos b,if_pos b,if_neg fun c=>a (b.trans c)]
   ·rw [if_neg b,if_neg b]
theorem lookDi_app {j v k:Int} {l:List (Int × Int)}:E2 k (l++[(j,v)])=(E2 k l).or (if j=k then some v else none):=by
 induction l with
 | nil=>rfl
 | cons p r ih=>
  show (if p.1=k then some p.2 else E2 k (r++[(j,v)]))=(if p.1=k then some p.2 else E2 k r).or _
  rw [ih]
  by_cases b:p.1=k
  ·rw [if_pos b,if_pos b]; rfl
  ·rw [if_neg b,if_neg b]
theorem valOf_store {j v k:Int} {l:List (Int × Int)}:H0 (H7 j v l) k=if k=j then v else H0 l k:=by
 unfold H0 H7
 by_cases c:(l.any fun p=>decide (p.1=j))=true
 ·rw [if_pos c,lookDi_map]
  by_cases d:k=j
  ·obtain ⟨p,hp,e⟩:=List.any_eq_true.mp c
   rw [if_pos d,if_pos d,lookDi_some (List.mem_map.mpr ⟨p,hp,(of_decide_eq_true e).trans d.symm⟩)]; rfl
  ·rw [if_neg d,if_neg d]
 ·rw [if_neg c,lookDi_app]
  by_cases d:k=j
  ·rw [if_pos d,if_pos d.symm,lookDi_none fun h=>?_]; rfl
   obtain ⟨p,hp,e⟩:=List.mem_map.mp h
   exact c (List.any_eq_true.mpr ⟨p,hp,decide_eq_true (e.trans d)⟩)
  ·rw [if_neg d,if_neg (Ne.symm d),Option.or_none]
theorem mem_places {l:List (Int × Int)} {k:Int}:k∈places l↔H0 l k≠0:=by
 rw [places,List.mem_filter,(G5 _).mem_iff,nz,Bool.not_eq_true',beq_eq_false_iff_ne]
 refine ⟨fun h=>h.2,fun h=>⟨Classical.byContradiction fun q=>h ?_,h⟩⟩
 rw [H0,lookDi_none q]; rfl
theorem places_nodup {l:List (Int × Int)} (h:(l.map (·.1)).Nodup):(places l).Nodup:=((G5 _).nodup_iff.mpr h).filter _
theorem places_ext {l l':List (Int × Int)} (h:(l.map (·.1)).Nodup) (h':(l'.map (·.1)).Nodup) (e:∀ k,H0 l k=H0 l' k):places l=places l':=
 ((List.perm_ext_iff_of_nodup (places_nodup h) (places_nodup h')).mpr fun k=>by rw [mem_places,mem_places,e]).eq_of_pairwise (fun Z Z Z Z=>Int.le_antisymm) ((sortInts_sorted _).filter _) ((sortInts_sorted _).filter _)
noncomputable def tw (d:List (Int × Int)) (k:Int):GV:=.tup [.int k,.int (H0 d k)]
noncomputable def held (d:List (Int × Int)):List GV:=(places d).map (tw d)
theorem rdW_keys {d:List (Int × Int)} {ks:List Int}:(rdW d ks).map (·.1)=ks:=by rw [rdW,List.map_map]; exact List.map_id ks
theorem lookDi_rdW {d:List (Int × Int)} {k:Int} {ks:List Int} (h:k∈ks):E2 k (rdW d ks)=some (H0 d k):=by
 induction ks with
 | nil=>cases h
 | cons a r ih=>
  show (if a=k then some (H0 d a) else E2 k (rdW d r))=_
  by_cases b:a=k
  ·rw [if_pos b,b]
  ·rw [if_neg b,ih ((List.mem_cons.mp h).resolve_left (Ne.symm b))]
theorem valOf_rdW (d:List (Int × Int)) (k:Int):H0 (rdW d (places d)) k=H0 d k:=by
 unfold H0
 by_cases c:k∈places d
 ·rw [lookDi_rdW c]; rfl
 ·rw [lookDi_none (by rw [rdW_keys]; exact c)]; exact (Classical.not_not.mp fun h=>c (mem_places.mpr h)).symm
theorem at_subD {st:St} {i:Nat} {x v:Int} {l:List (Int × Int)} {Q:AV->Prop} (h:st.get i=some (.di l)) (e:E2 x l=some v) (q:Q (.i v)):subV st (.obj i) (.i x) Q:=by
 show match st.get i with | some (.gl l)=>subG l x Q | some (.ol l)=>subA l x Q | some (.di l)=>∃ v,E2 x l=some v/\Q (.i v) | _=>False
 rw [h]; exact ⟨v,e,q⟩
theorem ls_comp {st:St} {i:Nat} {o:AO} {d:List (Int × Int)} {K:KL} {cl:A7} (hg:st.get 2=some (.di d)) (hs:st.get i=some o) (hc:st.cut st.nx=st) (ts:List Int):∀ ds:List Int,(∀ k∈ts,k∈d.map (·.1))->K ((((ds++ts).filter (nz d)).map (tw d)).map .g) st ->
  J6 (.lst i o) 30 true st.nx [(49,.obj 0),(89,.obj 2)] (kEltIf (vcE tabs cl (fun Z=>False) cc_law_state_0) (vcE tabs cl (fun Z=>False) ce_law_state_0)) K ((ts.map .int).map .g) (((ds.filter (nz d)).map (tw d)).map .g) st:=by
 induction ts with
 | nil=>intro ds _ q; rw [List.append_nil] at q; exact q
 | cons k ts ih=>
  intro ds hk q
  have e:=lookDi_some (hk k (.head _))
  have z:=ih (ds++[k]) (fun x hx=>hk x (.tail _ hx)) (by rw [List.append_assoc]; exact q)
  rw [List.filter_append] at z
  refine comp_cons (at_subD hg e ?_)
  cases c:nz d k with
  | false=>
   rw [List.filter_cons_of_neg (by rw [c]; decide),List.filter_nil,List.append_nil] at z
   refine C5 c (And.intro hs ?_)
   show J6 _ _ _ _ _ _ _ _ _ (St.cut _ _)
   rw [hc]; exact z
  | true=>
   rw [List.filter_cons_of_pos c,List.filter_nil,List.map_append,List.map_append] at z
   refine I7 c (at_subD hg e (And.intro hs ?_))
   show J6 _ _ _ _ _ _ _ _ (_++[AV.g (tw d k)]) (St.cut _ _)
   rw [hc]; exact z
theorem ls_run {st:St} {i:Nat} {o:AO} {d:List (Int × Int)} {its:List AV} {K:KL} {cl:A7} (hg:st.get 2=some (.di d)) (hs:st.get i=some o) (hc:st.cut st.nx=st) (e:its=((K1 (d.map (·.1))).map .int).map .g) (q:K ((held d).map .g) st) :
  J6 (.lst i o) 30 true st.nx [(49,.obj 0),(89,.obj 2)] (kEltIf (vcE tabs cl (fun Z=>False) cc_law_state_0) (vcE tabs cl (fun Z=>False) ce_law_state_0)) K its [] st:=by
 subst e; exact ls_comp hg hs hc _ [] (fun k hk=>(G5 _).mem_iff.mp hk) q
noncomputable def msS (cls:Nat):Nat->List MdL->List (Nat × AO)
 | _,[]=>[]
 | b,d::r=>(b,modO cls d.name d.key d.cb d.db (b+2) (b+1))::(b+1,.gl (d.clients.map .str))::(b+2,objO d.name d.key (b+3))::(b+4,.gl d.rows)::msS cls (b+12) r
noncomputable abbrev lsS (cls:Nat) (V:KV) (ds:List MdL):St:=⟨(8,ldO 11 ds)::maL V (msS cls 11 ds),11+12*ds.length⟩
noncomputable def mdTs:Nat->List MdL->List AV
 | _,[]=>[]
 | b,d::r=>.tup [.s d.name,.i d.key,.i d.cb,.i d.db,.obj (b+1),.s d.name]::mdTs (b+12) r
noncomputable abbrev stL (k:Nat) (V:KV) (ds:List MdL):List (Nat × AO):=[(k,.ol [.obj (k+1),.obj (k+2),.obj (k+3),.obj (k+4),.obj 7,.obj 9,.obj 10]),(k+1,.gl (held V.words)),(k+2,.gl [.int V.top,.int V.dl,.int V.sl,.int V.size,.int V.limit,.int V.steps]),(k+3,.ol (mdTs 11 ds)),(k+4,.ol [.i V.ha,.i V.hb,.obj 4])]
theorem C9 {n cls:Nat} {V:KV} (ds:List MdL) (h3:ds.length<=3) (hw:V.words.length < 64) :
  Fun n 1026 [.obj 0] (lsS cls V ds) (.obj (11+12*ds.length)) ⟨stL (11+12*ds.length) V ds++(lsS cls V ds).sto,16+12*ds.length⟩:=by
 have hl:((K1 (V.words.map (·.1))).map GV.int).length<=1000000:=by rw [List.length_map,sortInts_len,List.length_map]; lia
 rcases ds with _ | ⟨a,_ | ⟨b,_ | ⟨c,_ | ⟨d,r⟩⟩⟩⟩
 case nil=>
  dsimp only [List.length_cons,List.length_nil,Nat.reduceMul,Nat.reduceAdd,lsS,ldO,ldL,msS,mdTs,List.cons_append,List.nil_append]
  refine J2 rfl rfl rfl ?_
  refine A1 ?_
  refine B0 hw ?_
  refine B0 (L4 hl) ?_
  refine ls_run rfl rfl rfl rfl ?_
  refine B3 (B8 _) ?_
  refine A1 ?_
  refine A1 ?_
  refine A1 ?_
  refine at_O ?_
  exact ⟨[0,1,2,3,4,5,6,7,8,9,10,16,12,13,14,15],rfl⟩
 case cons.nil=>
  dsimp only [List.length_cons,List.length_nil,Nat.reduceMul,Nat.reduceAdd,lsS,ldO,ldL,msS,mdTs,List.cons_append,List.nil_append]
  refine J2 rfl rfl rfl ?_
  refine A1 ?_
  refine B0 hw ?_
  refine B0 (L4 hl) ?_
  refine ls_run rfl rfl rfl rfl ?_
  refine B3 (B8 _) ?_
  refine A1 ?_
  refine A1 ?_
  refine And.intro rfl ?_
  refine A1 ?_
  refine at_O ?_
  exact ⟨[0,1,2,3,4,5,6,7,8,9,10,11,12,13,14,15,16,17,18,19,20,21,22,28,24,25,26,27],rfl⟩
 case cons.cons.nil=>
  dsimp only [List.length_cons,List.length_nil,Nat.reduceMul,Nat.reduceAdd,lsS,ldO,ldL,msS,mdTs,List.cons_append,List.nil_append]
  refine J2 rfl rfl rfl ?_
  refine A1 ?_
  refine B0 hw ?_
  refine B0 (L4 hl) ?_
  refine ls_run rfl rfl rfl rfl ?_
  refine B3 (B8 _) ?_
  refine A1 ?_
  refine A1 ?_
  refine And.intro rfl ?_
  refine And.intro rfl ?_
  refine A1 ?_
  refine at_O ?_
  exact ⟨[0,1,2,3,4,5,6,7,8,9,10,11,12,13,14,15,16,17,18,19,20,21,22,23,24,25,26,27,28,29,30,31,32,33,34,40,36,37,38,39],rfl⟩
 case cons.cons.cons.nil=>
  dsimp only [List.length_cons,List.length_nil,Nat.reduceMul,Nat.reduceAdd,lsS,ldO,ldL,msS,mdTs,List.cons_append,List.nil_append]
  refine J2 rfl rfl rfl ?_
  refine A1 ?_
  refine B0 hw ?_
  refine B0 (L4 hl) ?_
  refine ls_run rfl rfl rfl rfl ?_
  refine B3 (B8 _) ?_
  refine A1 ?_
  refine A1 ?_
  refine And.intro rfl ?_
  refine And.intro rfl ?_
  refine And.intro rfl ?_
  refine A1 ?_
  refine at_O ?_
  exact ⟨[0,1,2,3,4,5,6,7,8,9,10,11,12,13,14,15,16,17,18,19,20,21,22,23,24,25,26,27,28,29,30,31,32,33,34,35,36,37,38,39,40,41,42,43,44,45,46,52,48,49,50,51],rfl⟩
 case cons.cons.cons.cons=>exact absurd h3 (by rw [List.length_cons,List.length_cons,List.length_cons,List.length_cons]; lia)
set_option genInjectivity false in
set_option genSizeOf false in
structure CS where
 regs:List Int
 (h n z c v pc:Int)
noncomputable abbrev cpF (m r w:Nat) (C:CS):AO:=.inst 662 [(55,.obj m),(73,.obj r),(65,.i C.h),(15,.i C.n),(70,.i C.z),(38,.i C.c),(64,.i C.v),(74,.i C.pc),(53,.obj w)]
noncomputable abbrev cpS (sz:Int) (rows:List GV) (C:CS) (w:List (Int × Int)):St:=⟨[(0,cpF 1 2 3 C),(2,.gl (C.regs.map .int)),(4,.di w),(1,memO sz 4),(3,.gl rows)],5⟩
noncomputable def reg (l:List Int) (a:Int):Int:=(l[a.toNat]?).getD 0
structure Rg (sz:Int) (l:List Int):Prop where
 len:l.length=16
 r13:reg l 13=0
 r14:reg l 14=sz - 16
 r15:reg l 15=0
theorem reg_set {l:List Int} {a x:Int} {k:Nat} (h0:0 < k) (h:a < k):reg (l.set a.toNat x) k=reg l k:=by
 unfold reg; rw [List.getElem?_set_ne (by lia)]
theorem Rg.set {sz:Int} {l:List Int} (G:Rg sz l) {a x:Int} (h:a < 4):Rg sz (l.set a.toNat x):=
 ⟨(List.length_set ..).trans G.len,(reg_set (k:=13) (by decide) (by lia)).trans G.r13,(reg_set (k:=14) (by decide) (by lia)).trans G.r14,(reg_set (k:=15) (by decide) (by lia)).trans G.r15⟩
noncomputable def addR (x y:Int):Int:=Builtin.bitAnd (x+y) 4294967295
noncomputable def addV (x y:Int):Int:=(Builtin.bitAnd (Builtin.bitXor x (addR x y)) (Builtin.bitXor y (addR x y))).fdiv (2 ^ 31)
section
variable {n:Nat} {sz:Int} {rows:List GV} {C:CS} {w:List (Int × Int)} {a b c d:Int}
theorem at_reg {l:List Int} {Q:AV->Prop} (hl:l.length=16) (h1:0<=a) (h2:a < 16) (q:Q (.i (reg l a))):subG (l.map .int) a Q:=by
 obtain ⟨k,rfl⟩:=Int.eq_ofNat_of_zero_le h1
 have hk:k < l.length:=by lia
 refine at_sub (v:=.int l[k]) (by rw [List.getElem?_map,List.getElem?_eq_getElem hk]; rfl) (by lia) ?_
 rw [show reg l k=l[k] from by unfold reg; rw [Int.toNat_natCast,List.getElem?_eq_getElem hk]; rfl] at q
 exact q
theorem holds_s:FunC (n+3) 596 [.s [65,76],.g (.tup [.int a,.int b,.int c,.int d])] emp (.bool true) emp/\FunC (n+3) 596 [.s [69,81],.g (.tup [.int a,.int b,.int c,.int d])] emp (.bool (!(b==0))) emp/\FunC (n+3) 596 [.s [77,73],.g (.tup [.int a,.int b,.int c,.int d])] emp (.bool (!(a==0))) emp:=
 ⟨⟨rfl,⟨[],rfl⟩⟩,⟨rfl,⟨[],rfl⟩⟩,⟨rfl,⟨[],rfl⟩⟩⟩
theorem flags_s:Fun n 631 [.obj 0] (cpS sz rows C w) (.g (.tup [.int C.n,.int C.z,.int C.c,.int C.v])) (cpS sz rows C w):=⟨rfl,⟨[0,1,2,3,4],rfl⟩⟩
theorem op_mov {x:Int}:FunC (n+3) 582 [.s [77,79,86],.i a,.i x] emp (.g (.tup [.int x,.int (x.fdiv (2 ^ 31)),.int (if x=0 then 1 else 0),.int 0,.int 0,.none])) emp:=by
 refine ⟨rfl,?_⟩
 by_cases c:x=0
 ·rw [if_pos c]; exact I7 (decide_eq_true c) ⟨[],rfl⟩
 ·rw [if_neg c]; exact C5 (decide_eq_false c) ⟨[],rfl⟩
theorem op_add {x y:Int}:FunC (n+4) 582 [.s [65,68,68],.i x,.i y] emp (.g (.tup [.int (addR x y),.int ((addR x y).fdiv (2 ^ 31)),.int (if addR x y=0 then 1 else 0),.int ((x+y).fdiv (2 ^ 32)),.int (addV x y),.none])) emp:=by
 refine ⟨rfl,?_⟩
 by_cases c:addR x y=0
 ·rw [if_pos c]; exact I7 (decide_eq_true c) ⟨[],rfl⟩
 ·rw [if_neg c]; exact C5 (decide_eq_false c) ⟨[],rfl⟩
noncomputable def opNames:GV:=.tup [.str [77,79,86],.str [76,83,76],.str [65,83,82],.str [82,79,82],.str [65,78,68],.str [65,78,78],.str [73,79,82],.str [88,79,82],.str [65,68,68],.str [83,85,66],.str [77,85,76],.str [68,73,86]]
theorem opnames_s:Fun n 673 [] emp (.g opNames) emp:=⟨rfl,⟨[],rfl⟩⟩
theorem br_trap {t k:Int}:Fun (n+4) 638 [.obj 0,.s [84,82,65,80],.g (.tup [.str [84,82,65,80],.str [65,76],.int t,.int k])] (cpS sz rows C w) (.g (.tup [.str [116,114,97,112],.int t,.int k])) (cpS sz rows C w):=by
 refine J2 rfl rfl rfl ?_
 refine A0 flags_s [0,1,2,3,4] ?_
 refine C0 (holds_s.1) [] ?_
 exact ⟨[0,1,2,3,4],rfl⟩
theorem br_eq {t k:Int}:Fun (n+4) 638 [.obj 0,.s [84,82,65,80],.g (.tup [.str [84,82,65,80],.str [69,81],.int t,.int k])] (cpS sz rows C w) (if C.z=0 then .no else .g (.tup [.str [116,114,97,112],.int t,.int k])) (cpS sz rows C w):=by
 by_cases c:C.z=0
 ·rw [if_pos c]
  refine J2 rfl rfl rfl ?_
  refine A0 flags_s [0,1,2,3,4] ?_
  refine C0 (holds_s.2.1) [] ?_
  refine I7 (b:=!!(C.z==0)) (by rw [c]; rfl) ?_
  exact ⟨[0,1,2,3,4],rfl⟩
 ·rw [if_neg c]
  refine J2 rfl rfl rfl ?_
  refine A0 flags_s [0,1,2,3,4] ?_
  refine C0 (holds_s.2.1) [] ?_
  refine C5 (b:=!!(C.z==0)) (by rw [beq_eq_false_iff_ne.mpr c]; rfl) ?_
  exact ⟨[0,1,2,3,4],rfl⟩
theorem br_mi:Fun (n+4) 638 [.obj 0,.s [66],.g (.tup [.str [66],.str [77,73],.int 0,.int 0])] (cpS sz rows C w) .no (cpS sz rows C w):=by
 refine J2 rfl rfl rfl ?_
 refine A0 flags_s [0,1,2,3,4] ?_
 refine C0 (holds_s.2.2) [] ?_
 by_cases c:C.n=0
 ·refine I7 (b:=!!(C.n==0)) (by rw [c]; rfl) ?_
  exact ⟨[0,1,2,3,4],rfl⟩
 ·refine C5 (b:=!!(C.n==0)) (by rw [beq_eq_false_iff_ne.mpr c]; rfl) ?_
  refine A1 ?_
  refine A1 ?_
  refine A1 ?_
  refine A1 ?_
  refine at_O ?_
  exact ⟨[0,1,2,3,4],by rw [Int.add_zero]; rfl⟩
theorem br_br (G:Rg sz C.regs):Fun (n+4) 638 [.obj 0,.s [66,82],.g (.tup [.str [66,82],.str [65,76],.int 15,.int 0])] (cpS sz rows C w) .no (cpS sz rows ⟨C.regs,C.h,C.n,C.z,C.c,C.v,0⟩ w):=by
 refine J2 rfl rfl rfl ?_
 refine A0 flags_s [0,1,2,3,4] ?_
 refine C0 (holds_s.1) [] ?_
 refine A1 ?_
 refine A1 ?_
 refine at_reg (a:=15) G.len (by decide) (by decide) ?_
 rw [G.r15]
 refine A1 ?_
 refine A1 ?_
 refine at_O ?_
 exact ⟨[0,1,2,3,4],rfl⟩
theorem at_rc {l:List Int} {Q:Prop} (hl:l.length=16) (h1:0<=a) (h2:a < 4) (q:Q):chk (decide (0<=a/\a.toNat < (l.map GV.int).length/\a<=1000000)) Q:=I8 ⟨h1,by rw [List.length_map]; lia,by lia⟩ q
theorem calc_movi {k:Int} (G:Rg sz C.regs) (h1:0<=a) (h2:a < 4):Fun (n+5) 652 [.obj 0,.s [77,79,86,73],.g (.tup [.str [77,79,86,73],.int a,.int 0,.int k])] (cpS sz rows C w) .no
  (cpS sz rows ⟨C.regs.set a.toNat (k.fmod 4294967296),C.h,(k.fmod 4294967296).fdiv (2 ^ 31),if k.fmod 4294967296=0 then 1 else 0,0,0,C.pc⟩ w):=by
 refine J2 rfl rfl rfl ?_
 refine A0 opnames_s [] ?_
 refine A0 opnames_s [] ?_
 refine A1 ?_
 refine at_reg (a:=0) G.len (by decide) (by decide) ?_
 refine C0 (op_mov) [] ?_
 refine A1 ?_
 refine A1 ?_
 refine A1 ?_
 refine at_rc G.len h1 h2 ?_
 rw [<- List.map_set]
 refine A1 ?_
 refine at_O ?_
 exact ⟨[0,1,2,3,4],rfl⟩
theorem calc_add (G:Rg sz C.regs) (h1:0<=a) (h2:a < 4):Fun (n+6) 652 [.obj 0,.s [65,68,68],.g (.tup [.str [65,68,68],.int a,.int a,.int 1])] (cpS sz rows C w) .no
  (cpS sz rows ⟨C.regs.set a.toNat (addR (reg C.regs a) (reg C.regs 1)),C.h,(addR (reg C.regs a) (reg C.regs 1)).fdiv (2 ^ 31),if addR (reg C.regs a) (reg C.regs 1)=0 then 1 else 0,(reg C.regs a+reg C.regs 1).fdiv (2 ^ 32),addV (reg C.regs a) (reg C.regs 1),C.pc⟩ w):=by
 refine J2 rfl rfl rfl ?_
 refine A0 opnames_s [] ?_
 refine at_reg (a:=1) G.len (by decide) (by decide) ?_
 refine A1 ?_
 refine at_reg G.len h1 (Int.lt_trans h2 (by decide)) ?_
 refine C0 (op_add) [] ?_
 refine A1 ?_
 refine A1 ?_
 refine A1 ?_
 refine at_rc G.len h1 h2 ?_
 rw [<- List.map_set]
 refine A1 ?_
 refine at_O ?_
 exact ⟨[0,1,2,3,4],rfl⟩
theorem tr_str {k:Int} (G:Rg sz C.regs) (h1:0<=a) (h2:a < 4) (hk:0<=k) (hk2:k < sz) (hw:w.length < 1000000):Fun (n+2) 624 [.obj 0,.s [83,84,82],.i a,.i k] (cpS sz rows C w) .no (cpS sz rows C (H7 (k.fdiv 4) ((reg C.regs a).fmod 4294967296) w)):=by
 refine J2 rfl rfl rfl ?_
 refine at_reg G.len h1 (Int.lt_trans h2 (by decide)) ?_
 refine A0 (put_word_s hk hk2 hw) [1,4] ?_
 exact ⟨[0,1,2,3,4],rfl⟩
theorem tr_ldb {k:Int} (G:Rg sz C.regs) (h1:0<=a) (h2:a < 4) (hk:0<=k) (hk2:k < sz):Fun (n+3) 624 [.obj 0,.s [76,68,66],.i a,.i k] (cpS sz rows C w) .no
  (cpS sz rows ⟨C.regs.set a.toNat (Builtin.bitAnd ((H0 w (k.fdiv 4)).fdiv (2 ^ (8*k.fmod 4).toNat)) 255),C.h,C.n,C.z,C.c,C.v,C.pc⟩ w):=by
 refine J2 rfl rfl rfl ?_
 refine A0 (byte_of_s hk hk2) [1,4] ?_
 refine at_rc G.len h1 h2 ?_
 rw [<- List.map_set]
 exact ⟨[0,1,2,3,4],rfl⟩
end
set_option tactic.hygienic true
noncomputable def Wrd (φ:Int->Int) (k:Nat) (w:List (Int × Int)):Prop:=DOK w/\w.length<=k/\∀ a,H0 w a=φ a
noncomputable abbrev tr3 (a b:Int):AV:=.g (.tup [.str [116,114,97,112],.int a,.int b])
noncomputable def CS.nxt (C:CS):CS:=⟨C.regs,C.h,C.n,C.z,C.c,C.v,C.pc+1⟩
section
variable {n k:Nat} {sz:Int} {rows:List GV} {C C1:CS} {w w1:List (Int × Int)} {φ φ1:Int->Int} {t:AV}
theorem at_subp {l:List GV} {k:Int} {v:GV} {Q:AV->Prop} (h0:0<=k) (h:l[k.toNat]?=some v) (hk:k<=1000000) (q:Q (.g v)):subG l k Q:=by
 obtain ⟨p,rfl⟩:=Int.eq_ofNat_of_zero_le h0
 exact at_sub h (by lia) q
theorem step_pre {nm:List Nat} {r1 r2 r3:GV} (hr:rows[C.pc.toNat]?=some (.tup [.str nm,r1,r2,r3])) (h0:0<=C.pc) (hrl:rows.length<=1000) (sh:Shut [.obj 0] (cpS sz rows C w) t (cpS sz rows C1 w1))
  (q:B4 tabs (CP n) (drp 4 b_Cpu_step) [(7,.obj 0),(20,.g (.tup [.str nm,r1,r2,r3])),(35,.s nm)] (cpS sz rows C.nxt w) (fun Z=>Ret 5 t (cpS sz rows C1 w1) .no) (Ret 5 t (cpS sz rows C1 w1)) fun Z=>False):Fun n 617 [.obj 0] (cpS sz rows C w) t (cpS sz rows C1 w1):=by
 have hlt:=(List.getElem?_eq_some_iff.mp hr).1
 refine J2 sh rfl rfl ?_
 refine C5 (decide_eq_false (show ¬ C.pc < 0 by lia)) ?_
 refine B0 (by lia) ?_
 refine C5 (decide_eq_false (show ¬ (rows.length:Int)<=C.pc by lia)) ?_
 refine A1 ?_
 refine at_subp h0 hr (by lia) ?_
 refine A1 ?_
 refine A1 ?_
 exact J8 rfl q
noncomputable def StepTo (sz:Int) (rows:List GV) (k:Nat) (C:CS) (φ:Int->Int) (C1:CS) (t:AV) (φ1:Int->Int):Prop:=∀ w,Wrd φ k w->∃ w1,Wrd φ1 (k+1) w1/\∀ n,Fun (n+7) 617 [.obj 0] (cpS sz rows C w) t (cpS sz rows C1 w1)
theorem Wrd.up (h:Wrd φ k w):Wrd φ (k+1) w:=⟨h.1,Nat.le_succ_of_le h.2.1,h.2.2⟩
theorem StepTo.one (h:∀ w n,(∀ a,H0 w a=φ a)->Fun (n+7) 617 [.obj 0] (cpS sz rows C w) t (cpS sz rows C1 w)):StepTo sz rows k C φ C1 t φ:=fun w W=>⟨w,W.up,fun n=>h w n W.2.2⟩
theorem adr {x k:Int} (hx:x=0) (h0:64<=k) (h1:k<=460):(x+k).fmod 4294967296=k:=by
 rw [hx,Int.zero_add,Int.fmod_eq_emod_of_nonneg _ (by decide)]; lia
noncomputable def sel (r:GV):Nat:=match r with
 | .tup (.str x::.str (y::_)::_)=>x.length+10*y
 | _=>0
theorem sel_ne {r q:GV} {i j:Nat} (h1:sel r=i) (h2:sel q=j) (h:(i==j)=false):r≠q:=fun e=>ne_of_beq_false h (h1.symm.trans ((congrArg sel e).trans h2))
theorem Fun.val {f:Nat} {as:List AV} {s s':St} {v v':AV} (h:Fun n f as s v s') (e:v=v'):Fun n f as s v' s':=e▸h
theorem str_at {a b:Int} (G:Rg sz C.regs) (h1:0<=a) (h2:a < 4) (h3:64<=b) (h4:b<=460) (hsz:461<=sz) (hw:w.length < 1000000):Fun (n+2) 624 [.obj 0,.s [83,84,82],.i a,.i ((reg C.regs 13+b).fmod 4294967296)] (cpS sz rows C w) .no (cpS sz rows C (H7 (b.fdiv 4) ((reg C.regs a).fmod 4294967296) w)):=by
 rw [adr G.r13 h3 h4]; exact tr_str G h1 h2 (by lia) (by lia) hw
theorem ldb_at {a b:Int} (G:Rg sz C.regs) (h1:0<=a) (h2:a < 4) (h3:64<=b) (h4:b<=460) (hsz:461<=sz):Fun (n+3) 624 [.obj 0,.s [76,68,66],.i a,.i ((reg C.regs 13+b).fmod 4294967296)] (cpS sz rows C w) .no
  (cpS sz rows ⟨C.regs.set a.toNat (Builtin.bitAnd ((H0 w (b.fdiv 4)).fdiv (2 ^ (8*b.fmod 4).toNat)) 255),C.h,C.n,C.z,C.c,C.v,C.pc⟩ w):=by
 rw [adr G.r13 h3 h4]; exact tr_ldb G h1 h2 (by lia) (by lia)
theorem step_s {r:GV} {x:Int} (R:Rw r x) (hr:rows[C.pc.toNat]?=some r) (h0:0<=C.pc) (hrl:rows.length<=1000) (G:Rg sz C.regs) (hsz:461<=sz) (hk:k<=1000) :
  ∃ C1 t φ1,Rg sz C1.regs/\(r≠brRow/\C1.pc=C.pc+1\/C1.pc=0)/\(t=.no\/t=tr3 0 9\/∃ a b,a≠0/\t=tr3 a b)/\(r=H6->t=tr3 0 9)/\StepTo sz rows k C φ C1 t φ1:=by
 cases R
 case trap0=>
  refine ⟨C.nxt,tr3 0 9,φ,G,.inl ⟨sel_ne (i:=654) (j:=652) rfl rfl rfl,rfl⟩,.inr (.inl rfl),fun Z=>rfl,.one fun w n Z=>step_pre hr h0 hrl rfl (F6 ?_)⟩
  refine A1 ?_
  refine A0 br_trap [0,1,2,3,4] ?_
  exact ⟨[0,1,2,3,4],rfl⟩
 case br=>
  refine ⟨⟨C.regs,C.h,C.n,C.z,C.c,C.v,0⟩,.no,φ,G,.inr rfl,.inl rfl,(fun h=>absurd h (sel_ne (i:=652) (j:=654) rfl rfl rfl)),.one fun w n Z=>step_pre hr h0 hrl rfl (F6 ?_)⟩
  refine A1 ?_
  refine A0 (br_br (C:=C.nxt) G) [0,1,2,3,4] ?_
  exact ⟨[0,1,2,3,4],rfl⟩
 case b=>
  refine ⟨C.nxt,.no,φ,G,.inl ⟨sel_ne (i:=771) (j:=652) rfl rfl rfl,rfl⟩,.inl rfl,(fun h=>absurd h (sel_ne (i:=771) (j:=654) rfl rfl rfl)),.one fun w n Z=>step_pre hr h0 hrl rfl (F6 ?_)⟩
  refine A1 ?_
  refine A0 br_mi [0,1,2,3,4] ?_
  exact ⟨[0,1,2,3,4],rfl⟩
 case trap a b p1 p2 p3 p4=>
  refine ⟨C.nxt,if C.z=0 then .no else tr3 a b,φ,G,.inl ⟨sel_ne (i:=694) (j:=652) rfl rfl rfl,rfl⟩,?_,(fun h=>absurd h (sel_ne (i:=694) (j:=654) rfl rfl rfl)),.one fun w n Z=>step_pre hr h0 hrl ?_ (F6 ?_)⟩
  ·by_cases c:C.z=0
   ·rw [if_pos c]; exact .inl rfl
   ·rw [if_neg c]; exact .inr (.inr ⟨a,b,by lia,rfl⟩)
  ·by_cases c:C.z=0
   ·rw [if_pos c]; rfl
   ·rw [if_neg c]; rfl
  refine A1 ?_
  by_cases c:C.z=0
  ·rw [if_pos c]
   refine A0 ((br_eq (C:=C.nxt)).val (if_pos c)) [0,1,2,3,4] ?_
   exact ⟨[0,1,2,3,4],rfl⟩
  ·rw [if_neg c]
   refine A0 ((br_eq (C:=C.nxt)).val (if_neg c)) [0,1,2,3,4] ?_
   exact ⟨[0,1,2,3,4],rfl⟩
 case movi a b p1 p2 p3 p4=>
  refine ⟨⟨C.regs.set a.toNat (b.fmod 4294967296),C.h,(b.fmod 4294967296).fdiv (2 ^ 31),if b.fmod 4294967296=0 then 1 else 0,0,0,C.pc+1⟩,.no,φ,G.set (a:=a) p2,.inl ⟨sel_ne (i:=0) (j:=652) rfl rfl rfl,rfl⟩,.inl rfl,(fun h=>absurd h (sel_ne (i:=0) (j:=654) rfl rfl rfl)),.one fun w n Z=>step_pre hr h0 hrl rfl (F6 ?_)⟩
  refine A1 ?_
  refine A1 ?_
  refine A1 ?_
  refine A1 ?_
  refine A0 (calc_movi (C:=C.nxt) G p1 p2) [0,1,2,3,4] ?_
  exact ⟨[0,1,2,3,4],rfl⟩
 case add a p1 p2=>
  refine ⟨⟨C.regs.set a.toNat (addR (reg C.regs a) (reg C.regs 1)),C.h,(addR (reg C.regs a) (reg C.regs 1)).fdiv (2 ^ 31),if addR (reg C.regs a) (reg C.regs 1)=0 then 1 else 0,(reg C.regs a+reg C.regs 1).fdiv (2 ^ 32),addV (reg C.regs a) (reg C.regs 1),C.pc+1⟩,.no,φ,G.set (a:=a) p2,.inl ⟨sel_ne (i:=0) (j:=652) rfl rfl rfl,rfl⟩,.inl rfl,(fun h=>absurd h (sel_ne (i:=0) (j:=654) rfl rfl rfl)),.one fun w n Z=>step_pre hr h0 hrl rfl (F6 ?_)⟩
  refine A1 ?_
  refine A1 ?_
  refine A1 ?_
  refine A1 ?_
  refine A0 (calc_add (C:=C.nxt) G p1 p2) [0,1,2,3,4] ?_
  exact ⟨[0,1,2,3,4],rfl⟩
 case str a b p1 p2 p3 p4=>
  refine ⟨C.nxt,.no,fun y=>if y=b.fdiv 4 then (reg C.regs a).fmod 4294967296 else φ y,G,.inl ⟨sel_ne (i:=0) (j:=652) rfl rfl rfl,rfl⟩,.inl rfl,(fun h=>absurd h (sel_ne (i:=0) (j:=654) rfl rfl rfl)),fun w W=>⟨H7 (b.fdiv 4) ((reg C.regs a).fmod 4294967296) w,?_,fun n=>step_pre hr h0 hrl rfl (F6 ?_)⟩⟩
  ·obtain ⟨d1,d2⟩:=storeDi_ok W.1 (U_div4 (a:=b) (by lia) (by lia)) (U_mod (reg C.regs a))
   exact ⟨d1,Nat.le_trans d2 (Nat.succ_le_succ W.2.1),fun y=>by rw [valOf_store,W.2.2]⟩
  refine F6 (at_reg (a:=13) (l:=C.regs) G.len (by decide) (by decide) ?_)
  refine A0 (str_at (C:=C.nxt) G p1 p2 p3 p4 hsz (w:=w) (by have:=W.2.1; lia)) [0,1,2,3,4] ?_
  refine at_O ?_
  exact ⟨[0,1,2,3,4],rfl⟩
 case ldb a b p1 p2 p3 p4=>
  refine ⟨⟨C.regs.set a.toNat (Builtin.bitAnd ((φ (b.fdiv 4)).fdiv (2 ^ (8*b.fmod 4).toNat)) 255),C.h,C.n,C.z,C.c,C.v,C.pc+1⟩,.no,φ,G.set (a:=a) p2,.inl ⟨sel_ne (i:=0) (j:=652) rfl rfl rfl,rfl⟩,.inl rfl,(fun h=>absurd h (sel_ne (i:=0) (j:=654) rfl rfl rfl)),.one fun w n W=>step_pre hr h0 hrl rfl (F6 ?_)⟩
  rw [<- W]
  refine F6 (at_reg (a:=13) (l:=C.regs) G.len (by decide) (by decide) ?_)
  refine A0 (ldb_at (C:=C.nxt) G p1 p2 p3 p4 hsz) [0,1,2,3,4] ?_
  refine at_O ?_
  exact ⟨[0,1,2,3,4],rfl⟩
end
set_option tactic.hygienic false
noncomputable abbrev mcO (V:KV) (s:Int):AO:=.inst 892 [(92,.i V.top),(94,.i V.dl),(98,.i V.sl),(55,.obj 1),(100,.obj 3),(101,.obj 5),(50,.obj 8),(11,.obj 9),(103,.obj 10),(57,.i V.limit),(104,.i s)]
structure Sg (V:KV) (nm:Int->List Nat) (r N:Nat) (σ:Int->CS->List (Int × Int)->St):Prop where
 g:∀ s C w,((σ s C w).get 0,(σ s C w).get 5,(σ s C w).get r,(σ s C w).get 1,(σ s C w).nx,(σ s C w).cut N)=(some (mcO V s),some (cpF 1 r 7 C),some (.gl (C.regs.map .int)),some (memO V.size 2),N,σ s C w)
 st:∀ s C w C1 w1,(got (σ s C w) (ren (σ s C w).nx [5,1,r,7,2]) (cpS V.size V.rows C w).sto,inB [5,1,r,7,2] 5 (σ s C w).nx,mg [5,1,r,7,2] (cpS V.size V.rows C w) (σ s C w) (cpS V.size V.rows C1 w1))=(rns (ren (σ s C w).nx [5,1,r,7,2]) (cpS V.size V.rows C w).sto,true,σ s C1 w1)
 s0:∀ s C w s',(σ s C w).set 0 (mcO V s')=σ s' C w
 cv:∀ p,E1 N [(7,.obj 0),(20,.i p)]=[(7,.obj 0),(20,.i p)]
 rm:∀ n s C w Q X,Q (.s (nm C.pc)) (σ s C w)->CP (n+3) 882 [.obj 0] (σ s C w) Q X
section
variable {V:KV} {nm:Int->List Nat} {r N n:Nat} {σ:Int->CS->List (Int × Int)->St} {s:Int} {C C1:CS} {w w1:List (Int × Int)} {Q:KQ} {X:KX} {t:AV}
theorem Sg.step (S:Sg V nm r N σ) (h:Fun n 617 [.obj 0] (cpS V.size V.rows C w) t (cpS V.size V.rows C1 w1)) (ht:t.rn (ren (σ s C w).nx [5,1,r,7,2])=t) (q:Q t (σ s C1 w1)):CP (n+1) 617 [.obj 5] (σ s C w) Q X:=by
 have e:=S.st s C w C1 w1
 simp only [Prod.mk.injEq] at e
 refine C8 h [5,1,r,7,2] ?_ (congr (congrArg Prod.mk ht) e.2.2) q
 show ([AV.obj 5],_,_)=([AV.obj 5],_,true)
 rw [e.1,e.2.1]
theorem at_setA {st:St} {i c a:Nat} {fs:A2} {v:AV} {Q:St->Prop} (h:st.get i=some (.inst c fs)) (e:tabs.field c a=true) (q:Q (st.set i (.inst c (put a v fs)))):setAttrV tabs st (.obj i) a v Q:=by
 show instO (st.get i) _
 rw [h]
 show chk (tabs.field c a) _
 rw [e]; exact q
noncomputable abbrev done_t:GV:=.tup [.str [100,111,110,101],.int 0,.int 0,.str []]
noncomputable abbrev limit_t:GV:=.tup [.str [108,105,109,105,116],.int 0,.int 0,.str []]
noncomputable abbrev trap_t (a b:Int) (x:List Nat):GV:=.tup [.str [116,114,97,112],.int a,.int b,.str x]
noncomputable abbrev cvs (p:Int):A2:=[(7,.obj 0),(20,.i p)]
theorem turn_s {R:KQ} {K:KN} {p:Int} (S:Sg V nm r N σ) (hs:V.sl+16<=V.size) (G1:Rg V.size C1.regs) (h:Fun (n+7) 617 [.obj 0] (cpS V.size V.rows C w) t (cpS V.size V.rows C1 w1))
  (q:t=.no/\K [(7,.obj 0),(20,.i p),(77,.no)] (σ (s+1) C1 w1)\/t=tr3 0 9/\R (.g done_t) (σ (s+1) C1 w1)\/∃ a b,a≠0/\t=tr3 a b/\R (.g (trap_t a b (nm C1.pc))) (σ (s+1) C1 w1)) :
  E8 (B4 tabs (CP (n+8)) wb_Machine_call_0) R (fun Z=>False) (cvs p) (σ s C w) K:=by
 have g:=fun s C w=>S.g s C w
 simp only [Prod.mk.injEq] at g
 refine F6 (B5 (g _ _ _).1 rfl (at_setA (g _ _ _).1 rfl ?_))
 show K4 _ _ _ _ _ ((σ s C w).set 0 (mcO V (s+1)))
 rw [S.s0]
 refine at_q rfl (B5 (g _ _ _).1 rfl (at_mth (g _ _ _).2.1 rfl (S.step h ?_ ?_)))
 ·rcases q with ⟨rfl,_⟩ | ⟨rfl,_⟩ | ⟨a,b,_,rfl,_⟩<;>rfl
 rcases q with ⟨rfl,q⟩ | ⟨rfl,q⟩ | ⟨a,b,ha,rfl,q⟩
 ·have h1:decide (V.sl<=reg C1.regs 14)=true:=decide_eq_true (by have:=G1.r14; lia)
  have h2:decide (reg C1.regs 14<=V.size)=true:=decide_eq_true (by have:=G1.r14; lia)
  refine at_q rfl (B5 (g _ _ _).1 rfl (B5 (g _ _ _).1 rfl (B5 (g _ _ _).2.1 rfl (at_subI (g _ _ _).2.2.1 (at_reg (a:=14) G1.len (by decide) (by decide) (I7 h1 (B5 (g _ _ _).1 rfl (B5 (g _ _ _).2.2.2.1 rfl ?_))))))))
  refine C5 (b:=!decide (reg C1.regs 14<=V.size)) (by rw [h2]; rfl) ?_
  exact at_q rfl (at_q rfl (J8 rfl q))
 ·exact at_q rfl (at_q rfl q)
 ·refine at_q rfl (at_q rfl (C5 (b:=a==0) (beq_eq_false_iff_ne.mpr ha) ?_))
  exact at_q rfl (at_mth (g _ _ _).1 rfl (S.rm (n+5) _ _ _ _ _ q))
noncomputable def RunTo (V:KV) (nm:Int->List Nat) (k f:Nat) (s:Int) (C:CS) (φ:Int->Int) (res:GV) (s1:Int) (C1:CS) (φ1:Int->Int) (k1:Nat):Prop:=∀ w,Wrd φ k w->∃ w1,Wrd φ1 k1 w1/\∀ (n r N:Nat) (σ:Int->CS->List (Int × Int)->St) (p:Int) (R:KQ) (K:KN),Sg V nm r N σ->(∀ s C w,R (.g limit_t) (σ s C w)->K (cvs p) (σ s C w))->R (.g res) (σ s1 C1 w1) ->
 WhileN N (kTest (vcE tabs (CP (n+8)) (fun Z=>False) H5)) (E8 (B4 tabs (CP (n+8)) wb_Machine_call_0) R fun Z=>False) K f (cvs p) (σ s C w)
theorem test_t {f:Nat} {K:KN} {p:Int} {bd:A2->St->(A2->St->Prop)->Prop} (S:Sg V nm r N σ) (h:s < V.limit) (q:bd (cvs p) (σ s C w) fun vs st=>WhileN N (kTest (vcE tabs (CP n) (fun Z=>False) H5)) bd K f (E1 N (kpVs (cvs p) vs)) (st.cut N)) :
  WhileN N (kTest (vcE tabs (CP n) (fun Z=>False) H5)) bd K (f+1) (cvs p) (σ s C w):=by
 have g:=S.g s C w
 simp only [Prod.mk.injEq] at g
 exact B5 g.1 rfl (B5 g.1 rfl (I7 (decide_eq_true h) q))
theorem test_f {f:Nat} {K:KN} {p:Int} {bd:A2->St->(A2->St->Prop)->Prop} (S:Sg V nm r N σ) (h:¬ s < V.limit) (q:K (cvs p) (σ s C w)) :
  WhileN N (kTest (vcE tabs (CP n) (fun Z=>False) H5)) bd K (f+1) (cvs p) (σ s C w):=by
 have g:=S.g s C w
 simp only [Prod.mk.injEq] at g
 exact B5 g.1 rfl (B5 g.1 rfl (C5 (decide_eq_false h) q))
variable {φ:Int->Int} {k:Nat}
noncomputable def IsRes (nm:Int->List Nat) (res:GV):Prop:=res=done_t\/res=limit_t\/∃ a b p,res=trap_t a b (nm p)
theorem run_l {f k1:Nat} (hk:k<=k1) (h:¬ s < V.limit):RunTo V nm k (f+1) s C φ limit_t s C φ k1:=fun w W=>⟨w,⟨W.1,Nat.le_trans W.2.1 hk,W.2.2⟩,fun n r N σ p R K S hK q=>test_f S h (hK _ _ _ q)⟩
theorem run_0 {f k1:Nat} (hs:V.sl+16<=V.size) (hsz:461<=V.size) (h0:V.rows[0]?=some H6) (hrl:V.rows.length<=1000) (G:Rg V.size C.regs) (hp:C.pc=0) (hk:k < k1) (hk1:k<=1000) :
  ∃ res s1 C1 φ1,IsRes nm res/\RunTo V nm k (f+1) s C φ res s1 C1 φ1 k1:=by
 by_cases c:s < V.limit
 ·obtain ⟨C1,t,φ1,G1,_,_,ht,H⟩:=step_s (k:=k) (φ:=φ) Rw.trap0 (by rw [hp]; exact h0) (by lia) hrl G hsz hk1
  obtain rfl:=ht rfl
  refine ⟨done_t,s+1,C1,φ1,.inl rfl,fun w W=>?_⟩
  obtain ⟨w1,W1,h⟩:=H w W
  exact ⟨w1,⟨W1.1,Nat.le_trans W1.2.1 hk,W1.2.2⟩,fun n r N σ p R K S hK q=>test_t S c (turn_s S hs G1 (h n) (.inr (.inl ⟨rfl,q⟩)))⟩
 ·exact ⟨_,s,C,φ,.inr (.inl rfl),run_l (Nat.le_of_lt hk) c⟩
theorem run_s (hs:V.sl+16<=V.size) (hsz:461<=V.size) (h0:V.rows[0]?=some H6) (hrl:V.rows.length<=1000) (hR:∀ x∈V.rows,IsRw x) (hL:∀ (p:Nat) x,V.rows[p]?=some x->x=H6\/x=brRow\/p+1 < V.rows.length) (d:Nat):∀ (k:Nat) (s:Int) (C:CS) (φ:Int->Int),Rg V.size C.regs->0<=C.pc->C.pc.toNat+d=V.rows.length->0 < d->k+d+1<=1000 ->
  ∃ res s1 C1 φ1,IsRes nm res/\RunTo V nm k (d+1) s C φ res s1 C1 φ1 (k+d+1):=by
 induction d with
 | zero=>exact fun Z Z Z Z Z Z Z h=>absurd h (Nat.lt_irrefl _)
 | succ d ih=>
  intro k s C φ G hp hd _ hk
  by_cases c:s < V.limit
  ·have hlt:C.pc.toNat < V.rows.length:=by lia
   have hr:=List.getElem?_eq_getElem hlt
   obtain ⟨x,R⟩:=hR _ (List.getElem_mem hlt)
   obtain ⟨C1,t,φ1,G1,e1,e2,e4,H⟩:=step_s (k:=k) (φ:=φ) R hr hp hrl G hsz (by lia)
   have go:∀ res s1 C2 φ2,IsRes nm res->t=.no->RunTo V nm (k+1) (d+1) (s+1) C1 φ1 res s1 C2 φ2 (k+(d+1)+1)->∃ res s1 C1 φ1,IsRes nm res/\RunTo V nm k (d+1+1) s C φ res s1 C1 φ1 (k+(d+1)+1):=fun res s1 C2 φ2 h1 ht H2=>by
    refine ⟨res,s1,C2,φ2,h1,fun w W=>?_⟩
    obtain ⟨w1,W1,h⟩:=H w W
    obtain ⟨w2,W2,h2⟩:=H2 w1 W1
    refine ⟨w2,W2,fun n r N σ p R K S hK q=>test_t S c (turn_s S hs G1 (h n) (.inl ⟨ht,?_⟩))⟩
    have g:=S.g (s+1) C1 w1
    simp only [Prod.mk.injEq] at g
    show WhileN _ _ _ _ _ (E1 N (cvs p)) _
    rw [S.cv,g.2.2.2.2.2]
    exact h2 n r N σ p R K S hK q
   rcases e2 with rfl | rfl | ⟨a,b,ha,rfl⟩
   ·rcases e1 with e1 | e1
    ·have hd':C1.pc.toNat+d=V.rows.length/\0 < d:=by
      rcases hL _ _ hr with e | e | e
      ·cases e4 e
      ·exact absurd e e1.1
      ·exact ⟨by have:=e1.2; lia,by lia⟩
     obtain ⟨res,s1,C2,φ2,h1,H2⟩:=ih (k+1) (s+1) C1 φ1 G1 (by have:=e1.2; lia) hd'.1 hd'.2 (by lia)
     exact go res s1 C2 φ2 h1 rfl (by rw [show k+(d+1)+1=k+1+d+1 by lia]; exact H2)
    ·obtain ⟨res,s1,C2,φ2,h1,H2⟩:=run_0 (nm:=nm) (s:=s+1) (C:=C1) (φ:=φ1) (k:=k+1) (f:=d) (k1:=k+(d+1)+1) hs hsz h0 hrl G1 e1 (by lia) (by lia)
     exact go res s1 C2 φ2 h1 rfl H2
   ·refine ⟨done_t,s+1,C1,φ1,.inl rfl,fun w W=>?_⟩
    obtain ⟨w1,W1,h⟩:=H w W
    exact ⟨w1,⟨W1.1,Nat.le_trans W1.2.1 (by lia),W1.2.2⟩,fun n r N σ p R K S hK q=>test_t S c (turn_s S hs G1 (h n) (.inr (.inl ⟨rfl,q⟩)))⟩
   ·refine ⟨trap_t a b (nm C1.pc),s+1,C1,φ1,.inr (.inr ⟨a,b,C1.pc,rfl⟩),fun w W=>?_⟩
    obtain ⟨w1,W1,h⟩:=H w W
    exact ⟨w1,⟨W1.1,Nat.le_trans W1.2.1 (by lia),W1.2.2⟩,fun n r N σ p R K S hK q=>test_t S c (turn_s S hs G1 (h n) (.inr (.inr ⟨a,b,ha,rfl,q⟩)))⟩
  ·exact ⟨_,s,C,φ,.inr (.inl rfl),run_l (by lia) c⟩
end
noncomputable def regs0 (sz:Int):List Int:=(List.replicate 16 0).set 14 (sz - 16)
theorem Rg0 {sz:Int}:Rg sz (regs0 sz):=⟨rfl,rfl,rfl,rfl⟩
theorem prepare_s {n:Nat} {V:KV} {s p:Int} {C:CS}:Fun n 868 [.obj 0,.i p] ⟨[(0,mcO V s),(1,memO V.size 2),(5,cpF 1 6 7 C)],11⟩ .no ⟨[(0,mcO V s),(1,memO V.size 2),(5,cpF 1 11 7 ⟨regs0 V.size,0,0,0,0,0,p⟩),(11,.gl ((regs0 V.size).map .int))],12⟩:=by
 refine J2 rfl rfl rfl ?_
 repeat' refine A1 ?_
 refine at_O ?_
 exact ⟨[0,1,2,3,4,5,6,7,8,9,10,11],rfl⟩
noncomputable def modAt:List MdL->Int->List Nat
 | [],_=>[]
 | d::r,p=>if d.cb<=p/\p < d.cb+d.rows.length then d.name else modAt r p
theorem I2 {d:MdL} {r:List MdL} {p:Int}:modAt (d::r) p=if d.cb<=p/\p < d.cb+d.rows.length then d.name else modAt r p:=rfl
theorem ma_turn {n cls j f c b:Nat} {p:Int} {st:St} {d:MdL} {R:KQ} {X:KX} {N:KN} (hj:st.get j=some (modO cls d.name d.key d.cb d.db f c)) (hf:st.get f=some (objO d.name d.key b)) (hr:st.get (b+1)=some (.gl d.rows)) (hl:d.rows.length<=1000)
  (q1:d.cb<=p/\p < d.cb+d.rows.length->R (.obj j) st) (q2:¬ (d.cb<=p/\p < d.cb+d.rows.length)->N [(49,.obj 0),(20,.i p),(50,.obj j)] st):E8 (B4 tabs (CP n) fb_module_at_0) R X [(49,.obj 0),(20,.i p),(50,.obj j)] st N:=by
 refine F6 (B5 hj rfl ?_)
 by_cases c1:d.cb<=p
 ·refine I7 (decide_eq_true c1) (B5 hj rfl (B5 hj rfl (B5 hf rfl (at_len hr rfl (by lia) ?_))))
  by_cases c2:p < d.cb+d.rows.length
  ·exact I7 (decide_eq_true c2) (q1 ⟨c1,c2⟩)
  ·exact C5 (decide_eq_false c2) (J8 rfl (q2 fun h=>c2 h.2))
 ·exact C5 (decide_eq_false c1) (J8 rfl (q2 fun h=>c1 h.1))
noncomputable abbrev sgS (cls:Nat) (V:KV) (ds:List MdL) (s:Int) (C:CS) (w:List (Int × Int)):St:=⟨(11+12*ds.length,.gl (C.regs.map .int))::(0,mcO V s)::(5,cpF 1 (11+12*ds.length) 7 C)::(2,.di w)::(8,ldO 11 ds)::(1,memO V.size 2)::(7,.gl V.rows)::msS cls 11 ds,12+12*ds.length⟩
noncomputable abbrev caS (cls:Nat) (V:KV) (ds:List MdL) (C:CS) (w:List (Int × Int)):St:=⟨(0,mcO V V.steps)::(5,cpF 1 6 7 C)::(2,.di w)::(8,ldO 11 ds)::(1,memO V.size 2)::(7,.gl V.rows)::msS cls 11 ds,11+12*ds.length⟩
section
variable {cls:Nat} {V:KV}
theorem sg0:Sg V (fun p=>modAt [] (p - 1)) 11 12 (sgS cls V []):=by
 refine ⟨fun Z Z Z=>rfl,fun Z Z Z Z Z=>rfl,fun Z Z Z Z=>rfl,fun Z=>rfl,fun n s C w Q X q=>?_⟩
 dsimp only [List.length_cons,List.length_nil,Nat.reduceMul,Nat.reduceAdd,sgS,ldO,ldL,msS] at q ⊢
 refine B7 (n:=n+2) (F9 rfl rfl ?_)
 refine B7 (n:=n+1) (F9 rfl rfl ?_)
 refine J4 ?_
 refine L7 ?_
 refine A1 ?_
 refine A1 ?_
 exact q
theorem sg1 {a:MdL} (ha:a.rows.length<=1000):Sg V (fun p=>modAt [a] (p - 1)) 23 24 (sgS cls V [a]):=by
 refine ⟨fun Z Z Z=>rfl,fun Z Z Z Z Z=>rfl,fun Z Z Z Z=>rfl,fun Z=>rfl,fun n s C w Q X q=>?_⟩
 dsimp only [List.length_cons,List.length_nil,Nat.reduceMul,Nat.reduceAdd,sgS,ldO,ldL,msS] at q ⊢
 refine B7 (n:=n+2) (F9 rfl rfl ?_)
 refine B7 (n:=n+1) (F9 rfl rfl ?_)
 refine J4 ?_
 refine B6 ?_
 refine ma_turn (d:=a) rfl rfl rfl ha (fun c=>?_) fun c0=>?_
 ·rw [I2,if_pos c] at q
  refine A1 ?_
  refine A1 ?_
  exact q
 refine And.intro rfl ?_
 refine M3 ?_
 refine L7 ?_
 refine A1 ?_
 refine A1 ?_
 rw [I2,if_neg c0] at q
 exact q
theorem sg2 {a b:MdL} (ha:a.rows.length<=1000) (hb:b.rows.length<=1000):Sg V (fun p=>modAt [a,b] (p - 1)) 35 36 (sgS cls V [a,b]):=by
 refine ⟨fun Z Z Z=>rfl,fun Z Z Z Z Z=>rfl,fun Z Z Z Z=>rfl,fun Z=>rfl,fun n s C w Q X q=>?_⟩
 dsimp only [List.length_cons,List.length_nil,Nat.reduceMul,Nat.reduceAdd,sgS,ldO,ldL,msS] at q ⊢
 refine B7 (n:=n+2) (F9 rfl rfl ?_)
 refine B7 (n:=n+1) (F9 rfl rfl ?_)
 refine J4 ?_
 refine B6 ?_
 refine ma_turn (d:=a) rfl rfl rfl ha (fun c=>?_) fun c0=>?_
 ·rw [I2,if_pos c] at q
  refine A1 ?_
  refine A1 ?_
  exact q
 refine And.intro rfl ?_
 refine M3 ?_
 refine B6 ?_
 refine ma_turn (d:=b) rfl rfl rfl hb (fun c=>?_) fun c1=>?_
 ·rw [I2,if_neg c0,I2,if_pos c] at q
  refine A1 ?_
  refine A1 ?_
  exact q
 refine And.intro rfl ?_
 refine M3 ?_
 refine L7 ?_
 refine A1 ?_
 refine A1 ?_
 rw [I2,if_neg c0,I2,if_neg c1] at q
 exact q
theorem sg3 {a b c:MdL} (ha:a.rows.length<=1000) (hb:b.rows.length<=1000) (hc:c.rows.length<=1000):Sg V (fun p=>modAt [a,b,c] (p - 1)) 47 48 (sgS cls V [a,b,c]):=by
 refine ⟨fun Z Z Z=>rfl,fun Z Z Z Z Z=>rfl,fun Z Z Z Z=>rfl,fun Z=>rfl,fun n s C w Q X q=>?_⟩
 dsimp only [List.length_cons,List.length_nil,Nat.reduceMul,Nat.reduceAdd,sgS,ldO,ldL,msS] at q ⊢
 refine B7 (n:=n+2) (F9 rfl rfl ?_)
 refine B7 (n:=n+1) (F9 rfl rfl ?_)
 refine J4 ?_
 refine B6 ?_
 refine ma_turn (d:=a) rfl rfl rfl ha (fun c=>?_) fun c0=>?_
 ·rw [I2,if_pos c] at q
  refine A1 ?_
  refine A1 ?_
  exact q
 refine And.intro rfl ?_
 refine M3 ?_
 refine B6 ?_
 refine ma_turn (d:=b) rfl rfl rfl hb (fun c=>?_) fun c1=>?_
 ·rw [I2,if_neg c0,I2,if_pos c] at q
  refine A1 ?_
  refine A1 ?_
  exact q
 refine And.intro rfl ?_
 refine M3 ?_
 refine B6 ?_
 refine ma_turn (d:=c) rfl rfl rfl hc (fun c=>?_) fun c2=>?_
 ·rw [I2,if_neg c0,I2,if_neg c1,I2,if_pos c] at q
  refine A1 ?_
  refine A1 ?_
  exact q
 refine And.intro rfl ?_
 refine M3 ?_
 refine L7 ?_
 refine A1 ?_
 refine A1 ?_
 rw [I2,if_neg c0,I2,if_neg c1,I2,if_neg c2] at q
 exact q
theorem machine_call {d k:Nat} {φ:Int->Int} {p:Int} (ds:List MdL) (h3:ds.length<=3) (hs:V.sl+16<=V.size) (hsz:461<=V.size) (h0:V.rows[0]?=some H6) (hrl:V.rows.length<=1000) (hR:∀ x∈V.rows,IsRw x) (hL:∀ (p:Nat) x,V.rows[p]?=some x->x=H6\/x=brRow\/p+1 < V.rows.length) (hm:∀ d∈ds,d.rows.length<=1000)
  (hp:0<=p) (hd:p.toNat+d=V.rows.length) (hd0:0 < d) (hk:k+d+1<=1000) :
  ∃ res s1 C1 φ1,IsRes (fun p=>modAt ds (p - 1)) res/\∀ w,Wrd φ k w->∃ w1,Wrd φ1 (k+d+1) w1/\∀ n cls C,Fun (n+8) 875 [.obj 0,.i p] (caS cls V ds C w) (.g res) (sgS cls V ds s1 C1 w1):=by
 obtain ⟨res,s1,C1,φ1,h1,H⟩:=run_s (nm:=fun p=>modAt ds (p - 1)) hs hsz h0 hrl hR hL d k V.steps ⟨regs0 V.size,0,0,0,0,0,p⟩ φ Rg0 hp hd hd0 hk
 refine ⟨res,s1,C1,φ1,h1,fun w W=>?_⟩
 obtain ⟨w1,W1,h⟩:=H w W
 refine ⟨w1,W1,fun n cls C=>?_⟩
 rcases ds with _ | ⟨a,_ | ⟨b,_ | ⟨c,_ | ⟨d,r⟩⟩⟩⟩
 case nil=>
  have S:=sg0 (cls:=cls) (V:=V)
  dsimp only [List.length_cons,List.length_nil,Nat.reduceMul,Nat.reduceAdd,sgS,caS,ldO,ldL,msS] at S ⊢
  refine J2 rfl rfl rfl ?_
  refine A0 prepare_s [0,1,2,3,4,5,6,7,8,9,10] ?_
  refine A1 ?_
  refine ⟨_,h n _ _ _ p _ _ S (fun s C w q=>J8 rfl q) ?_⟩
  exact ⟨[0,1,2,3,4,5,6,7,8,9,10,11],rfl⟩
 case cons.nil=>
  have S:=sg1 (cls:=cls) (V:=V) (hm _ (.head _))
  dsimp only [List.length_cons,List.length_nil,Nat.reduceMul,Nat.reduceAdd,sgS,caS,ldO,ldL,msS] at S ⊢
  refine J2 rfl rfl rfl ?_
  refine A0 prepare_s [0,1,2,3,4,5,6,7,8,9,10] ?_
  refine A1 ?_
  refine ⟨_,h n _ _ _ p _ _ S (fun s C w q=>J8 rfl q) ?_⟩
  exact ⟨[0,1,2,3,4,5,6,7,8,9,10,11,12,13,14,15,16,17,18,19,20,21,22,23],rfl⟩
 case cons.cons.nil=>
  have S:=sg2 (cls:=cls) (V:=V) (hm _ (.head _)) (hm _ (.tail _ (.head _)))
  dsimp only [List.length_cons,List.length_nil,Nat.reduceMul,Nat.reduceAdd,sgS,caS,ldO,ldL,msS] at S ⊢
  refine J2 rfl rfl rfl ?_
  refine A0 prepare_s [0,1,2,3,4,5,6,7,8,9,10] ?_
  refine A1 ?_
  refine ⟨_,h n _ _ _ p _ _ S (fun s C w q=>J8 rfl q) ?_⟩
  exact ⟨[0,1,2,3,4,5,6,7,8,9,10,11,12,13,14,15,16,17,18,19,20,21,22,23,24,25,26,27,28,29,30,31,32,33,34,35],rfl⟩
 case cons.cons.cons.nil=>
  have S:=sg3 (cls:=cls) (V:=V) (hm _ (.head _)) (hm _ (.tail _ (.head _))) (hm _ (.tail _ (.tail _ (.head _))))
  dsimp only [List.length_cons,List.length_nil,Nat.reduceMul,Nat.reduceAdd,sgS,caS,ldO,ldL,msS] at S ⊢
  refine J2 rfl rfl rfl ?_
  refine A0 prepare_s [0,1,2,3,4,5,6,7,8,9,10] ?_
  refine A1 ?_
  refine ⟨_,h n _ _ _ p _ _ S (fun s C w q=>J8 rfl q) ?_⟩
  exact ⟨[0,1,2,3,4,5,6,7,8,9,10,11,12,13,14,15,16,17,18,19,20,21,22,23,24,25,26,27,28,29,30,31,32,33,34,35,36,37,38,39,40,41,42,43,44,45,46,47],rfl⟩
 case cons.cons.cons.cons=>exact absurd h3 (by rw [List.length_cons,List.length_cons,List.length_cons,List.length_cons]; lia)
end
noncomputable abbrev ckI (v:Int):Prop:=0<=v/\v < 2305843009213693951
theorem ckStep_b (v:Int) (b:Nat):ckI (ckStep v b):=by
 rw [ckStep,Int.fmod_eq_emod_of_nonneg _ (by decide)]; exact ⟨by lia,by lia⟩
theorem d257 {d k:Int} (h:257*d=2305843009213693951*k):d=2305843009213693951*(1327878464449909357*k - 148*d):=by lia
theorem modP {a b:Int} (h:a.fmod 2305843009213693951=b.fmod 2305843009213693951):(2305843009213693951:Int) ∣ a - b:=by
 rw [Int.fmod_eq_emod_of_nonneg _ (by decide),Int.fmod_eq_emod_of_nonneg _ (by decide)] at h
 exact Int.dvd_of_emod_eq_zero (Int.emod_eq_emod_iff_emod_sub_eq_zero.mp h)
theorem dvd0 {d:Int} (h:(2305843009213693951:Int) ∣ d) (h1:-2305843009213693951 < d) (h2:d < 2305843009213693951):d=0:=Int.eq_zero_of_dvd_of_natAbs_lt_natAbs h (by lia)
theorem ck_inj {v w:Int} {a b:Nat} (hv:ckI v) (hw:ckI w) (ha:a<=255) (hb:b<=255) (h:ckStep v a=ckStep w b) (e:v=w\/a=b):v=w/\a=b:=by
 have h:=modP h
 obtain ⟨h1,h2⟩:=hv
 obtain ⟨h3,h4⟩:=hw
 rcases e with rfl | rfl
 ·rw [show v*257+a+1 - (v*257+b+1)=(a:Int) - b by lia] at h
  have:=dvd0 h (by lia) (by lia)
  exact ⟨rfl,by lia⟩
 ·rw [show v*257+a+1 - (w*257+a+1)=257*(v - w) by lia] at h
  obtain ⟨k,hk⟩:=h
  have:=dvd0 ⟨_,d257 hk⟩ (by lia) (by lia)
  exact ⟨by lia,rfl⟩
theorem ckfold_inj (l:List Nat):∀ {v w:Int},ckI v->ckI w->l.foldl ckStep v=l.foldl ckStep w->(∀ x∈l,x<=255)->v=w:=by
 induction l with
 | nil=>exact fun Z Z h Z=>h
 | cons b r ih=>exact fun hv hw h hb=>(ck_inj hv hw (hb b (.head _)) (hb b (.head _)) (ih (ckStep_b _ b) (ckStep_b _ b) h fun x hx=>hb x (.tail _ hx)) (.inr rfl)).1
theorem ckn_set (l:List Nat):∀ (j y:Nat) (v:Int),ckI v->(∀ x∈l,x<=255)->y<=255->(h:j < l.length)->y≠l[j]->(l.set j y).foldl ckStep v≠l.foldl ckStep v:=by
 induction l with
 | nil=>exact fun j Z Z Z Z Z h=>absurd h (Nat.not_lt_zero _)
 | cons a r ih=>
  intro j y v hv hb hy h hn
  cases j with
  | zero=>exact fun e=>hn (ck_inj hv hv hy (hb a (.head _)) (ckfold_inj r (ckStep_b v y) (ckStep_b v a) e fun x hx=>hb x (.tail _ hx)) (.inl rfl)).2
  | succ j=>exact ih j y _ (ckStep_b v a) (fun x hx=>hb x (.tail _ hx)) hy (Nat.lt_of_succ_lt_succ h) hn
theorem led_set (l:List Nat):∀ (j y:Nat),(h:j < l.length)->y≠l[j]->led (l.set j y)≠led l:=by
 induction l with
 | nil=>exact fun j Z h=>absurd h (Nat.not_lt_zero _)
 | cons a r ih=>
  intro j y h hn e
  cases j with
  | zero=>exact hn (show y=a by have e:(y:Int)+256*led r=a+256*led r:=e; lia)
  | succ j=>exact ih j y (Nat.lt_of_succ_lt_succ h) hn (by have e:(a:Int)+256*led (r.set j y)=a+256*led r:=e; lia)
theorem spoil {b:List Nat} (hb:Bytes b) {j y:Nat} (hy:y<=255) (h:j < (E4 b).length) (hn:y≠(E4 b)[j]):∃ b' e,(E4 b).set j y=b'++e/\e.length=8/\Bytes (b'++e)/\led e≠ckn b':=by
 have hB':Bytes ((E4 b).set j y):=fun x hx=>by
  rcases List.mem_or_eq_of_mem_set hx with h | h
  ·exact hb.app (ckb_b 8 _) x h
  ·rw [h]; exact hy
 unfold E4 at *
 by_cases c:j < b.length
 ·rw [List.set_append_left _ _ c] at hB' ⊢
  refine ⟨_,_,rfl,ckb_len 8 _,hB',?_⟩
  rw [led_full]
  rw [List.getElem_append_left c] at hn
  exact fun q=>ckn_set b j y 1 ⟨by decide,by decide⟩ hb hy c hn q.symm
 ·have c:=Nat.le_of_not_lt c
  rw [List.set_append_right _ _ c] at hB' ⊢
  refine ⟨_,_,rfl,by rw [List.length_set,ckb_len],hB',?_⟩
  rw [List.getElem_append_right c] at hn
  rw [List.length_append] at h
  exact fun q=>led_set _ _ y (by lia) hn (q.trans (led_full b).symm)
noncomputable def Sm (k:Int):Prop:=-1000000000000000000000<=k/\k<=1000000000000000000000
theorem venc_len (j:Nat):∀ m:Nat,m < 128 ^ (j+1)->(venc m).length<=j+1:=by
 induction j with
 | zero=>intro m h; rw [venc_lo h]; exact Nat.le_refl _
 | succ j ih=>
  intro m h
  by_cases c:m < 128
  ·rw [venc_lo c]; exact Nat.succ_le_succ (Nat.zero_le _)
  ·rw [venc_hi c]
   rw [Nat.pow_succ] at h
   exact Nat.succ_le_succ (ih _ (by lia))
theorem enc_len {k:Int} (h:Sm k):(enc k).length<=12:=venc_len 11 _ (by
 obtain ⟨h1,h2⟩:=h
 unfold zig
 by_cases c:0<=k
 ·rw [if_pos c]; lia
 ·rw [if_neg c]; lia)
theorem flat_le {α:Type} {f:α->List Nat} {c:Nat} {l:List α} (h:∀ a∈l,(f a).length<=c):(l.flatMap f).length<=c*l.length:=by
 induction l with
 | nil=>exact Nat.zero_le _
 | cons a r ih=>
  have h1:=h a (.head _)
  have h2:=ih fun b hb=>h b (.tail _ hb)
  rw [List.flatMap_cons,List.length_append,List.length_cons,Nat.mul_succ]; lia
theorem num_len {n:Nat} (h:n<=1000):(enc (n:Int)).length<=12:=enc_len ⟨by lia,by lia⟩
theorem encs_len {l:List Int} (c:Nat) (h:∀ k∈l,Sm k) (hl:l.length<=c) (hc:c<=1000):(encs l).length<=12*c+12:=by
 have h1:=num_len (Nat.le_trans hl hc)
 have h2:=flat_le (c:=12) (f:=enc) (l:=l) fun k hk=>enc_len (h k hk)
 rw [encs,List.length_append]; lia
noncomputable def Txt (s:List Nat):Prop:=(∀ c∈s,c<=1114111)/\s.length<=3
theorem text_len {s:List Nat} (h:Txt s):(B9 s).length<=48:=
 encs_len 3 (fun k hk=>by
  obtain ⟨x,hx,rfl⟩:=List.mem_map.mp hk
  have:=h.1 x hx
  exact ⟨by lia,by lia⟩) (by rw [codes_length]; exact h.2) (by decide)
structure MdP (d:MdL):Prop where
 name:Txt d.name
 key:0<=d.key/\d.key<=2000000000000
 cb:0<=d.cb/\d.cb<=1000
 db:0<=d.db/\d.db<=1000
 cls:∀ s∈d.clients,Txt s
 len:d.clients.length<=3
 rows:RowsOK d.rows
theorem mod_len {d:MdL} (P:MdP d):(E3 d).length<=300:=by
 have h1:=text_len P.name
 have h2:=encs_len (l:=[d.key,d.cb,d.db]) 3 (fun x hx=>by
  have:=P.key
  have:=P.cb
  have:=P.db
  simp only [List.mem_cons,List.not_mem_nil,or_false] at hx
  exact ⟨by lia,by lia⟩) (Nat.le_refl 3) (by decide)
 have h3:=num_len (Nat.le_trans P.len (by decide))
 have h4:=flat_le (c:=48) (f:=B9) (l:=d.clients) fun s hs=>text_len (P.cls s hs)
 have:=P.len
 rw [E3,List.length_append,List.length_append,List.length_append]; lia
theorem U.sm {k:Int} (h:U k):Sm k:=by obtain ⟨h1,h2⟩:=h; exact ⟨by lia,by lia⟩
theorem RwL.sm {R:List GV}:∀ {W:List Int},RwL R W->∀ k∈W,Sm k:=by
 induction R with
 | nil=>intro W h k hk; cases W with | nil=>cases hk | cons a b=>exact h.elim
 | cons r R ih=>
  intro W h k hk
  cases W with
  | nil=>cases hk
  | cons w W=>
   rcases List.mem_cons.mp hk with rfl | hk
   ·have:=h.1.bnd; exact ⟨by lia,by lia⟩
   ·exact ih h.2 k hk
theorem valOf_U {l:List (Int × Int)} (h:DOK l) (k:Int):U (H0 l k):=by
 by_cases c:k∈l.map (·.1)
 ·have e:=lookDi_some c
  generalize H0 l k=x at e ⊢
  clear c
  obtain ⟨h1,h2⟩:=h
  clear h1
  induction l with
  | nil=>cases e
  | cons p r ih=>
   have e:(if p.1=k then some p.2 else E2 k r)=some x:=e
   by_cases d:p.1=k
   ·rw [if_pos d] at e; cases e; exact (h2 p (.head _)).2
   ·rw [if_neg d] at e; exact ih e fun q hq=>h2 q (.tail _ hq)
 ·rw [H0,lookDi_none c]; exact ⟨by decide,by decide⟩
theorem places_U {l:List (Int × Int)} (h:DOK l) {k:Int} (hk:k∈places l):U k:=by
 obtain ⟨p,hp,e⟩:=List.mem_map.mp ((G5 _).mem_iff.mp (List.mem_filter.mp hk).1)
 rw [<- e]; exact (h.2 p hp).1
theorem places_len {l:List (Int × Int)}:(places l).length<=l.length:=Nat.le_trans (List.length_filter_le _ _) (by rw [sortInts_len,List.length_map]; exact Nat.le_refl _)
theorem body_len {V:KV} {ws:List Int} {ds:List MdL} (hsz:∀ k∈sizes V,Sm k) (F:FOK V.free) (D:DOK V.words) (hw:V.words.length<=20) (hR:RwL V.rows ws) (hr:V.rows.length<=16) (hd:∀ d∈ds,MdP d) (hdl:ds.length<=3)
  (ho:∀ s∈V.outs,Txt s) (hol:V.outs.length<=3) (hg:∀ k∈V.given,Sm k) (hgl:V.given.length<=3):(A3 V ws ds).length<=10000:=by
 have hpl:=Nat.le_trans (places_len (l:=V.words)) hw
 have h1:=encs_len (l:=sizes V) 6 hsz (Nat.le_refl 6) (by decide)
 have h2:=encs_len 4 (fun k hk=>(F.2 k hk).sm) (Nat.le_of_eq F.1) (by decide)
 have h3:=encs_len 20 (fun k hk=>(places_U D hk).sm) hpl (by decide)
 have h4:=flat_le (c:=12) (f:=fun k=>enc (H0 V.words k)) (l:=places V.words) fun k Z=>enc_len (valOf_U D k).sm
 have h5:=encs_len 16 hR.sm (by rw [<- hR.len]; exact hr) (by decide)
 have h6:=num_len (Nat.le_trans hdl (by decide))
 have h7:=flat_le (c:=300) (f:=E3) (l:=ds) fun d hd'=>mod_len (hd d hd')
 have h8:=num_len (Nat.le_trans hol (by decide))
 have h9:=flat_le (c:=48) (f:=B9) (l:=V.outs) fun s hs=>text_len (ho s hs)
 have h10:=encs_len 3 hg hgl (by decide)
 rw [A3,E0,imgMods,I0,vals]
 repeat rw [List.length_append]
 lia
theorem Lay.str {s:List Nat} (h:∀ c∈s,c<=1114111) (k:Nat):Lay (gP (.str s)) k:=by
 refine ⟨?_,Nat.zero_le _⟩
 show PySem.PyData.strOk ⟨s.toArray⟩=true
 unfold PySem.PyData.strOk
 simp
 intro x hx
 exact Nat.lt_succ_of_le (h x hx)
theorem Lay.more {d:PyData} {k m:Nat} (h:Lay d k) (q:k<=m):Lay d m:=⟨h.1,Nat.le_trans h.2 q⟩
theorem Lay.ints {l:List Int} (k:Nat):Lay (.list (gPs (l.map .int))) (k+1):=.gl fun x Z=>.int x k
theorem Lay.strs {l:List (List Nat)} (h:∀ s∈l,Txt s) (k:Nat):Lay (.list (gPs (l.map .str))) (k+1):=.gl fun x hx=>.str (h x hx).1 k
noncomputable def mdP (d:MdL):PyData:=.tuple [gP (.str d.name),gP (.int d.key),gP (.int d.cb),gP (.int d.db),.list (gPs (d.clients.map .str)),gP (.str d.name)]
noncomputable def stP (w:List (Int × Int)) (s:Int) (V:KV) (ds:List MdL):PyData:=.list [.list (gPs (held w)),.list (gPs [.int V.top,.int V.dl,.int V.sl,.int V.size,.int V.limit,.int s]),.list (ds.map mdP),.list [gP (.int V.ha),gP (.int V.hb),.list (gPs (V.free.map .int))],.list (gPs V.rows),.list (gPs (V.outs.map .str)),.list (gPs (V.given.map .int))]
noncomputable def smp (v:GV):Bool:=match v with
 | .int _=>true
 | .str s=>s.all fun c=>Nat.ble c 1114111
 | _=>false
theorem smp_lay {l:List GV} (h:l.all smp=true):Lay (gP (.tup l)) 1:=.tuple fun x hx=>by
 rw [<- List.map_id l,gPs_map] at hx
 obtain ⟨v,hv,rfl⟩:=List.mem_map.mp hx
 have q:=List.all_eq_true.mp h v hv
 cases v with
 | int i=>exact .int i 0
 | str s=>exact .str (fun c hc=>Nat.le_of_ble_eq_true (List.all_eq_true.mp (show (s.all fun c=>Nat.ble c 1114111)=true from q) c hc)) 0
 | _=>cases q
theorem IsRw.lay {r:GV} (h:IsRw r):Lay (gP r) 1:=by
 obtain ⟨w,h⟩:=h
 cases h<;>exact smp_lay rfl
theorem all_nil {k:Nat}:∀ x∈([]:List PyData),Lay x k:=fun Z h=>nomatch h
theorem C4 {k:Nat} {a:PyData} {l:List PyData} (h:Lay a k) (q:∀ x∈l,Lay x k):∀ x∈a::l,Lay x k:=fun x hx=>(List.mem_cons.mp hx).elim (fun e=>e▸h) (q x)
theorem stP_ok {w:List (Int × Int)} {s:Int} {V:KV} {ds:List MdL} (hR:∀ r∈V.rows,IsRw r) (hd:∀ d∈ds,MdP d) (ho:∀ s∈V.outs,Txt s):okD (stP w s V ds)=true:=by
 refine (Lay.list (k:=4) ?_).ok (by decide)
 refine C4 ((Lay.gl (f:=tw w) fun k Z=>smp_lay rfl).more (by decide)) (C4 ((Lay.list (k:=0) ?_).more (by decide)) (C4 ((Lay.list (k:=2) ?_).more (by decide)) (C4 ((Lay.list (k:=1) ?_).more (by decide)) (C4 ?_ (C4 ((Lay.strs ho 0).more (by decide)) (C4 ((Lay.ints 0).more (by decide)) all_nil))))))
 ·exact C4 (.int _ _) (C4 (.int _ _) (C4 (.int _ _) (C4 (.int _ _) (C4 (.int _ _) (C4 (.int _ _) all_nil)))))
 ·intro x hx
  obtain ⟨d,hd',rfl⟩:=List.mem_map.mp hx
  have P:=hd d hd'
  exact .tuple (C4 (.str P.name.1 _) (C4 (.int _ _) (C4 (.int _ _) (C4 (.int _ _) (C4 (.strs P.cls 0) (C4 (.str P.name.1 _) all_nil))))))
 ·exact C4 (.int _ _) (C4 (.int _ _) (C4 (.ints 0) all_nil))
 ·have z:=Lay.gl (k:=1) (f:=id) (l:=V.rows) fun x hx=>(hR x hx).lay
  rw [List.map_id] at z
  exact z.more (by decide)
noncomputable abbrev lw0 (NS:List GV) (V:KV) (l:List Int):St:=⟨[(14,.gl NS),(13,.gl [.str [65],.str [66,101,101],.str [67]]),(12,.di []),(9,.gl []),(2,memO V.size 3),(3,.di V.words),(4,heapO 2 V.ha V.hb 5),(5,.gl (V.free.map .int)),(6,cpuO 2 7 8 V),(7,.gl (V.regs.map .int)),(8,.gl V.rows),(10,.gl (V.outs.map .str)),(11,.gl (V.given.map .int)),(1,.inst 892 [(92,.i V.top),(94,.i V.dl),(98,.i V.sl),(55,.obj 2),(100,.obj 4),(101,.obj 6),(50,.obj 9),(11,.obj 10),(103,.obj 11),(57,.i V.limit),(104,.i V.steps)]),(0,.gl (l.map .int))],15⟩
noncomputable abbrev lw1 (NS:List GV) (V:KV) (l:List Int) (k0 p0 q0:Int) (c0:List (List Nat)) (s0:List GV):St:=⟨[(27,.gl (c0.map .str)),(26,modO 975 [65] k0 p0 q0 15 27),(25,.gl s0),(15,.inst 996 [(35,.s [65]),(113,.i k0),(129,.obj 16),(53,.obj 25),(130,.i 0),(89,.obj 18),(131,.obj 19),(132,.obj 20),(133,.obj 21),(134,.obj 22),(135,.obj 23),(136,.obj 24),(137,.i 0)]),(14,.gl NS),(13,.gl [.str [65],.str [66,101,101],.str [67]]),(12,.ds [([65],.obj 15)]),(9,.ol [.obj 26]),(2,memO V.size 3),(3,.di V.words),(4,heapO 2 V.ha V.hb 5),(5,.gl (V.free.map .int)),(6,cpuO 2 7 8 V),(7,.gl (V.regs.map .int)),(8,.gl V.rows),(10,.gl (V.outs.map .str)),(11,.gl (V.given.map .int)),(1,.inst 892 [(92,.i V.top),(94,.i V.dl),(98,.i V.sl),(55,.obj 2),(100,.obj 4),(101,.obj 6),(50,.obj 9),(11,.obj 10),(103,.obj 11),(57,.i V.limit),(104,.i V.steps)]),(0,.gl (l.map .int))],28⟩
noncomputable abbrev lw2 (NS:List GV) (V:KV) (l:List Int) (k0 p0 q0:Int) (c0:List (List Nat)) (s0:List GV) (k1 p1 q1:Int) (c1:List (List Nat)) (s1:List GV):St:=⟨[(40,.gl (c1.map .str)),(39,modO 975 [66,101,101] k1 p1 q1 28 40),(38,.gl s1),(28,.inst 996 [(35,.s [66,101,101]),(113,.i k1),(129,.obj 29),(53,.obj 38),(130,.i 0),(89,.obj 31),(131,.obj 32),(132,.obj 33),(133,.obj 34),(134,.obj 35),(135,.obj 36),(136,.obj 37),(137,.i 0)]),(27,.gl (c0.map .str)),(26,modO 975 [65] k0 p0 q0 15 27),(25,.gl s0),(15,.inst 996 [(35,.s [65]),(113,.i k0),(129,.obj 16),(53,.obj 25),(130,.i 0),(89,.obj 18),(131,.obj 19),(132,.obj 20),(133,.obj 21),(134,.obj 22),(135,.obj 23),(136,.obj 24),(137,.i 0)]),(14,.gl NS),(13,.gl [.str [65],.str [66,101,101],.str [67]]),(12,.ds [([65],.obj 15),([66,101,101],.obj 28)]),(9,.ol [.obj 26,.obj 39]),(2,memO V.size 3),(3,.di V.words),(4,heapO 2 V.ha V.hb 5),(5,.gl (V.free.map .int)),(6,cpuO 2 7 8 V),(7,.gl (V.regs.map .int)),(8,.gl V.rows),(10,.gl (V.outs.map .str)),(11,.gl (V.given.map .int)),(1,.inst 892 [(92,.i V.top),(94,.i V.dl),(98,.i V.sl),(55,.obj 2),(100,.obj 4),(101,.obj 6),(50,.obj 9),(11,.obj 10),(103,.obj 11),(57,.i V.limit),(104,.i V.steps)]),(0,.gl (l.map .int))],41⟩
noncomputable abbrev lw3 (NS:List GV) (V:KV) (l:List Int) (k0 p0 q0:Int) (c0:List (List Nat)) (s0:List GV) (k1 p1 q1:Int) (c1:List (List Nat)) (s1:List GV) (k2 p2 q2:Int) (c2:List (List Nat)) (s2:List GV):St:=⟨[(53,.gl (c2.map .str)),(52,modO 975 [67] k2 p2 q2 41 53),(51,.gl s2),(41,.inst 996 [(35,.s [67]),(113,.i k2),(129,.obj 42),(53,.obj 51),(130,.i 0),(89,.obj 44),(131,.obj 45),(132,.obj 46),(133,.obj 47),(134,.obj 48),(135,.obj 49),(136,.obj 50),(137,.i 0)]),(40,.gl (c1.map .str)),(39,modO 975 [66,101,101] k1 p1 q1 28 40),(38,.gl s1),(28,.inst 996 [(35,.s [66,101,101]),(113,.i k1),(129,.obj 29),(53,.obj 38),(130,.i 0),(89,.obj 31),(131,.obj 32),(132,.obj 33),(133,.obj 34),(134,.obj 35),(135,.obj 36),(136,.obj 37),(137,.i 0)]),(27,.gl (c0.map .str)),(26,modO 975 [65] k0 p0 q0 15 27),(25,.gl s0),(15,.inst 996 [(35,.s [65]),(113,.i k0),(129,.obj 16),(53,.obj 25),(130,.i 0),(89,.obj 18),(131,.obj 19),(132,.obj 20),(133,.obj 21),(134,.obj 22),(135,.obj 23),(136,.obj 24),(137,.i 0)]),(14,.gl NS),(13,.gl [.str [65],.str [66,101,101],.str [67]]),(12,.ds [([65],.obj 15),([66,101,101],.obj 28),([67],.obj 41)]),(9,.ol [.obj 26,.obj 39,.obj 52]),(2,memO V.size 3),(3,.di V.words),(4,heapO 2 V.ha V.hb 5),(5,.gl (V.free.map .int)),(6,cpuO 2 7 8 V),(7,.gl (V.regs.map .int)),(8,.gl V.rows),(10,.gl (V.outs.map .str)),(11,.gl (V.given.map .int)),(1,.inst 892 [(92,.i V.top),(94,.i V.dl),(98,.i V.sl),(55,.obj 2),(100,.obj 4),(101,.obj 6),(50,.obj 9),(11,.obj 10),(103,.obj 11),(57,.i V.limit),(104,.i V.steps)]),(0,.gl (l.map .int))],54⟩
noncomputable abbrev upV (V:KV) (t:Int) (rs:List GV):KV:={V with top:=t,rows:=V.rows++rs}
inductive TurnD (V:KV) (l:List Int):Prop
 | mk (x1 x3 x4 t:Int) (rs:List GV) (l1 l2 l3 l4:List Int) (h1:∀ n,Fun n 1014 [.obj 0] (liS l) (.i x1) (liS l1)) (h2:∀ n,Fun (n+1) 1021 [.obj 0] (liS l1) (.obj 1) (drS rs l2)) (h3:∀ n,Fun n 1014 [.obj 0] (liS l2) (.i x3) (liS l3)) (h4:∀ n,Fun n 1014 [.obj 0] (liS l3) (.i x4) (liS l4))
  (hA:∀ n,Fun (n+1) 840 [.obj 0,.i (x3.fmod 60)] (maS V) (.i V.top) (maS {V with top:=t})) (hrl:V.rows.length+rs.length<=1000) (D:L5 l4) (t1:V.top<=t) (t2:t<=V.top+75) (y1:0<=x1) (z1:x1 < 1024) (hR:RowsOK rs):TurnD V l
theorem turn_d {V:KV} {l:List Int} (D:L5 l) (ht:V.top+80<=V.dl) (hr:V.rows.length<=100):TurnD V l:=by
 obtain ⟨x1,l1,h1,D1,y1,z1⟩:=I5 D
 obtain ⟨rs,l2,hR,D2,h2⟩:=law_rows_s D1
 obtain ⟨x3,l3,h3,D3,y3,z3⟩:=I5 D2
 obtain ⟨x4,l4,h4,D4,y4,z4⟩:=I5 D3
 obtain ⟨g1,g2⟩:=L6 x3 (show (0:Int) < 60 by decide)
 obtain ⟨t,t1,t2,hA⟩:=add_data_s (V:=V) (s:=x3.fmod 60) g1 (by lia)
 refine .mk x1 x3 x4 t rs l1 l2 l3 l4 h1 h2 h3 h4 hA ?_ D4 t1 (by lia) y1 z1 hR
 obtain ⟨pre,e,hp,_⟩:=hR
 rw [e,List.length_append,List.length_singleton]; lia
section
variable {NS:List GV} {V:KV} {l l1 l2 l3 l4:List Int} {xs rs:List GV} {x1 x3 x4 t:Int}
theorem lturn0 (h1:∀ n,Fun n 1014 [.obj 0] (liS l) (.i x1) (liS l1)) (h2:∀ n,Fun (n+1) 1021 [.obj 0] (liS l1) (.obj 1) (drS rs l2)) (h3:∀ n,Fun n 1014 [.obj 0] (liS l2) (.i x3) (liS l3)) (h4:∀ n,Fun n 1014 [.obj 0] (liS l3) (.i x4) (liS l4)) (hA:∀ n,Fun (n+1) 840 [.obj 0,.i (x3.fmod 60)] (maS V) (.i V.top) (maS {V with top:=t})) (hrl:V.rows.length+rs.length<=1000) {n:Nat} {N:KN} {R:KQ} (q:N [(138,.frz xs),(20,.obj 0),(49,.obj 1),(126,.obj 12),(35,.s [65]),(147,.obj 15),(150,.i V.top),(105,.i V.rows.length)] (lw1 NS (upV V t rs) l4 (3+x1*1000000000) V.rows.length V.top (cond (x4.fmod 2==1) [[65]] []) rs)) :
  E8 (B4 tabs (CP (n+4)) fb_law_0) R (fun Z=>False) [(138,.frz xs),(20,.obj 0),(49,.obj 1),(126,.obj 12),(35,.s [65])] (lw0 NS V l) N:=by
 refine F6 ?_
 refine A0 (h1 (n+3)) [0] ?_
 refine A0 (obj_s (n:=n+3)) [15] ?_
 refine A1 ?_
 refine A0 (h2 (n+2)) [0] ?_
 refine A1 ?_
 refine A1 ?_
 refine A0 (h3 (n+3)) [0] ?_
 refine A0 (hA (n+2)) [1,2,3,4,5,6,7,8,9,10,11] ?_
 refine A1 ?_
 refine A0 (add_rows_s (n:=n+3) (V:={V with top:=t}) hrl) [1,2,3,4,5,6,7,8,9,10,11,25] ?_
 refine A1 ?_
 refine A0 (loaded_s (n:=n+3)) [26,15] ?_
 refine A1 ?_
 refine A0 (h4 (n+3)) [0] ?_
 cases o:x4.fmod 2==1 with
 | true=>
  rw [o] at q
  refine I7 o ?_
  refine F6 ?_
  exact J8 rfl (J8 rfl q)
 | false=>
  rw [o] at q
  refine C5 o ?_
  exact J8 rfl q
end
section
variable {NS:List GV} {V:KV} {l l1 l2 l3 l4:List Int} {xs rs:List GV} {x1 x3 x4 t:Int} {k0 p0 q0:Int} {c0:List (List Nat)} {s0:List GV}
theorem lturn1 (h1:∀ n,Fun n 1014 [.obj 0] (liS l) (.i x1) (liS l1)) (h2:∀ n,Fun (n+1) 1021 [.obj 0] (liS l1) (.obj 1) (drS rs l2)) (h3:∀ n,Fun n 1014 [.obj 0] (liS l2) (.i x3) (liS l3)) (h4:∀ n,Fun n 1014 [.obj 0] (liS l3) (.i x4) (liS l4)) (hA:∀ n,Fun (n+1) 840 [.obj 0,.i (x3.fmod 60)] (maS V) (.i V.top) (maS {V with top:=t})) (hrl:V.rows.length+rs.length<=1000) (hc:c0.length<=10) {n:Nat} {N:KN} {R:KQ} (q:N [(138,.frz xs),(20,.obj 0),(49,.obj 1),(126,.obj 12),(35,.s [66,101,101]),(147,.obj 28),(150,.i V.top),(105,.i V.rows.length)] (lw2 NS (upV V t rs) l4 k0 p0 q0 (cond (x4.fmod 2==1) (c0++[[66,101,101]]) c0) s0 (3+x1*1000000000) V.rows.length V.top [] rs)) :
  E8 (B4 tabs (CP (n+4)) fb_law_0) R (fun Z=>False) [(138,.frz xs),(20,.obj 0),(49,.obj 1),(126,.obj 12),(35,.s [66,101,101])] (lw1 NS V l k0 p0 q0 c0 s0) N:=by
 refine F6 ?_
 refine A0 (h1 (n+3)) [0] ?_
 refine A0 (obj_s (n:=n+3)) [28] ?_
 refine A1 ?_
 refine A0 (h2 (n+2)) [0] ?_
 refine A1 ?_
 refine A1 ?_
 refine A0 (h3 (n+3)) [0] ?_
 refine A0 (hA (n+2)) [1,2,3,4,5,6,7,8,9,10,11] ?_
 refine A1 ?_
 refine A0 (add_rows_s (n:=n+3) (V:={V with top:=t}) hrl) [1,2,3,4,5,6,7,8,9,10,11,38] ?_
 refine A1 ?_
 refine A0 (loaded_s (n:=n+3)) [39,28] ?_
 refine A1 ?_
 refine A0 (h4 (n+3)) [0] ?_
 cases o:x4.fmod 2==1 with
 | true=>
  rw [o] at q
  refine I7 o ?_
  refine F6 ?_
  refine B0 (by rw [List.length_map]; lia) ?_
  rw [show c0.map GV.str++[.str [66,101,101]]=(c0++[[66,101,101]]).map .str by rw [List.map_append]; rfl]
  exact J8 rfl (J8 rfl q)
 | false=>
  rw [o] at q
  refine C5 o ?_
  exact J8 rfl q
end
section
variable {NS:List GV} {V:KV} {l l1 l2 l3 l4:List Int} {xs rs:List GV} {x1 x3 x4 t:Int} {k0 p0 q0:Int} {c0:List (List Nat)} {s0:List GV} {k1 p1 q1:Int} {c1:List (List Nat)} {s1:List GV}
theorem lturn2 (h1:∀ n,Fun n 1014 [.obj 0] (liS l) (.i x1) (liS l1)) (h2:∀ n,Fun (n+1) 1021 [.obj 0] (liS l1) (.obj 1) (drS rs l2)) (h3:∀ n,Fun n 1014 [.obj 0] (liS l2) (.i x3) (liS l3)) (h4:∀ n,Fun n 1014 [.obj 0] (liS l3) (.i x4) (liS l4)) (hA:∀ n,Fun (n+1) 840 [.obj 0,.i (x3.fmod 60)] (maS V) (.i V.top) (maS {V with top:=t})) (hrl:V.rows.length+rs.length<=1000) (hc:c0.length<=10) {n:Nat} {N:KN} {R:KQ} (q:N [(138,.frz xs),(20,.obj 0),(49,.obj 1),(126,.obj 12),(35,.s [67]),(147,.obj 41),(150,.i V.top),(105,.i V.rows.length)] (lw3 NS (upV V t rs) l4 k0 p0 q0 (cond (x4.fmod 2==1) (c0++[[67]]) c0) s0 k1 p1 q1 c1 s1 (3+x1*1000000000) V.rows.length V.top [] rs)) :
  E8 (B4 tabs (CP (n+4)) fb_law_0) R (fun Z=>False) [(138,.frz xs),(20,.obj 0),(49,.obj 1),(126,.obj 12),(35,.s [67])] (lw2 NS V l k0 p0 q0 c0 s0 k1 p1 q1 c1 s1) N:=by
 refine F6 ?_
 refine A0 (h1 (n+3)) [0] ?_
 refine A0 (obj_s (n:=n+3)) [41] ?_
 refine A1 ?_
 refine A0 (h2 (n+2)) [0] ?_
 refine A1 ?_
 refine A1 ?_
 refine A0 (h3 (n+3)) [0] ?_
 refine A0 (hA (n+2)) [1,2,3,4,5,6,7,8,9,10,11] ?_
 refine A1 ?_
 refine A0 (add_rows_s (n:=n+3) (V:={V with top:=t}) hrl) [1,2,3,4,5,6,7,8,9,10,11,51] ?_
 refine A1 ?_
 refine A0 (loaded_s (n:=n+3)) [52,41] ?_
 refine A1 ?_
 refine A0 (h4 (n+3)) [0] ?_
 cases o:x4.fmod 2==1 with
 | true=>
  rw [o] at q
  refine I7 o ?_
  refine F6 ?_
  refine B0 (by rw [List.length_map]; lia) ?_
  rw [show c0.map GV.str++[.str [67]]=(c0++[[67]]).map .str by rw [List.map_append]; rfl]
  exact J8 rfl (J8 rfl q)
 | false=>
  rw [o] at q
  refine C5 o ?_
  exact J8 rfl q
end
noncomputable abbrev lvs (xs:List GV):A2:=[(138,.frz xs),(20,.obj 0),(49,.obj 1),(126,.obj 12)]
structure Lp (xs:List GV) (N:Nat) (sz:Int) (o:AO) (τ:List Int->List (Int × Int)->St):Prop where
 g:∀ l w,((τ l w).get 1,fld o 55,(τ l w).get 2,(τ l w).nx,(τ l w).cut N,E1 N (lvs xs))=(some o,some (.obj 2),some (memO sz 3),N,τ l w,lvs xs)
 r:∀ l w l',(got (τ l w) (ren (τ l w).nx [0]) (liS l).sto,inB [0] 1 (τ l w).nx,mg [0] (liS l) (τ l w) (liS l'))=(rns (ren (τ l w).nx [0]) (liS l).sto,true,τ l' w)
 m:∀ l w w',(got (τ l w) (ren (τ l w).nx [2,3]) (meS sz w).sto,inB [2,3] 2 (τ l w).nx,mg [2,3] (meS sz w) (τ l w) (meS sz w'))=(rns (ren (τ l w).nx [2,3]) (meS sz w).sto,true,τ l w')
section
variable {xs:List GV} {N n:Nat} {sz:Int} {o:AO} {τ:List Int->List (Int × Int)->St} {l l':List Int} {w w':List (Int × Int)} {Q:KQ} {X:KX} {R:KQ}
theorem Lp.next {x:Int} (S:Lp xs N sz o τ) (h:Fun n 1014 [.obj 0] (liS l) (.i x) (liS l')) (q:Q (.i x) (τ l' w)):CP (n+1) 1014 [.obj 0] (τ l w) Q X:=by
 have e:=S.r l w l'
 simp only [Prod.mk.injEq] at e
 refine C8 h [0] ?_ (congrArg (Prod.mk _) e.2.2) q
 show ([AV.obj 0],_,_)=([AV.obj 0],_,true)
 rw [e.1,e.2.1]
theorem Lp.put {a v:Int} (S:Lp xs N sz o τ) (h:Fun n 708 [.obj 0,.i a,.i v] (meS sz w) .no (meS sz w')) (q:Q .no (τ l w')):CP (n+1) 708 [.obj 2,.i a,.i v] (τ l w) Q X:=by
 have e:=S.m l w w'
 simp only [Prod.mk.injEq] at e
 refine C8 h [2,3] ?_ (congrArg (Prod.mk _) e.2.2) q
 show ([AV.obj 2,AV.i a,AV.i v],_,_)=([AV.obj 2,AV.i a,AV.i v],_,true)
 rw [e.1,e.2.1]
theorem laps_s (hsz:912<=sz) (hsU:sz < 4294967000) (js:List Int):∀ (l:List Int) (w:List (Int × Int)),L5 l->DOK w->w.length+js.length<=1000->∃ l' w',L5 l'/\DOK w'/\w'.length<=w.length+js.length /\
  ∀ (n N:Nat) (xs:List GV) (o:AO) (τ:List Int->List (Int × Int)->St) (R:KQ) (K:KN) (is:List AV),Lp xs N sz o τ->K (lvs xs) (τ l' w')->H4 (.vals is) 141 true N (E8 (B4 tabs (CP (n+2)) fb_law_1) R fun Z=>False) K (js.map .i) (lvs xs) (τ l w):=by
 induction js with
 | nil=>exact fun l w D W Z=>⟨l,w,D,W,Nat.le_refl _,fun n N xs o τ R K is S q=>q⟩
 | cons j js ih=>
  intro l w D W hl
  rw [List.length_cons] at hl ⊢
  obtain ⟨x1,l1,h1,D1,y1,z1⟩:=I5 D
  obtain ⟨x2,l2,h2,D2,y2,z2⟩:=I5 D1
  obtain ⟨g1,g2⟩:=L6 x1 (show (0:Int) < 200 by decide)
  obtain ⟨d1,d2⟩:=storeDi_ok W (U_div4 (a:=64+4*x1.fmod 200) (by lia) (by lia)) (U_mod ((x2*5003).fmod (2 ^ 32)))
  obtain ⟨l',w',D',W',hw',q'⟩:=ih l2 _ D2 d1 (by lia)
  have hp1:0<=64+4*x1.fmod 200:=by lia
  have hp2:64+4*x1.fmod 200 < sz:=by lia
  have hp3:w.length < 1000000:=by lia
  refine ⟨l',w',D',W',by lia,fun n N xs o τ R K is S q=>F1 (F6 ?_)⟩
  have g:=fun l w=>S.g l w
  simp only [Prod.mk.injEq] at g
  refine B5 (g _ _).1 (g l w).2.1 (at_mth (g _ _).2.2.1 rfl (S.next (h1 (n+1)) (at_m (a:=4) (by decide) (S.next (h2 (n+1)) (S.put (w:=w) (put_word_s (n:=n) hp1 hp2 hp3) (J8 rfl ?_))))))
  show H4 _ _ _ _ _ _ _ (E1 N (lvs xs)) _
  rw [(g l w).2.2.2.2.2,(g _ _).2.2.2.2.1]
  exact q' n N xs o τ R K is S q
end
theorem held_ext {φ:Int->Int} {k j:Nat} {w w':List (Int × Int)} (h:Wrd φ k w) (h':Wrd φ j w'):held w=held w':=by
 have e:=fun a=>(h.2.2 a).trans (h'.2.2 a).symm
 unfold held
 rw [places_ext h.1.1 h'.1.1 e]
 exact List.map_congr_left fun a Z=>by rw [tw,tw,e a]
theorem stP_e {w w':List (Int × Int)} {s:Int} {V:KV} {ds:List MdL} (e:held w=held w'):stP w s V ds=stP w' s V ds:=by unfold stP; rw [e]
theorem at_eqP {st:St} {i j:Nat} {d d':PyData} {Q:Bool->Prop} (e:d=d') (h:toP 6 st (.obj i)=some d) (h':toP 6 st (.obj j)=some d') (k:okD d'=true) (q:Q true):eqP st (.obj i) (.obj j) Q:=by
 subst e
 unfold eqP
 rw [h,h']
 exact ⟨⟨k,k⟩,fun r hr hr'=>by rw [hr rfl]; exact q⟩
theorem at_eqT {st:St} {l:List GV} {Q:Bool->Prop} (k:okD (gP (.tup l))=true) (q:Q true):eqP st (.g (.tup l)) (.g (.tup l)) Q:=⟨⟨k,k⟩,fun r hr hr'=>by rw [hr rfl]; exact q⟩
theorem at_ne {st:St} {i j:Nat} {d d':PyData} {Q:KQ} (hO:∀ Q,eqO st i j Q=eqP st (.obj i) (.obj j) Q) (e:d=d') (h:toP 6 st (.obj i)=some d) (h':toP 6 st (.obj j)=some d') (k:okD d'=true) (q:Q (.bool false) st):kCmp .ne Q (.obj i) (.obj j) st:=by
 show eqO st i j (fun r=>kB Q st !r)
 rw [hO]; exact at_eqP e h h' k q
theorem at_eq {st:St} {i j:Nat} {d d':PyData} {Q:KQ} (hO:∀ Q,eqO st i j Q=eqP st (.obj i) (.obj j) Q) (e:d=d') (h:toP 6 st (.obj i)=some d) (h':toP 6 st (.obj j)=some d') (k:okD d'=true) (q:Q (.bool true) st):kCmp .eq Q (.obj i) (.obj j) st:=by
 show eqO st i j (kB Q st)
 rw [hO]; exact at_eqP e h h' k q
theorem ld_ne {cl:A7} {X:KX} {vs:A2} {st:St} {Q:KQ} {k i:Nat} {o:AO} (hv:B2 49 vs=some (.obj k)) (hg:st.get k=some o) (he:fld o 50=some (.obj i)) (q:kCmp .ne Q (.obj i) (.obj st.nx) (st.add (.gl []))):vcE tabs cl X (.cmp .ne (.attr (.var 49) 50) (.list .nil)) vs st Q:=B3 hv (B5 hg he q)
theorem ld_ite {cl:A7} {X:KX} {vs:A2} {st:St} {Q:KQ} {k i:Nat} {o:AO} {a b:ME} (hv:B2 49 vs=some (.obj k)) (hg:st.get k=some o) (he:fld o 50=some (.obj i)) (q:kCmp .ne (kIte (vcE tabs cl X a vs) (vcE tabs cl X b vs) Q) (.obj i) (.obj st.nx) (st.add (.gl []))):vcE tabs cl X (.ite (.cmp .ne (.attr (.var 49) 50) (.list .nil)) a b) vs st Q:=ld_ne hv hg he q
theorem rg_eq {cl:A7} {X:KX} {vs:A2} {st:St} {Q:KQ} {a b c d e f:Nat} {o p q r:AO} (h1:B2 151 vs=some (.obj a)) (h2:st.get a=some o) (h3:fld o 101=some (.obj b)) (h4:st.get b=some p) (h5:fld p 73=some (.obj c)) (g1:B2 49 vs=some (.obj d)) (g2:st.get d=some q) (g3:fld q 101=some (.obj e)) (g4:st.get e=some r) (g5:fld r 73=some (.obj f))
  (k:kCmp .eq Q (.obj c) (.obj f) st):vcE tabs cl X (.cmp .eq (.attr (.attr (.var 151) 101) 73) (.attr (.attr (.var 49) 101) 73)) vs st Q:=B3 h1 (B5 h2 h3 (B5 h4 h5 (B3 g1 (B5 g2 g3 (B5 g4 g5 k)))))
theorem at_and {f:KF} {Q:KQ} {st:St} (q:f st Q):kAnd f Q (.bool true) st:=q
theorem at_neT {st:St} {l:List GV} {Q:KQ} (k:okD (gP (.tup l))=true) (q:Q (.bool false) st):kCmp .ne Q (.g (.tup l)) (.g (.tup l)) st:=at_eqT (st:=st) (Q:=fun r=>kB Q st !r) k q
structure Pf (V:KV) (ds:List MdL):Prop where
 dims:∃ a,4<=a/\a<=12/\Dims V a 16 32
 F:FOK V.free
 W:DOK V.words
 wl:V.words.length<=2
 lim:60<=V.limit/\V.limit<=119
 top:64<=V.top/\V.top<=64+75*ds.length
 rl:V.rows.length<=1+5*ds.length
 r0:V.rows[0]?=some H6
 ra:∀ r∈V.rows,IsRw r
 md:∀ d∈ds,MdP d
 last:∃ pre d x,V.rows=pre++(d++[x])/\d.length<=4/\(x=H6\/x=brRow)/\((ds.getLast?.map MdL.cb).getD 0=(pre.length:Int))
noncomputable abbrev wV (V:KV) (s:Int) (w:List (Int × Int)) (os:List (List Nat)) (gv:List Int):KV:=⟨V.top,V.dl,V.sl,V.size,V.limit,s,V.ha,V.hb,w,V.free,V.rows,os,gv,V.regs,V.h,V.n,V.z,V.c,V.v,V.pc⟩
noncomputable abbrev kvW (V:KV) (s:Int) (w:List (Int × Int)) (C:CS):KV:=⟨V.top,V.dl,V.sl,V.size,V.limit,s,V.ha,V.hb,w,V.free,V.rows,V.outs,V.given,C.regs,C.h,C.n,C.z,C.c,C.v,C.pc⟩
noncomputable def In4 (x:Int):Prop:=-1000000<=x/\x<=1000000
noncomputable def spI (b:List Nat) (x y:Int):Int:=(x*1024+y).fmod ((gi (E4 b)).length:Nat)
noncomputable def spV (c z:Int):Int:=(c+1+z.fmod 255).fmod 256
inductive Fr (V:KV) (ds:List MdL) (l:List Int):Prop
 | mk (x1 x2 x3 x4 x5 x6 x7 x8:Int) (l1 l2 l3 l4 l5 l6 l7 l8 l9 js gv ws:List Int) (w w1 w2:List (Int × Int)) (os:List (List Nat)) (a b c s1 y:Int) (C1:CS) (res:List GV)
  (h1:∀ n,Fun n 1014 [.obj 0] (liS l) (.i x1) (liS l1)) (r1:In4 (x1.fmod 9)) (e1:J0 0 (x1.fmod 9).toNat=js.map .i)
  (hl:∀ (n N:Nat) (xs:List GV) (o:AO) (τ:List Int->List (Int × Int)->St) (R:KQ) (K:KN) (is:List AV),Lp xs N V.size o τ->K (lvs xs) (τ l2 w)->H4 (.vals is) 141 true N (E8 (B4 tabs (CP (n+2)) fb_law_1) R fun Z=>False) K (js.map .i) (lvs xs) (τ l1 V.words))
  (h2:∀ n,Fun n 1014 [.obj 0] (liS l2) (.i x2) (liS l3)) (r2:In4 (x2.fmod 4)) (e2:slc true (x2.fmod 4) [GV.str [],.str [120],.str [200,55]]=os.map .str)
  (h3:∀ n,Fun n 1014 [.obj 0] (liS l3) (.i x3) (liS l4)) (h4:∀ n,Fun n 1014 [.obj 0] (liS l4) (.i x4) (liS l5)) (r4:In4 (x4.fmod 4)) (e4:slc true (x4.fmod 4) [GV.int (x3 - 500),.int 100000000000000000000,.int (-1000000000)]=gv.map .int)
  (h5:∀ n,Fun n 1014 [.obj 0] (liS l5) (.i x5) (liS l6)) (h6:∀ n,Fun n 1014 [.obj 0] (liS l6) (.i x6) (liS l7)) (h7:∀ n,Fun n 1014 [.obj 0] (liS l7) (.i x7) (liS l8)) (h8:∀ n,Fun n 1014 [.obj 0] (liS l8) (.i x8) (liS l9))
  (hw:∀ n cls,Fun (n+9) 934 [.obj 0] (imS cls (wV V (x5.fmod 40) w os gv) ds) (.obj (11+12*ds.length)) ⟨(11+12*ds.length,.gl (gi (E4 (A3 (wV V (x5.fmod 40) w os gv) ws ds))))::(imS cls (wV V (x5.fmod 40) w os gv) ds).sto,12+12*ds.length⟩)
  (hr:RdV (wV V (x5.fmod 40) w os gv) ws a b c) (hz:(A3 (wV V (x5.fmod 40) w os gv) ws ds).length+8<=1000000) (hL:(gi (E4 (A3 (wV V (x5.fmod 40) w os gv) ws ds))).length<=1000000) (hL0:(((gi (E4 (A3 (wV V (x5.fmod 40) w os gv) ws ds))).length:Nat):Int)≠0)
  (i0:0<=spI (A3 (wV V (x5.fmod 40) w os gv) ws ds) x6 x7) (i1:(spI (A3 (wV V (x5.fmod 40) w os gv) ws ds) x6 x7).toNat < (gi (E4 (A3 (wV V (x5.fmod 40) w os gv) ws ds))).length) (iy:(gi (E4 (A3 (wV V (x5.fmod 40) w os gv) ws ds)))[(spI (A3 (wV V (x5.fmod 40) w os gv) ws ds) x6 x7).toNat]?=some (.int y)) (i2:spI (A3 (wV V (x5.fmod 40) w os gv) ws ds) x6 x7<=1000000)
  (hs:∀ n,Fun (n+4) 1033 [.obj 0,.obj 1] ⟨[(0,.gl ((gi (E4 (A3 (wV V (x5.fmod 40) w os gv) ws ds))).set (spI (A3 (wV V (x5.fmod 40) w os gv) ws ds) x6 x7).toNat (.int (spV y x8))))],2⟩ (.bool true) ⟨[(0,.gl ((gi (E4 (A3 (wV V (x5.fmod 40) w os gv) ws ds))).set (spI (A3 (wV V (x5.fmod 40) w os gv) ws ds) x6 x7).toNat (.int (spV y x8))))],2⟩)
  (ok:∀ w s,okD (stP w s (wV V (x5.fmod 40) w os gv) ds)=true) (wl:w.length < 64) (wl':(rdW w (places w)).length < 64) (wl1:w1.length < 64) (wl2:w2.length < 64) (eh:held (rdW w (places w))=held w) (eh1:held w2=held w1)
  (hc:∀ n cls C,Fun (n+8) 875 [.obj 0,.i ((ds.getLast?.map MdL.cb).getD 0)] (caS cls (wV V (x5.fmod 40) w os gv) ds C w) (.g (.tup res)) (sgS cls (wV V (x5.fmod 40) w os gv) ds s1 C1 w1))
  (hc':∀ n cls C,Fun (n+8) 875 [.obj 0,.i ((ds.getLast?.map MdL.cb).getD 0)] (caS cls (wV V (x5.fmod 40) w os gv) ds C (rdW w (places w))) (.g (.tup res)) (sgS cls (wV V (x5.fmod 40) w os gv) ds s1 C1 w2)) (okr:okD (gP (.tup res))=true):Fr V ds l
section
variable {V:KV} {ds:List MdL} {l:List Int}
theorem fm (x:Int) {b:Int} (h:0 < b) (h':b<=1000000):In4 (x.fmod b):=by obtain ⟨h1,h2⟩:=L6 x h; exact ⟨by lia,by lia⟩
theorem RwL.of {R:List GV} (h:∀ r∈R,IsRw r):∃ W,RwL R W:=by
 induction R with
 | nil=>exact ⟨[],trivial⟩
 | cons r R ih=>
  obtain ⟨W,hW⟩:=ih fun x hx=>h x (.tail _ hx)
  obtain ⟨w,hw⟩:=h r (.head _)
  exact ⟨w::W,hw,hW⟩
theorem wrd_self {w:List (Int × Int)} (h:DOK w):Wrd (H0 w) w.length w:=⟨h,Nat.le_refl _,fun Z=>rfl⟩
theorem wrd_rd {w:List (Int × Int)} (h:DOK w):Wrd (H0 w) w.length (rdW w (places w)):=by
 refine ⟨⟨by rw [rdW_keys]; exact places_nodup h.1,fun p hp=>?_⟩,by rw [rdW,List.length_map]; exact places_len,fun a=>valOf_rdW w a⟩
 obtain ⟨k,hk,rfl⟩:=List.mem_map.mp hp
 exact ⟨places_U h hk,valOf_U h k⟩
theorem spoil_f {b:List Nat} {x y z:Int} (hb:Bytes b) (hl:(E4 b).length<=1000000):0<=spI b x y/\(spI b x y).toNat < (gi (E4 b)).length/\∃ c,(gi (E4 b))[(spI b x y).toNat]?=some (.int c)/\∀ n,Fun (n+4) 1033 [.obj 0,.obj 1] ⟨[(0,.gl ((gi (E4 b)).set (spI b x y).toNat (.int (spV c z))))],2⟩ (.bool true) ⟨[(0,.gl ((gi (E4 b)).set (spI b x y).toNat (.int (spV c z))))],2⟩:=by
 have h8:(E4 b).length=b.length+8:=by rw [E4,List.length_append,ckb_len]
 obtain ⟨p1,p2⟩:=L6 (x*1024+y) (b:=((gi (E4 b)).length:Nat)) (by rw [F5,h8]; lia)
 have p1:0<=spI b x y:=p1
 have p2:spI b x y < ((gi (E4 b)).length:Nat):=p2
 generalize spI b x y=i at p1 p2 ⊢
 rw [F5] at p2
 obtain ⟨j,rfl⟩:=Int.eq_ofNat_of_zero_le p1
 have hj:j < (E4 b).length:=by lia
 have hx:(E4 b)[j]<=255:=(hb.app (ckb_b 8 _)) _ (List.getElem_mem hj)
 obtain ⟨z1,z2⟩:=L6 z (show (0:Int) < 255 by decide)
 obtain ⟨v1,v2⟩:=L6 (((E4 b)[j]:Nat)+1+z.fmod 255) (show (0:Int) < 256 by decide)
 obtain ⟨v,hv⟩:=Int.eq_ofNat_of_zero_le v1
 have hn:v≠(E4 b)[j]:=by
  rw [Int.fmod_eq_emod_of_nonneg _ (show (0:Int)<=256 by decide)] at hv
  lia
 obtain ⟨b',e,f1,f2,f3,f4⟩:=spoil hb (y:=v) (by lia) hj hn
 refine ⟨Int.natCast_nonneg j,by rw [F5]; exact hj,((E4 b)[j]:Nat),gi_at (List.getElem?_eq_getElem hj),fun n=>?_⟩
 have q:(gi (E4 b)).set j (.int (v:Nat))=gi (b'++e):=by rw [<- f1]; exact (List.map_set ..).symm
 rw [spV,hv,Int.toNat_natCast,show ((v:Nat):Int)=Int.ofNat v from rfl] at *
 rw [show (gi (E4 b)).set j (.int (Int.ofNat v))=gi (b'++e) from q]
 exact changed f2 f3 (by rw [<- f1,List.length_set]; exact hl) f4
end
section
variable {V:KV} {ds:List MdL} {l:List Int}
theorem modAt_ok (h:∀ d∈ds,MdP d) (p:Int):∀ c∈modAt ds p,c<=1114111:=by
 induction ds with
 | nil=>exact fun Z h=>nomatch h
 | cons d r ih=>
  rw [modAt]
  by_cases c:d.cb<=p/\p < d.cb+d.rows.length
  ·rw [if_pos c]; exact (h d (.head _)).name.1
  ·rw [if_neg c]; exact ih fun x hx=>h x (.tail _ hx)
theorem res_ok {nm:Int->List Nat} {r:GV} (h:IsRes nm r) (hn:∀ p,∀ c∈nm p,c<=1114111):∃ l,r=.tup l/\okD (gP (.tup l))=true:=by
 rcases h with rfl | rfl | ⟨a,b,p,rfl⟩
 ·exact ⟨_,rfl,(smp_lay rfl).ok (by decide)⟩
 ·exact ⟨_,rfl,(smp_lay rfl).ok (by decide)⟩
 ·refine ⟨_,rfl,Lay.ok (k:=1) (.tuple (C4 (.str (fun c hc=>?_) 0) (C4 (.int _ 0) (C4 (.int _ 0) (C4 (.str (hn p) 0) all_nil))))) (by decide)⟩
  simp only [List.mem_cons,List.not_mem_nil,or_false] at hc; lia
theorem end_row {R pre d:List GV} {x:GV} (e:R=pre++(d++[x])) (hx:x=H6\/x=brRow):∀ (p:Nat) y,R[p]?=some y->y=H6\/y=brRow\/p+1 < R.length:=by
 intro p y h
 have hp:=(List.getElem?_eq_some_iff.mp h).1
 rw [<- List.append_assoc] at e
 have hl:R.length=(pre++d).length+1:=by rw [e,List.length_append,List.length_singleton]
 by_cases c:p=(pre++d).length
 ·rw [e,c,List.getElem?_append_right (Nat.le_refl _),Nat.sub_self] at h
  cases h
  exact hx.elim .inl fun h=>.inr (.inl h)
 ·exact .inr (.inr (by lia))
theorem law_front (P:Pf V ds) (D:L5 l) (hd3:ds.length<=3):Fr V ds l:=by
 obtain ⟨a,ha1,ha2,Dm⟩:=P.dims
 obtain ⟨x1,l1,h1,D1,-,-⟩:=I5 D
 obtain ⟨g1,g2⟩:=L6 x1 (show (0:Int) < 9 by decide)
 obtain ⟨k,hk⟩:=Int.eq_ofNat_of_zero_le g1
 obtain ⟨js,ej,lj⟩:=rangeUp_e 0 k
 have hsz:=Dm.size
 have hsl:=Dm.sl
 have hlw:=P.wl
 have hlim:=P.lim
 have htop:=P.top
 have hrl:=P.rl
 obtain ⟨l2,w,D2,W,hwl,hL⟩:=laps_s (sz:=V.size) (by lia) (by lia) js l1 V.words D1 P.W (by lia)
 obtain ⟨x2,l3,h2,D3,-,-⟩:=I5 D2
 obtain ⟨x3,l4,h3,D4,y3,z3⟩:=I5 D3
 obtain ⟨x4,l5,h4,D5,-,-⟩:=I5 D4
 obtain ⟨x5,l6,h5,D6,-,-⟩:=I5 D5
 obtain ⟨x6,l7,h6,D7,-,-⟩:=I5 D6
 obtain ⟨x7,l8,h7,D8,-,-⟩:=I5 D7
 obtain ⟨x8,l9,h8,D9,-,-⟩:=I5 D8
 obtain ⟨f1,f2⟩:=L6 x5 (show (0:Int) < 40 by decide)
 obtain ⟨ws,hR⟩:=RwL.of P.ra
 have ol:=slc_len (k:=x2.fmod 4) (l:=[[],[120],[200,55]])
 have gl:=slc_len (k:=x4.fmod 4) (l:=[x3 - 500,100000000000000000000,-1000000000])
 have e2:slc true (x2.fmod 4) [GV.str [],.str [120],.str [200,55]]=_:=slc_map (l:=[[],[120],[200,55]]) (f:=GV.str)
 have e4:slc true (x4.fmod 4) [GV.int (x3 - 500),.int 100000000000000000000,.int (-1000000000)]=_:=slc_map (l:=[x3 - 500,100000000000000000000,-1000000000]) (f:=GV.int)
 generalize slc true (x2.fmod 4) [[],[120],[200,55]]=os at ol e2
 generalize slc true (x4.fmod 4) [x3 - 500,100000000000000000000,-1000000000]=gv at gl e4
 have ho:∀ s∈os,Txt s:=fun s hs=>by
  have:=ol.2 s hs
  simp only [List.mem_cons,List.not_mem_nil,or_false] at this
  rcases this with rfl | rfl | rfl
  ·exact ⟨(fun Z h=>nomatch h),by decide⟩
  ·exact ⟨by decide,by decide⟩
  ·exact ⟨by decide,by decide⟩
 have hg:∀ k∈gv,Sm k:=fun s hs=>by
  have:=gl.2 s hs
  simp only [List.mem_cons,List.not_mem_nil,or_false] at this
  rcases this with rfl | rfl | rfl<;>exact ⟨by lia,by lia⟩
 have hdl:=Dm.dl
 have hha:=Dm.ha
 have hhb:=Dm.hb
 have hS:∀ k∈sizes (wV V (x5.fmod 40) w os gv),Sm k:=fun s hs=>by
  simp only [sizes,List.mem_cons,List.not_mem_nil,or_false] at hs
  rcases hs with rfl | rfl | rfl | rfl | rfl | rfl<;>exact ⟨by lia,by lia⟩
 have hB:=body_len (V:=wV V (x5.fmod 40) w os gv) hS P.F W (by show w.length<=20; lia) hR (by show V.rows.length<=16; lia) P.md hd3 ho ol.1 hg gl.1
 have hrows:V.rows.length<=1000000:=by lia
 have hws:ws.length<=1000000:=by rw [<- hR.len]; exact hrows
 have hm:∀ d∈ds,MdOK d:=fun d hd=>⟨Nat.le_trans (P.md d hd).name.2 (by decide),fun s hs=>Nat.le_trans ((P.md d hd).cls s hs).2 (by decide),Nat.le_trans (P.md d hd).len (by decide)⟩
 have hF:=P.F.1
 have hlen:(E4 (A3 (wV V (x5.fmod 40) w os gv) ws ds)).length<=1000000/\(E4 (A3 (wV V (x5.fmod 40) w os gv) ws ds)).length≠0:=by
  rw [E4,List.length_append,ckb_len]; exact ⟨by lia,by lia⟩
 obtain ⟨i0,i1,y,iy,hs⟩:=spoil_f (x:=x6) (y:=x7) (z:=x8) (Bytes.body (wV V (x5.fmod 40) w os gv) ws ds) hlen.1
 obtain ⟨pre,d,x,er,hd4,hx,ep⟩:=P.last
 have erl:V.rows.length=pre.length+(d.length+1):=by rw [er,List.length_append,List.length_append,List.length_singleton]
 obtain ⟨res,s1,C1,φ1,hres,H⟩:=machine_call (V:=wV V (x5.fmod 40) w os gv) (d:=d.length+1) (k:=w.length) (φ:=H0 w) (p:=pre.length) ds hd3 (by show V.sl+16<=V.size; lia) (by show 461<=V.size; lia) P.r0 (by show V.rows.length<=1000; lia) P.ra (end_row er hx)
  (fun d hd=>by obtain ⟨p,e,hp,_⟩:=(P.md d hd).rows; rw [e,List.length_append,List.length_singleton]; lia) (Int.natCast_nonneg _) (by show _=V.rows.length; rw [erl,Int.toNat_natCast]) (Nat.succ_pos _) (by lia)
 obtain ⟨res,rfl,okr⟩:=res_ok hres (fun p=>modAt_ok P.md (p - 1))
 obtain ⟨w1,W1,hc⟩:=H w (wrd_self W)
 obtain ⟨w2,W2,hc'⟩:=H _ (wrd_rd W)
 have b1:=W1.2.1
 have b2:=W2.2.1
 refine .mk x1 x2 x3 x4 x5 x6 x7 x8 l1 l2 l3 l4 l5 l6 l7 l8 l9 js gv ws w w1 w2 os a 16 32 s1 y C1 res h1 (fm x1 (by decide) (by decide)) (by rw [hk]; exact ej) hL h2 (fm x2 (by decide) (by decide)) e2 h3 h4 (fm x4 (by decide) (by decide)) e4 h5 h6 h7 h8
  (fun n cls=>write_image_s ds hd3 hR (by lia) (by show w.length < 64; lia) (by show V.free.length<=1000; lia) hrows hws hm (fun s hs=>Nat.le_trans (ho s hs).2 (by decide)) (Nat.le_trans ol.1 (by decide)) (Nat.le_trans gl.1 (Nat.le_of_ble_eq_true rfl)))
  ⟨⟨hdl,hsl,hsz,hha,hhb⟩,by lia,by decide,by decide,by lia,by show 0<=V.top; lia,by show 0<=V.limit; lia,f1,P.F,places_nodup W.1,by show w.length < 64; lia,hR,hrows,fun s hs=>(ho s hs).1⟩ (by lia) (by rw [F5]; exact hlen.1) (by rw [F5]; have:=hlen.2; lia) i0 i1 iy (by have:=hlen.1; rw [F5] at i1; lia) hs
  (fun w s=>stP_ok P.ra P.md ho) (by lia) (Nat.lt_of_le_of_lt (wrd_rd W).2.1 (by lia)) (by lia) (by lia) (held_ext (wrd_rd W) (wrd_self W)) (held_ext W2 W1) (by rw [ep]; exact hc) (by rw [ep]; exact hc') okr
end
set_option maxHeartbeats 4000000
section
variable {N:KN} {V:KV} {l:List Int} {NS xs:List GV}
theorem law_rest0 (P:Pf V []) (D:L5 l):K4 (B4 tabs (CP 14) (drp 4 b_law)) N (fun v Z=>v=.bool true) (fun Z=>False) (lvs xs) (lw0 NS V l):=by
 cases law_front P D (Nat.le_of_ble_eq_true rfl) with | mk x1 x2 x3 x4 x5 x6 x7 x8 l1 l2 l3 l4 l5 l6 l7 l8 l9 js gv ws w w1 w2 os a b c sf y C1 res h1 r1 e1 hl h2 r2 e2 h3 h4 r4 e4 h5 h6 h7 h8 hw hr hz hL hL0 i0 i1 iy i2 hs ok wl wl' wl1 wl2 eh eh1 hc hc' okr=>
 have hw:=hw 4 975
 have t1:=C9 (n:=13) (cls:=913) (V:=(kvW (wV V (x5.fmod 40) w os gv) (x5.fmod 40) (rdW w (places w)) ⟨List.replicate 16 0,0,0,0,0,0,0⟩)) [] (Nat.le_of_ble_eq_true rfl) wl'
 have t2:=C9 (n:=13) (cls:=975) (V:=(wV V (x5.fmod 40) w os gv)) [] (Nat.le_of_ble_eq_true rfl) wl
 have t3:=C9 (n:=13) (cls:=913) (V:=(kvW (wV V (x5.fmod 40) w os gv) sf w2 C1)) [] (Nat.le_of_ble_eq_true rfl) wl2
 have t4:=C9 (n:=13) (cls:=975) (V:=(kvW (wV V (x5.fmod 40) w os gv) sf w1 C1)) [] (Nat.le_of_ble_eq_true rfl) wl1
 have u1:=hc 5 975 ⟨V.regs,V.h,V.n,V.z,V.c,V.v,V.pc⟩
 have u2:=hc' 5 913 ⟨List.replicate 16 0,0,0,0,0,0,0⟩
 have hrd:=read0 (n:=1) hr hz
 generalize A3 (wV V (x5.fmod 40) w os gv) ws []=B at *
 dsimp only [wV,kvW,rdT0,List.length_cons,List.length_nil,Nat.reduceMul,Nat.reduceAdd,imS,lsS,caS,sgS,ldO,ldL,mdS,msS,mdTs,List.cons_append,List.nil_append,stL] at hw hrd t1 t2 t3 t4 u1 u2
 refine A1 ?_
 refine A0 (h1 13) [0] ?_
 refine I8 r1 ?_
 refine for_it e1 ?_
 refine hl 12 _ xs (.inst 892 [(92,.i V.top),(94,.i V.dl),(98,.i V.sl),(55,.obj 2),(100,.obj 4),(101,.obj 6),(50,.obj 9),(11,.obj 10),(103,.obj 11),(57,.i V.limit),(104,.i V.steps)]) (fun l w=>lw0 NS (kvW V V.steps w ⟨V.regs,V.h,V.n,V.z,V.c,V.v,V.pc⟩) l) _ _ _ ⟨fun Z Z=>rfl,fun Z Z Z=>rfl,fun Z Z Z=>rfl⟩ ?_
 refine A1 ?_
 refine A0 (h2 13) [0] ?_
 refine I8 r2 ?_
 refine A1 ?_
 rw [show slc true (x2.fmod 4) [GV.str [],.str [120],.str ([Int.toNat 200]++[55])]=os.map GV.str from e2]
 refine A0 (h3 13) [0] ?_
 refine A0 (h4 13) [0] ?_
 refine I8 r4 ?_
 refine A1 ?_
 rw [show slc true (x4.fmod 4) [GV.int (x3 - 500),.int (10 ^ Int.toNat 20),.int (-10 ^ Int.toNat 9)]=gv.map GV.int from e4]
 refine A0 (h5 13) [0] ?_
 refine A1 ?_
 refine A0 hw [1,2,3,4,5,6,7,8,9,16,18] ?_
 refine A1 ?_
 refine A0 hrd [19,12] ?_
 refine A1 ?_
 refine A0 t1 [20,21,22,23,24,25,26,27,28,29,30] ?_
 refine A0 t2 [1,2,3,4,5,6,7,8,9,16,18] ?_
 refine at_ne (fun Z=>rfl) (stP_e eh) rfl rfl (ok w (x5.fmod 40)) ?_
 refine A1 ?_
 refine B0 hL ?_
 refine A1 ?_
 refine A0 (h6 13) [0] ?_
 refine A0 (h7 13) [0] ?_
 refine B0 hL (I8 hL0 ?_)
 refine A1 ?_
 refine at_subp i0 iy i2 ?_
 refine A0 (h8 13) [0] ?_
 refine I8 ⟨i0,i1,i2⟩ ?_
 refine A1 ?_
 refine A0 (hs 9) [41,12] ?_
 refine A1 ?_
 refine ld_ne rfl rfl rfl (at_ne (fun Z=>rfl) rfl rfl rfl (okD_ints []) ?_)
 refine A1 ?_
 refine ld_ite rfl rfl rfl (at_ne (fun Z=>rfl) rfl rfl rfl (okD_ints []) ?_)
 refine A1 ?_
 refine A0 u1 [1,2,3,4,5,6,7,8,9,16,18] ?_
 refine A0 u2 [20,21,22,23,24,25,26,27,28,29,30] ?_
 refine at_neT okr ?_
 refine A1 ?_
 refine A0 t3 [20,21,22,23,24,25,45,27,28,29,30] ?_
 refine A0 t4 [1,2,3,4,5,6,44,8,9,16,18] ?_
 refine at_eq (fun Z=>rfl) (stP_e eh1) rfl rfl (ok w1 sf) ?_
 refine at_and ?_
 refine rg_eq (a:=20) (b:=25) (c:=45) (d:=1) (e:=6) (f:=44) rfl rfl rfl rfl rfl rfl rfl rfl rfl rfl ?_
 refine at_eq (fun Z=>rfl) rfl rfl rfl (okD_ints C1.regs) ?_
 rfl
end
section
variable {N:KN} {V:KV} {l:List Int} {NS xs:List GV} {k0 p0 q0:Int} {c0:List (List Nat)} {s0:List GV}
theorem law_rest1 (P:Pf V [⟨[65],k0,p0,q0,c0,s0⟩]) (D:L5 l):K4 (B4 tabs (CP 14) (drp 4 b_law)) N (fun v Z=>v=.bool true) (fun Z=>False) (lvs xs) (lw1 NS V l k0 p0 q0 c0 s0):=by
 cases law_front P D (Nat.le_of_ble_eq_true rfl) with | mk x1 x2 x3 x4 x5 x6 x7 x8 l1 l2 l3 l4 l5 l6 l7 l8 l9 js gv ws w w1 w2 os a b c sf y C1 res h1 r1 e1 hl h2 r2 e2 h3 h4 r4 e4 h5 h6 h7 h8 hw hr hz hL hL0 i0 i1 iy i2 hs ok wl wl' wl1 wl2 eh eh1 hc hc' okr=>
 have hw:=hw 4 975
 have t1:=C9 (n:=13) (cls:=913) (V:=(kvW (wV V (x5.fmod 40) w os gv) (x5.fmod 40) (rdW w (places w)) ⟨List.replicate 16 0,0,0,0,0,0,0⟩)) [⟨[65],k0,p0,q0,c0,s0⟩] (Nat.le_of_ble_eq_true rfl) wl'
 have t2:=C9 (n:=13) (cls:=975) (V:=(wV V (x5.fmod 40) w os gv)) [⟨[65],k0,p0,q0,c0,s0⟩] (Nat.le_of_ble_eq_true rfl) wl
 have t3:=C9 (n:=13) (cls:=913) (V:=(kvW (wV V (x5.fmod 40) w os gv) sf w2 C1)) [⟨[65],k0,p0,q0,c0,s0⟩] (Nat.le_of_ble_eq_true rfl) wl2
 have t4:=C9 (n:=13) (cls:=975) (V:=(kvW (wV V (x5.fmod 40) w os gv) sf w1 C1)) [⟨[65],k0,p0,q0,c0,s0⟩] (Nat.le_of_ble_eq_true rfl) wl1
 have u1:=hc 5 975 ⟨V.regs,V.h,V.n,V.z,V.c,V.v,V.pc⟩
 have u2:=hc' 5 913 ⟨List.replicate 16 0,0,0,0,0,0,0⟩
 have hrd:=read1 (n:=1) hr hz (fun s hs=>((P.md _ (.head _)).cls s hs).1)
 have hfw:=fewer1 (n:=0) hr hz
 have hst:=strange1 (n:=0) hr hz
 generalize A3 (wV V (x5.fmod 40) w os gv) ws [⟨[65],k0,p0,q0,c0,s0⟩]=B at *
 dsimp only [wV,kvW,rdT1,List.length_cons,List.length_nil,Nat.reduceMul,Nat.reduceAdd,imS,lsS,caS,sgS,ldO,ldL,mdS,msS,mdTs,List.cons_append,List.nil_append,stL] at hw hrd t1 t2 t3 t4 u1 u2
 refine A1 ?_
 refine A0 (h1 13) [0] ?_
 refine I8 r1 ?_
 refine for_it e1 ?_
 refine hl 12 _ xs (.inst 892 [(92,.i V.top),(94,.i V.dl),(98,.i V.sl),(55,.obj 2),(100,.obj 4),(101,.obj 6),(50,.obj 9),(11,.obj 10),(103,.obj 11),(57,.i V.limit),(104,.i V.steps)]) (fun l w=>lw1 NS (kvW V V.steps w ⟨V.regs,V.h,V.n,V.z,V.c,V.v,V.pc⟩) l k0 p0 q0 c0 s0) _ _ _ ⟨fun Z Z=>rfl,fun Z Z Z=>rfl,fun Z Z Z=>rfl⟩ ?_
 refine A1 ?_
 refine A0 (h2 13) [0] ?_
 refine I8 r2 ?_
 refine A1 ?_
 rw [show slc true (x2.fmod 4) [GV.str [],.str [120],.str ([Int.toNat 200]++[55])]=os.map GV.str from e2]
 refine A0 (h3 13) [0] ?_
 refine A0 (h4 13) [0] ?_
 refine I8 r4 ?_
 refine A1 ?_
 rw [show slc true (x4.fmod 4) [GV.int (x3 - 500),.int (10 ^ Int.toNat 20),.int (-10 ^ Int.toNat 9)]=gv.map GV.int from e4]
 refine A0 (h5 13) [0] ?_
 refine A1 ?_
 refine A0 hw [1,2,3,4,5,6,7,8,9,29,31,26,27,15,16,25,18,19,20,21,22,23,24] ?_
 refine A1 ?_
 refine A0 hrd [32,12,15,16,25,18,19,20,21,22,23,24] ?_
 refine A1 ?_
 refine A0 t1 [33,34,35,36,37,38,39,40,41,42,43,44,45,15,16,25,18,19,20,21,22,23,24] ?_
 refine A0 t2 [1,2,3,4,5,6,7,8,9,29,31,26,27,15,16,25,18,19,20,21,22,23,24] ?_
 refine at_ne (fun Z=>rfl) (stP_e eh) rfl rfl (ok w (x5.fmod 40)) ?_
 refine A1 ?_
 refine B0 hL ?_
 refine A1 ?_
 refine A0 (h6 13) [0] ?_
 refine A0 (h7 13) [0] ?_
 refine B0 hL (I8 hL0 ?_)
 refine A1 ?_
 refine at_subp i0 iy i2 ?_
 refine A0 (h8 13) [0] ?_
 refine I8 ⟨i0,i1,i2⟩ ?_
 refine A1 ?_
 refine A0 (hs 9) [56,12] ?_
 refine A1 ?_
 refine F6 ?_
 refine A1 ?_
 refine A1 ?_
 refine A0 hfw [32,58] ?_
 refine A1 ?_
 refine A0 obj_s [59] ?_
 refine A1 ?_
 refine A1 ?_
 refine A1 ?_
 refine A0 hst [32,69,59,60,61,62,63,64,65,66,67,68,13,14] ?_
 refine at_O ?_
 refine A1 ?_
 refine A1 ?_
 refine A0 u1 [1,2,3,4,5,6,7,8,9,29,31,26,27,15,16,25,18,19,20,21,22,23,24] ?_
 refine A0 u2 [33,34,35,36,37,38,39,40,41,42,43,44,45,15,16,25,18,19,20,21,22,23,24] ?_
 refine at_neT okr ?_
 refine A1 ?_
 refine A0 t3 [33,34,35,36,37,38,72,40,41,42,43,44,45,15,16,25,18,19,20,21,22,23,24] ?_
 refine A0 t4 [1,2,3,4,5,6,71,8,9,29,31,26,27,15,16,25,18,19,20,21,22,23,24] ?_
 refine at_eq (fun Z=>rfl) (stP_e eh1) rfl rfl (ok w1 sf) ?_
 refine at_and ?_
 refine rg_eq (a:=33) (b:=38) (c:=72) (d:=1) (e:=6) (f:=71) rfl rfl rfl rfl rfl rfl rfl rfl rfl rfl ?_
 refine at_eq (fun Z=>rfl) rfl rfl rfl (okD_ints C1.regs) ?_
 rfl
end
section
variable {N:KN} {V:KV} {l:List Int} {NS xs:List GV} {k0 p0 q0:Int} {c0:List (List Nat)} {s0:List GV} {k1 p1 q1:Int} {c1:List (List Nat)} {s1:List GV}
theorem law_rest2 (P:Pf V [⟨[65],k0,p0,q0,c0,s0⟩,⟨[66,101,101],k1,p1,q1,c1,s1⟩]) (D:L5 l):K4 (B4 tabs (CP 14) (drp 4 b_law)) N (fun v Z=>v=.bool true) (fun Z=>False) (lvs xs) (lw2 NS V l k0 p0 q0 c0 s0 k1 p1 q1 c1 s1):=by
 cases law_front P D (Nat.le_of_ble_eq_true rfl) with | mk x1 x2 x3 x4 x5 x6 x7 x8 l1 l2 l3 l4 l5 l6 l7 l8 l9 js gv ws w w1 w2 os a b c sf y C1 res h1 r1 e1 hl h2 r2 e2 h3 h4 r4 e4 h5 h6 h7 h8 hw hr hz hL hL0 i0 i1 iy i2 hs ok wl wl' wl1 wl2 eh eh1 hc hc' okr=>
 have hw:=hw 4 975
 have t1:=C9 (n:=13) (cls:=913) (V:=(kvW (wV V (x5.fmod 40) w os gv) (x5.fmod 40) (rdW w (places w)) ⟨List.replicate 16 0,0,0,0,0,0,0⟩)) [⟨[65],k0,p0,q0,c0,s0⟩,⟨[66,101,101],k1,p1,q1,c1,s1⟩] (Nat.le_of_ble_eq_true rfl) wl'
 have t2:=C9 (n:=13) (cls:=975) (V:=(wV V (x5.fmod 40) w os gv)) [⟨[65],k0,p0,q0,c0,s0⟩,⟨[66,101,101],k1,p1,q1,c1,s1⟩] (Nat.le_of_ble_eq_true rfl) wl
 have t3:=C9 (n:=13) (cls:=913) (V:=(kvW (wV V (x5.fmod 40) w os gv) sf w2 C1)) [⟨[65],k0,p0,q0,c0,s0⟩,⟨[66,101,101],k1,p1,q1,c1,s1⟩] (Nat.le_of_ble_eq_true rfl) wl2
 have t4:=C9 (n:=13) (cls:=975) (V:=(kvW (wV V (x5.fmod 40) w os gv) sf w1 C1)) [⟨[65],k0,p0,q0,c0,s0⟩,⟨[66,101,101],k1,p1,q1,c1,s1⟩] (Nat.le_of_ble_eq_true rfl) wl1
 have u1:=hc 5 975 ⟨V.regs,V.h,V.n,V.z,V.c,V.v,V.pc⟩
 have u2:=hc' 5 913 ⟨List.replicate 16 0,0,0,0,0,0,0⟩
 have hrd:=read2 (n:=1) hr hz (fun s hs=>((P.md _ (.head _)).cls s hs).1) (fun s hs=>((P.md _ (.tail _ (.head _))).cls s hs).1)
 have hfw:=fewer2 (n:=0) hr hz (fun s hs=>((P.md _ (.head _)).cls s hs).1)
 have hst:=strange2 (n:=0) hr hz
 generalize A3 (wV V (x5.fmod 40) w os gv) ws [⟨[65],k0,p0,q0,c0,s0⟩,⟨[66,101,101],k1,p1,q1,c1,s1⟩]=B at *
 dsimp only [wV,kvW,rdT2,List.length_cons,List.length_nil,Nat.reduceMul,Nat.reduceAdd,imS,lsS,caS,sgS,ldO,ldL,mdS,msS,mdTs,List.cons_append,List.nil_append,stL] at hw hrd t1 t2 t3 t4 u1 u2
 refine A1 ?_
 refine A0 (h1 13) [0] ?_
 refine I8 r1 ?_
 refine for_it e1 ?_
 refine hl 12 _ xs (.inst 892 [(92,.i V.top),(94,.i V.dl),(98,.i V.sl),(55,.obj 2),(100,.obj 4),(101,.obj 6),(50,.obj 9),(11,.obj 10),(103,.obj 11),(57,.i V.limit),(104,.i V.steps)]) (fun l w=>lw2 NS (kvW V V.steps w ⟨V.regs,V.h,V.n,V.z,V.c,V.v,V.pc⟩) l k0 p0 q0 c0 s0 k1 p1 q1 c1 s1) _ _ _ ⟨fun Z Z=>rfl,fun Z Z Z=>rfl,fun Z Z Z=>rfl⟩ ?_
 refine A1 ?_
 refine A0 (h2 13) [0] ?_
 refine I8 r2 ?_
 refine A1 ?_
 rw [show slc true (x2.fmod 4) [GV.str [],.str [120],.str ([Int.toNat 200]++[55])]=os.map GV.str from e2]
 refine A0 (h3 13) [0] ?_
 refine A0 (h4 13) [0] ?_
 refine I8 r4 ?_
 refine A1 ?_
 rw [show slc true (x4.fmod 4) [GV.int (x3 - 500),.int (10 ^ Int.toNat 20),.int (-10 ^ Int.toNat 9)]=gv.map GV.int from e4]
 refine A0 (h5 13) [0] ?_
 refine A1 ?_
 refine A0 hw [1,2,3,4,5,6,7,8,9,42,44,26,27,15,16,25,18,19,20,21,22,23,24,39,40,28,29,38,31,32,33,34,35,36,37] ?_
 refine A1 ?_
 refine A0 hrd [45,12,15,16,25,18,19,20,21,22,23,24,28,29,38,31,32,33,34,35,36,37] ?_
 refine A1 ?_
 refine A0 t1 [46,47,48,49,50,51,52,53,54,55,56,57,58,15,16,25,18,19,20,21,22,23,24,59,60,28,29,38,31,32,33,34,35,36,37] ?_
 refine A0 t2 [1,2,3,4,5,6,7,8,9,42,44,26,27,15,16,25,18,19,20,21,22,23,24,39,40,28,29,38,31,32,33,34,35,36,37] ?_
 refine at_ne (fun Z=>rfl) (stP_e eh) rfl rfl (ok w (x5.fmod 40)) ?_
 refine A1 ?_
 refine B0 hL ?_
 refine A1 ?_
 refine A0 (h6 13) [0] ?_
 refine A0 (h7 13) [0] ?_
 refine B0 hL (I8 hL0 ?_)
 refine A1 ?_
 refine at_subp i0 iy i2 ?_
 refine A0 (h8 13) [0] ?_
 refine I8 ⟨i0,i1,i2⟩ ?_
 refine A1 ?_
 refine A0 (hs 9) [71,12] ?_
 refine A1 ?_
 refine F6 ?_
 refine A1 ?_
 refine A1 ?_
 refine A0 hfw [45,73,15,16,25,18,19,20,21,22,23,24] ?_
 refine A1 ?_
 refine A0 obj_s [74] ?_
 refine A1 ?_
 refine A1 ?_
 refine A1 ?_
 refine A0 hst [45,84,74,75,76,77,78,79,80,81,82,83,28,13] ?_
 refine at_O ?_
 refine A1 ?_
 refine A1 ?_
 refine A0 u1 [1,2,3,4,5,6,7,8,9,42,44,26,27,15,16,25,18,19,20,21,22,23,24,39,40,28,29,38,31,32,33,34,35,36,37] ?_
 refine A0 u2 [46,47,48,49,50,51,52,53,54,55,56,57,58,15,16,25,18,19,20,21,22,23,24,59,60,28,29,38,31,32,33,34,35,36,37] ?_
 refine at_neT okr ?_
 refine A1 ?_
 refine A0 t3 [46,47,48,49,50,51,87,53,54,55,56,57,58,15,16,25,18,19,20,21,22,23,24,59,60,28,29,38,31,32,33,34,35,36,37] ?_
 refine A0 t4 [1,2,3,4,5,6,86,8,9,42,44,26,27,15,16,25,18,19,20,21,22,23,24,39,40,28,29,38,31,32,33,34,35,36,37] ?_
 refine at_eq (fun Z=>rfl) (stP_e eh1) rfl rfl (ok w1 sf) ?_
 refine at_and ?_
 refine rg_eq (a:=46) (b:=51) (c:=87) (d:=1) (e:=6) (f:=86) rfl rfl rfl rfl rfl rfl rfl rfl rfl rfl ?_
 refine at_eq (fun Z=>rfl) rfl rfl rfl (okD_ints C1.regs) ?_
 rfl
end
section
variable {N:KN} {V:KV} {l:List Int} {NS xs:List GV} {k0 p0 q0:Int} {c0:List (List Nat)} {s0:List GV} {k1 p1 q1:Int} {c1:List (List Nat)} {s1:List GV} {k2 p2 q2:Int} {c2:List (List Nat)} {s2:List GV}
theorem law_rest3 (P:Pf V [⟨[65],k0,p0,q0,c0,s0⟩,⟨[66,101,101],k1,p1,q1,c1,s1⟩,⟨[67],k2,p2,q2,c2,s2⟩]) (D:L5 l):K4 (B4 tabs (CP 14) (drp 4 b_law)) N (fun v Z=>v=.bool true) (fun Z=>False) (lvs xs) (lw3 NS V l k0 p0 q0 c0 s0 k1 p1 q1 c1 s1 k2 p2 q2 c2 s2):=by
 cases law_front P D (Nat.le_of_ble_eq_true rfl) with | mk x1 x2 x3 x4 x5 x6 x7 x8 l1 l2 l3 l4 l5 l6 l7 l8 l9 js gv ws w w1 w2 os a b c sf y C1 res h1 r1 e1 hl h2 r2 e2 h3 h4 r4 e4 h5 h6 h7 h8 hw hr hz hL hL0 i0 i1 iy i2 hs ok wl wl' wl1 wl2 eh eh1 hc hc' okr=>
 have hw:=hw 4 975
 have t1:=C9 (n:=13) (cls:=913) (V:=(kvW (wV V (x5.fmod 40) w os gv) (x5.fmod 40) (rdW w (places w)) ⟨List.replicate 16 0,0,0,0,0,0,0⟩)) [⟨[65],k0,p0,q0,c0,s0⟩,⟨[66,101,101],k1,p1,q1,c1,s1⟩,⟨[67],k2,p2,q2,c2,s2⟩] (Nat.le_of_ble_eq_true rfl) wl'
 have t2:=C9 (n:=13) (cls:=975) (V:=(wV V (x5.fmod 40) w os gv)) [⟨[65],k0,p0,q0,c0,s0⟩,⟨[66,101,101],k1,p1,q1,c1,s1⟩,⟨[67],k2,p2,q2,c2,s2⟩] (Nat.le_of_ble_eq_true rfl) wl
 have t3:=C9 (n:=13) (cls:=913) (V:=(kvW (wV V (x5.fmod 40) w os gv) sf w2 C1)) [⟨[65],k0,p0,q0,c0,s0⟩,⟨[66,101,101],k1,p1,q1,c1,s1⟩,⟨[67],k2,p2,q2,c2,s2⟩] (Nat.le_of_ble_eq_true rfl) wl2
 have t4:=C9 (n:=13) (cls:=975) (V:=(kvW (wV V (x5.fmod 40) w os gv) sf w1 C1)) [⟨[65],k0,p0,q0,c0,s0⟩,⟨[66,101,101],k1,p1,q1,c1,s1⟩,⟨[67],k2,p2,q2,c2,s2⟩] (Nat.le_of_ble_eq_true rfl) wl1
 have u1:=hc 5 975 ⟨V.regs,V.h,V.n,V.z,V.c,V.v,V.pc⟩
 have u2:=hc' 5 913 ⟨List.replicate 16 0,0,0,0,0,0,0⟩
 have hrd:=read3 (n:=1) hr hz (fun s hs=>((P.md _ (.head _)).cls s hs).1) (fun s hs=>((P.md _ (.tail _ (.head _))).cls s hs).1) (fun s hs=>((P.md _ (.tail _ (.tail _ (.head _)))).cls s hs).1)
 have hfw:=fewer3 (n:=0) hr hz (fun s hs=>((P.md _ (.head _)).cls s hs).1) (fun s hs=>((P.md _ (.tail _ (.head _))).cls s hs).1)
 have hst:=strange3 (n:=0) hr hz
 generalize A3 (wV V (x5.fmod 40) w os gv) ws [⟨[65],k0,p0,q0,c0,s0⟩,⟨[66,101,101],k1,p1,q1,c1,s1⟩,⟨[67],k2,p2,q2,c2,s2⟩]=B at *
 dsimp only [wV,kvW,rdT3,List.length_cons,List.length_nil,Nat.reduceMul,Nat.reduceAdd,imS,lsS,caS,sgS,ldO,ldL,mdS,msS,mdTs,List.cons_append,List.nil_append,stL] at hw hrd t1 t2 t3 t4 u1 u2
 refine A1 ?_
 refine A0 (h1 13) [0] ?_
 refine I8 r1 ?_
 refine for_it e1 ?_
 refine hl 12 _ xs (.inst 892 [(92,.i V.top),(94,.i V.dl),(98,.i V.sl),(55,.obj 2),(100,.obj 4),(101,.obj 6),(50,.obj 9),(11,.obj 10),(103,.obj 11),(57,.i V.limit),(104,.i V.steps)]) (fun l w=>lw3 NS (kvW V V.steps w ⟨V.regs,V.h,V.n,V.z,V.c,V.v,V.pc⟩) l k0 p0 q0 c0 s0 k1 p1 q1 c1 s1 k2 p2 q2 c2 s2) _ _ _ ⟨fun Z Z=>rfl,fun Z Z Z=>rfl,fun Z Z Z=>rfl⟩ ?_
 refine A1 ?_
 refine A0 (h2 13) [0] ?_
 refine I8 r2 ?_
 refine A1 ?_
 rw [show slc true (x2.fmod 4) [GV.str [],.str [120],.str ([Int.toNat 200]++[55])]=os.map GV.str from e2]
 refine A0 (h3 13) [0] ?_
 refine A0 (h4 13) [0] ?_
 refine I8 r4 ?_
 refine A1 ?_
 rw [show slc true (x4.fmod 4) [GV.int (x3 - 500),.int (10 ^ Int.toNat 20),.int (-10 ^ Int.toNat 9)]=gv.map GV.int from e4]
 refine A0 (h5 13) [0] ?_
 refine A1 ?_
 refine A0 hw [1,2,3,4,5,6,7,8,9,55,57,26,27,15,16,25,18,19,20,21,22,23,24,39,40,28,29,38,31,32,33,34,35,36,37,52,53,41,42,51,44,45,46,47,48,49,50] ?_
 refine A1 ?_
 refine A0 hrd [58,12,15,16,25,18,19,20,21,22,23,24,28,29,38,31,32,33,34,35,36,37,41,42,51,44,45,46,47,48,49,50] ?_
 refine A1 ?_
 refine A0 t1 [59,60,61,62,63,64,65,66,67,68,69,70,71,15,16,25,18,19,20,21,22,23,24,72,73,28,29,38,31,32,33,34,35,36,37,74,75,41,42,51,44,45,46,47,48,49,50] ?_
 refine A0 t2 [1,2,3,4,5,6,7,8,9,55,57,26,27,15,16,25,18,19,20,21,22,23,24,39,40,28,29,38,31,32,33,34,35,36,37,52,53,41,42,51,44,45,46,47,48,49,50] ?_
 refine at_ne (fun Z=>rfl) (stP_e eh) rfl rfl (ok w (x5.fmod 40)) ?_
 refine A1 ?_
 refine B0 hL ?_
 refine A1 ?_
 refine A0 (h6 13) [0] ?_
 refine A0 (h7 13) [0] ?_
 refine B0 hL (I8 hL0 ?_)
 refine A1 ?_
 refine at_subp i0 iy i2 ?_
 refine A0 (h8 13) [0] ?_
 refine I8 ⟨i0,i1,i2⟩ ?_
 refine A1 ?_
 refine A0 (hs 9) [86,12] ?_
 refine A1 ?_
 refine F6 ?_
 refine A1 ?_
 refine A1 ?_
 refine A0 hfw [58,88,15,16,25,18,19,20,21,22,23,24,28,29,38,31,32,33,34,35,36,37] ?_
 refine A1 ?_
 refine A0 obj_s [89] ?_
 refine A1 ?_
 refine A1 ?_
 refine A1 ?_
 refine A0 hst [58,99,89,90,91,92,93,94,95,96,97,98,28,41] ?_
 refine at_O ?_
 refine A1 ?_
 refine A1 ?_
 refine A0 u1 [1,2,3,4,5,6,7,8,9,55,57,26,27,15,16,25,18,19,20,21,22,23,24,39,40,28,29,38,31,32,33,34,35,36,37,52,53,41,42,51,44,45,46,47,48,49,50] ?_
 refine A0 u2 [59,60,61,62,63,64,65,66,67,68,69,70,71,15,16,25,18,19,20,21,22,23,24,72,73,28,29,38,31,32,33,34,35,36,37,74,75,41,42,51,44,45,46,47,48,49,50] ?_
 refine at_neT okr ?_
 refine A1 ?_
 refine A0 t3 [59,60,61,62,63,64,102,66,67,68,69,70,71,15,16,25,18,19,20,21,22,23,24,72,73,28,29,38,31,32,33,34,35,36,37,74,75,41,42,51,44,45,46,47,48,49,50] ?_
 refine A0 t4 [1,2,3,4,5,6,101,8,9,55,57,26,27,15,16,25,18,19,20,21,22,23,24,39,40,28,29,38,31,32,33,34,35,36,37,52,53,41,42,51,44,45,46,47,48,49,50] ?_
 refine at_eq (fun Z=>rfl) (stP_e eh1) rfl rfl (ok w1 sf) ?_
 refine at_and ?_
 refine rg_eq (a:=59) (b:=64) (c:=102) (d:=1) (e:=6) (f:=101) rfl rfl rfl rfl rfl rfl rfl rfl rfl rfl ?_
 refine at_eq (fun Z=>rfl) rfl rfl rfl (okD_ints C1.regs) ?_
 rfl
end
set_option maxHeartbeats 4000000
section
variable {V:KV} {ds ds':List MdL}
theorem Pf.next {t x:Int} {rs:List GV} {nm:List Nat} {cl:List (List Nat)} (P:Pf V ds) (hl:ds'.length=ds.length) (hm:∀ d∈ds',MdP d) (hn:Txt nm) (h1:V.top<=t) (h2:t<=V.top+75) (x0:0<=x) (x1:x < 1024) (R:RowsOK rs) (hc:∀ s∈cl,Txt s) (hcl:cl.length<=3) (h3:ds.length<=2) :
  Pf (upV V t rs) (ds'++[⟨nm,3+x*1000000000,V.rows.length,V.top,cl,rs⟩]):=by
 have hr:=P.rl
 have ht:=P.top
 obtain ⟨p,e,hp,hq⟩:=R
 have lr:rs.length=p.length+1:=by rw [e,List.length_append,List.length_singleton]
 have ld:(ds'++[(⟨nm,3+x*1000000000,V.rows.length,V.top,cl,rs⟩:MdL)]).length=ds.length+1:=by rw [List.length_append,List.length_singleton,hl]
 obtain ⟨a,a1,a2,D⟩:=P.dims
 refine ⟨⟨a,a1,a2,D.dl,D.sl,D.size,D.ha,D.hb⟩,P.F,P.W,P.wl,P.lim,?_,?_,?_,fun r hr=>?_,fun d hd=>?_,V.rows,p,brRow,congrArg (V.rows++·) e,hp,.inr rfl,?_⟩
 ·rw [ld]; exact ⟨Int.le_trans ht.1 h1,by show t<=_; lia⟩
 ·rw [ld]; show (V.rows++rs).length<=_; rw [List.length_append]; lia
 ·have h0:=P.r0
  show (V.rows++rs)[0]?=_
  rw [List.getElem?_append_left (List.getElem?_eq_some_iff.mp h0).1]; exact h0
 ·rcases List.mem_append.mp (show r∈V.rows++rs from hr) with h | h
  ·exact P.ra r h
  ·rw [e] at h
   rcases List.mem_append.mp h with h | h
   ·exact hq r h
   ·rw [List.mem_singleton.mp h]; exact ⟨_,.br⟩
 ·rcases List.mem_append.mp hd with h | h
  ·exact hm d h
  ·rw [List.mem_singleton.mp h]
   exact ⟨hn,⟨by show 0<=3+_; lia,by show 3+_<=(2000000000000:Int); lia⟩,⟨by show (0:Int)<=(V.rows.length:Nat); lia,by show ((V.rows.length:Nat):Int)<=1000; lia⟩,⟨by show 0<=V.top; lia,by show V.top<=1000; lia⟩,hc,hcl,p,e,hp,hq⟩
 ·rw [List.getLast?_concat]; rfl
theorem MdP.add {nm:List Nat} {k p q:Int} {c:List (List Nat)} {s:List GV} {o:Bool} {x:List Nat} (P:MdP ⟨nm,k,p,q,c,s⟩) (hx:Txt x) (hc:c.length<=2):MdP ⟨nm,k,p,q,cond o (c++[x]) c,s⟩:=by
 refine ⟨P.name,P.key,P.cb,P.db,fun y hy=>?_,?_,P.rows⟩
 ·cases o with
  | false=>exact P.cls y hy
  | true=>
   rcases List.mem_append.mp hy with h | h
   ·exact P.cls y h
   ·rw [List.mem_singleton.mp h]; exact hx
 ·cases o with
  | false=>exact Nat.le_succ_of_le hc
  | true=>show (c++[x]).length<=3; rw [List.length_append,List.length_singleton]; lia
theorem c_len {c:List (List Nat)} {o:Bool} {x:List Nat} {n:Nat} (hc:c.length<=n):(cond o (c++[x]) c).length<=n+1:=by
 cases o with
 | false=>exact Nat.le_succ_of_le hc
 | true=>show (c++[x]).length<=n+1; rw [List.length_append,List.length_singleton]; lia
theorem md1 {d:MdL} (h:MdP d):∀ x∈[d],MdP x:=fun x hx=>by rw [List.mem_singleton.mp hx]; exact h
theorem md2 {d e:MdL} (h:MdP d) (h':MdP e):∀ x∈[d,e],MdP x:=fun x hx=>(List.mem_cons.mp hx).elim (fun q=>by rw [q]; exact h) (md1 h' x)
theorem tx0:Txt [65]:=⟨by decide,by decide⟩
theorem tx1:Txt [66,101,101]:=⟨by decide,by decide⟩
theorem tx2:Txt [67]:=⟨by decide,by decide⟩
theorem tx_one {o:Bool}:(∀ s∈cond o [[65]] ([]:List (List Nat)),Txt s)/\(cond o [[65]] ([]:List (List Nat))).length<=1:=by
 cases o with
 | false=>exact ⟨(fun Z h=>nomatch h),Nat.zero_le _⟩
 | true=>exact ⟨fun s h=>by rw [List.mem_singleton.mp h]; exact tx0,Nat.le_refl _⟩
theorem mach_s {k L:Int} (h0:0<=k) (h1:k < 9) (h2:0<=L) (h3:L < 60):∃ V,Pf V []/\∀ n,Fun (n+4) 826 [.obj 0,.i (64+16*k),.i 256,.i (60+L),.i 512] ⟨[(0,.inst 892 [])],1⟩ .no ⟨(8,.gl [])::maL V [],11⟩:=by
 obtain ⟨w,fr,h,W,F,hl⟩:=machine_init_s (a:=4+k) (b:=16) (c:=32) (by lia) (by decide) (by decide) (by lia)
 refine ⟨freshV (4+k) 16 32 (60+L) w fr,⟨⟨4+k,by lia,by lia,rfl,rfl,rfl,rfl,rfl⟩,F,W,hl,⟨by show 60<=60+L; lia,by show 60+L<=119; lia⟩,⟨Int.le_refl _,Int.le_refl _⟩,Nat.le_refl _,rfl,fun r hr=>?_,(fun Z h=>nomatch h),[],[],H6,rfl,Nat.zero_le _,.inl rfl,rfl⟩,fun n=>?_⟩
 ·rw [List.mem_singleton.mp hr]; exact ⟨_,.trap0⟩
 ·have z:=h n (60+L)
  rw [show (64:Int)+16*k=16*(4+k) by lia]
  exact z
theorem dl_of (P:Pf V ds) (h:ds.length<=2):V.top+80<=V.dl/\0<=V.top/\V.rows.length<=100:=by
 obtain ⟨a,h1,h2,D⟩:=P.dims
 have h3:=D.dl
 have h4:=P.top
 have h5:=P.rl
 exact ⟨by lia,by lia,by lia⟩
end
theorem law_0 {V:KV} {l:List Int} {N:KN} {xs:List GV} (P:Pf V []) (D:L5 l):FI (.lst 14 (.gl [])) 35 false 15 (E8 (B4 tabs (CP 14) fb_law_0) (fun v Z=>v=.bool true) fun Z=>False) (K4 (B4 tabs (CP 14) (drp 4 b_law)) N (fun v Z=>v=.bool true) fun Z=>False) [] (lvs xs) (lw0 [] V l):=by
 exact L7 (law_rest0 P D)
theorem law_1 {V:KV} {l:List Int} {N:KN} {xs:List GV} (P:Pf V []) (D:L5 l):FI (.lst 14 (.gl [.str [65]])) 35 false 15 (E8 (B4 tabs (CP 14) fb_law_0) (fun v Z=>v=.bool true) fun Z=>False) (K4 (B4 tabs (CP 14) (drp 4 b_law)) N (fun v Z=>v=.bool true) fun Z=>False) [.s [65]] (lvs xs) (lw0 [.str [65]] V l):=by
 cases turn_d D (dl_of P (Nat.le_of_ble_eq_true rfl)).1 (dl_of P (Nat.le_of_ble_eq_true rfl)).2.2 with | mk x10 x30 o0 t0 rs0 _ _ _ l0 h1 h2 h3 h4 hA hrl D0 t1 t2 y1 z1 hR=>
 refine B6 (lturn0 h1 h2 h3 h4 hA hrl (n:=10) (And.intro rfl (at_fi (vs1:=lvs xs) rfl ?_)))
 have P0:=P.next (ds':=[]) rfl (fun Z h=>nomatch h) tx0 t1 t2 y1 z1 hR (tx_one (o:=o0.fmod 2==1)).1 (Nat.le_succ_of_le (Nat.le_succ_of_le tx_one.2)) (Nat.le_of_ble_eq_true rfl)
 exact L7 (law_rest1 P0 D0)
theorem law_2 {V:KV} {l:List Int} {N:KN} {xs:List GV} (P:Pf V []) (D:L5 l):FI (.lst 14 (.gl [.str [65],.str [66,101,101]])) 35 false 15 (E8 (B4 tabs (CP 14) fb_law_0) (fun v Z=>v=.bool true) fun Z=>False) (K4 (B4 tabs (CP 14) (drp 4 b_law)) N (fun v Z=>v=.bool true) fun Z=>False) [.s [65],.s [66,101,101]] (lvs xs) (lw0 [.str [65],.str [66,101,101]] V l):=by
 cases turn_d D (dl_of P (Nat.le_of_ble_eq_true rfl)).1 (dl_of P (Nat.le_of_ble_eq_true rfl)).2.2 with | mk x10 x30 o0 t0 rs0 _ _ _ l0 h1 h2 h3 h4 hA hrl D0 t1 t2 y1 z1 hR=>
 refine B6 (lturn0 h1 h2 h3 h4 hA hrl (n:=10) (And.intro rfl (at_fi (vs1:=lvs xs) rfl ?_)))
 have P0:=P.next (ds':=[]) rfl (fun Z h=>nomatch h) tx0 t1 t2 y1 z1 hR (tx_one (o:=o0.fmod 2==1)).1 (Nat.le_succ_of_le (Nat.le_succ_of_le tx_one.2)) (Nat.le_of_ble_eq_true rfl)
 cases turn_d D0 (dl_of P0 (Nat.le_of_ble_eq_true rfl)).1 (dl_of P0 (Nat.le_of_ble_eq_true rfl)).2.2 with | mk x11 x31 o1 t1 rs1 _ _ _ l1 h1 h2 h3 h4 hA hrl D1 t1 t2 y1 z1 hR=>
 refine B6 (lturn1 h1 h2 h3 h4 hA hrl (Nat.le_trans (tx_one (o:=o0.fmod 2==1)).2 (Nat.le_of_ble_eq_true rfl)) (n:=10) (And.intro rfl (at_fi (vs1:=lvs xs) rfl ?_)))
 have P1:=P0.next (ds':=[_]) (by rfl) (md1 ((P0.md _ (.head _)).add (o:=o1.fmod 2==1) tx1 (Nat.le_trans (tx_one (o:=o0.fmod 2==1)).2 (Nat.le_of_ble_eq_true rfl)))) tx1 t1 t2 y1 z1 hR (cl:=[]) (fun Z h=>nomatch h) (Nat.zero_le _) (Nat.le_of_ble_eq_true rfl)
 exact L7 (law_rest2 P1 D1)
theorem law_3 {V:KV} {l:List Int} {N:KN} {xs:List GV} (P:Pf V []) (D:L5 l):FI (.lst 14 (.gl [.str [65],.str [66,101,101],.str [67]])) 35 false 15 (E8 (B4 tabs (CP 14) fb_law_0) (fun v Z=>v=.bool true) fun Z=>False) (K4 (B4 tabs (CP 14) (drp 4 b_law)) N (fun v Z=>v=.bool true) fun Z=>False) [.s [65],.s [66,101,101],.s [67]] (lvs xs) (lw0 [.str [65],.str [66,101,101],.str [67]] V l):=by
 cases turn_d D (dl_of P (Nat.le_of_ble_eq_true rfl)).1 (dl_of P (Nat.le_of_ble_eq_true rfl)).2.2 with | mk x10 x30 o0 t0 rs0 _ _ _ l0 h1 h2 h3 h4 hA hrl D0 t1 t2 y1 z1 hR=>
 refine B6 (lturn0 h1 h2 h3 h4 hA hrl (n:=10) (And.intro rfl (at_fi (vs1:=lvs xs) rfl ?_)))
 have P0:=P.next (ds':=[]) rfl (fun Z h=>nomatch h) tx0 t1 t2 y1 z1 hR (tx_one (o:=o0.fmod 2==1)).1 (Nat.le_succ_of_le (Nat.le_succ_of_le tx_one.2)) (Nat.le_of_ble_eq_true rfl)
 cases turn_d D0 (dl_of P0 (Nat.le_of_ble_eq_true rfl)).1 (dl_of P0 (Nat.le_of_ble_eq_true rfl)).2.2 with | mk x11 x31 o1 t1 rs1 _ _ _ l1 h1 h2 h3 h4 hA hrl D1 t1 t2 y1 z1 hR=>
 refine B6 (lturn1 h1 h2 h3 h4 hA hrl (Nat.le_trans (tx_one (o:=o0.fmod 2==1)).2 (Nat.le_of_ble_eq_true rfl)) (n:=10) (And.intro rfl (at_fi (vs1:=lvs xs) rfl ?_)))
 have P1:=P0.next (ds':=[_]) (by rfl) (md1 ((P0.md _ (.head _)).add (o:=o1.fmod 2==1) tx1 (Nat.le_trans (tx_one (o:=o0.fmod 2==1)).2 (Nat.le_of_ble_eq_true rfl)))) tx1 t1 t2 y1 z1 hR (cl:=[]) (fun Z h=>nomatch h) (Nat.zero_le _) (Nat.le_of_ble_eq_true rfl)
 cases turn_d D1 (dl_of P1 (Nat.le_of_ble_eq_true rfl)).1 (dl_of P1 (Nat.le_of_ble_eq_true rfl)).2.2 with | mk x12 x32 o2 t2 rs2 _ _ _ l2 h1 h2 h3 h4 hA hrl D2 t1 t2 y1 z1 hR=>
 refine B6 (lturn2 h1 h2 h3 h4 hA hrl (Nat.le_trans (c_len (o:=o1.fmod 2==1) (x:=[66,101,101]) (tx_one (o:=o0.fmod 2==1)).2) (Nat.le_of_ble_eq_true rfl)) (n:=10) (And.intro rfl (at_fi (vs1:=lvs xs) rfl ?_)))
 have P2:=P1.next (ds':=[_,_]) (by rfl) (md2 ((P1.md _ (.head _)).add (o:=o2.fmod 2==1) tx2 (Nat.le_trans (c_len (o:=o1.fmod 2==1) (x:=[66,101,101]) (tx_one (o:=o0.fmod 2==1)).2) (Nat.le_of_ble_eq_true rfl))) (P1.md _ (.tail _ (.head _)))) tx2 t1 t2 y1 z1 hR (cl:=[]) (fun Z h=>nomatch h) (Nat.zero_le _) (Nat.le_of_ble_eq_true rfl)
 exact L7 (law_rest3 P2 D2)
theorem law_vc:∀ xs:List Int,xs.length<=63->CP 15 1040 [.frz (xs.map .int)] ⟨[],0⟩ (fun v Z=>v=.bool true) (fun Z=>False):=by
 intro xs hx
 obtain ⟨l0,hrow,D0⟩:=law_row_s xs hx
 obtain ⟨x1,l1,h1,D1,-,-⟩:=I5 D0
 obtain ⟨x2,l2,h2,D2,-,-⟩:=I5 D1
 obtain ⟨x3,l3,h3,D3,-,-⟩:=I5 D2
 obtain ⟨a1,a2⟩:=L6 x1 (show (0:Int) < 9 by decide)
 obtain ⟨b1,b2⟩:=L6 x2 (show (0:Int) < 60 by decide)
 obtain ⟨c1,c2⟩:=L6 x3 (show (0:Int) < 4 by decide)
 obtain ⟨V,P,hM⟩:=mach_s a1 a2 b1 b2
 have r3:=fm x3 (b:=4) (by decide) (by decide)
 refine B7 (n:=14) (F9 rfl rfl ?_)
 refine A0 (hrow 13) [] ?_
 refine A1 ?_
 refine A0 (h1 13) [0] ?_
 refine at_m (a:=16) (by decide) ?_
 refine A0 (h2 13) [0] ?_
 refine A0 (hM 9) [1] ?_
 refine A1 ?_
 refine A1 ?_
 refine J4 ?_
 refine A0 (h3 13) [0] ?_
 refine I8 r3 ?_
 have hk:x3.fmod 4=0\/x3.fmod 4=1\/x3.fmod 4=2\/x3.fmod 4=3:=by lia
 rcases hk with e | e | e | e
 ·rw [e]; exact law_0 P D3
 ·rw [e]; exact law_1 P D3
 ·rw [e]; exact law_2 P D3
 ·rw [e]; exact law_3 P D3
end
end Mine
namespace Mine
theorem all:rw0.Holds:=holds ⟨15,by decide,fun {xs}=>law_vc xs⟩
end Mine

theorem PySem.Challenge.cw_nu0351_01_holds : PySem.Challenge.rw_nu0351_01.Holds :=
  Mine.all
